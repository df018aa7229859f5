/- The program's EquivalenceMap returns what the reference's returns,for all arguments;no conditions. -/
import Derived.Orders
import Derived.Laws.AppendOwn
import Derived.Laws.MakeOwn
import Derived.Great.BuildSlice
import Derived.Laws.Tables
open List renaming replicate→J1,getElem?_append_right→J7,length_append→Ja,append_assoc→Jb,append_nil→Jg,mem_map→Jh,getElem?_eq_some_iff→Jk,map_cons→Jm,mem_cons→Jn,getElem?_map→Jp,length_take→Jr,all_eq_true→Jw,getElem?_append_left→Jx,nil_append→K1,length_replicate→K2,getElem?_replicate→K3,length_cons→K4,ext_getElem?→K9,getElem?_append→Kb,reverse_reverse→Ke,replicate_succ→Km,eq_nil_of_length_eq_zero→Kn,nodup_cons→Kv,set_cons_succ→Kw,mem_append→L5,set_cons_zero→L8,take_succ_cons→La,mem_range→Ld,mem_of_getElem?→Le,cons_append→Lg,flatMap_cons→Lp,contains_eq_mem→Lu,getElem?_drop→H0,drop_eq_getElem_cons→H2,getElem?_cons_succ→Gu,map_nil→Ub,length_set→Ui,flatMap_append→Uj,reverse_nil→Um,getElem?_take_of_lt→Uq,map_take→Qr,reverse_append→Qw,cons→Ja1,take_append_drop→Ja8,take_append→Jag,isEmpty_iff→Jaj,size_toArray→Jao,reverse_cons→Jc4
open Bool renaming and_eq_true→J2,false_eq_true→H7,not_eq_true'→G6,false_and→Jby
open Int renaming toNat_natCast→J6
open Nat renaming zero_add→J8,le_refl→Jf,sub_self→Kc,mul_le_mul→Ku,min_eq_left→Li,le_trans→Lt,succ_mul→Lz,mul_le_mul_right→H1,add_zero→Gt,add_mul→U5,lt_of_lt_of_le→Ja5,le_mul_of_pos_right→Ja6
open Array renaming getElem?_setIfInBounds→Jc,getD_eq_getD_getElem?→K8,length_toList→Kh,getElem?_toList→Kl,getElem?_eq_some_iff→Kr,range→Jb3
open Option renaming isSome_none→Qn,map_none→Ja4
open Prod renaming mk→Qv
open Option renaming some→dJ,none→dK
open Bool renaming true→dL,false→dM
theorem dO{p:Prop}[h:Decidable p](a:¬p):decide p=false:=decide_eq_false a
theorem dP{p:Prop}[h:Decidable p](a:p):decide p=true:=decide_eq_true a
namespace Go.Ab
open Go
inductive T where
 |any
 |lit (v:Value)
 |ro (t:T)
 |same (r:Nat) (p:List Nat)
 |addr (r:Nat) (p:List Nat)
 |sub (r:Nat) (p:List Nat) (k lo hi:Nat)
 |sl (k:Nat) (xs:List T)
 |agg (xs:List T)
 |ptr (t:T)
 |tup (xs:List T)
 deriving Inhabited
abbrev Stb:=Nat→Option Obj
mutual
def T.size:T→Nat
 |.agg xs=>T.sizes xs
 |_=>1
def T.sizes:List T→Nat
 | []=>0
 |x::xs=>x.size+T.sizes xs
end
mutual
def RoC(St:Stb):T→Array Value→Nat→Prop
 |.any,cs,o=> ∃v,cs[o]? =dJ v∧v.oneCell'=dL
 |.lit v,cs,o=>cs[o]? =dJ v∧v.oneCell'=dL
 |.ro _,_,_=>False
 |.sl k xs,cs,o=> ∃a c,cs[o]? =dJ (.slice a xs.length c)∧xs.length≤c∧c≤maxLen∧
   (xs≠[]→ ∃b o' cs' e fr,a=dJ ⟨b,o',dK⟩∧St b=dJ (.cells cs' e fr)∧RoL St xs cs' o' k)
 |.agg xs,cs,o=>RoF St xs cs o
 |.ptr t,cs,o=> ∃b o' cs' e fr,cs[o]? =dJ (.pointer (dJ ⟨b,o',dK⟩))∧St b=dJ (.cells cs' e fr)∧RoC St t cs' o'
 |.same _ _,_,_=>False
 |.addr _ _,_,_=>False
 |.sub _ _ _ _ _,_,_=>False
 |.tup _,_,_=>False
def RoL(St:Stb):List T→Array Value→Nat→Nat→Prop
 | [],_,_,_=>True
 |x::xs,cs,o,k=>RoC St x cs o∧RoL St xs cs (o+k) k
def RoF(St:Stb):List T→Array Value→Nat→Prop
 | [],_,_=>True
 |x::xs,cs,o=>RoC St x cs o∧RoF St xs cs (o+x.size)
end
structure Gh where
 hd:Nat→List Nat→Value
 ad:Nat→List Nat→Addr
 lb:Nat→Nat→Option (Bool×Nat×List Nat)
 ow:Nat→Option (Nat×List Nat)
def yI(w:World)(b o:Nat):Option Value:=w.cell? ⟨b,o,dK⟩
mutual
def Loc(G:Gh)(w:World)(s:Nat):T→List Nat→Nat→Nat→Prop
 |.agg xs,p,b,o=>G.ad s p=⟨b,o,dK⟩∧wS G w s xs p 0 b o
 |.tup _,_,_,_=>False
 |.any,p,b,o|.lit _,p,b,o|.ro _,p,b,o|.same _ _,p,b,o|.addr _ _,p,b,o|.sub _ _ _ _ _,p,b,o|.sl _ _,p,b,o|.ptr _,p,b,o=>
  G.ad s p=⟨b,o,dK⟩∧G.lb b o=dJ (dM,s,p)∧yI w b o=dJ (G.hd s p)
def wS(G:Gh)(w:World)(s:Nat):List T→List Nat→Nat→Nat→Nat→Prop
 | [],_,_,_,_=>True
 |x::xs,p,j,b,o=>Loc G w s x (j::p) b o∧wS G w s xs p (j+1) b (o+x.size)
end
def kS(v:Value)(k lo hi:Nat):Value:=
 match v with
 |.slice a _ c=>.slice (if c=lo then a else a.map (·.add (lo*k))) (hi-lo) (c-lo)
 |v=>v
mutual
def R(St:Stb)(G:Gh)(w:World)(s:Nat):T→List Nat→Prop
 |.any,_=>True
 |.lit v,p=>G.hd s p=v
 |.ro t,p=>RoC St t #[G.hd s p] 0
 |.same r q,p=>G.hd s p=G.hd r q
 |.addr r q,p=>G.hd s p=.pointer (dJ (G.ad r q))
 |.sub r q k lo hi,p=>G.hd s p=kS (G.hd r q) k lo hi
 |.sl k xs,p=>(xs=[]∧ ∃a,G.hd s p=.slice a 0 0)∨ ∃b cap cs e,G.hd s p=.slice (dJ ⟨b,0,dK⟩) xs.length cap∧
   w.heap[b]? =dJ (.cells cs e (0,0))∧xs.length≤cap∧cap≤maxLen∧cap*k≤cs.size∧G.ow b=dJ (s,p)∧
   (∀o,xs.length*k≤o→o<cap*k→G.lb b o=dJ (dL,s,p))∧RL St G w s xs p 0 b 0 k
 |.agg xs,p=>RF St G w s xs p 0
 |.ptr t,p=> ∃b cs e,G.hd s p=.pointer (dJ ⟨b,0,dK⟩)∧w.heap[b]? =dJ (.cells cs e (0,0))∧cs.size=t.size∧G.ow b=dJ (s,p)∧
   Loc G w s t (0::p) b 0∧R St G w s t (0::p)
 |.tup xs,p=>RF St G w s xs p 0
def RL(St:Stb)(G:Gh)(w:World)(s:Nat):List T→List Nat→Nat→Nat→Nat→Nat→Prop
 | [],_,_,_,_,_=>True
 |x::xs,p,i,b,o,k=>(Loc G w s x (i::p) b o∧x.size=k)∧R St G w s x (i::p)∧RL St G w s xs p (i+1) b (o+k) k
def RF(St:Stb)(G:Gh)(w:World)(s:Nat):List T→List Nat→Nat→Prop
 | [],_,_=>True
 |x::xs,p,j=>R St G w s x (j::p)∧RF St G w s xs p (j+1)
end
mutual
def yT(φ:Nat→List Nat→Prop):T→Prop
 |.same r p|.addr r p|.sub r p _ _ _=>φ r p
 |.sl _ xs|.agg xs|.tup xs=>xL φ xs
 |.ptr t=>yT φ t
 |.any|.lit _|.ro _=>True
def xL(φ:Nat→List Nat→Prop):List T→Prop
 | []=>True
 |x::xs=>yT φ x∧xL φ xs
end
mutual
theorem yT.mono{φ ψ:Nat→List Nat→Prop}(h:∀r p,φ r p→ψ r p):(t:T)→yT φ t→yT ψ t
 |.same _ _,ht|.addr _ _,ht|.sub _ _ _ _ _,ht=>h _ _ ht
 |.sl _ xs,ht|.agg xs,ht|.tup xs,ht=>by simp only[yT]at ht ⊢;exact xL.mono h xs ht
 |.ptr t,ht=>by simp only[yT]at ht ⊢;exact yT.mono h t ht
 |.any,_|.lit _,_|.ro _,_=>by simp[yT]
theorem xL.mono{φ ψ:Nat→List Nat→Prop}(h:∀r p,φ r p→ψ r p):(xs:List T)→xL φ xs→xL ψ xs
 | [],_=>trivial
 |x::xs,hx=>⟨yT.mono h x hx.1,xL.mono h xs hx.2⟩
end
mutual
theorem yT.triv{φ:Nat→List Nat→Prop}(h:∀r p,φ r p):(t:T)→yT φ t
 |.same _ _|.addr _ _|.sub _ _ _ _ _=>by simp only[yT];exact h _ _
 |.sl _ xs|.agg xs|.tup xs=>by simp only[yT];exact xL.triv h xs
 |.ptr t=>by simp only[yT];exact yT.triv h t
 |.any|.lit _|.ro _=>by simp only[yT]
theorem xL.triv{φ:Nat→List Nat→Prop}(h:∀r p,φ r p):(xs:List T)→xL φ xs
 | []=>by simp only[xL]
 |x::xs=>by simp only[xL];exact⟨yT.triv h x,xL.triv h xs⟩
end
abbrev zT(t:T):Prop:=yT (fun _ _=>False) t
abbrev xI(xs:List T):Prop:=xL (fun _ _=>False) xs
def Blk(w w':World):Prop:=∀(b:Nat) cs e,w.heap[b]? =dJ (.cells cs e (0,0))→ ∃cs',w'.heap[b]? =dJ (.cells cs' e (0,0))∧cs'.size=cs.size
structure MovesE (G:Gh) (w:World) (G':Gh) (w':World) (s:Nat) (p:List Nat) (s':Nat) (p':List Nat):Prop where
 hd:∀z,G'.hd s' (z++p')=G.hd s (z++p)
 ad:∀z,z≠[]→G'.ad s' (z++p')=G.ad s (z++p)
 lb:∀b o f z,z≠[]→(∃y,G.ow b=dJ (s,y))→G.lb b o=dJ (f,s,z++p)→G'.lb b o=dJ (f,s',z++p')∧yI w' b o=yI w b o
 ow:∀b z,z≠[]→G.ow b=dJ (s,z++p)→G'.ow b=dJ (s',z++p')
 blk:Blk w w'
structure zHy (G:Gh) (w:World) (G':Gh) (w':World) (s:Nat) (p:List Nat) (s':Nat) (p':List Nat):Prop extends MovesE G w G' w' s p s' p' where
 sp:∀b o,(∃y,G.ow b=dJ (s,y))→G.lb b o=dJ (dL,s,p)→G'.lb b o=dJ (dL,s',p')∧yI w' b o=yI w b o
 ow0:∀b,G.ow b=dJ (s,p)→G'.ow b=dJ (s',p')
def kE(G G':Gh)(r:Nat)(p:List Nat):Prop:=G'.hd r p=G.hd r p∧G'.ad r p=G.ad r p
section
variable {St:Stb}{G:Gh}{w:World}{G':Gh}{w':World}{s:Nat}{p:List Nat}{s':Nat}{p':List Nat}
mutual
theorem zDn(hm:MovesE G w G' w' s p s' p'):(t:T)→ ∀(z:List Nat)(b o:Nat),z≠[]→(∃y,G.ow b=dJ (s,y))→Loc G w s t (z++p) b o→Loc G' w' s' t (z++p') b o
 |.agg xs,z,b,o,hz,gY,h=>by
  simp only[Loc]at h ⊢
  exact⟨(hm.ad z hz).trans h.1,zHz hm xs z 0 b o gY h.2⟩
 |.any,z,b,o,hz,gY,h|.lit _,z,b,o,hz,gY,h|.ro _,z,b,o,hz,gY,h|.same _ _,z,b,o,hz,gY,h|.addr _ _,z,b,o,hz,gY,h|.sub _ _ _ _ _,z,b,o,hz,gY,h|.sl _ _,z,b,o,hz,gY,h|.ptr _,z,b,o,hz,gY,h=>by
  simp only[Loc]at h ⊢
  obtain⟨h1,h2,h3⟩:=h;have hl:=hm.lb b o dM z hz gY h2;exact⟨(hm.ad z hz).trans h1,hl.1,by rw[hl.2,h3,hm.hd]⟩
 |.tup _,_,_,_,_,_,h=>by simp only[Loc]at h
theorem zHz(hm:MovesE G w G' w' s p s' p'):(xs:List T)→ ∀(z:List Nat)(j b o:Nat),(∃y,G.ow b=dJ (s,y))→wS G w s xs (z++p) j b o→wS G' w' s' xs (z++p') j b o
 | [],_,_,_,_,_,_=>by simp only[wS]
 |x::xs,z,j,b,o,gY,h=>by
  simp only[wS]at h ⊢
  exact⟨zDn hm x (j::z) b o (by simp) gY h.1,zHz hm xs z (j+1) b _ gY h.2⟩
end
mutual
theorem zDo(hm:MovesE G w G' w' s p s' p'):(t:T)→ ∀(z:List Nat),z≠[]→yT (kE G G') t→R St G w s t (z++p)→R St G' w' s' t (z++p')
 |.any,_,_,_,_=>by simp only[R]
 |.lit _,z,_,_,h=>by simp only[R]at h ⊢;rw[hm.hd];exact h
 |.ro _,z,_,_,h=>by simp only[R]at h ⊢;rw[hm.hd];exact h
 |.same r q,z,_,hk,h=>by simp only[R]at h ⊢;rw[hm.hd,hk.1];exact h
 |.addr r q,z,_,hk,h=>by simp only[R]at h ⊢;rw[hm.hd,hk.2];exact h
 |.sub r q k lo hi,z,_,hk,h=>by simp only[R]at h ⊢;rw[hm.hd,hk.1];exact h
 |.agg xs,z,_,hk,h=>by simp only[R,yT]at h hk ⊢;exact zDp hm xs z 0 hk h
 |.tup xs,z,_,hk,h=>by simp only[R,yT]at h hk ⊢;exact zDp hm xs z 0 hk h
 |.sl k xs,z,hz,hk,h=>by
  simp only[R,yT]at h hk ⊢
  rw[hm.hd];rcases h with h|⟨b,cap,cs,e,h1,h2,h3,h4,h5,h6,h7,h8⟩
  ·grind
  ·obtain⟨cs',fM,gy⟩:=hm.blk b cs e h2
   exact .inr ⟨b,cap,cs',e,h1,fM,h3,h4,by omega,hm.ow b z hz h6,fun o ho ho2=>(hm.lb b o dL z hz ⟨_,h6⟩ (h7 o ho (by omega))).1,zIz hm xs z 0 b 0 k ⟨_,h6⟩ hk h8⟩
 |.ptr t,z,hz,hk,h=>by
  simp only[R,yT]at h hk ⊢
  rw[hm.hd];obtain⟨b,cs,e,h1,h2,h3,h6,h4,h5⟩:=h;obtain⟨cs',fM,gy⟩:=hm.blk b cs e h2;exact⟨b,cs',e,h1,fM,by omega,hm.ow b z hz h6,by grind[zDn],zDo hm t (0::z) (by simp) hk h5⟩
theorem zIz(hm:MovesE G w G' w' s p s' p'):(xs:List T)→ ∀(z:List Nat)(i b o k:Nat),(∃y,G.ow b=dJ (s,y))→xL (kE G G') xs→RL St G w s xs (z++p) i b o k→RL St G' w' s' xs (z++p') i b o k
 | [],_,_,_,_,_,_,_,_=>by simp only[RL]
 |x::xs,z,i,b,o,k,gY,hk,h=>by
  simp only[RL,xL]at h hk ⊢
  exact⟨by grind[zDn],zDo hm x (i::z) (by simp) hk.1 h.2.1,zIz hm xs z (i+1) b _ k gY hk.2 h.2.2⟩
theorem zDp(hm:MovesE G w G' w' s p s' p'):(xs:List T)→ ∀(z:List Nat)(j:Nat),xL (kE G G') xs→RF St G w s xs (z++p) j→RF St G' w' s' xs (z++p') j
 | [],_,_,_,_=>by simp only[RF]
 |x::xs,z,j,hk,h=>by
  simp only[RF,xL]at h hk ⊢
  exact⟨zDo hm x (j::z) (by simp) hk.1 h.1,zDp hm xs z (j+1) hk.2 h.2⟩
end
theorem zAl(hm:zHy G w G' w' s p s' p')(t:T)(hk:yT (kE G G') t)(h:R St G w s t p):R St G' w' s' t p':=by
 have hd0:G'.hd s' p'=G.hd s p:=by simpa using hm.hd []
 cases t with
 |any=>simp only[R]
 |lit _=>simp only[R]at h ⊢;grind
 |ro _=>simp only[R]at h ⊢;grind
 |same r q=>simp only[R]at h ⊢;rw[hd0,hk.1];exact h
 |addr r q=>simp only[R]at h ⊢;rw[hd0,hk.2];exact h
 |sub r q k lo hi=>simp only[R]at h ⊢;rw[hd0,hk.1];exact h
 |agg xs=>simp only[R,yT]at h hk ⊢;simpa using zDp hm.toMovesE xs [] 0 hk (by grind)
 |tup xs=>simp only[R,yT]at h hk ⊢;simpa using zDp hm.toMovesE xs [] 0 hk (by grind)
 |sl k xs=>
  simp only[R,yT]at h hk ⊢
  rw[hd0];rcases h with h|⟨b,cap,cs,e,h1,h2,h3,h4,h5,h6,h7,h8⟩
  ·grind
  ·obtain⟨cs',fM,gy⟩:=hm.blk b cs e h2
   exact .inr ⟨b,cap,cs',e,h1,fM,h3,h4,by omega,hm.ow0 b h6,fun o ho ho2=>(hm.sp b o ⟨_,h6⟩ (h7 o ho (by omega))).1,by simpa using zIz hm.toMovesE xs [] 0 b 0 k ⟨_,h6⟩ hk (by grind)⟩
 |ptr t=>
  simp only[R,yT]at h hk ⊢
  rw[hd0];obtain⟨b,cs,e,h1,h2,h3,h6,h4,h5⟩:=h;obtain⟨cs',fM,gy⟩:=hm.blk b cs e h2;exact⟨b,cs',e,h1,fM,by omega,hm.ow0 b h6,zDn hm.toMovesE t [0] b 0 (by simp) ⟨_,h6⟩ h4,zDo hm.toMovesE t [0] (by simp) hk h5⟩
theorem zPv(hm:zHy G w G' w' s p s' p')(t:T)(z:List Nat)(hk:yT (kE G G') t)(h:R St G w s t (z++p)):R St G' w' s' t (z++p'):=by
 cases z with
 |nil=>grind[zAl]
 |cons i z=>exact zDo hm.toMovesE t (i::z) (by simp) hk h
end
end Go.Ab

namespace Go.Ab
open Go
def T.get:T→List Nat→Option T
 |t,[]=>dJ t
 |.sl _ xs,i::f|.agg xs,i::f|.tup xs,i::f=>match xs[i]? with
  |some x=>x.get f
  |none=>dK
 |.ptr t,i::f=>if i=0 then t.get f else dK
 |.any,_::_|.lit _,_::_|.ro _,_::_|.same _ _,_::_|.addr _ _,_::_|.sub _ _ _ _ _,_::_=>dK
termination_by structural _ f=>f
def T.set:T→List Nat→T→T
 |_,[],u=>u
 |.sl k xs,i::f,u=>match xs[i]? with
  |some x=>.sl k (xs.set i (x.set f u))
  |none=>.sl k xs
 |.agg xs,i::f,u=>match xs[i]? with
  |some x=>.agg (xs.set i (x.set f u))
  |none=>.agg xs
 |.tup xs,i::f,u=>match xs[i]? with
  |some x=>.tup (xs.set i (x.set f u))
  |none=>.tup xs
 |.ptr t,i::f,u=>if i=0 then .ptr (t.set f u)else .ptr t
 |.any,_::_,_=>.any
 |.lit v,_::_,_=>.lit v
 |.ro t,_::_,_=>.ro t
 |.same r q,_::_,_=>.same r q
 |.addr r q,_::_,_=>.addr r q
 |.sub r q k lo hi,_::_,_=>.sub r q k lo hi
termination_by structural _ f _=>f
def T.locd:T→List Nat→Bool
 |_,[]=>dM
 |.sl _ _,_::_|.ptr _,_::_=>dL
 |.agg xs,i::f|.tup xs,i::f=>match xs[i]? with
  |some x=>x.locd f
  |none=>dM
 |.any,_::_|.lit _,_::_|.ro _,_::_|.same _ _,_::_|.addr _ _,_::_|.sub _ _ _ _ _,_::_=>dM
termination_by structural _ f=>f
abbrev rp(f p:List Nat):List Nat:=f.reverse++p
theorem zAV(i:Nat)(f p:List Nat):rp (i::f) p=rp f (i::p):=by simp[rp]
section
variable {St:Stb}{G:Gh}{w:World}{s:Nat}
theorem qT:(xs:List T)→ ∀(p:List Nat)(i0 b o k i:Nat)(x:T),RL St G w s xs p i0 b o k→xs[i]? =dJ x→
  Loc G w s x ((i0+i)::p) b (o+i*k)∧x.size=k∧R St G w s x ((i0+i)::p)
 | [],_,_,_,_,_,_,_,_,h=>by simp at h
 |y::ys,p,i0,b,o,k,i,x,hr,h=>by
  simp only[RL]at hr;cases i with
  |zero=>
   grind
  |succ i=>
   have:=qT ys p (i0+1) b (o+k) k i x hr.2.2 (by grind)
   grind
theorem zAy:(xs:List T)→ ∀(p:List Nat)(j i:Nat)(x:T),RF St G w s xs p j→xs[i]? =dJ x→R St G w s x ((j+i)::p)
 | [],_,_,_,_,_,h=>by simp at h
 |y::ys,p,j,i,x,hr,h=>by
  simp only[RF]at hr;cases i with
  |zero=>grind
  |succ i=>
   have:=zAy ys p (j+1) i x hr.2 (by grind)
   grind
theorem zJq:(xs:List T)→ ∀(p:List Nat)(j b o i:Nat)(x:T),wS G w s xs p j b o→xs[i]? =dJ x→
  ∃o',Loc G w s x ((j+i)::p) b o'∧o≤o'∧o'+x.size≤o+T.sizes xs
 | [],_,_,_,_,_,_,_,h=>by simp at h
 |y::ys,p,j,b,o,i,x,hr,h=>by
  simp only[wS]at hr;cases i with
  |zero=>grind[T.sizes]
  |succ i=>
   obtain⟨o',h1,h2,h3⟩:=zJq ys p (j+1) b (o+y.size) i x hr.2 (by grind)
   grind[T.sizes]
def At(G:Gh)(w:World)(s:Nat)(t:T)(p:List Nat):Prop:=
 ∃b o cs e,Loc G w s t p b o∧w.heap[b]? =dJ (.cells cs e (0,0))∧o+t.size≤cs.size
theorem At.field{xs:List T}{p:List Nat}(h:At G w s (.agg xs) p){i:Nat}{x:T}(hx:xs[i]? =dJ x):At G w s x (i::p):=by obtain⟨b,o,cs,e,hl,hh,hs⟩:=h;simp only[Loc]at hl;obtain⟨o',h1,h2,h3⟩:=zJq xs p 0 b o i x hl.2 hx;simp only[T.size]at hs;exact⟨b,o',cs,e,by grind,hh,by omega⟩
theorem zCc{k:Nat}{xs:List T}{p:List Nat}(h:R St G w s (.sl k xs) p){i:Nat}{x:T}(hx:xs[i]? =dJ x):
  At G w s x (i::p)∧R St G w s x (i::p):=by
 simp only[R]at h;have hi:=(Jk.1 hx).1;rcases h with⟨rfl,_⟩|⟨b,cap,cs,e,h1,h2,h3,h4,h5,h6,h7,h8⟩
 ·simp at hx
 ·obtain⟨a1,a2,a3⟩:=qT xs p 0 b 0 k i x h8 hx
  simp only[J8]at a1 a3;refine⟨⟨b,i*k,cs,e,a1,h2,?_⟩,a3⟩;rw[a2,←Lz];exact Lt (H1 _ (by omega)) h5
theorem zA2{t:T}{p:List Nat}(h:R St G w s (.ptr t) p):At G w s t (0::p)∧R St G w s t (0::p):=by simp only[R]at h;obtain⟨b,cs,e,h1,h2,h3,h6,h4,h5⟩:=h;exact⟨⟨b,0,cs,e,h4,h2,by omega⟩,h5⟩
theorem kT:(f:List Nat)→ ∀(t u:T)(p:List Nat),At G w s t p→R St G w s t p→t.get f=dJ u→At G w s u (rp f p)∧R St G w s u (rp f p)
 | [],t,u,p,ha,h,hg=>by simp[T.get]at hg;grind
 |i::f,t,u,p,ha,h,hg=>by
  rw[zAV];cases t with
  |sl k xs=>
   simp only[T.get]at hg;cases hx:xs[i]? with
   |none=>grind
   |some x=>rw[hx]at hg;exact kT f x u _ (zCc h hx).1 (zCc h hx).2 hg
  |ptr t=>
   simp only[T.get]at hg;split at hg
   ·rename_i hi;subst hi;exact kT f t u _ (zA2 h).1 (zA2 h).2 hg
   ·cases hg
  |agg xs=>
   simp only[T.get]at hg;cases hx:xs[i]? with
   |none=>grind
   |some x=>rw[hx]at hg;exact kT f x u _ (ha.field hx) (by simp only[R]at h;simpa using zAy xs p 0 i x h hx) hg
  |tup xs=>obtain⟨b,o,cs,e,hl,_⟩:=ha;simp only[Loc]at hl
  |_=>grind[T.get]
theorem qN:(f:List Nat)→ ∀(t u:T)(p:List Nat),R St G w s t p→t.get f=dJ u→R St G w s u (rp f p)∧(t.locd f=dL→At G w s u (rp f p))
 | [],t,u,p,h,hg=>by simp[T.get]at hg;subst hg;simpa[rp,T.locd]using h
 |i::f,t,u,p,h,hg=>by
  rw[zAV];cases t with
  |sl k xs=>
   simp only[T.get]at hg;cases hx:xs[i]? with
   |none=>grind
   |some x=>rw[hx]at hg;exact⟨(kT f x u _ (zCc h hx).1 (zCc h hx).2 hg).2,fun _=>(kT f x u _ (zCc h hx).1 (zCc h hx).2 hg).1⟩
  |ptr t=>
   simp only[T.get]at hg;split at hg
   ·rename_i hi;subst hi;exact⟨(kT f t u _ (zA2 h).1 (zA2 h).2 hg).2,fun _=>(kT f t u _ (zA2 h).1 (zA2 h).2 hg).1⟩
   ·cases hg
  |agg xs=>
   simp only[T.get,T.locd]at hg ⊢
   cases hx:xs[i]? with
   |none=>grind
   |some x=>rw[hx]at hg;exact qN f x u _ (by simp only[R]at h;simpa using zAy xs p 0 i x h hx) hg
  |tup xs=>
   simp only[T.get,T.locd]at hg ⊢
   cases hx:xs[i]? with
   |none=>grind
   |some x=>rw[hx]at hg;exact qN f x u _ (by simp only[R]at h;simpa using zAy xs p 0 i x h hx) hg
  |_=>grind[T.get]
end
structure Upd (G:Gh) (w:World) (G':Gh) (w':World) (s:Nat) (tgt:List Nat):Prop where
 hd:∀p,¬tgt<:+p→G'.hd s p=G.hd s p
 ad:∀p,¬tgt<:+p→G'.ad s p=G.ad s p
 lb:∀b o f p,G.lb b o=dJ (f,s,p)→ ¬tgt<:+p→G'.lb b o=dJ (f,s,p)∧yI w' b o=yI w b o
 ow:∀b p,G.ow b=dJ (s,p)→ ¬tgt<:+p→G'.ow b=dJ (s,p)
 blk:Blk w w'
section
variable {St:Stb}{G:Gh}{w:World}{G':Gh}{w':World}{s:Nat}{tgt:List Nat}
theorem Upd.moves(h:Upd G w G' w' s tgt){p:List Nat}(hp:∀z,¬tgt<:+z++p):zHy G w G' w' s p s p where
 hd z:=h.hd _ (hp z)
 ad z _:=h.ad _ (hp z)
 lb b o f z _ _ hl:=h.lb b o f _ hl (hp z)
 ow b z _ hl:=h.ow b _ hl (hp z)
 sp b o _ hl:=h.lb b o dL p hl (hp [])
 ow0 b hl:=h.ow b p hl (hp [])
 blk:=h.blk
mutual
theorem zDq(hm:Upd G w G' w' s tgt):(t:T)→ ∀(p:List Nat)(b o:Nat),(∀z,¬tgt<:+z++p)→Loc G w s t p b o→Loc G' w' s t p b o
 |.agg xs,p,b,o,hz,h=>by
  simp only[Loc]at h ⊢
  exact⟨(hm.ad p (hz [])).trans h.1,zJr hm xs p 0 b o hz h.2⟩
 |.any,p,b,o,hz,h|.lit _,p,b,o,hz,h|.ro _,p,b,o,hz,h|.same _ _,p,b,o,hz,h|.addr _ _,p,b,o,hz,h|.sub _ _ _ _ _,p,b,o,hz,h|.sl _ _,p,b,o,hz,h|.ptr _,p,b,o,hz,h=>by
  simp only[Loc]at h ⊢
  obtain⟨h1,h2,h3⟩:=h;have hl:=hm.lb b o dM p h2 (hz []);exact⟨(hm.ad p (hz [])).trans h1,hl.1,by rw[hl.2,h3,hm.hd p (hz [])]⟩
 |.tup _,_,_,_,_,h=>by simp only[Loc]at h
theorem zJr(hm:Upd G w G' w' s tgt):(xs:List T)→ ∀(p:List Nat)(j b o:Nat),(∀z,¬tgt<:+z++p)→wS G w s xs p j b o→wS G' w' s xs p j b o
 | [],_,_,_,_,_,_=>by simp only[wS]
 |x::xs,p,j,b,o,hz,h=>by
  simp only[wS]at h ⊢
  exact⟨zDq hm x (j::p) b o (fun z=>by have:=hz (z++[j]);grind) h.1,zJr hm xs p (j+1) b _ hz h.2⟩
end
theorem zJs(hm:Upd G w G' w' s tgt)(t u:T)(p:List Nat)(b o:Nat)(ht:∀xs,t≠.agg xs)(hu:∀xs,u≠.agg xs)(br:∀xs,u≠.tup xs)(hz:¬tgt<:+p)(h:Loc G w s t p b o):Loc G' w' s u p b o:=by
 have h3:G.ad s p=⟨b,o,dK⟩∧G.lb b o=dJ (dM,s,p)∧yI w b o=dJ (G.hd s p):=by
  cases t with
  |agg xs=>grind
  |tup xs=>simp only[Loc]at h
  |_=>simpa only[Loc]using h
 obtain⟨h1,h2,h3⟩:=h3;have hl:=hm.lb b o dM p h2 hz;have h4:G'.ad s p=⟨b,o,dK⟩∧G'.lb b o=dJ (dM,s,p)∧yI w' b o=dJ (G'.hd s p):=⟨(hm.ad p hz).trans h1,hl.1,by rw[hl.2,h3,hm.hd p hz]⟩;cases u with
 |agg xs=>grind
 |tup xs=>grind
 |_=>simpa only[Loc]using h4
theorem qU{f p:List Nat}{i i':Nat}(hi:i'≠i)(z:List Nat):¬f.reverse++(i::p)<:+z++(i'::p):=by
 rintro⟨y,hy⟩
 rw[←Jb]at hy;have:=List.append_inj_right' hy rfl
 grind
theorem jD{f p:List Nat}{i:Nat}:¬f.reverse++(i::p)<:+p:=by
 intro h;have:=h.length_le
 grind
theorem zH0:(xs:List T)→ ∀(i:Nat)(x y:T),xs[i]? =dJ x→y.size=x.size→T.sizes (xs.set i y)=T.sizes xs
 | [],_,_,_,h,_=>by simp at h
 |z::zs,i,x,y,h,hs=>by
  cases i with
  |zero=>grind[T.sizes]
  |succ i=>simp only[Kw,T.sizes,zH0 zs i x y (by grind) hs]
theorem zDr:(f:List Nat)→ ∀(t u u0:T),t.get f=dJ u0→u.size=u0.size→(t.set f u).size=t.size
 | [],t,u,u0,h,hs=>by grind[T.get,T.set]
 |i::f,t,u,u0,h,hs=>by
  cases t with
  |sl k xs=>grind[T.set,T.size]
  |tup xs=>grind[T.set,T.size]
  |agg xs=>
   simp only[T.get]at h;cases hx:xs[i]? with
   |none=>grind
   |some x=>
    rw[hx]at h;simp only[T.set,hx,T.size];exact zH0 xs i x _ hx (zDr f x u u0 h hs)
  |ptr t=>grind[T.set,T.size]
  |_=>rfl
theorem zJt(hm:Upd G w G' w' s tgt):(xs:List T)→ ∀(p:List Nat)(j b o i:Nat)(x y:T),wS G w s xs p j b o→xs[i]? =dJ x→y.size=x.size→
  (∀i',i'≠j+i→ ∀z,¬tgt<:+z++(i'::p))→(∀o',Loc G w s x ((j+i)::p) b o'→Loc G' w' s y ((j+i)::p) b o')→wS G' w' s (xs.set i y) p j b o
 | [],_,_,_,_,_,_,_,_,h,_,_,_=>by simp at h
 |z::zs,p,j,b,o,i,x,y,hl,h,hs,hz,hy=>by
  simp only[wS]at hl;cases i with
  |zero=>
   simp at h;subst h;simp only[L8,wS,hs];exact⟨by grind,LocF_upd' hm zs p (j+1) b _ (by grind) hl.2⟩
  |succ i=>
   simp only[Kw,wS];refine⟨by grind[zDq],zJt hm zs p (j+1) b _ i x y hl.2 (by grind) hs (by grind) ?_⟩
   grind
where LocF_upd' (hm:Upd G w G' w' s tgt):(xs:List T)→ ∀(p:List Nat)(j b o:Nat),(∀i',j≤i'→ ∀z,¬tgt<:+z++(i'::p))→wS G w s xs p j b o→wS G' w' s xs p j b o
 | [],_,_,_,_,_,_=>by simp only[wS]
 |x::xs,p,j,b,o,hz,h=>by
  simp only[wS]at h ⊢
  exact⟨zDq hm x (j::p) b o (by grind) h.1,LocF_upd' hm xs p (j+1) b _ (by grind) h.2⟩
theorem zI0:(f:List Nat)→ ∀(t u u0:T)(p:List Nat)(b o:Nat),Upd G w G' w' s (rp f p)→Loc G w s t p b o→t.get f=dJ u0→u.size=u0.size→
  (∀o',Loc G w s u0 (rp f p) b o'→Loc G' w' s u (rp f p) b o')→Loc G' w' s (t.set f u) p b o
 | [],t,u,u0,p,b,o,hm,hl,hg,hs,hu=>by simp[T.get]at hg;subst hg;simpa[T.set,rp]using hu o (by grind)
 |i::f,t,u,u0,p,b,o,hm,hl,hg,hs,hu=>by
  have gB:=hm;rw[zAV]at gB;cases t with
  |sl k xs=>
   have:∃ys,(T.sl k xs).set (i::f) u=.sl k ys:=by simp only[T.set];grind
   obtain⟨ys,hy⟩:=this;rw[hy];exact zJs gB (.sl k xs) (.sl k ys) p b o (by simp) (by simp) (by simp) jD hl
  |ptr t=>
   have:∃ys,(T.ptr t).set (i::f) u=.ptr ys:=by simp only[T.set];grind
   obtain⟨ys,hy⟩:=this;rw[hy];exact zJs gB (.ptr t) (.ptr ys) p b o (by simp) (by simp) (by simp) jD hl
  |agg xs=>
   simp only[T.get]at hg;cases hx:xs[i]? with
   |none=>grind
   |some x=>
    rw[hx]at hg;simp only[T.set,hx];simp only[Loc]at hl ⊢
    refine⟨(gB.ad p jD).trans hl.1,zJt gB xs p 0 b o i x _ hl.2 hx (zDr f x u u0 hg hs) (by grind[qU]) ?_⟩;intro o' ho';simp only[J8]at ho' ⊢
    exact zI0 f x u u0 (i::p) b o' gB ho' hg hs (by grind)
  |tup xs=>simp only[Loc]at hl
  |_=>grind[T.get]
end
end Go.Ab

namespace Go.Ab
open Go
section
variable {St:Stb}{G:Gh}{w:World}{G':Gh}{w':World}{s:Nat}{tgt:List Nat}
theorem zMN(hm:Upd G w G' w' s tgt)(t:T)(p:List Nat)(hz:∀z,¬tgt<:+z++p)(hk:yT (kE G G') t)(h:R St G w s t p):R St G' w' s t p:=by simpa using zPv (hm.moves hz) t [] hk (by simpa using h)
theorem zPw(hm:Upd G w G' w' s tgt):(xs:List T)→ ∀(p:List Nat)(i b o k:Nat),(∀i',i≤i'→ ∀z,¬tgt<:+z++(i'::p))→xL (kE G G') xs→RL St G w s xs p i b o k→RL St G' w' s xs p i b o k
 | [],_,_,_,_,_,_,_,_=>by simp only[RL]
 |x::xs,p,i,b,o,k,hz,hk,h=>by
  simp only[RL,xL]at h hk ⊢
  exact⟨⟨zDq hm x (i::p) b o (hz i (Jf _)) h.1.1,h.1.2⟩,zMN hm x (i::p) (hz i (Jf _)) hk.1 h.2.1,
   zPw hm xs p (i+1) b _ k (fun i' eR=>hz i' (by omega)) hk.2 h.2.2⟩
theorem zPx(hm:Upd G w G' w' s tgt):(xs:List T)→ ∀(p:List Nat)(i0 b o k i:Nat)(x y:T),RL St G w s xs p i0 b o k→xs[i]? =dJ x→y.size=x.size→xL (kE G G') xs→
  (∀i',i'≠i0+i→ ∀z,¬tgt<:+z++(i'::p))→(∀o',Loc G w s x ((i0+i)::p) b o'→Loc G' w' s y ((i0+i)::p) b o')→R St G' w' s y ((i0+i)::p)→
  RL St G' w' s (xs.set i y) p i0 b o k
 | [],_,_,_,_,_,_,_,_,_,h,_,_,_,_,_=>by simp at h
 |z::zs,p,i0,b,o,k,i,x,y,hr,h,hs,hk,hz,hl,hy=>by
  simp only[RL,xL]at hr hk;cases i with
  |zero=>
   simp at h;subst h;simp only[L8,RL];exact⟨⟨by simpa using hl o (by simpa using hr.1.1),by omega⟩,by simpa using hy,zPw hm zs p (i0+1) b _ k (fun i' eR=>hz i' (by omega)) hk.2 hr.2.2⟩
  |succ i=>
   simp only[Kw,RL];rw[show i0+(i+1)=i0+1+i from by omega]at hl hy hz;exact⟨⟨zDq hm z _ b o (hz i0 (by omega)) hr.1.1,hr.1.2⟩,zMN hm z _ (hz i0 (by omega)) hk.1 hr.2.1,zPx hm zs p (i0+1) b _ k i x y hr.2.2 (by simpa using h) hs hk.2 hz hl hy⟩
theorem zPy(hm:Upd G w G' w' s tgt):(xs:List T)→ ∀(p:List Nat)(i:Nat),(∀i',i≤i'→ ∀z,¬tgt<:+z++(i'::p))→xL (kE G G') xs→RF St G w s xs p i→RF St G' w' s xs p i
 | [],_,_,_,_,_=>by simp only[RF]
 |x::xs,p,i,hz,hk,h=>by
  simp only[RF,xL]at h hk ⊢
  exact⟨zMN hm x (i::p) (hz i (Jf _)) hk.1 h.1,zPy hm xs p (i+1) (fun i' eR=>hz i' (by omega)) hk.2 h.2⟩
theorem zLv(hm:Upd G w G' w' s tgt):(xs:List T)→ ∀(p:List Nat)(i0 i:Nat)(x y:T),RF St G w s xs p i0→xs[i]? =dJ x→xL (kE G G') xs→
  (∀i',i'≠i0+i→ ∀z,¬tgt<:+z++(i'::p))→R St G' w' s y ((i0+i)::p)→
  RF St G' w' s (xs.set i y) p i0
 | [],_,_,_,_,_,_,h,_,_,_=>by simp at h
 |z::zs,p,i0,i,x,y,hr,h,hk,hz,hy=>by
  simp only[RF,xL]at hr hk;cases i with
  |zero=>
   simp at h;subst h;simp only[L8,RF];exact⟨by simpa using hy,zPy hm zs p (i0+1) (fun i' eR=>hz i' (by omega)) hk.2 hr.2⟩
  |succ i=>
   simp only[Kw,RF];rw[show i0+(i+1)=i0+1+i from by omega]at hy hz;exact⟨zMN hm z _ (hz i0 (by omega)) hk.1 hr.1,zLv hm zs p (i0+1) i x y hr.2 (by simpa using h) hk.2 hz hy⟩
theorem vU{φ:Nat→List Nat→Prop}:(xs:List T)→xL φ xs→ ∀(i:Nat)(x:T),xs[i]? =dJ x→yT φ x
 | [],_,_,_,h=>by simp at h
 |y::ys,hk,i,x,h=>by
  simp only[xL]at hk;cases i with
  |zero=>simp at h;subst h;exact hk.1
  |succ i=>exact vU ys hk.2 i x (by simpa using h)
theorem zEF:(f:List Nat)→ ∀(t u u0:T)(p:List Nat),Upd G w G' w' s (rp f p)→R St G w s t p→t.get f=dJ u0→u.size=u0.size→yT (kE G G') t→
  (∀b o,Loc G w s u0 (rp f p) b o→Loc G' w' s u (rp f p) b o)→R St G' w' s u (rp f p)→R St G' w' s (t.set f u) p
 | [],t,u,u0,p,hm,hr,hg,hs,hk,hl,hu=>by simpa[T.set,rp]using hu
 |i::f,t,u,u0,p,hm,hr,hg,hs,hk,hl,hu=>by
  have gB:=hm;rw[zAV]at gB hl hu;cases t with
  |sl k xs=>
   simp only[T.get]at hg;cases hx:xs[i]? with
   |none=>simp[hx]at hg
   |some x=>
    rw[hx]at hg;simp only[T.set,hx];simp only[R,yT]at hr hk ⊢
    rcases hr with⟨rfl,_⟩|⟨b,cap,cs,e,h1,h2,h3,h4,h5,h6,h7,h8⟩
    ·simp at hx
    ·obtain⟨cs',fM,gy⟩:=gB.blk b cs e h2
     refine .inr ⟨b,cap,cs',e,by rw[gB.hd p jD,Ui];exact h1,fM,by rw[Ui];exact h3,h4,by omega,gB.ow b p h6 jD,?_,?_⟩
     ·intro o ho ho2
      rw[Ui]at ho;exact(gB.lb b o dL p (h7 o ho (by omega)) jD).1
     ·have bg:=qT xs p 0 b 0 k i x h8 hx
      simp only[J8]at bg;refine zPx gB xs p 0 b 0 k i x _ h8 hx (zDr f x u u0 hg hs) hk (fun i' eR z=>qU (by omega) z) ?_ ?_
      ·intro o' ho'
       simp only[J8]at ho' ⊢
       exact zI0 f x u u0 (i::p) b o' gB ho' hg hs (fun o''=>hl b o'')
      ·simp only[J8]
       exact zEF f x u u0 (i::p) gB bg.2.2 hg hs (vU xs hk i x hx) hl hu
  |ptr t=>
   simp only[T.get]at hg;split at hg
   ·rename_i hi;subst hi
    simp only[T.set,if_true];simp only[R,yT]at hr hk ⊢
    obtain⟨b,cs,e,h1,h2,h3,h6,h4,h5⟩:=hr;obtain⟨cs',fM,gy⟩:=gB.blk b cs e h2;refine⟨b,cs',e,by rw[gB.hd p jD];exact h1,fM,by rw[zDr f t u u0 hg hs];omega,gB.ow b p h6 jD,zI0 f t u u0 (0::p) b 0 gB h4 hg hs (fun o''=>hl b o''),zEF f t u u0 (0::p) gB h5 hg hs hk hl hu⟩
   ·cases hg
  |agg xs=>
   simp only[T.get]at hg;cases hx:xs[i]? with
   |none=>simp[hx]at hg
   |some x=>
    rw[hx]at hg;simp only[T.set,hx];simp only[R,yT]at hr hk ⊢
    refine zLv gB xs p 0 i x _ hr hx hk (fun i' eR z=>qU (by omega) z) ?_;simp only[J8];exact zEF f x u u0 (i::p) gB (by simpa using zAy xs p 0 i x hr hx) hg hs (vU xs hk i x hx) hl hu
  |tup xs=>
   simp only[T.get]at hg;cases hx:xs[i]? with
   |none=>simp[hx]at hg
   |some x=>
    rw[hx]at hg;simp only[T.set,hx];simp only[R,yT]at hr hk ⊢
    refine zLv gB xs p 0 i x _ hr hx hk (fun i' eR z=>qU (by omega) z) ?_;simp only[J8];exact zEF f x u u0 (i::p) gB (by simpa using zAy xs p 0 i x hr hx) hg hs (vU xs hk i x hx) hl hu
  |_=>simp[T.get]at hg
end
end Go.Ab

namespace Go.Ab
open Go
mutual
def vals(G:Gh)(s:Nat):T→List Nat→List Value
 |.agg xs,p=>zY G s xs p 0
 |.any,p|.lit _,p|.ro _,p|.same _ _,p|.addr _ _,p|.sub _ _ _ _ _,p|.sl _ _,p|.ptr _,p|.tup _,p=>[G.hd s p]
def zY(G:Gh)(s:Nat):List T→List Nat→Nat→List Value
 | [],_,_=>[]
 |x::xs,p,j=>vals G s x (j::p)++zY G s xs p (j+1)
end
def tP(G:Gh)(s:Nat)(t:T)(p:List Nat):Value:=
 match t with
 |.agg xs=>.agg (zY G s xs p 0).toArray
 |_=>G.hd s p
def qL(G:Gh)(s:Nat):List T→List Nat→Nat→List Value
 | [],_,_=>[]
 |x::xs,p,j=>tP G s x (j::p)::qL G s xs p (j+1)
def mkV(G:Gh)(s:Nat)(t:T)(p:List Nat):Value:=
 match t with
 |.agg xs=>.agg (zY G s xs p 0).toArray
 |.tup xs=>.tuple (qL G s xs p 0).toArray
 |_=>G.hd s p
mutual
def Top:T→Prop
 |.sl _ xs=>xI xs
 |.ptr t=>zT t
 |.agg xs|.tup xs=>vN xs
 |.any|.lit _|.ro _|.same _ _|.addr _ _|.sub _ _ _ _ _=>True
def vN:List T→Prop
 | []=>True
 |x::xs=>Top x∧vN xs
end
mutual
theorem Top.of_clean:(t:T)→zT t→Top t
 |.sl _ xs,h=>by simpa only[Top,zT,yT]using h
 |.ptr t,h=>by simpa only[Top,zT,yT]using h
 |.agg xs,h|.tup xs,h=>by simp only[Top];exact vN.of_clean xs (by simpa only[zT,yT]using h)
 |.any,_|.lit _,_|.ro _,_|.same _ _,_|.addr _ _,_|.sub _ _ _ _ _,_=>by simp only[Top]
theorem vN.of_clean:(xs:List T)→xI xs→vN xs
 | [],_=>by simp only[vN]
 |x::xs,h=>by simp only[vN];exact⟨Top.of_clean x h.1,vN.of_clean xs h.2⟩
end
abbrev Chg:=List (Nat×Nat)
def Off(chg:Chg)(s:Nat)(p:List Nat):Prop:=∀n,(s,n)∈chg→p.length<n
def zA3(chg:Chg)(r:Nat)(p:List Nat):Bool:=chg.all fun c=>c.1 != r||decide (p.length<c.2)
theorem zOe{chg:Chg}{r:Nat}{p:List Nat}(h:zA3 chg r p=dL):Off chg r p:=by
 intro n hn;have:=Jw.1 h _ hn
 grind
mutual
def T.okB(chg:Chg):T→Bool
 |.same r p|.addr r p|.sub r p _ _ _=>zA3 chg r p
 |.agg xs|.tup xs=>zJu chg xs
 |.any|.lit _|.ro _|.sl _ _|.ptr _=>dL
def zJu(chg:Chg):List T→Bool
 | []=>dL
 |x::xs=>x.okB chg&&zJu chg xs
end
mutual
theorem kF{chg:Chg}:(t:T)→Top t→t.okB chg=dL→yT (Off chg) t
 |.same r p,_,h|.addr r p,_,h|.sub r p _ _ _,_,h=>by simp only[T.okB]at h;simp only[yT];exact zOe h
 |.agg xs,ht,h|.tup xs,ht,h=>by simp only[T.okB,Top]at h ht;simp only[yT];exact zF4 xs ht h
 |.sl _ xs,ht,_=>by simp only[Top]at ht;simp only[yT];grind[xL.mono]
 |.ptr t,ht,_=>by simp only[Top]at ht;simp only[yT];grind[yT.mono]
 |.any,_,_|.lit _,_,_|.ro _,_,_=>by simp only[yT]
theorem zF4{chg:Chg}:(xs:List T)→vN xs→zJu chg xs=dL→xL (Off chg) xs
 | [],_,_=>by simp only[xL]
 |x::xs,ht,h=>by simp only[zJu,vN,J2]at h ht;simp only[xL];exact⟨kF x ht.1 h.1,zF4 xs ht.2 h.2⟩
end
abbrev Env:=Nat→Option T
abbrev Wr:=List (Nat×Option T)
def Wr.find(wr:Wr)(s:Nat):Option (Option T):=
 match wr with
 | []=>dK
 |(k,x)::r=>if k=s then dJ x else Wr.find r s
def Env.app(E:Env)(wr:Wr)(chg:Chg):Env:=fun s=>
 match wr.find s with
 |some x=>x
 |none=>match E s with
  |some t=>if t.okB chg then dJ t else dK
  |none=>dK
structure Ctx where
 St:Stb
 W:Nat→Prop
 w0:World
 N:Nat
def zB0(Γ:Ctx)(w:World)(b:Nat):Prop:=b<w.heap.size∧(Γ.w0.heap.size≤b∨Γ.W b)∧Γ.St b=dK
structure zST (w w':World):Prop where
 blk:Blk w w'
 os:w'.os=w.os
 out:w'.output=w.output
structure Mem (Γ:Ctx) (G:Gh) (w:World):Prop where
 one:∀s p,(G.hd s p).oneCell'=dL
 lb:∀b o l,G.lb b o=dJ l→zB0 Γ w b
 ow:∀b l,G.ow b=dJ l→zB0 Γ w b
 st:∀b x,Γ.St b=dJ x→w.heap[b]? =dJ x
 fr:∀b,b<Γ.w0.heap.size→ ¬Γ.W b→w.heap[b]? =Γ.w0.heap[b]?
 sz:Γ.w0.heap.size≤w.heap.size
 bk:zST Γ.w0 w
theorem Blk.trans{w w' w'':World}(h:Blk w w')(h':Blk w' w''):Blk w w'':=fun b cs e hb=>by
 obtain⟨cs',h1,h2⟩:=h b cs e hb;obtain⟨cs'',h3,h4⟩:=h' b cs' e h1
 grind
theorem zST.trans{w w' w'':World}(h:zST w w')(h':Blk w' w'')(ho:w''.os=w'.os)(hq:w''.output=w'.output):zST w w'':=⟨h.blk.trans h',ho.trans h.os,hq.trans h.out⟩
def Ent(Γ:Ctx)(G:Gh)(w:World)(v:Option Value)(s:Nat)(t:T):Prop:=v=dJ (mkV G s t [])∧R Γ.St G w s t []∧Top t
structure Rep (Γ:Ctx) (E:Env) (G:Gh) (tmps:Array Value) (w:World):Prop where
 size:tmps.size=Γ.N
 ent:∀s t,E s=dJ t→Ent Γ G w tmps[s]? s t
 mem:Mem Γ G w
def Sim(Γ:Ctx)(E:Env)(a:Act)(w:World):Prop:=a.defers=[]∧ ∃G,Rep Γ E G a.tmps w
structure zCH (S S':Stb) (W:Nat→Prop) (n:Nat):Prop where
 le:∀b x,S b=dJ x→S' b=dJ x
 nw:∀b,S b=dK→S' b≠dK→n≤b∨W b
theorem zCH.refl{S:Stb}{W:Nat→Prop}{n:Nat}:zCH S S W n:=⟨fun _ _ h=>h,by grind⟩
theorem zCH.trans{S S' S'':Stb}{W:Nat→Prop}{n:Nat}(h:zCH S S' W n)(h':zCH S' S'' W n):zCH S S'' W n:=
 ⟨fun b x hb=>h'.le b x (h.le b x hb),fun b hb eV=>by
  cases hs:S' b with
  |none=>exact h'.nw b hs eV
  |some x=>exact h.nw b hb (by grind)⟩
abbrev Ctx.at(Γ:Ctx)(S:Stb):Ctx:={ Γ with St:=S }
def qV(Γ:Ctx)(E:Env)(a:Act)(w:World):Prop:=∃S,zCH Γ.St S Γ.W Γ.w0.heap.size∧Sim (Γ.at S) E a w
theorem qV.of{Γ:Ctx}{E:Env}{a:Act}{w:World}(h:Sim Γ E a w):qV Γ E a w:=⟨Γ.St,.refl,h⟩
theorem qV.up{Γ:Ctx}{E:Env}{a:Act}{w:World}{S:Stb}(hS:zCH Γ.St S Γ.W Γ.w0.heap.size)(h:qV (Γ.at S) E a w):qV Γ E a w:=by obtain⟨S',h1,h2⟩:=h;exact⟨S',hS.trans h1,h2⟩
structure qC (chg:Chg) (G:Gh) (w:World) (G':Gh) (w':World):Prop where
 hd:∀s p,Off chg s p→G'.hd s p=G.hd s p
 ad:∀s p,Off chg s p→G'.ad s p=G.ad s p
 lb:∀b o f s p,(∃y,G.ow b=dJ (s,y))→G.lb b o=dJ (f,s,p)→(∀n,(s,n)∉chg)→G'.lb b o=dJ (f,s,p)∧yI w' b o=yI w b o
 ow:∀b s p,G.ow b=dJ (s,p)→(∀n,(s,n)∉chg)→G'.ow b=dJ (s,p)
 blk:Blk w w'
theorem Off.of_not{chg:Chg}{s:Nat}(h:∀n,(s,n)∉chg)(p:List Nat):Off chg s p:=fun n hn=>absurd hn (h n)
section
variable {Γ:Ctx}{G G':Gh}{w w':World}{s:Nat}{chg:Chg}
mutual
theorem zAm{s':Nat}:(t:T)→ ∀(p p':List Nat),(∀z,G'.hd s' (z++p')=G.hd s (z++p))→vals G' s' t p'=vals G s t p
 |.agg xs,p,p',h=>by simp only[vals];exact zDs xs p p' 0 h
 |.any,p,p',h|.lit _,p,p',h|.ro _,p,p',h|.same _ _,p,p',h|.addr _ _,p,p',h|.sub _ _ _ _ _,p,p',h|.sl _ _,p,p',h|.ptr _,p,p',h|.tup _,p,p',h=>by simp only[vals];rw[show G'.hd s' p'=G.hd s p from by simpa using h []]
theorem zDs{s':Nat}:(xs:List T)→ ∀(p p':List Nat)(j:Nat),(∀z,G'.hd s' (z++p')=G.hd s (z++p))→zY G' s' xs p' j=zY G s xs p j
 | [],_,_,_,_=>by rfl
 |x::xs,p,p',j,h=>by simp only[zY];rw[zAm x (j::p) (j::p') (fun z=>by have:=h (z++[j]);grind),zDs xs p p' (j+1) h]
end
theorem zAW{s':Nat}(t:T)(p p':List Nat)(h:∀z,G'.hd s' (z++p')=G.hd s (z++p)):tP G' s' t p'=tP G s t p:=by
 unfold tP;split
 ·grind[zDs]
 ·simpa using h []
theorem zMO{s':Nat}:(xs:List T)→ ∀(p p':List Nat)(j:Nat),(∀z,G'.hd s' (z++p')=G.hd s (z++p))→qL G' s' xs p' j=qL G s xs p j
 | [],_,_,_,_=>by rfl
 |x::xs,p,p',j,h=>by simp only[qL];rw[zAW x (j::p) (j::p') (fun z=>by have:=h (z++[j]);simpa using this),zMO xs p p' (j+1) h]
theorem zF5{s':Nat}(t:T)(p p':List Nat)(h:∀z,G'.hd s' (z++p')=G.hd s (z++p)):mkV G' s' t p'=mkV G s t p:=by
 unfold mkV;split
 ·grind[zDs]
 ·grind[zMO]
 ·simpa using h []
theorem qC.moves(hk:qC chg G w G' w')(hs:∀n,(s,n)∉chg)(p:List Nat):zHy G w G' w' s p s p where
 hd _:=hk.hd _ _ (.of_not hs _)
 ad _ _:=hk.ad _ _ (.of_not hs _)
 lb b o f _ _ gY hl:=hk.lb b o f s _ gY hl hs
 ow b _ _ hl:=hk.ow b s _ hl hs
 sp b o gY hl:=hk.lb b o dL s _ gY hl hs
 ow0 b hl:=hk.ow b s _ hl hs
 blk:=hk.blk
theorem qC.keepR(hk:qC chg G w G' w'){t:T}(h:yT (Off chg) t):yT (kE G G') t:=
 yT.mono (fun r p hr=>⟨hk.hd r p hr,hk.ad r p hr⟩) t h
theorem Ent.keep(hk:qC chg G w G' w')(hs:∀n,(s,n)∉chg){v:Option Value}{t:T}(ht:t.okB chg=dL)(h:Ent Γ G w v s t):Ent Γ G' w' v s t:=by
 obtain⟨h1,h2,h3⟩:=h;refine⟨?_,?_,h3⟩
 ·rw[h1,zF5 t [] [] (fun z=>hk.hd _ _ (.of_not hs _))]
 ·simpa using zPv (hk.moves hs []) t [] (hk.keepR (kF t h3 ht)) (by grind)
end
theorem wX{Γ:Ctx}{E:Env}{G G':Gh}{tmps tmps':Array Value}{w w':World}{wr:Wr}{chg:Chg}(h:Rep Γ E G tmps w)
  (gN:tmps'.size=tmps.size)(hk:qC chg G w G' w')(gw:Mem Γ G' w')
  (gG:∀s,wr.find s=dK→(∀n,(s,n)∉chg)∧tmps'[s]? =tmps[s]?)
  (ep:∀s t,wr.find s=dJ (dJ t)→Ent Γ G' w' tmps'[s]? s t):Rep Γ (E.app wr chg) G' tmps' w' where
 size:=by rw[gN,h.size]
 mem:=gw
 ent s t hs:=by
  unfold Env.app at hs;cases hf:wr.find s with
  |some x=>
   grind
  |none=>
   rw[hf]at hs;simp at hs;cases he:E s with
   |none=>grind
   |some u=>
    simp[he]at hs;obtain⟨gJ,rfl⟩:=hs;rw[(gG s hf).2];exact Ent.keep hk (gG s hf).1 gJ (h.ent s u he)
end Go.Ab

namespace Go.Ab
open Go
mutual
def cpT(s:Nat):T→List Nat→T
 |.lit v,_=>.lit v
 |.ro t,_=>.ro t
 |.same r q,_=>.same r q
 |.addr r q,_=>.addr r q
 |.sub r q k lo hi,_=>.sub r q k lo hi
 |.agg xs,p=>.agg (cpF s xs p 0)
 |.any,p|.sl _ _,p|.ptr _,p|.tup _,p=>.same s p
def cpF(s:Nat):List T→List Nat→Nat→List T
 | [],_,_=>[]
 |x::xs,p,j=>cpT s x (j::p)::cpF s xs p (j+1)
end
mutual
theorem sP(s:Nat):(t:T)→ ∀p,Top (cpT s t p)
 |.agg xs,p=>by simp only[cpT,Top];exact zMP s xs p 0
 |.lit _,_|.ro _,_|.same _ _,_|.addr _ _,_|.sub _ _ _ _ _,_|.any,_|.sl _ _,_|.ptr _,_|.tup _,_=>by simp only[cpT,Top]
theorem zMP(s:Nat):(xs:List T)→ ∀p j,vN (cpF s xs p j)
 | [],_,_=>by simp only[cpF,vN]
 |x::xs,p,j=>by simp only[cpF,vN];exact⟨sP s x _,zMP s xs p _⟩
end
section
variable {St:Stb}{G G':Gh}{w w':World}{s d:Nat}
mutual
theorem zCI(hs:∀p,G'.hd s p=G.hd s p):(t:T)→ ∀(p p':List Nat),(∀z,G'.hd d (z++p')=G.hd s (z++p))→(∀xs,t≠.tup xs)→yT (kE G G') (cpT s t p)→R St G w s t p→R St G' w' d (cpT s t p) p'
 |.lit _,p,p',hd,_,_,h=>by simp only[cpT,R]at h ⊢;rw[show G'.hd d p'=_ from by simpa using hd []];exact h
 |.ro _,p,p',hd,_,_,h=>by simp only[cpT,R]at h ⊢;rw[show G'.hd d p'=_ from by simpa using hd []];exact h
 |.same r q,p,p',hd,_,hk,h=>by simp only[cpT,R,yT]at h hk ⊢;rw[show G'.hd d p'=_ from by simpa using hd [],hk.1];exact h
 |.addr r q,p,p',hd,_,hk,h=>by simp only[cpT,R,yT]at h hk ⊢;rw[show G'.hd d p'=_ from by simpa using hd [],hk.2];exact h
 |.sub r q k lo hi,p,p',hd,_,hk,h=>by simp only[cpT,R,yT]at h hk ⊢;rw[show G'.hd d p'=_ from by simpa using hd [],hk.1];exact h
 |.any,p,p',hd,_,_,_|.sl _ _,p,p',hd,_,_,_|.ptr _,p,p',hd,_,_,_=>by simp only[cpT,R];rw[show G'.hd d p'=_ from by simpa using hd [],hs]
 |.tup xs,_,_,_,h,_,_=>absurd rfl (h xs)
 |.agg xs,p,p',hd,_,hk,h=>by simp only[cpT,R,yT]at h hk ⊢;exact zI1 hs xs p p' 0 hd hk h
theorem zI1(hs:∀p,G'.hd s p=G.hd s p):(xs:List T)→ ∀(p p':List Nat)(j:Nat),(∀z,G'.hd d (z++p')=G.hd s (z++p))→xL (kE G G') (cpF s xs p j)→RF St G w s xs p j→RF St G' w' d (cpF s xs p j) p' j
 | [],_,_,_,_,_,_=>by simp only[cpF,RF]
 |x::xs,p,p',j,hd,hk,h=>by
  simp only[cpF,RF,xL]at h hk ⊢
  refine⟨?_,zI1 hs xs p p' (j+1) hd hk.2 h.2⟩
  by_cases hx:∃ys,x=.tup ys
  ·obtain⟨ys,rfl⟩:=hx
   simp only[cpT,R];rw[show G'.hd d (j::p')=_ from by simpa using hd [j],hs]
  ·exact zCI hs x (j::p) (j::p') (fun z=>by have:=hd (z++[j]);simpa using this) (fun ys e=>hx ⟨ys,e⟩) hk.1 h.1
end
mutual
theorem zOf:(t:T)→ ∀(p p':List Nat),(∀z,G'.hd d (z++p')=G.hd s (z++p))→vals G' d (cpT s t p) p'=vals G s t p
 |.agg xs,p,p',h=>by simp only[cpT,vals];exact zCJ xs p p' 0 h
 |.any,p,p',h|.lit _,p,p',h|.ro _,p,p',h|.same _ _,p,p',h|.addr _ _,p,p',h|.sub _ _ _ _ _,p,p',h|.sl _ _,p,p',h|.ptr _,p,p',h|.tup _,p,p',h=>by simp only[cpT,vals];rw[show G'.hd d p'=G.hd s p from by simpa using h []]
theorem zCJ:(xs:List T)→ ∀(p p':List Nat)(j:Nat),(∀z,G'.hd d (z++p')=G.hd s (z++p))→zY G' d (cpF s xs p j) p' j=zY G s xs p j
 | [],_,_,_,_=>by rfl
 |x::xs,p,p',j,h=>by simp only[cpF,zY];rw[zOf x (j::p) (j::p') (fun z=>by have:=h (z++[j]);grind),zCJ xs p p' (j+1) h]
end
theorem kV(t:T)(p p':List Nat)(ht:∀xs,t≠.tup xs)(h:∀z,G'.hd d (z++p')=G.hd s (z++p)):mkV G' d (cpT s t p) p'=tP G s t p:=by
 cases t with
 |agg xs=>grind[cpT,mkV,tP,zCJ]
 |tup xs=>grind
 |_=>simpa[cpT,mkV,tP]using h []
end
theorem jL(G:Gh)(s:Nat)(t:T)(p:List Nat)(ht:∀xs,t≠.tup xs):mkV G s t p=tP G s t p:=by
 cases t with
 |tup xs=>grind
 |_=>rfl
def Gh.put(G:Gh)(d:Nat)(f:List Nat→Value):Gh:={ G with hd:=fun s z=>if s=d then f z else G.hd s z }
theorem Gh.put_other(G:Gh){d s:Nat}(f:List Nat→Value)(p:List Nat)(h:s≠d):(G.put d f).hd s p=G.hd s p:=by simp[Gh.put,h]
theorem Gh.put_self(G:Gh)(d:Nat)(f:List Nat→Value)(p:List Nat):(G.put d f).hd d p=f p:=by simp[Gh.put]
theorem zVk{d s:Nat}{p:List Nat}(h:Off [(d,0)] s p):s≠d:=by
 rintro rfl
 exact absurd (h 0 (by simp)) (by simp)
theorem Gh.put_keep(G:Gh){w w':World}(hw:w'.heap=w.heap)(d:Nat)(f:List Nat→Value):qC [(d,0)] G w (G.put d f) w' where
 hd s p h:=G.put_other f p (zVk h)
 ad _ _ _:=rfl
 lb b o f' s p _ h _:=⟨h,by grind[yI,World.cell?]⟩
 ow b s p h _:=h
 blk b cs e h:=by grind
theorem Mem.put{Γ:Ctx}{G:Gh}{w w':World}(h:Mem Γ G w)(hw:w'.heap=w.heap)(d:Nat)(f:List Nat→Value)(hf:∀z,(f z).oneCell'=dL)(ho:w'.os=w.os:=by rfl)(hq:w'.output=w.output:=by rfl):Mem Γ (G.put d f) w' where
 one s p:=by unfold Gh.put;dsimp only;split;exact hf p;exact h.one s p
 lb b o l hl:=by have:=h.lb b o l hl;exact⟨by rw[hw];exact this.1,this.2⟩
 ow b l hl:=by have:=h.ow b l hl;exact⟨by rw[hw];exact this.1,this.2⟩
 st b x hx:=by rw[hw];exact h.st b x hx
 fr b h1 h2:=by rw[hw];exact h.fr b h1 h2
 sz:=by rw[hw];exact h.sz
 bk:=h.bk.trans (fun b cs e hb=>by grind) ho hq
theorem uT(d:Nat)(x:Option T)(s:Nat):Wr.find [(d,x)] s=if d=s then dJ x else dK:=by rfl
theorem wR{Γ:Ctx}{E:Env}{G:Gh}{tmps:Array Value}{w w':World}(h:Rep Γ E G tmps w)(hw:w'.heap=w.heap){d:Nat}(hd:d<Γ.N)
  (f:List Nat→Value)(hf:∀z,(f z).oneCell'=dL)(t:T)(v:Value)(hv:v=mkV (G.put d f) d t [])(hr:R Γ.St (G.put d f) w' d t [])(ht:Top t)(ho:w'.os=w.os:=by rfl)(hq:w'.output=w.output:=by rfl):
  Rep Γ (E.app [(d,dJ t)] [(d,0)]) (G.put d f) (tmps.setIfInBounds d v) w':=by
 refine wX h (by simp) (G.put_keep hw d f) (h.mem.put hw d f hf ho hq) ?_ ?_
 ·grind[uT]
 ·intro s t' hs
  rw[uT]at hs;split at hs
  ·rename_i he
   subst he;simp at hs;subst hs;refine⟨?_,hr,ht⟩;rw[Jc];simp[h.size,hd,hv]
  ·cases hs
def xV(P:Program)(Γ:Ctx)(o:Oper)(E E':Env):Prop:=
 ∀(a:Act)(w:World)(K:Act→World→Prop)(Q:Exit→Act→World→Prop),Sim Γ E a w→(∀a' w',qV Γ E' a' w'→K a' w')→o.wp P a w K Q
def opT(E:Env):Operand→Option T
 |.tmp s=>E s
 |.const v=>if v.oneCell' then dJ (.lit v)else dK
 |.func f=>dJ (.lit (.func (.func f) #[] #[]))
 |.global _=>dK
def uJ(x:Operand)(t:T):T:=match x with
 |.tmp s=>cpT s t []
 |_=>t
section
variable {P:Program}{Γ:Ctx}{E E':Env}{o:Oper}{d:Nat}
theorem xT{a:Act}{s:Nat}{v:Value}(h:a.tmps[s]? =dJ v):a.eval (.tmp s)=v:=by simp[Act.eval,K8,h]
theorem xV.value(ho:o.dst=dJ d)
  (h:∀(a:Act)(w:World)(G:Gh),Rep Γ E G a.tmps w→ ∃v w',(execOp a.eval o).run P w=.ok (.value v) w'∧ ∃G',Rep Γ E' G' (a.tmps.setIfInBounds d v) w'):xV P Γ o E E':=by
 intro a w K Q ⟨gQ,G,g9⟩ hK;obtain⟨v,w',gz,G',fa⟩:=h a w G g9;unfold Oper.wp;rw[gz,Oper.upon_value];refine hK _ _ ?_;rw[ho];exact .of ⟨gQ,G',fa⟩
theorem xV.skip(ho:o.dst=dK)
  (h:∀(a:Act)(w:World)(G:Gh),Rep Γ E G a.tmps w→ ∃w',(execOp a.eval o).run P w=.ok .skip w'∧ ∃G',Rep Γ E' G' a.tmps w'):xV P Γ o E E':=by
 intro a w K Q ⟨gQ,G,g9⟩ hK;obtain⟨w',gz,G',fa⟩:=h a w G g9;unfold Oper.wp;rw[gz,Oper.upon_skip];refine hK _ _ ?_;rw[ho];exact .of ⟨gQ,G',fa⟩
theorem opd{G:Gh}{a:Act}{w:World}(g9:Rep Γ E G a.tmps w){x:Operand}{t:T}(hx:opT E x=dJ t)(ht:∀xs,t≠.tup xs):
  ∃f:List Nat→Value,(∀z,(f z).oneCell'=dL)∧(∀d,(∀s,x=.tmp s→s≠d)→T.okB [(d,0)] (uJ x t)=dL→
   a.eval x=mkV (G.put d f) d (uJ x t) []∧R Γ.St (G.put d f) w d (uJ x t) [])∧Top (uJ x t):=by
 cases x with
 |tmp s=>
  obtain⟨h1,h2,h3⟩:=g9.ent s t hx;refine⟨fun z=>G.hd s z,fun z=>g9.mem.one s z,?_,sP s t []⟩;intro d gf gJ;have fP:=gf s rfl;have hk:=G.put_keep (w:=w) (w':=w) rfl d (fun z=>G.hd s z);have hz:∀z,(G.put d (fun z=>G.hd s z)).hd d (z++[])=G.hd s (z++[]):=by grind[Gh.put_self]
  refine⟨?_,?_⟩
  ·grind[xT,uJ,kV,jL]
  ·exact zCI (fun p=>G.put_other _ p fP) t [] [] hz ht (hk.keepR (kF _ (sP s t []) gJ)) h2
 |const v=>
  simp only[opT]at hx;split at hx
  ·rename_i gA
   simp at hx;subst hx;exact⟨fun _=>v,fun _=>gA,fun d _ _=>⟨by simp[Act.eval,uJ,mkV,Gh.put],by simp[uJ,R,Gh.put]⟩,by simp[uJ,Top]⟩
  ·cases hx
 |func f=>
  simp only[opT]at hx;simp at hx;subst hx;exact⟨fun _=>.func (.func f) #[] #[],fun _=>rfl,fun d _ _=>⟨by simp[Act.eval,uJ,mkV,Gh.put],by simp[uJ,R,Gh.put]⟩,by simp[uJ,Top]⟩
 |global g=>cases hx
theorem zMQ(x:Operand)(t:T)(ho:o.op=.move x∨o.op=.assign x)(gj:o.dst=dJ d)(hd:d<Γ.N)(hx:opT E x=dJ t)(ht:∀xs,t≠.tup xs)
  (gf:∀s,x=.tmp s→s≠d)(gJ:T.okB [(d,0)] (uJ x t)=dL):xV P Γ o E (E.app [(d,dJ (uJ x t))] [(d,0)]):=by
 refine xV.value gj fun a w G g9=>?_
 obtain⟨f,hf,h1,h2⟩:=opd g9 hx ht;obtain⟨h3,h4⟩:=h1 d gf gJ;refine⟨a.eval x,w,?_,_,wR g9 rfl hd f hf _ _ h3 h4 h2⟩;rcases ho with ho|ho<;>simp[execOp,ho]
theorem xX{G:Gh}{a:Act}{w:World}(g9:Rep Γ E G a.tmps w){x:Operand}{v:Value}(hx:opT E x=dJ (.lit v)):a.eval x=v∧v.oneCell'=dL:=by
 cases x with
 |tmp s=>
  obtain⟨h1,h2,_⟩:=g9.ent s _ hx;simp only[R]at h2;refine⟨?_,by rw[←h2];exact g9.mem.one s []⟩
  grind[xT,mkV]
 |const u=>
  simp only[opT]at hx;split at hx
  ·simp at hx;subst hx;exact⟨rfl,by assumption⟩
  ·cases hx
 |func f=>simp only[opT]at hx;simp at hx;subst hx;exact⟨rfl,rfl⟩
 |global g=>cases hx
theorem kW(v:Value)(hv:v.oneCell'=dL)(gj:o.dst=dJ d)(hd:d<Γ.N)
  (h:∀(a:Act)(w:World)(G:Gh),Rep Γ E G a.tmps w→(execOp a.eval o).run P w=.ok (.value v) w):xV P Γ o E (E.app [(d,dJ (.lit v))] [(d,0)]):=by
 refine xV.value gj fun a w G g9=>?_
 exact⟨v,w,h a w G g9,_,wR g9 rfl hd (fun _=>v) (fun _=>hv) (.lit v) v (by simp[mkV,Gh.put]) (by simp[R,Gh.put]) (by simp[Top])⟩
def zI2(op:BinOp)(k:IntKind)(a b:Int):Option Value:=
 match op with
 |.add=>dJ (.int k (k.wrap (a+b)))
 |.sub=>dJ (.int k (k.wrap (a-b)))
 |.mul=>dJ (.int k (k.wrap (a*b)))
 |.quo=>if b=0 then dK else dJ (.int k (k.wrap (a.tdiv b)))
 |.rem=>if b=0 then dK else dJ (.int k (a.tmod b))
 |.eql=>dJ (.bool (a==b))
 |.neq=>dJ (.bool (a != b))
 |.lss=>dJ (.bool (decide (a<b)))
 |.leq=>dJ (.bool (decide (a≤b)))
 |.gtr=>dJ (.bool (decide (a> b)))
 |.geq=>dJ (.bool (decide (a≥b)))
 |_=>dK
theorem zPz{op:BinOp}{k:IntKind}{a b:Int}{v:Value}(h:zI2 op k a b=dJ v):v.oneCell'=dL:=by cases op<;>simp[zI2]at h<;>first|(subst h;rfl)|(obtain⟨_,rfl⟩:=h;rfl)
theorem tI(op:BinOp)(xt yt:TypeId)(x y:Operand)(k:IntKind)(m n:Int)(v:Value)(ho:o.op=.binOp op xt x y yt)(gj:o.dst=dJ d)(hd:d<Γ.N)
  (hx:opT E x=dJ (.lit (.int k m)))(hy:opT E y=dJ (.lit (.int k n)))(hv:zI2 op k m n=dJ v):xV P Γ o E (E.app [(d,dJ (.lit v))] [(d,0)]):=by
 refine kW v (zPz hv) gj hd fun a w G g9=>?_
 have h1:=(xX g9 hx).1;have h2:=(xX g9 hy).1;cases op<;>simp[zI2]at hv<;>
  first
   |(subst hv;simp[execOp,ho,h1,h2,eqGuard,binOp,Op.intArith,Op.intCmp];done)
   |(obtain⟨h0,rfl⟩:=hv;simp[execOp,ho,h1,h2,eqGuard,binOp,Op.intDiv,h0])
theorem zVl(xt:TypeId)(x:Operand)(b:Bool)(ho:o.op=.unOp .not xt x)(gj:o.dst=dJ d)(hd:d<Γ.N)
  (hx:opT E x=dJ (.lit (.bool b))):xV P Γ o E (E.app [(d,dJ (.lit (.bool !b)))] [(d,0)]):=by
 refine kW _ rfl gj hd fun a w G g9=>?_
 have h1:=(xX g9 hx).1;simp[execOp,ho,h1,Op.unary]
theorem zVm(xt:TypeId)(x:Operand)(k:IntKind)(n:Int)(ho:o.op=.unOp .neg xt x)(gj:o.dst=dJ d)(hd:d<Γ.N)
  (hx:opT E x=dJ (.lit (.int k n))):xV P Γ o E (E.app [(d,dJ (.lit (.int k (k.wrap (0-n)))))] [(d,0)]):=by
 refine kW _ rfl gj hd fun a w G g9=>?_
 have h1:=(xX g9 hx).1;simp[execOp,ho,h1,Op.unary,Op.intArith]
theorem zSU(src dst:TypeId)(ds:TypeDesc)(x:Operand)(k k':IntKind)(n:Int)(ho:o.op=.convert src dst x)(gj:o.dst=dJ d)(hd:d<Γ.N)
  (hs:P.underlying src=dJ ds)(ht:P.underlying dst=dJ (.int k'))(hx:opT E x=dJ (.lit (.int k n))):
  xV P Γ o E (E.app [(d,dJ (.lit (.int k' (k'.wrap n))))] [(d,0)]):=by
 refine kW _ rfl gj hd fun a w G g9=>?_
 have h1:=(xX g9 hx).1;simp[execOp,ho,h1,convert,run_underlying hs,run_underlying ht,Conv.intToInt]
theorem zSV(c x y:Operand)(b:Bool)(t:T)(ho:o.op=.pick c x y)(gj:o.dst=dJ d)(hd:d<Γ.N)
  (hc:opT E c=dJ (.lit (.bool b)))(hx:opT E (if b then x else y)=dJ t)(ht:∀xs,t≠.tup xs)
  (gf:∀s,(if b then x else y)=.tmp s→s≠d)(gJ:T.okB [(d,0)] (uJ (if b then x else y) t)=dL):xV P Γ o E (E.app [(d,dJ (uJ (if b then x else y) t))] [(d,0)]):=by
 refine xV.value gj fun a w G g9=>?_
 obtain⟨f,hf,h1,h2⟩:=opd g9 hx ht;obtain⟨h3,h4⟩:=h1 d gf gJ;refine⟨a.eval (if b then x else y),w,?_,_,wR g9 rfl hd f hf _ _ h3 h4 h2⟩;have h5:=(xX g9 hc).1;cases b<;>simp[execOp,ho,h5,asBool]
end
end Go.Ab

namespace Go.Ab
open Go
def sV(E:Env):Nat→Nat→List Nat→Option (Nat×List Nat×T)
 |0,_,_=>dK
 |n+1,r,q=>match E r with
  |some t=>match t.get q.reverse with
   |some (.same r' q')=>sV E n r' q'
   |some u=>dJ (r,q,u)
   |none=>dK
  |none=>dK
def uU(E:Env):Operand→Option (Nat×List Nat×T)
 |.tmp s=>sV E 4 s []
 |_=>dK
def T.single:T→Bool
 |.agg _|.tup _=>dM
 |_=>dL
theorem xJ{G:Gh}{s:Nat}{t:T}{p:List Nat}(h:t.single=dL):mkV G s t p=G.hd s p:=by cases t<;>simp[T.single]at h<;>rfl
section
variable {P:Program}{Γ:Ctx}{E:Env}{o:Oper}{d:Nat}
theorem zCd{G:Gh}{a:Act}{w:World}(g9:Rep Γ E G a.tmps w):∀(n s:Nat)(p:List Nat)(r:Nat)(q:List Nat)(u:T),sV E n s p=dJ (r,q,u)→
  R Γ.St G w r u q∧G.hd s p=G.hd r q∧(∃t,E r=dJ t∧t.get q.reverse=dJ u)
 |0,_,_,_,_,_,h=>by grind[sV]
 |n+1,s,p,r,q,u,h=>by
  simp only[sV]at h;split at h
  ·rename_i t ht
   obtain⟨_,h4,_⟩:=g9.ent _ _ ht;split at h
   ·rename_i r' q' hg
    obtain⟨h1,h2,h3⟩:=zCd g9 n r' q' r q u h;have h5:=(qN p.reverse t _ [] h4 hg).1;simp only[rp,Ke,Jg,R]at h5
    grind
   ·rename_i u' hns hg
    simp at h;obtain⟨rfl,rfl,rfl⟩:=h;have h5:=(qN p.reverse t _ [] h4 hg).1
    simp_all
   ·cases h
  ·cases h
theorem qD{G:Gh}{a:Act}{w:World}(g9:Rep Γ E G a.tmps w){x:Operand}{r:Nat}{q:List Nat}{u:T}(h:uU E x=dJ (r,q,u))(hu:u.single=dL):
  R Γ.St G w r u q∧a.eval x=G.hd r q:=by
 cases x with
 |tmp s=>
  obtain⟨h1,h2,_⟩:=zCd g9 4 s [] r q u h;refine⟨h1,?_⟩;rw[←h2];simp only[uU,sV]at h;split at h
  ·rename_i t ht
   obtain⟨h3,_,_⟩:=g9.ent s _ ht;rw[xT h3];simp only[Um,T.get]at h;have:t.single=dL:=by cases t<;>first|rfl|simp_all
   exact xJ this
  ·cases h
 |_=>grind[uU]
theorem zFj{St:Stb}{G:Gh}{w:World}{s:Nat}{k:Nat}{xs:List T}{p:List Nat}(h:R St G w s (.sl k xs) p):∃a c,G.hd s p=.slice a xs.length c:=by
 simp only[R]at h;rcases h with⟨rfl,a,h⟩|⟨b,cap,_,_,h,_⟩
 ·exact⟨a,0,h⟩
 ·exact⟨_,_,h⟩
theorem zCe{St:Stb}{G:Gh}{w:World}{s:Nat}{k:Nat}{xs:List T}{p:List Nat}(h:R St G w s (.ro (.sl k xs)) p):∃a c,G.hd s p=.slice a xs.length c∧xs.length≤c∧c≤maxLen∧
   (xs≠[]→ ∃b o' cs' e fr,a=dJ ⟨b,o',dK⟩∧St b=dJ (.cells cs' e fr)∧RoL St xs cs' o' k):=by
 grind[R,RoC]
def zJv:T→Option Nat
 |.sl _ xs|.ro (.sl _ xs)=>dJ xs.length
 |.lit (.slice _ n _)=>dJ n
 |.lit (.string s)=>dJ s.size
 |_=>dK
def zSW:T→TypeDesc→Bool
 |.lit (.string _),.string=>dL
 |.sl _ _,.slice _|.ro (.sl _ _),.slice _|.lit (.slice _ _ _),.slice _=>dL
 |_,_=>dM
theorem zP0(x:Operand)(t:TypeId)(ds:TypeDesc)(r:Nat)(q:List Nat)(u:T)(n:Nat)(ho:o.op=.call { callee:=.builtin .len,args:=#[x],argTypes:=#[t] })(gj:o.dst=dJ d)(hd:d<Γ.N)
  (ht:P.underlying t=dJ ds)(hx:uU E x=dJ (r,q,u))(hl:zJv u=dJ n)(pL:zSW u ds=dL):
  xV P Γ o E (E.app [(d,dJ (.lit (.int .i64 n)))] [(d,0)]):=by
 refine kW (.int .i64 n) rfl gj hd fun a w G g9=>?_
 have hu:u.single=dL:=by cases u<;>simp[zJv]at hl<;>rfl
 obtain⟨h1,h2⟩:=qD g9 hx hu;have h3:(Builtin.len_ #[t] o.type #[G.hd r q]).run P w=.ok (.int .i64 n) w:=by
  cases u with
  |sl k xs=>
   obtain⟨a',c,h4⟩:=zFj h1;simp[zJv]at hl;subst hl;cases ds<;>simp[zSW]at pL
   simp[Builtin.len_,run_underlying ht,h4,goInt]
  |ro t'=>
   cases t'<;>simp[zJv]at hl
   obtain⟨a',c,h4,_⟩:=zCe h1;subst hl;cases ds<;>simp[zSW]at pL
   simp[Builtin.len_,run_underlying ht,h4,goInt]
  |lit v=>
   simp only[R]at h1;cases v<;>simp[zJv]at hl<;>(subst hl;cases ds<;>simp[zSW]at pL;simp[Builtin.len_,run_underlying ht,h1,goInt])
  |_=>grind[zJv]
 simp[execOp,ho,resolve,invoke,builtin,h2,h3]
theorem zAX{G:Gh}{w:World}{s:Nat}{t:T}{p:List Nat}{b o:Nat}(h:Loc G w s t p b o):G.ad s p=⟨b,o,dK⟩:=by cases t<;>simp only[Loc]at h<;>first|exact h.1|exact h.elim
theorem vP(b o n:Nat):(⟨b,o,dK⟩:Addr).add n=⟨b,o+n,dK⟩:=by grind[Addr.add]
theorem zMR{St:Stb}{G:Gh}{w:World}{s:Nat}{k:Nat}{xs:List T}{p:List Nat}(h:R St G w s (.sl k xs) p){i:Nat}(hi:i<xs.length):
  ∃b cap,G.hd s p=.slice (dJ ⟨b,0,dK⟩) xs.length cap∧G.ad s (i::p)=⟨b,i*k,dK⟩:=by
 simp only[R]at h;rcases h with⟨rfl,_⟩|⟨b,cap,cs,e,h1,h2,h3,h4,h5,h6,h7,h8⟩
 ·simp at hi
 ·have:=(qT xs p 0 b 0 k i xs[i] h8 (by simp[hi])).1
  simp only[J8]at this;exact⟨b,cap,h1,zAX this⟩
theorem zU0(x y:Operand)(t e:TypeId)(ti:TypeInfo)(r:Nat)(q:List Nat)(k:Nat)(xs:List T)(kd:IntKind)(i:Int)(ho:o.op=.indexAddr t x y)(gj:o.dst=dJ d)(hd:d<Γ.N)
  (ht:P.underlying t=dJ (.slice e))(he:P.info? e=dJ ti)(hk:ti.size=k)(hx:uU E x=dJ (r,q,.sl k xs))(hy:opT E y=dJ (.lit (.int kd i)))(h0:0≤i)(h1:i.toNat<xs.length):
  xV P Γ o E (E.app [(d,dJ (.addr r (i.toNat::q)))] [(d,0)]):=by
 refine xV.value gj fun a w G g9=>?_
 obtain⟨g1,g2⟩:=qD g9 hx rfl;have g3:=(xX g9 hy).1;obtain⟨b,cap,g4,g5⟩:=zMR g1 h1;refine⟨.pointer (dJ (G.ad r (i.toNat::q))),w,?_,_,wR g9 rfl hd (fun _=>.pointer (dJ (G.ad r (i.toNat::q)))) (fun _=>rfl) _ _ (by simp[mkV,Gh.put]) (by simp[R,Gh.put]) (by simp[Top])⟩;have gE:i<(xs.length:Int):=by omega
 simp[execOp,ho,Instr.indexAt,g3,g2,g4,asIntOf,run_underlying ht,h0,gE,sizeOf,typeInfo,he,hk,vP,g5]
theorem zFk{St:Stb}:(xs:List T)→ ∀(cs:Array Value)(o k i:Nat)(x:T),RoL St xs cs o k→xs[i]? =dJ x→RoC St x cs (o+i*k)
 | [],_,_,_,_,_,_,h=>by simp at h
 |y::ys,cs,o,k,i,x,hr,h=>by
  simp only[RoL]at hr;cases i with
  |zero=>grind
  |succ i=>
   have:=zFk ys cs (o+k) k i x hr.2 (by grind)
   grind
theorem zMS{St:Stb}:(xs:List T)→ ∀(cs:Array Value)(o i:Nat)(x:T),RoF St xs cs o→xs[i]? =dJ x→RoC St x cs (o+T.sizes (xs.take i))
 | [],_,_,_,_,_,h=>by simp at h
 |y::ys,cs,o,i,x,hr,h=>by
  simp only[RoF]at hr;cases i with
  |zero=>grind[T.sizes]
  |succ i=>
   have:=zMS ys cs (o+y.size) i x hr.2 (by grind)
   grind[T.sizes]
theorem zP1(x y:Operand)(t e:TypeId)(ti:TypeInfo)(r:Nat)(q:List Nat)(k:Nat)(xs:List T)(kd:IntKind)(i:Int)(u:T)(ho:o.op=.indexAddr t x y)(gj:o.dst=dJ d)(hd:d<Γ.N)
  (ht:P.underlying t=dJ (.slice e))(he:P.info? e=dJ ti)(hk:ti.size=k)(hx:uU E x=dJ (r,q,.ro (.sl k xs)))(hy:opT E y=dJ (.lit (.int kd i)))(h0:0≤i)(h1:xs[i.toNat]? =dJ u):
  xV P Γ o E (E.app [(d,dJ (.ro (.ptr u)))] [(d,0)]):=by
 refine xV.value gj fun a w G g9=>?_
 obtain⟨g1,g2⟩:=qD g9 hx rfl;have g3:=(xX g9 hy).1;have hlt':i.toNat<xs.length:=(Jk.1 h1).1;obtain⟨a',c,g4,_,_,g5⟩:=zCe g1;obtain⟨b,o',cs',e',fr,rfl,g6,g7⟩:=g5 (by rintro rfl;grind);have g8:=zFk xs cs' o' k i.toNat u g7 h1;refine⟨.pointer (dJ ⟨b,o'+i.toNat*k,dK⟩),w,?_,_,wR g9 rfl hd (fun _=>.pointer (dJ ⟨b,o'+i.toNat*k,dK⟩)) (fun _=>rfl) _ _ (by simp[mkV,Gh.put]) ?_ (by simp[Top])⟩
 ·have gE:i<(xs.length:Int):=by omega
  simp[execOp,ho,Instr.indexAt,g3,g2,g4,asIntOf,run_underlying ht,h0,gE,sizeOf,typeInfo,he,hk,vP]
 grind[R,Gh.put_self,RoC]
theorem zB1:(xs:List T)→ ∀{G:Gh}{w:World}{s:Nat}(p:List Nat)(j b o i:Nat)(x:T),wS G w s xs p j b o→xs[i]? =dJ x→
  Loc G w s x ((j+i)::p) b (o+T.sizes (xs.take i))
 | [],_,_,_,_,_,_,_,_,_,_,h=>by simp at h
 |y::ys,G,w,s,p,j,b,o,i,x,hr,h=>by
  simp only[wS]at hr;cases i with
  |zero=>grind[T.sizes]
  |succ i=>
   have:=zB1 ys p (j+1) b (o+y.size) i x hr.2 (by grind)
   grind[T.sizes]
theorem tE{P:Program}{w:World}(a:Addr):(Instr.sureAddr (.pointer (dJ a))).run P w=.ok a w:=rfl
theorem zB2{P:Program}{w:World}{S:TypeId}{fs:Array Field}{f:Field}{fi:TypeInfo}{j:Nat}{b o':Nat}(hS:P.underlying S=dJ (.struct fs))(hf:fs[j]? =dJ f)(hi:P.info? f.type=dJ fi)(hz:fi.size≠0):
  (Instr.fieldAt S (.pointer (dJ ⟨b,o',dK⟩)) j).run P w=.ok (.pointer (dJ ⟨b,o'+f.offset,dK⟩)) w:=by
 simp[Instr.fieldAt,run_underlying hS,hf,tE,fieldPlace,sizeOf,typeInfo,hi,hz,vP]
theorem zWB(x:Operand)(S:TypeId)(fs:Array Field)(f:Field)(fi:TypeInfo)(j:Nat)(r:Nat)(q:List Nat)(xs:List T)(u:T)(ho:o.op=.fieldAddr S x j)(gj:o.dst=dJ d)(hd:d<Γ.N)
  (hS:P.underlying S=dJ (.struct fs))(hf:fs[j]? =dJ f)(hi:P.info? f.type=dJ fi)(hz:fi.size≠0)(hx:uU E x=dJ (r,q,.ptr (.agg xs)))(hu:xs[j]? =dJ u)(gF:T.sizes (xs.take j)=f.offset):
  xV P Γ o E (E.app [(d,dJ (.addr r (j::0::q)))] [(d,0)]):=by
 refine xV.value gj fun a w G g9=>?_
 obtain⟨g1,g2⟩:=qD g9 hx rfl;simp only[R]at g1;obtain⟨b,cs,e,g4,_,_,_,g5,_⟩:=g1;simp only[Loc]at g5;have g6:=zB1 xs (0::q) 0 b 0 j u g5.2 hu;simp only[J8]at g6;refine⟨.pointer (dJ (G.ad r (j::0::q))),w,?_,_,wR g9 rfl hd (fun _=>.pointer (dJ (G.ad r (j::0::q)))) (fun _=>rfl) _ _ (by simp[mkV,Gh.put]) (by simp[R,Gh.put]) (by simp[Top])⟩;have g7:=zB2 (w:=w) (b:=b) (o':=0) hS hf hi hz;simp[execOp,ho,g2,g4,g7,zAX g6,gF]
theorem zLw(x:Operand)(S:TypeId)(fs:Array Field)(f:Field)(fi:TypeInfo)(j:Nat)(r:Nat)(q:List Nat)(t:T)(xs:List T)(u:T)(ho:o.op=.fieldAddr S x j)(gj:o.dst=dJ d)(hd:d<Γ.N)
  (hS:P.underlying S=dJ (.struct fs))(hf:fs[j]? =dJ f)(hi:P.info? f.type=dJ fi)(hz:fi.size≠0)(hx:opT E x=dJ (.addr r q))(hr:E r=dJ t)(hg:t.get q.reverse=dJ (.agg xs))(hl:t.locd q.reverse=dL)
  (hu:xs[j]? =dJ u)(gF:T.sizes (xs.take j)=f.offset):
  xV P Γ o E (E.app [(d,dJ (.addr r (j::q)))] [(d,0)]):=by
 refine xV.value gj fun a w G g9=>?_
 cases x with
 |tmp s=>
  obtain⟨h1,h2,_⟩:=g9.ent s _ hx;obtain⟨_,h4,_⟩:=g9.ent r _ hr;simp only[R]at h2;obtain⟨b,o',cs,e,h6,_,_⟩:=(qN q.reverse t _ [] h4 hg).2 hl;simp only[rp,Ke,Jg]at h6;have h7:=zAX h6;simp only[Loc]at h6;have g6:=zB1 xs q 0 b o' j u h6.2 hu;simp only[J8]at g6;refine⟨.pointer (dJ (G.ad r (j::q))),w,?_,_,wR g9 rfl hd (fun _=>.pointer (dJ (G.ad r (j::q)))) (fun _=>rfl) _ _ (by simp[mkV,Gh.put]) (by simp[R,Gh.put]) (by simp[Top])⟩;have g7:=zB2 (w:=w) (b:=b) (o':=o') hS hf hi hz;simp[execOp,ho,xT h1,mkV,h2,h7,g7,zAX g6,gF]
 |const v=>grind[opT]
 |func f=>grind[opT]
 |global g=>grind[opT]
theorem zLx{G:Gh}{a:Act}{w:World}(g9:Rep Γ E G a.tmps w){x:Operand}{u:T}(hx:opT E x=dJ (.ro u)):RoC Γ.St u #[a.eval x] 0:=by
 cases x with
 |tmp s=>
  obtain⟨h1,h2,_⟩:=g9.ent s _ hx;simp only[R]at h2;rw[xT h1,xJ rfl];exact h2
 |const v=>grind[opT]
 |func f=>grind[opT]
 |global g=>grind[opT]
theorem zP2(x:Operand)(S:TypeId)(fs:Array Field)(f:Field)(fi:TypeInfo)(j:Nat)(xs:List T)(u:T)(ho:o.op=.fieldAddr S x j)(gj:o.dst=dJ d)(hd:d<Γ.N)
  (hS:P.underlying S=dJ (.struct fs))(hf:fs[j]? =dJ f)(hi:P.info? f.type=dJ fi)(hz:fi.size≠0)(hx:opT E x=dJ (.ro (.ptr (.agg xs))))(hu:xs[j]? =dJ u)(gF:T.sizes (xs.take j)=f.offset):
  xV P Γ o E (E.app [(d,dJ (.ro (.ptr u)))] [(d,0)]):=by
 refine xV.value gj fun a w G g9=>?_
 have h1:=zLx g9 hx;simp only[RoC]at h1;obtain⟨b,o',cs',e,fr,h2,h3,h4⟩:=h1;have h5:=zMS xs cs' o' j u h4 hu;refine⟨.pointer (dJ ⟨b,o'+f.offset,dK⟩),w,?_,_,wR g9 rfl hd (fun _=>.pointer (dJ ⟨b,o'+f.offset,dK⟩)) (fun _=>rfl) _ _ (by simp[mkV,Gh.put]) ?_ (by simp[Top])⟩
 ·have g7:=zB2 (w:=w) (b:=b) (o':=o') hS hf hi hz
  have h6:a.eval x=.pointer (dJ ⟨b,o',dK⟩):=by grind
  simp[execOp,ho,h6,g7]
 grind[R,Gh.put_self,RoC]
def zEa:TypeDesc→Bool
 |.struct _|.array _ _=>dL
 |_=>dM
theorem qW{P:Program}{w:World}{t:TypeId}{ds:TypeDesc}(ht:P.underlying t=dJ ds):(isAgg t).run P w=.ok (zEa ds) w:=by cases ds<;>simp[isAgg,run_underlying ht,zEa]
theorem wN{G:Gh}{w:World}{s:Nat}{t:T}{p:List Nat}{b o:Nat}(ht:t.single=dL)(h:Loc G w s t p b o):G.ad s p=⟨b,o,dK⟩∧G.lb b o=dJ (dM,s,p)∧yI w b o=dJ (G.hd s p):=by cases t<;>simp[T.single]at ht<;>simpa only[Loc]using h
mutual
theorem zP3{G:Gh}{w:World}{s:Nat}:(t:T)→ ∀(p:List Nat)(b o:Nat),Loc G w s t p b o→ ∀(i:Nat)(v:Value),(vals G s t p)[i]? =dJ v→yI w b (o+i)=dJ v
 |.agg xs,p,b,o,h,i,v,hv=>by simp only[Loc,vals]at h hv;exact zA4 xs p 0 b o h.2 i v hv
 |.any,p,b,o,h,i,v,hv|.lit _,p,b,o,h,i,v,hv|.ro _,p,b,o,h,i,v,hv|.same _ _,p,b,o,h,i,v,hv|.addr _ _,p,b,o,h,i,v,hv|.sub _ _ _ _ _,p,b,o,h,i,v,hv|.sl _ _,p,b,o,h,i,v,hv|.ptr _,p,b,o,h,i,v,hv=>by grind[Loc,vals]
 |.tup _,_,_,_,h,_,_,_=>by grind[Loc]
theorem zA4{G:Gh}{w:World}{s:Nat}:(xs:List T)→ ∀(p:List Nat)(j b o:Nat),wS G w s xs p j b o→ ∀(i:Nat)(v:Value),(zY G s xs p j)[i]? =dJ v→yI w b (o+i)=dJ v
 | [],_,_,_,_,_,i,v,hv=>by grind[zY]
 |x::xs,p,j,b,o,h,i,v,hv=>by
  simp only[wS,zY]at h hv;rw[Kb]at hv;split at hv
  ·exact zP3 x (j::p) b o h.1 i v hv
  ·rename_i hge
   have gm:=wP (G:=G) (s:=s) x (j::p) (by grind[Loc]);have:=zA4 xs p (j+1) b (o+x.size) h.2 _ v hv
   grind
theorem wP{G:Gh}{s:Nat}:(t:T)→ ∀(p:List Nat),(∀xs,t≠.tup xs)→(vals G s t p).length=t.size
 |.agg xs,p,_=>by simp only[vals,T.size];exact wA xs p 0
 |.any,_,_|.lit _,_,_|.ro _,_,_|.same _ _,_,_|.addr _ _,_,_|.sub _ _ _ _ _,_,_|.sl _ _,_,_|.ptr _,_,_|.tup _,_,_=>by rfl
theorem wA{G:Gh}{s:Nat}:(xs:List T)→ ∀(p:List Nat)(j:Nat),(zY G s xs p j).length=T.sizes xs
 | [],_,_=>by rfl
 |x::xs,p,j=>by
  simp only[zY,Ja,T.sizes,wA xs p (j+1)]
  by_cases hx:∃ys,x=.tup ys
  ·obtain⟨ys,rfl⟩:=hx;rfl
  ·rw[wP x (j::p) (by grind)]
end
theorem zEG{P:Program}{G:Gh}{w:World}{s:Nat}{t:T}{p:List Nat}{b o':Nat}{T':TypeId}{ds:TypeDesc}{ti:TypeInfo}(hT:P.underlying T'=dJ ds)(hi:P.info? T'=dJ ti)(hl:Loc G w s t p b o')
  (fg:zEa ds= !t.single)(gy:ti.size=t.size):(loadVar T' ⟨b,o',dK⟩).run P w=.ok (tP G s t p) w:=by
 cases t with
 |agg xs=>
  have h1:=run_loadCells_list (P:=P) (w:=w) ⟨b,o',dK⟩ (zY G s xs p 0) (fun j v hv=>by rw[vP];simp only[Loc]at hl;exact zA4 xs p 0 b o' hl.2 j v hv)
  rw[wA]at h1;simp only[T.size]at gy;simp[T.single]at fg;simp[loadVar,qW hT,fg,sizeOf,typeInfo,hi,gy,h1,tP]
 |tup xs=>grind[Loc]
 |_=>
  have h1:=(wN rfl hl).2.2;simp[T.single]at fg;simp only[yI]at h1;simp[loadVar,qW hT,fg,load,Sem.run,h1,tP]
def zAn(Γ:Ctx)(E:Env)(x:Operand)(r:Nat)(q:List Nat):Prop:=∀(a:Act)(w:World)(G:Gh),Rep Γ E G a.tmps w→a.eval x=.pointer (dJ (G.ad r q))
theorem zAn.addr{x:Operand}{r:Nat}{q:List Nat}(hx:opT E x=dJ (.addr r q)):zAn Γ E x r q:=fun a w G g9=>by
 cases x with
 |tmp s=>
  obtain⟨h1,h2,_⟩:=g9.ent s _ hx;simp only[R]at h2;rw[xT h1];exact h2
 |const v=>grind[opT]
 |func f=>grind[opT]
 |global g=>grind[opT]
theorem zAn.ptr{x:Operand}{r:Nat}{q:List Nat}{t:T}(hx:uU E x=dJ (r,q,.ptr t)):zAn Γ E x r (0::q):=fun a w G g9=>by
 obtain⟨g1,g2⟩:=qD g9 hx rfl
 grind[R,zAX]
theorem zJw(x:Operand)(T':TypeId)(ds:TypeDesc)(ti:TypeInfo)(r:Nat)(q:List Nat)(t u:T)(ho:o.op=.load T' x)(gj:o.dst=dJ d)(hd:d<Γ.N)
  (hT:P.underlying T'=dJ ds)(hi:P.info? T'=dJ ti)(fg:zEa ds= !u.single)(gy:ti.size=u.size)
  (hx:zAn Γ E x r q)(hr:E r=dJ t)(hg:t.get q.reverse=dJ u)(hl:t.locd q.reverse=dL)(gC:r≠d)(gJ:T.okB [(d,0)] (cpT r u q)=dL):
  xV P Γ o E (E.app [(d,dJ (cpT r u q))] [(d,0)]):=by
 refine xV.value gj fun a w G g9=>?_
 have mE:=hx a w G g9;obtain⟨_,h4,_⟩:=g9.ent r _ hr;obtain⟨h5,h6⟩:=qN q.reverse t u [] h4 hg;obtain⟨b,o',cs,e,h6,_,_⟩:=h6 hl;simp only[rp,Ke,Jg]at h5 h6;have gW:∀xs,u≠.tup xs:=by rintro xs rfl;simp only[Loc]at h6
 have h7:=zAX h6;have hz:∀z,(G.put d (fun z=>G.hd r (z++q))).hd d (z++[])=G.hd r (z++q):=fun z=>by rw[Gh.put_self,Jg]
 have hk:=G.put_keep (w:=w) (w':=w) rfl d (fun z=>G.hd r (z++q));refine⟨tP G r u q,w,?_,_,wR g9 rfl hd (fun z=>G.hd r (z++q)) (fun z=>g9.mem.one _ _) _ _ (kV u q [] gW hz).symm
  (zCI (fun p=>G.put_other _ p gC) u q [] hz gW (hk.keepR (kF _ (sP r u q) gJ)) h5) (sP r u q)⟩
 have h8:=zEG (T':=T') hT hi h6 fg gy;simp[execOp,ho,mE,h7,Instr.loadAt,tE,h8]
theorem zSX(x:Operand)(T':TypeId)(ds:TypeDesc)(ti:TypeInfo)(r:Nat)(q:List Nat)(t u:T)(ho:o.op=.load T' x)(gj:o.dst=dJ d)(hd:d<Γ.N)
  (hT:P.underlying T'=dJ ds)(hi:P.info? T'=dJ ti)(fg:zEa ds= !u.single)(gy:ti.size=u.size)
  (hx:opT E x=dJ (.addr r q))(hr:E r=dJ t)(hg:t.get q.reverse=dJ u)(hl:t.locd q.reverse=dL)(gC:r≠d)(gJ:T.okB [(d,0)] (cpT r u q)=dL):
  xV P Γ o E (E.app [(d,dJ (cpT r u q))] [(d,0)]):=by grind[zJw,zAn.addr]
def roT:T→T
 |.lit v=>.lit v
 |.agg xs=>.agg (roTs xs)
 |.ro t=>.ro t
 |.any=>.any
 |.same r q=>.ro (.same r q)
 |.addr r q=>.ro (.addr r q)
 |.sub r q k lo hi=>.ro (.sub r q k lo hi)
 |.sl k xs=>.ro (.sl k xs)
 |.ptr t=>.ro (.ptr t)
 |.tup xs=>.ro (.tup xs)
where roTs:List T→List T
 | []=>[]
 |x::xs=>roT x::roTs xs
end
end Go.Ab

namespace Go.Ab
open Go
def jM(v:Value):Value:=if v.oneCell' then v else .bool dM
theorem zA5(v:Value):(jM v).oneCell'=dL:=by
 unfold jM;split
 ·assumption
 ·rfl
theorem zAo{v:Value}(h:v.oneCell'=dL):jM v=v:=by simp[jM,h]
def zCK:T→Array Value→Nat→List Nat→Value
 |.agg xs,cs,o,i::f=>match xs[i]? with
  |some x=>zCK x cs (o+T.sizes (xs.take i)) f
  |none=>.bool dM
 |_,cs,o,_=>cs.getD o (.bool dM)
termination_by structural _ _ _ f=>f
theorem zAp{t:T}(h:t.single=dL)(cs:Array Value)(o:Nat)(f:List Nat):zCK t cs o f=cs.getD o (.bool dM):=by cases t<;>simp[T.single]at h<;>cases f<;>rfl
mutual
theorem zDt:(u:T)→(∀xs,u≠.tup xs)→(roT u).size=u.size
 |.agg xs,_=>by simp only[roT,T.size];exact zEb xs
 |.lit _,_|.any,_|.sl _ _,_|.ptr _,_|.ro _,_|.same _ _,_|.addr _ _,_|.sub _ _ _ _ _,_|.tup _,_=>by rfl
theorem zEb:(xs:List T)→T.sizes (roT.roTs xs)=T.sizes xs
 | []=>by rfl
 |x::xs=>by
  simp only[roT.roTs,T.sizes,zEb xs]
  by_cases hx:∃ys,x=.tup ys
  ·obtain⟨ys,rfl⟩:=hx;rfl
  ·rw[zDt x (by grind)]
end
section
variable {St:Stb}{G:Gh}{w:World}{d:Nat}
theorem zF6{u:T}{cs:Array Value}{o:Nat}(hu:u.single=dL)(h:RoC St u cs o):∃v,cs[o]? =dJ v∧v.oneCell'=dL∧RoC St u #[v] 0:=by
 cases u<;>simp[T.single]at hu<;>simp only[RoC]at h ⊢
 ·grind
 ·grind
 ·obtain⟨a,c,h1,h2⟩:=h;exact⟨_,h1,rfl,a,c,by simp,h2⟩
 ·obtain⟨b,o',cs',e,fr,h1,h2⟩:=h;exact⟨_,h1,rfl,b,o',cs',e,fr,by simp,h2⟩
mutual
theorem zP4:(u:T)→ ∀(cs:Array Value)(o:Nat)(p:List Nat),(∀z,G.hd d (z++p)=jM (zCK u cs o z.reverse))→RoC St u cs o→R St G w d (roT u) p
 |.agg xs,cs,o,p,hd,h=>by
  simp only[roT,R,RoC]at h ⊢
  exact zP5 xs cs o p 0 o (by simp) (fun z j x hx=>by
   have:=hd (z++[j]);simp only[Jb,Lg,K1,Qw,Jc4,Um,zCK]at this
   grind) h
 |.lit v,cs,o,p,hd,h=>by
  simp only[roT,R,RoC]at h ⊢
  have:=hd [];rw[K1,zAp rfl]at this;rw[this];simp[K8,h.1,zAo h.2]
 |.any,_,_,_,_,_=>by simp only[roT,R]
 |.sl k xs,cs,o,p,hd,h|.ptr t,cs,o,p,hd,h=>by obtain⟨v,h1,h2,h3⟩:=zF6 rfl h;have:=hd [];rw[K1,zAp rfl]at this;simp only[roT,R];rw[this];simpa[K8,h1,zAo h2]using h3
 |.ro _,_,_,_,_,h|.same _ _,_,_,_,_,h|.addr _ _,_,_,_,_,h|.sub _ _ _ _ _,_,_,_,_,h|.tup _,_,_,_,_,h=>by simp only[RoC]at h
theorem zP5:(xs:List T)→ ∀(cs:Array Value)(o0:Nat)(p:List Nat)(j o:Nat),o0≤o→(∀z i x,xs[i]? =dJ x→G.hd d (z++((j+i)::p))=jM (zCK x cs (o+T.sizes (xs.take i)) z.reverse))→RoF St xs cs o→RF St G w d (roT.roTs xs) p j
 | [],_,_,_,_,_,_,_,_=>by simp only[roT.roTs,RF]
 |x::xs,cs,o0,p,j,o,ho,hd,h=>by
  simp only[roT.roTs,RF,RoF]at h ⊢
  refine⟨zP4 x cs o (j::p) (fun z=>by simpa[T.sizes]using hd z 0 x (by simp)) h.1,zP5 xs cs o0 p (j+1) (o+x.size) (by omega) (fun z i y hy=>?_) h.2⟩;have:=hd z (i+1) y (by grind)
  grind[T.sizes]
end
mutual
theorem zF7:(u:T)→ ∀(cs:Array Value)(o:Nat)(p:List Nat),(∀z,G.hd d (z++p)=jM (zCK u cs o z.reverse))→RoC St u cs o→ ∀(i:Nat)(v:Value),(vals G d (roT u) p)[i]? =dJ v→cs[o+i]? =dJ v
 |.agg xs,cs,o,p,hd,h,i,v,hv=>by
  simp only[roT,vals,RoC]at h hv;exact zH1 xs cs p 0 o (fun z j x hx=>by
   have:=hd (z++[j]);simp only[Jb,Lg,K1,Qw,Jc4,Um,zCK]at this
   grind) h i v hv
 |.lit _,cs,o,p,hd,h,i,v,hv|.any,cs,o,p,hd,h,i,v,hv|.sl _ _,cs,o,p,hd,h,i,v,hv|.ptr _,cs,o,p,hd,h,i,v,hv=>by
  obtain⟨v',h1,h2,h3⟩:=zF6 rfl h;have:=hd [];rw[K1,zAp rfl]at this;simp only[roT,vals]at hv;cases i with
  |zero=>
   simp at hv;rw[←hv,this];simp[K8,h1,zAo h2]
  |succ i=>simp at hv
 |.ro _,_,_,_,_,h,_,_,_|.same _ _,_,_,_,_,h,_,_,_|.addr _ _,_,_,_,_,h,_,_,_|.sub _ _ _ _ _,_,_,_,_,h,_,_,_|.tup _,_,_,_,_,h,_,_,_=>by simp only[RoC]at h
theorem zH1:(xs:List T)→ ∀(cs:Array Value)(p:List Nat)(j o:Nat),(∀z i x,xs[i]? =dJ x→G.hd d (z++((j+i)::p))=jM (zCK x cs (o+T.sizes (xs.take i)) z.reverse))→RoF St xs cs o→ ∀(i:Nat)(v:Value),(zY G d (roT.roTs xs) p j)[i]? =dJ v→cs[o+i]? =dJ v
 | [],_,_,_,_,_,_,i,v,hv=>by grind[roT.roTs,zY]
 |x::xs,cs,p,j,o,hd,h,i,v,hv=>by
  simp only[roT.roTs,zY,RoF]at h hv;have hx:∀z,G.hd d (z++(j::p))=jM (zCK x cs o z.reverse):=fun z=>by simpa[T.sizes]using hd z 0 x (by simp)
  have gm:(vals G d (roT x) (j::p)).length=x.size:=by have hs:(roT x).size=x.size:=zDt x (fun ys e=>by subst e;simp only[RoC]at h;exact h.1);rw[wP (roT x) (j::p) (fun ys e=>by cases x<;>simp[roT]at e),hs]
  rw[Kb]at hv;split at hv
  ·exact zF7 x cs o (j::p) hx h.1 i v hv
  ·have:=zH1 xs cs p (j+1) (o+x.size) (fun z i y hy=>by
    have:=hd z (i+1) y (by grind)
    grind[T.sizes]) h.2 _ v hv
   grind
end
mutual
theorem zMT:(u:T)→Top (roT u)
 |.agg xs=>by simp only[roT,Top];exact zJx xs
 |.lit _|.any|.sl _ _|.ptr _|.ro _|.same _ _|.addr _ _|.sub _ _ _ _ _|.tup _=>by simp[roT,Top]
theorem zJx:(xs:List T)→vN (roT.roTs xs)
 | []=>by simp only[roT.roTs,vN]
 |x::xs=>by simp only[roT.roTs,vN];exact⟨zMT x,zJx xs⟩
end
end
section
variable {P:Program}{Γ:Ctx}{E:Env}{o:Oper}{d:Nat}
theorem zMU{G:Gh}{w:World}(hm:Mem Γ G w){b:Nat}{cs:Array Value}{e:TypeId}{fr:Nat×Nat}(h:Γ.St b=dJ (.cells cs e fr))(i:Nat):w.cell? ⟨b,i,dK⟩=cs[i]?:=by simp[World.cell?,hm.st b _ h]
theorem zLy(x:Operand)(T':TypeId)(ds:TypeDesc)(ti:TypeInfo)(u:T)(ho:o.op=.load T' x)(gj:o.dst=dJ d)(hd:d<Γ.N)
  (hT:P.underlying T'=dJ ds)(hi:P.info? T'=dJ ti)(fg:zEa ds= !u.single)(gy:ti.size=u.size)
  (hx:opT E x=dJ (.ro (.ptr u))):xV P Γ o E (E.app [(d,dJ (roT u))] [(d,0)]):=by
 refine xV.value gj fun a w G g9=>?_
 have h1:=zLx g9 hx;simp only[RoC]at h1;obtain⟨b,o',cs',e,fr,h2,h3,h4⟩:=h1;have fM:a.eval x=.pointer (dJ ⟨b,o',dK⟩):=by grind
 have gW:∀xs,u≠.tup xs:=by rintro xs rfl;simp only[RoC]at h4
 let f:List Nat→Value:=fun z=>jM (zCK u cs' o' z.reverse)
 have hz:∀z,(G.put d f).hd d (z++[])=jM (zCK u cs' o' z.reverse):=by grind[Gh.put_self]
 refine⟨mkV (G.put d f) d (roT u) [],w,?_,_,wR g9 rfl hd f (fun z=>zA5 _) _ _ rfl (by grind[zP4]) (zMT u)⟩;cases u with
 |agg xs=>
  have h5:∀j v,(zY (G.put d f) d (roT.roTs xs) [] 0)[j]? =dJ v→w.cell? ((⟨b,o',dK⟩:Addr).add j)=dJ v:=by intro j v hv;rw[vP,zMU g9.mem h3];exact zF7 (.agg xs) cs' o' [] hz h4 j v (by grind[roT,vals])
  have h6:=run_loadCells_list (P:=P) (w:=w) ⟨b,o',dK⟩ _ h5;rw[wA,zEb]at h6;simp only[T.size]at gy;simp[T.single]at fg;simp[execOp,ho,fM,Instr.loadAt,tE,loadVar,qW hT,fg,sizeOf,typeInfo,hi,gy,h6,mkV,roT]
 |tup xs=>grind
 |_=>
  obtain⟨v,h5,h6,h7⟩:=zF6 rfl h4;have h8:w.cell? ⟨b,o',dK⟩=dJ v:=by rw[zMU g9.mem h3];exact h5
  simp[T.single]at fg;have h9:f []=v:=by show jM (zCK _ cs' o' _)=v;rw[zAp rfl];simp[K8,h5,zAo h6]
  simp[execOp,ho,fM,Instr.loadAt,tE,loadVar,qW hT,fg,load,Sem.run,h8,mkV,roT,Gh.put_self,h9]
def zH2(E:Env)(x:Operand):Bool:=
 match opT E x with
 |some (.addr _ _)|some (.ro (.ptr _))=>dL
 |_=>match uU E x with
  |some (_,_,.ptr _)=>dL
  |some (_,_,.ro (.ptr _))=>dL
  |_=>dM
theorem zP6{G:Gh}{a:Act}{w:World}(g9:Rep Γ E G a.tmps w){x:Operand}(h:zH2 E x=dL):∃ad,a.eval x=.pointer (dJ ad):=by
 unfold zH2 at h;split at h
 ·rename_i r q hx
  cases x with
  |tmp s=>
   obtain⟨h1,h2,_⟩:=g9.ent s _ hx;simp only[R]at h2;exact⟨_,by rw[xT h1,xJ rfl,h2]⟩
  |const v=>grind[opT]
  |func f=>grind[opT]
  |global g=>grind[opT]
 ·rename_i u hx
  have:=zLx g9 hx;simp only[RoC]at this
  grind
 ·split at h
  ·rename_i hl
   obtain⟨h1,h2⟩:=qD g9 hl rfl;simp only[R]at h1
   grind
  ·rename_i hl
   obtain⟨h1,h2⟩:=qD g9 hl rfl;simp only[R,RoC]at h1
   grind
  ·cases h
theorem zVn(x:Operand)(t:T)(ho:o.op=.nilCheck x)(gj:o.dst=dJ d)(hd:d<Γ.N)(hx:opT E x=dJ t)(hp:zH2 E x=dL)(ht:∀xs,t≠.tup xs)
  (gf:∀s,x=.tmp s→s≠d)(gJ:T.okB [(d,0)] (uJ x t)=dL):xV P Γ o E (E.app [(d,dJ (uJ x t))] [(d,0)]):=by
 refine xV.value gj fun a w G g9=>?_
 obtain⟨f,hf,h1,h2⟩:=opd g9 hx ht;obtain⟨h3,h4⟩:=h1 d gf gJ;obtain⟨ad,h5⟩:=zP6 g9 hp;refine⟨a.eval x,w,?_,_,wR g9 rfl hd f hf _ _ h3 h4 h2⟩;simp[execOp,ho,h5]
theorem zJy{G:Gh}{s:Nat}:(xs:List T)→ ∀(p:List Nat)(j i:Nat)(x:T),xs[i]? =dJ x→(qL G s xs p j)[i]? =dJ (tP G s x ((j+i)::p))
 | [],_,_,_,_,h=>by simp at h
 |y::ys,p,j,i,x,h=>by
  cases i with
  |zero=>grind[qL]
  |succ i=>
   have:=zJy (G:=G) (s:=s) ys p (j+1) i x (by grind)
   grind[qL]
theorem zLz(s i:Nat)(ts:List T)(t:T)(ho:o.op=.extract (.tmp s) i)(gj:o.dst=dJ d)(hd:d<Γ.N)(hs:E s=dJ (.tup ts))(hi:ts[i]? =dJ t)(ht:∀xs,t≠.tup xs)
  (gf:s≠d)(gJ:T.okB [(d,0)] (cpT s t [i])=dL):xV P Γ o E (E.app [(d,dJ (cpT s t [i]))] [(d,0)]):=by
 refine xV.value gj fun a w G g9=>?_
 obtain⟨h1,h2,_⟩:=g9.ent s _ hs;simp only[R]at h2;have h3:=zAy ts [] 0 i t h2 hi;simp only[J8]at h3;have h4:=zJy (G:=G) (s:=s) ts [] 0 i t hi;simp only[J8]at h4;have hk:=G.put_keep (w:=w) (w':=w) rfl d (fun z=>G.hd s (z++[i]));have hz:∀z,(G.put d (fun z=>G.hd s (z++[i]))).hd d (z++[])=G.hd s (z++[i]):=by grind[Gh.put_self]
 refine⟨tP G s t [i],w,?_,_,wR g9 rfl hd (fun z=>G.hd s (z++[i])) (fun z=>g9.mem.one _ _) _ _ (by grind[kV])
  (zCI (fun p=>G.put_other _ p gf) t [i] [] hz ht (hk.keepR (by grind[kF,sP])) h3) (sP s t [i])⟩
 simp[execOp,ho,xT h1,mkV,Instr.extract,h4]
def zAY(E:Env)(x:Option Operand)(dflt n:Nat):Prop:=
 match x with
 |none=>n=dflt
 |some y=> ∃kd,opT E y=dJ (.lit (.int kd n))
theorem zF8{St:Stb}:(xs:List T)→ ∀(cs:Array Value)(o k l:Nat),RoL St xs cs o k→RoL St (xs.drop l) cs (o+l*k) k
 | [],_,_,_,_,_=>by simp[RoL]
 |x::xs,cs,o,k,l,h=>by
  cases l with
  |zero=>grind
  |succ l=>
   simp only[RoL]at h;have:=zF8 xs cs (o+k) k l h.2
   grind
theorem zF9{St:Stb}:(xs:List T)→ ∀(cs:Array Value)(o k l:Nat),RoL St xs cs o k→RoL St (xs.take l) cs o k
 | [],_,_,_,_,_=>by simp[RoL]
 |x::xs,cs,o,k,l,h=>by
  cases l with
  |zero=>simp[RoL]
  |succ l=>simp only[RoL,La]at h ⊢;exact⟨h.1,zF9 xs cs _ k l h.2⟩
theorem zCf{P:Program}{G:Gh}{a:Act}{w:World}(g9:Rep Γ E G a.tmps w){x:Operand}{kd:IntKind}{n y:Nat}{c:BoundsCode}(hx:opT E x=dJ (.lit (.int kd n)))(h:n≤y):
  (Instr.sliceBound (a.eval x) y c).run P w=.ok n w:=by
 rw[(xX g9 hx).1];have:(n:Int)≤(y:Int):=by omega
 simp[Instr.sliceBound,asIntOf,this]
theorem zFA{P:Program}{G:Gh}{a:Act}{w:World}(g9:Rep Γ E G a.tmps w){lo hi:Option Operand}{l h n c:Nat}(ej:zAY E lo 0 l)(eS:zAY E hi n h)(h1:l≤h)(h2:h≤c):
  (Instr.sliceBounds dL n c (lo.map a.eval) (hi.map a.eval) dK).run P w=.ok (l,h,c) w:=by
 cases lo with
 |none=>
  cases hi with
  |none=>simp only[zAY]at ej eS;subst ej;subst eS;rfl
  |some y=>simp only[zAY]at ej eS;obtain⟨kd,hy⟩:=eS;subst ej;simp[Instr.sliceBounds,zCf g9 hy h2]
 |some x=>
  obtain⟨kd,hx⟩:=ej;cases hi with
  |none=>simp only[zAY]at eS;subst eS;simp[Instr.sliceBounds,zCf g9 hx h1]
  |some y=>obtain⟨kd',hy⟩:=eS;simp[Instr.sliceBounds,zCf g9 hy h2,zCf g9 hx h1]
theorem zJz(x:Operand)(lo hi:Option Operand)(t e:TypeId)(ti:TypeInfo)(r:Nat)(q:List Nat)(k:Nat)(xs:List T)(l h:Nat)(ho:o.op=.slice t x lo hi dK)(gj:o.dst=dJ d)(hd:d<Γ.N)
  (ht:P.underlying t=dJ (.slice e))(he:P.info? e=dJ ti)(hk:ti.size=k)(hx:uU E x=dJ (r,q,.ro (.sl k xs)))(ej:zAY E lo 0 l)(eS:zAY E hi xs.length h)(h1:l≤h)(h2:h≤xs.length):
  xV P Γ o E (E.app [(d,dJ (.ro (.sl k ((xs.drop l).take (h-l)))))] [(d,0)]):=by
 refine xV.value gj fun a w G g9=>?_
 obtain⟨g1,g2⟩:=qD g9 hx rfl;obtain⟨a',c,g4,g5,g6,g7⟩:=zCe g1;have g8:=zFA (P:=P) g9 ej eS h1 (Lt h2 g5);have gm:((xs.drop l).take (h-l)).length=h-l:=by simp;omega
 refine⟨.slice (if c=l then a' else a'.map (·.add (l*k))) (h-l) (c-l),w,?_,_,wR g9 rfl hd (fun _=>.slice (if c=l then a' else a'.map (·.add (l*k))) (h-l) (c-l)) (fun _=>rfl) _ _ (by simp[mkV,Gh.put]) ?_ (by simp[Top])⟩
 ·simp only[execOp,ho,Ja4]
  simp[Instr.sliceAt,Instr.slice,run_underlying ht,g2,g4,g8,sizeOf,typeInfo,he,hk]
 ·simp only[R,Gh.put_self,RoC]
  refine⟨_,_,by rw[gm];rfl,by omega,by omega,?_⟩;intro gf;have ee:xs≠[]:=by grind
  obtain⟨b,o',cs',e',fr,rfl,h3,h4⟩:=g7 ee;have gI:c≠l:=by grind
  grind[vP,zF9,zF8]
theorem zI3(x:Operand)(lo hi:Option Operand)(t e:TypeId)(ti:TypeInfo)(r:Nat)(q:List Nat)(k:Nat)(xs:List T)(l h:Nat)(ho:o.op=.slice t x lo hi dK)(gj:o.dst=dJ d)(hd:d<Γ.N)
  (ht:P.underlying t=dJ (.slice e))(he:P.info? e=dJ ti)(hk:ti.size=k)(hx:uU E x=dJ (r,q,.sl k xs))(ej:zAY E lo 0 l)(eS:zAY E hi xs.length h)(h1:l≤h)(h2:h≤xs.length)(gC:r≠d):
  xV P Γ o E (E.app [(d,dJ (.sub r q k l h))] [(d,0)]):=by
 refine xV.value gj fun a w G g9=>?_
 obtain⟨g1,g2⟩:=qD g9 hx rfl;obtain⟨a',c,g4⟩:=zFj g1;have g5:xs.length≤c:=by
  simp only[R]at g1
  grind
 have g8:=zFA (P:=P) g9 ej eS h1 (Lt h2 g5);refine⟨kS (G.hd r q) k l h,w,?_,_,wR g9 rfl hd (fun _=>kS (G.hd r q) k l h) (fun _=>by rw[g4];rfl) _ _ (by simp[mkV,Gh.put]) ?_ (by simp[Top])⟩
 ·simp only[execOp,ho,Ja4]
  simp[Instr.sliceAt,Instr.slice,run_underlying ht,g2,g4,g8,sizeOf,typeInfo,he,hk,kS]
 ·simp only[R,Gh.put_self]
  grind[Gh.put_other]
end
end Go.Ab

namespace Go.Ab
open Go
def T.inT:T→List Nat→Bool
 |_,[]=>dL
 |.agg xs,i::f=>match xs[i]? with
  |some x=>x.inT f
  |none=>dM
 |.any,_::_|.lit _,_::_|.ro _,_::_|.same _ _,_::_|.addr _ _,_::_|.sub _ _ _ _ _,_::_|.sl _ _,_::_|.ptr _,_::_|.tup _,_::_=>dM
termination_by structural _ f=>f
def T.offT:T→List Nat→Nat
 |_,[]=>0
 |.agg xs,i::f=>match xs[i]? with
  |some x=>T.sizes (xs.take i)+x.offT f
  |none=>0
 |.any,_::_|.lit _,_::_|.ro _,_::_|.same _ _,_::_|.addr _ _,_::_|.sub _ _ _ _ _,_::_|.sl _ _,_::_|.ptr _,_::_|.tup _,_::_=>0
termination_by structural _ f=>f
theorem zFB{t:T}(h:t.single=dL){f:List Nat}(hf:f≠[]):t.inT f=dM:=by
 cases f with
 |nil=>grind
 |cons i f=>cases t<;>simp[T.single]at h<;>rfl
mutual
def zP7:T→List Nat→Nat→Option (List Nat)
 |.agg xs,p,o=>zB3 xs p 0 o
 |.any,p,o|.lit _,p,o|.ro _,p,o|.same _ _,p,o|.addr _ _,p,o|.sub _ _ _ _ _,p,o|.sl _ _,p,o|.ptr _,p,o|.tup _,p,o=>if o=0 then dJ p else dK
def zB3:List T→List Nat→Nat→Nat→Option (List Nat)
 | [],_,_,_=>dK
 |x::xs,p,j,o=>if o<x.size then zP7 x (j::p) o else zB3 xs p (j+1) (o-x.size)
end
mutual
def T.okTup:T→Bool
 |.tup _=>dM
 |.agg xs=>yO xs
 |.any|.lit _|.ro _|.same _ _|.addr _ _|.sub _ _ _ _ _|.sl _ _|.ptr _=>dL
def yO:List T→Bool
 | []=>dL
 |x::xs=>x.okTup&&yO xs
end
theorem zCL:(xs:List T)→ ∀(p:List Nat)(j o:Nat),T.sizes xs≤o→zB3 xs p j o=dK
 | [],_,_,_,_=>by rfl
 |x::xs,p,j,o,h=>by simp only[T.sizes]at h;simp only[zB3];rw[if_neg (by omega)];exact zCL xs p (j+1) _ (by omega)
section
variable {G:Gh}{w:World}{d:Nat}
mutual
theorem zVo:(x:T)→ ∀(p:List Nat)(B o:Nat),(∀xs,x≠.tup xs)→x.okTup=dL→
  (∀f,x.inT f=dL→G.ad d (f.reverse++p)=⟨B,o+x.offT f,dK⟩)→(∀j p',j<x.size→zP7 x p j=dJ p'→G.lb B (o+j)=dJ (dM,d,p'))→
  (∀j v,(vals G d x p)[j]? =dJ v→yI w B (o+j)=dJ v)→Loc G w d x p B o
 |.agg xs,p,B,o,_,hn,ha,hl,hc=>by
  simp only[Loc];refine⟨by simpa[T.offT]using ha [] rfl,zFl xs p 0 B o (by grind[T.okTup]) (fun i x hx f hf=>?_) (fun j p' hj hp=>?_) (by grind[vals])⟩
  ·have:=ha (i::f) (by grind[T.inT])
   grind[T.offT]
  grind[T.size,zP7]
 |.any,p,B,o,_,_,ha,hl,hc|.lit _,p,B,o,_,_,ha,hl,hc|.ro _,p,B,o,_,_,ha,hl,hc|.same _ _,p,B,o,_,_,ha,hl,hc|.addr _ _,p,B,o,_,_,ha,hl,hc|.sub _ _ _ _ _,p,B,o,_,_,ha,hl,hc|.sl _ _,p,B,o,_,_,ha,hl,hc|.ptr _,p,B,o,_,_,ha,hl,hc=>by simp only[Loc];exact⟨by simpa[T.offT]using ha [] rfl,by simpa using hl 0 p (by simp[T.size]) (by rfl),by simpa using hc 0 (G.hd d p) (by simp[vals])⟩
 |.tup xs,_,_,_,h,_,_,_,_=>absurd rfl (h xs)
theorem zFl:(xs:List T)→ ∀(p:List Nat)(j B o:Nat),yO xs=dL→
  (∀i x,xs[i]? =dJ x→ ∀f,x.inT f=dL→G.ad d (f.reverse++((j+i)::p))=⟨B,o+(T.sizes (xs.take i)+x.offT f),dK⟩)→
  (∀i p',i<T.sizes xs→zB3 xs p j i=dJ p'→G.lb B (o+i)=dJ (dM,d,p'))→
  (∀i v,(zY G d xs p j)[i]? =dJ v→yI w B (o+i)=dJ v)→wS G w d xs p j B o
 | [],_,_,_,_,_,_,_,_=>by simp only[wS]
 |x::xs,p,j,B,o,hn,ha,hl,hc=>by
  simp only[yO,J2]at hn;have gW:∀ys,x≠.tup ys:=by rintro ys rfl;grind[T.okTup]
  simp only[wS];refine⟨zVo x (j::p) B o gW hn.1 (fun f hf=>by simpa[T.sizes]using ha 0 x (by simp) f hf) (fun i p' hi hp=>hl i p' (by grind[T.sizes]) (by simp only[zB3,hi,if_true];exact hp)) (fun i v hv=>hc i v ?_),
   zFl xs p (j+1) B (o+x.size) hn.2 (fun i y hy f hf=>?_) (fun i p' hi hp=>?_) (fun i v hv=>?_)⟩
  ·grind[zY]
  ·have:=ha (i+1) y (by grind) f hf
   grind[T.sizes]
  ·have:=hl (x.size+i) p' (by grind[T.sizes]) (by simp only[zB3];grind)
   grind
  ·have:=hc (x.size+i) v (by
    grind[zY,wP])
   grind
end
end
structure MvC (G:Gh) (w:World) (G':Gh) (w':World) (s:Nat) (p:List Nat) (s':Nat) (p':List Nat) (t:T):Prop where
 hd:∀z,G'.hd s' (z++p')=G.hd s (z++p)
 ad:∀z,t.inT z.reverse=dM→G'.ad s' (z++p')=G.ad s (z++p)
 lb:∀b o f z,(f=dL∨t.inT z.reverse=dM)→G.lb b o=dJ (f,s,z++p)→G'.lb b o=dJ (f,s',z++p')∧yI w' b o=yI w b o
 ow:∀b z,G.ow b=dJ (s,z++p)→G'.ow b=dJ (s',z++p')
 blk:Blk w w'
section
variable {St:Stb}{G:Gh}{w:World}{G':Gh}{w':World}{s:Nat}{s':Nat}
theorem MvC.moves{p p':List Nat}{t:T}(h:MvC G w G' w' s p s' p' t)(ht:t.single=dL):zHy G w G' w' s p s' p' where
 hd:=h.hd
 ad z hz:=h.ad z (zFB ht (by simp_all))
 lb b o f z hz _ hl:=h.lb b o f z (.inr (zFB ht (by simp_all))) hl
 ow b z _ hl:=h.ow b z hl
 blk:=h.blk
 sp b o _ hl:=by simpa using h.lb b o dL [] (.inl rfl) (by grind)
 ow0 b hl:=by simpa using h.ow b [] (by grind)
theorem MvC.field{p p':List Nat}{xs:List T}(h:MvC G w G' w' s p s' p' (.agg xs)){j:Nat}{x:T}(hx:xs[j]? =dJ x):MvC G w G' w' s (j::p) s' (j::p') x where
 hd z:=by have:=h.hd (z++[j]);grind
 ad z hz:=by
  have:=h.ad (z++[j]) (by grind[T.inT])
  grind
 lb b o f z hf hl:=by
  have:=h.lb b o f (z++[j]) (by grind[T.inT]) (by grind)
  grind
 ow b z hl:=by
  have:=h.ow b (z++[j]) (by grind)
  grind
 blk:=h.blk
mutual
theorem zJ0:(t:T)→ ∀(p p':List Nat),t.okTup=dL→MvC G w G' w' s p s' p' t→yT (kE G G') t→R St G w s t p→R St G' w' s' t p'
 |.agg xs,p,p',hn,h,hk,hr=>by
  simp only[R,yT,T.okTup]at hr hk hn ⊢
  exact zP8 xs p p' 0 hn (fun j x hx=>by rw[J8];exact h.field hx) hk hr
 |.any,p,p',_,h,hk,hr|.lit _,p,p',_,h,hk,hr|.ro _,p,p',_,h,hk,hr|.same _ _,p,p',_,h,hk,hr|.addr _ _,p,p',_,h,hk,hr|.sub _ _ _ _ _,p,p',_,h,hk,hr|.sl _ _,p,p',_,h,hk,hr|.ptr _,p,p',_,h,hk,hr=>
  zAl (h.moves rfl) _ hk hr
 |.tup _,_,_,hn,_,_,_=>by grind[T.okTup]
theorem zP8:(xs:List T)→ ∀(p p':List Nat)(j:Nat),yO xs=dL→(∀i x,xs[i]? =dJ x→MvC G w G' w' s ((j+i)::p) s' ((j+i)::p') x)→xL (kE G G') xs→RF St G w s xs p j→RF St G' w' s' xs p' j
 | [],_,_,_,_,_,_,_=>by simp only[RF]
 |x::xs,p,p',j,hn,h,hk,hr=>by
  simp only[RF,xL,yO,J2]at hr hk hn ⊢
  exact⟨zJ0 x (j::p) (j::p') hn.1 (by simpa using h 0 x (by simp)) hk.1 hr.1,zP8 xs p p' (j+1) hn.2 (fun i y hy=>by
   have:=h (i+1) y (by grind)
   grind) hk.2 hr.2⟩
end
end
theorem zMV{St:Stb}{G:Gh}{w:World}{s:Nat}:(xs:List T)→ ∀(p:List Nat)(j:Nat),(∀i x,xs[i]? =dJ x→R St G w s x ((j+i)::p))→RF St G w s xs p j
 | [],_,_,_=>by simp only[RF]
 |x::xs,p,j,h=>by
  simp only[RF];exact⟨by simpa using h 0 x (by simp),zMV xs p (j+1) (fun i y hy=>by
   have:=h (i+1) y (by grind)
   grind)⟩
theorem zP9{St:Stb}{G:Gh}{w:World}{s:Nat}{k:Nat}:(xs:List T)→ ∀(p:List Nat)(j b o:Nat),(∀x∈xs,x.size=k)→wS G w s xs p j b o→RF St G w s xs p j→RL St G w s xs p j b o k
 | [],_,_,_,_,_,_,_=>by simp only[RL]
 |x::xs,p,j,b,o,hk,hl,hr=>by
  simp only[RL,wS,RF]at hl hr ⊢
  have h1:=hk x (by simp);exact⟨⟨hl.1,h1⟩,hr.1,zP9 xs p (j+1) b (o+k) (by grind) (by grind) hr.2⟩
theorem wC{k:Nat}:(xs:List T)→(∀x∈xs,x.size=k)→T.sizes xs=xs.length*k
 | [],_=>by simp[T.sizes]
 |x::xs,h=>by simp[T.sizes,wC xs (fun y hy=>h y (by simp[hy])),h x (by simp),Lz];omega
def Gh.nb(G:Gh)(d B:Nat)(xs:List T)(src:Nat→Option (Nat×List Nat))(φ:Nat→List Nat→Option (List Nat))(f:Nat→List Nat→Value)(gT:Value):Gh where
 hd s z:=if s=d then(match z.getLast? with
  |some i=>f i z.dropLast
  |none=>gT)else G.hd s z
 ad s z:=if s=d then(if(T.agg xs).inT z.reverse then⟨B,(T.agg xs).offT z.reverse,dK⟩else match z.getLast? with
  |some i=>(match src i with
   |some (x,q)=>G.ad x (z.dropLast++q)
   |none=>default)
  |none=>default)else G.ad s z
 lb b o:=if b=B then dJ (match zB3 xs [] 0 o with
  |some p=>(dM,d,p)
  |none=>(dL,d,[]))else match G.lb b o with
  |some (fl,s,z)=>(match φ s z with
   |some z'=>dJ (fl,d,z')
   |none=>dJ (fl,s,z))
  |none=>dK
 ow b:=if b=B then dJ (d,[])else match G.ow b with
  |some (s,z)=>(match φ s z with
   |some z'=>dJ (d,z')
   |none=>dJ (s,z))
  |none=>dK
theorem zCg{Γ:Ctx}{G:Gh}{w w':World}(hm:Mem Γ G w){cells:Array Value}{e:TypeId}(hw:w'.heap=w.heap.push (.cells cells e))(d:Nat)(xs:List T)
  (src:Nat→Option (Nat×List Nat))(φ:Nat→List Nat→Option (List Nat))(f:Nat→List Nat→Value)(gT:Value)(chg:Chg)
  (gJ:yO xs=dL)(hf:∀(i:Nat)(z:List Nat),(f i z).oneCell'=dL)(hh:gT.oneCell'=dL)
  (hφ:∀(i:Nat) u x q(z:List Nat),xs[i]? =dJ u→src i=dJ (x,q)→φ x (z++q)=dJ (z++[i]))
  (aE:∀(i:Nat) u x q,xs[i]? =dJ u→src i=dJ (x,q)→(∀z,f i z=G.hd x (z++q))∧R Γ.St G w x u q∧zT u∧x≠d)
  (bM:∀(i:Nat) u,xs[i]? =dJ u→src i=dK→ ∀(G2:Gh)(w2:World),(∀z,G2.hd d (z++[i])=f i z)→R Γ.St G2 w2 d u [i])
  (fE:∀(G2:Gh),(∀i z,G2.hd d (z++[i])=f i z)→ ∀(o:Nat)(v:Value),(zY G2 d xs [] 0)[o]? =dJ v→cells[o]? =dJ v)
  (te:∀s p,(∀n,(s,n)∉(d,0)::chg)→φ s p=dK)(ho:w'.os=w.os:=by rfl)(hq:w'.output=w.output:=by rfl):
  qC ((d,0)::chg) G w (G.nb d w.heap.size xs src φ f gT) w'∧Mem Γ (G.nb d w.heap.size xs src φ f gT) w'∧
  wS (G.nb d w.heap.size xs src φ f gT) w' d xs [] 0 w.heap.size 0∧RF Γ.St (G.nb d w.heap.size xs src φ f gT) w' d xs [] 0∧
  w'.heap[w.heap.size]? =dJ (.cells cells e):=by
 have ep:w'.heap[w.heap.size]? =dJ (.cells cells e):=by grind
 have gG:∀b,b<w.heap.size→w'.heap[b]? =w.heap[b]?:=fun b hb=>by rw[hw,Array.getElem?_push];grind
 have gy:w'.heap.size=w.heap.size+1:=by grind
 have eF:∀b o,b<w.heap.size→yI w' b o=yI w b o:=fun b o hb=>by simp[yI,World.cell?,gG b hb]
 have gK:Blk w w':=fun b cs e' h=>⟨cs,by rw[gG b (by grind)];exact h,rfl⟩
 have gA:=hm.one
 generalize gp:G.nb d w.heap.size xs src φ f gT=G'
 have ghd:∀i z,G'.hd d (z++[i])=f i z:=fun i z=>by rw[←gp];simp[Gh.nb]
 have gad:∀g,(T.agg xs).inT g=dL→G'.ad d g.reverse=⟨w.heap.size,(T.agg xs).offT g,dK⟩:=fun g hg=>by rw[←gp];simp[Gh.nb,hg]
 have gadm:∀i x q z,src i=dJ (x,q)→(T.agg xs).inT (i::z.reverse)=dM→G'.ad d (z++[i])=G.ad x (z++q):=fun i x q z hs hJ=>by rw[←gp];simp[Gh.nb,hJ,hs]
 have glb:∀o p,zB3 xs [] 0 o=dJ p→G'.lb w.heap.size o=dJ (dM,d,p):=fun o p h=>by rw[←gp];simp[Gh.nb,h]
 have glbm:∀b o fl x z z',G.lb b o=dJ (fl,x,z)→φ x z=dJ z'→G'.lb b o=dJ (fl,d,z'):=fun b o fl x z z' h1 h2=>by have:=(hm.lb b o _ h1).1;rw[←gp];simp[Gh.nb,h1,h2,show b≠w.heap.size from by omega]
 have gowm:∀b x z z',G.ow b=dJ (x,z)→φ x z=dJ z'→G'.ow b=dJ (d,z'):=fun b x z z' h1 h2=>by have:=(hm.ow b _ h1).1;rw[←gp];simp[Gh.nb,h1,h2,show b≠w.heap.size from by omega]
 have gf:∀s p,Off ((d,0)::chg) s p→s≠d:=fun s p h e=>absurd (h 0 (by simp[e])) (by simp)
 have gx:qC ((d,0)::chg) G w G' w':=by
  refine⟨fun s p h=>?_,fun s p h=>?_,fun b o fl s p _ hl h=>⟨?_,eF b o (hm.lb b o _ hl).1⟩,fun b s p hl h=>?_,gK⟩
  ·rw[←gp];simp[Gh.nb,gf s p h]
  ·rw[←gp];simp[Gh.nb,gf s p h]
  ·have:=(hm.lb b o _ hl).1
   rw[←gp];simp[Gh.nb,hl,te s p h,show b≠w.heap.size from by omega]
  ·have:=(hm.ow b _ hl).1
   rw[←gp];simp[Gh.nb,hl,te s p h,show b≠w.heap.size from by omega]
 refine⟨gx,?_,?_,?_,ep⟩
 ·
  have hB:zB0 Γ w' w.heap.size:=⟨by omega,.inl hm.sz,by
   cases gL:Γ.St w.heap.size with
   |none=>rfl
   |some x=>have:=hm.st _ x gL;simp at this⟩
  have f7:∀b,zB0 Γ w b→zB0 Γ w' b:=fun b h=>⟨by have:=h.1;omega,h.2⟩
  refine⟨fun s p=>?_,fun b o l hl=>?_,fun b l hl=>?_,fun b x hx=>?_,fun b h1 h2=>?_,by have:=hm.sz;omega,hm.bk.trans gK ho hq⟩
  ·rw[←gp]
   simp only[Gh.nb];split
   ·split
    ·exact hf _ _
    ·exact hh
   ·exact gA s p
  ·rw[←gp]at hl
   simp only[Gh.nb]at hl;split at hl
   ·grind
   ·split at hl
    ·rename_i hg;exact f7 b (hm.lb b o _ hg)
    ·cases hl
  ·rw[←gp]at hl
   simp only[Gh.nb]at hl;split at hl
   ·grind
   ·split at hl
    ·rename_i hg;exact f7 b (hm.ow b _ hg)
    ·cases hl
  ·have:=hm.st b x hx
   rw[gG b (Kr.1 this).1];exact this
  ·rw[gG b (Ja5 h1 hm.sz)]
   exact hm.fr b h1 h2
 ·
  refine zFl xs [] 0 w.heap.size 0 gJ (fun i x hx g hg=>?_) (fun i p' _ hp=>by simpa using glb i p' hp) (fun i v hv=>?_)
  ·have:=gad (i::g) (by simp only[T.inT,hx];exact hg)
   simpa[T.offT,hx]using this
  ·have:=fE G' ghd i v hv
   rw[J8];simp[yI,World.cell?,ep,this]
 ·
  refine zMV xs [] 0 (fun i u hu=>?_);rw[J8];cases hs:src i with
  |none=>exact bM i u hu hs G' w' (fun z=>ghd i z)
  |some xq=>
   obtain⟨x,q⟩:=xq;obtain⟨h1,h2,h3,h4⟩:=aE i u x q hu hs;have hJ:∀g,(T.agg xs).inT (i::g)=u.inT g:=fun g=>by simp only[T.inT,hu]
   refine zJ0 u q [i] (okTups_get xs gJ i u hu) ⟨fun z=>by rw[ghd,h1],fun z hz=>gadm i x q z hs (by rw[hJ];exact hz),fun b o fl z hz hl=>⟨glbm b o fl x _ _ hl (hφ i u x q z hu hs),eF b o (hm.lb b o _ hl).1⟩,
    fun b z hl=>gowm b x _ _ hl (hφ i u x q z hu hs),gK⟩ (yT.mono (by simp) u h3) h2
where okTups_get:(xs:List T)→yO xs=dL→ ∀(i:Nat)(x:T),xs[i]? =dJ x→x.okTup=dL
 | [],_,_,_,h=>by simp at h
 |y::ys,hk,i,x,h=>by
  simp only[yO,J2]at hk;cases i with
  |zero=>grind
  |succ i=>exact okTups_get ys hk.2 i x (by grind)
end Go.Ab

namespace Go.Ab
open Go
inductive yK where
 |slot (s:Nat) (t:T)
 |zero (u:T)
def yK.tree:yK→T
 |.slot _ t=>t
 |.zero u=>u
def tQ:T→Bool
 |.lit _|.ro _=>dM
 |_=>dL
mutual
def T.zOk:T→Bool
 |.lit v=>v.oneCell'
 |.sl _ xs=>xs.isEmpty
 |.agg xs=>kG xs
 |.any|.ro _|.same _ _|.addr _ _|.sub _ _ _ _ _|.ptr _|.tup _=>dM
def kG:List T→Bool
 | []=>dL
 |x::xs=>x.zOk&&kG xs
end
def zhd:T→List Nat→Value
 |.agg xs,i::f=>match xs[i]? with
  |some x=>zhd x f
  |none=>.bool dM
 |.lit v,_=>v
 |.sl _ _,_=>.slice dK 0 0
 |.agg _,[] |.any,_|.ro _,_|.same _ _,_|.addr _ _,_|.sub _ _ _ _ _,_|.ptr _,_|.tup _,_=>.bool dM
termination_by structural _ f=>f
mutual
def uV:T→List Value
 |.lit v=>[v]
 |.sl _ _=>[.slice dK 0 0]
 |.agg xs=>sE xs
 |.any|.ro _|.same _ _|.addr _ _|.sub _ _ _ _ _|.ptr _|.tup _=>[]
def sE:List T→List Value
 | []=>[]
 |x::xs=>uV x++sE xs
end
section
variable {St:Stb}{G:Gh}{w:World}{d:Nat}
mutual
theorem zI4:(u:T)→ ∀(p:List Nat),u.zOk=dL→(∀z,G.hd d (z++p)=jM (zhd u z.reverse))→R St G w d u p
 |.lit v,p,h,hd=>by
  simp only[T.zOk,R]at h ⊢
  have:=hd [];rw[K1]at this;rw[this];exact zAo h
 |.sl k xs,p,h,hd=>by simp only[T.zOk,Jaj]at h;subst h;have:=hd [];rw[K1]at this;simp only[R];exact .inl ⟨trivial,dK,by rw[this];rfl⟩
 |.agg xs,p,h,hd=>by
  simp only[T.zOk,R]at h ⊢
  exact zMW xs p 0 h (fun i x hx z=>by
   rw[J8];have:=hd (z++[i])
   grind[zhd])
 |.any,_,h,_|.ro _,_,h,_|.same _ _,_,h,_|.addr _ _,_,h,_|.sub _ _ _ _ _,_,h,_|.ptr _,_,h,_|.tup _,_,h,_=>by grind[T.zOk]
theorem zMW:(xs:List T)→ ∀(p:List Nat)(j:Nat),kG xs=dL→(∀i x,xs[i]? =dJ x→ ∀z,G.hd d (z++((j+i)::p))=jM (zhd x z.reverse))→RF St G w d xs p j
 | [],_,_,_,_=>by simp only[RF]
 |x::xs,p,j,h,hd=>by
  simp only[kG,J2,RF]at h ⊢
  exact⟨zI4 x (j::p) h.1 (by simpa using hd 0 x (by simp)),zMW xs p (j+1) h.2 (fun i y hy z=>by
   have:=hd (i+1) y (by grind) z
   grind)⟩
end
end
section
variable {G:Gh}{d:Nat}
mutual
theorem zEc:(u:T)→ ∀(p:List Nat),u.zOk=dL→(∀z,G.hd d (z++p)=jM (zhd u z.reverse))→vals G d u p=uV u
 |.lit v,p,h,hd=>by
  simp only[T.zOk,vals,uV]at h ⊢
  have:=hd []
  grind[zhd,zAo]
 |.sl k xs,p,h,hd=>by
  have:=hd []
  grind[vals,uV,zhd,jM,Value.oneCell']
 |.agg xs,p,h,hd=>by
  simp only[T.zOk,vals,uV]at h ⊢
  exact zCM xs p 0 h (fun i x hx z=>by
   rw[J8];have:=hd (z++[i])
   grind[zhd])
 |.any,_,h,_|.ro _,_,h,_|.same _ _,_,h,_|.addr _ _,_,h,_|.sub _ _ _ _ _,_,h,_|.ptr _,_,h,_|.tup _,_,h,_=>by grind[T.zOk]
theorem zCM:(xs:List T)→ ∀(p:List Nat)(j:Nat),kG xs=dL→(∀i x,xs[i]? =dJ x→ ∀z,G.hd d (z++((j+i)::p))=jM (zhd x z.reverse))→zY G d xs p j=sE xs
 | [],_,_,_,_=>by rfl
 |x::xs,p,j,h,hd=>by
  simp only[kG,J2,zY,sE]at h ⊢
  rw[zEc x (j::p) h.1 (by simpa using hd 0 x (by simp)),zCM xs p (j+1) h.2 (fun i y hy z=>by
   have:=hd (i+1) y (by grind) z
   grind)]
end
end
mutual
theorem zA6:(u:T)→u.zOk=dL→zT u∧u.okTup=dL
 |.lit _,_=>by simp[zT,yT,T.okTup]
 |.sl _ xs,h=>by simp only[T.zOk,Jaj]at h;subst h;simp[zT,yT,xL,T.okTup]
 |.agg xs,h=>by simp only[T.zOk]at h;simpa only[zT,yT,T.okTup]using zAZ xs h
 |.any,h|.ro _,h|.same _ _,h|.addr _ _,h|.sub _ _ _ _ _,h|.ptr _,h|.tup _,h=>by grind[T.zOk]
theorem zAZ:(xs:List T)→kG xs=dL→xI xs∧yO xs=dL
 | [],_=>by simp[xI,xL,yO]
 |x::xs,h=>by simp only[kG,J2]at h;simp only[xI,xL,yO,J2];exact⟨⟨(zA6 x h.1).1,(zAZ xs h.2).1⟩,(zA6 x h.1).2,(zAZ xs h.2).2⟩
end
mutual
theorem wO:(u:T)→u.zOk=dL→(uV u).length=u.size
 |.lit _,_|.sl _ _,_=>by rfl
 |.agg xs,h=>by simp only[T.zOk]at h;simp only[uV,T.size];exact zAz xs h
 |.any,h|.ro _,h|.same _ _,h|.addr _ _,h|.sub _ _ _ _ _,h|.ptr _,h|.tup _,h=>by grind[T.zOk]
theorem zAz:(xs:List T)→kG xs=dL→(sE xs).length=T.sizes xs
 | [],_=>by rfl
 |x::xs,h=>by simp only[kG,J2]at h;simp only[sE,Ja,T.sizes,wO x h.1,zAz xs h.2]
end
def zFC(ps:List yK)(i:Nat):Option (Nat×List Nat):=
 match ps[i]? with
 |some (.slot s t)=>if tQ t then dJ (s,[])else dK
 |_=>dK
def zHb:List yK→Nat→Nat→Option Nat
 | [],_,_=>dK
 |.slot x t::r,i,s=>if tQ t&&x==s then dJ i else zHb r (i+1) s
 |.zero _::r,i,s=>zHb r (i+1) s
def zHc(ps:List yK)(s:Nat)(z:List Nat):Option (List Nat):=
 match zHb ps 0 s with
 |some i=>dJ (z++[i])
 |none=>dK
def pWr(d:Nat):List yK→Nat→Wr
 | [],_=>[]
 |.slot s t::r,i=>if tQ t then(s,dJ (cpT d t [i]))::pWr d r (i+1)else pWr d r (i+1)
 |.zero _::r,i=>pWr d r (i+1)
def xD:List yK→List Nat
 | []=>[]
 |.slot s t::r=>if tQ t then s::xD r else xD r
 |.zero _::r=>xD r
def tR(ps:List yK):Chg:=(xD ps).map fun s=>(s,1)
def sL(G:Gh):yK→List Value
 |.slot s t=>vals G s t []
 |.zero u=>uV u
def pHd(G:Gh)(ps:List yK)(i:Nat)(z:List Nat):Value:=
 match ps[i]? with
 |some (.slot s _)=>G.hd s z
 |some (.zero u)=>jM (zhd u z.reverse)
 |none=>.bool dM
structure uR (E:Env) (d:Nat) (ps:List yK):Prop where
 slot:∀s t,yK.slot s t∈ps→E s=dJ t∧zT t∧t.okTup=dL
 zero:∀u,yK.zero u∈ps→u.zOk=dL
 dist:(d::xD ps).Nodup
theorem zA7:(ps:List yK)→ ∀(i0 i s:Nat)(t:T),ps[i]? =dJ (.slot s t)→tQ t=dL→(xD ps).Nodup→zHb ps i0 s=dJ (i0+i)
 | [],_,_,_,_,h,_,_=>by simp at h
 |.slot x u::r,i0,i,s,t,h,hm,hn=>by
  cases i with
  |zero=>simp at h;obtain⟨rfl,rfl⟩:=h;simp[zHb,hm]
  |succ i=>
   simp only[Gu]at h;have hJ:s∈xD r:=pSlots_mem r i s t h hm;simp only[zHb]
   by_cases hu:tQ u=dL
   ·simp only[xD,hu,if_true,Kv]at hn
    have:x≠s:=by grind
    simp only[hu,Bool.true_and,beq_iff_eq,this,if_false];rw[zA7 r (i0+1) i s t h hm hn.2]
    grind
   ·simp only[xD,hu]at hn
    simp only[hu,Jby,H7,if_false];rw[zA7 r (i0+1) i s t h hm (by grind)]
    grind
 |.zero u::r,i0,i,s,t,h,hm,hn=>by
  cases i with
  |zero=>simp at h
  |succ i=>
   simp only[Gu]at h;simp only[zHb];rw[zA7 r (i0+1) i s t h hm (by grind[xD])]
   grind
where pSlots_mem:(ps:List yK)→ ∀(i s:Nat)(t:T),ps[i]? =dJ (.slot s t)→tQ t=dL→s∈xD ps
 | [],_,_,_,h,_=>by simp at h
 |.slot x u::r,i,s,t,h,hm=>by
  cases i with
  |zero=>simp at h;obtain⟨rfl,rfl⟩:=h;simp[xD,hm]
  |succ i=>
   have:=pSlots_mem r i s t (by grind) hm
   grind[xD]
 |.zero u::r,i,s,t,h,hm=>by
  cases i with
  |zero=>simp at h
  |succ i=>simpa only[xD]using pSlots_mem r i s t (by grind) hm
theorem zCh:(ps:List yK)→ ∀(i0 s:Nat),s∉xD ps→zHb ps i0 s=dK
 | [],_,_,_=>by rfl
 |.slot x u::r,i0,s,h=>by
  simp only[zHb]
  by_cases hu:tQ u=dL
  ·simp only[xD,hu,if_true,Jn,not_or]at h
   simp only[hu,Bool.true_and,beq_iff_eq,Ne.symm h.1,if_false];exact zCh r _ s h.2
  ·simp only[xD,hu]at h
   simp only[hu,Jby,H7,if_false];exact zCh r _ s (by grind)
 |.zero u::r,i0,s,h=>by simp only[zHb];exact zCh r _ s (by grind[xD])
theorem zB4:(ps:List yK)→ ∀(d i0 s:Nat)(x:Option T),(pWr d ps i0).find s=dJ x→ ∃i t,ps[i]? =dJ (.slot s t)∧tQ t=dL∧x=dJ (cpT d t [i0+i])
 | [],_,_,_,_,h=>by grind[pWr,Wr.find]
 |.slot y u::r,d,i0,s,x,h=>by
  simp only[pWr]at h;split at h
  ·rename_i hu
   simp only[Wr.find]at h;split at h
   ·rename_i he;subst he;simp at h;exact⟨0,u,by simp,hu,by grind⟩
   ·obtain⟨i,t,h1,h2,h3⟩:=zB4 r d (i0+1) s x h
    exact⟨i+1,t,by grind,h2,by grind⟩
  ·obtain⟨i,t,h1,h2,h3⟩:=zB4 r d (i0+1) s x h
   exact⟨i+1,t,by grind,h2,by grind⟩
 |.zero u::r,d,i0,s,x,h=>by simp only[pWr]at h;obtain⟨i,t,h1,h2,h3⟩:=zB4 r d (i0+1) s x h;exact⟨i+1,t,by grind,h2,by grind⟩
theorem zB5:(ps:List yK)→ ∀(d i0 s:Nat),(pWr d ps i0).find s=dK→s∉xD ps
 | [],_,_,_,_=>by simp[xD]
 |.slot y u::r,d,i0,s,h=>by
  simp only[pWr]at h;simp only[xD];split at h
  ·rename_i hu
   simp only[Wr.find]at h;split at h
   ·cases h
   ·rename_i gf
    simp only[hu,if_true,Jn,not_or];exact⟨fun e=>gf e.symm,zB5 r d _ s h⟩
  ·rename_i hu
   simp only[hu];simpa using zB5 r d _ s h
 |.zero u::r,d,i0,s,h=>by simp only[pWr]at h;simpa only[xD]using zB5 r d _ s h
section
variable {Γ:Ctx}{E:Env}{G:Gh}{tmps:Array Value}{w:World}{d:Nat}{ps:List yK}
theorem zEH(g9:Rep Γ E G tmps w)(h:uR E d ps):
  yO (ps.map yK.tree)=dL∧xI (ps.map yK.tree)∧(∀i z,(pHd G ps i z).oneCell'=dL)∧
  (∀(i:Nat) u x q(z:List Nat),(ps.map yK.tree)[i]? =dJ u→zFC ps i=dJ (x,q)→zHc ps x (z++q)=dJ (z++[i]))∧
  (∀(i:Nat) u x q,(ps.map yK.tree)[i]? =dJ u→zFC ps i=dJ (x,q)→(∀z,pHd G ps i z=G.hd x (z++q))∧R Γ.St G w x u q∧zT u∧x≠d)∧
  (∀(i:Nat) u,(ps.map yK.tree)[i]? =dJ u→zFC ps i=dK→ ∀(G2:Gh)(w2:World),(∀z,G2.hd d (z++[i])=pHd G ps i z)→R Γ.St G2 w2 d u [i])∧
  (∀s p,(∀n,(s,n)∉(d,0)::tR ps)→zHc ps s p=dK):=by
 have ph:=Kv.1 h.dist;refine⟨?_,?_,?_,?_,?_,?_,?_⟩
 ·have:∀qs:List yK,(∀p∈qs,p∈ps)→yO (qs.map yK.tree)=dL:=by
   intro qs
   induction qs with
   |nil=>intro _;rfl
   |cons q qs ih=>
    intro hq;simp only[Jm,yO,J2];refine⟨?_,by grind⟩;cases q with
    |slot s t=>exact(h.slot s t (hq _ (by simp))).2.2
    |zero u=>exact(zA6 u (h.zero u (hq _ (by simp)))).2
  grind
 ·have:∀qs:List yK,(∀p∈qs,p∈ps)→xI (qs.map yK.tree):=by
   intro qs
   induction qs with
   |nil=>intro _;trivial
   |cons q qs ih=>
    intro hq;simp only[Jm,xI,xL];refine⟨?_,by grind⟩;cases q with
    |slot s t=>exact(h.slot s t (hq _ (by simp))).2.1
    |zero u=>exact(zA6 u (h.zero u (hq _ (by simp)))).1
  grind
 ·intro i z
  unfold pHd;split
  ·exact g9.mem.one _ _
  ·exact zA5 _
  ·rfl
 ·intro i u x q z hu hs
  rw[Jp]at hu;unfold zFC at hs;cases hp:ps[i]? with
  |none=>grind
  |some p=>
   cases p with
   |zero v=>grind
   |slot s t=>
    simp only[hp]at hs;split at hs
    ·rename_i hm
     simp at hs;obtain⟨rfl,rfl⟩:=hs;simp[zHc,zA7 ps 0 i s t hp hm ph.2]
    ·cases hs
 ·intro i u x q hu hs
  rw[Jp]at hu;unfold zFC at hs;cases hp:ps[i]? with
  |none=>grind
  |some p=>
   cases p with
   |zero v=>grind
   |slot s t=>
    simp only[hp]at hs;split at hs
    ·rename_i hm
     simp at hs;obtain⟨rfl,rfl⟩:=hs;simp[hp,yK.tree]at hu;subst hu;obtain⟨h1,h2,h3⟩:=h.slot s t (by grind);refine⟨by grind[pHd],(g9.ent s t h1).2.1,h2,fun e=>ph.1 ?_⟩
     grind[zA7.pSlots_mem]
    ·cases hs
 ·intro i u hu hs G2 w2 eG
  rw[Jp]at hu;unfold zFC at hs;cases hp:ps[i]? with
  |none=>grind
  |some p=>
   cases p with
   |zero v=>
    simp[hp,yK.tree]at hu;subst hu;exact zI4 v [i] (h.zero v (by grind)) (by grind[pHd])
   |slot s t=>
    simp only[hp]at hs;split at hs
    ·cases hs
    ·rename_i hm
     simp[hp,yK.tree]at hu;subst hu;have h1:=(g9.ent s t (h.slot s t (by grind)).1).2.1;have h2:G2.hd d [i]=G.hd s []:=by have:=eG [];grind[pHd]
     cases t<;>simp[tQ]at hm<;>simp only[R]at h1 ⊢ <;>rw[h2]<;>exact h1
 ·intro s p gF
  have:s∉xD ps:=fun hJ=>gF 1 (by grind[tR])
  grind[zHc,zCh]
theorem zCN(g9:Rep Γ E G tmps w)(h:uR E d ps)(G2:Gh):∀(qs:List yK)(i0:Nat),(∀i q,qs[i]? =dJ q→ps[i0+i]? =dJ q)→(∀i z,G2.hd d (z++[i])=pHd G ps i z)→
  zY G2 d (qs.map yK.tree) [] i0=qs.flatMap (sL G)
 | [],_,_,_=>by rfl
 |q::qs,i0,hq,eG=>by
  have h0:ps[i0]? =dJ q:=by simpa using hq 0 q (by simp)
  have ih:=zCN g9 h G2 qs (i0+1) (fun i p hp=>by rw[show i0+1+i=i0+(i+1)from by omega];simp_all) eG;simp only[Jm,zY,Lp,ih]
  congr 1
  cases q with
  |slot s t=>exact zAm t [] [i0] (by grind[pHd])
  |zero u=>exact zEc u [i0] (h.zero u (by grind)) (by grind[pHd])
end
end Go.Ab

namespace Go.Ab
open Go
section
variable {P:Program}{Γ:Ctx}{E:Env}{o:Oper}{d:Nat}
theorem zH3{G G':Gh}{w':World}{s i:Nat}{t:T}{v:Option Value}(hv:v=dJ (mkV G s t []))(gW:∀xs,t≠.tup xs)(hs:∀p,G'.hd s p=G.hd s p)(pi:∀z,G'.hd d (z++[i])=G.hd s z)
  (hr:R Γ.St G' w' d t [i]):Ent Γ G' w' v s (cpT d t [i]):=by
 have hz:∀z,G'.hd s (z++[])=G'.hd d (z++[i]):=by grind
 refine⟨?_,?_,sP d t [i]⟩
 ·rw[hv,kV (G:=G') (G':=G') t [i] [] gW hz,jL G s t [] gW,zAW t [] [i] (fun z=>by rw[pi,Jg])]
 ·exact zCI (G:=G') (G':=G') (fun _=>rfl) t [i] [] hz gW (yT.triv (fun _ _=>⟨rfl,rfl⟩) _) hr
theorem zA8{G:Gh}{a:Act}{w w':World}{ps:List yK}(g9:Rep Γ E G a.tmps w)(h:uR E d ps)(hd:d<Γ.N){cells:Array Value}{e:TypeId}(hw:w'.heap=w.heap.push (.cells cells e))
  (fE:∀(o:Nat)(v:Value),(ps.flatMap (sL G))[o]? =dJ v→cells[o]? =dJ v)
  (rt:T)(gT:Value)
  (eC:(∃k cap,rt=.sl k (ps.map yK.tree)∧(∀p∈ps,p.tree.size=k)∧gT=.slice (dJ ⟨w.heap.size,0,dK⟩) ps.length cap∧ps.length≤cap∧cap≤maxLen∧cells.size=cap*k)∨
   ∃p,ps=[p]∧rt=.ptr p.tree∧gT=.pointer (dJ ⟨w.heap.size,0,dK⟩)∧cells.size=p.tree.size)
  (ho:w'.os=w.os:=by rfl)(hq:w'.output=w.output:=by rfl):
  ∃G',Rep Γ (E.app ((d,dJ rt)::pWr d ps 0) ((d,0)::tR ps)) G' (a.tmps.setIfInBounds d gT) w':=by
 obtain⟨f1,f0,f2,f3,f4,f5,f6⟩:=zEH g9 h;have hh:gT.oneCell'=dL:=by rcases eC with⟨k,cap,_,_,rfl,_⟩|⟨p,_,_,rfl,_⟩<;>rfl
 have ph:=Kv.1 h.dist;obtain⟨g1,g2,g3,g4,g5⟩:=zCg g9.mem hw d (ps.map yK.tree) (zFC ps) (zHc ps) (pHd G ps) gT (tR ps) f1 f2 hh f3 f4 f5
  (fun G2 eG o v hv=>fE o v (by rw[zCN g9 h G2 ps 0 (by simp) eG]at hv;exact hv)) f6 (ho:=ho) (hq:=hq)
 refine⟨_,wX g9 (by simp) g1 g2 ?_ ?_⟩
 ·intro s hs
  simp only[Wr.find]at hs;split at hs
  ·cases hs
  ·rename_i gf
   have hns:=zB5 ps d 0 s hs;refine⟨fun n hn=>?_,by grind⟩;simp only[Jn,Qv.injEq,tR,Jh]at hn;rcases hn with⟨e1,_⟩|⟨y,hy,e1,_⟩
   ·omega
   grind
 ·intro s t hs
  simp only[Wr.find]at hs;split at hs
  ·rename_i he
   subst he;simp at hs;subst hs;have ch:(G.nb d w.heap.size (ps.map yK.tree) (zFC ps) (zHc ps) (pHd G ps) gT).hd d []=gT:=by simp[Gh.nb]
   have how:(G.nb d w.heap.size (ps.map yK.tree) (zFC ps) (zHc ps) (pHd G ps) gT).ow w.heap.size=dJ (d,[]):=by simp[Gh.nb]
   refine⟨?_,?_,?_⟩
   ·rw[Jc]
    rcases eC with⟨k,cap,rfl,_⟩|⟨p,_,rfl,_⟩<;>simp[g9.size,hd,mkV,ch]
   ·rcases eC with⟨k,cap,rfl,hk,h1,h2,h3,h4⟩|⟨p,rfl,rfl,h1,h4⟩
    ·simp only[R]
     rw[ch];refine .inr ⟨w.heap.size,cap,cells,e,by grind,g5,by grind,h3,by omega,how,?_,zP9 _ _ _ _ _ (fun x hx=>?_) g3 g4⟩
     ·intro o ho _
      have gy:T.sizes (ps.map yK.tree)=(ps.map yK.tree).length*k:=wC _ (fun x hx=>by
       obtain⟨p,hp,rfl⟩:=Jh.1 hx
       grind)
      simp[Gh.nb,zCL (ps.map yK.tree) [] 0 o (by omega)]
     ·obtain⟨p,hp,rfl⟩:=Jh.1 hx
      grind
    ·simp only[R]
     rw[ch];simp only[Jm,Ub,wS,RF]at g3 g4;exact⟨w.heap.size,cells,e,h1,g5,h4,how,g3.1,g4.1⟩
   ·rcases eC with⟨k,cap,rfl,_⟩|⟨p,rfl,rfl,_⟩
    ·simp only[Top];exact f0
    ·simp only[Top];exact f0.1
  ·rename_i gf
   obtain⟨i,u,h1,h2,h3⟩:=zB4 ps d 0 s _ hs;simp only[J8]at h3;simp at h3;subst h3;obtain⟨h4,h5,h6⟩:=h.slot s u (Le h1);have gW:∀xs,u≠.tup xs:=by rintro xs rfl;simp[T.okTup]at h6
   have hi:(ps.map yK.tree)[i]? =dJ u:=by simp[h1,yK.tree]
   have hr:=zAy _ [] 0 i u g4 hi;simp only[J8]at hr;refine zH3 (G:=G) (by rw[Jc];simp only[gf,if_false];exact(g9.ent s u h4).1) gW (fun p=>?_) (fun z=>?_) hr
   ·simp[Gh.nb,show s≠d from fun e=>gf e.symm]
   ·simp[Gh.nb,pHd,h1]
inductive jW (E:Env):Operand→yK→Prop where
 |slot (s:Nat) (t:T):jW E (.tmp s) (.slot s t)
 |zero (v:Value) (u:T) (h:uV u=v.cells.toList):jW E (.const v) (.zero u)
theorem kX{G:Gh}{a:Act}{w:World}{ps:List yK}(g9:Rep Γ E G a.tmps w)(h:uR E d ps){x:Operand}{p:yK}(hp:p∈ps)(hx:jW E x p):
  (a.eval x).cells.toList=sL G p:=by
 cases hx with
 |slot s t=>
  obtain⟨h1,h2,h3⟩:=h.slot s t hp;obtain⟨h4,_,_⟩:=g9.ent s t h1;rw[xT h4];cases t with
  |agg xs=>rfl
  |tup xs=>grind[T.okTup]
  |_=>
   have:=g9.mem.one s [];simp only[mkV,vals,sL]
   generalize G.hd s []=v at this
   cases v<;>simp[Value.oneCell',Value.cells]at this ⊢
 |zero v u h=>simp[Act.eval,h,sL]
def vQ(E:Env):List Operand→List yK→Prop
 | [],[]=>True
 |x::xs,p::ps=>jW E x p∧vQ E xs ps
 |_,_=>False
theorem vQ.length:(xs:List Operand)→(ps:List yK)→vQ E xs ps→xs.length=ps.length
 | [],[],_=>rfl
 |_::xs,_::ps,h=>by simp[vQ.length xs ps h.2]
 | [],_::_,h=>by simp[vQ]at h
 |_::_,[],h=>by simp[vQ]at h
theorem vQ.mem:(xs:List Operand)→(ps:List yK)→vQ E xs ps→ ∀x∈xs,∃p,p∈ps∧jW E x p
 | [],_,_,x,hx=>by simp at hx
 |y::xs,p::ps,h,x,hx=>by
  rcases Jn.1 hx with rfl|hx
  ·exact⟨p,by simp,h.1⟩
  ·obtain⟨q,hq,hxq⟩:=vQ.mem xs ps h.2 x hx;exact⟨q,by simp[hq],hxq⟩
 |_::_,[],h,_,_=>by simp[vQ]at h
theorem zFD{G:Gh}{a:Act}{w:World}{ps:List yK}(g9:Rep Γ E G a.tmps w)(h:uR E d ps):∀(xs:List Operand)(qs:List yK),(∀q∈qs,q∈ps)→vQ E xs qs→
  ((xs.map a.eval).flatMap fun v=>v.cells.toList)=qs.flatMap (sL G)
 | [],[],_,_=>rfl
 |x::xs,q::qs,hq,hx=>by simp only[Jm,Lp,kX g9 h (hq q (by simp)) hx.1,zFD g9 h xs qs (by grind) hx.2]
 | [],_::_,_,hx=>by simp[vQ]at hx
 |_::_,[],_,hx=>by simp[vQ]at hx
theorem zPA(T':TypeId)(ti:TypeInfo)(z:Value)(u:T)(ho:o.op=.alloc T')(gj:o.dst=dJ d)(hd:d<Γ.N)
  (hi:P.info? T'=dJ ti)(hz:ti.zero=dJ z)(hu:u.zOk=dL)(hv:uV u=z.cells.toList)(gy:z.cells.size=u.size):
  xV P Γ o E (E.app [(d,dJ (.ptr u))] [(d,0)]):=by
 refine xV.value gj fun a w G g9=>?_
 have gR:uR E d [.zero u]:=⟨by simp,by grind,by simp[xD]⟩;obtain⟨G',gp⟩:=zA8 (w':=w.alloc (.cells z.cells T')) g9 gR hd (cells:=z.cells) (e:=T') rfl (by grind[sL]) (.ptr u) (.pointer (dJ ⟨w.heap.size,0,dK⟩)) (.inr ⟨.zero u,rfl,rfl,rfl,gy⟩);refine⟨_,_,?_,G',by simpa[pWr,tR,xD]using gp⟩;simp[execOp,ho,Instr.alloc,zeroValue,typeInfo,hi,hz,newVar,newRow]
theorem zVp(T':TypeId)(x:Operand)(p:yK)(ho:o.op=.box T' x)(gj:o.dst=dJ d)(hd:d<Γ.N)(hx:jW E x p)(gR:uR E d [p]):
  xV P Γ o E (E.app ((d,dJ (.ptr p.tree))::pWr d [p] 0) ((d,0)::tR [p])):=by
 refine xV.value gj fun a w G g9=>?_
 have hc:=kX g9 gR (by simp) hx;have gy:(a.eval x).cells.size=p.tree.size:=by
  rw[←Kh,hc];cases p with
  |slot s t=>
   obtain⟨_,_,h3⟩:=gR.slot s t (by simp);show(vals G s t []).length=t.size;exact wP t [] (by rintro xs rfl;grind[T.okTup])
  |zero u=>exact wO u (gR.zero u (by simp))
 obtain⟨G',gp⟩:=zA8 (w':=w.alloc (.cells (a.eval x).cells T')) g9 gR hd (cells:=(a.eval x).cells) (e:=T') rfl (by grind) (.ptr p.tree) (.pointer (dJ ⟨w.heap.size,0,dK⟩)) (by grind);refine⟨_,_,?_,G',gp⟩;simp[execOp,ho,Instr.box,newVar,newRow]
theorem zHd(t e:TypeId)(ti:TypeInfo)(z:Value)(k n:Nat)(xs:List Operand)(ps:List yK)(ho:o.op=.buildSlice t n ((xs.zipIdx 0).map fun x=>(x.2,x.1)).toArray)(gj:o.dst=dJ d)(hd:d<Γ.N)
  (ht:P.underlying t=dJ (.slice e))(hi:P.info? e=dJ ti)(hz:ti.zero=dJ z)(hk:ti.size=k)(eu:0<k)(hn:xs.length=n)(bP:0<n)(mO:n*k≤2 ^ 24)
  (hx:vQ E xs ps)(gR:uR E d ps)(gy:∀p∈ps,p.tree.size=k):
  xV P Γ o E (E.app ((d,dJ (.sl k (ps.map yK.tree)))::pWr d ps 0) ((d,0)::tR ps)):=by
 refine xV.value gj fun a w G g9=>?_
 subst hk;have gm:xs.length=ps.length:=vQ.length xs ps hx;have hc:=zFD g9 gR xs ps (fun _ h=>h) hx;have fI:∀v∈xs.map a.eval,v.cells.size=ti.size:=by
  intro v hv;obtain⟨x,mL,rfl⟩:=Jh.1 hv;obtain⟨p,hp,hxp⟩:=vQ.mem xs ps hx x mL;rw[←Kh,kX g9 gR hp hxp,←gy p hp];cases p with
  |slot s t=>
   obtain⟨_,_,h3⟩:=gR.slot s t hp;show(vals G s t []).length=t.size;exact wP t [] (by rintro xs rfl;simp[T.okTup]at h3)
  |zero u=>exact wO u (gR.zero u hp)
 have t7:=Great.fill_whole eu (xs.map a.eval) ((Jb3 (n*ti.size)).map (z.cells[· %z.cells.size]!)) fI (by simp[hn]);have mm:((((xs.zipIdx 0).map fun x=>(x.2,x.1)).toArray).map fun(i,x)=>(i,a.eval x)).toList=((xs.map a.eval).zipIdx 0).map fun x=>(x.2,x.1):=by simp[List.zipIdx_map,Function.comp_def]
 have gz:=run_buildSlice (P:=P) w t e n _ _ ti z ht hi hz (by omega) (by have:=Nat.mul_pos bP eu;omega) (by rw[mm];exact t7);have gN:((xs.map a.eval).flatMap fun v=>v.cells.toList).toArray.size=n*ti.size:=by rw[Jao,zDS (k:=ti.size) _ (fun v hv=>by rw[Kh];exact fI v hv)];simp[hn]
 obtain⟨G',gp⟩:=zA8 (w':=w.alloc (.cells ((xs.map a.eval).flatMap fun v=>v.cells.toList).toArray e)) g9 gR hd rfl (fun o v h=>by rw[hc];simpa using h) (.sl ti.size (ps.map yK.tree)) (.slice (dJ ⟨w.heap.size,0,dK⟩) n n) (.inl ⟨ti.size,n,rfl,gy,by rw[←gm,hn],by omega,by have:n≤n*ti.size:=Ja6 n eu;simp only[maxLen];omega,gN⟩)
 refine⟨_,_,?_,G',gp⟩;simp only[execOp,ho,Sem.run_bind,gz,Result.andThen_ok];rfl
where
 zDS {k:Nat} (vs:List Value) (h:∀v∈vs,v.cells.toList.length=k):(vs.flatMap fun v=>v.cells.toList).length=vs.length*k:=by
  induction vs with
  |nil=>simp
  |cons v vs ih=>simp[Lp,ih (fun u hu=>h u (by simp[hu])),Lz];have:=h v (by simp);simp at this;omega
end
end Go.Ab

namespace Go.Ab
open Go
theorem zI5{α β:Type}(f:α→List β)(x:α)(k:Nat)(hk:(f x).length=k)(eu:0<k):∀(n o:Nat)(v:β),((J1 n x).flatMap f)[o]? =dJ v→o<n*k∧(f x)[o%k]? =dJ v
 |0,o,v,h=>by simp at h
 |n+1,o,v,h=>by
  rw[Km,Lp,Kb]at h;split at h
  ·grind[Nat.mod_eq_of_lt]
  ·rename_i hge
   rw[hk]at h hge;obtain⟨h1,h2⟩:=zI5 f x k hk eu n (o-k) v h
   grind[Nat.mod_eq_sub_mod]
section
variable {P:Program}{Γ:Ctx}{E:Env}{o:Oper}{d:Nat}
theorem zSY(t e:TypeId)(ti:TypeInfo)(z:Value)(u:T)(k:Nat)(x y:Operand)(n c:Nat)(kl kc:IntKind)(ho:o.op=.makeSlice t x y)(gj:o.dst=dJ d)(hd:d<Γ.N)
  (ht:P.underlying t=dJ (.slice e))(hi:P.info? e=dJ ti)(hz:ti.zero=dJ z)(hk:ti.size=k)(eu:0<k)(hu:u.zOk=dL)(hv:uV u=z.cells.toList)(ff:u.size=k)(hb:ti.bytes≤4096)
  (hx:opT E x=dJ (.lit (.int kl n)))(hy:opT E y=dJ (.lit (.int kc c)))(bO:n≤c)(hc:c≤68719476736):
  xV P Γ o E (E.app [(d,dJ (.sl k (J1 n u)))] [(d,0)]):=by
 refine xV.value gj fun a w G g9=>?_
 have h1:=(xX g9 hx).1;have h2:=(xX g9 hy).1;subst hk;have gR:uR E d (J1 n (.zero u)):=⟨by simp,fun v h=>by simp_all,by
  have:∀m,xD (J1 m (.zero u))=[]:=by intro m;induction m with|zero=>rfl|succ m ih=>grind[xD]
  simp[this]⟩
 have hzs:z.cells.size=ti.size:=by grind[wO]
 have mC:(ti.bytes:Int)*(c:Int)≤281474976710656:=by have:ti.bytes*c≤4096*68719476736:=Ku hb hc;omega
 have gz:=run_make (P:=P) w t e ti z ht hi hz kl kc n c (by omega) (by omega) mC (by omega);simp only[J6]at gz;obtain⟨G',gp⟩:=zA8 (w':=w.alloc (.cells (madeCells z.cells (c*ti.size)) e)) g9 gR hd rfl (fun i v h=>by
  obtain⟨h3,h4⟩:=zI5 (sL G) (.zero u) ti.size (by grind[sL]) eu n i v h
  grind[Ja5,H1,sL,madeCells]) (.sl ti.size (J1 n u)) (.slice (dJ ⟨w.heap.size,0,dK⟩) n c)
  (.inl ⟨ti.size,c,by simp[yK.tree],fun p hp=>by simp at hp;obtain⟨_,rfl⟩:=hp;exact ff,by simp,by grind,by grind[maxLen],by simp[madeCells]⟩)
 refine⟨.slice (dJ ⟨w.heap.size,0,dK⟩) n c,w.alloc (.cells (madeCells z.cells (c*ti.size)) e),?_,G',?_⟩
 ·simp only[execOp,ho,h1,h2,Sem.run_bind,gz,Result.andThen_ok]
  rfl
 ·have h6:∀m i,pWr d (J1 m (.zero u)) i=[]:=by intro m;induction m with|zero=>intro i;rfl|succ m ih=>grind[pWr]
  have h7:tR (J1 n (.zero u))=[]:=by
   have:∀m,xD (J1 m (.zero u))=[]:=by intro m;induction m with|zero=>rfl|succ m ih=>grind[xD]
   grind[tR]
  grind
theorem zFE(t e:TypeId)(ti:TypeInfo)(k:Nat)(ho:o.op=.buildSlice t 0 #[])(gj:o.dst=dJ d)(hd:d<Γ.N)
  (ht:P.underlying t=dJ (.slice e))(hi:P.info? e=dJ ti):xV P Γ o E (E.app [(d,dJ (.sl k []))] [(d,0)]):=by
 refine xV.value gj fun a w G g9=>?_
 have gR:uR E d []:=⟨by simp,by simp,by simp[xD]⟩;obtain⟨G',gp⟩:=zA8 (w':=w.alloc (.cells #[] e)) g9 gR hd (cells:=#[]) rfl (by simp) (.sl k []) (.slice (dJ ⟨w.heap.size,0,dK⟩) 0 0)
  (by simp)
 refine⟨_,_,?_,G',gp⟩;have h0:(Jb3 0:Array Nat)= #[]:=by rfl
 simp[execOp,ho,Instr.buildSlice,run_underlying ht,sizeOf,typeInfo,hi,Instr.fill,newRow,h0]
theorem zJ1(k:Nat)(x:Operand)(ho:o.op=.move x∨o.op=.assign x)(hx:x=.const (.slice dK 0 0))(gj:o.dst=dJ d)(hd:d<Γ.N):xV P Γ o E (E.app [(d,dJ (.sl k []))] [(d,0)]):=by
 refine xV.value gj fun a w G g9=>?_
 refine⟨.slice dK 0 0,w,?_,_,wR g9 rfl hd (fun _=>.slice dK 0 0) (fun _=>rfl) (.sl k []) (.slice dK 0 0) (by simp[mkV,Gh.put]) (by simp[R,Gh.put]) (by simp[Top,xI,xL])⟩;subst hx;rcases ho with ho|ho<;>simp[execOp,ho,Act.eval]
def Gh.nv(G:Gh)(d:Nat)(src:Nat→Option (Nat×List Nat))(φ:Nat→List Nat→Option (List Nat))(f:Nat→List Nat→Value):Gh where
 hd s z:=if s=d then(match z.getLast? with
  |some i=>f i z.dropLast
  |none=>.bool dM)else G.hd s z
 ad s z:=if s=d then(match z.getLast? with
  |some i=>(match src i with
   |some (x,q)=>G.ad x (z.dropLast++q)
   |none=>default)
  |none=>default)else G.ad s z
 lb b o:=match G.lb b o with
  |some (fl,s,z)=>(match φ s z with
   |some z'=>dJ (fl,d,z')
   |none=>dJ (fl,s,z))
  |none=>dK
 ow b:=match G.ow b with
  |some (s,z)=>(match φ s z with
   |some z'=>dJ (d,z')
   |none=>dJ (s,z))
  |none=>dK
theorem zSZ{G:Gh}{a:Act}{w:World}{ps:List yK}(g9:Rep Γ E G a.tmps w)(h:uR E d ps)(hd:d<Γ.N):
  ∃G',Rep Γ (E.app ((d,dJ (.agg (ps.map yK.tree)))::pWr d ps 0) ((d,0)::tR ps)) G' (a.tmps.setIfInBounds d (.agg (ps.flatMap (sL G)).toArray)) w:=by
 obtain⟨f1,f0,f2,f3,f4,f5,f6⟩:=zEH g9 h;have hm:=g9.mem;have gK:Blk w w:=fun b cs e' h=>⟨cs,h,rfl⟩
 generalize gp:G.nv d (zFC ps) (zHc ps) (pHd G ps)=G'
 have ghd:∀i z,G'.hd d (z++[i])=pHd G ps i z:=fun i z=>by rw[←gp];simp[Gh.nv]
 have ghd':∀s z,s≠d→G'.hd s z=G.hd s z:=by grind[Gh.nv]
 have glbm:∀b o fl x z z',G.lb b o=dJ (fl,x,z)→zHc ps x z=dJ z'→G'.lb b o=dJ (fl,d,z'):=by grind[Gh.nv]
 have gowm:∀b x z z',G.ow b=dJ (x,z)→zHc ps x z=dJ z'→G'.ow b=dJ (d,z'):=by grind[Gh.nv]
 have gf:∀s p,Off ((d,0)::tR ps) s p→s≠d:=fun s p h e=>absurd (h 0 (by simp[e])) (by simp)
 have gx:qC ((d,0)::tR ps) G w G' w:=by
  refine⟨by grind,fun s p h=>?_,fun b o fl s p _ hl h=>⟨?_,rfl⟩,fun b s p hl h=>?_,gK⟩
  ·rw[←gp];simp[Gh.nv,gf s p h]
  ·rw[←gp];simp[Gh.nv,hl,f6 s p h]
  ·rw[←gp];simp[Gh.nv,hl,f6 s p h]
 have gw:Mem Γ G' w:=by
  refine⟨fun s p=>?_,fun b o l hl=>?_,fun b l hl=>?_,hm.st,hm.fr,hm.sz,hm.bk⟩
  ·rw[←gp]
   simp only[Gh.nv];split
   ·split
    ·grind
    ·rfl
   ·exact hm.one s p
  ·rw[←gp]at hl
   simp only[Gh.nv]at hl;split at hl
   ·rename_i hg;exact hm.lb b o _ hg
   ·cases hl
  ·rw[←gp]at hl
   simp only[Gh.nv]at hl;split at hl
   ·rename_i hg;exact hm.ow b _ hg
   ·cases hl
 have g4:RF Γ.St G' w d (ps.map yK.tree) [] 0:=by
  refine zMV _ [] 0 (fun i u hu=>?_);rw[J8];cases hs:zFC ps i with
  |none=>exact f5 i u hu hs G' w (fun z=>ghd i z)
  |some xq=>
   obtain⟨x,q⟩:=xq;obtain⟨h1,h2,h3,h4⟩:=f4 i u x q hu hs;refine zJ0 u q [i] (zCg.okTups_get _ f1 i u hu) ⟨fun z=>by rw[ghd,h1],fun z _=>by rw[←gp];simp[Gh.nv,hs],fun b o fl z _ hl=>⟨glbm b o fl x _ _ hl (f3 i u x q z hu hs),rfl⟩,
    fun b z hl=>gowm b x _ _ hl (f3 i u x q z hu hs),gK⟩ (yT.mono (by simp) u h3) h2
 refine⟨G',wX g9 (by simp) gx gw ?_ ?_⟩
 ·intro s hs
  simp only[Wr.find]at hs;split at hs
  ·cases hs
  ·rename_i gf
   have hns:=zB5 ps d 0 s hs;refine⟨fun n hn=>?_,by rw[Jc];simp[gf]⟩;simp only[Jn,Qv.injEq,tR,Jh]at hn
   grind
 ·intro s t hs
  simp only[Wr.find]at hs;split at hs
  ·rename_i he
   subst he;simp at hs;subst hs;refine⟨?_,by grind[R],by grind[Top,vN.of_clean]⟩;rw[Jc];simp only[g9.size,hd,mkV,if_true];rw[zCN g9 h G' ps 0 (by simp) ghd]
  ·rename_i gf
   obtain⟨i,u,h1,h2,h3⟩:=zB4 ps d 0 s _ hs;simp only[J8]at h3;simp at h3;subst h3;obtain⟨h4,h5,h6⟩:=h.slot s u (Le h1);have gW:∀xs,u≠.tup xs:=by rintro xs rfl;grind[T.okTup]
   have hi:(ps.map yK.tree)[i]? =dJ u:=by simp[h1,yK.tree]
   have hr:=zAy _ [] 0 i u g4 hi;simp only[J8]at hr;refine zH3 (G:=G) (by rw[Jc];simp only[gf,if_false];exact(g9.ent s u h4).1) gW (by grind) (fun z=>?_) hr;rw[ghd];simp[pHd,h1]
theorem zMX(off:Nat):∀(vs:List Value)(i:Nat)(cs:Array Value)(k:Nat),off+i+vs.length≤cs.size→
  ((vs.zipIdx i).foldl (fun cs(x:Value×Nat)=>cs.setIfInBounds (off+x.2) x.1) cs)[k]? =if off+i≤k∧k<off+i+vs.length then vs[k-(off+i)]? else cs[k]?
 | [],i,cs,k,_=>by simp;omega
 |v::vs,i,cs,k,h=>by
  simp only[K4]at h;simp only[List.zipIdx_cons,List.foldl_cons];rw[zMX off vs (i+1) _ k (by simp;omega)]
  by_cases h1:off+(i+1)≤k∧k<off+(i+1)+vs.length
  ·rw[if_pos h1,if_pos (by grind),show k-(off+i)=k-(off+(i+1))+1 from by omega,Gu]
  ·rw[if_neg h1]
   by_cases h2:k=off+i
   ·subst h2
    rw[if_pos (by simp),Kc]
    grind
   ·rw[if_neg (by grind),Jc,if_neg (fun e=>h2 e.symm)]
theorem zFF{pv:yK→List Value}(place:Nat→Option (Nat×Nat)):∀(vs:List (Nat×Value))(qs:List (Nat×yK))(ps:List yK)(cs:Array Value),cs.toList=ps.flatMap pv→
  (∀i p,ps[i]? =dJ p→place i=dJ (((ps.take i).flatMap pv).length,(pv p).length))→
  vs.map (·.1)=qs.map (·.1)→(∀(j:Nat)(v:Nat×Value)(q:Nat×yK),vs[j]? =dJ v→qs[j]? =dJ q→v.2.cells.toList=pv q.2∧ ∃p,ps[q.1]? =dJ p∧(pv p).length=(pv q.2).length)→
  ∃cs',Instr.fill place cs vs=dJ cs'∧cs'.toList=(qs.foldl (fun ps q=>ps.set q.1 q.2) ps).flatMap pv
 | [],[],ps,cs,gM,_,_,_=>⟨cs,rfl,gM⟩
 | [],_::_,_,_,_,_,h,_=>by simp at h
 |_::_,[],_,_,_,_,h,_=>by simp at h
 |(i,v)::vs,(i',q)::qs,ps,cs,gM,pF,hi,hq=>by
  simp only[Jm,Ja1.injEq]at hi;obtain⟨dp,hi⟩:=hi;subst dp;obtain⟨h1,p,h2,h3⟩:=hq 0 (i,v) (i,q) rfl rfl;dsimp only at h1 h2 h3;have ml:=pF i p h2;have gE:=(Jk.1 h2).1;have pZ:ps=ps.take i++p::ps.drop (i+1):=by grind[H2,Ja8]
  have gu:ps.set i q=ps.take i++q::ps.drop (i+1):=List.set_eq_take_append_cons_drop .. |>.trans (if_pos gE);have cP:v.cells.size=(pv p).length:=by grind
  have gI:cs.size=((ps.take i).flatMap pv).length+((pv p).length+((ps.drop (i+1)).flatMap pv).length):=by grind[Kh]
  have ep:(v.cells.zipIdx.foldl (fun cs(x:Value×Nat)=>cs.setIfInBounds (((ps.take i).flatMap pv).length+x.2) x.1) cs).toList=(ps.set i q).flatMap pv:=by
   rw[gu];simp only[Uj,Lp,←h1];apply K9;intro k;rw[←Array.foldl_toList,Kl,show v.cells.zipIdx.toList=v.cells.toList.zipIdx 0 from by simp,zMX _ _ 0 cs k (by grind)];have dw:cs.toList=((ps.take i).flatMap pv)++(pv p++(ps.drop (i+1)).flatMap pv):=by grind
   have pS:v.cells.toList.length=(pv p).length:=by rw[h1,h3]
   rw[←Kl,dw]
   generalize (ps.take i).flatMap pv=A
   generalize (ps.drop (i+1)).flatMap pv=B
   generalize v.cells.toList=V at pS
   generalize pv p=Q at pS
   by_cases hk:A.length≤k∧k<A.length+V.length
   ·rw[if_pos (by omega),J7 hk.1,Jx (by omega),Gt]
   ·rw[if_neg (by omega)]
    by_cases fA:k<A.length
    ·grind
    ·rw[J7 (by omega),J7 (by omega),J7 (by omega),J7 (by omega),pS]
  have d8:∀j p',(ps.set i q)[j]? =dJ p'→place j=dJ ((((ps.set i q).take j).flatMap pv).length,(pv p').length):=by
   intro j p' fV;have fO:(((ps.set i q).take j).flatMap pv).length=((ps.take j).flatMap pv).length:=by
    rw[gu]
    conv=>rhs;rw[pZ]
    by_cases hj:j≤i
    ·grind
    ·rw[Jag,Jag]
     simp only[Uj,Ja]
     congr 1
     have:j-(ps.take i).length=(j-(ps.take i).length-1)+1:=by simp;omega
     rw[this,La,La];simp[h3]
   grind[List.getElem?_set_ne]
  have hq':∀(j:Nat)(x:Nat×Value)(y:Nat×yK),vs[j]? =dJ x→qs[j]? =dJ y→x.2.cells.toList=pv y.2∧ ∃p,(ps.set i q)[y.1]? =dJ p∧(pv p).length=(pv y.2).length:=by
   intro j x y hx hy;obtain⟨h6,p',h7,h8⟩:=hq (j+1) x y (by grind) (by grind)
   grind[List.getElem?_set_ne]
  obtain⟨cs',h4,h5⟩:=zFF place vs qs (ps.set i q) _ ep d8 hi hq';refine⟨cs',?_,by grind⟩;simp only[Instr.fill,ml];have tz:(v.cells.size≠(pv p).length||((ps.take i).flatMap pv).length+v.cells.size> cs.size)=dM:=by grind
  grind
theorem vX{t:TypeId}{it:TypeInfo}{fields:Array Field}{z:Value}{places:List (Nat×Nat)}(hi:P.info? t=dJ it)(hu:P.underlying t=dJ (.struct fields))(hz:it.zero=dJ z)
  (hp:fields.toList.mapM (fun f=>(P.info? f.type).map fun i=>(f.offset,i.size))=dJ places)(parts:List (Nat×Value)):P.built t parts=Instr.fill (places.toArray[·]?) z.cells parts:=by
 grind[Program.built]
theorem zJ2{t e:TypeId}{n:Nat}{it ie:TypeInfo}{z:Value}(hi:P.info? t=dJ it)(hu:P.underlying t=dJ (.array n e))(hz:it.zero=dJ z)
  (he:P.info? e=dJ ie)(parts:List (Nat×Value)):P.built t parts=Instr.fill (fun i=>dJ (i*ie.size,ie.size)) z.cells parts:=by
 grind[Program.built]
theorem zEd{G:Gh}:(zs:List T)→(zs.map yK.zero).flatMap (sL G)=sE zs
 | []=>rfl
 |z::zs=>by simp[sL,sE,←zEd (G:=G) zs]
theorem zPB(t:TypeId)(place:Nat→Option (Nat×Nat))(z:Value)(zs:List T)(pl:List (Nat×Operand))(qs:List (Nat×yK))(ps:List yK)(ho:o.op=.build t pl.toArray)(gj:o.dst=dJ d)(hd:d<Γ.N)
  (hb:∀parts,P.built t parts=Instr.fill place z.cells parts)(hzv:sE zs=z.cells.toList)(hz:kG zs=dL)(pF:∀i u,zs[i]? =dJ u→place i=dJ (T.sizes (zs.take i),u.size))
  (gR:qs.foldl (fun ps q=>ps.set q.1 q.2) (zs.map yK.zero)=ps)(gJ:uR E d ps)(hix:pl.map (·.1)=qs.map (·.1))
  (hq:∀(j:Nat)(x:Nat×Operand)(q:Nat×yK),pl[j]? =dJ x→qs[j]? =dJ q→jW E x.2 q.2∧q.2∈ps∧ ∃u,zs[q.1]? =dJ u∧u.size=q.2.tree.size):
  xV P Γ o E (E.app ((d,dJ (.agg (ps.map yK.tree)))::pWr d ps 0) ((d,0)::tR ps)):=by
 refine xV.value gj fun a w G g9=>?_
 obtain⟨G',gp⟩:=zSZ g9 gJ hd;have gy:∀(us:List T),kG us=dL→((us.map yK.zero).flatMap (sL G)).length=T.sizes us:=by grind[zEd,zAz]
 obtain⟨cs',h1,h2⟩:=zFF (pv:=sL G) place (pl.map fun x=>(x.1,a.eval x.2)) qs (zs.map yK.zero) z.cells (by rw[zEd,hzv]) (fun i p hp=>by
   rw[Jp]at hp;cases hu:zs[i]? with
   |none=>grind
   |some u=>
    simp[hu]at hp;subst hp;rw[pF i u hu,←Qr,gy _ (zOks_take zs i hz),sL,wO u (zOks_get zs hz i u hu)])
  (by grind[Function.comp_def]) (fun j v q hv hqj=>by
   rw[Jp]at hv;cases hx:pl[j]? with
   |none=>grind
   |some x=>
    simp[hx]at hv;subst hv;obtain⟨h3,h4,u,h5,h6⟩:=hq j x q hx hqj;refine⟨kX g9 gJ h4 h3,.zero u,by simp[h5],?_⟩;rw[sL,wO u (zOks_get zs hz _ u h5),h6];cases bE:q.2 with
    |slot s t=>
     rw[bE]at h4;obtain⟨_,_,h7⟩:=gJ.slot s t h4;exact(wP t [] (by rintro xs rfl;grind[T.okTup])).symm
    |zero u'=>
     rw[bE]at h4;exact(wO u' (gJ.zero u' h4)).symm)
 rw[gR]at h2;have h3:cs'=(ps.flatMap (sL G)).toArray:=by rw[←h2]
 refine⟨_,w,?_,G',gp⟩;have gz:=run_build (P:=P) w t (pl.map fun x=>(x.1,a.eval x.2)).toArray cs' (by grind);simp only[List.map_toArray,execOp,ho,Sem.run_bind]at gz ⊢
 rw[show(List.map (fun x=>match x with|(i,x)=>(i,a.eval x)) pl)=List.map (fun x=>(x.1,a.eval x.2)) pl from rfl,gz,h3];rfl
where
 zOks_get:(xs:List T)→kG xs=dL→ ∀(i:Nat)(x:T),xs[i]? =dJ x→x.zOk=dL
  | [],_,_,_,h=>by simp at h
  |y::ys,hk,i,x,h=>by
   simp only[kG,J2]at hk;cases i with
   |zero=>grind
   |succ i=>exact zOks_get ys hk.2 i x (by grind)
 zOks_take:(xs:List T)→ ∀i,kG xs=dL→kG (xs.take i)=dL
  | [],i,_=>by simp[kG]
  |y::ys,0,_=>by simp[kG]
  |y::ys,i+1,hk=>by
   simp only[kG,J2,La]at hk ⊢
   exact⟨hk.1,zOks_take ys i hk.2⟩
end
end Go.Ab

namespace Go.Ab
open Go
mutual
def wQ:T→T→Bool
 |.agg xs,.agg ys=>jE xs ys
 |.agg _,_=>dM
 |.tup _,_=>dM
 |_,.agg _=>dM
 |_,.tup _=>dM
 |.any,_|.lit _,_|.ro _,_|.same _ _,_|.addr _ _,_|.sub _ _ _ _ _,_|.sl _ _,_|.ptr _,_=>dL
def jE:List T→List T→Bool
 | [],[]=>dL
 |x::xs,y::ys=>wQ x y&&jE xs ys
 | [],_::_=>dM
 |_::_,[]=>dM
end
mutual
theorem zB6:(x y:T)→wQ x y=dL→x.size=y.size
 |.agg xs,.agg ys,h=>by simp only[wQ]at h;simp only[T.size];exact zDu xs ys h
 |.agg _,.any,h|.agg _,.lit _,h|.agg _,.ro _,h|.agg _,.same _ _,h|.agg _,.addr _ _,h|.agg _,.sub _ _ _ _ _,h|.agg _,.sl _ _,h|.agg _,.ptr _,h|.agg _,.tup _,h=>by grind[wQ]
 |.tup _,_,h=>by grind[wQ]
 |.any,y,h|.lit _,y,h|.ro _,y,h|.same _ _,y,h|.addr _ _,y,h|.sub _ _ _ _ _,y,h|.sl _ _,y,h|.ptr _,y,h=>by cases y<;>simp[wQ]at h<;>simp[T.size]
theorem zDu:(xs ys:List T)→jE xs ys=dL→T.sizes xs=T.sizes ys
 | [],[],_=>rfl
 |x::xs,y::ys,h=>by simp only[jE,J2]at h;simp only[T.sizes,zB6 x y h.1,zDu xs ys h.2]
 | [],_::_,h=>by grind[jE]
 |_::_,[],h=>by grind[jE]
end
section
variable {G:Gh}{w:World}{s:Nat}
mutual
theorem zI6:(t:T)→ ∀(p:List Nat)(b o j:Nat),Loc G w s t p b o→j<t.size→ ∃y,G.lb b (o+j)=dJ (dM,s,y++p)
 |.agg xs,p,b,o,j,h,hj=>by simp only[Loc,T.size]at h hj;exact zMY xs p 0 b o j h.2 hj
 |.any,p,b,o,j,h,hj|.lit _,p,b,o,j,h,hj|.ro _,p,b,o,j,h,hj|.same _ _,p,b,o,j,h,hj|.addr _ _,p,b,o,j,h,hj|.sub _ _ _ _ _,p,b,o,j,h,hj|.sl _ _,p,b,o,j,h,hj|.ptr _,p,b,o,j,h,hj=>by
  simp only[Loc,T.size]at h hj
  simp_all
 |.tup _,_,_,_,_,h,_=>by grind[Loc]
theorem zMY:(xs:List T)→ ∀(p:List Nat)(i b o j:Nat),wS G w s xs p i b o→j<T.sizes xs→ ∃y,G.lb b (o+j)=dJ (dM,s,y++p)
 | [],_,_,_,_,_,_,hj=>by grind[T.sizes]
 |x::xs,p,i,b,o,j,h,hj=>by
  simp only[wS,T.sizes]at h hj
  by_cases gE:j<x.size
  ·obtain⟨y,hy⟩:=zI6 x (i::p) b o j h.1 gE
   exact⟨y++[i],by grind⟩
  ·obtain⟨y,hy⟩:=zMY xs p (i+1) b (o+x.size) (j-x.size) h.2 (by omega)
   grind
end
mutual
theorem zPC{G':Gh}{w':World}:(u u0:T)→ ∀(p:List Nat)(b o:Nat),wQ u u0=dL→(∀y,u.inT y.reverse=dL→G'.ad s (y++p)=G.ad s (y++p))→
  (∀b o y,G.lb b o=dJ (dM,s,y++p)→G'.lb b o=dJ (dM,s,y++p))→(∀j v,(vals G' s u p)[j]? =dJ v→yI w' b (o+j)=dJ v)→Loc G w s u0 p b o→Loc G' w' s u p b o
 |.agg xs,.agg ys,p,b,o,h,ha,hl,hc,h0=>by
  simp only[Loc,wQ]at h h0 ⊢
  refine⟨by have:=ha [] rfl;grind,zMZ xs ys p 0 b o h (fun i x hx y hy=>?_) (by omega) (by grind[vals]) h0.2⟩;have:=ha (y++[i]) (by grind[T.inT])
  grind
 |.agg _,.any,_,_,_,h,_,_,_,_|.agg _,.lit _,_,_,_,h,_,_,_,_|.agg _,.ro _,_,_,_,h,_,_,_,_|.agg _,.same _ _,_,_,_,h,_,_,_,_|.agg _,.addr _ _,_,_,_,h,_,_,_,_|.agg _,.sub _ _ _ _ _,_,_,_,h,_,_,_,_|.agg _,.sl _ _,_,_,_,h,_,_,_,_|.agg _,.ptr _,_,_,_,h,_,_,_,_|.agg _,.tup _,_,_,_,h,_,_,_,_=>by grind[wQ]
 |.tup _,_,_,_,_,h,_,_,_,_=>by grind[wQ]
 |.any,u0,p,b,o,h,ha,hl,hc,h0|.lit _,u0,p,b,o,h,ha,hl,hc,h0|.ro _,u0,p,b,o,h,ha,hl,hc,h0|.same _ _,u0,p,b,o,h,ha,hl,hc,h0|.addr _ _,u0,p,b,o,h,ha,hl,hc,h0|.sub _ _ _ _ _,u0,p,b,o,h,ha,hl,hc,h0|.sl _ _,u0,p,b,o,h,ha,hl,hc,h0|.ptr _,u0,p,b,o,h,ha,hl,hc,h0=>by have h1:=wN (by cases u0<;>simp[wQ]at h<;>rfl) h0;have h2:=ha [] rfl;rw[K1]at h2;simp only[Loc];exact⟨h2.trans h1.1,by simp_all,by simpa using hc 0 (G'.hd s p) (by simp[vals])⟩
theorem zMZ{G':Gh}{w':World}:(xs ys:List T)→ ∀(p:List Nat)(j b o:Nat),jE xs ys=dL→(∀i x,xs[i]? =dJ x→ ∀y,x.inT y.reverse=dL→G'.ad s (y++((j+i)::p))=G.ad s (y++((j+i)::p)))→
  (∀b o y,G.lb b o=dJ (dM,s,y++p)→G'.lb b o=dJ (dM,s,y++p))→(∀i v,(zY G' s xs p j)[i]? =dJ v→yI w' b (o+i)=dJ v)→wS G w s ys p j b o→wS G' w' s xs p j b o
 | [],[],_,_,_,_,_,_,_,_,_=>by grind[wS]
 |x::xs,y::ys,p,j,b,o,h,ha,hl,hc,h0=>by
  simp only[jE,J2,wS]at h h0 ⊢
  have hs:=zB6 x y h.1;have gW:∀zs,x≠.tup zs:=by rintro zs rfl;grind[wQ]
  refine⟨zPC x y (j::p) b o h.1 (fun z hz=>by simpa using ha 0 x (by simp) z hz) (fun b o z hz=>by have:=hl b o (z++[j]) (by grind);grind) (fun i v hv=>hc i v ?_) h0.1,
   zMZ xs ys p (j+1) b (o+x.size) h.2 (fun i z hz=>by have:=ha (i+1) z (by grind);grind) hl (fun i v hv=>?_) (by grind)⟩
  ·grind[zY]
  ·have:=hc (x.size+i) v (by
    grind[zY,wP])
   grind
 | [],_::_,_,_,_,_,h,_,_,_,_=>by grind[jE]
 |_::_,[],_,_,_,_,h,_,_,_,_=>by grind[jE]
end
end
def zFd(p:yK)(q:List Nat)(s:Nat)(z:List Nat):Option (List Nat):=
 match p with
 |.slot s0 t=>if tQ t&&s0==s then dJ (z++q)else dK
 |.zero _=>dK
def sHd(G:Gh)(p:yK)(y:List Nat):Value:=
 match p with
 |.slot s _=>G.hd s y
 |.zero u=>jM (zhd u y.reverse)
def sWr(r:Nat)(q:List Nat):yK→Wr
 |.slot s t=>if tQ t then[(s,dJ (cpT r t q))]else[]
 |.zero _=>[]
def Gh.st(G:Gh)(r:Nat)(q:List Nat)(p:yK):Gh where
 hd s z:=if s=r∧q<:+z then sHd G p (z.take (z.length-q.length))else G.hd s z
 ad s z:=if s=r∧q<:+z∧p.tree.inT (z.take (z.length-q.length)).reverse=dM then(match p with
  |.slot s0 _=>G.ad s0 (z.take (z.length-q.length))
  |.zero _=>default)else G.ad s z
 lb b o:=match G.lb b o with
  |some (fl,s,z)=>(match zFd p q s z with
   |some z'=>dJ (fl,r,z')
   |none=>dJ (fl,s,z))
  |none=>dK
 ow b:=match G.ow b with
  |some (s,z)=>(match zFd p q s z with
   |some z'=>dJ (r,z')
   |none=>dJ (s,z))
  |none=>dK
mutual
theorem zJ3{Γ:Ctx}{G:Gh}{w:World}(hm:Mem Γ G w){s:Nat}:(t:T)→ ∀(p:List Nat)(v:Value),v∈vals G s t p→v.oneCell'=dL
 |.agg xs,p,v,h=>by simp only[vals]at h;exact zCi hm xs p 0 v h
 |.any,p,v,h|.lit _,p,v,h|.ro _,p,v,h|.same _ _,p,v,h|.addr _ _,p,v,h|.sub _ _ _ _ _,p,v,h|.sl _ _,p,v,h|.ptr _,p,v,h|.tup _,p,v,h=>by simp only[vals,List.mem_singleton]at h;rw[h];exact hm.one s p
theorem zCi{Γ:Ctx}{G:Gh}{w:World}(hm:Mem Γ G w){s:Nat}:(xs:List T)→ ∀(p:List Nat)(j:Nat)(v:Value),v∈zY G s xs p j→v.oneCell'=dL
 | [],_,_,_,h=>by grind[zY]
 |x::xs,p,j,v,h=>by
  simp only[zY,L5]at h;rcases h with h|h
  ·exact zJ3 hm x _ v h
  ·exact zCi hm xs p _ v h
end
mutual
theorem zEe:(u:T)→u.zOk=dL→ ∀v∈uV u,v.oneCell'=dL
 |.lit v,h,x,hx=>by simp only[uV,List.mem_singleton]at hx;rw[hx];exact h
 |.sl _ _,_,x,hx=>by simp only[uV,List.mem_singleton]at hx;rw[hx];rfl
 |.agg xs,h,x,hx=>by simp only[T.zOk]at h;simp only[uV]at hx;exact zFG xs h x hx
 |.any,h,_,_|.ro _,h,_,_|.same _ _,h,_,_|.addr _ _,h,_,_|.sub _ _ _ _ _,h,_,_|.ptr _,h,_,_|.tup _,h,_,_=>by grind[T.zOk]
theorem zFG:(xs:List T)→kG xs=dL→ ∀v∈sE xs,v.oneCell'=dL
 | [],_,_,h=>by grind[sE]
 |x::xs,h,v,hv=>by
  simp only[kG,J2]at h;simp only[sE,L5]at hv;rcases hv with hv|hv
  ·exact zEe x h.1 v hv
  ·exact zFG xs h.2 v hv
end
theorem zJ4(y q:List Nat):(y++q).take ((y++q).length-q.length)=y:=by simp
theorem zL0{Γ:Ctx}{G G':Gh}{w':World}{s d:Nat}{q:List Nat}{t:T}{v:Option Value}(hv:v=dJ (mkV G s t []))(gW:∀xs,t≠.tup xs)(hs:∀p,G'.hd s p=G.hd s p)(pi:∀z,G'.hd d (z++q)=G.hd s z)
  (hr:R Γ.St G' w' d t q):Ent Γ G' w' v s (cpT d t q):=by
 have hz:∀z,G'.hd s (z++[])=G'.hd d (z++q):=by grind
 refine⟨?_,?_,sP d t q⟩
 ·rw[hv,kV (G:=G') (G':=G') t q [] gW hz,jL G s t [] gW,zAW t [] q (fun z=>by rw[pi,Jg])]
 ·exact zCI (G:=G') (G':=G') (fun _=>rfl) t q [] hz gW (yT.triv (fun _ _=>⟨rfl,rfl⟩) _) hr
section
variable {P:Program}{Γ:Ctx}{E:Env}{o:Oper}
theorem qX:(f:List Nat)→ ∀(t u:T),zT t→zT u→zT (t.set f u)
 | [],t,u,_,hu=>by grind[T.set]
 |i::f,t,u,ht,hu=>by
  cases t with
  |sl k xs=>
   simp only[T.set];split
   ·rename_i x hx
    simp only[zT,yT]at ht ⊢
    exact sets_clean xs i _ ht (qX f x u (vU xs ht i x hx) hu)
   ·exact ht
  |agg xs=>
   simp only[T.set];split
   ·rename_i x hx
    simp only[zT,yT]at ht ⊢
    exact sets_clean xs i _ ht (qX f x u (vU xs ht i x hx) hu)
   ·exact ht
  |tup xs=>
   simp only[T.set];split
   ·rename_i x hx
    simp only[zT,yT]at ht ⊢
    exact sets_clean xs i _ ht (qX f x u (vU xs ht i x hx) hu)
   ·exact ht
  |ptr t=>
   simp only[T.set];split
   ·simp only[zT,yT]at ht ⊢
    exact qX f t u ht hu
   ·exact ht
  |_=>grind[T.set]
where sets_clean:(xs:List T)→ ∀(i:Nat)(y:T),xI xs→zT y→xI (xs.set i y)
 | [],_,_,_,_=>by grind
 |x::xs,0,y,h,hy=>by simp_all[xL]
 |x::xs,i+1,y,h,hy=>by simp only[Kw,xI,xL]at h ⊢;exact⟨h.1,sets_clean xs i y h.2 hy⟩
theorem zEf(T':TypeId)(ti:TypeInfo)(x y:Operand)(r:Nat)(q:List Nat)(tr u0:T)(p:yK)(ho:o.op=.store T' x y)(gj:o.dst=dK)
  (hi:P.info? T'=dJ ti)(gy:ti.size=p.tree.size)(cx:0<ti.size)(hx:zAn Γ E x r q)(hr:E r=dJ tr)(tq:tr.single=dL)(hg:tr.get q.reverse=dJ u0)(hl:tr.locd q.reverse=dL)
  (fg:wQ p.tree u0=dL)(hy:jW E y p)(gR:uR E r [p]):
  xV P Γ o E (E.app ((r,dJ (tr.set q.reverse p.tree))::sWr r q p) ((r,q.length)::tR [p])):=by
 refine xV.skip gj fun a w G g9=>?_
 have hm:=g9.mem;have mE:=hx a w G g9;obtain⟨e3,e4,e5⟩:=g9.ent r _ hr;have bF:q≠[]:=by rintro rfl;simp[T.locd]at hl
 obtain⟨i0,f0,aY⟩:∃i f,q.reverse=i::f:=by
  cases h:q.reverse with
  |nil=>exact absurd (by simpa using h) bF
  |cons i f=>exact⟨i,f,rfl⟩
 have bt:∀v:T,(tr.set q.reverse v).single=dL∧zT tr:=by
  intro v;rw[aY]at hg ⊢
  cases tr with
  |sl k xs=>exact⟨by simp only[T.set];split<;>rfl,by simpa only[Top,zT,yT]using e5⟩
  |ptr t=>exact⟨by simp only[T.set];split<;>rfl,by simpa only[Top,zT,yT]using e5⟩
  |agg xs=>simp[T.single]at tq
  |tup xs=>simp[T.single]at tq
  |_=>simp[T.get]at hg
 obtain⟨b,ob,cs,et,pd,gK,du⟩:=(qN q.reverse tr u0 [] e4 hg).2 hl;simp only[rp,Ke,Jg]at pd;have hru0:=(qN q.reverse tr u0 [] e4 hg).1;have fj:=zAX pd;have bx:=zB6 _ _ fg;have hc:=kX g9 gR (by simp) hy;have fI:(a.eval y).cells.size=p.tree.size:=by
  rw[←Kh,hc];cases p with
  |slot s t=>obtain⟨_,_,h3⟩:=gR.slot s t (by simp);exact wP t [] (by rintro xs rfl;simp[T.okTup]at h3)
  |zero u=>exact wO u (gR.zero u (by simp))
 have gA:∀v∈(a.eval y).cells.toList,v.oneCell'=dL:=by
  rw[hc];intro v hv;cases p with
  |slot s t=>exact zJ3 hm t [] v hv
  |zero u=>exact zEe u (gR.zero u (by simp)) v hv
 generalize hw':w.setRow b (cs.toList.take ob++(a.eval y).cells.toList++cs.toList.drop (ob+(a.eval y).cells.toList.length)).toArray=w'
 have ep:w'.heap[b]? =dJ (.cells (cs.toList.take ob++(a.eval y).cells.toList++cs.toList.drop (ob+(a.eval y).cells.toList.length)).toArray et (0,0)):=by rw[←hw'];exact setRow_heap w b cs _ et _ gK
 have gG:∀b',b'≠b→w'.heap[b']? =w.heap[b']?:=fun b' h=>by rw[←hw'];exact setRow_other w b b' _ h
 have gN:w'.heap.size=w.heap.size:=by rw[←hw'];exact size_setRow w b _
 have gI:(a.eval y).cells.toList.length=u0.size:=by rw[Kh,fI,bx]
 have eO:∀k,yI w' b k=if ob≤k∧k<ob+u0.size then(sL G p)[k-ob]? else yI w b k:=by
  intro k;simp only[yI,World.cell?,ep,gK,Qn,H7,if_false];rw[←hc,←gI]at*
  rw[←Kl,←Kl (xs:=cs)];simp only[];have gM:cs.toList.length=cs.size:=Kh ..
  generalize (a.eval y).cells.toList=V at*
  by_cases h1:k<ob
  ·rw[if_neg (by omega),Jb,Jx (by simp;omega),Uq h1]
  ·by_cases h2:k<ob+V.length
   ·rw[if_pos ⟨by omega,h2⟩,Jb,J7 (by simp;omega),Jx (by simp;omega)]
    congr 1;simp;omega
   ·rw[if_neg (by omega),Jb,J7 (by simp;omega),J7 (by simp;omega),H0]
    congr 1;simp;omega
 have fF:∀b' o' fl s z,G.lb b' o'=dJ (fl,s,z)→ ¬(s=r∧q<:+z)→yI w' b' o'=yI w b' o':=by
  intro b' o' fl s z h1 h2
  by_cases hb:b'=b
  ·subst hb
   rw[eO];split
   ·rename_i h3
    obtain⟨y',h4⟩:=zI6 u0 q b' ob (o'-ob) pd (by omega);rw[show ob+(o'-ob)=o' from by omega,h1]at h4;simp at h4;exact absurd ⟨h4.2.1,y',h4.2.2.symm⟩ h2
   ·rfl
  ·simp[yI,World.cell?,gG b' hb]
 have gZ:Blk w w':=by
  intro b' cs' e' h1
  by_cases hb:b'=b
  ·subst hb
   rw[gK]at h1;simp at h1;obtain⟨rfl,rfl⟩:=h1;exact⟨_,ep,by simp;have:cs.toList.length=cs.size:=Kh ..;omega⟩
  ·exact⟨cs',by rw[gG b' hb];exact h1,rfl⟩
 generalize gp:G.st r q p=G'
 have ghd:∀y',G'.hd r (y'++q)=sHd G p y':=fun y'=>by rw[←gp];simp[Gh.st]
 have ghd':∀s z,¬(s=r∧q<:+z)→G'.hd s z=G.hd s z:=fun s z h=>by rw[←gp];simp only[Gh.st];rw[if_neg h]
 have gad:∀s z,¬(s=r∧q<:+z)→G'.ad s z=G.ad s z:=fun s z h=>by rw[←gp];simp only[Gh.st];rw[if_neg (fun h2=>h ⟨h2.1,h2.2.1⟩)]
 have gadf:∀y',p.tree.inT y'.reverse=dL→G'.ad r (y'++q)=G.ad r (y'++q):=fun y' h=>by rw[←gp];simp only[Gh.st,zJ4];rw[if_neg (by simp[h])]
 have gadm:∀s0 t y',p=.slot s0 t→t.inT y'.reverse=dM→G'.ad r (y'++q)=G.ad s0 y':=fun s0 t y' h1 h2=>by subst h1;rw[←gp];simp only[Gh.st,zJ4,yK.tree];rw[if_pos];simp[h2]
 have glb:∀b' o' fl s z,G.lb b' o'=dJ (fl,s,z)→zFd p q s z=dK→G'.lb b' o'=dJ (fl,s,z):=fun b' o' fl s z h1 h2=>by rw[←gp];simp[Gh.st,h1,h2]
 have glbm:∀b' o' fl s z z',G.lb b' o'=dJ (fl,s,z)→zFd p q s z=dJ z'→G'.lb b' o'=dJ (fl,r,z'):=fun b' o' fl s z z' h1 h2=>by rw[←gp];simp[Gh.st,h1,h2]
 have gow:∀b' s z,G.ow b'=dJ (s,z)→zFd p q s z=dK→G'.ow b'=dJ (s,z):=fun b' s z h1 h2=>by rw[←gp];simp[Gh.st,h1,h2]
 have gowm:∀b' s z z',G.ow b'=dJ (s,z)→zFd p q s z=dJ z'→G'.ow b'=dJ (r,z'):=fun b' s z z' h1 h2=>by rw[←gp];simp[Gh.st,h1,h2]
 have bI:∀s z,(∀n,(s,n)∉(r,q.length)::tR [p])→zFd p q s z=dK:=by
  intro s z h;cases p with
  |zero u=>rfl
  |slot s0 t=>
   simp only[zFd];rw[if_neg];intro h2;simp only[J2,beq_iff_eq]at h2;obtain⟨h3,rfl⟩:=h2;exact h 1 (by simp[tR,xD,h3])
 have cy:∀z,zFd p q r z=dK:=by
  intro z;cases p with
  |zero u=>rfl
  |slot s0 t=>
   simp only[zFd];rw[if_neg];intro h2;simp only[J2,beq_iff_eq]at h2;obtain⟨h3,rfl⟩:=h2;have:=(Kv.1 gR.dist).1;simp[xD,h3]at this
 have pI:∀s z,Off ((r,q.length)::tR [p]) s z→ ¬(s=r∧q<:+z):=by
  rintro s z h ⟨rfl,h2⟩
  have:=h q.length (by simp);have:=h2.length_le;omega
 have gx:qC ((r,q.length)::tR [p]) G w G' w':=by
  refine⟨fun s z h=>ghd' s z (pI s z h),fun s z h=>gad s z (pI s z h),fun b' o' fl s z _ h1 h2=>⟨glb b' o' fl s z h1 (bI s z h2),fF b' o' fl s z h1 ?_⟩,fun b' s z h1 h2=>gow b' s z h1 (bI s z h2),gZ⟩
  rintro⟨rfl,_⟩
  exact h2 q.length (by simp)
 have b8:zB0 Γ w b:=by obtain⟨y',h4⟩:=zI6 u0 q b ob 0 pd (by omega);exact hm.lb _ _ _ h4
 have gw:Mem Γ G' w':=by
  refine⟨fun s z=>?_,fun b' o' l hl=>?_,fun b' l hl=>?_,fun b' x' gX=>?_,fun b' h1 h2=>?_,by rw[gN];exact hm.sz,hm.bk.trans gZ (by rw[←hw'];rfl) (by rw[←hw'];rfl)⟩
  ·by_cases h:s=r∧q<:+z
   ·obtain⟨rfl,y',rfl⟩:=h
    rw[ghd];unfold sHd;split
    ·exact hm.one _ _
    ·exact zA5 _
   ·rw[ghd' s z h];exact hm.one s z
  ·have:∃l',G.lb b' o'=dJ l':=by
    rw[←gp]at hl;simp only[Gh.st]at hl;split at hl
    ·exact⟨_,by assumption⟩
    ·cases hl
   obtain⟨l',ms⟩:=this;have:=hm.lb b' o' l' ms;exact⟨by rw[gN];exact this.1,this.2⟩
  ·have:∃l',G.ow b'=dJ l':=by
    rw[←gp]at hl;simp only[Gh.st]at hl;split at hl
    ·exact⟨_,by assumption⟩
    ·cases hl
   obtain⟨l',ms⟩:=this;have:=hm.ow b' l' ms;exact⟨by rw[gN];exact this.1,this.2⟩
  ·have hb:b'≠b:=by rintro rfl;rw[b8.2.2]at gX;cases gX
   rw[gG b' hb];exact hm.st b' x' gX
  ·have hb:b'≠b:=by
    rintro rfl
    rcases b8.2.1 with h3|h3
    ·omega
    ·exact h2 h3
   rw[gG b' hb];exact hm.fr b' h1 h2
 have az:Upd G w G' w' r q:=by refine⟨fun z h=>ghd' r z (fun h2=>h h2.2),fun z h=>gad r z (fun h2=>h h2.2),fun b' o' fl z h1 h=>⟨glb b' o' fl r z h1 (cy z),fF b' o' fl r z h1 (fun h2=>h h2.2)⟩,fun b' z h1 _=>gow b' r z h1 (cy z),gZ⟩
 have mQ:R Γ.St G' w' r p.tree q:=by
  cases hp:p with
  |zero u=>
   refine zI4 u q (gR.zero u (by simp[hp])) (fun z=>by rw[ghd];simp[sHd,hp])
  |slot s0 t=>
   obtain⟨h1,h2,h3⟩:=gR.slot s0 t (by simp[hp]);have eC:=(g9.ent s0 t h1).2.1
   by_cases cD:tQ t=dL
   ·have aG:s0≠r:=by
     rintro rfl
     have:=(Kv.1 gR.dist).1;simp[hp,xD,cD]at this
    refine zJ0 t [] q h3 ⟨fun z=>by rw[ghd,Jg];simp[sHd,hp],fun z hz=>by rw[Jg];exact gadm s0 t z hp hz,fun b' o' fl z _ h4=>?_,fun b' z h4=>?_,gZ⟩ (yT.mono (fun _ _=>False.elim) t h2) eC
    ·rw[Jg]at h4
     exact⟨glbm b' o' fl s0 z _ h4 (by simp[zFd,hp,cD]),fF b' o' fl s0 z h4 (fun h5=>aG h5.1)⟩
    ·rw[Jg]at h4
     exact gowm b' s0 z _ h4 (by simp[zFd,hp,cD])
   ·have hh:G'.hd r q=G.hd s0 []:=by have:=ghd [];rw[K1]at this;rw[this];simp[sHd,hp]
    cases t<;>simp[tQ]at cD<;>simp only[R,yK.tree]at eC ⊢ <;>rw[hh]<;>exact eC
 have c9:vals G' r p.tree q=sL G p:=by
  cases hp:p with
  |zero u=>exact zEc u q (gR.zero u (by simp[hp])) (fun z=>by rw[ghd];simp[sHd,hp])
  |slot s0 t=>exact zAm t [] q (fun z=>by rw[ghd];simp[sHd,hp])
 have bT:∀b' o',Loc G w r u0 q b' o'→Loc G' w' r p.tree q b' o':=by
  intro b' o' h1;have h2:b'=b∧o'=ob:=by have:=(zAX h1).symm.trans fj;simp at this;exact this
  obtain⟨rfl,rfl⟩:=h2;refine zPC p.tree u0 q b' o' fg (fun y' h=>gadf y' h) (fun b2 o2 y' h=>glb b2 o2 dM r _ h (cy _)) (fun j v hv=>?_) h1;rw[c9]at hv;have hj:=(Jk.1 hv).1;have pF:(sL G p).length=u0.size:=by rw[←hc,gI]
  rw[eO,if_pos ⟨by omega,by omega⟩,show o'+j-o'=j from by omega];exact hv
 have bC:R Γ.St G' w' r (tr.set q.reverse p.tree) []:=by
  have fR:rp q.reverse []=q:=by simp[rp]
  refine zEF q.reverse tr p.tree u0 [] (by rw[fR];exact az) e4 hg bx (yT.mono (fun _ _=>False.elim) tr (bt .any).2) (by rw[fR];exact bT) (by rw[fR];exact mQ)
 have gL:=run_storeCells_at P b ob et (a.eval y).cells.toList 0 cs w gK (by omega) gA;simp only[Gt]at gL;rw[hw']at gL;refine⟨w',?_,G',wX g9 rfl gx gw ?_ ?_⟩
 ·have aB:(a.eval y).cells.size=ti.size:=by rw[fI,gy]
  simp[execOp,ho,mE,fj,Instr.storeAt,tE,storeVar,sizeOf,typeInfo,hi,aB,gL]
 ·intro s hs
  simp only[Wr.find]at hs;split at hs
  ·cases hs
  ·rename_i gf
   refine⟨fun n hn=>?_,rfl⟩;simp only[Jn,Qv.injEq]at hn;rcases hn with⟨h1,_⟩|hn
   ·exact gf h1.symm
   ·cases p with
    |zero u=>simp[tR,xD]at hn
    |slot s0 t=>
     by_cases cD:tQ t=dL
     ·simp[tR,xD,cD]at hn
      simp[sWr,cD,Wr.find,hn.1.symm]at hs
     ·simp[tR,xD,cD]at hn
 ·intro s t hs
  simp only[Wr.find]at hs;split at hs
  ·rename_i he
   subst he;simp at hs;subst hs;refine⟨?_,bC,Top.of_clean _ (qX _ _ _ (bt .any).2 ?_)⟩
   ·rw[e3,xJ (bt p.tree).1,xJ tq]
    congr 1
    exact(ghd' r [] (fun h=>bF (by simpa using h.2))).symm
   ·cases p with
    |zero u=>exact(zA6 u (gR.zero u (by simp))).1
    |slot s0 t=>exact(gR.slot s0 t (by simp)).2.1
  ·rename_i gf
   cases hp:p with
   |zero u=>simp[sWr,hp,Wr.find]at hs
   |slot s0 t0=>
    by_cases cD:tQ t0=dL
    ·simp only[sWr,hp,cD,if_true,Wr.find]at hs
     split at hs
     ·rename_i he
      subst he;simp at hs;subst hs;obtain⟨h1,h2,h3⟩:=gR.slot s0 t0 (by simp[hp]);refine zL0 (G:=G) (g9.ent s0 t0 h1).1 (by rintro xs rfl;simp[T.okTup]at h3) (fun z=>ghd' s0 z (fun h=>gf h.1.symm)) (fun z=>by rw[ghd];simp[sHd,hp]) (by rw[hp]at mQ;exact mQ)
     ·cases hs
    ·simp[sWr,hp,cD,Wr.find]at hs
theorem zJ5(T':TypeId)(ti:TypeInfo)(x y:Operand)(r:Nat)(q:List Nat)(tr u0:T)(p:yK)(ho:o.op=.store T' x y)(gj:o.dst=dK)
  (hi:P.info? T'=dJ ti)(gy:ti.size=p.tree.size)(cx:0<ti.size)(hx:opT E x=dJ (.addr r q))(hr:E r=dJ tr)(tq:tr.single=dL)(hg:tr.get q.reverse=dJ u0)(hl:tr.locd q.reverse=dL)
  (fg:wQ p.tree u0=dL)(hy:jW E y p)(gR:uR E r [p]):
  xV P Γ o E (E.app ((r,dJ (tr.set q.reverse p.tree))::sWr r q p) ((r,q.length)::tR [p])):=
 by grind[zEf,zAn.addr]
end
end Go.Ab

namespace Go.Ab
open Go
section
variable {G G':Gh}{s:Nat}
theorem zL1(xs:List T):∀(p:List Nat)(j:Nat),(∀k,j≤k→ ∀z,G'.hd s (z++(k::p))=G.hd s (z++(k::p)))→zY G' s xs p j=zY G s xs p j:=by
 induction xs with
 |nil=>grind[zY]
 |cons z zs ih=>
  intro p j h;simp only[zY];rw[zAm z (j::p) (j::p) (h j (Jf _)),ih p (j+1) (by grind)]
theorem zOg(xs:List T):∀(p:List Nat)(j i:Nat)(x y:T),xs[i]? =dJ x→(∀k,k≠j+i→ ∀z,G'.hd s (z++(k::p))=G.hd s (z++(k::p)))→
  vals G' s y ((j+i)::p)=vals G s x ((j+i)::p)→zY G' s (xs.set i y) p j=zY G s xs p j:=by
 induction xs with
 |nil=>simp
 |cons z zs ih=>
  intro p j i x y h hz hy;cases i with
  |zero=>
   grind[zY,zL1]
  |succ i=>
   simp only[Kw,zY];rw[zAm z (j::p) (j::p) (hz j (by omega)),ih p (j+1) i x y (by grind) (by grind) (by grind)]
theorem zJ6:(f:List Nat)→ ∀(t u u0:T)(p:List Nat),t.get f=dJ u0→u0.single=dL→u.single=dL→(∀z,(rp f p<:+z→z=rp f p)→G'.hd s z=G.hd s z)→vals G' s (t.set f u) p=vals G s t p
 | [],t,u,u0,p,hg,h0,h1,hh=>by simp[T.get]at hg;subst hg;have:G'.hd s p=G.hd s p:=hh p (by simp[rp]);simp only[T.set];cases t<;>simp[T.single]at h0<;>cases u<;>simp[T.single]at h1<;>simp[vals,this]
 |i::f,t,u,u0,p,hg,h0,h1,hh=>by
  rw[zAV]at hh;have hp:G'.hd s p=G.hd s p:=by grind[jD]
  cases t with
  |agg xs=>
   simp only[T.get]at hg;cases hx:xs[i]? with
   |none=>grind
   |some x=>
    rw[hx]at hg;simp only[T.set,hx,vals];refine zOg xs p 0 i x _ hx (by grind[qU]) ?_;rw[J8];exact zJ6 f x u u0 (i::p) hg h0 h1 hh
  |tup xs=>
   grind[T.set,vals]
  |sl k xs=>grind[T.set,vals]
  |ptr t=>grind[T.set,vals]
  |_=>grind[T.get]
theorem zJ7(f:List Nat)(t u u0:T)(p:List Nat)(hg:t.get f=dJ u0)(h0:u0.single=dL)(h1:u.single=dL)(hh:∀z,(rp f p<:+z→z=rp f p)→G'.hd s z=G.hd s z)(gW:∀xs,t≠.tup xs):
  tP G' s (t.set f u) p=tP G s t p:=by
 have h:=zJ6 f t u u0 p hg h0 h1 hh;cases f with
 |nil=>
  simp[T.get]at hg;subst hg;have:G'.hd s p=G.hd s p:=hh p (by simp[rp]);simp only[T.set];cases t<;>simp[T.single]at h0<;>cases u<;>simp[T.single]at h1<;>simp[tP,this]
 |cons i f=>
  rw[zAV]at hh;have hp:G'.hd s p=G.hd s p:=by grind[jD]
  cases t with
  |agg xs=>
   grind[T.set,vals,tP]
  |tup xs=>grind
  |sl k xs=>grind[T.set,tP]
  |ptr t=>grind[T.set,tP]
  |_=>grind[T.get]
theorem zOh(xs:List T):∀(p:List Nat)(j:Nat),(∀k,j≤k→ ∀z,G'.hd s (z++(k::p))=G.hd s (z++(k::p)))→qL G' s xs p j=qL G s xs p j:=by
 induction xs with
 |nil=>grind[qL]
 |cons z zs ih=>
  intro p j h;simp only[qL];rw[zAW z (j::p) (j::p) (h j (Jf _)),ih p (j+1) (by grind)]
theorem zPD(xs:List T):∀(p:List Nat)(j i:Nat)(x y:T),xs[i]? =dJ x→(∀k,k≠j+i→ ∀z,G'.hd s (z++(k::p))=G.hd s (z++(k::p)))→
  tP G' s y ((j+i)::p)=tP G s x ((j+i)::p)→qL G' s (xs.set i y) p j=qL G s xs p j:=by
 induction xs with
 |nil=>simp
 |cons z zs ih=>
  intro p j i x y h hz hy;cases i with
  |zero=>
   grind[qL,zOh]
  |succ i=>
   simp only[Kw,qL];rw[zAW z (j::p) (j::p) (hz j (by omega)),ih p (j+1) i x y (by grind) (by grind) (by grind)]
def yP:T→Bool
 |.tup xs=>xs.all fun x=>match x with
  |.tup _=>dM
  |_=>dL
 |_=>dL
theorem zI7(f:List Nat)(t u u0:T)(p:List Nat)(hg:t.get f=dJ u0)(h0:u0.single=dL)(h1:u.single=dL)(hh:∀z,(rp f p<:+z→z=rp f p)→G'.hd s z=G.hd s z)(pM:yP t=dL):
  mkV G' s (t.set f u) p=mkV G s t p:=by
 by_cases ht:∃xs,t=.tup xs
 ·obtain⟨xs,rfl⟩:=ht
  cases f with
  |nil=>grind[T.get,T.single]
  |cons i f=>
   rw[zAV]at hh;simp only[T.get]at hg;cases hx:xs[i]? with
   |none=>grind
   |some x=>
    rw[hx]at hg;simp only[T.set,hx,mkV];rw[zPD xs p 0 i x _ hx (fun k hk z=>hh _ (fun h=>absurd h (qU (by omega) z)))];rw[J8];refine zJ7 f x u u0 (i::p) hg h0 h1 hh ?_
    rintro ys rfl
    simp only[yP]at pM;have:=Jw.1 pM _ (Le hx)
    grind
 ·have gW:∀xs,t≠.tup xs:=by grind
  rw[jL G s t p gW,←zJ7 f t u u0 p hg h0 h1 hh gW];refine jL G' s _ p ?_
  rintro xs eY
  cases f with
  |nil=>grind[T.set,T.single]
  |cons i f=>cases t<;>simp only[T.set]at eY<;>first|grind|grind|cases eY
end
theorem zDv:(f:List Nat)→ ∀(t u:T),Top t→zT u→Top (t.set f u)
 | [],t,u,_,hu=>by grind[T.set,Top.of_clean]
 |i::f,t,u,ht,hu=>by
  cases t with
  |sl k xs=>
   refine Top.of_clean _ (qX (i::f) _ u (by simpa only[Top,zT,yT]using ht) hu)
  |ptr t=>exact Top.of_clean _ (qX (i::f) _ u (by simpa only[Top,zT,yT]using ht) hu)
  |agg xs=>
   simp only[T.set];split
   ·rename_i x hx
    simp only[Top]at ht ⊢
    exact tops_set xs i _ ht (zDv f x u (tops_get xs ht i x hx) hu)
   ·exact ht
  |tup xs=>
   simp only[T.set];split
   ·rename_i x hx
    simp only[Top]at ht ⊢
    exact tops_set xs i _ ht (zDv f x u (tops_get xs ht i x hx) hu)
   ·exact ht
  |_=>grind[T.set]
where
 tops_set:(xs:List T)→ ∀(i:Nat)(y:T),vN xs→Top y→vN (xs.set i y)
  | [],_,_,_,_=>by simp[vN]
  |x::xs,0,y,h,hy=>by simp only[L8,vN]at h ⊢;grind
  |x::xs,i+1,y,h,hy=>by simp only[Kw,vN]at h ⊢;exact⟨h.1,tops_set xs i y h.2 hy⟩
 tops_get:(xs:List T)→vN xs→ ∀(i:Nat)(x:T),xs[i]? =dJ x→Top x
  | [],_,_,_,h=>by simp at h
  |y::ys,hk,i,x,h=>by
   simp only[vN]at hk;cases i with
   |zero=>grind
   |succ i=>exact tops_get ys hk.2 i x (by grind)
def Gh.tr(G:Gh)(d:Nat)(g:List Nat)(r:Nat)(p:List Nat):Gh where
 hd s z:=if s=d∧g<:+z then G.hd r (z.take (z.length-g.length)++p)else G.hd s z
 ad s z:=if s=d∧g<:+z∧z≠g then G.ad r (z.take (z.length-g.length)++p)else G.ad s z
 lb b o:=match G.lb b o with
  |some (fl,s,z)=>if s=r∧p<:+z∧(fl=dL∨z≠p)then dJ (fl,d,z.take (z.length-p.length)++g)else dJ (fl,s,z)
  |none=>dK
 ow b:=match G.ow b with
  |some (s,z)=>if s=r∧p<:+z then dJ (d,z.take (z.length-p.length)++g)else dJ (s,z)
  |none=>dK
theorem zEI{t:T}(h:t.single=dL):t.size=1:=by cases t<;>simp[T.single]at h<;>simp[T.size]
theorem zCO{Γ:Ctx}{E:Env}{G:Gh}{tmps:Array Value}{w:World}(g9:Rep Γ E G tmps w)(d:Nat)(g:List Nat)(r:Nat)(p:List Nat)(td tr u v0:T)(hd:E d=dJ td)(hg:td.get g.reverse=dJ v0)(bm:v0.single=dL)(gO:G.hd d g=G.hd r p)(hr:E r=dJ tr)
  (hp:tr.get p.reverse=dJ u)(hu:u.single=dL)(e7:zT u)(gT:d≠r)(mo:td.okB [(d,g.length+1),(r,p.length+1)]=dL)(p9:tr.okB [(d,g.length+1),(r,p.length+1)]=dL)(c7:yP td=dL)(eT:yP tr=dL):
  Rep Γ (E.app [(d,dJ (td.set g.reverse u)),(r,dJ (if p=[]then .same d g else tr.set p.reverse .any))] [(d,g.length+1),(r,p.length+1)]) (G.tr d g r p) tmps w∧ ∀s z,¬(s=d∧g<:+z∧z≠g)→(G.tr d g r p).hd s z=G.hd s z:=by
 obtain⟨d1,d2,d3⟩:=g9.ent d td hd;obtain⟨r1,r2,r3⟩:=g9.ent r tr hr;have hm:=g9.mem;have mQ:=(qN p.reverse tr u [] r2 hp).1;simp only[rp,Ke,Jg]at mQ;have gK:Blk w w:=fun b cs e' h=>⟨cs,h,rfl⟩
 generalize gp:G.tr d g r p=G'
 have ghd:∀z,G'.hd d (z++g)=G.hd r (z++p):=fun z=>by rw[←gp];simp[Gh.tr]
 have ghd0:∀s z,¬(s=d∧g<:+z∧z≠g)→G'.hd s z=G.hd s z:=by
  intro s z h;rw[←gp];simp only[Gh.tr]
  by_cases h2:s=d∧g<:+z
  ·have h3:z=g:=by
    rcases Decidable.em (z=g)with e|e
    ·exact e
    ·exact absurd ⟨h2.1,h2.2,e⟩ h
   subst h3;rw[if_pos h2,h2.1];simpa using gO.symm
  ·rw[if_neg h2]
 have gad0:∀s z,¬(s=d∧g<:+z∧z≠g)→G'.ad s z=G.ad s z:=fun s z h=>by rw[←gp];simp only[Gh.tr];rw[if_neg h]
 have gad:∀z,z≠[]→G'.ad d (z++g)=G.ad r (z++p):=fun z h=>by rw[←gp];simp only[Gh.tr];rw[if_pos (by simpa using h)];simp
 have glb0:∀b o fl s z,G.lb b o=dJ (fl,s,z)→ ¬(s=r∧p<:+z∧(fl=dL∨z≠p))→G'.lb b o=dJ (fl,s,z):=fun b o fl s z h1 h2=>by rw[←gp];simp only[Gh.tr,h1];rw[if_neg h2]
 have glb:∀b o fl z,G.lb b o=dJ (fl,r,z++p)→(fl=dL∨z≠[])→G'.lb b o=dJ (fl,d,z++g):=fun b o fl z h1 h2=>by rw[←gp];simp only[Gh.tr,h1];rw[if_pos (by simpa using h2)];simp
 have gow0:∀b s z,G.ow b=dJ (s,z)→ ¬(s=r∧p<:+z)→G'.ow b=dJ (s,z):=fun b s z h1 h2=>by rw[←gp];simp only[Gh.tr,h1];rw[if_neg h2]
 have gow:∀b z,G.ow b=dJ (r,z++p)→G'.ow b=dJ (d,z++g):=fun b z h1=>by rw[←gp];simp only[Gh.tr,h1];rw[if_pos (by simp)];simp
 have gF:∀s z,Off [(d,g.length+1),(r,p.length+1)] s z→ ¬(s=d∧g<:+z∧z≠g):=by
  rintro s z h ⟨rfl,⟨y,rfl⟩,h3⟩
  have:=h (g.length+1) (by simp);have:y=[]:=Kn (by simp at this;omega);exact h3 (by simp[this])
 have gx:qC [(d,g.length+1),(r,p.length+1)] G w G' w:=by
  refine⟨fun s z h=>ghd0 s z (gF s z h),fun s z h=>gad0 s z (gF s z h),fun b o fl s z _ h1 h2=>⟨glb0 b o fl s z h1 ?_,rfl⟩,fun b s z h1 h2=>gow0 b s z h1 ?_,gK⟩
  ·rintro⟨rfl,_⟩;exact h2 (p.length+1) (by simp)
  ·rintro⟨rfl,_⟩;exact h2 (p.length+1) (by simp)
 have gw:Mem Γ G' w:=by
  refine⟨fun s z=>?_,fun b o l hl=>?_,fun b l hl=>?_,hm.st,hm.fr,hm.sz,hm.bk⟩
  ·rw[←gp]
   simp only[Gh.tr];split
   ·exact hm.one _ _
   ·exact hm.one _ _
  ·have:∃l',G.lb b o=dJ l':=by
    rw[←gp]at hl;simp only[Gh.tr]at hl;split at hl
    ·exact⟨_,by assumption⟩
    ·cases hl
   obtain⟨l',ms⟩:=this;exact hm.lb b o l' ms
  ·have:∃l',G.ow b=dJ l':=by
    rw[←gp]at hl;simp only[Gh.tr]at hl;split at hl
    ·exact⟨_,by assumption⟩
    ·cases hl
   obtain⟨l',ms⟩:=this;exact hm.ow b l' ms
 have fR:∀q:List Nat,rp q.reverse []=q:=fun q=>by simp[rp]
 have hud:R Γ.St G' w d u g:=by
  refine zAl (G:=G) (w:=w) (s:=r) (p:=p) ⟨⟨ghd,gad,fun b o f z hz _ hl=>⟨glb b o f z hl (.inr hz),rfl⟩,fun b z _ hl=>gow b z hl,gK⟩,fun b o _ hl=>⟨by simpa using glb b o dL [] (by simpa using hl) (.inl rfl),rfl⟩,fun b hl=>by simpa using gow b [] (by simpa using hl)⟩ u
   (yT.mono (fun _ _=>False.elim) u e7) mQ
 have bn:Upd G w G' w d g:=⟨fun z h=>ghd0 d z (fun h2=>h h2.2.1),fun z h=>gad0 d z (fun h2=>h h2.2.1),fun b o f z h1 _=>⟨glb0 b o f d z h1 (fun h2=>gT h2.1),rfl⟩,fun b z h1 _=>gow0 b d z h1 (fun h2=>gT h2.1),gK⟩;have bU:∀b o,Loc G w d v0 g b o→Loc G' w d u g b o:=by intro b o h1;obtain⟨h2,h3,h4⟩:=wN bm h1;have h5:G'.ad d g=⟨b,o,dK⟩∧G'.lb b o=dJ (dM,d,g)∧yI w b o=dJ (G'.hd d g):=⟨(gad0 d g (fun h=>h.2.2 rfl)).trans h2,glb0 b o dM d g h3 (fun h=>gT h.1),by rw[h4,ghd0 d g (fun h=>h.2.2 rfl)]⟩;cases u<;>simp[T.single]at hu<;>simpa only[Loc]using h5
 have tj:R Γ.St G' w d (td.set g.reverse u) []:=
  zEF g.reverse td u v0 [] (by rw[fR];exact bn) d2 hg (by rw[zEI bm,zEI hu]) (gx.keepR (kF td d3 mo)) (by rw[fR];exact bU) (by rw[fR];exact hud)
 have hVd:mkV G' d (td.set g.reverse u) []=mkV G d td []:=
  zI7 g.reverse td u v0 [] hg bm hu (fun z hz=>ghd0 d z (fun h2=>h2.2.2 (by rw[fR]at hz;exact hz h2.2.1))) c7
 have hRr:p≠[]→R Γ.St G' w r (tr.set p.reverse .any) []:=by intro mS;refine zEF p.reverse tr .any u [] (by rw[fR];exact⟨fun z _=>ghd0 r z (fun h2=>gT h2.1.symm),fun z _=>gad0 r z (fun h2=>gT h2.1.symm),fun b o f z h1 h=>⟨glb0 b o f r z h1 (fun h2=>h h2.2.1),rfl⟩,fun b z h1 h=>gow0 b r z h1 (fun h2=>h h2.2),gK⟩) r2 hp (by cases u<;>simp[T.single]at hu<;>simp[T.size]) (gx.keepR (kF tr r3 p9)) ?_ (by simp only[R]);rw[fR];intro b o h1;obtain⟨h2,h3,h4⟩:=wN hu h1;simp only[Loc];exact⟨(gad0 r p (fun h=>gT h.1.symm)).trans h2,glb0 b o dM r p h3 (by simp),by rw[h4,ghd0 r p (fun h=>gT h.1.symm)]⟩
 have hVr:p≠[]→mkV G' r (tr.set p.reverse .any) []=mkV G r tr []:=fun _=>
  zI7 p.reverse tr .any u [] hp hu rfl (fun z _=>ghd0 r z (fun h2=>gT h2.1.symm)) eT
 refine⟨wX g9 rfl gx gw ?_ ?_,ghd0⟩
 ·intro s hs
  simp only[Wr.find]at hs;split at hs
  ·cases hs
  ·rename_i h1
   split at hs
   ·cases hs
   ·rename_i h2
    refine⟨fun n hn=>?_,rfl⟩;simp only[Jn,Qv.injEq,List.not_mem_nil,or_false]at hn;rcases hn with⟨e,_⟩|⟨e,_⟩
    ·exact h1 e.symm
    ·exact h2 e.symm
 ·intro s t hs
  simp only[Wr.find]at hs;split at hs
  ·rename_i he
   subst he;simp at hs;subst hs;exact⟨by rw[d1,hVd],tj,zDv _ _ _ d3 e7⟩
  ·split at hs
   ·rename_i he
    subst he;simp at hs
    by_cases mS:p=[]
    ·rw[if_pos mS]at hs
     subst hs;subst mS;simp[T.get]at hp;subst hp;refine⟨?_,?_,by simp[Top]⟩
     ·rw[r1,xJ hu,xJ rfl,ghd0 r [] (fun h=>gT h.1.symm)]
     ·simp only[R]
      rw[ghd0 r [] (fun h=>gT h.1.symm)];have:=ghd [];simpa using this.symm
    ·rw[if_neg mS]at hs
     subst hs;exact⟨by rw[r1,hVr mS],hRr mS,zDv _ _ _ r3 (by simp[zT,yT])⟩
   ·cases hs
theorem zL2{Γ:Ctx}{E:Env}{a:Act}{w:World}(h:Sim Γ E a w)(d:Nat)(g:List Nat)(r:Nat)(p:List Nat)(td tr u:T)(hd:E d=dJ td)(hg:td.get g.reverse=dJ (.same r p))(hr:E r=dJ tr)
  (hp:tr.get p.reverse=dJ u)(hu:u.single=dL)(e7:zT u)(gT:d≠r)(mo:td.okB [(d,g.length+1),(r,p.length+1)]=dL)(p9:tr.okB [(d,g.length+1),(r,p.length+1)]=dL)(c7:yP td=dL)(eT:yP tr=dL):
  Sim Γ (E.app [(d,dJ (td.set g.reverse u)),(r,dJ (if p=[]then .same d g else tr.set p.reverse .any))] [(d,g.length+1),(r,p.length+1)]) a w:=by
 obtain⟨gQ,G,g9⟩:=h;have gO:=(qN g.reverse td _ [] (g9.ent d td hd).2.1 hg).1;simp only[rp,Ke,Jg,R]at gO;exact⟨gQ,_,(zCO g9 d g r p td tr u _ hd hg rfl gO hr hp hu e7 gT mo p9 c7 eT).1⟩
end Go.Ab

namespace Go.Ab
open Go
theorem zI8{St:Stb}{G:Gh}{w:World}{s:Nat}{k:Nat}:(xs:List T)→ ∀(p:List Nat)(j b o:Nat),(∀i x,xs[i]? =dJ x→Loc G w s x ((j+i)::p) b (o+i*k)∧x.size=k∧R St G w s x ((j+i)::p))→RL St G w s xs p j b o k
 | [],_,_,_,_,_=>by grind[RL]
 |x::xs,p,j,b,o,h=>by
  obtain⟨h1,h2,h3⟩:=h 0 x (by simp);simp only[RL];refine⟨by grind,by omega,zI8 xs p (j+1) b (o+k) (fun i y hy=>?_)⟩;have:=h (i+1) y (by grind)
  grind
theorem kY{St:Stb}{G:Gh}{w:World}{s:Nat}{k:Nat}:(xs:List T)→ ∀(p:List Nat)(j b o:Nat),RL St G w s xs p j b o k→wS G w s xs p j b o
 | [],_,_,_,_,_=>by grind[wS]
 |x::xs,p,j,b,o,h=>by simp only[RL]at h;simp only[wS];exact⟨h.1.1,kY xs p (j+1) b (o+x.size) (by rw[h.1.2];exact h.2.2)⟩
theorem zA9{St:Stb}{G:Gh}{w:World}{s:Nat}{k:Nat}:(xs:List T)→ ∀(p:List Nat)(j b o:Nat),RL St G w s xs p j b o k→RF St G w s xs p j∧ ∀x∈xs,x.size=k
 | [],_,_,_,_,_=>by simp[RF]
 |x::xs,p,j,b,o,h=>by simp only[RL]at h;obtain⟨h1,h2⟩:=zA9 xs p (j+1) b (o+k) h.2.2;exact⟨by grind[RF],by grind⟩
section
variable {G:Gh}{w:World}{G':Gh}{w':World}{s s':Nat}
mutual
theorem zFH:(t:T)→ ∀(p p':List Nat)(b o:Nat),(∀z,G'.hd s' (z++p')=G.hd s (z++p))→(∀z,G'.ad s' (z++p')=G.ad s (z++p))→
  (∀b o z,G.lb b o=dJ (dM,s,z++p)→G'.lb b o=dJ (dM,s',z++p')∧yI w' b o=yI w b o)→Loc G w s t p b o→Loc G' w' s' t p' b o
 |.agg xs,p,p',b,o,hh,ha,hl,h=>by
  simp only[Loc]at h ⊢
  exact⟨by have:=ha [];grind,zH4 xs p p' 0 b o hh ha hl h.2⟩
 |.any,p,p',b,o,hh,ha,hl,h|.lit _,p,p',b,o,hh,ha,hl,h|.ro _,p,p',b,o,hh,ha,hl,h|.same _ _,p,p',b,o,hh,ha,hl,h|.addr _ _,p,p',b,o,hh,ha,hl,h|.sub _ _ _ _ _,p,p',b,o,hh,ha,hl,h|.sl _ _,p,p',b,o,hh,ha,hl,h|.ptr _,p,p',b,o,hh,ha,hl,h=>by
  simp only[Loc]at h ⊢
  have h1:=hl b o [] (by grind)
  grind
 |.tup _,_,_,_,_,_,_,_,h=>by grind[Loc]
theorem zH4:(xs:List T)→ ∀(p p':List Nat)(j b o:Nat),(∀z,G'.hd s' (z++p')=G.hd s (z++p))→(∀z,G'.ad s' (z++p')=G.ad s (z++p))→
  (∀b o z,G.lb b o=dJ (dM,s,z++p)→G'.lb b o=dJ (dM,s',z++p')∧yI w' b o=yI w b o)→wS G w s xs p j b o→wS G' w' s' xs p' j b o
 | [],_,_,_,_,_,_,_,_,_=>by grind[wS]
 |x::xs,p,p',j,b,o,hh,ha,hl,h=>by
  simp only[wS]at h ⊢
  exact⟨zFH x (j::p) (j::p') b o (fun z=>by have:=hh (z++[j]);grind) (fun z=>by have:=ha (z++[j]);grind) (fun b o z hz=>by have:=hl b o (z++[j]) (by grind);grind) h.1,
   zH4 xs p p' (j+1) b _ hh ha hl h.2⟩
end
end
theorem zDw(G:Gh)(s:Nat):∀(xs us:List T)(p:List Nat)(j:Nat),zY G s (xs++us) p j=zY G s xs p j++zY G s us p (j+xs.length)
 | [],us,p,j=>by rfl
 |x::xs,us,p,j=>by simp[zY,zDw G s xs us p (j+1),Nat.add_assoc,Nat.add_comm 1]
theorem zDx:∀(xs us:List T),T.sizes (xs++us)=T.sizes xs+T.sizes us
 | [],us=>by simp[T.sizes]
 |x::xs,us=>by simp[T.sizes,zDx xs us,Nat.add_assoc]
theorem zC4:∀(xs us:List T),yO xs=dL→yO us=dL→yO (xs++us)=dL
 | [],us,_,h=>h
 |x::xs,us,h,h'=>by
  simp only[yO,J2,Lg]at h ⊢
  exact⟨h.1,zC4 xs us h.2 h'⟩
theorem zC5:∀(xs us:List T),xI xs→xI us→xI (xs++us)
 | [],us,_,h=>h
 |x::xs,us,h,h'=>by
  simp only[xI,xL,Lg]at h ⊢
  exact⟨h.1,zC5 xs us h.2 h'⟩
theorem jF{St:Stb}{G:Gh}{w:World}{s:Nat}{k:Nat}:(xs:List T)→ ∀(p:List Nat)(j b o:Nat),wS G w s xs p j b o→yO xs=dL
 | [],_,_,_,_,_=>rfl
 |x::xs,p,j,b,o,h=>by simp only[wS]at h;simp only[yO,J2];exact⟨one x (j::p) b o h.1,jF (St:=St) (k:=k) xs p (j+1) b _ h.2⟩
where
 one:(t:T)→ ∀(p:List Nat)(b o:Nat),Loc G w s t p b o→t.okTup=dL
  |.agg xs,p,b,o,h=>by simp only[Loc]at h;simp only[T.okTup];exact jF (St:=St) (k:=k) xs p 0 b o h.2
  |.tup _,_,_,_,h=>by grind[Loc]
  |.any,_,_,_,_|.lit _,_,_,_,_|.ro _,_,_,_,_|.same _ _,_,_,_,_|.addr _ _,_,_,_,_|.sub _ _ _ _ _,_,_,_,_|.sl _ _,_,_,_,_|.ptr _,_,_,_,_=>rfl
section
variable {P:Program}
structure zFI (P:Program) (t2:TypeId) (e:TypeId) (ti:TypeInfo) (xv:Value) (m:Nat) (nv:List Value) (w:World):Prop where
 arg:(∃e2 xa c,P.underlying t2=dJ (.slice e2)∧xv=.slice xa m c∧ ∀w2:World,w2.heap=w.heap→(Builtin.firstCells ti.size m (.slice xa m c)).run P w2=.ok nv.toArray w2)∨
  ∃k2 k3 z,P.underlying t2=dJ (.int k2)∧xv=.int k3 (m:Int)∧ti.zero=dJ z∧nv.toArray=Builtin.zeroCells z.cells m∧m*ti.bytes≤2 ^ 47∧z.cells.size=ti.size
theorem zDy{t t2 ty e:TypeId}{ti:TypeInfo}{xv:Value}{m:Nat}{nv:List Value}{w w':World}(ht:P.underlying t=dJ (.slice e))(hi:P.info? e=dJ ti)
  (hx:zFI P t2 e ti xv m nv w)(hm:m≤68719476736){base:Option Addr}{n cap:Nat}(gV:n+m≤cap)
  (gL:(if let dJ a:=base then storeCells (a.add (n*ti.size)) nv else pure ():Sem Unit).run P w=.ok () w'):
  (Builtin.append_ #[t,t2] ty #[.slice base n cap,xv]).run P w=.ok (.slice base (n+m) cap) w':=by
 rcases hx.arg with⟨e2,xa,c,h1,rfl,h2⟩|⟨k2,k3,z,h1,rfl,h2,h3,h4,h5⟩
 ·have h2:=h2 w rfl
  cases base with
  |none=>
   simp at gL;subst gL;simp[Builtin.append_,run_underlying ht,run_underlying h1,sizeOf,typeInfo,hi,Builtin.lenOf,gV,h2]
  |some a=>
   simp only at gL;simp[Builtin.append_,run_underlying ht,run_underlying h1,sizeOf,typeInfo,hi,Builtin.lenOf,gV,h2,gL]
 ·have pQ:IntKind.i64.wrap (m:Int)=m:=by grind[IntKind.wrap_i64]
  have mJ:¬(281474976710656<(m:Int)*(ti.bytes:Int)):=by omega
  have fy:¬((m:Int)<0):=by omega
  have tx:nv=(Builtin.zeroCells z.cells m).toList:=by rw[←h3]
  by_cases hz:m*ti.size=0
  ·have mp:nv=[]:=by
    grind[Builtin.zeroCells]
   subst mp;cases base with
   |none=>
    simp at gL;subst gL;simp[Builtin.append_,run_underlying ht,run_underlying h1,sizeOf,typeInfo,hi,asInt,asIntOf,pQ,mJ,fy,gV,hz]
   |some a=>
    simp only[storeCells,Sem.run_pure]at gL;cases gL;simp[Builtin.append_,run_underlying ht,run_underlying h1,sizeOf,typeInfo,hi,asInt,asIntOf,pQ,mJ,fy,gV,hz,storeCells]
  ·cases base with
   |none=>
    simp at gL;subst gL;simp[Builtin.append_,run_underlying ht,run_underlying h1,sizeOf,typeInfo,zeroValue,hi,h2,asInt,asIntOf,pQ,mJ,fy,gV]
   |some a=>
    simp only[tx]at gL;simp[Builtin.append_,run_underlying ht,run_underlying h1,sizeOf,typeInfo,zeroValue,hi,h2,asInt,asIntOf,pQ,mJ,fy,gV,hz,gL]
theorem zI9{t t2 ty e:TypeId}{ti:TypeInfo}{z xv:Value}{m:Nat}{nv olds:List Value}{w:World}(ht:P.underlying t=dJ (.slice e))(hi:P.info? e=dJ ti)(hz:ti.zero=dJ z)
  (hx:zFI P t2 e ti xv m nv w){base:Option Addr}{n cap:Nat}(gS:cap<n+m)(fZ:n+m≤68719476736)(hb:ti.bytes≤2048)
  (gG:∀w2:World,w2.heap=w.heap→(Builtin.firstCells ti.size n (.slice base n cap)).run P w2=.ok olds.toArray w2):
  (Builtin.append_ #[t,t2] ty #[.slice base n cap,xv]).run P w=.ok (.slice (dJ ⟨w.heap.size,0,dK⟩) (n+m) (grownCap w (n+m) cap e))
    (w.drew.alloc (.cells ((olds++nv).toArray++Builtin.zeroCells z.cells (grownCap w (n+m) cap e-(n+m))) e)):=by
 have hn:¬(n+m≤cap):=by omega
 have mH:¬(9223372036854775807<((n:Int)+(m:Int))):=by omega
 have du:=growslice_fits (need:=n+m) (old:=cap) (bytes:=ti.bytes) gS (Lt (Ku fZ hb) (by decide));have mI:¬(281474976710656<Builtin.nextslicecap (n+m) cap*ti.bytes):=by omega
 have ho:=gG w.drew rfl;rcases hx.arg with⟨e2,xa,c,h1,rfl,h2⟩|⟨k2,k3,z',h1,rfl,h2,h3,h4,h5⟩
 ·have h2:=h2 w.drew rfl
  simp[Builtin.append_,run_underlying ht,run_underlying h1,sizeOf,typeInfo,zeroValue,hi,hz,Builtin.lenOf,hn,mH,mI,Question.forced,h2,ho,newRow,grownCap]
  grind
 ·have pQ:IntKind.i64.wrap (m:Int)=m:=by grind[IntKind.wrap_i64]
  have mJ:¬(281474976710656<(m:Int)*(ti.bytes:Int)):=by omega
  have fy:¬((m:Int)<0):=by omega
  have tx:nv=(Builtin.zeroCells z'.cells m).toList:=by rw[←h3]
  rw[hz]at h2;simp at h2;subst h2
  by_cases be:m*ti.size=0
  ·have mp:nv=[]:=by
    grind[Builtin.zeroCells]
   subst mp;simp[Builtin.append_,run_underlying ht,run_underlying h1,sizeOf,typeInfo,zeroValue,hi,hz,asInt,asIntOf,pQ,mJ,fy,hn,mH,mI,Question.forced,be,ho,newRow,grownCap]
  ·simp[Builtin.append_,run_underlying ht,run_underlying h1,sizeOf,typeInfo,zeroValue,hi,hz,asInt,asIntOf,pQ,mJ,fy,hn,mH,mI,Question.forced,be,ho,newRow,grownCap,←h3]
   grind
end
def zCP(s0:Nat)(y:Option Nat)(n:Nat)(s:Nat)(z:List Nat):Option (List Nat):=
 if s=s0 then dJ z else if y=dJ s then(match z.getLast? with
  |some j=>dJ (z.dropLast++[n+j])
  |none=>dK)else dK
def Gh.ip(G:Gh)(d s0:Nat)(y:Option Nat)(b n k:Nat)(us:List T)(f2:Nat→List Nat→Value)(gT:Value):Gh where
 hd s z:=if s=d then(match z.getLast? with
  |some i=>if i<n then G.hd s0 z else f2 (i-n) z.dropLast
  |none=>gT)else G.hd s z
 ad s z:=if s=d then(match z.getLast? with
  |some i=>if i<n then G.ad s0 z else if(T.agg us).inT ((i-n)::z.dropLast.reverse)then⟨b,n*k+(T.agg us).offT ((i-n)::z.dropLast.reverse),dK⟩else(match y with
   |some y=>G.ad y (z.dropLast++[i-n])
   |none=>default)
  |none=>default)else G.ad s z
 lb b' o:=if b'=b∧n*k≤o∧o<n*k+us.length*k then(match zB3 us [] n (o-n*k)with
  |some p=>dJ (dM,d,p)
  |none=>dK)else match G.lb b' o with
  |some (fl,s,z)=>(match zCP s0 y n s z with
   |some z'=>dJ (fl,d,z')
   |none=>dJ (fl,s,z))
  |none=>dK
 ow b':=match G.ow b' with
  |some (s,z)=>(match zCP s0 y n s z with
   |some z'=>dJ (d,z')
   |none=>dJ (s,z))
  |none=>dK
def aWr(d s0:Nat)(y:Option Nat)(k:Nat)(ts:List T):Wr:=(d,dJ (.sl k ts))::(s0,dJ .any)::(match y with
 |some y=>[(y,dJ .any)]
 |none=>[])
def zA0(d s0:Nat)(y:Option Nat):Chg:=(d,0)::(s0,1)::(match y with
 |some y=>[(y,1)]
 |none=>[])
structure zFJ (Γ:Ctx) (E:Env) (G:Gh) (d s0:Nat) (y:Option Nat) (k n:Nat) (us:List T) (f2:Nat→List Nat→Value) (nv:List Value):Prop where
 size:∀u∈us,u.size=k
 tup:yO us=dL
 clean:xI us
 one:∀j z,(f2 j z).oneCell'=dL
 len:nv.length=us.length*k
 slot:∀y',y=dJ y'→y'≠d∧y'≠s0∧E y'=dJ (.sl k us)∧ ∀j z,f2 j z=G.hd y' (z++[j])
 none:y=dK→ ∀(j:Nat) u,us[j]? =dJ u→ ∀(G2:Gh)(w2:World),(∀z,G2.hd d (z++[n+j])=f2 j z)→R Γ.St G2 w2 d u [n+j]
 vals:∀(G2:Gh),(∀j z,G2.hd d (z++[n+j])=f2 j z)→ ∀(o:Nat)(v:Value),(zY G2 d us [] n)[o]? =dJ v→nv[o]? =dJ v
theorem zJ8{G G2:Gh}{s d:Nat}:(xs:List T)→ ∀(p:List Nat)(j:Nat),(∀i,i<xs.length→ ∀z,G2.hd d (z++((j+i)::p))=G.hd s (z++((j+i)::p)))→zY G2 d xs p j=zY G s xs p j
 | [],_,_,_=>by rfl
 |x::xs,p,j,h=>by
  simp only[zY];have ih:zY G2 d xs p (j+1)=zY G s xs p (j+1):=zJ8 xs p (j+1) (fun i hi z=>by
   rw[show j+1+i=j+(i+1)from by omega]
   simp_all)
  rw[zAm x (j::p) (j::p) (by simpa using h 0 (by simp)),ih]
theorem zHe(z:List Nat):z=[]∨ ∃y i,z=y++[i]:=by
 rcases List.eq_nil_or_concat z with h|⟨y,i,h⟩
 all_goals grind
section
variable {P:Program}{Γ:Ctx}{E:Env}{d:Nat}
theorem zBa{G:Gh}{a:Act}{w:World}(g9:Rep Γ E G a.tmps w)(hd:d<Γ.N){t t2 ty e:TypeId}{ti:TypeInfo}{z:Value}{k:Nat}(ht:P.underlying t=dJ (.slice e))(hi:P.info? e=dJ ti)(hz:ti.zero=dJ z)
  (hk:ti.size=k)(_hk0:0<k)(eH:z.cells.size=k)(hb:ti.bytes≤2048){s0:Nat}{y:Option Nat}{xs us:List T}{f2:Nat→List Nat→Value}{nv:List Value}(hH:E s0=dJ (.sl k xs))(f8:s0≠d)
  (hn:zFJ Γ E G d s0 y k xs.length us f2 nv){xv:Value}(hx:zFI P t2 e ti xv us.length nv w)(gA:∀v∈nv,v.oneCell'=dL)(fZ:xs.length+us.length≤68719476736):
  ∃v w',(Builtin.append_ #[t,t2] ty #[G.hd s0 [],xv]).run P w=.ok v w'∧ ∃G',Rep Γ (E.app (aWr d s0 y k (xs++us)) (zA0 d s0 y)) G' (a.tmps.setIfInBounds d v) w':=by
 have hm:=g9.mem;obtain⟨e1,e2,e3⟩:=g9.ent s0 _ hH;simp only[Top]at e3;simp only[R]at e2;have aC:T.sizes us=us.length*k:=wC us hn.size;have fin:∀(G':Gh)(w':World)(v:Value),qC (zA0 d s0 y) G w G' w'→Mem Γ G' w'→G'.hd d []=v→R Γ.St G' w' d (.sl k (xs++us)) []→(∀s p,s≠d→G'.hd s p=G.hd s p)→
   Rep Γ (E.app (aWr d s0 y k (xs++us)) (zA0 d s0 y)) G' (a.tmps.setIfInBounds d v) w':=by
  intro G' w' v gx gw hdv tj hother;refine wX g9 (by simp) gx gw ?_ ?_
  ·intro s hs
   have gf:s≠d:=by rintro rfl;simp[aWr,Wr.find]at hs
   have bN:s≠s0:=by rintro rfl;simp[aWr,Wr.find,gf.symm]at hs
   have hney:∀y',y=dJ y'→s≠y':=by
    rintro y' rfl rfl
    grind[aWr,Wr.find]
   refine⟨fun n' hn'=>?_,by grind⟩;simp only[zA0,Jn,Qv.injEq]at hn'
   grind
  ·intro s t' hs
   by_cases h1:s=d
   ·subst h1
    simp[aWr,Wr.find]at hs;subst hs;refine⟨?_,tj,by simp only[Top];exact zC5 xs us e3 hn.clean⟩;rw[Jc];simp[g9.size,hd,mkV,hdv]
   ·have h3:t'=.any∧(s=s0∨y=dJ s):=by
     simp only[aWr,Wr.find]at hs;rw[if_neg (fun h=>h1 h.symm)]at hs
     grind[Wr.find]
    obtain⟨rfl,h3⟩:=h3;refine⟨?_,by grind[R],by simp[Top]⟩;rw[Jc];simp only[Ne.symm h1,if_false,mkV];rw[hother s [] h1];rcases h3 with rfl|h3
    ·exact e1
    ·obtain⟨_,_,h4,_⟩:=hn.slot s h3
     exact(g9.ent s _ h4).1
 have cz:∀s p,(∀n',(s,n')∉zA0 d s0 y)→zCP s0 y xs.length s p=dK:=by
  intro s p h;have h1:s≠s0:=fun e=>h 1 (by simp[zA0,e])
  grind[zA0,zCP]
 by_cases gV:∃a' c,G.hd s0 []=.slice a' xs.length c∧xs.length+us.length≤c
 ·
  obtain⟨a',c,hh,gV⟩:=gV;rcases e2 with⟨rfl,a1,h1⟩|⟨b,cap,cs,et,h1,h2,h3,h4,h5,h6,h7,h8⟩
  ·rw[h1]at hh
   simp at hh;obtain⟨rfl,rfl⟩:=hh;have ff:us=[]:=by grind
   subst ff;have tx:nv=[]:=Kn (by have:=hn.len;grind);subst tx;have gz:=zDy (P:=P) (t:=t) (ty:=ty) (w':=w) ht hi hx (by simp) (base:=a1) (n:=0) (cap:=0) (by simp) (by cases a1<;>rfl);refine⟨.slice a1 0 0,w,by grind,G.put d (fun _=>.slice a1 0 0),fin _ w _ ?_ (hm.put rfl d _ (fun _=>rfl)) (by rw[Gh.put_self]) (by simp[R,Gh.put]) (fun s p h=>G.put_other _ p h)⟩;have:=G.put_keep (w:=w) (w':=w) rfl d (fun _=>.slice a1 0 0);exact⟨fun s p h=>this.hd s p (fun n hn=>h n (by simp_all[zA0])),fun s p h=>rfl,fun b o f s p h0 h1 h2=>this.lb b o f s p h0 h1 (fun n hn=>h2 n (by simp_all[zA0])),fun b s p h1 h2=>this.ow b s p h1 (fun n hn=>h2 n (by simp_all[zA0])),this.blk⟩
  ·rw[h1]at hh
   simp at hh;obtain⟨rfl,rfl⟩:=hh;have dh:us.length*k+xs.length*k≤cap*k:=by rw[←U5];exact H1 _ (by omega)
   have hmk:us.length*k+xs.length*k≤cs.size:=Lt dh h5
   generalize hw':w.setRow b (cs.toList.take (xs.length*k)++nv++cs.toList.drop (xs.length*k+nv.length)).toArray=w'
   have ep:w'.heap[b]? =dJ (.cells (cs.toList.take (xs.length*k)++nv++cs.toList.drop (xs.length*k+nv.length)).toArray et (0,0)):=by grind[setRow_heap]
   have gG:∀b',b'≠b→w'.heap[b']? =w.heap[b']?:=by grind[setRow_other]
   have gN:w'.heap.size=w.heap.size:=by grind[size_setRow]
   have hcsl:cs.toList.length=cs.size:=rfl;have cB:=hn.len;have eO:∀i,yI w' b i=if xs.length*k≤i∧i<xs.length*k+us.length*k then nv[i-xs.length*k]? else yI w b i:=by
    intro i;simp only[yI,World.cell?,ep,h2,Qn,H7,if_false];rw[←Kl,←Kl (xs:=cs)];simp only[]
    by_cases g1:i<xs.length*k
    ·rw[if_neg (by omega),Jb,Jx (by simp;omega),Uq g1]
    ·by_cases g2:i<xs.length*k+us.length*k
     ·rw[if_pos ⟨by omega,g2⟩,Jb,J7 (by simp;omega),Jx (by simp;omega)]
      grind
     ·rw[if_neg (by omega),Jb,J7 (by simp;omega),J7 (by simp;omega),H0]
      congr 1;simp;omega
   have hJ:∀b' o fl s p,G.lb b' o=dJ (fl,s,p)→(fl,s,p)≠(dL,s0,[])→ ¬(b'=b∧xs.length*k≤o∧o<xs.length*k+us.length*k):=by grind
   have eF:∀b' o,¬(b'=b∧xs.length*k≤o∧o<xs.length*k+us.length*k)→yI w' b' o=yI w b' o:=by
    intro b' o g
    by_cases eV:b'=b
    ·grind
    grind[yI,World.cell?]
   have de:((cs.toList.take (xs.length*k)++nv++cs.toList.drop (xs.length*k+nv.length)).toArray).size=cs.size:=by simp;omega
   have gZ:Blk w w':=by
    intro b' cs' e' g1
    grind
   generalize gp:G.ip d s0 y b xs.length k us f2 (.slice (dJ ⟨b,0,dK⟩) (xs.length+us.length) cap)=G'
   have ghdr:G'.hd d []=.slice (dJ ⟨b,0,dK⟩) (xs.length+us.length) cap:=by rw[←gp];simp[Gh.ip]
   have ghd1:∀i z,i<xs.length→G'.hd d (z++[i])=G.hd s0 (z++[i]):=fun i z g=>by rw[←gp];simp[Gh.ip,g]
   have ghd2:∀j z,G'.hd d (z++[xs.length+j])=f2 j z:=fun j z=>by rw[←gp];simp[Gh.ip,show¬xs.length+j<xs.length from by omega]
   have ghd0:∀s z,s≠d→G'.hd s z=G.hd s z:=fun s z g=>by rw[←gp];simp[Gh.ip,g]
   have gad0:∀s z,s≠d→G'.ad s z=G.ad s z:=fun s z g=>by rw[←gp];simp[Gh.ip,g]
   have gad1:∀i z,i<xs.length→G'.ad d (z++[i])=G.ad s0 (z++[i]):=fun i z g=>by rw[←gp];simp[Gh.ip,g]
   have gad2:∀j f,(T.agg us).inT (j::f)=dL→G'.ad d (f.reverse++[xs.length+j])=⟨b,xs.length*k+(T.agg us).offT (j::f),dK⟩:=fun j f g=>by rw[←gp];simp[Gh.ip,g,show¬xs.length+j<xs.length from by omega]
   have gad3:∀y' j z,y=dJ y'→(T.agg us).inT (j::z.reverse)=dM→G'.ad d (z++[xs.length+j])=G.ad y' (z++[j]):=fun y' j z g1 g2=>by rw[←gp];simp[Gh.ip,g1,g2,show¬xs.length+j<xs.length from by omega]
   have glb2:∀i p,i<us.length*k→zB3 us [] xs.length i=dJ p→G'.lb b (xs.length*k+i)=dJ (dM,d,p):=fun i p g1 g2=>by rw[←gp];simp only[Gh.ip];rw[if_pos (by simp;omega),show xs.length*k+i-xs.length*k=i from by omega,g2]
   have glb0:∀b' o fl s p,G.lb b' o=dJ (fl,s,p)→ ¬(b'=b∧xs.length*k≤o∧o<xs.length*k+us.length*k)→zCP s0 y xs.length s p=dK→G'.lb b' o=dJ (fl,s,p):=fun b' o fl s p g1 g2 g3=>by rw[←gp];simp only[Gh.ip];rw[if_neg g2,g1];simp[g3]
   have glb1:∀b' o fl s p p',G.lb b' o=dJ (fl,s,p)→ ¬(b'=b∧xs.length*k≤o∧o<xs.length*k+us.length*k)→zCP s0 y xs.length s p=dJ p'→G'.lb b' o=dJ (fl,d,p'):=fun b' o fl s p p' g1 g2 g3=>by rw[←gp];simp only[Gh.ip];rw[if_neg g2,g1];simp[g3]
   have gow0:∀b' s p,G.ow b'=dJ (s,p)→zCP s0 y xs.length s p=dK→G'.ow b'=dJ (s,p):=fun b' s p g1 g2=>by rw[←gp];simp[Gh.ip,g1,g2]
   have gow1:∀b' s p p',G.ow b'=dJ (s,p)→zCP s0 y xs.length s p=dJ p'→G'.ow b'=dJ (d,p'):=fun b' s p p' g1 g2=>by rw[←gp];simp[Gh.ip,g1,g2]
   have fb:∀p,zCP s0 y xs.length s0 p=dJ p:=fun p=>by simp[zCP]
   have pG:∀y' z j,y=dJ y'→y'≠s0→zCP s0 y xs.length y' (z++[j])=dJ (z++[xs.length+j]):=fun y' z j g1 g2=>by simp[zCP,g1,g2]
   have gf:∀s p,Off (zA0 d s0 y) s p→s≠d:=fun s p h e=>absurd (h 0 (by simp[zA0,e])) (by simp)
   have gx:qC (zA0 d s0 y) G w G' w':=by
    refine⟨fun s p h=>ghd0 s p (gf s p h),fun s p h=>gad0 s p (gf s p h),fun b' o fl s p _ g1 g2=>?_,fun b' s p g1 g2=>gow0 b' s p g1 (cz s p g2),gZ⟩;have hs:s≠s0:=fun e=>g2 1 (by simp[zA0,e])
    have g3:=hJ b' o fl s p g1 (by simp[hs]);exact⟨glb0 b' o fl s p g1 g3 (cz s p g2),eF b' o g3⟩
   have b8:=hm.ow b _ h6;have gw:Mem Γ G' w':=by
    refine⟨fun s z=>?_,fun b' o' l hl=>?_,fun b' l hl=>?_,fun b' x' gX=>?_,fun b' g1 g2=>?_,by rw[gN];exact hm.sz,hm.bk.trans gZ (by rw[←hw'];rfl) (by rw[←hw'];rfl)⟩
    ·by_cases g:s=d
     ·subst g
      rcases zHe z with rfl|⟨z',i,rfl⟩
      ·rw[ghdr];rfl
      ·by_cases g1:i<xs.length
       ·rw[ghd1 i z' g1];exact hm.one _ _
       ·have:=ghd2 (i-xs.length) z'
        rw[show xs.length+(i-xs.length)=i from by omega]at this;rw[this];exact hn.one _ _
     ·rw[ghd0 s z g];exact hm.one _ _
    ·have:zB0 Γ w b':=by
      rw[←gp]at hl;simp only[Gh.ip]at hl;split at hl
      ·rename_i g;rw[g.1];exact b8
      ·split at hl
       ·rename_i g;exact hm.lb _ _ _ g
       ·cases hl
     exact⟨by rw[gN];exact this.1,this.2⟩
    ·have:zB0 Γ w b':=by
      rw[←gp]at hl;simp only[Gh.ip]at hl;split at hl
      ·rename_i g;exact hm.ow _ _ g
      ·cases hl
     exact⟨by rw[gN];exact this.1,this.2⟩
    ·have eV:b'≠b:=by rintro rfl;rw[b8.2.2]at gX;cases gX
     rw[gG b' eV];exact hm.st b' x' gX
    ·have eV:b'≠b:=by
      rintro rfl
      rcases b8.2.1 with g3|g3
      ·omega
      ·exact g2 g3
     rw[gG b' eV];exact hm.fr b' g1 g2
   have mr:wS G' w' d us [] xs.length b (xs.length*k):=by
    refine zFl us [] xs.length b (xs.length*k) hn.tup (fun i x gX f hf=>?_) (fun i p' g1 g2=>glb2 i p' (by omega) g2) (fun i v hv=>?_)
    ·have:=gad2 i f (by simp only[T.inT,gX];exact hf)
     simpa[T.offT,gX]using this
    ·have g1:=hn.vals G' ghd2 i v hv
     have g2:=(Jk.1 g1).1;rw[eO,if_pos (by omega),show xs.length*k+i-xs.length*k=i from by omega];exact g1
   have tj:R Γ.St G' w' d (.sl k (xs++us)) []:=by
    simp only[R];rw[ghdr];refine .inr ⟨b,cap,_,et,by simp,ep,by simp;omega,h4,by omega,gow1 b s0 [] [] h6 (fb []),?_,zI8 _ _ _ _ _ (fun i x gX=>?_)⟩
    ·intro o g1 g2
     rw[Ja,U5]at g1;exact glb1 b o dL s0 [] [] (h7 o (by omega) g2) (by omega) (fb [])
    ·rw[Kb]at gX
     simp only[J8];split at gX
     ·rename_i gE
      obtain⟨g1,g2,g3⟩:=qT xs [] 0 b 0 k i x h8 gX;simp only[J8]at g1 g3;have mV:∀b' o fl z,G.lb b' o=dJ (fl,s0,z++[i])→G'.lb b' o=dJ (fl,d,z++[i])∧yI w' b' o=yI w b' o:=fun b' o fl z g=>by have g4:=hJ b' o fl s0 _ g (by simp);exact⟨glb1 b' o fl s0 _ _ g g4 (fb _),eF b' o g4⟩
      refine⟨zFH x [i] [i] b _ (fun z=>ghd1 i z gE) (fun z=>gad1 i z gE) (fun b' o z g=>mV b' o dM z g) g1,g2,?_⟩;refine zAl (G:=G) (w:=w) (s:=s0) (p:=[i]) ⟨⟨fun z=>ghd1 i z gE,fun z _=>gad1 i z gE,fun b' o f z _ _ g=>mV b' o f z g,fun b' z _ g=>gow1 b' s0 _ _ g (fb _),gZ⟩,fun b' o _ g=>?_,fun b' g=>gow1 b' s0 _ _ g (fb _)⟩ x (yT.mono (by simp) x (vU xs e3 i x gX)) g3;have:=mV b' o dL [] (by simpa using g);simpa using this
     ·rename_i hge
      obtain⟨j,rfl⟩:∃j,i=xs.length+j:=⟨i-xs.length,by omega⟩;rw[show xs.length+j-xs.length=j from by omega]at gX;have g1:=zB1 us [] xs.length b (xs.length*k) j x mr gX;rw[show T.sizes (us.take j)=j*k from by rw[wC _ (fun u hu=>hn.size u (List.mem_of_mem_take hu)),Jr,Li (by have:=(Jk.1 gX).1;omega)],←U5]at g1
      refine⟨g1,hn.size x (Le gX),?_⟩;cases hy:y with
      |none=>exact hn.none hy j x gX G' w' (fun z=>ghd2 j z)
      |some y'=>
       obtain⟨y1,y2,y3,y4⟩:=hn.slot y' hy;obtain⟨_,y5,_⟩:=g9.ent y' _ y3;simp only[R]at y5;rcases y5 with⟨rfl,_⟩|⟨b2,cap2,cs2,et2,_,_,_,_,_,_,_,y6⟩
       ·simp at gX
       ·obtain⟨_,_,y7⟩:=qT us [] 0 b2 0 k j x y6 gX
        simp only[J8]at y7;refine zJ0 x [j] [xs.length+j] (zCg.okTups_get us hn.tup j x gX) ⟨fun z=>by rw[ghd2,y4],fun z g=>gad3 y' j z hy (by simp only[T.inT,gX];exact g),fun b' o fl z _ g=>?_,fun b' z g=>gow1 b' y' _ _ g (pG y' z j hy y2),gZ⟩ (yT.mono (by simp) x (vU us hn.clean j x gX)) y7;have g4:=hJ b' o fl y' _ g (by simp[y2]);exact⟨glb1 b' o fl y' _ _ g g4 (pG y' z j hy y2),eF b' o g4⟩
   have gL:=run_storeCells_at P b (xs.length*k) et nv 0 cs w h2 (by omega) gA;simp only[Gt]at gL;rw[hw']at gL;have gz:=zDy (P:=P) (t:=t) (ty:=ty) (w':=w') ht hi hx (by omega) (base:=dJ ⟨b,0,dK⟩) gV (by simp only[hk,vP,J8];exact gL);refine⟨_,w',by rw[h1];exact gz,G',fin G' w' _ gx gw ghdr tj ghd0⟩
 ·
  have tf:∃a' c,G.hd s0 []=.slice a' xs.length c∧ ∀w2:World,w2.heap=w.heap→(Builtin.firstCells ti.size xs.length (.slice a' xs.length c)).run P w2=.ok (zY G s0 xs [] 0).toArray w2:=by
   rcases e2 with⟨rfl,a1,h1⟩|⟨b,cap,cs,et,h1,h2,h3,h4,h5,h6,h7,h8⟩
   ·exact⟨a1,0,h1,fun w2 _=>by cases a1<;>simp[Builtin.firstCells,loadCells,loadCellsFrom,zY]⟩
   ·refine⟨_,_,h1,fun w2 hw2=>?_⟩
    have hl:=kY xs [] 0 b 0 h8;refine run_firstCells_some (P:=P) w2 ti.size xs.length ⟨b,0,dK⟩ _ _ _ ?_ (fun j v hv=>?_)
    ·rw[wA,hk]
     exact wC xs (zA9 xs [] 0 b 0 h8).2
    ·have:=zA4 xs [] 0 b 0 hl j v hv
     grind[vP,yI,World.cell?]
  obtain⟨a',c,hh,gG⟩:=tf;have eY:yO xs=dL∧(∀x∈xs,x.size=k)∧ ∀i x,xs[i]? =dJ x→R Γ.St G w s0 x [i]:=by
   rcases e2 with⟨rfl,a1,h1⟩|⟨b,cap,cs,et,h1,h2,h3,h4,h5,h6,h7,h8⟩
   ·simp[yO]
   ·refine⟨jF (St:=Γ.St) (k:=k) xs [] 0 b 0 (kY xs [] 0 b 0 h8),(zA9 xs [] 0 b 0 h8).2,fun i x gX=>?_⟩
    have:=(qT xs [] 0 b 0 k i x h8 gX).2.2
    grind
  have gS:c<xs.length+us.length:=by grind
  have gz:=zI9 (P:=P) (t:=t) (ty:=ty) ht hi hz hx gS fZ hb gG;have hge:=grownCap_ge w (xs.length+us.length) c e;have ac:=grownCap_le_maxLen w (xs.length+us.length) c e (by grind[maxLen])
  generalize grownCap w (xs.length+us.length) c e=cap' at gz hge ac
  generalize hw':w.drew.alloc (.cells ((zY G s0 xs [] 0++nv).toArray++Builtin.zeroCells z.cells (cap'-(xs.length+us.length))) e)=w' at gz
  have hwh:w'.heap=w.heap.push (.cells ((zY G s0 xs [] 0++nv).toArray++Builtin.zeroCells z.cells (cap'-(xs.length+us.length))) e):=by rw[←hw'];rfl
  have hszxs:T.sizes xs=xs.length*k:=wC xs eY.2.1;obtain⟨g1,g2,g3,g4,g5⟩:=zCg hm hwh d (xs++us) (fun i=>if i<xs.length then dJ (s0,[i])else y.map fun y'=>(y',[i-xs.length])) (zCP s0 y xs.length) (fun i z=>if i<xs.length then G.hd s0 (z++[i])else f2 (i-xs.length) z) (.slice (dJ ⟨w.heap.size,0,dK⟩) (xs.length+us.length) cap') ((zA0 d s0 y).tail)
   (zC4 xs us eY.1 hn.tup) (fun i z=>by split;exact hm.one _ _;exact hn.one _ _) rfl
   (fun i u x q z' hu hs=>by
    split at hs
    ·simp at hs;obtain⟨rfl,rfl⟩:=hs;simp[zCP]
    ·rename_i fD
     cases y with
     |none=>simp at hs
     |some y'=>
      simp at hs;obtain⟨rfl,rfl⟩:=hs;have:=(hn.slot y' rfl).2.1;simp[zCP,this,show xs.length+(i-xs.length)=i from by omega])
   (fun i u x q hu hs=>by
    rw[Kb]at hu;split at hs
    ·rename_i gE
     rw[if_pos gE]at hu;simp at hs;obtain⟨rfl,rfl⟩:=hs
     grind[vU]
    ·rename_i fD
     rw[if_neg fD]at hu;cases hy:y with
     |none=>grind
     |some y'=>
      rw[hy]at hs;simp at hs;obtain⟨rfl,rfl⟩:=hs;obtain⟨y1,y2,y3,y4⟩:=hn.slot y' hy;obtain⟨_,y5,_⟩:=g9.ent y' _ y3;simp only[R]at y5;refine⟨by grind,?_,vU us hn.clean _ u hu,y1⟩;rcases y5 with⟨rfl,_⟩|⟨b2,cap2,cs2,et2,_,_,_,_,_,_,_,y6⟩
      ·simp at hu
      ·have:=(qT us [] 0 b2 0 k _ u y6 hu).2.2
       grind)
   (fun i u hu hs G2 w2 eG=>by
    rw[Kb]at hu;split at hs
    ·cases hs
    ·rename_i fD
     rw[if_neg fD]at hu;cases hy:y with
     |some y'=>grind
     |none=>
      have:=hn.none hy (i-xs.length) u hu G2 w2 (fun z'=>by rw[show xs.length+(i-xs.length)=i from by omega,eG,if_neg fD])
      rwa [show xs.length+(i-xs.length)=i from by omega]at this)
   (fun G2 eG o v hv=>by
    rw[zDw,J8]at hv;have h1:zY G2 d xs [] 0=zY G s0 xs [] 0:=zJ8 xs [] 0 (by grind);rw[h1]at hv;have mV:(zY G s0 xs [] 0).length=xs.length*k:=by grind[wA]
    have hl2:(zY G2 d us [] xs.length).length=us.length*k:=by grind[wA]
    have ho:o<xs.length*k+us.length*k:=by grind
    have cB:=hn.len;rw[Array.getElem?_append_left (by simp;omega),List.getElem?_toArray];rw[Kb]at hv ⊢
    split at hv
    ·grind
    ·rename_i fD;rw[if_neg fD]
     exact hn.vals G2 (fun j z'=>by rw[eG,if_neg (by omega),show xs.length+j-xs.length=j from by omega]) _ v hv)
   (fun s p h=>cz s p (by simpa[zA0]using h)) (ho:=by rw[←hw'];rfl) (hq:=by rw[←hw'];rfl)
  refine⟨_,w',by rw[hh];exact gz,_,fin _ w' _ (by simpa[zA0]using g1) g2 (by simp[Gh.nb]) ?_ (by grind[Gh.nb])⟩;simp only[R];refine .inr ⟨w.heap.size,cap',_,e,by simp[Gh.nb],g5,by grind,ac,?_,by simp[Gh.nb],?_,zP9 _ _ _ _ _ (fun x gX=>?_) g3 g4⟩
  ·have mV:(zY G s0 xs [] 0).length=xs.length*k:=by grind[wA]
   have cB:=hn.len;simp only[Array.size_append,Jao,Ja,size_zeroCells,eH,mV,cB,←U5]
   grind
  ·intro o ho _
   rw[Ja,U5]at ho;simp[Gh.nb,zCL (xs++us) [] 0 o (by grind[zDx])]
  ·rcases L5.1 gX with h|h
   ·grind
   ·exact hn.size x h
end
end Go.Ab

namespace Go.Ab
open Go
mutual
def T.flat:T→Bool
 |.lit _|.ro _=>dL
 |.agg xs=>kZ xs
 |.any|.same _ _|.addr _ _|.sub _ _ _ _ _|.sl _ _|.ptr _|.tup _=>dM
def kZ:List T→Bool
 | []=>dL
 |x::xs=>x.flat&&kZ xs
end
section
variable {St:Stb}{G G2:Gh}{w w2:World}{s d:Nat}
mutual
theorem zL3:(t:T)→ ∀(p p':List Nat),t.flat=dL→(∀z,G2.hd d (z++p')=G.hd s (z++p))→R St G w s t p→R St G2 w2 d t p'
 |.lit _,p,p',_,h,hr=>by have:=h [];grind[R]
 |.ro _,p,p',_,h,hr=>by have:=h [];grind[R]
 |.agg xs,p,p',hf,h,hr=>by simp only[R,T.flat]at hr hf ⊢;exact zNa xs p p' 0 hf h hr
 |.any,_,_,hf,_,_|.same _ _,_,_,hf,_,_|.addr _ _,_,_,hf,_,_|.sub _ _ _ _ _,_,_,hf,_,_|.sl _ _,_,_,hf,_,_|.ptr _,_,_,hf,_,_|.tup _,_,_,hf,_,_=>by grind[T.flat]
theorem zNa:(xs:List T)→ ∀(p p':List Nat)(j:Nat),kZ xs=dL→(∀z,G2.hd d (z++p')=G.hd s (z++p))→RF St G w s xs p j→RF St G2 w2 d xs p' j
 | [],_,_,_,_,_,_=>by grind[RF]
 |x::xs,p,p',j,hf,h,hr=>by
  simp only[RF,kZ,J2]at hr hf ⊢
  exact⟨zL3 x (j::p) (j::p') hf.1 (fun z=>by have:=h (z++[j]);grind) hr.1,zNa xs p p' (j+1) hf.2 h hr.2⟩
end
end
mutual
theorem zFK:(t:T)→t.flat=dL→zT t∧t.okTup=dL
 |.lit _,_|.ro _,_=>by simp[zT,yT,T.okTup]
 |.agg xs,h=>by simp only[T.flat]at h;simpa only[zT,yT,T.okTup]using jN xs h
 |.any,h|.same _ _,h|.addr _ _,h|.sub _ _ _ _ _,h|.sl _ _,h|.ptr _,h|.tup _,h=>by grind[T.flat]
theorem jN:(xs:List T)→kZ xs=dL→xI xs∧yO xs=dL
 | [],_=>by simp[xI,xL,yO]
 |x::xs,h=>by simp only[kZ,J2]at h;simp only[xI,xL,yO,J2];exact⟨⟨(zFK x h.1).1,(jN xs h.2).1⟩,(zFK x h.1).2,(jN xs h.2).2⟩
end
theorem zH5:(xs:List T)→kZ xs=dL→ ∀(i:Nat)(x:T),xs[i]? =dJ x→x.flat=dL
 | [],_,_,_,h=>by simp at h
 |y::ys,hk,i,x,h=>by
  simp only[kZ,J2]at hk;cases i with
  |zero=>grind
  |succ i=>exact zH5 ys hk.2 i x (by grind)
mutual
def zEg:T→Bool
 |.lit _=>dL
 |.sl _ xs=>zAA xs
 |.agg xs=>zAA xs
 |.ptr t=>zEg t
 |.any|.ro _|.same _ _|.addr _ _|.sub _ _ _ _ _|.tup _=>dM
def zAA:List T→Bool
 | []=>dL
 |x::xs=>zEg x&&zAA xs
end
theorem zJ9:(ys:List T)→zAA ys=dL→ ∀u∈ys,∀xs,u≠.tup xs
 | [],_,_,h,_=>by simp at h
 |y::ys,hr,u,h,xs=>by
  simp only[zAA,J2]at hr;rcases Jn.1 h with rfl|h
  ·rintro rfl;grind[zEg]
  ·exact zJ9 ys hr.2 u h xs
theorem zEJ:(ys:List T)→(roT.roTs ys).length=ys.length
 | []=>rfl
 |y::ys=>by simp[roT.roTs,zEJ ys]
theorem zFL{k:Nat}:(ys:List T)→(∀u∈ys,u.size=k)→(∀u∈ys,∀xs,u≠.tup xs)→ ∀u∈roT.roTs ys,u.size=k
 | [],_,_,u,h=>by grind[roT.roTs]
 |y::ys,h1,h2,u,h=>by
  simp only[roT.roTs,Jn]at h;rcases h with rfl|h
  ·grind[zDt]
  ·exact zFL ys (by grind) (by grind) u h
theorem zJA:(ys:List T)→ ∀(j:Nat)(u:T),(roT.roTs ys)[j]? =dJ u→ ∃u0,ys[j]? =dJ u0∧u=roT u0
 | [],_,_,h=>by grind[roT.roTs]
 |y::ys,j,u,h=>by
  cases j with
  |zero=>grind[roT.roTs]
  |succ j=>
   obtain⟨u0,h1,h2⟩:=zJA ys j u (by grind[roT.roTs])
   grind
theorem zNb{St:Stb}{G2:Gh}{d:Nat}:(ys:List T)→ ∀(cs':Array Value)(o' k n:Nat),RoL St ys cs' o' k→(∀u∈ys,u.size=k)→(∀j u,ys[j]? =dJ u→ ∀z',G2.hd d (z'++[n+j])=jM (zCK u cs' (o'+j*k) z'.reverse))→
  ∀(i:Nat)(v:Value),(zY G2 d (roT.roTs ys) [] n)[i]? =dJ v→cs'[o'+i]? =dJ v
 | [],_,_,_,_,_,_,_,i,v,hv=>by grind[roT.roTs,zY]
 |y::ys,cs',o',k,n,h,hs,hd,i,v,hv=>by
  simp only[RoL]at h;simp only[roT.roTs,zY]at hv;have gW:∀xs,y≠.tup xs:=by rintro xs rfl;grind[RoC]
  have hnt':∀xs,roT y≠.tup xs:=fun xs e=>by cases y<;>simp[roT]at e
  have hl:(vals G2 d (roT y) [n]).length=k:=by grind[wP,zDt]
  rw[Kb]at hv;split at hv
  ·exact zF7 y cs' o' [n] (fun z'=>by simpa using hd 0 y (by simp) z') h.1 i v hv
  ·have:=zNb ys cs' (o'+k) k (n+1) h.2 (by grind) (fun j u hu z'=>by
    have:=hd (j+1) u (by grind) z'
    grind) _ v hv
   grind
mutual
theorem zOi{G:Gh}(hg:∀s z,(G.hd s z).oneCell'=dL){s:Nat}:(t:T)→ ∀(p:List Nat)(v:Value),v∈vals G s t p→v.oneCell'=dL
 |.agg xs,p,v,h=>by simp only[vals]at h;exact zCQ hg xs p 0 v h
 |.any,p,v,h|.lit _,p,v,h|.ro _,p,v,h|.same _ _,p,v,h|.addr _ _,p,v,h|.sub _ _ _ _ _,p,v,h|.sl _ _,p,v,h|.ptr _,p,v,h|.tup _,p,v,h=>by grind[vals]
theorem zCQ{G:Gh}(hg:∀s z,(G.hd s z).oneCell'=dL){s:Nat}:(xs:List T)→ ∀(p:List Nat)(j:Nat)(v:Value),v∈zY G s xs p j→v.oneCell'=dL
 | [],_,_,_,h=>by grind[zY]
 |x::xs,p,j,v,h=>by
  simp only[zY,L5]at h;rcases h with h|h
  ·exact zOi hg x _ v h
  ·exact zCQ hg xs p _ v h
end
theorem zB7{G G2:Gh}{s d:Nat}:(us:List T)→ ∀(n j:Nat),(∀i z,G2.hd d (z++[n+i])=G.hd s (z++[j+i]))→zY G2 d us [] n=zY G s us [] j
 | [],_,_,_=>by rfl
 |x::xs,n,j,h=>by
  have ih:zY G2 d xs [] (n+1)=zY G s xs [] (j+1):=zB7 xs (n+1) (j+1) (fun i z=>by rw[show n+1+i=n+(i+1)from by omega,show j+1+i=j+(i+1)from by omega];simp_all)
  simp only[zY];rw[ih,zAm x [j] [n] (by simpa using h 0)]
theorem zDz{G G2:Gh}{s d:Nat}:(us:List T)→ ∀(n j:Nat)(q:List Nat),(∀i z,G2.hd d (z++[n+i])=G.hd s (z++((j+i)::q)))→zY G2 d us [] n=zY G s us q j
 | [],_,_,_,_=>by rfl
 |x::xs,n,j,q,h=>by
  have ih:zY G2 d xs [] (n+1)=zY G s xs q (j+1):=zDz xs (n+1) (j+1) q (fun i z=>by rw[show n+1+i=n+(i+1)from by omega,show j+1+i=j+(i+1)from by omega];simp_all)
  simp only[zY];rw[ih,zAm x (j::q) [n] (by simpa using h 0)]
section
variable {P:Program}{Γ:Ctx}{E:Env}{o:Oper}{d:Nat}
theorem zNc{St:Stb}{G:Gh}{w:World}{r:Nat}{q:List Nat}{k:Nat}{us:List T}(h:R St G w r (.sl k us) q){size:Nat}(hk:size=k):
  ∃xa c,G.hd r q=.slice xa us.length c∧ ∀w2:World,w2.heap=w.heap→(Builtin.firstCells size us.length (.slice xa us.length c)).run P w2=.ok (zY G r us q 0).toArray w2:=by
 simp only[R]at h;rcases h with⟨rfl,a1,h1⟩|⟨b,cap,cs,et,h1,h2,h3,h4,h5,h6,h7,h8⟩
 ·exact⟨a1,0,h1,fun w2 _=>by cases a1<;>simp[Builtin.firstCells,loadCells,loadCellsFrom,zY]⟩
 ·refine⟨_,_,h1,fun w2 hw2=>?_⟩
  have hl:=kY us q 0 b 0 h8;refine run_firstCells_some (P:=P) w2 size us.length ⟨b,0,dK⟩ _ _ _ ?_ (fun j v hv=>?_)
  ·rw[wA,hk]
   exact wC us (zA9 us q 0 b 0 h8).2
  ·have:=zA4 us q 0 b 0 hl j v hv
   grind[vP,yI,World.cell?]
theorem zAB{G:Gh}{a:Act}{w:World}(g9:Rep Γ E G a.tmps w){s:Nat}{t:T}(h:E s=dJ t)(ht:t.single=dL):a.eval (.tmp s)=G.hd s []:=by rw[xT (g9.ent s t h).1,xJ ht]
theorem zIA(t e:TypeId)(ti:TypeInfo)(z:Value)(k s0 y:Nat)(xs us:List T)(ho:o.op=.call { callee:=.builtin .append,args:=#[.tmp s0,.tmp y],argTypes:=#[t,t] })(gj:o.dst=dJ d)(hd:d<Γ.N)
  (ht:P.underlying t=dJ (.slice e))(hi:P.info? e=dJ ti)(hz:ti.zero=dJ z)(hk:ti.size=k)(eu:0<k)(eH:z.cells.size=k)(hb:ti.bytes≤2048)
  (hH:E s0=dJ (.sl k xs))(hy:E y=dJ (.sl k us))(f8:s0≠d)(hyd:y≠d)(hys:y≠s0)(fZ:xs.length+us.length≤68719476736):
  xV P Γ o E (E.app (aWr d s0 (dJ y) k (xs++us)) (zA0 d s0 (dJ y))):=by
 refine xV.value gj fun a w G g9=>?_
 obtain⟨_,y2,y3⟩:=g9.ent y _ hy;simp only[Top]at y3;obtain⟨xa,c,h1,h2⟩:=zNc (P:=P) y2 hk;have ff:yO us=dL∧ ∀u∈us,u.size=k:=by
  simp only[R]at y2;rcases y2 with⟨rfl,_⟩|⟨b,cap,cs,et,_,_,_,_,_,_,_,h8⟩
  ·simp[yO]
  ·exact⟨jF (St:=Γ.St) (k:=k) us [] 0 b 0 (kY us [] 0 b 0 h8),(zA9 us [] 0 b 0 h8).2⟩
 have hn:zFJ Γ E G d s0 (dJ y) k xs.length us (fun j z'=>G.hd y (z'++[j])) (zY G y us [] 0):=
  ⟨ff.2,ff.1,y3,fun j z'=>g9.mem.one _ _,by grind[wA,wC],fun y' hy'=>by simp_all,fun h=>by simp at h,
   fun G2 eG o v hv=>by rw[←zB7 us xs.length 0 (fun i z'=>by rw[eG,J8])];exact hv⟩
 obtain⟨v,w',gz,G',gp⟩:=zBa (P:=P) (ty:=o.type) g9 hd ht hi hz hk eu eH hb hH f8 hn (xv:=a.eval (.tmp y)) ⟨.inl ⟨e,xa,c,ht,by rw[zAB g9 hy rfl,h1],h2⟩⟩ (fun v hv=>zCi g9.mem us [] 0 v hv) fZ;refine⟨v,w',?_,G',gp⟩;rw[←zAB g9 hH rfl]at gz;simp[execOp,ho,resolve,invoke,builtin,gz]
theorem zIB(t e:TypeId)(ti:TypeInfo)(z:Value)(k s0:Nat)(y:Operand)(r:Nat)(q:List Nat)(xs us:List T)(ho:o.op=.call { callee:=.builtin .append,args:=#[.tmp s0,y],argTypes:=#[t,t] })(gj:o.dst=dJ d)(hd:d<Γ.N)
  (ht:P.underlying t=dJ (.slice e))(hi:P.info? e=dJ ti)(hz:ti.zero=dJ z)(hk:ti.size=k)(eu:0<k)(eH:z.cells.size=k)(hb:ti.bytes≤2048)
  (hH:E s0=dJ (.sl k xs))(hy:uU E y=dJ (r,q,.sl k us))(hf:kZ us=dL)(f8:s0≠d)(fZ:xs.length+us.length≤68719476736):
  xV P Γ o E (E.app (aWr d s0 dK k (xs++us)) (zA0 d s0 dK)):=by
 refine xV.value gj fun a w G g9=>?_
 obtain⟨y2,y1⟩:=qD g9 hy rfl;obtain⟨xa,c,h1,h2⟩:=zNc (P:=P) y2 hk;have ff:(∀u∈us,u.size=k)∧ ∀j u,us[j]? =dJ u→R Γ.St G w r u (j::q):=by
  simp only[R]at y2;rcases y2 with⟨rfl,_⟩|⟨b,cap,cs,et,_,_,_,_,_,_,_,h8⟩
  ·simp
  ·refine⟨(zA9 us q 0 b 0 h8).2,fun j u hu=>?_⟩
   have:=(qT us q 0 b 0 k j u h8 hu).2.2
   grind
 have gI:=jN us hf;have hn:zFJ Γ E G d s0 dK k xs.length us (fun j z'=>G.hd r (z'++(j::q))) (zY G r us q 0):=
  ⟨ff.1,gI.2,gI.1,fun j z'=>g9.mem.one _ _,by grind[wA,wC],by simp,
   by grind[zL3,zH5],
   fun G2 eG o v hv=>by rw[←zDz us xs.length 0 q (fun i z'=>by rw[eG,J8])];exact hv⟩
 obtain⟨v,w',gz,G',gp⟩:=zBa (P:=P) (ty:=o.type) g9 hd ht hi hz hk eu eH hb hH f8 hn (xv:=a.eval y) ⟨.inl ⟨e,xa,c,ht,by rw[y1,h1],h2⟩⟩ (fun v hv=>zCi g9.mem us q 0 v hv) fZ;refine⟨v,w',?_,G',gp⟩;rw[←zAB g9 hH rfl]at gz;simp[execOp,ho,resolve,invoke,builtin,gz]
mutual
theorem zPE:(u:T)→zEg u=dL→(roT u).flat=dL
 |.agg xs,h=>by simp only[zEg]at h;simp only[roT,T.flat];exact zEh xs h
 |.lit _,_|.sl _ _,_|.ptr _,_=>by rfl
 |.any,h|.ro _,h|.same _ _,h|.addr _ _,h|.sub _ _ _ _ _,h|.tup _,h=>by grind[zEg]
theorem zEh:(xs:List T)→zAA xs=dL→kZ (roT.roTs xs)=dL
 | [],_=>by rfl
 |x::xs,h=>by simp only[zAA,J2]at h;simp only[roT.roTs,kZ,J2];exact⟨zPE x h.1,zEh xs h.2⟩
end
theorem zIC(t e:TypeId)(ti:TypeInfo)(z:Value)(k s0:Nat)(y:Operand)(r:Nat)(q:List Nat)(xs ys:List T)(ho:o.op=.call { callee:=.builtin .append,args:=#[.tmp s0,y],argTypes:=#[t,t] })(gj:o.dst=dJ d)(hd:d<Γ.N)
  (ht:P.underlying t=dJ (.slice e))(hi:P.info? e=dJ ti)(hz:ti.zero=dJ z)(hk:ti.size=k)(eu:0<k)(eH:z.cells.size=k)(hb:ti.bytes≤2048)
  (hH:E s0=dJ (.sl k xs))(hy:uU E y=dJ (r,q,.ro (.sl k ys)))(hro:zAA ys=dL)(hys:∀u∈ys,u.size=k)(f8:s0≠d)(fZ:xs.length+ys.length≤68719476736):
  xV P Γ o E (E.app (aWr d s0 dK k (xs++roT.roTs ys)) (zA0 d s0 dK)):=by
 refine xV.value gj fun a w G g9=>?_
 obtain⟨y2,y1⟩:=qD g9 hy rfl;obtain⟨xa,c,h1,h2,h3,h4⟩:=zCe y2;have hf:=zEh ys hro;have gI:=jN _ hf;have gm:(roT.roTs ys).length=ys.length:=zEJ ys;have gy:∀u∈roT.roTs ys,u.size=k:=zFL ys hys (by grind[zJ9]);obtain⟨cs',o',h5,h6⟩:∃(cs':Array Value)(o':Nat),RoL Γ.St ys cs' o' k∧(ys≠[]→ ∃b et fr,xa=dJ ⟨b,o',dK⟩∧Γ.St b=dJ (.cells cs' et fr)):=by
  by_cases gf:ys=[]
  ·subst gf;exact⟨#[],0,by simp[RoL],fun h=>absurd rfl h⟩
  grind
 let f2:Nat→List Nat→Value:=fun j z'=>match ys[j]? with
  |some u=>jM (zCK u cs' (o'+j*k) z'.reverse)
  |none=>.bool dM
 have hf2:∀j u,ys[j]? =dJ u→ ∀z',f2 j z'=jM (zCK u cs' (o'+j*k) z'.reverse):=by grind
 let G0:Gh:={ G with hd:=fun s z'=>if s=d then(match z'.getLast? with
  |some j=>f2 j z'.dropLast
  |none=>.bool dM)else G.hd s z' }
 have hG0:∀j z',G0.hd d (z'++[j])=f2 j z':=by grind
 have c9:∀(G2:Gh)(n:Nat),(∀j z',G2.hd d (z'++[n+j])=f2 j z')→ ∀(i:Nat)(v:Value),(zY G2 d (roT.roTs ys) [] n)[i]? =dJ v→cs'[o'+i]? =dJ v:=by grind[zNb]
 have hload:∀w2:World,w2.heap=w.heap→(Builtin.firstCells ti.size ys.length (.slice xa ys.length c)).run P w2=.ok (zY G0 d (roT.roTs ys) [] 0).toArray w2:=by
  intro w2 hw2
  by_cases gf:ys=[]
  ·subst gf
   cases xa<;>simp[Builtin.firstCells,loadCells,loadCellsFrom,roT.roTs,zY]
  ·obtain⟨b,et,fr,rfl,h7⟩:=h6 gf
   refine run_firstCells_some (P:=P) w2 ti.size ys.length ⟨b,o',dK⟩ _ _ _ ?_ (fun j v hv=>?_)
   ·grind[wA,wC]
   ·have:=c9 G0 0 (fun j z'=>by rw[J8];grind) j v hv
    rw[vP];have h8:=g9.mem.st b _ h7
    grind[World.cell?]
 have pH:∀j z',(f2 j z').oneCell'=dL:=fun j z'=>by
  dsimp only[f2];split
  ·exact zA5 _
  ·rfl
 have hn:zFJ Γ E G d s0 dK k xs.length (roT.roTs ys) f2 (zY G0 d (roT.roTs ys) [] 0):=by
  refine⟨gy,gI.2,gI.1,pH,by grind[wA,wC],by simp,fun _ j u hu G2 w2 eG=>?_,fun G2 eG i v hv=>?_⟩
  ·obtain⟨u0,hu0,rfl⟩:=zJA ys j u hu
   exact zP4 u0 cs' (o'+j*k) [xs.length+j] (by grind) (by grind[zFk])
  ·rw[←zB7 (roT.roTs ys) xs.length 0 (fun i z'=>by rw[eG,J8];grind)]
   exact hv
 have bK:∀v∈zY G0 d (roT.roTs ys) [] 0,v.oneCell'=dL:=by
  intro v hv;refine zCQ (fun s z'=>?_) _ [] 0 v hv;simp only[G0];split
  ·split
   ·exact pH _ _
   ·rfl
  ·exact g9.mem.one _ _
 have mD:zFI P t e ti (a.eval y) (roT.roTs ys).length (zY G0 d (roT.roTs ys) [] 0) w:=⟨by grind⟩;obtain⟨v,w',gz,G',gp⟩:=zBa (P:=P) (ty:=o.type) g9 hd ht hi hz hk eu eH hb hH f8 hn mD bK (by omega);refine⟨v,w',?_,G',gp⟩;rw[←zAB g9 hH rfl]at gz;simp[execOp,ho,resolve,invoke,builtin,gz]
end
end Go.Ab

namespace Go.Ab
open Go
theorem zEK:(us:List T)→sE us=us.flatMap uV
 | []=>rfl
 |u::us=>by simp[sE,zEK us]
theorem zB8(u:T)(h:u.zOk=dL):∀m,kG (J1 m u)=dL
 |0=>rfl
 |m+1=>by simp[Km,kG,h,zB8 u h m]
section
variable {P:Program}{Γ:Ctx}{E:Env}{o:Oper}{d:Nat}
theorem zFM(t t2 e:TypeId)(k2:IntKind)(ti:TypeInfo)(z:Value)(u:T)(k s0:Nat)(y:Operand)(kd:IntKind)(m:Nat)(xs:List T)(ho:o.op=.call { callee:=.builtin .append,args:=#[.tmp s0,y],argTypes:=#[t,t2] })(gj:o.dst=dJ d)(hd:d<Γ.N)
  (ht:P.underlying t=dJ (.slice e))(cV:P.underlying t2=dJ (.int k2))(hi:P.info? e=dJ ti)(hz:ti.zero=dJ z)(hk:ti.size=k)(eu:0<k)(hb:ti.bytes≤2048)(hu:u.zOk=dL)(hv:uV u=z.cells.toList)(ff:u.size=k)
  (hH:E s0=dJ (.sl k xs))(hy:opT E y=dJ (.lit (.int kd m)))(f8:s0≠d)(fZ:xs.length+m≤68719476736):
  xV P Γ o E (E.app (aWr d s0 dK k (xs++J1 m u)) (zA0 d s0 dK)):=by
 refine xV.value gj fun a w G g9=>?_
 have eH:z.cells.size=k:=by rw[←Kh,←hv,wO u hu,ff]
 have hzo:=zB8 u hu m;have gI:=zAZ _ hzo
 let f2:Nat→List Nat→Value:=fun _ z'=>jM (zhd u z'.reverse)
 have dc:((Builtin.zeroCells z.cells m).toList).length=m*k:=by simp[Builtin.zeroCells,eH]
 have hn:zFJ Γ E G d s0 dK k xs.length (J1 m u) f2 (Builtin.zeroCells z.cells m).toList:=by
  refine⟨fun x hx=>by simp at hx;rw[hx.2];exact ff,gI.2,gI.1,fun _ _=>zA5 _,by rw[dc];simp,fun y' hy'=>by simp at hy',fun _ j x hx G2 w2 eG=>?_,fun G2 eG i v px=>?_⟩
  ·rw[K3]at hx
   split at hx
   ·simp at hx;subst hx;exact zI4 u _ hu (fun z'=>eG z')
   ·cases hx
  ·have h1:zY G2 d (J1 m u) [] xs.length=sE (J1 m u):=zCM _ [] xs.length hzo (fun j x hx z'=>by
    rw[K3]at hx;split at hx
    ·simp at hx;subst hx;exact eG j z'
    ·cases hx)
   rw[h1,zEK]at px;obtain⟨h2,h3⟩:=zI5 uV u k (by rw[wO u hu,ff]) eu m i v px;rw[hv,Kl,←eH]at h3;have h4:i<m*z.cells.size:=by rw[eH];exact h2
   simp[Builtin.zeroCells,h4,getElem!_def,h3]
 have gA:∀v∈(Builtin.zeroCells z.cells m).toList,v.oneCell'=dL:=by
  intro v px;simp only[Builtin.zeroCells,Array.toList_map,Array.toList_range,Jh,Ld]at px;obtain⟨i,eR,rfl⟩:=px;have h1:i%z.cells.size<z.cells.size:=Nat.mod_lt _ (by omega);have h2:z.cells[i%z.cells.size]! =z.cells[i%z.cells.size]:=by simp[h1]
  rw[h2];exact zEe u hu _ (by rw[hv];exact Array.mem_toList_iff.2 (Array.getElem_mem h1))
 have mD:zFI P t2 e ti (a.eval y) (J1 m u).length (Builtin.zeroCells z.cells m).toList w:=by
  refine⟨.inr ⟨k2,kd,z,cV,?_,hz,by simp,?_,by rw[eH,hk]⟩⟩
  ·rw[(xX g9 hy).1];simp
  ·simp only[K2]
   exact Lt (Ku (show m≤68719476736 by omega) hb) (by decide)
 obtain⟨v,w',gz,G',gp⟩:=zBa (P:=P) (ty:=o.type) g9 hd ht hi hz hk eu eH hb hH f8 hn mD gA (by simpa using fZ);refine⟨v,w',?_,G',gp⟩;rw[←zAB g9 hH rfl]at gz;simp[execOp,ho,resolve,invoke,builtin,gz]
end
end Go.Ab

namespace Go.Ab
open Go
def zJB(G:Gh)(nd:List (Nat×List Nat×T)):Value:=
 match nd with
 | [x]=>tP G x.1 x.2.2 x.2.1
 |nd=>.tuple (nd.map fun x=>tP G x.1 x.2.2 x.2.1).toArray
def FnC(P:Program)(f:FuncId)(us:List T)(res:List T)(rws:List (Nat×T)):Prop:=
 ∀(St:Stb)(W:Nat→Prop)(w:World)(G:Gh)(vs:Array Value),vs.size=us.length→
  (∀(i:Nat) u,us[i]? =dJ u→vs[i]? =dJ (mkV G i u [])∧R St G w i u [])→Mem ⟨St,W,w,0⟩ G w→
  Calls P f vs w fun e w'=> ∃(S':Stb)(G':Gh)(nd:List (Nat×List Nat×T)),zCH St S' W w.heap.size∧e=.returned (zJB G' nd)∧Mem ⟨S',W,w,0⟩ G' w'∧nd.map (·.2.2)=res∧
   (∀x∈nd,R S' G' w' x.1 x.2.2 x.2.1∧us.length≤x.1)∧(nd.map (·.1)).Nodup∧
   ∀i u',(i,u')∈rws→R S' G' w' i u' []∧ ∃u,us[i]? =dJ u∧mkV G' i u' []=mkV G i u []
mutual
def wG:T→Bool
 |.ro _=>dM
 |.sl _ xs|.agg xs|.tup xs=>vR xs
 |.ptr t=>wG t
 |.any|.lit _|.same _ _|.addr _ _|.sub _ _ _ _ _=>dL
def vR:List T→Bool
 | []=>dL
 |x::xs=>wG x&&vR xs
end
section
variable {St St':Stb}{G:Gh}{w:World}{s:Nat}
mutual
theorem zOj:(t:T)→ ∀(p:List Nat),wG t=dL→R St G w s t p→R St' G w s t p
 |.ro _,_,h,_=>by grind[wG]
 |.sl k xs,p,h,hr=>by
  simp only[wG,R]at h hr ⊢
  rcases hr with hr|⟨b,cap,cs,e,h1,h2,h3,h4,h5,h6,h7,h8⟩
  ·grind
  ·exact .inr ⟨b,cap,cs,e,h1,h2,h3,h4,h5,h6,h7,zU1 xs p 0 b 0 k h h8⟩
 |.agg xs,p,h,hr|.tup xs,p,h,hr=>by simp only[wG,R]at h hr ⊢;exact zU2 xs p 0 h hr
 |.ptr t,p,h,hr=>by
  simp only[wG,R]at h hr ⊢
  obtain⟨b,cs,e,h1,h2,h3,h6,h4,h5⟩:=hr;exact⟨b,cs,e,h1,h2,h3,h6,h4,zOj t _ h h5⟩
 |.any,_,_,hr|.lit _,_,_,hr|.same _ _,_,_,hr|.addr _ _,_,_,hr|.sub _ _ _ _ _,_,_,hr=>by first|(simp only[R];done)|simpa only[R]using hr
theorem zU1:(xs:List T)→ ∀(p:List Nat)(i b o k:Nat),vR xs=dL→RL St G w s xs p i b o k→RL St' G w s xs p i b o k
 | [],_,_,_,_,_,_,_=>by simp only[RL]
 |x::xs,p,i,b,o,k,h,hr=>by
  simp only[vR,J2,RL]at h hr ⊢
  exact⟨hr.1,zOj x _ h.1 hr.2.1,zU1 xs p (i+1) b _ k h.2 hr.2.2⟩
theorem zU2:(xs:List T)→ ∀(p:List Nat)(i:Nat),vR xs=dL→RF St G w s xs p i→RF St' G w s xs p i
 | [],_,_,_,_=>by simp only[RF]
 |x::xs,p,i,h,hr=>by
  simp only[vR,J2,RF]at h hr ⊢
  exact⟨zOj x _ h.1 hr.1,zU2 xs p (i+1) h.2 hr.2⟩
end
end
section
variable {St St':Stb} (h:∀b x,St b=dJ x→St' b=dJ x)
 include h
mutual
theorem uW:(t:T)→ ∀(cs:Array Value)(o:Nat),RoC St t cs o→RoC St' t cs o
 |.sl k xs,cs,o,hr=>by
  simp only[RoC]at hr ⊢
  obtain⟨a,c,h1,h2,h3,h4⟩:=hr;refine⟨a,c,h1,h2,h3,fun gf=>?_⟩;obtain⟨b,o',cs',e,fr,h5,h6,h7⟩:=h4 gf;exact⟨b,o',cs',e,fr,h5,h b _ h6,zJC xs cs' o' k h7⟩
 |.agg xs,cs,o,hr=>by simp only[RoC]at hr ⊢;exact zJD xs cs o hr
 |.ptr t,cs,o,hr=>by
  simp only[RoC]at hr ⊢
  obtain⟨b,o',cs',e,fr,h5,h6,h7⟩:=hr;exact⟨b,o',cs',e,fr,h5,h b _ h6,uW t cs' o' h7⟩
 |.any,_,_,hr|.lit _,_,_,hr|.ro _,_,_,hr|.same _ _,_,_,hr|.addr _ _,_,_,hr|.sub _ _ _ _ _,_,_,hr|.tup _,_,_,hr=>by first|(simp only[RoC]at hr;done)|simpa only[RoC]using hr
theorem zJC:(xs:List T)→ ∀(cs:Array Value)(o k:Nat),RoL St xs cs o k→RoL St' xs cs o k
 | [],_,_,_,_=>by have _:=h;simp only[RoL]
 |x::xs,cs,o,k,hr=>by simp only[RoL]at hr ⊢;exact⟨uW x cs o hr.1,zJC xs cs _ k hr.2⟩
theorem zJD:(xs:List T)→ ∀(cs:Array Value)(o:Nat),RoF St xs cs o→RoF St' xs cs o
 | [],_,_,_=>by have _:=h;simp only[RoF]
 |x::xs,cs,o,hr=>by simp only[RoF]at hr ⊢;exact⟨uW x cs o hr.1,zJD xs cs _ hr.2⟩
end
end
section
variable {St St':Stb}{G:Gh}{w:World}{s:Nat} (h:∀b x,St b=dJ x→St' b=dJ x)
 include h
mutual
theorem zID:(t:T)→ ∀(p:List Nat),R St G w s t p→R St' G w s t p
 |.ro t,_,hr=>by simp only[R]at hr ⊢;grind[uW]
 |.sl k xs,p,hr=>by
  simp only[R]at hr ⊢
  rcases hr with hr|⟨b,cap,cs,e,h1,h2,h3,h4,h5,h6,h7,h8⟩
  ·grind
  ·exact .inr ⟨b,cap,cs,e,h1,h2,h3,h4,h5,h6,h7,zNd xs p 0 b 0 k h8⟩
 |.agg xs,p,hr|.tup xs,p,hr=>by simp only[R]at hr ⊢;exact zNe xs p 0 hr
 |.ptr t,p,hr=>by
  simp only[R]at hr ⊢
  obtain⟨b,cs,e,h1,h2,h3,h6,h4,h5⟩:=hr;exact⟨b,cs,e,h1,h2,h3,h6,h4,zID t _ h5⟩
 |.any,_,hr|.lit _,_,hr|.same _ _,_,hr|.addr _ _,_,hr|.sub _ _ _ _ _,_,hr=>by first|(simp only[R];done)|simpa only[R]using hr
theorem zNd:(xs:List T)→ ∀(p:List Nat)(i b o k:Nat),RL St G w s xs p i b o k→RL St' G w s xs p i b o k
 | [],_,_,_,_,_,_=>by have _:=h;simp only[RL]
 |x::xs,p,i,b,o,k,hr=>by simp only[RL]at hr ⊢;exact⟨hr.1,zID x _ hr.2.1,zNd xs p (i+1) b _ k hr.2.2⟩
theorem zNe:(xs:List T)→ ∀(p:List Nat)(i:Nat),RF St G w s xs p i→RF St' G w s xs p i
 | [],_,_,_=>by have _:=h;simp only[RF]
 |x::xs,p,i,hr=>by simp only[RF]at hr ⊢;exact⟨zID x _ hr.1,zNe xs p (i+1) hr.2⟩
end
end
mutual
def strip:T→T
 |.lit v=>.lit v
 |.ro u=>if u.single then u else .any
 |.sl k xs=>.sl k (wD xs)
 |.agg xs=>.agg (wD xs)
 |.ptr t=>.ptr (strip t)
 |.any|.same _ _|.addr _ _|.sub _ _ _ _ _|.tup _=>.any
def wD:List T→List T
 | []=>[]
 |x::xs=>strip x::wD xs
end
theorem jG:(xs:List T)→(wD xs).length=xs.length
 | []=>rfl
 |x::xs=>by simp[wD,jG xs]
mutual
theorem zCR:(t:T)→(strip t).size=t.size
 |.agg xs=>by simp only[strip,T.size];exact zEL xs
 |.ro u=>by
  simp only[strip];split
  ·rename_i h;cases u<;>simp[T.single]at h<;>simp[T.size]
  rfl
 |.lit _|.sl _ _|.ptr _|.any|.same _ _|.addr _ _|.sub _ _ _ _ _|.tup _=>by rfl
theorem zEL:(xs:List T)→T.sizes (wD xs)=T.sizes xs
 | []=>rfl
 |x::xs=>by simp only[wD,T.sizes,zCR x,zEL xs]
end
theorem sW{St:Stb}{u:T}(hu:u.single=dL){v:Value}{cs:Array Value}{o:Nat}(h:RoC St u #[v] 0)(hc:cs[o]? =dJ v):RoC St u cs o:=by
 cases u<;>simp[T.single]at hu<;>simp only[RoC]at h ⊢ <;>simp at h<;>first
  |grind
  |grind
  |grind
  |grind
section
variable {St Sc:Stb}{G:Gh}{w:World}{s:Nat} (gA:∀s p,(G.hd s p).oneCell'=dL) (e6:∀b x,St b=dJ x→Sc b=dJ x) (ek:∀b,(∃y,G.ow b=dJ (s,y))→Sc b=w.heap[b]?)
 include gA e6 ek
mutual
theorem frz:(t:T)→ ∀(p:List Nat)(b o:Nat)(cs:Array Value)(e:TypeId)(fr:Nat×Nat),w.heap[b]? =dJ (.cells cs e fr)→Loc G w s t p b o→R St G w s t p→RoC Sc (strip t) cs o
 |.agg xs,p,b,o,cs,e,fr,hb,hl,hr=>by simp only[Loc,R,strip,RoC]at hl hr ⊢;exact zWC xs p 0 b o cs e fr hb hl.2 hr
 |.tup _,_,_,_,_,_,_,_,hl,_=>by have _:=ek;simp only[Loc]at hl
 |.any,p,b,o,cs,e,fr,hb,hl,hr|.same _ _,p,b,o,cs,e,fr,hb,hl,hr|.addr _ _,p,b,o,cs,e,fr,hb,hl,hr|.sub _ _ _ _ _,p,b,o,cs,e,fr,hb,hl,hr=>by
  have h1:=(wN rfl hl).2.2;simp only[yI,World.cell?,hb]at h1;simp only[strip,RoC]
  grind
 |.lit v,p,b,o,cs,e,fr,hb,hl,hr=>by
  have h1:=(wN rfl hl).2.2;simp only[yI,World.cell?,hb]at h1;simp only[strip,RoC,R]at hr ⊢
  grind
 |.ro u,p,b,o,cs,e,fr,hb,hl,hr=>by
  have h1:=(wN rfl hl).2.2;simp only[yI,World.cell?,hb]at h1;simp only[strip,R]at hr ⊢
  split
  ·grind[sW,uW]
  ·simp only[RoC];grind
 |.sl k xs,p,b,o,cs,e,fr,hb,hl,hr=>by have h1:=(wN rfl hl).2.2;simp only[yI,World.cell?,hb]at h1;exact sW rfl (zJE (.sl k xs) p rfl hr) (by grind)
 |.ptr t,p,b,o,cs,e,fr,hb,hl,hr=>by have h1:=(wN rfl hl).2.2;simp only[yI,World.cell?,hb]at h1;exact sW rfl (zJE (.ptr t) p rfl hr) (by grind)
theorem zWC:(xs:List T)→ ∀(p:List Nat)(j b o:Nat)(cs:Array Value)(e:TypeId)(fr:Nat×Nat),w.heap[b]? =dJ (.cells cs e fr)→wS G w s xs p j b o→RF St G w s xs p j→RoF Sc (wD xs) cs o
 | [],_,_,_,_,_,_,_,_,_,_=>by have _:=gA;have _:=e6;have _:=ek;simp only[wD,RoF]
 |x::xs,p,j,b,o,cs,e,fr,hb,hl,hr=>by
  simp only[wS,RF,wD,RoF]at hl hr ⊢
  exact⟨frz x _ b o cs e fr hb hl.1 hr.1,by rw[zCR];exact zWC xs p (j+1) b _ cs e fr hb hl.2 hr.2⟩
theorem zWD:(xs:List T)→ ∀(p:List Nat)(i b o k:Nat)(cs:Array Value)(e:TypeId)(fr:Nat×Nat),w.heap[b]? =dJ (.cells cs e fr)→RL St G w s xs p i b o k→RoL Sc (wD xs) cs o k
 | [],_,_,_,_,_,_,_,_,_,_=>by have _:=gA;have _:=e6;have _:=ek;simp only[wD,RoL]
 |x::xs,p,i,b,o,k,cs,e,fr,hb,hr=>by
  simp only[RL,wD,RoL]at hr ⊢
  exact⟨frz x _ b o cs e fr hb hr.1.1 hr.2.1,zWD xs p (i+1) b _ k cs e fr hb hr.2.2⟩
theorem zJE:(t:T)→ ∀(p:List Nat),t.single=dL→R St G w s t p→RoC Sc (strip t) #[G.hd s p] 0
 |.agg _,_,h,_|.tup _,_,h,_=>by grind[T.single]
 |.any,p,_,_|.same _ _,p,_,_|.addr _ _,p,_,_|.sub _ _ _ _ _,p,_,_=>by simp only[strip,RoC];simp_all
 |.lit v,p,_,hr=>by simp only[strip,RoC,R]at hr ⊢;grind
 |.ro u,p,_,hr=>by
  simp only[strip,R]at hr ⊢
  split
  ·grind[uW]
  ·simp only[RoC];grind
 |.sl k xs,p,_,hr=>by
  simp only[strip,R,RoC]at hr ⊢
  rw[jG];rcases hr with⟨rfl,a,h1⟩|⟨b,cap,cs,e,h1,h2,h3,h4,h5,h6,h7,h8⟩
  ·grind[wD]
  ·exact⟨dJ ⟨b,0,dK⟩,cap,by simp[h1],h3,h4,fun _=>⟨b,0,cs,e,(0,0),rfl,by grind,zWD xs p 0 b 0 k cs e (0,0) h2 h8⟩⟩
 |.ptr t,p,_,hr=>by
  simp only[strip,R,RoC]at hr ⊢
  obtain⟨b,cs,e,h1,h2,h3,h6,h4,h5⟩:=hr;exact⟨b,0,cs,e,(0,0),by simp[h1],by grind,frz t _ b 0 cs e (0,0) h2 h4 h5⟩
end
end
end Go.Ab

namespace Go.Ab
open Go
mutual
def clo(E:Env):T→T
 |.agg ts=>.agg (zAC E ts)
 |.lit v=>.lit v
 |.ro u=>.ro u
 |.same r q=>match sV E 4 r q with
  |some (_,_,.ro u)=>.ro u
  |some (_,_,.lit v)=>.lit v
  |some (_,_,t)=>if t.single then .ro (strip t)else .any
  |none=>.any
 |.sub r q k lo hi=>match sV E 4 r q with
  |some (_,_,.sl k' xs)=>if k=k'∧lo≤hi∧hi≤xs.length then .ro (.sl k (((wD xs).drop lo).take (hi-lo)))else .any
  |_=>.any
 |.sl k xs=>.ro (strip (.sl k xs))
 |.ptr t=>.ro (strip (.ptr t))
 |.any|.addr _ _|.tup _=>.any
def zAC(E:Env):List T→List T
 | []=>[]
 |x::xs=>clo E x::zAC E xs
end
mutual
def tZ(E:Env)(rs:List Nat)(s:Nat):T→Bool
 |.agg ts=>zAa E rs s ts
 |.same r q|.sub r q _ _ _=>match sV E 4 r q with
  |some (r',_,_)=> !rs.contains r'
  |none=>dL
 |.sl _ _|.ptr _=> !rs.contains s
 |.lit _|.ro _|.any|.addr _ _=>dL
 |.tup _=>dM
def zAa(E:Env)(rs:List Nat)(s:Nat):List T→Bool
 | []=>dL
 |x::xs=>tZ E rs s x&&zAa E rs s xs
end
theorem zTa{St:Stb}{k:Nat}{xs:List T}{v:Value}{lo hi:Nat}(h:RoC St (.sl k xs) #[v] 0)(h1:lo≤hi)(h2:hi≤xs.length):RoC St (.sl k ((xs.drop lo).take (hi-lo))) #[kS v k lo hi] 0:=by
 simp only[RoC]at h ⊢
 obtain⟨a',c,g4,g5,g6,g7⟩:=h;have hv:v=.slice a' xs.length c:=by simpa using g4
 subst hv;have gm:((xs.drop lo).take (hi-lo)).length=hi-lo:=by simp;omega
 refine⟨if c=lo then a' else a'.map (·.add (lo*k)),c-lo,by rw[gm];simp[kS],by omega,by omega,?_⟩;intro gf;have ee:xs≠[]:=by rintro rfl;simp at gf
 obtain⟨b,o',cs',e',fr,rfl,h3,h4⟩:=g7 ee;have gI:c≠lo:=by rintro rfl;apply gf;apply Kn;omega
 exact⟨b,o'+lo*k,cs',e',fr,by simp[gI,vP],h3,zF9 _ _ _ _ _ (zF8 _ _ _ _ _ h4)⟩
section
variable {Γ:Ctx}{E:Env}{G Gc:Gh}{a:Act}{w:World}{Sc:Stb}{rs:List Nat}{s i:Nat} (g9:Rep Γ E G a.tmps w) (e6:∀b x,Γ.St b=dJ x→Sc b=dJ x) (ek:∀r,r∉rs→ ∀b,(∃y,G.ow b=dJ (r,y))→Sc b=w.heap[b]?) (gH:∀z,Gc.hd i z=G.hd s z)
 include g9 e6 ek gH
mutual
theorem zU3:(t:T)→ ∀(p:List Nat),tZ E rs s t=dL→R Γ.St G w s t p→R Sc Gc w i (clo E t) p
 |.agg ts,p,h,hr=>by simp only[tZ,clo,R]at h hr ⊢;exact zPF ts p 0 h hr
 |.tup _,_,h,_=>by simp[tZ]at h
 |.lit v,p,_,hr=>by simp only[clo,R]at hr ⊢;rw[gH];exact hr
 |.ro u,p,_,hr=>by simp only[clo,R]at hr ⊢;rw[gH];exact uW e6 u _ _ hr
 |.any,_,_,_|.addr _ _,_,_,_=>by simp only[clo,R]
 |.sl k xs,p,h,hr=>by simp only[tZ,G6,Lu,decide_eq_false_iff_not]at h;have:=zJE (fun s p=>g9.mem.one s p) e6 (ek s h) (.sl k xs) p rfl hr;simp only[clo,R];rw[gH];exact this
 |.ptr t,p,h,hr=>by simp only[tZ,G6,Lu,decide_eq_false_iff_not]at h;have:=zJE (fun s p=>g9.mem.one s p) e6 (ek s h) (.ptr t) p rfl hr;simp only[clo,R];rw[gH];exact this
 |.same r q,p,h,hr=>by
  simp only[tZ,clo,R]at h hr ⊢
  cases hf:sV E 4 r q with
  |none=>simp only[R]
  |some x=>
   obtain⟨r',q',t⟩:=x;simp only[hf,G6,Lu,decide_eq_false_iff_not]at h;obtain⟨h1,h2,_⟩:=zCd g9 4 r q r' q' t hf;have h3:Gc.hd i p=G.hd r' q':=by rw[gH,hr,h2]
   by_cases hs:t.single=dL
   ·have h4:=zJE (fun s p=>g9.mem.one s p) e6 (ek r' h) t q' hs h1
    cases t with
    |ro u=>simp only[R]at h1 ⊢;rw[h3];exact uW e6 u _ _ h1
    |lit v=>simp only[R]at h1 ⊢;rw[h3];exact h1
    |agg _=>simp[T.single]at hs
    |tup _=>simp[T.single]at hs
    |_=>simp only[hs,if_true,R];rw[h3];exact h4
   ·cases t<;>simp[T.single]at hs<;>simp[T.single,R]
 |.sub r q k lo hi,p,h,hr=>by
  simp only[tZ,clo,R]at h hr ⊢
  cases hf:sV E 4 r q with
  |none=>simp only[R]
  |some x=>
   obtain⟨r',q',t⟩:=x;simp only[hf,G6,Lu,decide_eq_false_iff_not]at h;obtain⟨h1,h2,_⟩:=zCd g9 4 r q r' q' t hf;cases t with
   |sl k' xs=>
    simp only[];split
    ·rename_i hc
     obtain⟨rfl,c7,eT⟩:=hc;have h4:=zJE (fun s p=>g9.mem.one s p) e6 (ek r' h) (.sl k xs) q' rfl h1;simp only[strip]at h4;simp only[R];rw[gH,hr,h2];exact zTa h4 c7 (by rw[jG];exact eT)
    ·simp only[R]
   |_=>simp only[R]
theorem zPF:(ts:List T)→ ∀(p:List Nat)(j:Nat),zAa E rs s ts=dL→RF Γ.St G w s ts p j→RF Sc Gc w i (zAC E ts) p j
 | [],_,_,_,_=>by have _:=g9;have _:=e6;have _:=ek;have _:=gH;simp only[zAC,RF]
 |x::xs,p,j,h,hr=>by
  simp only[zAa,J2,zAC,RF]at h hr ⊢
  exact⟨zU3 x _ h.1 hr.1,zPF xs p (j+1) h.2 hr.2⟩
end
end
section
variable {E:Env}{G Gc:Gh}{rs:List Nat}{s i:Nat}
theorem zFN(t:T)(h:t.single=dL):(clo E t).single=dL:=by cases t<;>simp[T.single]at h<;>simp only[clo]<;>first|rfl|(split<;>first|rfl|(split<;>rfl))
mutual
theorem zPG(gH:∀z,Gc.hd i z=G.hd s z):(t:T)→ ∀(p:List Nat),tZ E rs s t=dL→vals Gc i (clo E t) p=vals G s t p
 |.agg ts,p,h=>by simp only[tZ,clo,vals]at h ⊢;exact zEi gH ts p 0 h
 |.tup _,_,h=>by simp[tZ]at h
 |.lit _,p,_|.ro _,p,_|.any,p,_|.addr _ _,p,_|.sl _ _,p,_|.ptr _,p,_|.same _ _,p,_|.sub _ _ _ _ _,p,_=>by
  have h1:∀u:T,u.single=dL→vals Gc i u p=[G.hd s p]:=fun u hu=>by cases u<;>simp[T.single]at hu<;>simp[vals,gH]
  rw[h1 _ (zFN _ rfl)];simp[vals]
theorem zEi(gH:∀z,Gc.hd i z=G.hd s z):(ts:List T)→ ∀(p:List Nat)(j:Nat),zAa E rs s ts=dL→zY Gc i (zAC E ts) p j=zY G s ts p j
 | [],_,_,_=>by simp only[zAC,zY]
 |x::xs,p,j,h=>by simp only[zAa,J2]at h;simp only[zAC,zY];rw[zPG gH x _ h.1,zEi gH xs p _ h.2]
end
theorem zNf(gH:∀z,Gc.hd i z=G.hd s z)(t:T)(h:tZ E rs s t=dL):mkV Gc i (clo E t) []=mkV G s t []:=by
 cases t with
 |agg ts=>simp only[tZ]at h;simp only[clo,mkV,zEi gH ts [] 0 h]
 |tup _=>simp[tZ]at h
 |_=>rw[xJ (zFN _ rfl),xJ rfl,gH]
end
end Go.Ab
