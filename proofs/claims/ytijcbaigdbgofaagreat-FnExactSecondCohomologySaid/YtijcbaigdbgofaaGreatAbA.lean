/- The program's SecondCohomology returns what the reference's returns,for all arguments;no conditions. -/
import Derived.Orders
import Derived.Laws.AppendOwn
import Derived.Laws.MakeOwn
import Derived.Great.BuildSlice
import Derived.Laws.Tables
open List renaming replicate→J1,length_append→J6,length_cons→J7,mem_cons→J8,getElem?_append_right→J9,append_assoc→Jc,mem_append→Jd,append_nil→Je,length_replicate→Jf,mem_map→Jm,getElem?_eq_some_iff→Jn,map_cons→Jo,replicate_succ→Jp,nil_append→Jt,getElem?_append_left→Ju,getElem?_map→K0,cons_append→K1,length_take→Ka,getElem?_replicate→Ke,all_eq_true→Kf,reverse_reverse→Ki,getElem?_append→Kk,mem_range→Kq,ext_getElem?→Kv,nodup_cons→L8,set_cons_succ→L9,take_succ_cons→Ld,flatMap_cons→Lj,eq_nil_of_length_eq_zero→Ll,mem_of_getElem?→Lr,set_cons_zero→H2,contains_eq_mem→H9,getElem?_drop→He,foldl_cons→G1,map_nil→Gv,getElem?_take_of_lt→Gw,getElem?_cons_succ→Ue,drop_eq_getElem_cons→Uf,reverse_cons→Ug,getElem?_set_ne→Q3,length_set→Qa,reverse_nil→Qe,map_toArray→Qf,flatMap_append→Qk,cons→Qv,reverse_append→Jak,not_mem_nil→Jar,take_append_drop→Jb0,take_append→Jb7,map_take→Jb9,isEmpty_iff→Jbb,size_toArray→Jbl
open Bool renaming and_eq_true→J3,false_eq_true→Hq,not_eq_true'→Gp,false_and→Jbj
open Int renaming toNat_natCast→Ja
open Nat renaming zero_add→Jb,le_refl→Ji,mul_le_mul→Jv,succ_mul→K4,mul_le_mul_right→Kd,sub_self→Kl,le_trans→H8,add_mul→Uc,mod_lt→Ul,add_zero→Qd,min_eq_left→Qs,lt_of_lt_of_le→Jax,le_mul_of_pos_right→Jay
open Array renaming getElem?_setIfInBounds→Jl,getD_eq_getD_getElem?→Kh,length_toList→Ko,getElem?_toList→Kt,getElem?_eq_some_iff→Ky,range→Jbx
open Option renaming isSome_none→Uk,map_none→Jaw
open Prod renaming mk→Jaj
open Option renaming some→i7,none→i8
open Bool renaming true→i9,false→ia
theorem ib{p:Prop}[h:Decidable p](a:¬p):decide p=false:=decide_eq_false a
theorem ic{p:Prop}[h:Decidable p](a:p):decide p=true:=decide_eq_true a
namespace Go.Ab
open Go
inductive T where
 |any
 |lit (v:Value)
 |ro (t:T)
 |same (r:Nat) (p:List Nat)
 |addr (r:Nat) (p:List Nat)
 |sub (r:Nat) (p:List Nat) (k lo hi:Nat)
 |sl (k:Nat) (xs:List T)
 |agg (xs:List T)
 |ptr (t:T)
 |tup (xs:List T)
 deriving Inhabited
abbrev Stb:=Nat→Option Obj
mutual
def T.size:T→Nat
 |.agg xs=>T.sizes xs
 |_=>1
def T.sizes:List T→Nat
 | []=>0
 |x::xs=>x.size+T.sizes xs
end
mutual
def RoC(St:Stb):T→Array Value→Nat→Prop
 |.any,cs,o=> ∃v,cs[o]? =i7 v∧v.oneCell'=i9
 |.lit v,cs,o=>cs[o]? =i7 v∧v.oneCell'=i9
 |.ro _,_,_=>False
 |.sl k xs,cs,o=> ∃a c,cs[o]? =i7 (.slice a xs.length c)∧xs.length≤c∧c≤maxLen∧
   (xs≠[]→ ∃b o' cs' e fr,a=i7 ⟨b,o',i8⟩∧St b=i7 (.cells cs' e fr)∧RoL St xs cs' o' k)
 |.agg xs,cs,o=>RoF St xs cs o
 |.ptr t,cs,o=> ∃b o' cs' e fr,cs[o]? =i7 (.pointer (i7 ⟨b,o',i8⟩))∧St b=i7 (.cells cs' e fr)∧RoC St t cs' o'
 |.same _ _,_,_=>False
 |.addr _ _,_,_=>False
 |.sub _ _ _ _ _,_,_=>False
 |.tup _,_,_=>False
def RoL(St:Stb):List T→Array Value→Nat→Nat→Prop
 | [],_,_,_=>True
 |x::xs,cs,o,k=>RoC St x cs o∧RoL St xs cs (o+k) k
def RoF(St:Stb):List T→Array Value→Nat→Prop
 | [],_,_=>True
 |x::xs,cs,o=>RoC St x cs o∧RoF St xs cs (o+x.size)
end
structure Gh where
 hd:Nat→List Nat→Value
 ad:Nat→List Nat→Addr
 lb:Nat→Nat→Option (Bool×Nat×List Nat)
 ow:Nat→Option (Nat×List Nat)
def yO(w:World)(b o:Nat):Option Value:=w.cell? ⟨b,o,i8⟩
mutual
def Loc(G:Gh)(w:World)(s:Nat):T→List Nat→Nat→Nat→Prop
 |.agg xs,p,b,o=>G.ad s p=⟨b,o,i8⟩∧vE G w s xs p 0 b o
 |.tup _,_,_,_=>False
 |.any,p,b,o|.lit _,p,b,o|.ro _,p,b,o|.same _ _,p,b,o|.addr _ _,p,b,o|.sub _ _ _ _ _,p,b,o|.sl _ _,p,b,o|.ptr _,p,b,o=>
  G.ad s p=⟨b,o,i8⟩∧G.lb b o=i7 (ia,s,p)∧yO w b o=i7 (G.hd s p)
def vE(G:Gh)(w:World)(s:Nat):List T→List Nat→Nat→Nat→Nat→Prop
 | [],_,_,_,_=>True
 |x::xs,p,j,b,o=>Loc G w s x (j::p) b o∧vE G w s xs p (j+1) b (o+x.size)
end
def zAZ(v:Value)(k lo hi:Nat):Value:=
 match v with
 |.slice a _ c=>.slice (if c=lo then a else a.map (·.add (lo*k))) (hi-lo) (c-lo)
 |v=>v
mutual
def R(St:Stb)(G:Gh)(w:World)(s:Nat):T→List Nat→Prop
 |.any,_=>True
 |.lit v,p=>G.hd s p=v
 |.ro t,p=>RoC St t #[G.hd s p] 0
 |.same r q,p=>G.hd s p=G.hd r q
 |.addr r q,p=>G.hd s p=.pointer (i7 (G.ad r q))
 |.sub r q k lo hi,p=>G.hd s p=zAZ (G.hd r q) k lo hi
 |.sl k xs,p=>(xs=[]∧ ∃a,G.hd s p=.slice a 0 0)∨ ∃b cap cs e,G.hd s p=.slice (i7 ⟨b,0,i8⟩) xs.length cap∧
   w.heap[b]? =i7 (.cells cs e (0,0))∧xs.length≤cap∧cap≤maxLen∧cap*k≤cs.size∧G.ow b=i7 (s,p)∧
   (∀o,xs.length*k≤o→o<cap*k→G.lb b o=i7 (i9,s,p))∧RL St G w s xs p 0 b 0 k
 |.agg xs,p=>RF St G w s xs p 0
 |.ptr t,p=> ∃b cs e,G.hd s p=.pointer (i7 ⟨b,0,i8⟩)∧w.heap[b]? =i7 (.cells cs e (0,0))∧cs.size=t.size∧G.ow b=i7 (s,p)∧
   Loc G w s t (0::p) b 0∧R St G w s t (0::p)
 |.tup xs,p=>RF St G w s xs p 0
def RL(St:Stb)(G:Gh)(w:World)(s:Nat):List T→List Nat→Nat→Nat→Nat→Nat→Prop
 | [],_,_,_,_,_=>True
 |x::xs,p,i,b,o,k=>(Loc G w s x (i::p) b o∧x.size=k)∧R St G w s x (i::p)∧RL St G w s xs p (i+1) b (o+k) k
def RF(St:Stb)(G:Gh)(w:World)(s:Nat):List T→List Nat→Nat→Prop
 | [],_,_=>True
 |x::xs,p,j=>R St G w s x (j::p)∧RF St G w s xs p (j+1)
end
mutual
def xC(φ:Nat→List Nat→Prop):T→Prop
 |.same r p|.addr r p|.sub r p _ _ _=>φ r p
 |.sl _ xs|.agg xs|.tup xs=>xX φ xs
 |.ptr t=>xC φ t
 |.any|.lit _|.ro _=>True
def xX(φ:Nat→List Nat→Prop):List T→Prop
 | []=>True
 |x::xs=>xC φ x∧xX φ xs
end
mutual
theorem xC.mono{φ ψ:Nat→List Nat→Prop}(h:∀r p,φ r p→ψ r p):(t:T)→xC φ t→xC ψ t
 |.same _ _,ht|.addr _ _,ht|.sub _ _ _ _ _,ht=>h _ _ ht
 |.sl _ xs,ht|.agg xs,ht|.tup xs,ht=>by simp only[xC]at ht ⊢;exact xX.mono h xs ht
 |.ptr t,ht=>by simp only[xC]at ht ⊢;exact xC.mono h t ht
 |.any,_|.lit _,_|.ro _,_=>by simp[xC]
theorem xX.mono{φ ψ:Nat→List Nat→Prop}(h:∀r p,φ r p→ψ r p):(xs:List T)→xX φ xs→xX ψ xs
 | [],_=>trivial
 |x::xs,hx=>⟨xC.mono h x hx.1,xX.mono h xs hx.2⟩
end
mutual
theorem xC.triv{φ:Nat→List Nat→Prop}(h:∀r p,φ r p):(t:T)→xC φ t
 |.same _ _|.addr _ _|.sub _ _ _ _ _=>by simp only[xC];exact h _ _
 |.sl _ xs|.agg xs|.tup xs=>by simp only[xC];exact xX.triv h xs
 |.ptr t=>by simp only[xC];exact xC.triv h t
 |.any|.lit _|.ro _=>by simp only[xC]
theorem xX.triv{φ:Nat→List Nat→Prop}(h:∀r p,φ r p):(xs:List T)→xX φ xs
 | []=>by simp only[xX]
 |x::xs=>by simp only[xX];exact⟨xC.triv h x,xX.triv h xs⟩
end
abbrev yD(t:T):Prop:=xC (fun _ _=>False) t
abbrev xQ(xs:List T):Prop:=xX (fun _ _=>False) xs
def Blk(w w':World):Prop:=∀(b:Nat) cs e,w.heap[b]? =i7 (.cells cs e (0,0))→ ∃cs',w'.heap[b]? =i7 (.cells cs' e (0,0))∧cs'.size=cs.size
structure MovesE (G:Gh) (w:World) (G':Gh) (w':World) (s:Nat) (p:List Nat) (s':Nat) (p':List Nat):Prop where
 hd:∀z,G'.hd s' (z++p')=G.hd s (z++p)
 ad:∀z,z≠[]→G'.ad s' (z++p')=G.ad s (z++p)
 lb:∀b o f z,z≠[]→(∃y,G.ow b=i7 (s,y))→G.lb b o=i7 (f,s,z++p)→G'.lb b o=i7 (f,s',z++p')∧yO w' b o=yO w b o
 ow:∀b z,z≠[]→G.ow b=i7 (s,z++p)→G'.ow b=i7 (s',z++p')
 blk:Blk w w'
structure zIw (G:Gh) (w:World) (G':Gh) (w':World) (s:Nat) (p:List Nat) (s':Nat) (p':List Nat):Prop extends MovesE G w G' w' s p s' p' where
 sp:∀b o,(∃y,G.ow b=i7 (s,y))→G.lb b o=i7 (i9,s,p)→G'.lb b o=i7 (i9,s',p')∧yO w' b o=yO w b o
 ow0:∀b,G.ow b=i7 (s,p)→G'.ow b=i7 (s',p')
def kX(G G':Gh)(r:Nat)(p:List Nat):Prop:=G'.hd r p=G.hd r p∧G'.ad r p=G.ad r p
section
variable {St:Stb}{G:Gh}{w:World}{G':Gh}{w':World}{s:Nat}{p:List Nat}{s':Nat}{p':List Nat}
mutual
theorem zEc(hm:MovesE G w G' w' s p s' p'):(t:T)→ ∀(z:List Nat)(b o:Nat),z≠[]→(∃y,G.ow b=i7 (s,y))→Loc G w s t (z++p) b o→Loc G' w' s' t (z++p') b o
 |.agg xs,z,b,o,hz,hH,h=>by
  simp only[Loc]at h ⊢
  exact⟨(hm.ad z hz).trans h.1,zIx hm xs z 0 b o hH h.2⟩
 |.any,z,b,o,hz,hH,h|.lit _,z,b,o,hz,hH,h|.ro _,z,b,o,hz,hH,h|.same _ _,z,b,o,hz,hH,h|.addr _ _,z,b,o,hz,hH,h|.sub _ _ _ _ _,z,b,o,hz,hH,h|.sl _ _,z,b,o,hz,hH,h|.ptr _,z,b,o,hz,hH,h=>by
  simp only[Loc]at h ⊢
  obtain⟨h1,h2,h3⟩:=h;have hl:=hm.lb b o ia z hz hH h2;exact⟨(hm.ad z hz).trans h1,hl.1,by rw[hl.2,h3,hm.hd]⟩
 |.tup _,_,_,_,_,_,h=>by simp only[Loc]at h
theorem zIx(hm:MovesE G w G' w' s p s' p'):(xs:List T)→ ∀(z:List Nat)(j b o:Nat),(∃y,G.ow b=i7 (s,y))→vE G w s xs (z++p) j b o→vE G' w' s' xs (z++p') j b o
 | [],_,_,_,_,_,_=>by simp only[vE]
 |x::xs,z,j,b,o,hH,h=>by
  simp only[vE]at h ⊢
  exact⟨zEc hm x (j::z) b o (by simp) hH h.1,zIx hm xs z (j+1) b _ hH h.2⟩
end
mutual
theorem zEd(hm:MovesE G w G' w' s p s' p'):(t:T)→ ∀(z:List Nat),z≠[]→xC (kX G G') t→R St G w s t (z++p)→R St G' w' s' t (z++p')
 |.any,_,_,_,_=>by simp only[R]
 |.lit _,z,_,_,h=>by simp only[R]at h ⊢;rw[hm.hd];exact h
 |.ro _,z,_,_,h=>by simp only[R]at h ⊢;rw[hm.hd];exact h
 |.same r q,z,_,hk,h=>by simp only[R]at h ⊢;rw[hm.hd,hk.1];exact h
 |.addr r q,z,_,hk,h=>by simp only[R]at h ⊢;rw[hm.hd,hk.2];exact h
 |.sub r q k lo hi,z,_,hk,h=>by simp only[R]at h ⊢;rw[hm.hd,hk.1];exact h
 |.agg xs,z,_,hk,h=>by simp only[R,xC]at h hk ⊢;exact zEe hm xs z 0 hk h
 |.tup xs,z,_,hk,h=>by simp only[R,xC]at h hk ⊢;exact zEe hm xs z 0 hk h
 |.sl k xs,z,hz,hk,h=>by
  simp only[R,xC]at h hk ⊢
  rw[hm.hd];rcases h with h|⟨b,cap,cs,e,h1,h2,h3,h4,h5,h6,h7,h8⟩
  ·grind
  ·obtain⟨cs',cr,gw⟩:=hm.blk b cs e h2
   exact .inr ⟨b,cap,cs',e,h1,cr,h3,h4,by omega,hm.ow b z hz h6,fun o ho ho2=>(hm.lb b o i9 z hz ⟨_,h6⟩ (h7 o ho (by omega))).1,zJj hm xs z 0 b 0 k ⟨_,h6⟩ hk h8⟩
 |.ptr t,z,hz,hk,h=>by
  simp only[R,xC]at h hk ⊢
  rw[hm.hd];obtain⟨b,cs,e,h1,h2,h3,h6,h4,h5⟩:=h;obtain⟨cs',cr,gw⟩:=hm.blk b cs e h2;exact⟨b,cs',e,h1,cr,by omega,hm.ow b z hz h6,by grind[zEc],zEd hm t (0::z) (by simp) hk h5⟩
theorem zJj(hm:MovesE G w G' w' s p s' p'):(xs:List T)→ ∀(z:List Nat)(i b o k:Nat),(∃y,G.ow b=i7 (s,y))→xX (kX G G') xs→RL St G w s xs (z++p) i b o k→RL St G' w' s' xs (z++p') i b o k
 | [],_,_,_,_,_,_,_,_=>by simp only[RL]
 |x::xs,z,i,b,o,k,hH,hk,h=>by
  simp only[RL,xX]at h hk ⊢
  exact⟨by grind[zEc],zEd hm x (i::z) (by simp) hk.1 h.2.1,zJj hm xs z (i+1) b _ k hH hk.2 h.2.2⟩
theorem zEe(hm:MovesE G w G' w' s p s' p'):(xs:List T)→ ∀(z:List Nat)(j:Nat),xX (kX G G') xs→RF St G w s xs (z++p) j→RF St G' w' s' xs (z++p') j
 | [],_,_,_,_=>by simp only[RF]
 |x::xs,z,j,hk,h=>by
  simp only[RF,xX]at h hk ⊢
  exact⟨zEd hm x (j::z) (by simp) hk.1 h.1,zEe hm xs z (j+1) hk.2 h.2⟩
end
theorem zAe(hm:zIw G w G' w' s p s' p')(t:T)(hk:xC (kX G G') t)(h:R St G w s t p):R St G' w' s' t p':=by
 have hd0:G'.hd s' p'=G.hd s p:=by simpa using hm.hd []
 cases t with
 |any=>simp only[R]
 |lit _=>simp only[R]at h ⊢;grind
 |ro _=>simp only[R]at h ⊢;grind
 |same r q=>simp only[R]at h ⊢;rw[hd0,hk.1];exact h
 |addr r q=>simp only[R]at h ⊢;rw[hd0,hk.2];exact h
 |sub r q k lo hi=>simp only[R]at h ⊢;rw[hd0,hk.1];exact h
 |agg xs=>simp only[R,xC]at h hk ⊢;simpa using zEe hm.toMovesE xs [] 0 hk (by grind)
 |tup xs=>simp only[R,xC]at h hk ⊢;simpa using zEe hm.toMovesE xs [] 0 hk (by grind)
 |sl k xs=>
  simp only[R,xC]at h hk ⊢
  rw[hd0];rcases h with h|⟨b,cap,cs,e,h1,h2,h3,h4,h5,h6,h7,h8⟩
  ·grind
  ·obtain⟨cs',cr,gw⟩:=hm.blk b cs e h2
   exact .inr ⟨b,cap,cs',e,h1,cr,h3,h4,by omega,hm.ow0 b h6,fun o ho ho2=>(hm.sp b o ⟨_,h6⟩ (h7 o ho (by omega))).1,by simpa using zJj hm.toMovesE xs [] 0 b 0 k ⟨_,h6⟩ hk (by grind)⟩
 |ptr t=>
  simp only[R,xC]at h hk ⊢
  rw[hd0];obtain⟨b,cs,e,h1,h2,h3,h6,h4,h5⟩:=h;obtain⟨cs',cr,gw⟩:=hm.blk b cs e h2;exact⟨b,cs',e,h1,cr,by omega,hm.ow0 b h6,zEc hm.toMovesE t [0] b 0 (by simp) ⟨_,h6⟩ h4,zEd hm.toMovesE t [0] (by simp) hk h5⟩
theorem zQq(hm:zIw G w G' w' s p s' p')(t:T)(z:List Nat)(hk:xC (kX G G') t)(h:R St G w s t (z++p)):R St G' w' s' t (z++p'):=by
 cases z with
 |nil=>grind[zAe]
 |cons i z=>exact zEd hm.toMovesE t (i::z) (by simp) hk h
end
end Go.Ab

namespace Go.Ab
open Go
def T.get:T→List Nat→Option T
 |t,[]=>i7 t
 |.sl _ xs,i::f|.agg xs,i::f|.tup xs,i::f=>match xs[i]? with
  |some x=>x.get f
  |none=>i8
 |.ptr t,i::f=>if i=0 then t.get f else i8
 |.any,_::_|.lit _,_::_|.ro _,_::_|.same _ _,_::_|.addr _ _,_::_|.sub _ _ _ _ _,_::_=>i8
termination_by structural _ f=>f
def T.set:T→List Nat→T→T
 |_,[],u=>u
 |.sl k xs,i::f,u=>match xs[i]? with
  |some x=>.sl k (xs.set i (x.set f u))
  |none=>.sl k xs
 |.agg xs,i::f,u=>match xs[i]? with
  |some x=>.agg (xs.set i (x.set f u))
  |none=>.agg xs
 |.tup xs,i::f,u=>match xs[i]? with
  |some x=>.tup (xs.set i (x.set f u))
  |none=>.tup xs
 |.ptr t,i::f,u=>if i=0 then .ptr (t.set f u)else .ptr t
 |.any,_::_,_=>.any
 |.lit v,_::_,_=>.lit v
 |.ro t,_::_,_=>.ro t
 |.same r q,_::_,_=>.same r q
 |.addr r q,_::_,_=>.addr r q
 |.sub r q k lo hi,_::_,_=>.sub r q k lo hi
termination_by structural _ f _=>f
def T.locd:T→List Nat→Bool
 |_,[]=>ia
 |.sl _ _,_::_|.ptr _,_::_=>i9
 |.agg xs,i::f|.tup xs,i::f=>match xs[i]? with
  |some x=>x.locd f
  |none=>ia
 |.any,_::_|.lit _,_::_|.ro _,_::_|.same _ _,_::_|.addr _ _,_::_|.sub _ _ _ _ _,_::_=>ia
termination_by structural _ f=>f
abbrev rp(f p:List Nat):List Nat:=f.reverse++p
theorem zBz(i:Nat)(f p:List Nat):rp (i::f) p=rp f (i::p):=by simp[rp]
section
variable {St:Stb}{G:Gh}{w:World}{s:Nat}
theorem jN:(xs:List T)→ ∀(p:List Nat)(i0 b o k i:Nat)(x:T),RL St G w s xs p i0 b o k→xs[i]? =i7 x→
  Loc G w s x ((i0+i)::p) b (o+i*k)∧x.size=k∧R St G w s x ((i0+i)::p)
 | [],_,_,_,_,_,_,_,_,h=>by simp at h
 |y::ys,p,i0,b,o,k,i,x,hr,h=>by
  simp only[RL]at hr;cases i with
  |zero=>
   grind
  |succ i=>
   have:=jN ys p (i0+1) b (o+k) k i x hr.2.2 (by grind)
   grind
theorem zAM:(xs:List T)→ ∀(p:List Nat)(j i:Nat)(x:T),RF St G w s xs p j→xs[i]? =i7 x→R St G w s x ((j+i)::p)
 | [],_,_,_,_,_,h=>by simp at h
 |y::ys,p,j,i,x,hr,h=>by
  simp only[RF]at hr;cases i with
  |zero=>grind
  |succ i=>
   have:=zAM ys p (j+1) i x hr.2 (by grind)
   grind
theorem zKn:(xs:List T)→ ∀(p:List Nat)(j b o i:Nat)(x:T),vE G w s xs p j b o→xs[i]? =i7 x→
  ∃o',Loc G w s x ((j+i)::p) b o'∧o≤o'∧o'+x.size≤o+T.sizes xs
 | [],_,_,_,_,_,_,_,h=>by simp at h
 |y::ys,p,j,b,o,i,x,hr,h=>by
  simp only[vE]at hr;cases i with
  |zero=>grind[T.sizes]
  |succ i=>
   obtain⟨o',h1,h2,h3⟩:=zKn ys p (j+1) b (o+y.size) i x hr.2 (by grind)
   grind[T.sizes]
def At(G:Gh)(w:World)(s:Nat)(t:T)(p:List Nat):Prop:=
 ∃b o cs e,Loc G w s t p b o∧w.heap[b]? =i7 (.cells cs e (0,0))∧o+t.size≤cs.size
theorem At.field{xs:List T}{p:List Nat}(h:At G w s (.agg xs) p){i:Nat}{x:T}(hx:xs[i]? =i7 x):At G w s x (i::p):=by obtain⟨b,o,cs,e,hl,hh,hs⟩:=h;simp only[Loc]at hl;obtain⟨o',h1,h2,h3⟩:=zKn xs p 0 b o i x hl.2 hx;simp only[T.size]at hs;exact⟨b,o',cs,e,by grind,hh,by omega⟩
theorem zCK{k:Nat}{xs:List T}{p:List Nat}(h:R St G w s (.sl k xs) p){i:Nat}{x:T}(hx:xs[i]? =i7 x):
  At G w s x (i::p)∧R St G w s x (i::p):=by
 simp only[R]at h;have hi:=(Jn.1 hx).1;rcases h with⟨rfl,_⟩|⟨b,cap,cs,e,h1,h2,h3,h4,h5,h6,h7,h8⟩
 ·simp at hx
 ·obtain⟨a1,a2,a3⟩:=jN xs p 0 b 0 k i x h8 hx
  simp only[Jb]at a1 a3;refine⟨⟨b,i*k,cs,e,a1,h2,?_⟩,a3⟩;rw[a2,←K4];exact H8 (Kd _ (by omega)) h5
theorem zBa{t:T}{p:List Nat}(h:R St G w s (.ptr t) p):At G w s t (0::p)∧R St G w s t (0::p):=by simp only[R]at h;obtain⟨b,cs,e,h1,h2,h3,h6,h4,h5⟩:=h;exact⟨⟨b,0,cs,e,h4,h2,by omega⟩,h5⟩
theorem zAt:(f:List Nat)→ ∀(t u:T)(p:List Nat),At G w s t p→R St G w s t p→t.get f=i7 u→At G w s u (rp f p)∧R St G w s u (rp f p)
 | [],t,u,p,ha,h,hg=>by simp[T.get]at hg;grind
 |i::f,t,u,p,ha,h,hg=>by
  rw[zBz];cases t with
  |sl k xs=>
   simp only[T.get]at hg;cases hx:xs[i]? with
   |none=>grind
   |some x=>rw[hx]at hg;exact zAt f x u _ (zCK h hx).1 (zCK h hx).2 hg
  |ptr t=>
   simp only[T.get]at hg;split at hg
   ·rename_i hi;subst hi;exact zAt f t u _ (zBa h).1 (zBa h).2 hg
   ·cases hg
  |agg xs=>
   simp only[T.get]at hg;cases hx:xs[i]? with
   |none=>grind
   |some x=>rw[hx]at hg;exact zAt f x u _ (ha.field hx) (by simp only[R]at h;simpa using zAM xs p 0 i x h hx) hg
  |tup xs=>obtain⟨b,o,cs,e,hl,_⟩:=ha;simp only[Loc]at hl
  |_=>grind[T.get]
theorem zA9:(f:List Nat)→ ∀(t u:T)(p:List Nat),R St G w s t p→t.get f=i7 u→R St G w s u (rp f p)∧(t.locd f=i9→At G w s u (rp f p))
 | [],t,u,p,h,hg=>by simp[T.get]at hg;subst hg;simpa[rp,T.locd]using h
 |i::f,t,u,p,h,hg=>by
  rw[zBz];cases t with
  |sl k xs=>
   simp only[T.get]at hg;cases hx:xs[i]? with
   |none=>grind
   |some x=>rw[hx]at hg;exact⟨(zAt f x u _ (zCK h hx).1 (zCK h hx).2 hg).2,fun _=>(zAt f x u _ (zCK h hx).1 (zCK h hx).2 hg).1⟩
  |ptr t=>
   simp only[T.get]at hg;split at hg
   ·rename_i hi;subst hi;exact⟨(zAt f t u _ (zBa h).1 (zBa h).2 hg).2,fun _=>(zAt f t u _ (zBa h).1 (zBa h).2 hg).1⟩
   ·cases hg
  |agg xs=>
   simp only[T.get,T.locd]at hg ⊢
   cases hx:xs[i]? with
   |none=>grind
   |some x=>rw[hx]at hg;exact zA9 f x u _ (by simp only[R]at h;simpa using zAM xs p 0 i x h hx) hg
  |tup xs=>
   simp only[T.get,T.locd]at hg ⊢
   cases hx:xs[i]? with
   |none=>grind
   |some x=>rw[hx]at hg;exact zA9 f x u _ (by simp only[R]at h;simpa using zAM xs p 0 i x h hx) hg
  |_=>grind[T.get]
end
structure Upd (G:Gh) (w:World) (G':Gh) (w':World) (s:Nat) (tgt:List Nat):Prop where
 hd:∀p,¬tgt<:+p→G'.hd s p=G.hd s p
 ad:∀p,¬tgt<:+p→G'.ad s p=G.ad s p
 lb:∀b o f p,G.lb b o=i7 (f,s,p)→ ¬tgt<:+p→G'.lb b o=i7 (f,s,p)∧yO w' b o=yO w b o
 ow:∀b p,G.ow b=i7 (s,p)→ ¬tgt<:+p→G'.ow b=i7 (s,p)
 blk:Blk w w'
section
variable {St:Stb}{G:Gh}{w:World}{G':Gh}{w':World}{s:Nat}{tgt:List Nat}
theorem Upd.moves(h:Upd G w G' w' s tgt){p:List Nat}(hp:∀z,¬tgt<:+z++p):zIw G w G' w' s p s p where
 hd z:=h.hd _ (hp z)
 ad z _:=h.ad _ (hp z)
 lb b o f z _ _ hl:=h.lb b o f _ hl (hp z)
 ow b z _ hl:=h.ow b _ hl (hp z)
 sp b o _ hl:=h.lb b o i9 p hl (hp [])
 ow0 b hl:=h.ow b p hl (hp [])
 blk:=h.blk
mutual
theorem zEf(hm:Upd G w G' w' s tgt):(t:T)→ ∀(p:List Nat)(b o:Nat),(∀z,¬tgt<:+z++p)→Loc G w s t p b o→Loc G' w' s t p b o
 |.agg xs,p,b,o,hz,h=>by
  simp only[Loc]at h ⊢
  exact⟨(hm.ad p (hz [])).trans h.1,zKo hm xs p 0 b o hz h.2⟩
 |.any,p,b,o,hz,h|.lit _,p,b,o,hz,h|.ro _,p,b,o,hz,h|.same _ _,p,b,o,hz,h|.addr _ _,p,b,o,hz,h|.sub _ _ _ _ _,p,b,o,hz,h|.sl _ _,p,b,o,hz,h|.ptr _,p,b,o,hz,h=>by
  simp only[Loc]at h ⊢
  obtain⟨h1,h2,h3⟩:=h;have hl:=hm.lb b o ia p h2 (hz []);exact⟨(hm.ad p (hz [])).trans h1,hl.1,by rw[hl.2,h3,hm.hd p (hz [])]⟩
 |.tup _,_,_,_,_,h=>by simp only[Loc]at h
theorem zKo(hm:Upd G w G' w' s tgt):(xs:List T)→ ∀(p:List Nat)(j b o:Nat),(∀z,¬tgt<:+z++p)→vE G w s xs p j b o→vE G' w' s xs p j b o
 | [],_,_,_,_,_,_=>by simp only[vE]
 |x::xs,p,j,b,o,hz,h=>by
  simp only[vE]at h ⊢
  exact⟨zEf hm x (j::p) b o (fun z=>by have:=hz (z++[j]);grind) h.1,zKo hm xs p (j+1) b _ hz h.2⟩
end
theorem zKp(hm:Upd G w G' w' s tgt)(t u:T)(p:List Nat)(b o:Nat)(ht:∀xs,t≠.agg xs)(hu:∀xs,u≠.agg xs)(t8:∀xs,u≠.tup xs)(hz:¬tgt<:+p)(h:Loc G w s t p b o):Loc G' w' s u p b o:=by
 have h3:G.ad s p=⟨b,o,i8⟩∧G.lb b o=i7 (ia,s,p)∧yO w b o=i7 (G.hd s p):=by
  cases t with
  |agg xs=>grind
  |tup xs=>simp only[Loc]at h
  |_=>simpa only[Loc]using h
 obtain⟨h1,h2,h3⟩:=h3;have hl:=hm.lb b o ia p h2 hz;have h4:G'.ad s p=⟨b,o,i8⟩∧G'.lb b o=i7 (ia,s,p)∧yO w' b o=i7 (G'.hd s p):=⟨(hm.ad p hz).trans h1,hl.1,by rw[hl.2,h3,hm.hd p hz]⟩;cases u with
 |agg xs=>grind
 |tup xs=>grind
 |_=>simpa only[Loc]using h4
theorem jO{f p:List Nat}{i i':Nat}(hi:i'≠i)(z:List Nat):¬f.reverse++(i::p)<:+z++(i'::p):=by
 rintro⟨y,hy⟩
 rw[←Jc]at hy;have:=List.append_inj_right' hy rfl
 grind
theorem kA{f p:List Nat}{i:Nat}:¬f.reverse++(i::p)<:+p:=by
 intro h;have:=h.length_le
 grind
theorem zIy:(xs:List T)→ ∀(i:Nat)(x y:T),xs[i]? =i7 x→y.size=x.size→T.sizes (xs.set i y)=T.sizes xs
 | [],_,_,_,h,_=>by simp at h
 |z::zs,i,x,y,h,hs=>by
  cases i with
  |zero=>grind[T.sizes]
  |succ i=>simp only[L9,T.sizes,zIy zs i x y (by grind) hs]
theorem zEg:(f:List Nat)→ ∀(t u u0:T),t.get f=i7 u0→u.size=u0.size→(t.set f u).size=t.size
 | [],t,u,u0,h,hs=>by grind[T.get,T.set]
 |i::f,t,u,u0,h,hs=>by
  cases t with
  |sl k xs=>grind[T.set,T.size]
  |tup xs=>grind[T.set,T.size]
  |agg xs=>
   simp only[T.get]at h;cases hx:xs[i]? with
   |none=>grind
   |some x=>
    rw[hx]at h;simp only[T.set,hx,T.size];exact zIy xs i x _ hx (zEg f x u u0 h hs)
  |ptr t=>grind[T.set,T.size]
  |_=>rfl
theorem zKq(hm:Upd G w G' w' s tgt):(xs:List T)→ ∀(p:List Nat)(j b o i:Nat)(x y:T),vE G w s xs p j b o→xs[i]? =i7 x→y.size=x.size→
  (∀i',i'≠j+i→ ∀z,¬tgt<:+z++(i'::p))→(∀o',Loc G w s x ((j+i)::p) b o'→Loc G' w' s y ((j+i)::p) b o')→vE G' w' s (xs.set i y) p j b o
 | [],_,_,_,_,_,_,_,_,h,_,_,_=>by simp at h
 |z::zs,p,j,b,o,i,x,y,hl,h,hs,hz,hy=>by
  simp only[vE]at hl;cases i with
  |zero=>
   simp at h;subst h;simp only[H2,vE,hs];exact⟨by grind,LocF_upd' hm zs p (j+1) b _ (by grind) hl.2⟩
  |succ i=>
   simp only[L9,vE];refine⟨by grind[zEf],zKq hm zs p (j+1) b _ i x y hl.2 (by grind) hs (by grind) ?_⟩
   grind
where LocF_upd' (hm:Upd G w G' w' s tgt):(xs:List T)→ ∀(p:List Nat)(j b o:Nat),(∀i',j≤i'→ ∀z,¬tgt<:+z++(i'::p))→vE G w s xs p j b o→vE G' w' s xs p j b o
 | [],_,_,_,_,_,_=>by simp only[vE]
 |x::xs,p,j,b,o,hz,h=>by
  simp only[vE]at h ⊢
  exact⟨zEf hm x (j::p) b o (by grind) h.1,LocF_upd' hm xs p (j+1) b _ (by grind) h.2⟩
theorem zJk:(f:List Nat)→ ∀(t u u0:T)(p:List Nat)(b o:Nat),Upd G w G' w' s (rp f p)→Loc G w s t p b o→t.get f=i7 u0→u.size=u0.size→
  (∀o',Loc G w s u0 (rp f p) b o'→Loc G' w' s u (rp f p) b o')→Loc G' w' s (t.set f u) p b o
 | [],t,u,u0,p,b,o,hm,hl,hg,hs,hu=>by simp[T.get]at hg;subst hg;simpa[T.set,rp]using hu o (by grind)
 |i::f,t,u,u0,p,b,o,hm,hl,hg,hs,hu=>by
  have gC:=hm;rw[zBz]at gC;cases t with
  |sl k xs=>
   have:∃ys,(T.sl k xs).set (i::f) u=.sl k ys:=by simp only[T.set];grind
   obtain⟨ys,hy⟩:=this;rw[hy];exact zKp gC (.sl k xs) (.sl k ys) p b o (by simp) (by simp) (by simp) kA hl
  |ptr t=>
   have:∃ys,(T.ptr t).set (i::f) u=.ptr ys:=by simp only[T.set];grind
   obtain⟨ys,hy⟩:=this;rw[hy];exact zKp gC (.ptr t) (.ptr ys) p b o (by simp) (by simp) (by simp) kA hl
  |agg xs=>
   simp only[T.get]at hg;cases hx:xs[i]? with
   |none=>grind
   |some x=>
    rw[hx]at hg;simp only[T.set,hx];simp only[Loc]at hl ⊢
    refine⟨(gC.ad p kA).trans hl.1,zKq gC xs p 0 b o i x _ hl.2 hx (zEg f x u u0 hg hs) (by grind[jO]) ?_⟩;intro o' ho';simp only[Jb]at ho' ⊢
    exact zJk f x u u0 (i::p) b o' gC ho' hg hs (by grind)
  |tup xs=>simp only[Loc]at hl
  |_=>grind[T.get]
end
end Go.Ab

namespace Go.Ab
open Go
section
variable {St:Stb}{G:Gh}{w:World}{G':Gh}{w':World}{s:Nat}{tgt:List Nat}
theorem zNA(hm:Upd G w G' w' s tgt)(t:T)(p:List Nat)(hz:∀z,¬tgt<:+z++p)(hk:xC (kX G G') t)(h:R St G w s t p):R St G' w' s t p:=by simpa using zQq (hm.moves hz) t [] hk (by simpa using h)
theorem zQr(hm:Upd G w G' w' s tgt):(xs:List T)→ ∀(p:List Nat)(i b o k:Nat),(∀i',i≤i'→ ∀z,¬tgt<:+z++(i'::p))→xX (kX G G') xs→RL St G w s xs p i b o k→RL St G' w' s xs p i b o k
 | [],_,_,_,_,_,_,_,_=>by simp only[RL]
 |x::xs,p,i,b,o,k,hz,hk,h=>by
  simp only[RL,xX]at h hk ⊢
  exact⟨⟨zEf hm x (i::p) b o (hz i (Ji _)) h.1.1,h.1.2⟩,zNA hm x (i::p) (hz i (Ji _)) hk.1 h.2.1,
   zQr hm xs p (i+1) b _ k (fun i' fq=>hz i' (by omega)) hk.2 h.2.2⟩
theorem zQs(hm:Upd G w G' w' s tgt):(xs:List T)→ ∀(p:List Nat)(i0 b o k i:Nat)(x y:T),RL St G w s xs p i0 b o k→xs[i]? =i7 x→y.size=x.size→xX (kX G G') xs→
  (∀i',i'≠i0+i→ ∀z,¬tgt<:+z++(i'::p))→(∀o',Loc G w s x ((i0+i)::p) b o'→Loc G' w' s y ((i0+i)::p) b o')→R St G' w' s y ((i0+i)::p)→
  RL St G' w' s (xs.set i y) p i0 b o k
 | [],_,_,_,_,_,_,_,_,_,h,_,_,_,_,_=>by simp at h
 |z::zs,p,i0,b,o,k,i,x,y,hr,h,hs,hk,hz,hl,hy=>by
  simp only[RL,xX]at hr hk;cases i with
  |zero=>
   simp at h;subst h;simp only[H2,RL];exact⟨⟨by simpa using hl o (by simpa using hr.1.1),by omega⟩,by simpa using hy,zQr hm zs p (i0+1) b _ k (fun i' fq=>hz i' (by omega)) hk.2 hr.2.2⟩
  |succ i=>
   simp only[L9,RL];rw[show i0+(i+1)=i0+1+i from by omega]at hl hy hz;exact⟨⟨zEf hm z _ b o (hz i0 (by omega)) hr.1.1,hr.1.2⟩,zNA hm z _ (hz i0 (by omega)) hk.1 hr.2.1,zQs hm zs p (i0+1) b _ k i x y hr.2.2 (by simpa using h) hs hk.2 hz hl hy⟩
theorem zQt(hm:Upd G w G' w' s tgt):(xs:List T)→ ∀(p:List Nat)(i:Nat),(∀i',i≤i'→ ∀z,¬tgt<:+z++(i'::p))→xX (kX G G') xs→RF St G w s xs p i→RF St G' w' s xs p i
 | [],_,_,_,_,_=>by simp only[RF]
 |x::xs,p,i,hz,hk,h=>by
  simp only[RF,xX]at h hk ⊢
  exact⟨zNA hm x (i::p) (hz i (Ji _)) hk.1 h.1,zQt hm xs p (i+1) (fun i' fq=>hz i' (by omega)) hk.2 h.2⟩
theorem zM0(hm:Upd G w G' w' s tgt):(xs:List T)→ ∀(p:List Nat)(i0 i:Nat)(x y:T),RF St G w s xs p i0→xs[i]? =i7 x→xX (kX G G') xs→
  (∀i',i'≠i0+i→ ∀z,¬tgt<:+z++(i'::p))→R St G' w' s y ((i0+i)::p)→
  RF St G' w' s (xs.set i y) p i0
 | [],_,_,_,_,_,_,h,_,_,_=>by simp at h
 |z::zs,p,i0,i,x,y,hr,h,hk,hz,hy=>by
  simp only[RF,xX]at hr hk;cases i with
  |zero=>
   simp at h;subst h;simp only[H2,RF];exact⟨by simpa using hy,zQt hm zs p (i0+1) (fun i' fq=>hz i' (by omega)) hk.2 hr.2⟩
  |succ i=>
   simp only[L9,RF];rw[show i0+(i+1)=i0+1+i from by omega]at hy hz;exact⟨zNA hm z _ (hz i0 (by omega)) hk.1 hr.1,zM0 hm zs p (i0+1) i x y hr.2 (by simpa using h) hk.2 hz hy⟩
theorem uL{φ:Nat→List Nat→Prop}:(xs:List T)→xX φ xs→ ∀(i:Nat)(x:T),xs[i]? =i7 x→xC φ x
 | [],_,_,_,h=>by simp at h
 |y::ys,hk,i,x,h=>by
  simp only[xX]at hk;cases i with
  |zero=>simp at h;subst h;exact hk.1
  |succ i=>exact uL ys hk.2 i x (by simpa using h)
theorem zFD:(f:List Nat)→ ∀(t u u0:T)(p:List Nat),Upd G w G' w' s (rp f p)→R St G w s t p→t.get f=i7 u0→u.size=u0.size→xC (kX G G') t→
  (∀b o,Loc G w s u0 (rp f p) b o→Loc G' w' s u (rp f p) b o)→R St G' w' s u (rp f p)→R St G' w' s (t.set f u) p
 | [],t,u,u0,p,hm,hr,hg,hs,hk,hl,hu=>by simpa[T.set,rp]using hu
 |i::f,t,u,u0,p,hm,hr,hg,hs,hk,hl,hu=>by
  have gC:=hm;rw[zBz]at gC hl hu;cases t with
  |sl k xs=>
   simp only[T.get]at hg;cases hx:xs[i]? with
   |none=>simp[hx]at hg
   |some x=>
    rw[hx]at hg;simp only[T.set,hx];simp only[R,xC]at hr hk ⊢
    rcases hr with⟨rfl,_⟩|⟨b,cap,cs,e,h1,h2,h3,h4,h5,h6,h7,h8⟩
    ·simp at hx
    ·obtain⟨cs',cr,gw⟩:=gC.blk b cs e h2
     refine .inr ⟨b,cap,cs',e,by rw[gC.hd p kA,Qa];exact h1,cr,by rw[Qa];exact h3,h4,by omega,gC.ow b p h6 kA,?_,?_⟩
     ·intro o ho ho2
      rw[Qa]at ho;exact(gC.lb b o i9 p (h7 o ho (by omega)) kA).1
     ·have bR:=jN xs p 0 b 0 k i x h8 hx
      simp only[Jb]at bR;refine zQs gC xs p 0 b 0 k i x _ h8 hx (zEg f x u u0 hg hs) hk (fun i' fq z=>jO (by omega) z) ?_ ?_
      ·intro o' ho'
       simp only[Jb]at ho' ⊢
       exact zJk f x u u0 (i::p) b o' gC ho' hg hs (fun o''=>hl b o'')
      ·simp only[Jb]
       exact zFD f x u u0 (i::p) gC bR.2.2 hg hs (uL xs hk i x hx) hl hu
  |ptr t=>
   simp only[T.get]at hg;split at hg
   ·rename_i hi;subst hi
    simp only[T.set,if_true];simp only[R,xC]at hr hk ⊢
    obtain⟨b,cs,e,h1,h2,h3,h6,h4,h5⟩:=hr;obtain⟨cs',cr,gw⟩:=gC.blk b cs e h2;refine⟨b,cs',e,by rw[gC.hd p kA];exact h1,cr,by rw[zEg f t u u0 hg hs];omega,gC.ow b p h6 kA,zJk f t u u0 (0::p) b 0 gC h4 hg hs (fun o''=>hl b o''),zFD f t u u0 (0::p) gC h5 hg hs hk hl hu⟩
   ·cases hg
  |agg xs=>
   simp only[T.get]at hg;cases hx:xs[i]? with
   |none=>simp[hx]at hg
   |some x=>
    rw[hx]at hg;simp only[T.set,hx];simp only[R,xC]at hr hk ⊢
    refine zM0 gC xs p 0 i x _ hr hx hk (fun i' fq z=>jO (by omega) z) ?_;simp only[Jb];exact zFD f x u u0 (i::p) gC (by simpa using zAM xs p 0 i x hr hx) hg hs (uL xs hk i x hx) hl hu
  |tup xs=>
   simp only[T.get]at hg;cases hx:xs[i]? with
   |none=>simp[hx]at hg
   |some x=>
    rw[hx]at hg;simp only[T.set,hx];simp only[R,xC]at hr hk ⊢
    refine zM0 gC xs p 0 i x _ hr hx hk (fun i' fq z=>jO (by omega) z) ?_;simp only[Jb];exact zFD f x u u0 (i::p) gC (by simpa using zAM xs p 0 i x hr hx) hg hs (uL xs hk i x hx) hl hu
  |_=>simp[T.get]at hg
end
end Go.Ab

namespace Go.Ab
open Go
mutual
def vals(G:Gh)(s:Nat):T→List Nat→List Value
 |.agg xs,p=>yI G s xs p 0
 |.any,p|.lit _,p|.ro _,p|.same _ _,p|.addr _ _,p|.sub _ _ _ _ _,p|.sl _ _,p|.ptr _,p|.tup _,p=>[G.hd s p]
def yI(G:Gh)(s:Nat):List T→List Nat→Nat→List Value
 | [],_,_=>[]
 |x::xs,p,j=>vals G s x (j::p)++yI G s xs p (j+1)
end
def sJ(G:Gh)(s:Nat)(t:T)(p:List Nat):Value:=
 match t with
 |.agg xs=>.agg (yI G s xs p 0).toArray
 |_=>G.hd s p
def jH(G:Gh)(s:Nat):List T→List Nat→Nat→List Value
 | [],_,_=>[]
 |x::xs,p,j=>sJ G s x (j::p)::jH G s xs p (j+1)
def mkV(G:Gh)(s:Nat)(t:T)(p:List Nat):Value:=
 match t with
 |.agg xs=>.agg (yI G s xs p 0).toArray
 |.tup xs=>.tuple (jH G s xs p 0).toArray
 |_=>G.hd s p
mutual
def Top:T→Prop
 |.sl _ xs=>xQ xs
 |.ptr t=>yD t
 |.agg xs|.tup xs=>vM xs
 |.any|.lit _|.ro _|.same _ _|.addr _ _|.sub _ _ _ _ _=>True
def vM:List T→Prop
 | []=>True
 |x::xs=>Top x∧vM xs
end
mutual
theorem Top.of_clean:(t:T)→yD t→Top t
 |.sl _ xs,h=>by simpa only[Top,yD,xC]using h
 |.ptr t,h=>by simpa only[Top,yD,xC]using h
 |.agg xs,h|.tup xs,h=>by simp only[Top];exact vM.of_clean xs (by simpa only[yD,xC]using h)
 |.any,_|.lit _,_|.ro _,_|.same _ _,_|.addr _ _,_|.sub _ _ _ _ _,_=>by simp only[Top]
theorem vM.of_clean:(xs:List T)→xQ xs→vM xs
 | [],_=>by simp only[vM]
 |x::xs,h=>by simp only[vM];exact⟨Top.of_clean x h.1,vM.of_clean xs h.2⟩
end
abbrev Chg:=List (Nat×Nat)
def Off(chg:Chg)(s:Nat)(p:List Nat):Prop:=∀n,(s,n)∈chg→p.length<n
def kY(chg:Chg)(r:Nat)(p:List Nat):Bool:=chg.all fun c=>c.1 != r||decide (p.length<c.2)
theorem zPc{chg:Chg}{r:Nat}{p:List Nat}(h:kY chg r p=i9):Off chg r p:=by
 intro n hn;have:=Kf.1 h _ hn
 grind
mutual
def T.okB(chg:Chg):T→Bool
 |.same r p|.addr r p|.sub r p _ _ _=>kY chg r p
 |.agg xs|.tup xs=>zKr chg xs
 |.any|.lit _|.ro _|.sl _ _|.ptr _=>i9
def zKr(chg:Chg):List T→Bool
 | []=>i9
 |x::xs=>x.okB chg&&zKr chg xs
end
mutual
theorem zAf{chg:Chg}:(t:T)→Top t→t.okB chg=i9→xC (Off chg) t
 |.same r p,_,h|.addr r p,_,h|.sub r p _ _ _,_,h=>by simp only[T.okB]at h;simp only[xC];exact zPc h
 |.agg xs,ht,h|.tup xs,ht,h=>by simp only[T.okB,Top]at h ht;simp only[xC];exact zG2 xs ht h
 |.sl _ xs,ht,_=>by simp only[Top]at ht;simp only[xC];grind[xX.mono]
 |.ptr t,ht,_=>by simp only[Top]at ht;simp only[xC];grind[xC.mono]
 |.any,_,_|.lit _,_,_|.ro _,_,_=>by simp only[xC]
theorem zG2{chg:Chg}:(xs:List T)→vM xs→zKr chg xs=i9→xX (Off chg) xs
 | [],_,_=>by simp only[xX]
 |x::xs,ht,h=>by simp only[zKr,vM,J3]at h ht;simp only[xX];exact⟨zAf x ht.1 h.1,zG2 xs ht.2 h.2⟩
end
abbrev Env:=Nat→Option T
abbrev Wr:=List (Nat×Option T)
def Wr.find(wr:Wr)(s:Nat):Option (Option T):=
 match wr with
 | []=>i8
 |(k,x)::r=>if k=s then i7 x else Wr.find r s
def Env.app(E:Env)(wr:Wr)(chg:Chg):Env:=fun s=>
 match wr.find s with
 |some x=>x
 |none=>match E s with
  |some t=>if t.okB chg then i7 t else i8
  |none=>i8
structure Ctx where
 St:Stb
 W:Nat→Prop
 w0:World
 N:Nat
def zCb(Γ:Ctx)(w:World)(b:Nat):Prop:=b<w.heap.size∧(Γ.w0.heap.size≤b∨Γ.W b)∧Γ.St b=i8
structure zTC (w w':World):Prop where
 blk:Blk w w'
 os:w'.os=w.os
 out:w'.output=w.output
structure Mem (Γ:Ctx) (G:Gh) (w:World):Prop where
 one:∀s p,(G.hd s p).oneCell'=i9
 lb:∀b o l,G.lb b o=i7 l→zCb Γ w b
 ow:∀b l,G.ow b=i7 l→zCb Γ w b
 st:∀b x,Γ.St b=i7 x→w.heap[b]? =i7 x
 fr:∀b,b<Γ.w0.heap.size→ ¬Γ.W b→w.heap[b]? =Γ.w0.heap[b]?
 sz:Γ.w0.heap.size≤w.heap.size
 bk:zTC Γ.w0 w
theorem Blk.trans{w w' w'':World}(h:Blk w w')(h':Blk w' w''):Blk w w'':=fun b cs e hb=>by
 obtain⟨cs',h1,h2⟩:=h b cs e hb;obtain⟨cs'',h3,h4⟩:=h' b cs' e h1
 grind
theorem zTC.trans{w w' w'':World}(h:zTC w w')(h':Blk w' w'')(ho:w''.os=w'.os)(hq:w''.output=w'.output):zTC w w'':=⟨h.blk.trans h',ho.trans h.os,hq.trans h.out⟩
def Ent(Γ:Ctx)(G:Gh)(w:World)(v:Option Value)(s:Nat)(t:T):Prop:=v=i7 (mkV G s t [])∧R Γ.St G w s t []∧Top t
structure Rep (Γ:Ctx) (E:Env) (G:Gh) (tmps:Array Value) (w:World):Prop where
 size:tmps.size=Γ.N
 ent:∀s t,E s=i7 t→Ent Γ G w tmps[s]? s t
 mem:Mem Γ G w
def Sim(Γ:Ctx)(E:Env)(a:Act)(w:World):Prop:=a.defers=[]∧ ∃G,Rep Γ E G a.tmps w
structure zDi (S S':Stb) (W:Nat→Prop) (n:Nat):Prop where
 le:∀b x,S b=i7 x→S' b=i7 x
 nw:∀b,S b=i8→S' b≠i8→n≤b∨W b
theorem zDi.refl{S:Stb}{W:Nat→Prop}{n:Nat}:zDi S S W n:=⟨fun _ _ h=>h,by grind⟩
theorem zDi.trans{S S' S'':Stb}{W:Nat→Prop}{n:Nat}(h:zDi S S' W n)(h':zDi S' S'' W n):zDi S S'' W n:=
 ⟨fun b x hb=>h'.le b x (h.le b x hb),fun b hb eP=>by
  cases hs:S' b with
  |none=>exact h'.nw b hs eP
  |some x=>exact h.nw b hb (by grind)⟩
abbrev Ctx.at(Γ:Ctx)(S:Stb):Ctx:={ Γ with St:=S }
def qY(Γ:Ctx)(E:Env)(a:Act)(w:World):Prop:=∃S,zDi Γ.St S Γ.W Γ.w0.heap.size∧Sim (Γ.at S) E a w
theorem qY.of{Γ:Ctx}{E:Env}{a:Act}{w:World}(h:Sim Γ E a w):qY Γ E a w:=⟨Γ.St,.refl,h⟩
theorem qY.up{Γ:Ctx}{E:Env}{a:Act}{w:World}{S:Stb}(hS:zDi Γ.St S Γ.W Γ.w0.heap.size)(h:qY (Γ.at S) E a w):qY Γ E a w:=by obtain⟨S',h1,h2⟩:=h;exact⟨S',hS.trans h1,h2⟩
structure qR (chg:Chg) (G:Gh) (w:World) (G':Gh) (w':World):Prop where
 hd:∀s p,Off chg s p→G'.hd s p=G.hd s p
 ad:∀s p,Off chg s p→G'.ad s p=G.ad s p
 lb:∀b o f s p,(∃y,G.ow b=i7 (s,y))→G.lb b o=i7 (f,s,p)→(∀n,(s,n)∉chg)→G'.lb b o=i7 (f,s,p)∧yO w' b o=yO w b o
 ow:∀b s p,G.ow b=i7 (s,p)→(∀n,(s,n)∉chg)→G'.ow b=i7 (s,p)
 blk:Blk w w'
theorem Off.of_not{chg:Chg}{s:Nat}(h:∀n,(s,n)∉chg)(p:List Nat):Off chg s p:=fun n hn=>absurd hn (h n)
section
variable {Γ:Ctx}{G G':Gh}{w w':World}{s:Nat}{chg:Chg}
mutual
theorem zAA{s':Nat}:(t:T)→ ∀(p p':List Nat),(∀z,G'.hd s' (z++p')=G.hd s (z++p))→vals G' s' t p'=vals G s t p
 |.agg xs,p,p',h=>by simp only[vals];exact zEh xs p p' 0 h
 |.any,p,p',h|.lit _,p,p',h|.ro _,p,p',h|.same _ _,p,p',h|.addr _ _,p,p',h|.sub _ _ _ _ _,p,p',h|.sl _ _,p,p',h|.ptr _,p,p',h|.tup _,p,p',h=>by simp only[vals];rw[show G'.hd s' p'=G.hd s p from by simpa using h []]
theorem zEh{s':Nat}:(xs:List T)→ ∀(p p':List Nat)(j:Nat),(∀z,G'.hd s' (z++p')=G.hd s (z++p))→yI G' s' xs p' j=yI G s xs p j
 | [],_,_,_,_=>by rfl
 |x::xs,p,p',j,h=>by simp only[yI];rw[zAA x (j::p) (j::p') (fun z=>by have:=h (z++[j]);grind),zEh xs p p' (j+1) h]
end
theorem zB0{s':Nat}(t:T)(p p':List Nat)(h:∀z,G'.hd s' (z++p')=G.hd s (z++p)):sJ G' s' t p'=sJ G s t p:=by
 unfold sJ;split
 ·grind[zEh]
 ·simpa using h []
theorem zNB{s':Nat}:(xs:List T)→ ∀(p p':List Nat)(j:Nat),(∀z,G'.hd s' (z++p')=G.hd s (z++p))→jH G' s' xs p' j=jH G s xs p j
 | [],_,_,_,_=>by rfl
 |x::xs,p,p',j,h=>by simp only[jH];rw[zB0 x (j::p) (j::p') (fun z=>by have:=h (z++[j]);simpa using this),zNB xs p p' (j+1) h]
theorem zEV{s':Nat}(t:T)(p p':List Nat)(h:∀z,G'.hd s' (z++p')=G.hd s (z++p)):mkV G' s' t p'=mkV G s t p:=by
 unfold mkV;split
 ·grind[zEh]
 ·grind[zNB]
 ·simpa using h []
theorem qR.moves(hk:qR chg G w G' w')(hs:∀n,(s,n)∉chg)(p:List Nat):zIw G w G' w' s p s p where
 hd _:=hk.hd _ _ (.of_not hs _)
 ad _ _:=hk.ad _ _ (.of_not hs _)
 lb b o f _ _ hH hl:=hk.lb b o f s _ hH hl hs
 ow b _ _ hl:=hk.ow b s _ hl hs
 sp b o hH hl:=hk.lb b o i9 s _ hH hl hs
 ow0 b hl:=hk.ow b s _ hl hs
 blk:=hk.blk
theorem qR.keepR(hk:qR chg G w G' w'){t:T}(h:xC (Off chg) t):xC (kX G G') t:=
 xC.mono (fun r p hr=>⟨hk.hd r p hr,hk.ad r p hr⟩) t h
theorem Ent.keep(hk:qR chg G w G' w')(hs:∀n,(s,n)∉chg){v:Option Value}{t:T}(ht:t.okB chg=i9)(h:Ent Γ G w v s t):Ent Γ G' w' v s t:=by
 obtain⟨h1,h2,h3⟩:=h;refine⟨?_,?_,h3⟩
 ·rw[h1,zEV t [] [] (fun z=>hk.hd _ _ (.of_not hs _))]
 ·simpa using zQq (hk.moves hs []) t [] (hk.keepR (zAf t h3 ht)) (by grind)
end
theorem vF{Γ:Ctx}{E:Env}{G G':Gh}{tmps tmps':Array Value}{w w':World}{wr:Wr}{chg:Chg}(h:Rep Γ E G tmps w)
  (gN:tmps'.size=tmps.size)(hk:qR chg G w G' w')(gp:Mem Γ G' w')
  (gH:∀s,wr.find s=i8→(∀n,(s,n)∉chg)∧tmps'[s]? =tmps[s]?)
  (eI:∀s t,wr.find s=i7 (i7 t)→Ent Γ G' w' tmps'[s]? s t):Rep Γ (E.app wr chg) G' tmps' w' where
 size:=by rw[gN,h.size]
 mem:=gp
 ent s t hs:=by
  unfold Env.app at hs;cases hf:wr.find s with
  |some x=>
   grind
  |none=>
   rw[hf]at hs;simp at hs;cases he:E s with
   |none=>grind
   |some u=>
    simp[he]at hs;obtain⟨gB,rfl⟩:=hs;rw[(gH s hf).2];exact Ent.keep hk (gH s hf).1 gB (h.ent s u he)
end Go.Ab

namespace Go.Ab
open Go
mutual
def cpT(s:Nat):T→List Nat→T
 |.lit v,_=>.lit v
 |.ro t,_=>.ro t
 |.same r q,_=>.same r q
 |.addr r q,_=>.addr r q
 |.sub r q k lo hi,_=>.sub r q k lo hi
 |.agg xs,p=>.agg (cpF s xs p 0)
 |.any,p|.sl _ _,p|.ptr _,p|.tup _,p=>.same s p
def cpF(s:Nat):List T→List Nat→Nat→List T
 | [],_,_=>[]
 |x::xs,p,j=>cpT s x (j::p)::cpF s xs p (j+1)
end
mutual
theorem qN(s:Nat):(t:T)→ ∀p,Top (cpT s t p)
 |.agg xs,p=>by simp only[cpT,Top];exact zNC s xs p 0
 |.lit _,_|.ro _,_|.same _ _,_|.addr _ _,_|.sub _ _ _ _ _,_|.any,_|.sl _ _,_|.ptr _,_|.tup _,_=>by simp only[cpT,Top]
theorem zNC(s:Nat):(xs:List T)→ ∀p j,vM (cpF s xs p j)
 | [],_,_=>by simp only[cpF,vM]
 |x::xs,p,j=>by simp only[cpF,vM];exact⟨qN s x _,zNC s xs p _⟩
end
section
variable {St:Stb}{G G':Gh}{w w':World}{s d:Nat}
mutual
theorem zD7(hs:∀p,G'.hd s p=G.hd s p):(t:T)→ ∀(p p':List Nat),(∀z,G'.hd d (z++p')=G.hd s (z++p))→(∀xs,t≠.tup xs)→xC (kX G G') (cpT s t p)→R St G w s t p→R St G' w' d (cpT s t p) p'
 |.lit _,p,p',hd,_,_,h=>by simp only[cpT,R]at h ⊢;rw[show G'.hd d p'=_ from by simpa using hd []];exact h
 |.ro _,p,p',hd,_,_,h=>by simp only[cpT,R]at h ⊢;rw[show G'.hd d p'=_ from by simpa using hd []];exact h
 |.same r q,p,p',hd,_,hk,h=>by simp only[cpT,R,xC]at h hk ⊢;rw[show G'.hd d p'=_ from by simpa using hd [],hk.1];exact h
 |.addr r q,p,p',hd,_,hk,h=>by simp only[cpT,R,xC]at h hk ⊢;rw[show G'.hd d p'=_ from by simpa using hd [],hk.2];exact h
 |.sub r q k lo hi,p,p',hd,_,hk,h=>by simp only[cpT,R,xC]at h hk ⊢;rw[show G'.hd d p'=_ from by simpa using hd [],hk.1];exact h
 |.any,p,p',hd,_,_,_|.sl _ _,p,p',hd,_,_,_|.ptr _,p,p',hd,_,_,_=>by simp only[cpT,R];rw[show G'.hd d p'=_ from by simpa using hd [],hs]
 |.tup xs,_,_,_,h,_,_=>absurd rfl (h xs)
 |.agg xs,p,p',hd,_,hk,h=>by simp only[cpT,R,xC]at h hk ⊢;exact zJl hs xs p p' 0 hd hk h
theorem zJl(hs:∀p,G'.hd s p=G.hd s p):(xs:List T)→ ∀(p p':List Nat)(j:Nat),(∀z,G'.hd d (z++p')=G.hd s (z++p))→xX (kX G G') (cpF s xs p j)→RF St G w s xs p j→RF St G' w' d (cpF s xs p j) p' j
 | [],_,_,_,_,_,_=>by simp only[cpF,RF]
 |x::xs,p,p',j,hd,hk,h=>by
  simp only[cpF,RF,xX]at h hk ⊢
  refine⟨?_,zJl hs xs p p' (j+1) hd hk.2 h.2⟩
  by_cases hx:∃ys,x=.tup ys
  ·obtain⟨ys,rfl⟩:=hx
   simp only[cpT,R];rw[show G'.hd d (j::p')=_ from by simpa using hd [j],hs]
  ·exact zD7 hs x (j::p) (j::p') (fun z=>by have:=hd (z++[j]);simpa using this) (fun ys e=>hx ⟨ys,e⟩) hk.1 h.1
end
mutual
theorem zPd:(t:T)→ ∀(p p':List Nat),(∀z,G'.hd d (z++p')=G.hd s (z++p))→vals G' d (cpT s t p) p'=vals G s t p
 |.agg xs,p,p',h=>by simp only[cpT,vals];exact zD8 xs p p' 0 h
 |.any,p,p',h|.lit _,p,p',h|.ro _,p,p',h|.same _ _,p,p',h|.addr _ _,p,p',h|.sub _ _ _ _ _,p,p',h|.sl _ _,p,p',h|.ptr _,p,p',h|.tup _,p,p',h=>by simp only[cpT,vals];rw[show G'.hd d p'=G.hd s p from by simpa using h []]
theorem zD8:(xs:List T)→ ∀(p p':List Nat)(j:Nat),(∀z,G'.hd d (z++p')=G.hd s (z++p))→yI G' d (cpF s xs p j) p' j=yI G s xs p j
 | [],_,_,_,_=>by rfl
 |x::xs,p,p',j,h=>by simp only[cpF,yI];rw[zPd x (j::p) (j::p') (fun z=>by have:=h (z++[j]);grind),zD8 xs p p' (j+1) h]
end
theorem zAu(t:T)(p p':List Nat)(ht:∀xs,t≠.tup xs)(h:∀z,G'.hd d (z++p')=G.hd s (z++p)):mkV G' d (cpT s t p) p'=sJ G s t p:=by
 cases t with
 |agg xs=>grind[cpT,mkV,sJ,zD8]
 |tup xs=>grind
 |_=>simpa[cpT,mkV,sJ]using h []
end
theorem kG(G:Gh)(s:Nat)(t:T)(p:List Nat)(ht:∀xs,t≠.tup xs):mkV G s t p=sJ G s t p:=by
 cases t with
 |tup xs=>grind
 |_=>rfl
def Gh.put(G:Gh)(d:Nat)(f:List Nat→Value):Gh:={ G with hd:=fun s z=>if s=d then f z else G.hd s z }
theorem Gh.put_other(G:Gh){d s:Nat}(f:List Nat→Value)(p:List Nat)(h:s≠d):(G.put d f).hd s p=G.hd s p:=by simp[Gh.put,h]
theorem Gh.put_self(G:Gh)(d:Nat)(f:List Nat→Value)(p:List Nat):(G.put d f).hd d p=f p:=by simp[Gh.put]
theorem zVT{d s:Nat}{p:List Nat}(h:Off [(d,0)] s p):s≠d:=by
 rintro rfl
 exact absurd (h 0 (by simp)) (by simp)
theorem Gh.put_keep(G:Gh){w w':World}(hw:w'.heap=w.heap)(d:Nat)(f:List Nat→Value):qR [(d,0)] G w (G.put d f) w' where
 hd s p h:=G.put_other f p (zVT h)
 ad _ _ _:=rfl
 lb b o f' s p _ h _:=⟨h,by grind[yO,World.cell?]⟩
 ow b s p h _:=h
 blk b cs e h:=by grind
theorem Mem.put{Γ:Ctx}{G:Gh}{w w':World}(h:Mem Γ G w)(hw:w'.heap=w.heap)(d:Nat)(f:List Nat→Value)(hf:∀z,(f z).oneCell'=i9)(ho:w'.os=w.os:=by rfl)(hq:w'.output=w.output:=by rfl):Mem Γ (G.put d f) w' where
 one s p:=by unfold Gh.put;dsimp only;split;exact hf p;exact h.one s p
 lb b o l hl:=by have:=h.lb b o l hl;exact⟨by rw[hw];exact this.1,this.2⟩
 ow b l hl:=by have:=h.ow b l hl;exact⟨by rw[hw];exact this.1,this.2⟩
 st b x hx:=by rw[hw];exact h.st b x hx
 fr b h1 h2:=by rw[hw];exact h.fr b h1 h2
 sz:=by rw[hw];exact h.sz
 bk:=h.bk.trans (fun b cs e hb=>by grind) ho hq
theorem tQ(d:Nat)(x:Option T)(s:Nat):Wr.find [(d,x)] s=if d=s then i7 x else i8:=by rfl
theorem vK{Γ:Ctx}{E:Env}{G:Gh}{tmps:Array Value}{w w':World}(h:Rep Γ E G tmps w)(hw:w'.heap=w.heap){d:Nat}(hd:d<Γ.N)
  (f:List Nat→Value)(hf:∀z,(f z).oneCell'=i9)(t:T)(v:Value)(hv:v=mkV (G.put d f) d t [])(hr:R Γ.St (G.put d f) w' d t [])(ht:Top t)(ho:w'.os=w.os:=by rfl)(hq:w'.output=w.output:=by rfl):
  Rep Γ (E.app [(d,i7 t)] [(d,0)]) (G.put d f) (tmps.setIfInBounds d v) w':=by
 refine vF h (by simp) (G.put_keep hw d f) (h.mem.put hw d f hf ho hq) ?_ ?_
 ·grind[tQ]
 ·intro s t' hs
  rw[tQ]at hs;split at hs
  ·rename_i he
   subst he;simp at hs;subst hs;refine⟨?_,hr,ht⟩;rw[Jl];simp[h.size,hd,hv]
  ·cases hs
def wL(P:Program)(Γ:Ctx)(o:Oper)(E E':Env):Prop:=
 ∀(a:Act)(w:World)(K:Act→World→Prop)(Q:Exit→Act→World→Prop),Sim Γ E a w→(∀a' w',qY Γ E' a' w'→K a' w')→o.wp P a w K Q
def opT(E:Env):Operand→Option T
 |.tmp s=>E s
 |.const v=>if v.oneCell' then i7 (.lit v)else i8
 |.func f=>i7 (.lit (.func (.func f) #[] #[]))
 |.global _=>i8
def tA(x:Operand)(t:T):T:=match x with
 |.tmp s=>cpT s t []
 |_=>t
section
variable {P:Program}{Γ:Ctx}{E E':Env}{o:Oper}{d:Nat}
theorem wI{a:Act}{s:Nat}{v:Value}(h:a.tmps[s]? =i7 v):a.eval (.tmp s)=v:=by simp[Act.eval,Kh,h]
theorem wL.value(ho:o.dst=i7 d)
  (h:∀(a:Act)(w:World)(G:Gh),Rep Γ E G a.tmps w→ ∃v w',(execOp a.eval o).run P w=.ok (.value v) w'∧ ∃G',Rep Γ E' G' (a.tmps.setIfInBounds d v) w'):wL P Γ o E E':=by
 intro a w K Q ⟨gO,G,g9⟩ hK;obtain⟨v,w',gx,G',fE⟩:=h a w G g9;unfold Oper.wp;rw[gx,Oper.upon_value];refine hK _ _ ?_;rw[ho];exact .of ⟨gO,G',fE⟩
theorem wL.skip(ho:o.dst=i8)
  (h:∀(a:Act)(w:World)(G:Gh),Rep Γ E G a.tmps w→ ∃w',(execOp a.eval o).run P w=.ok .skip w'∧ ∃G',Rep Γ E' G' a.tmps w'):wL P Γ o E E':=by
 intro a w K Q ⟨gO,G,g9⟩ hK;obtain⟨w',gx,G',fE⟩:=h a w G g9;unfold Oper.wp;rw[gx,Oper.upon_skip];refine hK _ _ ?_;rw[ho];exact .of ⟨gO,G',fE⟩
theorem opd{G:Gh}{a:Act}{w:World}(g9:Rep Γ E G a.tmps w){x:Operand}{t:T}(hx:opT E x=i7 t)(ht:∀xs,t≠.tup xs):
  ∃f:List Nat→Value,(∀z,(f z).oneCell'=i9)∧(∀d,(∀s,x=.tmp s→s≠d)→T.okB [(d,0)] (tA x t)=i9→
   a.eval x=mkV (G.put d f) d (tA x t) []∧R Γ.St (G.put d f) w d (tA x t) [])∧Top (tA x t):=by
 cases x with
 |tmp s=>
  obtain⟨h1,h2,h3⟩:=g9.ent s t hx;refine⟨fun z=>G.hd s z,fun z=>g9.mem.one s z,?_,qN s t []⟩;intro d gf gB;have cH:=gf s rfl;have hk:=G.put_keep (w:=w) (w':=w) rfl d (fun z=>G.hd s z);have hz:∀z,(G.put d (fun z=>G.hd s z)).hd d (z++[])=G.hd s (z++[]):=by grind[Gh.put_self]
  refine⟨?_,?_⟩
  ·grind[wI,tA,zAu,kG]
  ·exact zD7 (fun p=>G.put_other _ p cH) t [] [] hz ht (hk.keepR (zAf _ (qN s t []) gB)) h2
 |const v=>
  simp only[opT]at hx;split at hx
  ·rename_i gz
   simp at hx;subst hx;exact⟨fun _=>v,fun _=>gz,fun d _ _=>⟨by simp[Act.eval,tA,mkV,Gh.put],by simp[tA,R,Gh.put]⟩,by simp[tA,Top]⟩
  ·cases hx
 |func f=>
  simp only[opT]at hx;simp at hx;subst hx;exact⟨fun _=>.func (.func f) #[] #[],fun _=>rfl,fun d _ _=>⟨by simp[Act.eval,tA,mkV,Gh.put],by simp[tA,R,Gh.put]⟩,by simp[tA,Top]⟩
 |global g=>cases hx
theorem zND(x:Operand)(t:T)(ho:o.op=.move x∨o.op=.assign x)(gg:o.dst=i7 d)(hd:d<Γ.N)(hx:opT E x=i7 t)(ht:∀xs,t≠.tup xs)
  (gf:∀s,x=.tmp s→s≠d)(gB:T.okB [(d,0)] (tA x t)=i9):wL P Γ o E (E.app [(d,i7 (tA x t))] [(d,0)]):=by
 refine wL.value gg fun a w G g9=>?_
 obtain⟨f,hf,h1,h2⟩:=opd g9 hx ht;obtain⟨h3,h4⟩:=h1 d gf gB;refine⟨a.eval x,w,?_,_,vK g9 rfl hd f hf _ _ h3 h4 h2⟩;rcases ho with ho|ho<;>simp[execOp,ho]
theorem wN{G:Gh}{a:Act}{w:World}(g9:Rep Γ E G a.tmps w){x:Operand}{v:Value}(hx:opT E x=i7 (.lit v)):a.eval x=v∧v.oneCell'=i9:=by
 cases x with
 |tmp s=>
  obtain⟨h1,h2,_⟩:=g9.ent s _ hx;simp only[R]at h2;refine⟨?_,by rw[←h2];exact g9.mem.one s []⟩
  grind[wI,mkV]
 |const u=>
  simp only[opT]at hx;split at hx
  ·simp at hx;subst hx;exact⟨rfl,by assumption⟩
  ·cases hx
 |func f=>simp only[opT]at hx;simp at hx;subst hx;exact⟨rfl,rfl⟩
 |global g=>cases hx
theorem zAN(v:Value)(hv:v.oneCell'=i9)(gg:o.dst=i7 d)(hd:d<Γ.N)
  (h:∀(a:Act)(w:World)(G:Gh),Rep Γ E G a.tmps w→(execOp a.eval o).run P w=.ok (.value v) w):wL P Γ o E (E.app [(d,i7 (.lit v))] [(d,0)]):=by
 refine wL.value gg fun a w G g9=>?_
 exact⟨v,w,h a w G g9,_,vK g9 rfl hd (fun _=>v) (fun _=>hv) (.lit v) v (by simp[mkV,Gh.put]) (by simp[R,Gh.put]) (by simp[Top])⟩
def zJm(op:BinOp)(k:IntKind)(a b:Int):Option Value:=
 match op with
 |.add=>i7 (.int k (k.wrap (a+b)))
 |.sub=>i7 (.int k (k.wrap (a-b)))
 |.mul=>i7 (.int k (k.wrap (a*b)))
 |.quo=>if b=0 then i8 else i7 (.int k (k.wrap (a.tdiv b)))
 |.rem=>if b=0 then i8 else i7 (.int k (a.tmod b))
 |.eql=>i7 (.bool (a==b))
 |.neq=>i7 (.bool (a != b))
 |.lss=>i7 (.bool (decide (a<b)))
 |.leq=>i7 (.bool (decide (a≤b)))
 |.gtr=>i7 (.bool (decide (a> b)))
 |.geq=>i7 (.bool (decide (a≥b)))
 |_=>i8
theorem zQu{op:BinOp}{k:IntKind}{a b:Int}{v:Value}(h:zJm op k a b=i7 v):v.oneCell'=i9:=by cases op<;>simp[zJm]at h<;>first|(subst h;rfl)|(obtain⟨_,rfl⟩:=h;rfl)
theorem sA(op:BinOp)(xt yt:TypeId)(x y:Operand)(k:IntKind)(m n:Int)(v:Value)(ho:o.op=.binOp op xt x y yt)(gg:o.dst=i7 d)(hd:d<Γ.N)
  (hx:opT E x=i7 (.lit (.int k m)))(hy:opT E y=i7 (.lit (.int k n)))(hv:zJm op k m n=i7 v):wL P Γ o E (E.app [(d,i7 (.lit v))] [(d,0)]):=by
 refine zAN v (zQu hv) gg hd fun a w G g9=>?_
 have h1:=(wN g9 hx).1;have h2:=(wN g9 hy).1;cases op<;>simp[zJm]at hv<;>
  first
   |(subst hv;simp[execOp,ho,h1,h2,eqGuard,binOp,Op.intArith,Op.intCmp];done)
   |(obtain⟨h0,rfl⟩:=hv;simp[execOp,ho,h1,h2,eqGuard,binOp,Op.intDiv,h0])
theorem zVU(xt:TypeId)(x:Operand)(b:Bool)(ho:o.op=.unOp .not xt x)(gg:o.dst=i7 d)(hd:d<Γ.N)
  (hx:opT E x=i7 (.lit (.bool b))):wL P Γ o E (E.app [(d,i7 (.lit (.bool !b)))] [(d,0)]):=by
 refine zAN _ rfl gg hd fun a w G g9=>?_
 have h1:=(wN g9 hx).1;simp[execOp,ho,h1,Op.unary]
theorem zVV(xt:TypeId)(x:Operand)(k:IntKind)(n:Int)(ho:o.op=.unOp .neg xt x)(gg:o.dst=i7 d)(hd:d<Γ.N)
  (hx:opT E x=i7 (.lit (.int k n))):wL P Γ o E (E.app [(d,i7 (.lit (.int k (k.wrap (0-n)))))] [(d,0)]):=by
 refine zAN _ rfl gg hd fun a w G g9=>?_
 have h1:=(wN g9 hx).1;simp[execOp,ho,h1,Op.unary,Op.intArith]
theorem zTD(src dst:TypeId)(ds:TypeDesc)(x:Operand)(k k':IntKind)(n:Int)(ho:o.op=.convert src dst x)(gg:o.dst=i7 d)(hd:d<Γ.N)
  (hs:P.underlying src=i7 ds)(ht:P.underlying dst=i7 (.int k'))(hx:opT E x=i7 (.lit (.int k n))):
  wL P Γ o E (E.app [(d,i7 (.lit (.int k' (k'.wrap n))))] [(d,0)]):=by
 refine zAN _ rfl gg hd fun a w G g9=>?_
 have h1:=(wN g9 hx).1;simp[execOp,ho,h1,convert,run_underlying hs,run_underlying ht,Conv.intToInt]
theorem zTE(c x y:Operand)(b:Bool)(t:T)(ho:o.op=.pick c x y)(gg:o.dst=i7 d)(hd:d<Γ.N)
  (hc:opT E c=i7 (.lit (.bool b)))(hx:opT E (if b then x else y)=i7 t)(ht:∀xs,t≠.tup xs)
  (gf:∀s,(if b then x else y)=.tmp s→s≠d)(gB:T.okB [(d,0)] (tA (if b then x else y) t)=i9):wL P Γ o E (E.app [(d,i7 (tA (if b then x else y) t))] [(d,0)]):=by
 refine wL.value gg fun a w G g9=>?_
 obtain⟨f,hf,h1,h2⟩:=opd g9 hx ht;obtain⟨h3,h4⟩:=h1 d gf gB;refine⟨a.eval (if b then x else y),w,?_,_,vK g9 rfl hd f hf _ _ h3 h4 h2⟩;have h5:=(wN g9 hc).1;cases b<;>simp[execOp,ho,h5,asBool]
end
end Go.Ab

namespace Go.Ab
open Go
def qS(E:Env):Nat→Nat→List Nat→Option (Nat×List Nat×T)
 |0,_,_=>i8
 |n+1,r,q=>match E r with
  |some t=>match t.get q.reverse with
   |some (.same r' q')=>qS E n r' q'
   |some u=>i7 (r,q,u)
   |none=>i8
  |none=>i8
def tF(E:Env):Operand→Option (Nat×List Nat×T)
 |.tmp s=>qS E 4 s []
 |_=>i8
def T.single:T→Bool
 |.agg _|.tup _=>ia
 |_=>i9
theorem xN{G:Gh}{s:Nat}{t:T}{p:List Nat}(h:t.single=i9):mkV G s t p=G.hd s p:=by cases t<;>simp[T.single]at h<;>rfl
section
variable {P:Program}{Γ:Ctx}{E:Env}{o:Oper}{d:Nat}
theorem zCL{G:Gh}{a:Act}{w:World}(g9:Rep Γ E G a.tmps w):∀(n s:Nat)(p:List Nat)(r:Nat)(q:List Nat)(u:T),qS E n s p=i7 (r,q,u)→
  R Γ.St G w r u q∧G.hd s p=G.hd r q∧(∃t,E r=i7 t∧t.get q.reverse=i7 u)
 |0,_,_,_,_,_,h=>by grind[qS]
 |n+1,s,p,r,q,u,h=>by
  simp only[qS]at h;split at h
  ·rename_i t ht
   obtain⟨_,h4,_⟩:=g9.ent _ _ ht;split at h
   ·rename_i r' q' hg
    obtain⟨h1,h2,h3⟩:=zCL g9 n r' q' r q u h;have h5:=(zA9 p.reverse t _ [] h4 hg).1;simp only[rp,Ki,Je,R]at h5
    grind
   ·rename_i u' hns hg
    simp at h;obtain⟨rfl,rfl,rfl⟩:=h;have h5:=(zA9 p.reverse t _ [] h4 hg).1
    simp_all
   ·cases h
  ·cases h
theorem qZ{G:Gh}{a:Act}{w:World}(g9:Rep Γ E G a.tmps w){x:Operand}{r:Nat}{q:List Nat}{u:T}(h:tF E x=i7 (r,q,u))(hu:u.single=i9):
  R Γ.St G w r u q∧a.eval x=G.hd r q:=by
 cases x with
 |tmp s=>
  obtain⟨h1,h2,_⟩:=zCL g9 4 s [] r q u h;refine⟨h1,?_⟩;rw[←h2];simp only[tF,qS]at h;split at h
  ·rename_i t ht
   obtain⟨h3,_,_⟩:=g9.ent s _ ht;rw[wI h3];simp only[Qe,T.get]at h;have:t.single=i9:=by cases t<;>first|rfl|simp_all
   exact xN this
  ·cases h
 |_=>grind[tF]
theorem zJn{St:Stb}{G:Gh}{w:World}{s:Nat}{k:Nat}{xs:List T}{p:List Nat}(h:R St G w s (.sl k xs) p):∃a c,G.hd s p=.slice a xs.length c:=by
 simp only[R]at h;rcases h with⟨rfl,a,h⟩|⟨b,cap,_,_,h,_⟩
 ·exact⟨a,0,h⟩
 ·exact⟨_,_,h⟩
theorem zCM{St:Stb}{G:Gh}{w:World}{s:Nat}{k:Nat}{xs:List T}{p:List Nat}(h:R St G w s (.ro (.sl k xs)) p):∃a c,G.hd s p=.slice a xs.length c∧xs.length≤c∧c≤maxLen∧
   (xs≠[]→ ∃b o' cs' e fr,a=i7 ⟨b,o',i8⟩∧St b=i7 (.cells cs' e fr)∧RoL St xs cs' o' k):=by
 grind[R,RoC]
def zKs:T→Option Nat
 |.sl _ xs|.ro (.sl _ xs)=>i7 xs.length
 |.lit (.slice _ n _)=>i7 n
 |.lit (.string s)=>i7 s.size
 |_=>i8
def zTF:T→TypeDesc→Bool
 |.lit (.string _),.string=>i9
 |.sl _ _,.slice _|.ro (.sl _ _),.slice _|.lit (.slice _ _ _),.slice _=>i9
 |_,_=>ia
theorem zQv(x:Operand)(t:TypeId)(ds:TypeDesc)(r:Nat)(q:List Nat)(u:T)(n:Nat)(ho:o.op=.call { callee:=.builtin .len,args:=#[x],argTypes:=#[t] })(gg:o.dst=i7 d)(hd:d<Γ.N)
  (ht:P.underlying t=i7 ds)(hx:tF E x=i7 (r,q,u))(hl:zKs u=i7 n)(pV:zTF u ds=i9):
  wL P Γ o E (E.app [(d,i7 (.lit (.int .i64 n)))] [(d,0)]):=by
 refine zAN (.int .i64 n) rfl gg hd fun a w G g9=>?_
 have hu:u.single=i9:=by cases u<;>simp[zKs]at hl<;>rfl
 obtain⟨h1,h2⟩:=qZ g9 hx hu;have h3:(Builtin.len_ #[t] o.type #[G.hd r q]).run P w=.ok (.int .i64 n) w:=by
  cases u with
  |sl k xs=>
   obtain⟨a',c,h4⟩:=zJn h1;simp[zKs]at hl;subst hl;cases ds<;>simp[zTF]at pV
   simp[Builtin.len_,run_underlying ht,h4,goInt]
  |ro t'=>
   cases t'<;>simp[zKs]at hl
   obtain⟨a',c,h4,_⟩:=zCM h1;subst hl;cases ds<;>simp[zTF]at pV
   simp[Builtin.len_,run_underlying ht,h4,goInt]
  |lit v=>
   simp only[R]at h1;cases v<;>simp[zKs]at hl<;>(subst hl;cases ds<;>simp[zTF]at pV;simp[Builtin.len_,run_underlying ht,h1,goInt])
  |_=>grind[zKs]
 simp[execOp,ho,resolve,invoke,builtin,h2,h3]
theorem zB1{G:Gh}{w:World}{s:Nat}{t:T}{p:List Nat}{b o:Nat}(h:Loc G w s t p b o):G.ad s p=⟨b,o,i8⟩:=by cases t<;>simp only[Loc]at h<;>first|exact h.1|exact h.elim
theorem uM(b o n:Nat):(⟨b,o,i8⟩:Addr).add n=⟨b,o+n,i8⟩:=by grind[Addr.add]
theorem zTG{St:Stb}{G:Gh}{w:World}{s:Nat}{k:Nat}{xs:List T}{p:List Nat}(h:R St G w s (.sl k xs) p){i:Nat}(hi:i<xs.length):
  ∃b cap,G.hd s p=.slice (i7 ⟨b,0,i8⟩) xs.length cap∧G.ad s (i::p)=⟨b,i*k,i8⟩:=by
 simp only[R]at h;rcases h with⟨rfl,_⟩|⟨b,cap,cs,e,h1,h2,h3,h4,h5,h6,h7,h8⟩
 ·simp at hi
 ·have:=(jN xs p 0 b 0 k i xs[i] h8 (by simp[hi])).1
  simp only[Jb]at this;exact⟨b,cap,h1,zB1 this⟩
theorem zQw(x y:Operand)(t e:TypeId)(ti:TypeInfo)(r:Nat)(q:List Nat)(k:Nat)(xs:List T)(kd:IntKind)(i:Int)(ho:o.op=.indexAddr t x y)(gg:o.dst=i7 d)(hd:d<Γ.N)
  (ht:P.underlying t=i7 (.slice e))(he:P.info? e=i7 ti)(hk:ti.size=k)(hx:tF E x=i7 (r,q,.sl k xs))(hy:opT E y=i7 (.lit (.int kd i)))(h0:0≤i)(h1:i.toNat<xs.length):
  wL P Γ o E (E.app [(d,i7 (.addr r (i.toNat::q)))] [(d,0)]):=by
 refine wL.value gg fun a w G g9=>?_
 obtain⟨g1,g2⟩:=qZ g9 hx rfl;have g3:=(wN g9 hy).1;obtain⟨b,cap,g4,g5⟩:=zTG g1 h1;refine⟨.pointer (i7 (G.ad r (i.toNat::q))),w,?_,_,vK g9 rfl hd (fun _=>.pointer (i7 (G.ad r (i.toNat::q)))) (fun _=>rfl) _ _ (by simp[mkV,Gh.put]) (by simp[R,Gh.put]) (by simp[Top])⟩;have gD:i<(xs.length:Int):=by omega
 simp[execOp,ho,Instr.indexAt,g3,g2,g4,asIntOf,run_underlying ht,h0,gD,sizeOf,typeInfo,he,hk,uM,g5]
theorem zGi{St:Stb}:(xs:List T)→ ∀(cs:Array Value)(o k i:Nat)(x:T),RoL St xs cs o k→xs[i]? =i7 x→RoC St x cs (o+i*k)
 | [],_,_,_,_,_,_,h=>by simp at h
 |y::ys,cs,o,k,i,x,hr,h=>by
  simp only[RoL]at hr;cases i with
  |zero=>grind
  |succ i=>
   have:=zGi ys cs (o+k) k i x hr.2 (by grind)
   grind
theorem zNE{St:Stb}:(xs:List T)→ ∀(cs:Array Value)(o i:Nat)(x:T),RoF St xs cs o→xs[i]? =i7 x→RoC St x cs (o+T.sizes (xs.take i))
 | [],_,_,_,_,_,h=>by simp at h
 |y::ys,cs,o,i,x,hr,h=>by
  simp only[RoF]at hr;cases i with
  |zero=>grind[T.sizes]
  |succ i=>
   have:=zNE ys cs (o+y.size) i x hr.2 (by grind)
   grind[T.sizes]
theorem zQx(x y:Operand)(t e:TypeId)(ti:TypeInfo)(r:Nat)(q:List Nat)(k:Nat)(xs:List T)(kd:IntKind)(i:Int)(u:T)(ho:o.op=.indexAddr t x y)(gg:o.dst=i7 d)(hd:d<Γ.N)
  (ht:P.underlying t=i7 (.slice e))(he:P.info? e=i7 ti)(hk:ti.size=k)(hx:tF E x=i7 (r,q,.ro (.sl k xs)))(hy:opT E y=i7 (.lit (.int kd i)))(h0:0≤i)(h1:xs[i.toNat]? =i7 u):
  wL P Γ o E (E.app [(d,i7 (.ro (.ptr u)))] [(d,0)]):=by
 refine wL.value gg fun a w G g9=>?_
 obtain⟨g1,g2⟩:=qZ g9 hx rfl;have g3:=(wN g9 hy).1;have hlt':i.toNat<xs.length:=(Jn.1 h1).1;obtain⟨a',c,g4,_,_,g5⟩:=zCM g1;obtain⟨b,o',cs',e',fr,rfl,g6,g7⟩:=g5 (by rintro rfl;grind);have g8:=zGi xs cs' o' k i.toNat u g7 h1;refine⟨.pointer (i7 ⟨b,o'+i.toNat*k,i8⟩),w,?_,_,vK g9 rfl hd (fun _=>.pointer (i7 ⟨b,o'+i.toNat*k,i8⟩)) (fun _=>rfl) _ _ (by simp[mkV,Gh.put]) ?_ (by simp[Top])⟩
 ·have gD:i<(xs.length:Int):=by omega
  simp[execOp,ho,Instr.indexAt,g3,g2,g4,asIntOf,run_underlying ht,h0,gD,sizeOf,typeInfo,he,hk,uM]
 grind[R,Gh.put_self,RoC]
theorem zCc:(xs:List T)→ ∀{G:Gh}{w:World}{s:Nat}(p:List Nat)(j b o i:Nat)(x:T),vE G w s xs p j b o→xs[i]? =i7 x→
  Loc G w s x ((j+i)::p) b (o+T.sizes (xs.take i))
 | [],_,_,_,_,_,_,_,_,_,_,h=>by simp at h
 |y::ys,G,w,s,p,j,b,o,i,x,hr,h=>by
  simp only[vE]at hr;cases i with
  |zero=>grind[T.sizes]
  |succ i=>
   have:=zCc ys p (j+1) b (o+y.size) i x hr.2 (by grind)
   grind[T.sizes]
theorem tV{P:Program}{w:World}(a:Addr):(Instr.sureAddr (.pointer (i7 a))).run P w=.ok a w:=rfl
theorem zCd{P:Program}{w:World}{S:TypeId}{fs:Array Field}{f:Field}{fi:TypeInfo}{j:Nat}{b o':Nat}(hS:P.underlying S=i7 (.struct fs))(hf:fs[j]? =i7 f)(hi:P.info? f.type=i7 fi)(hz:fi.size≠0):
  (Instr.fieldAt S (.pointer (i7 ⟨b,o',i8⟩)) j).run P w=.ok (.pointer (i7 ⟨b,o'+f.offset,i8⟩)) w:=by
 simp[Instr.fieldAt,run_underlying hS,hf,tV,fieldPlace,sizeOf,typeInfo,hi,hz,uM]
theorem zX4(x:Operand)(S:TypeId)(fs:Array Field)(f:Field)(fi:TypeInfo)(j:Nat)(r:Nat)(q:List Nat)(xs:List T)(u:T)(ho:o.op=.fieldAddr S x j)(gg:o.dst=i7 d)(hd:d<Γ.N)
  (hS:P.underlying S=i7 (.struct fs))(hf:fs[j]? =i7 f)(hi:P.info? f.type=i7 fi)(hz:fi.size≠0)(hx:tF E x=i7 (r,q,.ptr (.agg xs)))(hu:xs[j]? =i7 u)(gF:T.sizes (xs.take j)=f.offset):
  wL P Γ o E (E.app [(d,i7 (.addr r (j::0::q)))] [(d,0)]):=by
 refine wL.value gg fun a w G g9=>?_
 obtain⟨g1,g2⟩:=qZ g9 hx rfl;simp only[R]at g1;obtain⟨b,cs,e,g4,_,_,_,g5,_⟩:=g1;simp only[Loc]at g5;have g6:=zCc xs (0::q) 0 b 0 j u g5.2 hu;simp only[Jb]at g6;refine⟨.pointer (i7 (G.ad r (j::0::q))),w,?_,_,vK g9 rfl hd (fun _=>.pointer (i7 (G.ad r (j::0::q)))) (fun _=>rfl) _ _ (by simp[mkV,Gh.put]) (by simp[R,Gh.put]) (by simp[Top])⟩;have g7:=zCd (w:=w) (b:=b) (o':=0) hS hf hi hz;simp[execOp,ho,g2,g4,g7,zB1 g6,gF]
theorem zM1(x:Operand)(S:TypeId)(fs:Array Field)(f:Field)(fi:TypeInfo)(j:Nat)(r:Nat)(q:List Nat)(t:T)(xs:List T)(u:T)(ho:o.op=.fieldAddr S x j)(gg:o.dst=i7 d)(hd:d<Γ.N)
  (hS:P.underlying S=i7 (.struct fs))(hf:fs[j]? =i7 f)(hi:P.info? f.type=i7 fi)(hz:fi.size≠0)(hx:opT E x=i7 (.addr r q))(hr:E r=i7 t)(hg:t.get q.reverse=i7 (.agg xs))(hl:t.locd q.reverse=i9)
  (hu:xs[j]? =i7 u)(gF:T.sizes (xs.take j)=f.offset):
  wL P Γ o E (E.app [(d,i7 (.addr r (j::q)))] [(d,0)]):=by
 refine wL.value gg fun a w G g9=>?_
 cases x with
 |tmp s=>
  obtain⟨h1,h2,_⟩:=g9.ent s _ hx;obtain⟨_,h4,_⟩:=g9.ent r _ hr;simp only[R]at h2;obtain⟨b,o',cs,e,h6,_,_⟩:=(zA9 q.reverse t _ [] h4 hg).2 hl;simp only[rp,Ki,Je]at h6;have h7:=zB1 h6;simp only[Loc]at h6;have g6:=zCc xs q 0 b o' j u h6.2 hu;simp only[Jb]at g6;refine⟨.pointer (i7 (G.ad r (j::q))),w,?_,_,vK g9 rfl hd (fun _=>.pointer (i7 (G.ad r (j::q)))) (fun _=>rfl) _ _ (by simp[mkV,Gh.put]) (by simp[R,Gh.put]) (by simp[Top])⟩;have g7:=zCd (w:=w) (b:=b) (o':=o') hS hf hi hz;simp[execOp,ho,wI h1,mkV,h2,h7,g7,zB1 g6,gF]
 |const v=>grind[opT]
 |func f=>grind[opT]
 |global g=>grind[opT]
theorem zM2{G:Gh}{a:Act}{w:World}(g9:Rep Γ E G a.tmps w){x:Operand}{u:T}(hx:opT E x=i7 (.ro u)):RoC Γ.St u #[a.eval x] 0:=by
 cases x with
 |tmp s=>
  obtain⟨h1,h2,_⟩:=g9.ent s _ hx;simp only[R]at h2;rw[wI h1,xN rfl];exact h2
 |const v=>grind[opT]
 |func f=>grind[opT]
 |global g=>grind[opT]
theorem zQy(x:Operand)(S:TypeId)(fs:Array Field)(f:Field)(fi:TypeInfo)(j:Nat)(xs:List T)(u:T)(ho:o.op=.fieldAddr S x j)(gg:o.dst=i7 d)(hd:d<Γ.N)
  (hS:P.underlying S=i7 (.struct fs))(hf:fs[j]? =i7 f)(hi:P.info? f.type=i7 fi)(hz:fi.size≠0)(hx:opT E x=i7 (.ro (.ptr (.agg xs))))(hu:xs[j]? =i7 u)(gF:T.sizes (xs.take j)=f.offset):
  wL P Γ o E (E.app [(d,i7 (.ro (.ptr u)))] [(d,0)]):=by
 refine wL.value gg fun a w G g9=>?_
 have h1:=zM2 g9 hx;simp only[RoC]at h1;obtain⟨b,o',cs',e,fr,h2,h3,h4⟩:=h1;have h5:=zNE xs cs' o' j u h4 hu;refine⟨.pointer (i7 ⟨b,o'+f.offset,i8⟩),w,?_,_,vK g9 rfl hd (fun _=>.pointer (i7 ⟨b,o'+f.offset,i8⟩)) (fun _=>rfl) _ _ (by simp[mkV,Gh.put]) ?_ (by simp[Top])⟩
 ·have g7:=zCd (w:=w) (b:=b) (o':=o') hS hf hi hz
  have h6:a.eval x=.pointer (i7 ⟨b,o',i8⟩):=by grind
  simp[execOp,ho,h6,g7]
 grind[R,Gh.put_self,RoC]
def zEW:TypeDesc→Bool
 |.struct _|.array _ _=>i9
 |_=>ia
theorem jP{P:Program}{w:World}{t:TypeId}{ds:TypeDesc}(ht:P.underlying t=i7 ds):(isAgg t).run P w=.ok (zEW ds) w:=by cases ds<;>simp[isAgg,run_underlying ht,zEW]
theorem wZ{G:Gh}{w:World}{s:Nat}{t:T}{p:List Nat}{b o:Nat}(ht:t.single=i9)(h:Loc G w s t p b o):G.ad s p=⟨b,o,i8⟩∧G.lb b o=i7 (ia,s,p)∧yO w b o=i7 (G.hd s p):=by cases t<;>simp[T.single]at ht<;>simpa only[Loc]using h
mutual
theorem zQz{G:Gh}{w:World}{s:Nat}:(t:T)→ ∀(p:List Nat)(b o:Nat),Loc G w s t p b o→ ∀(i:Nat)(v:Value),(vals G s t p)[i]? =i7 v→yO w b (o+i)=i7 v
 |.agg xs,p,b,o,h,i,v,hv=>by simp only[Loc,vals]at h hv;exact zBb xs p 0 b o h.2 i v hv
 |.any,p,b,o,h,i,v,hv|.lit _,p,b,o,h,i,v,hv|.ro _,p,b,o,h,i,v,hv|.same _ _,p,b,o,h,i,v,hv|.addr _ _,p,b,o,h,i,v,hv|.sub _ _ _ _ _,p,b,o,h,i,v,hv|.sl _ _,p,b,o,h,i,v,hv|.ptr _,p,b,o,h,i,v,hv=>by grind[Loc,vals]
 |.tup _,_,_,_,h,_,_,_=>by grind[Loc]
theorem zBb{G:Gh}{w:World}{s:Nat}:(xs:List T)→ ∀(p:List Nat)(j b o:Nat),vE G w s xs p j b o→ ∀(i:Nat)(v:Value),(yI G s xs p j)[i]? =i7 v→yO w b (o+i)=i7 v
 | [],_,_,_,_,_,i,v,hv=>by grind[yI]
 |x::xs,p,j,b,o,h,i,v,hv=>by
  simp only[vE,yI]at h hv;rw[Kk]at hv;split at hv
  ·exact zQz x (j::p) b o h.1 i v hv
  ·rename_i hge
   have gj:=vC (G:=G) (s:=s) x (j::p) (by grind[Loc]);have:=zBb xs p (j+1) b (o+x.size) h.2 _ v hv
   grind
theorem vC{G:Gh}{s:Nat}:(t:T)→ ∀(p:List Nat),(∀xs,t≠.tup xs)→(vals G s t p).length=t.size
 |.agg xs,p,_=>by simp only[vals,T.size];exact wQ xs p 0
 |.any,_,_|.lit _,_,_|.ro _,_,_|.same _ _,_,_|.addr _ _,_,_|.sub _ _ _ _ _,_,_|.sl _ _,_,_|.ptr _,_,_|.tup _,_,_=>by rfl
theorem wQ{G:Gh}{s:Nat}:(xs:List T)→ ∀(p:List Nat)(j:Nat),(yI G s xs p j).length=T.sizes xs
 | [],_,_=>by rfl
 |x::xs,p,j=>by
  simp only[yI,J6,T.sizes,wQ xs p (j+1)]
  by_cases hx:∃ys,x=.tup ys
  ·obtain⟨ys,rfl⟩:=hx;rfl
  ·rw[vC x (j::p) (by grind)]
end
theorem zFE{P:Program}{G:Gh}{w:World}{s:Nat}{t:T}{p:List Nat}{b o':Nat}{T':TypeId}{ds:TypeDesc}{ti:TypeInfo}(hT:P.underlying T'=i7 ds)(hi:P.info? T'=i7 ti)(hl:Loc G w s t p b o')
  (fN:zEW ds= !t.single)(gw:ti.size=t.size):(loadVar T' ⟨b,o',i8⟩).run P w=.ok (sJ G s t p) w:=by
 cases t with
 |agg xs=>
  have h1:=run_loadCells_list (P:=P) (w:=w) ⟨b,o',i8⟩ (yI G s xs p 0) (fun j v hv=>by rw[uM];simp only[Loc]at hl;exact zBb xs p 0 b o' hl.2 j v hv)
  rw[wQ]at h1;simp only[T.size]at gw;simp[T.single]at fN;simp[loadVar,jP hT,fN,sizeOf,typeInfo,hi,gw,h1,sJ]
 |tup xs=>grind[Loc]
 |_=>
  have h1:=(wZ rfl hl).2.2;simp[T.single]at fN;simp only[yO]at h1;simp[loadVar,jP hT,fN,load,Sem.run,h1,sJ]
def zAB(Γ:Ctx)(E:Env)(x:Operand)(r:Nat)(q:List Nat):Prop:=∀(a:Act)(w:World)(G:Gh),Rep Γ E G a.tmps w→a.eval x=.pointer (i7 (G.ad r q))
theorem zAB.addr{x:Operand}{r:Nat}{q:List Nat}(hx:opT E x=i7 (.addr r q)):zAB Γ E x r q:=fun a w G g9=>by
 cases x with
 |tmp s=>
  obtain⟨h1,h2,_⟩:=g9.ent s _ hx;simp only[R]at h2;rw[wI h1];exact h2
 |const v=>grind[opT]
 |func f=>grind[opT]
 |global g=>grind[opT]
theorem zAB.ptr{x:Operand}{r:Nat}{q:List Nat}{t:T}(hx:tF E x=i7 (r,q,.ptr t)):zAB Γ E x r (0::q):=fun a w G g9=>by
 obtain⟨g1,g2⟩:=qZ g9 hx rfl
 grind[R,zB1]
theorem zKt(x:Operand)(T':TypeId)(ds:TypeDesc)(ti:TypeInfo)(r:Nat)(q:List Nat)(t u:T)(ho:o.op=.load T' x)(gg:o.dst=i7 d)(hd:d<Γ.N)
  (hT:P.underlying T'=i7 ds)(hi:P.info? T'=i7 ti)(fN:zEW ds= !u.single)(gw:ti.size=u.size)
  (hx:zAB Γ E x r q)(hr:E r=i7 t)(hg:t.get q.reverse=i7 u)(hl:t.locd q.reverse=i9)(gy:r≠d)(gB:T.okB [(d,0)] (cpT r u q)=i9):
  wL P Γ o E (E.app [(d,i7 (cpT r u q))] [(d,0)]):=by
 refine wL.value gg fun a w G g9=>?_
 have bm:=hx a w G g9;obtain⟨_,h4,_⟩:=g9.ent r _ hr;obtain⟨h5,h6⟩:=zA9 q.reverse t u [] h4 hg;obtain⟨b,o',cs,e,h6,_,_⟩:=h6 hl;simp only[rp,Ki,Je]at h5 h6;have ee:∀xs,u≠.tup xs:=by rintro xs rfl;simp only[Loc]at h6
 have h7:=zB1 h6;have hz:∀z,(G.put d (fun z=>G.hd r (z++q))).hd d (z++[])=G.hd r (z++q):=fun z=>by rw[Gh.put_self,Je]
 have hk:=G.put_keep (w:=w) (w':=w) rfl d (fun z=>G.hd r (z++q));refine⟨sJ G r u q,w,?_,_,vK g9 rfl hd (fun z=>G.hd r (z++q)) (fun z=>g9.mem.one _ _) _ _ (zAu u q [] ee hz).symm
  (zD7 (fun p=>G.put_other _ p gy) u q [] hz ee (hk.keepR (zAf _ (qN r u q) gB)) h5) (qN r u q)⟩
 have h8:=zFE (T':=T') hT hi h6 fN gw;simp[execOp,ho,bm,h7,Instr.loadAt,tV,h8]
theorem zTH(x:Operand)(T':TypeId)(ds:TypeDesc)(ti:TypeInfo)(r:Nat)(q:List Nat)(t u:T)(ho:o.op=.load T' x)(gg:o.dst=i7 d)(hd:d<Γ.N)
  (hT:P.underlying T'=i7 ds)(hi:P.info? T'=i7 ti)(fN:zEW ds= !u.single)(gw:ti.size=u.size)
  (hx:opT E x=i7 (.addr r q))(hr:E r=i7 t)(hg:t.get q.reverse=i7 u)(hl:t.locd q.reverse=i9)(gy:r≠d)(gB:T.okB [(d,0)] (cpT r u q)=i9):
  wL P Γ o E (E.app [(d,i7 (cpT r u q))] [(d,0)]):=by grind[zKt,zAB.addr]
def roT:T→T
 |.lit v=>.lit v
 |.agg xs=>.agg (roTs xs)
 |.ro t=>.ro t
 |.any=>.any
 |.same r q=>.ro (.same r q)
 |.addr r q=>.ro (.addr r q)
 |.sub r q k lo hi=>.ro (.sub r q k lo hi)
 |.sl k xs=>.ro (.sl k xs)
 |.ptr t=>.ro (.ptr t)
 |.tup xs=>.ro (.tup xs)
where roTs:List T→List T
 | []=>[]
 |x::xs=>roT x::roTs xs
end
end Go.Ab

namespace Go.Ab
open Go
def jQ(v:Value):Value:=if v.oneCell' then v else .bool ia
theorem zBc(v:Value):(jQ v).oneCell'=i9:=by
 unfold jQ;split
 ·assumption
 ·rfl
theorem zAg{v:Value}(h:v.oneCell'=i9):jQ v=v:=by simp[jQ,h]
def zD9:T→Array Value→Nat→List Nat→Value
 |.agg xs,cs,o,i::f=>match xs[i]? with
  |some x=>zD9 x cs (o+T.sizes (xs.take i)) f
  |none=>.bool ia
 |_,cs,o,_=>cs.getD o (.bool ia)
termination_by structural _ _ _ f=>f
theorem zAC{t:T}(h:t.single=i9)(cs:Array Value)(o:Nat)(f:List Nat):zD9 t cs o f=cs.getD o (.bool ia):=by cases t<;>simp[T.single]at h<;>cases f<;>rfl
mutual
theorem zEi:(u:T)→(∀xs,u≠.tup xs)→(roT u).size=u.size
 |.agg xs,_=>by simp only[roT,T.size];exact zEX xs
 |.lit _,_|.any,_|.sl _ _,_|.ptr _,_|.ro _,_|.same _ _,_|.addr _ _,_|.sub _ _ _ _ _,_|.tup _,_=>by rfl
theorem zEX:(xs:List T)→T.sizes (roT.roTs xs)=T.sizes xs
 | []=>by rfl
 |x::xs=>by
  simp only[roT.roTs,T.sizes,zEX xs]
  by_cases hx:∃ys,x=.tup ys
  ·obtain⟨ys,rfl⟩:=hx;rfl
  ·rw[zEi x (by grind)]
end
section
variable {St:Stb}{G:Gh}{w:World}{d:Nat}
theorem zG3{u:T}{cs:Array Value}{o:Nat}(hu:u.single=i9)(h:RoC St u cs o):∃v,cs[o]? =i7 v∧v.oneCell'=i9∧RoC St u #[v] 0:=by
 cases u<;>simp[T.single]at hu<;>simp only[RoC]at h ⊢
 ·grind
 ·grind
 ·obtain⟨a,c,h1,h2⟩:=h;exact⟨_,h1,rfl,a,c,by simp,h2⟩
 ·obtain⟨b,o',cs',e,fr,h1,h2⟩:=h;exact⟨_,h1,rfl,b,o',cs',e,fr,by simp,h2⟩
mutual
theorem zQ0:(u:T)→ ∀(cs:Array Value)(o:Nat)(p:List Nat),(∀z,G.hd d (z++p)=jQ (zD9 u cs o z.reverse))→RoC St u cs o→R St G w d (roT u) p
 |.agg xs,cs,o,p,hd,h=>by
  simp only[roT,R,RoC]at h ⊢
  exact zQ1 xs cs o p 0 o (by simp) (fun z j x hx=>by
   have:=hd (z++[j]);simp only[Jc,K1,Jt,Jak,Ug,Qe,zD9]at this
   grind) h
 |.lit v,cs,o,p,hd,h=>by
  simp only[roT,R,RoC]at h ⊢
  have:=hd [];rw[Jt,zAC rfl]at this;rw[this];simp[Kh,h.1,zAg h.2]
 |.any,_,_,_,_,_=>by simp only[roT,R]
 |.sl k xs,cs,o,p,hd,h|.ptr t,cs,o,p,hd,h=>by obtain⟨v,h1,h2,h3⟩:=zG3 rfl h;have:=hd [];rw[Jt,zAC rfl]at this;simp only[roT,R];rw[this];simpa[Kh,h1,zAg h2]using h3
 |.ro _,_,_,_,_,h|.same _ _,_,_,_,_,h|.addr _ _,_,_,_,_,h|.sub _ _ _ _ _,_,_,_,_,h|.tup _,_,_,_,_,h=>by simp only[RoC]at h
theorem zQ1:(xs:List T)→ ∀(cs:Array Value)(o0:Nat)(p:List Nat)(j o:Nat),o0≤o→(∀z i x,xs[i]? =i7 x→G.hd d (z++((j+i)::p))=jQ (zD9 x cs (o+T.sizes (xs.take i)) z.reverse))→RoF St xs cs o→RF St G w d (roT.roTs xs) p j
 | [],_,_,_,_,_,_,_,_=>by simp only[roT.roTs,RF]
 |x::xs,cs,o0,p,j,o,ho,hd,h=>by
  simp only[roT.roTs,RF,RoF]at h ⊢
  refine⟨zQ0 x cs o (j::p) (fun z=>by simpa[T.sizes]using hd z 0 x (by simp)) h.1,zQ1 xs cs o0 p (j+1) (o+x.size) (by omega) (fun z i y hy=>?_) h.2⟩;have:=hd z (i+1) y (by grind)
  grind[T.sizes]
end
mutual
theorem zG4:(u:T)→ ∀(cs:Array Value)(o:Nat)(p:List Nat),(∀z,G.hd d (z++p)=jQ (zD9 u cs o z.reverse))→RoC St u cs o→ ∀(i:Nat)(v:Value),(vals G d (roT u) p)[i]? =i7 v→cs[o+i]? =i7 v
 |.agg xs,cs,o,p,hd,h,i,v,hv=>by
  simp only[roT,vals,RoC]at h hv;exact zIz xs cs p 0 o (fun z j x hx=>by
   have:=hd (z++[j]);simp only[Jc,K1,Jt,Jak,Ug,Qe,zD9]at this
   grind) h i v hv
 |.lit _,cs,o,p,hd,h,i,v,hv|.any,cs,o,p,hd,h,i,v,hv|.sl _ _,cs,o,p,hd,h,i,v,hv|.ptr _,cs,o,p,hd,h,i,v,hv=>by
  obtain⟨v',h1,h2,h3⟩:=zG3 rfl h;have:=hd [];rw[Jt,zAC rfl]at this;simp only[roT,vals]at hv;cases i with
  |zero=>
   simp at hv;rw[←hv,this];simp[Kh,h1,zAg h2]
  |succ i=>simp at hv
 |.ro _,_,_,_,_,h,_,_,_|.same _ _,_,_,_,_,h,_,_,_|.addr _ _,_,_,_,_,h,_,_,_|.sub _ _ _ _ _,_,_,_,_,h,_,_,_|.tup _,_,_,_,_,h,_,_,_=>by simp only[RoC]at h
theorem zIz:(xs:List T)→ ∀(cs:Array Value)(p:List Nat)(j o:Nat),(∀z i x,xs[i]? =i7 x→G.hd d (z++((j+i)::p))=jQ (zD9 x cs (o+T.sizes (xs.take i)) z.reverse))→RoF St xs cs o→ ∀(i:Nat)(v:Value),(yI G d (roT.roTs xs) p j)[i]? =i7 v→cs[o+i]? =i7 v
 | [],_,_,_,_,_,_,i,v,hv=>by grind[roT.roTs,yI]
 |x::xs,cs,p,j,o,hd,h,i,v,hv=>by
  simp only[roT.roTs,yI,RoF]at h hv;have hx:∀z,G.hd d (z++(j::p))=jQ (zD9 x cs o z.reverse):=fun z=>by simpa[T.sizes]using hd z 0 x (by simp)
  have gj:(vals G d (roT x) (j::p)).length=x.size:=by have hs:(roT x).size=x.size:=zEi x (fun ys e=>by subst e;simp only[RoC]at h;exact h.1);rw[vC (roT x) (j::p) (fun ys e=>by cases x<;>simp[roT]at e),hs]
  rw[Kk]at hv;split at hv
  ·exact zG4 x cs o (j::p) hx h.1 i v hv
  ·have:=zIz xs cs p (j+1) (o+x.size) (fun z i y hy=>by
    have:=hd z (i+1) y (by grind)
    grind[T.sizes]) h.2 _ v hv
   grind
end
mutual
theorem zNF:(u:T)→Top (roT u)
 |.agg xs=>by simp only[roT,Top];exact zKu xs
 |.lit _|.any|.sl _ _|.ptr _|.ro _|.same _ _|.addr _ _|.sub _ _ _ _ _|.tup _=>by simp[roT,Top]
theorem zKu:(xs:List T)→vM (roT.roTs xs)
 | []=>by simp only[roT.roTs,vM]
 |x::xs=>by simp only[roT.roTs,vM];exact⟨zNF x,zKu xs⟩
end
end
section
variable {P:Program}{Γ:Ctx}{E:Env}{o:Oper}{d:Nat}
theorem zNG{G:Gh}{w:World}(hm:Mem Γ G w){b:Nat}{cs:Array Value}{e:TypeId}{fr:Nat×Nat}(h:Γ.St b=i7 (.cells cs e fr))(i:Nat):w.cell? ⟨b,i,i8⟩=cs[i]?:=by simp[World.cell?,hm.st b _ h]
theorem zM3(x:Operand)(T':TypeId)(ds:TypeDesc)(ti:TypeInfo)(u:T)(ho:o.op=.load T' x)(gg:o.dst=i7 d)(hd:d<Γ.N)
  (hT:P.underlying T'=i7 ds)(hi:P.info? T'=i7 ti)(fN:zEW ds= !u.single)(gw:ti.size=u.size)
  (hx:opT E x=i7 (.ro (.ptr u))):wL P Γ o E (E.app [(d,i7 (roT u))] [(d,0)]):=by
 refine wL.value gg fun a w G g9=>?_
 have h1:=zM2 g9 hx;simp only[RoC]at h1;obtain⟨b,o',cs',e,fr,h2,h3,h4⟩:=h1;have cr:a.eval x=.pointer (i7 ⟨b,o',i8⟩):=by grind
 have ee:∀xs,u≠.tup xs:=by rintro xs rfl;simp only[RoC]at h4
 let f:List Nat→Value:=fun z=>jQ (zD9 u cs' o' z.reverse)
 have hz:∀z,(G.put d f).hd d (z++[])=jQ (zD9 u cs' o' z.reverse):=by grind[Gh.put_self]
 refine⟨mkV (G.put d f) d (roT u) [],w,?_,_,vK g9 rfl hd f (fun z=>zBc _) _ _ rfl (by grind[zQ0]) (zNF u)⟩;cases u with
 |agg xs=>
  have h5:∀j v,(yI (G.put d f) d (roT.roTs xs) [] 0)[j]? =i7 v→w.cell? ((⟨b,o',i8⟩:Addr).add j)=i7 v:=by intro j v hv;rw[uM,zNG g9.mem h3];exact zG4 (.agg xs) cs' o' [] hz h4 j v (by grind[roT,vals])
  have h6:=run_loadCells_list (P:=P) (w:=w) ⟨b,o',i8⟩ _ h5;rw[wQ,zEX]at h6;simp only[T.size]at gw;simp[T.single]at fN;simp[execOp,ho,cr,Instr.loadAt,tV,loadVar,jP hT,fN,sizeOf,typeInfo,hi,gw,h6,mkV,roT]
 |tup xs=>grind
 |_=>
  obtain⟨v,h5,h6,h7⟩:=zG3 rfl h4;have h8:w.cell? ⟨b,o',i8⟩=i7 v:=by rw[zNG g9.mem h3];exact h5
  simp[T.single]at fN;have h9:f []=v:=by show jQ (zD9 _ cs' o' _)=v;rw[zAC rfl];simp[Kh,h5,zAg h6]
  simp[execOp,ho,cr,Instr.loadAt,tV,loadVar,jP hT,fN,load,Sem.run,h8,mkV,roT,Gh.put_self,h9]
def zFF(E:Env)(x:Operand):Bool:=
 match opT E x with
 |some (.addr _ _)|some (.ro (.ptr _))=>i9
 |_=>match tF E x with
  |some (_,_,.ptr _)=>i9
  |some (_,_,.ro (.ptr _))=>i9
  |_=>ia
theorem zQ2{G:Gh}{a:Act}{w:World}(g9:Rep Γ E G a.tmps w){x:Operand}(h:zFF E x=i9):∃ad,a.eval x=.pointer (i7 ad):=by
 unfold zFF at h;split at h
 ·rename_i r q hx
  cases x with
  |tmp s=>
   obtain⟨h1,h2,_⟩:=g9.ent s _ hx;simp only[R]at h2;exact⟨_,by rw[wI h1,xN rfl,h2]⟩
  |const v=>grind[opT]
  |func f=>grind[opT]
  |global g=>grind[opT]
 ·rename_i u hx
  have:=zM2 g9 hx;simp only[RoC]at this
  grind
 ·split at h
  ·rename_i hl
   obtain⟨h1,h2⟩:=qZ g9 hl rfl;simp only[R]at h1
   grind
  ·rename_i hl
   obtain⟨h1,h2⟩:=qZ g9 hl rfl;simp only[R,RoC]at h1
   grind
  ·cases h
theorem zVW(x:Operand)(t:T)(ho:o.op=.nilCheck x)(gg:o.dst=i7 d)(hd:d<Γ.N)(hx:opT E x=i7 t)(hp:zFF E x=i9)(ht:∀xs,t≠.tup xs)
  (gf:∀s,x=.tmp s→s≠d)(gB:T.okB [(d,0)] (tA x t)=i9):wL P Γ o E (E.app [(d,i7 (tA x t))] [(d,0)]):=by
 refine wL.value gg fun a w G g9=>?_
 obtain⟨f,hf,h1,h2⟩:=opd g9 hx ht;obtain⟨h3,h4⟩:=h1 d gf gB;obtain⟨ad,h5⟩:=zQ2 g9 hp;refine⟨a.eval x,w,?_,_,vK g9 rfl hd f hf _ _ h3 h4 h2⟩;simp[execOp,ho,h5]
theorem zKv{G:Gh}{s:Nat}:(xs:List T)→ ∀(p:List Nat)(j i:Nat)(x:T),xs[i]? =i7 x→(jH G s xs p j)[i]? =i7 (sJ G s x ((j+i)::p))
 | [],_,_,_,_,h=>by simp at h
 |y::ys,p,j,i,x,h=>by
  cases i with
  |zero=>grind[jH]
  |succ i=>
   have:=zKv (G:=G) (s:=s) ys p (j+1) i x (by grind)
   grind[jH]
theorem zM4(s i:Nat)(ts:List T)(t:T)(ho:o.op=.extract (.tmp s) i)(gg:o.dst=i7 d)(hd:d<Γ.N)(hs:E s=i7 (.tup ts))(hi:ts[i]? =i7 t)(ht:∀xs,t≠.tup xs)
  (gf:s≠d)(gB:T.okB [(d,0)] (cpT s t [i])=i9):wL P Γ o E (E.app [(d,i7 (cpT s t [i]))] [(d,0)]):=by
 refine wL.value gg fun a w G g9=>?_
 obtain⟨h1,h2,_⟩:=g9.ent s _ hs;simp only[R]at h2;have h3:=zAM ts [] 0 i t h2 hi;simp only[Jb]at h3;have h4:=zKv (G:=G) (s:=s) ts [] 0 i t hi;simp only[Jb]at h4;have hk:=G.put_keep (w:=w) (w':=w) rfl d (fun z=>G.hd s (z++[i]));have hz:∀z,(G.put d (fun z=>G.hd s (z++[i]))).hd d (z++[])=G.hd s (z++[i]):=by grind[Gh.put_self]
 refine⟨sJ G s t [i],w,?_,_,vK g9 rfl hd (fun z=>G.hd s (z++[i])) (fun z=>g9.mem.one _ _) _ _ (by grind[zAu])
  (zD7 (fun p=>G.put_other _ p gf) t [i] [] hz ht (hk.keepR (by grind[zAf,qN])) h3) (qN s t [i])⟩
 simp[execOp,ho,wI h1,mkV,Instr.extract,h4]
def zB2(E:Env)(x:Option Operand)(dflt n:Nat):Prop:=
 match x with
 |none=>n=dflt
 |some y=> ∃kd,opT E y=i7 (.lit (.int kd n))
theorem zG5{St:Stb}:(xs:List T)→ ∀(cs:Array Value)(o k l:Nat),RoL St xs cs o k→RoL St (xs.drop l) cs (o+l*k) k
 | [],_,_,_,_,_=>by simp[RoL]
 |x::xs,cs,o,k,l,h=>by
  cases l with
  |zero=>grind
  |succ l=>
   simp only[RoL]at h;have:=zG5 xs cs (o+k) k l h.2
   grind
theorem zG6{St:Stb}:(xs:List T)→ ∀(cs:Array Value)(o k l:Nat),RoL St xs cs o k→RoL St (xs.take l) cs o k
 | [],_,_,_,_,_=>by simp[RoL]
 |x::xs,cs,o,k,l,h=>by
  cases l with
  |zero=>simp[RoL]
  |succ l=>simp only[RoL,Ld]at h ⊢;exact⟨h.1,zG6 xs cs _ k l h.2⟩
theorem zCN{P:Program}{G:Gh}{a:Act}{w:World}(g9:Rep Γ E G a.tmps w){x:Operand}{kd:IntKind}{n y:Nat}{c:BoundsCode}(hx:opT E x=i7 (.lit (.int kd n)))(h:n≤y):
  (Instr.sliceBound (a.eval x) y c).run P w=.ok n w:=by
 rw[(wN g9 hx).1];have:(n:Int)≤(y:Int):=by omega
 simp[Instr.sliceBound,asIntOf,this]
theorem zG7{P:Program}{G:Gh}{a:Act}{w:World}(g9:Rep Γ E G a.tmps w){lo hi:Option Operand}{l h n c:Nat}(ex:zB2 E lo 0 l)(ft:zB2 E hi n h)(h1:l≤h)(h2:h≤c):
  (Instr.sliceBounds i9 n c (lo.map a.eval) (hi.map a.eval) i8).run P w=.ok (l,h,c) w:=by
 cases lo with
 |none=>
  cases hi with
  |none=>simp only[zB2]at ex ft;subst ex;subst ft;rfl
  |some y=>simp only[zB2]at ex ft;obtain⟨kd,hy⟩:=ft;subst ex;simp[Instr.sliceBounds,zCN g9 hy h2]
 |some x=>
  obtain⟨kd,hx⟩:=ex;cases hi with
  |none=>simp only[zB2]at ft;subst ft;simp[Instr.sliceBounds,zCN g9 hx h1]
  |some y=>obtain⟨kd',hy⟩:=ft;simp[Instr.sliceBounds,zCN g9 hy h2,zCN g9 hx h1]
theorem zKw(x:Operand)(lo hi:Option Operand)(t e:TypeId)(ti:TypeInfo)(r:Nat)(q:List Nat)(k:Nat)(xs:List T)(l h:Nat)(ho:o.op=.slice t x lo hi i8)(gg:o.dst=i7 d)(hd:d<Γ.N)
  (ht:P.underlying t=i7 (.slice e))(he:P.info? e=i7 ti)(hk:ti.size=k)(hx:tF E x=i7 (r,q,.ro (.sl k xs)))(ex:zB2 E lo 0 l)(ft:zB2 E hi xs.length h)(h1:l≤h)(h2:h≤xs.length):
  wL P Γ o E (E.app [(d,i7 (.ro (.sl k ((xs.drop l).take (h-l)))))] [(d,0)]):=by
 refine wL.value gg fun a w G g9=>?_
 obtain⟨g1,g2⟩:=qZ g9 hx rfl;obtain⟨a',c,g4,g5,g6,g7⟩:=zCM g1;have g8:=zG7 (P:=P) g9 ex ft h1 (H8 h2 g5);have gj:((xs.drop l).take (h-l)).length=h-l:=by simp;omega
 refine⟨.slice (if c=l then a' else a'.map (·.add (l*k))) (h-l) (c-l),w,?_,_,vK g9 rfl hd (fun _=>.slice (if c=l then a' else a'.map (·.add (l*k))) (h-l) (c-l)) (fun _=>rfl) _ _ (by simp[mkV,Gh.put]) ?_ (by simp[Top])⟩
 ·simp only[execOp,ho,Jaw]
  simp[Instr.sliceAt,Instr.slice,run_underlying ht,g2,g4,g8,sizeOf,typeInfo,he,hk]
 ·simp only[R,Gh.put_self,RoC]
  refine⟨_,_,by rw[gj];rfl,by omega,by omega,?_⟩;intro gf;have eA:xs≠[]:=by grind
  obtain⟨b,o',cs',e',fr,rfl,h3,h4⟩:=g7 eA;have gE:c≠l:=by grind
  grind[uM,zG6,zG5]
theorem zJo(x:Operand)(lo hi:Option Operand)(t e:TypeId)(ti:TypeInfo)(r:Nat)(q:List Nat)(k:Nat)(xs:List T)(l h:Nat)(ho:o.op=.slice t x lo hi i8)(gg:o.dst=i7 d)(hd:d<Γ.N)
  (ht:P.underlying t=i7 (.slice e))(he:P.info? e=i7 ti)(hk:ti.size=k)(hx:tF E x=i7 (r,q,.sl k xs))(ex:zB2 E lo 0 l)(ft:zB2 E hi xs.length h)(h1:l≤h)(h2:h≤xs.length)(gy:r≠d):
  wL P Γ o E (E.app [(d,i7 (.sub r q k l h))] [(d,0)]):=by
 refine wL.value gg fun a w G g9=>?_
 obtain⟨g1,g2⟩:=qZ g9 hx rfl;obtain⟨a',c,g4⟩:=zJn g1;have g5:xs.length≤c:=by
  simp only[R]at g1
  grind
 have g8:=zG7 (P:=P) g9 ex ft h1 (H8 h2 g5);refine⟨zAZ (G.hd r q) k l h,w,?_,_,vK g9 rfl hd (fun _=>zAZ (G.hd r q) k l h) (fun _=>by rw[g4];rfl) _ _ (by simp[mkV,Gh.put]) ?_ (by simp[Top])⟩
 ·simp only[execOp,ho,Jaw]
  simp[Instr.sliceAt,Instr.slice,run_underlying ht,g2,g4,g8,sizeOf,typeInfo,he,hk,zAZ]
 ·simp only[R,Gh.put_self]
  grind[Gh.put_other]
end
end Go.Ab

namespace Go.Ab
open Go
def T.inT:T→List Nat→Bool
 |_,[]=>i9
 |.agg xs,i::f=>match xs[i]? with
  |some x=>x.inT f
  |none=>ia
 |.any,_::_|.lit _,_::_|.ro _,_::_|.same _ _,_::_|.addr _ _,_::_|.sub _ _ _ _ _,_::_|.sl _ _,_::_|.ptr _,_::_|.tup _,_::_=>ia
termination_by structural _ f=>f
def T.offT:T→List Nat→Nat
 |_,[]=>0
 |.agg xs,i::f=>match xs[i]? with
  |some x=>T.sizes (xs.take i)+x.offT f
  |none=>0
 |.any,_::_|.lit _,_::_|.ro _,_::_|.same _ _,_::_|.addr _ _,_::_|.sub _ _ _ _ _,_::_|.sl _ _,_::_|.ptr _,_::_|.tup _,_::_=>0
termination_by structural _ f=>f
theorem zG8{t:T}(h:t.single=i9){f:List Nat}(hf:f≠[]):t.inT f=ia:=by
 cases f with
 |nil=>grind
 |cons i f=>cases t<;>simp[T.single]at h<;>rfl
mutual
def zQ3:T→List Nat→Nat→Option (List Nat)
 |.agg xs,p,o=>zCe xs p 0 o
 |.any,p,o|.lit _,p,o|.ro _,p,o|.same _ _,p,o|.addr _ _,p,o|.sub _ _ _ _ _,p,o|.sl _ _,p,o|.ptr _,p,o|.tup _,p,o=>if o=0 then i7 p else i8
def zCe:List T→List Nat→Nat→Nat→Option (List Nat)
 | [],_,_,_=>i8
 |x::xs,p,j,o=>if o<x.size then zQ3 x (j::p) o else zCe xs p (j+1) (o-x.size)
end
mutual
def T.okTup:T→Bool
 |.tup _=>ia
 |.agg xs=>yR xs
 |.any|.lit _|.ro _|.same _ _|.addr _ _|.sub _ _ _ _ _|.sl _ _|.ptr _=>i9
def yR:List T→Bool
 | []=>i9
 |x::xs=>x.okTup&&yR xs
end
theorem zDA:(xs:List T)→ ∀(p:List Nat)(j o:Nat),T.sizes xs≤o→zCe xs p j o=i8
 | [],_,_,_,_=>by rfl
 |x::xs,p,j,o,h=>by simp only[T.sizes]at h;simp only[zCe];rw[if_neg (by omega)];exact zDA xs p (j+1) _ (by omega)
section
variable {G:Gh}{w:World}{d:Nat}
mutual
theorem zVX:(x:T)→ ∀(p:List Nat)(B o:Nat),(∀xs,x≠.tup xs)→x.okTup=i9→
  (∀f,x.inT f=i9→G.ad d (f.reverse++p)=⟨B,o+x.offT f,i8⟩)→(∀j p',j<x.size→zQ3 x p j=i7 p'→G.lb B (o+j)=i7 (ia,d,p'))→
  (∀j v,(vals G d x p)[j]? =i7 v→yO w B (o+j)=i7 v)→Loc G w d x p B o
 |.agg xs,p,B,o,_,hn,ha,hl,hc=>by
  simp only[Loc];refine⟨by simpa[T.offT]using ha [] rfl,zGj xs p 0 B o (by grind[T.okTup]) (fun i x hx f hf=>?_) (fun j p' hj hp=>?_) (by grind[vals])⟩
  ·have:=ha (i::f) (by grind[T.inT])
   grind[T.offT]
  grind[T.size,zQ3]
 |.any,p,B,o,_,_,ha,hl,hc|.lit _,p,B,o,_,_,ha,hl,hc|.ro _,p,B,o,_,_,ha,hl,hc|.same _ _,p,B,o,_,_,ha,hl,hc|.addr _ _,p,B,o,_,_,ha,hl,hc|.sub _ _ _ _ _,p,B,o,_,_,ha,hl,hc|.sl _ _,p,B,o,_,_,ha,hl,hc|.ptr _,p,B,o,_,_,ha,hl,hc=>by simp only[Loc];exact⟨by simpa[T.offT]using ha [] rfl,by simpa using hl 0 p (by simp[T.size]) (by rfl),by simpa using hc 0 (G.hd d p) (by simp[vals])⟩
 |.tup xs,_,_,_,h,_,_,_,_=>absurd rfl (h xs)
theorem zGj:(xs:List T)→ ∀(p:List Nat)(j B o:Nat),yR xs=i9→
  (∀i x,xs[i]? =i7 x→ ∀f,x.inT f=i9→G.ad d (f.reverse++((j+i)::p))=⟨B,o+(T.sizes (xs.take i)+x.offT f),i8⟩)→
  (∀i p',i<T.sizes xs→zCe xs p j i=i7 p'→G.lb B (o+i)=i7 (ia,d,p'))→
  (∀i v,(yI G d xs p j)[i]? =i7 v→yO w B (o+i)=i7 v)→vE G w d xs p j B o
 | [],_,_,_,_,_,_,_,_=>by simp only[vE]
 |x::xs,p,j,B,o,hn,ha,hl,hc=>by
  simp only[yR,J3]at hn;have ee:∀ys,x≠.tup ys:=by rintro ys rfl;grind[T.okTup]
  simp only[vE];refine⟨zVX x (j::p) B o ee hn.1 (fun f hf=>by simpa[T.sizes]using ha 0 x (by simp) f hf) (fun i p' hi hp=>hl i p' (by grind[T.sizes]) (by simp only[zCe,hi,if_true];exact hp)) (fun i v hv=>hc i v ?_),
   zGj xs p (j+1) B (o+x.size) hn.2 (fun i y hy f hf=>?_) (fun i p' hi hp=>?_) (fun i v hv=>?_)⟩
  ·grind[yI]
  ·have:=ha (i+1) y (by grind) f hf
   grind[T.sizes]
  ·have:=hl (x.size+i) p' (by grind[T.sizes]) (by simp only[zCe];grind)
   grind
  ·have:=hc (x.size+i) v (by
    grind[yI,vC])
   grind
end
end
structure MvC (G:Gh) (w:World) (G':Gh) (w':World) (s:Nat) (p:List Nat) (s':Nat) (p':List Nat) (t:T):Prop where
 hd:∀z,G'.hd s' (z++p')=G.hd s (z++p)
 ad:∀z,t.inT z.reverse=ia→G'.ad s' (z++p')=G.ad s (z++p)
 lb:∀b o f z,(f=i9∨t.inT z.reverse=ia)→G.lb b o=i7 (f,s,z++p)→G'.lb b o=i7 (f,s',z++p')∧yO w' b o=yO w b o
 ow:∀b z,G.ow b=i7 (s,z++p)→G'.ow b=i7 (s',z++p')
 blk:Blk w w'
section
variable {St:Stb}{G:Gh}{w:World}{G':Gh}{w':World}{s:Nat}{s':Nat}
theorem MvC.moves{p p':List Nat}{t:T}(h:MvC G w G' w' s p s' p' t)(ht:t.single=i9):zIw G w G' w' s p s' p' where
 hd:=h.hd
 ad z hz:=h.ad z (zG8 ht (by simp_all))
 lb b o f z hz _ hl:=h.lb b o f z (.inr (zG8 ht (by simp_all))) hl
 ow b z _ hl:=h.ow b z hl
 blk:=h.blk
 sp b o _ hl:=by simpa using h.lb b o i9 [] (.inl rfl) (by grind)
 ow0 b hl:=by simpa using h.ow b [] (by grind)
theorem MvC.field{p p':List Nat}{xs:List T}(h:MvC G w G' w' s p s' p' (.agg xs)){j:Nat}{x:T}(hx:xs[j]? =i7 x):MvC G w G' w' s (j::p) s' (j::p') x where
 hd z:=by have:=h.hd (z++[j]);grind
 ad z hz:=by
  have:=h.ad (z++[j]) (by grind[T.inT])
  grind
 lb b o f z hf hl:=by
  have:=h.lb b o f (z++[j]) (by grind[T.inT]) (by grind)
  grind
 ow b z hl:=by
  have:=h.ow b (z++[j]) (by grind)
  grind
 blk:=h.blk
mutual
theorem zKx:(t:T)→ ∀(p p':List Nat),t.okTup=i9→MvC G w G' w' s p s' p' t→xC (kX G G') t→R St G w s t p→R St G' w' s' t p'
 |.agg xs,p,p',hn,h,hk,hr=>by
  simp only[R,xC,T.okTup]at hr hk hn ⊢
  exact zQ4 xs p p' 0 hn (fun j x hx=>by rw[Jb];exact h.field hx) hk hr
 |.any,p,p',_,h,hk,hr|.lit _,p,p',_,h,hk,hr|.ro _,p,p',_,h,hk,hr|.same _ _,p,p',_,h,hk,hr|.addr _ _,p,p',_,h,hk,hr|.sub _ _ _ _ _,p,p',_,h,hk,hr|.sl _ _,p,p',_,h,hk,hr|.ptr _,p,p',_,h,hk,hr=>
  zAe (h.moves rfl) _ hk hr
 |.tup _,_,_,hn,_,_,_=>by grind[T.okTup]
theorem zQ4:(xs:List T)→ ∀(p p':List Nat)(j:Nat),yR xs=i9→(∀i x,xs[i]? =i7 x→MvC G w G' w' s ((j+i)::p) s' ((j+i)::p') x)→xX (kX G G') xs→RF St G w s xs p j→RF St G' w' s' xs p' j
 | [],_,_,_,_,_,_,_=>by simp only[RF]
 |x::xs,p,p',j,hn,h,hk,hr=>by
  simp only[RF,xX,yR,J3]at hr hk hn ⊢
  exact⟨zKx x (j::p) (j::p') hn.1 (by simpa using h 0 x (by simp)) hk.1 hr.1,zQ4 xs p p' (j+1) hn.2 (fun i y hy=>by
   have:=h (i+1) y (by grind)
   grind) hk.2 hr.2⟩
end
end
theorem zNH{St:Stb}{G:Gh}{w:World}{s:Nat}:(xs:List T)→ ∀(p:List Nat)(j:Nat),(∀i x,xs[i]? =i7 x→R St G w s x ((j+i)::p))→RF St G w s xs p j
 | [],_,_,_=>by simp only[RF]
 |x::xs,p,j,h=>by
  simp only[RF];exact⟨by simpa using h 0 x (by simp),zNH xs p (j+1) (fun i y hy=>by
   have:=h (i+1) y (by grind)
   grind)⟩
theorem zQ5{St:Stb}{G:Gh}{w:World}{s:Nat}{k:Nat}:(xs:List T)→ ∀(p:List Nat)(j b o:Nat),(∀x∈xs,x.size=k)→vE G w s xs p j b o→RF St G w s xs p j→RL St G w s xs p j b o k
 | [],_,_,_,_,_,_,_=>by simp only[RL]
 |x::xs,p,j,b,o,hk,hl,hr=>by
  simp only[RL,vE,RF]at hl hr ⊢
  have h1:=hk x (by simp);exact⟨⟨hl.1,h1⟩,hr.1,zQ5 xs p (j+1) b (o+k) (by grind) (by grind) hr.2⟩
theorem wS{k:Nat}:(xs:List T)→(∀x∈xs,x.size=k)→T.sizes xs=xs.length*k
 | [],_=>by simp[T.sizes]
 |x::xs,h=>by simp[T.sizes,wS xs (fun y hy=>h y (by simp[hy])),h x (by simp),K4];omega
def Gh.nb(G:Gh)(d B:Nat)(xs:List T)(src:Nat→Option (Nat×List Nat))(φ:Nat→List Nat→Option (List Nat))(f:Nat→List Nat→Value)(gY:Value):Gh where
 hd s z:=if s=d then(match z.getLast? with
  |some i=>f i z.dropLast
  |none=>gY)else G.hd s z
 ad s z:=if s=d then(if(T.agg xs).inT z.reverse then⟨B,(T.agg xs).offT z.reverse,i8⟩else match z.getLast? with
  |some i=>(match src i with
   |some (x,q)=>G.ad x (z.dropLast++q)
   |none=>default)
  |none=>default)else G.ad s z
 lb b o:=if b=B then i7 (match zCe xs [] 0 o with
  |some p=>(ia,d,p)
  |none=>(i9,d,[]))else match G.lb b o with
  |some (fl,s,z)=>(match φ s z with
   |some z'=>i7 (fl,d,z')
   |none=>i7 (fl,s,z))
  |none=>i8
 ow b:=if b=B then i7 (d,[])else match G.ow b with
  |some (s,z)=>(match φ s z with
   |some z'=>i7 (d,z')
   |none=>i7 (s,z))
  |none=>i8
theorem zCO{Γ:Ctx}{G:Gh}{w w':World}(hm:Mem Γ G w){cells:Array Value}{e:TypeId}(hw:w'.heap=w.heap.push (.cells cells e))(d:Nat)(xs:List T)
  (src:Nat→Option (Nat×List Nat))(φ:Nat→List Nat→Option (List Nat))(f:Nat→List Nat→Value)(gY:Value)(chg:Chg)
  (gB:yR xs=i9)(hf:∀(i:Nat)(z:List Nat),(f i z).oneCell'=i9)(hh:gY.oneCell'=i9)
  (hφ:∀(i:Nat) u x q(z:List Nat),xs[i]? =i7 u→src i=i7 (x,q)→φ x (z++q)=i7 (z++[i]))
  (dp:∀(i:Nat) u x q,xs[i]? =i7 u→src i=i7 (x,q)→(∀z,f i z=G.hd x (z++q))∧R Γ.St G w x u q∧yD u∧x≠d)
  (ac:∀(i:Nat) u,xs[i]? =i7 u→src i=i8→ ∀(G2:Gh)(w2:World),(∀z,G2.hd d (z++[i])=f i z)→R Γ.St G2 w2 d u [i])
  (cm:∀(G2:Gh),(∀i z,G2.hd d (z++[i])=f i z)→ ∀(o:Nat)(v:Value),(yI G2 d xs [] 0)[o]? =i7 v→cells[o]? =i7 v)
  (aF:∀s p,(∀n,(s,n)∉(d,0)::chg)→φ s p=i8)(ho:w'.os=w.os:=by rfl)(hq:w'.output=w.output:=by rfl):
  qR ((d,0)::chg) G w (G.nb d w.heap.size xs src φ f gY) w'∧Mem Γ (G.nb d w.heap.size xs src φ f gY) w'∧
  vE (G.nb d w.heap.size xs src φ f gY) w' d xs [] 0 w.heap.size 0∧RF Γ.St (G.nb d w.heap.size xs src φ f gY) w' d xs [] 0∧
  w'.heap[w.heap.size]? =i7 (.cells cells e):=by
 have eI:w'.heap[w.heap.size]? =i7 (.cells cells e):=by grind
 have gH:∀b,b<w.heap.size→w'.heap[b]? =w.heap[b]?:=fun b hb=>by rw[hw,Array.getElem?_push];grind
 have gw:w'.heap.size=w.heap.size+1:=by grind
 have f9:∀b o,b<w.heap.size→yO w' b o=yO w b o:=fun b o hb=>by simp[yO,World.cell?,gH b hb]
 have gJ:Blk w w':=fun b cs e' h=>⟨cs,by rw[gH b (by grind)];exact h,rfl⟩
 have gz:=hm.one
 generalize gm:G.nb d w.heap.size xs src φ f gY=G'
 have ghd:∀i z,G'.hd d (z++[i])=f i z:=fun i z=>by rw[←gm];simp[Gh.nb]
 have gad:∀g,(T.agg xs).inT g=i9→G'.ad d g.reverse=⟨w.heap.size,(T.agg xs).offT g,i8⟩:=fun g hg=>by rw[←gm];simp[Gh.nb,hg]
 have gadm:∀i x q z,src i=i7 (x,q)→(T.agg xs).inT (i::z.reverse)=ia→G'.ad d (z++[i])=G.ad x (z++q):=fun i x q z hs gU=>by rw[←gm];simp[Gh.nb,gU,hs]
 have glb:∀o p,zCe xs [] 0 o=i7 p→G'.lb w.heap.size o=i7 (ia,d,p):=fun o p h=>by rw[←gm];simp[Gh.nb,h]
 have glbm:∀b o fl x z z',G.lb b o=i7 (fl,x,z)→φ x z=i7 z'→G'.lb b o=i7 (fl,d,z'):=fun b o fl x z z' h1 h2=>by have:=(hm.lb b o _ h1).1;rw[←gm];simp[Gh.nb,h1,h2,show b≠w.heap.size from by omega]
 have gowm:∀b x z z',G.ow b=i7 (x,z)→φ x z=i7 z'→G'.ow b=i7 (d,z'):=fun b x z z' h1 h2=>by have:=(hm.ow b _ h1).1;rw[←gm];simp[Gh.nb,h1,h2,show b≠w.heap.size from by omega]
 have gf:∀s p,Off ((d,0)::chg) s p→s≠d:=fun s p h e=>absurd (h 0 (by simp[e])) (by simp)
 have gv:qR ((d,0)::chg) G w G' w':=by
  refine⟨fun s p h=>?_,fun s p h=>?_,fun b o fl s p _ hl h=>⟨?_,f9 b o (hm.lb b o _ hl).1⟩,fun b s p hl h=>?_,gJ⟩
  ·rw[←gm];simp[Gh.nb,gf s p h]
  ·rw[←gm];simp[Gh.nb,gf s p h]
  ·have:=(hm.lb b o _ hl).1
   rw[←gm];simp[Gh.nb,hl,aF s p h,show b≠w.heap.size from by omega]
  ·have:=(hm.ow b _ hl).1
   rw[←gm];simp[Gh.nb,hl,aF s p h,show b≠w.heap.size from by omega]
 refine⟨gv,?_,?_,?_,eI⟩
 ·
  have hB:zCb Γ w' w.heap.size:=⟨by omega,.inl hm.sz,by
   cases gA:Γ.St w.heap.size with
   |none=>rfl
   |some x=>have:=hm.st _ x gA;simp at this⟩
  have fA:∀b,zCb Γ w b→zCb Γ w' b:=fun b h=>⟨by have:=h.1;omega,h.2⟩
  refine⟨fun s p=>?_,fun b o l hl=>?_,fun b l hl=>?_,fun b x hx=>?_,fun b h1 h2=>?_,by have:=hm.sz;omega,hm.bk.trans gJ ho hq⟩
  ·rw[←gm]
   simp only[Gh.nb];split
   ·split
    ·exact hf _ _
    ·exact hh
   ·exact gz s p
  ·rw[←gm]at hl
   simp only[Gh.nb]at hl;split at hl
   ·grind
   ·split at hl
    ·rename_i hg;exact fA b (hm.lb b o _ hg)
    ·cases hl
  ·rw[←gm]at hl
   simp only[Gh.nb]at hl;split at hl
   ·grind
   ·split at hl
    ·rename_i hg;exact fA b (hm.ow b _ hg)
    ·cases hl
  ·have:=hm.st b x hx
   rw[gH b (Ky.1 this).1];exact this
  ·rw[gH b (Jax h1 hm.sz)]
   exact hm.fr b h1 h2
 ·
  refine zGj xs [] 0 w.heap.size 0 gB (fun i x hx g hg=>?_) (fun i p' _ hp=>by simpa using glb i p' hp) (fun i v hv=>?_)
  ·have:=gad (i::g) (by simp only[T.inT,hx];exact hg)
   simpa[T.offT,hx]using this
  ·have:=cm G' ghd i v hv
   rw[Jb];simp[yO,World.cell?,eI,this]
 ·
  refine zNH xs [] 0 (fun i u hu=>?_);rw[Jb];cases hs:src i with
  |none=>exact ac i u hu hs G' w' (fun z=>ghd i z)
  |some xq=>
   obtain⟨x,q⟩:=xq;obtain⟨h1,h2,h3,h4⟩:=dp i u x q hu hs;have gU:∀g,(T.agg xs).inT (i::g)=u.inT g:=fun g=>by simp only[T.inT,hu]
   refine zKx u q [i] (okTups_get xs gB i u hu) ⟨fun z=>by rw[ghd,h1],fun z hz=>gadm i x q z hs (by rw[gU];exact hz),fun b o fl z hz hl=>⟨glbm b o fl x _ _ hl (hφ i u x q z hu hs),f9 b o (hm.lb b o _ hl).1⟩,
    fun b z hl=>gowm b x _ _ hl (hφ i u x q z hu hs),gJ⟩ (xC.mono (by simp) u h3) h2
where okTups_get:(xs:List T)→yR xs=i9→ ∀(i:Nat)(x:T),xs[i]? =i7 x→x.okTup=i9
 | [],_,_,_,h=>by simp at h
 |y::ys,hk,i,x,h=>by
  simp only[yR,J3]at hk;cases i with
  |zero=>grind
  |succ i=>exact okTups_get ys hk.2 i x (by grind)
end Go.Ab

namespace Go.Ab
open Go
inductive yS where
 |slot (s:Nat) (t:T)
 |zero (u:T)
def yS.tree:yS→T
 |.slot _ t=>t
 |.zero u=>u
def sK:T→Bool
 |.lit _|.ro _=>ia
 |_=>i9
mutual
def T.zOk:T→Bool
 |.lit v=>v.oneCell'
 |.sl _ xs=>xs.isEmpty
 |.agg xs=>zAh xs
 |.any|.ro _|.same _ _|.addr _ _|.sub _ _ _ _ _|.ptr _|.tup _=>ia
def zAh:List T→Bool
 | []=>i9
 |x::xs=>x.zOk&&zAh xs
end
def zhd:T→List Nat→Value
 |.agg xs,i::f=>match xs[i]? with
  |some x=>zhd x f
  |none=>.bool ia
 |.lit v,_=>v
 |.sl _ _,_=>.slice i8 0 0
 |.agg _,[] |.any,_|.ro _,_|.same _ _,_|.addr _ _,_|.sub _ _ _ _ _,_|.ptr _,_|.tup _,_=>.bool ia
termination_by structural _ f=>f
mutual
def tR:T→List Value
 |.lit v=>[v]
 |.sl _ _=>[.slice i8 0 0]
 |.agg xs=>qC xs
 |.any|.ro _|.same _ _|.addr _ _|.sub _ _ _ _ _|.ptr _|.tup _=>[]
def qC:List T→List Value
 | []=>[]
 |x::xs=>tR x++qC xs
end
section
variable {St:Stb}{G:Gh}{w:World}{d:Nat}
mutual
theorem zJp:(u:T)→ ∀(p:List Nat),u.zOk=i9→(∀z,G.hd d (z++p)=jQ (zhd u z.reverse))→R St G w d u p
 |.lit v,p,h,hd=>by
  simp only[T.zOk,R]at h ⊢
  have:=hd [];rw[Jt]at this;rw[this];exact zAg h
 |.sl k xs,p,h,hd=>by simp only[T.zOk,Jbb]at h;subst h;have:=hd [];rw[Jt]at this;simp only[R];exact .inl ⟨trivial,i8,by rw[this];rfl⟩
 |.agg xs,p,h,hd=>by
  simp only[T.zOk,R]at h ⊢
  exact zNI xs p 0 h (fun i x hx z=>by
   rw[Jb];have:=hd (z++[i])
   grind[zhd])
 |.any,_,h,_|.ro _,_,h,_|.same _ _,_,h,_|.addr _ _,_,h,_|.sub _ _ _ _ _,_,h,_|.ptr _,_,h,_|.tup _,_,h,_=>by grind[T.zOk]
theorem zNI:(xs:List T)→ ∀(p:List Nat)(j:Nat),zAh xs=i9→(∀i x,xs[i]? =i7 x→ ∀z,G.hd d (z++((j+i)::p))=jQ (zhd x z.reverse))→RF St G w d xs p j
 | [],_,_,_,_=>by simp only[RF]
 |x::xs,p,j,h,hd=>by
  simp only[zAh,J3,RF]at h ⊢
  exact⟨zJp x (j::p) h.1 (by simpa using hd 0 x (by simp)),zNI xs p (j+1) h.2 (fun i y hy z=>by
   have:=hd (i+1) y (by grind) z
   grind)⟩
end
end
section
variable {G:Gh}{d:Nat}
mutual
theorem zEY:(u:T)→ ∀(p:List Nat),u.zOk=i9→(∀z,G.hd d (z++p)=jQ (zhd u z.reverse))→vals G d u p=tR u
 |.lit v,p,h,hd=>by
  simp only[T.zOk,vals,tR]at h ⊢
  have:=hd []
  grind[zhd,zAg]
 |.sl k xs,p,h,hd=>by
  have:=hd []
  grind[vals,tR,zhd,jQ,Value.oneCell']
 |.agg xs,p,h,hd=>by
  simp only[T.zOk,vals,tR]at h ⊢
  exact zDB xs p 0 h (fun i x hx z=>by
   rw[Jb];have:=hd (z++[i])
   grind[zhd])
 |.any,_,h,_|.ro _,_,h,_|.same _ _,_,h,_|.addr _ _,_,h,_|.sub _ _ _ _ _,_,h,_|.ptr _,_,h,_|.tup _,_,h,_=>by grind[T.zOk]
theorem zDB:(xs:List T)→ ∀(p:List Nat)(j:Nat),zAh xs=i9→(∀i x,xs[i]? =i7 x→ ∀z,G.hd d (z++((j+i)::p))=jQ (zhd x z.reverse))→yI G d xs p j=qC xs
 | [],_,_,_,_=>by rfl
 |x::xs,p,j,h,hd=>by
  simp only[zAh,J3,yI,qC]at h ⊢
  rw[zEY x (j::p) h.1 (by simpa using hd 0 x (by simp)),zDB xs p (j+1) h.2 (fun i y hy z=>by
   have:=hd (i+1) y (by grind) z
   grind)]
end
end
mutual
theorem zBd:(u:T)→u.zOk=i9→yD u∧u.okTup=i9
 |.lit _,_=>by simp[yD,xC,T.okTup]
 |.sl _ xs,h=>by simp only[T.zOk,Jbb]at h;subst h;simp[yD,xC,xX,T.okTup]
 |.agg xs,h=>by simp only[T.zOk]at h;simpa only[yD,xC,T.okTup]using zB3 xs h
 |.any,h|.ro _,h|.same _ _,h|.addr _ _,h|.sub _ _ _ _ _,h|.ptr _,h|.tup _,h=>by grind[T.zOk]
theorem zB3:(xs:List T)→zAh xs=i9→xQ xs∧yR xs=i9
 | [],_=>by simp[xQ,xX,yR]
 |x::xs,h=>by simp only[zAh,J3]at h;simp only[xQ,xX,yR,J3];exact⟨⟨(zBd x h.1).1,(zB3 xs h.2).1⟩,(zBd x h.1).2,(zB3 xs h.2).2⟩
end
mutual
theorem vA:(u:T)→u.zOk=i9→(tR u).length=u.size
 |.lit _,_|.sl _ _,_=>by rfl
 |.agg xs,h=>by simp only[T.zOk]at h;simp only[tR,T.size];exact zAO xs h
 |.any,h|.ro _,h|.same _ _,h|.addr _ _,h|.sub _ _ _ _ _,h|.ptr _,h|.tup _,h=>by grind[T.zOk]
theorem zAO:(xs:List T)→zAh xs=i9→(qC xs).length=T.sizes xs
 | [],_=>by rfl
 |x::xs,h=>by simp only[zAh,J3]at h;simp only[qC,J6,T.sizes,vA x h.1,zAO xs h.2]
end
def zG9(ps:List yS)(i:Nat):Option (Nat×List Nat):=
 match ps[i]? with
 |some (.slot s t)=>if sK t then i7 (s,[])else i8
 |_=>i8
def zId:List yS→Nat→Nat→Option Nat
 | [],_,_=>i8
 |.slot x t::r,i,s=>if sK t&&x==s then i7 i else zId r (i+1) s
 |.zero _::r,i,s=>zId r (i+1) s
def zIe(ps:List yS)(s:Nat)(z:List Nat):Option (List Nat):=
 match zId ps 0 s with
 |some i=>i7 (z++[i])
 |none=>i8
def pWr(d:Nat):List yS→Nat→Wr
 | [],_=>[]
 |.slot s t::r,i=>if sK t then(s,i7 (cpT d t [i]))::pWr d r (i+1)else pWr d r (i+1)
 |.zero _::r,i=>pWr d r (i+1)
def xR:List yS→List Nat
 | []=>[]
 |.slot s t::r=>if sK t then s::xR r else xR r
 |.zero _::r=>xR r
def sL(ps:List yS):Chg:=(xR ps).map fun s=>(s,1)
def qI(G:Gh):yS→List Value
 |.slot s t=>vals G s t []
 |.zero u=>tR u
def pHd(G:Gh)(ps:List yS)(i:Nat)(z:List Nat):Value:=
 match ps[i]? with
 |some (.slot s _)=>G.hd s z
 |some (.zero u)=>jQ (zhd u z.reverse)
 |none=>.bool ia
structure tK (E:Env) (d:Nat) (ps:List yS):Prop where
 slot:∀s t,yS.slot s t∈ps→E s=i7 t∧yD t∧t.okTup=i9
 zero:∀u,yS.zero u∈ps→u.zOk=i9
 dist:(d::xR ps).Nodup
theorem zBe:(ps:List yS)→ ∀(i0 i s:Nat)(t:T),ps[i]? =i7 (.slot s t)→sK t=i9→(xR ps).Nodup→zId ps i0 s=i7 (i0+i)
 | [],_,_,_,_,h,_,_=>by simp at h
 |.slot x u::r,i0,i,s,t,h,hm,hn=>by
  cases i with
  |zero=>simp at h;obtain⟨rfl,rfl⟩:=h;simp[zId,hm]
  |succ i=>
   simp only[Ue]at h;have gU:s∈xR r:=pSlots_mem r i s t h hm;simp only[zId]
   by_cases hu:sK u=i9
   ·simp only[xR,hu,if_true,L8]at hn
    have:x≠s:=by grind
    simp only[hu,Bool.true_and,beq_iff_eq,this,if_false];rw[zBe r (i0+1) i s t h hm hn.2]
    grind
   ·simp only[xR,hu]at hn
    simp only[hu,Jbj,Hq,if_false];rw[zBe r (i0+1) i s t h hm (by grind)]
    grind
 |.zero u::r,i0,i,s,t,h,hm,hn=>by
  cases i with
  |zero=>simp at h
  |succ i=>
   simp only[Ue]at h;simp only[zId];rw[zBe r (i0+1) i s t h hm (by grind[xR])]
   grind
where pSlots_mem:(ps:List yS)→ ∀(i s:Nat)(t:T),ps[i]? =i7 (.slot s t)→sK t=i9→s∈xR ps
 | [],_,_,_,h,_=>by simp at h
 |.slot x u::r,i,s,t,h,hm=>by
  cases i with
  |zero=>simp at h;obtain⟨rfl,rfl⟩:=h;simp[xR,hm]
  |succ i=>
   have:=pSlots_mem r i s t (by grind) hm
   grind[xR]
 |.zero u::r,i,s,t,h,hm=>by
  cases i with
  |zero=>simp at h
  |succ i=>simpa only[xR]using pSlots_mem r i s t (by grind) hm
theorem zCP:(ps:List yS)→ ∀(i0 s:Nat),s∉xR ps→zId ps i0 s=i8
 | [],_,_,_=>by rfl
 |.slot x u::r,i0,s,h=>by
  simp only[zId]
  by_cases hu:sK u=i9
  ·simp only[xR,hu,if_true,J8,not_or]at h
   simp only[hu,Bool.true_and,beq_iff_eq,Ne.symm h.1,if_false];exact zCP r _ s h.2
  ·simp only[xR,hu]at h
   simp only[hu,Jbj,Hq,if_false];exact zCP r _ s (by grind)
 |.zero u::r,i0,s,h=>by simp only[zId];exact zCP r _ s (by grind[xR])
theorem zCf:(ps:List yS)→ ∀(d i0 s:Nat)(x:Option T),(pWr d ps i0).find s=i7 x→ ∃i t,ps[i]? =i7 (.slot s t)∧sK t=i9∧x=i7 (cpT d t [i0+i])
 | [],_,_,_,_,h=>by grind[pWr,Wr.find]
 |.slot y u::r,d,i0,s,x,h=>by
  simp only[pWr]at h;split at h
  ·rename_i hu
   simp only[Wr.find]at h;split at h
   ·rename_i he;subst he;simp at h;exact⟨0,u,by simp,hu,by grind⟩
   ·obtain⟨i,t,h1,h2,h3⟩:=zCf r d (i0+1) s x h
    exact⟨i+1,t,by grind,h2,by grind⟩
  ·obtain⟨i,t,h1,h2,h3⟩:=zCf r d (i0+1) s x h
   exact⟨i+1,t,by grind,h2,by grind⟩
 |.zero u::r,d,i0,s,x,h=>by simp only[pWr]at h;obtain⟨i,t,h1,h2,h3⟩:=zCf r d (i0+1) s x h;exact⟨i+1,t,by grind,h2,by grind⟩
theorem zCg:(ps:List yS)→ ∀(d i0 s:Nat),(pWr d ps i0).find s=i8→s∉xR ps
 | [],_,_,_,_=>by simp[xR]
 |.slot y u::r,d,i0,s,h=>by
  simp only[pWr]at h;simp only[xR];split at h
  ·rename_i hu
   simp only[Wr.find]at h;split at h
   ·cases h
   ·rename_i gf
    simp only[hu,if_true,J8,not_or];exact⟨fun e=>gf e.symm,zCg r d _ s h⟩
  ·rename_i hu
   simp only[hu];simpa using zCg r d _ s h
 |.zero u::r,d,i0,s,h=>by simp only[pWr]at h;simpa only[xR]using zCg r d _ s h
section
variable {Γ:Ctx}{E:Env}{G:Gh}{tmps:Array Value}{w:World}{d:Nat}{ps:List yS}
theorem zFG(g9:Rep Γ E G tmps w)(h:tK E d ps):
  yR (ps.map yS.tree)=i9∧xQ (ps.map yS.tree)∧(∀i z,(pHd G ps i z).oneCell'=i9)∧
  (∀(i:Nat) u x q(z:List Nat),(ps.map yS.tree)[i]? =i7 u→zG9 ps i=i7 (x,q)→zIe ps x (z++q)=i7 (z++[i]))∧
  (∀(i:Nat) u x q,(ps.map yS.tree)[i]? =i7 u→zG9 ps i=i7 (x,q)→(∀z,pHd G ps i z=G.hd x (z++q))∧R Γ.St G w x u q∧yD u∧x≠d)∧
  (∀(i:Nat) u,(ps.map yS.tree)[i]? =i7 u→zG9 ps i=i8→ ∀(G2:Gh)(w2:World),(∀z,G2.hd d (z++[i])=pHd G ps i z)→R Γ.St G2 w2 d u [i])∧
  (∀s p,(∀n,(s,n)∉(d,0)::sL ps)→zIe ps s p=i8):=by
 have mm:=L8.1 h.dist;refine⟨?_,?_,?_,?_,?_,?_,?_⟩
 ·have:∀qs:List yS,(∀p∈qs,p∈ps)→yR (qs.map yS.tree)=i9:=by
   intro qs
   induction qs with
   |nil=>intro _;rfl
   |cons q qs ih=>
    intro hq;simp only[Jo,yR,J3];refine⟨?_,by grind⟩;cases q with
    |slot s t=>exact(h.slot s t (hq _ (by simp))).2.2
    |zero u=>exact(zBd u (h.zero u (hq _ (by simp)))).2
  grind
 ·have:∀qs:List yS,(∀p∈qs,p∈ps)→xQ (qs.map yS.tree):=by
   intro qs
   induction qs with
   |nil=>intro _;trivial
   |cons q qs ih=>
    intro hq;simp only[Jo,xQ,xX];refine⟨?_,by grind⟩;cases q with
    |slot s t=>exact(h.slot s t (hq _ (by simp))).2.1
    |zero u=>exact(zBd u (h.zero u (hq _ (by simp)))).1
  grind
 ·intro i z
  unfold pHd;split
  ·exact g9.mem.one _ _
  ·exact zBc _
  ·rfl
 ·intro i u x q z hu hs
  rw[K0]at hu;unfold zG9 at hs;cases hp:ps[i]? with
  |none=>grind
  |some p=>
   cases p with
   |zero v=>grind
   |slot s t=>
    simp only[hp]at hs;split at hs
    ·rename_i hm
     simp at hs;obtain⟨rfl,rfl⟩:=hs;simp[zIe,zBe ps 0 i s t hp hm mm.2]
    ·cases hs
 ·intro i u x q hu hs
  rw[K0]at hu;unfold zG9 at hs;cases hp:ps[i]? with
  |none=>grind
  |some p=>
   cases p with
   |zero v=>grind
   |slot s t=>
    simp only[hp]at hs;split at hs
    ·rename_i hm
     simp at hs;obtain⟨rfl,rfl⟩:=hs;simp[hp,yS.tree]at hu;subst hu;obtain⟨h1,h2,h3⟩:=h.slot s t (by grind);refine⟨by grind[pHd],(g9.ent s t h1).2.1,h2,fun e=>mm.1 ?_⟩
     grind[zBe.pSlots_mem]
    ·cases hs
 ·intro i u hu hs G2 w2 fd
  rw[K0]at hu;unfold zG9 at hs;cases hp:ps[i]? with
  |none=>grind
  |some p=>
   cases p with
   |zero v=>
    simp[hp,yS.tree]at hu;subst hu;exact zJp v [i] (h.zero v (by grind)) (by grind[pHd])
   |slot s t=>
    simp only[hp]at hs;split at hs
    ·cases hs
    ·rename_i hm
     simp[hp,yS.tree]at hu;subst hu;have h1:=(g9.ent s t (h.slot s t (by grind)).1).2.1;have h2:G2.hd d [i]=G.hd s []:=by have:=fd [];grind[pHd]
     cases t<;>simp[sK]at hm<;>simp only[R]at h1 ⊢ <;>rw[h2]<;>exact h1
 ·intro s p gF
  have:s∉xR ps:=fun gU=>gF 1 (by grind[sL])
  grind[zIe,zCP]
theorem zDC(g9:Rep Γ E G tmps w)(h:tK E d ps)(G2:Gh):∀(qs:List yS)(i0:Nat),(∀i q,qs[i]? =i7 q→ps[i0+i]? =i7 q)→(∀i z,G2.hd d (z++[i])=pHd G ps i z)→
  yI G2 d (qs.map yS.tree) [] i0=qs.flatMap (qI G)
 | [],_,_,_=>by rfl
 |q::qs,i0,hq,fd=>by
  have h0:ps[i0]? =i7 q:=by simpa using hq 0 q (by simp)
  have ih:=zDC g9 h G2 qs (i0+1) (fun i p hp=>by rw[show i0+1+i=i0+(i+1)from by omega];simp_all) fd;simp only[Jo,yI,Lj,ih]
  congr 1
  cases q with
  |slot s t=>exact zAA t [] [i0] (by grind[pHd])
  |zero u=>exact zEY u [i0] (h.zero u (by grind)) (by grind[pHd])
end
end Go.Ab

namespace Go.Ab
open Go
section
variable {P:Program}{Γ:Ctx}{E:Env}{o:Oper}{d:Nat}
theorem zI0{G G':Gh}{w':World}{s i:Nat}{t:T}{v:Option Value}(hv:v=i7 (mkV G s t []))(ee:∀xs,t≠.tup xs)(hs:∀p,G'.hd s p=G.hd s p)(bf:∀z,G'.hd d (z++[i])=G.hd s z)
  (hr:R Γ.St G' w' d t [i]):Ent Γ G' w' v s (cpT d t [i]):=by
 have hz:∀z,G'.hd s (z++[])=G'.hd d (z++[i]):=by grind
 refine⟨?_,?_,qN d t [i]⟩
 ·rw[hv,zAu (G:=G') (G':=G') t [i] [] ee hz,kG G s t [] ee,zB0 t [] [i] (fun z=>by rw[bf,Je])]
 ·exact zD7 (G:=G') (G':=G') (fun _=>rfl) t [i] [] hz ee (xC.triv (fun _ _=>⟨rfl,rfl⟩) _) hr
theorem zBf{G:Gh}{a:Act}{w w':World}{ps:List yS}(g9:Rep Γ E G a.tmps w)(h:tK E d ps)(hd:d<Γ.N){cells:Array Value}{e:TypeId}(hw:w'.heap=w.heap.push (.cells cells e))
  (cm:∀(o:Nat)(v:Value),(ps.flatMap (qI G))[o]? =i7 v→cells[o]? =i7 v)
  (rt:T)(gY:Value)
  (f8:(∃k cap,rt=.sl k (ps.map yS.tree)∧(∀p∈ps,p.tree.size=k)∧gY=.slice (i7 ⟨w.heap.size,0,i8⟩) ps.length cap∧ps.length≤cap∧cap≤maxLen∧cells.size=cap*k)∨
   ∃p,ps=[p]∧rt=.ptr p.tree∧gY=.pointer (i7 ⟨w.heap.size,0,i8⟩)∧cells.size=p.tree.size)
  (ho:w'.os=w.os:=by rfl)(hq:w'.output=w.output:=by rfl):
  ∃G',Rep Γ (E.app ((d,i7 rt)::pWr d ps 0) ((d,0)::sL ps)) G' (a.tmps.setIfInBounds d gY) w':=by
 obtain⟨f1,f0,f2,f3,f4,f5,f6⟩:=zFG g9 h;have hh:gY.oneCell'=i9:=by rcases f8 with⟨k,cap,_,_,rfl,_⟩|⟨p,_,_,rfl,_⟩<;>rfl
 have mm:=L8.1 h.dist;obtain⟨g1,g2,g3,g4,g5⟩:=zCO g9.mem hw d (ps.map yS.tree) (zG9 ps) (zIe ps) (pHd G ps) gY (sL ps) f1 f2 hh f3 f4 f5
  (fun G2 fd o v hv=>cm o v (by rw[zDC g9 h G2 ps 0 (by simp) fd]at hv;exact hv)) f6 (ho:=ho) (hq:=hq)
 refine⟨_,vF g9 (by simp) g1 g2 ?_ ?_⟩
 ·intro s hs
  simp only[Wr.find]at hs;split at hs
  ·cases hs
  ·rename_i gf
   have hns:=zCg ps d 0 s hs;refine⟨fun n hn=>?_,by grind⟩;simp only[J8,Jaj.injEq,sL,Jm]at hn;rcases hn with⟨e1,_⟩|⟨y,hy,e1,_⟩
   ·omega
   grind
 ·intro s t hs
  simp only[Wr.find]at hs;split at hs
  ·rename_i he
   subst he;simp at hs;subst hs;have pb:(G.nb d w.heap.size (ps.map yS.tree) (zG9 ps) (zIe ps) (pHd G ps) gY).hd d []=gY:=by simp[Gh.nb]
   have how:(G.nb d w.heap.size (ps.map yS.tree) (zG9 ps) (zIe ps) (pHd G ps) gY).ow w.heap.size=i7 (d,[]):=by simp[Gh.nb]
   refine⟨?_,?_,?_⟩
   ·rw[Jl]
    rcases f8 with⟨k,cap,rfl,_⟩|⟨p,_,rfl,_⟩<;>simp[g9.size,hd,mkV,pb]
   ·rcases f8 with⟨k,cap,rfl,hk,h1,h2,h3,h4⟩|⟨p,rfl,rfl,h1,h4⟩
    ·simp only[R]
     rw[pb];refine .inr ⟨w.heap.size,cap,cells,e,by grind,g5,by grind,h3,by omega,how,?_,zQ5 _ _ _ _ _ (fun x hx=>?_) g3 g4⟩
     ·intro o ho _
      have gw:T.sizes (ps.map yS.tree)=(ps.map yS.tree).length*k:=wS _ (fun x hx=>by
       obtain⟨p,hp,rfl⟩:=Jm.1 hx
       grind)
      simp[Gh.nb,zDA (ps.map yS.tree) [] 0 o (by omega)]
     ·obtain⟨p,hp,rfl⟩:=Jm.1 hx
      grind
    ·simp only[R]
     rw[pb];simp only[Jo,Gv,vE,RF]at g3 g4;exact⟨w.heap.size,cells,e,h1,g5,h4,how,g3.1,g4.1⟩
   ·rcases f8 with⟨k,cap,rfl,_⟩|⟨p,rfl,rfl,_⟩
    ·simp only[Top];exact f0
    ·simp only[Top];exact f0.1
  ·rename_i gf
   obtain⟨i,u,h1,h2,h3⟩:=zCf ps d 0 s _ hs;simp only[Jb]at h3;simp at h3;subst h3;obtain⟨h4,h5,h6⟩:=h.slot s u (Lr h1);have ee:∀xs,u≠.tup xs:=by rintro xs rfl;simp[T.okTup]at h6
   have hi:(ps.map yS.tree)[i]? =i7 u:=by simp[h1,yS.tree]
   have hr:=zAM _ [] 0 i u g4 hi;simp only[Jb]at hr;refine zI0 (G:=G) (by rw[Jl];simp only[gf,if_false];exact(g9.ent s u h4).1) ee (fun p=>?_) (fun z=>?_) hr
   ·simp[Gh.nb,show s≠d from fun e=>gf e.symm]
   ·simp[Gh.nb,pHd,h1]
inductive kP (E:Env):Operand→yS→Prop where
 |slot (s:Nat) (t:T):kP E (.tmp s) (.slot s t)
 |zero (v:Value) (u:T) (h:tR u=v.cells.toList):kP E (.const v) (.zero u)
theorem zAv{G:Gh}{a:Act}{w:World}{ps:List yS}(g9:Rep Γ E G a.tmps w)(h:tK E d ps){x:Operand}{p:yS}(hp:p∈ps)(hx:kP E x p):
  (a.eval x).cells.toList=qI G p:=by
 cases hx with
 |slot s t=>
  obtain⟨h1,h2,h3⟩:=h.slot s t hp;obtain⟨h4,_,_⟩:=g9.ent s t h1;rw[wI h4];cases t with
  |agg xs=>rfl
  |tup xs=>grind[T.okTup]
  |_=>
   have:=g9.mem.one s [];simp only[mkV,vals,qI]
   generalize G.hd s []=v at this
   cases v<;>simp[Value.oneCell',Value.cells]at this ⊢
 |zero v u h=>simp[Act.eval,h,qI]
def uE(E:Env):List Operand→List yS→Prop
 | [],[]=>True
 |x::xs,p::ps=>kP E x p∧uE E xs ps
 |_,_=>False
theorem uE.length:(xs:List Operand)→(ps:List yS)→uE E xs ps→xs.length=ps.length
 | [],[],_=>rfl
 |_::xs,_::ps,h=>by simp[uE.length xs ps h.2]
 | [],_::_,h=>by simp[uE]at h
 |_::_,[],h=>by simp[uE]at h
theorem uE.mem:(xs:List Operand)→(ps:List yS)→uE E xs ps→ ∀x∈xs,∃p,p∈ps∧kP E x p
 | [],_,_,x,hx=>by simp at hx
 |y::xs,p::ps,h,x,hx=>by
  rcases J8.1 hx with rfl|hx
  ·exact⟨p,by simp,h.1⟩
  ·obtain⟨q,hq,hxq⟩:=uE.mem xs ps h.2 x hx;exact⟨q,by simp[hq],hxq⟩
 |_::_,[],h,_,_=>by simp[uE]at h
theorem zGA{G:Gh}{a:Act}{w:World}{ps:List yS}(g9:Rep Γ E G a.tmps w)(h:tK E d ps):∀(xs:List Operand)(qs:List yS),(∀q∈qs,q∈ps)→uE E xs qs→
  ((xs.map a.eval).flatMap fun v=>v.cells.toList)=qs.flatMap (qI G)
 | [],[],_,_=>rfl
 |x::xs,q::qs,hq,hx=>by simp only[Jo,Lj,zAv g9 h (hq q (by simp)) hx.1,zGA g9 h xs qs (by grind) hx.2]
 | [],_::_,_,hx=>by simp[uE]at hx
 |_::_,[],_,hx=>by simp[uE]at hx
theorem zQ6(T':TypeId)(ti:TypeInfo)(z:Value)(u:T)(ho:o.op=.alloc T')(gg:o.dst=i7 d)(hd:d<Γ.N)
  (hi:P.info? T'=i7 ti)(hz:ti.zero=i7 z)(hu:u.zOk=i9)(hv:tR u=z.cells.toList)(gw:z.cells.size=u.size):
  wL P Γ o E (E.app [(d,i7 (.ptr u))] [(d,0)]):=by
 refine wL.value gg fun a w G g9=>?_
 have gT:tK E d [.zero u]:=⟨by simp,by grind,by simp[xR]⟩;obtain⟨G',gm⟩:=zBf (w':=w.alloc (.cells z.cells T')) g9 gT hd (cells:=z.cells) (e:=T') rfl (by grind[qI]) (.ptr u) (.pointer (i7 ⟨w.heap.size,0,i8⟩)) (.inr ⟨.zero u,rfl,rfl,rfl,gw⟩);refine⟨_,_,?_,G',by simpa[pWr,sL,xR]using gm⟩;simp[execOp,ho,Instr.alloc,zeroValue,typeInfo,hi,hz,newVar,newRow]
theorem zVY(T':TypeId)(x:Operand)(p:yS)(ho:o.op=.box T' x)(gg:o.dst=i7 d)(hd:d<Γ.N)(hx:kP E x p)(gT:tK E d [p]):
  wL P Γ o E (E.app ((d,i7 (.ptr p.tree))::pWr d [p] 0) ((d,0)::sL [p])):=by
 refine wL.value gg fun a w G g9=>?_
 have hc:=zAv g9 gT (by simp) hx;have gw:(a.eval x).cells.size=p.tree.size:=by
  rw[←Ko,hc];cases p with
  |slot s t=>
   obtain⟨_,_,h3⟩:=gT.slot s t (by simp);show(vals G s t []).length=t.size;exact vC t [] (by rintro xs rfl;grind[T.okTup])
  |zero u=>exact vA u (gT.zero u (by simp))
 obtain⟨G',gm⟩:=zBf (w':=w.alloc (.cells (a.eval x).cells T')) g9 gT hd (cells:=(a.eval x).cells) (e:=T') rfl (by grind) (.ptr p.tree) (.pointer (i7 ⟨w.heap.size,0,i8⟩)) (by grind);refine⟨_,_,?_,G',gm⟩;simp[execOp,ho,Instr.box,newVar,newRow]
theorem zIf(t e:TypeId)(ti:TypeInfo)(z:Value)(k n:Nat)(xs:List Operand)(ps:List yS)(ho:o.op=.buildSlice t n ((xs.zipIdx 0).map fun x=>(x.2,x.1)).toArray)(gg:o.dst=i7 d)(hd:d<Γ.N)
  (ht:P.underlying t=i7 (.slice e))(hi:P.info? e=i7 ti)(hz:ti.zero=i7 z)(hk:ti.size=k)(eY:0<k)(hn:xs.length=n)(ag:0<n)(hsm:n*k≤2 ^ 24)
  (hx:uE E xs ps)(gT:tK E d ps)(gw:∀p∈ps,p.tree.size=k):
  wL P Γ o E (E.app ((d,i7 (.sl k (ps.map yS.tree)))::pWr d ps 0) ((d,0)::sL ps)):=by
 refine wL.value gg fun a w G g9=>?_
 subst hk;have gj:xs.length=ps.length:=uE.length xs ps hx;have hc:=zGA g9 gT xs ps (fun _ h=>h) hx;have cS:∀v∈xs.map a.eval,v.cells.size=ti.size:=by
  intro v hv;obtain⟨x,bw,rfl⟩:=Jm.1 hv;obtain⟨p,hp,hxp⟩:=uE.mem xs ps hx x bw;rw[←Ko,zAv g9 gT hp hxp,←gw p hp];cases p with
  |slot s t=>
   obtain⟨_,_,h3⟩:=gT.slot s t hp;show(vals G s t []).length=t.size;exact vC t [] (by rintro xs rfl;simp[T.okTup]at h3)
  |zero u=>exact vA u (gT.zero u hp)
 have az:=Great.fill_whole eY (xs.map a.eval) ((Jbx (n*ti.size)).map (z.cells[· %z.cells.size]!)) cS (by simp[hn]);have mR:((((xs.zipIdx 0).map fun x=>(x.2,x.1)).toArray).map fun(i,x)=>(i,a.eval x)).toList=((xs.map a.eval).zipIdx 0).map fun x=>(x.2,x.1):=by simp[List.zipIdx_map,Function.comp_def]
 have gx:=run_buildSlice (P:=P) w t e n _ _ ti z ht hi hz (by omega) (by have:=Nat.mul_pos ag eY;omega) (by rw[mR];exact az);have gN:((xs.map a.eval).flatMap fun v=>v.cells.toList).toArray.size=n*ti.size:=by rw[Jbl,flat_len (k:=ti.size) _ (fun v hv=>by rw[Ko];exact cS v hv)];simp[hn]
 obtain⟨G',gm⟩:=zBf (w':=w.alloc (.cells ((xs.map a.eval).flatMap fun v=>v.cells.toList).toArray e)) g9 gT hd rfl (fun o v h=>by rw[hc];simpa using h) (.sl ti.size (ps.map yS.tree)) (.slice (i7 ⟨w.heap.size,0,i8⟩) n n) (.inl ⟨ti.size,n,rfl,gw,by rw[←gj,hn],by omega,by have:n≤n*ti.size:=Jay n eY;simp only[maxLen];omega,gN⟩)
 refine⟨_,_,?_,G',gm⟩;simp only[execOp,ho,Sem.run_bind,gx,Result.andThen_ok];rfl
where
 flat_len {k:Nat} (vs:List Value) (h:∀v∈vs,v.cells.toList.length=k):(vs.flatMap fun v=>v.cells.toList).length=vs.length*k:=by
  induction vs with
  |nil=>simp
  |cons v vs ih=>simp[Lj,ih (fun u hu=>h u (by simp[hu])),K4];have:=h v (by simp);simp at this;omega
end
end Go.Ab

namespace Go.Ab
open Go
theorem zJq{α β:Type}(f:α→List β)(x:α)(k:Nat)(hk:(f x).length=k)(eY:0<k):∀(n o:Nat)(v:β),((J1 n x).flatMap f)[o]? =i7 v→o<n*k∧(f x)[o%k]? =i7 v
 |0,o,v,h=>by simp at h
 |n+1,o,v,h=>by
  rw[Jp,Lj,Kk]at h;split at h
  ·grind[Nat.mod_eq_of_lt]
  ·rename_i hge
   rw[hk]at h hge;obtain⟨h1,h2⟩:=zJq f x k hk eY n (o-k) v h
   grind[Nat.mod_eq_sub_mod]
section
variable {P:Program}{Γ:Ctx}{E:Env}{o:Oper}{d:Nat}
theorem zTI(t e:TypeId)(ti:TypeInfo)(z:Value)(u:T)(k:Nat)(x y:Operand)(n c:Nat)(kl kc:IntKind)(ho:o.op=.makeSlice t x y)(gg:o.dst=i7 d)(hd:d<Γ.N)
  (ht:P.underlying t=i7 (.slice e))(hi:P.info? e=i7 ti)(hz:ti.zero=i7 z)(hk:ti.size=k)(eY:0<k)(hu:u.zOk=i9)(hv:tR u=z.cells.toList)(fL:u.size=k)(hb:ti.bytes≤4096)
  (hx:opT E x=i7 (.lit (.int kl n)))(hy:opT E y=i7 (.lit (.int kc c)))(cM:n≤c)(hc:c≤68719476736):
  wL P Γ o E (E.app [(d,i7 (.sl k (J1 n u)))] [(d,0)]):=by
 refine wL.value gg fun a w G g9=>?_
 have h1:=(wN g9 hx).1;have h2:=(wN g9 hy).1;subst hk;have gT:tK E d (J1 n (.zero u)):=⟨by simp,fun v h=>by simp_all,by
  have:∀m,xR (J1 m (.zero u))=[]:=by intro m;induction m with|zero=>rfl|succ m ih=>grind[xR]
  simp[this]⟩
 have hzs:z.cells.size=ti.size:=by grind[vA]
 have bh:(ti.bytes:Int)*(c:Int)≤281474976710656:=by have:ti.bytes*c≤4096*68719476736:=Jv hb hc;omega
 have gx:=run_make (P:=P) w t e ti z ht hi hz kl kc n c (by omega) (by omega) bh (by omega);simp only[Ja]at gx;obtain⟨G',gm⟩:=zBf (w':=w.alloc (.cells (madeCells z.cells (c*ti.size)) e)) g9 gT hd rfl (fun i v h=>by
  obtain⟨h3,h4⟩:=zJq (qI G) (.zero u) ti.size (by grind[qI]) eY n i v h
  grind[Jax,Kd,qI,madeCells]) (.sl ti.size (J1 n u)) (.slice (i7 ⟨w.heap.size,0,i8⟩) n c)
  (.inl ⟨ti.size,c,by simp[yS.tree],fun p hp=>by simp at hp;obtain⟨_,rfl⟩:=hp;exact fL,by simp,by grind,by grind[maxLen],by simp[madeCells]⟩)
 refine⟨.slice (i7 ⟨w.heap.size,0,i8⟩) n c,w.alloc (.cells (madeCells z.cells (c*ti.size)) e),?_,G',?_⟩
 ·simp only[execOp,ho,h1,h2,Sem.run_bind,gx,Result.andThen_ok]
  rfl
 ·have h6:∀m i,pWr d (J1 m (.zero u)) i=[]:=by intro m;induction m with|zero=>intro i;rfl|succ m ih=>grind[pWr]
  have h7:sL (J1 n (.zero u))=[]:=by
   have:∀m,xR (J1 m (.zero u))=[]:=by intro m;induction m with|zero=>rfl|succ m ih=>grind[xR]
   grind[sL]
  grind
theorem zGB(t e:TypeId)(ti:TypeInfo)(k:Nat)(ho:o.op=.buildSlice t 0 #[])(gg:o.dst=i7 d)(hd:d<Γ.N)
  (ht:P.underlying t=i7 (.slice e))(hi:P.info? e=i7 ti):wL P Γ o E (E.app [(d,i7 (.sl k []))] [(d,0)]):=by
 refine wL.value gg fun a w G g9=>?_
 have gT:tK E d []:=⟨by simp,by simp,by simp[xR]⟩;obtain⟨G',gm⟩:=zBf (w':=w.alloc (.cells #[] e)) g9 gT hd (cells:=#[]) rfl (by simp) (.sl k []) (.slice (i7 ⟨w.heap.size,0,i8⟩) 0 0)
  (by simp)
 refine⟨_,_,?_,G',gm⟩;have h0:(Jbx 0:Array Nat)= #[]:=by rfl
 simp[execOp,ho,Instr.buildSlice,run_underlying ht,sizeOf,typeInfo,hi,Instr.fill,newRow,h0]
theorem zKy(k:Nat)(x:Operand)(ho:o.op=.move x∨o.op=.assign x)(hx:x=.const (.slice i8 0 0))(gg:o.dst=i7 d)(hd:d<Γ.N):wL P Γ o E (E.app [(d,i7 (.sl k []))] [(d,0)]):=by
 refine wL.value gg fun a w G g9=>?_
 refine⟨.slice i8 0 0,w,?_,_,vK g9 rfl hd (fun _=>.slice i8 0 0) (fun _=>rfl) (.sl k []) (.slice i8 0 0) (by simp[mkV,Gh.put]) (by simp[R,Gh.put]) (by simp[Top,xQ,xX])⟩;subst hx;rcases ho with ho|ho<;>simp[execOp,ho,Act.eval]
def Gh.nv(G:Gh)(d:Nat)(src:Nat→Option (Nat×List Nat))(φ:Nat→List Nat→Option (List Nat))(f:Nat→List Nat→Value):Gh where
 hd s z:=if s=d then(match z.getLast? with
  |some i=>f i z.dropLast
  |none=>.bool ia)else G.hd s z
 ad s z:=if s=d then(match z.getLast? with
  |some i=>(match src i with
   |some (x,q)=>G.ad x (z.dropLast++q)
   |none=>default)
  |none=>default)else G.ad s z
 lb b o:=match G.lb b o with
  |some (fl,s,z)=>(match φ s z with
   |some z'=>i7 (fl,d,z')
   |none=>i7 (fl,s,z))
  |none=>i8
 ow b:=match G.ow b with
  |some (s,z)=>(match φ s z with
   |some z'=>i7 (d,z')
   |none=>i7 (s,z))
  |none=>i8
theorem zTJ{G:Gh}{a:Act}{w:World}{ps:List yS}(g9:Rep Γ E G a.tmps w)(h:tK E d ps)(hd:d<Γ.N):
  ∃G',Rep Γ (E.app ((d,i7 (.agg (ps.map yS.tree)))::pWr d ps 0) ((d,0)::sL ps)) G' (a.tmps.setIfInBounds d (.agg (ps.flatMap (qI G)).toArray)) w:=by
 obtain⟨f1,f0,f2,f3,f4,f5,f6⟩:=zFG g9 h;have hm:=g9.mem;have gJ:Blk w w:=fun b cs e' h=>⟨cs,h,rfl⟩
 generalize gm:G.nv d (zG9 ps) (zIe ps) (pHd G ps)=G'
 have ghd:∀i z,G'.hd d (z++[i])=pHd G ps i z:=fun i z=>by rw[←gm];simp[Gh.nv]
 have ghd':∀s z,s≠d→G'.hd s z=G.hd s z:=by grind[Gh.nv]
 have glbm:∀b o fl x z z',G.lb b o=i7 (fl,x,z)→zIe ps x z=i7 z'→G'.lb b o=i7 (fl,d,z'):=by grind[Gh.nv]
 have gowm:∀b x z z',G.ow b=i7 (x,z)→zIe ps x z=i7 z'→G'.ow b=i7 (d,z'):=by grind[Gh.nv]
 have gf:∀s p,Off ((d,0)::sL ps) s p→s≠d:=fun s p h e=>absurd (h 0 (by simp[e])) (by simp)
 have gv:qR ((d,0)::sL ps) G w G' w:=by
  refine⟨by grind,fun s p h=>?_,fun b o fl s p _ hl h=>⟨?_,rfl⟩,fun b s p hl h=>?_,gJ⟩
  ·rw[←gm];simp[Gh.nv,gf s p h]
  ·rw[←gm];simp[Gh.nv,hl,f6 s p h]
  ·rw[←gm];simp[Gh.nv,hl,f6 s p h]
 have gp:Mem Γ G' w:=by
  refine⟨fun s p=>?_,fun b o l hl=>?_,fun b l hl=>?_,hm.st,hm.fr,hm.sz,hm.bk⟩
  ·rw[←gm]
   simp only[Gh.nv];split
   ·split
    ·grind
    ·rfl
   ·exact hm.one s p
  ·rw[←gm]at hl
   simp only[Gh.nv]at hl;split at hl
   ·rename_i hg;exact hm.lb b o _ hg
   ·cases hl
  ·rw[←gm]at hl
   simp only[Gh.nv]at hl;split at hl
   ·rename_i hg;exact hm.ow b _ hg
   ·cases hl
 have g4:RF Γ.St G' w d (ps.map yS.tree) [] 0:=by
  refine zNH _ [] 0 (fun i u hu=>?_);rw[Jb];cases hs:zG9 ps i with
  |none=>exact f5 i u hu hs G' w (fun z=>ghd i z)
  |some xq=>
   obtain⟨x,q⟩:=xq;obtain⟨h1,h2,h3,h4⟩:=f4 i u x q hu hs;refine zKx u q [i] (zCO.okTups_get _ f1 i u hu) ⟨fun z=>by rw[ghd,h1],fun z _=>by rw[←gm];simp[Gh.nv,hs],fun b o fl z _ hl=>⟨glbm b o fl x _ _ hl (f3 i u x q z hu hs),rfl⟩,
    fun b z hl=>gowm b x _ _ hl (f3 i u x q z hu hs),gJ⟩ (xC.mono (by simp) u h3) h2
 refine⟨G',vF g9 (by simp) gv gp ?_ ?_⟩
 ·intro s hs
  simp only[Wr.find]at hs;split at hs
  ·cases hs
  ·rename_i gf
   have hns:=zCg ps d 0 s hs;refine⟨fun n hn=>?_,by rw[Jl];simp[gf]⟩;simp only[J8,Jaj.injEq,sL,Jm]at hn
   grind
 ·intro s t hs
  simp only[Wr.find]at hs;split at hs
  ·rename_i he
   subst he;simp at hs;subst hs;refine⟨?_,by grind[R],by grind[Top,vM.of_clean]⟩;rw[Jl];simp only[g9.size,hd,mkV,if_true];rw[zDC g9 h G' ps 0 (by simp) ghd]
  ·rename_i gf
   obtain⟨i,u,h1,h2,h3⟩:=zCf ps d 0 s _ hs;simp only[Jb]at h3;simp at h3;subst h3;obtain⟨h4,h5,h6⟩:=h.slot s u (Lr h1);have ee:∀xs,u≠.tup xs:=by rintro xs rfl;grind[T.okTup]
   have hi:(ps.map yS.tree)[i]? =i7 u:=by simp[h1,yS.tree]
   have hr:=zAM _ [] 0 i u g4 hi;simp only[Jb]at hr;refine zI0 (G:=G) (by rw[Jl];simp only[gf,if_false];exact(g9.ent s u h4).1) ee (by grind) (fun z=>?_) hr;rw[ghd];simp[pHd,h1]
theorem zNJ(off:Nat):∀(vs:List Value)(i:Nat)(cs:Array Value)(k:Nat),off+i+vs.length≤cs.size→
  ((vs.zipIdx i).foldl (fun cs(x:Value×Nat)=>cs.setIfInBounds (off+x.2) x.1) cs)[k]? =if off+i≤k∧k<off+i+vs.length then vs[k-(off+i)]? else cs[k]?
 | [],i,cs,k,_=>by simp;omega
 |v::vs,i,cs,k,h=>by
  simp only[J7]at h;simp only[List.zipIdx_cons,G1];rw[zNJ off vs (i+1) _ k (by simp;omega)]
  by_cases h1:off+(i+1)≤k∧k<off+(i+1)+vs.length
  ·rw[if_pos h1,if_pos (by grind),show k-(off+i)=k-(off+(i+1))+1 from by omega,Ue]
  ·rw[if_neg h1]
   by_cases h2:k=off+i
   ·subst h2
    rw[if_pos (by simp),Kl]
    grind
   ·rw[if_neg (by grind),Jl,if_neg (fun e=>h2 e.symm)]
theorem zGC{pv:yS→List Value}(place:Nat→Option (Nat×Nat)):∀(vs:List (Nat×Value))(qs:List (Nat×yS))(ps:List yS)(cs:Array Value),cs.toList=ps.flatMap pv→
  (∀i p,ps[i]? =i7 p→place i=i7 (((ps.take i).flatMap pv).length,(pv p).length))→
  vs.map (·.1)=qs.map (·.1)→(∀(j:Nat)(v:Nat×Value)(q:Nat×yS),vs[j]? =i7 v→qs[j]? =i7 q→v.2.cells.toList=pv q.2∧ ∃p,ps[q.1]? =i7 p∧(pv p).length=(pv q.2).length)→
  ∃cs',Instr.fill place cs vs=i7 cs'∧cs'.toList=(qs.foldl (fun ps q=>ps.set q.1 q.2) ps).flatMap pv
 | [],[],ps,cs,gZ,_,_,_=>⟨cs,rfl,gZ⟩
 | [],_::_,_,_,_,_,h,_=>by simp at h
 |_::_,[],_,_,_,_,h,_=>by simp at h
 |(i,v)::vs,(i',q)::qs,ps,cs,gZ,po,hi,hq=>by
  simp only[Jo,Qv.injEq]at hi;obtain⟨u9,hi⟩:=hi;subst u9;obtain⟨h1,p,h2,h3⟩:=hq 0 (i,v) (i,q) rfl rfl;dsimp only at h1 h2 h3;have mQ:=po i p h2;have gD:=(Jn.1 h2).1;have mC:ps=ps.take i++p::ps.drop (i+1):=by grind[Uf,Jb0]
  have gu:ps.set i q=ps.take i++q::ps.drop (i+1):=List.set_eq_take_append_cons_drop .. |>.trans (if_pos gD);have p5:v.cells.size=(pv p).length:=by grind
  have gE:cs.size=((ps.take i).flatMap pv).length+((pv p).length+((ps.drop (i+1)).flatMap pv).length):=by grind[Ko]
  have eI:(v.cells.zipIdx.foldl (fun cs(x:Value×Nat)=>cs.setIfInBounds (((ps.take i).flatMap pv).length+x.2) x.1) cs).toList=(ps.set i q).flatMap pv:=by
   rw[gu];simp only[Qk,Lj,←h1];apply Kv;intro k;rw[←Array.foldl_toList,Kt,show v.cells.zipIdx.toList=v.cells.toList.zipIdx 0 from by simp,zNJ _ _ 0 cs k (by grind)];have uq:cs.toList=((ps.take i).flatMap pv)++(pv p++(ps.drop (i+1)).flatMap pv):=by grind
   have pJ:v.cells.toList.length=(pv p).length:=by rw[h1,h3]
   rw[←Kt,uq]
   generalize (ps.take i).flatMap pv=A
   generalize (ps.drop (i+1)).flatMap pv=B
   generalize v.cells.toList=V at pJ
   generalize pv p=Q at pJ
   by_cases hk:A.length≤k∧k<A.length+V.length
   ·rw[if_pos (by omega),J9 hk.1,Ju (by omega),Qd]
   ·rw[if_neg (by omega)]
    by_cases fj:k<A.length
    ·grind
    ·rw[J9 (by omega),J9 (by omega),J9 (by omega),J9 (by omega),pJ]
  have dS:∀j p',(ps.set i q)[j]? =i7 p'→place j=i7 ((((ps.set i q).take j).flatMap pv).length,(pv p').length):=by
   intro j p' cK;have eu:(((ps.set i q).take j).flatMap pv).length=((ps.take j).flatMap pv).length:=by
    rw[gu]
    conv=>rhs;rw[mC]
    by_cases hj:j≤i
    ·grind
    ·rw[Jb7,Jb7]
     simp only[Qk,J6]
     congr 1
     have:j-(ps.take i).length=(j-(ps.take i).length-1)+1:=by simp;omega
     rw[this,Ld,Ld];simp[h3]
   grind[Q3]
  have hq':∀(j:Nat)(x:Nat×Value)(y:Nat×yS),vs[j]? =i7 x→qs[j]? =i7 y→x.2.cells.toList=pv y.2∧ ∃p,(ps.set i q)[y.1]? =i7 p∧(pv p).length=(pv y.2).length:=by
   intro j x y hx hy;obtain⟨h6,p',h7,h8⟩:=hq (j+1) x y (by grind) (by grind)
   grind[Q3]
  obtain⟨cs',h4,h5⟩:=zGC place vs qs (ps.set i q) _ eI dS hi hq';refine⟨cs',?_,by grind⟩;simp only[Instr.fill,mQ];have aU:(v.cells.size≠(pv p).length||((ps.take i).flatMap pv).length+v.cells.size> cs.size)=ia:=by grind
  grind
theorem uN{t:TypeId}{it:TypeInfo}{fields:Array Field}{z:Value}{places:List (Nat×Nat)}(hi:P.info? t=i7 it)(hu:P.underlying t=i7 (.struct fields))(hz:it.zero=i7 z)
  (hp:fields.toList.mapM (fun f=>(P.info? f.type).map fun i=>(f.offset,i.size))=i7 places)(parts:List (Nat×Value)):P.built t parts=Instr.fill (places.toArray[·]?) z.cells parts:=by
 grind[Program.built]
theorem zKz{t e:TypeId}{n:Nat}{it ie:TypeInfo}{z:Value}(hi:P.info? t=i7 it)(hu:P.underlying t=i7 (.array n e))(hz:it.zero=i7 z)
  (he:P.info? e=i7 ie)(parts:List (Nat×Value)):P.built t parts=Instr.fill (fun i=>i7 (i*ie.size,ie.size)) z.cells parts:=by
 grind[Program.built]
theorem zEZ{G:Gh}:(zs:List T)→(zs.map yS.zero).flatMap (qI G)=qC zs
 | []=>rfl
 |z::zs=>by simp[qI,qC,←zEZ (G:=G) zs]
theorem zQ7(t:TypeId)(place:Nat→Option (Nat×Nat))(z:Value)(zs:List T)(pl:List (Nat×Operand))(qs:List (Nat×yS))(ps:List yS)(ho:o.op=.build t pl.toArray)(gg:o.dst=i7 d)(hd:d<Γ.N)
  (hb:∀parts,P.built t parts=Instr.fill place z.cells parts)(hzv:qC zs=z.cells.toList)(hz:zAh zs=i9)(po:∀i u,zs[i]? =i7 u→place i=i7 (T.sizes (zs.take i),u.size))
  (gT:qs.foldl (fun ps q=>ps.set q.1 q.2) (zs.map yS.zero)=ps)(gB:tK E d ps)(hix:pl.map (·.1)=qs.map (·.1))
  (hq:∀(j:Nat)(x:Nat×Operand)(q:Nat×yS),pl[j]? =i7 x→qs[j]? =i7 q→kP E x.2 q.2∧q.2∈ps∧ ∃u,zs[q.1]? =i7 u∧u.size=q.2.tree.size):
  wL P Γ o E (E.app ((d,i7 (.agg (ps.map yS.tree)))::pWr d ps 0) ((d,0)::sL ps)):=by
 refine wL.value gg fun a w G g9=>?_
 obtain⟨G',gm⟩:=zTJ g9 gB hd;have gw:∀(us:List T),zAh us=i9→((us.map yS.zero).flatMap (qI G)).length=T.sizes us:=by grind[zEZ,zAO]
 obtain⟨cs',h1,h2⟩:=zGC (pv:=qI G) place (pl.map fun x=>(x.1,a.eval x.2)) qs (zs.map yS.zero) z.cells (by rw[zEZ,hzv]) (fun i p hp=>by
   rw[K0]at hp;cases hu:zs[i]? with
   |none=>grind
   |some u=>
    simp[hu]at hp;subst hp;rw[po i u hu,←Jb9,gw _ (zOks_take zs i hz),qI,vA u (zOks_get zs hz i u hu)])
  (by grind[Function.comp_def]) (fun j v q hv hqj=>by
   rw[K0]at hv;cases hx:pl[j]? with
   |none=>grind
   |some x=>
    simp[hx]at hv;subst hv;obtain⟨h3,h4,u,h5,h6⟩:=hq j x q hx hqj;refine⟨zAv g9 gB h4 h3,.zero u,by simp[h5],?_⟩;rw[qI,vA u (zOks_get zs hz _ u h5),h6];cases tx:q.2 with
    |slot s t=>
     rw[tx]at h4;obtain⟨_,_,h7⟩:=gB.slot s t h4;exact(vC t [] (by rintro xs rfl;grind[T.okTup])).symm
    |zero u'=>
     rw[tx]at h4;exact(vA u' (gB.zero u' h4)).symm)
 rw[gT]at h2;have h3:cs'=(ps.flatMap (qI G)).toArray:=by rw[←h2]
 refine⟨_,w,?_,G',gm⟩;have gx:=run_build (P:=P) w t (pl.map fun x=>(x.1,a.eval x.2)).toArray cs' (by grind);simp only[Qf,execOp,ho,Sem.run_bind]at gx ⊢
 rw[show(List.map (fun x=>match x with|(i,x)=>(i,a.eval x)) pl)=List.map (fun x=>(x.1,a.eval x.2)) pl from rfl,gx,h3];rfl
where
 zOks_get:(xs:List T)→zAh xs=i9→ ∀(i:Nat)(x:T),xs[i]? =i7 x→x.zOk=i9
  | [],_,_,_,h=>by simp at h
  |y::ys,hk,i,x,h=>by
   simp only[zAh,J3]at hk;cases i with
   |zero=>grind
   |succ i=>exact zOks_get ys hk.2 i x (by grind)
 zOks_take:(xs:List T)→ ∀i,zAh xs=i9→zAh (xs.take i)=i9
  | [],i,_=>by simp[zAh]
  |y::ys,0,_=>by simp[zAh]
  |y::ys,i+1,hk=>by
   simp only[zAh,J3,Ld]at hk ⊢
   exact⟨hk.1,zOks_take ys i hk.2⟩
end
end Go.Ab

namespace Go.Ab
open Go
mutual
def vD:T→T→Bool
 |.agg xs,.agg ys=>kB xs ys
 |.agg _,_=>ia
 |.tup _,_=>ia
 |_,.agg _=>ia
 |_,.tup _=>ia
 |.any,_|.lit _,_|.ro _,_|.same _ _,_|.addr _ _,_|.sub _ _ _ _ _,_|.sl _ _,_|.ptr _,_=>i9
def kB:List T→List T→Bool
 | [],[]=>i9
 |x::xs,y::ys=>vD x y&&kB xs ys
 | [],_::_=>ia
 |_::_,[]=>ia
end
mutual
theorem zCh:(x y:T)→vD x y=i9→x.size=y.size
 |.agg xs,.agg ys,h=>by simp only[vD]at h;simp only[T.size];exact zEj xs ys h
 |.agg _,.any,h|.agg _,.lit _,h|.agg _,.ro _,h|.agg _,.same _ _,h|.agg _,.addr _ _,h|.agg _,.sub _ _ _ _ _,h|.agg _,.sl _ _,h|.agg _,.ptr _,h|.agg _,.tup _,h=>by grind[vD]
 |.tup _,_,h=>by grind[vD]
 |.any,y,h|.lit _,y,h|.ro _,y,h|.same _ _,y,h|.addr _ _,y,h|.sub _ _ _ _ _,y,h|.sl _ _,y,h|.ptr _,y,h=>by cases y<;>simp[vD]at h<;>simp[T.size]
theorem zEj:(xs ys:List T)→kB xs ys=i9→T.sizes xs=T.sizes ys
 | [],[],_=>rfl
 |x::xs,y::ys,h=>by simp only[kB,J3]at h;simp only[T.sizes,zCh x y h.1,zEj xs ys h.2]
 | [],_::_,h=>by grind[kB]
 |_::_,[],h=>by grind[kB]
end
section
variable {G:Gh}{w:World}{s:Nat}
mutual
theorem zJr:(t:T)→ ∀(p:List Nat)(b o j:Nat),Loc G w s t p b o→j<t.size→ ∃y,G.lb b (o+j)=i7 (ia,s,y++p)
 |.agg xs,p,b,o,j,h,hj=>by simp only[Loc,T.size]at h hj;exact zNK xs p 0 b o j h.2 hj
 |.any,p,b,o,j,h,hj|.lit _,p,b,o,j,h,hj|.ro _,p,b,o,j,h,hj|.same _ _,p,b,o,j,h,hj|.addr _ _,p,b,o,j,h,hj|.sub _ _ _ _ _,p,b,o,j,h,hj|.sl _ _,p,b,o,j,h,hj|.ptr _,p,b,o,j,h,hj=>by
  simp only[Loc,T.size]at h hj
  simp_all
 |.tup _,_,_,_,_,h,_=>by grind[Loc]
theorem zNK:(xs:List T)→ ∀(p:List Nat)(i b o j:Nat),vE G w s xs p i b o→j<T.sizes xs→ ∃y,G.lb b (o+j)=i7 (ia,s,y++p)
 | [],_,_,_,_,_,_,hj=>by grind[T.sizes]
 |x::xs,p,i,b,o,j,h,hj=>by
  simp only[vE,T.sizes]at h hj
  by_cases gD:j<x.size
  ·obtain⟨y,hy⟩:=zJr x (i::p) b o j h.1 gD
   exact⟨y++[i],by grind⟩
  ·obtain⟨y,hy⟩:=zNK xs p (i+1) b (o+x.size) (j-x.size) h.2 (by omega)
   grind
end
mutual
theorem zQ8{G':Gh}{w':World}:(u u0:T)→ ∀(p:List Nat)(b o:Nat),vD u u0=i9→(∀y,u.inT y.reverse=i9→G'.ad s (y++p)=G.ad s (y++p))→
  (∀b o y,G.lb b o=i7 (ia,s,y++p)→G'.lb b o=i7 (ia,s,y++p))→(∀j v,(vals G' s u p)[j]? =i7 v→yO w' b (o+j)=i7 v)→Loc G w s u0 p b o→Loc G' w' s u p b o
 |.agg xs,.agg ys,p,b,o,h,ha,hl,hc,h0=>by
  simp only[Loc,vD]at h h0 ⊢
  refine⟨by have:=ha [] rfl;grind,zNL xs ys p 0 b o h (fun i x hx y hy=>?_) (by omega) (by grind[vals]) h0.2⟩;have:=ha (y++[i]) (by grind[T.inT])
  grind
 |.agg _,.any,_,_,_,h,_,_,_,_|.agg _,.lit _,_,_,_,h,_,_,_,_|.agg _,.ro _,_,_,_,h,_,_,_,_|.agg _,.same _ _,_,_,_,h,_,_,_,_|.agg _,.addr _ _,_,_,_,h,_,_,_,_|.agg _,.sub _ _ _ _ _,_,_,_,h,_,_,_,_|.agg _,.sl _ _,_,_,_,h,_,_,_,_|.agg _,.ptr _,_,_,_,h,_,_,_,_|.agg _,.tup _,_,_,_,h,_,_,_,_=>by grind[vD]
 |.tup _,_,_,_,_,h,_,_,_,_=>by grind[vD]
 |.any,u0,p,b,o,h,ha,hl,hc,h0|.lit _,u0,p,b,o,h,ha,hl,hc,h0|.ro _,u0,p,b,o,h,ha,hl,hc,h0|.same _ _,u0,p,b,o,h,ha,hl,hc,h0|.addr _ _,u0,p,b,o,h,ha,hl,hc,h0|.sub _ _ _ _ _,u0,p,b,o,h,ha,hl,hc,h0|.sl _ _,u0,p,b,o,h,ha,hl,hc,h0|.ptr _,u0,p,b,o,h,ha,hl,hc,h0=>by have h1:=wZ (by cases u0<;>simp[vD]at h<;>rfl) h0;have h2:=ha [] rfl;rw[Jt]at h2;simp only[Loc];exact⟨h2.trans h1.1,by simp_all,by simpa using hc 0 (G'.hd s p) (by simp[vals])⟩
theorem zNL{G':Gh}{w':World}:(xs ys:List T)→ ∀(p:List Nat)(j b o:Nat),kB xs ys=i9→(∀i x,xs[i]? =i7 x→ ∀y,x.inT y.reverse=i9→G'.ad s (y++((j+i)::p))=G.ad s (y++((j+i)::p)))→
  (∀b o y,G.lb b o=i7 (ia,s,y++p)→G'.lb b o=i7 (ia,s,y++p))→(∀i v,(yI G' s xs p j)[i]? =i7 v→yO w' b (o+i)=i7 v)→vE G w s ys p j b o→vE G' w' s xs p j b o
 | [],[],_,_,_,_,_,_,_,_,_=>by grind[vE]
 |x::xs,y::ys,p,j,b,o,h,ha,hl,hc,h0=>by
  simp only[kB,J3,vE]at h h0 ⊢
  have hs:=zCh x y h.1;have ee:∀zs,x≠.tup zs:=by rintro zs rfl;grind[vD]
  refine⟨zQ8 x y (j::p) b o h.1 (fun z hz=>by simpa using ha 0 x (by simp) z hz) (fun b o z hz=>by have:=hl b o (z++[j]) (by grind);grind) (fun i v hv=>hc i v ?_) h0.1,
   zNL xs ys p (j+1) b (o+x.size) h.2 (fun i z hz=>by have:=ha (i+1) z (by grind);grind) hl (fun i v hv=>?_) (by grind)⟩
  ·grind[yI]
  ·have:=hc (x.size+i) v (by
    grind[yI,vC])
   grind
 | [],_::_,_,_,_,_,h,_,_,_,_=>by grind[kB]
 |_::_,[],_,_,_,_,h,_,_,_,_=>by grind[kB]
end
end
def zGb(p:yS)(q:List Nat)(s:Nat)(z:List Nat):Option (List Nat):=
 match p with
 |.slot s0 t=>if sK t&&s0==s then i7 (z++q)else i8
 |.zero _=>i8
def sHd(G:Gh)(p:yS)(y:List Nat):Value:=
 match p with
 |.slot s _=>G.hd s y
 |.zero u=>jQ (zhd u y.reverse)
def sWr(r:Nat)(q:List Nat):yS→Wr
 |.slot s t=>if sK t then[(s,i7 (cpT r t q))]else[]
 |.zero _=>[]
def Gh.st(G:Gh)(r:Nat)(q:List Nat)(p:yS):Gh where
 hd s z:=if s=r∧q<:+z then sHd G p (z.take (z.length-q.length))else G.hd s z
 ad s z:=if s=r∧q<:+z∧p.tree.inT (z.take (z.length-q.length)).reverse=ia then(match p with
  |.slot s0 _=>G.ad s0 (z.take (z.length-q.length))
  |.zero _=>default)else G.ad s z
 lb b o:=match G.lb b o with
  |some (fl,s,z)=>(match zGb p q s z with
   |some z'=>i7 (fl,r,z')
   |none=>i7 (fl,s,z))
  |none=>i8
 ow b:=match G.ow b with
  |some (s,z)=>(match zGb p q s z with
   |some z'=>i7 (r,z')
   |none=>i7 (s,z))
  |none=>i8
mutual
theorem zK0{Γ:Ctx}{G:Gh}{w:World}(hm:Mem Γ G w){s:Nat}:(t:T)→ ∀(p:List Nat)(v:Value),v∈vals G s t p→v.oneCell'=i9
 |.agg xs,p,v,h=>by simp only[vals]at h;exact zCQ hm xs p 0 v h
 |.any,p,v,h|.lit _,p,v,h|.ro _,p,v,h|.same _ _,p,v,h|.addr _ _,p,v,h|.sub _ _ _ _ _,p,v,h|.sl _ _,p,v,h|.ptr _,p,v,h|.tup _,p,v,h=>by simp only[vals,List.mem_singleton]at h;rw[h];exact hm.one s p
theorem zCQ{Γ:Ctx}{G:Gh}{w:World}(hm:Mem Γ G w){s:Nat}:(xs:List T)→ ∀(p:List Nat)(j:Nat)(v:Value),v∈yI G s xs p j→v.oneCell'=i9
 | [],_,_,_,h=>by grind[yI]
 |x::xs,p,j,v,h=>by
  simp only[yI,Jd]at h;rcases h with h|h
  ·exact zK0 hm x _ v h
  ·exact zCQ hm xs p _ v h
end
mutual
theorem zFa:(u:T)→u.zOk=i9→ ∀v∈tR u,v.oneCell'=i9
 |.lit v,h,x,hx=>by simp only[tR,List.mem_singleton]at hx;rw[hx];exact h
 |.sl _ _,_,x,hx=>by simp only[tR,List.mem_singleton]at hx;rw[hx];rfl
 |.agg xs,h,x,hx=>by simp only[T.zOk]at h;simp only[tR]at hx;exact zGD xs h x hx
 |.any,h,_,_|.ro _,h,_,_|.same _ _,h,_,_|.addr _ _,h,_,_|.sub _ _ _ _ _,h,_,_|.ptr _,h,_,_|.tup _,h,_,_=>by grind[T.zOk]
theorem zGD:(xs:List T)→zAh xs=i9→ ∀v∈qC xs,v.oneCell'=i9
 | [],_,_,h=>by grind[qC]
 |x::xs,h,v,hv=>by
  simp only[zAh,J3]at h;simp only[qC,Jd]at hv;rcases hv with hv|hv
  ·exact zFa x h.1 v hv
  ·exact zGD xs h.2 v hv
end
theorem zK1(y q:List Nat):(y++q).take ((y++q).length-q.length)=y:=by simp
theorem zM5{Γ:Ctx}{G G':Gh}{w':World}{s d:Nat}{q:List Nat}{t:T}{v:Option Value}(hv:v=i7 (mkV G s t []))(ee:∀xs,t≠.tup xs)(hs:∀p,G'.hd s p=G.hd s p)(bf:∀z,G'.hd d (z++q)=G.hd s z)
  (hr:R Γ.St G' w' d t q):Ent Γ G' w' v s (cpT d t q):=by
 have hz:∀z,G'.hd s (z++[])=G'.hd d (z++q):=by grind
 refine⟨?_,?_,qN d t q⟩
 ·rw[hv,zAu (G:=G') (G':=G') t q [] ee hz,kG G s t [] ee,zB0 t [] q (fun z=>by rw[bf,Je])]
 ·exact zD7 (G:=G') (G':=G') (fun _=>rfl) t q [] hz ee (xC.triv (fun _ _=>⟨rfl,rfl⟩) _) hr
section
variable {P:Program}{Γ:Ctx}{E:Env}{o:Oper}
theorem jR:(f:List Nat)→ ∀(t u:T),yD t→yD u→yD (t.set f u)
 | [],t,u,_,hu=>by grind[T.set]
 |i::f,t,u,ht,hu=>by
  cases t with
  |sl k xs=>
   simp only[T.set];split
   ·rename_i x hx
    simp only[yD,xC]at ht ⊢
    exact sets_clean xs i _ ht (jR f x u (uL xs ht i x hx) hu)
   ·exact ht
  |agg xs=>
   simp only[T.set];split
   ·rename_i x hx
    simp only[yD,xC]at ht ⊢
    exact sets_clean xs i _ ht (jR f x u (uL xs ht i x hx) hu)
   ·exact ht
  |tup xs=>
   simp only[T.set];split
   ·rename_i x hx
    simp only[yD,xC]at ht ⊢
    exact sets_clean xs i _ ht (jR f x u (uL xs ht i x hx) hu)
   ·exact ht
  |ptr t=>
   simp only[T.set];split
   ·simp only[yD,xC]at ht ⊢
    exact jR f t u ht hu
   ·exact ht
  |_=>grind[T.set]
where sets_clean:(xs:List T)→ ∀(i:Nat)(y:T),xQ xs→yD y→xQ (xs.set i y)
 | [],_,_,_,_=>by grind
 |x::xs,0,y,h,hy=>by simp_all[xX]
 |x::xs,i+1,y,h,hy=>by simp only[L9,xQ,xX]at h ⊢;exact⟨h.1,sets_clean xs i y h.2 hy⟩
theorem zFb(T':TypeId)(ti:TypeInfo)(x y:Operand)(r:Nat)(q:List Nat)(tr u0:T)(p:yS)(ho:o.op=.store T' x y)(gg:o.dst=i8)
  (hi:P.info? T'=i7 ti)(gw:ti.size=p.tree.size)(pm:0<ti.size)(hx:zAB Γ E x r q)(hr:E r=i7 tr)(aP:tr.single=i9)(hg:tr.get q.reverse=i7 u0)(hl:tr.locd q.reverse=i9)
  (fN:vD p.tree u0=i9)(hy:kP E y p)(gT:tK E r [p]):
  wL P Γ o E (E.app ((r,i7 (tr.set q.reverse p.tree))::sWr r q p) ((r,q.length)::sL [p])):=by
 refine wL.skip gg fun a w G g9=>?_
 have hm:=g9.mem;have bm:=hx a w G g9;obtain⟨e3,e4,e5⟩:=g9.ent r _ hr;have tz:q≠[]:=by rintro rfl;simp[T.locd]at hl
 obtain⟨i0,f0,dL⟩:∃i f,q.reverse=i::f:=by
  cases h:q.reverse with
  |nil=>exact absurd (by simpa using h) tz
  |cons i f=>exact⟨i,f,rfl⟩
 have t9:∀v:T,(tr.set q.reverse v).single=i9∧yD tr:=by
  intro v;rw[dL]at hg ⊢
  cases tr with
  |sl k xs=>exact⟨by simp only[T.set];split<;>rfl,by simpa only[Top,yD,xC]using e5⟩
  |ptr t=>exact⟨by simp only[T.set];split<;>rfl,by simpa only[Top,yD,xC]using e5⟩
  |agg xs=>simp[T.single]at aP
  |tup xs=>simp[T.single]at aP
  |_=>simp[T.get]at hg
 obtain⟨b,ob,cs,et,pR,gJ,ui⟩:=(zA9 q.reverse tr u0 [] e4 hg).2 hl;simp only[rp,Ki,Je]at pR;have hru0:=(zA9 q.reverse tr u0 [] e4 hg).1;have fc:=zB1 pR;have th:=zCh _ _ fN;have hc:=zAv g9 gT (by simp) hy;have cS:(a.eval y).cells.size=p.tree.size:=by
  rw[←Ko,hc];cases p with
  |slot s t=>obtain⟨_,_,h3⟩:=gT.slot s t (by simp);exact vC t [] (by rintro xs rfl;simp[T.okTup]at h3)
  |zero u=>exact vA u (gT.zero u (by simp))
 have gz:∀v∈(a.eval y).cells.toList,v.oneCell'=i9:=by
  rw[hc];intro v hv;cases p with
  |slot s t=>exact zK0 hm t [] v hv
  |zero u=>exact zFa u (gT.zero u (by simp)) v hv
 generalize eE:w.setRow b (cs.toList.take ob++(a.eval y).cells.toList++cs.toList.drop (ob+(a.eval y).cells.toList.length)).toArray=w'
 have eI:w'.heap[b]? =i7 (.cells (cs.toList.take ob++(a.eval y).cells.toList++cs.toList.drop (ob+(a.eval y).cells.toList.length)).toArray et (0,0)):=by rw[←eE];exact setRow_heap w b cs _ et _ gJ
 have gH:∀b',b'≠b→w'.heap[b']? =w.heap[b']?:=fun b' h=>by rw[←eE];exact setRow_other w b b' _ h
 have gN:w'.heap.size=w.heap.size:=by rw[←eE];exact size_setRow w b _
 have gE:(a.eval y).cells.toList.length=u0.size:=by rw[Ko,cS,th]
 have fm:∀k,yO w' b k=if ob≤k∧k<ob+u0.size then(qI G p)[k-ob]? else yO w b k:=by
  intro k;simp only[yO,World.cell?,eI,gJ,Uk,Hq,if_false];rw[←hc,←gE]at*
  rw[←Kt,←Kt (xs:=cs)];simp only[];have gZ:cs.toList.length=cs.size:=Ko ..
  generalize (a.eval y).cells.toList=V at*
  by_cases h1:k<ob
  ·rw[if_neg (by omega),Jc,Ju (by simp;omega),Gw h1]
  ·by_cases h2:k<ob+V.length
   ·rw[if_pos ⟨by omega,h2⟩,Jc,J9 (by simp;omega),Ju (by simp;omega)]
    congr 1;simp;omega
   ·rw[if_neg (by omega),Jc,J9 (by simp;omega),J9 (by simp;omega),He]
    congr 1;simp;omega
 have co:∀b' o' fl s z,G.lb b' o'=i7 (fl,s,z)→ ¬(s=r∧q<:+z)→yO w' b' o'=yO w b' o':=by
  intro b' o' fl s z h1 h2
  by_cases hb:b'=b
  ·subst hb
   rw[fm];split
   ·rename_i h3
    obtain⟨y',h4⟩:=zJr u0 q b' ob (o'-ob) pR (by omega);rw[show ob+(o'-ob)=o' from by omega,h1]at h4;simp at h4;exact absurd ⟨h4.2.1,y',h4.2.2.symm⟩ h2
   ·rfl
  ·simp[yO,World.cell?,gH b' hb]
 have ep:Blk w w':=by
  intro b' cs' e' h1
  by_cases hb:b'=b
  ·subst hb
   rw[gJ]at h1;simp at h1;obtain⟨rfl,rfl⟩:=h1;exact⟨_,eI,by simp;have:cs.toList.length=cs.size:=Ko ..;omega⟩
  ·exact⟨cs',by rw[gH b' hb];exact h1,rfl⟩
 generalize gm:G.st r q p=G'
 have ghd:∀y',G'.hd r (y'++q)=sHd G p y':=fun y'=>by rw[←gm];simp[Gh.st]
 have ghd':∀s z,¬(s=r∧q<:+z)→G'.hd s z=G.hd s z:=fun s z h=>by rw[←gm];simp only[Gh.st];rw[if_neg h]
 have gad:∀s z,¬(s=r∧q<:+z)→G'.ad s z=G.ad s z:=fun s z h=>by rw[←gm];simp only[Gh.st];rw[if_neg (fun h2=>h ⟨h2.1,h2.2.1⟩)]
 have gadf:∀y',p.tree.inT y'.reverse=i9→G'.ad r (y'++q)=G.ad r (y'++q):=fun y' h=>by rw[←gm];simp only[Gh.st,zK1];rw[if_neg (by simp[h])]
 have gadm:∀s0 t y',p=.slot s0 t→t.inT y'.reverse=ia→G'.ad r (y'++q)=G.ad s0 y':=fun s0 t y' h1 h2=>by subst h1;rw[←gm];simp only[Gh.st,zK1,yS.tree];rw[if_pos];simp[h2]
 have glb:∀b' o' fl s z,G.lb b' o'=i7 (fl,s,z)→zGb p q s z=i8→G'.lb b' o'=i7 (fl,s,z):=fun b' o' fl s z h1 h2=>by rw[←gm];simp[Gh.st,h1,h2]
 have glbm:∀b' o' fl s z z',G.lb b' o'=i7 (fl,s,z)→zGb p q s z=i7 z'→G'.lb b' o'=i7 (fl,r,z'):=fun b' o' fl s z z' h1 h2=>by rw[←gm];simp[Gh.st,h1,h2]
 have gow:∀b' s z,G.ow b'=i7 (s,z)→zGb p q s z=i8→G'.ow b'=i7 (s,z):=fun b' s z h1 h2=>by rw[←gm];simp[Gh.st,h1,h2]
 have gowm:∀b' s z z',G.ow b'=i7 (s,z)→zGb p q s z=i7 z'→G'.ow b'=i7 (r,z'):=fun b' s z z' h1 h2=>by rw[←gm];simp[Gh.st,h1,h2]
 have a7:∀s z,(∀n,(s,n)∉(r,q.length)::sL [p])→zGb p q s z=i8:=by
  intro s z h;cases p with
  |zero u=>rfl
  |slot s0 t=>
   simp only[zGb];rw[if_neg];intro h2;simp only[J3,beq_iff_eq]at h2;obtain⟨h3,rfl⟩:=h2;exact h 1 (by simp[sL,xR,h3])
 have pq:∀z,zGb p q r z=i8:=by
  intro z;cases p with
  |zero u=>rfl
  |slot s0 t=>
   simp only[zGb];rw[if_neg];intro h2;simp only[J3,beq_iff_eq]at h2;obtain⟨h3,rfl⟩:=h2;have:=(L8.1 gT.dist).1;simp[xR,h3]at this
 have mi:∀s z,Off ((r,q.length)::sL [p]) s z→ ¬(s=r∧q<:+z):=by
  rintro s z h ⟨rfl,h2⟩
  have:=h q.length (by simp);have:=h2.length_le;omega
 have gv:qR ((r,q.length)::sL [p]) G w G' w':=by
  refine⟨fun s z h=>ghd' s z (mi s z h),fun s z h=>gad s z (mi s z h),fun b' o' fl s z _ h1 h2=>⟨glb b' o' fl s z h1 (a7 s z h2),co b' o' fl s z h1 ?_⟩,fun b' s z h1 h2=>gow b' s z h1 (a7 s z h2),ep⟩
  rintro⟨rfl,_⟩
  exact h2 q.length (by simp)
 have bM:zCb Γ w b:=by obtain⟨y',h4⟩:=zJr u0 q b ob 0 pR (by omega);exact hm.lb _ _ _ h4
 have gp:Mem Γ G' w':=by
  refine⟨fun s z=>?_,fun b' o' l hl=>?_,fun b' l hl=>?_,fun b' x' eh=>?_,fun b' h1 h2=>?_,by rw[gN];exact hm.sz,hm.bk.trans ep (by rw[←eE];rfl) (by rw[←eE];rfl)⟩
  ·by_cases h:s=r∧q<:+z
   ·obtain⟨rfl,y',rfl⟩:=h
    rw[ghd];unfold sHd;split
    ·exact hm.one _ _
    ·exact zBc _
   ·rw[ghd' s z h];exact hm.one s z
  ·have:∃l',G.lb b' o'=i7 l':=by
    rw[←gm]at hl;simp only[Gh.st]at hl;split at hl
    ·exact⟨_,by assumption⟩
    ·cases hl
   obtain⟨l',b5⟩:=this;have:=hm.lb b' o' l' b5;exact⟨by rw[gN];exact this.1,this.2⟩
  ·have:∃l',G.ow b'=i7 l':=by
    rw[←gm]at hl;simp only[Gh.st]at hl;split at hl
    ·exact⟨_,by assumption⟩
    ·cases hl
   obtain⟨l',b5⟩:=this;have:=hm.ow b' l' b5;exact⟨by rw[gN];exact this.1,this.2⟩
  ·have hb:b'≠b:=by rintro rfl;rw[bM.2.2]at eh;cases eh
   rw[gH b' hb];exact hm.st b' x' eh
  ·have hb:b'≠b:=by
    rintro rfl
    rcases bM.2.1 with h3|h3
    ·omega
    ·exact h2 h3
   rw[gH b' hb];exact hm.fr b' h1 h2
 have dg:Upd G w G' w' r q:=by refine⟨fun z h=>ghd' r z (fun h2=>h h2.2),fun z h=>gad r z (fun h2=>h h2.2),fun b' o' fl z h1 h=>⟨glb b' o' fl r z h1 (pq z),co b' o' fl r z h1 (fun h2=>h h2.2)⟩,fun b' z h1 _=>gow b' r z h1 (pq z),ep⟩
 have bC:R Γ.St G' w' r p.tree q:=by
  cases hp:p with
  |zero u=>
   refine zJp u q (gT.zero u (by simp[hp])) (fun z=>by rw[ghd];simp[sHd,hp])
  |slot s0 t=>
   obtain⟨h1,h2,h3⟩:=gT.slot s0 t (by simp[hp]);have f8:=(g9.ent s0 t h1).2.1
   by_cases py:sK t=i9
   ·have dq:s0≠r:=by
     rintro rfl
     have:=(L8.1 gT.dist).1;simp[hp,xR,py]at this
    refine zKx t [] q h3 ⟨fun z=>by rw[ghd,Je];simp[sHd,hp],fun z hz=>by rw[Je];exact gadm s0 t z hp hz,fun b' o' fl z _ h4=>?_,fun b' z h4=>?_,ep⟩ (xC.mono (fun _ _=>False.elim) t h2) f8
    ·rw[Je]at h4
     exact⟨glbm b' o' fl s0 z _ h4 (by simp[zGb,hp,py]),co b' o' fl s0 z h4 (fun h5=>dq h5.1)⟩
    ·rw[Je]at h4
     exact gowm b' s0 z _ h4 (by simp[zGb,hp,py])
   ·have hh:G'.hd r q=G.hd s0 []:=by have:=ghd [];rw[Jt]at this;rw[this];simp[sHd,hp]
    cases t<;>simp[sK]at py<;>simp only[R,yS.tree]at f8 ⊢ <;>rw[hh]<;>exact f8
 have p6:vals G' r p.tree q=qI G p:=by
  cases hp:p with
  |zero u=>exact zEY u q (gT.zero u (by simp[hp])) (fun z=>by rw[ghd];simp[sHd,hp])
  |slot s0 t=>exact zAA t [] q (fun z=>by rw[ghd];simp[sHd,hp])
 have aj:∀b' o',Loc G w r u0 q b' o'→Loc G' w' r p.tree q b' o':=by
  intro b' o' h1;have h2:b'=b∧o'=ob:=by have:=(zB1 h1).symm.trans fc;simp at this;exact this
  obtain⟨rfl,rfl⟩:=h2;refine zQ8 p.tree u0 q b' o' fN (fun y' h=>gadf y' h) (fun b2 o2 y' h=>glb b2 o2 ia r _ h (pq _)) (fun j v hv=>?_) h1;rw[p6]at hv;have hj:=(Jn.1 hv).1;have po:(qI G p).length=u0.size:=by rw[←hc,gE]
  rw[fm,if_pos ⟨by omega,by omega⟩,show o'+j-o'=j from by omega];exact hv
 have tp:R Γ.St G' w' r (tr.set q.reverse p.tree) []:=by
  have cJ:rp q.reverse []=q:=by simp[rp]
  refine zFD q.reverse tr p.tree u0 [] (by rw[cJ];exact dg) e4 hg th (xC.mono (fun _ _=>False.elim) tr (t9 .any).2) (by rw[cJ];exact aj) (by rw[cJ];exact bC)
 have gA:=run_storeCells_at P b ob et (a.eval y).cells.toList 0 cs w gJ (by omega) gz;simp only[Qd]at gA;rw[eE]at gA;refine⟨w',?_,G',vF g9 rfl gv gp ?_ ?_⟩
 ·have dj:(a.eval y).cells.size=ti.size:=by rw[cS,gw]
  simp[execOp,ho,bm,fc,Instr.storeAt,tV,storeVar,sizeOf,typeInfo,hi,dj,gA]
 ·intro s hs
  simp only[Wr.find]at hs;split at hs
  ·cases hs
  ·rename_i gf
   refine⟨fun n hn=>?_,rfl⟩;simp only[J8,Jaj.injEq]at hn;rcases hn with⟨h1,_⟩|hn
   ·exact gf h1.symm
   ·cases p with
    |zero u=>simp[sL,xR]at hn
    |slot s0 t=>
     by_cases py:sK t=i9
     ·simp[sL,xR,py]at hn
      simp[sWr,py,Wr.find,hn.1.symm]at hs
     ·simp[sL,xR,py]at hn
 ·intro s t hs
  simp only[Wr.find]at hs;split at hs
  ·rename_i he
   subst he;simp at hs;subst hs;refine⟨?_,tp,Top.of_clean _ (jR _ _ _ (t9 .any).2 ?_)⟩
   ·rw[e3,xN (t9 p.tree).1,xN aP]
    congr 1
    exact(ghd' r [] (fun h=>tz (by simpa using h.2))).symm
   ·cases p with
    |zero u=>exact(zBd u (gT.zero u (by simp))).1
    |slot s0 t=>exact(gT.slot s0 t (by simp)).2.1
  ·rename_i gf
   cases hp:p with
   |zero u=>simp[sWr,hp,Wr.find]at hs
   |slot s0 t0=>
    by_cases py:sK t0=i9
    ·simp only[sWr,hp,py,if_true,Wr.find]at hs
     split at hs
     ·rename_i he
      subst he;simp at hs;subst hs;obtain⟨h1,h2,h3⟩:=gT.slot s0 t0 (by simp[hp]);refine zM5 (G:=G) (g9.ent s0 t0 h1).1 (by rintro xs rfl;simp[T.okTup]at h3) (fun z=>ghd' s0 z (fun h=>gf h.1.symm)) (fun z=>by rw[ghd];simp[sHd,hp]) (by rw[hp]at bC;exact bC)
     ·cases hs
    ·simp[sWr,hp,py,Wr.find]at hs
theorem zK2(T':TypeId)(ti:TypeInfo)(x y:Operand)(r:Nat)(q:List Nat)(tr u0:T)(p:yS)(ho:o.op=.store T' x y)(gg:o.dst=i8)
  (hi:P.info? T'=i7 ti)(gw:ti.size=p.tree.size)(pm:0<ti.size)(hx:opT E x=i7 (.addr r q))(hr:E r=i7 tr)(aP:tr.single=i9)(hg:tr.get q.reverse=i7 u0)(hl:tr.locd q.reverse=i9)
  (fN:vD p.tree u0=i9)(hy:kP E y p)(gT:tK E r [p]):
  wL P Γ o E (E.app ((r,i7 (tr.set q.reverse p.tree))::sWr r q p) ((r,q.length)::sL [p])):=
 by grind[zFb,zAB.addr]
end
end Go.Ab

namespace Go.Ab
open Go
section
variable {G G':Gh}{s:Nat}
theorem zM6(xs:List T):∀(p:List Nat)(j:Nat),(∀k,j≤k→ ∀z,G'.hd s (z++(k::p))=G.hd s (z++(k::p)))→yI G' s xs p j=yI G s xs p j:=by
 induction xs with
 |nil=>grind[yI]
 |cons z zs ih=>
  intro p j h;simp only[yI];rw[zAA z (j::p) (j::p) (h j (Ji _)),ih p (j+1) (by grind)]
theorem zPe(xs:List T):∀(p:List Nat)(j i:Nat)(x y:T),xs[i]? =i7 x→(∀k,k≠j+i→ ∀z,G'.hd s (z++(k::p))=G.hd s (z++(k::p)))→
  vals G' s y ((j+i)::p)=vals G s x ((j+i)::p)→yI G' s (xs.set i y) p j=yI G s xs p j:=by
 induction xs with
 |nil=>simp
 |cons z zs ih=>
  intro p j i x y h hz hy;cases i with
  |zero=>
   grind[yI,zM6]
  |succ i=>
   simp only[L9,yI];rw[zAA z (j::p) (j::p) (hz j (by omega)),ih p (j+1) i x y (by grind) (by grind) (by grind)]
theorem zK3:(f:List Nat)→ ∀(t u u0:T)(p:List Nat),t.get f=i7 u0→u0.single=i9→u.single=i9→(∀z,(rp f p<:+z→z=rp f p)→G'.hd s z=G.hd s z)→vals G' s (t.set f u) p=vals G s t p
 | [],t,u,u0,p,hg,h0,h1,hh=>by simp[T.get]at hg;subst hg;have:G'.hd s p=G.hd s p:=hh p (by simp[rp]);simp only[T.set];cases t<;>simp[T.single]at h0<;>cases u<;>simp[T.single]at h1<;>simp[vals,this]
 |i::f,t,u,u0,p,hg,h0,h1,hh=>by
  rw[zBz]at hh;have hp:G'.hd s p=G.hd s p:=by grind[kA]
  cases t with
  |agg xs=>
   simp only[T.get]at hg;cases hx:xs[i]? with
   |none=>grind
   |some x=>
    rw[hx]at hg;simp only[T.set,hx,vals];refine zPe xs p 0 i x _ hx (by grind[jO]) ?_;rw[Jb];exact zK3 f x u u0 (i::p) hg h0 h1 hh
  |tup xs=>
   grind[T.set,vals]
  |sl k xs=>grind[T.set,vals]
  |ptr t=>grind[T.set,vals]
  |_=>grind[T.get]
theorem zK4(f:List Nat)(t u u0:T)(p:List Nat)(hg:t.get f=i7 u0)(h0:u0.single=i9)(h1:u.single=i9)(hh:∀z,(rp f p<:+z→z=rp f p)→G'.hd s z=G.hd s z)(ee:∀xs,t≠.tup xs):
  sJ G' s (t.set f u) p=sJ G s t p:=by
 have h:=zK3 f t u u0 p hg h0 h1 hh;cases f with
 |nil=>
  simp[T.get]at hg;subst hg;have:G'.hd s p=G.hd s p:=hh p (by simp[rp]);simp only[T.set];cases t<;>simp[T.single]at h0<;>cases u<;>simp[T.single]at h1<;>simp[sJ,this]
 |cons i f=>
  rw[zBz]at hh;have hp:G'.hd s p=G.hd s p:=by grind[kA]
  cases t with
  |agg xs=>
   grind[T.set,vals,sJ]
  |tup xs=>grind
  |sl k xs=>grind[T.set,sJ]
  |ptr t=>grind[T.set,sJ]
  |_=>grind[T.get]
theorem zPf(xs:List T):∀(p:List Nat)(j:Nat),(∀k,j≤k→ ∀z,G'.hd s (z++(k::p))=G.hd s (z++(k::p)))→jH G' s xs p j=jH G s xs p j:=by
 induction xs with
 |nil=>grind[jH]
 |cons z zs ih=>
  intro p j h;simp only[jH];rw[zB0 z (j::p) (j::p) (h j (Ji _)),ih p (j+1) (by grind)]
theorem zQ9(xs:List T):∀(p:List Nat)(j i:Nat)(x y:T),xs[i]? =i7 x→(∀k,k≠j+i→ ∀z,G'.hd s (z++(k::p))=G.hd s (z++(k::p)))→
  sJ G' s y ((j+i)::p)=sJ G s x ((j+i)::p)→jH G' s (xs.set i y) p j=jH G s xs p j:=by
 induction xs with
 |nil=>simp
 |cons z zs ih=>
  intro p j i x y h hz hy;cases i with
  |zero=>
   grind[jH,zPf]
  |succ i=>
   simp only[L9,jH];rw[zB0 z (j::p) (j::p) (hz j (by omega)),ih p (j+1) i x y (by grind) (by grind) (by grind)]
def xU:T→Bool
 |.tup xs=>xs.all fun x=>match x with
  |.tup _=>ia
  |_=>i9
 |_=>i9
theorem zJs(f:List Nat)(t u u0:T)(p:List Nat)(hg:t.get f=i7 u0)(h0:u0.single=i9)(h1:u.single=i9)(hh:∀z,(rp f p<:+z→z=rp f p)→G'.hd s z=G.hd s z)(mn:xU t=i9):
  mkV G' s (t.set f u) p=mkV G s t p:=by
 by_cases ht:∃xs,t=.tup xs
 ·obtain⟨xs,rfl⟩:=ht
  cases f with
  |nil=>grind[T.get,T.single]
  |cons i f=>
   rw[zBz]at hh;simp only[T.get]at hg;cases hx:xs[i]? with
   |none=>grind
   |some x=>
    rw[hx]at hg;simp only[T.set,hx,mkV];rw[zQ9 xs p 0 i x _ hx (fun k hk z=>hh _ (fun h=>absurd h (jO (by omega) z)))];rw[Jb];refine zK4 f x u u0 (i::p) hg h0 h1 hh ?_
    rintro ys rfl
    simp only[xU]at mn;have:=Kf.1 mn _ (Lr hx)
    grind
 ·have ee:∀xs,t≠.tup xs:=by grind
  rw[kG G s t p ee,←zK4 f t u u0 p hg h0 h1 hh ee];refine kG G' s _ p ?_
  rintro xs fw
  cases f with
  |nil=>grind[T.set,T.single]
  |cons i f=>cases t<;>simp only[T.set]at fw<;>first|grind|grind|cases fw
end
theorem zEk:(f:List Nat)→ ∀(t u:T),Top t→yD u→Top (t.set f u)
 | [],t,u,_,hu=>by grind[T.set,Top.of_clean]
 |i::f,t,u,ht,hu=>by
  cases t with
  |sl k xs=>
   refine Top.of_clean _ (jR (i::f) _ u (by simpa only[Top,yD,xC]using ht) hu)
  |ptr t=>exact Top.of_clean _ (jR (i::f) _ u (by simpa only[Top,yD,xC]using ht) hu)
  |agg xs=>
   simp only[T.set];split
   ·rename_i x hx
    simp only[Top]at ht ⊢
    exact tops_set xs i _ ht (zEk f x u (tops_get xs ht i x hx) hu)
   ·exact ht
  |tup xs=>
   simp only[T.set];split
   ·rename_i x hx
    simp only[Top]at ht ⊢
    exact tops_set xs i _ ht (zEk f x u (tops_get xs ht i x hx) hu)
   ·exact ht
  |_=>grind[T.set]
where
 tops_set:(xs:List T)→ ∀(i:Nat)(y:T),vM xs→Top y→vM (xs.set i y)
  | [],_,_,_,_=>by simp[vM]
  |x::xs,0,y,h,hy=>by simp only[H2,vM]at h ⊢;grind
  |x::xs,i+1,y,h,hy=>by simp only[L9,vM]at h ⊢;exact⟨h.1,tops_set xs i y h.2 hy⟩
 tops_get:(xs:List T)→vM xs→ ∀(i:Nat)(x:T),xs[i]? =i7 x→Top x
  | [],_,_,_,h=>by simp at h
  |y::ys,hk,i,x,h=>by
   simp only[vM]at hk;cases i with
   |zero=>grind
   |succ i=>exact tops_get ys hk.2 i x (by grind)
def Gh.tr(G:Gh)(d:Nat)(g:List Nat)(r:Nat)(p:List Nat):Gh where
 hd s z:=if s=d∧g<:+z then G.hd r (z.take (z.length-g.length)++p)else G.hd s z
 ad s z:=if s=d∧g<:+z∧z≠g then G.ad r (z.take (z.length-g.length)++p)else G.ad s z
 lb b o:=match G.lb b o with
  |some (fl,s,z)=>if s=r∧p<:+z∧(fl=i9∨z≠p)then i7 (fl,d,z.take (z.length-p.length)++g)else i7 (fl,s,z)
  |none=>i8
 ow b:=match G.ow b with
  |some (s,z)=>if s=r∧p<:+z then i7 (d,z.take (z.length-p.length)++g)else i7 (s,z)
  |none=>i8
theorem zFH{t:T}(h:t.single=i9):t.size=1:=by cases t<;>simp[T.single]at h<;>simp[T.size]
theorem zGE{Γ:Ctx}{E:Env}{G:Gh}{tmps:Array Value}{w:World}(g9:Rep Γ E G tmps w)(d:Nat)(g:List Nat)(r:Nat)(p:List Nat)(td tr u v0:T)(hd:E d=i7 td)(hg:td.get g.reverse=i7 v0)(bZ:v0.single=i9)(e6:G.hd d g=G.hd r p)(hr:E r=i7 tr)
  (hp:tr.get p.reverse=i7 u)(hu:u.single=i9)(eV:yD u)(gY:d≠r)(mS:td.okB [(d,g.length+1),(r,p.length+1)]=i9)(pP:tr.okB [(d,g.length+1),(r,p.length+1)]=i9)(fb:xU td=i9)(fa:xU tr=i9):
  Rep Γ (E.app [(d,i7 (td.set g.reverse u)),(r,i7 (if p=[]then .same d g else tr.set p.reverse .any))] [(d,g.length+1),(r,p.length+1)]) (G.tr d g r p) tmps w∧ ∀s z,¬(s=d∧g<:+z∧z≠g)→(G.tr d g r p).hd s z=G.hd s z:=by
 obtain⟨d1,d2,d3⟩:=g9.ent d td hd;obtain⟨r1,r2,r3⟩:=g9.ent r tr hr;have hm:=g9.mem;have bC:=(zA9 p.reverse tr u [] r2 hp).1;simp only[rp,Ki,Je]at bC;have gJ:Blk w w:=fun b cs e' h=>⟨cs,h,rfl⟩
 generalize gm:G.tr d g r p=G'
 have ghd:∀z,G'.hd d (z++g)=G.hd r (z++p):=fun z=>by rw[←gm];simp[Gh.tr]
 have ghd0:∀s z,¬(s=d∧g<:+z∧z≠g)→G'.hd s z=G.hd s z:=by
  intro s z h;rw[←gm];simp only[Gh.tr]
  by_cases h2:s=d∧g<:+z
  ·have h3:z=g:=by
    rcases Decidable.em (z=g)with e|e
    ·exact e
    ·exact absurd ⟨h2.1,h2.2,e⟩ h
   subst h3;rw[if_pos h2,h2.1];simpa using e6.symm
  ·rw[if_neg h2]
 have gad0:∀s z,¬(s=d∧g<:+z∧z≠g)→G'.ad s z=G.ad s z:=fun s z h=>by rw[←gm];simp only[Gh.tr];rw[if_neg h]
 have gad:∀z,z≠[]→G'.ad d (z++g)=G.ad r (z++p):=fun z h=>by rw[←gm];simp only[Gh.tr];rw[if_pos (by simpa using h)];simp
 have glb0:∀b o fl s z,G.lb b o=i7 (fl,s,z)→ ¬(s=r∧p<:+z∧(fl=i9∨z≠p))→G'.lb b o=i7 (fl,s,z):=fun b o fl s z h1 h2=>by rw[←gm];simp only[Gh.tr,h1];rw[if_neg h2]
 have glb:∀b o fl z,G.lb b o=i7 (fl,r,z++p)→(fl=i9∨z≠[])→G'.lb b o=i7 (fl,d,z++g):=fun b o fl z h1 h2=>by rw[←gm];simp only[Gh.tr,h1];rw[if_pos (by simpa using h2)];simp
 have gow0:∀b s z,G.ow b=i7 (s,z)→ ¬(s=r∧p<:+z)→G'.ow b=i7 (s,z):=fun b s z h1 h2=>by rw[←gm];simp only[Gh.tr,h1];rw[if_neg h2]
 have gow:∀b z,G.ow b=i7 (r,z++p)→G'.ow b=i7 (d,z++g):=fun b z h1=>by rw[←gm];simp only[Gh.tr,h1];rw[if_pos (by simp)];simp
 have gF:∀s z,Off [(d,g.length+1),(r,p.length+1)] s z→ ¬(s=d∧g<:+z∧z≠g):=by
  rintro s z h ⟨rfl,⟨y,rfl⟩,h3⟩
  have:=h (g.length+1) (by simp);have:y=[]:=Ll (by simp at this;omega);exact h3 (by simp[this])
 have gv:qR [(d,g.length+1),(r,p.length+1)] G w G' w:=by
  refine⟨fun s z h=>ghd0 s z (gF s z h),fun s z h=>gad0 s z (gF s z h),fun b o fl s z _ h1 h2=>⟨glb0 b o fl s z h1 ?_,rfl⟩,fun b s z h1 h2=>gow0 b s z h1 ?_,gJ⟩
  ·rintro⟨rfl,_⟩;exact h2 (p.length+1) (by simp)
  ·rintro⟨rfl,_⟩;exact h2 (p.length+1) (by simp)
 have gp:Mem Γ G' w:=by
  refine⟨fun s z=>?_,fun b o l hl=>?_,fun b l hl=>?_,hm.st,hm.fr,hm.sz,hm.bk⟩
  ·rw[←gm]
   simp only[Gh.tr];split
   ·exact hm.one _ _
   ·exact hm.one _ _
  ·have:∃l',G.lb b o=i7 l':=by
    rw[←gm]at hl;simp only[Gh.tr]at hl;split at hl
    ·exact⟨_,by assumption⟩
    ·cases hl
   obtain⟨l',b5⟩:=this;exact hm.lb b o l' b5
  ·have:∃l',G.ow b=i7 l':=by
    rw[←gm]at hl;simp only[Gh.tr]at hl;split at hl
    ·exact⟨_,by assumption⟩
    ·cases hl
   obtain⟨l',b5⟩:=this;exact hm.ow b l' b5
 have cJ:∀q:List Nat,rp q.reverse []=q:=fun q=>by simp[rp]
 have hud:R Γ.St G' w d u g:=by
  refine zAe (G:=G) (w:=w) (s:=r) (p:=p) ⟨⟨ghd,gad,fun b o f z hz _ hl=>⟨glb b o f z hl (.inr hz),rfl⟩,fun b z _ hl=>gow b z hl,gJ⟩,fun b o _ hl=>⟨by simpa using glb b o i9 [] (by simpa using hl) (.inl rfl),rfl⟩,fun b hl=>by simpa using gow b [] (by simpa using hl)⟩ u
   (xC.mono (fun _ _=>False.elim) u eV) bC
 have t6:Upd G w G' w d g:=⟨fun z h=>ghd0 d z (fun h2=>h h2.2.1),fun z h=>gad0 d z (fun h2=>h h2.2.1),fun b o f z h1 _=>⟨glb0 b o f d z h1 (fun h2=>gY h2.1),rfl⟩,fun b z h1 _=>gow0 b d z h1 (fun h2=>gY h2.1),gJ⟩;have ak:∀b o,Loc G w d v0 g b o→Loc G' w d u g b o:=by intro b o h1;obtain⟨h2,h3,h4⟩:=wZ bZ h1;have h5:G'.ad d g=⟨b,o,i8⟩∧G'.lb b o=i7 (ia,d,g)∧yO w b o=i7 (G'.hd d g):=⟨(gad0 d g (fun h=>h.2.2 rfl)).trans h2,glb0 b o ia d g h3 (fun h=>gY h.1),by rw[h4,ghd0 d g (fun h=>h.2.2 rfl)]⟩;cases u<;>simp[T.single]at hu<;>simpa only[Loc]using h5
 have aJ:R Γ.St G' w d (td.set g.reverse u) []:=
  zFD g.reverse td u v0 [] (by rw[cJ];exact t6) d2 hg (by rw[zFH bZ,zFH hu]) (gv.keepR (zAf td d3 mS)) (by rw[cJ];exact ak) (by rw[cJ];exact hud)
 have hVd:mkV G' d (td.set g.reverse u) []=mkV G d td []:=
  zJs g.reverse td u v0 [] hg bZ hu (fun z hz=>ghd0 d z (fun h2=>h2.2.2 (by rw[cJ]at hz;exact hz h2.2.1))) fb
 have hRr:p≠[]→R Γ.St G' w r (tr.set p.reverse .any) []:=by intro bE;refine zFD p.reverse tr .any u [] (by rw[cJ];exact⟨fun z _=>ghd0 r z (fun h2=>gY h2.1.symm),fun z _=>gad0 r z (fun h2=>gY h2.1.symm),fun b o f z h1 h=>⟨glb0 b o f r z h1 (fun h2=>h h2.2.1),rfl⟩,fun b z h1 h=>gow0 b r z h1 (fun h2=>h h2.2),gJ⟩) r2 hp (by cases u<;>simp[T.single]at hu<;>simp[T.size]) (gv.keepR (zAf tr r3 pP)) ?_ (by simp only[R]);rw[cJ];intro b o h1;obtain⟨h2,h3,h4⟩:=wZ hu h1;simp only[Loc];exact⟨(gad0 r p (fun h=>gY h.1.symm)).trans h2,glb0 b o ia r p h3 (by simp),by rw[h4,ghd0 r p (fun h=>gY h.1.symm)]⟩
 have hVr:p≠[]→mkV G' r (tr.set p.reverse .any) []=mkV G r tr []:=fun _=>
  zJs p.reverse tr .any u [] hp hu rfl (fun z _=>ghd0 r z (fun h2=>gY h2.1.symm)) fa
 refine⟨vF g9 rfl gv gp ?_ ?_,ghd0⟩
 ·intro s hs
  simp only[Wr.find]at hs;split at hs
  ·cases hs
  ·rename_i h1
   split at hs
   ·cases hs
   ·rename_i h2
    refine⟨fun n hn=>?_,rfl⟩;simp only[J8,Jaj.injEq,Jar,or_false]at hn;rcases hn with⟨e,_⟩|⟨e,_⟩
    ·exact h1 e.symm
    ·exact h2 e.symm
 ·intro s t hs
  simp only[Wr.find]at hs;split at hs
  ·rename_i he
   subst he;simp at hs;subst hs;exact⟨by rw[d1,hVd],aJ,zEk _ _ _ d3 eV⟩
  ·split at hs
   ·rename_i he
    subst he;simp at hs
    by_cases bE:p=[]
    ·rw[if_pos bE]at hs
     subst hs;subst bE;simp[T.get]at hp;subst hp;refine⟨?_,?_,by simp[Top]⟩
     ·rw[r1,xN hu,xN rfl,ghd0 r [] (fun h=>gY h.1.symm)]
     ·simp only[R]
      rw[ghd0 r [] (fun h=>gY h.1.symm)];have:=ghd [];simpa using this.symm
    ·rw[if_neg bE]at hs
     subst hs;exact⟨by rw[r1,hVr bE],hRr bE,zEk _ _ _ r3 (by simp[yD,xC])⟩
   ·cases hs
theorem zM7{Γ:Ctx}{E:Env}{a:Act}{w:World}(h:Sim Γ E a w)(d:Nat)(g:List Nat)(r:Nat)(p:List Nat)(td tr u:T)(hd:E d=i7 td)(hg:td.get g.reverse=i7 (.same r p))(hr:E r=i7 tr)
  (hp:tr.get p.reverse=i7 u)(hu:u.single=i9)(eV:yD u)(gY:d≠r)(mS:td.okB [(d,g.length+1),(r,p.length+1)]=i9)(pP:tr.okB [(d,g.length+1),(r,p.length+1)]=i9)(fb:xU td=i9)(fa:xU tr=i9):
  Sim Γ (E.app [(d,i7 (td.set g.reverse u)),(r,i7 (if p=[]then .same d g else tr.set p.reverse .any))] [(d,g.length+1),(r,p.length+1)]) a w:=by
 obtain⟨gO,G,g9⟩:=h;have e6:=(zA9 g.reverse td _ [] (g9.ent d td hd).2.1 hg).1;simp only[rp,Ki,Je,R]at e6;exact⟨gO,_,(zGE g9 d g r p td tr u _ hd hg rfl e6 hr hp hu eV gY mS pP fb fa).1⟩
end Go.Ab

namespace Go.Ab
open Go
theorem zJt{St:Stb}{G:Gh}{w:World}{s:Nat}{k:Nat}:(xs:List T)→ ∀(p:List Nat)(j b o:Nat),(∀i x,xs[i]? =i7 x→Loc G w s x ((j+i)::p) b (o+i*k)∧x.size=k∧R St G w s x ((j+i)::p))→RL St G w s xs p j b o k
 | [],_,_,_,_,_=>by grind[RL]
 |x::xs,p,j,b,o,h=>by
  obtain⟨h1,h2,h3⟩:=h 0 x (by simp);simp only[RL];refine⟨by grind,by omega,zJt xs p (j+1) b (o+k) (fun i y hy=>?_)⟩;have:=h (i+1) y (by grind)
  grind
theorem zAw{St:Stb}{G:Gh}{w:World}{s:Nat}{k:Nat}:(xs:List T)→ ∀(p:List Nat)(j b o:Nat),RL St G w s xs p j b o k→vE G w s xs p j b o
 | [],_,_,_,_,_=>by grind[vE]
 |x::xs,p,j,b,o,h=>by simp only[RL]at h;simp only[vE];exact⟨h.1.1,zAw xs p (j+1) b (o+x.size) (by rw[h.1.2];exact h.2.2)⟩
theorem zBg{St:Stb}{G:Gh}{w:World}{s:Nat}{k:Nat}:(xs:List T)→ ∀(p:List Nat)(j b o:Nat),RL St G w s xs p j b o k→RF St G w s xs p j∧ ∀x∈xs,x.size=k
 | [],_,_,_,_,_=>by simp[RF]
 |x::xs,p,j,b,o,h=>by simp only[RL]at h;obtain⟨h1,h2⟩:=zBg xs p (j+1) b (o+k) h.2.2;exact⟨by grind[RF],by grind⟩
section
variable {G:Gh}{w:World}{G':Gh}{w':World}{s s':Nat}
mutual
theorem zGF:(t:T)→ ∀(p p':List Nat)(b o:Nat),(∀z,G'.hd s' (z++p')=G.hd s (z++p))→(∀z,G'.ad s' (z++p')=G.ad s (z++p))→
  (∀b o z,G.lb b o=i7 (ia,s,z++p)→G'.lb b o=i7 (ia,s',z++p')∧yO w' b o=yO w b o)→Loc G w s t p b o→Loc G' w' s' t p' b o
 |.agg xs,p,p',b,o,hh,ha,hl,h=>by
  simp only[Loc]at h ⊢
  exact⟨by have:=ha [];grind,zI1 xs p p' 0 b o hh ha hl h.2⟩
 |.any,p,p',b,o,hh,ha,hl,h|.lit _,p,p',b,o,hh,ha,hl,h|.ro _,p,p',b,o,hh,ha,hl,h|.same _ _,p,p',b,o,hh,ha,hl,h|.addr _ _,p,p',b,o,hh,ha,hl,h|.sub _ _ _ _ _,p,p',b,o,hh,ha,hl,h|.sl _ _,p,p',b,o,hh,ha,hl,h|.ptr _,p,p',b,o,hh,ha,hl,h=>by
  simp only[Loc]at h ⊢
  have h1:=hl b o [] (by grind)
  grind
 |.tup _,_,_,_,_,_,_,_,h=>by grind[Loc]
theorem zI1:(xs:List T)→ ∀(p p':List Nat)(j b o:Nat),(∀z,G'.hd s' (z++p')=G.hd s (z++p))→(∀z,G'.ad s' (z++p')=G.ad s (z++p))→
  (∀b o z,G.lb b o=i7 (ia,s,z++p)→G'.lb b o=i7 (ia,s',z++p')∧yO w' b o=yO w b o)→vE G w s xs p j b o→vE G' w' s' xs p' j b o
 | [],_,_,_,_,_,_,_,_,_=>by grind[vE]
 |x::xs,p,p',j,b,o,hh,ha,hl,h=>by
  simp only[vE]at h ⊢
  exact⟨zGF x (j::p) (j::p') b o (fun z=>by have:=hh (z++[j]);grind) (fun z=>by have:=ha (z++[j]);grind) (fun b o z hz=>by have:=hl b o (z++[j]) (by grind);grind) h.1,
   zI1 xs p p' (j+1) b _ hh ha hl h.2⟩
end
end
theorem zEl(G:Gh)(s:Nat):∀(xs us:List T)(p:List Nat)(j:Nat),yI G s (xs++us) p j=yI G s xs p j++yI G s us p (j+xs.length)
 | [],us,p,j=>by rfl
 |x::xs,us,p,j=>by simp[yI,zEl G s xs us p (j+1),Nat.add_assoc,Nat.add_comm 1]
theorem zEm:∀(xs us:List T),T.sizes (xs++us)=T.sizes xs+T.sizes us
 | [],us=>by simp[T.sizes]
 |x::xs,us=>by simp[T.sizes,zEm xs us,Nat.add_assoc]
theorem zDu:∀(xs us:List T),yR xs=i9→yR us=i9→yR (xs++us)=i9
 | [],us,_,h=>h
 |x::xs,us,h,h'=>by
  simp only[yR,J3,K1]at h ⊢
  exact⟨h.1,zDu xs us h.2 h'⟩
theorem zDv:∀(xs us:List T),xQ xs→xQ us→xQ (xs++us)
 | [],us,_,h=>h
 |x::xs,us,h,h'=>by
  simp only[xQ,xX,K1]at h ⊢
  exact⟨h.1,zDv xs us h.2 h'⟩
theorem kC{St:Stb}{G:Gh}{w:World}{s:Nat}{k:Nat}:(xs:List T)→ ∀(p:List Nat)(j b o:Nat),vE G w s xs p j b o→yR xs=i9
 | [],_,_,_,_,_=>rfl
 |x::xs,p,j,b,o,h=>by simp only[vE]at h;simp only[yR,J3];exact⟨one x (j::p) b o h.1,kC (St:=St) (k:=k) xs p (j+1) b _ h.2⟩
where
 one:(t:T)→ ∀(p:List Nat)(b o:Nat),Loc G w s t p b o→t.okTup=i9
  |.agg xs,p,b,o,h=>by simp only[Loc]at h;simp only[T.okTup];exact kC (St:=St) (k:=k) xs p 0 b o h.2
  |.tup _,_,_,_,h=>by grind[Loc]
  |.any,_,_,_,_|.lit _,_,_,_,_|.ro _,_,_,_,_|.same _ _,_,_,_,_|.addr _ _,_,_,_,_|.sub _ _ _ _ _,_,_,_,_|.sl _ _,_,_,_,_|.ptr _,_,_,_,_=>rfl
section
variable {P:Program}
structure zGG (P:Program) (t2:TypeId) (e:TypeId) (ti:TypeInfo) (xv:Value) (m:Nat) (nv:List Value) (w:World):Prop where
 arg:(∃e2 xa c,P.underlying t2=i7 (.slice e2)∧xv=.slice xa m c∧ ∀w2:World,w2.heap=w.heap→(Builtin.firstCells ti.size m (.slice xa m c)).run P w2=.ok nv.toArray w2)∨
  ∃k2 k3 z,P.underlying t2=i7 (.int k2)∧xv=.int k3 (m:Int)∧ti.zero=i7 z∧nv.toArray=Builtin.zeroCells z.cells m∧m*ti.bytes≤2 ^ 47∧z.cells.size=ti.size
theorem zEn{t t2 ty e:TypeId}{ti:TypeInfo}{xv:Value}{m:Nat}{nv:List Value}{w w':World}(ht:P.underlying t=i7 (.slice e))(hi:P.info? e=i7 ti)
  (hx:zGG P t2 e ti xv m nv w)(hm:m≤68719476736){base:Option Addr}{n cap:Nat}(e7:n+m≤cap)
  (gA:(if let i7 a:=base then storeCells (a.add (n*ti.size)) nv else pure ():Sem Unit).run P w=.ok () w'):
  (Builtin.append_ #[t,t2] ty #[.slice base n cap,xv]).run P w=.ok (.slice base (n+m) cap) w':=by
 rcases hx.arg with⟨e2,xa,c,h1,rfl,h2⟩|⟨k2,k3,z,h1,rfl,h2,h3,h4,h5⟩
 ·have h2:=h2 w rfl
  cases base with
  |none=>
   simp at gA;subst gA;simp[Builtin.append_,run_underlying ht,run_underlying h1,sizeOf,typeInfo,hi,Builtin.lenOf,e7,h2]
  |some a=>
   simp only at gA;simp[Builtin.append_,run_underlying ht,run_underlying h1,sizeOf,typeInfo,hi,Builtin.lenOf,e7,h2,gA]
 ·have ms:IntKind.i64.wrap (m:Int)=m:=by grind[IntKind.wrap_i64]
  have bt:¬(281474976710656<(m:Int)*(ti.bytes:Int)):=by omega
  have ce:¬((m:Int)<0):=by omega
  have aT:nv=(Builtin.zeroCells z.cells m).toList:=by rw[←h3]
  by_cases hz:m*ti.size=0
  ·have mT:nv=[]:=by
    grind[Builtin.zeroCells]
   subst mT;cases base with
   |none=>
    simp at gA;subst gA;simp[Builtin.append_,run_underlying ht,run_underlying h1,sizeOf,typeInfo,hi,asInt,asIntOf,ms,bt,ce,e7,hz]
   |some a=>
    simp only[storeCells,Sem.run_pure]at gA;cases gA;simp[Builtin.append_,run_underlying ht,run_underlying h1,sizeOf,typeInfo,hi,asInt,asIntOf,ms,bt,ce,e7,hz,storeCells]
  ·cases base with
   |none=>
    simp at gA;subst gA;simp[Builtin.append_,run_underlying ht,run_underlying h1,sizeOf,typeInfo,zeroValue,hi,h2,asInt,asIntOf,ms,bt,ce,e7]
   |some a=>
    simp only[aT]at gA;simp[Builtin.append_,run_underlying ht,run_underlying h1,sizeOf,typeInfo,zeroValue,hi,h2,asInt,asIntOf,ms,bt,ce,e7,hz,gA]
theorem zJu{t t2 ty e:TypeId}{ti:TypeInfo}{z xv:Value}{m:Nat}{nv olds:List Value}{w:World}(ht:P.underlying t=i7 (.slice e))(hi:P.info? e=i7 ti)(hz:ti.zero=i7 z)
  (hx:zGG P t2 e ti xv m nv w){base:Option Addr}{n cap:Nat}(gX:cap<n+m)(cW:n+m≤68719476736)(hb:ti.bytes≤2048)
  (gH:∀w2:World,w2.heap=w.heap→(Builtin.firstCells ti.size n (.slice base n cap)).run P w2=.ok olds.toArray w2):
  (Builtin.append_ #[t,t2] ty #[.slice base n cap,xv]).run P w=.ok (.slice (i7 ⟨w.heap.size,0,i8⟩) (n+m) (grownCap w (n+m) cap e))
    (w.drew.alloc (.cells ((olds++nv).toArray++Builtin.zeroCells z.cells (grownCap w (n+m) cap e-(n+m))) e)):=by
 have hn:¬(n+m≤cap):=by omega
 have bq:¬(9223372036854775807<((n:Int)+(m:Int))):=by omega
 have ui:=growslice_fits (need:=n+m) (old:=cap) (bytes:=ti.bytes) gX (H8 (Jv cW hb) (by decide));have br:¬(281474976710656<Builtin.nextslicecap (n+m) cap*ti.bytes):=by omega
 have ho:=gH w.drew rfl;rcases hx.arg with⟨e2,xa,c,h1,rfl,h2⟩|⟨k2,k3,z',h1,rfl,h2,h3,h4,h5⟩
 ·have h2:=h2 w.drew rfl
  simp[Builtin.append_,run_underlying ht,run_underlying h1,sizeOf,typeInfo,zeroValue,hi,hz,Builtin.lenOf,hn,bq,br,Question.forced,h2,ho,newRow,grownCap]
  grind
 ·have ms:IntKind.i64.wrap (m:Int)=m:=by grind[IntKind.wrap_i64]
  have bt:¬(281474976710656<(m:Int)*(ti.bytes:Int)):=by omega
  have ce:¬((m:Int)<0):=by omega
  have aT:nv=(Builtin.zeroCells z'.cells m).toList:=by rw[←h3]
  rw[hz]at h2;simp at h2;subst h2
  by_cases mq:m*ti.size=0
  ·have mT:nv=[]:=by
    grind[Builtin.zeroCells]
   subst mT;simp[Builtin.append_,run_underlying ht,run_underlying h1,sizeOf,typeInfo,zeroValue,hi,hz,asInt,asIntOf,ms,bt,ce,hn,bq,br,Question.forced,mq,ho,newRow,grownCap]
  ·simp[Builtin.append_,run_underlying ht,run_underlying h1,sizeOf,typeInfo,zeroValue,hi,hz,asInt,asIntOf,ms,bt,ce,hn,bq,br,Question.forced,mq,ho,newRow,grownCap,←h3]
   grind
end
def zDD(s0:Nat)(y:Option Nat)(n:Nat)(s:Nat)(z:List Nat):Option (List Nat):=
 if s=s0 then i7 z else if y=i7 s then(match z.getLast? with
  |some j=>i7 (z.dropLast++[n+j])
  |none=>i8)else i8
def Gh.ip(G:Gh)(d s0:Nat)(y:Option Nat)(b n k:Nat)(us:List T)(f2:Nat→List Nat→Value)(gY:Value):Gh where
 hd s z:=if s=d then(match z.getLast? with
  |some i=>if i<n then G.hd s0 z else f2 (i-n) z.dropLast
  |none=>gY)else G.hd s z
 ad s z:=if s=d then(match z.getLast? with
  |some i=>if i<n then G.ad s0 z else if(T.agg us).inT ((i-n)::z.dropLast.reverse)then⟨b,n*k+(T.agg us).offT ((i-n)::z.dropLast.reverse),i8⟩else(match y with
   |some y=>G.ad y (z.dropLast++[i-n])
   |none=>default)
  |none=>default)else G.ad s z
 lb b' o:=if b'=b∧n*k≤o∧o<n*k+us.length*k then(match zCe us [] n (o-n*k)with
  |some p=>i7 (ia,d,p)
  |none=>i8)else match G.lb b' o with
  |some (fl,s,z)=>(match zDD s0 y n s z with
   |some z'=>i7 (fl,d,z')
   |none=>i7 (fl,s,z))
  |none=>i8
 ow b':=match G.ow b' with
  |some (s,z)=>(match zDD s0 y n s z with
   |some z'=>i7 (d,z')
   |none=>i7 (s,z))
  |none=>i8
def aWr(d s0:Nat)(y:Option Nat)(k:Nat)(ts:List T):Wr:=(d,i7 (.sl k ts))::(s0,i7 .any)::(match y with
 |some y=>[(y,i7 .any)]
 |none=>[])
def zAP(d s0:Nat)(y:Option Nat):Chg:=(d,0)::(s0,1)::(match y with
 |some y=>[(y,1)]
 |none=>[])
structure zGH (Γ:Ctx) (E:Env) (G:Gh) (d s0:Nat) (y:Option Nat) (k n:Nat) (us:List T) (f2:Nat→List Nat→Value) (nv:List Value):Prop where
 size:∀u∈us,u.size=k
 tup:yR us=i9
 clean:xQ us
 one:∀j z,(f2 j z).oneCell'=i9
 len:nv.length=us.length*k
 slot:∀y',y=i7 y'→y'≠d∧y'≠s0∧E y'=i7 (.sl k us)∧ ∀j z,f2 j z=G.hd y' (z++[j])
 none:y=i8→ ∀(j:Nat) u,us[j]? =i7 u→ ∀(G2:Gh)(w2:World),(∀z,G2.hd d (z++[n+j])=f2 j z)→R Γ.St G2 w2 d u [n+j]
 vals:∀(G2:Gh),(∀j z,G2.hd d (z++[n+j])=f2 j z)→ ∀(o:Nat)(v:Value),(yI G2 d us [] n)[o]? =i7 v→nv[o]? =i7 v
theorem zK5{G G2:Gh}{s d:Nat}:(xs:List T)→ ∀(p:List Nat)(j:Nat),(∀i,i<xs.length→ ∀z,G2.hd d (z++((j+i)::p))=G.hd s (z++((j+i)::p)))→yI G2 d xs p j=yI G s xs p j
 | [],_,_,_=>by rfl
 |x::xs,p,j,h=>by
  simp only[yI];have ih:yI G2 d xs p (j+1)=yI G s xs p (j+1):=zK5 xs p (j+1) (fun i hi z=>by
   rw[show j+1+i=j+(i+1)from by omega]
   simp_all)
  rw[zAA x (j::p) (j::p) (by simpa using h 0 (by simp)),ih]
theorem zIg(z:List Nat):z=[]∨ ∃y i,z=y++[i]:=by
 rcases List.eq_nil_or_concat z with h|⟨y,i,h⟩
 all_goals grind
section
variable {P:Program}{Γ:Ctx}{E:Env}{d:Nat}
theorem zB4{G:Gh}{a:Act}{w:World}(g9:Rep Γ E G a.tmps w)(hd:d<Γ.N){t t2 ty e:TypeId}{ti:TypeInfo}{z:Value}{k:Nat}(ht:P.underlying t=i7 (.slice e))(hi:P.info? e=i7 ti)(hz:ti.zero=i7 z)
  (hk:ti.size=k)(_hk0:0<k)(fe:z.cells.size=k)(hb:ti.bytes≤2048){s0:Nat}{y:Option Nat}{xs us:List T}{f2:Nat→List Nat→Value}{nv:List Value}(ew:E s0=i7 (.sl k xs))(fC:s0≠d)
  (hn:zGH Γ E G d s0 y k xs.length us f2 nv){xv:Value}(hx:zGG P t2 e ti xv us.length nv w)(gz:∀v∈nv,v.oneCell'=i9)(cW:xs.length+us.length≤68719476736):
  ∃v w',(Builtin.append_ #[t,t2] ty #[G.hd s0 [],xv]).run P w=.ok v w'∧ ∃G',Rep Γ (E.app (aWr d s0 y k (xs++us)) (zAP d s0 y)) G' (a.tmps.setIfInBounds d v) w':=by
 have hm:=g9.mem;obtain⟨e1,e2,e3⟩:=g9.ent s0 _ ew;simp only[Top]at e3;simp only[R]at e2;have dl:T.sizes us=us.length*k:=wS us hn.size;have fin:∀(G':Gh)(w':World)(v:Value),qR (zAP d s0 y) G w G' w'→Mem Γ G' w'→G'.hd d []=v→R Γ.St G' w' d (.sl k (xs++us)) []→(∀s p,s≠d→G'.hd s p=G.hd s p)→
   Rep Γ (E.app (aWr d s0 y k (xs++us)) (zAP d s0 y)) G' (a.tmps.setIfInBounds d v) w':=by
  intro G' w' v gv gp um aJ hother;refine vF g9 (by simp) gv gp ?_ ?_
  ·intro s hs
   have gf:s≠d:=by rintro rfl;simp[aWr,Wr.find]at hs
   have ae:s≠s0:=by rintro rfl;simp[aWr,Wr.find,gf.symm]at hs
   have hney:∀y',y=i7 y'→s≠y':=by
    rintro y' rfl rfl
    grind[aWr,Wr.find]
   refine⟨fun n' hn'=>?_,by grind⟩;simp only[zAP,J8,Jaj.injEq]at hn'
   grind
  ·intro s t' hs
   by_cases h1:s=d
   ·subst h1
    simp[aWr,Wr.find]at hs;subst hs;refine⟨?_,aJ,by simp only[Top];exact zDv xs us e3 hn.clean⟩;rw[Jl];simp[g9.size,hd,mkV,um]
   ·have h3:t'=.any∧(s=s0∨y=i7 s):=by
     simp only[aWr,Wr.find]at hs;rw[if_neg (fun h=>h1 h.symm)]at hs
     grind[Wr.find]
    obtain⟨rfl,h3⟩:=h3;refine⟨?_,by grind[R],by simp[Top]⟩;rw[Jl];simp only[Ne.symm h1,if_false,mkV];rw[hother s [] h1];rcases h3 with rfl|h3
    ·exact e1
    ·obtain⟨_,_,h4,_⟩:=hn.slot s h3
     exact(g9.ent s _ h4).1
 have pt:∀s p,(∀n',(s,n')∉zAP d s0 y)→zDD s0 y xs.length s p=i8:=by
  intro s p h;have h1:s≠s0:=fun e=>h 1 (by simp[zAP,e])
  grind[zAP,zDD]
 by_cases e7:∃a' c,G.hd s0 []=.slice a' xs.length c∧xs.length+us.length≤c
 ·
  obtain⟨a',c,hh,e7⟩:=e7;rcases e2 with⟨rfl,a1,h1⟩|⟨b,cap,cs,et,h1,h2,h3,h4,h5,h6,h7,h8⟩
  ·rw[h1]at hh
   simp at hh;obtain⟨rfl,rfl⟩:=hh;have fL:us=[]:=by grind
   subst fL;have aT:nv=[]:=Ll (by have:=hn.len;grind);subst aT;have gx:=zEn (P:=P) (t:=t) (ty:=ty) (w':=w) ht hi hx (by simp) (base:=a1) (n:=0) (cap:=0) (by simp) (by cases a1<;>rfl);refine⟨.slice a1 0 0,w,by grind,G.put d (fun _=>.slice a1 0 0),fin _ w _ ?_ (hm.put rfl d _ (fun _=>rfl)) (by rw[Gh.put_self]) (by simp[R,Gh.put]) (fun s p h=>G.put_other _ p h)⟩;have:=G.put_keep (w:=w) (w':=w) rfl d (fun _=>.slice a1 0 0);exact⟨fun s p h=>this.hd s p (fun n hn=>h n (by simp_all[zAP])),fun s p h=>rfl,fun b o f s p h0 h1 h2=>this.lb b o f s p h0 h1 (fun n hn=>h2 n (by simp_all[zAP])),fun b s p h1 h2=>this.ow b s p h1 (fun n hn=>h2 n (by simp_all[zAP])),this.blk⟩
  ·rw[h1]at hh
   simp at hh;obtain⟨rfl,rfl⟩:=hh;have u6:us.length*k+xs.length*k≤cap*k:=by rw[←Uc];exact Kd _ (by omega)
   have hmk:us.length*k+xs.length*k≤cs.size:=H8 u6 h5
   generalize eE:w.setRow b (cs.toList.take (xs.length*k)++nv++cs.toList.drop (xs.length*k+nv.length)).toArray=w'
   have eI:w'.heap[b]? =i7 (.cells (cs.toList.take (xs.length*k)++nv++cs.toList.drop (xs.length*k+nv.length)).toArray et (0,0)):=by grind[setRow_heap]
   have gH:∀b',b'≠b→w'.heap[b']? =w.heap[b']?:=by grind[setRow_other]
   have gN:w'.heap.size=w.heap.size:=by grind[size_setRow]
   have hcsl:cs.toList.length=cs.size:=rfl;have px:=hn.len;have fm:∀i,yO w' b i=if xs.length*k≤i∧i<xs.length*k+us.length*k then nv[i-xs.length*k]? else yO w b i:=by
    intro i;simp only[yO,World.cell?,eI,h2,Uk,Hq,if_false];rw[←Kt,←Kt (xs:=cs)];simp only[]
    by_cases g1:i<xs.length*k
    ·rw[if_neg (by omega),Jc,Ju (by simp;omega),Gw g1]
    ·by_cases g2:i<xs.length*k+us.length*k
     ·rw[if_pos ⟨by omega,g2⟩,Jc,J9 (by simp;omega),Ju (by simp;omega)]
      grind
     ·rw[if_neg (by omega),Jc,J9 (by simp;omega),J9 (by simp;omega),He]
      congr 1;simp;omega
   have gU:∀b' o fl s p,G.lb b' o=i7 (fl,s,p)→(fl,s,p)≠(i9,s0,[])→ ¬(b'=b∧xs.length*k≤o∧o<xs.length*k+us.length*k):=by grind
   have f9:∀b' o,¬(b'=b∧xs.length*k≤o∧o<xs.length*k+us.length*k)→yO w' b' o=yO w b' o:=by
    intro b' o g
    by_cases eP:b'=b
    ·grind
    grind[yO,World.cell?]
   have dY:((cs.toList.take (xs.length*k)++nv++cs.toList.drop (xs.length*k+nv.length)).toArray).size=cs.size:=by simp;omega
   have ep:Blk w w':=by
    intro b' cs' e' g1
    grind
   generalize gm:G.ip d s0 y b xs.length k us f2 (.slice (i7 ⟨b,0,i8⟩) (xs.length+us.length) cap)=G'
   have ghdr:G'.hd d []=.slice (i7 ⟨b,0,i8⟩) (xs.length+us.length) cap:=by rw[←gm];simp[Gh.ip]
   have ghd1:∀i z,i<xs.length→G'.hd d (z++[i])=G.hd s0 (z++[i]):=fun i z g=>by rw[←gm];simp[Gh.ip,g]
   have ghd2:∀j z,G'.hd d (z++[xs.length+j])=f2 j z:=fun j z=>by rw[←gm];simp[Gh.ip,show¬xs.length+j<xs.length from by omega]
   have ghd0:∀s z,s≠d→G'.hd s z=G.hd s z:=fun s z g=>by rw[←gm];simp[Gh.ip,g]
   have gad0:∀s z,s≠d→G'.ad s z=G.ad s z:=fun s z g=>by rw[←gm];simp[Gh.ip,g]
   have gad1:∀i z,i<xs.length→G'.ad d (z++[i])=G.ad s0 (z++[i]):=fun i z g=>by rw[←gm];simp[Gh.ip,g]
   have gad2:∀j f,(T.agg us).inT (j::f)=i9→G'.ad d (f.reverse++[xs.length+j])=⟨b,xs.length*k+(T.agg us).offT (j::f),i8⟩:=fun j f g=>by rw[←gm];simp[Gh.ip,g,show¬xs.length+j<xs.length from by omega]
   have gad3:∀y' j z,y=i7 y'→(T.agg us).inT (j::z.reverse)=ia→G'.ad d (z++[xs.length+j])=G.ad y' (z++[j]):=fun y' j z g1 g2=>by rw[←gm];simp[Gh.ip,g1,g2,show¬xs.length+j<xs.length from by omega]
   have glb2:∀i p,i<us.length*k→zCe us [] xs.length i=i7 p→G'.lb b (xs.length*k+i)=i7 (ia,d,p):=fun i p g1 g2=>by rw[←gm];simp only[Gh.ip];rw[if_pos (by simp;omega),show xs.length*k+i-xs.length*k=i from by omega,g2]
   have glb0:∀b' o fl s p,G.lb b' o=i7 (fl,s,p)→ ¬(b'=b∧xs.length*k≤o∧o<xs.length*k+us.length*k)→zDD s0 y xs.length s p=i8→G'.lb b' o=i7 (fl,s,p):=fun b' o fl s p g1 g2 g3=>by rw[←gm];simp only[Gh.ip];rw[if_neg g2,g1];simp[g3]
   have glb1:∀b' o fl s p p',G.lb b' o=i7 (fl,s,p)→ ¬(b'=b∧xs.length*k≤o∧o<xs.length*k+us.length*k)→zDD s0 y xs.length s p=i7 p'→G'.lb b' o=i7 (fl,d,p'):=fun b' o fl s p p' g1 g2 g3=>by rw[←gm];simp only[Gh.ip];rw[if_neg g2,g1];simp[g3]
   have gow0:∀b' s p,G.ow b'=i7 (s,p)→zDD s0 y xs.length s p=i8→G'.ow b'=i7 (s,p):=fun b' s p g1 g2=>by rw[←gm];simp[Gh.ip,g1,g2]
   have gow1:∀b' s p p',G.ow b'=i7 (s,p)→zDD s0 y xs.length s p=i7 p'→G'.ow b'=i7 (d,p'):=fun b' s p p' g1 g2=>by rw[←gm];simp[Gh.ip,g1,g2]
   have fH:∀p,zDD s0 y xs.length s0 p=i7 p:=fun p=>by simp[zDD]
   have mg:∀y' z j,y=i7 y'→y'≠s0→zDD s0 y xs.length y' (z++[j])=i7 (z++[xs.length+j]):=fun y' z j g1 g2=>by simp[zDD,g1,g2]
   have gf:∀s p,Off (zAP d s0 y) s p→s≠d:=fun s p h e=>absurd (h 0 (by simp[zAP,e])) (by simp)
   have gv:qR (zAP d s0 y) G w G' w':=by
    refine⟨fun s p h=>ghd0 s p (gf s p h),fun s p h=>gad0 s p (gf s p h),fun b' o fl s p _ g1 g2=>?_,fun b' s p g1 g2=>gow0 b' s p g1 (pt s p g2),ep⟩;have hs:s≠s0:=fun e=>g2 1 (by simp[zAP,e])
    have g3:=gU b' o fl s p g1 (by simp[hs]);exact⟨glb0 b' o fl s p g1 g3 (pt s p g2),f9 b' o g3⟩
   have bM:=hm.ow b _ h6;have gp:Mem Γ G' w':=by
    refine⟨fun s z=>?_,fun b' o' l hl=>?_,fun b' l hl=>?_,fun b' x' eh=>?_,fun b' g1 g2=>?_,by rw[gN];exact hm.sz,hm.bk.trans ep (by rw[←eE];rfl) (by rw[←eE];rfl)⟩
    ·by_cases g:s=d
     ·subst g
      rcases zIg z with rfl|⟨z',i,rfl⟩
      ·rw[ghdr];rfl
      ·by_cases g1:i<xs.length
       ·rw[ghd1 i z' g1];exact hm.one _ _
       ·have:=ghd2 (i-xs.length) z'
        rw[show xs.length+(i-xs.length)=i from by omega]at this;rw[this];exact hn.one _ _
     ·rw[ghd0 s z g];exact hm.one _ _
    ·have:zCb Γ w b':=by
      rw[←gm]at hl;simp only[Gh.ip]at hl;split at hl
      ·rename_i g;rw[g.1];exact bM
      ·split at hl
       ·rename_i g;exact hm.lb _ _ _ g
       ·cases hl
     exact⟨by rw[gN];exact this.1,this.2⟩
    ·have:zCb Γ w b':=by
      rw[←gm]at hl;simp only[Gh.ip]at hl;split at hl
      ·rename_i g;exact hm.ow _ _ g
      ·cases hl
     exact⟨by rw[gN];exact this.1,this.2⟩
    ·have eP:b'≠b:=by rintro rfl;rw[bM.2.2]at eh;cases eh
     rw[gH b' eP];exact hm.st b' x' eh
    ·have eP:b'≠b:=by
      rintro rfl
      rcases bM.2.1 with g3|g3
      ·omega
      ·exact g2 g3
     rw[gH b' eP];exact hm.fr b' g1 g2
   have mX:vE G' w' d us [] xs.length b (xs.length*k):=by
    refine zGj us [] xs.length b (xs.length*k) hn.tup (fun i x eh f hf=>?_) (fun i p' g1 g2=>glb2 i p' (by omega) g2) (fun i v hv=>?_)
    ·have:=gad2 i f (by simp only[T.inT,eh];exact hf)
     simpa[T.offT,eh]using this
    ·have g1:=hn.vals G' ghd2 i v hv
     have g2:=(Jn.1 g1).1;rw[fm,if_pos (by omega),show xs.length*k+i-xs.length*k=i from by omega];exact g1
   have aJ:R Γ.St G' w' d (.sl k (xs++us)) []:=by
    simp only[R];rw[ghdr];refine .inr ⟨b,cap,_,et,by simp,eI,by simp;omega,h4,by omega,gow1 b s0 [] [] h6 (fH []),?_,zJt _ _ _ _ _ (fun i x eh=>?_)⟩
    ·intro o g1 g2
     rw[J6,Uc]at g1;exact glb1 b o i9 s0 [] [] (h7 o (by omega) g2) (by omega) (fH [])
    ·rw[Kk]at eh
     simp only[Jb];split at eh
     ·rename_i gD
      obtain⟨g1,g2,g3⟩:=jN xs [] 0 b 0 k i x h8 eh;simp only[Jb]at g1 g3;have bG:∀b' o fl z,G.lb b' o=i7 (fl,s0,z++[i])→G'.lb b' o=i7 (fl,d,z++[i])∧yO w' b' o=yO w b' o:=fun b' o fl z g=>by have g4:=gU b' o fl s0 _ g (by simp);exact⟨glb1 b' o fl s0 _ _ g g4 (fH _),f9 b' o g4⟩
      refine⟨zGF x [i] [i] b _ (fun z=>ghd1 i z gD) (fun z=>gad1 i z gD) (fun b' o z g=>bG b' o ia z g) g1,g2,?_⟩;refine zAe (G:=G) (w:=w) (s:=s0) (p:=[i]) ⟨⟨fun z=>ghd1 i z gD,fun z _=>gad1 i z gD,fun b' o f z _ _ g=>bG b' o f z g,fun b' z _ g=>gow1 b' s0 _ _ g (fH _),ep⟩,fun b' o _ g=>?_,fun b' g=>gow1 b' s0 _ _ g (fH _)⟩ x (xC.mono (by simp) x (uL xs e3 i x eh)) g3;have:=bG b' o i9 [] (by simpa using g);simpa using this
     ·rename_i hge
      obtain⟨j,rfl⟩:∃j,i=xs.length+j:=⟨i-xs.length,by omega⟩;rw[show xs.length+j-xs.length=j from by omega]at eh;have g1:=zCc us [] xs.length b (xs.length*k) j x mX eh;rw[show T.sizes (us.take j)=j*k from by rw[wS _ (fun u hu=>hn.size u (List.mem_of_mem_take hu)),Ka,Qs (by have:=(Jn.1 eh).1;omega)],←Uc]at g1
      refine⟨g1,hn.size x (Lr eh),?_⟩;cases hy:y with
      |none=>exact hn.none hy j x eh G' w' (fun z=>ghd2 j z)
      |some y'=>
       obtain⟨y1,y2,y3,y4⟩:=hn.slot y' hy;obtain⟨_,y5,_⟩:=g9.ent y' _ y3;simp only[R]at y5;rcases y5 with⟨rfl,_⟩|⟨b2,cap2,cs2,et2,_,_,_,_,_,_,_,y6⟩
       ·simp at eh
       ·obtain⟨_,_,y7⟩:=jN us [] 0 b2 0 k j x y6 eh
        simp only[Jb]at y7;refine zKx x [j] [xs.length+j] (zCO.okTups_get us hn.tup j x eh) ⟨fun z=>by rw[ghd2,y4],fun z g=>gad3 y' j z hy (by simp only[T.inT,eh];exact g),fun b' o fl z _ g=>?_,fun b' z g=>gow1 b' y' _ _ g (mg y' z j hy y2),ep⟩ (xC.mono (by simp) x (uL us hn.clean j x eh)) y7;have g4:=gU b' o fl y' _ g (by simp[y2]);exact⟨glb1 b' o fl y' _ _ g g4 (mg y' z j hy y2),f9 b' o g4⟩
   have gA:=run_storeCells_at P b (xs.length*k) et nv 0 cs w h2 (by omega) gz;simp only[Qd]at gA;rw[eE]at gA;have gx:=zEn (P:=P) (t:=t) (ty:=ty) (w':=w') ht hi hx (by omega) (base:=i7 ⟨b,0,i8⟩) e7 (by simp only[hk,uM,Jb];exact gA);refine⟨_,w',by rw[h1];exact gx,G',fin G' w' _ gv gp ghdr aJ ghd0⟩
 ·
  have aG:∃a' c,G.hd s0 []=.slice a' xs.length c∧ ∀w2:World,w2.heap=w.heap→(Builtin.firstCells ti.size xs.length (.slice a' xs.length c)).run P w2=.ok (yI G s0 xs [] 0).toArray w2:=by
   rcases e2 with⟨rfl,a1,h1⟩|⟨b,cap,cs,et,h1,h2,h3,h4,h5,h6,h7,h8⟩
   ·exact⟨a1,0,h1,fun w2 _=>by cases a1<;>simp[Builtin.firstCells,loadCells,loadCellsFrom,yI]⟩
   ·refine⟨_,_,h1,fun w2 hw2=>?_⟩
    have hl:=zAw xs [] 0 b 0 h8;refine run_firstCells_some (P:=P) w2 ti.size xs.length ⟨b,0,i8⟩ _ _ _ ?_ (fun j v hv=>?_)
    ·rw[wQ,hk]
     exact wS xs (zBg xs [] 0 b 0 h8).2
    ·have:=zBb xs [] 0 b 0 hl j v hv
     grind[uM,yO,World.cell?]
  obtain⟨a',c,hh,gH⟩:=aG;have fw:yR xs=i9∧(∀x∈xs,x.size=k)∧ ∀i x,xs[i]? =i7 x→R Γ.St G w s0 x [i]:=by
   rcases e2 with⟨rfl,a1,h1⟩|⟨b,cap,cs,et,h1,h2,h3,h4,h5,h6,h7,h8⟩
   ·simp[yR]
   ·refine⟨kC (St:=Γ.St) (k:=k) xs [] 0 b 0 (zAw xs [] 0 b 0 h8),(zBg xs [] 0 b 0 h8).2,fun i x eh=>?_⟩
    have:=(jN xs [] 0 b 0 k i x h8 eh).2.2
    grind
  have gX:c<xs.length+us.length:=by grind
  have gx:=zJu (P:=P) (t:=t) (ty:=ty) ht hi hz hx gX cW hb gH;have hge:=grownCap_ge w (xs.length+us.length) c e;have aY:=grownCap_le_maxLen w (xs.length+us.length) c e (by grind[maxLen])
  generalize grownCap w (xs.length+us.length) c e=cap' at gx hge aY
  generalize eE:w.drew.alloc (.cells ((yI G s0 xs [] 0++nv).toArray++Builtin.zeroCells z.cells (cap'-(xs.length+us.length))) e)=w' at gx
  have hwh:w'.heap=w.heap.push (.cells ((yI G s0 xs [] 0++nv).toArray++Builtin.zeroCells z.cells (cap'-(xs.length+us.length))) e):=by rw[←eE];rfl
  have hszxs:T.sizes xs=xs.length*k:=wS xs fw.2.1;obtain⟨g1,g2,g3,g4,g5⟩:=zCO hm hwh d (xs++us) (fun i=>if i<xs.length then i7 (s0,[i])else y.map fun y'=>(y',[i-xs.length])) (zDD s0 y xs.length) (fun i z=>if i<xs.length then G.hd s0 (z++[i])else f2 (i-xs.length) z) (.slice (i7 ⟨w.heap.size,0,i8⟩) (xs.length+us.length) cap') ((zAP d s0 y).tail)
   (zDu xs us fw.1 hn.tup) (fun i z=>by split;exact hm.one _ _;exact hn.one _ _) rfl
   (fun i u x q z' hu hs=>by
    split at hs
    ·simp at hs;obtain⟨rfl,rfl⟩:=hs;simp[zDD]
    ·rename_i ch
     cases y with
     |none=>simp at hs
     |some y'=>
      simp at hs;obtain⟨rfl,rfl⟩:=hs;have:=(hn.slot y' rfl).2.1;simp[zDD,this,show xs.length+(i-xs.length)=i from by omega])
   (fun i u x q hu hs=>by
    rw[Kk]at hu;split at hs
    ·rename_i gD
     rw[if_pos gD]at hu;simp at hs;obtain⟨rfl,rfl⟩:=hs
     grind[uL]
    ·rename_i ch
     rw[if_neg ch]at hu;cases hy:y with
     |none=>grind
     |some y'=>
      rw[hy]at hs;simp at hs;obtain⟨rfl,rfl⟩:=hs;obtain⟨y1,y2,y3,y4⟩:=hn.slot y' hy;obtain⟨_,y5,_⟩:=g9.ent y' _ y3;simp only[R]at y5;refine⟨by grind,?_,uL us hn.clean _ u hu,y1⟩;rcases y5 with⟨rfl,_⟩|⟨b2,cap2,cs2,et2,_,_,_,_,_,_,_,y6⟩
      ·simp at hu
      ·have:=(jN us [] 0 b2 0 k _ u y6 hu).2.2
       grind)
   (fun i u hu hs G2 w2 fd=>by
    rw[Kk]at hu;split at hs
    ·cases hs
    ·rename_i ch
     rw[if_neg ch]at hu;cases hy:y with
     |some y'=>grind
     |none=>
      have:=hn.none hy (i-xs.length) u hu G2 w2 (fun z'=>by rw[show xs.length+(i-xs.length)=i from by omega,fd,if_neg ch])
      rwa [show xs.length+(i-xs.length)=i from by omega]at this)
   (fun G2 fd o v hv=>by
    rw[zEl,Jb]at hv;have h1:yI G2 d xs [] 0=yI G s0 xs [] 0:=zK5 xs [] 0 (by grind);rw[h1]at hv;have bG:(yI G s0 xs [] 0).length=xs.length*k:=by grind[wQ]
    have ap:(yI G2 d us [] xs.length).length=us.length*k:=by grind[wQ]
    have ho:o<xs.length*k+us.length*k:=by grind
    have px:=hn.len;rw[Array.getElem?_append_left (by simp;omega),List.getElem?_toArray];rw[Kk]at hv ⊢
    split at hv
    ·grind
    ·rename_i ch;rw[if_neg ch]
     exact hn.vals G2 (fun j z'=>by rw[fd,if_neg (by omega),show xs.length+j-xs.length=j from by omega]) _ v hv)
   (fun s p h=>pt s p (by simpa[zAP]using h)) (ho:=by rw[←eE];rfl) (hq:=by rw[←eE];rfl)
  refine⟨_,w',by rw[hh];exact gx,_,fin _ w' _ (by simpa[zAP]using g1) g2 (by simp[Gh.nb]) ?_ (by grind[Gh.nb])⟩;simp only[R];refine .inr ⟨w.heap.size,cap',_,e,by simp[Gh.nb],g5,by grind,aY,?_,by simp[Gh.nb],?_,zQ5 _ _ _ _ _ (fun x eh=>?_) g3 g4⟩
  ·have bG:(yI G s0 xs [] 0).length=xs.length*k:=by grind[wQ]
   have px:=hn.len;simp only[Array.size_append,Jbl,J6,size_zeroCells,fe,bG,px,←Uc]
   grind
  ·intro o ho _
   rw[J6,Uc]at ho;simp[Gh.nb,zDA (xs++us) [] 0 o (by grind[zEm])]
  ·rcases Jd.1 eh with h|h
   ·grind
   ·exact hn.size x h
end
end Go.Ab

namespace Go.Ab
open Go
mutual
def T.flat:T→Bool
 |.lit _|.ro _=>i9
 |.agg xs=>zAx xs
 |.any|.same _ _|.addr _ _|.sub _ _ _ _ _|.sl _ _|.ptr _|.tup _=>ia
def zAx:List T→Bool
 | []=>i9
 |x::xs=>x.flat&&zAx xs
end
section
variable {St:Stb}{G G2:Gh}{w w2:World}{s d:Nat}
mutual
theorem zJv:(t:T)→ ∀(p p':List Nat),t.flat=i9→(∀z,G2.hd d (z++p')=G.hd s (z++p))→R St G w s t p→R St G2 w2 d t p'
 |.lit _,p,p',_,h,hr=>by have:=h [];grind[R]
 |.ro _,p,p',_,h,hr=>by have:=h [];grind[R]
 |.agg xs,p,p',hf,h,hr=>by simp only[R,T.flat]at hr hf ⊢;exact zNM xs p p' 0 hf h hr
 |.any,_,_,hf,_,_|.same _ _,_,_,hf,_,_|.addr _ _,_,_,hf,_,_|.sub _ _ _ _ _,_,_,hf,_,_|.sl _ _,_,_,hf,_,_|.ptr _,_,_,hf,_,_|.tup _,_,_,hf,_,_=>by grind[T.flat]
theorem zNM:(xs:List T)→ ∀(p p':List Nat)(j:Nat),zAx xs=i9→(∀z,G2.hd d (z++p')=G.hd s (z++p))→RF St G w s xs p j→RF St G2 w2 d xs p' j
 | [],_,_,_,_,_,_=>by grind[RF]
 |x::xs,p,p',j,hf,h,hr=>by
  simp only[RF,zAx,J3]at hr hf ⊢
  exact⟨zJv x (j::p) (j::p') hf.1 (fun z=>by have:=h (z++[j]);grind) hr.1,zNM xs p p' (j+1) hf.2 h hr.2⟩
end
end
mutual
theorem zGI:(t:T)→t.flat=i9→yD t∧t.okTup=i9
 |.lit _,_|.ro _,_=>by simp[yD,xC,T.okTup]
 |.agg xs,h=>by simp only[T.flat]at h;simpa only[yD,xC,T.okTup]using kH xs h
 |.any,h|.same _ _,h|.addr _ _,h|.sub _ _ _ _ _,h|.sl _ _,h|.ptr _,h|.tup _,h=>by grind[T.flat]
theorem kH:(xs:List T)→zAx xs=i9→xQ xs∧yR xs=i9
 | [],_=>by simp[xQ,xX,yR]
 |x::xs,h=>by simp only[zAx,J3]at h;simp only[xQ,xX,yR,J3];exact⟨⟨(zGI x h.1).1,(kH xs h.2).1⟩,(zGI x h.1).2,(kH xs h.2).2⟩
end
theorem zI2:(xs:List T)→zAx xs=i9→ ∀(i:Nat)(x:T),xs[i]? =i7 x→x.flat=i9
 | [],_,_,_,h=>by simp at h
 |y::ys,hk,i,x,h=>by
  simp only[zAx,J3]at hk;cases i with
  |zero=>grind
  |succ i=>exact zI2 ys hk.2 i x (by grind)
mutual
def zFc:T→Bool
 |.lit _=>i9
 |.sl _ xs=>zBh xs
 |.agg xs=>zBh xs
 |.ptr t=>zFc t
 |.any|.ro _|.same _ _|.addr _ _|.sub _ _ _ _ _|.tup _=>ia
def zBh:List T→Bool
 | []=>i9
 |x::xs=>zFc x&&zBh xs
end
theorem zK6:(ys:List T)→zBh ys=i9→ ∀u∈ys,∀xs,u≠.tup xs
 | [],_,_,h,_=>by simp at h
 |y::ys,hr,u,h,xs=>by
  simp only[zBh,J3]at hr;rcases J8.1 h with rfl|h
  ·rintro rfl;grind[zFc]
  ·exact zK6 ys hr.2 u h xs
theorem zFI:(ys:List T)→(roT.roTs ys).length=ys.length
 | []=>rfl
 |y::ys=>by simp[roT.roTs,zFI ys]
theorem zGJ{k:Nat}:(ys:List T)→(∀u∈ys,u.size=k)→(∀u∈ys,∀xs,u≠.tup xs)→ ∀u∈roT.roTs ys,u.size=k
 | [],_,_,u,h=>by grind[roT.roTs]
 |y::ys,h1,h2,u,h=>by
  simp only[roT.roTs,J8]at h;rcases h with rfl|h
  ·grind[zEi]
  ·exact zGJ ys (by grind) (by grind) u h
theorem zK7:(ys:List T)→ ∀(j:Nat)(u:T),(roT.roTs ys)[j]? =i7 u→ ∃u0,ys[j]? =i7 u0∧u=roT u0
 | [],_,_,h=>by grind[roT.roTs]
 |y::ys,j,u,h=>by
  cases j with
  |zero=>grind[roT.roTs]
  |succ j=>
   obtain⟨u0,h1,h2⟩:=zK7 ys j u (by grind[roT.roTs])
   grind
theorem zNN{St:Stb}{G2:Gh}{d:Nat}:(ys:List T)→ ∀(cs':Array Value)(o' k n:Nat),RoL St ys cs' o' k→(∀u∈ys,u.size=k)→(∀j u,ys[j]? =i7 u→ ∀z',G2.hd d (z'++[n+j])=jQ (zD9 u cs' (o'+j*k) z'.reverse))→
  ∀(i:Nat)(v:Value),(yI G2 d (roT.roTs ys) [] n)[i]? =i7 v→cs'[o'+i]? =i7 v
 | [],_,_,_,_,_,_,_,i,v,hv=>by grind[roT.roTs,yI]
 |y::ys,cs',o',k,n,h,hs,hd,i,v,hv=>by
  simp only[RoL]at h;simp only[roT.roTs,yI]at hv;have ee:∀xs,y≠.tup xs:=by rintro xs rfl;grind[RoC]
  have hnt':∀xs,roT y≠.tup xs:=fun xs e=>by cases y<;>simp[roT]at e
  have hl:(vals G2 d (roT y) [n]).length=k:=by grind[vC,zEi]
  rw[Kk]at hv;split at hv
  ·exact zG4 y cs' o' [n] (fun z'=>by simpa using hd 0 y (by simp) z') h.1 i v hv
  ·have:=zNN ys cs' (o'+k) k (n+1) h.2 (by grind) (fun j u hu z'=>by
    have:=hd (j+1) u (by grind) z'
    grind) _ v hv
   grind
mutual
theorem zPg{G:Gh}(hg:∀s z,(G.hd s z).oneCell'=i9){s:Nat}:(t:T)→ ∀(p:List Nat)(v:Value),v∈vals G s t p→v.oneCell'=i9
 |.agg xs,p,v,h=>by simp only[vals]at h;exact zDE hg xs p 0 v h
 |.any,p,v,h|.lit _,p,v,h|.ro _,p,v,h|.same _ _,p,v,h|.addr _ _,p,v,h|.sub _ _ _ _ _,p,v,h|.sl _ _,p,v,h|.ptr _,p,v,h|.tup _,p,v,h=>by grind[vals]
theorem zDE{G:Gh}(hg:∀s z,(G.hd s z).oneCell'=i9){s:Nat}:(xs:List T)→ ∀(p:List Nat)(j:Nat)(v:Value),v∈yI G s xs p j→v.oneCell'=i9
 | [],_,_,_,h=>by grind[yI]
 |x::xs,p,j,v,h=>by
  simp only[yI,Jd]at h;rcases h with h|h
  ·exact zPg hg x _ v h
  ·exact zDE hg xs p _ v h
end
theorem zCi{G G2:Gh}{s d:Nat}:(us:List T)→ ∀(n j:Nat),(∀i z,G2.hd d (z++[n+i])=G.hd s (z++[j+i]))→yI G2 d us [] n=yI G s us [] j
 | [],_,_,_=>by rfl
 |x::xs,n,j,h=>by
  have ih:yI G2 d xs [] (n+1)=yI G s xs [] (j+1):=zCi xs (n+1) (j+1) (fun i z=>by rw[show n+1+i=n+(i+1)from by omega,show j+1+i=j+(i+1)from by omega];simp_all)
  simp only[yI];rw[ih,zAA x [j] [n] (by simpa using h 0)]
theorem zEo{G G2:Gh}{s d:Nat}:(us:List T)→ ∀(n j:Nat)(q:List Nat),(∀i z,G2.hd d (z++[n+i])=G.hd s (z++((j+i)::q)))→yI G2 d us [] n=yI G s us q j
 | [],_,_,_,_=>by rfl
 |x::xs,n,j,q,h=>by
  have ih:yI G2 d xs [] (n+1)=yI G s xs q (j+1):=zEo xs (n+1) (j+1) q (fun i z=>by rw[show n+1+i=n+(i+1)from by omega,show j+1+i=j+(i+1)from by omega];simp_all)
  simp only[yI];rw[ih,zAA x (j::q) [n] (by simpa using h 0)]
section
variable {P:Program}{Γ:Ctx}{E:Env}{o:Oper}{d:Nat}
theorem zNO{St:Stb}{G:Gh}{w:World}{r:Nat}{q:List Nat}{k:Nat}{us:List T}(h:R St G w r (.sl k us) q){size:Nat}(hk:size=k):
  ∃xa c,G.hd r q=.slice xa us.length c∧ ∀w2:World,w2.heap=w.heap→(Builtin.firstCells size us.length (.slice xa us.length c)).run P w2=.ok (yI G r us q 0).toArray w2:=by
 simp only[R]at h;rcases h with⟨rfl,a1,h1⟩|⟨b,cap,cs,et,h1,h2,h3,h4,h5,h6,h7,h8⟩
 ·exact⟨a1,0,h1,fun w2 _=>by cases a1<;>simp[Builtin.firstCells,loadCells,loadCellsFrom,yI]⟩
 ·refine⟨_,_,h1,fun w2 hw2=>?_⟩
  have hl:=zAw us q 0 b 0 h8;refine run_firstCells_some (P:=P) w2 size us.length ⟨b,0,i8⟩ _ _ _ ?_ (fun j v hv=>?_)
  ·rw[wQ,hk]
   exact wS us (zBg us q 0 b 0 h8).2
  ·have:=zBb us q 0 b 0 hl j v hv
   grind[uM,yO,World.cell?]
theorem zBi{G:Gh}{a:Act}{w:World}(g9:Rep Γ E G a.tmps w){s:Nat}{t:T}(h:E s=i7 t)(ht:t.single=i9):a.eval (.tmp s)=G.hd s []:=by rw[wI (g9.ent s t h).1,xN ht]
theorem zJw(t e:TypeId)(ti:TypeInfo)(z:Value)(k s0 y:Nat)(xs us:List T)(ho:o.op=.call { callee:=.builtin .append,args:=#[.tmp s0,.tmp y],argTypes:=#[t,t] })(gg:o.dst=i7 d)(hd:d<Γ.N)
  (ht:P.underlying t=i7 (.slice e))(hi:P.info? e=i7 ti)(hz:ti.zero=i7 z)(hk:ti.size=k)(eY:0<k)(fe:z.cells.size=k)(hb:ti.bytes≤2048)
  (ew:E s0=i7 (.sl k xs))(hy:E y=i7 (.sl k us))(fC:s0≠d)(hyd:y≠d)(hys:y≠s0)(cW:xs.length+us.length≤68719476736):
  wL P Γ o E (E.app (aWr d s0 (i7 y) k (xs++us)) (zAP d s0 (i7 y))):=by
 refine wL.value gg fun a w G g9=>?_
 obtain⟨_,y2,y3⟩:=g9.ent y _ hy;simp only[Top]at y3;obtain⟨xa,c,h1,h2⟩:=zNO (P:=P) y2 hk;have fL:yR us=i9∧ ∀u∈us,u.size=k:=by
  simp only[R]at y2;rcases y2 with⟨rfl,_⟩|⟨b,cap,cs,et,_,_,_,_,_,_,_,h8⟩
  ·simp[yR]
  ·exact⟨kC (St:=Γ.St) (k:=k) us [] 0 b 0 (zAw us [] 0 b 0 h8),(zBg us [] 0 b 0 h8).2⟩
 have hn:zGH Γ E G d s0 (i7 y) k xs.length us (fun j z'=>G.hd y (z'++[j])) (yI G y us [] 0):=
  ⟨fL.2,fL.1,y3,fun j z'=>g9.mem.one _ _,by grind[wQ,wS],fun y' hy'=>by simp_all,fun h=>by simp at h,
   fun G2 fd o v hv=>by rw[←zCi us xs.length 0 (fun i z'=>by rw[fd,Jb])];exact hv⟩
 obtain⟨v,w',gx,G',gm⟩:=zB4 (P:=P) (ty:=o.type) g9 hd ht hi hz hk eY fe hb ew fC hn (xv:=a.eval (.tmp y)) ⟨.inl ⟨e,xa,c,ht,by rw[zBi g9 hy rfl,h1],h2⟩⟩ (fun v hv=>zCQ g9.mem us [] 0 v hv) cW;refine⟨v,w',?_,G',gm⟩;rw[←zBi g9 ew rfl]at gx;simp[execOp,ho,resolve,invoke,builtin,gx]
theorem zJx(t e:TypeId)(ti:TypeInfo)(z:Value)(k s0:Nat)(y:Operand)(r:Nat)(q:List Nat)(xs us:List T)(ho:o.op=.call { callee:=.builtin .append,args:=#[.tmp s0,y],argTypes:=#[t,t] })(gg:o.dst=i7 d)(hd:d<Γ.N)
  (ht:P.underlying t=i7 (.slice e))(hi:P.info? e=i7 ti)(hz:ti.zero=i7 z)(hk:ti.size=k)(eY:0<k)(fe:z.cells.size=k)(hb:ti.bytes≤2048)
  (ew:E s0=i7 (.sl k xs))(hy:tF E y=i7 (r,q,.sl k us))(hf:zAx us=i9)(fC:s0≠d)(cW:xs.length+us.length≤68719476736):
  wL P Γ o E (E.app (aWr d s0 i8 k (xs++us)) (zAP d s0 i8)):=by
 refine wL.value gg fun a w G g9=>?_
 obtain⟨y2,y1⟩:=qZ g9 hy rfl;obtain⟨xa,c,h1,h2⟩:=zNO (P:=P) y2 hk;have fL:(∀u∈us,u.size=k)∧ ∀j u,us[j]? =i7 u→R Γ.St G w r u (j::q):=by
  simp only[R]at y2;rcases y2 with⟨rfl,_⟩|⟨b,cap,cs,et,_,_,_,_,_,_,_,h8⟩
  ·simp
  ·refine⟨(zBg us q 0 b 0 h8).2,fun j u hu=>?_⟩
   have:=(jN us q 0 b 0 k j u h8 hu).2.2
   grind
 have gE:=kH us hf;have hn:zGH Γ E G d s0 i8 k xs.length us (fun j z'=>G.hd r (z'++(j::q))) (yI G r us q 0):=
  ⟨fL.1,gE.2,gE.1,fun j z'=>g9.mem.one _ _,by grind[wQ,wS],by simp,
   by grind[zJv,zI2],
   fun G2 fd o v hv=>by rw[←zEo us xs.length 0 q (fun i z'=>by rw[fd,Jb])];exact hv⟩
 obtain⟨v,w',gx,G',gm⟩:=zB4 (P:=P) (ty:=o.type) g9 hd ht hi hz hk eY fe hb ew fC hn (xv:=a.eval y) ⟨.inl ⟨e,xa,c,ht,by rw[y1,h1],h2⟩⟩ (fun v hv=>zCQ g9.mem us q 0 v hv) cW;refine⟨v,w',?_,G',gm⟩;rw[←zBi g9 ew rfl]at gx;simp[execOp,ho,resolve,invoke,builtin,gx]
mutual
theorem zQA:(u:T)→zFc u=i9→(roT u).flat=i9
 |.agg xs,h=>by simp only[zFc]at h;simp only[roT,T.flat];exact zFd xs h
 |.lit _,_|.sl _ _,_|.ptr _,_=>by rfl
 |.any,h|.ro _,h|.same _ _,h|.addr _ _,h|.sub _ _ _ _ _,h|.tup _,h=>by grind[zFc]
theorem zFd:(xs:List T)→zBh xs=i9→zAx (roT.roTs xs)=i9
 | [],_=>by rfl
 |x::xs,h=>by simp only[zBh,J3]at h;simp only[roT.roTs,zAx,J3];exact⟨zQA x h.1,zFd xs h.2⟩
end
theorem zJy(t e:TypeId)(ti:TypeInfo)(z:Value)(k s0:Nat)(y:Operand)(r:Nat)(q:List Nat)(xs ys:List T)(ho:o.op=.call { callee:=.builtin .append,args:=#[.tmp s0,y],argTypes:=#[t,t] })(gg:o.dst=i7 d)(hd:d<Γ.N)
  (ht:P.underlying t=i7 (.slice e))(hi:P.info? e=i7 ti)(hz:ti.zero=i7 z)(hk:ti.size=k)(eY:0<k)(fe:z.cells.size=k)(hb:ti.bytes≤2048)
  (ew:E s0=i7 (.sl k xs))(hy:tF E y=i7 (r,q,.ro (.sl k ys)))(hro:zBh ys=i9)(hys:∀u∈ys,u.size=k)(fC:s0≠d)(cW:xs.length+ys.length≤68719476736):
  wL P Γ o E (E.app (aWr d s0 i8 k (xs++roT.roTs ys)) (zAP d s0 i8)):=by
 refine wL.value gg fun a w G g9=>?_
 obtain⟨y2,y1⟩:=qZ g9 hy rfl;obtain⟨xa,c,h1,h2,h3,h4⟩:=zCM y2;have hf:=zFd ys hro;have gE:=kH _ hf;have gj:(roT.roTs ys).length=ys.length:=zFI ys;have gw:∀u∈roT.roTs ys,u.size=k:=zGJ ys hys (by grind[zK6]);obtain⟨cs',o',h5,h6⟩:∃(cs':Array Value)(o':Nat),RoL Γ.St ys cs' o' k∧(ys≠[]→ ∃b et fr,xa=i7 ⟨b,o',i8⟩∧Γ.St b=i7 (.cells cs' et fr)):=by
  by_cases gf:ys=[]
  ·subst gf;exact⟨#[],0,by simp[RoL],fun h=>absurd rfl h⟩
  grind
 let f2:Nat→List Nat→Value:=fun j z'=>match ys[j]? with
  |some u=>jQ (zD9 u cs' (o'+j*k) z'.reverse)
  |none=>.bool ia
 have hf2:∀j u,ys[j]? =i7 u→ ∀z',f2 j z'=jQ (zD9 u cs' (o'+j*k) z'.reverse):=by grind
 let G0:Gh:={ G with hd:=fun s z'=>if s=d then(match z'.getLast? with
  |some j=>f2 j z'.dropLast
  |none=>.bool ia)else G.hd s z' }
 have hG0:∀j z',G0.hd d (z'++[j])=f2 j z':=by grind
 have p6:∀(G2:Gh)(n:Nat),(∀j z',G2.hd d (z'++[n+j])=f2 j z')→ ∀(i:Nat)(v:Value),(yI G2 d (roT.roTs ys) [] n)[i]? =i7 v→cs'[o'+i]? =i7 v:=by grind[zNN]
 have hload:∀w2:World,w2.heap=w.heap→(Builtin.firstCells ti.size ys.length (.slice xa ys.length c)).run P w2=.ok (yI G0 d (roT.roTs ys) [] 0).toArray w2:=by
  intro w2 hw2
  by_cases gf:ys=[]
  ·subst gf
   cases xa<;>simp[Builtin.firstCells,loadCells,loadCellsFrom,roT.roTs,yI]
  ·obtain⟨b,et,fr,rfl,h7⟩:=h6 gf
   refine run_firstCells_some (P:=P) w2 ti.size ys.length ⟨b,o',i8⟩ _ _ _ ?_ (fun j v hv=>?_)
   ·grind[wQ,wS]
   ·have:=p6 G0 0 (fun j z'=>by rw[Jb];grind) j v hv
    rw[uM];have h8:=g9.mem.st b _ h7
    grind[World.cell?]
 have mh:∀j z',(f2 j z').oneCell'=i9:=fun j z'=>by
  dsimp only[f2];split
  ·exact zBc _
  ·rfl
 have hn:zGH Γ E G d s0 i8 k xs.length (roT.roTs ys) f2 (yI G0 d (roT.roTs ys) [] 0):=by
  refine⟨gw,gE.2,gE.1,mh,by grind[wQ,wS],by simp,fun _ j u hu G2 w2 fd=>?_,fun G2 fd i v hv=>?_⟩
  ·obtain⟨u0,hu0,rfl⟩:=zK7 ys j u hu
   exact zQ0 u0 cs' (o'+j*k) [xs.length+j] (by grind) (by grind[zGi])
  ·rw[←zCi (roT.roTs ys) xs.length 0 (fun i z'=>by rw[fd,Jb];grind)]
   exact hv
 have ab:∀v∈yI G0 d (roT.roTs ys) [] 0,v.oneCell'=i9:=by
  intro v hv;refine zDE (fun s z'=>?_) _ [] 0 v hv;simp only[G0];split
  ·split
   ·exact mh _ _
   ·rfl
  ·exact g9.mem.one _ _
 have bi:zGG P t e ti (a.eval y) (roT.roTs ys).length (yI G0 d (roT.roTs ys) [] 0) w:=⟨by grind⟩;obtain⟨v,w',gx,G',gm⟩:=zB4 (P:=P) (ty:=o.type) g9 hd ht hi hz hk eY fe hb ew fC hn bi ab (by omega);refine⟨v,w',?_,G',gm⟩;rw[←zBi g9 ew rfl]at gx;simp[execOp,ho,resolve,invoke,builtin,gx]
end
end Go.Ab

namespace Go.Ab
open Go
theorem zFJ:(us:List T)→qC us=us.flatMap tR
 | []=>rfl
 |u::us=>by simp[qC,zFJ us]
theorem zCj(u:T)(h:u.zOk=i9):∀m,zAh (J1 m u)=i9
 |0=>rfl
 |m+1=>by simp[Jp,zAh,h,zCj u h m]
section
variable {P:Program}{Γ:Ctx}{E:Env}{o:Oper}{d:Nat}
theorem zGK(t t2 e:TypeId)(k2:IntKind)(ti:TypeInfo)(z:Value)(u:T)(k s0:Nat)(y:Operand)(kd:IntKind)(m:Nat)(xs:List T)(ho:o.op=.call { callee:=.builtin .append,args:=#[.tmp s0,y],argTypes:=#[t,t2] })(gg:o.dst=i7 d)(hd:d<Γ.N)
  (ht:P.underlying t=i7 (.slice e))(tg:P.underlying t2=i7 (.int k2))(hi:P.info? e=i7 ti)(hz:ti.zero=i7 z)(hk:ti.size=k)(eY:0<k)(hb:ti.bytes≤2048)(hu:u.zOk=i9)(hv:tR u=z.cells.toList)(fL:u.size=k)
  (ew:E s0=i7 (.sl k xs))(hy:opT E y=i7 (.lit (.int kd m)))(fC:s0≠d)(cW:xs.length+m≤68719476736):
  wL P Γ o E (E.app (aWr d s0 i8 k (xs++J1 m u)) (zAP d s0 i8)):=by
 refine wL.value gg fun a w G g9=>?_
 have fe:z.cells.size=k:=by rw[←Ko,←hv,vA u hu,fL]
 have hzo:=zCj u hu m;have gE:=zB3 _ hzo
 let f2:Nat→List Nat→Value:=fun _ z'=>jQ (zhd u z'.reverse)
 have dX:((Builtin.zeroCells z.cells m).toList).length=m*k:=by simp[Builtin.zeroCells,fe]
 have hn:zGH Γ E G d s0 i8 k xs.length (J1 m u) f2 (Builtin.zeroCells z.cells m).toList:=by
  refine⟨fun x hx=>by simp at hx;rw[hx.2];exact fL,gE.2,gE.1,fun _ _=>zBc _,by rw[dX];simp,fun y' hy'=>by simp at hy',fun _ j x hx G2 w2 fd=>?_,fun G2 fd i v m9=>?_⟩
  ·rw[Ke]at hx
   split at hx
   ·simp at hx;subst hx;exact zJp u _ hu (fun z'=>fd z')
   ·cases hx
  ·have h1:yI G2 d (J1 m u) [] xs.length=qC (J1 m u):=zDB _ [] xs.length hzo (fun j x hx z'=>by
    rw[Ke]at hx;split at hx
    ·simp at hx;subst hx;exact fd j z'
    ·cases hx)
   rw[h1,zFJ]at m9;obtain⟨h2,h3⟩:=zJq tR u k (by rw[vA u hu,fL]) eY m i v m9;rw[hv,Kt,←fe]at h3;have h4:i<m*z.cells.size:=by rw[fe];exact h2
   simp[Builtin.zeroCells,h4,getElem!_def,h3]
 have gz:∀v∈(Builtin.zeroCells z.cells m).toList,v.oneCell'=i9:=by
  intro v m9;simp only[Builtin.zeroCells,Array.toList_map,Array.toList_range,Jm,Kq]at m9;obtain⟨i,fq,rfl⟩:=m9;have h1:i%z.cells.size<z.cells.size:=Ul _ (by omega);have h2:z.cells[i%z.cells.size]! =z.cells[i%z.cells.size]:=by simp[h1]
  rw[h2];exact zFa u hu _ (by rw[hv];exact Array.mem_toList_iff.2 (Array.getElem_mem h1))
 have bi:zGG P t2 e ti (a.eval y) (J1 m u).length (Builtin.zeroCells z.cells m).toList w:=by
  refine⟨.inr ⟨k2,kd,z,tg,?_,hz,by simp,?_,by rw[fe,hk]⟩⟩
  ·rw[(wN g9 hy).1];simp
  ·simp only[Jf]
   exact H8 (Jv (show m≤68719476736 by omega) hb) (by decide)
 obtain⟨v,w',gx,G',gm⟩:=zB4 (P:=P) (ty:=o.type) g9 hd ht hi hz hk eY fe hb ew fC hn bi gz (by simpa using cW);refine⟨v,w',?_,G',gm⟩;rw[←zBi g9 ew rfl]at gx;simp[execOp,ho,resolve,invoke,builtin,gx]
end
end Go.Ab

namespace Go.Ab
open Go
def zK8(G:Gh)(nd:List (Nat×List Nat×T)):Value:=
 match nd with
 | [x]=>sJ G x.1 x.2.2 x.2.1
 |nd=>.tuple (nd.map fun x=>sJ G x.1 x.2.2 x.2.1).toArray
def FnC(P:Program)(f:FuncId)(us:List T)(res:List T)(rws:List (Nat×T)):Prop:=
 ∀(St:Stb)(W:Nat→Prop)(w:World)(G:Gh)(vs:Array Value),vs.size=us.length→
  (∀(i:Nat) u,us[i]? =i7 u→vs[i]? =i7 (mkV G i u [])∧R St G w i u [])→Mem ⟨St,W,w,0⟩ G w→
  Calls P f vs w fun e w'=> ∃(S':Stb)(G':Gh)(nd:List (Nat×List Nat×T)),zDi St S' W w.heap.size∧e=.returned (zK8 G' nd)∧Mem ⟨S',W,w,0⟩ G' w'∧nd.map (·.2.2)=res∧
   (∀x∈nd,R S' G' w' x.1 x.2.2 x.2.1∧us.length≤x.1)∧(nd.map (·.1)).Nodup∧
   ∀i u',(i,u')∈rws→R S' G' w' i u' []∧ ∃u,us[i]? =i7 u∧mkV G' i u' []=mkV G i u []
mutual
def vG:T→Bool
 |.ro _=>ia
 |.sl _ xs|.agg xs|.tup xs=>uF xs
 |.ptr t=>vG t
 |.any|.lit _|.same _ _|.addr _ _|.sub _ _ _ _ _=>i9
def uF:List T→Bool
 | []=>i9
 |x::xs=>vG x&&uF xs
end
section
variable {St St':Stb}{G:Gh}{w:World}{s:Nat}
mutual
theorem zPh:(t:T)→ ∀(p:List Nat),vG t=i9→R St G w s t p→R St' G w s t p
 |.ro _,_,h,_=>by grind[vG]
 |.sl k xs,p,h,hr=>by
  simp only[vG,R]at h hr ⊢
  rcases hr with hr|⟨b,cap,cs,e,h1,h2,h3,h4,h5,h6,h7,h8⟩
  ·grind
  ·exact .inr ⟨b,cap,cs,e,h1,h2,h3,h4,h5,h6,h7,zVf xs p 0 b 0 k h h8⟩
 |.agg xs,p,h,hr|.tup xs,p,h,hr=>by simp only[vG,R]at h hr ⊢;exact zVg xs p 0 h hr
 |.ptr t,p,h,hr=>by
  simp only[vG,R]at h hr ⊢
  obtain⟨b,cs,e,h1,h2,h3,h6,h4,h5⟩:=hr;exact⟨b,cs,e,h1,h2,h3,h6,h4,zPh t _ h h5⟩
 |.any,_,_,hr|.lit _,_,_,hr|.same _ _,_,_,hr|.addr _ _,_,_,hr|.sub _ _ _ _ _,_,_,hr=>by first|(simp only[R];done)|simpa only[R]using hr
theorem zVf:(xs:List T)→ ∀(p:List Nat)(i b o k:Nat),uF xs=i9→RL St G w s xs p i b o k→RL St' G w s xs p i b o k
 | [],_,_,_,_,_,_,_=>by simp only[RL]
 |x::xs,p,i,b,o,k,h,hr=>by
  simp only[uF,J3,RL]at h hr ⊢
  exact⟨hr.1,zPh x _ h.1 hr.2.1,zVf xs p (i+1) b _ k h.2 hr.2.2⟩
theorem zVg:(xs:List T)→ ∀(p:List Nat)(i:Nat),uF xs=i9→RF St G w s xs p i→RF St' G w s xs p i
 | [],_,_,_,_=>by simp only[RF]
 |x::xs,p,i,h,hr=>by
  simp only[uF,J3,RF]at h hr ⊢
  exact⟨zPh x _ h.1 hr.1,zVg xs p (i+1) h.2 hr.2⟩
end
end
section
variable {St St':Stb} (h:∀b x,St b=i7 x→St' b=i7 x)
 include h
mutual
theorem tS:(t:T)→ ∀(cs:Array Value)(o:Nat),RoC St t cs o→RoC St' t cs o
 |.sl k xs,cs,o,hr=>by
  simp only[RoC]at hr ⊢
  obtain⟨a,c,h1,h2,h3,h4⟩:=hr;refine⟨a,c,h1,h2,h3,fun gf=>?_⟩;obtain⟨b,o',cs',e,fr,h5,h6,h7⟩:=h4 gf;exact⟨b,o',cs',e,fr,h5,h b _ h6,zK9 xs cs' o' k h7⟩
 |.agg xs,cs,o,hr=>by simp only[RoC]at hr ⊢;exact zKA xs cs o hr
 |.ptr t,cs,o,hr=>by
  simp only[RoC]at hr ⊢
  obtain⟨b,o',cs',e,fr,h5,h6,h7⟩:=hr;exact⟨b,o',cs',e,fr,h5,h b _ h6,tS t cs' o' h7⟩
 |.any,_,_,hr|.lit _,_,_,hr|.ro _,_,_,hr|.same _ _,_,_,hr|.addr _ _,_,_,hr|.sub _ _ _ _ _,_,_,hr|.tup _,_,_,hr=>by first|(simp only[RoC]at hr;done)|simpa only[RoC]using hr
theorem zK9:(xs:List T)→ ∀(cs:Array Value)(o k:Nat),RoL St xs cs o k→RoL St' xs cs o k
 | [],_,_,_,_=>by have _:=h;simp only[RoL]
 |x::xs,cs,o,k,hr=>by simp only[RoL]at hr ⊢;exact⟨tS x cs o hr.1,zK9 xs cs _ k hr.2⟩
theorem zKA:(xs:List T)→ ∀(cs:Array Value)(o:Nat),RoF St xs cs o→RoF St' xs cs o
 | [],_,_,_=>by have _:=h;simp only[RoF]
 |x::xs,cs,o,hr=>by simp only[RoF]at hr ⊢;exact⟨tS x cs o hr.1,zKA xs cs _ hr.2⟩
end
end
section
variable {St St':Stb}{G:Gh}{w:World}{s:Nat} (h:∀b x,St b=i7 x→St' b=i7 x)
 include h
mutual
theorem zJz:(t:T)→ ∀(p:List Nat),R St G w s t p→R St' G w s t p
 |.ro t,_,hr=>by simp only[R]at hr ⊢;grind[tS]
 |.sl k xs,p,hr=>by
  simp only[R]at hr ⊢
  rcases hr with hr|⟨b,cap,cs,e,h1,h2,h3,h4,h5,h6,h7,h8⟩
  ·grind
  ·exact .inr ⟨b,cap,cs,e,h1,h2,h3,h4,h5,h6,h7,zNP xs p 0 b 0 k h8⟩
 |.agg xs,p,hr|.tup xs,p,hr=>by simp only[R]at hr ⊢;exact zNQ xs p 0 hr
 |.ptr t,p,hr=>by
  simp only[R]at hr ⊢
  obtain⟨b,cs,e,h1,h2,h3,h6,h4,h5⟩:=hr;exact⟨b,cs,e,h1,h2,h3,h6,h4,zJz t _ h5⟩
 |.any,_,hr|.lit _,_,hr|.same _ _,_,hr|.addr _ _,_,hr|.sub _ _ _ _ _,_,hr=>by first|(simp only[R];done)|simpa only[R]using hr
theorem zNP:(xs:List T)→ ∀(p:List Nat)(i b o k:Nat),RL St G w s xs p i b o k→RL St' G w s xs p i b o k
 | [],_,_,_,_,_,_=>by have _:=h;simp only[RL]
 |x::xs,p,i,b,o,k,hr=>by simp only[RL]at hr ⊢;exact⟨hr.1,zJz x _ hr.2.1,zNP xs p (i+1) b _ k hr.2.2⟩
theorem zNQ:(xs:List T)→ ∀(p:List Nat)(i:Nat),RF St G w s xs p i→RF St' G w s xs p i
 | [],_,_,_=>by have _:=h;simp only[RF]
 |x::xs,p,i,hr=>by simp only[RF]at hr ⊢;exact⟨zJz x _ hr.1,zNQ xs p (i+1) hr.2⟩
end
end
mutual
def strip:T→T
 |.lit v=>.lit v
 |.ro u=>if u.single then u else .any
 |.sl k xs=>.sl k (wW xs)
 |.agg xs=>.agg (wW xs)
 |.ptr t=>.ptr (strip t)
 |.any|.same _ _|.addr _ _|.sub _ _ _ _ _|.tup _=>.any
def wW:List T→List T
 | []=>[]
 |x::xs=>strip x::wW xs
end
theorem kD:(xs:List T)→(wW xs).length=xs.length
 | []=>rfl
 |x::xs=>by simp[wW,kD xs]
mutual
theorem zDF:(t:T)→(strip t).size=t.size
 |.agg xs=>by simp only[strip,T.size];exact zFK xs
 |.ro u=>by
  simp only[strip];split
  ·rename_i h;cases u<;>simp[T.single]at h<;>simp[T.size]
  rfl
 |.lit _|.sl _ _|.ptr _|.any|.same _ _|.addr _ _|.sub _ _ _ _ _|.tup _=>by rfl
theorem zFK:(xs:List T)→T.sizes (wW xs)=T.sizes xs
 | []=>rfl
 |x::xs=>by simp only[wW,T.sizes,zDF x,zFK xs]
end
theorem qW{St:Stb}{u:T}(hu:u.single=i9){v:Value}{cs:Array Value}{o:Nat}(h:RoC St u #[v] 0)(hc:cs[o]? =i7 v):RoC St u cs o:=by
 cases u<;>simp[T.single]at hu<;>simp only[RoC]at h ⊢ <;>simp at h<;>first
  |grind
  |grind
  |grind
  |grind
section
variable {St Sc:Stb}{G:Gh}{w:World}{s:Nat} (gz:∀s p,(G.hd s p).oneCell'=i9) (ey:∀b x,St b=i7 x→Sc b=i7 x) (eD:∀b,(∃y,G.ow b=i7 (s,y))→Sc b=w.heap[b]?)
 include gz ey eD
mutual
theorem frz:(t:T)→ ∀(p:List Nat)(b o:Nat)(cs:Array Value)(e:TypeId)(fr:Nat×Nat),w.heap[b]? =i7 (.cells cs e fr)→Loc G w s t p b o→R St G w s t p→RoC Sc (strip t) cs o
 |.agg xs,p,b,o,cs,e,fr,hb,hl,hr=>by simp only[Loc,R,strip,RoC]at hl hr ⊢;exact zX5 xs p 0 b o cs e fr hb hl.2 hr
 |.tup _,_,_,_,_,_,_,_,hl,_=>by have _:=eD;simp only[Loc]at hl
 |.any,p,b,o,cs,e,fr,hb,hl,hr|.same _ _,p,b,o,cs,e,fr,hb,hl,hr|.addr _ _,p,b,o,cs,e,fr,hb,hl,hr|.sub _ _ _ _ _,p,b,o,cs,e,fr,hb,hl,hr=>by
  have h1:=(wZ rfl hl).2.2;simp only[yO,World.cell?,hb]at h1;simp only[strip,RoC]
  grind
 |.lit v,p,b,o,cs,e,fr,hb,hl,hr=>by
  have h1:=(wZ rfl hl).2.2;simp only[yO,World.cell?,hb]at h1;simp only[strip,RoC,R]at hr ⊢
  grind
 |.ro u,p,b,o,cs,e,fr,hb,hl,hr=>by
  have h1:=(wZ rfl hl).2.2;simp only[yO,World.cell?,hb]at h1;simp only[strip,R]at hr ⊢
  split
  ·grind[qW,tS]
  ·simp only[RoC];grind
 |.sl k xs,p,b,o,cs,e,fr,hb,hl,hr=>by have h1:=(wZ rfl hl).2.2;simp only[yO,World.cell?,hb]at h1;exact qW rfl (zKB (.sl k xs) p rfl hr) (by grind)
 |.ptr t,p,b,o,cs,e,fr,hb,hl,hr=>by have h1:=(wZ rfl hl).2.2;simp only[yO,World.cell?,hb]at h1;exact qW rfl (zKB (.ptr t) p rfl hr) (by grind)
theorem zX5:(xs:List T)→ ∀(p:List Nat)(j b o:Nat)(cs:Array Value)(e:TypeId)(fr:Nat×Nat),w.heap[b]? =i7 (.cells cs e fr)→vE G w s xs p j b o→RF St G w s xs p j→RoF Sc (wW xs) cs o
 | [],_,_,_,_,_,_,_,_,_,_=>by have _:=gz;have _:=ey;have _:=eD;simp only[wW,RoF]
 |x::xs,p,j,b,o,cs,e,fr,hb,hl,hr=>by
  simp only[vE,RF,wW,RoF]at hl hr ⊢
  exact⟨frz x _ b o cs e fr hb hl.1 hr.1,by rw[zDF];exact zX5 xs p (j+1) b _ cs e fr hb hl.2 hr.2⟩
theorem zX6:(xs:List T)→ ∀(p:List Nat)(i b o k:Nat)(cs:Array Value)(e:TypeId)(fr:Nat×Nat),w.heap[b]? =i7 (.cells cs e fr)→RL St G w s xs p i b o k→RoL Sc (wW xs) cs o k
 | [],_,_,_,_,_,_,_,_,_,_=>by have _:=gz;have _:=ey;have _:=eD;simp only[wW,RoL]
 |x::xs,p,i,b,o,k,cs,e,fr,hb,hr=>by
  simp only[RL,wW,RoL]at hr ⊢
  exact⟨frz x _ b o cs e fr hb hr.1.1 hr.2.1,zX6 xs p (i+1) b _ k cs e fr hb hr.2.2⟩
theorem zKB:(t:T)→ ∀(p:List Nat),t.single=i9→R St G w s t p→RoC Sc (strip t) #[G.hd s p] 0
 |.agg _,_,h,_|.tup _,_,h,_=>by grind[T.single]
 |.any,p,_,_|.same _ _,p,_,_|.addr _ _,p,_,_|.sub _ _ _ _ _,p,_,_=>by simp only[strip,RoC];simp_all
 |.lit v,p,_,hr=>by simp only[strip,RoC,R]at hr ⊢;grind
 |.ro u,p,_,hr=>by
  simp only[strip,R]at hr ⊢
  split
  ·grind[tS]
  ·simp only[RoC];grind
 |.sl k xs,p,_,hr=>by
  simp only[strip,R,RoC]at hr ⊢
  rw[kD];rcases hr with⟨rfl,a,h1⟩|⟨b,cap,cs,e,h1,h2,h3,h4,h5,h6,h7,h8⟩
  ·grind[wW]
  ·exact⟨i7 ⟨b,0,i8⟩,cap,by simp[h1],h3,h4,fun _=>⟨b,0,cs,e,(0,0),rfl,by grind,zX6 xs p 0 b 0 k cs e (0,0) h2 h8⟩⟩
 |.ptr t,p,_,hr=>by
  simp only[strip,R,RoC]at hr ⊢
  obtain⟨b,cs,e,h1,h2,h3,h6,h4,h5⟩:=hr;exact⟨b,0,cs,e,(0,0),by simp[h1],by grind,frz t _ b 0 cs e (0,0) h2 h4 h5⟩
end
end
end Go.Ab

namespace Go.Ab
open Go
mutual
def clo(E:Env):T→T
 |.agg ts=>.agg (zAQ E ts)
 |.lit v=>.lit v
 |.ro u=>.ro u
 |.same r q=>match qS E 4 r q with
  |some (_,_,.ro u)=>.ro u
  |some (_,_,.lit v)=>.lit v
  |some (_,_,t)=>if t.single then .ro (strip t)else .any
  |none=>.any
 |.sub r q k lo hi=>match qS E 4 r q with
  |some (_,_,.sl k' xs)=>if k=k'∧lo≤hi∧hi≤xs.length then .ro (.sl k (((wW xs).drop lo).take (hi-lo)))else .any
  |_=>.any
 |.sl k xs=>.ro (strip (.sl k xs))
 |.ptr t=>.ro (strip (.ptr t))
 |.any|.addr _ _|.tup _=>.any
def zAQ(E:Env):List T→List T
 | []=>[]
 |x::xs=>clo E x::zAQ E xs
end
mutual
def qA(E:Env)(rs:List Nat)(s:Nat):T→Bool
 |.agg ts=>zAy E rs s ts
 |.same r q|.sub r q _ _ _=>match qS E 4 r q with
  |some (r',_,_)=> !rs.contains r'
  |none=>i9
 |.sl _ _|.ptr _=> !rs.contains s
 |.lit _|.ro _|.any|.addr _ _=>i9
 |.tup _=>ia
def zAy(E:Env)(rs:List Nat)(s:Nat):List T→Bool
 | []=>i9
 |x::xs=>qA E rs s x&&zAy E rs s xs
end
theorem zTK{St:Stb}{k:Nat}{xs:List T}{v:Value}{lo hi:Nat}(h:RoC St (.sl k xs) #[v] 0)(h1:lo≤hi)(h2:hi≤xs.length):RoC St (.sl k ((xs.drop lo).take (hi-lo))) #[zAZ v k lo hi] 0:=by
 simp only[RoC]at h ⊢
 obtain⟨a',c,g4,g5,g6,g7⟩:=h;have hv:v=.slice a' xs.length c:=by simpa using g4
 subst hv;have gj:((xs.drop lo).take (hi-lo)).length=hi-lo:=by simp;omega
 refine⟨if c=lo then a' else a'.map (·.add (lo*k)),c-lo,by rw[gj];simp[zAZ],by omega,by omega,?_⟩;intro gf;have eA:xs≠[]:=by rintro rfl;simp at gf
 obtain⟨b,o',cs',e',fr,rfl,h3,h4⟩:=g7 eA;have gE:c≠lo:=by rintro rfl;apply gf;apply Ll;omega
 exact⟨b,o'+lo*k,cs',e',fr,by simp[gE,uM],h3,zG6 _ _ _ _ _ (zG5 _ _ _ _ _ h4)⟩
section
variable {Γ:Ctx}{E:Env}{G Gc:Gh}{a:Act}{w:World}{Sc:Stb}{rs:List Nat}{s i:Nat} (g9:Rep Γ E G a.tmps w) (ey:∀b x,Γ.St b=i7 x→Sc b=i7 x) (eD:∀r,r∉rs→ ∀b,(∃y,G.ow b=i7 (r,y))→Sc b=w.heap[b]?) (gG:∀z,Gc.hd i z=G.hd s z)
 include g9 ey eD gG
mutual
theorem zVh:(t:T)→ ∀(p:List Nat),qA E rs s t=i9→R Γ.St G w s t p→R Sc Gc w i (clo E t) p
 |.agg ts,p,h,hr=>by simp only[qA,clo,R]at h hr ⊢;exact zQB ts p 0 h hr
 |.tup _,_,h,_=>by simp[qA]at h
 |.lit v,p,_,hr=>by simp only[clo,R]at hr ⊢;rw[gG];exact hr
 |.ro u,p,_,hr=>by simp only[clo,R]at hr ⊢;rw[gG];exact tS ey u _ _ hr
 |.any,_,_,_|.addr _ _,_,_,_=>by simp only[clo,R]
 |.sl k xs,p,h,hr=>by simp only[qA,Gp,H9,decide_eq_false_iff_not]at h;have:=zKB (fun s p=>g9.mem.one s p) ey (eD s h) (.sl k xs) p rfl hr;simp only[clo,R];rw[gG];exact this
 |.ptr t,p,h,hr=>by simp only[qA,Gp,H9,decide_eq_false_iff_not]at h;have:=zKB (fun s p=>g9.mem.one s p) ey (eD s h) (.ptr t) p rfl hr;simp only[clo,R];rw[gG];exact this
 |.same r q,p,h,hr=>by
  simp only[qA,clo,R]at h hr ⊢
  cases hf:qS E 4 r q with
  |none=>simp only[R]
  |some x=>
   obtain⟨r',q',t⟩:=x;simp only[hf,Gp,H9,decide_eq_false_iff_not]at h;obtain⟨h1,h2,_⟩:=zCL g9 4 r q r' q' t hf;have h3:Gc.hd i p=G.hd r' q':=by rw[gG,hr,h2]
   by_cases hs:t.single=i9
   ·have h4:=zKB (fun s p=>g9.mem.one s p) ey (eD r' h) t q' hs h1
    cases t with
    |ro u=>simp only[R]at h1 ⊢;rw[h3];exact tS ey u _ _ h1
    |lit v=>simp only[R]at h1 ⊢;rw[h3];exact h1
    |agg _=>simp[T.single]at hs
    |tup _=>simp[T.single]at hs
    |_=>simp only[hs,if_true,R];rw[h3];exact h4
   ·cases t<;>simp[T.single]at hs<;>simp[T.single,R]
 |.sub r q k lo hi,p,h,hr=>by
  simp only[qA,clo,R]at h hr ⊢
  cases hf:qS E 4 r q with
  |none=>simp only[R]
  |some x=>
   obtain⟨r',q',t⟩:=x;simp only[hf,Gp,H9,decide_eq_false_iff_not]at h;obtain⟨h1,h2,_⟩:=zCL g9 4 r q r' q' t hf;cases t with
   |sl k' xs=>
    simp only[];split
    ·rename_i hc
     obtain⟨rfl,fb,fa⟩:=hc;have h4:=zKB (fun s p=>g9.mem.one s p) ey (eD r' h) (.sl k xs) q' rfl h1;simp only[strip]at h4;simp only[R];rw[gG,hr,h2];exact zTK h4 fb (by rw[kD];exact fa)
    ·simp only[R]
   |_=>simp only[R]
theorem zQB:(ts:List T)→ ∀(p:List Nat)(j:Nat),zAy E rs s ts=i9→RF Γ.St G w s ts p j→RF Sc Gc w i (zAQ E ts) p j
 | [],_,_,_,_=>by have _:=g9;have _:=ey;have _:=eD;have _:=gG;simp only[zAQ,RF]
 |x::xs,p,j,h,hr=>by
  simp only[zAy,J3,zAQ,RF]at h hr ⊢
  exact⟨zVh x _ h.1 hr.1,zQB xs p (j+1) h.2 hr.2⟩
end
end
section
variable {E:Env}{G Gc:Gh}{rs:List Nat}{s i:Nat}
theorem zGL(t:T)(h:t.single=i9):(clo E t).single=i9:=by cases t<;>simp[T.single]at h<;>simp only[clo]<;>first|rfl|(split<;>first|rfl|(split<;>rfl))
mutual
theorem zQC(gG:∀z,Gc.hd i z=G.hd s z):(t:T)→ ∀(p:List Nat),qA E rs s t=i9→vals Gc i (clo E t) p=vals G s t p
 |.agg ts,p,h=>by simp only[qA,clo,vals]at h ⊢;exact zFe gG ts p 0 h
 |.tup _,_,h=>by simp[qA]at h
 |.lit _,p,_|.ro _,p,_|.any,p,_|.addr _ _,p,_|.sl _ _,p,_|.ptr _,p,_|.same _ _,p,_|.sub _ _ _ _ _,p,_=>by
  have h1:∀u:T,u.single=i9→vals Gc i u p=[G.hd s p]:=fun u hu=>by cases u<;>simp[T.single]at hu<;>simp[vals,gG]
  rw[h1 _ (zGL _ rfl)];simp[vals]
theorem zFe(gG:∀z,Gc.hd i z=G.hd s z):(ts:List T)→ ∀(p:List Nat)(j:Nat),zAy E rs s ts=i9→yI Gc i (zAQ E ts) p j=yI G s ts p j
 | [],_,_,_=>by simp only[zAQ,yI]
 |x::xs,p,j,h=>by simp only[zAy,J3]at h;simp only[zAQ,yI];rw[zQC gG x _ h.1,zFe gG xs p _ h.2]
end
theorem zJ0(gG:∀z,Gc.hd i z=G.hd s z)(t:T)(h:qA E rs s t=i9):mkV Gc i (clo E t) []=mkV G s t []:=by
 cases t with
 |agg ts=>simp only[qA]at h;simp only[clo,mkV,zFe gG ts [] 0 h]
 |tup _=>simp[qA]at h
 |_=>rw[xN (zGL _ rfl),xN rfl,gG]
end
end Go.Ab
