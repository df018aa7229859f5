/- The program's ComplementsOf returns what the reference's returns,for all arguments;no conditions. -/
import Derived.Orders
import Derived.Laws.AppendOwn
import Derived.Laws.MakeOwn
import Derived.Great.BuildSlice
import Derived.Laws.Tables
open List renaming replicate→J1,length_append→J6,getElem?_append_right→J8,append_nil→J9,getElem?_eq_some_iff→Ja,append_assoc→Jc,mem_map→Jg,length_cons→Jh,map_cons→Jk,getElem?_append_left→Jo,nil_append→Jp,length_take→Jt,getElem?_map→Ju,mem_cons→Jv,eq_nil_of_length_eq_zero→Jw,length_replicate→Jy,all_eq_true→Ka,mem_of_getElem?→Kc,take_succ_cons→Kd,cons_append→Kh,getElem?_replicate→Ki,replicate_succ→Kj,getElem?_drop→Ko,set_cons_zero→Kq,reverse_reverse→Kr,getElem?_append→Kz,flatMap_append→L8,ext_getElem?→La,mem_range→Lb,mem_append→Lf,nodup_cons→Ll,set_cons_succ→Lo,map_nil→Lr,flatMap_cons→Ls,drop_eq_getElem_cons→Lt,length_nil→Lu,reverse_nil→Lz,reverse_cons→H7,reverse_append→Hk,mem_of_mem_take→Gl,getElem?_set_self→Uo,getElem?_cons_succ→Uw,map_take→Uy,take_append_of_le_length→Q5,length_set→Q8,getElem?_take_of_lt→Qf,getElem?_set_ne→Qx,take_append_drop→Jas,take_append→Jay,map_map→Jb0,isEmpty_iff→Jb1,cons→Jb7,size_toArray→Jb8
open Bool renaming and_eq_true→J4,false_eq_true→Hz
open Int renaming toNat_natCast→J7,natCast_mul→Ld
open Array renaming getElem?_setIfInBounds→Jb,getD_eq_getD_getElem?→K3,getElem?_toList→K5,length_toList→Ke,getElem?_eq_some_iff→Kg,range→Jbw,ext'→Jcc
open Nat renaming zero_add→Jd,lt_or_ge→Jf,le_refl→Ji,succ_mul→Kf,sub_self→Kk,mul_le_mul→Kn,le_trans→Kt,mul_le_mul_right→L5,min_eq_left→Lp,add_assoc→Lv,le_mul_of_pos_right→G5,add_zero→G7,add_mul→Ux,lt_of_lt_of_le→Jaq,add_comm→Jc9
open Prod renaming mk→Un
open Option renaming isSome_none→Jaa,map_none→Jb3
namespace Go.Ab
open Go
inductive T where
 |any
 |lit (v:Value)
 |ro (t:T)
 |same (r:Nat) (p:List Nat)
 |addr (r:Nat) (p:List Nat)
 |sub (r:Nat) (p:List Nat) (k lo hi:Nat)
 |sl (k:Nat) (xs:List T)
 |agg (xs:List T)
 |ptr (t:T)
 |tup (xs:List T)
 deriving Inhabited
abbrev Stb:=Nat→Option Obj
mutual
def T.size:T→Nat
 |.agg xs=>T.sizes xs
 |_=>1
def T.sizes:List T→Nat
 | []=>0
 |x::xs=>x.size+T.sizes xs
end
mutual
def RoC(St:Stb):T→Array Value→Nat→Prop
 |.any,cs,o=> ∃v,cs[o]? =some v∧v.oneCell'=true
 |.lit v,cs,o=>cs[o]? =some v∧v.oneCell'=true
 |.ro _,_,_=>False
 |.sl k xs,cs,o=> ∃a c,cs[o]? =some (.slice a xs.length c)∧xs.length≤c∧c≤maxLen∧
   (xs≠[]→ ∃b o' cs' e fr,a=some ⟨b,o',none⟩∧St b=some (.cells cs' e fr)∧RoL St xs cs' o' k)
 |.agg xs,cs,o=>RoF St xs cs o
 |.ptr t,cs,o=> ∃b o' cs' e fr,cs[o]? =some (.pointer (some ⟨b,o',none⟩))∧St b=some (.cells cs' e fr)∧RoC St t cs' o'
 |.same _ _,_,_=>False
 |.addr _ _,_,_=>False
 |.sub _ _ _ _ _,_,_=>False
 |.tup _,_,_=>False
def RoL(St:Stb):List T→Array Value→Nat→Nat→Prop
 | [],_,_,_=>True
 |x::xs,cs,o,k=>RoC St x cs o∧RoL St xs cs (o+k) k
def RoF(St:Stb):List T→Array Value→Nat→Prop
 | [],_,_=>True
 |x::xs,cs,o=>RoC St x cs o∧RoF St xs cs (o+x.size)
end
structure Gh where
 hd:Nat→List Nat→Value
 ad:Nat→List Nat→Addr
 lb:Nat→Nat→Option (Bool×Nat×List Nat)
 ow:Nat→Option (Nat×List Nat)
def yG(w:World)(b o:Nat):Option Value:=w.cell? ⟨b,o,none⟩
mutual
def Loc(G:Gh)(w:World)(s:Nat):T→List Nat→Nat→Nat→Prop
 |.agg xs,p,b,o=>G.ad s p=⟨b,o,none⟩∧wS G w s xs p 0 b o
 |.tup _,_,_,_=>False
 |.any,p,b,o|.lit _,p,b,o|.ro _,p,b,o|.same _ _,p,b,o|.addr _ _,p,b,o|.sub _ _ _ _ _,p,b,o|.sl _ _,p,b,o|.ptr _,p,b,o=>
  G.ad s p=⟨b,o,none⟩∧G.lb b o=some (false,s,p)∧yG w b o=some (G.hd s p)
def wS(G:Gh)(w:World)(s:Nat):List T→List Nat→Nat→Nat→Nat→Prop
 | [],_,_,_,_=>True
 |x::xs,p,j,b,o=>Loc G w s x (j::p) b o∧wS G w s xs p (j+1) b (o+x.size)
end
def kN(v:Value)(k lo hi:Nat):Value:=
 match v with
 |.slice a _ c=>.slice (if c=lo then a else a.map (·.add (lo*k))) (hi-lo) (c-lo)
 |v=>v
mutual
def R(St:Stb)(G:Gh)(w:World)(s:Nat):T→List Nat→Prop
 |.any,_=>True
 |.lit v,p=>G.hd s p=v
 |.ro t,p=>RoC St t #[G.hd s p] 0
 |.same r q,p=>G.hd s p=G.hd r q
 |.addr r q,p=>G.hd s p=.pointer (some (G.ad r q))
 |.sub r q k lo hi,p=>G.hd s p=kN (G.hd r q) k lo hi
 |.sl k xs,p=>(xs=[]∧ ∃a,G.hd s p=.slice a 0 0)∨ ∃b cap cs e,G.hd s p=.slice (some ⟨b,0,none⟩) xs.length cap∧
   w.heap[b]? =some (.cells cs e (0,0))∧xs.length≤cap∧cap≤maxLen∧cap*k≤cs.size∧G.ow b=some (s,p)∧
   (∀o,xs.length*k≤o→o<cap*k→G.lb b o=some (true,s,p))∧RL St G w s xs p 0 b 0 k
 |.agg xs,p=>RF St G w s xs p 0
 |.ptr t,p=> ∃b cs e,G.hd s p=.pointer (some ⟨b,0,none⟩)∧w.heap[b]? =some (.cells cs e (0,0))∧cs.size=t.size∧G.ow b=some (s,p)∧
   Loc G w s t (0::p) b 0∧R St G w s t (0::p)
 |.tup xs,p=>RF St G w s xs p 0
def RL(St:Stb)(G:Gh)(w:World)(s:Nat):List T→List Nat→Nat→Nat→Nat→Nat→Prop
 | [],_,_,_,_,_=>True
 |x::xs,p,i,b,o,k=>(Loc G w s x (i::p) b o∧x.size=k)∧R St G w s x (i::p)∧RL St G w s xs p (i+1) b (o+k) k
def RF(St:Stb)(G:Gh)(w:World)(s:Nat):List T→List Nat→Nat→Prop
 | [],_,_=>True
 |x::xs,p,j=>R St G w s x (j::p)∧RF St G w s xs p (j+1)
end
mutual
def yP(φ:Nat→List Nat→Prop):T→Prop
 |.same r p|.addr r p|.sub r p _ _ _=>φ r p
 |.sl _ xs|.agg xs|.tup xs=>xI φ xs
 |.ptr t=>yP φ t
 |.any|.lit _|.ro _=>True
def xI(φ:Nat→List Nat→Prop):List T→Prop
 | []=>True
 |x::xs=>yP φ x∧xI φ xs
end
mutual
theorem yP.mono{φ ψ:Nat→List Nat→Prop}(h:∀r p,φ r p→ψ r p):(t:T)→yP φ t→yP ψ t
 |.same _ _,ht|.addr _ _,ht|.sub _ _ _ _ _,ht=>h _ _ ht
 |.sl _ xs,ht|.agg xs,ht|.tup xs,ht=>by simp only[yP]at ht ⊢;exact xI.mono h xs ht
 |.ptr t,ht=>by simp only[yP]at ht ⊢;exact yP.mono h t ht
 |.any,_|.lit _,_|.ro _,_=>by simp[yP]
theorem xI.mono{φ ψ:Nat→List Nat→Prop}(h:∀r p,φ r p→ψ r p):(xs:List T)→xI φ xs→xI ψ xs
 | [],_=>trivial
 |x::xs,hx=>⟨yP.mono h x hx.1,xI.mono h xs hx.2⟩
end
mutual
theorem yP.triv{φ:Nat→List Nat→Prop}(h:∀r p,φ r p):(t:T)→yP φ t
 |.same _ _|.addr _ _|.sub _ _ _ _ _=>by simp only[yP];exact h _ _
 |.sl _ xs|.agg xs|.tup xs=>by simp only[yP];exact xI.triv h xs
 |.ptr t=>by simp only[yP];exact yP.triv h t
 |.any|.lit _|.ro _=>by simp only[yP]
theorem xI.triv{φ:Nat→List Nat→Prop}(h:∀r p,φ r p):(xs:List T)→xI φ xs
 | []=>by simp only[xI]
 |x::xs=>by simp only[xI];exact⟨yP.triv h x,xI.triv h xs⟩
end
abbrev zV(t:T):Prop:=yP (fun _ _=>False) t
abbrev xE(xs:List T):Prop:=xI (fun _ _=>False) xs
def Blk(w w':World):Prop:=∀(b:Nat) cs e,w.heap[b]? =some (.cells cs e (0,0))→ ∃cs',w'.heap[b]? =some (.cells cs' e (0,0))∧cs'.size=cs.size
structure MovesE (G:Gh) (w:World) (G':Gh) (w':World) (s:Nat) (p:List Nat) (s':Nat) (p':List Nat):Prop where
 hd:∀z,G'.hd s' (z++p')=G.hd s (z++p)
 ad:∀z,z≠[]→G'.ad s' (z++p')=G.ad s (z++p)
 lb:∀b o f z,z≠[]→(∃y,G.ow b=some (s,y))→G.lb b o=some (f,s,z++p)→G'.lb b o=some (f,s',z++p')∧yG w' b o=yG w b o
 ow:∀b z,z≠[]→G.ow b=some (s,z++p)→G'.ow b=some (s',z++p')
 blk:Blk w w'
structure zHy (G:Gh) (w:World) (G':Gh) (w':World) (s:Nat) (p:List Nat) (s':Nat) (p':List Nat):Prop extends MovesE G w G' w' s p s' p' where
 sp:∀b o,(∃y,G.ow b=some (s,y))→G.lb b o=some (true,s,p)→G'.lb b o=some (true,s',p')∧yG w' b o=yG w b o
 ow0:∀b,G.ow b=some (s,p)→G'.ow b=some (s',p')
def jX(G G':Gh)(r:Nat)(p:List Nat):Prop:=G'.hd r p=G.hd r p∧G'.ad r p=G.ad r p
section
variable {St:Stb}{G:Gh}{w:World}{G':Gh}{w':World}{s:Nat}{p:List Nat}{s':Nat}{p':List Nat}
mutual
theorem zD0(hm:MovesE G w G' w' s p s' p'):(t:T)→ ∀(z:List Nat)(b o:Nat),z≠[]→(∃y,G.ow b=some (s,y))→Loc G w s t (z++p) b o→Loc G' w' s' t (z++p') b o
 |.agg xs,z,b,o,hz,hob,h=>by
  simp only[Loc]at h ⊢
  exact⟨(hm.ad z hz).trans h.1,zHz hm xs z 0 b o hob h.2⟩
 |.any,z,b,o,hz,hob,h|.lit _,z,b,o,hz,hob,h|.ro _,z,b,o,hz,hob,h|.same _ _,z,b,o,hz,hob,h|.addr _ _,z,b,o,hz,hob,h|.sub _ _ _ _ _,z,b,o,hz,hob,h|.sl _ _,z,b,o,hz,hob,h|.ptr _,z,b,o,hz,hob,h=>by
  simp only[Loc]at h ⊢
  obtain⟨h1,h2,h3⟩:=h;have hl:=hm.lb b o false z hz hob h2;exact⟨(hm.ad z hz).trans h1,hl.1,by rw[hl.2,h3,hm.hd]⟩
 |.tup _,_,_,_,_,_,h=>by simp only[Loc]at h
theorem zHz(hm:MovesE G w G' w' s p s' p'):(xs:List T)→ ∀(z:List Nat)(j b o:Nat),(∃y,G.ow b=some (s,y))→wS G w s xs (z++p) j b o→wS G' w' s' xs (z++p') j b o
 | [],_,_,_,_,_,_=>by simp only[wS]
 |x::xs,z,j,b,o,hob,h=>by
  simp only[wS]at h ⊢
  exact⟨zD0 hm x (j::z) b o (by simp) hob h.1,zHz hm xs z (j+1) b _ hob h.2⟩
end
mutual
theorem zD1(hm:MovesE G w G' w' s p s' p'):(t:T)→ ∀(z:List Nat),z≠[]→yP (jX G G') t→R St G w s t (z++p)→R St G' w' s' t (z++p')
 |.any,_,_,_,_=>by simp only[R]
 |.lit _,z,_,_,h=>by simp only[R]at h ⊢;rw[hm.hd];exact h
 |.ro _,z,_,_,h=>by simp only[R]at h ⊢;rw[hm.hd];exact h
 |.same r q,z,_,hk,h=>by simp only[R]at h ⊢;rw[hm.hd,hk.1];exact h
 |.addr r q,z,_,hk,h=>by simp only[R]at h ⊢;rw[hm.hd,hk.2];exact h
 |.sub r q k lo hi,z,_,hk,h=>by simp only[R]at h ⊢;rw[hm.hd,hk.1];exact h
 |.agg xs,z,_,hk,h=>by simp only[R,yP]at h hk ⊢;exact zD2 hm xs z 0 hk h
 |.tup xs,z,_,hk,h=>by simp only[R,yP]at h hk ⊢;exact zD2 hm xs z 0 hk h
 |.sl k xs,z,hz,hk,h=>by
  simp only[R,yP]at h hk ⊢
  rw[hm.hd];rcases h with h|⟨b,cap,cs,e,h1,h2,h3,h4,h5,h6,h7,h8⟩
  ·exact .inl h
  ·obtain⟨cs',h2',hsz⟩:=hm.blk b cs e h2
   exact .inr ⟨b,cap,cs',e,h1,h2',h3,h4,by omega,hm.ow b z hz h6,fun o ho ho2=>(hm.lb b o true z hz ⟨_,h6⟩ (h7 o ho (by omega))).1,zIu hm xs z 0 b 0 k ⟨_,h6⟩ hk h8⟩
 |.ptr t,z,hz,hk,h=>by
  simp only[R,yP]at h hk ⊢
  rw[hm.hd];obtain⟨b,cs,e,h1,h2,h3,h6,h4,h5⟩:=h;obtain⟨cs',h2',hsz⟩:=hm.blk b cs e h2;exact⟨b,cs',e,h1,h2',by omega,hm.ow b z hz h6,zD0 hm t (0::z) b 0 (by simp) ⟨_,h6⟩ h4,zD1 hm t (0::z) (by simp) hk h5⟩
theorem zIu(hm:MovesE G w G' w' s p s' p'):(xs:List T)→ ∀(z:List Nat)(i b o k:Nat),(∃y,G.ow b=some (s,y))→xI (jX G G') xs→RL St G w s xs (z++p) i b o k→RL St G' w' s' xs (z++p') i b o k
 | [],_,_,_,_,_,_,_,_=>by simp only[RL]
 |x::xs,z,i,b,o,k,hob,hk,h=>by
  simp only[RL,xI]at h hk ⊢
  exact⟨⟨zD0 hm x (i::z) b o (by simp) hob h.1.1,h.1.2⟩,zD1 hm x (i::z) (by simp) hk.1 h.2.1,zIu hm xs z (i+1) b _ k hob hk.2 h.2.2⟩
theorem zD2(hm:MovesE G w G' w' s p s' p'):(xs:List T)→ ∀(z:List Nat)(j:Nat),xI (jX G G') xs→RF St G w s xs (z++p) j→RF St G' w' s' xs (z++p') j
 | [],_,_,_,_=>by simp only[RF]
 |x::xs,z,j,hk,h=>by
  simp only[RF,xI]at h hk ⊢
  exact⟨zD1 hm x (j::z) (by simp) hk.1 h.1,zD2 hm xs z (j+1) hk.2 h.2⟩
end
theorem zAh(hm:zHy G w G' w' s p s' p')(t:T)(hk:yP (jX G G') t)(h:R St G w s t p):R St G' w' s' t p':=by
 have hd0:G'.hd s' p'=G.hd s p:=by simpa using hm.hd []
 cases t with
 |any=>simp only[R]
 |lit _=>simp only[R]at h ⊢;rw[hd0];exact h
 |ro _=>simp only[R]at h ⊢;rw[hd0];exact h
 |same r q=>simp only[R]at h ⊢;rw[hd0,hk.1];exact h
 |addr r q=>simp only[R]at h ⊢;rw[hd0,hk.2];exact h
 |sub r q k lo hi=>simp only[R]at h ⊢;rw[hd0,hk.1];exact h
 |agg xs=>simp only[R,yP]at h hk ⊢;simpa using zD2 hm.toMovesE xs [] 0 hk (by simpa using h)
 |tup xs=>simp only[R,yP]at h hk ⊢;simpa using zD2 hm.toMovesE xs [] 0 hk (by simpa using h)
 |sl k xs=>
  simp only[R,yP]at h hk ⊢
  rw[hd0];rcases h with h|⟨b,cap,cs,e,h1,h2,h3,h4,h5,h6,h7,h8⟩
  ·exact .inl h
  ·obtain⟨cs',h2',hsz⟩:=hm.blk b cs e h2
   exact .inr ⟨b,cap,cs',e,h1,h2',h3,h4,by omega,hm.ow0 b h6,fun o ho ho2=>(hm.sp b o ⟨_,h6⟩ (h7 o ho (by omega))).1,by simpa using zIu hm.toMovesE xs [] 0 b 0 k ⟨_,h6⟩ hk (by simpa using h8)⟩
 |ptr t=>
  simp only[R,yP]at h hk ⊢
  rw[hd0];obtain⟨b,cs,e,h1,h2,h3,h6,h4,h5⟩:=h;obtain⟨cs',h2',hsz⟩:=hm.blk b cs e h2;exact⟨b,cs',e,h1,h2',by omega,hm.ow0 b h6,zD0 hm.toMovesE t [0] b 0 (by simp) ⟨_,h6⟩ h4,zD1 hm.toMovesE t [0] (by simp) hk h5⟩
theorem zP0(hm:zHy G w G' w' s p s' p')(t:T)(z:List Nat)(hk:yP (jX G G') t)(h:R St G w s t (z++p)):R St G' w' s' t (z++p'):=by
 cases z with
 |nil=>exact zAh hm t hk h
 |cons i z=>exact zD1 hm.toMovesE t (i::z) (by simp) hk h
end
end Go.Ab

namespace Go.Ab
open Go
def T.get:T→List Nat→Option T
 |t,[]=>some t
 |.sl _ xs,i::f|.agg xs,i::f|.tup xs,i::f=>match xs[i]? with
  |some x=>x.get f
  |none=>none
 |.ptr t,i::f=>if i=0 then t.get f else none
 |.any,_::_|.lit _,_::_|.ro _,_::_|.same _ _,_::_|.addr _ _,_::_|.sub _ _ _ _ _,_::_=>none
termination_by structural _ f=>f
def T.set:T→List Nat→T→T
 |_,[],u=>u
 |.sl k xs,i::f,u=>match xs[i]? with
  |some x=>.sl k (xs.set i (x.set f u))
  |none=>.sl k xs
 |.agg xs,i::f,u=>match xs[i]? with
  |some x=>.agg (xs.set i (x.set f u))
  |none=>.agg xs
 |.tup xs,i::f,u=>match xs[i]? with
  |some x=>.tup (xs.set i (x.set f u))
  |none=>.tup xs
 |.ptr t,i::f,u=>if i=0 then .ptr (t.set f u)else .ptr t
 |.any,_::_,_=>.any
 |.lit v,_::_,_=>.lit v
 |.ro t,_::_,_=>.ro t
 |.same r q,_::_,_=>.same r q
 |.addr r q,_::_,_=>.addr r q
 |.sub r q k lo hi,_::_,_=>.sub r q k lo hi
termination_by structural _ f _=>f
def T.locd:T→List Nat→Bool
 |_,[]=>false
 |.sl _ _,_::_|.ptr _,_::_=>true
 |.agg xs,i::f|.tup xs,i::f=>match xs[i]? with
  |some x=>x.locd f
  |none=>false
 |.any,_::_|.lit _,_::_|.ro _,_::_|.same _ _,_::_|.addr _ _,_::_|.sub _ _ _ _ _,_::_=>false
termination_by structural _ f=>f
abbrev rp(f p:List Nat):List Nat:=f.reverse++p
theorem zAi(i:Nat)(f p:List Nat):rp (i::f) p=rp f (i::p):=by simp[rp]
section
variable {St:Stb}{G:Gh}{w:World}{s:Nat}
theorem qJ:(xs:List T)→ ∀(p:List Nat)(i0 b o k i:Nat)(x:T),RL St G w s xs p i0 b o k→xs[i]? =some x→
  Loc G w s x ((i0+i)::p) b (o+i*k)∧x.size=k∧R St G w s x ((i0+i)::p)
 | [],_,_,_,_,_,_,_,_,h=>by simp at h
 |y::ys,p,i0,b,o,k,i,x,hr,h=>by
  simp only[RL]at hr;cases i with
  |zero=>
   simp at h;subst h;simpa using⟨hr.1.1,hr.1.2,hr.2.1⟩
  |succ i=>
   have:=qJ ys p (i0+1) b (o+k) k i x hr.2.2 (by simpa using h);rw[show i0+(i+1)=i0+1+i from by omega,show o+(i+1)*k=o+k+i*k from by rw[Kf];omega];exact this
theorem zAw:(xs:List T)→ ∀(p:List Nat)(j i:Nat)(x:T),RF St G w s xs p j→xs[i]? =some x→R St G w s x ((j+i)::p)
 | [],_,_,_,_,_,h=>by simp at h
 |y::ys,p,j,i,x,hr,h=>by
  simp only[RF]at hr;cases i with
  |zero=>simp at h;subst h;simpa using hr.1
  |succ i=>
   have:=zAw ys p (j+1) i x hr.2 (by simpa using h)
   rwa [show j+(i+1)=j+1+i from by omega]
theorem zJq:(xs:List T)→ ∀(p:List Nat)(j b o i:Nat)(x:T),wS G w s xs p j b o→xs[i]? =some x→
  ∃o',Loc G w s x ((j+i)::p) b o'∧o≤o'∧o'+x.size≤o+T.sizes xs
 | [],_,_,_,_,_,_,_,h=>by simp at h
 |y::ys,p,j,b,o,i,x,hr,h=>by
  simp only[wS]at hr;cases i with
  |zero=>simp at h;subst h;exact⟨o,by simpa using hr.1,by omega,by simp[T.sizes]⟩
  |succ i=>
   obtain⟨o',h1,h2,h3⟩:=zJq ys p (j+1) b (o+y.size) i x hr.2 (by simpa using h);refine⟨o',?_,by omega,by simp only[T.sizes];omega⟩
   rwa [show j+(i+1)=j+1+i from by omega]
def At(G:Gh)(w:World)(s:Nat)(t:T)(p:List Nat):Prop:=
 ∃b o cs e,Loc G w s t p b o∧w.heap[b]? =some (.cells cs e (0,0))∧o+t.size≤cs.size
theorem At.field{xs:List T}{p:List Nat}(h:At G w s (.agg xs) p){i:Nat}{x:T}(hx:xs[i]? =some x):At G w s x (i::p):=by obtain⟨b,o,cs,e,hl,hh,hs⟩:=h;simp only[Loc]at hl;obtain⟨o',h1,h2,h3⟩:=zJq xs p 0 b o i x hl.2 hx;simp only[T.size]at hs;exact⟨b,o',cs,e,by simpa using h1,hh,by omega⟩
theorem zCo{k:Nat}{xs:List T}{p:List Nat}(h:R St G w s (.sl k xs) p){i:Nat}{x:T}(hx:xs[i]? =some x):
  At G w s x (i::p)∧R St G w s x (i::p):=by
 simp only[R]at h;have hi:=(Ja.1 hx).1;rcases h with⟨rfl,_⟩|⟨b,cap,cs,e,h1,h2,h3,h4,h5,h6,h7,h8⟩
 ·simp at hx
 ·obtain⟨a1,a2,a3⟩:=qJ xs p 0 b 0 k i x h8 hx
  simp only[Jd]at a1 a3;refine⟨⟨b,i*k,cs,e,a1,h2,?_⟩,a3⟩;rw[a2,←Kf];exact Kt (L5 _ (by omega)) h5
theorem zA4{t:T}{p:List Nat}(h:R St G w s (.ptr t) p):At G w s t (0::p)∧R St G w s t (0::p):=by simp only[R]at h;obtain⟨b,cs,e,h1,h2,h3,h6,h4,h5⟩:=h;exact⟨⟨b,0,cs,e,h4,h2,by omega⟩,h5⟩
theorem kO:(f:List Nat)→ ∀(t u:T)(p:List Nat),At G w s t p→R St G w s t p→t.get f=some u→At G w s u (rp f p)∧R St G w s u (rp f p)
 | [],t,u,p,ha,h,hg=>by simp[T.get]at hg;subst hg;simpa[rp]using⟨ha,h⟩
 |i::f,t,u,p,ha,h,hg=>by
  rw[zAi];cases t with
  |sl k xs=>
   simp only[T.get]at hg;cases hx:xs[i]? with
   |none=>simp[hx]at hg
   |some x=>rw[hx]at hg;exact kO f x u _ (zCo h hx).1 (zCo h hx).2 hg
  |ptr t=>
   simp only[T.get]at hg;split at hg
   ·rename_i hi;subst hi;exact kO f t u _ (zA4 h).1 (zA4 h).2 hg
   ·cases hg
  |agg xs=>
   simp only[T.get]at hg;cases hx:xs[i]? with
   |none=>simp[hx]at hg
   |some x=>rw[hx]at hg;exact kO f x u _ (ha.field hx) (by simp only[R]at h;simpa using zAw xs p 0 i x h hx) hg
  |tup xs=>obtain⟨b,o,cs,e,hl,_⟩:=ha;simp only[Loc]at hl
  |_=>simp[T.get]at hg
theorem jC:(f:List Nat)→ ∀(t u:T)(p:List Nat),R St G w s t p→t.get f=some u→R St G w s u (rp f p)∧(t.locd f=true→At G w s u (rp f p))
 | [],t,u,p,h,hg=>by simp[T.get]at hg;subst hg;simpa[rp,T.locd]using h
 |i::f,t,u,p,h,hg=>by
  rw[zAi];cases t with
  |sl k xs=>
   simp only[T.get]at hg;cases hx:xs[i]? with
   |none=>simp[hx]at hg
   |some x=>rw[hx]at hg;exact⟨(kO f x u _ (zCo h hx).1 (zCo h hx).2 hg).2,fun _=>(kO f x u _ (zCo h hx).1 (zCo h hx).2 hg).1⟩
  |ptr t=>
   simp only[T.get]at hg;split at hg
   ·rename_i hi;subst hi;exact⟨(kO f t u _ (zA4 h).1 (zA4 h).2 hg).2,fun _=>(kO f t u _ (zA4 h).1 (zA4 h).2 hg).1⟩
   ·cases hg
  |agg xs=>
   simp only[T.get,T.locd]at hg ⊢
   cases hx:xs[i]? with
   |none=>simp[hx]at hg
   |some x=>rw[hx]at hg;exact jC f x u _ (by simp only[R]at h;simpa using zAw xs p 0 i x h hx) hg
  |tup xs=>
   simp only[T.get,T.locd]at hg ⊢
   cases hx:xs[i]? with
   |none=>simp[hx]at hg
   |some x=>rw[hx]at hg;exact jC f x u _ (by simp only[R]at h;simpa using zAw xs p 0 i x h hx) hg
  |_=>simp[T.get]at hg
end
structure Upd (G:Gh) (w:World) (G':Gh) (w':World) (s:Nat) (tgt:List Nat):Prop where
 hd:∀p,¬tgt<:+p→G'.hd s p=G.hd s p
 ad:∀p,¬tgt<:+p→G'.ad s p=G.ad s p
 lb:∀b o f p,G.lb b o=some (f,s,p)→ ¬tgt<:+p→G'.lb b o=some (f,s,p)∧yG w' b o=yG w b o
 ow:∀b p,G.ow b=some (s,p)→ ¬tgt<:+p→G'.ow b=some (s,p)
 blk:Blk w w'
section
variable {St:Stb}{G:Gh}{w:World}{G':Gh}{w':World}{s:Nat}{tgt:List Nat}
theorem Upd.moves(h:Upd G w G' w' s tgt){p:List Nat}(hp:∀z,¬tgt<:+z++p):zHy G w G' w' s p s p where
 hd z:=h.hd _ (hp z)
 ad z _:=h.ad _ (hp z)
 lb b o f z _ _ hl:=h.lb b o f _ hl (hp z)
 ow b z _ hl:=h.ow b _ hl (hp z)
 sp b o _ hl:=h.lb b o true p hl (hp [])
 ow0 b hl:=h.ow b p hl (hp [])
 blk:=h.blk
mutual
theorem zD3(hm:Upd G w G' w' s tgt):(t:T)→ ∀(p:List Nat)(b o:Nat),(∀z,¬tgt<:+z++p)→Loc G w s t p b o→Loc G' w' s t p b o
 |.agg xs,p,b,o,hz,h=>by
  simp only[Loc]at h ⊢
  exact⟨(hm.ad p (hz [])).trans h.1,zJr hm xs p 0 b o hz h.2⟩
 |.any,p,b,o,hz,h|.lit _,p,b,o,hz,h|.ro _,p,b,o,hz,h|.same _ _,p,b,o,hz,h|.addr _ _,p,b,o,hz,h|.sub _ _ _ _ _,p,b,o,hz,h|.sl _ _,p,b,o,hz,h|.ptr _,p,b,o,hz,h=>by
  simp only[Loc]at h ⊢
  obtain⟨h1,h2,h3⟩:=h;have hl:=hm.lb b o false p h2 (hz []);exact⟨(hm.ad p (hz [])).trans h1,hl.1,by rw[hl.2,h3,hm.hd p (hz [])]⟩
 |.tup _,_,_,_,_,h=>by simp only[Loc]at h
theorem zJr(hm:Upd G w G' w' s tgt):(xs:List T)→ ∀(p:List Nat)(j b o:Nat),(∀z,¬tgt<:+z++p)→wS G w s xs p j b o→wS G' w' s xs p j b o
 | [],_,_,_,_,_,_=>by simp only[wS]
 |x::xs,p,j,b,o,hz,h=>by
  simp only[wS]at h ⊢
  exact⟨zD3 hm x (j::p) b o (fun z=>by have:=hz (z++[j]);simpa using this) h.1,zJr hm xs p (j+1) b _ hz h.2⟩
end
theorem zJs(hm:Upd G w G' w' s tgt)(t u:T)(p:List Nat)(b o:Nat)(ht:∀xs,t≠.agg xs)(hu:∀xs,u≠.agg xs)(hu':∀xs,u≠.tup xs)(hz:¬tgt<:+p)(h:Loc G w s t p b o):Loc G' w' s u p b o:=by
 have h3:G.ad s p=⟨b,o,none⟩∧G.lb b o=some (false,s,p)∧yG w b o=some (G.hd s p):=by
  cases t with
  |agg xs=>exact absurd rfl (ht xs)
  |tup xs=>simp only[Loc]at h
  |_=>simpa only[Loc]using h
 obtain⟨h1,h2,h3⟩:=h3;have hl:=hm.lb b o false p h2 hz;have h4:G'.ad s p=⟨b,o,none⟩∧G'.lb b o=some (false,s,p)∧yG w' b o=some (G'.hd s p):=⟨(hm.ad p hz).trans h1,hl.1,by rw[hl.2,h3,hm.hd p hz]⟩;cases u with
 |agg xs=>exact absurd rfl (hu xs)
 |tup xs=>exact absurd rfl (hu' xs)
 |_=>simpa only[Loc]using h4
theorem qK{f p:List Nat}{i i':Nat}(hi:i'≠i)(z:List Nat):¬f.reverse++(i::p)<:+z++(i'::p):=by
 rintro⟨y,hy⟩
 rw[←Jc]at hy;have:=List.append_inj_right' hy rfl;simp at this;exact hi this.symm
theorem qT{f p:List Nat}{i:Nat}:¬f.reverse++(i::p)<:+p:=by intro h;have:=h.length_le;simp at this;omega
theorem zH0:(xs:List T)→ ∀(i:Nat)(x y:T),xs[i]? =some x→y.size=x.size→T.sizes (xs.set i y)=T.sizes xs
 | [],_,_,_,h,_=>by simp at h
 |z::zs,i,x,y,h,hs=>by
  cases i with
  |zero=>simp at h;subst h;simp[T.sizes,hs]
  |succ i=>simp only[Lo,T.sizes,zH0 zs i x y (by simpa using h) hs]
theorem zD4:(f:List Nat)→ ∀(t u u0:T),t.get f=some u0→u.size=u0.size→(t.set f u).size=t.size
 | [],t,u,u0,h,hs=>by simp[T.get]at h;subst h;simpa[T.set]using hs
 |i::f,t,u,u0,h,hs=>by
  cases t with
  |sl k xs=>simp only[T.get]at h;cases hx:xs[i]? <;>simp[hx,T.set,T.size]at h ⊢
  |tup xs=>simp only[T.get]at h;cases hx:xs[i]? <;>simp[hx,T.set,T.size]at h ⊢
  |agg xs=>
   simp only[T.get]at h;cases hx:xs[i]? with
   |none=>simp[hx]at h
   |some x=>
    rw[hx]at h;simp only[T.set,hx,T.size];exact zH0 xs i x _ hx (zD4 f x u u0 h hs)
  |ptr t=>simp only[T.get]at h;split at h<;>simp_all [T.set,T.size]
  |_=>simp[T.get]at h
theorem zJt(hm:Upd G w G' w' s tgt):(xs:List T)→ ∀(p:List Nat)(j b o i:Nat)(x y:T),wS G w s xs p j b o→xs[i]? =some x→y.size=x.size→
  (∀i',i'≠j+i→ ∀z,¬tgt<:+z++(i'::p))→(∀o',Loc G w s x ((j+i)::p) b o'→Loc G' w' s y ((j+i)::p) b o')→wS G' w' s (xs.set i y) p j b o
 | [],_,_,_,_,_,_,_,_,h,_,_,_=>by simp at h
 |z::zs,p,j,b,o,i,x,y,hl,h,hs,hz,hy=>by
  simp only[wS]at hl;cases i with
  |zero=>
   simp at h;subst h;simp only[Kq,wS,hs];exact⟨by simpa using hy o (by simpa using hl.1),LocF_upd' hm zs p (j+1) b _ (fun i' hi'=>hz i' (by omega)) hl.2⟩
  |succ i=>
   simp only[Lo,wS];refine⟨zD3 hm z _ b o (hz j (by omega)) hl.1,zJt hm zs p (j+1) b _ i x y hl.2 (by simpa using h) hs (fun i' hi'=>hz i' (by omega)) ?_⟩;rw[show j+1+i=j+(i+1)from by omega];exact hy
where LocF_upd' (hm:Upd G w G' w' s tgt):(xs:List T)→ ∀(p:List Nat)(j b o:Nat),(∀i',j≤i'→ ∀z,¬tgt<:+z++(i'::p))→wS G w s xs p j b o→wS G' w' s xs p j b o
 | [],_,_,_,_,_,_=>by simp only[wS]
 |x::xs,p,j,b,o,hz,h=>by
  simp only[wS]at h ⊢
  exact⟨zD3 hm x (j::p) b o (hz j (Ji _)) h.1,LocF_upd' hm xs p (j+1) b _ (fun i' hi'=>hz i' (by omega)) h.2⟩
theorem zIv:(f:List Nat)→ ∀(t u u0:T)(p:List Nat)(b o:Nat),Upd G w G' w' s (rp f p)→Loc G w s t p b o→t.get f=some u0→u.size=u0.size→
  (∀o',Loc G w s u0 (rp f p) b o'→Loc G' w' s u (rp f p) b o')→Loc G' w' s (t.set f u) p b o
 | [],t,u,u0,p,b,o,hm,hl,hg,hs,hu=>by simp[T.get]at hg;subst hg;simpa[T.set,rp]using hu o (by simpa[rp]using hl)
 |i::f,t,u,u0,p,b,o,hm,hl,hg,hs,hu=>by
  have hm':=hm;rw[zAi]at hm';cases t with
  |sl k xs=>
   have:∃ys,(T.sl k xs).set (i::f) u=.sl k ys:=by simp only[T.set];split<;>exact⟨_,rfl⟩
   obtain⟨ys,hy⟩:=this;rw[hy];exact zJs hm' (.sl k xs) (.sl k ys) p b o (by simp) (by simp) (by simp) qT hl
  |ptr t=>
   have:∃ys,(T.ptr t).set (i::f) u=.ptr ys:=by simp only[T.set];split<;>exact⟨_,rfl⟩
   obtain⟨ys,hy⟩:=this;rw[hy];exact zJs hm' (.ptr t) (.ptr ys) p b o (by simp) (by simp) (by simp) qT hl
  |agg xs=>
   simp only[T.get]at hg;cases hx:xs[i]? with
   |none=>simp[hx]at hg
   |some x=>
    rw[hx]at hg;simp only[T.set,hx];simp only[Loc]at hl ⊢
    refine⟨(hm'.ad p qT).trans hl.1,zJt hm' xs p 0 b o i x _ hl.2 hx (zD4 f x u u0 hg hs) (fun i' hi' z=>qK (by omega) z) ?_⟩;intro o' ho';simp only[Jd]at ho' ⊢
    exact zIv f x u u0 (i::p) b o' hm' ho' hg hs (by simpa only[zAi]using hu)
  |tup xs=>simp only[Loc]at hl
  |_=>simp[T.get]at hg
end
end Go.Ab

namespace Go.Ab
open Go
section
variable {St:Stb}{G:Gh}{w:World}{G':Gh}{w':World}{s:Nat}{tgt:List Nat}
theorem zMM(hm:Upd G w G' w' s tgt)(t:T)(p:List Nat)(hz:∀z,¬tgt<:+z++p)(hk:yP (jX G G') t)(h:R St G w s t p):R St G' w' s t p:=by simpa using zP0 (hm.moves hz) t [] hk (by simpa using h)
theorem zP1(hm:Upd G w G' w' s tgt):(xs:List T)→ ∀(p:List Nat)(i b o k:Nat),(∀i',i≤i'→ ∀z,¬tgt<:+z++(i'::p))→xI (jX G G') xs→RL St G w s xs p i b o k→RL St G' w' s xs p i b o k
 | [],_,_,_,_,_,_,_,_=>by simp only[RL]
 |x::xs,p,i,b,o,k,hz,hk,h=>by
  simp only[RL,xI]at h hk ⊢
  exact⟨⟨zD3 hm x (i::p) b o (hz i (Ji _)) h.1.1,h.1.2⟩,zMM hm x (i::p) (hz i (Ji _)) hk.1 h.2.1,
   zP1 hm xs p (i+1) b _ k (fun i' hi'=>hz i' (by omega)) hk.2 h.2.2⟩
theorem zP2(hm:Upd G w G' w' s tgt):(xs:List T)→ ∀(p:List Nat)(i0 b o k i:Nat)(x y:T),RL St G w s xs p i0 b o k→xs[i]? =some x→y.size=x.size→xI (jX G G') xs→
  (∀i',i'≠i0+i→ ∀z,¬tgt<:+z++(i'::p))→(∀o',Loc G w s x ((i0+i)::p) b o'→Loc G' w' s y ((i0+i)::p) b o')→R St G' w' s y ((i0+i)::p)→
  RL St G' w' s (xs.set i y) p i0 b o k
 | [],_,_,_,_,_,_,_,_,_,h,_,_,_,_,_=>by simp at h
 |z::zs,p,i0,b,o,k,i,x,y,hr,h,hs,hk,hz,hl,hy=>by
  simp only[RL,xI]at hr hk;cases i with
  |zero=>
   simp at h;subst h;simp only[Kq,RL];exact⟨⟨by simpa using hl o (by simpa using hr.1.1),by omega⟩,by simpa using hy,zP1 hm zs p (i0+1) b _ k (fun i' hi'=>hz i' (by omega)) hk.2 hr.2.2⟩
  |succ i=>
   simp only[Lo,RL];rw[show i0+(i+1)=i0+1+i from by omega]at hl hy hz;exact⟨⟨zD3 hm z _ b o (hz i0 (by omega)) hr.1.1,hr.1.2⟩,zMM hm z _ (hz i0 (by omega)) hk.1 hr.2.1,zP2 hm zs p (i0+1) b _ k i x y hr.2.2 (by simpa using h) hs hk.2 hz hl hy⟩
theorem zP3(hm:Upd G w G' w' s tgt):(xs:List T)→ ∀(p:List Nat)(i:Nat),(∀i',i≤i'→ ∀z,¬tgt<:+z++(i'::p))→xI (jX G G') xs→RF St G w s xs p i→RF St G' w' s xs p i
 | [],_,_,_,_,_=>by simp only[RF]
 |x::xs,p,i,hz,hk,h=>by
  simp only[RF,xI]at h hk ⊢
  exact⟨zMM hm x (i::p) (hz i (Ji _)) hk.1 h.1,zP3 hm xs p (i+1) (fun i' hi'=>hz i' (by omega)) hk.2 h.2⟩
theorem zLu(hm:Upd G w G' w' s tgt):(xs:List T)→ ∀(p:List Nat)(i0 i:Nat)(x y:T),RF St G w s xs p i0→xs[i]? =some x→xI (jX G G') xs→
  (∀i',i'≠i0+i→ ∀z,¬tgt<:+z++(i'::p))→R St G' w' s y ((i0+i)::p)→
  RF St G' w' s (xs.set i y) p i0
 | [],_,_,_,_,_,_,h,_,_,_=>by simp at h
 |z::zs,p,i0,i,x,y,hr,h,hk,hz,hy=>by
  simp only[RF,xI]at hr hk;cases i with
  |zero=>
   simp at h;subst h;simp only[Kq,RF];exact⟨by simpa using hy,zP3 hm zs p (i0+1) (fun i' hi'=>hz i' (by omega)) hk.2 hr.2⟩
  |succ i=>
   simp only[Lo,RF];rw[show i0+(i+1)=i0+1+i from by omega]at hy hz;exact⟨zMM hm z _ (hz i0 (by omega)) hk.1 hr.1,zLu hm zs p (i0+1) i x y hr.2 (by simpa using h) hk.2 hz hy⟩
theorem vS{φ:Nat→List Nat→Prop}:(xs:List T)→xI φ xs→ ∀(i:Nat)(x:T),xs[i]? =some x→yP φ x
 | [],_,_,_,h=>by simp at h
 |y::ys,hk,i,x,h=>by
  simp only[xI]at hk;cases i with
  |zero=>simp at h;subst h;exact hk.1
  |succ i=>exact vS ys hk.2 i x (by simpa using h)
theorem zES:(f:List Nat)→ ∀(t u u0:T)(p:List Nat),Upd G w G' w' s (rp f p)→R St G w s t p→t.get f=some u0→u.size=u0.size→yP (jX G G') t→
  (∀b o,Loc G w s u0 (rp f p) b o→Loc G' w' s u (rp f p) b o)→R St G' w' s u (rp f p)→R St G' w' s (t.set f u) p
 | [],t,u,u0,p,hm,hr,hg,hs,hk,hl,hu=>by simpa[T.set,rp]using hu
 |i::f,t,u,u0,p,hm,hr,hg,hs,hk,hl,hu=>by
  have hm':=hm;rw[zAi]at hm' hl hu;cases t with
  |sl k xs=>
   simp only[T.get]at hg;cases hx:xs[i]? with
   |none=>simp[hx]at hg
   |some x=>
    rw[hx]at hg;simp only[T.set,hx];simp only[R,yP]at hr hk ⊢
    rcases hr with⟨rfl,_⟩|⟨b,cap,cs,e,h1,h2,h3,h4,h5,h6,h7,h8⟩
    ·simp at hx
    ·obtain⟨cs',h2',hsz⟩:=hm'.blk b cs e h2
     refine .inr ⟨b,cap,cs',e,by rw[hm'.hd p qT,Q8];exact h1,h2',by rw[Q8];exact h3,h4,by omega,hm'.ow b p h6 qT,?_,?_⟩
     ·intro o ho ho2
      rw[Q8]at ho;exact(hm'.lb b o true p (h7 o ho (by omega)) qT).1
     ·have hx1:=qJ xs p 0 b 0 k i x h8 hx
      simp only[Jd]at hx1;refine zP2 hm' xs p 0 b 0 k i x _ h8 hx (zD4 f x u u0 hg hs) hk (fun i' hi' z=>qK (by omega) z) ?_ ?_
      ·intro o' ho'
       simp only[Jd]at ho' ⊢
       exact zIv f x u u0 (i::p) b o' hm' ho' hg hs (fun o''=>hl b o'')
      ·simp only[Jd]
       exact zES f x u u0 (i::p) hm' hx1.2.2 hg hs (vS xs hk i x hx) hl hu
  |ptr t=>
   simp only[T.get]at hg;split at hg
   ·rename_i hi;subst hi
    simp only[T.set,if_true];simp only[R,yP]at hr hk ⊢
    obtain⟨b,cs,e,h1,h2,h3,h6,h4,h5⟩:=hr;obtain⟨cs',h2',hsz⟩:=hm'.blk b cs e h2;refine⟨b,cs',e,by rw[hm'.hd p qT];exact h1,h2',by rw[zD4 f t u u0 hg hs];omega,hm'.ow b p h6 qT,zIv f t u u0 (0::p) b 0 hm' h4 hg hs (fun o''=>hl b o''),zES f t u u0 (0::p) hm' h5 hg hs hk hl hu⟩
   ·cases hg
  |agg xs=>
   simp only[T.get]at hg;cases hx:xs[i]? with
   |none=>simp[hx]at hg
   |some x=>
    rw[hx]at hg;simp only[T.set,hx];simp only[R,yP]at hr hk ⊢
    refine zLu hm' xs p 0 i x _ hr hx hk (fun i' hi' z=>qK (by omega) z) ?_;simp only[Jd];exact zES f x u u0 (i::p) hm' (by simpa using zAw xs p 0 i x hr hx) hg hs (vS xs hk i x hx) hl hu
  |tup xs=>
   simp only[T.get]at hg;cases hx:xs[i]? with
   |none=>simp[hx]at hg
   |some x=>
    rw[hx]at hg;simp only[T.set,hx];simp only[R,yP]at hr hk ⊢
    refine zLu hm' xs p 0 i x _ hr hx hk (fun i' hi' z=>qK (by omega) z) ?_;simp only[Jd];exact zES f x u u0 (i::p) hm' (by simpa using zAw xs p 0 i x hr hx) hg hs (vS xs hk i x hx) hl hu
  |_=>simp[T.get]at hg
end
end Go.Ab

namespace Go.Ab
open Go
mutual
def vals(G:Gh)(s:Nat):T→List Nat→List Value
 |.agg xs,p=>zY G s xs p 0
 |.any,p|.lit _,p|.ro _,p|.same _ _,p|.addr _ _,p|.sub _ _ _ _ _,p|.sl _ _,p|.ptr _,p|.tup _,p=>[G.hd s p]
def zY(G:Gh)(s:Nat):List T→List Nat→Nat→List Value
 | [],_,_=>[]
 |x::xs,p,j=>vals G s x (j::p)++zY G s xs p (j+1)
end
def uY(G:Gh)(s:Nat)(t:T)(p:List Nat):Value:=
 match t with
 |.agg xs=>.agg (zY G s xs p 0).toArray
 |_=>G.hd s p
def sW(G:Gh)(s:Nat):List T→List Nat→Nat→List Value
 | [],_,_=>[]
 |x::xs,p,j=>uY G s x (j::p)::sW G s xs p (j+1)
def mkV(G:Gh)(s:Nat)(t:T)(p:List Nat):Value:=
 match t with
 |.agg xs=>.agg (zY G s xs p 0).toArray
 |.tup xs=>.tuple (sW G s xs p 0).toArray
 |_=>G.hd s p
mutual
def Top:T→Prop
 |.sl _ xs=>xE xs
 |.ptr t=>zV t
 |.agg xs|.tup xs=>vQ xs
 |.any|.lit _|.ro _|.same _ _|.addr _ _|.sub _ _ _ _ _=>True
def vQ:List T→Prop
 | []=>True
 |x::xs=>Top x∧vQ xs
end
mutual
theorem Top.of_clean:(t:T)→zV t→Top t
 |.sl _ xs,h=>by simpa only[Top,zV,yP]using h
 |.ptr t,h=>by simpa only[Top,zV,yP]using h
 |.agg xs,h|.tup xs,h=>by simp only[Top];exact vQ.of_clean xs (by simpa only[zV,yP]using h)
 |.any,_|.lit _,_|.ro _,_|.same _ _,_|.addr _ _,_|.sub _ _ _ _ _,_=>by simp only[Top]
theorem vQ.of_clean:(xs:List T)→xE xs→vQ xs
 | [],_=>by simp only[vQ]
 |x::xs,h=>by simp only[vQ];exact⟨Top.of_clean x h.1,vQ.of_clean xs h.2⟩
end
abbrev Chg:=List (Nat×Nat)
def Off(chg:Chg)(s:Nat)(p:List Nat):Prop:=∀n,(s,n)∈chg→p.length<n
def zAj(chg:Chg)(r:Nat)(p:List Nat):Bool:=chg.all fun c=>c.1 != r||decide (p.length<c.2)
theorem zOj{chg:Chg}{r:Nat}{p:List Nat}(h:zAj chg r p=true):Off chg r p:=by intro n hn;have:=Ka.1 h _ hn;simpa using this
mutual
def T.okB(chg:Chg):T→Bool
 |.same r p|.addr r p|.sub r p _ _ _=>zAj chg r p
 |.agg xs|.tup xs=>zIw chg xs
 |.any|.lit _|.ro _|.sl _ _|.ptr _=>true
def zIw(chg:Chg):List T→Bool
 | []=>true
 |x::xs=>x.okB chg&&zIw chg xs
end
mutual
theorem jZ{chg:Chg}:(t:T)→Top t→t.okB chg=true→yP (Off chg) t
 |.same r p,_,h|.addr r p,_,h|.sub r p _ _ _,_,h=>by simp only[T.okB]at h;simp only[yP];exact zOj h
 |.agg xs,ht,h|.tup xs,ht,h=>by simp only[T.okB,Top]at h ht;simp only[yP];exact zFF xs ht h
 |.sl _ xs,ht,_=>by simp only[Top]at ht;simp only[yP];exact xI.mono (fun _ _=>False.elim) xs ht
 |.ptr t,ht,_=>by simp only[Top]at ht;simp only[yP];exact yP.mono (fun _ _=>False.elim) t ht
 |.any,_,_|.lit _,_,_|.ro _,_,_=>by simp only[yP]
theorem zFF{chg:Chg}:(xs:List T)→vQ xs→zIw chg xs=true→xI (Off chg) xs
 | [],_,_=>by simp only[xI]
 |x::xs,ht,h=>by simp only[zIw,vQ,J4]at h ht;simp only[xI];exact⟨jZ x ht.1 h.1,zFF xs ht.2 h.2⟩
end
abbrev Env:=Nat→Option T
abbrev Wr:=List (Nat×Option T)
def Wr.find(wr:Wr)(s:Nat):Option (Option T):=
 match wr with
 | []=>none
 |(k,x)::r=>if k=s then some x else Wr.find r s
def Env.app(E:Env)(wr:Wr)(chg:Chg):Env:=fun s=>
 match wr.find s with
 |some x=>x
 |none=>match E s with
  |some t=>if t.okB chg then some t else none
  |none=>none
structure Ctx where
 St:Stb
 W:Nat→Prop
 w0:World
 N:Nat
def zBA(Γ:Ctx)(w:World)(b:Nat):Prop:=b<w.heap.size∧(Γ.w0.heap.size≤b∨Γ.W b)∧Γ.St b=none
structure zTg (w w':World):Prop where
 blk:Blk w w'
 os:w'.os=w.os
 out:w'.output=w.output
structure Mem (Γ:Ctx) (G:Gh) (w:World):Prop where
 one:∀s p,(G.hd s p).oneCell'=true
 lb:∀b o l,G.lb b o=some l→zBA Γ w b
 ow:∀b l,G.ow b=some l→zBA Γ w b
 st:∀b x,Γ.St b=some x→w.heap[b]? =some x
 fr:∀b,b<Γ.w0.heap.size→ ¬Γ.W b→w.heap[b]? =Γ.w0.heap[b]?
 sz:Γ.w0.heap.size≤w.heap.size
 bk:zTg Γ.w0 w
theorem Blk.trans{w w' w'':World}(h:Blk w w')(h':Blk w' w''):Blk w w'':=fun b cs e hb=>by obtain⟨cs',h1,h2⟩:=h b cs e hb;obtain⟨cs'',h3,h4⟩:=h' b cs' e h1;exact⟨cs'',h3,by omega⟩
theorem zTg.trans{w w' w'':World}(h:zTg w w')(h':Blk w' w'')(ho:w''.os=w'.os)(hq:w''.output=w'.output):zTg w w'':=⟨h.blk.trans h',ho.trans h.os,hq.trans h.out⟩
def Ent(Γ:Ctx)(G:Gh)(w:World)(v:Option Value)(s:Nat)(t:T):Prop:=v=some (mkV G s t [])∧R Γ.St G w s t []∧Top t
structure Rep (Γ:Ctx) (E:Env) (G:Gh) (tmps:Array Value) (w:World):Prop where
 size:tmps.size=Γ.N
 ent:∀s t,E s=some t→Ent Γ G w tmps[s]? s t
 mem:Mem Γ G w
def Sim(Γ:Ctx)(E:Env)(a:Act)(w:World):Prop:=a.defers=[]∧ ∃G,Rep Γ E G a.tmps w
structure zCU (S S':Stb) (W:Nat→Prop) (n:Nat):Prop where
 le:∀b x,S b=some x→S' b=some x
 nw:∀b,S b=none→S' b≠none→n≤b∨W b
theorem zCU.refl{S:Stb}{W:Nat→Prop}{n:Nat}:zCU S S W n:=⟨fun _ _ h=>h,fun _ h h'=>absurd h h'⟩
theorem zCU.trans{S S' S'':Stb}{W:Nat→Prop}{n:Nat}(h:zCU S S' W n)(h':zCU S' S'' W n):zCU S S'' W n:=
 ⟨fun b x hb=>h'.le b x (h.le b x hb),fun b hb hb'=>by
  cases hs:S' b with
  |none=>exact h'.nw b hs hb'
  |some x=>exact h.nw b hb (by rw[hs];simp)⟩
abbrev Ctx.at(Γ:Ctx)(S:Stb):Ctx:={ Γ with St:=S }
def qL(Γ:Ctx)(E:Env)(a:Act)(w:World):Prop:=∃S,zCU Γ.St S Γ.W Γ.w0.heap.size∧Sim (Γ.at S) E a w
theorem qL.of{Γ:Ctx}{E:Env}{a:Act}{w:World}(h:Sim Γ E a w):qL Γ E a w:=⟨Γ.St,.refl,h⟩
theorem qL.up{Γ:Ctx}{E:Env}{a:Act}{w:World}{S:Stb}(hS:zCU Γ.St S Γ.W Γ.w0.heap.size)(h:qL (Γ.at S) E a w):qL Γ E a w:=by obtain⟨S',h1,h2⟩:=h;exact⟨S',hS.trans h1,h2⟩
structure sX (chg:Chg) (G:Gh) (w:World) (G':Gh) (w':World):Prop where
 hd:∀s p,Off chg s p→G'.hd s p=G.hd s p
 ad:∀s p,Off chg s p→G'.ad s p=G.ad s p
 lb:∀b o f s p,(∃y,G.ow b=some (s,y))→G.lb b o=some (f,s,p)→(∀n,(s,n)∉chg)→G'.lb b o=some (f,s,p)∧yG w' b o=yG w b o
 ow:∀b s p,G.ow b=some (s,p)→(∀n,(s,n)∉chg)→G'.ow b=some (s,p)
 blk:Blk w w'
theorem Off.of_not{chg:Chg}{s:Nat}(h:∀n,(s,n)∉chg)(p:List Nat):Off chg s p:=fun n hn=>absurd hn (h n)
section
variable {Γ:Ctx}{G G':Gh}{w w':World}{s:Nat}{chg:Chg}
mutual
theorem zAk{s':Nat}:(t:T)→ ∀(p p':List Nat),(∀z,G'.hd s' (z++p')=G.hd s (z++p))→vals G' s' t p'=vals G s t p
 |.agg xs,p,p',h=>by simp only[vals];exact zD5 xs p p' 0 h
 |.any,p,p',h|.lit _,p,p',h|.ro _,p,p',h|.same _ _,p,p',h|.addr _ _,p,p',h|.sub _ _ _ _ _,p,p',h|.sl _ _,p,p',h|.ptr _,p,p',h|.tup _,p,p',h=>by simp only[vals];rw[show G'.hd s' p'=G.hd s p from by simpa using h []]
theorem zD5{s':Nat}:(xs:List T)→ ∀(p p':List Nat)(j:Nat),(∀z,G'.hd s' (z++p')=G.hd s (z++p))→zY G' s' xs p' j=zY G s xs p j
 | [],_,_,_,_=>by simp only[zY]
 |x::xs,p,p',j,h=>by simp only[zY];rw[zAk x (j::p) (j::p') (fun z=>by have:=h (z++[j]);simpa using this),zD5 xs p p' (j+1) h]
end
theorem zBa{s':Nat}(t:T)(p p':List Nat)(h:∀z,G'.hd s' (z++p')=G.hd s (z++p)):uY G' s' t p'=uY G s t p:=by
 unfold uY;split
 ·rw[zD5 _ p p' 0 h]
 ·simpa using h []
theorem zMN{s':Nat}:(xs:List T)→ ∀(p p':List Nat)(j:Nat),(∀z,G'.hd s' (z++p')=G.hd s (z++p))→sW G' s' xs p' j=sW G s xs p j
 | [],_,_,_,_=>by simp only[sW]
 |x::xs,p,p',j,h=>by simp only[sW];rw[zBa x (j::p) (j::p') (fun z=>by have:=h (z++[j]);simpa using this),zMN xs p p' (j+1) h]
theorem zFG{s':Nat}(t:T)(p p':List Nat)(h:∀z,G'.hd s' (z++p')=G.hd s (z++p)):mkV G' s' t p'=mkV G s t p:=by
 unfold mkV;split
 ·rw[zD5 _ p p' 0 h]
 ·rw[zMN _ p p' 0 h]
 ·simpa using h []
theorem sX.moves(hk:sX chg G w G' w')(hs:∀n,(s,n)∉chg)(p:List Nat):zHy G w G' w' s p s p where
 hd _:=hk.hd _ _ (.of_not hs _)
 ad _ _:=hk.ad _ _ (.of_not hs _)
 lb b o f _ _ hob hl:=hk.lb b o f s _ hob hl hs
 ow b _ _ hl:=hk.ow b s _ hl hs
 sp b o hob hl:=hk.lb b o true s _ hob hl hs
 ow0 b hl:=hk.ow b s _ hl hs
 blk:=hk.blk
theorem sX.keepR(hk:sX chg G w G' w'){t:T}(h:yP (Off chg) t):yP (jX G G') t:=
 yP.mono (fun r p hr=>⟨hk.hd r p hr,hk.ad r p hr⟩) t h
theorem Ent.keep(hk:sX chg G w G' w')(hs:∀n,(s,n)∉chg){v:Option Value}{t:T}(ht:t.okB chg=true)(h:Ent Γ G w v s t):Ent Γ G' w' v s t:=by
 obtain⟨h1,h2,h3⟩:=h;refine⟨?_,?_,h3⟩
 ·rw[h1,zFG t [] [] (fun z=>hk.hd _ _ (.of_not hs _))]
 ·simpa using zP0 (hk.moves hs []) t [] (hk.keepR (jZ t h3 ht)) (by simpa using h2)
end
theorem wV{Γ:Ctx}{E:Env}{G G':Gh}{tmps tmps':Array Value}{w w':World}{wr:Wr}{chg:Chg}(h:Rep Γ E G tmps w)
  (hsize:tmps'.size=tmps.size)(hk:sX chg G w G' w')(hmem:Mem Γ G' w')
  (hold:∀s,wr.find s=none→(∀n,(s,n)∉chg)∧tmps'[s]? =tmps[s]?)
  (hnew:∀s t,wr.find s=some (some t)→Ent Γ G' w' tmps'[s]? s t):Rep Γ (E.app wr chg) G' tmps' w' where
 size:=by rw[hsize,h.size]
 mem:=hmem
 ent s t hs:=by
  unfold Env.app at hs;cases hf:wr.find s with
  |some x=>
   rw[hf]at hs;simp at hs;subst hs;exact hnew s t hf
  |none=>
   rw[hf]at hs;simp at hs;cases he:E s with
   |none=>simp[he]at hs
   |some u=>
    simp[he]at hs;obtain⟨hok,rfl⟩:=hs;rw[(hold s hf).2];exact Ent.keep hk (hold s hf).1 hok (h.ent s u he)
end Go.Ab

namespace Go.Ab
open Go
mutual
def cpT(s:Nat):T→List Nat→T
 |.lit v,_=>.lit v
 |.ro t,_=>.ro t
 |.same r q,_=>.same r q
 |.addr r q,_=>.addr r q
 |.sub r q k lo hi,_=>.sub r q k lo hi
 |.agg xs,p=>.agg (cpF s xs p 0)
 |.any,p|.sl _ _,p|.ptr _,p|.tup _,p=>.same s p
def cpF(s:Nat):List T→List Nat→Nat→List T
 | [],_,_=>[]
 |x::xs,p,j=>cpT s x (j::p)::cpF s xs p (j+1)
end
mutual
theorem sH(s:Nat):(t:T)→ ∀p,Top (cpT s t p)
 |.agg xs,p=>by simp only[cpT,Top];exact zMO s xs p 0
 |.lit _,_|.ro _,_|.same _ _,_|.addr _ _,_|.sub _ _ _ _ _,_|.any,_|.sl _ _,_|.ptr _,_|.tup _,_=>by simp only[cpT,Top]
theorem zMO(s:Nat):(xs:List T)→ ∀p j,vQ (cpF s xs p j)
 | [],_,_=>by simp only[cpF,vQ]
 |x::xs,p,j=>by simp only[cpF,vQ];exact⟨sH s x _,zMO s xs p _⟩
end
section
variable {St:Stb}{G G':Gh}{w w':World}{s d:Nat}
mutual
theorem zCV(hs:∀p,G'.hd s p=G.hd s p):(t:T)→ ∀(p p':List Nat),(∀z,G'.hd d (z++p')=G.hd s (z++p))→(∀xs,t≠.tup xs)→yP (jX G G') (cpT s t p)→R St G w s t p→R St G' w' d (cpT s t p) p'
 |.lit _,p,p',hd,_,_,h=>by simp only[cpT,R]at h ⊢;rw[show G'.hd d p'=_ from by simpa using hd []];exact h
 |.ro _,p,p',hd,_,_,h=>by simp only[cpT,R]at h ⊢;rw[show G'.hd d p'=_ from by simpa using hd []];exact h
 |.same r q,p,p',hd,_,hk,h=>by simp only[cpT,R,yP]at h hk ⊢;rw[show G'.hd d p'=_ from by simpa using hd [],hk.1];exact h
 |.addr r q,p,p',hd,_,hk,h=>by simp only[cpT,R,yP]at h hk ⊢;rw[show G'.hd d p'=_ from by simpa using hd [],hk.2];exact h
 |.sub r q k lo hi,p,p',hd,_,hk,h=>by simp only[cpT,R,yP]at h hk ⊢;rw[show G'.hd d p'=_ from by simpa using hd [],hk.1];exact h
 |.any,p,p',hd,_,_,_|.sl _ _,p,p',hd,_,_,_|.ptr _,p,p',hd,_,_,_=>by simp only[cpT,R];rw[show G'.hd d p'=_ from by simpa using hd [],hs]
 |.tup xs,_,_,_,h,_,_=>absurd rfl (h xs)
 |.agg xs,p,p',hd,_,hk,h=>by simp only[cpT,R,yP]at h hk ⊢;exact zIx hs xs p p' 0 hd hk h
theorem zIx(hs:∀p,G'.hd s p=G.hd s p):(xs:List T)→ ∀(p p':List Nat)(j:Nat),(∀z,G'.hd d (z++p')=G.hd s (z++p))→xI (jX G G') (cpF s xs p j)→RF St G w s xs p j→RF St G' w' d (cpF s xs p j) p' j
 | [],_,_,_,_,_,_=>by simp only[cpF,RF]
 |x::xs,p,p',j,hd,hk,h=>by
  simp only[cpF,RF,xI]at h hk ⊢
  refine⟨?_,zIx hs xs p p' (j+1) hd hk.2 h.2⟩
  by_cases hx:∃ys,x=.tup ys
  ·obtain⟨ys,rfl⟩:=hx
   simp only[cpT,R];rw[show G'.hd d (j::p')=_ from by simpa using hd [j],hs]
  ·exact zCV hs x (j::p) (j::p') (fun z=>by have:=hd (z++[j]);simpa using this) (fun ys e=>hx ⟨ys,e⟩) hk.1 h.1
end
mutual
theorem zOl:(t:T)→ ∀(p p':List Nat),(∀z,G'.hd d (z++p')=G.hd s (z++p))→vals G' d (cpT s t p) p'=vals G s t p
 |.agg xs,p,p',h=>by simp only[cpT,vals];exact zCW xs p p' 0 h
 |.any,p,p',h|.lit _,p,p',h|.ro _,p,p',h|.same _ _,p,p',h|.addr _ _,p,p',h|.sub _ _ _ _ _,p,p',h|.sl _ _,p,p',h|.ptr _,p,p',h|.tup _,p,p',h=>by simp only[cpT,vals];rw[show G'.hd d p'=G.hd s p from by simpa using h []]
theorem zCW:(xs:List T)→ ∀(p p':List Nat)(j:Nat),(∀z,G'.hd d (z++p')=G.hd s (z++p))→zY G' d (cpF s xs p j) p' j=zY G s xs p j
 | [],_,_,_,_=>by simp only[cpF,zY]
 |x::xs,p,p',j,h=>by simp only[cpF,zY];rw[zOl x (j::p) (j::p') (fun z=>by have:=h (z++[j]);simpa using this),zCW xs p p' (j+1) h]
end
theorem kP(t:T)(p p':List Nat)(ht:∀xs,t≠.tup xs)(h:∀z,G'.hd d (z++p')=G.hd s (z++p)):mkV G' d (cpT s t p) p'=uY G s t p:=by
 cases t with
 |agg xs=>simp only[cpT,mkV,uY,zCW xs p p' 0 h]
 |tup xs=>exact absurd rfl (ht xs)
 |_=>simpa[cpT,mkV,uY]using h []
end
theorem jD(G:Gh)(s:Nat)(t:T)(p:List Nat)(ht:∀xs,t≠.tup xs):mkV G s t p=uY G s t p:=by
 cases t with
 |tup xs=>exact absurd rfl (ht xs)
 |_=>rfl
def Gh.put(G:Gh)(d:Nat)(f:List Nat→Value):Gh:={ G with hd:=fun s z=>if s=d then f z else G.hd s z }
theorem Gh.put_other(G:Gh){d s:Nat}(f:List Nat→Value)(p:List Nat)(h:s≠d):(G.put d f).hd s p=G.hd s p:=by simp[Gh.put,h]
theorem Gh.put_self(G:Gh)(d:Nat)(f:List Nat→Value)(p:List Nat):(G.put d f).hd d p=f p:=by simp[Gh.put]
theorem zVu{d s:Nat}{p:List Nat}(h:Off [(d,0)] s p):s≠d:=by
 rintro rfl
 exact absurd (h 0 (by simp)) (by simp)
theorem Gh.put_keep(G:Gh){w w':World}(hw:w'.heap=w.heap)(d:Nat)(f:List Nat→Value):sX [(d,0)] G w (G.put d f) w' where
 hd s p h:=G.put_other f p (zVu h)
 ad _ _ _:=rfl
 lb b o f' s p _ h _:=⟨h,by simp[yG,World.cell?,hw]⟩
 ow b s p h _:=h
 blk b cs e h:=⟨cs,by rw[hw];exact h,rfl⟩
theorem Mem.put{Γ:Ctx}{G:Gh}{w w':World}(h:Mem Γ G w)(hw:w'.heap=w.heap)(d:Nat)(f:List Nat→Value)(hf:∀z,(f z).oneCell'=true)(ho:w'.os=w.os:=by rfl)(hq:w'.output=w.output:=by rfl):Mem Γ (G.put d f) w' where
 one s p:=by unfold Gh.put;dsimp only;split;exact hf p;exact h.one s p
 lb b o l hl:=by have:=h.lb b o l hl;exact⟨by rw[hw];exact this.1,this.2⟩
 ow b l hl:=by have:=h.ow b l hl;exact⟨by rw[hw];exact this.1,this.2⟩
 st b x hx:=by rw[hw];exact h.st b x hx
 fr b h1 h2:=by rw[hw];exact h.fr b h1 h2
 sz:=by rw[hw];exact h.sz
 bk:=h.bk.trans (fun b cs e hb=>⟨cs,by rw[hw];exact hb,rfl⟩) ho hq
theorem uM(d:Nat)(x:Option T)(s:Nat):Wr.find [(d,x)] s=if d=s then some x else none:=by simp[Wr.find]
theorem wR{Γ:Ctx}{E:Env}{G:Gh}{tmps:Array Value}{w w':World}(h:Rep Γ E G tmps w)(hw:w'.heap=w.heap){d:Nat}(hd:d<Γ.N)
  (f:List Nat→Value)(hf:∀z,(f z).oneCell'=true)(t:T)(v:Value)(hv:v=mkV (G.put d f) d t [])(hr:R Γ.St (G.put d f) w' d t [])(ht:Top t)(ho:w'.os=w.os:=by rfl)(hq:w'.output=w.output:=by rfl):
  Rep Γ (E.app [(d,some t)] [(d,0)]) (G.put d f) (tmps.setIfInBounds d v) w':=by
 refine wV h (by simp) (G.put_keep hw d f) (h.mem.put hw d f hf ho hq) ?_ ?_
 ·intro s hs
  rw[uM]at hs;split at hs
  ·cases hs
  ·rename_i hne
   refine⟨fun n hn=>hne (by simp at hn;exact hn.1.symm),?_⟩;rw[Jb];simp[hne]
 ·intro s t' hs
  rw[uM]at hs;split at hs
  ·rename_i he
   subst he;simp at hs;subst hs;refine⟨?_,hr,ht⟩;rw[Jb];simp[h.size,hd,hv]
  ·cases hs
def xV(P:Program)(Γ:Ctx)(o:Oper)(E E':Env):Prop:=
 ∀(a:Act)(w:World)(K:Act→World→Prop)(Q:Exit→Act→World→Prop),Sim Γ E a w→(∀a' w',qL Γ E' a' w'→K a' w')→o.wp P a w K Q
def opT(E:Env):Operand→Option T
 |.tmp s=>E s
 |.const v=>if v.oneCell' then some (.lit v)else none
 |.func f=>some (.lit (.func (.func f) #[] #[]))
 |.global _=>none
def uE(x:Operand)(t:T):T:=match x with
 |.tmp s=>cpT s t []
 |_=>t
section
variable {P:Program}{Γ:Ctx}{E E':Env}{o:Oper}{d:Nat}
theorem xT{a:Act}{s:Nat}{v:Value}(h:a.tmps[s]? =some v):a.eval (.tmp s)=v:=by simp[Act.eval,K3,h]
theorem xV.value(ho:o.dst=some d)
  (h:∀(a:Act)(w:World)(G:Gh),Rep Γ E G a.tmps w→ ∃v w',(execOp a.eval o).run P w=.ok (.value v) w'∧ ∃G',Rep Γ E' G' (a.tmps.setIfInBounds d v) w'):xV P Γ o E E':=by
 intro a w K Q ⟨hdf,G,hrep⟩ hK;obtain⟨v,w',hrun,G',hrep'⟩:=h a w G hrep;unfold Oper.wp;rw[hrun,Oper.upon_value];refine hK _ _ ?_;rw[ho];exact .of ⟨hdf,G',hrep'⟩
theorem xV.skip(ho:o.dst=none)
  (h:∀(a:Act)(w:World)(G:Gh),Rep Γ E G a.tmps w→ ∃w',(execOp a.eval o).run P w=.ok .skip w'∧ ∃G',Rep Γ E' G' a.tmps w'):xV P Γ o E E':=by
 intro a w K Q ⟨hdf,G,hrep⟩ hK;obtain⟨w',hrun,G',hrep'⟩:=h a w G hrep;unfold Oper.wp;rw[hrun,Oper.upon_skip];refine hK _ _ ?_;rw[ho];exact .of ⟨hdf,G',hrep'⟩
theorem opd{G:Gh}{a:Act}{w:World}(hrep:Rep Γ E G a.tmps w){x:Operand}{t:T}(hx:opT E x=some t)(ht:∀xs,t≠.tup xs):
  ∃f:List Nat→Value,(∀z,(f z).oneCell'=true)∧(∀d,(∀s,x=.tmp s→s≠d)→T.okB [(d,0)] (uE x t)=true→
   a.eval x=mkV (G.put d f) d (uE x t) []∧R Γ.St (G.put d f) w d (uE x t) [])∧Top (uE x t):=by
 cases x with
 |tmp s=>
  obtain⟨h1,h2,h3⟩:=hrep.ent s t hx;refine⟨fun z=>G.hd s z,fun z=>hrep.mem.one s z,?_,sH s t []⟩;intro d hne hok;have hsd:=hne s rfl;have hk:=G.put_keep (w:=w) (w':=w) rfl d (fun z=>G.hd s z);have hz:∀z,(G.put d (fun z=>G.hd s z)).hd d (z++[])=G.hd s (z++[]):=fun z=>by rw[Gh.put_self]
  refine⟨?_,?_⟩
  ·rw[xT h1,uE,kP t [] [] ht hz]
   exact jD G s t [] ht
  ·exact zCV (fun p=>G.put_other _ p hsd) t [] [] hz ht (hk.keepR (jZ _ (sH s t []) hok)) h2
 |const v=>
  simp only[opT]at hx;split at hx
  ·rename_i hone
   simp at hx;subst hx;exact⟨fun _=>v,fun _=>hone,fun d _ _=>⟨by simp[Act.eval,uE,mkV,Gh.put],by simp[uE,R,Gh.put]⟩,by simp[uE,Top]⟩
  ·cases hx
 |func f=>
  simp only[opT]at hx;simp at hx;subst hx;exact⟨fun _=>.func (.func f) #[] #[],fun _=>rfl,fun d _ _=>⟨by simp[Act.eval,uE,mkV,Gh.put],by simp[uE,R,Gh.put]⟩,by simp[uE,Top]⟩
 |global g=>cases hx
theorem zMP(x:Operand)(t:T)(ho:o.op=.move x∨o.op=.assign x)(hdst:o.dst=some d)(hd:d<Γ.N)(hx:opT E x=some t)(ht:∀xs,t≠.tup xs)
  (hne:∀s,x=.tmp s→s≠d)(hok:T.okB [(d,0)] (uE x t)=true):xV P Γ o E (E.app [(d,some (uE x t))] [(d,0)]):=by
 refine xV.value hdst fun a w G hrep=>?_
 obtain⟨f,hf,h1,h2⟩:=opd hrep hx ht;obtain⟨h3,h4⟩:=h1 d hne hok;refine⟨a.eval x,w,?_,_,wR hrep rfl hd f hf _ _ h3 h4 h2⟩;rcases ho with ho|ho<;>simp[execOp,ho]
theorem xX{G:Gh}{a:Act}{w:World}(hrep:Rep Γ E G a.tmps w){x:Operand}{v:Value}(hx:opT E x=some (.lit v)):a.eval x=v∧v.oneCell'=true:=by
 cases x with
 |tmp s=>
  obtain⟨h1,h2,_⟩:=hrep.ent s _ hx;simp only[R]at h2;refine⟨?_,by rw[←h2];exact hrep.mem.one s []⟩;rw[xT h1,mkV,h2]
  all_goals simp
 |const u=>
  simp only[opT]at hx;split at hx
  ·simp at hx;subst hx;exact⟨rfl,by assumption⟩
  ·cases hx
 |func f=>simp only[opT]at hx;simp at hx;subst hx;exact⟨rfl,rfl⟩
 |global g=>cases hx
theorem kQ(v:Value)(hv:v.oneCell'=true)(hdst:o.dst=some d)(hd:d<Γ.N)
  (h:∀(a:Act)(w:World)(G:Gh),Rep Γ E G a.tmps w→(execOp a.eval o).run P w=.ok (.value v) w):xV P Γ o E (E.app [(d,some (.lit v))] [(d,0)]):=by
 refine xV.value hdst fun a w G hrep=>?_
 exact⟨v,w,h a w G hrep,_,wR hrep rfl hd (fun _=>v) (fun _=>hv) (.lit v) v (by simp[mkV,Gh.put]) (by simp[R,Gh.put]) (by simp[Top])⟩
def zIy(op:BinOp)(k:IntKind)(a b:Int):Option Value:=
 match op with
 |.add=>some (.int k (k.wrap (a+b)))
 |.sub=>some (.int k (k.wrap (a-b)))
 |.mul=>some (.int k (k.wrap (a*b)))
 |.quo=>if b=0 then none else some (.int k (k.wrap (a.tdiv b)))
 |.rem=>if b=0 then none else some (.int k (a.tmod b))
 |.eql=>some (.bool (a==b))
 |.neq=>some (.bool (a != b))
 |.lss=>some (.bool (decide (a<b)))
 |.leq=>some (.bool (decide (a≤b)))
 |.gtr=>some (.bool (decide (a> b)))
 |.geq=>some (.bool (decide (a≥b)))
 |_=>none
theorem zP4{op:BinOp}{k:IntKind}{a b:Int}{v:Value}(h:zIy op k a b=some v):v.oneCell'=true:=by cases op<;>simp[zIy]at h<;>first|(subst h;rfl)|(obtain⟨_,rfl⟩:=h;rfl)
theorem tD(op:BinOp)(xt yt:TypeId)(x y:Operand)(k:IntKind)(m n:Int)(v:Value)(ho:o.op=.binOp op xt x y yt)(hdst:o.dst=some d)(hd:d<Γ.N)
  (hx:opT E x=some (.lit (.int k m)))(hy:opT E y=some (.lit (.int k n)))(hv:zIy op k m n=some v):xV P Γ o E (E.app [(d,some (.lit v))] [(d,0)]):=by
 refine kQ v (zP4 hv) hdst hd fun a w G hrep=>?_
 have h1:=(xX hrep hx).1;have h2:=(xX hrep hy).1;cases op<;>simp[zIy]at hv<;>
  first
   |(subst hv;simp[execOp,ho,h1,h2,eqGuard,binOp,Op.intArith,Op.intCmp];done)
   |(obtain⟨h0,rfl⟩:=hv;simp[execOp,ho,h1,h2,eqGuard,binOp,Op.intDiv,h0])
theorem zVv(xt:TypeId)(x:Operand)(b:Bool)(ho:o.op=.unOp .not xt x)(hdst:o.dst=some d)(hd:d<Γ.N)
  (hx:opT E x=some (.lit (.bool b))):xV P Γ o E (E.app [(d,some (.lit (.bool !b)))] [(d,0)]):=by
 refine kQ _ rfl hdst hd fun a w G hrep=>?_
 have h1:=(xX hrep hx).1;simp[execOp,ho,h1,Op.unary]
theorem zVw(xt:TypeId)(x:Operand)(k:IntKind)(n:Int)(ho:o.op=.unOp .neg xt x)(hdst:o.dst=some d)(hd:d<Γ.N)
  (hx:opT E x=some (.lit (.int k n))):xV P Γ o E (E.app [(d,some (.lit (.int k (k.wrap (0-n)))))] [(d,0)]):=by
 refine kQ _ rfl hdst hd fun a w G hrep=>?_
 have h1:=(xX hrep hx).1;simp[execOp,ho,h1,Op.unary,Op.intArith]
theorem zTh(src dst:TypeId)(ds:TypeDesc)(x:Operand)(k k':IntKind)(n:Int)(ho:o.op=.convert src dst x)(hdst:o.dst=some d)(hd:d<Γ.N)
  (hs:P.underlying src=some ds)(ht:P.underlying dst=some (.int k'))(hx:opT E x=some (.lit (.int k n))):
  xV P Γ o E (E.app [(d,some (.lit (.int k' (k'.wrap n))))] [(d,0)]):=by
 refine kQ _ rfl hdst hd fun a w G hrep=>?_
 have h1:=(xX hrep hx).1;simp[execOp,ho,h1,convert,run_underlying hs,run_underlying ht,Conv.intToInt]
theorem zTi(c x y:Operand)(b:Bool)(t:T)(ho:o.op=.pick c x y)(hdst:o.dst=some d)(hd:d<Γ.N)
  (hc:opT E c=some (.lit (.bool b)))(hx:opT E (if b then x else y)=some t)(ht:∀xs,t≠.tup xs)
  (hne:∀s,(if b then x else y)=.tmp s→s≠d)(hok:T.okB [(d,0)] (uE (if b then x else y) t)=true):xV P Γ o E (E.app [(d,some (uE (if b then x else y) t))] [(d,0)]):=by
 refine xV.value hdst fun a w G hrep=>?_
 obtain⟨f,hf,h1,h2⟩:=opd hrep hx ht;obtain⟨h3,h4⟩:=h1 d hne hok;refine⟨a.eval (if b then x else y),w,?_,_,wR hrep rfl hd f hf _ _ h3 h4 h2⟩;have h5:=(xX hrep hc).1;cases b<;>simp[execOp,ho,h5,asBool]
end
end Go.Ab

namespace Go.Ab
open Go
def tZ(E:Env):Nat→Nat→List Nat→Option (Nat×List Nat×T)
 |0,_,_=>none
 |n+1,r,q=>match E r with
  |some t=>match t.get q.reverse with
   |some (.same r' q')=>tZ E n r' q'
   |some u=>some (r,q,u)
   |none=>none
  |none=>none
def uN(E:Env):Operand→Option (Nat×List Nat×T)
 |.tmp s=>tZ E 4 s []
 |_=>none
def T.single:T→Bool
 |.agg _|.tup _=>false
 |_=>true
theorem xL{G:Gh}{s:Nat}{t:T}{p:List Nat}(h:t.single=true):mkV G s t p=G.hd s p:=by cases t<;>simp[T.single]at h<;>rfl
section
variable {P:Program}{Γ:Ctx}{E:Env}{o:Oper}{d:Nat}
theorem zCp{G:Gh}{a:Act}{w:World}(hrep:Rep Γ E G a.tmps w):∀(n s:Nat)(p:List Nat)(r:Nat)(q:List Nat)(u:T),tZ E n s p=some (r,q,u)→
  R Γ.St G w r u q∧G.hd s p=G.hd r q∧(∃t,E r=some t∧t.get q.reverse=some u)
 |0,_,_,_,_,_,h=>by simp[tZ]at h
 |n+1,s,p,r,q,u,h=>by
  simp only[tZ]at h;split at h
  ·rename_i t ht
   obtain⟨_,h4,_⟩:=hrep.ent _ _ ht;split at h
   ·rename_i r' q' hg
    obtain⟨h1,h2,h3⟩:=zCp hrep n r' q' r q u h;have h5:=(jC p.reverse t _ [] h4 hg).1;simp only[rp,Kr,J9,R]at h5;exact⟨h1,h5.trans h2,h3⟩
   ·rename_i u' hns hg
    simp at h;obtain⟨rfl,rfl,rfl⟩:=h;have h5:=(jC p.reverse t _ [] h4 hg).1;simp only[rp,Kr,J9]at h5;exact⟨h5,rfl,t,ht,hg⟩
   ·cases h
  ·cases h
theorem sY{G:Gh}{a:Act}{w:World}(hrep:Rep Γ E G a.tmps w){x:Operand}{r:Nat}{q:List Nat}{u:T}(h:uN E x=some (r,q,u))(hu:u.single=true):
  R Γ.St G w r u q∧a.eval x=G.hd r q:=by
 cases x with
 |tmp s=>
  obtain⟨h1,h2,_⟩:=zCp hrep 4 s [] r q u h;refine⟨h1,?_⟩;rw[←h2];simp only[uN,tZ]at h;split at h
  ·rename_i t ht
   obtain⟨h3,_,_⟩:=hrep.ent s _ ht;rw[xT h3];simp only[Lz,T.get]at h;have:t.single=true:=by cases t<;>first|rfl|(simp at h;obtain⟨_,_,rfl⟩:=h;simp[T.single]at hu)
   exact xL this
  ·cases h
 |_=>simp[uN]at h
theorem zFu{St:Stb}{G:Gh}{w:World}{s:Nat}{k:Nat}{xs:List T}{p:List Nat}(h:R St G w s (.sl k xs) p):∃a c,G.hd s p=.slice a xs.length c:=by
 simp only[R]at h;rcases h with⟨rfl,a,h⟩|⟨b,cap,_,_,h,_⟩
 ·exact⟨a,0,h⟩
 ·exact⟨_,_,h⟩
theorem zCq{St:Stb}{G:Gh}{w:World}{s:Nat}{k:Nat}{xs:List T}{p:List Nat}(h:R St G w s (.ro (.sl k xs)) p):∃a c,G.hd s p=.slice a xs.length c∧xs.length≤c∧c≤maxLen∧
   (xs≠[]→ ∃b o' cs' e fr,a=some ⟨b,o',none⟩∧St b=some (.cells cs' e fr)∧RoL St xs cs' o' k):=by
 simp only[R,RoC]at h;obtain⟨a,c,h1,h2,h3,h4⟩:=h;exact⟨a,c,by simpa using h1,h2,h3,h4⟩
def zJu:T→Option Nat
 |.sl _ xs|.ro (.sl _ xs)=>some xs.length
 |.lit (.slice _ n _)=>some n
 |.lit (.string s)=>some s.size
 |_=>none
def zTj:T→TypeDesc→Bool
 |.lit (.string _),.string=>true
 |.sl _ _,.slice _|.ro (.sl _ _),.slice _|.lit (.slice _ _ _),.slice _=>true
 |_,_=>false
theorem zP5(x:Operand)(t:TypeId)(ds:TypeDesc)(r:Nat)(q:List Nat)(u:T)(n:Nat)(ho:o.op=.call { callee:=.builtin .len,args:=#[x],argTypes:=#[t] })(hdst:o.dst=some d)(hd:d<Γ.N)
  (ht:P.underlying t=some ds)(hx:uN E x=some (r,q,u))(hl:zJu u=some n)(hds:zTj u ds=true):
  xV P Γ o E (E.app [(d,some (.lit (.int .i64 n)))] [(d,0)]):=by
 refine kQ (.int .i64 n) rfl hdst hd fun a w G hrep=>?_
 have hu:u.single=true:=by cases u<;>simp[zJu]at hl<;>rfl
 obtain⟨h1,h2⟩:=sY hrep hx hu;have h3:(Builtin.len_ #[t] o.type #[G.hd r q]).run P w=.ok (.int .i64 n) w:=by
  cases u with
  |sl k xs=>
   obtain⟨a',c,h4⟩:=zFu h1;simp[zJu]at hl;subst hl;cases ds<;>simp[zTj]at hds
   simp[Builtin.len_,run_underlying ht,h4,goInt]
  |ro t'=>
   cases t'<;>simp[zJu]at hl
   obtain⟨a',c,h4,_⟩:=zCq h1;subst hl;cases ds<;>simp[zTj]at hds
   simp[Builtin.len_,run_underlying ht,h4,goInt]
  |lit v=>
   simp only[R]at h1;cases v<;>simp[zJu]at hl<;>(subst hl;cases ds<;>simp[zTj]at hds;simp[Builtin.len_,run_underlying ht,h1,goInt])
  |_=>simp[zJu]at hl
 simp[execOp,ho,resolve,invoke,builtin,h2,h3]
theorem zBb{G:Gh}{w:World}{s:Nat}{t:T}{p:List Nat}{b o:Nat}(h:Loc G w s t p b o):G.ad s p=⟨b,o,none⟩:=by cases t<;>simp only[Loc]at h<;>first|exact h.1|exact h.elim
theorem vN(b o n:Nat):(⟨b,o,none⟩:Addr).add n=⟨b,o+n,none⟩:=by
 unfold Addr.add;split
 ·rename_i h;subst h;rfl
 ·rfl
theorem zMQ{St:Stb}{G:Gh}{w:World}{s:Nat}{k:Nat}{xs:List T}{p:List Nat}(h:R St G w s (.sl k xs) p){i:Nat}(hi:i<xs.length):
  ∃b cap,G.hd s p=.slice (some ⟨b,0,none⟩) xs.length cap∧G.ad s (i::p)=⟨b,i*k,none⟩:=by
 simp only[R]at h;rcases h with⟨rfl,_⟩|⟨b,cap,cs,e,h1,h2,h3,h4,h5,h6,h7,h8⟩
 ·simp at hi
 ·have:=(qJ xs p 0 b 0 k i xs[i] h8 (by simp[hi])).1
  simp only[Jd]at this;exact⟨b,cap,h1,zBb this⟩
theorem zUE(x y:Operand)(t e:TypeId)(ti:TypeInfo)(r:Nat)(q:List Nat)(k:Nat)(xs:List T)(kd:IntKind)(i:Int)(ho:o.op=.indexAddr t x y)(hdst:o.dst=some d)(hd:d<Γ.N)
  (ht:P.underlying t=some (.slice e))(he:P.info? e=some ti)(hk:ti.size=k)(hx:uN E x=some (r,q,.sl k xs))(hy:opT E y=some (.lit (.int kd i)))(h0:0≤i)(h1:i.toNat<xs.length):
  xV P Γ o E (E.app [(d,some (.addr r (i.toNat::q)))] [(d,0)]):=by
 refine xV.value hdst fun a w G hrep=>?_
 obtain⟨g1,g2⟩:=sY hrep hx rfl;have g3:=(xX hrep hy).1;obtain⟨b,cap,g4,g5⟩:=zMQ g1 h1;refine⟨.pointer (some (G.ad r (i.toNat::q))),w,?_,_,wR hrep rfl hd (fun _=>.pointer (some (G.ad r (i.toNat::q)))) (fun _=>rfl) _ _ (by simp[mkV,Gh.put]) (by simp[R,Gh.put]) (by simp[Top])⟩;have hlt:i<(xs.length:Int):=by omega
 simp[execOp,ho,Instr.indexAt,g3,g2,g4,asIntOf,run_underlying ht,h0,hlt,sizeOf,typeInfo,he,hk,vN,g5]
theorem zFv{St:Stb}:(xs:List T)→ ∀(cs:Array Value)(o k i:Nat)(x:T),RoL St xs cs o k→xs[i]? =some x→RoC St x cs (o+i*k)
 | [],_,_,_,_,_,_,h=>by simp at h
 |y::ys,cs,o,k,i,x,hr,h=>by
  simp only[RoL]at hr;cases i with
  |zero=>simp at h;subst h;simpa using hr.1
  |succ i=>
   have:=zFv ys cs (o+k) k i x hr.2 (by simpa using h)
   rwa [show o+(i+1)*k=o+k+i*k from by rw[Kf];omega]
theorem zMR{St:Stb}:(xs:List T)→ ∀(cs:Array Value)(o i:Nat)(x:T),RoF St xs cs o→xs[i]? =some x→RoC St x cs (o+T.sizes (xs.take i))
 | [],_,_,_,_,_,h=>by simp at h
 |y::ys,cs,o,i,x,hr,h=>by
  simp only[RoF]at hr;cases i with
  |zero=>simp at h;subst h;simpa[T.sizes]using hr.1
  |succ i=>
   have:=zMR ys cs (o+y.size) i x hr.2 (by simpa using h)
   rwa [Kd,T.sizes,←Lv]
theorem zP6(x y:Operand)(t e:TypeId)(ti:TypeInfo)(r:Nat)(q:List Nat)(k:Nat)(xs:List T)(kd:IntKind)(i:Int)(u:T)(ho:o.op=.indexAddr t x y)(hdst:o.dst=some d)(hd:d<Γ.N)
  (ht:P.underlying t=some (.slice e))(he:P.info? e=some ti)(hk:ti.size=k)(hx:uN E x=some (r,q,.ro (.sl k xs)))(hy:opT E y=some (.lit (.int kd i)))(h0:0≤i)(h1:xs[i.toNat]? =some u):
  xV P Γ o E (E.app [(d,some (.ro (.ptr u)))] [(d,0)]):=by
 refine xV.value hdst fun a w G hrep=>?_
 obtain⟨g1,g2⟩:=sY hrep hx rfl;have g3:=(xX hrep hy).1;have hlt':i.toNat<xs.length:=(Ja.1 h1).1;obtain⟨a',c,g4,_,_,g5⟩:=zCq g1;obtain⟨b,o',cs',e',fr,rfl,g6,g7⟩:=g5 (by rintro rfl;simp at hlt');have g8:=zFv xs cs' o' k i.toNat u g7 h1;refine⟨.pointer (some ⟨b,o'+i.toNat*k,none⟩),w,?_,_,wR hrep rfl hd (fun _=>.pointer (some ⟨b,o'+i.toNat*k,none⟩)) (fun _=>rfl) _ _ (by simp[mkV,Gh.put]) ?_ (by simp[Top])⟩
 ·have hlt:i<(xs.length:Int):=by omega
  simp[execOp,ho,Instr.indexAt,g3,g2,g4,asIntOf,run_underlying ht,h0,hlt,sizeOf,typeInfo,he,hk,vN]
 ·simp only[R,Gh.put_self,RoC]
  exact⟨b,_,cs',e',fr,by simp,g6,g8⟩
theorem zBB:(xs:List T)→ ∀{G:Gh}{w:World}{s:Nat}(p:List Nat)(j b o i:Nat)(x:T),wS G w s xs p j b o→xs[i]? =some x→
  Loc G w s x ((j+i)::p) b (o+T.sizes (xs.take i))
 | [],_,_,_,_,_,_,_,_,_,_,h=>by simp at h
 |y::ys,G,w,s,p,j,b,o,i,x,hr,h=>by
  simp only[wS]at hr;cases i with
  |zero=>simp at h;subst h;simpa[T.sizes]using hr.1
  |succ i=>
   have:=zBB ys p (j+1) b (o+y.size) i x hr.2 (by simpa using h)
   rwa [show j+(i+1)=j+1+i from by omega,Kd,T.sizes,←Lv]
theorem uU{P:Program}{w:World}(a:Addr):(Instr.sureAddr (.pointer (some a))).run P w=.ok a w:=rfl
theorem zBC{P:Program}{w:World}{S:TypeId}{fs:Array Field}{f:Field}{fi:TypeInfo}{j:Nat}{b o':Nat}(hS:P.underlying S=some (.struct fs))(hf:fs[j]? =some f)(hi:P.info? f.type=some fi)(hz:fi.size≠0):
  (Instr.fieldAt S (.pointer (some ⟨b,o',none⟩)) j).run P w=.ok (.pointer (some ⟨b,o'+f.offset,none⟩)) w:=by
 simp[Instr.fieldAt,run_underlying hS,hf,uU,fieldPlace,sizeOf,typeInfo,hi,hz,vN]
theorem zWI(x:Operand)(S:TypeId)(fs:Array Field)(f:Field)(fi:TypeInfo)(j:Nat)(r:Nat)(q:List Nat)(xs:List T)(u:T)(ho:o.op=.fieldAddr S x j)(hdst:o.dst=some d)(hd:d<Γ.N)
  (hS:P.underlying S=some (.struct fs))(hf:fs[j]? =some f)(hi:P.info? f.type=some fi)(hz:fi.size≠0)(hx:uN E x=some (r,q,.ptr (.agg xs)))(hu:xs[j]? =some u)(hoff:T.sizes (xs.take j)=f.offset):
  xV P Γ o E (E.app [(d,some (.addr r (j::0::q)))] [(d,0)]):=by
 refine xV.value hdst fun a w G hrep=>?_
 obtain⟨g1,g2⟩:=sY hrep hx rfl;simp only[R]at g1;obtain⟨b,cs,e,g4,_,_,_,g5,_⟩:=g1;simp only[Loc]at g5;have g6:=zBB xs (0::q) 0 b 0 j u g5.2 hu;simp only[Jd]at g6;refine⟨.pointer (some (G.ad r (j::0::q))),w,?_,_,wR hrep rfl hd (fun _=>.pointer (some (G.ad r (j::0::q)))) (fun _=>rfl) _ _ (by simp[mkV,Gh.put]) (by simp[R,Gh.put]) (by simp[Top])⟩;have g7:=zBC (w:=w) (b:=b) (o':=0) hS hf hi hz;simp[execOp,ho,g2,g4,g7,zBb g6,hoff]
theorem zLv(x:Operand)(S:TypeId)(fs:Array Field)(f:Field)(fi:TypeInfo)(j:Nat)(r:Nat)(q:List Nat)(t:T)(xs:List T)(u:T)(ho:o.op=.fieldAddr S x j)(hdst:o.dst=some d)(hd:d<Γ.N)
  (hS:P.underlying S=some (.struct fs))(hf:fs[j]? =some f)(hi:P.info? f.type=some fi)(hz:fi.size≠0)(hx:opT E x=some (.addr r q))(hr:E r=some t)(hg:t.get q.reverse=some (.agg xs))(hl:t.locd q.reverse=true)
  (hu:xs[j]? =some u)(hoff:T.sizes (xs.take j)=f.offset):
  xV P Γ o E (E.app [(d,some (.addr r (j::q)))] [(d,0)]):=by
 refine xV.value hdst fun a w G hrep=>?_
 cases x with
 |tmp s=>
  obtain⟨h1,h2,_⟩:=hrep.ent s _ hx;obtain⟨_,h4,_⟩:=hrep.ent r _ hr;simp only[R]at h2;obtain⟨b,o',cs,e,h6,_,_⟩:=(jC q.reverse t _ [] h4 hg).2 hl;simp only[rp,Kr,J9]at h6;have h7:=zBb h6;simp only[Loc]at h6;have g6:=zBB xs q 0 b o' j u h6.2 hu;simp only[Jd]at g6;refine⟨.pointer (some (G.ad r (j::q))),w,?_,_,wR hrep rfl hd (fun _=>.pointer (some (G.ad r (j::q)))) (fun _=>rfl) _ _ (by simp[mkV,Gh.put]) (by simp[R,Gh.put]) (by simp[Top])⟩;have g7:=zBC (w:=w) (b:=b) (o':=o') hS hf hi hz;simp[execOp,ho,xT h1,mkV,h2,h7,g7,zBb g6,hoff]
 |const v=>simp only[opT]at hx;split at hx<;>simp at hx
 |func f=>simp[opT]at hx
 |global g=>simp[opT]at hx
theorem zLw{G:Gh}{a:Act}{w:World}(hrep:Rep Γ E G a.tmps w){x:Operand}{u:T}(hx:opT E x=some (.ro u)):RoC Γ.St u #[a.eval x] 0:=by
 cases x with
 |tmp s=>
  obtain⟨h1,h2,_⟩:=hrep.ent s _ hx;simp only[R]at h2;rw[xT h1,xL rfl];exact h2
 |const v=>simp only[opT]at hx;split at hx<;>simp at hx
 |func f=>simp[opT]at hx
 |global g=>simp[opT]at hx
theorem zP7(x:Operand)(S:TypeId)(fs:Array Field)(f:Field)(fi:TypeInfo)(j:Nat)(xs:List T)(u:T)(ho:o.op=.fieldAddr S x j)(hdst:o.dst=some d)(hd:d<Γ.N)
  (hS:P.underlying S=some (.struct fs))(hf:fs[j]? =some f)(hi:P.info? f.type=some fi)(hz:fi.size≠0)(hx:opT E x=some (.ro (.ptr (.agg xs))))(hu:xs[j]? =some u)(hoff:T.sizes (xs.take j)=f.offset):
  xV P Γ o E (E.app [(d,some (.ro (.ptr u)))] [(d,0)]):=by
 refine xV.value hdst fun a w G hrep=>?_
 have h1:=zLw hrep hx;simp only[RoC]at h1;obtain⟨b,o',cs',e,fr,h2,h3,h4⟩:=h1;have h5:=zMR xs cs' o' j u h4 hu;refine⟨.pointer (some ⟨b,o'+f.offset,none⟩),w,?_,_,wR hrep rfl hd (fun _=>.pointer (some ⟨b,o'+f.offset,none⟩)) (fun _=>rfl) _ _ (by simp[mkV,Gh.put]) ?_ (by simp[Top])⟩
 ·have g7:=zBC (w:=w) (b:=b) (o':=o') hS hf hi hz
  have h6:a.eval x=.pointer (some ⟨b,o',none⟩):=by simpa using h2
  simp[execOp,ho,h6,g7]
 ·simp only[R,Gh.put_self,RoC]
  exact⟨b,o'+f.offset,cs',e,fr,by simp,h3,by rw[←hoff];exact h5⟩
def zEh:TypeDesc→Bool
 |.struct _|.array _ _=>true
 |_=>false
theorem qM{P:Program}{w:World}{t:TypeId}{ds:TypeDesc}(ht:P.underlying t=some ds):(isAgg t).run P w=.ok (zEh ds) w:=by cases ds<;>simp[isAgg,run_underlying ht,zEh]
theorem wN{G:Gh}{w:World}{s:Nat}{t:T}{p:List Nat}{b o:Nat}(ht:t.single=true)(h:Loc G w s t p b o):G.ad s p=⟨b,o,none⟩∧G.lb b o=some (false,s,p)∧yG w b o=some (G.hd s p):=by cases t<;>simp[T.single]at ht<;>simpa only[Loc]using h
mutual
theorem zP8{G:Gh}{w:World}{s:Nat}:(t:T)→ ∀(p:List Nat)(b o:Nat),Loc G w s t p b o→ ∀(i:Nat)(v:Value),(vals G s t p)[i]? =some v→yG w b (o+i)=some v
 |.agg xs,p,b,o,h,i,v,hv=>by simp only[Loc,vals]at h hv;exact zA5 xs p 0 b o h.2 i v hv
 |.any,p,b,o,h,i,v,hv|.lit _,p,b,o,h,i,v,hv|.ro _,p,b,o,h,i,v,hv|.same _ _,p,b,o,h,i,v,hv|.addr _ _,p,b,o,h,i,v,hv|.sub _ _ _ _ _,p,b,o,h,i,v,hv|.sl _ _,p,b,o,h,i,v,hv|.ptr _,p,b,o,h,i,v,hv=>by
  simp only[Loc,vals]at h hv;cases i with
  |zero=>simp at hv;rw[←hv];exact h.2.2
  |succ i=>simp at hv
 |.tup _,_,_,_,h,_,_,_=>by simp only[Loc]at h
theorem zA5{G:Gh}{w:World}{s:Nat}:(xs:List T)→ ∀(p:List Nat)(j b o:Nat),wS G w s xs p j b o→ ∀(i:Nat)(v:Value),(zY G s xs p j)[i]? =some v→yG w b (o+i)=some v
 | [],_,_,_,_,_,i,v,hv=>by simp[zY]at hv
 |x::xs,p,j,b,o,h,i,v,hv=>by
  simp only[wS,zY]at h hv;rw[Kz]at hv;split at hv
  ·exact zP8 x (j::p) b o h.1 i v hv
  ·rename_i hge
   have hlen:=wD (G:=G) (s:=s) x (j::p) (fun ys e=>by subst e;simp only[Loc]at h;exact h.1);have:=zA5 xs p (j+1) b (o+x.size) h.2 _ v hv
   rwa [show o+x.size+(i-(vals G s x (j::p)).length)=o+i from by omega]at this
theorem wD{G:Gh}{s:Nat}:(t:T)→ ∀(p:List Nat),(∀xs,t≠.tup xs)→(vals G s t p).length=t.size
 |.agg xs,p,_=>by simp only[vals,T.size];exact xZ xs p 0
 |.any,_,_|.lit _,_,_|.ro _,_,_|.same _ _,_,_|.addr _ _,_,_|.sub _ _ _ _ _,_,_|.sl _ _,_,_|.ptr _,_,_|.tup _,_,_=>by simp[vals,T.size]
theorem xZ{G:Gh}{s:Nat}:(xs:List T)→ ∀(p:List Nat)(j:Nat),(zY G s xs p j).length=T.sizes xs
 | [],_,_=>by simp[zY,T.sizes]
 |x::xs,p,j=>by
  simp only[zY,J6,T.sizes,xZ xs p (j+1)]
  by_cases hx:∃ys,x=.tup ys
  ·obtain⟨ys,rfl⟩:=hx;simp[vals,T.size]
  ·rw[wD x (j::p) (fun ys e=>hx ⟨ys,e⟩)]
end
theorem zET{P:Program}{G:Gh}{w:World}{s:Nat}{t:T}{p:List Nat}{b o':Nat}{T':TypeId}{ds:TypeDesc}{ti:TypeInfo}(hT:P.underlying T'=some ds)(hi:P.info? T'=some ti)(hl:Loc G w s t p b o')
  (hsh:zEh ds= !t.single)(hsz:ti.size=t.size):(loadVar T' ⟨b,o',none⟩).run P w=.ok (uY G s t p) w:=by
 cases t with
 |agg xs=>
  have h1:=run_loadCells_list (P:=P) (w:=w) ⟨b,o',none⟩ (zY G s xs p 0) (fun j v hv=>by rw[vN];simp only[Loc]at hl;exact zA5 xs p 0 b o' hl.2 j v hv)
  rw[xZ]at h1;simp only[T.size]at hsz;simp[T.single]at hsh;simp[loadVar,qM hT,hsh,sizeOf,typeInfo,hi,hsz,h1,uY]
 |tup xs=>simp only[Loc]at hl
 |_=>
  have h1:=(wN rfl hl).2.2;simp[T.single]at hsh;simp only[yG]at h1;simp[loadVar,qM hT,hsh,load,Sem.run,h1,uY]
def zAl(Γ:Ctx)(E:Env)(x:Operand)(r:Nat)(q:List Nat):Prop:=∀(a:Act)(w:World)(G:Gh),Rep Γ E G a.tmps w→a.eval x=.pointer (some (G.ad r q))
theorem zAl.addr{x:Operand}{r:Nat}{q:List Nat}(hx:opT E x=some (.addr r q)):zAl Γ E x r q:=fun a w G hrep=>by
 cases x with
 |tmp s=>
  obtain⟨h1,h2,_⟩:=hrep.ent s _ hx;simp only[R]at h2;rw[xT h1];exact h2
 |const v=>simp only[opT]at hx;split at hx<;>simp at hx
 |func f=>simp[opT]at hx
 |global g=>simp[opT]at hx
theorem zAl.ptr{x:Operand}{r:Nat}{q:List Nat}{t:T}(hx:uN E x=some (r,q,.ptr t)):zAl Γ E x r (0::q):=fun a w G hrep=>by obtain⟨g1,g2⟩:=sY hrep hx rfl;simp only[R]at g1;obtain⟨b,cs,e,g4,_,_,_,g5,_⟩:=g1;rw[g2,g4,zBb g5]
theorem zJv(x:Operand)(T':TypeId)(ds:TypeDesc)(ti:TypeInfo)(r:Nat)(q:List Nat)(t u:T)(ho:o.op=.load T' x)(hdst:o.dst=some d)(hd:d<Γ.N)
  (hT:P.underlying T'=some ds)(hi:P.info? T'=some ti)(hsh:zEh ds= !u.single)(hsz:ti.size=u.size)
  (hx:zAl Γ E x r q)(hr:E r=some t)(hg:t.get q.reverse=some u)(hl:t.locd q.reverse=true)(hrd:r≠d)(hok:T.okB [(d,0)] (cpT r u q)=true):
  xV P Γ o E (E.app [(d,some (cpT r u q))] [(d,0)]):=by
 refine xV.value hdst fun a w G hrep=>?_
 have hadr:=hx a w G hrep;obtain⟨_,h4,_⟩:=hrep.ent r _ hr;obtain⟨h5,h6⟩:=jC q.reverse t u [] h4 hg;obtain⟨b,o',cs,e,h6,_,_⟩:=h6 hl;simp only[rp,Kr,J9]at h5 h6;have hnt:∀xs,u≠.tup xs:=by rintro xs rfl;simp only[Loc]at h6
 have h7:=zBb h6;have hz:∀z,(G.put d (fun z=>G.hd r (z++q))).hd d (z++[])=G.hd r (z++q):=fun z=>by rw[Gh.put_self,J9]
 have hk:=G.put_keep (w:=w) (w':=w) rfl d (fun z=>G.hd r (z++q));refine⟨uY G r u q,w,?_,_,wR hrep rfl hd (fun z=>G.hd r (z++q)) (fun z=>hrep.mem.one _ _) _ _ (kP u q [] hnt hz).symm
  (zCV (fun p=>G.put_other _ p hrd) u q [] hz hnt (hk.keepR (jZ _ (sH r u q) hok)) h5) (sH r u q)⟩
 have h8:=zET (T':=T') hT hi h6 hsh hsz;simp[execOp,ho,hadr,h7,Instr.loadAt,uU,h8]
theorem zTk(x:Operand)(T':TypeId)(ds:TypeDesc)(ti:TypeInfo)(r:Nat)(q:List Nat)(t u:T)(ho:o.op=.load T' x)(hdst:o.dst=some d)(hd:d<Γ.N)
  (hT:P.underlying T'=some ds)(hi:P.info? T'=some ti)(hsh:zEh ds= !u.single)(hsz:ti.size=u.size)
  (hx:opT E x=some (.addr r q))(hr:E r=some t)(hg:t.get q.reverse=some u)(hl:t.locd q.reverse=true)(hrd:r≠d)(hok:T.okB [(d,0)] (cpT r u q)=true):
  xV P Γ o E (E.app [(d,some (cpT r u q))] [(d,0)]):=zJv x T' ds ti r q t u ho hdst hd hT hi hsh hsz (zAl.addr hx) hr hg hl hrd hok
def roT:T→T
 |.lit v=>.lit v
 |.agg xs=>.agg (roTs xs)
 |.ro t=>.ro t
 |.any=>.any
 |.same r q=>.ro (.same r q)
 |.addr r q=>.ro (.addr r q)
 |.sub r q k lo hi=>.ro (.sub r q k lo hi)
 |.sl k xs=>.ro (.sl k xs)
 |.ptr t=>.ro (.ptr t)
 |.tup xs=>.ro (.tup xs)
where roTs:List T→List T
 | []=>[]
 |x::xs=>roT x::roTs xs
end
end Go.Ab

namespace Go.Ab
open Go
def jE(v:Value):Value:=if v.oneCell' then v else .bool false
theorem zA6(v:Value):(jE v).oneCell'=true:=by
 unfold jE;split
 ·assumption
 ·rfl
theorem zAm{v:Value}(h:v.oneCell'=true):jE v=v:=by simp[jE,h]
def zCX:T→Array Value→Nat→List Nat→Value
 |.agg xs,cs,o,i::f=>match xs[i]? with
  |some x=>zCX x cs (o+T.sizes (xs.take i)) f
  |none=>.bool false
 |_,cs,o,_=>cs.getD o (.bool false)
termination_by structural _ _ _ f=>f
theorem zAn{t:T}(h:t.single=true)(cs:Array Value)(o:Nat)(f:List Nat):zCX t cs o f=cs.getD o (.bool false):=by cases t<;>simp[T.single]at h<;>cases f<;>rfl
mutual
theorem zD6:(u:T)→(∀xs,u≠.tup xs)→(roT u).size=u.size
 |.agg xs,_=>by simp only[roT,T.size];exact zEi xs
 |.lit _,_|.any,_|.sl _ _,_|.ptr _,_|.ro _,_|.same _ _,_|.addr _ _,_|.sub _ _ _ _ _,_|.tup _,_=>by simp[roT,T.size]
theorem zEi:(xs:List T)→T.sizes (roT.roTs xs)=T.sizes xs
 | []=>by simp only[roT.roTs]
 |x::xs=>by
  simp only[roT.roTs,T.sizes,zEi xs]
  by_cases hx:∃ys,x=.tup ys
  ·obtain⟨ys,rfl⟩:=hx;simp[roT,T.size]
  ·rw[zD6 x (fun ys e=>hx ⟨ys,e⟩)]
end
section
variable {St:Stb}{G:Gh}{w:World}{d:Nat}
theorem zFH{u:T}{cs:Array Value}{o:Nat}(hu:u.single=true)(h:RoC St u cs o):∃v,cs[o]? =some v∧v.oneCell'=true∧RoC St u #[v] 0:=by
 cases u<;>simp[T.single]at hu<;>simp only[RoC]at h ⊢
 ·obtain⟨v,h1,h2⟩:=h;exact⟨v,h1,h2,v,by simp,h2⟩
 ·exact⟨_,h.1,h.2,by simp,h.2⟩
 ·obtain⟨a,c,h1,h2⟩:=h;exact⟨_,h1,rfl,a,c,by simp,h2⟩
 ·obtain⟨b,o',cs',e,fr,h1,h2⟩:=h;exact⟨_,h1,rfl,b,o',cs',e,fr,by simp,h2⟩
mutual
theorem zP9:(u:T)→ ∀(cs:Array Value)(o:Nat)(p:List Nat),(∀z,G.hd d (z++p)=jE (zCX u cs o z.reverse))→RoC St u cs o→R St G w d (roT u) p
 |.agg xs,cs,o,p,hd,h=>by
  simp only[roT,R,RoC]at h ⊢
  exact zPA xs cs o p 0 o (by simp) (fun z j x hx=>by have:=hd (z++[j]);simp only[Jc,Kh,Jp,Hk,H7,Lz,zCX]at this;rw[Jd,this];simp[hx]) h
 |.lit v,cs,o,p,hd,h=>by
  simp only[roT,R,RoC]at h ⊢
  have:=hd [];rw[Jp,zAn rfl]at this;rw[this];simp[K3,h.1,zAm h.2]
 |.any,_,_,_,_,_=>by simp only[roT,R]
 |.sl k xs,cs,o,p,hd,h|.ptr t,cs,o,p,hd,h=>by obtain⟨v,h1,h2,h3⟩:=zFH rfl h;have:=hd [];rw[Jp,zAn rfl]at this;simp only[roT,R];rw[this];simpa[K3,h1,zAm h2]using h3
 |.ro _,_,_,_,_,h|.same _ _,_,_,_,_,h|.addr _ _,_,_,_,_,h|.sub _ _ _ _ _,_,_,_,_,h|.tup _,_,_,_,_,h=>by simp only[RoC]at h
theorem zPA:(xs:List T)→ ∀(cs:Array Value)(o0:Nat)(p:List Nat)(j o:Nat),o0≤o→(∀z i x,xs[i]? =some x→G.hd d (z++((j+i)::p))=jE (zCX x cs (o+T.sizes (xs.take i)) z.reverse))→RoF St xs cs o→RF St G w d (roT.roTs xs) p j
 | [],_,_,_,_,_,_,_,_=>by simp only[roT.roTs,RF]
 |x::xs,cs,o0,p,j,o,ho,hd,h=>by
  simp only[roT.roTs,RF,RoF]at h ⊢
  refine⟨zP9 x cs o (j::p) (fun z=>by simpa[T.sizes]using hd z 0 x (by simp)) h.1,zPA xs cs o0 p (j+1) (o+x.size) (by omega) (fun z i y hy=>?_) h.2⟩;have:=hd z (i+1) y (by simpa using hy);simp only[Kd,T.sizes]at this;rw[show j+1+i=j+(i+1)from by omega,show o+x.size+T.sizes (xs.take i)=o+(x.size+T.sizes (xs.take i))from Lv ..];exact this
end
mutual
theorem zFI:(u:T)→ ∀(cs:Array Value)(o:Nat)(p:List Nat),(∀z,G.hd d (z++p)=jE (zCX u cs o z.reverse))→RoC St u cs o→ ∀(i:Nat)(v:Value),(vals G d (roT u) p)[i]? =some v→cs[o+i]? =some v
 |.agg xs,cs,o,p,hd,h,i,v,hv=>by
  simp only[roT,vals,RoC]at h hv;exact zH1 xs cs p 0 o (fun z j x hx=>by have:=hd (z++[j]);simp only[Jc,Kh,Jp,Hk,H7,Lz,zCX]at this;rw[Jd,this];simp[hx]) h i v hv
 |.lit _,cs,o,p,hd,h,i,v,hv|.any,cs,o,p,hd,h,i,v,hv|.sl _ _,cs,o,p,hd,h,i,v,hv|.ptr _,cs,o,p,hd,h,i,v,hv=>by
  obtain⟨v',h1,h2,h3⟩:=zFH rfl h;have:=hd [];rw[Jp,zAn rfl]at this;simp only[roT,vals]at hv;cases i with
  |zero=>
   simp at hv;rw[←hv,this];simp[K3,h1,zAm h2]
  |succ i=>simp at hv
 |.ro _,_,_,_,_,h,_,_,_|.same _ _,_,_,_,_,h,_,_,_|.addr _ _,_,_,_,_,h,_,_,_|.sub _ _ _ _ _,_,_,_,_,h,_,_,_|.tup _,_,_,_,_,h,_,_,_=>by simp only[RoC]at h
theorem zH1:(xs:List T)→ ∀(cs:Array Value)(p:List Nat)(j o:Nat),(∀z i x,xs[i]? =some x→G.hd d (z++((j+i)::p))=jE (zCX x cs (o+T.sizes (xs.take i)) z.reverse))→RoF St xs cs o→ ∀(i:Nat)(v:Value),(zY G d (roT.roTs xs) p j)[i]? =some v→cs[o+i]? =some v
 | [],_,_,_,_,_,_,i,v,hv=>by simp[roT.roTs,zY]at hv
 |x::xs,cs,p,j,o,hd,h,i,v,hv=>by
  simp only[roT.roTs,zY,RoF]at h hv;have hx:∀z,G.hd d (z++(j::p))=jE (zCX x cs o z.reverse):=fun z=>by simpa[T.sizes]using hd z 0 x (by simp)
  have hlen:(vals G d (roT x) (j::p)).length=x.size:=by have hs:(roT x).size=x.size:=zD6 x (fun ys e=>by subst e;simp only[RoC]at h;exact h.1);rw[wD (roT x) (j::p) (fun ys e=>by cases x<;>simp[roT]at e),hs]
  rw[Kz]at hv;split at hv
  ·exact zFI x cs o (j::p) hx h.1 i v hv
  ·have:=zH1 xs cs p (j+1) (o+x.size) (fun z i y hy=>by
    have:=hd z (i+1) y (by simpa using hy);simp only[Kd,T.sizes]at this;rw[show j+1+i=j+(i+1)from by omega,show o+x.size+T.sizes (xs.take i)=o+(x.size+T.sizes (xs.take i))from Lv ..];exact this) h.2 _ v hv
   rwa [hlen,show o+x.size+(i-x.size)=o+i from by omega]at this
end
mutual
theorem zMS:(u:T)→Top (roT u)
 |.agg xs=>by simp only[roT,Top];exact zJw xs
 |.lit _|.any|.sl _ _|.ptr _|.ro _|.same _ _|.addr _ _|.sub _ _ _ _ _|.tup _=>by simp[roT,Top]
theorem zJw:(xs:List T)→vQ (roT.roTs xs)
 | []=>by simp only[roT.roTs,vQ]
 |x::xs=>by simp only[roT.roTs,vQ];exact⟨zMS x,zJw xs⟩
end
end
section
variable {P:Program}{Γ:Ctx}{E:Env}{o:Oper}{d:Nat}
theorem zMT{G:Gh}{w:World}(hm:Mem Γ G w){b:Nat}{cs:Array Value}{e:TypeId}{fr:Nat×Nat}(h:Γ.St b=some (.cells cs e fr))(i:Nat):w.cell? ⟨b,i,none⟩=cs[i]?:=by simp[World.cell?,hm.st b _ h]
theorem zLx(x:Operand)(T':TypeId)(ds:TypeDesc)(ti:TypeInfo)(u:T)(ho:o.op=.load T' x)(hdst:o.dst=some d)(hd:d<Γ.N)
  (hT:P.underlying T'=some ds)(hi:P.info? T'=some ti)(hsh:zEh ds= !u.single)(hsz:ti.size=u.size)
  (hx:opT E x=some (.ro (.ptr u))):xV P Γ o E (E.app [(d,some (roT u))] [(d,0)]):=by
 refine xV.value hdst fun a w G hrep=>?_
 have h1:=zLw hrep hx;simp only[RoC]at h1;obtain⟨b,o',cs',e,fr,h2,h3,h4⟩:=h1;have h2':a.eval x=.pointer (some ⟨b,o',none⟩):=by simpa using h2
 have hnt:∀xs,u≠.tup xs:=by rintro xs rfl;simp only[RoC]at h4
 let f:List Nat→Value:=fun z=>jE (zCX u cs' o' z.reverse)
 have hz:∀z,(G.put d f).hd d (z++[])=jE (zCX u cs' o' z.reverse):=fun z=>by rw[Gh.put_self,J9]
 refine⟨mkV (G.put d f) d (roT u) [],w,?_,_,wR hrep rfl hd f (fun z=>zA6 _) _ _ rfl (zP9 u cs' o' [] hz h4) (zMS u)⟩;cases u with
 |agg xs=>
  have h5:∀j v,(zY (G.put d f) d (roT.roTs xs) [] 0)[j]? =some v→w.cell? ((⟨b,o',none⟩:Addr).add j)=some v:=by intro j v hv;rw[vN,zMT hrep.mem h3];exact zFI (.agg xs) cs' o' [] hz h4 j v (by simpa only[roT,vals]using hv)
  have h6:=run_loadCells_list (P:=P) (w:=w) ⟨b,o',none⟩ _ h5;rw[xZ,zEi]at h6;simp only[T.size]at hsz;simp[T.single]at hsh;simp[execOp,ho,h2',Instr.loadAt,uU,loadVar,qM hT,hsh,sizeOf,typeInfo,hi,hsz,h6,mkV,roT]
 |tup xs=>exact absurd rfl (hnt xs)
 |_=>
  obtain⟨v,h5,h6,h7⟩:=zFH rfl h4;have h8:w.cell? ⟨b,o',none⟩=some v:=by rw[zMT hrep.mem h3];exact h5
  simp[T.single]at hsh;have h9:f []=v:=by show jE (zCX _ cs' o' _)=v;rw[zAn rfl];simp[K3,h5,zAm h6]
  simp[execOp,ho,h2',Instr.loadAt,uU,loadVar,qM hT,hsh,load,Sem.run,h8,mkV,roT,Gh.put_self,h9]
def zH2(E:Env)(x:Operand):Bool:=
 match opT E x with
 |some (.addr _ _)|some (.ro (.ptr _))=>true
 |_=>match uN E x with
  |some (_,_,.ptr _)=>true
  |some (_,_,.ro (.ptr _))=>true
  |_=>false
theorem zPB{G:Gh}{a:Act}{w:World}(hrep:Rep Γ E G a.tmps w){x:Operand}(h:zH2 E x=true):∃ad,a.eval x=.pointer (some ad):=by
 unfold zH2 at h;split at h
 ·rename_i r q hx
  cases x with
  |tmp s=>
   obtain⟨h1,h2,_⟩:=hrep.ent s _ hx;simp only[R]at h2;exact⟨_,by rw[xT h1,xL rfl,h2]⟩
  |const v=>simp only[opT]at hx;split at hx<;>simp at hx
  |func f=>simp[opT]at hx
  |global g=>simp[opT]at hx
 ·rename_i u hx
  have:=zLw hrep hx;simp only[RoC]at this;obtain⟨b,o',_,_,_,h1,_⟩:=this;exact⟨_,by simpa using h1⟩
 ·split at h
  ·rename_i hl
   obtain⟨h1,h2⟩:=sY hrep hl rfl;simp only[R]at h1;obtain⟨b,cs,e,h3,_⟩:=h1;exact⟨_,by rw[h2,h3]⟩
  ·rename_i hl
   obtain⟨h1,h2⟩:=sY hrep hl rfl;simp only[R,RoC]at h1;obtain⟨b,o',_,_,_,h3,_⟩:=h1;exact⟨_,by rw[h2];simpa using h3⟩
  ·cases h
theorem zVx(x:Operand)(t:T)(ho:o.op=.nilCheck x)(hdst:o.dst=some d)(hd:d<Γ.N)(hx:opT E x=some t)(hp:zH2 E x=true)(ht:∀xs,t≠.tup xs)
  (hne:∀s,x=.tmp s→s≠d)(hok:T.okB [(d,0)] (uE x t)=true):xV P Γ o E (E.app [(d,some (uE x t))] [(d,0)]):=by
 refine xV.value hdst fun a w G hrep=>?_
 obtain⟨f,hf,h1,h2⟩:=opd hrep hx ht;obtain⟨h3,h4⟩:=h1 d hne hok;obtain⟨ad,h5⟩:=zPB hrep hp;refine⟨a.eval x,w,?_,_,wR hrep rfl hd f hf _ _ h3 h4 h2⟩;simp[execOp,ho,h5]
theorem zJx{G:Gh}{s:Nat}:(xs:List T)→ ∀(p:List Nat)(j i:Nat)(x:T),xs[i]? =some x→(sW G s xs p j)[i]? =some (uY G s x ((j+i)::p))
 | [],_,_,_,_,h=>by simp at h
 |y::ys,p,j,i,x,h=>by
  cases i with
  |zero=>simp at h;subst h;simp[sW]
  |succ i=>
   have:=zJx (G:=G) (s:=s) ys p (j+1) i x (by simpa using h);rw[show j+(i+1)=j+1+i from by omega];simpa[sW]using this
theorem zLy(s i:Nat)(ts:List T)(t:T)(ho:o.op=.extract (.tmp s) i)(hdst:o.dst=some d)(hd:d<Γ.N)(hs:E s=some (.tup ts))(hi:ts[i]? =some t)(ht:∀xs,t≠.tup xs)
  (hne:s≠d)(hok:T.okB [(d,0)] (cpT s t [i])=true):xV P Γ o E (E.app [(d,some (cpT s t [i]))] [(d,0)]):=by
 refine xV.value hdst fun a w G hrep=>?_
 obtain⟨h1,h2,_⟩:=hrep.ent s _ hs;simp only[R]at h2;have h3:=zAw ts [] 0 i t h2 hi;simp only[Jd]at h3;have h4:=zJx (G:=G) (s:=s) ts [] 0 i t hi;simp only[Jd]at h4;have hk:=G.put_keep (w:=w) (w':=w) rfl d (fun z=>G.hd s (z++[i]));have hz:∀z,(G.put d (fun z=>G.hd s (z++[i]))).hd d (z++[])=G.hd s (z++[i]):=fun z=>by rw[Gh.put_self,J9]
 refine⟨uY G s t [i],w,?_,_,wR hrep rfl hd (fun z=>G.hd s (z++[i])) (fun z=>hrep.mem.one _ _) _ _ (kP t [i] [] ht hz).symm
  (zCV (fun p=>G.put_other _ p hne) t [i] [] hz ht (hk.keepR (jZ _ (sH s t [i]) hok)) h3) (sH s t [i])⟩
 simp[execOp,ho,xT h1,mkV,Instr.extract,h4]
def zBc(E:Env)(x:Option Operand)(dflt n:Nat):Prop:=
 match x with
 |none=>n=dflt
 |some y=> ∃kd,opT E y=some (.lit (.int kd n))
theorem zFJ{St:Stb}:(xs:List T)→ ∀(cs:Array Value)(o k l:Nat),RoL St xs cs o k→RoL St (xs.drop l) cs (o+l*k) k
 | [],_,_,_,_,_=>by simp[RoL]
 |x::xs,cs,o,k,l,h=>by
  cases l with
  |zero=>simpa using h
  |succ l=>
   simp only[RoL]at h;have:=zFJ xs cs (o+k) k l h.2
   rwa [List.drop_succ_cons,show o+(l+1)*k=o+k+l*k from by rw[Kf];omega]
theorem zFK{St:Stb}:(xs:List T)→ ∀(cs:Array Value)(o k l:Nat),RoL St xs cs o k→RoL St (xs.take l) cs o k
 | [],_,_,_,_,_=>by simp[RoL]
 |x::xs,cs,o,k,l,h=>by
  cases l with
  |zero=>simp[RoL]
  |succ l=>simp only[RoL,Kd]at h ⊢;exact⟨h.1,zFK xs cs _ k l h.2⟩
theorem zCr{P:Program}{G:Gh}{a:Act}{w:World}(hrep:Rep Γ E G a.tmps w){x:Operand}{kd:IntKind}{n y:Nat}{c:BoundsCode}(hx:opT E x=some (.lit (.int kd n)))(h:n≤y):
  (Instr.sliceBound (a.eval x) y c).run P w=.ok n w:=by
 rw[(xX hrep hx).1];have:(n:Int)≤(y:Int):=by omega
 simp[Instr.sliceBound,asIntOf,this]
theorem zFL{P:Program}{G:Gh}{a:Act}{w:World}(hrep:Rep Γ E G a.tmps w){lo hi:Option Operand}{l h n c:Nat}(hlo:zBc E lo 0 l)(hhi:zBc E hi n h)(h1:l≤h)(h2:h≤c):
  (Instr.sliceBounds true n c (lo.map a.eval) (hi.map a.eval) none).run P w=.ok (l,h,c) w:=by
 cases lo with
 |none=>
  cases hi with
  |none=>simp only[zBc]at hlo hhi;subst hlo;subst hhi;simp[Instr.sliceBounds]
  |some y=>simp only[zBc]at hlo hhi;obtain⟨kd,hy⟩:=hhi;subst hlo;simp[Instr.sliceBounds,zCr hrep hy h2]
 |some x=>
  obtain⟨kd,hx⟩:=hlo;cases hi with
  |none=>simp only[zBc]at hhi;subst hhi;simp[Instr.sliceBounds,zCr hrep hx h1]
  |some y=>obtain⟨kd',hy⟩:=hhi;simp[Instr.sliceBounds,zCr hrep hy h2,zCr hrep hx h1]
theorem zJy(x:Operand)(lo hi:Option Operand)(t e:TypeId)(ti:TypeInfo)(r:Nat)(q:List Nat)(k:Nat)(xs:List T)(l h:Nat)(ho:o.op=.slice t x lo hi none)(hdst:o.dst=some d)(hd:d<Γ.N)
  (ht:P.underlying t=some (.slice e))(he:P.info? e=some ti)(hk:ti.size=k)(hx:uN E x=some (r,q,.ro (.sl k xs)))(hlo:zBc E lo 0 l)(hhi:zBc E hi xs.length h)(h1:l≤h)(h2:h≤xs.length):
  xV P Γ o E (E.app [(d,some (.ro (.sl k ((xs.drop l).take (h-l)))))] [(d,0)]):=by
 refine xV.value hdst fun a w G hrep=>?_
 obtain⟨g1,g2⟩:=sY hrep hx rfl;obtain⟨a',c,g4,g5,g6,g7⟩:=zCq g1;have g8:=zFL (P:=P) hrep hlo hhi h1 (Kt h2 g5);have hlen:((xs.drop l).take (h-l)).length=h-l:=by simp;omega
 refine⟨.slice (if c=l then a' else a'.map (·.add (l*k))) (h-l) (c-l),w,?_,_,wR hrep rfl hd (fun _=>.slice (if c=l then a' else a'.map (·.add (l*k))) (h-l) (c-l)) (fun _=>rfl) _ _ (by simp[mkV,Gh.put]) ?_ (by simp[Top])⟩
 ·simp only[execOp,ho,Jb3]
  simp[Instr.sliceAt,Instr.slice,run_underlying ht,g2,g4,g8,sizeOf,typeInfo,he,hk]
 ·simp only[R,Gh.put_self,RoC]
  refine⟨_,_,by rw[hlen];rfl,by omega,by omega,?_⟩;intro hne;have hne':xs≠[]:=by rintro rfl;simp at hne
  obtain⟨b,o',cs',e',fr,rfl,h3,h4⟩:=g7 hne';have hcl:c≠l:=by rintro rfl;apply hne;apply Jw;omega
  exact⟨b,o'+l*k,cs',e',fr,by simp[hcl,vN],h3,zFK _ _ _ _ _ (zFJ _ _ _ _ _ h4)⟩
theorem zIz(x:Operand)(lo hi:Option Operand)(t e:TypeId)(ti:TypeInfo)(r:Nat)(q:List Nat)(k:Nat)(xs:List T)(l h:Nat)(ho:o.op=.slice t x lo hi none)(hdst:o.dst=some d)(hd:d<Γ.N)
  (ht:P.underlying t=some (.slice e))(he:P.info? e=some ti)(hk:ti.size=k)(hx:uN E x=some (r,q,.sl k xs))(hlo:zBc E lo 0 l)(hhi:zBc E hi xs.length h)(h1:l≤h)(h2:h≤xs.length)(hrd:r≠d):
  xV P Γ o E (E.app [(d,some (.sub r q k l h))] [(d,0)]):=by
 refine xV.value hdst fun a w G hrep=>?_
 obtain⟨g1,g2⟩:=sY hrep hx rfl;obtain⟨a',c,g4⟩:=zFu g1;have g5:xs.length≤c:=by
  simp only[R]at g1;rcases g1 with⟨rfl,_⟩|⟨b,cap,cs,e,g,_,g',_⟩
  ·simp
  ·rw[g4]at g;simp at g;omega
 have g8:=zFL (P:=P) hrep hlo hhi h1 (Kt h2 g5);refine⟨kN (G.hd r q) k l h,w,?_,_,wR hrep rfl hd (fun _=>kN (G.hd r q) k l h) (fun _=>by rw[g4];rfl) _ _ (by simp[mkV,Gh.put]) ?_ (by simp[Top])⟩
 ·simp only[execOp,ho,Jb3]
  simp[Instr.sliceAt,Instr.slice,run_underlying ht,g2,g4,g8,sizeOf,typeInfo,he,hk,kN]
 ·simp only[R,Gh.put_self]
  rw[Gh.put_other _ _ _ hrd]
end
end Go.Ab

namespace Go.Ab
open Go
def T.inT:T→List Nat→Bool
 |_,[]=>true
 |.agg xs,i::f=>match xs[i]? with
  |some x=>x.inT f
  |none=>false
 |.any,_::_|.lit _,_::_|.ro _,_::_|.same _ _,_::_|.addr _ _,_::_|.sub _ _ _ _ _,_::_|.sl _ _,_::_|.ptr _,_::_|.tup _,_::_=>false
termination_by structural _ f=>f
def T.offT:T→List Nat→Nat
 |_,[]=>0
 |.agg xs,i::f=>match xs[i]? with
  |some x=>T.sizes (xs.take i)+x.offT f
  |none=>0
 |.any,_::_|.lit _,_::_|.ro _,_::_|.same _ _,_::_|.addr _ _,_::_|.sub _ _ _ _ _,_::_|.sl _ _,_::_|.ptr _,_::_|.tup _,_::_=>0
termination_by structural _ f=>f
theorem zFM{t:T}(h:t.single=true){f:List Nat}(hf:f≠[]):t.inT f=false:=by
 cases f with
 |nil=>exact absurd rfl hf
 |cons i f=>cases t<;>simp[T.single]at h<;>rfl
mutual
def zMU:T→List Nat→Nat→Option (List Nat)
 |.agg xs,p,o=>zB2 xs p 0 o
 |.any,p,o|.lit _,p,o|.ro _,p,o|.same _ _,p,o|.addr _ _,p,o|.sub _ _ _ _ _,p,o|.sl _ _,p,o|.ptr _,p,o|.tup _,p,o=>if o=0 then some p else none
def zB2:List T→List Nat→Nat→Nat→Option (List Nat)
 | [],_,_,_=>none
 |x::xs,p,j,o=>if o<x.size then zMU x (j::p) o else zB2 xs p (j+1) (o-x.size)
end
mutual
def T.okTup:T→Bool
 |.tup _=>false
 |.agg xs=>yN xs
 |.any|.lit _|.ro _|.same _ _|.addr _ _|.sub _ _ _ _ _|.sl _ _|.ptr _=>true
def yN:List T→Bool
 | []=>true
 |x::xs=>x.okTup&&yN xs
end
theorem zCY:(xs:List T)→ ∀(p:List Nat)(j o:Nat),T.sizes xs≤o→zB2 xs p j o=none
 | [],_,_,_,_=>by simp only[zB2]
 |x::xs,p,j,o,h=>by simp only[T.sizes]at h;simp only[zB2];rw[if_neg (by omega)];exact zCY xs p (j+1) _ (by omega)
section
variable {G:Gh}{w:World}{d:Nat}
mutual
theorem zVy:(x:T)→ ∀(p:List Nat)(B o:Nat),(∀xs,x≠.tup xs)→x.okTup=true→
  (∀f,x.inT f=true→G.ad d (f.reverse++p)=⟨B,o+x.offT f,none⟩)→(∀j p',j<x.size→zMU x p j=some p'→G.lb B (o+j)=some (false,d,p'))→
  (∀j v,(vals G d x p)[j]? =some v→yG w B (o+j)=some v)→Loc G w d x p B o
 |.agg xs,p,B,o,_,hn,ha,hl,hc=>by
  simp only[Loc];refine⟨by simpa[T.offT]using ha [] rfl,zFw xs p 0 B o (by simpa only[T.okTup]using hn) (fun i x hx f hf=>?_) (fun j p' hj hp=>?_) (fun j v hv=>hc j v (by simpa only[vals]using hv))⟩
  ·have:=ha (i::f) (by simp only[T.inT,hx];exact hf)
   simp only[T.offT,hx,H7,Jc,Kh,Jp]at this;simpa[Lv]using this
  ·exact hl j p' (by simpa only[T.size]using hj) (by simpa only[zMU]using hp)
 |.any,p,B,o,_,_,ha,hl,hc|.lit _,p,B,o,_,_,ha,hl,hc|.ro _,p,B,o,_,_,ha,hl,hc|.same _ _,p,B,o,_,_,ha,hl,hc|.addr _ _,p,B,o,_,_,ha,hl,hc|.sub _ _ _ _ _,p,B,o,_,_,ha,hl,hc|.sl _ _,p,B,o,_,_,ha,hl,hc|.ptr _,p,B,o,_,_,ha,hl,hc=>by simp only[Loc];exact⟨by simpa[T.offT]using ha [] rfl,by simpa using hl 0 p (by simp[T.size]) (by simp[zMU]),by simpa using hc 0 (G.hd d p) (by simp[vals])⟩
 |.tup xs,_,_,_,h,_,_,_,_=>absurd rfl (h xs)
theorem zFw:(xs:List T)→ ∀(p:List Nat)(j B o:Nat),yN xs=true→
  (∀i x,xs[i]? =some x→ ∀f,x.inT f=true→G.ad d (f.reverse++((j+i)::p))=⟨B,o+(T.sizes (xs.take i)+x.offT f),none⟩)→
  (∀i p',i<T.sizes xs→zB2 xs p j i=some p'→G.lb B (o+i)=some (false,d,p'))→
  (∀i v,(zY G d xs p j)[i]? =some v→yG w B (o+i)=some v)→wS G w d xs p j B o
 | [],_,_,_,_,_,_,_,_=>by simp only[wS]
 |x::xs,p,j,B,o,hn,ha,hl,hc=>by
  simp only[yN,J4]at hn;have hnt:∀ys,x≠.tup ys:=by rintro ys rfl;simp[T.okTup]at hn
  simp only[wS];refine⟨zVy x (j::p) B o hnt hn.1 (fun f hf=>by simpa[T.sizes]using ha 0 x (by simp) f hf) (fun i p' hi hp=>hl i p' (by simp only[T.sizes];omega) (by simp only[zB2,hi,if_true];exact hp)) (fun i v hv=>hc i v ?_),
   zFw xs p (j+1) B (o+x.size) hn.2 (fun i y hy f hf=>?_) (fun i p' hi hp=>?_) (fun i v hv=>?_)⟩
  ·simp only[zY]
   rw[Jo (Ja.1 hv).1];exact hv
  ·have:=ha (i+1) y (by simpa using hy) f hf
   simp only[Kd,T.sizes]at this;rw[show j+1+i=j+(i+1)from by omega,this]
   congr 1
   omega
  ·have:=hl (x.size+i) p' (by simp only[T.sizes];omega) (by simp only[zB2];rw[if_neg (by omega),show x.size+i-x.size=i from by omega];exact hp)
   rwa [←Lv]at this
  ·have:=hc (x.size+i) v (by
    simp only[zY];rw[J8 (by rw[wD x _ hnt];omega),wD x _ hnt,show x.size+i-x.size=i from by omega];exact hv)
   rwa [←Lv]at this
end
end
structure MvC (G:Gh) (w:World) (G':Gh) (w':World) (s:Nat) (p:List Nat) (s':Nat) (p':List Nat) (t:T):Prop where
 hd:∀z,G'.hd s' (z++p')=G.hd s (z++p)
 ad:∀z,t.inT z.reverse=false→G'.ad s' (z++p')=G.ad s (z++p)
 lb:∀b o f z,(f=true∨t.inT z.reverse=false)→G.lb b o=some (f,s,z++p)→G'.lb b o=some (f,s',z++p')∧yG w' b o=yG w b o
 ow:∀b z,G.ow b=some (s,z++p)→G'.ow b=some (s',z++p')
 blk:Blk w w'
section
variable {St:Stb}{G:Gh}{w:World}{G':Gh}{w':World}{s:Nat}{s':Nat}
theorem MvC.moves{p p':List Nat}{t:T}(h:MvC G w G' w' s p s' p' t)(ht:t.single=true):zHy G w G' w' s p s' p' where
 hd:=h.hd
 ad z hz:=h.ad z (zFM ht (by simpa using hz))
 lb b o f z hz _ hl:=h.lb b o f z (.inr (zFM ht (by simpa using hz))) hl
 ow b z _ hl:=h.ow b z hl
 blk:=h.blk
 sp b o _ hl:=by simpa using h.lb b o true [] (.inl rfl) (by simpa using hl)
 ow0 b hl:=by simpa using h.ow b [] (by simpa using hl)
theorem MvC.field{p p':List Nat}{xs:List T}(h:MvC G w G' w' s p s' p' (.agg xs)){j:Nat}{x:T}(hx:xs[j]? =some x):MvC G w G' w' s (j::p) s' (j::p') x where
 hd z:=by have:=h.hd (z++[j]);simpa using this
 ad z hz:=by have:=h.ad (z++[j]) (by simp[T.inT,hx,hz]);simpa using this
 lb b o f z hf hl:=by have:=h.lb b o f (z++[j]) (hf.imp id fun hz=>by simp[T.inT,hx,hz]) (by simpa using hl);simpa using this
 ow b z hl:=by have:=h.ow b (z++[j]) (by simpa using hl);simpa using this
 blk:=h.blk
mutual
theorem zJz:(t:T)→ ∀(p p':List Nat),t.okTup=true→MvC G w G' w' s p s' p' t→yP (jX G G') t→R St G w s t p→R St G' w' s' t p'
 |.agg xs,p,p',hn,h,hk,hr=>by
  simp only[R,yP,T.okTup]at hr hk hn ⊢
  exact zPC xs p p' 0 hn (fun j x hx=>by rw[Jd];exact h.field hx) hk hr
 |.any,p,p',_,h,hk,hr|.lit _,p,p',_,h,hk,hr|.ro _,p,p',_,h,hk,hr|.same _ _,p,p',_,h,hk,hr|.addr _ _,p,p',_,h,hk,hr|.sub _ _ _ _ _,p,p',_,h,hk,hr|.sl _ _,p,p',_,h,hk,hr|.ptr _,p,p',_,h,hk,hr=>
  zAh (h.moves rfl) _ hk hr
 |.tup _,_,_,hn,_,_,_=>by simp[T.okTup]at hn
theorem zPC:(xs:List T)→ ∀(p p':List Nat)(j:Nat),yN xs=true→(∀i x,xs[i]? =some x→MvC G w G' w' s ((j+i)::p) s' ((j+i)::p') x)→xI (jX G G') xs→RF St G w s xs p j→RF St G' w' s' xs p' j
 | [],_,_,_,_,_,_,_=>by simp only[RF]
 |x::xs,p,p',j,hn,h,hk,hr=>by
  simp only[RF,xI,yN,J4]at hr hk hn ⊢
  exact⟨zJz x (j::p) (j::p') hn.1 (by simpa using h 0 x (by simp)) hk.1 hr.1,zPC xs p p' (j+1) hn.2 (fun i y hy=>by
   have:=h (i+1) y (by simpa using hy)
   rwa [show j+1+i=j+(i+1)from by omega]) hk.2 hr.2⟩
end
end
theorem zMV{St:Stb}{G:Gh}{w:World}{s:Nat}:(xs:List T)→ ∀(p:List Nat)(j:Nat),(∀i x,xs[i]? =some x→R St G w s x ((j+i)::p))→RF St G w s xs p j
 | [],_,_,_=>by simp only[RF]
 |x::xs,p,j,h=>by
  simp only[RF];exact⟨by simpa using h 0 x (by simp),zMV xs p (j+1) (fun i y hy=>by
   have:=h (i+1) y (by simpa using hy)
   rwa [show j+1+i=j+(i+1)from by omega])⟩
theorem zPD{St:Stb}{G:Gh}{w:World}{s:Nat}{k:Nat}:(xs:List T)→ ∀(p:List Nat)(j b o:Nat),(∀x∈xs,x.size=k)→wS G w s xs p j b o→RF St G w s xs p j→RL St G w s xs p j b o k
 | [],_,_,_,_,_,_,_=>by simp only[RL]
 |x::xs,p,j,b,o,hk,hl,hr=>by
  simp only[RL,wS,RF]at hl hr ⊢
  have h1:=hk x (by simp);exact⟨⟨hl.1,h1⟩,hr.1,zPD xs p (j+1) b (o+k) (fun y hy=>hk y (by simp[hy])) (by rw[←h1];exact hl.2) hr.2⟩
theorem wE{k:Nat}:(xs:List T)→(∀x∈xs,x.size=k)→T.sizes xs=xs.length*k
 | [],_=>by simp[T.sizes]
 |x::xs,h=>by simp[T.sizes,wE xs (fun y hy=>h y (by simp[hy])),h x (by simp),Kf];omega
def Gh.nb(G:Gh)(d B:Nat)(xs:List T)(src:Nat→Option (Nat×List Nat))(φ:Nat→List Nat→Option (List Nat))(f:Nat→List Nat→Value)(hdr:Value):Gh where
 hd s z:=if s=d then(match z.getLast? with
  |some i=>f i z.dropLast
  |none=>hdr)else G.hd s z
 ad s z:=if s=d then(if(T.agg xs).inT z.reverse then⟨B,(T.agg xs).offT z.reverse,none⟩else match z.getLast? with
  |some i=>(match src i with
   |some (x,q)=>G.ad x (z.dropLast++q)
   |none=>default)
  |none=>default)else G.ad s z
 lb b o:=if b=B then some (match zB2 xs [] 0 o with
  |some p=>(false,d,p)
  |none=>(true,d,[]))else match G.lb b o with
  |some (fl,s,z)=>(match φ s z with
   |some z'=>some (fl,d,z')
   |none=>some (fl,s,z))
  |none=>none
 ow b:=if b=B then some (d,[])else match G.ow b with
  |some (s,z)=>(match φ s z with
   |some z'=>some (d,z')
   |none=>some (s,z))
  |none=>none
theorem zCs{Γ:Ctx}{G:Gh}{w w':World}(hm:Mem Γ G w){cells:Array Value}{e:TypeId}(hw:w'.heap=w.heap.push (.cells cells e))(d:Nat)(xs:List T)
  (src:Nat→Option (Nat×List Nat))(φ:Nat→List Nat→Option (List Nat))(f:Nat→List Nat→Value)(hdr:Value)(chg:Chg)
  (hok:yN xs=true)(hf:∀(i:Nat)(z:List Nat),(f i z).oneCell'=true)(hh:hdr.oneCell'=true)
  (hφ:∀(i:Nat) u x q(z:List Nat),xs[i]? =some u→src i=some (x,q)→φ x (z++q)=some (z++[i]))
  (hsrc:∀(i:Nat) u x q,xs[i]? =some u→src i=some (x,q)→(∀z,f i z=G.hd x (z++q))∧R Γ.St G w x u q∧zV u∧x≠d)
  (hnone:∀(i:Nat) u,xs[i]? =some u→src i=none→ ∀(G2:Gh)(w2:World),(∀z,G2.hd d (z++[i])=f i z)→R Γ.St G2 w2 d u [i])
  (hcells:∀(G2:Gh),(∀i z,G2.hd d (z++[i])=f i z)→ ∀(o:Nat)(v:Value),(zY G2 d xs [] 0)[o]? =some v→cells[o]? =some v)
  (hchg:∀s p,(∀n,(s,n)∉(d,0)::chg)→φ s p=none)(ho:w'.os=w.os:=by rfl)(hq:w'.output=w.output:=by rfl):
  sX ((d,0)::chg) G w (G.nb d w.heap.size xs src φ f hdr) w'∧Mem Γ (G.nb d w.heap.size xs src φ f hdr) w'∧
  wS (G.nb d w.heap.size xs src φ f hdr) w' d xs [] 0 w.heap.size 0∧RF Γ.St (G.nb d w.heap.size xs src φ f hdr) w' d xs [] 0∧
  w'.heap[w.heap.size]? =some (.cells cells e):=by
 have hnew:w'.heap[w.heap.size]? =some (.cells cells e):=by rw[hw];simp
 have hold:∀b,b<w.heap.size→w'.heap[b]? =w.heap[b]?:=fun b hb=>by rw[hw,Array.getElem?_push];rw[if_neg (by omega)]
 have hsz:w'.heap.size=w.heap.size+1:=by rw[hw];simp
 have hcell:∀b o,b<w.heap.size→yG w' b o=yG w b o:=fun b o hb=>by simp[yG,World.cell?,hold b hb]
 have hblk:Blk w w':=fun b cs e' h=>⟨cs,by rw[hold b (Kg.1 h).1];exact h,rfl⟩
 have hone:=hm.one
 generalize hG':G.nb d w.heap.size xs src φ f hdr=G'
 have ghd:∀i z,G'.hd d (z++[i])=f i z:=fun i z=>by rw[←hG'];simp[Gh.nb]
 have gad:∀g,(T.agg xs).inT g=true→G'.ad d g.reverse=⟨w.heap.size,(T.agg xs).offT g,none⟩:=fun g hg=>by rw[←hG'];simp[Gh.nb,hg]
 have gadm:∀i x q z,src i=some (x,q)→(T.agg xs).inT (i::z.reverse)=false→G'.ad d (z++[i])=G.ad x (z++q):=fun i x q z hs hin=>by rw[←hG'];simp[Gh.nb,hin,hs]
 have glb:∀o p,zB2 xs [] 0 o=some p→G'.lb w.heap.size o=some (false,d,p):=fun o p h=>by rw[←hG'];simp[Gh.nb,h]
 have glbm:∀b o fl x z z',G.lb b o=some (fl,x,z)→φ x z=some z'→G'.lb b o=some (fl,d,z'):=fun b o fl x z z' h1 h2=>by have:=(hm.lb b o _ h1).1;rw[←hG'];simp[Gh.nb,h1,h2,show b≠w.heap.size from by omega]
 have gowm:∀b x z z',G.ow b=some (x,z)→φ x z=some z'→G'.ow b=some (d,z'):=fun b x z z' h1 h2=>by have:=(hm.ow b _ h1).1;rw[←hG'];simp[Gh.nb,h1,h2,show b≠w.heap.size from by omega]
 have hne:∀s p,Off ((d,0)::chg) s p→s≠d:=fun s p h e=>absurd (h 0 (by simp[e])) (by simp)
 have hkeep:sX ((d,0)::chg) G w G' w':=by
  refine⟨fun s p h=>?_,fun s p h=>?_,fun b o fl s p _ hl h=>⟨?_,hcell b o (hm.lb b o _ hl).1⟩,fun b s p hl h=>?_,hblk⟩
  ·rw[←hG'];simp[Gh.nb,hne s p h]
  ·rw[←hG'];simp[Gh.nb,hne s p h]
  ·have:=(hm.lb b o _ hl).1
   rw[←hG'];simp[Gh.nb,hl,hchg s p h,show b≠w.heap.size from by omega]
  ·have:=(hm.ow b _ hl).1
   rw[←hG'];simp[Gh.nb,hl,hchg s p h,show b≠w.heap.size from by omega]
 refine⟨hkeep,?_,?_,?_,hnew⟩
 ·
  have hB:zBA Γ w' w.heap.size:=⟨by omega,.inl hm.sz,by
   cases hst:Γ.St w.heap.size with
   |none=>rfl
   |some x=>have:=hm.st _ x hst;simp at this⟩
  have hup:∀b,zBA Γ w b→zBA Γ w' b:=fun b h=>⟨by have:=h.1;omega,h.2⟩
  refine⟨fun s p=>?_,fun b o l hl=>?_,fun b l hl=>?_,fun b x hx=>?_,fun b h1 h2=>?_,by have:=hm.sz;omega,hm.bk.trans hblk ho hq⟩
  ·rw[←hG']
   simp only[Gh.nb];split
   ·split
    ·exact hf _ _
    ·exact hh
   ·exact hone s p
  ·rw[←hG']at hl
   simp only[Gh.nb]at hl;split at hl
   ·rename_i hb;subst hb;exact hB
   ·split at hl
    ·rename_i hg;exact hup b (hm.lb b o _ hg)
    ·cases hl
  ·rw[←hG']at hl
   simp only[Gh.nb]at hl;split at hl
   ·rename_i hb;subst hb;exact hB
   ·split at hl
    ·rename_i hg;exact hup b (hm.ow b _ hg)
    ·cases hl
  ·have:=hm.st b x hx
   rw[hold b (Kg.1 this).1];exact this
  ·rw[hold b (Jaq h1 hm.sz)]
   exact hm.fr b h1 h2
 ·
  refine zFw xs [] 0 w.heap.size 0 hok (fun i x hx g hg=>?_) (fun i p' _ hp=>by simpa using glb i p' hp) (fun i v hv=>?_)
  ·have:=gad (i::g) (by simp only[T.inT,hx];exact hg)
   simpa[T.offT,hx]using this
  ·have:=hcells G' ghd i v hv
   rw[Jd];simp[yG,World.cell?,hnew,this]
 ·
  refine zMV xs [] 0 (fun i u hu=>?_);rw[Jd];cases hs:src i with
  |none=>exact hnone i u hu hs G' w' (fun z=>ghd i z)
  |some xq=>
   obtain⟨x,q⟩:=xq;obtain⟨h1,h2,h3,h4⟩:=hsrc i u x q hu hs;have hin:∀g,(T.agg xs).inT (i::g)=u.inT g:=fun g=>by simp only[T.inT,hu]
   refine zJz u q [i] (okTups_get xs hok i u hu) ⟨fun z=>by rw[ghd,h1],fun z hz=>gadm i x q z hs (by rw[hin];exact hz),fun b o fl z hz hl=>⟨glbm b o fl x _ _ hl (hφ i u x q z hu hs),hcell b o (hm.lb b o _ hl).1⟩,
    fun b z hl=>gowm b x _ _ hl (hφ i u x q z hu hs),hblk⟩ (yP.mono (fun _ _=>False.elim) u h3) h2
where okTups_get:(xs:List T)→yN xs=true→ ∀(i:Nat)(x:T),xs[i]? =some x→x.okTup=true
 | [],_,_,_,h=>by simp at h
 |y::ys,hk,i,x,h=>by
  simp only[yN,J4]at hk;cases i with
  |zero=>simp at h;subst h;exact hk.1
  |succ i=>exact okTups_get ys hk.2 i x (by simpa using h)
end Go.Ab

namespace Go.Ab
open Go
inductive yJ where
 |slot (s:Nat) (t:T)
 |zero (u:T)
def yJ.tree:yJ→T
 |.slot _ t=>t
 |.zero u=>u
def tK:T→Bool
 |.lit _|.ro _=>false
 |_=>true
mutual
def T.zOk:T→Bool
 |.lit v=>v.oneCell'
 |.sl _ xs=>xs.isEmpty
 |.agg xs=>kC xs
 |.any|.ro _|.same _ _|.addr _ _|.sub _ _ _ _ _|.ptr _|.tup _=>false
def kC:List T→Bool
 | []=>true
 |x::xs=>x.zOk&&kC xs
end
def zhd:T→List Nat→Value
 |.agg xs,i::f=>match xs[i]? with
  |some x=>zhd x f
  |none=>.bool false
 |.lit v,_=>v
 |.sl _ _,_=>.slice none 0 0
 |.agg _,[] |.any,_|.ro _,_|.same _ _,_|.addr _ _,_|.sub _ _ _ _ _,_|.ptr _,_|.tup _,_=>.bool false
termination_by structural _ f=>f
mutual
def uG:T→List Value
 |.lit v=>[v]
 |.sl _ _=>[.slice none 0 0]
 |.agg xs=>uZ xs
 |.any|.ro _|.same _ _|.addr _ _|.sub _ _ _ _ _|.ptr _|.tup _=>[]
def uZ:List T→List Value
 | []=>[]
 |x::xs=>uG x++uZ xs
end
section
variable {St:Stb}{G:Gh}{w:World}{d:Nat}
mutual
theorem zI0:(u:T)→ ∀(p:List Nat),u.zOk=true→(∀z,G.hd d (z++p)=jE (zhd u z.reverse))→R St G w d u p
 |.lit v,p,h,hd=>by
  simp only[T.zOk,R]at h ⊢
  have:=hd [];rw[Jp]at this;rw[this];exact zAm h
 |.sl k xs,p,h,hd=>by simp only[T.zOk,Jb1]at h;subst h;have:=hd [];rw[Jp]at this;simp only[R];exact .inl ⟨trivial,none,by rw[this];rfl⟩
 |.agg xs,p,h,hd=>by
  simp only[T.zOk,R]at h ⊢
  exact zMW xs p 0 h (fun i x hx z=>by rw[Jd];have:=hd (z++[i]);simp only[Jc,Kh,Jp,Hk,H7,Lz,zhd,hx]at this;exact this)
 |.any,_,h,_|.ro _,_,h,_|.same _ _,_,h,_|.addr _ _,_,h,_|.sub _ _ _ _ _,_,h,_|.ptr _,_,h,_|.tup _,_,h,_=>by simp[T.zOk]at h
theorem zMW:(xs:List T)→ ∀(p:List Nat)(j:Nat),kC xs=true→(∀i x,xs[i]? =some x→ ∀z,G.hd d (z++((j+i)::p))=jE (zhd x z.reverse))→RF St G w d xs p j
 | [],_,_,_,_=>by simp only[RF]
 |x::xs,p,j,h,hd=>by
  simp only[kC,J4,RF]at h ⊢
  exact⟨zI0 x (j::p) h.1 (by simpa using hd 0 x (by simp)),zMW xs p (j+1) h.2 (fun i y hy z=>by
   have:=hd (i+1) y (by simpa using hy) z
   rwa [show j+1+i=j+(i+1)from by omega])⟩
end
end
section
variable {G:Gh}{d:Nat}
mutual
theorem zEj:(u:T)→ ∀(p:List Nat),u.zOk=true→(∀z,G.hd d (z++p)=jE (zhd u z.reverse))→vals G d u p=uG u
 |.lit v,p,h,hd=>by
  simp only[T.zOk,vals,uG]at h ⊢
  have:=hd [];rw[Jp]at this;rw[this];simp[zhd,zAm h]
 |.sl k xs,p,h,hd=>by have:=hd [];rw[Jp]at this;simp only[vals,uG];rw[this];simp[zhd,jE,Value.oneCell']
 |.agg xs,p,h,hd=>by
  simp only[T.zOk,vals,uG]at h ⊢
  exact zCZ xs p 0 h (fun i x hx z=>by rw[Jd];have:=hd (z++[i]);simp only[Jc,Kh,Jp,Hk,H7,Lz,zhd,hx]at this;exact this)
 |.any,_,h,_|.ro _,_,h,_|.same _ _,_,h,_|.addr _ _,_,h,_|.sub _ _ _ _ _,_,h,_|.ptr _,_,h,_|.tup _,_,h,_=>by simp[T.zOk]at h
theorem zCZ:(xs:List T)→ ∀(p:List Nat)(j:Nat),kC xs=true→(∀i x,xs[i]? =some x→ ∀z,G.hd d (z++((j+i)::p))=jE (zhd x z.reverse))→zY G d xs p j=uZ xs
 | [],_,_,_,_=>by simp only[zY,uZ]
 |x::xs,p,j,h,hd=>by
  simp only[kC,J4,zY,uZ]at h ⊢
  rw[zEj x (j::p) h.1 (by simpa using hd 0 x (by simp)),zCZ xs p (j+1) h.2 (fun i y hy z=>by
   have:=hd (i+1) y (by simpa using hy) z
   rwa [show j+1+i=j+(i+1)from by omega])]
end
end
mutual
theorem zA7:(u:T)→u.zOk=true→zV u∧u.okTup=true
 |.lit _,_=>by simp[zV,yP,T.okTup]
 |.sl _ xs,h=>by simp only[T.zOk,Jb1]at h;subst h;simp[zV,yP,xI,T.okTup]
 |.agg xs,h=>by simp only[T.zOk]at h;simpa only[zV,yP,T.okTup]using zBd xs h
 |.any,h|.ro _,h|.same _ _,h|.addr _ _,h|.sub _ _ _ _ _,h|.ptr _,h|.tup _,h=>by simp[T.zOk]at h
theorem zBd:(xs:List T)→kC xs=true→xE xs∧yN xs=true
 | [],_=>by simp[xE,xI,yN]
 |x::xs,h=>by simp only[kC,J4]at h;simp only[xE,xI,yN,J4];exact⟨⟨(zA7 x h.1).1,(zBd xs h.2).1⟩,(zA7 x h.1).2,(zBd xs h.2).2⟩
end
mutual
theorem wG:(u:T)→u.zOk=true→(uG u).length=u.size
 |.lit _,_|.sl _ _,_=>by simp[uG,T.size]
 |.agg xs,h=>by simp only[T.zOk]at h;simp only[uG,T.size];exact zAx xs h
 |.any,h|.ro _,h|.same _ _,h|.addr _ _,h|.sub _ _ _ _ _,h|.ptr _,h|.tup _,h=>by simp[T.zOk]at h
theorem zAx:(xs:List T)→kC xs=true→(uZ xs).length=T.sizes xs
 | [],_=>by simp[uZ,T.sizes]
 |x::xs,h=>by simp only[kC,J4]at h;simp only[uZ,J6,T.sizes,wG x h.1,zAx xs h.2]
end
def zFN(ps:List yJ)(i:Nat):Option (Nat×List Nat):=
 match ps[i]? with
 |some (.slot s t)=>if tK t then some (s,[])else none
 |_=>none
def zFO:List yJ→Nat→Nat→Option Nat
 | [],_,_=>none
 |.slot x t::r,i,s=>if tK t&&x==s then some i else zFO r (i+1) s
 |.zero _::r,i,s=>zFO r (i+1) s
def zHd(ps:List yJ)(s:Nat)(z:List Nat):Option (List Nat):=
 match zFO ps 0 s with
 |some i=>some (z++[i])
 |none=>none
def pWr(d:Nat):List yJ→Nat→Wr
 | [],_=>[]
 |.slot s t::r,i=>if tK t then(s,some (cpT d t [i]))::pWr d r (i+1)else pWr d r (i+1)
 |.zero _::r,i=>pWr d r (i+1)
def xG:List yJ→List Nat
 | []=>[]
 |.slot s t::r=>if tK t then s::xG r else xG r
 |.zero _::r=>xG r
def tL(ps:List yJ):Chg:=(xG ps).map fun s=>(s,1)
def tY(G:Gh):yJ→List Value
 |.slot s t=>vals G s t []
 |.zero u=>uG u
def pHd(G:Gh)(ps:List yJ)(i:Nat)(z:List Nat):Value:=
 match ps[i]? with
 |some (.slot s _)=>G.hd s z
 |some (.zero u)=>jE (zhd u z.reverse)
 |none=>.bool false
structure uI (E:Env) (d:Nat) (ps:List yJ):Prop where
 slot:∀s t,yJ.slot s t∈ps→E s=some t∧zV t∧t.okTup=true
 zero:∀u,yJ.zero u∈ps→u.zOk=true
 dist:(d::xG ps).Nodup
theorem zA8:(ps:List yJ)→ ∀(i0 i s:Nat)(t:T),ps[i]? =some (.slot s t)→tK t=true→(xG ps).Nodup→zFO ps i0 s=some (i0+i)
 | [],_,_,_,_,h,_,_=>by simp at h
 |.slot x u::r,i0,i,s,t,h,hm,hn=>by
  cases i with
  |zero=>simp at h;obtain⟨rfl,rfl⟩:=h;simp[zFO,hm]
  |succ i=>
   simp only[Uw]at h;have hin:s∈xG r:=pSlots_mem r i s t h hm;simp only[zFO]
   by_cases hu:tK u=true
   ·simp only[xG,hu,if_true,Ll]at hn
    have:x≠s:=fun e=>hn.1 (e▸hin)
    simp only[hu,Bool.true_and,beq_iff_eq,this,if_false];rw[zA8 r (i0+1) i s t h hm hn.2]
    congr 1;omega
   ·simp only[xG,hu]at hn
    simp only[hu,Bool.false_and,Hz,if_false];rw[zA8 r (i0+1) i s t h hm (by simpa using hn)]
    congr 1;omega
 |.zero u::r,i0,i,s,t,h,hm,hn=>by
  cases i with
  |zero=>simp at h
  |succ i=>
   simp only[Uw]at h;simp only[zFO];rw[zA8 r (i0+1) i s t h hm (by simpa only[xG]using hn)]
   congr 1;omega
where pSlots_mem:(ps:List yJ)→ ∀(i s:Nat)(t:T),ps[i]? =some (.slot s t)→tK t=true→s∈xG ps
 | [],_,_,_,h,_=>by simp at h
 |.slot x u::r,i,s,t,h,hm=>by
  cases i with
  |zero=>simp at h;obtain⟨rfl,rfl⟩:=h;simp[xG,hm]
  |succ i=>
   have:=pSlots_mem r i s t (by simpa using h) hm;simp only[xG];split<;>simp[this]
 |.zero u::r,i,s,t,h,hm=>by
  cases i with
  |zero=>simp at h
  |succ i=>simpa only[xG]using pSlots_mem r i s t (by simpa using h) hm
theorem zCt:(ps:List yJ)→ ∀(i0 s:Nat),s∉xG ps→zFO ps i0 s=none
 | [],_,_,_=>by simp only[zFO]
 |.slot x u::r,i0,s,h=>by
  simp only[zFO]
  by_cases hu:tK u=true
  ·simp only[xG,hu,if_true,Jv,not_or]at h
   simp only[hu,Bool.true_and,beq_iff_eq,Ne.symm h.1,if_false];exact zCt r _ s h.2
  ·simp only[xG,hu]at h
   simp only[hu,Bool.false_and,Hz,if_false];exact zCt r _ s (by simpa using h)
 |.zero u::r,i0,s,h=>by simp only[zFO];exact zCt r _ s (by simpa only[xG]using h)
theorem zBD:(ps:List yJ)→ ∀(d i0 s:Nat)(x:Option T),(pWr d ps i0).find s=some x→ ∃i t,ps[i]? =some (.slot s t)∧tK t=true∧x=some (cpT d t [i0+i])
 | [],_,_,_,_,h=>by simp[pWr,Wr.find]at h
 |.slot y u::r,d,i0,s,x,h=>by
  simp only[pWr]at h;split at h
  ·rename_i hu
   simp only[Wr.find]at h;split at h
   ·rename_i he;subst he;simp at h;exact⟨0,u,by simp,hu,by simpa using h.symm⟩
   ·obtain⟨i,t,h1,h2,h3⟩:=zBD r d (i0+1) s x h
    exact⟨i+1,t,by simpa using h1,h2,by rw[h3];congr 3;omega⟩
  ·obtain⟨i,t,h1,h2,h3⟩:=zBD r d (i0+1) s x h
   exact⟨i+1,t,by simpa using h1,h2,by rw[h3];congr 3;omega⟩
 |.zero u::r,d,i0,s,x,h=>by simp only[pWr]at h;obtain⟨i,t,h1,h2,h3⟩:=zBD r d (i0+1) s x h;exact⟨i+1,t,by simpa using h1,h2,by rw[h3];congr 3;omega⟩
theorem zBE:(ps:List yJ)→ ∀(d i0 s:Nat),(pWr d ps i0).find s=none→s∉xG ps
 | [],_,_,_,_=>by simp[xG]
 |.slot y u::r,d,i0,s,h=>by
  simp only[pWr]at h;simp only[xG];split at h
  ·rename_i hu
   simp only[Wr.find]at h;split at h
   ·cases h
   ·rename_i hne
    simp only[hu,if_true,Jv,not_or];exact⟨fun e=>hne e.symm,zBE r d _ s h⟩
  ·rename_i hu
   simp only[hu];simpa using zBE r d _ s h
 |.zero u::r,d,i0,s,h=>by simp only[pWr]at h;simpa only[xG]using zBE r d _ s h
section
variable {Γ:Ctx}{E:Env}{G:Gh}{tmps:Array Value}{w:World}{d:Nat}{ps:List yJ}
theorem zEU(hrep:Rep Γ E G tmps w)(h:uI E d ps):
  yN (ps.map yJ.tree)=true∧xE (ps.map yJ.tree)∧(∀i z,(pHd G ps i z).oneCell'=true)∧
  (∀(i:Nat) u x q(z:List Nat),(ps.map yJ.tree)[i]? =some u→zFN ps i=some (x,q)→zHd ps x (z++q)=some (z++[i]))∧
  (∀(i:Nat) u x q,(ps.map yJ.tree)[i]? =some u→zFN ps i=some (x,q)→(∀z,pHd G ps i z=G.hd x (z++q))∧R Γ.St G w x u q∧zV u∧x≠d)∧
  (∀(i:Nat) u,(ps.map yJ.tree)[i]? =some u→zFN ps i=none→ ∀(G2:Gh)(w2:World),(∀z,G2.hd d (z++[i])=pHd G ps i z)→R Γ.St G2 w2 d u [i])∧
  (∀s p,(∀n,(s,n)∉(d,0)::tL ps)→zHd ps s p=none):=by
 have hdn:=Ll.1 h.dist;refine⟨?_,?_,?_,?_,?_,?_,?_⟩
 ·have:∀qs:List yJ,(∀p∈qs,p∈ps)→yN (qs.map yJ.tree)=true:=by
   intro qs
   induction qs with
   |nil=>intro _;rfl
   |cons q qs ih=>
    intro hq;simp only[Jk,yN,J4];refine⟨?_,ih fun p hp=>hq p (by simp[hp])⟩;cases q with
    |slot s t=>exact(h.slot s t (hq _ (by simp))).2.2
    |zero u=>exact(zA7 u (h.zero u (hq _ (by simp)))).2
  exact this ps fun _ hp=>hp
 ·have:∀qs:List yJ,(∀p∈qs,p∈ps)→xE (qs.map yJ.tree):=by
   intro qs
   induction qs with
   |nil=>intro _;trivial
   |cons q qs ih=>
    intro hq;simp only[Jk,xE,xI];refine⟨?_,ih fun p hp=>hq p (by simp[hp])⟩;cases q with
    |slot s t=>exact(h.slot s t (hq _ (by simp))).2.1
    |zero u=>exact(zA7 u (h.zero u (hq _ (by simp)))).1
  exact this ps fun _ hp=>hp
 ·intro i z
  unfold pHd;split
  ·exact hrep.mem.one _ _
  ·exact zA6 _
  ·rfl
 ·intro i u x q z hu hs
  rw[Ju]at hu;unfold zFN at hs;cases hp:ps[i]? with
  |none=>simp[hp]at hu
  |some p=>
   cases p with
   |zero v=>simp[hp]at hs
   |slot s t=>
    simp only[hp]at hs;split at hs
    ·rename_i hm
     simp at hs;obtain⟨rfl,rfl⟩:=hs;simp[zHd,zA8 ps 0 i s t hp hm hdn.2]
    ·cases hs
 ·intro i u x q hu hs
  rw[Ju]at hu;unfold zFN at hs;cases hp:ps[i]? with
  |none=>simp[hp]at hu
  |some p=>
   cases p with
   |zero v=>simp[hp]at hs
   |slot s t=>
    simp only[hp]at hs;split at hs
    ·rename_i hm
     simp at hs;obtain⟨rfl,rfl⟩:=hs;simp[hp,yJ.tree]at hu;subst hu;obtain⟨h1,h2,h3⟩:=h.slot s t (Kc hp);refine⟨fun z=>by simp[pHd,hp],(hrep.ent s t h1).2.1,h2,fun e=>hdn.1 ?_⟩;subst e;exact zA8.pSlots_mem ps i s t hp hm
    ·cases hs
 ·intro i u hu hs G2 w2 hG2
  rw[Ju]at hu;unfold zFN at hs;cases hp:ps[i]? with
  |none=>simp[hp]at hu
  |some p=>
   cases p with
   |zero v=>
    simp[hp,yJ.tree]at hu;subst hu;exact zI0 v [i] (h.zero v (Kc hp)) (fun z=>by rw[hG2 z];simp[pHd,hp])
   |slot s t=>
    simp only[hp]at hs;split at hs
    ·cases hs
    ·rename_i hm
     simp[hp,yJ.tree]at hu;subst hu;have h1:=(hrep.ent s t (h.slot s t (Kc hp)).1).2.1;have h2:G2.hd d [i]=G.hd s []:=by have:=hG2 [];simpa[pHd,hp]using this
     cases t<;>simp[tK]at hm<;>simp only[R]at h1 ⊢ <;>rw[h2]<;>exact h1
 ·intro s p hoff
  have:s∉xG ps:=fun hin=>hoff 1 (by simp[tL,hin])
  simp[zHd,zCt ps 0 s this]
theorem zDa(hrep:Rep Γ E G tmps w)(h:uI E d ps)(G2:Gh):∀(qs:List yJ)(i0:Nat),(∀i q,qs[i]? =some q→ps[i0+i]? =some q)→(∀i z,G2.hd d (z++[i])=pHd G ps i z)→
  zY G2 d (qs.map yJ.tree) [] i0=qs.flatMap (tY G)
 | [],_,_,_=>by simp[zY]
 |q::qs,i0,hq,hG2=>by
  have h0:ps[i0]? =some q:=by simpa using hq 0 q (by simp)
  have ih:=zDa hrep h G2 qs (i0+1) (fun i p hp=>by rw[show i0+1+i=i0+(i+1)from by omega];exact hq (i+1) p (by simpa using hp)) hG2;simp only[Jk,zY,Ls,ih]
  congr 1
  cases q with
  |slot s t=>exact zAk t [] [i0] (fun z=>by rw[hG2];simp[pHd,h0])
  |zero u=>exact zEj u [i0] (h.zero u (Kc h0)) (fun z=>by rw[hG2];simp[pHd,h0])
end
end Go.Ab

namespace Go.Ab
open Go
section
variable {P:Program}{Γ:Ctx}{E:Env}{o:Oper}{d:Nat}
theorem zH3{G G':Gh}{w':World}{s i:Nat}{t:T}{v:Option Value}(hv:v=some (mkV G s t []))(hnt:∀xs,t≠.tup xs)(hs:∀p,G'.hd s p=G.hd s p)(hd':∀z,G'.hd d (z++[i])=G.hd s z)
  (hr:R Γ.St G' w' d t [i]):Ent Γ G' w' v s (cpT d t [i]):=by
 have hz:∀z,G'.hd s (z++[])=G'.hd d (z++[i]):=fun z=>by rw[J9,hs,hd']
 refine⟨?_,?_,sH d t [i]⟩
 ·rw[hv,kP (G:=G') (G':=G') t [i] [] hnt hz,jD G s t [] hnt,zBa t [] [i] (fun z=>by rw[hd',J9])]
 ·exact zCV (G:=G') (G':=G') (fun _=>rfl) t [i] [] hz hnt (yP.triv (fun _ _=>⟨rfl,rfl⟩) _) hr
theorem zA9{G:Gh}{a:Act}{w w':World}{ps:List yJ}(hrep:Rep Γ E G a.tmps w)(h:uI E d ps)(hd:d<Γ.N){cells:Array Value}{e:TypeId}(hw:w'.heap=w.heap.push (.cells cells e))
  (hcells:∀(o:Nat)(v:Value),(ps.flatMap (tY G))[o]? =some v→cells[o]? =some v)
  (rt:T)(hdr:Value)
  (hrt:(∃k cap,rt=.sl k (ps.map yJ.tree)∧(∀p∈ps,p.tree.size=k)∧hdr=.slice (some ⟨w.heap.size,0,none⟩) ps.length cap∧ps.length≤cap∧cap≤maxLen∧cells.size=cap*k)∨
   ∃p,ps=[p]∧rt=.ptr p.tree∧hdr=.pointer (some ⟨w.heap.size,0,none⟩)∧cells.size=p.tree.size)
  (ho:w'.os=w.os:=by rfl)(hq:w'.output=w.output:=by rfl):
  ∃G',Rep Γ (E.app ((d,some rt)::pWr d ps 0) ((d,0)::tL ps)) G' (a.tmps.setIfInBounds d hdr) w':=by
 obtain⟨f1,f0,f2,f3,f4,f5,f6⟩:=zEU hrep h;have hh:hdr.oneCell'=true:=by rcases hrt with⟨k,cap,_,_,rfl,_⟩|⟨p,_,_,rfl,_⟩<;>rfl
 have hdn:=Ll.1 h.dist;obtain⟨g1,g2,g3,g4,g5⟩:=zCs hrep.mem hw d (ps.map yJ.tree) (zFN ps) (zHd ps) (pHd G ps) hdr (tL ps) f1 f2 hh f3 f4 f5
  (fun G2 hG2 o v hv=>hcells o v (by rw[zDa hrep h G2 ps 0 (fun i q hq=>by simpa using hq) hG2]at hv;exact hv)) f6 (ho:=ho) (hq:=hq)
 refine⟨_,wV hrep (by simp) g1 g2 ?_ ?_⟩
 ·intro s hs
  simp only[Wr.find]at hs;split at hs
  ·cases hs
  ·rename_i hne
   have hns:=zBE ps d 0 s hs;refine⟨fun n hn=>?_,by rw[Jb];simp[hne]⟩;simp only[Jv,Un.injEq,tL,Jg]at hn;rcases hn with⟨e1,_⟩|⟨y,hy,e1,_⟩
   ·exact hne e1.symm
   ·exact hns (e1▸hy)
 ·intro s t hs
  simp only[Wr.find]at hs;split at hs
  ·rename_i he
   subst he;simp at hs;subst hs;have hroot:(G.nb d w.heap.size (ps.map yJ.tree) (zFN ps) (zHd ps) (pHd G ps) hdr).hd d []=hdr:=by simp[Gh.nb]
   have how:(G.nb d w.heap.size (ps.map yJ.tree) (zFN ps) (zHd ps) (pHd G ps) hdr).ow w.heap.size=some (d,[]):=by simp[Gh.nb]
   refine⟨?_,?_,?_⟩
   ·rw[Jb]
    rcases hrt with⟨k,cap,rfl,_⟩|⟨p,_,rfl,_⟩<;>simp[hrep.size,hd,mkV,hroot]
   ·rcases hrt with⟨k,cap,rfl,hk,h1,h2,h3,h4⟩|⟨p,rfl,rfl,h1,h4⟩
    ·simp only[R]
     rw[hroot];refine .inr ⟨w.heap.size,cap,cells,e,by simpa using h1,g5,by simpa using h2,h3,by omega,how,?_,zPD _ _ _ _ _ (fun x hx=>?_) g3 g4⟩
     ·intro o ho _
      have hsz:T.sizes (ps.map yJ.tree)=(ps.map yJ.tree).length*k:=wE _ (fun x hx=>by obtain⟨p,hp,rfl⟩:=Jg.1 hx;exact hk p hp)
      simp[Gh.nb,zCY (ps.map yJ.tree) [] 0 o (by omega)]
     ·obtain⟨p,hp,rfl⟩:=Jg.1 hx
      exact hk p hp
    ·simp only[R]
     rw[hroot];simp only[Jk,Lr,wS,RF]at g3 g4;exact⟨w.heap.size,cells,e,h1,g5,h4,how,g3.1,g4.1⟩
   ·rcases hrt with⟨k,cap,rfl,_⟩|⟨p,rfl,rfl,_⟩
    ·simp only[Top];exact f0
    ·simp only[Top];exact f0.1
  ·rename_i hne
   obtain⟨i,u,h1,h2,h3⟩:=zBD ps d 0 s _ hs;simp only[Jd]at h3;simp at h3;subst h3;obtain⟨h4,h5,h6⟩:=h.slot s u (Kc h1);have hnt:∀xs,u≠.tup xs:=by rintro xs rfl;simp[T.okTup]at h6
   have hi:(ps.map yJ.tree)[i]? =some u:=by simp[h1,yJ.tree]
   have hr:=zAw _ [] 0 i u g4 hi;simp only[Jd]at hr;refine zH3 (G:=G) (by rw[Jb];simp only[hne,if_false];exact(hrep.ent s u h4).1) hnt (fun p=>?_) (fun z=>?_) hr
   ·simp[Gh.nb,show s≠d from fun e=>hne e.symm]
   ·simp[Gh.nb,pHd,h1]
inductive jT (E:Env):Operand→yJ→Prop where
 |slot (s:Nat) (t:T):jT E (.tmp s) (.slot s t)
 |zero (v:Value) (u:T) (h:uG u=v.cells.toList):jT E (.const v) (.zero u)
theorem kR{G:Gh}{a:Act}{w:World}{ps:List yJ}(hrep:Rep Γ E G a.tmps w)(h:uI E d ps){x:Operand}{p:yJ}(hp:p∈ps)(hx:jT E x p):
  (a.eval x).cells.toList=tY G p:=by
 cases hx with
 |slot s t=>
  obtain⟨h1,h2,h3⟩:=h.slot s t hp;obtain⟨h4,_,_⟩:=hrep.ent s t h1;rw[xT h4];cases t with
  |agg xs=>simp[mkV,Value.cells,vals,tY]
  |tup xs=>simp[T.okTup]at h3
  |_=>
   have:=hrep.mem.one s [];simp only[mkV,vals,tY]
   generalize G.hd s []=v at this
   cases v<;>simp[Value.oneCell',Value.cells]at this ⊢
 |zero v u h=>simp[Act.eval,h,tY]
def vO(E:Env):List Operand→List yJ→Prop
 | [],[]=>True
 |x::xs,p::ps=>jT E x p∧vO E xs ps
 |_,_=>False
theorem vO.length:(xs:List Operand)→(ps:List yJ)→vO E xs ps→xs.length=ps.length
 | [],[],_=>rfl
 |_::xs,_::ps,h=>by simp[vO.length xs ps h.2]
 | [],_::_,h=>by simp[vO]at h
 |_::_,[],h=>by simp[vO]at h
theorem vO.mem:(xs:List Operand)→(ps:List yJ)→vO E xs ps→ ∀x∈xs,∃p,p∈ps∧jT E x p
 | [],_,_,x,hx=>by simp at hx
 |y::xs,p::ps,h,x,hx=>by
  rcases Jv.1 hx with rfl|hx
  ·exact⟨p,by simp,h.1⟩
  ·obtain⟨q,hq,hxq⟩:=vO.mem xs ps h.2 x hx;exact⟨q,by simp[hq],hxq⟩
 |_::_,[],h,_,_=>by simp[vO]at h
theorem zFP{G:Gh}{a:Act}{w:World}{ps:List yJ}(hrep:Rep Γ E G a.tmps w)(h:uI E d ps):∀(xs:List Operand)(qs:List yJ),(∀q∈qs,q∈ps)→vO E xs qs→
  ((xs.map a.eval).flatMap fun v=>v.cells.toList)=qs.flatMap (tY G)
 | [],[],_,_=>rfl
 |x::xs,q::qs,hq,hx=>by simp only[Jk,Ls,kR hrep h (hq q (by simp)) hx.1,zFP hrep h xs qs (fun p hp=>hq p (by simp[hp])) hx.2]
 | [],_::_,_,hx=>by simp[vO]at hx
 |_::_,[],_,hx=>by simp[vO]at hx
theorem zPE(T':TypeId)(ti:TypeInfo)(z:Value)(u:T)(ho:o.op=.alloc T')(hdst:o.dst=some d)(hd:d<Γ.N)
  (hi:P.info? T'=some ti)(hz:ti.zero=some z)(hu:u.zOk=true)(hv:uG u=z.cells.toList)(hsz:z.cells.size=u.size):
  xV P Γ o E (E.app [(d,some (.ptr u))] [(d,0)]):=by
 refine xV.value hdst fun a w G hrep=>?_
 have hps:uI E d [.zero u]:=⟨fun s t h=>by simp at h,fun v h=>by simp at h;subst h;exact hu,by simp[xG]⟩;obtain⟨G',hG'⟩:=zA9 (w':=w.alloc (.cells z.cells T')) hrep hps hd (cells:=z.cells) (e:=T') rfl (fun o v h=>by simpa[hv,tY]using h) (.ptr u) (.pointer (some ⟨w.heap.size,0,none⟩)) (.inr ⟨.zero u,rfl,rfl,rfl,hsz⟩);refine⟨_,_,?_,G',by simpa[pWr,tL,xG]using hG'⟩;simp[execOp,ho,Instr.alloc,zeroValue,typeInfo,hi,hz,newVar,newRow]
theorem zVz(T':TypeId)(x:Operand)(p:yJ)(ho:o.op=.box T' x)(hdst:o.dst=some d)(hd:d<Γ.N)(hx:jT E x p)(hps:uI E d [p]):
  xV P Γ o E (E.app ((d,some (.ptr p.tree))::pWr d [p] 0) ((d,0)::tL [p])):=by
 refine xV.value hdst fun a w G hrep=>?_
 have hc:=kR hrep hps (by simp) hx;have hsz:(a.eval x).cells.size=p.tree.size:=by
  rw[←Ke,hc];cases p with
  |slot s t=>
   obtain⟨_,_,h3⟩:=hps.slot s t (by simp);show(vals G s t []).length=t.size;exact wD t [] (by rintro xs rfl;simp[T.okTup]at h3)
  |zero u=>exact wG u (hps.zero u (by simp))
 obtain⟨G',hG'⟩:=zA9 (w':=w.alloc (.cells (a.eval x).cells T')) hrep hps hd (cells:=(a.eval x).cells) (e:=T') rfl (fun o v h=>by rw[←K5,hc];simpa using h) (.ptr p.tree) (.pointer (some ⟨w.heap.size,0,none⟩)) (.inr ⟨p,rfl,rfl,rfl,hsz⟩)
 refine⟨_,_,?_,G',hG'⟩;simp[execOp,ho,Instr.box,newVar,newRow]
theorem zHe(t e:TypeId)(ti:TypeInfo)(z:Value)(k n:Nat)(xs:List Operand)(ps:List yJ)(ho:o.op=.buildSlice t n ((xs.zipIdx 0).map fun x=>(x.2,x.1)).toArray)(hdst:o.dst=some d)(hd:d<Γ.N)
  (ht:P.underlying t=some (.slice e))(hi:P.info? e=some ti)(hz:ti.zero=some z)(hk:ti.size=k)(hk0:0<k)(hn:xs.length=n)(hn0:0<n)(hsm:n*k≤2 ^ 24)
  (hx:vO E xs ps)(hps:uI E d ps)(hsz:∀p∈ps,p.tree.size=k):
  xV P Γ o E (E.app ((d,some (.sl k (ps.map yJ.tree)))::pWr d ps 0) ((d,0)::tL ps)):=by
 refine xV.value hdst fun a w G hrep=>?_
 subst hk;have hlen:xs.length=ps.length:=vO.length xs ps hx;have hc:=zFP hrep hps xs ps (fun _ h=>h) hx;have hvs:∀v∈xs.map a.eval,v.cells.size=ti.size:=by
  intro v hv;obtain⟨x,hxm,rfl⟩:=Jg.1 hv;obtain⟨p,hp,hxp⟩:=vO.mem xs ps hx x hxm;rw[←Ke,kR hrep hps hp hxp,←hsz p hp];cases p with
  |slot s t=>
   obtain⟨_,_,h3⟩:=hps.slot s t hp;show(vals G s t []).length=t.size;exact wD t [] (by rintro xs rfl;simp[T.okTup]at h3)
  |zero u=>exact wG u (hps.zero u hp)
 have hfill:=Great.fill_whole hk0 (xs.map a.eval) ((Jbw (n*ti.size)).map (z.cells[· %z.cells.size]!)) hvs (by simp[hn]);have hparts:((((xs.zipIdx 0).map fun x=>(x.2,x.1)).toArray).map fun(i,x)=>(i,a.eval x)).toList=((xs.map a.eval).zipIdx 0).map fun x=>(x.2,x.1):=by simp[List.zipIdx_map,Function.comp_def]
 have hrun:=run_buildSlice (P:=P) w t e n _ _ ti z ht hi hz (by omega) (by have:=Nat.mul_pos hn0 hk0;omega) (by rw[hparts];exact hfill);have hsize:((xs.map a.eval).flatMap fun v=>v.cells.toList).toArray.size=n*ti.size:=by rw[Jb8,zDY (k:=ti.size) _ (fun v hv=>by rw[Ke];exact hvs v hv)];simp[hn]
 obtain⟨G',hG'⟩:=zA9 (w':=w.alloc (.cells ((xs.map a.eval).flatMap fun v=>v.cells.toList).toArray e)) hrep hps hd rfl (fun o v h=>by rw[hc];simpa using h) (.sl ti.size (ps.map yJ.tree)) (.slice (some ⟨w.heap.size,0,none⟩) n n) (.inl ⟨ti.size,n,rfl,hsz,by rw[←hlen,hn],by omega,by have:n≤n*ti.size:=G5 n hk0;simp only[maxLen];omega,hsize⟩)
 refine⟨_,_,?_,G',hG'⟩;simp only[execOp,ho,Sem.run_bind,hrun,Result.andThen_ok];rfl
where
 zDY {k:Nat} (vs:List Value) (h:∀v∈vs,v.cells.toList.length=k):(vs.flatMap fun v=>v.cells.toList).length=vs.length*k:=by
  induction vs with
  |nil=>simp
  |cons v vs ih=>simp[Ls,ih (fun u hu=>h u (by simp[hu])),Kf];have:=h v (by simp);simp at this;omega
end
end Go.Ab

namespace Go.Ab
open Go
theorem zI1{α β:Type}(f:α→List β)(x:α)(k:Nat)(hk:(f x).length=k)(hk0:0<k):∀(n o:Nat)(v:β),((J1 n x).flatMap f)[o]? =some v→o<n*k∧(f x)[o%k]? =some v
 |0,o,v,h=>by simp at h
 |n+1,o,v,h=>by
  rw[Kj,Ls,Kz]at h;split at h
  ·rename_i hlt
   rw[hk]at hlt;exact⟨by rw[Kf];omega,by rw[Nat.mod_eq_of_lt hlt];exact h⟩
  ·rename_i hge
   rw[hk]at h hge;obtain⟨h1,h2⟩:=zI1 f x k hk hk0 n (o-k) v h;refine⟨by rw[Kf];omega,?_⟩
   rwa [show o%k=(o-k)%k from by rw[←Nat.mod_eq_sub_mod (by omega)]]
section
variable {P:Program}{Γ:Ctx}{E:Env}{o:Oper}{d:Nat}
theorem zTl(t e:TypeId)(ti:TypeInfo)(z:Value)(u:T)(k:Nat)(x y:Operand)(n c:Nat)(kl kc:IntKind)(ho:o.op=.makeSlice t x y)(hdst:o.dst=some d)(hd:d<Γ.N)
  (ht:P.underlying t=some (.slice e))(hi:P.info? e=some ti)(hz:ti.zero=some z)(hk:ti.size=k)(hk0:0<k)(hu:u.zOk=true)(hv:uG u=z.cells.toList)(hus:u.size=k)(hb:ti.bytes≤4096)
  (hx:opT E x=some (.lit (.int kl n)))(hy:opT E y=some (.lit (.int kc c)))(hnc:n≤c)(hc:c≤68719476736):
  xV P Γ o E (E.app [(d,some (.sl k (J1 n u)))] [(d,0)]):=by
 refine xV.value hdst fun a w G hrep=>?_
 have h1:=(xX hrep hx).1;have h2:=(xX hrep hy).1;subst hk;have hps:uI E d (J1 n (.zero u)):=⟨fun s t h=>by simp at h,fun v h=>by simp at h;obtain⟨_,rfl⟩:=h;exact hu,by
  have:∀m,xG (J1 m (.zero u))=[]:=by intro m;induction m with|zero=>rfl|succ m ih=>simp[Kj,xG,ih]
  simp[this]⟩
 have hzs:z.cells.size=ti.size:=by rw[←Ke,←hv,wG u hu,hus]
 have hbytes:(ti.bytes:Int)*(c:Int)≤281474976710656:=by
  have:ti.bytes*c≤4096*68719476736:=Kn hb hc;have:((ti.bytes*c:Nat):Int)≤281474976710656:=by omega
  rwa [Ld]at this
 have hrun:=run_make (P:=P) w t e ti z ht hi hz kl kc n c (by omega) (by omega) hbytes (by omega);simp only[J7]at hrun;obtain⟨G',hG'⟩:=zA9 (w':=w.alloc (.cells (madeCells z.cells (c*ti.size)) e)) hrep hps hd rfl (fun i v h=>by
  obtain⟨h3,h4⟩:=zI1 (tY G) (.zero u) ti.size (by simp[tY,wG u hu,hus]) hk0 n i v h;have h5:i<c*ti.size:=Jaq h3 (L5 _ hnc);simp only[tY,hv,K5]at h4;rw[←hzs]at h4;simp[madeCells,h5,getElem!_def,h4]) (.sl ti.size (J1 n u)) (.slice (some ⟨w.heap.size,0,none⟩) n c)
  (.inl ⟨ti.size,c,by simp[yJ.tree],fun p hp=>by simp at hp;obtain⟨_,rfl⟩:=hp;exact hus,by simp,by simpa using hnc,by simp only[maxLen];omega,by simp[madeCells]⟩)
 refine⟨.slice (some ⟨w.heap.size,0,none⟩) n c,w.alloc (.cells (madeCells z.cells (c*ti.size)) e),?_,G',?_⟩
 ·simp only[execOp,ho,h1,h2,Sem.run_bind,hrun,Result.andThen_ok]
  rfl
 ·have h6:∀m i,pWr d (J1 m (.zero u)) i=[]:=by intro m;induction m with|zero=>intro i;rfl|succ m ih=>intro i;simp[Kj,pWr,ih]
  have h7:tL (J1 n (.zero u))=[]:=by
   have:∀m,xG (J1 m (.zero u))=[]:=by intro m;induction m with|zero=>rfl|succ m ih=>simp[Kj,xG,ih]
   simp[tL,this]
  rw[h6,h7]at hG';exact hG'
theorem zFQ(t e:TypeId)(ti:TypeInfo)(k:Nat)(ho:o.op=.buildSlice t 0 #[])(hdst:o.dst=some d)(hd:d<Γ.N)
  (ht:P.underlying t=some (.slice e))(hi:P.info? e=some ti):xV P Γ o E (E.app [(d,some (.sl k []))] [(d,0)]):=by
 refine xV.value hdst fun a w G hrep=>?_
 have hps:uI E d []:=⟨fun s t h=>by simp at h,fun v h=>by simp at h,by simp[xG]⟩;obtain⟨G',hG'⟩:=zA9 (w':=w.alloc (.cells #[] e)) hrep hps hd (cells:=#[]) rfl (fun i v h=>by simp at h) (.sl k []) (.slice (some ⟨w.heap.size,0,none⟩) 0 0)
  (.inl ⟨k,0,rfl,fun p hp=>by simp at hp,rfl,Ji _,by simp[maxLen],by simp⟩)
 refine⟨_,_,?_,G',hG'⟩;have h0:(Jbw 0:Array Nat)= #[]:=by rfl
 simp[execOp,ho,Instr.buildSlice,run_underlying ht,sizeOf,typeInfo,hi,Instr.fill,newRow,h0]
theorem zJ0(k:Nat)(x:Operand)(ho:o.op=.move x∨o.op=.assign x)(hx:x=.const (.slice none 0 0))(hdst:o.dst=some d)(hd:d<Γ.N):xV P Γ o E (E.app [(d,some (.sl k []))] [(d,0)]):=by
 refine xV.value hdst fun a w G hrep=>?_
 refine⟨.slice none 0 0,w,?_,_,wR hrep rfl hd (fun _=>.slice none 0 0) (fun _=>rfl) (.sl k []) (.slice none 0 0) (by simp[mkV,Gh.put]) (by simp[R,Gh.put]) (by simp[Top,xE,xI])⟩;subst hx;rcases ho with ho|ho<;>simp[execOp,ho,Act.eval]
def Gh.nv(G:Gh)(d:Nat)(src:Nat→Option (Nat×List Nat))(φ:Nat→List Nat→Option (List Nat))(f:Nat→List Nat→Value):Gh where
 hd s z:=if s=d then(match z.getLast? with
  |some i=>f i z.dropLast
  |none=>.bool false)else G.hd s z
 ad s z:=if s=d then(match z.getLast? with
  |some i=>(match src i with
   |some (x,q)=>G.ad x (z.dropLast++q)
   |none=>default)
  |none=>default)else G.ad s z
 lb b o:=match G.lb b o with
  |some (fl,s,z)=>(match φ s z with
   |some z'=>some (fl,d,z')
   |none=>some (fl,s,z))
  |none=>none
 ow b:=match G.ow b with
  |some (s,z)=>(match φ s z with
   |some z'=>some (d,z')
   |none=>some (s,z))
  |none=>none
theorem zTm{G:Gh}{a:Act}{w:World}{ps:List yJ}(hrep:Rep Γ E G a.tmps w)(h:uI E d ps)(hd:d<Γ.N):
  ∃G',Rep Γ (E.app ((d,some (.agg (ps.map yJ.tree)))::pWr d ps 0) ((d,0)::tL ps)) G' (a.tmps.setIfInBounds d (.agg (ps.flatMap (tY G)).toArray)) w:=by
 obtain⟨f1,f0,f2,f3,f4,f5,f6⟩:=zEU hrep h;have hm:=hrep.mem;have hblk:Blk w w:=fun b cs e' h=>⟨cs,h,rfl⟩
 generalize hG':G.nv d (zFN ps) (zHd ps) (pHd G ps)=G'
 have ghd:∀i z,G'.hd d (z++[i])=pHd G ps i z:=fun i z=>by rw[←hG'];simp[Gh.nv]
 have ghd':∀s z,s≠d→G'.hd s z=G.hd s z:=fun s z hs=>by rw[←hG'];simp[Gh.nv,hs]
 have glbm:∀b o fl x z z',G.lb b o=some (fl,x,z)→zHd ps x z=some z'→G'.lb b o=some (fl,d,z'):=fun b o fl x z z' h1 h2=>by rw[←hG'];simp[Gh.nv,h1,h2]
 have gowm:∀b x z z',G.ow b=some (x,z)→zHd ps x z=some z'→G'.ow b=some (d,z'):=fun b x z z' h1 h2=>by rw[←hG'];simp[Gh.nv,h1,h2]
 have hne:∀s p,Off ((d,0)::tL ps) s p→s≠d:=fun s p h e=>absurd (h 0 (by simp[e])) (by simp)
 have hkeep:sX ((d,0)::tL ps) G w G' w:=by
  refine⟨fun s p h=>ghd' s p (hne s p h),fun s p h=>?_,fun b o fl s p _ hl h=>⟨?_,rfl⟩,fun b s p hl h=>?_,hblk⟩
  ·rw[←hG'];simp[Gh.nv,hne s p h]
  ·rw[←hG'];simp[Gh.nv,hl,f6 s p h]
  ·rw[←hG'];simp[Gh.nv,hl,f6 s p h]
 have hmem:Mem Γ G' w:=by
  refine⟨fun s p=>?_,fun b o l hl=>?_,fun b l hl=>?_,hm.st,hm.fr,hm.sz,hm.bk⟩
  ·rw[←hG']
   simp only[Gh.nv];split
   ·split
    ·exact f2 _ _
    ·rfl
   ·exact hm.one s p
  ·rw[←hG']at hl
   simp only[Gh.nv]at hl;split at hl
   ·rename_i hg;exact hm.lb b o _ hg
   ·cases hl
  ·rw[←hG']at hl
   simp only[Gh.nv]at hl;split at hl
   ·rename_i hg;exact hm.ow b _ hg
   ·cases hl
 have g4:RF Γ.St G' w d (ps.map yJ.tree) [] 0:=by
  refine zMV _ [] 0 (fun i u hu=>?_);rw[Jd];cases hs:zFN ps i with
  |none=>exact f5 i u hu hs G' w (fun z=>ghd i z)
  |some xq=>
   obtain⟨x,q⟩:=xq;obtain⟨h1,h2,h3,h4⟩:=f4 i u x q hu hs;refine zJz u q [i] (zCs.okTups_get _ f1 i u hu) ⟨fun z=>by rw[ghd,h1],fun z _=>by rw[←hG'];simp[Gh.nv,hs],fun b o fl z _ hl=>⟨glbm b o fl x _ _ hl (f3 i u x q z hu hs),rfl⟩,
    fun b z hl=>gowm b x _ _ hl (f3 i u x q z hu hs),hblk⟩ (yP.mono (fun _ _=>False.elim) u h3) h2
 refine⟨G',wV hrep (by simp) hkeep hmem ?_ ?_⟩
 ·intro s hs
  simp only[Wr.find]at hs;split at hs
  ·cases hs
  ·rename_i hne
   have hns:=zBE ps d 0 s hs;refine⟨fun n hn=>?_,by rw[Jb];simp[hne]⟩;simp only[Jv,Un.injEq,tL,Jg]at hn;rcases hn with⟨e1,_⟩|⟨y,hy,e1,_⟩
   ·exact hne e1.symm
   ·exact hns (e1▸hy)
 ·intro s t hs
  simp only[Wr.find]at hs;split at hs
  ·rename_i he
   subst he;simp at hs;subst hs;refine⟨?_,by simpa only[R]using g4,by simp only[Top];exact vQ.of_clean _ f0⟩;rw[Jb];simp only[hrep.size,hd,mkV,if_true];rw[zDa hrep h G' ps 0 (fun i q hq=>by simpa using hq) ghd]
  ·rename_i hne
   obtain⟨i,u,h1,h2,h3⟩:=zBD ps d 0 s _ hs;simp only[Jd]at h3;simp at h3;subst h3;obtain⟨h4,h5,h6⟩:=h.slot s u (Kc h1);have hnt:∀xs,u≠.tup xs:=by rintro xs rfl;simp[T.okTup]at h6
   have hi:(ps.map yJ.tree)[i]? =some u:=by simp[h1,yJ.tree]
   have hr:=zAw _ [] 0 i u g4 hi;simp only[Jd]at hr;refine zH3 (G:=G) (by rw[Jb];simp only[hne,if_false];exact(hrep.ent s u h4).1) hnt (fun p=>ghd' s p (fun e=>hne e.symm)) (fun z=>?_) hr;rw[ghd];simp[pHd,h1]
theorem zMX(off:Nat):∀(vs:List Value)(i:Nat)(cs:Array Value)(k:Nat),off+i+vs.length≤cs.size→
  ((vs.zipIdx i).foldl (fun cs(x:Value×Nat)=>cs.setIfInBounds (off+x.2) x.1) cs)[k]? =if off+i≤k∧k<off+i+vs.length then vs[k-(off+i)]? else cs[k]?
 | [],i,cs,k,_=>by simp;omega
 |v::vs,i,cs,k,h=>by
  simp only[Jh]at h;simp only[List.zipIdx_cons,List.foldl_cons];rw[zMX off vs (i+1) _ k (by simp;omega)]
  by_cases h1:off+(i+1)≤k∧k<off+(i+1)+vs.length
  ·rw[if_pos h1,if_pos (by simp only[Jh];omega),show k-(off+i)=k-(off+(i+1))+1 from by omega,Uw]
  ·rw[if_neg h1]
   by_cases h2:k=off+i
   ·subst h2
    rw[if_pos (by simp only[Jh];omega),Kk];rw[Jb];simp;omega
   ·rw[if_neg (by simp only[Jh];omega),Jb,if_neg (fun e=>h2 e.symm)]
theorem zFR{pv:yJ→List Value}(place:Nat→Option (Nat×Nat)):∀(vs:List (Nat×Value))(qs:List (Nat×yJ))(ps:List yJ)(cs:Array Value),cs.toList=ps.flatMap pv→
  (∀i p,ps[i]? =some p→place i=some (((ps.take i).flatMap pv).length,(pv p).length))→
  vs.map (·.1)=qs.map (·.1)→(∀(j:Nat)(v:Nat×Value)(q:Nat×yJ),vs[j]? =some v→qs[j]? =some q→v.2.cells.toList=pv q.2∧ ∃p,ps[q.1]? =some p∧(pv p).length=(pv q.2).length)→
  ∃cs',Instr.fill place cs vs=some cs'∧cs'.toList=(qs.foldl (fun ps q=>ps.set q.1 q.2) ps).flatMap pv
 | [],[],ps,cs,hcs,_,_,_=>⟨cs,rfl,hcs⟩
 | [],_::_,_,_,_,_,h,_=>by simp at h
 |_::_,[],_,_,_,_,h,_=>by simp at h
 |(i,v)::vs,(i',q)::qs,ps,cs,hcs,hpl,hi,hq=>by
  simp only[Jk,Jb7.injEq]at hi;obtain⟨hi0,hi⟩:=hi;subst hi0;obtain⟨h1,p,h2,h3⟩:=hq 0 (i,v) (i,q) rfl rfl;dsimp only at h1 h2 h3;have hplace:=hpl i p h2;have hlt:=(Ja.1 h2).1;have hsplit:ps=ps.take i++p::ps.drop (i+1):=by rw[←(Ja.1 h2).2,←Lt hlt,Jas]
  have hset:ps.set i q=ps.take i++q::ps.drop (i+1):=List.set_eq_take_append_cons_drop .. |>.trans (if_pos hlt);have hvl:v.cells.size=(pv p).length:=by rw[←Ke,h1,h3]
  have hcl:cs.size=((ps.take i).flatMap pv).length+((pv p).length+((ps.drop (i+1)).flatMap pv).length):=by
   rw[←Ke,hcs]
   conv=>lhs;rw[hsplit]
   simp[L8]
  have hnew:(v.cells.zipIdx.foldl (fun cs(x:Value×Nat)=>cs.setIfInBounds (((ps.take i).flatMap pv).length+x.2) x.1) cs).toList=(ps.set i q).flatMap pv:=by
   rw[hset];simp only[L8,Ls,←h1];apply La;intro k;rw[←Array.foldl_toList,K5,show v.cells.zipIdx.toList=v.cells.toList.zipIdx 0 from by simp,zMX _ _ 0 cs k (by have:v.cells.toList.length=v.cells.size:=(by simp);omega)];have hcs2:cs.toList=((ps.take i).flatMap pv)++(pv p++(ps.drop (i+1)).flatMap pv):=by
    rw[hcs]
    conv=>lhs;rw[hsplit]
    simp[L8]
   have hvl2:v.cells.toList.length=(pv p).length:=by rw[h1,h3]
   rw[←K5,hcs2]
   generalize (ps.take i).flatMap pv=A
   generalize (ps.drop (i+1)).flatMap pv=B
   generalize v.cells.toList=V at hvl2
   generalize pv p=Q at hvl2
   by_cases hk:A.length≤k∧k<A.length+V.length
   ·rw[if_pos (by omega),J8 hk.1,Jo (by omega),G7]
   ·rw[if_neg (by omega)]
    by_cases hk2:k<A.length
    ·rw[Jo hk2,Jo hk2]
    ·rw[J8 (by omega),J8 (by omega),J8 (by omega),J8 (by omega),hvl2]
  have hpl':∀j p',(ps.set i q)[j]? =some p'→place j=some ((((ps.set i q).take j).flatMap pv).length,(pv p').length):=by
   intro j p' hp';have htk:(((ps.set i q).take j).flatMap pv).length=((ps.take j).flatMap pv).length:=by
    rw[hset]
    conv=>rhs;rw[hsplit]
    by_cases hj:j≤i
    ·rw[Q5 (by simp;omega),Q5 (by simp;omega)]
    ·rw[Jay,Jay]
     simp only[L8,J6]
     congr 1
     have:j-(ps.take i).length=(j-(ps.take i).length-1)+1:=by simp;omega
     rw[this,Kd,Kd];simp[h3]
   by_cases hj:j=i
   ·subst hj
    rw[Uo hlt]at hp';simp at hp';subst hp';rw[hplace,←h3,htk]
   ·rw[Qx (fun e=>hj e.symm)]at hp'
    rw[hpl j p' hp',htk]
  have hq':∀(j:Nat)(x:Nat×Value)(y:Nat×yJ),vs[j]? =some x→qs[j]? =some y→x.2.cells.toList=pv y.2∧ ∃p,(ps.set i q)[y.1]? =some p∧(pv p).length=(pv y.2).length:=by
   intro j x y hx hy;obtain⟨h6,p',h7,h8⟩:=hq (j+1) x y (by simpa using hx) (by simpa using hy);refine⟨h6,?_⟩
   by_cases hj:y.1=i
   ·refine⟨q,by rw[hj,Uo hlt],?_⟩
    rw[hj,h2]at h7;simp at h7;subst h7;rw[←h8,h3]
   ·exact⟨p',by rw[Qx (fun e=>hj e.symm)];exact h7,h8⟩
  obtain⟨cs',h4,h5⟩:=zFR place vs qs (ps.set i q) _ hnew hpl' hi hq';refine⟨cs',?_,by simpa using h5⟩;simp only[Instr.fill,hplace];have hno:(v.cells.size≠(pv p).length||((ps.take i).flatMap pv).length+v.cells.size> cs.size)=false:=by rw[Bool.or_eq_false_iff];exact⟨by simpa using hvl,by rw[decide_eq_false_iff_not];omega⟩
  rw[hno];exact h4
theorem vU{t:TypeId}{it:TypeInfo}{fields:Array Field}{z:Value}{places:List (Nat×Nat)}(hi:P.info? t=some it)(hu:P.underlying t=some (.struct fields))(hz:it.zero=some z)
  (hp:fields.toList.mapM (fun f=>(P.info? f.type).map fun i=>(f.offset,i.size))=some places)(parts:List (Nat×Value)):P.built t parts=Instr.fill (places.toArray[·]?) z.cells parts:=by
 simp[Program.built,hi,hu,hz,hp]
theorem zJ1{t e:TypeId}{n:Nat}{it ie:TypeInfo}{z:Value}(hi:P.info? t=some it)(hu:P.underlying t=some (.array n e))(hz:it.zero=some z)
  (he:P.info? e=some ie)(parts:List (Nat×Value)):P.built t parts=Instr.fill (fun i=>some (i*ie.size,ie.size)) z.cells parts:=by
 simp[Program.built,hi,hu,hz,he]
theorem zEk{G:Gh}:(zs:List T)→(zs.map yJ.zero).flatMap (tY G)=uZ zs
 | []=>rfl
 |z::zs=>by simp[tY,uZ,←zEk (G:=G) zs]
theorem zPF(t:TypeId)(place:Nat→Option (Nat×Nat))(z:Value)(zs:List T)(pl:List (Nat×Operand))(qs:List (Nat×yJ))(ps:List yJ)(ho:o.op=.build t pl.toArray)(hdst:o.dst=some d)(hd:d<Γ.N)
  (hb:∀parts,P.built t parts=Instr.fill place z.cells parts)(hzv:uZ zs=z.cells.toList)(hz:kC zs=true)(hpl:∀i u,zs[i]? =some u→place i=some (T.sizes (zs.take i),u.size))
  (hps:qs.foldl (fun ps q=>ps.set q.1 q.2) (zs.map yJ.zero)=ps)(hok:uI E d ps)(hix:pl.map (·.1)=qs.map (·.1))
  (hq:∀(j:Nat)(x:Nat×Operand)(q:Nat×yJ),pl[j]? =some x→qs[j]? =some q→jT E x.2 q.2∧q.2∈ps∧ ∃u,zs[q.1]? =some u∧u.size=q.2.tree.size):
  xV P Γ o E (E.app ((d,some (.agg (ps.map yJ.tree)))::pWr d ps 0) ((d,0)::tL ps)):=by
 refine xV.value hdst fun a w G hrep=>?_
 obtain⟨G',hG'⟩:=zTm hrep hok hd;have hsz:∀(us:List T),kC us=true→((us.map yJ.zero).flatMap (tY G)).length=T.sizes us:=fun us h=>by rw[zEk,zAx us h]
 obtain⟨cs',h1,h2⟩:=zFR (pv:=tY G) place (pl.map fun x=>(x.1,a.eval x.2)) qs (zs.map yJ.zero) z.cells (by rw[zEk,hzv]) (fun i p hp=>by
   rw[Ju]at hp;cases hu:zs[i]? with
   |none=>simp[hu]at hp
   |some u=>
    simp[hu]at hp;subst hp;rw[hpl i u hu,←Uy,hsz _ (zOks_take zs i hz),tY,wG u (zOks_get zs hz i u hu)])
  (by simpa[Jb0,Function.comp_def]using hix) (fun j v q hv hqj=>by
   rw[Ju]at hv;cases hx:pl[j]? with
   |none=>simp[hx]at hv
   |some x=>
    simp[hx]at hv;subst hv;obtain⟨h3,h4,u,h5,h6⟩:=hq j x q hx hqj;refine⟨kR hrep hok h4 h3,.zero u,by simp[h5],?_⟩;rw[tY,wG u (zOks_get zs hz _ u h5),h6];cases hqq:q.2 with
    |slot s t=>
     rw[hqq]at h4;obtain⟨_,_,h7⟩:=hok.slot s t h4;exact(wD t [] (by rintro xs rfl;simp[T.okTup]at h7)).symm
    |zero u'=>
     rw[hqq]at h4;exact(wG u' (hok.zero u' h4)).symm)
 rw[hps]at h2;have h3:cs'=(ps.flatMap (tY G)).toArray:=by rw[←h2]
 refine⟨_,w,?_,G',hG'⟩;have hrun:=run_build (P:=P) w t (pl.map fun x=>(x.1,a.eval x.2)).toArray cs' (by rw[hb];exact h1);simp only[List.map_toArray,execOp,ho,Sem.run_bind]at hrun ⊢
 rw[show(List.map (fun x=>match x with|(i,x)=>(i,a.eval x)) pl)=List.map (fun x=>(x.1,a.eval x.2)) pl from rfl,hrun,h3];rfl
where
 zOks_get:(xs:List T)→kC xs=true→ ∀(i:Nat)(x:T),xs[i]? =some x→x.zOk=true
  | [],_,_,_,h=>by simp at h
  |y::ys,hk,i,x,h=>by
   simp only[kC,J4]at hk;cases i with
   |zero=>simp at h;subst h;exact hk.1
   |succ i=>exact zOks_get ys hk.2 i x (by simpa using h)
 zOks_take:(xs:List T)→ ∀i,kC xs=true→kC (xs.take i)=true
  | [],i,_=>by simp[kC]
  |y::ys,0,_=>by simp[kC]
  |y::ys,i+1,hk=>by
   simp only[kC,J4,Kd]at hk ⊢
   exact⟨hk.1,zOks_take ys i hk.2⟩
end
end Go.Ab

namespace Go.Ab
open Go
mutual
def wQ:T→T→Bool
 |.agg xs,.agg ys=>qU xs ys
 |.agg _,_=>false
 |.tup _,_=>false
 |_,.agg _=>false
 |_,.tup _=>false
 |.any,_|.lit _,_|.ro _,_|.same _ _,_|.addr _ _,_|.sub _ _ _ _ _,_|.sl _ _,_|.ptr _,_=>true
def qU:List T→List T→Bool
 | [],[]=>true
 |x::xs,y::ys=>wQ x y&&qU xs ys
 | [],_::_=>false
 |_::_,[]=>false
end
mutual
theorem zBF:(x y:T)→wQ x y=true→x.size=y.size
 |.agg xs,.agg ys,h=>by simp only[wQ]at h;simp only[T.size];exact zD7 xs ys h
 |.agg _,.any,h|.agg _,.lit _,h|.agg _,.ro _,h|.agg _,.same _ _,h|.agg _,.addr _ _,h|.agg _,.sub _ _ _ _ _,h|.agg _,.sl _ _,h|.agg _,.ptr _,h|.agg _,.tup _,h=>by simp[wQ]at h
 |.tup _,_,h=>by simp[wQ]at h
 |.any,y,h|.lit _,y,h|.ro _,y,h|.same _ _,y,h|.addr _ _,y,h|.sub _ _ _ _ _,y,h|.sl _ _,y,h|.ptr _,y,h=>by cases y<;>simp[wQ]at h<;>simp[T.size]
theorem zD7:(xs ys:List T)→qU xs ys=true→T.sizes xs=T.sizes ys
 | [],[],_=>rfl
 |x::xs,y::ys,h=>by simp only[qU,J4]at h;simp only[T.sizes,zBF x y h.1,zD7 xs ys h.2]
 | [],_::_,h=>by simp[qU]at h
 |_::_,[],h=>by simp[qU]at h
end
section
variable {G:Gh}{w:World}{s:Nat}
mutual
theorem zI2:(t:T)→ ∀(p:List Nat)(b o j:Nat),Loc G w s t p b o→j<t.size→ ∃y,G.lb b (o+j)=some (false,s,y++p)
 |.agg xs,p,b,o,j,h,hj=>by simp only[Loc,T.size]at h hj;exact zMY xs p 0 b o j h.2 hj
 |.any,p,b,o,j,h,hj|.lit _,p,b,o,j,h,hj|.ro _,p,b,o,j,h,hj|.same _ _,p,b,o,j,h,hj|.addr _ _,p,b,o,j,h,hj|.sub _ _ _ _ _,p,b,o,j,h,hj|.sl _ _,p,b,o,j,h,hj|.ptr _,p,b,o,j,h,hj=>by
  simp only[Loc,T.size]at h hj;obtain rfl:j=0:=by omega
  exact⟨[],by simpa using h.2.1⟩
 |.tup _,_,_,_,_,h,_=>by simp only[Loc]at h
theorem zMY:(xs:List T)→ ∀(p:List Nat)(i b o j:Nat),wS G w s xs p i b o→j<T.sizes xs→ ∃y,G.lb b (o+j)=some (false,s,y++p)
 | [],_,_,_,_,_,_,hj=>by simp[T.sizes]at hj
 |x::xs,p,i,b,o,j,h,hj=>by
  simp only[wS,T.sizes]at h hj
  by_cases hlt:j<x.size
  ·obtain⟨y,hy⟩:=zI2 x (i::p) b o j h.1 hlt
   exact⟨y++[i],by simpa using hy⟩
  ·obtain⟨y,hy⟩:=zMY xs p (i+1) b (o+x.size) (j-x.size) h.2 (by omega)
   rw[show o+x.size+(j-x.size)=o+j from by omega]at hy;exact⟨y,hy⟩
end
mutual
theorem zPG{G':Gh}{w':World}:(u u0:T)→ ∀(p:List Nat)(b o:Nat),wQ u u0=true→(∀y,u.inT y.reverse=true→G'.ad s (y++p)=G.ad s (y++p))→
  (∀b o y,G.lb b o=some (false,s,y++p)→G'.lb b o=some (false,s,y++p))→(∀j v,(vals G' s u p)[j]? =some v→yG w' b (o+j)=some v)→Loc G w s u0 p b o→Loc G' w' s u p b o
 |.agg xs,.agg ys,p,b,o,h,ha,hl,hc,h0=>by
  simp only[Loc,wQ]at h h0 ⊢
  refine⟨by have:=ha [] rfl;rw[Jp]at this;rw[this];exact h0.1,zMZ xs ys p 0 b o h (fun i x hx y hy=>?_) (fun b o y=>hl b o y) (fun j v hv=>hc j v (by simpa only[vals]using hv)) h0.2⟩;have:=ha (y++[i]) (by simp only[Hk,H7,Lz,Jp,Kh,T.inT,hx];exact hy);simpa using this
 |.agg _,.any,_,_,_,h,_,_,_,_|.agg _,.lit _,_,_,_,h,_,_,_,_|.agg _,.ro _,_,_,_,h,_,_,_,_|.agg _,.same _ _,_,_,_,h,_,_,_,_|.agg _,.addr _ _,_,_,_,h,_,_,_,_|.agg _,.sub _ _ _ _ _,_,_,_,h,_,_,_,_|.agg _,.sl _ _,_,_,_,h,_,_,_,_|.agg _,.ptr _,_,_,_,h,_,_,_,_|.agg _,.tup _,_,_,_,h,_,_,_,_=>by simp[wQ]at h
 |.tup _,_,_,_,_,h,_,_,_,_=>by simp[wQ]at h
 |.any,u0,p,b,o,h,ha,hl,hc,h0|.lit _,u0,p,b,o,h,ha,hl,hc,h0|.ro _,u0,p,b,o,h,ha,hl,hc,h0|.same _ _,u0,p,b,o,h,ha,hl,hc,h0|.addr _ _,u0,p,b,o,h,ha,hl,hc,h0|.sub _ _ _ _ _,u0,p,b,o,h,ha,hl,hc,h0|.sl _ _,u0,p,b,o,h,ha,hl,hc,h0|.ptr _,u0,p,b,o,h,ha,hl,hc,h0=>by have h1:=wN (by cases u0<;>simp[wQ]at h<;>rfl) h0;have h2:=ha [] rfl;rw[Jp]at h2;simp only[Loc];exact⟨h2.trans h1.1,by simpa using hl b o [] (by simpa using h1.2.1),by simpa using hc 0 (G'.hd s p) (by simp[vals])⟩
theorem zMZ{G':Gh}{w':World}:(xs ys:List T)→ ∀(p:List Nat)(j b o:Nat),qU xs ys=true→(∀i x,xs[i]? =some x→ ∀y,x.inT y.reverse=true→G'.ad s (y++((j+i)::p))=G.ad s (y++((j+i)::p)))→
  (∀b o y,G.lb b o=some (false,s,y++p)→G'.lb b o=some (false,s,y++p))→(∀i v,(zY G' s xs p j)[i]? =some v→yG w' b (o+i)=some v)→wS G w s ys p j b o→wS G' w' s xs p j b o
 | [],[],_,_,_,_,_,_,_,_,_=>by simp only[wS]
 |x::xs,y::ys,p,j,b,o,h,ha,hl,hc,h0=>by
  simp only[qU,J4,wS]at h h0 ⊢
  have hs:=zBF x y h.1;have hnt:∀zs,x≠.tup zs:=by rintro zs rfl;simp[wQ]at h
  refine⟨zPG x y (j::p) b o h.1 (fun z hz=>by simpa using ha 0 x (by simp) z hz) (fun b o z hz=>by have:=hl b o (z++[j]) (by simpa using hz);simpa using this) (fun i v hv=>hc i v ?_) h0.1,
   zMZ xs ys p (j+1) b (o+x.size) h.2 (fun i z hz=>by have:=ha (i+1) z (by simpa using hz);rwa [show j+1+i=j+(i+1)from by omega]) hl (fun i v hv=>?_) (by rw[hs];exact h0.2)⟩
  ·simp only[zY]
   rw[Jo (Ja.1 hv).1];exact hv
  ·have:=hc (x.size+i) v (by
    simp only[zY];rw[J8 (by rw[wD x _ hnt];omega),wD x _ hnt,show x.size+i-x.size=i from by omega];exact hv)
   rwa [←Lv]at this
 | [],_::_,_,_,_,_,h,_,_,_,_=>by simp[qU]at h
 |_::_,[],_,_,_,_,h,_,_,_,_=>by simp[qU]at h
end
end
def zFn(p:yJ)(q:List Nat)(s:Nat)(z:List Nat):Option (List Nat):=
 match p with
 |.slot s0 t=>if tK t&&s0==s then some (z++q)else none
 |.zero _=>none
def sHd(G:Gh)(p:yJ)(y:List Nat):Value:=
 match p with
 |.slot s _=>G.hd s y
 |.zero u=>jE (zhd u y.reverse)
def sWr(r:Nat)(q:List Nat):yJ→Wr
 |.slot s t=>if tK t then[(s,some (cpT r t q))]else[]
 |.zero _=>[]
def Gh.st(G:Gh)(r:Nat)(q:List Nat)(p:yJ):Gh where
 hd s z:=if s=r∧q<:+z then sHd G p (z.take (z.length-q.length))else G.hd s z
 ad s z:=if s=r∧q<:+z∧p.tree.inT (z.take (z.length-q.length)).reverse=false then(match p with
  |.slot s0 _=>G.ad s0 (z.take (z.length-q.length))
  |.zero _=>default)else G.ad s z
 lb b o:=match G.lb b o with
  |some (fl,s,z)=>(match zFn p q s z with
   |some z'=>some (fl,r,z')
   |none=>some (fl,s,z))
  |none=>none
 ow b:=match G.ow b with
  |some (s,z)=>(match zFn p q s z with
   |some z'=>some (r,z')
   |none=>some (s,z))
  |none=>none
mutual
theorem zJ2{Γ:Ctx}{G:Gh}{w:World}(hm:Mem Γ G w){s:Nat}:(t:T)→ ∀(p:List Nat)(v:Value),v∈vals G s t p→v.oneCell'=true
 |.agg xs,p,v,h=>by simp only[vals]at h;exact zCu hm xs p 0 v h
 |.any,p,v,h|.lit _,p,v,h|.ro _,p,v,h|.same _ _,p,v,h|.addr _ _,p,v,h|.sub _ _ _ _ _,p,v,h|.sl _ _,p,v,h|.ptr _,p,v,h|.tup _,p,v,h=>by simp only[vals,List.mem_singleton]at h;rw[h];exact hm.one s p
theorem zCu{Γ:Ctx}{G:Gh}{w:World}(hm:Mem Γ G w){s:Nat}:(xs:List T)→ ∀(p:List Nat)(j:Nat)(v:Value),v∈zY G s xs p j→v.oneCell'=true
 | [],_,_,_,h=>by simp[zY]at h
 |x::xs,p,j,v,h=>by
  simp only[zY,Lf]at h;rcases h with h|h
  ·exact zJ2 hm x _ v h
  ·exact zCu hm xs p _ v h
end
mutual
theorem zEl:(u:T)→u.zOk=true→ ∀v∈uG u,v.oneCell'=true
 |.lit v,h,x,hx=>by simp only[uG,List.mem_singleton]at hx;rw[hx];exact h
 |.sl _ _,_,x,hx=>by simp only[uG,List.mem_singleton]at hx;rw[hx];rfl
 |.agg xs,h,x,hx=>by simp only[T.zOk]at h;simp only[uG]at hx;exact zFS xs h x hx
 |.any,h,_,_|.ro _,h,_,_|.same _ _,h,_,_|.addr _ _,h,_,_|.sub _ _ _ _ _,h,_,_|.ptr _,h,_,_|.tup _,h,_,_=>by simp[T.zOk]at h
theorem zFS:(xs:List T)→kC xs=true→ ∀v∈uZ xs,v.oneCell'=true
 | [],_,_,h=>by simp[uZ]at h
 |x::xs,h,v,hv=>by
  simp only[kC,J4]at h;simp only[uZ,Lf]at hv;rcases hv with hv|hv
  ·exact zEl x h.1 v hv
  ·exact zFS xs h.2 v hv
end
theorem zJ3(y q:List Nat):(y++q).take ((y++q).length-q.length)=y:=by simp
theorem zLz{Γ:Ctx}{G G':Gh}{w':World}{s d:Nat}{q:List Nat}{t:T}{v:Option Value}(hv:v=some (mkV G s t []))(hnt:∀xs,t≠.tup xs)(hs:∀p,G'.hd s p=G.hd s p)(hd':∀z,G'.hd d (z++q)=G.hd s z)
  (hr:R Γ.St G' w' d t q):Ent Γ G' w' v s (cpT d t q):=by
 have hz:∀z,G'.hd s (z++[])=G'.hd d (z++q):=fun z=>by rw[J9,hs,hd']
 refine⟨?_,?_,sH d t q⟩
 ·rw[hv,kP (G:=G') (G':=G') t q [] hnt hz,jD G s t [] hnt,zBa t [] q (fun z=>by rw[hd',J9])]
 ·exact zCV (G:=G') (G':=G') (fun _=>rfl) t q [] hz hnt (yP.triv (fun _ _=>⟨rfl,rfl⟩) _) hr
section
variable {P:Program}{Γ:Ctx}{E:Env}{o:Oper}
theorem qN:(f:List Nat)→ ∀(t u:T),zV t→zV u→zV (t.set f u)
 | [],t,u,_,hu=>by simpa[T.set]using hu
 |i::f,t,u,ht,hu=>by
  cases t with
  |sl k xs=>
   simp only[T.set];split
   ·rename_i x hx
    simp only[zV,yP]at ht ⊢
    exact sets_clean xs i _ ht (qN f x u (vS xs ht i x hx) hu)
   ·exact ht
  |agg xs=>
   simp only[T.set];split
   ·rename_i x hx
    simp only[zV,yP]at ht ⊢
    exact sets_clean xs i _ ht (qN f x u (vS xs ht i x hx) hu)
   ·exact ht
  |tup xs=>
   simp only[T.set];split
   ·rename_i x hx
    simp only[zV,yP]at ht ⊢
    exact sets_clean xs i _ ht (qN f x u (vS xs ht i x hx) hu)
   ·exact ht
  |ptr t=>
   simp only[T.set];split
   ·simp only[zV,yP]at ht ⊢
    exact qN f t u ht hu
   ·exact ht
  |_=>simpa only[T.set]using ht
where sets_clean:(xs:List T)→ ∀(i:Nat)(y:T),xE xs→zV y→xE (xs.set i y)
 | [],_,_,_,_=>by simp[xE,xI]
 |x::xs,0,y,h,hy=>by simp only[Kq,xE,xI]at h ⊢;exact⟨hy,h.2⟩
 |x::xs,i+1,y,h,hy=>by simp only[Lo,xE,xI]at h ⊢;exact⟨h.1,sets_clean xs i y h.2 hy⟩
theorem zEm(T':TypeId)(ti:TypeInfo)(x y:Operand)(r:Nat)(q:List Nat)(tr u0:T)(p:yJ)(ho:o.op=.store T' x y)(hdst:o.dst=none)
  (hi:P.info? T'=some ti)(hsz:ti.size=p.tree.size)(hpos:0<ti.size)(hx:zAl Γ E x r q)(hr:E r=some tr)(hrs:tr.single=true)(hg:tr.get q.reverse=some u0)(hl:tr.locd q.reverse=true)
  (hsh:wQ p.tree u0=true)(hy:jT E y p)(hps:uI E r [p]):
  xV P Γ o E (E.app ((r,some (tr.set q.reverse p.tree))::sWr r q p) ((r,q.length)::tL [p])):=by
 refine xV.skip hdst fun a w G hrep=>?_
 have hm:=hrep.mem;have hadr:=hx a w G hrep;obtain⟨e3,e4,e5⟩:=hrep.ent r _ hr;have hq0:q≠[]:=by rintro rfl;simp[T.locd]at hl
 obtain⟨i0,f0,hqr⟩:∃i f,q.reverse=i::f:=by
  cases h:q.reverse with
  |nil=>exact absurd (by simpa using h) hq0
  |cons i f=>exact⟨i,f,rfl⟩
 have htr:∀v:T,(tr.set q.reverse v).single=true∧zV tr:=by
  intro v;rw[hqr]at hg ⊢
  cases tr with
  |sl k xs=>exact⟨by simp only[T.set];split<;>rfl,by simpa only[Top,zV,yP]using e5⟩
  |ptr t=>exact⟨by simp only[T.set];split<;>rfl,by simpa only[Top,zV,yP]using e5⟩
  |agg xs=>simp[T.single]at hrs
  |tup xs=>simp[T.single]at hrs
  |_=>simp[T.get]at hg
 obtain⟨b,ob,cs,et,hloc,hblk,hfit⟩:=(jC q.reverse tr u0 [] e4 hg).2 hl;simp only[rp,Kr,J9]at hloc;have hru0:=(jC q.reverse tr u0 [] e4 hg).1;have had:=zBb hloc;have hsu:=zBF _ _ hsh;have hc:=kR hrep hps (by simp) hy;have hvs:(a.eval y).cells.size=p.tree.size:=by
  rw[←Ke,hc];cases p with
  |slot s t=>obtain⟨_,_,h3⟩:=hps.slot s t (by simp);exact wD t [] (by rintro xs rfl;simp[T.okTup]at h3)
  |zero u=>exact wG u (hps.zero u (by simp))
 have hone:∀v∈(a.eval y).cells.toList,v.oneCell'=true:=by
  rw[hc];intro v hv;cases p with
  |slot s t=>exact zJ2 hm t [] v hv
  |zero u=>exact zEl u (hps.zero u (by simp)) v hv
 generalize hw':w.setRow b (cs.toList.take ob++(a.eval y).cells.toList++cs.toList.drop (ob+(a.eval y).cells.toList.length)).toArray=w'
 have hnew:w'.heap[b]? =some (.cells (cs.toList.take ob++(a.eval y).cells.toList++cs.toList.drop (ob+(a.eval y).cells.toList.length)).toArray et (0,0)):=by rw[←hw'];exact setRow_heap w b cs _ et _ hblk
 have hold:∀b',b'≠b→w'.heap[b']? =w.heap[b']?:=fun b' h=>by rw[←hw'];exact setRow_other w b b' _ h
 have hsize:w'.heap.size=w.heap.size:=by rw[←hw'];exact size_setRow w b _
 have hcl:(a.eval y).cells.toList.length=u0.size:=by rw[Ke,hvs,hsu]
 have hcellb:∀k,yG w' b k=if ob≤k∧k<ob+u0.size then(tY G p)[k-ob]? else yG w b k:=by
  intro k;simp only[yG,World.cell?,hnew,hblk,Jaa,Hz,if_false];rw[←hc,←hcl]at*
  rw[←K5,←K5 (xs:=cs)];simp only[];have hcs:cs.toList.length=cs.size:=Ke ..
  generalize (a.eval y).cells.toList=V at*
  by_cases h1:k<ob
  ·rw[if_neg (by omega),Jc,Jo (by simp;omega),Qf h1]
  ·by_cases h2:k<ob+V.length
   ·rw[if_pos ⟨by omega,h2⟩,Jc,J8 (by simp;omega),Jo (by simp;omega)]
    congr 1;simp;omega
   ·rw[if_neg (by omega),Jc,J8 (by simp;omega),J8 (by simp;omega),Ko]
    congr 1;simp;omega
 have hcellr:∀b' o' fl s z,G.lb b' o'=some (fl,s,z)→ ¬(s=r∧q<:+z)→yG w' b' o'=yG w b' o':=by
  intro b' o' fl s z h1 h2
  by_cases hb:b'=b
  ·subst hb
   rw[hcellb];split
   ·rename_i h3
    obtain⟨y',h4⟩:=zI2 u0 q b' ob (o'-ob) hloc (by omega);rw[show ob+(o'-ob)=o' from by omega,h1]at h4;simp at h4;exact absurd ⟨h4.2.1,y',h4.2.2.symm⟩ h2
   ·rfl
  ·simp[yG,World.cell?,hold b' hb]
 have hblk':Blk w w':=by
  intro b' cs' e' h1
  by_cases hb:b'=b
  ·subst hb
   rw[hblk]at h1;simp at h1;obtain⟨rfl,rfl⟩:=h1;exact⟨_,hnew,by simp;have:cs.toList.length=cs.size:=Ke ..;omega⟩
  ·exact⟨cs',by rw[hold b' hb];exact h1,rfl⟩
 generalize hG':G.st r q p=G'
 have ghd:∀y',G'.hd r (y'++q)=sHd G p y':=fun y'=>by rw[←hG'];simp[Gh.st]
 have ghd':∀s z,¬(s=r∧q<:+z)→G'.hd s z=G.hd s z:=fun s z h=>by rw[←hG'];simp only[Gh.st];rw[if_neg h]
 have gad:∀s z,¬(s=r∧q<:+z)→G'.ad s z=G.ad s z:=fun s z h=>by rw[←hG'];simp only[Gh.st];rw[if_neg (fun h2=>h ⟨h2.1,h2.2.1⟩)]
 have gadf:∀y',p.tree.inT y'.reverse=true→G'.ad r (y'++q)=G.ad r (y'++q):=fun y' h=>by rw[←hG'];simp only[Gh.st,zJ3];rw[if_neg (by simp[h])]
 have gadm:∀s0 t y',p=.slot s0 t→t.inT y'.reverse=false→G'.ad r (y'++q)=G.ad s0 y':=fun s0 t y' h1 h2=>by subst h1;rw[←hG'];simp only[Gh.st,zJ3,yJ.tree];rw[if_pos];simp[h2]
 have glb:∀b' o' fl s z,G.lb b' o'=some (fl,s,z)→zFn p q s z=none→G'.lb b' o'=some (fl,s,z):=fun b' o' fl s z h1 h2=>by rw[←hG'];simp[Gh.st,h1,h2]
 have glbm:∀b' o' fl s z z',G.lb b' o'=some (fl,s,z)→zFn p q s z=some z'→G'.lb b' o'=some (fl,r,z'):=fun b' o' fl s z z' h1 h2=>by rw[←hG'];simp[Gh.st,h1,h2]
 have gow:∀b' s z,G.ow b'=some (s,z)→zFn p q s z=none→G'.ow b'=some (s,z):=fun b' s z h1 h2=>by rw[←hG'];simp[Gh.st,h1,h2]
 have gowm:∀b' s z z',G.ow b'=some (s,z)→zFn p q s z=some z'→G'.ow b'=some (r,z'):=fun b' s z z' h1 h2=>by rw[←hG'];simp[Gh.st,h1,h2]
 have hphi:∀s z,(∀n,(s,n)∉(r,q.length)::tL [p])→zFn p q s z=none:=by
  intro s z h;cases p with
  |zero u=>rfl
  |slot s0 t=>
   simp only[zFn];rw[if_neg];intro h2;simp only[J4,beq_iff_eq]at h2;obtain⟨h3,rfl⟩:=h2;exact h 1 (by simp[tL,xG,h3])
 have hphir:∀z,zFn p q r z=none:=by
  intro z;cases p with
  |zero u=>rfl
  |slot s0 t=>
   simp only[zFn];rw[if_neg];intro h2;simp only[J4,beq_iff_eq]at h2;obtain⟨h3,rfl⟩:=h2;have:=(Ll.1 hps.dist).1;simp[xG,h3]at this
 have hoffq:∀s z,Off ((r,q.length)::tL [p]) s z→ ¬(s=r∧q<:+z):=by
  rintro s z h ⟨rfl,h2⟩
  have:=h q.length (by simp);have:=h2.length_le;omega
 have hkeep:sX ((r,q.length)::tL [p]) G w G' w':=by
  refine⟨fun s z h=>ghd' s z (hoffq s z h),fun s z h=>gad s z (hoffq s z h),fun b' o' fl s z _ h1 h2=>⟨glb b' o' fl s z h1 (hphi s z h2),hcellr b' o' fl s z h1 ?_⟩,fun b' s z h1 h2=>gow b' s z h1 (hphi s z h2),hblk'⟩
  rintro⟨rfl,_⟩
  exact h2 q.length (by simp)
 have hBb:zBA Γ w b:=by obtain⟨y',h4⟩:=zI2 u0 q b ob 0 hloc (by omega);exact hm.lb _ _ _ h4
 have hmem:Mem Γ G' w':=by
  refine⟨fun s z=>?_,fun b' o' l hl=>?_,fun b' l hl=>?_,fun b' x' hx'=>?_,fun b' h1 h2=>?_,by rw[hsize];exact hm.sz,hm.bk.trans hblk' (by rw[←hw'];rfl) (by rw[←hw'];rfl)⟩
  ·by_cases h:s=r∧q<:+z
   ·obtain⟨rfl,y',rfl⟩:=h
    rw[ghd];unfold sHd;split
    ·exact hm.one _ _
    ·exact zA6 _
   ·rw[ghd' s z h];exact hm.one s z
  ·have:∃l',G.lb b' o'=some l':=by
    rw[←hG']at hl;simp only[Gh.st]at hl;split at hl
    ·exact⟨_,by assumption⟩
    ·cases hl
   obtain⟨l',hl'⟩:=this;have:=hm.lb b' o' l' hl';exact⟨by rw[hsize];exact this.1,this.2⟩
  ·have:∃l',G.ow b'=some l':=by
    rw[←hG']at hl;simp only[Gh.st]at hl;split at hl
    ·exact⟨_,by assumption⟩
    ·cases hl
   obtain⟨l',hl'⟩:=this;have:=hm.ow b' l' hl';exact⟨by rw[hsize];exact this.1,this.2⟩
  ·have hb:b'≠b:=by rintro rfl;rw[hBb.2.2]at hx';cases hx'
   rw[hold b' hb];exact hm.st b' x' hx'
  ·have hb:b'≠b:=by
    rintro rfl
    rcases hBb.2.1 with h3|h3
    ·omega
    ·exact h2 h3
   rw[hold b' hb];exact hm.fr b' h1 h2
 have hupd:Upd G w G' w' r q:=by refine⟨fun z h=>ghd' r z (fun h2=>h h2.2),fun z h=>gad r z (fun h2=>h h2.2),fun b' o' fl z h1 h=>⟨glb b' o' fl r z h1 (hphir z),hcellr b' o' fl r z h1 (fun h2=>h h2.2)⟩,fun b' z h1 _=>gow b' r z h1 (hphir z),hblk'⟩
 have hru:R Γ.St G' w' r p.tree q:=by
  cases hp:p with
  |zero u=>
   refine zI0 u q (hps.zero u (by simp[hp])) (fun z=>by rw[ghd];simp[sHd,hp])
  |slot s0 t=>
   obtain⟨h1,h2,h3⟩:=hps.slot s0 t (by simp[hp]);have hrt:=(hrep.ent s0 t h1).2.1
   by_cases hmv:tK t=true
   ·have hs0r:s0≠r:=by
     rintro rfl
     have:=(Ll.1 hps.dist).1;simp[hp,xG,hmv]at this
    refine zJz t [] q h3 ⟨fun z=>by rw[ghd,J9];simp[sHd,hp],fun z hz=>by rw[J9];exact gadm s0 t z hp hz,fun b' o' fl z _ h4=>?_,fun b' z h4=>?_,hblk'⟩ (yP.mono (fun _ _=>False.elim) t h2) hrt
    ·rw[J9]at h4
     exact⟨glbm b' o' fl s0 z _ h4 (by simp[zFn,hp,hmv]),hcellr b' o' fl s0 z h4 (fun h5=>hs0r h5.1)⟩
    ·rw[J9]at h4
     exact gowm b' s0 z _ h4 (by simp[zFn,hp,hmv])
   ·have hh:G'.hd r q=G.hd s0 []:=by have:=ghd [];rw[Jp]at this;rw[this];simp[sHd,hp]
    cases t<;>simp[tK]at hmv<;>simp only[R,yJ.tree]at hrt ⊢ <;>rw[hh]<;>exact hrt
 have hvals:vals G' r p.tree q=tY G p:=by
  cases hp:p with
  |zero u=>exact zEj u q (hps.zero u (by simp[hp])) (fun z=>by rw[ghd];simp[sHd,hp])
  |slot s0 t=>exact zAk t [] q (fun z=>by rw[ghd];simp[sHd,hp])
 have hlocu:∀b' o',Loc G w r u0 q b' o'→Loc G' w' r p.tree q b' o':=by
  intro b' o' h1;have h2:b'=b∧o'=ob:=by have:=(zBb h1).symm.trans had;simp at this;exact this
  obtain⟨rfl,rfl⟩:=h2;refine zPG p.tree u0 q b' o' hsh (fun y' h=>gadf y' h) (fun b2 o2 y' h=>glb b2 o2 false r _ h (hphir _)) (fun j v hv=>?_) h1;rw[hvals]at hv;have hj:=(Ja.1 hv).1;have hpl:(tY G p).length=u0.size:=by rw[←hc,hcl]
  rw[hcellb,if_pos ⟨by omega,by omega⟩,show o'+j-o'=j from by omega];exact hv
 have hrset:R Γ.St G' w' r (tr.set q.reverse p.tree) []:=by
  have hrp:rp q.reverse []=q:=by simp[rp]
  refine zES q.reverse tr p.tree u0 [] (by rw[hrp];exact hupd) e4 hg hsu (yP.mono (fun _ _=>False.elim) tr (htr .any).2) (by rw[hrp];exact hlocu) (by rw[hrp];exact hru)
 have hst:=run_storeCells_at P b ob et (a.eval y).cells.toList 0 cs w hblk (by omega) hone;simp only[G7]at hst;rw[hw']at hst;refine⟨w',?_,G',wV hrep rfl hkeep hmem ?_ ?_⟩
 ·have hszv:(a.eval y).cells.size=ti.size:=by rw[hvs,hsz]
  simp[execOp,ho,hadr,had,Instr.storeAt,uU,storeVar,sizeOf,typeInfo,hi,hszv,hst]
 ·intro s hs
  simp only[Wr.find]at hs;split at hs
  ·cases hs
  ·rename_i hne
   refine⟨fun n hn=>?_,rfl⟩;simp only[Jv,Un.injEq]at hn;rcases hn with⟨h1,_⟩|hn
   ·exact hne h1.symm
   ·cases p with
    |zero u=>simp[tL,xG]at hn
    |slot s0 t=>
     by_cases hmv:tK t=true
     ·simp[tL,xG,hmv]at hn
      simp[sWr,hmv,Wr.find,hn.1.symm]at hs
     ·simp[tL,xG,hmv]at hn
 ·intro s t hs
  simp only[Wr.find]at hs;split at hs
  ·rename_i he
   subst he;simp at hs;subst hs;refine⟨?_,hrset,Top.of_clean _ (qN _ _ _ (htr .any).2 ?_)⟩
   ·rw[e3,xL (htr p.tree).1,xL hrs]
    congr 1
    exact(ghd' r [] (fun h=>hq0 (by simpa using h.2))).symm
   ·cases p with
    |zero u=>exact(zA7 u (hps.zero u (by simp))).1
    |slot s0 t=>exact(hps.slot s0 t (by simp)).2.1
  ·rename_i hne
   cases hp:p with
   |zero u=>simp[sWr,hp,Wr.find]at hs
   |slot s0 t0=>
    by_cases hmv:tK t0=true
    ·simp only[sWr,hp,hmv,if_true,Wr.find]at hs
     split at hs
     ·rename_i he
      subst he;simp at hs;subst hs;obtain⟨h1,h2,h3⟩:=hps.slot s0 t0 (by simp[hp]);refine zLz (G:=G) (hrep.ent s0 t0 h1).1 (by rintro xs rfl;simp[T.okTup]at h3) (fun z=>ghd' s0 z (fun h=>hne h.1.symm)) (fun z=>by rw[ghd];simp[sHd,hp]) (by rw[hp]at hru;exact hru)
     ·cases hs
    ·simp[sWr,hp,hmv,Wr.find]at hs
theorem zJ4(T':TypeId)(ti:TypeInfo)(x y:Operand)(r:Nat)(q:List Nat)(tr u0:T)(p:yJ)(ho:o.op=.store T' x y)(hdst:o.dst=none)
  (hi:P.info? T'=some ti)(hsz:ti.size=p.tree.size)(hpos:0<ti.size)(hx:opT E x=some (.addr r q))(hr:E r=some tr)(hrs:tr.single=true)(hg:tr.get q.reverse=some u0)(hl:tr.locd q.reverse=true)
  (hsh:wQ p.tree u0=true)(hy:jT E y p)(hps:uI E r [p]):
  xV P Γ o E (E.app ((r,some (tr.set q.reverse p.tree))::sWr r q p) ((r,q.length)::tL [p])):=
 zEm T' ti x y r q tr u0 p ho hdst hi hsz hpos (zAl.addr hx) hr hrs hg hl hsh hy hps
end
end Go.Ab

namespace Go.Ab
open Go
section
variable {G G':Gh}{s:Nat}
theorem zL0(xs:List T):∀(p:List Nat)(j:Nat),(∀k,j≤k→ ∀z,G'.hd s (z++(k::p))=G.hd s (z++(k::p)))→zY G' s xs p j=zY G s xs p j:=by
 induction xs with
 |nil=>intros;simp only[zY]
 |cons z zs ih=>
  intro p j h;simp only[zY];rw[zAk z (j::p) (j::p) (h j (Ji _)),ih p (j+1) (fun k hk=>h k (by omega))]
theorem zOm(xs:List T):∀(p:List Nat)(j i:Nat)(x y:T),xs[i]? =some x→(∀k,k≠j+i→ ∀z,G'.hd s (z++(k::p))=G.hd s (z++(k::p)))→
  vals G' s y ((j+i)::p)=vals G s x ((j+i)::p)→zY G' s (xs.set i y) p j=zY G s xs p j:=by
 induction xs with
 |nil=>intro p j i x y h;simp at h
 |cons z zs ih=>
  intro p j i x y h hz hy;cases i with
  |zero=>
   simp at h;subst h;simp only[Kq,zY];rw[show vals G' s y (j::p)=vals G s z (j::p)from by simpa using hy]
   congr 1
   exact zL0 zs p (j+1) (fun k hk=>hz k (by omega))
  |succ i=>
   simp only[Lo,zY];rw[zAk z (j::p) (j::p) (hz j (by omega)),ih p (j+1) i x y (by simpa using h) (fun k hk=>hz k (by omega)) (by rwa [show j+1+i=j+(i+1)from by omega])]
theorem zJ5:(f:List Nat)→ ∀(t u u0:T)(p:List Nat),t.get f=some u0→u0.single=true→u.single=true→(∀z,(rp f p<:+z→z=rp f p)→G'.hd s z=G.hd s z)→vals G' s (t.set f u) p=vals G s t p
 | [],t,u,u0,p,hg,h0,h1,hh=>by simp[T.get]at hg;subst hg;have:G'.hd s p=G.hd s p:=hh p (by simp[rp]);simp only[T.set];cases t<;>simp[T.single]at h0<;>cases u<;>simp[T.single]at h1<;>simp[vals,this]
 |i::f,t,u,u0,p,hg,h0,h1,hh=>by
  rw[zAi]at hh;have hp:G'.hd s p=G.hd s p:=hh p (fun h=>absurd h qT);cases t with
  |agg xs=>
   simp only[T.get]at hg;cases hx:xs[i]? with
   |none=>simp[hx]at hg
   |some x=>
    rw[hx]at hg;simp only[T.set,hx,vals];refine zOm xs p 0 i x _ hx (fun k hk z=>hh _ (fun h=>absurd h (qK (by omega) z))) ?_;rw[Jd];exact zJ5 f x u u0 (i::p) hg h0 h1 hh
  |tup xs=>
   simp only[T.get]at hg;cases hx:xs[i]? with
   |none=>simp[hx]at hg
   |some x=>simp[T.set,hx,vals,hp]
  |sl k xs=>simp only[T.set];split<;>simp[vals,hp]
  |ptr t=>simp only[T.set];split<;>simp[vals,hp]
  |_=>simp[T.get]at hg
theorem zJ6(f:List Nat)(t u u0:T)(p:List Nat)(hg:t.get f=some u0)(h0:u0.single=true)(h1:u.single=true)(hh:∀z,(rp f p<:+z→z=rp f p)→G'.hd s z=G.hd s z)(hnt:∀xs,t≠.tup xs):
  uY G' s (t.set f u) p=uY G s t p:=by
 have h:=zJ5 f t u u0 p hg h0 h1 hh;cases f with
 |nil=>
  simp[T.get]at hg;subst hg;have:G'.hd s p=G.hd s p:=hh p (by simp[rp]);simp only[T.set];cases t<;>simp[T.single]at h0<;>cases u<;>simp[T.single]at h1<;>simp[uY,this]
 |cons i f=>
  rw[zAi]at hh;have hp:G'.hd s p=G.hd s p:=hh p (fun h=>absurd h qT);cases t with
  |agg xs=>
   simp only[T.get]at hg;cases hx:xs[i]? with
   |none=>simp[hx]at hg
   |some x=>simp only[T.set,hx,vals]at h ⊢;simp only[uY,h]
  |tup xs=>exact absurd rfl (hnt xs)
  |sl k xs=>simp only[T.set];split<;>simp[uY,hp]
  |ptr t=>simp only[T.set];split<;>simp[uY,hp]
  |_=>simp[T.get]at hg
theorem zOn(xs:List T):∀(p:List Nat)(j:Nat),(∀k,j≤k→ ∀z,G'.hd s (z++(k::p))=G.hd s (z++(k::p)))→sW G' s xs p j=sW G s xs p j:=by
 induction xs with
 |nil=>intros;simp only[sW]
 |cons z zs ih=>
  intro p j h;simp only[sW];rw[zBa z (j::p) (j::p) (h j (Ji _)),ih p (j+1) (fun k hk=>h k (by omega))]
theorem zPH(xs:List T):∀(p:List Nat)(j i:Nat)(x y:T),xs[i]? =some x→(∀k,k≠j+i→ ∀z,G'.hd s (z++(k::p))=G.hd s (z++(k::p)))→
  uY G' s y ((j+i)::p)=uY G s x ((j+i)::p)→sW G' s (xs.set i y) p j=sW G s xs p j:=by
 induction xs with
 |nil=>intro p j i x y h;simp at h
 |cons z zs ih=>
  intro p j i x y h hz hy;cases i with
  |zero=>
   simp at h;subst h;simp only[Kq,sW];rw[show uY G' s y (j::p)=uY G s z (j::p)from by simpa using hy]
   congr 1
   exact zOn zs p (j+1) (fun k hk=>hz k (by omega))
  |succ i=>
   simp only[Lo,sW];rw[zBa z (j::p) (j::p) (hz j (by omega)),ih p (j+1) i x y (by simpa using h) (fun k hk=>hz k (by omega)) (by rwa [show j+1+i=j+(i+1)from by omega])]
def yX:T→Bool
 |.tup xs=>xs.all fun x=>match x with
  |.tup _=>false
  |_=>true
 |_=>true
theorem zI3(f:List Nat)(t u u0:T)(p:List Nat)(hg:t.get f=some u0)(h0:u0.single=true)(h1:u.single=true)(hh:∀z,(rp f p<:+z→z=rp f p)→G'.hd s z=G.hd s z)(hcomp:yX t=true):
  mkV G' s (t.set f u) p=mkV G s t p:=by
 by_cases ht:∃xs,t=.tup xs
 ·obtain⟨xs,rfl⟩:=ht
  cases f with
  |nil=>simp[T.get]at hg;subst hg;simp[T.single]at h0
  |cons i f=>
   rw[zAi]at hh;simp only[T.get]at hg;cases hx:xs[i]? with
   |none=>simp[hx]at hg
   |some x=>
    rw[hx]at hg;simp only[T.set,hx,mkV];rw[zPH xs p 0 i x _ hx (fun k hk z=>hh _ (fun h=>absurd h (qK (by omega) z)))];rw[Jd];refine zJ6 f x u u0 (i::p) hg h0 h1 hh ?_
    rintro ys rfl
    simp only[yX]at hcomp;have:=Ka.1 hcomp _ (Kc hx);simp at this
 ·have hnt:∀xs,t≠.tup xs:=fun xs e=>ht ⟨xs,e⟩
  rw[jD G s t p hnt,←zJ6 f t u u0 p hg h0 h1 hh hnt];refine jD G' s _ p ?_
  rintro xs hxs
  cases f with
  |nil=>simp[T.get]at hg;subst hg;simp only[T.set]at hxs;subst hxs;simp[T.single]at h1
  |cons i f=>cases t<;>simp only[T.set]at hxs<;>first|exact absurd rfl (hnt _)|(split at hxs<;>cases hxs)|cases hxs
end
theorem zD8:(f:List Nat)→ ∀(t u:T),Top t→zV u→Top (t.set f u)
 | [],t,u,_,hu=>by simpa[T.set]using Top.of_clean u hu
 |i::f,t,u,ht,hu=>by
  cases t with
  |sl k xs=>
   refine Top.of_clean _ (qN (i::f) _ u (by simpa only[Top,zV,yP]using ht) hu)
  |ptr t=>exact Top.of_clean _ (qN (i::f) _ u (by simpa only[Top,zV,yP]using ht) hu)
  |agg xs=>
   simp only[T.set];split
   ·rename_i x hx
    simp only[Top]at ht ⊢
    exact tops_set xs i _ ht (zD8 f x u (tops_get xs ht i x hx) hu)
   ·exact ht
  |tup xs=>
   simp only[T.set];split
   ·rename_i x hx
    simp only[Top]at ht ⊢
    exact tops_set xs i _ ht (zD8 f x u (tops_get xs ht i x hx) hu)
   ·exact ht
  |_=>simpa only[T.set]using ht
where
 tops_set:(xs:List T)→ ∀(i:Nat)(y:T),vQ xs→Top y→vQ (xs.set i y)
  | [],_,_,_,_=>by simp[vQ]
  |x::xs,0,y,h,hy=>by simp only[Kq,vQ]at h ⊢;exact⟨hy,h.2⟩
  |x::xs,i+1,y,h,hy=>by simp only[Lo,vQ]at h ⊢;exact⟨h.1,tops_set xs i y h.2 hy⟩
 tops_get:(xs:List T)→vQ xs→ ∀(i:Nat)(x:T),xs[i]? =some x→Top x
  | [],_,_,_,h=>by simp at h
  |y::ys,hk,i,x,h=>by
   simp only[vQ]at hk;cases i with
   |zero=>simp at h;subst h;exact hk.1
   |succ i=>exact tops_get ys hk.2 i x (by simpa using h)
def Gh.tr(G:Gh)(d:Nat)(g:List Nat)(r:Nat)(p:List Nat):Gh where
 hd s z:=if s=d∧g<:+z then G.hd r (z.take (z.length-g.length)++p)else G.hd s z
 ad s z:=if s=d∧g<:+z∧z≠g then G.ad r (z.take (z.length-g.length)++p)else G.ad s z
 lb b o:=match G.lb b o with
  |some (fl,s,z)=>if s=r∧p<:+z∧(fl=true∨z≠p)then some (fl,d,z.take (z.length-p.length)++g)else some (fl,s,z)
  |none=>none
 ow b:=match G.ow b with
  |some (s,z)=>if s=r∧p<:+z then some (d,z.take (z.length-p.length)++g)else some (s,z)
  |none=>none
theorem zEV{t:T}(h:t.single=true):t.size=1:=by cases t<;>simp[T.single]at h<;>simp[T.size]
theorem zFT{Γ:Ctx}{E:Env}{G:Gh}{tmps:Array Value}{w:World}(hrep:Rep Γ E G tmps w)(d:Nat)(g:List Nat)(r:Nat)(p:List Nat)(td tr u v0:T)(hd:E d=some td)(hg:td.get g.reverse=some v0)(hv0:v0.single=true)(hsame:G.hd d g=G.hd r p)(hr:E r=some tr)
  (hp:tr.get p.reverse=some u)(hu:u.single=true)(huc:zV u)(hdr:d≠r)(hok1:td.okB [(d,g.length+1),(r,p.length+1)]=true)(hok2:tr.okB [(d,g.length+1),(r,p.length+1)]=true)(hc1:yX td=true)(hc2:yX tr=true):
  Rep Γ (E.app [(d,some (td.set g.reverse u)),(r,some (if p=[]then .same d g else tr.set p.reverse .any))] [(d,g.length+1),(r,p.length+1)]) (G.tr d g r p) tmps w∧ ∀s z,¬(s=d∧g<:+z∧z≠g)→(G.tr d g r p).hd s z=G.hd s z:=by
 obtain⟨d1,d2,d3⟩:=hrep.ent d td hd;obtain⟨r1,r2,r3⟩:=hrep.ent r tr hr;have hm:=hrep.mem;have hru:=(jC p.reverse tr u [] r2 hp).1;simp only[rp,Kr,J9]at hru;have hblk:Blk w w:=fun b cs e' h=>⟨cs,h,rfl⟩
 generalize hG':G.tr d g r p=G'
 have ghd:∀z,G'.hd d (z++g)=G.hd r (z++p):=fun z=>by rw[←hG'];simp[Gh.tr]
 have ghd0:∀s z,¬(s=d∧g<:+z∧z≠g)→G'.hd s z=G.hd s z:=by
  intro s z h;rw[←hG'];simp only[Gh.tr]
  by_cases h2:s=d∧g<:+z
  ·have h3:z=g:=by
    rcases Decidable.em (z=g)with e|e
    ·exact e
    ·exact absurd ⟨h2.1,h2.2,e⟩ h
   subst h3;rw[if_pos h2,h2.1];simpa using hsame.symm
  ·rw[if_neg h2]
 have gad0:∀s z,¬(s=d∧g<:+z∧z≠g)→G'.ad s z=G.ad s z:=fun s z h=>by rw[←hG'];simp only[Gh.tr];rw[if_neg h]
 have gad:∀z,z≠[]→G'.ad d (z++g)=G.ad r (z++p):=fun z h=>by rw[←hG'];simp only[Gh.tr];rw[if_pos (by simpa using h)];simp
 have glb0:∀b o fl s z,G.lb b o=some (fl,s,z)→ ¬(s=r∧p<:+z∧(fl=true∨z≠p))→G'.lb b o=some (fl,s,z):=fun b o fl s z h1 h2=>by rw[←hG'];simp only[Gh.tr,h1];rw[if_neg h2]
 have glb:∀b o fl z,G.lb b o=some (fl,r,z++p)→(fl=true∨z≠[])→G'.lb b o=some (fl,d,z++g):=fun b o fl z h1 h2=>by rw[←hG'];simp only[Gh.tr,h1];rw[if_pos (by simpa using h2)];simp
 have gow0:∀b s z,G.ow b=some (s,z)→ ¬(s=r∧p<:+z)→G'.ow b=some (s,z):=fun b s z h1 h2=>by rw[←hG'];simp only[Gh.tr,h1];rw[if_neg h2]
 have gow:∀b z,G.ow b=some (r,z++p)→G'.ow b=some (d,z++g):=fun b z h1=>by rw[←hG'];simp only[Gh.tr,h1];rw[if_pos (by simp)];simp
 have hoff:∀s z,Off [(d,g.length+1),(r,p.length+1)] s z→ ¬(s=d∧g<:+z∧z≠g):=by
  rintro s z h ⟨rfl,⟨y,rfl⟩,h3⟩
  have:=h (g.length+1) (by simp);have:y=[]:=Jw (by simp at this;omega);exact h3 (by simp[this])
 have hkeep:sX [(d,g.length+1),(r,p.length+1)] G w G' w:=by
  refine⟨fun s z h=>ghd0 s z (hoff s z h),fun s z h=>gad0 s z (hoff s z h),fun b o fl s z _ h1 h2=>⟨glb0 b o fl s z h1 ?_,rfl⟩,fun b s z h1 h2=>gow0 b s z h1 ?_,hblk⟩
  ·rintro⟨rfl,_⟩;exact h2 (p.length+1) (by simp)
  ·rintro⟨rfl,_⟩;exact h2 (p.length+1) (by simp)
 have hmem:Mem Γ G' w:=by
  refine⟨fun s z=>?_,fun b o l hl=>?_,fun b l hl=>?_,hm.st,hm.fr,hm.sz,hm.bk⟩
  ·rw[←hG']
   simp only[Gh.tr];split
   ·exact hm.one _ _
   ·exact hm.one _ _
  ·have:∃l',G.lb b o=some l':=by
    rw[←hG']at hl;simp only[Gh.tr]at hl;split at hl
    ·exact⟨_,by assumption⟩
    ·cases hl
   obtain⟨l',hl'⟩:=this;exact hm.lb b o l' hl'
  ·have:∃l',G.ow b=some l':=by
    rw[←hG']at hl;simp only[Gh.tr]at hl;split at hl
    ·exact⟨_,by assumption⟩
    ·cases hl
   obtain⟨l',hl'⟩:=this;exact hm.ow b l' hl'
 have hrp:∀q:List Nat,rp q.reverse []=q:=fun q=>by simp[rp]
 have hud:R Γ.St G' w d u g:=by
  refine zAh (G:=G) (w:=w) (s:=r) (p:=p) ⟨⟨ghd,gad,fun b o f z hz _ hl=>⟨glb b o f z hl (.inr hz),rfl⟩,fun b z _ hl=>gow b z hl,hblk⟩,fun b o _ hl=>⟨by simpa using glb b o true [] (by simpa using hl) (.inl rfl),rfl⟩,fun b hl=>by simpa using gow b [] (by simpa using hl)⟩ u
   (yP.mono (fun _ _=>False.elim) u huc) hru
 have hupdd:Upd G w G' w d g:=⟨fun z h=>ghd0 d z (fun h2=>h h2.2.1),fun z h=>gad0 d z (fun h2=>h h2.2.1),fun b o f z h1 _=>⟨glb0 b o f d z h1 (fun h2=>hdr h2.1),rfl⟩,fun b z h1 _=>gow0 b d z h1 (fun h2=>hdr h2.1),hblk⟩;have hlocd:∀b o,Loc G w d v0 g b o→Loc G' w d u g b o:=by intro b o h1;obtain⟨h2,h3,h4⟩:=wN hv0 h1;have h5:G'.ad d g=⟨b,o,none⟩∧G'.lb b o=some (false,d,g)∧yG w b o=some (G'.hd d g):=⟨(gad0 d g (fun h=>h.2.2 rfl)).trans h2,glb0 b o false d g h3 (fun h=>hdr h.1),by rw[h4,ghd0 d g (fun h=>h.2.2 rfl)]⟩;cases u<;>simp[T.single]at hu<;>simpa only[Loc]using h5
 have hRd:R Γ.St G' w d (td.set g.reverse u) []:=
  zES g.reverse td u v0 [] (by rw[hrp];exact hupdd) d2 hg (by rw[zEV hv0,zEV hu]) (hkeep.keepR (jZ td d3 hok1)) (by rw[hrp];exact hlocd) (by rw[hrp];exact hud)
 have hVd:mkV G' d (td.set g.reverse u) []=mkV G d td []:=
  zI3 g.reverse td u v0 [] hg hv0 hu (fun z hz=>ghd0 d z (fun h2=>h2.2.2 (by rw[hrp]at hz;exact hz h2.2.1))) hc1
 have hRr:p≠[]→R Γ.St G' w r (tr.set p.reverse .any) []:=by intro hp0;refine zES p.reverse tr .any u [] (by rw[hrp];exact⟨fun z _=>ghd0 r z (fun h2=>hdr h2.1.symm),fun z _=>gad0 r z (fun h2=>hdr h2.1.symm),fun b o f z h1 h=>⟨glb0 b o f r z h1 (fun h2=>h h2.2.1),rfl⟩,fun b z h1 h=>gow0 b r z h1 (fun h2=>h h2.2),hblk⟩) r2 hp (by cases u<;>simp[T.single]at hu<;>simp[T.size]) (hkeep.keepR (jZ tr r3 hok2)) ?_ (by simp only[R]);rw[hrp];intro b o h1;obtain⟨h2,h3,h4⟩:=wN hu h1;simp only[Loc];exact⟨(gad0 r p (fun h=>hdr h.1.symm)).trans h2,glb0 b o false r p h3 (by simp),by rw[h4,ghd0 r p (fun h=>hdr h.1.symm)]⟩
 have hVr:p≠[]→mkV G' r (tr.set p.reverse .any) []=mkV G r tr []:=fun _=>
  zI3 p.reverse tr .any u [] hp hu rfl (fun z _=>ghd0 r z (fun h2=>hdr h2.1.symm)) hc2
 refine⟨wV hrep rfl hkeep hmem ?_ ?_,ghd0⟩
 ·intro s hs
  simp only[Wr.find]at hs;split at hs
  ·cases hs
  ·rename_i h1
   split at hs
   ·cases hs
   ·rename_i h2
    refine⟨fun n hn=>?_,rfl⟩;simp only[Jv,Un.injEq,List.not_mem_nil,or_false]at hn;rcases hn with⟨e,_⟩|⟨e,_⟩
    ·exact h1 e.symm
    ·exact h2 e.symm
 ·intro s t hs
  simp only[Wr.find]at hs;split at hs
  ·rename_i he
   subst he;simp at hs;subst hs;exact⟨by rw[d1,hVd],hRd,zD8 _ _ _ d3 huc⟩
  ·split at hs
   ·rename_i he
    subst he;simp at hs
    by_cases hp0:p=[]
    ·rw[if_pos hp0]at hs
     subst hs;subst hp0;simp[T.get]at hp;subst hp;refine⟨?_,?_,by simp[Top]⟩
     ·rw[r1,xL hu,xL rfl,ghd0 r [] (fun h=>hdr h.1.symm)]
     ·simp only[R]
      rw[ghd0 r [] (fun h=>hdr h.1.symm)];have:=ghd [];simpa using this.symm
    ·rw[if_neg hp0]at hs
     subst hs;exact⟨by rw[r1,hVr hp0],hRr hp0,zD8 _ _ _ r3 (by simp[zV,yP])⟩
   ·cases hs
theorem zL1{Γ:Ctx}{E:Env}{a:Act}{w:World}(h:Sim Γ E a w)(d:Nat)(g:List Nat)(r:Nat)(p:List Nat)(td tr u:T)(hd:E d=some td)(hg:td.get g.reverse=some (.same r p))(hr:E r=some tr)
  (hp:tr.get p.reverse=some u)(hu:u.single=true)(huc:zV u)(hdr:d≠r)(hok1:td.okB [(d,g.length+1),(r,p.length+1)]=true)(hok2:tr.okB [(d,g.length+1),(r,p.length+1)]=true)(hc1:yX td=true)(hc2:yX tr=true):
  Sim Γ (E.app [(d,some (td.set g.reverse u)),(r,some (if p=[]then .same d g else tr.set p.reverse .any))] [(d,g.length+1),(r,p.length+1)]) a w:=by
 obtain⟨hdf,G,hrep⟩:=h;have hsame:=(jC g.reverse td _ [] (hrep.ent d td hd).2.1 hg).1;simp only[rp,Kr,J9,R]at hsame;exact⟨hdf,_,(zFT hrep d g r p td tr u _ hd hg rfl hsame hr hp hu huc hdr hok1 hok2 hc1 hc2).1⟩
end Go.Ab

namespace Go.Ab
open Go
theorem zI4{St:Stb}{G:Gh}{w:World}{s:Nat}{k:Nat}:(xs:List T)→ ∀(p:List Nat)(j b o:Nat),(∀i x,xs[i]? =some x→Loc G w s x ((j+i)::p) b (o+i*k)∧x.size=k∧R St G w s x ((j+i)::p))→RL St G w s xs p j b o k
 | [],_,_,_,_,_=>by simp only[RL]
 |x::xs,p,j,b,o,h=>by
  obtain⟨h1,h2,h3⟩:=h 0 x (by simp);simp only[RL];refine⟨⟨by simpa using h1,h2⟩,by simpa using h3,zI4 xs p (j+1) b (o+k) (fun i y hy=>?_)⟩;have:=h (i+1) y (by simpa using hy)
  rwa [show j+(i+1)=j+1+i from by omega,show o+(i+1)*k=o+k+i*k from by rw[Kf];omega]at this
theorem kS{St:Stb}{G:Gh}{w:World}{s:Nat}{k:Nat}:(xs:List T)→ ∀(p:List Nat)(j b o:Nat),RL St G w s xs p j b o k→wS G w s xs p j b o
 | [],_,_,_,_,_=>by simp only[wS]
 |x::xs,p,j,b,o,h=>by simp only[RL]at h;simp only[wS];exact⟨h.1.1,kS xs p (j+1) b (o+x.size) (by rw[h.1.2];exact h.2.2)⟩
theorem zAA{St:Stb}{G:Gh}{w:World}{s:Nat}{k:Nat}:(xs:List T)→ ∀(p:List Nat)(j b o:Nat),RL St G w s xs p j b o k→RF St G w s xs p j∧ ∀x∈xs,x.size=k
 | [],_,_,_,_,_=>by simp[RF]
 |x::xs,p,j,b,o,h=>by simp only[RL]at h;obtain⟨h1,h2⟩:=zAA xs p (j+1) b (o+k) h.2.2;exact⟨by simp only[RF];exact⟨h.2.1,h1⟩,fun y hy=>by rcases Jv.1 hy with rfl|hy;exact h.1.2;exact h2 y hy⟩
section
variable {G:Gh}{w:World}{G':Gh}{w':World}{s s':Nat}
mutual
theorem zFU:(t:T)→ ∀(p p':List Nat)(b o:Nat),(∀z,G'.hd s' (z++p')=G.hd s (z++p))→(∀z,G'.ad s' (z++p')=G.ad s (z++p))→
  (∀b o z,G.lb b o=some (false,s,z++p)→G'.lb b o=some (false,s',z++p')∧yG w' b o=yG w b o)→Loc G w s t p b o→Loc G' w' s' t p' b o
 |.agg xs,p,p',b,o,hh,ha,hl,h=>by
  simp only[Loc]at h ⊢
  exact⟨by have:=ha [];simp at this;rw[this];exact h.1,zH4 xs p p' 0 b o hh ha hl h.2⟩
 |.any,p,p',b,o,hh,ha,hl,h|.lit _,p,p',b,o,hh,ha,hl,h|.ro _,p,p',b,o,hh,ha,hl,h|.same _ _,p,p',b,o,hh,ha,hl,h|.addr _ _,p,p',b,o,hh,ha,hl,h|.sub _ _ _ _ _,p,p',b,o,hh,ha,hl,h|.sl _ _,p,p',b,o,hh,ha,hl,h|.ptr _,p,p',b,o,hh,ha,hl,h=>by
  simp only[Loc]at h ⊢
  have h1:=hl b o [] (by simpa using h.2.1);have h2:=ha [];have h3:=hh [];simp only[Jp]at h1 h2 h3;exact⟨h2.trans h.1,h1.1,by rw[h1.2,h.2.2,h3]⟩
 |.tup _,_,_,_,_,_,_,_,h=>by simp only[Loc]at h
theorem zH4:(xs:List T)→ ∀(p p':List Nat)(j b o:Nat),(∀z,G'.hd s' (z++p')=G.hd s (z++p))→(∀z,G'.ad s' (z++p')=G.ad s (z++p))→
  (∀b o z,G.lb b o=some (false,s,z++p)→G'.lb b o=some (false,s',z++p')∧yG w' b o=yG w b o)→wS G w s xs p j b o→wS G' w' s' xs p' j b o
 | [],_,_,_,_,_,_,_,_,_=>by simp only[wS]
 |x::xs,p,p',j,b,o,hh,ha,hl,h=>by
  simp only[wS]at h ⊢
  exact⟨zFU x (j::p) (j::p') b o (fun z=>by have:=hh (z++[j]);simpa using this) (fun z=>by have:=ha (z++[j]);simpa using this) (fun b o z hz=>by have:=hl b o (z++[j]) (by simpa using hz);simpa using this) h.1,
   zH4 xs p p' (j+1) b _ hh ha hl h.2⟩
end
end
theorem zD9(G:Gh)(s:Nat):∀(xs us:List T)(p:List Nat)(j:Nat),zY G s (xs++us) p j=zY G s xs p j++zY G s us p (j+xs.length)
 | [],us,p,j=>by simp[zY]
 |x::xs,us,p,j=>by simp[zY,zD9 G s xs us p (j+1),Lv,Jc9 1]
theorem zDA:∀(xs us:List T),T.sizes (xs++us)=T.sizes xs+T.sizes us
 | [],us=>by simp[T.sizes]
 |x::xs,us=>by simp[T.sizes,zDA xs us,Lv]
theorem zCF:∀(xs us:List T),yN xs=true→yN us=true→yN (xs++us)=true
 | [],us,_,h=>h
 |x::xs,us,h,h'=>by
  simp only[yN,J4,Kh]at h ⊢
  exact⟨h.1,zCF xs us h.2 h'⟩
theorem zCG:∀(xs us:List T),xE xs→xE us→xE (xs++us)
 | [],us,_,h=>h
 |x::xs,us,h,h'=>by
  simp only[xE,xI,Kh]at h ⊢
  exact⟨h.1,zCG xs us h.2 h'⟩
theorem qV{St:Stb}{G:Gh}{w:World}{s:Nat}{k:Nat}:(xs:List T)→ ∀(p:List Nat)(j b o:Nat),wS G w s xs p j b o→yN xs=true
 | [],_,_,_,_,_=>rfl
 |x::xs,p,j,b,o,h=>by simp only[wS]at h;simp only[yN,J4];exact⟨one x (j::p) b o h.1,qV (St:=St) (k:=k) xs p (j+1) b _ h.2⟩
where
 one:(t:T)→ ∀(p:List Nat)(b o:Nat),Loc G w s t p b o→t.okTup=true
  |.agg xs,p,b,o,h=>by simp only[Loc]at h;simp only[T.okTup];exact qV (St:=St) (k:=k) xs p 0 b o h.2
  |.tup _,_,_,_,h=>by simp only[Loc]at h
  |.any,_,_,_,_|.lit _,_,_,_,_|.ro _,_,_,_,_|.same _ _,_,_,_,_|.addr _ _,_,_,_,_|.sub _ _ _ _ _,_,_,_,_|.sl _ _,_,_,_,_|.ptr _,_,_,_,_=>rfl
section
variable {P:Program}
structure zFV (P:Program) (t2:TypeId) (e:TypeId) (ti:TypeInfo) (xv:Value) (m:Nat) (nv:List Value) (w:World):Prop where
 arg:(∃e2 xa c,P.underlying t2=some (.slice e2)∧xv=.slice xa m c∧ ∀w2:World,w2.heap=w.heap→(Builtin.firstCells ti.size m (.slice xa m c)).run P w2=.ok nv.toArray w2)∨
  ∃k2 k3 z,P.underlying t2=some (.int k2)∧xv=.int k3 (m:Int)∧ti.zero=some z∧nv.toArray=Builtin.zeroCells z.cells m∧m*ti.bytes≤2 ^ 47∧z.cells.size=ti.size
theorem zDB{t t2 ty e:TypeId}{ti:TypeInfo}{xv:Value}{m:Nat}{nv:List Value}{w w':World}(ht:P.underlying t=some (.slice e))(hi:P.info? e=some ti)
  (hx:zFV P t2 e ti xv m nv w)(hm:m≤68719476736){base:Option Addr}{n cap:Nat}(hroom:n+m≤cap)
  (hst:(if let some a:=base then storeCells (a.add (n*ti.size)) nv else pure ():Sem Unit).run P w=.ok () w'):
  (Builtin.append_ #[t,t2] ty #[.slice base n cap,xv]).run P w=.ok (.slice base (n+m) cap) w':=by
 rcases hx.arg with⟨e2,xa,c,h1,rfl,h2⟩|⟨k2,k3,z,h1,rfl,h2,h3,h4,h5⟩
 ·have h2:=h2 w rfl
  cases base with
  |none=>
   simp at hst;subst hst;simp[Builtin.append_,run_underlying ht,run_underlying h1,sizeOf,typeInfo,hi,Builtin.lenOf,hroom,h2]
  |some a=>
   simp only at hst;simp[Builtin.append_,run_underlying ht,run_underlying h1,sizeOf,typeInfo,hi,Builtin.lenOf,hroom,h2,hst]
 ·have hwr:IntKind.i64.wrap (m:Int)=m:=by rw[IntKind.wrap_i64];omega
  have h48:¬(281474976710656<(m:Int)*(ti.bytes:Int)):=by
   have:((m*ti.bytes:Nat):Int)≤2 ^ 47:=by exact_mod_cast h4
   rw[Ld]at this;omega
  have hneg:¬((m:Int)<0):=by omega
  have hnv:nv=(Builtin.zeroCells z.cells m).toList:=by rw[←h3]
  by_cases hz:m*ti.size=0
  ·have hnv0:nv=[]:=by
    apply Jw;rw[hnv];simp[Builtin.zeroCells,h5,hz]
   subst hnv0;cases base with
   |none=>
    simp at hst;subst hst;simp[Builtin.append_,run_underlying ht,run_underlying h1,sizeOf,typeInfo,hi,asInt,asIntOf,hwr,h48,hneg,hroom,hz]
   |some a=>
    simp only[storeCells,Sem.run_pure]at hst;cases hst;simp[Builtin.append_,run_underlying ht,run_underlying h1,sizeOf,typeInfo,hi,asInt,asIntOf,hwr,h48,hneg,hroom,hz,storeCells]
  ·cases base with
   |none=>
    simp at hst;subst hst;simp[Builtin.append_,run_underlying ht,run_underlying h1,sizeOf,typeInfo,zeroValue,hi,h2,asInt,asIntOf,hwr,h48,hneg,hroom]
   |some a=>
    simp only[hnv]at hst;simp[Builtin.append_,run_underlying ht,run_underlying h1,sizeOf,typeInfo,zeroValue,hi,h2,asInt,asIntOf,hwr,h48,hneg,hroom,hz,hst]
theorem zI5{t t2 ty e:TypeId}{ti:TypeInfo}{z xv:Value}{m:Nat}{nv olds:List Value}{w:World}(ht:P.underlying t=some (.slice e))(hi:P.info? e=some ti)(hz:ti.zero=some z)
  (hx:zFV P t2 e ti xv m nv w){base:Option Addr}{n cap:Nat}(hgrow:cap<n+m)(hnm:n+m≤68719476736)(hb:ti.bytes≤2048)
  (hold:∀w2:World,w2.heap=w.heap→(Builtin.firstCells ti.size n (.slice base n cap)).run P w2=.ok olds.toArray w2):
  (Builtin.append_ #[t,t2] ty #[.slice base n cap,xv]).run P w=.ok (.slice (some ⟨w.heap.size,0,none⟩) (n+m) (grownCap w (n+m) cap e))
    (w.drew.alloc (.cells ((olds++nv).toArray++Builtin.zeroCells z.cells (grownCap w (n+m) cap e-(n+m))) e)):=by
 have hn:¬(n+m≤cap):=by omega
 have h63':¬(9223372036854775807<((n:Int)+(m:Int))):=by omega
 have hfit:=growslice_fits (need:=n+m) (old:=cap) (bytes:=ti.bytes) hgrow (Kt (Kn hnm hb) (by decide));have h48':¬(281474976710656<Builtin.nextslicecap (n+m) cap*ti.bytes):=by omega
 have ho:=hold w.drew rfl;rcases hx.arg with⟨e2,xa,c,h1,rfl,h2⟩|⟨k2,k3,z',h1,rfl,h2,h3,h4,h5⟩
 ·have h2:=h2 w.drew rfl
  simp[Builtin.append_,run_underlying ht,run_underlying h1,sizeOf,typeInfo,zeroValue,hi,hz,Builtin.lenOf,hn,h63',h48',Question.forced,h2,ho,newRow,grownCap]
  congr 2
  apply Jcc;simp
 ·have hwr:IntKind.i64.wrap (m:Int)=m:=by rw[IntKind.wrap_i64];omega
  have h48:¬(281474976710656<(m:Int)*(ti.bytes:Int)):=by
   have:((m*ti.bytes:Nat):Int)≤2 ^ 47:=by exact_mod_cast h4
   rw[Ld]at this;omega
  have hneg:¬((m:Int)<0):=by omega
  have hnv:nv=(Builtin.zeroCells z'.cells m).toList:=by rw[←h3]
  rw[hz]at h2;simp at h2;subst h2
  by_cases hz0:m*ti.size=0
  ·have hnv0:nv=[]:=by
    apply Jw;rw[hnv];simp[Builtin.zeroCells,h5,hz0]
   subst hnv0;simp[Builtin.append_,run_underlying ht,run_underlying h1,sizeOf,typeInfo,zeroValue,hi,hz,asInt,asIntOf,hwr,h48,hneg,hn,h63',h48',Question.forced,hz0,ho,newRow,grownCap]
  ·simp[Builtin.append_,run_underlying ht,run_underlying h1,sizeOf,typeInfo,zeroValue,hi,hz,asInt,asIntOf,hwr,h48,hneg,hn,h63',h48',Question.forced,hz0,ho,newRow,grownCap,←h3]
   congr 2
   apply Jcc;simp
end
def zDb(s0:Nat)(y:Option Nat)(n:Nat)(s:Nat)(z:List Nat):Option (List Nat):=
 if s=s0 then some z else if y=some s then(match z.getLast? with
  |some j=>some (z.dropLast++[n+j])
  |none=>none)else none
def Gh.ip(G:Gh)(d s0:Nat)(y:Option Nat)(b n k:Nat)(us:List T)(f2:Nat→List Nat→Value)(hdr:Value):Gh where
 hd s z:=if s=d then(match z.getLast? with
  |some i=>if i<n then G.hd s0 z else f2 (i-n) z.dropLast
  |none=>hdr)else G.hd s z
 ad s z:=if s=d then(match z.getLast? with
  |some i=>if i<n then G.ad s0 z else if(T.agg us).inT ((i-n)::z.dropLast.reverse)then⟨b,n*k+(T.agg us).offT ((i-n)::z.dropLast.reverse),none⟩else(match y with
   |some y=>G.ad y (z.dropLast++[i-n])
   |none=>default)
  |none=>default)else G.ad s z
 lb b' o:=if b'=b∧n*k≤o∧o<n*k+us.length*k then(match zB2 us [] n (o-n*k)with
  |some p=>some (false,d,p)
  |none=>none)else match G.lb b' o with
  |some (fl,s,z)=>(match zDb s0 y n s z with
   |some z'=>some (fl,d,z')
   |none=>some (fl,s,z))
  |none=>none
 ow b':=match G.ow b' with
  |some (s,z)=>(match zDb s0 y n s z with
   |some z'=>some (d,z')
   |none=>some (s,z))
  |none=>none
def aWr(d s0:Nat)(y:Option Nat)(k:Nat)(ts:List T):Wr:=(d,some (.sl k ts))::(s0,some .any)::(match y with
 |some y=>[(y,some .any)]
 |none=>[])
def zAd(d s0:Nat)(y:Option Nat):Chg:=(d,0)::(s0,1)::(match y with
 |some y=>[(y,1)]
 |none=>[])
structure zFW (Γ:Ctx) (E:Env) (G:Gh) (d s0:Nat) (y:Option Nat) (k n:Nat) (us:List T) (f2:Nat→List Nat→Value) (nv:List Value):Prop where
 size:∀u∈us,u.size=k
 tup:yN us=true
 clean:xE us
 one:∀j z,(f2 j z).oneCell'=true
 len:nv.length=us.length*k
 slot:∀y',y=some y'→y'≠d∧y'≠s0∧E y'=some (.sl k us)∧ ∀j z,f2 j z=G.hd y' (z++[j])
 none:y=none→ ∀(j:Nat) u,us[j]? =some u→ ∀(G2:Gh)(w2:World),(∀z,G2.hd d (z++[n+j])=f2 j z)→R Γ.St G2 w2 d u [n+j]
 vals:∀(G2:Gh),(∀j z,G2.hd d (z++[n+j])=f2 j z)→ ∀(o:Nat)(v:Value),(zY G2 d us [] n)[o]? =some v→nv[o]? =some v
theorem zJ7{G G2:Gh}{s d:Nat}:(xs:List T)→ ∀(p:List Nat)(j:Nat),(∀i,i<xs.length→ ∀z,G2.hd d (z++((j+i)::p))=G.hd s (z++((j+i)::p)))→zY G2 d xs p j=zY G s xs p j
 | [],_,_,_=>by simp only[zY]
 |x::xs,p,j,h=>by
  simp only[zY];have ih:zY G2 d xs p (j+1)=zY G s xs p (j+1):=zJ7 xs p (j+1) (fun i hi z=>by rw[show j+1+i=j+(i+1)from by omega];exact h (i+1) (by simpa using hi) z)
  rw[zAk x (j::p) (j::p) (by simpa using h 0 (by simp)),ih]
theorem zHf(z:List Nat):z=[]∨ ∃y i,z=y++[i]:=by
 rcases List.eq_nil_or_concat z with h|⟨y,i,h⟩
 ·exact .inl h
 ·exact .inr ⟨y,i,by simpa using h⟩
section
variable {P:Program}{Γ:Ctx}{E:Env}{d:Nat}
theorem zBe{G:Gh}{a:Act}{w:World}(hrep:Rep Γ E G a.tmps w)(hd:d<Γ.N){t t2 ty e:TypeId}{ti:TypeInfo}{z:Value}{k:Nat}(ht:P.underlying t=some (.slice e))(hi:P.info? e=some ti)(hz:ti.zero=some z)
  (hk:ti.size=k)(_hk0:0<k)(hzk:z.cells.size=k)(hb:ti.bytes≤2048){s0:Nat}{y:Option Nat}{xs us:List T}{f2:Nat→List Nat→Value}{nv:List Value}(hs0:E s0=some (.sl k xs))(hs0d:s0≠d)
  (hn:zFW Γ E G d s0 y k xs.length us f2 nv){xv:Value}(hx:zFV P t2 e ti xv us.length nv w)(hone:∀v∈nv,v.oneCell'=true)(hnm:xs.length+us.length≤68719476736):
  ∃v w',(Builtin.append_ #[t,t2] ty #[G.hd s0 [],xv]).run P w=.ok v w'∧ ∃G',Rep Γ (E.app (aWr d s0 y k (xs++us)) (zAd d s0 y)) G' (a.tmps.setIfInBounds d v) w':=by
 have hm:=hrep.mem;obtain⟨e1,e2,e3⟩:=hrep.ent s0 _ hs0;simp only[Top]at e3;simp only[R]at e2;have hsz_us:T.sizes us=us.length*k:=wE us hn.size;have fin:∀(G':Gh)(w':World)(v:Value),sX (zAd d s0 y) G w G' w'→Mem Γ G' w'→G'.hd d []=v→R Γ.St G' w' d (.sl k (xs++us)) []→(∀s p,s≠d→G'.hd s p=G.hd s p)→
   Rep Γ (E.app (aWr d s0 y k (xs++us)) (zAd d s0 y)) G' (a.tmps.setIfInBounds d v) w':=by
  intro G' w' v hkeep hmem hdv hRd hother;refine wV hrep (by simp) hkeep hmem ?_ ?_
  ·intro s hs
   have hne:s≠d:=by rintro rfl;simp[aWr,Wr.find]at hs
   have hne0:s≠s0:=by rintro rfl;simp[aWr,Wr.find,hne.symm]at hs
   have hney:∀y',y=some y'→s≠y':=by
    rintro y' rfl rfl
    simp[aWr,Wr.find,hne.symm,hne0.symm]at hs
   refine⟨fun n' hn'=>?_,by rw[Jb];simp[hne.symm]⟩;simp only[zAd,Jv,Un.injEq]at hn';rcases hn' with⟨h1,_⟩|⟨h1,_⟩|hn'
   ·exact hne h1
   ·exact hne0 h1
   ·cases y with
    |none=>simp at hn'
    |some y'=>simp at hn';exact hney y' rfl hn'.1
  ·intro s t' hs
   by_cases h1:s=d
   ·subst h1
    simp[aWr,Wr.find]at hs;subst hs;refine⟨?_,hRd,by simp only[Top];exact zCG xs us e3 hn.clean⟩;rw[Jb];simp[hrep.size,hd,mkV,hdv]
   ·have h3:t'=.any∧(s=s0∨y=some s):=by
     simp only[aWr,Wr.find]at hs;rw[if_neg (fun h=>h1 h.symm)]at hs;split at hs
     ·rename_i h2;simp at hs;exact⟨hs.symm,.inl h2.symm⟩
     ·cases y with
      |none=>simp[Wr.find]at hs
      |some y'=>
       simp only[Wr.find]at hs;split at hs
       ·rename_i h2;simp at hs;exact⟨hs.symm,.inr (by rw[h2])⟩
       ·cases hs
    obtain⟨rfl,h3⟩:=h3;refine⟨?_,by simp only[R],by simp[Top]⟩;rw[Jb];simp only[Ne.symm h1,if_false,mkV];rw[hother s [] h1];rcases h3 with rfl|h3
    ·exact e1
    ·obtain⟨_,_,h4,_⟩:=hn.slot s h3
     exact(hrep.ent s _ h4).1
 have hphi0:∀s p,(∀n',(s,n')∉zAd d s0 y)→zDb s0 y xs.length s p=none:=by
  intro s p h;have h1:s≠s0:=fun e=>h 1 (by simp[zAd,e])
  have h2:y≠some s:=fun e=>h 1 (by simp[zAd,e])
  simp[zDb,h1,h2]
 by_cases hroom:∃a' c,G.hd s0 []=.slice a' xs.length c∧xs.length+us.length≤c
 ·
  obtain⟨a',c,hh,hroom⟩:=hroom;rcases e2 with⟨rfl,a1,h1⟩|⟨b,cap,cs,et,h1,h2,h3,h4,h5,h6,h7,h8⟩
  ·rw[h1]at hh
   simp at hh;obtain⟨rfl,rfl⟩:=hh;have hus:us=[]:=Jw (by simp only[Lu]at hroom;omega);subst hus;have hnv:nv=[]:=Jw (by have:=hn.len;simp at this;simp[this]);subst hnv;have hrun:=zDB (P:=P) (t:=t) (ty:=ty) (w':=w) ht hi hx (by simp) (base:=a1) (n:=0) (cap:=0) (by simp) (by cases a1<;>rfl);refine⟨.slice a1 0 0,w,by rw[h1];exact hrun,G.put d (fun _=>.slice a1 0 0),fin _ w _ ?_ (hm.put rfl d _ (fun _=>rfl)) (by rw[Gh.put_self]) (by simp[R,Gh.put]) (fun s p h=>G.put_other _ p h)⟩;have:=G.put_keep (w:=w) (w':=w) rfl d (fun _=>.slice a1 0 0);exact⟨fun s p h=>this.hd s p (fun n hn=>h n (by simp at hn;simp[zAd,hn])),fun s p h=>this.ad s p (fun n hn=>h n (by simp at hn;simp[zAd,hn])),fun b o f s p h0 h1 h2=>this.lb b o f s p h0 h1 (fun n hn=>h2 n (by simp at hn;simp[zAd,hn])),fun b s p h1 h2=>this.ow b s p h1 (fun n hn=>h2 n (by simp at hn;simp[zAd,hn])),this.blk⟩
  ·rw[h1]at hh
   simp at hh;obtain⟨rfl,rfl⟩:=hh;have hmk':us.length*k+xs.length*k≤cap*k:=by rw[←Ux];exact L5 _ (by omega)
   have hmk:us.length*k+xs.length*k≤cs.size:=Kt hmk' h5
   generalize hw':w.setRow b (cs.toList.take (xs.length*k)++nv++cs.toList.drop (xs.length*k+nv.length)).toArray=w'
   have hnew:w'.heap[b]? =some (.cells (cs.toList.take (xs.length*k)++nv++cs.toList.drop (xs.length*k+nv.length)).toArray et (0,0)):=by rw[←hw'];exact setRow_heap w b cs _ et _ h2
   have hold:∀b',b'≠b→w'.heap[b']? =w.heap[b']?:=fun b' h=>by rw[←hw'];exact setRow_other w b b' _ h
   have hsize:w'.heap.size=w.heap.size:=by rw[←hw'];exact size_setRow w b _
   have hcsl:cs.toList.length=cs.size:=Ke ..;have hnl:=hn.len;have hcellb:∀i,yG w' b i=if xs.length*k≤i∧i<xs.length*k+us.length*k then nv[i-xs.length*k]? else yG w b i:=by
    intro i;simp only[yG,World.cell?,hnew,h2,Jaa,Hz,if_false];rw[←K5,←K5 (xs:=cs)];simp only[]
    by_cases g1:i<xs.length*k
    ·rw[if_neg (by omega),Jc,Jo (by simp;omega),Qf g1]
    ·by_cases g2:i<xs.length*k+us.length*k
     ·rw[if_pos ⟨by omega,g2⟩,Jc,J8 (by simp;omega),Jo (by simp;omega)]
      congr 1;simp;omega
     ·rw[if_neg (by omega),Jc,J8 (by simp;omega),J8 (by simp;omega),Ko]
      congr 1;simp;omega
   have hin:∀b' o fl s p,G.lb b' o=some (fl,s,p)→(fl,s,p)≠(true,s0,[])→ ¬(b'=b∧xs.length*k≤o∧o<xs.length*k+us.length*k):=by
    rintro b' o fl s p g1 g2 ⟨rfl,g3,g4⟩
    rw[h7 o g3 (by omega)]at g1;simp at g1;exact g2 (by simp[←g1.1,←g1.2.1,←g1.2.2])
   have hcell:∀b' o,¬(b'=b∧xs.length*k≤o∧o<xs.length*k+us.length*k)→yG w' b' o=yG w b' o:=by
    intro b' o g
    by_cases hb':b'=b
    ·subst hb'
     rw[hcellb,if_neg (fun g2=>g ⟨rfl,g2⟩)]
    ·simp[yG,World.cell?,hold b' hb']
   have hnewsz:((cs.toList.take (xs.length*k)++nv++cs.toList.drop (xs.length*k+nv.length)).toArray).size=cs.size:=by simp;omega
   have hblk':Blk w w':=by
    intro b' cs' e' g1
    by_cases hb':b'=b
    ·subst hb'
     rw[h2]at g1;simp at g1;obtain⟨rfl,rfl⟩:=g1;exact⟨_,hnew,hnewsz⟩
    ·exact⟨cs',by rw[hold b' hb'];exact g1,rfl⟩
   generalize hG':G.ip d s0 y b xs.length k us f2 (.slice (some ⟨b,0,none⟩) (xs.length+us.length) cap)=G'
   have ghdr:G'.hd d []=.slice (some ⟨b,0,none⟩) (xs.length+us.length) cap:=by rw[←hG'];simp[Gh.ip]
   have ghd1:∀i z,i<xs.length→G'.hd d (z++[i])=G.hd s0 (z++[i]):=fun i z g=>by rw[←hG'];simp[Gh.ip,g]
   have ghd2:∀j z,G'.hd d (z++[xs.length+j])=f2 j z:=fun j z=>by rw[←hG'];simp[Gh.ip,show¬xs.length+j<xs.length from by omega]
   have ghd0:∀s z,s≠d→G'.hd s z=G.hd s z:=fun s z g=>by rw[←hG'];simp[Gh.ip,g]
   have gad0:∀s z,s≠d→G'.ad s z=G.ad s z:=fun s z g=>by rw[←hG'];simp[Gh.ip,g]
   have gad1:∀i z,i<xs.length→G'.ad d (z++[i])=G.ad s0 (z++[i]):=fun i z g=>by rw[←hG'];simp[Gh.ip,g]
   have gad2:∀j f,(T.agg us).inT (j::f)=true→G'.ad d (f.reverse++[xs.length+j])=⟨b,xs.length*k+(T.agg us).offT (j::f),none⟩:=fun j f g=>by rw[←hG'];simp[Gh.ip,g,show¬xs.length+j<xs.length from by omega]
   have gad3:∀y' j z,y=some y'→(T.agg us).inT (j::z.reverse)=false→G'.ad d (z++[xs.length+j])=G.ad y' (z++[j]):=fun y' j z g1 g2=>by rw[←hG'];simp[Gh.ip,g1,g2,show¬xs.length+j<xs.length from by omega]
   have glb2:∀i p,i<us.length*k→zB2 us [] xs.length i=some p→G'.lb b (xs.length*k+i)=some (false,d,p):=fun i p g1 g2=>by rw[←hG'];simp only[Gh.ip];rw[if_pos (by simp;omega),show xs.length*k+i-xs.length*k=i from by omega,g2]
   have glb0:∀b' o fl s p,G.lb b' o=some (fl,s,p)→ ¬(b'=b∧xs.length*k≤o∧o<xs.length*k+us.length*k)→zDb s0 y xs.length s p=none→G'.lb b' o=some (fl,s,p):=fun b' o fl s p g1 g2 g3=>by rw[←hG'];simp only[Gh.ip];rw[if_neg g2,g1];simp[g3]
   have glb1:∀b' o fl s p p',G.lb b' o=some (fl,s,p)→ ¬(b'=b∧xs.length*k≤o∧o<xs.length*k+us.length*k)→zDb s0 y xs.length s p=some p'→G'.lb b' o=some (fl,d,p'):=fun b' o fl s p p' g1 g2 g3=>by rw[←hG'];simp only[Gh.ip];rw[if_neg g2,g1];simp[g3]
   have gow0:∀b' s p,G.ow b'=some (s,p)→zDb s0 y xs.length s p=none→G'.ow b'=some (s,p):=fun b' s p g1 g2=>by rw[←hG'];simp[Gh.ip,g1,g2]
   have gow1:∀b' s p p',G.ow b'=some (s,p)→zDb s0 y xs.length s p=some p'→G'.ow b'=some (d,p'):=fun b' s p p' g1 g2=>by rw[←hG'];simp[Gh.ip,g1,g2]
   have hphis:∀p,zDb s0 y xs.length s0 p=some p:=fun p=>by simp[zDb]
   have hphiy:∀y' z j,y=some y'→y'≠s0→zDb s0 y xs.length y' (z++[j])=some (z++[xs.length+j]):=fun y' z j g1 g2=>by simp[zDb,g1,g2]
   have hne:∀s p,Off (zAd d s0 y) s p→s≠d:=fun s p h e=>absurd (h 0 (by simp[zAd,e])) (by simp)
   have hkeep:sX (zAd d s0 y) G w G' w':=by
    refine⟨fun s p h=>ghd0 s p (hne s p h),fun s p h=>gad0 s p (hne s p h),fun b' o fl s p _ g1 g2=>?_,fun b' s p g1 g2=>gow0 b' s p g1 (hphi0 s p g2),hblk'⟩;have hs:s≠s0:=fun e=>g2 1 (by simp[zAd,e])
    have g3:=hin b' o fl s p g1 (by simp[hs]);exact⟨glb0 b' o fl s p g1 g3 (hphi0 s p g2),hcell b' o g3⟩
   have hBb:=hm.ow b _ h6;have hmem:Mem Γ G' w':=by
    refine⟨fun s z=>?_,fun b' o' l hl=>?_,fun b' l hl=>?_,fun b' x' hx'=>?_,fun b' g1 g2=>?_,by rw[hsize];exact hm.sz,hm.bk.trans hblk' (by rw[←hw'];rfl) (by rw[←hw'];rfl)⟩
    ·by_cases g:s=d
     ·subst g
      rcases zHf z with rfl|⟨z',i,rfl⟩
      ·rw[ghdr];rfl
      ·by_cases g1:i<xs.length
       ·rw[ghd1 i z' g1];exact hm.one _ _
       ·have:=ghd2 (i-xs.length) z'
        rw[show xs.length+(i-xs.length)=i from by omega]at this;rw[this];exact hn.one _ _
     ·rw[ghd0 s z g];exact hm.one _ _
    ·have:zBA Γ w b':=by
      rw[←hG']at hl;simp only[Gh.ip]at hl;split at hl
      ·rename_i g;rw[g.1];exact hBb
      ·split at hl
       ·rename_i g;exact hm.lb _ _ _ g
       ·cases hl
     exact⟨by rw[hsize];exact this.1,this.2⟩
    ·have:zBA Γ w b':=by
      rw[←hG']at hl;simp only[Gh.ip]at hl;split at hl
      ·rename_i g;exact hm.ow _ _ g
      ·cases hl
     exact⟨by rw[hsize];exact this.1,this.2⟩
    ·have hb':b'≠b:=by rintro rfl;rw[hBb.2.2]at hx';cases hx'
     rw[hold b' hb'];exact hm.st b' x' hx'
    ·have hb':b'≠b:=by
      rintro rfl
      rcases hBb.2.1 with g3|g3
      ·omega
      ·exact g2 g3
     rw[hold b' hb'];exact hm.fr b' g1 g2
   have hlocus:wS G' w' d us [] xs.length b (xs.length*k):=by
    refine zFw us [] xs.length b (xs.length*k) hn.tup (fun i x hx' f hf=>?_) (fun i p' g1 g2=>glb2 i p' (by omega) g2) (fun i v hv=>?_)
    ·have:=gad2 i f (by simp only[T.inT,hx'];exact hf)
     simpa[T.offT,hx']using this
    ·have g1:=hn.vals G' ghd2 i v hv
     have g2:=(Ja.1 g1).1;rw[hcellb,if_pos ⟨by omega,by omega⟩,show xs.length*k+i-xs.length*k=i from by omega];exact g1
   have hRd:R Γ.St G' w' d (.sl k (xs++us)) []:=by
    simp only[R];rw[ghdr];refine .inr ⟨b,cap,_,et,by simp,hnew,by simp;omega,h4,by rw[hnewsz];exact h5,gow1 b s0 [] [] h6 (hphis []),?_,zI4 _ _ _ _ _ (fun i x hx'=>?_)⟩
    ·intro o g1 g2
     rw[J6,Ux]at g1;exact glb1 b o true s0 [] [] (h7 o (by omega) g2) (by omega) (hphis [])
    ·rw[Kz]at hx'
     simp only[Jd];split at hx'
     ·rename_i hlt
      obtain⟨g1,g2,g3⟩:=qJ xs [] 0 b 0 k i x h8 hx';simp only[Jd]at g1 g3;have hl1:∀b' o fl z,G.lb b' o=some (fl,s0,z++[i])→G'.lb b' o=some (fl,d,z++[i])∧yG w' b' o=yG w b' o:=fun b' o fl z g=>by have g4:=hin b' o fl s0 _ g (by simp);exact⟨glb1 b' o fl s0 _ _ g g4 (hphis _),hcell b' o g4⟩
      refine⟨zFU x [i] [i] b _ (fun z=>ghd1 i z hlt) (fun z=>gad1 i z hlt) (fun b' o z g=>hl1 b' o false z g) g1,g2,?_⟩;refine zAh (G:=G) (w:=w) (s:=s0) (p:=[i]) ⟨⟨fun z=>ghd1 i z hlt,fun z _=>gad1 i z hlt,fun b' o f z _ _ g=>hl1 b' o f z g,fun b' z _ g=>gow1 b' s0 _ _ g (hphis _),hblk'⟩,fun b' o _ g=>?_,fun b' g=>gow1 b' s0 _ _ g (hphis _)⟩ x (yP.mono (fun _ _=>False.elim) x (vS xs e3 i x hx')) g3;have:=hl1 b' o true [] (by simpa using g);simpa using this
     ·rename_i hge
      obtain⟨j,rfl⟩:∃j,i=xs.length+j:=⟨i-xs.length,by omega⟩;rw[show xs.length+j-xs.length=j from by omega]at hx';have g1:=zBB us [] xs.length b (xs.length*k) j x hlocus hx';rw[show T.sizes (us.take j)=j*k from by rw[wE _ (fun u hu=>hn.size u (Gl hu)),Jt,Lp (by have:=(Ja.1 hx').1;omega)],←Ux]at g1
      refine⟨g1,hn.size x (Kc hx'),?_⟩;cases hy:y with
      |none=>exact hn.none hy j x hx' G' w' (fun z=>ghd2 j z)
      |some y'=>
       obtain⟨y1,y2,y3,y4⟩:=hn.slot y' hy;obtain⟨_,y5,_⟩:=hrep.ent y' _ y3;simp only[R]at y5;rcases y5 with⟨rfl,_⟩|⟨b2,cap2,cs2,et2,_,_,_,_,_,_,_,y6⟩
       ·simp at hx'
       ·obtain⟨_,_,y7⟩:=qJ us [] 0 b2 0 k j x y6 hx'
        simp only[Jd]at y7;refine zJz x [j] [xs.length+j] (zCs.okTups_get us hn.tup j x hx') ⟨fun z=>by rw[ghd2,y4],fun z g=>gad3 y' j z hy (by simp only[T.inT,hx'];exact g),fun b' o fl z _ g=>?_,fun b' z g=>gow1 b' y' _ _ g (hphiy y' z j hy y2),hblk'⟩ (yP.mono (fun _ _=>False.elim) x (vS us hn.clean j x hx')) y7;have g4:=hin b' o fl y' _ g (by simp[y2]);exact⟨glb1 b' o fl y' _ _ g g4 (hphiy y' z j hy y2),hcell b' o g4⟩
   have hst:=run_storeCells_at P b (xs.length*k) et nv 0 cs w h2 (by omega) hone;simp only[G7]at hst;rw[hw']at hst;have hrun:=zDB (P:=P) (t:=t) (ty:=ty) (w':=w') ht hi hx (by omega) (base:=some ⟨b,0,none⟩) hroom (by simp only[hk,vN,Jd];exact hst);refine⟨_,w',by rw[h1];exact hrun,G',fin G' w' _ hkeep hmem ghdr hRd ghd0⟩
 ·
  have hbase:∃a' c,G.hd s0 []=.slice a' xs.length c∧ ∀w2:World,w2.heap=w.heap→(Builtin.firstCells ti.size xs.length (.slice a' xs.length c)).run P w2=.ok (zY G s0 xs [] 0).toArray w2:=by
   rcases e2 with⟨rfl,a1,h1⟩|⟨b,cap,cs,et,h1,h2,h3,h4,h5,h6,h7,h8⟩
   ·exact⟨a1,0,h1,fun w2 _=>by cases a1<;>simp[Builtin.firstCells,loadCells,loadCellsFrom,zY]⟩
   ·refine⟨_,_,h1,fun w2 hw2=>?_⟩
    have hl:=kS xs [] 0 b 0 h8;refine run_firstCells_some (P:=P) w2 ti.size xs.length ⟨b,0,none⟩ _ _ _ ?_ (fun j v hv=>?_)
    ·rw[xZ,hk]
     exact wE xs (zAA xs [] 0 b 0 h8).2
    ·have:=zA5 xs [] 0 b 0 hl j v hv
     rw[vN];simp only[yG]at this;simpa[World.cell?,hw2]using this
  obtain⟨a',c,hh,hold⟩:=hbase;have hxs:yN xs=true∧(∀x∈xs,x.size=k)∧ ∀i x,xs[i]? =some x→R Γ.St G w s0 x [i]:=by
   rcases e2 with⟨rfl,a1,h1⟩|⟨b,cap,cs,et,h1,h2,h3,h4,h5,h6,h7,h8⟩
   ·simp[yN]
   ·refine⟨qV (St:=Γ.St) (k:=k) xs [] 0 b 0 (kS xs [] 0 b 0 h8),(zAA xs [] 0 b 0 h8).2,fun i x hx'=>?_⟩
    have:=(qJ xs [] 0 b 0 k i x h8 hx').2.2;simpa using this
  have hgrow:c<xs.length+us.length:=by
   rcases Jf c (xs.length+us.length)with g|g
   ·exact g
   ·exact absurd ⟨a',c,hh,g⟩ hroom
  have hrun:=zI5 (P:=P) (t:=t) (ty:=ty) ht hi hz hx hgrow hnm hb hold;have hge:=grownCap_ge w (xs.length+us.length) c e;have hcm:=grownCap_le_maxLen w (xs.length+us.length) c e (by simp only[maxLen];omega)
  generalize grownCap w (xs.length+us.length) c e=cap' at hrun hge hcm
  generalize hw':w.drew.alloc (.cells ((zY G s0 xs [] 0++nv).toArray++Builtin.zeroCells z.cells (cap'-(xs.length+us.length))) e)=w' at hrun
  have hwh:w'.heap=w.heap.push (.cells ((zY G s0 xs [] 0++nv).toArray++Builtin.zeroCells z.cells (cap'-(xs.length+us.length))) e):=by rw[←hw'];rfl
  have hszxs:T.sizes xs=xs.length*k:=wE xs hxs.2.1;obtain⟨g1,g2,g3,g4,g5⟩:=zCs hm hwh d (xs++us) (fun i=>if i<xs.length then some (s0,[i])else y.map fun y'=>(y',[i-xs.length])) (zDb s0 y xs.length) (fun i z=>if i<xs.length then G.hd s0 (z++[i])else f2 (i-xs.length) z) (.slice (some ⟨w.heap.size,0,none⟩) (xs.length+us.length) cap') ((zAd d s0 y).tail)
   (zCF xs us hxs.1 hn.tup) (fun i z=>by split;exact hm.one _ _;exact hn.one _ _) rfl
   (fun i u x q z' hu hs=>by
    split at hs
    ·simp at hs;obtain⟨rfl,rfl⟩:=hs;simp[zDb]
    ·rename_i hge'
     cases y with
     |none=>simp at hs
     |some y'=>
      simp at hs;obtain⟨rfl,rfl⟩:=hs;have:=(hn.slot y' rfl).2.1;simp[zDb,this,show xs.length+(i-xs.length)=i from by omega])
   (fun i u x q hu hs=>by
    rw[Kz]at hu;split at hs
    ·rename_i hlt
     rw[if_pos hlt]at hu;simp at hs;obtain⟨rfl,rfl⟩:=hs;exact⟨fun z'=>by simp[hlt],hxs.2.2 i u hu,vS xs e3 i u hu,hs0d⟩
    ·rename_i hge'
     rw[if_neg hge']at hu;cases hy:y with
     |none=>rw[hy]at hs;simp at hs
     |some y'=>
      rw[hy]at hs;simp at hs;obtain⟨rfl,rfl⟩:=hs;obtain⟨y1,y2,y3,y4⟩:=hn.slot y' hy;obtain⟨_,y5,_⟩:=hrep.ent y' _ y3;simp only[R]at y5;refine⟨fun z'=>by simp[hge',y4],?_,vS us hn.clean _ u hu,y1⟩;rcases y5 with⟨rfl,_⟩|⟨b2,cap2,cs2,et2,_,_,_,_,_,_,_,y6⟩
      ·simp at hu
      ·have:=(qJ us [] 0 b2 0 k _ u y6 hu).2.2
       simpa using this)
   (fun i u hu hs G2 w2 hG2=>by
    rw[Kz]at hu;split at hs
    ·cases hs
    ·rename_i hge'
     rw[if_neg hge']at hu;cases hy:y with
     |some y'=>rw[hy]at hs;simp at hs
     |none=>
      have:=hn.none hy (i-xs.length) u hu G2 w2 (fun z'=>by rw[show xs.length+(i-xs.length)=i from by omega,hG2,if_neg hge'])
      rwa [show xs.length+(i-xs.length)=i from by omega]at this)
   (fun G2 hG2 o v hv=>by
    rw[zD9,Jd]at hv;have h1:zY G2 d xs [] 0=zY G s0 xs [] 0:=zJ7 xs [] 0 (fun i hi' z'=>by rw[Jd,hG2,if_pos hi']);rw[h1]at hv;have hl1:(zY G s0 xs [] 0).length=xs.length*k:=by rw[xZ,hszxs]
    have hl2:(zY G2 d us [] xs.length).length=us.length*k:=by rw[xZ,hsz_us]
    have ho:o<xs.length*k+us.length*k:=by have:=(Ja.1 hv).1;rw[J6]at this;omega
    have hnl:=hn.len;rw[Array.getElem?_append_left (by simp;omega),List.getElem?_toArray];rw[Kz]at hv ⊢
    split at hv
    ·rename_i hlt;rw[if_pos hlt];exact hv
    ·rename_i hge';rw[if_neg hge']
     exact hn.vals G2 (fun j z'=>by rw[hG2,if_neg (by omega),show xs.length+j-xs.length=j from by omega]) _ v hv)
   (fun s p h=>hphi0 s p (by simpa[zAd]using h)) (ho:=by rw[←hw'];rfl) (hq:=by rw[←hw'];rfl)
  refine⟨_,w',by rw[hh];exact hrun,_,fin _ w' _ (by simpa[zAd]using g1) g2 (by simp[Gh.nb]) ?_ (fun s p h=>by simp[Gh.nb,h])⟩;simp only[R];refine .inr ⟨w.heap.size,cap',_,e,by simp[Gh.nb],g5,by simpa using hge,hcm,?_,by simp[Gh.nb],?_,zPD _ _ _ _ _ (fun x hx'=>?_) g3 g4⟩
  ·have hl1:(zY G s0 xs [] 0).length=xs.length*k:=by rw[xZ,hszxs]
   have hnl:=hn.len;simp only[Array.size_append,Jb8,J6,size_zeroCells,hzk,hl1,hnl,←Ux];exact L5 _ (by omega)
  ·intro o ho _
   rw[J6,Ux]at ho;simp[Gh.nb,zCY (xs++us) [] 0 o (by rw[zDA];omega)]
  ·rcases Lf.1 hx' with h|h
   ·exact hxs.2.1 x h
   ·exact hn.size x h
end
end Go.Ab

namespace Go.Ab
open Go
mutual
def T.flat:T→Bool
 |.lit _|.ro _=>true
 |.agg xs=>jY xs
 |.any|.same _ _|.addr _ _|.sub _ _ _ _ _|.sl _ _|.ptr _|.tup _=>false
def jY:List T→Bool
 | []=>true
 |x::xs=>x.flat&&jY xs
end
section
variable {St:Stb}{G G2:Gh}{w w2:World}{s d:Nat}
mutual
theorem zL2:(t:T)→ ∀(p p':List Nat),t.flat=true→(∀z,G2.hd d (z++p')=G.hd s (z++p))→R St G w s t p→R St G2 w2 d t p'
 |.lit _,p,p',_,h,hr=>by have:=h [];simp only[Jp]at this;simp only[R]at hr ⊢;rw[this];exact hr
 |.ro _,p,p',_,h,hr=>by have:=h [];simp only[Jp]at this;simp only[R]at hr ⊢;rw[this];exact hr
 |.agg xs,p,p',hf,h,hr=>by simp only[R,T.flat]at hr hf ⊢;exact zNa xs p p' 0 hf h hr
 |.any,_,_,hf,_,_|.same _ _,_,_,hf,_,_|.addr _ _,_,_,hf,_,_|.sub _ _ _ _ _,_,_,hf,_,_|.sl _ _,_,_,hf,_,_|.ptr _,_,_,hf,_,_|.tup _,_,_,hf,_,_=>by simp[T.flat]at hf
theorem zNa:(xs:List T)→ ∀(p p':List Nat)(j:Nat),jY xs=true→(∀z,G2.hd d (z++p')=G.hd s (z++p))→RF St G w s xs p j→RF St G2 w2 d xs p' j
 | [],_,_,_,_,_,_=>by simp only[RF]
 |x::xs,p,p',j,hf,h,hr=>by
  simp only[RF,jY,J4]at hr hf ⊢
  exact⟨zL2 x (j::p) (j::p') hf.1 (fun z=>by have:=h (z++[j]);simpa using this) hr.1,zNa xs p p' (j+1) hf.2 h hr.2⟩
end
end
mutual
theorem zFX:(t:T)→t.flat=true→zV t∧t.okTup=true
 |.lit _,_|.ro _,_=>by simp[zV,yP,T.okTup]
 |.agg xs,h=>by simp only[T.flat]at h;simpa only[zV,yP,T.okTup]using jF xs h
 |.any,h|.same _ _,h|.addr _ _,h|.sub _ _ _ _ _,h|.sl _ _,h|.ptr _,h|.tup _,h=>by simp[T.flat]at h
theorem jF:(xs:List T)→jY xs=true→xE xs∧yN xs=true
 | [],_=>by simp[xE,xI,yN]
 |x::xs,h=>by simp only[jY,J4]at h;simp only[xE,xI,yN,J4];exact⟨⟨(zFX x h.1).1,(jF xs h.2).1⟩,(zFX x h.1).2,(jF xs h.2).2⟩
end
theorem zH5:(xs:List T)→jY xs=true→ ∀(i:Nat)(x:T),xs[i]? =some x→x.flat=true
 | [],_,_,_,h=>by simp at h
 |y::ys,hk,i,x,h=>by
  simp only[jY,J4]at hk;cases i with
  |zero=>simp at h;subst h;exact hk.1
  |succ i=>exact zH5 ys hk.2 i x (by simpa using h)
mutual
def zEn:T→Bool
 |.lit _=>true
 |.sl _ xs=>zAB xs
 |.agg xs=>zAB xs
 |.ptr t=>zEn t
 |.any|.ro _|.same _ _|.addr _ _|.sub _ _ _ _ _|.tup _=>false
def zAB:List T→Bool
 | []=>true
 |x::xs=>zEn x&&zAB xs
end
theorem zJ8:(ys:List T)→zAB ys=true→ ∀u∈ys,∀xs,u≠.tup xs
 | [],_,_,h,_=>by simp at h
 |y::ys,hr,u,h,xs=>by
  simp only[zAB,J4]at hr;rcases Jv.1 h with rfl|h
  ·rintro rfl;simp[zEn]at hr
  ·exact zJ8 ys hr.2 u h xs
theorem zEW:(ys:List T)→(roT.roTs ys).length=ys.length
 | []=>rfl
 |y::ys=>by simp[roT.roTs,zEW ys]
theorem zFY{k:Nat}:(ys:List T)→(∀u∈ys,u.size=k)→(∀u∈ys,∀xs,u≠.tup xs)→ ∀u∈roT.roTs ys,u.size=k
 | [],_,_,u,h=>by simp[roT.roTs]at h
 |y::ys,h1,h2,u,h=>by
  simp only[roT.roTs,Jv]at h;rcases h with rfl|h
  ·rw[zD6 y (h2 y (by simp))];exact h1 y (by simp)
  ·exact zFY ys (fun v hv=>h1 v (by simp[hv])) (fun v hv=>h2 v (by simp[hv])) u h
theorem zJ9:(ys:List T)→ ∀(j:Nat)(u:T),(roT.roTs ys)[j]? =some u→ ∃u0,ys[j]? =some u0∧u=roT u0
 | [],_,_,h=>by simp[roT.roTs]at h
 |y::ys,j,u,h=>by
  cases j with
  |zero=>simp[roT.roTs]at h;exact⟨y,by simp,h.symm⟩
  |succ j=>
   obtain⟨u0,h1,h2⟩:=zJ9 ys j u (by simpa[roT.roTs]using h);exact⟨u0,by simpa using h1,h2⟩
theorem zNb{St:Stb}{G2:Gh}{d:Nat}:(ys:List T)→ ∀(cs':Array Value)(o' k n:Nat),RoL St ys cs' o' k→(∀u∈ys,u.size=k)→(∀j u,ys[j]? =some u→ ∀z',G2.hd d (z'++[n+j])=jE (zCX u cs' (o'+j*k) z'.reverse))→
  ∀(i:Nat)(v:Value),(zY G2 d (roT.roTs ys) [] n)[i]? =some v→cs'[o'+i]? =some v
 | [],_,_,_,_,_,_,_,i,v,hv=>by simp[roT.roTs,zY]at hv
 |y::ys,cs',o',k,n,h,hs,hd,i,v,hv=>by
  simp only[RoL]at h;simp only[roT.roTs,zY]at hv;have hnt:∀xs,y≠.tup xs:=by rintro xs rfl;simp only[RoC]at h;exact h.1
  have hnt':∀xs,roT y≠.tup xs:=fun xs e=>by cases y<;>simp[roT]at e
  have hl:(vals G2 d (roT y) [n]).length=k:=by rw[wD _ _ hnt',zD6 y hnt,hs y (by simp)]
  rw[Kz]at hv;split at hv
  ·exact zFI y cs' o' [n] (fun z'=>by simpa using hd 0 y (by simp) z') h.1 i v hv
  ·have:=zNb ys cs' (o'+k) k (n+1) h.2 (fun u hu=>hs u (by simp[hu])) (fun j u hu z'=>by
    have:=hd (j+1) u (by simpa using hu) z'
    rwa [show n+(j+1)=n+1+j from by omega,show o'+(j+1)*k=o'+k+j*k from by rw[Kf];omega]at this) _ v hv
   rwa [hl,show o'+k+(i-k)=o'+i from by omega]at this
mutual
theorem zOo{G:Gh}(hg:∀s z,(G.hd s z).oneCell'=true){s:Nat}:(t:T)→ ∀(p:List Nat)(v:Value),v∈vals G s t p→v.oneCell'=true
 |.agg xs,p,v,h=>by simp only[vals]at h;exact zDc hg xs p 0 v h
 |.any,p,v,h|.lit _,p,v,h|.ro _,p,v,h|.same _ _,p,v,h|.addr _ _,p,v,h|.sub _ _ _ _ _,p,v,h|.sl _ _,p,v,h|.ptr _,p,v,h|.tup _,p,v,h=>by simp only[vals,List.mem_singleton]at h;rw[h];exact hg s p
theorem zDc{G:Gh}(hg:∀s z,(G.hd s z).oneCell'=true){s:Nat}:(xs:List T)→ ∀(p:List Nat)(j:Nat)(v:Value),v∈zY G s xs p j→v.oneCell'=true
 | [],_,_,_,h=>by simp[zY]at h
 |x::xs,p,j,v,h=>by
  simp only[zY,Lf]at h;rcases h with h|h
  ·exact zOo hg x _ v h
  ·exact zDc hg xs p _ v h
end
theorem zBG{G G2:Gh}{s d:Nat}:(us:List T)→ ∀(n j:Nat),(∀i z,G2.hd d (z++[n+i])=G.hd s (z++[j+i]))→zY G2 d us [] n=zY G s us [] j
 | [],_,_,_=>by simp only[zY]
 |x::xs,n,j,h=>by
  have ih:zY G2 d xs [] (n+1)=zY G s xs [] (j+1):=zBG xs (n+1) (j+1) (fun i z=>by rw[show n+1+i=n+(i+1)from by omega,show j+1+i=j+(i+1)from by omega];exact h (i+1) z)
  simp only[zY];rw[ih,zAk x [j] [n] (by simpa using h 0)]
theorem zDC{G G2:Gh}{s d:Nat}:(us:List T)→ ∀(n j:Nat)(q:List Nat),(∀i z,G2.hd d (z++[n+i])=G.hd s (z++((j+i)::q)))→zY G2 d us [] n=zY G s us q j
 | [],_,_,_,_=>by simp only[zY]
 |x::xs,n,j,q,h=>by
  have ih:zY G2 d xs [] (n+1)=zY G s xs q (j+1):=zDC xs (n+1) (j+1) q (fun i z=>by rw[show n+1+i=n+(i+1)from by omega,show j+1+i=j+(i+1)from by omega];exact h (i+1) z)
  simp only[zY];rw[ih,zAk x (j::q) [n] (by simpa using h 0)]
section
variable {P:Program}{Γ:Ctx}{E:Env}{o:Oper}{d:Nat}
theorem zNc{St:Stb}{G:Gh}{w:World}{r:Nat}{q:List Nat}{k:Nat}{us:List T}(h:R St G w r (.sl k us) q){size:Nat}(hk:size=k):
  ∃xa c,G.hd r q=.slice xa us.length c∧ ∀w2:World,w2.heap=w.heap→(Builtin.firstCells size us.length (.slice xa us.length c)).run P w2=.ok (zY G r us q 0).toArray w2:=by
 simp only[R]at h;rcases h with⟨rfl,a1,h1⟩|⟨b,cap,cs,et,h1,h2,h3,h4,h5,h6,h7,h8⟩
 ·exact⟨a1,0,h1,fun w2 _=>by cases a1<;>simp[Builtin.firstCells,loadCells,loadCellsFrom,zY]⟩
 ·refine⟨_,_,h1,fun w2 hw2=>?_⟩
  have hl:=kS us q 0 b 0 h8;refine run_firstCells_some (P:=P) w2 size us.length ⟨b,0,none⟩ _ _ _ ?_ (fun j v hv=>?_)
  ·rw[xZ,hk]
   exact wE us (zAA us q 0 b 0 h8).2
  ·have:=zA5 us q 0 b 0 hl j v hv
   rw[vN];simp only[yG]at this;simpa[World.cell?,hw2]using this
theorem zAC{G:Gh}{a:Act}{w:World}(hrep:Rep Γ E G a.tmps w){s:Nat}{t:T}(h:E s=some t)(ht:t.single=true):a.eval (.tmp s)=G.hd s []:=by rw[xT (hrep.ent s t h).1,xL ht]
theorem zI6(t e:TypeId)(ti:TypeInfo)(z:Value)(k s0 y:Nat)(xs us:List T)(ho:o.op=.call { callee:=.builtin .append,args:=#[.tmp s0,.tmp y],argTypes:=#[t,t] })(hdst:o.dst=some d)(hd:d<Γ.N)
  (ht:P.underlying t=some (.slice e))(hi:P.info? e=some ti)(hz:ti.zero=some z)(hk:ti.size=k)(hk0:0<k)(hzk:z.cells.size=k)(hb:ti.bytes≤2048)
  (hs0:E s0=some (.sl k xs))(hy:E y=some (.sl k us))(hs0d:s0≠d)(hyd:y≠d)(hys:y≠s0)(hnm:xs.length+us.length≤68719476736):
  xV P Γ o E (E.app (aWr d s0 (some y) k (xs++us)) (zAd d s0 (some y))):=by
 refine xV.value hdst fun a w G hrep=>?_
 obtain⟨_,y2,y3⟩:=hrep.ent y _ hy;simp only[Top]at y3;obtain⟨xa,c,h1,h2⟩:=zNc (P:=P) y2 hk;have hus:yN us=true∧ ∀u∈us,u.size=k:=by
  simp only[R]at y2;rcases y2 with⟨rfl,_⟩|⟨b,cap,cs,et,_,_,_,_,_,_,_,h8⟩
  ·simp[yN]
  ·exact⟨qV (St:=Γ.St) (k:=k) us [] 0 b 0 (kS us [] 0 b 0 h8),(zAA us [] 0 b 0 h8).2⟩
 have hn:zFW Γ E G d s0 (some y) k xs.length us (fun j z'=>G.hd y (z'++[j])) (zY G y us [] 0):=
  ⟨hus.2,hus.1,y3,fun j z'=>hrep.mem.one _ _,by rw[xZ];exact wE us hus.2,fun y' hy'=>by simp at hy';subst hy';exact⟨hyd,hys,hy,fun _ _=>rfl⟩,fun h=>by simp at h,
   fun G2 hG2 o v hv=>by rw[←zBG us xs.length 0 (fun i z'=>by rw[hG2,Jd])];exact hv⟩
 obtain⟨v,w',hrun,G',hG'⟩:=zBe (P:=P) (ty:=o.type) hrep hd ht hi hz hk hk0 hzk hb hs0 hs0d hn (xv:=a.eval (.tmp y)) ⟨.inl ⟨e,xa,c,ht,by rw[zAC hrep hy rfl,h1],h2⟩⟩ (fun v hv=>zCu hrep.mem us [] 0 v hv) hnm;refine⟨v,w',?_,G',hG'⟩;rw[←zAC hrep hs0 rfl]at hrun;simp[execOp,ho,resolve,invoke,builtin,hrun]
theorem zI7(t e:TypeId)(ti:TypeInfo)(z:Value)(k s0:Nat)(y:Operand)(r:Nat)(q:List Nat)(xs us:List T)(ho:o.op=.call { callee:=.builtin .append,args:=#[.tmp s0,y],argTypes:=#[t,t] })(hdst:o.dst=some d)(hd:d<Γ.N)
  (ht:P.underlying t=some (.slice e))(hi:P.info? e=some ti)(hz:ti.zero=some z)(hk:ti.size=k)(hk0:0<k)(hzk:z.cells.size=k)(hb:ti.bytes≤2048)
  (hs0:E s0=some (.sl k xs))(hy:uN E y=some (r,q,.sl k us))(hf:jY us=true)(hs0d:s0≠d)(hnm:xs.length+us.length≤68719476736):
  xV P Γ o E (E.app (aWr d s0 none k (xs++us)) (zAd d s0 none)):=by
 refine xV.value hdst fun a w G hrep=>?_
 obtain⟨y2,y1⟩:=sY hrep hy rfl;obtain⟨xa,c,h1,h2⟩:=zNc (P:=P) y2 hk;have hus:(∀u∈us,u.size=k)∧ ∀j u,us[j]? =some u→R Γ.St G w r u (j::q):=by
  simp only[R]at y2;rcases y2 with⟨rfl,_⟩|⟨b,cap,cs,et,_,_,_,_,_,_,_,h8⟩
  ·simp
  ·refine⟨(zAA us q 0 b 0 h8).2,fun j u hu=>?_⟩
   have:=(qJ us q 0 b 0 k j u h8 hu).2.2;simpa using this
 have hcl:=jF us hf;have hn:zFW Γ E G d s0 none k xs.length us (fun j z'=>G.hd r (z'++(j::q))) (zY G r us q 0):=
  ⟨hus.1,hcl.2,hcl.1,fun j z'=>hrep.mem.one _ _,by rw[xZ];exact wE us hus.1,fun y' hy'=>by simp at hy',
   fun _ j u hu G2 w2 hG2=>zL2 u (j::q) [xs.length+j] (zH5 us hf j u hu) (fun z'=>hG2 z') (hus.2 j u hu),
   fun G2 hG2 o v hv=>by rw[←zDC us xs.length 0 q (fun i z'=>by rw[hG2,Jd])];exact hv⟩
 obtain⟨v,w',hrun,G',hG'⟩:=zBe (P:=P) (ty:=o.type) hrep hd ht hi hz hk hk0 hzk hb hs0 hs0d hn (xv:=a.eval y) ⟨.inl ⟨e,xa,c,ht,by rw[y1,h1],h2⟩⟩ (fun v hv=>zCu hrep.mem us q 0 v hv) hnm;refine⟨v,w',?_,G',hG'⟩;rw[←zAC hrep hs0 rfl]at hrun;simp[execOp,ho,resolve,invoke,builtin,hrun]
mutual
theorem zPI:(u:T)→zEn u=true→(roT u).flat=true
 |.agg xs,h=>by simp only[zEn]at h;simp only[roT,T.flat];exact zEo xs h
 |.lit _,_|.sl _ _,_|.ptr _,_=>by simp[roT,T.flat]
 |.any,h|.ro _,h|.same _ _,h|.addr _ _,h|.sub _ _ _ _ _,h|.tup _,h=>by simp[zEn]at h
theorem zEo:(xs:List T)→zAB xs=true→jY (roT.roTs xs)=true
 | [],_=>by simp[roT.roTs,jY]
 |x::xs,h=>by simp only[zAB,J4]at h;simp only[roT.roTs,jY,J4];exact⟨zPI x h.1,zEo xs h.2⟩
end
theorem zI8(t e:TypeId)(ti:TypeInfo)(z:Value)(k s0:Nat)(y:Operand)(r:Nat)(q:List Nat)(xs ys:List T)(ho:o.op=.call { callee:=.builtin .append,args:=#[.tmp s0,y],argTypes:=#[t,t] })(hdst:o.dst=some d)(hd:d<Γ.N)
  (ht:P.underlying t=some (.slice e))(hi:P.info? e=some ti)(hz:ti.zero=some z)(hk:ti.size=k)(hk0:0<k)(hzk:z.cells.size=k)(hb:ti.bytes≤2048)
  (hs0:E s0=some (.sl k xs))(hy:uN E y=some (r,q,.ro (.sl k ys)))(hro:zAB ys=true)(hys:∀u∈ys,u.size=k)(hs0d:s0≠d)(hnm:xs.length+ys.length≤68719476736):
  xV P Γ o E (E.app (aWr d s0 none k (xs++roT.roTs ys)) (zAd d s0 none)):=by
 refine xV.value hdst fun a w G hrep=>?_
 obtain⟨y2,y1⟩:=sY hrep hy rfl;obtain⟨xa,c,h1,h2,h3,h4⟩:=zCq y2;have hf:=zEo ys hro;have hcl:=jF _ hf;have hlen:(roT.roTs ys).length=ys.length:=zEW ys;have hsz:∀u∈roT.roTs ys,u.size=k:=zFY ys hys (fun u hu=>zJ8 ys hro u hu);obtain⟨cs',o',h5,h6⟩:∃(cs':Array Value)(o':Nat),RoL Γ.St ys cs' o' k∧(ys≠[]→ ∃b et fr,xa=some ⟨b,o',none⟩∧Γ.St b=some (.cells cs' et fr)):=by
  by_cases hne:ys=[]
  ·subst hne;exact⟨#[],0,by simp[RoL],fun h=>absurd rfl h⟩
  ·obtain⟨b,o',cs',et,fr,h5,h6,h7⟩:=h4 hne
   exact⟨cs',o',h7,fun _=>⟨b,et,fr,h5,h6⟩⟩
 let f2:Nat→List Nat→Value:=fun j z'=>match ys[j]? with
  |some u=>jE (zCX u cs' (o'+j*k) z'.reverse)
  |none=>.bool false
 have hf2:∀j u,ys[j]? =some u→ ∀z',f2 j z'=jE (zCX u cs' (o'+j*k) z'.reverse):=fun j u hu z'=>by simp[f2,hu]
 let G0:Gh:={ G with hd:=fun s z'=>if s=d then(match z'.getLast? with
  |some j=>f2 j z'.dropLast
  |none=>.bool false)else G.hd s z' }
 have hG0:∀j z',G0.hd d (z'++[j])=f2 j z':=fun j z'=>by simp[G0]
 have hvals:∀(G2:Gh)(n:Nat),(∀j z',G2.hd d (z'++[n+j])=f2 j z')→ ∀(i:Nat)(v:Value),(zY G2 d (roT.roTs ys) [] n)[i]? =some v→cs'[o'+i]? =some v:=by intro G2 n hG2 i v hv;exact zNb ys cs' o' k n h5 hys (fun j u hu z'=>by rw[hG2,hf2 j u hu]) i v hv
 have hload:∀w2:World,w2.heap=w.heap→(Builtin.firstCells ti.size ys.length (.slice xa ys.length c)).run P w2=.ok (zY G0 d (roT.roTs ys) [] 0).toArray w2:=by
  intro w2 hw2
  by_cases hne:ys=[]
  ·subst hne
   cases xa<;>simp[Builtin.firstCells,loadCells,loadCellsFrom,roT.roTs,zY]
  ·obtain⟨b,et,fr,rfl,h7⟩:=h6 hne
   refine run_firstCells_some (P:=P) w2 ti.size ys.length ⟨b,o',none⟩ _ _ _ ?_ (fun j v hv=>?_)
   ·rw[xZ,hk,wE _ hsz,hlen]
   ·have:=hvals G0 0 (fun j z'=>by rw[Jd];exact hG0 j z') j v hv
    rw[vN];have h8:=hrep.mem.st b _ h7;simp[World.cell?,hw2,h8,this]
 have hone2:∀j z',(f2 j z').oneCell'=true:=fun j z'=>by
  dsimp only[f2];split
  ·exact zA6 _
  ·rfl
 have hn:zFW Γ E G d s0 none k xs.length (roT.roTs ys) f2 (zY G0 d (roT.roTs ys) [] 0):=by
  refine⟨hsz,hcl.2,hcl.1,hone2,by rw[xZ];exact wE _ hsz,fun y' hy'=>by simp at hy',fun _ j u hu G2 w2 hG2=>?_,fun G2 hG2 i v hv=>?_⟩
  ·obtain⟨u0,hu0,rfl⟩:=zJ9 ys j u hu
   exact zP9 u0 cs' (o'+j*k) [xs.length+j] (fun z'=>by rw[hG2 z',hf2 j u0 hu0]) (zFv ys cs' o' k j u0 h5 hu0)
  ·rw[←zBG (roT.roTs ys) xs.length 0 (fun i z'=>by rw[hG2,Jd];exact(hG0 i z').symm)]
   exact hv
 have hones:∀v∈zY G0 d (roT.roTs ys) [] 0,v.oneCell'=true:=by
  intro v hv;refine zDc (fun s z'=>?_) _ [] 0 v hv;simp only[G0];split
  ·split
   ·exact hone2 _ _
   ·rfl
  ·exact hrep.mem.one _ _
 have happ:zFV P t e ti (a.eval y) (roT.roTs ys).length (zY G0 d (roT.roTs ys) [] 0) w:=⟨.inl ⟨e,xa,c,ht,by rw[y1,h1,hlen],by rw[hlen];exact hload⟩⟩;obtain⟨v,w',hrun,G',hG'⟩:=zBe (P:=P) (ty:=o.type) hrep hd ht hi hz hk hk0 hzk hb hs0 hs0d hn happ hones (by rw[hlen];exact hnm);refine⟨v,w',?_,G',hG'⟩;rw[←zAC hrep hs0 rfl]at hrun;simp[execOp,ho,resolve,invoke,builtin,hrun]
end
end Go.Ab

namespace Go.Ab
open Go
theorem zEX:(us:List T)→uZ us=us.flatMap uG
 | []=>rfl
 |u::us=>by simp[uZ,zEX us]
theorem zBH(u:T)(h:u.zOk=true):∀m,kC (J1 m u)=true
 |0=>rfl
 |m+1=>by simp[Kj,kC,h,zBH u h m]
section
variable {P:Program}{Γ:Ctx}{E:Env}{o:Oper}{d:Nat}
theorem zFZ(t t2 e:TypeId)(k2:IntKind)(ti:TypeInfo)(z:Value)(u:T)(k s0:Nat)(y:Operand)(kd:IntKind)(m:Nat)(xs:List T)(ho:o.op=.call { callee:=.builtin .append,args:=#[.tmp s0,y],argTypes:=#[t,t2] })(hdst:o.dst=some d)(hd:d<Γ.N)
  (ht:P.underlying t=some (.slice e))(ht2:P.underlying t2=some (.int k2))(hi:P.info? e=some ti)(hz:ti.zero=some z)(hk:ti.size=k)(hk0:0<k)(hb:ti.bytes≤2048)(hu:u.zOk=true)(hv:uG u=z.cells.toList)(hus:u.size=k)
  (hs0:E s0=some (.sl k xs))(hy:opT E y=some (.lit (.int kd m)))(hs0d:s0≠d)(hnm:xs.length+m≤68719476736):
  xV P Γ o E (E.app (aWr d s0 none k (xs++J1 m u)) (zAd d s0 none)):=by
 refine xV.value hdst fun a w G hrep=>?_
 have hzk:z.cells.size=k:=by rw[←Ke,←hv,wG u hu,hus]
 have hzo:=zBH u hu m;have hcl:=zBd _ hzo
 let f2:Nat→List Nat→Value:=fun _ z'=>jE (zhd u z'.reverse)
 have hnvl:((Builtin.zeroCells z.cells m).toList).length=m*k:=by simp[Builtin.zeroCells,hzk]
 have hn:zFW Γ E G d s0 none k xs.length (J1 m u) f2 (Builtin.zeroCells z.cells m).toList:=by
  refine⟨fun x hx=>by simp at hx;rw[hx.2];exact hus,hcl.2,hcl.1,fun _ _=>zA6 _,by rw[hnvl];simp,fun y' hy'=>by simp at hy',fun _ j x hx G2 w2 hG2=>?_,fun G2 hG2 i v hv'=>?_⟩
  ·rw[Ki]at hx
   split at hx
   ·simp at hx;subst hx;exact zI0 u _ hu (fun z'=>hG2 z')
   ·cases hx
  ·have h1:zY G2 d (J1 m u) [] xs.length=uZ (J1 m u):=zCZ _ [] xs.length hzo (fun j x hx z'=>by
    rw[Ki]at hx;split at hx
    ·simp at hx;subst hx;exact hG2 j z'
    ·cases hx)
   rw[h1,zEX]at hv';obtain⟨h2,h3⟩:=zI1 uG u k (by rw[wG u hu,hus]) hk0 m i v hv';rw[hv,K5,←hzk]at h3;have h4:i<m*z.cells.size:=by rw[hzk];exact h2
   simp[Builtin.zeroCells,h4,getElem!_def,h3]
 have hone:∀v∈(Builtin.zeroCells z.cells m).toList,v.oneCell'=true:=by
  intro v hv';simp only[Builtin.zeroCells,Array.toList_map,Array.toList_range,Jg,Lb]at hv';obtain⟨i,hi',rfl⟩:=hv';have h1:i%z.cells.size<z.cells.size:=Nat.mod_lt _ (by omega);have h2:z.cells[i%z.cells.size]! =z.cells[i%z.cells.size]:=by simp[h1]
  rw[h2];exact zEl u hu _ (by rw[hv];exact Array.mem_toList_iff.2 (Array.getElem_mem h1))
 have happ:zFV P t2 e ti (a.eval y) (J1 m u).length (Builtin.zeroCells z.cells m).toList w:=by
  refine⟨.inr ⟨k2,kd,z,ht2,?_,hz,by simp,?_,by rw[hzk,hk]⟩⟩
  ·rw[(xX hrep hy).1];simp
  ·simp only[Jy]
   exact Kt (Kn (show m≤68719476736 by omega) hb) (by decide)
 obtain⟨v,w',hrun,G',hG'⟩:=zBe (P:=P) (ty:=o.type) hrep hd ht hi hz hk hk0 hzk hb hs0 hs0d hn happ hone (by simpa using hnm);refine⟨v,w',?_,G',hG'⟩;rw[←zAC hrep hs0 rfl]at hrun;simp[execOp,ho,resolve,invoke,builtin,hrun]
end
end Go.Ab

namespace Go.Ab
open Go
def zJA(G:Gh)(nd:List (Nat×List Nat×T)):Value:=
 match nd with
 | [x]=>uY G x.1 x.2.2 x.2.1
 |nd=>.tuple (nd.map fun x=>uY G x.1 x.2.2 x.2.1).toArray
def FnC(P:Program)(f:FuncId)(us:List T)(res:List T)(rws:List (Nat×T)):Prop:=
 ∀(St:Stb)(W:Nat→Prop)(w:World)(G:Gh)(vs:Array Value),vs.size=us.length→
  (∀(i:Nat) u,us[i]? =some u→vs[i]? =some (mkV G i u [])∧R St G w i u [])→Mem ⟨St,W,w,0⟩ G w→
  Calls P f vs w fun e w'=> ∃(S':Stb)(G':Gh)(nd:List (Nat×List Nat×T)),zCU St S' W w.heap.size∧e=.returned (zJA G' nd)∧Mem ⟨S',W,w,0⟩ G' w'∧nd.map (·.2.2)=res∧
   (∀x∈nd,R S' G' w' x.1 x.2.2 x.2.1∧us.length≤x.1)∧(nd.map (·.1)).Nodup∧
   ∀i u',(i,u')∈rws→R S' G' w' i u' []∧ ∃u,us[i]? =some u∧mkV G' i u' []=mkV G i u []
mutual
def wA:T→Bool
 |.ro _=>false
 |.sl _ xs|.agg xs|.tup xs=>vC xs
 |.ptr t=>wA t
 |.any|.lit _|.same _ _|.addr _ _|.sub _ _ _ _ _=>true
def vC:List T→Bool
 | []=>true
 |x::xs=>wA x&&vC xs
end
section
variable {St St':Stb}{G:Gh}{w:World}{s:Nat}
mutual
theorem zOp:(t:T)→ ∀(p:List Nat),wA t=true→R St G w s t p→R St' G w s t p
 |.ro _,_,h,_=>by simp[wA]at h
 |.sl k xs,p,h,hr=>by
  simp only[wA,R]at h hr ⊢
  rcases hr with hr|⟨b,cap,cs,e,h1,h2,h3,h4,h5,h6,h7,h8⟩
  ·exact .inl hr
  ·exact .inr ⟨b,cap,cs,e,h1,h2,h3,h4,h5,h6,h7,zUF xs p 0 b 0 k h h8⟩
 |.agg xs,p,h,hr|.tup xs,p,h,hr=>by simp only[wA,R]at h hr ⊢;exact zUG xs p 0 h hr
 |.ptr t,p,h,hr=>by
  simp only[wA,R]at h hr ⊢
  obtain⟨b,cs,e,h1,h2,h3,h6,h4,h5⟩:=hr;exact⟨b,cs,e,h1,h2,h3,h6,h4,zOp t _ h h5⟩
 |.any,_,_,hr|.lit _,_,_,hr|.same _ _,_,_,hr|.addr _ _,_,_,hr|.sub _ _ _ _ _,_,_,hr=>by first|(simp only[R];done)|simpa only[R]using hr
theorem zUF:(xs:List T)→ ∀(p:List Nat)(i b o k:Nat),vC xs=true→RL St G w s xs p i b o k→RL St' G w s xs p i b o k
 | [],_,_,_,_,_,_,_=>by simp only[RL]
 |x::xs,p,i,b,o,k,h,hr=>by
  simp only[vC,J4,RL]at h hr ⊢
  exact⟨hr.1,zOp x _ h.1 hr.2.1,zUF xs p (i+1) b _ k h.2 hr.2.2⟩
theorem zUG:(xs:List T)→ ∀(p:List Nat)(i:Nat),vC xs=true→RF St G w s xs p i→RF St' G w s xs p i
 | [],_,_,_,_=>by simp only[RF]
 |x::xs,p,i,h,hr=>by
  simp only[vC,J4,RF]at h hr ⊢
  exact⟨zOp x _ h.1 hr.1,zUG xs p (i+1) h.2 hr.2⟩
end
end
section
variable {St St':Stb} (h:∀b x,St b=some x→St' b=some x)
 include h
mutual
theorem uO:(t:T)→ ∀(cs:Array Value)(o:Nat),RoC St t cs o→RoC St' t cs o
 |.sl k xs,cs,o,hr=>by
  simp only[RoC]at hr ⊢
  obtain⟨a,c,h1,h2,h3,h4⟩:=hr;refine⟨a,c,h1,h2,h3,fun hne=>?_⟩;obtain⟨b,o',cs',e,fr,h5,h6,h7⟩:=h4 hne;exact⟨b,o',cs',e,fr,h5,h b _ h6,zJB xs cs' o' k h7⟩
 |.agg xs,cs,o,hr=>by simp only[RoC]at hr ⊢;exact zJC xs cs o hr
 |.ptr t,cs,o,hr=>by
  simp only[RoC]at hr ⊢
  obtain⟨b,o',cs',e,fr,h5,h6,h7⟩:=hr;exact⟨b,o',cs',e,fr,h5,h b _ h6,uO t cs' o' h7⟩
 |.any,_,_,hr|.lit _,_,_,hr|.ro _,_,_,hr|.same _ _,_,_,hr|.addr _ _,_,_,hr|.sub _ _ _ _ _,_,_,hr|.tup _,_,_,hr=>by first|(simp only[RoC]at hr;done)|simpa only[RoC]using hr
theorem zJB:(xs:List T)→ ∀(cs:Array Value)(o k:Nat),RoL St xs cs o k→RoL St' xs cs o k
 | [],_,_,_,_=>by have _:=h;simp only[RoL]
 |x::xs,cs,o,k,hr=>by simp only[RoL]at hr ⊢;exact⟨uO x cs o hr.1,zJB xs cs _ k hr.2⟩
theorem zJC:(xs:List T)→ ∀(cs:Array Value)(o:Nat),RoF St xs cs o→RoF St' xs cs o
 | [],_,_,_=>by have _:=h;simp only[RoF]
 |x::xs,cs,o,hr=>by simp only[RoF]at hr ⊢;exact⟨uO x cs o hr.1,zJC xs cs _ hr.2⟩
end
end
section
variable {St St':Stb}{G:Gh}{w:World}{s:Nat} (h:∀b x,St b=some x→St' b=some x)
 include h
mutual
theorem zI9:(t:T)→ ∀(p:List Nat),R St G w s t p→R St' G w s t p
 |.ro t,_,hr=>by simp only[R]at hr ⊢;exact uO h t _ _ hr
 |.sl k xs,p,hr=>by
  simp only[R]at hr ⊢
  rcases hr with hr|⟨b,cap,cs,e,h1,h2,h3,h4,h5,h6,h7,h8⟩
  ·exact .inl hr
  ·exact .inr ⟨b,cap,cs,e,h1,h2,h3,h4,h5,h6,h7,zNd xs p 0 b 0 k h8⟩
 |.agg xs,p,hr|.tup xs,p,hr=>by simp only[R]at hr ⊢;exact zNe xs p 0 hr
 |.ptr t,p,hr=>by
  simp only[R]at hr ⊢
  obtain⟨b,cs,e,h1,h2,h3,h6,h4,h5⟩:=hr;exact⟨b,cs,e,h1,h2,h3,h6,h4,zI9 t _ h5⟩
 |.any,_,hr|.lit _,_,hr|.same _ _,_,hr|.addr _ _,_,hr|.sub _ _ _ _ _,_,hr=>by first|(simp only[R];done)|simpa only[R]using hr
theorem zNd:(xs:List T)→ ∀(p:List Nat)(i b o k:Nat),RL St G w s xs p i b o k→RL St' G w s xs p i b o k
 | [],_,_,_,_,_,_=>by have _:=h;simp only[RL]
 |x::xs,p,i,b,o,k,hr=>by simp only[RL]at hr ⊢;exact⟨hr.1,zI9 x _ hr.2.1,zNd xs p (i+1) b _ k hr.2.2⟩
theorem zNe:(xs:List T)→ ∀(p:List Nat)(i:Nat),RF St G w s xs p i→RF St' G w s xs p i
 | [],_,_,_=>by have _:=h;simp only[RF]
 |x::xs,p,i,hr=>by simp only[RF]at hr ⊢;exact⟨zI9 x _ hr.1,zNe xs p (i+1) hr.2⟩
end
end
mutual
def strip:T→T
 |.lit v=>.lit v
 |.ro u=>if u.single then u else .any
 |.sl k xs=>.sl k (wF xs)
 |.agg xs=>.agg (wF xs)
 |.ptr t=>.ptr (strip t)
 |.any|.same _ _|.addr _ _|.sub _ _ _ _ _|.tup _=>.any
def wF:List T→List T
 | []=>[]
 |x::xs=>strip x::wF xs
end
theorem qW:(xs:List T)→(wF xs).length=xs.length
 | []=>rfl
 |x::xs=>by simp[wF,qW xs]
mutual
theorem zDd:(t:T)→(strip t).size=t.size
 |.agg xs=>by simp only[strip,T.size];exact zEY xs
 |.ro u=>by
  simp only[strip];split
  ·rename_i h;cases u<;>simp[T.single]at h<;>simp[T.size]
  ·simp[T.size]
 |.lit _|.sl _ _|.ptr _|.any|.same _ _|.addr _ _|.sub _ _ _ _ _|.tup _=>by simp[strip,T.size]
theorem zEY:(xs:List T)→T.sizes (wF xs)=T.sizes xs
 | []=>rfl
 |x::xs=>by simp only[wF,T.sizes,zDd x,zEY xs]
end
theorem sP{St:Stb}{u:T}(hu:u.single=true){v:Value}{cs:Array Value}{o:Nat}(h:RoC St u #[v] 0)(hc:cs[o]? =some v):RoC St u cs o:=by
 cases u<;>simp[T.single]at hu<;>simp only[RoC]at h ⊢ <;>simp at h<;>first
  |exact⟨v,hc,h⟩
  |(obtain⟨rfl,h2⟩:=h;exact⟨hc,h2⟩)
  |(obtain⟨a,c,rfl,h2⟩:=h;exact⟨a,c,hc,by simpa using h2⟩)
  |(obtain⟨b,o',rfl,h2⟩:=h;obtain⟨cs',⟨e,f1,f2,h3⟩,h4⟩:=h2;exact⟨b,o',cs',e,(f1,f2),hc,h3,h4⟩)
section
variable {St Sc:Stb}{G:Gh}{w:World}{s:Nat} (hone:∀s p,(G.hd s p).oneCell'=true) (hSt:∀b x,St b=some x→Sc b=some x) (hSc:∀b,(∃y,G.ow b=some (s,y))→Sc b=w.heap[b]?)
 include hone hSt hSc
mutual
theorem frz:(t:T)→ ∀(p:List Nat)(b o:Nat)(cs:Array Value)(e:TypeId)(fr:Nat×Nat),w.heap[b]? =some (.cells cs e fr)→Loc G w s t p b o→R St G w s t p→RoC Sc (strip t) cs o
 |.agg xs,p,b,o,cs,e,fr,hb,hl,hr=>by simp only[Loc,R,strip,RoC]at hl hr ⊢;exact zWJ xs p 0 b o cs e fr hb hl.2 hr
 |.tup _,_,_,_,_,_,_,_,hl,_=>by have _:=hSc;simp only[Loc]at hl
 |.any,p,b,o,cs,e,fr,hb,hl,hr|.same _ _,p,b,o,cs,e,fr,hb,hl,hr|.addr _ _,p,b,o,cs,e,fr,hb,hl,hr|.sub _ _ _ _ _,p,b,o,cs,e,fr,hb,hl,hr=>by have h1:=(wN rfl hl).2.2;simp only[yG,World.cell?,hb]at h1;simp only[strip,RoC];exact⟨_,by simpa using h1,hone s p⟩
 |.lit v,p,b,o,cs,e,fr,hb,hl,hr=>by
  have h1:=(wN rfl hl).2.2;simp only[yG,World.cell?,hb]at h1;simp only[strip,RoC,R]at hr ⊢
  exact⟨by rw[←hr];simpa using h1,by rw[←hr];exact hone s p⟩
 |.ro u,p,b,o,cs,e,fr,hb,hl,hr=>by
  have h1:=(wN rfl hl).2.2;simp only[yG,World.cell?,hb]at h1;simp only[strip,R]at hr ⊢
  split
  ·rename_i hu
   exact sP hu (uO hSt u _ _ hr) (by simpa using h1)
  ·simp only[RoC];exact⟨_,by simpa using h1,hone s p⟩
 |.sl k xs,p,b,o,cs,e,fr,hb,hl,hr=>by have h1:=(wN rfl hl).2.2;simp only[yG,World.cell?,hb]at h1;exact sP rfl (zJD (.sl k xs) p rfl hr) (by simpa using h1)
 |.ptr t,p,b,o,cs,e,fr,hb,hl,hr=>by have h1:=(wN rfl hl).2.2;simp only[yG,World.cell?,hb]at h1;exact sP rfl (zJD (.ptr t) p rfl hr) (by simpa using h1)
theorem zWJ:(xs:List T)→ ∀(p:List Nat)(j b o:Nat)(cs:Array Value)(e:TypeId)(fr:Nat×Nat),w.heap[b]? =some (.cells cs e fr)→wS G w s xs p j b o→RF St G w s xs p j→RoF Sc (wF xs) cs o
 | [],_,_,_,_,_,_,_,_,_,_=>by have _:=hone;have _:=hSt;have _:=hSc;simp only[wF,RoF]
 |x::xs,p,j,b,o,cs,e,fr,hb,hl,hr=>by
  simp only[wS,RF,wF,RoF]at hl hr ⊢
  exact⟨frz x _ b o cs e fr hb hl.1 hr.1,by rw[zDd];exact zWJ xs p (j+1) b _ cs e fr hb hl.2 hr.2⟩
theorem zWK:(xs:List T)→ ∀(p:List Nat)(i b o k:Nat)(cs:Array Value)(e:TypeId)(fr:Nat×Nat),w.heap[b]? =some (.cells cs e fr)→RL St G w s xs p i b o k→RoL Sc (wF xs) cs o k
 | [],_,_,_,_,_,_,_,_,_,_=>by have _:=hone;have _:=hSt;have _:=hSc;simp only[wF,RoL]
 |x::xs,p,i,b,o,k,cs,e,fr,hb,hr=>by
  simp only[RL,wF,RoL]at hr ⊢
  exact⟨frz x _ b o cs e fr hb hr.1.1 hr.2.1,zWK xs p (i+1) b _ k cs e fr hb hr.2.2⟩
theorem zJD:(t:T)→ ∀(p:List Nat),t.single=true→R St G w s t p→RoC Sc (strip t) #[G.hd s p] 0
 |.agg _,_,h,_|.tup _,_,h,_=>by simp[T.single]at h
 |.any,p,_,_|.same _ _,p,_,_|.addr _ _,p,_,_|.sub _ _ _ _ _,p,_,_=>by simp only[strip,RoC];exact⟨_,by simp,hone s p⟩
 |.lit v,p,_,hr=>by simp only[strip,RoC,R]at hr ⊢;exact⟨by simp[hr],by rw[←hr];exact hone s p⟩
 |.ro u,p,_,hr=>by
  simp only[strip,R]at hr ⊢
  split
  ·exact uO hSt u _ _ hr
  ·simp only[RoC];exact⟨_,by simp,hone s p⟩
 |.sl k xs,p,_,hr=>by
  simp only[strip,R,RoC]at hr ⊢
  rw[qW];rcases hr with⟨rfl,a,h1⟩|⟨b,cap,cs,e,h1,h2,h3,h4,h5,h6,h7,h8⟩
  ·exact⟨a,0,by simp[h1],by simp,by simp[maxLen],fun h=>by simp[wF]at h⟩
  ·exact⟨some ⟨b,0,none⟩,cap,by simp[h1],h3,h4,fun _=>⟨b,0,cs,e,(0,0),rfl,by rw[hSc b ⟨_,h6⟩];exact h2,zWK xs p 0 b 0 k cs e (0,0) h2 h8⟩⟩
 |.ptr t,p,_,hr=>by
  simp only[strip,R,RoC]at hr ⊢
  obtain⟨b,cs,e,h1,h2,h3,h6,h4,h5⟩:=hr;exact⟨b,0,cs,e,(0,0),by simp[h1],by rw[hSc b ⟨_,h6⟩];exact h2,frz t _ b 0 cs e (0,0) h2 h4 h5⟩
end
end
end Go.Ab
