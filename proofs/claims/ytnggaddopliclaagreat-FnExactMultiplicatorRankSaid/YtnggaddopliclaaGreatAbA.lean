/- The program's MultiplicatorRank returns what the reference's returns,for all arguments;no conditions. -/
import Derived.Orders
import Derived.Laws.AppendOwn
import Derived.Laws.MakeOwn
import Derived.Great.BuildSlice
import Derived.Laws.Tables
open List renaming replicate→J1,length_append→J5,length_cons→J6,getElem?_append_right→J8,append_nil→J9,append_assoc→Ja,getElem?_eq_some_iff→Jb,mem_cons→Jd,length_replicate→Jh,nil_append→Ji,mem_append→Jj,getElem?_append_left→Jm,replicate_succ→Jo,cons_append→Jq,mem_map→Jt,map_cons→Ju,length_nil→Jw,getElem?_map→K0,take_succ_cons→K9,length_take→Ka,eq_nil_of_length_eq_zero→Kb,mem_of_getElem?→Kd,all_eq_true→Kh,reverse_reverse→Km,getElem?_drop→Ko,mem_range→Kq,getElem?_replicate→Kr,set_cons_zero→Kz,getElem?_append→L4,ext_getElem?→La,reverse_nil→Lg,nodup_cons→Ll,set_cons_succ→Lm,flatMap_cons→Ln,map_nil→Lw,flatMap_append→Lx,reverse_cons→H0,take_append_of_le_length→Hd,reverse_append→Hq,drop_eq_getElem_cons→G8,foldl_cons→Gw,mem_of_mem_take→Gz,getElem?_take_of_lt→Uj,getElem?_set_self→Uq,getElem?_cons_succ→Uu,length_set→Qn,map_take→Qq,map_toArray→Qt,getElem?_set_ne→Jad,not_mem_nil→Jb2,take_append_drop→Jbf,take_append→Jbm,map_map→Jbp,isEmpty_iff→Jbr,cons→Jc1,size_toArray→Jc3
open Bool renaming and_eq_true→J4,false_eq_true→Ga,false_and→Jcq
open Int renaming toNat_natCast→Je,natCast_mul→L5
open Nat renaming zero_add→Jf,lt_or_ge→Jk,le_refl→Jp,succ_mul→Jy,mul_le_mul→K4,mul_le_mul_right→Kg,sub_self→Ku,le_trans→L6,add_assoc→Ls,mod_lt→Gd,add_zero→U8,add_mul→Uk,min_eq_left→Qi,lt_of_lt_of_le→Jbc,le_mul_of_pos_right→Jbd,mul_pos→Jbz,add_comm→Jcn
open Array renaming getElem?_setIfInBounds→Jg,getD_eq_getD_getElem?→K5,getElem?_toList→K7,length_toList→Kf,getElem?_eq_some_iff→Ki,range→Jci,ext'→Jcp
open Option renaming isSome_none→Q0,map_none→Jbb
open Prod renaming mk→Jax
namespace Go.Ab
open Go
inductive T where
 |any
 |lit (v:Value)
 |ro (t:T)
 |same (r:Nat) (p:List Nat)
 |addr (r:Nat) (p:List Nat)
 |sub (r:Nat) (p:List Nat) (k lo hi:Nat)
 |sl (k:Nat) (xs:List T)
 |agg (xs:List T)
 |ptr (t:T)
 |tup (xs:List T)
 deriving Inhabited
abbrev Stb:=Nat→Option Obj
mutual
def T.size:T→Nat
 |.agg xs=>T.sizes xs
 |_=>1
def T.sizes:List T→Nat
 | []=>0
 |x::xs=>x.size+T.sizes xs
end
mutual
def RoC(St:Stb):T→Array Value→Nat→Prop
 |.any,cs,o=> ∃v,cs[o]? =some v∧v.oneCell'=true
 |.lit v,cs,o=>cs[o]? =some v∧v.oneCell'=true
 |.ro _,_,_=>False
 |.sl k xs,cs,o=> ∃a c,cs[o]? =some (.slice a xs.length c)∧xs.length≤c∧c≤maxLen∧
   (xs≠[]→ ∃b o' cs' e fr,a=some ⟨b,o',none⟩∧St b=some (.cells cs' e fr)∧RoL St xs cs' o' k)
 |.agg xs,cs,o=>RoF St xs cs o
 |.ptr t,cs,o=> ∃b o' cs' e fr,cs[o]? =some (.pointer (some ⟨b,o',none⟩))∧St b=some (.cells cs' e fr)∧RoC St t cs' o'
 |.same _ _,_,_=>False
 |.addr _ _,_,_=>False
 |.sub _ _ _ _ _,_,_=>False
 |.tup _,_,_=>False
def RoL(St:Stb):List T→Array Value→Nat→Nat→Prop
 | [],_,_,_=>True
 |x::xs,cs,o,k=>RoC St x cs o∧RoL St xs cs (o+k) k
def RoF(St:Stb):List T→Array Value→Nat→Prop
 | [],_,_=>True
 |x::xs,cs,o=>RoC St x cs o∧RoF St xs cs (o+x.size)
end
structure Gh where
 hd:Nat→List Nat→Value
 ad:Nat→List Nat→Addr
 lb:Nat→Nat→Option (Bool×Nat×List Nat)
 ow:Nat→Option (Nat×List Nat)
def yP(w:World)(b o:Nat):Option Value:=w.cell? ⟨b,o,none⟩
mutual
def Loc(G:Gh)(w:World)(s:Nat):T→List Nat→Nat→Nat→Prop
 |.agg xs,p,b,o=>G.ad s p=⟨b,o,none⟩∧vE G w s xs p 0 b o
 |.tup _,_,_,_=>False
 |.any,p,b,o|.lit _,p,b,o|.ro _,p,b,o|.same _ _,p,b,o|.addr _ _,p,b,o|.sub _ _ _ _ _,p,b,o|.sl _ _,p,b,o|.ptr _,p,b,o=>
  G.ad s p=⟨b,o,none⟩∧G.lb b o=some (false,s,p)∧yP w b o=some (G.hd s p)
def vE(G:Gh)(w:World)(s:Nat):List T→List Nat→Nat→Nat→Nat→Prop
 | [],_,_,_,_=>True
 |x::xs,p,j,b,o=>Loc G w s x (j::p) b o∧vE G w s xs p (j+1) b (o+x.size)
end
def zAT(v:Value)(k lo hi:Nat):Value:=
 match v with
 |.slice a _ c=>.slice (if c=lo then a else a.map (·.add (lo*k))) (hi-lo) (c-lo)
 |v=>v
mutual
def R(St:Stb)(G:Gh)(w:World)(s:Nat):T→List Nat→Prop
 |.any,_=>True
 |.lit v,p=>G.hd s p=v
 |.ro t,p=>RoC St t #[G.hd s p] 0
 |.same r q,p=>G.hd s p=G.hd r q
 |.addr r q,p=>G.hd s p=.pointer (some (G.ad r q))
 |.sub r q k lo hi,p=>G.hd s p=zAT (G.hd r q) k lo hi
 |.sl k xs,p=>(xs=[]∧ ∃a,G.hd s p=.slice a 0 0)∨ ∃b cap cs e,G.hd s p=.slice (some ⟨b,0,none⟩) xs.length cap∧
   w.heap[b]? =some (.cells cs e (0,0))∧xs.length≤cap∧cap≤maxLen∧cap*k≤cs.size∧G.ow b=some (s,p)∧
   (∀o,xs.length*k≤o→o<cap*k→G.lb b o=some (true,s,p))∧RL St G w s xs p 0 b 0 k
 |.agg xs,p=>RF St G w s xs p 0
 |.ptr t,p=> ∃b cs e,G.hd s p=.pointer (some ⟨b,0,none⟩)∧w.heap[b]? =some (.cells cs e (0,0))∧cs.size=t.size∧G.ow b=some (s,p)∧
   Loc G w s t (0::p) b 0∧R St G w s t (0::p)
 |.tup xs,p=>RF St G w s xs p 0
def RL(St:Stb)(G:Gh)(w:World)(s:Nat):List T→List Nat→Nat→Nat→Nat→Nat→Prop
 | [],_,_,_,_,_=>True
 |x::xs,p,i,b,o,k=>(Loc G w s x (i::p) b o∧x.size=k)∧R St G w s x (i::p)∧RL St G w s xs p (i+1) b (o+k) k
def RF(St:Stb)(G:Gh)(w:World)(s:Nat):List T→List Nat→Nat→Prop
 | [],_,_=>True
 |x::xs,p,j=>R St G w s x (j::p)∧RF St G w s xs p (j+1)
end
mutual
def yY(φ:Nat→List Nat→Prop):T→Prop
 |.same r p|.addr r p|.sub r p _ _ _=>φ r p
 |.sl _ xs|.agg xs|.tup xs=>xW φ xs
 |.ptr t=>yY φ t
 |.any|.lit _|.ro _=>True
def xW(φ:Nat→List Nat→Prop):List T→Prop
 | []=>True
 |x::xs=>yY φ x∧xW φ xs
end
mutual
theorem yY.mono{φ ψ:Nat→List Nat→Prop}(h:∀r p,φ r p→ψ r p):(t:T)→yY φ t→yY ψ t
 |.same _ _,ht|.addr _ _,ht|.sub _ _ _ _ _,ht=>h _ _ ht
 |.sl _ xs,ht|.agg xs,ht|.tup xs,ht=>by simp only[yY]at ht ⊢;exact xW.mono h xs ht
 |.ptr t,ht=>by simp only[yY]at ht ⊢;exact yY.mono h t ht
 |.any,_|.lit _,_|.ro _,_=>by simp[yY]
theorem xW.mono{φ ψ:Nat→List Nat→Prop}(h:∀r p,φ r p→ψ r p):(xs:List T)→xW φ xs→xW ψ xs
 | [],_=>trivial
 |x::xs,hx=>⟨yY.mono h x hx.1,xW.mono h xs hx.2⟩
end
mutual
theorem yY.triv{φ:Nat→List Nat→Prop}(h:∀r p,φ r p):(t:T)→yY φ t
 |.same _ _|.addr _ _|.sub _ _ _ _ _=>by simp only[yY];exact h _ _
 |.sl _ xs|.agg xs|.tup xs=>by simp only[yY];exact xW.triv h xs
 |.ptr t=>by simp only[yY];exact yY.triv h t
 |.any|.lit _|.ro _=>by simp only[yY]
theorem xW.triv{φ:Nat→List Nat→Prop}(h:∀r p,φ r p):(xs:List T)→xW φ xs
 | []=>by simp only[xW]
 |x::xs=>by simp only[xW];exact⟨yY.triv h x,xW.triv h xs⟩
end
abbrev yD(t:T):Prop:=yY (fun _ _=>False) t
abbrev xH(xs:List T):Prop:=xW (fun _ _=>False) xs
def Blk(w w':World):Prop:=∀(b:Nat) cs e,w.heap[b]? =some (.cells cs e (0,0))→ ∃cs',w'.heap[b]? =some (.cells cs' e (0,0))∧cs'.size=cs.size
structure MovesE (G:Gh) (w:World) (G':Gh) (w':World) (s:Nat) (p:List Nat) (s':Nat) (p':List Nat):Prop where
 hd:∀z,G'.hd s' (z++p')=G.hd s (z++p)
 ad:∀z,z≠[]→G'.ad s' (z++p')=G.ad s (z++p)
 lb:∀b o f z,z≠[]→(∃y,G.ow b=some (s,y))→G.lb b o=some (f,s,z++p)→G'.lb b o=some (f,s',z++p')∧yP w' b o=yP w b o
 ow:∀b z,z≠[]→G.ow b=some (s,z++p)→G'.ow b=some (s',z++p')
 blk:Blk w w'
structure zIq (G:Gh) (w:World) (G':Gh) (w':World) (s:Nat) (p:List Nat) (s':Nat) (p':List Nat):Prop extends MovesE G w G' w' s p s' p' where
 sp:∀b o,(∃y,G.ow b=some (s,y))→G.lb b o=some (true,s,p)→G'.lb b o=some (true,s',p')∧yP w' b o=yP w b o
 ow0:∀b,G.ow b=some (s,p)→G'.ow b=some (s',p')
def kR(G G':Gh)(r:Nat)(p:List Nat):Prop:=G'.hd r p=G.hd r p∧G'.ad r p=G.ad r p
section
variable {St:Stb}{G:Gh}{w:World}{G':Gh}{w':World}{s:Nat}{p:List Nat}{s':Nat}{p':List Nat}
mutual
theorem zDY(hm:MovesE G w G' w' s p s' p'):(t:T)→ ∀(z:List Nat)(b o:Nat),z≠[]→(∃y,G.ow b=some (s,y))→Loc G w s t (z++p) b o→Loc G' w' s' t (z++p') b o
 |.agg xs,z,b,o,hz,hob,h=>by
  simp only[Loc]at h ⊢
  exact⟨(hm.ad z hz).trans h.1,zIr hm xs z 0 b o hob h.2⟩
 |.any,z,b,o,hz,hob,h|.lit _,z,b,o,hz,hob,h|.ro _,z,b,o,hz,hob,h|.same _ _,z,b,o,hz,hob,h|.addr _ _,z,b,o,hz,hob,h|.sub _ _ _ _ _,z,b,o,hz,hob,h|.sl _ _,z,b,o,hz,hob,h|.ptr _,z,b,o,hz,hob,h=>by
  simp only[Loc]at h ⊢
  obtain⟨h1,h2,h3⟩:=h;have hl:=hm.lb b o false z hz hob h2;exact⟨(hm.ad z hz).trans h1,hl.1,by rw[hl.2,h3,hm.hd]⟩
 |.tup _,_,_,_,_,_,h=>by simp only[Loc]at h
theorem zIr(hm:MovesE G w G' w' s p s' p'):(xs:List T)→ ∀(z:List Nat)(j b o:Nat),(∃y,G.ow b=some (s,y))→vE G w s xs (z++p) j b o→vE G' w' s' xs (z++p') j b o
 | [],_,_,_,_,_,_=>by simp only[vE]
 |x::xs,z,j,b,o,hob,h=>by
  simp only[vE]at h ⊢
  exact⟨zDY hm x (j::z) b o (by simp) hob h.1,zIr hm xs z (j+1) b _ hob h.2⟩
end
mutual
theorem zDZ(hm:MovesE G w G' w' s p s' p'):(t:T)→ ∀(z:List Nat),z≠[]→yY (kR G G') t→R St G w s t (z++p)→R St G' w' s' t (z++p')
 |.any,_,_,_,_=>by simp only[R]
 |.lit _,z,_,_,h=>by simp only[R]at h ⊢;rw[hm.hd];exact h
 |.ro _,z,_,_,h=>by simp only[R]at h ⊢;rw[hm.hd];exact h
 |.same r q,z,_,hk,h=>by simp only[R]at h ⊢;rw[hm.hd,hk.1];exact h
 |.addr r q,z,_,hk,h=>by simp only[R]at h ⊢;rw[hm.hd,hk.2];exact h
 |.sub r q k lo hi,z,_,hk,h=>by simp only[R]at h ⊢;rw[hm.hd,hk.1];exact h
 |.agg xs,z,_,hk,h=>by simp only[R,yY]at h hk ⊢;exact zEa hm xs z 0 hk h
 |.tup xs,z,_,hk,h=>by simp only[R,yY]at h hk ⊢;exact zEa hm xs z 0 hk h
 |.sl k xs,z,hz,hk,h=>by
  simp only[R,yY]at h hk ⊢
  rw[hm.hd];rcases h with h|⟨b,cap,cs,e,h1,h2,h3,h4,h5,h6,h7,h8⟩
  ·exact .inl h
  ·obtain⟨cs',h2',hsz⟩:=hm.blk b cs e h2
   exact .inr ⟨b,cap,cs',e,h1,h2',h3,h4,by omega,hm.ow b z hz h6,fun o ho ho2=>(hm.lb b o true z hz ⟨_,h6⟩ (h7 o ho (by omega))).1,zJc hm xs z 0 b 0 k ⟨_,h6⟩ hk h8⟩
 |.ptr t,z,hz,hk,h=>by
  simp only[R,yY]at h hk ⊢
  rw[hm.hd];obtain⟨b,cs,e,h1,h2,h3,h6,h4,h5⟩:=h;obtain⟨cs',h2',hsz⟩:=hm.blk b cs e h2;exact⟨b,cs',e,h1,h2',by omega,hm.ow b z hz h6,zDY hm t (0::z) b 0 (by simp) ⟨_,h6⟩ h4,zDZ hm t (0::z) (by simp) hk h5⟩
theorem zJc(hm:MovesE G w G' w' s p s' p'):(xs:List T)→ ∀(z:List Nat)(i b o k:Nat),(∃y,G.ow b=some (s,y))→xW (kR G G') xs→RL St G w s xs (z++p) i b o k→RL St G' w' s' xs (z++p') i b o k
 | [],_,_,_,_,_,_,_,_=>by simp only[RL]
 |x::xs,z,i,b,o,k,hob,hk,h=>by
  simp only[RL,xW]at h hk ⊢
  exact⟨⟨zDY hm x (i::z) b o (by simp) hob h.1.1,h.1.2⟩,zDZ hm x (i::z) (by simp) hk.1 h.2.1,zJc hm xs z (i+1) b _ k hob hk.2 h.2.2⟩
theorem zEa(hm:MovesE G w G' w' s p s' p'):(xs:List T)→ ∀(z:List Nat)(j:Nat),xW (kR G G') xs→RF St G w s xs (z++p) j→RF St G' w' s' xs (z++p') j
 | [],_,_,_,_=>by simp only[RF]
 |x::xs,z,j,hk,h=>by
  simp only[RF,xW]at h hk ⊢
  exact⟨zDZ hm x (j::z) (by simp) hk.1 h.1,zEa hm xs z (j+1) hk.2 h.2⟩
end
theorem kX(hm:zIq G w G' w' s p s' p')(t:T)(hk:yY (kR G G') t)(h:R St G w s t p):R St G' w' s' t p':=by
 have hd0:G'.hd s' p'=G.hd s p:=by simpa using hm.hd []
 cases t with
 |any=>simp only[R]
 |lit _=>simp only[R]at h ⊢;rw[hd0];exact h
 |ro _=>simp only[R]at h ⊢;rw[hd0];exact h
 |same r q=>simp only[R]at h ⊢;rw[hd0,hk.1];exact h
 |addr r q=>simp only[R]at h ⊢;rw[hd0,hk.2];exact h
 |sub r q k lo hi=>simp only[R]at h ⊢;rw[hd0,hk.1];exact h
 |agg xs=>simp only[R,yY]at h hk ⊢;simpa using zEa hm.toMovesE xs [] 0 hk (by simpa using h)
 |tup xs=>simp only[R,yY]at h hk ⊢;simpa using zEa hm.toMovesE xs [] 0 hk (by simpa using h)
 |sl k xs=>
  simp only[R,yY]at h hk ⊢
  rw[hd0];rcases h with h|⟨b,cap,cs,e,h1,h2,h3,h4,h5,h6,h7,h8⟩
  ·exact .inl h
  ·obtain⟨cs',h2',hsz⟩:=hm.blk b cs e h2
   exact .inr ⟨b,cap,cs',e,h1,h2',h3,h4,by omega,hm.ow0 b h6,fun o ho ho2=>(hm.sp b o ⟨_,h6⟩ (h7 o ho (by omega))).1,by simpa using zJc hm.toMovesE xs [] 0 b 0 k ⟨_,h6⟩ hk (by simpa using h8)⟩
 |ptr t=>
  simp only[R,yY]at h hk ⊢
  rw[hd0];obtain⟨b,cs,e,h1,h2,h3,h6,h4,h5⟩:=h;obtain⟨cs',h2',hsz⟩:=hm.blk b cs e h2;exact⟨b,cs',e,h1,h2',by omega,hm.ow0 b h6,zDY hm.toMovesE t [0] b 0 (by simp) ⟨_,h6⟩ h4,zDZ hm.toMovesE t [0] (by simp) hk h5⟩
theorem zQs(hm:zIq G w G' w' s p s' p')(t:T)(z:List Nat)(hk:yY (kR G G') t)(h:R St G w s t (z++p)):R St G' w' s' t (z++p'):=by
 cases z with
 |nil=>exact kX hm t hk h
 |cons i z=>exact zDZ hm.toMovesE t (i::z) (by simp) hk h
end
end Go.Ab

namespace Go.Ab
open Go
def T.get:T→List Nat→Option T
 |t,[]=>some t
 |.sl _ xs,i::f|.agg xs,i::f|.tup xs,i::f=>match xs[i]? with
  |some x=>x.get f
  |none=>none
 |.ptr t,i::f=>if i=0 then t.get f else none
 |.any,_::_|.lit _,_::_|.ro _,_::_|.same _ _,_::_|.addr _ _,_::_|.sub _ _ _ _ _,_::_=>none
termination_by structural _ f=>f
def T.set:T→List Nat→T→T
 |_,[],u=>u
 |.sl k xs,i::f,u=>match xs[i]? with
  |some x=>.sl k (xs.set i (x.set f u))
  |none=>.sl k xs
 |.agg xs,i::f,u=>match xs[i]? with
  |some x=>.agg (xs.set i (x.set f u))
  |none=>.agg xs
 |.tup xs,i::f,u=>match xs[i]? with
  |some x=>.tup (xs.set i (x.set f u))
  |none=>.tup xs
 |.ptr t,i::f,u=>if i=0 then .ptr (t.set f u)else .ptr t
 |.any,_::_,_=>.any
 |.lit v,_::_,_=>.lit v
 |.ro t,_::_,_=>.ro t
 |.same r q,_::_,_=>.same r q
 |.addr r q,_::_,_=>.addr r q
 |.sub r q k lo hi,_::_,_=>.sub r q k lo hi
termination_by structural _ f _=>f
def T.locd:T→List Nat→Bool
 |_,[]=>false
 |.sl _ _,_::_|.ptr _,_::_=>true
 |.agg xs,i::f|.tup xs,i::f=>match xs[i]? with
  |some x=>x.locd f
  |none=>false
 |.any,_::_|.lit _,_::_|.ro _,_::_|.same _ _,_::_|.addr _ _,_::_|.sub _ _ _ _ _,_::_=>false
termination_by structural _ f=>f
abbrev rp(f p:List Nat):List Nat:=f.reverse++p
theorem zA4(i:Nat)(f p:List Nat):rp (i::f) p=rp f (i::p):=by simp[rp]
section
variable {St:Stb}{G:Gh}{w:World}{s:Nat}
theorem jJ:(xs:List T)→ ∀(p:List Nat)(i0 b o k i:Nat)(x:T),RL St G w s xs p i0 b o k→xs[i]? =some x→
  Loc G w s x ((i0+i)::p) b (o+i*k)∧x.size=k∧R St G w s x ((i0+i)::p)
 | [],_,_,_,_,_,_,_,_,h=>by simp at h
 |y::ys,p,i0,b,o,k,i,x,hr,h=>by
  simp only[RL]at hr;cases i with
  |zero=>
   simp at h;subst h;simpa using⟨hr.1.1,hr.1.2,hr.2.1⟩
  |succ i=>
   have:=jJ ys p (i0+1) b (o+k) k i x hr.2.2 (by simpa using h);rw[show i0+(i+1)=i0+1+i from by omega,show o+(i+1)*k=o+k+i*k from by rw[Jy];omega];exact this
theorem zAI:(xs:List T)→ ∀(p:List Nat)(j i:Nat)(x:T),RF St G w s xs p j→xs[i]? =some x→R St G w s x ((j+i)::p)
 | [],_,_,_,_,_,h=>by simp at h
 |y::ys,p,j,i,x,hr,h=>by
  simp only[RF]at hr;cases i with
  |zero=>simp at h;subst h;simpa using hr.1
  |succ i=>
   have:=zAI ys p (j+1) i x hr.2 (by simpa using h)
   rwa [show j+(i+1)=j+1+i from by omega]
theorem zKl:(xs:List T)→ ∀(p:List Nat)(j b o i:Nat)(x:T),vE G w s xs p j b o→xs[i]? =some x→
  ∃o',Loc G w s x ((j+i)::p) b o'∧o≤o'∧o'+x.size≤o+T.sizes xs
 | [],_,_,_,_,_,_,_,h=>by simp at h
 |y::ys,p,j,b,o,i,x,hr,h=>by
  simp only[vE]at hr;cases i with
  |zero=>simp at h;subst h;exact⟨o,by simpa using hr.1,by omega,by simp[T.sizes]⟩
  |succ i=>
   obtain⟨o',h1,h2,h3⟩:=zKl ys p (j+1) b (o+y.size) i x hr.2 (by simpa using h);refine⟨o',?_,by omega,by simp only[T.sizes];omega⟩
   rwa [show j+(i+1)=j+1+i from by omega]
def At(G:Gh)(w:World)(s:Nat)(t:T)(p:List Nat):Prop:=
 ∃b o cs e,Loc G w s t p b o∧w.heap[b]? =some (.cells cs e (0,0))∧o+t.size≤cs.size
theorem At.field{xs:List T}{p:List Nat}(h:At G w s (.agg xs) p){i:Nat}{x:T}(hx:xs[i]? =some x):At G w s x (i::p):=by obtain⟨b,o,cs,e,hl,hh,hs⟩:=h;simp only[Loc]at hl;obtain⟨o',h1,h2,h3⟩:=zKl xs p 0 b o i x hl.2 hx;simp only[T.size]at hs;exact⟨b,o',cs,e,by simpa using h1,hh,by omega⟩
theorem zCG{k:Nat}{xs:List T}{p:List Nat}(h:R St G w s (.sl k xs) p){i:Nat}{x:T}(hx:xs[i]? =some x):
  At G w s x (i::p)∧R St G w s x (i::p):=by
 simp only[R]at h;have hi:=(Jb.1 hx).1;rcases h with⟨rfl,_⟩|⟨b,cap,cs,e,h1,h2,h3,h4,h5,h6,h7,h8⟩
 ·simp at hx
 ·obtain⟨a1,a2,a3⟩:=jJ xs p 0 b 0 k i x h8 hx
  simp only[Jf]at a1 a3;refine⟨⟨b,i*k,cs,e,a1,h2,?_⟩,a3⟩;rw[a2,←Jy];exact L6 (Kg _ (by omega)) h5
theorem zAU{t:T}{p:List Nat}(h:R St G w s (.ptr t) p):At G w s t (0::p)∧R St G w s t (0::p):=by simp only[R]at h;obtain⟨b,cs,e,h1,h2,h3,h6,h4,h5⟩:=h;exact⟨⟨b,0,cs,e,h4,h2,by omega⟩,h5⟩
theorem zAm:(f:List Nat)→ ∀(t u:T)(p:List Nat),At G w s t p→R St G w s t p→t.get f=some u→At G w s u (rp f p)∧R St G w s u (rp f p)
 | [],t,u,p,ha,h,hg=>by simp[T.get]at hg;subst hg;simpa[rp]using⟨ha,h⟩
 |i::f,t,u,p,ha,h,hg=>by
  rw[zA4];cases t with
  |sl k xs=>
   simp only[T.get]at hg;cases hx:xs[i]? with
   |none=>simp[hx]at hg
   |some x=>rw[hx]at hg;exact zAm f x u _ (zCG h hx).1 (zCG h hx).2 hg
  |ptr t=>
   simp only[T.get]at hg;split at hg
   ·rename_i hi;subst hi;exact zAm f t u _ (zAU h).1 (zAU h).2 hg
   ·cases hg
  |agg xs=>
   simp only[T.get]at hg;cases hx:xs[i]? with
   |none=>simp[hx]at hg
   |some x=>rw[hx]at hg;exact zAm f x u _ (ha.field hx) (by simp only[R]at h;simpa using zAI xs p 0 i x h hx) hg
  |tup xs=>obtain⟨b,o,cs,e,hl,_⟩:=ha;simp only[Loc]at hl
  |_=>simp[T.get]at hg
theorem zA5:(f:List Nat)→ ∀(t u:T)(p:List Nat),R St G w s t p→t.get f=some u→R St G w s u (rp f p)∧(t.locd f=true→At G w s u (rp f p))
 | [],t,u,p,h,hg=>by simp[T.get]at hg;subst hg;simpa[rp,T.locd]using h
 |i::f,t,u,p,h,hg=>by
  rw[zA4];cases t with
  |sl k xs=>
   simp only[T.get]at hg;cases hx:xs[i]? with
   |none=>simp[hx]at hg
   |some x=>rw[hx]at hg;exact⟨(zAm f x u _ (zCG h hx).1 (zCG h hx).2 hg).2,fun _=>(zAm f x u _ (zCG h hx).1 (zCG h hx).2 hg).1⟩
  |ptr t=>
   simp only[T.get]at hg;split at hg
   ·rename_i hi;subst hi;exact⟨(zAm f t u _ (zAU h).1 (zAU h).2 hg).2,fun _=>(zAm f t u _ (zAU h).1 (zAU h).2 hg).1⟩
   ·cases hg
  |agg xs=>
   simp only[T.get,T.locd]at hg ⊢
   cases hx:xs[i]? with
   |none=>simp[hx]at hg
   |some x=>rw[hx]at hg;exact zA5 f x u _ (by simp only[R]at h;simpa using zAI xs p 0 i x h hx) hg
  |tup xs=>
   simp only[T.get,T.locd]at hg ⊢
   cases hx:xs[i]? with
   |none=>simp[hx]at hg
   |some x=>rw[hx]at hg;exact zA5 f x u _ (by simp only[R]at h;simpa using zAI xs p 0 i x h hx) hg
  |_=>simp[T.get]at hg
end
structure Upd (G:Gh) (w:World) (G':Gh) (w':World) (s:Nat) (tgt:List Nat):Prop where
 hd:∀p,¬tgt<:+p→G'.hd s p=G.hd s p
 ad:∀p,¬tgt<:+p→G'.ad s p=G.ad s p
 lb:∀b o f p,G.lb b o=some (f,s,p)→ ¬tgt<:+p→G'.lb b o=some (f,s,p)∧yP w' b o=yP w b o
 ow:∀b p,G.ow b=some (s,p)→ ¬tgt<:+p→G'.ow b=some (s,p)
 blk:Blk w w'
section
variable {St:Stb}{G:Gh}{w:World}{G':Gh}{w':World}{s:Nat}{tgt:List Nat}
theorem Upd.moves(h:Upd G w G' w' s tgt){p:List Nat}(hp:∀z,¬tgt<:+z++p):zIq G w G' w' s p s p where
 hd z:=h.hd _ (hp z)
 ad z _:=h.ad _ (hp z)
 lb b o f z _ _ hl:=h.lb b o f _ hl (hp z)
 ow b z _ hl:=h.ow b _ hl (hp z)
 sp b o _ hl:=h.lb b o true p hl (hp [])
 ow0 b hl:=h.ow b p hl (hp [])
 blk:=h.blk
mutual
theorem zEb(hm:Upd G w G' w' s tgt):(t:T)→ ∀(p:List Nat)(b o:Nat),(∀z,¬tgt<:+z++p)→Loc G w s t p b o→Loc G' w' s t p b o
 |.agg xs,p,b,o,hz,h=>by
  simp only[Loc]at h ⊢
  exact⟨(hm.ad p (hz [])).trans h.1,zKm hm xs p 0 b o hz h.2⟩
 |.any,p,b,o,hz,h|.lit _,p,b,o,hz,h|.ro _,p,b,o,hz,h|.same _ _,p,b,o,hz,h|.addr _ _,p,b,o,hz,h|.sub _ _ _ _ _,p,b,o,hz,h|.sl _ _,p,b,o,hz,h|.ptr _,p,b,o,hz,h=>by
  simp only[Loc]at h ⊢
  obtain⟨h1,h2,h3⟩:=h;have hl:=hm.lb b o false p h2 (hz []);exact⟨(hm.ad p (hz [])).trans h1,hl.1,by rw[hl.2,h3,hm.hd p (hz [])]⟩
 |.tup _,_,_,_,_,h=>by simp only[Loc]at h
theorem zKm(hm:Upd G w G' w' s tgt):(xs:List T)→ ∀(p:List Nat)(j b o:Nat),(∀z,¬tgt<:+z++p)→vE G w s xs p j b o→vE G' w' s xs p j b o
 | [],_,_,_,_,_,_=>by simp only[vE]
 |x::xs,p,j,b,o,hz,h=>by
  simp only[vE]at h ⊢
  exact⟨zEb hm x (j::p) b o (fun z=>by have:=hz (z++[j]);simpa using this) h.1,zKm hm xs p (j+1) b _ hz h.2⟩
end
theorem zKn(hm:Upd G w G' w' s tgt)(t u:T)(p:List Nat)(b o:Nat)(ht:∀xs,t≠.agg xs)(hu:∀xs,u≠.agg xs)(hu':∀xs,u≠.tup xs)(hz:¬tgt<:+p)(h:Loc G w s t p b o):Loc G' w' s u p b o:=by
 have h3:G.ad s p=⟨b,o,none⟩∧G.lb b o=some (false,s,p)∧yP w b o=some (G.hd s p):=by
  cases t with
  |agg xs=>exact absurd rfl (ht xs)
  |tup xs=>simp only[Loc]at h
  |_=>simpa only[Loc]using h
 obtain⟨h1,h2,h3⟩:=h3;have hl:=hm.lb b o false p h2 hz;have h4:G'.ad s p=⟨b,o,none⟩∧G'.lb b o=some (false,s,p)∧yP w' b o=some (G'.hd s p):=⟨(hm.ad p hz).trans h1,hl.1,by rw[hl.2,h3,hm.hd p hz]⟩;cases u with
 |agg xs=>exact absurd rfl (hu xs)
 |tup xs=>exact absurd rfl (hu' xs)
 |_=>simpa only[Loc]using h4
theorem jK{f p:List Nat}{i i':Nat}(hi:i'≠i)(z:List Nat):¬f.reverse++(i::p)<:+z++(i'::p):=by
 rintro⟨y,hy⟩
 rw[←Ja]at hy;have:=List.append_inj_right' hy rfl;simp at this;exact hi this.symm
theorem jW{f p:List Nat}{i:Nat}:¬f.reverse++(i::p)<:+p:=by intro h;have:=h.length_le;simp at this;omega
theorem zIs:(xs:List T)→ ∀(i:Nat)(x y:T),xs[i]? =some x→y.size=x.size→T.sizes (xs.set i y)=T.sizes xs
 | [],_,_,_,h,_=>by simp at h
 |z::zs,i,x,y,h,hs=>by
  cases i with
  |zero=>simp at h;subst h;simp[T.sizes,hs]
  |succ i=>simp only[Lm,T.sizes,zIs zs i x y (by simpa using h) hs]
theorem zEc:(f:List Nat)→ ∀(t u u0:T),t.get f=some u0→u.size=u0.size→(t.set f u).size=t.size
 | [],t,u,u0,h,hs=>by simp[T.get]at h;subst h;simpa[T.set]using hs
 |i::f,t,u,u0,h,hs=>by
  cases t with
  |sl k xs=>simp only[T.get]at h;cases hx:xs[i]? <;>simp[hx,T.set,T.size]at h ⊢
  |tup xs=>simp only[T.get]at h;cases hx:xs[i]? <;>simp[hx,T.set,T.size]at h ⊢
  |agg xs=>
   simp only[T.get]at h;cases hx:xs[i]? with
   |none=>simp[hx]at h
   |some x=>
    rw[hx]at h;simp only[T.set,hx,T.size];exact zIs xs i x _ hx (zEc f x u u0 h hs)
  |ptr t=>simp only[T.get]at h;split at h<;>simp_all [T.set,T.size]
  |_=>simp[T.get]at h
theorem zKo(hm:Upd G w G' w' s tgt):(xs:List T)→ ∀(p:List Nat)(j b o i:Nat)(x y:T),vE G w s xs p j b o→xs[i]? =some x→y.size=x.size→
  (∀i',i'≠j+i→ ∀z,¬tgt<:+z++(i'::p))→(∀o',Loc G w s x ((j+i)::p) b o'→Loc G' w' s y ((j+i)::p) b o')→vE G' w' s (xs.set i y) p j b o
 | [],_,_,_,_,_,_,_,_,h,_,_,_=>by simp at h
 |z::zs,p,j,b,o,i,x,y,hl,h,hs,hz,hy=>by
  simp only[vE]at hl;cases i with
  |zero=>
   simp at h;subst h;simp only[Kz,vE,hs];exact⟨by simpa using hy o (by simpa using hl.1),LocF_upd' hm zs p (j+1) b _ (fun i' hi'=>hz i' (by omega)) hl.2⟩
  |succ i=>
   simp only[Lm,vE];refine⟨zEb hm z _ b o (hz j (by omega)) hl.1,zKo hm zs p (j+1) b _ i x y hl.2 (by simpa using h) hs (fun i' hi'=>hz i' (by omega)) ?_⟩;rw[show j+1+i=j+(i+1)from by omega];exact hy
where LocF_upd' (hm:Upd G w G' w' s tgt):(xs:List T)→ ∀(p:List Nat)(j b o:Nat),(∀i',j≤i'→ ∀z,¬tgt<:+z++(i'::p))→vE G w s xs p j b o→vE G' w' s xs p j b o
 | [],_,_,_,_,_,_=>by simp only[vE]
 |x::xs,p,j,b,o,hz,h=>by
  simp only[vE]at h ⊢
  exact⟨zEb hm x (j::p) b o (hz j (Jp _)) h.1,LocF_upd' hm xs p (j+1) b _ (fun i' hi'=>hz i' (by omega)) h.2⟩
theorem zJd:(f:List Nat)→ ∀(t u u0:T)(p:List Nat)(b o:Nat),Upd G w G' w' s (rp f p)→Loc G w s t p b o→t.get f=some u0→u.size=u0.size→
  (∀o',Loc G w s u0 (rp f p) b o'→Loc G' w' s u (rp f p) b o')→Loc G' w' s (t.set f u) p b o
 | [],t,u,u0,p,b,o,hm,hl,hg,hs,hu=>by simp[T.get]at hg;subst hg;simpa[T.set,rp]using hu o (by simpa[rp]using hl)
 |i::f,t,u,u0,p,b,o,hm,hl,hg,hs,hu=>by
  have hm':=hm;rw[zA4]at hm';cases t with
  |sl k xs=>
   have:∃ys,(T.sl k xs).set (i::f) u=.sl k ys:=by simp only[T.set];split<;>exact⟨_,rfl⟩
   obtain⟨ys,hy⟩:=this;rw[hy];exact zKn hm' (.sl k xs) (.sl k ys) p b o (by simp) (by simp) (by simp) jW hl
  |ptr t=>
   have:∃ys,(T.ptr t).set (i::f) u=.ptr ys:=by simp only[T.set];split<;>exact⟨_,rfl⟩
   obtain⟨ys,hy⟩:=this;rw[hy];exact zKn hm' (.ptr t) (.ptr ys) p b o (by simp) (by simp) (by simp) jW hl
  |agg xs=>
   simp only[T.get]at hg;cases hx:xs[i]? with
   |none=>simp[hx]at hg
   |some x=>
    rw[hx]at hg;simp only[T.set,hx];simp only[Loc]at hl ⊢
    refine⟨(hm'.ad p jW).trans hl.1,zKo hm' xs p 0 b o i x _ hl.2 hx (zEc f x u u0 hg hs) (fun i' hi' z=>jK (by omega) z) ?_⟩;intro o' ho';simp only[Jf]at ho' ⊢
    exact zJd f x u u0 (i::p) b o' hm' ho' hg hs (by simpa only[zA4]using hu)
  |tup xs=>simp only[Loc]at hl
  |_=>simp[T.get]at hg
end
end Go.Ab

namespace Go.Ab
open Go
section
variable {St:Stb}{G:Gh}{w:World}{G':Gh}{w':World}{s:Nat}{tgt:List Nat}
theorem zNA(hm:Upd G w G' w' s tgt)(t:T)(p:List Nat)(hz:∀z,¬tgt<:+z++p)(hk:yY (kR G G') t)(h:R St G w s t p):R St G' w' s t p:=by simpa using zQs (hm.moves hz) t [] hk (by simpa using h)
theorem zQt(hm:Upd G w G' w' s tgt):(xs:List T)→ ∀(p:List Nat)(i b o k:Nat),(∀i',i≤i'→ ∀z,¬tgt<:+z++(i'::p))→xW (kR G G') xs→RL St G w s xs p i b o k→RL St G' w' s xs p i b o k
 | [],_,_,_,_,_,_,_,_=>by simp only[RL]
 |x::xs,p,i,b,o,k,hz,hk,h=>by
  simp only[RL,xW]at h hk ⊢
  exact⟨⟨zEb hm x (i::p) b o (hz i (Jp _)) h.1.1,h.1.2⟩,zNA hm x (i::p) (hz i (Jp _)) hk.1 h.2.1,
   zQt hm xs p (i+1) b _ k (fun i' hi'=>hz i' (by omega)) hk.2 h.2.2⟩
theorem zQu(hm:Upd G w G' w' s tgt):(xs:List T)→ ∀(p:List Nat)(i0 b o k i:Nat)(x y:T),RL St G w s xs p i0 b o k→xs[i]? =some x→y.size=x.size→xW (kR G G') xs→
  (∀i',i'≠i0+i→ ∀z,¬tgt<:+z++(i'::p))→(∀o',Loc G w s x ((i0+i)::p) b o'→Loc G' w' s y ((i0+i)::p) b o')→R St G' w' s y ((i0+i)::p)→
  RL St G' w' s (xs.set i y) p i0 b o k
 | [],_,_,_,_,_,_,_,_,_,h,_,_,_,_,_=>by simp at h
 |z::zs,p,i0,b,o,k,i,x,y,hr,h,hs,hk,hz,hl,hy=>by
  simp only[RL,xW]at hr hk;cases i with
  |zero=>
   simp at h;subst h;simp only[Kz,RL];exact⟨⟨by simpa using hl o (by simpa using hr.1.1),by omega⟩,by simpa using hy,zQt hm zs p (i0+1) b _ k (fun i' hi'=>hz i' (by omega)) hk.2 hr.2.2⟩
  |succ i=>
   simp only[Lm,RL];rw[show i0+(i+1)=i0+1+i from by omega]at hl hy hz;exact⟨⟨zEb hm z _ b o (hz i0 (by omega)) hr.1.1,hr.1.2⟩,zNA hm z _ (hz i0 (by omega)) hk.1 hr.2.1,zQu hm zs p (i0+1) b _ k i x y hr.2.2 (by simpa using h) hs hk.2 hz hl hy⟩
theorem zQv(hm:Upd G w G' w' s tgt):(xs:List T)→ ∀(p:List Nat)(i:Nat),(∀i',i≤i'→ ∀z,¬tgt<:+z++(i'::p))→xW (kR G G') xs→RF St G w s xs p i→RF St G' w' s xs p i
 | [],_,_,_,_,_=>by simp only[RF]
 |x::xs,p,i,hz,hk,h=>by
  simp only[RF,xW]at h hk ⊢
  exact⟨zNA hm x (i::p) (hz i (Jp _)) hk.1 h.1,zQv hm xs p (i+1) (fun i' hi'=>hz i' (by omega)) hk.2 h.2⟩
theorem zMu(hm:Upd G w G' w' s tgt):(xs:List T)→ ∀(p:List Nat)(i0 i:Nat)(x y:T),RF St G w s xs p i0→xs[i]? =some x→xW (kR G G') xs→
  (∀i',i'≠i0+i→ ∀z,¬tgt<:+z++(i'::p))→R St G' w' s y ((i0+i)::p)→
  RF St G' w' s (xs.set i y) p i0
 | [],_,_,_,_,_,_,h,_,_,_=>by simp at h
 |z::zs,p,i0,i,x,y,hr,h,hk,hz,hy=>by
  simp only[RF,xW]at hr hk;cases i with
  |zero=>
   simp at h;subst h;simp only[Kz,RF];exact⟨by simpa using hy,zQv hm zs p (i0+1) (fun i' hi'=>hz i' (by omega)) hk.2 hr.2⟩
  |succ i=>
   simp only[Lm,RF];rw[show i0+(i+1)=i0+1+i from by omega]at hy hz;exact⟨zNA hm z _ (hz i0 (by omega)) hk.1 hr.1,zMu hm zs p (i0+1) i x y hr.2 (by simpa using h) hk.2 hz hy⟩
theorem uL{φ:Nat→List Nat→Prop}:(xs:List T)→xW φ xs→ ∀(i:Nat)(x:T),xs[i]? =some x→yY φ x
 | [],_,_,_,h=>by simp at h
 |y::ys,hk,i,x,h=>by
  simp only[xW]at hk;cases i with
  |zero=>simp at h;subst h;exact hk.1
  |succ i=>exact uL ys hk.2 i x (by simpa using h)
theorem zFD:(f:List Nat)→ ∀(t u u0:T)(p:List Nat),Upd G w G' w' s (rp f p)→R St G w s t p→t.get f=some u0→u.size=u0.size→yY (kR G G') t→
  (∀b o,Loc G w s u0 (rp f p) b o→Loc G' w' s u (rp f p) b o)→R St G' w' s u (rp f p)→R St G' w' s (t.set f u) p
 | [],t,u,u0,p,hm,hr,hg,hs,hk,hl,hu=>by simpa[T.set,rp]using hu
 |i::f,t,u,u0,p,hm,hr,hg,hs,hk,hl,hu=>by
  have hm':=hm;rw[zA4]at hm' hl hu;cases t with
  |sl k xs=>
   simp only[T.get]at hg;cases hx:xs[i]? with
   |none=>simp[hx]at hg
   |some x=>
    rw[hx]at hg;simp only[T.set,hx];simp only[R,yY]at hr hk ⊢
    rcases hr with⟨rfl,_⟩|⟨b,cap,cs,e,h1,h2,h3,h4,h5,h6,h7,h8⟩
    ·simp at hx
    ·obtain⟨cs',h2',hsz⟩:=hm'.blk b cs e h2
     refine .inr ⟨b,cap,cs',e,by rw[hm'.hd p jW,Qn];exact h1,h2',by rw[Qn];exact h3,h4,by omega,hm'.ow b p h6 jW,?_,?_⟩
     ·intro o ho ho2
      rw[Qn]at ho;exact(hm'.lb b o true p (h7 o ho (by omega)) jW).1
     ·have hx1:=jJ xs p 0 b 0 k i x h8 hx
      simp only[Jf]at hx1;refine zQu hm' xs p 0 b 0 k i x _ h8 hx (zEc f x u u0 hg hs) hk (fun i' hi' z=>jK (by omega) z) ?_ ?_
      ·intro o' ho'
       simp only[Jf]at ho' ⊢
       exact zJd f x u u0 (i::p) b o' hm' ho' hg hs (fun o''=>hl b o'')
      ·simp only[Jf]
       exact zFD f x u u0 (i::p) hm' hx1.2.2 hg hs (uL xs hk i x hx) hl hu
  |ptr t=>
   simp only[T.get]at hg;split at hg
   ·rename_i hi;subst hi
    simp only[T.set,if_true];simp only[R,yY]at hr hk ⊢
    obtain⟨b,cs,e,h1,h2,h3,h6,h4,h5⟩:=hr;obtain⟨cs',h2',hsz⟩:=hm'.blk b cs e h2;refine⟨b,cs',e,by rw[hm'.hd p jW];exact h1,h2',by rw[zEc f t u u0 hg hs];omega,hm'.ow b p h6 jW,zJd f t u u0 (0::p) b 0 hm' h4 hg hs (fun o''=>hl b o''),zFD f t u u0 (0::p) hm' h5 hg hs hk hl hu⟩
   ·cases hg
  |agg xs=>
   simp only[T.get]at hg;cases hx:xs[i]? with
   |none=>simp[hx]at hg
   |some x=>
    rw[hx]at hg;simp only[T.set,hx];simp only[R,yY]at hr hk ⊢
    refine zMu hm' xs p 0 i x _ hr hx hk (fun i' hi' z=>jK (by omega) z) ?_;simp only[Jf];exact zFD f x u u0 (i::p) hm' (by simpa using zAI xs p 0 i x hr hx) hg hs (uL xs hk i x hx) hl hu
  |tup xs=>
   simp only[T.get]at hg;cases hx:xs[i]? with
   |none=>simp[hx]at hg
   |some x=>
    rw[hx]at hg;simp only[T.set,hx];simp only[R,yY]at hr hk ⊢
    refine zMu hm' xs p 0 i x _ hr hx hk (fun i' hi' z=>jK (by omega) z) ?_;simp only[Jf];exact zFD f x u u0 (i::p) hm' (by simpa using zAI xs p 0 i x hr hx) hg hs (uL xs hk i x hx) hl hu
  |_=>simp[T.get]at hg
end
end Go.Ab

namespace Go.Ab
open Go
mutual
def vals(G:Gh)(s:Nat):T→List Nat→List Value
 |.agg xs,p=>yF G s xs p 0
 |.any,p|.lit _,p|.ro _,p|.same _ _,p|.addr _ _,p|.sub _ _ _ _ _,p|.sl _ _,p|.ptr _,p|.tup _,p=>[G.hd s p]
def yF(G:Gh)(s:Nat):List T→List Nat→Nat→List Value
 | [],_,_=>[]
 |x::xs,p,j=>vals G s x (j::p)++yF G s xs p (j+1)
end
def tZ(G:Gh)(s:Nat)(t:T)(p:List Nat):Value:=
 match t with
 |.agg xs=>.agg (yF G s xs p 0).toArray
 |_=>G.hd s p
def qW(G:Gh)(s:Nat):List T→List Nat→Nat→List Value
 | [],_,_=>[]
 |x::xs,p,j=>tZ G s x (j::p)::qW G s xs p (j+1)
def mkV(G:Gh)(s:Nat)(t:T)(p:List Nat):Value:=
 match t with
 |.agg xs=>.agg (yF G s xs p 0).toArray
 |.tup xs=>.tuple (qW G s xs p 0).toArray
 |_=>G.hd s p
mutual
def Top:T→Prop
 |.sl _ xs=>xH xs
 |.ptr t=>yD t
 |.agg xs|.tup xs=>vL xs
 |.any|.lit _|.ro _|.same _ _|.addr _ _|.sub _ _ _ _ _=>True
def vL:List T→Prop
 | []=>True
 |x::xs=>Top x∧vL xs
end
mutual
theorem Top.of_clean:(t:T)→yD t→Top t
 |.sl _ xs,h=>by simpa only[Top,yD,yY]using h
 |.ptr t,h=>by simpa only[Top,yD,yY]using h
 |.agg xs,h|.tup xs,h=>by simp only[Top];exact vL.of_clean xs (by simpa only[yD,yY]using h)
 |.any,_|.lit _,_|.ro _,_|.same _ _,_|.addr _ _,_|.sub _ _ _ _ _,_=>by simp only[Top]
theorem vL.of_clean:(xs:List T)→xH xs→vL xs
 | [],_=>by simp only[vL]
 |x::xs,h=>by simp only[vL];exact⟨Top.of_clean x h.1,vL.of_clean xs h.2⟩
end
abbrev Chg:=List (Nat×Nat)
def Off(chg:Chg)(s:Nat)(p:List Nat):Prop:=∀n,(s,n)∈chg→p.length<n
def kC(chg:Chg)(r:Nat)(p:List Nat):Bool:=chg.all fun c=>c.1 != r||decide (p.length<c.2)
theorem zPb{chg:Chg}{r:Nat}{p:List Nat}(h:kC chg r p=true):Off chg r p:=by intro n hn;have:=Kh.1 h _ hn;simpa using this
mutual
def T.okB(chg:Chg):T→Bool
 |.same r p|.addr r p|.sub r p _ _ _=>kC chg r p
 |.agg xs|.tup xs=>zJe chg xs
 |.any|.lit _|.ro _|.sl _ _|.ptr _=>true
def zJe(chg:Chg):List T→Bool
 | []=>true
 |x::xs=>x.okB chg&&zJe chg xs
end
mutual
theorem kY{chg:Chg}:(t:T)→Top t→t.okB chg=true→yY (Off chg) t
 |.same r p,_,h|.addr r p,_,h|.sub r p _ _ _,_,h=>by simp only[T.okB]at h;simp only[yY];exact zPb h
 |.agg xs,ht,h|.tup xs,ht,h=>by simp only[T.okB,Top]at h ht;simp only[yY];exact zG2 xs ht h
 |.sl _ xs,ht,_=>by simp only[Top]at ht;simp only[yY];exact xW.mono (fun _ _=>False.elim) xs ht
 |.ptr t,ht,_=>by simp only[Top]at ht;simp only[yY];exact yY.mono (fun _ _=>False.elim) t ht
 |.any,_,_|.lit _,_,_|.ro _,_,_=>by simp only[yY]
theorem zG2{chg:Chg}:(xs:List T)→vL xs→zJe chg xs=true→xW (Off chg) xs
 | [],_,_=>by simp only[xW]
 |x::xs,ht,h=>by simp only[zJe,vL,J4]at h ht;simp only[xW];exact⟨kY x ht.1 h.1,zG2 xs ht.2 h.2⟩
end
abbrev Env:=Nat→Option T
abbrev Wr:=List (Nat×Option T)
def Wr.find(wr:Wr)(s:Nat):Option (Option T):=
 match wr with
 | []=>none
 |(k,x)::r=>if k=s then some x else Wr.find r s
def Env.app(E:Env)(wr:Wr)(chg:Chg):Env:=fun s=>
 match wr.find s with
 |some x=>x
 |none=>match E s with
  |some t=>if t.okB chg then some t else none
  |none=>none
structure Ctx where
 St:Stb
 W:Nat→Prop
 w0:World
 N:Nat
def zBY(Γ:Ctx)(w:World)(b:Nat):Prop:=b<w.heap.size∧(Γ.w0.heap.size≤b∨Γ.W b)∧Γ.St b=none
structure zT8 (w w':World):Prop where
 blk:Blk w w'
 os:w'.os=w.os
 out:w'.output=w.output
structure Mem (Γ:Ctx) (G:Gh) (w:World):Prop where
 one:∀s p,(G.hd s p).oneCell'=true
 lb:∀b o l,G.lb b o=some l→zBY Γ w b
 ow:∀b l,G.ow b=some l→zBY Γ w b
 st:∀b x,Γ.St b=some x→w.heap[b]? =some x
 fr:∀b,b<Γ.w0.heap.size→ ¬Γ.W b→w.heap[b]? =Γ.w0.heap[b]?
 sz:Γ.w0.heap.size≤w.heap.size
 bk:zT8 Γ.w0 w
theorem Blk.trans{w w' w'':World}(h:Blk w w')(h':Blk w' w''):Blk w w'':=fun b cs e hb=>by obtain⟨cs',h1,h2⟩:=h b cs e hb;obtain⟨cs'',h3,h4⟩:=h' b cs' e h1;exact⟨cs'',h3,by omega⟩
theorem zT8.trans{w w' w'':World}(h:zT8 w w')(h':Blk w' w'')(ho:w''.os=w'.os)(hq:w''.output=w'.output):zT8 w w'':=⟨h.blk.trans h',ho.trans h.os,hq.trans h.out⟩
def Ent(Γ:Ctx)(G:Gh)(w:World)(v:Option Value)(s:Nat)(t:T):Prop:=v=some (mkV G s t [])∧R Γ.St G w s t []∧Top t
structure Rep (Γ:Ctx) (E:Env) (G:Gh) (tmps:Array Value) (w:World):Prop where
 size:tmps.size=Γ.N
 ent:∀s t,E s=some t→Ent Γ G w tmps[s]? s t
 mem:Mem Γ G w
def Sim(Γ:Ctx)(E:Env)(a:Act)(w:World):Prop:=a.defers=[]∧ ∃G,Rep Γ E G a.tmps w
structure zDg (S S':Stb) (W:Nat→Prop) (n:Nat):Prop where
 le:∀b x,S b=some x→S' b=some x
 nw:∀b,S b=none→S' b≠none→n≤b∨W b
theorem zDg.refl{S:Stb}{W:Nat→Prop}{n:Nat}:zDg S S W n:=⟨fun _ _ h=>h,fun _ h h'=>absurd h h'⟩
theorem zDg.trans{S S' S'':Stb}{W:Nat→Prop}{n:Nat}(h:zDg S S' W n)(h':zDg S' S'' W n):zDg S S'' W n:=
 ⟨fun b x hb=>h'.le b x (h.le b x hb),fun b hb hb'=>by
  cases hs:S' b with
  |none=>exact h'.nw b hs hb'
  |some x=>exact h.nw b hb (by rw[hs];simp)⟩
abbrev Ctx.at(Γ:Ctx)(S:Stb):Ctx:={ Γ with St:=S }
def qX(Γ:Ctx)(E:Env)(a:Act)(w:World):Prop:=∃S,zDg Γ.St S Γ.W Γ.w0.heap.size∧Sim (Γ.at S) E a w
theorem qX.of{Γ:Ctx}{E:Env}{a:Act}{w:World}(h:Sim Γ E a w):qX Γ E a w:=⟨Γ.St,.refl,h⟩
theorem qX.up{Γ:Ctx}{E:Env}{a:Act}{w:World}{S:Stb}(hS:zDg Γ.St S Γ.W Γ.w0.heap.size)(h:qX (Γ.at S) E a w):qX Γ E a w:=by obtain⟨S',h1,h2⟩:=h;exact⟨S',hS.trans h1,h2⟩
structure qP (chg:Chg) (G:Gh) (w:World) (G':Gh) (w':World):Prop where
 hd:∀s p,Off chg s p→G'.hd s p=G.hd s p
 ad:∀s p,Off chg s p→G'.ad s p=G.ad s p
 lb:∀b o f s p,(∃y,G.ow b=some (s,y))→G.lb b o=some (f,s,p)→(∀n,(s,n)∉chg)→G'.lb b o=some (f,s,p)∧yP w' b o=yP w b o
 ow:∀b s p,G.ow b=some (s,p)→(∀n,(s,n)∉chg)→G'.ow b=some (s,p)
 blk:Blk w w'
theorem Off.of_not{chg:Chg}{s:Nat}(h:∀n,(s,n)∉chg)(p:List Nat):Off chg s p:=fun n hn=>absurd hn (h n)
section
variable {Γ:Ctx}{G G':Gh}{w w':World}{s:Nat}{chg:Chg}
mutual
theorem zA6{s':Nat}:(t:T)→ ∀(p p':List Nat),(∀z,G'.hd s' (z++p')=G.hd s (z++p))→vals G' s' t p'=vals G s t p
 |.agg xs,p,p',h=>by simp only[vals];exact zEd xs p p' 0 h
 |.any,p,p',h|.lit _,p,p',h|.ro _,p,p',h|.same _ _,p,p',h|.addr _ _,p,p',h|.sub _ _ _ _ _,p,p',h|.sl _ _,p,p',h|.ptr _,p,p',h|.tup _,p,p',h=>by simp only[vals];rw[show G'.hd s' p'=G.hd s p from by simpa using h []]
theorem zEd{s':Nat}:(xs:List T)→ ∀(p p':List Nat)(j:Nat),(∀z,G'.hd s' (z++p')=G.hd s (z++p))→yF G' s' xs p' j=yF G s xs p j
 | [],_,_,_,_=>by simp only[yF]
 |x::xs,p,p',j,h=>by simp only[yF];rw[zA6 x (j::p) (j::p') (fun z=>by have:=h (z++[j]);simpa using this),zEd xs p p' (j+1) h]
end
theorem zBz{s':Nat}(t:T)(p p':List Nat)(h:∀z,G'.hd s' (z++p')=G.hd s (z++p)):tZ G' s' t p'=tZ G s t p:=by
 unfold tZ;split
 ·rw[zEd _ p p' 0 h]
 ·simpa using h []
theorem zNB{s':Nat}:(xs:List T)→ ∀(p p':List Nat)(j:Nat),(∀z,G'.hd s' (z++p')=G.hd s (z++p))→qW G' s' xs p' j=qW G s xs p j
 | [],_,_,_,_=>by simp only[qW]
 |x::xs,p,p',j,h=>by simp only[qW];rw[zBz x (j::p) (j::p') (fun z=>by have:=h (z++[j]);simpa using this),zNB xs p p' (j+1) h]
theorem zER{s':Nat}(t:T)(p p':List Nat)(h:∀z,G'.hd s' (z++p')=G.hd s (z++p)):mkV G' s' t p'=mkV G s t p:=by
 unfold mkV;split
 ·rw[zEd _ p p' 0 h]
 ·rw[zNB _ p p' 0 h]
 ·simpa using h []
theorem qP.moves(hk:qP chg G w G' w')(hs:∀n,(s,n)∉chg)(p:List Nat):zIq G w G' w' s p s p where
 hd _:=hk.hd _ _ (.of_not hs _)
 ad _ _:=hk.ad _ _ (.of_not hs _)
 lb b o f _ _ hob hl:=hk.lb b o f s _ hob hl hs
 ow b _ _ hl:=hk.ow b s _ hl hs
 sp b o hob hl:=hk.lb b o true s _ hob hl hs
 ow0 b hl:=hk.ow b s _ hl hs
 blk:=hk.blk
theorem qP.keepR(hk:qP chg G w G' w'){t:T}(h:yY (Off chg) t):yY (kR G G') t:=
 yY.mono (fun r p hr=>⟨hk.hd r p hr,hk.ad r p hr⟩) t h
theorem Ent.keep(hk:qP chg G w G' w')(hs:∀n,(s,n)∉chg){v:Option Value}{t:T}(ht:t.okB chg=true)(h:Ent Γ G w v s t):Ent Γ G' w' v s t:=by
 obtain⟨h1,h2,h3⟩:=h;refine⟨?_,?_,h3⟩
 ·rw[h1,zER t [] [] (fun z=>hk.hd _ _ (.of_not hs _))]
 ·simpa using zQs (hk.moves hs []) t [] (hk.keepR (kY t h3 ht)) (by simpa using h2)
end
theorem vF{Γ:Ctx}{E:Env}{G G':Gh}{tmps tmps':Array Value}{w w':World}{wr:Wr}{chg:Chg}(h:Rep Γ E G tmps w)
  (hsize:tmps'.size=tmps.size)(hk:qP chg G w G' w')(hmem:Mem Γ G' w')
  (hold:∀s,wr.find s=none→(∀n,(s,n)∉chg)∧tmps'[s]? =tmps[s]?)
  (hnew:∀s t,wr.find s=some (some t)→Ent Γ G' w' tmps'[s]? s t):Rep Γ (E.app wr chg) G' tmps' w' where
 size:=by rw[hsize,h.size]
 mem:=hmem
 ent s t hs:=by
  unfold Env.app at hs;cases hf:wr.find s with
  |some x=>
   rw[hf]at hs;simp at hs;subst hs;exact hnew s t hf
  |none=>
   rw[hf]at hs;simp at hs;cases he:E s with
   |none=>simp[he]at hs
   |some u=>
    simp[he]at hs;obtain⟨hok,rfl⟩:=hs;rw[(hold s hf).2];exact Ent.keep hk (hold s hf).1 hok (h.ent s u he)
end Go.Ab

namespace Go.Ab
open Go
mutual
def cpT(s:Nat):T→List Nat→T
 |.lit v,_=>.lit v
 |.ro t,_=>.ro t
 |.same r q,_=>.same r q
 |.addr r q,_=>.addr r q
 |.sub r q k lo hi,_=>.sub r q k lo hi
 |.agg xs,p=>.agg (cpF s xs p 0)
 |.any,p|.sl _ _,p|.ptr _,p|.tup _,p=>.same s p
def cpF(s:Nat):List T→List Nat→Nat→List T
 | [],_,_=>[]
 |x::xs,p,j=>cpT s x (j::p)::cpF s xs p (j+1)
end
mutual
theorem qL(s:Nat):(t:T)→ ∀p,Top (cpT s t p)
 |.agg xs,p=>by simp only[cpT,Top];exact zNC s xs p 0
 |.lit _,_|.ro _,_|.same _ _,_|.addr _ _,_|.sub _ _ _ _ _,_|.any,_|.sl _ _,_|.ptr _,_|.tup _,_=>by simp only[cpT,Top]
theorem zNC(s:Nat):(xs:List T)→ ∀p j,vL (cpF s xs p j)
 | [],_,_=>by simp only[cpF,vL]
 |x::xs,p,j=>by simp only[cpF,vL];exact⟨qL s x _,zNC s xs p _⟩
end
section
variable {St:Stb}{G G':Gh}{w w':World}{s d:Nat}
mutual
theorem zD3(hs:∀p,G'.hd s p=G.hd s p):(t:T)→ ∀(p p':List Nat),(∀z,G'.hd d (z++p')=G.hd s (z++p))→(∀xs,t≠.tup xs)→yY (kR G G') (cpT s t p)→R St G w s t p→R St G' w' d (cpT s t p) p'
 |.lit _,p,p',hd,_,_,h=>by simp only[cpT,R]at h ⊢;rw[show G'.hd d p'=_ from by simpa using hd []];exact h
 |.ro _,p,p',hd,_,_,h=>by simp only[cpT,R]at h ⊢;rw[show G'.hd d p'=_ from by simpa using hd []];exact h
 |.same r q,p,p',hd,_,hk,h=>by simp only[cpT,R,yY]at h hk ⊢;rw[show G'.hd d p'=_ from by simpa using hd [],hk.1];exact h
 |.addr r q,p,p',hd,_,hk,h=>by simp only[cpT,R,yY]at h hk ⊢;rw[show G'.hd d p'=_ from by simpa using hd [],hk.2];exact h
 |.sub r q k lo hi,p,p',hd,_,hk,h=>by simp only[cpT,R,yY]at h hk ⊢;rw[show G'.hd d p'=_ from by simpa using hd [],hk.1];exact h
 |.any,p,p',hd,_,_,_|.sl _ _,p,p',hd,_,_,_|.ptr _,p,p',hd,_,_,_=>by simp only[cpT,R];rw[show G'.hd d p'=_ from by simpa using hd [],hs]
 |.tup xs,_,_,_,h,_,_=>absurd rfl (h xs)
 |.agg xs,p,p',hd,_,hk,h=>by simp only[cpT,R,yY]at h hk ⊢;exact zJf hs xs p p' 0 hd hk h
theorem zJf(hs:∀p,G'.hd s p=G.hd s p):(xs:List T)→ ∀(p p':List Nat)(j:Nat),(∀z,G'.hd d (z++p')=G.hd s (z++p))→xW (kR G G') (cpF s xs p j)→RF St G w s xs p j→RF St G' w' d (cpF s xs p j) p' j
 | [],_,_,_,_,_,_=>by simp only[cpF,RF]
 |x::xs,p,p',j,hd,hk,h=>by
  simp only[cpF,RF,xW]at h hk ⊢
  refine⟨?_,zJf hs xs p p' (j+1) hd hk.2 h.2⟩
  by_cases hx:∃ys,x=.tup ys
  ·obtain⟨ys,rfl⟩:=hx
   simp only[cpT,R];rw[show G'.hd d (j::p')=_ from by simpa using hd [j],hs]
  ·exact zD3 hs x (j::p) (j::p') (fun z=>by have:=hd (z++[j]);simpa using this) (fun ys e=>hx ⟨ys,e⟩) hk.1 h.1
end
mutual
theorem zPc:(t:T)→ ∀(p p':List Nat),(∀z,G'.hd d (z++p')=G.hd s (z++p))→vals G' d (cpT s t p) p'=vals G s t p
 |.agg xs,p,p',h=>by simp only[cpT,vals];exact zD4 xs p p' 0 h
 |.any,p,p',h|.lit _,p,p',h|.ro _,p,p',h|.same _ _,p,p',h|.addr _ _,p,p',h|.sub _ _ _ _ _,p,p',h|.sl _ _,p,p',h|.ptr _,p,p',h|.tup _,p,p',h=>by simp only[cpT,vals];rw[show G'.hd d p'=G.hd s p from by simpa using h []]
theorem zD4:(xs:List T)→ ∀(p p':List Nat)(j:Nat),(∀z,G'.hd d (z++p')=G.hd s (z++p))→yF G' d (cpF s xs p j) p' j=yF G s xs p j
 | [],_,_,_,_=>by simp only[cpF,yF]
 |x::xs,p,p',j,h=>by simp only[cpF,yF];rw[zPc x (j::p) (j::p') (fun z=>by have:=h (z++[j]);simpa using this),zD4 xs p p' (j+1) h]
end
theorem zAn(t:T)(p p':List Nat)(ht:∀xs,t≠.tup xs)(h:∀z,G'.hd d (z++p')=G.hd s (z++p)):mkV G' d (cpT s t p) p'=tZ G s t p:=by
 cases t with
 |agg xs=>simp only[cpT,mkV,tZ,zD4 xs p p' 0 h]
 |tup xs=>exact absurd rfl (ht xs)
 |_=>simpa[cpT,mkV,tZ]using h []
end
theorem kD(G:Gh)(s:Nat)(t:T)(p:List Nat)(ht:∀xs,t≠.tup xs):mkV G s t p=tZ G s t p:=by
 cases t with
 |tup xs=>exact absurd rfl (ht xs)
 |_=>rfl
def Gh.put(G:Gh)(d:Nat)(f:List Nat→Value):Gh:={ G with hd:=fun s z=>if s=d then f z else G.hd s z }
theorem Gh.put_other(G:Gh){d s:Nat}(f:List Nat→Value)(p:List Nat)(h:s≠d):(G.put d f).hd s p=G.hd s p:=by simp[Gh.put,h]
theorem Gh.put_self(G:Gh)(d:Nat)(f:List Nat→Value)(p:List Nat):(G.put d f).hd d p=f p:=by simp[Gh.put]
theorem zVP{d s:Nat}{p:List Nat}(h:Off [(d,0)] s p):s≠d:=by
 rintro rfl
 exact absurd (h 0 (by simp)) (by simp)
theorem Gh.put_keep(G:Gh){w w':World}(hw:w'.heap=w.heap)(d:Nat)(f:List Nat→Value):qP [(d,0)] G w (G.put d f) w' where
 hd s p h:=G.put_other f p (zVP h)
 ad _ _ _:=rfl
 lb b o f' s p _ h _:=⟨h,by simp[yP,World.cell?,hw]⟩
 ow b s p h _:=h
 blk b cs e h:=⟨cs,by rw[hw];exact h,rfl⟩
theorem Mem.put{Γ:Ctx}{G:Gh}{w w':World}(h:Mem Γ G w)(hw:w'.heap=w.heap)(d:Nat)(f:List Nat→Value)(hf:∀z,(f z).oneCell'=true)(ho:w'.os=w.os:=by rfl)(hq:w'.output=w.output:=by rfl):Mem Γ (G.put d f) w' where
 one s p:=by unfold Gh.put;dsimp only;split;exact hf p;exact h.one s p
 lb b o l hl:=by have:=h.lb b o l hl;exact⟨by rw[hw];exact this.1,this.2⟩
 ow b l hl:=by have:=h.ow b l hl;exact⟨by rw[hw];exact this.1,this.2⟩
 st b x hx:=by rw[hw];exact h.st b x hx
 fr b h1 h2:=by rw[hw];exact h.fr b h1 h2
 sz:=by rw[hw];exact h.sz
 bk:=h.bk.trans (fun b cs e hb=>⟨cs,by rw[hw];exact hb,rfl⟩) ho hq
theorem tR(d:Nat)(x:Option T)(s:Nat):Wr.find [(d,x)] s=if d=s then some x else none:=by simp[Wr.find]
theorem vJ{Γ:Ctx}{E:Env}{G:Gh}{tmps:Array Value}{w w':World}(h:Rep Γ E G tmps w)(hw:w'.heap=w.heap){d:Nat}(hd:d<Γ.N)
  (f:List Nat→Value)(hf:∀z,(f z).oneCell'=true)(t:T)(v:Value)(hv:v=mkV (G.put d f) d t [])(hr:R Γ.St (G.put d f) w' d t [])(ht:Top t)(ho:w'.os=w.os:=by rfl)(hq:w'.output=w.output:=by rfl):
  Rep Γ (E.app [(d,some t)] [(d,0)]) (G.put d f) (tmps.setIfInBounds d v) w':=by
 refine vF h (by simp) (G.put_keep hw d f) (h.mem.put hw d f hf ho hq) ?_ ?_
 ·intro s hs
  rw[tR]at hs;split at hs
  ·cases hs
  ·rename_i hne
   refine⟨fun n hn=>hne (by simp at hn;exact hn.1.symm),?_⟩;rw[Jg];simp[hne]
 ·intro s t' hs
  rw[tR]at hs;split at hs
  ·rename_i he
   subst he;simp at hs;subst hs;refine⟨?_,hr,ht⟩;rw[Jg];simp[h.size,hd,hv]
  ·cases hs
def wN(P:Program)(Γ:Ctx)(o:Oper)(E E':Env):Prop:=
 ∀(a:Act)(w:World)(K:Act→World→Prop)(Q:Exit→Act→World→Prop),Sim Γ E a w→(∀a' w',qX Γ E' a' w'→K a' w')→o.wp P a w K Q
def opT(E:Env):Operand→Option T
 |.tmp s=>E s
 |.const v=>if v.oneCell' then some (.lit v)else none
 |.func f=>some (.lit (.func (.func f) #[] #[]))
 |.global _=>none
def tG(x:Operand)(t:T):T:=match x with
 |.tmp s=>cpT s t []
 |_=>t
section
variable {P:Program}{Γ:Ctx}{E E':Env}{o:Oper}{d:Nat}
theorem wK{a:Act}{s:Nat}{v:Value}(h:a.tmps[s]? =some v):a.eval (.tmp s)=v:=by simp[Act.eval,K5,h]
theorem wN.value(ho:o.dst=some d)
  (h:∀(a:Act)(w:World)(G:Gh),Rep Γ E G a.tmps w→ ∃v w',(execOp a.eval o).run P w=.ok (.value v) w'∧ ∃G',Rep Γ E' G' (a.tmps.setIfInBounds d v) w'):wN P Γ o E E':=by
 intro a w K Q ⟨hdf,G,hrep⟩ hK;obtain⟨v,w',hrun,G',hrep'⟩:=h a w G hrep;unfold Oper.wp;rw[hrun,Oper.upon_value];refine hK _ _ ?_;rw[ho];exact .of ⟨hdf,G',hrep'⟩
theorem wN.skip(ho:o.dst=none)
  (h:∀(a:Act)(w:World)(G:Gh),Rep Γ E G a.tmps w→ ∃w',(execOp a.eval o).run P w=.ok .skip w'∧ ∃G',Rep Γ E' G' a.tmps w'):wN P Γ o E E':=by
 intro a w K Q ⟨hdf,G,hrep⟩ hK;obtain⟨w',hrun,G',hrep'⟩:=h a w G hrep;unfold Oper.wp;rw[hrun,Oper.upon_skip];refine hK _ _ ?_;rw[ho];exact .of ⟨hdf,G',hrep'⟩
theorem opd{G:Gh}{a:Act}{w:World}(hrep:Rep Γ E G a.tmps w){x:Operand}{t:T}(hx:opT E x=some t)(ht:∀xs,t≠.tup xs):
  ∃f:List Nat→Value,(∀z,(f z).oneCell'=true)∧(∀d,(∀s,x=.tmp s→s≠d)→T.okB [(d,0)] (tG x t)=true→
   a.eval x=mkV (G.put d f) d (tG x t) []∧R Γ.St (G.put d f) w d (tG x t) [])∧Top (tG x t):=by
 cases x with
 |tmp s=>
  obtain⟨h1,h2,h3⟩:=hrep.ent s t hx;refine⟨fun z=>G.hd s z,fun z=>hrep.mem.one s z,?_,qL s t []⟩;intro d hne hok;have hsd:=hne s rfl;have hk:=G.put_keep (w:=w) (w':=w) rfl d (fun z=>G.hd s z);have hz:∀z,(G.put d (fun z=>G.hd s z)).hd d (z++[])=G.hd s (z++[]):=fun z=>by rw[Gh.put_self]
  refine⟨?_,?_⟩
  ·rw[wK h1,tG,zAn t [] [] ht hz]
   exact kD G s t [] ht
  ·exact zD3 (fun p=>G.put_other _ p hsd) t [] [] hz ht (hk.keepR (kY _ (qL s t []) hok)) h2
 |const v=>
  simp only[opT]at hx;split at hx
  ·rename_i hone
   simp at hx;subst hx;exact⟨fun _=>v,fun _=>hone,fun d _ _=>⟨by simp[Act.eval,tG,mkV,Gh.put],by simp[tG,R,Gh.put]⟩,by simp[tG,Top]⟩
  ·cases hx
 |func f=>
  simp only[opT]at hx;simp at hx;subst hx;exact⟨fun _=>.func (.func f) #[] #[],fun _=>rfl,fun d _ _=>⟨by simp[Act.eval,tG,mkV,Gh.put],by simp[tG,R,Gh.put]⟩,by simp[tG,Top]⟩
 |global g=>cases hx
theorem zND(x:Operand)(t:T)(ho:o.op=.move x∨o.op=.assign x)(hdst:o.dst=some d)(hd:d<Γ.N)(hx:opT E x=some t)(ht:∀xs,t≠.tup xs)
  (hne:∀s,x=.tmp s→s≠d)(hok:T.okB [(d,0)] (tG x t)=true):wN P Γ o E (E.app [(d,some (tG x t))] [(d,0)]):=by
 refine wN.value hdst fun a w G hrep=>?_
 obtain⟨f,hf,h1,h2⟩:=opd hrep hx ht;obtain⟨h3,h4⟩:=h1 d hne hok;refine⟨a.eval x,w,?_,_,vJ hrep rfl hd f hf _ _ h3 h4 h2⟩;rcases ho with ho|ho<;>simp[execOp,ho]
theorem wO{G:Gh}{a:Act}{w:World}(hrep:Rep Γ E G a.tmps w){x:Operand}{v:Value}(hx:opT E x=some (.lit v)):a.eval x=v∧v.oneCell'=true:=by
 cases x with
 |tmp s=>
  obtain⟨h1,h2,_⟩:=hrep.ent s _ hx;simp only[R]at h2;refine⟨?_,by rw[←h2];exact hrep.mem.one s []⟩;rw[wK h1,mkV,h2]
  all_goals simp
 |const u=>
  simp only[opT]at hx;split at hx
  ·simp at hx;subst hx;exact⟨rfl,by assumption⟩
  ·cases hx
 |func f=>simp only[opT]at hx;simp at hx;subst hx;exact⟨rfl,rfl⟩
 |global g=>cases hx
theorem zAJ(v:Value)(hv:v.oneCell'=true)(hdst:o.dst=some d)(hd:d<Γ.N)
  (h:∀(a:Act)(w:World)(G:Gh),Rep Γ E G a.tmps w→(execOp a.eval o).run P w=.ok (.value v) w):wN P Γ o E (E.app [(d,some (.lit v))] [(d,0)]):=by
 refine wN.value hdst fun a w G hrep=>?_
 exact⟨v,w,h a w G hrep,_,vJ hrep rfl hd (fun _=>v) (fun _=>hv) (.lit v) v (by simp[mkV,Gh.put]) (by simp[R,Gh.put]) (by simp[Top])⟩
def zJg(op:BinOp)(k:IntKind)(a b:Int):Option Value:=
 match op with
 |.add=>some (.int k (k.wrap (a+b)))
 |.sub=>some (.int k (k.wrap (a-b)))
 |.mul=>some (.int k (k.wrap (a*b)))
 |.quo=>if b=0 then none else some (.int k (k.wrap (a.tdiv b)))
 |.rem=>if b=0 then none else some (.int k (a.tmod b))
 |.eql=>some (.bool (a==b))
 |.neq=>some (.bool (a != b))
 |.lss=>some (.bool (decide (a<b)))
 |.leq=>some (.bool (decide (a≤b)))
 |.gtr=>some (.bool (decide (a> b)))
 |.geq=>some (.bool (decide (a≥b)))
 |_=>none
theorem zQw{op:BinOp}{k:IntKind}{a b:Int}{v:Value}(h:zJg op k a b=some v):v.oneCell'=true:=by cases op<;>simp[zJg]at h<;>first|(subst h;rfl)|(obtain⟨_,rfl⟩:=h;rfl)
theorem sB(op:BinOp)(xt yt:TypeId)(x y:Operand)(k:IntKind)(m n:Int)(v:Value)(ho:o.op=.binOp op xt x y yt)(hdst:o.dst=some d)(hd:d<Γ.N)
  (hx:opT E x=some (.lit (.int k m)))(hy:opT E y=some (.lit (.int k n)))(hv:zJg op k m n=some v):wN P Γ o E (E.app [(d,some (.lit v))] [(d,0)]):=by
 refine zAJ v (zQw hv) hdst hd fun a w G hrep=>?_
 have h1:=(wO hrep hx).1;have h2:=(wO hrep hy).1;cases op<;>simp[zJg]at hv<;>
  first
   |(subst hv;simp[execOp,ho,h1,h2,eqGuard,binOp,Op.intArith,Op.intCmp];done)
   |(obtain⟨h0,rfl⟩:=hv;simp[execOp,ho,h1,h2,eqGuard,binOp,Op.intDiv,h0])
theorem zVQ(xt:TypeId)(x:Operand)(b:Bool)(ho:o.op=.unOp .not xt x)(hdst:o.dst=some d)(hd:d<Γ.N)
  (hx:opT E x=some (.lit (.bool b))):wN P Γ o E (E.app [(d,some (.lit (.bool !b)))] [(d,0)]):=by
 refine zAJ _ rfl hdst hd fun a w G hrep=>?_
 have h1:=(wO hrep hx).1;simp[execOp,ho,h1,Op.unary]
theorem zVR(xt:TypeId)(x:Operand)(k:IntKind)(n:Int)(ho:o.op=.unOp .neg xt x)(hdst:o.dst=some d)(hd:d<Γ.N)
  (hx:opT E x=some (.lit (.int k n))):wN P Γ o E (E.app [(d,some (.lit (.int k (k.wrap (0-n)))))] [(d,0)]):=by
 refine zAJ _ rfl hdst hd fun a w G hrep=>?_
 have h1:=(wO hrep hx).1;simp[execOp,ho,h1,Op.unary,Op.intArith]
theorem zT9(src dst:TypeId)(ds:TypeDesc)(x:Operand)(k k':IntKind)(n:Int)(ho:o.op=.convert src dst x)(hdst:o.dst=some d)(hd:d<Γ.N)
  (hs:P.underlying src=some ds)(ht:P.underlying dst=some (.int k'))(hx:opT E x=some (.lit (.int k n))):
  wN P Γ o E (E.app [(d,some (.lit (.int k' (k'.wrap n))))] [(d,0)]):=by
 refine zAJ _ rfl hdst hd fun a w G hrep=>?_
 have h1:=(wO hrep hx).1;simp[execOp,ho,h1,convert,run_underlying hs,run_underlying ht,Conv.intToInt]
theorem zTA(c x y:Operand)(b:Bool)(t:T)(ho:o.op=.pick c x y)(hdst:o.dst=some d)(hd:d<Γ.N)
  (hc:opT E c=some (.lit (.bool b)))(hx:opT E (if b then x else y)=some t)(ht:∀xs,t≠.tup xs)
  (hne:∀s,(if b then x else y)=.tmp s→s≠d)(hok:T.okB [(d,0)] (tG (if b then x else y) t)=true):wN P Γ o E (E.app [(d,some (tG (if b then x else y) t))] [(d,0)]):=by
 refine wN.value hdst fun a w G hrep=>?_
 obtain⟨f,hf,h1,h2⟩:=opd hrep hx ht;obtain⟨h3,h4⟩:=h1 d hne hok;refine⟨a.eval (if b then x else y),w,?_,_,vJ hrep rfl hd f hf _ _ h3 h4 h2⟩;have h5:=(wO hrep hc).1;cases b<;>simp[execOp,ho,h5,asBool]
end
end Go.Ab

namespace Go.Ab
open Go
def qA(E:Env):Nat→Nat→List Nat→Option (Nat×List Nat×T)
 |0,_,_=>none
 |n+1,r,q=>match E r with
  |some t=>match t.get q.reverse with
   |some (.same r' q')=>qA E n r' q'
   |some u=>some (r,q,u)
   |none=>none
  |none=>none
def tH(E:Env):Operand→Option (Nat×List Nat×T)
 |.tmp s=>qA E 4 s []
 |_=>none
def T.single:T→Bool
 |.agg _|.tup _=>false
 |_=>true
theorem xP{G:Gh}{s:Nat}{t:T}{p:List Nat}(h:t.single=true):mkV G s t p=G.hd s p:=by cases t<;>simp[T.single]at h<;>rfl
section
variable {P:Program}{Γ:Ctx}{E:Env}{o:Oper}{d:Nat}
theorem zCH{G:Gh}{a:Act}{w:World}(hrep:Rep Γ E G a.tmps w):∀(n s:Nat)(p:List Nat)(r:Nat)(q:List Nat)(u:T),qA E n s p=some (r,q,u)→
  R Γ.St G w r u q∧G.hd s p=G.hd r q∧(∃t,E r=some t∧t.get q.reverse=some u)
 |0,_,_,_,_,_,h=>by simp[qA]at h
 |n+1,s,p,r,q,u,h=>by
  simp only[qA]at h;split at h
  ·rename_i t ht
   obtain⟨_,h4,_⟩:=hrep.ent _ _ ht;split at h
   ·rename_i r' q' hg
    obtain⟨h1,h2,h3⟩:=zCH hrep n r' q' r q u h;have h5:=(zA5 p.reverse t _ [] h4 hg).1;simp only[rp,Km,J9,R]at h5;exact⟨h1,h5.trans h2,h3⟩
   ·rename_i u' hns hg
    simp at h;obtain⟨rfl,rfl,rfl⟩:=h;have h5:=(zA5 p.reverse t _ [] h4 hg).1;simp only[rp,Km,J9]at h5;exact⟨h5,rfl,t,ht,hg⟩
   ·cases h
  ·cases h
theorem qY{G:Gh}{a:Act}{w:World}(hrep:Rep Γ E G a.tmps w){x:Operand}{r:Nat}{q:List Nat}{u:T}(h:tH E x=some (r,q,u))(hu:u.single=true):
  R Γ.St G w r u q∧a.eval x=G.hd r q:=by
 cases x with
 |tmp s=>
  obtain⟨h1,h2,_⟩:=zCH hrep 4 s [] r q u h;refine⟨h1,?_⟩;rw[←h2];simp only[tH,qA]at h;split at h
  ·rename_i t ht
   obtain⟨h3,_,_⟩:=hrep.ent s _ ht;rw[wK h3];simp only[Lg,T.get]at h;have:t.single=true:=by cases t<;>first|rfl|(simp at h;obtain⟨_,_,rfl⟩:=h;simp[T.single]at hu)
   exact xP this
  ·cases h
 |_=>simp[tH]at h
theorem zJh{St:Stb}{G:Gh}{w:World}{s:Nat}{k:Nat}{xs:List T}{p:List Nat}(h:R St G w s (.sl k xs) p):∃a c,G.hd s p=.slice a xs.length c:=by
 simp only[R]at h;rcases h with⟨rfl,a,h⟩|⟨b,cap,_,_,h,_⟩
 ·exact⟨a,0,h⟩
 ·exact⟨_,_,h⟩
theorem zCI{St:Stb}{G:Gh}{w:World}{s:Nat}{k:Nat}{xs:List T}{p:List Nat}(h:R St G w s (.ro (.sl k xs)) p):∃a c,G.hd s p=.slice a xs.length c∧xs.length≤c∧c≤maxLen∧
   (xs≠[]→ ∃b o' cs' e fr,a=some ⟨b,o',none⟩∧St b=some (.cells cs' e fr)∧RoL St xs cs' o' k):=by
 simp only[R,RoC]at h;obtain⟨a,c,h1,h2,h3,h4⟩:=h;exact⟨a,c,by simpa using h1,h2,h3,h4⟩
def zKp:T→Option Nat
 |.sl _ xs|.ro (.sl _ xs)=>some xs.length
 |.lit (.slice _ n _)=>some n
 |.lit (.string s)=>some s.size
 |_=>none
def zTB:T→TypeDesc→Bool
 |.lit (.string _),.string=>true
 |.sl _ _,.slice _|.ro (.sl _ _),.slice _|.lit (.slice _ _ _),.slice _=>true
 |_,_=>false
theorem zQx(x:Operand)(t:TypeId)(ds:TypeDesc)(r:Nat)(q:List Nat)(u:T)(n:Nat)(ho:o.op=.call { callee:=.builtin .len,args:=#[x],argTypes:=#[t] })(hdst:o.dst=some d)(hd:d<Γ.N)
  (ht:P.underlying t=some ds)(hx:tH E x=some (r,q,u))(hl:zKp u=some n)(hds:zTB u ds=true):
  wN P Γ o E (E.app [(d,some (.lit (.int .i64 n)))] [(d,0)]):=by
 refine zAJ (.int .i64 n) rfl hdst hd fun a w G hrep=>?_
 have hu:u.single=true:=by cases u<;>simp[zKp]at hl<;>rfl
 obtain⟨h1,h2⟩:=qY hrep hx hu;have h3:(Builtin.len_ #[t] o.type #[G.hd r q]).run P w=.ok (.int .i64 n) w:=by
  cases u with
  |sl k xs=>
   obtain⟨a',c,h4⟩:=zJh h1;simp[zKp]at hl;subst hl;cases ds<;>simp[zTB]at hds
   simp[Builtin.len_,run_underlying ht,h4,goInt]
  |ro t'=>
   cases t'<;>simp[zKp]at hl
   obtain⟨a',c,h4,_⟩:=zCI h1;subst hl;cases ds<;>simp[zTB]at hds
   simp[Builtin.len_,run_underlying ht,h4,goInt]
  |lit v=>
   simp only[R]at h1;cases v<;>simp[zKp]at hl<;>(subst hl;cases ds<;>simp[zTB]at hds;simp[Builtin.len_,run_underlying ht,h1,goInt])
  |_=>simp[zKp]at hl
 simp[execOp,ho,resolve,invoke,builtin,h2,h3]
theorem zB0{G:Gh}{w:World}{s:Nat}{t:T}{p:List Nat}{b o:Nat}(h:Loc G w s t p b o):G.ad s p=⟨b,o,none⟩:=by cases t<;>simp only[Loc]at h<;>first|exact h.1|exact h.elim
theorem uM(b o n:Nat):(⟨b,o,none⟩:Addr).add n=⟨b,o+n,none⟩:=by
 unfold Addr.add;split
 ·rename_i h;subst h;rfl
 ·rfl
theorem zTC{St:Stb}{G:Gh}{w:World}{s:Nat}{k:Nat}{xs:List T}{p:List Nat}(h:R St G w s (.sl k xs) p){i:Nat}(hi:i<xs.length):
  ∃b cap,G.hd s p=.slice (some ⟨b,0,none⟩) xs.length cap∧G.ad s (i::p)=⟨b,i*k,none⟩:=by
 simp only[R]at h;rcases h with⟨rfl,_⟩|⟨b,cap,cs,e,h1,h2,h3,h4,h5,h6,h7,h8⟩
 ·simp at hi
 ·have:=(jJ xs p 0 b 0 k i xs[i] h8 (by simp[hi])).1
  simp only[Jf]at this;exact⟨b,cap,h1,zB0 this⟩
theorem zQy(x y:Operand)(t e:TypeId)(ti:TypeInfo)(r:Nat)(q:List Nat)(k:Nat)(xs:List T)(kd:IntKind)(i:Int)(ho:o.op=.indexAddr t x y)(hdst:o.dst=some d)(hd:d<Γ.N)
  (ht:P.underlying t=some (.slice e))(he:P.info? e=some ti)(hk:ti.size=k)(hx:tH E x=some (r,q,.sl k xs))(hy:opT E y=some (.lit (.int kd i)))(h0:0≤i)(h1:i.toNat<xs.length):
  wN P Γ o E (E.app [(d,some (.addr r (i.toNat::q)))] [(d,0)]):=by
 refine wN.value hdst fun a w G hrep=>?_
 obtain⟨g1,g2⟩:=qY hrep hx rfl;have g3:=(wO hrep hy).1;obtain⟨b,cap,g4,g5⟩:=zTC g1 h1;refine⟨.pointer (some (G.ad r (i.toNat::q))),w,?_,_,vJ hrep rfl hd (fun _=>.pointer (some (G.ad r (i.toNat::q)))) (fun _=>rfl) _ _ (by simp[mkV,Gh.put]) (by simp[R,Gh.put]) (by simp[Top])⟩;have hlt:i<(xs.length:Int):=by omega
 simp[execOp,ho,Instr.indexAt,g3,g2,g4,asIntOf,run_underlying ht,h0,hlt,sizeOf,typeInfo,he,hk,uM,g5]
theorem zGi{St:Stb}:(xs:List T)→ ∀(cs:Array Value)(o k i:Nat)(x:T),RoL St xs cs o k→xs[i]? =some x→RoC St x cs (o+i*k)
 | [],_,_,_,_,_,_,h=>by simp at h
 |y::ys,cs,o,k,i,x,hr,h=>by
  simp only[RoL]at hr;cases i with
  |zero=>simp at h;subst h;simpa using hr.1
  |succ i=>
   have:=zGi ys cs (o+k) k i x hr.2 (by simpa using h)
   rwa [show o+(i+1)*k=o+k+i*k from by rw[Jy];omega]
theorem zNE{St:Stb}:(xs:List T)→ ∀(cs:Array Value)(o i:Nat)(x:T),RoF St xs cs o→xs[i]? =some x→RoC St x cs (o+T.sizes (xs.take i))
 | [],_,_,_,_,_,h=>by simp at h
 |y::ys,cs,o,i,x,hr,h=>by
  simp only[RoF]at hr;cases i with
  |zero=>simp at h;subst h;simpa[T.sizes]using hr.1
  |succ i=>
   have:=zNE ys cs (o+y.size) i x hr.2 (by simpa using h)
   rwa [K9,T.sizes,←Ls]
theorem zQz(x y:Operand)(t e:TypeId)(ti:TypeInfo)(r:Nat)(q:List Nat)(k:Nat)(xs:List T)(kd:IntKind)(i:Int)(u:T)(ho:o.op=.indexAddr t x y)(hdst:o.dst=some d)(hd:d<Γ.N)
  (ht:P.underlying t=some (.slice e))(he:P.info? e=some ti)(hk:ti.size=k)(hx:tH E x=some (r,q,.ro (.sl k xs)))(hy:opT E y=some (.lit (.int kd i)))(h0:0≤i)(h1:xs[i.toNat]? =some u):
  wN P Γ o E (E.app [(d,some (.ro (.ptr u)))] [(d,0)]):=by
 refine wN.value hdst fun a w G hrep=>?_
 obtain⟨g1,g2⟩:=qY hrep hx rfl;have g3:=(wO hrep hy).1;have hlt':i.toNat<xs.length:=(Jb.1 h1).1;obtain⟨a',c,g4,_,_,g5⟩:=zCI g1;obtain⟨b,o',cs',e',fr,rfl,g6,g7⟩:=g5 (by rintro rfl;simp at hlt');have g8:=zGi xs cs' o' k i.toNat u g7 h1;refine⟨.pointer (some ⟨b,o'+i.toNat*k,none⟩),w,?_,_,vJ hrep rfl hd (fun _=>.pointer (some ⟨b,o'+i.toNat*k,none⟩)) (fun _=>rfl) _ _ (by simp[mkV,Gh.put]) ?_ (by simp[Top])⟩
 ·have hlt:i<(xs.length:Int):=by omega
  simp[execOp,ho,Instr.indexAt,g3,g2,g4,asIntOf,run_underlying ht,h0,hlt,sizeOf,typeInfo,he,hk,uM]
 ·simp only[R,Gh.put_self,RoC]
  exact⟨b,_,cs',e',fr,by simp,g6,g8⟩
theorem zBZ:(xs:List T)→ ∀{G:Gh}{w:World}{s:Nat}(p:List Nat)(j b o i:Nat)(x:T),vE G w s xs p j b o→xs[i]? =some x→
  Loc G w s x ((j+i)::p) b (o+T.sizes (xs.take i))
 | [],_,_,_,_,_,_,_,_,_,_,h=>by simp at h
 |y::ys,G,w,s,p,j,b,o,i,x,hr,h=>by
  simp only[vE]at hr;cases i with
  |zero=>simp at h;subst h;simpa[T.sizes]using hr.1
  |succ i=>
   have:=zBZ ys p (j+1) b (o+y.size) i x hr.2 (by simpa using h)
   rwa [show j+(i+1)=j+1+i from by omega,K9,T.sizes,←Ls]
theorem tV{P:Program}{w:World}(a:Addr):(Instr.sureAddr (.pointer (some a))).run P w=.ok a w:=rfl
theorem zCa{P:Program}{w:World}{S:TypeId}{fs:Array Field}{f:Field}{fi:TypeInfo}{j:Nat}{b o':Nat}(hS:P.underlying S=some (.struct fs))(hf:fs[j]? =some f)(hi:P.info? f.type=some fi)(hz:fi.size≠0):
  (Instr.fieldAt S (.pointer (some ⟨b,o',none⟩)) j).run P w=.ok (.pointer (some ⟨b,o'+f.offset,none⟩)) w:=by
 simp[Instr.fieldAt,run_underlying hS,hf,tV,fieldPlace,sizeOf,typeInfo,hi,hz,uM]
theorem zX4(x:Operand)(S:TypeId)(fs:Array Field)(f:Field)(fi:TypeInfo)(j:Nat)(r:Nat)(q:List Nat)(xs:List T)(u:T)(ho:o.op=.fieldAddr S x j)(hdst:o.dst=some d)(hd:d<Γ.N)
  (hS:P.underlying S=some (.struct fs))(hf:fs[j]? =some f)(hi:P.info? f.type=some fi)(hz:fi.size≠0)(hx:tH E x=some (r,q,.ptr (.agg xs)))(hu:xs[j]? =some u)(hoff:T.sizes (xs.take j)=f.offset):
  wN P Γ o E (E.app [(d,some (.addr r (j::0::q)))] [(d,0)]):=by
 refine wN.value hdst fun a w G hrep=>?_
 obtain⟨g1,g2⟩:=qY hrep hx rfl;simp only[R]at g1;obtain⟨b,cs,e,g4,_,_,_,g5,_⟩:=g1;simp only[Loc]at g5;have g6:=zBZ xs (0::q) 0 b 0 j u g5.2 hu;simp only[Jf]at g6;refine⟨.pointer (some (G.ad r (j::0::q))),w,?_,_,vJ hrep rfl hd (fun _=>.pointer (some (G.ad r (j::0::q)))) (fun _=>rfl) _ _ (by simp[mkV,Gh.put]) (by simp[R,Gh.put]) (by simp[Top])⟩;have g7:=zCa (w:=w) (b:=b) (o':=0) hS hf hi hz;simp[execOp,ho,g2,g4,g7,zB0 g6,hoff]
theorem zMv(x:Operand)(S:TypeId)(fs:Array Field)(f:Field)(fi:TypeInfo)(j:Nat)(r:Nat)(q:List Nat)(t:T)(xs:List T)(u:T)(ho:o.op=.fieldAddr S x j)(hdst:o.dst=some d)(hd:d<Γ.N)
  (hS:P.underlying S=some (.struct fs))(hf:fs[j]? =some f)(hi:P.info? f.type=some fi)(hz:fi.size≠0)(hx:opT E x=some (.addr r q))(hr:E r=some t)(hg:t.get q.reverse=some (.agg xs))(hl:t.locd q.reverse=true)
  (hu:xs[j]? =some u)(hoff:T.sizes (xs.take j)=f.offset):
  wN P Γ o E (E.app [(d,some (.addr r (j::q)))] [(d,0)]):=by
 refine wN.value hdst fun a w G hrep=>?_
 cases x with
 |tmp s=>
  obtain⟨h1,h2,_⟩:=hrep.ent s _ hx;obtain⟨_,h4,_⟩:=hrep.ent r _ hr;simp only[R]at h2;obtain⟨b,o',cs,e,h6,_,_⟩:=(zA5 q.reverse t _ [] h4 hg).2 hl;simp only[rp,Km,J9]at h6;have h7:=zB0 h6;simp only[Loc]at h6;have g6:=zBZ xs q 0 b o' j u h6.2 hu;simp only[Jf]at g6;refine⟨.pointer (some (G.ad r (j::q))),w,?_,_,vJ hrep rfl hd (fun _=>.pointer (some (G.ad r (j::q)))) (fun _=>rfl) _ _ (by simp[mkV,Gh.put]) (by simp[R,Gh.put]) (by simp[Top])⟩;have g7:=zCa (w:=w) (b:=b) (o':=o') hS hf hi hz;simp[execOp,ho,wK h1,mkV,h2,h7,g7,zB0 g6,hoff]
 |const v=>simp only[opT]at hx;split at hx<;>simp at hx
 |func f=>simp[opT]at hx
 |global g=>simp[opT]at hx
theorem zMw{G:Gh}{a:Act}{w:World}(hrep:Rep Γ E G a.tmps w){x:Operand}{u:T}(hx:opT E x=some (.ro u)):RoC Γ.St u #[a.eval x] 0:=by
 cases x with
 |tmp s=>
  obtain⟨h1,h2,_⟩:=hrep.ent s _ hx;simp only[R]at h2;rw[wK h1,xP rfl];exact h2
 |const v=>simp only[opT]at hx;split at hx<;>simp at hx
 |func f=>simp[opT]at hx
 |global g=>simp[opT]at hx
theorem zQ0(x:Operand)(S:TypeId)(fs:Array Field)(f:Field)(fi:TypeInfo)(j:Nat)(xs:List T)(u:T)(ho:o.op=.fieldAddr S x j)(hdst:o.dst=some d)(hd:d<Γ.N)
  (hS:P.underlying S=some (.struct fs))(hf:fs[j]? =some f)(hi:P.info? f.type=some fi)(hz:fi.size≠0)(hx:opT E x=some (.ro (.ptr (.agg xs))))(hu:xs[j]? =some u)(hoff:T.sizes (xs.take j)=f.offset):
  wN P Γ o E (E.app [(d,some (.ro (.ptr u)))] [(d,0)]):=by
 refine wN.value hdst fun a w G hrep=>?_
 have h1:=zMw hrep hx;simp only[RoC]at h1;obtain⟨b,o',cs',e,fr,h2,h3,h4⟩:=h1;have h5:=zNE xs cs' o' j u h4 hu;refine⟨.pointer (some ⟨b,o'+f.offset,none⟩),w,?_,_,vJ hrep rfl hd (fun _=>.pointer (some ⟨b,o'+f.offset,none⟩)) (fun _=>rfl) _ _ (by simp[mkV,Gh.put]) ?_ (by simp[Top])⟩
 ·have g7:=zCa (w:=w) (b:=b) (o':=o') hS hf hi hz
  have h6:a.eval x=.pointer (some ⟨b,o',none⟩):=by simpa using h2
  simp[execOp,ho,h6,g7]
 ·simp only[R,Gh.put_self,RoC]
  exact⟨b,o'+f.offset,cs',e,fr,by simp,h3,by rw[←hoff];exact h5⟩
def zES:TypeDesc→Bool
 |.struct _|.array _ _=>true
 |_=>false
theorem jL{P:Program}{w:World}{t:TypeId}{ds:TypeDesc}(ht:P.underlying t=some ds):(isAgg t).run P w=.ok (zES ds) w:=by cases ds<;>simp[isAgg,run_underlying ht,zES]
theorem wZ{G:Gh}{w:World}{s:Nat}{t:T}{p:List Nat}{b o:Nat}(ht:t.single=true)(h:Loc G w s t p b o):G.ad s p=⟨b,o,none⟩∧G.lb b o=some (false,s,p)∧yP w b o=some (G.hd s p):=by cases t<;>simp[T.single]at ht<;>simpa only[Loc]using h
mutual
theorem zQ1{G:Gh}{w:World}{s:Nat}:(t:T)→ ∀(p:List Nat)(b o:Nat),Loc G w s t p b o→ ∀(i:Nat)(v:Value),(vals G s t p)[i]? =some v→yP w b (o+i)=some v
 |.agg xs,p,b,o,h,i,v,hv=>by simp only[Loc,vals]at h hv;exact zAV xs p 0 b o h.2 i v hv
 |.any,p,b,o,h,i,v,hv|.lit _,p,b,o,h,i,v,hv|.ro _,p,b,o,h,i,v,hv|.same _ _,p,b,o,h,i,v,hv|.addr _ _,p,b,o,h,i,v,hv|.sub _ _ _ _ _,p,b,o,h,i,v,hv|.sl _ _,p,b,o,h,i,v,hv|.ptr _,p,b,o,h,i,v,hv=>by
  simp only[Loc,vals]at h hv;cases i with
  |zero=>simp at hv;rw[←hv];exact h.2.2
  |succ i=>simp at hv
 |.tup _,_,_,_,h,_,_,_=>by simp only[Loc]at h
theorem zAV{G:Gh}{w:World}{s:Nat}:(xs:List T)→ ∀(p:List Nat)(j b o:Nat),vE G w s xs p j b o→ ∀(i:Nat)(v:Value),(yF G s xs p j)[i]? =some v→yP w b (o+i)=some v
 | [],_,_,_,_,_,i,v,hv=>by simp[yF]at hv
 |x::xs,p,j,b,o,h,i,v,hv=>by
  simp only[vE,yF]at h hv;rw[L4]at hv;split at hv
  ·exact zQ1 x (j::p) b o h.1 i v hv
  ·rename_i hge
   have hlen:=wS (G:=G) (s:=s) x (j::p) (fun ys e=>by subst e;simp only[Loc]at h;exact h.1);have:=zAV xs p (j+1) b (o+x.size) h.2 _ v hv
   rwa [show o+x.size+(i-(vals G s x (j::p)).length)=o+i from by omega]at this
theorem wS{G:Gh}{s:Nat}:(t:T)→ ∀(p:List Nat),(∀xs,t≠.tup xs)→(vals G s t p).length=t.size
 |.agg xs,p,_=>by simp only[vals,T.size];exact wR xs p 0
 |.any,_,_|.lit _,_,_|.ro _,_,_|.same _ _,_,_|.addr _ _,_,_|.sub _ _ _ _ _,_,_|.sl _ _,_,_|.ptr _,_,_|.tup _,_,_=>by simp[vals,T.size]
theorem wR{G:Gh}{s:Nat}:(xs:List T)→ ∀(p:List Nat)(j:Nat),(yF G s xs p j).length=T.sizes xs
 | [],_,_=>by simp[yF,T.sizes]
 |x::xs,p,j=>by
  simp only[yF,J5,T.sizes,wR xs p (j+1)]
  by_cases hx:∃ys,x=.tup ys
  ·obtain⟨ys,rfl⟩:=hx;simp[vals,T.size]
  ·rw[wS x (j::p) (fun ys e=>hx ⟨ys,e⟩)]
end
theorem zFE{P:Program}{G:Gh}{w:World}{s:Nat}{t:T}{p:List Nat}{b o':Nat}{T':TypeId}{ds:TypeDesc}{ti:TypeInfo}(hT:P.underlying T'=some ds)(hi:P.info? T'=some ti)(hl:Loc G w s t p b o')
  (hsh:zES ds= !t.single)(hsz:ti.size=t.size):(loadVar T' ⟨b,o',none⟩).run P w=.ok (tZ G s t p) w:=by
 cases t with
 |agg xs=>
  have h1:=run_loadCells_list (P:=P) (w:=w) ⟨b,o',none⟩ (yF G s xs p 0) (fun j v hv=>by rw[uM];simp only[Loc]at hl;exact zAV xs p 0 b o' hl.2 j v hv)
  rw[wR]at h1;simp only[T.size]at hsz;simp[T.single]at hsh;simp[loadVar,jL hT,hsh,sizeOf,typeInfo,hi,hsz,h1,tZ]
 |tup xs=>simp only[Loc]at hl
 |_=>
  have h1:=(wZ rfl hl).2.2;simp[T.single]at hsh;simp only[yP]at h1;simp[loadVar,jL hT,hsh,load,Sem.run,h1,tZ]
def zA7(Γ:Ctx)(E:Env)(x:Operand)(r:Nat)(q:List Nat):Prop:=∀(a:Act)(w:World)(G:Gh),Rep Γ E G a.tmps w→a.eval x=.pointer (some (G.ad r q))
theorem zA7.addr{x:Operand}{r:Nat}{q:List Nat}(hx:opT E x=some (.addr r q)):zA7 Γ E x r q:=fun a w G hrep=>by
 cases x with
 |tmp s=>
  obtain⟨h1,h2,_⟩:=hrep.ent s _ hx;simp only[R]at h2;rw[wK h1];exact h2
 |const v=>simp only[opT]at hx;split at hx<;>simp at hx
 |func f=>simp[opT]at hx
 |global g=>simp[opT]at hx
theorem zA7.ptr{x:Operand}{r:Nat}{q:List Nat}{t:T}(hx:tH E x=some (r,q,.ptr t)):zA7 Γ E x r (0::q):=fun a w G hrep=>by obtain⟨g1,g2⟩:=qY hrep hx rfl;simp only[R]at g1;obtain⟨b,cs,e,g4,_,_,_,g5,_⟩:=g1;rw[g2,g4,zB0 g5]
theorem zKq(x:Operand)(T':TypeId)(ds:TypeDesc)(ti:TypeInfo)(r:Nat)(q:List Nat)(t u:T)(ho:o.op=.load T' x)(hdst:o.dst=some d)(hd:d<Γ.N)
  (hT:P.underlying T'=some ds)(hi:P.info? T'=some ti)(hsh:zES ds= !u.single)(hsz:ti.size=u.size)
  (hx:zA7 Γ E x r q)(hr:E r=some t)(hg:t.get q.reverse=some u)(hl:t.locd q.reverse=true)(hrd:r≠d)(hok:T.okB [(d,0)] (cpT r u q)=true):
  wN P Γ o E (E.app [(d,some (cpT r u q))] [(d,0)]):=by
 refine wN.value hdst fun a w G hrep=>?_
 have hadr:=hx a w G hrep;obtain⟨_,h4,_⟩:=hrep.ent r _ hr;obtain⟨h5,h6⟩:=zA5 q.reverse t u [] h4 hg;obtain⟨b,o',cs,e,h6,_,_⟩:=h6 hl;simp only[rp,Km,J9]at h5 h6;have hnt:∀xs,u≠.tup xs:=by rintro xs rfl;simp only[Loc]at h6
 have h7:=zB0 h6;have hz:∀z,(G.put d (fun z=>G.hd r (z++q))).hd d (z++[])=G.hd r (z++q):=fun z=>by rw[Gh.put_self,J9]
 have hk:=G.put_keep (w:=w) (w':=w) rfl d (fun z=>G.hd r (z++q));refine⟨tZ G r u q,w,?_,_,vJ hrep rfl hd (fun z=>G.hd r (z++q)) (fun z=>hrep.mem.one _ _) _ _ (zAn u q [] hnt hz).symm
  (zD3 (fun p=>G.put_other _ p hrd) u q [] hz hnt (hk.keepR (kY _ (qL r u q) hok)) h5) (qL r u q)⟩
 have h8:=zFE (T':=T') hT hi h6 hsh hsz;simp[execOp,ho,hadr,h7,Instr.loadAt,tV,h8]
theorem zTD(x:Operand)(T':TypeId)(ds:TypeDesc)(ti:TypeInfo)(r:Nat)(q:List Nat)(t u:T)(ho:o.op=.load T' x)(hdst:o.dst=some d)(hd:d<Γ.N)
  (hT:P.underlying T'=some ds)(hi:P.info? T'=some ti)(hsh:zES ds= !u.single)(hsz:ti.size=u.size)
  (hx:opT E x=some (.addr r q))(hr:E r=some t)(hg:t.get q.reverse=some u)(hl:t.locd q.reverse=true)(hrd:r≠d)(hok:T.okB [(d,0)] (cpT r u q)=true):
  wN P Γ o E (E.app [(d,some (cpT r u q))] [(d,0)]):=zKq x T' ds ti r q t u ho hdst hd hT hi hsh hsz (zA7.addr hx) hr hg hl hrd hok
def roT:T→T
 |.lit v=>.lit v
 |.agg xs=>.agg (roTs xs)
 |.ro t=>.ro t
 |.any=>.any
 |.same r q=>.ro (.same r q)
 |.addr r q=>.ro (.addr r q)
 |.sub r q k lo hi=>.ro (.sub r q k lo hi)
 |.sl k xs=>.ro (.sl k xs)
 |.ptr t=>.ro (.ptr t)
 |.tup xs=>.ro (.tup xs)
where roTs:List T→List T
 | []=>[]
 |x::xs=>roT x::roTs xs
end
end Go.Ab

namespace Go.Ab
open Go
def jM(v:Value):Value:=if v.oneCell' then v else .bool false
theorem zAW(v:Value):(jM v).oneCell'=true:=by
 unfold jM;split
 ·assumption
 ·rfl
theorem kZ{v:Value}(h:v.oneCell'=true):jM v=v:=by simp[jM,h]
def zD5:T→Array Value→Nat→List Nat→Value
 |.agg xs,cs,o,i::f=>match xs[i]? with
  |some x=>zD5 x cs (o+T.sizes (xs.take i)) f
  |none=>.bool false
 |_,cs,o,_=>cs.getD o (.bool false)
termination_by structural _ _ _ f=>f
theorem zA8{t:T}(h:t.single=true)(cs:Array Value)(o:Nat)(f:List Nat):zD5 t cs o f=cs.getD o (.bool false):=by cases t<;>simp[T.single]at h<;>cases f<;>rfl
mutual
theorem zEe:(u:T)→(∀xs,u≠.tup xs)→(roT u).size=u.size
 |.agg xs,_=>by simp only[roT,T.size];exact zET xs
 |.lit _,_|.any,_|.sl _ _,_|.ptr _,_|.ro _,_|.same _ _,_|.addr _ _,_|.sub _ _ _ _ _,_|.tup _,_=>by simp[roT,T.size]
theorem zET:(xs:List T)→T.sizes (roT.roTs xs)=T.sizes xs
 | []=>by simp only[roT.roTs]
 |x::xs=>by
  simp only[roT.roTs,T.sizes,zET xs]
  by_cases hx:∃ys,x=.tup ys
  ·obtain⟨ys,rfl⟩:=hx;simp[roT,T.size]
  ·rw[zEe x (fun ys e=>hx ⟨ys,e⟩)]
end
section
variable {St:Stb}{G:Gh}{w:World}{d:Nat}
theorem zG3{u:T}{cs:Array Value}{o:Nat}(hu:u.single=true)(h:RoC St u cs o):∃v,cs[o]? =some v∧v.oneCell'=true∧RoC St u #[v] 0:=by
 cases u<;>simp[T.single]at hu<;>simp only[RoC]at h ⊢
 ·obtain⟨v,h1,h2⟩:=h;exact⟨v,h1,h2,v,by simp,h2⟩
 ·exact⟨_,h.1,h.2,by simp,h.2⟩
 ·obtain⟨a,c,h1,h2⟩:=h;exact⟨_,h1,rfl,a,c,by simp,h2⟩
 ·obtain⟨b,o',cs',e,fr,h1,h2⟩:=h;exact⟨_,h1,rfl,b,o',cs',e,fr,by simp,h2⟩
mutual
theorem zQ2:(u:T)→ ∀(cs:Array Value)(o:Nat)(p:List Nat),(∀z,G.hd d (z++p)=jM (zD5 u cs o z.reverse))→RoC St u cs o→R St G w d (roT u) p
 |.agg xs,cs,o,p,hd,h=>by
  simp only[roT,R,RoC]at h ⊢
  exact zQ3 xs cs o p 0 o (by simp) (fun z j x hx=>by have:=hd (z++[j]);simp only[Ja,Jq,Ji,Hq,H0,Lg,zD5]at this;rw[Jf,this];simp[hx]) h
 |.lit v,cs,o,p,hd,h=>by
  simp only[roT,R,RoC]at h ⊢
  have:=hd [];rw[Ji,zA8 rfl]at this;rw[this];simp[K5,h.1,kZ h.2]
 |.any,_,_,_,_,_=>by simp only[roT,R]
 |.sl k xs,cs,o,p,hd,h|.ptr t,cs,o,p,hd,h=>by obtain⟨v,h1,h2,h3⟩:=zG3 rfl h;have:=hd [];rw[Ji,zA8 rfl]at this;simp only[roT,R];rw[this];simpa[K5,h1,kZ h2]using h3
 |.ro _,_,_,_,_,h|.same _ _,_,_,_,_,h|.addr _ _,_,_,_,_,h|.sub _ _ _ _ _,_,_,_,_,h|.tup _,_,_,_,_,h=>by simp only[RoC]at h
theorem zQ3:(xs:List T)→ ∀(cs:Array Value)(o0:Nat)(p:List Nat)(j o:Nat),o0≤o→(∀z i x,xs[i]? =some x→G.hd d (z++((j+i)::p))=jM (zD5 x cs (o+T.sizes (xs.take i)) z.reverse))→RoF St xs cs o→RF St G w d (roT.roTs xs) p j
 | [],_,_,_,_,_,_,_,_=>by simp only[roT.roTs,RF]
 |x::xs,cs,o0,p,j,o,ho,hd,h=>by
  simp only[roT.roTs,RF,RoF]at h ⊢
  refine⟨zQ2 x cs o (j::p) (fun z=>by simpa[T.sizes]using hd z 0 x (by simp)) h.1,zQ3 xs cs o0 p (j+1) (o+x.size) (by omega) (fun z i y hy=>?_) h.2⟩;have:=hd z (i+1) y (by simpa using hy);simp only[K9,T.sizes]at this;rw[show j+1+i=j+(i+1)from by omega,show o+x.size+T.sizes (xs.take i)=o+(x.size+T.sizes (xs.take i))from Ls ..];exact this
end
mutual
theorem zG4:(u:T)→ ∀(cs:Array Value)(o:Nat)(p:List Nat),(∀z,G.hd d (z++p)=jM (zD5 u cs o z.reverse))→RoC St u cs o→ ∀(i:Nat)(v:Value),(vals G d (roT u) p)[i]? =some v→cs[o+i]? =some v
 |.agg xs,cs,o,p,hd,h,i,v,hv=>by
  simp only[roT,vals,RoC]at h hv;exact zIt xs cs p 0 o (fun z j x hx=>by have:=hd (z++[j]);simp only[Ja,Jq,Ji,Hq,H0,Lg,zD5]at this;rw[Jf,this];simp[hx]) h i v hv
 |.lit _,cs,o,p,hd,h,i,v,hv|.any,cs,o,p,hd,h,i,v,hv|.sl _ _,cs,o,p,hd,h,i,v,hv|.ptr _,cs,o,p,hd,h,i,v,hv=>by
  obtain⟨v',h1,h2,h3⟩:=zG3 rfl h;have:=hd [];rw[Ji,zA8 rfl]at this;simp only[roT,vals]at hv;cases i with
  |zero=>
   simp at hv;rw[←hv,this];simp[K5,h1,kZ h2]
  |succ i=>simp at hv
 |.ro _,_,_,_,_,h,_,_,_|.same _ _,_,_,_,_,h,_,_,_|.addr _ _,_,_,_,_,h,_,_,_|.sub _ _ _ _ _,_,_,_,_,h,_,_,_|.tup _,_,_,_,_,h,_,_,_=>by simp only[RoC]at h
theorem zIt:(xs:List T)→ ∀(cs:Array Value)(p:List Nat)(j o:Nat),(∀z i x,xs[i]? =some x→G.hd d (z++((j+i)::p))=jM (zD5 x cs (o+T.sizes (xs.take i)) z.reverse))→RoF St xs cs o→ ∀(i:Nat)(v:Value),(yF G d (roT.roTs xs) p j)[i]? =some v→cs[o+i]? =some v
 | [],_,_,_,_,_,_,i,v,hv=>by simp[roT.roTs,yF]at hv
 |x::xs,cs,p,j,o,hd,h,i,v,hv=>by
  simp only[roT.roTs,yF,RoF]at h hv;have hx:∀z,G.hd d (z++(j::p))=jM (zD5 x cs o z.reverse):=fun z=>by simpa[T.sizes]using hd z 0 x (by simp)
  have hlen:(vals G d (roT x) (j::p)).length=x.size:=by have hs:(roT x).size=x.size:=zEe x (fun ys e=>by subst e;simp only[RoC]at h;exact h.1);rw[wS (roT x) (j::p) (fun ys e=>by cases x<;>simp[roT]at e),hs]
  rw[L4]at hv;split at hv
  ·exact zG4 x cs o (j::p) hx h.1 i v hv
  ·have:=zIt xs cs p (j+1) (o+x.size) (fun z i y hy=>by
    have:=hd z (i+1) y (by simpa using hy);simp only[K9,T.sizes]at this;rw[show j+1+i=j+(i+1)from by omega,show o+x.size+T.sizes (xs.take i)=o+(x.size+T.sizes (xs.take i))from Ls ..];exact this) h.2 _ v hv
   rwa [hlen,show o+x.size+(i-x.size)=o+i from by omega]at this
end
mutual
theorem zNF:(u:T)→Top (roT u)
 |.agg xs=>by simp only[roT,Top];exact zKr xs
 |.lit _|.any|.sl _ _|.ptr _|.ro _|.same _ _|.addr _ _|.sub _ _ _ _ _|.tup _=>by simp[roT,Top]
theorem zKr:(xs:List T)→vL (roT.roTs xs)
 | []=>by simp only[roT.roTs,vL]
 |x::xs=>by simp only[roT.roTs,vL];exact⟨zNF x,zKr xs⟩
end
end
section
variable {P:Program}{Γ:Ctx}{E:Env}{o:Oper}{d:Nat}
theorem zNG{G:Gh}{w:World}(hm:Mem Γ G w){b:Nat}{cs:Array Value}{e:TypeId}{fr:Nat×Nat}(h:Γ.St b=some (.cells cs e fr))(i:Nat):w.cell? ⟨b,i,none⟩=cs[i]?:=by simp[World.cell?,hm.st b _ h]
theorem zMx(x:Operand)(T':TypeId)(ds:TypeDesc)(ti:TypeInfo)(u:T)(ho:o.op=.load T' x)(hdst:o.dst=some d)(hd:d<Γ.N)
  (hT:P.underlying T'=some ds)(hi:P.info? T'=some ti)(hsh:zES ds= !u.single)(hsz:ti.size=u.size)
  (hx:opT E x=some (.ro (.ptr u))):wN P Γ o E (E.app [(d,some (roT u))] [(d,0)]):=by
 refine wN.value hdst fun a w G hrep=>?_
 have h1:=zMw hrep hx;simp only[RoC]at h1;obtain⟨b,o',cs',e,fr,h2,h3,h4⟩:=h1;have h2':a.eval x=.pointer (some ⟨b,o',none⟩):=by simpa using h2
 have hnt:∀xs,u≠.tup xs:=by rintro xs rfl;simp only[RoC]at h4
 let f:List Nat→Value:=fun z=>jM (zD5 u cs' o' z.reverse)
 have hz:∀z,(G.put d f).hd d (z++[])=jM (zD5 u cs' o' z.reverse):=fun z=>by rw[Gh.put_self,J9]
 refine⟨mkV (G.put d f) d (roT u) [],w,?_,_,vJ hrep rfl hd f (fun z=>zAW _) _ _ rfl (zQ2 u cs' o' [] hz h4) (zNF u)⟩;cases u with
 |agg xs=>
  have h5:∀j v,(yF (G.put d f) d (roT.roTs xs) [] 0)[j]? =some v→w.cell? ((⟨b,o',none⟩:Addr).add j)=some v:=by intro j v hv;rw[uM,zNG hrep.mem h3];exact zG4 (.agg xs) cs' o' [] hz h4 j v (by simpa only[roT,vals]using hv)
  have h6:=run_loadCells_list (P:=P) (w:=w) ⟨b,o',none⟩ _ h5;rw[wR,zET]at h6;simp only[T.size]at hsz;simp[T.single]at hsh;simp[execOp,ho,h2',Instr.loadAt,tV,loadVar,jL hT,hsh,sizeOf,typeInfo,hi,hsz,h6,mkV,roT]
 |tup xs=>exact absurd rfl (hnt xs)
 |_=>
  obtain⟨v,h5,h6,h7⟩:=zG3 rfl h4;have h8:w.cell? ⟨b,o',none⟩=some v:=by rw[zNG hrep.mem h3];exact h5
  simp[T.single]at hsh;have h9:f []=v:=by show jM (zD5 _ cs' o' _)=v;rw[zA8 rfl];simp[K5,h5,kZ h6]
  simp[execOp,ho,h2',Instr.loadAt,tV,loadVar,jL hT,hsh,load,Sem.run,h8,mkV,roT,Gh.put_self,h9]
def zFF(E:Env)(x:Operand):Bool:=
 match opT E x with
 |some (.addr _ _)|some (.ro (.ptr _))=>true
 |_=>match tH E x with
  |some (_,_,.ptr _)=>true
  |some (_,_,.ro (.ptr _))=>true
  |_=>false
theorem zQ4{G:Gh}{a:Act}{w:World}(hrep:Rep Γ E G a.tmps w){x:Operand}(h:zFF E x=true):∃ad,a.eval x=.pointer (some ad):=by
 unfold zFF at h;split at h
 ·rename_i r q hx
  cases x with
  |tmp s=>
   obtain⟨h1,h2,_⟩:=hrep.ent s _ hx;simp only[R]at h2;exact⟨_,by rw[wK h1,xP rfl,h2]⟩
  |const v=>simp only[opT]at hx;split at hx<;>simp at hx
  |func f=>simp[opT]at hx
  |global g=>simp[opT]at hx
 ·rename_i u hx
  have:=zMw hrep hx;simp only[RoC]at this;obtain⟨b,o',_,_,_,h1,_⟩:=this;exact⟨_,by simpa using h1⟩
 ·split at h
  ·rename_i hl
   obtain⟨h1,h2⟩:=qY hrep hl rfl;simp only[R]at h1;obtain⟨b,cs,e,h3,_⟩:=h1;exact⟨_,by rw[h2,h3]⟩
  ·rename_i hl
   obtain⟨h1,h2⟩:=qY hrep hl rfl;simp only[R,RoC]at h1;obtain⟨b,o',_,_,_,h3,_⟩:=h1;exact⟨_,by rw[h2];simpa using h3⟩
  ·cases h
theorem zVS(x:Operand)(t:T)(ho:o.op=.nilCheck x)(hdst:o.dst=some d)(hd:d<Γ.N)(hx:opT E x=some t)(hp:zFF E x=true)(ht:∀xs,t≠.tup xs)
  (hne:∀s,x=.tmp s→s≠d)(hok:T.okB [(d,0)] (tG x t)=true):wN P Γ o E (E.app [(d,some (tG x t))] [(d,0)]):=by
 refine wN.value hdst fun a w G hrep=>?_
 obtain⟨f,hf,h1,h2⟩:=opd hrep hx ht;obtain⟨h3,h4⟩:=h1 d hne hok;obtain⟨ad,h5⟩:=zQ4 hrep hp;refine⟨a.eval x,w,?_,_,vJ hrep rfl hd f hf _ _ h3 h4 h2⟩;simp[execOp,ho,h5]
theorem zKs{G:Gh}{s:Nat}:(xs:List T)→ ∀(p:List Nat)(j i:Nat)(x:T),xs[i]? =some x→(qW G s xs p j)[i]? =some (tZ G s x ((j+i)::p))
 | [],_,_,_,_,h=>by simp at h
 |y::ys,p,j,i,x,h=>by
  cases i with
  |zero=>simp at h;subst h;simp[qW]
  |succ i=>
   have:=zKs (G:=G) (s:=s) ys p (j+1) i x (by simpa using h);rw[show j+(i+1)=j+1+i from by omega];simpa[qW]using this
theorem zMy(s i:Nat)(ts:List T)(t:T)(ho:o.op=.extract (.tmp s) i)(hdst:o.dst=some d)(hd:d<Γ.N)(hs:E s=some (.tup ts))(hi:ts[i]? =some t)(ht:∀xs,t≠.tup xs)
  (hne:s≠d)(hok:T.okB [(d,0)] (cpT s t [i])=true):wN P Γ o E (E.app [(d,some (cpT s t [i]))] [(d,0)]):=by
 refine wN.value hdst fun a w G hrep=>?_
 obtain⟨h1,h2,_⟩:=hrep.ent s _ hs;simp only[R]at h2;have h3:=zAI ts [] 0 i t h2 hi;simp only[Jf]at h3;have h4:=zKs (G:=G) (s:=s) ts [] 0 i t hi;simp only[Jf]at h4;have hk:=G.put_keep (w:=w) (w':=w) rfl d (fun z=>G.hd s (z++[i]));have hz:∀z,(G.put d (fun z=>G.hd s (z++[i]))).hd d (z++[])=G.hd s (z++[i]):=fun z=>by rw[Gh.put_self,J9]
 refine⟨tZ G s t [i],w,?_,_,vJ hrep rfl hd (fun z=>G.hd s (z++[i])) (fun z=>hrep.mem.one _ _) _ _ (zAn t [i] [] ht hz).symm
  (zD3 (fun p=>G.put_other _ p hne) t [i] [] hz ht (hk.keepR (kY _ (qL s t [i]) hok)) h3) (qL s t [i])⟩
 simp[execOp,ho,wK h1,mkV,Instr.extract,h4]
def zB1(E:Env)(x:Option Operand)(dflt n:Nat):Prop:=
 match x with
 |none=>n=dflt
 |some y=> ∃kd,opT E y=some (.lit (.int kd n))
theorem zG5{St:Stb}:(xs:List T)→ ∀(cs:Array Value)(o k l:Nat),RoL St xs cs o k→RoL St (xs.drop l) cs (o+l*k) k
 | [],_,_,_,_,_=>by simp[RoL]
 |x::xs,cs,o,k,l,h=>by
  cases l with
  |zero=>simpa using h
  |succ l=>
   simp only[RoL]at h;have:=zG5 xs cs (o+k) k l h.2
   rwa [List.drop_succ_cons,show o+(l+1)*k=o+k+l*k from by rw[Jy];omega]
theorem zG6{St:Stb}:(xs:List T)→ ∀(cs:Array Value)(o k l:Nat),RoL St xs cs o k→RoL St (xs.take l) cs o k
 | [],_,_,_,_,_=>by simp[RoL]
 |x::xs,cs,o,k,l,h=>by
  cases l with
  |zero=>simp[RoL]
  |succ l=>simp only[RoL,K9]at h ⊢;exact⟨h.1,zG6 xs cs _ k l h.2⟩
theorem zCJ{P:Program}{G:Gh}{a:Act}{w:World}(hrep:Rep Γ E G a.tmps w){x:Operand}{kd:IntKind}{n y:Nat}{c:BoundsCode}(hx:opT E x=some (.lit (.int kd n)))(h:n≤y):
  (Instr.sliceBound (a.eval x) y c).run P w=.ok n w:=by
 rw[(wO hrep hx).1];have:(n:Int)≤(y:Int):=by omega
 simp[Instr.sliceBound,asIntOf,this]
theorem zG7{P:Program}{G:Gh}{a:Act}{w:World}(hrep:Rep Γ E G a.tmps w){lo hi:Option Operand}{l h n c:Nat}(hlo:zB1 E lo 0 l)(hhi:zB1 E hi n h)(h1:l≤h)(h2:h≤c):
  (Instr.sliceBounds true n c (lo.map a.eval) (hi.map a.eval) none).run P w=.ok (l,h,c) w:=by
 cases lo with
 |none=>
  cases hi with
  |none=>simp only[zB1]at hlo hhi;subst hlo;subst hhi;simp[Instr.sliceBounds]
  |some y=>simp only[zB1]at hlo hhi;obtain⟨kd,hy⟩:=hhi;subst hlo;simp[Instr.sliceBounds,zCJ hrep hy h2]
 |some x=>
  obtain⟨kd,hx⟩:=hlo;cases hi with
  |none=>simp only[zB1]at hhi;subst hhi;simp[Instr.sliceBounds,zCJ hrep hx h1]
  |some y=>obtain⟨kd',hy⟩:=hhi;simp[Instr.sliceBounds,zCJ hrep hy h2,zCJ hrep hx h1]
theorem zKt(x:Operand)(lo hi:Option Operand)(t e:TypeId)(ti:TypeInfo)(r:Nat)(q:List Nat)(k:Nat)(xs:List T)(l h:Nat)(ho:o.op=.slice t x lo hi none)(hdst:o.dst=some d)(hd:d<Γ.N)
  (ht:P.underlying t=some (.slice e))(he:P.info? e=some ti)(hk:ti.size=k)(hx:tH E x=some (r,q,.ro (.sl k xs)))(hlo:zB1 E lo 0 l)(hhi:zB1 E hi xs.length h)(h1:l≤h)(h2:h≤xs.length):
  wN P Γ o E (E.app [(d,some (.ro (.sl k ((xs.drop l).take (h-l)))))] [(d,0)]):=by
 refine wN.value hdst fun a w G hrep=>?_
 obtain⟨g1,g2⟩:=qY hrep hx rfl;obtain⟨a',c,g4,g5,g6,g7⟩:=zCI g1;have g8:=zG7 (P:=P) hrep hlo hhi h1 (L6 h2 g5);have hlen:((xs.drop l).take (h-l)).length=h-l:=by simp;omega
 refine⟨.slice (if c=l then a' else a'.map (·.add (l*k))) (h-l) (c-l),w,?_,_,vJ hrep rfl hd (fun _=>.slice (if c=l then a' else a'.map (·.add (l*k))) (h-l) (c-l)) (fun _=>rfl) _ _ (by simp[mkV,Gh.put]) ?_ (by simp[Top])⟩
 ·simp only[execOp,ho,Jbb]
  simp[Instr.sliceAt,Instr.slice,run_underlying ht,g2,g4,g8,sizeOf,typeInfo,he,hk]
 ·simp only[R,Gh.put_self,RoC]
  refine⟨_,_,by rw[hlen];rfl,by omega,by omega,?_⟩;intro hne;have hne':xs≠[]:=by rintro rfl;simp at hne
  obtain⟨b,o',cs',e',fr,rfl,h3,h4⟩:=g7 hne';have hcl:c≠l:=by rintro rfl;apply hne;apply Kb;omega
  exact⟨b,o'+l*k,cs',e',fr,by simp[hcl,uM],h3,zG6 _ _ _ _ _ (zG5 _ _ _ _ _ h4)⟩
theorem zJi(x:Operand)(lo hi:Option Operand)(t e:TypeId)(ti:TypeInfo)(r:Nat)(q:List Nat)(k:Nat)(xs:List T)(l h:Nat)(ho:o.op=.slice t x lo hi none)(hdst:o.dst=some d)(hd:d<Γ.N)
  (ht:P.underlying t=some (.slice e))(he:P.info? e=some ti)(hk:ti.size=k)(hx:tH E x=some (r,q,.sl k xs))(hlo:zB1 E lo 0 l)(hhi:zB1 E hi xs.length h)(h1:l≤h)(h2:h≤xs.length)(hrd:r≠d):
  wN P Γ o E (E.app [(d,some (.sub r q k l h))] [(d,0)]):=by
 refine wN.value hdst fun a w G hrep=>?_
 obtain⟨g1,g2⟩:=qY hrep hx rfl;obtain⟨a',c,g4⟩:=zJh g1;have g5:xs.length≤c:=by
  simp only[R]at g1;rcases g1 with⟨rfl,_⟩|⟨b,cap,cs,e,g,_,g',_⟩
  ·simp
  ·rw[g4]at g;simp at g;omega
 have g8:=zG7 (P:=P) hrep hlo hhi h1 (L6 h2 g5);refine⟨zAT (G.hd r q) k l h,w,?_,_,vJ hrep rfl hd (fun _=>zAT (G.hd r q) k l h) (fun _=>by rw[g4];rfl) _ _ (by simp[mkV,Gh.put]) ?_ (by simp[Top])⟩
 ·simp only[execOp,ho,Jbb]
  simp[Instr.sliceAt,Instr.slice,run_underlying ht,g2,g4,g8,sizeOf,typeInfo,he,hk,zAT]
 ·simp only[R,Gh.put_self]
  rw[Gh.put_other _ _ _ hrd]
end
end Go.Ab

namespace Go.Ab
open Go
def T.inT:T→List Nat→Bool
 |_,[]=>true
 |.agg xs,i::f=>match xs[i]? with
  |some x=>x.inT f
  |none=>false
 |.any,_::_|.lit _,_::_|.ro _,_::_|.same _ _,_::_|.addr _ _,_::_|.sub _ _ _ _ _,_::_|.sl _ _,_::_|.ptr _,_::_|.tup _,_::_=>false
termination_by structural _ f=>f
def T.offT:T→List Nat→Nat
 |_,[]=>0
 |.agg xs,i::f=>match xs[i]? with
  |some x=>T.sizes (xs.take i)+x.offT f
  |none=>0
 |.any,_::_|.lit _,_::_|.ro _,_::_|.same _ _,_::_|.addr _ _,_::_|.sub _ _ _ _ _,_::_|.sl _ _,_::_|.ptr _,_::_|.tup _,_::_=>0
termination_by structural _ f=>f
theorem zG8{t:T}(h:t.single=true){f:List Nat}(hf:f≠[]):t.inT f=false:=by
 cases f with
 |nil=>exact absurd rfl hf
 |cons i f=>cases t<;>simp[T.single]at h<;>rfl
mutual
def zNH:T→List Nat→Nat→Option (List Nat)
 |.agg xs,p,o=>zBN xs p 0 o
 |.any,p,o|.lit _,p,o|.ro _,p,o|.same _ _,p,o|.addr _ _,p,o|.sub _ _ _ _ _,p,o|.sl _ _,p,o|.ptr _,p,o|.tup _,p,o=>if o=0 then some p else none
def zBN:List T→List Nat→Nat→Nat→Option (List Nat)
 | [],_,_,_=>none
 |x::xs,p,j,o=>if o<x.size then zNH x (j::p) o else zBN xs p (j+1) (o-x.size)
end
mutual
def T.okTup:T→Bool
 |.tup _=>false
 |.agg xs=>yR xs
 |.any|.lit _|.ro _|.same _ _|.addr _ _|.sub _ _ _ _ _|.sl _ _|.ptr _=>true
def yR:List T→Bool
 | []=>true
 |x::xs=>x.okTup&&yR xs
end
theorem zD6:(xs:List T)→ ∀(p:List Nat)(j o:Nat),T.sizes xs≤o→zBN xs p j o=none
 | [],_,_,_,_=>by simp only[zBN]
 |x::xs,p,j,o,h=>by simp only[T.sizes]at h;simp only[zBN];rw[if_neg (by omega)];exact zD6 xs p (j+1) _ (by omega)
section
variable {G:Gh}{w:World}{d:Nat}
mutual
theorem zVT:(x:T)→ ∀(p:List Nat)(B o:Nat),(∀xs,x≠.tup xs)→x.okTup=true→
  (∀f,x.inT f=true→G.ad d (f.reverse++p)=⟨B,o+x.offT f,none⟩)→(∀j p',j<x.size→zNH x p j=some p'→G.lb B (o+j)=some (false,d,p'))→
  (∀j v,(vals G d x p)[j]? =some v→yP w B (o+j)=some v)→Loc G w d x p B o
 |.agg xs,p,B,o,_,hn,ha,hl,hc=>by
  simp only[Loc];refine⟨by simpa[T.offT]using ha [] rfl,zGj xs p 0 B o (by simpa only[T.okTup]using hn) (fun i x hx f hf=>?_) (fun j p' hj hp=>?_) (fun j v hv=>hc j v (by simpa only[vals]using hv))⟩
  ·have:=ha (i::f) (by simp only[T.inT,hx];exact hf)
   simp only[T.offT,hx,H0,Ja,Jq,Ji]at this;simpa[Ls]using this
  ·exact hl j p' (by simpa only[T.size]using hj) (by simpa only[zNH]using hp)
 |.any,p,B,o,_,_,ha,hl,hc|.lit _,p,B,o,_,_,ha,hl,hc|.ro _,p,B,o,_,_,ha,hl,hc|.same _ _,p,B,o,_,_,ha,hl,hc|.addr _ _,p,B,o,_,_,ha,hl,hc|.sub _ _ _ _ _,p,B,o,_,_,ha,hl,hc|.sl _ _,p,B,o,_,_,ha,hl,hc|.ptr _,p,B,o,_,_,ha,hl,hc=>by simp only[Loc];exact⟨by simpa[T.offT]using ha [] rfl,by simpa using hl 0 p (by simp[T.size]) (by simp[zNH]),by simpa using hc 0 (G.hd d p) (by simp[vals])⟩
 |.tup xs,_,_,_,h,_,_,_,_=>absurd rfl (h xs)
theorem zGj:(xs:List T)→ ∀(p:List Nat)(j B o:Nat),yR xs=true→
  (∀i x,xs[i]? =some x→ ∀f,x.inT f=true→G.ad d (f.reverse++((j+i)::p))=⟨B,o+(T.sizes (xs.take i)+x.offT f),none⟩)→
  (∀i p',i<T.sizes xs→zBN xs p j i=some p'→G.lb B (o+i)=some (false,d,p'))→
  (∀i v,(yF G d xs p j)[i]? =some v→yP w B (o+i)=some v)→vE G w d xs p j B o
 | [],_,_,_,_,_,_,_,_=>by simp only[vE]
 |x::xs,p,j,B,o,hn,ha,hl,hc=>by
  simp only[yR,J4]at hn;have hnt:∀ys,x≠.tup ys:=by rintro ys rfl;simp[T.okTup]at hn
  simp only[vE];refine⟨zVT x (j::p) B o hnt hn.1 (fun f hf=>by simpa[T.sizes]using ha 0 x (by simp) f hf) (fun i p' hi hp=>hl i p' (by simp only[T.sizes];omega) (by simp only[zBN,hi,if_true];exact hp)) (fun i v hv=>hc i v ?_),
   zGj xs p (j+1) B (o+x.size) hn.2 (fun i y hy f hf=>?_) (fun i p' hi hp=>?_) (fun i v hv=>?_)⟩
  ·simp only[yF]
   rw[Jm (Jb.1 hv).1];exact hv
  ·have:=ha (i+1) y (by simpa using hy) f hf
   simp only[K9,T.sizes]at this;rw[show j+1+i=j+(i+1)from by omega,this]
   congr 1
   omega
  ·have:=hl (x.size+i) p' (by simp only[T.sizes];omega) (by simp only[zBN];rw[if_neg (by omega),show x.size+i-x.size=i from by omega];exact hp)
   rwa [←Ls]at this
  ·have:=hc (x.size+i) v (by
    simp only[yF];rw[J8 (by rw[wS x _ hnt];omega),wS x _ hnt,show x.size+i-x.size=i from by omega];exact hv)
   rwa [←Ls]at this
end
end
structure MvC (G:Gh) (w:World) (G':Gh) (w':World) (s:Nat) (p:List Nat) (s':Nat) (p':List Nat) (t:T):Prop where
 hd:∀z,G'.hd s' (z++p')=G.hd s (z++p)
 ad:∀z,t.inT z.reverse=false→G'.ad s' (z++p')=G.ad s (z++p)
 lb:∀b o f z,(f=true∨t.inT z.reverse=false)→G.lb b o=some (f,s,z++p)→G'.lb b o=some (f,s',z++p')∧yP w' b o=yP w b o
 ow:∀b z,G.ow b=some (s,z++p)→G'.ow b=some (s',z++p')
 blk:Blk w w'
section
variable {St:Stb}{G:Gh}{w:World}{G':Gh}{w':World}{s:Nat}{s':Nat}
theorem MvC.moves{p p':List Nat}{t:T}(h:MvC G w G' w' s p s' p' t)(ht:t.single=true):zIq G w G' w' s p s' p' where
 hd:=h.hd
 ad z hz:=h.ad z (zG8 ht (by simpa using hz))
 lb b o f z hz _ hl:=h.lb b o f z (.inr (zG8 ht (by simpa using hz))) hl
 ow b z _ hl:=h.ow b z hl
 blk:=h.blk
 sp b o _ hl:=by simpa using h.lb b o true [] (.inl rfl) (by simpa using hl)
 ow0 b hl:=by simpa using h.ow b [] (by simpa using hl)
theorem MvC.field{p p':List Nat}{xs:List T}(h:MvC G w G' w' s p s' p' (.agg xs)){j:Nat}{x:T}(hx:xs[j]? =some x):MvC G w G' w' s (j::p) s' (j::p') x where
 hd z:=by have:=h.hd (z++[j]);simpa using this
 ad z hz:=by have:=h.ad (z++[j]) (by simp[T.inT,hx,hz]);simpa using this
 lb b o f z hf hl:=by have:=h.lb b o f (z++[j]) (hf.imp id fun hz=>by simp[T.inT,hx,hz]) (by simpa using hl);simpa using this
 ow b z hl:=by have:=h.ow b (z++[j]) (by simpa using hl);simpa using this
 blk:=h.blk
mutual
theorem zKu:(t:T)→ ∀(p p':List Nat),t.okTup=true→MvC G w G' w' s p s' p' t→yY (kR G G') t→R St G w s t p→R St G' w' s' t p'
 |.agg xs,p,p',hn,h,hk,hr=>by
  simp only[R,yY,T.okTup]at hr hk hn ⊢
  exact zQ5 xs p p' 0 hn (fun j x hx=>by rw[Jf];exact h.field hx) hk hr
 |.any,p,p',_,h,hk,hr|.lit _,p,p',_,h,hk,hr|.ro _,p,p',_,h,hk,hr|.same _ _,p,p',_,h,hk,hr|.addr _ _,p,p',_,h,hk,hr|.sub _ _ _ _ _,p,p',_,h,hk,hr|.sl _ _,p,p',_,h,hk,hr|.ptr _,p,p',_,h,hk,hr=>
  kX (h.moves rfl) _ hk hr
 |.tup _,_,_,hn,_,_,_=>by simp[T.okTup]at hn
theorem zQ5:(xs:List T)→ ∀(p p':List Nat)(j:Nat),yR xs=true→(∀i x,xs[i]? =some x→MvC G w G' w' s ((j+i)::p) s' ((j+i)::p') x)→xW (kR G G') xs→RF St G w s xs p j→RF St G' w' s' xs p' j
 | [],_,_,_,_,_,_,_=>by simp only[RF]
 |x::xs,p,p',j,hn,h,hk,hr=>by
  simp only[RF,xW,yR,J4]at hr hk hn ⊢
  exact⟨zKu x (j::p) (j::p') hn.1 (by simpa using h 0 x (by simp)) hk.1 hr.1,zQ5 xs p p' (j+1) hn.2 (fun i y hy=>by
   have:=h (i+1) y (by simpa using hy)
   rwa [show j+1+i=j+(i+1)from by omega]) hk.2 hr.2⟩
end
end
theorem zNI{St:Stb}{G:Gh}{w:World}{s:Nat}:(xs:List T)→ ∀(p:List Nat)(j:Nat),(∀i x,xs[i]? =some x→R St G w s x ((j+i)::p))→RF St G w s xs p j
 | [],_,_,_=>by simp only[RF]
 |x::xs,p,j,h=>by
  simp only[RF];exact⟨by simpa using h 0 x (by simp),zNI xs p (j+1) (fun i y hy=>by
   have:=h (i+1) y (by simpa using hy)
   rwa [show j+1+i=j+(i+1)from by omega])⟩
theorem zQ6{St:Stb}{G:Gh}{w:World}{s:Nat}{k:Nat}:(xs:List T)→ ∀(p:List Nat)(j b o:Nat),(∀x∈xs,x.size=k)→vE G w s xs p j b o→RF St G w s xs p j→RL St G w s xs p j b o k
 | [],_,_,_,_,_,_,_=>by simp only[RL]
 |x::xs,p,j,b,o,hk,hl,hr=>by
  simp only[RL,vE,RF]at hl hr ⊢
  have h1:=hk x (by simp);exact⟨⟨hl.1,h1⟩,hr.1,zQ6 xs p (j+1) b (o+k) (fun y hy=>hk y (by simp[hy])) (by rw[←h1];exact hl.2) hr.2⟩
theorem wT{k:Nat}:(xs:List T)→(∀x∈xs,x.size=k)→T.sizes xs=xs.length*k
 | [],_=>by simp[T.sizes]
 |x::xs,h=>by simp[T.sizes,wT xs (fun y hy=>h y (by simp[hy])),h x (by simp),Jy];omega
def Gh.nb(G:Gh)(d B:Nat)(xs:List T)(src:Nat→Option (Nat×List Nat))(φ:Nat→List Nat→Option (List Nat))(f:Nat→List Nat→Value)(hdr:Value):Gh where
 hd s z:=if s=d then(match z.getLast? with
  |some i=>f i z.dropLast
  |none=>hdr)else G.hd s z
 ad s z:=if s=d then(if(T.agg xs).inT z.reverse then⟨B,(T.agg xs).offT z.reverse,none⟩else match z.getLast? with
  |some i=>(match src i with
   |some (x,q)=>G.ad x (z.dropLast++q)
   |none=>default)
  |none=>default)else G.ad s z
 lb b o:=if b=B then some (match zBN xs [] 0 o with
  |some p=>(false,d,p)
  |none=>(true,d,[]))else match G.lb b o with
  |some (fl,s,z)=>(match φ s z with
   |some z'=>some (fl,d,z')
   |none=>some (fl,s,z))
  |none=>none
 ow b:=if b=B then some (d,[])else match G.ow b with
  |some (s,z)=>(match φ s z with
   |some z'=>some (d,z')
   |none=>some (s,z))
  |none=>none
theorem zCK{Γ:Ctx}{G:Gh}{w w':World}(hm:Mem Γ G w){cells:Array Value}{e:TypeId}(hw:w'.heap=w.heap.push (.cells cells e))(d:Nat)(xs:List T)
  (src:Nat→Option (Nat×List Nat))(φ:Nat→List Nat→Option (List Nat))(f:Nat→List Nat→Value)(hdr:Value)(chg:Chg)
  (hok:yR xs=true)(hf:∀(i:Nat)(z:List Nat),(f i z).oneCell'=true)(hh:hdr.oneCell'=true)
  (hφ:∀(i:Nat) u x q(z:List Nat),xs[i]? =some u→src i=some (x,q)→φ x (z++q)=some (z++[i]))
  (hsrc:∀(i:Nat) u x q,xs[i]? =some u→src i=some (x,q)→(∀z,f i z=G.hd x (z++q))∧R Γ.St G w x u q∧yD u∧x≠d)
  (hnone:∀(i:Nat) u,xs[i]? =some u→src i=none→ ∀(G2:Gh)(w2:World),(∀z,G2.hd d (z++[i])=f i z)→R Γ.St G2 w2 d u [i])
  (hcells:∀(G2:Gh),(∀i z,G2.hd d (z++[i])=f i z)→ ∀(o:Nat)(v:Value),(yF G2 d xs [] 0)[o]? =some v→cells[o]? =some v)
  (hchg:∀s p,(∀n,(s,n)∉(d,0)::chg)→φ s p=none)(ho:w'.os=w.os:=by rfl)(hq:w'.output=w.output:=by rfl):
  qP ((d,0)::chg) G w (G.nb d w.heap.size xs src φ f hdr) w'∧Mem Γ (G.nb d w.heap.size xs src φ f hdr) w'∧
  vE (G.nb d w.heap.size xs src φ f hdr) w' d xs [] 0 w.heap.size 0∧RF Γ.St (G.nb d w.heap.size xs src φ f hdr) w' d xs [] 0∧
  w'.heap[w.heap.size]? =some (.cells cells e):=by
 have hnew:w'.heap[w.heap.size]? =some (.cells cells e):=by rw[hw];simp
 have hold:∀b,b<w.heap.size→w'.heap[b]? =w.heap[b]?:=fun b hb=>by rw[hw,Array.getElem?_push];rw[if_neg (by omega)]
 have hsz:w'.heap.size=w.heap.size+1:=by rw[hw];simp
 have hcell:∀b o,b<w.heap.size→yP w' b o=yP w b o:=fun b o hb=>by simp[yP,World.cell?,hold b hb]
 have hblk:Blk w w':=fun b cs e' h=>⟨cs,by rw[hold b (Ki.1 h).1];exact h,rfl⟩
 have hone:=hm.one
 generalize hG':G.nb d w.heap.size xs src φ f hdr=G'
 have ghd:∀i z,G'.hd d (z++[i])=f i z:=fun i z=>by rw[←hG'];simp[Gh.nb]
 have gad:∀g,(T.agg xs).inT g=true→G'.ad d g.reverse=⟨w.heap.size,(T.agg xs).offT g,none⟩:=fun g hg=>by rw[←hG'];simp[Gh.nb,hg]
 have gadm:∀i x q z,src i=some (x,q)→(T.agg xs).inT (i::z.reverse)=false→G'.ad d (z++[i])=G.ad x (z++q):=fun i x q z hs hin=>by rw[←hG'];simp[Gh.nb,hin,hs]
 have glb:∀o p,zBN xs [] 0 o=some p→G'.lb w.heap.size o=some (false,d,p):=fun o p h=>by rw[←hG'];simp[Gh.nb,h]
 have glbm:∀b o fl x z z',G.lb b o=some (fl,x,z)→φ x z=some z'→G'.lb b o=some (fl,d,z'):=fun b o fl x z z' h1 h2=>by have:=(hm.lb b o _ h1).1;rw[←hG'];simp[Gh.nb,h1,h2,show b≠w.heap.size from by omega]
 have gowm:∀b x z z',G.ow b=some (x,z)→φ x z=some z'→G'.ow b=some (d,z'):=fun b x z z' h1 h2=>by have:=(hm.ow b _ h1).1;rw[←hG'];simp[Gh.nb,h1,h2,show b≠w.heap.size from by omega]
 have hne:∀s p,Off ((d,0)::chg) s p→s≠d:=fun s p h e=>absurd (h 0 (by simp[e])) (by simp)
 have hkeep:qP ((d,0)::chg) G w G' w':=by
  refine⟨fun s p h=>?_,fun s p h=>?_,fun b o fl s p _ hl h=>⟨?_,hcell b o (hm.lb b o _ hl).1⟩,fun b s p hl h=>?_,hblk⟩
  ·rw[←hG'];simp[Gh.nb,hne s p h]
  ·rw[←hG'];simp[Gh.nb,hne s p h]
  ·have:=(hm.lb b o _ hl).1
   rw[←hG'];simp[Gh.nb,hl,hchg s p h,show b≠w.heap.size from by omega]
  ·have:=(hm.ow b _ hl).1
   rw[←hG'];simp[Gh.nb,hl,hchg s p h,show b≠w.heap.size from by omega]
 refine⟨hkeep,?_,?_,?_,hnew⟩
 ·
  have hB:zBY Γ w' w.heap.size:=⟨by omega,.inl hm.sz,by
   cases hst:Γ.St w.heap.size with
   |none=>rfl
   |some x=>have:=hm.st _ x hst;simp at this⟩
  have hup:∀b,zBY Γ w b→zBY Γ w' b:=fun b h=>⟨by have:=h.1;omega,h.2⟩
  refine⟨fun s p=>?_,fun b o l hl=>?_,fun b l hl=>?_,fun b x hx=>?_,fun b h1 h2=>?_,by have:=hm.sz;omega,hm.bk.trans hblk ho hq⟩
  ·rw[←hG']
   simp only[Gh.nb];split
   ·split
    ·exact hf _ _
    ·exact hh
   ·exact hone s p
  ·rw[←hG']at hl
   simp only[Gh.nb]at hl;split at hl
   ·rename_i hb;subst hb;exact hB
   ·split at hl
    ·rename_i hg;exact hup b (hm.lb b o _ hg)
    ·cases hl
  ·rw[←hG']at hl
   simp only[Gh.nb]at hl;split at hl
   ·rename_i hb;subst hb;exact hB
   ·split at hl
    ·rename_i hg;exact hup b (hm.ow b _ hg)
    ·cases hl
  ·have:=hm.st b x hx
   rw[hold b (Ki.1 this).1];exact this
  ·rw[hold b (Jbc h1 hm.sz)]
   exact hm.fr b h1 h2
 ·
  refine zGj xs [] 0 w.heap.size 0 hok (fun i x hx g hg=>?_) (fun i p' _ hp=>by simpa using glb i p' hp) (fun i v hv=>?_)
  ·have:=gad (i::g) (by simp only[T.inT,hx];exact hg)
   simpa[T.offT,hx]using this
  ·have:=hcells G' ghd i v hv
   rw[Jf];simp[yP,World.cell?,hnew,this]
 ·
  refine zNI xs [] 0 (fun i u hu=>?_);rw[Jf];cases hs:src i with
  |none=>exact hnone i u hu hs G' w' (fun z=>ghd i z)
  |some xq=>
   obtain⟨x,q⟩:=xq;obtain⟨h1,h2,h3,h4⟩:=hsrc i u x q hu hs;have hin:∀g,(T.agg xs).inT (i::g)=u.inT g:=fun g=>by simp only[T.inT,hu]
   refine zKu u q [i] (okTups_get xs hok i u hu) ⟨fun z=>by rw[ghd,h1],fun z hz=>gadm i x q z hs (by rw[hin];exact hz),fun b o fl z hz hl=>⟨glbm b o fl x _ _ hl (hφ i u x q z hu hs),hcell b o (hm.lb b o _ hl).1⟩,
    fun b z hl=>gowm b x _ _ hl (hφ i u x q z hu hs),hblk⟩ (yY.mono (fun _ _=>False.elim) u h3) h2
where okTups_get:(xs:List T)→yR xs=true→ ∀(i:Nat)(x:T),xs[i]? =some x→x.okTup=true
 | [],_,_,_,h=>by simp at h
 |y::ys,hk,i,x,h=>by
  simp only[yR,J4]at hk;cases i with
  |zero=>simp at h;subst h;exact hk.1
  |succ i=>exact okTups_get ys hk.2 i x (by simpa using h)
end Go.Ab

namespace Go.Ab
open Go
inductive yS where
 |slot (s:Nat) (t:T)
 |zero (u:T)
def yS.tree:yS→T
 |.slot _ t=>t
 |.zero u=>u
def sL:T→Bool
 |.lit _|.ro _=>false
 |_=>true
mutual
def T.zOk:T→Bool
 |.lit v=>v.oneCell'
 |.sl _ xs=>xs.isEmpty
 |.agg xs=>zAa xs
 |.any|.ro _|.same _ _|.addr _ _|.sub _ _ _ _ _|.ptr _|.tup _=>false
def zAa:List T→Bool
 | []=>true
 |x::xs=>x.zOk&&zAa xs
end
def zhd:T→List Nat→Value
 |.agg xs,i::f=>match xs[i]? with
  |some x=>zhd x f
  |none=>.bool false
 |.lit v,_=>v
 |.sl _ _,_=>.slice none 0 0
 |.agg _,[] |.any,_|.ro _,_|.same _ _,_|.addr _ _,_|.sub _ _ _ _ _,_|.ptr _,_|.tup _,_=>.bool false
termination_by structural _ f=>f
mutual
def tK:T→List Value
 |.lit v=>[v]
 |.sl _ _=>[.slice none 0 0]
 |.agg xs=>sA xs
 |.any|.ro _|.same _ _|.addr _ _|.sub _ _ _ _ _|.ptr _|.tup _=>[]
def sA:List T→List Value
 | []=>[]
 |x::xs=>tK x++sA xs
end
section
variable {St:Stb}{G:Gh}{w:World}{d:Nat}
mutual
theorem zJj:(u:T)→ ∀(p:List Nat),u.zOk=true→(∀z,G.hd d (z++p)=jM (zhd u z.reverse))→R St G w d u p
 |.lit v,p,h,hd=>by
  simp only[T.zOk,R]at h ⊢
  have:=hd [];rw[Ji]at this;rw[this];exact kZ h
 |.sl k xs,p,h,hd=>by simp only[T.zOk,Jbr]at h;subst h;have:=hd [];rw[Ji]at this;simp only[R];exact .inl ⟨trivial,none,by rw[this];rfl⟩
 |.agg xs,p,h,hd=>by
  simp only[T.zOk,R]at h ⊢
  exact zNJ xs p 0 h (fun i x hx z=>by rw[Jf];have:=hd (z++[i]);simp only[Ja,Jq,Ji,Hq,H0,Lg,zhd,hx]at this;exact this)
 |.any,_,h,_|.ro _,_,h,_|.same _ _,_,h,_|.addr _ _,_,h,_|.sub _ _ _ _ _,_,h,_|.ptr _,_,h,_|.tup _,_,h,_=>by simp[T.zOk]at h
theorem zNJ:(xs:List T)→ ∀(p:List Nat)(j:Nat),zAa xs=true→(∀i x,xs[i]? =some x→ ∀z,G.hd d (z++((j+i)::p))=jM (zhd x z.reverse))→RF St G w d xs p j
 | [],_,_,_,_=>by simp only[RF]
 |x::xs,p,j,h,hd=>by
  simp only[zAa,J4,RF]at h ⊢
  exact⟨zJj x (j::p) h.1 (by simpa using hd 0 x (by simp)),zNJ xs p (j+1) h.2 (fun i y hy z=>by
   have:=hd (i+1) y (by simpa using hy) z
   rwa [show j+1+i=j+(i+1)from by omega])⟩
end
end
section
variable {G:Gh}{d:Nat}
mutual
theorem zEU:(u:T)→ ∀(p:List Nat),u.zOk=true→(∀z,G.hd d (z++p)=jM (zhd u z.reverse))→vals G d u p=tK u
 |.lit v,p,h,hd=>by
  simp only[T.zOk,vals,tK]at h ⊢
  have:=hd [];rw[Ji]at this;rw[this];simp[zhd,kZ h]
 |.sl k xs,p,h,hd=>by have:=hd [];rw[Ji]at this;simp only[vals,tK];rw[this];simp[zhd,jM,Value.oneCell']
 |.agg xs,p,h,hd=>by
  simp only[T.zOk,vals,tK]at h ⊢
  exact zD7 xs p 0 h (fun i x hx z=>by rw[Jf];have:=hd (z++[i]);simp only[Ja,Jq,Ji,Hq,H0,Lg,zhd,hx]at this;exact this)
 |.any,_,h,_|.ro _,_,h,_|.same _ _,_,h,_|.addr _ _,_,h,_|.sub _ _ _ _ _,_,h,_|.ptr _,_,h,_|.tup _,_,h,_=>by simp[T.zOk]at h
theorem zD7:(xs:List T)→ ∀(p:List Nat)(j:Nat),zAa xs=true→(∀i x,xs[i]? =some x→ ∀z,G.hd d (z++((j+i)::p))=jM (zhd x z.reverse))→yF G d xs p j=sA xs
 | [],_,_,_,_=>by simp only[yF,sA]
 |x::xs,p,j,h,hd=>by
  simp only[zAa,J4,yF,sA]at h ⊢
  rw[zEU x (j::p) h.1 (by simpa using hd 0 x (by simp)),zD7 xs p (j+1) h.2 (fun i y hy z=>by
   have:=hd (i+1) y (by simpa using hy) z
   rwa [show j+1+i=j+(i+1)from by omega])]
end
end
mutual
theorem zAX:(u:T)→u.zOk=true→yD u∧u.okTup=true
 |.lit _,_=>by simp[yD,yY,T.okTup]
 |.sl _ xs,h=>by simp only[T.zOk,Jbr]at h;subst h;simp[yD,yY,xW,T.okTup]
 |.agg xs,h=>by simp only[T.zOk]at h;simpa only[yD,yY,T.okTup]using zB2 xs h
 |.any,h|.ro _,h|.same _ _,h|.addr _ _,h|.sub _ _ _ _ _,h|.ptr _,h|.tup _,h=>by simp[T.zOk]at h
theorem zB2:(xs:List T)→zAa xs=true→xH xs∧yR xs=true
 | [],_=>by simp[xH,xW,yR]
 |x::xs,h=>by simp only[zAa,J4]at h;simp only[xH,xW,yR,J4];exact⟨⟨(zAX x h.1).1,(zB2 xs h.2).1⟩,(zAX x h.1).2,(zB2 xs h.2).2⟩
end
mutual
theorem wV:(u:T)→u.zOk=true→(tK u).length=u.size
 |.lit _,_|.sl _ _,_=>by simp[tK,T.size]
 |.agg xs,h=>by simp only[T.zOk]at h;simp only[tK,T.size];exact zAK xs h
 |.any,h|.ro _,h|.same _ _,h|.addr _ _,h|.sub _ _ _ _ _,h|.ptr _,h|.tup _,h=>by simp[T.zOk]at h
theorem zAK:(xs:List T)→zAa xs=true→(sA xs).length=T.sizes xs
 | [],_=>by simp[sA,T.sizes]
 |x::xs,h=>by simp only[zAa,J4]at h;simp only[sA,J5,T.sizes,wV x h.1,zAK xs h.2]
end
def zG9(ps:List yS)(i:Nat):Option (Nat×List Nat):=
 match ps[i]? with
 |some (.slot s t)=>if sL t then some (s,[])else none
 |_=>none
def zGA:List yS→Nat→Nat→Option Nat
 | [],_,_=>none
 |.slot x t::r,i,s=>if sL t&&x==s then some i else zGA r (i+1) s
 |.zero _::r,i,s=>zGA r (i+1) s
def zHZ(ps:List yS)(s:Nat)(z:List Nat):Option (List Nat):=
 match zGA ps 0 s with
 |some i=>some (z++[i])
 |none=>none
def pWr(d:Nat):List yS→Nat→Wr
 | [],_=>[]
 |.slot s t::r,i=>if sL t then(s,some (cpT d t [i]))::pWr d r (i+1)else pWr d r (i+1)
 |.zero _::r,i=>pWr d r (i+1)
def xS:List yS→List Nat
 | []=>[]
 |.slot s t::r=>if sL t then s::xS r else xS r
 |.zero _::r=>xS r
def sM(ps:List yS):Chg:=(xS ps).map fun s=>(s,1)
def sZ(G:Gh):yS→List Value
 |.slot s t=>vals G s t []
 |.zero u=>tK u
def pHd(G:Gh)(ps:List yS)(i:Nat)(z:List Nat):Value:=
 match ps[i]? with
 |some (.slot s _)=>G.hd s z
 |some (.zero u)=>jM (zhd u z.reverse)
 |none=>.bool false
structure tN (E:Env) (d:Nat) (ps:List yS):Prop where
 slot:∀s t,yS.slot s t∈ps→E s=some t∧yD t∧t.okTup=true
 zero:∀u,yS.zero u∈ps→u.zOk=true
 dist:(d::xS ps).Nodup
theorem zAY:(ps:List yS)→ ∀(i0 i s:Nat)(t:T),ps[i]? =some (.slot s t)→sL t=true→(xS ps).Nodup→zGA ps i0 s=some (i0+i)
 | [],_,_,_,_,h,_,_=>by simp at h
 |.slot x u::r,i0,i,s,t,h,hm,hn=>by
  cases i with
  |zero=>simp at h;obtain⟨rfl,rfl⟩:=h;simp[zGA,hm]
  |succ i=>
   simp only[Uu]at h;have hin:s∈xS r:=pSlots_mem r i s t h hm;simp only[zGA]
   by_cases hu:sL u=true
   ·simp only[xS,hu,if_true,Ll]at hn
    have:x≠s:=fun e=>hn.1 (e▸hin)
    simp only[hu,Bool.true_and,beq_iff_eq,this,if_false];rw[zAY r (i0+1) i s t h hm hn.2]
    congr 1;omega
   ·simp only[xS,hu]at hn
    simp only[hu,Jcq,Ga,if_false];rw[zAY r (i0+1) i s t h hm (by simpa using hn)]
    congr 1;omega
 |.zero u::r,i0,i,s,t,h,hm,hn=>by
  cases i with
  |zero=>simp at h
  |succ i=>
   simp only[Uu]at h;simp only[zGA];rw[zAY r (i0+1) i s t h hm (by simpa only[xS]using hn)]
   congr 1;omega
where pSlots_mem:(ps:List yS)→ ∀(i s:Nat)(t:T),ps[i]? =some (.slot s t)→sL t=true→s∈xS ps
 | [],_,_,_,h,_=>by simp at h
 |.slot x u::r,i,s,t,h,hm=>by
  cases i with
  |zero=>simp at h;obtain⟨rfl,rfl⟩:=h;simp[xS,hm]
  |succ i=>
   have:=pSlots_mem r i s t (by simpa using h) hm;simp only[xS];split<;>simp[this]
 |.zero u::r,i,s,t,h,hm=>by
  cases i with
  |zero=>simp at h
  |succ i=>simpa only[xS]using pSlots_mem r i s t (by simpa using h) hm
theorem zCL:(ps:List yS)→ ∀(i0 s:Nat),s∉xS ps→zGA ps i0 s=none
 | [],_,_,_=>by simp only[zGA]
 |.slot x u::r,i0,s,h=>by
  simp only[zGA]
  by_cases hu:sL u=true
  ·simp only[xS,hu,if_true,Jd,not_or]at h
   simp only[hu,Bool.true_and,beq_iff_eq,Ne.symm h.1,if_false];exact zCL r _ s h.2
  ·simp only[xS,hu]at h
   simp only[hu,Jcq,Ga,if_false];exact zCL r _ s (by simpa using h)
 |.zero u::r,i0,s,h=>by simp only[zGA];exact zCL r _ s (by simpa only[xS]using h)
theorem zCb:(ps:List yS)→ ∀(d i0 s:Nat)(x:Option T),(pWr d ps i0).find s=some x→ ∃i t,ps[i]? =some (.slot s t)∧sL t=true∧x=some (cpT d t [i0+i])
 | [],_,_,_,_,h=>by simp[pWr,Wr.find]at h
 |.slot y u::r,d,i0,s,x,h=>by
  simp only[pWr]at h;split at h
  ·rename_i hu
   simp only[Wr.find]at h;split at h
   ·rename_i he;subst he;simp at h;exact⟨0,u,by simp,hu,by simpa using h.symm⟩
   ·obtain⟨i,t,h1,h2,h3⟩:=zCb r d (i0+1) s x h
    exact⟨i+1,t,by simpa using h1,h2,by rw[h3];congr 3;omega⟩
  ·obtain⟨i,t,h1,h2,h3⟩:=zCb r d (i0+1) s x h
   exact⟨i+1,t,by simpa using h1,h2,by rw[h3];congr 3;omega⟩
 |.zero u::r,d,i0,s,x,h=>by simp only[pWr]at h;obtain⟨i,t,h1,h2,h3⟩:=zCb r d (i0+1) s x h;exact⟨i+1,t,by simpa using h1,h2,by rw[h3];congr 3;omega⟩
theorem zCc:(ps:List yS)→ ∀(d i0 s:Nat),(pWr d ps i0).find s=none→s∉xS ps
 | [],_,_,_,_=>by simp[xS]
 |.slot y u::r,d,i0,s,h=>by
  simp only[pWr]at h;simp only[xS];split at h
  ·rename_i hu
   simp only[Wr.find]at h;split at h
   ·cases h
   ·rename_i hne
    simp only[hu,if_true,Jd,not_or];exact⟨fun e=>hne e.symm,zCc r d _ s h⟩
  ·rename_i hu
   simp only[hu];simpa using zCc r d _ s h
 |.zero u::r,d,i0,s,h=>by simp only[pWr]at h;simpa only[xS]using zCc r d _ s h
section
variable {Γ:Ctx}{E:Env}{G:Gh}{tmps:Array Value}{w:World}{d:Nat}{ps:List yS}
theorem zFG(hrep:Rep Γ E G tmps w)(h:tN E d ps):
  yR (ps.map yS.tree)=true∧xH (ps.map yS.tree)∧(∀i z,(pHd G ps i z).oneCell'=true)∧
  (∀(i:Nat) u x q(z:List Nat),(ps.map yS.tree)[i]? =some u→zG9 ps i=some (x,q)→zHZ ps x (z++q)=some (z++[i]))∧
  (∀(i:Nat) u x q,(ps.map yS.tree)[i]? =some u→zG9 ps i=some (x,q)→(∀z,pHd G ps i z=G.hd x (z++q))∧R Γ.St G w x u q∧yD u∧x≠d)∧
  (∀(i:Nat) u,(ps.map yS.tree)[i]? =some u→zG9 ps i=none→ ∀(G2:Gh)(w2:World),(∀z,G2.hd d (z++[i])=pHd G ps i z)→R Γ.St G2 w2 d u [i])∧
  (∀s p,(∀n,(s,n)∉(d,0)::sM ps)→zHZ ps s p=none):=by
 have hdn:=Ll.1 h.dist;refine⟨?_,?_,?_,?_,?_,?_,?_⟩
 ·have:∀qs:List yS,(∀p∈qs,p∈ps)→yR (qs.map yS.tree)=true:=by
   intro qs
   induction qs with
   |nil=>intro _;rfl
   |cons q qs ih=>
    intro hq;simp only[Ju,yR,J4];refine⟨?_,ih fun p hp=>hq p (by simp[hp])⟩;cases q with
    |slot s t=>exact(h.slot s t (hq _ (by simp))).2.2
    |zero u=>exact(zAX u (h.zero u (hq _ (by simp)))).2
  exact this ps fun _ hp=>hp
 ·have:∀qs:List yS,(∀p∈qs,p∈ps)→xH (qs.map yS.tree):=by
   intro qs
   induction qs with
   |nil=>intro _;trivial
   |cons q qs ih=>
    intro hq;simp only[Ju,xH,xW];refine⟨?_,ih fun p hp=>hq p (by simp[hp])⟩;cases q with
    |slot s t=>exact(h.slot s t (hq _ (by simp))).2.1
    |zero u=>exact(zAX u (h.zero u (hq _ (by simp)))).1
  exact this ps fun _ hp=>hp
 ·intro i z
  unfold pHd;split
  ·exact hrep.mem.one _ _
  ·exact zAW _
  ·rfl
 ·intro i u x q z hu hs
  rw[K0]at hu;unfold zG9 at hs;cases hp:ps[i]? with
  |none=>simp[hp]at hu
  |some p=>
   cases p with
   |zero v=>simp[hp]at hs
   |slot s t=>
    simp only[hp]at hs;split at hs
    ·rename_i hm
     simp at hs;obtain⟨rfl,rfl⟩:=hs;simp[zHZ,zAY ps 0 i s t hp hm hdn.2]
    ·cases hs
 ·intro i u x q hu hs
  rw[K0]at hu;unfold zG9 at hs;cases hp:ps[i]? with
  |none=>simp[hp]at hu
  |some p=>
   cases p with
   |zero v=>simp[hp]at hs
   |slot s t=>
    simp only[hp]at hs;split at hs
    ·rename_i hm
     simp at hs;obtain⟨rfl,rfl⟩:=hs;simp[hp,yS.tree]at hu;subst hu;obtain⟨h1,h2,h3⟩:=h.slot s t (Kd hp);refine⟨fun z=>by simp[pHd,hp],(hrep.ent s t h1).2.1,h2,fun e=>hdn.1 ?_⟩;subst e;exact zAY.pSlots_mem ps i s t hp hm
    ·cases hs
 ·intro i u hu hs G2 w2 hG2
  rw[K0]at hu;unfold zG9 at hs;cases hp:ps[i]? with
  |none=>simp[hp]at hu
  |some p=>
   cases p with
   |zero v=>
    simp[hp,yS.tree]at hu;subst hu;exact zJj v [i] (h.zero v (Kd hp)) (fun z=>by rw[hG2 z];simp[pHd,hp])
   |slot s t=>
    simp only[hp]at hs;split at hs
    ·cases hs
    ·rename_i hm
     simp[hp,yS.tree]at hu;subst hu;have h1:=(hrep.ent s t (h.slot s t (Kd hp)).1).2.1;have h2:G2.hd d [i]=G.hd s []:=by have:=hG2 [];simpa[pHd,hp]using this
     cases t<;>simp[sL]at hm<;>simp only[R]at h1 ⊢ <;>rw[h2]<;>exact h1
 ·intro s p hoff
  have:s∉xS ps:=fun hin=>hoff 1 (by simp[sM,hin])
  simp[zHZ,zCL ps 0 s this]
theorem zD8(hrep:Rep Γ E G tmps w)(h:tN E d ps)(G2:Gh):∀(qs:List yS)(i0:Nat),(∀i q,qs[i]? =some q→ps[i0+i]? =some q)→(∀i z,G2.hd d (z++[i])=pHd G ps i z)→
  yF G2 d (qs.map yS.tree) [] i0=qs.flatMap (sZ G)
 | [],_,_,_=>by simp[yF]
 |q::qs,i0,hq,hG2=>by
  have h0:ps[i0]? =some q:=by simpa using hq 0 q (by simp)
  have ih:=zD8 hrep h G2 qs (i0+1) (fun i p hp=>by rw[show i0+1+i=i0+(i+1)from by omega];exact hq (i+1) p (by simpa using hp)) hG2;simp only[Ju,yF,Ln,ih]
  congr 1
  cases q with
  |slot s t=>exact zA6 t [] [i0] (fun z=>by rw[hG2];simp[pHd,h0])
  |zero u=>exact zEU u [i0] (h.zero u (Kd h0)) (fun z=>by rw[hG2];simp[pHd,h0])
end
end Go.Ab

namespace Go.Ab
open Go
section
variable {P:Program}{Γ:Ctx}{E:Env}{o:Oper}{d:Nat}
theorem zIu{G G':Gh}{w':World}{s i:Nat}{t:T}{v:Option Value}(hv:v=some (mkV G s t []))(hnt:∀xs,t≠.tup xs)(hs:∀p,G'.hd s p=G.hd s p)(hd':∀z,G'.hd d (z++[i])=G.hd s z)
  (hr:R Γ.St G' w' d t [i]):Ent Γ G' w' v s (cpT d t [i]):=by
 have hz:∀z,G'.hd s (z++[])=G'.hd d (z++[i]):=fun z=>by rw[J9,hs,hd']
 refine⟨?_,?_,qL d t [i]⟩
 ·rw[hv,zAn (G:=G') (G':=G') t [i] [] hnt hz,kD G s t [] hnt,zBz t [] [i] (fun z=>by rw[hd',J9])]
 ·exact zD3 (G:=G') (G':=G') (fun _=>rfl) t [i] [] hz hnt (yY.triv (fun _ _=>⟨rfl,rfl⟩) _) hr
theorem zAZ{G:Gh}{a:Act}{w w':World}{ps:List yS}(hrep:Rep Γ E G a.tmps w)(h:tN E d ps)(hd:d<Γ.N){cells:Array Value}{e:TypeId}(hw:w'.heap=w.heap.push (.cells cells e))
  (hcells:∀(o:Nat)(v:Value),(ps.flatMap (sZ G))[o]? =some v→cells[o]? =some v)
  (rt:T)(hdr:Value)
  (hrt:(∃k cap,rt=.sl k (ps.map yS.tree)∧(∀p∈ps,p.tree.size=k)∧hdr=.slice (some ⟨w.heap.size,0,none⟩) ps.length cap∧ps.length≤cap∧cap≤maxLen∧cells.size=cap*k)∨
   ∃p,ps=[p]∧rt=.ptr p.tree∧hdr=.pointer (some ⟨w.heap.size,0,none⟩)∧cells.size=p.tree.size)
  (ho:w'.os=w.os:=by rfl)(hq:w'.output=w.output:=by rfl):
  ∃G',Rep Γ (E.app ((d,some rt)::pWr d ps 0) ((d,0)::sM ps)) G' (a.tmps.setIfInBounds d hdr) w':=by
 obtain⟨f1,f0,f2,f3,f4,f5,f6⟩:=zFG hrep h;have hh:hdr.oneCell'=true:=by rcases hrt with⟨k,cap,_,_,rfl,_⟩|⟨p,_,_,rfl,_⟩<;>rfl
 have hdn:=Ll.1 h.dist;obtain⟨g1,g2,g3,g4,g5⟩:=zCK hrep.mem hw d (ps.map yS.tree) (zG9 ps) (zHZ ps) (pHd G ps) hdr (sM ps) f1 f2 hh f3 f4 f5
  (fun G2 hG2 o v hv=>hcells o v (by rw[zD8 hrep h G2 ps 0 (fun i q hq=>by simpa using hq) hG2]at hv;exact hv)) f6 (ho:=ho) (hq:=hq)
 refine⟨_,vF hrep (by simp) g1 g2 ?_ ?_⟩
 ·intro s hs
  simp only[Wr.find]at hs;split at hs
  ·cases hs
  ·rename_i hne
   have hns:=zCc ps d 0 s hs;refine⟨fun n hn=>?_,by rw[Jg];simp[hne]⟩;simp only[Jd,Jax.injEq,sM,Jt]at hn;rcases hn with⟨e1,_⟩|⟨y,hy,e1,_⟩
   ·exact hne e1.symm
   ·exact hns (e1▸hy)
 ·intro s t hs
  simp only[Wr.find]at hs;split at hs
  ·rename_i he
   subst he;simp at hs;subst hs;have hroot:(G.nb d w.heap.size (ps.map yS.tree) (zG9 ps) (zHZ ps) (pHd G ps) hdr).hd d []=hdr:=by simp[Gh.nb]
   have how:(G.nb d w.heap.size (ps.map yS.tree) (zG9 ps) (zHZ ps) (pHd G ps) hdr).ow w.heap.size=some (d,[]):=by simp[Gh.nb]
   refine⟨?_,?_,?_⟩
   ·rw[Jg]
    rcases hrt with⟨k,cap,rfl,_⟩|⟨p,_,rfl,_⟩<;>simp[hrep.size,hd,mkV,hroot]
   ·rcases hrt with⟨k,cap,rfl,hk,h1,h2,h3,h4⟩|⟨p,rfl,rfl,h1,h4⟩
    ·simp only[R]
     rw[hroot];refine .inr ⟨w.heap.size,cap,cells,e,by simpa using h1,g5,by simpa using h2,h3,by omega,how,?_,zQ6 _ _ _ _ _ (fun x hx=>?_) g3 g4⟩
     ·intro o ho _
      have hsz:T.sizes (ps.map yS.tree)=(ps.map yS.tree).length*k:=wT _ (fun x hx=>by obtain⟨p,hp,rfl⟩:=Jt.1 hx;exact hk p hp)
      simp[Gh.nb,zD6 (ps.map yS.tree) [] 0 o (by omega)]
     ·obtain⟨p,hp,rfl⟩:=Jt.1 hx
      exact hk p hp
    ·simp only[R]
     rw[hroot];simp only[Ju,Lw,vE,RF]at g3 g4;exact⟨w.heap.size,cells,e,h1,g5,h4,how,g3.1,g4.1⟩
   ·rcases hrt with⟨k,cap,rfl,_⟩|⟨p,rfl,rfl,_⟩
    ·simp only[Top];exact f0
    ·simp only[Top];exact f0.1
  ·rename_i hne
   obtain⟨i,u,h1,h2,h3⟩:=zCb ps d 0 s _ hs;simp only[Jf]at h3;simp at h3;subst h3;obtain⟨h4,h5,h6⟩:=h.slot s u (Kd h1);have hnt:∀xs,u≠.tup xs:=by rintro xs rfl;simp[T.okTup]at h6
   have hi:(ps.map yS.tree)[i]? =some u:=by simp[h1,yS.tree]
   have hr:=zAI _ [] 0 i u g4 hi;simp only[Jf]at hr;refine zIu (G:=G) (by rw[Jg];simp only[hne,if_false];exact(hrep.ent s u h4).1) hnt (fun p=>?_) (fun z=>?_) hr
   ·simp[Gh.nb,show s≠d from fun e=>hne e.symm]
   ·simp[Gh.nb,pHd,h1]
inductive kO (E:Env):Operand→yS→Prop where
 |slot (s:Nat) (t:T):kO E (.tmp s) (.slot s t)
 |zero (v:Value) (u:T) (h:tK u=v.cells.toList):kO E (.const v) (.zero u)
theorem zAo{G:Gh}{a:Act}{w:World}{ps:List yS}(hrep:Rep Γ E G a.tmps w)(h:tN E d ps){x:Operand}{p:yS}(hp:p∈ps)(hx:kO E x p):
  (a.eval x).cells.toList=sZ G p:=by
 cases hx with
 |slot s t=>
  obtain⟨h1,h2,h3⟩:=h.slot s t hp;obtain⟨h4,_,_⟩:=hrep.ent s t h1;rw[wK h4];cases t with
  |agg xs=>simp[mkV,Value.cells,vals,sZ]
  |tup xs=>simp[T.okTup]at h3
  |_=>
   have:=hrep.mem.one s [];simp only[mkV,vals,sZ]
   generalize G.hd s []=v at this
   cases v<;>simp[Value.oneCell',Value.cells]at this ⊢
 |zero v u h=>simp[Act.eval,h,sZ]
def uD(E:Env):List Operand→List yS→Prop
 | [],[]=>True
 |x::xs,p::ps=>kO E x p∧uD E xs ps
 |_,_=>False
theorem uD.length:(xs:List Operand)→(ps:List yS)→uD E xs ps→xs.length=ps.length
 | [],[],_=>rfl
 |_::xs,_::ps,h=>by simp[uD.length xs ps h.2]
 | [],_::_,h=>by simp[uD]at h
 |_::_,[],h=>by simp[uD]at h
theorem uD.mem:(xs:List Operand)→(ps:List yS)→uD E xs ps→ ∀x∈xs,∃p,p∈ps∧kO E x p
 | [],_,_,x,hx=>by simp at hx
 |y::xs,p::ps,h,x,hx=>by
  rcases Jd.1 hx with rfl|hx
  ·exact⟨p,by simp,h.1⟩
  ·obtain⟨q,hq,hxq⟩:=uD.mem xs ps h.2 x hx;exact⟨q,by simp[hq],hxq⟩
 |_::_,[],h,_,_=>by simp[uD]at h
theorem zGB{G:Gh}{a:Act}{w:World}{ps:List yS}(hrep:Rep Γ E G a.tmps w)(h:tN E d ps):∀(xs:List Operand)(qs:List yS),(∀q∈qs,q∈ps)→uD E xs qs→
  ((xs.map a.eval).flatMap fun v=>v.cells.toList)=qs.flatMap (sZ G)
 | [],[],_,_=>rfl
 |x::xs,q::qs,hq,hx=>by simp only[Ju,Ln,zAo hrep h (hq q (by simp)) hx.1,zGB hrep h xs qs (fun p hp=>hq p (by simp[hp])) hx.2]
 | [],_::_,_,hx=>by simp[uD]at hx
 |_::_,[],_,hx=>by simp[uD]at hx
theorem zQ7(T':TypeId)(ti:TypeInfo)(z:Value)(u:T)(ho:o.op=.alloc T')(hdst:o.dst=some d)(hd:d<Γ.N)
  (hi:P.info? T'=some ti)(hz:ti.zero=some z)(hu:u.zOk=true)(hv:tK u=z.cells.toList)(hsz:z.cells.size=u.size):
  wN P Γ o E (E.app [(d,some (.ptr u))] [(d,0)]):=by
 refine wN.value hdst fun a w G hrep=>?_
 have hps:tN E d [.zero u]:=⟨fun s t h=>by simp at h,fun v h=>by simp at h;subst h;exact hu,by simp[xS]⟩;obtain⟨G',hG'⟩:=zAZ (w':=w.alloc (.cells z.cells T')) hrep hps hd (cells:=z.cells) (e:=T') rfl (fun o v h=>by simpa[hv,sZ]using h) (.ptr u) (.pointer (some ⟨w.heap.size,0,none⟩)) (.inr ⟨.zero u,rfl,rfl,rfl,hsz⟩);refine⟨_,_,?_,G',by simpa[pWr,sM,xS]using hG'⟩;simp[execOp,ho,Instr.alloc,zeroValue,typeInfo,hi,hz,newVar,newRow]
theorem zVU(T':TypeId)(x:Operand)(p:yS)(ho:o.op=.box T' x)(hdst:o.dst=some d)(hd:d<Γ.N)(hx:kO E x p)(hps:tN E d [p]):
  wN P Γ o E (E.app ((d,some (.ptr p.tree))::pWr d [p] 0) ((d,0)::sM [p])):=by
 refine wN.value hdst fun a w G hrep=>?_
 have hc:=zAo hrep hps (by simp) hx;have hsz:(a.eval x).cells.size=p.tree.size:=by
  rw[←Kf,hc];cases p with
  |slot s t=>
   obtain⟨_,_,h3⟩:=hps.slot s t (by simp);show(vals G s t []).length=t.size;exact wS t [] (by rintro xs rfl;simp[T.okTup]at h3)
  |zero u=>exact wV u (hps.zero u (by simp))
 obtain⟨G',hG'⟩:=zAZ (w':=w.alloc (.cells (a.eval x).cells T')) hrep hps hd (cells:=(a.eval x).cells) (e:=T') rfl (fun o v h=>by rw[←K7,hc];simpa using h) (.ptr p.tree) (.pointer (some ⟨w.heap.size,0,none⟩)) (.inr ⟨p,rfl,rfl,rfl,hsz⟩)
 refine⟨_,_,?_,G',hG'⟩;simp[execOp,ho,Instr.box,newVar,newRow]
theorem zIa(t e:TypeId)(ti:TypeInfo)(z:Value)(k n:Nat)(xs:List Operand)(ps:List yS)(ho:o.op=.buildSlice t n ((xs.zipIdx 0).map fun x=>(x.2,x.1)).toArray)(hdst:o.dst=some d)(hd:d<Γ.N)
  (ht:P.underlying t=some (.slice e))(hi:P.info? e=some ti)(hz:ti.zero=some z)(hk:ti.size=k)(hk0:0<k)(hn:xs.length=n)(hn0:0<n)(hsm:n*k≤2 ^ 24)
  (hx:uD E xs ps)(hps:tN E d ps)(hsz:∀p∈ps,p.tree.size=k):
  wN P Γ o E (E.app ((d,some (.sl k (ps.map yS.tree)))::pWr d ps 0) ((d,0)::sM ps)):=by
 refine wN.value hdst fun a w G hrep=>?_
 subst hk;have hlen:xs.length=ps.length:=uD.length xs ps hx;have hc:=zGB hrep hps xs ps (fun _ h=>h) hx;have hvs:∀v∈xs.map a.eval,v.cells.size=ti.size:=by
  intro v hv;obtain⟨x,hxm,rfl⟩:=Jt.1 hv;obtain⟨p,hp,hxp⟩:=uD.mem xs ps hx x hxm;rw[←Kf,zAo hrep hps hp hxp,←hsz p hp];cases p with
  |slot s t=>
   obtain⟨_,_,h3⟩:=hps.slot s t hp;show(vals G s t []).length=t.size;exact wS t [] (by rintro xs rfl;simp[T.okTup]at h3)
  |zero u=>exact wV u (hps.zero u hp)
 have hfill:=Great.fill_whole hk0 (xs.map a.eval) ((Jci (n*ti.size)).map (z.cells[· %z.cells.size]!)) hvs (by simp[hn]);have hparts:((((xs.zipIdx 0).map fun x=>(x.2,x.1)).toArray).map fun(i,x)=>(i,a.eval x)).toList=((xs.map a.eval).zipIdx 0).map fun x=>(x.2,x.1):=by simp[List.zipIdx_map,Function.comp_def]
 have hrun:=run_buildSlice (P:=P) w t e n _ _ ti z ht hi hz (by omega) (by have:=Jbz hn0 hk0;omega) (by rw[hparts];exact hfill);have hsize:((xs.map a.eval).flatMap fun v=>v.cells.toList).toArray.size=n*ti.size:=by rw[Jc3,flat_len (k:=ti.size) _ (fun v hv=>by rw[Kf];exact hvs v hv)];simp[hn]
 obtain⟨G',hG'⟩:=zAZ (w':=w.alloc (.cells ((xs.map a.eval).flatMap fun v=>v.cells.toList).toArray e)) hrep hps hd rfl (fun o v h=>by rw[hc];simpa using h) (.sl ti.size (ps.map yS.tree)) (.slice (some ⟨w.heap.size,0,none⟩) n n) (.inl ⟨ti.size,n,rfl,hsz,by rw[←hlen,hn],by omega,by have:n≤n*ti.size:=Jbd n hk0;simp only[maxLen];omega,hsize⟩)
 refine⟨_,_,?_,G',hG'⟩;simp only[execOp,ho,Sem.run_bind,hrun,Result.andThen_ok];rfl
where
 flat_len {k:Nat} (vs:List Value) (h:∀v∈vs,v.cells.toList.length=k):(vs.flatMap fun v=>v.cells.toList).length=vs.length*k:=by
  induction vs with
  |nil=>simp
  |cons v vs ih=>simp[Ln,ih (fun u hu=>h u (by simp[hu])),Jy];have:=h v (by simp);simp at this;omega
end
end Go.Ab

namespace Go.Ab
open Go
theorem zJk{α β:Type}(f:α→List β)(x:α)(k:Nat)(hk:(f x).length=k)(hk0:0<k):∀(n o:Nat)(v:β),((J1 n x).flatMap f)[o]? =some v→o<n*k∧(f x)[o%k]? =some v
 |0,o,v,h=>by simp at h
 |n+1,o,v,h=>by
  rw[Jo,Ln,L4]at h;split at h
  ·rename_i hlt
   rw[hk]at hlt;exact⟨by rw[Jy];omega,by rw[Nat.mod_eq_of_lt hlt];exact h⟩
  ·rename_i hge
   rw[hk]at h hge;obtain⟨h1,h2⟩:=zJk f x k hk hk0 n (o-k) v h;refine⟨by rw[Jy];omega,?_⟩
   rwa [show o%k=(o-k)%k from by rw[←Nat.mod_eq_sub_mod (by omega)]]
section
variable {P:Program}{Γ:Ctx}{E:Env}{o:Oper}{d:Nat}
theorem zTE(t e:TypeId)(ti:TypeInfo)(z:Value)(u:T)(k:Nat)(x y:Operand)(n c:Nat)(kl kc:IntKind)(ho:o.op=.makeSlice t x y)(hdst:o.dst=some d)(hd:d<Γ.N)
  (ht:P.underlying t=some (.slice e))(hi:P.info? e=some ti)(hz:ti.zero=some z)(hk:ti.size=k)(hk0:0<k)(hu:u.zOk=true)(hv:tK u=z.cells.toList)(hus:u.size=k)(hb:ti.bytes≤4096)
  (hx:opT E x=some (.lit (.int kl n)))(hy:opT E y=some (.lit (.int kc c)))(hnc:n≤c)(hc:c≤68719476736):
  wN P Γ o E (E.app [(d,some (.sl k (J1 n u)))] [(d,0)]):=by
 refine wN.value hdst fun a w G hrep=>?_
 have h1:=(wO hrep hx).1;have h2:=(wO hrep hy).1;subst hk;have hps:tN E d (J1 n (.zero u)):=⟨fun s t h=>by simp at h,fun v h=>by simp at h;obtain⟨_,rfl⟩:=h;exact hu,by
  have:∀m,xS (J1 m (.zero u))=[]:=by intro m;induction m with|zero=>rfl|succ m ih=>simp[Jo,xS,ih]
  simp[this]⟩
 have hzs:z.cells.size=ti.size:=by rw[←Kf,←hv,wV u hu,hus]
 have hbytes:(ti.bytes:Int)*(c:Int)≤281474976710656:=by
  have:ti.bytes*c≤4096*68719476736:=K4 hb hc;have:((ti.bytes*c:Nat):Int)≤281474976710656:=by omega
  rwa [L5]at this
 have hrun:=run_make (P:=P) w t e ti z ht hi hz kl kc n c (by omega) (by omega) hbytes (by omega);simp only[Je]at hrun;obtain⟨G',hG'⟩:=zAZ (w':=w.alloc (.cells (madeCells z.cells (c*ti.size)) e)) hrep hps hd rfl (fun i v h=>by
  obtain⟨h3,h4⟩:=zJk (sZ G) (.zero u) ti.size (by simp[sZ,wV u hu,hus]) hk0 n i v h;have h5:i<c*ti.size:=Jbc h3 (Kg _ hnc);simp only[sZ,hv,K7]at h4;rw[←hzs]at h4;simp[madeCells,h5,getElem!_def,h4]) (.sl ti.size (J1 n u)) (.slice (some ⟨w.heap.size,0,none⟩) n c)
  (.inl ⟨ti.size,c,by simp[yS.tree],fun p hp=>by simp at hp;obtain⟨_,rfl⟩:=hp;exact hus,by simp,by simpa using hnc,by simp only[maxLen];omega,by simp[madeCells]⟩)
 refine⟨.slice (some ⟨w.heap.size,0,none⟩) n c,w.alloc (.cells (madeCells z.cells (c*ti.size)) e),?_,G',?_⟩
 ·simp only[execOp,ho,h1,h2,Sem.run_bind,hrun,Result.andThen_ok]
  rfl
 ·have h6:∀m i,pWr d (J1 m (.zero u)) i=[]:=by intro m;induction m with|zero=>intro i;rfl|succ m ih=>intro i;simp[Jo,pWr,ih]
  have h7:sM (J1 n (.zero u))=[]:=by
   have:∀m,xS (J1 m (.zero u))=[]:=by intro m;induction m with|zero=>rfl|succ m ih=>simp[Jo,xS,ih]
   simp[sM,this]
  rw[h6,h7]at hG';exact hG'
theorem zGC(t e:TypeId)(ti:TypeInfo)(k:Nat)(ho:o.op=.buildSlice t 0 #[])(hdst:o.dst=some d)(hd:d<Γ.N)
  (ht:P.underlying t=some (.slice e))(hi:P.info? e=some ti):wN P Γ o E (E.app [(d,some (.sl k []))] [(d,0)]):=by
 refine wN.value hdst fun a w G hrep=>?_
 have hps:tN E d []:=⟨fun s t h=>by simp at h,fun v h=>by simp at h,by simp[xS]⟩;obtain⟨G',hG'⟩:=zAZ (w':=w.alloc (.cells #[] e)) hrep hps hd (cells:=#[]) rfl (fun i v h=>by simp at h) (.sl k []) (.slice (some ⟨w.heap.size,0,none⟩) 0 0)
  (.inl ⟨k,0,rfl,fun p hp=>by simp at hp,rfl,Jp _,by simp[maxLen],by simp⟩)
 refine⟨_,_,?_,G',hG'⟩;have h0:(Jci 0:Array Nat)= #[]:=by rfl
 simp[execOp,ho,Instr.buildSlice,run_underlying ht,sizeOf,typeInfo,hi,Instr.fill,newRow,h0]
theorem zKv(k:Nat)(x:Operand)(ho:o.op=.move x∨o.op=.assign x)(hx:x=.const (.slice none 0 0))(hdst:o.dst=some d)(hd:d<Γ.N):wN P Γ o E (E.app [(d,some (.sl k []))] [(d,0)]):=by
 refine wN.value hdst fun a w G hrep=>?_
 refine⟨.slice none 0 0,w,?_,_,vJ hrep rfl hd (fun _=>.slice none 0 0) (fun _=>rfl) (.sl k []) (.slice none 0 0) (by simp[mkV,Gh.put]) (by simp[R,Gh.put]) (by simp[Top,xH,xW])⟩;subst hx;rcases ho with ho|ho<;>simp[execOp,ho,Act.eval]
def Gh.nv(G:Gh)(d:Nat)(src:Nat→Option (Nat×List Nat))(φ:Nat→List Nat→Option (List Nat))(f:Nat→List Nat→Value):Gh where
 hd s z:=if s=d then(match z.getLast? with
  |some i=>f i z.dropLast
  |none=>.bool false)else G.hd s z
 ad s z:=if s=d then(match z.getLast? with
  |some i=>(match src i with
   |some (x,q)=>G.ad x (z.dropLast++q)
   |none=>default)
  |none=>default)else G.ad s z
 lb b o:=match G.lb b o with
  |some (fl,s,z)=>(match φ s z with
   |some z'=>some (fl,d,z')
   |none=>some (fl,s,z))
  |none=>none
 ow b:=match G.ow b with
  |some (s,z)=>(match φ s z with
   |some z'=>some (d,z')
   |none=>some (s,z))
  |none=>none
theorem zTF{G:Gh}{a:Act}{w:World}{ps:List yS}(hrep:Rep Γ E G a.tmps w)(h:tN E d ps)(hd:d<Γ.N):
  ∃G',Rep Γ (E.app ((d,some (.agg (ps.map yS.tree)))::pWr d ps 0) ((d,0)::sM ps)) G' (a.tmps.setIfInBounds d (.agg (ps.flatMap (sZ G)).toArray)) w:=by
 obtain⟨f1,f0,f2,f3,f4,f5,f6⟩:=zFG hrep h;have hm:=hrep.mem;have hblk:Blk w w:=fun b cs e' h=>⟨cs,h,rfl⟩
 generalize hG':G.nv d (zG9 ps) (zHZ ps) (pHd G ps)=G'
 have ghd:∀i z,G'.hd d (z++[i])=pHd G ps i z:=fun i z=>by rw[←hG'];simp[Gh.nv]
 have ghd':∀s z,s≠d→G'.hd s z=G.hd s z:=fun s z hs=>by rw[←hG'];simp[Gh.nv,hs]
 have glbm:∀b o fl x z z',G.lb b o=some (fl,x,z)→zHZ ps x z=some z'→G'.lb b o=some (fl,d,z'):=fun b o fl x z z' h1 h2=>by rw[←hG'];simp[Gh.nv,h1,h2]
 have gowm:∀b x z z',G.ow b=some (x,z)→zHZ ps x z=some z'→G'.ow b=some (d,z'):=fun b x z z' h1 h2=>by rw[←hG'];simp[Gh.nv,h1,h2]
 have hne:∀s p,Off ((d,0)::sM ps) s p→s≠d:=fun s p h e=>absurd (h 0 (by simp[e])) (by simp)
 have hkeep:qP ((d,0)::sM ps) G w G' w:=by
  refine⟨fun s p h=>ghd' s p (hne s p h),fun s p h=>?_,fun b o fl s p _ hl h=>⟨?_,rfl⟩,fun b s p hl h=>?_,hblk⟩
  ·rw[←hG'];simp[Gh.nv,hne s p h]
  ·rw[←hG'];simp[Gh.nv,hl,f6 s p h]
  ·rw[←hG'];simp[Gh.nv,hl,f6 s p h]
 have hmem:Mem Γ G' w:=by
  refine⟨fun s p=>?_,fun b o l hl=>?_,fun b l hl=>?_,hm.st,hm.fr,hm.sz,hm.bk⟩
  ·rw[←hG']
   simp only[Gh.nv];split
   ·split
    ·exact f2 _ _
    ·rfl
   ·exact hm.one s p
  ·rw[←hG']at hl
   simp only[Gh.nv]at hl;split at hl
   ·rename_i hg;exact hm.lb b o _ hg
   ·cases hl
  ·rw[←hG']at hl
   simp only[Gh.nv]at hl;split at hl
   ·rename_i hg;exact hm.ow b _ hg
   ·cases hl
 have g4:RF Γ.St G' w d (ps.map yS.tree) [] 0:=by
  refine zNI _ [] 0 (fun i u hu=>?_);rw[Jf];cases hs:zG9 ps i with
  |none=>exact f5 i u hu hs G' w (fun z=>ghd i z)
  |some xq=>
   obtain⟨x,q⟩:=xq;obtain⟨h1,h2,h3,h4⟩:=f4 i u x q hu hs;refine zKu u q [i] (zCK.okTups_get _ f1 i u hu) ⟨fun z=>by rw[ghd,h1],fun z _=>by rw[←hG'];simp[Gh.nv,hs],fun b o fl z _ hl=>⟨glbm b o fl x _ _ hl (f3 i u x q z hu hs),rfl⟩,
    fun b z hl=>gowm b x _ _ hl (f3 i u x q z hu hs),hblk⟩ (yY.mono (fun _ _=>False.elim) u h3) h2
 refine⟨G',vF hrep (by simp) hkeep hmem ?_ ?_⟩
 ·intro s hs
  simp only[Wr.find]at hs;split at hs
  ·cases hs
  ·rename_i hne
   have hns:=zCc ps d 0 s hs;refine⟨fun n hn=>?_,by rw[Jg];simp[hne]⟩;simp only[Jd,Jax.injEq,sM,Jt]at hn;rcases hn with⟨e1,_⟩|⟨y,hy,e1,_⟩
   ·exact hne e1.symm
   ·exact hns (e1▸hy)
 ·intro s t hs
  simp only[Wr.find]at hs;split at hs
  ·rename_i he
   subst he;simp at hs;subst hs;refine⟨?_,by simpa only[R]using g4,by simp only[Top];exact vL.of_clean _ f0⟩;rw[Jg];simp only[hrep.size,hd,mkV,if_true];rw[zD8 hrep h G' ps 0 (fun i q hq=>by simpa using hq) ghd]
  ·rename_i hne
   obtain⟨i,u,h1,h2,h3⟩:=zCb ps d 0 s _ hs;simp only[Jf]at h3;simp at h3;subst h3;obtain⟨h4,h5,h6⟩:=h.slot s u (Kd h1);have hnt:∀xs,u≠.tup xs:=by rintro xs rfl;simp[T.okTup]at h6
   have hi:(ps.map yS.tree)[i]? =some u:=by simp[h1,yS.tree]
   have hr:=zAI _ [] 0 i u g4 hi;simp only[Jf]at hr;refine zIu (G:=G) (by rw[Jg];simp only[hne,if_false];exact(hrep.ent s u h4).1) hnt (fun p=>ghd' s p (fun e=>hne e.symm)) (fun z=>?_) hr;rw[ghd];simp[pHd,h1]
theorem zNK(off:Nat):∀(vs:List Value)(i:Nat)(cs:Array Value)(k:Nat),off+i+vs.length≤cs.size→
  ((vs.zipIdx i).foldl (fun cs(x:Value×Nat)=>cs.setIfInBounds (off+x.2) x.1) cs)[k]? =if off+i≤k∧k<off+i+vs.length then vs[k-(off+i)]? else cs[k]?
 | [],i,cs,k,_=>by simp;omega
 |v::vs,i,cs,k,h=>by
  simp only[J6]at h;simp only[List.zipIdx_cons,Gw];rw[zNK off vs (i+1) _ k (by simp;omega)]
  by_cases h1:off+(i+1)≤k∧k<off+(i+1)+vs.length
  ·rw[if_pos h1,if_pos (by simp only[J6];omega),show k-(off+i)=k-(off+(i+1))+1 from by omega,Uu]
  ·rw[if_neg h1]
   by_cases h2:k=off+i
   ·subst h2
    rw[if_pos (by simp only[J6];omega),Ku];rw[Jg];simp;omega
   ·rw[if_neg (by simp only[J6];omega),Jg,if_neg (fun e=>h2 e.symm)]
theorem zGD{pv:yS→List Value}(place:Nat→Option (Nat×Nat)):∀(vs:List (Nat×Value))(qs:List (Nat×yS))(ps:List yS)(cs:Array Value),cs.toList=ps.flatMap pv→
  (∀i p,ps[i]? =some p→place i=some (((ps.take i).flatMap pv).length,(pv p).length))→
  vs.map (·.1)=qs.map (·.1)→(∀(j:Nat)(v:Nat×Value)(q:Nat×yS),vs[j]? =some v→qs[j]? =some q→v.2.cells.toList=pv q.2∧ ∃p,ps[q.1]? =some p∧(pv p).length=(pv q.2).length)→
  ∃cs',Instr.fill place cs vs=some cs'∧cs'.toList=(qs.foldl (fun ps q=>ps.set q.1 q.2) ps).flatMap pv
 | [],[],ps,cs,hcs,_,_,_=>⟨cs,rfl,hcs⟩
 | [],_::_,_,_,_,_,h,_=>by simp at h
 |_::_,[],_,_,_,_,h,_=>by simp at h
 |(i,v)::vs,(i',q)::qs,ps,cs,hcs,hpl,hi,hq=>by
  simp only[Ju,Jc1.injEq]at hi;obtain⟨hi0,hi⟩:=hi;subst hi0;obtain⟨h1,p,h2,h3⟩:=hq 0 (i,v) (i,q) rfl rfl;dsimp only at h1 h2 h3;have hplace:=hpl i p h2;have hlt:=(Jb.1 h2).1;have hsplit:ps=ps.take i++p::ps.drop (i+1):=by rw[←(Jb.1 h2).2,←G8 hlt,Jbf]
  have hset:ps.set i q=ps.take i++q::ps.drop (i+1):=List.set_eq_take_append_cons_drop .. |>.trans (if_pos hlt);have hvl:v.cells.size=(pv p).length:=by rw[←Kf,h1,h3]
  have hcl:cs.size=((ps.take i).flatMap pv).length+((pv p).length+((ps.drop (i+1)).flatMap pv).length):=by
   rw[←Kf,hcs]
   conv=>lhs;rw[hsplit]
   simp[Lx]
  have hnew:(v.cells.zipIdx.foldl (fun cs(x:Value×Nat)=>cs.setIfInBounds (((ps.take i).flatMap pv).length+x.2) x.1) cs).toList=(ps.set i q).flatMap pv:=by
   rw[hset];simp only[Lx,Ln,←h1];apply La;intro k;rw[←Array.foldl_toList,K7,show v.cells.zipIdx.toList=v.cells.toList.zipIdx 0 from by simp,zNK _ _ 0 cs k (by have:v.cells.toList.length=v.cells.size:=(by simp);omega)];have hcs2:cs.toList=((ps.take i).flatMap pv)++(pv p++(ps.drop (i+1)).flatMap pv):=by
    rw[hcs]
    conv=>lhs;rw[hsplit]
    simp[Lx]
   have hvl2:v.cells.toList.length=(pv p).length:=by rw[h1,h3]
   rw[←K7,hcs2]
   generalize (ps.take i).flatMap pv=A
   generalize (ps.drop (i+1)).flatMap pv=B
   generalize v.cells.toList=V at hvl2
   generalize pv p=Q at hvl2
   by_cases hk:A.length≤k∧k<A.length+V.length
   ·rw[if_pos (by omega),J8 hk.1,Jm (by omega),U8]
   ·rw[if_neg (by omega)]
    by_cases hk2:k<A.length
    ·rw[Jm hk2,Jm hk2]
    ·rw[J8 (by omega),J8 (by omega),J8 (by omega),J8 (by omega),hvl2]
  have hpl':∀j p',(ps.set i q)[j]? =some p'→place j=some ((((ps.set i q).take j).flatMap pv).length,(pv p').length):=by
   intro j p' hp';have htk:(((ps.set i q).take j).flatMap pv).length=((ps.take j).flatMap pv).length:=by
    rw[hset]
    conv=>rhs;rw[hsplit]
    by_cases hj:j≤i
    ·rw[Hd (by simp;omega),Hd (by simp;omega)]
    ·rw[Jbm,Jbm]
     simp only[Lx,J5]
     congr 1
     have:j-(ps.take i).length=(j-(ps.take i).length-1)+1:=by simp;omega
     rw[this,K9,K9];simp[h3]
   by_cases hj:j=i
   ·subst hj
    rw[Uq hlt]at hp';simp at hp';subst hp';rw[hplace,←h3,htk]
   ·rw[Jad (fun e=>hj e.symm)]at hp'
    rw[hpl j p' hp',htk]
  have hq':∀(j:Nat)(x:Nat×Value)(y:Nat×yS),vs[j]? =some x→qs[j]? =some y→x.2.cells.toList=pv y.2∧ ∃p,(ps.set i q)[y.1]? =some p∧(pv p).length=(pv y.2).length:=by
   intro j x y hx hy;obtain⟨h6,p',h7,h8⟩:=hq (j+1) x y (by simpa using hx) (by simpa using hy);refine⟨h6,?_⟩
   by_cases hj:y.1=i
   ·refine⟨q,by rw[hj,Uq hlt],?_⟩
    rw[hj,h2]at h7;simp at h7;subst h7;rw[←h8,h3]
   ·exact⟨p',by rw[Jad (fun e=>hj e.symm)];exact h7,h8⟩
  obtain⟨cs',h4,h5⟩:=zGD place vs qs (ps.set i q) _ hnew hpl' hi hq';refine⟨cs',?_,by simpa using h5⟩;simp only[Instr.fill,hplace];have hno:(v.cells.size≠(pv p).length||((ps.take i).flatMap pv).length+v.cells.size> cs.size)=false:=by rw[Bool.or_eq_false_iff];exact⟨by simpa using hvl,by rw[decide_eq_false_iff_not];omega⟩
  rw[hno];exact h4
theorem vV{t:TypeId}{it:TypeInfo}{fields:Array Field}{z:Value}{places:List (Nat×Nat)}(hi:P.info? t=some it)(hu:P.underlying t=some (.struct fields))(hz:it.zero=some z)
  (hp:fields.toList.mapM (fun f=>(P.info? f.type).map fun i=>(f.offset,i.size))=some places)(parts:List (Nat×Value)):P.built t parts=Instr.fill (places.toArray[·]?) z.cells parts:=by
 simp[Program.built,hi,hu,hz,hp]
theorem zKw{t e:TypeId}{n:Nat}{it ie:TypeInfo}{z:Value}(hi:P.info? t=some it)(hu:P.underlying t=some (.array n e))(hz:it.zero=some z)
  (he:P.info? e=some ie)(parts:List (Nat×Value)):P.built t parts=Instr.fill (fun i=>some (i*ie.size,ie.size)) z.cells parts:=by
 simp[Program.built,hi,hu,hz,he]
theorem zEV{G:Gh}:(zs:List T)→(zs.map yS.zero).flatMap (sZ G)=sA zs
 | []=>rfl
 |z::zs=>by simp[sZ,sA,←zEV (G:=G) zs]
theorem zQ8(t:TypeId)(place:Nat→Option (Nat×Nat))(z:Value)(zs:List T)(pl:List (Nat×Operand))(qs:List (Nat×yS))(ps:List yS)(ho:o.op=.build t pl.toArray)(hdst:o.dst=some d)(hd:d<Γ.N)
  (hb:∀parts,P.built t parts=Instr.fill place z.cells parts)(hzv:sA zs=z.cells.toList)(hz:zAa zs=true)(hpl:∀i u,zs[i]? =some u→place i=some (T.sizes (zs.take i),u.size))
  (hps:qs.foldl (fun ps q=>ps.set q.1 q.2) (zs.map yS.zero)=ps)(hok:tN E d ps)(hix:pl.map (·.1)=qs.map (·.1))
  (hq:∀(j:Nat)(x:Nat×Operand)(q:Nat×yS),pl[j]? =some x→qs[j]? =some q→kO E x.2 q.2∧q.2∈ps∧ ∃u,zs[q.1]? =some u∧u.size=q.2.tree.size):
  wN P Γ o E (E.app ((d,some (.agg (ps.map yS.tree)))::pWr d ps 0) ((d,0)::sM ps)):=by
 refine wN.value hdst fun a w G hrep=>?_
 obtain⟨G',hG'⟩:=zTF hrep hok hd;have hsz:∀(us:List T),zAa us=true→((us.map yS.zero).flatMap (sZ G)).length=T.sizes us:=fun us h=>by rw[zEV,zAK us h]
 obtain⟨cs',h1,h2⟩:=zGD (pv:=sZ G) place (pl.map fun x=>(x.1,a.eval x.2)) qs (zs.map yS.zero) z.cells (by rw[zEV,hzv]) (fun i p hp=>by
   rw[K0]at hp;cases hu:zs[i]? with
   |none=>simp[hu]at hp
   |some u=>
    simp[hu]at hp;subst hp;rw[hpl i u hu,←Qq,hsz _ (zOks_take zs i hz),sZ,wV u (zOks_get zs hz i u hu)])
  (by simpa[Jbp,Function.comp_def]using hix) (fun j v q hv hqj=>by
   rw[K0]at hv;cases hx:pl[j]? with
   |none=>simp[hx]at hv
   |some x=>
    simp[hx]at hv;subst hv;obtain⟨h3,h4,u,h5,h6⟩:=hq j x q hx hqj;refine⟨zAo hrep hok h4 h3,.zero u,by simp[h5],?_⟩;rw[sZ,wV u (zOks_get zs hz _ u h5),h6];cases hqq:q.2 with
    |slot s t=>
     rw[hqq]at h4;obtain⟨_,_,h7⟩:=hok.slot s t h4;exact(wS t [] (by rintro xs rfl;simp[T.okTup]at h7)).symm
    |zero u'=>
     rw[hqq]at h4;exact(wV u' (hok.zero u' h4)).symm)
 rw[hps]at h2;have h3:cs'=(ps.flatMap (sZ G)).toArray:=by rw[←h2]
 refine⟨_,w,?_,G',hG'⟩;have hrun:=run_build (P:=P) w t (pl.map fun x=>(x.1,a.eval x.2)).toArray cs' (by rw[hb];exact h1);simp only[Qt,execOp,ho,Sem.run_bind]at hrun ⊢
 rw[show(List.map (fun x=>match x with|(i,x)=>(i,a.eval x)) pl)=List.map (fun x=>(x.1,a.eval x.2)) pl from rfl,hrun,h3];rfl
where
 zOks_get:(xs:List T)→zAa xs=true→ ∀(i:Nat)(x:T),xs[i]? =some x→x.zOk=true
  | [],_,_,_,h=>by simp at h
  |y::ys,hk,i,x,h=>by
   simp only[zAa,J4]at hk;cases i with
   |zero=>simp at h;subst h;exact hk.1
   |succ i=>exact zOks_get ys hk.2 i x (by simpa using h)
 zOks_take:(xs:List T)→ ∀i,zAa xs=true→zAa (xs.take i)=true
  | [],i,_=>by simp[zAa]
  |y::ys,0,_=>by simp[zAa]
  |y::ys,i+1,hk=>by
   simp only[zAa,J4,K9]at hk ⊢
   exact⟨hk.1,zOks_take ys i hk.2⟩
end
end Go.Ab

namespace Go.Ab
open Go
mutual
def vC:T→T→Bool
 |.agg xs,.agg ys=>jX xs ys
 |.agg _,_=>false
 |.tup _,_=>false
 |_,.agg _=>false
 |_,.tup _=>false
 |.any,_|.lit _,_|.ro _,_|.same _ _,_|.addr _ _,_|.sub _ _ _ _ _,_|.sl _ _,_|.ptr _,_=>true
def jX:List T→List T→Bool
 | [],[]=>true
 |x::xs,y::ys=>vC x y&&jX xs ys
 | [],_::_=>false
 |_::_,[]=>false
end
mutual
theorem zCd:(x y:T)→vC x y=true→x.size=y.size
 |.agg xs,.agg ys,h=>by simp only[vC]at h;simp only[T.size];exact zEf xs ys h
 |.agg _,.any,h|.agg _,.lit _,h|.agg _,.ro _,h|.agg _,.same _ _,h|.agg _,.addr _ _,h|.agg _,.sub _ _ _ _ _,h|.agg _,.sl _ _,h|.agg _,.ptr _,h|.agg _,.tup _,h=>by simp[vC]at h
 |.tup _,_,h=>by simp[vC]at h
 |.any,y,h|.lit _,y,h|.ro _,y,h|.same _ _,y,h|.addr _ _,y,h|.sub _ _ _ _ _,y,h|.sl _ _,y,h|.ptr _,y,h=>by cases y<;>simp[vC]at h<;>simp[T.size]
theorem zEf:(xs ys:List T)→jX xs ys=true→T.sizes xs=T.sizes ys
 | [],[],_=>rfl
 |x::xs,y::ys,h=>by simp only[jX,J4]at h;simp only[T.sizes,zCd x y h.1,zEf xs ys h.2]
 | [],_::_,h=>by simp[jX]at h
 |_::_,[],h=>by simp[jX]at h
end
section
variable {G:Gh}{w:World}{s:Nat}
mutual
theorem zJl:(t:T)→ ∀(p:List Nat)(b o j:Nat),Loc G w s t p b o→j<t.size→ ∃y,G.lb b (o+j)=some (false,s,y++p)
 |.agg xs,p,b,o,j,h,hj=>by simp only[Loc,T.size]at h hj;exact zNL xs p 0 b o j h.2 hj
 |.any,p,b,o,j,h,hj|.lit _,p,b,o,j,h,hj|.ro _,p,b,o,j,h,hj|.same _ _,p,b,o,j,h,hj|.addr _ _,p,b,o,j,h,hj|.sub _ _ _ _ _,p,b,o,j,h,hj|.sl _ _,p,b,o,j,h,hj|.ptr _,p,b,o,j,h,hj=>by
  simp only[Loc,T.size]at h hj;obtain rfl:j=0:=by omega
  exact⟨[],by simpa using h.2.1⟩
 |.tup _,_,_,_,_,h,_=>by simp only[Loc]at h
theorem zNL:(xs:List T)→ ∀(p:List Nat)(i b o j:Nat),vE G w s xs p i b o→j<T.sizes xs→ ∃y,G.lb b (o+j)=some (false,s,y++p)
 | [],_,_,_,_,_,_,hj=>by simp[T.sizes]at hj
 |x::xs,p,i,b,o,j,h,hj=>by
  simp only[vE,T.sizes]at h hj
  by_cases hlt:j<x.size
  ·obtain⟨y,hy⟩:=zJl x (i::p) b o j h.1 hlt
   exact⟨y++[i],by simpa using hy⟩
  ·obtain⟨y,hy⟩:=zNL xs p (i+1) b (o+x.size) (j-x.size) h.2 (by omega)
   rw[show o+x.size+(j-x.size)=o+j from by omega]at hy;exact⟨y,hy⟩
end
mutual
theorem zQ9{G':Gh}{w':World}:(u u0:T)→ ∀(p:List Nat)(b o:Nat),vC u u0=true→(∀y,u.inT y.reverse=true→G'.ad s (y++p)=G.ad s (y++p))→
  (∀b o y,G.lb b o=some (false,s,y++p)→G'.lb b o=some (false,s,y++p))→(∀j v,(vals G' s u p)[j]? =some v→yP w' b (o+j)=some v)→Loc G w s u0 p b o→Loc G' w' s u p b o
 |.agg xs,.agg ys,p,b,o,h,ha,hl,hc,h0=>by
  simp only[Loc,vC]at h h0 ⊢
  refine⟨by have:=ha [] rfl;rw[Ji]at this;rw[this];exact h0.1,zNM xs ys p 0 b o h (fun i x hx y hy=>?_) (fun b o y=>hl b o y) (fun j v hv=>hc j v (by simpa only[vals]using hv)) h0.2⟩;have:=ha (y++[i]) (by simp only[Hq,H0,Lg,Ji,Jq,T.inT,hx];exact hy);simpa using this
 |.agg _,.any,_,_,_,h,_,_,_,_|.agg _,.lit _,_,_,_,h,_,_,_,_|.agg _,.ro _,_,_,_,h,_,_,_,_|.agg _,.same _ _,_,_,_,h,_,_,_,_|.agg _,.addr _ _,_,_,_,h,_,_,_,_|.agg _,.sub _ _ _ _ _,_,_,_,h,_,_,_,_|.agg _,.sl _ _,_,_,_,h,_,_,_,_|.agg _,.ptr _,_,_,_,h,_,_,_,_|.agg _,.tup _,_,_,_,h,_,_,_,_=>by simp[vC]at h
 |.tup _,_,_,_,_,h,_,_,_,_=>by simp[vC]at h
 |.any,u0,p,b,o,h,ha,hl,hc,h0|.lit _,u0,p,b,o,h,ha,hl,hc,h0|.ro _,u0,p,b,o,h,ha,hl,hc,h0|.same _ _,u0,p,b,o,h,ha,hl,hc,h0|.addr _ _,u0,p,b,o,h,ha,hl,hc,h0|.sub _ _ _ _ _,u0,p,b,o,h,ha,hl,hc,h0|.sl _ _,u0,p,b,o,h,ha,hl,hc,h0|.ptr _,u0,p,b,o,h,ha,hl,hc,h0=>by have h1:=wZ (by cases u0<;>simp[vC]at h<;>rfl) h0;have h2:=ha [] rfl;rw[Ji]at h2;simp only[Loc];exact⟨h2.trans h1.1,by simpa using hl b o [] (by simpa using h1.2.1),by simpa using hc 0 (G'.hd s p) (by simp[vals])⟩
theorem zNM{G':Gh}{w':World}:(xs ys:List T)→ ∀(p:List Nat)(j b o:Nat),jX xs ys=true→(∀i x,xs[i]? =some x→ ∀y,x.inT y.reverse=true→G'.ad s (y++((j+i)::p))=G.ad s (y++((j+i)::p)))→
  (∀b o y,G.lb b o=some (false,s,y++p)→G'.lb b o=some (false,s,y++p))→(∀i v,(yF G' s xs p j)[i]? =some v→yP w' b (o+i)=some v)→vE G w s ys p j b o→vE G' w' s xs p j b o
 | [],[],_,_,_,_,_,_,_,_,_=>by simp only[vE]
 |x::xs,y::ys,p,j,b,o,h,ha,hl,hc,h0=>by
  simp only[jX,J4,vE]at h h0 ⊢
  have hs:=zCd x y h.1;have hnt:∀zs,x≠.tup zs:=by rintro zs rfl;simp[vC]at h
  refine⟨zQ9 x y (j::p) b o h.1 (fun z hz=>by simpa using ha 0 x (by simp) z hz) (fun b o z hz=>by have:=hl b o (z++[j]) (by simpa using hz);simpa using this) (fun i v hv=>hc i v ?_) h0.1,
   zNM xs ys p (j+1) b (o+x.size) h.2 (fun i z hz=>by have:=ha (i+1) z (by simpa using hz);rwa [show j+1+i=j+(i+1)from by omega]) hl (fun i v hv=>?_) (by rw[hs];exact h0.2)⟩
  ·simp only[yF]
   rw[Jm (Jb.1 hv).1];exact hv
  ·have:=hc (x.size+i) v (by
    simp only[yF];rw[J8 (by rw[wS x _ hnt];omega),wS x _ hnt,show x.size+i-x.size=i from by omega];exact hv)
   rwa [←Ls]at this
 | [],_::_,_,_,_,_,h,_,_,_,_=>by simp[jX]at h
 |_::_,[],_,_,_,_,h,_,_,_,_=>by simp[jX]at h
end
end
def zFZ(p:yS)(q:List Nat)(s:Nat)(z:List Nat):Option (List Nat):=
 match p with
 |.slot s0 t=>if sL t&&s0==s then some (z++q)else none
 |.zero _=>none
def sHd(G:Gh)(p:yS)(y:List Nat):Value:=
 match p with
 |.slot s _=>G.hd s y
 |.zero u=>jM (zhd u y.reverse)
def sWr(r:Nat)(q:List Nat):yS→Wr
 |.slot s t=>if sL t then[(s,some (cpT r t q))]else[]
 |.zero _=>[]
def Gh.st(G:Gh)(r:Nat)(q:List Nat)(p:yS):Gh where
 hd s z:=if s=r∧q<:+z then sHd G p (z.take (z.length-q.length))else G.hd s z
 ad s z:=if s=r∧q<:+z∧p.tree.inT (z.take (z.length-q.length)).reverse=false then(match p with
  |.slot s0 _=>G.ad s0 (z.take (z.length-q.length))
  |.zero _=>default)else G.ad s z
 lb b o:=match G.lb b o with
  |some (fl,s,z)=>(match zFZ p q s z with
   |some z'=>some (fl,r,z')
   |none=>some (fl,s,z))
  |none=>none
 ow b:=match G.ow b with
  |some (s,z)=>(match zFZ p q s z with
   |some z'=>some (r,z')
   |none=>some (s,z))
  |none=>none
mutual
theorem zKx{Γ:Ctx}{G:Gh}{w:World}(hm:Mem Γ G w){s:Nat}:(t:T)→ ∀(p:List Nat)(v:Value),v∈vals G s t p→v.oneCell'=true
 |.agg xs,p,v,h=>by simp only[vals]at h;exact zCM hm xs p 0 v h
 |.any,p,v,h|.lit _,p,v,h|.ro _,p,v,h|.same _ _,p,v,h|.addr _ _,p,v,h|.sub _ _ _ _ _,p,v,h|.sl _ _,p,v,h|.ptr _,p,v,h|.tup _,p,v,h=>by simp only[vals,List.mem_singleton]at h;rw[h];exact hm.one s p
theorem zCM{Γ:Ctx}{G:Gh}{w:World}(hm:Mem Γ G w){s:Nat}:(xs:List T)→ ∀(p:List Nat)(j:Nat)(v:Value),v∈yF G s xs p j→v.oneCell'=true
 | [],_,_,_,h=>by simp[yF]at h
 |x::xs,p,j,v,h=>by
  simp only[yF,Jj]at h;rcases h with h|h
  ·exact zKx hm x _ v h
  ·exact zCM hm xs p _ v h
end
mutual
theorem zEW:(u:T)→u.zOk=true→ ∀v∈tK u,v.oneCell'=true
 |.lit v,h,x,hx=>by simp only[tK,List.mem_singleton]at hx;rw[hx];exact h
 |.sl _ _,_,x,hx=>by simp only[tK,List.mem_singleton]at hx;rw[hx];rfl
 |.agg xs,h,x,hx=>by simp only[T.zOk]at h;simp only[tK]at hx;exact zGE xs h x hx
 |.any,h,_,_|.ro _,h,_,_|.same _ _,h,_,_|.addr _ _,h,_,_|.sub _ _ _ _ _,h,_,_|.ptr _,h,_,_|.tup _,h,_,_=>by simp[T.zOk]at h
theorem zGE:(xs:List T)→zAa xs=true→ ∀v∈sA xs,v.oneCell'=true
 | [],_,_,h=>by simp[sA]at h
 |x::xs,h,v,hv=>by
  simp only[zAa,J4]at h;simp only[sA,Jj]at hv;rcases hv with hv|hv
  ·exact zEW x h.1 v hv
  ·exact zGE xs h.2 v hv
end
theorem zKy(y q:List Nat):(y++q).take ((y++q).length-q.length)=y:=by simp
theorem zMz{Γ:Ctx}{G G':Gh}{w':World}{s d:Nat}{q:List Nat}{t:T}{v:Option Value}(hv:v=some (mkV G s t []))(hnt:∀xs,t≠.tup xs)(hs:∀p,G'.hd s p=G.hd s p)(hd':∀z,G'.hd d (z++q)=G.hd s z)
  (hr:R Γ.St G' w' d t q):Ent Γ G' w' v s (cpT d t q):=by
 have hz:∀z,G'.hd s (z++[])=G'.hd d (z++q):=fun z=>by rw[J9,hs,hd']
 refine⟨?_,?_,qL d t q⟩
 ·rw[hv,zAn (G:=G') (G':=G') t q [] hnt hz,kD G s t [] hnt,zBz t [] q (fun z=>by rw[hd',J9])]
 ·exact zD3 (G:=G') (G':=G') (fun _=>rfl) t q [] hz hnt (yY.triv (fun _ _=>⟨rfl,rfl⟩) _) hr
section
variable {P:Program}{Γ:Ctx}{E:Env}{o:Oper}
theorem jN:(f:List Nat)→ ∀(t u:T),yD t→yD u→yD (t.set f u)
 | [],t,u,_,hu=>by simpa[T.set]using hu
 |i::f,t,u,ht,hu=>by
  cases t with
  |sl k xs=>
   simp only[T.set];split
   ·rename_i x hx
    simp only[yD,yY]at ht ⊢
    exact sets_clean xs i _ ht (jN f x u (uL xs ht i x hx) hu)
   ·exact ht
  |agg xs=>
   simp only[T.set];split
   ·rename_i x hx
    simp only[yD,yY]at ht ⊢
    exact sets_clean xs i _ ht (jN f x u (uL xs ht i x hx) hu)
   ·exact ht
  |tup xs=>
   simp only[T.set];split
   ·rename_i x hx
    simp only[yD,yY]at ht ⊢
    exact sets_clean xs i _ ht (jN f x u (uL xs ht i x hx) hu)
   ·exact ht
  |ptr t=>
   simp only[T.set];split
   ·simp only[yD,yY]at ht ⊢
    exact jN f t u ht hu
   ·exact ht
  |_=>simpa only[T.set]using ht
where sets_clean:(xs:List T)→ ∀(i:Nat)(y:T),xH xs→yD y→xH (xs.set i y)
 | [],_,_,_,_=>by simp[xH,xW]
 |x::xs,0,y,h,hy=>by simp only[Kz,xH,xW]at h ⊢;exact⟨hy,h.2⟩
 |x::xs,i+1,y,h,hy=>by simp only[Lm,xH,xW]at h ⊢;exact⟨h.1,sets_clean xs i y h.2 hy⟩
theorem zEX(T':TypeId)(ti:TypeInfo)(x y:Operand)(r:Nat)(q:List Nat)(tr u0:T)(p:yS)(ho:o.op=.store T' x y)(hdst:o.dst=none)
  (hi:P.info? T'=some ti)(hsz:ti.size=p.tree.size)(hpos:0<ti.size)(hx:zA7 Γ E x r q)(hr:E r=some tr)(hrs:tr.single=true)(hg:tr.get q.reverse=some u0)(hl:tr.locd q.reverse=true)
  (hsh:vC p.tree u0=true)(hy:kO E y p)(hps:tN E r [p]):
  wN P Γ o E (E.app ((r,some (tr.set q.reverse p.tree))::sWr r q p) ((r,q.length)::sM [p])):=by
 refine wN.skip hdst fun a w G hrep=>?_
 have hm:=hrep.mem;have hadr:=hx a w G hrep;obtain⟨e3,e4,e5⟩:=hrep.ent r _ hr;have hq0:q≠[]:=by rintro rfl;simp[T.locd]at hl
 obtain⟨i0,f0,hqr⟩:∃i f,q.reverse=i::f:=by
  cases h:q.reverse with
  |nil=>exact absurd (by simpa using h) hq0
  |cons i f=>exact⟨i,f,rfl⟩
 have htr:∀v:T,(tr.set q.reverse v).single=true∧yD tr:=by
  intro v;rw[hqr]at hg ⊢
  cases tr with
  |sl k xs=>exact⟨by simp only[T.set];split<;>rfl,by simpa only[Top,yD,yY]using e5⟩
  |ptr t=>exact⟨by simp only[T.set];split<;>rfl,by simpa only[Top,yD,yY]using e5⟩
  |agg xs=>simp[T.single]at hrs
  |tup xs=>simp[T.single]at hrs
  |_=>simp[T.get]at hg
 obtain⟨b,ob,cs,et,hloc,hblk,hfit⟩:=(zA5 q.reverse tr u0 [] e4 hg).2 hl;simp only[rp,Km,J9]at hloc;have hru0:=(zA5 q.reverse tr u0 [] e4 hg).1;have had:=zB0 hloc;have hsu:=zCd _ _ hsh;have hc:=zAo hrep hps (by simp) hy;have hvs:(a.eval y).cells.size=p.tree.size:=by
  rw[←Kf,hc];cases p with
  |slot s t=>obtain⟨_,_,h3⟩:=hps.slot s t (by simp);exact wS t [] (by rintro xs rfl;simp[T.okTup]at h3)
  |zero u=>exact wV u (hps.zero u (by simp))
 have hone:∀v∈(a.eval y).cells.toList,v.oneCell'=true:=by
  rw[hc];intro v hv;cases p with
  |slot s t=>exact zKx hm t [] v hv
  |zero u=>exact zEW u (hps.zero u (by simp)) v hv
 generalize hw':w.setRow b (cs.toList.take ob++(a.eval y).cells.toList++cs.toList.drop (ob+(a.eval y).cells.toList.length)).toArray=w'
 have hnew:w'.heap[b]? =some (.cells (cs.toList.take ob++(a.eval y).cells.toList++cs.toList.drop (ob+(a.eval y).cells.toList.length)).toArray et (0,0)):=by rw[←hw'];exact setRow_heap w b cs _ et _ hblk
 have hold:∀b',b'≠b→w'.heap[b']? =w.heap[b']?:=fun b' h=>by rw[←hw'];exact setRow_other w b b' _ h
 have hsize:w'.heap.size=w.heap.size:=by rw[←hw'];exact size_setRow w b _
 have hcl:(a.eval y).cells.toList.length=u0.size:=by rw[Kf,hvs,hsu]
 have hcellb:∀k,yP w' b k=if ob≤k∧k<ob+u0.size then(sZ G p)[k-ob]? else yP w b k:=by
  intro k;simp only[yP,World.cell?,hnew,hblk,Q0,Ga,if_false];rw[←hc,←hcl]at*
  rw[←K7,←K7 (xs:=cs)];simp only[];have hcs:cs.toList.length=cs.size:=Kf ..
  generalize (a.eval y).cells.toList=V at*
  by_cases h1:k<ob
  ·rw[if_neg (by omega),Ja,Jm (by simp;omega),Uj h1]
  ·by_cases h2:k<ob+V.length
   ·rw[if_pos ⟨by omega,h2⟩,Ja,J8 (by simp;omega),Jm (by simp;omega)]
    congr 1;simp;omega
   ·rw[if_neg (by omega),Ja,J8 (by simp;omega),J8 (by simp;omega),Ko]
    congr 1;simp;omega
 have hcellr:∀b' o' fl s z,G.lb b' o'=some (fl,s,z)→ ¬(s=r∧q<:+z)→yP w' b' o'=yP w b' o':=by
  intro b' o' fl s z h1 h2
  by_cases hb:b'=b
  ·subst hb
   rw[hcellb];split
   ·rename_i h3
    obtain⟨y',h4⟩:=zJl u0 q b' ob (o'-ob) hloc (by omega);rw[show ob+(o'-ob)=o' from by omega,h1]at h4;simp at h4;exact absurd ⟨h4.2.1,y',h4.2.2.symm⟩ h2
   ·rfl
  ·simp[yP,World.cell?,hold b' hb]
 have hblk':Blk w w':=by
  intro b' cs' e' h1
  by_cases hb:b'=b
  ·subst hb
   rw[hblk]at h1;simp at h1;obtain⟨rfl,rfl⟩:=h1;exact⟨_,hnew,by simp;have:cs.toList.length=cs.size:=Kf ..;omega⟩
  ·exact⟨cs',by rw[hold b' hb];exact h1,rfl⟩
 generalize hG':G.st r q p=G'
 have ghd:∀y',G'.hd r (y'++q)=sHd G p y':=fun y'=>by rw[←hG'];simp[Gh.st]
 have ghd':∀s z,¬(s=r∧q<:+z)→G'.hd s z=G.hd s z:=fun s z h=>by rw[←hG'];simp only[Gh.st];rw[if_neg h]
 have gad:∀s z,¬(s=r∧q<:+z)→G'.ad s z=G.ad s z:=fun s z h=>by rw[←hG'];simp only[Gh.st];rw[if_neg (fun h2=>h ⟨h2.1,h2.2.1⟩)]
 have gadf:∀y',p.tree.inT y'.reverse=true→G'.ad r (y'++q)=G.ad r (y'++q):=fun y' h=>by rw[←hG'];simp only[Gh.st,zKy];rw[if_neg (by simp[h])]
 have gadm:∀s0 t y',p=.slot s0 t→t.inT y'.reverse=false→G'.ad r (y'++q)=G.ad s0 y':=fun s0 t y' h1 h2=>by subst h1;rw[←hG'];simp only[Gh.st,zKy,yS.tree];rw[if_pos];simp[h2]
 have glb:∀b' o' fl s z,G.lb b' o'=some (fl,s,z)→zFZ p q s z=none→G'.lb b' o'=some (fl,s,z):=fun b' o' fl s z h1 h2=>by rw[←hG'];simp[Gh.st,h1,h2]
 have glbm:∀b' o' fl s z z',G.lb b' o'=some (fl,s,z)→zFZ p q s z=some z'→G'.lb b' o'=some (fl,r,z'):=fun b' o' fl s z z' h1 h2=>by rw[←hG'];simp[Gh.st,h1,h2]
 have gow:∀b' s z,G.ow b'=some (s,z)→zFZ p q s z=none→G'.ow b'=some (s,z):=fun b' s z h1 h2=>by rw[←hG'];simp[Gh.st,h1,h2]
 have gowm:∀b' s z z',G.ow b'=some (s,z)→zFZ p q s z=some z'→G'.ow b'=some (r,z'):=fun b' s z z' h1 h2=>by rw[←hG'];simp[Gh.st,h1,h2]
 have hphi:∀s z,(∀n,(s,n)∉(r,q.length)::sM [p])→zFZ p q s z=none:=by
  intro s z h;cases p with
  |zero u=>rfl
  |slot s0 t=>
   simp only[zFZ];rw[if_neg];intro h2;simp only[J4,beq_iff_eq]at h2;obtain⟨h3,rfl⟩:=h2;exact h 1 (by simp[sM,xS,h3])
 have hphir:∀z,zFZ p q r z=none:=by
  intro z;cases p with
  |zero u=>rfl
  |slot s0 t=>
   simp only[zFZ];rw[if_neg];intro h2;simp only[J4,beq_iff_eq]at h2;obtain⟨h3,rfl⟩:=h2;have:=(Ll.1 hps.dist).1;simp[xS,h3]at this
 have hoffq:∀s z,Off ((r,q.length)::sM [p]) s z→ ¬(s=r∧q<:+z):=by
  rintro s z h ⟨rfl,h2⟩
  have:=h q.length (by simp);have:=h2.length_le;omega
 have hkeep:qP ((r,q.length)::sM [p]) G w G' w':=by
  refine⟨fun s z h=>ghd' s z (hoffq s z h),fun s z h=>gad s z (hoffq s z h),fun b' o' fl s z _ h1 h2=>⟨glb b' o' fl s z h1 (hphi s z h2),hcellr b' o' fl s z h1 ?_⟩,fun b' s z h1 h2=>gow b' s z h1 (hphi s z h2),hblk'⟩
  rintro⟨rfl,_⟩
  exact h2 q.length (by simp)
 have hBb:zBY Γ w b:=by obtain⟨y',h4⟩:=zJl u0 q b ob 0 hloc (by omega);exact hm.lb _ _ _ h4
 have hmem:Mem Γ G' w':=by
  refine⟨fun s z=>?_,fun b' o' l hl=>?_,fun b' l hl=>?_,fun b' x' hx'=>?_,fun b' h1 h2=>?_,by rw[hsize];exact hm.sz,hm.bk.trans hblk' (by rw[←hw'];rfl) (by rw[←hw'];rfl)⟩
  ·by_cases h:s=r∧q<:+z
   ·obtain⟨rfl,y',rfl⟩:=h
    rw[ghd];unfold sHd;split
    ·exact hm.one _ _
    ·exact zAW _
   ·rw[ghd' s z h];exact hm.one s z
  ·have:∃l',G.lb b' o'=some l':=by
    rw[←hG']at hl;simp only[Gh.st]at hl;split at hl
    ·exact⟨_,by assumption⟩
    ·cases hl
   obtain⟨l',hl'⟩:=this;have:=hm.lb b' o' l' hl';exact⟨by rw[hsize];exact this.1,this.2⟩
  ·have:∃l',G.ow b'=some l':=by
    rw[←hG']at hl;simp only[Gh.st]at hl;split at hl
    ·exact⟨_,by assumption⟩
    ·cases hl
   obtain⟨l',hl'⟩:=this;have:=hm.ow b' l' hl';exact⟨by rw[hsize];exact this.1,this.2⟩
  ·have hb:b'≠b:=by rintro rfl;rw[hBb.2.2]at hx';cases hx'
   rw[hold b' hb];exact hm.st b' x' hx'
  ·have hb:b'≠b:=by
    rintro rfl
    rcases hBb.2.1 with h3|h3
    ·omega
    ·exact h2 h3
   rw[hold b' hb];exact hm.fr b' h1 h2
 have hupd:Upd G w G' w' r q:=by refine⟨fun z h=>ghd' r z (fun h2=>h h2.2),fun z h=>gad r z (fun h2=>h h2.2),fun b' o' fl z h1 h=>⟨glb b' o' fl r z h1 (hphir z),hcellr b' o' fl r z h1 (fun h2=>h h2.2)⟩,fun b' z h1 _=>gow b' r z h1 (hphir z),hblk'⟩
 have hru:R Γ.St G' w' r p.tree q:=by
  cases hp:p with
  |zero u=>
   refine zJj u q (hps.zero u (by simp[hp])) (fun z=>by rw[ghd];simp[sHd,hp])
  |slot s0 t=>
   obtain⟨h1,h2,h3⟩:=hps.slot s0 t (by simp[hp]);have hrt:=(hrep.ent s0 t h1).2.1
   by_cases hmv:sL t=true
   ·have hs0r:s0≠r:=by
     rintro rfl
     have:=(Ll.1 hps.dist).1;simp[hp,xS,hmv]at this
    refine zKu t [] q h3 ⟨fun z=>by rw[ghd,J9];simp[sHd,hp],fun z hz=>by rw[J9];exact gadm s0 t z hp hz,fun b' o' fl z _ h4=>?_,fun b' z h4=>?_,hblk'⟩ (yY.mono (fun _ _=>False.elim) t h2) hrt
    ·rw[J9]at h4
     exact⟨glbm b' o' fl s0 z _ h4 (by simp[zFZ,hp,hmv]),hcellr b' o' fl s0 z h4 (fun h5=>hs0r h5.1)⟩
    ·rw[J9]at h4
     exact gowm b' s0 z _ h4 (by simp[zFZ,hp,hmv])
   ·have hh:G'.hd r q=G.hd s0 []:=by have:=ghd [];rw[Ji]at this;rw[this];simp[sHd,hp]
    cases t<;>simp[sL]at hmv<;>simp only[R,yS.tree]at hrt ⊢ <;>rw[hh]<;>exact hrt
 have hvals:vals G' r p.tree q=sZ G p:=by
  cases hp:p with
  |zero u=>exact zEU u q (hps.zero u (by simp[hp])) (fun z=>by rw[ghd];simp[sHd,hp])
  |slot s0 t=>exact zA6 t [] q (fun z=>by rw[ghd];simp[sHd,hp])
 have hlocu:∀b' o',Loc G w r u0 q b' o'→Loc G' w' r p.tree q b' o':=by
  intro b' o' h1;have h2:b'=b∧o'=ob:=by have:=(zB0 h1).symm.trans had;simp at this;exact this
  obtain⟨rfl,rfl⟩:=h2;refine zQ9 p.tree u0 q b' o' hsh (fun y' h=>gadf y' h) (fun b2 o2 y' h=>glb b2 o2 false r _ h (hphir _)) (fun j v hv=>?_) h1;rw[hvals]at hv;have hj:=(Jb.1 hv).1;have hpl:(sZ G p).length=u0.size:=by rw[←hc,hcl]
  rw[hcellb,if_pos ⟨by omega,by omega⟩,show o'+j-o'=j from by omega];exact hv
 have hrset:R Γ.St G' w' r (tr.set q.reverse p.tree) []:=by
  have hrp:rp q.reverse []=q:=by simp[rp]
  refine zFD q.reverse tr p.tree u0 [] (by rw[hrp];exact hupd) e4 hg hsu (yY.mono (fun _ _=>False.elim) tr (htr .any).2) (by rw[hrp];exact hlocu) (by rw[hrp];exact hru)
 have hst:=run_storeCells_at P b ob et (a.eval y).cells.toList 0 cs w hblk (by omega) hone;simp only[U8]at hst;rw[hw']at hst;refine⟨w',?_,G',vF hrep rfl hkeep hmem ?_ ?_⟩
 ·have hszv:(a.eval y).cells.size=ti.size:=by rw[hvs,hsz]
  simp[execOp,ho,hadr,had,Instr.storeAt,tV,storeVar,sizeOf,typeInfo,hi,hszv,hst]
 ·intro s hs
  simp only[Wr.find]at hs;split at hs
  ·cases hs
  ·rename_i hne
   refine⟨fun n hn=>?_,rfl⟩;simp only[Jd,Jax.injEq]at hn;rcases hn with⟨h1,_⟩|hn
   ·exact hne h1.symm
   ·cases p with
    |zero u=>simp[sM,xS]at hn
    |slot s0 t=>
     by_cases hmv:sL t=true
     ·simp[sM,xS,hmv]at hn
      simp[sWr,hmv,Wr.find,hn.1.symm]at hs
     ·simp[sM,xS,hmv]at hn
 ·intro s t hs
  simp only[Wr.find]at hs;split at hs
  ·rename_i he
   subst he;simp at hs;subst hs;refine⟨?_,hrset,Top.of_clean _ (jN _ _ _ (htr .any).2 ?_)⟩
   ·rw[e3,xP (htr p.tree).1,xP hrs]
    congr 1
    exact(ghd' r [] (fun h=>hq0 (by simpa using h.2))).symm
   ·cases p with
    |zero u=>exact(zAX u (hps.zero u (by simp))).1
    |slot s0 t=>exact(hps.slot s0 t (by simp)).2.1
  ·rename_i hne
   cases hp:p with
   |zero u=>simp[sWr,hp,Wr.find]at hs
   |slot s0 t0=>
    by_cases hmv:sL t0=true
    ·simp only[sWr,hp,hmv,if_true,Wr.find]at hs
     split at hs
     ·rename_i he
      subst he;simp at hs;subst hs;obtain⟨h1,h2,h3⟩:=hps.slot s0 t0 (by simp[hp]);refine zMz (G:=G) (hrep.ent s0 t0 h1).1 (by rintro xs rfl;simp[T.okTup]at h3) (fun z=>ghd' s0 z (fun h=>hne h.1.symm)) (fun z=>by rw[ghd];simp[sHd,hp]) (by rw[hp]at hru;exact hru)
     ·cases hs
    ·simp[sWr,hp,hmv,Wr.find]at hs
theorem zKz(T':TypeId)(ti:TypeInfo)(x y:Operand)(r:Nat)(q:List Nat)(tr u0:T)(p:yS)(ho:o.op=.store T' x y)(hdst:o.dst=none)
  (hi:P.info? T'=some ti)(hsz:ti.size=p.tree.size)(hpos:0<ti.size)(hx:opT E x=some (.addr r q))(hr:E r=some tr)(hrs:tr.single=true)(hg:tr.get q.reverse=some u0)(hl:tr.locd q.reverse=true)
  (hsh:vC p.tree u0=true)(hy:kO E y p)(hps:tN E r [p]):
  wN P Γ o E (E.app ((r,some (tr.set q.reverse p.tree))::sWr r q p) ((r,q.length)::sM [p])):=
 zEX T' ti x y r q tr u0 p ho hdst hi hsz hpos (zA7.addr hx) hr hrs hg hl hsh hy hps
end
end Go.Ab

namespace Go.Ab
open Go
section
variable {G G':Gh}{s:Nat}
theorem zM0(xs:List T):∀(p:List Nat)(j:Nat),(∀k,j≤k→ ∀z,G'.hd s (z++(k::p))=G.hd s (z++(k::p)))→yF G' s xs p j=yF G s xs p j:=by
 induction xs with
 |nil=>intros;simp only[yF]
 |cons z zs ih=>
  intro p j h;simp only[yF];rw[zA6 z (j::p) (j::p) (h j (Jp _)),ih p (j+1) (fun k hk=>h k (by omega))]
theorem zPd(xs:List T):∀(p:List Nat)(j i:Nat)(x y:T),xs[i]? =some x→(∀k,k≠j+i→ ∀z,G'.hd s (z++(k::p))=G.hd s (z++(k::p)))→
  vals G' s y ((j+i)::p)=vals G s x ((j+i)::p)→yF G' s (xs.set i y) p j=yF G s xs p j:=by
 induction xs with
 |nil=>intro p j i x y h;simp at h
 |cons z zs ih=>
  intro p j i x y h hz hy;cases i with
  |zero=>
   simp at h;subst h;simp only[Kz,yF];rw[show vals G' s y (j::p)=vals G s z (j::p)from by simpa using hy]
   congr 1
   exact zM0 zs p (j+1) (fun k hk=>hz k (by omega))
  |succ i=>
   simp only[Lm,yF];rw[zA6 z (j::p) (j::p) (hz j (by omega)),ih p (j+1) i x y (by simpa using h) (fun k hk=>hz k (by omega)) (by rwa [show j+1+i=j+(i+1)from by omega])]
theorem zK0:(f:List Nat)→ ∀(t u u0:T)(p:List Nat),t.get f=some u0→u0.single=true→u.single=true→(∀z,(rp f p<:+z→z=rp f p)→G'.hd s z=G.hd s z)→vals G' s (t.set f u) p=vals G s t p
 | [],t,u,u0,p,hg,h0,h1,hh=>by simp[T.get]at hg;subst hg;have:G'.hd s p=G.hd s p:=hh p (by simp[rp]);simp only[T.set];cases t<;>simp[T.single]at h0<;>cases u<;>simp[T.single]at h1<;>simp[vals,this]
 |i::f,t,u,u0,p,hg,h0,h1,hh=>by
  rw[zA4]at hh;have hp:G'.hd s p=G.hd s p:=hh p (fun h=>absurd h jW);cases t with
  |agg xs=>
   simp only[T.get]at hg;cases hx:xs[i]? with
   |none=>simp[hx]at hg
   |some x=>
    rw[hx]at hg;simp only[T.set,hx,vals];refine zPd xs p 0 i x _ hx (fun k hk z=>hh _ (fun h=>absurd h (jK (by omega) z))) ?_;rw[Jf];exact zK0 f x u u0 (i::p) hg h0 h1 hh
  |tup xs=>
   simp only[T.get]at hg;cases hx:xs[i]? with
   |none=>simp[hx]at hg
   |some x=>simp[T.set,hx,vals,hp]
  |sl k xs=>simp only[T.set];split<;>simp[vals,hp]
  |ptr t=>simp only[T.set];split<;>simp[vals,hp]
  |_=>simp[T.get]at hg
theorem zK1(f:List Nat)(t u u0:T)(p:List Nat)(hg:t.get f=some u0)(h0:u0.single=true)(h1:u.single=true)(hh:∀z,(rp f p<:+z→z=rp f p)→G'.hd s z=G.hd s z)(hnt:∀xs,t≠.tup xs):
  tZ G' s (t.set f u) p=tZ G s t p:=by
 have h:=zK0 f t u u0 p hg h0 h1 hh;cases f with
 |nil=>
  simp[T.get]at hg;subst hg;have:G'.hd s p=G.hd s p:=hh p (by simp[rp]);simp only[T.set];cases t<;>simp[T.single]at h0<;>cases u<;>simp[T.single]at h1<;>simp[tZ,this]
 |cons i f=>
  rw[zA4]at hh;have hp:G'.hd s p=G.hd s p:=hh p (fun h=>absurd h jW);cases t with
  |agg xs=>
   simp only[T.get]at hg;cases hx:xs[i]? with
   |none=>simp[hx]at hg
   |some x=>simp only[T.set,hx,vals]at h ⊢;simp only[tZ,h]
  |tup xs=>exact absurd rfl (hnt xs)
  |sl k xs=>simp only[T.set];split<;>simp[tZ,hp]
  |ptr t=>simp only[T.set];split<;>simp[tZ,hp]
  |_=>simp[T.get]at hg
theorem zPe(xs:List T):∀(p:List Nat)(j:Nat),(∀k,j≤k→ ∀z,G'.hd s (z++(k::p))=G.hd s (z++(k::p)))→qW G' s xs p j=qW G s xs p j:=by
 induction xs with
 |nil=>intros;simp only[qW]
 |cons z zs ih=>
  intro p j h;simp only[qW];rw[zBz z (j::p) (j::p) (h j (Jp _)),ih p (j+1) (fun k hk=>h k (by omega))]
theorem zQA(xs:List T):∀(p:List Nat)(j i:Nat)(x y:T),xs[i]? =some x→(∀k,k≠j+i→ ∀z,G'.hd s (z++(k::p))=G.hd s (z++(k::p)))→
  tZ G' s y ((j+i)::p)=tZ G s x ((j+i)::p)→qW G' s (xs.set i y) p j=qW G s xs p j:=by
 induction xs with
 |nil=>intro p j i x y h;simp at h
 |cons z zs ih=>
  intro p j i x y h hz hy;cases i with
  |zero=>
   simp at h;subst h;simp only[Kz,qW];rw[show tZ G' s y (j::p)=tZ G s z (j::p)from by simpa using hy]
   congr 1
   exact zPe zs p (j+1) (fun k hk=>hz k (by omega))
  |succ i=>
   simp only[Lm,qW];rw[zBz z (j::p) (j::p) (hz j (by omega)),ih p (j+1) i x y (by simpa using h) (fun k hk=>hz k (by omega)) (by rwa [show j+1+i=j+(i+1)from by omega])]
def xY:T→Bool
 |.tup xs=>xs.all fun x=>match x with
  |.tup _=>false
  |_=>true
 |_=>true
theorem zJm(f:List Nat)(t u u0:T)(p:List Nat)(hg:t.get f=some u0)(h0:u0.single=true)(h1:u.single=true)(hh:∀z,(rp f p<:+z→z=rp f p)→G'.hd s z=G.hd s z)(hcomp:xY t=true):
  mkV G' s (t.set f u) p=mkV G s t p:=by
 by_cases ht:∃xs,t=.tup xs
 ·obtain⟨xs,rfl⟩:=ht
  cases f with
  |nil=>simp[T.get]at hg;subst hg;simp[T.single]at h0
  |cons i f=>
   rw[zA4]at hh;simp only[T.get]at hg;cases hx:xs[i]? with
   |none=>simp[hx]at hg
   |some x=>
    rw[hx]at hg;simp only[T.set,hx,mkV];rw[zQA xs p 0 i x _ hx (fun k hk z=>hh _ (fun h=>absurd h (jK (by omega) z)))];rw[Jf];refine zK1 f x u u0 (i::p) hg h0 h1 hh ?_
    rintro ys rfl
    simp only[xY]at hcomp;have:=Kh.1 hcomp _ (Kd hx);simp at this
 ·have hnt:∀xs,t≠.tup xs:=fun xs e=>ht ⟨xs,e⟩
  rw[kD G s t p hnt,←zK1 f t u u0 p hg h0 h1 hh hnt];refine kD G' s _ p ?_
  rintro xs hxs
  cases f with
  |nil=>simp[T.get]at hg;subst hg;simp only[T.set]at hxs;subst hxs;simp[T.single]at h1
  |cons i f=>cases t<;>simp only[T.set]at hxs<;>first|exact absurd rfl (hnt _)|(split at hxs<;>cases hxs)|cases hxs
end
theorem zEg:(f:List Nat)→ ∀(t u:T),Top t→yD u→Top (t.set f u)
 | [],t,u,_,hu=>by simpa[T.set]using Top.of_clean u hu
 |i::f,t,u,ht,hu=>by
  cases t with
  |sl k xs=>
   refine Top.of_clean _ (jN (i::f) _ u (by simpa only[Top,yD,yY]using ht) hu)
  |ptr t=>exact Top.of_clean _ (jN (i::f) _ u (by simpa only[Top,yD,yY]using ht) hu)
  |agg xs=>
   simp only[T.set];split
   ·rename_i x hx
    simp only[Top]at ht ⊢
    exact tops_set xs i _ ht (zEg f x u (tops_get xs ht i x hx) hu)
   ·exact ht
  |tup xs=>
   simp only[T.set];split
   ·rename_i x hx
    simp only[Top]at ht ⊢
    exact tops_set xs i _ ht (zEg f x u (tops_get xs ht i x hx) hu)
   ·exact ht
  |_=>simpa only[T.set]using ht
where
 tops_set:(xs:List T)→ ∀(i:Nat)(y:T),vL xs→Top y→vL (xs.set i y)
  | [],_,_,_,_=>by simp[vL]
  |x::xs,0,y,h,hy=>by simp only[Kz,vL]at h ⊢;exact⟨hy,h.2⟩
  |x::xs,i+1,y,h,hy=>by simp only[Lm,vL]at h ⊢;exact⟨h.1,tops_set xs i y h.2 hy⟩
 tops_get:(xs:List T)→vL xs→ ∀(i:Nat)(x:T),xs[i]? =some x→Top x
  | [],_,_,_,h=>by simp at h
  |y::ys,hk,i,x,h=>by
   simp only[vL]at hk;cases i with
   |zero=>simp at h;subst h;exact hk.1
   |succ i=>exact tops_get ys hk.2 i x (by simpa using h)
def Gh.tr(G:Gh)(d:Nat)(g:List Nat)(r:Nat)(p:List Nat):Gh where
 hd s z:=if s=d∧g<:+z then G.hd r (z.take (z.length-g.length)++p)else G.hd s z
 ad s z:=if s=d∧g<:+z∧z≠g then G.ad r (z.take (z.length-g.length)++p)else G.ad s z
 lb b o:=match G.lb b o with
  |some (fl,s,z)=>if s=r∧p<:+z∧(fl=true∨z≠p)then some (fl,d,z.take (z.length-p.length)++g)else some (fl,s,z)
  |none=>none
 ow b:=match G.ow b with
  |some (s,z)=>if s=r∧p<:+z then some (d,z.take (z.length-p.length)++g)else some (s,z)
  |none=>none
theorem zFH{t:T}(h:t.single=true):t.size=1:=by cases t<;>simp[T.single]at h<;>simp[T.size]
theorem zGF{Γ:Ctx}{E:Env}{G:Gh}{tmps:Array Value}{w:World}(hrep:Rep Γ E G tmps w)(d:Nat)(g:List Nat)(r:Nat)(p:List Nat)(td tr u v0:T)(hd:E d=some td)(hg:td.get g.reverse=some v0)(hv0:v0.single=true)(hsame:G.hd d g=G.hd r p)(hr:E r=some tr)
  (hp:tr.get p.reverse=some u)(hu:u.single=true)(huc:yD u)(hdr:d≠r)(hok1:td.okB [(d,g.length+1),(r,p.length+1)]=true)(hok2:tr.okB [(d,g.length+1),(r,p.length+1)]=true)(hc1:xY td=true)(hc2:xY tr=true):
  Rep Γ (E.app [(d,some (td.set g.reverse u)),(r,some (if p=[]then .same d g else tr.set p.reverse .any))] [(d,g.length+1),(r,p.length+1)]) (G.tr d g r p) tmps w∧ ∀s z,¬(s=d∧g<:+z∧z≠g)→(G.tr d g r p).hd s z=G.hd s z:=by
 obtain⟨d1,d2,d3⟩:=hrep.ent d td hd;obtain⟨r1,r2,r3⟩:=hrep.ent r tr hr;have hm:=hrep.mem;have hru:=(zA5 p.reverse tr u [] r2 hp).1;simp only[rp,Km,J9]at hru;have hblk:Blk w w:=fun b cs e' h=>⟨cs,h,rfl⟩
 generalize hG':G.tr d g r p=G'
 have ghd:∀z,G'.hd d (z++g)=G.hd r (z++p):=fun z=>by rw[←hG'];simp[Gh.tr]
 have ghd0:∀s z,¬(s=d∧g<:+z∧z≠g)→G'.hd s z=G.hd s z:=by
  intro s z h;rw[←hG'];simp only[Gh.tr]
  by_cases h2:s=d∧g<:+z
  ·have h3:z=g:=by
    rcases Decidable.em (z=g)with e|e
    ·exact e
    ·exact absurd ⟨h2.1,h2.2,e⟩ h
   subst h3;rw[if_pos h2,h2.1];simpa using hsame.symm
  ·rw[if_neg h2]
 have gad0:∀s z,¬(s=d∧g<:+z∧z≠g)→G'.ad s z=G.ad s z:=fun s z h=>by rw[←hG'];simp only[Gh.tr];rw[if_neg h]
 have gad:∀z,z≠[]→G'.ad d (z++g)=G.ad r (z++p):=fun z h=>by rw[←hG'];simp only[Gh.tr];rw[if_pos (by simpa using h)];simp
 have glb0:∀b o fl s z,G.lb b o=some (fl,s,z)→ ¬(s=r∧p<:+z∧(fl=true∨z≠p))→G'.lb b o=some (fl,s,z):=fun b o fl s z h1 h2=>by rw[←hG'];simp only[Gh.tr,h1];rw[if_neg h2]
 have glb:∀b o fl z,G.lb b o=some (fl,r,z++p)→(fl=true∨z≠[])→G'.lb b o=some (fl,d,z++g):=fun b o fl z h1 h2=>by rw[←hG'];simp only[Gh.tr,h1];rw[if_pos (by simpa using h2)];simp
 have gow0:∀b s z,G.ow b=some (s,z)→ ¬(s=r∧p<:+z)→G'.ow b=some (s,z):=fun b s z h1 h2=>by rw[←hG'];simp only[Gh.tr,h1];rw[if_neg h2]
 have gow:∀b z,G.ow b=some (r,z++p)→G'.ow b=some (d,z++g):=fun b z h1=>by rw[←hG'];simp only[Gh.tr,h1];rw[if_pos (by simp)];simp
 have hoff:∀s z,Off [(d,g.length+1),(r,p.length+1)] s z→ ¬(s=d∧g<:+z∧z≠g):=by
  rintro s z h ⟨rfl,⟨y,rfl⟩,h3⟩
  have:=h (g.length+1) (by simp);have:y=[]:=Kb (by simp at this;omega);exact h3 (by simp[this])
 have hkeep:qP [(d,g.length+1),(r,p.length+1)] G w G' w:=by
  refine⟨fun s z h=>ghd0 s z (hoff s z h),fun s z h=>gad0 s z (hoff s z h),fun b o fl s z _ h1 h2=>⟨glb0 b o fl s z h1 ?_,rfl⟩,fun b s z h1 h2=>gow0 b s z h1 ?_,hblk⟩
  ·rintro⟨rfl,_⟩;exact h2 (p.length+1) (by simp)
  ·rintro⟨rfl,_⟩;exact h2 (p.length+1) (by simp)
 have hmem:Mem Γ G' w:=by
  refine⟨fun s z=>?_,fun b o l hl=>?_,fun b l hl=>?_,hm.st,hm.fr,hm.sz,hm.bk⟩
  ·rw[←hG']
   simp only[Gh.tr];split
   ·exact hm.one _ _
   ·exact hm.one _ _
  ·have:∃l',G.lb b o=some l':=by
    rw[←hG']at hl;simp only[Gh.tr]at hl;split at hl
    ·exact⟨_,by assumption⟩
    ·cases hl
   obtain⟨l',hl'⟩:=this;exact hm.lb b o l' hl'
  ·have:∃l',G.ow b=some l':=by
    rw[←hG']at hl;simp only[Gh.tr]at hl;split at hl
    ·exact⟨_,by assumption⟩
    ·cases hl
   obtain⟨l',hl'⟩:=this;exact hm.ow b l' hl'
 have hrp:∀q:List Nat,rp q.reverse []=q:=fun q=>by simp[rp]
 have hud:R Γ.St G' w d u g:=by
  refine kX (G:=G) (w:=w) (s:=r) (p:=p) ⟨⟨ghd,gad,fun b o f z hz _ hl=>⟨glb b o f z hl (.inr hz),rfl⟩,fun b z _ hl=>gow b z hl,hblk⟩,fun b o _ hl=>⟨by simpa using glb b o true [] (by simpa using hl) (.inl rfl),rfl⟩,fun b hl=>by simpa using gow b [] (by simpa using hl)⟩ u
   (yY.mono (fun _ _=>False.elim) u huc) hru
 have hupdd:Upd G w G' w d g:=⟨fun z h=>ghd0 d z (fun h2=>h h2.2.1),fun z h=>gad0 d z (fun h2=>h h2.2.1),fun b o f z h1 _=>⟨glb0 b o f d z h1 (fun h2=>hdr h2.1),rfl⟩,fun b z h1 _=>gow0 b d z h1 (fun h2=>hdr h2.1),hblk⟩;have hlocd:∀b o,Loc G w d v0 g b o→Loc G' w d u g b o:=by intro b o h1;obtain⟨h2,h3,h4⟩:=wZ hv0 h1;have h5:G'.ad d g=⟨b,o,none⟩∧G'.lb b o=some (false,d,g)∧yP w b o=some (G'.hd d g):=⟨(gad0 d g (fun h=>h.2.2 rfl)).trans h2,glb0 b o false d g h3 (fun h=>hdr h.1),by rw[h4,ghd0 d g (fun h=>h.2.2 rfl)]⟩;cases u<;>simp[T.single]at hu<;>simpa only[Loc]using h5
 have hRd:R Γ.St G' w d (td.set g.reverse u) []:=
  zFD g.reverse td u v0 [] (by rw[hrp];exact hupdd) d2 hg (by rw[zFH hv0,zFH hu]) (hkeep.keepR (kY td d3 hok1)) (by rw[hrp];exact hlocd) (by rw[hrp];exact hud)
 have hVd:mkV G' d (td.set g.reverse u) []=mkV G d td []:=
  zJm g.reverse td u v0 [] hg hv0 hu (fun z hz=>ghd0 d z (fun h2=>h2.2.2 (by rw[hrp]at hz;exact hz h2.2.1))) hc1
 have hRr:p≠[]→R Γ.St G' w r (tr.set p.reverse .any) []:=by intro hp0;refine zFD p.reverse tr .any u [] (by rw[hrp];exact⟨fun z _=>ghd0 r z (fun h2=>hdr h2.1.symm),fun z _=>gad0 r z (fun h2=>hdr h2.1.symm),fun b o f z h1 h=>⟨glb0 b o f r z h1 (fun h2=>h h2.2.1),rfl⟩,fun b z h1 h=>gow0 b r z h1 (fun h2=>h h2.2),hblk⟩) r2 hp (by cases u<;>simp[T.single]at hu<;>simp[T.size]) (hkeep.keepR (kY tr r3 hok2)) ?_ (by simp only[R]);rw[hrp];intro b o h1;obtain⟨h2,h3,h4⟩:=wZ hu h1;simp only[Loc];exact⟨(gad0 r p (fun h=>hdr h.1.symm)).trans h2,glb0 b o false r p h3 (by simp),by rw[h4,ghd0 r p (fun h=>hdr h.1.symm)]⟩
 have hVr:p≠[]→mkV G' r (tr.set p.reverse .any) []=mkV G r tr []:=fun _=>
  zJm p.reverse tr .any u [] hp hu rfl (fun z _=>ghd0 r z (fun h2=>hdr h2.1.symm)) hc2
 refine⟨vF hrep rfl hkeep hmem ?_ ?_,ghd0⟩
 ·intro s hs
  simp only[Wr.find]at hs;split at hs
  ·cases hs
  ·rename_i h1
   split at hs
   ·cases hs
   ·rename_i h2
    refine⟨fun n hn=>?_,rfl⟩;simp only[Jd,Jax.injEq,Jb2,or_false]at hn;rcases hn with⟨e,_⟩|⟨e,_⟩
    ·exact h1 e.symm
    ·exact h2 e.symm
 ·intro s t hs
  simp only[Wr.find]at hs;split at hs
  ·rename_i he
   subst he;simp at hs;subst hs;exact⟨by rw[d1,hVd],hRd,zEg _ _ _ d3 huc⟩
  ·split at hs
   ·rename_i he
    subst he;simp at hs
    by_cases hp0:p=[]
    ·rw[if_pos hp0]at hs
     subst hs;subst hp0;simp[T.get]at hp;subst hp;refine⟨?_,?_,by simp[Top]⟩
     ·rw[r1,xP hu,xP rfl,ghd0 r [] (fun h=>hdr h.1.symm)]
     ·simp only[R]
      rw[ghd0 r [] (fun h=>hdr h.1.symm)];have:=ghd [];simpa using this.symm
    ·rw[if_neg hp0]at hs
     subst hs;exact⟨by rw[r1,hVr hp0],hRr hp0,zEg _ _ _ r3 (by simp[yD,yY])⟩
   ·cases hs
theorem zM1{Γ:Ctx}{E:Env}{a:Act}{w:World}(h:Sim Γ E a w)(d:Nat)(g:List Nat)(r:Nat)(p:List Nat)(td tr u:T)(hd:E d=some td)(hg:td.get g.reverse=some (.same r p))(hr:E r=some tr)
  (hp:tr.get p.reverse=some u)(hu:u.single=true)(huc:yD u)(hdr:d≠r)(hok1:td.okB [(d,g.length+1),(r,p.length+1)]=true)(hok2:tr.okB [(d,g.length+1),(r,p.length+1)]=true)(hc1:xY td=true)(hc2:xY tr=true):
  Sim Γ (E.app [(d,some (td.set g.reverse u)),(r,some (if p=[]then .same d g else tr.set p.reverse .any))] [(d,g.length+1),(r,p.length+1)]) a w:=by
 obtain⟨hdf,G,hrep⟩:=h;have hsame:=(zA5 g.reverse td _ [] (hrep.ent d td hd).2.1 hg).1;simp only[rp,Km,J9,R]at hsame;exact⟨hdf,_,(zGF hrep d g r p td tr u _ hd hg rfl hsame hr hp hu huc hdr hok1 hok2 hc1 hc2).1⟩
end Go.Ab

namespace Go.Ab
open Go
theorem zJn{St:Stb}{G:Gh}{w:World}{s:Nat}{k:Nat}:(xs:List T)→ ∀(p:List Nat)(j b o:Nat),(∀i x,xs[i]? =some x→Loc G w s x ((j+i)::p) b (o+i*k)∧x.size=k∧R St G w s x ((j+i)::p))→RL St G w s xs p j b o k
 | [],_,_,_,_,_=>by simp only[RL]
 |x::xs,p,j,b,o,h=>by
  obtain⟨h1,h2,h3⟩:=h 0 x (by simp);simp only[RL];refine⟨⟨by simpa using h1,h2⟩,by simpa using h3,zJn xs p (j+1) b (o+k) (fun i y hy=>?_)⟩;have:=h (i+1) y (by simpa using hy)
  rwa [show j+(i+1)=j+1+i from by omega,show o+(i+1)*k=o+k+i*k from by rw[Jy];omega]at this
theorem zAp{St:Stb}{G:Gh}{w:World}{s:Nat}{k:Nat}:(xs:List T)→ ∀(p:List Nat)(j b o:Nat),RL St G w s xs p j b o k→vE G w s xs p j b o
 | [],_,_,_,_,_=>by simp only[vE]
 |x::xs,p,j,b,o,h=>by simp only[RL]at h;simp only[vE];exact⟨h.1.1,zAp xs p (j+1) b (o+x.size) (by rw[h.1.2];exact h.2.2)⟩
theorem zBa{St:Stb}{G:Gh}{w:World}{s:Nat}{k:Nat}:(xs:List T)→ ∀(p:List Nat)(j b o:Nat),RL St G w s xs p j b o k→RF St G w s xs p j∧ ∀x∈xs,x.size=k
 | [],_,_,_,_,_=>by simp[RF]
 |x::xs,p,j,b,o,h=>by simp only[RL]at h;obtain⟨h1,h2⟩:=zBa xs p (j+1) b (o+k) h.2.2;exact⟨by simp only[RF];exact⟨h.2.1,h1⟩,fun y hy=>by rcases Jd.1 hy with rfl|hy;exact h.1.2;exact h2 y hy⟩
section
variable {G:Gh}{w:World}{G':Gh}{w':World}{s s':Nat}
mutual
theorem zGG:(t:T)→ ∀(p p':List Nat)(b o:Nat),(∀z,G'.hd s' (z++p')=G.hd s (z++p))→(∀z,G'.ad s' (z++p')=G.ad s (z++p))→
  (∀b o z,G.lb b o=some (false,s,z++p)→G'.lb b o=some (false,s',z++p')∧yP w' b o=yP w b o)→Loc G w s t p b o→Loc G' w' s' t p' b o
 |.agg xs,p,p',b,o,hh,ha,hl,h=>by
  simp only[Loc]at h ⊢
  exact⟨by have:=ha [];simp at this;rw[this];exact h.1,zIv xs p p' 0 b o hh ha hl h.2⟩
 |.any,p,p',b,o,hh,ha,hl,h|.lit _,p,p',b,o,hh,ha,hl,h|.ro _,p,p',b,o,hh,ha,hl,h|.same _ _,p,p',b,o,hh,ha,hl,h|.addr _ _,p,p',b,o,hh,ha,hl,h|.sub _ _ _ _ _,p,p',b,o,hh,ha,hl,h|.sl _ _,p,p',b,o,hh,ha,hl,h|.ptr _,p,p',b,o,hh,ha,hl,h=>by
  simp only[Loc]at h ⊢
  have h1:=hl b o [] (by simpa using h.2.1);have h2:=ha [];have h3:=hh [];simp only[Ji]at h1 h2 h3;exact⟨h2.trans h.1,h1.1,by rw[h1.2,h.2.2,h3]⟩
 |.tup _,_,_,_,_,_,_,_,h=>by simp only[Loc]at h
theorem zIv:(xs:List T)→ ∀(p p':List Nat)(j b o:Nat),(∀z,G'.hd s' (z++p')=G.hd s (z++p))→(∀z,G'.ad s' (z++p')=G.ad s (z++p))→
  (∀b o z,G.lb b o=some (false,s,z++p)→G'.lb b o=some (false,s',z++p')∧yP w' b o=yP w b o)→vE G w s xs p j b o→vE G' w' s' xs p' j b o
 | [],_,_,_,_,_,_,_,_,_=>by simp only[vE]
 |x::xs,p,p',j,b,o,hh,ha,hl,h=>by
  simp only[vE]at h ⊢
  exact⟨zGG x (j::p) (j::p') b o (fun z=>by have:=hh (z++[j]);simpa using this) (fun z=>by have:=ha (z++[j]);simpa using this) (fun b o z hz=>by have:=hl b o (z++[j]) (by simpa using hz);simpa using this) h.1,
   zIv xs p p' (j+1) b _ hh ha hl h.2⟩
end
end
theorem zEh(G:Gh)(s:Nat):∀(xs us:List T)(p:List Nat)(j:Nat),yF G s (xs++us) p j=yF G s xs p j++yF G s us p (j+xs.length)
 | [],us,p,j=>by simp[yF]
 |x::xs,us,p,j=>by simp[yF,zEh G s xs us p (j+1),Ls,Jcn 1]
theorem zEi:∀(xs us:List T),T.sizes (xs++us)=T.sizes xs+T.sizes us
 | [],us=>by simp[T.sizes]
 |x::xs,us=>by simp[T.sizes,zEi xs us,Ls]
theorem zDq:∀(xs us:List T),yR xs=true→yR us=true→yR (xs++us)=true
 | [],us,_,h=>h
 |x::xs,us,h,h'=>by
  simp only[yR,J4,Jq]at h ⊢
  exact⟨h.1,zDq xs us h.2 h'⟩
theorem zDr:∀(xs us:List T),xH xs→xH us→xH (xs++us)
 | [],us,_,h=>h
 |x::xs,us,h,h'=>by
  simp only[xH,xW,Jq]at h ⊢
  exact⟨h.1,zDr xs us h.2 h'⟩
theorem jY{St:Stb}{G:Gh}{w:World}{s:Nat}{k:Nat}:(xs:List T)→ ∀(p:List Nat)(j b o:Nat),vE G w s xs p j b o→yR xs=true
 | [],_,_,_,_,_=>rfl
 |x::xs,p,j,b,o,h=>by simp only[vE]at h;simp only[yR,J4];exact⟨one x (j::p) b o h.1,jY (St:=St) (k:=k) xs p (j+1) b _ h.2⟩
where
 one:(t:T)→ ∀(p:List Nat)(b o:Nat),Loc G w s t p b o→t.okTup=true
  |.agg xs,p,b,o,h=>by simp only[Loc]at h;simp only[T.okTup];exact jY (St:=St) (k:=k) xs p 0 b o h.2
  |.tup _,_,_,_,h=>by simp only[Loc]at h
  |.any,_,_,_,_|.lit _,_,_,_,_|.ro _,_,_,_,_|.same _ _,_,_,_,_|.addr _ _,_,_,_,_|.sub _ _ _ _ _,_,_,_,_|.sl _ _,_,_,_,_|.ptr _,_,_,_,_=>rfl
section
variable {P:Program}
structure zGH (P:Program) (t2:TypeId) (e:TypeId) (ti:TypeInfo) (xv:Value) (m:Nat) (nv:List Value) (w:World):Prop where
 arg:(∃e2 xa c,P.underlying t2=some (.slice e2)∧xv=.slice xa m c∧ ∀w2:World,w2.heap=w.heap→(Builtin.firstCells ti.size m (.slice xa m c)).run P w2=.ok nv.toArray w2)∨
  ∃k2 k3 z,P.underlying t2=some (.int k2)∧xv=.int k3 (m:Int)∧ti.zero=some z∧nv.toArray=Builtin.zeroCells z.cells m∧m*ti.bytes≤2 ^ 47∧z.cells.size=ti.size
theorem zEj{t t2 ty e:TypeId}{ti:TypeInfo}{xv:Value}{m:Nat}{nv:List Value}{w w':World}(ht:P.underlying t=some (.slice e))(hi:P.info? e=some ti)
  (hx:zGH P t2 e ti xv m nv w)(hm:m≤68719476736){base:Option Addr}{n cap:Nat}(hroom:n+m≤cap)
  (hst:(if let some a:=base then storeCells (a.add (n*ti.size)) nv else pure ():Sem Unit).run P w=.ok () w'):
  (Builtin.append_ #[t,t2] ty #[.slice base n cap,xv]).run P w=.ok (.slice base (n+m) cap) w':=by
 rcases hx.arg with⟨e2,xa,c,h1,rfl,h2⟩|⟨k2,k3,z,h1,rfl,h2,h3,h4,h5⟩
 ·have h2:=h2 w rfl
  cases base with
  |none=>
   simp at hst;subst hst;simp[Builtin.append_,run_underlying ht,run_underlying h1,sizeOf,typeInfo,hi,Builtin.lenOf,hroom,h2]
  |some a=>
   simp only at hst;simp[Builtin.append_,run_underlying ht,run_underlying h1,sizeOf,typeInfo,hi,Builtin.lenOf,hroom,h2,hst]
 ·have hwr:IntKind.i64.wrap (m:Int)=m:=by rw[IntKind.wrap_i64];omega
  have h48:¬(281474976710656<(m:Int)*(ti.bytes:Int)):=by
   have:((m*ti.bytes:Nat):Int)≤2 ^ 47:=by exact_mod_cast h4
   rw[L5]at this;omega
  have hneg:¬((m:Int)<0):=by omega
  have hnv:nv=(Builtin.zeroCells z.cells m).toList:=by rw[←h3]
  by_cases hz:m*ti.size=0
  ·have hnv0:nv=[]:=by
    apply Kb;rw[hnv];simp[Builtin.zeroCells,h5,hz]
   subst hnv0;cases base with
   |none=>
    simp at hst;subst hst;simp[Builtin.append_,run_underlying ht,run_underlying h1,sizeOf,typeInfo,hi,asInt,asIntOf,hwr,h48,hneg,hroom,hz]
   |some a=>
    simp only[storeCells,Sem.run_pure]at hst;cases hst;simp[Builtin.append_,run_underlying ht,run_underlying h1,sizeOf,typeInfo,hi,asInt,asIntOf,hwr,h48,hneg,hroom,hz,storeCells]
  ·cases base with
   |none=>
    simp at hst;subst hst;simp[Builtin.append_,run_underlying ht,run_underlying h1,sizeOf,typeInfo,zeroValue,hi,h2,asInt,asIntOf,hwr,h48,hneg,hroom]
   |some a=>
    simp only[hnv]at hst;simp[Builtin.append_,run_underlying ht,run_underlying h1,sizeOf,typeInfo,zeroValue,hi,h2,asInt,asIntOf,hwr,h48,hneg,hroom,hz,hst]
theorem zJo{t t2 ty e:TypeId}{ti:TypeInfo}{z xv:Value}{m:Nat}{nv olds:List Value}{w:World}(ht:P.underlying t=some (.slice e))(hi:P.info? e=some ti)(hz:ti.zero=some z)
  (hx:zGH P t2 e ti xv m nv w){base:Option Addr}{n cap:Nat}(hgrow:cap<n+m)(hnm:n+m≤68719476736)(hb:ti.bytes≤2048)
  (hold:∀w2:World,w2.heap=w.heap→(Builtin.firstCells ti.size n (.slice base n cap)).run P w2=.ok olds.toArray w2):
  (Builtin.append_ #[t,t2] ty #[.slice base n cap,xv]).run P w=.ok (.slice (some ⟨w.heap.size,0,none⟩) (n+m) (grownCap w (n+m) cap e))
    (w.drew.alloc (.cells ((olds++nv).toArray++Builtin.zeroCells z.cells (grownCap w (n+m) cap e-(n+m))) e)):=by
 have hn:¬(n+m≤cap):=by omega
 have h63':¬(9223372036854775807<((n:Int)+(m:Int))):=by omega
 have hfit:=growslice_fits (need:=n+m) (old:=cap) (bytes:=ti.bytes) hgrow (L6 (K4 hnm hb) (by decide));have h48':¬(281474976710656<Builtin.nextslicecap (n+m) cap*ti.bytes):=by omega
 have ho:=hold w.drew rfl;rcases hx.arg with⟨e2,xa,c,h1,rfl,h2⟩|⟨k2,k3,z',h1,rfl,h2,h3,h4,h5⟩
 ·have h2:=h2 w.drew rfl
  simp[Builtin.append_,run_underlying ht,run_underlying h1,sizeOf,typeInfo,zeroValue,hi,hz,Builtin.lenOf,hn,h63',h48',Question.forced,h2,ho,newRow,grownCap]
  congr 2
  apply Jcp;simp
 ·have hwr:IntKind.i64.wrap (m:Int)=m:=by rw[IntKind.wrap_i64];omega
  have h48:¬(281474976710656<(m:Int)*(ti.bytes:Int)):=by
   have:((m*ti.bytes:Nat):Int)≤2 ^ 47:=by exact_mod_cast h4
   rw[L5]at this;omega
  have hneg:¬((m:Int)<0):=by omega
  have hnv:nv=(Builtin.zeroCells z'.cells m).toList:=by rw[←h3]
  rw[hz]at h2;simp at h2;subst h2
  by_cases hz0:m*ti.size=0
  ·have hnv0:nv=[]:=by
    apply Kb;rw[hnv];simp[Builtin.zeroCells,h5,hz0]
   subst hnv0;simp[Builtin.append_,run_underlying ht,run_underlying h1,sizeOf,typeInfo,zeroValue,hi,hz,asInt,asIntOf,hwr,h48,hneg,hn,h63',h48',Question.forced,hz0,ho,newRow,grownCap]
  ·simp[Builtin.append_,run_underlying ht,run_underlying h1,sizeOf,typeInfo,zeroValue,hi,hz,asInt,asIntOf,hwr,h48,hneg,hn,h63',h48',Question.forced,hz0,ho,newRow,grownCap,←h3]
   congr 2
   apply Jcp;simp
end
def zD9(s0:Nat)(y:Option Nat)(n:Nat)(s:Nat)(z:List Nat):Option (List Nat):=
 if s=s0 then some z else if y=some s then(match z.getLast? with
  |some j=>some (z.dropLast++[n+j])
  |none=>none)else none
def Gh.ip(G:Gh)(d s0:Nat)(y:Option Nat)(b n k:Nat)(us:List T)(f2:Nat→List Nat→Value)(hdr:Value):Gh where
 hd s z:=if s=d then(match z.getLast? with
  |some i=>if i<n then G.hd s0 z else f2 (i-n) z.dropLast
  |none=>hdr)else G.hd s z
 ad s z:=if s=d then(match z.getLast? with
  |some i=>if i<n then G.ad s0 z else if(T.agg us).inT ((i-n)::z.dropLast.reverse)then⟨b,n*k+(T.agg us).offT ((i-n)::z.dropLast.reverse),none⟩else(match y with
   |some y=>G.ad y (z.dropLast++[i-n])
   |none=>default)
  |none=>default)else G.ad s z
 lb b' o:=if b'=b∧n*k≤o∧o<n*k+us.length*k then(match zBN us [] n (o-n*k)with
  |some p=>some (false,d,p)
  |none=>none)else match G.lb b' o with
  |some (fl,s,z)=>(match zD9 s0 y n s z with
   |some z'=>some (fl,d,z')
   |none=>some (fl,s,z))
  |none=>none
 ow b':=match G.ow b' with
  |some (s,z)=>(match zD9 s0 y n s z with
   |some z'=>some (d,z')
   |none=>some (s,z))
  |none=>none
def aWr(d s0:Nat)(y:Option Nat)(k:Nat)(ts:List T):Wr:=(d,some (.sl k ts))::(s0,some .any)::(match y with
 |some y=>[(y,some .any)]
 |none=>[])
def zA1(d s0:Nat)(y:Option Nat):Chg:=(d,0)::(s0,1)::(match y with
 |some y=>[(y,1)]
 |none=>[])
structure zGI (Γ:Ctx) (E:Env) (G:Gh) (d s0:Nat) (y:Option Nat) (k n:Nat) (us:List T) (f2:Nat→List Nat→Value) (nv:List Value):Prop where
 size:∀u∈us,u.size=k
 tup:yR us=true
 clean:xH us
 one:∀j z,(f2 j z).oneCell'=true
 len:nv.length=us.length*k
 slot:∀y',y=some y'→y'≠d∧y'≠s0∧E y'=some (.sl k us)∧ ∀j z,f2 j z=G.hd y' (z++[j])
 none:y=none→ ∀(j:Nat) u,us[j]? =some u→ ∀(G2:Gh)(w2:World),(∀z,G2.hd d (z++[n+j])=f2 j z)→R Γ.St G2 w2 d u [n+j]
 vals:∀(G2:Gh),(∀j z,G2.hd d (z++[n+j])=f2 j z)→ ∀(o:Nat)(v:Value),(yF G2 d us [] n)[o]? =some v→nv[o]? =some v
theorem zK2{G G2:Gh}{s d:Nat}:(xs:List T)→ ∀(p:List Nat)(j:Nat),(∀i,i<xs.length→ ∀z,G2.hd d (z++((j+i)::p))=G.hd s (z++((j+i)::p)))→yF G2 d xs p j=yF G s xs p j
 | [],_,_,_=>by simp only[yF]
 |x::xs,p,j,h=>by
  simp only[yF];have ih:yF G2 d xs p (j+1)=yF G s xs p (j+1):=zK2 xs p (j+1) (fun i hi z=>by rw[show j+1+i=j+(i+1)from by omega];exact h (i+1) (by simpa using hi) z)
  rw[zA6 x (j::p) (j::p) (by simpa using h 0 (by simp)),ih]
theorem zIb(z:List Nat):z=[]∨ ∃y i,z=y++[i]:=by
 rcases List.eq_nil_or_concat z with h|⟨y,i,h⟩
 ·exact .inl h
 ·exact .inr ⟨y,i,by simpa using h⟩
section
variable {P:Program}{Γ:Ctx}{E:Env}{d:Nat}
theorem zB3{G:Gh}{a:Act}{w:World}(hrep:Rep Γ E G a.tmps w)(hd:d<Γ.N){t t2 ty e:TypeId}{ti:TypeInfo}{z:Value}{k:Nat}(ht:P.underlying t=some (.slice e))(hi:P.info? e=some ti)(hz:ti.zero=some z)
  (hk:ti.size=k)(_hk0:0<k)(hzk:z.cells.size=k)(hb:ti.bytes≤2048){s0:Nat}{y:Option Nat}{xs us:List T}{f2:Nat→List Nat→Value}{nv:List Value}(hs0:E s0=some (.sl k xs))(hs0d:s0≠d)
  (hn:zGI Γ E G d s0 y k xs.length us f2 nv){xv:Value}(hx:zGH P t2 e ti xv us.length nv w)(hone:∀v∈nv,v.oneCell'=true)(hnm:xs.length+us.length≤68719476736):
  ∃v w',(Builtin.append_ #[t,t2] ty #[G.hd s0 [],xv]).run P w=.ok v w'∧ ∃G',Rep Γ (E.app (aWr d s0 y k (xs++us)) (zA1 d s0 y)) G' (a.tmps.setIfInBounds d v) w':=by
 have hm:=hrep.mem;obtain⟨e1,e2,e3⟩:=hrep.ent s0 _ hs0;simp only[Top]at e3;simp only[R]at e2;have hsz_us:T.sizes us=us.length*k:=wT us hn.size;have fin:∀(G':Gh)(w':World)(v:Value),qP (zA1 d s0 y) G w G' w'→Mem Γ G' w'→G'.hd d []=v→R Γ.St G' w' d (.sl k (xs++us)) []→(∀s p,s≠d→G'.hd s p=G.hd s p)→
   Rep Γ (E.app (aWr d s0 y k (xs++us)) (zA1 d s0 y)) G' (a.tmps.setIfInBounds d v) w':=by
  intro G' w' v hkeep hmem hdv hRd hother;refine vF hrep (by simp) hkeep hmem ?_ ?_
  ·intro s hs
   have hne:s≠d:=by rintro rfl;simp[aWr,Wr.find]at hs
   have hne0:s≠s0:=by rintro rfl;simp[aWr,Wr.find,hne.symm]at hs
   have hney:∀y',y=some y'→s≠y':=by
    rintro y' rfl rfl
    simp[aWr,Wr.find,hne.symm,hne0.symm]at hs
   refine⟨fun n' hn'=>?_,by rw[Jg];simp[hne.symm]⟩;simp only[zA1,Jd,Jax.injEq]at hn';rcases hn' with⟨h1,_⟩|⟨h1,_⟩|hn'
   ·exact hne h1
   ·exact hne0 h1
   ·cases y with
    |none=>simp at hn'
    |some y'=>simp at hn';exact hney y' rfl hn'.1
  ·intro s t' hs
   by_cases h1:s=d
   ·subst h1
    simp[aWr,Wr.find]at hs;subst hs;refine⟨?_,hRd,by simp only[Top];exact zDr xs us e3 hn.clean⟩;rw[Jg];simp[hrep.size,hd,mkV,hdv]
   ·have h3:t'=.any∧(s=s0∨y=some s):=by
     simp only[aWr,Wr.find]at hs;rw[if_neg (fun h=>h1 h.symm)]at hs;split at hs
     ·rename_i h2;simp at hs;exact⟨hs.symm,.inl h2.symm⟩
     ·cases y with
      |none=>simp[Wr.find]at hs
      |some y'=>
       simp only[Wr.find]at hs;split at hs
       ·rename_i h2;simp at hs;exact⟨hs.symm,.inr (by rw[h2])⟩
       ·cases hs
    obtain⟨rfl,h3⟩:=h3;refine⟨?_,by simp only[R],by simp[Top]⟩;rw[Jg];simp only[Ne.symm h1,if_false,mkV];rw[hother s [] h1];rcases h3 with rfl|h3
    ·exact e1
    ·obtain⟨_,_,h4,_⟩:=hn.slot s h3
     exact(hrep.ent s _ h4).1
 have hphi0:∀s p,(∀n',(s,n')∉zA1 d s0 y)→zD9 s0 y xs.length s p=none:=by
  intro s p h;have h1:s≠s0:=fun e=>h 1 (by simp[zA1,e])
  have h2:y≠some s:=fun e=>h 1 (by simp[zA1,e])
  simp[zD9,h1,h2]
 by_cases hroom:∃a' c,G.hd s0 []=.slice a' xs.length c∧xs.length+us.length≤c
 ·
  obtain⟨a',c,hh,hroom⟩:=hroom;rcases e2 with⟨rfl,a1,h1⟩|⟨b,cap,cs,et,h1,h2,h3,h4,h5,h6,h7,h8⟩
  ·rw[h1]at hh
   simp at hh;obtain⟨rfl,rfl⟩:=hh;have hus:us=[]:=Kb (by simp only[Jw]at hroom;omega);subst hus;have hnv:nv=[]:=Kb (by have:=hn.len;simp at this;simp[this]);subst hnv;have hrun:=zEj (P:=P) (t:=t) (ty:=ty) (w':=w) ht hi hx (by simp) (base:=a1) (n:=0) (cap:=0) (by simp) (by cases a1<;>rfl);refine⟨.slice a1 0 0,w,by rw[h1];exact hrun,G.put d (fun _=>.slice a1 0 0),fin _ w _ ?_ (hm.put rfl d _ (fun _=>rfl)) (by rw[Gh.put_self]) (by simp[R,Gh.put]) (fun s p h=>G.put_other _ p h)⟩;have:=G.put_keep (w:=w) (w':=w) rfl d (fun _=>.slice a1 0 0);exact⟨fun s p h=>this.hd s p (fun n hn=>h n (by simp at hn;simp[zA1,hn])),fun s p h=>this.ad s p (fun n hn=>h n (by simp at hn;simp[zA1,hn])),fun b o f s p h0 h1 h2=>this.lb b o f s p h0 h1 (fun n hn=>h2 n (by simp at hn;simp[zA1,hn])),fun b s p h1 h2=>this.ow b s p h1 (fun n hn=>h2 n (by simp at hn;simp[zA1,hn])),this.blk⟩
  ·rw[h1]at hh
   simp at hh;obtain⟨rfl,rfl⟩:=hh;have hmk':us.length*k+xs.length*k≤cap*k:=by rw[←Uk];exact Kg _ (by omega)
   have hmk:us.length*k+xs.length*k≤cs.size:=L6 hmk' h5
   generalize hw':w.setRow b (cs.toList.take (xs.length*k)++nv++cs.toList.drop (xs.length*k+nv.length)).toArray=w'
   have hnew:w'.heap[b]? =some (.cells (cs.toList.take (xs.length*k)++nv++cs.toList.drop (xs.length*k+nv.length)).toArray et (0,0)):=by rw[←hw'];exact setRow_heap w b cs _ et _ h2
   have hold:∀b',b'≠b→w'.heap[b']? =w.heap[b']?:=fun b' h=>by rw[←hw'];exact setRow_other w b b' _ h
   have hsize:w'.heap.size=w.heap.size:=by rw[←hw'];exact size_setRow w b _
   have hcsl:cs.toList.length=cs.size:=Kf ..;have hnl:=hn.len;have hcellb:∀i,yP w' b i=if xs.length*k≤i∧i<xs.length*k+us.length*k then nv[i-xs.length*k]? else yP w b i:=by
    intro i;simp only[yP,World.cell?,hnew,h2,Q0,Ga,if_false];rw[←K7,←K7 (xs:=cs)];simp only[]
    by_cases g1:i<xs.length*k
    ·rw[if_neg (by omega),Ja,Jm (by simp;omega),Uj g1]
    ·by_cases g2:i<xs.length*k+us.length*k
     ·rw[if_pos ⟨by omega,g2⟩,Ja,J8 (by simp;omega),Jm (by simp;omega)]
      congr 1;simp;omega
     ·rw[if_neg (by omega),Ja,J8 (by simp;omega),J8 (by simp;omega),Ko]
      congr 1;simp;omega
   have hin:∀b' o fl s p,G.lb b' o=some (fl,s,p)→(fl,s,p)≠(true,s0,[])→ ¬(b'=b∧xs.length*k≤o∧o<xs.length*k+us.length*k):=by
    rintro b' o fl s p g1 g2 ⟨rfl,g3,g4⟩
    rw[h7 o g3 (by omega)]at g1;simp at g1;exact g2 (by simp[←g1.1,←g1.2.1,←g1.2.2])
   have hcell:∀b' o,¬(b'=b∧xs.length*k≤o∧o<xs.length*k+us.length*k)→yP w' b' o=yP w b' o:=by
    intro b' o g
    by_cases hb':b'=b
    ·subst hb'
     rw[hcellb,if_neg (fun g2=>g ⟨rfl,g2⟩)]
    ·simp[yP,World.cell?,hold b' hb']
   have hnewsz:((cs.toList.take (xs.length*k)++nv++cs.toList.drop (xs.length*k+nv.length)).toArray).size=cs.size:=by simp;omega
   have hblk':Blk w w':=by
    intro b' cs' e' g1
    by_cases hb':b'=b
    ·subst hb'
     rw[h2]at g1;simp at g1;obtain⟨rfl,rfl⟩:=g1;exact⟨_,hnew,hnewsz⟩
    ·exact⟨cs',by rw[hold b' hb'];exact g1,rfl⟩
   generalize hG':G.ip d s0 y b xs.length k us f2 (.slice (some ⟨b,0,none⟩) (xs.length+us.length) cap)=G'
   have ghdr:G'.hd d []=.slice (some ⟨b,0,none⟩) (xs.length+us.length) cap:=by rw[←hG'];simp[Gh.ip]
   have ghd1:∀i z,i<xs.length→G'.hd d (z++[i])=G.hd s0 (z++[i]):=fun i z g=>by rw[←hG'];simp[Gh.ip,g]
   have ghd2:∀j z,G'.hd d (z++[xs.length+j])=f2 j z:=fun j z=>by rw[←hG'];simp[Gh.ip,show¬xs.length+j<xs.length from by omega]
   have ghd0:∀s z,s≠d→G'.hd s z=G.hd s z:=fun s z g=>by rw[←hG'];simp[Gh.ip,g]
   have gad0:∀s z,s≠d→G'.ad s z=G.ad s z:=fun s z g=>by rw[←hG'];simp[Gh.ip,g]
   have gad1:∀i z,i<xs.length→G'.ad d (z++[i])=G.ad s0 (z++[i]):=fun i z g=>by rw[←hG'];simp[Gh.ip,g]
   have gad2:∀j f,(T.agg us).inT (j::f)=true→G'.ad d (f.reverse++[xs.length+j])=⟨b,xs.length*k+(T.agg us).offT (j::f),none⟩:=fun j f g=>by rw[←hG'];simp[Gh.ip,g,show¬xs.length+j<xs.length from by omega]
   have gad3:∀y' j z,y=some y'→(T.agg us).inT (j::z.reverse)=false→G'.ad d (z++[xs.length+j])=G.ad y' (z++[j]):=fun y' j z g1 g2=>by rw[←hG'];simp[Gh.ip,g1,g2,show¬xs.length+j<xs.length from by omega]
   have glb2:∀i p,i<us.length*k→zBN us [] xs.length i=some p→G'.lb b (xs.length*k+i)=some (false,d,p):=fun i p g1 g2=>by rw[←hG'];simp only[Gh.ip];rw[if_pos (by simp;omega),show xs.length*k+i-xs.length*k=i from by omega,g2]
   have glb0:∀b' o fl s p,G.lb b' o=some (fl,s,p)→ ¬(b'=b∧xs.length*k≤o∧o<xs.length*k+us.length*k)→zD9 s0 y xs.length s p=none→G'.lb b' o=some (fl,s,p):=fun b' o fl s p g1 g2 g3=>by rw[←hG'];simp only[Gh.ip];rw[if_neg g2,g1];simp[g3]
   have glb1:∀b' o fl s p p',G.lb b' o=some (fl,s,p)→ ¬(b'=b∧xs.length*k≤o∧o<xs.length*k+us.length*k)→zD9 s0 y xs.length s p=some p'→G'.lb b' o=some (fl,d,p'):=fun b' o fl s p p' g1 g2 g3=>by rw[←hG'];simp only[Gh.ip];rw[if_neg g2,g1];simp[g3]
   have gow0:∀b' s p,G.ow b'=some (s,p)→zD9 s0 y xs.length s p=none→G'.ow b'=some (s,p):=fun b' s p g1 g2=>by rw[←hG'];simp[Gh.ip,g1,g2]
   have gow1:∀b' s p p',G.ow b'=some (s,p)→zD9 s0 y xs.length s p=some p'→G'.ow b'=some (d,p'):=fun b' s p p' g1 g2=>by rw[←hG'];simp[Gh.ip,g1,g2]
   have hphis:∀p,zD9 s0 y xs.length s0 p=some p:=fun p=>by simp[zD9]
   have hphiy:∀y' z j,y=some y'→y'≠s0→zD9 s0 y xs.length y' (z++[j])=some (z++[xs.length+j]):=fun y' z j g1 g2=>by simp[zD9,g1,g2]
   have hne:∀s p,Off (zA1 d s0 y) s p→s≠d:=fun s p h e=>absurd (h 0 (by simp[zA1,e])) (by simp)
   have hkeep:qP (zA1 d s0 y) G w G' w':=by
    refine⟨fun s p h=>ghd0 s p (hne s p h),fun s p h=>gad0 s p (hne s p h),fun b' o fl s p _ g1 g2=>?_,fun b' s p g1 g2=>gow0 b' s p g1 (hphi0 s p g2),hblk'⟩;have hs:s≠s0:=fun e=>g2 1 (by simp[zA1,e])
    have g3:=hin b' o fl s p g1 (by simp[hs]);exact⟨glb0 b' o fl s p g1 g3 (hphi0 s p g2),hcell b' o g3⟩
   have hBb:=hm.ow b _ h6;have hmem:Mem Γ G' w':=by
    refine⟨fun s z=>?_,fun b' o' l hl=>?_,fun b' l hl=>?_,fun b' x' hx'=>?_,fun b' g1 g2=>?_,by rw[hsize];exact hm.sz,hm.bk.trans hblk' (by rw[←hw'];rfl) (by rw[←hw'];rfl)⟩
    ·by_cases g:s=d
     ·subst g
      rcases zIb z with rfl|⟨z',i,rfl⟩
      ·rw[ghdr];rfl
      ·by_cases g1:i<xs.length
       ·rw[ghd1 i z' g1];exact hm.one _ _
       ·have:=ghd2 (i-xs.length) z'
        rw[show xs.length+(i-xs.length)=i from by omega]at this;rw[this];exact hn.one _ _
     ·rw[ghd0 s z g];exact hm.one _ _
    ·have:zBY Γ w b':=by
      rw[←hG']at hl;simp only[Gh.ip]at hl;split at hl
      ·rename_i g;rw[g.1];exact hBb
      ·split at hl
       ·rename_i g;exact hm.lb _ _ _ g
       ·cases hl
     exact⟨by rw[hsize];exact this.1,this.2⟩
    ·have:zBY Γ w b':=by
      rw[←hG']at hl;simp only[Gh.ip]at hl;split at hl
      ·rename_i g;exact hm.ow _ _ g
      ·cases hl
     exact⟨by rw[hsize];exact this.1,this.2⟩
    ·have hb':b'≠b:=by rintro rfl;rw[hBb.2.2]at hx';cases hx'
     rw[hold b' hb'];exact hm.st b' x' hx'
    ·have hb':b'≠b:=by
      rintro rfl
      rcases hBb.2.1 with g3|g3
      ·omega
      ·exact g2 g3
     rw[hold b' hb'];exact hm.fr b' g1 g2
   have hlocus:vE G' w' d us [] xs.length b (xs.length*k):=by
    refine zGj us [] xs.length b (xs.length*k) hn.tup (fun i x hx' f hf=>?_) (fun i p' g1 g2=>glb2 i p' (by omega) g2) (fun i v hv=>?_)
    ·have:=gad2 i f (by simp only[T.inT,hx'];exact hf)
     simpa[T.offT,hx']using this
    ·have g1:=hn.vals G' ghd2 i v hv
     have g2:=(Jb.1 g1).1;rw[hcellb,if_pos ⟨by omega,by omega⟩,show xs.length*k+i-xs.length*k=i from by omega];exact g1
   have hRd:R Γ.St G' w' d (.sl k (xs++us)) []:=by
    simp only[R];rw[ghdr];refine .inr ⟨b,cap,_,et,by simp,hnew,by simp;omega,h4,by rw[hnewsz];exact h5,gow1 b s0 [] [] h6 (hphis []),?_,zJn _ _ _ _ _ (fun i x hx'=>?_)⟩
    ·intro o g1 g2
     rw[J5,Uk]at g1;exact glb1 b o true s0 [] [] (h7 o (by omega) g2) (by omega) (hphis [])
    ·rw[L4]at hx'
     simp only[Jf];split at hx'
     ·rename_i hlt
      obtain⟨g1,g2,g3⟩:=jJ xs [] 0 b 0 k i x h8 hx';simp only[Jf]at g1 g3;have hl1:∀b' o fl z,G.lb b' o=some (fl,s0,z++[i])→G'.lb b' o=some (fl,d,z++[i])∧yP w' b' o=yP w b' o:=fun b' o fl z g=>by have g4:=hin b' o fl s0 _ g (by simp);exact⟨glb1 b' o fl s0 _ _ g g4 (hphis _),hcell b' o g4⟩
      refine⟨zGG x [i] [i] b _ (fun z=>ghd1 i z hlt) (fun z=>gad1 i z hlt) (fun b' o z g=>hl1 b' o false z g) g1,g2,?_⟩;refine kX (G:=G) (w:=w) (s:=s0) (p:=[i]) ⟨⟨fun z=>ghd1 i z hlt,fun z _=>gad1 i z hlt,fun b' o f z _ _ g=>hl1 b' o f z g,fun b' z _ g=>gow1 b' s0 _ _ g (hphis _),hblk'⟩,fun b' o _ g=>?_,fun b' g=>gow1 b' s0 _ _ g (hphis _)⟩ x (yY.mono (fun _ _=>False.elim) x (uL xs e3 i x hx')) g3;have:=hl1 b' o true [] (by simpa using g);simpa using this
     ·rename_i hge
      obtain⟨j,rfl⟩:∃j,i=xs.length+j:=⟨i-xs.length,by omega⟩;rw[show xs.length+j-xs.length=j from by omega]at hx';have g1:=zBZ us [] xs.length b (xs.length*k) j x hlocus hx';rw[show T.sizes (us.take j)=j*k from by rw[wT _ (fun u hu=>hn.size u (Gz hu)),Ka,Qi (by have:=(Jb.1 hx').1;omega)],←Uk]at g1
      refine⟨g1,hn.size x (Kd hx'),?_⟩;cases hy:y with
      |none=>exact hn.none hy j x hx' G' w' (fun z=>ghd2 j z)
      |some y'=>
       obtain⟨y1,y2,y3,y4⟩:=hn.slot y' hy;obtain⟨_,y5,_⟩:=hrep.ent y' _ y3;simp only[R]at y5;rcases y5 with⟨rfl,_⟩|⟨b2,cap2,cs2,et2,_,_,_,_,_,_,_,y6⟩
       ·simp at hx'
       ·obtain⟨_,_,y7⟩:=jJ us [] 0 b2 0 k j x y6 hx'
        simp only[Jf]at y7;refine zKu x [j] [xs.length+j] (zCK.okTups_get us hn.tup j x hx') ⟨fun z=>by rw[ghd2,y4],fun z g=>gad3 y' j z hy (by simp only[T.inT,hx'];exact g),fun b' o fl z _ g=>?_,fun b' z g=>gow1 b' y' _ _ g (hphiy y' z j hy y2),hblk'⟩ (yY.mono (fun _ _=>False.elim) x (uL us hn.clean j x hx')) y7;have g4:=hin b' o fl y' _ g (by simp[y2]);exact⟨glb1 b' o fl y' _ _ g g4 (hphiy y' z j hy y2),hcell b' o g4⟩
   have hst:=run_storeCells_at P b (xs.length*k) et nv 0 cs w h2 (by omega) hone;simp only[U8]at hst;rw[hw']at hst;have hrun:=zEj (P:=P) (t:=t) (ty:=ty) (w':=w') ht hi hx (by omega) (base:=some ⟨b,0,none⟩) hroom (by simp only[hk,uM,Jf];exact hst);refine⟨_,w',by rw[h1];exact hrun,G',fin G' w' _ hkeep hmem ghdr hRd ghd0⟩
 ·
  have hbase:∃a' c,G.hd s0 []=.slice a' xs.length c∧ ∀w2:World,w2.heap=w.heap→(Builtin.firstCells ti.size xs.length (.slice a' xs.length c)).run P w2=.ok (yF G s0 xs [] 0).toArray w2:=by
   rcases e2 with⟨rfl,a1,h1⟩|⟨b,cap,cs,et,h1,h2,h3,h4,h5,h6,h7,h8⟩
   ·exact⟨a1,0,h1,fun w2 _=>by cases a1<;>simp[Builtin.firstCells,loadCells,loadCellsFrom,yF]⟩
   ·refine⟨_,_,h1,fun w2 hw2=>?_⟩
    have hl:=zAp xs [] 0 b 0 h8;refine run_firstCells_some (P:=P) w2 ti.size xs.length ⟨b,0,none⟩ _ _ _ ?_ (fun j v hv=>?_)
    ·rw[wR,hk]
     exact wT xs (zBa xs [] 0 b 0 h8).2
    ·have:=zAV xs [] 0 b 0 hl j v hv
     rw[uM];simp only[yP]at this;simpa[World.cell?,hw2]using this
  obtain⟨a',c,hh,hold⟩:=hbase;have hxs:yR xs=true∧(∀x∈xs,x.size=k)∧ ∀i x,xs[i]? =some x→R Γ.St G w s0 x [i]:=by
   rcases e2 with⟨rfl,a1,h1⟩|⟨b,cap,cs,et,h1,h2,h3,h4,h5,h6,h7,h8⟩
   ·simp[yR]
   ·refine⟨jY (St:=Γ.St) (k:=k) xs [] 0 b 0 (zAp xs [] 0 b 0 h8),(zBa xs [] 0 b 0 h8).2,fun i x hx'=>?_⟩
    have:=(jJ xs [] 0 b 0 k i x h8 hx').2.2;simpa using this
  have hgrow:c<xs.length+us.length:=by
   rcases Jk c (xs.length+us.length)with g|g
   ·exact g
   ·exact absurd ⟨a',c,hh,g⟩ hroom
  have hrun:=zJo (P:=P) (t:=t) (ty:=ty) ht hi hz hx hgrow hnm hb hold;have hge:=grownCap_ge w (xs.length+us.length) c e;have hcm:=grownCap_le_maxLen w (xs.length+us.length) c e (by simp only[maxLen];omega)
  generalize grownCap w (xs.length+us.length) c e=cap' at hrun hge hcm
  generalize hw':w.drew.alloc (.cells ((yF G s0 xs [] 0++nv).toArray++Builtin.zeroCells z.cells (cap'-(xs.length+us.length))) e)=w' at hrun
  have hwh:w'.heap=w.heap.push (.cells ((yF G s0 xs [] 0++nv).toArray++Builtin.zeroCells z.cells (cap'-(xs.length+us.length))) e):=by rw[←hw'];rfl
  have hszxs:T.sizes xs=xs.length*k:=wT xs hxs.2.1;obtain⟨g1,g2,g3,g4,g5⟩:=zCK hm hwh d (xs++us) (fun i=>if i<xs.length then some (s0,[i])else y.map fun y'=>(y',[i-xs.length])) (zD9 s0 y xs.length) (fun i z=>if i<xs.length then G.hd s0 (z++[i])else f2 (i-xs.length) z) (.slice (some ⟨w.heap.size,0,none⟩) (xs.length+us.length) cap') ((zA1 d s0 y).tail)
   (zDq xs us hxs.1 hn.tup) (fun i z=>by split;exact hm.one _ _;exact hn.one _ _) rfl
   (fun i u x q z' hu hs=>by
    split at hs
    ·simp at hs;obtain⟨rfl,rfl⟩:=hs;simp[zD9]
    ·rename_i hge'
     cases y with
     |none=>simp at hs
     |some y'=>
      simp at hs;obtain⟨rfl,rfl⟩:=hs;have:=(hn.slot y' rfl).2.1;simp[zD9,this,show xs.length+(i-xs.length)=i from by omega])
   (fun i u x q hu hs=>by
    rw[L4]at hu;split at hs
    ·rename_i hlt
     rw[if_pos hlt]at hu;simp at hs;obtain⟨rfl,rfl⟩:=hs;exact⟨fun z'=>by simp[hlt],hxs.2.2 i u hu,uL xs e3 i u hu,hs0d⟩
    ·rename_i hge'
     rw[if_neg hge']at hu;cases hy:y with
     |none=>rw[hy]at hs;simp at hs
     |some y'=>
      rw[hy]at hs;simp at hs;obtain⟨rfl,rfl⟩:=hs;obtain⟨y1,y2,y3,y4⟩:=hn.slot y' hy;obtain⟨_,y5,_⟩:=hrep.ent y' _ y3;simp only[R]at y5;refine⟨fun z'=>by simp[hge',y4],?_,uL us hn.clean _ u hu,y1⟩;rcases y5 with⟨rfl,_⟩|⟨b2,cap2,cs2,et2,_,_,_,_,_,_,_,y6⟩
      ·simp at hu
      ·have:=(jJ us [] 0 b2 0 k _ u y6 hu).2.2
       simpa using this)
   (fun i u hu hs G2 w2 hG2=>by
    rw[L4]at hu;split at hs
    ·cases hs
    ·rename_i hge'
     rw[if_neg hge']at hu;cases hy:y with
     |some y'=>rw[hy]at hs;simp at hs
     |none=>
      have:=hn.none hy (i-xs.length) u hu G2 w2 (fun z'=>by rw[show xs.length+(i-xs.length)=i from by omega,hG2,if_neg hge'])
      rwa [show xs.length+(i-xs.length)=i from by omega]at this)
   (fun G2 hG2 o v hv=>by
    rw[zEh,Jf]at hv;have h1:yF G2 d xs [] 0=yF G s0 xs [] 0:=zK2 xs [] 0 (fun i hi' z'=>by rw[Jf,hG2,if_pos hi']);rw[h1]at hv;have hl1:(yF G s0 xs [] 0).length=xs.length*k:=by rw[wR,hszxs]
    have hl2:(yF G2 d us [] xs.length).length=us.length*k:=by rw[wR,hsz_us]
    have ho:o<xs.length*k+us.length*k:=by have:=(Jb.1 hv).1;rw[J5]at this;omega
    have hnl:=hn.len;rw[Array.getElem?_append_left (by simp;omega),List.getElem?_toArray];rw[L4]at hv ⊢
    split at hv
    ·rename_i hlt;rw[if_pos hlt];exact hv
    ·rename_i hge';rw[if_neg hge']
     exact hn.vals G2 (fun j z'=>by rw[hG2,if_neg (by omega),show xs.length+j-xs.length=j from by omega]) _ v hv)
   (fun s p h=>hphi0 s p (by simpa[zA1]using h)) (ho:=by rw[←hw'];rfl) (hq:=by rw[←hw'];rfl)
  refine⟨_,w',by rw[hh];exact hrun,_,fin _ w' _ (by simpa[zA1]using g1) g2 (by simp[Gh.nb]) ?_ (fun s p h=>by simp[Gh.nb,h])⟩;simp only[R];refine .inr ⟨w.heap.size,cap',_,e,by simp[Gh.nb],g5,by simpa using hge,hcm,?_,by simp[Gh.nb],?_,zQ6 _ _ _ _ _ (fun x hx'=>?_) g3 g4⟩
  ·have hl1:(yF G s0 xs [] 0).length=xs.length*k:=by rw[wR,hszxs]
   have hnl:=hn.len;simp only[Array.size_append,Jc3,J5,size_zeroCells,hzk,hl1,hnl,←Uk];exact Kg _ (by omega)
  ·intro o ho _
   rw[J5,Uk]at ho;simp[Gh.nb,zD6 (xs++us) [] 0 o (by rw[zEi];omega)]
  ·rcases Jj.1 hx' with h|h
   ·exact hxs.2.1 x h
   ·exact hn.size x h
end
end Go.Ab

namespace Go.Ab
open Go
mutual
def T.flat:T→Bool
 |.lit _|.ro _=>true
 |.agg xs=>kS xs
 |.any|.same _ _|.addr _ _|.sub _ _ _ _ _|.sl _ _|.ptr _|.tup _=>false
def kS:List T→Bool
 | []=>true
 |x::xs=>x.flat&&kS xs
end
section
variable {St:Stb}{G G2:Gh}{w w2:World}{s d:Nat}
mutual
theorem zJp:(t:T)→ ∀(p p':List Nat),t.flat=true→(∀z,G2.hd d (z++p')=G.hd s (z++p))→R St G w s t p→R St G2 w2 d t p'
 |.lit _,p,p',_,h,hr=>by have:=h [];simp only[Ji]at this;simp only[R]at hr ⊢;rw[this];exact hr
 |.ro _,p,p',_,h,hr=>by have:=h [];simp only[Ji]at this;simp only[R]at hr ⊢;rw[this];exact hr
 |.agg xs,p,p',hf,h,hr=>by simp only[R,T.flat]at hr hf ⊢;exact zNN xs p p' 0 hf h hr
 |.any,_,_,hf,_,_|.same _ _,_,_,hf,_,_|.addr _ _,_,_,hf,_,_|.sub _ _ _ _ _,_,_,hf,_,_|.sl _ _,_,_,hf,_,_|.ptr _,_,_,hf,_,_|.tup _,_,_,hf,_,_=>by simp[T.flat]at hf
theorem zNN:(xs:List T)→ ∀(p p':List Nat)(j:Nat),kS xs=true→(∀z,G2.hd d (z++p')=G.hd s (z++p))→RF St G w s xs p j→RF St G2 w2 d xs p' j
 | [],_,_,_,_,_,_=>by simp only[RF]
 |x::xs,p,p',j,hf,h,hr=>by
  simp only[RF,kS,J4]at hr hf ⊢
  exact⟨zJp x (j::p) (j::p') hf.1 (fun z=>by have:=h (z++[j]);simpa using this) hr.1,zNN xs p p' (j+1) hf.2 h hr.2⟩
end
end
mutual
theorem zGJ:(t:T)→t.flat=true→yD t∧t.okTup=true
 |.lit _,_|.ro _,_=>by simp[yD,yY,T.okTup]
 |.agg xs,h=>by simp only[T.flat]at h;simpa only[yD,yY,T.okTup]using kE xs h
 |.any,h|.same _ _,h|.addr _ _,h|.sub _ _ _ _ _,h|.sl _ _,h|.ptr _,h|.tup _,h=>by simp[T.flat]at h
theorem kE:(xs:List T)→kS xs=true→xH xs∧yR xs=true
 | [],_=>by simp[xH,xW,yR]
 |x::xs,h=>by simp only[kS,J4]at h;simp only[xH,xW,yR,J4];exact⟨⟨(zGJ x h.1).1,(kE xs h.2).1⟩,(zGJ x h.1).2,(kE xs h.2).2⟩
end
theorem zIw:(xs:List T)→kS xs=true→ ∀(i:Nat)(x:T),xs[i]? =some x→x.flat=true
 | [],_,_,_,h=>by simp at h
 |y::ys,hk,i,x,h=>by
  simp only[kS,J4]at hk;cases i with
  |zero=>simp at h;subst h;exact hk.1
  |succ i=>exact zIw ys hk.2 i x (by simpa using h)
mutual
def zEY:T→Bool
 |.lit _=>true
 |.sl _ xs=>zBb xs
 |.agg xs=>zBb xs
 |.ptr t=>zEY t
 |.any|.ro _|.same _ _|.addr _ _|.sub _ _ _ _ _|.tup _=>false
def zBb:List T→Bool
 | []=>true
 |x::xs=>zEY x&&zBb xs
end
theorem zK3:(ys:List T)→zBb ys=true→ ∀u∈ys,∀xs,u≠.tup xs
 | [],_,_,h,_=>by simp at h
 |y::ys,hr,u,h,xs=>by
  simp only[zBb,J4]at hr;rcases Jd.1 h with rfl|h
  ·rintro rfl;simp[zEY]at hr
  ·exact zK3 ys hr.2 u h xs
theorem zFI:(ys:List T)→(roT.roTs ys).length=ys.length
 | []=>rfl
 |y::ys=>by simp[roT.roTs,zFI ys]
theorem zGK{k:Nat}:(ys:List T)→(∀u∈ys,u.size=k)→(∀u∈ys,∀xs,u≠.tup xs)→ ∀u∈roT.roTs ys,u.size=k
 | [],_,_,u,h=>by simp[roT.roTs]at h
 |y::ys,h1,h2,u,h=>by
  simp only[roT.roTs,Jd]at h;rcases h with rfl|h
  ·rw[zEe y (h2 y (by simp))];exact h1 y (by simp)
  ·exact zGK ys (fun v hv=>h1 v (by simp[hv])) (fun v hv=>h2 v (by simp[hv])) u h
theorem zK4:(ys:List T)→ ∀(j:Nat)(u:T),(roT.roTs ys)[j]? =some u→ ∃u0,ys[j]? =some u0∧u=roT u0
 | [],_,_,h=>by simp[roT.roTs]at h
 |y::ys,j,u,h=>by
  cases j with
  |zero=>simp[roT.roTs]at h;exact⟨y,by simp,h.symm⟩
  |succ j=>
   obtain⟨u0,h1,h2⟩:=zK4 ys j u (by simpa[roT.roTs]using h);exact⟨u0,by simpa using h1,h2⟩
theorem zNO{St:Stb}{G2:Gh}{d:Nat}:(ys:List T)→ ∀(cs':Array Value)(o' k n:Nat),RoL St ys cs' o' k→(∀u∈ys,u.size=k)→(∀j u,ys[j]? =some u→ ∀z',G2.hd d (z'++[n+j])=jM (zD5 u cs' (o'+j*k) z'.reverse))→
  ∀(i:Nat)(v:Value),(yF G2 d (roT.roTs ys) [] n)[i]? =some v→cs'[o'+i]? =some v
 | [],_,_,_,_,_,_,_,i,v,hv=>by simp[roT.roTs,yF]at hv
 |y::ys,cs',o',k,n,h,hs,hd,i,v,hv=>by
  simp only[RoL]at h;simp only[roT.roTs,yF]at hv;have hnt:∀xs,y≠.tup xs:=by rintro xs rfl;simp only[RoC]at h;exact h.1
  have hnt':∀xs,roT y≠.tup xs:=fun xs e=>by cases y<;>simp[roT]at e
  have hl:(vals G2 d (roT y) [n]).length=k:=by rw[wS _ _ hnt',zEe y hnt,hs y (by simp)]
  rw[L4]at hv;split at hv
  ·exact zG4 y cs' o' [n] (fun z'=>by simpa using hd 0 y (by simp) z') h.1 i v hv
  ·have:=zNO ys cs' (o'+k) k (n+1) h.2 (fun u hu=>hs u (by simp[hu])) (fun j u hu z'=>by
    have:=hd (j+1) u (by simpa using hu) z'
    rwa [show n+(j+1)=n+1+j from by omega,show o'+(j+1)*k=o'+k+j*k from by rw[Jy];omega]at this) _ v hv
   rwa [hl,show o'+k+(i-k)=o'+i from by omega]at this
mutual
theorem zPf{G:Gh}(hg:∀s z,(G.hd s z).oneCell'=true){s:Nat}:(t:T)→ ∀(p:List Nat)(v:Value),v∈vals G s t p→v.oneCell'=true
 |.agg xs,p,v,h=>by simp only[vals]at h;exact zDA hg xs p 0 v h
 |.any,p,v,h|.lit _,p,v,h|.ro _,p,v,h|.same _ _,p,v,h|.addr _ _,p,v,h|.sub _ _ _ _ _,p,v,h|.sl _ _,p,v,h|.ptr _,p,v,h|.tup _,p,v,h=>by simp only[vals,List.mem_singleton]at h;rw[h];exact hg s p
theorem zDA{G:Gh}(hg:∀s z,(G.hd s z).oneCell'=true){s:Nat}:(xs:List T)→ ∀(p:List Nat)(j:Nat)(v:Value),v∈yF G s xs p j→v.oneCell'=true
 | [],_,_,_,h=>by simp[yF]at h
 |x::xs,p,j,v,h=>by
  simp only[yF,Jj]at h;rcases h with h|h
  ·exact zPf hg x _ v h
  ·exact zDA hg xs p _ v h
end
theorem zCe{G G2:Gh}{s d:Nat}:(us:List T)→ ∀(n j:Nat),(∀i z,G2.hd d (z++[n+i])=G.hd s (z++[j+i]))→yF G2 d us [] n=yF G s us [] j
 | [],_,_,_=>by simp only[yF]
 |x::xs,n,j,h=>by
  have ih:yF G2 d xs [] (n+1)=yF G s xs [] (j+1):=zCe xs (n+1) (j+1) (fun i z=>by rw[show n+1+i=n+(i+1)from by omega,show j+1+i=j+(i+1)from by omega];exact h (i+1) z)
  simp only[yF];rw[ih,zA6 x [j] [n] (by simpa using h 0)]
theorem zEk{G G2:Gh}{s d:Nat}:(us:List T)→ ∀(n j:Nat)(q:List Nat),(∀i z,G2.hd d (z++[n+i])=G.hd s (z++((j+i)::q)))→yF G2 d us [] n=yF G s us q j
 | [],_,_,_,_=>by simp only[yF]
 |x::xs,n,j,q,h=>by
  have ih:yF G2 d xs [] (n+1)=yF G s xs q (j+1):=zEk xs (n+1) (j+1) q (fun i z=>by rw[show n+1+i=n+(i+1)from by omega,show j+1+i=j+(i+1)from by omega];exact h (i+1) z)
  simp only[yF];rw[ih,zA6 x (j::q) [n] (by simpa using h 0)]
section
variable {P:Program}{Γ:Ctx}{E:Env}{o:Oper}{d:Nat}
theorem zNP{St:Stb}{G:Gh}{w:World}{r:Nat}{q:List Nat}{k:Nat}{us:List T}(h:R St G w r (.sl k us) q){size:Nat}(hk:size=k):
  ∃xa c,G.hd r q=.slice xa us.length c∧ ∀w2:World,w2.heap=w.heap→(Builtin.firstCells size us.length (.slice xa us.length c)).run P w2=.ok (yF G r us q 0).toArray w2:=by
 simp only[R]at h;rcases h with⟨rfl,a1,h1⟩|⟨b,cap,cs,et,h1,h2,h3,h4,h5,h6,h7,h8⟩
 ·exact⟨a1,0,h1,fun w2 _=>by cases a1<;>simp[Builtin.firstCells,loadCells,loadCellsFrom,yF]⟩
 ·refine⟨_,_,h1,fun w2 hw2=>?_⟩
  have hl:=zAp us q 0 b 0 h8;refine run_firstCells_some (P:=P) w2 size us.length ⟨b,0,none⟩ _ _ _ ?_ (fun j v hv=>?_)
  ·rw[wR,hk]
   exact wT us (zBa us q 0 b 0 h8).2
  ·have:=zAV us q 0 b 0 hl j v hv
   rw[uM];simp only[yP]at this;simpa[World.cell?,hw2]using this
theorem zBc{G:Gh}{a:Act}{w:World}(hrep:Rep Γ E G a.tmps w){s:Nat}{t:T}(h:E s=some t)(ht:t.single=true):a.eval (.tmp s)=G.hd s []:=by rw[wK (hrep.ent s t h).1,xP ht]
theorem zJq(t e:TypeId)(ti:TypeInfo)(z:Value)(k s0 y:Nat)(xs us:List T)(ho:o.op=.call { callee:=.builtin .append,args:=#[.tmp s0,.tmp y],argTypes:=#[t,t] })(hdst:o.dst=some d)(hd:d<Γ.N)
  (ht:P.underlying t=some (.slice e))(hi:P.info? e=some ti)(hz:ti.zero=some z)(hk:ti.size=k)(hk0:0<k)(hzk:z.cells.size=k)(hb:ti.bytes≤2048)
  (hs0:E s0=some (.sl k xs))(hy:E y=some (.sl k us))(hs0d:s0≠d)(hyd:y≠d)(hys:y≠s0)(hnm:xs.length+us.length≤68719476736):
  wN P Γ o E (E.app (aWr d s0 (some y) k (xs++us)) (zA1 d s0 (some y))):=by
 refine wN.value hdst fun a w G hrep=>?_
 obtain⟨_,y2,y3⟩:=hrep.ent y _ hy;simp only[Top]at y3;obtain⟨xa,c,h1,h2⟩:=zNP (P:=P) y2 hk;have hus:yR us=true∧ ∀u∈us,u.size=k:=by
  simp only[R]at y2;rcases y2 with⟨rfl,_⟩|⟨b,cap,cs,et,_,_,_,_,_,_,_,h8⟩
  ·simp[yR]
  ·exact⟨jY (St:=Γ.St) (k:=k) us [] 0 b 0 (zAp us [] 0 b 0 h8),(zBa us [] 0 b 0 h8).2⟩
 have hn:zGI Γ E G d s0 (some y) k xs.length us (fun j z'=>G.hd y (z'++[j])) (yF G y us [] 0):=
  ⟨hus.2,hus.1,y3,fun j z'=>hrep.mem.one _ _,by rw[wR];exact wT us hus.2,fun y' hy'=>by simp at hy';subst hy';exact⟨hyd,hys,hy,fun _ _=>rfl⟩,fun h=>by simp at h,
   fun G2 hG2 o v hv=>by rw[←zCe us xs.length 0 (fun i z'=>by rw[hG2,Jf])];exact hv⟩
 obtain⟨v,w',hrun,G',hG'⟩:=zB3 (P:=P) (ty:=o.type) hrep hd ht hi hz hk hk0 hzk hb hs0 hs0d hn (xv:=a.eval (.tmp y)) ⟨.inl ⟨e,xa,c,ht,by rw[zBc hrep hy rfl,h1],h2⟩⟩ (fun v hv=>zCM hrep.mem us [] 0 v hv) hnm;refine⟨v,w',?_,G',hG'⟩;rw[←zBc hrep hs0 rfl]at hrun;simp[execOp,ho,resolve,invoke,builtin,hrun]
theorem zJr(t e:TypeId)(ti:TypeInfo)(z:Value)(k s0:Nat)(y:Operand)(r:Nat)(q:List Nat)(xs us:List T)(ho:o.op=.call { callee:=.builtin .append,args:=#[.tmp s0,y],argTypes:=#[t,t] })(hdst:o.dst=some d)(hd:d<Γ.N)
  (ht:P.underlying t=some (.slice e))(hi:P.info? e=some ti)(hz:ti.zero=some z)(hk:ti.size=k)(hk0:0<k)(hzk:z.cells.size=k)(hb:ti.bytes≤2048)
  (hs0:E s0=some (.sl k xs))(hy:tH E y=some (r,q,.sl k us))(hf:kS us=true)(hs0d:s0≠d)(hnm:xs.length+us.length≤68719476736):
  wN P Γ o E (E.app (aWr d s0 none k (xs++us)) (zA1 d s0 none)):=by
 refine wN.value hdst fun a w G hrep=>?_
 obtain⟨y2,y1⟩:=qY hrep hy rfl;obtain⟨xa,c,h1,h2⟩:=zNP (P:=P) y2 hk;have hus:(∀u∈us,u.size=k)∧ ∀j u,us[j]? =some u→R Γ.St G w r u (j::q):=by
  simp only[R]at y2;rcases y2 with⟨rfl,_⟩|⟨b,cap,cs,et,_,_,_,_,_,_,_,h8⟩
  ·simp
  ·refine⟨(zBa us q 0 b 0 h8).2,fun j u hu=>?_⟩
   have:=(jJ us q 0 b 0 k j u h8 hu).2.2;simpa using this
 have hcl:=kE us hf;have hn:zGI Γ E G d s0 none k xs.length us (fun j z'=>G.hd r (z'++(j::q))) (yF G r us q 0):=
  ⟨hus.1,hcl.2,hcl.1,fun j z'=>hrep.mem.one _ _,by rw[wR];exact wT us hus.1,fun y' hy'=>by simp at hy',
   fun _ j u hu G2 w2 hG2=>zJp u (j::q) [xs.length+j] (zIw us hf j u hu) (fun z'=>hG2 z') (hus.2 j u hu),
   fun G2 hG2 o v hv=>by rw[←zEk us xs.length 0 q (fun i z'=>by rw[hG2,Jf])];exact hv⟩
 obtain⟨v,w',hrun,G',hG'⟩:=zB3 (P:=P) (ty:=o.type) hrep hd ht hi hz hk hk0 hzk hb hs0 hs0d hn (xv:=a.eval y) ⟨.inl ⟨e,xa,c,ht,by rw[y1,h1],h2⟩⟩ (fun v hv=>zCM hrep.mem us q 0 v hv) hnm;refine⟨v,w',?_,G',hG'⟩;rw[←zBc hrep hs0 rfl]at hrun;simp[execOp,ho,resolve,invoke,builtin,hrun]
mutual
theorem zQB:(u:T)→zEY u=true→(roT u).flat=true
 |.agg xs,h=>by simp only[zEY]at h;simp only[roT,T.flat];exact zEZ xs h
 |.lit _,_|.sl _ _,_|.ptr _,_=>by simp[roT,T.flat]
 |.any,h|.ro _,h|.same _ _,h|.addr _ _,h|.sub _ _ _ _ _,h|.tup _,h=>by simp[zEY]at h
theorem zEZ:(xs:List T)→zBb xs=true→kS (roT.roTs xs)=true
 | [],_=>by simp[roT.roTs,kS]
 |x::xs,h=>by simp only[zBb,J4]at h;simp only[roT.roTs,kS,J4];exact⟨zQB x h.1,zEZ xs h.2⟩
end
theorem zJs(t e:TypeId)(ti:TypeInfo)(z:Value)(k s0:Nat)(y:Operand)(r:Nat)(q:List Nat)(xs ys:List T)(ho:o.op=.call { callee:=.builtin .append,args:=#[.tmp s0,y],argTypes:=#[t,t] })(hdst:o.dst=some d)(hd:d<Γ.N)
  (ht:P.underlying t=some (.slice e))(hi:P.info? e=some ti)(hz:ti.zero=some z)(hk:ti.size=k)(hk0:0<k)(hzk:z.cells.size=k)(hb:ti.bytes≤2048)
  (hs0:E s0=some (.sl k xs))(hy:tH E y=some (r,q,.ro (.sl k ys)))(hro:zBb ys=true)(hys:∀u∈ys,u.size=k)(hs0d:s0≠d)(hnm:xs.length+ys.length≤68719476736):
  wN P Γ o E (E.app (aWr d s0 none k (xs++roT.roTs ys)) (zA1 d s0 none)):=by
 refine wN.value hdst fun a w G hrep=>?_
 obtain⟨y2,y1⟩:=qY hrep hy rfl;obtain⟨xa,c,h1,h2,h3,h4⟩:=zCI y2;have hf:=zEZ ys hro;have hcl:=kE _ hf;have hlen:(roT.roTs ys).length=ys.length:=zFI ys;have hsz:∀u∈roT.roTs ys,u.size=k:=zGK ys hys (fun u hu=>zK3 ys hro u hu);obtain⟨cs',o',h5,h6⟩:∃(cs':Array Value)(o':Nat),RoL Γ.St ys cs' o' k∧(ys≠[]→ ∃b et fr,xa=some ⟨b,o',none⟩∧Γ.St b=some (.cells cs' et fr)):=by
  by_cases hne:ys=[]
  ·subst hne;exact⟨#[],0,by simp[RoL],fun h=>absurd rfl h⟩
  ·obtain⟨b,o',cs',et,fr,h5,h6,h7⟩:=h4 hne
   exact⟨cs',o',h7,fun _=>⟨b,et,fr,h5,h6⟩⟩
 let f2:Nat→List Nat→Value:=fun j z'=>match ys[j]? with
  |some u=>jM (zD5 u cs' (o'+j*k) z'.reverse)
  |none=>.bool false
 have hf2:∀j u,ys[j]? =some u→ ∀z',f2 j z'=jM (zD5 u cs' (o'+j*k) z'.reverse):=fun j u hu z'=>by simp[f2,hu]
 let G0:Gh:={ G with hd:=fun s z'=>if s=d then(match z'.getLast? with
  |some j=>f2 j z'.dropLast
  |none=>.bool false)else G.hd s z' }
 have hG0:∀j z',G0.hd d (z'++[j])=f2 j z':=fun j z'=>by simp[G0]
 have hvals:∀(G2:Gh)(n:Nat),(∀j z',G2.hd d (z'++[n+j])=f2 j z')→ ∀(i:Nat)(v:Value),(yF G2 d (roT.roTs ys) [] n)[i]? =some v→cs'[o'+i]? =some v:=by intro G2 n hG2 i v hv;exact zNO ys cs' o' k n h5 hys (fun j u hu z'=>by rw[hG2,hf2 j u hu]) i v hv
 have hload:∀w2:World,w2.heap=w.heap→(Builtin.firstCells ti.size ys.length (.slice xa ys.length c)).run P w2=.ok (yF G0 d (roT.roTs ys) [] 0).toArray w2:=by
  intro w2 hw2
  by_cases hne:ys=[]
  ·subst hne
   cases xa<;>simp[Builtin.firstCells,loadCells,loadCellsFrom,roT.roTs,yF]
  ·obtain⟨b,et,fr,rfl,h7⟩:=h6 hne
   refine run_firstCells_some (P:=P) w2 ti.size ys.length ⟨b,o',none⟩ _ _ _ ?_ (fun j v hv=>?_)
   ·rw[wR,hk,wT _ hsz,hlen]
   ·have:=hvals G0 0 (fun j z'=>by rw[Jf];exact hG0 j z') j v hv
    rw[uM];have h8:=hrep.mem.st b _ h7;simp[World.cell?,hw2,h8,this]
 have hone2:∀j z',(f2 j z').oneCell'=true:=fun j z'=>by
  dsimp only[f2];split
  ·exact zAW _
  ·rfl
 have hn:zGI Γ E G d s0 none k xs.length (roT.roTs ys) f2 (yF G0 d (roT.roTs ys) [] 0):=by
  refine⟨hsz,hcl.2,hcl.1,hone2,by rw[wR];exact wT _ hsz,fun y' hy'=>by simp at hy',fun _ j u hu G2 w2 hG2=>?_,fun G2 hG2 i v hv=>?_⟩
  ·obtain⟨u0,hu0,rfl⟩:=zK4 ys j u hu
   exact zQ2 u0 cs' (o'+j*k) [xs.length+j] (fun z'=>by rw[hG2 z',hf2 j u0 hu0]) (zGi ys cs' o' k j u0 h5 hu0)
  ·rw[←zCe (roT.roTs ys) xs.length 0 (fun i z'=>by rw[hG2,Jf];exact(hG0 i z').symm)]
   exact hv
 have hones:∀v∈yF G0 d (roT.roTs ys) [] 0,v.oneCell'=true:=by
  intro v hv;refine zDA (fun s z'=>?_) _ [] 0 v hv;simp only[G0];split
  ·split
   ·exact hone2 _ _
   ·rfl
  ·exact hrep.mem.one _ _
 have happ:zGH P t e ti (a.eval y) (roT.roTs ys).length (yF G0 d (roT.roTs ys) [] 0) w:=⟨.inl ⟨e,xa,c,ht,by rw[y1,h1,hlen],by rw[hlen];exact hload⟩⟩;obtain⟨v,w',hrun,G',hG'⟩:=zB3 (P:=P) (ty:=o.type) hrep hd ht hi hz hk hk0 hzk hb hs0 hs0d hn happ hones (by rw[hlen];exact hnm);refine⟨v,w',?_,G',hG'⟩;rw[←zBc hrep hs0 rfl]at hrun;simp[execOp,ho,resolve,invoke,builtin,hrun]
end
end Go.Ab

namespace Go.Ab
open Go
theorem zFJ:(us:List T)→sA us=us.flatMap tK
 | []=>rfl
 |u::us=>by simp[sA,zFJ us]
theorem zCf(u:T)(h:u.zOk=true):∀m,zAa (J1 m u)=true
 |0=>rfl
 |m+1=>by simp[Jo,zAa,h,zCf u h m]
section
variable {P:Program}{Γ:Ctx}{E:Env}{o:Oper}{d:Nat}
theorem zGL(t t2 e:TypeId)(k2:IntKind)(ti:TypeInfo)(z:Value)(u:T)(k s0:Nat)(y:Operand)(kd:IntKind)(m:Nat)(xs:List T)(ho:o.op=.call { callee:=.builtin .append,args:=#[.tmp s0,y],argTypes:=#[t,t2] })(hdst:o.dst=some d)(hd:d<Γ.N)
  (ht:P.underlying t=some (.slice e))(ht2:P.underlying t2=some (.int k2))(hi:P.info? e=some ti)(hz:ti.zero=some z)(hk:ti.size=k)(hk0:0<k)(hb:ti.bytes≤2048)(hu:u.zOk=true)(hv:tK u=z.cells.toList)(hus:u.size=k)
  (hs0:E s0=some (.sl k xs))(hy:opT E y=some (.lit (.int kd m)))(hs0d:s0≠d)(hnm:xs.length+m≤68719476736):
  wN P Γ o E (E.app (aWr d s0 none k (xs++J1 m u)) (zA1 d s0 none)):=by
 refine wN.value hdst fun a w G hrep=>?_
 have hzk:z.cells.size=k:=by rw[←Kf,←hv,wV u hu,hus]
 have hzo:=zCf u hu m;have hcl:=zB2 _ hzo
 let f2:Nat→List Nat→Value:=fun _ z'=>jM (zhd u z'.reverse)
 have hnvl:((Builtin.zeroCells z.cells m).toList).length=m*k:=by simp[Builtin.zeroCells,hzk]
 have hn:zGI Γ E G d s0 none k xs.length (J1 m u) f2 (Builtin.zeroCells z.cells m).toList:=by
  refine⟨fun x hx=>by simp at hx;rw[hx.2];exact hus,hcl.2,hcl.1,fun _ _=>zAW _,by rw[hnvl];simp,fun y' hy'=>by simp at hy',fun _ j x hx G2 w2 hG2=>?_,fun G2 hG2 i v hv'=>?_⟩
  ·rw[Kr]at hx
   split at hx
   ·simp at hx;subst hx;exact zJj u _ hu (fun z'=>hG2 z')
   ·cases hx
  ·have h1:yF G2 d (J1 m u) [] xs.length=sA (J1 m u):=zD7 _ [] xs.length hzo (fun j x hx z'=>by
    rw[Kr]at hx;split at hx
    ·simp at hx;subst hx;exact hG2 j z'
    ·cases hx)
   rw[h1,zFJ]at hv';obtain⟨h2,h3⟩:=zJk tK u k (by rw[wV u hu,hus]) hk0 m i v hv';rw[hv,K7,←hzk]at h3;have h4:i<m*z.cells.size:=by rw[hzk];exact h2
   simp[Builtin.zeroCells,h4,getElem!_def,h3]
 have hone:∀v∈(Builtin.zeroCells z.cells m).toList,v.oneCell'=true:=by
  intro v hv';simp only[Builtin.zeroCells,Array.toList_map,Array.toList_range,Jt,Kq]at hv';obtain⟨i,hi',rfl⟩:=hv';have h1:i%z.cells.size<z.cells.size:=Gd _ (by omega);have h2:z.cells[i%z.cells.size]! =z.cells[i%z.cells.size]:=by simp[h1]
  rw[h2];exact zEW u hu _ (by rw[hv];exact Array.mem_toList_iff.2 (Array.getElem_mem h1))
 have happ:zGH P t2 e ti (a.eval y) (J1 m u).length (Builtin.zeroCells z.cells m).toList w:=by
  refine⟨.inr ⟨k2,kd,z,ht2,?_,hz,by simp,?_,by rw[hzk,hk]⟩⟩
  ·rw[(wO hrep hy).1];simp
  ·simp only[Jh]
   exact L6 (K4 (show m≤68719476736 by omega) hb) (by decide)
 obtain⟨v,w',hrun,G',hG'⟩:=zB3 (P:=P) (ty:=o.type) hrep hd ht hi hz hk hk0 hzk hb hs0 hs0d hn happ hone (by simpa using hnm);refine⟨v,w',?_,G',hG'⟩;rw[←zBc hrep hs0 rfl]at hrun;simp[execOp,ho,resolve,invoke,builtin,hrun]
end
end Go.Ab

namespace Go.Ab
open Go
def zK5(G:Gh)(nd:List (Nat×List Nat×T)):Value:=
 match nd with
 | [x]=>tZ G x.1 x.2.2 x.2.1
 |nd=>.tuple (nd.map fun x=>tZ G x.1 x.2.2 x.2.1).toArray
def FnC(P:Program)(f:FuncId)(us:List T)(res:List T)(rws:List (Nat×T)):Prop:=
 ∀(St:Stb)(W:Nat→Prop)(w:World)(G:Gh)(vs:Array Value),vs.size=us.length→
  (∀(i:Nat) u,us[i]? =some u→vs[i]? =some (mkV G i u [])∧R St G w i u [])→Mem ⟨St,W,w,0⟩ G w→
  Calls P f vs w fun e w'=> ∃(S':Stb)(G':Gh)(nd:List (Nat×List Nat×T)),zDg St S' W w.heap.size∧e=.returned (zK5 G' nd)∧Mem ⟨S',W,w,0⟩ G' w'∧nd.map (·.2.2)=res∧
   (∀x∈nd,R S' G' w' x.1 x.2.2 x.2.1∧us.length≤x.1)∧(nd.map (·.1)).Nodup∧
   ∀i u',(i,u')∈rws→R S' G' w' i u' []∧ ∃u,us[i]? =some u∧mkV G' i u' []=mkV G i u []
mutual
def vG:T→Bool
 |.ro _=>false
 |.sl _ xs|.agg xs|.tup xs=>uE xs
 |.ptr t=>vG t
 |.any|.lit _|.same _ _|.addr _ _|.sub _ _ _ _ _=>true
def uE:List T→Bool
 | []=>true
 |x::xs=>vG x&&uE xs
end
section
variable {St St':Stb}{G:Gh}{w:World}{s:Nat}
mutual
theorem zPg:(t:T)→ ∀(p:List Nat),vG t=true→R St G w s t p→R St' G w s t p
 |.ro _,_,h,_=>by simp[vG]at h
 |.sl k xs,p,h,hr=>by
  simp only[vG,R]at h hr ⊢
  rcases hr with hr|⟨b,cap,cs,e,h1,h2,h3,h4,h5,h6,h7,h8⟩
  ·exact .inl hr
  ·exact .inr ⟨b,cap,cs,e,h1,h2,h3,h4,h5,h6,h7,zVb xs p 0 b 0 k h h8⟩
 |.agg xs,p,h,hr|.tup xs,p,h,hr=>by simp only[vG,R]at h hr ⊢;exact zVc xs p 0 h hr
 |.ptr t,p,h,hr=>by
  simp only[vG,R]at h hr ⊢
  obtain⟨b,cs,e,h1,h2,h3,h6,h4,h5⟩:=hr;exact⟨b,cs,e,h1,h2,h3,h6,h4,zPg t _ h h5⟩
 |.any,_,_,hr|.lit _,_,_,hr|.same _ _,_,_,hr|.addr _ _,_,_,hr|.sub _ _ _ _ _,_,_,hr=>by first|(simp only[R];done)|simpa only[R]using hr
theorem zVb:(xs:List T)→ ∀(p:List Nat)(i b o k:Nat),uE xs=true→RL St G w s xs p i b o k→RL St' G w s xs p i b o k
 | [],_,_,_,_,_,_,_=>by simp only[RL]
 |x::xs,p,i,b,o,k,h,hr=>by
  simp only[uE,J4,RL]at h hr ⊢
  exact⟨hr.1,zPg x _ h.1 hr.2.1,zVb xs p (i+1) b _ k h.2 hr.2.2⟩
theorem zVc:(xs:List T)→ ∀(p:List Nat)(i:Nat),uE xs=true→RF St G w s xs p i→RF St' G w s xs p i
 | [],_,_,_,_=>by simp only[RF]
 |x::xs,p,i,h,hr=>by
  simp only[uE,J4,RF]at h hr ⊢
  exact⟨zPg x _ h.1 hr.1,zVc xs p (i+1) h.2 hr.2⟩
end
end
section
variable {St St':Stb} (h:∀b x,St b=some x→St' b=some x)
 include h
mutual
theorem tS:(t:T)→ ∀(cs:Array Value)(o:Nat),RoC St t cs o→RoC St' t cs o
 |.sl k xs,cs,o,hr=>by
  simp only[RoC]at hr ⊢
  obtain⟨a,c,h1,h2,h3,h4⟩:=hr;refine⟨a,c,h1,h2,h3,fun hne=>?_⟩;obtain⟨b,o',cs',e,fr,h5,h6,h7⟩:=h4 hne;exact⟨b,o',cs',e,fr,h5,h b _ h6,zK6 xs cs' o' k h7⟩
 |.agg xs,cs,o,hr=>by simp only[RoC]at hr ⊢;exact zK7 xs cs o hr
 |.ptr t,cs,o,hr=>by
  simp only[RoC]at hr ⊢
  obtain⟨b,o',cs',e,fr,h5,h6,h7⟩:=hr;exact⟨b,o',cs',e,fr,h5,h b _ h6,tS t cs' o' h7⟩
 |.any,_,_,hr|.lit _,_,_,hr|.ro _,_,_,hr|.same _ _,_,_,hr|.addr _ _,_,_,hr|.sub _ _ _ _ _,_,_,hr|.tup _,_,_,hr=>by first|(simp only[RoC]at hr;done)|simpa only[RoC]using hr
theorem zK6:(xs:List T)→ ∀(cs:Array Value)(o k:Nat),RoL St xs cs o k→RoL St' xs cs o k
 | [],_,_,_,_=>by have _:=h;simp only[RoL]
 |x::xs,cs,o,k,hr=>by simp only[RoL]at hr ⊢;exact⟨tS x cs o hr.1,zK6 xs cs _ k hr.2⟩
theorem zK7:(xs:List T)→ ∀(cs:Array Value)(o:Nat),RoF St xs cs o→RoF St' xs cs o
 | [],_,_,_=>by have _:=h;simp only[RoF]
 |x::xs,cs,o,hr=>by simp only[RoF]at hr ⊢;exact⟨tS x cs o hr.1,zK7 xs cs _ hr.2⟩
end
end
section
variable {St St':Stb}{G:Gh}{w:World}{s:Nat} (h:∀b x,St b=some x→St' b=some x)
 include h
mutual
theorem zJt:(t:T)→ ∀(p:List Nat),R St G w s t p→R St' G w s t p
 |.ro t,_,hr=>by simp only[R]at hr ⊢;exact tS h t _ _ hr
 |.sl k xs,p,hr=>by
  simp only[R]at hr ⊢
  rcases hr with hr|⟨b,cap,cs,e,h1,h2,h3,h4,h5,h6,h7,h8⟩
  ·exact .inl hr
  ·exact .inr ⟨b,cap,cs,e,h1,h2,h3,h4,h5,h6,h7,zNQ xs p 0 b 0 k h8⟩
 |.agg xs,p,hr|.tup xs,p,hr=>by simp only[R]at hr ⊢;exact zNR xs p 0 hr
 |.ptr t,p,hr=>by
  simp only[R]at hr ⊢
  obtain⟨b,cs,e,h1,h2,h3,h6,h4,h5⟩:=hr;exact⟨b,cs,e,h1,h2,h3,h6,h4,zJt t _ h5⟩
 |.any,_,hr|.lit _,_,hr|.same _ _,_,hr|.addr _ _,_,hr|.sub _ _ _ _ _,_,hr=>by first|(simp only[R];done)|simpa only[R]using hr
theorem zNQ:(xs:List T)→ ∀(p:List Nat)(i b o k:Nat),RL St G w s xs p i b o k→RL St' G w s xs p i b o k
 | [],_,_,_,_,_,_=>by have _:=h;simp only[RL]
 |x::xs,p,i,b,o,k,hr=>by simp only[RL]at hr ⊢;exact⟨hr.1,zJt x _ hr.2.1,zNQ xs p (i+1) b _ k hr.2.2⟩
theorem zNR:(xs:List T)→ ∀(p:List Nat)(i:Nat),RF St G w s xs p i→RF St' G w s xs p i
 | [],_,_,_=>by have _:=h;simp only[RF]
 |x::xs,p,i,hr=>by simp only[RF]at hr ⊢;exact⟨zJt x _ hr.1,zNR xs p (i+1) hr.2⟩
end
end
mutual
def strip:T→T
 |.lit v=>.lit v
 |.ro u=>if u.single then u else .any
 |.sl k xs=>.sl k (wU xs)
 |.agg xs=>.agg (wU xs)
 |.ptr t=>.ptr (strip t)
 |.any|.same _ _|.addr _ _|.sub _ _ _ _ _|.tup _=>.any
def wU:List T→List T
 | []=>[]
 |x::xs=>strip x::wU xs
end
theorem jZ:(xs:List T)→(wU xs).length=xs.length
 | []=>rfl
 |x::xs=>by simp[wU,jZ xs]
mutual
theorem zDB:(t:T)→(strip t).size=t.size
 |.agg xs=>by simp only[strip,T.size];exact zFK xs
 |.ro u=>by
  simp only[strip];split
  ·rename_i h;cases u<;>simp[T.single]at h<;>simp[T.size]
  ·simp[T.size]
 |.lit _|.sl _ _|.ptr _|.any|.same _ _|.addr _ _|.sub _ _ _ _ _|.tup _=>by simp[strip,T.size]
theorem zFK:(xs:List T)→T.sizes (wU xs)=T.sizes xs
 | []=>rfl
 |x::xs=>by simp only[wU,T.sizes,zDB x,zFK xs]
end
theorem qV{St:Stb}{u:T}(hu:u.single=true){v:Value}{cs:Array Value}{o:Nat}(h:RoC St u #[v] 0)(hc:cs[o]? =some v):RoC St u cs o:=by
 cases u<;>simp[T.single]at hu<;>simp only[RoC]at h ⊢ <;>simp at h<;>first
  |exact⟨v,hc,h⟩
  |(obtain⟨rfl,h2⟩:=h;exact⟨hc,h2⟩)
  |(obtain⟨a,c,rfl,h2⟩:=h;exact⟨a,c,hc,by simpa using h2⟩)
  |(obtain⟨b,o',rfl,h2⟩:=h;obtain⟨cs',⟨e,f1,f2,h3⟩,h4⟩:=h2;exact⟨b,o',cs',e,(f1,f2),hc,h3,h4⟩)
section
variable {St Sc:Stb}{G:Gh}{w:World}{s:Nat} (hone:∀s p,(G.hd s p).oneCell'=true) (hSt:∀b x,St b=some x→Sc b=some x) (hSc:∀b,(∃y,G.ow b=some (s,y))→Sc b=w.heap[b]?)
 include hone hSt hSc
mutual
theorem frz:(t:T)→ ∀(p:List Nat)(b o:Nat)(cs:Array Value)(e:TypeId)(fr:Nat×Nat),w.heap[b]? =some (.cells cs e fr)→Loc G w s t p b o→R St G w s t p→RoC Sc (strip t) cs o
 |.agg xs,p,b,o,cs,e,fr,hb,hl,hr=>by simp only[Loc,R,strip,RoC]at hl hr ⊢;exact zX5 xs p 0 b o cs e fr hb hl.2 hr
 |.tup _,_,_,_,_,_,_,_,hl,_=>by have _:=hSc;simp only[Loc]at hl
 |.any,p,b,o,cs,e,fr,hb,hl,hr|.same _ _,p,b,o,cs,e,fr,hb,hl,hr|.addr _ _,p,b,o,cs,e,fr,hb,hl,hr|.sub _ _ _ _ _,p,b,o,cs,e,fr,hb,hl,hr=>by have h1:=(wZ rfl hl).2.2;simp only[yP,World.cell?,hb]at h1;simp only[strip,RoC];exact⟨_,by simpa using h1,hone s p⟩
 |.lit v,p,b,o,cs,e,fr,hb,hl,hr=>by
  have h1:=(wZ rfl hl).2.2;simp only[yP,World.cell?,hb]at h1;simp only[strip,RoC,R]at hr ⊢
  exact⟨by rw[←hr];simpa using h1,by rw[←hr];exact hone s p⟩
 |.ro u,p,b,o,cs,e,fr,hb,hl,hr=>by
  have h1:=(wZ rfl hl).2.2;simp only[yP,World.cell?,hb]at h1;simp only[strip,R]at hr ⊢
  split
  ·rename_i hu
   exact qV hu (tS hSt u _ _ hr) (by simpa using h1)
  ·simp only[RoC];exact⟨_,by simpa using h1,hone s p⟩
 |.sl k xs,p,b,o,cs,e,fr,hb,hl,hr=>by have h1:=(wZ rfl hl).2.2;simp only[yP,World.cell?,hb]at h1;exact qV rfl (zK8 (.sl k xs) p rfl hr) (by simpa using h1)
 |.ptr t,p,b,o,cs,e,fr,hb,hl,hr=>by have h1:=(wZ rfl hl).2.2;simp only[yP,World.cell?,hb]at h1;exact qV rfl (zK8 (.ptr t) p rfl hr) (by simpa using h1)
theorem zX5:(xs:List T)→ ∀(p:List Nat)(j b o:Nat)(cs:Array Value)(e:TypeId)(fr:Nat×Nat),w.heap[b]? =some (.cells cs e fr)→vE G w s xs p j b o→RF St G w s xs p j→RoF Sc (wU xs) cs o
 | [],_,_,_,_,_,_,_,_,_,_=>by have _:=hone;have _:=hSt;have _:=hSc;simp only[wU,RoF]
 |x::xs,p,j,b,o,cs,e,fr,hb,hl,hr=>by
  simp only[vE,RF,wU,RoF]at hl hr ⊢
  exact⟨frz x _ b o cs e fr hb hl.1 hr.1,by rw[zDB];exact zX5 xs p (j+1) b _ cs e fr hb hl.2 hr.2⟩
theorem zX6:(xs:List T)→ ∀(p:List Nat)(i b o k:Nat)(cs:Array Value)(e:TypeId)(fr:Nat×Nat),w.heap[b]? =some (.cells cs e fr)→RL St G w s xs p i b o k→RoL Sc (wU xs) cs o k
 | [],_,_,_,_,_,_,_,_,_,_=>by have _:=hone;have _:=hSt;have _:=hSc;simp only[wU,RoL]
 |x::xs,p,i,b,o,k,cs,e,fr,hb,hr=>by
  simp only[RL,wU,RoL]at hr ⊢
  exact⟨frz x _ b o cs e fr hb hr.1.1 hr.2.1,zX6 xs p (i+1) b _ k cs e fr hb hr.2.2⟩
theorem zK8:(t:T)→ ∀(p:List Nat),t.single=true→R St G w s t p→RoC Sc (strip t) #[G.hd s p] 0
 |.agg _,_,h,_|.tup _,_,h,_=>by simp[T.single]at h
 |.any,p,_,_|.same _ _,p,_,_|.addr _ _,p,_,_|.sub _ _ _ _ _,p,_,_=>by simp only[strip,RoC];exact⟨_,by simp,hone s p⟩
 |.lit v,p,_,hr=>by simp only[strip,RoC,R]at hr ⊢;exact⟨by simp[hr],by rw[←hr];exact hone s p⟩
 |.ro u,p,_,hr=>by
  simp only[strip,R]at hr ⊢
  split
  ·exact tS hSt u _ _ hr
  ·simp only[RoC];exact⟨_,by simp,hone s p⟩
 |.sl k xs,p,_,hr=>by
  simp only[strip,R,RoC]at hr ⊢
  rw[jZ];rcases hr with⟨rfl,a,h1⟩|⟨b,cap,cs,e,h1,h2,h3,h4,h5,h6,h7,h8⟩
  ·exact⟨a,0,by simp[h1],by simp,by simp[maxLen],fun h=>by simp[wU]at h⟩
  ·exact⟨some ⟨b,0,none⟩,cap,by simp[h1],h3,h4,fun _=>⟨b,0,cs,e,(0,0),rfl,by rw[hSc b ⟨_,h6⟩];exact h2,zX6 xs p 0 b 0 k cs e (0,0) h2 h8⟩⟩
 |.ptr t,p,_,hr=>by
  simp only[strip,R,RoC]at hr ⊢
  obtain⟨b,cs,e,h1,h2,h3,h6,h4,h5⟩:=hr;exact⟨b,0,cs,e,(0,0),by simp[h1],by rw[hSc b ⟨_,h6⟩];exact h2,frz t _ b 0 cs e (0,0) h2 h4 h5⟩
end
end
end Go.Ab
