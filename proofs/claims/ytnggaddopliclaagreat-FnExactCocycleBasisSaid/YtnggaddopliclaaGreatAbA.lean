/- The program's CocycleBasis returns what the reference's returns,for all arguments;no conditions. -/
import Derived.Orders
import Derived.Laws.AppendOwn
import Derived.Laws.MakeOwn
import Derived.Great.BuildSlice
import Derived.Laws.Tables
open List renaming replicate→J1,length_append→J5,length_cons→J7,getElem?_append_right→J8,append_nil→J9,append_assoc→Ja,getElem?_eq_some_iff→Jb,mem_cons→Jc,mem_append→Jh,length_replicate→Ji,nil_append→Jj,getElem?_append_left→Jl,cons_append→Jn,mem_map→Jo,replicate_succ→Jq,map_cons→Jt,length_take→Jy,length_nil→K0,getElem?_map→K1,take_succ_cons→K7,eq_nil_of_length_eq_zero→Kb,mem_of_getElem?→Kf,all_eq_true→Kg,mem_range→Kk,getElem?_drop→Kq,reverse_reverse→Ks,set_cons_zero→Ku,getElem?_append→Ky,getElem?_replicate→Kz,ext_getElem?→L7,reverse_nil→Ld,nodup_cons→Lj,set_cons_succ→Lm,flatMap_cons→Ln,reverse_cons→Lz,drop_eq_getElem_cons→H7,take_append_of_le_length→Hb,flatMap_append→Hd,map_nil→Hk,reverse_append→Hn,mem_of_mem_take→Gz,getElem?_take_of_lt→Uh,getElem?_set_self→Uq,foldl_cons→Ut,getElem?_cons_succ→Uw,length_set→Qr,cons→Qu,map_take→Qv,map_toArray→Qy,getElem?_set_ne→Jak,not_mem_nil→Jb7,take_append_drop→Jbk,take_append→Jbr,isEmpty_iff→Jbu,size_toArray→Jc7
open Bool renaming and_eq_true→J4,false_eq_true→Ga,false_and→Jcz
open Array renaming getElem?_setIfInBounds→Jd,getD_eq_getD_getElem?→K4,getElem?_toList→K6,length_toList→Ki,getElem?_eq_some_iff→Kl,range→Jcq,ext'→Jcy
open Nat renaming zero_add→Je,lt_or_ge→Jk,le_refl→Jp,succ_mul→K5,mul_le_mul→Kj,mul_le_mul_right→Km,sub_self→Kr,le_trans→Kv,add_assoc→Lr,min_eq_left→Gd,add_zero→Gf,mod_lt→U6,add_mul→Uu,lt_of_lt_of_le→Jbi,mul_pos→Jc3,add_comm→Jcw
open Int renaming toNat_natCast→Jg,natCast_mul→L8
open Option renaming isSome_none→Q4,map_none→Jbh
open Prod renaming mk→Jb2
namespace Go.Ab
open Go
inductive T where
 |any
 |lit (v:Value)
 |ro (t:T)
 |same (r:Nat) (p:List Nat)
 |addr (r:Nat) (p:List Nat)
 |sub (r:Nat) (p:List Nat) (k lo hi:Nat)
 |sl (k:Nat) (xs:List T)
 |agg (xs:List T)
 |ptr (t:T)
 |tup (xs:List T)
 deriving Inhabited
abbrev Stb:=Nat→Option Obj
mutual
def T.size:T→Nat
 |.agg xs=>T.sizes xs
 |_=>1
def T.sizes:List T→Nat
 | []=>0
 |x::xs=>x.size+T.sizes xs
end
mutual
def RoC(St:Stb):T→Array Value→Nat→Prop
 |.any,cs,o=> ∃v,cs[o]? =some v∧v.oneCell'=true
 |.lit v,cs,o=>cs[o]? =some v∧v.oneCell'=true
 |.ro _,_,_=>False
 |.sl k xs,cs,o=> ∃a c,cs[o]? =some (.slice a xs.length c)∧xs.length≤c∧c≤maxLen∧
   (xs≠[]→ ∃b o' cs' e fr,a=some ⟨b,o',none⟩∧St b=some (.cells cs' e fr)∧RoL St xs cs' o' k)
 |.agg xs,cs,o=>RoF St xs cs o
 |.ptr t,cs,o=> ∃b o' cs' e fr,cs[o]? =some (.pointer (some ⟨b,o',none⟩))∧St b=some (.cells cs' e fr)∧RoC St t cs' o'
 |.same _ _,_,_=>False
 |.addr _ _,_,_=>False
 |.sub _ _ _ _ _,_,_=>False
 |.tup _,_,_=>False
def RoL(St:Stb):List T→Array Value→Nat→Nat→Prop
 | [],_,_,_=>True
 |x::xs,cs,o,k=>RoC St x cs o∧RoL St xs cs (o+k) k
def RoF(St:Stb):List T→Array Value→Nat→Prop
 | [],_,_=>True
 |x::xs,cs,o=>RoC St x cs o∧RoF St xs cs (o+x.size)
end
structure Gh where
 hd:Nat→List Nat→Value
 ad:Nat→List Nat→Addr
 lb:Nat→Nat→Option (Bool×Nat×List Nat)
 ow:Nat→Option (Nat×List Nat)
def yP(w:World)(b o:Nat):Option Value:=w.cell? ⟨b,o,none⟩
mutual
def Loc(G:Gh)(w:World)(s:Nat):T→List Nat→Nat→Nat→Prop
 |.agg xs,p,b,o=>G.ad s p=⟨b,o,none⟩∧vF G w s xs p 0 b o
 |.tup _,_,_,_=>False
 |.any,p,b,o|.lit _,p,b,o|.ro _,p,b,o|.same _ _,p,b,o|.addr _ _,p,b,o|.sub _ _ _ _ _,p,b,o|.sl _ _,p,b,o|.ptr _,p,b,o=>
  G.ad s p=⟨b,o,none⟩∧G.lb b o=some (false,s,p)∧yP w b o=some (G.hd s p)
def vF(G:Gh)(w:World)(s:Nat):List T→List Nat→Nat→Nat→Nat→Prop
 | [],_,_,_,_=>True
 |x::xs,p,j,b,o=>Loc G w s x (j::p) b o∧vF G w s xs p (j+1) b (o+x.size)
end
def zAZ(v:Value)(k lo hi:Nat):Value:=
 match v with
 |.slice a _ c=>.slice (if c=lo then a else a.map (·.add (lo*k))) (hi-lo) (c-lo)
 |v=>v
mutual
def R(St:Stb)(G:Gh)(w:World)(s:Nat):T→List Nat→Prop
 |.any,_=>True
 |.lit v,p=>G.hd s p=v
 |.ro t,p=>RoC St t #[G.hd s p] 0
 |.same r q,p=>G.hd s p=G.hd r q
 |.addr r q,p=>G.hd s p=.pointer (some (G.ad r q))
 |.sub r q k lo hi,p=>G.hd s p=zAZ (G.hd r q) k lo hi
 |.sl k xs,p=>(xs=[]∧ ∃a,G.hd s p=.slice a 0 0)∨ ∃b cap cs e,G.hd s p=.slice (some ⟨b,0,none⟩) xs.length cap∧
   w.heap[b]? =some (.cells cs e (0,0))∧xs.length≤cap∧cap≤maxLen∧cap*k≤cs.size∧G.ow b=some (s,p)∧
   (∀o,xs.length*k≤o→o<cap*k→G.lb b o=some (true,s,p))∧RL St G w s xs p 0 b 0 k
 |.agg xs,p=>RF St G w s xs p 0
 |.ptr t,p=> ∃b cs e,G.hd s p=.pointer (some ⟨b,0,none⟩)∧w.heap[b]? =some (.cells cs e (0,0))∧cs.size=t.size∧G.ow b=some (s,p)∧
   Loc G w s t (0::p) b 0∧R St G w s t (0::p)
 |.tup xs,p=>RF St G w s xs p 0
def RL(St:Stb)(G:Gh)(w:World)(s:Nat):List T→List Nat→Nat→Nat→Nat→Nat→Prop
 | [],_,_,_,_,_=>True
 |x::xs,p,i,b,o,k=>(Loc G w s x (i::p) b o∧x.size=k)∧R St G w s x (i::p)∧RL St G w s xs p (i+1) b (o+k) k
def RF(St:Stb)(G:Gh)(w:World)(s:Nat):List T→List Nat→Nat→Prop
 | [],_,_=>True
 |x::xs,p,j=>R St G w s x (j::p)∧RF St G w s xs p (j+1)
end
mutual
def yW(φ:Nat→List Nat→Prop):T→Prop
 |.same r p|.addr r p|.sub r p _ _ _=>φ r p
 |.sl _ xs|.agg xs|.tup xs=>xU φ xs
 |.ptr t=>yW φ t
 |.any|.lit _|.ro _=>True
def xU(φ:Nat→List Nat→Prop):List T→Prop
 | []=>True
 |x::xs=>yW φ x∧xU φ xs
end
mutual
theorem yW.mono{φ ψ:Nat→List Nat→Prop}(h:∀r p,φ r p→ψ r p):(t:T)→yW φ t→yW ψ t
 |.same _ _,ht|.addr _ _,ht|.sub _ _ _ _ _,ht=>h _ _ ht
 |.sl _ xs,ht|.agg xs,ht|.tup xs,ht=>by simp only[yW]at ht ⊢;exact xU.mono h xs ht
 |.ptr t,ht=>by simp only[yW]at ht ⊢;exact yW.mono h t ht
 |.any,_|.lit _,_|.ro _,_=>by simp[yW]
theorem xU.mono{φ ψ:Nat→List Nat→Prop}(h:∀r p,φ r p→ψ r p):(xs:List T)→xU φ xs→xU ψ xs
 | [],_=>trivial
 |x::xs,hx=>⟨yW.mono h x hx.1,xU.mono h xs hx.2⟩
end
mutual
theorem yW.triv{φ:Nat→List Nat→Prop}(h:∀r p,φ r p):(t:T)→yW φ t
 |.same _ _|.addr _ _|.sub _ _ _ _ _=>by simp only[yW];exact h _ _
 |.sl _ xs|.agg xs|.tup xs=>by simp only[yW];exact xU.triv h xs
 |.ptr t=>by simp only[yW];exact yW.triv h t
 |.any|.lit _|.ro _=>by simp only[yW]
theorem xU.triv{φ:Nat→List Nat→Prop}(h:∀r p,φ r p):(xs:List T)→xU φ xs
 | []=>by simp only[xU]
 |x::xs=>by simp only[xU];exact⟨yW.triv h x,xU.triv h xs⟩
end
abbrev yC(t:T):Prop:=yW (fun _ _=>False) t
abbrev xI(xs:List T):Prop:=xU (fun _ _=>False) xs
def Blk(w w':World):Prop:=∀(b:Nat) cs e,w.heap[b]? =some (.cells cs e (0,0))→ ∃cs',w'.heap[b]? =some (.cells cs' e (0,0))∧cs'.size=cs.size
structure MovesE (G:Gh) (w:World) (G':Gh) (w':World) (s:Nat) (p:List Nat) (s':Nat) (p':List Nat):Prop where
 hd:∀z,G'.hd s' (z++p')=G.hd s (z++p)
 ad:∀z,z≠[]→G'.ad s' (z++p')=G.ad s (z++p)
 lb:∀b o f z,z≠[]→(∃y,G.ow b=some (s,y))→G.lb b o=some (f,s,z++p)→G'.lb b o=some (f,s',z++p')∧yP w' b o=yP w b o
 ow:∀b z,z≠[]→G.ow b=some (s,z++p)→G'.ow b=some (s',z++p')
 blk:Blk w w'
structure zIx (G:Gh) (w:World) (G':Gh) (w':World) (s:Nat) (p:List Nat) (s':Nat) (p':List Nat):Prop extends MovesE G w G' w' s p s' p' where
 sp:∀b o,(∃y,G.ow b=some (s,y))→G.lb b o=some (true,s,p)→G'.lb b o=some (true,s',p')∧yP w' b o=yP w b o
 ow0:∀b,G.ow b=some (s,p)→G'.ow b=some (s',p')
def kY(G G':Gh)(r:Nat)(p:List Nat):Prop:=G'.hd r p=G.hd r p∧G'.ad r p=G.ad r p
section
variable {St:Stb}{G:Gh}{w:World}{G':Gh}{w':World}{s:Nat}{p:List Nat}{s':Nat}{p':List Nat}
mutual
theorem zEk(hm:MovesE G w G' w' s p s' p'):(t:T)→ ∀(z:List Nat)(b o:Nat),z≠[]→(∃y,G.ow b=some (s,y))→Loc G w s t (z++p) b o→Loc G' w' s' t (z++p') b o
 |.agg xs,z,b,o,hz,hob,h=>by
  simp only[Loc]at h ⊢
  exact⟨(hm.ad z hz).trans h.1,zIy hm xs z 0 b o hob h.2⟩
 |.any,z,b,o,hz,hob,h|.lit _,z,b,o,hz,hob,h|.ro _,z,b,o,hz,hob,h|.same _ _,z,b,o,hz,hob,h|.addr _ _,z,b,o,hz,hob,h|.sub _ _ _ _ _,z,b,o,hz,hob,h|.sl _ _,z,b,o,hz,hob,h|.ptr _,z,b,o,hz,hob,h=>by
  simp only[Loc]at h ⊢
  obtain⟨h1,h2,h3⟩:=h;have hl:=hm.lb b o false z hz hob h2;exact⟨(hm.ad z hz).trans h1,hl.1,by rw[hl.2,h3,hm.hd]⟩
 |.tup _,_,_,_,_,_,h=>by simp only[Loc]at h
theorem zIy(hm:MovesE G w G' w' s p s' p'):(xs:List T)→ ∀(z:List Nat)(j b o:Nat),(∃y,G.ow b=some (s,y))→vF G w s xs (z++p) j b o→vF G' w' s' xs (z++p') j b o
 | [],_,_,_,_,_,_=>by simp only[vF]
 |x::xs,z,j,b,o,hob,h=>by
  simp only[vF]at h ⊢
  exact⟨zEk hm x (j::z) b o (by simp) hob h.1,zIy hm xs z (j+1) b _ hob h.2⟩
end
mutual
theorem zEl(hm:MovesE G w G' w' s p s' p'):(t:T)→ ∀(z:List Nat),z≠[]→yW (kY G G') t→R St G w s t (z++p)→R St G' w' s' t (z++p')
 |.any,_,_,_,_=>by simp only[R]
 |.lit _,z,_,_,h=>by simp only[R]at h ⊢;rw[hm.hd];exact h
 |.ro _,z,_,_,h=>by simp only[R]at h ⊢;rw[hm.hd];exact h
 |.same r q,z,_,hk,h=>by simp only[R]at h ⊢;rw[hm.hd,hk.1];exact h
 |.addr r q,z,_,hk,h=>by simp only[R]at h ⊢;rw[hm.hd,hk.2];exact h
 |.sub r q k lo hi,z,_,hk,h=>by simp only[R]at h ⊢;rw[hm.hd,hk.1];exact h
 |.agg xs,z,_,hk,h=>by simp only[R,yW]at h hk ⊢;exact zEm hm xs z 0 hk h
 |.tup xs,z,_,hk,h=>by simp only[R,yW]at h hk ⊢;exact zEm hm xs z 0 hk h
 |.sl k xs,z,hz,hk,h=>by
  simp only[R,yW]at h hk ⊢
  rw[hm.hd];rcases h with h|⟨b,cap,cs,e,h1,h2,h3,h4,h5,h6,h7,h8⟩
  ·exact .inl h
  ·obtain⟨cs',h2',hsz⟩:=hm.blk b cs e h2
   exact .inr ⟨b,cap,cs',e,h1,h2',h3,h4,by omega,hm.ow b z hz h6,fun o ho ho2=>(hm.lb b o true z hz ⟨_,h6⟩ (h7 o ho (by omega))).1,zJi hm xs z 0 b 0 k ⟨_,h6⟩ hk h8⟩
 |.ptr t,z,hz,hk,h=>by
  simp only[R,yW]at h hk ⊢
  rw[hm.hd];obtain⟨b,cs,e,h1,h2,h3,h6,h4,h5⟩:=h;obtain⟨cs',h2',hsz⟩:=hm.blk b cs e h2;exact⟨b,cs',e,h1,h2',by omega,hm.ow b z hz h6,zEk hm t (0::z) b 0 (by simp) ⟨_,h6⟩ h4,zEl hm t (0::z) (by simp) hk h5⟩
theorem zJi(hm:MovesE G w G' w' s p s' p'):(xs:List T)→ ∀(z:List Nat)(i b o k:Nat),(∃y,G.ow b=some (s,y))→xU (kY G G') xs→RL St G w s xs (z++p) i b o k→RL St G' w' s' xs (z++p') i b o k
 | [],_,_,_,_,_,_,_,_=>by simp only[RL]
 |x::xs,z,i,b,o,k,hob,hk,h=>by
  simp only[RL,xU]at h hk ⊢
  exact⟨⟨zEk hm x (i::z) b o (by simp) hob h.1.1,h.1.2⟩,zEl hm x (i::z) (by simp) hk.1 h.2.1,zJi hm xs z (i+1) b _ k hob hk.2 h.2.2⟩
theorem zEm(hm:MovesE G w G' w' s p s' p'):(xs:List T)→ ∀(z:List Nat)(j:Nat),xU (kY G G') xs→RF St G w s xs (z++p) j→RF St G' w' s' xs (z++p') j
 | [],_,_,_,_=>by simp only[RF]
 |x::xs,z,j,hk,h=>by
  simp only[RF,xU]at h hk ⊢
  exact⟨zEl hm x (j::z) (by simp) hk.1 h.1,zEm hm xs z (j+1) hk.2 h.2⟩
end
theorem zAe(hm:zIx G w G' w' s p s' p')(t:T)(hk:yW (kY G G') t)(h:R St G w s t p):R St G' w' s' t p':=by
 have hd0:G'.hd s' p'=G.hd s p:=by simpa using hm.hd []
 cases t with
 |any=>simp only[R]
 |lit _=>simp only[R]at h ⊢;rw[hd0];exact h
 |ro _=>simp only[R]at h ⊢;rw[hd0];exact h
 |same r q=>simp only[R]at h ⊢;rw[hd0,hk.1];exact h
 |addr r q=>simp only[R]at h ⊢;rw[hd0,hk.2];exact h
 |sub r q k lo hi=>simp only[R]at h ⊢;rw[hd0,hk.1];exact h
 |agg xs=>simp only[R,yW]at h hk ⊢;simpa using zEm hm.toMovesE xs [] 0 hk (by simpa using h)
 |tup xs=>simp only[R,yW]at h hk ⊢;simpa using zEm hm.toMovesE xs [] 0 hk (by simpa using h)
 |sl k xs=>
  simp only[R,yW]at h hk ⊢
  rw[hd0];rcases h with h|⟨b,cap,cs,e,h1,h2,h3,h4,h5,h6,h7,h8⟩
  ·exact .inl h
  ·obtain⟨cs',h2',hsz⟩:=hm.blk b cs e h2
   exact .inr ⟨b,cap,cs',e,h1,h2',h3,h4,by omega,hm.ow0 b h6,fun o ho ho2=>(hm.sp b o ⟨_,h6⟩ (h7 o ho (by omega))).1,by simpa using zJi hm.toMovesE xs [] 0 b 0 k ⟨_,h6⟩ hk (by simpa using h8)⟩
 |ptr t=>
  simp only[R,yW]at h hk ⊢
  rw[hd0];obtain⟨b,cs,e,h1,h2,h3,h6,h4,h5⟩:=h;obtain⟨cs',h2',hsz⟩:=hm.blk b cs e h2;exact⟨b,cs',e,h1,h2',by omega,hm.ow0 b h6,zEk hm.toMovesE t [0] b 0 (by simp) ⟨_,h6⟩ h4,zEl hm.toMovesE t [0] (by simp) hk h5⟩
theorem zQl(hm:zIx G w G' w' s p s' p')(t:T)(z:List Nat)(hk:yW (kY G G') t)(h:R St G w s t (z++p)):R St G' w' s' t (z++p'):=by
 cases z with
 |nil=>exact zAe hm t hk h
 |cons i z=>exact zEl hm.toMovesE t (i::z) (by simp) hk h
end
end Go.Ab

namespace Go.Ab
open Go
def T.get:T→List Nat→Option T
 |t,[]=>some t
 |.sl _ xs,i::f|.agg xs,i::f|.tup xs,i::f=>match xs[i]? with
  |some x=>x.get f
  |none=>none
 |.ptr t,i::f=>if i=0 then t.get f else none
 |.any,_::_|.lit _,_::_|.ro _,_::_|.same _ _,_::_|.addr _ _,_::_|.sub _ _ _ _ _,_::_=>none
termination_by structural _ f=>f
def T.set:T→List Nat→T→T
 |_,[],u=>u
 |.sl k xs,i::f,u=>match xs[i]? with
  |some x=>.sl k (xs.set i (x.set f u))
  |none=>.sl k xs
 |.agg xs,i::f,u=>match xs[i]? with
  |some x=>.agg (xs.set i (x.set f u))
  |none=>.agg xs
 |.tup xs,i::f,u=>match xs[i]? with
  |some x=>.tup (xs.set i (x.set f u))
  |none=>.tup xs
 |.ptr t,i::f,u=>if i=0 then .ptr (t.set f u)else .ptr t
 |.any,_::_,_=>.any
 |.lit v,_::_,_=>.lit v
 |.ro t,_::_,_=>.ro t
 |.same r q,_::_,_=>.same r q
 |.addr r q,_::_,_=>.addr r q
 |.sub r q k lo hi,_::_,_=>.sub r q k lo hi
termination_by structural _ f _=>f
def T.locd:T→List Nat→Bool
 |_,[]=>false
 |.sl _ _,_::_|.ptr _,_::_=>true
 |.agg xs,i::f|.tup xs,i::f=>match xs[i]? with
  |some x=>x.locd f
  |none=>false
 |.any,_::_|.lit _,_::_|.ro _,_::_|.same _ _,_::_|.addr _ _,_::_|.sub _ _ _ _ _,_::_=>false
termination_by structural _ f=>f
abbrev rp(f p:List Nat):List Nat:=f.reverse++p
theorem zAB(i:Nat)(f p:List Nat):rp (i::f) p=rp f (i::p):=by simp[rp]
section
variable {St:Stb}{G:Gh}{w:World}{s:Nat}
theorem jL:(xs:List T)→ ∀(p:List Nat)(i0 b o k i:Nat)(x:T),RL St G w s xs p i0 b o k→xs[i]? =some x→
  Loc G w s x ((i0+i)::p) b (o+i*k)∧x.size=k∧R St G w s x ((i0+i)::p)
 | [],_,_,_,_,_,_,_,_,h=>by simp at h
 |y::ys,p,i0,b,o,k,i,x,hr,h=>by
  simp only[RL]at hr;cases i with
  |zero=>
   simp at h;subst h;simpa using⟨hr.1.1,hr.1.2,hr.2.1⟩
  |succ i=>
   have:=jL ys p (i0+1) b (o+k) k i x hr.2.2 (by simpa using h);rw[show i0+(i+1)=i0+1+i from by omega,show o+(i+1)*k=o+k+i*k from by rw[K5];omega];exact this
theorem zAM:(xs:List T)→ ∀(p:List Nat)(j i:Nat)(x:T),RF St G w s xs p j→xs[i]? =some x→R St G w s x ((j+i)::p)
 | [],_,_,_,_,_,h=>by simp at h
 |y::ys,p,j,i,x,hr,h=>by
  simp only[RF]at hr;cases i with
  |zero=>simp at h;subst h;simpa using hr.1
  |succ i=>
   have:=zAM ys p (j+1) i x hr.2 (by simpa using h)
   rwa [show j+(i+1)=j+1+i from by omega]
theorem zKl:(xs:List T)→ ∀(p:List Nat)(j b o i:Nat)(x:T),vF G w s xs p j b o→xs[i]? =some x→
  ∃o',Loc G w s x ((j+i)::p) b o'∧o≤o'∧o'+x.size≤o+T.sizes xs
 | [],_,_,_,_,_,_,_,h=>by simp at h
 |y::ys,p,j,b,o,i,x,hr,h=>by
  simp only[vF]at hr;cases i with
  |zero=>simp at h;subst h;exact⟨o,by simpa using hr.1,by omega,by simp[T.sizes]⟩
  |succ i=>
   obtain⟨o',h1,h2,h3⟩:=zKl ys p (j+1) b (o+y.size) i x hr.2 (by simpa using h);refine⟨o',?_,by omega,by simp only[T.sizes];omega⟩
   rwa [show j+(i+1)=j+1+i from by omega]
def At(G:Gh)(w:World)(s:Nat)(t:T)(p:List Nat):Prop:=
 ∃b o cs e,Loc G w s t p b o∧w.heap[b]? =some (.cells cs e (0,0))∧o+t.size≤cs.size
theorem At.field{xs:List T}{p:List Nat}(h:At G w s (.agg xs) p){i:Nat}{x:T}(hx:xs[i]? =some x):At G w s x (i::p):=by
 obtain⟨b,o,cs,e,hl,hh,hs⟩:=h;simp only[Loc]at hl;obtain⟨o',h1,h2,h3⟩:=zKl xs p 0 b o i x hl.2 hx;simp only[T.size]at hs;exact⟨b,o',cs,e,by simpa using h1,hh,by omega⟩
theorem zCO{k:Nat}{xs:List T}{p:List Nat}(h:R St G w s (.sl k xs) p){i:Nat}{x:T}(hx:xs[i]? =some x):
  At G w s x (i::p)∧R St G w s x (i::p):=by
 simp only[R]at h;have hi:=(Jb.1 hx).1;rcases h with⟨rfl,_⟩|⟨b,cap,cs,e,h1,h2,h3,h4,h5,h6,h7,h8⟩
 ·simp at hx
 ·obtain⟨a1,a2,a3⟩:=jL xs p 0 b 0 k i x h8 hx
  simp only[Je]at a1 a3;refine⟨⟨b,i*k,cs,e,a1,h2,?_⟩,a3⟩;rw[a2,←K5];exact Kv (Km _ (by omega)) h5
theorem zBa{t:T}{p:List Nat}(h:R St G w s (.ptr t) p):At G w s t (0::p)∧R St G w s t (0::p):=by
 simp only[R]at h;obtain⟨b,cs,e,h1,h2,h3,h6,h4,h5⟩:=h;exact⟨⟨b,0,cs,e,h4,h2,by omega⟩,h5⟩
theorem zAv:(f:List Nat)→ ∀(t u:T)(p:List Nat),At G w s t p→R St G w s t p→t.get f=some u→At G w s u (rp f p)∧R St G w s u (rp f p)
 | [],t,u,p,ha,h,hg=>by simp[T.get]at hg;subst hg;simpa[rp]using⟨ha,h⟩
 |i::f,t,u,p,ha,h,hg=>by
  rw[zAB];cases t with
  |sl k xs=>
   simp only[T.get]at hg;cases hx:xs[i]? with
   |none=>simp[hx]at hg
   |some x=>rw[hx]at hg;exact zAv f x u _ (zCO h hx).1 (zCO h hx).2 hg
  |ptr t=>
   simp only[T.get]at hg;split at hg
   ·rename_i hi;subst hi;exact zAv f t u _ (zBa h).1 (zBa h).2 hg
   ·cases hg
  |agg xs=>
   simp only[T.get]at hg;cases hx:xs[i]? with
   |none=>simp[hx]at hg
   |some x=>rw[hx]at hg;exact zAv f x u _ (ha.field hx) (by simp only[R]at h;simpa using zAM xs p 0 i x h hx) hg
  |tup xs=>obtain⟨b,o,cs,e,hl,_⟩:=ha;simp only[Loc]at hl
  |_=>simp[T.get]at hg
theorem zAw:(f:List Nat)→ ∀(t u:T)(p:List Nat),R St G w s t p→t.get f=some u→R St G w s u (rp f p)∧(t.locd f=true→At G w s u (rp f p))
 | [],t,u,p,h,hg=>by simp[T.get]at hg;subst hg;simpa[rp,T.locd]using h
 |i::f,t,u,p,h,hg=>by
  rw[zAB];cases t with
  |sl k xs=>
   simp only[T.get]at hg;cases hx:xs[i]? with
   |none=>simp[hx]at hg
   |some x=>rw[hx]at hg;exact⟨(zAv f x u _ (zCO h hx).1 (zCO h hx).2 hg).2,fun _=>(zAv f x u _ (zCO h hx).1 (zCO h hx).2 hg).1⟩
  |ptr t=>
   simp only[T.get]at hg;split at hg
   ·rename_i hi;subst hi;exact⟨(zAv f t u _ (zBa h).1 (zBa h).2 hg).2,fun _=>(zAv f t u _ (zBa h).1 (zBa h).2 hg).1⟩
   ·cases hg
  |agg xs=>
   simp only[T.get,T.locd]at hg ⊢
   cases hx:xs[i]? with
   |none=>simp[hx]at hg
   |some x=>rw[hx]at hg;exact zAw f x u _ (by simp only[R]at h;simpa using zAM xs p 0 i x h hx) hg
  |tup xs=>
   simp only[T.get,T.locd]at hg ⊢
   cases hx:xs[i]? with
   |none=>simp[hx]at hg
   |some x=>rw[hx]at hg;exact zAw f x u _ (by simp only[R]at h;simpa using zAM xs p 0 i x h hx) hg
  |_=>simp[T.get]at hg
end
structure Upd (G:Gh) (w:World) (G':Gh) (w':World) (s:Nat) (tgt:List Nat):Prop where
 hd:∀p,¬tgt<:+p→G'.hd s p=G.hd s p
 ad:∀p,¬tgt<:+p→G'.ad s p=G.ad s p
 lb:∀b o f p,G.lb b o=some (f,s,p)→ ¬tgt<:+p→G'.lb b o=some (f,s,p)∧yP w' b o=yP w b o
 ow:∀b p,G.ow b=some (s,p)→ ¬tgt<:+p→G'.ow b=some (s,p)
 blk:Blk w w'
section
variable {St:Stb}{G:Gh}{w:World}{G':Gh}{w':World}{s:Nat}{tgt:List Nat}
theorem Upd.moves(h:Upd G w G' w' s tgt){p:List Nat}(hp:∀z,¬tgt<:+z++p):zIx G w G' w' s p s p where
 hd z:=h.hd _ (hp z)
 ad z _:=h.ad _ (hp z)
 lb b o f z _ _ hl:=h.lb b o f _ hl (hp z)
 ow b z _ hl:=h.ow b _ hl (hp z)
 sp b o _ hl:=h.lb b o true p hl (hp [])
 ow0 b hl:=h.ow b p hl (hp [])
 blk:=h.blk
mutual
theorem zEn(hm:Upd G w G' w' s tgt):(t:T)→ ∀(p:List Nat)(b o:Nat),(∀z,¬tgt<:+z++p)→Loc G w s t p b o→Loc G' w' s t p b o
 |.agg xs,p,b,o,hz,h=>by
  simp only[Loc]at h ⊢
  exact⟨(hm.ad p (hz [])).trans h.1,zKm hm xs p 0 b o hz h.2⟩
 |.any,p,b,o,hz,h|.lit _,p,b,o,hz,h|.ro _,p,b,o,hz,h|.same _ _,p,b,o,hz,h|.addr _ _,p,b,o,hz,h|.sub _ _ _ _ _,p,b,o,hz,h|.sl _ _,p,b,o,hz,h|.ptr _,p,b,o,hz,h=>by
  simp only[Loc]at h ⊢
  obtain⟨h1,h2,h3⟩:=h;have hl:=hm.lb b o false p h2 (hz []);exact⟨(hm.ad p (hz [])).trans h1,hl.1,by rw[hl.2,h3,hm.hd p (hz [])]⟩
 |.tup _,_,_,_,_,h=>by simp only[Loc]at h
theorem zKm(hm:Upd G w G' w' s tgt):(xs:List T)→ ∀(p:List Nat)(j b o:Nat),(∀z,¬tgt<:+z++p)→vF G w s xs p j b o→vF G' w' s xs p j b o
 | [],_,_,_,_,_,_=>by simp only[vF]
 |x::xs,p,j,b,o,hz,h=>by
  simp only[vF]at h ⊢
  exact⟨zEn hm x (j::p) b o (fun z=>by have:=hz (z++[j]);simpa using this) h.1,zKm hm xs p (j+1) b _ hz h.2⟩
end
theorem zKn(hm:Upd G w G' w' s tgt)(t u:T)(p:List Nat)(b o:Nat)(ht:∀xs,t≠.agg xs)(hu:∀xs,u≠.agg xs)(hu':∀xs,u≠.tup xs)(hz:¬tgt<:+p)(h:Loc G w s t p b o):Loc G' w' s u p b o:=by
 have h3:G.ad s p=⟨b,o,none⟩∧G.lb b o=some (false,s,p)∧yP w b o=some (G.hd s p):=by
  cases t with
  |agg xs=>exact absurd rfl (ht xs)
  |tup xs=>simp only[Loc]at h
  |_=>simpa only[Loc]using h
 obtain⟨h1,h2,h3⟩:=h3;have hl:=hm.lb b o false p h2 hz;have h4:G'.ad s p=⟨b,o,none⟩∧G'.lb b o=some (false,s,p)∧yP w' b o=some (G'.hd s p):=⟨(hm.ad p hz).trans h1,hl.1,by rw[hl.2,h3,hm.hd p hz]⟩;cases u with
 |agg xs=>exact absurd rfl (hu xs)
 |tup xs=>exact absurd rfl (hu' xs)
 |_=>simpa only[Loc]using h4
theorem jM{f p:List Nat}{i i':Nat}(hi:i'≠i)(z:List Nat):¬f.reverse++(i::p)<:+z++(i'::p):=by
 rintro⟨y,hy⟩
 rw[←Ja]at hy;have:=List.append_inj_right' hy rfl;simp at this;exact hi this.symm
theorem jX{f p:List Nat}{i:Nat}:¬f.reverse++(i::p)<:+p:=by
 intro h;have:=h.length_le;simp at this;omega
theorem zIz:(xs:List T)→ ∀(i:Nat)(x y:T),xs[i]? =some x→y.size=x.size→T.sizes (xs.set i y)=T.sizes xs
 | [],_,_,_,h,_=>by simp at h
 |z::zs,i,x,y,h,hs=>by
  cases i with
  |zero=>simp at h;subst h;simp[T.sizes,hs]
  |succ i=>simp only[Lm,T.sizes,zIz zs i x y (by simpa using h) hs]
theorem zEo:(f:List Nat)→ ∀(t u u0:T),t.get f=some u0→u.size=u0.size→(t.set f u).size=t.size
 | [],t,u,u0,h,hs=>by simp[T.get]at h;subst h;simpa[T.set]using hs
 |i::f,t,u,u0,h,hs=>by
  cases t with
  |sl k xs=>simp only[T.get]at h;cases hx:xs[i]? <;>simp[hx,T.set,T.size]at h ⊢
  |tup xs=>simp only[T.get]at h;cases hx:xs[i]? <;>simp[hx,T.set,T.size]at h ⊢
  |agg xs=>
   simp only[T.get]at h;cases hx:xs[i]? with
   |none=>simp[hx]at h
   |some x=>
    rw[hx]at h;simp only[T.set,hx,T.size];exact zIz xs i x _ hx (zEo f x u u0 h hs)
  |ptr t=>simp only[T.get]at h;split at h<;>simp_all [T.set,T.size]
  |_=>simp[T.get]at h
theorem zKo(hm:Upd G w G' w' s tgt):(xs:List T)→ ∀(p:List Nat)(j b o i:Nat)(x y:T),vF G w s xs p j b o→xs[i]? =some x→y.size=x.size→
  (∀i',i'≠j+i→ ∀z,¬tgt<:+z++(i'::p))→(∀o',Loc G w s x ((j+i)::p) b o'→Loc G' w' s y ((j+i)::p) b o')→vF G' w' s (xs.set i y) p j b o
 | [],_,_,_,_,_,_,_,_,h,_,_,_=>by simp at h
 |z::zs,p,j,b,o,i,x,y,hl,h,hs,hz,hy=>by
  simp only[vF]at hl;cases i with
  |zero=>
   simp at h;subst h;simp only[Ku,vF,hs];exact⟨by simpa using hy o (by simpa using hl.1),LocF_upd' hm zs p (j+1) b _ (fun i' hi'=>hz i' (by omega)) hl.2⟩
  |succ i=>
   simp only[Lm,vF];refine⟨zEn hm z _ b o (hz j (by omega)) hl.1,zKo hm zs p (j+1) b _ i x y hl.2 (by simpa using h) hs (fun i' hi'=>hz i' (by omega)) ?_⟩;rw[show j+1+i=j+(i+1)from by omega];exact hy
where LocF_upd' (hm:Upd G w G' w' s tgt):(xs:List T)→ ∀(p:List Nat)(j b o:Nat),(∀i',j≤i'→ ∀z,¬tgt<:+z++(i'::p))→vF G w s xs p j b o→vF G' w' s xs p j b o
 | [],_,_,_,_,_,_=>by simp only[vF]
 |x::xs,p,j,b,o,hz,h=>by
  simp only[vF]at h ⊢
  exact⟨zEn hm x (j::p) b o (hz j (Jp _)) h.1,LocF_upd' hm xs p (j+1) b _ (fun i' hi'=>hz i' (by omega)) h.2⟩
theorem zJj:(f:List Nat)→ ∀(t u u0:T)(p:List Nat)(b o:Nat),Upd G w G' w' s (rp f p)→Loc G w s t p b o→t.get f=some u0→u.size=u0.size→
  (∀o',Loc G w s u0 (rp f p) b o'→Loc G' w' s u (rp f p) b o')→Loc G' w' s (t.set f u) p b o
 | [],t,u,u0,p,b,o,hm,hl,hg,hs,hu=>by
  simp[T.get]at hg;subst hg;simpa[T.set,rp]using hu o (by simpa[rp]using hl)
 |i::f,t,u,u0,p,b,o,hm,hl,hg,hs,hu=>by
  have hm':=hm;rw[zAB]at hm';cases t with
  |sl k xs=>
   have:∃ys,(T.sl k xs).set (i::f) u=.sl k ys:=by simp only[T.set];split<;>exact⟨_,rfl⟩
   obtain⟨ys,hy⟩:=this;rw[hy];exact zKn hm' (.sl k xs) (.sl k ys) p b o (by simp) (by simp) (by simp) jX hl
  |ptr t=>
   have:∃ys,(T.ptr t).set (i::f) u=.ptr ys:=by simp only[T.set];split<;>exact⟨_,rfl⟩
   obtain⟨ys,hy⟩:=this;rw[hy];exact zKn hm' (.ptr t) (.ptr ys) p b o (by simp) (by simp) (by simp) jX hl
  |agg xs=>
   simp only[T.get]at hg;cases hx:xs[i]? with
   |none=>simp[hx]at hg
   |some x=>
    rw[hx]at hg;simp only[T.set,hx];simp only[Loc]at hl ⊢
    refine⟨(hm'.ad p jX).trans hl.1,zKo hm' xs p 0 b o i x _ hl.2 hx (zEo f x u u0 hg hs) (fun i' hi' z=>jM (by omega) z) ?_⟩;intro o' ho';simp only[Je]at ho' ⊢
    exact zJj f x u u0 (i::p) b o' hm' ho' hg hs (by simpa only[zAB]using hu)
  |tup xs=>simp only[Loc]at hl
  |_=>simp[T.get]at hg
end
end Go.Ab

namespace Go.Ab
open Go
section
variable {St:Stb}{G:Gh}{w:World}{G':Gh}{w':World}{s:Nat}{tgt:List Nat}
theorem zN1(hm:Upd G w G' w' s tgt)(t:T)(p:List Nat)(hz:∀z,¬tgt<:+z++p)(hk:yW (kY G G') t)(h:R St G w s t p):R St G' w' s t p:=by
 simpa using zQl (hm.moves hz) t [] hk (by simpa using h)
theorem zQm(hm:Upd G w G' w' s tgt):(xs:List T)→ ∀(p:List Nat)(i b o k:Nat),(∀i',i≤i'→ ∀z,¬tgt<:+z++(i'::p))→xU (kY G G') xs→RL St G w s xs p i b o k→RL St G' w' s xs p i b o k
 | [],_,_,_,_,_,_,_,_=>by simp only[RL]
 |x::xs,p,i,b,o,k,hz,hk,h=>by
  simp only[RL,xU]at h hk ⊢
  exact⟨⟨zEn hm x (i::p) b o (hz i (Jp _)) h.1.1,h.1.2⟩,zN1 hm x (i::p) (hz i (Jp _)) hk.1 h.2.1,
   zQm hm xs p (i+1) b _ k (fun i' hi'=>hz i' (by omega)) hk.2 h.2.2⟩
theorem zQn(hm:Upd G w G' w' s tgt):(xs:List T)→ ∀(p:List Nat)(i0 b o k i:Nat)(x y:T),RL St G w s xs p i0 b o k→xs[i]? =some x→y.size=x.size→xU (kY G G') xs→
  (∀i',i'≠i0+i→ ∀z,¬tgt<:+z++(i'::p))→(∀o',Loc G w s x ((i0+i)::p) b o'→Loc G' w' s y ((i0+i)::p) b o')→R St G' w' s y ((i0+i)::p)→
  RL St G' w' s (xs.set i y) p i0 b o k
 | [],_,_,_,_,_,_,_,_,_,h,_,_,_,_,_=>by simp at h
 |z::zs,p,i0,b,o,k,i,x,y,hr,h,hs,hk,hz,hl,hy=>by
  simp only[RL,xU]at hr hk;cases i with
  |zero=>
   simp at h;subst h;simp only[Ku,RL];exact⟨⟨by simpa using hl o (by simpa using hr.1.1),by omega⟩,by simpa using hy,zQm hm zs p (i0+1) b _ k (fun i' hi'=>hz i' (by omega)) hk.2 hr.2.2⟩
  |succ i=>
   simp only[Lm,RL];rw[show i0+(i+1)=i0+1+i from by omega]at hl hy hz;exact⟨⟨zEn hm z _ b o (hz i0 (by omega)) hr.1.1,hr.1.2⟩,zN1 hm z _ (hz i0 (by omega)) hk.1 hr.2.1,zQn hm zs p (i0+1) b _ k i x y hr.2.2 (by simpa using h) hs hk.2 hz hl hy⟩
theorem zQo(hm:Upd G w G' w' s tgt):(xs:List T)→ ∀(p:List Nat)(i:Nat),(∀i',i≤i'→ ∀z,¬tgt<:+z++(i'::p))→xU (kY G G') xs→RF St G w s xs p i→RF St G' w' s xs p i
 | [],_,_,_,_,_=>by simp only[RF]
 |x::xs,p,i,hz,hk,h=>by
  simp only[RF,xU]at h hk ⊢
  exact⟨zN1 hm x (i::p) (hz i (Jp _)) hk.1 h.1,zQo hm xs p (i+1) (fun i' hi'=>hz i' (by omega)) hk.2 h.2⟩
theorem zMk(hm:Upd G w G' w' s tgt):(xs:List T)→ ∀(p:List Nat)(i0 i:Nat)(x y:T),RF St G w s xs p i0→xs[i]? =some x→xU (kY G G') xs→
  (∀i',i'≠i0+i→ ∀z,¬tgt<:+z++(i'::p))→R St G' w' s y ((i0+i)::p)→
  RF St G' w' s (xs.set i y) p i0
 | [],_,_,_,_,_,_,h,_,_,_=>by simp at h
 |z::zs,p,i0,i,x,y,hr,h,hk,hz,hy=>by
  simp only[RF,xU]at hr hk;cases i with
  |zero=>
   simp at h;subst h;simp only[Ku,RF];exact⟨by simpa using hy,zQo hm zs p (i0+1) (fun i' hi'=>hz i' (by omega)) hk.2 hr.2⟩
  |succ i=>
   simp only[Lm,RF];rw[show i0+(i+1)=i0+1+i from by omega]at hy hz;exact⟨zN1 hm z _ (hz i0 (by omega)) hk.1 hr.1,zMk hm zs p (i0+1) i x y hr.2 (by simpa using h) hk.2 hz hy⟩
theorem uN{φ:Nat→List Nat→Prop}:(xs:List T)→xU φ xs→ ∀(i:Nat)(x:T),xs[i]? =some x→yW φ x
 | [],_,_,_,h=>by simp at h
 |y::ys,hk,i,x,h=>by
  simp only[xU]at hk;cases i with
  |zero=>simp at h;subst h;exact hk.1
  |succ i=>exact uN ys hk.2 i x (by simpa using h)
theorem zFH:(f:List Nat)→ ∀(t u u0:T)(p:List Nat),Upd G w G' w' s (rp f p)→R St G w s t p→t.get f=some u0→u.size=u0.size→yW (kY G G') t→
  (∀b o,Loc G w s u0 (rp f p) b o→Loc G' w' s u (rp f p) b o)→R St G' w' s u (rp f p)→R St G' w' s (t.set f u) p
 | [],t,u,u0,p,hm,hr,hg,hs,hk,hl,hu=>by simpa[T.set,rp]using hu
 |i::f,t,u,u0,p,hm,hr,hg,hs,hk,hl,hu=>by
  have hm':=hm;rw[zAB]at hm' hl hu;cases t with
  |sl k xs=>
   simp only[T.get]at hg;cases hx:xs[i]? with
   |none=>simp[hx]at hg
   |some x=>
    rw[hx]at hg;simp only[T.set,hx];simp only[R,yW]at hr hk ⊢
    rcases hr with⟨rfl,_⟩|⟨b,cap,cs,e,h1,h2,h3,h4,h5,h6,h7,h8⟩
    ·simp at hx
    ·obtain⟨cs',h2',hsz⟩:=hm'.blk b cs e h2
     refine .inr ⟨b,cap,cs',e,by rw[hm'.hd p jX,Qr];exact h1,h2',by rw[Qr];exact h3,h4,by omega,hm'.ow b p h6 jX,?_,?_⟩
     ·intro o ho ho2
      rw[Qr]at ho;exact(hm'.lb b o true p (h7 o ho (by omega)) jX).1
     ·have hx1:=jL xs p 0 b 0 k i x h8 hx
      simp only[Je]at hx1;refine zQn hm' xs p 0 b 0 k i x _ h8 hx (zEo f x u u0 hg hs) hk (fun i' hi' z=>jM (by omega) z) ?_ ?_
      ·intro o' ho'
       simp only[Je]at ho' ⊢
       exact zJj f x u u0 (i::p) b o' hm' ho' hg hs (fun o''=>hl b o'')
      ·simp only[Je]
       exact zFH f x u u0 (i::p) hm' hx1.2.2 hg hs (uN xs hk i x hx) hl hu
  |ptr t=>
   simp only[T.get]at hg;split at hg
   ·rename_i hi;subst hi
    simp only[T.set,if_true];simp only[R,yW]at hr hk ⊢
    obtain⟨b,cs,e,h1,h2,h3,h6,h4,h5⟩:=hr;obtain⟨cs',h2',hsz⟩:=hm'.blk b cs e h2;refine⟨b,cs',e,by rw[hm'.hd p jX];exact h1,h2',by rw[zEo f t u u0 hg hs];omega,hm'.ow b p h6 jX,zJj f t u u0 (0::p) b 0 hm' h4 hg hs (fun o''=>hl b o''),zFH f t u u0 (0::p) hm' h5 hg hs hk hl hu⟩
   ·cases hg
  |agg xs=>
   simp only[T.get]at hg;cases hx:xs[i]? with
   |none=>simp[hx]at hg
   |some x=>
    rw[hx]at hg;simp only[T.set,hx];simp only[R,yW]at hr hk ⊢
    refine zMk hm' xs p 0 i x _ hr hx hk (fun i' hi' z=>jM (by omega) z) ?_;simp only[Je];exact zFH f x u u0 (i::p) hm' (by simpa using zAM xs p 0 i x hr hx) hg hs (uN xs hk i x hx) hl hu
  |tup xs=>
   simp only[T.get]at hg;cases hx:xs[i]? with
   |none=>simp[hx]at hg
   |some x=>
    rw[hx]at hg;simp only[T.set,hx];simp only[R,yW]at hr hk ⊢
    refine zMk hm' xs p 0 i x _ hr hx hk (fun i' hi' z=>jM (by omega) z) ?_;simp only[Je];exact zFH f x u u0 (i::p) hm' (by simpa using zAM xs p 0 i x hr hx) hg hs (uN xs hk i x hx) hl hu
  |_=>simp[T.get]at hg
end
end Go.Ab

namespace Go.Ab
open Go
mutual
def vals(G:Gh)(s:Nat):T→List Nat→List Value
 |.agg xs,p=>yE G s xs p 0
 |.any,p|.lit _,p|.ro _,p|.same _ _,p|.addr _ _,p|.sub _ _ _ _ _,p|.sl _ _,p|.ptr _,p|.tup _,p=>[G.hd s p]
def yE(G:Gh)(s:Nat):List T→List Nat→Nat→List Value
 | [],_,_=>[]
 |x::xs,p,j=>vals G s x (j::p)++yE G s xs p (j+1)
end
def tY(G:Gh)(s:Nat)(t:T)(p:List Nat):Value:=
 match t with
 |.agg xs=>.agg (yE G s xs p 0).toArray
 |_=>G.hd s p
def qW(G:Gh)(s:Nat):List T→List Nat→Nat→List Value
 | [],_,_=>[]
 |x::xs,p,j=>tY G s x (j::p)::qW G s xs p (j+1)
def mkV(G:Gh)(s:Nat)(t:T)(p:List Nat):Value:=
 match t with
 |.agg xs=>.agg (yE G s xs p 0).toArray
 |.tup xs=>.tuple (qW G s xs p 0).toArray
 |_=>G.hd s p
mutual
def Top:T→Prop
 |.sl _ xs=>xI xs
 |.ptr t=>yC t
 |.agg xs|.tup xs=>vM xs
 |.any|.lit _|.ro _|.same _ _|.addr _ _|.sub _ _ _ _ _=>True
def vM:List T→Prop
 | []=>True
 |x::xs=>Top x∧vM xs
end
mutual
theorem Top.of_clean:(t:T)→yC t→Top t
 |.sl _ xs,h=>by simpa only[Top,yC,yW]using h
 |.ptr t,h=>by simpa only[Top,yC,yW]using h
 |.agg xs,h|.tup xs,h=>by simp only[Top];exact vM.of_clean xs (by simpa only[yC,yW]using h)
 |.any,_|.lit _,_|.ro _,_|.same _ _,_|.addr _ _,_|.sub _ _ _ _ _,_=>by simp only[Top]
theorem vM.of_clean:(xs:List T)→xI xs→vM xs
 | [],_=>by simp only[vM]
 |x::xs,h=>by simp only[vM];exact⟨Top.of_clean x h.1,vM.of_clean xs h.2⟩
end
abbrev Chg:=List (Nat×Nat)
def Off(chg:Chg)(s:Nat)(p:List Nat):Prop:=∀n,(s,n)∈chg→p.length<n
def kG(chg:Chg)(r:Nat)(p:List Nat):Bool:=chg.all fun c=>c.1 != r||decide (p.length<c.2)
theorem zOY{chg:Chg}{r:Nat}{p:List Nat}(h:kG chg r p=true):Off chg r p:=by
 intro n hn;have:=Kg.1 h _ hn;simpa using this
mutual
def T.okB(chg:Chg):T→Bool
 |.same r p|.addr r p|.sub r p _ _ _=>kG chg r p
 |.agg xs|.tup xs=>zJk chg xs
 |.any|.lit _|.ro _|.sl _ _|.ptr _=>true
def zJk(chg:Chg):List T→Bool
 | []=>true
 |x::xs=>x.okB chg&&zJk chg xs
end
mutual
theorem zAf{chg:Chg}:(t:T)→Top t→t.okB chg=true→yW (Off chg) t
 |.same r p,_,h|.addr r p,_,h|.sub r p _ _ _,_,h=>by simp only[T.okB]at h;simp only[yW];exact zOY h
 |.agg xs,ht,h|.tup xs,ht,h=>by simp only[T.okB,Top]at h ht;simp only[yW];exact zG6 xs ht h
 |.sl _ xs,ht,_=>by simp only[Top]at ht;simp only[yW];exact xU.mono (fun _ _=>False.elim) xs ht
 |.ptr t,ht,_=>by simp only[Top]at ht;simp only[yW];exact yW.mono (fun _ _=>False.elim) t ht
 |.any,_,_|.lit _,_,_|.ro _,_,_=>by simp only[yW]
theorem zG6{chg:Chg}:(xs:List T)→vM xs→zJk chg xs=true→xU (Off chg) xs
 | [],_,_=>by simp only[xU]
 |x::xs,ht,h=>by
  simp only[zJk,vM,J4]at h ht;simp only[xU];exact⟨zAf x ht.1 h.1,zG6 xs ht.2 h.2⟩
end
abbrev Env:=Nat→Option T
abbrev Wr:=List (Nat×Option T)
def Wr.find(wr:Wr)(s:Nat):Option (Option T):=
 match wr with
 | []=>none
 |(k,x)::r=>if k=s then some x else Wr.find r s
def Env.app(E:Env)(wr:Wr)(chg:Chg):Env:=fun s=>
 match wr.find s with
 |some x=>x
 |none=>match E s with
  |some t=>if t.okB chg then some t else none
  |none=>none
structure Ctx where
 St:Stb
 W:Nat→Prop
 w0:World
 N:Nat
def zCd(Γ:Ctx)(w:World)(b:Nat):Prop:=b<w.heap.size∧(Γ.w0.heap.size≤b∨Γ.W b)∧Γ.St b=none
structure zTw (w w':World):Prop where
 blk:Blk w w'
 os:w'.os=w.os
 out:w'.output=w.output
structure Mem (Γ:Ctx) (G:Gh) (w:World):Prop where
 one:∀s p,(G.hd s p).oneCell'=true
 lb:∀b o l,G.lb b o=some l→zCd Γ w b
 ow:∀b l,G.ow b=some l→zCd Γ w b
 st:∀b x,Γ.St b=some x→w.heap[b]? =some x
 fr:∀b,b<Γ.w0.heap.size→ ¬Γ.W b→w.heap[b]? =Γ.w0.heap[b]?
 sz:Γ.w0.heap.size≤w.heap.size
 bk:zTw Γ.w0 w
theorem Blk.trans{w w' w'':World}(h:Blk w w')(h':Blk w' w''):Blk w w'':=fun b cs e hb=>by
 obtain⟨cs',h1,h2⟩:=h b cs e hb;obtain⟨cs'',h3,h4⟩:=h' b cs' e h1;exact⟨cs'',h3,by omega⟩
theorem zTw.trans{w w' w'':World}(h:zTw w w')(h':Blk w' w'')(ho:w''.os=w'.os)(hq:w''.output=w'.output):zTw w w'':=⟨h.blk.trans h',ho.trans h.os,hq.trans h.out⟩
def Ent(Γ:Ctx)(G:Gh)(w:World)(v:Option Value)(s:Nat)(t:T):Prop:=v=some (mkV G s t [])∧R Γ.St G w s t []∧Top t
structure Rep (Γ:Ctx) (E:Env) (G:Gh) (tmps:Array Value) (w:World):Prop where
 size:tmps.size=Γ.N
 ent:∀s t,E s=some t→Ent Γ G w tmps[s]? s t
 mem:Mem Γ G w
def Sim(Γ:Ctx)(E:Env)(a:Act)(w:World):Prop:=a.defers=[]∧ ∃G,Rep Γ E G a.tmps w
structure zDo (S S':Stb) (W:Nat→Prop) (n:Nat):Prop where
 le:∀b x,S b=some x→S' b=some x
 nw:∀b,S b=none→S' b≠none→n≤b∨W b
theorem zDo.refl{S:Stb}{W:Nat→Prop}{n:Nat}:zDo S S W n:=⟨fun _ _ h=>h,fun _ h h'=>absurd h h'⟩
theorem zDo.trans{S S' S'':Stb}{W:Nat→Prop}{n:Nat}(h:zDo S S' W n)(h':zDo S' S'' W n):zDo S S'' W n:=
 ⟨fun b x hb=>h'.le b x (h.le b x hb),fun b hb hb'=>by
  cases hs:S' b with
  |none=>exact h'.nw b hs hb'
  |some x=>exact h.nw b hb (by rw[hs];simp)⟩
abbrev Ctx.at(Γ:Ctx)(S:Stb):Ctx:={ Γ with St:=S }
def qX(Γ:Ctx)(E:Env)(a:Act)(w:World):Prop:=∃S,zDo Γ.St S Γ.W Γ.w0.heap.size∧Sim (Γ.at S) E a w
theorem qX.of{Γ:Ctx}{E:Env}{a:Act}{w:World}(h:Sim Γ E a w):qX Γ E a w:=⟨Γ.St,.refl,h⟩
theorem qX.up{Γ:Ctx}{E:Env}{a:Act}{w:World}{S:Stb}(hS:zDo Γ.St S Γ.W Γ.w0.heap.size)(h:qX (Γ.at S) E a w):qX Γ E a w:=by
 obtain⟨S',h1,h2⟩:=h;exact⟨S',hS.trans h1,h2⟩
structure qP (chg:Chg) (G:Gh) (w:World) (G':Gh) (w':World):Prop where
 hd:∀s p,Off chg s p→G'.hd s p=G.hd s p
 ad:∀s p,Off chg s p→G'.ad s p=G.ad s p
 lb:∀b o f s p,(∃y,G.ow b=some (s,y))→G.lb b o=some (f,s,p)→(∀n,(s,n)∉chg)→G'.lb b o=some (f,s,p)∧yP w' b o=yP w b o
 ow:∀b s p,G.ow b=some (s,p)→(∀n,(s,n)∉chg)→G'.ow b=some (s,p)
 blk:Blk w w'
theorem Off.of_not{chg:Chg}{s:Nat}(h:∀n,(s,n)∉chg)(p:List Nat):Off chg s p:=fun n hn=>absurd hn (h n)
section
variable {Γ:Ctx}{G G':Gh}{w w':World}{s:Nat}{chg:Chg}
mutual
theorem zAC{s':Nat}:(t:T)→ ∀(p p':List Nat),(∀z,G'.hd s' (z++p')=G.hd s (z++p))→vals G' s' t p'=vals G s t p
 |.agg xs,p,p',h=>by simp only[vals];exact zEp xs p p' 0 h
 |.any,p,p',h|.lit _,p,p',h|.ro _,p,p',h|.same _ _,p,p',h|.addr _ _,p,p',h|.sub _ _ _ _ _,p,p',h|.sl _ _,p,p',h|.ptr _,p,p',h|.tup _,p,p',h=>by
  simp only[vals];rw[show G'.hd s' p'=G.hd s p from by simpa using h []]
theorem zEp{s':Nat}:(xs:List T)→ ∀(p p':List Nat)(j:Nat),(∀z,G'.hd s' (z++p')=G.hd s (z++p))→yE G' s' xs p' j=yE G s xs p j
 | [],_,_,_,_=>by simp only[yE]
 |x::xs,p,p',j,h=>by
  simp only[yE];rw[zAC x (j::p) (j::p') (fun z=>by have:=h (z++[j]);simpa using this),zEp xs p p' (j+1) h]
end
theorem zB2{s':Nat}(t:T)(p p':List Nat)(h:∀z,G'.hd s' (z++p')=G.hd s (z++p)):tY G' s' t p'=tY G s t p:=by
 unfold tY;split
 ·rw[zEp _ p p' 0 h]
 ·simpa using h []
theorem zN2{s':Nat}:(xs:List T)→ ∀(p p':List Nat)(j:Nat),(∀z,G'.hd s' (z++p')=G.hd s (z++p))→qW G' s' xs p' j=qW G s xs p j
 | [],_,_,_,_=>by simp only[qW]
 |x::xs,p,p',j,h=>by
  simp only[qW];rw[zB2 x (j::p) (j::p') (fun z=>by have:=h (z++[j]);simpa using this),zN2 xs p p' (j+1) h]
theorem zFa{s':Nat}(t:T)(p p':List Nat)(h:∀z,G'.hd s' (z++p')=G.hd s (z++p)):mkV G' s' t p'=mkV G s t p:=by
 unfold mkV;split
 ·rw[zEp _ p p' 0 h]
 ·rw[zN2 _ p p' 0 h]
 ·simpa using h []
theorem qP.moves(hk:qP chg G w G' w')(hs:∀n,(s,n)∉chg)(p:List Nat):zIx G w G' w' s p s p where
 hd _:=hk.hd _ _ (.of_not hs _)
 ad _ _:=hk.ad _ _ (.of_not hs _)
 lb b o f _ _ hob hl:=hk.lb b o f s _ hob hl hs
 ow b _ _ hl:=hk.ow b s _ hl hs
 sp b o hob hl:=hk.lb b o true s _ hob hl hs
 ow0 b hl:=hk.ow b s _ hl hs
 blk:=hk.blk
theorem qP.keepR(hk:qP chg G w G' w'){t:T}(h:yW (Off chg) t):yW (kY G G') t:=
 yW.mono (fun r p hr=>⟨hk.hd r p hr,hk.ad r p hr⟩) t h
theorem Ent.keep(hk:qP chg G w G' w')(hs:∀n,(s,n)∉chg){v:Option Value}{t:T}(ht:t.okB chg=true)(h:Ent Γ G w v s t):Ent Γ G' w' v s t:=by
 obtain⟨h1,h2,h3⟩:=h;refine⟨?_,?_,h3⟩
 ·rw[h1,zFa t [] [] (fun z=>hk.hd _ _ (.of_not hs _))]
 ·simpa using zQl (hk.moves hs []) t [] (hk.keepR (zAf t h3 ht)) (by simpa using h2)
end
theorem vG{Γ:Ctx}{E:Env}{G G':Gh}{tmps tmps':Array Value}{w w':World}{wr:Wr}{chg:Chg}(h:Rep Γ E G tmps w)
  (hsize:tmps'.size=tmps.size)(hk:qP chg G w G' w')(hmem:Mem Γ G' w')
  (hold:∀s,wr.find s=none→(∀n,(s,n)∉chg)∧tmps'[s]? =tmps[s]?)
  (hnew:∀s t,wr.find s=some (some t)→Ent Γ G' w' tmps'[s]? s t):Rep Γ (E.app wr chg) G' tmps' w' where
 size:=by rw[hsize,h.size]
 mem:=hmem
 ent s t hs:=by
  unfold Env.app at hs;cases hf:wr.find s with
  |some x=>
   rw[hf]at hs;simp at hs;subst hs;exact hnew s t hf
  |none=>
   rw[hf]at hs;simp at hs;cases he:E s with
   |none=>simp[he]at hs
   |some u=>
    simp[he]at hs;obtain⟨hok,rfl⟩:=hs;rw[(hold s hf).2];exact Ent.keep hk (hold s hf).1 hok (h.ent s u he)
end Go.Ab

namespace Go.Ab
open Go
mutual
def cpT(s:Nat):T→List Nat→T
 |.lit v,_=>.lit v
 |.ro t,_=>.ro t
 |.same r q,_=>.same r q
 |.addr r q,_=>.addr r q
 |.sub r q k lo hi,_=>.sub r q k lo hi
 |.agg xs,p=>.agg (cpF s xs p 0)
 |.any,p|.sl _ _,p|.ptr _,p|.tup _,p=>.same s p
def cpF(s:Nat):List T→List Nat→Nat→List T
 | [],_,_=>[]
 |x::xs,p,j=>cpT s x (j::p)::cpF s xs p (j+1)
end
mutual
theorem qN(s:Nat):(t:T)→ ∀p,Top (cpT s t p)
 |.agg xs,p=>by simp only[cpT,Top];exact zN3 s xs p 0
 |.lit _,_|.ro _,_|.same _ _,_|.addr _ _,_|.sub _ _ _ _ _,_|.any,_|.sl _ _,_|.ptr _,_|.tup _,_=>by simp only[cpT,Top]
theorem zN3(s:Nat):(xs:List T)→ ∀p j,vM (cpF s xs p j)
 | [],_,_=>by simp only[cpF,vM]
 |x::xs,p,j=>by simp only[cpF,vM];exact⟨qN s x _,zN3 s xs p _⟩
end
section
variable {St:Stb}{G G':Gh}{w w':World}{s d:Nat}
mutual
theorem zDD(hs:∀p,G'.hd s p=G.hd s p):(t:T)→ ∀(p p':List Nat),(∀z,G'.hd d (z++p')=G.hd s (z++p))→(∀xs,t≠.tup xs)→yW (kY G G') (cpT s t p)→R St G w s t p→R St G' w' d (cpT s t p) p'
 |.lit _,p,p',hd,_,_,h=>by simp only[cpT,R]at h ⊢;rw[show G'.hd d p'=_ from by simpa using hd []];exact h
 |.ro _,p,p',hd,_,_,h=>by simp only[cpT,R]at h ⊢;rw[show G'.hd d p'=_ from by simpa using hd []];exact h
 |.same r q,p,p',hd,_,hk,h=>by simp only[cpT,R,yW]at h hk ⊢;rw[show G'.hd d p'=_ from by simpa using hd [],hk.1];exact h
 |.addr r q,p,p',hd,_,hk,h=>by simp only[cpT,R,yW]at h hk ⊢;rw[show G'.hd d p'=_ from by simpa using hd [],hk.2];exact h
 |.sub r q k lo hi,p,p',hd,_,hk,h=>by simp only[cpT,R,yW]at h hk ⊢;rw[show G'.hd d p'=_ from by simpa using hd [],hk.1];exact h
 |.any,p,p',hd,_,_,_|.sl _ _,p,p',hd,_,_,_|.ptr _,p,p',hd,_,_,_=>by
  simp only[cpT,R];rw[show G'.hd d p'=_ from by simpa using hd [],hs]
 |.tup xs,_,_,_,h,_,_=>absurd rfl (h xs)
 |.agg xs,p,p',hd,_,hk,h=>by simp only[cpT,R,yW]at h hk ⊢;exact zJl hs xs p p' 0 hd hk h
theorem zJl(hs:∀p,G'.hd s p=G.hd s p):(xs:List T)→ ∀(p p':List Nat)(j:Nat),(∀z,G'.hd d (z++p')=G.hd s (z++p))→xU (kY G G') (cpF s xs p j)→RF St G w s xs p j→RF St G' w' d (cpF s xs p j) p' j
 | [],_,_,_,_,_,_=>by simp only[cpF,RF]
 |x::xs,p,p',j,hd,hk,h=>by
  simp only[cpF,RF,xU]at h hk ⊢
  refine⟨?_,zJl hs xs p p' (j+1) hd hk.2 h.2⟩
  by_cases hx:∃ys,x=.tup ys
  ·obtain⟨ys,rfl⟩:=hx
   simp only[cpT,R];rw[show G'.hd d (j::p')=_ from by simpa using hd [j],hs]
  ·exact zDD hs x (j::p) (j::p') (fun z=>by have:=hd (z++[j]);simpa using this) (fun ys e=>hx ⟨ys,e⟩) hk.1 h.1
end
mutual
theorem zOZ:(t:T)→ ∀(p p':List Nat),(∀z,G'.hd d (z++p')=G.hd s (z++p))→vals G' d (cpT s t p) p'=vals G s t p
 |.agg xs,p,p',h=>by simp only[cpT,vals];exact zDE xs p p' 0 h
 |.any,p,p',h|.lit _,p,p',h|.ro _,p,p',h|.same _ _,p,p',h|.addr _ _,p,p',h|.sub _ _ _ _ _,p,p',h|.sl _ _,p,p',h|.ptr _,p,p',h|.tup _,p,p',h=>by
  simp only[cpT,vals];rw[show G'.hd d p'=G.hd s p from by simpa using h []]
theorem zDE:(xs:List T)→ ∀(p p':List Nat)(j:Nat),(∀z,G'.hd d (z++p')=G.hd s (z++p))→yE G' d (cpF s xs p j) p' j=yE G s xs p j
 | [],_,_,_,_=>by simp only[cpF,yE]
 |x::xs,p,p',j,h=>by
  simp only[cpF,yE];rw[zOZ x (j::p) (j::p') (fun z=>by have:=h (z++[j]);simpa using this),zDE xs p p' (j+1) h]
end
theorem zAx(t:T)(p p':List Nat)(ht:∀xs,t≠.tup xs)(h:∀z,G'.hd d (z++p')=G.hd s (z++p)):mkV G' d (cpT s t p) p'=tY G s t p:=by
 cases t with
 |agg xs=>simp only[cpT,mkV,tY,zDE xs p p' 0 h]
 |tup xs=>exact absurd rfl (ht xs)
 |_=>simpa[cpT,mkV,tY]using h []
end
theorem kH(G:Gh)(s:Nat)(t:T)(p:List Nat)(ht:∀xs,t≠.tup xs):mkV G s t p=tY G s t p:=by
 cases t with
 |tup xs=>exact absurd rfl (ht xs)
 |_=>rfl
def Gh.put(G:Gh)(d:Nat)(f:List Nat→Value):Gh:={ G with hd:=fun s z=>if s=d then f z else G.hd s z }
theorem Gh.put_other(G:Gh){d s:Nat}(f:List Nat→Value)(p:List Nat)(h:s≠d):(G.put d f).hd s p=G.hd s p:=by simp[Gh.put,h]
theorem Gh.put_self(G:Gh)(d:Nat)(f:List Nat→Value)(p:List Nat):(G.put d f).hd d p=f p:=by simp[Gh.put]
theorem zVG{d s:Nat}{p:List Nat}(h:Off [(d,0)] s p):s≠d:=by
 rintro rfl
 exact absurd (h 0 (by simp)) (by simp)
theorem Gh.put_keep(G:Gh){w w':World}(hw:w'.heap=w.heap)(d:Nat)(f:List Nat→Value):qP [(d,0)] G w (G.put d f) w' where
 hd s p h:=G.put_other f p (zVG h)
 ad _ _ _:=rfl
 lb b o f' s p _ h _:=⟨h,by simp[yP,World.cell?,hw]⟩
 ow b s p h _:=h
 blk b cs e h:=⟨cs,by rw[hw];exact h,rfl⟩
theorem Mem.put{Γ:Ctx}{G:Gh}{w w':World}(h:Mem Γ G w)(hw:w'.heap=w.heap)(d:Nat)(f:List Nat→Value)(hf:∀z,(f z).oneCell'=true)(ho:w'.os=w.os:=by rfl)(hq:w'.output=w.output:=by rfl):Mem Γ (G.put d f) w' where
 one s p:=by unfold Gh.put;dsimp only;split;exact hf p;exact h.one s p
 lb b o l hl:=by have:=h.lb b o l hl;exact⟨by rw[hw];exact this.1,this.2⟩
 ow b l hl:=by have:=h.ow b l hl;exact⟨by rw[hw];exact this.1,this.2⟩
 st b x hx:=by rw[hw];exact h.st b x hx
 fr b h1 h2:=by rw[hw];exact h.fr b h1 h2
 sz:=by rw[hw];exact h.sz
 bk:=h.bk.trans (fun b cs e hb=>⟨cs,by rw[hw];exact hb,rfl⟩) ho hq
theorem tR(d:Nat)(x:Option T)(s:Nat):Wr.find [(d,x)] s=if d=s then some x else none:=by
 simp[Wr.find]
theorem vK{Γ:Ctx}{E:Env}{G:Gh}{tmps:Array Value}{w w':World}(h:Rep Γ E G tmps w)(hw:w'.heap=w.heap){d:Nat}(hd:d<Γ.N)
  (f:List Nat→Value)(hf:∀z,(f z).oneCell'=true)(t:T)(v:Value)(hv:v=mkV (G.put d f) d t [])(hr:R Γ.St (G.put d f) w' d t [])(ht:Top t)(ho:w'.os=w.os:=by rfl)(hq:w'.output=w.output:=by rfl):
  Rep Γ (E.app [(d,some t)] [(d,0)]) (G.put d f) (tmps.setIfInBounds d v) w':=by
 refine vG h (by simp) (G.put_keep hw d f) (h.mem.put hw d f hf ho hq) ?_ ?_
 ·intro s hs
  rw[tR]at hs;split at hs
  ·cases hs
  ·rename_i hne
   refine⟨fun n hn=>hne (by simp at hn;exact hn.1.symm),?_⟩;rw[Jd];simp[hne]
 ·intro s t' hs
  rw[tR]at hs;split at hs
  ·rename_i he
   subst he;simp at hs;subst hs;refine⟨?_,hr,ht⟩;rw[Jd];simp[h.size,hd,hv]
  ·cases hs
def wN(P:Program)(Γ:Ctx)(o:Oper)(E E':Env):Prop:=
 ∀(a:Act)(w:World)(K:Act→World→Prop)(Q:Exit→Act→World→Prop),Sim Γ E a w→(∀a' w',qX Γ E' a' w'→K a' w')→o.wp P a w K Q
def opT(E:Env):Operand→Option T
 |.tmp s=>E s
 |.const v=>if v.oneCell' then some (.lit v)else none
 |.func f=>some (.lit (.func (.func f) #[] #[]))
 |.global _=>none
def tG(x:Operand)(t:T):T:=match x with
 |.tmp s=>cpT s t []
 |_=>t
section
variable {P:Program}{Γ:Ctx}{E E':Env}{o:Oper}{d:Nat}
theorem wI{a:Act}{s:Nat}{v:Value}(h:a.tmps[s]? =some v):a.eval (.tmp s)=v:=by
 simp[Act.eval,K4,h]
theorem wN.value(ho:o.dst=some d)
  (h:∀(a:Act)(w:World)(G:Gh),Rep Γ E G a.tmps w→ ∃v w',(execOp a.eval o).run P w=.ok (.value v) w'∧ ∃G',Rep Γ E' G' (a.tmps.setIfInBounds d v) w'):wN P Γ o E E':=by
 intro a w K Q ⟨hdf,G,hrep⟩ hK;obtain⟨v,w',hrun,G',hrep'⟩:=h a w G hrep;unfold Oper.wp;rw[hrun,Oper.upon_value];refine hK _ _ ?_;rw[ho];exact .of ⟨hdf,G',hrep'⟩
theorem wN.skip(ho:o.dst=none)
  (h:∀(a:Act)(w:World)(G:Gh),Rep Γ E G a.tmps w→ ∃w',(execOp a.eval o).run P w=.ok .skip w'∧ ∃G',Rep Γ E' G' a.tmps w'):wN P Γ o E E':=by
 intro a w K Q ⟨hdf,G,hrep⟩ hK;obtain⟨w',hrun,G',hrep'⟩:=h a w G hrep;unfold Oper.wp;rw[hrun,Oper.upon_skip];refine hK _ _ ?_;rw[ho];exact .of ⟨hdf,G',hrep'⟩
theorem opd{G:Gh}{a:Act}{w:World}(hrep:Rep Γ E G a.tmps w){x:Operand}{t:T}(hx:opT E x=some t)(ht:∀xs,t≠.tup xs):
  ∃f:List Nat→Value,(∀z,(f z).oneCell'=true)∧(∀d,(∀s,x=.tmp s→s≠d)→T.okB [(d,0)] (tG x t)=true→
   a.eval x=mkV (G.put d f) d (tG x t) []∧R Γ.St (G.put d f) w d (tG x t) [])∧Top (tG x t):=by
 cases x with
 |tmp s=>
  obtain⟨h1,h2,h3⟩:=hrep.ent s t hx;refine⟨fun z=>G.hd s z,fun z=>hrep.mem.one s z,?_,qN s t []⟩;intro d hne hok;have hsd:=hne s rfl;have hk:=G.put_keep (w:=w) (w':=w) rfl d (fun z=>G.hd s z);have hz:∀z,(G.put d (fun z=>G.hd s z)).hd d (z++[])=G.hd s (z++[]):=fun z=>by rw[Gh.put_self]
  refine⟨?_,?_⟩
  ·rw[wI h1,tG,zAx t [] [] ht hz]
   exact kH G s t [] ht
  ·exact zDD (fun p=>G.put_other _ p hsd) t [] [] hz ht (hk.keepR (zAf _ (qN s t []) hok)) h2
 |const v=>
  simp only[opT]at hx;split at hx
  ·rename_i hone
   simp at hx;subst hx;exact⟨fun _=>v,fun _=>hone,fun d _ _=>⟨by simp[Act.eval,tG,mkV,Gh.put],by simp[tG,R,Gh.put]⟩,by simp[tG,Top]⟩
  ·cases hx
 |func f=>
  simp only[opT]at hx;simp at hx;subst hx;exact⟨fun _=>.func (.func f) #[] #[],fun _=>rfl,fun d _ _=>⟨by simp[Act.eval,tG,mkV,Gh.put],by simp[tG,R,Gh.put]⟩,by simp[tG,Top]⟩
 |global g=>cases hx
theorem zN4(x:Operand)(t:T)(ho:o.op=.move x∨o.op=.assign x)(hdst:o.dst=some d)(hd:d<Γ.N)(hx:opT E x=some t)(ht:∀xs,t≠.tup xs)
  (hne:∀s,x=.tmp s→s≠d)(hok:T.okB [(d,0)] (tG x t)=true):wN P Γ o E (E.app [(d,some (tG x t))] [(d,0)]):=by
 refine wN.value hdst fun a w G hrep=>?_
 obtain⟨f,hf,h1,h2⟩:=opd hrep hx ht;obtain⟨h3,h4⟩:=h1 d hne hok;refine⟨a.eval x,w,?_,_,vK hrep rfl hd f hf _ _ h3 h4 h2⟩;rcases ho with ho|ho<;>simp[execOp,ho]
theorem wO{G:Gh}{a:Act}{w:World}(hrep:Rep Γ E G a.tmps w){x:Operand}{v:Value}(hx:opT E x=some (.lit v)):a.eval x=v∧v.oneCell'=true:=by
 cases x with
 |tmp s=>
  obtain⟨h1,h2,_⟩:=hrep.ent s _ hx;simp only[R]at h2;refine⟨?_,by rw[←h2];exact hrep.mem.one s []⟩;rw[wI h1,mkV,h2]
  all_goals simp
 |const u=>
  simp only[opT]at hx;split at hx
  ·simp at hx;subst hx;exact⟨rfl,by assumption⟩
  ·cases hx
 |func f=>simp only[opT]at hx;simp at hx;subst hx;exact⟨rfl,rfl⟩
 |global g=>cases hx
theorem zAN(v:Value)(hv:v.oneCell'=true)(hdst:o.dst=some d)(hd:d<Γ.N)
  (h:∀(a:Act)(w:World)(G:Gh),Rep Γ E G a.tmps w→(execOp a.eval o).run P w=.ok (.value v) w):wN P Γ o E (E.app [(d,some (.lit v))] [(d,0)]):=by
 refine wN.value hdst fun a w G hrep=>?_
 exact⟨v,w,h a w G hrep,_,vK hrep rfl hd (fun _=>v) (fun _=>hv) (.lit v) v (by simp[mkV,Gh.put]) (by simp[R,Gh.put]) (by simp[Top])⟩
def zJm(op:BinOp)(k:IntKind)(a b:Int):Option Value:=
 match op with
 |.add=>some (.int k (k.wrap (a+b)))
 |.sub=>some (.int k (k.wrap (a-b)))
 |.mul=>some (.int k (k.wrap (a*b)))
 |.quo=>if b=0 then none else some (.int k (k.wrap (a.tdiv b)))
 |.rem=>if b=0 then none else some (.int k (a.tmod b))
 |.eql=>some (.bool (a==b))
 |.neq=>some (.bool (a != b))
 |.lss=>some (.bool (decide (a<b)))
 |.leq=>some (.bool (decide (a≤b)))
 |.gtr=>some (.bool (decide (a> b)))
 |.geq=>some (.bool (decide (a≥b)))
 |_=>none
theorem zQp{op:BinOp}{k:IntKind}{a b:Int}{v:Value}(h:zJm op k a b=some v):v.oneCell'=true:=by
 cases op<;>simp[zJm]at h<;>first|(subst h;rfl)|(obtain⟨_,rfl⟩:=h;rfl)
theorem sB(op:BinOp)(xt yt:TypeId)(x y:Operand)(k:IntKind)(m n:Int)(v:Value)(ho:o.op=.binOp op xt x y yt)(hdst:o.dst=some d)(hd:d<Γ.N)
  (hx:opT E x=some (.lit (.int k m)))(hy:opT E y=some (.lit (.int k n)))(hv:zJm op k m n=some v):wN P Γ o E (E.app [(d,some (.lit v))] [(d,0)]):=by
 refine zAN v (zQp hv) hdst hd fun a w G hrep=>?_
 have h1:=(wO hrep hx).1;have h2:=(wO hrep hy).1;cases op<;>simp[zJm]at hv<;>
  first
   |(subst hv;simp[execOp,ho,h1,h2,eqGuard,binOp,Op.intArith,Op.intCmp];done)
   |(obtain⟨h0,rfl⟩:=hv;simp[execOp,ho,h1,h2,eqGuard,binOp,Op.intDiv,h0])
theorem zVH(xt:TypeId)(x:Operand)(b:Bool)(ho:o.op=.unOp .not xt x)(hdst:o.dst=some d)(hd:d<Γ.N)
  (hx:opT E x=some (.lit (.bool b))):wN P Γ o E (E.app [(d,some (.lit (.bool !b)))] [(d,0)]):=by
 refine zAN _ rfl hdst hd fun a w G hrep=>?_
 have h1:=(wO hrep hx).1;simp[execOp,ho,h1,Op.unary]
theorem zVI(xt:TypeId)(x:Operand)(k:IntKind)(n:Int)(ho:o.op=.unOp .neg xt x)(hdst:o.dst=some d)(hd:d<Γ.N)
  (hx:opT E x=some (.lit (.int k n))):wN P Γ o E (E.app [(d,some (.lit (.int k (k.wrap (0-n)))))] [(d,0)]):=by
 refine zAN _ rfl hdst hd fun a w G hrep=>?_
 have h1:=(wO hrep hx).1;simp[execOp,ho,h1,Op.unary,Op.intArith]
theorem zTx(src dst:TypeId)(ds:TypeDesc)(x:Operand)(k k':IntKind)(n:Int)(ho:o.op=.convert src dst x)(hdst:o.dst=some d)(hd:d<Γ.N)
  (hs:P.underlying src=some ds)(ht:P.underlying dst=some (.int k'))(hx:opT E x=some (.lit (.int k n))):
  wN P Γ o E (E.app [(d,some (.lit (.int k' (k'.wrap n))))] [(d,0)]):=by
 refine zAN _ rfl hdst hd fun a w G hrep=>?_
 have h1:=(wO hrep hx).1;simp[execOp,ho,h1,convert,run_underlying hs,run_underlying ht,Conv.intToInt]
theorem zTy(c x y:Operand)(b:Bool)(t:T)(ho:o.op=.pick c x y)(hdst:o.dst=some d)(hd:d<Γ.N)
  (hc:opT E c=some (.lit (.bool b)))(hx:opT E (if b then x else y)=some t)(ht:∀xs,t≠.tup xs)
  (hne:∀s,(if b then x else y)=.tmp s→s≠d)(hok:T.okB [(d,0)] (tG (if b then x else y) t)=true):wN P Γ o E (E.app [(d,some (tG (if b then x else y) t))] [(d,0)]):=by
 refine wN.value hdst fun a w G hrep=>?_
 obtain⟨f,hf,h1,h2⟩:=opd hrep hx ht;obtain⟨h3,h4⟩:=h1 d hne hok;refine⟨a.eval (if b then x else y),w,?_,_,vK hrep rfl hd f hf _ _ h3 h4 h2⟩;have h5:=(wO hrep hc).1;cases b<;>simp[execOp,ho,h5,asBool]
end
end Go.Ab

namespace Go.Ab
open Go
def qE(E:Env):Nat→Nat→List Nat→Option (Nat×List Nat×T)
 |0,_,_=>none
 |n+1,r,q=>match E r with
  |some t=>match t.get q.reverse with
   |some (.same r' q')=>qE E n r' q'
   |some u=>some (r,q,u)
   |none=>none
  |none=>none
def tH(E:Env):Operand→Option (Nat×List Nat×T)
 |.tmp s=>qE E 4 s []
 |_=>none
def T.single:T→Bool
 |.agg _|.tup _=>false
 |_=>true
theorem xP{G:Gh}{s:Nat}{t:T}{p:List Nat}(h:t.single=true):mkV G s t p=G.hd s p:=by
 cases t<;>simp[T.single]at h<;>rfl
section
variable {P:Program}{Γ:Ctx}{E:Env}{o:Oper}{d:Nat}
theorem zCP{G:Gh}{a:Act}{w:World}(hrep:Rep Γ E G a.tmps w):∀(n s:Nat)(p:List Nat)(r:Nat)(q:List Nat)(u:T),qE E n s p=some (r,q,u)→
  R Γ.St G w r u q∧G.hd s p=G.hd r q∧(∃t,E r=some t∧t.get q.reverse=some u)
 |0,_,_,_,_,_,h=>by simp[qE]at h
 |n+1,s,p,r,q,u,h=>by
  simp only[qE]at h;split at h
  ·rename_i t ht
   obtain⟨_,h4,_⟩:=hrep.ent _ _ ht;split at h
   ·rename_i r' q' hg
    obtain⟨h1,h2,h3⟩:=zCP hrep n r' q' r q u h;have h5:=(zAw p.reverse t _ [] h4 hg).1;simp only[rp,Ks,J9,R]at h5;exact⟨h1,h5.trans h2,h3⟩
   ·rename_i u' hns hg
    simp at h;obtain⟨rfl,rfl,rfl⟩:=h;have h5:=(zAw p.reverse t _ [] h4 hg).1;simp only[rp,Ks,J9]at h5;exact⟨h5,rfl,t,ht,hg⟩
   ·cases h
  ·cases h
theorem qY{G:Gh}{a:Act}{w:World}(hrep:Rep Γ E G a.tmps w){x:Operand}{r:Nat}{q:List Nat}{u:T}(h:tH E x=some (r,q,u))(hu:u.single=true):
  R Γ.St G w r u q∧a.eval x=G.hd r q:=by
 cases x with
 |tmp s=>
  obtain⟨h1,h2,_⟩:=zCP hrep 4 s [] r q u h;refine⟨h1,?_⟩;rw[←h2];simp only[tH,qE]at h;split at h
  ·rename_i t ht
   obtain⟨h3,_,_⟩:=hrep.ent s _ ht;rw[wI h3];simp only[Ld,T.get]at h;have:t.single=true:=by
    cases t<;>first|rfl|(simp at h;obtain⟨_,_,rfl⟩:=h;simp[T.single]at hu)
   exact xP this
  ·cases h
 |_=>simp[tH]at h
theorem zJn{St:Stb}{G:Gh}{w:World}{s:Nat}{k:Nat}{xs:List T}{p:List Nat}(h:R St G w s (.sl k xs) p):∃a c,G.hd s p=.slice a xs.length c:=by
 simp only[R]at h;rcases h with⟨rfl,a,h⟩|⟨b,cap,_,_,h,_⟩
 ·exact⟨a,0,h⟩
 ·exact⟨_,_,h⟩
theorem zCQ{St:Stb}{G:Gh}{w:World}{s:Nat}{k:Nat}{xs:List T}{p:List Nat}(h:R St G w s (.ro (.sl k xs)) p):∃a c,G.hd s p=.slice a xs.length c∧xs.length≤c∧c≤maxLen∧
   (xs≠[]→ ∃b o' cs' e fr,a=some ⟨b,o',none⟩∧St b=some (.cells cs' e fr)∧RoL St xs cs' o' k):=by
 simp only[R,RoC]at h;obtain⟨a,c,h1,h2,h3,h4⟩:=h;exact⟨a,c,by simpa using h1,h2,h3,h4⟩
def zKp:T→Option Nat
 |.sl _ xs|.ro (.sl _ xs)=>some xs.length
 |.lit (.slice _ n _)=>some n
 |.lit (.string s)=>some s.size
 |_=>none
def zTz:T→TypeDesc→Bool
 |.lit (.string _),.string=>true
 |.sl _ _,.slice _|.ro (.sl _ _),.slice _|.lit (.slice _ _ _),.slice _=>true
 |_,_=>false
theorem zQq(x:Operand)(t:TypeId)(ds:TypeDesc)(r:Nat)(q:List Nat)(u:T)(n:Nat)(ho:o.op=.call { callee:=.builtin .len,args:=#[x],argTypes:=#[t] })(hdst:o.dst=some d)(hd:d<Γ.N)
  (ht:P.underlying t=some ds)(hx:tH E x=some (r,q,u))(hl:zKp u=some n)(hds:zTz u ds=true):
  wN P Γ o E (E.app [(d,some (.lit (.int .i64 n)))] [(d,0)]):=by
 refine zAN (.int .i64 n) rfl hdst hd fun a w G hrep=>?_
 have hu:u.single=true:=by cases u<;>simp[zKp]at hl<;>rfl
 obtain⟨h1,h2⟩:=qY hrep hx hu;have h3:(Builtin.len_ #[t] o.type #[G.hd r q]).run P w=.ok (.int .i64 n) w:=by
  cases u with
  |sl k xs=>
   obtain⟨a',c,h4⟩:=zJn h1;simp[zKp]at hl;subst hl;cases ds<;>simp[zTz]at hds
   simp[Builtin.len_,run_underlying ht,h4,goInt]
  |ro t'=>
   cases t'<;>simp[zKp]at hl
   obtain⟨a',c,h4,_⟩:=zCQ h1;subst hl;cases ds<;>simp[zTz]at hds
   simp[Builtin.len_,run_underlying ht,h4,goInt]
  |lit v=>
   simp only[R]at h1;cases v<;>simp[zKp]at hl<;>(subst hl;cases ds<;>simp[zTz]at hds;simp[Builtin.len_,run_underlying ht,h1,goInt])
  |_=>simp[zKp]at hl
 simp[execOp,ho,resolve,invoke,builtin,h2,h3]
theorem zB3{G:Gh}{w:World}{s:Nat}{t:T}{p:List Nat}{b o:Nat}(h:Loc G w s t p b o):G.ad s p=⟨b,o,none⟩:=by
 cases t<;>simp only[Loc]at h<;>first|exact h.1|exact h.elim
theorem uO(b o n:Nat):(⟨b,o,none⟩:Addr).add n=⟨b,o+n,none⟩:=by
 unfold Addr.add;split
 ·rename_i h;subst h;rfl
 ·rfl
theorem zT0{St:Stb}{G:Gh}{w:World}{s:Nat}{k:Nat}{xs:List T}{p:List Nat}(h:R St G w s (.sl k xs) p){i:Nat}(hi:i<xs.length):
  ∃b cap,G.hd s p=.slice (some ⟨b,0,none⟩) xs.length cap∧G.ad s (i::p)=⟨b,i*k,none⟩:=by
 simp only[R]at h;rcases h with⟨rfl,_⟩|⟨b,cap,cs,e,h1,h2,h3,h4,h5,h6,h7,h8⟩
 ·simp at hi
 ·have:=(jL xs p 0 b 0 k i xs[i] h8 (by simp[hi])).1
  simp only[Je]at this;exact⟨b,cap,h1,zB3 this⟩
theorem zQr(x y:Operand)(t e:TypeId)(ti:TypeInfo)(r:Nat)(q:List Nat)(k:Nat)(xs:List T)(kd:IntKind)(i:Int)(ho:o.op=.indexAddr t x y)(hdst:o.dst=some d)(hd:d<Γ.N)
  (ht:P.underlying t=some (.slice e))(he:P.info? e=some ti)(hk:ti.size=k)(hx:tH E x=some (r,q,.sl k xs))(hy:opT E y=some (.lit (.int kd i)))(h0:0≤i)(h1:i.toNat<xs.length):
  wN P Γ o E (E.app [(d,some (.addr r (i.toNat::q)))] [(d,0)]):=by
 refine wN.value hdst fun a w G hrep=>?_
 obtain⟨g1,g2⟩:=qY hrep hx rfl;have g3:=(wO hrep hy).1;obtain⟨b,cap,g4,g5⟩:=zT0 g1 h1;refine⟨.pointer (some (G.ad r (i.toNat::q))),w,?_,_,vK hrep rfl hd (fun _=>.pointer (some (G.ad r (i.toNat::q)))) (fun _=>rfl) _ _ (by simp[mkV,Gh.put]) (by simp[R,Gh.put]) (by simp[Top])⟩;have hlt:i<(xs.length:Int):=by omega
 simp[execOp,ho,Instr.indexAt,g3,g2,g4,asIntOf,run_underlying ht,h0,hlt,sizeOf,typeInfo,he,hk,uO,g5]
theorem zGm{St:Stb}:(xs:List T)→ ∀(cs:Array Value)(o k i:Nat)(x:T),RoL St xs cs o k→xs[i]? =some x→RoC St x cs (o+i*k)
 | [],_,_,_,_,_,_,h=>by simp at h
 |y::ys,cs,o,k,i,x,hr,h=>by
  simp only[RoL]at hr;cases i with
  |zero=>simp at h;subst h;simpa using hr.1
  |succ i=>
   have:=zGm ys cs (o+k) k i x hr.2 (by simpa using h)
   rwa [show o+(i+1)*k=o+k+i*k from by rw[K5];omega]
theorem zN5{St:Stb}:(xs:List T)→ ∀(cs:Array Value)(o i:Nat)(x:T),RoF St xs cs o→xs[i]? =some x→RoC St x cs (o+T.sizes (xs.take i))
 | [],_,_,_,_,_,h=>by simp at h
 |y::ys,cs,o,i,x,hr,h=>by
  simp only[RoF]at hr;cases i with
  |zero=>simp at h;subst h;simpa[T.sizes]using hr.1
  |succ i=>
   have:=zN5 ys cs (o+y.size) i x hr.2 (by simpa using h)
   rwa [K7,T.sizes,←Lr]
theorem zQs(x y:Operand)(t e:TypeId)(ti:TypeInfo)(r:Nat)(q:List Nat)(k:Nat)(xs:List T)(kd:IntKind)(i:Int)(u:T)(ho:o.op=.indexAddr t x y)(hdst:o.dst=some d)(hd:d<Γ.N)
  (ht:P.underlying t=some (.slice e))(he:P.info? e=some ti)(hk:ti.size=k)(hx:tH E x=some (r,q,.ro (.sl k xs)))(hy:opT E y=some (.lit (.int kd i)))(h0:0≤i)(h1:xs[i.toNat]? =some u):
  wN P Γ o E (E.app [(d,some (.ro (.ptr u)))] [(d,0)]):=by
 refine wN.value hdst fun a w G hrep=>?_
 obtain⟨g1,g2⟩:=qY hrep hx rfl;have g3:=(wO hrep hy).1;have hlt':i.toNat<xs.length:=(Jb.1 h1).1;obtain⟨a',c,g4,_,_,g5⟩:=zCQ g1;obtain⟨b,o',cs',e',fr,rfl,g6,g7⟩:=g5 (by rintro rfl;simp at hlt');have g8:=zGm xs cs' o' k i.toNat u g7 h1;refine⟨.pointer (some ⟨b,o'+i.toNat*k,none⟩),w,?_,_,vK hrep rfl hd (fun _=>.pointer (some ⟨b,o'+i.toNat*k,none⟩)) (fun _=>rfl) _ _ (by simp[mkV,Gh.put]) ?_ (by simp[Top])⟩
 ·have hlt:i<(xs.length:Int):=by omega
  simp[execOp,ho,Instr.indexAt,g3,g2,g4,asIntOf,run_underlying ht,h0,hlt,sizeOf,typeInfo,he,hk,uO]
 ·simp only[R,Gh.put_self,RoC]
  exact⟨b,_,cs',e',fr,by simp,g6,g8⟩
theorem zCe:(xs:List T)→ ∀{G:Gh}{w:World}{s:Nat}(p:List Nat)(j b o i:Nat)(x:T),vF G w s xs p j b o→xs[i]? =some x→
  Loc G w s x ((j+i)::p) b (o+T.sizes (xs.take i))
 | [],_,_,_,_,_,_,_,_,_,_,h=>by simp at h
 |y::ys,G,w,s,p,j,b,o,i,x,hr,h=>by
  simp only[vF]at hr;cases i with
  |zero=>simp at h;subst h;simpa[T.sizes]using hr.1
  |succ i=>
   have:=zCe ys p (j+1) b (o+y.size) i x hr.2 (by simpa using h)
   rwa [show j+(i+1)=j+1+i from by omega,K7,T.sizes,←Lr]
theorem tV{P:Program}{w:World}(a:Addr):(Instr.sureAddr (.pointer (some a))).run P w=.ok a w:=rfl
theorem zCf{P:Program}{w:World}{S:TypeId}{fs:Array Field}{f:Field}{fi:TypeInfo}{j:Nat}{b o':Nat}(hS:P.underlying S=some (.struct fs))(hf:fs[j]? =some f)(hi:P.info? f.type=some fi)(hz:fi.size≠0):
  (Instr.fieldAt S (.pointer (some ⟨b,o',none⟩)) j).run P w=.ok (.pointer (some ⟨b,o'+f.offset,none⟩)) w:=by
 simp[Instr.fieldAt,run_underlying hS,hf,tV,fieldPlace,sizeOf,typeInfo,hi,hz,uO]
theorem zXj(x:Operand)(S:TypeId)(fs:Array Field)(f:Field)(fi:TypeInfo)(j:Nat)(r:Nat)(q:List Nat)(xs:List T)(u:T)(ho:o.op=.fieldAddr S x j)(hdst:o.dst=some d)(hd:d<Γ.N)
  (hS:P.underlying S=some (.struct fs))(hf:fs[j]? =some f)(hi:P.info? f.type=some fi)(hz:fi.size≠0)(hx:tH E x=some (r,q,.ptr (.agg xs)))(hu:xs[j]? =some u)(hoff:T.sizes (xs.take j)=f.offset):
  wN P Γ o E (E.app [(d,some (.addr r (j::0::q)))] [(d,0)]):=by
 refine wN.value hdst fun a w G hrep=>?_
 obtain⟨g1,g2⟩:=qY hrep hx rfl;simp only[R]at g1;obtain⟨b,cs,e,g4,_,_,_,g5,_⟩:=g1;simp only[Loc]at g5;have g6:=zCe xs (0::q) 0 b 0 j u g5.2 hu;simp only[Je]at g6;refine⟨.pointer (some (G.ad r (j::0::q))),w,?_,_,vK hrep rfl hd (fun _=>.pointer (some (G.ad r (j::0::q)))) (fun _=>rfl) _ _ (by simp[mkV,Gh.put]) (by simp[R,Gh.put]) (by simp[Top])⟩;have g7:=zCf (w:=w) (b:=b) (o':=0) hS hf hi hz;simp[execOp,ho,g2,g4,g7,zB3 g6,hoff]
theorem zMl(x:Operand)(S:TypeId)(fs:Array Field)(f:Field)(fi:TypeInfo)(j:Nat)(r:Nat)(q:List Nat)(t:T)(xs:List T)(u:T)(ho:o.op=.fieldAddr S x j)(hdst:o.dst=some d)(hd:d<Γ.N)
  (hS:P.underlying S=some (.struct fs))(hf:fs[j]? =some f)(hi:P.info? f.type=some fi)(hz:fi.size≠0)(hx:opT E x=some (.addr r q))(hr:E r=some t)(hg:t.get q.reverse=some (.agg xs))(hl:t.locd q.reverse=true)
  (hu:xs[j]? =some u)(hoff:T.sizes (xs.take j)=f.offset):
  wN P Γ o E (E.app [(d,some (.addr r (j::q)))] [(d,0)]):=by
 refine wN.value hdst fun a w G hrep=>?_
 cases x with
 |tmp s=>
  obtain⟨h1,h2,_⟩:=hrep.ent s _ hx;obtain⟨_,h4,_⟩:=hrep.ent r _ hr;simp only[R]at h2;obtain⟨b,o',cs,e,h6,_,_⟩:=(zAw q.reverse t _ [] h4 hg).2 hl;simp only[rp,Ks,J9]at h6;have h7:=zB3 h6;simp only[Loc]at h6;have g6:=zCe xs q 0 b o' j u h6.2 hu;simp only[Je]at g6;refine⟨.pointer (some (G.ad r (j::q))),w,?_,_,vK hrep rfl hd (fun _=>.pointer (some (G.ad r (j::q)))) (fun _=>rfl) _ _ (by simp[mkV,Gh.put]) (by simp[R,Gh.put]) (by simp[Top])⟩;have g7:=zCf (w:=w) (b:=b) (o':=o') hS hf hi hz;simp[execOp,ho,wI h1,mkV,h2,h7,g7,zB3 g6,hoff]
 |const v=>simp only[opT]at hx;split at hx<;>simp at hx
 |func f=>simp[opT]at hx
 |global g=>simp[opT]at hx
theorem zMm{G:Gh}{a:Act}{w:World}(hrep:Rep Γ E G a.tmps w){x:Operand}{u:T}(hx:opT E x=some (.ro u)):RoC Γ.St u #[a.eval x] 0:=by
 cases x with
 |tmp s=>
  obtain⟨h1,h2,_⟩:=hrep.ent s _ hx;simp only[R]at h2;rw[wI h1,xP rfl];exact h2
 |const v=>simp only[opT]at hx;split at hx<;>simp at hx
 |func f=>simp[opT]at hx
 |global g=>simp[opT]at hx
theorem zQt(x:Operand)(S:TypeId)(fs:Array Field)(f:Field)(fi:TypeInfo)(j:Nat)(xs:List T)(u:T)(ho:o.op=.fieldAddr S x j)(hdst:o.dst=some d)(hd:d<Γ.N)
  (hS:P.underlying S=some (.struct fs))(hf:fs[j]? =some f)(hi:P.info? f.type=some fi)(hz:fi.size≠0)(hx:opT E x=some (.ro (.ptr (.agg xs))))(hu:xs[j]? =some u)(hoff:T.sizes (xs.take j)=f.offset):
  wN P Γ o E (E.app [(d,some (.ro (.ptr u)))] [(d,0)]):=by
 refine wN.value hdst fun a w G hrep=>?_
 have h1:=zMm hrep hx;simp only[RoC]at h1;obtain⟨b,o',cs',e,fr,h2,h3,h4⟩:=h1;have h5:=zN5 xs cs' o' j u h4 hu;refine⟨.pointer (some ⟨b,o'+f.offset,none⟩),w,?_,_,vK hrep rfl hd (fun _=>.pointer (some ⟨b,o'+f.offset,none⟩)) (fun _=>rfl) _ _ (by simp[mkV,Gh.put]) ?_ (by simp[Top])⟩
 ·have g7:=zCf (w:=w) (b:=b) (o':=o') hS hf hi hz
  have h6:a.eval x=.pointer (some ⟨b,o',none⟩):=by simpa using h2
  simp[execOp,ho,h6,g7]
 ·simp only[R,Gh.put_self,RoC]
  exact⟨b,o'+f.offset,cs',e,fr,by simp,h3,by rw[←hoff];exact h5⟩
def zFb:TypeDesc→Bool
 |.struct _|.array _ _=>true
 |_=>false
theorem jN{P:Program}{w:World}{t:TypeId}{ds:TypeDesc}(ht:P.underlying t=some ds):(isAgg t).run P w=.ok (zFb ds) w:=by
 cases ds<;>simp[isAgg,run_underlying ht,zFb]
theorem vD{G:Gh}{w:World}{s:Nat}{t:T}{p:List Nat}{b o:Nat}(ht:t.single=true)(h:Loc G w s t p b o):G.ad s p=⟨b,o,none⟩∧G.lb b o=some (false,s,p)∧yP w b o=some (G.hd s p):=by
 cases t<;>simp[T.single]at ht<;>simpa only[Loc]using h
mutual
theorem zQu{G:Gh}{w:World}{s:Nat}:(t:T)→ ∀(p:List Nat)(b o:Nat),Loc G w s t p b o→ ∀(i:Nat)(v:Value),(vals G s t p)[i]? =some v→yP w b (o+i)=some v
 |.agg xs,p,b,o,h,i,v,hv=>by simp only[Loc,vals]at h hv;exact zBb xs p 0 b o h.2 i v hv
 |.any,p,b,o,h,i,v,hv|.lit _,p,b,o,h,i,v,hv|.ro _,p,b,o,h,i,v,hv|.same _ _,p,b,o,h,i,v,hv|.addr _ _,p,b,o,h,i,v,hv|.sub _ _ _ _ _,p,b,o,h,i,v,hv|.sl _ _,p,b,o,h,i,v,hv|.ptr _,p,b,o,h,i,v,hv=>by
  simp only[Loc,vals]at h hv;cases i with
  |zero=>simp at hv;rw[←hv];exact h.2.2
  |succ i=>simp at hv
 |.tup _,_,_,_,h,_,_,_=>by simp only[Loc]at h
theorem zBb{G:Gh}{w:World}{s:Nat}:(xs:List T)→ ∀(p:List Nat)(j b o:Nat),vF G w s xs p j b o→ ∀(i:Nat)(v:Value),(yE G s xs p j)[i]? =some v→yP w b (o+i)=some v
 | [],_,_,_,_,_,i,v,hv=>by simp[yE]at hv
 |x::xs,p,j,b,o,h,i,v,hv=>by
  simp only[vF,yE]at h hv;rw[Ky]at hv;split at hv
  ·exact zQu x (j::p) b o h.1 i v hv
  ·rename_i hge
   have hlen:=wU (G:=G) (s:=s) x (j::p) (fun ys e=>by subst e;simp only[Loc]at h;exact h.1);have:=zBb xs p (j+1) b (o+x.size) h.2 _ v hv
   rwa [show o+x.size+(i-(vals G s x (j::p)).length)=o+i from by omega]at this
theorem wU{G:Gh}{s:Nat}:(t:T)→ ∀(p:List Nat),(∀xs,t≠.tup xs)→(vals G s t p).length=t.size
 |.agg xs,p,_=>by simp only[vals,T.size];exact wS xs p 0
 |.any,_,_|.lit _,_,_|.ro _,_,_|.same _ _,_,_|.addr _ _,_,_|.sub _ _ _ _ _,_,_|.sl _ _,_,_|.ptr _,_,_|.tup _,_,_=>by simp[vals,T.size]
theorem wS{G:Gh}{s:Nat}:(xs:List T)→ ∀(p:List Nat)(j:Nat),(yE G s xs p j).length=T.sizes xs
 | [],_,_=>by simp[yE,T.sizes]
 |x::xs,p,j=>by
  simp only[yE,J5,T.sizes,wS xs p (j+1)]
  by_cases hx:∃ys,x=.tup ys
  ·obtain⟨ys,rfl⟩:=hx;simp[vals,T.size]
  ·rw[wU x (j::p) (fun ys e=>hx ⟨ys,e⟩)]
end
theorem zFI{P:Program}{G:Gh}{w:World}{s:Nat}{t:T}{p:List Nat}{b o':Nat}{T':TypeId}{ds:TypeDesc}{ti:TypeInfo}(hT:P.underlying T'=some ds)(hi:P.info? T'=some ti)(hl:Loc G w s t p b o')
  (hsh:zFb ds= !t.single)(hsz:ti.size=t.size):(loadVar T' ⟨b,o',none⟩).run P w=.ok (tY G s t p) w:=by
 cases t with
 |agg xs=>
  have h1:=run_loadCells_list (P:=P) (w:=w) ⟨b,o',none⟩ (yE G s xs p 0) (fun j v hv=>by
   rw[uO];simp only[Loc]at hl;exact zBb xs p 0 b o' hl.2 j v hv)
  rw[wS]at h1;simp only[T.size]at hsz;simp[T.single]at hsh;simp[loadVar,jN hT,hsh,sizeOf,typeInfo,hi,hsz,h1,tY]
 |tup xs=>simp only[Loc]at hl
 |_=>
  have h1:=(vD rfl hl).2.2;simp[T.single]at hsh;simp only[yP]at h1;simp[loadVar,jN hT,hsh,load,Sem.run,h1,tY]
def zAD(Γ:Ctx)(E:Env)(x:Operand)(r:Nat)(q:List Nat):Prop:=∀(a:Act)(w:World)(G:Gh),Rep Γ E G a.tmps w→a.eval x=.pointer (some (G.ad r q))
theorem zAD.addr{x:Operand}{r:Nat}{q:List Nat}(hx:opT E x=some (.addr r q)):zAD Γ E x r q:=fun a w G hrep=>by
 cases x with
 |tmp s=>
  obtain⟨h1,h2,_⟩:=hrep.ent s _ hx;simp only[R]at h2;rw[wI h1];exact h2
 |const v=>simp only[opT]at hx;split at hx<;>simp at hx
 |func f=>simp[opT]at hx
 |global g=>simp[opT]at hx
theorem zAD.ptr{x:Operand}{r:Nat}{q:List Nat}{t:T}(hx:tH E x=some (r,q,.ptr t)):zAD Γ E x r (0::q):=fun a w G hrep=>by
 obtain⟨g1,g2⟩:=qY hrep hx rfl;simp only[R]at g1;obtain⟨b,cs,e,g4,_,_,_,g5,_⟩:=g1;rw[g2,g4,zB3 g5]
theorem zKq(x:Operand)(T':TypeId)(ds:TypeDesc)(ti:TypeInfo)(r:Nat)(q:List Nat)(t u:T)(ho:o.op=.load T' x)(hdst:o.dst=some d)(hd:d<Γ.N)
  (hT:P.underlying T'=some ds)(hi:P.info? T'=some ti)(hsh:zFb ds= !u.single)(hsz:ti.size=u.size)
  (hx:zAD Γ E x r q)(hr:E r=some t)(hg:t.get q.reverse=some u)(hl:t.locd q.reverse=true)(hrd:r≠d)(hok:T.okB [(d,0)] (cpT r u q)=true):
  wN P Γ o E (E.app [(d,some (cpT r u q))] [(d,0)]):=by
 refine wN.value hdst fun a w G hrep=>?_
 have hadr:=hx a w G hrep;obtain⟨_,h4,_⟩:=hrep.ent r _ hr;obtain⟨h5,h6⟩:=zAw q.reverse t u [] h4 hg;obtain⟨b,o',cs,e,h6,_,_⟩:=h6 hl;simp only[rp,Ks,J9]at h5 h6;have hnt:∀xs,u≠.tup xs:=by rintro xs rfl;simp only[Loc]at h6
 have h7:=zB3 h6;have hz:∀z,(G.put d (fun z=>G.hd r (z++q))).hd d (z++[])=G.hd r (z++q):=fun z=>by rw[Gh.put_self,J9]
 have hk:=G.put_keep (w:=w) (w':=w) rfl d (fun z=>G.hd r (z++q));refine⟨tY G r u q,w,?_,_,vK hrep rfl hd (fun z=>G.hd r (z++q)) (fun z=>hrep.mem.one _ _) _ _ (zAx u q [] hnt hz).symm
  (zDD (fun p=>G.put_other _ p hrd) u q [] hz hnt (hk.keepR (zAf _ (qN r u q) hok)) h5) (qN r u q)⟩
 have h8:=zFI (T':=T') hT hi h6 hsh hsz;simp[execOp,ho,hadr,h7,Instr.loadAt,tV,h8]
theorem zT1(x:Operand)(T':TypeId)(ds:TypeDesc)(ti:TypeInfo)(r:Nat)(q:List Nat)(t u:T)(ho:o.op=.load T' x)(hdst:o.dst=some d)(hd:d<Γ.N)
  (hT:P.underlying T'=some ds)(hi:P.info? T'=some ti)(hsh:zFb ds= !u.single)(hsz:ti.size=u.size)
  (hx:opT E x=some (.addr r q))(hr:E r=some t)(hg:t.get q.reverse=some u)(hl:t.locd q.reverse=true)(hrd:r≠d)(hok:T.okB [(d,0)] (cpT r u q)=true):
  wN P Γ o E (E.app [(d,some (cpT r u q))] [(d,0)]):=zKq x T' ds ti r q t u ho hdst hd hT hi hsh hsz (zAD.addr hx) hr hg hl hrd hok
def roT:T→T
 |.lit v=>.lit v
 |.agg xs=>.agg (roTs xs)
 |.ro t=>.ro t
 |.any=>.any
 |.same r q=>.ro (.same r q)
 |.addr r q=>.ro (.addr r q)
 |.sub r q k lo hi=>.ro (.sub r q k lo hi)
 |.sl k xs=>.ro (.sl k xs)
 |.ptr t=>.ro (.ptr t)
 |.tup xs=>.ro (.tup xs)
where roTs:List T→List T
 | []=>[]
 |x::xs=>roT x::roTs xs
end
end Go.Ab

namespace Go.Ab
open Go
def jO(v:Value):Value:=if v.oneCell' then v else .bool false
theorem zBc(v:Value):(jO v).oneCell'=true:=by
 unfold jO;split
 ·assumption
 ·rfl
theorem zAg{v:Value}(h:v.oneCell'=true):jO v=v:=by simp[jO,h]
def zDF:T→Array Value→Nat→List Nat→Value
 |.agg xs,cs,o,i::f=>match xs[i]? with
  |some x=>zDF x cs (o+T.sizes (xs.take i)) f
  |none=>.bool false
 |_,cs,o,_=>cs.getD o (.bool false)
termination_by structural _ _ _ f=>f
theorem zAE{t:T}(h:t.single=true)(cs:Array Value)(o:Nat)(f:List Nat):zDF t cs o f=cs.getD o (.bool false):=by
 cases t<;>simp[T.single]at h<;>cases f<;>rfl
mutual
theorem zEq:(u:T)→(∀xs,u≠.tup xs)→(roT u).size=u.size
 |.agg xs,_=>by simp only[roT,T.size];exact zFc xs
 |.lit _,_|.any,_|.sl _ _,_|.ptr _,_|.ro _,_|.same _ _,_|.addr _ _,_|.sub _ _ _ _ _,_|.tup _,_=>by simp[roT,T.size]
theorem zFc:(xs:List T)→T.sizes (roT.roTs xs)=T.sizes xs
 | []=>by simp only[roT.roTs]
 |x::xs=>by
  simp only[roT.roTs,T.sizes,zFc xs]
  by_cases hx:∃ys,x=.tup ys
  ·obtain⟨ys,rfl⟩:=hx;simp[roT,T.size]
  ·rw[zEq x (fun ys e=>hx ⟨ys,e⟩)]
end
section
variable {St:Stb}{G:Gh}{w:World}{d:Nat}
theorem zG7{u:T}{cs:Array Value}{o:Nat}(hu:u.single=true)(h:RoC St u cs o):∃v,cs[o]? =some v∧v.oneCell'=true∧RoC St u #[v] 0:=by
 cases u<;>simp[T.single]at hu<;>simp only[RoC]at h ⊢
 ·obtain⟨v,h1,h2⟩:=h;exact⟨v,h1,h2,v,by simp,h2⟩
 ·exact⟨_,h.1,h.2,by simp,h.2⟩
 ·obtain⟨a,c,h1,h2⟩:=h;exact⟨_,h1,rfl,a,c,by simp,h2⟩
 ·obtain⟨b,o',cs',e,fr,h1,h2⟩:=h;exact⟨_,h1,rfl,b,o',cs',e,fr,by simp,h2⟩
mutual
theorem zQv:(u:T)→ ∀(cs:Array Value)(o:Nat)(p:List Nat),(∀z,G.hd d (z++p)=jO (zDF u cs o z.reverse))→RoC St u cs o→R St G w d (roT u) p
 |.agg xs,cs,o,p,hd,h=>by
  simp only[roT,R,RoC]at h ⊢
  exact zQw xs cs o p 0 o (by simp) (fun z j x hx=>by
   have:=hd (z++[j]);simp only[Ja,Jn,Jj,Hn,Lz,Ld,zDF]at this;rw[Je,this];simp[hx]) h
 |.lit v,cs,o,p,hd,h=>by
  simp only[roT,R,RoC]at h ⊢
  have:=hd [];rw[Jj,zAE rfl]at this;rw[this];simp[K4,h.1,zAg h.2]
 |.any,_,_,_,_,_=>by simp only[roT,R]
 |.sl k xs,cs,o,p,hd,h|.ptr t,cs,o,p,hd,h=>by
  obtain⟨v,h1,h2,h3⟩:=zG7 rfl h;have:=hd [];rw[Jj,zAE rfl]at this;simp only[roT,R];rw[this];simpa[K4,h1,zAg h2]using h3
 |.ro _,_,_,_,_,h|.same _ _,_,_,_,_,h|.addr _ _,_,_,_,_,h|.sub _ _ _ _ _,_,_,_,_,h|.tup _,_,_,_,_,h=>by simp only[RoC]at h
theorem zQw:(xs:List T)→ ∀(cs:Array Value)(o0:Nat)(p:List Nat)(j o:Nat),o0≤o→(∀z i x,xs[i]? =some x→G.hd d (z++((j+i)::p))=jO (zDF x cs (o+T.sizes (xs.take i)) z.reverse))→RoF St xs cs o→RF St G w d (roT.roTs xs) p j
 | [],_,_,_,_,_,_,_,_=>by simp only[roT.roTs,RF]
 |x::xs,cs,o0,p,j,o,ho,hd,h=>by
  simp only[roT.roTs,RF,RoF]at h ⊢
  refine⟨zQv x cs o (j::p) (fun z=>by simpa[T.sizes]using hd z 0 x (by simp)) h.1,zQw xs cs o0 p (j+1) (o+x.size) (by omega) (fun z i y hy=>?_) h.2⟩;have:=hd z (i+1) y (by simpa using hy);simp only[K7,T.sizes]at this;rw[show j+1+i=j+(i+1)from by omega,show o+x.size+T.sizes (xs.take i)=o+(x.size+T.sizes (xs.take i))from Lr ..];exact this
end
mutual
theorem zG8:(u:T)→ ∀(cs:Array Value)(o:Nat)(p:List Nat),(∀z,G.hd d (z++p)=jO (zDF u cs o z.reverse))→RoC St u cs o→ ∀(i:Nat)(v:Value),(vals G d (roT u) p)[i]? =some v→cs[o+i]? =some v
 |.agg xs,cs,o,p,hd,h,i,v,hv=>by
  simp only[roT,vals,RoC]at h hv;exact zI0 xs cs p 0 o (fun z j x hx=>by
   have:=hd (z++[j]);simp only[Ja,Jn,Jj,Hn,Lz,Ld,zDF]at this;rw[Je,this];simp[hx]) h i v hv
 |.lit _,cs,o,p,hd,h,i,v,hv|.any,cs,o,p,hd,h,i,v,hv|.sl _ _,cs,o,p,hd,h,i,v,hv|.ptr _,cs,o,p,hd,h,i,v,hv=>by
  obtain⟨v',h1,h2,h3⟩:=zG7 rfl h;have:=hd [];rw[Jj,zAE rfl]at this;simp only[roT,vals]at hv;cases i with
  |zero=>
   simp at hv;rw[←hv,this];simp[K4,h1,zAg h2]
  |succ i=>simp at hv
 |.ro _,_,_,_,_,h,_,_,_|.same _ _,_,_,_,_,h,_,_,_|.addr _ _,_,_,_,_,h,_,_,_|.sub _ _ _ _ _,_,_,_,_,h,_,_,_|.tup _,_,_,_,_,h,_,_,_=>by simp only[RoC]at h
theorem zI0:(xs:List T)→ ∀(cs:Array Value)(p:List Nat)(j o:Nat),(∀z i x,xs[i]? =some x→G.hd d (z++((j+i)::p))=jO (zDF x cs (o+T.sizes (xs.take i)) z.reverse))→RoF St xs cs o→ ∀(i:Nat)(v:Value),(yE G d (roT.roTs xs) p j)[i]? =some v→cs[o+i]? =some v
 | [],_,_,_,_,_,_,i,v,hv=>by simp[roT.roTs,yE]at hv
 |x::xs,cs,p,j,o,hd,h,i,v,hv=>by
  simp only[roT.roTs,yE,RoF]at h hv;have hx:∀z,G.hd d (z++(j::p))=jO (zDF x cs o z.reverse):=fun z=>by simpa[T.sizes]using hd z 0 x (by simp)
  have hlen:(vals G d (roT x) (j::p)).length=x.size:=by
   have hs:(roT x).size=x.size:=zEq x (fun ys e=>by subst e;simp only[RoC]at h;exact h.1);rw[wU (roT x) (j::p) (fun ys e=>by cases x<;>simp[roT]at e),hs]
  rw[Ky]at hv;split at hv
  ·exact zG8 x cs o (j::p) hx h.1 i v hv
  ·have:=zI0 xs cs p (j+1) (o+x.size) (fun z i y hy=>by
    have:=hd z (i+1) y (by simpa using hy);simp only[K7,T.sizes]at this;rw[show j+1+i=j+(i+1)from by omega,show o+x.size+T.sizes (xs.take i)=o+(x.size+T.sizes (xs.take i))from Lr ..];exact this) h.2 _ v hv
   rwa [hlen,show o+x.size+(i-x.size)=o+i from by omega]at this
end
mutual
theorem zN6:(u:T)→Top (roT u)
 |.agg xs=>by simp only[roT,Top];exact zKr xs
 |.lit _|.any|.sl _ _|.ptr _|.ro _|.same _ _|.addr _ _|.sub _ _ _ _ _|.tup _=>by simp[roT,Top]
theorem zKr:(xs:List T)→vM (roT.roTs xs)
 | []=>by simp only[roT.roTs,vM]
 |x::xs=>by simp only[roT.roTs,vM];exact⟨zN6 x,zKr xs⟩
end
end
section
variable {P:Program}{Γ:Ctx}{E:Env}{o:Oper}{d:Nat}
theorem zN7{G:Gh}{w:World}(hm:Mem Γ G w){b:Nat}{cs:Array Value}{e:TypeId}{fr:Nat×Nat}(h:Γ.St b=some (.cells cs e fr))(i:Nat):w.cell? ⟨b,i,none⟩=cs[i]?:=by
 simp[World.cell?,hm.st b _ h]
theorem zMn(x:Operand)(T':TypeId)(ds:TypeDesc)(ti:TypeInfo)(u:T)(ho:o.op=.load T' x)(hdst:o.dst=some d)(hd:d<Γ.N)
  (hT:P.underlying T'=some ds)(hi:P.info? T'=some ti)(hsh:zFb ds= !u.single)(hsz:ti.size=u.size)
  (hx:opT E x=some (.ro (.ptr u))):wN P Γ o E (E.app [(d,some (roT u))] [(d,0)]):=by
 refine wN.value hdst fun a w G hrep=>?_
 have h1:=zMm hrep hx;simp only[RoC]at h1;obtain⟨b,o',cs',e,fr,h2,h3,h4⟩:=h1;have h2':a.eval x=.pointer (some ⟨b,o',none⟩):=by simpa using h2
 have hnt:∀xs,u≠.tup xs:=by rintro xs rfl;simp only[RoC]at h4
 let f:List Nat→Value:=fun z=>jO (zDF u cs' o' z.reverse)
 have hz:∀z,(G.put d f).hd d (z++[])=jO (zDF u cs' o' z.reverse):=fun z=>by rw[Gh.put_self,J9]
 refine⟨mkV (G.put d f) d (roT u) [],w,?_,_,vK hrep rfl hd f (fun z=>zBc _) _ _ rfl (zQv u cs' o' [] hz h4) (zN6 u)⟩;cases u with
 |agg xs=>
  have h5:∀j v,(yE (G.put d f) d (roT.roTs xs) [] 0)[j]? =some v→w.cell? ((⟨b,o',none⟩:Addr).add j)=some v:=by
   intro j v hv;rw[uO,zN7 hrep.mem h3];exact zG8 (.agg xs) cs' o' [] hz h4 j v (by simpa only[roT,vals]using hv)
  have h6:=run_loadCells_list (P:=P) (w:=w) ⟨b,o',none⟩ _ h5;rw[wS,zFc]at h6;simp only[T.size]at hsz;simp[T.single]at hsh;simp[execOp,ho,h2',Instr.loadAt,tV,loadVar,jN hT,hsh,sizeOf,typeInfo,hi,hsz,h6,mkV,roT]
 |tup xs=>exact absurd rfl (hnt xs)
 |_=>
  obtain⟨v,h5,h6,h7⟩:=zG7 rfl h4;have h8:w.cell? ⟨b,o',none⟩=some v:=by rw[zN7 hrep.mem h3];exact h5
  simp[T.single]at hsh;have h9:f []=v:=by show jO (zDF _ cs' o' _)=v;rw[zAE rfl];simp[K4,h5,zAg h6]
  simp[execOp,ho,h2',Instr.loadAt,tV,loadVar,jN hT,hsh,load,Sem.run,h8,mkV,roT,Gh.put_self,h9]
def zFJ(E:Env)(x:Operand):Bool:=
 match opT E x with
 |some (.addr _ _)|some (.ro (.ptr _))=>true
 |_=>match tH E x with
  |some (_,_,.ptr _)=>true
  |some (_,_,.ro (.ptr _))=>true
  |_=>false
theorem zQx{G:Gh}{a:Act}{w:World}(hrep:Rep Γ E G a.tmps w){x:Operand}(h:zFJ E x=true):∃ad,a.eval x=.pointer (some ad):=by
 unfold zFJ at h;split at h
 ·rename_i r q hx
  cases x with
  |tmp s=>
   obtain⟨h1,h2,_⟩:=hrep.ent s _ hx;simp only[R]at h2;exact⟨_,by rw[wI h1,xP rfl,h2]⟩
  |const v=>simp only[opT]at hx;split at hx<;>simp at hx
  |func f=>simp[opT]at hx
  |global g=>simp[opT]at hx
 ·rename_i u hx
  have:=zMm hrep hx;simp only[RoC]at this;obtain⟨b,o',_,_,_,h1,_⟩:=this;exact⟨_,by simpa using h1⟩
 ·split at h
  ·rename_i hl
   obtain⟨h1,h2⟩:=qY hrep hl rfl;simp only[R]at h1;obtain⟨b,cs,e,h3,_⟩:=h1;exact⟨_,by rw[h2,h3]⟩
  ·rename_i hl
   obtain⟨h1,h2⟩:=qY hrep hl rfl;simp only[R,RoC]at h1;obtain⟨b,o',_,_,_,h3,_⟩:=h1;exact⟨_,by rw[h2];simpa using h3⟩
  ·cases h
theorem zVJ(x:Operand)(t:T)(ho:o.op=.nilCheck x)(hdst:o.dst=some d)(hd:d<Γ.N)(hx:opT E x=some t)(hp:zFJ E x=true)(ht:∀xs,t≠.tup xs)
  (hne:∀s,x=.tmp s→s≠d)(hok:T.okB [(d,0)] (tG x t)=true):wN P Γ o E (E.app [(d,some (tG x t))] [(d,0)]):=by
 refine wN.value hdst fun a w G hrep=>?_
 obtain⟨f,hf,h1,h2⟩:=opd hrep hx ht;obtain⟨h3,h4⟩:=h1 d hne hok;obtain⟨ad,h5⟩:=zQx hrep hp;refine⟨a.eval x,w,?_,_,vK hrep rfl hd f hf _ _ h3 h4 h2⟩;simp[execOp,ho,h5]
theorem zKs{G:Gh}{s:Nat}:(xs:List T)→ ∀(p:List Nat)(j i:Nat)(x:T),xs[i]? =some x→(qW G s xs p j)[i]? =some (tY G s x ((j+i)::p))
 | [],_,_,_,_,h=>by simp at h
 |y::ys,p,j,i,x,h=>by
  cases i with
  |zero=>simp at h;subst h;simp[qW]
  |succ i=>
   have:=zKs (G:=G) (s:=s) ys p (j+1) i x (by simpa using h);rw[show j+(i+1)=j+1+i from by omega];simpa[qW]using this
theorem zMo(s i:Nat)(ts:List T)(t:T)(ho:o.op=.extract (.tmp s) i)(hdst:o.dst=some d)(hd:d<Γ.N)(hs:E s=some (.tup ts))(hi:ts[i]? =some t)(ht:∀xs,t≠.tup xs)
  (hne:s≠d)(hok:T.okB [(d,0)] (cpT s t [i])=true):wN P Γ o E (E.app [(d,some (cpT s t [i]))] [(d,0)]):=by
 refine wN.value hdst fun a w G hrep=>?_
 obtain⟨h1,h2,_⟩:=hrep.ent s _ hs;simp only[R]at h2;have h3:=zAM ts [] 0 i t h2 hi;simp only[Je]at h3;have h4:=zKs (G:=G) (s:=s) ts [] 0 i t hi;simp only[Je]at h4;have hk:=G.put_keep (w:=w) (w':=w) rfl d (fun z=>G.hd s (z++[i]));have hz:∀z,(G.put d (fun z=>G.hd s (z++[i]))).hd d (z++[])=G.hd s (z++[i]):=fun z=>by rw[Gh.put_self,J9]
 refine⟨tY G s t [i],w,?_,_,vK hrep rfl hd (fun z=>G.hd s (z++[i])) (fun z=>hrep.mem.one _ _) _ _ (zAx t [i] [] ht hz).symm
  (zDD (fun p=>G.put_other _ p hne) t [i] [] hz ht (hk.keepR (zAf _ (qN s t [i]) hok)) h3) (qN s t [i])⟩
 simp[execOp,ho,wI h1,mkV,Instr.extract,h4]
def zB4(E:Env)(x:Option Operand)(dflt n:Nat):Prop:=
 match x with
 |none=>n=dflt
 |some y=> ∃kd,opT E y=some (.lit (.int kd n))
theorem zG9{St:Stb}:(xs:List T)→ ∀(cs:Array Value)(o k l:Nat),RoL St xs cs o k→RoL St (xs.drop l) cs (o+l*k) k
 | [],_,_,_,_,_=>by simp[RoL]
 |x::xs,cs,o,k,l,h=>by
  cases l with
  |zero=>simpa using h
  |succ l=>
   simp only[RoL]at h;have:=zG9 xs cs (o+k) k l h.2
   rwa [List.drop_succ_cons,show o+(l+1)*k=o+k+l*k from by rw[K5];omega]
theorem zGA{St:Stb}:(xs:List T)→ ∀(cs:Array Value)(o k l:Nat),RoL St xs cs o k→RoL St (xs.take l) cs o k
 | [],_,_,_,_,_=>by simp[RoL]
 |x::xs,cs,o,k,l,h=>by
  cases l with
  |zero=>simp[RoL]
  |succ l=>simp only[RoL,K7]at h ⊢;exact⟨h.1,zGA xs cs _ k l h.2⟩
theorem zCR{P:Program}{G:Gh}{a:Act}{w:World}(hrep:Rep Γ E G a.tmps w){x:Operand}{kd:IntKind}{n y:Nat}{c:BoundsCode}(hx:opT E x=some (.lit (.int kd n)))(h:n≤y):
  (Instr.sliceBound (a.eval x) y c).run P w=.ok n w:=by
 rw[(wO hrep hx).1];have:(n:Int)≤(y:Int):=by omega
 simp[Instr.sliceBound,asIntOf,this]
theorem zGB{P:Program}{G:Gh}{a:Act}{w:World}(hrep:Rep Γ E G a.tmps w){lo hi:Option Operand}{l h n c:Nat}(hlo:zB4 E lo 0 l)(hhi:zB4 E hi n h)(h1:l≤h)(h2:h≤c):
  (Instr.sliceBounds true n c (lo.map a.eval) (hi.map a.eval) none).run P w=.ok (l,h,c) w:=by
 cases lo with
 |none=>
  cases hi with
  |none=>simp only[zB4]at hlo hhi;subst hlo;subst hhi;simp[Instr.sliceBounds]
  |some y=>simp only[zB4]at hlo hhi;obtain⟨kd,hy⟩:=hhi;subst hlo;simp[Instr.sliceBounds,zCR hrep hy h2]
 |some x=>
  obtain⟨kd,hx⟩:=hlo;cases hi with
  |none=>simp only[zB4]at hhi;subst hhi;simp[Instr.sliceBounds,zCR hrep hx h1]
  |some y=>obtain⟨kd',hy⟩:=hhi;simp[Instr.sliceBounds,zCR hrep hy h2,zCR hrep hx h1]
theorem zKt(x:Operand)(lo hi:Option Operand)(t e:TypeId)(ti:TypeInfo)(r:Nat)(q:List Nat)(k:Nat)(xs:List T)(l h:Nat)(ho:o.op=.slice t x lo hi none)(hdst:o.dst=some d)(hd:d<Γ.N)
  (ht:P.underlying t=some (.slice e))(he:P.info? e=some ti)(hk:ti.size=k)(hx:tH E x=some (r,q,.ro (.sl k xs)))(hlo:zB4 E lo 0 l)(hhi:zB4 E hi xs.length h)(h1:l≤h)(h2:h≤xs.length):
  wN P Γ o E (E.app [(d,some (.ro (.sl k ((xs.drop l).take (h-l)))))] [(d,0)]):=by
 refine wN.value hdst fun a w G hrep=>?_
 obtain⟨g1,g2⟩:=qY hrep hx rfl;obtain⟨a',c,g4,g5,g6,g7⟩:=zCQ g1;have g8:=zGB (P:=P) hrep hlo hhi h1 (Kv h2 g5);have hlen:((xs.drop l).take (h-l)).length=h-l:=by simp;omega
 refine⟨.slice (if c=l then a' else a'.map (·.add (l*k))) (h-l) (c-l),w,?_,_,vK hrep rfl hd (fun _=>.slice (if c=l then a' else a'.map (·.add (l*k))) (h-l) (c-l)) (fun _=>rfl) _ _ (by simp[mkV,Gh.put]) ?_ (by simp[Top])⟩
 ·simp only[execOp,ho,Jbh]
  simp[Instr.sliceAt,Instr.slice,run_underlying ht,g2,g4,g8,sizeOf,typeInfo,he,hk]
 ·simp only[R,Gh.put_self,RoC]
  refine⟨_,_,by rw[hlen];rfl,by omega,by omega,?_⟩;intro hne;have hne':xs≠[]:=by rintro rfl;simp at hne
  obtain⟨b,o',cs',e',fr,rfl,h3,h4⟩:=g7 hne';have hcl:c≠l:=by rintro rfl;apply hne;apply Kb;omega
  exact⟨b,o'+l*k,cs',e',fr,by simp[hcl,uO],h3,zGA _ _ _ _ _ (zG9 _ _ _ _ _ h4)⟩
theorem zJo(x:Operand)(lo hi:Option Operand)(t e:TypeId)(ti:TypeInfo)(r:Nat)(q:List Nat)(k:Nat)(xs:List T)(l h:Nat)(ho:o.op=.slice t x lo hi none)(hdst:o.dst=some d)(hd:d<Γ.N)
  (ht:P.underlying t=some (.slice e))(he:P.info? e=some ti)(hk:ti.size=k)(hx:tH E x=some (r,q,.sl k xs))(hlo:zB4 E lo 0 l)(hhi:zB4 E hi xs.length h)(h1:l≤h)(h2:h≤xs.length)(hrd:r≠d):
  wN P Γ o E (E.app [(d,some (.sub r q k l h))] [(d,0)]):=by
 refine wN.value hdst fun a w G hrep=>?_
 obtain⟨g1,g2⟩:=qY hrep hx rfl;obtain⟨a',c,g4⟩:=zJn g1;have g5:xs.length≤c:=by
  simp only[R]at g1;rcases g1 with⟨rfl,_⟩|⟨b,cap,cs,e,g,_,g',_⟩
  ·simp
  ·rw[g4]at g;simp at g;omega
 have g8:=zGB (P:=P) hrep hlo hhi h1 (Kv h2 g5);refine⟨zAZ (G.hd r q) k l h,w,?_,_,vK hrep rfl hd (fun _=>zAZ (G.hd r q) k l h) (fun _=>by rw[g4];rfl) _ _ (by simp[mkV,Gh.put]) ?_ (by simp[Top])⟩
 ·simp only[execOp,ho,Jbh]
  simp[Instr.sliceAt,Instr.slice,run_underlying ht,g2,g4,g8,sizeOf,typeInfo,he,hk,zAZ]
 ·simp only[R,Gh.put_self]
  rw[Gh.put_other _ _ _ hrd]
end
end Go.Ab

namespace Go.Ab
open Go
def T.inT:T→List Nat→Bool
 |_,[]=>true
 |.agg xs,i::f=>match xs[i]? with
  |some x=>x.inT f
  |none=>false
 |.any,_::_|.lit _,_::_|.ro _,_::_|.same _ _,_::_|.addr _ _,_::_|.sub _ _ _ _ _,_::_|.sl _ _,_::_|.ptr _,_::_|.tup _,_::_=>false
termination_by structural _ f=>f
def T.offT:T→List Nat→Nat
 |_,[]=>0
 |.agg xs,i::f=>match xs[i]? with
  |some x=>T.sizes (xs.take i)+x.offT f
  |none=>0
 |.any,_::_|.lit _,_::_|.ro _,_::_|.same _ _,_::_|.addr _ _,_::_|.sub _ _ _ _ _,_::_|.sl _ _,_::_|.ptr _,_::_|.tup _,_::_=>0
termination_by structural _ f=>f
theorem zGC{t:T}(h:t.single=true){f:List Nat}(hf:f≠[]):t.inT f=false:=by
 cases f with
 |nil=>exact absurd rfl hf
 |cons i f=>cases t<;>simp[T.single]at h<;>rfl
mutual
def zN8:T→List Nat→Nat→Option (List Nat)
 |.agg xs,p,o=>zBT xs p 0 o
 |.any,p,o|.lit _,p,o|.ro _,p,o|.same _ _,p,o|.addr _ _,p,o|.sub _ _ _ _ _,p,o|.sl _ _,p,o|.ptr _,p,o|.tup _,p,o=>if o=0 then some p else none
def zBT:List T→List Nat→Nat→Nat→Option (List Nat)
 | [],_,_,_=>none
 |x::xs,p,j,o=>if o<x.size then zN8 x (j::p) o else zBT xs p (j+1) (o-x.size)
end
mutual
def T.okTup:T→Bool
 |.tup _=>false
 |.agg xs=>yS xs
 |.any|.lit _|.ro _|.same _ _|.addr _ _|.sub _ _ _ _ _|.sl _ _|.ptr _=>true
def yS:List T→Bool
 | []=>true
 |x::xs=>x.okTup&&yS xs
end
theorem zDG:(xs:List T)→ ∀(p:List Nat)(j o:Nat),T.sizes xs≤o→zBT xs p j o=none
 | [],_,_,_,_=>by simp only[zBT]
 |x::xs,p,j,o,h=>by
  simp only[T.sizes]at h;simp only[zBT];rw[if_neg (by omega)];exact zDG xs p (j+1) _ (by omega)
section
variable {G:Gh}{w:World}{d:Nat}
mutual
theorem zVK:(x:T)→ ∀(p:List Nat)(B o:Nat),(∀xs,x≠.tup xs)→x.okTup=true→
  (∀f,x.inT f=true→G.ad d (f.reverse++p)=⟨B,o+x.offT f,none⟩)→(∀j p',j<x.size→zN8 x p j=some p'→G.lb B (o+j)=some (false,d,p'))→
  (∀j v,(vals G d x p)[j]? =some v→yP w B (o+j)=some v)→Loc G w d x p B o
 |.agg xs,p,B,o,_,hn,ha,hl,hc=>by
  simp only[Loc];refine⟨by simpa[T.offT]using ha [] rfl,zGn xs p 0 B o (by simpa only[T.okTup]using hn) (fun i x hx f hf=>?_) (fun j p' hj hp=>?_) (fun j v hv=>hc j v (by simpa only[vals]using hv))⟩
  ·have:=ha (i::f) (by simp only[T.inT,hx];exact hf)
   simp only[T.offT,hx,Lz,Ja,Jn,Jj]at this;simpa[Lr]using this
  ·exact hl j p' (by simpa only[T.size]using hj) (by simpa only[zN8]using hp)
 |.any,p,B,o,_,_,ha,hl,hc|.lit _,p,B,o,_,_,ha,hl,hc|.ro _,p,B,o,_,_,ha,hl,hc|.same _ _,p,B,o,_,_,ha,hl,hc|.addr _ _,p,B,o,_,_,ha,hl,hc|.sub _ _ _ _ _,p,B,o,_,_,ha,hl,hc|.sl _ _,p,B,o,_,_,ha,hl,hc|.ptr _,p,B,o,_,_,ha,hl,hc=>by
  simp only[Loc];exact⟨by simpa[T.offT]using ha [] rfl,by simpa using hl 0 p (by simp[T.size]) (by simp[zN8]),by simpa using hc 0 (G.hd d p) (by simp[vals])⟩
 |.tup xs,_,_,_,h,_,_,_,_=>absurd rfl (h xs)
theorem zGn:(xs:List T)→ ∀(p:List Nat)(j B o:Nat),yS xs=true→
  (∀i x,xs[i]? =some x→ ∀f,x.inT f=true→G.ad d (f.reverse++((j+i)::p))=⟨B,o+(T.sizes (xs.take i)+x.offT f),none⟩)→
  (∀i p',i<T.sizes xs→zBT xs p j i=some p'→G.lb B (o+i)=some (false,d,p'))→
  (∀i v,(yE G d xs p j)[i]? =some v→yP w B (o+i)=some v)→vF G w d xs p j B o
 | [],_,_,_,_,_,_,_,_=>by simp only[vF]
 |x::xs,p,j,B,o,hn,ha,hl,hc=>by
  simp only[yS,J4]at hn;have hnt:∀ys,x≠.tup ys:=by rintro ys rfl;simp[T.okTup]at hn
  simp only[vF];refine⟨zVK x (j::p) B o hnt hn.1 (fun f hf=>by simpa[T.sizes]using ha 0 x (by simp) f hf) (fun i p' hi hp=>hl i p' (by simp only[T.sizes];omega) (by simp only[zBT,hi,if_true];exact hp)) (fun i v hv=>hc i v ?_),
   zGn xs p (j+1) B (o+x.size) hn.2 (fun i y hy f hf=>?_) (fun i p' hi hp=>?_) (fun i v hv=>?_)⟩
  ·simp only[yE]
   rw[Jl (Jb.1 hv).1];exact hv
  ·have:=ha (i+1) y (by simpa using hy) f hf
   simp only[K7,T.sizes]at this;rw[show j+1+i=j+(i+1)from by omega,this]
   congr 1
   omega
  ·have:=hl (x.size+i) p' (by simp only[T.sizes];omega) (by simp only[zBT];rw[if_neg (by omega),show x.size+i-x.size=i from by omega];exact hp)
   rwa [←Lr]at this
  ·have:=hc (x.size+i) v (by
    simp only[yE];rw[J8 (by rw[wU x _ hnt];omega),wU x _ hnt,show x.size+i-x.size=i from by omega];exact hv)
   rwa [←Lr]at this
end
end
structure MvC (G:Gh) (w:World) (G':Gh) (w':World) (s:Nat) (p:List Nat) (s':Nat) (p':List Nat) (t:T):Prop where
 hd:∀z,G'.hd s' (z++p')=G.hd s (z++p)
 ad:∀z,t.inT z.reverse=false→G'.ad s' (z++p')=G.ad s (z++p)
 lb:∀b o f z,(f=true∨t.inT z.reverse=false)→G.lb b o=some (f,s,z++p)→G'.lb b o=some (f,s',z++p')∧yP w' b o=yP w b o
 ow:∀b z,G.ow b=some (s,z++p)→G'.ow b=some (s',z++p')
 blk:Blk w w'
section
variable {St:Stb}{G:Gh}{w:World}{G':Gh}{w':World}{s:Nat}{s':Nat}
theorem MvC.moves{p p':List Nat}{t:T}(h:MvC G w G' w' s p s' p' t)(ht:t.single=true):zIx G w G' w' s p s' p' where
 hd:=h.hd
 ad z hz:=h.ad z (zGC ht (by simpa using hz))
 lb b o f z hz _ hl:=h.lb b o f z (.inr (zGC ht (by simpa using hz))) hl
 ow b z _ hl:=h.ow b z hl
 blk:=h.blk
 sp b o _ hl:=by simpa using h.lb b o true [] (.inl rfl) (by simpa using hl)
 ow0 b hl:=by simpa using h.ow b [] (by simpa using hl)
theorem MvC.field{p p':List Nat}{xs:List T}(h:MvC G w G' w' s p s' p' (.agg xs)){j:Nat}{x:T}(hx:xs[j]? =some x):MvC G w G' w' s (j::p) s' (j::p') x where
 hd z:=by have:=h.hd (z++[j]);simpa using this
 ad z hz:=by
  have:=h.ad (z++[j]) (by simp[T.inT,hx,hz]);simpa using this
 lb b o f z hf hl:=by
  have:=h.lb b o f (z++[j]) (hf.imp id fun hz=>by simp[T.inT,hx,hz]) (by simpa using hl);simpa using this
 ow b z hl:=by
  have:=h.ow b (z++[j]) (by simpa using hl);simpa using this
 blk:=h.blk
mutual
theorem zKu:(t:T)→ ∀(p p':List Nat),t.okTup=true→MvC G w G' w' s p s' p' t→yW (kY G G') t→R St G w s t p→R St G' w' s' t p'
 |.agg xs,p,p',hn,h,hk,hr=>by
  simp only[R,yW,T.okTup]at hr hk hn ⊢
  exact zQy xs p p' 0 hn (fun j x hx=>by rw[Je];exact h.field hx) hk hr
 |.any,p,p',_,h,hk,hr|.lit _,p,p',_,h,hk,hr|.ro _,p,p',_,h,hk,hr|.same _ _,p,p',_,h,hk,hr|.addr _ _,p,p',_,h,hk,hr|.sub _ _ _ _ _,p,p',_,h,hk,hr|.sl _ _,p,p',_,h,hk,hr|.ptr _,p,p',_,h,hk,hr=>
  zAe (h.moves rfl) _ hk hr
 |.tup _,_,_,hn,_,_,_=>by simp[T.okTup]at hn
theorem zQy:(xs:List T)→ ∀(p p':List Nat)(j:Nat),yS xs=true→(∀i x,xs[i]? =some x→MvC G w G' w' s ((j+i)::p) s' ((j+i)::p') x)→xU (kY G G') xs→RF St G w s xs p j→RF St G' w' s' xs p' j
 | [],_,_,_,_,_,_,_=>by simp only[RF]
 |x::xs,p,p',j,hn,h,hk,hr=>by
  simp only[RF,xU,yS,J4]at hr hk hn ⊢
  exact⟨zKu x (j::p) (j::p') hn.1 (by simpa using h 0 x (by simp)) hk.1 hr.1,zQy xs p p' (j+1) hn.2 (fun i y hy=>by
   have:=h (i+1) y (by simpa using hy)
   rwa [show j+1+i=j+(i+1)from by omega]) hk.2 hr.2⟩
end
end
theorem zN9{St:Stb}{G:Gh}{w:World}{s:Nat}:(xs:List T)→ ∀(p:List Nat)(j:Nat),(∀i x,xs[i]? =some x→R St G w s x ((j+i)::p))→RF St G w s xs p j
 | [],_,_,_=>by simp only[RF]
 |x::xs,p,j,h=>by
  simp only[RF];exact⟨by simpa using h 0 x (by simp),zN9 xs p (j+1) (fun i y hy=>by
   have:=h (i+1) y (by simpa using hy)
   rwa [show j+1+i=j+(i+1)from by omega])⟩
theorem zQz{St:Stb}{G:Gh}{w:World}{s:Nat}{k:Nat}:(xs:List T)→ ∀(p:List Nat)(j b o:Nat),(∀x∈xs,x.size=k)→vF G w s xs p j b o→RF St G w s xs p j→RL St G w s xs p j b o k
 | [],_,_,_,_,_,_,_=>by simp only[RL]
 |x::xs,p,j,b,o,hk,hl,hr=>by
  simp only[RL,vF,RF]at hl hr ⊢
  have h1:=hk x (by simp);exact⟨⟨hl.1,h1⟩,hr.1,zQz xs p (j+1) b (o+k) (fun y hy=>hk y (by simp[hy])) (by rw[←h1];exact hl.2) hr.2⟩
theorem wV{k:Nat}:(xs:List T)→(∀x∈xs,x.size=k)→T.sizes xs=xs.length*k
 | [],_=>by simp[T.sizes]
 |x::xs,h=>by simp[T.sizes,wV xs (fun y hy=>h y (by simp[hy])),h x (by simp),K5];omega
def Gh.nb(G:Gh)(d B:Nat)(xs:List T)(src:Nat→Option (Nat×List Nat))(φ:Nat→List Nat→Option (List Nat))(f:Nat→List Nat→Value)(hdr:Value):Gh where
 hd s z:=if s=d then(match z.getLast? with
  |some i=>f i z.dropLast
  |none=>hdr)else G.hd s z
 ad s z:=if s=d then(if(T.agg xs).inT z.reverse then⟨B,(T.agg xs).offT z.reverse,none⟩else match z.getLast? with
  |some i=>(match src i with
   |some (x,q)=>G.ad x (z.dropLast++q)
   |none=>default)
  |none=>default)else G.ad s z
 lb b o:=if b=B then some (match zBT xs [] 0 o with
  |some p=>(false,d,p)
  |none=>(true,d,[]))else match G.lb b o with
  |some (fl,s,z)=>(match φ s z with
   |some z'=>some (fl,d,z')
   |none=>some (fl,s,z))
  |none=>none
 ow b:=if b=B then some (d,[])else match G.ow b with
  |some (s,z)=>(match φ s z with
   |some z'=>some (d,z')
   |none=>some (s,z))
  |none=>none
theorem zCS{Γ:Ctx}{G:Gh}{w w':World}(hm:Mem Γ G w){cells:Array Value}{e:TypeId}(hw:w'.heap=w.heap.push (.cells cells e))(d:Nat)(xs:List T)
  (src:Nat→Option (Nat×List Nat))(φ:Nat→List Nat→Option (List Nat))(f:Nat→List Nat→Value)(hdr:Value)(chg:Chg)
  (hok:yS xs=true)(hf:∀(i:Nat)(z:List Nat),(f i z).oneCell'=true)(hh:hdr.oneCell'=true)
  (hφ:∀(i:Nat) u x q(z:List Nat),xs[i]? =some u→src i=some (x,q)→φ x (z++q)=some (z++[i]))
  (hsrc:∀(i:Nat) u x q,xs[i]? =some u→src i=some (x,q)→(∀z,f i z=G.hd x (z++q))∧R Γ.St G w x u q∧yC u∧x≠d)
  (hnone:∀(i:Nat) u,xs[i]? =some u→src i=none→ ∀(G2:Gh)(w2:World),(∀z,G2.hd d (z++[i])=f i z)→R Γ.St G2 w2 d u [i])
  (hcells:∀(G2:Gh),(∀i z,G2.hd d (z++[i])=f i z)→ ∀(o:Nat)(v:Value),(yE G2 d xs [] 0)[o]? =some v→cells[o]? =some v)
  (hchg:∀s p,(∀n,(s,n)∉(d,0)::chg)→φ s p=none)(ho:w'.os=w.os:=by rfl)(hq:w'.output=w.output:=by rfl):
  qP ((d,0)::chg) G w (G.nb d w.heap.size xs src φ f hdr) w'∧Mem Γ (G.nb d w.heap.size xs src φ f hdr) w'∧
  vF (G.nb d w.heap.size xs src φ f hdr) w' d xs [] 0 w.heap.size 0∧RF Γ.St (G.nb d w.heap.size xs src φ f hdr) w' d xs [] 0∧
  w'.heap[w.heap.size]? =some (.cells cells e):=by
 have hnew:w'.heap[w.heap.size]? =some (.cells cells e):=by rw[hw];simp
 have hold:∀b,b<w.heap.size→w'.heap[b]? =w.heap[b]?:=fun b hb=>by rw[hw,Array.getElem?_push];rw[if_neg (by omega)]
 have hsz:w'.heap.size=w.heap.size+1:=by rw[hw];simp
 have hcell:∀b o,b<w.heap.size→yP w' b o=yP w b o:=fun b o hb=>by simp[yP,World.cell?,hold b hb]
 have hblk:Blk w w':=fun b cs e' h=>⟨cs,by rw[hold b (Kl.1 h).1];exact h,rfl⟩
 have hone:=hm.one
 generalize hG':G.nb d w.heap.size xs src φ f hdr=G'
 have ghd:∀i z,G'.hd d (z++[i])=f i z:=fun i z=>by rw[←hG'];simp[Gh.nb]
 have gad:∀g,(T.agg xs).inT g=true→G'.ad d g.reverse=⟨w.heap.size,(T.agg xs).offT g,none⟩:=fun g hg=>by rw[←hG'];simp[Gh.nb,hg]
 have gadm:∀i x q z,src i=some (x,q)→(T.agg xs).inT (i::z.reverse)=false→G'.ad d (z++[i])=G.ad x (z++q):=fun i x q z hs hin=>by
  rw[←hG'];simp[Gh.nb,hin,hs]
 have glb:∀o p,zBT xs [] 0 o=some p→G'.lb w.heap.size o=some (false,d,p):=fun o p h=>by rw[←hG'];simp[Gh.nb,h]
 have glbm:∀b o fl x z z',G.lb b o=some (fl,x,z)→φ x z=some z'→G'.lb b o=some (fl,d,z'):=fun b o fl x z z' h1 h2=>by
  have:=(hm.lb b o _ h1).1;rw[←hG'];simp[Gh.nb,h1,h2,show b≠w.heap.size from by omega]
 have gowm:∀b x z z',G.ow b=some (x,z)→φ x z=some z'→G'.ow b=some (d,z'):=fun b x z z' h1 h2=>by
  have:=(hm.ow b _ h1).1;rw[←hG'];simp[Gh.nb,h1,h2,show b≠w.heap.size from by omega]
 have hne:∀s p,Off ((d,0)::chg) s p→s≠d:=fun s p h e=>absurd (h 0 (by simp[e])) (by simp)
 have hkeep:qP ((d,0)::chg) G w G' w':=by
  refine⟨fun s p h=>?_,fun s p h=>?_,fun b o fl s p _ hl h=>⟨?_,hcell b o (hm.lb b o _ hl).1⟩,fun b s p hl h=>?_,hblk⟩
  ·rw[←hG'];simp[Gh.nb,hne s p h]
  ·rw[←hG'];simp[Gh.nb,hne s p h]
  ·have:=(hm.lb b o _ hl).1
   rw[←hG'];simp[Gh.nb,hl,hchg s p h,show b≠w.heap.size from by omega]
  ·have:=(hm.ow b _ hl).1
   rw[←hG'];simp[Gh.nb,hl,hchg s p h,show b≠w.heap.size from by omega]
 refine⟨hkeep,?_,?_,?_,hnew⟩
 ·
  have hB:zCd Γ w' w.heap.size:=⟨by omega,.inl hm.sz,by
   cases hst:Γ.St w.heap.size with
   |none=>rfl
   |some x=>have:=hm.st _ x hst;simp at this⟩
  have hup:∀b,zCd Γ w b→zCd Γ w' b:=fun b h=>⟨by have:=h.1;omega,h.2⟩
  refine⟨fun s p=>?_,fun b o l hl=>?_,fun b l hl=>?_,fun b x hx=>?_,fun b h1 h2=>?_,by have:=hm.sz;omega,hm.bk.trans hblk ho hq⟩
  ·rw[←hG']
   simp only[Gh.nb];split
   ·split
    ·exact hf _ _
    ·exact hh
   ·exact hone s p
  ·rw[←hG']at hl
   simp only[Gh.nb]at hl;split at hl
   ·rename_i hb;subst hb;exact hB
   ·split at hl
    ·rename_i hg;exact hup b (hm.lb b o _ hg)
    ·cases hl
  ·rw[←hG']at hl
   simp only[Gh.nb]at hl;split at hl
   ·rename_i hb;subst hb;exact hB
   ·split at hl
    ·rename_i hg;exact hup b (hm.ow b _ hg)
    ·cases hl
  ·have:=hm.st b x hx
   rw[hold b (Kl.1 this).1];exact this
  ·rw[hold b (Jbi h1 hm.sz)]
   exact hm.fr b h1 h2
 ·
  refine zGn xs [] 0 w.heap.size 0 hok (fun i x hx g hg=>?_) (fun i p' _ hp=>by simpa using glb i p' hp) (fun i v hv=>?_)
  ·have:=gad (i::g) (by simp only[T.inT,hx];exact hg)
   simpa[T.offT,hx]using this
  ·have:=hcells G' ghd i v hv
   rw[Je];simp[yP,World.cell?,hnew,this]
 ·
  refine zN9 xs [] 0 (fun i u hu=>?_);rw[Je];cases hs:src i with
  |none=>exact hnone i u hu hs G' w' (fun z=>ghd i z)
  |some xq=>
   obtain⟨x,q⟩:=xq;obtain⟨h1,h2,h3,h4⟩:=hsrc i u x q hu hs;have hin:∀g,(T.agg xs).inT (i::g)=u.inT g:=fun g=>by simp only[T.inT,hu]
   refine zKu u q [i] (okTups_get xs hok i u hu) ⟨fun z=>by rw[ghd,h1],fun z hz=>gadm i x q z hs (by rw[hin];exact hz),fun b o fl z hz hl=>⟨glbm b o fl x _ _ hl (hφ i u x q z hu hs),hcell b o (hm.lb b o _ hl).1⟩,
    fun b z hl=>gowm b x _ _ hl (hφ i u x q z hu hs),hblk⟩ (yW.mono (fun _ _=>False.elim) u h3) h2
where okTups_get:(xs:List T)→yS xs=true→ ∀(i:Nat)(x:T),xs[i]? =some x→x.okTup=true
 | [],_,_,_,h=>by simp at h
 |y::ys,hk,i,x,h=>by
  simp only[yS,J4]at hk;cases i with
  |zero=>simp at h;subst h;exact hk.1
  |succ i=>exact okTups_get ys hk.2 i x (by simpa using h)
end Go.Ab

namespace Go.Ab
open Go
inductive yR where
 |slot (s:Nat) (t:T)
 |zero (u:T)
def yR.tree:yR→T
 |.slot _ t=>t
 |.zero u=>u
def sM:T→Bool
 |.lit _|.ro _=>false
 |_=>true
mutual
def T.zOk:T→Bool
 |.lit v=>v.oneCell'
 |.sl _ xs=>xs.isEmpty
 |.agg xs=>zAh xs
 |.any|.ro _|.same _ _|.addr _ _|.sub _ _ _ _ _|.ptr _|.tup _=>false
def zAh:List T→Bool
 | []=>true
 |x::xs=>x.zOk&&zAh xs
end
def zhd:T→List Nat→Value
 |.agg xs,i::f=>match xs[i]? with
  |some x=>zhd x f
  |none=>.bool false
 |.lit v,_=>v
 |.sl _ _,_=>.slice none 0 0
 |.agg _,[] |.any,_|.ro _,_|.same _ _,_|.addr _ _,_|.sub _ _ _ _ _,_|.ptr _,_|.tup _,_=>.bool false
termination_by structural _ f=>f
mutual
def tK:T→List Value
 |.lit v=>[v]
 |.sl _ _=>[.slice none 0 0]
 |.agg xs=>tZ xs
 |.any|.ro _|.same _ _|.addr _ _|.sub _ _ _ _ _|.ptr _|.tup _=>[]
def tZ:List T→List Value
 | []=>[]
 |x::xs=>tK x++tZ xs
end
section
variable {St:Stb}{G:Gh}{w:World}{d:Nat}
mutual
theorem zJp:(u:T)→ ∀(p:List Nat),u.zOk=true→(∀z,G.hd d (z++p)=jO (zhd u z.reverse))→R St G w d u p
 |.lit v,p,h,hd=>by
  simp only[T.zOk,R]at h ⊢
  have:=hd [];rw[Jj]at this;rw[this];exact zAg h
 |.sl k xs,p,h,hd=>by
  simp only[T.zOk,Jbu]at h;subst h;have:=hd [];rw[Jj]at this;simp only[R];exact .inl ⟨trivial,none,by rw[this];rfl⟩
 |.agg xs,p,h,hd=>by
  simp only[T.zOk,R]at h ⊢
  exact zNA xs p 0 h (fun i x hx z=>by
   rw[Je];have:=hd (z++[i]);simp only[Ja,Jn,Jj,Hn,Lz,Ld,zhd,hx]at this;exact this)
 |.any,_,h,_|.ro _,_,h,_|.same _ _,_,h,_|.addr _ _,_,h,_|.sub _ _ _ _ _,_,h,_|.ptr _,_,h,_|.tup _,_,h,_=>by simp[T.zOk]at h
theorem zNA:(xs:List T)→ ∀(p:List Nat)(j:Nat),zAh xs=true→(∀i x,xs[i]? =some x→ ∀z,G.hd d (z++((j+i)::p))=jO (zhd x z.reverse))→RF St G w d xs p j
 | [],_,_,_,_=>by simp only[RF]
 |x::xs,p,j,h,hd=>by
  simp only[zAh,J4,RF]at h ⊢
  exact⟨zJp x (j::p) h.1 (by simpa using hd 0 x (by simp)),zNA xs p (j+1) h.2 (fun i y hy z=>by
   have:=hd (i+1) y (by simpa using hy) z
   rwa [show j+1+i=j+(i+1)from by omega])⟩
end
end
section
variable {G:Gh}{d:Nat}
mutual
theorem zFd:(u:T)→ ∀(p:List Nat),u.zOk=true→(∀z,G.hd d (z++p)=jO (zhd u z.reverse))→vals G d u p=tK u
 |.lit v,p,h,hd=>by
  simp only[T.zOk,vals,tK]at h ⊢
  have:=hd [];rw[Jj]at this;rw[this];simp[zhd,zAg h]
 |.sl k xs,p,h,hd=>by
  have:=hd [];rw[Jj]at this;simp only[vals,tK];rw[this];simp[zhd,jO,Value.oneCell']
 |.agg xs,p,h,hd=>by
  simp only[T.zOk,vals,tK]at h ⊢
  exact zDH xs p 0 h (fun i x hx z=>by
   rw[Je];have:=hd (z++[i]);simp only[Ja,Jn,Jj,Hn,Lz,Ld,zhd,hx]at this;exact this)
 |.any,_,h,_|.ro _,_,h,_|.same _ _,_,h,_|.addr _ _,_,h,_|.sub _ _ _ _ _,_,h,_|.ptr _,_,h,_|.tup _,_,h,_=>by simp[T.zOk]at h
theorem zDH:(xs:List T)→ ∀(p:List Nat)(j:Nat),zAh xs=true→(∀i x,xs[i]? =some x→ ∀z,G.hd d (z++((j+i)::p))=jO (zhd x z.reverse))→yE G d xs p j=tZ xs
 | [],_,_,_,_=>by simp only[yE,tZ]
 |x::xs,p,j,h,hd=>by
  simp only[zAh,J4,yE,tZ]at h ⊢
  rw[zFd x (j::p) h.1 (by simpa using hd 0 x (by simp)),zDH xs p (j+1) h.2 (fun i y hy z=>by
   have:=hd (i+1) y (by simpa using hy) z
   rwa [show j+1+i=j+(i+1)from by omega])]
end
end
mutual
theorem zBd:(u:T)→u.zOk=true→yC u∧u.okTup=true
 |.lit _,_=>by simp[yC,yW,T.okTup]
 |.sl _ xs,h=>by simp only[T.zOk,Jbu]at h;subst h;simp[yC,yW,xU,T.okTup]
 |.agg xs,h=>by simp only[T.zOk]at h;simpa only[yC,yW,T.okTup]using zB5 xs h
 |.any,h|.ro _,h|.same _ _,h|.addr _ _,h|.sub _ _ _ _ _,h|.ptr _,h|.tup _,h=>by simp[T.zOk]at h
theorem zB5:(xs:List T)→zAh xs=true→xI xs∧yS xs=true
 | [],_=>by simp[xI,xU,yS]
 |x::xs,h=>by
  simp only[zAh,J4]at h;simp only[xI,xU,yS,J4];exact⟨⟨(zBd x h.1).1,(zB5 xs h.2).1⟩,(zBd x h.1).2,(zB5 xs h.2).2⟩
end
mutual
theorem wX:(u:T)→u.zOk=true→(tK u).length=u.size
 |.lit _,_|.sl _ _,_=>by simp[tK,T.size]
 |.agg xs,h=>by simp only[T.zOk]at h;simp only[tK,T.size];exact zAO xs h
 |.any,h|.ro _,h|.same _ _,h|.addr _ _,h|.sub _ _ _ _ _,h|.ptr _,h|.tup _,h=>by simp[T.zOk]at h
theorem zAO:(xs:List T)→zAh xs=true→(tZ xs).length=T.sizes xs
 | [],_=>by simp[tZ,T.sizes]
 |x::xs,h=>by
  simp only[zAh,J4]at h;simp only[tZ,J5,T.sizes,wX x h.1,zAO xs h.2]
end
def zGD(ps:List yR)(i:Nat):Option (Nat×List Nat):=
 match ps[i]? with
 |some (.slot s t)=>if sM t then some (s,[])else none
 |_=>none
def zGE:List yR→Nat→Nat→Option Nat
 | [],_,_=>none
 |.slot x t::r,i,s=>if sM t&&x==s then some i else zGE r (i+1) s
 |.zero _::r,i,s=>zGE r (i+1) s
def zId(ps:List yR)(s:Nat)(z:List Nat):Option (List Nat):=
 match zGE ps 0 s with
 |some i=>some (z++[i])
 |none=>none
def pWr(d:Nat):List yR→Nat→Wr
 | [],_=>[]
 |.slot s t::r,i=>if sM t then(s,some (cpT d t [i]))::pWr d r (i+1)else pWr d r (i+1)
 |.zero _::r,i=>pWr d r (i+1)
def xR:List yR→List Nat
 | []=>[]
 |.slot s t::r=>if sM t then s::xR r else xR r
 |.zero _::r=>xR r
def sN(ps:List yR):Chg:=(xR ps).map fun s=>(s,1)
def qD(G:Gh):yR→List Value
 |.slot s t=>vals G s t []
 |.zero u=>tK u
def pHd(G:Gh)(ps:List yR)(i:Nat)(z:List Nat):Value:=
 match ps[i]? with
 |some (.slot s _)=>G.hd s z
 |some (.zero u)=>jO (zhd u z.reverse)
 |none=>.bool false
structure tM (E:Env) (d:Nat) (ps:List yR):Prop where
 slot:∀s t,yR.slot s t∈ps→E s=some t∧yC t∧t.okTup=true
 zero:∀u,yR.zero u∈ps→u.zOk=true
 dist:(d::xR ps).Nodup
theorem zBe:(ps:List yR)→ ∀(i0 i s:Nat)(t:T),ps[i]? =some (.slot s t)→sM t=true→(xR ps).Nodup→zGE ps i0 s=some (i0+i)
 | [],_,_,_,_,h,_,_=>by simp at h
 |.slot x u::r,i0,i,s,t,h,hm,hn=>by
  cases i with
  |zero=>simp at h;obtain⟨rfl,rfl⟩:=h;simp[zGE,hm]
  |succ i=>
   simp only[Uw]at h;have hin:s∈xR r:=pSlots_mem r i s t h hm;simp only[zGE]
   by_cases hu:sM u=true
   ·simp only[xR,hu,if_true,Lj]at hn
    have:x≠s:=fun e=>hn.1 (e▸hin)
    simp only[hu,Bool.true_and,beq_iff_eq,this,if_false];rw[zBe r (i0+1) i s t h hm hn.2]
    congr 1;omega
   ·simp only[xR,hu]at hn
    simp only[hu,Jcz,Ga,if_false];rw[zBe r (i0+1) i s t h hm (by simpa using hn)]
    congr 1;omega
 |.zero u::r,i0,i,s,t,h,hm,hn=>by
  cases i with
  |zero=>simp at h
  |succ i=>
   simp only[Uw]at h;simp only[zGE];rw[zBe r (i0+1) i s t h hm (by simpa only[xR]using hn)]
   congr 1;omega
where pSlots_mem:(ps:List yR)→ ∀(i s:Nat)(t:T),ps[i]? =some (.slot s t)→sM t=true→s∈xR ps
 | [],_,_,_,h,_=>by simp at h
 |.slot x u::r,i,s,t,h,hm=>by
  cases i with
  |zero=>simp at h;obtain⟨rfl,rfl⟩:=h;simp[xR,hm]
  |succ i=>
   have:=pSlots_mem r i s t (by simpa using h) hm;simp only[xR];split<;>simp[this]
 |.zero u::r,i,s,t,h,hm=>by
  cases i with
  |zero=>simp at h
  |succ i=>simpa only[xR]using pSlots_mem r i s t (by simpa using h) hm
theorem zCT:(ps:List yR)→ ∀(i0 s:Nat),s∉xR ps→zGE ps i0 s=none
 | [],_,_,_=>by simp only[zGE]
 |.slot x u::r,i0,s,h=>by
  simp only[zGE]
  by_cases hu:sM u=true
  ·simp only[xR,hu,if_true,Jc,not_or]at h
   simp only[hu,Bool.true_and,beq_iff_eq,Ne.symm h.1,if_false];exact zCT r _ s h.2
  ·simp only[xR,hu]at h
   simp only[hu,Jcz,Ga,if_false];exact zCT r _ s (by simpa using h)
 |.zero u::r,i0,s,h=>by simp only[zGE];exact zCT r _ s (by simpa only[xR]using h)
theorem zCg:(ps:List yR)→ ∀(d i0 s:Nat)(x:Option T),(pWr d ps i0).find s=some x→ ∃i t,ps[i]? =some (.slot s t)∧sM t=true∧x=some (cpT d t [i0+i])
 | [],_,_,_,_,h=>by simp[pWr,Wr.find]at h
 |.slot y u::r,d,i0,s,x,h=>by
  simp only[pWr]at h;split at h
  ·rename_i hu
   simp only[Wr.find]at h;split at h
   ·rename_i he;subst he;simp at h;exact⟨0,u,by simp,hu,by simpa using h.symm⟩
   ·obtain⟨i,t,h1,h2,h3⟩:=zCg r d (i0+1) s x h
    exact⟨i+1,t,by simpa using h1,h2,by rw[h3];congr 3;omega⟩
  ·obtain⟨i,t,h1,h2,h3⟩:=zCg r d (i0+1) s x h
   exact⟨i+1,t,by simpa using h1,h2,by rw[h3];congr 3;omega⟩
 |.zero u::r,d,i0,s,x,h=>by
  simp only[pWr]at h;obtain⟨i,t,h1,h2,h3⟩:=zCg r d (i0+1) s x h;exact⟨i+1,t,by simpa using h1,h2,by rw[h3];congr 3;omega⟩
theorem zCh:(ps:List yR)→ ∀(d i0 s:Nat),(pWr d ps i0).find s=none→s∉xR ps
 | [],_,_,_,_=>by simp[xR]
 |.slot y u::r,d,i0,s,h=>by
  simp only[pWr]at h;simp only[xR];split at h
  ·rename_i hu
   simp only[Wr.find]at h;split at h
   ·cases h
   ·rename_i hne
    simp only[hu,if_true,Jc,not_or];exact⟨fun e=>hne e.symm,zCh r d _ s h⟩
  ·rename_i hu
   simp only[hu];simpa using zCh r d _ s h
 |.zero u::r,d,i0,s,h=>by
  simp only[pWr]at h;simpa only[xR]using zCh r d _ s h
section
variable {Γ:Ctx}{E:Env}{G:Gh}{tmps:Array Value}{w:World}{d:Nat}{ps:List yR}
theorem zFK(hrep:Rep Γ E G tmps w)(h:tM E d ps):
  yS (ps.map yR.tree)=true∧xI (ps.map yR.tree)∧(∀i z,(pHd G ps i z).oneCell'=true)∧
  (∀(i:Nat) u x q(z:List Nat),(ps.map yR.tree)[i]? =some u→zGD ps i=some (x,q)→zId ps x (z++q)=some (z++[i]))∧
  (∀(i:Nat) u x q,(ps.map yR.tree)[i]? =some u→zGD ps i=some (x,q)→(∀z,pHd G ps i z=G.hd x (z++q))∧R Γ.St G w x u q∧yC u∧x≠d)∧
  (∀(i:Nat) u,(ps.map yR.tree)[i]? =some u→zGD ps i=none→ ∀(G2:Gh)(w2:World),(∀z,G2.hd d (z++[i])=pHd G ps i z)→R Γ.St G2 w2 d u [i])∧
  (∀s p,(∀n,(s,n)∉(d,0)::sN ps)→zId ps s p=none):=by
 have hdn:=Lj.1 h.dist;refine⟨?_,?_,?_,?_,?_,?_,?_⟩
 ·have:∀qs:List yR,(∀p∈qs,p∈ps)→yS (qs.map yR.tree)=true:=by
   intro qs
   induction qs with
   |nil=>intro _;rfl
   |cons q qs ih=>
    intro hq;simp only[Jt,yS,J4];refine⟨?_,ih fun p hp=>hq p (by simp[hp])⟩;cases q with
    |slot s t=>exact(h.slot s t (hq _ (by simp))).2.2
    |zero u=>exact(zBd u (h.zero u (hq _ (by simp)))).2
  exact this ps fun _ hp=>hp
 ·have:∀qs:List yR,(∀p∈qs,p∈ps)→xI (qs.map yR.tree):=by
   intro qs
   induction qs with
   |nil=>intro _;trivial
   |cons q qs ih=>
    intro hq;simp only[Jt,xI,xU];refine⟨?_,ih fun p hp=>hq p (by simp[hp])⟩;cases q with
    |slot s t=>exact(h.slot s t (hq _ (by simp))).2.1
    |zero u=>exact(zBd u (h.zero u (hq _ (by simp)))).1
  exact this ps fun _ hp=>hp
 ·intro i z
  unfold pHd;split
  ·exact hrep.mem.one _ _
  ·exact zBc _
  ·rfl
 ·intro i u x q z hu hs
  rw[K1]at hu;unfold zGD at hs;cases hp:ps[i]? with
  |none=>simp[hp]at hu
  |some p=>
   cases p with
   |zero v=>simp[hp]at hs
   |slot s t=>
    simp only[hp]at hs;split at hs
    ·rename_i hm
     simp at hs;obtain⟨rfl,rfl⟩:=hs;simp[zId,zBe ps 0 i s t hp hm hdn.2]
    ·cases hs
 ·intro i u x q hu hs
  rw[K1]at hu;unfold zGD at hs;cases hp:ps[i]? with
  |none=>simp[hp]at hu
  |some p=>
   cases p with
   |zero v=>simp[hp]at hs
   |slot s t=>
    simp only[hp]at hs;split at hs
    ·rename_i hm
     simp at hs;obtain⟨rfl,rfl⟩:=hs;simp[hp,yR.tree]at hu;subst hu;obtain⟨h1,h2,h3⟩:=h.slot s t (Kf hp);refine⟨fun z=>by simp[pHd,hp],(hrep.ent s t h1).2.1,h2,fun e=>hdn.1 ?_⟩;subst e;exact zBe.pSlots_mem ps i s t hp hm
    ·cases hs
 ·intro i u hu hs G2 w2 hG2
  rw[K1]at hu;unfold zGD at hs;cases hp:ps[i]? with
  |none=>simp[hp]at hu
  |some p=>
   cases p with
   |zero v=>
    simp[hp,yR.tree]at hu;subst hu;exact zJp v [i] (h.zero v (Kf hp)) (fun z=>by rw[hG2 z];simp[pHd,hp])
   |slot s t=>
    simp only[hp]at hs;split at hs
    ·cases hs
    ·rename_i hm
     simp[hp,yR.tree]at hu;subst hu;have h1:=(hrep.ent s t (h.slot s t (Kf hp)).1).2.1;have h2:G2.hd d [i]=G.hd s []:=by have:=hG2 [];simpa[pHd,hp]using this
     cases t<;>simp[sM]at hm<;>simp only[R]at h1 ⊢ <;>rw[h2]<;>exact h1
 ·intro s p hoff
  have:s∉xR ps:=fun hin=>hoff 1 (by simp[sN,hin])
  simp[zId,zCT ps 0 s this]
theorem zDI(hrep:Rep Γ E G tmps w)(h:tM E d ps)(G2:Gh):∀(qs:List yR)(i0:Nat),(∀i q,qs[i]? =some q→ps[i0+i]? =some q)→(∀i z,G2.hd d (z++[i])=pHd G ps i z)→
  yE G2 d (qs.map yR.tree) [] i0=qs.flatMap (qD G)
 | [],_,_,_=>by simp[yE]
 |q::qs,i0,hq,hG2=>by
  have h0:ps[i0]? =some q:=by simpa using hq 0 q (by simp)
  have ih:=zDI hrep h G2 qs (i0+1) (fun i p hp=>by rw[show i0+1+i=i0+(i+1)from by omega];exact hq (i+1) p (by simpa using hp)) hG2;simp only[Jt,yE,Ln,ih]
  congr 1
  cases q with
  |slot s t=>exact zAC t [] [i0] (fun z=>by rw[hG2];simp[pHd,h0])
  |zero u=>exact zFd u [i0] (h.zero u (Kf h0)) (fun z=>by rw[hG2];simp[pHd,h0])
end
end Go.Ab

namespace Go.Ab
open Go
section
variable {P:Program}{Γ:Ctx}{E:Env}{o:Oper}{d:Nat}
theorem zI1{G G':Gh}{w':World}{s i:Nat}{t:T}{v:Option Value}(hv:v=some (mkV G s t []))(hnt:∀xs,t≠.tup xs)(hs:∀p,G'.hd s p=G.hd s p)(hd':∀z,G'.hd d (z++[i])=G.hd s z)
  (hr:R Γ.St G' w' d t [i]):Ent Γ G' w' v s (cpT d t [i]):=by
 have hz:∀z,G'.hd s (z++[])=G'.hd d (z++[i]):=fun z=>by rw[J9,hs,hd']
 refine⟨?_,?_,qN d t [i]⟩
 ·rw[hv,zAx (G:=G') (G':=G') t [i] [] hnt hz,kH G s t [] hnt,zB2 t [] [i] (fun z=>by rw[hd',J9])]
 ·exact zDD (G:=G') (G':=G') (fun _=>rfl) t [i] [] hz hnt (yW.triv (fun _ _=>⟨rfl,rfl⟩) _) hr
theorem zBf{G:Gh}{a:Act}{w w':World}{ps:List yR}(hrep:Rep Γ E G a.tmps w)(h:tM E d ps)(hd:d<Γ.N){cells:Array Value}{e:TypeId}(hw:w'.heap=w.heap.push (.cells cells e))
  (hcells:∀(o:Nat)(v:Value),(ps.flatMap (qD G))[o]? =some v→cells[o]? =some v)
  (rt:T)(hdr:Value)
  (hrt:(∃k cap,rt=.sl k (ps.map yR.tree)∧(∀p∈ps,p.tree.size=k)∧hdr=.slice (some ⟨w.heap.size,0,none⟩) ps.length cap∧ps.length≤cap∧cap≤maxLen∧cells.size=cap*k)∨
   ∃p,ps=[p]∧rt=.ptr p.tree∧hdr=.pointer (some ⟨w.heap.size,0,none⟩)∧cells.size=p.tree.size)
  (ho:w'.os=w.os:=by rfl)(hq:w'.output=w.output:=by rfl):
  ∃G',Rep Γ (E.app ((d,some rt)::pWr d ps 0) ((d,0)::sN ps)) G' (a.tmps.setIfInBounds d hdr) w':=by
 obtain⟨f1,f0,f2,f3,f4,f5,f6⟩:=zFK hrep h;have hh:hdr.oneCell'=true:=by rcases hrt with⟨k,cap,_,_,rfl,_⟩|⟨p,_,_,rfl,_⟩<;>rfl
 have hdn:=Lj.1 h.dist;obtain⟨g1,g2,g3,g4,g5⟩:=zCS hrep.mem hw d (ps.map yR.tree) (zGD ps) (zId ps) (pHd G ps) hdr (sN ps) f1 f2 hh f3 f4 f5
  (fun G2 hG2 o v hv=>hcells o v (by
   rw[zDI hrep h G2 ps 0 (fun i q hq=>by simpa using hq) hG2]at hv;exact hv)) f6 (ho:=ho) (hq:=hq)
 refine⟨_,vG hrep (by simp) g1 g2 ?_ ?_⟩
 ·intro s hs
  simp only[Wr.find]at hs;split at hs
  ·cases hs
  ·rename_i hne
   have hns:=zCh ps d 0 s hs;refine⟨fun n hn=>?_,by rw[Jd];simp[hne]⟩;simp only[Jc,Jb2.injEq,sN,Jo]at hn;rcases hn with⟨e1,_⟩|⟨y,hy,e1,_⟩
   ·exact hne e1.symm
   ·exact hns (e1▸hy)
 ·intro s t hs
  simp only[Wr.find]at hs;split at hs
  ·rename_i he
   subst he;simp at hs;subst hs;have hroot:(G.nb d w.heap.size (ps.map yR.tree) (zGD ps) (zId ps) (pHd G ps) hdr).hd d []=hdr:=by simp[Gh.nb]
   have how:(G.nb d w.heap.size (ps.map yR.tree) (zGD ps) (zId ps) (pHd G ps) hdr).ow w.heap.size=some (d,[]):=by simp[Gh.nb]
   refine⟨?_,?_,?_⟩
   ·rw[Jd]
    rcases hrt with⟨k,cap,rfl,_⟩|⟨p,_,rfl,_⟩<;>simp[hrep.size,hd,mkV,hroot]
   ·rcases hrt with⟨k,cap,rfl,hk,h1,h2,h3,h4⟩|⟨p,rfl,rfl,h1,h4⟩
    ·simp only[R]
     rw[hroot];refine .inr ⟨w.heap.size,cap,cells,e,by simpa using h1,g5,by simpa using h2,h3,by omega,how,?_,zQz _ _ _ _ _ (fun x hx=>?_) g3 g4⟩
     ·intro o ho _
      have hsz:T.sizes (ps.map yR.tree)=(ps.map yR.tree).length*k:=wV _ (fun x hx=>by
       obtain⟨p,hp,rfl⟩:=Jo.1 hx;exact hk p hp)
      simp[Gh.nb,zDG (ps.map yR.tree) [] 0 o (by omega)]
     ·obtain⟨p,hp,rfl⟩:=Jo.1 hx
      exact hk p hp
    ·simp only[R]
     rw[hroot];simp only[Jt,Hk,vF,RF]at g3 g4;exact⟨w.heap.size,cells,e,h1,g5,h4,how,g3.1,g4.1⟩
   ·rcases hrt with⟨k,cap,rfl,_⟩|⟨p,rfl,rfl,_⟩
    ·simp only[Top];exact f0
    ·simp only[Top];exact f0.1
  ·rename_i hne
   obtain⟨i,u,h1,h2,h3⟩:=zCg ps d 0 s _ hs;simp only[Je]at h3;simp at h3;subst h3;obtain⟨h4,h5,h6⟩:=h.slot s u (Kf h1);have hnt:∀xs,u≠.tup xs:=by rintro xs rfl;simp[T.okTup]at h6
   have hi:(ps.map yR.tree)[i]? =some u:=by simp[h1,yR.tree]
   have hr:=zAM _ [] 0 i u g4 hi;simp only[Je]at hr;refine zI1 (G:=G) (by rw[Jd];simp only[hne,if_false];exact(hrep.ent s u h4).1) hnt (fun p=>?_) (fun z=>?_) hr
   ·simp[Gh.nb,show s≠d from fun e=>hne e.symm]
   ·simp[Gh.nb,pHd,h1]
inductive kS (E:Env):Operand→yR→Prop where
 |slot (s:Nat) (t:T):kS E (.tmp s) (.slot s t)
 |zero (v:Value) (u:T) (h:tK u=v.cells.toList):kS E (.const v) (.zero u)
theorem zAy{G:Gh}{a:Act}{w:World}{ps:List yR}(hrep:Rep Γ E G a.tmps w)(h:tM E d ps){x:Operand}{p:yR}(hp:p∈ps)(hx:kS E x p):
  (a.eval x).cells.toList=qD G p:=by
 cases hx with
 |slot s t=>
  obtain⟨h1,h2,h3⟩:=h.slot s t hp;obtain⟨h4,_,_⟩:=hrep.ent s t h1;rw[wI h4];cases t with
  |agg xs=>simp[mkV,Value.cells,vals,qD]
  |tup xs=>simp[T.okTup]at h3
  |_=>
   have:=hrep.mem.one s [];simp only[mkV,vals,qD]
   generalize G.hd s []=v at this
   cases v<;>simp[Value.oneCell',Value.cells]at this ⊢
 |zero v u h=>simp[Act.eval,h,qD]
def uI(E:Env):List Operand→List yR→Prop
 | [],[]=>True
 |x::xs,p::ps=>kS E x p∧uI E xs ps
 |_,_=>False
theorem uI.length:(xs:List Operand)→(ps:List yR)→uI E xs ps→xs.length=ps.length
 | [],[],_=>rfl
 |_::xs,_::ps,h=>by simp[uI.length xs ps h.2]
 | [],_::_,h=>by simp[uI]at h
 |_::_,[],h=>by simp[uI]at h
theorem uI.mem:(xs:List Operand)→(ps:List yR)→uI E xs ps→ ∀x∈xs,∃p,p∈ps∧kS E x p
 | [],_,_,x,hx=>by simp at hx
 |y::xs,p::ps,h,x,hx=>by
  rcases Jc.1 hx with rfl|hx
  ·exact⟨p,by simp,h.1⟩
  ·obtain⟨q,hq,hxq⟩:=uI.mem xs ps h.2 x hx;exact⟨q,by simp[hq],hxq⟩
 |_::_,[],h,_,_=>by simp[uI]at h
theorem zGF{G:Gh}{a:Act}{w:World}{ps:List yR}(hrep:Rep Γ E G a.tmps w)(h:tM E d ps):∀(xs:List Operand)(qs:List yR),(∀q∈qs,q∈ps)→uI E xs qs→
  ((xs.map a.eval).flatMap fun v=>v.cells.toList)=qs.flatMap (qD G)
 | [],[],_,_=>rfl
 |x::xs,q::qs,hq,hx=>by
  simp only[Jt,Ln,zAy hrep h (hq q (by simp)) hx.1,zGF hrep h xs qs (fun p hp=>hq p (by simp[hp])) hx.2]
 | [],_::_,_,hx=>by simp[uI]at hx
 |_::_,[],_,hx=>by simp[uI]at hx
theorem zQ0(T':TypeId)(ti:TypeInfo)(z:Value)(u:T)(ho:o.op=.alloc T')(hdst:o.dst=some d)(hd:d<Γ.N)
  (hi:P.info? T'=some ti)(hz:ti.zero=some z)(hu:u.zOk=true)(hv:tK u=z.cells.toList)(hsz:z.cells.size=u.size):
  wN P Γ o E (E.app [(d,some (.ptr u))] [(d,0)]):=by
 refine wN.value hdst fun a w G hrep=>?_
 have hps:tM E d [.zero u]:=⟨fun s t h=>by simp at h,fun v h=>by simp at h;subst h;exact hu,by simp[xR]⟩;obtain⟨G',hG'⟩:=zBf (w':=w.alloc (.cells z.cells T')) hrep hps hd (cells:=z.cells) (e:=T') rfl (fun o v h=>by simpa[hv,qD]using h) (.ptr u) (.pointer (some ⟨w.heap.size,0,none⟩)) (.inr ⟨.zero u,rfl,rfl,rfl,hsz⟩);refine⟨_,_,?_,G',by simpa[pWr,sN,xR]using hG'⟩;simp[execOp,ho,Instr.alloc,zeroValue,typeInfo,hi,hz,newVar,newRow]
theorem zVL(T':TypeId)(x:Operand)(p:yR)(ho:o.op=.box T' x)(hdst:o.dst=some d)(hd:d<Γ.N)(hx:kS E x p)(hps:tM E d [p]):
  wN P Γ o E (E.app ((d,some (.ptr p.tree))::pWr d [p] 0) ((d,0)::sN [p])):=by
 refine wN.value hdst fun a w G hrep=>?_
 have hc:=zAy hrep hps (by simp) hx;have hsz:(a.eval x).cells.size=p.tree.size:=by
  rw[←Ki,hc];cases p with
  |slot s t=>
   obtain⟨_,_,h3⟩:=hps.slot s t (by simp);show(vals G s t []).length=t.size;exact wU t [] (by rintro xs rfl;simp[T.okTup]at h3)
  |zero u=>exact wX u (hps.zero u (by simp))
 obtain⟨G',hG'⟩:=zBf (w':=w.alloc (.cells (a.eval x).cells T')) hrep hps hd (cells:=(a.eval x).cells) (e:=T') rfl (fun o v h=>by
  rw[←K6,hc];simpa using h) (.ptr p.tree) (.pointer (some ⟨w.heap.size,0,none⟩)) (.inr ⟨p,rfl,rfl,rfl,hsz⟩)
 refine⟨_,_,?_,G',hG'⟩;simp[execOp,ho,Instr.box,newVar,newRow]
theorem zIe(t e:TypeId)(ti:TypeInfo)(z:Value)(k n:Nat)(xs:List Operand)(ps:List yR)(ho:o.op=.buildSlice t n ((xs.zipIdx 0).map fun x=>(x.2,x.1)).toArray)(hdst:o.dst=some d)(hd:d<Γ.N)
  (ht:P.underlying t=some (.slice e))(hi:P.info? e=some ti)(hz:ti.zero=some z)(hk:ti.size=k)(hk0:0<k)(hn:xs.length=n)(hn0:0<n)(hsm:n*k≤2 ^ 24)
  (hx:uI E xs ps)(hps:tM E d ps)(hsz:∀p∈ps,p.tree.size=k):
  wN P Γ o E (E.app ((d,some (.sl k (ps.map yR.tree)))::pWr d ps 0) ((d,0)::sN ps)):=by
 refine wN.value hdst fun a w G hrep=>?_
 subst hk;have hlen:xs.length=ps.length:=uI.length xs ps hx;have hc:=zGF hrep hps xs ps (fun _ h=>h) hx;have hvs:∀v∈xs.map a.eval,v.cells.size=ti.size:=by
  intro v hv;obtain⟨x,hxm,rfl⟩:=Jo.1 hv;obtain⟨p,hp,hxp⟩:=uI.mem xs ps hx x hxm;rw[←Ki,zAy hrep hps hp hxp,←hsz p hp];cases p with
  |slot s t=>
   obtain⟨_,_,h3⟩:=hps.slot s t hp;show(vals G s t []).length=t.size;exact wU t [] (by rintro xs rfl;simp[T.okTup]at h3)
  |zero u=>exact wX u (hps.zero u hp)
 have hfill:=Great.fill_whole hk0 (xs.map a.eval) ((Jcq (n*ti.size)).map (z.cells[·%z.cells.size]!)) hvs (by simp[hn]);have hparts:((((xs.zipIdx 0).map fun x=>(x.2,x.1)).toArray).map fun(i,x)=>(i,a.eval x)).toList=((xs.map a.eval).zipIdx 0).map fun x=>(x.2,x.1):=by
  simp[List.zipIdx_map,Function.comp_def]
 have hrun:=run_buildSlice (P:=P) w t e n _ _ ti z ht hi hz (by omega) (by have:=Jc3 hn0 hk0;omega) (by rw[hparts];exact hfill);have hsize:((xs.map a.eval).flatMap fun v=>v.cells.toList).toArray.size=n*ti.size:=by
  rw[Jc7,flat_len (k:=ti.size) _ (fun v hv=>by rw[Ki];exact hvs v hv)];simp[hn]
 obtain⟨G',hG'⟩:=zBf (w':=w.alloc (.cells ((xs.map a.eval).flatMap fun v=>v.cells.toList).toArray e)) hrep hps hd rfl (fun o v h=>by
  rw[hc];simpa using h) (.sl ti.size (ps.map yR.tree)) (.slice (some ⟨w.heap.size,0,none⟩) n n) (.inl ⟨ti.size,n,rfl,hsz,by rw[←hlen,hn],by omega,by have:n≤n*ti.size:=Nat.le_mul_of_pos_right n hk0;simp only[maxLen];omega,hsize⟩)
 refine⟨_,_,?_,G',hG'⟩;simp only[execOp,ho,Sem.run_bind,hrun,Result.andThen_ok];rfl
where
 flat_len {k:Nat} (vs:List Value) (h:∀v∈vs,v.cells.toList.length=k):(vs.flatMap fun v=>v.cells.toList).length=vs.length*k:=by
  induction vs with
  |nil=>simp
  |cons v vs ih=>simp[Ln,ih (fun u hu=>h u (by simp[hu])),K5];have:=h v (by simp);simp at this;omega
end
end Go.Ab

namespace Go.Ab
open Go
theorem zJq{α β:Type}(f:α→List β)(x:α)(k:Nat)(hk:(f x).length=k)(hk0:0<k):∀(n o:Nat)(v:β),((J1 n x).flatMap f)[o]? =some v→o<n*k∧(f x)[o%k]? =some v
 |0,o,v,h=>by simp at h
 |n+1,o,v,h=>by
  rw[Jq,Ln,Ky]at h;split at h
  ·rename_i hlt
   rw[hk]at hlt;exact⟨by rw[K5];omega,by rw[Nat.mod_eq_of_lt hlt];exact h⟩
  ·rename_i hge
   rw[hk]at h hge;obtain⟨h1,h2⟩:=zJq f x k hk hk0 n (o-k) v h;refine⟨by rw[K5];omega,?_⟩
   rwa [show o%k=(o-k)%k from by rw[←Nat.mod_eq_sub_mod (by omega)]]
section
variable {P:Program}{Γ:Ctx}{E:Env}{o:Oper}{d:Nat}
theorem zT2(t e:TypeId)(ti:TypeInfo)(z:Value)(u:T)(k:Nat)(x y:Operand)(n c:Nat)(kl kc:IntKind)(ho:o.op=.makeSlice t x y)(hdst:o.dst=some d)(hd:d<Γ.N)
  (ht:P.underlying t=some (.slice e))(hi:P.info? e=some ti)(hz:ti.zero=some z)(hk:ti.size=k)(hk0:0<k)(hu:u.zOk=true)(hv:tK u=z.cells.toList)(hus:u.size=k)(hb:ti.bytes≤4096)
  (hx:opT E x=some (.lit (.int kl n)))(hy:opT E y=some (.lit (.int kc c)))(hnc:n≤c)(hc:c≤68719476736):
  wN P Γ o E (E.app [(d,some (.sl k (J1 n u)))] [(d,0)]):=by
 refine wN.value hdst fun a w G hrep=>?_
 have h1:=(wO hrep hx).1;have h2:=(wO hrep hy).1;subst hk;have hps:tM E d (J1 n (.zero u)):=⟨fun s t h=>by simp at h,fun v h=>by simp at h;obtain⟨_,rfl⟩:=h;exact hu,by
  have:∀m,xR (J1 m (.zero u))=[]:=by intro m;induction m with|zero=>rfl|succ m ih=>simp[Jq,xR,ih]
  simp[this]⟩
 have hzs:z.cells.size=ti.size:=by rw[←Ki,←hv,wX u hu,hus]
 have hbytes:(ti.bytes:Int)*(c:Int)≤281474976710656:=by
  have:ti.bytes*c≤4096*68719476736:=Kj hb hc;have:((ti.bytes*c:Nat):Int)≤281474976710656:=by omega
  rwa [L8]at this
 have hrun:=run_make (P:=P) w t e ti z ht hi hz kl kc n c (by omega) (by omega) hbytes (by omega);simp only[Jg]at hrun;obtain⟨G',hG'⟩:=zBf (w':=w.alloc (.cells (madeCells z.cells (c*ti.size)) e)) hrep hps hd rfl (fun i v h=>by
  obtain⟨h3,h4⟩:=zJq (qD G) (.zero u) ti.size (by simp[qD,wX u hu,hus]) hk0 n i v h;have h5:i<c*ti.size:=Jbi h3 (Km _ hnc);simp only[qD,hv,K6]at h4;rw[←hzs]at h4;simp[madeCells,h5,getElem!_def,h4]) (.sl ti.size (J1 n u)) (.slice (some ⟨w.heap.size,0,none⟩) n c)
  (.inl ⟨ti.size,c,by simp[yR.tree],fun p hp=>by simp at hp;obtain⟨_,rfl⟩:=hp;exact hus,by simp,by simpa using hnc,by simp only[maxLen];omega,by simp[madeCells]⟩)
 refine⟨.slice (some ⟨w.heap.size,0,none⟩) n c,w.alloc (.cells (madeCells z.cells (c*ti.size)) e),?_,G',?_⟩
 ·simp only[execOp,ho,h1,h2,Sem.run_bind,hrun,Result.andThen_ok]
  rfl
 ·have h6:∀m i,pWr d (J1 m (.zero u)) i=[]:=by intro m;induction m with|zero=>intro i;rfl|succ m ih=>intro i;simp[Jq,pWr,ih]
  have h7:sN (J1 n (.zero u))=[]:=by
   have:∀m,xR (J1 m (.zero u))=[]:=by intro m;induction m with|zero=>rfl|succ m ih=>simp[Jq,xR,ih]
   simp[sN,this]
  rw[h6,h7]at hG';exact hG'
theorem zGG(t e:TypeId)(ti:TypeInfo)(k:Nat)(ho:o.op=.buildSlice t 0 #[])(hdst:o.dst=some d)(hd:d<Γ.N)
  (ht:P.underlying t=some (.slice e))(hi:P.info? e=some ti):wN P Γ o E (E.app [(d,some (.sl k []))] [(d,0)]):=by
 refine wN.value hdst fun a w G hrep=>?_
 have hps:tM E d []:=⟨fun s t h=>by simp at h,fun v h=>by simp at h,by simp[xR]⟩;obtain⟨G',hG'⟩:=zBf (w':=w.alloc (.cells #[] e)) hrep hps hd (cells:=#[]) rfl (fun i v h=>by simp at h) (.sl k []) (.slice (some ⟨w.heap.size,0,none⟩) 0 0)
  (.inl ⟨k,0,rfl,fun p hp=>by simp at hp,rfl,Jp _,by simp[maxLen],by simp⟩)
 refine⟨_,_,?_,G',hG'⟩;have h0:(Jcq 0:Array Nat)= #[]:=by rfl
 simp[execOp,ho,Instr.buildSlice,run_underlying ht,sizeOf,typeInfo,hi,Instr.fill,newRow,h0]
theorem zKv(k:Nat)(x:Operand)(ho:o.op=.move x∨o.op=.assign x)(hx:x=.const (.slice none 0 0))(hdst:o.dst=some d)(hd:d<Γ.N):wN P Γ o E (E.app [(d,some (.sl k []))] [(d,0)]):=by
 refine wN.value hdst fun a w G hrep=>?_
 refine⟨.slice none 0 0,w,?_,_,vK hrep rfl hd (fun _=>.slice none 0 0) (fun _=>rfl) (.sl k []) (.slice none 0 0) (by simp[mkV,Gh.put]) (by simp[R,Gh.put]) (by simp[Top,xI,xU])⟩;subst hx;rcases ho with ho|ho<;>simp[execOp,ho,Act.eval]
def Gh.nv(G:Gh)(d:Nat)(src:Nat→Option (Nat×List Nat))(φ:Nat→List Nat→Option (List Nat))(f:Nat→List Nat→Value):Gh where
 hd s z:=if s=d then(match z.getLast? with
  |some i=>f i z.dropLast
  |none=>.bool false)else G.hd s z
 ad s z:=if s=d then(match z.getLast? with
  |some i=>(match src i with
   |some (x,q)=>G.ad x (z.dropLast++q)
   |none=>default)
  |none=>default)else G.ad s z
 lb b o:=match G.lb b o with
  |some (fl,s,z)=>(match φ s z with
   |some z'=>some (fl,d,z')
   |none=>some (fl,s,z))
  |none=>none
 ow b:=match G.ow b with
  |some (s,z)=>(match φ s z with
   |some z'=>some (d,z')
   |none=>some (s,z))
  |none=>none
theorem zT3{G:Gh}{a:Act}{w:World}{ps:List yR}(hrep:Rep Γ E G a.tmps w)(h:tM E d ps)(hd:d<Γ.N):
  ∃G',Rep Γ (E.app ((d,some (.agg (ps.map yR.tree)))::pWr d ps 0) ((d,0)::sN ps)) G' (a.tmps.setIfInBounds d (.agg (ps.flatMap (qD G)).toArray)) w:=by
 obtain⟨f1,f0,f2,f3,f4,f5,f6⟩:=zFK hrep h;have hm:=hrep.mem;have hblk:Blk w w:=fun b cs e' h=>⟨cs,h,rfl⟩
 generalize hG':G.nv d (zGD ps) (zId ps) (pHd G ps)=G'
 have ghd:∀i z,G'.hd d (z++[i])=pHd G ps i z:=fun i z=>by rw[←hG'];simp[Gh.nv]
 have ghd':∀s z,s≠d→G'.hd s z=G.hd s z:=fun s z hs=>by rw[←hG'];simp[Gh.nv,hs]
 have glbm:∀b o fl x z z',G.lb b o=some (fl,x,z)→zId ps x z=some z'→G'.lb b o=some (fl,d,z'):=fun b o fl x z z' h1 h2=>by rw[←hG'];simp[Gh.nv,h1,h2]
 have gowm:∀b x z z',G.ow b=some (x,z)→zId ps x z=some z'→G'.ow b=some (d,z'):=fun b x z z' h1 h2=>by rw[←hG'];simp[Gh.nv,h1,h2]
 have hne:∀s p,Off ((d,0)::sN ps) s p→s≠d:=fun s p h e=>absurd (h 0 (by simp[e])) (by simp)
 have hkeep:qP ((d,0)::sN ps) G w G' w:=by
  refine⟨fun s p h=>ghd' s p (hne s p h),fun s p h=>?_,fun b o fl s p _ hl h=>⟨?_,rfl⟩,fun b s p hl h=>?_,hblk⟩
  ·rw[←hG'];simp[Gh.nv,hne s p h]
  ·rw[←hG'];simp[Gh.nv,hl,f6 s p h]
  ·rw[←hG'];simp[Gh.nv,hl,f6 s p h]
 have hmem:Mem Γ G' w:=by
  refine⟨fun s p=>?_,fun b o l hl=>?_,fun b l hl=>?_,hm.st,hm.fr,hm.sz,hm.bk⟩
  ·rw[←hG']
   simp only[Gh.nv];split
   ·split
    ·exact f2 _ _
    ·rfl
   ·exact hm.one s p
  ·rw[←hG']at hl
   simp only[Gh.nv]at hl;split at hl
   ·rename_i hg;exact hm.lb b o _ hg
   ·cases hl
  ·rw[←hG']at hl
   simp only[Gh.nv]at hl;split at hl
   ·rename_i hg;exact hm.ow b _ hg
   ·cases hl
 have g4:RF Γ.St G' w d (ps.map yR.tree) [] 0:=by
  refine zN9 _ [] 0 (fun i u hu=>?_);rw[Je];cases hs:zGD ps i with
  |none=>exact f5 i u hu hs G' w (fun z=>ghd i z)
  |some xq=>
   obtain⟨x,q⟩:=xq;obtain⟨h1,h2,h3,h4⟩:=f4 i u x q hu hs;refine zKu u q [i] (zCS.okTups_get _ f1 i u hu) ⟨fun z=>by rw[ghd,h1],fun z _=>by rw[←hG'];simp[Gh.nv,hs],fun b o fl z _ hl=>⟨glbm b o fl x _ _ hl (f3 i u x q z hu hs),rfl⟩,
    fun b z hl=>gowm b x _ _ hl (f3 i u x q z hu hs),hblk⟩ (yW.mono (fun _ _=>False.elim) u h3) h2
 refine⟨G',vG hrep (by simp) hkeep hmem ?_ ?_⟩
 ·intro s hs
  simp only[Wr.find]at hs;split at hs
  ·cases hs
  ·rename_i hne
   have hns:=zCh ps d 0 s hs;refine⟨fun n hn=>?_,by rw[Jd];simp[hne]⟩;simp only[Jc,Jb2.injEq,sN,Jo]at hn;rcases hn with⟨e1,_⟩|⟨y,hy,e1,_⟩
   ·exact hne e1.symm
   ·exact hns (e1▸hy)
 ·intro s t hs
  simp only[Wr.find]at hs;split at hs
  ·rename_i he
   subst he;simp at hs;subst hs;refine⟨?_,by simpa only[R]using g4,by simp only[Top];exact vM.of_clean _ f0⟩;rw[Jd];simp only[hrep.size,hd,mkV,if_true];rw[zDI hrep h G' ps 0 (fun i q hq=>by simpa using hq) ghd]
  ·rename_i hne
   obtain⟨i,u,h1,h2,h3⟩:=zCg ps d 0 s _ hs;simp only[Je]at h3;simp at h3;subst h3;obtain⟨h4,h5,h6⟩:=h.slot s u (Kf h1);have hnt:∀xs,u≠.tup xs:=by rintro xs rfl;simp[T.okTup]at h6
   have hi:(ps.map yR.tree)[i]? =some u:=by simp[h1,yR.tree]
   have hr:=zAM _ [] 0 i u g4 hi;simp only[Je]at hr;refine zI1 (G:=G) (by rw[Jd];simp only[hne,if_false];exact(hrep.ent s u h4).1) hnt (fun p=>ghd' s p (fun e=>hne e.symm)) (fun z=>?_) hr;rw[ghd];simp[pHd,h1]
theorem zNB(off:Nat):∀(vs:List Value)(i:Nat)(cs:Array Value)(k:Nat),off+i+vs.length≤cs.size→
  ((vs.zipIdx i).foldl (fun cs(x:Value×Nat)=>cs.setIfInBounds (off+x.2) x.1) cs)[k]? =if off+i≤k∧k<off+i+vs.length then vs[k-(off+i)]? else cs[k]?
 | [],i,cs,k,_=>by simp;omega
 |v::vs,i,cs,k,h=>by
  simp only[J7]at h;simp only[List.zipIdx_cons,Ut];rw[zNB off vs (i+1) _ k (by simp;omega)]
  by_cases h1:off+(i+1)≤k∧k<off+(i+1)+vs.length
  ·rw[if_pos h1,if_pos (by simp only[J7];omega),show k-(off+i)=k-(off+(i+1))+1 from by omega,Uw]
  ·rw[if_neg h1]
   by_cases h2:k=off+i
   ·subst h2
    rw[if_pos (by simp only[J7];omega),Kr];rw[Jd];simp;omega
   ·rw[if_neg (by simp only[J7];omega),Jd,if_neg (fun e=>h2 e.symm)]
theorem zGH{pv:yR→List Value}(place:Nat→Option (Nat×Nat)):∀(vs:List (Nat×Value))(qs:List (Nat×yR))(ps:List yR)(cs:Array Value),cs.toList=ps.flatMap pv→
  (∀i p,ps[i]? =some p→place i=some (((ps.take i).flatMap pv).length,(pv p).length))→
  vs.map (·.1)=qs.map (·.1)→(∀(j:Nat)(v:Nat×Value)(q:Nat×yR),vs[j]? =some v→qs[j]? =some q→v.2.cells.toList=pv q.2∧ ∃p,ps[q.1]? =some p∧(pv p).length=(pv q.2).length)→
  ∃cs',Instr.fill place cs vs=some cs'∧cs'.toList=(qs.foldl (fun ps q=>ps.set q.1 q.2) ps).flatMap pv
 | [],[],ps,cs,hcs,_,_,_=>⟨cs,rfl,hcs⟩
 | [],_::_,_,_,_,_,h,_=>by simp at h
 |_::_,[],_,_,_,_,h,_=>by simp at h
 |(i,v)::vs,(i',q)::qs,ps,cs,hcs,hpl,hi,hq=>by
  simp only[Jt,Qu.injEq]at hi;obtain⟨hi0,hi⟩:=hi;subst hi0;obtain⟨h1,p,h2,h3⟩:=hq 0 (i,v) (i,q) rfl rfl;dsimp only at h1 h2 h3;have hplace:=hpl i p h2;have hlt:=(Jb.1 h2).1;have hsplit:ps=ps.take i++p::ps.drop (i+1):=by
   rw[←(Jb.1 h2).2,←H7 hlt,Jbk]
  have hset:ps.set i q=ps.take i++q::ps.drop (i+1):=List.set_eq_take_append_cons_drop .. |>.trans (if_pos hlt);have hvl:v.cells.size=(pv p).length:=by rw[←Ki,h1,h3]
  have hcl:cs.size=((ps.take i).flatMap pv).length+((pv p).length+((ps.drop (i+1)).flatMap pv).length):=by
   rw[←Ki,hcs]
   conv=>lhs;rw[hsplit]
   simp[Hd]
  have hnew:(v.cells.zipIdx.foldl (fun cs(x:Value×Nat)=>cs.setIfInBounds (((ps.take i).flatMap pv).length+x.2) x.1) cs).toList=(ps.set i q).flatMap pv:=by
   rw[hset];simp only[Hd,Ln,←h1];apply L7;intro k;rw[←Array.foldl_toList,K6,show v.cells.zipIdx.toList=v.cells.toList.zipIdx 0 from by simp,zNB _ _ 0 cs k (by have:v.cells.toList.length=v.cells.size:=(by simp);omega)];have hcs2:cs.toList=((ps.take i).flatMap pv)++(pv p++(ps.drop (i+1)).flatMap pv):=by
    rw[hcs]
    conv=>lhs;rw[hsplit]
    simp[Hd]
   have hvl2:v.cells.toList.length=(pv p).length:=by rw[h1,h3]
   rw[←K6,hcs2]
   generalize (ps.take i).flatMap pv=A
   generalize (ps.drop (i+1)).flatMap pv=B
   generalize v.cells.toList=V at hvl2
   generalize pv p=Q at hvl2
   by_cases hk:A.length≤k∧k<A.length+V.length
   ·rw[if_pos (by omega),J8 hk.1,Jl (by omega),Gf]
   ·rw[if_neg (by omega)]
    by_cases hk2:k<A.length
    ·rw[Jl hk2,Jl hk2]
    ·rw[J8 (by omega),J8 (by omega),J8 (by omega),J8 (by omega),hvl2]
  have hpl':∀j p',(ps.set i q)[j]? =some p'→place j=some ((((ps.set i q).take j).flatMap pv).length,(pv p').length):=by
   intro j p' hp';have htk:(((ps.set i q).take j).flatMap pv).length=((ps.take j).flatMap pv).length:=by
    rw[hset]
    conv=>rhs;rw[hsplit]
    by_cases hj:j≤i
    ·rw[Hb (by simp;omega),Hb (by simp;omega)]
    ·rw[Jbr,Jbr]
     simp only[Hd,J5]
     congr 1
     have:j-(ps.take i).length=(j-(ps.take i).length-1)+1:=by simp;omega
     rw[this,K7,K7];simp[h3]
   by_cases hj:j=i
   ·subst hj
    rw[Uq hlt]at hp';simp at hp';subst hp';rw[hplace,←h3,htk]
   ·rw[Jak (fun e=>hj e.symm)]at hp'
    rw[hpl j p' hp',htk]
  have hq':∀(j:Nat)(x:Nat×Value)(y:Nat×yR),vs[j]? =some x→qs[j]? =some y→x.2.cells.toList=pv y.2∧ ∃p,(ps.set i q)[y.1]? =some p∧(pv p).length=(pv y.2).length:=by
   intro j x y hx hy;obtain⟨h6,p',h7,h8⟩:=hq (j+1) x y (by simpa using hx) (by simpa using hy);refine⟨h6,?_⟩
   by_cases hj:y.1=i
   ·refine⟨q,by rw[hj,Uq hlt],?_⟩
    rw[hj,h2]at h7;simp at h7;subst h7;rw[←h8,h3]
   ·exact⟨p',by rw[Jak (fun e=>hj e.symm)];exact h7,h8⟩
  obtain⟨cs',h4,h5⟩:=zGH place vs qs (ps.set i q) _ hnew hpl' hi hq';refine⟨cs',?_,by simpa using h5⟩;simp only[Instr.fill,hplace];have hno:(v.cells.size≠(pv p).length||((ps.take i).flatMap pv).length+v.cells.size> cs.size)=false:=by
   rw[Bool.or_eq_false_iff];exact⟨by simpa using hvl,by rw[decide_eq_false_iff_not];omega⟩
  rw[hno];exact h4
theorem vW{t:TypeId}{it:TypeInfo}{fields:Array Field}{z:Value}{places:List (Nat×Nat)}(hi:P.info? t=some it)(hu:P.underlying t=some (.struct fields))(hz:it.zero=some z)
  (hp:fields.toList.mapM (fun f=>(P.info? f.type).map fun i=>(f.offset,i.size))=some places)(parts:List (Nat×Value)):P.built t parts=Instr.fill (places.toArray[·]?) z.cells parts:=by
 simp[Program.built,hi,hu,hz,hp]
theorem zKw{t e:TypeId}{n:Nat}{it ie:TypeInfo}{z:Value}(hi:P.info? t=some it)(hu:P.underlying t=some (.array n e))(hz:it.zero=some z)
  (he:P.info? e=some ie)(parts:List (Nat×Value)):P.built t parts=Instr.fill (fun i=>some (i*ie.size,ie.size)) z.cells parts:=by
 simp[Program.built,hi,hu,hz,he]
theorem zFe{G:Gh}:(zs:List T)→(zs.map yR.zero).flatMap (qD G)=tZ zs
 | []=>rfl
 |z::zs=>by simp[qD,tZ,←zFe (G:=G) zs]
theorem zQ1(t:TypeId)(place:Nat→Option (Nat×Nat))(z:Value)(zs:List T)(pl:List (Nat×Operand))(qs:List (Nat×yR))(ps:List yR)(ho:o.op=.build t pl.toArray)(hdst:o.dst=some d)(hd:d<Γ.N)
  (hb:∀parts,P.built t parts=Instr.fill place z.cells parts)(hzv:tZ zs=z.cells.toList)(hz:zAh zs=true)(hpl:∀i u,zs[i]? =some u→place i=some (T.sizes (zs.take i),u.size))
  (hps:qs.foldl (fun ps q=>ps.set q.1 q.2) (zs.map yR.zero)=ps)(hok:tM E d ps)(hix:pl.map (·.1)=qs.map (·.1))
  (hq:∀(j:Nat)(x:Nat×Operand)(q:Nat×yR),pl[j]? =some x→qs[j]? =some q→kS E x.2 q.2∧q.2∈ps∧ ∃u,zs[q.1]? =some u∧u.size=q.2.tree.size):
  wN P Γ o E (E.app ((d,some (.agg (ps.map yR.tree)))::pWr d ps 0) ((d,0)::sN ps)):=by
 refine wN.value hdst fun a w G hrep=>?_
 obtain⟨G',hG'⟩:=zT3 hrep hok hd;have hsz:∀(us:List T),zAh us=true→((us.map yR.zero).flatMap (qD G)).length=T.sizes us:=fun us h=>by rw[zFe,zAO us h]
 obtain⟨cs',h1,h2⟩:=zGH (pv:=qD G) place (pl.map fun x=>(x.1,a.eval x.2)) qs (zs.map yR.zero) z.cells (by rw[zFe,hzv]) (fun i p hp=>by
   rw[K1]at hp;cases hu:zs[i]? with
   |none=>simp[hu]at hp
   |some u=>
    simp[hu]at hp;subst hp;rw[hpl i u hu,←Qv,hsz _ (zOks_take zs i hz),qD,wX u (zOks_get zs hz i u hu)])
  (by simpa[List.map_map,Function.comp_def]using hix) (fun j v q hv hqj=>by
   rw[K1]at hv;cases hx:pl[j]? with
   |none=>simp[hx]at hv
   |some x=>
    simp[hx]at hv;subst hv;obtain⟨h3,h4,u,h5,h6⟩:=hq j x q hx hqj;refine⟨zAy hrep hok h4 h3,.zero u,by simp[h5],?_⟩;rw[qD,wX u (zOks_get zs hz _ u h5),h6];cases hqq:q.2 with
    |slot s t=>
     rw[hqq]at h4;obtain⟨_,_,h7⟩:=hok.slot s t h4;exact(wU t [] (by rintro xs rfl;simp[T.okTup]at h7)).symm
    |zero u'=>
     rw[hqq]at h4;exact(wX u' (hok.zero u' h4)).symm)
 rw[hps]at h2;have h3:cs'=(ps.flatMap (qD G)).toArray:=by rw[←h2]
 refine⟨_,w,?_,G',hG'⟩;have hrun:=run_build (P:=P) w t (pl.map fun x=>(x.1,a.eval x.2)).toArray cs' (by rw[hb];exact h1);simp only[Qy,execOp,ho,Sem.run_bind]at hrun ⊢
 rw[show(List.map (fun x=>match x with|(i,x)=>(i,a.eval x)) pl)=List.map (fun x=>(x.1,a.eval x.2)) pl from rfl,hrun,h3];rfl
where
 zOks_get:(xs:List T)→zAh xs=true→ ∀(i:Nat)(x:T),xs[i]? =some x→x.zOk=true
  | [],_,_,_,h=>by simp at h
  |y::ys,hk,i,x,h=>by
   simp only[zAh,J4]at hk;cases i with
   |zero=>simp at h;subst h;exact hk.1
   |succ i=>exact zOks_get ys hk.2 i x (by simpa using h)
 zOks_take:(xs:List T)→ ∀i,zAh xs=true→zAh (xs.take i)=true
  | [],i,_=>by simp[zAh]
  |y::ys,0,_=>by simp[zAh]
  |y::ys,i+1,hk=>by
   simp only[zAh,J4,K7]at hk ⊢
   exact⟨hk.1,zOks_take ys i hk.2⟩
end
end Go.Ab

namespace Go.Ab
open Go
mutual
def vE:T→T→Bool
 |.agg xs,.agg ys=>jY xs ys
 |.agg _,_=>false
 |.tup _,_=>false
 |_,.agg _=>false
 |_,.tup _=>false
 |.any,_|.lit _,_|.ro _,_|.same _ _,_|.addr _ _,_|.sub _ _ _ _ _,_|.sl _ _,_|.ptr _,_=>true
def jY:List T→List T→Bool
 | [],[]=>true
 |x::xs,y::ys=>vE x y&&jY xs ys
 | [],_::_=>false
 |_::_,[]=>false
end
mutual
theorem zCi:(x y:T)→vE x y=true→x.size=y.size
 |.agg xs,.agg ys,h=>by simp only[vE]at h;simp only[T.size];exact zEr xs ys h
 |.agg _,.any,h|.agg _,.lit _,h|.agg _,.ro _,h|.agg _,.same _ _,h|.agg _,.addr _ _,h|.agg _,.sub _ _ _ _ _,h|.agg _,.sl _ _,h|.agg _,.ptr _,h|.agg _,.tup _,h=>by simp[vE]at h
 |.tup _,_,h=>by simp[vE]at h
 |.any,y,h|.lit _,y,h|.ro _,y,h|.same _ _,y,h|.addr _ _,y,h|.sub _ _ _ _ _,y,h|.sl _ _,y,h|.ptr _,y,h=>by
  cases y<;>simp[vE]at h<;>simp[T.size]
theorem zEr:(xs ys:List T)→jY xs ys=true→T.sizes xs=T.sizes ys
 | [],[],_=>rfl
 |x::xs,y::ys,h=>by
  simp only[jY,J4]at h;simp only[T.sizes,zCi x y h.1,zEr xs ys h.2]
 | [],_::_,h=>by simp[jY]at h
 |_::_,[],h=>by simp[jY]at h
end
section
variable {G:Gh}{w:World}{s:Nat}
mutual
theorem zJr:(t:T)→ ∀(p:List Nat)(b o j:Nat),Loc G w s t p b o→j<t.size→ ∃y,G.lb b (o+j)=some (false,s,y++p)
 |.agg xs,p,b,o,j,h,hj=>by simp only[Loc,T.size]at h hj;exact zNC xs p 0 b o j h.2 hj
 |.any,p,b,o,j,h,hj|.lit _,p,b,o,j,h,hj|.ro _,p,b,o,j,h,hj|.same _ _,p,b,o,j,h,hj|.addr _ _,p,b,o,j,h,hj|.sub _ _ _ _ _,p,b,o,j,h,hj|.sl _ _,p,b,o,j,h,hj|.ptr _,p,b,o,j,h,hj=>by
  simp only[Loc,T.size]at h hj;obtain rfl:j=0:=by omega
  exact⟨[],by simpa using h.2.1⟩
 |.tup _,_,_,_,_,h,_=>by simp only[Loc]at h
theorem zNC:(xs:List T)→ ∀(p:List Nat)(i b o j:Nat),vF G w s xs p i b o→j<T.sizes xs→ ∃y,G.lb b (o+j)=some (false,s,y++p)
 | [],_,_,_,_,_,_,hj=>by simp[T.sizes]at hj
 |x::xs,p,i,b,o,j,h,hj=>by
  simp only[vF,T.sizes]at h hj
  by_cases hlt:j<x.size
  ·obtain⟨y,hy⟩:=zJr x (i::p) b o j h.1 hlt
   exact⟨y++[i],by simpa using hy⟩
  ·obtain⟨y,hy⟩:=zNC xs p (i+1) b (o+x.size) (j-x.size) h.2 (by omega)
   rw[show o+x.size+(j-x.size)=o+j from by omega]at hy;exact⟨y,hy⟩
end
mutual
theorem zQ2{G':Gh}{w':World}:(u u0:T)→ ∀(p:List Nat)(b o:Nat),vE u u0=true→(∀y,u.inT y.reverse=true→G'.ad s (y++p)=G.ad s (y++p))→
  (∀b o y,G.lb b o=some (false,s,y++p)→G'.lb b o=some (false,s,y++p))→(∀j v,(vals G' s u p)[j]? =some v→yP w' b (o+j)=some v)→Loc G w s u0 p b o→Loc G' w' s u p b o
 |.agg xs,.agg ys,p,b,o,h,ha,hl,hc,h0=>by
  simp only[Loc,vE]at h h0 ⊢
  refine⟨by have:=ha [] rfl;rw[Jj]at this;rw[this];exact h0.1,zND xs ys p 0 b o h (fun i x hx y hy=>?_) (fun b o y=>hl b o y) (fun j v hv=>hc j v (by simpa only[vals]using hv)) h0.2⟩;have:=ha (y++[i]) (by simp only[Hn,Lz,Ld,Jj,Jn,T.inT,hx];exact hy);simpa using this
 |.agg _,.any,_,_,_,h,_,_,_,_|.agg _,.lit _,_,_,_,h,_,_,_,_|.agg _,.ro _,_,_,_,h,_,_,_,_|.agg _,.same _ _,_,_,_,h,_,_,_,_|.agg _,.addr _ _,_,_,_,h,_,_,_,_|.agg _,.sub _ _ _ _ _,_,_,_,h,_,_,_,_|.agg _,.sl _ _,_,_,_,h,_,_,_,_|.agg _,.ptr _,_,_,_,h,_,_,_,_|.agg _,.tup _,_,_,_,h,_,_,_,_=>by simp[vE]at h
 |.tup _,_,_,_,_,h,_,_,_,_=>by simp[vE]at h
 |.any,u0,p,b,o,h,ha,hl,hc,h0|.lit _,u0,p,b,o,h,ha,hl,hc,h0|.ro _,u0,p,b,o,h,ha,hl,hc,h0|.same _ _,u0,p,b,o,h,ha,hl,hc,h0|.addr _ _,u0,p,b,o,h,ha,hl,hc,h0|.sub _ _ _ _ _,u0,p,b,o,h,ha,hl,hc,h0|.sl _ _,u0,p,b,o,h,ha,hl,hc,h0|.ptr _,u0,p,b,o,h,ha,hl,hc,h0=>by
  have h1:=vD (by cases u0<;>simp[vE]at h<;>rfl) h0;have h2:=ha [] rfl;rw[Jj]at h2;simp only[Loc];exact⟨h2.trans h1.1,by simpa using hl b o [] (by simpa using h1.2.1),by simpa using hc 0 (G'.hd s p) (by simp[vals])⟩
theorem zND{G':Gh}{w':World}:(xs ys:List T)→ ∀(p:List Nat)(j b o:Nat),jY xs ys=true→(∀i x,xs[i]? =some x→ ∀y,x.inT y.reverse=true→G'.ad s (y++((j+i)::p))=G.ad s (y++((j+i)::p)))→
  (∀b o y,G.lb b o=some (false,s,y++p)→G'.lb b o=some (false,s,y++p))→(∀i v,(yE G' s xs p j)[i]? =some v→yP w' b (o+i)=some v)→vF G w s ys p j b o→vF G' w' s xs p j b o
 | [],[],_,_,_,_,_,_,_,_,_=>by simp only[vF]
 |x::xs,y::ys,p,j,b,o,h,ha,hl,hc,h0=>by
  simp only[jY,J4,vF]at h h0 ⊢
  have hs:=zCi x y h.1;have hnt:∀zs,x≠.tup zs:=by rintro zs rfl;simp[vE]at h
  refine⟨zQ2 x y (j::p) b o h.1 (fun z hz=>by simpa using ha 0 x (by simp) z hz) (fun b o z hz=>by have:=hl b o (z++[j]) (by simpa using hz);simpa using this) (fun i v hv=>hc i v ?_) h0.1,
   zND xs ys p (j+1) b (o+x.size) h.2 (fun i z hz=>by have:=ha (i+1) z (by simpa using hz);rwa [show j+1+i=j+(i+1)from by omega]) hl (fun i v hv=>?_) (by rw[hs];exact h0.2)⟩
  ·simp only[yE]
   rw[Jl (Jb.1 hv).1];exact hv
  ·have:=hc (x.size+i) v (by
    simp only[yE];rw[J8 (by rw[wU x _ hnt];omega),wU x _ hnt,show x.size+i-x.size=i from by omega];exact hv)
   rwa [←Lr]at this
 | [],_::_,_,_,_,_,h,_,_,_,_=>by simp[jY]at h
 |_::_,[],_,_,_,_,h,_,_,_,_=>by simp[jY]at h
end
end
def zGg(p:yR)(q:List Nat)(s:Nat)(z:List Nat):Option (List Nat):=
 match p with
 |.slot s0 t=>if sM t&&s0==s then some (z++q)else none
 |.zero _=>none
def sHd(G:Gh)(p:yR)(y:List Nat):Value:=
 match p with
 |.slot s _=>G.hd s y
 |.zero u=>jO (zhd u y.reverse)
def sWr(r:Nat)(q:List Nat):yR→Wr
 |.slot s t=>if sM t then[(s,some (cpT r t q))]else[]
 |.zero _=>[]
def Gh.st(G:Gh)(r:Nat)(q:List Nat)(p:yR):Gh where
 hd s z:=if s=r∧q<:+z then sHd G p (z.take (z.length-q.length))else G.hd s z
 ad s z:=if s=r∧q<:+z∧p.tree.inT (z.take (z.length-q.length)).reverse=false then(match p with
  |.slot s0 _=>G.ad s0 (z.take (z.length-q.length))
  |.zero _=>default)else G.ad s z
 lb b o:=match G.lb b o with
  |some (fl,s,z)=>(match zGg p q s z with
   |some z'=>some (fl,r,z')
   |none=>some (fl,s,z))
  |none=>none
 ow b:=match G.ow b with
  |some (s,z)=>(match zGg p q s z with
   |some z'=>some (r,z')
   |none=>some (s,z))
  |none=>none
mutual
theorem zKx{Γ:Ctx}{G:Gh}{w:World}(hm:Mem Γ G w){s:Nat}:(t:T)→ ∀(p:List Nat)(v:Value),v∈vals G s t p→v.oneCell'=true
 |.agg xs,p,v,h=>by simp only[vals]at h;exact zCU hm xs p 0 v h
 |.any,p,v,h|.lit _,p,v,h|.ro _,p,v,h|.same _ _,p,v,h|.addr _ _,p,v,h|.sub _ _ _ _ _,p,v,h|.sl _ _,p,v,h|.ptr _,p,v,h|.tup _,p,v,h=>by
  simp only[vals,List.mem_singleton]at h;rw[h];exact hm.one s p
theorem zCU{Γ:Ctx}{G:Gh}{w:World}(hm:Mem Γ G w){s:Nat}:(xs:List T)→ ∀(p:List Nat)(j:Nat)(v:Value),v∈yE G s xs p j→v.oneCell'=true
 | [],_,_,_,h=>by simp[yE]at h
 |x::xs,p,j,v,h=>by
  simp only[yE,Jh]at h;rcases h with h|h
  ·exact zKx hm x _ v h
  ·exact zCU hm xs p _ v h
end
mutual
theorem zFf:(u:T)→u.zOk=true→ ∀v∈tK u,v.oneCell'=true
 |.lit v,h,x,hx=>by simp only[tK,List.mem_singleton]at hx;rw[hx];exact h
 |.sl _ _,_,x,hx=>by simp only[tK,List.mem_singleton]at hx;rw[hx];rfl
 |.agg xs,h,x,hx=>by simp only[T.zOk]at h;simp only[tK]at hx;exact zGI xs h x hx
 |.any,h,_,_|.ro _,h,_,_|.same _ _,h,_,_|.addr _ _,h,_,_|.sub _ _ _ _ _,h,_,_|.ptr _,h,_,_|.tup _,h,_,_=>by simp[T.zOk]at h
theorem zGI:(xs:List T)→zAh xs=true→ ∀v∈tZ xs,v.oneCell'=true
 | [],_,_,h=>by simp[tZ]at h
 |x::xs,h,v,hv=>by
  simp only[zAh,J4]at h;simp only[tZ,Jh]at hv;rcases hv with hv|hv
  ·exact zFf x h.1 v hv
  ·exact zGI xs h.2 v hv
end
theorem zKy(y q:List Nat):(y++q).take ((y++q).length-q.length)=y:=by simp
theorem zMp{Γ:Ctx}{G G':Gh}{w':World}{s d:Nat}{q:List Nat}{t:T}{v:Option Value}(hv:v=some (mkV G s t []))(hnt:∀xs,t≠.tup xs)(hs:∀p,G'.hd s p=G.hd s p)(hd':∀z,G'.hd d (z++q)=G.hd s z)
  (hr:R Γ.St G' w' d t q):Ent Γ G' w' v s (cpT d t q):=by
 have hz:∀z,G'.hd s (z++[])=G'.hd d (z++q):=fun z=>by rw[J9,hs,hd']
 refine⟨?_,?_,qN d t q⟩
 ·rw[hv,zAx (G:=G') (G':=G') t q [] hnt hz,kH G s t [] hnt,zB2 t [] q (fun z=>by rw[hd',J9])]
 ·exact zDD (G:=G') (G':=G') (fun _=>rfl) t q [] hz hnt (yW.triv (fun _ _=>⟨rfl,rfl⟩) _) hr
section
variable {P:Program}{Γ:Ctx}{E:Env}{o:Oper}
theorem jP:(f:List Nat)→ ∀(t u:T),yC t→yC u→yC (t.set f u)
 | [],t,u,_,hu=>by simpa[T.set]using hu
 |i::f,t,u,ht,hu=>by
  cases t with
  |sl k xs=>
   simp only[T.set];split
   ·rename_i x hx
    simp only[yC,yW]at ht ⊢
    exact sets_clean xs i _ ht (jP f x u (uN xs ht i x hx) hu)
   ·exact ht
  |agg xs=>
   simp only[T.set];split
   ·rename_i x hx
    simp only[yC,yW]at ht ⊢
    exact sets_clean xs i _ ht (jP f x u (uN xs ht i x hx) hu)
   ·exact ht
  |tup xs=>
   simp only[T.set];split
   ·rename_i x hx
    simp only[yC,yW]at ht ⊢
    exact sets_clean xs i _ ht (jP f x u (uN xs ht i x hx) hu)
   ·exact ht
  |ptr t=>
   simp only[T.set];split
   ·simp only[yC,yW]at ht ⊢
    exact jP f t u ht hu
   ·exact ht
  |_=>simpa only[T.set]using ht
where sets_clean:(xs:List T)→ ∀(i:Nat)(y:T),xI xs→yC y→xI (xs.set i y)
 | [],_,_,_,_=>by simp[xI,xU]
 |x::xs,0,y,h,hy=>by simp only[Ku,xI,xU]at h ⊢;exact⟨hy,h.2⟩
 |x::xs,i+1,y,h,hy=>by simp only[Lm,xI,xU]at h ⊢;exact⟨h.1,sets_clean xs i y h.2 hy⟩
theorem zFg(T':TypeId)(ti:TypeInfo)(x y:Operand)(r:Nat)(q:List Nat)(tr u0:T)(p:yR)(ho:o.op=.store T' x y)(hdst:o.dst=none)
  (hi:P.info? T'=some ti)(hsz:ti.size=p.tree.size)(hpos:0<ti.size)(hx:zAD Γ E x r q)(hr:E r=some tr)(hrs:tr.single=true)(hg:tr.get q.reverse=some u0)(hl:tr.locd q.reverse=true)
  (hsh:vE p.tree u0=true)(hy:kS E y p)(hps:tM E r [p]):
  wN P Γ o E (E.app ((r,some (tr.set q.reverse p.tree))::sWr r q p) ((r,q.length)::sN [p])):=by
 refine wN.skip hdst fun a w G hrep=>?_
 have hm:=hrep.mem;have hadr:=hx a w G hrep;obtain⟨e3,e4,e5⟩:=hrep.ent r _ hr;have hq0:q≠[]:=by rintro rfl;simp[T.locd]at hl
 obtain⟨i0,f0,hqr⟩:∃i f,q.reverse=i::f:=by
  cases h:q.reverse with
  |nil=>exact absurd (by simpa using h) hq0
  |cons i f=>exact⟨i,f,rfl⟩
 have htr:∀v:T,(tr.set q.reverse v).single=true∧yC tr:=by
  intro v;rw[hqr]at hg ⊢
  cases tr with
  |sl k xs=>exact⟨by simp only[T.set];split<;>rfl,by simpa only[Top,yC,yW]using e5⟩
  |ptr t=>exact⟨by simp only[T.set];split<;>rfl,by simpa only[Top,yC,yW]using e5⟩
  |agg xs=>simp[T.single]at hrs
  |tup xs=>simp[T.single]at hrs
  |_=>simp[T.get]at hg
 obtain⟨b,ob,cs,et,hloc,hblk,hfit⟩:=(zAw q.reverse tr u0 [] e4 hg).2 hl;simp only[rp,Ks,J9]at hloc;have hru0:=(zAw q.reverse tr u0 [] e4 hg).1;have had:=zB3 hloc;have hsu:=zCi _ _ hsh;have hc:=zAy hrep hps (by simp) hy;have hvs:(a.eval y).cells.size=p.tree.size:=by
  rw[←Ki,hc];cases p with
  |slot s t=>obtain⟨_,_,h3⟩:=hps.slot s t (by simp);exact wU t [] (by rintro xs rfl;simp[T.okTup]at h3)
  |zero u=>exact wX u (hps.zero u (by simp))
 have hone:∀v∈(a.eval y).cells.toList,v.oneCell'=true:=by
  rw[hc];intro v hv;cases p with
  |slot s t=>exact zKx hm t [] v hv
  |zero u=>exact zFf u (hps.zero u (by simp)) v hv
 generalize hw':w.setRow b (cs.toList.take ob++(a.eval y).cells.toList++cs.toList.drop (ob+(a.eval y).cells.toList.length)).toArray=w'
 have hnew:w'.heap[b]? =some (.cells (cs.toList.take ob++(a.eval y).cells.toList++cs.toList.drop (ob+(a.eval y).cells.toList.length)).toArray et (0,0)):=by
  rw[←hw'];exact setRow_heap w b cs _ et _ hblk
 have hold:∀b',b'≠b→w'.heap[b']? =w.heap[b']?:=fun b' h=>by rw[←hw'];exact setRow_other w b b' _ h
 have hsize:w'.heap.size=w.heap.size:=by rw[←hw'];exact size_setRow w b _
 have hcl:(a.eval y).cells.toList.length=u0.size:=by rw[Ki,hvs,hsu]
 have hcellb:∀k,yP w' b k=if ob≤k∧k<ob+u0.size then(qD G p)[k-ob]? else yP w b k:=by
  intro k;simp only[yP,World.cell?,hnew,hblk,Q4,Ga,if_false];rw[←hc,←hcl]at*
  rw[←K6,←K6 (xs:=cs)];simp only[];have hcs:cs.toList.length=cs.size:=Ki ..
  generalize (a.eval y).cells.toList=V at*
  by_cases h1:k<ob
  ·rw[if_neg (by omega),Ja,Jl (by simp;omega),Uh h1]
  ·by_cases h2:k<ob+V.length
   ·rw[if_pos ⟨by omega,h2⟩,Ja,J8 (by simp;omega),Jl (by simp;omega)]
    congr 1;simp;omega
   ·rw[if_neg (by omega),Ja,J8 (by simp;omega),J8 (by simp;omega),Kq]
    congr 1;simp;omega
 have hcellr:∀b' o' fl s z,G.lb b' o'=some (fl,s,z)→ ¬(s=r∧q<:+z)→yP w' b' o'=yP w b' o':=by
  intro b' o' fl s z h1 h2
  by_cases hb:b'=b
  ·subst hb
   rw[hcellb];split
   ·rename_i h3
    obtain⟨y',h4⟩:=zJr u0 q b' ob (o'-ob) hloc (by omega);rw[show ob+(o'-ob)=o' from by omega,h1]at h4;simp at h4;exact absurd ⟨h4.2.1,y',h4.2.2.symm⟩ h2
   ·rfl
  ·simp[yP,World.cell?,hold b' hb]
 have hblk':Blk w w':=by
  intro b' cs' e' h1
  by_cases hb:b'=b
  ·subst hb
   rw[hblk]at h1;simp at h1;obtain⟨rfl,rfl⟩:=h1;exact⟨_,hnew,by simp;have:cs.toList.length=cs.size:=Ki ..;omega⟩
  ·exact⟨cs',by rw[hold b' hb];exact h1,rfl⟩
 generalize hG':G.st r q p=G'
 have ghd:∀y',G'.hd r (y'++q)=sHd G p y':=fun y'=>by rw[←hG'];simp[Gh.st]
 have ghd':∀s z,¬(s=r∧q<:+z)→G'.hd s z=G.hd s z:=fun s z h=>by rw[←hG'];simp only[Gh.st];rw[if_neg h]
 have gad:∀s z,¬(s=r∧q<:+z)→G'.ad s z=G.ad s z:=fun s z h=>by rw[←hG'];simp only[Gh.st];rw[if_neg (fun h2=>h ⟨h2.1,h2.2.1⟩)]
 have gadf:∀y',p.tree.inT y'.reverse=true→G'.ad r (y'++q)=G.ad r (y'++q):=fun y' h=>by rw[←hG'];simp only[Gh.st,zKy];rw[if_neg (by simp[h])]
 have gadm:∀s0 t y',p=.slot s0 t→t.inT y'.reverse=false→G'.ad r (y'++q)=G.ad s0 y':=fun s0 t y' h1 h2=>by
  subst h1;rw[←hG'];simp only[Gh.st,zKy,yR.tree];rw[if_pos];simp[h2]
 have glb:∀b' o' fl s z,G.lb b' o'=some (fl,s,z)→zGg p q s z=none→G'.lb b' o'=some (fl,s,z):=fun b' o' fl s z h1 h2=>by rw[←hG'];simp[Gh.st,h1,h2]
 have glbm:∀b' o' fl s z z',G.lb b' o'=some (fl,s,z)→zGg p q s z=some z'→G'.lb b' o'=some (fl,r,z'):=fun b' o' fl s z z' h1 h2=>by rw[←hG'];simp[Gh.st,h1,h2]
 have gow:∀b' s z,G.ow b'=some (s,z)→zGg p q s z=none→G'.ow b'=some (s,z):=fun b' s z h1 h2=>by rw[←hG'];simp[Gh.st,h1,h2]
 have gowm:∀b' s z z',G.ow b'=some (s,z)→zGg p q s z=some z'→G'.ow b'=some (r,z'):=fun b' s z z' h1 h2=>by rw[←hG'];simp[Gh.st,h1,h2]
 have hphi:∀s z,(∀n,(s,n)∉(r,q.length)::sN [p])→zGg p q s z=none:=by
  intro s z h;cases p with
  |zero u=>rfl
  |slot s0 t=>
   simp only[zGg];rw[if_neg];intro h2;simp only[J4,beq_iff_eq]at h2;obtain⟨h3,rfl⟩:=h2;exact h 1 (by simp[sN,xR,h3])
 have hphir:∀z,zGg p q r z=none:=by
  intro z;cases p with
  |zero u=>rfl
  |slot s0 t=>
   simp only[zGg];rw[if_neg];intro h2;simp only[J4,beq_iff_eq]at h2;obtain⟨h3,rfl⟩:=h2;have:=(Lj.1 hps.dist).1;simp[xR,h3]at this
 have hoffq:∀s z,Off ((r,q.length)::sN [p]) s z→ ¬(s=r∧q<:+z):=by
  rintro s z h ⟨rfl,h2⟩
  have:=h q.length (by simp);have:=h2.length_le;omega
 have hkeep:qP ((r,q.length)::sN [p]) G w G' w':=by
  refine⟨fun s z h=>ghd' s z (hoffq s z h),fun s z h=>gad s z (hoffq s z h),fun b' o' fl s z _ h1 h2=>⟨glb b' o' fl s z h1 (hphi s z h2),hcellr b' o' fl s z h1 ?_⟩,fun b' s z h1 h2=>gow b' s z h1 (hphi s z h2),hblk'⟩
  rintro⟨rfl,_⟩
  exact h2 q.length (by simp)
 have hBb:zCd Γ w b:=by
  obtain⟨y',h4⟩:=zJr u0 q b ob 0 hloc (by omega);exact hm.lb _ _ _ h4
 have hmem:Mem Γ G' w':=by
  refine⟨fun s z=>?_,fun b' o' l hl=>?_,fun b' l hl=>?_,fun b' x' hx'=>?_,fun b' h1 h2=>?_,by rw[hsize];exact hm.sz,hm.bk.trans hblk' (by rw[←hw'];rfl) (by rw[←hw'];rfl)⟩
  ·by_cases h:s=r∧q<:+z
   ·obtain⟨rfl,y',rfl⟩:=h
    rw[ghd];unfold sHd;split
    ·exact hm.one _ _
    ·exact zBc _
   ·rw[ghd' s z h];exact hm.one s z
  ·have:∃l',G.lb b' o'=some l':=by
    rw[←hG']at hl;simp only[Gh.st]at hl;split at hl
    ·exact⟨_,by assumption⟩
    ·cases hl
   obtain⟨l',hl'⟩:=this;have:=hm.lb b' o' l' hl';exact⟨by rw[hsize];exact this.1,this.2⟩
  ·have:∃l',G.ow b'=some l':=by
    rw[←hG']at hl;simp only[Gh.st]at hl;split at hl
    ·exact⟨_,by assumption⟩
    ·cases hl
   obtain⟨l',hl'⟩:=this;have:=hm.ow b' l' hl';exact⟨by rw[hsize];exact this.1,this.2⟩
  ·have hb:b'≠b:=by rintro rfl;rw[hBb.2.2]at hx';cases hx'
   rw[hold b' hb];exact hm.st b' x' hx'
  ·have hb:b'≠b:=by
    rintro rfl
    rcases hBb.2.1 with h3|h3
    ·omega
    ·exact h2 h3
   rw[hold b' hb];exact hm.fr b' h1 h2
 have hupd:Upd G w G' w' r q:=by
  refine⟨fun z h=>ghd' r z (fun h2=>h h2.2),fun z h=>gad r z (fun h2=>h h2.2),fun b' o' fl z h1 h=>⟨glb b' o' fl r z h1 (hphir z),hcellr b' o' fl r z h1 (fun h2=>h h2.2)⟩,fun b' z h1 _=>gow b' r z h1 (hphir z),hblk'⟩
 have hru:R Γ.St G' w' r p.tree q:=by
  cases hp:p with
  |zero u=>
   refine zJp u q (hps.zero u (by simp[hp])) (fun z=>by rw[ghd];simp[sHd,hp])
  |slot s0 t=>
   obtain⟨h1,h2,h3⟩:=hps.slot s0 t (by simp[hp]);have hrt:=(hrep.ent s0 t h1).2.1
   by_cases hmv:sM t=true
   ·have hs0r:s0≠r:=by
     rintro rfl
     have:=(Lj.1 hps.dist).1;simp[hp,xR,hmv]at this
    refine zKu t [] q h3 ⟨fun z=>by rw[ghd,J9];simp[sHd,hp],fun z hz=>by rw[J9];exact gadm s0 t z hp hz,fun b' o' fl z _ h4=>?_,fun b' z h4=>?_,hblk'⟩ (yW.mono (fun _ _=>False.elim) t h2) hrt
    ·rw[J9]at h4
     exact⟨glbm b' o' fl s0 z _ h4 (by simp[zGg,hp,hmv]),hcellr b' o' fl s0 z h4 (fun h5=>hs0r h5.1)⟩
    ·rw[J9]at h4
     exact gowm b' s0 z _ h4 (by simp[zGg,hp,hmv])
   ·have hh:G'.hd r q=G.hd s0 []:=by have:=ghd [];rw[Jj]at this;rw[this];simp[sHd,hp]
    cases t<;>simp[sM]at hmv<;>simp only[R,yR.tree]at hrt ⊢ <;>rw[hh]<;>exact hrt
 have hvals:vals G' r p.tree q=qD G p:=by
  cases hp:p with
  |zero u=>exact zFd u q (hps.zero u (by simp[hp])) (fun z=>by rw[ghd];simp[sHd,hp])
  |slot s0 t=>exact zAC t [] q (fun z=>by rw[ghd];simp[sHd,hp])
 have hlocu:∀b' o',Loc G w r u0 q b' o'→Loc G' w' r p.tree q b' o':=by
  intro b' o' h1;have h2:b'=b∧o'=ob:=by
   have:=(zB3 h1).symm.trans had;simp at this;exact this
  obtain⟨rfl,rfl⟩:=h2;refine zQ2 p.tree u0 q b' o' hsh (fun y' h=>gadf y' h) (fun b2 o2 y' h=>glb b2 o2 false r _ h (hphir _)) (fun j v hv=>?_) h1;rw[hvals]at hv;have hj:=(Jb.1 hv).1;have hpl:(qD G p).length=u0.size:=by rw[←hc,hcl]
  rw[hcellb,if_pos ⟨by omega,by omega⟩,show o'+j-o'=j from by omega];exact hv
 have hrset:R Γ.St G' w' r (tr.set q.reverse p.tree) []:=by
  have hrp:rp q.reverse []=q:=by simp[rp]
  refine zFH q.reverse tr p.tree u0 [] (by rw[hrp];exact hupd) e4 hg hsu (yW.mono (fun _ _=>False.elim) tr (htr .any).2) (by rw[hrp];exact hlocu) (by rw[hrp];exact hru)
 have hst:=run_storeCells_at P b ob et (a.eval y).cells.toList 0 cs w hblk (by omega) hone;simp only[Gf]at hst;rw[hw']at hst;refine⟨w',?_,G',vG hrep rfl hkeep hmem ?_ ?_⟩
 ·have hszv:(a.eval y).cells.size=ti.size:=by rw[hvs,hsz]
  simp[execOp,ho,hadr,had,Instr.storeAt,tV,storeVar,sizeOf,typeInfo,hi,hszv,hst]
 ·intro s hs
  simp only[Wr.find]at hs;split at hs
  ·cases hs
  ·rename_i hne
   refine⟨fun n hn=>?_,rfl⟩;simp only[Jc,Jb2.injEq]at hn;rcases hn with⟨h1,_⟩|hn
   ·exact hne h1.symm
   ·cases p with
    |zero u=>simp[sN,xR]at hn
    |slot s0 t=>
     by_cases hmv:sM t=true
     ·simp[sN,xR,hmv]at hn
      simp[sWr,hmv,Wr.find,hn.1.symm]at hs
     ·simp[sN,xR,hmv]at hn
 ·intro s t hs
  simp only[Wr.find]at hs;split at hs
  ·rename_i he
   subst he;simp at hs;subst hs;refine⟨?_,hrset,Top.of_clean _ (jP _ _ _ (htr .any).2 ?_)⟩
   ·rw[e3,xP (htr p.tree).1,xP hrs]
    congr 1
    exact(ghd' r [] (fun h=>hq0 (by simpa using h.2))).symm
   ·cases p with
    |zero u=>exact(zBd u (hps.zero u (by simp))).1
    |slot s0 t=>exact(hps.slot s0 t (by simp)).2.1
  ·rename_i hne
   cases hp:p with
   |zero u=>simp[sWr,hp,Wr.find]at hs
   |slot s0 t0=>
    by_cases hmv:sM t0=true
    ·simp only[sWr,hp,hmv,if_true,Wr.find]at hs
     split at hs
     ·rename_i he
      subst he;simp at hs;subst hs;obtain⟨h1,h2,h3⟩:=hps.slot s0 t0 (by simp[hp]);refine zMp (G:=G) (hrep.ent s0 t0 h1).1 (by rintro xs rfl;simp[T.okTup]at h3) (fun z=>ghd' s0 z (fun h=>hne h.1.symm)) (fun z=>by rw[ghd];simp[sHd,hp]) (by rw[hp]at hru;exact hru)
     ·cases hs
    ·simp[sWr,hp,hmv,Wr.find]at hs
theorem zKz(T':TypeId)(ti:TypeInfo)(x y:Operand)(r:Nat)(q:List Nat)(tr u0:T)(p:yR)(ho:o.op=.store T' x y)(hdst:o.dst=none)
  (hi:P.info? T'=some ti)(hsz:ti.size=p.tree.size)(hpos:0<ti.size)(hx:opT E x=some (.addr r q))(hr:E r=some tr)(hrs:tr.single=true)(hg:tr.get q.reverse=some u0)(hl:tr.locd q.reverse=true)
  (hsh:vE p.tree u0=true)(hy:kS E y p)(hps:tM E r [p]):
  wN P Γ o E (E.app ((r,some (tr.set q.reverse p.tree))::sWr r q p) ((r,q.length)::sN [p])):=
 zFg T' ti x y r q tr u0 p ho hdst hi hsz hpos (zAD.addr hx) hr hrs hg hl hsh hy hps
end
end Go.Ab

namespace Go.Ab
open Go
section
variable {G G':Gh}{s:Nat}
theorem zMq(xs:List T):∀(p:List Nat)(j:Nat),(∀k,j≤k→ ∀z,G'.hd s (z++(k::p))=G.hd s (z++(k::p)))→yE G' s xs p j=yE G s xs p j:=by
 induction xs with
 |nil=>intros;simp only[yE]
 |cons z zs ih=>
  intro p j h;simp only[yE];rw[zAC z (j::p) (j::p) (h j (Jp _)),ih p (j+1) (fun k hk=>h k (by omega))]
theorem zPa(xs:List T):∀(p:List Nat)(j i:Nat)(x y:T),xs[i]? =some x→(∀k,k≠j+i→ ∀z,G'.hd s (z++(k::p))=G.hd s (z++(k::p)))→
  vals G' s y ((j+i)::p)=vals G s x ((j+i)::p)→yE G' s (xs.set i y) p j=yE G s xs p j:=by
 induction xs with
 |nil=>intro p j i x y h;simp at h
 |cons z zs ih=>
  intro p j i x y h hz hy;cases i with
  |zero=>
   simp at h;subst h;simp only[Ku,yE];rw[show vals G' s y (j::p)=vals G s z (j::p)from by simpa using hy]
   congr 1
   exact zMq zs p (j+1) (fun k hk=>hz k (by omega))
  |succ i=>
   simp only[Lm,yE];rw[zAC z (j::p) (j::p) (hz j (by omega)),ih p (j+1) i x y (by simpa using h) (fun k hk=>hz k (by omega)) (by rwa [show j+1+i=j+(i+1)from by omega])]
theorem zK0:(f:List Nat)→ ∀(t u u0:T)(p:List Nat),t.get f=some u0→u0.single=true→u.single=true→(∀z,(rp f p<:+z→z=rp f p)→G'.hd s z=G.hd s z)→vals G' s (t.set f u) p=vals G s t p
 | [],t,u,u0,p,hg,h0,h1,hh=>by
  simp[T.get]at hg;subst hg;have:G'.hd s p=G.hd s p:=hh p (by simp[rp]);simp only[T.set];cases t<;>simp[T.single]at h0<;>cases u<;>simp[T.single]at h1<;>simp[vals,this]
 |i::f,t,u,u0,p,hg,h0,h1,hh=>by
  rw[zAB]at hh;have hp:G'.hd s p=G.hd s p:=hh p (fun h=>absurd h jX);cases t with
  |agg xs=>
   simp only[T.get]at hg;cases hx:xs[i]? with
   |none=>simp[hx]at hg
   |some x=>
    rw[hx]at hg;simp only[T.set,hx,vals];refine zPa xs p 0 i x _ hx (fun k hk z=>hh _ (fun h=>absurd h (jM (by omega) z))) ?_;rw[Je];exact zK0 f x u u0 (i::p) hg h0 h1 hh
  |tup xs=>
   simp only[T.get]at hg;cases hx:xs[i]? with
   |none=>simp[hx]at hg
   |some x=>simp[T.set,hx,vals,hp]
  |sl k xs=>simp only[T.set];split<;>simp[vals,hp]
  |ptr t=>simp only[T.set];split<;>simp[vals,hp]
  |_=>simp[T.get]at hg
theorem zK1(f:List Nat)(t u u0:T)(p:List Nat)(hg:t.get f=some u0)(h0:u0.single=true)(h1:u.single=true)(hh:∀z,(rp f p<:+z→z=rp f p)→G'.hd s z=G.hd s z)(hnt:∀xs,t≠.tup xs):
  tY G' s (t.set f u) p=tY G s t p:=by
 have h:=zK0 f t u u0 p hg h0 h1 hh;cases f with
 |nil=>
  simp[T.get]at hg;subst hg;have:G'.hd s p=G.hd s p:=hh p (by simp[rp]);simp only[T.set];cases t<;>simp[T.single]at h0<;>cases u<;>simp[T.single]at h1<;>simp[tY,this]
 |cons i f=>
  rw[zAB]at hh;have hp:G'.hd s p=G.hd s p:=hh p (fun h=>absurd h jX);cases t with
  |agg xs=>
   simp only[T.get]at hg;cases hx:xs[i]? with
   |none=>simp[hx]at hg
   |some x=>simp only[T.set,hx,vals]at h ⊢;simp only[tY,h]
  |tup xs=>exact absurd rfl (hnt xs)
  |sl k xs=>simp only[T.set];split<;>simp[tY,hp]
  |ptr t=>simp only[T.set];split<;>simp[tY,hp]
  |_=>simp[T.get]at hg
theorem zPb(xs:List T):∀(p:List Nat)(j:Nat),(∀k,j≤k→ ∀z,G'.hd s (z++(k::p))=G.hd s (z++(k::p)))→qW G' s xs p j=qW G s xs p j:=by
 induction xs with
 |nil=>intros;simp only[qW]
 |cons z zs ih=>
  intro p j h;simp only[qW];rw[zB2 z (j::p) (j::p) (h j (Jp _)),ih p (j+1) (fun k hk=>h k (by omega))]
theorem zQ3(xs:List T):∀(p:List Nat)(j i:Nat)(x y:T),xs[i]? =some x→(∀k,k≠j+i→ ∀z,G'.hd s (z++(k::p))=G.hd s (z++(k::p)))→
  tY G' s y ((j+i)::p)=tY G s x ((j+i)::p)→qW G' s (xs.set i y) p j=qW G s xs p j:=by
 induction xs with
 |nil=>intro p j i x y h;simp at h
 |cons z zs ih=>
  intro p j i x y h hz hy;cases i with
  |zero=>
   simp at h;subst h;simp only[Ku,qW];rw[show tY G' s y (j::p)=tY G s z (j::p)from by simpa using hy]
   congr 1
   exact zPb zs p (j+1) (fun k hk=>hz k (by omega))
  |succ i=>
   simp only[Lm,qW];rw[zB2 z (j::p) (j::p) (hz j (by omega)),ih p (j+1) i x y (by simpa using h) (fun k hk=>hz k (by omega)) (by rwa [show j+1+i=j+(i+1)from by omega])]
def xN:T→Bool
 |.tup xs=>xs.all fun x=>match x with
  |.tup _=>false
  |_=>true
 |_=>true
theorem zJs(f:List Nat)(t u u0:T)(p:List Nat)(hg:t.get f=some u0)(h0:u0.single=true)(h1:u.single=true)(hh:∀z,(rp f p<:+z→z=rp f p)→G'.hd s z=G.hd s z)(hcomp:xN t=true):
  mkV G' s (t.set f u) p=mkV G s t p:=by
 by_cases ht:∃xs,t=.tup xs
 ·obtain⟨xs,rfl⟩:=ht
  cases f with
  |nil=>simp[T.get]at hg;subst hg;simp[T.single]at h0
  |cons i f=>
   rw[zAB]at hh;simp only[T.get]at hg;cases hx:xs[i]? with
   |none=>simp[hx]at hg
   |some x=>
    rw[hx]at hg;simp only[T.set,hx,mkV];rw[zQ3 xs p 0 i x _ hx (fun k hk z=>hh _ (fun h=>absurd h (jM (by omega) z)))];rw[Je];refine zK1 f x u u0 (i::p) hg h0 h1 hh ?_
    rintro ys rfl
    simp only[xN]at hcomp;have:=Kg.1 hcomp _ (Kf hx);simp at this
 ·have hnt:∀xs,t≠.tup xs:=fun xs e=>ht ⟨xs,e⟩
  rw[kH G s t p hnt,←zK1 f t u u0 p hg h0 h1 hh hnt];refine kH G' s _ p ?_
  rintro xs hxs
  cases f with
  |nil=>simp[T.get]at hg;subst hg;simp only[T.set]at hxs;subst hxs;simp[T.single]at h1
  |cons i f=>cases t<;>simp only[T.set]at hxs<;>first|exact absurd rfl (hnt _)|(split at hxs<;>cases hxs)|cases hxs
end
theorem zEs:(f:List Nat)→ ∀(t u:T),Top t→yC u→Top (t.set f u)
 | [],t,u,_,hu=>by simpa[T.set]using Top.of_clean u hu
 |i::f,t,u,ht,hu=>by
  cases t with
  |sl k xs=>
   refine Top.of_clean _ (jP (i::f) _ u (by simpa only[Top,yC,yW]using ht) hu)
  |ptr t=>exact Top.of_clean _ (jP (i::f) _ u (by simpa only[Top,yC,yW]using ht) hu)
  |agg xs=>
   simp only[T.set];split
   ·rename_i x hx
    simp only[Top]at ht ⊢
    exact tops_set xs i _ ht (zEs f x u (tops_get xs ht i x hx) hu)
   ·exact ht
  |tup xs=>
   simp only[T.set];split
   ·rename_i x hx
    simp only[Top]at ht ⊢
    exact tops_set xs i _ ht (zEs f x u (tops_get xs ht i x hx) hu)
   ·exact ht
  |_=>simpa only[T.set]using ht
where
 tops_set:(xs:List T)→ ∀(i:Nat)(y:T),vM xs→Top y→vM (xs.set i y)
  | [],_,_,_,_=>by simp[vM]
  |x::xs,0,y,h,hy=>by simp only[Ku,vM]at h ⊢;exact⟨hy,h.2⟩
  |x::xs,i+1,y,h,hy=>by simp only[Lm,vM]at h ⊢;exact⟨h.1,tops_set xs i y h.2 hy⟩
 tops_get:(xs:List T)→vM xs→ ∀(i:Nat)(x:T),xs[i]? =some x→Top x
  | [],_,_,_,h=>by simp at h
  |y::ys,hk,i,x,h=>by
   simp only[vM]at hk;cases i with
   |zero=>simp at h;subst h;exact hk.1
   |succ i=>exact tops_get ys hk.2 i x (by simpa using h)
def Gh.tr(G:Gh)(d:Nat)(g:List Nat)(r:Nat)(p:List Nat):Gh where
 hd s z:=if s=d∧g<:+z then G.hd r (z.take (z.length-g.length)++p)else G.hd s z
 ad s z:=if s=d∧g<:+z∧z≠g then G.ad r (z.take (z.length-g.length)++p)else G.ad s z
 lb b o:=match G.lb b o with
  |some (fl,s,z)=>if s=r∧p<:+z∧(fl=true∨z≠p)then some (fl,d,z.take (z.length-p.length)++g)else some (fl,s,z)
  |none=>none
 ow b:=match G.ow b with
  |some (s,z)=>if s=r∧p<:+z then some (d,z.take (z.length-p.length)++g)else some (s,z)
  |none=>none
theorem zFL{t:T}(h:t.single=true):t.size=1:=by cases t<;>simp[T.single]at h<;>simp[T.size]
theorem zDJ{Γ:Ctx}{E:Env}{G:Gh}{tmps:Array Value}{w:World}(hrep:Rep Γ E G tmps w)(d:Nat)(g:List Nat)(r:Nat)(p:List Nat)(td tr u v0:T)(hd:E d=some td)(hg:td.get g.reverse=some v0)(hv0:v0.single=true)(hsame:G.hd d g=G.hd r p)(hr:E r=some tr)
  (hp:tr.get p.reverse=some u)(hu:u.single=true)(huc:yC u)(hdr:d≠r)(hok1:td.okB [(d,g.length+1),(r,p.length+1)]=true)(hok2:tr.okB [(d,g.length+1),(r,p.length+1)]=true)(hc1:xN td=true)(hc2:xN tr=true):
  Rep Γ (E.app [(d,some (td.set g.reverse u)),(r,some (if p=[]then .same d g else tr.set p.reverse .any))] [(d,g.length+1),(r,p.length+1)]) (G.tr d g r p) tmps w∧ ∀s z,¬(s=d∧g<:+z∧z≠g)→(G.tr d g r p).hd s z=G.hd s z:=by
 obtain⟨d1,d2,d3⟩:=hrep.ent d td hd;obtain⟨r1,r2,r3⟩:=hrep.ent r tr hr;have hm:=hrep.mem;have hru:=(zAw p.reverse tr u [] r2 hp).1;simp only[rp,Ks,J9]at hru;have hblk:Blk w w:=fun b cs e' h=>⟨cs,h,rfl⟩
 generalize hG':G.tr d g r p=G'
 have ghd:∀z,G'.hd d (z++g)=G.hd r (z++p):=fun z=>by rw[←hG'];simp[Gh.tr]
 have ghd0:∀s z,¬(s=d∧g<:+z∧z≠g)→G'.hd s z=G.hd s z:=by
  intro s z h;rw[←hG'];simp only[Gh.tr]
  by_cases h2:s=d∧g<:+z
  ·have h3:z=g:=by
    rcases Decidable.em (z=g)with e|e
    ·exact e
    ·exact absurd ⟨h2.1,h2.2,e⟩ h
   subst h3;rw[if_pos h2,h2.1];simpa using hsame.symm
  ·rw[if_neg h2]
 have gad0:∀s z,¬(s=d∧g<:+z∧z≠g)→G'.ad s z=G.ad s z:=fun s z h=>by rw[←hG'];simp only[Gh.tr];rw[if_neg h]
 have gad:∀z,z≠[]→G'.ad d (z++g)=G.ad r (z++p):=fun z h=>by rw[←hG'];simp only[Gh.tr];rw[if_pos (by simpa using h)];simp
 have glb0:∀b o fl s z,G.lb b o=some (fl,s,z)→ ¬(s=r∧p<:+z∧(fl=true∨z≠p))→G'.lb b o=some (fl,s,z):=fun b o fl s z h1 h2=>by
  rw[←hG'];simp only[Gh.tr,h1];rw[if_neg h2]
 have glb:∀b o fl z,G.lb b o=some (fl,r,z++p)→(fl=true∨z≠[])→G'.lb b o=some (fl,d,z++g):=fun b o fl z h1 h2=>by
  rw[←hG'];simp only[Gh.tr,h1];rw[if_pos (by simpa using h2)];simp
 have gow0:∀b s z,G.ow b=some (s,z)→ ¬(s=r∧p<:+z)→G'.ow b=some (s,z):=fun b s z h1 h2=>by
  rw[←hG'];simp only[Gh.tr,h1];rw[if_neg h2]
 have gow:∀b z,G.ow b=some (r,z++p)→G'.ow b=some (d,z++g):=fun b z h1=>by
  rw[←hG'];simp only[Gh.tr,h1];rw[if_pos (by simp)];simp
 have hoff:∀s z,Off [(d,g.length+1),(r,p.length+1)] s z→ ¬(s=d∧g<:+z∧z≠g):=by
  rintro s z h ⟨rfl,⟨y,rfl⟩,h3⟩
  have:=h (g.length+1) (by simp);have:y=[]:=Kb (by simp at this;omega);exact h3 (by simp[this])
 have hkeep:qP [(d,g.length+1),(r,p.length+1)] G w G' w:=by
  refine⟨fun s z h=>ghd0 s z (hoff s z h),fun s z h=>gad0 s z (hoff s z h),fun b o fl s z _ h1 h2=>⟨glb0 b o fl s z h1 ?_,rfl⟩,fun b s z h1 h2=>gow0 b s z h1 ?_,hblk⟩
  ·rintro⟨rfl,_⟩;exact h2 (p.length+1) (by simp)
  ·rintro⟨rfl,_⟩;exact h2 (p.length+1) (by simp)
 have hmem:Mem Γ G' w:=by
  refine⟨fun s z=>?_,fun b o l hl=>?_,fun b l hl=>?_,hm.st,hm.fr,hm.sz,hm.bk⟩
  ·rw[←hG']
   simp only[Gh.tr];split
   ·exact hm.one _ _
   ·exact hm.one _ _
  ·have:∃l',G.lb b o=some l':=by
    rw[←hG']at hl;simp only[Gh.tr]at hl;split at hl
    ·exact⟨_,by assumption⟩
    ·cases hl
   obtain⟨l',hl'⟩:=this;exact hm.lb b o l' hl'
  ·have:∃l',G.ow b=some l':=by
    rw[←hG']at hl;simp only[Gh.tr]at hl;split at hl
    ·exact⟨_,by assumption⟩
    ·cases hl
   obtain⟨l',hl'⟩:=this;exact hm.ow b l' hl'
 have hrp:∀q:List Nat,rp q.reverse []=q:=fun q=>by simp[rp]
 have hud:R Γ.St G' w d u g:=by
  refine zAe (G:=G) (w:=w) (s:=r) (p:=p) ⟨⟨ghd,gad,fun b o f z hz _ hl=>⟨glb b o f z hl (.inr hz),rfl⟩,fun b z _ hl=>gow b z hl,hblk⟩,fun b o _ hl=>⟨by simpa using glb b o true [] (by simpa using hl) (.inl rfl),rfl⟩,fun b hl=>by simpa using gow b [] (by simpa using hl)⟩ u
   (yW.mono (fun _ _=>False.elim) u huc) hru
 have hupdd:Upd G w G' w d g:=⟨fun z h=>ghd0 d z (fun h2=>h h2.2.1),fun z h=>gad0 d z (fun h2=>h h2.2.1),fun b o f z h1 _=>⟨glb0 b o f d z h1 (fun h2=>hdr h2.1),rfl⟩,fun b z h1 _=>gow0 b d z h1 (fun h2=>hdr h2.1),hblk⟩;have hlocd:∀b o,Loc G w d v0 g b o→Loc G' w d u g b o:=by
  intro b o h1;obtain⟨h2,h3,h4⟩:=vD hv0 h1;have h5:G'.ad d g=⟨b,o,none⟩∧G'.lb b o=some (false,d,g)∧yP w b o=some (G'.hd d g):=⟨(gad0 d g (fun h=>h.2.2 rfl)).trans h2,glb0 b o false d g h3 (fun h=>hdr h.1),by rw[h4,ghd0 d g (fun h=>h.2.2 rfl)]⟩;cases u<;>simp[T.single]at hu<;>simpa only[Loc]using h5
 have hRd:R Γ.St G' w d (td.set g.reverse u) []:=
  zFH g.reverse td u v0 [] (by rw[hrp];exact hupdd) d2 hg (by rw[zFL hv0,zFL hu]) (hkeep.keepR (zAf td d3 hok1)) (by rw[hrp];exact hlocd) (by rw[hrp];exact hud)
 have hVd:mkV G' d (td.set g.reverse u) []=mkV G d td []:=
  zJs g.reverse td u v0 [] hg hv0 hu (fun z hz=>ghd0 d z (fun h2=>h2.2.2 (by rw[hrp]at hz;exact hz h2.2.1))) hc1
 have hRr:p≠[]→R Γ.St G' w r (tr.set p.reverse .any) []:=by
  intro hp0;refine zFH p.reverse tr .any u [] (by rw[hrp];exact⟨fun z _=>ghd0 r z (fun h2=>hdr h2.1.symm),fun z _=>gad0 r z (fun h2=>hdr h2.1.symm),fun b o f z h1 h=>⟨glb0 b o f r z h1 (fun h2=>h h2.2.1),rfl⟩,fun b z h1 h=>gow0 b r z h1 (fun h2=>h h2.2),hblk⟩) r2 hp (by cases u<;>simp[T.single]at hu<;>simp[T.size]) (hkeep.keepR (zAf tr r3 hok2)) ?_ (by simp only[R]);rw[hrp];intro b o h1;obtain⟨h2,h3,h4⟩:=vD hu h1;simp only[Loc];exact⟨(gad0 r p (fun h=>hdr h.1.symm)).trans h2,glb0 b o false r p h3 (by simp),by rw[h4,ghd0 r p (fun h=>hdr h.1.symm)]⟩
 have hVr:p≠[]→mkV G' r (tr.set p.reverse .any) []=mkV G r tr []:=fun _=>
  zJs p.reverse tr .any u [] hp hu rfl (fun z _=>ghd0 r z (fun h2=>hdr h2.1.symm)) hc2
 refine⟨vG hrep rfl hkeep hmem ?_ ?_,ghd0⟩
 ·intro s hs
  simp only[Wr.find]at hs;split at hs
  ·cases hs
  ·rename_i h1
   split at hs
   ·cases hs
   ·rename_i h2
    refine⟨fun n hn=>?_,rfl⟩;simp only[Jc,Jb2.injEq,Jb7,or_false]at hn;rcases hn with⟨e,_⟩|⟨e,_⟩
    ·exact h1 e.symm
    ·exact h2 e.symm
 ·intro s t hs
  simp only[Wr.find]at hs;split at hs
  ·rename_i he
   subst he;simp at hs;subst hs;exact⟨by rw[d1,hVd],hRd,zEs _ _ _ d3 huc⟩
  ·split at hs
   ·rename_i he
    subst he;simp at hs
    by_cases hp0:p=[]
    ·rw[if_pos hp0]at hs
     subst hs;subst hp0;simp[T.get]at hp;subst hp;refine⟨?_,?_,by simp[Top]⟩
     ·rw[r1,xP hu,xP rfl,ghd0 r [] (fun h=>hdr h.1.symm)]
     ·simp only[R]
      rw[ghd0 r [] (fun h=>hdr h.1.symm)];have:=ghd [];simpa using this.symm
    ·rw[if_neg hp0]at hs
     subst hs;exact⟨by rw[r1,hVr hp0],hRr hp0,zEs _ _ _ r3 (by simp[yC,yW])⟩
   ·cases hs
theorem zMr{Γ:Ctx}{E:Env}{a:Act}{w:World}(h:Sim Γ E a w)(d:Nat)(g:List Nat)(r:Nat)(p:List Nat)(td tr u:T)(hd:E d=some td)(hg:td.get g.reverse=some (.same r p))(hr:E r=some tr)
  (hp:tr.get p.reverse=some u)(hu:u.single=true)(huc:yC u)(hdr:d≠r)(hok1:td.okB [(d,g.length+1),(r,p.length+1)]=true)(hok2:tr.okB [(d,g.length+1),(r,p.length+1)]=true)(hc1:xN td=true)(hc2:xN tr=true):
  Sim Γ (E.app [(d,some (td.set g.reverse u)),(r,some (if p=[]then .same d g else tr.set p.reverse .any))] [(d,g.length+1),(r,p.length+1)]) a w:=by
 obtain⟨hdf,G,hrep⟩:=h;have hsame:=(zAw g.reverse td _ [] (hrep.ent d td hd).2.1 hg).1;simp only[rp,Ks,J9,R]at hsame;exact⟨hdf,_,(zDJ hrep d g r p td tr u _ hd hg rfl hsame hr hp hu huc hdr hok1 hok2 hc1 hc2).1⟩
end Go.Ab

namespace Go.Ab
open Go
theorem zJt{St:Stb}{G:Gh}{w:World}{s:Nat}{k:Nat}:(xs:List T)→ ∀(p:List Nat)(j b o:Nat),(∀i x,xs[i]? =some x→Loc G w s x ((j+i)::p) b (o+i*k)∧x.size=k∧R St G w s x ((j+i)::p))→RL St G w s xs p j b o k
 | [],_,_,_,_,_=>by simp only[RL]
 |x::xs,p,j,b,o,h=>by
  obtain⟨h1,h2,h3⟩:=h 0 x (by simp);simp only[RL];refine⟨⟨by simpa using h1,h2⟩,by simpa using h3,zJt xs p (j+1) b (o+k) (fun i y hy=>?_)⟩;have:=h (i+1) y (by simpa using hy)
  rwa [show j+(i+1)=j+1+i from by omega,show o+(i+1)*k=o+k+i*k from by rw[K5];omega]at this
theorem zAz{St:Stb}{G:Gh}{w:World}{s:Nat}{k:Nat}:(xs:List T)→ ∀(p:List Nat)(j b o:Nat),RL St G w s xs p j b o k→vF G w s xs p j b o
 | [],_,_,_,_,_=>by simp only[vF]
 |x::xs,p,j,b,o,h=>by
  simp only[RL]at h;simp only[vF];exact⟨h.1.1,zAz xs p (j+1) b (o+x.size) (by rw[h.1.2];exact h.2.2)⟩
theorem zBg{St:Stb}{G:Gh}{w:World}{s:Nat}{k:Nat}:(xs:List T)→ ∀(p:List Nat)(j b o:Nat),RL St G w s xs p j b o k→RF St G w s xs p j∧ ∀x∈xs,x.size=k
 | [],_,_,_,_,_=>by simp[RF]
 |x::xs,p,j,b,o,h=>by
  simp only[RL]at h;obtain⟨h1,h2⟩:=zBg xs p (j+1) b (o+k) h.2.2;exact⟨by simp only[RF];exact⟨h.2.1,h1⟩,fun y hy=>by rcases Jc.1 hy with rfl|hy;exact h.1.2;exact h2 y hy⟩
section
variable {G:Gh}{w:World}{G':Gh}{w':World}{s s':Nat}
mutual
theorem zGJ:(t:T)→ ∀(p p':List Nat)(b o:Nat),(∀z,G'.hd s' (z++p')=G.hd s (z++p))→(∀z,G'.ad s' (z++p')=G.ad s (z++p))→
  (∀b o z,G.lb b o=some (false,s,z++p)→G'.lb b o=some (false,s',z++p')∧yP w' b o=yP w b o)→Loc G w s t p b o→Loc G' w' s' t p' b o
 |.agg xs,p,p',b,o,hh,ha,hl,h=>by
  simp only[Loc]at h ⊢
  exact⟨by have:=ha [];simp at this;rw[this];exact h.1,zI2 xs p p' 0 b o hh ha hl h.2⟩
 |.any,p,p',b,o,hh,ha,hl,h|.lit _,p,p',b,o,hh,ha,hl,h|.ro _,p,p',b,o,hh,ha,hl,h|.same _ _,p,p',b,o,hh,ha,hl,h|.addr _ _,p,p',b,o,hh,ha,hl,h|.sub _ _ _ _ _,p,p',b,o,hh,ha,hl,h|.sl _ _,p,p',b,o,hh,ha,hl,h|.ptr _,p,p',b,o,hh,ha,hl,h=>by
  simp only[Loc]at h ⊢
  have h1:=hl b o [] (by simpa using h.2.1);have h2:=ha [];have h3:=hh [];simp only[Jj]at h1 h2 h3;exact⟨h2.trans h.1,h1.1,by rw[h1.2,h.2.2,h3]⟩
 |.tup _,_,_,_,_,_,_,_,h=>by simp only[Loc]at h
theorem zI2:(xs:List T)→ ∀(p p':List Nat)(j b o:Nat),(∀z,G'.hd s' (z++p')=G.hd s (z++p))→(∀z,G'.ad s' (z++p')=G.ad s (z++p))→
  (∀b o z,G.lb b o=some (false,s,z++p)→G'.lb b o=some (false,s',z++p')∧yP w' b o=yP w b o)→vF G w s xs p j b o→vF G' w' s' xs p' j b o
 | [],_,_,_,_,_,_,_,_,_=>by simp only[vF]
 |x::xs,p,p',j,b,o,hh,ha,hl,h=>by
  simp only[vF]at h ⊢
  exact⟨zGJ x (j::p) (j::p') b o (fun z=>by have:=hh (z++[j]);simpa using this) (fun z=>by have:=ha (z++[j]);simpa using this) (fun b o z hz=>by have:=hl b o (z++[j]) (by simpa using hz);simpa using this) h.1,
   zI2 xs p p' (j+1) b _ hh ha hl h.2⟩
end
end
theorem zEt(G:Gh)(s:Nat):∀(xs us:List T)(p:List Nat)(j:Nat),yE G s (xs++us) p j=yE G s xs p j++yE G s us p (j+xs.length)
 | [],us,p,j=>by simp[yE]
 |x::xs,us,p,j=>by simp[yE,zEt G s xs us p (j+1),Lr,Jcw 1]
theorem zEu:∀(xs us:List T),T.sizes (xs++us)=T.sizes xs+T.sizes us
 | [],us=>by simp[T.sizes]
 |x::xs,us=>by simp[T.sizes,zEu xs us,Lr]
theorem zDz:∀(xs us:List T),yS xs=true→yS us=true→yS (xs++us)=true
 | [],us,_,h=>h
 |x::xs,us,h,h'=>by
  simp only[yS,J4,Jn]at h ⊢
  exact⟨h.1,zDz xs us h.2 h'⟩
theorem zD0:∀(xs us:List T),xI xs→xI us→xI (xs++us)
 | [],us,_,h=>h
 |x::xs,us,h,h'=>by
  simp only[xI,xU,Jn]at h ⊢
  exact⟨h.1,zD0 xs us h.2 h'⟩
theorem jZ{St:Stb}{G:Gh}{w:World}{s:Nat}{k:Nat}:(xs:List T)→ ∀(p:List Nat)(j b o:Nat),vF G w s xs p j b o→yS xs=true
 | [],_,_,_,_,_=>rfl
 |x::xs,p,j,b,o,h=>by
  simp only[vF]at h;simp only[yS,J4];exact⟨one x (j::p) b o h.1,jZ (St:=St) (k:=k) xs p (j+1) b _ h.2⟩
where
 one:(t:T)→ ∀(p:List Nat)(b o:Nat),Loc G w s t p b o→t.okTup=true
  |.agg xs,p,b,o,h=>by simp only[Loc]at h;simp only[T.okTup];exact jZ (St:=St) (k:=k) xs p 0 b o h.2
  |.tup _,_,_,_,h=>by simp only[Loc]at h
  |.any,_,_,_,_|.lit _,_,_,_,_|.ro _,_,_,_,_|.same _ _,_,_,_,_|.addr _ _,_,_,_,_|.sub _ _ _ _ _,_,_,_,_|.sl _ _,_,_,_,_|.ptr _,_,_,_,_=>rfl
section
variable {P:Program}
structure zGK (P:Program) (t2:TypeId) (e:TypeId) (ti:TypeInfo) (xv:Value) (m:Nat) (nv:List Value) (w:World):Prop where
 arg:(∃e2 xa c,P.underlying t2=some (.slice e2)∧xv=.slice xa m c∧ ∀w2:World,w2.heap=w.heap→(Builtin.firstCells ti.size m (.slice xa m c)).run P w2=.ok nv.toArray w2)∨
  ∃k2 k3 z,P.underlying t2=some (.int k2)∧xv=.int k3 (m:Int)∧ti.zero=some z∧nv.toArray=Builtin.zeroCells z.cells m∧m*ti.bytes≤2 ^ 47∧z.cells.size=ti.size
theorem zEv{t t2 ty e:TypeId}{ti:TypeInfo}{xv:Value}{m:Nat}{nv:List Value}{w w':World}(ht:P.underlying t=some (.slice e))(hi:P.info? e=some ti)
  (hx:zGK P t2 e ti xv m nv w)(hm:m≤68719476736){base:Option Addr}{n cap:Nat}(hroom:n+m≤cap)
  (hst:(if let some a:=base then storeCells (a.add (n*ti.size)) nv else pure ():Sem Unit).run P w=.ok () w'):
  (Builtin.append_ #[t,t2] ty #[.slice base n cap,xv]).run P w=.ok (.slice base (n+m) cap) w':=by
 rcases hx.arg with⟨e2,xa,c,h1,rfl,h2⟩|⟨k2,k3,z,h1,rfl,h2,h3,h4,h5⟩
 ·have h2:=h2 w rfl
  cases base with
  |none=>
   simp at hst;subst hst;simp[Builtin.append_,run_underlying ht,run_underlying h1,sizeOf,typeInfo,hi,Builtin.lenOf,hroom,h2]
  |some a=>
   simp only at hst;simp[Builtin.append_,run_underlying ht,run_underlying h1,sizeOf,typeInfo,hi,Builtin.lenOf,hroom,h2,hst]
 ·have hwr:IntKind.i64.wrap (m:Int)=m:=by rw[IntKind.wrap_i64];omega
  have h48:¬(281474976710656<(m:Int)*(ti.bytes:Int)):=by
   have:((m*ti.bytes:Nat):Int)≤2 ^ 47:=by exact_mod_cast h4
   rw[L8]at this;omega
  have hneg:¬((m:Int)<0):=by omega
  have hnv:nv=(Builtin.zeroCells z.cells m).toList:=by rw[←h3]
  by_cases hz:m*ti.size=0
  ·have hnv0:nv=[]:=by
    apply Kb;rw[hnv];simp[Builtin.zeroCells,h5,hz]
   subst hnv0;cases base with
   |none=>
    simp at hst;subst hst;simp[Builtin.append_,run_underlying ht,run_underlying h1,sizeOf,typeInfo,hi,asInt,asIntOf,hwr,h48,hneg,hroom,hz]
   |some a=>
    simp only[storeCells,Sem.run_pure]at hst;cases hst;simp[Builtin.append_,run_underlying ht,run_underlying h1,sizeOf,typeInfo,hi,asInt,asIntOf,hwr,h48,hneg,hroom,hz,storeCells]
  ·cases base with
   |none=>
    simp at hst;subst hst;simp[Builtin.append_,run_underlying ht,run_underlying h1,sizeOf,typeInfo,zeroValue,hi,h2,asInt,asIntOf,hwr,h48,hneg,hroom]
   |some a=>
    simp only[hnv]at hst;simp[Builtin.append_,run_underlying ht,run_underlying h1,sizeOf,typeInfo,zeroValue,hi,h2,asInt,asIntOf,hwr,h48,hneg,hroom,hz,hst]
theorem zJu{t t2 ty e:TypeId}{ti:TypeInfo}{z xv:Value}{m:Nat}{nv olds:List Value}{w:World}(ht:P.underlying t=some (.slice e))(hi:P.info? e=some ti)(hz:ti.zero=some z)
  (hx:zGK P t2 e ti xv m nv w){base:Option Addr}{n cap:Nat}(hgrow:cap<n+m)(hnm:n+m≤68719476736)(hb:ti.bytes≤2048)
  (hold:∀w2:World,w2.heap=w.heap→(Builtin.firstCells ti.size n (.slice base n cap)).run P w2=.ok olds.toArray w2):
  (Builtin.append_ #[t,t2] ty #[.slice base n cap,xv]).run P w=.ok (.slice (some ⟨w.heap.size,0,none⟩) (n+m) (grownCap w (n+m) cap e))
    (w.drew.alloc (.cells ((olds++nv).toArray++Builtin.zeroCells z.cells (grownCap w (n+m) cap e-(n+m))) e)):=by
 have hn:¬(n+m≤cap):=by omega
 have h63':¬(9223372036854775807<((n:Int)+(m:Int))):=by omega
 have hfit:=growslice_fits (need:=n+m) (old:=cap) (bytes:=ti.bytes) hgrow (Kv (Kj hnm hb) (by decide));have h48':¬(281474976710656<Builtin.nextslicecap (n+m) cap*ti.bytes):=by omega
 have ho:=hold w.drew rfl;rcases hx.arg with⟨e2,xa,c,h1,rfl,h2⟩|⟨k2,k3,z',h1,rfl,h2,h3,h4,h5⟩
 ·have h2:=h2 w.drew rfl
  simp[Builtin.append_,run_underlying ht,run_underlying h1,sizeOf,typeInfo,zeroValue,hi,hz,Builtin.lenOf,hn,h63',h48',Question.forced,h2,ho,newRow,grownCap]
  congr 2
  apply Jcy;simp
 ·have hwr:IntKind.i64.wrap (m:Int)=m:=by rw[IntKind.wrap_i64];omega
  have h48:¬(281474976710656<(m:Int)*(ti.bytes:Int)):=by
   have:((m*ti.bytes:Nat):Int)≤2 ^ 47:=by exact_mod_cast h4
   rw[L8]at this;omega
  have hneg:¬((m:Int)<0):=by omega
  have hnv:nv=(Builtin.zeroCells z'.cells m).toList:=by rw[←h3]
  rw[hz]at h2;simp at h2;subst h2
  by_cases hz0:m*ti.size=0
  ·have hnv0:nv=[]:=by
    apply Kb;rw[hnv];simp[Builtin.zeroCells,h5,hz0]
   subst hnv0;simp[Builtin.append_,run_underlying ht,run_underlying h1,sizeOf,typeInfo,zeroValue,hi,hz,asInt,asIntOf,hwr,h48,hneg,hn,h63',h48',Question.forced,hz0,ho,newRow,grownCap]
  ·simp[Builtin.append_,run_underlying ht,run_underlying h1,sizeOf,typeInfo,zeroValue,hi,hz,asInt,asIntOf,hwr,h48,hneg,hn,h63',h48',Question.forced,hz0,ho,newRow,grownCap,←h3]
   congr 2
   apply Jcy;simp
end
def zDK(s0:Nat)(y:Option Nat)(n:Nat)(s:Nat)(z:List Nat):Option (List Nat):=
 if s=s0 then some z else if y=some s then(match z.getLast? with
  |some j=>some (z.dropLast++[n+j])
  |none=>none)else none
def Gh.ip(G:Gh)(d s0:Nat)(y:Option Nat)(b n k:Nat)(us:List T)(f2:Nat→List Nat→Value)(hdr:Value):Gh where
 hd s z:=if s=d then(match z.getLast? with
  |some i=>if i<n then G.hd s0 z else f2 (i-n) z.dropLast
  |none=>hdr)else G.hd s z
 ad s z:=if s=d then(match z.getLast? with
  |some i=>if i<n then G.ad s0 z else if(T.agg us).inT ((i-n)::z.dropLast.reverse)then⟨b,n*k+(T.agg us).offT ((i-n)::z.dropLast.reverse),none⟩else(match y with
   |some y=>G.ad y (z.dropLast++[i-n])
   |none=>default)
  |none=>default)else G.ad s z
 lb b' o:=if b'=b∧n*k≤o∧o<n*k+us.length*k then(match zBT us [] n (o-n*k)with
  |some p=>some (false,d,p)
  |none=>none)else match G.lb b' o with
  |some (fl,s,z)=>(match zDK s0 y n s z with
   |some z'=>some (fl,d,z')
   |none=>some (fl,s,z))
  |none=>none
 ow b':=match G.ow b' with
  |some (s,z)=>(match zDK s0 y n s z with
   |some z'=>some (d,z')
   |none=>some (s,z))
  |none=>none
def aWr(d s0:Nat)(y:Option Nat)(k:Nat)(ts:List T):Wr:=(d,some (.sl k ts))::(s0,some .any)::(match y with
 |some y=>[(y,some .any)]
 |none=>[])
def zA9(d s0:Nat)(y:Option Nat):Chg:=(d,0)::(s0,1)::(match y with
 |some y=>[(y,1)]
 |none=>[])
structure zGL (Γ:Ctx) (E:Env) (G:Gh) (d s0:Nat) (y:Option Nat) (k n:Nat) (us:List T) (f2:Nat→List Nat→Value) (nv:List Value):Prop where
 size:∀u∈us,u.size=k
 tup:yS us=true
 clean:xI us
 one:∀j z,(f2 j z).oneCell'=true
 len:nv.length=us.length*k
 slot:∀y',y=some y'→y'≠d∧y'≠s0∧E y'=some (.sl k us)∧ ∀j z,f2 j z=G.hd y' (z++[j])
 none:y=none→ ∀(j:Nat) u,us[j]? =some u→ ∀(G2:Gh)(w2:World),(∀z,G2.hd d (z++[n+j])=f2 j z)→R Γ.St G2 w2 d u [n+j]
 vals:∀(G2:Gh),(∀j z,G2.hd d (z++[n+j])=f2 j z)→ ∀(o:Nat)(v:Value),(yE G2 d us [] n)[o]? =some v→nv[o]? =some v
theorem zK2{G G2:Gh}{s d:Nat}:(xs:List T)→ ∀(p:List Nat)(j:Nat),(∀i,i<xs.length→ ∀z,G2.hd d (z++((j+i)::p))=G.hd s (z++((j+i)::p)))→yE G2 d xs p j=yE G s xs p j
 | [],_,_,_=>by simp only[yE]
 |x::xs,p,j,h=>by
  simp only[yE];have ih:yE G2 d xs p (j+1)=yE G s xs p (j+1):=zK2 xs p (j+1) (fun i hi z=>by
   rw[show j+1+i=j+(i+1)from by omega];exact h (i+1) (by simpa using hi) z)
  rw[zAC x (j::p) (j::p) (by simpa using h 0 (by simp)),ih]
theorem zIf(z:List Nat):z=[]∨ ∃y i,z=y++[i]:=by
 rcases List.eq_nil_or_concat z with h|⟨y,i,h⟩
 ·exact .inl h
 ·exact .inr ⟨y,i,by simpa using h⟩
section
variable {P:Program}{Γ:Ctx}{E:Env}{d:Nat}
theorem zB6{G:Gh}{a:Act}{w:World}(hrep:Rep Γ E G a.tmps w)(hd:d<Γ.N){t t2 ty e:TypeId}{ti:TypeInfo}{z:Value}{k:Nat}(ht:P.underlying t=some (.slice e))(hi:P.info? e=some ti)(hz:ti.zero=some z)
  (hk:ti.size=k)(_hk0:0<k)(hzk:z.cells.size=k)(hb:ti.bytes≤2048){s0:Nat}{y:Option Nat}{xs us:List T}{f2:Nat→List Nat→Value}{nv:List Value}(hs0:E s0=some (.sl k xs))(hs0d:s0≠d)
  (hn:zGL Γ E G d s0 y k xs.length us f2 nv){xv:Value}(hx:zGK P t2 e ti xv us.length nv w)(hone:∀v∈nv,v.oneCell'=true)(hnm:xs.length+us.length≤68719476736):
  ∃v w',(Builtin.append_ #[t,t2] ty #[G.hd s0 [],xv]).run P w=.ok v w'∧ ∃G',Rep Γ (E.app (aWr d s0 y k (xs++us)) (zA9 d s0 y)) G' (a.tmps.setIfInBounds d v) w':=by
 have hm:=hrep.mem;obtain⟨e1,e2,e3⟩:=hrep.ent s0 _ hs0;simp only[Top]at e3;simp only[R]at e2;have hsz_us:T.sizes us=us.length*k:=wV us hn.size;have fin:∀(G':Gh)(w':World)(v:Value),qP (zA9 d s0 y) G w G' w'→Mem Γ G' w'→G'.hd d []=v→R Γ.St G' w' d (.sl k (xs++us)) []→(∀s p,s≠d→G'.hd s p=G.hd s p)→
   Rep Γ (E.app (aWr d s0 y k (xs++us)) (zA9 d s0 y)) G' (a.tmps.setIfInBounds d v) w':=by
  intro G' w' v hkeep hmem hdv hRd hother;refine vG hrep (by simp) hkeep hmem ?_ ?_
  ·intro s hs
   have hne:s≠d:=by rintro rfl;simp[aWr,Wr.find]at hs
   have hne0:s≠s0:=by rintro rfl;simp[aWr,Wr.find,hne.symm]at hs
   have hney:∀y',y=some y'→s≠y':=by
    rintro y' rfl rfl
    simp[aWr,Wr.find,hne.symm,hne0.symm]at hs
   refine⟨fun n' hn'=>?_,by rw[Jd];simp[hne.symm]⟩;simp only[zA9,Jc,Jb2.injEq]at hn';rcases hn' with⟨h1,_⟩|⟨h1,_⟩|hn'
   ·exact hne h1
   ·exact hne0 h1
   ·cases y with
    |none=>simp at hn'
    |some y'=>simp at hn';exact hney y' rfl hn'.1
  ·intro s t' hs
   by_cases h1:s=d
   ·subst h1
    simp[aWr,Wr.find]at hs;subst hs;refine⟨?_,hRd,by simp only[Top];exact zD0 xs us e3 hn.clean⟩;rw[Jd];simp[hrep.size,hd,mkV,hdv]
   ·have h3:t'=.any∧(s=s0∨y=some s):=by
     simp only[aWr,Wr.find]at hs;rw[if_neg (fun h=>h1 h.symm)]at hs;split at hs
     ·rename_i h2;simp at hs;exact⟨hs.symm,.inl h2.symm⟩
     ·cases y with
      |none=>simp[Wr.find]at hs
      |some y'=>
       simp only[Wr.find]at hs;split at hs
       ·rename_i h2;simp at hs;exact⟨hs.symm,.inr (by rw[h2])⟩
       ·cases hs
    obtain⟨rfl,h3⟩:=h3;refine⟨?_,by simp only[R],by simp[Top]⟩;rw[Jd];simp only[Ne.symm h1,if_false,mkV];rw[hother s [] h1];rcases h3 with rfl|h3
    ·exact e1
    ·obtain⟨_,_,h4,_⟩:=hn.slot s h3
     exact(hrep.ent s _ h4).1
 have hphi0:∀s p,(∀n',(s,n')∉zA9 d s0 y)→zDK s0 y xs.length s p=none:=by
  intro s p h;have h1:s≠s0:=fun e=>h 1 (by simp[zA9,e])
  have h2:y≠some s:=fun e=>h 1 (by simp[zA9,e])
  simp[zDK,h1,h2]
 by_cases hroom:∃a' c,G.hd s0 []=.slice a' xs.length c∧xs.length+us.length≤c
 ·
  obtain⟨a',c,hh,hroom⟩:=hroom;rcases e2 with⟨rfl,a1,h1⟩|⟨b,cap,cs,et,h1,h2,h3,h4,h5,h6,h7,h8⟩
  ·rw[h1]at hh
   simp at hh;obtain⟨rfl,rfl⟩:=hh;have hus:us=[]:=Kb (by simp only[K0]at hroom;omega);subst hus;have hnv:nv=[]:=Kb (by have:=hn.len;simp at this;simp[this]);subst hnv;have hrun:=zEv (P:=P) (t:=t) (ty:=ty) (w':=w) ht hi hx (by simp) (base:=a1) (n:=0) (cap:=0) (by simp) (by cases a1<;>rfl);refine⟨.slice a1 0 0,w,by rw[h1];exact hrun,G.put d (fun _=>.slice a1 0 0),fin _ w _ ?_ (hm.put rfl d _ (fun _=>rfl)) (by rw[Gh.put_self]) (by simp[R,Gh.put]) (fun s p h=>G.put_other _ p h)⟩;have:=G.put_keep (w:=w) (w':=w) rfl d (fun _=>.slice a1 0 0);exact⟨fun s p h=>this.hd s p (fun n hn=>h n (by simp at hn;simp[zA9,hn])),fun s p h=>this.ad s p (fun n hn=>h n (by simp at hn;simp[zA9,hn])),fun b o f s p h0 h1 h2=>this.lb b o f s p h0 h1 (fun n hn=>h2 n (by simp at hn;simp[zA9,hn])),fun b s p h1 h2=>this.ow b s p h1 (fun n hn=>h2 n (by simp at hn;simp[zA9,hn])),this.blk⟩
  ·rw[h1]at hh
   simp at hh;obtain⟨rfl,rfl⟩:=hh;have hmk':us.length*k+xs.length*k≤cap*k:=by rw[←Uu];exact Km _ (by omega)
   have hmk:us.length*k+xs.length*k≤cs.size:=Kv hmk' h5
   generalize hw':w.setRow b (cs.toList.take (xs.length*k)++nv++cs.toList.drop (xs.length*k+nv.length)).toArray=w'
   have hnew:w'.heap[b]? =some (.cells (cs.toList.take (xs.length*k)++nv++cs.toList.drop (xs.length*k+nv.length)).toArray et (0,0)):=by rw[←hw'];exact setRow_heap w b cs _ et _ h2
   have hold:∀b',b'≠b→w'.heap[b']? =w.heap[b']?:=fun b' h=>by rw[←hw'];exact setRow_other w b b' _ h
   have hsize:w'.heap.size=w.heap.size:=by rw[←hw'];exact size_setRow w b _
   have hcsl:cs.toList.length=cs.size:=Ki ..;have hnl:=hn.len;have hcellb:∀i,yP w' b i=if xs.length*k≤i∧i<xs.length*k+us.length*k then nv[i-xs.length*k]? else yP w b i:=by
    intro i;simp only[yP,World.cell?,hnew,h2,Q4,Ga,if_false];rw[←K6,←K6 (xs:=cs)];simp only[]
    by_cases g1:i<xs.length*k
    ·rw[if_neg (by omega),Ja,Jl (by simp;omega),Uh g1]
    ·by_cases g2:i<xs.length*k+us.length*k
     ·rw[if_pos ⟨by omega,g2⟩,Ja,J8 (by simp;omega),Jl (by simp;omega)]
      congr 1;simp;omega
     ·rw[if_neg (by omega),Ja,J8 (by simp;omega),J8 (by simp;omega),Kq]
      congr 1;simp;omega
   have hin:∀b' o fl s p,G.lb b' o=some (fl,s,p)→(fl,s,p)≠(true,s0,[])→ ¬(b'=b∧xs.length*k≤o∧o<xs.length*k+us.length*k):=by
    rintro b' o fl s p g1 g2 ⟨rfl,g3,g4⟩
    rw[h7 o g3 (by omega)]at g1;simp at g1;exact g2 (by simp[←g1.1,←g1.2.1,←g1.2.2])
   have hcell:∀b' o,¬(b'=b∧xs.length*k≤o∧o<xs.length*k+us.length*k)→yP w' b' o=yP w b' o:=by
    intro b' o g
    by_cases hb':b'=b
    ·subst hb'
     rw[hcellb,if_neg (fun g2=>g ⟨rfl,g2⟩)]
    ·simp[yP,World.cell?,hold b' hb']
   have hnewsz:((cs.toList.take (xs.length*k)++nv++cs.toList.drop (xs.length*k+nv.length)).toArray).size=cs.size:=by simp;omega
   have hblk':Blk w w':=by
    intro b' cs' e' g1
    by_cases hb':b'=b
    ·subst hb'
     rw[h2]at g1;simp at g1;obtain⟨rfl,rfl⟩:=g1;exact⟨_,hnew,hnewsz⟩
    ·exact⟨cs',by rw[hold b' hb'];exact g1,rfl⟩
   generalize hG':G.ip d s0 y b xs.length k us f2 (.slice (some ⟨b,0,none⟩) (xs.length+us.length) cap)=G'
   have ghdr:G'.hd d []=.slice (some ⟨b,0,none⟩) (xs.length+us.length) cap:=by rw[←hG'];simp[Gh.ip]
   have ghd1:∀i z,i<xs.length→G'.hd d (z++[i])=G.hd s0 (z++[i]):=fun i z g=>by rw[←hG'];simp[Gh.ip,g]
   have ghd2:∀j z,G'.hd d (z++[xs.length+j])=f2 j z:=fun j z=>by rw[←hG'];simp[Gh.ip,show¬xs.length+j<xs.length from by omega]
   have ghd0:∀s z,s≠d→G'.hd s z=G.hd s z:=fun s z g=>by rw[←hG'];simp[Gh.ip,g]
   have gad0:∀s z,s≠d→G'.ad s z=G.ad s z:=fun s z g=>by rw[←hG'];simp[Gh.ip,g]
   have gad1:∀i z,i<xs.length→G'.ad d (z++[i])=G.ad s0 (z++[i]):=fun i z g=>by rw[←hG'];simp[Gh.ip,g]
   have gad2:∀j f,(T.agg us).inT (j::f)=true→G'.ad d (f.reverse++[xs.length+j])=⟨b,xs.length*k+(T.agg us).offT (j::f),none⟩:=fun j f g=>by rw[←hG'];simp[Gh.ip,g,show¬xs.length+j<xs.length from by omega]
   have gad3:∀y' j z,y=some y'→(T.agg us).inT (j::z.reverse)=false→G'.ad d (z++[xs.length+j])=G.ad y' (z++[j]):=fun y' j z g1 g2=>by rw[←hG'];simp[Gh.ip,g1,g2,show¬xs.length+j<xs.length from by omega]
   have glb2:∀i p,i<us.length*k→zBT us [] xs.length i=some p→G'.lb b (xs.length*k+i)=some (false,d,p):=fun i p g1 g2=>by
    rw[←hG'];simp only[Gh.ip];rw[if_pos (by simp;omega),show xs.length*k+i-xs.length*k=i from by omega,g2]
   have glb0:∀b' o fl s p,G.lb b' o=some (fl,s,p)→ ¬(b'=b∧xs.length*k≤o∧o<xs.length*k+us.length*k)→zDK s0 y xs.length s p=none→G'.lb b' o=some (fl,s,p):=fun b' o fl s p g1 g2 g3=>by
    rw[←hG'];simp only[Gh.ip];rw[if_neg g2,g1];simp[g3]
   have glb1:∀b' o fl s p p',G.lb b' o=some (fl,s,p)→ ¬(b'=b∧xs.length*k≤o∧o<xs.length*k+us.length*k)→zDK s0 y xs.length s p=some p'→G'.lb b' o=some (fl,d,p'):=fun b' o fl s p p' g1 g2 g3=>by
    rw[←hG'];simp only[Gh.ip];rw[if_neg g2,g1];simp[g3]
   have gow0:∀b' s p,G.ow b'=some (s,p)→zDK s0 y xs.length s p=none→G'.ow b'=some (s,p):=fun b' s p g1 g2=>by rw[←hG'];simp[Gh.ip,g1,g2]
   have gow1:∀b' s p p',G.ow b'=some (s,p)→zDK s0 y xs.length s p=some p'→G'.ow b'=some (d,p'):=fun b' s p p' g1 g2=>by rw[←hG'];simp[Gh.ip,g1,g2]
   have hphis:∀p,zDK s0 y xs.length s0 p=some p:=fun p=>by simp[zDK]
   have hphiy:∀y' z j,y=some y'→y'≠s0→zDK s0 y xs.length y' (z++[j])=some (z++[xs.length+j]):=fun y' z j g1 g2=>by simp[zDK,g1,g2]
   have hne:∀s p,Off (zA9 d s0 y) s p→s≠d:=fun s p h e=>absurd (h 0 (by simp[zA9,e])) (by simp)
   have hkeep:qP (zA9 d s0 y) G w G' w':=by
    refine⟨fun s p h=>ghd0 s p (hne s p h),fun s p h=>gad0 s p (hne s p h),fun b' o fl s p _ g1 g2=>?_,fun b' s p g1 g2=>gow0 b' s p g1 (hphi0 s p g2),hblk'⟩;have hs:s≠s0:=fun e=>g2 1 (by simp[zA9,e])
    have g3:=hin b' o fl s p g1 (by simp[hs]);exact⟨glb0 b' o fl s p g1 g3 (hphi0 s p g2),hcell b' o g3⟩
   have hBb:=hm.ow b _ h6;have hmem:Mem Γ G' w':=by
    refine⟨fun s z=>?_,fun b' o' l hl=>?_,fun b' l hl=>?_,fun b' x' hx'=>?_,fun b' g1 g2=>?_,by rw[hsize];exact hm.sz,hm.bk.trans hblk' (by rw[←hw'];rfl) (by rw[←hw'];rfl)⟩
    ·by_cases g:s=d
     ·subst g
      rcases zIf z with rfl|⟨z',i,rfl⟩
      ·rw[ghdr];rfl
      ·by_cases g1:i<xs.length
       ·rw[ghd1 i z' g1];exact hm.one _ _
       ·have:=ghd2 (i-xs.length) z'
        rw[show xs.length+(i-xs.length)=i from by omega]at this;rw[this];exact hn.one _ _
     ·rw[ghd0 s z g];exact hm.one _ _
    ·have:zCd Γ w b':=by
      rw[←hG']at hl;simp only[Gh.ip]at hl;split at hl
      ·rename_i g;rw[g.1];exact hBb
      ·split at hl
       ·rename_i g;exact hm.lb _ _ _ g
       ·cases hl
     exact⟨by rw[hsize];exact this.1,this.2⟩
    ·have:zCd Γ w b':=by
      rw[←hG']at hl;simp only[Gh.ip]at hl;split at hl
      ·rename_i g;exact hm.ow _ _ g
      ·cases hl
     exact⟨by rw[hsize];exact this.1,this.2⟩
    ·have hb':b'≠b:=by rintro rfl;rw[hBb.2.2]at hx';cases hx'
     rw[hold b' hb'];exact hm.st b' x' hx'
    ·have hb':b'≠b:=by
      rintro rfl
      rcases hBb.2.1 with g3|g3
      ·omega
      ·exact g2 g3
     rw[hold b' hb'];exact hm.fr b' g1 g2
   have hlocus:vF G' w' d us [] xs.length b (xs.length*k):=by
    refine zGn us [] xs.length b (xs.length*k) hn.tup (fun i x hx' f hf=>?_) (fun i p' g1 g2=>glb2 i p' (by omega) g2) (fun i v hv=>?_)
    ·have:=gad2 i f (by simp only[T.inT,hx'];exact hf)
     simpa[T.offT,hx']using this
    ·have g1:=hn.vals G' ghd2 i v hv
     have g2:=(Jb.1 g1).1;rw[hcellb,if_pos ⟨by omega,by omega⟩,show xs.length*k+i-xs.length*k=i from by omega];exact g1
   have hRd:R Γ.St G' w' d (.sl k (xs++us)) []:=by
    simp only[R];rw[ghdr];refine .inr ⟨b,cap,_,et,by simp,hnew,by simp;omega,h4,by rw[hnewsz];exact h5,gow1 b s0 [] [] h6 (hphis []),?_,zJt _ _ _ _ _ (fun i x hx'=>?_)⟩
    ·intro o g1 g2
     rw[J5,Uu]at g1;exact glb1 b o true s0 [] [] (h7 o (by omega) g2) (by omega) (hphis [])
    ·rw[Ky]at hx'
     simp only[Je];split at hx'
     ·rename_i hlt
      obtain⟨g1,g2,g3⟩:=jL xs [] 0 b 0 k i x h8 hx';simp only[Je]at g1 g3;have hl1:∀b' o fl z,G.lb b' o=some (fl,s0,z++[i])→G'.lb b' o=some (fl,d,z++[i])∧yP w' b' o=yP w b' o:=fun b' o fl z g=>by
       have g4:=hin b' o fl s0 _ g (by simp);exact⟨glb1 b' o fl s0 _ _ g g4 (hphis _),hcell b' o g4⟩
      refine⟨zGJ x [i] [i] b _ (fun z=>ghd1 i z hlt) (fun z=>gad1 i z hlt) (fun b' o z g=>hl1 b' o false z g) g1,g2,?_⟩;refine zAe (G:=G) (w:=w) (s:=s0) (p:=[i]) ⟨⟨fun z=>ghd1 i z hlt,fun z _=>gad1 i z hlt,fun b' o f z _ _ g=>hl1 b' o f z g,fun b' z _ g=>gow1 b' s0 _ _ g (hphis _),hblk'⟩,fun b' o _ g=>?_,fun b' g=>gow1 b' s0 _ _ g (hphis _)⟩ x (yW.mono (fun _ _=>False.elim) x (uN xs e3 i x hx')) g3;have:=hl1 b' o true [] (by simpa using g);simpa using this
     ·rename_i hge
      obtain⟨j,rfl⟩:∃j,i=xs.length+j:=⟨i-xs.length,by omega⟩;rw[show xs.length+j-xs.length=j from by omega]at hx';have g1:=zCe us [] xs.length b (xs.length*k) j x hlocus hx';rw[show T.sizes (us.take j)=j*k from by
       rw[wV _ (fun u hu=>hn.size u (Gz hu)),Jy,Gd (by have:=(Jb.1 hx').1;omega)],←Uu]at g1
      refine⟨g1,hn.size x (Kf hx'),?_⟩;cases hy:y with
      |none=>exact hn.none hy j x hx' G' w' (fun z=>ghd2 j z)
      |some y'=>
       obtain⟨y1,y2,y3,y4⟩:=hn.slot y' hy;obtain⟨_,y5,_⟩:=hrep.ent y' _ y3;simp only[R]at y5;rcases y5 with⟨rfl,_⟩|⟨b2,cap2,cs2,et2,_,_,_,_,_,_,_,y6⟩
       ·simp at hx'
       ·obtain⟨_,_,y7⟩:=jL us [] 0 b2 0 k j x y6 hx'
        simp only[Je]at y7;refine zKu x [j] [xs.length+j] (zCS.okTups_get us hn.tup j x hx') ⟨fun z=>by rw[ghd2,y4],fun z g=>gad3 y' j z hy (by simp only[T.inT,hx'];exact g),fun b' o fl z _ g=>?_,fun b' z g=>gow1 b' y' _ _ g (hphiy y' z j hy y2),hblk'⟩ (yW.mono (fun _ _=>False.elim) x (uN us hn.clean j x hx')) y7;have g4:=hin b' o fl y' _ g (by simp[y2]);exact⟨glb1 b' o fl y' _ _ g g4 (hphiy y' z j hy y2),hcell b' o g4⟩
   have hst:=run_storeCells_at P b (xs.length*k) et nv 0 cs w h2 (by omega) hone;simp only[Gf]at hst;rw[hw']at hst;have hrun:=zEv (P:=P) (t:=t) (ty:=ty) (w':=w') ht hi hx (by omega) (base:=some ⟨b,0,none⟩) hroom (by simp only[hk,uO,Je];exact hst);refine⟨_,w',by rw[h1];exact hrun,G',fin G' w' _ hkeep hmem ghdr hRd ghd0⟩
 ·
  have hbase:∃a' c,G.hd s0 []=.slice a' xs.length c∧ ∀w2:World,w2.heap=w.heap→(Builtin.firstCells ti.size xs.length (.slice a' xs.length c)).run P w2=.ok (yE G s0 xs [] 0).toArray w2:=by
   rcases e2 with⟨rfl,a1,h1⟩|⟨b,cap,cs,et,h1,h2,h3,h4,h5,h6,h7,h8⟩
   ·exact⟨a1,0,h1,fun w2 _=>by cases a1<;>simp[Builtin.firstCells,loadCells,loadCellsFrom,yE]⟩
   ·refine⟨_,_,h1,fun w2 hw2=>?_⟩
    have hl:=zAz xs [] 0 b 0 h8;refine run_firstCells_some (P:=P) w2 ti.size xs.length ⟨b,0,none⟩ _ _ _ ?_ (fun j v hv=>?_)
    ·rw[wS,hk]
     exact wV xs (zBg xs [] 0 b 0 h8).2
    ·have:=zBb xs [] 0 b 0 hl j v hv
     rw[uO];simp only[yP]at this;simpa[World.cell?,hw2]using this
  obtain⟨a',c,hh,hold⟩:=hbase;have hxs:yS xs=true∧(∀x∈xs,x.size=k)∧ ∀i x,xs[i]? =some x→R Γ.St G w s0 x [i]:=by
   rcases e2 with⟨rfl,a1,h1⟩|⟨b,cap,cs,et,h1,h2,h3,h4,h5,h6,h7,h8⟩
   ·simp[yS]
   ·refine⟨jZ (St:=Γ.St) (k:=k) xs [] 0 b 0 (zAz xs [] 0 b 0 h8),(zBg xs [] 0 b 0 h8).2,fun i x hx'=>?_⟩
    have:=(jL xs [] 0 b 0 k i x h8 hx').2.2;simpa using this
  have hgrow:c<xs.length+us.length:=by
   rcases Jk c (xs.length+us.length)with g|g
   ·exact g
   ·exact absurd ⟨a',c,hh,g⟩ hroom
  have hrun:=zJu (P:=P) (t:=t) (ty:=ty) ht hi hz hx hgrow hnm hb hold;have hge:=grownCap_ge w (xs.length+us.length) c e;have hcm:=grownCap_le_maxLen w (xs.length+us.length) c e (by simp only[maxLen];omega)
  generalize grownCap w (xs.length+us.length) c e=cap' at hrun hge hcm
  generalize hw':w.drew.alloc (.cells ((yE G s0 xs [] 0++nv).toArray++Builtin.zeroCells z.cells (cap'-(xs.length+us.length))) e)=w' at hrun
  have hwh:w'.heap=w.heap.push (.cells ((yE G s0 xs [] 0++nv).toArray++Builtin.zeroCells z.cells (cap'-(xs.length+us.length))) e):=by rw[←hw'];rfl
  have hszxs:T.sizes xs=xs.length*k:=wV xs hxs.2.1;obtain⟨g1,g2,g3,g4,g5⟩:=zCS hm hwh d (xs++us) (fun i=>if i<xs.length then some (s0,[i])else y.map fun y'=>(y',[i-xs.length])) (zDK s0 y xs.length) (fun i z=>if i<xs.length then G.hd s0 (z++[i])else f2 (i-xs.length) z) (.slice (some ⟨w.heap.size,0,none⟩) (xs.length+us.length) cap') ((zA9 d s0 y).tail)
   (zDz xs us hxs.1 hn.tup) (fun i z=>by split;exact hm.one _ _;exact hn.one _ _) rfl
   (fun i u x q z' hu hs=>by
    split at hs
    ·simp at hs;obtain⟨rfl,rfl⟩:=hs;simp[zDK]
    ·rename_i hge'
     cases y with
     |none=>simp at hs
     |some y'=>
      simp at hs;obtain⟨rfl,rfl⟩:=hs;have:=(hn.slot y' rfl).2.1;simp[zDK,this,show xs.length+(i-xs.length)=i from by omega])
   (fun i u x q hu hs=>by
    rw[Ky]at hu;split at hs
    ·rename_i hlt
     rw[if_pos hlt]at hu;simp at hs;obtain⟨rfl,rfl⟩:=hs;exact⟨fun z'=>by simp[hlt],hxs.2.2 i u hu,uN xs e3 i u hu,hs0d⟩
    ·rename_i hge'
     rw[if_neg hge']at hu;cases hy:y with
     |none=>rw[hy]at hs;simp at hs
     |some y'=>
      rw[hy]at hs;simp at hs;obtain⟨rfl,rfl⟩:=hs;obtain⟨y1,y2,y3,y4⟩:=hn.slot y' hy;obtain⟨_,y5,_⟩:=hrep.ent y' _ y3;simp only[R]at y5;refine⟨fun z'=>by simp[hge',y4],?_,uN us hn.clean _ u hu,y1⟩;rcases y5 with⟨rfl,_⟩|⟨b2,cap2,cs2,et2,_,_,_,_,_,_,_,y6⟩
      ·simp at hu
      ·have:=(jL us [] 0 b2 0 k _ u y6 hu).2.2
       simpa using this)
   (fun i u hu hs G2 w2 hG2=>by
    rw[Ky]at hu;split at hs
    ·cases hs
    ·rename_i hge'
     rw[if_neg hge']at hu;cases hy:y with
     |some y'=>rw[hy]at hs;simp at hs
     |none=>
      have:=hn.none hy (i-xs.length) u hu G2 w2 (fun z'=>by rw[show xs.length+(i-xs.length)=i from by omega,hG2,if_neg hge'])
      rwa [show xs.length+(i-xs.length)=i from by omega]at this)
   (fun G2 hG2 o v hv=>by
    rw[zEt,Je]at hv;have h1:yE G2 d xs [] 0=yE G s0 xs [] 0:=zK2 xs [] 0 (fun i hi' z'=>by rw[Je,hG2,if_pos hi']);rw[h1]at hv;have hl1:(yE G s0 xs [] 0).length=xs.length*k:=by rw[wS,hszxs]
    have hl2:(yE G2 d us [] xs.length).length=us.length*k:=by rw[wS,hsz_us]
    have ho:o<xs.length*k+us.length*k:=by
     have:=(Jb.1 hv).1;rw[J5]at this;omega
    have hnl:=hn.len;rw[Array.getElem?_append_left (by simp;omega),List.getElem?_toArray];rw[Ky]at hv ⊢
    split at hv
    ·rename_i hlt;rw[if_pos hlt];exact hv
    ·rename_i hge';rw[if_neg hge']
     exact hn.vals G2 (fun j z'=>by rw[hG2,if_neg (by omega),show xs.length+j-xs.length=j from by omega]) _ v hv)
   (fun s p h=>hphi0 s p (by simpa[zA9]using h)) (ho:=by rw[←hw'];rfl) (hq:=by rw[←hw'];rfl)
  refine⟨_,w',by rw[hh];exact hrun,_,fin _ w' _ (by simpa[zA9]using g1) g2 (by simp[Gh.nb]) ?_ (fun s p h=>by simp[Gh.nb,h])⟩;simp only[R];refine .inr ⟨w.heap.size,cap',_,e,by simp[Gh.nb],g5,by simpa using hge,hcm,?_,by simp[Gh.nb],?_,zQz _ _ _ _ _ (fun x hx'=>?_) g3 g4⟩
  ·have hl1:(yE G s0 xs [] 0).length=xs.length*k:=by rw[wS,hszxs]
   have hnl:=hn.len;simp only[Array.size_append,Jc7,J5,size_zeroCells,hzk,hl1,hnl,←Uu];exact Km _ (by omega)
  ·intro o ho _
   rw[J5,Uu]at ho;simp[Gh.nb,zDG (xs++us) [] 0 o (by rw[zEu];omega)]
  ·rcases Jh.1 hx' with h|h
   ·exact hxs.2.1 x h
   ·exact hn.size x h
end
end Go.Ab

namespace Go.Ab
open Go
mutual
def T.flat:T→Bool
 |.lit _|.ro _=>true
 |.agg xs=>kZ xs
 |.any|.same _ _|.addr _ _|.sub _ _ _ _ _|.sl _ _|.ptr _|.tup _=>false
def kZ:List T→Bool
 | []=>true
 |x::xs=>x.flat&&kZ xs
end
section
variable {St:Stb}{G G2:Gh}{w w2:World}{s d:Nat}
mutual
theorem zJv:(t:T)→ ∀(p p':List Nat),t.flat=true→(∀z,G2.hd d (z++p')=G.hd s (z++p))→R St G w s t p→R St G2 w2 d t p'
 |.lit _,p,p',_,h,hr=>by
  have:=h [];simp only[Jj]at this;simp only[R]at hr ⊢;rw[this];exact hr
 |.ro _,p,p',_,h,hr=>by
  have:=h [];simp only[Jj]at this;simp only[R]at hr ⊢;rw[this];exact hr
 |.agg xs,p,p',hf,h,hr=>by simp only[R,T.flat]at hr hf ⊢;exact zNE xs p p' 0 hf h hr
 |.any,_,_,hf,_,_|.same _ _,_,_,hf,_,_|.addr _ _,_,_,hf,_,_|.sub _ _ _ _ _,_,_,hf,_,_|.sl _ _,_,_,hf,_,_|.ptr _,_,_,hf,_,_|.tup _,_,_,hf,_,_=>by simp[T.flat]at hf
theorem zNE:(xs:List T)→ ∀(p p':List Nat)(j:Nat),kZ xs=true→(∀z,G2.hd d (z++p')=G.hd s (z++p))→RF St G w s xs p j→RF St G2 w2 d xs p' j
 | [],_,_,_,_,_,_=>by simp only[RF]
 |x::xs,p,p',j,hf,h,hr=>by
  simp only[RF,kZ,J4]at hr hf ⊢
  exact⟨zJv x (j::p) (j::p') hf.1 (fun z=>by have:=h (z++[j]);simpa using this) hr.1,zNE xs p p' (j+1) hf.2 h hr.2⟩
end
end
mutual
theorem zGM:(t:T)→t.flat=true→yC t∧t.okTup=true
 |.lit _,_|.ro _,_=>by simp[yC,yW,T.okTup]
 |.agg xs,h=>by simp only[T.flat]at h;simpa only[yC,yW,T.okTup]using kI xs h
 |.any,h|.same _ _,h|.addr _ _,h|.sub _ _ _ _ _,h|.sl _ _,h|.ptr _,h|.tup _,h=>by simp[T.flat]at h
theorem kI:(xs:List T)→kZ xs=true→xI xs∧yS xs=true
 | [],_=>by simp[xI,xU,yS]
 |x::xs,h=>by
  simp only[kZ,J4]at h;simp only[xI,xU,yS,J4];exact⟨⟨(zGM x h.1).1,(kI xs h.2).1⟩,(zGM x h.1).2,(kI xs h.2).2⟩
end
theorem zI3:(xs:List T)→kZ xs=true→ ∀(i:Nat)(x:T),xs[i]? =some x→x.flat=true
 | [],_,_,_,h=>by simp at h
 |y::ys,hk,i,x,h=>by
  simp only[kZ,J4]at hk;cases i with
  |zero=>simp at h;subst h;exact hk.1
  |succ i=>exact zI3 ys hk.2 i x (by simpa using h)
mutual
def zFh:T→Bool
 |.lit _=>true
 |.sl _ xs=>zBh xs
 |.agg xs=>zBh xs
 |.ptr t=>zFh t
 |.any|.ro _|.same _ _|.addr _ _|.sub _ _ _ _ _|.tup _=>false
def zBh:List T→Bool
 | []=>true
 |x::xs=>zFh x&&zBh xs
end
theorem zK3:(ys:List T)→zBh ys=true→ ∀u∈ys,∀xs,u≠.tup xs
 | [],_,_,h,_=>by simp at h
 |y::ys,hr,u,h,xs=>by
  simp only[zBh,J4]at hr;rcases Jc.1 h with rfl|h
  ·rintro rfl;simp[zFh]at hr
  ·exact zK3 ys hr.2 u h xs
theorem zFM:(ys:List T)→(roT.roTs ys).length=ys.length
 | []=>rfl
 |y::ys=>by simp[roT.roTs,zFM ys]
theorem zGN{k:Nat}:(ys:List T)→(∀u∈ys,u.size=k)→(∀u∈ys,∀xs,u≠.tup xs)→ ∀u∈roT.roTs ys,u.size=k
 | [],_,_,u,h=>by simp[roT.roTs]at h
 |y::ys,h1,h2,u,h=>by
  simp only[roT.roTs,Jc]at h;rcases h with rfl|h
  ·rw[zEq y (h2 y (by simp))];exact h1 y (by simp)
  ·exact zGN ys (fun v hv=>h1 v (by simp[hv])) (fun v hv=>h2 v (by simp[hv])) u h
theorem zK4:(ys:List T)→ ∀(j:Nat)(u:T),(roT.roTs ys)[j]? =some u→ ∃u0,ys[j]? =some u0∧u=roT u0
 | [],_,_,h=>by simp[roT.roTs]at h
 |y::ys,j,u,h=>by
  cases j with
  |zero=>simp[roT.roTs]at h;exact⟨y,by simp,h.symm⟩
  |succ j=>
   obtain⟨u0,h1,h2⟩:=zK4 ys j u (by simpa[roT.roTs]using h);exact⟨u0,by simpa using h1,h2⟩
theorem zNF{St:Stb}{G2:Gh}{d:Nat}:(ys:List T)→ ∀(cs':Array Value)(o' k n:Nat),RoL St ys cs' o' k→(∀u∈ys,u.size=k)→(∀j u,ys[j]? =some u→ ∀z',G2.hd d (z'++[n+j])=jO (zDF u cs' (o'+j*k) z'.reverse))→
  ∀(i:Nat)(v:Value),(yE G2 d (roT.roTs ys) [] n)[i]? =some v→cs'[o'+i]? =some v
 | [],_,_,_,_,_,_,_,i,v,hv=>by simp[roT.roTs,yE]at hv
 |y::ys,cs',o',k,n,h,hs,hd,i,v,hv=>by
  simp only[RoL]at h;simp only[roT.roTs,yE]at hv;have hnt:∀xs,y≠.tup xs:=by rintro xs rfl;simp only[RoC]at h;exact h.1
  have hnt':∀xs,roT y≠.tup xs:=fun xs e=>by cases y<;>simp[roT]at e
  have hl:(vals G2 d (roT y) [n]).length=k:=by rw[wU _ _ hnt',zEq y hnt,hs y (by simp)]
  rw[Ky]at hv;split at hv
  ·exact zG8 y cs' o' [n] (fun z'=>by simpa using hd 0 y (by simp) z') h.1 i v hv
  ·have:=zNF ys cs' (o'+k) k (n+1) h.2 (fun u hu=>hs u (by simp[hu])) (fun j u hu z'=>by
    have:=hd (j+1) u (by simpa using hu) z'
    rwa [show n+(j+1)=n+1+j from by omega,show o'+(j+1)*k=o'+k+j*k from by rw[K5];omega]at this) _ v hv
   rwa [hl,show o'+k+(i-k)=o'+i from by omega]at this
mutual
theorem zPc{G:Gh}(hg:∀s z,(G.hd s z).oneCell'=true){s:Nat}:(t:T)→ ∀(p:List Nat)(v:Value),v∈vals G s t p→v.oneCell'=true
 |.agg xs,p,v,h=>by simp only[vals]at h;exact zDL hg xs p 0 v h
 |.any,p,v,h|.lit _,p,v,h|.ro _,p,v,h|.same _ _,p,v,h|.addr _ _,p,v,h|.sub _ _ _ _ _,p,v,h|.sl _ _,p,v,h|.ptr _,p,v,h|.tup _,p,v,h=>by
  simp only[vals,List.mem_singleton]at h;rw[h];exact hg s p
theorem zDL{G:Gh}(hg:∀s z,(G.hd s z).oneCell'=true){s:Nat}:(xs:List T)→ ∀(p:List Nat)(j:Nat)(v:Value),v∈yE G s xs p j→v.oneCell'=true
 | [],_,_,_,h=>by simp[yE]at h
 |x::xs,p,j,v,h=>by
  simp only[yE,Jh]at h;rcases h with h|h
  ·exact zPc hg x _ v h
  ·exact zDL hg xs p _ v h
end
theorem zCj{G G2:Gh}{s d:Nat}:(us:List T)→ ∀(n j:Nat),(∀i z,G2.hd d (z++[n+i])=G.hd s (z++[j+i]))→yE G2 d us [] n=yE G s us [] j
 | [],_,_,_=>by simp only[yE]
 |x::xs,n,j,h=>by
  have ih:yE G2 d xs [] (n+1)=yE G s xs [] (j+1):=zCj xs (n+1) (j+1) (fun i z=>by
   rw[show n+1+i=n+(i+1)from by omega,show j+1+i=j+(i+1)from by omega];exact h (i+1) z)
  simp only[yE];rw[ih,zAC x [j] [n] (by simpa using h 0)]
theorem zEw{G G2:Gh}{s d:Nat}:(us:List T)→ ∀(n j:Nat)(q:List Nat),(∀i z,G2.hd d (z++[n+i])=G.hd s (z++((j+i)::q)))→yE G2 d us [] n=yE G s us q j
 | [],_,_,_,_=>by simp only[yE]
 |x::xs,n,j,q,h=>by
  have ih:yE G2 d xs [] (n+1)=yE G s xs q (j+1):=zEw xs (n+1) (j+1) q (fun i z=>by
   rw[show n+1+i=n+(i+1)from by omega,show j+1+i=j+(i+1)from by omega];exact h (i+1) z)
  simp only[yE];rw[ih,zAC x (j::q) [n] (by simpa using h 0)]
section
variable {P:Program}{Γ:Ctx}{E:Env}{o:Oper}{d:Nat}
theorem zNG{St:Stb}{G:Gh}{w:World}{r:Nat}{q:List Nat}{k:Nat}{us:List T}(h:R St G w r (.sl k us) q){size:Nat}(hk:size=k):
  ∃xa c,G.hd r q=.slice xa us.length c∧ ∀w2:World,w2.heap=w.heap→(Builtin.firstCells size us.length (.slice xa us.length c)).run P w2=.ok (yE G r us q 0).toArray w2:=by
 simp only[R]at h;rcases h with⟨rfl,a1,h1⟩|⟨b,cap,cs,et,h1,h2,h3,h4,h5,h6,h7,h8⟩
 ·exact⟨a1,0,h1,fun w2 _=>by cases a1<;>simp[Builtin.firstCells,loadCells,loadCellsFrom,yE]⟩
 ·refine⟨_,_,h1,fun w2 hw2=>?_⟩
  have hl:=zAz us q 0 b 0 h8;refine run_firstCells_some (P:=P) w2 size us.length ⟨b,0,none⟩ _ _ _ ?_ (fun j v hv=>?_)
  ·rw[wS,hk]
   exact wV us (zBg us q 0 b 0 h8).2
  ·have:=zBb us q 0 b 0 hl j v hv
   rw[uO];simp only[yP]at this;simpa[World.cell?,hw2]using this
theorem zBi{G:Gh}{a:Act}{w:World}(hrep:Rep Γ E G a.tmps w){s:Nat}{t:T}(h:E s=some t)(ht:t.single=true):a.eval (.tmp s)=G.hd s []:=by
 rw[wI (hrep.ent s t h).1,xP ht]
theorem zJw(t e:TypeId)(ti:TypeInfo)(z:Value)(k s0 y:Nat)(xs us:List T)(ho:o.op=.call { callee:=.builtin .append,args:=#[.tmp s0,.tmp y],argTypes:=#[t,t] })(hdst:o.dst=some d)(hd:d<Γ.N)
  (ht:P.underlying t=some (.slice e))(hi:P.info? e=some ti)(hz:ti.zero=some z)(hk:ti.size=k)(hk0:0<k)(hzk:z.cells.size=k)(hb:ti.bytes≤2048)
  (hs0:E s0=some (.sl k xs))(hy:E y=some (.sl k us))(hs0d:s0≠d)(hyd:y≠d)(hys:y≠s0)(hnm:xs.length+us.length≤68719476736):
  wN P Γ o E (E.app (aWr d s0 (some y) k (xs++us)) (zA9 d s0 (some y))):=by
 refine wN.value hdst fun a w G hrep=>?_
 obtain⟨_,y2,y3⟩:=hrep.ent y _ hy;simp only[Top]at y3;obtain⟨xa,c,h1,h2⟩:=zNG (P:=P) y2 hk;have hus:yS us=true∧ ∀u∈us,u.size=k:=by
  simp only[R]at y2;rcases y2 with⟨rfl,_⟩|⟨b,cap,cs,et,_,_,_,_,_,_,_,h8⟩
  ·simp[yS]
  ·exact⟨jZ (St:=Γ.St) (k:=k) us [] 0 b 0 (zAz us [] 0 b 0 h8),(zBg us [] 0 b 0 h8).2⟩
 have hn:zGL Γ E G d s0 (some y) k xs.length us (fun j z'=>G.hd y (z'++[j])) (yE G y us [] 0):=
  ⟨hus.2,hus.1,y3,fun j z'=>hrep.mem.one _ _,by rw[wS];exact wV us hus.2,fun y' hy'=>by simp at hy';subst hy';exact⟨hyd,hys,hy,fun _ _=>rfl⟩,fun h=>by simp at h,
   fun G2 hG2 o v hv=>by rw[←zCj us xs.length 0 (fun i z'=>by rw[hG2,Je])];exact hv⟩
 obtain⟨v,w',hrun,G',hG'⟩:=zB6 (P:=P) (ty:=o.type) hrep hd ht hi hz hk hk0 hzk hb hs0 hs0d hn (xv:=a.eval (.tmp y)) ⟨.inl ⟨e,xa,c,ht,by rw[zBi hrep hy rfl,h1],h2⟩⟩ (fun v hv=>zCU hrep.mem us [] 0 v hv) hnm;refine⟨v,w',?_,G',hG'⟩;rw[←zBi hrep hs0 rfl]at hrun;simp[execOp,ho,resolve,invoke,builtin,hrun]
theorem zJx(t e:TypeId)(ti:TypeInfo)(z:Value)(k s0:Nat)(y:Operand)(r:Nat)(q:List Nat)(xs us:List T)(ho:o.op=.call { callee:=.builtin .append,args:=#[.tmp s0,y],argTypes:=#[t,t] })(hdst:o.dst=some d)(hd:d<Γ.N)
  (ht:P.underlying t=some (.slice e))(hi:P.info? e=some ti)(hz:ti.zero=some z)(hk:ti.size=k)(hk0:0<k)(hzk:z.cells.size=k)(hb:ti.bytes≤2048)
  (hs0:E s0=some (.sl k xs))(hy:tH E y=some (r,q,.sl k us))(hf:kZ us=true)(hs0d:s0≠d)(hnm:xs.length+us.length≤68719476736):
  wN P Γ o E (E.app (aWr d s0 none k (xs++us)) (zA9 d s0 none)):=by
 refine wN.value hdst fun a w G hrep=>?_
 obtain⟨y2,y1⟩:=qY hrep hy rfl;obtain⟨xa,c,h1,h2⟩:=zNG (P:=P) y2 hk;have hus:(∀u∈us,u.size=k)∧ ∀j u,us[j]? =some u→R Γ.St G w r u (j::q):=by
  simp only[R]at y2;rcases y2 with⟨rfl,_⟩|⟨b,cap,cs,et,_,_,_,_,_,_,_,h8⟩
  ·simp
  ·refine⟨(zBg us q 0 b 0 h8).2,fun j u hu=>?_⟩
   have:=(jL us q 0 b 0 k j u h8 hu).2.2;simpa using this
 have hcl:=kI us hf;have hn:zGL Γ E G d s0 none k xs.length us (fun j z'=>G.hd r (z'++(j::q))) (yE G r us q 0):=
  ⟨hus.1,hcl.2,hcl.1,fun j z'=>hrep.mem.one _ _,by rw[wS];exact wV us hus.1,fun y' hy'=>by simp at hy',
   fun _ j u hu G2 w2 hG2=>zJv u (j::q) [xs.length+j] (zI3 us hf j u hu) (fun z'=>hG2 z') (hus.2 j u hu),
   fun G2 hG2 o v hv=>by rw[←zEw us xs.length 0 q (fun i z'=>by rw[hG2,Je])];exact hv⟩
 obtain⟨v,w',hrun,G',hG'⟩:=zB6 (P:=P) (ty:=o.type) hrep hd ht hi hz hk hk0 hzk hb hs0 hs0d hn (xv:=a.eval y) ⟨.inl ⟨e,xa,c,ht,by rw[y1,h1],h2⟩⟩ (fun v hv=>zCU hrep.mem us q 0 v hv) hnm;refine⟨v,w',?_,G',hG'⟩;rw[←zBi hrep hs0 rfl]at hrun;simp[execOp,ho,resolve,invoke,builtin,hrun]
mutual
theorem zQ4:(u:T)→zFh u=true→(roT u).flat=true
 |.agg xs,h=>by simp only[zFh]at h;simp only[roT,T.flat];exact zFi xs h
 |.lit _,_|.sl _ _,_|.ptr _,_=>by simp[roT,T.flat]
 |.any,h|.ro _,h|.same _ _,h|.addr _ _,h|.sub _ _ _ _ _,h|.tup _,h=>by simp[zFh]at h
theorem zFi:(xs:List T)→zBh xs=true→kZ (roT.roTs xs)=true
 | [],_=>by simp[roT.roTs,kZ]
 |x::xs,h=>by
  simp only[zBh,J4]at h;simp only[roT.roTs,kZ,J4];exact⟨zQ4 x h.1,zFi xs h.2⟩
end
theorem zJy(t e:TypeId)(ti:TypeInfo)(z:Value)(k s0:Nat)(y:Operand)(r:Nat)(q:List Nat)(xs ys:List T)(ho:o.op=.call { callee:=.builtin .append,args:=#[.tmp s0,y],argTypes:=#[t,t] })(hdst:o.dst=some d)(hd:d<Γ.N)
  (ht:P.underlying t=some (.slice e))(hi:P.info? e=some ti)(hz:ti.zero=some z)(hk:ti.size=k)(hk0:0<k)(hzk:z.cells.size=k)(hb:ti.bytes≤2048)
  (hs0:E s0=some (.sl k xs))(hy:tH E y=some (r,q,.ro (.sl k ys)))(hro:zBh ys=true)(hys:∀u∈ys,u.size=k)(hs0d:s0≠d)(hnm:xs.length+ys.length≤68719476736):
  wN P Γ o E (E.app (aWr d s0 none k (xs++roT.roTs ys)) (zA9 d s0 none)):=by
 refine wN.value hdst fun a w G hrep=>?_
 obtain⟨y2,y1⟩:=qY hrep hy rfl;obtain⟨xa,c,h1,h2,h3,h4⟩:=zCQ y2;have hf:=zFi ys hro;have hcl:=kI _ hf;have hlen:(roT.roTs ys).length=ys.length:=zFM ys;have hsz:∀u∈roT.roTs ys,u.size=k:=zGN ys hys (fun u hu=>zK3 ys hro u hu);obtain⟨cs',o',h5,h6⟩:∃(cs':Array Value)(o':Nat),RoL Γ.St ys cs' o' k∧(ys≠[]→ ∃b et fr,xa=some ⟨b,o',none⟩∧Γ.St b=some (.cells cs' et fr)):=by
  by_cases hne:ys=[]
  ·subst hne;exact⟨#[],0,by simp[RoL],fun h=>absurd rfl h⟩
  ·obtain⟨b,o',cs',et,fr,h5,h6,h7⟩:=h4 hne
   exact⟨cs',o',h7,fun _=>⟨b,et,fr,h5,h6⟩⟩
 let f2:Nat→List Nat→Value:=fun j z'=>match ys[j]? with
  |some u=>jO (zDF u cs' (o'+j*k) z'.reverse)
  |none=>.bool false
 have hf2:∀j u,ys[j]? =some u→ ∀z',f2 j z'=jO (zDF u cs' (o'+j*k) z'.reverse):=fun j u hu z'=>by simp[f2,hu]
 let G0:Gh:={ G with hd:=fun s z'=>if s=d then(match z'.getLast? with
  |some j=>f2 j z'.dropLast
  |none=>.bool false)else G.hd s z' }
 have hG0:∀j z',G0.hd d (z'++[j])=f2 j z':=fun j z'=>by simp[G0]
 have hvals:∀(G2:Gh)(n:Nat),(∀j z',G2.hd d (z'++[n+j])=f2 j z')→ ∀(i:Nat)(v:Value),(yE G2 d (roT.roTs ys) [] n)[i]? =some v→cs'[o'+i]? =some v:=by
  intro G2 n hG2 i v hv;exact zNF ys cs' o' k n h5 hys (fun j u hu z'=>by rw[hG2,hf2 j u hu]) i v hv
 have hload:∀w2:World,w2.heap=w.heap→(Builtin.firstCells ti.size ys.length (.slice xa ys.length c)).run P w2=.ok (yE G0 d (roT.roTs ys) [] 0).toArray w2:=by
  intro w2 hw2
  by_cases hne:ys=[]
  ·subst hne
   cases xa<;>simp[Builtin.firstCells,loadCells,loadCellsFrom,roT.roTs,yE]
  ·obtain⟨b,et,fr,rfl,h7⟩:=h6 hne
   refine run_firstCells_some (P:=P) w2 ti.size ys.length ⟨b,o',none⟩ _ _ _ ?_ (fun j v hv=>?_)
   ·rw[wS,hk,wV _ hsz,hlen]
   ·have:=hvals G0 0 (fun j z'=>by rw[Je];exact hG0 j z') j v hv
    rw[uO];have h8:=hrep.mem.st b _ h7;simp[World.cell?,hw2,h8,this]
 have hone2:∀j z',(f2 j z').oneCell'=true:=fun j z'=>by
  dsimp only[f2];split
  ·exact zBc _
  ·rfl
 have hn:zGL Γ E G d s0 none k xs.length (roT.roTs ys) f2 (yE G0 d (roT.roTs ys) [] 0):=by
  refine⟨hsz,hcl.2,hcl.1,hone2,by rw[wS];exact wV _ hsz,fun y' hy'=>by simp at hy',fun _ j u hu G2 w2 hG2=>?_,fun G2 hG2 i v hv=>?_⟩
  ·obtain⟨u0,hu0,rfl⟩:=zK4 ys j u hu
   exact zQv u0 cs' (o'+j*k) [xs.length+j] (fun z'=>by rw[hG2 z',hf2 j u0 hu0]) (zGm ys cs' o' k j u0 h5 hu0)
  ·rw[←zCj (roT.roTs ys) xs.length 0 (fun i z'=>by rw[hG2,Je];exact(hG0 i z').symm)]
   exact hv
 have hones:∀v∈yE G0 d (roT.roTs ys) [] 0,v.oneCell'=true:=by
  intro v hv;refine zDL (fun s z'=>?_) _ [] 0 v hv;simp only[G0];split
  ·split
   ·exact hone2 _ _
   ·rfl
  ·exact hrep.mem.one _ _
 have happ:zGK P t e ti (a.eval y) (roT.roTs ys).length (yE G0 d (roT.roTs ys) [] 0) w:=⟨.inl ⟨e,xa,c,ht,by rw[y1,h1,hlen],by rw[hlen];exact hload⟩⟩;obtain⟨v,w',hrun,G',hG'⟩:=zB6 (P:=P) (ty:=o.type) hrep hd ht hi hz hk hk0 hzk hb hs0 hs0d hn happ hones (by rw[hlen];exact hnm);refine⟨v,w',?_,G',hG'⟩;rw[←zBi hrep hs0 rfl]at hrun;simp[execOp,ho,resolve,invoke,builtin,hrun]
end
end Go.Ab

namespace Go.Ab
open Go
theorem zFN:(us:List T)→tZ us=us.flatMap tK
 | []=>rfl
 |u::us=>by simp[tZ,zFN us]
theorem zCk(u:T)(h:u.zOk=true):∀m,zAh (J1 m u)=true
 |0=>rfl
 |m+1=>by simp[Jq,zAh,h,zCk u h m]
section
variable {P:Program}{Γ:Ctx}{E:Env}{o:Oper}{d:Nat}
theorem zGO(t t2 e:TypeId)(k2:IntKind)(ti:TypeInfo)(z:Value)(u:T)(k s0:Nat)(y:Operand)(kd:IntKind)(m:Nat)(xs:List T)(ho:o.op=.call { callee:=.builtin .append,args:=#[.tmp s0,y],argTypes:=#[t,t2] })(hdst:o.dst=some d)(hd:d<Γ.N)
  (ht:P.underlying t=some (.slice e))(ht2:P.underlying t2=some (.int k2))(hi:P.info? e=some ti)(hz:ti.zero=some z)(hk:ti.size=k)(hk0:0<k)(hb:ti.bytes≤2048)(hu:u.zOk=true)(hv:tK u=z.cells.toList)(hus:u.size=k)
  (hs0:E s0=some (.sl k xs))(hy:opT E y=some (.lit (.int kd m)))(hs0d:s0≠d)(hnm:xs.length+m≤68719476736):
  wN P Γ o E (E.app (aWr d s0 none k (xs++J1 m u)) (zA9 d s0 none)):=by
 refine wN.value hdst fun a w G hrep=>?_
 have hzk:z.cells.size=k:=by rw[←Ki,←hv,wX u hu,hus]
 have hzo:=zCk u hu m;have hcl:=zB5 _ hzo
 let f2:Nat→List Nat→Value:=fun _ z'=>jO (zhd u z'.reverse)
 have hnvl:((Builtin.zeroCells z.cells m).toList).length=m*k:=by simp[Builtin.zeroCells,hzk]
 have hn:zGL Γ E G d s0 none k xs.length (J1 m u) f2 (Builtin.zeroCells z.cells m).toList:=by
  refine⟨fun x hx=>by simp at hx;rw[hx.2];exact hus,hcl.2,hcl.1,fun _ _=>zBc _,by rw[hnvl];simp,fun y' hy'=>by simp at hy',fun _ j x hx G2 w2 hG2=>?_,fun G2 hG2 i v hv'=>?_⟩
  ·rw[Kz]at hx
   split at hx
   ·simp at hx;subst hx;exact zJp u _ hu (fun z'=>hG2 z')
   ·cases hx
  ·have h1:yE G2 d (J1 m u) [] xs.length=tZ (J1 m u):=zDH _ [] xs.length hzo (fun j x hx z'=>by
    rw[Kz]at hx;split at hx
    ·simp at hx;subst hx;exact hG2 j z'
    ·cases hx)
   rw[h1,zFN]at hv';obtain⟨h2,h3⟩:=zJq tK u k (by rw[wX u hu,hus]) hk0 m i v hv';rw[hv,K6,←hzk]at h3;have h4:i<m*z.cells.size:=by rw[hzk];exact h2
   simp[Builtin.zeroCells,h4,getElem!_def,h3]
 have hone:∀v∈(Builtin.zeroCells z.cells m).toList,v.oneCell'=true:=by
  intro v hv';simp only[Builtin.zeroCells,Array.toList_map,Array.toList_range,Jo,Kk]at hv';obtain⟨i,hi',rfl⟩:=hv';have h1:i%z.cells.size<z.cells.size:=U6 _ (by omega);have h2:z.cells[i%z.cells.size]! =z.cells[i%z.cells.size]:=by simp[h1]
  rw[h2];exact zFf u hu _ (by rw[hv];exact Array.mem_toList_iff.2 (Array.getElem_mem h1))
 have happ:zGK P t2 e ti (a.eval y) (J1 m u).length (Builtin.zeroCells z.cells m).toList w:=by
  refine⟨.inr ⟨k2,kd,z,ht2,?_,hz,by simp,?_,by rw[hzk,hk]⟩⟩
  ·rw[(wO hrep hy).1];simp
  ·simp only[Ji]
   exact Kv (Kj (show m≤68719476736 by omega) hb) (by decide)
 obtain⟨v,w',hrun,G',hG'⟩:=zB6 (P:=P) (ty:=o.type) hrep hd ht hi hz hk hk0 hzk hb hs0 hs0d hn happ hone (by simpa using hnm);refine⟨v,w',?_,G',hG'⟩;rw[←zBi hrep hs0 rfl]at hrun;simp[execOp,ho,resolve,invoke,builtin,hrun]
end
end Go.Ab

namespace Go.Ab
open Go
def zK5(G:Gh)(nd:List (Nat×List Nat×T)):Value:=
 match nd with
 | [x]=>tY G x.1 x.2.2 x.2.1
 |nd=>.tuple (nd.map fun x=>tY G x.1 x.2.2 x.2.1).toArray
def FnC(P:Program)(f:FuncId)(us:List T)(res:List T)(rws:List (Nat×T)):Prop:=
 ∀(St:Stb)(W:Nat→Prop)(w:World)(G:Gh)(vs:Array Value),vs.size=us.length→
  (∀(i:Nat) u,us[i]? =some u→vs[i]? =some (mkV G i u [])∧R St G w i u [])→Mem ⟨St,W,w,0⟩ G w→
  Calls P f vs w fun e w'=> ∃(S':Stb)(G':Gh)(nd:List (Nat×List Nat×T)),zDo St S' W w.heap.size∧e=.returned (zK5 G' nd)∧Mem ⟨S',W,w,0⟩ G' w'∧nd.map (·.2.2)=res∧
   (∀x∈nd,R S' G' w' x.1 x.2.2 x.2.1∧us.length≤x.1)∧(nd.map (·.1)).Nodup∧
   ∀i u',(i,u')∈rws→R S' G' w' i u' []∧ ∃u,us[i]? =some u∧mkV G' i u' []=mkV G i u []
mutual
def wQ:T→Bool
 |.ro _=>false
 |.sl _ xs|.agg xs|.tup xs=>vP xs
 |.ptr t=>wQ t
 |.any|.lit _|.same _ _|.addr _ _|.sub _ _ _ _ _=>true
def vP:List T→Bool
 | []=>true
 |x::xs=>wQ x&&vP xs
end
section
variable {St St':Stb}{G:Gh}{w:World}{s:Nat}
mutual
theorem zPd:(t:T)→ ∀(p:List Nat),wQ t=true→R St G w s t p→R St' G w s t p
 |.ro _,_,h,_=>by simp[wQ]at h
 |.sl k xs,p,h,hr=>by
  simp only[wQ,R]at h hr ⊢
  rcases hr with hr|⟨b,cap,cs,e,h1,h2,h3,h4,h5,h6,h7,h8⟩
  ·exact .inl hr
  ·exact .inr ⟨b,cap,cs,e,h1,h2,h3,h4,h5,h6,h7,zUQ xs p 0 b 0 k h h8⟩
 |.agg xs,p,h,hr|.tup xs,p,h,hr=>by simp only[wQ,R]at h hr ⊢;exact zUR xs p 0 h hr
 |.ptr t,p,h,hr=>by
  simp only[wQ,R]at h hr ⊢
  obtain⟨b,cs,e,h1,h2,h3,h6,h4,h5⟩:=hr;exact⟨b,cs,e,h1,h2,h3,h6,h4,zPd t _ h h5⟩
 |.any,_,_,hr|.lit _,_,_,hr|.same _ _,_,_,hr|.addr _ _,_,_,hr|.sub _ _ _ _ _,_,_,hr=>by first|(simp only[R];done)|simpa only[R]using hr
theorem zUQ:(xs:List T)→ ∀(p:List Nat)(i b o k:Nat),vP xs=true→RL St G w s xs p i b o k→RL St' G w s xs p i b o k
 | [],_,_,_,_,_,_,_=>by simp only[RL]
 |x::xs,p,i,b,o,k,h,hr=>by
  simp only[vP,J4,RL]at h hr ⊢
  exact⟨hr.1,zPd x _ h.1 hr.2.1,zUQ xs p (i+1) b _ k h.2 hr.2.2⟩
theorem zUR:(xs:List T)→ ∀(p:List Nat)(i:Nat),vP xs=true→RF St G w s xs p i→RF St' G w s xs p i
 | [],_,_,_,_=>by simp only[RF]
 |x::xs,p,i,h,hr=>by
  simp only[vP,J4,RF]at h hr ⊢
  exact⟨zPd x _ h.1 hr.1,zUR xs p (i+1) h.2 hr.2⟩
end
end
section
variable {St St':Stb} (h:∀b x,St b=some x→St' b=some x)
 include h
mutual
theorem tS:(t:T)→ ∀(cs:Array Value)(o:Nat),RoC St t cs o→RoC St' t cs o
 |.sl k xs,cs,o,hr=>by
  simp only[RoC]at hr ⊢
  obtain⟨a,c,h1,h2,h3,h4⟩:=hr;refine⟨a,c,h1,h2,h3,fun hne=>?_⟩;obtain⟨b,o',cs',e,fr,h5,h6,h7⟩:=h4 hne;exact⟨b,o',cs',e,fr,h5,h b _ h6,zK6 xs cs' o' k h7⟩
 |.agg xs,cs,o,hr=>by simp only[RoC]at hr ⊢;exact zK7 xs cs o hr
 |.ptr t,cs,o,hr=>by
  simp only[RoC]at hr ⊢
  obtain⟨b,o',cs',e,fr,h5,h6,h7⟩:=hr;exact⟨b,o',cs',e,fr,h5,h b _ h6,tS t cs' o' h7⟩
 |.any,_,_,hr|.lit _,_,_,hr|.ro _,_,_,hr|.same _ _,_,_,hr|.addr _ _,_,_,hr|.sub _ _ _ _ _,_,_,hr|.tup _,_,_,hr=>by first|(simp only[RoC]at hr;done)|simpa only[RoC]using hr
theorem zK6:(xs:List T)→ ∀(cs:Array Value)(o k:Nat),RoL St xs cs o k→RoL St' xs cs o k
 | [],_,_,_,_=>by have _:=h;simp only[RoL]
 |x::xs,cs,o,k,hr=>by simp only[RoL]at hr ⊢;exact⟨tS x cs o hr.1,zK6 xs cs _ k hr.2⟩
theorem zK7:(xs:List T)→ ∀(cs:Array Value)(o:Nat),RoF St xs cs o→RoF St' xs cs o
 | [],_,_,_=>by have _:=h;simp only[RoF]
 |x::xs,cs,o,hr=>by simp only[RoF]at hr ⊢;exact⟨tS x cs o hr.1,zK7 xs cs _ hr.2⟩
end
end
section
variable {St St':Stb}{G:Gh}{w:World}{s:Nat} (h:∀b x,St b=some x→St' b=some x)
 include h
mutual
theorem zJz:(t:T)→ ∀(p:List Nat),R St G w s t p→R St' G w s t p
 |.ro t,_,hr=>by simp only[R]at hr ⊢;exact tS h t _ _ hr
 |.sl k xs,p,hr=>by
  simp only[R]at hr ⊢
  rcases hr with hr|⟨b,cap,cs,e,h1,h2,h3,h4,h5,h6,h7,h8⟩
  ·exact .inl hr
  ·exact .inr ⟨b,cap,cs,e,h1,h2,h3,h4,h5,h6,h7,zNH xs p 0 b 0 k h8⟩
 |.agg xs,p,hr|.tup xs,p,hr=>by simp only[R]at hr ⊢;exact zNI xs p 0 hr
 |.ptr t,p,hr=>by
  simp only[R]at hr ⊢
  obtain⟨b,cs,e,h1,h2,h3,h6,h4,h5⟩:=hr;exact⟨b,cs,e,h1,h2,h3,h6,h4,zJz t _ h5⟩
 |.any,_,hr|.lit _,_,hr|.same _ _,_,hr|.addr _ _,_,hr|.sub _ _ _ _ _,_,hr=>by first|(simp only[R];done)|simpa only[R]using hr
theorem zNH:(xs:List T)→ ∀(p:List Nat)(i b o k:Nat),RL St G w s xs p i b o k→RL St' G w s xs p i b o k
 | [],_,_,_,_,_,_=>by have _:=h;simp only[RL]
 |x::xs,p,i,b,o,k,hr=>by simp only[RL]at hr ⊢;exact⟨hr.1,zJz x _ hr.2.1,zNH xs p (i+1) b _ k hr.2.2⟩
theorem zNI:(xs:List T)→ ∀(p:List Nat)(i:Nat),RF St G w s xs p i→RF St' G w s xs p i
 | [],_,_,_=>by have _:=h;simp only[RF]
 |x::xs,p,i,hr=>by simp only[RF]at hr ⊢;exact⟨zJz x _ hr.1,zNI xs p (i+1) hr.2⟩
end
end
mutual
def strip:T→T
 |.lit v=>.lit v
 |.ro u=>if u.single then u else .any
 |.sl k xs=>.sl k (wZ xs)
 |.agg xs=>.agg (wZ xs)
 |.ptr t=>.ptr (strip t)
 |.any|.same _ _|.addr _ _|.sub _ _ _ _ _|.tup _=>.any
def wZ:List T→List T
 | []=>[]
 |x::xs=>strip x::wZ xs
end
theorem kA:(xs:List T)→(wZ xs).length=xs.length
 | []=>rfl
 |x::xs=>by simp[wZ,kA xs]
mutual
theorem zDM:(t:T)→(strip t).size=t.size
 |.agg xs=>by simp only[strip,T.size];exact zFO xs
 |.ro u=>by
  simp only[strip];split
  ·rename_i h;cases u<;>simp[T.single]at h<;>simp[T.size]
  ·simp[T.size]
 |.lit _|.sl _ _|.ptr _|.any|.same _ _|.addr _ _|.sub _ _ _ _ _|.tup _=>by simp[strip,T.size]
theorem zFO:(xs:List T)→T.sizes (wZ xs)=T.sizes xs
 | []=>rfl
 |x::xs=>by simp only[wZ,T.sizes,zDM x,zFO xs]
end
theorem qT{St:Stb}{u:T}(hu:u.single=true){v:Value}{cs:Array Value}{o:Nat}(h:RoC St u #[v] 0)(hc:cs[o]? =some v):RoC St u cs o:=by
 cases u<;>simp[T.single]at hu<;>simp only[RoC]at h ⊢ <;>simp at h<;>first
  |exact⟨v,hc,h⟩
  |(obtain⟨rfl,h2⟩:=h;exact⟨hc,h2⟩)
  |(obtain⟨a,c,rfl,h2⟩:=h;exact⟨a,c,hc,by simpa using h2⟩)
  |(obtain⟨b,o',rfl,h2⟩:=h;obtain⟨cs',⟨e,f1,f2,h3⟩,h4⟩:=h2;exact⟨b,o',cs',e,(f1,f2),hc,h3,h4⟩)
section
variable {St Sc:Stb}{G:Gh}{w:World}{s:Nat} (hone:∀s p,(G.hd s p).oneCell'=true) (hSt:∀b x,St b=some x→Sc b=some x) (hSc:∀b,(∃y,G.ow b=some (s,y))→Sc b=w.heap[b]?)
 include hone hSt hSc
mutual
theorem frz:(t:T)→ ∀(p:List Nat)(b o:Nat)(cs:Array Value)(e:TypeId)(fr:Nat×Nat),w.heap[b]? =some (.cells cs e fr)→Loc G w s t p b o→R St G w s t p→RoC Sc (strip t) cs o
 |.agg xs,p,b,o,cs,e,fr,hb,hl,hr=>by simp only[Loc,R,strip,RoC]at hl hr ⊢;exact zXk xs p 0 b o cs e fr hb hl.2 hr
 |.tup _,_,_,_,_,_,_,_,hl,_=>by have _:=hSc;simp only[Loc]at hl
 |.any,p,b,o,cs,e,fr,hb,hl,hr|.same _ _,p,b,o,cs,e,fr,hb,hl,hr|.addr _ _,p,b,o,cs,e,fr,hb,hl,hr|.sub _ _ _ _ _,p,b,o,cs,e,fr,hb,hl,hr=>by
  have h1:=(vD rfl hl).2.2;simp only[yP,World.cell?,hb]at h1;simp only[strip,RoC];exact⟨_,by simpa using h1,hone s p⟩
 |.lit v,p,b,o,cs,e,fr,hb,hl,hr=>by
  have h1:=(vD rfl hl).2.2;simp only[yP,World.cell?,hb]at h1;simp only[strip,RoC,R]at hr ⊢
  exact⟨by rw[←hr];simpa using h1,by rw[←hr];exact hone s p⟩
 |.ro u,p,b,o,cs,e,fr,hb,hl,hr=>by
  have h1:=(vD rfl hl).2.2;simp only[yP,World.cell?,hb]at h1;simp only[strip,R]at hr ⊢
  split
  ·rename_i hu
   exact qT hu (tS hSt u _ _ hr) (by simpa using h1)
  ·simp only[RoC];exact⟨_,by simpa using h1,hone s p⟩
 |.sl k xs,p,b,o,cs,e,fr,hb,hl,hr=>by
  have h1:=(vD rfl hl).2.2;simp only[yP,World.cell?,hb]at h1;exact qT rfl (zK8 (.sl k xs) p rfl hr) (by simpa using h1)
 |.ptr t,p,b,o,cs,e,fr,hb,hl,hr=>by
  have h1:=(vD rfl hl).2.2;simp only[yP,World.cell?,hb]at h1;exact qT rfl (zK8 (.ptr t) p rfl hr) (by simpa using h1)
theorem zXk:(xs:List T)→ ∀(p:List Nat)(j b o:Nat)(cs:Array Value)(e:TypeId)(fr:Nat×Nat),w.heap[b]? =some (.cells cs e fr)→vF G w s xs p j b o→RF St G w s xs p j→RoF Sc (wZ xs) cs o
 | [],_,_,_,_,_,_,_,_,_,_=>by have _:=hone;have _:=hSt;have _:=hSc;simp only[wZ,RoF]
 |x::xs,p,j,b,o,cs,e,fr,hb,hl,hr=>by
  simp only[vF,RF,wZ,RoF]at hl hr ⊢
  exact⟨frz x _ b o cs e fr hb hl.1 hr.1,by rw[zDM];exact zXk xs p (j+1) b _ cs e fr hb hl.2 hr.2⟩
theorem zXl:(xs:List T)→ ∀(p:List Nat)(i b o k:Nat)(cs:Array Value)(e:TypeId)(fr:Nat×Nat),w.heap[b]? =some (.cells cs e fr)→RL St G w s xs p i b o k→RoL Sc (wZ xs) cs o k
 | [],_,_,_,_,_,_,_,_,_,_=>by have _:=hone;have _:=hSt;have _:=hSc;simp only[wZ,RoL]
 |x::xs,p,i,b,o,k,cs,e,fr,hb,hr=>by
  simp only[RL,wZ,RoL]at hr ⊢
  exact⟨frz x _ b o cs e fr hb hr.1.1 hr.2.1,zXl xs p (i+1) b _ k cs e fr hb hr.2.2⟩
theorem zK8:(t:T)→ ∀(p:List Nat),t.single=true→R St G w s t p→RoC Sc (strip t) #[G.hd s p] 0
 |.agg _,_,h,_|.tup _,_,h,_=>by simp[T.single]at h
 |.any,p,_,_|.same _ _,p,_,_|.addr _ _,p,_,_|.sub _ _ _ _ _,p,_,_=>by simp only[strip,RoC];exact⟨_,by simp,hone s p⟩
 |.lit v,p,_,hr=>by simp only[strip,RoC,R]at hr ⊢;exact⟨by simp[hr],by rw[←hr];exact hone s p⟩
 |.ro u,p,_,hr=>by
  simp only[strip,R]at hr ⊢
  split
  ·exact tS hSt u _ _ hr
  ·simp only[RoC];exact⟨_,by simp,hone s p⟩
 |.sl k xs,p,_,hr=>by
  simp only[strip,R,RoC]at hr ⊢
  rw[kA];rcases hr with⟨rfl,a,h1⟩|⟨b,cap,cs,e,h1,h2,h3,h4,h5,h6,h7,h8⟩
  ·exact⟨a,0,by simp[h1],by simp,by simp[maxLen],fun h=>by simp[wZ]at h⟩
  ·exact⟨some ⟨b,0,none⟩,cap,by simp[h1],h3,h4,fun _=>⟨b,0,cs,e,(0,0),rfl,by rw[hSc b ⟨_,h6⟩];exact h2,zXl xs p 0 b 0 k cs e (0,0) h2 h8⟩⟩
 |.ptr t,p,_,hr=>by
  simp only[strip,R,RoC]at hr ⊢
  obtain⟨b,cs,e,h1,h2,h3,h6,h4,h5⟩:=hr;exact⟨b,0,cs,e,(0,0),by simp[h1],by rw[hSc b ⟨_,h6⟩];exact h2,frz t _ b 0 cs e (0,0) h2 h4 h5⟩
end
end
end Go.Ab
