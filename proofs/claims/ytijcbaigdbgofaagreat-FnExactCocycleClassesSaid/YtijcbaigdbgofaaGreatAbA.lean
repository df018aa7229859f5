/- The program's CocycleClasses returns what the reference's returns,for all arguments;no conditions. -/
import Derived.Orders
import Derived.Laws.AppendOwn
import Derived.Laws.MakeOwn
import Derived.Great.BuildSlice
import Derived.Laws.Tables
open List renaming replicate→J1,length_append→J5,length_cons→J7,mem_cons→J8,getElem?_append_right→J9,append_assoc→Jb,append_nil→Jd,mem_append→Je,length_replicate→Jh,mem_map→Jm,getElem?_eq_some_iff→Jn,map_cons→Jo,replicate_succ→Jq,getElem?_append_left→Jv,length_take→Jw,nil_append→Jx,cons_append→K4,getElem?_map→K5,getElem?_replicate→Ke,all_eq_true→Kg,reverse_reverse→Kj,getElem?_append→Kl,mem_range→Kr,ext_getElem?→Kv,nodup_cons→L9,set_cons_succ→La,flatMap_cons→Lb,take_succ_cons→Lf,eq_nil_of_length_eq_zero→Lm,set_cons_zero→Lq,mem_of_getElem?→Lu,getElem?_drop→Lz,drop_eq_getElem_cons→H1,contains_eq_mem→Hd,flatMap_append→Ht,foldl_cons→Ge,map_nil→U6,getElem?_take_of_lt→U7,getElem?_cons_succ→Un,length_set→Qf,reverse_nil→Qi,map_toArray→Qj,reverse_append→Jap,not_mem_nil→Jau,cons→Jay,take_append_drop→Jb3,take_append→Jbb,reverse_cons→Jbd,map_take→Jbe,isEmpty_iff→Jbg,size_toArray→Jbt,getElem?_set_ne→Jd4
open Bool renaming and_eq_true→J3,false_eq_true→Hu,not_eq_true'→U2,false_and→Jbr
open Int renaming toNat_natCast→Ja
open Nat renaming zero_add→Jc,le_refl→Jg,mul_le_mul→Jy,succ_mul→K1,mul_le_mul_right→K9,sub_self→Kf,le_trans→Hc,min_eq_left→Hz,mod_lt→G4,add_zero→Gv,add_mul→Um,le_mul_of_pos_right→Uv,lt_of_lt_of_le→Jb1,mul_pos→Jbo
open Array renaming getElem?_setIfInBounds→Jj,getD_eq_getD_getElem?→Ki,length_toList→Kq,getElem?_toList→Kt,getElem?_eq_some_iff→Kz,range→Jc5
open Option renaming isSome_none→Us,map_none→Jb0
open Prod renaming mk→Jao
open Option renaming some→ik,none→im
open Bool renaming true→io,false→iq
theorem ir{p:Prop}[h:Decidable p](a:¬p):decide p=false:=decide_eq_false a
theorem iu{p:Prop}[h:Decidable p](a:p):decide p=true:=decide_eq_true a
namespace Go.Ab
open Go
inductive T where
 |any
 |lit (v:Value)
 |ro (t:T)
 |same (r:Nat) (p:List Nat)
 |addr (r:Nat) (p:List Nat)
 |sub (r:Nat) (p:List Nat) (k lo hi:Nat)
 |sl (k:Nat) (xs:List T)
 |agg (xs:List T)
 |ptr (t:T)
 |tup (xs:List T)
 deriving Inhabited
abbrev Stb:=Nat→Option Obj
mutual
def T.size:T→Nat
 |.agg xs=>T.sizes xs
 |_=>1
def T.sizes:List T→Nat
 | []=>0
 |x::xs=>x.size+T.sizes xs
end
mutual
def RoC(St:Stb):T→Array Value→Nat→Prop
 |.any,cs,o=> ∃v,cs[o]? =ik v∧v.oneCell'=io
 |.lit v,cs,o=>cs[o]? =ik v∧v.oneCell'=io
 |.ro _,_,_=>False
 |.sl k xs,cs,o=> ∃a c,cs[o]? =ik (.slice a xs.length c)∧xs.length≤c∧c≤maxLen∧
   (xs≠[]→ ∃b o' cs' e fr,a=ik ⟨b,o',im⟩∧St b=ik (.cells cs' e fr)∧RoL St xs cs' o' k)
 |.agg xs,cs,o=>RoF St xs cs o
 |.ptr t,cs,o=> ∃b o' cs' e fr,cs[o]? =ik (.pointer (ik ⟨b,o',im⟩))∧St b=ik (.cells cs' e fr)∧RoC St t cs' o'
 |.same _ _,_,_=>False
 |.addr _ _,_,_=>False
 |.sub _ _ _ _ _,_,_=>False
 |.tup _,_,_=>False
def RoL(St:Stb):List T→Array Value→Nat→Nat→Prop
 | [],_,_,_=>True
 |x::xs,cs,o,k=>RoC St x cs o∧RoL St xs cs (o+k) k
def RoF(St:Stb):List T→Array Value→Nat→Prop
 | [],_,_=>True
 |x::xs,cs,o=>RoC St x cs o∧RoF St xs cs (o+x.size)
end
structure Gh where
 hd:Nat→List Nat→Value
 ad:Nat→List Nat→Addr
 lb:Nat→Nat→Option (Bool×Nat×List Nat)
 ow:Nat→Option (Nat×List Nat)
def yR(w:World)(b o:Nat):Option Value:=w.cell? ⟨b,o,im⟩
mutual
def Loc(G:Gh)(w:World)(s:Nat):T→List Nat→Nat→Nat→Prop
 |.agg xs,p,b,o=>G.ad s p=⟨b,o,im⟩∧vK G w s xs p 0 b o
 |.tup _,_,_,_=>False
 |.any,p,b,o|.lit _,p,b,o|.ro _,p,b,o|.same _ _,p,b,o|.addr _ _,p,b,o|.sub _ _ _ _ _,p,b,o|.sl _ _,p,b,o|.ptr _,p,b,o=>
  G.ad s p=⟨b,o,im⟩∧G.lb b o=ik (iq,s,p)∧yR w b o=ik (G.hd s p)
def vK(G:Gh)(w:World)(s:Nat):List T→List Nat→Nat→Nat→Nat→Prop
 | [],_,_,_,_=>True
 |x::xs,p,j,b,o=>Loc G w s x (j::p) b o∧vK G w s xs p (j+1) b (o+x.size)
end
def zBi(v:Value)(k lo hi:Nat):Value:=
 match v with
 |.slice a _ c=>.slice (if c=lo then a else a.map (·.add (lo*k))) (hi-lo) (c-lo)
 |v=>v
mutual
def R(St:Stb)(G:Gh)(w:World)(s:Nat):T→List Nat→Prop
 |.any,_=>True
 |.lit v,p=>G.hd s p=v
 |.ro t,p=>RoC St t #[G.hd s p] 0
 |.same r q,p=>G.hd s p=G.hd r q
 |.addr r q,p=>G.hd s p=.pointer (ik (G.ad r q))
 |.sub r q k lo hi,p=>G.hd s p=zBi (G.hd r q) k lo hi
 |.sl k xs,p=>(xs=[]∧ ∃a,G.hd s p=.slice a 0 0)∨ ∃b cap cs e,G.hd s p=.slice (ik ⟨b,0,im⟩) xs.length cap∧
   w.heap[b]? =ik (.cells cs e (0,0))∧xs.length≤cap∧cap≤maxLen∧cap*k≤cs.size∧G.ow b=ik (s,p)∧
   (∀o,xs.length*k≤o→o<cap*k→G.lb b o=ik (io,s,p))∧RL St G w s xs p 0 b 0 k
 |.agg xs,p=>RF St G w s xs p 0
 |.ptr t,p=> ∃b cs e,G.hd s p=.pointer (ik ⟨b,0,im⟩)∧w.heap[b]? =ik (.cells cs e (0,0))∧cs.size=t.size∧G.ow b=ik (s,p)∧
   Loc G w s t (0::p) b 0∧R St G w s t (0::p)
 |.tup xs,p=>RF St G w s xs p 0
def RL(St:Stb)(G:Gh)(w:World)(s:Nat):List T→List Nat→Nat→Nat→Nat→Nat→Prop
 | [],_,_,_,_,_=>True
 |x::xs,p,i,b,o,k=>(Loc G w s x (i::p) b o∧x.size=k)∧R St G w s x (i::p)∧RL St G w s xs p (i+1) b (o+k) k
def RF(St:Stb)(G:Gh)(w:World)(s:Nat):List T→List Nat→Nat→Prop
 | [],_,_=>True
 |x::xs,p,j=>R St G w s x (j::p)∧RF St G w s xs p (j+1)
end
mutual
def xD(φ:Nat→List Nat→Prop):T→Prop
 |.same r p|.addr r p|.sub r p _ _ _=>φ r p
 |.sl _ xs|.agg xs|.tup xs=>xZ φ xs
 |.ptr t=>xD φ t
 |.any|.lit _|.ro _=>True
def xZ(φ:Nat→List Nat→Prop):List T→Prop
 | []=>True
 |x::xs=>xD φ x∧xZ φ xs
end
mutual
theorem xD.mono{φ ψ:Nat→List Nat→Prop}(h:∀r p,φ r p→ψ r p):(t:T)→xD φ t→xD ψ t
 |.same _ _,ht|.addr _ _,ht|.sub _ _ _ _ _,ht=>h _ _ ht
 |.sl _ xs,ht|.agg xs,ht|.tup xs,ht=>by simp only[xD]at ht ⊢;exact xZ.mono h xs ht
 |.ptr t,ht=>by simp only[xD]at ht ⊢;exact xD.mono h t ht
 |.any,_|.lit _,_|.ro _,_=>by simp[xD]
theorem xZ.mono{φ ψ:Nat→List Nat→Prop}(h:∀r p,φ r p→ψ r p):(xs:List T)→xZ φ xs→xZ ψ xs
 | [],_=>trivial
 |x::xs,hx=>⟨xD.mono h x hx.1,xZ.mono h xs hx.2⟩
end
mutual
theorem xD.triv{φ:Nat→List Nat→Prop}(h:∀r p,φ r p):(t:T)→xD φ t
 |.same _ _|.addr _ _|.sub _ _ _ _ _=>by simp only[xD];exact h _ _
 |.sl _ xs|.agg xs|.tup xs=>by simp only[xD];exact xZ.triv h xs
 |.ptr t=>by simp only[xD];exact xD.triv h t
 |.any|.lit _|.ro _=>by simp only[xD]
theorem xZ.triv{φ:Nat→List Nat→Prop}(h:∀r p,φ r p):(xs:List T)→xZ φ xs
 | []=>by simp only[xZ]
 |x::xs=>by simp only[xZ];exact⟨xD.triv h x,xZ.triv h xs⟩
end
abbrev yD(t:T):Prop:=xD (fun _ _=>False) t
abbrev xU(xs:List T):Prop:=xZ (fun _ _=>False) xs
def Blk(w w':World):Prop:=∀(b:Nat) cs e,w.heap[b]? =ik (.cells cs e (0,0))→ ∃cs',w'.heap[b]? =ik (.cells cs' e (0,0))∧cs'.size=cs.size
structure MovesE (G:Gh) (w:World) (G':Gh) (w':World) (s:Nat) (p:List Nat) (s':Nat) (p':List Nat):Prop where
 hd:∀z,G'.hd s' (z++p')=G.hd s (z++p)
 ad:∀z,z≠[]→G'.ad s' (z++p')=G.ad s (z++p)
 lb:∀b o f z,z≠[]→(∃y,G.ow b=ik (s,y))→G.lb b o=ik (f,s,z++p)→G'.lb b o=ik (f,s',z++p')∧yR w' b o=yR w b o
 ow:∀b z,z≠[]→G.ow b=ik (s,z++p)→G'.ow b=ik (s',z++p')
 blk:Blk w w'
structure zII (G:Gh) (w:World) (G':Gh) (w':World) (s:Nat) (p:List Nat) (s':Nat) (p':List Nat):Prop extends MovesE G w G' w' s p s' p' where
 sp:∀b o,(∃y,G.ow b=ik (s,y))→G.lb b o=ik (io,s,p)→G'.lb b o=ik (io,s',p')∧yR w' b o=yR w b o
 ow0:∀b,G.ow b=ik (s,p)→G'.ow b=ik (s',p')
def zAi(G G':Gh)(r:Nat)(p:List Nat):Prop:=G'.hd r p=G.hd r p∧G'.ad r p=G.ad r p
section
variable {St:Stb}{G:Gh}{w:World}{G':Gh}{w':World}{s:Nat}{p:List Nat}{s':Nat}{p':List Nat}
mutual
theorem zEz(hm:MovesE G w G' w' s p s' p'):(t:T)→ ∀(z:List Nat)(b o:Nat),z≠[]→(∃y,G.ow b=ik (s,y))→Loc G w s t (z++p) b o→Loc G' w' s' t (z++p') b o
 |.agg xs,z,b,o,hz,e6,h=>by
  simp only[Loc]at h ⊢
  exact⟨(hm.ad z hz).trans h.1,zIJ hm xs z 0 b o e6 h.2⟩
 |.any,z,b,o,hz,e6,h|.lit _,z,b,o,hz,e6,h|.ro _,z,b,o,hz,e6,h|.same _ _,z,b,o,hz,e6,h|.addr _ _,z,b,o,hz,e6,h|.sub _ _ _ _ _,z,b,o,hz,e6,h|.sl _ _,z,b,o,hz,e6,h|.ptr _,z,b,o,hz,e6,h=>by
  simp only[Loc]at h ⊢
  obtain⟨h1,h2,h3⟩:=h;have hl:=hm.lb b o iq z hz e6 h2;exact⟨(hm.ad z hz).trans h1,hl.1,by rw[hl.2,h3,hm.hd]⟩
 |.tup _,_,_,_,_,_,h=>by simp only[Loc]at h
theorem zIJ(hm:MovesE G w G' w' s p s' p'):(xs:List T)→ ∀(z:List Nat)(j b o:Nat),(∃y,G.ow b=ik (s,y))→vK G w s xs (z++p) j b o→vK G' w' s' xs (z++p') j b o
 | [],_,_,_,_,_,_=>by simp only[vK]
 |x::xs,z,j,b,o,e6,h=>by
  simp only[vK]at h ⊢
  exact⟨zEz hm x (j::z) b o (by simp) e6 h.1,zIJ hm xs z (j+1) b _ e6 h.2⟩
end
mutual
theorem zE0(hm:MovesE G w G' w' s p s' p'):(t:T)→ ∀(z:List Nat),z≠[]→xD (zAi G G') t→R St G w s t (z++p)→R St G' w' s' t (z++p')
 |.any,_,_,_,_=>by simp only[R]
 |.lit _,z,_,_,h=>by simp only[R]at h ⊢;rw[hm.hd];exact h
 |.ro _,z,_,_,h=>by simp only[R]at h ⊢;rw[hm.hd];exact h
 |.same r q,z,_,hk,h=>by simp only[R]at h ⊢;rw[hm.hd,hk.1];exact h
 |.addr r q,z,_,hk,h=>by simp only[R]at h ⊢;rw[hm.hd,hk.2];exact h
 |.sub r q k lo hi,z,_,hk,h=>by simp only[R]at h ⊢;rw[hm.hd,hk.1];exact h
 |.agg xs,z,_,hk,h=>by simp only[R,xD]at h hk ⊢;exact zE1 hm xs z 0 hk h
 |.tup xs,z,_,hk,h=>by simp only[R,xD]at h hk ⊢;exact zE1 hm xs z 0 hk h
 |.sl k xs,z,hz,hk,h=>by
  simp only[R,xD]at h hk ⊢
  rw[hm.hd];rcases h with h|⟨b,cap,cs,e,h1,h2,h3,h4,h5,h6,h7,h8⟩
  ·grind
  ·obtain⟨cs',cw,gy⟩:=hm.blk b cs e h2
   exact .inr ⟨b,cap,cs',e,h1,cw,h3,h4,by omega,hm.ow b z hz h6,fun o ho ho2=>(hm.lb b o io z hz ⟨_,h6⟩ (h7 o ho (by omega))).1,zJB hm xs z 0 b 0 k ⟨_,h6⟩ hk h8⟩
 |.ptr t,z,hz,hk,h=>by
  simp only[R,xD]at h hk ⊢
  rw[hm.hd];obtain⟨b,cs,e,h1,h2,h3,h6,h4,h5⟩:=h;obtain⟨cs',cw,gy⟩:=hm.blk b cs e h2;exact⟨b,cs',e,h1,cw,by omega,hm.ow b z hz h6,by grind[zEz],zE0 hm t (0::z) (by simp) hk h5⟩
theorem zJB(hm:MovesE G w G' w' s p s' p'):(xs:List T)→ ∀(z:List Nat)(i b o k:Nat),(∃y,G.ow b=ik (s,y))→xZ (zAi G G') xs→RL St G w s xs (z++p) i b o k→RL St G' w' s' xs (z++p') i b o k
 | [],_,_,_,_,_,_,_,_=>by simp only[RL]
 |x::xs,z,i,b,o,k,e6,hk,h=>by
  simp only[RL,xZ]at h hk ⊢
  exact⟨by grind[zEz],zE0 hm x (i::z) (by simp) hk.1 h.2.1,zJB hm xs z (i+1) b _ k e6 hk.2 h.2.2⟩
theorem zE1(hm:MovesE G w G' w' s p s' p'):(xs:List T)→ ∀(z:List Nat)(j:Nat),xZ (zAi G G') xs→RF St G w s xs (z++p) j→RF St G' w' s' xs (z++p') j
 | [],_,_,_,_=>by simp only[RF]
 |x::xs,z,j,hk,h=>by
  simp only[RF,xZ]at h hk ⊢
  exact⟨zE0 hm x (j::z) (by simp) hk.1 h.1,zE1 hm xs z (j+1) hk.2 h.2⟩
end
theorem zAn(hm:zII G w G' w' s p s' p')(t:T)(hk:xD (zAi G G') t)(h:R St G w s t p):R St G' w' s' t p':=by
 have hd0:G'.hd s' p'=G.hd s p:=by simpa using hm.hd []
 cases t with
 |any=>simp only[R]
 |lit _=>simp only[R]at h ⊢;grind
 |ro _=>simp only[R]at h ⊢;grind
 |same r q=>simp only[R]at h ⊢;rw[hd0,hk.1];exact h
 |addr r q=>simp only[R]at h ⊢;rw[hd0,hk.2];exact h
 |sub r q k lo hi=>simp only[R]at h ⊢;rw[hd0,hk.1];exact h
 |agg xs=>simp only[R,xD]at h hk ⊢;simpa using zE1 hm.toMovesE xs [] 0 hk (by grind)
 |tup xs=>simp only[R,xD]at h hk ⊢;simpa using zE1 hm.toMovesE xs [] 0 hk (by grind)
 |sl k xs=>
  simp only[R,xD]at h hk ⊢
  rw[hd0];rcases h with h|⟨b,cap,cs,e,h1,h2,h3,h4,h5,h6,h7,h8⟩
  ·grind
  ·obtain⟨cs',cw,gy⟩:=hm.blk b cs e h2
   exact .inr ⟨b,cap,cs',e,h1,cw,h3,h4,by omega,hm.ow0 b h6,fun o ho ho2=>(hm.sp b o ⟨_,h6⟩ (h7 o ho (by omega))).1,by simpa using zJB hm.toMovesE xs [] 0 b 0 k ⟨_,h6⟩ hk (by grind)⟩
 |ptr t=>
  simp only[R,xD]at h hk ⊢
  rw[hd0];obtain⟨b,cs,e,h1,h2,h3,h6,h4,h5⟩:=h;obtain⟨cs',cw,gy⟩:=hm.blk b cs e h2;exact⟨b,cs',e,h1,cw,by omega,hm.ow0 b h6,zEz hm.toMovesE t [0] b 0 (by simp) ⟨_,h6⟩ h4,zE0 hm.toMovesE t [0] (by simp) hk h5⟩
theorem zRr(hm:zII G w G' w' s p s' p')(t:T)(z:List Nat)(hk:xD (zAi G G') t)(h:R St G w s t (z++p)):R St G' w' s' t (z++p'):=by
 cases z with
 |nil=>grind[zAn]
 |cons i z=>exact zE0 hm.toMovesE t (i::z) (by simp) hk h
end
end Go.Ab

namespace Go.Ab
open Go
def T.get:T→List Nat→Option T
 |t,[]=>ik t
 |.sl _ xs,i::f|.agg xs,i::f|.tup xs,i::f=>match xs[i]? with
  |some x=>x.get f
  |none=>im
 |.ptr t,i::f=>if i=0 then t.get f else im
 |.any,_::_|.lit _,_::_|.ro _,_::_|.same _ _,_::_|.addr _ _,_::_|.sub _ _ _ _ _,_::_=>im
termination_by structural _ f=>f
def T.set:T→List Nat→T→T
 |_,[],u=>u
 |.sl k xs,i::f,u=>match xs[i]? with
  |some x=>.sl k (xs.set i (x.set f u))
  |none=>.sl k xs
 |.agg xs,i::f,u=>match xs[i]? with
  |some x=>.agg (xs.set i (x.set f u))
  |none=>.agg xs
 |.tup xs,i::f,u=>match xs[i]? with
  |some x=>.tup (xs.set i (x.set f u))
  |none=>.tup xs
 |.ptr t,i::f,u=>if i=0 then .ptr (t.set f u)else .ptr t
 |.any,_::_,_=>.any
 |.lit v,_::_,_=>.lit v
 |.ro t,_::_,_=>.ro t
 |.same r q,_::_,_=>.same r q
 |.addr r q,_::_,_=>.addr r q
 |.sub r q k lo hi,_::_,_=>.sub r q k lo hi
termination_by structural _ f _=>f
def T.locd:T→List Nat→Bool
 |_,[]=>iq
 |.sl _ _,_::_|.ptr _,_::_=>io
 |.agg xs,i::f|.tup xs,i::f=>match xs[i]? with
  |some x=>x.locd f
  |none=>iq
 |.any,_::_|.lit _,_::_|.ro _,_::_|.same _ _,_::_|.addr _ _,_::_|.sub _ _ _ _ _,_::_=>iq
termination_by structural _ f=>f
abbrev rp(f p:List Nat):List Nat:=f.reverse++p
theorem zBD(i:Nat)(f p:List Nat):rp (i::f) p=rp f (i::p):=by simp[rp]
section
variable {St:Stb}{G:Gh}{w:World}{s:Nat}
theorem jU:(xs:List T)→ ∀(p:List Nat)(i0 b o k i:Nat)(x:T),RL St G w s xs p i0 b o k→xs[i]? =ik x→
  Loc G w s x ((i0+i)::p) b (o+i*k)∧x.size=k∧R St G w s x ((i0+i)::p)
 | [],_,_,_,_,_,_,_,_,h=>by simp at h
 |y::ys,p,i0,b,o,k,i,x,hr,h=>by
  simp only[RL]at hr;cases i with
  |zero=>
   grind
  |succ i=>
   have:=jU ys p (i0+1) b (o+k) k i x hr.2.2 (by grind)
   grind
theorem zAY:(xs:List T)→ ∀(p:List Nat)(j i:Nat)(x:T),RF St G w s xs p j→xs[i]? =ik x→R St G w s x ((j+i)::p)
 | [],_,_,_,_,_,h=>by simp at h
 |y::ys,p,j,i,x,hr,h=>by
  simp only[RF]at hr;cases i with
  |zero=>grind
  |succ i=>
   have:=zAY ys p (j+1) i x hr.2 (by grind)
   grind
theorem zKM:(xs:List T)→ ∀(p:List Nat)(j b o i:Nat)(x:T),vK G w s xs p j b o→xs[i]? =ik x→
  ∃o',Loc G w s x ((j+i)::p) b o'∧o≤o'∧o'+x.size≤o+T.sizes xs
 | [],_,_,_,_,_,_,_,h=>by simp at h
 |y::ys,p,j,b,o,i,x,hr,h=>by
  simp only[vK]at hr;cases i with
  |zero=>grind[T.sizes]
  |succ i=>
   obtain⟨o',h1,h2,h3⟩:=zKM ys p (j+1) b (o+y.size) i x hr.2 (by grind)
   grind[T.sizes]
def At(G:Gh)(w:World)(s:Nat)(t:T)(p:List Nat):Prop:=
 ∃b o cs e,Loc G w s t p b o∧w.heap[b]? =ik (.cells cs e (0,0))∧o+t.size≤cs.size
theorem At.field{xs:List T}{p:List Nat}(h:At G w s (.agg xs) p){i:Nat}{x:T}(hx:xs[i]? =ik x):At G w s x (i::p):=by obtain⟨b,o,cs,e,hl,hh,hs⟩:=h;simp only[Loc]at hl;obtain⟨o',h1,h2,h3⟩:=zKM xs p 0 b o i x hl.2 hx;simp only[T.size]at hs;exact⟨b,o',cs,e,by grind,hh,by omega⟩
theorem zDc{k:Nat}{xs:List T}{p:List Nat}(h:R St G w s (.sl k xs) p){i:Nat}{x:T}(hx:xs[i]? =ik x):
  At G w s x (i::p)∧R St G w s x (i::p):=by
 simp only[R]at h;have hi:=(Jn.1 hx).1;rcases h with⟨rfl,_⟩|⟨b,cap,cs,e,h1,h2,h3,h4,h5,h6,h7,h8⟩
 ·simp at hx
 ·obtain⟨a1,a2,a3⟩:=jU xs p 0 b 0 k i x h8 hx
  simp only[Jc]at a1 a3;refine⟨⟨b,i*k,cs,e,a1,h2,?_⟩,a3⟩;rw[a2,←K1];exact Hc (K9 _ (by omega)) h5
theorem zBj{t:T}{p:List Nat}(h:R St G w s (.ptr t) p):At G w s t (0::p)∧R St G w s t (0::p):=by simp only[R]at h;obtain⟨b,cs,e,h1,h2,h3,h6,h4,h5⟩:=h;exact⟨⟨b,0,cs,e,h4,h2,by omega⟩,h5⟩
theorem zA5:(f:List Nat)→ ∀(t u:T)(p:List Nat),At G w s t p→R St G w s t p→t.get f=ik u→At G w s u (rp f p)∧R St G w s u (rp f p)
 | [],t,u,p,ha,h,hg=>by simp[T.get]at hg;grind
 |i::f,t,u,p,ha,h,hg=>by
  rw[zBD];cases t with
  |sl k xs=>
   simp only[T.get]at hg;cases hx:xs[i]? with
   |none=>grind
   |some x=>rw[hx]at hg;exact zA5 f x u _ (zDc h hx).1 (zDc h hx).2 hg
  |ptr t=>
   simp only[T.get]at hg;split at hg
   ·rename_i hi;subst hi;exact zA5 f t u _ (zBj h).1 (zBj h).2 hg
   ·cases hg
  |agg xs=>
   simp only[T.get]at hg;cases hx:xs[i]? with
   |none=>grind
   |some x=>rw[hx]at hg;exact zA5 f x u _ (ha.field hx) (by simp only[R]at h;simpa using zAY xs p 0 i x h hx) hg
  |tup xs=>obtain⟨b,o,cs,e,hl,_⟩:=ha;simp only[Loc]at hl
  |_=>grind[T.get]
theorem zA6:(f:List Nat)→ ∀(t u:T)(p:List Nat),R St G w s t p→t.get f=ik u→R St G w s u (rp f p)∧(t.locd f=io→At G w s u (rp f p))
 | [],t,u,p,h,hg=>by simp[T.get]at hg;subst hg;simpa[rp,T.locd]using h
 |i::f,t,u,p,h,hg=>by
  rw[zBD];cases t with
  |sl k xs=>
   simp only[T.get]at hg;cases hx:xs[i]? with
   |none=>grind
   |some x=>rw[hx]at hg;exact⟨(zA5 f x u _ (zDc h hx).1 (zDc h hx).2 hg).2,fun _=>(zA5 f x u _ (zDc h hx).1 (zDc h hx).2 hg).1⟩
  |ptr t=>
   simp only[T.get]at hg;split at hg
   ·rename_i hi;subst hi;exact⟨(zA5 f t u _ (zBj h).1 (zBj h).2 hg).2,fun _=>(zA5 f t u _ (zBj h).1 (zBj h).2 hg).1⟩
   ·cases hg
  |agg xs=>
   simp only[T.get,T.locd]at hg ⊢
   cases hx:xs[i]? with
   |none=>grind
   |some x=>rw[hx]at hg;exact zA6 f x u _ (by simp only[R]at h;simpa using zAY xs p 0 i x h hx) hg
  |tup xs=>
   simp only[T.get,T.locd]at hg ⊢
   cases hx:xs[i]? with
   |none=>grind
   |some x=>rw[hx]at hg;exact zA6 f x u _ (by simp only[R]at h;simpa using zAY xs p 0 i x h hx) hg
  |_=>grind[T.get]
end
structure Upd (G:Gh) (w:World) (G':Gh) (w':World) (s:Nat) (tgt:List Nat):Prop where
 hd:∀p,¬tgt<:+p→G'.hd s p=G.hd s p
 ad:∀p,¬tgt<:+p→G'.ad s p=G.ad s p
 lb:∀b o f p,G.lb b o=ik (f,s,p)→ ¬tgt<:+p→G'.lb b o=ik (f,s,p)∧yR w' b o=yR w b o
 ow:∀b p,G.ow b=ik (s,p)→ ¬tgt<:+p→G'.ow b=ik (s,p)
 blk:Blk w w'
section
variable {St:Stb}{G:Gh}{w:World}{G':Gh}{w':World}{s:Nat}{tgt:List Nat}
theorem Upd.moves(h:Upd G w G' w' s tgt){p:List Nat}(hp:∀z,¬tgt<:+z++p):zII G w G' w' s p s p where
 hd z:=h.hd _ (hp z)
 ad z _:=h.ad _ (hp z)
 lb b o f z _ _ hl:=h.lb b o f _ hl (hp z)
 ow b z _ hl:=h.ow b _ hl (hp z)
 sp b o _ hl:=h.lb b o io p hl (hp [])
 ow0 b hl:=h.ow b p hl (hp [])
 blk:=h.blk
mutual
theorem zE2(hm:Upd G w G' w' s tgt):(t:T)→ ∀(p:List Nat)(b o:Nat),(∀z,¬tgt<:+z++p)→Loc G w s t p b o→Loc G' w' s t p b o
 |.agg xs,p,b,o,hz,h=>by
  simp only[Loc]at h ⊢
  exact⟨(hm.ad p (hz [])).trans h.1,zKN hm xs p 0 b o hz h.2⟩
 |.any,p,b,o,hz,h|.lit _,p,b,o,hz,h|.ro _,p,b,o,hz,h|.same _ _,p,b,o,hz,h|.addr _ _,p,b,o,hz,h|.sub _ _ _ _ _,p,b,o,hz,h|.sl _ _,p,b,o,hz,h|.ptr _,p,b,o,hz,h=>by
  simp only[Loc]at h ⊢
  obtain⟨h1,h2,h3⟩:=h;have hl:=hm.lb b o iq p h2 (hz []);exact⟨(hm.ad p (hz [])).trans h1,hl.1,by rw[hl.2,h3,hm.hd p (hz [])]⟩
 |.tup _,_,_,_,_,h=>by simp only[Loc]at h
theorem zKN(hm:Upd G w G' w' s tgt):(xs:List T)→ ∀(p:List Nat)(j b o:Nat),(∀z,¬tgt<:+z++p)→vK G w s xs p j b o→vK G' w' s xs p j b o
 | [],_,_,_,_,_,_=>by simp only[vK]
 |x::xs,p,j,b,o,hz,h=>by
  simp only[vK]at h ⊢
  exact⟨zE2 hm x (j::p) b o (fun z=>by have:=hz (z++[j]);grind) h.1,zKN hm xs p (j+1) b _ hz h.2⟩
end
theorem zKO(hm:Upd G w G' w' s tgt)(t u:T)(p:List Nat)(b o:Nat)(ht:∀xs,t≠.agg xs)(hu:∀xs,u≠.agg xs)(tn:∀xs,u≠.tup xs)(hz:¬tgt<:+p)(h:Loc G w s t p b o):Loc G' w' s u p b o:=by
 have h3:G.ad s p=⟨b,o,im⟩∧G.lb b o=ik (iq,s,p)∧yR w b o=ik (G.hd s p):=by
  cases t with
  |agg xs=>grind
  |tup xs=>simp only[Loc]at h
  |_=>simpa only[Loc]using h
 obtain⟨h1,h2,h3⟩:=h3;have hl:=hm.lb b o iq p h2 hz;have h4:G'.ad s p=⟨b,o,im⟩∧G'.lb b o=ik (iq,s,p)∧yR w' b o=ik (G'.hd s p):=⟨(hm.ad p hz).trans h1,hl.1,by rw[hl.2,h3,hm.hd p hz]⟩;cases u with
 |agg xs=>grind
 |tup xs=>grind
 |_=>simpa only[Loc]using h4
theorem jV{f p:List Nat}{i i':Nat}(hi:i'≠i)(z:List Nat):¬f.reverse++(i::p)<:+z++(i'::p):=by
 rintro⟨y,hy⟩
 rw[←Jb]at hy;have:=List.append_inj_right' hy rfl
 grind
theorem kG{f p:List Nat}{i:Nat}:¬f.reverse++(i::p)<:+p:=by
 intro h;have:=h.length_le
 grind
theorem zIK:(xs:List T)→ ∀(i:Nat)(x y:T),xs[i]? =ik x→y.size=x.size→T.sizes (xs.set i y)=T.sizes xs
 | [],_,_,_,h,_=>by simp at h
 |z::zs,i,x,y,h,hs=>by
  cases i with
  |zero=>grind[T.sizes]
  |succ i=>simp only[La,T.sizes,zIK zs i x y (by grind) hs]
theorem zE3:(f:List Nat)→ ∀(t u u0:T),t.get f=ik u0→u.size=u0.size→(t.set f u).size=t.size
 | [],t,u,u0,h,hs=>by grind[T.get,T.set]
 |i::f,t,u,u0,h,hs=>by
  cases t with
  |sl k xs=>grind[T.set,T.size]
  |tup xs=>grind[T.set,T.size]
  |agg xs=>
   simp only[T.get]at h;cases hx:xs[i]? with
   |none=>grind
   |some x=>
    rw[hx]at h;simp only[T.set,hx,T.size];exact zIK xs i x _ hx (zE3 f x u u0 h hs)
  |ptr t=>grind[T.set,T.size]
  |_=>rfl
theorem zKP(hm:Upd G w G' w' s tgt):(xs:List T)→ ∀(p:List Nat)(j b o i:Nat)(x y:T),vK G w s xs p j b o→xs[i]? =ik x→y.size=x.size→
  (∀i',i'≠j+i→ ∀z,¬tgt<:+z++(i'::p))→(∀o',Loc G w s x ((j+i)::p) b o'→Loc G' w' s y ((j+i)::p) b o')→vK G' w' s (xs.set i y) p j b o
 | [],_,_,_,_,_,_,_,_,h,_,_,_=>by simp at h
 |z::zs,p,j,b,o,i,x,y,hl,h,hs,hz,hy=>by
  simp only[vK]at hl;cases i with
  |zero=>
   simp at h;subst h;simp only[Lq,vK,hs];exact⟨by grind,LocF_upd' hm zs p (j+1) b _ (by grind) hl.2⟩
  |succ i=>
   simp only[La,vK];refine⟨by grind[zE2],zKP hm zs p (j+1) b _ i x y hl.2 (by grind) hs (by grind) ?_⟩
   grind
where LocF_upd' (hm:Upd G w G' w' s tgt):(xs:List T)→ ∀(p:List Nat)(j b o:Nat),(∀i',j≤i'→ ∀z,¬tgt<:+z++(i'::p))→vK G w s xs p j b o→vK G' w' s xs p j b o
 | [],_,_,_,_,_,_=>by simp only[vK]
 |x::xs,p,j,b,o,hz,h=>by
  simp only[vK]at h ⊢
  exact⟨zE2 hm x (j::p) b o (by grind) h.1,LocF_upd' hm xs p (j+1) b _ (by grind) h.2⟩
theorem zJC:(f:List Nat)→ ∀(t u u0:T)(p:List Nat)(b o:Nat),Upd G w G' w' s (rp f p)→Loc G w s t p b o→t.get f=ik u0→u.size=u0.size→
  (∀o',Loc G w s u0 (rp f p) b o'→Loc G' w' s u (rp f p) b o')→Loc G' w' s (t.set f u) p b o
 | [],t,u,u0,p,b,o,hm,hl,hg,hs,hu=>by simp[T.get]at hg;subst hg;simpa[T.set,rp]using hu o (by grind)
 |i::f,t,u,u0,p,b,o,hm,hl,hg,hs,hu=>by
  have gD:=hm;rw[zBD]at gD;cases t with
  |sl k xs=>
   have:∃ys,(T.sl k xs).set (i::f) u=.sl k ys:=by simp only[T.set];grind
   obtain⟨ys,hy⟩:=this;rw[hy];exact zKO gD (.sl k xs) (.sl k ys) p b o (by simp) (by simp) (by simp) kG hl
  |ptr t=>
   have:∃ys,(T.ptr t).set (i::f) u=.ptr ys:=by simp only[T.set];grind
   obtain⟨ys,hy⟩:=this;rw[hy];exact zKO gD (.ptr t) (.ptr ys) p b o (by simp) (by simp) (by simp) kG hl
  |agg xs=>
   simp only[T.get]at hg;cases hx:xs[i]? with
   |none=>grind
   |some x=>
    rw[hx]at hg;simp only[T.set,hx];simp only[Loc]at hl ⊢
    refine⟨(gD.ad p kG).trans hl.1,zKP gD xs p 0 b o i x _ hl.2 hx (zE3 f x u u0 hg hs) (by grind[jV]) ?_⟩;intro o' ho';simp only[Jc]at ho' ⊢
    exact zJC f x u u0 (i::p) b o' gD ho' hg hs (by grind)
  |tup xs=>simp only[Loc]at hl
  |_=>grind[T.get]
end
end Go.Ab

namespace Go.Ab
open Go
section
variable {St:Stb}{G:Gh}{w:World}{G':Gh}{w':World}{s:Nat}{tgt:List Nat}
theorem zOu(hm:Upd G w G' w' s tgt)(t:T)(p:List Nat)(hz:∀z,¬tgt<:+z++p)(hk:xD (zAi G G') t)(h:R St G w s t p):R St G' w' s t p:=by simpa using zRr (hm.moves hz) t [] hk (by simpa using h)
theorem zRs(hm:Upd G w G' w' s tgt):(xs:List T)→ ∀(p:List Nat)(i b o k:Nat),(∀i',i≤i'→ ∀z,¬tgt<:+z++(i'::p))→xZ (zAi G G') xs→RL St G w s xs p i b o k→RL St G' w' s xs p i b o k
 | [],_,_,_,_,_,_,_,_=>by simp only[RL]
 |x::xs,p,i,b,o,k,hz,hk,h=>by
  simp only[RL,xZ]at h hk ⊢
  exact⟨⟨zE2 hm x (i::p) b o (hz i (Jg _)) h.1.1,h.1.2⟩,zOu hm x (i::p) (hz i (Jg _)) hk.1 h.2.1,
   zRs hm xs p (i+1) b _ k (fun i' fE=>hz i' (by omega)) hk.2 h.2.2⟩
theorem zRt(hm:Upd G w G' w' s tgt):(xs:List T)→ ∀(p:List Nat)(i0 b o k i:Nat)(x y:T),RL St G w s xs p i0 b o k→xs[i]? =ik x→y.size=x.size→xZ (zAi G G') xs→
  (∀i',i'≠i0+i→ ∀z,¬tgt<:+z++(i'::p))→(∀o',Loc G w s x ((i0+i)::p) b o'→Loc G' w' s y ((i0+i)::p) b o')→R St G' w' s y ((i0+i)::p)→
  RL St G' w' s (xs.set i y) p i0 b o k
 | [],_,_,_,_,_,_,_,_,_,h,_,_,_,_,_=>by simp at h
 |z::zs,p,i0,b,o,k,i,x,y,hr,h,hs,hk,hz,hl,hy=>by
  simp only[RL,xZ]at hr hk;cases i with
  |zero=>
   simp at h;subst h;simp only[Lq,RL];exact⟨⟨by simpa using hl o (by simpa using hr.1.1),by omega⟩,by simpa using hy,zRs hm zs p (i0+1) b _ k (fun i' fE=>hz i' (by omega)) hk.2 hr.2.2⟩
  |succ i=>
   simp only[La,RL];rw[show i0+(i+1)=i0+1+i from by omega]at hl hy hz;exact⟨⟨zE2 hm z _ b o (hz i0 (by omega)) hr.1.1,hr.1.2⟩,zOu hm z _ (hz i0 (by omega)) hk.1 hr.2.1,zRt hm zs p (i0+1) b _ k i x y hr.2.2 (by simpa using h) hs hk.2 hz hl hy⟩
theorem zRu(hm:Upd G w G' w' s tgt):(xs:List T)→ ∀(p:List Nat)(i:Nat),(∀i',i≤i'→ ∀z,¬tgt<:+z++(i'::p))→xZ (zAi G G') xs→RF St G w s xs p i→RF St G' w' s xs p i
 | [],_,_,_,_,_=>by simp only[RF]
 |x::xs,p,i,hz,hk,h=>by
  simp only[RF,xZ]at h hk ⊢
  exact⟨zOu hm x (i::p) (hz i (Jg _)) hk.1 h.1,zRu hm xs p (i+1) (fun i' fE=>hz i' (by omega)) hk.2 h.2⟩
theorem zNc(hm:Upd G w G' w' s tgt):(xs:List T)→ ∀(p:List Nat)(i0 i:Nat)(x y:T),RF St G w s xs p i0→xs[i]? =ik x→xZ (zAi G G') xs→
  (∀i',i'≠i0+i→ ∀z,¬tgt<:+z++(i'::p))→R St G' w' s y ((i0+i)::p)→
  RF St G' w' s (xs.set i y) p i0
 | [],_,_,_,_,_,_,h,_,_,_=>by simp at h
 |z::zs,p,i0,i,x,y,hr,h,hk,hz,hy=>by
  simp only[RF,xZ]at hr hk;cases i with
  |zero=>
   simp at h;subst h;simp only[Lq,RF];exact⟨by simpa using hy,zRu hm zs p (i0+1) (fun i' fE=>hz i' (by omega)) hk.2 hr.2⟩
  |succ i=>
   simp only[La,RF];rw[show i0+(i+1)=i0+1+i from by omega]at hy hz;exact⟨zOu hm z _ (hz i0 (by omega)) hk.1 hr.1,zNc hm zs p (i0+1) i x y hr.2 (by simpa using h) hk.2 hz hy⟩
theorem uQ{φ:Nat→List Nat→Prop}:(xs:List T)→xZ φ xs→ ∀(i:Nat)(x:T),xs[i]? =ik x→xD φ x
 | [],_,_,_,h=>by simp at h
 |y::ys,hk,i,x,h=>by
  simp only[xZ]at hk;cases i with
  |zero=>simp at h;subst h;exact hk.1
  |succ i=>exact uQ ys hk.2 i x (by simpa using h)
theorem zGb:(f:List Nat)→ ∀(t u u0:T)(p:List Nat),Upd G w G' w' s (rp f p)→R St G w s t p→t.get f=ik u0→u.size=u0.size→xD (zAi G G') t→
  (∀b o,Loc G w s u0 (rp f p) b o→Loc G' w' s u (rp f p) b o)→R St G' w' s u (rp f p)→R St G' w' s (t.set f u) p
 | [],t,u,u0,p,hm,hr,hg,hs,hk,hl,hu=>by simpa[T.set,rp]using hu
 |i::f,t,u,u0,p,hm,hr,hg,hs,hk,hl,hu=>by
  have gD:=hm;rw[zBD]at gD hl hu;cases t with
  |sl k xs=>
   simp only[T.get]at hg;cases hx:xs[i]? with
   |none=>simp[hx]at hg
   |some x=>
    rw[hx]at hg;simp only[T.set,hx];simp only[R,xD]at hr hk ⊢
    rcases hr with⟨rfl,_⟩|⟨b,cap,cs,e,h1,h2,h3,h4,h5,h6,h7,h8⟩
    ·simp at hx
    ·obtain⟨cs',cw,gy⟩:=gD.blk b cs e h2
     refine .inr ⟨b,cap,cs',e,by rw[gD.hd p kG,Qf];exact h1,cw,by rw[Qf];exact h3,h4,by omega,gD.ow b p h6 kG,?_,?_⟩
     ·intro o ho ho2
      rw[Qf]at ho;exact(gD.lb b o io p (h7 o ho (by omega)) kG).1
     ·have t8:=jU xs p 0 b 0 k i x h8 hx
      simp only[Jc]at t8;refine zRt gD xs p 0 b 0 k i x _ h8 hx (zE3 f x u u0 hg hs) hk (fun i' fE z=>jV (by omega) z) ?_ ?_
      ·intro o' ho'
       simp only[Jc]at ho' ⊢
       exact zJC f x u u0 (i::p) b o' gD ho' hg hs (fun o''=>hl b o'')
      ·simp only[Jc]
       exact zGb f x u u0 (i::p) gD t8.2.2 hg hs (uQ xs hk i x hx) hl hu
  |ptr t=>
   simp only[T.get]at hg;split at hg
   ·rename_i hi;subst hi
    simp only[T.set,if_true];simp only[R,xD]at hr hk ⊢
    obtain⟨b,cs,e,h1,h2,h3,h6,h4,h5⟩:=hr;obtain⟨cs',cw,gy⟩:=gD.blk b cs e h2;refine⟨b,cs',e,by rw[gD.hd p kG];exact h1,cw,by rw[zE3 f t u u0 hg hs];omega,gD.ow b p h6 kG,zJC f t u u0 (0::p) b 0 gD h4 hg hs (fun o''=>hl b o''),zGb f t u u0 (0::p) gD h5 hg hs hk hl hu⟩
   ·cases hg
  |agg xs=>
   simp only[T.get]at hg;cases hx:xs[i]? with
   |none=>simp[hx]at hg
   |some x=>
    rw[hx]at hg;simp only[T.set,hx];simp only[R,xD]at hr hk ⊢
    refine zNc gD xs p 0 i x _ hr hx hk (fun i' fE z=>jV (by omega) z) ?_;simp only[Jc];exact zGb f x u u0 (i::p) gD (by simpa using zAY xs p 0 i x hr hx) hg hs (uQ xs hk i x hx) hl hu
  |tup xs=>
   simp only[T.get]at hg;cases hx:xs[i]? with
   |none=>simp[hx]at hg
   |some x=>
    rw[hx]at hg;simp only[T.set,hx];simp only[R,xD]at hr hk ⊢
    refine zNc gD xs p 0 i x _ hr hx hk (fun i' fE z=>jV (by omega) z) ?_;simp only[Jc];exact zGb f x u u0 (i::p) gD (by simpa using zAY xs p 0 i x hr hx) hg hs (uQ xs hk i x hx) hl hu
  |_=>simp[T.get]at hg
end
end Go.Ab

namespace Go.Ab
open Go
mutual
def vals(G:Gh)(s:Nat):T→List Nat→List Value
 |.agg xs,p=>yH G s xs p 0
 |.any,p|.lit _,p|.ro _,p|.same _ _,p|.addr _ _,p|.sub _ _ _ _ _,p|.sl _ _,p|.ptr _,p|.tup _,p=>[G.hd s p]
def yH(G:Gh)(s:Nat):List T→List Nat→Nat→List Value
 | [],_,_=>[]
 |x::xs,p,j=>vals G s x (j::p)++yH G s xs p (j+1)
end
def sQ(G:Gh)(s:Nat)(t:T)(p:List Nat):Value:=
 match t with
 |.agg xs=>.agg (yH G s xs p 0).toArray
 |_=>G.hd s p
def jP(G:Gh)(s:Nat):List T→List Nat→Nat→List Value
 | [],_,_=>[]
 |x::xs,p,j=>sQ G s x (j::p)::jP G s xs p (j+1)
def mkV(G:Gh)(s:Nat)(t:T)(p:List Nat):Value:=
 match t with
 |.agg xs=>.agg (yH G s xs p 0).toArray
 |.tup xs=>.tuple (jP G s xs p 0).toArray
 |_=>G.hd s p
mutual
def Top:T→Prop
 |.sl _ xs=>xU xs
 |.ptr t=>yD t
 |.agg xs|.tup xs=>vP xs
 |.any|.lit _|.ro _|.same _ _|.addr _ _|.sub _ _ _ _ _=>True
def vP:List T→Prop
 | []=>True
 |x::xs=>Top x∧vP xs
end
mutual
theorem Top.of_clean:(t:T)→yD t→Top t
 |.sl _ xs,h=>by simpa only[Top,yD,xD]using h
 |.ptr t,h=>by simpa only[Top,yD,xD]using h
 |.agg xs,h|.tup xs,h=>by simp only[Top];exact vP.of_clean xs (by simpa only[yD,xD]using h)
 |.any,_|.lit _,_|.ro _,_|.same _ _,_|.addr _ _,_|.sub _ _ _ _ _,_=>by simp only[Top]
theorem vP.of_clean:(xs:List T)→xU xs→vP xs
 | [],_=>by simp only[vP]
 |x::xs,h=>by simp only[vP];exact⟨Top.of_clean x h.1,vP.of_clean xs h.2⟩
end
abbrev Chg:=List (Nat×Nat)
def Off(chg:Chg)(s:Nat)(p:List Nat):Prop:=∀n,(s,n)∈chg→p.length<n
def zAj(chg:Chg)(r:Nat)(p:List Nat):Bool:=chg.all fun c=>c.1 != r||decide (p.length<c.2)
theorem zPT{chg:Chg}{r:Nat}{p:List Nat}(h:zAj chg r p=io):Off chg r p:=by
 intro n hn;have:=Kg.1 h _ hn
 grind
mutual
def T.okB(chg:Chg):T→Bool
 |.same r p|.addr r p|.sub r p _ _ _=>zAj chg r p
 |.agg xs|.tup xs=>zKQ chg xs
 |.any|.lit _|.ro _|.sl _ _|.ptr _=>io
def zKQ(chg:Chg):List T→Bool
 | []=>io
 |x::xs=>x.okB chg&&zKQ chg xs
end
mutual
theorem zAo{chg:Chg}:(t:T)→Top t→t.okB chg=io→xD (Off chg) t
 |.same r p,_,h|.addr r p,_,h|.sub r p _ _ _,_,h=>by simp only[T.okB]at h;simp only[xD];exact zPT h
 |.agg xs,ht,h|.tup xs,ht,h=>by simp only[T.okB,Top]at h ht;simp only[xD];exact zGN xs ht h
 |.sl _ xs,ht,_=>by simp only[Top]at ht;simp only[xD];grind[xZ.mono]
 |.ptr t,ht,_=>by simp only[Top]at ht;simp only[xD];grind[xD.mono]
 |.any,_,_|.lit _,_,_|.ro _,_,_=>by simp only[xD]
theorem zGN{chg:Chg}:(xs:List T)→vP xs→zKQ chg xs=io→xZ (Off chg) xs
 | [],_,_=>by simp only[xZ]
 |x::xs,ht,h=>by simp only[zKQ,vP,J3]at h ht;simp only[xZ];exact⟨zAo x ht.1 h.1,zGN xs ht.2 h.2⟩
end
abbrev Env:=Nat→Option T
abbrev Wr:=List (Nat×Option T)
def Wr.find(wr:Wr)(s:Nat):Option (Option T):=
 match wr with
 | []=>im
 |(k,x)::r=>if k=s then ik x else Wr.find r s
def Env.app(E:Env)(wr:Wr)(chg:Chg):Env:=fun s=>
 match wr.find s with
 |some x=>x
 |none=>match E s with
  |some t=>if t.okB chg then ik t else im
  |none=>im
structure Ctx where
 St:Stb
 W:Nat→Prop
 w0:World
 N:Nat
def zCr(Γ:Ctx)(w:World)(b:Nat):Prop:=b<w.heap.size∧(Γ.w0.heap.size≤b∨Γ.W b)∧Γ.St b=im
structure zUX (w w':World):Prop where
 blk:Blk w w'
 os:w'.os=w.os
 out:w'.output=w.output
structure Mem (Γ:Ctx) (G:Gh) (w:World):Prop where
 one:∀s p,(G.hd s p).oneCell'=io
 lb:∀b o l,G.lb b o=ik l→zCr Γ w b
 ow:∀b l,G.ow b=ik l→zCr Γ w b
 st:∀b x,Γ.St b=ik x→w.heap[b]? =ik x
 fr:∀b,b<Γ.w0.heap.size→ ¬Γ.W b→w.heap[b]? =Γ.w0.heap[b]?
 sz:Γ.w0.heap.size≤w.heap.size
 bk:zUX Γ.w0 w
theorem Blk.trans{w w' w'':World}(h:Blk w w')(h':Blk w' w''):Blk w w'':=fun b cs e hb=>by
 obtain⟨cs',h1,h2⟩:=h b cs e hb;obtain⟨cs'',h3,h4⟩:=h' b cs' e h1
 grind
theorem zUX.trans{w w' w'':World}(h:zUX w w')(h':Blk w' w'')(ho:w''.os=w'.os)(hq:w''.output=w'.output):zUX w w'':=⟨h.blk.trans h',ho.trans h.os,hq.trans h.out⟩
def Ent(Γ:Ctx)(G:Gh)(w:World)(v:Option Value)(s:Nat)(t:T):Prop:=v=ik (mkV G s t [])∧R Γ.St G w s t []∧Top t
structure Rep (Γ:Ctx) (E:Env) (G:Gh) (tmps:Array Value) (w:World):Prop where
 size:tmps.size=Γ.N
 ent:∀s t,E s=ik t→Ent Γ G w tmps[s]? s t
 mem:Mem Γ G w
def Sim(Γ:Ctx)(E:Env)(a:Act)(w:World):Prop:=a.defers=[]∧ ∃G,Rep Γ E G a.tmps w
structure zDz (S S':Stb) (W:Nat→Prop) (n:Nat):Prop where
 le:∀b x,S b=ik x→S' b=ik x
 nw:∀b,S b=im→S' b≠im→n≤b∨W b
theorem zDz.refl{S:Stb}{W:Nat→Prop}{n:Nat}:zDz S S W n:=⟨fun _ _ h=>h,by grind⟩
theorem zDz.trans{S S' S'':Stb}{W:Nat→Prop}{n:Nat}(h:zDz S S' W n)(h':zDz S' S'' W n):zDz S S'' W n:=
 ⟨fun b x hb=>h'.le b x (h.le b x hb),fun b hb eT=>by
  cases hs:S' b with
  |none=>exact h'.nw b hs eT
  |some x=>exact h.nw b hb (by grind)⟩
abbrev Ctx.at(Γ:Ctx)(S:Stb):Ctx:={ Γ with St:=S }
def jG(Γ:Ctx)(E:Env)(a:Act)(w:World):Prop:=∃S,zDz Γ.St S Γ.W Γ.w0.heap.size∧Sim (Γ.at S) E a w
theorem jG.of{Γ:Ctx}{E:Env}{a:Act}{w:World}(h:Sim Γ E a w):jG Γ E a w:=⟨Γ.St,.refl,h⟩
theorem jG.up{Γ:Ctx}{E:Env}{a:Act}{w:World}{S:Stb}(hS:zDz Γ.St S Γ.W Γ.w0.heap.size)(h:jG (Γ.at S) E a w):jG Γ E a w:=by obtain⟨S',h1,h2⟩:=h;exact⟨S',hS.trans h1,h2⟩
structure qY (chg:Chg) (G:Gh) (w:World) (G':Gh) (w':World):Prop where
 hd:∀s p,Off chg s p→G'.hd s p=G.hd s p
 ad:∀s p,Off chg s p→G'.ad s p=G.ad s p
 lb:∀b o f s p,(∃y,G.ow b=ik (s,y))→G.lb b o=ik (f,s,p)→(∀n,(s,n)∉chg)→G'.lb b o=ik (f,s,p)∧yR w' b o=yR w b o
 ow:∀b s p,G.ow b=ik (s,p)→(∀n,(s,n)∉chg)→G'.ow b=ik (s,p)
 blk:Blk w w'
theorem Off.of_not{chg:Chg}{s:Nat}(h:∀n,(s,n)∉chg)(p:List Nat):Off chg s p:=fun n hn=>absurd hn (h n)
section
variable {Γ:Ctx}{G G':Gh}{w w':World}{s:Nat}{chg:Chg}
mutual
theorem zAM{s':Nat}:(t:T)→ ∀(p p':List Nat),(∀z,G'.hd s' (z++p')=G.hd s (z++p))→vals G' s' t p'=vals G s t p
 |.agg xs,p,p',h=>by simp only[vals];exact zE4 xs p p' 0 h
 |.any,p,p',h|.lit _,p,p',h|.ro _,p,p',h|.same _ _,p,p',h|.addr _ _,p,p',h|.sub _ _ _ _ _,p,p',h|.sl _ _,p,p',h|.ptr _,p,p',h|.tup _,p,p',h=>by simp only[vals];rw[show G'.hd s' p'=G.hd s p from by simpa using h []]
theorem zE4{s':Nat}:(xs:List T)→ ∀(p p':List Nat)(j:Nat),(∀z,G'.hd s' (z++p')=G.hd s (z++p))→yH G' s' xs p' j=yH G s xs p j
 | [],_,_,_,_=>by rfl
 |x::xs,p,p',j,h=>by simp only[yH];rw[zAM x (j::p) (j::p') (fun z=>by have:=h (z++[j]);grind),zE4 xs p p' (j+1) h]
end
theorem zBE{s':Nat}(t:T)(p p':List Nat)(h:∀z,G'.hd s' (z++p')=G.hd s (z++p)):sQ G' s' t p'=sQ G s t p:=by
 unfold sQ;split
 ·grind[zE4]
 ·simpa using h []
theorem zOv{s':Nat}:(xs:List T)→ ∀(p p':List Nat)(j:Nat),(∀z,G'.hd s' (z++p')=G.hd s (z++p))→jP G' s' xs p' j=jP G s xs p j
 | [],_,_,_,_=>by rfl
 |x::xs,p,p',j,h=>by simp only[jP];rw[zBE x (j::p) (j::p') (fun z=>by have:=h (z++[j]);simpa using this),zOv xs p p' (j+1) h]
theorem zFt{s':Nat}(t:T)(p p':List Nat)(h:∀z,G'.hd s' (z++p')=G.hd s (z++p)):mkV G' s' t p'=mkV G s t p:=by
 unfold mkV;split
 ·grind[zE4]
 ·grind[zOv]
 ·simpa using h []
theorem qY.moves(hk:qY chg G w G' w')(hs:∀n,(s,n)∉chg)(p:List Nat):zII G w G' w' s p s p where
 hd _:=hk.hd _ _ (.of_not hs _)
 ad _ _:=hk.ad _ _ (.of_not hs _)
 lb b o f _ _ e6 hl:=hk.lb b o f s _ e6 hl hs
 ow b _ _ hl:=hk.ow b s _ hl hs
 sp b o e6 hl:=hk.lb b o io s _ e6 hl hs
 ow0 b hl:=hk.ow b s _ hl hs
 blk:=hk.blk
theorem qY.keepR(hk:qY chg G w G' w'){t:T}(h:xD (Off chg) t):xD (zAi G G') t:=
 xD.mono (fun r p hr=>⟨hk.hd r p hr,hk.ad r p hr⟩) t h
theorem Ent.keep(hk:qY chg G w G' w')(hs:∀n,(s,n)∉chg){v:Option Value}{t:T}(ht:t.okB chg=io)(h:Ent Γ G w v s t):Ent Γ G' w' v s t:=by
 obtain⟨h1,h2,h3⟩:=h;refine⟨?_,?_,h3⟩
 ·rw[h1,zFt t [] [] (fun z=>hk.hd _ _ (.of_not hs _))]
 ·simpa using zRr (hk.moves hs []) t [] (hk.keepR (zAo t h3 ht)) (by grind)
end
theorem vL{Γ:Ctx}{E:Env}{G G':Gh}{tmps tmps':Array Value}{w w':World}{wr:Wr}{chg:Chg}(h:Rep Γ E G tmps w)
  (gP:tmps'.size=tmps.size)(hk:qY chg G w G' w')(gr:Mem Γ G' w')
  (gI:∀s,wr.find s=im→(∀n,(s,n)∉chg)∧tmps'[s]? =tmps[s]?)
  (eL:∀s t,wr.find s=ik (ik t)→Ent Γ G' w' tmps'[s]? s t):Rep Γ (E.app wr chg) G' tmps' w' where
 size:=by rw[gP,h.size]
 mem:=gr
 ent s t hs:=by
  unfold Env.app at hs;cases hf:wr.find s with
  |some x=>
   grind
  |none=>
   rw[hf]at hs;simp at hs;cases he:E s with
   |none=>grind
   |some u=>
    simp[he]at hs;obtain⟨gC,rfl⟩:=hs;rw[(gI s hf).2];exact Ent.keep hk (gI s hf).1 gC (h.ent s u he)
end Go.Ab

namespace Go.Ab
open Go
mutual
def cpT(s:Nat):T→List Nat→T
 |.lit v,_=>.lit v
 |.ro t,_=>.ro t
 |.same r q,_=>.same r q
 |.addr r q,_=>.addr r q
 |.sub r q k lo hi,_=>.sub r q k lo hi
 |.agg xs,p=>.agg (cpF s xs p 0)
 |.any,p|.sl _ _,p|.ptr _,p|.tup _,p=>.same s p
def cpF(s:Nat):List T→List Nat→Nat→List T
 | [],_,_=>[]
 |x::xs,p,j=>cpT s x (j::p)::cpF s xs p (j+1)
end
mutual
theorem qU(s:Nat):(t:T)→ ∀p,Top (cpT s t p)
 |.agg xs,p=>by simp only[cpT,Top];exact zOw s xs p 0
 |.lit _,_|.ro _,_|.same _ _,_|.addr _ _,_|.sub _ _ _ _ _,_|.any,_|.sl _ _,_|.ptr _,_|.tup _,_=>by simp only[cpT,Top]
theorem zOw(s:Nat):(xs:List T)→ ∀p j,vP (cpF s xs p j)
 | [],_,_=>by simp only[cpF,vP]
 |x::xs,p,j=>by simp only[cpF,vP];exact⟨qU s x _,zOw s xs p _⟩
end
section
variable {St:Stb}{G G':Gh}{w w':World}{s d:Nat}
mutual
theorem zDR(hs:∀p,G'.hd s p=G.hd s p):(t:T)→ ∀(p p':List Nat),(∀z,G'.hd d (z++p')=G.hd s (z++p))→(∀xs,t≠.tup xs)→xD (zAi G G') (cpT s t p)→R St G w s t p→R St G' w' d (cpT s t p) p'
 |.lit _,p,p',hd,_,_,h=>by simp only[cpT,R]at h ⊢;rw[show G'.hd d p'=_ from by simpa using hd []];exact h
 |.ro _,p,p',hd,_,_,h=>by simp only[cpT,R]at h ⊢;rw[show G'.hd d p'=_ from by simpa using hd []];exact h
 |.same r q,p,p',hd,_,hk,h=>by simp only[cpT,R,xD]at h hk ⊢;rw[show G'.hd d p'=_ from by simpa using hd [],hk.1];exact h
 |.addr r q,p,p',hd,_,hk,h=>by simp only[cpT,R,xD]at h hk ⊢;rw[show G'.hd d p'=_ from by simpa using hd [],hk.2];exact h
 |.sub r q k lo hi,p,p',hd,_,hk,h=>by simp only[cpT,R,xD]at h hk ⊢;rw[show G'.hd d p'=_ from by simpa using hd [],hk.1];exact h
 |.any,p,p',hd,_,_,_|.sl _ _,p,p',hd,_,_,_|.ptr _,p,p',hd,_,_,_=>by simp only[cpT,R];rw[show G'.hd d p'=_ from by simpa using hd [],hs]
 |.tup xs,_,_,_,h,_,_=>absurd rfl (h xs)
 |.agg xs,p,p',hd,_,hk,h=>by simp only[cpT,R,xD]at h hk ⊢;exact zJD hs xs p p' 0 hd hk h
theorem zJD(hs:∀p,G'.hd s p=G.hd s p):(xs:List T)→ ∀(p p':List Nat)(j:Nat),(∀z,G'.hd d (z++p')=G.hd s (z++p))→xZ (zAi G G') (cpF s xs p j)→RF St G w s xs p j→RF St G' w' d (cpF s xs p j) p' j
 | [],_,_,_,_,_,_=>by simp only[cpF,RF]
 |x::xs,p,p',j,hd,hk,h=>by
  simp only[cpF,RF,xZ]at h hk ⊢
  refine⟨?_,zJD hs xs p p' (j+1) hd hk.2 h.2⟩
  by_cases hx:∃ys,x=.tup ys
  ·obtain⟨ys,rfl⟩:=hx
   simp only[cpT,R];rw[show G'.hd d (j::p')=_ from by simpa using hd [j],hs]
  ·exact zDR hs x (j::p) (j::p') (fun z=>by have:=hd (z++[j]);simpa using this) (fun ys e=>hx ⟨ys,e⟩) hk.1 h.1
end
mutual
theorem zPU:(t:T)→ ∀(p p':List Nat),(∀z,G'.hd d (z++p')=G.hd s (z++p))→vals G' d (cpT s t p) p'=vals G s t p
 |.agg xs,p,p',h=>by simp only[cpT,vals];exact zDS xs p p' 0 h
 |.any,p,p',h|.lit _,p,p',h|.ro _,p,p',h|.same _ _,p,p',h|.addr _ _,p,p',h|.sub _ _ _ _ _,p,p',h|.sl _ _,p,p',h|.ptr _,p,p',h|.tup _,p,p',h=>by simp only[cpT,vals];rw[show G'.hd d p'=G.hd s p from by simpa using h []]
theorem zDS:(xs:List T)→ ∀(p p':List Nat)(j:Nat),(∀z,G'.hd d (z++p')=G.hd s (z++p))→yH G' d (cpF s xs p j) p' j=yH G s xs p j
 | [],_,_,_,_=>by rfl
 |x::xs,p,p',j,h=>by simp only[cpF,yH];rw[zPU x (j::p) (j::p') (fun z=>by have:=h (z++[j]);grind),zDS xs p p' (j+1) h]
end
theorem zA7(t:T)(p p':List Nat)(ht:∀xs,t≠.tup xs)(h:∀z,G'.hd d (z++p')=G.hd s (z++p)):mkV G' d (cpT s t p) p'=sQ G s t p:=by
 cases t with
 |agg xs=>grind[cpT,mkV,sQ,zDS]
 |tup xs=>grind
 |_=>simpa[cpT,mkV,sQ]using h []
end
theorem kN(G:Gh)(s:Nat)(t:T)(p:List Nat)(ht:∀xs,t≠.tup xs):mkV G s t p=sQ G s t p:=by
 cases t with
 |tup xs=>grind
 |_=>rfl
def Gh.put(G:Gh)(d:Nat)(f:List Nat→Value):Gh:={ G with hd:=fun s z=>if s=d then f z else G.hd s z }
theorem Gh.put_other(G:Gh){d s:Nat}(f:List Nat→Value)(p:List Nat)(h:s≠d):(G.put d f).hd s p=G.hd s p:=by simp[Gh.put,h]
theorem Gh.put_self(G:Gh)(d:Nat)(f:List Nat→Value)(p:List Nat):(G.put d f).hd d p=f p:=by simp[Gh.put]
theorem zXy{d s:Nat}{p:List Nat}(h:Off [(d,0)] s p):s≠d:=by
 rintro rfl
 exact absurd (h 0 (by simp)) (by simp)
theorem Gh.put_keep(G:Gh){w w':World}(hw:w'.heap=w.heap)(d:Nat)(f:List Nat→Value):qY [(d,0)] G w (G.put d f) w' where
 hd s p h:=G.put_other f p (zXy h)
 ad _ _ _:=rfl
 lb b o f' s p _ h _:=⟨h,by grind[yR,World.cell?]⟩
 ow b s p h _:=h
 blk b cs e h:=by grind
theorem Mem.put{Γ:Ctx}{G:Gh}{w w':World}(h:Mem Γ G w)(hw:w'.heap=w.heap)(d:Nat)(f:List Nat→Value)(hf:∀z,(f z).oneCell'=io)(ho:w'.os=w.os:=by rfl)(hq:w'.output=w.output:=by rfl):Mem Γ (G.put d f) w' where
 one s p:=by unfold Gh.put;dsimp only;split;exact hf p;exact h.one s p
 lb b o l hl:=by have:=h.lb b o l hl;exact⟨by rw[hw];exact this.1,this.2⟩
 ow b l hl:=by have:=h.ow b l hl;exact⟨by rw[hw];exact this.1,this.2⟩
 st b x hx:=by rw[hw];exact h.st b x hx
 fr b h1 h2:=by rw[hw];exact h.fr b h1 h2
 sz:=by rw[hw];exact h.sz
 bk:=h.bk.trans (fun b cs e hb=>by grind) ho hq
theorem tZ(d:Nat)(x:Option T)(s:Nat):Wr.find [(d,x)] s=if d=s then ik x else im:=by rfl
theorem vN{Γ:Ctx}{E:Env}{G:Gh}{tmps:Array Value}{w w':World}(h:Rep Γ E G tmps w)(hw:w'.heap=w.heap){d:Nat}(hd:d<Γ.N)
  (f:List Nat→Value)(hf:∀z,(f z).oneCell'=io)(t:T)(v:Value)(hv:v=mkV (G.put d f) d t [])(hr:R Γ.St (G.put d f) w' d t [])(ht:Top t)(ho:w'.os=w.os:=by rfl)(hq:w'.output=w.output:=by rfl):
  Rep Γ (E.app [(d,ik t)] [(d,0)]) (G.put d f) (tmps.setIfInBounds d v) w':=by
 refine vL h (by simp) (G.put_keep hw d f) (h.mem.put hw d f hf ho hq) ?_ ?_
 ·grind[tZ]
 ·intro s t' hs
  rw[tZ]at hs;split at hs
  ·rename_i he
   subst he;simp at hs;subst hs;refine⟨?_,hr,ht⟩;rw[Jj];simp[h.size,hd,hv]
  ·cases hs
def wN(P:Program)(Γ:Ctx)(o:Oper)(E E':Env):Prop:=
 ∀(a:Act)(w:World)(K:Act→World→Prop)(Q:Exit→Act→World→Prop),Sim Γ E a w→(∀a' w',jG Γ E' a' w'→K a' w')→o.wp P a w K Q
def opT(E:Env):Operand→Option T
 |.tmp s=>E s
 |.const v=>if v.oneCell' then ik (.lit v)else im
 |.func f=>ik (.lit (.func (.func f) #[] #[]))
 |.global _=>im
def tH(x:Operand)(t:T):T:=match x with
 |.tmp s=>cpT s t []
 |_=>t
section
variable {P:Program}{Γ:Ctx}{E E':Env}{o:Oper}{d:Nat}
theorem wJ{a:Act}{s:Nat}{v:Value}(h:a.tmps[s]? =ik v):a.eval (.tmp s)=v:=by simp[Act.eval,Ki,h]
theorem wN.value(ho:o.dst=ik d)
  (h:∀(a:Act)(w:World)(G:Gh),Rep Γ E G a.tmps w→ ∃v w',(execOp a.eval o).run P w=.ok (.value v) w'∧ ∃G',Rep Γ E' G' (a.tmps.setIfInBounds d v) w'):wN P Γ o E E':=by
 intro a w K Q ⟨gN,G,g9⟩ hK;obtain⟨v,w',gz,G',fP⟩:=h a w G g9;unfold Oper.wp;rw[gz,Oper.upon_value];refine hK _ _ ?_;rw[ho];exact .of ⟨gN,G',fP⟩
theorem wN.skip(ho:o.dst=im)
  (h:∀(a:Act)(w:World)(G:Gh),Rep Γ E G a.tmps w→ ∃w',(execOp a.eval o).run P w=.ok .skip w'∧ ∃G',Rep Γ E' G' a.tmps w'):wN P Γ o E E':=by
 intro a w K Q ⟨gN,G,g9⟩ hK;obtain⟨w',gz,G',fP⟩:=h a w G g9;unfold Oper.wp;rw[gz,Oper.upon_skip];refine hK _ _ ?_;rw[ho];exact .of ⟨gN,G',fP⟩
theorem opd{G:Gh}{a:Act}{w:World}(g9:Rep Γ E G a.tmps w){x:Operand}{t:T}(hx:opT E x=ik t)(ht:∀xs,t≠.tup xs):
  ∃f:List Nat→Value,(∀z,(f z).oneCell'=io)∧(∀d,(∀s,x=.tmp s→s≠d)→T.okB [(d,0)] (tH x t)=io→
   a.eval x=mkV (G.put d f) d (tH x t) []∧R Γ.St (G.put d f) w d (tH x t) [])∧Top (tH x t):=by
 cases x with
 |tmp s=>
  obtain⟨h1,h2,h3⟩:=g9.ent s t hx;refine⟨fun z=>G.hd s z,fun z=>g9.mem.one s z,?_,qU s t []⟩;intro d gj gC;have cL:=gj s rfl;have hk:=G.put_keep (w:=w) (w':=w) rfl d (fun z=>G.hd s z);have hz:∀z,(G.put d (fun z=>G.hd s z)).hd d (z++[])=G.hd s (z++[]):=by grind[Gh.put_self]
  refine⟨?_,?_⟩
  ·grind[wJ,tH,zA7,kN]
  ·exact zDR (fun p=>G.put_other _ p cL) t [] [] hz ht (hk.keepR (zAo _ (qU s t []) gC)) h2
 |const v=>
  simp only[opT]at hx;split at hx
  ·rename_i gA
   simp at hx;subst hx;exact⟨fun _=>v,fun _=>gA,fun d _ _=>⟨by simp[Act.eval,tH,mkV,Gh.put],by simp[tH,R,Gh.put]⟩,by simp[tH,Top]⟩
  ·cases hx
 |func f=>
  simp only[opT]at hx;simp at hx;subst hx;exact⟨fun _=>.func (.func f) #[] #[],fun _=>rfl,fun d _ _=>⟨by simp[Act.eval,tH,mkV,Gh.put],by simp[tH,R,Gh.put]⟩,by simp[tH,Top]⟩
 |global g=>cases hx
theorem zOx(x:Operand)(t:T)(ho:o.op=.move x∨o.op=.assign x)(gk:o.dst=ik d)(hd:d<Γ.N)(hx:opT E x=ik t)(ht:∀xs,t≠.tup xs)
  (gj:∀s,x=.tmp s→s≠d)(gC:T.okB [(d,0)] (tH x t)=io):wN P Γ o E (E.app [(d,ik (tH x t))] [(d,0)]):=by
 refine wN.value gk fun a w G g9=>?_
 obtain⟨f,hf,h1,h2⟩:=opd g9 hx ht;obtain⟨h3,h4⟩:=h1 d gj gC;refine⟨a.eval x,w,?_,_,vN g9 rfl hd f hf _ _ h3 h4 h2⟩;rcases ho with ho|ho<;>simp[execOp,ho]
theorem wO{G:Gh}{a:Act}{w:World}(g9:Rep Γ E G a.tmps w){x:Operand}{v:Value}(hx:opT E x=ik (.lit v)):a.eval x=v∧v.oneCell'=io:=by
 cases x with
 |tmp s=>
  obtain⟨h1,h2,_⟩:=g9.ent s _ hx;simp only[R]at h2;refine⟨?_,by rw[←h2];exact g9.mem.one s []⟩
  grind[wJ,mkV]
 |const u=>
  simp only[opT]at hx;split at hx
  ·simp at hx;subst hx;exact⟨rfl,by assumption⟩
  ·cases hx
 |func f=>simp only[opT]at hx;simp at hx;subst hx;exact⟨rfl,rfl⟩
 |global g=>cases hx
theorem zAZ(v:Value)(hv:v.oneCell'=io)(gk:o.dst=ik d)(hd:d<Γ.N)
  (h:∀(a:Act)(w:World)(G:Gh),Rep Γ E G a.tmps w→(execOp a.eval o).run P w=.ok (.value v) w):wN P Γ o E (E.app [(d,ik (.lit v))] [(d,0)]):=by
 refine wN.value gk fun a w G g9=>?_
 exact⟨v,w,h a w G g9,_,vN g9 rfl hd (fun _=>v) (fun _=>hv) (.lit v) v (by simp[mkV,Gh.put]) (by simp[R,Gh.put]) (by simp[Top])⟩
def zJE(op:BinOp)(k:IntKind)(a b:Int):Option Value:=
 match op with
 |.add=>ik (.int k (k.wrap (a+b)))
 |.sub=>ik (.int k (k.wrap (a-b)))
 |.mul=>ik (.int k (k.wrap (a*b)))
 |.quo=>if b=0 then im else ik (.int k (k.wrap (a.tdiv b)))
 |.rem=>if b=0 then im else ik (.int k (a.tmod b))
 |.eql=>ik (.bool (a==b))
 |.neq=>ik (.bool (a != b))
 |.lss=>ik (.bool (decide (a<b)))
 |.leq=>ik (.bool (decide (a≤b)))
 |.gtr=>ik (.bool (decide (a> b)))
 |.geq=>ik (.bool (decide (a≥b)))
 |_=>im
theorem zRv{op:BinOp}{k:IntKind}{a b:Int}{v:Value}(h:zJE op k a b=ik v):v.oneCell'=io:=by cases op<;>simp[zJE]at h<;>first|(subst h;rfl)|(obtain⟨_,rfl⟩:=h;rfl)
theorem sH(op:BinOp)(xt yt:TypeId)(x y:Operand)(k:IntKind)(m n:Int)(v:Value)(ho:o.op=.binOp op xt x y yt)(gk:o.dst=ik d)(hd:d<Γ.N)
  (hx:opT E x=ik (.lit (.int k m)))(hy:opT E y=ik (.lit (.int k n)))(hv:zJE op k m n=ik v):wN P Γ o E (E.app [(d,ik (.lit v))] [(d,0)]):=by
 refine zAZ v (zRv hv) gk hd fun a w G g9=>?_
 have h1:=(wO g9 hx).1;have h2:=(wO g9 hy).1;cases op<;>simp[zJE]at hv<;>
  first
   |(subst hv;simp[execOp,ho,h1,h2,eqGuard,binOp,Op.intArith,Op.intCmp];done)
   |(obtain⟨h0,rfl⟩:=hv;simp[execOp,ho,h1,h2,eqGuard,binOp,Op.intDiv,h0])
theorem zXz(xt:TypeId)(x:Operand)(b:Bool)(ho:o.op=.unOp .not xt x)(gk:o.dst=ik d)(hd:d<Γ.N)
  (hx:opT E x=ik (.lit (.bool b))):wN P Γ o E (E.app [(d,ik (.lit (.bool !b)))] [(d,0)]):=by
 refine zAZ _ rfl gk hd fun a w G g9=>?_
 have h1:=(wO g9 hx).1;simp[execOp,ho,h1,Op.unary]
theorem zX0(xt:TypeId)(x:Operand)(k:IntKind)(n:Int)(ho:o.op=.unOp .neg xt x)(gk:o.dst=ik d)(hd:d<Γ.N)
  (hx:opT E x=ik (.lit (.int k n))):wN P Γ o E (E.app [(d,ik (.lit (.int k (k.wrap (0-n)))))] [(d,0)]):=by
 refine zAZ _ rfl gk hd fun a w G g9=>?_
 have h1:=(wO g9 hx).1;simp[execOp,ho,h1,Op.unary,Op.intArith]
theorem zUY(src dst:TypeId)(ds:TypeDesc)(x:Operand)(k k':IntKind)(n:Int)(ho:o.op=.convert src dst x)(gk:o.dst=ik d)(hd:d<Γ.N)
  (hs:P.underlying src=ik ds)(ht:P.underlying dst=ik (.int k'))(hx:opT E x=ik (.lit (.int k n))):
  wN P Γ o E (E.app [(d,ik (.lit (.int k' (k'.wrap n))))] [(d,0)]):=by
 refine zAZ _ rfl gk hd fun a w G g9=>?_
 have h1:=(wO g9 hx).1;simp[execOp,ho,h1,convert,run_underlying hs,run_underlying ht,Conv.intToInt]
theorem zUZ(c x y:Operand)(b:Bool)(t:T)(ho:o.op=.pick c x y)(gk:o.dst=ik d)(hd:d<Γ.N)
  (hc:opT E c=ik (.lit (.bool b)))(hx:opT E (if b then x else y)=ik t)(ht:∀xs,t≠.tup xs)
  (gj:∀s,(if b then x else y)=.tmp s→s≠d)(gC:T.okB [(d,0)] (tH (if b then x else y) t)=io):wN P Γ o E (E.app [(d,ik (tH (if b then x else y) t))] [(d,0)]):=by
 refine wN.value gk fun a w G g9=>?_
 obtain⟨f,hf,h1,h2⟩:=opd g9 hx ht;obtain⟨h3,h4⟩:=h1 d gj gC;refine⟨a.eval (if b then x else y),w,?_,_,vN g9 rfl hd f hf _ _ h3 h4 h2⟩;have h5:=(wO g9 hc).1;cases b<;>simp[execOp,ho,h5,asBool]
end
end Go.Ab

namespace Go.Ab
open Go
def qZ(E:Env):Nat→Nat→List Nat→Option (Nat×List Nat×T)
 |0,_,_=>im
 |n+1,r,q=>match E r with
  |some t=>match t.get q.reverse with
   |some (.same r' q')=>qZ E n r' q'
   |some u=>ik (r,q,u)
   |none=>im
  |none=>im
def tP(E:Env):Operand→Option (Nat×List Nat×T)
 |.tmp s=>qZ E 4 s []
 |_=>im
def T.single:T→Bool
 |.agg _|.tup _=>iq
 |_=>io
theorem xS{G:Gh}{s:Nat}{t:T}{p:List Nat}(h:t.single=io):mkV G s t p=G.hd s p:=by cases t<;>simp[T.single]at h<;>rfl
section
variable {P:Program}{Γ:Ctx}{E:Env}{o:Oper}{d:Nat}
theorem zDd{G:Gh}{a:Act}{w:World}(g9:Rep Γ E G a.tmps w):∀(n s:Nat)(p:List Nat)(r:Nat)(q:List Nat)(u:T),qZ E n s p=ik (r,q,u)→
  R Γ.St G w r u q∧G.hd s p=G.hd r q∧(∃t,E r=ik t∧t.get q.reverse=ik u)
 |0,_,_,_,_,_,h=>by grind[qZ]
 |n+1,s,p,r,q,u,h=>by
  simp only[qZ]at h;split at h
  ·rename_i t ht
   obtain⟨_,h4,_⟩:=g9.ent _ _ ht;split at h
   ·rename_i r' q' hg
    obtain⟨h1,h2,h3⟩:=zDd g9 n r' q' r q u h;have h5:=(zA6 p.reverse t _ [] h4 hg).1;simp only[rp,Kj,Jd,R]at h5
    grind
   ·rename_i u' hns hg
    simp at h;obtain⟨rfl,rfl,rfl⟩:=h;have h5:=(zA6 p.reverse t _ [] h4 hg).1
    simp_all
   ·cases h
  ·cases h
theorem jH{G:Gh}{a:Act}{w:World}(g9:Rep Γ E G a.tmps w){x:Operand}{r:Nat}{q:List Nat}{u:T}(h:tP E x=ik (r,q,u))(hu:u.single=io):
  R Γ.St G w r u q∧a.eval x=G.hd r q:=by
 cases x with
 |tmp s=>
  obtain⟨h1,h2,_⟩:=zDd g9 4 s [] r q u h;refine⟨h1,?_⟩;rw[←h2];simp only[tP,qZ]at h;split at h
  ·rename_i t ht
   obtain⟨h3,_,_⟩:=g9.ent s _ ht;rw[wJ h3];simp only[Qi,T.get]at h;have:t.single=io:=by cases t<;>first|rfl|simp_all
   exact xS this
  ·cases h
 |_=>grind[tP]
theorem zJF{St:Stb}{G:Gh}{w:World}{s:Nat}{k:Nat}{xs:List T}{p:List Nat}(h:R St G w s (.sl k xs) p):∃a c,G.hd s p=.slice a xs.length c:=by
 simp only[R]at h;rcases h with⟨rfl,a,h⟩|⟨b,cap,_,_,h,_⟩
 ·exact⟨a,0,h⟩
 ·exact⟨_,_,h⟩
theorem zDe{St:Stb}{G:Gh}{w:World}{s:Nat}{k:Nat}{xs:List T}{p:List Nat}(h:R St G w s (.ro (.sl k xs)) p):∃a c,G.hd s p=.slice a xs.length c∧xs.length≤c∧c≤maxLen∧
   (xs≠[]→ ∃b o' cs' e fr,a=ik ⟨b,o',im⟩∧St b=ik (.cells cs' e fr)∧RoL St xs cs' o' k):=by
 grind[R,RoC]
def zKR:T→Option Nat
 |.sl _ xs|.ro (.sl _ xs)=>ik xs.length
 |.lit (.slice _ n _)=>ik n
 |.lit (.string s)=>ik s.size
 |_=>im
def zVa:T→TypeDesc→Bool
 |.lit (.string _),.string=>io
 |.sl _ _,.slice _|.ro (.sl _ _),.slice _|.lit (.slice _ _ _),.slice _=>io
 |_,_=>iq
theorem zRw(x:Operand)(t:TypeId)(ds:TypeDesc)(r:Nat)(q:List Nat)(u:T)(n:Nat)(ho:o.op=.call { callee:=.builtin .len,args:=#[x],argTypes:=#[t] })(gk:o.dst=ik d)(hd:d<Γ.N)
  (ht:P.underlying t=ik ds)(hx:tP E x=ik (r,q,u))(hl:zKR u=ik n)(m7:zVa u ds=io):
  wN P Γ o E (E.app [(d,ik (.lit (.int .i64 n)))] [(d,0)]):=by
 refine zAZ (.int .i64 n) rfl gk hd fun a w G g9=>?_
 have hu:u.single=io:=by cases u<;>simp[zKR]at hl<;>rfl
 obtain⟨h1,h2⟩:=jH g9 hx hu;have h3:(Builtin.len_ #[t] o.type #[G.hd r q]).run P w=.ok (.int .i64 n) w:=by
  cases u with
  |sl k xs=>
   obtain⟨a',c,h4⟩:=zJF h1;simp[zKR]at hl;subst hl;cases ds<;>simp[zVa]at m7
   simp[Builtin.len_,run_underlying ht,h4,goInt]
  |ro t'=>
   cases t'<;>simp[zKR]at hl
   obtain⟨a',c,h4,_⟩:=zDe h1;subst hl;cases ds<;>simp[zVa]at m7
   simp[Builtin.len_,run_underlying ht,h4,goInt]
  |lit v=>
   simp only[R]at h1;cases v<;>simp[zKR]at hl<;>(subst hl;cases ds<;>simp[zVa]at m7;simp[Builtin.len_,run_underlying ht,h1,goInt])
  |_=>grind[zKR]
 simp[execOp,ho,resolve,invoke,builtin,h2,h3]
theorem zBF{G:Gh}{w:World}{s:Nat}{t:T}{p:List Nat}{b o:Nat}(h:Loc G w s t p b o):G.ad s p=⟨b,o,im⟩:=by cases t<;>simp only[Loc]at h<;>first|exact h.1|exact h.elim
theorem uR(b o n:Nat):(⟨b,o,im⟩:Addr).add n=⟨b,o+n,im⟩:=by grind[Addr.add]
theorem zVb{St:Stb}{G:Gh}{w:World}{s:Nat}{k:Nat}{xs:List T}{p:List Nat}(h:R St G w s (.sl k xs) p){i:Nat}(hi:i<xs.length):
  ∃b cap,G.hd s p=.slice (ik ⟨b,0,im⟩) xs.length cap∧G.ad s (i::p)=⟨b,i*k,im⟩:=by
 simp only[R]at h;rcases h with⟨rfl,_⟩|⟨b,cap,cs,e,h1,h2,h3,h4,h5,h6,h7,h8⟩
 ·simp at hi
 ·have:=(jU xs p 0 b 0 k i xs[i] h8 (by simp[hi])).1
  simp only[Jc]at this;exact⟨b,cap,h1,zBF this⟩
theorem zRx(x y:Operand)(t e:TypeId)(ti:TypeInfo)(r:Nat)(q:List Nat)(k:Nat)(xs:List T)(kd:IntKind)(i:Int)(ho:o.op=.indexAddr t x y)(gk:o.dst=ik d)(hd:d<Γ.N)
  (ht:P.underlying t=ik (.slice e))(he:P.info? e=ik ti)(hk:ti.size=k)(hx:tP E x=ik (r,q,.sl k xs))(hy:opT E y=ik (.lit (.int kd i)))(h0:0≤i)(h1:i.toNat<xs.length):
  wN P Γ o E (E.app [(d,ik (.addr r (i.toNat::q)))] [(d,0)]):=by
 refine wN.value gk fun a w G g9=>?_
 obtain⟨g1,g2⟩:=jH g9 hx rfl;have g3:=(wO g9 hy).1;obtain⟨b,cap,g4,g5⟩:=zVb g1 h1;refine⟨.pointer (ik (G.ad r (i.toNat::q))),w,?_,_,vN g9 rfl hd (fun _=>.pointer (ik (G.ad r (i.toNat::q)))) (fun _=>rfl) _ _ (by simp[mkV,Gh.put]) (by simp[R,Gh.put]) (by simp[Top])⟩;have gF:i<(xs.length:Int):=by omega
 simp[execOp,ho,Instr.indexAt,g3,g2,g4,asIntOf,run_underlying ht,h0,gF,sizeOf,typeInfo,he,hk,uR,g5]
theorem zG4{St:Stb}:(xs:List T)→ ∀(cs:Array Value)(o k i:Nat)(x:T),RoL St xs cs o k→xs[i]? =ik x→RoC St x cs (o+i*k)
 | [],_,_,_,_,_,_,h=>by simp at h
 |y::ys,cs,o,k,i,x,hr,h=>by
  simp only[RoL]at hr;cases i with
  |zero=>grind
  |succ i=>
   have:=zG4 ys cs (o+k) k i x hr.2 (by grind)
   grind
theorem zOy{St:Stb}:(xs:List T)→ ∀(cs:Array Value)(o i:Nat)(x:T),RoF St xs cs o→xs[i]? =ik x→RoC St x cs (o+T.sizes (xs.take i))
 | [],_,_,_,_,_,h=>by simp at h
 |y::ys,cs,o,i,x,hr,h=>by
  simp only[RoF]at hr;cases i with
  |zero=>grind[T.sizes]
  |succ i=>
   have:=zOy ys cs (o+y.size) i x hr.2 (by grind)
   grind[T.sizes]
theorem zRy(x y:Operand)(t e:TypeId)(ti:TypeInfo)(r:Nat)(q:List Nat)(k:Nat)(xs:List T)(kd:IntKind)(i:Int)(u:T)(ho:o.op=.indexAddr t x y)(gk:o.dst=ik d)(hd:d<Γ.N)
  (ht:P.underlying t=ik (.slice e))(he:P.info? e=ik ti)(hk:ti.size=k)(hx:tP E x=ik (r,q,.ro (.sl k xs)))(hy:opT E y=ik (.lit (.int kd i)))(h0:0≤i)(h1:xs[i.toNat]? =ik u):
  wN P Γ o E (E.app [(d,ik (.ro (.ptr u)))] [(d,0)]):=by
 refine wN.value gk fun a w G g9=>?_
 obtain⟨g1,g2⟩:=jH g9 hx rfl;have g3:=(wO g9 hy).1;have hlt':i.toNat<xs.length:=(Jn.1 h1).1;obtain⟨a',c,g4,_,_,g5⟩:=zDe g1;obtain⟨b,o',cs',e',fr,rfl,g6,g7⟩:=g5 (by rintro rfl;grind);have g8:=zG4 xs cs' o' k i.toNat u g7 h1;refine⟨.pointer (ik ⟨b,o'+i.toNat*k,im⟩),w,?_,_,vN g9 rfl hd (fun _=>.pointer (ik ⟨b,o'+i.toNat*k,im⟩)) (fun _=>rfl) _ _ (by simp[mkV,Gh.put]) ?_ (by simp[Top])⟩
 ·have gF:i<(xs.length:Int):=by omega
  simp[execOp,ho,Instr.indexAt,g3,g2,g4,asIntOf,run_underlying ht,h0,gF,sizeOf,typeInfo,he,hk,uR]
 grind[R,Gh.put_self,RoC]
theorem zCs:(xs:List T)→ ∀{G:Gh}{w:World}{s:Nat}(p:List Nat)(j b o i:Nat)(x:T),vK G w s xs p j b o→xs[i]? =ik x→
  Loc G w s x ((j+i)::p) b (o+T.sizes (xs.take i))
 | [],_,_,_,_,_,_,_,_,_,_,h=>by simp at h
 |y::ys,G,w,s,p,j,b,o,i,x,hr,h=>by
  simp only[vK]at hr;cases i with
  |zero=>grind[T.sizes]
  |succ i=>
   have:=zCs ys p (j+1) b (o+y.size) i x hr.2 (by grind)
   grind[T.sizes]
theorem sD{P:Program}{w:World}(a:Addr):(Instr.sureAddr (.pointer (ik a))).run P w=.ok a w:=rfl
theorem zCt{P:Program}{w:World}{S:TypeId}{fs:Array Field}{f:Field}{fi:TypeInfo}{j:Nat}{b o':Nat}(hS:P.underlying S=ik (.struct fs))(hf:fs[j]? =ik f)(hi:P.info? f.type=ik fi)(hz:fi.size≠0):
  (Instr.fieldAt S (.pointer (ik ⟨b,o',im⟩)) j).run P w=.ok (.pointer (ik ⟨b,o'+f.offset,im⟩)) w:=by
 simp[Instr.fieldAt,run_underlying hS,hf,sD,fieldPlace,sizeOf,typeInfo,hi,hz,uR]
theorem zYY(x:Operand)(S:TypeId)(fs:Array Field)(f:Field)(fi:TypeInfo)(j:Nat)(r:Nat)(q:List Nat)(xs:List T)(u:T)(ho:o.op=.fieldAddr S x j)(gk:o.dst=ik d)(hd:d<Γ.N)
  (hS:P.underlying S=ik (.struct fs))(hf:fs[j]? =ik f)(hi:P.info? f.type=ik fi)(hz:fi.size≠0)(hx:tP E x=ik (r,q,.ptr (.agg xs)))(hu:xs[j]? =ik u)(gG:T.sizes (xs.take j)=f.offset):
  wN P Γ o E (E.app [(d,ik (.addr r (j::0::q)))] [(d,0)]):=by
 refine wN.value gk fun a w G g9=>?_
 obtain⟨g1,g2⟩:=jH g9 hx rfl;simp only[R]at g1;obtain⟨b,cs,e,g4,_,_,_,g5,_⟩:=g1;simp only[Loc]at g5;have g6:=zCs xs (0::q) 0 b 0 j u g5.2 hu;simp only[Jc]at g6;refine⟨.pointer (ik (G.ad r (j::0::q))),w,?_,_,vN g9 rfl hd (fun _=>.pointer (ik (G.ad r (j::0::q)))) (fun _=>rfl) _ _ (by simp[mkV,Gh.put]) (by simp[R,Gh.put]) (by simp[Top])⟩;have g7:=zCt (w:=w) (b:=b) (o':=0) hS hf hi hz;simp[execOp,ho,g2,g4,g7,zBF g6,gG]
theorem zNd(x:Operand)(S:TypeId)(fs:Array Field)(f:Field)(fi:TypeInfo)(j:Nat)(r:Nat)(q:List Nat)(t:T)(xs:List T)(u:T)(ho:o.op=.fieldAddr S x j)(gk:o.dst=ik d)(hd:d<Γ.N)
  (hS:P.underlying S=ik (.struct fs))(hf:fs[j]? =ik f)(hi:P.info? f.type=ik fi)(hz:fi.size≠0)(hx:opT E x=ik (.addr r q))(hr:E r=ik t)(hg:t.get q.reverse=ik (.agg xs))(hl:t.locd q.reverse=io)
  (hu:xs[j]? =ik u)(gG:T.sizes (xs.take j)=f.offset):
  wN P Γ o E (E.app [(d,ik (.addr r (j::q)))] [(d,0)]):=by
 refine wN.value gk fun a w G g9=>?_
 cases x with
 |tmp s=>
  obtain⟨h1,h2,_⟩:=g9.ent s _ hx;obtain⟨_,h4,_⟩:=g9.ent r _ hr;simp only[R]at h2;obtain⟨b,o',cs,e,h6,_,_⟩:=(zA6 q.reverse t _ [] h4 hg).2 hl;simp only[rp,Kj,Jd]at h6;have h7:=zBF h6;simp only[Loc]at h6;have g6:=zCs xs q 0 b o' j u h6.2 hu;simp only[Jc]at g6;refine⟨.pointer (ik (G.ad r (j::q))),w,?_,_,vN g9 rfl hd (fun _=>.pointer (ik (G.ad r (j::q)))) (fun _=>rfl) _ _ (by simp[mkV,Gh.put]) (by simp[R,Gh.put]) (by simp[Top])⟩;have g7:=zCt (w:=w) (b:=b) (o':=o') hS hf hi hz;simp[execOp,ho,wJ h1,mkV,h2,h7,g7,zBF g6,gG]
 |const v=>grind[opT]
 |func f=>grind[opT]
 |global g=>grind[opT]
theorem zNe{G:Gh}{a:Act}{w:World}(g9:Rep Γ E G a.tmps w){x:Operand}{u:T}(hx:opT E x=ik (.ro u)):RoC Γ.St u #[a.eval x] 0:=by
 cases x with
 |tmp s=>
  obtain⟨h1,h2,_⟩:=g9.ent s _ hx;simp only[R]at h2;rw[wJ h1,xS rfl];exact h2
 |const v=>grind[opT]
 |func f=>grind[opT]
 |global g=>grind[opT]
theorem zRz(x:Operand)(S:TypeId)(fs:Array Field)(f:Field)(fi:TypeInfo)(j:Nat)(xs:List T)(u:T)(ho:o.op=.fieldAddr S x j)(gk:o.dst=ik d)(hd:d<Γ.N)
  (hS:P.underlying S=ik (.struct fs))(hf:fs[j]? =ik f)(hi:P.info? f.type=ik fi)(hz:fi.size≠0)(hx:opT E x=ik (.ro (.ptr (.agg xs))))(hu:xs[j]? =ik u)(gG:T.sizes (xs.take j)=f.offset):
  wN P Γ o E (E.app [(d,ik (.ro (.ptr u)))] [(d,0)]):=by
 refine wN.value gk fun a w G g9=>?_
 have h1:=zNe g9 hx;simp only[RoC]at h1;obtain⟨b,o',cs',e,fr,h2,h3,h4⟩:=h1;have h5:=zOy xs cs' o' j u h4 hu;refine⟨.pointer (ik ⟨b,o'+f.offset,im⟩),w,?_,_,vN g9 rfl hd (fun _=>.pointer (ik ⟨b,o'+f.offset,im⟩)) (fun _=>rfl) _ _ (by simp[mkV,Gh.put]) ?_ (by simp[Top])⟩
 ·have g7:=zCt (w:=w) (b:=b) (o':=o') hS hf hi hz
  have h6:a.eval x=.pointer (ik ⟨b,o',im⟩):=by grind
  simp[execOp,ho,h6,g7]
 grind[R,Gh.put_self,RoC]
def zFu:TypeDesc→Bool
 |.struct _|.array _ _=>io
 |_=>iq
theorem jW{P:Program}{w:World}{t:TypeId}{ds:TypeDesc}(ht:P.underlying t=ik ds):(isAgg t).run P w=.ok (zFu ds) w:=by cases ds<;>simp[isAgg,run_underlying ht,zFu]
theorem vD{G:Gh}{w:World}{s:Nat}{t:T}{p:List Nat}{b o:Nat}(ht:t.single=io)(h:Loc G w s t p b o):G.ad s p=⟨b,o,im⟩∧G.lb b o=ik (iq,s,p)∧yR w b o=ik (G.hd s p):=by cases t<;>simp[T.single]at ht<;>simpa only[Loc]using h
mutual
theorem zR0{G:Gh}{w:World}{s:Nat}:(t:T)→ ∀(p:List Nat)(b o:Nat),Loc G w s t p b o→ ∀(i:Nat)(v:Value),(vals G s t p)[i]? =ik v→yR w b (o+i)=ik v
 |.agg xs,p,b,o,h,i,v,hv=>by simp only[Loc,vals]at h hv;exact zBk xs p 0 b o h.2 i v hv
 |.any,p,b,o,h,i,v,hv|.lit _,p,b,o,h,i,v,hv|.ro _,p,b,o,h,i,v,hv|.same _ _,p,b,o,h,i,v,hv|.addr _ _,p,b,o,h,i,v,hv|.sub _ _ _ _ _,p,b,o,h,i,v,hv|.sl _ _,p,b,o,h,i,v,hv|.ptr _,p,b,o,h,i,v,hv=>by grind[Loc,vals]
 |.tup _,_,_,_,h,_,_,_=>by grind[Loc]
theorem zBk{G:Gh}{w:World}{s:Nat}:(xs:List T)→ ∀(p:List Nat)(j b o:Nat),vK G w s xs p j b o→ ∀(i:Nat)(v:Value),(yH G s xs p j)[i]? =ik v→yR w b (o+i)=ik v
 | [],_,_,_,_,_,i,v,hv=>by grind[yH]
 |x::xs,p,j,b,o,h,i,v,hv=>by
  simp only[vK,yH]at h hv;rw[Kl]at hv;split at hv
  ·exact zR0 x (j::p) b o h.1 i v hv
  ·rename_i hge
   have gf:=vH (G:=G) (s:=s) x (j::p) (by grind[Loc]);have:=zBk xs p (j+1) b (o+x.size) h.2 _ v hv
   grind
theorem vH{G:Gh}{s:Nat}:(t:T)→ ∀(p:List Nat),(∀xs,t≠.tup xs)→(vals G s t p).length=t.size
 |.agg xs,p,_=>by simp only[vals,T.size];exact wS xs p 0
 |.any,_,_|.lit _,_,_|.ro _,_,_|.same _ _,_,_|.addr _ _,_,_|.sub _ _ _ _ _,_,_|.sl _ _,_,_|.ptr _,_,_|.tup _,_,_=>by rfl
theorem wS{G:Gh}{s:Nat}:(xs:List T)→ ∀(p:List Nat)(j:Nat),(yH G s xs p j).length=T.sizes xs
 | [],_,_=>by rfl
 |x::xs,p,j=>by
  simp only[yH,J5,T.sizes,wS xs p (j+1)]
  by_cases hx:∃ys,x=.tup ys
  ·obtain⟨ys,rfl⟩:=hx;rfl
  ·rw[vH x (j::p) (by grind)]
end
theorem zGc{P:Program}{G:Gh}{w:World}{s:Nat}{t:T}{p:List Nat}{b o':Nat}{T':TypeId}{ds:TypeDesc}{ti:TypeInfo}(hT:P.underlying T'=ik ds)(hi:P.info? T'=ik ti)(hl:Loc G w s t p b o')
  (fW:zFu ds= !t.single)(gy:ti.size=t.size):(loadVar T' ⟨b,o',im⟩).run P w=.ok (sQ G s t p) w:=by
 cases t with
 |agg xs=>
  have h1:=run_loadCells_list (P:=P) (w:=w) ⟨b,o',im⟩ (yH G s xs p 0) (fun j v hv=>by rw[uR];simp only[Loc]at hl;exact zBk xs p 0 b o' hl.2 j v hv)
  rw[wS]at h1;simp only[T.size]at gy;simp[T.single]at fW;simp[loadVar,jW hT,fW,sizeOf,typeInfo,hi,gy,h1,sQ]
 |tup xs=>grind[Loc]
 |_=>
  have h1:=(vD rfl hl).2.2;simp[T.single]at fW;simp only[yR]at h1;simp[loadVar,jW hT,fW,load,Sem.run,h1,sQ]
def zAN(Γ:Ctx)(E:Env)(x:Operand)(r:Nat)(q:List Nat):Prop:=∀(a:Act)(w:World)(G:Gh),Rep Γ E G a.tmps w→a.eval x=.pointer (ik (G.ad r q))
theorem zAN.addr{x:Operand}{r:Nat}{q:List Nat}(hx:opT E x=ik (.addr r q)):zAN Γ E x r q:=fun a w G g9=>by
 cases x with
 |tmp s=>
  obtain⟨h1,h2,_⟩:=g9.ent s _ hx;simp only[R]at h2;rw[wJ h1];exact h2
 |const v=>grind[opT]
 |func f=>grind[opT]
 |global g=>grind[opT]
theorem zAN.ptr{x:Operand}{r:Nat}{q:List Nat}{t:T}(hx:tP E x=ik (r,q,.ptr t)):zAN Γ E x r (0::q):=fun a w G g9=>by
 obtain⟨g1,g2⟩:=jH g9 hx rfl
 grind[R,zBF]
theorem zKS(x:Operand)(T':TypeId)(ds:TypeDesc)(ti:TypeInfo)(r:Nat)(q:List Nat)(t u:T)(ho:o.op=.load T' x)(gk:o.dst=ik d)(hd:d<Γ.N)
  (hT:P.underlying T'=ik ds)(hi:P.info? T'=ik ti)(fW:zFu ds= !u.single)(gy:ti.size=u.size)
  (hx:zAN Γ E x r q)(hr:E r=ik t)(hg:t.get q.reverse=ik u)(hl:t.locd q.reverse=io)(gw:r≠d)(gC:T.okB [(d,0)] (cpT r u q)=io):
  wN P Γ o E (E.app [(d,ik (cpT r u q))] [(d,0)]):=by
 refine wN.value gk fun a w G g9=>?_
 have bA:=hx a w G g9;obtain⟨_,h4,_⟩:=g9.ent r _ hr;obtain⟨h5,h6⟩:=zA6 q.reverse t u [] h4 hg;obtain⟨b,o',cs,e,h6,_,_⟩:=h6 hl;simp only[rp,Kj,Jd]at h5 h6;have ef:∀xs,u≠.tup xs:=by rintro xs rfl;simp only[Loc]at h6
 have h7:=zBF h6;have hz:∀z,(G.put d (fun z=>G.hd r (z++q))).hd d (z++[])=G.hd r (z++q):=fun z=>by rw[Gh.put_self,Jd]
 have hk:=G.put_keep (w:=w) (w':=w) rfl d (fun z=>G.hd r (z++q));refine⟨sQ G r u q,w,?_,_,vN g9 rfl hd (fun z=>G.hd r (z++q)) (fun z=>g9.mem.one _ _) _ _ (zA7 u q [] ef hz).symm
  (zDR (fun p=>G.put_other _ p gw) u q [] hz ef (hk.keepR (zAo _ (qU r u q) gC)) h5) (qU r u q)⟩
 have h8:=zGc (T':=T') hT hi h6 fW gy;simp[execOp,ho,bA,h7,Instr.loadAt,sD,h8]
theorem zVc(x:Operand)(T':TypeId)(ds:TypeDesc)(ti:TypeInfo)(r:Nat)(q:List Nat)(t u:T)(ho:o.op=.load T' x)(gk:o.dst=ik d)(hd:d<Γ.N)
  (hT:P.underlying T'=ik ds)(hi:P.info? T'=ik ti)(fW:zFu ds= !u.single)(gy:ti.size=u.size)
  (hx:opT E x=ik (.addr r q))(hr:E r=ik t)(hg:t.get q.reverse=ik u)(hl:t.locd q.reverse=io)(gw:r≠d)(gC:T.okB [(d,0)] (cpT r u q)=io):
  wN P Γ o E (E.app [(d,ik (cpT r u q))] [(d,0)]):=by grind[zKS,zAN.addr]
def roT:T→T
 |.lit v=>.lit v
 |.agg xs=>.agg (roTs xs)
 |.ro t=>.ro t
 |.any=>.any
 |.same r q=>.ro (.same r q)
 |.addr r q=>.ro (.addr r q)
 |.sub r q k lo hi=>.ro (.sub r q k lo hi)
 |.sl k xs=>.ro (.sl k xs)
 |.ptr t=>.ro (.ptr t)
 |.tup xs=>.ro (.tup xs)
where roTs:List T→List T
 | []=>[]
 |x::xs=>roT x::roTs xs
end
end Go.Ab

namespace Go.Ab
open Go
def jX(v:Value):Value:=if v.oneCell' then v else .bool iq
theorem zBl(v:Value):(jX v).oneCell'=io:=by
 unfold jX;split
 ·assumption
 ·rfl
theorem zAp{v:Value}(h:v.oneCell'=io):jX v=v:=by simp[jX,h]
def zDT:T→Array Value→Nat→List Nat→Value
 |.agg xs,cs,o,i::f=>match xs[i]? with
  |some x=>zDT x cs (o+T.sizes (xs.take i)) f
  |none=>.bool iq
 |_,cs,o,_=>cs.getD o (.bool iq)
termination_by structural _ _ _ f=>f
theorem zAO{t:T}(h:t.single=io)(cs:Array Value)(o:Nat)(f:List Nat):zDT t cs o f=cs.getD o (.bool iq):=by cases t<;>simp[T.single]at h<;>cases f<;>rfl
mutual
theorem zE5:(u:T)→(∀xs,u≠.tup xs)→(roT u).size=u.size
 |.agg xs,_=>by simp only[roT,T.size];exact zFv xs
 |.lit _,_|.any,_|.sl _ _,_|.ptr _,_|.ro _,_|.same _ _,_|.addr _ _,_|.sub _ _ _ _ _,_|.tup _,_=>by rfl
theorem zFv:(xs:List T)→T.sizes (roT.roTs xs)=T.sizes xs
 | []=>by rfl
 |x::xs=>by
  simp only[roT.roTs,T.sizes,zFv xs]
  by_cases hx:∃ys,x=.tup ys
  ·obtain⟨ys,rfl⟩:=hx;rfl
  ·rw[zE5 x (by grind)]
end
section
variable {St:Stb}{G:Gh}{w:World}{d:Nat}
theorem zGO{u:T}{cs:Array Value}{o:Nat}(hu:u.single=io)(h:RoC St u cs o):∃v,cs[o]? =ik v∧v.oneCell'=io∧RoC St u #[v] 0:=by
 cases u<;>simp[T.single]at hu<;>simp only[RoC]at h ⊢
 ·grind
 ·grind
 ·obtain⟨a,c,h1,h2⟩:=h;exact⟨_,h1,rfl,a,c,by simp,h2⟩
 ·obtain⟨b,o',cs',e,fr,h1,h2⟩:=h;exact⟨_,h1,rfl,b,o',cs',e,fr,by simp,h2⟩
mutual
theorem zR1:(u:T)→ ∀(cs:Array Value)(o:Nat)(p:List Nat),(∀z,G.hd d (z++p)=jX (zDT u cs o z.reverse))→RoC St u cs o→R St G w d (roT u) p
 |.agg xs,cs,o,p,hd,h=>by
  simp only[roT,R,RoC]at h ⊢
  exact zR2 xs cs o p 0 o (by simp) (fun z j x hx=>by
   have:=hd (z++[j]);simp only[Jb,K4,Jx,Jap,Jbd,Qi,zDT]at this
   grind) h
 |.lit v,cs,o,p,hd,h=>by
  simp only[roT,R,RoC]at h ⊢
  have:=hd [];rw[Jx,zAO rfl]at this;rw[this];simp[Ki,h.1,zAp h.2]
 |.any,_,_,_,_,_=>by simp only[roT,R]
 |.sl k xs,cs,o,p,hd,h|.ptr t,cs,o,p,hd,h=>by obtain⟨v,h1,h2,h3⟩:=zGO rfl h;have:=hd [];rw[Jx,zAO rfl]at this;simp only[roT,R];rw[this];simpa[Ki,h1,zAp h2]using h3
 |.ro _,_,_,_,_,h|.same _ _,_,_,_,_,h|.addr _ _,_,_,_,_,h|.sub _ _ _ _ _,_,_,_,_,h|.tup _,_,_,_,_,h=>by simp only[RoC]at h
theorem zR2:(xs:List T)→ ∀(cs:Array Value)(o0:Nat)(p:List Nat)(j o:Nat),o0≤o→(∀z i x,xs[i]? =ik x→G.hd d (z++((j+i)::p))=jX (zDT x cs (o+T.sizes (xs.take i)) z.reverse))→RoF St xs cs o→RF St G w d (roT.roTs xs) p j
 | [],_,_,_,_,_,_,_,_=>by simp only[roT.roTs,RF]
 |x::xs,cs,o0,p,j,o,ho,hd,h=>by
  simp only[roT.roTs,RF,RoF]at h ⊢
  refine⟨zR1 x cs o (j::p) (fun z=>by simpa[T.sizes]using hd z 0 x (by simp)) h.1,zR2 xs cs o0 p (j+1) (o+x.size) (by omega) (fun z i y hy=>?_) h.2⟩;have:=hd z (i+1) y (by grind)
  grind[T.sizes]
end
mutual
theorem zGP:(u:T)→ ∀(cs:Array Value)(o:Nat)(p:List Nat),(∀z,G.hd d (z++p)=jX (zDT u cs o z.reverse))→RoC St u cs o→ ∀(i:Nat)(v:Value),(vals G d (roT u) p)[i]? =ik v→cs[o+i]? =ik v
 |.agg xs,cs,o,p,hd,h,i,v,hv=>by
  simp only[roT,vals,RoC]at h hv;exact zIL xs cs p 0 o (fun z j x hx=>by
   have:=hd (z++[j]);simp only[Jb,K4,Jx,Jap,Jbd,Qi,zDT]at this
   grind) h i v hv
 |.lit _,cs,o,p,hd,h,i,v,hv|.any,cs,o,p,hd,h,i,v,hv|.sl _ _,cs,o,p,hd,h,i,v,hv|.ptr _,cs,o,p,hd,h,i,v,hv=>by
  obtain⟨v',h1,h2,h3⟩:=zGO rfl h;have:=hd [];rw[Jx,zAO rfl]at this;simp only[roT,vals]at hv;cases i with
  |zero=>
   simp at hv;rw[←hv,this];simp[Ki,h1,zAp h2]
  |succ i=>simp at hv
 |.ro _,_,_,_,_,h,_,_,_|.same _ _,_,_,_,_,h,_,_,_|.addr _ _,_,_,_,_,h,_,_,_|.sub _ _ _ _ _,_,_,_,_,h,_,_,_|.tup _,_,_,_,_,h,_,_,_=>by simp only[RoC]at h
theorem zIL:(xs:List T)→ ∀(cs:Array Value)(p:List Nat)(j o:Nat),(∀z i x,xs[i]? =ik x→G.hd d (z++((j+i)::p))=jX (zDT x cs (o+T.sizes (xs.take i)) z.reverse))→RoF St xs cs o→ ∀(i:Nat)(v:Value),(yH G d (roT.roTs xs) p j)[i]? =ik v→cs[o+i]? =ik v
 | [],_,_,_,_,_,_,i,v,hv=>by grind[roT.roTs,yH]
 |x::xs,cs,p,j,o,hd,h,i,v,hv=>by
  simp only[roT.roTs,yH,RoF]at h hv;have hx:∀z,G.hd d (z++(j::p))=jX (zDT x cs o z.reverse):=fun z=>by simpa[T.sizes]using hd z 0 x (by simp)
  have gf:(vals G d (roT x) (j::p)).length=x.size:=by have hs:(roT x).size=x.size:=zE5 x (fun ys e=>by subst e;simp only[RoC]at h;exact h.1);rw[vH (roT x) (j::p) (fun ys e=>by cases x<;>simp[roT]at e),hs]
  rw[Kl]at hv;split at hv
  ·exact zGP x cs o (j::p) hx h.1 i v hv
  ·have:=zIL xs cs p (j+1) (o+x.size) (fun z i y hy=>by
    have:=hd z (i+1) y (by grind)
    grind[T.sizes]) h.2 _ v hv
   grind
end
mutual
theorem zOz:(u:T)→Top (roT u)
 |.agg xs=>by simp only[roT,Top];exact zKT xs
 |.lit _|.any|.sl _ _|.ptr _|.ro _|.same _ _|.addr _ _|.sub _ _ _ _ _|.tup _=>by simp[roT,Top]
theorem zKT:(xs:List T)→vP (roT.roTs xs)
 | []=>by simp only[roT.roTs,vP]
 |x::xs=>by simp only[roT.roTs,vP];exact⟨zOz x,zKT xs⟩
end
end
section
variable {P:Program}{Γ:Ctx}{E:Env}{o:Oper}{d:Nat}
theorem zO0{G:Gh}{w:World}(hm:Mem Γ G w){b:Nat}{cs:Array Value}{e:TypeId}{fr:Nat×Nat}(h:Γ.St b=ik (.cells cs e fr))(i:Nat):w.cell? ⟨b,i,im⟩=cs[i]?:=by simp[World.cell?,hm.st b _ h]
theorem zNf(x:Operand)(T':TypeId)(ds:TypeDesc)(ti:TypeInfo)(u:T)(ho:o.op=.load T' x)(gk:o.dst=ik d)(hd:d<Γ.N)
  (hT:P.underlying T'=ik ds)(hi:P.info? T'=ik ti)(fW:zFu ds= !u.single)(gy:ti.size=u.size)
  (hx:opT E x=ik (.ro (.ptr u))):wN P Γ o E (E.app [(d,ik (roT u))] [(d,0)]):=by
 refine wN.value gk fun a w G g9=>?_
 have h1:=zNe g9 hx;simp only[RoC]at h1;obtain⟨b,o',cs',e,fr,h2,h3,h4⟩:=h1;have cw:a.eval x=.pointer (ik ⟨b,o',im⟩):=by grind
 have ef:∀xs,u≠.tup xs:=by rintro xs rfl;simp only[RoC]at h4
 let f:List Nat→Value:=fun z=>jX (zDT u cs' o' z.reverse)
 have hz:∀z,(G.put d f).hd d (z++[])=jX (zDT u cs' o' z.reverse):=by grind[Gh.put_self]
 refine⟨mkV (G.put d f) d (roT u) [],w,?_,_,vN g9 rfl hd f (fun z=>zBl _) _ _ rfl (by grind[zR1]) (zOz u)⟩;cases u with
 |agg xs=>
  have h5:∀j v,(yH (G.put d f) d (roT.roTs xs) [] 0)[j]? =ik v→w.cell? ((⟨b,o',im⟩:Addr).add j)=ik v:=by intro j v hv;rw[uR,zO0 g9.mem h3];exact zGP (.agg xs) cs' o' [] hz h4 j v (by grind[roT,vals])
  have h6:=run_loadCells_list (P:=P) (w:=w) ⟨b,o',im⟩ _ h5;rw[wS,zFv]at h6;simp only[T.size]at gy;simp[T.single]at fW;simp[execOp,ho,cw,Instr.loadAt,sD,loadVar,jW hT,fW,sizeOf,typeInfo,hi,gy,h6,mkV,roT]
 |tup xs=>grind
 |_=>
  obtain⟨v,h5,h6,h7⟩:=zGO rfl h4;have h8:w.cell? ⟨b,o',im⟩=ik v:=by rw[zO0 g9.mem h3];exact h5
  simp[T.single]at fW;have h9:f []=v:=by show jX (zDT _ cs' o' _)=v;rw[zAO rfl];simp[Ki,h5,zAp h6]
  simp[execOp,ho,cw,Instr.loadAt,sD,loadVar,jW hT,fW,load,Sem.run,h8,mkV,roT,Gh.put_self,h9]
def zGd(E:Env)(x:Operand):Bool:=
 match opT E x with
 |some (.addr _ _)|some (.ro (.ptr _))=>io
 |_=>match tP E x with
  |some (_,_,.ptr _)=>io
  |some (_,_,.ro (.ptr _))=>io
  |_=>iq
theorem zR3{G:Gh}{a:Act}{w:World}(g9:Rep Γ E G a.tmps w){x:Operand}(h:zGd E x=io):∃ad,a.eval x=.pointer (ik ad):=by
 unfold zGd at h;split at h
 ·rename_i r q hx
  cases x with
  |tmp s=>
   obtain⟨h1,h2,_⟩:=g9.ent s _ hx;simp only[R]at h2;exact⟨_,by rw[wJ h1,xS rfl,h2]⟩
  |const v=>grind[opT]
  |func f=>grind[opT]
  |global g=>grind[opT]
 ·rename_i u hx
  have:=zNe g9 hx;simp only[RoC]at this
  grind
 ·split at h
  ·rename_i hl
   obtain⟨h1,h2⟩:=jH g9 hl rfl;simp only[R]at h1
   grind
  ·rename_i hl
   obtain⟨h1,h2⟩:=jH g9 hl rfl;simp only[R,RoC]at h1
   grind
  ·cases h
theorem zX1(x:Operand)(t:T)(ho:o.op=.nilCheck x)(gk:o.dst=ik d)(hd:d<Γ.N)(hx:opT E x=ik t)(hp:zGd E x=io)(ht:∀xs,t≠.tup xs)
  (gj:∀s,x=.tmp s→s≠d)(gC:T.okB [(d,0)] (tH x t)=io):wN P Γ o E (E.app [(d,ik (tH x t))] [(d,0)]):=by
 refine wN.value gk fun a w G g9=>?_
 obtain⟨f,hf,h1,h2⟩:=opd g9 hx ht;obtain⟨h3,h4⟩:=h1 d gj gC;obtain⟨ad,h5⟩:=zR3 g9 hp;refine⟨a.eval x,w,?_,_,vN g9 rfl hd f hf _ _ h3 h4 h2⟩;simp[execOp,ho,h5]
theorem zKU{G:Gh}{s:Nat}:(xs:List T)→ ∀(p:List Nat)(j i:Nat)(x:T),xs[i]? =ik x→(jP G s xs p j)[i]? =ik (sQ G s x ((j+i)::p))
 | [],_,_,_,_,h=>by simp at h
 |y::ys,p,j,i,x,h=>by
  cases i with
  |zero=>grind[jP]
  |succ i=>
   have:=zKU (G:=G) (s:=s) ys p (j+1) i x (by grind)
   grind[jP]
theorem zNg(s i:Nat)(ts:List T)(t:T)(ho:o.op=.extract (.tmp s) i)(gk:o.dst=ik d)(hd:d<Γ.N)(hs:E s=ik (.tup ts))(hi:ts[i]? =ik t)(ht:∀xs,t≠.tup xs)
  (gj:s≠d)(gC:T.okB [(d,0)] (cpT s t [i])=io):wN P Γ o E (E.app [(d,ik (cpT s t [i]))] [(d,0)]):=by
 refine wN.value gk fun a w G g9=>?_
 obtain⟨h1,h2,_⟩:=g9.ent s _ hs;simp only[R]at h2;have h3:=zAY ts [] 0 i t h2 hi;simp only[Jc]at h3;have h4:=zKU (G:=G) (s:=s) ts [] 0 i t hi;simp only[Jc]at h4;have hk:=G.put_keep (w:=w) (w':=w) rfl d (fun z=>G.hd s (z++[i]));have hz:∀z,(G.put d (fun z=>G.hd s (z++[i]))).hd d (z++[])=G.hd s (z++[i]):=by grind[Gh.put_self]
 refine⟨sQ G s t [i],w,?_,_,vN g9 rfl hd (fun z=>G.hd s (z++[i])) (fun z=>g9.mem.one _ _) _ _ (by grind[zA7])
  (zDR (fun p=>G.put_other _ p gj) t [i] [] hz ht (hk.keepR (by grind[zAo,qU])) h3) (qU s t [i])⟩
 simp[execOp,ho,wJ h1,mkV,Instr.extract,h4]
def zBG(E:Env)(x:Option Operand)(dflt n:Nat):Prop:=
 match x with
 |none=>n=dflt
 |some y=> ∃kd,opT E y=ik (.lit (.int kd n))
theorem zGQ{St:Stb}:(xs:List T)→ ∀(cs:Array Value)(o k l:Nat),RoL St xs cs o k→RoL St (xs.drop l) cs (o+l*k) k
 | [],_,_,_,_,_=>by simp[RoL]
 |x::xs,cs,o,k,l,h=>by
  cases l with
  |zero=>grind
  |succ l=>
   simp only[RoL]at h;have:=zGQ xs cs (o+k) k l h.2
   grind
theorem zGR{St:Stb}:(xs:List T)→ ∀(cs:Array Value)(o k l:Nat),RoL St xs cs o k→RoL St (xs.take l) cs o k
 | [],_,_,_,_,_=>by simp[RoL]
 |x::xs,cs,o,k,l,h=>by
  cases l with
  |zero=>simp[RoL]
  |succ l=>simp only[RoL,Lf]at h ⊢;exact⟨h.1,zGR xs cs _ k l h.2⟩
theorem zDf{P:Program}{G:Gh}{a:Act}{w:World}(g9:Rep Γ E G a.tmps w){x:Operand}{kd:IntKind}{n y:Nat}{c:BoundsCode}(hx:opT E x=ik (.lit (.int kd n)))(h:n≤y):
  (Instr.sliceBound (a.eval x) y c).run P w=.ok n w:=by
 rw[(wO g9 hx).1];have:(n:Int)≤(y:Int):=by omega
 simp[Instr.sliceBound,asIntOf,this]
theorem zGS{P:Program}{G:Gh}{a:Act}{w:World}(g9:Rep Γ E G a.tmps w){lo hi:Option Operand}{l h n c:Nat}(eA:zBG E lo 0 l)(fF:zBG E hi n h)(h1:l≤h)(h2:h≤c):
  (Instr.sliceBounds io n c (lo.map a.eval) (hi.map a.eval) im).run P w=.ok (l,h,c) w:=by
 cases lo with
 |none=>
  cases hi with
  |none=>simp only[zBG]at eA fF;subst eA;subst fF;rfl
  |some y=>simp only[zBG]at eA fF;obtain⟨kd,hy⟩:=fF;subst eA;simp[Instr.sliceBounds,zDf g9 hy h2]
 |some x=>
  obtain⟨kd,hx⟩:=eA;cases hi with
  |none=>simp only[zBG]at fF;subst fF;simp[Instr.sliceBounds,zDf g9 hx h1]
  |some y=>obtain⟨kd',hy⟩:=fF;simp[Instr.sliceBounds,zDf g9 hy h2,zDf g9 hx h1]
theorem zKV(x:Operand)(lo hi:Option Operand)(t e:TypeId)(ti:TypeInfo)(r:Nat)(q:List Nat)(k:Nat)(xs:List T)(l h:Nat)(ho:o.op=.slice t x lo hi im)(gk:o.dst=ik d)(hd:d<Γ.N)
  (ht:P.underlying t=ik (.slice e))(he:P.info? e=ik ti)(hk:ti.size=k)(hx:tP E x=ik (r,q,.ro (.sl k xs)))(eA:zBG E lo 0 l)(fF:zBG E hi xs.length h)(h1:l≤h)(h2:h≤xs.length):
  wN P Γ o E (E.app [(d,ik (.ro (.sl k ((xs.drop l).take (h-l)))))] [(d,0)]):=by
 refine wN.value gk fun a w G g9=>?_
 obtain⟨g1,g2⟩:=jH g9 hx rfl;obtain⟨a',c,g4,g5,g6,g7⟩:=zDe g1;have g8:=zGS (P:=P) g9 eA fF h1 (Hc h2 g5);have gf:((xs.drop l).take (h-l)).length=h-l:=by simp;omega
 refine⟨.slice (if c=l then a' else a'.map (·.add (l*k))) (h-l) (c-l),w,?_,_,vN g9 rfl hd (fun _=>.slice (if c=l then a' else a'.map (·.add (l*k))) (h-l) (c-l)) (fun _=>rfl) _ _ (by simp[mkV,Gh.put]) ?_ (by simp[Top])⟩
 ·simp only[execOp,ho,Jb0]
  simp[Instr.sliceAt,Instr.slice,run_underlying ht,g2,g4,g8,sizeOf,typeInfo,he,hk]
 ·simp only[R,Gh.put_self,RoC]
  refine⟨_,_,by rw[gf];rfl,by omega,by omega,?_⟩;intro gj;have eE:xs≠[]:=by grind
  obtain⟨b,o',cs',e',fr,rfl,h3,h4⟩:=g7 eE;have gE:c≠l:=by grind
  grind[uR,zGR,zGQ]
theorem zJG(x:Operand)(lo hi:Option Operand)(t e:TypeId)(ti:TypeInfo)(r:Nat)(q:List Nat)(k:Nat)(xs:List T)(l h:Nat)(ho:o.op=.slice t x lo hi im)(gk:o.dst=ik d)(hd:d<Γ.N)
  (ht:P.underlying t=ik (.slice e))(he:P.info? e=ik ti)(hk:ti.size=k)(hx:tP E x=ik (r,q,.sl k xs))(eA:zBG E lo 0 l)(fF:zBG E hi xs.length h)(h1:l≤h)(h2:h≤xs.length)(gw:r≠d):
  wN P Γ o E (E.app [(d,ik (.sub r q k l h))] [(d,0)]):=by
 refine wN.value gk fun a w G g9=>?_
 obtain⟨g1,g2⟩:=jH g9 hx rfl;obtain⟨a',c,g4⟩:=zJF g1;have g5:xs.length≤c:=by
  simp only[R]at g1
  grind
 have g8:=zGS (P:=P) g9 eA fF h1 (Hc h2 g5);refine⟨zBi (G.hd r q) k l h,w,?_,_,vN g9 rfl hd (fun _=>zBi (G.hd r q) k l h) (fun _=>by rw[g4];rfl) _ _ (by simp[mkV,Gh.put]) ?_ (by simp[Top])⟩
 ·simp only[execOp,ho,Jb0]
  simp[Instr.sliceAt,Instr.slice,run_underlying ht,g2,g4,g8,sizeOf,typeInfo,he,hk,zBi]
 ·simp only[R,Gh.put_self]
  grind[Gh.put_other]
end
end Go.Ab

namespace Go.Ab
open Go
def T.inT:T→List Nat→Bool
 |_,[]=>io
 |.agg xs,i::f=>match xs[i]? with
  |some x=>x.inT f
  |none=>iq
 |.any,_::_|.lit _,_::_|.ro _,_::_|.same _ _,_::_|.addr _ _,_::_|.sub _ _ _ _ _,_::_|.sl _ _,_::_|.ptr _,_::_|.tup _,_::_=>iq
termination_by structural _ f=>f
def T.offT:T→List Nat→Nat
 |_,[]=>0
 |.agg xs,i::f=>match xs[i]? with
  |some x=>T.sizes (xs.take i)+x.offT f
  |none=>0
 |.any,_::_|.lit _,_::_|.ro _,_::_|.same _ _,_::_|.addr _ _,_::_|.sub _ _ _ _ _,_::_|.sl _ _,_::_|.ptr _,_::_|.tup _,_::_=>0
termination_by structural _ f=>f
theorem zGT{t:T}(h:t.single=io){f:List Nat}(hf:f≠[]):t.inT f=iq:=by
 cases f with
 |nil=>grind
 |cons i f=>cases t<;>simp[T.single]at h<;>rfl
mutual
def zR4:T→List Nat→Nat→Option (List Nat)
 |.agg xs,p,o=>zCu xs p 0 o
 |.any,p,o|.lit _,p,o|.ro _,p,o|.same _ _,p,o|.addr _ _,p,o|.sub _ _ _ _ _,p,o|.sl _ _,p,o|.ptr _,p,o|.tup _,p,o=>if o=0 then ik p else im
def zCu:List T→List Nat→Nat→Nat→Option (List Nat)
 | [],_,_,_=>im
 |x::xs,p,j,o=>if o<x.size then zR4 x (j::p) o else zCu xs p (j+1) (o-x.size)
end
mutual
def T.okTup:T→Bool
 |.tup _=>iq
 |.agg xs=>yT xs
 |.any|.lit _|.ro _|.same _ _|.addr _ _|.sub _ _ _ _ _|.sl _ _|.ptr _=>io
def yT:List T→Bool
 | []=>io
 |x::xs=>x.okTup&&yT xs
end
theorem zDU:(xs:List T)→ ∀(p:List Nat)(j o:Nat),T.sizes xs≤o→zCu xs p j o=im
 | [],_,_,_,_=>by rfl
 |x::xs,p,j,o,h=>by simp only[T.sizes]at h;simp only[zCu];rw[if_neg (by omega)];exact zDU xs p (j+1) _ (by omega)
section
variable {G:Gh}{w:World}{d:Nat}
mutual
theorem zX2:(x:T)→ ∀(p:List Nat)(B o:Nat),(∀xs,x≠.tup xs)→x.okTup=io→
  (∀f,x.inT f=io→G.ad d (f.reverse++p)=⟨B,o+x.offT f,im⟩)→(∀j p',j<x.size→zR4 x p j=ik p'→G.lb B (o+j)=ik (iq,d,p'))→
  (∀j v,(vals G d x p)[j]? =ik v→yR w B (o+j)=ik v)→Loc G w d x p B o
 |.agg xs,p,B,o,_,hn,ha,hl,hc=>by
  simp only[Loc];refine⟨by simpa[T.offT]using ha [] rfl,zG5 xs p 0 B o (by grind[T.okTup]) (fun i x hx f hf=>?_) (fun j p' hj hp=>?_) (by grind[vals])⟩
  ·have:=ha (i::f) (by grind[T.inT])
   grind[T.offT]
  grind[T.size,zR4]
 |.any,p,B,o,_,_,ha,hl,hc|.lit _,p,B,o,_,_,ha,hl,hc|.ro _,p,B,o,_,_,ha,hl,hc|.same _ _,p,B,o,_,_,ha,hl,hc|.addr _ _,p,B,o,_,_,ha,hl,hc|.sub _ _ _ _ _,p,B,o,_,_,ha,hl,hc|.sl _ _,p,B,o,_,_,ha,hl,hc|.ptr _,p,B,o,_,_,ha,hl,hc=>by simp only[Loc];exact⟨by simpa[T.offT]using ha [] rfl,by simpa using hl 0 p (by simp[T.size]) (by rfl),by simpa using hc 0 (G.hd d p) (by simp[vals])⟩
 |.tup xs,_,_,_,h,_,_,_,_=>absurd rfl (h xs)
theorem zG5:(xs:List T)→ ∀(p:List Nat)(j B o:Nat),yT xs=io→
  (∀i x,xs[i]? =ik x→ ∀f,x.inT f=io→G.ad d (f.reverse++((j+i)::p))=⟨B,o+(T.sizes (xs.take i)+x.offT f),im⟩)→
  (∀i p',i<T.sizes xs→zCu xs p j i=ik p'→G.lb B (o+i)=ik (iq,d,p'))→
  (∀i v,(yH G d xs p j)[i]? =ik v→yR w B (o+i)=ik v)→vK G w d xs p j B o
 | [],_,_,_,_,_,_,_,_=>by simp only[vK]
 |x::xs,p,j,B,o,hn,ha,hl,hc=>by
  simp only[yT,J3]at hn;have ef:∀ys,x≠.tup ys:=by rintro ys rfl;grind[T.okTup]
  simp only[vK];refine⟨zX2 x (j::p) B o ef hn.1 (fun f hf=>by simpa[T.sizes]using ha 0 x (by simp) f hf) (fun i p' hi hp=>hl i p' (by grind[T.sizes]) (by simp only[zCu,hi,if_true];exact hp)) (fun i v hv=>hc i v ?_),
   zG5 xs p (j+1) B (o+x.size) hn.2 (fun i y hy f hf=>?_) (fun i p' hi hp=>?_) (fun i v hv=>?_)⟩
  ·grind[yH]
  ·have:=ha (i+1) y (by grind) f hf
   grind[T.sizes]
  ·have:=hl (x.size+i) p' (by grind[T.sizes]) (by simp only[zCu];grind)
   grind
  ·have:=hc (x.size+i) v (by
    grind[yH,vH])
   grind
end
end
structure MvC (G:Gh) (w:World) (G':Gh) (w':World) (s:Nat) (p:List Nat) (s':Nat) (p':List Nat) (t:T):Prop where
 hd:∀z,G'.hd s' (z++p')=G.hd s (z++p)
 ad:∀z,t.inT z.reverse=iq→G'.ad s' (z++p')=G.ad s (z++p)
 lb:∀b o f z,(f=io∨t.inT z.reverse=iq)→G.lb b o=ik (f,s,z++p)→G'.lb b o=ik (f,s',z++p')∧yR w' b o=yR w b o
 ow:∀b z,G.ow b=ik (s,z++p)→G'.ow b=ik (s',z++p')
 blk:Blk w w'
section
variable {St:Stb}{G:Gh}{w:World}{G':Gh}{w':World}{s:Nat}{s':Nat}
theorem MvC.moves{p p':List Nat}{t:T}(h:MvC G w G' w' s p s' p' t)(ht:t.single=io):zII G w G' w' s p s' p' where
 hd:=h.hd
 ad z hz:=h.ad z (zGT ht (by simp_all))
 lb b o f z hz _ hl:=h.lb b o f z (.inr (zGT ht (by simp_all))) hl
 ow b z _ hl:=h.ow b z hl
 blk:=h.blk
 sp b o _ hl:=by simpa using h.lb b o io [] (.inl rfl) (by grind)
 ow0 b hl:=by simpa using h.ow b [] (by grind)
theorem MvC.field{p p':List Nat}{xs:List T}(h:MvC G w G' w' s p s' p' (.agg xs)){j:Nat}{x:T}(hx:xs[j]? =ik x):MvC G w G' w' s (j::p) s' (j::p') x where
 hd z:=by have:=h.hd (z++[j]);grind
 ad z hz:=by
  have:=h.ad (z++[j]) (by grind[T.inT])
  grind
 lb b o f z hf hl:=by
  have:=h.lb b o f (z++[j]) (by grind[T.inT]) (by grind)
  grind
 ow b z hl:=by
  have:=h.ow b (z++[j]) (by grind)
  grind
 blk:=h.blk
mutual
theorem zKW:(t:T)→ ∀(p p':List Nat),t.okTup=io→MvC G w G' w' s p s' p' t→xD (zAi G G') t→R St G w s t p→R St G' w' s' t p'
 |.agg xs,p,p',hn,h,hk,hr=>by
  simp only[R,xD,T.okTup]at hr hk hn ⊢
  exact zR5 xs p p' 0 hn (fun j x hx=>by rw[Jc];exact h.field hx) hk hr
 |.any,p,p',_,h,hk,hr|.lit _,p,p',_,h,hk,hr|.ro _,p,p',_,h,hk,hr|.same _ _,p,p',_,h,hk,hr|.addr _ _,p,p',_,h,hk,hr|.sub _ _ _ _ _,p,p',_,h,hk,hr|.sl _ _,p,p',_,h,hk,hr|.ptr _,p,p',_,h,hk,hr=>
  zAn (h.moves rfl) _ hk hr
 |.tup _,_,_,hn,_,_,_=>by grind[T.okTup]
theorem zR5:(xs:List T)→ ∀(p p':List Nat)(j:Nat),yT xs=io→(∀i x,xs[i]? =ik x→MvC G w G' w' s ((j+i)::p) s' ((j+i)::p') x)→xZ (zAi G G') xs→RF St G w s xs p j→RF St G' w' s' xs p' j
 | [],_,_,_,_,_,_,_=>by simp only[RF]
 |x::xs,p,p',j,hn,h,hk,hr=>by
  simp only[RF,xZ,yT,J3]at hr hk hn ⊢
  exact⟨zKW x (j::p) (j::p') hn.1 (by simpa using h 0 x (by simp)) hk.1 hr.1,zR5 xs p p' (j+1) hn.2 (fun i y hy=>by
   have:=h (i+1) y (by grind)
   grind) hk.2 hr.2⟩
end
end
theorem zO1{St:Stb}{G:Gh}{w:World}{s:Nat}:(xs:List T)→ ∀(p:List Nat)(j:Nat),(∀i x,xs[i]? =ik x→R St G w s x ((j+i)::p))→RF St G w s xs p j
 | [],_,_,_=>by simp only[RF]
 |x::xs,p,j,h=>by
  simp only[RF];exact⟨by simpa using h 0 x (by simp),zO1 xs p (j+1) (fun i y hy=>by
   have:=h (i+1) y (by grind)
   grind)⟩
theorem zR6{St:Stb}{G:Gh}{w:World}{s:Nat}{k:Nat}:(xs:List T)→ ∀(p:List Nat)(j b o:Nat),(∀x∈xs,x.size=k)→vK G w s xs p j b o→RF St G w s xs p j→RL St G w s xs p j b o k
 | [],_,_,_,_,_,_,_=>by simp only[RL]
 |x::xs,p,j,b,o,hk,hl,hr=>by
  simp only[RL,vK,RF]at hl hr ⊢
  have h1:=hk x (by simp);exact⟨⟨hl.1,h1⟩,hr.1,zR6 xs p (j+1) b (o+k) (by grind) (by grind) hr.2⟩
theorem wV{k:Nat}:(xs:List T)→(∀x∈xs,x.size=k)→T.sizes xs=xs.length*k
 | [],_=>by simp[T.sizes]
 |x::xs,h=>by simp[T.sizes,wV xs (fun y hy=>h y (by simp[hy])),h x (by simp),K1];omega
def Gh.nb(G:Gh)(d B:Nat)(xs:List T)(src:Nat→Option (Nat×List Nat))(φ:Nat→List Nat→Option (List Nat))(f:Nat→List Nat→Value)(hH:Value):Gh where
 hd s z:=if s=d then(match z.getLast? with
  |some i=>f i z.dropLast
  |none=>hH)else G.hd s z
 ad s z:=if s=d then(if(T.agg xs).inT z.reverse then⟨B,(T.agg xs).offT z.reverse,im⟩else match z.getLast? with
  |some i=>(match src i with
   |some (x,q)=>G.ad x (z.dropLast++q)
   |none=>default)
  |none=>default)else G.ad s z
 lb b o:=if b=B then ik (match zCu xs [] 0 o with
  |some p=>(iq,d,p)
  |none=>(io,d,[]))else match G.lb b o with
  |some (fl,s,z)=>(match φ s z with
   |some z'=>ik (fl,d,z')
   |none=>ik (fl,s,z))
  |none=>im
 ow b:=if b=B then ik (d,[])else match G.ow b with
  |some (s,z)=>(match φ s z with
   |some z'=>ik (d,z')
   |none=>ik (s,z))
  |none=>im
theorem zDg{Γ:Ctx}{G:Gh}{w w':World}(hm:Mem Γ G w){cells:Array Value}{e:TypeId}(hw:w'.heap=w.heap.push (.cells cells e))(d:Nat)(xs:List T)
  (src:Nat→Option (Nat×List Nat))(φ:Nat→List Nat→Option (List Nat))(f:Nat→List Nat→Value)(hH:Value)(chg:Chg)
  (gC:yT xs=io)(hf:∀(i:Nat)(z:List Nat),(f i z).oneCell'=io)(hh:hH.oneCell'=io)
  (hφ:∀(i:Nat) u x q(z:List Nat),xs[i]? =ik u→src i=ik (x,q)→φ x (z++q)=ik (z++[i]))
  (dA:∀(i:Nat) u x q,xs[i]? =ik u→src i=ik (x,q)→(∀z,f i z=G.hd x (z++q))∧R Γ.St G w x u q∧yD u∧x≠d)
  (am:∀(i:Nat) u,xs[i]? =ik u→src i=im→ ∀(G2:Gh)(w2:World),(∀z,G2.hd d (z++[i])=f i z)→R Γ.St G2 w2 d u [i])
  (cu:∀(G2:Gh),(∀i z,G2.hd d (z++[i])=f i z)→ ∀(o:Nat)(v:Value),(yH G2 d xs [] 0)[o]? =ik v→cells[o]? =ik v)
  (aO:∀s p,(∀n,(s,n)∉(d,0)::chg)→φ s p=im)(ho:w'.os=w.os:=by rfl)(hq:w'.output=w.output:=by rfl):
  qY ((d,0)::chg) G w (G.nb d w.heap.size xs src φ f hH) w'∧Mem Γ (G.nb d w.heap.size xs src φ f hH) w'∧
  vK (G.nb d w.heap.size xs src φ f hH) w' d xs [] 0 w.heap.size 0∧RF Γ.St (G.nb d w.heap.size xs src φ f hH) w' d xs [] 0∧
  w'.heap[w.heap.size]? =ik (.cells cells e):=by
 have eL:w'.heap[w.heap.size]? =ik (.cells cells e):=by grind
 have gI:∀b,b<w.heap.size→w'.heap[b]? =w.heap[b]?:=fun b hb=>by rw[hw,Array.getElem?_push];grind
 have gy:w'.heap.size=w.heap.size+1:=by grind
 have fb:∀b o,b<w.heap.size→yR w' b o=yR w b o:=fun b o hb=>by simp[yR,World.cell?,gI b hb]
 have gK:Blk w w':=fun b cs e' h=>⟨cs,by rw[gI b (by grind)];exact h,rfl⟩
 have gA:=hm.one
 generalize gn:G.nb d w.heap.size xs src φ f hH=G'
 have ghd:∀i z,G'.hd d (z++[i])=f i z:=fun i z=>by rw[←gn];simp[Gh.nb]
 have gad:∀g,(T.agg xs).inT g=io→G'.ad d g.reverse=⟨w.heap.size,(T.agg xs).offT g,im⟩:=fun g hg=>by rw[←gn];simp[Gh.nb,hg]
 have gadm:∀i x q z,src i=ik (x,q)→(T.agg xs).inT (i::z.reverse)=iq→G'.ad d (z++[i])=G.ad x (z++q):=fun i x q z hs gT=>by rw[←gn];simp[Gh.nb,gT,hs]
 have glb:∀o p,zCu xs [] 0 o=ik p→G'.lb w.heap.size o=ik (iq,d,p):=fun o p h=>by rw[←gn];simp[Gh.nb,h]
 have glbm:∀b o fl x z z',G.lb b o=ik (fl,x,z)→φ x z=ik z'→G'.lb b o=ik (fl,d,z'):=fun b o fl x z z' h1 h2=>by have:=(hm.lb b o _ h1).1;rw[←gn];simp[Gh.nb,h1,h2,show b≠w.heap.size from by omega]
 have gowm:∀b x z z',G.ow b=ik (x,z)→φ x z=ik z'→G'.ow b=ik (d,z'):=fun b x z z' h1 h2=>by have:=(hm.ow b _ h1).1;rw[←gn];simp[Gh.nb,h1,h2,show b≠w.heap.size from by omega]
 have gj:∀s p,Off ((d,0)::chg) s p→s≠d:=fun s p h e=>absurd (h 0 (by simp[e])) (by simp)
 have gx:qY ((d,0)::chg) G w G' w':=by
  refine⟨fun s p h=>?_,fun s p h=>?_,fun b o fl s p _ hl h=>⟨?_,fb b o (hm.lb b o _ hl).1⟩,fun b s p hl h=>?_,gK⟩
  ·rw[←gn];simp[Gh.nb,gj s p h]
  ·rw[←gn];simp[Gh.nb,gj s p h]
  ·have:=(hm.lb b o _ hl).1
   rw[←gn];simp[Gh.nb,hl,aO s p h,show b≠w.heap.size from by omega]
  ·have:=(hm.ow b _ hl).1
   rw[←gn];simp[Gh.nb,hl,aO s p h,show b≠w.heap.size from by omega]
 refine⟨gx,?_,?_,?_,eL⟩
 ·
  have hB:zCr Γ w' w.heap.size:=⟨by omega,.inl hm.sz,by
   cases gB:Γ.St w.heap.size with
   |none=>rfl
   |some x=>have:=hm.st _ x gB;simp at this⟩
  have fM:∀b,zCr Γ w b→zCr Γ w' b:=fun b h=>⟨by have:=h.1;omega,h.2⟩
  refine⟨fun s p=>?_,fun b o l hl=>?_,fun b l hl=>?_,fun b x hx=>?_,fun b h1 h2=>?_,by have:=hm.sz;omega,hm.bk.trans gK ho hq⟩
  ·rw[←gn]
   simp only[Gh.nb];split
   ·split
    ·exact hf _ _
    ·exact hh
   ·exact gA s p
  ·rw[←gn]at hl
   simp only[Gh.nb]at hl;split at hl
   ·grind
   ·split at hl
    ·rename_i hg;exact fM b (hm.lb b o _ hg)
    ·cases hl
  ·rw[←gn]at hl
   simp only[Gh.nb]at hl;split at hl
   ·grind
   ·split at hl
    ·rename_i hg;exact fM b (hm.ow b _ hg)
    ·cases hl
  ·have:=hm.st b x hx
   rw[gI b (Kz.1 this).1];exact this
  ·rw[gI b (Jb1 h1 hm.sz)]
   exact hm.fr b h1 h2
 ·
  refine zG5 xs [] 0 w.heap.size 0 gC (fun i x hx g hg=>?_) (fun i p' _ hp=>by simpa using glb i p' hp) (fun i v hv=>?_)
  ·have:=gad (i::g) (by simp only[T.inT,hx];exact hg)
   simpa[T.offT,hx]using this
  ·have:=cu G' ghd i v hv
   rw[Jc];simp[yR,World.cell?,eL,this]
 ·
  refine zO1 xs [] 0 (fun i u hu=>?_);rw[Jc];cases hs:src i with
  |none=>exact am i u hu hs G' w' (fun z=>ghd i z)
  |some xq=>
   obtain⟨x,q⟩:=xq;obtain⟨h1,h2,h3,h4⟩:=dA i u x q hu hs;have gT:∀g,(T.agg xs).inT (i::g)=u.inT g:=fun g=>by simp only[T.inT,hu]
   refine zKW u q [i] (okTups_get xs gC i u hu) ⟨fun z=>by rw[ghd,h1],fun z hz=>gadm i x q z hs (by rw[gT];exact hz),fun b o fl z hz hl=>⟨glbm b o fl x _ _ hl (hφ i u x q z hu hs),fb b o (hm.lb b o _ hl).1⟩,
    fun b z hl=>gowm b x _ _ hl (hφ i u x q z hu hs),gK⟩ (xD.mono (by simp) u h3) h2
where okTups_get:(xs:List T)→yT xs=io→ ∀(i:Nat)(x:T),xs[i]? =ik x→x.okTup=io
 | [],_,_,_,h=>by simp at h
 |y::ys,hk,i,x,h=>by
  simp only[yT,J3]at hk;cases i with
  |zero=>grind
  |succ i=>exact okTups_get ys hk.2 i x (by grind)
end Go.Ab

namespace Go.Ab
open Go
inductive yU where
 |slot (s:Nat) (t:T)
 |zero (u:T)
def yU.tree:yU→T
 |.slot _ t=>t
 |.zero u=>u
def sS:T→Bool
 |.lit _|.ro _=>iq
 |_=>io
mutual
def T.zOk:T→Bool
 |.lit v=>v.oneCell'
 |.sl _ xs=>xs.isEmpty
 |.agg xs=>zAq xs
 |.any|.ro _|.same _ _|.addr _ _|.sub _ _ _ _ _|.ptr _|.tup _=>iq
def zAq:List T→Bool
 | []=>io
 |x::xs=>x.zOk&&zAq xs
end
def zhd:T→List Nat→Value
 |.agg xs,i::f=>match xs[i]? with
  |some x=>zhd x f
  |none=>.bool iq
 |.lit v,_=>v
 |.sl _ _,_=>.slice im 0 0
 |.agg _,[] |.any,_|.ro _,_|.same _ _,_|.addr _ _,_|.sub _ _ _ _ _,_|.ptr _,_|.tup _,_=>.bool iq
termination_by structural _ f=>f
mutual
def sA:T→List Value
 |.lit v=>[v]
 |.sl _ _=>[.slice im 0 0]
 |.agg xs=>qJ xs
 |.any|.ro _|.same _ _|.addr _ _|.sub _ _ _ _ _|.ptr _|.tup _=>[]
def qJ:List T→List Value
 | []=>[]
 |x::xs=>sA x++qJ xs
end
section
variable {St:Stb}{G:Gh}{w:World}{d:Nat}
mutual
theorem zJH:(u:T)→ ∀(p:List Nat),u.zOk=io→(∀z,G.hd d (z++p)=jX (zhd u z.reverse))→R St G w d u p
 |.lit v,p,h,hd=>by
  simp only[T.zOk,R]at h ⊢
  have:=hd [];rw[Jx]at this;rw[this];exact zAp h
 |.sl k xs,p,h,hd=>by simp only[T.zOk,Jbg]at h;subst h;have:=hd [];rw[Jx]at this;simp only[R];exact .inl ⟨trivial,im,by rw[this];rfl⟩
 |.agg xs,p,h,hd=>by
  simp only[T.zOk,R]at h ⊢
  exact zO2 xs p 0 h (fun i x hx z=>by
   rw[Jc];have:=hd (z++[i])
   grind[zhd])
 |.any,_,h,_|.ro _,_,h,_|.same _ _,_,h,_|.addr _ _,_,h,_|.sub _ _ _ _ _,_,h,_|.ptr _,_,h,_|.tup _,_,h,_=>by grind[T.zOk]
theorem zO2:(xs:List T)→ ∀(p:List Nat)(j:Nat),zAq xs=io→(∀i x,xs[i]? =ik x→ ∀z,G.hd d (z++((j+i)::p))=jX (zhd x z.reverse))→RF St G w d xs p j
 | [],_,_,_,_=>by simp only[RF]
 |x::xs,p,j,h,hd=>by
  simp only[zAq,J3,RF]at h ⊢
  exact⟨zJH x (j::p) h.1 (by simpa using hd 0 x (by simp)),zO2 xs p (j+1) h.2 (fun i y hy z=>by
   have:=hd (i+1) y (by grind) z
   grind)⟩
end
end
section
variable {G:Gh}{d:Nat}
mutual
theorem zFw:(u:T)→ ∀(p:List Nat),u.zOk=io→(∀z,G.hd d (z++p)=jX (zhd u z.reverse))→vals G d u p=sA u
 |.lit v,p,h,hd=>by
  simp only[T.zOk,vals,sA]at h ⊢
  have:=hd []
  grind[zhd,zAp]
 |.sl k xs,p,h,hd=>by
  have:=hd []
  grind[vals,sA,zhd,jX,Value.oneCell']
 |.agg xs,p,h,hd=>by
  simp only[T.zOk,vals,sA]at h ⊢
  exact zDV xs p 0 h (fun i x hx z=>by
   rw[Jc];have:=hd (z++[i])
   grind[zhd])
 |.any,_,h,_|.ro _,_,h,_|.same _ _,_,h,_|.addr _ _,_,h,_|.sub _ _ _ _ _,_,h,_|.ptr _,_,h,_|.tup _,_,h,_=>by grind[T.zOk]
theorem zDV:(xs:List T)→ ∀(p:List Nat)(j:Nat),zAq xs=io→(∀i x,xs[i]? =ik x→ ∀z,G.hd d (z++((j+i)::p))=jX (zhd x z.reverse))→yH G d xs p j=qJ xs
 | [],_,_,_,_=>by rfl
 |x::xs,p,j,h,hd=>by
  simp only[zAq,J3,yH,qJ]at h ⊢
  rw[zFw x (j::p) h.1 (by simpa using hd 0 x (by simp)),zDV xs p (j+1) h.2 (fun i y hy z=>by
   have:=hd (i+1) y (by grind) z
   grind)]
end
end
mutual
theorem zBm:(u:T)→u.zOk=io→yD u∧u.okTup=io
 |.lit _,_=>by simp[yD,xD,T.okTup]
 |.sl _ xs,h=>by simp only[T.zOk,Jbg]at h;subst h;simp[yD,xD,xZ,T.okTup]
 |.agg xs,h=>by simp only[T.zOk]at h;simpa only[yD,xD,T.okTup]using zBH xs h
 |.any,h|.ro _,h|.same _ _,h|.addr _ _,h|.sub _ _ _ _ _,h|.ptr _,h|.tup _,h=>by grind[T.zOk]
theorem zBH:(xs:List T)→zAq xs=io→xU xs∧yT xs=io
 | [],_=>by simp[xU,xZ,yT]
 |x::xs,h=>by simp only[zAq,J3]at h;simp only[xU,xZ,yT,J3];exact⟨⟨(zBm x h.1).1,(zBH xs h.2).1⟩,(zBm x h.1).2,(zBH xs h.2).2⟩
end
mutual
theorem vE:(u:T)→u.zOk=io→(sA u).length=u.size
 |.lit _,_|.sl _ _,_=>by rfl
 |.agg xs,h=>by simp only[T.zOk]at h;simp only[sA,T.size];exact zBa xs h
 |.any,h|.ro _,h|.same _ _,h|.addr _ _,h|.sub _ _ _ _ _,h|.ptr _,h|.tup _,h=>by grind[T.zOk]
theorem zBa:(xs:List T)→zAq xs=io→(qJ xs).length=T.sizes xs
 | [],_=>by rfl
 |x::xs,h=>by simp only[zAq,J3]at h;simp only[qJ,J5,T.sizes,vE x h.1,zBa xs h.2]
end
def zGU(ps:List yU)(i:Nat):Option (Nat×List Nat):=
 match ps[i]? with
 |some (.slot s t)=>if sS t then ik (s,[])else im
 |_=>im
def zIz:List yU→Nat→Nat→Option Nat
 | [],_,_=>im
 |.slot x t::r,i,s=>if sS t&&x==s then ik i else zIz r (i+1) s
 |.zero _::r,i,s=>zIz r (i+1) s
def zI0(ps:List yU)(s:Nat)(z:List Nat):Option (List Nat):=
 match zIz ps 0 s with
 |some i=>ik (z++[i])
 |none=>im
def pWr(d:Nat):List yU→Nat→Wr
 | [],_=>[]
 |.slot s t::r,i=>if sS t then(s,ik (cpT d t [i]))::pWr d r (i+1)else pWr d r (i+1)
 |.zero _::r,i=>pWr d r (i+1)
def xV:List yU→List Nat
 | []=>[]
 |.slot s t::r=>if sS t then s::xV r else xV r
 |.zero _::r=>xV r
def sT(ps:List yU):Chg:=(xV ps).map fun s=>(s,1)
def qP(G:Gh):yU→List Value
 |.slot s t=>vals G s t []
 |.zero u=>sA u
def pHd(G:Gh)(ps:List yU)(i:Nat)(z:List Nat):Value:=
 match ps[i]? with
 |some (.slot s _)=>G.hd s z
 |some (.zero u)=>jX (zhd u z.reverse)
 |none=>.bool iq
structure tT (E:Env) (d:Nat) (ps:List yU):Prop where
 slot:∀s t,yU.slot s t∈ps→E s=ik t∧yD t∧t.okTup=io
 zero:∀u,yU.zero u∈ps→u.zOk=io
 dist:(d::xV ps).Nodup
theorem zBn:(ps:List yU)→ ∀(i0 i s:Nat)(t:T),ps[i]? =ik (.slot s t)→sS t=io→(xV ps).Nodup→zIz ps i0 s=ik (i0+i)
 | [],_,_,_,_,h,_,_=>by simp at h
 |.slot x u::r,i0,i,s,t,h,hm,hn=>by
  cases i with
  |zero=>simp at h;obtain⟨rfl,rfl⟩:=h;simp[zIz,hm]
  |succ i=>
   simp only[Un]at h;have gT:s∈xV r:=pSlots_mem r i s t h hm;simp only[zIz]
   by_cases hu:sS u=io
   ·simp only[xV,hu,if_true,L9]at hn
    have:x≠s:=by grind
    simp only[hu,Bool.true_and,beq_iff_eq,this,if_false];rw[zBn r (i0+1) i s t h hm hn.2]
    grind
   ·simp only[xV,hu]at hn
    simp only[hu,Jbr,Hu,if_false];rw[zBn r (i0+1) i s t h hm (by grind)]
    grind
 |.zero u::r,i0,i,s,t,h,hm,hn=>by
  cases i with
  |zero=>simp at h
  |succ i=>
   simp only[Un]at h;simp only[zIz];rw[zBn r (i0+1) i s t h hm (by grind[xV])]
   grind
where pSlots_mem:(ps:List yU)→ ∀(i s:Nat)(t:T),ps[i]? =ik (.slot s t)→sS t=io→s∈xV ps
 | [],_,_,_,h,_=>by simp at h
 |.slot x u::r,i,s,t,h,hm=>by
  cases i with
  |zero=>simp at h;obtain⟨rfl,rfl⟩:=h;simp[xV,hm]
  |succ i=>
   have:=pSlots_mem r i s t (by grind) hm
   grind[xV]
 |.zero u::r,i,s,t,h,hm=>by
  cases i with
  |zero=>simp at h
  |succ i=>simpa only[xV]using pSlots_mem r i s t (by grind) hm
theorem zDh:(ps:List yU)→ ∀(i0 s:Nat),s∉xV ps→zIz ps i0 s=im
 | [],_,_,_=>by rfl
 |.slot x u::r,i0,s,h=>by
  simp only[zIz]
  by_cases hu:sS u=io
  ·simp only[xV,hu,if_true,J8,not_or]at h
   simp only[hu,Bool.true_and,beq_iff_eq,Ne.symm h.1,if_false];exact zDh r _ s h.2
  ·simp only[xV,hu]at h
   simp only[hu,Jbr,Hu,if_false];exact zDh r _ s (by grind)
 |.zero u::r,i0,s,h=>by simp only[zIz];exact zDh r _ s (by grind[xV])
theorem zCv:(ps:List yU)→ ∀(d i0 s:Nat)(x:Option T),(pWr d ps i0).find s=ik x→ ∃i t,ps[i]? =ik (.slot s t)∧sS t=io∧x=ik (cpT d t [i0+i])
 | [],_,_,_,_,h=>by grind[pWr,Wr.find]
 |.slot y u::r,d,i0,s,x,h=>by
  simp only[pWr]at h;split at h
  ·rename_i hu
   simp only[Wr.find]at h;split at h
   ·rename_i he;subst he;simp at h;exact⟨0,u,by simp,hu,by grind⟩
   ·obtain⟨i,t,h1,h2,h3⟩:=zCv r d (i0+1) s x h
    exact⟨i+1,t,by grind,h2,by grind⟩
  ·obtain⟨i,t,h1,h2,h3⟩:=zCv r d (i0+1) s x h
   exact⟨i+1,t,by grind,h2,by grind⟩
 |.zero u::r,d,i0,s,x,h=>by simp only[pWr]at h;obtain⟨i,t,h1,h2,h3⟩:=zCv r d (i0+1) s x h;exact⟨i+1,t,by grind,h2,by grind⟩
theorem zCw:(ps:List yU)→ ∀(d i0 s:Nat),(pWr d ps i0).find s=im→s∉xV ps
 | [],_,_,_,_=>by simp[xV]
 |.slot y u::r,d,i0,s,h=>by
  simp only[pWr]at h;simp only[xV];split at h
  ·rename_i hu
   simp only[Wr.find]at h;split at h
   ·cases h
   ·rename_i gj
    simp only[hu,if_true,J8,not_or];exact⟨fun e=>gj e.symm,zCw r d _ s h⟩
  ·rename_i hu
   simp only[hu];simpa using zCw r d _ s h
 |.zero u::r,d,i0,s,h=>by simp only[pWr]at h;simpa only[xV]using zCw r d _ s h
section
variable {Γ:Ctx}{E:Env}{G:Gh}{tmps:Array Value}{w:World}{d:Nat}{ps:List yU}
theorem zGe(g9:Rep Γ E G tmps w)(h:tT E d ps):
  yT (ps.map yU.tree)=io∧xU (ps.map yU.tree)∧(∀i z,(pHd G ps i z).oneCell'=io)∧
  (∀(i:Nat) u x q(z:List Nat),(ps.map yU.tree)[i]? =ik u→zGU ps i=ik (x,q)→zI0 ps x (z++q)=ik (z++[i]))∧
  (∀(i:Nat) u x q,(ps.map yU.tree)[i]? =ik u→zGU ps i=ik (x,q)→(∀z,pHd G ps i z=G.hd x (z++q))∧R Γ.St G w x u q∧yD u∧x≠d)∧
  (∀(i:Nat) u,(ps.map yU.tree)[i]? =ik u→zGU ps i=im→ ∀(G2:Gh)(w2:World),(∀z,G2.hd d (z++[i])=pHd G ps i z)→R Γ.St G2 w2 d u [i])∧
  (∀s p,(∀n,(s,n)∉(d,0)::sT ps)→zI0 ps s p=im):=by
 have ms:=L9.1 h.dist;refine⟨?_,?_,?_,?_,?_,?_,?_⟩
 ·have:∀qs:List yU,(∀p∈qs,p∈ps)→yT (qs.map yU.tree)=io:=by
   intro qs
   induction qs with
   |nil=>intro _;rfl
   |cons q qs ih=>
    intro hq;simp only[Jo,yT,J3];refine⟨?_,by grind⟩;cases q with
    |slot s t=>exact(h.slot s t (hq _ (by simp))).2.2
    |zero u=>exact(zBm u (h.zero u (hq _ (by simp)))).2
  grind
 ·have:∀qs:List yU,(∀p∈qs,p∈ps)→xU (qs.map yU.tree):=by
   intro qs
   induction qs with
   |nil=>intro _;trivial
   |cons q qs ih=>
    intro hq;simp only[Jo,xU,xZ];refine⟨?_,by grind⟩;cases q with
    |slot s t=>exact(h.slot s t (hq _ (by simp))).2.1
    |zero u=>exact(zBm u (h.zero u (hq _ (by simp)))).1
  grind
 ·intro i z
  unfold pHd;split
  ·exact g9.mem.one _ _
  ·exact zBl _
  ·rfl
 ·intro i u x q z hu hs
  rw[K5]at hu;unfold zGU at hs;cases hp:ps[i]? with
  |none=>grind
  |some p=>
   cases p with
   |zero v=>grind
   |slot s t=>
    simp only[hp]at hs;split at hs
    ·rename_i hm
     simp at hs;obtain⟨rfl,rfl⟩:=hs;simp[zI0,zBn ps 0 i s t hp hm ms.2]
    ·cases hs
 ·intro i u x q hu hs
  rw[K5]at hu;unfold zGU at hs;cases hp:ps[i]? with
  |none=>grind
  |some p=>
   cases p with
   |zero v=>grind
   |slot s t=>
    simp only[hp]at hs;split at hs
    ·rename_i hm
     simp at hs;obtain⟨rfl,rfl⟩:=hs;simp[hp,yU.tree]at hu;subst hu;obtain⟨h1,h2,h3⟩:=h.slot s t (by grind);refine⟨by grind[pHd],(g9.ent s t h1).2.1,h2,fun e=>ms.1 ?_⟩
     grind[zBn.pSlots_mem]
    ·cases hs
 ·intro i u hu hs G2 w2 ff
  rw[K5]at hu;unfold zGU at hs;cases hp:ps[i]? with
  |none=>grind
  |some p=>
   cases p with
   |zero v=>
    simp[hp,yU.tree]at hu;subst hu;exact zJH v [i] (h.zero v (by grind)) (by grind[pHd])
   |slot s t=>
    simp only[hp]at hs;split at hs
    ·cases hs
    ·rename_i hm
     simp[hp,yU.tree]at hu;subst hu;have h1:=(g9.ent s t (h.slot s t (by grind)).1).2.1;have h2:G2.hd d [i]=G.hd s []:=by have:=ff [];grind[pHd]
     cases t<;>simp[sS]at hm<;>simp only[R]at h1 ⊢ <;>rw[h2]<;>exact h1
 ·intro s p gG
  have:s∉xV ps:=fun gT=>gG 1 (by grind[sT])
  grind[zI0,zDh]
theorem zDW(g9:Rep Γ E G tmps w)(h:tT E d ps)(G2:Gh):∀(qs:List yU)(i0:Nat),(∀i q,qs[i]? =ik q→ps[i0+i]? =ik q)→(∀i z,G2.hd d (z++[i])=pHd G ps i z)→
  yH G2 d (qs.map yU.tree) [] i0=qs.flatMap (qP G)
 | [],_,_,_=>by rfl
 |q::qs,i0,hq,ff=>by
  have h0:ps[i0]? =ik q:=by simpa using hq 0 q (by simp)
  have ih:=zDW g9 h G2 qs (i0+1) (fun i p hp=>by rw[show i0+1+i=i0+(i+1)from by omega];simp_all) ff;simp only[Jo,yH,Lb,ih]
  congr 1
  cases q with
  |slot s t=>exact zAM t [] [i0] (by grind[pHd])
  |zero u=>exact zFw u [i0] (h.zero u (by grind)) (by grind[pHd])
end
end Go.Ab

namespace Go.Ab
open Go
section
variable {P:Program}{Γ:Ctx}{E:Env}{o:Oper}{d:Nat}
theorem zIM{G G':Gh}{w':World}{s i:Nat}{t:T}{v:Option Value}(hv:v=ik (mkV G s t []))(ef:∀xs,t≠.tup xs)(hs:∀p,G'.hd s p=G.hd s p)(bt:∀z,G'.hd d (z++[i])=G.hd s z)
  (hr:R Γ.St G' w' d t [i]):Ent Γ G' w' v s (cpT d t [i]):=by
 have hz:∀z,G'.hd s (z++[])=G'.hd d (z++[i]):=by grind
 refine⟨?_,?_,qU d t [i]⟩
 ·rw[hv,zA7 (G:=G') (G':=G') t [i] [] ef hz,kN G s t [] ef,zBE t [] [i] (fun z=>by rw[bt,Jd])]
 ·exact zDR (G:=G') (G':=G') (fun _=>rfl) t [i] [] hz ef (xD.triv (fun _ _=>⟨rfl,rfl⟩) _) hr
theorem zBo{G:Gh}{a:Act}{w w':World}{ps:List yU}(g9:Rep Γ E G a.tmps w)(h:tT E d ps)(hd:d<Γ.N){cells:Array Value}{e:TypeId}(hw:w'.heap=w.heap.push (.cells cells e))
  (cu:∀(o:Nat)(v:Value),(ps.flatMap (qP G))[o]? =ik v→cells[o]? =ik v)
  (rt:T)(hH:Value)
  (fa:(∃k cap,rt=.sl k (ps.map yU.tree)∧(∀p∈ps,p.tree.size=k)∧hH=.slice (ik ⟨w.heap.size,0,im⟩) ps.length cap∧ps.length≤cap∧cap≤maxLen∧cells.size=cap*k)∨
   ∃p,ps=[p]∧rt=.ptr p.tree∧hH=.pointer (ik ⟨w.heap.size,0,im⟩)∧cells.size=p.tree.size)
  (ho:w'.os=w.os:=by rfl)(hq:w'.output=w.output:=by rfl):
  ∃G',Rep Γ (E.app ((d,ik rt)::pWr d ps 0) ((d,0)::sT ps)) G' (a.tmps.setIfInBounds d hH) w':=by
 obtain⟨f1,f0,f2,f3,f4,f5,f6⟩:=zGe g9 h;have hh:hH.oneCell'=io:=by rcases fa with⟨k,cap,_,_,rfl,_⟩|⟨p,_,_,rfl,_⟩<;>rfl
 have ms:=L9.1 h.dist;obtain⟨g1,g2,g3,g4,g5⟩:=zDg g9.mem hw d (ps.map yU.tree) (zGU ps) (zI0 ps) (pHd G ps) hH (sT ps) f1 f2 hh f3 f4 f5
  (fun G2 ff o v hv=>cu o v (by rw[zDW g9 h G2 ps 0 (by simp) ff]at hv;exact hv)) f6 (ho:=ho) (hq:=hq)
 refine⟨_,vL g9 (by simp) g1 g2 ?_ ?_⟩
 ·intro s hs
  simp only[Wr.find]at hs;split at hs
  ·cases hs
  ·rename_i gj
   have hns:=zCw ps d 0 s hs;refine⟨fun n hn=>?_,by grind⟩;simp only[J8,Jao.injEq,sT,Jm]at hn;rcases hn with⟨e1,_⟩|⟨y,hy,e1,_⟩
   ·omega
   grind
 ·intro s t hs
  simp only[Wr.find]at hs;split at hs
  ·rename_i he
   subst he;simp at hs;subst hs;have pj:(G.nb d w.heap.size (ps.map yU.tree) (zGU ps) (zI0 ps) (pHd G ps) hH).hd d []=hH:=by simp[Gh.nb]
   have how:(G.nb d w.heap.size (ps.map yU.tree) (zGU ps) (zI0 ps) (pHd G ps) hH).ow w.heap.size=ik (d,[]):=by simp[Gh.nb]
   refine⟨?_,?_,?_⟩
   ·rw[Jj]
    rcases fa with⟨k,cap,rfl,_⟩|⟨p,_,rfl,_⟩<;>simp[g9.size,hd,mkV,pj]
   ·rcases fa with⟨k,cap,rfl,hk,h1,h2,h3,h4⟩|⟨p,rfl,rfl,h1,h4⟩
    ·simp only[R]
     rw[pj];refine .inr ⟨w.heap.size,cap,cells,e,by grind,g5,by grind,h3,by omega,how,?_,zR6 _ _ _ _ _ (fun x hx=>?_) g3 g4⟩
     ·intro o ho _
      have gy:T.sizes (ps.map yU.tree)=(ps.map yU.tree).length*k:=wV _ (fun x hx=>by
       obtain⟨p,hp,rfl⟩:=Jm.1 hx
       grind)
      simp[Gh.nb,zDU (ps.map yU.tree) [] 0 o (by omega)]
     ·obtain⟨p,hp,rfl⟩:=Jm.1 hx
      grind
    ·simp only[R]
     rw[pj];simp only[Jo,U6,vK,RF]at g3 g4;exact⟨w.heap.size,cells,e,h1,g5,h4,how,g3.1,g4.1⟩
   ·rcases fa with⟨k,cap,rfl,_⟩|⟨p,rfl,rfl,_⟩
    ·simp only[Top];exact f0
    ·simp only[Top];exact f0.1
  ·rename_i gj
   obtain⟨i,u,h1,h2,h3⟩:=zCv ps d 0 s _ hs;simp only[Jc]at h3;simp at h3;subst h3;obtain⟨h4,h5,h6⟩:=h.slot s u (Lu h1);have ef:∀xs,u≠.tup xs:=by rintro xs rfl;simp[T.okTup]at h6
   have hi:(ps.map yU.tree)[i]? =ik u:=by simp[h1,yU.tree]
   have hr:=zAY _ [] 0 i u g4 hi;simp only[Jc]at hr;refine zIM (G:=G) (by rw[Jj];simp only[gj,if_false];exact(g9.ent s u h4).1) ef (fun p=>?_) (fun z=>?_) hr
   ·simp[Gh.nb,show s≠d from fun e=>gj e.symm]
   ·simp[Gh.nb,pHd,h1]
inductive zAa (E:Env):Operand→yU→Prop where
 |slot (s:Nat) (t:T):zAa E (.tmp s) (.slot s t)
 |zero (v:Value) (u:T) (h:sA u=v.cells.toList):zAa E (.const v) (.zero u)
theorem zA8{G:Gh}{a:Act}{w:World}{ps:List yU}(g9:Rep Γ E G a.tmps w)(h:tT E d ps){x:Operand}{p:yU}(hp:p∈ps)(hx:zAa E x p):
  (a.eval x).cells.toList=qP G p:=by
 cases hx with
 |slot s t=>
  obtain⟨h1,h2,h3⟩:=h.slot s t hp;obtain⟨h4,_,_⟩:=g9.ent s t h1;rw[wJ h4];cases t with
  |agg xs=>rfl
  |tup xs=>grind[T.okTup]
  |_=>
   have:=g9.mem.one s [];simp only[mkV,vals,qP]
   generalize G.hd s []=v at this
   cases v<;>simp[Value.oneCell',Value.cells]at this ⊢
 |zero v u h=>simp[Act.eval,h,qP]
def uM(E:Env):List Operand→List yU→Prop
 | [],[]=>True
 |x::xs,p::ps=>zAa E x p∧uM E xs ps
 |_,_=>False
theorem uM.length:(xs:List Operand)→(ps:List yU)→uM E xs ps→xs.length=ps.length
 | [],[],_=>rfl
 |_::xs,_::ps,h=>by simp[uM.length xs ps h.2]
 | [],_::_,h=>by simp[uM]at h
 |_::_,[],h=>by simp[uM]at h
theorem uM.mem:(xs:List Operand)→(ps:List yU)→uM E xs ps→ ∀x∈xs,∃p,p∈ps∧zAa E x p
 | [],_,_,x,hx=>by simp at hx
 |y::xs,p::ps,h,x,hx=>by
  rcases J8.1 hx with rfl|hx
  ·exact⟨p,by simp,h.1⟩
  ·obtain⟨q,hq,hxq⟩:=uM.mem xs ps h.2 x hx;exact⟨q,by simp[hq],hxq⟩
 |_::_,[],h,_,_=>by simp[uM]at h
theorem zGV{G:Gh}{a:Act}{w:World}{ps:List yU}(g9:Rep Γ E G a.tmps w)(h:tT E d ps):∀(xs:List Operand)(qs:List yU),(∀q∈qs,q∈ps)→uM E xs qs→
  ((xs.map a.eval).flatMap fun v=>v.cells.toList)=qs.flatMap (qP G)
 | [],[],_,_=>rfl
 |x::xs,q::qs,hq,hx=>by simp only[Jo,Lb,zA8 g9 h (hq q (by simp)) hx.1,zGV g9 h xs qs (by grind) hx.2]
 | [],_::_,_,hx=>by simp[uM]at hx
 |_::_,[],_,hx=>by simp[uM]at hx
theorem zR7(T':TypeId)(ti:TypeInfo)(z:Value)(u:T)(ho:o.op=.alloc T')(gk:o.dst=ik d)(hd:d<Γ.N)
  (hi:P.info? T'=ik ti)(hz:ti.zero=ik z)(hu:u.zOk=io)(hv:sA u=z.cells.toList)(gy:z.cells.size=u.size):
  wN P Γ o E (E.app [(d,ik (.ptr u))] [(d,0)]):=by
 refine wN.value gk fun a w G g9=>?_
 have gW:tT E d [.zero u]:=⟨by simp,by grind,by simp[xV]⟩;obtain⟨G',gn⟩:=zBo (w':=w.alloc (.cells z.cells T')) g9 gW hd (cells:=z.cells) (e:=T') rfl (by grind[qP]) (.ptr u) (.pointer (ik ⟨w.heap.size,0,im⟩)) (.inr ⟨.zero u,rfl,rfl,rfl,gy⟩);refine⟨_,_,?_,G',by simpa[pWr,sT,xV]using gn⟩;simp[execOp,ho,Instr.alloc,zeroValue,typeInfo,hi,hz,newVar,newRow]
theorem zX3(T':TypeId)(x:Operand)(p:yU)(ho:o.op=.box T' x)(gk:o.dst=ik d)(hd:d<Γ.N)(hx:zAa E x p)(gW:tT E d [p]):
  wN P Γ o E (E.app ((d,ik (.ptr p.tree))::pWr d [p] 0) ((d,0)::sT [p])):=by
 refine wN.value gk fun a w G g9=>?_
 have hc:=zA8 g9 gW (by simp) hx;have gy:(a.eval x).cells.size=p.tree.size:=by
  rw[←Kq,hc];cases p with
  |slot s t=>
   obtain⟨_,_,h3⟩:=gW.slot s t (by simp);show(vals G s t []).length=t.size;exact vH t [] (by rintro xs rfl;grind[T.okTup])
  |zero u=>exact vE u (gW.zero u (by simp))
 obtain⟨G',gn⟩:=zBo (w':=w.alloc (.cells (a.eval x).cells T')) g9 gW hd (cells:=(a.eval x).cells) (e:=T') rfl (by grind) (.ptr p.tree) (.pointer (ik ⟨w.heap.size,0,im⟩)) (by grind);refine⟨_,_,?_,G',gn⟩;simp[execOp,ho,Instr.box,newVar,newRow]
theorem zI1(t e:TypeId)(ti:TypeInfo)(z:Value)(k n:Nat)(xs:List Operand)(ps:List yU)(ho:o.op=.buildSlice t n ((xs.zipIdx 0).map fun x=>(x.2,x.1)).toArray)(gk:o.dst=ik d)(hd:d<Γ.N)
  (ht:P.underlying t=ik (.slice e))(hi:P.info? e=ik ti)(hz:ti.zero=ik z)(hk:ti.size=k)(f7:0<k)(hn:xs.length=n)(ap:0<n)(aX:n*k≤2 ^ 24)
  (hx:uM E xs ps)(gW:tT E d ps)(gy:∀p∈ps,p.tree.size=k):
  wN P Γ o E (E.app ((d,ik (.sl k (ps.map yU.tree)))::pWr d ps 0) ((d,0)::sT ps)):=by
 refine wN.value gk fun a w G g9=>?_
 subst hk;have gf:xs.length=ps.length:=uM.length xs ps hx;have hc:=zGV g9 gW xs ps (fun _ h=>h) hx;have cY:∀v∈xs.map a.eval,v.cells.size=ti.size:=by
  intro v hv;obtain⟨x,bH,rfl⟩:=Jm.1 hv;obtain⟨p,hp,hxp⟩:=uM.mem xs ps hx x bH;rw[←Kq,zA8 g9 gW hp hxp,←gy p hp];cases p with
  |slot s t=>
   obtain⟨_,_,h3⟩:=gW.slot s t hp;show(vals G s t []).length=t.size;exact vH t [] (by rintro xs rfl;simp[T.okTup]at h3)
  |zero u=>exact vE u (gW.zero u hp)
 have aH:=Great.fill_whole f7 (xs.map a.eval) ((Jc5 (n*ti.size)).map (z.cells[· %z.cells.size]!)) cY (by simp[hn]);have b5:((((xs.zipIdx 0).map fun x=>(x.2,x.1)).toArray).map fun(i,x)=>(i,a.eval x)).toList=((xs.map a.eval).zipIdx 0).map fun x=>(x.2,x.1):=by simp[List.zipIdx_map,Function.comp_def]
 have gz:=run_buildSlice (P:=P) w t e n _ _ ti z ht hi hz (by omega) (by have:=Jbo ap f7;omega) (by rw[b5];exact aH);have gP:((xs.map a.eval).flatMap fun v=>v.cells.toList).toArray.size=n*ti.size:=by rw[Jbt,flat_len (k:=ti.size) _ (fun v hv=>by rw[Kq];exact cY v hv)];simp[hn]
 obtain⟨G',gn⟩:=zBo (w':=w.alloc (.cells ((xs.map a.eval).flatMap fun v=>v.cells.toList).toArray e)) g9 gW hd rfl (fun o v h=>by rw[hc];simpa using h) (.sl ti.size (ps.map yU.tree)) (.slice (ik ⟨w.heap.size,0,im⟩) n n) (.inl ⟨ti.size,n,rfl,gy,by rw[←gf,hn],by omega,by have:n≤n*ti.size:=Uv n f7;simp only[maxLen];omega,gP⟩)
 refine⟨_,_,?_,G',gn⟩;simp only[execOp,ho,Sem.run_bind,gz,Result.andThen_ok];rfl
where
 flat_len {k:Nat} (vs:List Value) (h:∀v∈vs,v.cells.toList.length=k):(vs.flatMap fun v=>v.cells.toList).length=vs.length*k:=by
  induction vs with
  |nil=>simp
  |cons v vs ih=>simp[Lb,ih (fun u hu=>h u (by simp[hu])),K1];have:=h v (by simp);simp at this;omega
end
end Go.Ab

namespace Go.Ab
open Go
theorem zJI{α β:Type}(f:α→List β)(x:α)(k:Nat)(hk:(f x).length=k)(f7:0<k):∀(n o:Nat)(v:β),((J1 n x).flatMap f)[o]? =ik v→o<n*k∧(f x)[o%k]? =ik v
 |0,o,v,h=>by simp at h
 |n+1,o,v,h=>by
  rw[Jq,Lb,Kl]at h;split at h
  ·grind[Nat.mod_eq_of_lt]
  ·rename_i hge
   rw[hk]at h hge;obtain⟨h1,h2⟩:=zJI f x k hk f7 n (o-k) v h
   grind[Nat.mod_eq_sub_mod]
section
variable {P:Program}{Γ:Ctx}{E:Env}{o:Oper}{d:Nat}
theorem zVd(t e:TypeId)(ti:TypeInfo)(z:Value)(u:T)(k:Nat)(x y:Operand)(n c:Nat)(kl kc:IntKind)(ho:o.op=.makeSlice t x y)(gk:o.dst=ik d)(hd:d<Γ.N)
  (ht:P.underlying t=ik (.slice e))(hi:P.info? e=ik ti)(hz:ti.zero=ik z)(hk:ti.size=k)(f7:0<k)(hu:u.zOk=io)(hv:sA u=z.cells.toList)(fU:u.size=k)(hb:ti.bytes≤4096)
  (hx:opT E x=ik (.lit (.int kl n)))(hy:opT E y=ik (.lit (.int kc c)))(cU:n≤c)(hc:c≤68719476736):
  wN P Γ o E (E.app [(d,ik (.sl k (J1 n u)))] [(d,0)]):=by
 refine wN.value gk fun a w G g9=>?_
 have h1:=(wO g9 hx).1;have h2:=(wO g9 hy).1;subst hk;have gW:tT E d (J1 n (.zero u)):=⟨by simp,fun v h=>by simp_all,by
  have:∀m,xV (J1 m (.zero u))=[]:=by intro m;induction m with|zero=>rfl|succ m ih=>grind[xV]
  simp[this]⟩
 have hzs:z.cells.size=ti.size:=by grind[vE]
 have bw:(ti.bytes:Int)*(c:Int)≤281474976710656:=by have:ti.bytes*c≤4096*68719476736:=Jy hb hc;omega
 have gz:=run_make (P:=P) w t e ti z ht hi hz kl kc n c (by omega) (by omega) bw (by omega);simp only[Ja]at gz;obtain⟨G',gn⟩:=zBo (w':=w.alloc (.cells (madeCells z.cells (c*ti.size)) e)) g9 gW hd rfl (fun i v h=>by
  obtain⟨h3,h4⟩:=zJI (qP G) (.zero u) ti.size (by grind[qP]) f7 n i v h
  grind[Jb1,K9,qP,madeCells]) (.sl ti.size (J1 n u)) (.slice (ik ⟨w.heap.size,0,im⟩) n c)
  (.inl ⟨ti.size,c,by simp[yU.tree],fun p hp=>by simp at hp;obtain⟨_,rfl⟩:=hp;exact fU,by simp,by grind,by grind[maxLen],by simp[madeCells]⟩)
 refine⟨.slice (ik ⟨w.heap.size,0,im⟩) n c,w.alloc (.cells (madeCells z.cells (c*ti.size)) e),?_,G',?_⟩
 ·simp only[execOp,ho,h1,h2,Sem.run_bind,gz,Result.andThen_ok]
  rfl
 ·have h6:∀m i,pWr d (J1 m (.zero u)) i=[]:=by intro m;induction m with|zero=>intro i;rfl|succ m ih=>grind[pWr]
  have h7:sT (J1 n (.zero u))=[]:=by
   have:∀m,xV (J1 m (.zero u))=[]:=by intro m;induction m with|zero=>rfl|succ m ih=>grind[xV]
   grind[sT]
  grind
theorem zGW(t e:TypeId)(ti:TypeInfo)(k:Nat)(ho:o.op=.buildSlice t 0 #[])(gk:o.dst=ik d)(hd:d<Γ.N)
  (ht:P.underlying t=ik (.slice e))(hi:P.info? e=ik ti):wN P Γ o E (E.app [(d,ik (.sl k []))] [(d,0)]):=by
 refine wN.value gk fun a w G g9=>?_
 have gW:tT E d []:=⟨by simp,by simp,by simp[xV]⟩;obtain⟨G',gn⟩:=zBo (w':=w.alloc (.cells #[] e)) g9 gW hd (cells:=#[]) rfl (by simp) (.sl k []) (.slice (ik ⟨w.heap.size,0,im⟩) 0 0)
  (by simp)
 refine⟨_,_,?_,G',gn⟩;have h0:(Jc5 0:Array Nat)= #[]:=by rfl
 simp[execOp,ho,Instr.buildSlice,run_underlying ht,sizeOf,typeInfo,hi,Instr.fill,newRow,h0]
theorem zKX(k:Nat)(x:Operand)(ho:o.op=.move x∨o.op=.assign x)(hx:x=.const (.slice im 0 0))(gk:o.dst=ik d)(hd:d<Γ.N):wN P Γ o E (E.app [(d,ik (.sl k []))] [(d,0)]):=by
 refine wN.value gk fun a w G g9=>?_
 refine⟨.slice im 0 0,w,?_,_,vN g9 rfl hd (fun _=>.slice im 0 0) (fun _=>rfl) (.sl k []) (.slice im 0 0) (by simp[mkV,Gh.put]) (by simp[R,Gh.put]) (by simp[Top,xU,xZ])⟩;subst hx;rcases ho with ho|ho<;>simp[execOp,ho,Act.eval]
def Gh.nv(G:Gh)(d:Nat)(src:Nat→Option (Nat×List Nat))(φ:Nat→List Nat→Option (List Nat))(f:Nat→List Nat→Value):Gh where
 hd s z:=if s=d then(match z.getLast? with
  |some i=>f i z.dropLast
  |none=>.bool iq)else G.hd s z
 ad s z:=if s=d then(match z.getLast? with
  |some i=>(match src i with
   |some (x,q)=>G.ad x (z.dropLast++q)
   |none=>default)
  |none=>default)else G.ad s z
 lb b o:=match G.lb b o with
  |some (fl,s,z)=>(match φ s z with
   |some z'=>ik (fl,d,z')
   |none=>ik (fl,s,z))
  |none=>im
 ow b:=match G.ow b with
  |some (s,z)=>(match φ s z with
   |some z'=>ik (d,z')
   |none=>ik (s,z))
  |none=>im
theorem zVe{G:Gh}{a:Act}{w:World}{ps:List yU}(g9:Rep Γ E G a.tmps w)(h:tT E d ps)(hd:d<Γ.N):
  ∃G',Rep Γ (E.app ((d,ik (.agg (ps.map yU.tree)))::pWr d ps 0) ((d,0)::sT ps)) G' (a.tmps.setIfInBounds d (.agg (ps.flatMap (qP G)).toArray)) w:=by
 obtain⟨f1,f0,f2,f3,f4,f5,f6⟩:=zGe g9 h;have hm:=g9.mem;have gK:Blk w w:=fun b cs e' h=>⟨cs,h,rfl⟩
 generalize gn:G.nv d (zGU ps) (zI0 ps) (pHd G ps)=G'
 have ghd:∀i z,G'.hd d (z++[i])=pHd G ps i z:=fun i z=>by rw[←gn];simp[Gh.nv]
 have ghd':∀s z,s≠d→G'.hd s z=G.hd s z:=by grind[Gh.nv]
 have glbm:∀b o fl x z z',G.lb b o=ik (fl,x,z)→zI0 ps x z=ik z'→G'.lb b o=ik (fl,d,z'):=by grind[Gh.nv]
 have gowm:∀b x z z',G.ow b=ik (x,z)→zI0 ps x z=ik z'→G'.ow b=ik (d,z'):=by grind[Gh.nv]
 have gj:∀s p,Off ((d,0)::sT ps) s p→s≠d:=fun s p h e=>absurd (h 0 (by simp[e])) (by simp)
 have gx:qY ((d,0)::sT ps) G w G' w:=by
  refine⟨by grind,fun s p h=>?_,fun b o fl s p _ hl h=>⟨?_,rfl⟩,fun b s p hl h=>?_,gK⟩
  ·rw[←gn];simp[Gh.nv,gj s p h]
  ·rw[←gn];simp[Gh.nv,hl,f6 s p h]
  ·rw[←gn];simp[Gh.nv,hl,f6 s p h]
 have gr:Mem Γ G' w:=by
  refine⟨fun s p=>?_,fun b o l hl=>?_,fun b l hl=>?_,hm.st,hm.fr,hm.sz,hm.bk⟩
  ·rw[←gn]
   simp only[Gh.nv];split
   ·split
    ·grind
    ·rfl
   ·exact hm.one s p
  ·rw[←gn]at hl
   simp only[Gh.nv]at hl;split at hl
   ·rename_i hg;exact hm.lb b o _ hg
   ·cases hl
  ·rw[←gn]at hl
   simp only[Gh.nv]at hl;split at hl
   ·rename_i hg;exact hm.ow b _ hg
   ·cases hl
 have g4:RF Γ.St G' w d (ps.map yU.tree) [] 0:=by
  refine zO1 _ [] 0 (fun i u hu=>?_);rw[Jc];cases hs:zGU ps i with
  |none=>exact f5 i u hu hs G' w (fun z=>ghd i z)
  |some xq=>
   obtain⟨x,q⟩:=xq;obtain⟨h1,h2,h3,h4⟩:=f4 i u x q hu hs;refine zKW u q [i] (zDg.okTups_get _ f1 i u hu) ⟨fun z=>by rw[ghd,h1],fun z _=>by rw[←gn];simp[Gh.nv,hs],fun b o fl z _ hl=>⟨glbm b o fl x _ _ hl (f3 i u x q z hu hs),rfl⟩,
    fun b z hl=>gowm b x _ _ hl (f3 i u x q z hu hs),gK⟩ (xD.mono (by simp) u h3) h2
 refine⟨G',vL g9 (by simp) gx gr ?_ ?_⟩
 ·intro s hs
  simp only[Wr.find]at hs;split at hs
  ·cases hs
  ·rename_i gj
   have hns:=zCw ps d 0 s hs;refine⟨fun n hn=>?_,by rw[Jj];simp[gj]⟩;simp only[J8,Jao.injEq,sT,Jm]at hn
   grind
 ·intro s t hs
  simp only[Wr.find]at hs;split at hs
  ·rename_i he
   subst he;simp at hs;subst hs;refine⟨?_,by grind[R],by grind[Top,vP.of_clean]⟩;rw[Jj];simp only[g9.size,hd,mkV,if_true];rw[zDW g9 h G' ps 0 (by simp) ghd]
  ·rename_i gj
   obtain⟨i,u,h1,h2,h3⟩:=zCv ps d 0 s _ hs;simp only[Jc]at h3;simp at h3;subst h3;obtain⟨h4,h5,h6⟩:=h.slot s u (Lu h1);have ef:∀xs,u≠.tup xs:=by rintro xs rfl;grind[T.okTup]
   have hi:(ps.map yU.tree)[i]? =ik u:=by simp[h1,yU.tree]
   have hr:=zAY _ [] 0 i u g4 hi;simp only[Jc]at hr;refine zIM (G:=G) (by rw[Jj];simp only[gj,if_false];exact(g9.ent s u h4).1) ef (by grind) (fun z=>?_) hr;rw[ghd];simp[pHd,h1]
theorem zO3(off:Nat):∀(vs:List Value)(i:Nat)(cs:Array Value)(k:Nat),off+i+vs.length≤cs.size→
  ((vs.zipIdx i).foldl (fun cs(x:Value×Nat)=>cs.setIfInBounds (off+x.2) x.1) cs)[k]? =if off+i≤k∧k<off+i+vs.length then vs[k-(off+i)]? else cs[k]?
 | [],i,cs,k,_=>by simp;omega
 |v::vs,i,cs,k,h=>by
  simp only[J7]at h;simp only[List.zipIdx_cons,Ge];rw[zO3 off vs (i+1) _ k (by simp;omega)]
  by_cases h1:off+(i+1)≤k∧k<off+(i+1)+vs.length
  ·rw[if_pos h1,if_pos (by grind),show k-(off+i)=k-(off+(i+1))+1 from by omega,Un]
  ·rw[if_neg h1]
   by_cases h2:k=off+i
   ·subst h2
    rw[if_pos (by simp),Kf]
    grind
   ·rw[if_neg (by grind),Jj,if_neg (fun e=>h2 e.symm)]
theorem zGX{pv:yU→List Value}(place:Nat→Option (Nat×Nat)):∀(vs:List (Nat×Value))(qs:List (Nat×yU))(ps:List yU)(cs:Array Value),cs.toList=ps.flatMap pv→
  (∀i p,ps[i]? =ik p→place i=ik (((ps.take i).flatMap pv).length,(pv p).length))→
  vs.map (·.1)=qs.map (·.1)→(∀(j:Nat)(v:Nat×Value)(q:Nat×yU),vs[j]? =ik v→qs[j]? =ik q→v.2.cells.toList=pv q.2∧ ∃p,ps[q.1]? =ik p∧(pv p).length=(pv q.2).length)→
  ∃cs',Instr.fill place cs vs=ik cs'∧cs'.toList=(qs.foldl (fun ps q=>ps.set q.1 q.2) ps).flatMap pv
 | [],[],ps,cs,hJ,_,_,_=>⟨cs,rfl,hJ⟩
 | [],_::_,_,_,_,_,h,_=>by simp at h
 |_::_,[],_,_,_,_,h,_=>by simp at h
 |(i,v)::vs,(i',q)::qs,ps,cs,hJ,pz,hi,hq=>by
  simp only[Jo,Jay.injEq]at hi;obtain⟨uq,hi⟩:=hi;subst uq;obtain⟨h1,p,h2,h3⟩:=hq 0 (i,v) (i,q) rfl rfl;dsimp only at h1 h2 h3;have mZ:=pz i p h2;have gF:=(Jn.1 h2).1;have mI:ps=ps.take i++p::ps.drop (i+1):=by grind[H1,Jb3]
  have gv:ps.set i q=ps.take i++q::ps.drop (i+1):=List.set_eq_take_append_cons_drop .. |>.trans (if_pos gF);have pe:v.cells.size=(pv p).length:=by grind
  have gE:cs.size=((ps.take i).flatMap pv).length+((pv p).length+((ps.drop (i+1)).flatMap pv).length):=by grind[Kq]
  have eL:(v.cells.zipIdx.foldl (fun cs(x:Value×Nat)=>cs.setIfInBounds (((ps.take i).flatMap pv).length+x.2) x.1) cs).toList=(ps.set i q).flatMap pv:=by
   rw[gv];simp only[Ht,Lb,←h1];apply Kv;intro k;rw[←Array.foldl_toList,Kt,show v.cells.zipIdx.toList=v.cells.toList.zipIdx 0 from by simp,zO3 _ _ 0 cs k (by grind)];have i5:cs.toList=((ps.take i).flatMap pv)++(pv p++(ps.drop (i+1)).flatMap pv):=by grind
   have pP:v.cells.toList.length=(pv p).length:=by rw[h1,h3]
   rw[←Kt,i5]
   generalize (ps.take i).flatMap pv=A
   generalize (ps.drop (i+1)).flatMap pv=B
   generalize v.cells.toList=V at pP
   generalize pv p=Q at pP
   by_cases hk:A.length≤k∧k<A.length+V.length
   ·rw[if_pos (by omega),J9 hk.1,Jv (by omega),Gv]
   ·rw[if_neg (by omega)]
    by_cases fy:k<A.length
    ·grind
    ·rw[J9 (by omega),J9 (by omega),J9 (by omega),J9 (by omega),pP]
  have u6:∀j p',(ps.set i q)[j]? =ik p'→place j=ik ((((ps.set i q).take j).flatMap pv).length,(pv p').length):=by
   intro j p' cR;have ey:(((ps.set i q).take j).flatMap pv).length=((ps.take j).flatMap pv).length:=by
    rw[gv]
    conv=>rhs;rw[mI]
    by_cases hj:j≤i
    ·grind
    ·rw[Jbb,Jbb]
     simp only[Ht,J5]
     congr 1
     have:j-(ps.take i).length=(j-(ps.take i).length-1)+1:=by simp;omega
     rw[this,Lf,Lf];simp[h3]
   grind[Jd4]
  have hq':∀(j:Nat)(x:Nat×Value)(y:Nat×yU),vs[j]? =ik x→qs[j]? =ik y→x.2.cells.toList=pv y.2∧ ∃p,(ps.set i q)[y.1]? =ik p∧(pv p).length=(pv y.2).length:=by
   intro j x y hx hy;obtain⟨h6,p',h7,h8⟩:=hq (j+1) x y (by grind) (by grind)
   grind[Jd4]
  obtain⟨cs',h4,h5⟩:=zGX place vs qs (ps.set i q) _ eL u6 hi hq';refine⟨cs',?_,by grind⟩;simp only[Instr.fill,mZ];have d8:(v.cells.size≠(pv p).length||((ps.take i).flatMap pv).length+v.cells.size> cs.size)=iq:=by grind
  grind
theorem uS{t:TypeId}{it:TypeInfo}{fields:Array Field}{z:Value}{places:List (Nat×Nat)}(hi:P.info? t=ik it)(hu:P.underlying t=ik (.struct fields))(hz:it.zero=ik z)
  (hp:fields.toList.mapM (fun f=>(P.info? f.type).map fun i=>(f.offset,i.size))=ik places)(parts:List (Nat×Value)):P.built t parts=Instr.fill (places.toArray[·]?) z.cells parts:=by
 grind[Program.built]
theorem zKY{t e:TypeId}{n:Nat}{it ie:TypeInfo}{z:Value}(hi:P.info? t=ik it)(hu:P.underlying t=ik (.array n e))(hz:it.zero=ik z)
  (he:P.info? e=ik ie)(parts:List (Nat×Value)):P.built t parts=Instr.fill (fun i=>ik (i*ie.size,ie.size)) z.cells parts:=by
 grind[Program.built]
theorem zFx{G:Gh}:(zs:List T)→(zs.map yU.zero).flatMap (qP G)=qJ zs
 | []=>rfl
 |z::zs=>by simp[qP,qJ,←zFx (G:=G) zs]
theorem zR8(t:TypeId)(place:Nat→Option (Nat×Nat))(z:Value)(zs:List T)(pl:List (Nat×Operand))(qs:List (Nat×yU))(ps:List yU)(ho:o.op=.build t pl.toArray)(gk:o.dst=ik d)(hd:d<Γ.N)
  (hb:∀parts,P.built t parts=Instr.fill place z.cells parts)(hzv:qJ zs=z.cells.toList)(hz:zAq zs=io)(pz:∀i u,zs[i]? =ik u→place i=ik (T.sizes (zs.take i),u.size))
  (gW:qs.foldl (fun ps q=>ps.set q.1 q.2) (zs.map yU.zero)=ps)(gC:tT E d ps)(hix:pl.map (·.1)=qs.map (·.1))
  (hq:∀(j:Nat)(x:Nat×Operand)(q:Nat×yU),pl[j]? =ik x→qs[j]? =ik q→zAa E x.2 q.2∧q.2∈ps∧ ∃u,zs[q.1]? =ik u∧u.size=q.2.tree.size):
  wN P Γ o E (E.app ((d,ik (.agg (ps.map yU.tree)))::pWr d ps 0) ((d,0)::sT ps)):=by
 refine wN.value gk fun a w G g9=>?_
 obtain⟨G',gn⟩:=zVe g9 gC hd;have gy:∀(us:List T),zAq us=io→((us.map yU.zero).flatMap (qP G)).length=T.sizes us:=by grind[zFx,zBa]
 obtain⟨cs',h1,h2⟩:=zGX (pv:=qP G) place (pl.map fun x=>(x.1,a.eval x.2)) qs (zs.map yU.zero) z.cells (by rw[zFx,hzv]) (fun i p hp=>by
   rw[K5]at hp;cases hu:zs[i]? with
   |none=>grind
   |some u=>
    simp[hu]at hp;subst hp;rw[pz i u hu,←Jbe,gy _ (zOks_take zs i hz),qP,vE u (zOks_get zs hz i u hu)])
  (by grind[Function.comp_def]) (fun j v q hv hqj=>by
   rw[K5]at hv;cases hx:pl[j]? with
   |none=>grind
   |some x=>
    simp[hx]at hv;subst hv;obtain⟨h3,h4,u,h5,h6⟩:=hq j x q hx hqj;refine⟨zA8 g9 gC h4 h3,.zero u,by simp[h5],?_⟩;rw[qP,vE u (zOks_get zs hz _ u h5),h6];cases ae:q.2 with
    |slot s t=>
     rw[ae]at h4;obtain⟨_,_,h7⟩:=gC.slot s t h4;exact(vH t [] (by rintro xs rfl;grind[T.okTup])).symm
    |zero u'=>
     rw[ae]at h4;exact(vE u' (gC.zero u' h4)).symm)
 rw[gW]at h2;have h3:cs'=(ps.flatMap (qP G)).toArray:=by rw[←h2]
 refine⟨_,w,?_,G',gn⟩;have gz:=run_build (P:=P) w t (pl.map fun x=>(x.1,a.eval x.2)).toArray cs' (by grind);simp only[Qj,execOp,ho,Sem.run_bind]at gz ⊢
 rw[show(List.map (fun x=>match x with|(i,x)=>(i,a.eval x)) pl)=List.map (fun x=>(x.1,a.eval x.2)) pl from rfl,gz,h3];rfl
where
 zOks_get:(xs:List T)→zAq xs=io→ ∀(i:Nat)(x:T),xs[i]? =ik x→x.zOk=io
  | [],_,_,_,h=>by simp at h
  |y::ys,hk,i,x,h=>by
   simp only[zAq,J3]at hk;cases i with
   |zero=>grind
   |succ i=>exact zOks_get ys hk.2 i x (by grind)
 zOks_take:(xs:List T)→ ∀i,zAq xs=io→zAq (xs.take i)=io
  | [],i,_=>by simp[zAq]
  |y::ys,0,_=>by simp[zAq]
  |y::ys,i+1,hk=>by
   simp only[zAq,J3,Lf]at hk ⊢
   exact⟨hk.1,zOks_take ys i hk.2⟩
end
end Go.Ab

namespace Go.Ab
open Go
mutual
def vJ:T→T→Bool
 |.agg xs,.agg ys=>kH xs ys
 |.agg _,_=>iq
 |.tup _,_=>iq
 |_,.agg _=>iq
 |_,.tup _=>iq
 |.any,_|.lit _,_|.ro _,_|.same _ _,_|.addr _ _,_|.sub _ _ _ _ _,_|.sl _ _,_|.ptr _,_=>io
def kH:List T→List T→Bool
 | [],[]=>io
 |x::xs,y::ys=>vJ x y&&kH xs ys
 | [],_::_=>iq
 |_::_,[]=>iq
end
mutual
theorem zCx:(x y:T)→vJ x y=io→x.size=y.size
 |.agg xs,.agg ys,h=>by simp only[vJ]at h;simp only[T.size];exact zE6 xs ys h
 |.agg _,.any,h|.agg _,.lit _,h|.agg _,.ro _,h|.agg _,.same _ _,h|.agg _,.addr _ _,h|.agg _,.sub _ _ _ _ _,h|.agg _,.sl _ _,h|.agg _,.ptr _,h|.agg _,.tup _,h=>by grind[vJ]
 |.tup _,_,h=>by grind[vJ]
 |.any,y,h|.lit _,y,h|.ro _,y,h|.same _ _,y,h|.addr _ _,y,h|.sub _ _ _ _ _,y,h|.sl _ _,y,h|.ptr _,y,h=>by cases y<;>simp[vJ]at h<;>simp[T.size]
theorem zE6:(xs ys:List T)→kH xs ys=io→T.sizes xs=T.sizes ys
 | [],[],_=>rfl
 |x::xs,y::ys,h=>by simp only[kH,J3]at h;simp only[T.sizes,zCx x y h.1,zE6 xs ys h.2]
 | [],_::_,h=>by grind[kH]
 |_::_,[],h=>by grind[kH]
end
section
variable {G:Gh}{w:World}{s:Nat}
mutual
theorem zJJ:(t:T)→ ∀(p:List Nat)(b o j:Nat),Loc G w s t p b o→j<t.size→ ∃y,G.lb b (o+j)=ik (iq,s,y++p)
 |.agg xs,p,b,o,j,h,hj=>by simp only[Loc,T.size]at h hj;exact zO4 xs p 0 b o j h.2 hj
 |.any,p,b,o,j,h,hj|.lit _,p,b,o,j,h,hj|.ro _,p,b,o,j,h,hj|.same _ _,p,b,o,j,h,hj|.addr _ _,p,b,o,j,h,hj|.sub _ _ _ _ _,p,b,o,j,h,hj|.sl _ _,p,b,o,j,h,hj|.ptr _,p,b,o,j,h,hj=>by
  simp only[Loc,T.size]at h hj
  simp_all
 |.tup _,_,_,_,_,h,_=>by grind[Loc]
theorem zO4:(xs:List T)→ ∀(p:List Nat)(i b o j:Nat),vK G w s xs p i b o→j<T.sizes xs→ ∃y,G.lb b (o+j)=ik (iq,s,y++p)
 | [],_,_,_,_,_,_,hj=>by grind[T.sizes]
 |x::xs,p,i,b,o,j,h,hj=>by
  simp only[vK,T.sizes]at h hj
  by_cases gF:j<x.size
  ·obtain⟨y,hy⟩:=zJJ x (i::p) b o j h.1 gF
   exact⟨y++[i],by grind⟩
  ·obtain⟨y,hy⟩:=zO4 xs p (i+1) b (o+x.size) (j-x.size) h.2 (by omega)
   grind
end
mutual
theorem zR9{G':Gh}{w':World}:(u u0:T)→ ∀(p:List Nat)(b o:Nat),vJ u u0=io→(∀y,u.inT y.reverse=io→G'.ad s (y++p)=G.ad s (y++p))→
  (∀b o y,G.lb b o=ik (iq,s,y++p)→G'.lb b o=ik (iq,s,y++p))→(∀j v,(vals G' s u p)[j]? =ik v→yR w' b (o+j)=ik v)→Loc G w s u0 p b o→Loc G' w' s u p b o
 |.agg xs,.agg ys,p,b,o,h,ha,hl,hc,h0=>by
  simp only[Loc,vJ]at h h0 ⊢
  refine⟨by have:=ha [] rfl;grind,zO5 xs ys p 0 b o h (fun i x hx y hy=>?_) (by omega) (by grind[vals]) h0.2⟩;have:=ha (y++[i]) (by grind[T.inT])
  grind
 |.agg _,.any,_,_,_,h,_,_,_,_|.agg _,.lit _,_,_,_,h,_,_,_,_|.agg _,.ro _,_,_,_,h,_,_,_,_|.agg _,.same _ _,_,_,_,h,_,_,_,_|.agg _,.addr _ _,_,_,_,h,_,_,_,_|.agg _,.sub _ _ _ _ _,_,_,_,h,_,_,_,_|.agg _,.sl _ _,_,_,_,h,_,_,_,_|.agg _,.ptr _,_,_,_,h,_,_,_,_|.agg _,.tup _,_,_,_,h,_,_,_,_=>by grind[vJ]
 |.tup _,_,_,_,_,h,_,_,_,_=>by grind[vJ]
 |.any,u0,p,b,o,h,ha,hl,hc,h0|.lit _,u0,p,b,o,h,ha,hl,hc,h0|.ro _,u0,p,b,o,h,ha,hl,hc,h0|.same _ _,u0,p,b,o,h,ha,hl,hc,h0|.addr _ _,u0,p,b,o,h,ha,hl,hc,h0|.sub _ _ _ _ _,u0,p,b,o,h,ha,hl,hc,h0|.sl _ _,u0,p,b,o,h,ha,hl,hc,h0|.ptr _,u0,p,b,o,h,ha,hl,hc,h0=>by have h1:=vD (by cases u0<;>simp[vJ]at h<;>rfl) h0;have h2:=ha [] rfl;rw[Jx]at h2;simp only[Loc];exact⟨h2.trans h1.1,by simp_all,by simpa using hc 0 (G'.hd s p) (by simp[vals])⟩
theorem zO5{G':Gh}{w':World}:(xs ys:List T)→ ∀(p:List Nat)(j b o:Nat),kH xs ys=io→(∀i x,xs[i]? =ik x→ ∀y,x.inT y.reverse=io→G'.ad s (y++((j+i)::p))=G.ad s (y++((j+i)::p)))→
  (∀b o y,G.lb b o=ik (iq,s,y++p)→G'.lb b o=ik (iq,s,y++p))→(∀i v,(yH G' s xs p j)[i]? =ik v→yR w' b (o+i)=ik v)→vK G w s ys p j b o→vK G' w' s xs p j b o
 | [],[],_,_,_,_,_,_,_,_,_=>by grind[vK]
 |x::xs,y::ys,p,j,b,o,h,ha,hl,hc,h0=>by
  simp only[kH,J3,vK]at h h0 ⊢
  have hs:=zCx x y h.1;have ef:∀zs,x≠.tup zs:=by rintro zs rfl;grind[vJ]
  refine⟨zR9 x y (j::p) b o h.1 (fun z hz=>by simpa using ha 0 x (by simp) z hz) (fun b o z hz=>by have:=hl b o (z++[j]) (by grind);grind) (fun i v hv=>hc i v ?_) h0.1,
   zO5 xs ys p (j+1) b (o+x.size) h.2 (fun i z hz=>by have:=ha (i+1) z (by grind);grind) hl (fun i v hv=>?_) (by grind)⟩
  ·grind[yH]
  ·have:=hc (x.size+i) v (by
    grind[yH,vH])
   grind
 | [],_::_,_,_,_,_,h,_,_,_,_=>by grind[kH]
 |_::_,[],_,_,_,_,h,_,_,_,_=>by grind[kH]
end
end
def zGx(p:yU)(q:List Nat)(s:Nat)(z:List Nat):Option (List Nat):=
 match p with
 |.slot s0 t=>if sS t&&s0==s then ik (z++q)else im
 |.zero _=>im
def sHd(G:Gh)(p:yU)(y:List Nat):Value:=
 match p with
 |.slot s _=>G.hd s y
 |.zero u=>jX (zhd u y.reverse)
def sWr(r:Nat)(q:List Nat):yU→Wr
 |.slot s t=>if sS t then[(s,ik (cpT r t q))]else[]
 |.zero _=>[]
def Gh.st(G:Gh)(r:Nat)(q:List Nat)(p:yU):Gh where
 hd s z:=if s=r∧q<:+z then sHd G p (z.take (z.length-q.length))else G.hd s z
 ad s z:=if s=r∧q<:+z∧p.tree.inT (z.take (z.length-q.length)).reverse=iq then(match p with
  |.slot s0 _=>G.ad s0 (z.take (z.length-q.length))
  |.zero _=>default)else G.ad s z
 lb b o:=match G.lb b o with
  |some (fl,s,z)=>(match zGx p q s z with
   |some z'=>ik (fl,r,z')
   |none=>ik (fl,s,z))
  |none=>im
 ow b:=match G.ow b with
  |some (s,z)=>(match zGx p q s z with
   |some z'=>ik (r,z')
   |none=>ik (s,z))
  |none=>im
mutual
theorem zKZ{Γ:Ctx}{G:Gh}{w:World}(hm:Mem Γ G w){s:Nat}:(t:T)→ ∀(p:List Nat)(v:Value),v∈vals G s t p→v.oneCell'=io
 |.agg xs,p,v,h=>by simp only[vals]at h;exact zDi hm xs p 0 v h
 |.any,p,v,h|.lit _,p,v,h|.ro _,p,v,h|.same _ _,p,v,h|.addr _ _,p,v,h|.sub _ _ _ _ _,p,v,h|.sl _ _,p,v,h|.ptr _,p,v,h|.tup _,p,v,h=>by simp only[vals,List.mem_singleton]at h;rw[h];exact hm.one s p
theorem zDi{Γ:Ctx}{G:Gh}{w:World}(hm:Mem Γ G w){s:Nat}:(xs:List T)→ ∀(p:List Nat)(j:Nat)(v:Value),v∈yH G s xs p j→v.oneCell'=io
 | [],_,_,_,h=>by grind[yH]
 |x::xs,p,j,v,h=>by
  simp only[yH,Je]at h;rcases h with h|h
  ·exact zKZ hm x _ v h
  ·exact zDi hm xs p _ v h
end
mutual
theorem zFy:(u:T)→u.zOk=io→ ∀v∈sA u,v.oneCell'=io
 |.lit v,h,x,hx=>by simp only[sA,List.mem_singleton]at hx;rw[hx];exact h
 |.sl _ _,_,x,hx=>by simp only[sA,List.mem_singleton]at hx;rw[hx];rfl
 |.agg xs,h,x,hx=>by simp only[T.zOk]at h;simp only[sA]at hx;exact zGY xs h x hx
 |.any,h,_,_|.ro _,h,_,_|.same _ _,h,_,_|.addr _ _,h,_,_|.sub _ _ _ _ _,h,_,_|.ptr _,h,_,_|.tup _,h,_,_=>by grind[T.zOk]
theorem zGY:(xs:List T)→zAq xs=io→ ∀v∈qJ xs,v.oneCell'=io
 | [],_,_,h=>by grind[qJ]
 |x::xs,h,v,hv=>by
  simp only[zAq,J3]at h;simp only[qJ,Je]at hv;rcases hv with hv|hv
  ·exact zFy x h.1 v hv
  ·exact zGY xs h.2 v hv
end
theorem zLa(y q:List Nat):(y++q).take ((y++q).length-q.length)=y:=by simp
theorem zNh{Γ:Ctx}{G G':Gh}{w':World}{s d:Nat}{q:List Nat}{t:T}{v:Option Value}(hv:v=ik (mkV G s t []))(ef:∀xs,t≠.tup xs)(hs:∀p,G'.hd s p=G.hd s p)(bt:∀z,G'.hd d (z++q)=G.hd s z)
  (hr:R Γ.St G' w' d t q):Ent Γ G' w' v s (cpT d t q):=by
 have hz:∀z,G'.hd s (z++[])=G'.hd d (z++q):=by grind
 refine⟨?_,?_,qU d t q⟩
 ·rw[hv,zA7 (G:=G') (G':=G') t q [] ef hz,kN G s t [] ef,zBE t [] q (fun z=>by rw[bt,Jd])]
 ·exact zDR (G:=G') (G':=G') (fun _=>rfl) t q [] hz ef (xD.triv (fun _ _=>⟨rfl,rfl⟩) _) hr
section
variable {P:Program}{Γ:Ctx}{E:Env}{o:Oper}
theorem jY:(f:List Nat)→ ∀(t u:T),yD t→yD u→yD (t.set f u)
 | [],t,u,_,hu=>by grind[T.set]
 |i::f,t,u,ht,hu=>by
  cases t with
  |sl k xs=>
   simp only[T.set];split
   ·rename_i x hx
    simp only[yD,xD]at ht ⊢
    exact sets_clean xs i _ ht (jY f x u (uQ xs ht i x hx) hu)
   ·exact ht
  |agg xs=>
   simp only[T.set];split
   ·rename_i x hx
    simp only[yD,xD]at ht ⊢
    exact sets_clean xs i _ ht (jY f x u (uQ xs ht i x hx) hu)
   ·exact ht
  |tup xs=>
   simp only[T.set];split
   ·rename_i x hx
    simp only[yD,xD]at ht ⊢
    exact sets_clean xs i _ ht (jY f x u (uQ xs ht i x hx) hu)
   ·exact ht
  |ptr t=>
   simp only[T.set];split
   ·simp only[yD,xD]at ht ⊢
    exact jY f t u ht hu
   ·exact ht
  |_=>grind[T.set]
where sets_clean:(xs:List T)→ ∀(i:Nat)(y:T),xU xs→yD y→xU (xs.set i y)
 | [],_,_,_,_=>by grind
 |x::xs,0,y,h,hy=>by simp_all[xZ]
 |x::xs,i+1,y,h,hy=>by simp only[La,xU,xZ]at h ⊢;exact⟨h.1,sets_clean xs i y h.2 hy⟩
theorem zFz(T':TypeId)(ti:TypeInfo)(x y:Operand)(r:Nat)(q:List Nat)(tr u0:T)(p:yU)(ho:o.op=.store T' x y)(gk:o.dst=im)
  (hi:P.info? T'=ik ti)(gy:ti.size=p.tree.size)(py:0<ti.size)(hx:zAN Γ E x r q)(hr:E r=ik tr)(aY:tr.single=io)(hg:tr.get q.reverse=ik u0)(hl:tr.locd q.reverse=io)
  (fW:vJ p.tree u0=io)(hy:zAa E y p)(gW:tT E r [p]):
  wN P Γ o E (E.app ((r,ik (tr.set q.reverse p.tree))::sWr r q p) ((r,q.length)::sT [p])):=by
 refine wN.skip gk fun a w G g9=>?_
 have hm:=g9.mem;have bA:=hx a w G g9;obtain⟨e3,e4,e5⟩:=g9.ent r _ hr;have ag:q≠[]:=by rintro rfl;simp[T.locd]at hl
 obtain⟨i0,f0,dW⟩:∃i f,q.reverse=i::f:=by
  cases h:q.reverse with
  |nil=>exact absurd (by simpa using h) ag
  |cons i f=>exact⟨i,f,rfl⟩
 have tp:∀v:T,(tr.set q.reverse v).single=io∧yD tr:=by
  intro v;rw[dW]at hg ⊢
  cases tr with
  |sl k xs=>exact⟨by simp only[T.set];split<;>rfl,by simpa only[Top,yD,xD]using e5⟩
  |ptr t=>exact⟨by simp only[T.set];split<;>rfl,by simpa only[Top,yD,xD]using e5⟩
  |agg xs=>simp[T.single]at aY
  |tup xs=>simp[T.single]at aY
  |_=>simp[T.get]at hg
 obtain⟨b,ob,cs,et,pX,gK,uz⟩:=(zA6 q.reverse tr u0 [] e4 hg).2 hl;simp only[rp,Kj,Jd]at pX;have hru0:=(zA6 q.reverse tr u0 [] e4 hg).1;have fe:=zBF pX;have a6:=zCx _ _ fW;have hc:=zA8 g9 gW (by simp) hy;have cY:(a.eval y).cells.size=p.tree.size:=by
  rw[←Kq,hc];cases p with
  |slot s t=>obtain⟨_,_,h3⟩:=gW.slot s t (by simp);exact vH t [] (by rintro xs rfl;simp[T.okTup]at h3)
  |zero u=>exact vE u (gW.zero u (by simp))
 have gA:∀v∈(a.eval y).cells.toList,v.oneCell'=io:=by
  rw[hc];intro v hv;cases p with
  |slot s t=>exact zKZ hm t [] v hv
  |zero u=>exact zFy u (gW.zero u (by simp)) v hv
 generalize eI:w.setRow b (cs.toList.take ob++(a.eval y).cells.toList++cs.toList.drop (ob+(a.eval y).cells.toList.length)).toArray=w'
 have eL:w'.heap[b]? =ik (.cells (cs.toList.take ob++(a.eval y).cells.toList++cs.toList.drop (ob+(a.eval y).cells.toList.length)).toArray et (0,0)):=by rw[←eI];exact setRow_heap w b cs _ et _ gK
 have gI:∀b',b'≠b→w'.heap[b']? =w.heap[b']?:=fun b' h=>by rw[←eI];exact setRow_other w b b' _ h
 have gP:w'.heap.size=w.heap.size:=by rw[←eI];exact size_setRow w b _
 have gE:(a.eval y).cells.toList.length=u0.size:=by rw[Kq,cY,a6]
 have fC:∀k,yR w' b k=if ob≤k∧k<ob+u0.size then(qP G p)[k-ob]? else yR w b k:=by
  intro k;simp only[yR,World.cell?,eL,gK,Us,Hu,if_false];rw[←hc,←gE]at*
  rw[←Kt,←Kt (xs:=cs)];simp only[];have hJ:cs.toList.length=cs.size:=Kq ..
  generalize (a.eval y).cells.toList=V at*
  by_cases h1:k<ob
  ·rw[if_neg (by omega),Jb,Jv (by simp;omega),U7 h1]
  ·by_cases h2:k<ob+V.length
   ·rw[if_pos ⟨by omega,h2⟩,Jb,J9 (by simp;omega),Jv (by simp;omega)]
    congr 1;simp;omega
   ·rw[if_neg (by omega),Jb,J9 (by simp;omega),J9 (by simp;omega),Lz]
    congr 1;simp;omega
 have cv:∀b' o' fl s z,G.lb b' o'=ik (fl,s,z)→ ¬(s=r∧q<:+z)→yR w' b' o'=yR w b' o':=by
  intro b' o' fl s z h1 h2
  by_cases hb:b'=b
  ·subst hb
   rw[fC];split
   ·rename_i h3
    obtain⟨y',h4⟩:=zJJ u0 q b' ob (o'-ob) pX (by omega);rw[show ob+(o'-ob)=o' from by omega,h1]at h4;simp at h4;exact absurd ⟨h4.2.1,y',h4.2.2.symm⟩ h2
   ·rfl
  ·simp[yR,World.cell?,gI b' hb]
 have ew:Blk w w':=by
  intro b' cs' e' h1
  by_cases hb:b'=b
  ·subst hb
   rw[gK]at h1;simp at h1;obtain⟨rfl,rfl⟩:=h1;exact⟨_,eL,by simp;have:cs.toList.length=cs.size:=Kq ..;omega⟩
  ·exact⟨cs',by rw[gI b' hb];exact h1,rfl⟩
 generalize gn:G.st r q p=G'
 have ghd:∀y',G'.hd r (y'++q)=sHd G p y':=fun y'=>by rw[←gn];simp[Gh.st]
 have ghd':∀s z,¬(s=r∧q<:+z)→G'.hd s z=G.hd s z:=fun s z h=>by rw[←gn];simp only[Gh.st];rw[if_neg h]
 have gad:∀s z,¬(s=r∧q<:+z)→G'.ad s z=G.ad s z:=fun s z h=>by rw[←gn];simp only[Gh.st];rw[if_neg (fun h2=>h ⟨h2.1,h2.2.1⟩)]
 have gadf:∀y',p.tree.inT y'.reverse=io→G'.ad r (y'++q)=G.ad r (y'++q):=fun y' h=>by rw[←gn];simp only[Gh.st,zLa];rw[if_neg (by simp[h])]
 have gadm:∀s0 t y',p=.slot s0 t→t.inT y'.reverse=iq→G'.ad r (y'++q)=G.ad s0 y':=fun s0 t y' h1 h2=>by subst h1;rw[←gn];simp only[Gh.st,zLa,yU.tree];rw[if_pos];simp[h2]
 have glb:∀b' o' fl s z,G.lb b' o'=ik (fl,s,z)→zGx p q s z=im→G'.lb b' o'=ik (fl,s,z):=fun b' o' fl s z h1 h2=>by rw[←gn];simp[Gh.st,h1,h2]
 have glbm:∀b' o' fl s z z',G.lb b' o'=ik (fl,s,z)→zGx p q s z=ik z'→G'.lb b' o'=ik (fl,r,z'):=fun b' o' fl s z z' h1 h2=>by rw[←gn];simp[Gh.st,h1,h2]
 have gow:∀b' s z,G.ow b'=ik (s,z)→zGx p q s z=im→G'.ow b'=ik (s,z):=fun b' s z h1 h2=>by rw[←gn];simp[Gh.st,h1,h2]
 have gowm:∀b' s z z',G.ow b'=ik (s,z)→zGx p q s z=ik z'→G'.ow b'=ik (r,z'):=fun b' s z z' h1 h2=>by rw[←gn];simp[Gh.st,h1,h2]
 have ai:∀s z,(∀n,(s,n)∉(r,q.length)::sT [p])→zGx p q s z=im:=by
  intro s z h;cases p with
  |zero u=>rfl
  |slot s0 t=>
   simp only[zGx];rw[if_neg];intro h2;simp only[J3,beq_iff_eq]at h2;obtain⟨h3,rfl⟩:=h2;exact h 1 (by simp[sT,xV,h3])
 have pA:∀z,zGx p q r z=im:=by
  intro z;cases p with
  |zero u=>rfl
  |slot s0 t=>
   simp only[zGx];rw[if_neg];intro h2;simp only[J3,beq_iff_eq]at h2;obtain⟨h3,rfl⟩:=h2;have:=(L9.1 gW.dist).1;simp[xV,h3]at this
 have mp:∀s z,Off ((r,q.length)::sT [p]) s z→ ¬(s=r∧q<:+z):=by
  rintro s z h ⟨rfl,h2⟩
  have:=h q.length (by simp);have:=h2.length_le;omega
 have gx:qY ((r,q.length)::sT [p]) G w G' w':=by
  refine⟨fun s z h=>ghd' s z (mp s z h),fun s z h=>gad s z (mp s z h),fun b' o' fl s z _ h1 h2=>⟨glb b' o' fl s z h1 (ai s z h2),cv b' o' fl s z h1 ?_⟩,fun b' s z h1 h2=>gow b' s z h1 (ai s z h2),ew⟩
  rintro⟨rfl,_⟩
  exact h2 q.length (by simp)
 have bX:zCr Γ w b:=by obtain⟨y',h4⟩:=zJJ u0 q b ob 0 pX (by omega);exact hm.lb _ _ _ h4
 have gr:Mem Γ G' w':=by
  refine⟨fun s z=>?_,fun b' o' l hl=>?_,fun b' l hl=>?_,fun b' x' ej=>?_,fun b' h1 h2=>?_,by rw[gP];exact hm.sz,hm.bk.trans ew (by rw[←eI];rfl) (by rw[←eI];rfl)⟩
  ·by_cases h:s=r∧q<:+z
   ·obtain⟨rfl,y',rfl⟩:=h
    rw[ghd];unfold sHd;split
    ·exact hm.one _ _
    ·exact zBl _
   ·rw[ghd' s z h];exact hm.one s z
  ·have:∃l',G.lb b' o'=ik l':=by
    rw[←gn]at hl;simp only[Gh.st]at hl;split at hl
    ·exact⟨_,by assumption⟩
    ·cases hl
   obtain⟨l',bg⟩:=this;have:=hm.lb b' o' l' bg;exact⟨by rw[gP];exact this.1,this.2⟩
  ·have:∃l',G.ow b'=ik l':=by
    rw[←gn]at hl;simp only[Gh.st]at hl;split at hl
    ·exact⟨_,by assumption⟩
    ·cases hl
   obtain⟨l',bg⟩:=this;have:=hm.ow b' l' bg;exact⟨by rw[gP];exact this.1,this.2⟩
  ·have hb:b'≠b:=by rintro rfl;rw[bX.2.2]at ej;cases ej
   rw[gI b' hb];exact hm.st b' x' ej
  ·have hb:b'≠b:=by
    rintro rfl
    rcases bX.2.1 with h3|h3
    ·omega
    ·exact h2 h3
   rw[gI b' hb];exact hm.fr b' h1 h2
 have du:Upd G w G' w' r q:=by refine⟨fun z h=>ghd' r z (fun h2=>h h2.2),fun z h=>gad r z (fun h2=>h h2.2),fun b' o' fl z h1 h=>⟨glb b' o' fl r z h1 (pA z),cv b' o' fl r z h1 (fun h2=>h h2.2)⟩,fun b' z h1 _=>gow b' r z h1 (pA z),ew⟩
 have bL:R Γ.St G' w' r p.tree q:=by
  cases hp:p with
  |zero u=>
   refine zJH u q (gW.zero u (by simp[hp])) (fun z=>by rw[ghd];simp[sHd,hp])
  |slot s0 t=>
   obtain⟨h1,h2,h3⟩:=gW.slot s0 t (by simp[hp]);have fa:=(g9.ent s0 t h1).2.1
   by_cases pE:sS t=io
   ·have dB:s0≠r:=by
     rintro rfl
     have:=(L9.1 gW.dist).1;simp[hp,xV,pE]at this
    refine zKW t [] q h3 ⟨fun z=>by rw[ghd,Jd];simp[sHd,hp],fun z hz=>by rw[Jd];exact gadm s0 t z hp hz,fun b' o' fl z _ h4=>?_,fun b' z h4=>?_,ew⟩ (xD.mono (fun _ _=>False.elim) t h2) fa
    ·rw[Jd]at h4
     exact⟨glbm b' o' fl s0 z _ h4 (by simp[zGx,hp,pE]),cv b' o' fl s0 z h4 (fun h5=>dB h5.1)⟩
    ·rw[Jd]at h4
     exact gowm b' s0 z _ h4 (by simp[zGx,hp,pE])
   ·have hh:G'.hd r q=G.hd s0 []:=by have:=ghd [];rw[Jx]at this;rw[this];simp[sHd,hp]
    cases t<;>simp[sS]at pE<;>simp only[R,yU.tree]at fa ⊢ <;>rw[hh]<;>exact fa
 have pf:vals G' r p.tree q=qP G p:=by
  cases hp:p with
  |zero u=>exact zFw u q (gW.zero u (by simp[hp])) (fun z=>by rw[ghd];simp[sHd,hp])
  |slot s0 t=>exact zAM t [] q (fun z=>by rw[ghd];simp[sHd,hp])
 have ax:∀b' o',Loc G w r u0 q b' o'→Loc G' w' r p.tree q b' o':=by
  intro b' o' h1;have h2:b'=b∧o'=ob:=by have:=(zBF h1).symm.trans fe;simp at this;exact this
  obtain⟨rfl,rfl⟩:=h2;refine zR9 p.tree u0 q b' o' fW (fun y' h=>gadf y' h) (fun b2 o2 y' h=>glb b2 o2 iq r _ h (pA _)) (fun j v hv=>?_) h1;rw[pf]at hv;have hj:=(Jn.1 hv).1;have pz:(qP G p).length=u0.size:=by rw[←hc,gE]
  rw[fC,if_pos ⟨by omega,by omega⟩,show o'+j-o'=j from by omega];exact hv
 have ac:R Γ.St G' w' r (tr.set q.reverse p.tree) []:=by
  have cN:rp q.reverse []=q:=by simp[rp]
  refine zGb q.reverse tr p.tree u0 [] (by rw[cN];exact du) e4 hg a6 (xD.mono (fun _ _=>False.elim) tr (tp .any).2) (by rw[cN];exact ax) (by rw[cN];exact bL)
 have gB:=run_storeCells_at P b ob et (a.eval y).cells.toList 0 cs w gK (by omega) gA;simp only[Gv]at gB;rw[eI]at gB;refine⟨w',?_,G',vL g9 rfl gx gr ?_ ?_⟩
 ·have dx:(a.eval y).cells.size=ti.size:=by rw[cY,gy]
  simp[execOp,ho,bA,fe,Instr.storeAt,sD,storeVar,sizeOf,typeInfo,hi,dx,gB]
 ·intro s hs
  simp only[Wr.find]at hs;split at hs
  ·cases hs
  ·rename_i gj
   refine⟨fun n hn=>?_,rfl⟩;simp only[J8,Jao.injEq]at hn;rcases hn with⟨h1,_⟩|hn
   ·exact gj h1.symm
   ·cases p with
    |zero u=>simp[sT,xV]at hn
    |slot s0 t=>
     by_cases pE:sS t=io
     ·simp[sT,xV,pE]at hn
      simp[sWr,pE,Wr.find,hn.1.symm]at hs
     ·simp[sT,xV,pE]at hn
 ·intro s t hs
  simp only[Wr.find]at hs;split at hs
  ·rename_i he
   subst he;simp at hs;subst hs;refine⟨?_,ac,Top.of_clean _ (jY _ _ _ (tp .any).2 ?_)⟩
   ·rw[e3,xS (tp p.tree).1,xS aY]
    congr 1
    exact(ghd' r [] (fun h=>ag (by simpa using h.2))).symm
   ·cases p with
    |zero u=>exact(zBm u (gW.zero u (by simp))).1
    |slot s0 t=>exact(gW.slot s0 t (by simp)).2.1
  ·rename_i gj
   cases hp:p with
   |zero u=>simp[sWr,hp,Wr.find]at hs
   |slot s0 t0=>
    by_cases pE:sS t0=io
    ·simp only[sWr,hp,pE,if_true,Wr.find]at hs
     split at hs
     ·rename_i he
      subst he;simp at hs;subst hs;obtain⟨h1,h2,h3⟩:=gW.slot s0 t0 (by simp[hp]);refine zNh (G:=G) (g9.ent s0 t0 h1).1 (by rintro xs rfl;simp[T.okTup]at h3) (fun z=>ghd' s0 z (fun h=>gj h.1.symm)) (fun z=>by rw[ghd];simp[sHd,hp]) (by rw[hp]at bL;exact bL)
     ·cases hs
    ·simp[sWr,hp,pE,Wr.find]at hs
theorem zLb(T':TypeId)(ti:TypeInfo)(x y:Operand)(r:Nat)(q:List Nat)(tr u0:T)(p:yU)(ho:o.op=.store T' x y)(gk:o.dst=im)
  (hi:P.info? T'=ik ti)(gy:ti.size=p.tree.size)(py:0<ti.size)(hx:opT E x=ik (.addr r q))(hr:E r=ik tr)(aY:tr.single=io)(hg:tr.get q.reverse=ik u0)(hl:tr.locd q.reverse=io)
  (fW:vJ p.tree u0=io)(hy:zAa E y p)(gW:tT E r [p]):
  wN P Γ o E (E.app ((r,ik (tr.set q.reverse p.tree))::sWr r q p) ((r,q.length)::sT [p])):=
 by grind[zFz,zAN.addr]
end
end Go.Ab

namespace Go.Ab
open Go
section
variable {G G':Gh}{s:Nat}
theorem zNi(xs:List T):∀(p:List Nat)(j:Nat),(∀k,j≤k→ ∀z,G'.hd s (z++(k::p))=G.hd s (z++(k::p)))→yH G' s xs p j=yH G s xs p j:=by
 induction xs with
 |nil=>grind[yH]
 |cons z zs ih=>
  intro p j h;simp only[yH];rw[zAM z (j::p) (j::p) (h j (Jg _)),ih p (j+1) (by grind)]
theorem zPV(xs:List T):∀(p:List Nat)(j i:Nat)(x y:T),xs[i]? =ik x→(∀k,k≠j+i→ ∀z,G'.hd s (z++(k::p))=G.hd s (z++(k::p)))→
  vals G' s y ((j+i)::p)=vals G s x ((j+i)::p)→yH G' s (xs.set i y) p j=yH G s xs p j:=by
 induction xs with
 |nil=>simp
 |cons z zs ih=>
  intro p j i x y h hz hy;cases i with
  |zero=>
   grind[yH,zNi]
  |succ i=>
   simp only[La,yH];rw[zAM z (j::p) (j::p) (hz j (by omega)),ih p (j+1) i x y (by grind) (by grind) (by grind)]
theorem zLc:(f:List Nat)→ ∀(t u u0:T)(p:List Nat),t.get f=ik u0→u0.single=io→u.single=io→(∀z,(rp f p<:+z→z=rp f p)→G'.hd s z=G.hd s z)→vals G' s (t.set f u) p=vals G s t p
 | [],t,u,u0,p,hg,h0,h1,hh=>by simp[T.get]at hg;subst hg;have:G'.hd s p=G.hd s p:=hh p (by simp[rp]);simp only[T.set];cases t<;>simp[T.single]at h0<;>cases u<;>simp[T.single]at h1<;>simp[vals,this]
 |i::f,t,u,u0,p,hg,h0,h1,hh=>by
  rw[zBD]at hh;have hp:G'.hd s p=G.hd s p:=by grind[kG]
  cases t with
  |agg xs=>
   simp only[T.get]at hg;cases hx:xs[i]? with
   |none=>grind
   |some x=>
    rw[hx]at hg;simp only[T.set,hx,vals];refine zPV xs p 0 i x _ hx (by grind[jV]) ?_;rw[Jc];exact zLc f x u u0 (i::p) hg h0 h1 hh
  |tup xs=>
   grind[T.set,vals]
  |sl k xs=>grind[T.set,vals]
  |ptr t=>grind[T.set,vals]
  |_=>grind[T.get]
theorem zLd(f:List Nat)(t u u0:T)(p:List Nat)(hg:t.get f=ik u0)(h0:u0.single=io)(h1:u.single=io)(hh:∀z,(rp f p<:+z→z=rp f p)→G'.hd s z=G.hd s z)(ef:∀xs,t≠.tup xs):
  sQ G' s (t.set f u) p=sQ G s t p:=by
 have h:=zLc f t u u0 p hg h0 h1 hh;cases f with
 |nil=>
  simp[T.get]at hg;subst hg;have:G'.hd s p=G.hd s p:=hh p (by simp[rp]);simp only[T.set];cases t<;>simp[T.single]at h0<;>cases u<;>simp[T.single]at h1<;>simp[sQ,this]
 |cons i f=>
  rw[zBD]at hh;have hp:G'.hd s p=G.hd s p:=by grind[kG]
  cases t with
  |agg xs=>
   grind[T.set,vals,sQ]
  |tup xs=>grind
  |sl k xs=>grind[T.set,sQ]
  |ptr t=>grind[T.set,sQ]
  |_=>grind[T.get]
theorem zPW(xs:List T):∀(p:List Nat)(j:Nat),(∀k,j≤k→ ∀z,G'.hd s (z++(k::p))=G.hd s (z++(k::p)))→jP G' s xs p j=jP G s xs p j:=by
 induction xs with
 |nil=>grind[jP]
 |cons z zs ih=>
  intro p j h;simp only[jP];rw[zBE z (j::p) (j::p) (h j (Jg _)),ih p (j+1) (by grind)]
theorem zRA(xs:List T):∀(p:List Nat)(j i:Nat)(x y:T),xs[i]? =ik x→(∀k,k≠j+i→ ∀z,G'.hd s (z++(k::p))=G.hd s (z++(k::p)))→
  sQ G' s y ((j+i)::p)=sQ G s x ((j+i)::p)→jP G' s (xs.set i y) p j=jP G s xs p j:=by
 induction xs with
 |nil=>simp
 |cons z zs ih=>
  intro p j i x y h hz hy;cases i with
  |zero=>
   grind[jP,zPW]
  |succ i=>
   simp only[La,jP];rw[zBE z (j::p) (j::p) (hz j (by omega)),ih p (j+1) i x y (by grind) (by grind) (by grind)]
def xM:T→Bool
 |.tup xs=>xs.all fun x=>match x with
  |.tup _=>iq
  |_=>io
 |_=>io
theorem zJK(f:List Nat)(t u u0:T)(p:List Nat)(hg:t.get f=ik u0)(h0:u0.single=io)(h1:u.single=io)(hh:∀z,(rp f p<:+z→z=rp f p)→G'.hd s z=G.hd s z)(mu:xM t=io):
  mkV G' s (t.set f u) p=mkV G s t p:=by
 by_cases ht:∃xs,t=.tup xs
 ·obtain⟨xs,rfl⟩:=ht
  cases f with
  |nil=>grind[T.get,T.single]
  |cons i f=>
   rw[zBD]at hh;simp only[T.get]at hg;cases hx:xs[i]? with
   |none=>grind
   |some x=>
    rw[hx]at hg;simp only[T.set,hx,mkV];rw[zRA xs p 0 i x _ hx (fun k hk z=>hh _ (fun h=>absurd h (jV (by omega) z)))];rw[Jc];refine zLd f x u u0 (i::p) hg h0 h1 hh ?_
    rintro ys rfl
    simp only[xM]at mu;have:=Kg.1 mu _ (Lu hx)
    grind
 ·have ef:∀xs,t≠.tup xs:=by grind
  rw[kN G s t p ef,←zLd f t u u0 p hg h0 h1 hh ef];refine kN G' s _ p ?_
  rintro xs fI
  cases f with
  |nil=>grind[T.set,T.single]
  |cons i f=>cases t<;>simp only[T.set]at fI<;>first|grind|grind|cases fI
end
theorem zE7:(f:List Nat)→ ∀(t u:T),Top t→yD u→Top (t.set f u)
 | [],t,u,_,hu=>by grind[T.set,Top.of_clean]
 |i::f,t,u,ht,hu=>by
  cases t with
  |sl k xs=>
   refine Top.of_clean _ (jY (i::f) _ u (by simpa only[Top,yD,xD]using ht) hu)
  |ptr t=>exact Top.of_clean _ (jY (i::f) _ u (by simpa only[Top,yD,xD]using ht) hu)
  |agg xs=>
   simp only[T.set];split
   ·rename_i x hx
    simp only[Top]at ht ⊢
    exact tops_set xs i _ ht (zE7 f x u (tops_get xs ht i x hx) hu)
   ·exact ht
  |tup xs=>
   simp only[T.set];split
   ·rename_i x hx
    simp only[Top]at ht ⊢
    exact tops_set xs i _ ht (zE7 f x u (tops_get xs ht i x hx) hu)
   ·exact ht
  |_=>grind[T.set]
where
 tops_set:(xs:List T)→ ∀(i:Nat)(y:T),vP xs→Top y→vP (xs.set i y)
  | [],_,_,_,_=>by simp[vP]
  |x::xs,0,y,h,hy=>by simp only[Lq,vP]at h ⊢;grind
  |x::xs,i+1,y,h,hy=>by simp only[La,vP]at h ⊢;exact⟨h.1,tops_set xs i y h.2 hy⟩
 tops_get:(xs:List T)→vP xs→ ∀(i:Nat)(x:T),xs[i]? =ik x→Top x
  | [],_,_,_,h=>by simp at h
  |y::ys,hk,i,x,h=>by
   simp only[vP]at hk;cases i with
   |zero=>grind
   |succ i=>exact tops_get ys hk.2 i x (by grind)
def Gh.tr(G:Gh)(d:Nat)(g:List Nat)(r:Nat)(p:List Nat):Gh where
 hd s z:=if s=d∧g<:+z then G.hd r (z.take (z.length-g.length)++p)else G.hd s z
 ad s z:=if s=d∧g<:+z∧z≠g then G.ad r (z.take (z.length-g.length)++p)else G.ad s z
 lb b o:=match G.lb b o with
  |some (fl,s,z)=>if s=r∧p<:+z∧(fl=io∨z≠p)then ik (fl,d,z.take (z.length-p.length)++g)else ik (fl,s,z)
  |none=>im
 ow b:=match G.ow b with
  |some (s,z)=>if s=r∧p<:+z then ik (d,z.take (z.length-p.length)++g)else ik (s,z)
  |none=>im
theorem zGf{t:T}(h:t.single=io):t.size=1:=by cases t<;>simp[T.single]at h<;>simp[T.size]
theorem zDX{Γ:Ctx}{E:Env}{G:Gh}{tmps:Array Value}{w:World}(g9:Rep Γ E G tmps w)(d:Nat)(g:List Nat)(r:Nat)(p:List Nat)(td tr u v0:T)(hd:E d=ik td)(hg:td.get g.reverse=ik v0)(tj:v0.single=io)(gQ:G.hd d g=G.hd r p)(hr:E r=ik tr)
  (hp:tr.get p.reverse=ik u)(hu:u.single=io)(eD:yD u)(hH:d≠r)(b6:td.okB [(d,g.length+1),(r,p.length+1)]=io)(pV:tr.okB [(d,g.length+1),(r,p.length+1)]=io)(fd:xM td=io)(fc:xM tr=io):
  Rep Γ (E.app [(d,ik (td.set g.reverse u)),(r,ik (if p=[]then .same d g else tr.set p.reverse .any))] [(d,g.length+1),(r,p.length+1)]) (G.tr d g r p) tmps w∧ ∀s z,¬(s=d∧g<:+z∧z≠g)→(G.tr d g r p).hd s z=G.hd s z:=by
 obtain⟨d1,d2,d3⟩:=g9.ent d td hd;obtain⟨r1,r2,r3⟩:=g9.ent r tr hr;have hm:=g9.mem;have bL:=(zA6 p.reverse tr u [] r2 hp).1;simp only[rp,Kj,Jd]at bL;have gK:Blk w w:=fun b cs e' h=>⟨cs,h,rfl⟩
 generalize gn:G.tr d g r p=G'
 have ghd:∀z,G'.hd d (z++g)=G.hd r (z++p):=fun z=>by rw[←gn];simp[Gh.tr]
 have ghd0:∀s z,¬(s=d∧g<:+z∧z≠g)→G'.hd s z=G.hd s z:=by
  intro s z h;rw[←gn];simp only[Gh.tr]
  by_cases h2:s=d∧g<:+z
  ·have h3:z=g:=by
    rcases Decidable.em (z=g)with e|e
    ·exact e
    ·exact absurd ⟨h2.1,h2.2,e⟩ h
   subst h3;rw[if_pos h2,h2.1];simpa using gQ.symm
  ·rw[if_neg h2]
 have gad0:∀s z,¬(s=d∧g<:+z∧z≠g)→G'.ad s z=G.ad s z:=fun s z h=>by rw[←gn];simp only[Gh.tr];rw[if_neg h]
 have gad:∀z,z≠[]→G'.ad d (z++g)=G.ad r (z++p):=fun z h=>by rw[←gn];simp only[Gh.tr];rw[if_pos (by simpa using h)];simp
 have glb0:∀b o fl s z,G.lb b o=ik (fl,s,z)→ ¬(s=r∧p<:+z∧(fl=io∨z≠p))→G'.lb b o=ik (fl,s,z):=fun b o fl s z h1 h2=>by rw[←gn];simp only[Gh.tr,h1];rw[if_neg h2]
 have glb:∀b o fl z,G.lb b o=ik (fl,r,z++p)→(fl=io∨z≠[])→G'.lb b o=ik (fl,d,z++g):=fun b o fl z h1 h2=>by rw[←gn];simp only[Gh.tr,h1];rw[if_pos (by simpa using h2)];simp
 have gow0:∀b s z,G.ow b=ik (s,z)→ ¬(s=r∧p<:+z)→G'.ow b=ik (s,z):=fun b s z h1 h2=>by rw[←gn];simp only[Gh.tr,h1];rw[if_neg h2]
 have gow:∀b z,G.ow b=ik (r,z++p)→G'.ow b=ik (d,z++g):=fun b z h1=>by rw[←gn];simp only[Gh.tr,h1];rw[if_pos (by simp)];simp
 have gG:∀s z,Off [(d,g.length+1),(r,p.length+1)] s z→ ¬(s=d∧g<:+z∧z≠g):=by
  rintro s z h ⟨rfl,⟨y,rfl⟩,h3⟩
  have:=h (g.length+1) (by simp);have:y=[]:=Lm (by simp at this;omega);exact h3 (by simp[this])
 have gx:qY [(d,g.length+1),(r,p.length+1)] G w G' w:=by
  refine⟨fun s z h=>ghd0 s z (gG s z h),fun s z h=>gad0 s z (gG s z h),fun b o fl s z _ h1 h2=>⟨glb0 b o fl s z h1 ?_,rfl⟩,fun b s z h1 h2=>gow0 b s z h1 ?_,gK⟩
  ·rintro⟨rfl,_⟩;exact h2 (p.length+1) (by simp)
  ·rintro⟨rfl,_⟩;exact h2 (p.length+1) (by simp)
 have gr:Mem Γ G' w:=by
  refine⟨fun s z=>?_,fun b o l hl=>?_,fun b l hl=>?_,hm.st,hm.fr,hm.sz,hm.bk⟩
  ·rw[←gn]
   simp only[Gh.tr];split
   ·exact hm.one _ _
   ·exact hm.one _ _
  ·have:∃l',G.lb b o=ik l':=by
    rw[←gn]at hl;simp only[Gh.tr]at hl;split at hl
    ·exact⟨_,by assumption⟩
    ·cases hl
   obtain⟨l',bg⟩:=this;exact hm.lb b o l' bg
  ·have:∃l',G.ow b=ik l':=by
    rw[←gn]at hl;simp only[Gh.tr]at hl;split at hl
    ·exact⟨_,by assumption⟩
    ·cases hl
   obtain⟨l',bg⟩:=this;exact hm.ow b l' bg
 have cN:∀q:List Nat,rp q.reverse []=q:=fun q=>by simp[rp]
 have hud:R Γ.St G' w d u g:=by
  refine zAn (G:=G) (w:=w) (s:=r) (p:=p) ⟨⟨ghd,gad,fun b o f z hz _ hl=>⟨glb b o f z hl (.inr hz),rfl⟩,fun b z _ hl=>gow b z hl,gK⟩,fun b o _ hl=>⟨by simpa using glb b o io [] (by simpa using hl) (.inl rfl),rfl⟩,fun b hl=>by simpa using gow b [] (by simpa using hl)⟩ u
   (xD.mono (fun _ _=>False.elim) u eD) bL
 have tk:Upd G w G' w d g:=⟨fun z h=>ghd0 d z (fun h2=>h h2.2.1),fun z h=>gad0 d z (fun h2=>h h2.2.1),fun b o f z h1 _=>⟨glb0 b o f d z h1 (fun h2=>hH h2.1),rfl⟩,fun b z h1 _=>gow0 b d z h1 (fun h2=>hH h2.1),gK⟩;have ay:∀b o,Loc G w d v0 g b o→Loc G' w d u g b o:=by intro b o h1;obtain⟨h2,h3,h4⟩:=vD tj h1;have h5:G'.ad d g=⟨b,o,im⟩∧G'.lb b o=ik (iq,d,g)∧yR w b o=ik (G'.hd d g):=⟨(gad0 d g (fun h=>h.2.2 rfl)).trans h2,glb0 b o iq d g h3 (fun h=>hH h.1),by rw[h4,ghd0 d g (fun h=>h.2.2 rfl)]⟩;cases u<;>simp[T.single]at hu<;>simpa only[Loc]using h5
 have aS:R Γ.St G' w d (td.set g.reverse u) []:=
  zGb g.reverse td u v0 [] (by rw[cN];exact tk) d2 hg (by rw[zGf tj,zGf hu]) (gx.keepR (zAo td d3 b6)) (by rw[cN];exact ay) (by rw[cN];exact hud)
 have hVd:mkV G' d (td.set g.reverse u) []=mkV G d td []:=
  zJK g.reverse td u v0 [] hg tj hu (fun z hz=>ghd0 d z (fun h2=>h2.2.2 (by rw[cN]at hz;exact hz h2.2.1))) fd
 have hRr:p≠[]→R Γ.St G' w r (tr.set p.reverse .any) []:=by intro bO;refine zGb p.reverse tr .any u [] (by rw[cN];exact⟨fun z _=>ghd0 r z (fun h2=>hH h2.1.symm),fun z _=>gad0 r z (fun h2=>hH h2.1.symm),fun b o f z h1 h=>⟨glb0 b o f r z h1 (fun h2=>h h2.2.1),rfl⟩,fun b z h1 h=>gow0 b r z h1 (fun h2=>h h2.2),gK⟩) r2 hp (by cases u<;>simp[T.single]at hu<;>simp[T.size]) (gx.keepR (zAo tr r3 pV)) ?_ (by simp only[R]);rw[cN];intro b o h1;obtain⟨h2,h3,h4⟩:=vD hu h1;simp only[Loc];exact⟨(gad0 r p (fun h=>hH h.1.symm)).trans h2,glb0 b o iq r p h3 (by simp),by rw[h4,ghd0 r p (fun h=>hH h.1.symm)]⟩
 have hVr:p≠[]→mkV G' r (tr.set p.reverse .any) []=mkV G r tr []:=fun _=>
  zJK p.reverse tr .any u [] hp hu rfl (fun z _=>ghd0 r z (fun h2=>hH h2.1.symm)) fc
 refine⟨vL g9 rfl gx gr ?_ ?_,ghd0⟩
 ·intro s hs
  simp only[Wr.find]at hs;split at hs
  ·cases hs
  ·rename_i h1
   split at hs
   ·cases hs
   ·rename_i h2
    refine⟨fun n hn=>?_,rfl⟩;simp only[J8,Jao.injEq,Jau,or_false]at hn;rcases hn with⟨e,_⟩|⟨e,_⟩
    ·exact h1 e.symm
    ·exact h2 e.symm
 ·intro s t hs
  simp only[Wr.find]at hs;split at hs
  ·rename_i he
   subst he;simp at hs;subst hs;exact⟨by rw[d1,hVd],aS,zE7 _ _ _ d3 eD⟩
  ·split at hs
   ·rename_i he
    subst he;simp at hs
    by_cases bO:p=[]
    ·rw[if_pos bO]at hs
     subst hs;subst bO;simp[T.get]at hp;subst hp;refine⟨?_,?_,by simp[Top]⟩
     ·rw[r1,xS hu,xS rfl,ghd0 r [] (fun h=>hH h.1.symm)]
     ·simp only[R]
      rw[ghd0 r [] (fun h=>hH h.1.symm)];have:=ghd [];simpa using this.symm
    ·rw[if_neg bO]at hs
     subst hs;exact⟨by rw[r1,hVr bO],hRr bO,zE7 _ _ _ r3 (by simp[yD,xD])⟩
   ·cases hs
theorem zNj{Γ:Ctx}{E:Env}{a:Act}{w:World}(h:Sim Γ E a w)(d:Nat)(g:List Nat)(r:Nat)(p:List Nat)(td tr u:T)(hd:E d=ik td)(hg:td.get g.reverse=ik (.same r p))(hr:E r=ik tr)
  (hp:tr.get p.reverse=ik u)(hu:u.single=io)(eD:yD u)(hH:d≠r)(b6:td.okB [(d,g.length+1),(r,p.length+1)]=io)(pV:tr.okB [(d,g.length+1),(r,p.length+1)]=io)(fd:xM td=io)(fc:xM tr=io):
  Sim Γ (E.app [(d,ik (td.set g.reverse u)),(r,ik (if p=[]then .same d g else tr.set p.reverse .any))] [(d,g.length+1),(r,p.length+1)]) a w:=by
 obtain⟨gN,G,g9⟩:=h;have gQ:=(zA6 g.reverse td _ [] (g9.ent d td hd).2.1 hg).1;simp only[rp,Kj,Jd,R]at gQ;exact⟨gN,_,(zDX g9 d g r p td tr u _ hd hg rfl gQ hr hp hu eD hH b6 pV fd fc).1⟩
end Go.Ab

namespace Go.Ab
open Go
theorem zJL{St:Stb}{G:Gh}{w:World}{s:Nat}{k:Nat}:(xs:List T)→ ∀(p:List Nat)(j b o:Nat),(∀i x,xs[i]? =ik x→Loc G w s x ((j+i)::p) b (o+i*k)∧x.size=k∧R St G w s x ((j+i)::p))→RL St G w s xs p j b o k
 | [],_,_,_,_,_=>by grind[RL]
 |x::xs,p,j,b,o,h=>by
  obtain⟨h1,h2,h3⟩:=h 0 x (by simp);simp only[RL];refine⟨by grind,by omega,zJL xs p (j+1) b (o+k) (fun i y hy=>?_)⟩;have:=h (i+1) y (by grind)
  grind
theorem zA9{St:Stb}{G:Gh}{w:World}{s:Nat}{k:Nat}:(xs:List T)→ ∀(p:List Nat)(j b o:Nat),RL St G w s xs p j b o k→vK G w s xs p j b o
 | [],_,_,_,_,_=>by grind[vK]
 |x::xs,p,j,b,o,h=>by simp only[RL]at h;simp only[vK];exact⟨h.1.1,zA9 xs p (j+1) b (o+x.size) (by rw[h.1.2];exact h.2.2)⟩
theorem zBp{St:Stb}{G:Gh}{w:World}{s:Nat}{k:Nat}:(xs:List T)→ ∀(p:List Nat)(j b o:Nat),RL St G w s xs p j b o k→RF St G w s xs p j∧ ∀x∈xs,x.size=k
 | [],_,_,_,_,_=>by simp[RF]
 |x::xs,p,j,b,o,h=>by simp only[RL]at h;obtain⟨h1,h2⟩:=zBp xs p (j+1) b (o+k) h.2.2;exact⟨by grind[RF],by grind⟩
section
variable {G:Gh}{w:World}{G':Gh}{w':World}{s s':Nat}
mutual
theorem zGZ:(t:T)→ ∀(p p':List Nat)(b o:Nat),(∀z,G'.hd s' (z++p')=G.hd s (z++p))→(∀z,G'.ad s' (z++p')=G.ad s (z++p))→
  (∀b o z,G.lb b o=ik (iq,s,z++p)→G'.lb b o=ik (iq,s',z++p')∧yR w' b o=yR w b o)→Loc G w s t p b o→Loc G' w' s' t p' b o
 |.agg xs,p,p',b,o,hh,ha,hl,h=>by
  simp only[Loc]at h ⊢
  exact⟨by have:=ha [];grind,zIN xs p p' 0 b o hh ha hl h.2⟩
 |.any,p,p',b,o,hh,ha,hl,h|.lit _,p,p',b,o,hh,ha,hl,h|.ro _,p,p',b,o,hh,ha,hl,h|.same _ _,p,p',b,o,hh,ha,hl,h|.addr _ _,p,p',b,o,hh,ha,hl,h|.sub _ _ _ _ _,p,p',b,o,hh,ha,hl,h|.sl _ _,p,p',b,o,hh,ha,hl,h|.ptr _,p,p',b,o,hh,ha,hl,h=>by
  simp only[Loc]at h ⊢
  have h1:=hl b o [] (by grind)
  grind
 |.tup _,_,_,_,_,_,_,_,h=>by grind[Loc]
theorem zIN:(xs:List T)→ ∀(p p':List Nat)(j b o:Nat),(∀z,G'.hd s' (z++p')=G.hd s (z++p))→(∀z,G'.ad s' (z++p')=G.ad s (z++p))→
  (∀b o z,G.lb b o=ik (iq,s,z++p)→G'.lb b o=ik (iq,s',z++p')∧yR w' b o=yR w b o)→vK G w s xs p j b o→vK G' w' s' xs p' j b o
 | [],_,_,_,_,_,_,_,_,_=>by grind[vK]
 |x::xs,p,p',j,b,o,hh,ha,hl,h=>by
  simp only[vK]at h ⊢
  exact⟨zGZ x (j::p) (j::p') b o (fun z=>by have:=hh (z++[j]);grind) (fun z=>by have:=ha (z++[j]);grind) (fun b o z hz=>by have:=hl b o (z++[j]) (by grind);grind) h.1,
   zIN xs p p' (j+1) b _ hh ha hl h.2⟩
end
end
theorem zE8(G:Gh)(s:Nat):∀(xs us:List T)(p:List Nat)(j:Nat),yH G s (xs++us) p j=yH G s xs p j++yH G s us p (j+xs.length)
 | [],us,p,j=>by rfl
 |x::xs,us,p,j=>by simp[yH,zE8 G s xs us p (j+1),Nat.add_assoc,Nat.add_comm 1]
theorem zE9:∀(xs us:List T),T.sizes (xs++us)=T.sizes xs+T.sizes us
 | [],us=>by simp[T.sizes]
 |x::xs,us=>by simp[T.sizes,zE9 xs us,Nat.add_assoc]
theorem zDB:∀(xs us:List T),yT xs=io→yT us=io→yT (xs++us)=io
 | [],us,_,h=>h
 |x::xs,us,h,h'=>by
  simp only[yT,J3,K4]at h ⊢
  exact⟨h.1,zDB xs us h.2 h'⟩
theorem zDC:∀(xs us:List T),xU xs→xU us→xU (xs++us)
 | [],us,_,h=>h
 |x::xs,us,h,h'=>by
  simp only[xU,xZ,K4]at h ⊢
  exact⟨h.1,zDC xs us h.2 h'⟩
theorem kI{St:Stb}{G:Gh}{w:World}{s:Nat}{k:Nat}:(xs:List T)→ ∀(p:List Nat)(j b o:Nat),vK G w s xs p j b o→yT xs=io
 | [],_,_,_,_,_=>rfl
 |x::xs,p,j,b,o,h=>by simp only[vK]at h;simp only[yT,J3];exact⟨one x (j::p) b o h.1,kI (St:=St) (k:=k) xs p (j+1) b _ h.2⟩
where
 one:(t:T)→ ∀(p:List Nat)(b o:Nat),Loc G w s t p b o→t.okTup=io
  |.agg xs,p,b,o,h=>by simp only[Loc]at h;simp only[T.okTup];exact kI (St:=St) (k:=k) xs p 0 b o h.2
  |.tup _,_,_,_,h=>by grind[Loc]
  |.any,_,_,_,_|.lit _,_,_,_,_|.ro _,_,_,_,_|.same _ _,_,_,_,_|.addr _ _,_,_,_,_|.sub _ _ _ _ _,_,_,_,_|.sl _ _,_,_,_,_|.ptr _,_,_,_,_=>rfl
section
variable {P:Program}
structure zHa (P:Program) (t2:TypeId) (e:TypeId) (ti:TypeInfo) (xv:Value) (m:Nat) (nv:List Value) (w:World):Prop where
 arg:(∃e2 xa c,P.underlying t2=ik (.slice e2)∧xv=.slice xa m c∧ ∀w2:World,w2.heap=w.heap→(Builtin.firstCells ti.size m (.slice xa m c)).run P w2=.ok nv.toArray w2)∨
  ∃k2 k3 z,P.underlying t2=ik (.int k2)∧xv=.int k3 (m:Int)∧ti.zero=ik z∧nv.toArray=Builtin.zeroCells z.cells m∧m*ti.bytes≤2 ^ 47∧z.cells.size=ti.size
theorem zEA{t t2 ty e:TypeId}{ti:TypeInfo}{xv:Value}{m:Nat}{nv:List Value}{w w':World}(ht:P.underlying t=ik (.slice e))(hi:P.info? e=ik ti)
  (hx:zHa P t2 e ti xv m nv w)(hm:m≤68719476736){base:Option Addr}{n cap:Nat}(ee:n+m≤cap)
  (gB:(if let ik a:=base then storeCells (a.add (n*ti.size)) nv else pure ():Sem Unit).run P w=.ok () w'):
  (Builtin.append_ #[t,t2] ty #[.slice base n cap,xv]).run P w=.ok (.slice base (n+m) cap) w':=by
 rcases hx.arg with⟨e2,xa,c,h1,rfl,h2⟩|⟨k2,k3,z,h1,rfl,h2,h3,h4,h5⟩
 ·have h2:=h2 w rfl
  cases base with
  |none=>
   simp at gB;subst gB;simp[Builtin.append_,run_underlying ht,run_underlying h1,sizeOf,typeInfo,hi,Builtin.lenOf,ee,h2]
  |some a=>
   simp only at gB;simp[Builtin.append_,run_underlying ht,run_underlying h1,sizeOf,typeInfo,hi,Builtin.lenOf,ee,h2,gB]
 ·have mB:IntKind.i64.wrap (m:Int)=m:=by grind[IntKind.wrap_i64]
  have bF:¬(281474976710656<(m:Int)*(ti.bytes:Int)):=by omega
  have cm:¬((m:Int)<0):=by omega
  have d7:nv=(Builtin.zeroCells z.cells m).toList:=by rw[←h3]
  by_cases hz:m*ti.size=0
  ·have b7:nv=[]:=by
    grind[Builtin.zeroCells]
   subst b7;cases base with
   |none=>
    simp at gB;subst gB;simp[Builtin.append_,run_underlying ht,run_underlying h1,sizeOf,typeInfo,hi,asInt,asIntOf,mB,bF,cm,ee,hz]
   |some a=>
    simp only[storeCells,Sem.run_pure]at gB;cases gB;simp[Builtin.append_,run_underlying ht,run_underlying h1,sizeOf,typeInfo,hi,asInt,asIntOf,mB,bF,cm,ee,hz,storeCells]
  ·cases base with
   |none=>
    simp at gB;subst gB;simp[Builtin.append_,run_underlying ht,run_underlying h1,sizeOf,typeInfo,zeroValue,hi,h2,asInt,asIntOf,mB,bF,cm,ee]
   |some a=>
    simp only[d7]at gB;simp[Builtin.append_,run_underlying ht,run_underlying h1,sizeOf,typeInfo,zeroValue,hi,h2,asInt,asIntOf,mB,bF,cm,ee,hz,gB]
theorem zJM{t t2 ty e:TypeId}{ti:TypeInfo}{z xv:Value}{m:Nat}{nv olds:List Value}{w:World}(ht:P.underlying t=ik (.slice e))(hi:P.info? e=ik ti)(hz:ti.zero=ik z)
  (hx:zHa P t2 e ti xv m nv w){base:Option Addr}{n cap:Nat}(gZ:cap<n+m)(p8:n+m≤68719476736)(hb:ti.bytes≤2048)
  (gI:∀w2:World,w2.heap=w.heap→(Builtin.firstCells ti.size n (.slice base n cap)).run P w2=.ok olds.toArray w2):
  (Builtin.append_ #[t,t2] ty #[.slice base n cap,xv]).run P w=.ok (.slice (ik ⟨w.heap.size,0,im⟩) (n+m) (grownCap w (n+m) cap e))
    (w.drew.alloc (.cells ((olds++nv).toArray++Builtin.zeroCells z.cells (grownCap w (n+m) cap e-(n+m))) e)):=by
 have hn:¬(n+m≤cap):=by omega
 have bD:¬(9223372036854775807<((n:Int)+(m:Int))):=by omega
 have uz:=growslice_fits (need:=n+m) (old:=cap) (bytes:=ti.bytes) gZ (Hc (Jy p8 hb) (by decide));have bE:¬(281474976710656<Builtin.nextslicecap (n+m) cap*ti.bytes):=by omega
 have ho:=gI w.drew rfl;rcases hx.arg with⟨e2,xa,c,h1,rfl,h2⟩|⟨k2,k3,z',h1,rfl,h2,h3,h4,h5⟩
 ·have h2:=h2 w.drew rfl
  simp[Builtin.append_,run_underlying ht,run_underlying h1,sizeOf,typeInfo,zeroValue,hi,hz,Builtin.lenOf,hn,bD,bE,Question.forced,h2,ho,newRow,grownCap]
  grind
 ·have mB:IntKind.i64.wrap (m:Int)=m:=by grind[IntKind.wrap_i64]
  have bF:¬(281474976710656<(m:Int)*(ti.bytes:Int)):=by omega
  have cm:¬((m:Int)<0):=by omega
  have d7:nv=(Builtin.zeroCells z'.cells m).toList:=by rw[←h3]
  rw[hz]at h2;simp at h2;subst h2
  by_cases mz:m*ti.size=0
  ·have b7:nv=[]:=by
    grind[Builtin.zeroCells]
   subst b7;simp[Builtin.append_,run_underlying ht,run_underlying h1,sizeOf,typeInfo,zeroValue,hi,hz,asInt,asIntOf,mB,bF,cm,hn,bD,bE,Question.forced,mz,ho,newRow,grownCap]
  ·simp[Builtin.append_,run_underlying ht,run_underlying h1,sizeOf,typeInfo,zeroValue,hi,hz,asInt,asIntOf,mB,bF,cm,hn,bD,bE,Question.forced,mz,ho,newRow,grownCap,←h3]
   grind
end
def zDY(s0:Nat)(y:Option Nat)(n:Nat)(s:Nat)(z:List Nat):Option (List Nat):=
 if s=s0 then ik z else if y=ik s then(match z.getLast? with
  |some j=>ik (z.dropLast++[n+j])
  |none=>im)else im
def Gh.ip(G:Gh)(d s0:Nat)(y:Option Nat)(b n k:Nat)(us:List T)(f2:Nat→List Nat→Value)(hH:Value):Gh where
 hd s z:=if s=d then(match z.getLast? with
  |some i=>if i<n then G.hd s0 z else f2 (i-n) z.dropLast
  |none=>hH)else G.hd s z
 ad s z:=if s=d then(match z.getLast? with
  |some i=>if i<n then G.ad s0 z else if(T.agg us).inT ((i-n)::z.dropLast.reverse)then⟨b,n*k+(T.agg us).offT ((i-n)::z.dropLast.reverse),im⟩else(match y with
   |some y=>G.ad y (z.dropLast++[i-n])
   |none=>default)
  |none=>default)else G.ad s z
 lb b' o:=if b'=b∧n*k≤o∧o<n*k+us.length*k then(match zCu us [] n (o-n*k)with
  |some p=>ik (iq,d,p)
  |none=>im)else match G.lb b' o with
  |some (fl,s,z)=>(match zDY s0 y n s z with
   |some z'=>ik (fl,d,z')
   |none=>ik (fl,s,z))
  |none=>im
 ow b':=match G.ow b' with
  |some (s,z)=>(match zDY s0 y n s z with
   |some z'=>ik (d,z')
   |none=>ik (s,z))
  |none=>im
def aWr(d s0:Nat)(y:Option Nat)(k:Nat)(ts:List T):Wr:=(d,ik (.sl k ts))::(s0,ik .any)::(match y with
 |some y=>[(y,ik .any)]
 |none=>[])
def zBb(d s0:Nat)(y:Option Nat):Chg:=(d,0)::(s0,1)::(match y with
 |some y=>[(y,1)]
 |none=>[])
structure zHb (Γ:Ctx) (E:Env) (G:Gh) (d s0:Nat) (y:Option Nat) (k n:Nat) (us:List T) (f2:Nat→List Nat→Value) (nv:List Value):Prop where
 size:∀u∈us,u.size=k
 tup:yT us=io
 clean:xU us
 one:∀j z,(f2 j z).oneCell'=io
 len:nv.length=us.length*k
 slot:∀y',y=ik y'→y'≠d∧y'≠s0∧E y'=ik (.sl k us)∧ ∀j z,f2 j z=G.hd y' (z++[j])
 none:y=im→ ∀(j:Nat) u,us[j]? =ik u→ ∀(G2:Gh)(w2:World),(∀z,G2.hd d (z++[n+j])=f2 j z)→R Γ.St G2 w2 d u [n+j]
 vals:∀(G2:Gh),(∀j z,G2.hd d (z++[n+j])=f2 j z)→ ∀(o:Nat)(v:Value),(yH G2 d us [] n)[o]? =ik v→nv[o]? =ik v
theorem zLe{G G2:Gh}{s d:Nat}:(xs:List T)→ ∀(p:List Nat)(j:Nat),(∀i,i<xs.length→ ∀z,G2.hd d (z++((j+i)::p))=G.hd s (z++((j+i)::p)))→yH G2 d xs p j=yH G s xs p j
 | [],_,_,_=>by rfl
 |x::xs,p,j,h=>by
  simp only[yH];have ih:yH G2 d xs p (j+1)=yH G s xs p (j+1):=zLe xs p (j+1) (fun i hi z=>by
   rw[show j+1+i=j+(i+1)from by omega]
   simp_all)
  rw[zAM x (j::p) (j::p) (by simpa using h 0 (by simp)),ih]
theorem zI2(z:List Nat):z=[]∨ ∃y i,z=y++[i]:=by
 rcases List.eq_nil_or_concat z with h|⟨y,i,h⟩
 all_goals grind
section
variable {P:Program}{Γ:Ctx}{E:Env}{d:Nat}
theorem zBI{G:Gh}{a:Act}{w:World}(g9:Rep Γ E G a.tmps w)(hd:d<Γ.N){t t2 ty e:TypeId}{ti:TypeInfo}{z:Value}{k:Nat}(ht:P.underlying t=ik (.slice e))(hi:P.info? e=ik ti)(hz:ti.zero=ik z)
  (hk:ti.size=k)(_hk0:0<k)(fg:z.cells.size=k)(hb:ti.bytes≤2048){s0:Nat}{y:Option Nat}{xs us:List T}{f2:Nat→List Nat→Value}{nv:List Value}(ez:E s0=ik (.sl k xs))(fN:s0≠d)
  (hn:zHb Γ E G d s0 y k xs.length us f2 nv){xv:Value}(hx:zHa P t2 e ti xv us.length nv w)(gA:∀v∈nv,v.oneCell'=io)(p8:xs.length+us.length≤68719476736):
  ∃v w',(Builtin.append_ #[t,t2] ty #[G.hd s0 [],xv]).run P w=.ok v w'∧ ∃G',Rep Γ (E.app (aWr d s0 y k (xs++us)) (zBb d s0 y)) G' (a.tmps.setIfInBounds d v) w':=by
 have hm:=g9.mem;obtain⟨e1,e2,e3⟩:=g9.ent s0 _ ez;simp only[Top]at e3;simp only[R]at e2;have dy:T.sizes us=us.length*k:=wV us hn.size;have fin:∀(G':Gh)(w':World)(v:Value),qY (zBb d s0 y) G w G' w'→Mem Γ G' w'→G'.hd d []=v→R Γ.St G' w' d (.sl k (xs++us)) []→(∀s p,s≠d→G'.hd s p=G.hd s p)→
   Rep Γ (E.app (aWr d s0 y k (xs++us)) (zBb d s0 y)) G' (a.tmps.setIfInBounds d v) w':=by
  intro G' w' v gx gr i4 aS hother;refine vL g9 (by simp) gx gr ?_ ?_
  ·intro s hs
   have gj:s≠d:=by rintro rfl;simp[aWr,Wr.find]at hs
   have ao:s≠s0:=by rintro rfl;simp[aWr,Wr.find,gj.symm]at hs
   have hney:∀y',y=ik y'→s≠y':=by
    rintro y' rfl rfl
    grind[aWr,Wr.find]
   refine⟨fun n' hn'=>?_,by grind⟩;simp only[zBb,J8,Jao.injEq]at hn'
   grind
  ·intro s t' hs
   by_cases h1:s=d
   ·subst h1
    simp[aWr,Wr.find]at hs;subst hs;refine⟨?_,aS,by simp only[Top];exact zDC xs us e3 hn.clean⟩;rw[Jj];simp[g9.size,hd,mkV,i4]
   ·have h3:t'=.any∧(s=s0∨y=ik s):=by
     simp only[aWr,Wr.find]at hs;rw[if_neg (fun h=>h1 h.symm)]at hs
     grind[Wr.find]
    obtain⟨rfl,h3⟩:=h3;refine⟨?_,by grind[R],by simp[Top]⟩;rw[Jj];simp only[Ne.symm h1,if_false,mkV];rw[hother s [] h1];rcases h3 with rfl|h3
    ·exact e1
    ·obtain⟨_,_,h4,_⟩:=hn.slot s h3
     exact(g9.ent s _ h4).1
 have pB:∀s p,(∀n',(s,n')∉zBb d s0 y)→zDY s0 y xs.length s p=im:=by
  intro s p h;have h1:s≠s0:=fun e=>h 1 (by simp[zBb,e])
  grind[zBb,zDY]
 by_cases ee:∃a' c,G.hd s0 []=.slice a' xs.length c∧xs.length+us.length≤c
 ·
  obtain⟨a',c,hh,ee⟩:=ee;rcases e2 with⟨rfl,a1,h1⟩|⟨b,cap,cs,et,h1,h2,h3,h4,h5,h6,h7,h8⟩
  ·rw[h1]at hh
   simp at hh;obtain⟨rfl,rfl⟩:=hh;have fU:us=[]:=by grind
   subst fU;have d7:nv=[]:=Lm (by have:=hn.len;grind);subst d7;have gz:=zEA (P:=P) (t:=t) (ty:=ty) (w':=w) ht hi hx (by simp) (base:=a1) (n:=0) (cap:=0) (by simp) (by cases a1<;>rfl);refine⟨.slice a1 0 0,w,by grind,G.put d (fun _=>.slice a1 0 0),fin _ w _ ?_ (hm.put rfl d _ (fun _=>rfl)) (by rw[Gh.put_self]) (by simp[R,Gh.put]) (fun s p h=>G.put_other _ p h)⟩;have:=G.put_keep (w:=w) (w':=w) rfl d (fun _=>.slice a1 0 0);exact⟨fun s p h=>this.hd s p (fun n hn=>h n (by simp_all[zBb])),fun s p h=>rfl,fun b o f s p h0 h1 h2=>this.lb b o f s p h0 h1 (fun n hn=>h2 n (by simp_all[zBb])),fun b s p h1 h2=>this.ow b s p h1 (fun n hn=>h2 n (by simp_all[zBb])),this.blk⟩
  ·rw[h1]at hh
   simp at hh;obtain⟨rfl,rfl⟩:=hh;have ui:us.length*k+xs.length*k≤cap*k:=by rw[←Um];exact K9 _ (by omega)
   have hmk:us.length*k+xs.length*k≤cs.size:=Hc ui h5
   generalize eI:w.setRow b (cs.toList.take (xs.length*k)++nv++cs.toList.drop (xs.length*k+nv.length)).toArray=w'
   have eL:w'.heap[b]? =ik (.cells (cs.toList.take (xs.length*k)++nv++cs.toList.drop (xs.length*k+nv.length)).toArray et (0,0)):=by grind[setRow_heap]
   have gI:∀b',b'≠b→w'.heap[b']? =w.heap[b']?:=by grind[setRow_other]
   have gP:w'.heap.size=w.heap.size:=by grind[size_setRow]
   have hcsl:cs.toList.length=cs.size:=rfl;have pD:=hn.len;have fC:∀i,yR w' b i=if xs.length*k≤i∧i<xs.length*k+us.length*k then nv[i-xs.length*k]? else yR w b i:=by
    intro i;simp only[yR,World.cell?,eL,h2,Us,Hu,if_false];rw[←Kt,←Kt (xs:=cs)];simp only[]
    by_cases g1:i<xs.length*k
    ·rw[if_neg (by omega),Jb,Jv (by simp;omega),U7 g1]
    ·by_cases g2:i<xs.length*k+us.length*k
     ·rw[if_pos ⟨by omega,g2⟩,Jb,J9 (by simp;omega),Jv (by simp;omega)]
      grind
     ·rw[if_neg (by omega),Jb,J9 (by simp;omega),J9 (by simp;omega),Lz]
      congr 1;simp;omega
   have gT:∀b' o fl s p,G.lb b' o=ik (fl,s,p)→(fl,s,p)≠(io,s0,[])→ ¬(b'=b∧xs.length*k≤o∧o<xs.length*k+us.length*k):=by grind
   have fb:∀b' o,¬(b'=b∧xs.length*k≤o∧o<xs.length*k+us.length*k)→yR w' b' o=yR w b' o:=by
    intro b' o g
    by_cases eT:b'=b
    ·grind
    grind[yR,World.cell?]
   have uf:((cs.toList.take (xs.length*k)++nv++cs.toList.drop (xs.length*k+nv.length)).toArray).size=cs.size:=by simp;omega
   have ew:Blk w w':=by
    intro b' cs' e' g1
    grind
   generalize gn:G.ip d s0 y b xs.length k us f2 (.slice (ik ⟨b,0,im⟩) (xs.length+us.length) cap)=G'
   have ghdr:G'.hd d []=.slice (ik ⟨b,0,im⟩) (xs.length+us.length) cap:=by rw[←gn];simp[Gh.ip]
   have ghd1:∀i z,i<xs.length→G'.hd d (z++[i])=G.hd s0 (z++[i]):=fun i z g=>by rw[←gn];simp[Gh.ip,g]
   have ghd2:∀j z,G'.hd d (z++[xs.length+j])=f2 j z:=fun j z=>by rw[←gn];simp[Gh.ip,show¬xs.length+j<xs.length from by omega]
   have ghd0:∀s z,s≠d→G'.hd s z=G.hd s z:=fun s z g=>by rw[←gn];simp[Gh.ip,g]
   have gad0:∀s z,s≠d→G'.ad s z=G.ad s z:=fun s z g=>by rw[←gn];simp[Gh.ip,g]
   have gad1:∀i z,i<xs.length→G'.ad d (z++[i])=G.ad s0 (z++[i]):=fun i z g=>by rw[←gn];simp[Gh.ip,g]
   have gad2:∀j f,(T.agg us).inT (j::f)=io→G'.ad d (f.reverse++[xs.length+j])=⟨b,xs.length*k+(T.agg us).offT (j::f),im⟩:=fun j f g=>by rw[←gn];simp[Gh.ip,g,show¬xs.length+j<xs.length from by omega]
   have gad3:∀y' j z,y=ik y'→(T.agg us).inT (j::z.reverse)=iq→G'.ad d (z++[xs.length+j])=G.ad y' (z++[j]):=fun y' j z g1 g2=>by rw[←gn];simp[Gh.ip,g1,g2,show¬xs.length+j<xs.length from by omega]
   have glb2:∀i p,i<us.length*k→zCu us [] xs.length i=ik p→G'.lb b (xs.length*k+i)=ik (iq,d,p):=fun i p g1 g2=>by rw[←gn];simp only[Gh.ip];rw[if_pos (by simp;omega),show xs.length*k+i-xs.length*k=i from by omega,g2]
   have glb0:∀b' o fl s p,G.lb b' o=ik (fl,s,p)→ ¬(b'=b∧xs.length*k≤o∧o<xs.length*k+us.length*k)→zDY s0 y xs.length s p=im→G'.lb b' o=ik (fl,s,p):=fun b' o fl s p g1 g2 g3=>by rw[←gn];simp only[Gh.ip];rw[if_neg g2,g1];simp[g3]
   have glb1:∀b' o fl s p p',G.lb b' o=ik (fl,s,p)→ ¬(b'=b∧xs.length*k≤o∧o<xs.length*k+us.length*k)→zDY s0 y xs.length s p=ik p'→G'.lb b' o=ik (fl,d,p'):=fun b' o fl s p p' g1 g2 g3=>by rw[←gn];simp only[Gh.ip];rw[if_neg g2,g1];simp[g3]
   have gow0:∀b' s p,G.ow b'=ik (s,p)→zDY s0 y xs.length s p=im→G'.ow b'=ik (s,p):=fun b' s p g1 g2=>by rw[←gn];simp[Gh.ip,g1,g2]
   have gow1:∀b' s p p',G.ow b'=ik (s,p)→zDY s0 y xs.length s p=ik p'→G'.ow b'=ik (d,p'):=fun b' s p p' g1 g2=>by rw[←gn];simp[Gh.ip,g1,g2]
   have fQ:∀p,zDY s0 y xs.length s0 p=ik p:=fun p=>by simp[zDY]
   have mn:∀y' z j,y=ik y'→y'≠s0→zDY s0 y xs.length y' (z++[j])=ik (z++[xs.length+j]):=fun y' z j g1 g2=>by simp[zDY,g1,g2]
   have gj:∀s p,Off (zBb d s0 y) s p→s≠d:=fun s p h e=>absurd (h 0 (by simp[zBb,e])) (by simp)
   have gx:qY (zBb d s0 y) G w G' w':=by
    refine⟨fun s p h=>ghd0 s p (gj s p h),fun s p h=>gad0 s p (gj s p h),fun b' o fl s p _ g1 g2=>?_,fun b' s p g1 g2=>gow0 b' s p g1 (pB s p g2),ew⟩;have hs:s≠s0:=fun e=>g2 1 (by simp[zBb,e])
    have g3:=gT b' o fl s p g1 (by simp[hs]);exact⟨glb0 b' o fl s p g1 g3 (pB s p g2),fb b' o g3⟩
   have bX:=hm.ow b _ h6;have gr:Mem Γ G' w':=by
    refine⟨fun s z=>?_,fun b' o' l hl=>?_,fun b' l hl=>?_,fun b' x' ej=>?_,fun b' g1 g2=>?_,by rw[gP];exact hm.sz,hm.bk.trans ew (by rw[←eI];rfl) (by rw[←eI];rfl)⟩
    ·by_cases g:s=d
     ·subst g
      rcases zI2 z with rfl|⟨z',i,rfl⟩
      ·rw[ghdr];rfl
      ·by_cases g1:i<xs.length
       ·rw[ghd1 i z' g1];exact hm.one _ _
       ·have:=ghd2 (i-xs.length) z'
        rw[show xs.length+(i-xs.length)=i from by omega]at this;rw[this];exact hn.one _ _
     ·rw[ghd0 s z g];exact hm.one _ _
    ·have:zCr Γ w b':=by
      rw[←gn]at hl;simp only[Gh.ip]at hl;split at hl
      ·rename_i g;rw[g.1];exact bX
      ·split at hl
       ·rename_i g;exact hm.lb _ _ _ g
       ·cases hl
     exact⟨by rw[gP];exact this.1,this.2⟩
    ·have:zCr Γ w b':=by
      rw[←gn]at hl;simp only[Gh.ip]at hl;split at hl
      ·rename_i g;exact hm.ow _ _ g
      ·cases hl
     exact⟨by rw[gP];exact this.1,this.2⟩
    ·have eT:b'≠b:=by rintro rfl;rw[bX.2.2]at ej;cases ej
     rw[gI b' eT];exact hm.st b' x' ej
    ·have eT:b'≠b:=by
      rintro rfl
      rcases bX.2.1 with g3|g3
      ·omega
      ·exact g2 g3
     rw[gI b' eT];exact hm.fr b' g1 g2
   have bc:vK G' w' d us [] xs.length b (xs.length*k):=by
    refine zG5 us [] xs.length b (xs.length*k) hn.tup (fun i x ej f hf=>?_) (fun i p' g1 g2=>glb2 i p' (by omega) g2) (fun i v hv=>?_)
    ·have:=gad2 i f (by simp only[T.inT,ej];exact hf)
     simpa[T.offT,ej]using this
    ·have g1:=hn.vals G' ghd2 i v hv
     have g2:=(Jn.1 g1).1;rw[fC,if_pos (by omega),show xs.length*k+i-xs.length*k=i from by omega];exact g1
   have aS:R Γ.St G' w' d (.sl k (xs++us)) []:=by
    simp only[R];rw[ghdr];refine .inr ⟨b,cap,_,et,by simp,eL,by simp;omega,h4,by omega,gow1 b s0 [] [] h6 (fQ []),?_,zJL _ _ _ _ _ (fun i x ej=>?_)⟩
    ·intro o g1 g2
     rw[J5,Um]at g1;exact glb1 b o io s0 [] [] (h7 o (by omega) g2) (by omega) (fQ [])
    ·rw[Kl]at ej
     simp only[Jc];split at ej
     ·rename_i gF
      obtain⟨g1,g2,g3⟩:=jU xs [] 0 b 0 k i x h8 ej;simp only[Jc]at g1 g3;have bQ:∀b' o fl z,G.lb b' o=ik (fl,s0,z++[i])→G'.lb b' o=ik (fl,d,z++[i])∧yR w' b' o=yR w b' o:=fun b' o fl z g=>by have g4:=gT b' o fl s0 _ g (by simp);exact⟨glb1 b' o fl s0 _ _ g g4 (fQ _),fb b' o g4⟩
      refine⟨zGZ x [i] [i] b _ (fun z=>ghd1 i z gF) (fun z=>gad1 i z gF) (fun b' o z g=>bQ b' o iq z g) g1,g2,?_⟩;refine zAn (G:=G) (w:=w) (s:=s0) (p:=[i]) ⟨⟨fun z=>ghd1 i z gF,fun z _=>gad1 i z gF,fun b' o f z _ _ g=>bQ b' o f z g,fun b' z _ g=>gow1 b' s0 _ _ g (fQ _),ew⟩,fun b' o _ g=>?_,fun b' g=>gow1 b' s0 _ _ g (fQ _)⟩ x (xD.mono (by simp) x (uQ xs e3 i x ej)) g3;have:=bQ b' o io [] (by simpa using g);simpa using this
     ·rename_i hge
      obtain⟨j,rfl⟩:∃j,i=xs.length+j:=⟨i-xs.length,by omega⟩;rw[show xs.length+j-xs.length=j from by omega]at ej;have g1:=zCs us [] xs.length b (xs.length*k) j x bc ej;rw[show T.sizes (us.take j)=j*k from by rw[wV _ (fun u hu=>hn.size u (List.mem_of_mem_take hu)),Jw,Hz (by have:=(Jn.1 ej).1;omega)],←Um]at g1
      refine⟨g1,hn.size x (Lu ej),?_⟩;cases hy:y with
      |none=>exact hn.none hy j x ej G' w' (fun z=>ghd2 j z)
      |some y'=>
       obtain⟨y1,y2,y3,y4⟩:=hn.slot y' hy;obtain⟨_,y5,_⟩:=g9.ent y' _ y3;simp only[R]at y5;rcases y5 with⟨rfl,_⟩|⟨b2,cap2,cs2,et2,_,_,_,_,_,_,_,y6⟩
       ·simp at ej
       ·obtain⟨_,_,y7⟩:=jU us [] 0 b2 0 k j x y6 ej
        simp only[Jc]at y7;refine zKW x [j] [xs.length+j] (zDg.okTups_get us hn.tup j x ej) ⟨fun z=>by rw[ghd2,y4],fun z g=>gad3 y' j z hy (by simp only[T.inT,ej];exact g),fun b' o fl z _ g=>?_,fun b' z g=>gow1 b' y' _ _ g (mn y' z j hy y2),ew⟩ (xD.mono (by simp) x (uQ us hn.clean j x ej)) y7;have g4:=gT b' o fl y' _ g (by simp[y2]);exact⟨glb1 b' o fl y' _ _ g g4 (mn y' z j hy y2),fb b' o g4⟩
   have gB:=run_storeCells_at P b (xs.length*k) et nv 0 cs w h2 (by omega) gA;simp only[Gv]at gB;rw[eI]at gB;have gz:=zEA (P:=P) (t:=t) (ty:=ty) (w':=w') ht hi hx (by omega) (base:=ik ⟨b,0,im⟩) ee (by simp only[hk,uR,Jc];exact gB);refine⟨_,w',by rw[h1];exact gz,G',fin G' w' _ gx gr ghdr aS ghd0⟩
 ·
  have aP:∃a' c,G.hd s0 []=.slice a' xs.length c∧ ∀w2:World,w2.heap=w.heap→(Builtin.firstCells ti.size xs.length (.slice a' xs.length c)).run P w2=.ok (yH G s0 xs [] 0).toArray w2:=by
   rcases e2 with⟨rfl,a1,h1⟩|⟨b,cap,cs,et,h1,h2,h3,h4,h5,h6,h7,h8⟩
   ·exact⟨a1,0,h1,fun w2 _=>by cases a1<;>simp[Builtin.firstCells,loadCells,loadCellsFrom,yH]⟩
   ·refine⟨_,_,h1,fun w2 hw2=>?_⟩
    have hl:=zA9 xs [] 0 b 0 h8;refine run_firstCells_some (P:=P) w2 ti.size xs.length ⟨b,0,im⟩ _ _ _ ?_ (fun j v hv=>?_)
    ·rw[wS,hk]
     exact wV xs (zBp xs [] 0 b 0 h8).2
    ·have:=zBk xs [] 0 b 0 hl j v hv
     grind[uR,yR,World.cell?]
  obtain⟨a',c,hh,gI⟩:=aP;have fI:yT xs=io∧(∀x∈xs,x.size=k)∧ ∀i x,xs[i]? =ik x→R Γ.St G w s0 x [i]:=by
   rcases e2 with⟨rfl,a1,h1⟩|⟨b,cap,cs,et,h1,h2,h3,h4,h5,h6,h7,h8⟩
   ·simp[yT]
   ·refine⟨kI (St:=Γ.St) (k:=k) xs [] 0 b 0 (zA9 xs [] 0 b 0 h8),(zBp xs [] 0 b 0 h8).2,fun i x ej=>?_⟩
    have:=(jU xs [] 0 b 0 k i x h8 ej).2.2
    grind
  have gZ:c<xs.length+us.length:=by grind
  have gz:=zJM (P:=P) (t:=t) (ty:=ty) ht hi hz hx gZ p8 hb gI;have hge:=grownCap_ge w (xs.length+us.length) c e;have bU:=grownCap_le_maxLen w (xs.length+us.length) c e (by grind[maxLen])
  generalize grownCap w (xs.length+us.length) c e=cap' at gz hge bU
  generalize eI:w.drew.alloc (.cells ((yH G s0 xs [] 0++nv).toArray++Builtin.zeroCells z.cells (cap'-(xs.length+us.length))) e)=w' at gz
  have hwh:w'.heap=w.heap.push (.cells ((yH G s0 xs [] 0++nv).toArray++Builtin.zeroCells z.cells (cap'-(xs.length+us.length))) e):=by rw[←eI];rfl
  have hszxs:T.sizes xs=xs.length*k:=wV xs fI.2.1;obtain⟨g1,g2,g3,g4,g5⟩:=zDg hm hwh d (xs++us) (fun i=>if i<xs.length then ik (s0,[i])else y.map fun y'=>(y',[i-xs.length])) (zDY s0 y xs.length) (fun i z=>if i<xs.length then G.hd s0 (z++[i])else f2 (i-xs.length) z) (.slice (ik ⟨w.heap.size,0,im⟩) (xs.length+us.length) cap') ((zBb d s0 y).tail)
   (zDB xs us fI.1 hn.tup) (fun i z=>by split;exact hm.one _ _;exact hn.one _ _) rfl
   (fun i u x q z' hu hs=>by
    split at hs
    ·simp at hs;obtain⟨rfl,rfl⟩:=hs;simp[zDY]
    ·rename_i cr
     cases y with
     |none=>simp at hs
     |some y'=>
      simp at hs;obtain⟨rfl,rfl⟩:=hs;have:=(hn.slot y' rfl).2.1;simp[zDY,this,show xs.length+(i-xs.length)=i from by omega])
   (fun i u x q hu hs=>by
    rw[Kl]at hu;split at hs
    ·rename_i gF
     rw[if_pos gF]at hu;simp at hs;obtain⟨rfl,rfl⟩:=hs
     grind[uQ]
    ·rename_i cr
     rw[if_neg cr]at hu;cases hy:y with
     |none=>grind
     |some y'=>
      rw[hy]at hs;simp at hs;obtain⟨rfl,rfl⟩:=hs;obtain⟨y1,y2,y3,y4⟩:=hn.slot y' hy;obtain⟨_,y5,_⟩:=g9.ent y' _ y3;simp only[R]at y5;refine⟨by grind,?_,uQ us hn.clean _ u hu,y1⟩;rcases y5 with⟨rfl,_⟩|⟨b2,cap2,cs2,et2,_,_,_,_,_,_,_,y6⟩
      ·simp at hu
      ·have:=(jU us [] 0 b2 0 k _ u y6 hu).2.2
       grind)
   (fun i u hu hs G2 w2 ff=>by
    rw[Kl]at hu;split at hs
    ·cases hs
    ·rename_i cr
     rw[if_neg cr]at hu;cases hy:y with
     |some y'=>grind
     |none=>
      have:=hn.none hy (i-xs.length) u hu G2 w2 (fun z'=>by rw[show xs.length+(i-xs.length)=i from by omega,ff,if_neg cr])
      rwa [show xs.length+(i-xs.length)=i from by omega]at this)
   (fun G2 ff o v hv=>by
    rw[zE8,Jc]at hv;have h1:yH G2 d xs [] 0=yH G s0 xs [] 0:=zLe xs [] 0 (by grind);rw[h1]at hv;have bQ:(yH G s0 xs [] 0).length=xs.length*k:=by grind[wS]
    have pM:(yH G2 d us [] xs.length).length=us.length*k:=by grind[wS]
    have ho:o<xs.length*k+us.length*k:=by grind
    have pD:=hn.len;rw[Array.getElem?_append_left (by simp;omega),List.getElem?_toArray];rw[Kl]at hv ⊢
    split at hv
    ·grind
    ·rename_i cr;rw[if_neg cr]
     exact hn.vals G2 (fun j z'=>by rw[ff,if_neg (by omega),show xs.length+j-xs.length=j from by omega]) _ v hv)
   (fun s p h=>pB s p (by simpa[zBb]using h)) (ho:=by rw[←eI];rfl) (hq:=by rw[←eI];rfl)
  refine⟨_,w',by rw[hh];exact gz,_,fin _ w' _ (by simpa[zBb]using g1) g2 (by simp[Gh.nb]) ?_ (by grind[Gh.nb])⟩;simp only[R];refine .inr ⟨w.heap.size,cap',_,e,by simp[Gh.nb],g5,by grind,bU,?_,by simp[Gh.nb],?_,zR6 _ _ _ _ _ (fun x ej=>?_) g3 g4⟩
  ·have bQ:(yH G s0 xs [] 0).length=xs.length*k:=by grind[wS]
   have pD:=hn.len;simp only[Array.size_append,Jbt,J5,size_zeroCells,fg,bQ,pD,←Um]
   grind
  ·intro o ho _
   rw[J5,Um]at ho;simp[Gh.nb,zDU (xs++us) [] 0 o (by grind[zE9])]
  ·rcases Je.1 ej with h|h
   ·grind
   ·exact hn.size x h
end
end Go.Ab

namespace Go.Ab
open Go
mutual
def T.flat:T→Bool
 |.lit _|.ro _=>io
 |.agg xs=>zAA xs
 |.any|.same _ _|.addr _ _|.sub _ _ _ _ _|.sl _ _|.ptr _|.tup _=>iq
def zAA:List T→Bool
 | []=>io
 |x::xs=>x.flat&&zAA xs
end
section
variable {St:Stb}{G G2:Gh}{w w2:World}{s d:Nat}
mutual
theorem zJN:(t:T)→ ∀(p p':List Nat),t.flat=io→(∀z,G2.hd d (z++p')=G.hd s (z++p))→R St G w s t p→R St G2 w2 d t p'
 |.lit _,p,p',_,h,hr=>by have:=h [];grind[R]
 |.ro _,p,p',_,h,hr=>by have:=h [];grind[R]
 |.agg xs,p,p',hf,h,hr=>by simp only[R,T.flat]at hr hf ⊢;exact zO6 xs p p' 0 hf h hr
 |.any,_,_,hf,_,_|.same _ _,_,_,hf,_,_|.addr _ _,_,_,hf,_,_|.sub _ _ _ _ _,_,_,hf,_,_|.sl _ _,_,_,hf,_,_|.ptr _,_,_,hf,_,_|.tup _,_,_,hf,_,_=>by grind[T.flat]
theorem zO6:(xs:List T)→ ∀(p p':List Nat)(j:Nat),zAA xs=io→(∀z,G2.hd d (z++p')=G.hd s (z++p))→RF St G w s xs p j→RF St G2 w2 d xs p' j
 | [],_,_,_,_,_,_=>by grind[RF]
 |x::xs,p,p',j,hf,h,hr=>by
  simp only[RF,zAA,J3]at hr hf ⊢
  exact⟨zJN x (j::p) (j::p') hf.1 (fun z=>by have:=h (z++[j]);grind) hr.1,zO6 xs p p' (j+1) hf.2 h hr.2⟩
end
end
mutual
theorem zHc:(t:T)→t.flat=io→yD t∧t.okTup=io
 |.lit _,_|.ro _,_=>by simp[yD,xD,T.okTup]
 |.agg xs,h=>by simp only[T.flat]at h;simpa only[yD,xD,T.okTup]using kO xs h
 |.any,h|.same _ _,h|.addr _ _,h|.sub _ _ _ _ _,h|.sl _ _,h|.ptr _,h|.tup _,h=>by grind[T.flat]
theorem kO:(xs:List T)→zAA xs=io→xU xs∧yT xs=io
 | [],_=>by simp[xU,xZ,yT]
 |x::xs,h=>by simp only[zAA,J3]at h;simp only[xU,xZ,yT,J3];exact⟨⟨(zHc x h.1).1,(kO xs h.2).1⟩,(zHc x h.1).2,(kO xs h.2).2⟩
end
theorem zIO:(xs:List T)→zAA xs=io→ ∀(i:Nat)(x:T),xs[i]? =ik x→x.flat=io
 | [],_,_,_,h=>by simp at h
 |y::ys,hk,i,x,h=>by
  simp only[zAA,J3]at hk;cases i with
  |zero=>grind
  |succ i=>exact zIO ys hk.2 i x (by grind)
mutual
def zF0:T→Bool
 |.lit _=>io
 |.sl _ xs=>zBq xs
 |.agg xs=>zBq xs
 |.ptr t=>zF0 t
 |.any|.ro _|.same _ _|.addr _ _|.sub _ _ _ _ _|.tup _=>iq
def zBq:List T→Bool
 | []=>io
 |x::xs=>zF0 x&&zBq xs
end
theorem zLf:(ys:List T)→zBq ys=io→ ∀u∈ys,∀xs,u≠.tup xs
 | [],_,_,h,_=>by simp at h
 |y::ys,hr,u,h,xs=>by
  simp only[zBq,J3]at hr;rcases J8.1 h with rfl|h
  ·rintro rfl;grind[zF0]
  ·exact zLf ys hr.2 u h xs
theorem zGg:(ys:List T)→(roT.roTs ys).length=ys.length
 | []=>rfl
 |y::ys=>by simp[roT.roTs,zGg ys]
theorem zHd{k:Nat}:(ys:List T)→(∀u∈ys,u.size=k)→(∀u∈ys,∀xs,u≠.tup xs)→ ∀u∈roT.roTs ys,u.size=k
 | [],_,_,u,h=>by grind[roT.roTs]
 |y::ys,h1,h2,u,h=>by
  simp only[roT.roTs,J8]at h;rcases h with rfl|h
  ·grind[zE5]
  ·exact zHd ys (by grind) (by grind) u h
theorem zLg:(ys:List T)→ ∀(j:Nat)(u:T),(roT.roTs ys)[j]? =ik u→ ∃u0,ys[j]? =ik u0∧u=roT u0
 | [],_,_,h=>by grind[roT.roTs]
 |y::ys,j,u,h=>by
  cases j with
  |zero=>grind[roT.roTs]
  |succ j=>
   obtain⟨u0,h1,h2⟩:=zLg ys j u (by grind[roT.roTs])
   grind
theorem zO7{St:Stb}{G2:Gh}{d:Nat}:(ys:List T)→ ∀(cs':Array Value)(o' k n:Nat),RoL St ys cs' o' k→(∀u∈ys,u.size=k)→(∀j u,ys[j]? =ik u→ ∀z',G2.hd d (z'++[n+j])=jX (zDT u cs' (o'+j*k) z'.reverse))→
  ∀(i:Nat)(v:Value),(yH G2 d (roT.roTs ys) [] n)[i]? =ik v→cs'[o'+i]? =ik v
 | [],_,_,_,_,_,_,_,i,v,hv=>by grind[roT.roTs,yH]
 |y::ys,cs',o',k,n,h,hs,hd,i,v,hv=>by
  simp only[RoL]at h;simp only[roT.roTs,yH]at hv;have ef:∀xs,y≠.tup xs:=by rintro xs rfl;grind[RoC]
  have hnt':∀xs,roT y≠.tup xs:=fun xs e=>by cases y<;>simp[roT]at e
  have hl:(vals G2 d (roT y) [n]).length=k:=by grind[vH,zE5]
  rw[Kl]at hv;split at hv
  ·exact zGP y cs' o' [n] (fun z'=>by simpa using hd 0 y (by simp) z') h.1 i v hv
  ·have:=zO7 ys cs' (o'+k) k (n+1) h.2 (by grind) (fun j u hu z'=>by
    have:=hd (j+1) u (by grind) z'
    grind) _ v hv
   grind
mutual
theorem zPX{G:Gh}(hg:∀s z,(G.hd s z).oneCell'=io){s:Nat}:(t:T)→ ∀(p:List Nat)(v:Value),v∈vals G s t p→v.oneCell'=io
 |.agg xs,p,v,h=>by simp only[vals]at h;exact zDZ hg xs p 0 v h
 |.any,p,v,h|.lit _,p,v,h|.ro _,p,v,h|.same _ _,p,v,h|.addr _ _,p,v,h|.sub _ _ _ _ _,p,v,h|.sl _ _,p,v,h|.ptr _,p,v,h|.tup _,p,v,h=>by grind[vals]
theorem zDZ{G:Gh}(hg:∀s z,(G.hd s z).oneCell'=io){s:Nat}:(xs:List T)→ ∀(p:List Nat)(j:Nat)(v:Value),v∈yH G s xs p j→v.oneCell'=io
 | [],_,_,_,h=>by grind[yH]
 |x::xs,p,j,v,h=>by
  simp only[yH,Je]at h;rcases h with h|h
  ·exact zPX hg x _ v h
  ·exact zDZ hg xs p _ v h
end
theorem zCy{G G2:Gh}{s d:Nat}:(us:List T)→ ∀(n j:Nat),(∀i z,G2.hd d (z++[n+i])=G.hd s (z++[j+i]))→yH G2 d us [] n=yH G s us [] j
 | [],_,_,_=>by rfl
 |x::xs,n,j,h=>by
  have ih:yH G2 d xs [] (n+1)=yH G s xs [] (j+1):=zCy xs (n+1) (j+1) (fun i z=>by rw[show n+1+i=n+(i+1)from by omega,show j+1+i=j+(i+1)from by omega];simp_all)
  simp only[yH];rw[ih,zAM x [j] [n] (by simpa using h 0)]
theorem zEB{G G2:Gh}{s d:Nat}:(us:List T)→ ∀(n j:Nat)(q:List Nat),(∀i z,G2.hd d (z++[n+i])=G.hd s (z++((j+i)::q)))→yH G2 d us [] n=yH G s us q j
 | [],_,_,_,_=>by rfl
 |x::xs,n,j,q,h=>by
  have ih:yH G2 d xs [] (n+1)=yH G s xs q (j+1):=zEB xs (n+1) (j+1) q (fun i z=>by rw[show n+1+i=n+(i+1)from by omega,show j+1+i=j+(i+1)from by omega];simp_all)
  simp only[yH];rw[ih,zAM x (j::q) [n] (by simpa using h 0)]
section
variable {P:Program}{Γ:Ctx}{E:Env}{o:Oper}{d:Nat}
theorem zO8{St:Stb}{G:Gh}{w:World}{r:Nat}{q:List Nat}{k:Nat}{us:List T}(h:R St G w r (.sl k us) q){size:Nat}(hk:size=k):
  ∃xa c,G.hd r q=.slice xa us.length c∧ ∀w2:World,w2.heap=w.heap→(Builtin.firstCells size us.length (.slice xa us.length c)).run P w2=.ok (yH G r us q 0).toArray w2:=by
 simp only[R]at h;rcases h with⟨rfl,a1,h1⟩|⟨b,cap,cs,et,h1,h2,h3,h4,h5,h6,h7,h8⟩
 ·exact⟨a1,0,h1,fun w2 _=>by cases a1<;>simp[Builtin.firstCells,loadCells,loadCellsFrom,yH]⟩
 ·refine⟨_,_,h1,fun w2 hw2=>?_⟩
  have hl:=zA9 us q 0 b 0 h8;refine run_firstCells_some (P:=P) w2 size us.length ⟨b,0,im⟩ _ _ _ ?_ (fun j v hv=>?_)
  ·rw[wS,hk]
   exact wV us (zBp us q 0 b 0 h8).2
  ·have:=zBk us q 0 b 0 hl j v hv
   grind[uR,yR,World.cell?]
theorem zBr{G:Gh}{a:Act}{w:World}(g9:Rep Γ E G a.tmps w){s:Nat}{t:T}(h:E s=ik t)(ht:t.single=io):a.eval (.tmp s)=G.hd s []:=by rw[wJ (g9.ent s t h).1,xS ht]
theorem zJO(t e:TypeId)(ti:TypeInfo)(z:Value)(k s0 y:Nat)(xs us:List T)(ho:o.op=.call { callee:=.builtin .append,args:=#[.tmp s0,.tmp y],argTypes:=#[t,t] })(gk:o.dst=ik d)(hd:d<Γ.N)
  (ht:P.underlying t=ik (.slice e))(hi:P.info? e=ik ti)(hz:ti.zero=ik z)(hk:ti.size=k)(f7:0<k)(fg:z.cells.size=k)(hb:ti.bytes≤2048)
  (ez:E s0=ik (.sl k xs))(hy:E y=ik (.sl k us))(fN:s0≠d)(hyd:y≠d)(hys:y≠s0)(p8:xs.length+us.length≤68719476736):
  wN P Γ o E (E.app (aWr d s0 (ik y) k (xs++us)) (zBb d s0 (ik y))):=by
 refine wN.value gk fun a w G g9=>?_
 obtain⟨_,y2,y3⟩:=g9.ent y _ hy;simp only[Top]at y3;obtain⟨xa,c,h1,h2⟩:=zO8 (P:=P) y2 hk;have fU:yT us=io∧ ∀u∈us,u.size=k:=by
  simp only[R]at y2;rcases y2 with⟨rfl,_⟩|⟨b,cap,cs,et,_,_,_,_,_,_,_,h8⟩
  ·simp[yT]
  ·exact⟨kI (St:=Γ.St) (k:=k) us [] 0 b 0 (zA9 us [] 0 b 0 h8),(zBp us [] 0 b 0 h8).2⟩
 have hn:zHb Γ E G d s0 (ik y) k xs.length us (fun j z'=>G.hd y (z'++[j])) (yH G y us [] 0):=
  ⟨fU.2,fU.1,y3,fun j z'=>g9.mem.one _ _,by grind[wS,wV],fun y' hy'=>by simp_all,fun h=>by simp at h,
   fun G2 ff o v hv=>by rw[←zCy us xs.length 0 (fun i z'=>by rw[ff,Jc])];exact hv⟩
 obtain⟨v,w',gz,G',gn⟩:=zBI (P:=P) (ty:=o.type) g9 hd ht hi hz hk f7 fg hb ez fN hn (xv:=a.eval (.tmp y)) ⟨.inl ⟨e,xa,c,ht,by rw[zBr g9 hy rfl,h1],h2⟩⟩ (fun v hv=>zDi g9.mem us [] 0 v hv) p8;refine⟨v,w',?_,G',gn⟩;rw[←zBr g9 ez rfl]at gz;simp[execOp,ho,resolve,invoke,builtin,gz]
theorem zJP(t e:TypeId)(ti:TypeInfo)(z:Value)(k s0:Nat)(y:Operand)(r:Nat)(q:List Nat)(xs us:List T)(ho:o.op=.call { callee:=.builtin .append,args:=#[.tmp s0,y],argTypes:=#[t,t] })(gk:o.dst=ik d)(hd:d<Γ.N)
  (ht:P.underlying t=ik (.slice e))(hi:P.info? e=ik ti)(hz:ti.zero=ik z)(hk:ti.size=k)(f7:0<k)(fg:z.cells.size=k)(hb:ti.bytes≤2048)
  (ez:E s0=ik (.sl k xs))(hy:tP E y=ik (r,q,.sl k us))(hf:zAA us=io)(fN:s0≠d)(p8:xs.length+us.length≤68719476736):
  wN P Γ o E (E.app (aWr d s0 im k (xs++us)) (zBb d s0 im)):=by
 refine wN.value gk fun a w G g9=>?_
 obtain⟨y2,y1⟩:=jH g9 hy rfl;obtain⟨xa,c,h1,h2⟩:=zO8 (P:=P) y2 hk;have fU:(∀u∈us,u.size=k)∧ ∀j u,us[j]? =ik u→R Γ.St G w r u (j::q):=by
  simp only[R]at y2;rcases y2 with⟨rfl,_⟩|⟨b,cap,cs,et,_,_,_,_,_,_,_,h8⟩
  ·simp
  ·refine⟨(zBp us q 0 b 0 h8).2,fun j u hu=>?_⟩
   have:=(jU us q 0 b 0 k j u h8 hu).2.2
   grind
 have gE:=kO us hf;have hn:zHb Γ E G d s0 im k xs.length us (fun j z'=>G.hd r (z'++(j::q))) (yH G r us q 0):=
  ⟨fU.1,gE.2,gE.1,fun j z'=>g9.mem.one _ _,by grind[wS,wV],by simp,
   by grind[zJN,zIO],
   fun G2 ff o v hv=>by rw[←zEB us xs.length 0 q (fun i z'=>by rw[ff,Jc])];exact hv⟩
 obtain⟨v,w',gz,G',gn⟩:=zBI (P:=P) (ty:=o.type) g9 hd ht hi hz hk f7 fg hb ez fN hn (xv:=a.eval y) ⟨.inl ⟨e,xa,c,ht,by rw[y1,h1],h2⟩⟩ (fun v hv=>zDi g9.mem us q 0 v hv) p8;refine⟨v,w',?_,G',gn⟩;rw[←zBr g9 ez rfl]at gz;simp[execOp,ho,resolve,invoke,builtin,gz]
mutual
theorem zRB:(u:T)→zF0 u=io→(roT u).flat=io
 |.agg xs,h=>by simp only[zF0]at h;simp only[roT,T.flat];exact zF1 xs h
 |.lit _,_|.sl _ _,_|.ptr _,_=>by rfl
 |.any,h|.ro _,h|.same _ _,h|.addr _ _,h|.sub _ _ _ _ _,h|.tup _,h=>by grind[zF0]
theorem zF1:(xs:List T)→zBq xs=io→zAA (roT.roTs xs)=io
 | [],_=>by rfl
 |x::xs,h=>by simp only[zBq,J3]at h;simp only[roT.roTs,zAA,J3];exact⟨zRB x h.1,zF1 xs h.2⟩
end
theorem zJQ(t e:TypeId)(ti:TypeInfo)(z:Value)(k s0:Nat)(y:Operand)(r:Nat)(q:List Nat)(xs ys:List T)(ho:o.op=.call { callee:=.builtin .append,args:=#[.tmp s0,y],argTypes:=#[t,t] })(gk:o.dst=ik d)(hd:d<Γ.N)
  (ht:P.underlying t=ik (.slice e))(hi:P.info? e=ik ti)(hz:ti.zero=ik z)(hk:ti.size=k)(f7:0<k)(fg:z.cells.size=k)(hb:ti.bytes≤2048)
  (ez:E s0=ik (.sl k xs))(hy:tP E y=ik (r,q,.ro (.sl k ys)))(hro:zBq ys=io)(hys:∀u∈ys,u.size=k)(fN:s0≠d)(p8:xs.length+ys.length≤68719476736):
  wN P Γ o E (E.app (aWr d s0 im k (xs++roT.roTs ys)) (zBb d s0 im)):=by
 refine wN.value gk fun a w G g9=>?_
 obtain⟨y2,y1⟩:=jH g9 hy rfl;obtain⟨xa,c,h1,h2,h3,h4⟩:=zDe y2;have hf:=zF1 ys hro;have gE:=kO _ hf;have gf:(roT.roTs ys).length=ys.length:=zGg ys;have gy:∀u∈roT.roTs ys,u.size=k:=zHd ys hys (by grind[zLf]);obtain⟨cs',o',h5,h6⟩:∃(cs':Array Value)(o':Nat),RoL Γ.St ys cs' o' k∧(ys≠[]→ ∃b et fr,xa=ik ⟨b,o',im⟩∧Γ.St b=ik (.cells cs' et fr)):=by
  by_cases gj:ys=[]
  ·subst gj;exact⟨#[],0,by simp[RoL],fun h=>absurd rfl h⟩
  grind
 let f2:Nat→List Nat→Value:=fun j z'=>match ys[j]? with
  |some u=>jX (zDT u cs' (o'+j*k) z'.reverse)
  |none=>.bool iq
 have hf2:∀j u,ys[j]? =ik u→ ∀z',f2 j z'=jX (zDT u cs' (o'+j*k) z'.reverse):=by grind
 let G0:Gh:={ G with hd:=fun s z'=>if s=d then(match z'.getLast? with
  |some j=>f2 j z'.dropLast
  |none=>.bool iq)else G.hd s z' }
 have hG0:∀j z',G0.hd d (z'++[j])=f2 j z':=by grind
 have pf:∀(G2:Gh)(n:Nat),(∀j z',G2.hd d (z'++[n+j])=f2 j z')→ ∀(i:Nat)(v:Value),(yH G2 d (roT.roTs ys) [] n)[i]? =ik v→cs'[o'+i]? =ik v:=by grind[zO7]
 have hload:∀w2:World,w2.heap=w.heap→(Builtin.firstCells ti.size ys.length (.slice xa ys.length c)).run P w2=.ok (yH G0 d (roT.roTs ys) [] 0).toArray w2:=by
  intro w2 hw2
  by_cases gj:ys=[]
  ·subst gj
   cases xa<;>simp[Builtin.firstCells,loadCells,loadCellsFrom,roT.roTs,yH]
  ·obtain⟨b,et,fr,rfl,h7⟩:=h6 gj
   refine run_firstCells_some (P:=P) w2 ti.size ys.length ⟨b,o',im⟩ _ _ _ ?_ (fun j v hv=>?_)
   ·grind[wS,wV]
   ·have:=pf G0 0 (fun j z'=>by rw[Jc];grind) j v hv
    rw[uR];have h8:=g9.mem.st b _ h7
    grind[World.cell?]
 have mo:∀j z',(f2 j z').oneCell'=io:=fun j z'=>by
  dsimp only[f2];split
  ·exact zBl _
  ·rfl
 have hn:zHb Γ E G d s0 im k xs.length (roT.roTs ys) f2 (yH G0 d (roT.roTs ys) [] 0):=by
  refine⟨gy,gE.2,gE.1,mo,by grind[wS,wV],by simp,fun _ j u hu G2 w2 ff=>?_,fun G2 ff i v hv=>?_⟩
  ·obtain⟨u0,hu0,rfl⟩:=zLg ys j u hu
   exact zR1 u0 cs' (o'+j*k) [xs.length+j] (by grind) (by grind[zG4])
  ·rw[←zCy (roT.roTs ys) xs.length 0 (fun i z'=>by rw[ff,Jc];grind)]
   exact hv
 have ak:∀v∈yH G0 d (roT.roTs ys) [] 0,v.oneCell'=io:=by
  intro v hv;refine zDZ (fun s z'=>?_) _ [] 0 v hv;simp only[G0];split
  ·split
   ·exact mo _ _
   ·rfl
  ·exact g9.mem.one _ _
 have bx:zHa P t e ti (a.eval y) (roT.roTs ys).length (yH G0 d (roT.roTs ys) [] 0) w:=⟨by grind⟩;obtain⟨v,w',gz,G',gn⟩:=zBI (P:=P) (ty:=o.type) g9 hd ht hi hz hk f7 fg hb ez fN hn bx ak (by omega);refine⟨v,w',?_,G',gn⟩;rw[←zBr g9 ez rfl]at gz;simp[execOp,ho,resolve,invoke,builtin,gz]
end
end Go.Ab

namespace Go.Ab
open Go
theorem zGh:(us:List T)→qJ us=us.flatMap sA
 | []=>rfl
 |u::us=>by simp[qJ,zGh us]
theorem zCz(u:T)(h:u.zOk=io):∀m,zAq (J1 m u)=io
 |0=>rfl
 |m+1=>by simp[Jq,zAq,h,zCz u h m]
section
variable {P:Program}{Γ:Ctx}{E:Env}{o:Oper}{d:Nat}
theorem zHe(t t2 e:TypeId)(k2:IntKind)(ti:TypeInfo)(z:Value)(u:T)(k s0:Nat)(y:Operand)(kd:IntKind)(m:Nat)(xs:List T)(ho:o.op=.call { callee:=.builtin .append,args:=#[.tmp s0,y],argTypes:=#[t,t2] })(gk:o.dst=ik d)(hd:d<Γ.N)
  (ht:P.underlying t=ik (.slice e))(tz:P.underlying t2=ik (.int k2))(hi:P.info? e=ik ti)(hz:ti.zero=ik z)(hk:ti.size=k)(f7:0<k)(hb:ti.bytes≤2048)(hu:u.zOk=io)(hv:sA u=z.cells.toList)(fU:u.size=k)
  (ez:E s0=ik (.sl k xs))(hy:opT E y=ik (.lit (.int kd m)))(fN:s0≠d)(p8:xs.length+m≤68719476736):
  wN P Γ o E (E.app (aWr d s0 im k (xs++J1 m u)) (zBb d s0 im)):=by
 refine wN.value gk fun a w G g9=>?_
 have fg:z.cells.size=k:=by rw[←Kq,←hv,vE u hu,fU]
 have hzo:=zCz u hu m;have gE:=zBH _ hzo
 let f2:Nat→List Nat→Value:=fun _ z'=>jX (zhd u z'.reverse)
 have ue:((Builtin.zeroCells z.cells m).toList).length=m*k:=by simp[Builtin.zeroCells,fg]
 have hn:zHb Γ E G d s0 im k xs.length (J1 m u) f2 (Builtin.zeroCells z.cells m).toList:=by
  refine⟨fun x hx=>by simp at hx;rw[hx.2];exact fU,gE.2,gE.1,fun _ _=>zBl _,by rw[ue];simp,fun y' hy'=>by simp at hy',fun _ j x hx G2 w2 ff=>?_,fun G2 ff i v mf=>?_⟩
  ·rw[Ke]at hx
   split at hx
   ·simp at hx;subst hx;exact zJH u _ hu (fun z'=>ff z')
   ·cases hx
  ·have h1:yH G2 d (J1 m u) [] xs.length=qJ (J1 m u):=zDV _ [] xs.length hzo (fun j x hx z'=>by
    rw[Ke]at hx;split at hx
    ·simp at hx;subst hx;exact ff j z'
    ·cases hx)
   rw[h1,zGh]at mf;obtain⟨h2,h3⟩:=zJI sA u k (by rw[vE u hu,fU]) f7 m i v mf;rw[hv,Kt,←fg]at h3;have h4:i<m*z.cells.size:=by rw[fg];exact h2
   simp[Builtin.zeroCells,h4,getElem!_def,h3]
 have gA:∀v∈(Builtin.zeroCells z.cells m).toList,v.oneCell'=io:=by
  intro v mf;simp only[Builtin.zeroCells,Array.toList_map,Array.toList_range,Jm,Kr]at mf;obtain⟨i,fE,rfl⟩:=mf;have h1:i%z.cells.size<z.cells.size:=G4 _ (by omega);have h2:z.cells[i%z.cells.size]! =z.cells[i%z.cells.size]:=by simp[h1]
  rw[h2];exact zFy u hu _ (by rw[hv];exact Array.mem_toList_iff.2 (Array.getElem_mem h1))
 have bx:zHa P t2 e ti (a.eval y) (J1 m u).length (Builtin.zeroCells z.cells m).toList w:=by
  refine⟨.inr ⟨k2,kd,z,tz,?_,hz,by simp,?_,by rw[fg,hk]⟩⟩
  ·rw[(wO g9 hy).1];simp
  ·simp only[Jh]
   exact Hc (Jy (show m≤68719476736 by omega) hb) (by decide)
 obtain⟨v,w',gz,G',gn⟩:=zBI (P:=P) (ty:=o.type) g9 hd ht hi hz hk f7 fg hb ez fN hn bx gA (by simpa using p8);refine⟨v,w',?_,G',gn⟩;rw[←zBr g9 ez rfl]at gz;simp[execOp,ho,resolve,invoke,builtin,gz]
end
end Go.Ab

namespace Go.Ab
open Go
def zLh(G:Gh)(nd:List (Nat×List Nat×T)):Value:=
 match nd with
 | [x]=>sQ G x.1 x.2.2 x.2.1
 |nd=>.tuple (nd.map fun x=>sQ G x.1 x.2.2 x.2.1).toArray
def FnC(P:Program)(f:FuncId)(us:List T)(res:List T)(rws:List (Nat×T)):Prop:=
 ∀(St:Stb)(W:Nat→Prop)(w:World)(G:Gh)(vs:Array Value),vs.size=us.length→
  (∀(i:Nat) u,us[i]? =ik u→vs[i]? =ik (mkV G i u [])∧R St G w i u [])→Mem ⟨St,W,w,0⟩ G w→
  Calls P f vs w fun e w'=> ∃(S':Stb)(G':Gh)(nd:List (Nat×List Nat×T)),zDz St S' W w.heap.size∧e=.returned (zLh G' nd)∧Mem ⟨S',W,w,0⟩ G' w'∧nd.map (·.2.2)=res∧
   (∀x∈nd,R S' G' w' x.1 x.2.2 x.2.1∧us.length≤x.1)∧(nd.map (·.1)).Nodup∧
   ∀i u',(i,u')∈rws→R S' G' w' i u' []∧ ∃u,us[i]? =ik u∧mkV G' i u' []=mkV G i u []
mutual
def wZ:T→Bool
 |.ro _=>iq
 |.sl _ xs|.agg xs|.tup xs=>uN xs
 |.ptr t=>wZ t
 |.any|.lit _|.same _ _|.addr _ _|.sub _ _ _ _ _=>io
def uN:List T→Bool
 | []=>io
 |x::xs=>wZ x&&uN xs
end
section
variable {St St':Stb}{G:Gh}{w:World}{s:Nat}
mutual
theorem zPY:(t:T)→ ∀(p:List Nat),wZ t=io→R St G w s t p→R St' G w s t p
 |.ro _,_,h,_=>by grind[wZ]
 |.sl k xs,p,h,hr=>by
  simp only[wZ,R]at h hr ⊢
  rcases hr with hr|⟨b,cap,cs,e,h1,h2,h3,h4,h5,h6,h7,h8⟩
  ·grind
  ·exact .inr ⟨b,cap,cs,e,h1,h2,h3,h4,h5,h6,h7,zW8 xs p 0 b 0 k h h8⟩
 |.agg xs,p,h,hr|.tup xs,p,h,hr=>by simp only[wZ,R]at h hr ⊢;exact zW9 xs p 0 h hr
 |.ptr t,p,h,hr=>by
  simp only[wZ,R]at h hr ⊢
  obtain⟨b,cs,e,h1,h2,h3,h6,h4,h5⟩:=hr;exact⟨b,cs,e,h1,h2,h3,h6,h4,zPY t _ h h5⟩
 |.any,_,_,hr|.lit _,_,_,hr|.same _ _,_,_,hr|.addr _ _,_,_,hr|.sub _ _ _ _ _,_,_,hr=>by first|(simp only[R];done)|simpa only[R]using hr
theorem zW8:(xs:List T)→ ∀(p:List Nat)(i b o k:Nat),uN xs=io→RL St G w s xs p i b o k→RL St' G w s xs p i b o k
 | [],_,_,_,_,_,_,_=>by simp only[RL]
 |x::xs,p,i,b,o,k,h,hr=>by
  simp only[uN,J3,RL]at h hr ⊢
  exact⟨hr.1,zPY x _ h.1 hr.2.1,zW8 xs p (i+1) b _ k h.2 hr.2.2⟩
theorem zW9:(xs:List T)→ ∀(p:List Nat)(i:Nat),uN xs=io→RF St G w s xs p i→RF St' G w s xs p i
 | [],_,_,_,_=>by simp only[RF]
 |x::xs,p,i,h,hr=>by
  simp only[uN,J3,RF]at h hr ⊢
  exact⟨zPY x _ h.1 hr.1,zW9 xs p (i+1) h.2 hr.2⟩
end
end
section
variable {St St':Stb} (h:∀b x,St b=ik x→St' b=ik x)
 include h
mutual
theorem sB:(t:T)→ ∀(cs:Array Value)(o:Nat),RoC St t cs o→RoC St' t cs o
 |.sl k xs,cs,o,hr=>by
  simp only[RoC]at hr ⊢
  obtain⟨a,c,h1,h2,h3,h4⟩:=hr;refine⟨a,c,h1,h2,h3,fun gj=>?_⟩;obtain⟨b,o',cs',e,fr,h5,h6,h7⟩:=h4 gj;exact⟨b,o',cs',e,fr,h5,h b _ h6,zLi xs cs' o' k h7⟩
 |.agg xs,cs,o,hr=>by simp only[RoC]at hr ⊢;exact zLj xs cs o hr
 |.ptr t,cs,o,hr=>by
  simp only[RoC]at hr ⊢
  obtain⟨b,o',cs',e,fr,h5,h6,h7⟩:=hr;exact⟨b,o',cs',e,fr,h5,h b _ h6,sB t cs' o' h7⟩
 |.any,_,_,hr|.lit _,_,_,hr|.ro _,_,_,hr|.same _ _,_,_,hr|.addr _ _,_,_,hr|.sub _ _ _ _ _,_,_,hr|.tup _,_,_,hr=>by first|(simp only[RoC]at hr;done)|simpa only[RoC]using hr
theorem zLi:(xs:List T)→ ∀(cs:Array Value)(o k:Nat),RoL St xs cs o k→RoL St' xs cs o k
 | [],_,_,_,_=>by have _:=h;simp only[RoL]
 |x::xs,cs,o,k,hr=>by simp only[RoL]at hr ⊢;exact⟨sB x cs o hr.1,zLi xs cs _ k hr.2⟩
theorem zLj:(xs:List T)→ ∀(cs:Array Value)(o:Nat),RoF St xs cs o→RoF St' xs cs o
 | [],_,_,_=>by have _:=h;simp only[RoF]
 |x::xs,cs,o,hr=>by simp only[RoF]at hr ⊢;exact⟨sB x cs o hr.1,zLj xs cs _ hr.2⟩
end
end
section
variable {St St':Stb}{G:Gh}{w:World}{s:Nat} (h:∀b x,St b=ik x→St' b=ik x)
 include h
mutual
theorem zJR:(t:T)→ ∀(p:List Nat),R St G w s t p→R St' G w s t p
 |.ro t,_,hr=>by simp only[R]at hr ⊢;grind[sB]
 |.sl k xs,p,hr=>by
  simp only[R]at hr ⊢
  rcases hr with hr|⟨b,cap,cs,e,h1,h2,h3,h4,h5,h6,h7,h8⟩
  ·grind
  ·exact .inr ⟨b,cap,cs,e,h1,h2,h3,h4,h5,h6,h7,zO9 xs p 0 b 0 k h8⟩
 |.agg xs,p,hr|.tup xs,p,hr=>by simp only[R]at hr ⊢;exact zOA xs p 0 hr
 |.ptr t,p,hr=>by
  simp only[R]at hr ⊢
  obtain⟨b,cs,e,h1,h2,h3,h6,h4,h5⟩:=hr;exact⟨b,cs,e,h1,h2,h3,h6,h4,zJR t _ h5⟩
 |.any,_,hr|.lit _,_,hr|.same _ _,_,hr|.addr _ _,_,hr|.sub _ _ _ _ _,_,hr=>by first|(simp only[R];done)|simpa only[R]using hr
theorem zO9:(xs:List T)→ ∀(p:List Nat)(i b o k:Nat),RL St G w s xs p i b o k→RL St' G w s xs p i b o k
 | [],_,_,_,_,_,_=>by have _:=h;simp only[RL]
 |x::xs,p,i,b,o,k,hr=>by simp only[RL]at hr ⊢;exact⟨hr.1,zJR x _ hr.2.1,zO9 xs p (i+1) b _ k hr.2.2⟩
theorem zOA:(xs:List T)→ ∀(p:List Nat)(i:Nat),RF St G w s xs p i→RF St' G w s xs p i
 | [],_,_,_=>by have _:=h;simp only[RF]
 |x::xs,p,i,hr=>by simp only[RF]at hr ⊢;exact⟨zJR x _ hr.1,zOA xs p (i+1) hr.2⟩
end
end
mutual
def strip:T→T
 |.lit v=>.lit v
 |.ro u=>if u.single then u else .any
 |.sl k xs=>.sl k (vA xs)
 |.agg xs=>.agg (vA xs)
 |.ptr t=>.ptr (strip t)
 |.any|.same _ _|.addr _ _|.sub _ _ _ _ _|.tup _=>.any
def vA:List T→List T
 | []=>[]
 |x::xs=>strip x::vA xs
end
theorem kJ:(xs:List T)→(vA xs).length=xs.length
 | []=>rfl
 |x::xs=>by simp[vA,kJ xs]
mutual
theorem zEa:(t:T)→(strip t).size=t.size
 |.agg xs=>by simp only[strip,T.size];exact zGi xs
 |.ro u=>by
  simp only[strip];split
  ·rename_i h;cases u<;>simp[T.single]at h<;>simp[T.size]
  rfl
 |.lit _|.sl _ _|.ptr _|.any|.same _ _|.addr _ _|.sub _ _ _ _ _|.tup _=>by rfl
theorem zGi:(xs:List T)→T.sizes (vA xs)=T.sizes xs
 | []=>rfl
 |x::xs=>by simp only[vA,T.sizes,zEa x,zGi xs]
end
theorem jD{St:Stb}{u:T}(hu:u.single=io){v:Value}{cs:Array Value}{o:Nat}(h:RoC St u #[v] 0)(hc:cs[o]? =ik v):RoC St u cs o:=by
 cases u<;>simp[T.single]at hu<;>simp only[RoC]at h ⊢ <;>simp at h<;>first
  |grind
  |grind
  |grind
  |grind
section
variable {St Sc:Stb}{G:Gh}{w:World}{s:Nat} (gA:∀s p,(G.hd s p).oneCell'=io) (eB:∀b x,St b=ik x→Sc b=ik x) (eH:∀b,(∃y,G.ow b=ik (s,y))→Sc b=w.heap[b]?)
 include gA eB eH
mutual
theorem frz:(t:T)→ ∀(p:List Nat)(b o:Nat)(cs:Array Value)(e:TypeId)(fr:Nat×Nat),w.heap[b]? =ik (.cells cs e fr)→Loc G w s t p b o→R St G w s t p→RoC Sc (strip t) cs o
 |.agg xs,p,b,o,cs,e,fr,hb,hl,hr=>by simp only[Loc,R,strip,RoC]at hl hr ⊢;exact zYZ xs p 0 b o cs e fr hb hl.2 hr
 |.tup _,_,_,_,_,_,_,_,hl,_=>by have _:=eH;simp only[Loc]at hl
 |.any,p,b,o,cs,e,fr,hb,hl,hr|.same _ _,p,b,o,cs,e,fr,hb,hl,hr|.addr _ _,p,b,o,cs,e,fr,hb,hl,hr|.sub _ _ _ _ _,p,b,o,cs,e,fr,hb,hl,hr=>by
  have h1:=(vD rfl hl).2.2;simp only[yR,World.cell?,hb]at h1;simp only[strip,RoC]
  grind
 |.lit v,p,b,o,cs,e,fr,hb,hl,hr=>by
  have h1:=(vD rfl hl).2.2;simp only[yR,World.cell?,hb]at h1;simp only[strip,RoC,R]at hr ⊢
  grind
 |.ro u,p,b,o,cs,e,fr,hb,hl,hr=>by
  have h1:=(vD rfl hl).2.2;simp only[yR,World.cell?,hb]at h1;simp only[strip,R]at hr ⊢
  split
  ·grind[jD,sB]
  ·simp only[RoC];grind
 |.sl k xs,p,b,o,cs,e,fr,hb,hl,hr=>by have h1:=(vD rfl hl).2.2;simp only[yR,World.cell?,hb]at h1;exact jD rfl (zLk (.sl k xs) p rfl hr) (by grind)
 |.ptr t,p,b,o,cs,e,fr,hb,hl,hr=>by have h1:=(vD rfl hl).2.2;simp only[yR,World.cell?,hb]at h1;exact jD rfl (zLk (.ptr t) p rfl hr) (by grind)
theorem zYZ:(xs:List T)→ ∀(p:List Nat)(j b o:Nat)(cs:Array Value)(e:TypeId)(fr:Nat×Nat),w.heap[b]? =ik (.cells cs e fr)→vK G w s xs p j b o→RF St G w s xs p j→RoF Sc (vA xs) cs o
 | [],_,_,_,_,_,_,_,_,_,_=>by have _:=gA;have _:=eB;have _:=eH;simp only[vA,RoF]
 |x::xs,p,j,b,o,cs,e,fr,hb,hl,hr=>by
  simp only[vK,RF,vA,RoF]at hl hr ⊢
  exact⟨frz x _ b o cs e fr hb hl.1 hr.1,by rw[zEa];exact zYZ xs p (j+1) b _ cs e fr hb hl.2 hr.2⟩
theorem zZa:(xs:List T)→ ∀(p:List Nat)(i b o k:Nat)(cs:Array Value)(e:TypeId)(fr:Nat×Nat),w.heap[b]? =ik (.cells cs e fr)→RL St G w s xs p i b o k→RoL Sc (vA xs) cs o k
 | [],_,_,_,_,_,_,_,_,_,_=>by have _:=gA;have _:=eB;have _:=eH;simp only[vA,RoL]
 |x::xs,p,i,b,o,k,cs,e,fr,hb,hr=>by
  simp only[RL,vA,RoL]at hr ⊢
  exact⟨frz x _ b o cs e fr hb hr.1.1 hr.2.1,zZa xs p (i+1) b _ k cs e fr hb hr.2.2⟩
theorem zLk:(t:T)→ ∀(p:List Nat),t.single=io→R St G w s t p→RoC Sc (strip t) #[G.hd s p] 0
 |.agg _,_,h,_|.tup _,_,h,_=>by grind[T.single]
 |.any,p,_,_|.same _ _,p,_,_|.addr _ _,p,_,_|.sub _ _ _ _ _,p,_,_=>by simp only[strip,RoC];simp_all
 |.lit v,p,_,hr=>by simp only[strip,RoC,R]at hr ⊢;grind
 |.ro u,p,_,hr=>by
  simp only[strip,R]at hr ⊢
  split
  ·grind[sB]
  ·simp only[RoC];grind
 |.sl k xs,p,_,hr=>by
  simp only[strip,R,RoC]at hr ⊢
  rw[kJ];rcases hr with⟨rfl,a,h1⟩|⟨b,cap,cs,e,h1,h2,h3,h4,h5,h6,h7,h8⟩
  ·grind[vA]
  ·exact⟨ik ⟨b,0,im⟩,cap,by simp[h1],h3,h4,fun _=>⟨b,0,cs,e,(0,0),rfl,by grind,zZa xs p 0 b 0 k cs e (0,0) h2 h8⟩⟩
 |.ptr t,p,_,hr=>by
  simp only[strip,R,RoC]at hr ⊢
  obtain⟨b,cs,e,h1,h2,h3,h6,h4,h5⟩:=hr;exact⟨b,0,cs,e,(0,0),by simp[h1],by grind,frz t _ b 0 cs e (0,0) h2 h4 h5⟩
end
end
end Go.Ab

namespace Go.Ab
open Go
mutual
def clo(E:Env):T→T
 |.agg ts=>.agg (zBs E ts)
 |.lit v=>.lit v
 |.ro u=>.ro u
 |.same r q=>match qZ E 4 r q with
  |some (_,_,.ro u)=>.ro u
  |some (_,_,.lit v)=>.lit v
  |some (_,_,t)=>if t.single then .ro (strip t)else .any
  |none=>.any
 |.sub r q k lo hi=>match qZ E 4 r q with
  |some (_,_,.sl k' xs)=>if k=k'∧lo≤hi∧hi≤xs.length then .ro (.sl k (((vA xs).drop lo).take (hi-lo)))else .any
  |_=>.any
 |.sl k xs=>.ro (strip (.sl k xs))
 |.ptr t=>.ro (strip (.ptr t))
 |.any|.addr _ _|.tup _=>.any
def zBs(E:Env):List T→List T
 | []=>[]
 |x::xs=>clo E x::zBs E xs
end
mutual
def qH(E:Env)(rs:List Nat)(s:Nat):T→Bool
 |.agg ts=>zAB E rs s ts
 |.same r q|.sub r q _ _ _=>match qZ E 4 r q with
  |some (r',_,_)=> !rs.contains r'
  |none=>io
 |.sl _ _|.ptr _=> !rs.contains s
 |.lit _|.ro _|.any|.addr _ _=>io
 |.tup _=>iq
def zAB(E:Env)(rs:List Nat)(s:Nat):List T→Bool
 | []=>io
 |x::xs=>qH E rs s x&&zAB E rs s xs
end
theorem zVf{St:Stb}{k:Nat}{xs:List T}{v:Value}{lo hi:Nat}(h:RoC St (.sl k xs) #[v] 0)(h1:lo≤hi)(h2:hi≤xs.length):RoC St (.sl k ((xs.drop lo).take (hi-lo))) #[zBi v k lo hi] 0:=by
 simp only[RoC]at h ⊢
 obtain⟨a',c,g4,g5,g6,g7⟩:=h;have hv:v=.slice a' xs.length c:=by simpa using g4
 subst hv;have gf:((xs.drop lo).take (hi-lo)).length=hi-lo:=by simp;omega
 refine⟨if c=lo then a' else a'.map (·.add (lo*k)),c-lo,by rw[gf];simp[zBi],by omega,by omega,?_⟩;intro gj;have eE:xs≠[]:=by rintro rfl;simp at gj
 obtain⟨b,o',cs',e',fr,rfl,h3,h4⟩:=g7 eE;have gE:c≠lo:=by rintro rfl;apply gj;apply Lm;omega
 exact⟨b,o'+lo*k,cs',e',fr,by simp[gE,uR],h3,zGR _ _ _ _ _ (zGQ _ _ _ _ _ h4)⟩
section
variable {Γ:Ctx}{E:Env}{G Gc:Gh}{a:Act}{w:World}{Sc:Stb}{rs:List Nat}{s i:Nat} (g9:Rep Γ E G a.tmps w) (eB:∀b x,Γ.St b=ik x→Sc b=ik x) (eH:∀r,r∉rs→ ∀b,(∃y,G.ow b=ik (r,y))→Sc b=w.heap[b]?) (gH:∀z,Gc.hd i z=G.hd s z)
 include g9 eB eH gH
mutual
theorem zWA:(t:T)→ ∀(p:List Nat),qH E rs s t=io→R Γ.St G w s t p→R Sc Gc w i (clo E t) p
 |.agg ts,p,h,hr=>by simp only[qH,clo,R]at h hr ⊢;exact zRC ts p 0 h hr
 |.tup _,_,h,_=>by simp[qH]at h
 |.lit v,p,_,hr=>by simp only[clo,R]at hr ⊢;rw[gH];exact hr
 |.ro u,p,_,hr=>by simp only[clo,R]at hr ⊢;rw[gH];exact sB eB u _ _ hr
 |.any,_,_,_|.addr _ _,_,_,_=>by simp only[clo,R]
 |.sl k xs,p,h,hr=>by simp only[qH,U2,Hd,decide_eq_false_iff_not]at h;have:=zLk (fun s p=>g9.mem.one s p) eB (eH s h) (.sl k xs) p rfl hr;simp only[clo,R];rw[gH];exact this
 |.ptr t,p,h,hr=>by simp only[qH,U2,Hd,decide_eq_false_iff_not]at h;have:=zLk (fun s p=>g9.mem.one s p) eB (eH s h) (.ptr t) p rfl hr;simp only[clo,R];rw[gH];exact this
 |.same r q,p,h,hr=>by
  simp only[qH,clo,R]at h hr ⊢
  cases hf:qZ E 4 r q with
  |none=>simp only[R]
  |some x=>
   obtain⟨r',q',t⟩:=x;simp only[hf,U2,Hd,decide_eq_false_iff_not]at h;obtain⟨h1,h2,_⟩:=zDd g9 4 r q r' q' t hf;have h3:Gc.hd i p=G.hd r' q':=by rw[gH,hr,h2]
   by_cases hs:t.single=io
   ·have h4:=zLk (fun s p=>g9.mem.one s p) eB (eH r' h) t q' hs h1
    cases t with
    |ro u=>simp only[R]at h1 ⊢;rw[h3];exact sB eB u _ _ h1
    |lit v=>simp only[R]at h1 ⊢;rw[h3];exact h1
    |agg _=>simp[T.single]at hs
    |tup _=>simp[T.single]at hs
    |_=>simp only[hs,if_true,R];rw[h3];exact h4
   ·cases t<;>simp[T.single]at hs<;>simp[T.single,R]
 |.sub r q k lo hi,p,h,hr=>by
  simp only[qH,clo,R]at h hr ⊢
  cases hf:qZ E 4 r q with
  |none=>simp only[R]
  |some x=>
   obtain⟨r',q',t⟩:=x;simp only[hf,U2,Hd,decide_eq_false_iff_not]at h;obtain⟨h1,h2,_⟩:=zDd g9 4 r q r' q' t hf;cases t with
   |sl k' xs=>
    simp only[];split
    ·rename_i hc
     obtain⟨rfl,fd,fc⟩:=hc;have h4:=zLk (fun s p=>g9.mem.one s p) eB (eH r' h) (.sl k xs) q' rfl h1;simp only[strip]at h4;simp only[R];rw[gH,hr,h2];exact zVf h4 fd (by rw[kJ];exact fc)
    ·simp only[R]
   |_=>simp only[R]
theorem zRC:(ts:List T)→ ∀(p:List Nat)(j:Nat),zAB E rs s ts=io→RF Γ.St G w s ts p j→RF Sc Gc w i (zBs E ts) p j
 | [],_,_,_,_=>by have _:=g9;have _:=eB;have _:=eH;have _:=gH;simp only[zBs,RF]
 |x::xs,p,j,h,hr=>by
  simp only[zAB,J3,zBs,RF]at h hr ⊢
  exact⟨zWA x _ h.1 hr.1,zRC xs p (j+1) h.2 hr.2⟩
end
end
section
variable {E:Env}{G Gc:Gh}{rs:List Nat}{s i:Nat}
theorem zHf(t:T)(h:t.single=io):(clo E t).single=io:=by cases t<;>simp[T.single]at h<;>simp only[clo]<;>first|rfl|(split<;>first|rfl|(split<;>rfl))
mutual
theorem zRD(gH:∀z,Gc.hd i z=G.hd s z):(t:T)→ ∀(p:List Nat),qH E rs s t=io→vals Gc i (clo E t) p=vals G s t p
 |.agg ts,p,h=>by simp only[qH,clo,vals]at h ⊢;exact zF2 gH ts p 0 h
 |.tup _,_,h=>by simp[qH]at h
 |.lit _,p,_|.ro _,p,_|.any,p,_|.addr _ _,p,_|.sl _ _,p,_|.ptr _,p,_|.same _ _,p,_|.sub _ _ _ _ _,p,_=>by
  have h1:∀u:T,u.single=io→vals Gc i u p=[G.hd s p]:=fun u hu=>by cases u<;>simp[T.single]at hu<;>simp[vals,gH]
  rw[h1 _ (zHf _ rfl)];simp[vals]
theorem zF2(gH:∀z,Gc.hd i z=G.hd s z):(ts:List T)→ ∀(p:List Nat)(j:Nat),zAB E rs s ts=io→yH Gc i (zBs E ts) p j=yH G s ts p j
 | [],_,_,_=>by simp only[zBs,yH]
 |x::xs,p,j,h=>by simp only[zAB,J3]at h;simp only[zBs,yH];rw[zRD gH x _ h.1,zF2 gH xs p _ h.2]
end
theorem zJS(gH:∀z,Gc.hd i z=G.hd s z)(t:T)(h:qH E rs s t=io):mkV Gc i (clo E t) []=mkV G s t []:=by
 cases t with
 |agg ts=>simp only[qH]at h;simp only[clo,mkV,zF2 gH ts [] 0 h]
 |tup _=>simp[qH]at h
 |_=>rw[xS (zHf _ rfl),xS rfl,gH]
end
end Go.Ab
