/- The program's ComplementAt returns what the reference's returns,for all arguments;no conditions. -/
import Derived.Orders
import Derived.Laws.AppendOwn
import Derived.Laws.MakeOwn
import Derived.Great.BuildSlice
import Derived.Laws.Tables
open List renaming replicate→J1,length_append→J7,append_assoc→J9,getElem?_append_right→Ja,mem_map→Je,append_nil→Jf,getElem?_eq_some_iff→Jg,length_cons→Jl,map_cons→Jn,getElem?_map→Jo,mem_cons→Jp,mem_append→Jt,eq_nil_of_length_eq_zero→Ju,getElem?_append_left→Jv,nil_append→Jw,length_replicate→Jy,all_eq_true→K0,replicate_succ→K6,getElem?_append→K8,ext_getElem?→Kd,take_succ_cons→Ke,reverse_reverse→Kf,nodup_cons→Ki,set_cons_zero→Kj,set_cons_succ→Kk,mem_range→Ku,mem_of_getElem?→Kw,drop_eq_getElem_cons→Kx,cons_append→Kz,length_take→L6,flatMap_cons→La,contains_eq_mem→Lg,getElem?_drop→Ln,length_set→Lq,length_nil→Hu,reverse_nil→Hw,map_nil→U0,reverse_cons→U6,map_take→Ua,getElem?_take_of_lt→Ui,reverse_append→Qd,cons→Ql,take_append_drop→Qq,take_append→Qz,isEmpty_iff→Ja0,getElem?_cons_succ→Ja8,size_toArray→Jae,flatMap_append→Jc5
open Bool renaming and_eq_true→J2,false_eq_true→Lu,not_eq_true'→Hp,false_and→Jad,true_and→Jch
open Nat renaming zero_add→J6,le_refl→Jh,lt_or_ge→Kb,mul_le_mul_right→Lh,le_trans→Lv,add_assoc→H0,succ_mul→H3,add_mul→H5,mul_le_mul→Gu,min_eq_left→Ur,lt_of_lt_of_le→Qp,add_zero→Qy
open Array renaming getElem?_setIfInBounds→J8,length_toList→K3,getD_eq_getD_getElem?→K4,getElem?_toList→Kc,getElem?_eq_some_iff→Le,range→Jb5,ext'→Jc7
open Int renaming toNat_natCast→Jd,natCast_mul→Jac
open Option renaming isSome_none→Q5,map_none→Ja5
open Prod renaming mk→Qh
open Option renaming some→ud,none→ue
open Bool renaming true→uf,false→ug
theorem uh{p:Prop}[h:Decidable p](a:¬p):decide p=false:=decide_eq_false a
theorem ui{p:Prop}[h:Decidable p](a:p):decide p=true:=decide_eq_true a
namespace Go.Ab
open Go
inductive T where
 |any
 |lit (v:Value)
 |ro (t:T)
 |same (r:Nat) (p:List Nat)
 |addr (r:Nat) (p:List Nat)
 |sub (r:Nat) (p:List Nat) (k lo hi:Nat)
 |sl (k:Nat) (xs:List T)
 |agg (xs:List T)
 |ptr (t:T)
 |tup (xs:List T)
 deriving Inhabited
abbrev Stb:=Nat→Option Obj
mutual
def T.size:T→Nat
 |.agg xs=>T.sizes xs
 |_=>1
def T.sizes:List T→Nat
 | []=>0
 |x::xs=>x.size+T.sizes xs
end
mutual
def RoC(St:Stb):T→Array Value→Nat→Prop
 |.any,cs,o=> ∃v,cs[o]? =ud v∧v.oneCell'=uf
 |.lit v,cs,o=>cs[o]? =ud v∧v.oneCell'=uf
 |.ro _,_,_=>False
 |.sl k xs,cs,o=> ∃a c,cs[o]? =ud (.slice a xs.length c)∧xs.length≤c∧c≤maxLen∧
   (xs≠[]→ ∃b o' cs' e fr,a=ud ⟨b,o',ue⟩∧St b=ud (.cells cs' e fr)∧RoL St xs cs' o' k)
 |.agg xs,cs,o=>RoF St xs cs o
 |.ptr t,cs,o=> ∃b o' cs' e fr,cs[o]? =ud (.pointer (ud ⟨b,o',ue⟩))∧St b=ud (.cells cs' e fr)∧RoC St t cs' o'
 |.same _ _,_,_=>False
 |.addr _ _,_,_=>False
 |.sub _ _ _ _ _,_,_=>False
 |.tup _,_,_=>False
def RoL(St:Stb):List T→Array Value→Nat→Nat→Prop
 | [],_,_,_=>True
 |x::xs,cs,o,k=>RoC St x cs o∧RoL St xs cs (o+k) k
def RoF(St:Stb):List T→Array Value→Nat→Prop
 | [],_,_=>True
 |x::xs,cs,o=>RoC St x cs o∧RoF St xs cs (o+x.size)
end
structure Gh where
 hd:Nat→List Nat→Value
 ad:Nat→List Nat→Addr
 lb:Nat→Nat→Option (Bool×Nat×List Nat)
 ow:Nat→Option (Nat×List Nat)
def yE(w:World)(b o:Nat):Option Value:=w.cell? ⟨b,o,ue⟩
mutual
def Loc(G:Gh)(w:World)(s:Nat):T→List Nat→Nat→Nat→Prop
 |.agg xs,p,b,o=>G.ad s p=⟨b,o,ue⟩∧wQ G w s xs p 0 b o
 |.tup _,_,_,_=>False
 |.any,p,b,o|.lit _,p,b,o|.ro _,p,b,o|.same _ _,p,b,o|.addr _ _,p,b,o|.sub _ _ _ _ _,p,b,o|.sl _ _,p,b,o|.ptr _,p,b,o=>
  G.ad s p=⟨b,o,ue⟩∧G.lb b o=ud (ug,s,p)∧yE w b o=ud (G.hd s p)
def wQ(G:Gh)(w:World)(s:Nat):List T→List Nat→Nat→Nat→Nat→Prop
 | [],_,_,_,_=>True
 |x::xs,p,j,b,o=>Loc G w s x (j::p) b o∧wQ G w s xs p (j+1) b (o+x.size)
end
def zAw(v:Value)(k lo hi:Nat):Value:=
 match v with
 |.slice a _ c=>.slice (if c=lo then a else a.map (·.add (lo*k))) (hi-lo) (c-lo)
 |v=>v
mutual
def R(St:Stb)(G:Gh)(w:World)(s:Nat):T→List Nat→Prop
 |.any,_=>True
 |.lit v,p=>G.hd s p=v
 |.ro t,p=>RoC St t #[G.hd s p] 0
 |.same r q,p=>G.hd s p=G.hd r q
 |.addr r q,p=>G.hd s p=.pointer (ud (G.ad r q))
 |.sub r q k lo hi,p=>G.hd s p=zAw (G.hd r q) k lo hi
 |.sl k xs,p=>(xs=[]∧ ∃a,G.hd s p=.slice a 0 0)∨ ∃b o0 cap cs e,G.hd s p=.slice (ud ⟨b,o0,ue⟩) xs.length cap∧
   w.heap[b]? =ud (.cells cs e (0,0))∧xs.length≤cap∧cap≤maxLen∧o0+cap*k≤cs.size∧G.ow b=ud (s,p)∧
   (∀o,o0+xs.length*k≤o→o<o0+cap*k→G.lb b o=ud (uf,s,p))∧RL St G w s xs p 0 b o0 k
 |.agg xs,p=>RF St G w s xs p 0
 |.ptr t,p=> ∃b cs e,G.hd s p=.pointer (ud ⟨b,0,ue⟩)∧w.heap[b]? =ud (.cells cs e (0,0))∧cs.size=t.size∧G.ow b=ud (s,p)∧
   Loc G w s t (0::p) b 0∧R St G w s t (0::p)
 |.tup xs,p=>RF St G w s xs p 0
def RL(St:Stb)(G:Gh)(w:World)(s:Nat):List T→List Nat→Nat→Nat→Nat→Nat→Prop
 | [],_,_,_,_,_=>True
 |x::xs,p,i,b,o,k=>(Loc G w s x (i::p) b o∧x.size=k)∧R St G w s x (i::p)∧RL St G w s xs p (i+1) b (o+k) k
def RF(St:Stb)(G:Gh)(w:World)(s:Nat):List T→List Nat→Nat→Prop
 | [],_,_=>True
 |x::xs,p,j=>R St G w s x (j::p)∧RF St G w s xs p (j+1)
end
mutual
def yM(φ:Nat→List Nat→Prop):T→Prop
 |.same r p|.addr r p|.sub r p _ _ _=>φ r p
 |.sl _ xs|.agg xs|.tup xs=>xG φ xs
 |.ptr t=>yM φ t
 |.any|.lit _|.ro _=>True
def xG(φ:Nat→List Nat→Prop):List T→Prop
 | []=>True
 |x::xs=>yM φ x∧xG φ xs
end
mutual
theorem yM.mono{φ ψ:Nat→List Nat→Prop}(h:∀r p,φ r p→ψ r p):(t:T)→yM φ t→yM ψ t
 |.same _ _,ht|.addr _ _,ht|.sub _ _ _ _ _,ht=>h _ _ ht
 |.sl _ xs,ht|.agg xs,ht|.tup xs,ht=>by simp only[yM]at ht ⊢;exact xG.mono h xs ht
 |.ptr t,ht=>by simp only[yM]at ht ⊢;exact yM.mono h t ht
 |.any,_|.lit _,_|.ro _,_=>by simp[yM]
theorem xG.mono{φ ψ:Nat→List Nat→Prop}(h:∀r p,φ r p→ψ r p):(xs:List T)→xG φ xs→xG ψ xs
 | [],_=>trivial
 |x::xs,hx=>⟨yM.mono h x hx.1,xG.mono h xs hx.2⟩
end
mutual
theorem yM.triv{φ:Nat→List Nat→Prop}(h:∀r p,φ r p):(t:T)→yM φ t
 |.same _ _|.addr _ _|.sub _ _ _ _ _=>by simp only[yM];exact h _ _
 |.sl _ xs|.agg xs|.tup xs=>by simp only[yM];exact xG.triv h xs
 |.ptr t=>by simp only[yM];exact yM.triv h t
 |.any|.lit _|.ro _=>by simp only[yM]
theorem xG.triv{φ:Nat→List Nat→Prop}(h:∀r p,φ r p):(xs:List T)→xG φ xs
 | []=>by simp only[xG]
 |x::xs=>by simp only[xG];exact⟨yM.triv h x,xG.triv h xs⟩
end
abbrev zS(t:T):Prop:=yM (fun _ _=>False) t
abbrev yP(xs:List T):Prop:=xG (fun _ _=>False) xs
def Blk(w w':World):Prop:=∀(b:Nat) cs e,w.heap[b]? =ud (.cells cs e (0,0))→ ∃cs',w'.heap[b]? =ud (.cells cs' e (0,0))∧cs'.size=cs.size
structure MovesE (G:Gh) (w:World) (G':Gh) (w':World) (s:Nat) (p:List Nat) (s':Nat) (p':List Nat):Prop where
 hd:∀z,G'.hd s' (z++p')=G.hd s (z++p)
 ad:∀z,z≠[]→G'.ad s' (z++p')=G.ad s (z++p)
 lb:∀b o f z,z≠[]→(∃y,G.ow b=ud (s,y))→G.lb b o=ud (f,s,z++p)→G'.lb b o=ud (f,s',z++p')∧yE w' b o=yE w b o
 ow:∀b z,z≠[]→G.ow b=ud (s,z++p)→G'.ow b=ud (s',z++p')
 blk:Blk w w'
structure zFg (G:Gh) (w:World) (G':Gh) (w':World) (s:Nat) (p:List Nat) (s':Nat) (p':List Nat):Prop extends MovesE G w G' w' s p s' p' where
 sp:∀b o,(∃y,G.ow b=ud (s,y))→G.lb b o=ud (uf,s,p)→G'.lb b o=ud (uf,s',p')∧yE w' b o=yE w b o
 ow0:∀b,G.ow b=ud (s,p)→G'.ow b=ud (s',p')
def jL(G G':Gh)(r:Nat)(p:List Nat):Prop:=G'.hd r p=G.hd r p∧G'.ad r p=G.ad r p
section
variable {St:Stb}{G:Gh}{w:World}{G':Gh}{w':World}{s:Nat}{p:List Nat}{s':Nat}{p':List Nat}
mutual
theorem zDb(hm:MovesE G w G' w' s p s' p'):(t:T)→ ∀(z:List Nat)(b o:Nat),z≠[]→(∃y,G.ow b=ud (s,y))→Loc G w s t (z++p) b o→Loc G' w' s' t (z++p') b o
 |.agg xs,z,b,o,hz,gS,h=>by
  simp only[Loc]at h ⊢
  exact⟨(hm.ad z hz).trans h.1,zGL hm xs z 0 b o gS h.2⟩
 |.any,z,b,o,hz,gS,h|.lit _,z,b,o,hz,gS,h|.ro _,z,b,o,hz,gS,h|.same _ _,z,b,o,hz,gS,h|.addr _ _,z,b,o,hz,gS,h|.sub _ _ _ _ _,z,b,o,hz,gS,h|.sl _ _,z,b,o,hz,gS,h|.ptr _,z,b,o,hz,gS,h=>by
  simp only[Loc]at h ⊢
  obtain⟨h1,h2,h3⟩:=h;have hl:=hm.lb b o ug z hz gS h2;exact⟨(hm.ad z hz).trans h1,hl.1,by rw[hl.2,h3,hm.hd]⟩
 |.tup _,_,_,_,_,_,h=>by simp only[Loc]at h
theorem zGL(hm:MovesE G w G' w' s p s' p'):(xs:List T)→ ∀(z:List Nat)(j b o:Nat),(∃y,G.ow b=ud (s,y))→wQ G w s xs (z++p) j b o→wQ G' w' s' xs (z++p') j b o
 | [],_,_,_,_,_,_=>by simp only[wQ]
 |x::xs,z,j,b,o,gS,h=>by
  simp only[wQ]at h ⊢
  exact⟨zDb hm x (j::z) b o (by simp) gS h.1,zGL hm xs z (j+1) b _ gS h.2⟩
end
mutual
theorem zDc(hm:MovesE G w G' w' s p s' p'):(t:T)→ ∀(z:List Nat),z≠[]→yM (jL G G') t→R St G w s t (z++p)→R St G' w' s' t (z++p')
 |.any,_,_,_,_=>by simp only[R]
 |.lit _,z,_,_,h=>by simp only[R]at h ⊢;rw[hm.hd];exact h
 |.ro _,z,_,_,h=>by simp only[R]at h ⊢;rw[hm.hd];exact h
 |.same r q,z,_,hk,h=>by simp only[R]at h ⊢;rw[hm.hd,hk.1];exact h
 |.addr r q,z,_,hk,h=>by simp only[R]at h ⊢;rw[hm.hd,hk.2];exact h
 |.sub r q k lo hi,z,_,hk,h=>by simp only[R]at h ⊢;rw[hm.hd,hk.1];exact h
 |.agg xs,z,_,hk,h=>by simp only[R,yM]at h hk ⊢;exact zDd hm xs z 0 hk h
 |.tup xs,z,_,hk,h=>by simp only[R,yM]at h hk ⊢;exact zDd hm xs z 0 hk h
 |.sl k xs,z,hz,hk,h=>by
  simp only[R,yM]at h hk ⊢
  rw[hm.hd];rcases h with h|⟨b,o0,cap,cs,e,h1,h2,h3,h4,h5,h6,h7,h8⟩
  ·exact .inl h
  ·obtain⟨cs',fg,gw⟩:=hm.blk b cs e h2
   exact .inr ⟨b,o0,cap,cs',e,h1,fg,h3,h4,by omega,hm.ow b z hz h6,fun o ho fI=>(hm.lb b o uf z hz ⟨_,h6⟩ (h7 o ho (by omega))).1,zHF hm xs z 0 b o0 k ⟨_,h6⟩ hk h8⟩
 |.ptr t,z,hz,hk,h=>by
  simp only[R,yM]at h hk ⊢
  rw[hm.hd];obtain⟨b,cs,e,h1,h2,h3,h6,h4,h5⟩:=h;obtain⟨cs',fg,gw⟩:=hm.blk b cs e h2;exact⟨b,cs',e,h1,fg,by omega,hm.ow b z hz h6,zDb hm t (0::z) b 0 (by simp) ⟨_,h6⟩ h4,zDc hm t (0::z) (by simp) hk h5⟩
theorem zHF(hm:MovesE G w G' w' s p s' p'):(xs:List T)→ ∀(z:List Nat)(i b o k:Nat),(∃y,G.ow b=ud (s,y))→xG (jL G G') xs→RL St G w s xs (z++p) i b o k→RL St G' w' s' xs (z++p') i b o k
 | [],_,_,_,_,_,_,_,_=>by simp only[RL]
 |x::xs,z,i,b,o,k,gS,hk,h=>by
  simp only[RL,xG]at h hk ⊢
  exact⟨⟨zDb hm x (i::z) b o (by simp) gS h.1.1,h.1.2⟩,zDc hm x (i::z) (by simp) hk.1 h.2.1,zHF hm xs z (i+1) b _ k gS hk.2 h.2.2⟩
theorem zDd(hm:MovesE G w G' w' s p s' p'):(xs:List T)→ ∀(z:List Nat)(j:Nat),xG (jL G G') xs→RF St G w s xs (z++p) j→RF St G' w' s' xs (z++p') j
 | [],_,_,_,_=>by simp only[RF]
 |x::xs,z,j,hk,h=>by
  simp only[RF,xG]at h hk ⊢
  exact⟨zDc hm x (j::z) (by simp) hk.1 h.1,zDd hm xs z (j+1) hk.2 h.2⟩
end
theorem qP(hm:zFg G w G' w' s p s' p')(t:T)(hk:yM (jL G G') t)(h:R St G w s t p):R St G' w' s' t p':=by
 have hd0:G'.hd s' p'=G.hd s p:=by simpa using hm.hd []
 cases t with
 |any=>simp only[R]
 |lit _=>simp only[R]at h ⊢;rw[hd0];exact h
 |ro _=>simp only[R]at h ⊢;rw[hd0];exact h
 |same r q=>simp only[R]at h ⊢;rw[hd0,hk.1];exact h
 |addr r q=>simp only[R]at h ⊢;rw[hd0,hk.2];exact h
 |sub r q k lo hi=>simp only[R]at h ⊢;rw[hd0,hk.1];exact h
 |agg xs=>simp only[R,yM]at h hk ⊢;simpa using zDd hm.toMovesE xs [] 0 hk (by simpa using h)
 |tup xs=>simp only[R,yM]at h hk ⊢;simpa using zDd hm.toMovesE xs [] 0 hk (by simpa using h)
 |sl k xs=>
  simp only[R,yM]at h hk ⊢
  rw[hd0];rcases h with h|⟨b,o0,cap,cs,e,h1,h2,h3,h4,h5,h6,h7,h8⟩
  ·exact .inl h
  ·obtain⟨cs',fg,gw⟩:=hm.blk b cs e h2
   exact .inr ⟨b,o0,cap,cs',e,h1,fg,h3,h4,by omega,hm.ow0 b h6,fun o ho fI=>(hm.sp b o ⟨_,h6⟩ (h7 o ho (by omega))).1,by simpa using zHF hm.toMovesE xs [] 0 b o0 k ⟨_,h6⟩ hk (by simpa using h8)⟩
 |ptr t=>
  simp only[R,yM]at h hk ⊢
  rw[hd0];obtain⟨b,cs,e,h1,h2,h3,h6,h4,h5⟩:=h;obtain⟨cs',fg,gw⟩:=hm.blk b cs e h2;exact⟨b,cs',e,h1,fg,by omega,hm.ow0 b h6,zDb hm.toMovesE t [0] b 0 (by simp) ⟨_,h6⟩ h4,zDc hm.toMovesE t [0] (by simp) hk h5⟩
theorem zOo(hm:zFg G w G' w' s p s' p')(t:T)(z:List Nat)(hk:yM (jL G G') t)(h:R St G w s t (z++p)):R St G' w' s' t (z++p'):=by
 cases z with
 |nil=>exact qP hm t hk h
 |cons i z=>exact zDc hm.toMovesE t (i::z) (by simp) hk h
end
end Go.Ab

namespace Go.Ab
open Go
def T.get:T→List Nat→Option T
 |t,[]=>ud t
 |.sl _ xs,i::f|.agg xs,i::f|.tup xs,i::f=>match xs[i]? with
  |some x=>x.get f
  |none=>ue
 |.ptr t,i::f=>if i=0 then t.get f else ue
 |.any,_::_|.lit _,_::_|.ro _,_::_|.same _ _,_::_|.addr _ _,_::_|.sub _ _ _ _ _,_::_=>ue
termination_by structural _ f=>f
def T.set:T→List Nat→T→T
 |_,[],u=>u
 |.sl k xs,i::f,u=>match xs[i]? with
  |some x=>.sl k (xs.set i (x.set f u))
  |none=>.sl k xs
 |.agg xs,i::f,u=>match xs[i]? with
  |some x=>.agg (xs.set i (x.set f u))
  |none=>.agg xs
 |.tup xs,i::f,u=>match xs[i]? with
  |some x=>.tup (xs.set i (x.set f u))
  |none=>.tup xs
 |.ptr t,i::f,u=>if i=0 then .ptr (t.set f u)else .ptr t
 |.any,_::_,_=>.any
 |.lit v,_::_,_=>.lit v
 |.ro t,_::_,_=>.ro t
 |.same r q,_::_,_=>.same r q
 |.addr r q,_::_,_=>.addr r q
 |.sub r q k lo hi,_::_,_=>.sub r q k lo hi
termination_by structural _ f _=>f
def T.locd:T→List Nat→Bool
 |_,[]=>ug
 |.sl _ _,_::_|.ptr _,_::_=>uf
 |.agg xs,i::f|.tup xs,i::f=>match xs[i]? with
  |some x=>x.locd f
  |none=>ug
 |.any,_::_|.lit _,_::_|.ro _,_::_|.same _ _,_::_|.addr _ _,_::_|.sub _ _ _ _ _,_::_=>ug
termination_by structural _ f=>f
abbrev rp(f p:List Nat):List Nat:=f.reverse++p
theorem zAb(i:Nat)(f p:List Nat):rp (i::f) p=rp f (i::p):=by simp[rp]
section
variable {St:Stb}{G:Gh}{w:World}{s:Nat}
theorem tS:(xs:List T)→ ∀(p:List Nat)(i0 b o k i:Nat)(x:T),RL St G w s xs p i0 b o k→xs[i]? =ud x→
  Loc G w s x ((i0+i)::p) b (o+i*k)∧x.size=k∧R St G w s x ((i0+i)::p)
 | [],_,_,_,_,_,_,_,_,h=>by simp at h
 |y::ys,p,i0,b,o,k,i,x,hr,h=>by
  simp only[RL]at hr;cases i with
  |zero=>
   simp at h;subst h;simpa using⟨hr.1.1,hr.1.2,hr.2.1⟩
  |succ i=>
   have:=tS ys p (i0+1) b (o+k) k i x hr.2.2 (by simpa using h);rw[show i0+(i+1)=i0+1+i from by omega,show o+(i+1)*k=o+k+i*k from by rw[H3];omega];exact this
theorem zAm:(xs:List T)→ ∀(p:List Nat)(j i:Nat)(x:T),RF St G w s xs p j→xs[i]? =ud x→R St G w s x ((j+i)::p)
 | [],_,_,_,_,_,h=>by simp at h
 |y::ys,p,j,i,x,hr,h=>by
  simp only[RF]at hr;cases i with
  |zero=>simp at h;subst h;simpa using hr.1
  |succ i=>
   have:=zAm ys p (j+1) i x hr.2 (by simpa using h)
   rwa [show j+(i+1)=j+1+i from by omega]
theorem zID:(xs:List T)→ ∀(p:List Nat)(j b o i:Nat)(x:T),wQ G w s xs p j b o→xs[i]? =ud x→
  ∃o',Loc G w s x ((j+i)::p) b o'∧o≤o'∧o'+x.size≤o+T.sizes xs
 | [],_,_,_,_,_,_,_,h=>by simp at h
 |y::ys,p,j,b,o,i,x,hr,h=>by
  simp only[wQ]at hr;cases i with
  |zero=>simp at h;subst h;exact⟨o,by simpa using hr.1,by omega,by simp[T.sizes]⟩
  |succ i=>
   obtain⟨o',h1,h2,h3⟩:=zID ys p (j+1) b (o+y.size) i x hr.2 (by simpa using h);refine⟨o',?_,by omega,by simp only[T.sizes];omega⟩
   rwa [show j+(i+1)=j+1+i from by omega]
def At(G:Gh)(w:World)(s:Nat)(t:T)(p:List Nat):Prop:=
 ∃b o cs e,Loc G w s t p b o∧w.heap[b]? =ud (.cells cs e (0,0))∧o+t.size≤cs.size
theorem At.field{xs:List T}{p:List Nat}(h:At G w s (.agg xs) p){i:Nat}{x:T}(hx:xs[i]? =ud x):At G w s x (i::p):=by obtain⟨b,o,cs,e,hl,hh,hs⟩:=h;simp only[Loc]at hl;obtain⟨o',h1,h2,h3⟩:=zID xs p 0 b o i x hl.2 hx;simp only[T.size]at hs;exact⟨b,o',cs,e,by simpa using h1,hh,by omega⟩
theorem zBQ{k:Nat}{xs:List T}{p:List Nat}(h:R St G w s (.sl k xs) p){i:Nat}{x:T}(hx:xs[i]? =ud x):
  At G w s x (i::p)∧R St G w s x (i::p):=by
 simp only[R]at h;have hi:=(Jg.1 hx).1;rcases h with⟨rfl,_⟩|⟨b,o0,cap,cs,e,h1,h2,h3,h4,h5,h6,h7,h8⟩
 ·simp at hx
 ·obtain⟨a1,a2,a3⟩:=tS xs p 0 b o0 k i x h8 hx
  simp only[J6]at a1 a3;refine⟨⟨b,o0+i*k,cs,e,a1,h2,?_⟩,a3⟩;rw[a2,H0,←H3];exact Lv (Nat.add_le_add_left (Lh _ (by omega)) _) h5
theorem zAx{t:T}{p:List Nat}(h:R St G w s (.ptr t) p):At G w s t (0::p)∧R St G w s t (0::p):=by simp only[R]at h;obtain⟨b,cs,e,h1,h2,h3,h6,h4,h5⟩:=h;exact⟨⟨b,0,cs,e,h4,h2,by omega⟩,h5⟩
theorem kH:(f:List Nat)→ ∀(t u:T)(p:List Nat),At G w s t p→R St G w s t p→t.get f=ud u→At G w s u (rp f p)∧R St G w s u (rp f p)
 | [],t,u,p,ha,h,hg=>by simp[T.get]at hg;subst hg;simpa[rp]using⟨ha,h⟩
 |i::f,t,u,p,ha,h,hg=>by
  rw[zAb];cases t with
  |sl k xs=>
   simp only[T.get]at hg;cases hx:xs[i]? with
   |none=>simp[hx]at hg
   |some x=>rw[hx]at hg;exact kH f x u _ (zBQ h hx).1 (zBQ h hx).2 hg
  |ptr t=>
   simp only[T.get]at hg;split at hg
   ·rename_i hi;subst hi;exact kH f t u _ (zAx h).1 (zAx h).2 hg
   ·cases hg
  |agg xs=>
   simp only[T.get]at hg;cases hx:xs[i]? with
   |none=>simp[hx]at hg
   |some x=>rw[hx]at hg;exact kH f x u _ (ha.field hx) (by simp only[R]at h;simpa using zAm xs p 0 i x h hx) hg
  |tup xs=>obtain⟨b,o,cs,e,hl,_⟩:=ha;simp only[Loc]at hl
  |_=>simp[T.get]at hg
theorem kI:(f:List Nat)→ ∀(t u:T)(p:List Nat),R St G w s t p→t.get f=ud u→R St G w s u (rp f p)∧(t.locd f=uf→At G w s u (rp f p))
 | [],t,u,p,h,hg=>by simp[T.get]at hg;subst hg;simpa[rp,T.locd]using h
 |i::f,t,u,p,h,hg=>by
  rw[zAb];cases t with
  |sl k xs=>
   simp only[T.get]at hg;cases hx:xs[i]? with
   |none=>simp[hx]at hg
   |some x=>rw[hx]at hg;exact⟨(kH f x u _ (zBQ h hx).1 (zBQ h hx).2 hg).2,fun _=>(kH f x u _ (zBQ h hx).1 (zBQ h hx).2 hg).1⟩
  |ptr t=>
   simp only[T.get]at hg;split at hg
   ·rename_i hi;subst hi;exact⟨(kH f t u _ (zAx h).1 (zAx h).2 hg).2,fun _=>(kH f t u _ (zAx h).1 (zAx h).2 hg).1⟩
   ·cases hg
  |agg xs=>
   simp only[T.get,T.locd]at hg ⊢
   cases hx:xs[i]? with
   |none=>simp[hx]at hg
   |some x=>rw[hx]at hg;exact kI f x u _ (by simp only[R]at h;simpa using zAm xs p 0 i x h hx) hg
  |tup xs=>
   simp only[T.get,T.locd]at hg ⊢
   cases hx:xs[i]? with
   |none=>simp[hx]at hg
   |some x=>rw[hx]at hg;exact kI f x u _ (by simp only[R]at h;simpa using zAm xs p 0 i x h hx) hg
  |_=>simp[T.get]at hg
end
structure Upd (G:Gh) (w:World) (G':Gh) (w':World) (s:Nat) (tgt:List Nat):Prop where
 hd:∀p,¬tgt<:+p→G'.hd s p=G.hd s p
 ad:∀p,¬tgt<:+p→G'.ad s p=G.ad s p
 lb:∀b o f p,G.lb b o=ud (f,s,p)→ ¬tgt<:+p→G'.lb b o=ud (f,s,p)∧yE w' b o=yE w b o
 ow:∀b p,G.ow b=ud (s,p)→ ¬tgt<:+p→G'.ow b=ud (s,p)
 blk:Blk w w'
section
variable {St:Stb}{G:Gh}{w:World}{G':Gh}{w':World}{s:Nat}{tgt:List Nat}
theorem Upd.moves(h:Upd G w G' w' s tgt){p:List Nat}(hp:∀z,¬tgt<:+z++p):zFg G w G' w' s p s p where
 hd z:=h.hd _ (hp z)
 ad z _:=h.ad _ (hp z)
 lb b o f z _ _ hl:=h.lb b o f _ hl (hp z)
 ow b z _ hl:=h.ow b _ hl (hp z)
 sp b o _ hl:=h.lb b o uf p hl (hp [])
 ow0 b hl:=h.ow b p hl (hp [])
 blk:=h.blk
mutual
theorem zDe(hm:Upd G w G' w' s tgt):(t:T)→ ∀(p:List Nat)(b o:Nat),(∀z,¬tgt<:+z++p)→Loc G w s t p b o→Loc G' w' s t p b o
 |.agg xs,p,b,o,hz,h=>by
  simp only[Loc]at h ⊢
  exact⟨(hm.ad p (hz [])).trans h.1,zIE hm xs p 0 b o hz h.2⟩
 |.any,p,b,o,hz,h|.lit _,p,b,o,hz,h|.ro _,p,b,o,hz,h|.same _ _,p,b,o,hz,h|.addr _ _,p,b,o,hz,h|.sub _ _ _ _ _,p,b,o,hz,h|.sl _ _,p,b,o,hz,h|.ptr _,p,b,o,hz,h=>by
  simp only[Loc]at h ⊢
  obtain⟨h1,h2,h3⟩:=h;have hl:=hm.lb b o ug p h2 (hz []);exact⟨(hm.ad p (hz [])).trans h1,hl.1,by rw[hl.2,h3,hm.hd p (hz [])]⟩
 |.tup _,_,_,_,_,h=>by simp only[Loc]at h
theorem zIE(hm:Upd G w G' w' s tgt):(xs:List T)→ ∀(p:List Nat)(j b o:Nat),(∀z,¬tgt<:+z++p)→wQ G w s xs p j b o→wQ G' w' s xs p j b o
 | [],_,_,_,_,_,_=>by simp only[wQ]
 |x::xs,p,j,b,o,hz,h=>by
  simp only[wQ]at h ⊢
  exact⟨zDe hm x (j::p) b o (fun z=>by have:=hz (z++[j]);simpa using this) h.1,zIE hm xs p (j+1) b _ hz h.2⟩
end
theorem zIF(hm:Upd G w G' w' s tgt)(t u:T)(p:List Nat)(b o:Nat)(ht:∀xs,t≠.agg xs)(hu:∀xs,u≠.agg xs)(b8:∀xs,u≠.tup xs)(hz:¬tgt<:+p)(h:Loc G w s t p b o):Loc G' w' s u p b o:=by
 have h3:G.ad s p=⟨b,o,ue⟩∧G.lb b o=ud (ug,s,p)∧yE w b o=ud (G.hd s p):=by
  cases t with
  |agg xs=>exact absurd rfl (ht xs)
  |tup xs=>simp only[Loc]at h
  |_=>simpa only[Loc]using h
 obtain⟨h1,h2,h3⟩:=h3;have hl:=hm.lb b o ug p h2 hz;have h4:G'.ad s p=⟨b,o,ue⟩∧G'.lb b o=ud (ug,s,p)∧yE w' b o=ud (G'.hd s p):=⟨(hm.ad p hz).trans h1,hl.1,by rw[hl.2,h3,hm.hd p hz]⟩;cases u with
 |agg xs=>exact absurd rfl (hu xs)
 |tup xs=>exact absurd rfl (b8 xs)
 |_=>simpa only[Loc]using h4
theorem qC{f p:List Nat}{i i':Nat}(hi:i'≠i)(z:List Nat):¬f.reverse++(i::p)<:+z++(i'::p):=by
 rintro⟨y,hy⟩
 rw[←J9]at hy;have:=List.append_inj_right' hy rfl;simp at this;exact hi this.symm
theorem qQ{f p:List Nat}{i:Nat}:¬f.reverse++(i::p)<:+p:=by intro h;have:=h.length_le;simp at this;omega
theorem zGM:(xs:List T)→ ∀(i:Nat)(x y:T),xs[i]? =ud x→y.size=x.size→T.sizes (xs.set i y)=T.sizes xs
 | [],_,_,_,h,_=>by simp at h
 |z::zs,i,x,y,h,hs=>by
  cases i with
  |zero=>simp at h;subst h;simp[T.sizes,hs]
  |succ i=>simp only[Kk,T.sizes,zGM zs i x y (by simpa using h) hs]
theorem zDf:(f:List Nat)→ ∀(t u u0:T),t.get f=ud u0→u.size=u0.size→(t.set f u).size=t.size
 | [],t,u,u0,h,hs=>by simp[T.get]at h;subst h;simpa[T.set]using hs
 |i::f,t,u,u0,h,hs=>by
  cases t with
  |sl k xs=>simp only[T.get]at h;cases hx:xs[i]? <;>simp[hx,T.set,T.size]at h ⊢
  |tup xs=>simp only[T.get]at h;cases hx:xs[i]? <;>simp[hx,T.set,T.size]at h ⊢
  |agg xs=>
   simp only[T.get]at h;cases hx:xs[i]? with
   |none=>simp[hx]at h
   |some x=>
    rw[hx]at h;simp only[T.set,hx,T.size];exact zGM xs i x _ hx (zDf f x u u0 h hs)
  |ptr t=>simp only[T.get]at h;split at h<;>simp_all [T.set,T.size]
  |_=>simp[T.get]at h
theorem zIG(hm:Upd G w G' w' s tgt):(xs:List T)→ ∀(p:List Nat)(j b o i:Nat)(x y:T),wQ G w s xs p j b o→xs[i]? =ud x→y.size=x.size→
  (∀i',i'≠j+i→ ∀z,¬tgt<:+z++(i'::p))→(∀o',Loc G w s x ((j+i)::p) b o'→Loc G' w' s y ((j+i)::p) b o')→wQ G' w' s (xs.set i y) p j b o
 | [],_,_,_,_,_,_,_,_,h,_,_,_=>by simp at h
 |z::zs,p,j,b,o,i,x,y,hl,h,hs,hz,hy=>by
  simp only[wQ]at hl;cases i with
  |zero=>
   simp at h;subst h;simp only[Kj,wQ,hs];exact⟨by simpa using hy o (by simpa using hl.1),LocF_upd' hm zs p (j+1) b _ (fun i' eH=>hz i' (by omega)) hl.2⟩
  |succ i=>
   simp only[Kk,wQ];refine⟨zDe hm z _ b o (hz j (by omega)) hl.1,zIG hm zs p (j+1) b _ i x y hl.2 (by simpa using h) hs (fun i' eH=>hz i' (by omega)) ?_⟩;rw[show j+1+i=j+(i+1)from by omega];exact hy
where LocF_upd' (hm:Upd G w G' w' s tgt):(xs:List T)→ ∀(p:List Nat)(j b o:Nat),(∀i',j≤i'→ ∀z,¬tgt<:+z++(i'::p))→wQ G w s xs p j b o→wQ G' w' s xs p j b o
 | [],_,_,_,_,_,_=>by simp only[wQ]
 |x::xs,p,j,b,o,hz,h=>by
  simp only[wQ]at h ⊢
  exact⟨zDe hm x (j::p) b o (hz j (Jh _)) h.1,LocF_upd' hm xs p (j+1) b _ (fun i' eH=>hz i' (by omega)) h.2⟩
theorem zHG:(f:List Nat)→ ∀(t u u0:T)(p:List Nat)(b o:Nat),Upd G w G' w' s (rp f p)→Loc G w s t p b o→t.get f=ud u0→u.size=u0.size→
  (∀o',Loc G w s u0 (rp f p) b o'→Loc G' w' s u (rp f p) b o')→Loc G' w' s (t.set f u) p b o
 | [],t,u,u0,p,b,o,hm,hl,hg,hs,hu=>by simp[T.get]at hg;subst hg;simpa[T.set,rp]using hu o (by simpa[rp]using hl)
 |i::f,t,u,u0,p,b,o,hm,hl,hg,hs,hu=>by
  have gz:=hm;rw[zAb]at gz;cases t with
  |sl k xs=>
   have:∃ys,(T.sl k xs).set (i::f) u=.sl k ys:=by simp only[T.set];split<;>exact⟨_,rfl⟩
   obtain⟨ys,hy⟩:=this;rw[hy];exact zIF gz (.sl k xs) (.sl k ys) p b o (by simp) (by simp) (by simp) qQ hl
  |ptr t=>
   have:∃ys,(T.ptr t).set (i::f) u=.ptr ys:=by simp only[T.set];split<;>exact⟨_,rfl⟩
   obtain⟨ys,hy⟩:=this;rw[hy];exact zIF gz (.ptr t) (.ptr ys) p b o (by simp) (by simp) (by simp) qQ hl
  |agg xs=>
   simp only[T.get]at hg;cases hx:xs[i]? with
   |none=>simp[hx]at hg
   |some x=>
    rw[hx]at hg;simp only[T.set,hx];simp only[Loc]at hl ⊢
    refine⟨(gz.ad p qQ).trans hl.1,zIG gz xs p 0 b o i x _ hl.2 hx (zDf f x u u0 hg hs) (fun i' eH z=>qC (by omega) z) ?_⟩;intro o' ho';simp only[J6]at ho' ⊢
    exact zHG f x u u0 (i::p) b o' gz ho' hg hs (by simpa only[zAb]using hu)
  |tup xs=>simp only[Loc]at hl
  |_=>simp[T.get]at hg
end
end Go.Ab

namespace Go.Ab
open Go
section
variable {St:Stb}{G:Gh}{w:World}{G':Gh}{w':World}{s:Nat}{tgt:List Nat}
theorem zLV(hm:Upd G w G' w' s tgt)(t:T)(p:List Nat)(hz:∀z,¬tgt<:+z++p)(hk:yM (jL G G') t)(h:R St G w s t p):R St G' w' s t p:=by simpa using zOo (hm.moves hz) t [] hk (by simpa using h)
theorem zOp(hm:Upd G w G' w' s tgt):(xs:List T)→ ∀(p:List Nat)(i b o k:Nat),(∀i',i≤i'→ ∀z,¬tgt<:+z++(i'::p))→xG (jL G G') xs→RL St G w s xs p i b o k→RL St G' w' s xs p i b o k
 | [],_,_,_,_,_,_,_,_=>by simp only[RL]
 |x::xs,p,i,b,o,k,hz,hk,h=>by
  simp only[RL,xG]at h hk ⊢
  exact⟨⟨zDe hm x (i::p) b o (hz i (Jh _)) h.1.1,h.1.2⟩,zLV hm x (i::p) (hz i (Jh _)) hk.1 h.2.1,
   zOp hm xs p (i+1) b _ k (fun i' eH=>hz i' (by omega)) hk.2 h.2.2⟩
theorem zOq(hm:Upd G w G' w' s tgt):(xs:List T)→ ∀(p:List Nat)(i0 b o k i:Nat)(x y:T),RL St G w s xs p i0 b o k→xs[i]? =ud x→y.size=x.size→xG (jL G G') xs→
  (∀i',i'≠i0+i→ ∀z,¬tgt<:+z++(i'::p))→(∀o',Loc G w s x ((i0+i)::p) b o'→Loc G' w' s y ((i0+i)::p) b o')→R St G' w' s y ((i0+i)::p)→
  RL St G' w' s (xs.set i y) p i0 b o k
 | [],_,_,_,_,_,_,_,_,_,h,_,_,_,_,_=>by simp at h
 |z::zs,p,i0,b,o,k,i,x,y,hr,h,hs,hk,hz,hl,hy=>by
  simp only[RL,xG]at hr hk;cases i with
  |zero=>
   simp at h;subst h;simp only[Kj,RL];exact⟨⟨by simpa using hl o (by simpa using hr.1.1),by omega⟩,by simpa using hy,zOp hm zs p (i0+1) b _ k (fun i' eH=>hz i' (by omega)) hk.2 hr.2.2⟩
  |succ i=>
   simp only[Kk,RL];rw[show i0+(i+1)=i0+1+i from by omega]at hl hy hz;exact⟨⟨zDe hm z _ b o (hz i0 (by omega)) hr.1.1,hr.1.2⟩,zLV hm z _ (hz i0 (by omega)) hk.1 hr.2.1,zOq hm zs p (i0+1) b _ k i x y hr.2.2 (by simpa using h) hs hk.2 hz hl hy⟩
theorem zOr(hm:Upd G w G' w' s tgt):(xs:List T)→ ∀(p:List Nat)(i:Nat),(∀i',i≤i'→ ∀z,¬tgt<:+z++(i'::p))→xG (jL G G') xs→RF St G w s xs p i→RF St G' w' s xs p i
 | [],_,_,_,_,_=>by simp only[RF]
 |x::xs,p,i,hz,hk,h=>by
  simp only[RF,xG]at h hk ⊢
  exact⟨zLV hm x (i::p) (hz i (Jh _)) hk.1 h.1,zOr hm xs p (i+1) (fun i' eH=>hz i' (by omega)) hk.2 h.2⟩
theorem zKB(hm:Upd G w G' w' s tgt):(xs:List T)→ ∀(p:List Nat)(i0 i:Nat)(x y:T),RF St G w s xs p i0→xs[i]? =ud x→xG (jL G G') xs→
  (∀i',i'≠i0+i→ ∀z,¬tgt<:+z++(i'::p))→R St G' w' s y ((i0+i)::p)→
  RF St G' w' s (xs.set i y) p i0
 | [],_,_,_,_,_,_,h,_,_,_=>by simp at h
 |z::zs,p,i0,i,x,y,hr,h,hk,hz,hy=>by
  simp only[RF,xG]at hr hk;cases i with
  |zero=>
   simp at h;subst h;simp only[Kj,RF];exact⟨by simpa using hy,zOr hm zs p (i0+1) (fun i' eH=>hz i' (by omega)) hk.2 hr.2⟩
  |succ i=>
   simp only[Kk,RF];rw[show i0+(i+1)=i0+1+i from by omega]at hy hz;exact⟨zLV hm z _ (hz i0 (by omega)) hk.1 hr.1,zKB hm zs p (i0+1) i x y hr.2 (by simpa using h) hk.2 hz hy⟩
theorem vH{φ:Nat→List Nat→Prop}:(xs:List T)→xG φ xs→ ∀(i:Nat)(x:T),xs[i]? =ud x→yM φ x
 | [],_,_,_,h=>by simp at h
 |y::ys,hk,i,x,h=>by
  simp only[xG]at hk;cases i with
  |zero=>simp at h;subst h;exact hk.1
  |succ i=>exact vH ys hk.2 i x (by simpa using h)
theorem zEw:(f:List Nat)→ ∀(t u u0:T)(p:List Nat),Upd G w G' w' s (rp f p)→R St G w s t p→t.get f=ud u0→u.size=u0.size→yM (jL G G') t→
  (∀b o,Loc G w s u0 (rp f p) b o→Loc G' w' s u (rp f p) b o)→R St G' w' s u (rp f p)→R St G' w' s (t.set f u) p
 | [],t,u,u0,p,hm,hr,hg,hs,hk,hl,hu=>by simpa[T.set,rp]using hu
 |i::f,t,u,u0,p,hm,hr,hg,hs,hk,hl,hu=>by
  have gz:=hm;rw[zAb]at gz hl hu;cases t with
  |sl k xs=>
   simp only[T.get]at hg;cases hx:xs[i]? with
   |none=>simp[hx]at hg
   |some x=>
    rw[hx]at hg;simp only[T.set,hx];simp only[R,yM]at hr hk ⊢
    rcases hr with⟨rfl,_⟩|⟨b,o0,cap,cs,e,h1,h2,h3,h4,h5,h6,h7,h8⟩
    ·simp at hx
    ·obtain⟨cs',fg,gw⟩:=gz.blk b cs e h2
     refine .inr ⟨b,o0,cap,cs',e,by rw[gz.hd p qQ,Lq];exact h1,fg,by rw[Lq];exact h3,h4,by omega,gz.ow b p h6 qQ,?_,?_⟩
     ·intro o ho fI
      rw[Lq]at ho;exact(gz.lb b o uf p (h7 o ho (by omega)) qQ).1
     ·have bB:=tS xs p 0 b o0 k i x h8 hx
      simp only[J6]at bB;refine zOq gz xs p 0 b o0 k i x _ h8 hx (zDf f x u u0 hg hs) hk (fun i' eH z=>qC (by omega) z) ?_ ?_
      ·intro o' ho'
       simp only[J6]at ho' ⊢
       exact zHG f x u u0 (i::p) b o' gz ho' hg hs (fun o''=>hl b o'')
      ·simp only[J6]
       exact zEw f x u u0 (i::p) gz bB.2.2 hg hs (vH xs hk i x hx) hl hu
  |ptr t=>
   simp only[T.get]at hg;split at hg
   ·rename_i hi;subst hi
    simp only[T.set,if_true];simp only[R,yM]at hr hk ⊢
    obtain⟨b,cs,e,h1,h2,h3,h6,h4,h5⟩:=hr;obtain⟨cs',fg,gw⟩:=gz.blk b cs e h2;refine⟨b,cs',e,by rw[gz.hd p qQ];exact h1,fg,by rw[zDf f t u u0 hg hs];omega,gz.ow b p h6 qQ,zHG f t u u0 (0::p) b 0 gz h4 hg hs (fun o''=>hl b o''),zEw f t u u0 (0::p) gz h5 hg hs hk hl hu⟩
   ·cases hg
  |agg xs=>
   simp only[T.get]at hg;cases hx:xs[i]? with
   |none=>simp[hx]at hg
   |some x=>
    rw[hx]at hg;simp only[T.set,hx];simp only[R,yM]at hr hk ⊢
    refine zKB gz xs p 0 i x _ hr hx hk (fun i' eH z=>qC (by omega) z) ?_;simp only[J6];exact zEw f x u u0 (i::p) gz (by simpa using zAm xs p 0 i x hr hx) hg hs (vH xs hk i x hx) hl hu
  |tup xs=>
   simp only[T.get]at hg;cases hx:xs[i]? with
   |none=>simp[hx]at hg
   |some x=>
    rw[hx]at hg;simp only[T.set,hx];simp only[R,yM]at hr hk ⊢
    refine zKB gz xs p 0 i x _ hr hx hk (fun i' eH z=>qC (by omega) z) ?_;simp only[J6];exact zEw f x u u0 (i::p) gz (by simpa using zAm xs p 0 i x hr hx) hg hs (vH xs hk i x hx) hl hu
  |_=>simp[T.get]at hg
end
end Go.Ab

namespace Go.Ab
open Go
mutual
def vals(G:Gh)(s:Nat):T→List Nat→List Value
 |.agg xs,p=>zW G s xs p 0
 |.any,p|.lit _,p|.ro _,p|.same _ _,p|.addr _ _,p|.sub _ _ _ _ _,p|.sl _ _,p|.ptr _,p|.tup _,p=>[G.hd s p]
def zW(G:Gh)(s:Nat):List T→List Nat→Nat→List Value
 | [],_,_=>[]
 |x::xs,p,j=>vals G s x (j::p)++zW G s xs p (j+1)
end
def tG(G:Gh)(s:Nat)(t:T)(p:List Nat):Value:=
 match t with
 |.agg xs=>.agg (zW G s xs p 0).toArray
 |_=>G.hd s p
def qX(G:Gh)(s:Nat):List T→List Nat→Nat→List Value
 | [],_,_=>[]
 |x::xs,p,j=>tG G s x (j::p)::qX G s xs p (j+1)
def mkV(G:Gh)(s:Nat)(t:T)(p:List Nat):Value:=
 match t with
 |.agg xs=>.agg (zW G s xs p 0).toArray
 |.tup xs=>.tuple (qX G s xs p 0).toArray
 |_=>G.hd s p
mutual
def Top:T→Prop
 |.sl _ xs=>yP xs
 |.ptr t=>zS t
 |.agg xs|.tup xs=>vK xs
 |.any|.lit _|.ro _|.same _ _|.addr _ _|.sub _ _ _ _ _=>True
def vK:List T→Prop
 | []=>True
 |x::xs=>Top x∧vK xs
end
mutual
theorem Top.of_clean:(t:T)→zS t→Top t
 |.sl _ xs,h=>by simpa only[Top,zS,yM]using h
 |.ptr t,h=>by simpa only[Top,zS,yM]using h
 |.agg xs,h|.tup xs,h=>by simp only[Top];exact vK.of_clean xs (by simpa only[zS,yM]using h)
 |.any,_|.lit _,_|.ro _,_|.same _ _,_|.addr _ _,_|.sub _ _ _ _ _,_=>by simp only[Top]
theorem vK.of_clean:(xs:List T)→yP xs→vK xs
 | [],_=>by simp only[vK]
 |x::xs,h=>by simp only[vK];exact⟨Top.of_clean x h.1,vK.of_clean xs h.2⟩
end
abbrev Chg:=List (Nat×Nat)
def Off(chg:Chg)(s:Nat)(p:List Nat):Prop:=∀n,(s,n)∈chg→p.length<n
def zCs(chg:Chg)(r:Nat)(p:List Nat):Bool:=chg.all fun c=>c.1 != r||decide (p.length<c.2)
theorem zNf{chg:Chg}{r:Nat}{p:List Nat}(h:zCs chg r p=uf):Off chg r p:=by
 intro n hn;have:=K0.1 h _ hn
 grind
mutual
def T.okB(chg:Chg):T→Bool
 |.same r p|.addr r p|.sub r p _ _ _=>zCs chg r p
 |.agg xs|.tup xs=>zIH chg xs
 |.any|.lit _|.ro _|.sl _ _|.ptr _=>uf
def zIH(chg:Chg):List T→Bool
 | []=>uf
 |x::xs=>x.okB chg&&zIH chg xs
end
mutual
theorem jQ{chg:Chg}:(t:T)→Top t→t.okB chg=uf→yM (Off chg) t
 |.same r p,_,h|.addr r p,_,h|.sub r p _ _ _,_,h=>by simp only[T.okB]at h;simp only[yM];exact zNf h
 |.agg xs,ht,h|.tup xs,ht,h=>by simp only[T.okB,Top]at h ht;simp only[yM];exact zFh xs ht h
 |.sl _ xs,ht,_=>by simp only[Top]at ht;simp only[yM];grind[xG.mono]
 |.ptr t,ht,_=>by simp only[Top]at ht;simp only[yM];grind[yM.mono]
 |.any,_,_|.lit _,_,_|.ro _,_,_=>by simp only[yM]
theorem zFh{chg:Chg}:(xs:List T)→vK xs→zIH chg xs=uf→xG (Off chg) xs
 | [],_,_=>by simp only[xG]
 |x::xs,ht,h=>by simp only[zIH,vK,J2]at h ht;simp only[xG];exact⟨jQ x ht.1 h.1,zFh xs ht.2 h.2⟩
end
abbrev Env:=Nat→Option T
abbrev Wr:=List (Nat×Option T)
def Wr.find(wr:Wr)(s:Nat):Option (Option T):=
 match wr with
 | []=>ue
 |(k,x)::r=>if k=s then ud x else Wr.find r s
def Env.app(E:Env)(wr:Wr)(chg:Chg):Env:=fun s=>
 match wr.find s with
 |some x=>x
 |none=>match E s with
  |some t=>if t.okB chg then ud t else ue
  |none=>ue
structure Ctx where
 St:Stb
 W:Nat→Prop
 w0:World
 N:Nat
def zBq(Γ:Ctx)(w:World)(b:Nat):Prop:=b<w.heap.size∧(Γ.w0.heap.size≤b∨Γ.W b)∧Γ.St b=ue
structure zRG (w w':World):Prop where
 blk:Blk w w'
 os:w'.os=w.os
 out:w'.output=w.output
structure Mem (Γ:Ctx) (G:Gh) (w:World):Prop where
 one:∀s p,(G.hd s p).oneCell'=uf
 lb:∀b o l,G.lb b o=ud l→zBq Γ w b
 ow:∀b l,G.ow b=ud l→zBq Γ w b
 st:∀b x,Γ.St b=ud x→w.heap[b]? =ud x
 fr:∀b,b<Γ.w0.heap.size→ ¬Γ.W b→w.heap[b]? =Γ.w0.heap[b]?
 sz:Γ.w0.heap.size≤w.heap.size
 bk:zRG Γ.w0 w
theorem Blk.trans{w w' w'':World}(h:Blk w w')(h':Blk w' w''):Blk w w'':=fun b cs e hb=>by
 obtain⟨cs',h1,h2⟩:=h b cs e hb;obtain⟨cs'',h3,h4⟩:=h' b cs' e h1
 grind
theorem zRG.trans{w w' w'':World}(h:zRG w w')(h':Blk w' w'')(ho:w''.os=w'.os)(hq:w''.output=w'.output):zRG w w'':=⟨h.blk.trans h',ho.trans h.os,hq.trans h.out⟩
def Ent(Γ:Ctx)(G:Gh)(w:World)(v:Option Value)(s:Nat)(t:T):Prop:=v=ud (mkV G s t [])∧R Γ.St G w s t []∧Top t
structure Rep (Γ:Ctx) (E:Env) (G:Gh) (tmps:Array Value) (w:World):Prop where
 size:tmps.size=Γ.N
 ent:∀s t,E s=ud t→Ent Γ G w tmps[s]? s t
 mem:Mem Γ G w
def Sim(Γ:Ctx)(E:Env)(a:Act)(w:World):Prop:=a.defers=[]∧ ∃G,Rep Γ E G a.tmps w
structure zCn (S S':Stb) (W:Nat→Prop) (n:Nat):Prop where
 le:∀b x,S b=ud x→S' b=ud x
 nw:∀b,S b=ue→S' b≠ue→n≤b∨W b
theorem zCn.refl{S:Stb}{W:Nat→Prop}{n:Nat}:zCn S S W n:=⟨fun _ _ h=>h,by grind⟩
theorem zCn.trans{S S' S'':Stb}{W:Nat→Prop}{n:Nat}(h:zCn S S' W n)(h':zCn S' S'' W n):zCn S S'' W n:=
 ⟨fun b x hb=>h'.le b x (h.le b x hb),fun b hb eC=>by
  cases hs:S' b with
  |none=>exact h'.nw b hs eC
  |some x=>exact h.nw b hb (by grind)⟩
abbrev Ctx.at(Γ:Ctx)(S:Stb):Ctx:={ Γ with St:=S }
def qD(Γ:Ctx)(E:Env)(a:Act)(w:World):Prop:=∃S,zCn Γ.St S Γ.W Γ.w0.heap.size∧Sim (Γ.at S) E a w
theorem qD.of{Γ:Ctx}{E:Env}{a:Act}{w:World}(h:Sim Γ E a w):qD Γ E a w:=⟨Γ.St,.refl,h⟩
theorem qD.up{Γ:Ctx}{E:Env}{a:Act}{w:World}{S:Stb}(hS:zCn Γ.St S Γ.W Γ.w0.heap.size)(h:qD (Γ.at S) E a w):qD Γ E a w:=by obtain⟨S',h1,h2⟩:=h;exact⟨S',hS.trans h1,h2⟩
structure sE (chg:Chg) (G:Gh) (w:World) (G':Gh) (w':World):Prop where
 hd:∀s p,Off chg s p→G'.hd s p=G.hd s p
 ad:∀s p,Off chg s p→G'.ad s p=G.ad s p
 lb:∀b o f s p,(∃y,G.ow b=ud (s,y))→G.lb b o=ud (f,s,p)→(∀n,(s,n)∉chg)→G'.lb b o=ud (f,s,p)∧yE w' b o=yE w b o
 ow:∀b s p,G.ow b=ud (s,p)→(∀n,(s,n)∉chg)→G'.ow b=ud (s,p)
 blk:Blk w w'
theorem Off.of_not{chg:Chg}{s:Nat}(h:∀n,(s,n)∉chg)(p:List Nat):Off chg s p:=fun n hn=>absurd hn (h n)
section
variable {Γ:Ctx}{G G':Gh}{w w':World}{s:Nat}{chg:Chg}
mutual
theorem zAc{s':Nat}:(t:T)→ ∀(p p':List Nat),(∀z,G'.hd s' (z++p')=G.hd s (z++p))→vals G' s' t p'=vals G s t p
 |.agg xs,p,p',h=>by simp only[vals];exact zDg xs p p' 0 h
 |.any,p,p',h|.lit _,p,p',h|.ro _,p,p',h|.same _ _,p,p',h|.addr _ _,p,p',h|.sub _ _ _ _ _,p,p',h|.sl _ _,p,p',h|.ptr _,p,p',h|.tup _,p,p',h=>by simp only[vals];rw[show G'.hd s' p'=G.hd s p from by simpa using h []]
theorem zDg{s':Nat}:(xs:List T)→ ∀(p p':List Nat)(j:Nat),(∀z,G'.hd s' (z++p')=G.hd s (z++p))→zW G' s' xs p' j=zW G s xs p j
 | [],_,_,_,_=>by rfl
 |x::xs,p,p',j,h=>by simp only[zW];rw[zAc x (j::p) (j::p') (fun z=>by have:=h (z++[j]);grind),zDg xs p p' (j+1) h]
end
theorem zAI{s':Nat}(t:T)(p p':List Nat)(h:∀z,G'.hd s' (z++p')=G.hd s (z++p)):tG G' s' t p'=tG G s t p:=by
 unfold tG;split
 ·grind[zDg]
 ·simpa using h []
theorem zLW{s':Nat}:(xs:List T)→ ∀(p p':List Nat)(j:Nat),(∀z,G'.hd s' (z++p')=G.hd s (z++p))→qX G' s' xs p' j=qX G s xs p j
 | [],_,_,_,_=>by rfl
 |x::xs,p,p',j,h=>by simp only[qX];rw[zAI x (j::p) (j::p') (fun z=>by have:=h (z++[j]);simpa using this),zLW xs p p' (j+1) h]
theorem zDL{s':Nat}(t:T)(p p':List Nat)(h:∀z,G'.hd s' (z++p')=G.hd s (z++p)):mkV G' s' t p'=mkV G s t p:=by
 unfold mkV;split
 ·grind[zDg]
 ·grind[zLW]
 ·simpa using h []
theorem sE.moves(hk:sE chg G w G' w')(hs:∀n,(s,n)∉chg)(p:List Nat):zFg G w G' w' s p s p where
 hd _:=hk.hd _ _ (.of_not hs _)
 ad _ _:=hk.ad _ _ (.of_not hs _)
 lb b o f _ _ gS hl:=hk.lb b o f s _ gS hl hs
 ow b _ _ hl:=hk.ow b s _ hl hs
 sp b o gS hl:=hk.lb b o uf s _ gS hl hs
 ow0 b hl:=hk.ow b s _ hl hs
 blk:=hk.blk
theorem sE.keepR(hk:sE chg G w G' w'){t:T}(h:yM (Off chg) t):yM (jL G G') t:=
 yM.mono (fun r p hr=>⟨hk.hd r p hr,hk.ad r p hr⟩) t h
theorem Ent.keep(hk:sE chg G w G' w')(hs:∀n,(s,n)∉chg){v:Option Value}{t:T}(ht:t.okB chg=uf)(h:Ent Γ G w v s t):Ent Γ G' w' v s t:=by
 obtain⟨h1,h2,h3⟩:=h;refine⟨?_,?_,h3⟩
 ·rw[h1,zDL t [] [] (fun z=>hk.hd _ _ (.of_not hs _))]
 ·simpa using zOo (hk.moves hs []) t [] (hk.keepR (jQ t h3 ht)) (by grind)
end
theorem wR{Γ:Ctx}{E:Env}{G G':Gh}{tmps tmps':Array Value}{w w':World}{wr:Wr}{chg:Chg}(h:Rep Γ E G tmps w)
  (gL:tmps'.size=tmps.size)(hk:sE chg G w G' w')(gx:Mem Γ G' w')
  (gC:∀s,wr.find s=ue→(∀n,(s,n)∉chg)∧tmps'[s]? =tmps[s]?)
  (ec:∀s t,wr.find s=ud (ud t)→Ent Γ G' w' tmps'[s]? s t):Rep Γ (E.app wr chg) G' tmps' w' where
 size:=by rw[gL,h.size]
 mem:=gx
 ent s t hs:=by
  unfold Env.app at hs;cases hf:wr.find s with
  |some x=>
   grind
  |none=>
   rw[hf]at hs;simp at hs;cases he:E s with
   |none=>grind
   |some u=>
    simp[he]at hs;obtain⟨gG,rfl⟩:=hs;rw[(gC s hf).2];exact Ent.keep hk (gC s hf).1 gG (h.ent s u he)
end Go.Ab

namespace Go.Ab
open Go
mutual
def cpT(s:Nat):T→List Nat→T
 |.lit v,_=>.lit v
 |.ro t,_=>.ro t
 |.same r q,_=>.same r q
 |.addr r q,_=>.addr r q
 |.sub r q k lo hi,_=>.sub r q k lo hi
 |.agg xs,p=>.agg (cpF s xs p 0)
 |.any,p|.sl _ _,p|.ptr _,p|.tup _,p=>.same s p
def cpF(s:Nat):List T→List Nat→Nat→List T
 | [],_,_=>[]
 |x::xs,p,j=>cpT s x (j::p)::cpF s xs p (j+1)
end
mutual
theorem tY(s:Nat):(t:T)→ ∀p,Top (cpT s t p)
 |.agg xs,p=>by simp only[cpT,Top];exact zLX s xs p 0
 |.lit _,_|.ro _,_|.same _ _,_|.addr _ _,_|.sub _ _ _ _ _,_|.any,_|.sl _ _,_|.ptr _,_|.tup _,_=>by simp only[cpT,Top]
theorem zLX(s:Nat):(xs:List T)→ ∀p j,vK (cpF s xs p j)
 | [],_,_=>by simp only[cpF,vK]
 |x::xs,p,j=>by simp only[cpF,vK];exact⟨tY s x _,zLX s xs p _⟩
end
section
variable {St:Stb}{G G':Gh}{w w':World}{s d:Nat}
mutual
theorem zC8(hs:∀p,G'.hd s p=G.hd s p):(t:T)→ ∀(p p':List Nat),(∀z,G'.hd d (z++p')=G.hd s (z++p))→(∀xs,t≠.tup xs)→yM (jL G G') (cpT s t p)→R St G w s t p→R St G' w' d (cpT s t p) p'
 |.lit _,p,p',hd,_,_,h=>by simp only[cpT,R]at h ⊢;rw[show G'.hd d p'=_ from by simpa using hd []];exact h
 |.ro _,p,p',hd,_,_,h=>by simp only[cpT,R]at h ⊢;rw[show G'.hd d p'=_ from by simpa using hd []];exact h
 |.same r q,p,p',hd,_,hk,h=>by simp only[cpT,R,yM]at h hk ⊢;rw[show G'.hd d p'=_ from by simpa using hd [],hk.1];exact h
 |.addr r q,p,p',hd,_,hk,h=>by simp only[cpT,R,yM]at h hk ⊢;rw[show G'.hd d p'=_ from by simpa using hd [],hk.2];exact h
 |.sub r q k lo hi,p,p',hd,_,hk,h=>by simp only[cpT,R,yM]at h hk ⊢;rw[show G'.hd d p'=_ from by simpa using hd [],hk.1];exact h
 |.any,p,p',hd,_,_,_|.sl _ _,p,p',hd,_,_,_|.ptr _,p,p',hd,_,_,_=>by simp only[cpT,R];rw[show G'.hd d p'=_ from by simpa using hd [],hs]
 |.tup xs,_,_,_,h,_,_=>absurd rfl (h xs)
 |.agg xs,p,p',hd,_,hk,h=>by simp only[cpT,R,yM]at h hk ⊢;exact zHH hs xs p p' 0 hd hk h
theorem zHH(hs:∀p,G'.hd s p=G.hd s p):(xs:List T)→ ∀(p p':List Nat)(j:Nat),(∀z,G'.hd d (z++p')=G.hd s (z++p))→xG (jL G G') (cpF s xs p j)→RF St G w s xs p j→RF St G' w' d (cpF s xs p j) p' j
 | [],_,_,_,_,_,_=>by simp only[cpF,RF]
 |x::xs,p,p',j,hd,hk,h=>by
  simp only[cpF,RF,xG]at h hk ⊢
  refine⟨?_,zHH hs xs p p' (j+1) hd hk.2 h.2⟩
  by_cases hx:∃ys,x=.tup ys
  ·obtain⟨ys,rfl⟩:=hx
   simp only[cpT,R];rw[show G'.hd d (j::p')=_ from by simpa using hd [j],hs]
  ·exact zC8 hs x (j::p) (j::p') (fun z=>by have:=hd (z++[j]);simpa using this) (fun ys e=>hx ⟨ys,e⟩) hk.1 h.1
end
mutual
theorem zNg:(t:T)→ ∀(p p':List Nat),(∀z,G'.hd d (z++p')=G.hd s (z++p))→vals G' d (cpT s t p) p'=vals G s t p
 |.agg xs,p,p',h=>by simp only[cpT,vals];exact zC9 xs p p' 0 h
 |.any,p,p',h|.lit _,p,p',h|.ro _,p,p',h|.same _ _,p,p',h|.addr _ _,p,p',h|.sub _ _ _ _ _,p,p',h|.sl _ _,p,p',h|.ptr _,p,p',h|.tup _,p,p',h=>by simp only[cpT,vals];rw[show G'.hd d p'=G.hd s p from by simpa using h []]
theorem zC9:(xs:List T)→ ∀(p p':List Nat)(j:Nat),(∀z,G'.hd d (z++p')=G.hd s (z++p))→zW G' d (cpF s xs p j) p' j=zW G s xs p j
 | [],_,_,_,_=>by rfl
 |x::xs,p,p',j,h=>by simp only[cpF,zW];rw[zNg x (j::p) (j::p') (fun z=>by have:=h (z++[j]);grind),zC9 xs p p' (j+1) h]
end
theorem kJ(t:T)(p p':List Nat)(ht:∀xs,t≠.tup xs)(h:∀z,G'.hd d (z++p')=G.hd s (z++p)):mkV G' d (cpT s t p) p'=tG G s t p:=by
 cases t with
 |agg xs=>grind[cpT,mkV,tG,zC9]
 |tup xs=>grind
 |_=>simpa[cpT,mkV,tG]using h []
end
theorem qY(G:Gh)(s:Nat)(t:T)(p:List Nat)(ht:∀xs,t≠.tup xs):mkV G s t p=tG G s t p:=by
 cases t with
 |tup xs=>grind
 |_=>rfl
def Gh.put(G:Gh)(d:Nat)(f:List Nat→Value):Gh:={ G with hd:=fun s z=>if s=d then f z else G.hd s z }
theorem Gh.put_other(G:Gh){d s:Nat}(f:List Nat→Value)(p:List Nat)(h:s≠d):(G.put d f).hd s p=G.hd s p:=by simp[Gh.put,h]
theorem Gh.put_self(G:Gh)(d:Nat)(f:List Nat→Value)(p:List Nat):(G.put d f).hd d p=f p:=by simp[Gh.put]
theorem zTO{d s:Nat}{p:List Nat}(h:Off [(d,0)] s p):s≠d:=by
 rintro rfl
 exact absurd (h 0 (by simp)) (by simp)
theorem Gh.put_keep(G:Gh){w w':World}(hw:w'.heap=w.heap)(d:Nat)(f:List Nat→Value):sE [(d,0)] G w (G.put d f) w' where
 hd s p h:=G.put_other f p (zTO h)
 ad _ _ _:=rfl
 lb b o f' s p _ h _:=⟨h,by grind[yE,World.cell?]⟩
 ow b s p h _:=h
 blk b cs e h:=by grind
theorem Mem.put{Γ:Ctx}{G:Gh}{w w':World}(h:Mem Γ G w)(hw:w'.heap=w.heap)(d:Nat)(f:List Nat→Value)(hf:∀z,(f z).oneCell'=uf)(ho:w'.os=w.os:=by rfl)(hq:w'.output=w.output:=by rfl):Mem Γ (G.put d f) w' where
 one s p:=by unfold Gh.put;dsimp only;split;exact hf p;exact h.one s p
 lb b o l hl:=by have:=h.lb b o l hl;exact⟨by rw[hw];exact this.1,this.2⟩
 ow b l hl:=by have:=h.ow b l hl;exact⟨by rw[hw];exact this.1,this.2⟩
 st b x hx:=by rw[hw];exact h.st b x hx
 fr b h1 h2:=by rw[hw];exact h.fr b h1 h2
 sz:=by rw[hw];exact h.sz
 bk:=h.bk.trans (fun b cs e hb=>by grind) ho hq
theorem uR(d:Nat)(x:Option T)(s:Nat):Wr.find [(d,x)] s=if d=s then ud x else ue:=by rfl
theorem wP{Γ:Ctx}{E:Env}{G:Gh}{tmps:Array Value}{w w':World}(h:Rep Γ E G tmps w)(hw:w'.heap=w.heap){d:Nat}(hd:d<Γ.N)
  (f:List Nat→Value)(hf:∀z,(f z).oneCell'=uf)(t:T)(v:Value)(hv:v=mkV (G.put d f) d t [])(hr:R Γ.St (G.put d f) w' d t [])(ht:Top t)(ho:w'.os=w.os:=by rfl)(hq:w'.output=w.output:=by rfl):
  Rep Γ (E.app [(d,ud t)] [(d,0)]) (G.put d f) (tmps.setIfInBounds d v) w':=by
 refine wR h (by simp) (G.put_keep hw d f) (h.mem.put hw d f hf ho hq) ?_ ?_
 ·grind[uR]
 ·intro s t' hs
  rw[uR]at hs;split at hs
  ·rename_i he
   subst he;simp at hs;subst hs;refine⟨?_,hr,ht⟩;rw[J8];simp[h.size,hd,hv]
  ·cases hs
def xT(P:Program)(Γ:Ctx)(o:Oper)(E E':Env):Prop:=
 ∀(a:Act)(w:World)(K:Act→World→Prop)(Q:Exit→Act→World→Prop),Sim Γ E a w→(∀a' w',qD Γ E' a' w'→K a' w')→o.wp P a w K Q
def opT(E:Env):Operand→Option T
 |.tmp s=>E s
 |.const v=>if v.oneCell' then ud (.lit v)else ue
 |.func f=>ud (.lit (.func (.func f) #[] #[]))
 |.global _=>ue
def uJ(x:Operand)(t:T):T:=match x with
 |.tmp s=>cpT s t []
 |_=>t
section
variable {P:Program}{Γ:Ctx}{E E':Env}{o:Oper}{d:Nat}
theorem xQ{a:Act}{s:Nat}{v:Value}(h:a.tmps[s]? =ud v):a.eval (.tmp s)=v:=by simp[Act.eval,K4,h]
theorem xT.value(ho:o.dst=ud d)
  (h:∀(a:Act)(w:World)(G:Gh),Rep Γ E G a.tmps w→ ∃v w',(execOp a.eval o).run P w=.ok (.value v) w'∧ ∃G',Rep Γ E' G' (a.tmps.setIfInBounds d v) w'):xT P Γ o E E':=by
 intro a w K Q ⟨gP,G,g9⟩ hK;obtain⟨v,w',gy,G',eV⟩:=h a w G g9;unfold Oper.wp;rw[gy,Oper.upon_value];refine hK _ _ ?_;rw[ho];exact .of ⟨gP,G',eV⟩
theorem xT.skip(ho:o.dst=ue)
  (h:∀(a:Act)(w:World)(G:Gh),Rep Γ E G a.tmps w→ ∃w',(execOp a.eval o).run P w=.ok .skip w'∧ ∃G',Rep Γ E' G' a.tmps w'):xT P Γ o E E':=by
 intro a w K Q ⟨gP,G,g9⟩ hK;obtain⟨w',gy,G',eV⟩:=h a w G g9;unfold Oper.wp;rw[gy,Oper.upon_skip];refine hK _ _ ?_;rw[ho];exact .of ⟨gP,G',eV⟩
theorem opd{G:Gh}{a:Act}{w:World}(g9:Rep Γ E G a.tmps w){x:Operand}{t:T}(hx:opT E x=ud t)(ht:∀xs,t≠.tup xs):
  ∃f:List Nat→Value,(∀z,(f z).oneCell'=uf)∧(∀d,(∀s,x=.tmp s→s≠d)→T.okB [(d,0)] (uJ x t)=uf→
   a.eval x=mkV (G.put d f) d (uJ x t) []∧R Γ.St (G.put d f) w d (uJ x t) [])∧Top (uJ x t):=by
 cases x with
 |tmp s=>
  obtain⟨h1,h2,h3⟩:=g9.ent s t hx;refine⟨fun z=>G.hd s z,fun z=>g9.mem.one s z,?_,tY s t []⟩;intro d gj gG;have eg:=gj s rfl;have hk:=G.put_keep (w:=w) (w':=w) rfl d (fun z=>G.hd s z);have hz:∀z,(G.put d (fun z=>G.hd s z)).hd d (z++[])=G.hd s (z++[]):=by grind[Gh.put_self]
  refine⟨?_,?_⟩
  ·grind[xQ,uJ,kJ,qY]
  ·exact zC8 (fun p=>G.put_other _ p eg) t [] [] hz ht (hk.keepR (jQ _ (tY s t []) gG)) h2
 |const v=>
  simp only[opT]at hx;split at hx
  ·rename_i gu
   simp at hx;subst hx;exact⟨fun _=>v,fun _=>gu,fun d _ _=>⟨by simp[Act.eval,uJ,mkV,Gh.put],by simp[uJ,R,Gh.put]⟩,by simp[uJ,Top]⟩
  ·cases hx
 |func f=>
  simp only[opT]at hx;simp at hx;subst hx;exact⟨fun _=>.func (.func f) #[] #[],fun _=>rfl,fun d _ _=>⟨by simp[Act.eval,uJ,mkV,Gh.put],by simp[uJ,R,Gh.put]⟩,by simp[uJ,Top]⟩
 |global g=>cases hx
theorem zLY(x:Operand)(t:T)(ho:o.op=.move x∨o.op=.assign x)(gf:o.dst=ud d)(hd:d<Γ.N)(hx:opT E x=ud t)(ht:∀xs,t≠.tup xs)
  (gj:∀s,x=.tmp s→s≠d)(gG:T.okB [(d,0)] (uJ x t)=uf):xT P Γ o E (E.app [(d,ud (uJ x t))] [(d,0)]):=by
 refine xT.value gf fun a w G g9=>?_
 obtain⟨f,hf,h1,h2⟩:=opd g9 hx ht;obtain⟨h3,h4⟩:=h1 d gj gG;refine⟨a.eval x,w,?_,_,wP g9 rfl hd f hf _ _ h3 h4 h2⟩;rcases ho with ho|ho<;>simp[execOp,ho]
theorem xX{G:Gh}{a:Act}{w:World}(g9:Rep Γ E G a.tmps w){x:Operand}{v:Value}(hx:opT E x=ud (.lit v)):a.eval x=v∧v.oneCell'=uf:=by
 cases x with
 |tmp s=>
  obtain⟨h1,h2,_⟩:=g9.ent s _ hx;simp only[R]at h2;refine⟨?_,by rw[←h2];exact g9.mem.one s []⟩
  grind[xQ,mkV]
 |const u=>
  simp only[opT]at hx;split at hx
  ·simp at hx;subst hx;exact⟨rfl,by assumption⟩
  ·cases hx
 |func f=>simp only[opT]at hx;simp at hx;subst hx;exact⟨rfl,rfl⟩
 |global g=>cases hx
theorem kK(v:Value)(hv:v.oneCell'=uf)(gf:o.dst=ud d)(hd:d<Γ.N)
  (h:∀(a:Act)(w:World)(G:Gh),Rep Γ E G a.tmps w→(execOp a.eval o).run P w=.ok (.value v) w):xT P Γ o E (E.app [(d,ud (.lit v))] [(d,0)]):=by
 refine xT.value gf fun a w G g9=>?_
 exact⟨v,w,h a w G g9,_,wP g9 rfl hd (fun _=>v) (fun _=>hv) (.lit v) v (by simp[mkV,Gh.put]) (by simp[R,Gh.put]) (by simp[Top])⟩
def zHI(op:BinOp)(k:IntKind)(a b:Int):Option Value:=
 match op with
 |.add=>ud (.int k (k.wrap (a+b)))
 |.sub=>ud (.int k (k.wrap (a-b)))
 |.mul=>ud (.int k (k.wrap (a*b)))
 |.quo=>if b=0 then ue else ud (.int k (k.wrap (a.tdiv b)))
 |.rem=>if b=0 then ue else ud (.int k (a.tmod b))
 |.eql=>ud (.bool (a==b))
 |.neq=>ud (.bool (a != b))
 |.lss=>ud (.bool (decide (a<b)))
 |.leq=>ud (.bool (decide (a≤b)))
 |.gtr=>ud (.bool (decide (a> b)))
 |.geq=>ud (.bool (decide (a≥b)))
 |_=>ue
theorem zOs{op:BinOp}{k:IntKind}{a b:Int}{v:Value}(h:zHI op k a b=ud v):v.oneCell'=uf:=by cases op<;>simp[zHI]at h<;>first|(subst h;rfl)|(obtain⟨_,rfl⟩:=h;rfl)
theorem tE(op:BinOp)(xt yt:TypeId)(x y:Operand)(k:IntKind)(m n:Int)(v:Value)(ho:o.op=.binOp op xt x y yt)(gf:o.dst=ud d)(hd:d<Γ.N)
  (hx:opT E x=ud (.lit (.int k m)))(hy:opT E y=ud (.lit (.int k n)))(hv:zHI op k m n=ud v):xT P Γ o E (E.app [(d,ud (.lit v))] [(d,0)]):=by
 refine kK v (zOs hv) gf hd fun a w G g9=>?_
 have h1:=(xX g9 hx).1;have h2:=(xX g9 hy).1;cases op<;>simp[zHI]at hv<;>
  first
   |(subst hv;simp[execOp,ho,h1,h2,eqGuard,binOp,Op.intArith,Op.intCmp];done)
   |(obtain⟨h0,rfl⟩:=hv;simp[execOp,ho,h1,h2,eqGuard,binOp,Op.intDiv,h0])
theorem zTP(xt:TypeId)(x:Operand)(b:Bool)(ho:o.op=.unOp .not xt x)(gf:o.dst=ud d)(hd:d<Γ.N)
  (hx:opT E x=ud (.lit (.bool b))):xT P Γ o E (E.app [(d,ud (.lit (.bool !b)))] [(d,0)]):=by
 refine kK _ rfl gf hd fun a w G g9=>?_
 have h1:=(xX g9 hx).1;simp[execOp,ho,h1,Op.unary]
theorem zTQ(xt:TypeId)(x:Operand)(k:IntKind)(n:Int)(ho:o.op=.unOp .neg xt x)(gf:o.dst=ud d)(hd:d<Γ.N)
  (hx:opT E x=ud (.lit (.int k n))):xT P Γ o E (E.app [(d,ud (.lit (.int k (k.wrap (0-n)))))] [(d,0)]):=by
 refine kK _ rfl gf hd fun a w G g9=>?_
 have h1:=(xX g9 hx).1;simp[execOp,ho,h1,Op.unary,Op.intArith]
theorem zRH(src dst:TypeId)(ds:TypeDesc)(x:Operand)(k k':IntKind)(n:Int)(ho:o.op=.convert src dst x)(gf:o.dst=ud d)(hd:d<Γ.N)
  (hs:P.underlying src=ud ds)(ht:P.underlying dst=ud (.int k'))(hx:opT E x=ud (.lit (.int k n))):
  xT P Γ o E (E.app [(d,ud (.lit (.int k' (k'.wrap n))))] [(d,0)]):=by
 refine kK _ rfl gf hd fun a w G g9=>?_
 have h1:=(xX g9 hx).1;simp[execOp,ho,h1,convert,run_underlying hs,run_underlying ht,Conv.intToInt]
theorem zRI(c x y:Operand)(b:Bool)(t:T)(ho:o.op=.pick c x y)(gf:o.dst=ud d)(hd:d<Γ.N)
  (hc:opT E c=ud (.lit (.bool b)))(hx:opT E (if b then x else y)=ud t)(ht:∀xs,t≠.tup xs)
  (gj:∀s,(if b then x else y)=.tmp s→s≠d)(gG:T.okB [(d,0)] (uJ (if b then x else y) t)=uf):xT P Γ o E (E.app [(d,ud (uJ (if b then x else y) t))] [(d,0)]):=by
 refine xT.value gf fun a w G g9=>?_
 obtain⟨f,hf,h1,h2⟩:=opd g9 hx ht;obtain⟨h3,h4⟩:=h1 d gj gG;refine⟨a.eval (if b then x else y),w,?_,_,wP g9 rfl hd f hf _ _ h3 h4 h2⟩;have h5:=(xX g9 hc).1;cases b<;>simp[execOp,ho,h5,asBool]
end
end Go.Ab

namespace Go.Ab
open Go
def sF(E:Env):Nat→Nat→List Nat→Option (Nat×List Nat×T)
 |0,_,_=>ue
 |n+1,r,q=>match E r with
  |some t=>match t.get q.reverse with
   |some (.same r' q')=>sF E n r' q'
   |some u=>ud (r,q,u)
   |none=>ue
  |none=>ue
def uS(E:Env):Operand→Option (Nat×List Nat×T)
 |.tmp s=>sF E 4 s []
 |_=>ue
def T.single:T→Bool
 |.agg _|.tup _=>ug
 |_=>uf
theorem yU{G:Gh}{s:Nat}{t:T}{p:List Nat}(h:t.single=uf):mkV G s t p=G.hd s p:=by cases t<;>simp[T.single]at h<;>rfl
section
variable {P:Program}{Γ:Ctx}{E:Env}{o:Oper}{d:Nat}
theorem zBR{G:Gh}{a:Act}{w:World}(g9:Rep Γ E G a.tmps w):∀(n s:Nat)(p:List Nat)(r:Nat)(q:List Nat)(u:T),sF E n s p=ud (r,q,u)→
  R Γ.St G w r u q∧G.hd s p=G.hd r q∧(∃t,E r=ud t∧t.get q.reverse=ud u)
 |0,_,_,_,_,_,h=>by simp[sF]at h
 |n+1,s,p,r,q,u,h=>by
  simp only[sF]at h;split at h
  ·rename_i t ht
   obtain⟨_,h4,_⟩:=g9.ent _ _ ht;split at h
   ·rename_i r' q' hg
    obtain⟨h1,h2,h3⟩:=zBR g9 n r' q' r q u h;have h5:=(kI p.reverse t _ [] h4 hg).1;simp only[rp,Kf,Jf,R]at h5;exact⟨h1,h5.trans h2,h3⟩
   ·rename_i u' hns hg
    simp at h;obtain⟨rfl,rfl,rfl⟩:=h;have h5:=(kI p.reverse t _ [] h4 hg).1;simp only[rp,Kf,Jf]at h5;exact⟨h5,rfl,t,ht,hg⟩
   ·cases h
  ·cases h
theorem sV{G:Gh}{a:Act}{w:World}(g9:Rep Γ E G a.tmps w){x:Operand}{r:Nat}{q:List Nat}{u:T}(h:uS E x=ud (r,q,u))(hu:u.single=uf):
  R Γ.St G w r u q∧a.eval x=G.hd r q:=by
 cases x with
 |tmp s=>
  obtain⟨h1,h2,_⟩:=zBR g9 4 s [] r q u h;refine⟨h1,?_⟩;rw[←h2];simp only[uS,sF]at h;split at h
  ·rename_i t ht
   obtain⟨h3,_,_⟩:=g9.ent s _ ht;rw[xQ h3];simp only[Hw,T.get]at h;have:t.single=uf:=by cases t<;>first|rfl|(simp at h;obtain⟨_,_,rfl⟩:=h;simp[T.single]at hu)
   exact yU this
  ·cases h
 |_=>simp[uS]at h
theorem zHJ{St:Stb}{G:Gh}{w:World}{s:Nat}{k:Nat}{xs:List T}{p:List Nat}(h:R St G w s (.sl k xs) p):∃a c,G.hd s p=.slice a xs.length c:=by
 simp only[R]at h;rcases h with⟨rfl,a,h⟩|⟨b,_,cap,_,_,h,_⟩
 ·exact⟨a,0,h⟩
 ·exact⟨_,_,h⟩
theorem zBS{St:Stb}{G:Gh}{w:World}{s:Nat}{k:Nat}{xs:List T}{p:List Nat}(h:R St G w s (.ro (.sl k xs)) p):∃a c,G.hd s p=.slice a xs.length c∧xs.length≤c∧c≤maxLen∧
   (xs≠[]→ ∃b o' cs' e fr,a=ud ⟨b,o',ue⟩∧St b=ud (.cells cs' e fr)∧RoL St xs cs' o' k):=by
 simp only[R,RoC]at h;obtain⟨a,c,h1,h2,h3,h4⟩:=h;exact⟨a,c,by simpa using h1,h2,h3,h4⟩
def zII:T→Option Nat
 |.sl _ xs|.ro (.sl _ xs)=>ud xs.length
 |.lit (.slice _ n _)=>ud n
 |.lit (.string s)=>ud s.size
 |_=>ue
def zRJ:T→TypeDesc→Bool
 |.lit (.string _),.string=>uf
 |.sl _ _,.slice _|.ro (.sl _ _),.slice _|.lit (.slice _ _ _),.slice _=>uf
 |_,_=>ug
theorem zOt(x:Operand)(t:TypeId)(ds:TypeDesc)(r:Nat)(q:List Nat)(u:T)(n:Nat)(ho:o.op=.call { callee:=.builtin .len,args:=#[x],argTypes:=#[t] })(gf:o.dst=ud d)(hd:d<Γ.N)
  (ht:P.underlying t=ud ds)(hx:uS E x=ud (r,q,u))(hl:zII u=ud n)(pj:zRJ u ds=uf):
  xT P Γ o E (E.app [(d,ud (.lit (.int .i64 n)))] [(d,0)]):=by
 refine kK (.int .i64 n) rfl gf hd fun a w G g9=>?_
 have hu:u.single=uf:=by cases u<;>simp[zII]at hl<;>rfl
 obtain⟨h1,h2⟩:=sV g9 hx hu;have h3:(Builtin.len_ #[t] o.type #[G.hd r q]).run P w=.ok (.int .i64 n) w:=by
  cases u with
  |sl k xs=>
   obtain⟨a',c,h4⟩:=zHJ h1;simp[zII]at hl;subst hl;cases ds<;>simp[zRJ]at pj
   simp[Builtin.len_,run_underlying ht,h4,goInt]
  |ro t'=>
   cases t'<;>simp[zII]at hl
   obtain⟨a',c,h4,_⟩:=zBS h1;subst hl;cases ds<;>simp[zRJ]at pj
   simp[Builtin.len_,run_underlying ht,h4,goInt]
  |lit v=>
   simp only[R]at h1;cases v<;>simp[zII]at hl<;>(subst hl;cases ds<;>simp[zRJ]at pj;simp[Builtin.len_,run_underlying ht,h1,goInt])
  |_=>simp[zII]at hl
 simp[execOp,ho,resolve,invoke,builtin,h2,h3]
theorem zAJ{G:Gh}{w:World}{s:Nat}{t:T}{p:List Nat}{b o:Nat}(h:Loc G w s t p b o):G.ad s p=⟨b,o,ue⟩:=by cases t<;>simp only[Loc]at h<;>first|exact h.1|exact h.elim
theorem vM(b o n:Nat):(⟨b,o,ue⟩:Addr).add n=⟨b,o+n,ue⟩:=by
 unfold Addr.add;split
 ·rename_i h;subst h;rfl
 ·rfl
theorem zRK{St:Stb}{G:Gh}{w:World}{s:Nat}{k:Nat}{xs:List T}{p:List Nat}(h:R St G w s (.sl k xs) p){i:Nat}(hi:i<xs.length):
  ∃b o0 cap,G.hd s p=.slice (ud ⟨b,o0,ue⟩) xs.length cap∧G.ad s (i::p)=⟨b,o0+i*k,ue⟩:=by
 simp only[R]at h;rcases h with⟨rfl,_⟩|⟨b,o0,cap,cs,e,h1,h2,h3,h4,h5,h6,h7,h8⟩
 ·simp at hi
 ·have:=(tS xs p 0 b o0 k i xs[i] h8 (by simp[hi])).1
  simp only[J6]at this;exact⟨b,o0,cap,h1,zAJ this⟩
theorem zVe(x y:Operand)(t e:TypeId)(ti:TypeInfo)(r:Nat)(q:List Nat)(k:Nat)(xs:List T)(kd:IntKind)(i:Int)(ho:o.op=.indexAddr t x y)(gf:o.dst=ud d)(hd:d<Γ.N)
  (ht:P.underlying t=ud (.slice e))(he:P.info? e=ud ti)(hk:ti.size=k)(hx:uS E x=ud (r,q,.sl k xs))(hy:opT E y=ud (.lit (.int kd i)))(h0:0≤i)(h1:i.toNat<xs.length):
  xT P Γ o E (E.app [(d,ud (.addr r (i.toNat::q)))] [(d,0)]):=by
 refine xT.value gf fun a w G g9=>?_
 obtain⟨g1,g2⟩:=sV g9 hx rfl;have g3:=(xX g9 hy).1;obtain⟨b,o0,cap,g4,g5⟩:=zRK g1 h1;refine⟨.pointer (ud (G.ad r (i.toNat::q))),w,?_,_,wP g9 rfl hd (fun _=>.pointer (ud (G.ad r (i.toNat::q)))) (fun _=>rfl) _ _ (by simp[mkV,Gh.put]) (by simp[R,Gh.put]) (by simp[Top])⟩;have gT:i<(xs.length:Int):=by omega
 simp[execOp,ho,Instr.indexAt,g3,g2,g4,asIntOf,run_underlying ht,h0,gT,sizeOf,typeInfo,he,hk,vM,g5]
theorem zEQ{St:Stb}:(xs:List T)→ ∀(cs:Array Value)(o k i:Nat)(x:T),RoL St xs cs o k→xs[i]? =ud x→RoC St x cs (o+i*k)
 | [],_,_,_,_,_,_,h=>by simp at h
 |y::ys,cs,o,k,i,x,hr,h=>by
  simp only[RoL]at hr;cases i with
  |zero=>simp at h;subst h;simpa using hr.1
  |succ i=>
   have:=zEQ ys cs (o+k) k i x hr.2 (by simpa using h)
   rwa [show o+(i+1)*k=o+k+i*k from by rw[H3];omega]
theorem zLZ{St:Stb}:(xs:List T)→ ∀(cs:Array Value)(o i:Nat)(x:T),RoF St xs cs o→xs[i]? =ud x→RoC St x cs (o+T.sizes (xs.take i))
 | [],_,_,_,_,_,h=>by simp at h
 |y::ys,cs,o,i,x,hr,h=>by
  simp only[RoF]at hr;cases i with
  |zero=>simp at h;subst h;simpa[T.sizes]using hr.1
  |succ i=>
   have:=zLZ ys cs (o+y.size) i x hr.2 (by simpa using h)
   rwa [Ke,T.sizes,←H0]
theorem zOu(x y:Operand)(t e:TypeId)(ti:TypeInfo)(r:Nat)(q:List Nat)(k:Nat)(xs:List T)(kd:IntKind)(i:Int)(u:T)(ho:o.op=.indexAddr t x y)(gf:o.dst=ud d)(hd:d<Γ.N)
  (ht:P.underlying t=ud (.slice e))(he:P.info? e=ud ti)(hk:ti.size=k)(hx:uS E x=ud (r,q,.ro (.sl k xs)))(hy:opT E y=ud (.lit (.int kd i)))(h0:0≤i)(h1:xs[i.toNat]? =ud u):
  xT P Γ o E (E.app [(d,ud (.ro (.ptr u)))] [(d,0)]):=by
 refine xT.value gf fun a w G g9=>?_
 obtain⟨g1,g2⟩:=sV g9 hx rfl;have g3:=(xX g9 hy).1;have dA:i.toNat<xs.length:=(Jg.1 h1).1;obtain⟨a',c,g4,_,_,g5⟩:=zBS g1;obtain⟨b,o',cs',e',fr,rfl,g6,g7⟩:=g5 (by rintro rfl;simp at dA);have g8:=zEQ xs cs' o' k i.toNat u g7 h1;refine⟨.pointer (ud ⟨b,o'+i.toNat*k,ue⟩),w,?_,_,wP g9 rfl hd (fun _=>.pointer (ud ⟨b,o'+i.toNat*k,ue⟩)) (fun _=>rfl) _ _ (by simp[mkV,Gh.put]) ?_ (by simp[Top])⟩
 ·have gT:i<(xs.length:Int):=by omega
  simp[execOp,ho,Instr.indexAt,g3,g2,g4,asIntOf,run_underlying ht,h0,gT,sizeOf,typeInfo,he,hk,vM]
 ·simp only[R,Gh.put_self,RoC]
  exact⟨b,_,cs',e',fr,by simp,g6,g8⟩
theorem zBr:(xs:List T)→ ∀{G:Gh}{w:World}{s:Nat}(p:List Nat)(j b o i:Nat)(x:T),wQ G w s xs p j b o→xs[i]? =ud x→
  Loc G w s x ((j+i)::p) b (o+T.sizes (xs.take i))
 | [],_,_,_,_,_,_,_,_,_,_,h=>by simp at h
 |y::ys,G,w,s,p,j,b,o,i,x,hr,h=>by
  simp only[wQ]at hr;cases i with
  |zero=>simp at h;subst h;simpa[T.sizes]using hr.1
  |succ i=>
   have:=zBr ys p (j+1) b (o+y.size) i x hr.2 (by simpa using h)
   rwa [show j+(i+1)=j+1+i from by omega,Ke,T.sizes,←H0]
theorem vX{P:Program}{w:World}(a:Addr):(Instr.sureAddr (.pointer (ud a))).run P w=.ok a w:=rfl
theorem zBs{P:Program}{w:World}{S:TypeId}{fs:Array Field}{f:Field}{fi:TypeInfo}{j:Nat}{b o':Nat}(hS:P.underlying S=ud (.struct fs))(hf:fs[j]? =ud f)(hi:P.info? f.type=ud fi)(hz:fi.size≠0):
  (Instr.fieldAt S (.pointer (ud ⟨b,o',ue⟩)) j).run P w=.ok (.pointer (ud ⟨b,o'+f.offset,ue⟩)) w:=by
 simp[Instr.fieldAt,run_underlying hS,hf,vX,fieldPlace,sizeOf,typeInfo,hi,hz,vM]
theorem zVf(x:Operand)(S:TypeId)(fs:Array Field)(f:Field)(fi:TypeInfo)(j:Nat)(r:Nat)(q:List Nat)(xs:List T)(u:T)(ho:o.op=.fieldAddr S x j)(gf:o.dst=ud d)(hd:d<Γ.N)
  (hS:P.underlying S=ud (.struct fs))(hf:fs[j]? =ud f)(hi:P.info? f.type=ud fi)(hz:fi.size≠0)(hx:uS E x=ud (r,q,.ptr (.agg xs)))(hu:xs[j]? =ud u)(gB:T.sizes (xs.take j)=f.offset):
  xT P Γ o E (E.app [(d,ud (.addr r (j::0::q)))] [(d,0)]):=by
 refine xT.value gf fun a w G g9=>?_
 obtain⟨g1,g2⟩:=sV g9 hx rfl;simp only[R]at g1;obtain⟨b,cs,e,g4,_,_,_,g5,_⟩:=g1;simp only[Loc]at g5;have g6:=zBr xs (0::q) 0 b 0 j u g5.2 hu;simp only[J6]at g6;refine⟨.pointer (ud (G.ad r (j::0::q))),w,?_,_,wP g9 rfl hd (fun _=>.pointer (ud (G.ad r (j::0::q)))) (fun _=>rfl) _ _ (by simp[mkV,Gh.put]) (by simp[R,Gh.put]) (by simp[Top])⟩;have g7:=zBs (w:=w) (b:=b) (o':=0) hS hf hi hz;simp[execOp,ho,g2,g4,g7,zAJ g6,gB]
theorem zKC(x:Operand)(S:TypeId)(fs:Array Field)(f:Field)(fi:TypeInfo)(j:Nat)(r:Nat)(q:List Nat)(t:T)(xs:List T)(u:T)(ho:o.op=.fieldAddr S x j)(gf:o.dst=ud d)(hd:d<Γ.N)
  (hS:P.underlying S=ud (.struct fs))(hf:fs[j]? =ud f)(hi:P.info? f.type=ud fi)(hz:fi.size≠0)(hx:opT E x=ud (.addr r q))(hr:E r=ud t)(hg:t.get q.reverse=ud (.agg xs))(hl:t.locd q.reverse=uf)
  (hu:xs[j]? =ud u)(gB:T.sizes (xs.take j)=f.offset):
  xT P Γ o E (E.app [(d,ud (.addr r (j::q)))] [(d,0)]):=by
 refine xT.value gf fun a w G g9=>?_
 cases x with
 |tmp s=>
  obtain⟨h1,h2,_⟩:=g9.ent s _ hx;obtain⟨_,h4,_⟩:=g9.ent r _ hr;simp only[R]at h2;obtain⟨b,o',cs,e,h6,_,_⟩:=(kI q.reverse t _ [] h4 hg).2 hl;simp only[rp,Kf,Jf]at h6;have h7:=zAJ h6;simp only[Loc]at h6;have g6:=zBr xs q 0 b o' j u h6.2 hu;simp only[J6]at g6;refine⟨.pointer (ud (G.ad r (j::q))),w,?_,_,wP g9 rfl hd (fun _=>.pointer (ud (G.ad r (j::q)))) (fun _=>rfl) _ _ (by simp[mkV,Gh.put]) (by simp[R,Gh.put]) (by simp[Top])⟩;have g7:=zBs (w:=w) (b:=b) (o':=o') hS hf hi hz;simp[execOp,ho,xQ h1,mkV,h2,h7,g7,zAJ g6,gB]
 |const v=>simp only[opT]at hx;split at hx<;>simp at hx
 |func f=>simp[opT]at hx
 |global g=>simp[opT]at hx
theorem zFi{G:Gh}{a:Act}{w:World}(g9:Rep Γ E G a.tmps w){x:Operand}{u:T}(hx:opT E x=ud (.ro u)):RoC Γ.St u #[a.eval x] 0:=by
 cases x with
 |tmp s=>
  obtain⟨h1,h2,_⟩:=g9.ent s _ hx;simp only[R]at h2;rw[xQ h1,yU rfl];exact h2
 |const v=>simp only[opT]at hx;split at hx<;>simp at hx
 |func f=>simp[opT]at hx
 |global g=>simp[opT]at hx
theorem zOv(x:Operand)(S:TypeId)(fs:Array Field)(f:Field)(fi:TypeInfo)(j:Nat)(xs:List T)(u:T)(ho:o.op=.fieldAddr S x j)(gf:o.dst=ud d)(hd:d<Γ.N)
  (hS:P.underlying S=ud (.struct fs))(hf:fs[j]? =ud f)(hi:P.info? f.type=ud fi)(hz:fi.size≠0)(hx:opT E x=ud (.ro (.ptr (.agg xs))))(hu:xs[j]? =ud u)(gB:T.sizes (xs.take j)=f.offset):
  xT P Γ o E (E.app [(d,ud (.ro (.ptr u)))] [(d,0)]):=by
 refine xT.value gf fun a w G g9=>?_
 have h1:=zFi g9 hx;simp only[RoC]at h1;obtain⟨b,o',cs',e,fr,h2,h3,h4⟩:=h1;have h5:=zLZ xs cs' o' j u h4 hu;refine⟨.pointer (ud ⟨b,o'+f.offset,ue⟩),w,?_,_,wP g9 rfl hd (fun _=>.pointer (ud ⟨b,o'+f.offset,ue⟩)) (fun _=>rfl) _ _ (by simp[mkV,Gh.put]) ?_ (by simp[Top])⟩
 ·have g7:=zBs (w:=w) (b:=b) (o':=o') hS hf hi hz
  have h6:a.eval x=.pointer (ud ⟨b,o',ue⟩):=by simpa using h2
  simp[execOp,ho,h6,g7]
 ·simp only[R,Gh.put_self,RoC]
  exact⟨b,o'+f.offset,cs',e,fr,by simp,h3,by rw[←gB];exact h5⟩
def zDM:TypeDesc→Bool
 |.struct _|.array _ _=>uf
 |_=>ug
theorem sL{P:Program}{w:World}{t:TypeId}{ds:TypeDesc}(ht:P.underlying t=ud ds):(isAgg t).run P w=.ok (zDM ds) w:=by cases ds<;>simp[isAgg,run_underlying ht,zDM]
theorem wJ{G:Gh}{w:World}{s:Nat}{t:T}{p:List Nat}{b o:Nat}(ht:t.single=uf)(h:Loc G w s t p b o):G.ad s p=⟨b,o,ue⟩∧G.lb b o=ud (ug,s,p)∧yE w b o=ud (G.hd s p):=by cases t<;>simp[T.single]at ht<;>simpa only[Loc]using h
mutual
theorem zOw{G:Gh}{w:World}{s:Nat}:(t:T)→ ∀(p:List Nat)(b o:Nat),Loc G w s t p b o→ ∀(i:Nat)(v:Value),(vals G s t p)[i]? =ud v→yE w b (o+i)=ud v
 |.agg xs,p,b,o,h,i,v,hv=>by simp only[Loc,vals]at h hv;exact zAy xs p 0 b o h.2 i v hv
 |.any,p,b,o,h,i,v,hv|.lit _,p,b,o,h,i,v,hv|.ro _,p,b,o,h,i,v,hv|.same _ _,p,b,o,h,i,v,hv|.addr _ _,p,b,o,h,i,v,hv|.sub _ _ _ _ _,p,b,o,h,i,v,hv|.sl _ _,p,b,o,h,i,v,hv|.ptr _,p,b,o,h,i,v,hv=>by
  simp only[Loc,vals]at h hv;cases i with
  |zero=>simp at hv;rw[←hv];exact h.2.2
  |succ i=>simp at hv
 |.tup _,_,_,_,h,_,_,_=>by simp only[Loc]at h
theorem zAy{G:Gh}{w:World}{s:Nat}:(xs:List T)→ ∀(p:List Nat)(j b o:Nat),wQ G w s xs p j b o→ ∀(i:Nat)(v:Value),(zW G s xs p j)[i]? =ud v→yE w b (o+i)=ud v
 | [],_,_,_,_,_,i,v,hv=>by simp[zW]at hv
 |x::xs,p,j,b,o,h,i,v,hv=>by
  simp only[wQ,zW]at h hv;rw[K8]at hv;split at hv
  ·exact zOw x (j::p) b o h.1 i v hv
  ·rename_i hge
   have gg:=wO (G:=G) (s:=s) x (j::p) (fun ys e=>by subst e;simp only[Loc]at h;exact h.1);have:=zAy xs p (j+1) b (o+x.size) h.2 _ v hv
   rwa [show o+x.size+(i-(vals G s x (j::p)).length)=o+i from by omega]at this
theorem wO{G:Gh}{s:Nat}:(t:T)→ ∀(p:List Nat),(∀xs,t≠.tup xs)→(vals G s t p).length=t.size
 |.agg xs,p,_=>by simp only[vals,T.size];exact wA xs p 0
 |.any,_,_|.lit _,_,_|.ro _,_,_|.same _ _,_,_|.addr _ _,_,_|.sub _ _ _ _ _,_,_|.sl _ _,_,_|.ptr _,_,_|.tup _,_,_=>by simp[vals,T.size]
theorem wA{G:Gh}{s:Nat}:(xs:List T)→ ∀(p:List Nat)(j:Nat),(zW G s xs p j).length=T.sizes xs
 | [],_,_=>by simp[zW,T.sizes]
 |x::xs,p,j=>by
  simp only[zW,J7,T.sizes,wA xs p (j+1)]
  by_cases hx:∃ys,x=.tup ys
  ·obtain⟨ys,rfl⟩:=hx;simp[vals,T.size]
  ·rw[wO x (j::p) (fun ys e=>hx ⟨ys,e⟩)]
end
theorem zEx{P:Program}{G:Gh}{w:World}{s:Nat}{t:T}{p:List Nat}{b o':Nat}{T':TypeId}{ds:TypeDesc}{ti:TypeInfo}(hT:P.underlying T'=ud ds)(hi:P.info? T'=ud ti)(hl:Loc G w s t p b o')
  (eK:zDM ds= !t.single)(gw:ti.size=t.size):(loadVar T' ⟨b,o',ue⟩).run P w=.ok (tG G s t p) w:=by
 cases t with
 |agg xs=>
  have h1:=run_loadCells_list (P:=P) (w:=w) ⟨b,o',ue⟩ (zW G s xs p 0) (fun j v hv=>by rw[vM];simp only[Loc]at hl;exact zAy xs p 0 b o' hl.2 j v hv)
  rw[wA]at h1;simp only[T.size]at gw;simp[T.single]at eK;simp[loadVar,sL hT,eK,sizeOf,typeInfo,hi,gw,h1,tG]
 |tup xs=>simp only[Loc]at hl
 |_=>
  have h1:=(wJ rfl hl).2.2;simp[T.single]at eK;simp only[yE]at h1;simp[loadVar,sL hT,eK,load,Sem.run,h1,tG]
def zAd(Γ:Ctx)(E:Env)(x:Operand)(r:Nat)(q:List Nat):Prop:=∀(a:Act)(w:World)(G:Gh),Rep Γ E G a.tmps w→a.eval x=.pointer (ud (G.ad r q))
theorem zAd.addr{x:Operand}{r:Nat}{q:List Nat}(hx:opT E x=ud (.addr r q)):zAd Γ E x r q:=fun a w G g9=>by
 cases x with
 |tmp s=>
  obtain⟨h1,h2,_⟩:=g9.ent s _ hx;simp only[R]at h2;rw[xQ h1];exact h2
 |const v=>simp only[opT]at hx;split at hx<;>simp at hx
 |func f=>simp[opT]at hx
 |global g=>simp[opT]at hx
theorem zAd.ptr{x:Operand}{r:Nat}{q:List Nat}{t:T}(hx:uS E x=ud (r,q,.ptr t)):zAd Γ E x r (0::q):=fun a w G g9=>by obtain⟨g1,g2⟩:=sV g9 hx rfl;simp only[R]at g1;obtain⟨b,cs,e,g4,_,_,_,g5,_⟩:=g1;rw[g2,g4,zAJ g5]
theorem zIJ(x:Operand)(T':TypeId)(ds:TypeDesc)(ti:TypeInfo)(r:Nat)(q:List Nat)(t u:T)(ho:o.op=.load T' x)(gf:o.dst=ud d)(hd:d<Γ.N)
  (hT:P.underlying T'=ud ds)(hi:P.info? T'=ud ti)(eK:zDM ds= !u.single)(gw:ti.size=u.size)
  (hx:zAd Γ E x r q)(hr:E r=ud t)(hg:t.get q.reverse=ud u)(hl:t.locd q.reverse=uf)(gA:r≠d)(gG:T.okB [(d,0)] (cpT r u q)=uf):
  xT P Γ o E (E.app [(d,ud (cpT r u q))] [(d,0)]):=by
 refine xT.value gf fun a w G g9=>?_
 have mO:=hx a w G g9;obtain⟨_,h4,_⟩:=g9.ent r _ hr;obtain⟨h5,h6⟩:=kI q.reverse t u [] h4 hg;obtain⟨b,o',cs,e,h6,_,_⟩:=h6 hl;simp only[rp,Kf,Jf]at h5 h6;have gV:∀xs,u≠.tup xs:=by rintro xs rfl;simp only[Loc]at h6
 have h7:=zAJ h6;have hz:∀z,(G.put d (fun z=>G.hd r (z++q))).hd d (z++[])=G.hd r (z++q):=fun z=>by rw[Gh.put_self,Jf]
 have hk:=G.put_keep (w:=w) (w':=w) rfl d (fun z=>G.hd r (z++q));refine⟨tG G r u q,w,?_,_,wP g9 rfl hd (fun z=>G.hd r (z++q)) (fun z=>g9.mem.one _ _) _ _ (kJ u q [] gV hz).symm
  (zC8 (fun p=>G.put_other _ p gA) u q [] hz gV (hk.keepR (jQ _ (tY r u q) gG)) h5) (tY r u q)⟩
 have h8:=zEx (T':=T') hT hi h6 eK gw;simp[execOp,ho,mO,h7,Instr.loadAt,vX,h8]
theorem zRL(x:Operand)(T':TypeId)(ds:TypeDesc)(ti:TypeInfo)(r:Nat)(q:List Nat)(t u:T)(ho:o.op=.load T' x)(gf:o.dst=ud d)(hd:d<Γ.N)
  (hT:P.underlying T'=ud ds)(hi:P.info? T'=ud ti)(eK:zDM ds= !u.single)(gw:ti.size=u.size)
  (hx:opT E x=ud (.addr r q))(hr:E r=ud t)(hg:t.get q.reverse=ud u)(hl:t.locd q.reverse=uf)(gA:r≠d)(gG:T.okB [(d,0)] (cpT r u q)=uf):
  xT P Γ o E (E.app [(d,ud (cpT r u q))] [(d,0)]):=zIJ x T' ds ti r q t u ho gf hd hT hi eK gw (zAd.addr hx) hr hg hl gA gG
def roT:T→T
 |.lit v=>.lit v
 |.agg xs=>.agg (roTs xs)
 |.ro t=>.ro t
 |.any=>.any
 |.same r q=>.ro (.same r q)
 |.addr r q=>.ro (.addr r q)
 |.sub r q k lo hi=>.ro (.sub r q k lo hi)
 |.sl k xs=>.ro (.sl k xs)
 |.ptr t=>.ro (.ptr t)
 |.tup xs=>.ro (.tup xs)
where roTs:List T→List T
 | []=>[]
 |x::xs=>roT x::roTs xs
end
end Go.Ab

namespace Go.Ab
open Go
def qE(v:Value):Value:=if v.oneCell' then v else .bool ug
theorem zAz(v:Value):(qE v).oneCell'=uf:=by
 unfold qE;split
 ·assumption
 ·rfl
theorem jR{v:Value}(h:v.oneCell'=uf):qE v=v:=by simp[qE,h]
def zCA:T→Array Value→Nat→List Nat→Value
 |.agg xs,cs,o,i::f=>match xs[i]? with
  |some x=>zCA x cs (o+T.sizes (xs.take i)) f
  |none=>.bool ug
 |_,cs,o,_=>cs.getD o (.bool ug)
termination_by structural _ _ _ f=>f
theorem zAe{t:T}(h:t.single=uf)(cs:Array Value)(o:Nat)(f:List Nat):zCA t cs o f=cs.getD o (.bool ug):=by cases t<;>simp[T.single]at h<;>cases f<;>rfl
mutual
theorem zDh:(u:T)→(∀xs,u≠.tup xs)→(roT u).size=u.size
 |.agg xs,_=>by simp only[roT,T.size];exact zDN xs
 |.lit _,_|.any,_|.sl _ _,_|.ptr _,_|.ro _,_|.same _ _,_|.addr _ _,_|.sub _ _ _ _ _,_|.tup _,_=>by simp[roT,T.size]
theorem zDN:(xs:List T)→T.sizes (roT.roTs xs)=T.sizes xs
 | []=>by simp only[roT.roTs]
 |x::xs=>by
  simp only[roT.roTs,T.sizes,zDN xs]
  by_cases hx:∃ys,x=.tup ys
  ·obtain⟨ys,rfl⟩:=hx;simp[roT,T.size]
  ·rw[zDh x (fun ys e=>hx ⟨ys,e⟩)]
end
section
variable {St:Stb}{G:Gh}{w:World}{d:Nat}
theorem zDi{u:T}{cs:Array Value}{o:Nat}(hu:u.single=uf)(h:RoC St u cs o):∃v,cs[o]? =ud v∧v.oneCell'=uf∧RoC St u #[v] 0:=by
 cases u<;>simp[T.single]at hu<;>simp only[RoC]at h ⊢
 ·obtain⟨v,h1,h2⟩:=h;exact⟨v,h1,h2,v,by simp,h2⟩
 ·exact⟨_,h.1,h.2,by simp,h.2⟩
 ·obtain⟨a,c,h1,h2⟩:=h;exact⟨_,h1,rfl,a,c,by simp,h2⟩
 ·obtain⟨b,o',cs',e,fr,h1,h2⟩:=h;exact⟨_,h1,rfl,b,o',cs',e,fr,by simp,h2⟩
mutual
theorem zOx:(u:T)→ ∀(cs:Array Value)(o:Nat)(p:List Nat),(∀z,G.hd d (z++p)=qE (zCA u cs o z.reverse))→RoC St u cs o→R St G w d (roT u) p
 |.agg xs,cs,o,p,hd,h=>by
  simp only[roT,R,RoC]at h ⊢
  exact zOy xs cs o p 0 o (by simp) (fun z j x hx=>by have:=hd (z++[j]);simp only[J9,Kz,Jw,Qd,U6,Hw,zCA]at this;rw[J6,this];simp[hx]) h
 |.lit v,cs,o,p,hd,h=>by
  simp only[roT,R,RoC]at h ⊢
  have:=hd [];rw[Jw,zAe rfl]at this;rw[this];simp[K4,h.1,jR h.2]
 |.any,_,_,_,_,_=>by simp only[roT,R]
 |.sl k xs,cs,o,p,hd,h|.ptr t,cs,o,p,hd,h=>by obtain⟨v,h1,h2,h3⟩:=zDi rfl h;have:=hd [];rw[Jw,zAe rfl]at this;simp only[roT,R];rw[this];simpa[K4,h1,jR h2]using h3
 |.ro _,_,_,_,_,h|.same _ _,_,_,_,_,h|.addr _ _,_,_,_,_,h|.sub _ _ _ _ _,_,_,_,_,h|.tup _,_,_,_,_,h=>by simp only[RoC]at h
theorem zOy:(xs:List T)→ ∀(cs:Array Value)(o0:Nat)(p:List Nat)(j o:Nat),o0≤o→(∀z i x,xs[i]? =ud x→G.hd d (z++((j+i)::p))=qE (zCA x cs (o+T.sizes (xs.take i)) z.reverse))→RoF St xs cs o→RF St G w d (roT.roTs xs) p j
 | [],_,_,_,_,_,_,_,_=>by simp only[roT.roTs,RF]
 |x::xs,cs,o0,p,j,o,ho,hd,h=>by
  simp only[roT.roTs,RF,RoF]at h ⊢
  refine⟨zOx x cs o (j::p) (fun z=>by simpa[T.sizes]using hd z 0 x (by simp)) h.1,zOy xs cs o0 p (j+1) (o+x.size) (by omega) (fun z i y hy=>?_) h.2⟩;have:=hd z (i+1) y (by simpa using hy);simp only[Ke,T.sizes]at this;rw[show j+1+i=j+(i+1)from by omega,show o+x.size+T.sizes (xs.take i)=o+(x.size+T.sizes (xs.take i))from H0 ..];exact this
end
mutual
theorem zFj:(u:T)→ ∀(cs:Array Value)(o:Nat)(p:List Nat),(∀z,G.hd d (z++p)=qE (zCA u cs o z.reverse))→RoC St u cs o→ ∀(i:Nat)(v:Value),(vals G d (roT u) p)[i]? =ud v→cs[o+i]? =ud v
 |.agg xs,cs,o,p,hd,h,i,v,hv=>by
  simp only[roT,vals,RoC]at h hv;exact zGN xs cs p 0 o (fun z j x hx=>by have:=hd (z++[j]);simp only[J9,Kz,Jw,Qd,U6,Hw,zCA]at this;rw[J6,this];simp[hx]) h i v hv
 |.lit _,cs,o,p,hd,h,i,v,hv|.any,cs,o,p,hd,h,i,v,hv|.sl _ _,cs,o,p,hd,h,i,v,hv|.ptr _,cs,o,p,hd,h,i,v,hv=>by
  obtain⟨v',h1,h2,h3⟩:=zDi rfl h;have:=hd [];rw[Jw,zAe rfl]at this;simp only[roT,vals]at hv;cases i with
  |zero=>
   simp at hv;rw[←hv,this];simp[K4,h1,jR h2]
  |succ i=>simp at hv
 |.ro _,_,_,_,_,h,_,_,_|.same _ _,_,_,_,_,h,_,_,_|.addr _ _,_,_,_,_,h,_,_,_|.sub _ _ _ _ _,_,_,_,_,h,_,_,_|.tup _,_,_,_,_,h,_,_,_=>by simp only[RoC]at h
theorem zGN:(xs:List T)→ ∀(cs:Array Value)(p:List Nat)(j o:Nat),(∀z i x,xs[i]? =ud x→G.hd d (z++((j+i)::p))=qE (zCA x cs (o+T.sizes (xs.take i)) z.reverse))→RoF St xs cs o→ ∀(i:Nat)(v:Value),(zW G d (roT.roTs xs) p j)[i]? =ud v→cs[o+i]? =ud v
 | [],_,_,_,_,_,_,i,v,hv=>by simp[roT.roTs,zW]at hv
 |x::xs,cs,p,j,o,hd,h,i,v,hv=>by
  simp only[roT.roTs,zW,RoF]at h hv;have hx:∀z,G.hd d (z++(j::p))=qE (zCA x cs o z.reverse):=fun z=>by simpa[T.sizes]using hd z 0 x (by simp)
  have gg:(vals G d (roT x) (j::p)).length=x.size:=by have hs:(roT x).size=x.size:=zDh x (fun ys e=>by subst e;simp only[RoC]at h;exact h.1);rw[wO (roT x) (j::p) (fun ys e=>by cases x<;>simp[roT]at e),hs]
  rw[K8]at hv;split at hv
  ·exact zFj x cs o (j::p) hx h.1 i v hv
  ·have:=zGN xs cs p (j+1) (o+x.size) (fun z i y hy=>by
    have:=hd z (i+1) y (by simpa using hy);simp only[Ke,T.sizes]at this;rw[show j+1+i=j+(i+1)from by omega,show o+x.size+T.sizes (xs.take i)=o+(x.size+T.sizes (xs.take i))from H0 ..];exact this) h.2 _ v hv
   rwa [gg,show o+x.size+(i-x.size)=o+i from by omega]at this
end
mutual
theorem zMa:(u:T)→Top (roT u)
 |.agg xs=>by simp only[roT,Top];exact zIK xs
 |.lit _|.any|.sl _ _|.ptr _|.ro _|.same _ _|.addr _ _|.sub _ _ _ _ _|.tup _=>by simp[roT,Top]
theorem zIK:(xs:List T)→vK (roT.roTs xs)
 | []=>by simp only[roT.roTs,vK]
 |x::xs=>by simp only[roT.roTs,vK];exact⟨zMa x,zIK xs⟩
end
end
section
variable {P:Program}{Γ:Ctx}{E:Env}{o:Oper}{d:Nat}
theorem zHK{G:Gh}{w:World}(hm:Mem Γ G w){b:Nat}{cs:Array Value}{e:TypeId}{fr:Nat×Nat}(h:Γ.St b=ud (.cells cs e fr))(i:Nat):w.cell? ⟨b,i,ue⟩=cs[i]?:=by simp[World.cell?,hm.st b _ h]
theorem zKD(x:Operand)(T':TypeId)(ds:TypeDesc)(ti:TypeInfo)(u:T)(ho:o.op=.load T' x)(gf:o.dst=ud d)(hd:d<Γ.N)
  (hT:P.underlying T'=ud ds)(hi:P.info? T'=ud ti)(eK:zDM ds= !u.single)(gw:ti.size=u.size)
  (hx:opT E x=ud (.ro (.ptr u))):xT P Γ o E (E.app [(d,ud (roT u))] [(d,0)]):=by
 refine xT.value gf fun a w G g9=>?_
 have h1:=zFi g9 hx;simp only[RoC]at h1;obtain⟨b,o',cs',e,fr,h2,h3,h4⟩:=h1;have fg:a.eval x=.pointer (ud ⟨b,o',ue⟩):=by simpa using h2
 have gV:∀xs,u≠.tup xs:=by rintro xs rfl;simp only[RoC]at h4
 let f:List Nat→Value:=fun z=>qE (zCA u cs' o' z.reverse)
 have hz:∀z,(G.put d f).hd d (z++[])=qE (zCA u cs' o' z.reverse):=fun z=>by rw[Gh.put_self,Jf]
 refine⟨mkV (G.put d f) d (roT u) [],w,?_,_,wP g9 rfl hd f (fun z=>zAz _) _ _ rfl (zOx u cs' o' [] hz h4) (zMa u)⟩;cases u with
 |agg xs=>
  have h5:∀j v,(zW (G.put d f) d (roT.roTs xs) [] 0)[j]? =ud v→w.cell? ((⟨b,o',ue⟩:Addr).add j)=ud v:=by intro j v hv;rw[vM,zHK g9.mem h3];exact zFj (.agg xs) cs' o' [] hz h4 j v (by simpa only[roT,vals]using hv)
  have h6:=run_loadCells_list (P:=P) (w:=w) ⟨b,o',ue⟩ _ h5;rw[wA,zDN]at h6;simp only[T.size]at gw;simp[T.single]at eK;simp[execOp,ho,fg,Instr.loadAt,vX,loadVar,sL hT,eK,sizeOf,typeInfo,hi,gw,h6,mkV,roT]
 |tup xs=>exact absurd rfl (gV xs)
 |_=>
  obtain⟨v,h5,h6,h7⟩:=zDi rfl h4;have h8:w.cell? ⟨b,o',ue⟩=ud v:=by rw[zHK g9.mem h3];exact h5
  simp[T.single]at eK;have h9:f []=v:=by show qE (zCA _ cs' o' _)=v;rw[zAe rfl];simp[K4,h5,jR h6]
  simp[execOp,ho,fg,Instr.loadAt,vX,loadVar,sL hT,eK,load,Sem.run,h8,mkV,roT,Gh.put_self,h9]
def zEy(E:Env)(x:Operand):Bool:=
 match opT E x with
 |some (.addr _ _)|some (.ro (.ptr _))=>uf
 |_=>match uS E x with
  |some (_,_,.ptr _)=>uf
  |some (_,_,.ro (.ptr _))=>uf
  |_=>ug
theorem zOz{G:Gh}{a:Act}{w:World}(g9:Rep Γ E G a.tmps w){x:Operand}(h:zEy E x=uf):∃ad,a.eval x=.pointer (ud ad):=by
 unfold zEy at h;split at h
 ·rename_i r q hx
  cases x with
  |tmp s=>
   obtain⟨h1,h2,_⟩:=g9.ent s _ hx;simp only[R]at h2;exact⟨_,by rw[xQ h1,yU rfl,h2]⟩
  |const v=>simp only[opT]at hx;split at hx<;>simp at hx
  |func f=>simp[opT]at hx
  |global g=>simp[opT]at hx
 ·rename_i u hx
  have:=zFi g9 hx;simp only[RoC]at this;obtain⟨b,o',_,_,_,h1,_⟩:=this;exact⟨_,by simpa using h1⟩
 ·split at h
  ·rename_i hl
   obtain⟨h1,h2⟩:=sV g9 hl rfl;simp only[R]at h1;obtain⟨b,cs,e,h3,_⟩:=h1;exact⟨_,by rw[h2,h3]⟩
  ·rename_i hl
   obtain⟨h1,h2⟩:=sV g9 hl rfl;simp only[R,RoC]at h1;obtain⟨b,o',_,_,_,h3,_⟩:=h1;exact⟨_,by rw[h2];simpa using h3⟩
  ·cases h
theorem zTR(x:Operand)(t:T)(ho:o.op=.nilCheck x)(gf:o.dst=ud d)(hd:d<Γ.N)(hx:opT E x=ud t)(hp:zEy E x=uf)(ht:∀xs,t≠.tup xs)
  (gj:∀s,x=.tmp s→s≠d)(gG:T.okB [(d,0)] (uJ x t)=uf):xT P Γ o E (E.app [(d,ud (uJ x t))] [(d,0)]):=by
 refine xT.value gf fun a w G g9=>?_
 obtain⟨f,hf,h1,h2⟩:=opd g9 hx ht;obtain⟨h3,h4⟩:=h1 d gj gG;obtain⟨ad,h5⟩:=zOz g9 hp;refine⟨a.eval x,w,?_,_,wP g9 rfl hd f hf _ _ h3 h4 h2⟩;simp[execOp,ho,h5]
theorem zIL{G:Gh}{s:Nat}:(xs:List T)→ ∀(p:List Nat)(j i:Nat)(x:T),xs[i]? =ud x→(qX G s xs p j)[i]? =ud (tG G s x ((j+i)::p))
 | [],_,_,_,_,h=>by simp at h
 |y::ys,p,j,i,x,h=>by
  cases i with
  |zero=>simp at h;subst h;simp[qX]
  |succ i=>
   have:=zIL (G:=G) (s:=s) ys p (j+1) i x (by simpa using h);rw[show j+(i+1)=j+1+i from by omega];simpa[qX]using this
theorem zKE(s i:Nat)(ts:List T)(t:T)(ho:o.op=.extract (.tmp s) i)(gf:o.dst=ud d)(hd:d<Γ.N)(hs:E s=ud (.tup ts))(hi:ts[i]? =ud t)(ht:∀xs,t≠.tup xs)
  (gj:s≠d)(gG:T.okB [(d,0)] (cpT s t [i])=uf):xT P Γ o E (E.app [(d,ud (cpT s t [i]))] [(d,0)]):=by
 refine xT.value gf fun a w G g9=>?_
 obtain⟨h1,h2,_⟩:=g9.ent s _ hs;simp only[R]at h2;have h3:=zAm ts [] 0 i t h2 hi;simp only[J6]at h3;have h4:=zIL (G:=G) (s:=s) ts [] 0 i t hi;simp only[J6]at h4;have hk:=G.put_keep (w:=w) (w':=w) rfl d (fun z=>G.hd s (z++[i]));have hz:∀z,(G.put d (fun z=>G.hd s (z++[i]))).hd d (z++[])=G.hd s (z++[i]):=fun z=>by rw[Gh.put_self,Jf]
 refine⟨tG G s t [i],w,?_,_,wP g9 rfl hd (fun z=>G.hd s (z++[i])) (fun z=>g9.mem.one _ _) _ _ (kJ t [i] [] ht hz).symm
  (zC8 (fun p=>G.put_other _ p gj) t [i] [] hz ht (hk.keepR (jQ _ (tY s t [i]) gG)) h3) (tY s t [i])⟩
 simp[execOp,ho,xQ h1,mkV,Instr.extract,h4]
def zAK(E:Env)(x:Option Operand)(dflt n:Nat):Prop:=
 match x with
 |none=>n=dflt
 |some y=> ∃kd,opT E y=ud (.lit (.int kd n))
theorem zFk{St:Stb}:(xs:List T)→ ∀(cs:Array Value)(o k l:Nat),RoL St xs cs o k→RoL St (xs.drop l) cs (o+l*k) k
 | [],_,_,_,_,_=>by simp[RoL]
 |x::xs,cs,o,k,l,h=>by
  cases l with
  |zero=>simpa using h
  |succ l=>
   simp only[RoL]at h;have:=zFk xs cs (o+k) k l h.2
   rwa [List.drop_succ_cons,show o+(l+1)*k=o+k+l*k from by rw[H3];omega]
theorem zFl{St:Stb}:(xs:List T)→ ∀(cs:Array Value)(o k l:Nat),RoL St xs cs o k→RoL St (xs.take l) cs o k
 | [],_,_,_,_,_=>by simp[RoL]
 |x::xs,cs,o,k,l,h=>by
  cases l with
  |zero=>simp[RoL]
  |succ l=>simp only[RoL,Ke]at h ⊢;exact⟨h.1,zFl xs cs _ k l h.2⟩
theorem zBT{P:Program}{G:Gh}{a:Act}{w:World}(g9:Rep Γ E G a.tmps w){x:Operand}{kd:IntKind}{n y:Nat}{c:BoundsCode}(hx:opT E x=ud (.lit (.int kd n)))(h:n≤y):
  (Instr.sliceBound (a.eval x) y c).run P w=.ok n w:=by
 rw[(xX g9 hx).1];have:(n:Int)≤(y:Int):=by omega
 simp[Instr.sliceBound,asIntOf,this]
theorem zFm{P:Program}{G:Gh}{a:Act}{w:World}(g9:Rep Γ E G a.tmps w){lo hi:Option Operand}{l h n c:Nat}(eL:zAK E lo 0 l)(f9:zAK E hi n h)(h1:l≤h)(h2:h≤c):
  (Instr.sliceBounds uf n c (lo.map a.eval) (hi.map a.eval) ue).run P w=.ok (l,h,c) w:=by
 cases lo with
 |none=>
  cases hi with
  |none=>simp only[zAK]at eL f9;subst eL;subst f9;simp[Instr.sliceBounds]
  |some y=>simp only[zAK]at eL f9;obtain⟨kd,hy⟩:=f9;subst eL;simp[Instr.sliceBounds,zBT g9 hy h2]
 |some x=>
  obtain⟨kd,hx⟩:=eL;cases hi with
  |none=>simp only[zAK]at f9;subst f9;simp[Instr.sliceBounds,zBT g9 hx h1]
  |some y=>obtain⟨kd',hy⟩:=f9;simp[Instr.sliceBounds,zBT g9 hy h2,zBT g9 hx h1]
theorem zIM(x:Operand)(lo hi:Option Operand)(t e:TypeId)(ti:TypeInfo)(r:Nat)(q:List Nat)(k:Nat)(xs:List T)(l h:Nat)(ho:o.op=.slice t x lo hi ue)(gf:o.dst=ud d)(hd:d<Γ.N)
  (ht:P.underlying t=ud (.slice e))(he:P.info? e=ud ti)(hk:ti.size=k)(hx:uS E x=ud (r,q,.ro (.sl k xs)))(eL:zAK E lo 0 l)(f9:zAK E hi xs.length h)(h1:l≤h)(h2:h≤xs.length):
  xT P Γ o E (E.app [(d,ud (.ro (.sl k ((xs.drop l).take (h-l)))))] [(d,0)]):=by
 refine xT.value gf fun a w G g9=>?_
 obtain⟨g1,g2⟩:=sV g9 hx rfl;obtain⟨a',c,g4,g5,g6,g7⟩:=zBS g1;have g8:=zFm (P:=P) g9 eL f9 h1 (Lv h2 g5);have gg:((xs.drop l).take (h-l)).length=h-l:=by simp;omega
 refine⟨.slice (if c=l then a' else a'.map (·.add (l*k))) (h-l) (c-l),w,?_,_,wP g9 rfl hd (fun _=>.slice (if c=l then a' else a'.map (·.add (l*k))) (h-l) (c-l)) (fun _=>rfl) _ _ (by simp[mkV,Gh.put]) ?_ (by simp[Top])⟩
 ·simp only[execOp,ho,Ja5]
  simp[Instr.sliceAt,Instr.slice,run_underlying ht,g2,g4,g8,sizeOf,typeInfo,he,hk]
 ·simp only[R,Gh.put_self,RoC]
  refine⟨_,_,by rw[gg];rfl,by omega,by omega,?_⟩;intro gj;have mA:xs≠[]:=by rintro rfl;simp at gj
  obtain⟨b,o',cs',e',fr,rfl,h3,h4⟩:=g7 mA;have gI:c≠l:=by rintro rfl;apply gj;apply Ju;omega
  exact⟨b,o'+l*k,cs',e',fr,by simp[gI,vM],h3,zFl _ _ _ _ _ (zFk _ _ _ _ _ h4)⟩
theorem zHL(x:Operand)(lo hi:Option Operand)(t e:TypeId)(ti:TypeInfo)(r:Nat)(q:List Nat)(k:Nat)(xs:List T)(l h:Nat)(ho:o.op=.slice t x lo hi ue)(gf:o.dst=ud d)(hd:d<Γ.N)
  (ht:P.underlying t=ud (.slice e))(he:P.info? e=ud ti)(hk:ti.size=k)(hx:uS E x=ud (r,q,.sl k xs))(eL:zAK E lo 0 l)(f9:zAK E hi xs.length h)(h1:l≤h)(h2:h≤xs.length)(gA:r≠d):
  xT P Γ o E (E.app [(d,ud (.sub r q k l h))] [(d,0)]):=by
 refine xT.value gf fun a w G g9=>?_
 obtain⟨g1,g2⟩:=sV g9 hx rfl;obtain⟨a',c,g4⟩:=zHJ g1;have g5:xs.length≤c:=by
  simp only[R]at g1;rcases g1 with⟨rfl,_⟩|⟨b,o0,cap,cs,e,g,_,g',_⟩
  ·simp
  ·rw[g4]at g;simp at g;omega
 have g8:=zFm (P:=P) g9 eL f9 h1 (Lv h2 g5);refine⟨zAw (G.hd r q) k l h,w,?_,_,wP g9 rfl hd (fun _=>zAw (G.hd r q) k l h) (fun _=>by rw[g4];rfl) _ _ (by simp[mkV,Gh.put]) ?_ (by simp[Top])⟩
 ·simp only[execOp,ho,Ja5]
  simp[Instr.sliceAt,Instr.slice,run_underlying ht,g2,g4,g8,sizeOf,typeInfo,he,hk,zAw]
 ·simp only[R,Gh.put_self]
  rw[Gh.put_other _ _ _ gA]
end
end Go.Ab

namespace Go.Ab
open Go
def T.inT:T→List Nat→Bool
 |_,[]=>uf
 |.agg xs,i::f=>match xs[i]? with
  |some x=>x.inT f
  |none=>ug
 |.any,_::_|.lit _,_::_|.ro _,_::_|.same _ _,_::_|.addr _ _,_::_|.sub _ _ _ _ _,_::_|.sl _ _,_::_|.ptr _,_::_|.tup _,_::_=>ug
termination_by structural _ f=>f
def T.offT:T→List Nat→Nat
 |_,[]=>0
 |.agg xs,i::f=>match xs[i]? with
  |some x=>T.sizes (xs.take i)+x.offT f
  |none=>0
 |.any,_::_|.lit _,_::_|.ro _,_::_|.same _ _,_::_|.addr _ _,_::_|.sub _ _ _ _ _,_::_|.sl _ _,_::_|.ptr _,_::_|.tup _,_::_=>0
termination_by structural _ f=>f
theorem zFn{t:T}(h:t.single=uf){f:List Nat}(hf:f≠[]):t.inT f=ug:=by
 cases f with
 |nil=>grind
 |cons i f=>cases t<;>simp[T.single]at h<;>rfl
mutual
def zO0:T→List Nat→Nat→Option (List Nat)
 |.agg xs,p,o=>zBt xs p 0 o
 |.any,p,o|.lit _,p,o|.ro _,p,o|.same _ _,p,o|.addr _ _,p,o|.sub _ _ _ _ _,p,o|.sl _ _,p,o|.ptr _,p,o|.tup _,p,o=>if o=0 then ud p else ue
def zBt:List T→List Nat→Nat→Nat→Option (List Nat)
 | [],_,_,_=>ue
 |x::xs,p,j,o=>if o<x.size then zO0 x (j::p) o else zBt xs p (j+1) (o-x.size)
end
mutual
def T.okTup:T→Bool
 |.tup _=>ug
 |.agg xs=>yG xs
 |.any|.lit _|.ro _|.same _ _|.addr _ _|.sub _ _ _ _ _|.sl _ _|.ptr _=>uf
def yG:List T→Bool
 | []=>uf
 |x::xs=>x.okTup&&yG xs
end
theorem zCB:(xs:List T)→ ∀(p:List Nat)(j o:Nat),T.sizes xs≤o→zBt xs p j o=ue
 | [],_,_,_,_=>by rfl
 |x::xs,p,j,o,h=>by simp only[T.sizes]at h;simp only[zBt];rw[if_neg (by omega)];exact zCB xs p (j+1) _ (by omega)
section
variable {G:Gh}{w:World}{d:Nat}
mutual
theorem zTS:(x:T)→ ∀(p:List Nat)(B o:Nat),(∀xs,x≠.tup xs)→x.okTup=uf→
  (∀f,x.inT f=uf→G.ad d (f.reverse++p)=⟨B,o+x.offT f,ue⟩)→(∀j p',j<x.size→zO0 x p j=ud p'→G.lb B (o+j)=ud (ug,d,p'))→
  (∀j v,(vals G d x p)[j]? =ud v→yE w B (o+j)=ud v)→Loc G w d x p B o
 |.agg xs,p,B,o,_,hn,ha,hl,hc=>by
  simp only[Loc];refine⟨by simpa[T.offT]using ha [] rfl,zER xs p 0 B o (by grind[T.okTup]) (fun i x hx f hf=>?_) (fun j p' hj hp=>?_) (by grind[vals])⟩
  ·have:=ha (i::f) (by grind[T.inT])
   grind[T.offT]
  grind[T.size,zO0]
 |.any,p,B,o,_,_,ha,hl,hc|.lit _,p,B,o,_,_,ha,hl,hc|.ro _,p,B,o,_,_,ha,hl,hc|.same _ _,p,B,o,_,_,ha,hl,hc|.addr _ _,p,B,o,_,_,ha,hl,hc|.sub _ _ _ _ _,p,B,o,_,_,ha,hl,hc|.sl _ _,p,B,o,_,_,ha,hl,hc|.ptr _,p,B,o,_,_,ha,hl,hc=>by simp only[Loc];exact⟨by simpa[T.offT]using ha [] rfl,by simpa using hl 0 p (by simp[T.size]) (by rfl),by simpa using hc 0 (G.hd d p) (by simp[vals])⟩
 |.tup xs,_,_,_,h,_,_,_,_=>absurd rfl (h xs)
theorem zER:(xs:List T)→ ∀(p:List Nat)(j B o:Nat),yG xs=uf→
  (∀i x,xs[i]? =ud x→ ∀f,x.inT f=uf→G.ad d (f.reverse++((j+i)::p))=⟨B,o+(T.sizes (xs.take i)+x.offT f),ue⟩)→
  (∀i p',i<T.sizes xs→zBt xs p j i=ud p'→G.lb B (o+i)=ud (ug,d,p'))→
  (∀i v,(zW G d xs p j)[i]? =ud v→yE w B (o+i)=ud v)→wQ G w d xs p j B o
 | [],_,_,_,_,_,_,_,_=>by simp only[wQ]
 |x::xs,p,j,B,o,hn,ha,hl,hc=>by
  simp only[yG,J2]at hn;have gV:∀ys,x≠.tup ys:=by rintro ys rfl;grind[T.okTup]
  simp only[wQ];refine⟨zTS x (j::p) B o gV hn.1 (fun f hf=>by simpa[T.sizes]using ha 0 x (by simp) f hf) (fun i p' hi hp=>hl i p' (by grind[T.sizes]) (by simp only[zBt,hi,if_true];exact hp)) (fun i v hv=>hc i v ?_),
   zER xs p (j+1) B (o+x.size) hn.2 (fun i y hy f hf=>?_) (fun i p' hi hp=>?_) (fun i v hv=>?_)⟩
  ·grind[zW]
  ·have:=ha (i+1) y (by grind) f hf
   grind[T.sizes]
  ·have:=hl (x.size+i) p' (by grind[T.sizes]) (by simp only[zBt];grind)
   grind
  ·have:=hc (x.size+i) v (by
    grind[zW,wO])
   grind
end
end
structure MvC (G:Gh) (w:World) (G':Gh) (w':World) (s:Nat) (p:List Nat) (s':Nat) (p':List Nat) (t:T):Prop where
 hd:∀z,G'.hd s' (z++p')=G.hd s (z++p)
 ad:∀z,t.inT z.reverse=ug→G'.ad s' (z++p')=G.ad s (z++p)
 lb:∀b o f z,(f=uf∨t.inT z.reverse=ug)→G.lb b o=ud (f,s,z++p)→G'.lb b o=ud (f,s',z++p')∧yE w' b o=yE w b o
 ow:∀b z,G.ow b=ud (s,z++p)→G'.ow b=ud (s',z++p')
 blk:Blk w w'
section
variable {St:Stb}{G:Gh}{w:World}{G':Gh}{w':World}{s:Nat}{s':Nat}
theorem MvC.moves{p p':List Nat}{t:T}(h:MvC G w G' w' s p s' p' t)(ht:t.single=uf):zFg G w G' w' s p s' p' where
 hd:=h.hd
 ad z hz:=h.ad z (zFn ht (by simp_all))
 lb b o f z hz _ hl:=h.lb b o f z (.inr (zFn ht (by simp_all))) hl
 ow b z _ hl:=h.ow b z hl
 blk:=h.blk
 sp b o _ hl:=by simpa using h.lb b o uf [] (.inl rfl) (by grind)
 ow0 b hl:=by simpa using h.ow b [] (by grind)
theorem MvC.field{p p':List Nat}{xs:List T}(h:MvC G w G' w' s p s' p' (.agg xs)){j:Nat}{x:T}(hx:xs[j]? =ud x):MvC G w G' w' s (j::p) s' (j::p') x where
 hd z:=by have:=h.hd (z++[j]);grind
 ad z hz:=by
  have:=h.ad (z++[j]) (by grind[T.inT])
  grind
 lb b o f z hf hl:=by
  have:=h.lb b o f (z++[j]) (by grind[T.inT]) (by grind)
  grind
 ow b z hl:=by
  have:=h.ow b (z++[j]) (by grind)
  grind
 blk:=h.blk
mutual
theorem zIN:(t:T)→ ∀(p p':List Nat),t.okTup=uf→MvC G w G' w' s p s' p' t→yM (jL G G') t→R St G w s t p→R St G' w' s' t p'
 |.agg xs,p,p',hn,h,hk,hr=>by
  simp only[R,yM,T.okTup]at hr hk hn ⊢
  exact zO1 xs p p' 0 hn (fun j x hx=>by rw[J6];exact h.field hx) hk hr
 |.any,p,p',_,h,hk,hr|.lit _,p,p',_,h,hk,hr|.ro _,p,p',_,h,hk,hr|.same _ _,p,p',_,h,hk,hr|.addr _ _,p,p',_,h,hk,hr|.sub _ _ _ _ _,p,p',_,h,hk,hr|.sl _ _,p,p',_,h,hk,hr|.ptr _,p,p',_,h,hk,hr=>
  qP (h.moves rfl) _ hk hr
 |.tup _,_,_,hn,_,_,_=>by grind[T.okTup]
theorem zO1:(xs:List T)→ ∀(p p':List Nat)(j:Nat),yG xs=uf→(∀i x,xs[i]? =ud x→MvC G w G' w' s ((j+i)::p) s' ((j+i)::p') x)→xG (jL G G') xs→RF St G w s xs p j→RF St G' w' s' xs p' j
 | [],_,_,_,_,_,_,_=>by simp only[RF]
 |x::xs,p,p',j,hn,h,hk,hr=>by
  simp only[RF,xG,yG,J2]at hr hk hn ⊢
  exact⟨zIN x (j::p) (j::p') hn.1 (by simpa using h 0 x (by simp)) hk.1 hr.1,zO1 xs p p' (j+1) hn.2 (fun i y hy=>by
   have:=h (i+1) y (by grind)
   grind) hk.2 hr.2⟩
end
end
theorem zMb{St:Stb}{G:Gh}{w:World}{s:Nat}:(xs:List T)→ ∀(p:List Nat)(j:Nat),(∀i x,xs[i]? =ud x→R St G w s x ((j+i)::p))→RF St G w s xs p j
 | [],_,_,_=>by simp only[RF]
 |x::xs,p,j,h=>by
  simp only[RF];exact⟨by simpa using h 0 x (by simp),zMb xs p (j+1) (fun i y hy=>by
   have:=h (i+1) y (by grind)
   grind)⟩
theorem zO2{St:Stb}{G:Gh}{w:World}{s:Nat}{k:Nat}:(xs:List T)→ ∀(p:List Nat)(j b o:Nat),(∀x∈xs,x.size=k)→wQ G w s xs p j b o→RF St G w s xs p j→RL St G w s xs p j b o k
 | [],_,_,_,_,_,_,_=>by simp only[RL]
 |x::xs,p,j,b,o,hk,hl,hr=>by
  simp only[RL,wQ,RF]at hl hr ⊢
  have h1:=hk x (by simp);exact⟨⟨hl.1,h1⟩,hr.1,zO2 xs p (j+1) b (o+k) (by grind) (by grind) hr.2⟩
theorem wB{k:Nat}:(xs:List T)→(∀x∈xs,x.size=k)→T.sizes xs=xs.length*k
 | [],_=>by simp[T.sizes]
 |x::xs,h=>by simp[T.sizes,wB xs (fun y hy=>h y (by simp[hy])),h x (by simp),H3];omega
def Gh.nb(G:Gh)(d B:Nat)(xs:List T)(src:Nat→Option (Nat×List Nat))(φ:Nat→List Nat→Option (List Nat))(f:Nat→List Nat→Value)(gM:Value):Gh where
 hd s z:=if s=d then(match z.getLast? with
  |some i=>f i z.dropLast
  |none=>gM)else G.hd s z
 ad s z:=if s=d then(if(T.agg xs).inT z.reverse then⟨B,(T.agg xs).offT z.reverse,ue⟩else match z.getLast? with
  |some i=>(match src i with
   |some (x,q)=>G.ad x (z.dropLast++q)
   |none=>default)
  |none=>default)else G.ad s z
 lb b o:=if b=B then ud (match zBt xs [] 0 o with
  |some p=>(ug,d,p)
  |none=>(uf,d,[]))else match G.lb b o with
  |some (fl,s,z)=>(match φ s z with
   |some z'=>ud (fl,d,z')
   |none=>ud (fl,s,z))
  |none=>ue
 ow b:=if b=B then ud (d,[])else match G.ow b with
  |some (s,z)=>(match φ s z with
   |some z'=>ud (d,z')
   |none=>ud (s,z))
  |none=>ue
theorem zBU{Γ:Ctx}{G:Gh}{w w':World}(hm:Mem Γ G w){cells:Array Value}{e:TypeId}(hw:w'.heap=w.heap.push (.cells cells e))(d:Nat)(xs:List T)
  (src:Nat→Option (Nat×List Nat))(φ:Nat→List Nat→Option (List Nat))(f:Nat→List Nat→Value)(gM:Value)(chg:Chg)
  (gG:yG xs=uf)(hf:∀(i:Nat)(z:List Nat),(f i z).oneCell'=uf)(hh:gM.oneCell'=uf)
  (hφ:∀(i:Nat) u x q(z:List Nat),xs[i]? =ud u→src i=ud (x,q)→φ x (z++q)=ud (z++[i]))
  (aU:∀(i:Nat) u x q,xs[i]? =ud u→src i=ud (x,q)→(∀z,f i z=G.hd x (z++q))∧R Γ.St G w x u q∧zS u∧x≠d)
  (bY:∀(i:Nat) u,xs[i]? =ud u→src i=ue→ ∀(G2:Gh)(w2:World),(∀z,G2.hd d (z++[i])=f i z)→R Γ.St G2 w2 d u [i])
  (fA:∀(G2:Gh),(∀i z,G2.hd d (z++[i])=f i z)→ ∀(o:Nat)(v:Value),(zW G2 d xs [] 0)[o]? =ud v→cells[o]? =ud v)
  (tq:∀s p,(∀n,(s,n)∉(d,0)::chg)→φ s p=ue)(ho:w'.os=w.os:=by rfl)(hq:w'.output=w.output:=by rfl):
  sE ((d,0)::chg) G w (G.nb d w.heap.size xs src φ f gM) w'∧Mem Γ (G.nb d w.heap.size xs src φ f gM) w'∧
  wQ (G.nb d w.heap.size xs src φ f gM) w' d xs [] 0 w.heap.size 0∧RF Γ.St (G.nb d w.heap.size xs src φ f gM) w' d xs [] 0∧
  w'.heap[w.heap.size]? =ud (.cells cells e):=by
 have ec:w'.heap[w.heap.size]? =ud (.cells cells e):=by grind
 have gC:∀b,b<w.heap.size→w'.heap[b]? =w.heap[b]?:=fun b hb=>by rw[hw,Array.getElem?_push];grind
 have gw:w'.heap.size=w.heap.size+1:=by grind
 have eM:∀b o,b<w.heap.size→yE w' b o=yE w b o:=fun b o hb=>by simp[yE,World.cell?,gC b hb]
 have gE:Blk w w':=fun b cs e' h=>⟨cs,by rw[gC b (by grind)];exact h,rfl⟩
 have gu:=hm.one
 generalize gm:G.nb d w.heap.size xs src φ f gM=G'
 have ghd:∀i z,G'.hd d (z++[i])=f i z:=fun i z=>by rw[←gm];simp[Gh.nb]
 have gad:∀g,(T.agg xs).inT g=uf→G'.ad d g.reverse=⟨w.heap.size,(T.agg xs).offT g,ue⟩:=fun g hg=>by rw[←gm];simp[Gh.nb,hg]
 have gadm:∀i x q z,src i=ud (x,q)→(T.agg xs).inT (i::z.reverse)=ug→G'.ad d (z++[i])=G.ad x (z++q):=fun i x q z hs gW=>by rw[←gm];simp[Gh.nb,gW,hs]
 have glb:∀o p,zBt xs [] 0 o=ud p→G'.lb w.heap.size o=ud (ug,d,p):=fun o p h=>by rw[←gm];simp[Gh.nb,h]
 have glbm:∀b o fl x z z',G.lb b o=ud (fl,x,z)→φ x z=ud z'→G'.lb b o=ud (fl,d,z'):=fun b o fl x z z' h1 h2=>by have:=(hm.lb b o _ h1).1;rw[←gm];simp[Gh.nb,h1,h2,show b≠w.heap.size from by omega]
 have gowm:∀b x z z',G.ow b=ud (x,z)→φ x z=ud z'→G'.ow b=ud (d,z'):=fun b x z z' h1 h2=>by have:=(hm.ow b _ h1).1;rw[←gm];simp[Gh.nb,h1,h2,show b≠w.heap.size from by omega]
 have gj:∀s p,Off ((d,0)::chg) s p→s≠d:=fun s p h e=>absurd (h 0 (by simp[e])) (by simp)
 have gv:sE ((d,0)::chg) G w G' w':=by
  refine⟨fun s p h=>?_,fun s p h=>?_,fun b o fl s p _ hl h=>⟨?_,eM b o (hm.lb b o _ hl).1⟩,fun b s p hl h=>?_,gE⟩
  ·rw[←gm];simp[Gh.nb,gj s p h]
  ·rw[←gm];simp[Gh.nb,gj s p h]
  ·have:=(hm.lb b o _ hl).1
   rw[←gm];simp[Gh.nb,hl,tq s p h,show b≠w.heap.size from by omega]
  ·have:=(hm.ow b _ hl).1
   rw[←gm];simp[Gh.nb,hl,tq s p h,show b≠w.heap.size from by omega]
 refine⟨gv,?_,?_,?_,ec⟩
 ·
  have hB:zBq Γ w' w.heap.size:=⟨by omega,.inl hm.sz,by
   cases gF:Γ.St w.heap.size with
   |none=>rfl
   |some x=>have:=hm.st _ x gF;simp at this⟩
  have fS:∀b,zBq Γ w b→zBq Γ w' b:=fun b h=>⟨by have:=h.1;omega,h.2⟩
  refine⟨fun s p=>?_,fun b o l hl=>?_,fun b l hl=>?_,fun b x hx=>?_,fun b h1 h2=>?_,by have:=hm.sz;omega,hm.bk.trans gE ho hq⟩
  ·rw[←gm]
   simp only[Gh.nb];split
   ·split
    ·exact hf _ _
    ·exact hh
   ·exact gu s p
  ·rw[←gm]at hl
   simp only[Gh.nb]at hl;split at hl
   ·grind
   ·split at hl
    ·rename_i hg;exact fS b (hm.lb b o _ hg)
    ·cases hl
  ·rw[←gm]at hl
   simp only[Gh.nb]at hl;split at hl
   ·grind
   ·split at hl
    ·rename_i hg;exact fS b (hm.ow b _ hg)
    ·cases hl
  ·have:=hm.st b x hx
   rw[gC b (Le.1 this).1];exact this
  ·rw[gC b (Qp h1 hm.sz)]
   exact hm.fr b h1 h2
 ·
  refine zER xs [] 0 w.heap.size 0 gG (fun i x hx g hg=>?_) (fun i p' _ hp=>by simpa using glb i p' hp) (fun i v hv=>?_)
  ·have:=gad (i::g) (by simp only[T.inT,hx];exact hg)
   simpa[T.offT,hx]using this
  ·have:=fA G' ghd i v hv
   rw[J6];simp[yE,World.cell?,ec,this]
 ·
  refine zMb xs [] 0 (fun i u hu=>?_);rw[J6];cases hs:src i with
  |none=>exact bY i u hu hs G' w' (fun z=>ghd i z)
  |some xq=>
   obtain⟨x,q⟩:=xq;obtain⟨h1,h2,h3,h4⟩:=aU i u x q hu hs;have gW:∀g,(T.agg xs).inT (i::g)=u.inT g:=fun g=>by simp only[T.inT,hu]
   refine zIN u q [i] (okTups_get xs gG i u hu) ⟨fun z=>by rw[ghd,h1],fun z hz=>gadm i x q z hs (by rw[gW];exact hz),fun b o fl z hz hl=>⟨glbm b o fl x _ _ hl (hφ i u x q z hu hs),eM b o (hm.lb b o _ hl).1⟩,
    fun b z hl=>gowm b x _ _ hl (hφ i u x q z hu hs),gE⟩ (yM.mono (by simp) u h3) h2
where okTups_get:(xs:List T)→yG xs=uf→ ∀(i:Nat)(x:T),xs[i]? =ud x→x.okTup=uf
 | [],_,_,_,h=>by simp at h
 |y::ys,hk,i,x,h=>by
  simp only[yG,J2]at hk;cases i with
  |zero=>grind
  |succ i=>exact okTups_get ys hk.2 i x (by grind)
end Go.Ab

namespace Go.Ab
open Go
inductive yI where
 |slot (s:Nat) (t:T)
 |zero (u:T)
def yI.tree:yI→T
 |.slot _ t=>t
 |.zero u=>u
def tH:T→Bool
 |.lit _|.ro _=>ug
 |_=>uf
mutual
def T.zOk:T→Bool
 |.lit v=>v.oneCell'
 |.sl _ xs=>xs.isEmpty
 |.agg xs=>jS xs
 |.any|.ro _|.same _ _|.addr _ _|.sub _ _ _ _ _|.ptr _|.tup _=>ug
def jS:List T→Bool
 | []=>uf
 |x::xs=>x.zOk&&jS xs
end
def zhd:T→List Nat→Value
 |.agg xs,i::f=>match xs[i]? with
  |some x=>zhd x f
  |none=>.bool ug
 |.lit v,_=>v
 |.sl _ _,_=>.slice ue 0 0
 |.agg _,[] |.any,_|.ro _,_|.same _ _,_|.addr _ _,_|.sub _ _ _ _ _,_|.ptr _,_|.tup _,_=>.bool ug
termination_by structural _ f=>f
mutual
def uT:T→List Value
 |.lit v=>[v]
 |.sl _ _=>[.slice ue 0 0]
 |.agg xs=>tT xs
 |.any|.ro _|.same _ _|.addr _ _|.sub _ _ _ _ _|.ptr _|.tup _=>[]
def tT:List T→List Value
 | []=>[]
 |x::xs=>uT x++tT xs
end
section
variable {St:Stb}{G:Gh}{w:World}{d:Nat}
mutual
theorem zHM:(u:T)→ ∀(p:List Nat),u.zOk=uf→(∀z,G.hd d (z++p)=qE (zhd u z.reverse))→R St G w d u p
 |.lit v,p,h,hd=>by
  simp only[T.zOk,R]at h ⊢
  have:=hd [];rw[Jw]at this;rw[this];exact jR h
 |.sl k xs,p,h,hd=>by simp only[T.zOk,Ja0]at h;subst h;have:=hd [];rw[Jw]at this;simp only[R];exact .inl ⟨trivial,ue,by rw[this];rfl⟩
 |.agg xs,p,h,hd=>by
  simp only[T.zOk,R]at h ⊢
  exact zMc xs p 0 h (fun i x hx z=>by
   rw[J6];have:=hd (z++[i])
   grind[zhd])
 |.any,_,h,_|.ro _,_,h,_|.same _ _,_,h,_|.addr _ _,_,h,_|.sub _ _ _ _ _,_,h,_|.ptr _,_,h,_|.tup _,_,h,_=>by grind[T.zOk]
theorem zMc:(xs:List T)→ ∀(p:List Nat)(j:Nat),jS xs=uf→(∀i x,xs[i]? =ud x→ ∀z,G.hd d (z++((j+i)::p))=qE (zhd x z.reverse))→RF St G w d xs p j
 | [],_,_,_,_=>by simp only[RF]
 |x::xs,p,j,h,hd=>by
  simp only[jS,J2,RF]at h ⊢
  exact⟨zHM x (j::p) h.1 (by simpa using hd 0 x (by simp)),zMc xs p (j+1) h.2 (fun i y hy z=>by
   have:=hd (i+1) y (by grind) z
   grind)⟩
end
end
section
variable {G:Gh}{d:Nat}
mutual
theorem zDO:(u:T)→ ∀(p:List Nat),u.zOk=uf→(∀z,G.hd d (z++p)=qE (zhd u z.reverse))→vals G d u p=uT u
 |.lit v,p,h,hd=>by
  simp only[T.zOk,vals,uT]at h ⊢
  have:=hd []
  grind[zhd,jR]
 |.sl k xs,p,h,hd=>by
  have:=hd []
  grind[vals,uT,zhd,qE,Value.oneCell']
 |.agg xs,p,h,hd=>by
  simp only[T.zOk,vals,uT]at h ⊢
  exact zCC xs p 0 h (fun i x hx z=>by
   rw[J6];have:=hd (z++[i])
   grind[zhd])
 |.any,_,h,_|.ro _,_,h,_|.same _ _,_,h,_|.addr _ _,_,h,_|.sub _ _ _ _ _,_,h,_|.ptr _,_,h,_|.tup _,_,h,_=>by grind[T.zOk]
theorem zCC:(xs:List T)→ ∀(p:List Nat)(j:Nat),jS xs=uf→(∀i x,xs[i]? =ud x→ ∀z,G.hd d (z++((j+i)::p))=qE (zhd x z.reverse))→zW G d xs p j=tT xs
 | [],_,_,_,_=>by rfl
 |x::xs,p,j,h,hd=>by
  simp only[jS,J2,zW,tT]at h ⊢
  rw[zDO x (j::p) h.1 (by simpa using hd 0 x (by simp)),zCC xs p (j+1) h.2 (fun i y hy z=>by
   have:=hd (i+1) y (by grind) z
   grind)]
end
end
mutual
theorem zA0:(u:T)→u.zOk=uf→zS u∧u.okTup=uf
 |.lit _,_=>by simp[zS,yM,T.okTup]
 |.sl _ xs,h=>by simp only[T.zOk,Ja0]at h;subst h;simp[zS,yM,xG,T.okTup]
 |.agg xs,h=>by simp only[T.zOk]at h;simpa only[zS,yM,T.okTup]using zAL xs h
 |.any,h|.ro _,h|.same _ _,h|.addr _ _,h|.sub _ _ _ _ _,h|.ptr _,h|.tup _,h=>by grind[T.zOk]
theorem zAL:(xs:List T)→jS xs=uf→yP xs∧yG xs=uf
 | [],_=>by simp[yP,xG,yG]
 |x::xs,h=>by simp only[jS,J2]at h;simp only[yP,xG,yG,J2];exact⟨⟨(zA0 x h.1).1,(zAL xs h.2).1⟩,(zA0 x h.1).2,(zAL xs h.2).2⟩
end
mutual
theorem wV:(u:T)→u.zOk=uf→(uT u).length=u.size
 |.lit _,_|.sl _ _,_=>by rfl
 |.agg xs,h=>by simp only[T.zOk]at h;simp only[uT,T.size];exact zAn xs h
 |.any,h|.ro _,h|.same _ _,h|.addr _ _,h|.sub _ _ _ _ _,h|.ptr _,h|.tup _,h=>by grind[T.zOk]
theorem zAn:(xs:List T)→jS xs=uf→(tT xs).length=T.sizes xs
 | [],_=>by rfl
 |x::xs,h=>by simp only[jS,J2]at h;simp only[tT,J7,T.sizes,wV x h.1,zAn xs h.2]
end
def zFo(ps:List yI)(i:Nat):Option (Nat×List Nat):=
 match ps[i]? with
 |some (.slot s t)=>if tH t then ud (s,[])else ue
 |_=>ue
def zG7:List yI→Nat→Nat→Option Nat
 | [],_,_=>ue
 |.slot x t::r,i,s=>if tH t&&x==s then ud i else zG7 r (i+1) s
 |.zero _::r,i,s=>zG7 r (i+1) s
def zG8(ps:List yI)(s:Nat)(z:List Nat):Option (List Nat):=
 match zG7 ps 0 s with
 |some i=>ud (z++[i])
 |none=>ue
def pWr(d:Nat):List yI→Nat→Wr
 | [],_=>[]
 |.slot s t::r,i=>if tH t then(s,ud (cpT d t [i]))::pWr d r (i+1)else pWr d r (i+1)
 |.zero _::r,i=>pWr d r (i+1)
def xD:List yI→List Nat
 | []=>[]
 |.slot s t::r=>if tH t then s::xD r else xD r
 |.zero _::r=>xD r
def tI(ps:List yI):Chg:=(xD ps).map fun s=>(s,1)
def tP(G:Gh):yI→List Value
 |.slot s t=>vals G s t []
 |.zero u=>uT u
def pHd(G:Gh)(ps:List yI)(i:Nat)(z:List Nat):Value:=
 match ps[i]? with
 |some (.slot s _)=>G.hd s z
 |some (.zero u)=>qE (zhd u z.reverse)
 |none=>.bool ug
structure uM (E:Env) (d:Nat) (ps:List yI):Prop where
 slot:∀s t,yI.slot s t∈ps→E s=ud t∧zS t∧t.okTup=uf
 zero:∀u,yI.zero u∈ps→u.zOk=uf
 dist:(d::xD ps).Nodup
theorem zA1:(ps:List yI)→ ∀(i0 i s:Nat)(t:T),ps[i]? =ud (.slot s t)→tH t=uf→(xD ps).Nodup→zG7 ps i0 s=ud (i0+i)
 | [],_,_,_,_,h,_,_=>by simp at h
 |.slot x u::r,i0,i,s,t,h,hm,hn=>by
  cases i with
  |zero=>simp at h;obtain⟨rfl,rfl⟩:=h;simp[zG7,hm]
  |succ i=>
   simp only[Ja8]at h;have gW:s∈xD r:=pSlots_mem r i s t h hm;simp only[zG7]
   by_cases hu:tH u=uf
   ·simp only[xD,hu,if_true,Ki]at hn
    have:x≠s:=by grind
    simp only[hu,Jch,beq_iff_eq,this,if_false];rw[zA1 r (i0+1) i s t h hm hn.2]
    grind
   ·simp only[xD,hu]at hn
    simp only[hu,Jad,Lu,if_false];rw[zA1 r (i0+1) i s t h hm (by grind)]
    grind
 |.zero u::r,i0,i,s,t,h,hm,hn=>by
  cases i with
  |zero=>simp at h
  |succ i=>
   simp only[Ja8]at h;simp only[zG7];rw[zA1 r (i0+1) i s t h hm (by grind[xD])]
   grind
where pSlots_mem:(ps:List yI)→ ∀(i s:Nat)(t:T),ps[i]? =ud (.slot s t)→tH t=uf→s∈xD ps
 | [],_,_,_,h,_=>by simp at h
 |.slot x u::r,i,s,t,h,hm=>by
  cases i with
  |zero=>simp at h;obtain⟨rfl,rfl⟩:=h;simp[xD,hm]
  |succ i=>
   have:=pSlots_mem r i s t (by grind) hm
   grind[xD]
 |.zero u::r,i,s,t,h,hm=>by
  cases i with
  |zero=>simp at h
  |succ i=>simpa only[xD]using pSlots_mem r i s t (by grind) hm
theorem zBV:(ps:List yI)→ ∀(i0 s:Nat),s∉xD ps→zG7 ps i0 s=ue
 | [],_,_,_=>by rfl
 |.slot x u::r,i0,s,h=>by
  simp only[zG7]
  by_cases hu:tH u=uf
  ·simp only[xD,hu,if_true,Jp,not_or]at h
   simp only[hu,Jch,beq_iff_eq,Ne.symm h.1,if_false];exact zBV r _ s h.2
  ·simp only[xD,hu]at h
   simp only[hu,Jad,Lu,if_false];exact zBV r _ s (by grind)
 |.zero u::r,i0,s,h=>by simp only[zG7];exact zBV r _ s (by grind[xD])
theorem zBu:(ps:List yI)→ ∀(d i0 s:Nat)(x:Option T),(pWr d ps i0).find s=ud x→ ∃i t,ps[i]? =ud (.slot s t)∧tH t=uf∧x=ud (cpT d t [i0+i])
 | [],_,_,_,_,h=>by grind[pWr,Wr.find]
 |.slot y u::r,d,i0,s,x,h=>by
  simp only[pWr]at h;split at h
  ·rename_i hu
   simp only[Wr.find]at h;split at h
   ·rename_i he;subst he;simp at h;exact⟨0,u,by simp,hu,by grind⟩
   ·obtain⟨i,t,h1,h2,h3⟩:=zBu r d (i0+1) s x h
    exact⟨i+1,t,by grind,h2,by grind⟩
  ·obtain⟨i,t,h1,h2,h3⟩:=zBu r d (i0+1) s x h
   exact⟨i+1,t,by grind,h2,by grind⟩
 |.zero u::r,d,i0,s,x,h=>by simp only[pWr]at h;obtain⟨i,t,h1,h2,h3⟩:=zBu r d (i0+1) s x h;exact⟨i+1,t,by grind,h2,by grind⟩
theorem zBv:(ps:List yI)→ ∀(d i0 s:Nat),(pWr d ps i0).find s=ue→s∉xD ps
 | [],_,_,_,_=>by simp[xD]
 |.slot y u::r,d,i0,s,h=>by
  simp only[pWr]at h;simp only[xD];split at h
  ·rename_i hu
   simp only[Wr.find]at h;split at h
   ·cases h
   ·rename_i gj
    simp only[hu,if_true,Jp,not_or];exact⟨fun e=>gj e.symm,zBv r d _ s h⟩
  ·rename_i hu
   simp only[hu];simpa using zBv r d _ s h
 |.zero u::r,d,i0,s,h=>by simp only[pWr]at h;simpa only[xD]using zBv r d _ s h
section
variable {Γ:Ctx}{E:Env}{G:Gh}{tmps:Array Value}{w:World}{d:Nat}{ps:List yI}
theorem zEz(g9:Rep Γ E G tmps w)(h:uM E d ps):
  yG (ps.map yI.tree)=uf∧yP (ps.map yI.tree)∧(∀i z,(pHd G ps i z).oneCell'=uf)∧
  (∀(i:Nat) u x q(z:List Nat),(ps.map yI.tree)[i]? =ud u→zFo ps i=ud (x,q)→zG8 ps x (z++q)=ud (z++[i]))∧
  (∀(i:Nat) u x q,(ps.map yI.tree)[i]? =ud u→zFo ps i=ud (x,q)→(∀z,pHd G ps i z=G.hd x (z++q))∧R Γ.St G w x u q∧zS u∧x≠d)∧
  (∀(i:Nat) u,(ps.map yI.tree)[i]? =ud u→zFo ps i=ue→ ∀(G2:Gh)(w2:World),(∀z,G2.hd d (z++[i])=pHd G ps i z)→R Γ.St G2 w2 d u [i])∧
  (∀s p,(∀n,(s,n)∉(d,0)::tI ps)→zG8 ps s p=ue):=by
 have pL:=Ki.1 h.dist;refine⟨?_,?_,?_,?_,?_,?_,?_⟩
 ·have:∀qs:List yI,(∀p∈qs,p∈ps)→yG (qs.map yI.tree)=uf:=by
   intro qs
   induction qs with
   |nil=>intro _;rfl
   |cons q qs ih=>
    intro hq;simp only[Jn,yG,J2];refine⟨?_,by grind⟩;cases q with
    |slot s t=>exact(h.slot s t (hq _ (by simp))).2.2
    |zero u=>exact(zA0 u (h.zero u (hq _ (by simp)))).2
  grind
 ·have:∀qs:List yI,(∀p∈qs,p∈ps)→yP (qs.map yI.tree):=by
   intro qs
   induction qs with
   |nil=>intro _;trivial
   |cons q qs ih=>
    intro hq;simp only[Jn,yP,xG];refine⟨?_,by grind⟩;cases q with
    |slot s t=>exact(h.slot s t (hq _ (by simp))).2.1
    |zero u=>exact(zA0 u (h.zero u (hq _ (by simp)))).1
  grind
 ·intro i z
  unfold pHd;split
  ·exact g9.mem.one _ _
  ·exact zAz _
  ·rfl
 ·intro i u x q z hu hs
  rw[Jo]at hu;unfold zFo at hs;cases hp:ps[i]? with
  |none=>grind
  |some p=>
   cases p with
   |zero v=>grind
   |slot s t=>
    simp only[hp]at hs;split at hs
    ·rename_i hm
     simp at hs;obtain⟨rfl,rfl⟩:=hs;simp[zG8,zA1 ps 0 i s t hp hm pL.2]
    ·cases hs
 ·intro i u x q hu hs
  rw[Jo]at hu;unfold zFo at hs;cases hp:ps[i]? with
  |none=>grind
  |some p=>
   cases p with
   |zero v=>grind
   |slot s t=>
    simp only[hp]at hs;split at hs
    ·rename_i hm
     simp at hs;obtain⟨rfl,rfl⟩:=hs;simp[hp,yI.tree]at hu;subst hu;obtain⟨h1,h2,h3⟩:=h.slot s t (by grind);refine⟨by grind[pHd],(g9.ent s t h1).2.1,h2,fun e=>pL.1 ?_⟩
     grind[zA1.pSlots_mem]
    ·cases hs
 ·intro i u hu hs G2 w2 es
  rw[Jo]at hu;unfold zFo at hs;cases hp:ps[i]? with
  |none=>grind
  |some p=>
   cases p with
   |zero v=>
    simp[hp,yI.tree]at hu;subst hu;exact zHM v [i] (h.zero v (by grind)) (by grind[pHd])
   |slot s t=>
    simp only[hp]at hs;split at hs
    ·cases hs
    ·rename_i hm
     simp[hp,yI.tree]at hu;subst hu;have h1:=(g9.ent s t (h.slot s t (by grind)).1).2.1;have h2:G2.hd d [i]=G.hd s []:=by have:=es [];grind[pHd]
     cases t<;>simp[tH]at hm<;>simp only[R]at h1 ⊢ <;>rw[h2]<;>exact h1
 ·intro s p gB
  have:s∉xD ps:=fun gW=>gB 1 (by grind[tI])
  grind[zG8,zBV]
theorem zCD(g9:Rep Γ E G tmps w)(h:uM E d ps)(G2:Gh):∀(qs:List yI)(i0:Nat),(∀i q,qs[i]? =ud q→ps[i0+i]? =ud q)→(∀i z,G2.hd d (z++[i])=pHd G ps i z)→
  zW G2 d (qs.map yI.tree) [] i0=qs.flatMap (tP G)
 | [],_,_,_=>by rfl
 |q::qs,i0,hq,es=>by
  have h0:ps[i0]? =ud q:=by simpa using hq 0 q (by simp)
  have ih:=zCD g9 h G2 qs (i0+1) (fun i p hp=>by rw[show i0+1+i=i0+(i+1)from by omega];simp_all) es;simp only[Jn,zW,La,ih]
  congr 1
  cases q with
  |slot s t=>exact zAc t [] [i0] (by grind[pHd])
  |zero u=>exact zDO u [i0] (h.zero u (by grind)) (by grind[pHd])
end
end Go.Ab

namespace Go.Ab
open Go
section
variable {P:Program}{Γ:Ctx}{E:Env}{o:Oper}{d:Nat}
theorem zGO{G G':Gh}{w':World}{s i:Nat}{t:T}{v:Option Value}(hv:v=ud (mkV G s t []))(gV:∀xs,t≠.tup xs)(hs:∀p,G'.hd s p=G.hd s p)(cU:∀z,G'.hd d (z++[i])=G.hd s z)
  (hr:R Γ.St G' w' d t [i]):Ent Γ G' w' v s (cpT d t [i]):=by
 have hz:∀z,G'.hd s (z++[])=G'.hd d (z++[i]):=fun z=>by rw[Jf,hs,cU]
 refine⟨?_,?_,tY d t [i]⟩
 ·rw[hv,kJ (G:=G') (G':=G') t [i] [] gV hz,qY G s t [] gV,zAI t [] [i] (fun z=>by rw[cU,Jf])]
 ·exact zC8 (G:=G') (G':=G') (fun _=>rfl) t [i] [] hz gV (yM.triv (fun _ _=>⟨rfl,rfl⟩) _) hr
theorem zA2{G:Gh}{a:Act}{w w':World}{ps:List yI}(g9:Rep Γ E G a.tmps w)(h:uM E d ps)(hd:d<Γ.N){cells:Array Value}{e:TypeId}(hw:w'.heap=w.heap.push (.cells cells e))
  (fA:∀(o:Nat)(v:Value),(ps.flatMap (tP G))[o]? =ud v→cells[o]? =ud v)
  (rt:T)(gM:Value)
  (fp:(∃k cap,rt=.sl k (ps.map yI.tree)∧(∀p∈ps,p.tree.size=k)∧gM=.slice (ud ⟨w.heap.size,0,ue⟩) ps.length cap∧ps.length≤cap∧cap≤maxLen∧cells.size=cap*k)∨
   ∃p,ps=[p]∧rt=.ptr p.tree∧gM=.pointer (ud ⟨w.heap.size,0,ue⟩)∧cells.size=p.tree.size)
  (ho:w'.os=w.os:=by rfl)(hq:w'.output=w.output:=by rfl):
  ∃G',Rep Γ (E.app ((d,ud rt)::pWr d ps 0) ((d,0)::tI ps)) G' (a.tmps.setIfInBounds d gM) w':=by
 obtain⟨f1,f0,f2,f3,f4,f5,f6⟩:=zEz g9 h;have hh:gM.oneCell'=uf:=by rcases fp with⟨k,cap,_,_,rfl,_⟩|⟨p,_,_,rfl,_⟩<;>rfl
 have pL:=Ki.1 h.dist;obtain⟨g1,g2,g3,g4,g5⟩:=zBU g9.mem hw d (ps.map yI.tree) (zFo ps) (zG8 ps) (pHd G ps) gM (tI ps) f1 f2 hh f3 f4 f5
  (fun G2 es o v hv=>fA o v (by rw[zCD g9 h G2 ps 0 (fun i q hq=>by simpa using hq) es]at hv;exact hv)) f6 (ho:=ho) (hq:=hq)
 refine⟨_,wR g9 (by simp) g1 g2 ?_ ?_⟩
 ·intro s hs
  simp only[Wr.find]at hs;split at hs
  ·cases hs
  ·rename_i gj
   have hns:=zBv ps d 0 s hs;refine⟨fun n hn=>?_,by rw[J8];simp[gj]⟩;simp only[Jp,Qh.injEq,tI,Je]at hn;rcases hn with⟨e1,_⟩|⟨y,hy,e1,_⟩
   ·exact gj e1.symm
   ·exact hns (e1▸hy)
 ·intro s t hs
  simp only[Wr.find]at hs;split at hs
  ·rename_i he
   subst he;simp at hs;subst hs;have ct:(G.nb d w.heap.size (ps.map yI.tree) (zFo ps) (zG8 ps) (pHd G ps) gM).hd d []=gM:=by simp[Gh.nb]
   have how:(G.nb d w.heap.size (ps.map yI.tree) (zFo ps) (zG8 ps) (pHd G ps) gM).ow w.heap.size=ud (d,[]):=by simp[Gh.nb]
   refine⟨?_,?_,?_⟩
   ·rw[J8]
    rcases fp with⟨k,cap,rfl,_⟩|⟨p,_,rfl,_⟩<;>simp[g9.size,hd,mkV,ct]
   ·rcases fp with⟨k,cap,rfl,hk,h1,h2,h3,h4⟩|⟨p,rfl,rfl,h1,h4⟩
    ·simp only[R]
     rw[ct];refine .inr ⟨w.heap.size,0,cap,cells,e,by simpa using h1,g5,by simpa using h2,h3,by omega,how,?_,zO2 _ _ _ _ _ (fun x hx=>?_) g3 g4⟩
     ·intro o ho _
      have gw:T.sizes (ps.map yI.tree)=(ps.map yI.tree).length*k:=wB _ (fun x hx=>by obtain⟨p,hp,rfl⟩:=Je.1 hx;exact hk p hp)
      simp[Gh.nb,zCB (ps.map yI.tree) [] 0 o (by omega)]
     ·obtain⟨p,hp,rfl⟩:=Je.1 hx
      exact hk p hp
    ·simp only[R]
     rw[ct];simp only[Jn,U0,wQ,RF]at g3 g4;exact⟨w.heap.size,cells,e,h1,g5,h4,how,g3.1,g4.1⟩
   ·rcases fp with⟨k,cap,rfl,_⟩|⟨p,rfl,rfl,_⟩
    ·simp only[Top];exact f0
    ·simp only[Top];exact f0.1
  ·rename_i gj
   obtain⟨i,u,h1,h2,h3⟩:=zBu ps d 0 s _ hs;simp only[J6]at h3;simp at h3;subst h3;obtain⟨h4,h5,h6⟩:=h.slot s u (Kw h1);have gV:∀xs,u≠.tup xs:=by rintro xs rfl;simp[T.okTup]at h6
   have hi:(ps.map yI.tree)[i]? =ud u:=by simp[h1,yI.tree]
   have hr:=zAm _ [] 0 i u g4 hi;simp only[J6]at hr;refine zGO (G:=G) (by rw[J8];simp only[gj,if_false];exact(g9.ent s u h4).1) gV (fun p=>?_) (fun z=>?_) hr
   ·simp[Gh.nb,show s≠d from fun e=>gj e.symm]
   ·simp[Gh.nb,pHd,h1]
inductive jI (E:Env):Operand→yI→Prop where
 |slot (s:Nat) (t:T):jI E (.tmp s) (.slot s t)
 |zero (v:Value) (u:T) (h:uT u=v.cells.toList):jI E (.const v) (.zero u)
theorem kL{G:Gh}{a:Act}{w:World}{ps:List yI}(g9:Rep Γ E G a.tmps w)(h:uM E d ps){x:Operand}{p:yI}(hp:p∈ps)(hx:jI E x p):
  (a.eval x).cells.toList=tP G p:=by
 cases hx with
 |slot s t=>
  obtain⟨h1,h2,h3⟩:=h.slot s t hp;obtain⟨h4,_,_⟩:=g9.ent s t h1;rw[xQ h4];cases t with
  |agg xs=>simp[mkV,Value.cells,vals,tP]
  |tup xs=>simp[T.okTup]at h3
  |_=>
   have:=g9.mem.one s [];simp only[mkV,vals,tP]
   generalize G.hd s []=v at this
   cases v<;>simp[Value.oneCell',Value.cells]at this ⊢
 |zero v u h=>simp[Act.eval,h,tP]
def vN(E:Env):List Operand→List yI→Prop
 | [],[]=>True
 |x::xs,p::ps=>jI E x p∧vN E xs ps
 |_,_=>False
theorem vN.length:(xs:List Operand)→(ps:List yI)→vN E xs ps→xs.length=ps.length
 | [],[],_=>rfl
 |_::xs,_::ps,h=>by simp[vN.length xs ps h.2]
 | [],_::_,h=>by simp[vN]at h
 |_::_,[],h=>by simp[vN]at h
theorem vN.mem:(xs:List Operand)→(ps:List yI)→vN E xs ps→ ∀x∈xs,∃p,p∈ps∧jI E x p
 | [],_,_,x,hx=>by simp at hx
 |y::xs,p::ps,h,x,hx=>by
  rcases Jp.1 hx with rfl|hx
  ·exact⟨p,by simp,h.1⟩
  ·obtain⟨q,hq,hxq⟩:=vN.mem xs ps h.2 x hx;exact⟨q,by simp[hq],hxq⟩
 |_::_,[],h,_,_=>by simp[vN]at h
theorem zFp{G:Gh}{a:Act}{w:World}{ps:List yI}(g9:Rep Γ E G a.tmps w)(h:uM E d ps):∀(xs:List Operand)(qs:List yI),(∀q∈qs,q∈ps)→vN E xs qs→
  ((xs.map a.eval).flatMap fun v=>v.cells.toList)=qs.flatMap (tP G)
 | [],[],_,_=>rfl
 |x::xs,q::qs,hq,hx=>by simp only[Jn,La,kL g9 h (hq q (by simp)) hx.1,zFp g9 h xs qs (fun p hp=>hq p (by simp[hp])) hx.2]
 | [],_::_,_,hx=>by simp[vN]at hx
 |_::_,[],_,hx=>by simp[vN]at hx
theorem zO3(T':TypeId)(ti:TypeInfo)(z:Value)(u:T)(ho:o.op=.alloc T')(gf:o.dst=ud d)(hd:d<Γ.N)
  (hi:P.info? T'=ud ti)(hz:ti.zero=ud z)(hu:u.zOk=uf)(hv:uT u=z.cells.toList)(gw:z.cells.size=u.size):
  xT P Γ o E (E.app [(d,ud (.ptr u))] [(d,0)]):=by
 refine xT.value gf fun a w G g9=>?_
 have gQ:uM E d [.zero u]:=⟨fun s t h=>by simp at h,fun v h=>by simp at h;subst h;exact hu,by simp[xD]⟩;obtain⟨G',gm⟩:=zA2 (w':=w.alloc (.cells z.cells T')) g9 gQ hd (cells:=z.cells) (e:=T') rfl (fun o v h=>by simpa[hv,tP]using h) (.ptr u) (.pointer (ud ⟨w.heap.size,0,ue⟩)) (.inr ⟨.zero u,rfl,rfl,rfl,gw⟩);refine⟨_,_,?_,G',by simpa[pWr,tI,xD]using gm⟩;simp[execOp,ho,Instr.alloc,zeroValue,typeInfo,hi,hz,newVar,newRow]
theorem zTT(T':TypeId)(x:Operand)(p:yI)(ho:o.op=.box T' x)(gf:o.dst=ud d)(hd:d<Γ.N)(hx:jI E x p)(gQ:uM E d [p]):
  xT P Γ o E (E.app ((d,ud (.ptr p.tree))::pWr d [p] 0) ((d,0)::tI [p])):=by
 refine xT.value gf fun a w G g9=>?_
 have hc:=kL g9 gQ (by simp) hx;have gw:(a.eval x).cells.size=p.tree.size:=by
  rw[←K3,hc];cases p with
  |slot s t=>
   obtain⟨_,_,h3⟩:=gQ.slot s t (by simp);show(vals G s t []).length=t.size;exact wO t [] (by rintro xs rfl;simp[T.okTup]at h3)
  |zero u=>exact wV u (gQ.zero u (by simp))
 obtain⟨G',gm⟩:=zA2 (w':=w.alloc (.cells (a.eval x).cells T')) g9 gQ hd (cells:=(a.eval x).cells) (e:=T') rfl (fun o v h=>by rw[←Kc,hc];simpa using h) (.ptr p.tree) (.pointer (ud ⟨w.heap.size,0,ue⟩)) (.inr ⟨p,rfl,rfl,rfl,gw⟩)
 refine⟨_,_,?_,G',gm⟩;simp[execOp,ho,Instr.box,newVar,newRow]
theorem zG9(t e:TypeId)(ti:TypeInfo)(z:Value)(k n:Nat)(xs:List Operand)(ps:List yI)(ho:o.op=.buildSlice t n ((xs.zipIdx 0).map fun x=>(x.2,x.1)).toArray)(gf:o.dst=ud d)(hd:d<Γ.N)
  (ht:P.underlying t=ud (.slice e))(hi:P.info? e=ud ti)(hz:ti.zero=ud z)(hk:ti.size=k)(eA:0<k)(hn:xs.length=n)(bZ:0<n)(aV:n*k≤2 ^ 24)
  (hx:vN E xs ps)(gQ:uM E d ps)(gw:∀p∈ps,p.tree.size=k):
  xT P Γ o E (E.app ((d,ud (.sl k (ps.map yI.tree)))::pWr d ps 0) ((d,0)::tI ps)):=by
 refine xT.value gf fun a w G g9=>?_
 subst hk;have gg:xs.length=ps.length:=vN.length xs ps hx;have hc:=zFp g9 gQ xs ps (fun _ h=>h) hx;have ca:∀v∈xs.map a.eval,v.cells.size=ti.size:=by
  intro v hv;obtain⟨x,mX,rfl⟩:=Je.1 hv;obtain⟨p,hp,hxp⟩:=vN.mem xs ps hx x mX;rw[←K3,kL g9 gQ hp hxp,←gw p hp];cases p with
  |slot s t=>
   obtain⟨_,_,h3⟩:=gQ.slot s t hp;show(vals G s t []).length=t.size;exact wO t [] (by rintro xs rfl;simp[T.okTup]at h3)
  |zero u=>exact wV u (gQ.zero u hp)
 have tk:=Great.fill_whole eA (xs.map a.eval) ((Jb5 (n*ti.size)).map (z.cells[· %z.cells.size]!)) ca (by simp[hn]);have mw:((((xs.zipIdx 0).map fun x=>(x.2,x.1)).toArray).map fun(i,x)=>(i,a.eval x)).toList=((xs.map a.eval).zipIdx 0).map fun x=>(x.2,x.1):=by simp[List.zipIdx_map,Function.comp_def]
 have gy:=run_buildSlice (P:=P) w t e n _ _ ti z ht hi hz (by omega) (by have:=Nat.mul_pos bZ eA;omega) (by rw[mw];exact tk);have gL:((xs.map a.eval).flatMap fun v=>v.cells.toList).toArray.size=n*ti.size:=by rw[Jae,zDB (k:=ti.size) _ (fun v hv=>by rw[K3];exact ca v hv)];simp[hn]
 obtain⟨G',gm⟩:=zA2 (w':=w.alloc (.cells ((xs.map a.eval).flatMap fun v=>v.cells.toList).toArray e)) g9 gQ hd rfl (fun o v h=>by rw[hc];simpa using h) (.sl ti.size (ps.map yI.tree)) (.slice (ud ⟨w.heap.size,0,ue⟩) n n) (.inl ⟨ti.size,n,rfl,gw,by rw[←gg,hn],by omega,by have:n≤n*ti.size:=Nat.le_mul_of_pos_right n eA;simp only[maxLen];omega,gL⟩)
 refine⟨_,_,?_,G',gm⟩;simp only[execOp,ho,Sem.run_bind,gy,Result.andThen_ok];rfl
where
 zDB {k:Nat} (vs:List Value) (h:∀v∈vs,v.cells.toList.length=k):(vs.flatMap fun v=>v.cells.toList).length=vs.length*k:=by
  induction vs with
  |nil=>simp
  |cons v vs ih=>simp[La,ih (fun u hu=>h u (by simp[hu])),H3];have:=h v (by simp);simp at this;omega
end
end Go.Ab

namespace Go.Ab
open Go
theorem zHN{α β:Type}(f:α→List β)(x:α)(k:Nat)(hk:(f x).length=k)(eA:0<k):∀(n o:Nat)(v:β),((J1 n x).flatMap f)[o]? =ud v→o<n*k∧(f x)[o%k]? =ud v
 |0,o,v,h=>by simp at h
 |n+1,o,v,h=>by
  rw[K6,La,K8]at h;split at h
  ·grind[Nat.mod_eq_of_lt]
  ·rename_i hge
   rw[hk]at h hge;obtain⟨h1,h2⟩:=zHN f x k hk eA n (o-k) v h
   grind[Nat.mod_eq_sub_mod]
section
variable {P:Program}{Γ:Ctx}{E:Env}{o:Oper}{d:Nat}
theorem zRM(t e:TypeId)(ti:TypeInfo)(z:Value)(u:T)(k:Nat)(x y:Operand)(n c:Nat)(kl kc:IntKind)(ho:o.op=.makeSlice t x y)(gf:o.dst=ud d)(hd:d<Γ.N)
  (ht:P.underlying t=ud (.slice e))(hi:P.info? e=ud ti)(hz:ti.zero=ud z)(hk:ti.size=k)(eA:0<k)(hu:u.zOk=uf)(hv:uT u=z.cells.toList)(fe:u.size=k)(hb:ti.bytes≤4096)
  (hx:opT E x=ud (.lit (.int kl n)))(hy:opT E y=ud (.lit (.int kc c)))(bh:n≤c)(hc:c≤68719476736):
  xT P Γ o E (E.app [(d,ud (.sl k (J1 n u)))] [(d,0)]):=by
 refine xT.value gf fun a w G g9=>?_
 have h1:=(xX g9 hx).1;have h2:=(xX g9 hy).1;subst hk;have gQ:uM E d (J1 n (.zero u)):=⟨by simp,by grind,by
  have:∀m,xD (J1 m (.zero u))=[]:=by intro m;induction m with|zero=>rfl|succ m ih=>grind[xD]
  simp[this]⟩
 have mV:z.cells.size=ti.size:=by grind[wV]
 have mK:(ti.bytes:Int)*(c:Int)≤281474976710656:=by have:ti.bytes*c≤4096*68719476736:=Gu hb hc;omega
 have gy:=run_make (P:=P) w t e ti z ht hi hz kl kc n c (by omega) (by omega) mK (by omega);simp only[Jd]at gy;obtain⟨G',gm⟩:=zA2 (w':=w.alloc (.cells (madeCells z.cells (c*ti.size)) e)) g9 gQ hd rfl (fun i v h=>by
  obtain⟨h3,h4⟩:=zHN (tP G) (.zero u) ti.size (by grind[tP]) eA n i v h
  grind[Qp,Lh,tP,madeCells]) (.sl ti.size (J1 n u)) (.slice (ud ⟨w.heap.size,0,ue⟩) n c)
  (.inl ⟨ti.size,c,by simp[yI.tree],fun p hp=>by simp at hp;obtain⟨_,rfl⟩:=hp;exact fe,by simp,by grind,by grind[maxLen],by simp[madeCells]⟩)
 refine⟨.slice (ud ⟨w.heap.size,0,ue⟩) n c,w.alloc (.cells (madeCells z.cells (c*ti.size)) e),?_,G',?_⟩
 ·simp only[execOp,ho,h1,h2,Sem.run_bind,gy,Result.andThen_ok]
  rfl
 ·have h6:∀m i,pWr d (J1 m (.zero u)) i=[]:=by intro m;induction m with|zero=>intro i;rfl|succ m ih=>grind[pWr]
  have h7:tI (J1 n (.zero u))=[]:=by
   have:∀m,xD (J1 m (.zero u))=[]:=by intro m;induction m with|zero=>rfl|succ m ih=>grind[xD]
   grind[tI]
  grind
theorem zFq(t e:TypeId)(ti:TypeInfo)(k:Nat)(ho:o.op=.buildSlice t 0 #[])(gf:o.dst=ud d)(hd:d<Γ.N)
  (ht:P.underlying t=ud (.slice e))(hi:P.info? e=ud ti):xT P Γ o E (E.app [(d,ud (.sl k []))] [(d,0)]):=by
 refine xT.value gf fun a w G g9=>?_
 have gQ:uM E d []:=⟨by simp,by simp,by simp[xD]⟩;obtain⟨G',gm⟩:=zA2 (w':=w.alloc (.cells #[] e)) g9 gQ hd (cells:=#[]) rfl (by simp) (.sl k []) (.slice (ud ⟨w.heap.size,0,ue⟩) 0 0)
  (by simp)
 refine⟨_,_,?_,G',gm⟩;have h0:(Jb5 0:Array Nat)= #[]:=by rfl
 simp[execOp,ho,Instr.buildSlice,run_underlying ht,sizeOf,typeInfo,hi,Instr.fill,newRow,h0]
theorem zIO(k:Nat)(x:Operand)(ho:o.op=.move x∨o.op=.assign x)(hx:x=.const (.slice ue 0 0))(gf:o.dst=ud d)(hd:d<Γ.N):xT P Γ o E (E.app [(d,ud (.sl k []))] [(d,0)]):=by
 refine xT.value gf fun a w G g9=>?_
 refine⟨.slice ue 0 0,w,?_,_,wP g9 rfl hd (fun _=>.slice ue 0 0) (fun _=>rfl) (.sl k []) (.slice ue 0 0) (by simp[mkV,Gh.put]) (by simp[R,Gh.put]) (by simp[Top,yP,xG])⟩;subst hx;rcases ho with ho|ho<;>simp[execOp,ho,Act.eval]
def Gh.nv(G:Gh)(d:Nat)(src:Nat→Option (Nat×List Nat))(φ:Nat→List Nat→Option (List Nat))(f:Nat→List Nat→Value):Gh where
 hd s z:=if s=d then(match z.getLast? with
  |some i=>f i z.dropLast
  |none=>.bool ug)else G.hd s z
 ad s z:=if s=d then(match z.getLast? with
  |some i=>(match src i with
   |some (x,q)=>G.ad x (z.dropLast++q)
   |none=>default)
  |none=>default)else G.ad s z
 lb b o:=match G.lb b o with
  |some (fl,s,z)=>(match φ s z with
   |some z'=>ud (fl,d,z')
   |none=>ud (fl,s,z))
  |none=>ue
 ow b:=match G.ow b with
  |some (s,z)=>(match φ s z with
   |some z'=>ud (d,z')
   |none=>ud (s,z))
  |none=>ue
theorem zRN{G:Gh}{a:Act}{w:World}{ps:List yI}(g9:Rep Γ E G a.tmps w)(h:uM E d ps)(hd:d<Γ.N):
  ∃G',Rep Γ (E.app ((d,ud (.agg (ps.map yI.tree)))::pWr d ps 0) ((d,0)::tI ps)) G' (a.tmps.setIfInBounds d (.agg (ps.flatMap (tP G)).toArray)) w:=by
 obtain⟨f1,f0,f2,f3,f4,f5,f6⟩:=zEz g9 h;have hm:=g9.mem;have gE:Blk w w:=fun b cs e' h=>⟨cs,h,rfl⟩
 generalize gm:G.nv d (zFo ps) (zG8 ps) (pHd G ps)=G'
 have ghd:∀i z,G'.hd d (z++[i])=pHd G ps i z:=by grind[Gh.nv]
 have ghd':∀s z,s≠d→G'.hd s z=G.hd s z:=by grind[Gh.nv]
 have glbm:∀b o fl x z z',G.lb b o=ud (fl,x,z)→zG8 ps x z=ud z'→G'.lb b o=ud (fl,d,z'):=by grind[Gh.nv]
 have gowm:∀b x z z',G.ow b=ud (x,z)→zG8 ps x z=ud z'→G'.ow b=ud (d,z'):=by grind[Gh.nv]
 have gj:∀s p,Off ((d,0)::tI ps) s p→s≠d:=fun s p h e=>absurd (h 0 (by simp[e])) (by simp)
 have gv:sE ((d,0)::tI ps) G w G' w:=by
  refine⟨by grind,fun s p h=>?_,fun b o fl s p _ hl h=>⟨?_,rfl⟩,fun b s p hl h=>?_,gE⟩
  ·grind[Gh.nv]
  all_goals grind[Gh.nv]
 have gx:Mem Γ G' w:=by
  refine⟨fun s p=>?_,fun b o l hl=>?_,fun b l hl=>?_,hm.st,hm.fr,hm.sz,hm.bk⟩
  ·rw[←gm]
   simp only[Gh.nv];split
   ·split
    ·grind
    ·rfl
   ·exact hm.one s p
  ·rw[←gm]at hl
   simp only[Gh.nv]at hl;split at hl
   ·rename_i hg;exact hm.lb b o _ hg
   ·cases hl
  ·rw[←gm]at hl
   simp only[Gh.nv]at hl;split at hl
   ·rename_i hg;exact hm.ow b _ hg
   ·cases hl
 have g4:RF Γ.St G' w d (ps.map yI.tree) [] 0:=by
  refine zMb _ [] 0 (fun i u hu=>?_);rw[J6];cases hs:zFo ps i with
  |none=>grind
  |some xq=>
   obtain⟨x,q⟩:=xq;obtain⟨h1,h2,h3,h4⟩:=f4 i u x q hu hs;refine zIN u q [i] (zBU.okTups_get _ f1 i u hu) ⟨by grind,by grind[Gh.nv],by grind,
    by grind,gE⟩ (by grind[yM.mono]) h2
 refine⟨G',wR g9 (by simp) gv gx ?_ ?_⟩
 ·grind[Wr.find,zBv,tI]
 ·intro s t hs
  simp only[Wr.find]at hs;split at hs
  ·rename_i he
   subst he;simp at hs;subst hs;refine⟨?_,by simpa only[R]using g4,by simp only[Top];exact vK.of_clean _ f0⟩;rw[J8];simp only[g9.size,hd,mkV,if_true];rw[zCD g9 h G' ps 0 (by simp) ghd]
  ·rename_i gj
   obtain⟨i,u,h1,h2,h3⟩:=zBu ps d 0 s _ hs;simp only[J6]at h3;simp at h3;subst h3;obtain⟨h4,h5,h6⟩:=h.slot s u (by grind);have gV:∀xs,u≠.tup xs:=by rintro xs rfl;grind[T.okTup]
   have hi:(ps.map yI.tree)[i]? =ud u:=by simp[h1,yI.tree]
   have hr:=zAm _ [] 0 i u g4 hi;simp only[J6]at hr;refine zGO (G:=G) (by rw[J8];simp only[gj,if_false];exact(g9.ent s u h4).1) gV (by grind) (fun z=>?_) hr
   grind[pHd]
theorem zMd(off:Nat):∀(vs:List Value)(i:Nat)(cs:Array Value)(k:Nat),off+i+vs.length≤cs.size→
  ((vs.zipIdx i).foldl (fun cs(x:Value×Nat)=>cs.setIfInBounds (off+x.2) x.1) cs)[k]? =if off+i≤k∧k<off+i+vs.length then vs[k-(off+i)]? else cs[k]?
 | [],i,cs,k,_=>by simp;omega
 |v::vs,i,cs,k,h=>by
  simp only[Jl]at h;simp only[List.zipIdx_cons,List.foldl_cons];rw[zMd off vs (i+1) _ k (by simp;omega)]
  grind
theorem zFr{pv:yI→List Value}(place:Nat→Option (Nat×Nat)):∀(vs:List (Nat×Value))(qs:List (Nat×yI))(ps:List yI)(cs:Array Value),cs.toList=ps.flatMap pv→
  (∀i p,ps[i]? =ud p→place i=ud (((ps.take i).flatMap pv).length,(pv p).length))→
  vs.map (·.1)=qs.map (·.1)→(∀(j:Nat)(v:Nat×Value)(q:Nat×yI),vs[j]? =ud v→qs[j]? =ud q→v.2.cells.toList=pv q.2∧ ∃p,ps[q.1]? =ud p∧(pv p).length=(pv q.2).length)→
  ∃cs',Instr.fill place cs vs=ud cs'∧cs'.toList=(qs.foldl (fun ps q=>ps.set q.1 q.2) ps).flatMap pv
 | [],[],ps,cs,gK,_,_,_=>⟨cs,rfl,gK⟩
 | [],_::_,_,_,_,_,h,_=>by simp at h
 |_::_,[],_,_,_,_,h,_=>by simp at h
 |(i,v)::vs,(i',q)::qs,ps,cs,gK,pE,hi,hq=>by
  simp only[Jn,Ql.injEq]at hi;obtain⟨dE,hi⟩:=hi;subst dE;obtain⟨h1,p,h2,h3⟩:=hq 0 (i,v) (i,q) rfl rfl;dsimp only at h1 h2 h3;have dn:=pE i p h2;have gT:=(Jg.1 h2).1;have m8:ps=ps.take i++p::ps.drop (i+1):=by grind[Kx,Qq]
  have gn:ps.set i q=ps.take i++q::ps.drop (i+1):=by grind
  have pt:v.cells.size=(pv p).length:=by grind
  have gI:cs.size=((ps.take i).flatMap pv).length+((pv p).length+((ps.drop (i+1)).flatMap pv).length):=by grind[K3]
  have ec:(v.cells.zipIdx.foldl (fun cs(x:Value×Nat)=>cs.setIfInBounds (((ps.take i).flatMap pv).length+x.2) x.1) cs).toList=(ps.set i q).flatMap pv:=by
   rw[gn];simp only[Jc5,La,←h1];apply Kd;intro k;rw[←Array.foldl_toList,Kc,show v.cells.zipIdx.toList=v.cells.toList.zipIdx 0 from by simp,zMd _ _ 0 cs k (by grind)];have dP:cs.toList=((ps.take i).flatMap pv)++(pv p++(ps.drop (i+1)).flatMap pv):=by grind
   have hvl2:v.cells.toList.length=(pv p).length:=by rw[h1,h3]
   rw[←Kc,dP]
   grind
  have dp:∀j p',(ps.set i q)[j]? =ud p'→place j=ud ((((ps.set i q).take j).flatMap pv).length,(pv p').length):=by
   intro j p' fX;have htk:(((ps.set i q).take j).flatMap pv).length=((ps.take j).flatMap pv).length:=by
    rw[gn]
    conv=>rhs;rw[m8]
    by_cases hj:j≤i
    ·grind
    ·rw[Qz,Qz]
     simp only[Jc5,J7]
     congr 1
     have:j-(ps.take i).length=(j-(ps.take i).length-1)+1:=by simp;omega
     grind
   grind
  have hq':∀(j:Nat)(x:Nat×Value)(y:Nat×yI),vs[j]? =ud x→qs[j]? =ud y→x.2.cells.toList=pv y.2∧ ∃p,(ps.set i q)[y.1]? =ud p∧(pv p).length=(pv y.2).length:=by
   intro j x y hx hy;obtain⟨h6,p',h7,h8⟩:=hq (j+1) x y (by grind) (by grind)
   grind
  obtain⟨cs',h4,h5⟩:=zFr place vs qs (ps.set i q) _ ec dp hi hq'
  grind[Instr.fill]
theorem tM{t:TypeId}{it:TypeInfo}{fields:Array Field}{z:Value}{places:List (Nat×Nat)}(hi:P.info? t=ud it)(hu:P.underlying t=ud (.struct fields))(hz:it.zero=ud z)
  (hp:fields.toList.mapM (fun f=>(P.info? f.type).map fun i=>(f.offset,i.size))=ud places)(parts:List (Nat×Value)):P.built t parts=Instr.fill (places.toArray[·]?) z.cells parts:=by
 grind[Program.built]
theorem zIP{t e:TypeId}{n:Nat}{it ie:TypeInfo}{z:Value}(hi:P.info? t=ud it)(hu:P.underlying t=ud (.array n e))(hz:it.zero=ud z)
  (he:P.info? e=ud ie)(parts:List (Nat×Value)):P.built t parts=Instr.fill (fun i=>ud (i*ie.size,ie.size)) z.cells parts:=by
 grind[Program.built]
theorem zDP{G:Gh}:(zs:List T)→(zs.map yI.zero).flatMap (tP G)=tT zs
 | []=>rfl
 |z::zs=>by simp[tP,tT,←zDP (G:=G) zs]
theorem zO4(t:TypeId)(place:Nat→Option (Nat×Nat))(z:Value)(zs:List T)(pl:List (Nat×Operand))(qs:List (Nat×yI))(ps:List yI)(ho:o.op=.build t pl.toArray)(gf:o.dst=ud d)(hd:d<Γ.N)
  (hb:∀parts,P.built t parts=Instr.fill place z.cells parts)(hzv:tT zs=z.cells.toList)(hz:jS zs=uf)(pE:∀i u,zs[i]? =ud u→place i=ud (T.sizes (zs.take i),u.size))
  (gQ:qs.foldl (fun ps q=>ps.set q.1 q.2) (zs.map yI.zero)=ps)(gG:uM E d ps)(hix:pl.map (·.1)=qs.map (·.1))
  (hq:∀(j:Nat)(x:Nat×Operand)(q:Nat×yI),pl[j]? =ud x→qs[j]? =ud q→jI E x.2 q.2∧q.2∈ps∧ ∃u,zs[q.1]? =ud u∧u.size=q.2.tree.size):
  xT P Γ o E (E.app ((d,ud (.agg (ps.map yI.tree)))::pWr d ps 0) ((d,0)::tI ps)):=by
 refine xT.value gf fun a w G g9=>?_
 obtain⟨G',gm⟩:=zRN g9 gG hd;have gw:∀(us:List T),jS us=uf→((us.map yI.zero).flatMap (tP G)).length=T.sizes us:=by grind[zDP,zAn]
 obtain⟨cs',h1,h2⟩:=zFr (pv:=tP G) place (pl.map fun x=>(x.1,a.eval x.2)) qs (zs.map yI.zero) z.cells (by rw[zDP,hzv]) (fun i p hp=>by
   rw[Jo]at hp;cases hu:zs[i]? with
   |none=>grind
   |some u=>
    simp[hu]at hp;subst hp;rw[pE i u hu,←Ua,gw _ (zOks_take zs i hz),tP,wV u (zOks_get zs hz i u hu)])
  (by grind[Function.comp_def]) (fun j v q hv hqj=>by
   rw[Jo]at hv;cases hx:pl[j]? with
   |none=>grind
   |some x=>
    simp[hx]at hv;subst hv;obtain⟨h3,h4,u,h5,h6⟩:=hq j x q hx hqj;refine⟨kL g9 gG h4 h3,.zero u,by simp[h5],?_⟩;rw[tP,wV u (zOks_get zs hz _ u h5),h6];cases pC:q.2 with
    |slot s t=>
     rw[pC]at h4;obtain⟨_,_,h7⟩:=gG.slot s t h4;exact(wO t [] (by rintro xs rfl;grind[T.okTup])).symm
    |zero u'=>
     rw[pC]at h4;exact(wV u' (gG.zero u' h4)).symm)
 rw[gQ]at h2;have h3:cs'=(ps.flatMap (tP G)).toArray:=by rw[←h2]
 refine⟨_,w,?_,G',gm⟩;have gy:=run_build (P:=P) w t (pl.map fun x=>(x.1,a.eval x.2)).toArray cs' (by grind);simp only[List.map_toArray,execOp,ho,Sem.run_bind]at gy ⊢
 simp_all
where
 zOks_get:(xs:List T)→jS xs=uf→ ∀(i:Nat)(x:T),xs[i]? =ud x→x.zOk=uf
  | [],_,_,_,h=>by simp at h
  |y::ys,hk,i,x,h=>by
   simp only[jS,J2]at hk;cases i with
   |zero=>grind
   |succ i=>exact zOks_get ys hk.2 i x (by grind)
 zOks_take:(xs:List T)→ ∀i,jS xs=uf→jS (xs.take i)=uf
  | [],i,_=>by simp[jS]
  |y::ys,0,_=>by simp[jS]
  |y::ys,i+1,hk=>by
   simp only[jS,J2,Ke]at hk ⊢
   exact⟨hk.1,zOks_take ys i hk.2⟩
end
end Go.Ab

namespace Go.Ab
open Go
mutual
def vG:T→T→Bool
 |.agg xs,.agg ys=>qR xs ys
 |.agg _,_=>ug
 |.tup _,_=>ug
 |_,.agg _=>ug
 |_,.tup _=>ug
 |.any,_|.lit _,_|.ro _,_|.same _ _,_|.addr _ _,_|.sub _ _ _ _ _,_|.sl _ _,_|.ptr _,_=>uf
def qR:List T→List T→Bool
 | [],[]=>uf
 |x::xs,y::ys=>vG x y&&qR xs ys
 | [],_::_=>ug
 |_::_,[]=>ug
end
mutual
theorem zBw:(x y:T)→vG x y=uf→x.size=y.size
 |.agg xs,.agg ys,h=>by simp only[vG]at h;simp only[T.size];exact zDj xs ys h
 |.agg _,.any,h|.agg _,.lit _,h|.agg _,.ro _,h|.agg _,.same _ _,h|.agg _,.addr _ _,h|.agg _,.sub _ _ _ _ _,h|.agg _,.sl _ _,h|.agg _,.ptr _,h|.agg _,.tup _,h=>by grind[vG]
 |.tup _,_,h=>by grind[vG]
 |.any,y,h|.lit _,y,h|.ro _,y,h|.same _ _,y,h|.addr _ _,y,h|.sub _ _ _ _ _,y,h|.sl _ _,y,h|.ptr _,y,h=>by cases y<;>simp[vG]at h<;>simp[T.size]
theorem zDj:(xs ys:List T)→qR xs ys=uf→T.sizes xs=T.sizes ys
 | [],[],_=>rfl
 |x::xs,y::ys,h=>by simp only[qR,J2]at h;simp only[T.sizes,zBw x y h.1,zDj xs ys h.2]
 | [],_::_,h=>by grind[qR]
 |_::_,[],h=>by grind[qR]
end
section
variable {G:Gh}{w:World}{s:Nat}
mutual
theorem zHO:(t:T)→ ∀(p:List Nat)(b o j:Nat),Loc G w s t p b o→j<t.size→ ∃y,G.lb b (o+j)=ud (ug,s,y++p)
 |.agg xs,p,b,o,j,h,hj=>by simp only[Loc,T.size]at h hj;exact zMe xs p 0 b o j h.2 hj
 |.any,p,b,o,j,h,hj|.lit _,p,b,o,j,h,hj|.ro _,p,b,o,j,h,hj|.same _ _,p,b,o,j,h,hj|.addr _ _,p,b,o,j,h,hj|.sub _ _ _ _ _,p,b,o,j,h,hj|.sl _ _,p,b,o,j,h,hj|.ptr _,p,b,o,j,h,hj=>by
  simp only[Loc,T.size]at h hj
  simp_all
 |.tup _,_,_,_,_,h,_=>by simp only[Loc]at h
theorem zMe:(xs:List T)→ ∀(p:List Nat)(i b o j:Nat),wQ G w s xs p i b o→j<T.sizes xs→ ∃y,G.lb b (o+j)=ud (ug,s,y++p)
 | [],_,_,_,_,_,_,hj=>by grind[T.sizes]
 |x::xs,p,i,b,o,j,h,hj=>by
  simp only[wQ,T.sizes]at h hj
  by_cases gT:j<x.size
  ·obtain⟨y,hy⟩:=zHO x (i::p) b o j h.1 gT
   exact⟨y++[i],by grind⟩
  ·obtain⟨y,hy⟩:=zMe xs p (i+1) b (o+x.size) (j-x.size) h.2 (by omega)
   grind
end
mutual
theorem zO5{G':Gh}{w':World}:(u u0:T)→ ∀(p:List Nat)(b o:Nat),vG u u0=uf→(∀y,u.inT y.reverse=uf→G'.ad s (y++p)=G.ad s (y++p))→
  (∀b o y,G.lb b o=ud (ug,s,y++p)→G'.lb b o=ud (ug,s,y++p))→(∀j v,(vals G' s u p)[j]? =ud v→yE w' b (o+j)=ud v)→Loc G w s u0 p b o→Loc G' w' s u p b o
 |.agg xs,.agg ys,p,b,o,h,ha,hl,hc,h0=>by
  simp only[Loc,vG]at h h0 ⊢
  refine⟨by have:=ha [] rfl;grind,zMf xs ys p 0 b o h (fun i x hx y hy=>?_) (by omega) (by grind[vals]) h0.2⟩
  grind[U6,T.inT]
 |.agg _,.any,_,_,_,h,_,_,_,_|.agg _,.lit _,_,_,_,h,_,_,_,_|.agg _,.ro _,_,_,_,h,_,_,_,_|.agg _,.same _ _,_,_,_,h,_,_,_,_|.agg _,.addr _ _,_,_,_,h,_,_,_,_|.agg _,.sub _ _ _ _ _,_,_,_,h,_,_,_,_|.agg _,.sl _ _,_,_,_,h,_,_,_,_|.agg _,.ptr _,_,_,_,h,_,_,_,_|.agg _,.tup _,_,_,_,h,_,_,_,_=>by grind[vG]
 |.tup _,_,_,_,_,h,_,_,_,_=>by grind[vG]
 |.any,u0,p,b,o,h,ha,hl,hc,h0|.lit _,u0,p,b,o,h,ha,hl,hc,h0|.ro _,u0,p,b,o,h,ha,hl,hc,h0|.same _ _,u0,p,b,o,h,ha,hl,hc,h0|.addr _ _,u0,p,b,o,h,ha,hl,hc,h0|.sub _ _ _ _ _,u0,p,b,o,h,ha,hl,hc,h0|.sl _ _,u0,p,b,o,h,ha,hl,hc,h0|.ptr _,u0,p,b,o,h,ha,hl,hc,h0=>by have h1:=wJ (by cases u0<;>simp[vG]at h<;>rfl) h0;have h2:=ha [] rfl;rw[Jw]at h2;simp only[Loc];exact⟨h2.trans h1.1,by simp_all,by simpa using hc 0 (G'.hd s p) (by simp[vals])⟩
theorem zMf{G':Gh}{w':World}:(xs ys:List T)→ ∀(p:List Nat)(j b o:Nat),qR xs ys=uf→(∀i x,xs[i]? =ud x→ ∀y,x.inT y.reverse=uf→G'.ad s (y++((j+i)::p))=G.ad s (y++((j+i)::p)))→
  (∀b o y,G.lb b o=ud (ug,s,y++p)→G'.lb b o=ud (ug,s,y++p))→(∀i v,(zW G' s xs p j)[i]? =ud v→yE w' b (o+i)=ud v)→wQ G w s ys p j b o→wQ G' w' s xs p j b o
 | [],[],_,_,_,_,_,_,_,_,_=>by simp only[wQ]
 |x::xs,y::ys,p,j,b,o,h,ha,hl,hc,h0=>by
  simp only[qR,J2,wQ]at h h0 ⊢
  have hs:=zBw x y h.1;have gV:∀zs,x≠.tup zs:=by rintro zs rfl;grind[vG]
  refine⟨zO5 x y (j::p) b o h.1 (fun z hz=>by simpa using ha 0 x (by simp) z hz) (fun b o z hz=>by have:=hl b o (z++[j]) (by grind);grind) (fun i v hv=>hc i v ?_) h0.1,
   zMf xs ys p (j+1) b (o+x.size) h.2 (fun i z hz=>by have:=ha (i+1) z (by grind);grind) hl (fun i v hv=>?_) (by grind)⟩
  ·grind[zW]
  ·have:=hc (x.size+i) v (by
    grind[zW,wO])
   grind
 | [],_::_,_,_,_,_,h,_,_,_,_=>by grind[qR]
 |_::_,[],_,_,_,_,h,_,_,_,_=>by grind[qR]
end
end
def zEK(p:yI)(q:List Nat)(s:Nat)(z:List Nat):Option (List Nat):=
 match p with
 |.slot s0 t=>if tH t&&s0==s then ud (z++q)else ue
 |.zero _=>ue
def sHd(G:Gh)(p:yI)(y:List Nat):Value:=
 match p with
 |.slot s _=>G.hd s y
 |.zero u=>qE (zhd u y.reverse)
def sWr(r:Nat)(q:List Nat):yI→Wr
 |.slot s t=>if tH t then[(s,ud (cpT r t q))]else[]
 |.zero _=>[]
def Gh.st(G:Gh)(r:Nat)(q:List Nat)(p:yI):Gh where
 hd s z:=if s=r∧q<:+z then sHd G p (z.take (z.length-q.length))else G.hd s z
 ad s z:=if s=r∧q<:+z∧p.tree.inT (z.take (z.length-q.length)).reverse=ug then(match p with
  |.slot s0 _=>G.ad s0 (z.take (z.length-q.length))
  |.zero _=>default)else G.ad s z
 lb b o:=match G.lb b o with
  |some (fl,s,z)=>(match zEK p q s z with
   |some z'=>ud (fl,r,z')
   |none=>ud (fl,s,z))
  |none=>ue
 ow b:=match G.ow b with
  |some (s,z)=>(match zEK p q s z with
   |some z'=>ud (r,z')
   |none=>ud (s,z))
  |none=>ue
mutual
theorem zIQ{Γ:Ctx}{G:Gh}{w:World}(hm:Mem Γ G w){s:Nat}:(t:T)→ ∀(p:List Nat)(v:Value),v∈vals G s t p→v.oneCell'=uf
 |.agg xs,p,v,h=>by simp only[vals]at h;exact zBW hm xs p 0 v h
 |.any,p,v,h|.lit _,p,v,h|.ro _,p,v,h|.same _ _,p,v,h|.addr _ _,p,v,h|.sub _ _ _ _ _,p,v,h|.sl _ _,p,v,h|.ptr _,p,v,h|.tup _,p,v,h=>by simp only[vals,List.mem_singleton]at h;rw[h];exact hm.one s p
theorem zBW{Γ:Ctx}{G:Gh}{w:World}(hm:Mem Γ G w){s:Nat}:(xs:List T)→ ∀(p:List Nat)(j:Nat)(v:Value),v∈zW G s xs p j→v.oneCell'=uf
 | [],_,_,_,h=>by grind[zW]
 |x::xs,p,j,v,h=>by
  simp only[zW,Jt]at h;rcases h with h|h
  ·exact zIQ hm x _ v h
  ·exact zBW hm xs p _ v h
end
mutual
theorem zDQ:(u:T)→u.zOk=uf→ ∀v∈uT u,v.oneCell'=uf
 |.lit v,h,x,hx=>by simp only[uT,List.mem_singleton]at hx;rw[hx];exact h
 |.sl _ _,_,x,hx=>by simp only[uT,List.mem_singleton]at hx;rw[hx];rfl
 |.agg xs,h,x,hx=>by simp only[T.zOk]at h;simp only[uT]at hx;exact zFs xs h x hx
 |.any,h,_,_|.ro _,h,_,_|.same _ _,h,_,_|.addr _ _,h,_,_|.sub _ _ _ _ _,h,_,_|.ptr _,h,_,_|.tup _,h,_,_=>by grind[T.zOk]
theorem zFs:(xs:List T)→jS xs=uf→ ∀v∈tT xs,v.oneCell'=uf
 | [],_,_,h=>by grind[tT]
 |x::xs,h,v,hv=>by
  simp only[jS,J2]at h;simp only[tT,Jt]at hv;rcases hv with hv|hv
  ·exact zDQ x h.1 v hv
  ·exact zFs xs h.2 v hv
end
theorem zIR(y q:List Nat):(y++q).take ((y++q).length-q.length)=y:=by simp
theorem zKF{Γ:Ctx}{G G':Gh}{w':World}{s d:Nat}{q:List Nat}{t:T}{v:Option Value}(hv:v=ud (mkV G s t []))(gV:∀xs,t≠.tup xs)(hs:∀p,G'.hd s p=G.hd s p)(cU:∀z,G'.hd d (z++q)=G.hd s z)
  (hr:R Γ.St G' w' d t q):Ent Γ G' w' v s (cpT d t q):=by
 have hz:∀z,G'.hd s (z++[])=G'.hd d (z++q):=by grind
 refine⟨?_,?_,tY d t q⟩
 ·rw[hv,kJ (G:=G') (G':=G') t q [] gV hz,qY G s t [] gV,zAI t [] q (fun z=>by rw[cU,Jf])]
 ·exact zC8 (G:=G') (G':=G') (fun _=>rfl) t q [] hz gV (yM.triv (fun _ _=>⟨rfl,rfl⟩) _) hr
section
variable {P:Program}{Γ:Ctx}{E:Env}{o:Oper}
theorem qF:(f:List Nat)→ ∀(t u:T),zS t→zS u→zS (t.set f u)
 | [],t,u,_,hu=>by grind[T.set]
 |i::f,t,u,ht,hu=>by
  cases t with
  |sl k xs=>
   simp only[T.set];split
   ·rename_i x hx
    simp only[zS,yM]at ht ⊢
    exact sets_clean xs i _ ht (qF f x u (vH xs ht i x hx) hu)
   ·exact ht
  |agg xs=>
   simp only[T.set];split
   ·rename_i x hx
    simp only[zS,yM]at ht ⊢
    exact sets_clean xs i _ ht (qF f x u (vH xs ht i x hx) hu)
   ·exact ht
  |tup xs=>
   simp only[T.set];split
   ·rename_i x hx
    simp only[zS,yM]at ht ⊢
    exact sets_clean xs i _ ht (qF f x u (vH xs ht i x hx) hu)
   ·exact ht
  |ptr t=>
   simp only[T.set];split
   ·simp only[zS,yM]at ht ⊢
    exact qF f t u ht hu
   ·exact ht
  |_=>grind[T.set]
where sets_clean:(xs:List T)→ ∀(i:Nat)(y:T),yP xs→zS y→yP (xs.set i y)
 | [],_,_,_,_=>by grind
 |x::xs,0,y,h,hy=>by simp only[Kj,yP,xG]at h ⊢;grind
 |x::xs,i+1,y,h,hy=>by simp only[Kk,yP,xG]at h ⊢;exact⟨h.1,sets_clean xs i y h.2 hy⟩
theorem zDR(T':TypeId)(ti:TypeInfo)(x y:Operand)(r:Nat)(q:List Nat)(tr u0:T)(p:yI)(ho:o.op=.store T' x y)(gf:o.dst=ue)
  (hi:P.info? T'=ud ti)(gw:ti.size=p.tree.size)(mu:0<ti.size)(hx:zAd Γ E x r q)(hr:E r=ud tr)(aj:tr.single=uf)(hg:tr.get q.reverse=ud u0)(hl:tr.locd q.reverse=uf)
  (eK:vG p.tree u0=uf)(hy:jI E y p)(gQ:uM E r [p]):
  xT P Γ o E (E.app ((r,ud (tr.set q.reverse p.tree))::sWr r q p) ((r,q.length)::tI [p])):=by
 refine xT.skip gf fun a w G g9=>?_
 have hm:=g9.mem;have mO:=hx a w G g9;obtain⟨e3,e4,e5⟩:=g9.ent r _ hr;have bc:q≠[]:=by rintro rfl;simp[T.locd]at hl
 obtain⟨i0,f0,dh⟩:∃i f,q.reverse=i::f:=by
  cases h:q.reverse with
  |nil=>exact absurd (by simpa using h) bc
  |cons i f=>exact⟨i,f,rfl⟩
 have bM:∀v:T,(tr.set q.reverse v).single=uf∧zS tr:=by
  intro v;rw[dh]at hg ⊢
  cases tr with
  |sl k xs=>exact⟨by simp only[T.set];split<;>rfl,by simpa only[Top,zS,yM]using e5⟩
  |ptr t=>exact⟨by simp only[T.set];split<;>rfl,by simpa only[Top,zS,yM]using e5⟩
  |agg xs=>simp[T.single]at aj
  |tup xs=>simp[T.single]at aj
  |_=>simp[T.get]at hg
 obtain⟨b,ob,cs,et,pg,gE,dK⟩:=(kI q.reverse tr u0 [] e4 hg).2 hl;simp only[rp,Kf,Jf]at pg;have hru0:=(kI q.reverse tr u0 [] e4 hg).1;have fd:=zAJ pg;have hsu:=zBw _ _ eK;have hc:=kL g9 gQ (by simp) hy;have ca:(a.eval y).cells.size=p.tree.size:=by
  rw[←K3,hc];cases p with
  |slot s t=>obtain⟨_,_,h3⟩:=gQ.slot s t (by simp);exact wO t [] (by rintro xs rfl;simp[T.okTup]at h3)
  |zero u=>exact wV u (gQ.zero u (by simp))
 have gu:∀v∈(a.eval y).cells.toList,v.oneCell'=uf:=by
  rw[hc];intro v hv;cases p with
  |slot s t=>exact zIQ hm t [] v hv
  |zero u=>exact zDQ u (gQ.zero u (by simp)) v hv
 generalize ej:w.setRow b (cs.toList.take ob++(a.eval y).cells.toList++cs.toList.drop (ob+(a.eval y).cells.toList.length)).toArray=w'
 have ec:w'.heap[b]? =ud (.cells (cs.toList.take ob++(a.eval y).cells.toList++cs.toList.drop (ob+(a.eval y).cells.toList.length)).toArray et (0,0)):=by rw[←ej];exact setRow_heap w b cs _ et _ gE
 have gC:∀b',b'≠b→w'.heap[b']? =w.heap[b']?:=fun b' h=>by rw[←ej];exact setRow_other w b b' _ h
 have gL:w'.heap.size=w.heap.size:=by rw[←ej];exact size_setRow w b _
 have gI:(a.eval y).cells.toList.length=u0.size:=by rw[K3,ca,hsu]
 have eB:∀k,yE w' b k=if ob≤k∧k<ob+u0.size then(tP G p)[k-ob]? else yE w b k:=by
  intro k;simp only[yE,World.cell?,ec,gE,Q5,Lu,if_false];rw[←hc,←gI]at*
  rw[←Kc,←Kc (xs:=cs)];simp only[];have gK:cs.toList.length=cs.size:=K3 ..
  generalize (a.eval y).cells.toList=V at*
  by_cases h1:k<ob
  ·rw[if_neg (by omega),J9,Jv (by simp;omega),Ui h1]
  ·by_cases h2:k<ob+V.length
   ·rw[if_pos ⟨by omega,h2⟩,J9,Ja (by simp;omega),Jv (by simp;omega)]
    congr 1;simp;omega
   ·rw[if_neg (by omega),J9,Ja (by simp;omega),Ja (by simp;omega),Ln]
    congr 1;simp;omega
 have fC:∀b' o' fl s z,G.lb b' o'=ud (fl,s,z)→ ¬(s=r∧q<:+z)→yE w' b' o'=yE w b' o':=by
  intro b' o' fl s z h1 h2
  by_cases hb:b'=b
  ·subst hb
   rw[eB];split
   ·rename_i h3
    obtain⟨y',h4⟩:=zHO u0 q b' ob (o'-ob) pg (by omega);rw[show ob+(o'-ob)=o' from by omega,h1]at h4;simp at h4;exact absurd ⟨h4.2.1,y',h4.2.2.symm⟩ h2
   ·rfl
  ·simp[yE,World.cell?,gC b' hb]
 have ed:Blk w w':=by
  intro b' cs' e' h1
  by_cases hb:b'=b
  ·subst hb
   rw[gE]at h1;simp at h1;obtain⟨rfl,rfl⟩:=h1;exact⟨_,ec,by simp;have:cs.toList.length=cs.size:=K3 ..;omega⟩
  ·exact⟨cs',by rw[gC b' hb];exact h1,rfl⟩
 generalize gm:G.st r q p=G'
 have ghd:∀y',G'.hd r (y'++q)=sHd G p y':=fun y'=>by rw[←gm];simp[Gh.st]
 have ghd':∀s z,¬(s=r∧q<:+z)→G'.hd s z=G.hd s z:=fun s z h=>by rw[←gm];simp only[Gh.st];rw[if_neg h]
 have gad:∀s z,¬(s=r∧q<:+z)→G'.ad s z=G.ad s z:=fun s z h=>by rw[←gm];simp only[Gh.st];rw[if_neg (fun h2=>h ⟨h2.1,h2.2.1⟩)]
 have gadf:∀y',p.tree.inT y'.reverse=uf→G'.ad r (y'++q)=G.ad r (y'++q):=fun y' h=>by rw[←gm];simp only[Gh.st,zIR];rw[if_neg (by simp[h])]
 have gadm:∀s0 t y',p=.slot s0 t→t.inT y'.reverse=ug→G'.ad r (y'++q)=G.ad s0 y':=fun s0 t y' h1 h2=>by subst h1;rw[←gm];simp only[Gh.st,zIR,yI.tree];rw[if_pos];simp[h2]
 have glb:∀b' o' fl s z,G.lb b' o'=ud (fl,s,z)→zEK p q s z=ue→G'.lb b' o'=ud (fl,s,z):=fun b' o' fl s z h1 h2=>by rw[←gm];simp[Gh.st,h1,h2]
 have glbm:∀b' o' fl s z z',G.lb b' o'=ud (fl,s,z)→zEK p q s z=ud z'→G'.lb b' o'=ud (fl,r,z'):=fun b' o' fl s z z' h1 h2=>by rw[←gm];simp[Gh.st,h1,h2]
 have gow:∀b' s z,G.ow b'=ud (s,z)→zEK p q s z=ue→G'.ow b'=ud (s,z):=fun b' s z h1 h2=>by rw[←gm];simp[Gh.st,h1,h2]
 have gowm:∀b' s z z',G.ow b'=ud (s,z)→zEK p q s z=ud z'→G'.ow b'=ud (r,z'):=fun b' s z z' h1 h2=>by rw[←gm];simp[Gh.st,h1,h2]
 have bV:∀s z,(∀n,(s,n)∉(r,q.length)::tI [p])→zEK p q s z=ue:=by
  intro s z h;cases p with
  |zero u=>rfl
  |slot s0 t=>
   simp only[zEK];rw[if_neg];intro h2;simp only[J2,beq_iff_eq]at h2;obtain⟨h3,rfl⟩:=h2;exact h 1 (by simp[tI,xD,h3])
 have cy:∀z,zEK p q r z=ue:=by
  intro z;cases p with
  |zero u=>rfl
  |slot s0 t=>
   simp only[zEK];rw[if_neg];intro h2;simp only[J2,beq_iff_eq]at h2;obtain⟨h3,rfl⟩:=h2;have:=(Ki.1 gQ.dist).1;simp[xD,h3]at this
 have pH:∀s z,Off ((r,q.length)::tI [p]) s z→ ¬(s=r∧q<:+z):=by
  rintro s z h ⟨rfl,h2⟩
  have:=h q.length (by simp);have:=h2.length_le;omega
 have gv:sE ((r,q.length)::tI [p]) G w G' w':=by
  refine⟨fun s z h=>ghd' s z (pH s z h),fun s z h=>gad s z (pH s z h),fun b' o' fl s z _ h1 h2=>⟨glb b' o' fl s z h1 (bV s z h2),fC b' o' fl s z h1 ?_⟩,fun b' s z h1 h2=>gow b' s z h1 (bV s z h2),ed⟩
  rintro⟨rfl,_⟩
  exact h2 q.length (by simp)
 have bv:zBq Γ w b:=by obtain⟨y',h4⟩:=zHO u0 q b ob 0 pg (by omega);exact hm.lb _ _ _ h4
 have gx:Mem Γ G' w':=by
  refine⟨fun s z=>?_,fun b' o' l hl=>?_,fun b' l hl=>?_,fun b' x' e6=>?_,fun b' h1 h2=>?_,by rw[gL];exact hm.sz,hm.bk.trans ed (by rw[←ej];rfl) (by rw[←ej];rfl)⟩
  ·by_cases h:s=r∧q<:+z
   ·obtain⟨rfl,y',rfl⟩:=h
    rw[ghd];unfold sHd;split
    ·exact hm.one _ _
    ·exact zAz _
   ·rw[ghd' s z h];exact hm.one s z
  ·have:∃l',G.lb b' o'=ud l':=by
    rw[←gm]at hl;simp only[Gh.st]at hl;split at hl
    ·exact⟨_,by assumption⟩
    ·cases hl
   obtain⟨l',mD⟩:=this;have:=hm.lb b' o' l' mD;exact⟨by rw[gL];exact this.1,this.2⟩
  ·have:∃l',G.ow b'=ud l':=by
    rw[←gm]at hl;simp only[Gh.st]at hl;split at hl
    ·exact⟨_,by assumption⟩
    ·cases hl
   obtain⟨l',mD⟩:=this;have:=hm.ow b' l' mD;exact⟨by rw[gL];exact this.1,this.2⟩
  ·have hb:b'≠b:=by rintro rfl;rw[bv.2.2]at e6;cases e6
   rw[gC b' hb];exact hm.st b' x' e6
  ·have hb:b'≠b:=by
    rintro rfl
    rcases bv.2.1 with h3|h3
    ·omega
    ·exact h2 h3
   rw[gC b' hb];exact hm.fr b' h1 h2
 have aP:Upd G w G' w' r q:=by refine⟨fun z h=>ghd' r z (fun h2=>h h2.2),fun z h=>gad r z (fun h2=>h h2.2),fun b' o' fl z h1 h=>⟨glb b' o' fl r z h1 (cy z),fC b' o' fl r z h1 (fun h2=>h h2.2)⟩,fun b' z h1 _=>gow b' r z h1 (cy z),ed⟩
 have ba:R Γ.St G' w' r p.tree q:=by
  cases hp:p with
  |zero u=>
   refine zHM u q (gQ.zero u (by simp[hp])) (fun z=>by rw[ghd];simp[sHd,hp])
  |slot s0 t=>
   obtain⟨h1,h2,h3⟩:=gQ.slot s0 t (by simp[hp]);have fp:=(g9.ent s0 t h1).2.1
   by_cases cD:tH t=uf
   ·have aX:s0≠r:=by
     rintro rfl
     have:=(Ki.1 gQ.dist).1;simp[hp,xD,cD]at this
    refine zIN t [] q h3 ⟨fun z=>by rw[ghd,Jf];simp[sHd,hp],fun z hz=>by rw[Jf];exact gadm s0 t z hp hz,fun b' o' fl z _ h4=>?_,fun b' z h4=>?_,ed⟩ (yM.mono (fun _ _=>False.elim) t h2) fp
    ·rw[Jf]at h4
     exact⟨glbm b' o' fl s0 z _ h4 (by simp[zEK,hp,cD]),fC b' o' fl s0 z h4 (fun h5=>aX h5.1)⟩
    ·rw[Jf]at h4
     exact gowm b' s0 z _ h4 (by simp[zEK,hp,cD])
   ·have hh:G'.hd r q=G.hd s0 []:=by have:=ghd [];rw[Jw]at this;rw[this];simp[sHd,hp]
    cases t<;>simp[tH]at cD<;>simp only[R,yI.tree]at fp ⊢ <;>rw[hh]<;>exact fp
 have ck:vals G' r p.tree q=tP G p:=by
  cases hp:p with
  |zero u=>exact zDO u q (gQ.zero u (by simp[hp])) (fun z=>by rw[ghd];simp[sHd,hp])
  |slot s0 t=>exact zAc t [] q (fun z=>by rw[ghd];simp[sHd,hp])
 have t8:∀b' o',Loc G w r u0 q b' o'→Loc G' w' r p.tree q b' o':=by
  intro b' o' h1;have h2:b'=b∧o'=ob:=by have:=(zAJ h1).symm.trans fd;simp at this;exact this
  obtain⟨rfl,rfl⟩:=h2;refine zO5 p.tree u0 q b' o' eK (fun y' h=>gadf y' h) (fun b2 o2 y' h=>glb b2 o2 ug r _ h (cy _)) (fun j v hv=>?_) h1;rw[ck]at hv;have hj:=(Jg.1 hv).1;have pE:(tP G p).length=u0.size:=by rw[←hc,gI]
  rw[eB,if_pos ⟨by omega,by omega⟩,show o'+j-o'=j from by omega];exact hv
 have bQ:R Γ.St G' w' r (tr.set q.reverse p.tree) []:=by
  have fU:rp q.reverse []=q:=by simp[rp]
  refine zEw q.reverse tr p.tree u0 [] (by rw[fU];exact aP) e4 hg hsu (yM.mono (fun _ _=>False.elim) tr (bM .any).2) (by rw[fU];exact t8) (by rw[fU];exact ba)
 have gF:=run_storeCells_at P b ob et (a.eval y).cells.toList 0 cs w gE (by omega) gu;simp only[Qy]at gF;rw[ej]at gF;refine⟨w',?_,G',wR g9 rfl gv gx ?_ ?_⟩
 ·have aS:(a.eval y).cells.size=ti.size:=by rw[ca,gw]
  simp[execOp,ho,mO,fd,Instr.storeAt,vX,storeVar,sizeOf,typeInfo,hi,aS,gF]
 ·intro s hs
  simp only[Wr.find]at hs;split at hs
  ·cases hs
  ·rename_i gj
   refine⟨fun n hn=>?_,rfl⟩;simp only[Jp,Qh.injEq]at hn;rcases hn with⟨h1,_⟩|hn
   ·exact gj h1.symm
   ·cases p with
    |zero u=>simp[tI,xD]at hn
    |slot s0 t=>
     by_cases cD:tH t=uf
     ·simp[tI,xD,cD]at hn
      simp[sWr,cD,Wr.find,hn.1.symm]at hs
     ·simp[tI,xD,cD]at hn
 ·intro s t hs
  simp only[Wr.find]at hs;split at hs
  ·rename_i he
   subst he;simp at hs;subst hs;refine⟨?_,bQ,Top.of_clean _ (qF _ _ _ (bM .any).2 ?_)⟩
   ·rw[e3,yU (bM p.tree).1,yU aj]
    congr 1
    exact(ghd' r [] (fun h=>bc (by simpa using h.2))).symm
   ·cases p with
    |zero u=>exact(zA0 u (gQ.zero u (by simp))).1
    |slot s0 t=>exact(gQ.slot s0 t (by simp)).2.1
  ·rename_i gj
   cases hp:p with
   |zero u=>simp[sWr,hp,Wr.find]at hs
   |slot s0 t0=>
    by_cases cD:tH t0=uf
    ·simp only[sWr,hp,cD,if_true,Wr.find]at hs
     split at hs
     ·rename_i he
      subst he;simp at hs;subst hs;obtain⟨h1,h2,h3⟩:=gQ.slot s0 t0 (by simp[hp]);refine zKF (G:=G) (g9.ent s0 t0 h1).1 (by rintro xs rfl;simp[T.okTup]at h3) (fun z=>ghd' s0 z (fun h=>gj h.1.symm)) (fun z=>by rw[ghd];simp[sHd,hp]) (by rw[hp]at ba;exact ba)
     ·cases hs
    ·simp[sWr,hp,cD,Wr.find]at hs
theorem zIS(T':TypeId)(ti:TypeInfo)(x y:Operand)(r:Nat)(q:List Nat)(tr u0:T)(p:yI)(ho:o.op=.store T' x y)(gf:o.dst=ue)
  (hi:P.info? T'=ud ti)(gw:ti.size=p.tree.size)(mu:0<ti.size)(hx:opT E x=ud (.addr r q))(hr:E r=ud tr)(aj:tr.single=uf)(hg:tr.get q.reverse=ud u0)(hl:tr.locd q.reverse=uf)
  (eK:vG p.tree u0=uf)(hy:jI E y p)(gQ:uM E r [p]):
  xT P Γ o E (E.app ((r,ud (tr.set q.reverse p.tree))::sWr r q p) ((r,q.length)::tI [p])):=
 by grind[zDR,zAd.addr]
end
end Go.Ab

namespace Go.Ab
open Go
section
variable {G G':Gh}{s:Nat}
theorem zKG(xs:List T):∀(p:List Nat)(j:Nat),(∀k,j≤k→ ∀z,G'.hd s (z++(k::p))=G.hd s (z++(k::p)))→zW G' s xs p j=zW G s xs p j:=by
 induction xs with
 |nil=>grind[zW]
 |cons z zs ih=>
  intro p j h;simp only[zW];rw[zAc z (j::p) (j::p) (h j (Jh _)),ih p (j+1) (by grind)]
theorem zNh(xs:List T):∀(p:List Nat)(j i:Nat)(x y:T),xs[i]? =ud x→(∀k,k≠j+i→ ∀z,G'.hd s (z++(k::p))=G.hd s (z++(k::p)))→
  vals G' s y ((j+i)::p)=vals G s x ((j+i)::p)→zW G' s (xs.set i y) p j=zW G s xs p j:=by
 induction xs with
 |nil=>simp
 |cons z zs ih=>
  intro p j i x y h hz hy;cases i with
  |zero=>
   grind[zW,zKG]
  |succ i=>
   simp only[Kk,zW];rw[zAc z (j::p) (j::p) (hz j (by omega)),ih p (j+1) i x y (by grind) (by grind) (by grind)]
theorem zIT:(f:List Nat)→ ∀(t u u0:T)(p:List Nat),t.get f=ud u0→u0.single=uf→u.single=uf→(∀z,(rp f p<:+z→z=rp f p)→G'.hd s z=G.hd s z)→vals G' s (t.set f u) p=vals G s t p
 | [],t,u,u0,p,hg,h0,h1,hh=>by simp[T.get]at hg;subst hg;have:G'.hd s p=G.hd s p:=hh p (by simp[rp]);simp only[T.set];cases t<;>simp[T.single]at h0<;>cases u<;>simp[T.single]at h1<;>simp[vals,this]
 |i::f,t,u,u0,p,hg,h0,h1,hh=>by
  rw[zAb]at hh;have hp:G'.hd s p=G.hd s p:=by grind[qQ]
  cases t with
  |agg xs=>
   simp only[T.get]at hg;cases hx:xs[i]? with
   |none=>grind
   |some x=>
    rw[hx]at hg;simp only[T.set,hx,vals];refine zNh xs p 0 i x _ hx (by grind[qC]) ?_;rw[J6];exact zIT f x u u0 (i::p) hg h0 h1 hh
  |tup xs=>
   grind[T.set,vals]
  |sl k xs=>grind[T.set,vals]
  |ptr t=>grind[T.set,vals]
  |_=>grind[T.get]
theorem zIU(f:List Nat)(t u u0:T)(p:List Nat)(hg:t.get f=ud u0)(h0:u0.single=uf)(h1:u.single=uf)(hh:∀z,(rp f p<:+z→z=rp f p)→G'.hd s z=G.hd s z)(gV:∀xs,t≠.tup xs):
  tG G' s (t.set f u) p=tG G s t p:=by
 have h:=zIT f t u u0 p hg h0 h1 hh;cases f with
 |nil=>
  simp[T.get]at hg;subst hg;have:G'.hd s p=G.hd s p:=hh p (by simp[rp]);simp only[T.set];cases t<;>simp[T.single]at h0<;>cases u<;>simp[T.single]at h1<;>simp[tG,this]
 |cons i f=>
  rw[zAb]at hh;have hp:G'.hd s p=G.hd s p:=by grind[qQ]
  cases t with
  |agg xs=>
   grind[T.set,vals,tG]
  |tup xs=>grind
  |sl k xs=>grind[T.set,tG]
  |ptr t=>grind[T.set,tG]
  |_=>grind[T.get]
theorem zNi(xs:List T):∀(p:List Nat)(j:Nat),(∀k,j≤k→ ∀z,G'.hd s (z++(k::p))=G.hd s (z++(k::p)))→qX G' s xs p j=qX G s xs p j:=by
 induction xs with
 |nil=>grind[qX]
 |cons z zs ih=>
  intro p j h;simp only[qX];rw[zAI z (j::p) (j::p) (h j (Jh _)),ih p (j+1) (by grind)]
theorem zO6(xs:List T):∀(p:List Nat)(j i:Nat)(x y:T),xs[i]? =ud x→(∀k,k≠j+i→ ∀z,G'.hd s (z++(k::p))=G.hd s (z++(k::p)))→
  tG G' s y ((j+i)::p)=tG G s x ((j+i)::p)→qX G' s (xs.set i y) p j=qX G s xs p j:=by
 induction xs with
 |nil=>simp
 |cons z zs ih=>
  intro p j i x y h hz hy;cases i with
  |zero=>
   grind[qX,zNi]
  |succ i=>
   simp only[Kk,qX];rw[zAI z (j::p) (j::p) (hz j (by omega)),ih p (j+1) i x y (by grind) (by grind) (by grind)]
def xJ:T→Bool
 |.tup xs=>xs.all fun x=>match x with
  |.tup _=>ug
  |_=>uf
 |_=>uf
theorem zHP(f:List Nat)(t u u0:T)(p:List Nat)(hg:t.get f=ud u0)(h0:u0.single=uf)(h1:u.single=uf)(hh:∀z,(rp f p<:+z→z=rp f p)→G'.hd s z=G.hd s z)(pM:xJ t=uf):
  mkV G' s (t.set f u) p=mkV G s t p:=by
 by_cases ht:∃xs,t=.tup xs
 ·obtain⟨xs,rfl⟩:=ht
  cases f with
  |nil=>grind[T.get,T.single]
  |cons i f=>
   rw[zAb]at hh;simp only[T.get]at hg;cases hx:xs[i]? with
   |none=>grind
   |some x=>
    rw[hx]at hg;simp only[T.set,hx,mkV];rw[zO6 xs p 0 i x _ hx (fun k hk z=>hh _ (fun h=>absurd h (qC (by omega) z)))];rw[J6];refine zIU f x u u0 (i::p) hg h0 h1 hh ?_
    rintro ys rfl
    simp only[xJ]at pM;have:=K0.1 pM _ (Kw hx)
    grind
 ·have gV:∀xs,t≠.tup xs:=by grind
  rw[qY G s t p gV,←zIU f t u u0 p hg h0 h1 hh gV];refine qY G' s _ p ?_
  rintro xs gX
  cases f with
  |nil=>grind[T.set,T.single]
  |cons i f=>cases t<;>simp only[T.set]at gX<;>first|grind|grind|cases gX
end
theorem zDk:(f:List Nat)→ ∀(t u:T),Top t→zS u→Top (t.set f u)
 | [],t,u,_,hu=>by grind[T.set,Top.of_clean]
 |i::f,t,u,ht,hu=>by
  cases t with
  |sl k xs=>
   refine Top.of_clean _ (qF (i::f) _ u (by simpa only[Top,zS,yM]using ht) hu)
  |ptr t=>exact Top.of_clean _ (qF (i::f) _ u (by simpa only[Top,zS,yM]using ht) hu)
  |agg xs=>
   simp only[T.set];split
   ·rename_i x hx
    simp only[Top]at ht ⊢
    exact tops_set xs i _ ht (zDk f x u (tops_get xs ht i x hx) hu)
   ·exact ht
  |tup xs=>
   simp only[T.set];split
   ·rename_i x hx
    simp only[Top]at ht ⊢
    exact tops_set xs i _ ht (zDk f x u (tops_get xs ht i x hx) hu)
   ·exact ht
  |_=>grind[T.set]
where
 tops_set:(xs:List T)→ ∀(i:Nat)(y:T),vK xs→Top y→vK (xs.set i y)
  | [],_,_,_,_=>by simp[vK]
  |x::xs,0,y,h,hy=>by simp only[Kj,vK]at h ⊢;grind
  |x::xs,i+1,y,h,hy=>by simp only[Kk,vK]at h ⊢;exact⟨h.1,tops_set xs i y h.2 hy⟩
 tops_get:(xs:List T)→vK xs→ ∀(i:Nat)(x:T),xs[i]? =ud x→Top x
  | [],_,_,_,h=>by simp at h
  |y::ys,hk,i,x,h=>by
   simp only[vK]at hk;cases i with
   |zero=>grind
   |succ i=>exact tops_get ys hk.2 i x (by grind)
def Gh.tr(G:Gh)(d:Nat)(g:List Nat)(r:Nat)(p:List Nat):Gh where
 hd s z:=if s=d∧g<:+z then G.hd r (z.take (z.length-g.length)++p)else G.hd s z
 ad s z:=if s=d∧g<:+z∧z≠g then G.ad r (z.take (z.length-g.length)++p)else G.ad s z
 lb b o:=match G.lb b o with
  |some (fl,s,z)=>if s=r∧p<:+z∧(fl=uf∨z≠p)then ud (fl,d,z.take (z.length-p.length)++g)else ud (fl,s,z)
  |none=>ue
 ow b:=match G.ow b with
  |some (s,z)=>if s=r∧p<:+z then ud (d,z.take (z.length-p.length)++g)else ud (s,z)
  |none=>ue
theorem zE0{t:T}(h:t.single=uf):t.size=1:=by cases t<;>simp[T.single]at h<;>simp[T.size]
theorem zCE{Γ:Ctx}{E:Env}{G:Gh}{tmps:Array Value}{w:World}(g9:Rep Γ E G tmps w)(d:Nat)(g:List Nat)(r:Nat)(p:List Nat)(td tr u v0:T)(hd:E d=ud td)(hg:td.get g.reverse=ud v0)(bH:v0.single=uf)(gN:G.hd d g=G.hd r p)(hr:E r=ud tr)
  (hp:tr.get p.reverse=ud u)(hu:u.single=uf)(ef:zS u)(gM:d≠r)(my:td.okB [(d,g.length+1),(r,p.length+1)]=uf)(pb:tr.okB [(d,g.length+1),(r,p.length+1)]=uf)(cK:xJ td=uf)(fb:xJ tr=uf):
  Rep Γ (E.app [(d,ud (td.set g.reverse u)),(r,ud (if p=[]then .same d g else tr.set p.reverse .any))] [(d,g.length+1),(r,p.length+1)]) (G.tr d g r p) tmps w∧ ∀s z,¬(s=d∧g<:+z∧z≠g)→(G.tr d g r p).hd s z=G.hd s z:=by
 obtain⟨d1,d2,d3⟩:=g9.ent d td hd;obtain⟨r1,r2,r3⟩:=g9.ent r tr hr;have hm:=g9.mem;have ba:=(kI p.reverse tr u [] r2 hp).1;simp only[rp,Kf,Jf]at ba;have gE:Blk w w:=fun b cs e' h=>⟨cs,h,rfl⟩
 generalize gm:G.tr d g r p=G'
 have ghd:∀z,G'.hd d (z++g)=G.hd r (z++p):=fun z=>by rw[←gm];simp[Gh.tr]
 have ghd0:∀s z,¬(s=d∧g<:+z∧z≠g)→G'.hd s z=G.hd s z:=by
  intro s z h;rw[←gm];simp only[Gh.tr]
  by_cases h2:s=d∧g<:+z
  ·have h3:z=g:=by
    rcases Decidable.em (z=g)with e|e
    ·exact e
    ·exact absurd ⟨h2.1,h2.2,e⟩ h
   subst h3;rw[if_pos h2,h2.1];simpa using gN.symm
  ·rw[if_neg h2]
 have gad0:∀s z,¬(s=d∧g<:+z∧z≠g)→G'.ad s z=G.ad s z:=fun s z h=>by rw[←gm];simp only[Gh.tr];rw[if_neg h]
 have gad:∀z,z≠[]→G'.ad d (z++g)=G.ad r (z++p):=fun z h=>by rw[←gm];simp only[Gh.tr];rw[if_pos (by simpa using h)];simp
 have glb0:∀b o fl s z,G.lb b o=ud (fl,s,z)→ ¬(s=r∧p<:+z∧(fl=uf∨z≠p))→G'.lb b o=ud (fl,s,z):=fun b o fl s z h1 h2=>by rw[←gm];simp only[Gh.tr,h1];rw[if_neg h2]
 have glb:∀b o fl z,G.lb b o=ud (fl,r,z++p)→(fl=uf∨z≠[])→G'.lb b o=ud (fl,d,z++g):=fun b o fl z h1 h2=>by rw[←gm];simp only[Gh.tr,h1];rw[if_pos (by simpa using h2)];simp
 have gow0:∀b s z,G.ow b=ud (s,z)→ ¬(s=r∧p<:+z)→G'.ow b=ud (s,z):=fun b s z h1 h2=>by rw[←gm];simp only[Gh.tr,h1];rw[if_neg h2]
 have gow:∀b z,G.ow b=ud (r,z++p)→G'.ow b=ud (d,z++g):=fun b z h1=>by rw[←gm];simp only[Gh.tr,h1];rw[if_pos (by simp)];simp
 have gB:∀s z,Off [(d,g.length+1),(r,p.length+1)] s z→ ¬(s=d∧g<:+z∧z≠g):=by
  rintro s z h ⟨rfl,⟨y,rfl⟩,h3⟩
  have:=h (g.length+1) (by simp);have:y=[]:=Ju (by simp at this;omega);exact h3 (by simp[this])
 have gv:sE [(d,g.length+1),(r,p.length+1)] G w G' w:=by
  refine⟨fun s z h=>ghd0 s z (gB s z h),fun s z h=>gad0 s z (gB s z h),fun b o fl s z _ h1 h2=>⟨glb0 b o fl s z h1 ?_,rfl⟩,fun b s z h1 h2=>gow0 b s z h1 ?_,gE⟩
  ·rintro⟨rfl,_⟩;exact h2 (p.length+1) (by simp)
  ·rintro⟨rfl,_⟩;exact h2 (p.length+1) (by simp)
 have gx:Mem Γ G' w:=by
  refine⟨fun s z=>?_,fun b o l hl=>?_,fun b l hl=>?_,hm.st,hm.fr,hm.sz,hm.bk⟩
  ·rw[←gm]
   simp only[Gh.tr];split
   ·exact hm.one _ _
   ·exact hm.one _ _
  ·have:∃l',G.lb b o=ud l':=by
    rw[←gm]at hl;simp only[Gh.tr]at hl;split at hl
    ·exact⟨_,by assumption⟩
    ·cases hl
   obtain⟨l',mD⟩:=this;exact hm.lb b o l' mD
  ·have:∃l',G.ow b=ud l':=by
    rw[←gm]at hl;simp only[Gh.tr]at hl;split at hl
    ·exact⟨_,by assumption⟩
    ·cases hl
   obtain⟨l',mD⟩:=this;exact hm.ow b l' mD
 have fU:∀q:List Nat,rp q.reverse []=q:=fun q=>by simp[rp]
 have hud:R Γ.St G' w d u g:=by
  refine qP (G:=G) (w:=w) (s:=r) (p:=p) ⟨⟨ghd,gad,fun b o f z hz _ hl=>⟨glb b o f z hl (.inr hz),rfl⟩,fun b z _ hl=>gow b z hl,gE⟩,fun b o _ hl=>⟨by simpa using glb b o uf [] (by simpa using hl) (.inl rfl),rfl⟩,fun b hl=>by simpa using gow b [] (by simpa using hl)⟩ u
   (yM.mono (fun _ _=>False.elim) u ef) ba
 have bI:Upd G w G' w d g:=⟨fun z h=>ghd0 d z (fun h2=>h h2.2.1),fun z h=>gad0 d z (fun h2=>h h2.2.1),fun b o f z h1 _=>⟨glb0 b o f d z h1 (fun h2=>gM h2.1),rfl⟩,fun b z h1 _=>gow0 b d z h1 (fun h2=>gM h2.1),gE⟩;have t9:∀b o,Loc G w d v0 g b o→Loc G' w d u g b o:=by intro b o h1;obtain⟨h2,h3,h4⟩:=wJ bH h1;have h5:G'.ad d g=⟨b,o,ue⟩∧G'.lb b o=ud (ug,d,g)∧yE w b o=ud (G'.hd d g):=⟨(gad0 d g (fun h=>h.2.2 rfl)).trans h2,glb0 b o ug d g h3 (fun h=>gM h.1),by rw[h4,ghd0 d g (fun h=>h.2.2 rfl)]⟩;cases u<;>simp[T.single]at hu<;>simpa only[Loc]using h5
 have a7:R Γ.St G' w d (td.set g.reverse u) []:=
  zEw g.reverse td u v0 [] (by rw[fU];exact bI) d2 hg (by rw[zE0 bH,zE0 hu]) (gv.keepR (jQ td d3 my)) (by rw[fU];exact t9) (by rw[fU];exact hud)
 have hVd:mkV G' d (td.set g.reverse u) []=mkV G d td []:=
  zHP g.reverse td u v0 [] hg bH hu (fun z hz=>ghd0 d z (fun h2=>h2.2.2 (by rw[fU]at hz;exact hz h2.2.1))) cK
 have hRr:p≠[]→R Γ.St G' w r (tr.set p.reverse .any) []:=by intro bf;refine zEw p.reverse tr .any u [] (by rw[fU];exact⟨fun z _=>ghd0 r z (fun h2=>gM h2.1.symm),fun z _=>gad0 r z (fun h2=>gM h2.1.symm),fun b o f z h1 h=>⟨glb0 b o f r z h1 (fun h2=>h h2.2.1),rfl⟩,fun b z h1 h=>gow0 b r z h1 (fun h2=>h h2.2),gE⟩) r2 hp (by cases u<;>simp[T.single]at hu<;>simp[T.size]) (gv.keepR (jQ tr r3 pb)) ?_ (by simp only[R]);rw[fU];intro b o h1;obtain⟨h2,h3,h4⟩:=wJ hu h1;simp only[Loc];exact⟨(gad0 r p (fun h=>gM h.1.symm)).trans h2,glb0 b o ug r p h3 (by simp),by rw[h4,ghd0 r p (fun h=>gM h.1.symm)]⟩
 have hVr:p≠[]→mkV G' r (tr.set p.reverse .any) []=mkV G r tr []:=fun _=>
  zHP p.reverse tr .any u [] hp hu rfl (fun z _=>ghd0 r z (fun h2=>gM h2.1.symm)) fb
 refine⟨wR g9 rfl gv gx ?_ ?_,ghd0⟩
 ·intro s hs
  simp only[Wr.find]at hs;split at hs
  ·cases hs
  ·rename_i h1
   split at hs
   ·cases hs
   ·rename_i h2
    refine⟨fun n hn=>?_,rfl⟩;simp only[Jp,Qh.injEq,List.not_mem_nil,or_false]at hn;rcases hn with⟨e,_⟩|⟨e,_⟩
    ·exact h1 e.symm
    ·exact h2 e.symm
 ·intro s t hs
  simp only[Wr.find]at hs;split at hs
  ·rename_i he
   subst he;simp at hs;subst hs;exact⟨by rw[d1,hVd],a7,zDk _ _ _ d3 ef⟩
  ·split at hs
   ·rename_i he
    subst he;simp at hs
    by_cases bf:p=[]
    ·rw[if_pos bf]at hs
     subst hs;subst bf;simp[T.get]at hp;subst hp;refine⟨?_,?_,by simp[Top]⟩
     ·rw[r1,yU hu,yU rfl,ghd0 r [] (fun h=>gM h.1.symm)]
     ·simp only[R]
      rw[ghd0 r [] (fun h=>gM h.1.symm)];have:=ghd [];simpa using this.symm
    ·rw[if_neg bf]at hs
     subst hs;exact⟨by rw[r1,hVr bf],hRr bf,zDk _ _ _ r3 (by simp[zS,yM])⟩
   ·cases hs
theorem zKH{Γ:Ctx}{E:Env}{a:Act}{w:World}(h:Sim Γ E a w)(d:Nat)(g:List Nat)(r:Nat)(p:List Nat)(td tr u:T)(hd:E d=ud td)(hg:td.get g.reverse=ud (.same r p))(hr:E r=ud tr)
  (hp:tr.get p.reverse=ud u)(hu:u.single=uf)(ef:zS u)(gM:d≠r)(my:td.okB [(d,g.length+1),(r,p.length+1)]=uf)(pb:tr.okB [(d,g.length+1),(r,p.length+1)]=uf)(cK:xJ td=uf)(fb:xJ tr=uf):
  Sim Γ (E.app [(d,ud (td.set g.reverse u)),(r,ud (if p=[]then .same d g else tr.set p.reverse .any))] [(d,g.length+1),(r,p.length+1)]) a w:=by
 obtain⟨gP,G,g9⟩:=h;have gN:=(kI g.reverse td _ [] (g9.ent d td hd).2.1 hg).1;simp only[rp,Kf,Jf,R]at gN;exact⟨gP,_,(zCE g9 d g r p td tr u _ hd hg rfl gN hr hp hu ef gM my pb cK fb).1⟩
end Go.Ab

namespace Go.Ab
open Go
theorem zCF{St:Stb}{G:Gh}{w:World}{s:Nat}{k:Nat}:(xs:List T)→ ∀(p:List Nat)(j b o:Nat),(∀i x,xs[i]? =ud x→Loc G w s x ((j+i)::p) b (o+i*k)∧x.size=k∧R St G w s x ((j+i)::p))→RL St G w s xs p j b o k
 | [],_,_,_,_,_=>by simp only[RL]
 |x::xs,p,j,b,o,h=>by
  obtain⟨h1,h2,h3⟩:=h 0 x (by simp);simp only[RL];refine⟨⟨by simpa using h1,h2⟩,by simpa using h3,zCF xs p (j+1) b (o+k) (fun i y hy=>?_)⟩;have:=h (i+1) y (by simpa using hy)
  rwa [show j+(i+1)=j+1+i from by omega,show o+(i+1)*k=o+k+i*k from by rw[H3];omega]at this
theorem kM{St:Stb}{G:Gh}{w:World}{s:Nat}{k:Nat}:(xs:List T)→ ∀(p:List Nat)(j b o:Nat),RL St G w s xs p j b o k→wQ G w s xs p j b o
 | [],_,_,_,_,_=>by simp only[wQ]
 |x::xs,p,j,b,o,h=>by simp only[RL]at h;simp only[wQ];exact⟨h.1.1,kM xs p (j+1) b (o+x.size) (by rw[h.1.2];exact h.2.2)⟩
theorem zA3{St:Stb}{G:Gh}{w:World}{s:Nat}{k:Nat}:(xs:List T)→ ∀(p:List Nat)(j b o:Nat),RL St G w s xs p j b o k→RF St G w s xs p j∧ ∀x∈xs,x.size=k
 | [],_,_,_,_,_=>by simp[RF]
 |x::xs,p,j,b,o,h=>by simp only[RL]at h;obtain⟨h1,h2⟩:=zA3 xs p (j+1) b (o+k) h.2.2;exact⟨by simp only[RF];exact⟨h.2.1,h1⟩,fun y hy=>by rcases Jp.1 hy with rfl|hy;exact h.1.2;exact h2 y hy⟩
section
variable {G:Gh}{w:World}{G':Gh}{w':World}{s s':Nat}
mutual
theorem zDl:(t:T)→ ∀(p p':List Nat)(b o:Nat),(∀z,G'.hd s' (z++p')=G.hd s (z++p))→(∀z,G'.ad s' (z++p')=G.ad s (z++p))→
  (∀b o z,G.lb b o=ud (ug,s,z++p)→G'.lb b o=ud (ug,s',z++p')∧yE w' b o=yE w b o)→Loc G w s t p b o→Loc G' w' s' t p' b o
 |.agg xs,p,p',b,o,hh,ha,hl,h=>by
  simp only[Loc]at h ⊢
  exact⟨by have:=ha [];simp at this;rw[this];exact h.1,zGP xs p p' 0 b o hh ha hl h.2⟩
 |.any,p,p',b,o,hh,ha,hl,h|.lit _,p,p',b,o,hh,ha,hl,h|.ro _,p,p',b,o,hh,ha,hl,h|.same _ _,p,p',b,o,hh,ha,hl,h|.addr _ _,p,p',b,o,hh,ha,hl,h|.sub _ _ _ _ _,p,p',b,o,hh,ha,hl,h|.sl _ _,p,p',b,o,hh,ha,hl,h|.ptr _,p,p',b,o,hh,ha,hl,h=>by
  simp only[Loc]at h ⊢
  have h1:=hl b o [] (by simpa using h.2.1);have h2:=ha [];have h3:=hh [];simp only[Jw]at h1 h2 h3;exact⟨h2.trans h.1,h1.1,by rw[h1.2,h.2.2,h3]⟩
 |.tup _,_,_,_,_,_,_,_,h=>by simp only[Loc]at h
theorem zGP:(xs:List T)→ ∀(p p':List Nat)(j b o:Nat),(∀z,G'.hd s' (z++p')=G.hd s (z++p))→(∀z,G'.ad s' (z++p')=G.ad s (z++p))→
  (∀b o z,G.lb b o=ud (ug,s,z++p)→G'.lb b o=ud (ug,s',z++p')∧yE w' b o=yE w b o)→wQ G w s xs p j b o→wQ G' w' s' xs p' j b o
 | [],_,_,_,_,_,_,_,_,_=>by simp only[wQ]
 |x::xs,p,p',j,b,o,hh,ha,hl,h=>by
  simp only[wQ]at h ⊢
  exact⟨zDl x (j::p) (j::p') b o (fun z=>by have:=hh (z++[j]);simpa using this) (fun z=>by have:=ha (z++[j]);simpa using this) (fun b o z hz=>by have:=hl b o (z++[j]) (by simpa using hz);simpa using this) h.1,
   zGP xs p p' (j+1) b _ hh ha hl h.2⟩
end
end
theorem zDm(G:Gh)(s:Nat):∀(xs us:List T)(p:List Nat)(j:Nat),zW G s (xs++us) p j=zW G s xs p j++zW G s us p (j+xs.length)
 | [],us,p,j=>by simp[zW]
 |x::xs,us,p,j=>by simp[zW,zDm G s xs us p (j+1),H0,Nat.add_comm 1]
theorem zDn:∀(xs us:List T),T.sizes (xs++us)=T.sizes xs+T.sizes us
 | [],us=>by simp[T.sizes]
 |x::xs,us=>by simp[T.sizes,zDn xs us,H0]
theorem zCt:∀(xs us:List T),yG xs=uf→yG us=uf→yG (xs++us)=uf
 | [],us,_,h=>h
 |x::xs,us,h,h'=>by
  simp only[yG,J2,Kz]at h ⊢
  exact⟨h.1,zCt xs us h.2 h'⟩
theorem zCu:∀(xs us:List T),yP xs→yP us→yP (xs++us)
 | [],us,_,h=>h
 |x::xs,us,h,h'=>by
  simp only[yP,xG,Kz]at h ⊢
  exact⟨h.1,zCu xs us h.2 h'⟩
theorem qS{St:Stb}{G:Gh}{w:World}{s:Nat}{k:Nat}:(xs:List T)→ ∀(p:List Nat)(j b o:Nat),wQ G w s xs p j b o→yG xs=uf
 | [],_,_,_,_,_=>rfl
 |x::xs,p,j,b,o,h=>by simp only[wQ]at h;simp only[yG,J2];exact⟨one x (j::p) b o h.1,qS (St:=St) (k:=k) xs p (j+1) b _ h.2⟩
where
 one:(t:T)→ ∀(p:List Nat)(b o:Nat),Loc G w s t p b o→t.okTup=uf
  |.agg xs,p,b,o,h=>by simp only[Loc]at h;simp only[T.okTup];exact qS (St:=St) (k:=k) xs p 0 b o h.2
  |.tup _,_,_,_,h=>by simp only[Loc]at h
  |.any,_,_,_,_|.lit _,_,_,_,_|.ro _,_,_,_,_|.same _ _,_,_,_,_|.addr _ _,_,_,_,_|.sub _ _ _ _ _,_,_,_,_|.sl _ _,_,_,_,_|.ptr _,_,_,_,_=>rfl
section
variable {P:Program}
structure zFt (P:Program) (t2:TypeId) (e:TypeId) (ti:TypeInfo) (xv:Value) (m:Nat) (nv:List Value) (w:World):Prop where
 arg:(∃e2 xa c,P.underlying t2=ud (.slice e2)∧xv=.slice xa m c∧ ∀w2:World,w2.heap=w.heap→(Builtin.firstCells ti.size m (.slice xa m c)).run P w2=.ok nv.toArray w2)∨
  ∃k2 k3 z,P.underlying t2=ud (.int k2)∧xv=.int k3 (m:Int)∧ti.zero=ud z∧nv.toArray=Builtin.zeroCells z.cells m∧m*ti.bytes≤2 ^ 47∧z.cells.size=ti.size
theorem zDo{t t2 ty e:TypeId}{ti:TypeInfo}{xv:Value}{m:Nat}{nv:List Value}{w w':World}(ht:P.underlying t=ud (.slice e))(hi:P.info? e=ud ti)
  (hx:zFt P t2 e ti xv m nv w)(hm:m≤68719476736){base:Option Addr}{n cap:Nat}(gO:n+m≤cap)
  (gF:(if let ud a:=base then storeCells (a.add (n*ti.size)) nv else pure ():Sem Unit).run P w=.ok () w'):
  (Builtin.append_ #[t,t2] ty #[.slice base n cap,xv]).run P w=.ok (.slice base (n+m) cap) w':=by
 rcases hx.arg with⟨e2,xa,c,h1,rfl,h2⟩|⟨k2,k3,z,h1,rfl,h2,h3,h4,h5⟩
 ·have h2:=h2 w rfl
  cases base with
  |none=>
   simp at gF;subst gF;simp[Builtin.append_,run_underlying ht,run_underlying h1,sizeOf,typeInfo,hi,Builtin.lenOf,gO,h2]
  |some a=>
   simp only at gF;simp[Builtin.append_,run_underlying ht,run_underlying h1,sizeOf,typeInfo,hi,Builtin.lenOf,gO,h2,gF]
 ·have pS:IntKind.i64.wrap (m:Int)=m:=by rw[IntKind.wrap_i64];omega
  have mT:¬(281474976710656<(m:Int)*(ti.bytes:Int)):=by
   have:((m*ti.bytes:Nat):Int)≤2 ^ 47:=by exact_mod_cast h4
   rw[Jac]at this;omega
  have fx:¬((m:Int)<0):=by omega
  have bg:nv=(Builtin.zeroCells z.cells m).toList:=by rw[←h3]
  by_cases hz:m*ti.size=0
  ·have mz:nv=[]:=by
    apply Ju;rw[bg];simp[Builtin.zeroCells,h5,hz]
   subst mz;cases base with
   |none=>
    simp at gF;subst gF;simp[Builtin.append_,run_underlying ht,run_underlying h1,sizeOf,typeInfo,hi,asInt,asIntOf,pS,mT,fx,gO,hz]
   |some a=>
    simp only[storeCells,Sem.run_pure]at gF;cases gF;simp[Builtin.append_,run_underlying ht,run_underlying h1,sizeOf,typeInfo,hi,asInt,asIntOf,pS,mT,fx,gO,hz,storeCells]
  ·cases base with
   |none=>
    simp at gF;subst gF;simp[Builtin.append_,run_underlying ht,run_underlying h1,sizeOf,typeInfo,zeroValue,hi,h2,asInt,asIntOf,pS,mT,fx,gO]
   |some a=>
    simp only[bg]at gF;simp[Builtin.append_,run_underlying ht,run_underlying h1,sizeOf,typeInfo,zeroValue,hi,h2,asInt,asIntOf,pS,mT,fx,gO,hz,gF]
theorem zHQ{t t2 ty e:TypeId}{ti:TypeInfo}{z xv:Value}{m:Nat}{nv olds:List Value}{w:World}(ht:P.underlying t=ud (.slice e))(hi:P.info? e=ud ti)(hz:ti.zero=ud z)
  (hx:zFt P t2 e ti xv m nv w){base:Option Addr}{n cap:Nat}(gU:cap<n+m)(cc:n+m≤68719476736)(hb:ti.bytes≤2048)
  (gC:∀w2:World,w2.heap=w.heap→(Builtin.firstCells ti.size n (.slice base n cap)).run P w2=.ok olds.toArray w2):
  (Builtin.append_ #[t,t2] ty #[.slice base n cap,xv]).run P w=.ok (.slice (ud ⟨w.heap.size,0,ue⟩) (n+m) (grownCap w (n+m) cap e))
    (w.drew.alloc (.cells ((olds++nv).toArray++Builtin.zeroCells z.cells (grownCap w (n+m) cap e-(n+m))) e)):=by
 have hn:¬(n+m≤cap):=by omega
 have mR:¬(9223372036854775807<((n:Int)+(m:Int))):=by omega
 have dK:=growslice_fits (need:=n+m) (old:=cap) (bytes:=ti.bytes) gU (Lv (Gu cc hb) (by decide));have mS:¬(281474976710656<Builtin.nextslicecap (n+m) cap*ti.bytes):=by omega
 have ho:=gC w.drew rfl;rcases hx.arg with⟨e2,xa,c,h1,rfl,h2⟩|⟨k2,k3,z',h1,rfl,h2,h3,h4,h5⟩
 ·have h2:=h2 w.drew rfl
  simp[Builtin.append_,run_underlying ht,run_underlying h1,sizeOf,typeInfo,zeroValue,hi,hz,Builtin.lenOf,hn,mR,mS,Question.forced,h2,ho,newRow,grownCap]
  congr 2
  apply Jc7;simp
 ·have pS:IntKind.i64.wrap (m:Int)=m:=by rw[IntKind.wrap_i64];omega
  have mT:¬(281474976710656<(m:Int)*(ti.bytes:Int)):=by
   have:((m*ti.bytes:Nat):Int)≤2 ^ 47:=by exact_mod_cast h4
   rw[Jac]at this;omega
  have fx:¬((m:Int)<0):=by omega
  have bg:nv=(Builtin.zeroCells z'.cells m).toList:=by rw[←h3]
  rw[hz]at h2;simp at h2;subst h2
  by_cases mW:m*ti.size=0
  ·have mz:nv=[]:=by
    apply Ju;rw[bg];simp[Builtin.zeroCells,h5,mW]
   subst mz;simp[Builtin.append_,run_underlying ht,run_underlying h1,sizeOf,typeInfo,zeroValue,hi,hz,asInt,asIntOf,pS,mT,fx,hn,mR,mS,Question.forced,mW,ho,newRow,grownCap]
  ·simp[Builtin.append_,run_underlying ht,run_underlying h1,sizeOf,typeInfo,zeroValue,hi,hz,asInt,asIntOf,pS,mT,fx,hn,mR,mS,Question.forced,mW,ho,newRow,grownCap,←h3]
   congr 2
   apply Jc7;simp
end
def zCG(s0:Nat)(y:Option Nat)(n:Nat)(s:Nat)(z:List Nat):Option (List Nat):=
 if s=s0 then ud z else if y=ud s then(match z.getLast? with
  |some j=>ud (z.dropLast++[n+j])
  |none=>ue)else ue
def Gh.ip(G:Gh)(d s0:Nat)(y:Option Nat)(b n k oa:Nat)(us:List T)(f2:Nat→List Nat→Value)(gM:Value):Gh where
 hd s z:=if s=d then(match z.getLast? with
  |some i=>if i<n then G.hd s0 z else f2 (i-n) z.dropLast
  |none=>gM)else G.hd s z
 ad s z:=if s=d then(match z.getLast? with
  |some i=>if i<n then G.ad s0 z else if(T.agg us).inT ((i-n)::z.dropLast.reverse)then⟨b,oa+(T.agg us).offT ((i-n)::z.dropLast.reverse),ue⟩else(match y with
   |some y=>G.ad y (z.dropLast++[i-n])
   |none=>default)
  |none=>default)else G.ad s z
 lb b' o:=if b'=b∧oa≤o∧o<oa+us.length*k then(match zBt us [] n (o-oa)with
  |some p=>ud (ug,d,p)
  |none=>ue)else match G.lb b' o with
  |some (fl,s,z)=>(match zCG s0 y n s z with
   |some z'=>ud (fl,d,z')
   |none=>ud (fl,s,z))
  |none=>ue
 ow b':=match G.ow b' with
  |some (s,z)=>(match zCG s0 y n s z with
   |some z'=>ud (d,z')
   |none=>ud (s,z))
  |none=>ue
def aWr(d s0:Nat)(y:Option Nat)(k:Nat)(ts:List T):Wr:=(d,ud (.sl k ts))::(s0,ud .any)::(match y with
 |some y=>[(y,ud .any)]
 |none=>[])
def kX(d s0:Nat)(y:Option Nat):Chg:=(d,0)::(s0,1)::(match y with
 |some y=>[(y,1)]
 |none=>[])
structure zFu (Γ:Ctx) (E:Env) (G:Gh) (d s0:Nat) (y:Option Nat) (k n:Nat) (us:List T) (f2:Nat→List Nat→Value) (nv:List Value):Prop where
 size:∀u∈us,u.size=k
 tup:yG us=uf
 clean:yP us
 one:∀j z,(f2 j z).oneCell'=uf
 len:nv.length=us.length*k
 slot:∀y',y=ud y'→y'≠d∧y'≠s0∧E y'=ud (.sl k us)∧ ∀j z,f2 j z=G.hd y' (z++[j])
 none:y=ue→ ∀(j:Nat) u,us[j]? =ud u→ ∀(G2:Gh)(w2:World),(∀z,G2.hd d (z++[n+j])=f2 j z)→R Γ.St G2 w2 d u [n+j]
 vals:∀(G2:Gh),(∀j z,G2.hd d (z++[n+j])=f2 j z)→ ∀(o:Nat)(v:Value),(zW G2 d us [] n)[o]? =ud v→nv[o]? =ud v
theorem zIV{G G2:Gh}{s d:Nat}:(xs:List T)→ ∀(p:List Nat)(j:Nat),(∀i,i<xs.length→ ∀z,G2.hd d (z++((j+i)::p))=G.hd s (z++((j+i)::p)))→zW G2 d xs p j=zW G s xs p j
 | [],_,_,_=>by simp only[zW]
 |x::xs,p,j,h=>by
  simp only[zW];have ih:zW G2 d xs p (j+1)=zW G s xs p (j+1):=zIV xs p (j+1) (fun i hi z=>by rw[show j+1+i=j+(i+1)from by omega];exact h (i+1) (by simpa using hi) z)
  rw[zAc x (j::p) (j::p) (by simpa using h 0 (by simp)),ih]
theorem zCv(z:List Nat):z=[]∨ ∃y i,z=y++[i]:=by
 rcases List.eq_nil_or_concat z with h|⟨y,i,h⟩
 ·exact .inl h
 ·exact .inr ⟨y,i,by simpa using h⟩
section
variable {P:Program}{Γ:Ctx}{E:Env}{d:Nat}
theorem zAM{G:Gh}{a:Act}{w:World}(g9:Rep Γ E G a.tmps w)(hd:d<Γ.N){t t2 ty e:TypeId}{ti:TypeInfo}{z:Value}{k:Nat}(ht:P.underlying t=ud (.slice e))(hi:P.info? e=ud ti)(hz:ti.zero=ud z)
  (hk:ti.size=k)(_hk0:0<k)(fh:z.cells.size=k)(hb:ti.bytes≤2048){s0:Nat}{y:Option Nat}{xs us:List T}{f2:Nat→List Nat→Value}{nv:List Value}(gZ:E s0=ud (.sl k xs))(eP:s0≠d)
  (hn:zFu Γ E G d s0 y k xs.length us f2 nv){xv:Value}(hx:zFt P t2 e ti xv us.length nv w)(gu:∀v∈nv,v.oneCell'=uf)(cc:xs.length+us.length≤68719476736):
  ∃v w',(Builtin.append_ #[t,t2] ty #[G.hd s0 [],xv]).run P w=.ok v w'∧ ∃G',Rep Γ (E.app (aWr d s0 y k (xs++us)) (kX d s0 y)) G' (a.tmps.setIfInBounds d v) w':=by
 have hm:=g9.mem;obtain⟨e1,e2,e3⟩:=g9.ent s0 _ gZ;simp only[Top]at e3;simp only[R]at e2;have m6:T.sizes us=us.length*k:=wB us hn.size;have fin:∀(G':Gh)(w':World)(v:Value),sE (kX d s0 y) G w G' w'→Mem Γ G' w'→G'.hd d []=v→R Γ.St G' w' d (.sl k (xs++us)) []→(∀s p,s≠d→G'.hd s p=G.hd s p)→
   Rep Γ (E.app (aWr d s0 y k (xs++us)) (kX d s0 y)) G' (a.tmps.setIfInBounds d v) w':=by
  intro G' w' v gv gx hdv a7 hother;refine wR g9 (by simp) gv gx ?_ ?_
  ·intro s hs
   have gj:s≠d:=by rintro rfl;simp[aWr,Wr.find]at hs
   have f8:s≠s0:=by rintro rfl;simp[aWr,Wr.find,gj.symm]at hs
   have dx:∀y',y=ud y'→s≠y':=by
    rintro y' rfl rfl
    simp[aWr,Wr.find,gj.symm,f8.symm]at hs
   refine⟨fun n' hn'=>?_,by rw[J8];simp[gj.symm]⟩;simp only[kX,Jp,Qh.injEq]at hn';rcases hn' with⟨h1,_⟩|⟨h1,_⟩|hn'
   ·exact gj h1
   ·exact f8 h1
   ·cases y with
    |none=>simp at hn'
    |some y'=>simp at hn';exact dx y' rfl hn'.1
  ·intro s t' hs
   by_cases h1:s=d
   ·subst h1
    simp[aWr,Wr.find]at hs;subst hs;refine⟨?_,a7,by simp only[Top];exact zCu xs us e3 hn.clean⟩;rw[J8];simp[g9.size,hd,mkV,hdv]
   ·have h3:t'=.any∧(s=s0∨y=ud s):=by
     simp only[aWr,Wr.find]at hs;rw[if_neg (fun h=>h1 h.symm)]at hs;split at hs
     ·rename_i h2;simp at hs;exact⟨hs.symm,.inl h2.symm⟩
     ·cases y with
      |none=>simp[Wr.find]at hs
      |some y'=>
       simp only[Wr.find]at hs;split at hs
       ·rename_i h2;simp at hs;exact⟨hs.symm,.inr (by rw[h2])⟩
       ·cases hs
    obtain⟨rfl,h3⟩:=h3;refine⟨?_,by simp only[R],by simp[Top]⟩;rw[J8];simp only[Ne.symm h1,if_false,mkV];rw[hother s [] h1];rcases h3 with rfl|h3
    ·exact e1
    ·obtain⟨_,_,h4,_⟩:=hn.slot s h3
     exact(g9.ent s _ h4).1
 have cz:∀s p,(∀n',(s,n')∉kX d s0 y)→zCG s0 y xs.length s p=ue:=by
  intro s p h;have h1:s≠s0:=fun e=>h 1 (by simp[kX,e])
  have h2:y≠ud s:=fun e=>h 1 (by simp[kX,e])
  simp[zCG,h1,h2]
 by_cases gO:∃a' c,G.hd s0 []=.slice a' xs.length c∧xs.length+us.length≤c
 ·
  obtain⟨a',c,hh,gO⟩:=gO;rcases e2 with⟨rfl,a1,h1⟩|⟨b,o0,cap,cs,et,h1,h2,h3,h4,h5,h6,h7,h8⟩
  ·rw[h1]at hh
   simp at hh;obtain⟨rfl,rfl⟩:=hh;have fe:us=[]:=Ju (by simp only[Hu]at gO;omega);subst fe;have bg:nv=[]:=Ju (by have:=hn.len;simp at this;simp[this]);subst bg;have gy:=zDo (P:=P) (t:=t) (ty:=ty) (w':=w) ht hi hx (by simp) (base:=a1) (n:=0) (cap:=0) (by simp) (by cases a1<;>rfl);refine⟨.slice a1 0 0,w,by rw[h1];exact gy,G.put d (fun _=>.slice a1 0 0),fin _ w _ ?_ (hm.put rfl d _ (fun _=>rfl)) (by rw[Gh.put_self]) (by simp[R,Gh.put]) (fun s p h=>G.put_other _ p h)⟩;have:=G.put_keep (w:=w) (w':=w) rfl d (fun _=>.slice a1 0 0);exact⟨fun s p h=>this.hd s p (fun n hn=>h n (by simp at hn;simp[kX,hn])),fun s p h=>this.ad s p (fun n hn=>h n (by simp at hn;simp[kX,hn])),fun b o f s p h0 h1 h2=>this.lb b o f s p h0 h1 (fun n hn=>h2 n (by simp at hn;simp[kX,hn])),fun b s p h1 h2=>this.ow b s p h1 (fun n hn=>h2 n (by simp at hn;simp[kX,hn])),this.blk⟩
  ·rw[h1]at hh
   simp at hh;obtain⟨rfl,rfl⟩:=hh;have hmk0:us.length*k+xs.length*k≤cap*k:=by rw[←H5];exact Lh _ (by omega)
   have du:∀o,o0+(xs.length*k+us.length*k)≤o→o0+xs.length*k≤o:=fun o h=>by omega
   generalize hoa:o0+xs.length*k=oa at h7 du
   have hmk':oa+us.length*k≤o0+cap*k:=by omega
   have hmk:us.length*k+oa≤cs.size:=by omega
   generalize ej:w.setRow b (cs.toList.take (oa)++nv++cs.toList.drop (oa+nv.length)).toArray=w'
   have ec:w'.heap[b]? =ud (.cells (cs.toList.take (oa)++nv++cs.toList.drop (oa+nv.length)).toArray et (0,0)):=by rw[←ej];exact setRow_heap w b cs _ et _ h2
   have gC:∀b',b'≠b→w'.heap[b']? =w.heap[b']?:=fun b' h=>by rw[←ej];exact setRow_other w b b' _ h
   have gL:w'.heap.size=w.heap.size:=by rw[←ej];exact size_setRow w b _
   have hcsl:cs.toList.length=cs.size:=K3 ..;have cB:=hn.len;have eB:∀i,yE w' b i=if oa≤i∧i<oa+us.length*k then nv[i-oa]? else yE w b i:=by
    intro i;simp only[yE,World.cell?,ec,h2,Q5,Lu,if_false];rw[←Kc,←Kc (xs:=cs)];simp only[]
    by_cases g1:i<oa
    ·rw[if_neg (by omega),J9,Jv (by simp;omega),Ui g1]
    ·by_cases g2:i<oa+us.length*k
     ·rw[if_pos ⟨by omega,g2⟩,J9,Ja (by simp;omega),Jv (by simp;omega)]
      congr 1;simp;omega
     ·rw[if_neg (by omega),J9,Ja (by simp;omega),Ja (by simp;omega),Ln]
      congr 1;simp;omega
   have gW:∀b' o fl s p,G.lb b' o=ud (fl,s,p)→(fl,s,p)≠(uf,s0,[])→ ¬(b'=b∧oa≤o∧o<oa+us.length*k):=by
    rintro b' o fl s p g1 g2 ⟨rfl,g3,g4⟩
    rw[h7 o g3 (by omega)]at g1;simp at g1;exact g2 (by simp[←g1.1,←g1.2.1,←g1.2.2])
   have eM:∀b' o,¬(b'=b∧oa≤o∧o<oa+us.length*k)→yE w' b' o=yE w b' o:=by
    intro b' o g
    by_cases eC:b'=b
    ·subst eC
     rw[eB,if_neg (fun g2=>g ⟨rfl,g2⟩)]
    ·simp[yE,World.cell?,gC b' eC]
   have cC:((cs.toList.take (oa)++nv++cs.toList.drop (oa+nv.length)).toArray).size=cs.size:=by simp;omega
   have ed:Blk w w':=by
    intro b' cs' e' g1
    by_cases eC:b'=b
    ·subst eC
     rw[h2]at g1;simp at g1;obtain⟨rfl,rfl⟩:=g1;exact⟨_,ec,cC⟩
    ·exact⟨cs',by rw[gC b' eC];exact g1,rfl⟩
   generalize gm:G.ip d s0 y b xs.length k oa us f2 (.slice (ud ⟨b,o0,ue⟩) (xs.length+us.length) cap)=G'
   have ghdr:G'.hd d []=.slice (ud ⟨b,o0,ue⟩) (xs.length+us.length) cap:=by rw[←gm];simp[Gh.ip]
   have ghd1:∀i z,i<xs.length→G'.hd d (z++[i])=G.hd s0 (z++[i]):=fun i z g=>by rw[←gm];simp[Gh.ip,g]
   have ghd2:∀j z,G'.hd d (z++[xs.length+j])=f2 j z:=fun j z=>by rw[←gm];simp[Gh.ip,show¬xs.length+j<xs.length from by omega]
   have ghd0:∀s z,s≠d→G'.hd s z=G.hd s z:=fun s z g=>by rw[←gm];simp[Gh.ip,g]
   have gad0:∀s z,s≠d→G'.ad s z=G.ad s z:=fun s z g=>by rw[←gm];simp[Gh.ip,g]
   have gad1:∀i z,i<xs.length→G'.ad d (z++[i])=G.ad s0 (z++[i]):=fun i z g=>by rw[←gm];simp[Gh.ip,g]
   have gad2:∀j f,(T.agg us).inT (j::f)=uf→G'.ad d (f.reverse++[xs.length+j])=⟨b,oa+(T.agg us).offT (j::f),ue⟩:=fun j f g=>by rw[←gm];simp[Gh.ip,g,show¬xs.length+j<xs.length from by omega]
   have gad3:∀y' j z,y=ud y'→(T.agg us).inT (j::z.reverse)=ug→G'.ad d (z++[xs.length+j])=G.ad y' (z++[j]):=fun y' j z g1 g2=>by rw[←gm];simp[Gh.ip,g1,g2,show¬xs.length+j<xs.length from by omega]
   have glb2:∀i p,i<us.length*k→zBt us [] xs.length i=ud p→G'.lb b (oa+i)=ud (ug,d,p):=fun i p g1 g2=>by rw[←gm];simp only[Gh.ip];rw[if_pos (by simp;omega),show oa+i-oa=i from by omega,g2]
   have glb0:∀b' o fl s p,G.lb b' o=ud (fl,s,p)→ ¬(b'=b∧oa≤o∧o<oa+us.length*k)→zCG s0 y xs.length s p=ue→G'.lb b' o=ud (fl,s,p):=fun b' o fl s p g1 g2 g3=>by rw[←gm];simp only[Gh.ip];rw[if_neg g2,g1];simp[g3]
   have glb1:∀b' o fl s p p',G.lb b' o=ud (fl,s,p)→ ¬(b'=b∧oa≤o∧o<oa+us.length*k)→zCG s0 y xs.length s p=ud p'→G'.lb b' o=ud (fl,d,p'):=fun b' o fl s p p' g1 g2 g3=>by rw[←gm];simp only[Gh.ip];rw[if_neg g2,g1];simp[g3]
   have gow0:∀b' s p,G.ow b'=ud (s,p)→zCG s0 y xs.length s p=ue→G'.ow b'=ud (s,p):=fun b' s p g1 g2=>by rw[←gm];simp[Gh.ip,g1,g2]
   have gow1:∀b' s p p',G.ow b'=ud (s,p)→zCG s0 y xs.length s p=ud p'→G'.ow b'=ud (d,p'):=fun b' s p p' g1 g2=>by rw[←gm];simp[Gh.ip,g1,g2]
   have eY:∀p,zCG s0 y xs.length s0 p=ud p:=fun p=>by simp[zCG]
   have pF:∀y' z j,y=ud y'→y'≠s0→zCG s0 y xs.length y' (z++[j])=ud (z++[xs.length+j]):=fun y' z j g1 g2=>by simp[zCG,g1,g2]
   have gj:∀s p,Off (kX d s0 y) s p→s≠d:=fun s p h e=>absurd (h 0 (by simp[kX,e])) (by simp)
   have gv:sE (kX d s0 y) G w G' w':=by
    refine⟨fun s p h=>ghd0 s p (gj s p h),fun s p h=>gad0 s p (gj s p h),fun b' o fl s p _ g1 g2=>?_,fun b' s p g1 g2=>gow0 b' s p g1 (cz s p g2),ed⟩;have hs:s≠s0:=fun e=>g2 1 (by simp[kX,e])
    have g3:=gW b' o fl s p g1 (by simp[hs]);exact⟨glb0 b' o fl s p g1 g3 (cz s p g2),eM b' o g3⟩
   have bv:=hm.ow b _ h6;have gx:Mem Γ G' w':=by
    refine⟨fun s z=>?_,fun b' o' l hl=>?_,fun b' l hl=>?_,fun b' x' e6=>?_,fun b' g1 g2=>?_,by rw[gL];exact hm.sz,hm.bk.trans ed (by rw[←ej];rfl) (by rw[←ej];rfl)⟩
    ·by_cases g:s=d
     ·subst g
      rcases zCv z with rfl|⟨z',i,rfl⟩
      ·rw[ghdr];rfl
      ·by_cases g1:i<xs.length
       ·rw[ghd1 i z' g1];exact hm.one _ _
       ·have:=ghd2 (i-xs.length) z'
        rw[show xs.length+(i-xs.length)=i from by omega]at this;rw[this];exact hn.one _ _
     ·rw[ghd0 s z g];exact hm.one _ _
    ·have:zBq Γ w b':=by
      rw[←gm]at hl;simp only[Gh.ip]at hl;split at hl
      ·rename_i g;rw[g.1];exact bv
      ·split at hl
       ·rename_i g;exact hm.lb _ _ _ g
       ·cases hl
     exact⟨by rw[gL];exact this.1,this.2⟩
    ·have:zBq Γ w b':=by
      rw[←gm]at hl;simp only[Gh.ip]at hl;split at hl
      ·rename_i g;exact hm.ow _ _ g
      ·cases hl
     exact⟨by rw[gL];exact this.1,this.2⟩
    ·have eC:b'≠b:=by rintro rfl;rw[bv.2.2]at e6;cases e6
     rw[gC b' eC];exact hm.st b' x' e6
    ·have eC:b'≠b:=by
      rintro rfl
      rcases bv.2.1 with g3|g3
      ·omega
      ·exact g2 g3
     rw[gC b' eC];exact hm.fr b' g1 g2
   have mC:wQ G' w' d us [] xs.length b (oa):=by
    refine zER us [] xs.length b (oa) hn.tup (fun i x e6 f hf=>?_) (fun i p' g1 g2=>glb2 i p' (by omega) g2) (fun i v hv=>?_)
    ·have:=gad2 i f (by simp only[T.inT,e6];exact hf)
     simpa[T.offT,e6]using this
    ·have g1:=hn.vals G' ghd2 i v hv
     have g2:=(Jg.1 g1).1;rw[eB,if_pos ⟨by omega,by omega⟩,show oa+i-oa=i from by omega];exact g1
   have a7:R Γ.St G' w' d (.sl k (xs++us)) []:=by
    simp only[R];rw[ghdr];refine .inr ⟨b,o0,cap,_,et,by simp,ec,by simp;omega,h4,by rw[cC];exact h5,gow1 b s0 [] [] h6 (eY []),?_,zCF _ _ _ _ _ (fun i x e6=>?_)⟩
    ·intro o g1 g2
     rw[J7,H5]at g1;exact glb1 b o uf s0 [] [] (h7 o (by omega) g2) (by omega) (eY [])
    ·rw[K8]at e6
     simp only[J6];split at e6
     ·rename_i gT
      obtain⟨g1,g2,g3⟩:=tS xs [] 0 b o0 k i x h8 e6;simp only[J6]at g1 g3;have bm:∀b' o fl z,G.lb b' o=ud (fl,s0,z++[i])→G'.lb b' o=ud (fl,d,z++[i])∧yE w' b' o=yE w b' o:=fun b' o fl z g=>by have g4:=gW b' o fl s0 _ g (by simp);exact⟨glb1 b' o fl s0 _ _ g g4 (eY _),eM b' o g4⟩
      refine⟨zDl x [i] [i] b _ (fun z=>ghd1 i z gT) (fun z=>gad1 i z gT) (fun b' o z g=>bm b' o ug z g) g1,g2,?_⟩;refine qP (G:=G) (w:=w) (s:=s0) (p:=[i]) ⟨⟨fun z=>ghd1 i z gT,fun z _=>gad1 i z gT,fun b' o f z _ _ g=>bm b' o f z g,fun b' z _ g=>gow1 b' s0 _ _ g (eY _),ed⟩,fun b' o _ g=>?_,fun b' g=>gow1 b' s0 _ _ g (eY _)⟩ x (yM.mono (fun _ _=>False.elim) x (vH xs e3 i x e6)) g3;have:=bm b' o uf [] (by simpa using g);simpa using this
     ·rename_i hge
      obtain⟨j,rfl⟩:∃j,i=xs.length+j:=⟨i-xs.length,by omega⟩;rw[show xs.length+j-xs.length=j from by omega]at e6;have g1:=zBr us [] xs.length b (oa) j x mC e6;rw[show T.sizes (us.take j)=j*k from by rw[wB _ (fun u hu=>hn.size u (List.mem_of_mem_take hu)),L6,Ur (by have:=(Jg.1 e6).1;omega)],show oa+j*k=o0+(xs.length+j)*k from by rw[H5];omega]at g1
      refine⟨g1,hn.size x (Kw e6),?_⟩;cases hy:y with
      |none=>exact hn.none hy j x e6 G' w' (fun z=>ghd2 j z)
      |some y'=>
       obtain⟨y1,y2,y3,y4⟩:=hn.slot y' hy;obtain⟨_,y5,_⟩:=g9.ent y' _ y3;simp only[R]at y5;rcases y5 with⟨rfl,_⟩|⟨b2,o2,cap2,cs2,et2,_,_,_,_,_,_,_,y6⟩
       ·simp at e6
       ·obtain⟨_,_,y7⟩:=tS us [] 0 b2 o2 k j x y6 e6
        simp only[J6]at y7;refine zIN x [j] [xs.length+j] (zBU.okTups_get us hn.tup j x e6) ⟨fun z=>by rw[ghd2,y4],fun z g=>gad3 y' j z hy (by simp only[T.inT,e6];exact g),fun b' o fl z _ g=>?_,fun b' z g=>gow1 b' y' _ _ g (pF y' z j hy y2),ed⟩ (yM.mono (fun _ _=>False.elim) x (vH us hn.clean j x e6)) y7;have g4:=gW b' o fl y' _ g (by simp[y2]);exact⟨glb1 b' o fl y' _ _ g g4 (pF y' z j hy y2),eM b' o g4⟩
   have gF:=run_storeCells_at P b (oa) et nv 0 cs w h2 (by omega) gu;simp only[Qy]at gF;rw[ej]at gF;have gy:=zDo (P:=P) (t:=t) (ty:=ty) (w':=w') ht hi hx (by omega) (base:=ud ⟨b,o0,ue⟩) gO (by simp only[hk,vM,hoa];exact gF);refine⟨_,w',by rw[h1];exact gy,G',fin G' w' _ gv gx ghdr a7 ghd0⟩
 ·
  have tv:∃a' c,G.hd s0 []=.slice a' xs.length c∧ ∀w2:World,w2.heap=w.heap→(Builtin.firstCells ti.size xs.length (.slice a' xs.length c)).run P w2=.ok (zW G s0 xs [] 0).toArray w2:=by
   rcases e2 with⟨rfl,a1,h1⟩|⟨b,o0,cap,cs,et,h1,h2,h3,h4,h5,h6,h7,h8⟩
   ·exact⟨a1,0,h1,fun w2 _=>by cases a1<;>simp[Builtin.firstCells,loadCells,loadCellsFrom,zW]⟩
   ·refine⟨_,_,h1,fun w2 mY=>?_⟩
    have hl:=kM xs [] 0 b o0 h8;refine run_firstCells_some (P:=P) w2 ti.size xs.length ⟨b,o0,ue⟩ _ _ _ ?_ (fun j v hv=>?_)
    ·rw[wA,hk]
     exact wB xs (zA3 xs [] 0 b o0 h8).2
    ·have:=zAy xs [] 0 b o0 hl j v hv
     rw[vM];simp only[yE]at this;simpa[World.cell?,mY]using this
  obtain⟨a',c,hh,gC⟩:=tv;have gX:yG xs=uf∧(∀x∈xs,x.size=k)∧ ∀i x,xs[i]? =ud x→R Γ.St G w s0 x [i]:=by
   rcases e2 with⟨rfl,a1,h1⟩|⟨b,o0,cap,cs,et,h1,h2,h3,h4,h5,h6,h7,h8⟩
   ·simp[yG]
   ·refine⟨qS (St:=Γ.St) (k:=k) xs [] 0 b o0 (kM xs [] 0 b o0 h8),(zA3 xs [] 0 b o0 h8).2,fun i x e6=>?_⟩
    have:=(tS xs [] 0 b o0 k i x h8 e6).2.2;simpa using this
  have gU:c<xs.length+us.length:=by
   rcases Kb c (xs.length+us.length)with g|g
   ·exact g
   ·exact absurd ⟨a',c,hh,g⟩ gO
  have gy:=zHQ (P:=P) (t:=t) (ty:=ty) ht hi hz hx gU cc hb gC;have hge:=grownCap_ge w (xs.length+us.length) c e;have aA:=grownCap_le_maxLen w (xs.length+us.length) c e (by simp only[maxLen];omega)
  generalize grownCap w (xs.length+us.length) c e=cap' at gy hge aA
  generalize ej:w.drew.alloc (.cells ((zW G s0 xs [] 0++nv).toArray++Builtin.zeroCells z.cells (cap'-(xs.length+us.length))) e)=w' at gy
  have hwh:w'.heap=w.heap.push (.cells ((zW G s0 xs [] 0++nv).toArray++Builtin.zeroCells z.cells (cap'-(xs.length+us.length))) e):=by rw[←ej];rfl
  have py:T.sizes xs=xs.length*k:=wB xs gX.2.1;obtain⟨g1,g2,g3,g4,g5⟩:=zBU hm hwh d (xs++us) (fun i=>if i<xs.length then ud (s0,[i])else y.map fun y'=>(y',[i-xs.length])) (zCG s0 y xs.length) (fun i z=>if i<xs.length then G.hd s0 (z++[i])else f2 (i-xs.length) z) (.slice (ud ⟨w.heap.size,0,ue⟩) (xs.length+us.length) cap') ((kX d s0 y).tail)
   (zCt xs us gX.1 hn.tup) (fun i z=>by split;exact hm.one _ _;exact hn.one _ _) rfl
   (fun i u x q z' hu hs=>by
    split at hs
    ·simp at hs;obtain⟨rfl,rfl⟩:=hs;simp[zCG]
    ·rename_i fa
     cases y with
     |none=>simp at hs
     |some y'=>
      simp at hs;obtain⟨rfl,rfl⟩:=hs;have:=(hn.slot y' rfl).2.1;simp[zCG,this,show xs.length+(i-xs.length)=i from by omega])
   (fun i u x q hu hs=>by
    rw[K8]at hu;split at hs
    ·rename_i gT
     rw[if_pos gT]at hu;simp at hs;obtain⟨rfl,rfl⟩:=hs;exact⟨fun z'=>by simp[gT],gX.2.2 i u hu,vH xs e3 i u hu,eP⟩
    ·rename_i fa
     rw[if_neg fa]at hu;cases hy:y with
     |none=>rw[hy]at hs;simp at hs
     |some y'=>
      rw[hy]at hs;simp at hs;obtain⟨rfl,rfl⟩:=hs;obtain⟨y1,y2,y3,y4⟩:=hn.slot y' hy;obtain⟨_,y5,_⟩:=g9.ent y' _ y3;simp only[R]at y5;refine⟨fun z'=>by simp[fa,y4],?_,vH us hn.clean _ u hu,y1⟩;rcases y5 with⟨rfl,_⟩|⟨b2,o2,cap2,cs2,et2,_,_,_,_,_,_,_,y6⟩
      ·simp at hu
      ·have:=(tS us [] 0 b2 o2 k _ u y6 hu).2.2
       simpa using this)
   (fun i u hu hs G2 w2 es=>by
    rw[K8]at hu;split at hs
    ·cases hs
    ·rename_i fa
     rw[if_neg fa]at hu;cases hy:y with
     |some y'=>rw[hy]at hs;simp at hs
     |none=>
      have:=hn.none hy (i-xs.length) u hu G2 w2 (fun z'=>by rw[show xs.length+(i-xs.length)=i from by omega,es,if_neg fa])
      rwa [show xs.length+(i-xs.length)=i from by omega]at this)
   (fun G2 es o v hv=>by
    rw[zDm,J6]at hv;have h1:zW G2 d xs [] 0=zW G s0 xs [] 0:=zIV xs [] 0 (fun i eH z'=>by rw[J6,es,if_pos eH]);rw[h1]at hv;have bm:(zW G s0 xs [] 0).length=xs.length*k:=by rw[wA,py]
    have hl2:(zW G2 d us [] xs.length).length=us.length*k:=by rw[wA,m6]
    have ho:o<xs.length*k+us.length*k:=by have:=(Jg.1 hv).1;rw[J7]at this;omega
    have cB:=hn.len;rw[Array.getElem?_append_left (by simp;omega),List.getElem?_toArray];rw[K8]at hv ⊢
    split at hv
    ·rename_i gT;rw[if_pos gT];exact hv
    ·rename_i fa;rw[if_neg fa]
     exact hn.vals G2 (fun j z'=>by rw[es,if_neg (by omega),show xs.length+j-xs.length=j from by omega]) _ v hv)
   (fun s p h=>cz s p (by simpa[kX]using h)) (ho:=by rw[←ej];rfl) (hq:=by rw[←ej];rfl)
  refine⟨_,w',by rw[hh];exact gy,_,fin _ w' _ (by simpa[kX]using g1) g2 (by simp[Gh.nb]) ?_ (fun s p h=>by simp[Gh.nb,h])⟩;simp only[R];refine .inr ⟨w.heap.size,0,cap',_,e,by simp[Gh.nb],g5,by simpa using hge,aA,?_,by simp[Gh.nb],?_,zO2 _ _ _ _ _ (fun x e6=>?_) g3 g4⟩
  ·have bm:(zW G s0 xs [] 0).length=xs.length*k:=by rw[wA,py]
   have cB:=hn.len;simp only[Array.size_append,Jae,J7,size_zeroCells,fh,bm,cB,←H5];rw[J6];exact Lh _ (by omega)
  ·intro o ho _
   rw[J7,H5]at ho;simp[Gh.nb,zCB (xs++us) [] 0 o (by rw[zDn];omega)]
  ·rcases Jt.1 e6 with h|h
   ·exact gX.2.1 x h
   ·exact hn.size x h
end
end Go.Ab

namespace Go.Ab
open Go
mutual
def T.flat:T→Bool
 |.lit _|.ro _=>uf
 |.agg xs=>jM xs
 |.any|.same _ _|.addr _ _|.sub _ _ _ _ _|.sl _ _|.ptr _|.tup _=>ug
def jM:List T→Bool
 | []=>uf
 |x::xs=>x.flat&&jM xs
end
section
variable {St:Stb}{G G2:Gh}{w w2:World}{s d:Nat}
mutual
theorem zHR:(t:T)→ ∀(p p':List Nat),t.flat=uf→(∀z,G2.hd d (z++p')=G.hd s (z++p))→R St G w s t p→R St G2 w2 d t p'
 |.lit _,p,p',_,h,hr=>by have:=h [];simp only[Jw]at this;simp only[R]at hr ⊢;rw[this];exact hr
 |.ro _,p,p',_,h,hr=>by have:=h [];simp only[Jw]at this;simp only[R]at hr ⊢;rw[this];exact hr
 |.agg xs,p,p',hf,h,hr=>by simp only[R,T.flat]at hr hf ⊢;exact zMg xs p p' 0 hf h hr
 |.any,_,_,hf,_,_|.same _ _,_,_,hf,_,_|.addr _ _,_,_,hf,_,_|.sub _ _ _ _ _,_,_,hf,_,_|.sl _ _,_,_,hf,_,_|.ptr _,_,_,hf,_,_|.tup _,_,_,hf,_,_=>by simp[T.flat]at hf
theorem zMg:(xs:List T)→ ∀(p p':List Nat)(j:Nat),jM xs=uf→(∀z,G2.hd d (z++p')=G.hd s (z++p))→RF St G w s xs p j→RF St G2 w2 d xs p' j
 | [],_,_,_,_,_,_=>by simp only[RF]
 |x::xs,p,p',j,hf,h,hr=>by
  simp only[RF,jM,J2]at hr hf ⊢
  exact⟨zHR x (j::p) (j::p') hf.1 (fun z=>by have:=h (z++[j]);simpa using this) hr.1,zMg xs p p' (j+1) hf.2 h hr.2⟩
end
end
mutual
theorem zFv:(t:T)→t.flat=uf→zS t∧t.okTup=uf
 |.lit _,_|.ro _,_=>by simp[zS,yM,T.okTup]
 |.agg xs,h=>by simp only[T.flat]at h;simpa only[zS,yM,T.okTup]using qZ xs h
 |.any,h|.same _ _,h|.addr _ _,h|.sub _ _ _ _ _,h|.sl _ _,h|.ptr _,h|.tup _,h=>by simp[T.flat]at h
theorem qZ:(xs:List T)→jM xs=uf→yP xs∧yG xs=uf
 | [],_=>by simp[yP,xG,yG]
 |x::xs,h=>by simp only[jM,J2]at h;simp only[yP,xG,yG,J2];exact⟨⟨(zFv x h.1).1,(qZ xs h.2).1⟩,(zFv x h.1).2,(qZ xs h.2).2⟩
end
theorem zGQ:(xs:List T)→jM xs=uf→ ∀(i:Nat)(x:T),xs[i]? =ud x→x.flat=uf
 | [],_,_,_,h=>by simp at h
 |y::ys,hk,i,x,h=>by
  simp only[jM,J2]at hk;cases i with
  |zero=>simp at h;subst h;exact hk.1
  |succ i=>exact zGQ ys hk.2 i x (by simpa using h)
mutual
def zDS:T→Bool
 |.lit _=>uf
 |.sl _ xs=>zA4 xs
 |.agg xs=>zA4 xs
 |.ptr t=>zDS t
 |.any|.ro _|.same _ _|.addr _ _|.sub _ _ _ _ _|.tup _=>ug
def zA4:List T→Bool
 | []=>uf
 |x::xs=>zDS x&&zA4 xs
end
theorem zIW:(ys:List T)→zA4 ys=uf→ ∀u∈ys,∀xs,u≠.tup xs
 | [],_,_,h,_=>by simp at h
 |y::ys,hr,u,h,xs=>by
  simp only[zA4,J2]at hr;rcases Jp.1 h with rfl|h
  ·rintro rfl;simp[zDS]at hr
  ·exact zIW ys hr.2 u h xs
theorem zE1:(ys:List T)→(roT.roTs ys).length=ys.length
 | []=>rfl
 |y::ys=>by simp[roT.roTs,zE1 ys]
theorem zFw{k:Nat}:(ys:List T)→(∀u∈ys,u.size=k)→(∀u∈ys,∀xs,u≠.tup xs)→ ∀u∈roT.roTs ys,u.size=k
 | [],_,_,u,h=>by simp[roT.roTs]at h
 |y::ys,h1,h2,u,h=>by
  simp only[roT.roTs,Jp]at h;rcases h with rfl|h
  ·rw[zDh y (h2 y (by simp))];exact h1 y (by simp)
  ·exact zFw ys (fun v hv=>h1 v (by simp[hv])) (fun v hv=>h2 v (by simp[hv])) u h
theorem zIX:(ys:List T)→ ∀(j:Nat)(u:T),(roT.roTs ys)[j]? =ud u→ ∃u0,ys[j]? =ud u0∧u=roT u0
 | [],_,_,h=>by simp[roT.roTs]at h
 |y::ys,j,u,h=>by
  cases j with
  |zero=>simp[roT.roTs]at h;exact⟨y,by simp,h.symm⟩
  |succ j=>
   obtain⟨u0,h1,h2⟩:=zIX ys j u (by simpa[roT.roTs]using h);exact⟨u0,by simpa using h1,h2⟩
theorem zMh{St:Stb}{G2:Gh}{d:Nat}:(ys:List T)→ ∀(cs':Array Value)(o' k n:Nat),RoL St ys cs' o' k→(∀u∈ys,u.size=k)→(∀j u,ys[j]? =ud u→ ∀z',G2.hd d (z'++[n+j])=qE (zCA u cs' (o'+j*k) z'.reverse))→
  ∀(i:Nat)(v:Value),(zW G2 d (roT.roTs ys) [] n)[i]? =ud v→cs'[o'+i]? =ud v
 | [],_,_,_,_,_,_,_,i,v,hv=>by simp[roT.roTs,zW]at hv
 |y::ys,cs',o',k,n,h,hs,hd,i,v,hv=>by
  simp only[RoL]at h;simp only[roT.roTs,zW]at hv;have gV:∀xs,y≠.tup xs:=by rintro xs rfl;simp only[RoC]at h;exact h.1
  have dv:∀xs,roT y≠.tup xs:=fun xs e=>by cases y<;>simp[roT]at e
  have hl:(vals G2 d (roT y) [n]).length=k:=by rw[wO _ _ dv,zDh y gV,hs y (by simp)]
  rw[K8]at hv;split at hv
  ·exact zFj y cs' o' [n] (fun z'=>by simpa using hd 0 y (by simp) z') h.1 i v hv
  ·have:=zMh ys cs' (o'+k) k (n+1) h.2 (fun u hu=>hs u (by simp[hu])) (fun j u hu z'=>by
    have:=hd (j+1) u (by simpa using hu) z'
    rwa [show n+(j+1)=n+1+j from by omega,show o'+(j+1)*k=o'+k+j*k from by rw[H3];omega]at this) _ v hv
   rwa [hl,show o'+k+(i-k)=o'+i from by omega]at this
mutual
theorem zNj{G:Gh}(hg:∀s z,(G.hd s z).oneCell'=uf){s:Nat}:(t:T)→ ∀(p:List Nat)(v:Value),v∈vals G s t p→v.oneCell'=uf
 |.agg xs,p,v,h=>by simp only[vals]at h;exact zCH hg xs p 0 v h
 |.any,p,v,h|.lit _,p,v,h|.ro _,p,v,h|.same _ _,p,v,h|.addr _ _,p,v,h|.sub _ _ _ _ _,p,v,h|.sl _ _,p,v,h|.ptr _,p,v,h|.tup _,p,v,h=>by simp only[vals,List.mem_singleton]at h;rw[h];exact hg s p
theorem zCH{G:Gh}(hg:∀s z,(G.hd s z).oneCell'=uf){s:Nat}:(xs:List T)→ ∀(p:List Nat)(j:Nat)(v:Value),v∈zW G s xs p j→v.oneCell'=uf
 | [],_,_,_,h=>by simp[zW]at h
 |x::xs,p,j,v,h=>by
  simp only[zW,Jt]at h;rcases h with h|h
  ·exact zNj hg x _ v h
  ·exact zCH hg xs p _ v h
end
theorem zBx{G G2:Gh}{s d:Nat}:(us:List T)→ ∀(n j:Nat),(∀i z,G2.hd d (z++[n+i])=G.hd s (z++[j+i]))→zW G2 d us [] n=zW G s us [] j
 | [],_,_,_=>by simp only[zW]
 |x::xs,n,j,h=>by
  have ih:zW G2 d xs [] (n+1)=zW G s xs [] (j+1):=zBx xs (n+1) (j+1) (fun i z=>by rw[show n+1+i=n+(i+1)from by omega,show j+1+i=j+(i+1)from by omega];exact h (i+1) z)
  simp only[zW];rw[ih,zAc x [j] [n] (by simpa using h 0)]
theorem zDp{G G2:Gh}{s d:Nat}:(us:List T)→ ∀(n j:Nat)(q:List Nat),(∀i z,G2.hd d (z++[n+i])=G.hd s (z++((j+i)::q)))→zW G2 d us [] n=zW G s us q j
 | [],_,_,_,_=>by simp only[zW]
 |x::xs,n,j,q,h=>by
  have ih:zW G2 d xs [] (n+1)=zW G s xs q (j+1):=zDp xs (n+1) (j+1) q (fun i z=>by rw[show n+1+i=n+(i+1)from by omega,show j+1+i=j+(i+1)from by omega];exact h (i+1) z)
  simp only[zW];rw[ih,zAc x (j::q) [n] (by simpa using h 0)]
section
variable {P:Program}{Γ:Ctx}{E:Env}{o:Oper}{d:Nat}
theorem zMi{St:Stb}{G:Gh}{w:World}{r:Nat}{q:List Nat}{k:Nat}{us:List T}(h:R St G w r (.sl k us) q){size:Nat}(hk:size=k):
  ∃xa c,G.hd r q=.slice xa us.length c∧ ∀w2:World,w2.heap=w.heap→(Builtin.firstCells size us.length (.slice xa us.length c)).run P w2=.ok (zW G r us q 0).toArray w2:=by
 simp only[R]at h;rcases h with⟨rfl,a1,h1⟩|⟨b,o0,cap,cs,et,h1,h2,h3,h4,h5,h6,h7,h8⟩
 ·exact⟨a1,0,h1,fun w2 _=>by cases a1<;>simp[Builtin.firstCells,loadCells,loadCellsFrom,zW]⟩
 ·refine⟨_,_,h1,fun w2 mY=>?_⟩
  have hl:=kM us q 0 b o0 h8;refine run_firstCells_some (P:=P) w2 size us.length ⟨b,o0,ue⟩ _ _ _ ?_ (fun j v hv=>?_)
  ·rw[wA,hk]
   exact wB us (zA3 us q 0 b o0 h8).2
  ·have:=zAy us q 0 b o0 hl j v hv
   rw[vM];simp only[yE]at this;simpa[World.cell?,mY]using this
theorem zA5{G:Gh}{a:Act}{w:World}(g9:Rep Γ E G a.tmps w){s:Nat}{t:T}(h:E s=ud t)(ht:t.single=uf):a.eval (.tmp s)=G.hd s []:=by rw[xQ (g9.ent s t h).1,yU ht]
theorem zHS(t e:TypeId)(ti:TypeInfo)(z:Value)(k s0 y:Nat)(xs us:List T)(ho:o.op=.call { callee:=.builtin .append,args:=#[.tmp s0,.tmp y],argTypes:=#[t,t] })(gf:o.dst=ud d)(hd:d<Γ.N)
  (ht:P.underlying t=ud (.slice e))(hi:P.info? e=ud ti)(hz:ti.zero=ud z)(hk:ti.size=k)(eA:0<k)(fh:z.cells.size=k)(hb:ti.bytes≤2048)
  (gZ:E s0=ud (.sl k xs))(hy:E y=ud (.sl k us))(eP:s0≠d)(ch:y≠d)(ab:y≠s0)(cc:xs.length+us.length≤68719476736):
  xT P Γ o E (E.app (aWr d s0 (ud y) k (xs++us)) (kX d s0 (ud y))):=by
 refine xT.value gf fun a w G g9=>?_
 obtain⟨_,y2,y3⟩:=g9.ent y _ hy;simp only[Top]at y3;obtain⟨xa,c,h1,h2⟩:=zMi (P:=P) y2 hk;have fe:yG us=uf∧ ∀u∈us,u.size=k:=by
  simp only[R]at y2;rcases y2 with⟨rfl,_⟩|⟨b,o0,cap,cs,et,_,_,_,_,_,_,_,h8⟩
  ·simp[yG]
  ·exact⟨qS (St:=Γ.St) (k:=k) us [] 0 b o0 (kM us [] 0 b o0 h8),(zA3 us [] 0 b o0 h8).2⟩
 have hn:zFu Γ E G d s0 (ud y) k xs.length us (fun j z'=>G.hd y (z'++[j])) (zW G y us [] 0):=
  ⟨fe.2,fe.1,y3,fun j z'=>g9.mem.one _ _,by rw[wA];exact wB us fe.2,fun y' hy'=>by simp at hy';subst hy';exact⟨ch,ab,hy,fun _ _=>rfl⟩,fun h=>by simp at h,
   fun G2 es o v hv=>by rw[←zBx us xs.length 0 (fun i z'=>by rw[es,J6])];exact hv⟩
 obtain⟨v,w',gy,G',gm⟩:=zAM (P:=P) (ty:=o.type) g9 hd ht hi hz hk eA fh hb gZ eP hn (xv:=a.eval (.tmp y)) ⟨.inl ⟨e,xa,c,ht,by rw[zA5 g9 hy rfl,h1],h2⟩⟩ (fun v hv=>zBW g9.mem us [] 0 v hv) cc;refine⟨v,w',?_,G',gm⟩;rw[←zA5 g9 gZ rfl]at gy;simp[execOp,ho,resolve,invoke,builtin,gy]
theorem zHT(t e:TypeId)(ti:TypeInfo)(z:Value)(k s0:Nat)(y:Operand)(r:Nat)(q:List Nat)(xs us:List T)(ho:o.op=.call { callee:=.builtin .append,args:=#[.tmp s0,y],argTypes:=#[t,t] })(gf:o.dst=ud d)(hd:d<Γ.N)
  (ht:P.underlying t=ud (.slice e))(hi:P.info? e=ud ti)(hz:ti.zero=ud z)(hk:ti.size=k)(eA:0<k)(fh:z.cells.size=k)(hb:ti.bytes≤2048)
  (gZ:E s0=ud (.sl k xs))(hy:uS E y=ud (r,q,.sl k us))(hf:jM us=uf)(eP:s0≠d)(cc:xs.length+us.length≤68719476736):
  xT P Γ o E (E.app (aWr d s0 ue k (xs++us)) (kX d s0 ue)):=by
 refine xT.value gf fun a w G g9=>?_
 obtain⟨y2,y1⟩:=sV g9 hy rfl;obtain⟨xa,c,h1,h2⟩:=zMi (P:=P) y2 hk;have fe:(∀u∈us,u.size=k)∧ ∀j u,us[j]? =ud u→R Γ.St G w r u (j::q):=by
  simp only[R]at y2;rcases y2 with⟨rfl,_⟩|⟨b,o0,cap,cs,et,_,_,_,_,_,_,_,h8⟩
  ·simp
  ·refine⟨(zA3 us q 0 b o0 h8).2,fun j u hu=>?_⟩
   have:=(tS us q 0 b o0 k j u h8 hu).2.2;simpa using this
 have gI:=qZ us hf;have hn:zFu Γ E G d s0 ue k xs.length us (fun j z'=>G.hd r (z'++(j::q))) (zW G r us q 0):=
  ⟨fe.1,gI.2,gI.1,fun j z'=>g9.mem.one _ _,by rw[wA];exact wB us fe.1,fun y' hy'=>by simp at hy',
   fun _ j u hu G2 w2 es=>zHR u (j::q) [xs.length+j] (zGQ us hf j u hu) (fun z'=>es z') (fe.2 j u hu),
   fun G2 es o v hv=>by rw[←zDp us xs.length 0 q (fun i z'=>by rw[es,J6])];exact hv⟩
 obtain⟨v,w',gy,G',gm⟩:=zAM (P:=P) (ty:=o.type) g9 hd ht hi hz hk eA fh hb gZ eP hn (xv:=a.eval y) ⟨.inl ⟨e,xa,c,ht,by rw[y1,h1],h2⟩⟩ (fun v hv=>zBW g9.mem us q 0 v hv) cc;refine⟨v,w',?_,G',gm⟩;rw[←zA5 g9 gZ rfl]at gy;simp[execOp,ho,resolve,invoke,builtin,gy]
mutual
theorem zO7:(u:T)→zDS u=uf→(roT u).flat=uf
 |.agg xs,h=>by simp only[zDS]at h;simp only[roT,T.flat];exact zDT xs h
 |.lit _,_|.sl _ _,_|.ptr _,_=>by simp[roT,T.flat]
 |.any,h|.ro _,h|.same _ _,h|.addr _ _,h|.sub _ _ _ _ _,h|.tup _,h=>by simp[zDS]at h
theorem zDT:(xs:List T)→zA4 xs=uf→jM (roT.roTs xs)=uf
 | [],_=>by simp[roT.roTs,jM]
 |x::xs,h=>by simp only[zA4,J2]at h;simp only[roT.roTs,jM,J2];exact⟨zO7 x h.1,zDT xs h.2⟩
end
theorem zHU(t e:TypeId)(ti:TypeInfo)(z:Value)(k s0:Nat)(y:Operand)(r:Nat)(q:List Nat)(xs ys:List T)(ho:o.op=.call { callee:=.builtin .append,args:=#[.tmp s0,y],argTypes:=#[t,t] })(gf:o.dst=ud d)(hd:d<Γ.N)
  (ht:P.underlying t=ud (.slice e))(hi:P.info? e=ud ti)(hz:ti.zero=ud z)(hk:ti.size=k)(eA:0<k)(fh:z.cells.size=k)(hb:ti.bytes≤2048)
  (gZ:E s0=ud (.sl k xs))(hy:uS E y=ud (r,q,.ro (.sl k ys)))(hro:zA4 ys=uf)(ab:∀u∈ys,u.size=k)(eP:s0≠d)(cc:xs.length+ys.length≤68719476736):
  xT P Γ o E (E.app (aWr d s0 ue k (xs++roT.roTs ys)) (kX d s0 ue)):=by
 refine xT.value gf fun a w G g9=>?_
 obtain⟨y2,y1⟩:=sV g9 hy rfl;obtain⟨xa,c,h1,h2,h3,h4⟩:=zBS y2;have hf:=zDT ys hro;have gI:=qZ _ hf;have gg:(roT.roTs ys).length=ys.length:=zE1 ys;have gw:∀u∈roT.roTs ys,u.size=k:=zFw ys ab (fun u hu=>zIW ys hro u hu);obtain⟨cs',o',h5,h6⟩:∃(cs':Array Value)(o':Nat),RoL Γ.St ys cs' o' k∧(ys≠[]→ ∃b et fr,xa=ud ⟨b,o',ue⟩∧Γ.St b=ud (.cells cs' et fr)):=by
  by_cases gj:ys=[]
  ·subst gj;exact⟨#[],0,by simp[RoL],fun h=>absurd rfl h⟩
  ·obtain⟨b,o',cs',et,fr,h5,h6,h7⟩:=h4 gj
   exact⟨cs',o',h7,fun _=>⟨b,et,fr,h5,h6⟩⟩
 let f2:Nat→List Nat→Value:=fun j z'=>match ys[j]? with
  |some u=>qE (zCA u cs' (o'+j*k) z'.reverse)
  |none=>.bool ug
 have hf2:∀j u,ys[j]? =ud u→ ∀z',f2 j z'=qE (zCA u cs' (o'+j*k) z'.reverse):=fun j u hu z'=>by simp[f2,hu]
 let G0:Gh:={ G with hd:=fun s z'=>if s=d then(match z'.getLast? with
  |some j=>f2 j z'.dropLast
  |none=>.bool ug)else G.hd s z' }
 have hG0:∀j z',G0.hd d (z'++[j])=f2 j z':=fun j z'=>by simp[G0]
 have ck:∀(G2:Gh)(n:Nat),(∀j z',G2.hd d (z'++[n+j])=f2 j z')→ ∀(i:Nat)(v:Value),(zW G2 d (roT.roTs ys) [] n)[i]? =ud v→cs'[o'+i]? =ud v:=by intro G2 n es i v hv;exact zMh ys cs' o' k n h5 ab (fun j u hu z'=>by rw[es,hf2 j u hu]) i v hv
 have ta:∀w2:World,w2.heap=w.heap→(Builtin.firstCells ti.size ys.length (.slice xa ys.length c)).run P w2=.ok (zW G0 d (roT.roTs ys) [] 0).toArray w2:=by
  intro w2 mY
  by_cases gj:ys=[]
  ·subst gj
   cases xa<;>simp[Builtin.firstCells,loadCells,loadCellsFrom,roT.roTs,zW]
  ·obtain⟨b,et,fr,rfl,h7⟩:=h6 gj
   refine run_firstCells_some (P:=P) w2 ti.size ys.length ⟨b,o',ue⟩ _ _ _ ?_ (fun j v hv=>?_)
   ·rw[wA,hk,wB _ gw,gg]
   ·have:=ck G0 0 (fun j z'=>by rw[J6];exact hG0 j z') j v hv
    rw[vM];have h8:=g9.mem.st b _ h7;simp[World.cell?,mY,h8,this]
 have pG:∀j z',(f2 j z').oneCell'=uf:=fun j z'=>by
  dsimp only[f2];split
  ·exact zAz _
  ·rfl
 have hn:zFu Γ E G d s0 ue k xs.length (roT.roTs ys) f2 (zW G0 d (roT.roTs ys) [] 0):=by
  refine⟨gw,gI.2,gI.1,pG,by rw[wA];exact wB _ gw,fun y' hy'=>by simp at hy',fun _ j u hu G2 w2 es=>?_,fun G2 es i v hv=>?_⟩
  ·obtain⟨u0,ai,rfl⟩:=zIX ys j u hu
   exact zOx u0 cs' (o'+j*k) [xs.length+j] (fun z'=>by rw[es z',hf2 j u0 ai]) (zEQ ys cs' o' k j u0 h5 ai)
  ·rw[←zBx (roT.roTs ys) xs.length 0 (fun i z'=>by rw[es,J6];exact(hG0 i z').symm)]
   exact hv
 have bX:∀v∈zW G0 d (roT.roTs ys) [] 0,v.oneCell'=uf:=by
  intro v hv;refine zCH (fun s z'=>?_) _ [] 0 v hv;simp only[G0];split
  ·split
   ·exact pG _ _
   ·rfl
  ·exact g9.mem.one _ _
 have mL:zFt P t e ti (a.eval y) (roT.roTs ys).length (zW G0 d (roT.roTs ys) [] 0) w:=⟨.inl ⟨e,xa,c,ht,by rw[y1,h1,gg],by rw[gg];exact ta⟩⟩;obtain⟨v,w',gy,G',gm⟩:=zAM (P:=P) (ty:=o.type) g9 hd ht hi hz hk eA fh hb gZ eP hn mL bX (by rw[gg];exact cc);refine⟨v,w',?_,G',gm⟩;rw[←zA5 g9 gZ rfl]at gy;simp[execOp,ho,resolve,invoke,builtin,gy]
end
end Go.Ab

namespace Go.Ab
open Go
theorem zE2:(us:List T)→tT us=us.flatMap uT
 | []=>rfl
 |u::us=>by simp[tT,zE2 us]
theorem zBy(u:T)(h:u.zOk=uf):∀m,jS (J1 m u)=uf
 |0=>rfl
 |m+1=>by simp[K6,jS,h,zBy u h m]
section
variable {P:Program}{Γ:Ctx}{E:Env}{o:Oper}{d:Nat}
theorem zFx(t t2 e:TypeId)(k2:IntKind)(ti:TypeInfo)(z:Value)(u:T)(k s0:Nat)(y:Operand)(kd:IntKind)(m:Nat)(xs:List T)(ho:o.op=.call { callee:=.builtin .append,args:=#[.tmp s0,y],argTypes:=#[t,t2] })(gf:o.dst=ud d)(hd:d<Γ.N)
  (ht:P.underlying t=ud (.slice e))(pZ:P.underlying t2=ud (.int k2))(hi:P.info? e=ud ti)(hz:ti.zero=ud z)(hk:ti.size=k)(eA:0<k)(hb:ti.bytes≤2048)(hu:u.zOk=uf)(hv:uT u=z.cells.toList)(fe:u.size=k)
  (gZ:E s0=ud (.sl k xs))(hy:opT E y=ud (.lit (.int kd m)))(eP:s0≠d)(cc:xs.length+m≤68719476736):
  xT P Γ o E (E.app (aWr d s0 ue k (xs++J1 m u)) (kX d s0 ue)):=by
 refine xT.value gf fun a w G g9=>?_
 have fh:z.cells.size=k:=by grind[wV]
 have hzo:=zBy u hu m;have gI:=zAL _ hzo
 let f2:Nat→List Nat→Value:=fun _ z'=>qE (zhd u z'.reverse)
 have hnvl:((Builtin.zeroCells z.cells m).toList).length=m*k:=by grind[Builtin.zeroCells]
 have hn:zFu Γ E G d s0 ue k xs.length (J1 m u) f2 (Builtin.zeroCells z.cells m).toList:=by
  refine⟨by grind,gI.2,gI.1,fun _ _=>zAz _,by grind,by simp,fun _ j x hx G2 w2 es=>?_,fun G2 es i v px=>?_⟩
  ·grind[zHM]
  ·have h1:zW G2 d (J1 m u) [] xs.length=tT (J1 m u):=by grind[zCC]
   rw[h1,zE2]at px;obtain⟨h2,h3⟩:=zHN uT u k (by grind) eA m i v px
   grind[Builtin.zeroCells]
 have gu:∀v∈(Builtin.zeroCells z.cells m).toList,v.oneCell'=uf:=by
  intro v px;simp only[Builtin.zeroCells,Array.toList_map,Array.toList_range,Je,Ku]at px;obtain⟨i,eH,rfl⟩:=px
  grind[Nat.mod_lt,zDQ]
 have mL:zFt P t2 e ti (a.eval y) (J1 m u).length (Builtin.zeroCells z.cells m).toList w:=by
  refine⟨.inr ⟨k2,kd,z,pZ,?_,hz,by simp,?_,by omega⟩⟩
  ·rw[(xX g9 hy).1];simp
  ·simp only[Jy]
   exact Lv (Gu (show m≤68719476736 by omega) hb) (by decide)
 obtain⟨v,w',gy,G',gm⟩:=zAM (P:=P) (ty:=o.type) g9 hd ht hi hz hk eA fh hb gZ eP hn mL gu (by grind);refine⟨v,w',?_,G',gm⟩;rw[←zA5 g9 gZ rfl]at gy;simp[execOp,ho,resolve,invoke,builtin,gy]
end
end Go.Ab

namespace Go.Ab
open Go
def zIY(G:Gh)(nd:List (Nat×List Nat×T)):Value:=
 match nd with
 | [x]=>tG G x.1 x.2.2 x.2.1
 |nd=>.tuple (nd.map fun x=>tG G x.1 x.2.2 x.2.1).toArray
def FnC(P:Program)(f:FuncId)(us:List T)(res:List T)(rws:List (Nat×T)):Prop:=
 ∀(St:Stb)(W:Nat→Prop)(w:World)(G:Gh)(vs:Array Value),vs.size=us.length→
  (∀(i:Nat) u,us[i]? =ud u→vs[i]? =ud (mkV G i u [])∧R St G w i u [])→Mem ⟨St,W,w,0⟩ G w→
  Calls P f vs w fun e w'=> ∃(S':Stb)(G':Gh)(nd:List (Nat×List Nat×T)),zCn St S' W w.heap.size∧e=.returned (zIY G' nd)∧Mem ⟨S',W,w,0⟩ G' w'∧nd.map (·.2.2)=res∧
   (∀x∈nd,R S' G' w' x.1 x.2.2 x.2.1∧us.length≤x.1)∧(nd.map (·.1)).Nodup∧
   ∀i u',(i,u')∈rws→R S' G' w' i u' []∧ ∃u,us[i]? =ud u∧mkV G' i u' []=mkV G i u []
mutual
def wG:T→Bool
 |.ro _=>ug
 |.sl _ xs|.agg xs|.tup xs=>vO xs
 |.ptr t=>wG t
 |.any|.lit _|.same _ _|.addr _ _|.sub _ _ _ _ _=>uf
def vO:List T→Bool
 | []=>uf
 |x::xs=>wG x&&vO xs
end
section
variable {St St':Stb}{G:Gh}{w:World}{s:Nat}
mutual
theorem zNk:(t:T)→ ∀(p:List Nat),wG t=uf→R St G w s t p→R St' G w s t p
 |.ro _,_,h,_=>by simp[wG]at h
 |.sl k xs,p,h,hr=>by
  simp only[wG,R]at h hr ⊢
  rcases hr with hr|⟨b,o0,cap,cs,e,h1,h2,h3,h4,h5,h6,h7,h8⟩
  ·exact .inl hr
  ·exact .inr ⟨b,o0,cap,cs,e,h1,h2,h3,h4,h5,h6,h7,zTn xs p 0 b o0 k h h8⟩
 |.agg xs,p,h,hr|.tup xs,p,h,hr=>by simp only[wG,R]at h hr ⊢;exact zTo xs p 0 h hr
 |.ptr t,p,h,hr=>by
  simp only[wG,R]at h hr ⊢
  obtain⟨b,cs,e,h1,h2,h3,h6,h4,h5⟩:=hr;exact⟨b,cs,e,h1,h2,h3,h6,h4,zNk t _ h h5⟩
 |.any,_,_,hr|.lit _,_,_,hr|.same _ _,_,_,hr|.addr _ _,_,_,hr|.sub _ _ _ _ _,_,_,hr=>by first|(simp only[R];done)|simpa only[R]using hr
theorem zTn:(xs:List T)→ ∀(p:List Nat)(i b o k:Nat),vO xs=uf→RL St G w s xs p i b o k→RL St' G w s xs p i b o k
 | [],_,_,_,_,_,_,_=>by simp only[RL]
 |x::xs,p,i,b,o,k,h,hr=>by
  simp only[vO,J2,RL]at h hr ⊢
  exact⟨hr.1,zNk x _ h.1 hr.2.1,zTn xs p (i+1) b _ k h.2 hr.2.2⟩
theorem zTo:(xs:List T)→ ∀(p:List Nat)(i:Nat),vO xs=uf→RF St G w s xs p i→RF St' G w s xs p i
 | [],_,_,_,_=>by simp only[RF]
 |x::xs,p,i,h,hr=>by
  simp only[vO,J2,RF]at h hr ⊢
  exact⟨zNk x _ h.1 hr.1,zTo xs p (i+1) h.2 hr.2⟩
end
end
section
variable {St St':Stb} (h:∀b x,St b=ud x→St' b=ud x)
 include h
mutual
theorem uU:(t:T)→ ∀(cs:Array Value)(o:Nat),RoC St t cs o→RoC St' t cs o
 |.sl k xs,cs,o,hr=>by
  simp only[RoC]at hr ⊢
  obtain⟨a,c,h1,h2,h3,h4⟩:=hr;refine⟨a,c,h1,h2,h3,fun gj=>?_⟩;obtain⟨b,o',cs',e,fr,h5,h6,h7⟩:=h4 gj;exact⟨b,o',cs',e,fr,h5,h b _ h6,zIZ xs cs' o' k h7⟩
 |.agg xs,cs,o,hr=>by simp only[RoC]at hr ⊢;exact zJa xs cs o hr
 |.ptr t,cs,o,hr=>by
  simp only[RoC]at hr ⊢
  obtain⟨b,o',cs',e,fr,h5,h6,h7⟩:=hr;exact⟨b,o',cs',e,fr,h5,h b _ h6,uU t cs' o' h7⟩
 |.any,_,_,hr|.lit _,_,_,hr|.ro _,_,_,hr|.same _ _,_,_,hr|.addr _ _,_,_,hr|.sub _ _ _ _ _,_,_,hr|.tup _,_,_,hr=>by first|(simp only[RoC]at hr;done)|simpa only[RoC]using hr
theorem zIZ:(xs:List T)→ ∀(cs:Array Value)(o k:Nat),RoL St xs cs o k→RoL St' xs cs o k
 | [],_,_,_,_=>by have _:=h;simp only[RoL]
 |x::xs,cs,o,k,hr=>by simp only[RoL]at hr ⊢;exact⟨uU x cs o hr.1,zIZ xs cs _ k hr.2⟩
theorem zJa:(xs:List T)→ ∀(cs:Array Value)(o:Nat),RoF St xs cs o→RoF St' xs cs o
 | [],_,_,_=>by have _:=h;simp only[RoF]
 |x::xs,cs,o,hr=>by simp only[RoF]at hr ⊢;exact⟨uU x cs o hr.1,zJa xs cs _ hr.2⟩
end
end
section
variable {St St':Stb}{G:Gh}{w:World}{s:Nat} (h:∀b x,St b=ud x→St' b=ud x)
 include h
mutual
theorem zHV:(t:T)→ ∀(p:List Nat),R St G w s t p→R St' G w s t p
 |.ro t,_,hr=>by simp only[R]at hr ⊢;exact uU h t _ _ hr
 |.sl k xs,p,hr=>by
  simp only[R]at hr ⊢
  rcases hr with hr|⟨b,o0,cap,cs,e,h1,h2,h3,h4,h5,h6,h7,h8⟩
  ·exact .inl hr
  ·exact .inr ⟨b,o0,cap,cs,e,h1,h2,h3,h4,h5,h6,h7,zMj xs p 0 b o0 k h8⟩
 |.agg xs,p,hr|.tup xs,p,hr=>by simp only[R]at hr ⊢;exact zMk xs p 0 hr
 |.ptr t,p,hr=>by
  simp only[R]at hr ⊢
  obtain⟨b,cs,e,h1,h2,h3,h6,h4,h5⟩:=hr;exact⟨b,cs,e,h1,h2,h3,h6,h4,zHV t _ h5⟩
 |.any,_,hr|.lit _,_,hr|.same _ _,_,hr|.addr _ _,_,hr|.sub _ _ _ _ _,_,hr=>by first|(simp only[R];done)|simpa only[R]using hr
theorem zMj:(xs:List T)→ ∀(p:List Nat)(i b o k:Nat),RL St G w s xs p i b o k→RL St' G w s xs p i b o k
 | [],_,_,_,_,_,_=>by have _:=h;simp only[RL]
 |x::xs,p,i,b,o,k,hr=>by simp only[RL]at hr ⊢;exact⟨hr.1,zHV x _ hr.2.1,zMj xs p (i+1) b _ k hr.2.2⟩
theorem zMk:(xs:List T)→ ∀(p:List Nat)(i:Nat),RF St G w s xs p i→RF St' G w s xs p i
 | [],_,_,_=>by have _:=h;simp only[RF]
 |x::xs,p,i,hr=>by simp only[RF]at hr ⊢;exact⟨zHV x _ hr.1,zMk xs p (i+1) hr.2⟩
end
end
mutual
def strip:T→T
 |.lit v=>.lit v
 |.ro u=>if u.single then u else .any
 |.sl k xs=>.sl k (wC xs)
 |.agg xs=>.agg (wC xs)
 |.ptr t=>.ptr (strip t)
 |.any|.same _ _|.addr _ _|.sub _ _ _ _ _|.tup _=>.any
def wC:List T→List T
 | []=>[]
 |x::xs=>strip x::wC xs
end
theorem qT:(xs:List T)→(wC xs).length=xs.length
 | []=>rfl
 |x::xs=>by simp[wC,qT xs]
mutual
theorem zCI:(t:T)→(strip t).size=t.size
 |.agg xs=>by simp only[strip,T.size];exact zE3 xs
 |.ro u=>by
  simp only[strip];split
  ·rename_i h;cases u<;>simp[T.single]at h<;>simp[T.size]
  ·simp[T.size]
 |.lit _|.sl _ _|.ptr _|.any|.same _ _|.addr _ _|.sub _ _ _ _ _|.tup _=>by simp[strip,T.size]
theorem zE3:(xs:List T)→T.sizes (wC xs)=T.sizes xs
 | []=>rfl
 |x::xs=>by simp only[wC,T.sizes,zCI x,zE3 xs]
end
theorem sM{St:Stb}{u:T}(hu:u.single=uf){v:Value}{cs:Array Value}{o:Nat}(h:RoC St u #[v] 0)(hc:cs[o]? =ud v):RoC St u cs o:=by
 cases u<;>simp[T.single]at hu<;>simp only[RoC]at h ⊢ <;>simp at h<;>first
  |exact⟨v,hc,h⟩
  |(obtain⟨rfl,h2⟩:=h;exact⟨hc,h2⟩)
  |(obtain⟨a,c,rfl,h2⟩:=h;exact⟨a,c,hc,by simpa using h2⟩)
  |(obtain⟨b,o',rfl,h2⟩:=h;obtain⟨cs',⟨e,f1,f2,h3⟩,h4⟩:=h2;exact⟨b,o',cs',e,(f1,f2),hc,h3,h4⟩)
section
variable {St Sc:Stb}{G:Gh}{w:World}{s:Nat} (gu:∀s p,(G.hd s p).oneCell'=uf) (hH:∀b x,St b=ud x→Sc b=ud x) (hJ:∀b,(∃y,G.ow b=ud (s,y))→Sc b=w.heap[b]?)
 include gu hH hJ
mutual
theorem frz:(t:T)→ ∀(p:List Nat)(b o:Nat)(cs:Array Value)(e:TypeId)(fr:Nat×Nat),w.heap[b]? =ud (.cells cs e fr)→Loc G w s t p b o→R St G w s t p→RoC Sc (strip t) cs o
 |.agg xs,p,b,o,cs,e,fr,hb,hl,hr=>by simp only[Loc,R,strip,RoC]at hl hr ⊢;exact zVg xs p 0 b o cs e fr hb hl.2 hr
 |.tup _,_,_,_,_,_,_,_,hl,_=>by have _:=hJ;simp only[Loc]at hl
 |.any,p,b,o,cs,e,fr,hb,hl,hr|.same _ _,p,b,o,cs,e,fr,hb,hl,hr|.addr _ _,p,b,o,cs,e,fr,hb,hl,hr|.sub _ _ _ _ _,p,b,o,cs,e,fr,hb,hl,hr=>by have h1:=(wJ rfl hl).2.2;simp only[yE,World.cell?,hb]at h1;simp only[strip,RoC];exact⟨_,by simpa using h1,gu s p⟩
 |.lit v,p,b,o,cs,e,fr,hb,hl,hr=>by
  have h1:=(wJ rfl hl).2.2;simp only[yE,World.cell?,hb]at h1;simp only[strip,RoC,R]at hr ⊢
  exact⟨by rw[←hr];simpa using h1,by rw[←hr];exact gu s p⟩
 |.ro u,p,b,o,cs,e,fr,hb,hl,hr=>by
  have h1:=(wJ rfl hl).2.2;simp only[yE,World.cell?,hb]at h1;simp only[strip,R]at hr ⊢
  split
  ·rename_i hu
   exact sM hu (uU hH u _ _ hr) (by simpa using h1)
  ·simp only[RoC];exact⟨_,by simpa using h1,gu s p⟩
 |.sl k xs,p,b,o,cs,e,fr,hb,hl,hr=>by have h1:=(wJ rfl hl).2.2;simp only[yE,World.cell?,hb]at h1;exact sM rfl (zJb (.sl k xs) p rfl hr) (by simpa using h1)
 |.ptr t,p,b,o,cs,e,fr,hb,hl,hr=>by have h1:=(wJ rfl hl).2.2;simp only[yE,World.cell?,hb]at h1;exact sM rfl (zJb (.ptr t) p rfl hr) (by simpa using h1)
theorem zVg:(xs:List T)→ ∀(p:List Nat)(j b o:Nat)(cs:Array Value)(e:TypeId)(fr:Nat×Nat),w.heap[b]? =ud (.cells cs e fr)→wQ G w s xs p j b o→RF St G w s xs p j→RoF Sc (wC xs) cs o
 | [],_,_,_,_,_,_,_,_,_,_=>by have _:=gu;have _:=hH;have _:=hJ;simp only[wC,RoF]
 |x::xs,p,j,b,o,cs,e,fr,hb,hl,hr=>by
  simp only[wQ,RF,wC,RoF]at hl hr ⊢
  exact⟨frz x _ b o cs e fr hb hl.1 hr.1,by rw[zCI];exact zVg xs p (j+1) b _ cs e fr hb hl.2 hr.2⟩
theorem zVh:(xs:List T)→ ∀(p:List Nat)(i b o k:Nat)(cs:Array Value)(e:TypeId)(fr:Nat×Nat),w.heap[b]? =ud (.cells cs e fr)→RL St G w s xs p i b o k→RoL Sc (wC xs) cs o k
 | [],_,_,_,_,_,_,_,_,_,_=>by have _:=gu;have _:=hH;have _:=hJ;simp only[wC,RoL]
 |x::xs,p,i,b,o,k,cs,e,fr,hb,hr=>by
  simp only[RL,wC,RoL]at hr ⊢
  exact⟨frz x _ b o cs e fr hb hr.1.1 hr.2.1,zVh xs p (i+1) b _ k cs e fr hb hr.2.2⟩
theorem zJb:(t:T)→ ∀(p:List Nat),t.single=uf→R St G w s t p→RoC Sc (strip t) #[G.hd s p] 0
 |.agg _,_,h,_|.tup _,_,h,_=>by simp[T.single]at h
 |.any,p,_,_|.same _ _,p,_,_|.addr _ _,p,_,_|.sub _ _ _ _ _,p,_,_=>by simp only[strip,RoC];exact⟨_,by simp,gu s p⟩
 |.lit v,p,_,hr=>by simp only[strip,RoC,R]at hr ⊢;exact⟨by simp[hr],by rw[←hr];exact gu s p⟩
 |.ro u,p,_,hr=>by
  simp only[strip,R]at hr ⊢
  split
  ·exact uU hH u _ _ hr
  ·simp only[RoC];exact⟨_,by simp,gu s p⟩
 |.sl k xs,p,_,hr=>by
  simp only[strip,R,RoC]at hr ⊢
  rw[qT];rcases hr with⟨rfl,a,h1⟩|⟨b,o0,cap,cs,e,h1,h2,h3,h4,h5,h6,h7,h8⟩
  ·exact⟨a,0,by simp[h1],by simp,by simp[maxLen],fun h=>by simp[wC]at h⟩
  ·exact⟨ud ⟨b,o0,ue⟩,cap,by simp[h1],h3,h4,fun _=>⟨b,o0,cs,e,(0,0),rfl,by rw[hJ b ⟨_,h6⟩];exact h2,zVh xs p 0 b o0 k cs e (0,0) h2 h8⟩⟩
 |.ptr t,p,_,hr=>by
  simp only[strip,R,RoC]at hr ⊢
  obtain⟨b,cs,e,h1,h2,h3,h6,h4,h5⟩:=hr;exact⟨b,0,cs,e,(0,0),by simp[h1],by rw[hJ b ⟨_,h6⟩];exact h2,frz t _ b 0 cs e (0,0) h2 h4 h5⟩
end
end
end Go.Ab

namespace Go.Ab
open Go
mutual
def clo(E:Env):T→T
 |.agg ts=>.agg (zAN E ts)
 |.lit v=>.lit v
 |.ro u=>.ro u
 |.same r q=>match sF E 4 r q with
  |some (_,_,.ro u)=>.ro u
  |some (_,_,.lit v)=>.lit v
  |some (_,_,t)=>if t.single then .ro (strip t)else .any
  |none=>.any
 |.sub r q k lo hi=>match sF E 4 r q with
  |some (_,_,.sl k' xs)=>if k=k'∧lo≤hi∧hi≤xs.length then .ro (.sl k (((wC xs).drop lo).take (hi-lo)))else .any
  |_=>.any
 |.sl k xs=>.ro (strip (.sl k xs))
 |.ptr t=>.ro (strip (.ptr t))
 |.any|.addr _ _|.tup _=>.any
def zAN(E:Env):List T→List T
 | []=>[]
 |x::xs=>clo E x::zAN E xs
end
mutual
def tV(E:Env)(rs:List Nat)(s:Nat):T→Bool
 |.agg ts=>kN E rs s ts
 |.same r q|.sub r q _ _ _=>match sF E 4 r q with
  |some (r',_,_)=> !rs.contains r'
  |none=>uf
 |.sl _ _|.ptr _=> !rs.contains s
 |.lit _|.ro _|.any|.addr _ _=>uf
 |.tup _=>ug
def kN(E:Env)(rs:List Nat)(s:Nat):List T→Bool
 | []=>uf
 |x::xs=>tV E rs s x&&kN E rs s xs
end
theorem zRO{St:Stb}{k:Nat}{xs:List T}{v:Value}{lo hi:Nat}(h:RoC St (.sl k xs) #[v] 0)(h1:lo≤hi)(h2:hi≤xs.length):RoC St (.sl k ((xs.drop lo).take (hi-lo))) #[zAw v k lo hi] 0:=by
 simp only[RoC]at h ⊢
 obtain⟨a',c,g4,g5,g6,g7⟩:=h;have hv:v=.slice a' xs.length c:=by grind
 subst hv;have gg:((xs.drop lo).take (hi-lo)).length=hi-lo:=by simp;omega
 refine⟨if c=lo then a' else a'.map (·.add (lo*k)),c-lo,by grind[zAw],by omega,by omega,?_⟩;intro gj;have mA:xs≠[]:=by grind
 obtain⟨b,o',cs',e',fr,rfl,h3,h4⟩:=g7 mA;have gI:c≠lo:=by grind
 grind[vM,zFl,zFk]
section
variable {Γ:Ctx}{E:Env}{G Gc:Gh}{a:Act}{w:World}{Sc:Stb}{rs:List Nat}{s i:Nat} (g9:Rep Γ E G a.tmps w) (hH:∀b x,Γ.St b=ud x→Sc b=ud x) (hJ:∀r,r∉rs→ ∀b,(∃y,G.ow b=ud (r,y))→Sc b=w.heap[b]?) (gD:∀z,Gc.hd i z=G.hd s z)
 include g9 hH hJ gD
mutual
theorem zTp:(t:T)→ ∀(p:List Nat),tV E rs s t=uf→R Γ.St G w s t p→R Sc Gc w i (clo E t) p
 |.agg ts,p,h,hr=>by simp only[tV,clo,R]at h hr ⊢;exact zO8 ts p 0 h hr
 |.tup _,_,h,_=>by grind[tV]
 |.lit v,p,_,hr=>by simp only[clo,R]at hr ⊢;grind
 |.ro u,p,_,hr=>by simp only[clo,R]at hr ⊢;grind[uU]
 |.any,_,_,_|.addr _ _,_,_,_=>by simp only[clo,R]
 |.sl k xs,p,h,hr=>by
  simp only[tV,Hp,Lg,decide_eq_false_iff_not]at h;have:=zJb (fun s p=>g9.mem.one s p) hH (hJ s h) (.sl k xs) p rfl hr;simp only[clo,R]
  grind
 |.ptr t,p,h,hr=>by
  simp only[tV,Hp,Lg,decide_eq_false_iff_not]at h;have:=zJb (fun s p=>g9.mem.one s p) hH (hJ s h) (.ptr t) p rfl hr;simp only[clo,R]
  grind
 |.same r q,p,h,hr=>by
  simp only[tV,clo,R]at h hr ⊢
  cases hf:sF E 4 r q with
  |none=>simp only[R]
  |some x=>
   obtain⟨r',q',t⟩:=x;simp only[hf,Hp,Lg,decide_eq_false_iff_not]at h;obtain⟨h1,h2,_⟩:=zBR g9 4 r q r' q' t hf;have h3:Gc.hd i p=G.hd r' q':=by grind
   by_cases hs:t.single=uf
   ·have h4:=zJb (fun s p=>g9.mem.one s p) hH (hJ r' h) t q' hs h1
    cases t with
    |ro u=>simp only[R]at h1 ⊢;grind[uU]
    |lit v=>simp only[R]at h1 ⊢;grind
    |agg _=>grind[T.single]
    |tup _=>grind[T.single]
    |_=>simp only[hs,if_true,R];grind
   ·cases t<;>simp[T.single]at hs<;>simp[T.single,R]
 |.sub r q k lo hi,p,h,hr=>by
  simp only[tV,clo,R]at h hr ⊢
  cases hf:sF E 4 r q with
  |none=>simp only[R]
  |some x=>
   obtain⟨r',q',t⟩:=x;simp only[hf,Hp,Lg,decide_eq_false_iff_not]at h;obtain⟨h1,h2,_⟩:=zBR g9 4 r q r' q' t hf;cases t with
   |sl k' xs=>
    simp only[];split
    ·rename_i hc
     obtain⟨rfl,cK,fb⟩:=hc;have h4:=zJb (fun s p=>g9.mem.one s p) hH (hJ r' h) (.sl k xs) q' rfl h1;simp only[strip]at h4;simp only[R]
     grind[zRO,qT]
    ·simp only[R]
   |_=>simp only[R]
theorem zO8:(ts:List T)→ ∀(p:List Nat)(j:Nat),kN E rs s ts=uf→RF Γ.St G w s ts p j→RF Sc Gc w i (zAN E ts) p j
 | [],_,_,_,_=>by have _:=g9;have _:=hH;have _:=hJ;have _:=gD;simp only[zAN,RF]
 |x::xs,p,j,h,hr=>by
  simp only[kN,J2,zAN,RF]at h hr ⊢
  exact⟨zTp x _ h.1 hr.1,zO8 xs p (j+1) h.2 hr.2⟩
end
end
section
variable {E:Env}{G Gc:Gh}{rs:List Nat}{s i:Nat}
theorem zFy(t:T)(h:t.single=uf):(clo E t).single=uf:=by cases t<;>simp[T.single]at h<;>simp only[clo]<;>first|rfl|(split<;>first|rfl|(split<;>rfl))
mutual
theorem zO9(gD:∀z,Gc.hd i z=G.hd s z):(t:T)→ ∀(p:List Nat),tV E rs s t=uf→vals Gc i (clo E t) p=vals G s t p
 |.agg ts,p,h=>by simp only[tV,clo,vals]at h ⊢;exact zDU gD ts p 0 h
 |.tup _,_,h=>by grind[tV]
 |.lit _,p,_|.ro _,p,_|.any,p,_|.addr _ _,p,_|.sl _ _,p,_|.ptr _,p,_|.same _ _,p,_|.sub _ _ _ _ _,p,_=>by
  have h1:∀u:T,u.single=uf→vals Gc i u p=[G.hd s p]:=fun u hu=>by cases u<;>simp[T.single]at hu<;>simp[vals,gD]
  rw[h1 _ (zFy _ rfl)];simp[vals]
theorem zDU(gD:∀z,Gc.hd i z=G.hd s z):(ts:List T)→ ∀(p:List Nat)(j:Nat),kN E rs s ts=uf→zW Gc i (zAN E ts) p j=zW G s ts p j
 | [],_,_,_=>by rfl
 |x::xs,p,j,h=>by simp only[kN,J2]at h;simp only[zAN,zW];rw[zO9 gD x _ h.1,zDU gD xs p _ h.2]
end
theorem zHW(gD:∀z,Gc.hd i z=G.hd s z)(t:T)(h:tV E rs s t=uf):mkV Gc i (clo E t) []=mkV G s t []:=by
 cases t with
 |agg ts=>grind[tV,clo,mkV,zDU]
 |tup _=>grind[tV]
 |_=>rw[yU (zFy _ rfl),yU rfl,gD]
end
end Go.Ab
