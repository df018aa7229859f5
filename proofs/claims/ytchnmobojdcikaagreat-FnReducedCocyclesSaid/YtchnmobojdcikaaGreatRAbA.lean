/- x -/
import Derived.Orders
import Derived.Laws.AppendOwn
import Derived.Laws.MakeOwn
import Derived.Great.BuildSlice
import Derived.Laws.Tables
open List renaming replicate→J1,length_append→J7,append_nil→J9,length_replicate→Ja,mem_cons→Jb,length_cons→Jd,mem_append→Jf,append_assoc→Jh,getElem?_append_right→Ji,getElem?_eq_some_iff→Jm,mem_map→Jn,map_cons→Js,replicate_succ→Jt,nil_append→Jv,getElem?_map→Jx,getElem?_append_left→K0,eq_nil_of_length_eq_zero→K6,reverse_reverse→K8,length_nil→K9,all_eq_true→Ka,cons_append→Kc,length_take→Kf,getElem?_append→Ko,ext_getElem?→Kw,nodup_cons→L5,set_cons_succ→L7,flatMap_cons→L9,take_succ_cons→Lf,mem_range→Ll,mem_of_getElem?→Lq,getElem?_drop→Lt,set_cons_zero→Lw,length_set→Lz,contains_eq_mem→H3,reverse_nil→Hp,reverse_cons→Hx,foldl_cons→Gb,getElem?_take_of_lt→Gk,flatMap_append→Gm,map_nil→Gy,drop_eq_getElem_cons→Gz,map_take→Ue,reverse_append→Qa,not_mem_nil→Qh,size_toArray→Qr,take_append→Qz,isEmpty_iff→Ja1,cons→Ja8,getElem?_cons_succ→Jai
open Bool renaming and_eq_true->J3,false_eq_true->Hk,not_eq_true'->Gj,false_and->Jaa
open Int renaming toNat_natCast->J6,natCast_mul->Uh
open Nat renaming zero_add->Jc,le_refl->Je,lt_or_ge->Jk,mul_le_mul->Jp,mul_le_mul_right->Jw,succ_mul->K7,add_assoc->H7,min_eq_left->Hl,mod_lt->Hn,le_trans->Hs,add_mul->Ub,lt_of_lt_of_le->Qp,le_mul_of_pos_right->Qq,add_zero->Qy
open Array renaming getElem?_setIfInBounds->Jj,length_toList->Kh,getD_eq_getD_getElem?->Kj,getElem?_toList->Ks,getElem?_eq_some_iff->G3,range->Jaf,ext'->Jam
open Option renaming isSome_none->U6,map_none->Ja4
open Prod renaming mk->Ja3
open Option renaming some->iW,none->iY
open Bool renaming true->iZ,false->ja
theorem jb{p:Prop}[h:Decidable p](a:¬p):decide p=false:=decide_eq_false a
theorem jc{p:Prop}[h:Decidable p](a:p:=by omega):decide p=true:=decide_eq_true a
namespace Go.Ab
open Go
inductive T where
 |any
 |lit (v:Value)
 |ro (t:T)
 |same (r:Nat) (p:List Nat)
 |addr (r:Nat) (p:List Nat)
 |sub (r:Nat) (p:List Nat) (k lo hi:Nat)
 |sl (k:Nat) (xs:List T)
 |agg (xs:List T)
 |ptr (t:T)
 |tup (xs:List T)
 deriving Inhabited
abbrev Stb:=Nat->Option Obj
mutual
def T.size:T->Nat
 |.agg xs=>T.sizes xs
 |_=>1
def T.sizes:List T->Nat
 | []=>0
 |x::xs=>x.size+T.sizes xs
end
mutual
def RoC(St:Stb):T->Array Value->Nat->Prop
 |.any,cs,o=> ∃v,cs[o]? =iW v/\v.oneCell'=iZ
 |.lit v,cs,o=>cs[o]? =iW v/\v.oneCell'=iZ
 |.ro u,cs,o=> ∃f vs,cs[o]? =iW (.func (.func f) #[] vs)/\vs.size+1=u.size/\RoC St u (#[.func (.func f) #[] #[]]++vs) 0
 |.sl k xs,cs,o=> ∃a c,cs[o]? =iW (.slice a xs.length c)/\xs.length<=c/\c<=maxLen/\
   (xs≠[]-> ∃b o' cs' e fr,a=iW ⟨b,o',iY⟩/\St b=iW (.cells cs' e fr)/\RoL St xs cs' o' k)
 |.agg xs,cs,o=>RoF St xs cs o
 |.ptr t,cs,o=> ∃b o' cs' e fr,cs[o]? =iW (.pointer (iW ⟨b,o',iY⟩))/\St b=iW (.cells cs' e fr)/\RoC St t cs' o'
 |.same _ _,_,_=>False
 |.addr _ _,_,_=>False
 |.sub _ _ _ _ _,_,_=>False
 |.tup _,_,_=>False
def RoL(St:Stb):List T->Array Value->Nat->Nat->Prop
 | [],_,_,_=>True
 |x::xs,cs,o,k=>RoC St x cs o/\RoL St xs cs (o+k) k
def RoF(St:Stb):List T->Array Value->Nat->Prop
 | [],_,_=>True
 |x::xs,cs,o=>RoC St x cs o/\RoF St xs cs (o+x.size)
end
structure Gh where
 hd:Nat->List Nat->Value
 ad:Nat->List Nat->Addr
 lb:Nat->Nat->Option (Bool×Nat×List Nat)
 ow:Nat->Option (Nat×List Nat)
def yL(w:World)(b o:Nat):Option Value:=w.cell? ⟨b,o,iY⟩
mutual
def Loc(G:Gh)(w:World)(s:Nat):T->List Nat->Nat->Nat->Prop
 |.agg xs,p,b,o=>G.ad s p=⟨b,o,iY⟩/\vO G w s xs p 0 b o
 |.tup _,_,_,_=>False
 |.any,p,b,o|.lit _,p,b,o|.ro _,p,b,o|.same _ _,p,b,o|.addr _ _,p,b,o|.sub _ _ _ _ _,p,b,o|.sl _ _,p,b,o|.ptr _,p,b,o=>
  G.ad s p=⟨b,o,iY⟩/\G.lb b o=iW (ja,s,p)/\yL w b o=iW (G.hd s p)
def vO(G:Gh)(w:World)(s:Nat):List T->List Nat->Nat->Nat->Nat->Prop
 | [],_,_,_,_=>True
 |x::xs,p,j,b,o=>Loc G w s x (j::p) b o/\vO G w s xs p (j+1) b (o+x.size)
end
def zB3(v:Value)(k lo hi:Nat):Value:=
 match v with
 |.slice a _ c=>.slice (if c=lo then a else a.map (·.add (lo*k))) (hi-lo) (c-lo)
 |v=>v
mutual
def R(St:Stb)(G:Gh)(w:World)(s:Nat):T->List Nat->Prop
 |.any,_=>True
 |.lit v,p=>G.hd s p=v
 |.ro t,p=>RoC St t #[G.hd s p] 0
 |.same r q,p=>G.hd s p=G.hd r q
 |.addr r q,p=>G.hd s p=.pointer (iW (G.ad r q))
 |.sub r q k lo hi,p=>G.hd s p=zB3 (G.hd r q) k lo hi
 |.sl k xs,p=>(xs=[]/\ ∃a,G.hd s p=.slice a 0 0)\/ ∃b o0 cap cs e,G.hd s p=.slice (iW ⟨b,o0,iY⟩) xs.length cap/\
   w.heap[b]? =iW (.cells cs e (0,0))/\xs.length<=cap/\cap<=maxLen/\o0+cap*k<=cs.size/\G.ow b=iW (s,p)/\
   (∀o,o0+xs.length*k<=o->o<o0+cap*k->G.lb b o=iW (iZ,s,p))/\RL St G w s xs p 0 b o0 k
 |.agg xs,p=>RF St G w s xs p 0
 |.ptr t,p=> ∃b cs e,G.hd s p=.pointer (iW ⟨b,0,iY⟩)/\w.heap[b]? =iW (.cells cs e (0,0))/\cs.size=t.size/\G.ow b=iW (s,p)/\
   Loc G w s t (0::p) b 0/\R St G w s t (0::p)
 |.tup xs,p=>RF St G w s xs p 0
def RL(St:Stb)(G:Gh)(w:World)(s:Nat):List T->List Nat->Nat->Nat->Nat->Nat->Prop
 | [],_,_,_,_,_=>True
 |x::xs,p,i,b,o,k=>(Loc G w s x (i::p) b o/\x.size=k)/\R St G w s x (i::p)/\RL St G w s xs p (i+1) b (o+k) k
def RF(St:Stb)(G:Gh)(w:World)(s:Nat):List T->List Nat->Nat->Prop
 | [],_,_=>True
 |x::xs,p,j=>R St G w s x (j::p)/\RF St G w s xs p (j+1)
end
mutual
def yS(φ:Nat->List Nat->Prop):T->Prop
 |.same r p|.addr r p|.sub r p _ _ _=>φ r p
 |.sl _ xs|.agg xs|.tup xs=>xN φ xs
 |.ptr t=>yS φ t
 |.any|.lit _|.ro _=>True
def xN(φ:Nat->List Nat->Prop):List T->Prop
 | []=>True
 |x::xs=>yS φ x/\xN φ xs
end
mutual
theorem yS.mono{φ ψ:Nat->List Nat->Prop}(h:∀r p,φ r p->ψ r p):(t:T)->yS φ t->yS ψ t
 |.same _ _,ht|.addr _ _,ht|.sub _ _ _ _ _,ht=>h _ _ ht
 |.sl _ xs,ht|.agg xs,ht|.tup xs,ht=>by simp only[yS]at ht ⊢;exact xN.mono h xs ht
 |.ptr t,ht=>by simp only[yS]at ht ⊢;exact yS.mono h t ht
 |.any,_|.lit _,_|.ro _,_=>by simp[yS]
theorem xN.mono{φ ψ:Nat->List Nat->Prop}(h:∀r p,φ r p->ψ r p):(xs:List T)->xN φ xs->xN ψ xs
 | [],_=>trivial
 |x::xs,hx=>⟨yS.mono h x hx.1,xN.mono h xs hx.2⟩
end
mutual
theorem yS.triv{φ:Nat->List Nat->Prop}(h:∀r p,φ r p):(t:T)->yS φ t
 |.same _ _|.addr _ _|.sub _ _ _ _ _=>by simp only[yS];exact h _ _
 |.sl _ xs|.agg xs|.tup xs=>by simp only[yS];exact xN.triv h xs
 |.ptr t=>by simp only[yS];exact yS.triv h t
 |.any|.lit _|.ro _=>by simp only[yS]
theorem xN.triv{φ:Nat->List Nat->Prop}(h:∀r p,φ r p):(xs:List T)->xN φ xs
 | []=>by simp only[xN]
 |x::xs=>by simp only[xN];exact⟨yS.triv h x,xN.triv h xs⟩
end
abbrev yA(t:T):Prop:=yS (fun _ _=>False) t
abbrev yZ(xs:List T):Prop:=xN (fun _ _=>False) xs
def Blk(w w':World):Prop:=∀(b:Nat) cs e,w.heap[b]? =iW (.cells cs e (0,0))-> ∃cs',w'.heap[b]? =iW (.cells cs' e (0,0))/\cs'.size=cs.size
structure MovesE (G:Gh) (w:World) (G':Gh) (w':World) (s:Nat) (p:List Nat) (s':Nat) (p':List Nat):Prop where
 hd:∀z,G'.hd s' (z++p')=G.hd s (z++p)
 ad:∀z,z≠[]->G'.ad s' (z++p')=G.ad s (z++p)
 lb:∀b o f z,z≠[]->(∃y,G.ow b=iW (s,y))->G.lb b o=iW (f,s,z++p)->G'.lb b o=iW (f,s',z++p')/\yL w' b o=yL w b o
 ow:∀b z,z≠[]->G.ow b=iW (s,z++p)->G'.ow b=iW (s',z++p')
 blk:Blk w w'
structure zJE (G:Gh) (w:World) (G':Gh) (w':World) (s:Nat) (p:List Nat) (s':Nat) (p':List Nat):Prop extends MovesE G w G' w' s p s' p' where
 sp:∀b o,(∃y,G.ow b=iW (s,y))->G.lb b o=iW (iZ,s,p)->G'.lb b o=iW (iZ,s',p')/\yL w' b o=yL w b o
 ow0:∀b,G.ow b=iW (s,p)->G'.ow b=iW (s',p')
def zBj(G G':Gh)(r:Nat)(p:List Nat):Prop:=G'.hd r p=G.hd r p/\G'.ad r p=G.ad r p
section
variable {St:Stb}{G:Gh}{w:World}{G':Gh}{w':World}{s:Nat}{p:List Nat}{s':Nat}{p':List Nat}
mutual
theorem zFl(hm:MovesE G w G' w' s p s' p'):(t:T)-> ∀(z:List Nat)(b o:Nat),z≠[]->(∃y,G.ow b=iW (s,y))->Loc G w s t (z++p) b o->Loc G' w' s' t (z++p') b o
 |.agg xs,z,b,o,hz,ep,h=>by
  simp only[Loc]at h ⊢
  exact⟨(hm.ad z hz).trans h.1,zJF hm xs z 0 b o ep h.2⟩
 |.any,z,b,o,hz,ep,h|.lit _,z,b,o,hz,ep,h|.ro _,z,b,o,hz,ep,h|.same _ _,z,b,o,hz,ep,h|.addr _ _,z,b,o,hz,ep,h|.sub _ _ _ _ _,z,b,o,hz,ep,h|.sl _ _,z,b,o,hz,ep,h|.ptr _,z,b,o,hz,ep,h=>by
  simp only[Loc]at h ⊢
  obtain⟨h1,h2,h3⟩:=h;have hl:=hm.lb b o ja z hz ep h2;exact⟨(hm.ad z hz).trans h1,hl.1,by rw[hl.2,h3,hm.hd]⟩
 |.tup _,_,_,_,_,_,h=>by simp only[Loc]at h
theorem zJF(hm:MovesE G w G' w' s p s' p'):(xs:List T)-> ∀(z:List Nat)(j b o:Nat),(∃y,G.ow b=iW (s,y))->vO G w s xs (z++p) j b o->vO G' w' s' xs (z++p') j b o
 | [],_,_,_,_,_,_=>by simp only[vO]
 |x::xs,z,j,b,o,ep,h=>by
  simp only[vO]at h ⊢
  exact⟨zFl hm x (j::z) b o (by simp) ep h.1,zJF hm xs z (j+1) b _ ep h.2⟩
end
mutual
theorem zFm(hm:MovesE G w G' w' s p s' p'):(t:T)-> ∀(z:List Nat),z≠[]->yS (zBj G G') t->R St G w s t (z++p)->R St G' w' s' t (z++p')
 |.any,_,_,_,_=>by simp only[R]
 |.lit _,z,_,_,h=>by simp only[R]at h ⊢;rw[hm.hd];exact h
 |.ro _,z,_,_,h=>by simp only[R]at h ⊢;rw[hm.hd];exact h
 |.same r q,z,_,hk,h=>by simp only[R]at h ⊢;rw[hm.hd,hk.1];exact h
 |.addr r q,z,_,hk,h=>by simp only[R]at h ⊢;rw[hm.hd,hk.2];exact h
 |.sub r q k lo hi,z,_,hk,h=>by simp only[R]at h ⊢;rw[hm.hd,hk.1];exact h
 |.agg xs,z,_,hk,h=>by simp only[R,yS]at h hk ⊢;exact zFn hm xs z 0 hk h
 |.tup xs,z,_,hk,h=>by simp only[R,yS]at h hk ⊢;exact zFn hm xs z 0 hk h
 |.sl k xs,z,hz,hk,h=>by
  simp only[R,yS]at h hk ⊢
  rw[hm.hd];rcases h with h|⟨b,o0,cap,cs,e,h1,h2,h3,h4,h5,h6,h7,h8⟩
  ·exact .inl h
  ·obtain⟨cs',cm,gE⟩:=hm.blk b cs e h2
   exact .inr ⟨b,o0,cap,cs',e,h1,cm,h3,h4,by omega,hm.ow b z hz h6,fun o ho pj=>(hm.lb b o iZ z hz ⟨_,h6⟩ (h7 o ho (by omega))).1,zKC hm xs z 0 b o0 k ⟨_,h6⟩ hk h8⟩
 |.ptr t,z,hz,hk,h=>by
  simp only[R,yS]at h hk ⊢
  rw[hm.hd];obtain⟨b,cs,e,h1,h2,h3,h6,h4,h5⟩:=h;obtain⟨cs',cm,gE⟩:=hm.blk b cs e h2;exact⟨b,cs',e,h1,cm,by omega,hm.ow b z hz h6,zFl hm t (0::z) b 0 (by simp) ⟨_,h6⟩ h4,zFm hm t (0::z) (by simp) hk h5⟩
theorem zKC(hm:MovesE G w G' w' s p s' p'):(xs:List T)-> ∀(z:List Nat)(i b o k:Nat),(∃y,G.ow b=iW (s,y))->xN (zBj G G') xs->RL St G w s xs (z++p) i b o k->RL St G' w' s' xs (z++p') i b o k
 | [],_,_,_,_,_,_,_,_=>by simp only[RL]
 |x::xs,z,i,b,o,k,ep,hk,h=>by
  simp only[RL,xN]at h hk ⊢
  exact⟨⟨zFl hm x (i::z) b o (by simp) ep h.1.1,h.1.2⟩,zFm hm x (i::z) (by simp) hk.1 h.2.1,zKC hm xs z (i+1) b _ k ep hk.2 h.2.2⟩
theorem zFn(hm:MovesE G w G' w' s p s' p'):(xs:List T)-> ∀(z:List Nat)(j:Nat),xN (zBj G G') xs->RF St G w s xs (z++p) j->RF St G' w' s' xs (z++p') j
 | [],_,_,_,_=>by simp only[RF]
 |x::xs,z,j,hk,h=>by
  simp only[RF,xN]at h hk ⊢
  exact⟨zFm hm x (j::z) (by simp) hk.1 h.1,zFn hm xs z (j+1) hk.2 h.2⟩
end
theorem zBp(hm:zJE G w G' w' s p s' p')(t:T)(hk:yS (zBj G G') t)(h:R St G w s t p):R St G' w' s' t p':=by
 have hd0:G'.hd s' p'=G.hd s p:=by simpa using hm.hd []
 cases t with
 |any=>simp only[R]
 |lit _=>simp only[R]at h ⊢;rw[hd0];exact h
 |ro _=>simp only[R]at h ⊢;rw[hd0];exact h
 |same r q=>simp only[R]at h ⊢;rw[hd0,hk.1];exact h
 |addr r q=>simp only[R]at h ⊢;rw[hd0,hk.2];exact h
 |sub r q k lo hi=>simp only[R]at h ⊢;rw[hd0,hk.1];exact h
 |agg xs=>simp only[R,yS]at h hk ⊢;simpa using zFn hm.toMovesE xs [] 0 hk (by simpa using h)
 |tup xs=>simp only[R,yS]at h hk ⊢;simpa using zFn hm.toMovesE xs [] 0 hk (by simpa using h)
 |sl k xs=>
  simp only[R,yS]at h hk ⊢
  rw[hd0];rcases h with h|⟨b,o0,cap,cs,e,h1,h2,h3,h4,h5,h6,h7,h8⟩
  ·exact .inl h
  ·obtain⟨cs',cm,gE⟩:=hm.blk b cs e h2
   exact .inr ⟨b,o0,cap,cs',e,h1,cm,h3,h4,by omega,hm.ow0 b h6,fun o ho pj=>(hm.sp b o ⟨_,h6⟩ (h7 o ho (by omega))).1,by simpa using zKC hm.toMovesE xs [] 0 b o0 k ⟨_,h6⟩ hk (by simpa using h8)⟩
 |ptr t=>
  simp only[R,yS]at h hk ⊢
  rw[hd0];obtain⟨b,cs,e,h1,h2,h3,h6,h4,h5⟩:=h;obtain⟨cs',cm,gE⟩:=hm.blk b cs e h2;exact⟨b,cs',e,h1,cm,by omega,hm.ow0 b h6,zFl hm.toMovesE t [0] b 0 (by simp) ⟨_,h6⟩ h4,zFm hm.toMovesE t [0] (by simp) hk h5⟩
theorem zSK(hm:zJE G w G' w' s p s' p')(t:T)(z:List Nat)(hk:yS (zBj G G') t)(h:R St G w s t (z++p)):R St G' w' s' t (z++p'):=by
 cases z with
 |nil=>exact zBp hm t hk h
 |cons i z=>exact zFm hm.toMovesE t (i::z) (by simp) hk h
end
def T.get:T->List Nat->Option T
 |t,[]=>iW t
 |.sl _ xs,i::f|.agg xs,i::f|.tup xs,i::f=>match xs[i]? with
  |some x=>x.get f
  |none=>iY
 |.ptr t,i::f=>if i=0 then t.get f else iY
 |.any,_::_|.lit _,_::_|.ro _,_::_|.same _ _,_::_|.addr _ _,_::_|.sub _ _ _ _ _,_::_=>iY
termination_by structural _ f=>f
def T.set:T->List Nat->T->T
 |_,[],u=>u
 |.sl k xs,i::f,u=>match xs[i]? with
  |some x=>.sl k (xs.set i (x.set f u))
  |none=>.sl k xs
 |.agg xs,i::f,u=>match xs[i]? with
  |some x=>.agg (xs.set i (x.set f u))
  |none=>.agg xs
 |.tup xs,i::f,u=>match xs[i]? with
  |some x=>.tup (xs.set i (x.set f u))
  |none=>.tup xs
 |.ptr t,i::f,u=>if i=0 then .ptr (t.set f u)else .ptr t
 |.any,_::_,_=>.any
 |.lit v,_::_,_=>.lit v
 |.ro t,_::_,_=>.ro t
 |.same r q,_::_,_=>.same r q
 |.addr r q,_::_,_=>.addr r q
 |.sub r q k lo hi,_::_,_=>.sub r q k lo hi
termination_by structural _ f _=>f
def T.locd:T->List Nat->Bool
 |_,[]=>ja
 |.sl _ _,_::_|.ptr _,_::_=>iZ
 |.agg xs,i::f|.tup xs,i::f=>match xs[i]? with
  |some x=>x.locd f
  |none=>ja
 |.any,_::_|.lit _,_::_|.ro _,_::_|.same _ _,_::_|.addr _ _,_::_|.sub _ _ _ _ _,_::_=>ja
termination_by structural _ f=>f
abbrev rp(f p:List Nat):List Nat:=f.reverse++p
theorem zBP(i:Nat)(f p:List Nat):rp (i::f) p=rp f (i::p):=by simp[rp]
section
variable {St:Stb}{G:Gh}{w:World}{s:Nat}
theorem zAl:(xs:List T)-> ∀(p:List Nat)(i0 b o k i:Nat)(x:T),RL St G w s xs p i0 b o k->xs[i]? =iW x->
  Loc G w s x ((i0+i)::p) b (o+i*k)/\x.size=k/\R St G w s x ((i0+i)::p)
 | [],_,_,_,_,_,_,_,_,h=>by simp at h
 |y::ys,p,i0,b,o,k,i,x,hr,h=>by
  simp only[RL]at hr;cases i with
  |zero=>
   simp at h;subst h;simpa using⟨hr.1.1,hr.1.2,hr.2.1⟩
  |succ i=>
   have:=zAl ys p (i0+1) b (o+k) k i x hr.2.2 (by simpa using h);rw[show i0+(i+1)=i0+1+i from by omega,show o+(i+1)*k=o+k+i*k from by rw[K7];omega];exact this
theorem zCb:(xs:List T)-> ∀(p:List Nat)(j i:Nat)(x:T),RF St G w s xs p j->xs[i]? =iW x->R St G w s x ((j+i)::p)
 | [],_,_,_,_,_,h=>by simp at h
 |y::ys,p,j,i,x,hr,h=>by
  simp only[RF]at hr;cases i with
  |zero=>simp at h;subst h;simpa using hr.1
  |succ i=>
   have:=zCb ys p (j+1) i x hr.2 (by simpa using h)
   rwa [show j+(i+1)=j+1+i from by omega]
theorem zLQ:(xs:List T)-> ∀(p:List Nat)(j b o i:Nat)(x:T),vO G w s xs p j b o->xs[i]? =iW x->
  ∃o',Loc G w s x ((j+i)::p) b o'/\o<=o'/\o'+x.size<=o+T.sizes xs
 | [],_,_,_,_,_,_,_,h=>by simp at h
 |y::ys,p,j,b,o,i,x,hr,h=>by
  simp only[vO]at hr;cases i with
  |zero=>simp at h;subst h;exact⟨o,by simpa using hr.1,by omega,by simp[T.sizes]⟩
  |succ i=>
   obtain⟨o',h1,h2,h3⟩:=zLQ ys p (j+1) b (o+y.size) i x hr.2 (by simpa using h);refine⟨o',?_,by omega,by simp only[T.sizes];omega⟩
   rwa [show j+(i+1)=j+1+i from by omega]
def At(G:Gh)(w:World)(s:Nat)(t:T)(p:List Nat):Prop:=
 ∃b o cs e,Loc G w s t p b o/\w.heap[b]? =iW (.cells cs e (0,0))/\o+t.size<=cs.size
theorem At.field{xs:List T}{p:List Nat}(h:At G w s (.agg xs) p){i:Nat}{x:T}(hx:xs[i]? =iW x):At G w s x (i::p):=by obtain⟨b,o,cs,e,hl,hh,hs⟩:=h;simp only[Loc]at hl;obtain⟨o',h1,h2,h3⟩:=zLQ xs p 0 b o i x hl.2 hx;simp only[T.size]at hs;exact⟨b,o',cs,e,by simpa using h1,hh,by omega⟩
theorem zDX{k:Nat}{xs:List T}{p:List Nat}(h:R St G w s (.sl k xs) p){i:Nat}{x:T}(hx:xs[i]? =iW x):
  At G w s x (i::p)/\R St G w s x (i::p):=by
 simp only[R]at h;have hi:=(Jm.1 hx).1;rcases h with⟨rfl,_⟩|⟨b,o0,cap,cs,e,h1,h2,h3,h4,h5,h6,h7,h8⟩
 ·simp at hx
 ·obtain⟨a1,a2,a3⟩:=zAl xs p 0 b o0 k i x h8 hx
  simp only[Jc]at a1 a3;refine⟨⟨b,o0+i*k,cs,e,a1,h2,?_⟩,a3⟩;rw[a2,H7,<-K7];exact Hs (Nat.add_le_add_left (Jw _ (by omega)) _) h5
theorem zCi{t:T}{p:List Nat}(h:R St G w s (.ptr t) p):At G w s t (0::p)/\R St G w s t (0::p):=by simp only[R]at h;obtain⟨b,cs,e,h1,h2,h3,h6,h4,h5⟩:=h;exact⟨⟨b,0,cs,e,h4,h2,by omega⟩,h5⟩
theorem zB4:(f:List Nat)-> ∀(t u:T)(p:List Nat),At G w s t p->R St G w s t p->t.get f=iW u->At G w s u (rp f p)/\R St G w s u (rp f p)
 | [],t,u,p,ha,h,hg=>by simp[T.get]at hg;subst hg;simpa[rp]using⟨ha,h⟩
 |i::f,t,u,p,ha,h,hg=>by
  rw[zBP];cases t with
  |sl k xs=>
   simp only[T.get]at hg;cases hx:xs[i]? with
   |none=>simp[hx]at hg
   |some x=>rw[hx]at hg;exact zB4 f x u _ (zDX h hx).1 (zDX h hx).2 hg
  |ptr t=>
   simp only[T.get]at hg;split at hg
   ·rename_i hi;subst hi;exact zB4 f t u _ (zCi h).1 (zCi h).2 hg
   ·cases hg
  |agg xs=>
   simp only[T.get]at hg;cases hx:xs[i]? with
   |none=>simp[hx]at hg
   |some x=>rw[hx]at hg;exact zB4 f x u _ (ha.field hx) (by simp only[R]at h;simpa using zCb xs p 0 i x h hx) hg
  |tup xs=>obtain⟨b,o,cs,e,hl,_⟩:=ha;simp only[Loc]at hl
  |_=>simp[T.get]at hg
theorem zBk:(f:List Nat)-> ∀(t u:T)(p:List Nat),R St G w s t p->t.get f=iW u->R St G w s u (rp f p)/\(t.locd f=iZ->At G w s u (rp f p))
 | [],t,u,p,h,hg=>by simp[T.get]at hg;subst hg;simpa[rp,T.locd]using h
 |i::f,t,u,p,h,hg=>by
  rw[zBP];cases t with
  |sl k xs=>
   simp only[T.get]at hg;cases hx:xs[i]? with
   |none=>simp[hx]at hg
   |some x=>rw[hx]at hg;exact⟨(zB4 f x u _ (zDX h hx).1 (zDX h hx).2 hg).2,fun _=>(zB4 f x u _ (zDX h hx).1 (zDX h hx).2 hg).1⟩
  |ptr t=>
   simp only[T.get]at hg;split at hg
   ·rename_i hi;subst hi;exact⟨(zB4 f t u _ (zCi h).1 (zCi h).2 hg).2,fun _=>(zB4 f t u _ (zCi h).1 (zCi h).2 hg).1⟩
   ·cases hg
  |agg xs=>
   simp only[T.get,T.locd]at hg ⊢
   cases hx:xs[i]? with
   |none=>simp[hx]at hg
   |some x=>rw[hx]at hg;exact zBk f x u _ (by simp only[R]at h;simpa using zCb xs p 0 i x h hx) hg
  |tup xs=>
   simp only[T.get,T.locd]at hg ⊢
   cases hx:xs[i]? with
   |none=>simp[hx]at hg
   |some x=>rw[hx]at hg;exact zBk f x u _ (by simp only[R]at h;simpa using zCb xs p 0 i x h hx) hg
  |_=>simp[T.get]at hg
end
structure Upd (G:Gh) (w:World) (G':Gh) (w':World) (s:Nat) (tgt:List Nat):Prop where
 hd:∀p,¬tgt<:+p->G'.hd s p=G.hd s p
 ad:∀p,¬tgt<:+p->G'.ad s p=G.ad s p
 lb:∀b o f p,G.lb b o=iW (f,s,p)-> ¬tgt<:+p->G'.lb b o=iW (f,s,p)/\yL w' b o=yL w b o
 ow:∀b p,G.ow b=iW (s,p)-> ¬tgt<:+p->G'.ow b=iW (s,p)
 blk:Blk w w'
section
variable {St:Stb}{G:Gh}{w:World}{G':Gh}{w':World}{s:Nat}{tgt:List Nat}
theorem Upd.moves(h:Upd G w G' w' s tgt){p:List Nat}(hp:∀z,¬tgt<:+z++p):zJE G w G' w' s p s p where
 hd z:=h.hd _ (hp z)
 ad z _:=h.ad _ (hp z)
 lb b o f z _ _ hl:=h.lb b o f _ hl (hp z)
 ow b z _ hl:=h.ow b _ hl (hp z)
 sp b o _ hl:=h.lb b o iZ p hl (hp [])
 ow0 b hl:=h.ow b p hl (hp [])
 blk:=h.blk
mutual
theorem zFo(hm:Upd G w G' w' s tgt):(t:T)-> ∀(p:List Nat)(b o:Nat),(∀z,¬tgt<:+z++p)->Loc G w s t p b o->Loc G' w' s t p b o
 |.agg xs,p,b,o,hz,h=>by
  simp only[Loc]at h ⊢
  exact⟨(hm.ad p (hz [])).trans h.1,zLR hm xs p 0 b o hz h.2⟩
 |.any,p,b,o,hz,h|.lit _,p,b,o,hz,h|.ro _,p,b,o,hz,h|.same _ _,p,b,o,hz,h|.addr _ _,p,b,o,hz,h|.sub _ _ _ _ _,p,b,o,hz,h|.sl _ _,p,b,o,hz,h|.ptr _,p,b,o,hz,h=>by
  simp only[Loc]at h ⊢
  obtain⟨h1,h2,h3⟩:=h;have hl:=hm.lb b o ja p h2 (hz []);exact⟨(hm.ad p (hz [])).trans h1,hl.1,by rw[hl.2,h3,hm.hd p (hz [])]⟩
 |.tup _,_,_,_,_,h=>by simp only[Loc]at h
theorem zLR(hm:Upd G w G' w' s tgt):(xs:List T)-> ∀(p:List Nat)(j b o:Nat),(∀z,¬tgt<:+z++p)->vO G w s xs p j b o->vO G' w' s xs p j b o
 | [],_,_,_,_,_,_=>by simp only[vO]
 |x::xs,p,j,b,o,hz,h=>by
  simp only[vO]at h ⊢
  exact⟨zFo hm x (j::p) b o (fun z=>by have:=hz (z++[j]);simpa using this) h.1,zLR hm xs p (j+1) b _ hz h.2⟩
end
theorem zLS(hm:Upd G w G' w' s tgt)(t u:T)(p:List Nat)(b o:Nat)(ht:∀xs,t≠.agg xs)(hu:∀xs,u≠.agg xs)(bA:∀xs,u≠.tup xs)(hz:¬tgt<:+p)(h:Loc G w s t p b o):Loc G' w' s u p b o:=by
 have h3:G.ad s p=⟨b,o,iY⟩/\G.lb b o=iW (ja,s,p)/\yL w b o=iW (G.hd s p):=by
  cases t with
  |agg xs=>exact absurd rfl (ht xs)
  |tup xs=>simp only[Loc]at h
  |_=>simpa only[Loc]using h
 obtain⟨h1,h2,h3⟩:=h3;have hl:=hm.lb b o ja p h2 hz;have h4:G'.ad s p=⟨b,o,iY⟩/\G'.lb b o=iW (ja,s,p)/\yL w' b o=iW (G'.hd s p):=⟨(hm.ad p hz).trans h1,hl.1,by rw[hl.2,h3,hm.hd p hz]⟩;cases u with
 |agg xs=>exact absurd rfl (hu xs)
 |tup xs=>exact absurd rfl (bA xs)
 |_=>simpa only[Loc]using h4
theorem zAm{f p:List Nat}{i i':Nat}(hi:i'≠i)(z:List Nat):¬f.reverse++(i::p)<:+z++(i'::p):=by
 rintro⟨y,hy⟩
 rw[<-Jh]at hy;have:=List.append_inj_right' hy rfl;simp at this;exact hi this.symm
theorem zAG{f p:List Nat}{i:Nat}:¬f.reverse++(i::p)<:+p:=by intro h;have:=h.length_le;simp at this;omega
theorem zJG:(xs:List T)-> ∀(i:Nat)(x y:T),xs[i]? =iW x->y.size=x.size->T.sizes (xs.set i y)=T.sizes xs
 | [],_,_,_,h,_=>by simp at h
 |z::zs,i,x,y,h,hs=>by
  cases i with
  |zero=>simp at h;subst h;simp[T.sizes,hs]
  |succ i=>simp only[L7,T.sizes,zJG zs i x y (by simpa using h) hs]
theorem zFp:(f:List Nat)-> ∀(t u u0:T),t.get f=iW u0->u.size=u0.size->(t.set f u).size=t.size
 | [],t,u,u0,h,hs=>by simp[T.get]at h;subst h;simpa[T.set]using hs
 |i::f,t,u,u0,h,hs=>by
  cases t with
  |sl k xs=>simp only[T.get]at h;cases hx:xs[i]? <;>simp[hx,T.set,T.size]at h ⊢
  |tup xs=>simp only[T.get]at h;cases hx:xs[i]? <;>simp[hx,T.set,T.size]at h ⊢
  |agg xs=>
   simp only[T.get]at h;cases hx:xs[i]? with
   |none=>simp[hx]at h
   |some x=>
    rw[hx]at h;simp only[T.set,hx,T.size];exact zJG xs i x _ hx (zFp f x u u0 h hs)
  |ptr t=>simp only[T.get]at h;split at h<;>simp_all [T.set,T.size]
  |_=>simp[T.get]at h
theorem zLT(hm:Upd G w G' w' s tgt):(xs:List T)-> ∀(p:List Nat)(j b o i:Nat)(x y:T),vO G w s xs p j b o->xs[i]? =iW x->y.size=x.size->
  (∀i',i'≠j+i-> ∀z,¬tgt<:+z++(i'::p))->(∀o',Loc G w s x ((j+i)::p) b o'->Loc G' w' s y ((j+i)::p) b o')->vO G' w' s (xs.set i y) p j b o
 | [],_,_,_,_,_,_,_,_,h,_,_,_=>by simp at h
 |z::zs,p,j,b,o,i,x,y,hl,h,hs,hz,hy=>by
  simp only[vO]at hl;cases i with
  |zero=>
   simp at h;subst h;simp only[Lw,vO,hs];exact⟨by simpa using hy o (by simpa using hl.1),LocF_upd' hm zs p (j+1) b _ (fun i' ex=>hz i' (by omega)) hl.2⟩
  |succ i=>
   simp only[L7,vO];refine⟨zFo hm z _ b o (hz j (by omega)) hl.1,zLT hm zs p (j+1) b _ i x y hl.2 (by simpa using h) hs (fun i' ex=>hz i' (by omega)) ?_⟩;rw[show j+1+i=j+(i+1)from by omega];exact hy
where LocF_upd' (hm:Upd G w G' w' s tgt):(xs:List T)-> ∀(p:List Nat)(j b o:Nat),(∀i',j<=i'-> ∀z,¬tgt<:+z++(i'::p))->vO G w s xs p j b o->vO G' w' s xs p j b o
 | [],_,_,_,_,_,_=>by simp only[vO]
 |x::xs,p,j,b,o,hz,h=>by
  simp only[vO]at h ⊢
  exact⟨zFo hm x (j::p) b o (hz j (Je _)) h.1,LocF_upd' hm xs p (j+1) b _ (fun i' ex=>hz i' (by omega)) h.2⟩
theorem zKD:(f:List Nat)-> ∀(t u u0:T)(p:List Nat)(b o:Nat),Upd G w G' w' s (rp f p)->Loc G w s t p b o->t.get f=iW u0->u.size=u0.size->
  (∀o',Loc G w s u0 (rp f p) b o'->Loc G' w' s u (rp f p) b o')->Loc G' w' s (t.set f u) p b o
 | [],t,u,u0,p,b,o,hm,hl,hg,hs,hu=>by simp[T.get]at hg;subst hg;simpa[T.set,rp]using hu o (by simpa[rp]using hl)
 |i::f,t,u,u0,p,b,o,hm,hl,hg,hs,hu=>by
  have gI:=hm;rw[zBP]at gI;cases t with
  |sl k xs=>
   have:∃ys,(T.sl k xs).set (i::f) u=.sl k ys:=by simp only[T.set];split<;>exact⟨_,rfl⟩
   obtain⟨ys,hy⟩:=this;rw[hy];exact zLS gI (.sl k xs) (.sl k ys) p b o (by simp) (by simp) (by simp) zAG hl
  |ptr t=>
   have:∃ys,(T.ptr t).set (i::f) u=.ptr ys:=by simp only[T.set];split<;>exact⟨_,rfl⟩
   obtain⟨ys,hy⟩:=this;rw[hy];exact zLS gI (.ptr t) (.ptr ys) p b o (by simp) (by simp) (by simp) zAG hl
  |agg xs=>
   simp only[T.get]at hg;cases hx:xs[i]? with
   |none=>simp[hx]at hg
   |some x=>
    rw[hx]at hg;simp only[T.set,hx];simp only[Loc]at hl ⊢
    refine⟨(gI.ad p zAG).trans hl.1,zLT gI xs p 0 b o i x _ hl.2 hx (zFp f x u u0 hg hs) (fun i' ex z=>zAm (by omega) z) ?_⟩;intro o' ho';simp only[Jc]at ho' ⊢
    exact zKD f x u u0 (i::p) b o' gI ho' hg hs (by simpa only[zBP]using hu)
  |tup xs=>simp only[Loc]at hl
  |_=>simp[T.get]at hg
end
section
variable {St:Stb}{G:Gh}{w:World}{G':Gh}{w':World}{s:Nat}{tgt:List Nat}
theorem zPB(hm:Upd G w G' w' s tgt)(t:T)(p:List Nat)(hz:∀z,¬tgt<:+z++p)(hk:yS (zBj G G') t)(h:R St G w s t p):R St G' w' s t p:=by simpa using zSK (hm.moves hz) t [] hk (by simpa using h)
theorem zSL(hm:Upd G w G' w' s tgt):(xs:List T)-> ∀(p:List Nat)(i b o k:Nat),(∀i',i<=i'-> ∀z,¬tgt<:+z++(i'::p))->xN (zBj G G') xs->RL St G w s xs p i b o k->RL St G' w' s xs p i b o k
 | [],_,_,_,_,_,_,_,_=>by simp only[RL]
 |x::xs,p,i,b,o,k,hz,hk,h=>by
  simp only[RL,xN]at h hk ⊢
  exact⟨⟨zFo hm x (i::p) b o (hz i (Je _)) h.1.1,h.1.2⟩,zPB hm x (i::p) (hz i (Je _)) hk.1 h.2.1,
   zSL hm xs p (i+1) b _ k (fun i' ex=>hz i' (by omega)) hk.2 h.2.2⟩
theorem zSM(hm:Upd G w G' w' s tgt):(xs:List T)-> ∀(p:List Nat)(i0 b o k i:Nat)(x y:T),RL St G w s xs p i0 b o k->xs[i]? =iW x->y.size=x.size->xN (zBj G G') xs->
  (∀i',i'≠i0+i-> ∀z,¬tgt<:+z++(i'::p))->(∀o',Loc G w s x ((i0+i)::p) b o'->Loc G' w' s y ((i0+i)::p) b o')->R St G' w' s y ((i0+i)::p)->
  RL St G' w' s (xs.set i y) p i0 b o k
 | [],_,_,_,_,_,_,_,_,_,h,_,_,_,_,_=>by simp at h
 |z::zs,p,i0,b,o,k,i,x,y,hr,h,hs,hk,hz,hl,hy=>by
  simp only[RL,xN]at hr hk;cases i with
  |zero=>
   simp at h;subst h;simp only[Lw,RL];exact⟨⟨by simpa using hl o (by simpa using hr.1.1),by omega⟩,by simpa using hy,zSL hm zs p (i0+1) b _ k (fun i' ex=>hz i' (by omega)) hk.2 hr.2.2⟩
  |succ i=>
   simp only[L7,RL];rw[show i0+(i+1)=i0+1+i from by omega]at hl hy hz;exact⟨⟨zFo hm z _ b o (hz i0 (by omega)) hr.1.1,hr.1.2⟩,zPB hm z _ (hz i0 (by omega)) hk.1 hr.2.1,zSM hm zs p (i0+1) b _ k i x y hr.2.2 (by simpa using h) hs hk.2 hz hl hy⟩
theorem zSN(hm:Upd G w G' w' s tgt):(xs:List T)-> ∀(p:List Nat)(i:Nat),(∀i',i<=i'-> ∀z,¬tgt<:+z++(i'::p))->xN (zBj G G') xs->RF St G w s xs p i->RF St G' w' s xs p i
 | [],_,_,_,_,_=>by simp only[RF]
 |x::xs,p,i,hz,hk,h=>by
  simp only[RF,xN]at h hk ⊢
  exact⟨zPB hm x (i::p) (hz i (Je _)) hk.1 h.1,zSN hm xs p (i+1) (fun i' ex=>hz i' (by omega)) hk.2 h.2⟩
theorem zOh(hm:Upd G w G' w' s tgt):(xs:List T)-> ∀(p:List Nat)(i0 i:Nat)(x y:T),RF St G w s xs p i0->xs[i]? =iW x->xN (zBj G G') xs->
  (∀i',i'≠i0+i-> ∀z,¬tgt<:+z++(i'::p))->R St G' w' s y ((i0+i)::p)->
  RF St G' w' s (xs.set i y) p i0
 | [],_,_,_,_,_,_,h,_,_,_=>by simp at h
 |z::zs,p,i0,i,x,y,hr,h,hk,hz,hy=>by
  simp only[RF,xN]at hr hk;cases i with
  |zero=>
   simp at h;subst h;simp only[Lw,RF];exact⟨by simpa using hy,zSN hm zs p (i0+1) (fun i' ex=>hz i' (by omega)) hk.2 hr.2⟩
  |succ i=>
   simp only[L7,RF];rw[show i0+(i+1)=i0+1+i from by omega]at hy hz;exact⟨zPB hm z _ (hz i0 (by omega)) hk.1 hr.1,zOh hm zs p (i0+1) i x y hr.2 (by simpa using h) hk.2 hz hy⟩
theorem uS{φ:Nat->List Nat->Prop}:(xs:List T)->xN φ xs-> ∀(i:Nat)(x:T),xs[i]? =iW x->yS φ x
 | [],_,_,_,h=>by simp at h
 |y::ys,hk,i,x,h=>by
  simp only[xN]at hk;cases i with
  |zero=>simp at h;subst h;exact hk.1
  |succ i=>exact uS ys hk.2 i x (by simpa using h)
theorem zGW:(f:List Nat)-> ∀(t u u0:T)(p:List Nat),Upd G w G' w' s (rp f p)->R St G w s t p->t.get f=iW u0->u.size=u0.size->yS (zBj G G') t->
  (∀b o,Loc G w s u0 (rp f p) b o->Loc G' w' s u (rp f p) b o)->R St G' w' s u (rp f p)->R St G' w' s (t.set f u) p
 | [],t,u,u0,p,hm,hr,hg,hs,hk,hl,hu=>by simpa[T.set,rp]using hu
 |i::f,t,u,u0,p,hm,hr,hg,hs,hk,hl,hu=>by
  have gI:=hm;rw[zBP]at gI hl hu;cases t with
  |sl k xs=>
   simp only[T.get]at hg;cases hx:xs[i]? with
   |none=>simp[hx]at hg
   |some x=>
    rw[hx]at hg;simp only[T.set,hx];simp only[R,yS]at hr hk ⊢
    rcases hr with⟨rfl,_⟩|⟨b,o0,cap,cs,e,h1,h2,h3,h4,h5,h6,h7,h8⟩
    ·simp at hx
    ·obtain⟨cs',cm,gE⟩:=gI.blk b cs e h2
     refine .inr ⟨b,o0,cap,cs',e,by rw[gI.hd p zAG,Lz];exact h1,cm,by rw[Lz];exact h3,h4,by omega,gI.ow b p h6 zAG,?_,?_⟩
     ·intro o ho pj
      rw[Lz]at ho;exact(gI.lb b o iZ p (h7 o ho (by omega)) zAG).1
     ·have bW:=zAl xs p 0 b o0 k i x h8 hx
      simp only[Jc]at bW;refine zSM gI xs p 0 b o0 k i x _ h8 hx (zFp f x u u0 hg hs) hk (fun i' ex z=>zAm (by omega) z) ?_ ?_
      ·intro o' ho'
       simp only[Jc]at ho' ⊢
       exact zKD f x u u0 (i::p) b o' gI ho' hg hs (fun o''=>hl b o'')
      ·simp only[Jc]
       exact zGW f x u u0 (i::p) gI bW.2.2 hg hs (uS xs hk i x hx) hl hu
  |ptr t=>
   simp only[T.get]at hg;split at hg
   ·rename_i hi;subst hi
    simp only[T.set,if_true];simp only[R,yS]at hr hk ⊢
    obtain⟨b,cs,e,h1,h2,h3,h6,h4,h5⟩:=hr;obtain⟨cs',cm,gE⟩:=gI.blk b cs e h2;refine⟨b,cs',e,by rw[gI.hd p zAG];exact h1,cm,by rw[zFp f t u u0 hg hs];omega,gI.ow b p h6 zAG,zKD f t u u0 (0::p) b 0 gI h4 hg hs (fun o''=>hl b o''),zGW f t u u0 (0::p) gI h5 hg hs hk hl hu⟩
   ·cases hg
  |agg xs=>
   simp only[T.get]at hg;cases hx:xs[i]? with
   |none=>simp[hx]at hg
   |some x=>
    rw[hx]at hg;simp only[T.set,hx];simp only[R,yS]at hr hk ⊢
    refine zOh gI xs p 0 i x _ hr hx hk (fun i' ex z=>zAm (by omega) z) ?_;simp only[Jc];exact zGW f x u u0 (i::p) gI (by simpa using zCb xs p 0 i x hr hx) hg hs (uS xs hk i x hx) hl hu
  |tup xs=>
   simp only[T.get]at hg;cases hx:xs[i]? with
   |none=>simp[hx]at hg
   |some x=>
    rw[hx]at hg;simp only[T.set,hx];simp only[R,yS]at hr hk ⊢
    refine zOh gI xs p 0 i x _ hr hx hk (fun i' ex z=>zAm (by omega) z) ?_;simp only[Jc];exact zGW f x u u0 (i::p) gI (by simpa using zCb xs p 0 i x hr hx) hg hs (uS xs hk i x hx) hl hu
  |_=>simp[T.get]at hg
end
mutual
def vals(G:Gh)(s:Nat):T->List Nat->List Value
 |.agg xs,p=>yH G s xs p 0
 |.any,p|.lit _,p|.ro _,p|.same _ _,p|.addr _ _,p|.sub _ _ _ _ _,p|.sl _ _,p|.ptr _,p|.tup _,p=>[G.hd s p]
def yH(G:Gh)(s:Nat):List T->List Nat->Nat->List Value
 | [],_,_=>[]
 |x::xs,p,j=>vals G s x (j::p)++yH G s xs p (j+1)
end
def sZ(G:Gh)(s:Nat)(t:T)(p:List Nat):Value:=
 match t with
 |.agg xs=>.agg (yH G s xs p 0).toArray
 |_=>G.hd s p
def zAN(G:Gh)(s:Nat):List T->List Nat->Nat->List Value
 | [],_,_=>[]
 |x::xs,p,j=>sZ G s x (j::p)::zAN G s xs p (j+1)
def mkV(G:Gh)(s:Nat)(t:T)(p:List Nat):Value:=
 match t with
 |.agg xs=>.agg (yH G s xs p 0).toArray
 |.tup xs=>.tuple (zAN G s xs p 0).toArray
 |_=>G.hd s p
mutual
def Top:T->Prop
 |.sl _ xs=>yZ xs
 |.ptr t=>yA t
 |.agg xs|.tup xs=>uQ xs
 |.any|.lit _|.ro _|.same _ _|.addr _ _|.sub _ _ _ _ _=>True
def uQ:List T->Prop
 | []=>True
 |x::xs=>Top x/\uQ xs
end
mutual
theorem Top.of_clean:(t:T)->yA t->Top t
 |.sl _ xs,h=>by simpa only[Top,yA,yS]using h
 |.ptr t,h=>by simpa only[Top,yA,yS]using h
 |.agg xs,h|.tup xs,h=>by simp only[Top];exact uQ.of_clean xs (by simpa only[yA,yS]using h)
 |.any,_|.lit _,_|.ro _,_|.same _ _,_|.addr _ _,_|.sub _ _ _ _ _,_=>by simp only[Top]
theorem uQ.of_clean:(xs:List T)->yZ xs->uQ xs
 | [],_=>by simp only[uQ]
 |x::xs,h=>by simp only[uQ];exact⟨Top.of_clean x h.1,uQ.of_clean xs h.2⟩
end
abbrev Chg:=List (Nat×Nat)
def Off(chg:Chg)(s:Nat)(p:List Nat):Prop:=∀n,(s,n)∈chg->p.length<n
def zBl(chg:Chg)(r:Nat)(p:List Nat):Bool:=chg.all fun c=>c.1 != r||decide (p.length<c.2)
theorem zR0{chg:Chg}{r:Nat}{p:List Nat}(h:zBl chg r p=iZ):Off chg r p:=by
 intro n hn;have:=Ka.1 h _ hn
 grind
mutual
def T.okB(chg:Chg):T->Bool
 |.same r p|.addr r p|.sub r p _ _ _=>zBl chg r p
 |.agg xs|.tup xs=>zLU chg xs
 |.any|.lit _|.ro _|.sl _ _|.ptr _=>iZ
def zLU(chg:Chg):List T->Bool
 | []=>iZ
 |x::xs=>x.okB chg&&zLU chg xs
end
mutual
theorem zBq{chg:Chg}:(t:T)->Top t->t.okB chg=iZ->yS (Off chg) t
 |.same r p,_,h|.addr r p,_,h|.sub r p _ _ _,_,h=>by simp only[T.okB]at h;simp only[yS];exact zR0 h
 |.agg xs,ht,h|.tup xs,ht,h=>by simp only[T.okB,Top]at h ht;simp only[yS];exact zHP xs ht h
 |.sl _ xs,ht,_=>by simp only[Top]at ht;simp only[yS];grind[xN.mono]
 |.ptr t,ht,_=>by simp only[Top]at ht;simp only[yS];grind[yS.mono]
 |.any,_,_|.lit _,_,_|.ro _,_,_=>by simp only[yS]
theorem zHP{chg:Chg}:(xs:List T)->uQ xs->zLU chg xs=iZ->xN (Off chg) xs
 | [],_,_=>by simp only[xN]
 |x::xs,ht,h=>by simp only[zLU,uQ,J3]at h ht;simp only[xN];exact⟨zBq x ht.1 h.1,zHP xs ht.2 h.2⟩
end
abbrev Env:=Nat->Option T
abbrev Wr:=List (Nat×Option T)
def Wr.find(wr:Wr)(s:Nat):Option (Option T):=
 match wr with
 | []=>iY
 |(k,x)::r=>if k=s then iW x else Wr.find r s
def Env.app(E:Env)(wr:Wr)(chg:Chg):Env:=fun s=>
 match wr.find s with
 |some x=>x
 |none=>match E s with
  |some t=>if t.okB chg then iW t else iY
  |none=>iY
structure Ctx where
 St:Stb
 W:Nat->Prop
 w0:World
 N:Nat
def zDp(Γ:Ctx)(w:World)(b:Nat):Prop:=b<w.heap.size/\(Γ.w0.heap.size<=b\/Γ.W b)/\Γ.St b=iY
structure zXo (w w':World):Prop where
 blk:Blk w w'
 os:w'.os=w.os
 out:w'.output=w.output
structure Mem (Γ:Ctx) (G:Gh) (w:World):Prop where
 one:∀s p,(G.hd s p).oneCell'=iZ
 lb:∀b o l,G.lb b o=iW l->zDp Γ w b
 ow:∀b l,G.ow b=iW l->zDp Γ w b
 st:∀b x,Γ.St b=iW x->w.heap[b]? =iW x
 fr:∀b,b<Γ.w0.heap.size-> ¬Γ.W b->w.heap[b]? =Γ.w0.heap[b]?
 sz:Γ.w0.heap.size<=w.heap.size
 bk:zXo Γ.w0 w
theorem Blk.trans{w w' w'':World}(h:Blk w w')(h':Blk w' w''):Blk w w'':=fun b cs e hb=>by
 obtain⟨cs',h1,h2⟩:=h b cs e hb;obtain⟨cs'',h3,h4⟩:=h' b cs' e h1
 grind
theorem zXo.trans{w w' w'':World}(h:zXo w w')(h':Blk w' w'')(ho:w''.os=w'.os)(hq:w''.output=w'.output):zXo w w'':=⟨h.blk.trans h',ho.trans h.os,hq.trans h.out⟩
def Ent(Γ:Ctx)(G:Gh)(w:World)(v:Option Value)(s:Nat)(t:T):Prop:=v=iW (mkV G s t [])/\R Γ.St G w s t []/\Top t
structure Rep (Γ:Ctx) (E:Env) (G:Gh) (tmps:Array Value) (w:World):Prop where
 size:tmps.size=Γ.N
 ent:∀s t,E s=iW t->Ent Γ G w tmps[s]? s t
 mem:Mem Γ G w
def Sim(Γ:Ctx)(E:Env)(a:Act)(w:World):Prop:=a.defers=[]/\ ∃G,Rep Γ E G a.tmps w
structure zEv (S S':Stb) (W:Nat->Prop) (n:Nat):Prop where
 le:∀b x,S b=iW x->S' b=iW x
 nw:∀b,S b=iY->S' b≠iY->n<=b\/W b
theorem zEv.refl{S:Stb}{W:Nat->Prop}{n:Nat}:zEv S S W n:=⟨fun _ _ h=>h,by grind⟩
theorem zEv.trans{S S' S'':Stb}{W:Nat->Prop}{n:Nat}(h:zEv S S' W n)(h':zEv S' S'' W n):zEv S S'' W n:=
 ⟨fun b x hb=>h'.le b x (h.le b x hb),fun b hb ez=>by
  cases hs:S' b with
  |none=>exact h'.nw b hs ez
  |some x=>exact h.nw b hb (by grind)⟩
abbrev Ctx.at(Γ:Ctx)(S:Stb):Ctx:={ Γ with St:=S }
def zAn(Γ:Ctx)(E:Env)(a:Act)(w:World):Prop:=∃S,zEv Γ.St S Γ.W Γ.w0.heap.size/\Sim (Γ.at S) E a w
theorem zAn.of{Γ:Ctx}{E:Env}{a:Act}{w:World}(h:Sim Γ E a w):zAn Γ E a w:=⟨Γ.St,.refl,h⟩
theorem zAn.up{Γ:Ctx}{E:Env}{a:Act}{w:World}{S:Stb}(hS:zEv Γ.St S Γ.W Γ.w0.heap.size)(h:zAn (Γ.at S) E a w):zAn Γ E a w:=by obtain⟨S',h1,h2⟩:=h;exact⟨S',hS.trans h1,h2⟩
structure kS (chg:Chg) (G:Gh) (w:World) (G':Gh) (w':World):Prop where
 hd:∀s p,Off chg s p->G'.hd s p=G.hd s p
 ad:∀s p,Off chg s p->G'.ad s p=G.ad s p
 lb:∀b o f s p,(∃y,G.ow b=iW (s,y))->G.lb b o=iW (f,s,p)->(∀n,(s,n)∉chg)->G'.lb b o=iW (f,s,p)/\yL w' b o=yL w b o
 ow:∀b s p,G.ow b=iW (s,p)->(∀n,(s,n)∉chg)->G'.ow b=iW (s,p)
 blk:Blk w w'
theorem Off.of_not{chg:Chg}{s:Nat}(h:∀n,(s,n)∉chg)(p:List Nat):Off chg s p:=fun n hn=>absurd hn (h n)
section
variable {Γ:Ctx}{G G':Gh}{w w':World}{s:Nat}{chg:Chg}
mutual
theorem zBQ{s':Nat}:(t:T)-> ∀(p p':List Nat),(∀z,G'.hd s' (z++p')=G.hd s (z++p))->vals G' s' t p'=vals G s t p
 |.agg xs,p,p',h=>by simp only[vals];exact zFq xs p p' 0 h
 |.any,p,p',h|.lit _,p,p',h|.ro _,p,p',h|.same _ _,p,p',h|.addr _ _,p,p',h|.sub _ _ _ _ _,p,p',h|.sl _ _,p,p',h|.ptr _,p,p',h|.tup _,p,p',h=>by simp only[vals];rw[show G'.hd s' p'=G.hd s p from by simpa using h []]
theorem zFq{s':Nat}:(xs:List T)-> ∀(p p':List Nat)(j:Nat),(∀z,G'.hd s' (z++p')=G.hd s (z++p))->yH G' s' xs p' j=yH G s xs p j
 | [],_,_,_,_=>by rfl
 |x::xs,p,p',j,h=>by simp only[yH];rw[zBQ x (j::p) (j::p') (fun z=>by have:=h (z++[j]);grind),zFq xs p p' (j+1) h]
end
theorem zCE{s':Nat}(t:T)(p p':List Nat)(h:∀z,G'.hd s' (z++p')=G.hd s (z++p)):sZ G' s' t p'=sZ G s t p:=by
 unfold sZ;split
 ·grind[zFq]
 ·simpa using h []
theorem zPC{s':Nat}:(xs:List T)-> ∀(p p':List Nat)(j:Nat),(∀z,G'.hd s' (z++p')=G.hd s (z++p))->zAN G' s' xs p' j=zAN G s xs p j
 | [],_,_,_,_=>by rfl
 |x::xs,p,p',j,h=>by simp only[zAN];rw[zCE x (j::p) (j::p') (fun z=>by have:=h (z++[j]);simpa using this),zPC xs p p' (j+1) h]
theorem zGe{s':Nat}(t:T)(p p':List Nat)(h:∀z,G'.hd s' (z++p')=G.hd s (z++p)):mkV G' s' t p'=mkV G s t p:=by
 unfold mkV;split
 ·grind[zFq]
 ·grind[zPC]
 ·simpa using h []
theorem kS.moves(hk:kS chg G w G' w')(hs:∀n,(s,n)∉chg)(p:List Nat):zJE G w G' w' s p s p where
 hd _:=hk.hd _ _ (.of_not hs _)
 ad _ _:=hk.ad _ _ (.of_not hs _)
 lb b o f _ _ ep hl:=hk.lb b o f s _ ep hl hs
 ow b _ _ hl:=hk.ow b s _ hl hs
 sp b o ep hl:=hk.lb b o iZ s _ ep hl hs
 ow0 b hl:=hk.ow b s _ hl hs
 blk:=hk.blk
theorem kS.keepR(hk:kS chg G w G' w'){t:T}(h:yS (Off chg) t):yS (zBj G G') t:=
 yS.mono (fun r p hr=>⟨hk.hd r p hr,hk.ad r p hr⟩) t h
theorem Ent.keep(hk:kS chg G w G' w')(hs:∀n,(s,n)∉chg){v:Option Value}{t:T}(ht:t.okB chg=iZ)(h:Ent Γ G w v s t):Ent Γ G' w' v s t:=by
 obtain⟨h1,h2,h3⟩:=h;refine⟨?_,?_,h3⟩
 ·rw[h1,zGe t [] [] (fun z=>hk.hd _ _ (.of_not hs _))]
 ·simpa using zSK (hk.moves hs []) t [] (hk.keepR (zBq t h3 ht)) (by grind)
end
theorem vT{Γ:Ctx}{E:Env}{G G':Gh}{tmps tmps':Array Value}{w w':World}{wr:Wr}{chg:Chg}(h:Rep Γ E G tmps w)
  (gW:tmps'.size=tmps.size)(hk:kS chg G w G' w')(gu:Mem Γ G' w')
  (gN:∀s,wr.find s=iY->(∀n,(s,n)∉chg)/\tmps'[s]? =tmps[s]?)
  (eF:∀s t,wr.find s=iW (iW t)->Ent Γ G' w' tmps'[s]? s t):Rep Γ (E.app wr chg) G' tmps' w' where
 size:=by rw[gW,h.size]
 mem:=gu
 ent s t hs:=by
  unfold Env.app at hs;cases hf:wr.find s with
  |some x=>
   grind
  |none=>
   rw[hf]at hs;simp at hs;cases he:E s with
   |none=>grind
   |some u=>
    simp[he]at hs;obtain⟨gA,rfl⟩:=hs;rw[(gN s hf).2];exact Ent.keep hk (gN s hf).1 gA (h.ent s u he)
mutual
def cpT(s:Nat):T->List Nat->T
 |.lit v,_=>.lit v
 |.ro t,_=>.ro t
 |.same r q,_=>.same r q
 |.addr r q,_=>.addr r q
 |.sub r q k lo hi,_=>.sub r q k lo hi
 |.agg xs,p=>.agg (cpF s xs p 0)
 |.any,p|.sl _ _,p|.ptr _,p|.tup _,p=>.same s p
def cpF(s:Nat):List T->List Nat->Nat->List T
 | [],_,_=>[]
 |x::xs,p,j=>cpT s x (j::p)::cpF s xs p (j+1)
end
mutual
theorem jQ(s:Nat):(t:T)-> ∀p,Top (cpT s t p)
 |.agg xs,p=>by simp only[cpT,Top];exact zPD s xs p 0
 |.lit _,_|.ro _,_|.same _ _,_|.addr _ _,_|.sub _ _ _ _ _,_|.any,_|.sl _ _,_|.ptr _,_|.tup _,_=>by simp only[cpT,Top]
theorem zPD(s:Nat):(xs:List T)-> ∀p j,uQ (cpF s xs p j)
 | [],_,_=>by simp only[cpF,uQ]
 |x::xs,p,j=>by simp only[cpF,uQ];exact⟨jQ s x _,zPD s xs p _⟩
end
section
variable {St:Stb}{G G':Gh}{w w':World}{s d:Nat}
mutual
theorem zEH(hs:∀p,G'.hd s p=G.hd s p):(t:T)-> ∀(p p':List Nat),(∀z,G'.hd d (z++p')=G.hd s (z++p))->(∀xs,t≠.tup xs)->yS (zBj G G') (cpT s t p)->R St G w s t p->R St G' w' d (cpT s t p) p'
 |.lit _,p,p',hd,_,_,h=>by simp only[cpT,R]at h ⊢;rw[show G'.hd d p'=_ from by simpa using hd []];exact h
 |.ro _,p,p',hd,_,_,h=>by simp only[cpT,R]at h ⊢;rw[show G'.hd d p'=_ from by simpa using hd []];exact h
 |.same r q,p,p',hd,_,hk,h=>by simp only[cpT,R,yS]at h hk ⊢;rw[show G'.hd d p'=_ from by simpa using hd [],hk.1];exact h
 |.addr r q,p,p',hd,_,hk,h=>by simp only[cpT,R,yS]at h hk ⊢;rw[show G'.hd d p'=_ from by simpa using hd [],hk.2];exact h
 |.sub r q k lo hi,p,p',hd,_,hk,h=>by simp only[cpT,R,yS]at h hk ⊢;rw[show G'.hd d p'=_ from by simpa using hd [],hk.1];exact h
 |.any,p,p',hd,_,_,_|.sl _ _,p,p',hd,_,_,_|.ptr _,p,p',hd,_,_,_=>by simp only[cpT,R];rw[show G'.hd d p'=_ from by simpa using hd [],hs]
 |.tup xs,_,_,_,h,_,_=>absurd rfl (h xs)
 |.agg xs,p,p',hd,_,hk,h=>by simp only[cpT,R,yS]at h hk ⊢;exact zKE hs xs p p' 0 hd hk h
theorem zKE(hs:∀p,G'.hd s p=G.hd s p):(xs:List T)-> ∀(p p':List Nat)(j:Nat),(∀z,G'.hd d (z++p')=G.hd s (z++p))->xN (zBj G G') (cpF s xs p j)->RF St G w s xs p j->RF St G' w' d (cpF s xs p j) p' j
 | [],_,_,_,_,_,_=>by simp only[cpF,RF]
 |x::xs,p,p',j,hd,hk,h=>by
  simp only[cpF,RF,xN]at h hk ⊢
  refine⟨?_,zKE hs xs p p' (j+1) hd hk.2 h.2⟩
  by_cases hx:∃ys,x=.tup ys
  ·obtain⟨ys,rfl⟩:=hx
   simp only[cpT,R];rw[show G'.hd d (j::p')=_ from by simpa using hd [j],hs]
  ·exact zEH hs x (j::p) (j::p') (fun z=>by have:=hd (z++[j]);simpa using this) (fun ys e=>hx ⟨ys,e⟩) hk.1 h.1
end
mutual
theorem zR1:(t:T)-> ∀(p p':List Nat),(∀z,G'.hd d (z++p')=G.hd s (z++p))->vals G' d (cpT s t p) p'=vals G s t p
 |.agg xs,p,p',h=>by simp only[cpT,vals];exact zEI xs p p' 0 h
 |.any,p,p',h|.lit _,p,p',h|.ro _,p,p',h|.same _ _,p,p',h|.addr _ _,p,p',h|.sub _ _ _ _ _,p,p',h|.sl _ _,p,p',h|.ptr _,p,p',h|.tup _,p,p',h=>by simp only[cpT,vals];rw[show G'.hd d p'=G.hd s p from by simpa using h []]
theorem zEI:(xs:List T)-> ∀(p p':List Nat)(j:Nat),(∀z,G'.hd d (z++p')=G.hd s (z++p))->yH G' d (cpF s xs p j) p' j=yH G s xs p j
 | [],_,_,_,_=>by rfl
 |x::xs,p,p',j,h=>by simp only[cpF,yH];rw[zR1 x (j::p) (j::p') (fun z=>by have:=h (z++[j]);grind),zEI xs p p' (j+1) h]
end
theorem zB5(t:T)(p p':List Nat)(ht:∀xs,t≠.tup xs)(h:∀z,G'.hd d (z++p')=G.hd s (z++p)):mkV G' d (cpT s t p) p'=sZ G s t p:=by
 cases t with
 |agg xs=>grind[cpT,mkV,sZ,zEI]
 |tup xs=>grind
 |_=>simpa[cpT,mkV,sZ]using h []
end
theorem zAO(G:Gh)(s:Nat)(t:T)(p:List Nat)(ht:∀xs,t≠.tup xs):mkV G s t p=sZ G s t p:=by
 cases t with
 |tup xs=>grind
 |_=>rfl
def Gh.put(G:Gh)(d:Nat)(f:List Nat->Value):Gh:={ G with hd:=fun s z=>if s=d then f z else G.hd s z }
theorem Gh.put_other(G:Gh){d s:Nat}(f:List Nat->Value)(p:List Nat)(h:s≠d):(G.put d f).hd s p=G.hd s p:=by simp[Gh.put,h]
theorem Gh.put_self(G:Gh)(d:Nat)(f:List Nat->Value)(p:List Nat):(G.put d f).hd d p=f p:=by simp[Gh.put]
theorem yAz{d s:Nat}{p:List Nat}(h:Off [(d,0)] s p):s≠d:=by
 rintro rfl
 exact absurd (h 0 (by simp)) (by simp)
theorem Gh.put_keep(G:Gh){w w':World}(hw:w'.heap=w.heap)(d:Nat)(f:List Nat->Value):kS [(d,0)] G w (G.put d f) w' where
 hd s p h:=G.put_other f p (yAz h)
 ad _ _ _:=rfl
 lb b o f' s p _ h _:=⟨h,by grind[yL,World.cell?]⟩
 ow b s p h _:=h
 blk b cs e h:=by grind
theorem Mem.put{Γ:Ctx}{G:Gh}{w w':World}(h:Mem Γ G w)(hw:w'.heap=w.heap)(d:Nat)(f:List Nat->Value)(hf:∀z,(f z).oneCell'=iZ)(ho:w'.os=w.os:=by rfl)(hq:w'.output=w.output:=by rfl):Mem Γ (G.put d f) w' where
 one s p:=by unfold Gh.put;dsimp only;split;exact hf p;exact h.one s p
 lb b o l hl:=by have:=h.lb b o l hl;exact⟨by rw[hw];exact this.1,this.2⟩
 ow b l hl:=by have:=h.ow b l hl;exact⟨by rw[hw];exact this.1,this.2⟩
 st b x hx:=by rw[hw];exact h.st b x hx
 fr b h1 h2:=by rw[hw];exact h.fr b h1 h2
 sz:=by rw[hw];exact h.sz
 bk:=h.bk.trans (fun b cs e hb=>by grind) ho hq
theorem sG(d:Nat)(x:Option T)(s:Nat):Wr.find [(d,x)] s=if d=s then iW x else iY:=by rfl
theorem vM{Γ:Ctx}{E:Env}{G:Gh}{tmps:Array Value}{w w':World}(h:Rep Γ E G tmps w)(hw:w'.heap=w.heap){d:Nat}(hd:d<Γ.N)
  (f:List Nat->Value)(hf:∀z,(f z).oneCell'=iZ)(t:T)(v:Value)(hv:v=mkV (G.put d f) d t [])(hr:R Γ.St (G.put d f) w' d t [])(ht:Top t)(ho:w'.os=w.os:=by rfl)(hq:w'.output=w.output:=by rfl):
  Rep Γ (E.app [(d,iW t)] [(d,0)]) (G.put d f) (tmps.setIfInBounds d v) w':=by
 refine vT h (by simp) (G.put_keep hw d f) (h.mem.put hw d f hf ho hq) ?_ ?_
 ·grind[sG]
 ·intro s t' hs
  rw[sG]at hs;split at hs
  ·rename_i he
   subst he;simp at hs;subst hs;refine⟨?_,hr,ht⟩;rw[Jj];simp[h.size,hd,hv]
  ·cases hs
def wD(P:Program)(Γ:Ctx)(o:Oper)(E E':Env):Prop:=
 ∀(a:Act)(w:World)(K:Act->World->Prop)(Q:Exit->Act->World->Prop),Sim Γ E a w->(∀a' w',zAn Γ E' a' w'->K a' w')->o.wp P a w K Q
def opT(E:Env):Operand->Option T
 |.tmp s=>E s
 |.const v=>if v.oneCell' then iW (.lit v)else iY
 |.func f=>iW (.lit (.func (.func f) #[] #[]))
 |.global _=>iY
def tF(x:Operand)(t:T):T:=match x with
 |.tmp s=>cpT s t []
 |_=>t
section
variable {P:Program}{Γ:Ctx}{E E':Env}{o:Oper}{d:Nat}
theorem xX{a:Act}{s:Nat}{v:Value}(h:a.tmps[s]? =iW v):a.eval (.tmp s)=v:=by simp[Act.eval,Kj,h]
theorem wD.value(ho:o.dst=iW d)
  (h:∀(a:Act)(w:World)(G:Gh),Rep Γ E G a.tmps w-> ∃v w',(execOp a.eval o).run P w=.ok (.value v) w'/\ ∃G',Rep Γ E' G' (a.tmps.setIfInBounds d v) w'):wD P Γ o E E':=by
 intro a w K Q ⟨ej,G,gj⟩ hK;obtain⟨v,w',gD,G',fE⟩:=h a w G gj;unfold Oper.wp;rw[gD,Oper.upon_value];refine hK _ _ ?_;rw[ho];exact .of ⟨ej,G',fE⟩
theorem wD.skip(ho:o.dst=iY)
  (h:∀(a:Act)(w:World)(G:Gh),Rep Γ E G a.tmps w-> ∃w',(execOp a.eval o).run P w=.ok .skip w'/\ ∃G',Rep Γ E' G' a.tmps w'):wD P Γ o E E':=by
 intro a w K Q ⟨ej,G,gj⟩ hK;obtain⟨w',gD,G',fE⟩:=h a w G gj;unfold Oper.wp;rw[gD,Oper.upon_skip];refine hK _ _ ?_;rw[ho];exact .of ⟨ej,G',fE⟩
theorem opd{G:Gh}{a:Act}{w:World}(gj:Rep Γ E G a.tmps w){x:Operand}{t:T}(hx:opT E x=iW t)(ht:∀xs,t≠.tup xs):
  ∃f:List Nat->Value,(∀z,(f z).oneCell'=iZ)/\(∀d,(∀s,x=.tmp s->s≠d)->T.okB [(d,0)] (tF x t)=iZ->
   a.eval x=mkV (G.put d f) d (tF x t) []/\R Γ.St (G.put d f) w d (tF x t) [])/\Top (tF x t):=by
 cases x with
 |tmp s=>
  obtain⟨h1,h2,h3⟩:=gj.ent s t hx;refine⟨fun z=>G.hd s z,fun z=>gj.mem.one s z,?_,jQ s t []⟩;intro d gk gA;have eT:=gk s rfl;have hk:=G.put_keep (w:=w) (w':=w) rfl d (fun z=>G.hd s z);have hz:∀z,(G.put d (fun z=>G.hd s z)).hd d (z++[])=G.hd s (z++[]):=by grind[Gh.put_self]
  refine⟨?_,?_⟩
  ·grind[xX,tF,zB5,zAO]
  ·exact zEH (fun p=>G.put_other _ p eT) t [] [] hz ht (hk.keepR (zBq _ (jQ s t []) gA)) h2
 |const v=>
  simp only[opT]at hx;split at hx
  ·rename_i gv
   simp at hx;subst hx;exact⟨fun _=>v,fun _=>gv,fun d _ _=>⟨by simp[Act.eval,tF,mkV,Gh.put],by simp[tF,R,Gh.put]⟩,by simp[tF,Top]⟩
  ·cases hx
 |func f=>
  simp only[opT]at hx;simp at hx;subst hx;exact⟨fun _=>.func (.func f) #[] #[],fun _=>rfl,fun d _ _=>⟨by simp[Act.eval,tF,mkV,Gh.put],by simp[tF,R,Gh.put]⟩,by simp[tF,Top]⟩
 |global g=>cases hx
theorem zPE(x:Operand)(t:T)(ho:o.op=.move x\/o.op=.assign x)(gm:o.dst=iW d)(hd:d<Γ.N)(hx:opT E x=iW t)(ht:∀xs,t≠.tup xs)
  (gk:∀s,x=.tmp s->s≠d)(gA:T.okB [(d,0)] (tF x t)=iZ):wD P Γ o E (E.app [(d,iW (tF x t))] [(d,0)]):=by
 refine wD.value gm fun a w G gj=>?_
 obtain⟨f,hf,h1,h2⟩:=opd gj hx ht;obtain⟨h3,h4⟩:=h1 d gk gA;refine⟨a.eval x,w,?_,_,vM gj rfl hd f hf _ _ h3 h4 h2⟩;rcases ho with ho|ho<;>simp[execOp,ho]
theorem yY{G:Gh}{a:Act}{w:World}(gj:Rep Γ E G a.tmps w){x:Operand}{v:Value}(hx:opT E x=iW (.lit v)):a.eval x=v/\v.oneCell'=iZ:=by
 cases x with
 |tmp s=>
  obtain⟨h1,h2,_⟩:=gj.ent s _ hx;simp only[R]at h2;refine⟨?_,by rw[<-h2];exact gj.mem.one s []⟩
  grind[xX,mkV]
 |const u=>
  simp only[opT]at hx;split at hx
  ·simp at hx;subst hx;exact⟨rfl,by assumption⟩
  ·cases hx
 |func f=>simp only[opT]at hx;simp at hx;subst hx;exact⟨rfl,rfl⟩
 |global g=>cases hx
theorem tW(v:Value)(hv:v.oneCell'=iZ)(gm:o.dst=iW d)(hd:d<Γ.N)
  (h:∀(a:Act)(w:World)(G:Gh),Rep Γ E G a.tmps w->(execOp a.eval o).run P w=.ok (.value v) w):wD P Γ o E (E.app [(d,iW (.lit v))] [(d,0)]):=by
 refine wD.value gm fun a w G gj=>?_
 exact⟨v,w,h a w G gj,_,vM gj rfl hd (fun _=>v) (fun _=>hv) (.lit v) v (by simp[mkV,Gh.put]) (by simp[R,Gh.put]) (by simp[Top])⟩
def zKF(op:BinOp)(k:IntKind)(a b:Int):Option Value:=
 match op with
 |.add=>iW (.int k (k.wrap (a+b)))
 |.sub=>iW (.int k (k.wrap (a-b)))
 |.mul=>iW (.int k (k.wrap (a*b)))
 |.quo=>if b=0 then iY else iW (.int k (k.wrap (a.tdiv b)))
 |.rem=>if b=0 then iY else iW (.int k (a.tmod b))
 |.eql=>iW (.bool (a==b))
 |.neq=>iW (.bool (a != b))
 |.lss=>iW (.bool (decide (a<b)))
 |.leq=>iW (.bool (decide (a<=b)))
 |.gtr=>iW (.bool (decide (a> b)))
 |.geq=>iW (.bool (decide (a>=b)))
 |_=>iY
theorem zSO{op:BinOp}{k:IntKind}{a b:Int}{v:Value}(h:zKF op k a b=iW v):v.oneCell'=iZ:=by cases op<;>simp[zKF]at h<;>first|(subst h;rfl)|(obtain⟨_,rfl⟩:=h;rfl)
theorem uL(op:BinOp)(xt yt:TypeId)(x y:Operand)(k:IntKind)(m n:Int)(v:Value)(ho:o.op=.binOp op xt x y yt)(gm:o.dst=iW d)(hd:d<Γ.N)
  (hx:opT E x=iW (.lit (.int k m)))(hy:opT E y=iW (.lit (.int k n)))(hv:zKF op k m n=iW v):wD P Γ o E (E.app [(d,iW (.lit v))] [(d,0)]):=by
 refine tW v (zSO hv) gm hd fun a w G gj=>?_
 have h1:=(yY gj hx).1;have h2:=(yY gj hy).1;cases op<;>simp[zKF]at hv<;>
  first
   |(subst hv;simp[execOp,ho,h1,h2,eqGuard,binOp,Op.intArith,Op.intCmp];done)
   |(obtain⟨h0,rfl⟩:=hv;simp[execOp,ho,h1,h2,eqGuard,binOp,Op.intDiv,h0])
theorem yA0(xt:TypeId)(x:Operand)(b:Bool)(ho:o.op=.unOp .not xt x)(gm:o.dst=iW d)(hd:d<Γ.N)
  (hx:opT E x=iW (.lit (.bool b))):wD P Γ o E (E.app [(d,iW (.lit (.bool !b)))] [(d,0)]):=by
 refine tW _ rfl gm hd fun a w G gj=>?_
 have h1:=(yY gj hx).1;simp[execOp,ho,h1,Op.unary]
theorem yA1(xt:TypeId)(x:Operand)(k:IntKind)(n:Int)(ho:o.op=.unOp .neg xt x)(gm:o.dst=iW d)(hd:d<Γ.N)
  (hx:opT E x=iW (.lit (.int k n))):wD P Γ o E (E.app [(d,iW (.lit (.int k (k.wrap (0-n)))))] [(d,0)]):=by
 refine tW _ rfl gm hd fun a w G gj=>?_
 have h1:=(yY gj hx).1;simp[execOp,ho,h1,Op.unary,Op.intArith]
theorem zXp(src dst:TypeId)(ds:TypeDesc)(x:Operand)(k k':IntKind)(n:Int)(ho:o.op=.convert src dst x)(gm:o.dst=iW d)(hd:d<Γ.N)
  (hs:P.underlying src=iW ds)(ht:P.underlying dst=iW (.int k'))(hx:opT E x=iW (.lit (.int k n))):
  wD P Γ o E (E.app [(d,iW (.lit (.int k' (k'.wrap n))))] [(d,0)]):=by
 refine tW _ rfl gm hd fun a w G gj=>?_
 have h1:=(yY gj hx).1;simp[execOp,ho,h1,convert,run_underlying hs,run_underlying ht,Conv.intToInt]
theorem zXq(c x y:Operand)(b:Bool)(t:T)(ho:o.op=.pick c x y)(gm:o.dst=iW d)(hd:d<Γ.N)
  (hc:opT E c=iW (.lit (.bool b)))(hx:opT E (if b then x else y)=iW t)(ht:∀xs,t≠.tup xs)
  (gk:∀s,(if b then x else y)=.tmp s->s≠d)(gA:T.okB [(d,0)] (tF (if b then x else y) t)=iZ):wD P Γ o E (E.app [(d,iW (tF (if b then x else y) t))] [(d,0)]):=by
 refine wD.value gm fun a w G gj=>?_
 obtain⟨f,hf,h1,h2⟩:=opd gj hx ht;obtain⟨h3,h4⟩:=h1 d gk gA;refine⟨a.eval (if b then x else y),w,?_,_,vM gj rfl hd f hf _ _ h3 h4 h2⟩;have h5:=(yY gj hc).1;cases b<;>simp[execOp,ho,h5,asBool]
end
def jY(E:Env):Nat->Nat->List Nat->Option (Nat×List Nat×T)
 |0,_,_=>iY
 |n+1,r,q=>match E r with
  |some t=>match t.get q.reverse with
   |some (.same r' q')=>jY E n r' q'
   |some u=>iW (r,q,u)
   |none=>iY
  |none=>iY
def tT(E:Env):Operand->Option (Nat×List Nat×T)
 |.tmp s=>jY E 4 s []
 |_=>iY
def T.single:T->Bool
 |.agg _|.tup _=>ja
 |_=>iZ
theorem xS{G:Gh}{s:Nat}{t:T}{p:List Nat}(h:t.single=iZ):mkV G s t p=G.hd s p:=by cases t<;>simp[T.single]at h<;>rfl
section
variable {P:Program}{Γ:Ctx}{E:Env}{o:Oper}{d:Nat}
theorem zDY{G:Gh}{a:Act}{w:World}(gj:Rep Γ E G a.tmps w):∀(n s:Nat)(p:List Nat)(r:Nat)(q:List Nat)(u:T),jY E n s p=iW (r,q,u)->
  R Γ.St G w r u q/\G.hd s p=G.hd r q/\(∃t,E r=iW t/\t.get q.reverse=iW u)
 |0,_,_,_,_,_,h=>by simp[jY]at h
 |n+1,s,p,r,q,u,h=>by
  simp only[jY]at h;split at h
  ·rename_i t ht
   obtain⟨_,h4,_⟩:=gj.ent _ _ ht;split at h
   ·rename_i r' q' hg
    obtain⟨h1,h2,h3⟩:=zDY gj n r' q' r q u h;have h5:=(zBk p.reverse t _ [] h4 hg).1;simp only[rp,K8,J9,R]at h5;exact⟨h1,h5.trans h2,h3⟩
   ·rename_i u' hns hg
    simp at h;obtain⟨rfl,rfl,rfl⟩:=h;have h5:=(zBk p.reverse t _ [] h4 hg).1;simp only[rp,K8,J9]at h5;exact⟨h5,rfl,t,ht,hg⟩
   ·cases h
  ·cases h
theorem jZ{G:Gh}{a:Act}{w:World}(gj:Rep Γ E G a.tmps w){x:Operand}{r:Nat}{q:List Nat}{u:T}(h:tT E x=iW (r,q,u))(hu:u.single=iZ):
  R Γ.St G w r u q/\a.eval x=G.hd r q:=by
 cases x with
 |tmp s=>
  obtain⟨h1,h2,_⟩:=zDY gj 4 s [] r q u h;refine⟨h1,?_⟩;rw[<-h2];simp only[tT,jY]at h;split at h
  ·rename_i t ht
   obtain⟨h3,_,_⟩:=gj.ent s _ ht;rw[xX h3];simp only[Hp,T.get]at h;have:t.single=iZ:=by cases t<;>first|rfl|(simp at h;obtain⟨_,_,rfl⟩:=h;simp[T.single]at hu)
   exact xS this
  ·cases h
 |_=>simp[tT]at h
theorem zH3{St:Stb}{G:Gh}{w:World}{s:Nat}{k:Nat}{xs:List T}{p:List Nat}(h:R St G w s (.sl k xs) p):∃a c,G.hd s p=.slice a xs.length c:=by
 simp only[R]at h;rcases h with⟨rfl,a,h⟩|⟨b,_,cap,_,_,h,_⟩
 ·exact⟨a,0,h⟩
 ·exact⟨_,_,h⟩
theorem zDZ{St:Stb}{G:Gh}{w:World}{s:Nat}{k:Nat}{xs:List T}{p:List Nat}(h:R St G w s (.ro (.sl k xs)) p):∃a c,G.hd s p=.slice a xs.length c/\xs.length<=c/\c<=maxLen/\
   (xs≠[]-> ∃b o' cs' e fr,a=iW ⟨b,o',iY⟩/\St b=iW (.cells cs' e fr)/\RoL St xs cs' o' k):=by
 simp only[R,RoC]at h;obtain⟨a,c,h1,h2,h3,h4⟩:=h;exact⟨a,c,by simpa using h1,h2,h3,h4⟩
def zLV:T->Option Nat
 |.sl _ xs|.ro (.sl _ xs)=>iW xs.length
 |.lit (.slice _ n _)=>iW n
 |.lit (.string s)=>iW s.size
 |_=>iY
def zXr:T->TypeDesc->Bool
 |.lit (.string _),.string=>iZ
 |.sl _ _,.slice _|.ro (.sl _ _),.slice _|.lit (.slice _ _ _),.slice _=>iZ
 |_,_=>ja
theorem zSP(x:Operand)(t:TypeId)(ds:TypeDesc)(r:Nat)(q:List Nat)(u:T)(n:Nat)(ho:o.op=.call { callee:=.builtin .len,args:=#[x],argTypes:=#[t] })(gm:o.dst=iW d)(hd:d<Γ.N)
  (ht:P.underlying t=iW ds)(hx:tT E x=iW (r,q,u))(hl:zLV u=iW n)(pW:zXr u ds=iZ):
  wD P Γ o E (E.app [(d,iW (.lit (.int .i64 n)))] [(d,0)]):=by
 refine tW (.int .i64 n) rfl gm hd fun a w G gj=>?_
 have hu:u.single=iZ:=by cases u<;>simp[zLV]at hl<;>rfl
 obtain⟨h1,h2⟩:=jZ gj hx hu;have h3:(Builtin.len_ #[t] o.type #[G.hd r q]).run P w=.ok (.int .i64 n) w:=by
  cases u with
  |sl k xs=>
   obtain⟨a',c,h4⟩:=zH3 h1;simp[zLV]at hl;subst hl;cases ds<;>simp[zXr]at pW
   simp[Builtin.len_,run_underlying ht,h4,goInt]
  |ro t'=>
   cases t'<;>simp[zLV]at hl
   obtain⟨a',c,h4,_⟩:=zDZ h1;subst hl;cases ds<;>simp[zXr]at pW
   simp[Builtin.len_,run_underlying ht,h4,goInt]
  |lit v=>
   simp only[R]at h1;cases v<;>simp[zLV]at hl<;>(subst hl;cases ds<;>simp[zXr]at pW;simp[Builtin.len_,run_underlying ht,h1,goInt])
  |_=>simp[zLV]at hl
 simp[execOp,ho,resolve,invoke,builtin,h2,h3]
theorem zCF{G:Gh}{w:World}{s:Nat}{t:T}{p:List Nat}{b o:Nat}(h:Loc G w s t p b o):G.ad s p=⟨b,o,iY⟩:=by cases t<;>simp only[Loc]at h<;>first|exact h.1|exact h.elim
theorem uE(b o n:Nat):(⟨b,o,iY⟩:Addr).add n=⟨b,o+n,iY⟩:=by
 unfold Addr.add;split
 ·rename_i h;subst h;rfl
 ·rfl
theorem zPF{St:Stb}{G:Gh}{w:World}{s:Nat}{k:Nat}{xs:List T}{p:List Nat}(h:R St G w s (.sl k xs) p){i:Nat}(hi:i<xs.length):
  ∃b o0 cap,G.hd s p=.slice (iW ⟨b,o0,iY⟩) xs.length cap/\G.ad s (i::p)=⟨b,o0+i*k,iY⟩:=by
 simp only[R]at h;rcases h with⟨rfl,_⟩|⟨b,o0,cap,cs,e,h1,h2,h3,h4,h5,h6,h7,h8⟩
 ·simp at hi
 ·have:=(zAl xs p 0 b o0 k i xs[i] h8 (by simp[hi])).1
  simp only[Jc]at this;exact⟨b,o0,cap,h1,zCF this⟩
theorem zZ5(x y:Operand)(t e:TypeId)(ti:TypeInfo)(r:Nat)(q:List Nat)(k:Nat)(xs:List T)(kd:IntKind)(i:Int)(ho:o.op=.indexAddr t x y)(gm:o.dst=iW d)(hd:d<Γ.N)
  (ht:P.underlying t=iW (.slice e))(he:P.info? e=iW ti)(hk:ti.size=k)(hx:tT E x=iW (r,q,.sl k xs))(hy:opT E y=iW (.lit (.int kd i)))(h0:0<=i)(h1:i.toNat<xs.length):
  wD P Γ o E (E.app [(d,iW (.addr r (i.toNat::q)))] [(d,0)]):=by
 refine wD.value gm fun a w G gj=>?_
 obtain⟨g1,g2⟩:=jZ gj hx rfl;have g3:=(yY gj hy).1;obtain⟨b,o0,cap,g4,g5⟩:=zPF g1 h1;refine⟨.pointer (iW (G.ad r (i.toNat::q))),w,?_,_,vM gj rfl hd (fun _=>.pointer (iW (G.ad r (i.toNat::q)))) (fun _=>rfl) _ _ (by simp[mkV,Gh.put]) (by simp[R,Gh.put]) (by simp[Top])⟩;have gJ:i<(xs.length:Int):=by omega
 simp[execOp,ho,Instr.indexAt,g3,g2,g4,asIntOf,run_underlying ht,h0,gJ,sizeOf,typeInfo,he,hk,uE,g5]
theorem zH4{St:Stb}:(xs:List T)-> ∀(cs:Array Value)(o k i:Nat)(x:T),RoL St xs cs o k->xs[i]? =iW x->RoC St x cs (o+i*k)
 | [],_,_,_,_,_,_,h=>by simp at h
 |y::ys,cs,o,k,i,x,hr,h=>by
  simp only[RoL]at hr;cases i with
  |zero=>simp at h;subst h;simpa using hr.1
  |succ i=>
   have:=zH4 ys cs (o+k) k i x hr.2 (by simpa using h)
   rwa [show o+(i+1)*k=o+k+i*k from by rw[K7];omega]
theorem zPG{St:Stb}:(xs:List T)-> ∀(cs:Array Value)(o i:Nat)(x:T),RoF St xs cs o->xs[i]? =iW x->RoC St x cs (o+T.sizes (xs.take i))
 | [],_,_,_,_,_,h=>by simp at h
 |y::ys,cs,o,i,x,hr,h=>by
  simp only[RoF]at hr;cases i with
  |zero=>simp at h;subst h;simpa[T.sizes]using hr.1
  |succ i=>
   have:=zPG ys cs (o+y.size) i x hr.2 (by simpa using h)
   rwa [Lf,T.sizes,<-H7]
theorem zSQ(x y:Operand)(t e:TypeId)(ti:TypeInfo)(r:Nat)(q:List Nat)(k:Nat)(xs:List T)(kd:IntKind)(i:Int)(u:T)(ho:o.op=.indexAddr t x y)(gm:o.dst=iW d)(hd:d<Γ.N)
  (ht:P.underlying t=iW (.slice e))(he:P.info? e=iW ti)(hk:ti.size=k)(hx:tT E x=iW (r,q,.ro (.sl k xs)))(hy:opT E y=iW (.lit (.int kd i)))(h0:0<=i)(h1:xs[i.toNat]? =iW u):
  wD P Γ o E (E.app [(d,iW (.ro (.ptr u)))] [(d,0)]):=by
 refine wD.value gm fun a w G gj=>?_
 obtain⟨g1,g2⟩:=jZ gj hx rfl;have g3:=(yY gj hy).1;have iu:i.toNat<xs.length:=(Jm.1 h1).1;obtain⟨a',c,g4,_,_,g5⟩:=zDZ g1;obtain⟨b,o',cs',e',fr,rfl,g6,g7⟩:=g5 (by rintro rfl;simp at iu);have g8:=zH4 xs cs' o' k i.toNat u g7 h1;refine⟨.pointer (iW ⟨b,o'+i.toNat*k,iY⟩),w,?_,_,vM gj rfl hd (fun _=>.pointer (iW ⟨b,o'+i.toNat*k,iY⟩)) (fun _=>rfl) _ _ (by simp[mkV,Gh.put]) ?_ (by simp[Top])⟩
 ·have gJ:i<(xs.length:Int):=by omega
  simp[execOp,ho,Instr.indexAt,g3,g2,g4,asIntOf,run_underlying ht,h0,gJ,sizeOf,typeInfo,he,hk,uE]
 ·simp only[R,Gh.put_self,RoC]
  exact⟨b,_,cs',e',fr,by simp,g6,g8⟩
theorem zDq:(xs:List T)-> ∀{G:Gh}{w:World}{s:Nat}(p:List Nat)(j b o i:Nat)(x:T),vO G w s xs p j b o->xs[i]? =iW x->
  Loc G w s x ((j+i)::p) b (o+T.sizes (xs.take i))
 | [],_,_,_,_,_,_,_,_,_,_,h=>by simp at h
 |y::ys,G,w,s,p,j,b,o,i,x,hr,h=>by
  simp only[vO]at hr;cases i with
  |zero=>simp at h;subst h;simpa[T.sizes]using hr.1
  |succ i=>
   have:=zDq ys p (j+1) b (o+y.size) i x hr.2 (by simpa using h)
   rwa [show j+(i+1)=j+1+i from by omega,Lf,T.sizes,<-H7]
theorem sM{P:Program}{w:World}(a:Addr):(Instr.sureAddr (.pointer (iW a))).run P w=.ok a w:=rfl
theorem zDr{P:Program}{w:World}{S:TypeId}{fs:Array Field}{f:Field}{fi:TypeInfo}{j:Nat}{b o':Nat}(hS:P.underlying S=iW (.struct fs))(hf:fs[j]? =iW f)(hi:P.info? f.type=iW fi)(hz:fi.size≠0):
  (Instr.fieldAt S (.pointer (iW ⟨b,o',iY⟩)) j).run P w=.ok (.pointer (iW ⟨b,o'+f.offset,iY⟩)) w:=by
 simp[Instr.fieldAt,run_underlying hS,hf,sM,fieldPlace,sizeOf,typeInfo,hi,hz,uE]
theorem yC5(x:Operand)(S:TypeId)(fs:Array Field)(f:Field)(fi:TypeInfo)(j:Nat)(r:Nat)(q:List Nat)(xs:List T)(u:T)(ho:o.op=.fieldAddr S x j)(gm:o.dst=iW d)(hd:d<Γ.N)
  (hS:P.underlying S=iW (.struct fs))(hf:fs[j]? =iW f)(hi:P.info? f.type=iW fi)(hz:fi.size≠0)(hx:tT E x=iW (r,q,.ptr (.agg xs)))(hu:xs[j]? =iW u)(gL:T.sizes (xs.take j)=f.offset:=by omega):
  wD P Γ o E (E.app [(d,iW (.addr r (j::0::q)))] [(d,0)]):=by
 refine wD.value gm fun a w G gj=>?_
 obtain⟨g1,g2⟩:=jZ gj hx rfl;simp only[R]at g1;obtain⟨b,cs,e,g4,_,_,_,g5,_⟩:=g1;simp only[Loc]at g5;have g6:=zDq xs (0::q) 0 b 0 j u g5.2 hu;simp only[Jc]at g6;refine⟨.pointer (iW (G.ad r (j::0::q))),w,?_,_,vM gj rfl hd (fun _=>.pointer (iW (G.ad r (j::0::q)))) (fun _=>rfl) _ _ (by simp[mkV,Gh.put]) (by simp[R,Gh.put]) (by simp[Top])⟩;have g7:=zDr (w:=w) (b:=b) (o':=0) hS hf hi hz;simp[execOp,ho,g2,g4,g7,zCF g6,gL]
theorem zOi(x:Operand)(S:TypeId)(fs:Array Field)(f:Field)(fi:TypeInfo)(j:Nat)(r:Nat)(q:List Nat)(t:T)(xs:List T)(u:T)(ho:o.op=.fieldAddr S x j)(gm:o.dst=iW d)(hd:d<Γ.N)
  (hS:P.underlying S=iW (.struct fs))(hf:fs[j]? =iW f)(hi:P.info? f.type=iW fi)(hz:fi.size≠0)(hx:opT E x=iW (.addr r q))(hr:E r=iW t)(hg:t.get q.reverse=iW (.agg xs))(hl:t.locd q.reverse=iZ)
  (hu:xs[j]? =iW u)(gL:T.sizes (xs.take j)=f.offset:=by omega):
  wD P Γ o E (E.app [(d,iW (.addr r (j::q)))] [(d,0)]):=by
 refine wD.value gm fun a w G gj=>?_
 cases x with
 |tmp s=>
  obtain⟨h1,h2,_⟩:=gj.ent s _ hx;obtain⟨_,h4,_⟩:=gj.ent r _ hr;simp only[R]at h2;obtain⟨b,o',cs,e,h6,_,_⟩:=(zBk q.reverse t _ [] h4 hg).2 hl;simp only[rp,K8,J9]at h6;have h7:=zCF h6;simp only[Loc]at h6;have g6:=zDq xs q 0 b o' j u h6.2 hu;simp only[Jc]at g6;refine⟨.pointer (iW (G.ad r (j::q))),w,?_,_,vM gj rfl hd (fun _=>.pointer (iW (G.ad r (j::q)))) (fun _=>rfl) _ _ (by simp[mkV,Gh.put]) (by simp[R,Gh.put]) (by simp[Top])⟩;have g7:=zDr (w:=w) (b:=b) (o':=o') hS hf hi hz;simp[execOp,ho,xX h1,mkV,h2,h7,g7,zCF g6,gL]
 |const v=>simp only[opT]at hx;split at hx<;>simp at hx
 |func f=>simp[opT]at hx
 |global g=>simp[opT]at hx
theorem zOj{G:Gh}{a:Act}{w:World}(gj:Rep Γ E G a.tmps w){x:Operand}{u:T}(hx:opT E x=iW (.ro u)):RoC Γ.St u #[a.eval x] 0:=by
 cases x with
 |tmp s=>
  obtain⟨h1,h2,_⟩:=gj.ent s _ hx;simp only[R]at h2;rw[xX h1,xS rfl];exact h2
 |const v=>simp only[opT]at hx;split at hx<;>simp at hx
 |func f=>simp[opT]at hx
 |global g=>simp[opT]at hx
theorem zSR(x:Operand)(S:TypeId)(fs:Array Field)(f:Field)(fi:TypeInfo)(j:Nat)(xs:List T)(u:T)(ho:o.op=.fieldAddr S x j)(gm:o.dst=iW d)(hd:d<Γ.N)
  (hS:P.underlying S=iW (.struct fs))(hf:fs[j]? =iW f)(hi:P.info? f.type=iW fi)(hz:fi.size≠0)(hx:opT E x=iW (.ro (.ptr (.agg xs))))(hu:xs[j]? =iW u)(gL:T.sizes (xs.take j)=f.offset:=by omega):
  wD P Γ o E (E.app [(d,iW (.ro (.ptr u)))] [(d,0)]):=by
 refine wD.value gm fun a w G gj=>?_
 have h1:=zOj gj hx;simp only[RoC]at h1;obtain⟨b,o',cs',e,fr,h2,h3,h4⟩:=h1;have h5:=zPG xs cs' o' j u h4 hu;refine⟨.pointer (iW ⟨b,o'+f.offset,iY⟩),w,?_,_,vM gj rfl hd (fun _=>.pointer (iW ⟨b,o'+f.offset,iY⟩)) (fun _=>rfl) _ _ (by simp[mkV,Gh.put]) ?_ (by simp[Top])⟩
 ·have g7:=zDr (w:=w) (b:=b) (o':=o') hS hf hi hz
  have h6:a.eval x=.pointer (iW ⟨b,o',iY⟩):=by simpa using h2
  simp[execOp,ho,h6,g7]
 ·simp only[R,Gh.put_self,RoC]
  exact⟨b,o'+f.offset,cs',e,fr,by simp,h3,by rw[<-gL];exact h5⟩
def zGf:TypeDesc->Bool
 |.struct _|.array _ _=>iZ
 |_=>ja
theorem zAo{P:Program}{w:World}{t:TypeId}{ds:TypeDesc}(ht:P.underlying t=iW ds):(isAgg t).run P w=.ok (zGf ds) w:=by cases ds<;>simp[isAgg,run_underlying ht,zGf]
theorem vD{G:Gh}{w:World}{s:Nat}{t:T}{p:List Nat}{b o:Nat}(ht:t.single=iZ)(h:Loc G w s t p b o):G.ad s p=⟨b,o,iY⟩/\G.lb b o=iW (ja,s,p)/\yL w b o=iW (G.hd s p):=by cases t<;>simp[T.single]at ht<;>simpa only[Loc]using h
mutual
theorem zSS{G:Gh}{w:World}{s:Nat}:(t:T)-> ∀(p:List Nat)(b o:Nat),Loc G w s t p b o-> ∀(i:Nat)(v:Value),(vals G s t p)[i]? =iW v->yL w b (o+i)=iW v
 |.agg xs,p,b,o,h,i,v,hv=>by simp only[Loc,vals]at h hv;exact zB0 xs p 0 b o h.2 i v hv
 |.any,p,b,o,h,i,v,hv|.lit _,p,b,o,h,i,v,hv|.ro _,p,b,o,h,i,v,hv|.same _ _,p,b,o,h,i,v,hv|.addr _ _,p,b,o,h,i,v,hv|.sub _ _ _ _ _,p,b,o,h,i,v,hv|.sl _ _,p,b,o,h,i,v,hv|.ptr _,p,b,o,h,i,v,hv=>by
  simp only[Loc,vals]at h hv;cases i with
  |zero=>simp at hv;rw[<-hv];exact h.2.2
  |succ i=>simp at hv
 |.tup _,_,_,_,h,_,_,_=>by simp only[Loc]at h
theorem zB0{G:Gh}{w:World}{s:Nat}:(xs:List T)-> ∀(p:List Nat)(j b o:Nat),vO G w s xs p j b o-> ∀(i:Nat)(v:Value),(yH G s xs p j)[i]? =iW v->yL w b (o+i)=iW v
 | [],_,_,_,_,_,i,v,hv=>by simp[yH]at hv
 |x::xs,p,j,b,o,h,i,v,hv=>by
  simp only[vO,yH]at h hv;rw[Ko]at hv;split at hv
  ·exact zSS x (j::p) b o h.1 i v hv
  ·rename_i hge
   have gn:=vH (G:=G) (s:=s) x (j::p) (fun ys e=>by subst e;simp only[Loc]at h;exact h.1);have:=zB0 xs p (j+1) b (o+x.size) h.2 _ v hv
   rwa [show o+x.size+(i-(vals G s x (j::p)).length)=o+i from by omega]at this
theorem vH{G:Gh}{s:Nat}:(t:T)-> ∀(p:List Nat),(∀xs,t≠.tup xs)->(vals G s t p).length=t.size
 |.agg xs,p,_=>by simp only[vals,T.size];exact wO xs p 0
 |.any,_,_|.lit _,_,_|.ro _,_,_|.same _ _,_,_|.addr _ _,_,_|.sub _ _ _ _ _,_,_|.sl _ _,_,_|.ptr _,_,_|.tup _,_,_=>by simp[vals,T.size]
theorem wO{G:Gh}{s:Nat}:(xs:List T)-> ∀(p:List Nat)(j:Nat),(yH G s xs p j).length=T.sizes xs
 | [],_,_=>by simp[yH,T.sizes]
 |x::xs,p,j=>by
  simp only[yH,J7,T.sizes,wO xs p (j+1)]
  by_cases hx:∃ys,x=.tup ys
  ·obtain⟨ys,rfl⟩:=hx;simp[vals,T.size]
  ·rw[vH x (j::p) (fun ys e=>hx ⟨ys,e⟩)]
end
theorem zGX{P:Program}{G:Gh}{w:World}{s:Nat}{t:T}{p:List Nat}{b o':Nat}{T':TypeId}{ds:TypeDesc}{ti:TypeInfo}(hT:P.underlying T'=iW ds)(hi:P.info? T'=iW ti)(hl:Loc G w s t p b o')
  (fD:zGf ds= !t.single)(gE:ti.size=t.size):(loadVar T' ⟨b,o',iY⟩).run P w=.ok (sZ G s t p) w:=by
 cases t with
 |agg xs=>
  have h1:=run_loadCells_list (P:=P) (w:=w) ⟨b,o',iY⟩ (yH G s xs p 0) (fun j v hv=>by rw[uE];simp only[Loc]at hl;exact zB0 xs p 0 b o' hl.2 j v hv)
  rw[wO]at h1;simp only[T.size]at gE;simp[T.single]at fD;simp[loadVar,zAo hT,fD,sizeOf,typeInfo,hi,gE,h1,sZ]
 |tup xs=>simp only[Loc]at hl
 |_=>
  have h1:=(vD rfl hl).2.2;simp[T.single]at fD;simp only[yL]at h1;simp[loadVar,zAo hT,fD,load,Sem.run,h1,sZ]
def zDg(Γ:Ctx)(E:Env)(x:Operand)(r:Nat)(q:List Nat):Prop:=∀(a:Act)(w:World)(G:Gh),Rep Γ E G a.tmps w->a.eval x=.pointer (iW (G.ad r q))
theorem zDg.addr{x:Operand}{r:Nat}{q:List Nat}(hx:opT E x=iW (.addr r q)):zDg Γ E x r q:=fun a w G gj=>by
 cases x with
 |tmp s=>
  obtain⟨h1,h2,_⟩:=gj.ent s _ hx;simp only[R]at h2;rw[xX h1];exact h2
 |const v=>simp only[opT]at hx;split at hx<;>simp at hx
 |func f=>simp[opT]at hx
 |global g=>simp[opT]at hx
theorem zDg.ptr{x:Operand}{r:Nat}{q:List Nat}{t:T}(hx:tT E x=iW (r,q,.ptr t)):zDg Γ E x r (0::q):=fun a w G gj=>by obtain⟨g1,g2⟩:=jZ gj hx rfl;simp only[R]at g1;obtain⟨b,cs,e,g4,_,_,_,g5,_⟩:=g1;rw[g2,g4,zCF g5]
theorem zLW(x:Operand)(T':TypeId)(ds:TypeDesc)(ti:TypeInfo)(r:Nat)(q:List Nat)(t u:T)(ho:o.op=.load T' x)(gm:o.dst=iW d)(hd:d<Γ.N)
  (hT:P.underlying T'=iW ds)(hi:P.info? T'=iW ti)(fD:zGf ds= !u.single)(gE:ti.size=u.size)
  (hx:zDg Γ E x r q)(hr:E r=iW t)(hg:t.get q.reverse=iW u)(hl:t.locd q.reverse=iZ)(gP:r≠d)(gA:T.okB [(d,0)] (cpT r u q)=iZ):
  wD P Γ o E (E.app [(d,iW (cpT r u q))] [(d,0)]):=by
 refine wD.value gm fun a w G gj=>?_
 have bn:=hx a w G gj;obtain⟨_,h4,_⟩:=gj.ent r _ hr;obtain⟨h5,h6⟩:=zBk q.reverse t u [] h4 hg;obtain⟨b,o',cs,e,h6,_,_⟩:=h6 hl;simp only[rp,K8,J9]at h5 h6;have er:∀xs,u≠.tup xs:=by rintro xs rfl;simp only[Loc]at h6
 have h7:=zCF h6;have hz:∀z,(G.put d (fun z=>G.hd r (z++q))).hd d (z++[])=G.hd r (z++q):=fun z=>by rw[Gh.put_self,J9]
 have hk:=G.put_keep (w:=w) (w':=w) rfl d (fun z=>G.hd r (z++q));refine⟨sZ G r u q,w,?_,_,vM gj rfl hd (fun z=>G.hd r (z++q)) (fun z=>gj.mem.one _ _) _ _ (zB5 u q [] er hz).symm
  (zEH (fun p=>G.put_other _ p gP) u q [] hz er (hk.keepR (zBq _ (jQ r u q) gA)) h5) (jQ r u q)⟩
 have h8:=zGX (T':=T') hT hi h6 fD gE;simp[execOp,ho,bn,h7,Instr.loadAt,sM,h8]
theorem zXs(x:Operand)(T':TypeId)(ds:TypeDesc)(ti:TypeInfo)(r:Nat)(q:List Nat)(t u:T)(ho:o.op=.load T' x)(gm:o.dst=iW d)(hd:d<Γ.N)
  (hT:P.underlying T'=iW ds)(hi:P.info? T'=iW ti)(fD:zGf ds= !u.single)(gE:ti.size=u.size)
  (hx:opT E x=iW (.addr r q))(hr:E r=iW t)(hg:t.get q.reverse=iW u)(hl:t.locd q.reverse=iZ)(gP:r≠d)(gA:T.okB [(d,0)] (cpT r u q)=iZ):
  wD P Γ o E (E.app [(d,iW (cpT r u q))] [(d,0)]):=zLW x T' ds ti r q t u ho gm hd hT hi fD gE (zDg.addr hx) hr hg hl gP gA
def roT:T->T
 |.lit v=>.lit v
 |.agg xs=>.agg (roTs xs)
 |.ro t=>.ro (.ro t)
 |.any=>.any
 |.same r q=>.ro (.same r q)
 |.addr r q=>.ro (.addr r q)
 |.sub r q k lo hi=>.ro (.sub r q k lo hi)
 |.sl k xs=>.ro (.sl k xs)
 |.ptr t=>.ro (.ptr t)
 |.tup xs=>.ro (.tup xs)
where roTs:List T->List T
 | []=>[]
 |x::xs=>roT x::roTs xs
end
def zAp(v:Value):Value:=if v.oneCell' then v else .bool ja
theorem zCj(v:Value):(zAp v).oneCell'=iZ:=by
 unfold zAp;split
 ·assumption
 ·rfl
theorem zBr{v:Value}(h:v.oneCell'=iZ):zAp v=v:=by simp[zAp,h]
def zEJ:T->Array Value->Nat->List Nat->Value
 |.agg xs,cs,o,i::f=>match xs[i]? with
  |some x=>zEJ x cs (o+T.sizes (xs.take i)) f
  |none=>.bool ja
 |_,cs,o,_=>cs.getD o (.bool ja)
termination_by structural _ _ _ f=>f
theorem zBR{t:T}(h:t.single=iZ)(cs:Array Value)(o:Nat)(f:List Nat):zEJ t cs o f=cs.getD o (.bool ja):=by cases t<;>simp[T.single]at h<;>cases f<;>rfl
mutual
theorem zFr:(u:T)->(∀xs,u≠.tup xs)->(roT u).size=u.size
 |.agg xs,_=>by simp only[roT,T.size];exact zGg xs
 |.lit _,_|.any,_|.sl _ _,_|.ptr _,_|.ro _,_|.same _ _,_|.addr _ _,_|.sub _ _ _ _ _,_|.tup _,_=>by simp[roT,T.size]
theorem zGg:(xs:List T)->T.sizes (roT.roTs xs)=T.sizes xs
 | []=>by simp only[roT.roTs]
 |x::xs=>by
  simp only[roT.roTs,T.sizes,zGg xs]
  by_cases hx:∃ys,x=.tup ys
  ·obtain⟨ys,rfl⟩:=hx;simp[roT,T.size]
  ·rw[zFr x (fun ys e=>hx ⟨ys,e⟩)]
end
section
variable {St:Stb}{G:Gh}{w:World}{d:Nat}
theorem zHQ{u:T}{cs:Array Value}{o:Nat}(hu:u.single=iZ)(h:RoC St u cs o):∃v,cs[o]? =iW v/\v.oneCell'=iZ/\RoC St u #[v] 0:=by
 cases u<;>simp[T.single]at hu<;>simp only[RoC]at h ⊢
 ·obtain⟨v,h1,h2⟩:=h;exact⟨v,h1,h2,v,by simp,h2⟩
 ·exact⟨_,h.1,h.2,by simp,h.2⟩
 ·obtain⟨f,vs,h1,h2⟩:=h;exact⟨_,h1,rfl,f,vs,by simp,h2⟩
 ·obtain⟨a,c,h1,h2⟩:=h;exact⟨_,h1,rfl,a,c,by simp,h2⟩
 ·obtain⟨b,o',cs',e,fr,h1,h2⟩:=h;exact⟨_,h1,rfl,b,o',cs',e,fr,by simp,h2⟩
mutual
theorem zST:(u:T)-> ∀(cs:Array Value)(o:Nat)(p:List Nat),(∀z,G.hd d (z++p)=zAp (zEJ u cs o z.reverse))->RoC St u cs o->R St G w d (roT u) p
 |.agg xs,cs,o,p,hd,h=>by
  simp only[roT,R,RoC]at h ⊢
  exact zSU xs cs o p 0 o (by simp) (fun z j x hx=>by have:=hd (z++[j]);simp only[Jh,Kc,Jv,Qa,Hx,Hp,zEJ]at this;rw[Jc,this];simp[hx]) h
 |.lit v,cs,o,p,hd,h=>by
  simp only[roT,R,RoC]at h ⊢
  have:=hd [];rw[Jv,zBR rfl]at this;rw[this];simp[Kj,h.1,zBr h.2]
 |.any,_,_,_,_,_=>by simp only[roT,R]
 |.ro _,cs,o,p,hd,h|.sl _ _,cs,o,p,hd,h|.ptr _,cs,o,p,hd,h=>by obtain⟨v,h1,h2,h3⟩:=zHQ rfl h;have:=hd [];rw[Jv,zBR rfl]at this;simp only[roT,R];rw[this];simpa[Kj,h1,zBr h2]using h3
 |.same _ _,_,_,_,_,h|.addr _ _,_,_,_,_,h|.sub _ _ _ _ _,_,_,_,_,h|.tup _,_,_,_,_,h=>by simp only[RoC]at h
theorem zSU:(xs:List T)-> ∀(cs:Array Value)(o0:Nat)(p:List Nat)(j o:Nat),o0<=o->(∀z i x,xs[i]? =iW x->G.hd d (z++((j+i)::p))=zAp (zEJ x cs (o+T.sizes (xs.take i)) z.reverse))->RoF St xs cs o->RF St G w d (roT.roTs xs) p j
 | [],_,_,_,_,_,_,_,_=>by simp only[roT.roTs,RF]
 |x::xs,cs,o0,p,j,o,ho,hd,h=>by
  simp only[roT.roTs,RF,RoF]at h ⊢
  refine⟨zST x cs o (j::p) (fun z=>by simpa[T.sizes]using hd z 0 x (by simp)) h.1,zSU xs cs o0 p (j+1) (o+x.size) (by omega) (fun z i y hy=>?_) h.2⟩;have:=hd z (i+1) y (by simpa using hy);simp only[Lf,T.sizes]at this;rw[show j+1+i=j+(i+1)from by omega,show o+x.size+T.sizes (xs.take i)=o+(x.size+T.sizes (xs.take i))from H7 ..];exact this
end
mutual
theorem zHR:(u:T)-> ∀(cs:Array Value)(o:Nat)(p:List Nat),(∀z,G.hd d (z++p)=zAp (zEJ u cs o z.reverse))->RoC St u cs o-> ∀(i:Nat)(v:Value),(vals G d (roT u) p)[i]? =iW v->cs[o+i]? =iW v
 |.agg xs,cs,o,p,hd,h,i,v,hv=>by
  simp only[roT,vals,RoC]at h hv;exact zJH xs cs p 0 o (fun z j x hx=>by have:=hd (z++[j]);simp only[Jh,Kc,Jv,Qa,Hx,Hp,zEJ]at this;rw[Jc,this];simp[hx]) h i v hv
 |.lit _,cs,o,p,hd,h,i,v,hv|.ro _,cs,o,p,hd,h,i,v,hv|.any,cs,o,p,hd,h,i,v,hv|.sl _ _,cs,o,p,hd,h,i,v,hv|.ptr _,cs,o,p,hd,h,i,v,hv=>by
  obtain⟨v',h1,h2,h3⟩:=zHQ rfl h;have:=hd [];rw[Jv,zBR rfl]at this;simp only[roT,vals]at hv;cases i with
  |zero=>
   simp at hv;rw[<-hv,this];simp[Kj,h1,zBr h2]
  |succ i=>simp at hv
 |.same _ _,_,_,_,_,h,_,_,_|.addr _ _,_,_,_,_,h,_,_,_|.sub _ _ _ _ _,_,_,_,_,h,_,_,_|.tup _,_,_,_,_,h,_,_,_=>by simp only[RoC]at h
theorem zJH:(xs:List T)-> ∀(cs:Array Value)(p:List Nat)(j o:Nat),(∀z i x,xs[i]? =iW x->G.hd d (z++((j+i)::p))=zAp (zEJ x cs (o+T.sizes (xs.take i)) z.reverse))->RoF St xs cs o-> ∀(i:Nat)(v:Value),(yH G d (roT.roTs xs) p j)[i]? =iW v->cs[o+i]? =iW v
 | [],_,_,_,_,_,_,i,v,hv=>by simp[roT.roTs,yH]at hv
 |x::xs,cs,p,j,o,hd,h,i,v,hv=>by
  simp only[roT.roTs,yH,RoF]at h hv;have hx:∀z,G.hd d (z++(j::p))=zAp (zEJ x cs o z.reverse):=fun z=>by simpa[T.sizes]using hd z 0 x (by simp)
  have gn:(vals G d (roT x) (j::p)).length=x.size:=by have hs:(roT x).size=x.size:=zFr x (fun ys e=>by subst e;simp only[RoC]at h;exact h.1);rw[vH (roT x) (j::p) (fun ys e=>by cases x<;>simp[roT]at e),hs]
  rw[Ko]at hv;split at hv
  ·exact zHR x cs o (j::p) hx h.1 i v hv
  ·have:=zJH xs cs p (j+1) (o+x.size) (fun z i y hy=>by
    have:=hd z (i+1) y (by simpa using hy);simp only[Lf,T.sizes]at this;rw[show j+1+i=j+(i+1)from by omega,show o+x.size+T.sizes (xs.take i)=o+(x.size+T.sizes (xs.take i))from H7 ..];exact this) h.2 _ v hv
   rwa [gn,show o+x.size+(i-x.size)=o+i from by omega]at this
end
mutual
theorem zPH:(u:T)->Top (roT u)
 |.agg xs=>by simp only[roT,Top];exact zLX xs
 |.lit _|.any|.sl _ _|.ptr _|.ro _|.same _ _|.addr _ _|.sub _ _ _ _ _|.tup _=>by simp[roT,Top]
theorem zLX:(xs:List T)->uQ (roT.roTs xs)
 | []=>by simp only[roT.roTs,uQ]
 |x::xs=>by simp only[roT.roTs,uQ];exact⟨zPH x,zLX xs⟩
end
end
section
variable {P:Program}{Γ:Ctx}{E:Env}{o:Oper}{d:Nat}
theorem zPI{G:Gh}{w:World}(hm:Mem Γ G w){b:Nat}{cs:Array Value}{e:TypeId}{fr:Nat×Nat}(h:Γ.St b=iW (.cells cs e fr))(i:Nat):w.cell? ⟨b,i,iY⟩=cs[i]?:=by simp[World.cell?,hm.st b _ h]
theorem zOl(x:Operand)(T':TypeId)(ds:TypeDesc)(ti:TypeInfo)(u:T)(ho:o.op=.load T' x)(gm:o.dst=iW d)(hd:d<Γ.N)
  (hT:P.underlying T'=iW ds)(hi:P.info? T'=iW ti)(fD:zGf ds= !u.single)(gE:ti.size=u.size)
  (hx:opT E x=iW (.ro (.ptr u))):wD P Γ o E (E.app [(d,iW (roT u))] [(d,0)]):=by
 refine wD.value gm fun a w G gj=>?_
 have h1:=zOj gj hx;simp only[RoC]at h1;obtain⟨b,o',cs',e,fr,h2,h3,h4⟩:=h1;have cm:a.eval x=.pointer (iW ⟨b,o',iY⟩):=by simpa using h2
 have er:∀xs,u≠.tup xs:=by rintro xs rfl;simp only[RoC]at h4
 let f:List Nat->Value:=fun z=>zAp (zEJ u cs' o' z.reverse)
 have hz:∀z,(G.put d f).hd d (z++[])=zAp (zEJ u cs' o' z.reverse):=fun z=>by rw[Gh.put_self,J9]
 refine⟨mkV (G.put d f) d (roT u) [],w,?_,_,vM gj rfl hd f (fun z=>zCj _) _ _ rfl (zST u cs' o' [] hz h4) (zPH u)⟩;cases u with
 |agg xs=>
  have h5:∀j v,(yH (G.put d f) d (roT.roTs xs) [] 0)[j]? =iW v->w.cell? ((⟨b,o',iY⟩:Addr).add j)=iW v:=by intro j v hv;rw[uE,zPI gj.mem h3];exact zHR (.agg xs) cs' o' [] hz h4 j v (by simpa only[roT,vals]using hv)
  have h6:=run_loadCells_list (P:=P) (w:=w) ⟨b,o',iY⟩ _ h5;rw[wO,zGg]at h6;simp only[T.size]at gE;simp[T.single]at fD;simp[execOp,ho,cm,Instr.loadAt,sM,loadVar,zAo hT,fD,sizeOf,typeInfo,hi,gE,h6,mkV,roT]
 |tup xs=>exact absurd rfl (er xs)
 |_=>
  obtain⟨v,h5,h6,h7⟩:=zHQ rfl h4;have h8:w.cell? ⟨b,o',iY⟩=iW v:=by rw[zPI gj.mem h3];exact h5
  simp[T.single]at fD;have h9:f []=v:=by show zAp (zEJ _ cs' o' _)=v;rw[zBR rfl];simp[Kj,h5,zBr h6]
  simp[execOp,ho,cm,Instr.loadAt,sM,loadVar,zAo hT,fD,load,Sem.run,h8,mkV,roT,Gh.put_self,h9]
def zGY(E:Env)(x:Operand):Bool:=
 match opT E x with
 |some (.addr _ _)|some (.ro (.ptr _))=>iZ
 |_=>match tT E x with
  |some (_,_,.ptr _)=>iZ
  |some (_,_,.ro (.ptr _))=>iZ
  |_=>ja
theorem zSV{G:Gh}{a:Act}{w:World}(gj:Rep Γ E G a.tmps w){x:Operand}(h:zGY E x=iZ):∃ad,a.eval x=.pointer (iW ad):=by
 unfold zGY at h;split at h
 ·rename_i r q hx
  cases x with
  |tmp s=>
   obtain⟨h1,h2,_⟩:=gj.ent s _ hx;simp only[R]at h2;exact⟨_,by rw[xX h1,xS rfl,h2]⟩
  |const v=>simp only[opT]at hx;split at hx<;>simp at hx
  |func f=>simp[opT]at hx
  |global g=>simp[opT]at hx
 ·rename_i u hx
  have:=zOj gj hx;simp only[RoC]at this;obtain⟨b,o',_,_,_,h1,_⟩:=this;exact⟨_,by simpa using h1⟩
 ·split at h
  ·rename_i hl
   obtain⟨h1,h2⟩:=jZ gj hl rfl;simp only[R]at h1;obtain⟨b,cs,e,h3,_⟩:=h1;exact⟨_,by rw[h2,h3]⟩
  ·rename_i hl
   obtain⟨h1,h2⟩:=jZ gj hl rfl;simp only[R,RoC]at h1;obtain⟨b,o',_,_,_,h3,_⟩:=h1;exact⟨_,by rw[h2];simpa using h3⟩
  ·cases h
theorem yA2(x:Operand)(t:T)(ho:o.op=.nilCheck x)(gm:o.dst=iW d)(hd:d<Γ.N)(hx:opT E x=iW t)(hp:zGY E x=iZ)(ht:∀xs,t≠.tup xs)
  (gk:∀s,x=.tmp s->s≠d)(gA:T.okB [(d,0)] (tF x t)=iZ):wD P Γ o E (E.app [(d,iW (tF x t))] [(d,0)]):=by
 refine wD.value gm fun a w G gj=>?_
 obtain⟨f,hf,h1,h2⟩:=opd gj hx ht;obtain⟨h3,h4⟩:=h1 d gk gA;obtain⟨ad,h5⟩:=zSV gj hp;refine⟨a.eval x,w,?_,_,vM gj rfl hd f hf _ _ h3 h4 h2⟩;simp[execOp,ho,h5]
theorem zLY{G:Gh}{s:Nat}:(xs:List T)-> ∀(p:List Nat)(j i:Nat)(x:T),xs[i]? =iW x->(zAN G s xs p j)[i]? =iW (sZ G s x ((j+i)::p))
 | [],_,_,_,_,h=>by simp at h
 |y::ys,p,j,i,x,h=>by
  cases i with
  |zero=>simp at h;subst h;simp[zAN]
  |succ i=>
   have:=zLY (G:=G) (s:=s) ys p (j+1) i x (by simpa using h);rw[show j+(i+1)=j+1+i from by omega];simpa[zAN]using this
theorem zOm(s i:Nat)(ts:List T)(t:T)(ho:o.op=.extract (.tmp s) i)(gm:o.dst=iW d)(hd:d<Γ.N)(hs:E s=iW (.tup ts))(hi:ts[i]? =iW t)(ht:∀xs,t≠.tup xs)
  (gk:s≠d)(gA:T.okB [(d,0)] (cpT s t [i])=iZ):wD P Γ o E (E.app [(d,iW (cpT s t [i]))] [(d,0)]):=by
 refine wD.value gm fun a w G gj=>?_
 obtain⟨h1,h2,_⟩:=gj.ent s _ hs;simp only[R]at h2;have h3:=zCb ts [] 0 i t h2 hi;simp only[Jc]at h3;have h4:=zLY (G:=G) (s:=s) ts [] 0 i t hi;simp only[Jc]at h4;have hk:=G.put_keep (w:=w) (w':=w) rfl d (fun z=>G.hd s (z++[i]));have hz:∀z,(G.put d (fun z=>G.hd s (z++[i]))).hd d (z++[])=G.hd s (z++[i]):=fun z=>by rw[Gh.put_self,J9]
 refine⟨sZ G s t [i],w,?_,_,vM gj rfl hd (fun z=>G.hd s (z++[i])) (fun z=>gj.mem.one _ _) _ _ (zB5 t [i] [] ht hz).symm
  (zEH (fun p=>G.put_other _ p gk) t [i] [] hz ht (hk.keepR (zBq _ (jQ s t [i]) gA)) h3) (jQ s t [i])⟩
 simp[execOp,ho,xX h1,mkV,Instr.extract,h4]
def zAP(E:Env)(x:Option Operand)(dflt n:Nat):Prop:=
 match x with
 |none=>n=dflt
 |some y=> ∃kd,opT E y=iW (.lit (.int kd n))
theorem zHS{St:Stb}:(xs:List T)-> ∀(cs:Array Value)(o k l:Nat),RoL St xs cs o k->RoL St (xs.drop l) cs (o+l*k) k
 | [],_,_,_,_,_=>by simp[RoL]
 |x::xs,cs,o,k,l,h=>by
  cases l with
  |zero=>simpa using h
  |succ l=>
   simp only[RoL]at h;have:=zHS xs cs (o+k) k l h.2
   rwa [List.drop_succ_cons,show o+(l+1)*k=o+k+l*k from by rw[K7];omega]
theorem zHT{St:Stb}:(xs:List T)-> ∀(cs:Array Value)(o k l:Nat),RoL St xs cs o k->RoL St (xs.take l) cs o k
 | [],_,_,_,_,_=>by simp[RoL]
 |x::xs,cs,o,k,l,h=>by
  cases l with
  |zero=>simp[RoL]
  |succ l=>simp only[RoL,Lf]at h ⊢;exact⟨h.1,zHT xs cs _ k l h.2⟩
theorem kL{P:Program}{G:Gh}{a:Act}{w:World}(gj:Rep Γ E G a.tmps w){x:Operand}{kd:IntKind}{n y:Nat}{c:BoundsCode}(hx:opT E x=iW (.lit (.int kd n)))(h:n<=y):
  (Instr.sliceBound (a.eval x) y c).run P w=.ok n w:=by
 rw[(yY gj hx).1];have:(n:Int)<=(y:Int):=by omega
 simp[Instr.sliceBound,asIntOf,this]
theorem zHU{P:Program}{G:Gh}{a:Act}{w:World}(gj:Rep Γ E G a.tmps w){lo hi:Option Operand}{l h n c:Nat}(gZ:zAP E lo 0 l)(ey:zAP E hi n h)(h1:l<=h)(h2:h<=c):
  (Instr.sliceBounds iZ n c (lo.map a.eval) (hi.map a.eval) iY).run P w=.ok (l,h,c) w:=by
 cases lo with
 |none=>
  cases hi with
  |none=>simp only[zAP]at gZ ey;subst gZ;subst ey;simp[Instr.sliceBounds]
  |some y=>simp only[zAP]at gZ ey;obtain⟨kd,hy⟩:=ey;subst gZ;simp[Instr.sliceBounds,kL gj hy h2]
 |some x=>
  obtain⟨kd,hx⟩:=gZ;cases hi with
  |none=>simp only[zAP]at ey;subst ey;simp[Instr.sliceBounds,kL gj hx h1]
  |some y=>obtain⟨kd',hy⟩:=ey;simp[Instr.sliceBounds,kL gj hy h2,kL gj hx h1]
theorem zLZ(x:Operand)(lo hi:Option Operand)(t e:TypeId)(ti:TypeInfo)(r:Nat)(q:List Nat)(k:Nat)(xs:List T)(l h:Nat)(ho:o.op=.slice t x lo hi iY)(gm:o.dst=iW d)(hd:d<Γ.N)
  (ht:P.underlying t=iW (.slice e))(he:P.info? e=iW ti)(hk:ti.size=k)(hx:tT E x=iW (r,q,.ro (.sl k xs)))(gZ:zAP E lo 0 l)(ey:zAP E hi xs.length h)(h1:l<=h)(h2:h<=xs.length):
  wD P Γ o E (E.app [(d,iW (.ro (.sl k ((xs.drop l).take (h-l)))))] [(d,0)]):=by
 refine wD.value gm fun a w G gj=>?_
 obtain⟨g1,g2⟩:=jZ gj hx rfl;obtain⟨a',c,g4,g5,g6,g7⟩:=zDZ g1;have g8:=zHU (P:=P) gj gZ ey h1 (Hs h2 g5);have gn:((xs.drop l).take (h-l)).length=h-l:=by simp;omega
 refine⟨.slice (if c=l then a' else a'.map (·.add (l*k))) (h-l) (c-l),w,?_,_,vM gj rfl hd (fun _=>.slice (if c=l then a' else a'.map (·.add (l*k))) (h-l) (c-l)) (fun _=>rfl) _ _ (by simp[mkV,Gh.put]) ?_ (by simp[Top])⟩
 ·simp only[execOp,ho,Ja4]
  simp[Instr.sliceAt,Instr.slice,run_underlying ht,g2,g4,g8,sizeOf,typeInfo,he,hk]
 ·simp only[R,Gh.put_self,RoC]
  refine⟨_,_,by rw[gn];rfl,by omega,by omega,?_⟩;intro gk;have eM:xs≠[]:=by rintro rfl;simp at gk
  obtain⟨b,o',cs',e',fr,rfl,h3,h4⟩:=g7 eM;have gy:c≠l:=by rintro rfl;apply gk;apply K6;omega
  exact⟨b,o'+l*k,cs',e',fr,by simp[gy,uE],h3,zHT _ _ _ _ _ (zHS _ _ _ _ _ h4)⟩
theorem zKG(x:Operand)(lo hi:Option Operand)(t e:TypeId)(ti:TypeInfo)(r:Nat)(q:List Nat)(k:Nat)(xs:List T)(l h:Nat)(ho:o.op=.slice t x lo hi iY)(gm:o.dst=iW d)(hd:d<Γ.N)
  (ht:P.underlying t=iW (.slice e))(he:P.info? e=iW ti)(hk:ti.size=k)(hx:tT E x=iW (r,q,.sl k xs))(gZ:zAP E lo 0 l)(ey:zAP E hi xs.length h)(h1:l<=h)(h2:h<=xs.length)(gP:r≠d):
  wD P Γ o E (E.app [(d,iW (.sub r q k l h))] [(d,0)]):=by
 refine wD.value gm fun a w G gj=>?_
 obtain⟨g1,g2⟩:=jZ gj hx rfl;obtain⟨a',c,g4⟩:=zH3 g1;have g5:xs.length<=c:=by
  simp only[R]at g1;rcases g1 with⟨rfl,_⟩|⟨b,o0,cap,cs,e,g,_,g',_⟩
  ·simp
  ·rw[g4]at g;simp at g;omega
 have g8:=zHU (P:=P) gj gZ ey h1 (Hs h2 g5);refine⟨zB3 (G.hd r q) k l h,w,?_,_,vM gj rfl hd (fun _=>zB3 (G.hd r q) k l h) (fun _=>by rw[g4];rfl) _ _ (by simp[mkV,Gh.put]) ?_ (by simp[Top])⟩
 ·simp only[execOp,ho,Ja4]
  simp[Instr.sliceAt,Instr.slice,run_underlying ht,g2,g4,g8,sizeOf,typeInfo,he,hk,zB3]
 ·simp only[R,Gh.put_self]
  rw[Gh.put_other _ _ _ gP]
end
def T.inT:T->List Nat->Bool
 |_,[]=>iZ
 |.agg xs,i::f=>match xs[i]? with
  |some x=>x.inT f
  |none=>ja
 |.any,_::_|.lit _,_::_|.ro _,_::_|.same _ _,_::_|.addr _ _,_::_|.sub _ _ _ _ _,_::_|.sl _ _,_::_|.ptr _,_::_|.tup _,_::_=>ja
termination_by structural _ f=>f
def T.offT:T->List Nat->Nat
 |_,[]=>0
 |.agg xs,i::f=>match xs[i]? with
  |some x=>T.sizes (xs.take i)+x.offT f
  |none=>0
 |.any,_::_|.lit _,_::_|.ro _,_::_|.same _ _,_::_|.addr _ _,_::_|.sub _ _ _ _ _,_::_|.sl _ _,_::_|.ptr _,_::_|.tup _,_::_=>0
termination_by structural _ f=>f
theorem zHV{t:T}(h:t.single=iZ){f:List Nat}(hf:f≠[]):t.inT f=ja:=by
 cases f with
 |nil=>grind
 |cons i f=>cases t<;>simp[T.single]at h<;>rfl
mutual
def zSW:T->List Nat->Nat->Option (List Nat)
 |.agg xs,p,o=>zDs xs p 0 o
 |.any,p,o|.lit _,p,o|.ro _,p,o|.same _ _,p,o|.addr _ _,p,o|.sub _ _ _ _ _,p,o|.sl _ _,p,o|.ptr _,p,o|.tup _,p,o=>if o=0 then iW p else iY
def zDs:List T->List Nat->Nat->Nat->Option (List Nat)
 | [],_,_,_=>iY
 |x::xs,p,j,o=>if o<x.size then zSW x (j::p) o else zDs xs p (j+1) (o-x.size)
end
mutual
def T.okTup:T->Bool
 |.tup _=>ja
 |.agg xs=>yM xs
 |.any|.lit _|.ro _|.same _ _|.addr _ _|.sub _ _ _ _ _|.sl _ _|.ptr _=>iZ
def yM:List T->Bool
 | []=>iZ
 |x::xs=>x.okTup&&yM xs
end
theorem zEK:(xs:List T)-> ∀(p:List Nat)(j o:Nat),T.sizes xs<=o->zDs xs p j o=iY
 | [],_,_,_,_=>by rfl
 |x::xs,p,j,o,h=>by simp only[T.sizes]at h;simp only[zDs];rw[if_neg (by omega)];exact zEK xs p (j+1) _ (by omega)
section
variable {G:Gh}{w:World}{d:Nat}
mutual
theorem yA3:(x:T)-> ∀(p:List Nat)(B o:Nat),(∀xs,x≠.tup xs)->x.okTup=iZ->
  (∀f,x.inT f=iZ->G.ad d (f.reverse++p)=⟨B,o+x.offT f,iY⟩)->(∀j p',j<x.size->zSW x p j=iW p'->G.lb B (o+j)=iW (ja,d,p'))->
  (∀j v,(vals G d x p)[j]? =iW v->yL w B (o+j)=iW v)->Loc G w d x p B o
 |.agg xs,p,B,o,_,hn,ha,hl,hc=>by
  simp only[Loc];refine⟨by simpa[T.offT]using ha [] rfl,zH5 xs p 0 B o (by grind[T.okTup]) (fun i x hx f hf=>?_) (fun j p' hj hp=>?_) (by grind[vals])⟩
  ·have:=ha (i::f) (by grind[T.inT])
   grind[T.offT]
  grind[T.size,zSW]
 |.any,p,B,o,_,_,ha,hl,hc|.lit _,p,B,o,_,_,ha,hl,hc|.ro _,p,B,o,_,_,ha,hl,hc|.same _ _,p,B,o,_,_,ha,hl,hc|.addr _ _,p,B,o,_,_,ha,hl,hc|.sub _ _ _ _ _,p,B,o,_,_,ha,hl,hc|.sl _ _,p,B,o,_,_,ha,hl,hc|.ptr _,p,B,o,_,_,ha,hl,hc=>by simp only[Loc];exact⟨by simpa[T.offT]using ha [] rfl,by simpa using hl 0 p (by simp[T.size]) (by rfl),by simpa using hc 0 (G.hd d p) (by simp[vals])⟩
 |.tup xs,_,_,_,h,_,_,_,_=>absurd rfl (h xs)
theorem zH5:(xs:List T)-> ∀(p:List Nat)(j B o:Nat),yM xs=iZ->
  (∀i x,xs[i]? =iW x-> ∀f,x.inT f=iZ->G.ad d (f.reverse++((j+i)::p))=⟨B,o+(T.sizes (xs.take i)+x.offT f),iY⟩)->
  (∀i p',i<T.sizes xs->zDs xs p j i=iW p'->G.lb B (o+i)=iW (ja,d,p'))->
  (∀i v,(yH G d xs p j)[i]? =iW v->yL w B (o+i)=iW v)->vO G w d xs p j B o
 | [],_,_,_,_,_,_,_,_=>by simp only[vO]
 |x::xs,p,j,B,o,hn,ha,hl,hc=>by
  simp only[yM,J3]at hn;have er:∀ys,x≠.tup ys:=by rintro ys rfl;grind[T.okTup]
  simp only[vO];refine⟨yA3 x (j::p) B o er hn.1 (fun f hf=>by simpa[T.sizes]using ha 0 x (by simp) f hf) (fun i p' hi hp=>hl i p' (by grind[T.sizes]) (by simp only[zDs,hi,if_true];exact hp)) (fun i v hv=>hc i v ?_),
   zH5 xs p (j+1) B (o+x.size) hn.2 (fun i y hy f hf=>?_) (fun i p' hi hp=>?_) (fun i v hv=>?_)⟩
  ·grind[yH]
  ·have:=ha (i+1) y (by grind) f hf
   grind[T.sizes]
  ·have:=hl (x.size+i) p' (by grind[T.sizes]) (by simp only[zDs];grind)
   grind
  ·have:=hc (x.size+i) v (by
    grind[yH,vH])
   grind
end
end
structure MvC (G:Gh) (w:World) (G':Gh) (w':World) (s:Nat) (p:List Nat) (s':Nat) (p':List Nat) (t:T):Prop where
 hd:∀z,G'.hd s' (z++p')=G.hd s (z++p)
 ad:∀z,t.inT z.reverse=ja->G'.ad s' (z++p')=G.ad s (z++p)
 lb:∀b o f z,(f=iZ\/t.inT z.reverse=ja)->G.lb b o=iW (f,s,z++p)->G'.lb b o=iW (f,s',z++p')/\yL w' b o=yL w b o
 ow:∀b z,G.ow b=iW (s,z++p)->G'.ow b=iW (s',z++p')
 blk:Blk w w'
section
variable {St:Stb}{G:Gh}{w:World}{G':Gh}{w':World}{s:Nat}{s':Nat}
theorem MvC.moves{p p':List Nat}{t:T}(h:MvC G w G' w' s p s' p' t)(ht:t.single=iZ):zJE G w G' w' s p s' p' where
 hd:=h.hd
 ad z hz:=h.ad z (zHV ht (by simp_all))
 lb b o f z hz _ hl:=h.lb b o f z (.inr (zHV ht (by simp_all))) hl
 ow b z _ hl:=h.ow b z hl
 blk:=h.blk
 sp b o _ hl:=by simpa using h.lb b o iZ [] (.inl rfl) (by grind)
 ow0 b hl:=by simpa using h.ow b [] (by grind)
theorem MvC.field{p p':List Nat}{xs:List T}(h:MvC G w G' w' s p s' p' (.agg xs)){j:Nat}{x:T}(hx:xs[j]? =iW x):MvC G w G' w' s (j::p) s' (j::p') x where
 hd z:=by have:=h.hd (z++[j]);grind
 ad z hz:=by
  have:=h.ad (z++[j]) (by grind[T.inT])
  grind
 lb b o f z hf hl:=by
  have:=h.lb b o f (z++[j]) (by grind[T.inT]) (by grind)
  grind
 ow b z hl:=by
  have:=h.ow b (z++[j]) (by grind)
  grind
 blk:=h.blk
mutual
theorem zMa:(t:T)-> ∀(p p':List Nat),t.okTup=iZ->MvC G w G' w' s p s' p' t->yS (zBj G G') t->R St G w s t p->R St G' w' s' t p'
 |.agg xs,p,p',hn,h,hk,hr=>by
  simp only[R,yS,T.okTup]at hr hk hn ⊢
  exact zSX xs p p' 0 hn (fun j x hx=>by rw[Jc];exact h.field hx) hk hr
 |.any,p,p',_,h,hk,hr|.lit _,p,p',_,h,hk,hr|.ro _,p,p',_,h,hk,hr|.same _ _,p,p',_,h,hk,hr|.addr _ _,p,p',_,h,hk,hr|.sub _ _ _ _ _,p,p',_,h,hk,hr|.sl _ _,p,p',_,h,hk,hr|.ptr _,p,p',_,h,hk,hr=>
  zBp (h.moves rfl) _ hk hr
 |.tup _,_,_,hn,_,_,_=>by grind[T.okTup]
theorem zSX:(xs:List T)-> ∀(p p':List Nat)(j:Nat),yM xs=iZ->(∀i x,xs[i]? =iW x->MvC G w G' w' s ((j+i)::p) s' ((j+i)::p') x)->xN (zBj G G') xs->RF St G w s xs p j->RF St G' w' s' xs p' j
 | [],_,_,_,_,_,_,_=>by simp only[RF]
 |x::xs,p,p',j,hn,h,hk,hr=>by
  simp only[RF,xN,yM,J3]at hr hk hn ⊢
  exact⟨zMa x (j::p) (j::p') hn.1 (by simpa using h 0 x (by simp)) hk.1 hr.1,zSX xs p p' (j+1) hn.2 (fun i y hy=>by
   have:=h (i+1) y (by grind)
   grind) hk.2 hr.2⟩
end
end
theorem zPJ{St:Stb}{G:Gh}{w:World}{s:Nat}:(xs:List T)-> ∀(p:List Nat)(j:Nat),(∀i x,xs[i]? =iW x->R St G w s x ((j+i)::p))->RF St G w s xs p j
 | [],_,_,_=>by simp only[RF]
 |x::xs,p,j,h=>by
  simp only[RF];exact⟨by simpa using h 0 x (by simp),zPJ xs p (j+1) (fun i y hy=>by
   have:=h (i+1) y (by grind)
   grind)⟩
theorem zSY{St:Stb}{G:Gh}{w:World}{s:Nat}{k:Nat}:(xs:List T)-> ∀(p:List Nat)(j b o:Nat),(∀x∈xs,x.size=k)->vO G w s xs p j b o->RF St G w s xs p j->RL St G w s xs p j b o k
 | [],_,_,_,_,_,_,_=>by simp only[RL]
 |x::xs,p,j,b,o,hk,hl,hr=>by
  simp only[RL,vO,RF]at hl hr ⊢
  have h1:=hk x (by simp);exact⟨⟨hl.1,h1⟩,hr.1,zSY xs p (j+1) b (o+k) (by grind) (by grind) hr.2⟩
theorem wT{k:Nat}:(xs:List T)->(∀x∈xs,x.size=k)->T.sizes xs=xs.length*k
 | [],_=>by simp[T.sizes]
 |x::xs,h=>by simp[T.sizes,wT xs (fun y hy=>h y (by simp[hy])),h x (by simp),K7];omega
def Gh.nb(G:Gh)(d B:Nat)(xs:List T)(src:Nat->Option (Nat×List Nat))(φ:Nat->List Nat->Option (List Nat))(f:Nat->List Nat->Value)(eh:Value):Gh where
 hd s z:=if s=d then(match z.getLast? with
  |some i=>f i z.dropLast
  |none=>eh)else G.hd s z
 ad s z:=if s=d then(if(T.agg xs).inT z.reverse then⟨B,(T.agg xs).offT z.reverse,iY⟩else match z.getLast? with
  |some i=>(match src i with
   |some (x,q)=>G.ad x (z.dropLast++q)
   |none=>default)
  |none=>default)else G.ad s z
 lb b o:=if b=B then iW (match zDs xs [] 0 o with
  |some p=>(ja,d,p)
  |none=>(iZ,d,[]))else match G.lb b o with
  |some (fl,s,z)=>(match φ s z with
   |some z'=>iW (fl,d,z')
   |none=>iW (fl,s,z))
  |none=>iY
 ow b:=if b=B then iW (d,[])else match G.ow b with
  |some (s,z)=>(match φ s z with
   |some z'=>iW (d,z')
   |none=>iW (s,z))
  |none=>iY
theorem zEa{Γ:Ctx}{G:Gh}{w w':World}(hm:Mem Γ G w){cells:Array Value}{e:TypeId}(hw:w'.heap=w.heap.push (.cells cells e))(d:Nat)(xs:List T)
  (src:Nat->Option (Nat×List Nat))(φ:Nat->List Nat->Option (List Nat))(f:Nat->List Nat->Value)(eh:Value)(chg:Chg)
  (gA:yM xs=iZ)(hf:∀(i:Nat)(z:List Nat),(f i z).oneCell'=iZ)(hh:eh.oneCell'=iZ)
  (hφ:∀(i:Nat) u x q(z:List Nat),xs[i]? =iW u->src i=iW (x,q)->φ x (z++q)=iW (z++[i]))
  (dU:∀(i:Nat) u x q,xs[i]? =iW u->src i=iW (x,q)->(∀z,f i z=G.hd x (z++q))/\R Γ.St G w x u q/\yA u/\x≠d)
  (ao:∀(i:Nat) u,xs[i]? =iW u->src i=iY-> ∀(G2:Gh)(w2:World),(∀z,G2.hd d (z++[i])=f i z)->R Γ.St G2 w2 d u [i])
  (ch:∀(G2:Gh),(∀i z,G2.hd d (z++[i])=f i z)-> ∀(o:Nat)(v:Value),(yH G2 d xs [] 0)[o]? =iW v->cells[o]? =iW v)
  (aN:∀s p,(∀n,(s,n)∉(d,0)::chg)->φ s p=iY)(ho:w'.os=w.os:=by rfl)(hq:w'.output=w.output:=by rfl):
  kS ((d,0)::chg) G w (G.nb d w.heap.size xs src φ f eh) w'/\Mem Γ (G.nb d w.heap.size xs src φ f eh) w'/\
  vO (G.nb d w.heap.size xs src φ f eh) w' d xs [] 0 w.heap.size 0/\RF Γ.St (G.nb d w.heap.size xs src φ f eh) w' d xs [] 0/\
  w'.heap[w.heap.size]? =iW (.cells cells e):=by
 have eF:w'.heap[w.heap.size]? =iW (.cells cells e):=by grind
 have gN:∀b,b<w.heap.size->w'.heap[b]? =w.heap[b]?:=fun b hb=>by rw[hw,Array.getElem?_push];grind
 have gE:w'.heap.size=w.heap.size+1:=by grind
 have fg:∀b o,b<w.heap.size->yL w' b o=yL w b o:=fun b o hb=>by simp[yL,World.cell?,gN b hb]
 have gQ:Blk w w':=fun b cs e' h=>⟨cs,by rw[gN b (by grind)];exact h,rfl⟩
 have gv:=hm.one
 generalize gw:G.nb d w.heap.size xs src φ f eh=G'
 have ghd:∀i z,G'.hd d (z++[i])=f i z:=fun i z=>by rw[<-gw];simp[Gh.nb]
 have gad:∀g,(T.agg xs).inT g=iZ->G'.ad d g.reverse=⟨w.heap.size,(T.agg xs).offT g,iY⟩:=fun g hg=>by rw[<-gw];simp[Gh.nb,hg]
 have gadm:∀i x q z,src i=iW (x,q)->(T.agg xs).inT (i::z.reverse)=ja->G'.ad d (z++[i])=G.ad x (z++q):=fun i x q z hs gS=>by rw[<-gw];simp[Gh.nb,gS,hs]
 have glb:∀o p,zDs xs [] 0 o=iW p->G'.lb w.heap.size o=iW (ja,d,p):=fun o p h=>by rw[<-gw];simp[Gh.nb,h]
 have glbm:∀b o fl x z z',G.lb b o=iW (fl,x,z)->φ x z=iW z'->G'.lb b o=iW (fl,d,z'):=fun b o fl x z z' h1 h2=>by have:=(hm.lb b o _ h1).1;rw[<-gw];simp[Gh.nb,h1,h2,show b≠w.heap.size from by omega]
 have gowm:∀b x z z',G.ow b=iW (x,z)->φ x z=iW z'->G'.ow b=iW (d,z'):=fun b x z z' h1 h2=>by have:=(hm.ow b _ h1).1;rw[<-gw];simp[Gh.nb,h1,h2,show b≠w.heap.size from by omega]
 have gk:∀s p,Off ((d,0)::chg) s p->s≠d:=fun s p h e=>absurd (h 0 (by simp[e])) (by simp)
 have gB:kS ((d,0)::chg) G w G' w':=by
  refine⟨fun s p h=>?_,fun s p h=>?_,fun b o fl s p _ hl h=>⟨?_,fg b o (hm.lb b o _ hl).1⟩,fun b s p hl h=>?_,gQ⟩
  ·rw[<-gw];simp[Gh.nb,gk s p h]
  ·rw[<-gw];simp[Gh.nb,gk s p h]
  ·have:=(hm.lb b o _ hl).1
   rw[<-gw];simp[Gh.nb,hl,aN s p h,show b≠w.heap.size from by omega]
  ·have:=(hm.ow b _ hl).1
   rw[<-gw];simp[Gh.nb,hl,aN s p h,show b≠w.heap.size from by omega]
 refine⟨gB,?_,?_,?_,eF⟩
 ·
  have hB:zDp Γ w' w.heap.size:=⟨by omega,.inl hm.sz,by
   cases gM:Γ.St w.heap.size with
   |none=>rfl
   |some x=>have:=hm.st _ x gM;simp at this⟩
  have fC:∀b,zDp Γ w b->zDp Γ w' b:=fun b h=>⟨by have:=h.1;omega,h.2⟩
  refine⟨fun s p=>?_,fun b o l hl=>?_,fun b l hl=>?_,fun b x hx=>?_,fun b h1 h2=>?_,by have:=hm.sz;omega,hm.bk.trans gQ ho hq⟩
  ·rw[<-gw]
   simp only[Gh.nb];split
   ·split
    ·exact hf _ _
    ·exact hh
   ·exact gv s p
  ·rw[<-gw]at hl
   simp only[Gh.nb]at hl;split at hl
   ·grind
   ·split at hl
    ·rename_i hg;exact fC b (hm.lb b o _ hg)
    ·cases hl
  ·rw[<-gw]at hl
   simp only[Gh.nb]at hl;split at hl
   ·grind
   ·split at hl
    ·rename_i hg;exact fC b (hm.ow b _ hg)
    ·cases hl
  ·have:=hm.st b x hx
   rw[gN b (G3.1 this).1];exact this
  ·rw[gN b (Qp h1 hm.sz)]
   exact hm.fr b h1 h2
 ·
  refine zH5 xs [] 0 w.heap.size 0 gA (fun i x hx g hg=>?_) (fun i p' _ hp=>by simpa using glb i p' hp) (fun i v hv=>?_)
  ·have:=gad (i::g) (by simp only[T.inT,hx];exact hg)
   simpa[T.offT,hx]using this
  ·have:=ch G' ghd i v hv
   rw[Jc];simp[yL,World.cell?,eF,this]
 ·
  refine zPJ xs [] 0 (fun i u hu=>?_);rw[Jc];cases hs:src i with
  |none=>exact ao i u hu hs G' w' (fun z=>ghd i z)
  |some xq=>
   obtain⟨x,q⟩:=xq;obtain⟨h1,h2,h3,h4⟩:=dU i u x q hu hs;have gS:∀g,(T.agg xs).inT (i::g)=u.inT g:=fun g=>by simp only[T.inT,hu]
   refine zMa u q [i] (okTups_get xs gA i u hu) ⟨fun z=>by rw[ghd,h1],fun z hz=>gadm i x q z hs (by rw[gS];exact hz),fun b o fl z hz hl=>⟨glbm b o fl x _ _ hl (hφ i u x q z hu hs),fg b o (hm.lb b o _ hl).1⟩,
    fun b z hl=>gowm b x _ _ hl (hφ i u x q z hu hs),gQ⟩ (yS.mono (by simp) u h3) h2
where okTups_get:(xs:List T)->yM xs=iZ-> ∀(i:Nat)(x:T),xs[i]? =iW x->x.okTup=iZ
 | [],_,_,_,h=>by simp at h
 |y::ys,hk,i,x,h=>by
  simp only[yM,J3]at hk;cases i with
  |zero=>grind
  |succ i=>exact okTups_get ys hk.2 i x (by grind)
inductive yO where
 |slot (s:Nat) (t:T)
 |zero (u:T)
def yO.tree:yO->T
 |.slot _ t=>t
 |.zero u=>u
def qP:T->Bool
 |.lit _|.ro _=>ja
 |_=>iZ
mutual
def T.zOk:T->Bool
 |.lit v=>v.oneCell'
 |.sl _ xs=>xs.isEmpty
 |.agg xs=>zBs xs
 |.any|.ro _|.same _ _|.addr _ _|.sub _ _ _ _ _|.ptr _|.tup _=>ja
def zBs:List T->Bool
 | []=>iZ
 |x::xs=>x.zOk&&zBs xs
end
def zhd:T->List Nat->Value
 |.agg xs,i::f=>match xs[i]? with
  |some x=>zhd x f
  |none=>.bool ja
 |.lit v,_=>v
 |.sl _ _,_=>.slice iY 0 0
 |.agg _,[] |.any,_|.ro _,_|.same _ _,_|.addr _ _,_|.sub _ _ _ _ _,_|.ptr _,_|.tup _,_=>.bool ja
termination_by structural _ f=>f
mutual
def sP:T->List Value
 |.lit v=>[v]
 |.sl _ _=>[.slice iY 0 0]
 |.agg xs=>qQ xs
 |.any|.ro _|.same _ _|.addr _ _|.sub _ _ _ _ _|.ptr _|.tup _=>[]
def qQ:List T->List Value
 | []=>[]
 |x::xs=>sP x++qQ xs
end
section
variable {St:Stb}{G:Gh}{w:World}{d:Nat}
mutual
theorem zKH:(u:T)-> ∀(p:List Nat),u.zOk=iZ->(∀z,G.hd d (z++p)=zAp (zhd u z.reverse))->R St G w d u p
 |.lit v,p,h,hd=>by
  simp only[T.zOk,R]at h ⊢
  have:=hd [];rw[Jv]at this;rw[this];exact zBr h
 |.sl k xs,p,h,hd=>by simp only[T.zOk,Ja1]at h;subst h;have:=hd [];rw[Jv]at this;simp only[R];exact .inl ⟨trivial,iY,by rw[this];rfl⟩
 |.agg xs,p,h,hd=>by
  simp only[T.zOk,R]at h ⊢
  exact zPK xs p 0 h (fun i x hx z=>by
   rw[Jc];have:=hd (z++[i])
   grind[zhd])
 |.any,_,h,_|.ro _,_,h,_|.same _ _,_,h,_|.addr _ _,_,h,_|.sub _ _ _ _ _,_,h,_|.ptr _,_,h,_|.tup _,_,h,_=>by grind[T.zOk]
theorem zPK:(xs:List T)-> ∀(p:List Nat)(j:Nat),zBs xs=iZ->(∀i x,xs[i]? =iW x-> ∀z,G.hd d (z++((j+i)::p))=zAp (zhd x z.reverse))->RF St G w d xs p j
 | [],_,_,_,_=>by simp only[RF]
 |x::xs,p,j,h,hd=>by
  simp only[zBs,J3,RF]at h ⊢
  exact⟨zKH x (j::p) h.1 (by simpa using hd 0 x (by simp)),zPK xs p (j+1) h.2 (fun i y hy z=>by
   have:=hd (i+1) y (by grind) z
   grind)⟩
end
end
section
variable {G:Gh}{d:Nat}
mutual
theorem zGh:(u:T)-> ∀(p:List Nat),u.zOk=iZ->(∀z,G.hd d (z++p)=zAp (zhd u z.reverse))->vals G d u p=sP u
 |.lit v,p,h,hd=>by
  simp only[T.zOk,vals,sP]at h ⊢
  have:=hd []
  grind[zhd,zBr]
 |.sl k xs,p,h,hd=>by
  have:=hd []
  grind[vals,sP,zhd,zAp,Value.oneCell']
 |.agg xs,p,h,hd=>by
  simp only[T.zOk,vals,sP]at h ⊢
  exact zEL xs p 0 h (fun i x hx z=>by
   rw[Jc];have:=hd (z++[i])
   grind[zhd])
 |.any,_,h,_|.ro _,_,h,_|.same _ _,_,h,_|.addr _ _,_,h,_|.sub _ _ _ _ _,_,h,_|.ptr _,_,h,_|.tup _,_,h,_=>by grind[T.zOk]
theorem zEL:(xs:List T)-> ∀(p:List Nat)(j:Nat),zBs xs=iZ->(∀i x,xs[i]? =iW x-> ∀z,G.hd d (z++((j+i)::p))=zAp (zhd x z.reverse))->yH G d xs p j=qQ xs
 | [],_,_,_,_=>by rfl
 |x::xs,p,j,h,hd=>by
  simp only[zBs,J3,yH,qQ]at h ⊢
  rw[zGh x (j::p) h.1 (by simpa using hd 0 x (by simp)),zEL xs p (j+1) h.2 (fun i y hy z=>by
   have:=hd (i+1) y (by grind) z
   grind)]
end
end
mutual
theorem zCk:(u:T)->u.zOk=iZ->yA u/\u.okTup=iZ
 |.lit _,_=>by simp[yA,yS,T.okTup]
 |.sl _ xs,h=>by simp only[T.zOk,Ja1]at h;subst h;simp[yA,yS,xN,T.okTup]
 |.agg xs,h=>by simp only[T.zOk]at h;simpa only[yA,yS,T.okTup]using zCG xs h
 |.any,h|.ro _,h|.same _ _,h|.addr _ _,h|.sub _ _ _ _ _,h|.ptr _,h|.tup _,h=>by grind[T.zOk]
theorem zCG:(xs:List T)->zBs xs=iZ->yZ xs/\yM xs=iZ
 | [],_=>by simp[yZ,xN,yM]
 |x::xs,h=>by simp only[zBs,J3]at h;simp only[yZ,xN,yM,J3];exact⟨⟨(zCk x h.1).1,(zCG xs h.2).1⟩,(zCk x h.1).2,(zCG xs h.2).2⟩
end
mutual
theorem vR:(u:T)->u.zOk=iZ->(sP u).length=u.size
 |.lit _,_|.sl _ _,_=>by rfl
 |.agg xs,h=>by simp only[T.zOk]at h;simp only[sP,T.size];exact zCc xs h
 |.any,h|.ro _,h|.same _ _,h|.addr _ _,h|.sub _ _ _ _ _,h|.ptr _,h|.tup _,h=>by grind[T.zOk]
theorem zCc:(xs:List T)->zBs xs=iZ->(qQ xs).length=T.sizes xs
 | [],_=>by rfl
 |x::xs,h=>by simp only[zBs,J3]at h;simp only[qQ,J7,T.sizes,vR x h.1,zCc xs h.2]
end
def zHW(ps:List yO)(i:Nat):Option (Nat×List Nat):=
 match ps[i]? with
 |some (.slot s t)=>if qP t then iW (s,[])else iY
 |_=>iY
def zJv:List yO->Nat->Nat->Option Nat
 | [],_,_=>iY
 |.slot x t::r,i,s=>if qP t&&x==s then iW i else zJv r (i+1) s
 |.zero _::r,i,s=>zJv r (i+1) s
def zJw(ps:List yO)(s:Nat)(z:List Nat):Option (List Nat):=
 match zJv ps 0 s with
 |some i=>iW (z++[i])
 |none=>iY
def pWr(d:Nat):List yO->Nat->Wr
 | [],_=>[]
 |.slot s t::r,i=>if qP t then(s,iW (cpT d t [i]))::pWr d r (i+1)else pWr d r (i+1)
 |.zero _::r,i=>pWr d r (i+1)
def xP:List yO->List Nat
 | []=>[]
 |.slot s t::r=>if qP t then s::xP r else xP r
 |.zero _::r=>xP r
def qA(ps:List yO):Chg:=(xP ps).map fun s=>(s,1)
def qM(G:Gh):yO->List Value
 |.slot s t=>vals G s t []
 |.zero u=>sP u
def pHd(G:Gh)(ps:List yO)(i:Nat)(z:List Nat):Value:=
 match ps[i]? with
 |some (.slot s _)=>G.hd s z
 |some (.zero u)=>zAp (zhd u z.reverse)
 |none=>.bool ja
structure tX (E:Env) (d:Nat) (ps:List yO):Prop where
 slot:∀s t,yO.slot s t∈ps->E s=iW t/\yA t/\t.okTup=iZ
 zero:∀u,yO.zero u∈ps->u.zOk=iZ
 dist:(d::xP ps).Nodup
theorem zCl:(ps:List yO)-> ∀(i0 i s:Nat)(t:T),ps[i]? =iW (.slot s t)->qP t=iZ->(xP ps).Nodup->zJv ps i0 s=iW (i0+i)
 | [],_,_,_,_,h,_,_=>by simp at h
 |.slot x u::r,i0,i,s,t,h,hm,hn=>by
  cases i with
  |zero=>simp at h;obtain⟨rfl,rfl⟩:=h;simp[zJv,hm]
  |succ i=>
   simp only[Jai]at h;have gS:s∈xP r:=pSlots_mem r i s t h hm;simp only[zJv]
   by_cases hu:qP u=iZ
   ·simp only[xP,hu,if_true,L5]at hn
    have:x≠s:=by grind
    simp only[hu,Bool.true_and,beq_iff_eq,this,if_false];rw[zCl r (i0+1) i s t h hm hn.2]
    grind
   ·simp only[xP,hu]at hn
    simp only[hu,Jaa,Hk,if_false];rw[zCl r (i0+1) i s t h hm (by grind)]
    grind
 |.zero u::r,i0,i,s,t,h,hm,hn=>by
  cases i with
  |zero=>simp at h
  |succ i=>
   simp only[Jai]at h;simp only[zJv];rw[zCl r (i0+1) i s t h hm (by grind[xP])]
   grind
where pSlots_mem:(ps:List yO)-> ∀(i s:Nat)(t:T),ps[i]? =iW (.slot s t)->qP t=iZ->s∈xP ps
 | [],_,_,_,h,_=>by simp at h
 |.slot x u::r,i,s,t,h,hm=>by
  cases i with
  |zero=>simp at h;obtain⟨rfl,rfl⟩:=h;simp[xP,hm]
  |succ i=>
   have:=pSlots_mem r i s t (by grind) hm
   grind[xP]
 |.zero u::r,i,s,t,h,hm=>by
  cases i with
  |zero=>simp at h
  |succ i=>simpa only[xP]using pSlots_mem r i s t (by grind) hm
theorem zEb:(ps:List yO)-> ∀(i0 s:Nat),s∉xP ps->zJv ps i0 s=iY
 | [],_,_,_=>by rfl
 |.slot x u::r,i0,s,h=>by
  simp only[zJv]
  by_cases hu:qP u=iZ
  ·simp only[xP,hu,if_true,Jb,not_or]at h
   simp only[hu,Bool.true_and,beq_iff_eq,Ne.symm h.1,if_false];exact zEb r _ s h.2
  ·simp only[xP,hu]at h
   simp only[hu,Jaa,Hk,if_false];exact zEb r _ s (by grind)
 |.zero u::r,i0,s,h=>by simp only[zJv];exact zEb r _ s (by grind[xP])
theorem zDt:(ps:List yO)-> ∀(d i0 s:Nat)(x:Option T),(pWr d ps i0).find s=iW x-> ∃i t,ps[i]? =iW (.slot s t)/\qP t=iZ/\x=iW (cpT d t [i0+i])
 | [],_,_,_,_,h=>by grind[pWr,Wr.find]
 |.slot y u::r,d,i0,s,x,h=>by
  simp only[pWr]at h;split at h
  ·rename_i hu
   simp only[Wr.find]at h;split at h
   ·rename_i he;subst he;simp at h;exact⟨0,u,by simp,hu,by grind⟩
   ·obtain⟨i,t,h1,h2,h3⟩:=zDt r d (i0+1) s x h
    exact⟨i+1,t,by grind,h2,by grind⟩
  ·obtain⟨i,t,h1,h2,h3⟩:=zDt r d (i0+1) s x h
   exact⟨i+1,t,by grind,h2,by grind⟩
 |.zero u::r,d,i0,s,x,h=>by simp only[pWr]at h;obtain⟨i,t,h1,h2,h3⟩:=zDt r d (i0+1) s x h;exact⟨i+1,t,by grind,h2,by grind⟩
theorem zDu:(ps:List yO)-> ∀(d i0 s:Nat),(pWr d ps i0).find s=iY->s∉xP ps
 | [],_,_,_,_=>by simp[xP]
 |.slot y u::r,d,i0,s,h=>by
  simp only[pWr]at h;simp only[xP];split at h
  ·rename_i hu
   simp only[Wr.find]at h;split at h
   ·cases h
   ·rename_i gk
    simp only[hu,if_true,Jb,not_or];exact⟨fun e=>gk e.symm,zDu r d _ s h⟩
  ·rename_i hu
   simp only[hu];simpa using zDu r d _ s h
 |.zero u::r,d,i0,s,h=>by simp only[pWr]at h;simpa only[xP]using zDu r d _ s h
section
variable {Γ:Ctx}{E:Env}{G:Gh}{tmps:Array Value}{w:World}{d:Nat}{ps:List yO}
theorem zGZ(gj:Rep Γ E G tmps w)(h:tX E d ps):
  yM (ps.map yO.tree)=iZ/\yZ (ps.map yO.tree)/\(∀i z,(pHd G ps i z).oneCell'=iZ)/\
  (∀(i:Nat) u x q(z:List Nat),(ps.map yO.tree)[i]? =iW u->zHW ps i=iW (x,q)->zJw ps x (z++q)=iW (z++[i]))/\
  (∀(i:Nat) u x q,(ps.map yO.tree)[i]? =iW u->zHW ps i=iW (x,q)->(∀z,pHd G ps i z=G.hd x (z++q))/\R Γ.St G w x u q/\yA u/\x≠d)/\
  (∀(i:Nat) u,(ps.map yO.tree)[i]? =iW u->zHW ps i=iY-> ∀(G2:Gh)(w2:World),(∀z,G2.hd d (z++[i])=pHd G ps i z)->R Γ.St G2 w2 d u [i])/\
  (∀s p,(∀n,(s,n)∉(d,0)::qA ps)->zJw ps s p=iY):=by
 have pX:=L5.1 h.dist;refine⟨?_,?_,?_,?_,?_,?_,?_⟩
 ·have:∀qs:List yO,(∀p∈qs,p∈ps)->yM (qs.map yO.tree)=iZ:=by
   intro qs
   induction qs with
   |nil=>intro _;rfl
   |cons q qs ih=>
    intro hq;simp only[Js,yM,J3];refine⟨?_,by grind⟩;cases q with
    |slot s t=>exact(h.slot s t (hq _ (by simp))).2.2
    |zero u=>exact(zCk u (h.zero u (hq _ (by simp)))).2
  grind
 ·have:∀qs:List yO,(∀p∈qs,p∈ps)->yZ (qs.map yO.tree):=by
   intro qs
   induction qs with
   |nil=>intro _;trivial
   |cons q qs ih=>
    intro hq;simp only[Js,yZ,xN];refine⟨?_,by grind⟩;cases q with
    |slot s t=>exact(h.slot s t (hq _ (by simp))).2.1
    |zero u=>exact(zCk u (h.zero u (hq _ (by simp)))).1
  grind
 ·intro i z
  unfold pHd;split
  ·exact gj.mem.one _ _
  ·exact zCj _
  ·rfl
 ·intro i u x q z hu hs
  rw[Jx]at hu;unfold zHW at hs;cases hp:ps[i]? with
  |none=>grind
  |some p=>
   cases p with
   |zero v=>grind
   |slot s t=>
    simp only[hp]at hs;split at hs
    ·rename_i hm
     simp at hs;obtain⟨rfl,rfl⟩:=hs;simp[zJw,zCl ps 0 i s t hp hm pX.2]
    ·cases hs
 ·intro i u x q hu hs
  rw[Jx]at hu;unfold zHW at hs;cases hp:ps[i]? with
  |none=>grind
  |some p=>
   cases p with
   |zero v=>grind
   |slot s t=>
    simp only[hp]at hs;split at hs
    ·rename_i hm
     simp at hs;obtain⟨rfl,rfl⟩:=hs;simp[hp,yO.tree]at hu;subst hu;obtain⟨h1,h2,h3⟩:=h.slot s t (by grind);refine⟨by grind[pHd],(gj.ent s t h1).2.1,h2,fun e=>pX.1 ?_⟩
     grind[zCl.pSlots_mem]
    ·cases hs
 ·intro i u hu hs G2 w2 eP
  rw[Jx]at hu;unfold zHW at hs;cases hp:ps[i]? with
  |none=>grind
  |some p=>
   cases p with
   |zero v=>
    simp[hp,yO.tree]at hu;subst hu;exact zKH v [i] (h.zero v (by grind)) (by grind[pHd])
   |slot s t=>
    simp only[hp]at hs;split at hs
    ·cases hs
    ·rename_i hm
     simp[hp,yO.tree]at hu;subst hu;have h1:=(gj.ent s t (h.slot s t (by grind)).1).2.1;have h2:G2.hd d [i]=G.hd s []:=by have:=eP [];grind[pHd]
     cases t<;>simp[qP]at hm<;>simp only[R]at h1 ⊢ <;>rw[h2]<;>exact h1
 ·intro s p gL
  have:s∉xP ps:=fun gS=>gL 1 (by grind[qA])
  grind[zJw,zEb]
theorem zEM(gj:Rep Γ E G tmps w)(h:tX E d ps)(G2:Gh):∀(qs:List yO)(i0:Nat),(∀i q,qs[i]? =iW q->ps[i0+i]? =iW q)->(∀i z,G2.hd d (z++[i])=pHd G ps i z)->
  yH G2 d (qs.map yO.tree) [] i0=qs.flatMap (qM G)
 | [],_,_,_=>by rfl
 |q::qs,i0,hq,eP=>by
  have h0:ps[i0]? =iW q:=by simpa using hq 0 q (by simp)
  have ih:=zEM gj h G2 qs (i0+1) (fun i p hp=>by rw[show i0+1+i=i0+(i+1)from by omega];simp_all) eP;simp only[Js,yH,L9,ih]
  congr 1
  cases q with
  |slot s t=>exact zBQ t [] [i0] (by grind[pHd])
  |zero u=>exact zGh u [i0] (h.zero u (by grind)) (by grind[pHd])
end
section
variable {P:Program}{Γ:Ctx}{E:Env}{o:Oper}{d:Nat}
theorem zJI{G G':Gh}{w':World}{s i:Nat}{t:T}{v:Option Value}(hv:v=iW (mkV G s t []))(er:∀xs,t≠.tup xs)(hs:∀p,G'.hd s p=G.hd s p)(my:∀z,G'.hd d (z++[i])=G.hd s z)
  (hr:R Γ.St G' w' d t [i]):Ent Γ G' w' v s (cpT d t [i]):=by
 have hz:∀z,G'.hd s (z++[])=G'.hd d (z++[i]):=fun z=>by rw[J9,hs,my]
 refine⟨?_,?_,jQ d t [i]⟩
 ·rw[hv,zB5 (G:=G') (G':=G') t [i] [] er hz,zAO G s t [] er,zCE t [] [i] (fun z=>by rw[my,J9])]
 ·exact zEH (G:=G') (G':=G') (fun _=>rfl) t [i] [] hz er (yS.triv (fun _ _=>⟨rfl,rfl⟩) _) hr
theorem zCm{G:Gh}{a:Act}{w w':World}{ps:List yO}(gj:Rep Γ E G a.tmps w)(h:tX E d ps)(hd:d<Γ.N){cells:Array Value}{e:TypeId}(hw:w'.heap=w.heap.push (.cells cells e))
  (ch:∀(o:Nat)(v:Value),(ps.flatMap (qM G))[o]? =iW v->cells[o]? =iW v)
  (rt:T)(eh:Value)
  (fb:(∃k cap,rt=.sl k (ps.map yO.tree)/\(∀p∈ps,p.tree.size=k)/\eh=.slice (iW ⟨w.heap.size,0,iY⟩) ps.length cap/\ps.length<=cap/\cap<=maxLen/\cells.size=cap*k)\/
   ∃p,ps=[p]/\rt=.ptr p.tree/\eh=.pointer (iW ⟨w.heap.size,0,iY⟩)/\cells.size=p.tree.size)
  (ho:w'.os=w.os:=by rfl)(hq:w'.output=w.output:=by rfl):
  ∃G',Rep Γ (E.app ((d,iW rt)::pWr d ps 0) ((d,0)::qA ps)) G' (a.tmps.setIfInBounds d eh) w':=by
 obtain⟨f1,f0,f2,f3,f4,f5,f6⟩:=zGZ gj h;have hh:eh.oneCell'=iZ:=by rcases fb with⟨k,cap,_,_,rfl,_⟩|⟨p,_,_,rfl,_⟩<;>rfl
 have pX:=L5.1 h.dist;obtain⟨g1,g2,g3,g4,g5⟩:=zEa gj.mem hw d (ps.map yO.tree) (zHW ps) (zJw ps) (pHd G ps) eh (qA ps) f1 f2 hh f3 f4 f5
  (fun G2 eP o v hv=>ch o v (by rw[zEM gj h G2 ps 0 (fun i q hq=>by simpa using hq) eP]at hv;exact hv)) f6 (ho:=ho) (hq:=hq)
 refine⟨_,vT gj (by simp) g1 g2 ?_ ?_⟩
 ·intro s hs
  simp only[Wr.find]at hs;split at hs
  ·cases hs
  ·rename_i gk
   have hns:=zDu ps d 0 s hs;refine⟨fun n hn=>?_,by rw[Jj];simp[gk]⟩;simp only[Jb,Ja3.injEq,qA,Jn]at hn;rcases hn with⟨e1,_⟩|⟨y,hy,e1,_⟩
   ·exact gk e1.symm
   ·exact hns (e1▸hy)
 ·intro s t hs
  simp only[Wr.find]at hs;split at hs
  ·rename_i he
   subst he;simp at hs;subst hs;have pf:(G.nb d w.heap.size (ps.map yO.tree) (zHW ps) (zJw ps) (pHd G ps) eh).hd d []=eh:=by simp[Gh.nb]
   have how:(G.nb d w.heap.size (ps.map yO.tree) (zHW ps) (zJw ps) (pHd G ps) eh).ow w.heap.size=iW (d,[]):=by simp[Gh.nb]
   refine⟨?_,?_,?_⟩
   ·rw[Jj]
    rcases fb with⟨k,cap,rfl,_⟩|⟨p,_,rfl,_⟩<;>simp[gj.size,hd,mkV,pf]
   ·rcases fb with⟨k,cap,rfl,hk,h1,h2,h3,h4⟩|⟨p,rfl,rfl,h1,h4⟩
    ·simp only[R]
     rw[pf];refine .inr ⟨w.heap.size,0,cap,cells,e,by simpa using h1,g5,by simpa using h2,h3,by omega,how,?_,zSY _ _ _ _ _ (fun x hx=>?_) g3 g4⟩
     ·intro o ho _
      have gE:T.sizes (ps.map yO.tree)=(ps.map yO.tree).length*k:=wT _ (fun x hx=>by obtain⟨p,hp,rfl⟩:=Jn.1 hx;exact hk p hp)
      simp[Gh.nb,zEK (ps.map yO.tree) [] 0 o (by omega)]
     ·obtain⟨p,hp,rfl⟩:=Jn.1 hx
      exact hk p hp
    ·simp only[R]
     rw[pf];simp only[Js,Gy,vO,RF]at g3 g4;exact⟨w.heap.size,cells,e,h1,g5,h4,how,g3.1,g4.1⟩
   ·rcases fb with⟨k,cap,rfl,_⟩|⟨p,rfl,rfl,_⟩
    ·simp only[Top];exact f0
    ·simp only[Top];exact f0.1
  ·rename_i gk
   obtain⟨i,u,h1,h2,h3⟩:=zDt ps d 0 s _ hs;simp only[Jc]at h3;simp at h3;subst h3;obtain⟨h4,h5,h6⟩:=h.slot s u (Lq h1);have er:∀xs,u≠.tup xs:=by rintro xs rfl;simp[T.okTup]at h6
   have hi:(ps.map yO.tree)[i]? =iW u:=by simp[h1,yO.tree]
   have hr:=zCb _ [] 0 i u g4 hi;simp only[Jc]at hr;refine zJI (G:=G) (by rw[Jj];simp only[gk,if_false];exact(gj.ent s u h4).1) er (fun p=>?_) (fun z=>?_) hr
   ·simp[Gh.nb,show s≠d from fun e=>gk e.symm]
   ·simp[Gh.nb,pHd,h1]
inductive zAZ (E:Env):Operand->yO->Prop where
 |slot (s:Nat) (t:T):zAZ E (.tmp s) (.slot s t)
 |zero (v:Value) (u:T) (h:sP u=v.cells.toList):zAZ E (.const v) (.zero u)
theorem zB6{G:Gh}{a:Act}{w:World}{ps:List yO}(gj:Rep Γ E G a.tmps w)(h:tX E d ps){x:Operand}{p:yO}(hp:p∈ps)(hx:zAZ E x p):
  (a.eval x).cells.toList=qM G p:=by
 cases hx with
 |slot s t=>
  obtain⟨h1,h2,h3⟩:=h.slot s t hp;obtain⟨h4,_,_⟩:=gj.ent s t h1;rw[xX h4];cases t with
  |agg xs=>simp[mkV,Value.cells,vals,qM]
  |tup xs=>simp[T.okTup]at h3
  |_=>
   have:=gj.mem.one s [];simp only[mkV,vals,qM]
   generalize G.hd s []=v at this
   cases v<;>simp[Value.oneCell',Value.cells]at this ⊢
 |zero v u h=>simp[Act.eval,h,qM]
def uM(E:Env):List Operand->List yO->Prop
 | [],[]=>True
 |x::xs,p::ps=>zAZ E x p/\uM E xs ps
 |_,_=>False
theorem uM.length:(xs:List Operand)->(ps:List yO)->uM E xs ps->xs.length=ps.length
 | [],[],_=>rfl
 |_::xs,_::ps,h=>by simp[uM.length xs ps h.2]
 | [],_::_,h=>by simp[uM]at h
 |_::_,[],h=>by simp[uM]at h
theorem uM.mem:(xs:List Operand)->(ps:List yO)->uM E xs ps-> ∀x∈xs,∃p,p∈ps/\zAZ E x p
 | [],_,_,x,hx=>by simp at hx
 |y::xs,p::ps,h,x,hx=>by
  rcases Jb.1 hx with rfl|hx
  ·exact⟨p,by simp,h.1⟩
  ·obtain⟨q,hq,hxq⟩:=uM.mem xs ps h.2 x hx;exact⟨q,by simp[hq],hxq⟩
 |_::_,[],h,_,_=>by simp[uM]at h
theorem zHX{G:Gh}{a:Act}{w:World}{ps:List yO}(gj:Rep Γ E G a.tmps w)(h:tX E d ps):∀(xs:List Operand)(qs:List yO),(∀q∈qs,q∈ps)->uM E xs qs->
  ((xs.map a.eval).flatMap fun v=>v.cells.toList)=qs.flatMap (qM G)
 | [],[],_,_=>rfl
 |x::xs,q::qs,hq,hx=>by simp only[Js,L9,zB6 gj h (hq q (by simp)) hx.1,zHX gj h xs qs (fun p hp=>hq p (by simp[hp])) hx.2]
 | [],_::_,_,hx=>by simp[uM]at hx
 |_::_,[],_,hx=>by simp[uM]at hx
theorem zSZ(T':TypeId)(ti:TypeInfo)(z:Value)(u:T)(ho:o.op=.alloc T')(gm:o.dst=iW d)(hd:d<Γ.N)
  (hi:P.info? T'=iW ti)(hz:ti.zero=iW z)(hu:u.zOk=iZ)(hv:sP u=z.cells.toList)(gE:z.cells.size=u.size):
  wD P Γ o E (E.app [(d,iW (.ptr u))] [(d,0)]):=by
 refine wD.value gm fun a w G gj=>?_
 have gH:tX E d [.zero u]:=⟨fun s t h=>by simp at h,fun v h=>by simp at h;subst h;exact hu,by simp[xP]⟩;obtain⟨G',gw⟩:=zCm (w':=w.alloc (.cells z.cells T')) gj gH hd (cells:=z.cells) (e:=T') rfl (fun o v h=>by simpa[hv,qM]using h) (.ptr u) (.pointer (iW ⟨w.heap.size,0,iY⟩)) (.inr ⟨.zero u,rfl,rfl,rfl,gE⟩);refine⟨_,_,?_,G',by simpa[pWr,qA,xP]using gw⟩;simp[execOp,ho,Instr.alloc,zeroValue,typeInfo,hi,hz,newVar,newRow]
theorem yA4(T':TypeId)(x:Operand)(p:yO)(ho:o.op=.box T' x)(gm:o.dst=iW d)(hd:d<Γ.N)(hx:zAZ E x p)(gH:tX E d [p]):
  wD P Γ o E (E.app ((d,iW (.ptr p.tree))::pWr d [p] 0) ((d,0)::qA [p])):=by
 refine wD.value gm fun a w G gj=>?_
 have hc:=zB6 gj gH (by simp) hx;have gE:(a.eval x).cells.size=p.tree.size:=by
  rw[<-Kh,hc];cases p with
  |slot s t=>
   obtain⟨_,_,h3⟩:=gH.slot s t (by simp);show(vals G s t []).length=t.size;exact vH t [] (by rintro xs rfl;simp[T.okTup]at h3)
  |zero u=>exact vR u (gH.zero u (by simp))
 obtain⟨G',gw⟩:=zCm (w':=w.alloc (.cells (a.eval x).cells T')) gj gH hd (cells:=(a.eval x).cells) (e:=T') rfl (fun o v h=>by rw[<-Ks,hc];simpa using h) (.ptr p.tree) (.pointer (iW ⟨w.heap.size,0,iY⟩)) (.inr ⟨p,rfl,rfl,rfl,gE⟩)
 refine⟨_,_,?_,G',gw⟩;simp[execOp,ho,Instr.box,newVar,newRow]
theorem zJx(t e:TypeId)(ti:TypeInfo)(z:Value)(k n:Nat)(xs:List Operand)(ps:List yO)(ho:o.op=.buildSlice t n ((xs.zipIdx 0).map fun x=>(x.2,x.1)).toArray)(gm:o.dst=iW d)(hd:d<Γ.N)
  (ht:P.underlying t=iW (.slice e))(hi:P.info? e=iW ti)(hz:ti.zero=iW z)(hk:ti.size=k)(eK:0<k)(hn:xs.length=n)(ap:0<n)(hsm:n*k<=2 ^ 24)
  (hx:uM E xs ps)(gH:tX E d ps)(gE:∀p∈ps,p.tree.size=k):
  wD P Γ o E (E.app ((d,iW (.sl k (ps.map yO.tree)))::pWr d ps 0) ((d,0)::qA ps)):=by
 refine wD.value gm fun a w G gj=>?_
 subst hk;have gn:xs.length=ps.length:=uM.length xs ps hx;have hc:=zHX gj gH xs ps (fun _ h=>h) hx;have pI:∀v∈xs.map a.eval,v.cells.size=ti.size:=by
  intro v hv;obtain⟨x,bw,rfl⟩:=Jn.1 hv;obtain⟨p,hp,hxp⟩:=uM.mem xs ps hx x bw;rw[<-Kh,zB6 gj gH hp hxp,<-gE p hp];cases p with
  |slot s t=>
   obtain⟨_,_,h3⟩:=gH.slot s t hp;show(vals G s t []).length=t.size;exact vH t [] (by rintro xs rfl;simp[T.okTup]at h3)
  |zero u=>exact vR u (gH.zero u hp)
 have aF:=Great.fill_whole eK (xs.map a.eval) ((Jaf (n*ti.size)).map (z.cells[· %z.cells.size]!)) pI (by simp[hn]);have mN:((((xs.zipIdx 0).map fun x=>(x.2,x.1)).toArray).map fun(i,x)=>(i,a.eval x)).toList=((xs.map a.eval).zipIdx 0).map fun x=>(x.2,x.1):=by simp[List.zipIdx_map,Function.comp_def]
 have gD:=run_buildSlice (P:=P) w t e n _ _ ti z ht hi hz (by omega) (by have:=Nat.mul_pos ap eK;omega) (by rw[mN];exact aF);have gW:((xs.map a.eval).flatMap fun v=>v.cells.toList).toArray.size=n*ti.size:=by rw[Qr,zFJ (k:=ti.size) _ (fun v hv=>by rw[Kh];exact pI v hv)];simp[hn]
 obtain⟨G',gw⟩:=zCm (w':=w.alloc (.cells ((xs.map a.eval).flatMap fun v=>v.cells.toList).toArray e)) gj gH hd rfl (fun o v h=>by rw[hc];simpa using h) (.sl ti.size (ps.map yO.tree)) (.slice (iW ⟨w.heap.size,0,iY⟩) n n) (.inl ⟨ti.size,n,rfl,gE,by rw[<-gn,hn],by omega,by have:n<=n*ti.size:=Qq n eK;simp only[maxLen];omega,gW⟩)
 refine⟨_,_,?_,G',gw⟩;simp only[execOp,ho,Sem.run_bind,gD,Result.andThen_ok];rfl
where
 zFJ {k:Nat} (vs:List Value) (h:∀v∈vs,v.cells.toList.length=k):(vs.flatMap fun v=>v.cells.toList).length=vs.length*k:=by
  induction vs with
  |nil=>simp
  |cons v vs ih=>simp[L9,ih (fun u hu=>h u (by simp[hu])),K7];have:=h v (by simp);simp at this;omega
end
theorem zKI{α β:Type}(f:α->List β)(x:α)(k:Nat)(hk:(f x).length=k)(eK:0<k):∀(n o:Nat)(v:β),((J1 n x).flatMap f)[o]? =iW v->o<n*k/\(f x)[o%k]? =iW v
 |0,o,v,h=>by simp at h
 |n+1,o,v,h=>by
  rw[Jt,L9,Ko]at h;split at h
  ·grind[Nat.mod_eq_of_lt]
  ·rename_i hge
   rw[hk]at h hge;obtain⟨h1,h2⟩:=zKI f x k hk eK n (o-k) v h
   grind[Nat.mod_eq_sub_mod]
section
variable {P:Program}{Γ:Ctx}{E:Env}{o:Oper}{d:Nat}
theorem zXt(t e:TypeId)(ti:TypeInfo)(z:Value)(u:T)(k:Nat)(x y:Operand)(n c:Nat)(kl kc:IntKind)(ho:o.op=.makeSlice t x y)(gm:o.dst=iW d)(hd:d<Γ.N)
  (ht:P.underlying t=iW (.slice e))(hi:P.info? e=iW ti)(hz:ti.zero=iW z)(hk:ti.size=k)(eK:0<k)(hu:u.zOk=iZ)(hv:sP u=z.cells.toList)(fO:u.size=k)(hb:ti.bytes<=4096)
  (hx:opT E x=iW (.lit (.int kl n)))(hy:opT E y=iW (.lit (.int kc c)))(cV:n<=c)(hc:c<=68719476736):
  wD P Γ o E (E.app [(d,iW (.sl k (J1 n u)))] [(d,0)]):=by
 refine wD.value gm fun a w G gj=>?_
 have h1:=(yY gj hx).1;have h2:=(yY gj hy).1;subst hk;have gH:tX E d (J1 n (.zero u)):=⟨by simp,by grind,by
  have:∀m,xP (J1 m (.zero u))=[]:=by intro m;induction m with|zero=>rfl|succ m ih=>grind[xP]
  simp[this]⟩
 have hzs:z.cells.size=ti.size:=by grind[vR]
 have bi:(ti.bytes:Int)*(c:Int)<=281474976710656:=by have:ti.bytes*c<=4096*68719476736:=Jp hb hc;omega
 have gD:=run_make (P:=P) w t e ti z ht hi hz kl kc n c (by omega) (by omega) bi (by omega);simp only[J6]at gD;obtain⟨G',gw⟩:=zCm (w':=w.alloc (.cells (madeCells z.cells (c*ti.size)) e)) gj gH hd rfl (fun i v h=>by
  obtain⟨h3,h4⟩:=zKI (qM G) (.zero u) ti.size (by grind[qM]) eK n i v h
  grind[Qp,Jw,qM,madeCells]) (.sl ti.size (J1 n u)) (.slice (iW ⟨w.heap.size,0,iY⟩) n c)
  (.inl ⟨ti.size,c,by simp[yO.tree],fun p hp=>by simp at hp;obtain⟨_,rfl⟩:=hp;exact fO,by simp,by grind,by grind[maxLen],by simp[madeCells]⟩)
 refine⟨.slice (iW ⟨w.heap.size,0,iY⟩) n c,w.alloc (.cells (madeCells z.cells (c*ti.size)) e),?_,G',?_⟩
 ·simp only[execOp,ho,h1,h2,Sem.run_bind,gD,Result.andThen_ok]
  rfl
 ·have h6:∀m i,pWr d (J1 m (.zero u)) i=[]:=by intro m;induction m with|zero=>intro i;rfl|succ m ih=>grind[pWr]
  have h7:qA (J1 n (.zero u))=[]:=by
   have:∀m,xP (J1 m (.zero u))=[]:=by intro m;induction m with|zero=>rfl|succ m ih=>grind[xP]
   grind[qA]
  grind
theorem zHY(t e:TypeId)(ti:TypeInfo)(k:Nat)(ho:o.op=.buildSlice t 0 #[])(gm:o.dst=iW d)(hd:d<Γ.N)
  (ht:P.underlying t=iW (.slice e))(hi:P.info? e=iW ti):wD P Γ o E (E.app [(d,iW (.sl k []))] [(d,0)]):=by
 refine wD.value gm fun a w G gj=>?_
 have gH:tX E d []:=⟨by simp,by simp,by simp[xP]⟩;obtain⟨G',gw⟩:=zCm (w':=w.alloc (.cells #[] e)) gj gH hd (cells:=#[]) rfl (by simp) (.sl k []) (.slice (iW ⟨w.heap.size,0,iY⟩) 0 0)
  (by simp)
 refine⟨_,_,?_,G',gw⟩;have h0:(Jaf 0:Array Nat)= #[]:=by rfl
 simp[execOp,ho,Instr.buildSlice,run_underlying ht,sizeOf,typeInfo,hi,Instr.fill,newRow,h0]
theorem zMb(k:Nat)(x:Operand)(ho:o.op=.move x\/o.op=.assign x)(hx:x=.const (.slice iY 0 0))(gm:o.dst=iW d)(hd:d<Γ.N):wD P Γ o E (E.app [(d,iW (.sl k []))] [(d,0)]):=by
 refine wD.value gm fun a w G gj=>?_
 refine⟨.slice iY 0 0,w,?_,_,vM gj rfl hd (fun _=>.slice iY 0 0) (fun _=>rfl) (.sl k []) (.slice iY 0 0) (by simp[mkV,Gh.put]) (by simp[R,Gh.put]) (by simp[Top,yZ,xN])⟩;subst hx;rcases ho with ho|ho<;>simp[execOp,ho,Act.eval]
def Gh.nv(G:Gh)(d:Nat)(src:Nat->Option (Nat×List Nat))(φ:Nat->List Nat->Option (List Nat))(f:Nat->List Nat->Value):Gh where
 hd s z:=if s=d then(match z.getLast? with
  |some i=>f i z.dropLast
  |none=>.bool ja)else G.hd s z
 ad s z:=if s=d then(match z.getLast? with
  |some i=>(match src i with
   |some (x,q)=>G.ad x (z.dropLast++q)
   |none=>default)
  |none=>default)else G.ad s z
 lb b o:=match G.lb b o with
  |some (fl,s,z)=>(match φ s z with
   |some z'=>iW (fl,d,z')
   |none=>iW (fl,s,z))
  |none=>iY
 ow b:=match G.ow b with
  |some (s,z)=>(match φ s z with
   |some z'=>iW (d,z')
   |none=>iW (s,z))
  |none=>iY
theorem zXu{G:Gh}{a:Act}{w:World}{ps:List yO}(gj:Rep Γ E G a.tmps w)(h:tX E d ps)(hd:d<Γ.N):
  ∃G',Rep Γ (E.app ((d,iW (.agg (ps.map yO.tree)))::pWr d ps 0) ((d,0)::qA ps)) G' (a.tmps.setIfInBounds d (.agg (ps.flatMap (qM G)).toArray)) w:=by
 obtain⟨f1,f0,f2,f3,f4,f5,f6⟩:=zGZ gj h;have hm:=gj.mem;have gQ:Blk w w:=fun b cs e' h=>⟨cs,h,rfl⟩
 generalize gw:G.nv d (zHW ps) (zJw ps) (pHd G ps)=G'
 have ghd:∀i z,G'.hd d (z++[i])=pHd G ps i z:=by grind[Gh.nv]
 have ghd':∀s z,s≠d->G'.hd s z=G.hd s z:=by grind[Gh.nv]
 have glbm:∀b o fl x z z',G.lb b o=iW (fl,x,z)->zJw ps x z=iW z'->G'.lb b o=iW (fl,d,z'):=by grind[Gh.nv]
 have gowm:∀b x z z',G.ow b=iW (x,z)->zJw ps x z=iW z'->G'.ow b=iW (d,z'):=by grind[Gh.nv]
 have gk:∀s p,Off ((d,0)::qA ps) s p->s≠d:=fun s p h e=>absurd (h 0 (by simp[e])) (by simp)
 have gB:kS ((d,0)::qA ps) G w G' w:=by
  refine⟨by grind,fun s p h=>?_,fun b o fl s p _ hl h=>⟨?_,rfl⟩,fun b s p hl h=>?_,gQ⟩
  ·grind[Gh.nv]
  all_goals grind[Gh.nv]
 have gu:Mem Γ G' w:=by
  refine⟨fun s p=>?_,fun b o l hl=>?_,fun b l hl=>?_,hm.st,hm.fr,hm.sz,hm.bk⟩
  ·rw[<-gw]
   simp only[Gh.nv];split
   ·split
    ·grind
    ·rfl
   ·exact hm.one s p
  ·rw[<-gw]at hl
   simp only[Gh.nv]at hl;split at hl
   ·rename_i hg;exact hm.lb b o _ hg
   ·cases hl
  ·rw[<-gw]at hl
   simp only[Gh.nv]at hl;split at hl
   ·rename_i hg;exact hm.ow b _ hg
   ·cases hl
 have g4:RF Γ.St G' w d (ps.map yO.tree) [] 0:=by
  refine zPJ _ [] 0 (fun i u hu=>?_);rw[Jc];cases hs:zHW ps i with
  |none=>grind
  |some xq=>
   obtain⟨x,q⟩:=xq;obtain⟨h1,h2,h3,h4⟩:=f4 i u x q hu hs;refine zMa u q [i] (zEa.okTups_get _ f1 i u hu) ⟨by grind,by grind[Gh.nv],by grind,
    by grind,gQ⟩ (by grind[yS.mono]) h2
 refine⟨G',vT gj (by simp) gB gu ?_ ?_⟩
 ·grind[Wr.find,zDu,qA]
 ·intro s t hs
  simp only[Wr.find]at hs;split at hs
  ·rename_i he
   subst he;simp at hs;subst hs;refine⟨?_,by simpa only[R]using g4,by simp only[Top];exact uQ.of_clean _ f0⟩;rw[Jj];simp only[gj.size,hd,mkV,if_true];rw[zEM gj h G' ps 0 (by simp) ghd]
  ·rename_i gk
   obtain⟨i,u,h1,h2,h3⟩:=zDt ps d 0 s _ hs;simp only[Jc]at h3;simp at h3;subst h3;obtain⟨h4,h5,h6⟩:=h.slot s u (by grind);have er:∀xs,u≠.tup xs:=by rintro xs rfl;grind[T.okTup]
   have hi:(ps.map yO.tree)[i]? =iW u:=by simp[h1,yO.tree]
   have hr:=zCb _ [] 0 i u g4 hi;simp only[Jc]at hr;refine zJI (G:=G) (by rw[Jj];simp only[gk,if_false];exact(gj.ent s u h4).1) er (by grind) (fun z=>?_) hr
   grind[pHd]
theorem zPL(off:Nat):∀(vs:List Value)(i:Nat)(cs:Array Value)(k:Nat),off+i+vs.length<=cs.size->
  ((vs.zipIdx i).foldl (fun cs(x:Value×Nat)=>cs.setIfInBounds (off+x.2) x.1) cs)[k]? =if off+i<=k/\k<off+i+vs.length then vs[k-(off+i)]? else cs[k]?
 | [],i,cs,k,_=>by simp;omega
 |v::vs,i,cs,k,h=>by
  simp only[Jd]at h;simp only[List.zipIdx_cons,Gb];rw[zPL off vs (i+1) _ k (by simp;omega)]
  grind
theorem zHZ{pv:yO->List Value}(place:Nat->Option (Nat×Nat)):∀(vs:List (Nat×Value))(qs:List (Nat×yO))(ps:List yO)(cs:Array Value),cs.toList=ps.flatMap pv->
  (∀i p,ps[i]? =iW p->place i=iW (((ps.take i).flatMap pv).length,(pv p).length))->
  vs.map (·.1)=qs.map (·.1)->(∀(j:Nat)(v:Nat×Value)(q:Nat×yO),vs[j]? =iW v->qs[j]? =iW q->v.2.cells.toList=pv q.2/\ ∃p,ps[q.1]? =iW p/\(pv p).length=(pv q.2).length)->
  ∃cs',Instr.fill place cs vs=iW cs'/\cs'.toList=(qs.foldl (fun ps q=>ps.set q.1 q.2) ps).flatMap pv
 | [],[],ps,cs,gY,_,_,_=>⟨cs,rfl,gY⟩
 | [],_::_,_,_,_,_,h,_=>by simp at h
 |_::_,[],_,_,_,_,h,_=>by simp at h
 |(i,v)::vs,(i',q)::qs,ps,cs,gY,fP,hi,hq=>by
  simp only[Js,Ja8.injEq]at hi;obtain⟨iy,hi⟩:=hi;subst iy;obtain⟨h1,p,h2,h3⟩:=hq 0 (i,v) (i,q) rfl rfl;dsimp only at h1 h2 h3;have ux:=fP i p h2;have gJ:=(Jm.1 h2).1;have mK:ps=ps.take i++p::ps.drop (i+1):=by grind[Gz,List.take_append_drop]
  have gC:ps.set i q=ps.take i++q::ps.drop (i+1):=by grind
  have cD:v.cells.size=(pv p).length:=by grind
  have gy:cs.size=((ps.take i).flatMap pv).length+((pv p).length+((ps.drop (i+1)).flatMap pv).length):=by grind[Kh]
  have eF:(v.cells.zipIdx.foldl (fun cs(x:Value×Nat)=>cs.setIfInBounds (((ps.take i).flatMap pv).length+x.2) x.1) cs).toList=(ps.set i q).flatMap pv:=by
   rw[gC];simp only[Gm,L9,<-h1];apply Kw;intro k;rw[<-Array.foldl_toList,Ks,show v.cells.zipIdx.toList=v.cells.toList.zipIdx 0 from by simp,zPL _ _ 0 cs k (by grind)];have iI:cs.toList=((ps.take i).flatMap pv)++(pv p++(ps.drop (i+1)).flatMap pv):=by grind
   have dH:v.cells.toList.length=(pv p).length:=by rw[h1,h3]
   rw[<-Ks,iI]
   grind
  have uy:∀j p',(ps.set i q)[j]? =iW p'->place j=iW ((((ps.set i q).take j).flatMap pv).length,(pv p').length):=by
   intro j p' cH;have eI:(((ps.set i q).take j).flatMap pv).length=((ps.take j).flatMap pv).length:=by
    rw[gC]
    conv=>rhs;rw[mK]
    by_cases hj:j<=i
    ·grind
    ·rw[Qz,Qz]
     simp only[Gm,J7]
     congr 1
     have:j-(ps.take i).length=(j-(ps.take i).length-1)+1:=by simp;omega
     grind
   grind
  have hq':∀(j:Nat)(x:Nat×Value)(y:Nat×yO),vs[j]? =iW x->qs[j]? =iW y->x.2.cells.toList=pv y.2/\ ∃p,(ps.set i q)[y.1]? =iW p/\(pv p).length=(pv y.2).length:=by
   intro j x y hx hy;obtain⟨h6,p',h7,h8⟩:=hq (j+1) x y (by grind) (by grind)
   grind
  obtain⟨cs',h4,h5⟩:=zHZ place vs qs (ps.set i q) _ eF uy hi hq'
  grind[Instr.fill]
theorem uF{t:TypeId}{it:TypeInfo}{fields:Array Field}{z:Value}{places:List (Nat×Nat)}(hi:P.info? t=iW it)(hu:P.underlying t=iW (.struct fields))(hz:it.zero=iW z)
  (hp:fields.toList.mapM (fun f=>(P.info? f.type).map fun i=>(f.offset,i.size))=iW places)(parts:List (Nat×Value)):P.built t parts=Instr.fill (places.toArray[·]?) z.cells parts:=by
 grind[Program.built]
theorem zMc{t e:TypeId}{n:Nat}{it ie:TypeInfo}{z:Value}(hi:P.info? t=iW it)(hu:P.underlying t=iW (.array n e))(hz:it.zero=iW z)
  (he:P.info? e=iW ie)(parts:List (Nat×Value)):P.built t parts=Instr.fill (fun i=>iW (i*ie.size,ie.size)) z.cells parts:=by
 grind[Program.built]
theorem zGi{G:Gh}:(zs:List T)->(zs.map yO.zero).flatMap (qM G)=qQ zs
 | []=>rfl
 |z::zs=>by simp[qM,qQ,<-zGi (G:=G) zs]
theorem zTa(t:TypeId)(place:Nat->Option (Nat×Nat))(z:Value)(zs:List T)(pl:List (Nat×Operand))(qs:List (Nat×yO))(ps:List yO)(ho:o.op=.build t pl.toArray)(gm:o.dst=iW d)(hd:d<Γ.N)
  (hb:∀parts,P.built t parts=Instr.fill place z.cells parts)(hzv:qQ zs=z.cells.toList)(hz:zBs zs=iZ)(fP:∀i u,zs[i]? =iW u->place i=iW (T.sizes (zs.take i),u.size))
  (gH:qs.foldl (fun ps q=>ps.set q.1 q.2) (zs.map yO.zero)=ps)(gA:tX E d ps)(dp:pl.map (·.1)=qs.map (·.1))
  (hq:∀(j:Nat)(x:Nat×Operand)(q:Nat×yO),pl[j]? =iW x->qs[j]? =iW q->zAZ E x.2 q.2/\q.2∈ps/\ ∃u,zs[q.1]? =iW u/\u.size=q.2.tree.size):
  wD P Γ o E (E.app ((d,iW (.agg (ps.map yO.tree)))::pWr d ps 0) ((d,0)::qA ps)):=by
 refine wD.value gm fun a w G gj=>?_
 obtain⟨G',gw⟩:=zXu gj gA hd;have gE:∀(us:List T),zBs us=iZ->((us.map yO.zero).flatMap (qM G)).length=T.sizes us:=by grind[zGi,zCc]
 obtain⟨cs',h1,h2⟩:=zHZ (pv:=qM G) place (pl.map fun x=>(x.1,a.eval x.2)) qs (zs.map yO.zero) z.cells (by rw[zGi,hzv]) (fun i p hp=>by
   rw[Jx]at hp;cases hu:zs[i]? with
   |none=>grind
   |some u=>
    simp[hu]at hp;subst hp;rw[fP i u hu,<-Ue,gE _ (zOks_take zs i hz),qM,vR u (zOks_get zs hz i u hu)])
  (by grind[Function.comp_def]) (fun j v q hv hqj=>by
   rw[Jx]at hv;cases hx:pl[j]? with
   |none=>grind
   |some x=>
    simp[hx]at hv;subst hv;obtain⟨h3,h4,u,h5,h6⟩:=hq j x q hx hqj;refine⟨zB6 gj gA h4 h3,.zero u,by simp[h5],?_⟩;rw[qM,vR u (zOks_get zs hz _ u h5),h6];cases ae:q.2 with
    |slot s t=>
     rw[ae]at h4;obtain⟨_,_,h7⟩:=gA.slot s t h4;exact(vH t [] (by rintro xs rfl;grind[T.okTup])).symm
    |zero u'=>
     rw[ae]at h4;exact(vR u' (gA.zero u' h4)).symm)
 rw[gH]at h2;have h3:cs'=(ps.flatMap (qM G)).toArray:=by rw[<-h2]
 refine⟨_,w,?_,G',gw⟩;have gD:=run_build (P:=P) w t (pl.map fun x=>(x.1,a.eval x.2)).toArray cs' (by grind);simp only[List.map_toArray,execOp,ho,Sem.run_bind]at gD ⊢
 simp_all
where
 zOks_get:(xs:List T)->zBs xs=iZ-> ∀(i:Nat)(x:T),xs[i]? =iW x->x.zOk=iZ
  | [],_,_,_,h=>by simp at h
  |y::ys,hk,i,x,h=>by
   simp only[zBs,J3]at hk;cases i with
   |zero=>grind
   |succ i=>exact zOks_get ys hk.2 i x (by grind)
 zOks_take:(xs:List T)-> ∀i,zBs xs=iZ->zBs (xs.take i)=iZ
  | [],i,_=>by simp[zBs]
  |y::ys,0,_=>by simp[zBs]
  |y::ys,i+1,hk=>by
   simp only[zBs,J3,Lf]at hk ⊢
   exact⟨hk.1,zOks_take ys i hk.2⟩
end
mutual
def vZ:T->T->Bool
 |.agg xs,.agg ys=>zAH xs ys
 |.agg _,_=>ja
 |.tup _,_=>ja
 |_,.agg _=>ja
 |_,.tup _=>ja
 |.any,_|.lit _,_|.ro _,_|.same _ _,_|.addr _ _,_|.sub _ _ _ _ _,_|.sl _ _,_|.ptr _,_=>iZ
def zAH:List T->List T->Bool
 | [],[]=>iZ
 |x::xs,y::ys=>vZ x y&&zAH xs ys
 | [],_::_=>ja
 |_::_,[]=>ja
end
mutual
theorem zDv:(x y:T)->vZ x y=iZ->x.size=y.size
 |.agg xs,.agg ys,h=>by simp only[vZ]at h;simp only[T.size];exact zFs xs ys h
 |.agg _,.any,h|.agg _,.lit _,h|.agg _,.ro _,h|.agg _,.same _ _,h|.agg _,.addr _ _,h|.agg _,.sub _ _ _ _ _,h|.agg _,.sl _ _,h|.agg _,.ptr _,h|.agg _,.tup _,h=>by grind[vZ]
 |.tup _,_,h=>by grind[vZ]
 |.any,y,h|.lit _,y,h|.ro _,y,h|.same _ _,y,h|.addr _ _,y,h|.sub _ _ _ _ _,y,h|.sl _ _,y,h|.ptr _,y,h=>by cases y<;>simp[vZ]at h<;>simp[T.size]
theorem zFs:(xs ys:List T)->zAH xs ys=iZ->T.sizes xs=T.sizes ys
 | [],[],_=>rfl
 |x::xs,y::ys,h=>by simp only[zAH,J3]at h;simp only[T.sizes,zDv x y h.1,zFs xs ys h.2]
 | [],_::_,h=>by grind[zAH]
 |_::_,[],h=>by grind[zAH]
end
section
variable {G:Gh}{w:World}{s:Nat}
mutual
theorem zKJ:(t:T)-> ∀(p:List Nat)(b o j:Nat),Loc G w s t p b o->j<t.size-> ∃y,G.lb b (o+j)=iW (ja,s,y++p)
 |.agg xs,p,b,o,j,h,hj=>by simp only[Loc,T.size]at h hj;exact zPM xs p 0 b o j h.2 hj
 |.any,p,b,o,j,h,hj|.lit _,p,b,o,j,h,hj|.ro _,p,b,o,j,h,hj|.same _ _,p,b,o,j,h,hj|.addr _ _,p,b,o,j,h,hj|.sub _ _ _ _ _,p,b,o,j,h,hj|.sl _ _,p,b,o,j,h,hj|.ptr _,p,b,o,j,h,hj=>by
  simp only[Loc,T.size]at h hj
  simp_all
 |.tup _,_,_,_,_,h,_=>by simp only[Loc]at h
theorem zPM:(xs:List T)-> ∀(p:List Nat)(i b o j:Nat),vO G w s xs p i b o->j<T.sizes xs-> ∃y,G.lb b (o+j)=iW (ja,s,y++p)
 | [],_,_,_,_,_,_,hj=>by grind[T.sizes]
 |x::xs,p,i,b,o,j,h,hj=>by
  simp only[vO,T.sizes]at h hj
  by_cases gJ:j<x.size
  ·obtain⟨y,hy⟩:=zKJ x (i::p) b o j h.1 gJ
   exact⟨y++[i],by grind⟩
  ·obtain⟨y,hy⟩:=zPM xs p (i+1) b (o+x.size) (j-x.size) h.2 (by omega)
   grind
end
mutual
theorem zTb{G':Gh}{w':World}:(u u0:T)-> ∀(p:List Nat)(b o:Nat),vZ u u0=iZ->(∀y,u.inT y.reverse=iZ->G'.ad s (y++p)=G.ad s (y++p))->
  (∀b o y,G.lb b o=iW (ja,s,y++p)->G'.lb b o=iW (ja,s,y++p))->(∀j v,(vals G' s u p)[j]? =iW v->yL w' b (o+j)=iW v)->Loc G w s u0 p b o->Loc G' w' s u p b o
 |.agg xs,.agg ys,p,b,o,h,ha,hl,hc,h0=>by
  simp only[Loc,vZ]at h h0 ⊢
  refine⟨by have:=ha [] rfl;grind,zPN xs ys p 0 b o h (fun i x hx y hy=>?_) (by omega) (by grind[vals]) h0.2⟩
  grind[Hx,T.inT]
 |.agg _,.any,_,_,_,h,_,_,_,_|.agg _,.lit _,_,_,_,h,_,_,_,_|.agg _,.ro _,_,_,_,h,_,_,_,_|.agg _,.same _ _,_,_,_,h,_,_,_,_|.agg _,.addr _ _,_,_,_,h,_,_,_,_|.agg _,.sub _ _ _ _ _,_,_,_,h,_,_,_,_|.agg _,.sl _ _,_,_,_,h,_,_,_,_|.agg _,.ptr _,_,_,_,h,_,_,_,_|.agg _,.tup _,_,_,_,h,_,_,_,_=>by grind[vZ]
 |.tup _,_,_,_,_,h,_,_,_,_=>by grind[vZ]
 |.any,u0,p,b,o,h,ha,hl,hc,h0|.lit _,u0,p,b,o,h,ha,hl,hc,h0|.ro _,u0,p,b,o,h,ha,hl,hc,h0|.same _ _,u0,p,b,o,h,ha,hl,hc,h0|.addr _ _,u0,p,b,o,h,ha,hl,hc,h0|.sub _ _ _ _ _,u0,p,b,o,h,ha,hl,hc,h0|.sl _ _,u0,p,b,o,h,ha,hl,hc,h0|.ptr _,u0,p,b,o,h,ha,hl,hc,h0=>by have h1:=vD (by cases u0<;>simp[vZ]at h<;>rfl) h0;have h2:=ha [] rfl;rw[Jv]at h2;simp only[Loc];exact⟨h2.trans h1.1,by simp_all,by simpa using hc 0 (G'.hd s p) (by simp[vals])⟩
theorem zPN{G':Gh}{w':World}:(xs ys:List T)-> ∀(p:List Nat)(j b o:Nat),zAH xs ys=iZ->(∀i x,xs[i]? =iW x-> ∀y,x.inT y.reverse=iZ->G'.ad s (y++((j+i)::p))=G.ad s (y++((j+i)::p)))->
  (∀b o y,G.lb b o=iW (ja,s,y++p)->G'.lb b o=iW (ja,s,y++p))->(∀i v,(yH G' s xs p j)[i]? =iW v->yL w' b (o+i)=iW v)->vO G w s ys p j b o->vO G' w' s xs p j b o
 | [],[],_,_,_,_,_,_,_,_,_=>by simp only[vO]
 |x::xs,y::ys,p,j,b,o,h,ha,hl,hc,h0=>by
  simp only[zAH,J3,vO]at h h0 ⊢
  have hs:=zDv x y h.1;have er:∀zs,x≠.tup zs:=by rintro zs rfl;grind[vZ]
  refine⟨zTb x y (j::p) b o h.1 (fun z hz=>by simpa using ha 0 x (by simp) z hz) (fun b o z hz=>by have:=hl b o (z++[j]) (by grind);grind) (fun i v hv=>hc i v ?_) h0.1,
   zPN xs ys p (j+1) b (o+x.size) h.2 (fun i z hz=>by have:=ha (i+1) z (by grind);grind) hl (fun i v hv=>?_) (by grind)⟩
  ·grind[yH]
  ·have:=hc (x.size+i) v (by
    grind[yH,vH])
   grind
 | [],_::_,_,_,_,_,h,_,_,_,_=>by grind[zAH]
 |_::_,[],_,_,_,_,h,_,_,_,_=>by grind[zAH]
end
end
def zHu(p:yO)(q:List Nat)(s:Nat)(z:List Nat):Option (List Nat):=
 match p with
 |.slot s0 t=>if qP t&&s0==s then iW (z++q)else iY
 |.zero _=>iY
def sHd(G:Gh)(p:yO)(y:List Nat):Value:=
 match p with
 |.slot s _=>G.hd s y
 |.zero u=>zAp (zhd u y.reverse)
def sWr(r:Nat)(q:List Nat):yO->Wr
 |.slot s t=>if qP t then[(s,iW (cpT r t q))]else[]
 |.zero _=>[]
def Gh.st(G:Gh)(r:Nat)(q:List Nat)(p:yO):Gh where
 hd s z:=if s=r/\q<:+z then sHd G p (z.take (z.length-q.length))else G.hd s z
 ad s z:=if s=r/\q<:+z/\p.tree.inT (z.take (z.length-q.length)).reverse=ja then(match p with
  |.slot s0 _=>G.ad s0 (z.take (z.length-q.length))
  |.zero _=>default)else G.ad s z
 lb b o:=match G.lb b o with
  |some (fl,s,z)=>(match zHu p q s z with
   |some z'=>iW (fl,r,z')
   |none=>iW (fl,s,z))
  |none=>iY
 ow b:=match G.ow b with
  |some (s,z)=>(match zHu p q s z with
   |some z'=>iW (r,z')
   |none=>iW (s,z))
  |none=>iY
mutual
theorem zMd{Γ:Ctx}{G:Gh}{w:World}(hm:Mem Γ G w){s:Nat}:(t:T)-> ∀(p:List Nat)(v:Value),v∈vals G s t p->v.oneCell'=iZ
 |.agg xs,p,v,h=>by simp only[vals]at h;exact zEc hm xs p 0 v h
 |.any,p,v,h|.lit _,p,v,h|.ro _,p,v,h|.same _ _,p,v,h|.addr _ _,p,v,h|.sub _ _ _ _ _,p,v,h|.sl _ _,p,v,h|.ptr _,p,v,h|.tup _,p,v,h=>by simp only[vals,List.mem_singleton]at h;rw[h];exact hm.one s p
theorem zEc{Γ:Ctx}{G:Gh}{w:World}(hm:Mem Γ G w){s:Nat}:(xs:List T)-> ∀(p:List Nat)(j:Nat)(v:Value),v∈yH G s xs p j->v.oneCell'=iZ
 | [],_,_,_,h=>by grind[yH]
 |x::xs,p,j,v,h=>by
  simp only[yH,Jf]at h;rcases h with h|h
  ·exact zMd hm x _ v h
  ·exact zEc hm xs p _ v h
end
mutual
theorem zGj:(u:T)->u.zOk=iZ-> ∀v∈sP u,v.oneCell'=iZ
 |.lit v,h,x,hx=>by simp only[sP,List.mem_singleton]at hx;rw[hx];exact h
 |.sl _ _,_,x,hx=>by simp only[sP,List.mem_singleton]at hx;rw[hx];rfl
 |.agg xs,h,x,hx=>by simp only[T.zOk]at h;simp only[sP]at hx;exact zIa xs h x hx
 |.any,h,_,_|.ro _,h,_,_|.same _ _,h,_,_|.addr _ _,h,_,_|.sub _ _ _ _ _,h,_,_|.ptr _,h,_,_|.tup _,h,_,_=>by grind[T.zOk]
theorem zIa:(xs:List T)->zBs xs=iZ-> ∀v∈qQ xs,v.oneCell'=iZ
 | [],_,_,h=>by grind[qQ]
 |x::xs,h,v,hv=>by
  simp only[zBs,J3]at h;simp only[qQ,Jf]at hv;rcases hv with hv|hv
  ·exact zGj x h.1 v hv
  ·exact zIa xs h.2 v hv
end
theorem zMe(y q:List Nat):(y++q).take ((y++q).length-q.length)=y:=by simp
theorem zOn{Γ:Ctx}{G G':Gh}{w':World}{s d:Nat}{q:List Nat}{t:T}{v:Option Value}(hv:v=iW (mkV G s t []))(er:∀xs,t≠.tup xs)(hs:∀p,G'.hd s p=G.hd s p)(my:∀z,G'.hd d (z++q)=G.hd s z)
  (hr:R Γ.St G' w' d t q):Ent Γ G' w' v s (cpT d t q):=by
 have hz:∀z,G'.hd s (z++[])=G'.hd d (z++q):=by grind
 refine⟨?_,?_,jQ d t q⟩
 ·rw[hv,zB5 (G:=G') (G':=G') t q [] er hz,zAO G s t [] er,zCE t [] q (fun z=>by rw[my,J9])]
 ·exact zEH (G:=G') (G':=G') (fun _=>rfl) t q [] hz er (yS.triv (fun _ _=>⟨rfl,rfl⟩) _) hr
section
variable {P:Program}{Γ:Ctx}{E:Env}{o:Oper}
theorem zAq:(f:List Nat)-> ∀(t u:T),yA t->yA u->yA (t.set f u)
 | [],t,u,_,hu=>by grind[T.set]
 |i::f,t,u,ht,hu=>by
  cases t with
  |sl k xs=>
   simp only[T.set];split
   ·rename_i x hx
    simp only[yA,yS]at ht ⊢
    exact sets_clean xs i _ ht (zAq f x u (uS xs ht i x hx) hu)
   ·exact ht
  |agg xs=>
   simp only[T.set];split
   ·rename_i x hx
    simp only[yA,yS]at ht ⊢
    exact sets_clean xs i _ ht (zAq f x u (uS xs ht i x hx) hu)
   ·exact ht
  |tup xs=>
   simp only[T.set];split
   ·rename_i x hx
    simp only[yA,yS]at ht ⊢
    exact sets_clean xs i _ ht (zAq f x u (uS xs ht i x hx) hu)
   ·exact ht
  |ptr t=>
   simp only[T.set];split
   ·simp only[yA,yS]at ht ⊢
    exact zAq f t u ht hu
   ·exact ht
  |_=>grind[T.set]
where sets_clean:(xs:List T)-> ∀(i:Nat)(y:T),yZ xs->yA y->yZ (xs.set i y)
 | [],_,_,_,_=>by grind
 |x::xs,0,y,h,hy=>by simp only[Lw,yZ,xN]at h ⊢;grind
 |x::xs,i+1,y,h,hy=>by simp only[L7,yZ,xN]at h ⊢;exact⟨h.1,sets_clean xs i y h.2 hy⟩
theorem zJJ(T':TypeId)(ti:TypeInfo)(x y:Operand)(r:Nat)(q:List Nat)(tr u0:T)(p:yO)(ho:o.op=.store T' x y)(gm:o.dst=iY)
  (hi:P.info? T'=iW ti)(gE:ti.size=p.tree.size)(fY:0<ti.size)(hx:zDg Γ E x r q)(hr:E r=iW tr)(de:tr.single=iZ)(hg:tr.get q.reverse=iW u0)(hl:tr.locd q.reverse=iZ)
  (fD:vZ p.tree u0=iZ)(hy:zAZ E y p)(gH:tX E r [p]):
  wD P Γ o E (E.app ((r,iW (tr.set q.reverse p.tree))::sWr r q p) ((r,q.length)::qA [p])):=by
 refine wD.skip gm fun a w G gj=>?_
 have hm:=gj.mem;have bn:=hx a w G gj;obtain⟨e3,e4,e5⟩:=gj.ent r _ hr;have bF:q≠[]:=by rintro rfl;simp[T.locd]at hl
 obtain⟨i0,f0,um⟩:∃i f,q.reverse=i::f:=by
  cases h:q.reverse with
  |nil=>exact absurd (by simpa using h) bF
  |cons i f=>exact⟨i,f,rfl⟩
 have tj:∀v:T,(tr.set q.reverse v).single=iZ/\yA tr:=by
  intro v;rw[um]at hg ⊢
  cases tr with
  |sl k xs=>exact⟨by simp only[T.set];split<;>rfl,by simpa only[Top,yA,yS]using e5⟩
  |ptr t=>exact⟨by simp only[T.set];split<;>rfl,by simpa only[Top,yA,yS]using e5⟩
  |agg xs=>simp[T.single]at de
  |tup xs=>simp[T.single]at de
  |_=>simp[T.get]at hg
 obtain⟨b,ob,cs,et,pU,gQ,iD⟩:=(zBk q.reverse tr u0 [] e4 hg).2 hl;simp only[rp,K8,J9]at pU;have hru0:=(zBk q.reverse tr u0 [] e4 hg).1;have fh:=zCF pU;have tq:=zDv _ _ fD;have hc:=zB6 gj gH (by simp) hy;have pI:(a.eval y).cells.size=p.tree.size:=by
  rw[<-Kh,hc];cases p with
  |slot s t=>obtain⟨_,_,h3⟩:=gH.slot s t (by simp);exact vH t [] (by rintro xs rfl;simp[T.okTup]at h3)
  |zero u=>exact vR u (gH.zero u (by simp))
 have gv:∀v∈(a.eval y).cells.toList,v.oneCell'=iZ:=by
  rw[hc];intro v hv;cases p with
  |slot s t=>exact zMd hm t [] v hv
  |zero u=>exact zGj u (gH.zero u (by simp)) v hv
 generalize eH:w.setRow b (cs.toList.take ob++(a.eval y).cells.toList++cs.toList.drop (ob+(a.eval y).cells.toList.length)).toArray=w'
 have eF:w'.heap[b]? =iW (.cells (cs.toList.take ob++(a.eval y).cells.toList++cs.toList.drop (ob+(a.eval y).cells.toList.length)).toArray et (0,0)):=by rw[<-eH];exact setRow_heap w b cs _ et _ gQ
 have gN:∀b',b'≠b->w'.heap[b']? =w.heap[b']?:=fun b' h=>by rw[<-eH];exact setRow_other w b b' _ h
 have gW:w'.heap.size=w.heap.size:=by rw[<-eH];exact size_setRow w b _
 have gy:(a.eval y).cells.toList.length=u0.size:=by rw[Kh,pI,tq]
 have eR:∀k,yL w' b k=if ob<=k/\k<ob+u0.size then(qM G p)[k-ob]? else yL w b k:=by
  intro k;simp only[yL,World.cell?,eF,gQ,U6,Hk,if_false];rw[<-hc,<-gy]at*
  rw[<-Ks,<-Ks (xs:=cs)];simp only[];have gY:cs.toList.length=cs.size:=Kh ..
  generalize (a.eval y).cells.toList=V at*
  by_cases h1:k<ob
  ·rw[if_neg (by omega),Jh,K0 (by simp;omega),Gk h1]
  ·by_cases h2:k<ob+V.length
   ·rw[if_pos ⟨by omega,h2⟩,Jh,Ji (by simp;omega),K0 (by simp;omega)]
    congr 1;simp;omega
   ·rw[if_neg (by omega),Jh,Ji (by simp;omega),Ji (by simp;omega),Lt]
    congr 1;simp;omega
 have ck:∀b' o' fl s z,G.lb b' o'=iW (fl,s,z)-> ¬(s=r/\q<:+z)->yL w' b' o'=yL w b' o':=by
  intro b' o' fl s z h1 h2
  by_cases hb:b'=b
  ·subst hb
   rw[eR];split
   ·rename_i h3
    obtain⟨y',h4⟩:=zKJ u0 q b' ob (o'-ob) pU (by omega);rw[show ob+(o'-ob)=o' from by omega,h1]at h4;simp at h4;exact absurd ⟨h4.2.1,y',h4.2.2.symm⟩ h2
   ·rfl
  ·simp[yL,World.cell?,gN b' hb]
 have eG:Blk w w':=by
  intro b' cs' e' h1
  by_cases hb:b'=b
  ·subst hb
   rw[gQ]at h1;simp at h1;obtain⟨rfl,rfl⟩:=h1;exact⟨_,eF,by simp;have:cs.toList.length=cs.size:=Kh ..;omega⟩
  ·exact⟨cs',by rw[gN b' hb];exact h1,rfl⟩
 generalize gw:G.st r q p=G'
 have ghd:∀y',G'.hd r (y'++q)=sHd G p y':=fun y'=>by rw[<-gw];simp[Gh.st]
 have ghd':∀s z,¬(s=r/\q<:+z)->G'.hd s z=G.hd s z:=fun s z h=>by rw[<-gw];simp only[Gh.st];rw[if_neg h]
 have gad:∀s z,¬(s=r/\q<:+z)->G'.ad s z=G.ad s z:=fun s z h=>by rw[<-gw];simp only[Gh.st];rw[if_neg (fun h2=>h ⟨h2.1,h2.2.1⟩)]
 have gadf:∀y',p.tree.inT y'.reverse=iZ->G'.ad r (y'++q)=G.ad r (y'++q):=fun y' h=>by rw[<-gw];simp only[Gh.st,zMe];rw[if_neg (by simp[h])]
 have gadm:∀s0 t y',p=.slot s0 t->t.inT y'.reverse=ja->G'.ad r (y'++q)=G.ad s0 y':=fun s0 t y' h1 h2=>by subst h1;rw[<-gw];simp only[Gh.st,zMe,yO.tree];rw[if_pos];simp[h2]
 have glb:∀b' o' fl s z,G.lb b' o'=iW (fl,s,z)->zHu p q s z=iY->G'.lb b' o'=iW (fl,s,z):=fun b' o' fl s z h1 h2=>by rw[<-gw];simp[Gh.st,h1,h2]
 have glbm:∀b' o' fl s z z',G.lb b' o'=iW (fl,s,z)->zHu p q s z=iW z'->G'.lb b' o'=iW (fl,r,z'):=fun b' o' fl s z z' h1 h2=>by rw[<-gw];simp[Gh.st,h1,h2]
 have gow:∀b' s z,G.ow b'=iW (s,z)->zHu p q s z=iY->G'.ow b'=iW (s,z):=fun b' s z h1 h2=>by rw[<-gw];simp[Gh.st,h1,h2]
 have gowm:∀b' s z z',G.ow b'=iW (s,z)->zHu p q s z=iW z'->G'.ow b'=iW (r,z'):=fun b' s z z' h1 h2=>by rw[<-gw];simp[Gh.st,h1,h2]
 have ah:∀s z,(∀n,(s,n)∉(r,q.length)::qA [p])->zHu p q s z=iY:=by
  intro s z h;cases p with
  |zero u=>rfl
  |slot s0 t=>
   simp only[zHu];rw[if_neg];intro h2;simp only[J3,beq_iff_eq]at h2;obtain⟨h3,rfl⟩:=h2;exact h 1 (by simp[qA,xP,h3])
 have ph:∀z,zHu p q r z=iY:=by
  intro z;cases p with
  |zero u=>rfl
  |slot s0 t=>
   simp only[zHu];rw[if_neg];intro h2;simp only[J3,beq_iff_eq]at h2;obtain⟨h3,rfl⟩:=h2;have:=(L5.1 gH.dist).1;simp[xP,h3]at this
 have mr:∀s z,Off ((r,q.length)::qA [p]) s z-> ¬(s=r/\q<:+z):=by
  rintro s z h ⟨rfl,h2⟩
  have:=h q.length (by simp);have:=h2.length_le;omega
 have gB:kS ((r,q.length)::qA [p]) G w G' w':=by
  refine⟨fun s z h=>ghd' s z (mr s z h),fun s z h=>gad s z (mr s z h),fun b' o' fl s z _ h1 h2=>⟨glb b' o' fl s z h1 (ah s z h2),ck b' o' fl s z h1 ?_⟩,fun b' s z h1 h2=>gow b' s z h1 (ah s z h2),eG⟩
  rintro⟨rfl,_⟩
  exact h2 q.length (by simp)
 have bR:zDp Γ w b:=by obtain⟨y',h4⟩:=zKJ u0 q b ob 0 pU (by omega);exact hm.lb _ _ _ h4
 have gu:Mem Γ G' w':=by
  refine⟨fun s z=>?_,fun b' o' l hl=>?_,fun b' l hl=>?_,fun b' x' eC=>?_,fun b' h1 h2=>?_,by rw[gW];exact hm.sz,hm.bk.trans eG (by rw[<-eH];rfl) (by rw[<-eH];rfl)⟩
  ·by_cases h:s=r/\q<:+z
   ·obtain⟨rfl,y',rfl⟩:=h
    rw[ghd];unfold sHd;split
    ·exact hm.one _ _
    ·exact zCj _
   ·rw[ghd' s z h];exact hm.one s z
  ·have:∃l',G.lb b' o'=iW l':=by
    rw[<-gw]at hl;simp only[Gh.st]at hl;split at hl
    ·exact⟨_,by assumption⟩
    ·cases hl
   obtain⟨l',mV⟩:=this;have:=hm.lb b' o' l' mV;exact⟨by rw[gW];exact this.1,this.2⟩
  ·have:∃l',G.ow b'=iW l':=by
    rw[<-gw]at hl;simp only[Gh.st]at hl;split at hl
    ·exact⟨_,by assumption⟩
    ·cases hl
   obtain⟨l',mV⟩:=this;have:=hm.ow b' l' mV;exact⟨by rw[gW];exact this.1,this.2⟩
  ·have hb:b'≠b:=by rintro rfl;rw[bR.2.2]at eC;cases eC
   rw[gN b' hb];exact hm.st b' x' eC
  ·have hb:b'≠b:=by
    rintro rfl
    rcases bR.2.1 with h3|h3
    ·omega
    ·exact h2 h3
   rw[gN b' hb];exact hm.fr b' h1 h2
 have dM:Upd G w G' w' r q:=by refine⟨fun z h=>ghd' r z (fun h2=>h h2.2),fun z h=>gad r z (fun h2=>h h2.2),fun b' o' fl z h1 h=>⟨glb b' o' fl r z h1 (ph z),ck b' o' fl r z h1 (fun h2=>h h2.2)⟩,fun b' z h1 _=>gow b' r z h1 (ph z),eG⟩
 have bD:R Γ.St G' w' r p.tree q:=by
  cases hp:p with
  |zero u=>
   refine zKH u q (gH.zero u (by simp[hp])) (fun z=>by rw[ghd];simp[sHd,hp])
  |slot s0 t=>
   obtain⟨h1,h2,h3⟩:=gH.slot s0 t (by simp[hp]);have fb:=(gj.ent s0 t h1).2.1
   by_cases pu:qP t=iZ
   ·have dW:s0≠r:=by
     rintro rfl
     have:=(L5.1 gH.dist).1;simp[hp,xP,pu]at this
    refine zMa t [] q h3 ⟨fun z=>by rw[ghd,J9];simp[sHd,hp],fun z hz=>by rw[J9];exact gadm s0 t z hp hz,fun b' o' fl z _ h4=>?_,fun b' z h4=>?_,eG⟩ (yS.mono (fun _ _=>False.elim) t h2) fb
    ·rw[J9]at h4
     exact⟨glbm b' o' fl s0 z _ h4 (by simp[zHu,hp,pu]),ck b' o' fl s0 z h4 (fun h5=>dW h5.1)⟩
    ·rw[J9]at h4
     exact gowm b' s0 z _ h4 (by simp[zHu,hp,pu])
   ·have hh:G'.hd r q=G.hd s0 []:=by have:=ghd [];rw[Jv]at this;rw[this];simp[sHd,hp]
    cases t<;>simp[qP]at pu<;>simp only[R,yO.tree]at fb ⊢ <;>rw[hh]<;>exact fb
 have cY:vals G' r p.tree q=qM G p:=by
  cases hp:p with
  |zero u=>exact zGh u q (gH.zero u (by simp[hp])) (fun z=>by rw[ghd];simp[sHd,hp])
  |slot s0 t=>exact zBQ t [] q (fun z=>by rw[ghd];simp[sHd,hp])
 have av:∀b' o',Loc G w r u0 q b' o'->Loc G' w' r p.tree q b' o':=by
  intro b' o' h1;have h2:b'=b/\o'=ob:=by have:=(zCF h1).symm.trans fh;simp at this;exact this
  obtain⟨rfl,rfl⟩:=h2;refine zTb p.tree u0 q b' o' fD (fun y' h=>gadf y' h) (fun b2 o2 y' h=>glb b2 o2 ja r _ h (ph _)) (fun j v hv=>?_) h1;rw[cY]at hv;have hj:=(Jm.1 hv).1;have fP:(qM G p).length=u0.size:=by rw[<-hc,gy]
  rw[eR,if_pos ⟨by omega,by omega⟩,show o'+j-o'=j from by omega];exact hv
 have tx:R Γ.St G' w' r (tr.set q.reverse p.tree) []:=by
  have cG:rp q.reverse []=q:=by simp[rp]
  refine zGW q.reverse tr p.tree u0 [] (by rw[cG];exact dM) e4 hg tq (yS.mono (fun _ _=>False.elim) tr (tj .any).2) (by rw[cG];exact av) (by rw[cG];exact bD)
 have gM:=run_storeCells_at P b ob et (a.eval y).cells.toList 0 cs w gQ (by omega) gv;simp only[Qy]at gM;rw[eH]at gM;refine⟨w',?_,G',vT gj rfl gB gu ?_ ?_⟩
 ·have dR:(a.eval y).cells.size=ti.size:=by rw[pI,gE]
  simp[execOp,ho,bn,fh,Instr.storeAt,sM,storeVar,sizeOf,typeInfo,hi,dR,gM]
 ·intro s hs
  simp only[Wr.find]at hs;split at hs
  ·cases hs
  ·rename_i gk
   refine⟨fun n hn=>?_,rfl⟩;simp only[Jb,Ja3.injEq]at hn;rcases hn with⟨h1,_⟩|hn
   ·exact gk h1.symm
   ·cases p with
    |zero u=>simp[qA,xP]at hn
    |slot s0 t=>
     by_cases pu:qP t=iZ
     ·simp[qA,xP,pu]at hn
      simp[sWr,pu,Wr.find,hn.1.symm]at hs
     ·simp[qA,xP,pu]at hn
 ·intro s t hs
  simp only[Wr.find]at hs;split at hs
  ·rename_i he
   subst he;simp at hs;subst hs;refine⟨?_,tx,Top.of_clean _ (zAq _ _ _ (tj .any).2 ?_)⟩
   ·rw[e3,xS (tj p.tree).1,xS de]
    congr 1
    exact(ghd' r [] (fun h=>bF (by simpa using h.2))).symm
   ·cases p with
    |zero u=>exact(zCk u (gH.zero u (by simp))).1
    |slot s0 t=>exact(gH.slot s0 t (by simp)).2.1
  ·rename_i gk
   cases hp:p with
   |zero u=>simp[sWr,hp,Wr.find]at hs
   |slot s0 t0=>
    by_cases pu:qP t0=iZ
    ·simp only[sWr,hp,pu,if_true,Wr.find]at hs
     split at hs
     ·rename_i he
      subst he;simp at hs;subst hs;obtain⟨h1,h2,h3⟩:=gH.slot s0 t0 (by simp[hp]);refine zOn (G:=G) (gj.ent s0 t0 h1).1 (by rintro xs rfl;simp[T.okTup]at h3) (fun z=>ghd' s0 z (fun h=>gk h.1.symm)) (fun z=>by rw[ghd];simp[sHd,hp]) (by rw[hp]at bD;exact bD)
     ·cases hs
    ·simp[sWr,hp,pu,Wr.find]at hs
theorem zTc(T':TypeId)(ti:TypeInfo)(x y:Operand)(r:Nat)(q:List Nat)(tr u0:T)(p:yO)(ho:o.op=.store T' x y)(gm:o.dst=iY)
  (hi:P.info? T'=iW ti)(gE:ti.size=p.tree.size)(fY:0<ti.size)(hx:opT E x=iW (.addr r q))(hr:E r=iW tr)(de:tr.single=iZ)(hg:tr.get q.reverse=iW u0)(hl:tr.locd q.reverse=iZ)
  (fD:vZ p.tree u0=iZ)(hy:zAZ E y p)(gH:tX E r [p]):
  wD P Γ o E (E.app ((r,iW (tr.set q.reverse p.tree))::sWr r q p) ((r,q.length)::qA [p])):=
 by grind[zJJ,zDg.addr]
end
section
variable {G G':Gh}{s:Nat}
theorem zOo(xs:List T):∀(p:List Nat)(j:Nat),(∀k,j<=k-> ∀z,G'.hd s (z++(k::p))=G.hd s (z++(k::p)))->yH G' s xs p j=yH G s xs p j:=by
 induction xs with
 |nil=>grind[yH]
 |cons z zs ih=>
  intro p j h;simp only[yH];rw[zBQ z (j::p) (j::p) (h j (Je _)),ih p (j+1) (by grind)]
theorem zR2(xs:List T):∀(p:List Nat)(j i:Nat)(x y:T),xs[i]? =iW x->(∀k,k≠j+i-> ∀z,G'.hd s (z++(k::p))=G.hd s (z++(k::p)))->
  vals G' s y ((j+i)::p)=vals G s x ((j+i)::p)->yH G' s (xs.set i y) p j=yH G s xs p j:=by
 induction xs with
 |nil=>simp
 |cons z zs ih=>
  intro p j i x y h hz hy;cases i with
  |zero=>
   grind[yH,zOo]
  |succ i=>
   simp only[L7,yH];rw[zBQ z (j::p) (j::p) (hz j (by omega)),ih p (j+1) i x y (by grind) (by grind) (by grind)]
theorem zMf:(f:List Nat)-> ∀(t u u0:T)(p:List Nat),t.get f=iW u0->u0.single=iZ->u.single=iZ->(∀z,(rp f p<:+z->z=rp f p)->G'.hd s z=G.hd s z)->vals G' s (t.set f u) p=vals G s t p
 | [],t,u,u0,p,hg,h0,h1,hh=>by simp[T.get]at hg;subst hg;have:G'.hd s p=G.hd s p:=hh p (by simp[rp]);simp only[T.set];cases t<;>simp[T.single]at h0<;>cases u<;>simp[T.single]at h1<;>simp[vals,this]
 |i::f,t,u,u0,p,hg,h0,h1,hh=>by
  rw[zBP]at hh;have hp:G'.hd s p=G.hd s p:=by grind[zAG]
  cases t with
  |agg xs=>
   simp only[T.get]at hg;cases hx:xs[i]? with
   |none=>grind
   |some x=>
    rw[hx]at hg;simp only[T.set,hx,vals];refine zR2 xs p 0 i x _ hx (by grind[zAm]) ?_;rw[Jc];exact zMf f x u u0 (i::p) hg h0 h1 hh
  |tup xs=>
   grind[T.set,vals]
  |sl k xs=>grind[T.set,vals]
  |ptr t=>grind[T.set,vals]
  |_=>grind[T.get]
theorem zMg(f:List Nat)(t u u0:T)(p:List Nat)(hg:t.get f=iW u0)(h0:u0.single=iZ)(h1:u.single=iZ)(hh:∀z,(rp f p<:+z->z=rp f p)->G'.hd s z=G.hd s z)(er:∀xs,t≠.tup xs):
  sZ G' s (t.set f u) p=sZ G s t p:=by
 have h:=zMf f t u u0 p hg h0 h1 hh;cases f with
 |nil=>
  simp[T.get]at hg;subst hg;have:G'.hd s p=G.hd s p:=hh p (by simp[rp]);simp only[T.set];cases t<;>simp[T.single]at h0<;>cases u<;>simp[T.single]at h1<;>simp[sZ,this]
 |cons i f=>
  rw[zBP]at hh;have hp:G'.hd s p=G.hd s p:=by grind[zAG]
  cases t with
  |agg xs=>
   grind[T.set,vals,sZ]
  |tup xs=>grind
  |sl k xs=>grind[T.set,sZ]
  |ptr t=>grind[T.set,sZ]
  |_=>grind[T.get]
theorem zR3(xs:List T):∀(p:List Nat)(j:Nat),(∀k,j<=k-> ∀z,G'.hd s (z++(k::p))=G.hd s (z++(k::p)))->zAN G' s xs p j=zAN G s xs p j:=by
 induction xs with
 |nil=>grind[zAN]
 |cons z zs ih=>
  intro p j h;simp only[zAN];rw[zCE z (j::p) (j::p) (h j (Je _)),ih p (j+1) (by grind)]
theorem zTd(xs:List T):∀(p:List Nat)(j i:Nat)(x y:T),xs[i]? =iW x->(∀k,k≠j+i-> ∀z,G'.hd s (z++(k::p))=G.hd s (z++(k::p)))->
  sZ G' s y ((j+i)::p)=sZ G s x ((j+i)::p)->zAN G' s (xs.set i y) p j=zAN G s xs p j:=by
 induction xs with
 |nil=>simp
 |cons z zs ih=>
  intro p j i x y h hz hy;cases i with
  |zero=>
   grind[zAN,zR3]
  |succ i=>
   simp only[L7,zAN];rw[zCE z (j::p) (j::p) (hz j (by omega)),ih p (j+1) i x y (by grind) (by grind) (by grind)]
def wH:T->Bool
 |.tup xs=>xs.all fun x=>match x with
  |.tup _=>ja
  |_=>iZ
 |_=>iZ
theorem zKK(f:List Nat)(t u u0:T)(p:List Nat)(hg:t.get f=iW u0)(h0:u0.single=iZ)(h1:u.single=iZ)(hh:∀z,(rp f p<:+z->z=rp f p)->G'.hd s z=G.hd s z)(mz:wH t=iZ):
  mkV G' s (t.set f u) p=mkV G s t p:=by
 by_cases ht:∃xs,t=.tup xs
 ·obtain⟨xs,rfl⟩:=ht
  cases f with
  |nil=>grind[T.get,T.single]
  |cons i f=>
   rw[zBP]at hh;simp only[T.get]at hg;cases hx:xs[i]? with
   |none=>grind
   |some x=>
    rw[hx]at hg;simp only[T.set,hx,mkV];rw[zTd xs p 0 i x _ hx (fun k hk z=>hh _ (fun h=>absurd h (zAm (by omega) z)))];rw[Jc];refine zMg f x u u0 (i::p) hg h0 h1 hh ?_
    rintro ys rfl
    simp only[wH]at mz;have:=Ka.1 mz _ (Lq hx)
    grind
 ·have er:∀xs,t≠.tup xs:=by grind
  rw[zAO G s t p er,<-zMg f t u u0 p hg h0 h1 hh er];refine zAO G' s _ p ?_
  rintro xs fm
  cases f with
  |nil=>grind[T.set,T.single]
  |cons i f=>cases t<;>simp only[T.set]at fm<;>first|grind|grind|cases fm
end
theorem zFt:(f:List Nat)-> ∀(t u:T),Top t->yA u->Top (t.set f u)
 | [],t,u,_,hu=>by grind[T.set,Top.of_clean]
 |i::f,t,u,ht,hu=>by
  cases t with
  |sl k xs=>
   refine Top.of_clean _ (zAq (i::f) _ u (by simpa only[Top,yA,yS]using ht) hu)
  |ptr t=>exact Top.of_clean _ (zAq (i::f) _ u (by simpa only[Top,yA,yS]using ht) hu)
  |agg xs=>
   simp only[T.set];split
   ·rename_i x hx
    simp only[Top]at ht ⊢
    exact tops_set xs i _ ht (zFt f x u (tops_get xs ht i x hx) hu)
   ·exact ht
  |tup xs=>
   simp only[T.set];split
   ·rename_i x hx
    simp only[Top]at ht ⊢
    exact tops_set xs i _ ht (zFt f x u (tops_get xs ht i x hx) hu)
   ·exact ht
  |_=>grind[T.set]
where
 tops_set:(xs:List T)-> ∀(i:Nat)(y:T),uQ xs->Top y->uQ (xs.set i y)
  | [],_,_,_,_=>by simp[uQ]
  |x::xs,0,y,h,hy=>by simp only[Lw,uQ]at h ⊢;grind
  |x::xs,i+1,y,h,hy=>by simp only[L7,uQ]at h ⊢;exact⟨h.1,tops_set xs i y h.2 hy⟩
 tops_get:(xs:List T)->uQ xs-> ∀(i:Nat)(x:T),xs[i]? =iW x->Top x
  | [],_,_,_,h=>by simp at h
  |y::ys,hk,i,x,h=>by
   simp only[uQ]at hk;cases i with
   |zero=>grind
   |succ i=>exact tops_get ys hk.2 i x (by grind)
def Gh.tr(G:Gh)(d:Nat)(g:List Nat)(r:Nat)(p:List Nat):Gh where
 hd s z:=if s=d/\g<:+z then G.hd r (z.take (z.length-g.length)++p)else G.hd s z
 ad s z:=if s=d/\g<:+z/\z≠g then G.ad r (z.take (z.length-g.length)++p)else G.ad s z
 lb b o:=match G.lb b o with
  |some (fl,s,z)=>if s=r/\p<:+z/\(fl=iZ\/z≠p)then iW (fl,d,z.take (z.length-p.length)++g)else iW (fl,s,z)
  |none=>iY
 ow b:=match G.ow b with
  |some (s,z)=>if s=r/\p<:+z then iW (d,z.take (z.length-p.length)++g)else iW (s,z)
  |none=>iY
theorem zHa{t:T}(h:t.single=iZ):t.size=1:=by cases t<;>simp[T.single]at h<;>simp[T.size]
theorem zIb{Γ:Ctx}{E:Env}{G:Gh}{tmps:Array Value}{w:World}(gj:Rep Γ E G tmps w)(d:Nat)(g:List Nat)(r:Nat)(p:List Nat)(td tr u v0:T)(hd:E d=iW td)(hg:td.get g.reverse=iW v0)(tf:v0.single=iZ)(eu:G.hd d g=G.hd r p)(hr:E r=iW tr)
  (hp:tr.get p.reverse=iW u)(hu:u.single=iZ)(fp:yA u)(eh:d≠r)(mO:td.okB [(d,g.length+1),(r,p.length+1)]=iZ)(pS:tr.okB [(d,g.length+1),(r,p.length+1)]=iZ)(fA:wH td=iZ)(fy:wH tr=iZ):
  Rep Γ (E.app [(d,iW (td.set g.reverse u)),(r,iW (if p=[]then .same d g else tr.set p.reverse .any))] [(d,g.length+1),(r,p.length+1)]) (G.tr d g r p) tmps w/\ ∀s z,¬(s=d/\g<:+z/\z≠g)->(G.tr d g r p).hd s z=G.hd s z:=by
 obtain⟨d1,d2,d3⟩:=gj.ent d td hd;obtain⟨r1,r2,r3⟩:=gj.ent r tr hr;have hm:=gj.mem;have bD:=(zBk p.reverse tr u [] r2 hp).1;simp only[rp,K8,J9]at bD;have gQ:Blk w w:=fun b cs e' h=>⟨cs,h,rfl⟩
 generalize gw:G.tr d g r p=G'
 have ghd:∀z,G'.hd d (z++g)=G.hd r (z++p):=fun z=>by rw[<-gw];simp[Gh.tr]
 have ghd0:∀s z,¬(s=d/\g<:+z/\z≠g)->G'.hd s z=G.hd s z:=by
  intro s z h;rw[<-gw];simp only[Gh.tr]
  by_cases h2:s=d/\g<:+z
  ·have h3:z=g:=by
    rcases Decidable.em (z=g)with e|e
    ·exact e
    ·exact absurd ⟨h2.1,h2.2,e⟩ h
   subst h3;rw[if_pos h2,h2.1];simpa using eu.symm
  ·rw[if_neg h2]
 have gad0:∀s z,¬(s=d/\g<:+z/\z≠g)->G'.ad s z=G.ad s z:=fun s z h=>by rw[<-gw];simp only[Gh.tr];rw[if_neg h]
 have gad:∀z,z≠[]->G'.ad d (z++g)=G.ad r (z++p):=fun z h=>by rw[<-gw];simp only[Gh.tr];rw[if_pos (by simpa using h)];simp
 have glb0:∀b o fl s z,G.lb b o=iW (fl,s,z)-> ¬(s=r/\p<:+z/\(fl=iZ\/z≠p))->G'.lb b o=iW (fl,s,z):=fun b o fl s z h1 h2=>by rw[<-gw];simp only[Gh.tr,h1];rw[if_neg h2]
 have glb:∀b o fl z,G.lb b o=iW (fl,r,z++p)->(fl=iZ\/z≠[])->G'.lb b o=iW (fl,d,z++g):=fun b o fl z h1 h2=>by rw[<-gw];simp only[Gh.tr,h1];rw[if_pos (by simpa using h2)];simp
 have gow0:∀b s z,G.ow b=iW (s,z)-> ¬(s=r/\p<:+z)->G'.ow b=iW (s,z):=fun b s z h1 h2=>by rw[<-gw];simp only[Gh.tr,h1];rw[if_neg h2]
 have gow:∀b z,G.ow b=iW (r,z++p)->G'.ow b=iW (d,z++g):=fun b z h1=>by rw[<-gw];simp only[Gh.tr,h1];rw[if_pos (by simp)];simp
 have gL:∀s z,Off [(d,g.length+1),(r,p.length+1)] s z-> ¬(s=d/\g<:+z/\z≠g):=by
  rintro s z h ⟨rfl,⟨y,rfl⟩,h3⟩
  have:=h (g.length+1) (by simp);have:y=[]:=K6 (by simp at this;omega);exact h3 (by simp[this])
 have gB:kS [(d,g.length+1),(r,p.length+1)] G w G' w:=by
  refine⟨fun s z h=>ghd0 s z (gL s z h),fun s z h=>gad0 s z (gL s z h),fun b o fl s z _ h1 h2=>⟨glb0 b o fl s z h1 ?_,rfl⟩,fun b s z h1 h2=>gow0 b s z h1 ?_,gQ⟩
  ·rintro⟨rfl,_⟩;exact h2 (p.length+1) (by simp)
  ·rintro⟨rfl,_⟩;exact h2 (p.length+1) (by simp)
 have gu:Mem Γ G' w:=by
  refine⟨fun s z=>?_,fun b o l hl=>?_,fun b l hl=>?_,hm.st,hm.fr,hm.sz,hm.bk⟩
  ·rw[<-gw]
   simp only[Gh.tr];split
   ·exact hm.one _ _
   ·exact hm.one _ _
  ·have:∃l',G.lb b o=iW l':=by
    rw[<-gw]at hl;simp only[Gh.tr]at hl;split at hl
    ·exact⟨_,by assumption⟩
    ·cases hl
   obtain⟨l',mV⟩:=this;exact hm.lb b o l' mV
  ·have:∃l',G.ow b=iW l':=by
    rw[<-gw]at hl;simp only[Gh.tr]at hl;split at hl
    ·exact⟨_,by assumption⟩
    ·cases hl
   obtain⟨l',mV⟩:=this;exact hm.ow b l' mV
 have cG:∀q:List Nat,rp q.reverse []=q:=fun q=>by simp[rp]
 have hud:R Γ.St G' w d u g:=by
  refine zBp (G:=G) (w:=w) (s:=r) (p:=p) ⟨⟨ghd,gad,fun b o f z hz _ hl=>⟨glb b o f z hl (.inr hz),rfl⟩,fun b z _ hl=>gow b z hl,gQ⟩,fun b o _ hl=>⟨by simpa using glb b o iZ [] (by simpa using hl) (.inl rfl),rfl⟩,fun b hl=>by simpa using gow b [] (by simpa using hl)⟩ u
   (yS.mono (fun _ _=>False.elim) u fp) bD
 have tg:Upd G w G' w d g:=⟨fun z h=>ghd0 d z (fun h2=>h h2.2.1),fun z h=>gad0 d z (fun h2=>h h2.2.1),fun b o f z h1 _=>⟨glb0 b o f d z h1 (fun h2=>eh h2.1),rfl⟩,fun b z h1 _=>gow0 b d z h1 (fun h2=>eh h2.1),gQ⟩;have aw:∀b o,Loc G w d v0 g b o->Loc G' w d u g b o:=by intro b o h1;obtain⟨h2,h3,h4⟩:=vD tf h1;have h5:G'.ad d g=⟨b,o,iY⟩/\G'.lb b o=iW (ja,d,g)/\yL w b o=iW (G'.hd d g):=⟨(gad0 d g (fun h=>h.2.2 rfl)).trans h2,glb0 b o ja d g h3 (fun h=>eh h.1),by rw[h4,ghd0 d g (fun h=>h.2.2 rfl)]⟩;cases u<;>simp[T.single]at hu<;>simpa only[Loc]using h5
 have aS:R Γ.St G' w d (td.set g.reverse u) []:=
  zGW g.reverse td u v0 [] (by rw[cG];exact tg) d2 hg (by rw[zHa tf,zHa hu]) (gB.keepR (zBq td d3 mO)) (by rw[cG];exact aw) (by rw[cG];exact hud)
 have hVd:mkV G' d (td.set g.reverse u) []=mkV G d td []:=
  zKK g.reverse td u v0 [] hg tf hu (fun z hz=>ghd0 d z (fun h2=>h2.2.2 (by rw[cG]at hz;exact hz h2.2.1))) fA
 have hRr:p≠[]->R Γ.St G' w r (tr.set p.reverse .any) []:=by intro bH;refine zGW p.reverse tr .any u [] (by rw[cG];exact⟨fun z _=>ghd0 r z (fun h2=>eh h2.1.symm),fun z _=>gad0 r z (fun h2=>eh h2.1.symm),fun b o f z h1 h=>⟨glb0 b o f r z h1 (fun h2=>h h2.2.1),rfl⟩,fun b z h1 h=>gow0 b r z h1 (fun h2=>h h2.2),gQ⟩) r2 hp (by cases u<;>simp[T.single]at hu<;>simp[T.size]) (gB.keepR (zBq tr r3 pS)) ?_ (by simp only[R]);rw[cG];intro b o h1;obtain⟨h2,h3,h4⟩:=vD hu h1;simp only[Loc];exact⟨(gad0 r p (fun h=>eh h.1.symm)).trans h2,glb0 b o ja r p h3 (by simp),by rw[h4,ghd0 r p (fun h=>eh h.1.symm)]⟩
 have hVr:p≠[]->mkV G' r (tr.set p.reverse .any) []=mkV G r tr []:=fun _=>
  zKK p.reverse tr .any u [] hp hu rfl (fun z _=>ghd0 r z (fun h2=>eh h2.1.symm)) fy
 refine⟨vT gj rfl gB gu ?_ ?_,ghd0⟩
 ·intro s hs
  simp only[Wr.find]at hs;split at hs
  ·cases hs
  ·rename_i h1
   split at hs
   ·cases hs
   ·rename_i h2
    refine⟨fun n hn=>?_,rfl⟩;simp only[Jb,Ja3.injEq,Qh,or_false]at hn;rcases hn with⟨e,_⟩|⟨e,_⟩
    ·exact h1 e.symm
    ·exact h2 e.symm
 ·intro s t hs
  simp only[Wr.find]at hs;split at hs
  ·rename_i he
   subst he;simp at hs;subst hs;exact⟨by rw[d1,hVd],aS,zFt _ _ _ d3 fp⟩
  ·split at hs
   ·rename_i he
    subst he;simp at hs
    by_cases bH:p=[]
    ·rw[if_pos bH]at hs
     subst hs;subst bH;simp[T.get]at hp;subst hp;refine⟨?_,?_,by simp[Top]⟩
     ·rw[r1,xS hu,xS rfl,ghd0 r [] (fun h=>eh h.1.symm)]
     ·simp only[R]
      rw[ghd0 r [] (fun h=>eh h.1.symm)];have:=ghd [];simpa using this.symm
    ·rw[if_neg bH]at hs
     subst hs;exact⟨by rw[r1,hVr bH],hRr bH,zFt _ _ _ r3 (by simp[yA,yS])⟩
   ·cases hs
theorem zOp{Γ:Ctx}{E:Env}{a:Act}{w:World}(h:Sim Γ E a w)(d:Nat)(g:List Nat)(r:Nat)(p:List Nat)(td tr u:T)(hd:E d=iW td)(hg:td.get g.reverse=iW (.same r p))(hr:E r=iW tr)
  (hp:tr.get p.reverse=iW u)(hu:u.single=iZ)(fp:yA u)(eh:d≠r)(mO:td.okB [(d,g.length+1),(r,p.length+1)]=iZ)(pS:tr.okB [(d,g.length+1),(r,p.length+1)]=iZ)(fA:wH td=iZ)(fy:wH tr=iZ):
  Sim Γ (E.app [(d,iW (td.set g.reverse u)),(r,iW (if p=[]then .same d g else tr.set p.reverse .any))] [(d,g.length+1),(r,p.length+1)]) a w:=by
 obtain⟨ej,G,gj⟩:=h;have eu:=(zBk g.reverse td _ [] (gj.ent d td hd).2.1 hg).1;simp only[rp,K8,J9,R]at eu;exact⟨ej,_,(zIb gj d g r p td tr u _ hd hg rfl eu hr hp hu fp eh mO pS fA fy).1⟩
theorem zKL{St:Stb}{G:Gh}{w:World}{s:Nat}{k:Nat}:(xs:List T)-> ∀(p:List Nat)(j b o:Nat),(∀i x,xs[i]? =iW x->Loc G w s x ((j+i)::p) b (o+i*k)/\x.size=k/\R St G w s x ((j+i)::p))->RL St G w s xs p j b o k
 | [],_,_,_,_,_=>by simp only[RL]
 |x::xs,p,j,b,o,h=>by
  obtain⟨h1,h2,h3⟩:=h 0 x (by simp);simp only[RL];refine⟨⟨by simpa using h1,h2⟩,by simpa using h3,zKL xs p (j+1) b (o+k) (fun i y hy=>?_)⟩;have:=h (i+1) y (by simpa using hy)
  rwa [show j+(i+1)=j+1+i from by omega,show o+(i+1)*k=o+k+i*k from by rw[K7];omega]at this
theorem zAr{St:Stb}{G:Gh}{w:World}{s:Nat}{k:Nat}:(xs:List T)-> ∀(p:List Nat)(j b o:Nat),RL St G w s xs p j b o k->vO G w s xs p j b o
 | [],_,_,_,_,_=>by simp only[vO]
 |x::xs,p,j,b,o,h=>by simp only[RL]at h;simp only[vO];exact⟨h.1.1,zAr xs p (j+1) b (o+x.size) (by rw[h.1.2];exact h.2.2)⟩
theorem zCn{St:Stb}{G:Gh}{w:World}{s:Nat}{k:Nat}:(xs:List T)-> ∀(p:List Nat)(j b o:Nat),RL St G w s xs p j b o k->RF St G w s xs p j/\ ∀x∈xs,x.size=k
 | [],_,_,_,_,_=>by simp[RF]
 |x::xs,p,j,b,o,h=>by simp only[RL]at h;obtain⟨h1,h2⟩:=zCn xs p (j+1) b (o+k) h.2.2;exact⟨by simp only[RF];exact⟨h.2.1,h1⟩,fun y hy=>by rcases Jb.1 hy with rfl|hy;exact h.1.2;exact h2 y hy⟩
section
variable {G:Gh}{w:World}{G':Gh}{w':World}{s s':Nat}
mutual
theorem zIc:(t:T)-> ∀(p p':List Nat)(b o:Nat),(∀z,G'.hd s' (z++p')=G.hd s (z++p))->(∀z,G'.ad s' (z++p')=G.ad s (z++p))->
  (∀b o z,G.lb b o=iW (ja,s,z++p)->G'.lb b o=iW (ja,s',z++p')/\yL w' b o=yL w b o)->Loc G w s t p b o->Loc G' w' s' t p' b o
 |.agg xs,p,p',b,o,hh,ha,hl,h=>by
  simp only[Loc]at h ⊢
  exact⟨by have:=ha [];simp at this;rw[this];exact h.1,zJK xs p p' 0 b o hh ha hl h.2⟩
 |.any,p,p',b,o,hh,ha,hl,h|.lit _,p,p',b,o,hh,ha,hl,h|.ro _,p,p',b,o,hh,ha,hl,h|.same _ _,p,p',b,o,hh,ha,hl,h|.addr _ _,p,p',b,o,hh,ha,hl,h|.sub _ _ _ _ _,p,p',b,o,hh,ha,hl,h|.sl _ _,p,p',b,o,hh,ha,hl,h|.ptr _,p,p',b,o,hh,ha,hl,h=>by
  simp only[Loc]at h ⊢
  have h1:=hl b o [] (by simpa using h.2.1);have h2:=ha [];have h3:=hh [];simp only[Jv]at h1 h2 h3;exact⟨h2.trans h.1,h1.1,by rw[h1.2,h.2.2,h3]⟩
 |.tup _,_,_,_,_,_,_,_,h=>by simp only[Loc]at h
theorem zJK:(xs:List T)-> ∀(p p':List Nat)(j b o:Nat),(∀z,G'.hd s' (z++p')=G.hd s (z++p))->(∀z,G'.ad s' (z++p')=G.ad s (z++p))->
  (∀b o z,G.lb b o=iW (ja,s,z++p)->G'.lb b o=iW (ja,s',z++p')/\yL w' b o=yL w b o)->vO G w s xs p j b o->vO G' w' s' xs p' j b o
 | [],_,_,_,_,_,_,_,_,_=>by simp only[vO]
 |x::xs,p,p',j,b,o,hh,ha,hl,h=>by
  simp only[vO]at h ⊢
  exact⟨zIc x (j::p) (j::p') b o (fun z=>by have:=hh (z++[j]);simpa using this) (fun z=>by have:=ha (z++[j]);simpa using this) (fun b o z hz=>by have:=hl b o (z++[j]) (by simpa using hz);simpa using this) h.1,
   zJK xs p p' (j+1) b _ hh ha hl h.2⟩
end
end
theorem zFu(G:Gh)(s:Nat):∀(xs us:List T)(p:List Nat)(j:Nat),yH G s (xs++us) p j=yH G s xs p j++yH G s us p (j+xs.length)
 | [],us,p,j=>by simp[yH]
 |x::xs,us,p,j=>by simp[yH,zFu G s xs us p (j+1),H7,Nat.add_comm 1]
theorem zFv:∀(xs us:List T),T.sizes (xs++us)=T.sizes xs+T.sizes us
 | [],us=>by simp[T.sizes]
 |x::xs,us=>by simp[T.sizes,zFv xs us,H7]
theorem zE4:∀(xs us:List T),yM xs=iZ->yM us=iZ->yM (xs++us)=iZ
 | [],us,_,h=>h
 |x::xs,us,h,h'=>by
  simp only[yM,J3,Kc]at h ⊢
  exact⟨h.1,zE4 xs us h.2 h'⟩
theorem zE5:∀(xs us:List T),yZ xs->yZ us->yZ (xs++us)
 | [],us,_,h=>h
 |x::xs,us,h,h'=>by
  simp only[yZ,xN,Kc]at h ⊢
  exact⟨h.1,zE5 xs us h.2 h'⟩
theorem zAI{St:Stb}{G:Gh}{w:World}{s:Nat}{k:Nat}:(xs:List T)-> ∀(p:List Nat)(j b o:Nat),vO G w s xs p j b o->yM xs=iZ
 | [],_,_,_,_,_=>rfl
 |x::xs,p,j,b,o,h=>by simp only[vO]at h;simp only[yM,J3];exact⟨one x (j::p) b o h.1,zAI (St:=St) (k:=k) xs p (j+1) b _ h.2⟩
where
 one:(t:T)-> ∀(p:List Nat)(b o:Nat),Loc G w s t p b o->t.okTup=iZ
  |.agg xs,p,b,o,h=>by simp only[Loc]at h;simp only[T.okTup];exact zAI (St:=St) (k:=k) xs p 0 b o h.2
  |.tup _,_,_,_,h=>by simp only[Loc]at h
  |.any,_,_,_,_|.lit _,_,_,_,_|.ro _,_,_,_,_|.same _ _,_,_,_,_|.addr _ _,_,_,_,_|.sub _ _ _ _ _,_,_,_,_|.sl _ _,_,_,_,_|.ptr _,_,_,_,_=>rfl
section
variable {P:Program}
structure zId (P:Program) (t2:TypeId) (e:TypeId) (ti:TypeInfo) (xv:Value) (m:Nat) (nv:List Value) (w:World):Prop where
 arg:(∃e2 xa c,P.underlying t2=iW (.slice e2)/\xv=.slice xa m c/\ ∀w2:World,w2.heap=w.heap->(Builtin.firstCells ti.size m (.slice xa m c)).run P w2=.ok nv.toArray w2)\/
  ∃k2 k3 z,P.underlying t2=iW (.int k2)/\xv=.int k3 (m:Int)/\ti.zero=iW z/\nv.toArray=Builtin.zeroCells z.cells m/\m*ti.bytes<=2 ^ 47/\z.cells.size=ti.size
theorem zFw{t t2 ty e:TypeId}{ti:TypeInfo}{xv:Value}{m:Nat}{nv:List Value}{w w':World}(ht:P.underlying t=iW (.slice e))(hi:P.info? e=iW ti)
  (hx:zId P t2 e ti xv m nv w)(hm:m<=68719476736){base:Option Addr}{n cap:Nat}(ee:n+m<=cap)
  (gM:(if let iW a:=base then storeCells (a.add (n*ti.size)) nv else pure ():Sem Unit).run P w=.ok () w'):
  (Builtin.append_ #[t,t2] ty #[.slice base n cap,xv]).run P w=.ok (.slice base (n+m) cap) w':=by
 rcases hx.arg with⟨e2,xa,c,h1,rfl,h2⟩|⟨k2,k3,z,h1,rfl,h2,h3,h4,h5⟩
 ·have h2:=h2 w rfl
  cases base with
  |none=>
   simp at gM;subst gM;simp[Builtin.append_,run_underlying ht,run_underlying h1,sizeOf,typeInfo,hi,Builtin.lenOf,ee,h2]
  |some a=>
   simp only at gM;simp[Builtin.append_,run_underlying ht,run_underlying h1,sizeOf,typeInfo,hi,Builtin.lenOf,ee,h2,gM]
 ·have mC:IntKind.i64.wrap (m:Int)=m:=by rw[IntKind.wrap_i64];omega
  have bt:¬(281474976710656<(m:Int)*(ti.bytes:Int)):=by
   have:((m*ti.bytes:Nat):Int)<=2 ^ 47:=by exact_mod_cast h4
   rw[Uh]at this;omega
  have fZ:¬((m:Int)<0):=by omega
  have bI:nv=(Builtin.zeroCells z.cells m).toList:=by rw[<-h3]
  by_cases hz:m*ti.size=0
  ·have mP:nv=[]:=by
    apply K6;rw[bI];simp[Builtin.zeroCells,h5,hz]
   subst mP;cases base with
   |none=>
    simp at gM;subst gM;simp[Builtin.append_,run_underlying ht,run_underlying h1,sizeOf,typeInfo,hi,asInt,asIntOf,mC,bt,fZ,ee,hz]
   |some a=>
    simp only[storeCells,Sem.run_pure]at gM;cases gM;simp[Builtin.append_,run_underlying ht,run_underlying h1,sizeOf,typeInfo,hi,asInt,asIntOf,mC,bt,fZ,ee,hz,storeCells]
  ·cases base with
   |none=>
    simp at gM;subst gM;simp[Builtin.append_,run_underlying ht,run_underlying h1,sizeOf,typeInfo,zeroValue,hi,h2,asInt,asIntOf,mC,bt,fZ,ee]
   |some a=>
    simp only[bI]at gM;simp[Builtin.append_,run_underlying ht,run_underlying h1,sizeOf,typeInfo,zeroValue,hi,h2,asInt,asIntOf,mC,bt,fZ,ee,hz,gM]
theorem zKM{t t2 ty e:TypeId}{ti:TypeInfo}{z xv:Value}{m:Nat}{nv olds:List Value}{w:World}(ht:P.underlying t=iW (.slice e))(hi:P.info? e=iW ti)(hz:ti.zero=iW z)
  (hx:zId P t2 e ti xv m nv w){base:Option Addr}{n cap:Nat}(eg:cap<n+m)(cU:n+m<=68719476736)(hb:ti.bytes<=2048)
  (gN:∀w2:World,w2.heap=w.heap->(Builtin.firstCells ti.size n (.slice base n cap)).run P w2=.ok olds.toArray w2):
  (Builtin.append_ #[t,t2] ty #[.slice base n cap,xv]).run P w=.ok (.slice (iW ⟨w.heap.size,0,iY⟩) (n+m) (grownCap w (n+m) cap e))
    (w.drew.alloc (.cells ((olds++nv).toArray++Builtin.zeroCells z.cells (grownCap w (n+m) cap e-(n+m))) e)):=by
 have hn:¬(n+m<=cap):=by omega
 have bq:¬(9223372036854775807<((n:Int)+(m:Int))):=by omega
 have iD:=growslice_fits (need:=n+m) (old:=cap) (bytes:=ti.bytes) eg (Hs (Jp cU hb) (by decide));have br:¬(281474976710656<Builtin.nextslicecap (n+m) cap*ti.bytes):=by omega
 have ho:=gN w.drew rfl;rcases hx.arg with⟨e2,xa,c,h1,rfl,h2⟩|⟨k2,k3,z',h1,rfl,h2,h3,h4,h5⟩
 ·have h2:=h2 w.drew rfl
  simp[Builtin.append_,run_underlying ht,run_underlying h1,sizeOf,typeInfo,zeroValue,hi,hz,Builtin.lenOf,hn,bq,br,Question.forced,h2,ho,newRow,grownCap]
  congr 2
  apply Jam;simp
 ·have mC:IntKind.i64.wrap (m:Int)=m:=by rw[IntKind.wrap_i64];omega
  have bt:¬(281474976710656<(m:Int)*(ti.bytes:Int)):=by
   have:((m*ti.bytes:Nat):Int)<=2 ^ 47:=by exact_mod_cast h4
   rw[Uh]at this;omega
  have fZ:¬((m:Int)<0):=by omega
  have bI:nv=(Builtin.zeroCells z'.cells m).toList:=by rw[<-h3]
  rw[hz]at h2;simp at h2;subst h2
  by_cases mc:m*ti.size=0
  ·have mP:nv=[]:=by
    apply K6;rw[bI];simp[Builtin.zeroCells,h5,mc]
   subst mP;simp[Builtin.append_,run_underlying ht,run_underlying h1,sizeOf,typeInfo,zeroValue,hi,hz,asInt,asIntOf,mC,bt,fZ,hn,bq,br,Question.forced,mc,ho,newRow,grownCap]
  ·simp[Builtin.append_,run_underlying ht,run_underlying h1,sizeOf,typeInfo,zeroValue,hi,hz,asInt,asIntOf,mC,bt,fZ,hn,bq,br,Question.forced,mc,ho,newRow,grownCap,<-h3]
   congr 2
   apply Jam;simp
end
def zEN(s0:Nat)(y:Option Nat)(n:Nat)(s:Nat)(z:List Nat):Option (List Nat):=
 if s=s0 then iW z else if y=iW s then(match z.getLast? with
  |some j=>iW (z.dropLast++[n+j])
  |none=>iY)else iY
def Gh.ip(G:Gh)(d s0:Nat)(y:Option Nat)(b n k oa:Nat)(us:List T)(f2:Nat->List Nat->Value)(eh:Value):Gh where
 hd s z:=if s=d then(match z.getLast? with
  |some i=>if i<n then G.hd s0 z else f2 (i-n) z.dropLast
  |none=>eh)else G.hd s z
 ad s z:=if s=d then(match z.getLast? with
  |some i=>if i<n then G.ad s0 z else if(T.agg us).inT ((i-n)::z.dropLast.reverse)then⟨b,oa+(T.agg us).offT ((i-n)::z.dropLast.reverse),iY⟩else(match y with
   |some y=>G.ad y (z.dropLast++[i-n])
   |none=>default)
  |none=>default)else G.ad s z
 lb b' o:=if b'=b/\oa<=o/\o<oa+us.length*k then(match zDs us [] n (o-oa)with
  |some p=>iW (ja,d,p)
  |none=>iY)else match G.lb b' o with
  |some (fl,s,z)=>(match zEN s0 y n s z with
   |some z'=>iW (fl,d,z')
   |none=>iW (fl,s,z))
  |none=>iY
 ow b':=match G.ow b' with
  |some (s,z)=>(match zEN s0 y n s z with
   |some z'=>iW (d,z')
   |none=>iW (s,z))
  |none=>iY
def aWr(d s0:Nat)(y:Option Nat)(k:Nat)(ts:List T):Wr:=(d,iW (.sl k ts))::(s0,iW .any)::(match y with
 |some y=>[(y,iW .any)]
 |none=>[])
def zBL(d s0:Nat)(y:Option Nat):Chg:=(d,0)::(s0,1)::(match y with
 |some y=>[(y,1)]
 |none=>[])
structure zIe (Γ:Ctx) (E:Env) (G:Gh) (d s0:Nat) (y:Option Nat) (k n:Nat) (us:List T) (f2:Nat->List Nat->Value) (nv:List Value):Prop where
 size:∀u∈us,u.size=k
 tup:yM us=iZ
 clean:yZ us
 one:∀j z,(f2 j z).oneCell'=iZ
 len:nv.length=us.length*k
 slot:∀y',y=iW y'->y'≠d/\y'≠s0/\E y'=iW (.sl k us)/\ ∀j z,f2 j z=G.hd y' (z++[j])
 none:y=iY-> ∀(j:Nat) u,us[j]? =iW u-> ∀(G2:Gh)(w2:World),(∀z,G2.hd d (z++[n+j])=f2 j z)->R Γ.St G2 w2 d u [n+j]
 vals:∀(G2:Gh),(∀j z,G2.hd d (z++[n+j])=f2 j z)-> ∀(o:Nat)(v:Value),(yH G2 d us [] n)[o]? =iW v->nv[o]? =iW v
theorem zMh{G G2:Gh}{s d:Nat}:(xs:List T)-> ∀(p:List Nat)(j:Nat),(∀i,i<xs.length-> ∀z,G2.hd d (z++((j+i)::p))=G.hd s (z++((j+i)::p)))->yH G2 d xs p j=yH G s xs p j
 | [],_,_,_=>by simp only[yH]
 |x::xs,p,j,h=>by
  simp only[yH];have ih:yH G2 d xs p (j+1)=yH G s xs p (j+1):=zMh xs p (j+1) (fun i hi z=>by rw[show j+1+i=j+(i+1)from by omega];exact h (i+1) (by simpa using hi) z)
  rw[zBQ x (j::p) (j::p) (by simpa using h 0 (by simp)),ih]
theorem zJy(z:List Nat):z=[]\/ ∃y i,z=y++[i]:=by
 rcases List.eq_nil_or_concat z with h|⟨y,i,h⟩
 ·exact .inl h
 ·exact .inr ⟨y,i,by simpa using h⟩
section
variable {P:Program}{Γ:Ctx}{E:Env}{d:Nat}
theorem zCH{G:Gh}{a:Act}{w:World}(gj:Rep Γ E G a.tmps w)(hd:d<Γ.N){t t2 ty e:TypeId}{ti:TypeInfo}{z:Value}{k:Nat}(ht:P.underlying t=iW (.slice e))(hi:P.info? e=iW ti)(hz:ti.zero=iW z)
  (hk:ti.size=k)(_hk0:0<k)(fR:z.cells.size=k)(hb:ti.bytes<=2048){s0:Nat}{y:Option Nat}{xs us:List T}{f2:Nat->List Nat->Value}{nv:List Value}(eJ:E s0=iW (.sl k xs))(fq:s0≠d)
  (hn:zIe Γ E G d s0 y k xs.length us f2 nv){xv:Value}(hx:zId P t2 e ti xv us.length nv w)(gv:∀v∈nv,v.oneCell'=iZ)(cU:xs.length+us.length<=68719476736):
  ∃v w',(Builtin.append_ #[t,t2] ty #[G.hd s0 [],xv]).run P w=.ok v w'/\ ∃G',Rep Γ (E.app (aWr d s0 y k (xs++us)) (zBL d s0 y)) G' (a.tmps.setIfInBounds d v) w':=by
 have hm:=gj.mem;obtain⟨e1,e2,e3⟩:=gj.ent s0 _ eJ;simp only[Top]at e3;simp only[R]at e2;have mJ:T.sizes us=us.length*k:=wT us hn.size;have fin:∀(G':Gh)(w':World)(v:Value),kS (zBL d s0 y) G w G' w'->Mem Γ G' w'->G'.hd d []=v->R Γ.St G' w' d (.sl k (xs++us)) []->(∀s p,s≠d->G'.hd s p=G.hd s p)->
   Rep Γ (E.app (aWr d s0 y k (xs++us)) (zBL d s0 y)) G' (a.tmps.setIfInBounds d v) w':=by
  intro G' w' v gB gu iH aS hother;refine vT gj (by simp) gB gu ?_ ?_
  ·intro s hs
   have gk:s≠d:=by rintro rfl;simp[aWr,Wr.find]at hs
   have cI:s≠s0:=by rintro rfl;simp[aWr,Wr.find,gk.symm]at hs
   have ik:∀y',y=iW y'->s≠y':=by
    rintro y' rfl rfl
    simp[aWr,Wr.find,gk.symm,cI.symm]at hs
   refine⟨fun n' hn'=>?_,by rw[Jj];simp[gk.symm]⟩;simp only[zBL,Jb,Ja3.injEq]at hn';rcases hn' with⟨h1,_⟩|⟨h1,_⟩|hn'
   ·exact gk h1
   ·exact cI h1
   ·cases y with
    |none=>simp at hn'
    |some y'=>simp at hn';exact ik y' rfl hn'.1
  ·intro s t' hs
   by_cases h1:s=d
   ·subst h1
    simp[aWr,Wr.find]at hs;subst hs;refine⟨?_,aS,by simp only[Top];exact zE5 xs us e3 hn.clean⟩;rw[Jj];simp[gj.size,hd,mkV,iH]
   ·have h3:t'=.any/\(s=s0\/y=iW s):=by
     simp only[aWr,Wr.find]at hs;rw[if_neg (fun h=>h1 h.symm)]at hs;split at hs
     ·rename_i h2;simp at hs;exact⟨hs.symm,.inl h2.symm⟩
     ·cases y with
      |none=>simp[Wr.find]at hs
      |some y'=>
       simp only[Wr.find]at hs;split at hs
       ·rename_i h2;simp at hs;exact⟨hs.symm,.inr (by rw[h2])⟩
       ·cases hs
    obtain⟨rfl,h3⟩:=h3;refine⟨?_,by simp only[R],by simp[Top]⟩;rw[Jj];simp only[Ne.symm h1,if_false,mkV];rw[hother s [] h1];rcases h3 with rfl|h3
    ·exact e1
    ·obtain⟨_,_,h4,_⟩:=hn.slot s h3
     exact(gj.ent s _ h4).1
 have pi:∀s p,(∀n',(s,n')∉zBL d s0 y)->zEN s0 y xs.length s p=iY:=by
  intro s p h;have h1:s≠s0:=fun e=>h 1 (by simp[zBL,e])
  have h2:y≠iW s:=fun e=>h 1 (by simp[zBL,e])
  simp[zEN,h1,h2]
 by_cases ee:∃a' c,G.hd s0 []=.slice a' xs.length c/\xs.length+us.length<=c
 ·
  obtain⟨a',c,hh,ee⟩:=ee;rcases e2 with⟨rfl,a1,h1⟩|⟨b,o0,cap,cs,et,h1,h2,h3,h4,h5,h6,h7,h8⟩
  ·rw[h1]at hh
   simp at hh;obtain⟨rfl,rfl⟩:=hh;have fO:us=[]:=K6 (by simp only[K9]at ee;omega);subst fO;have bI:nv=[]:=K6 (by have:=hn.len;simp at this;simp[this]);subst bI;have gD:=zFw (P:=P) (t:=t) (ty:=ty) (w':=w) ht hi hx (by simp) (base:=a1) (n:=0) (cap:=0) (by simp) (by cases a1<;>rfl);refine⟨.slice a1 0 0,w,by rw[h1];exact gD,G.put d (fun _=>.slice a1 0 0),fin _ w _ ?_ (hm.put rfl d _ (fun _=>rfl)) (by rw[Gh.put_self]) (by simp[R,Gh.put]) (fun s p h=>G.put_other _ p h)⟩;have:=G.put_keep (w:=w) (w':=w) rfl d (fun _=>.slice a1 0 0);exact⟨fun s p h=>this.hd s p (fun n hn=>h n (by simp at hn;simp[zBL,hn])),fun s p h=>this.ad s p (fun n hn=>h n (by simp at hn;simp[zBL,hn])),fun b o f s p h0 h1 h2=>this.lb b o f s p h0 h1 (fun n hn=>h2 n (by simp at hn;simp[zBL,hn])),fun b s p h1 h2=>this.ow b s p h1 (fun n hn=>h2 n (by simp at hn;simp[zBL,hn])),this.blk⟩
  ·rw[h1]at hh
   simp at hh;obtain⟨rfl,rfl⟩:=hh;have hmk0:us.length*k+xs.length*k<=cap*k:=by rw[<-Ub];exact Jw _ (by omega)
   have ic:∀o,o0+(xs.length*k+us.length*k)<=o->o0+xs.length*k<=o:=fun o h=>by omega
   generalize hoa:o0+xs.length*k=oa at h7 ic
   have hmk':oa+us.length*k<=o0+cap*k:=by omega
   have hmk:us.length*k+oa<=cs.size:=by omega
   generalize eH:w.setRow b (cs.toList.take (oa)++nv++cs.toList.drop (oa+nv.length)).toArray=w'
   have eF:w'.heap[b]? =iW (.cells (cs.toList.take (oa)++nv++cs.toList.drop (oa+nv.length)).toArray et (0,0)):=by rw[<-eH];exact setRow_heap w b cs _ et _ h2
   have gN:∀b',b'≠b->w'.heap[b']? =w.heap[b']?:=fun b' h=>by rw[<-eH];exact setRow_other w b b' _ h
   have gW:w'.heap.size=w.heap.size:=by rw[<-eH];exact size_setRow w b _
   have hcsl:cs.toList.length=cs.size:=Kh ..;have po:=hn.len;have eR:∀i,yL w' b i=if oa<=i/\i<oa+us.length*k then nv[i-oa]? else yL w b i:=by
    intro i;simp only[yL,World.cell?,eF,h2,U6,Hk,if_false];rw[<-Ks,<-Ks (xs:=cs)];simp only[]
    by_cases g1:i<oa
    ·rw[if_neg (by omega),Jh,K0 (by simp;omega),Gk g1]
    ·by_cases g2:i<oa+us.length*k
     ·rw[if_pos ⟨by omega,g2⟩,Jh,Ji (by simp;omega),K0 (by simp;omega)]
      congr 1;simp;omega
     ·rw[if_neg (by omega),Jh,Ji (by simp;omega),Ji (by simp;omega),Lt]
      congr 1;simp;omega
   have gS:∀b' o fl s p,G.lb b' o=iW (fl,s,p)->(fl,s,p)≠(iZ,s0,[])-> ¬(b'=b/\oa<=o/\o<oa+us.length*k):=by
    rintro b' o fl s p g1 g2 ⟨rfl,g3,g4⟩
    rw[h7 o g3 (by omega)]at g1;simp at g1;exact g2 (by simp[<-g1.1,<-g1.2.1,<-g1.2.2])
   have fg:∀b' o,¬(b'=b/\oa<=o/\o<oa+us.length*k)->yL w' b' o=yL w b' o:=by
    intro b' o g
    by_cases ez:b'=b
    ·subst ez
     rw[eR,if_neg (fun g2=>g ⟨rfl,g2⟩)]
    ·simp[yL,World.cell?,gN b' ez]
   have pq:((cs.toList.take (oa)++nv++cs.toList.drop (oa+nv.length)).toArray).size=cs.size:=by simp;omega
   have eG:Blk w w':=by
    intro b' cs' e' g1
    by_cases ez:b'=b
    ·subst ez
     rw[h2]at g1;simp at g1;obtain⟨rfl,rfl⟩:=g1;exact⟨_,eF,pq⟩
    ·exact⟨cs',by rw[gN b' ez];exact g1,rfl⟩
   generalize gw:G.ip d s0 y b xs.length k oa us f2 (.slice (iW ⟨b,o0,iY⟩) (xs.length+us.length) cap)=G'
   have ghdr:G'.hd d []=.slice (iW ⟨b,o0,iY⟩) (xs.length+us.length) cap:=by rw[<-gw];simp[Gh.ip]
   have ghd1:∀i z,i<xs.length->G'.hd d (z++[i])=G.hd s0 (z++[i]):=fun i z g=>by rw[<-gw];simp[Gh.ip,g]
   have ghd2:∀j z,G'.hd d (z++[xs.length+j])=f2 j z:=fun j z=>by rw[<-gw];simp[Gh.ip,show¬xs.length+j<xs.length from by omega]
   have ghd0:∀s z,s≠d->G'.hd s z=G.hd s z:=fun s z g=>by rw[<-gw];simp[Gh.ip,g]
   have gad0:∀s z,s≠d->G'.ad s z=G.ad s z:=fun s z g=>by rw[<-gw];simp[Gh.ip,g]
   have gad1:∀i z,i<xs.length->G'.ad d (z++[i])=G.ad s0 (z++[i]):=fun i z g=>by rw[<-gw];simp[Gh.ip,g]
   have gad2:∀j f,(T.agg us).inT (j::f)=iZ->G'.ad d (f.reverse++[xs.length+j])=⟨b,oa+(T.agg us).offT (j::f),iY⟩:=fun j f g=>by rw[<-gw];simp[Gh.ip,g,show¬xs.length+j<xs.length from by omega]
   have gad3:∀y' j z,y=iW y'->(T.agg us).inT (j::z.reverse)=ja->G'.ad d (z++[xs.length+j])=G.ad y' (z++[j]):=fun y' j z g1 g2=>by rw[<-gw];simp[Gh.ip,g1,g2,show¬xs.length+j<xs.length from by omega]
   have glb2:∀i p,i<us.length*k->zDs us [] xs.length i=iW p->G'.lb b (oa+i)=iW (ja,d,p):=fun i p g1 g2=>by rw[<-gw];simp only[Gh.ip];rw[if_pos (by simp;omega),show oa+i-oa=i from by omega,g2]
   have glb0:∀b' o fl s p,G.lb b' o=iW (fl,s,p)-> ¬(b'=b/\oa<=o/\o<oa+us.length*k)->zEN s0 y xs.length s p=iY->G'.lb b' o=iW (fl,s,p):=fun b' o fl s p g1 g2 g3=>by rw[<-gw];simp only[Gh.ip];rw[if_neg g2,g1];simp[g3]
   have glb1:∀b' o fl s p p',G.lb b' o=iW (fl,s,p)-> ¬(b'=b/\oa<=o/\o<oa+us.length*k)->zEN s0 y xs.length s p=iW p'->G'.lb b' o=iW (fl,d,p'):=fun b' o fl s p p' g1 g2 g3=>by rw[<-gw];simp only[Gh.ip];rw[if_neg g2,g1];simp[g3]
   have gow0:∀b' s p,G.ow b'=iW (s,p)->zEN s0 y xs.length s p=iY->G'.ow b'=iW (s,p):=fun b' s p g1 g2=>by rw[<-gw];simp[Gh.ip,g1,g2]
   have gow1:∀b' s p p',G.ow b'=iW (s,p)->zEN s0 y xs.length s p=iW p'->G'.ow b'=iW (d,p'):=fun b' s p p' g1 g2=>by rw[<-gw];simp[Gh.ip,g1,g2]
   have fH:∀p,zEN s0 y xs.length s0 p=iW p:=fun p=>by simp[zEN]
   have mo:∀y' z j,y=iW y'->y'≠s0->zEN s0 y xs.length y' (z++[j])=iW (z++[xs.length+j]):=fun y' z j g1 g2=>by simp[zEN,g1,g2]
   have gk:∀s p,Off (zBL d s0 y) s p->s≠d:=fun s p h e=>absurd (h 0 (by simp[zBL,e])) (by simp)
   have gB:kS (zBL d s0 y) G w G' w':=by
    refine⟨fun s p h=>ghd0 s p (gk s p h),fun s p h=>gad0 s p (gk s p h),fun b' o fl s p _ g1 g2=>?_,fun b' s p g1 g2=>gow0 b' s p g1 (pi s p g2),eG⟩;have hs:s≠s0:=fun e=>g2 1 (by simp[zBL,e])
    have g3:=gS b' o fl s p g1 (by simp[hs]);exact⟨glb0 b' o fl s p g1 g3 (pi s p g2),fg b' o g3⟩
   have bR:=hm.ow b _ h6;have gu:Mem Γ G' w':=by
    refine⟨fun s z=>?_,fun b' o' l hl=>?_,fun b' l hl=>?_,fun b' x' eC=>?_,fun b' g1 g2=>?_,by rw[gW];exact hm.sz,hm.bk.trans eG (by rw[<-eH];rfl) (by rw[<-eH];rfl)⟩
    ·by_cases g:s=d
     ·subst g
      rcases zJy z with rfl|⟨z',i,rfl⟩
      ·rw[ghdr];rfl
      ·by_cases g1:i<xs.length
       ·rw[ghd1 i z' g1];exact hm.one _ _
       ·have:=ghd2 (i-xs.length) z'
        rw[show xs.length+(i-xs.length)=i from by omega]at this;rw[this];exact hn.one _ _
     ·rw[ghd0 s z g];exact hm.one _ _
    ·have:zDp Γ w b':=by
      rw[<-gw]at hl;simp only[Gh.ip]at hl;split at hl
      ·rename_i g;rw[g.1];exact bR
      ·split at hl
       ·rename_i g;exact hm.lb _ _ _ g
       ·cases hl
     exact⟨by rw[gW];exact this.1,this.2⟩
    ·have:zDp Γ w b':=by
      rw[<-gw]at hl;simp only[Gh.ip]at hl;split at hl
      ·rename_i g;exact hm.ow _ _ g
      ·cases hl
     exact⟨by rw[gW];exact this.1,this.2⟩
    ·have ez:b'≠b:=by rintro rfl;rw[bR.2.2]at eC;cases eC
     rw[gN b' ez];exact hm.st b' x' eC
    ·have ez:b'≠b:=by
      rintro rfl
      rcases bR.2.1 with g3|g3
      ·omega
      ·exact g2 g3
     rw[gN b' ez];exact hm.fr b' g1 g2
   have mT:vO G' w' d us [] xs.length b (oa):=by
    refine zH5 us [] xs.length b (oa) hn.tup (fun i x eC f hf=>?_) (fun i p' g1 g2=>glb2 i p' (by omega) g2) (fun i v hv=>?_)
    ·have:=gad2 i f (by simp only[T.inT,eC];exact hf)
     simpa[T.offT,eC]using this
    ·have g1:=hn.vals G' ghd2 i v hv
     have g2:=(Jm.1 g1).1;rw[eR,if_pos ⟨by omega,by omega⟩,show oa+i-oa=i from by omega];exact g1
   have aS:R Γ.St G' w' d (.sl k (xs++us)) []:=by
    simp only[R];rw[ghdr];refine .inr ⟨b,o0,cap,_,et,by simp,eF,by simp;omega,h4,by rw[pq];exact h5,gow1 b s0 [] [] h6 (fH []),?_,zKL _ _ _ _ _ (fun i x eC=>?_)⟩
    ·intro o g1 g2
     rw[J7,Ub]at g1;exact glb1 b o iZ s0 [] [] (h7 o (by omega) g2) (by omega) (fH [])
    ·rw[Ko]at eC
     simp only[Jc];split at eC
     ·rename_i gJ
      obtain⟨g1,g2,g3⟩:=zAl xs [] 0 b o0 k i x h8 eC;simp only[Jc]at g1 g3;have bL:∀b' o fl z,G.lb b' o=iW (fl,s0,z++[i])->G'.lb b' o=iW (fl,d,z++[i])/\yL w' b' o=yL w b' o:=fun b' o fl z g=>by have g4:=gS b' o fl s0 _ g (by simp);exact⟨glb1 b' o fl s0 _ _ g g4 (fH _),fg b' o g4⟩
      refine⟨zIc x [i] [i] b _ (fun z=>ghd1 i z gJ) (fun z=>gad1 i z gJ) (fun b' o z g=>bL b' o ja z g) g1,g2,?_⟩;refine zBp (G:=G) (w:=w) (s:=s0) (p:=[i]) ⟨⟨fun z=>ghd1 i z gJ,fun z _=>gad1 i z gJ,fun b' o f z _ _ g=>bL b' o f z g,fun b' z _ g=>gow1 b' s0 _ _ g (fH _),eG⟩,fun b' o _ g=>?_,fun b' g=>gow1 b' s0 _ _ g (fH _)⟩ x (yS.mono (fun _ _=>False.elim) x (uS xs e3 i x eC)) g3;have:=bL b' o iZ [] (by simpa using g);simpa using this
     ·rename_i hge
      obtain⟨j,rfl⟩:∃j,i=xs.length+j:=⟨i-xs.length,by omega⟩;rw[show xs.length+j-xs.length=j from by omega]at eC;have g1:=zDq us [] xs.length b (oa) j x mT eC;rw[show T.sizes (us.take j)=j*k from by rw[wT _ (fun u hu=>hn.size u (List.mem_of_mem_take hu)),Kf,Hl (by have:=(Jm.1 eC).1;omega)],show oa+j*k=o0+(xs.length+j)*k from by rw[Ub];omega]at g1
      refine⟨g1,hn.size x (Lq eC),?_⟩;cases hy:y with
      |none=>exact hn.none hy j x eC G' w' (fun z=>ghd2 j z)
      |some y'=>
       obtain⟨y1,y2,y3,y4⟩:=hn.slot y' hy;obtain⟨_,y5,_⟩:=gj.ent y' _ y3;simp only[R]at y5;rcases y5 with⟨rfl,_⟩|⟨b2,o2,cap2,cs2,et2,_,_,_,_,_,_,_,y6⟩
       ·simp at eC
       ·obtain⟨_,_,y7⟩:=zAl us [] 0 b2 o2 k j x y6 eC
        simp only[Jc]at y7;refine zMa x [j] [xs.length+j] (zEa.okTups_get us hn.tup j x eC) ⟨fun z=>by rw[ghd2,y4],fun z g=>gad3 y' j z hy (by simp only[T.inT,eC];exact g),fun b' o fl z _ g=>?_,fun b' z g=>gow1 b' y' _ _ g (mo y' z j hy y2),eG⟩ (yS.mono (fun _ _=>False.elim) x (uS us hn.clean j x eC)) y7;have g4:=gS b' o fl y' _ g (by simp[y2]);exact⟨glb1 b' o fl y' _ _ g g4 (mo y' z j hy y2),fg b' o g4⟩
   have gM:=run_storeCells_at P b (oa) et nv 0 cs w h2 (by omega) gv;simp only[Qy]at gM;rw[eH]at gM;have gD:=zFw (P:=P) (t:=t) (ty:=ty) (w':=w') ht hi hx (by omega) (base:=iW ⟨b,o0,iY⟩) ee (by simp only[hk,uE,hoa];exact gM);refine⟨_,w',by rw[h1];exact gD,G',fin G' w' _ gB gu ghdr aS ghd0⟩
 ·
  have aO:∃a' c,G.hd s0 []=.slice a' xs.length c/\ ∀w2:World,w2.heap=w.heap->(Builtin.firstCells ti.size xs.length (.slice a' xs.length c)).run P w2=.ok (yH G s0 xs [] 0).toArray w2:=by
   rcases e2 with⟨rfl,a1,h1⟩|⟨b,o0,cap,cs,et,h1,h2,h3,h4,h5,h6,h7,h8⟩
   ·exact⟨a1,0,h1,fun w2 _=>by cases a1<;>simp[Builtin.firstCells,loadCells,loadCellsFrom,yH]⟩
   ·refine⟨_,_,h1,fun w2 bY=>?_⟩
    have hl:=zAr xs [] 0 b o0 h8;refine run_firstCells_some (P:=P) w2 ti.size xs.length ⟨b,o0,iY⟩ _ _ _ ?_ (fun j v hv=>?_)
    ·rw[wO,hk]
     exact wT xs (zCn xs [] 0 b o0 h8).2
    ·have:=zB0 xs [] 0 b o0 hl j v hv
     rw[uE];simp only[yL]at this;simpa[World.cell?,bY]using this
  obtain⟨a',c,hh,gN⟩:=aO;have fm:yM xs=iZ/\(∀x∈xs,x.size=k)/\ ∀i x,xs[i]? =iW x->R Γ.St G w s0 x [i]:=by
   rcases e2 with⟨rfl,a1,h1⟩|⟨b,o0,cap,cs,et,h1,h2,h3,h4,h5,h6,h7,h8⟩
   ·simp[yM]
   ·refine⟨zAI (St:=Γ.St) (k:=k) xs [] 0 b o0 (zAr xs [] 0 b o0 h8),(zCn xs [] 0 b o0 h8).2,fun i x eC=>?_⟩
    have:=(zAl xs [] 0 b o0 k i x h8 eC).2.2;simpa using this
  have eg:c<xs.length+us.length:=by
   rcases Jk c (xs.length+us.length)with g|g
   ·exact g
   ·exact absurd ⟨a',c,hh,g⟩ ee
  have gD:=zKM (P:=P) (t:=t) (ty:=ty) ht hi hz hx eg cU hb gN;have hge:=grownCap_ge w (xs.length+us.length) c e;have du:=grownCap_le_maxLen w (xs.length+us.length) c e (by simp only[maxLen];omega)
  generalize grownCap w (xs.length+us.length) c e=cap' at gD hge du
  generalize eH:w.drew.alloc (.cells ((yH G s0 xs [] 0++nv).toArray++Builtin.zeroCells z.cells (cap'-(xs.length+us.length))) e)=w' at gD
  have hwh:w'.heap=w.heap.push (.cells ((yH G s0 xs [] 0++nv).toArray++Builtin.zeroCells z.cells (cap'-(xs.length+us.length))) e):=by rw[<-eH];rfl
  have mg:T.sizes xs=xs.length*k:=wT xs fm.2.1;obtain⟨g1,g2,g3,g4,g5⟩:=zEa hm hwh d (xs++us) (fun i=>if i<xs.length then iW (s0,[i])else y.map fun y'=>(y',[i-xs.length])) (zEN s0 y xs.length) (fun i z=>if i<xs.length then G.hd s0 (z++[i])else f2 (i-xs.length) z) (.slice (iW ⟨w.heap.size,0,iY⟩) (xs.length+us.length) cap') ((zBL d s0 y).tail)
   (zE4 xs us fm.1 hn.tup) (fun i z=>by split;exact hm.one _ _;exact hn.one _ _) rfl
   (fun i u x q z' hu hs=>by
    split at hs
    ·simp at hs;obtain⟨rfl,rfl⟩:=hs;simp[zEN]
    ·rename_i fL
     cases y with
     |none=>simp at hs
     |some y'=>
      simp at hs;obtain⟨rfl,rfl⟩:=hs;have:=(hn.slot y' rfl).2.1;simp[zEN,this,show xs.length+(i-xs.length)=i from by omega])
   (fun i u x q hu hs=>by
    rw[Ko]at hu;split at hs
    ·rename_i gJ
     rw[if_pos gJ]at hu;simp at hs;obtain⟨rfl,rfl⟩:=hs;exact⟨fun z'=>by simp[gJ],fm.2.2 i u hu,uS xs e3 i u hu,fq⟩
    ·rename_i fL
     rw[if_neg fL]at hu;cases hy:y with
     |none=>rw[hy]at hs;simp at hs
     |some y'=>
      rw[hy]at hs;simp at hs;obtain⟨rfl,rfl⟩:=hs;obtain⟨y1,y2,y3,y4⟩:=hn.slot y' hy;obtain⟨_,y5,_⟩:=gj.ent y' _ y3;simp only[R]at y5;refine⟨fun z'=>by simp[fL,y4],?_,uS us hn.clean _ u hu,y1⟩;rcases y5 with⟨rfl,_⟩|⟨b2,o2,cap2,cs2,et2,_,_,_,_,_,_,_,y6⟩
      ·simp at hu
      ·have:=(zAl us [] 0 b2 o2 k _ u y6 hu).2.2
       simpa using this)
   (fun i u hu hs G2 w2 eP=>by
    rw[Ko]at hu;split at hs
    ·cases hs
    ·rename_i fL
     rw[if_neg fL]at hu;cases hy:y with
     |some y'=>rw[hy]at hs;simp at hs
     |none=>
      have:=hn.none hy (i-xs.length) u hu G2 w2 (fun z'=>by rw[show xs.length+(i-xs.length)=i from by omega,eP,if_neg fL])
      rwa [show xs.length+(i-xs.length)=i from by omega]at this)
   (fun G2 eP o v hv=>by
    rw[zFu,Jc]at hv;have h1:yH G2 d xs [] 0=yH G s0 xs [] 0:=zMh xs [] 0 (fun i ex z'=>by rw[Jc,eP,if_pos ex]);rw[h1]at hv;have bL:(yH G s0 xs [] 0).length=xs.length*k:=by rw[wO,mg]
    have mU:(yH G2 d us [] xs.length).length=us.length*k:=by rw[wO,mJ]
    have ho:o<xs.length*k+us.length*k:=by have:=(Jm.1 hv).1;rw[J7]at this;omega
    have po:=hn.len;rw[Array.getElem?_append_left (by simp;omega),List.getElem?_toArray];rw[Ko]at hv ⊢
    split at hv
    ·rename_i gJ;rw[if_pos gJ];exact hv
    ·rename_i fL;rw[if_neg fL]
     exact hn.vals G2 (fun j z'=>by rw[eP,if_neg (by omega),show xs.length+j-xs.length=j from by omega]) _ v hv)
   (fun s p h=>pi s p (by simpa[zBL]using h)) (ho:=by rw[<-eH];rfl) (hq:=by rw[<-eH];rfl)
  refine⟨_,w',by rw[hh];exact gD,_,fin _ w' _ (by simpa[zBL]using g1) g2 (by simp[Gh.nb]) ?_ (fun s p h=>by simp[Gh.nb,h])⟩;simp only[R];refine .inr ⟨w.heap.size,0,cap',_,e,by simp[Gh.nb],g5,by simpa using hge,du,?_,by simp[Gh.nb],?_,zSY _ _ _ _ _ (fun x eC=>?_) g3 g4⟩
  ·have bL:(yH G s0 xs [] 0).length=xs.length*k:=by rw[wO,mg]
   have po:=hn.len;simp only[Array.size_append,Qr,J7,size_zeroCells,fR,bL,po,<-Ub];rw[Jc];exact Jw _ (by omega)
  ·intro o ho _
   rw[J7,Ub]at ho;simp[Gh.nb,zEK (xs++us) [] 0 o (by rw[zFv];omega)]
  ·rcases Jf.1 eC with h|h
   ·exact fm.2.1 x h
   ·exact hn.size x h
end
mutual
def T.flat:T->Bool
 |.lit _|.ro _=>iZ
 |.agg xs=>zBm xs
 |.any|.same _ _|.addr _ _|.sub _ _ _ _ _|.sl _ _|.ptr _|.tup _=>ja
def zBm:List T->Bool
 | []=>iZ
 |x::xs=>x.flat&&zBm xs
end
section
variable {St:Stb}{G G2:Gh}{w w2:World}{s d:Nat}
mutual
theorem zKN:(t:T)-> ∀(p p':List Nat),t.flat=iZ->(∀z,G2.hd d (z++p')=G.hd s (z++p))->R St G w s t p->R St G2 w2 d t p'
 |.lit _,p,p',_,h,hr=>by have:=h [];simp only[Jv]at this;simp only[R]at hr ⊢;rw[this];exact hr
 |.ro _,p,p',_,h,hr=>by have:=h [];simp only[Jv]at this;simp only[R]at hr ⊢;rw[this];exact hr
 |.agg xs,p,p',hf,h,hr=>by simp only[R,T.flat]at hr hf ⊢;exact zPO xs p p' 0 hf h hr
 |.any,_,_,hf,_,_|.same _ _,_,_,hf,_,_|.addr _ _,_,_,hf,_,_|.sub _ _ _ _ _,_,_,hf,_,_|.sl _ _,_,_,hf,_,_|.ptr _,_,_,hf,_,_|.tup _,_,_,hf,_,_=>by simp[T.flat]at hf
theorem zPO:(xs:List T)-> ∀(p p':List Nat)(j:Nat),zBm xs=iZ->(∀z,G2.hd d (z++p')=G.hd s (z++p))->RF St G w s xs p j->RF St G2 w2 d xs p' j
 | [],_,_,_,_,_,_=>by simp only[RF]
 |x::xs,p,p',j,hf,h,hr=>by
  simp only[RF,zBm,J3]at hr hf ⊢
  exact⟨zKN x (j::p) (j::p') hf.1 (fun z=>by have:=h (z++[j]);simpa using this) hr.1,zPO xs p p' (j+1) hf.2 h hr.2⟩
end
end
mutual
theorem zIf:(t:T)->t.flat=iZ->yA t/\t.okTup=iZ
 |.lit _,_|.ro _,_=>by simp[yA,yS,T.okTup]
 |.agg xs,h=>by simp only[T.flat]at h;simpa only[yA,yS,T.okTup]using zAQ xs h
 |.any,h|.same _ _,h|.addr _ _,h|.sub _ _ _ _ _,h|.sl _ _,h|.ptr _,h|.tup _,h=>by simp[T.flat]at h
theorem zAQ:(xs:List T)->zBm xs=iZ->yZ xs/\yM xs=iZ
 | [],_=>by simp[yZ,xN,yM]
 |x::xs,h=>by simp only[zBm,J3]at h;simp only[yZ,xN,yM,J3];exact⟨⟨(zIf x h.1).1,(zAQ xs h.2).1⟩,(zIf x h.1).2,(zAQ xs h.2).2⟩
end
theorem zJL:(xs:List T)->zBm xs=iZ-> ∀(i:Nat)(x:T),xs[i]? =iW x->x.flat=iZ
 | [],_,_,_,h=>by simp at h
 |y::ys,hk,i,x,h=>by
  simp only[zBm,J3]at hk;cases i with
  |zero=>simp at h;subst h;exact hk.1
  |succ i=>exact zJL ys hk.2 i x (by simpa using h)
mutual
def zGk:T->Bool
 |.lit _=>iZ
 |.sl _ xs=>zCo xs
 |.agg xs=>zCo xs
 |.ptr t=>zGk t
 |.any|.ro _|.same _ _|.addr _ _|.sub _ _ _ _ _|.tup _=>ja
def zCo:List T->Bool
 | []=>iZ
 |x::xs=>zGk x&&zCo xs
end
theorem zMi:(ys:List T)->zCo ys=iZ-> ∀u∈ys,∀xs,u≠.tup xs
 | [],_,_,h,_=>by simp at h
 |y::ys,hr,u,h,xs=>by
  simp only[zCo,J3]at hr;rcases Jb.1 h with rfl|h
  ·rintro rfl;simp[zGk]at hr
  ·exact zMi ys hr.2 u h xs
theorem zHb:(ys:List T)->(roT.roTs ys).length=ys.length
 | []=>rfl
 |y::ys=>by simp[roT.roTs,zHb ys]
theorem zIg{k:Nat}:(ys:List T)->(∀u∈ys,u.size=k)->(∀u∈ys,∀xs,u≠.tup xs)-> ∀u∈roT.roTs ys,u.size=k
 | [],_,_,u,h=>by simp[roT.roTs]at h
 |y::ys,h1,h2,u,h=>by
  simp only[roT.roTs,Jb]at h;rcases h with rfl|h
  ·rw[zFr y (h2 y (by simp))];exact h1 y (by simp)
  ·exact zIg ys (fun v hv=>h1 v (by simp[hv])) (fun v hv=>h2 v (by simp[hv])) u h
theorem zMj:(ys:List T)-> ∀(j:Nat)(u:T),(roT.roTs ys)[j]? =iW u-> ∃u0,ys[j]? =iW u0/\u=roT u0
 | [],_,_,h=>by simp[roT.roTs]at h
 |y::ys,j,u,h=>by
  cases j with
  |zero=>simp[roT.roTs]at h;exact⟨y,by simp,h.symm⟩
  |succ j=>
   obtain⟨u0,h1,h2⟩:=zMj ys j u (by simpa[roT.roTs]using h);exact⟨u0,by simpa using h1,h2⟩
theorem zPP{St:Stb}{G2:Gh}{d:Nat}:(ys:List T)-> ∀(cs':Array Value)(o' k n:Nat),RoL St ys cs' o' k->(∀u∈ys,u.size=k)->(∀j u,ys[j]? =iW u-> ∀z',G2.hd d (z'++[n+j])=zAp (zEJ u cs' (o'+j*k) z'.reverse))->
  ∀(i:Nat)(v:Value),(yH G2 d (roT.roTs ys) [] n)[i]? =iW v->cs'[o'+i]? =iW v
 | [],_,_,_,_,_,_,_,i,v,hv=>by simp[roT.roTs,yH]at hv
 |y::ys,cs',o',k,n,h,hs,hd,i,v,hv=>by
  simp only[RoL]at h;simp only[roT.roTs,yH]at hv;have er:∀xs,y≠.tup xs:=by rintro xs rfl;simp only[RoC]at h;exact h.1
  have ig:∀xs,roT y≠.tup xs:=fun xs e=>by cases y<;>simp[roT]at e
  have hl:(vals G2 d (roT y) [n]).length=k:=by rw[vH _ _ ig,zFr y er,hs y (by simp)]
  rw[Ko]at hv;split at hv
  ·exact zHR y cs' o' [n] (fun z'=>by simpa using hd 0 y (by simp) z') h.1 i v hv
  ·have:=zPP ys cs' (o'+k) k (n+1) h.2 (fun u hu=>hs u (by simp[hu])) (fun j u hu z'=>by
    have:=hd (j+1) u (by simpa using hu) z'
    rwa [show n+(j+1)=n+1+j from by omega,show o'+(j+1)*k=o'+k+j*k from by rw[K7];omega]at this) _ v hv
   rwa [hl,show o'+k+(i-k)=o'+i from by omega]at this
mutual
theorem zR4{G:Gh}(hg:∀s z,(G.hd s z).oneCell'=iZ){s:Nat}:(t:T)-> ∀(p:List Nat)(v:Value),v∈vals G s t p->v.oneCell'=iZ
 |.agg xs,p,v,h=>by simp only[vals]at h;exact zEO hg xs p 0 v h
 |.any,p,v,h|.lit _,p,v,h|.ro _,p,v,h|.same _ _,p,v,h|.addr _ _,p,v,h|.sub _ _ _ _ _,p,v,h|.sl _ _,p,v,h|.ptr _,p,v,h|.tup _,p,v,h=>by simp only[vals,List.mem_singleton]at h;rw[h];exact hg s p
theorem zEO{G:Gh}(hg:∀s z,(G.hd s z).oneCell'=iZ){s:Nat}:(xs:List T)-> ∀(p:List Nat)(j:Nat)(v:Value),v∈yH G s xs p j->v.oneCell'=iZ
 | [],_,_,_,h=>by simp[yH]at h
 |x::xs,p,j,v,h=>by
  simp only[yH,Jf]at h;rcases h with h|h
  ·exact zR4 hg x _ v h
  ·exact zEO hg xs p _ v h
end
theorem zDw{G G2:Gh}{s d:Nat}:(us:List T)-> ∀(n j:Nat),(∀i z,G2.hd d (z++[n+i])=G.hd s (z++[j+i]))->yH G2 d us [] n=yH G s us [] j
 | [],_,_,_=>by simp only[yH]
 |x::xs,n,j,h=>by
  have ih:yH G2 d xs [] (n+1)=yH G s xs [] (j+1):=zDw xs (n+1) (j+1) (fun i z=>by rw[show n+1+i=n+(i+1)from by omega,show j+1+i=j+(i+1)from by omega];exact h (i+1) z)
  simp only[yH];rw[ih,zBQ x [j] [n] (by simpa using h 0)]
theorem zFx{G G2:Gh}{s d:Nat}:(us:List T)-> ∀(n j:Nat)(q:List Nat),(∀i z,G2.hd d (z++[n+i])=G.hd s (z++((j+i)::q)))->yH G2 d us [] n=yH G s us q j
 | [],_,_,_,_=>by simp only[yH]
 |x::xs,n,j,q,h=>by
  have ih:yH G2 d xs [] (n+1)=yH G s xs q (j+1):=zFx xs (n+1) (j+1) q (fun i z=>by rw[show n+1+i=n+(i+1)from by omega,show j+1+i=j+(i+1)from by omega];exact h (i+1) z)
  simp only[yH];rw[ih,zBQ x (j::q) [n] (by simpa using h 0)]
section
variable {P:Program}{Γ:Ctx}{E:Env}{o:Oper}{d:Nat}
theorem zPQ{St:Stb}{G:Gh}{w:World}{r:Nat}{q:List Nat}{k:Nat}{us:List T}(h:R St G w r (.sl k us) q){size:Nat}(hk:size=k):
  ∃xa c,G.hd r q=.slice xa us.length c/\ ∀w2:World,w2.heap=w.heap->(Builtin.firstCells size us.length (.slice xa us.length c)).run P w2=.ok (yH G r us q 0).toArray w2:=by
 simp only[R]at h;rcases h with⟨rfl,a1,h1⟩|⟨b,o0,cap,cs,et,h1,h2,h3,h4,h5,h6,h7,h8⟩
 ·exact⟨a1,0,h1,fun w2 _=>by cases a1<;>simp[Builtin.firstCells,loadCells,loadCellsFrom,yH]⟩
 ·refine⟨_,_,h1,fun w2 bY=>?_⟩
  have hl:=zAr us q 0 b o0 h8;refine run_firstCells_some (P:=P) w2 size us.length ⟨b,o0,iY⟩ _ _ _ ?_ (fun j v hv=>?_)
  ·rw[wO,hk]
   exact wT us (zCn us q 0 b o0 h8).2
  ·have:=zB0 us q 0 b o0 hl j v hv
   rw[uE];simp only[yL]at this;simpa[World.cell?,bY]using this
theorem zCp{G:Gh}{a:Act}{w:World}(gj:Rep Γ E G a.tmps w){s:Nat}{t:T}(h:E s=iW t)(ht:t.single=iZ):a.eval (.tmp s)=G.hd s []:=by rw[xX (gj.ent s t h).1,xS ht]
theorem zKO(t e:TypeId)(ti:TypeInfo)(z:Value)(k s0 y:Nat)(xs us:List T)(ho:o.op=.call { callee:=.builtin .append,args:=#[.tmp s0,.tmp y],argTypes:=#[t,t] })(gm:o.dst=iW d)(hd:d<Γ.N)
  (ht:P.underlying t=iW (.slice e))(hi:P.info? e=iW ti)(hz:ti.zero=iW z)(hk:ti.size=k)(eK:0<k)(fR:z.cells.size=k)(hb:ti.bytes<=2048)
  (eJ:E s0=iW (.sl k xs))(hy:E y=iW (.sl k us))(fq:s0≠d)(hyd:y≠d)(aV:y≠s0)(cU:xs.length+us.length<=68719476736):
  wD P Γ o E (E.app (aWr d s0 (iW y) k (xs++us)) (zBL d s0 (iW y))):=by
 refine wD.value gm fun a w G gj=>?_
 obtain⟨_,y2,y3⟩:=gj.ent y _ hy;simp only[Top]at y3;obtain⟨xa,c,h1,h2⟩:=zPQ (P:=P) y2 hk;have fO:yM us=iZ/\ ∀u∈us,u.size=k:=by
  simp only[R]at y2;rcases y2 with⟨rfl,_⟩|⟨b,o0,cap,cs,et,_,_,_,_,_,_,_,h8⟩
  ·simp[yM]
  ·exact⟨zAI (St:=Γ.St) (k:=k) us [] 0 b o0 (zAr us [] 0 b o0 h8),(zCn us [] 0 b o0 h8).2⟩
 have hn:zIe Γ E G d s0 (iW y) k xs.length us (fun j z'=>G.hd y (z'++[j])) (yH G y us [] 0):=
  ⟨fO.2,fO.1,y3,fun j z'=>gj.mem.one _ _,by rw[wO];exact wT us fO.2,fun y' hy'=>by simp at hy';subst hy';exact⟨hyd,aV,hy,fun _ _=>rfl⟩,fun h=>by simp at h,
   fun G2 eP o v hv=>by rw[<-zDw us xs.length 0 (fun i z'=>by rw[eP,Jc])];exact hv⟩
 obtain⟨v,w',gD,G',gw⟩:=zCH (P:=P) (ty:=o.type) gj hd ht hi hz hk eK fR hb eJ fq hn (xv:=a.eval (.tmp y)) ⟨.inl ⟨e,xa,c,ht,by rw[zCp gj hy rfl,h1],h2⟩⟩ (fun v hv=>zEc gj.mem us [] 0 v hv) cU;refine⟨v,w',?_,G',gw⟩;rw[<-zCp gj eJ rfl]at gD;simp[execOp,ho,resolve,invoke,builtin,gD]
theorem zKP(t e:TypeId)(ti:TypeInfo)(z:Value)(k s0:Nat)(y:Operand)(r:Nat)(q:List Nat)(xs us:List T)(ho:o.op=.call { callee:=.builtin .append,args:=#[.tmp s0,y],argTypes:=#[t,t] })(gm:o.dst=iW d)(hd:d<Γ.N)
  (ht:P.underlying t=iW (.slice e))(hi:P.info? e=iW ti)(hz:ti.zero=iW z)(hk:ti.size=k)(eK:0<k)(fR:z.cells.size=k)(hb:ti.bytes<=2048)
  (eJ:E s0=iW (.sl k xs))(hy:tT E y=iW (r,q,.sl k us))(hf:zBm us=iZ)(fq:s0≠d)(cU:xs.length+us.length<=68719476736):
  wD P Γ o E (E.app (aWr d s0 iY k (xs++us)) (zBL d s0 iY)):=by
 refine wD.value gm fun a w G gj=>?_
 obtain⟨y2,y1⟩:=jZ gj hy rfl;obtain⟨xa,c,h1,h2⟩:=zPQ (P:=P) y2 hk;have fO:(∀u∈us,u.size=k)/\ ∀j u,us[j]? =iW u->R Γ.St G w r u (j::q):=by
  simp only[R]at y2;rcases y2 with⟨rfl,_⟩|⟨b,o0,cap,cs,et,_,_,_,_,_,_,_,h8⟩
  ·simp
  ·refine⟨(zCn us q 0 b o0 h8).2,fun j u hu=>?_⟩
   have:=(zAl us q 0 b o0 k j u h8 hu).2.2;simpa using this
 have gy:=zAQ us hf;have hn:zIe Γ E G d s0 iY k xs.length us (fun j z'=>G.hd r (z'++(j::q))) (yH G r us q 0):=
  ⟨fO.1,gy.2,gy.1,fun j z'=>gj.mem.one _ _,by rw[wO];exact wT us fO.1,fun y' hy'=>by simp at hy',
   fun _ j u hu G2 w2 eP=>zKN u (j::q) [xs.length+j] (zJL us hf j u hu) (fun z'=>eP z') (fO.2 j u hu),
   fun G2 eP o v hv=>by rw[<-zFx us xs.length 0 q (fun i z'=>by rw[eP,Jc])];exact hv⟩
 obtain⟨v,w',gD,G',gw⟩:=zCH (P:=P) (ty:=o.type) gj hd ht hi hz hk eK fR hb eJ fq hn (xv:=a.eval y) ⟨.inl ⟨e,xa,c,ht,by rw[y1,h1],h2⟩⟩ (fun v hv=>zEc gj.mem us q 0 v hv) cU;refine⟨v,w',?_,G',gw⟩;rw[<-zCp gj eJ rfl]at gD;simp[execOp,ho,resolve,invoke,builtin,gD]
mutual
theorem zTe:(u:T)->zGk u=iZ->(roT u).flat=iZ
 |.agg xs,h=>by simp only[zGk]at h;simp only[roT,T.flat];exact zGl xs h
 |.lit _,_|.sl _ _,_|.ptr _,_=>by simp[roT,T.flat]
 |.any,h|.ro _,h|.same _ _,h|.addr _ _,h|.sub _ _ _ _ _,h|.tup _,h=>by simp[zGk]at h
theorem zGl:(xs:List T)->zCo xs=iZ->zBm (roT.roTs xs)=iZ
 | [],_=>by simp[roT.roTs,zBm]
 |x::xs,h=>by simp only[zCo,J3]at h;simp only[roT.roTs,zBm,J3];exact⟨zTe x h.1,zGl xs h.2⟩
end
theorem zKQ(t e:TypeId)(ti:TypeInfo)(z:Value)(k s0:Nat)(y:Operand)(r:Nat)(q:List Nat)(xs ys:List T)(ho:o.op=.call { callee:=.builtin .append,args:=#[.tmp s0,y],argTypes:=#[t,t] })(gm:o.dst=iW d)(hd:d<Γ.N)
  (ht:P.underlying t=iW (.slice e))(hi:P.info? e=iW ti)(hz:ti.zero=iW z)(hk:ti.size=k)(eK:0<k)(fR:z.cells.size=k)(hb:ti.bytes<=2048)
  (eJ:E s0=iW (.sl k xs))(hy:tT E y=iW (r,q,.ro (.sl k ys)))(hro:zCo ys=iZ)(aV:∀u∈ys,u.size=k)(fq:s0≠d)(cU:xs.length+ys.length<=68719476736):
  wD P Γ o E (E.app (aWr d s0 iY k (xs++roT.roTs ys)) (zBL d s0 iY)):=by
 refine wD.value gm fun a w G gj=>?_
 obtain⟨y2,y1⟩:=jZ gj hy rfl;obtain⟨xa,c,h1,h2,h3,h4⟩:=zDZ y2;have hf:=zGl ys hro;have gy:=zAQ _ hf;have gn:(roT.roTs ys).length=ys.length:=zHb ys;have gE:∀u∈roT.roTs ys,u.size=k:=zIg ys aV (fun u hu=>zMi ys hro u hu);obtain⟨cs',o',h5,h6⟩:∃(cs':Array Value)(o':Nat),RoL Γ.St ys cs' o' k/\(ys≠[]-> ∃b et fr,xa=iW ⟨b,o',iY⟩/\Γ.St b=iW (.cells cs' et fr)):=by
  by_cases gk:ys=[]
  ·subst gk;exact⟨#[],0,by simp[RoL],fun h=>absurd rfl h⟩
  ·obtain⟨b,o',cs',et,fr,h5,h6,h7⟩:=h4 gk
   exact⟨cs',o',h7,fun _=>⟨b,et,fr,h5,h6⟩⟩
 let f2:Nat->List Nat->Value:=fun j z'=>match ys[j]? with
  |some u=>zAp (zEJ u cs' (o'+j*k) z'.reverse)
  |none=>.bool ja
 have hf2:∀j u,ys[j]? =iW u-> ∀z',f2 j z'=zAp (zEJ u cs' (o'+j*k) z'.reverse):=fun j u hu z'=>by simp[f2,hu]
 let G0:Gh:={ G with hd:=fun s z'=>if s=d then(match z'.getLast? with
  |some j=>f2 j z'.dropLast
  |none=>.bool ja)else G.hd s z' }
 have hG0:∀j z',G0.hd d (z'++[j])=f2 j z':=fun j z'=>by simp[G0]
 have cY:∀(G2:Gh)(n:Nat),(∀j z',G2.hd d (z'++[n+j])=f2 j z')-> ∀(i:Nat)(v:Value),(yH G2 d (roT.roTs ys) [] n)[i]? =iW v->cs'[o'+i]? =iW v:=by intro G2 n eP i v hv;exact zPP ys cs' o' k n h5 aV (fun j u hu z'=>by rw[eP,hf2 j u hu]) i v hv
 have ax:∀w2:World,w2.heap=w.heap->(Builtin.firstCells ti.size ys.length (.slice xa ys.length c)).run P w2=.ok (yH G0 d (roT.roTs ys) [] 0).toArray w2:=by
  intro w2 bY
  by_cases gk:ys=[]
  ·subst gk
   cases xa<;>simp[Builtin.firstCells,loadCells,loadCellsFrom,roT.roTs,yH]
  ·obtain⟨b,et,fr,rfl,h7⟩:=h6 gk
   refine run_firstCells_some (P:=P) w2 ti.size ys.length ⟨b,o',iY⟩ _ _ _ ?_ (fun j v hv=>?_)
   ·rw[wO,hk,wT _ gE,gn]
   ·have:=cY G0 0 (fun j z'=>by rw[Jc];exact hG0 j z') j v hv
    rw[uE];have h8:=gj.mem.st b _ h7;simp[World.cell?,bY,h8,this]
 have mq:∀j z',(f2 j z').oneCell'=iZ:=fun j z'=>by
  dsimp only[f2];split
  ·exact zCj _
  ·rfl
 have hn:zIe Γ E G d s0 iY k xs.length (roT.roTs ys) f2 (yH G0 d (roT.roTs ys) [] 0):=by
  refine⟨gE,gy.2,gy.1,mq,by rw[wO];exact wT _ gE,fun y' hy'=>by simp at hy',fun _ j u hu G2 w2 eP=>?_,fun G2 eP i v hv=>?_⟩
  ·obtain⟨u0,dc,rfl⟩:=zMj ys j u hu
   exact zST u0 cs' (o'+j*k) [xs.length+j] (fun z'=>by rw[eP z',hf2 j u0 dc]) (zH4 ys cs' o' k j u0 h5 dc)
  ·rw[<-zDw (roT.roTs ys) xs.length 0 (fun i z'=>by rw[eP,Jc];exact(hG0 i z').symm)]
   exact hv
 have ak:∀v∈yH G0 d (roT.roTs ys) [] 0,v.oneCell'=iZ:=by
  intro v hv;refine zEO (fun s z'=>?_) _ [] 0 v hv;simp only[G0];split
  ·split
   ·exact mq _ _
   ·rfl
  ·exact gj.mem.one _ _
 have bj:zId P t e ti (a.eval y) (roT.roTs ys).length (yH G0 d (roT.roTs ys) [] 0) w:=⟨.inl ⟨e,xa,c,ht,by rw[y1,h1,gn],by rw[gn];exact ax⟩⟩;obtain⟨v,w',gD,G',gw⟩:=zCH (P:=P) (ty:=o.type) gj hd ht hi hz hk eK fR hb eJ fq hn bj ak (by rw[gn];exact cU);refine⟨v,w',?_,G',gw⟩;rw[<-zCp gj eJ rfl]at gD;simp[execOp,ho,resolve,invoke,builtin,gD]
end
theorem zHc:(us:List T)->qQ us=us.flatMap sP
 | []=>rfl
 |u::us=>by simp[qQ,zHc us]
theorem zDx(u:T)(h:u.zOk=iZ):∀m,zBs (J1 m u)=iZ
 |0=>rfl
 |m+1=>by simp[Jt,zBs,h,zDx u h m]
section
variable {P:Program}{Γ:Ctx}{E:Env}{o:Oper}{d:Nat}
theorem zIh(t t2 e:TypeId)(k2:IntKind)(ti:TypeInfo)(z:Value)(u:T)(k s0:Nat)(y:Operand)(kd:IntKind)(m:Nat)(xs:List T)(ho:o.op=.call { callee:=.builtin .append,args:=#[.tmp s0,y],argTypes:=#[t,t2] })(gm:o.dst=iW d)(hd:d<Γ.N)
  (ht:P.underlying t=iW (.slice e))(cZ:P.underlying t2=iW (.int k2))(hi:P.info? e=iW ti)(hz:ti.zero=iW z)(hk:ti.size=k)(eK:0<k)(hb:ti.bytes<=2048)(hu:u.zOk=iZ)(hv:sP u=z.cells.toList)(fO:u.size=k)
  (eJ:E s0=iW (.sl k xs))(hy:opT E y=iW (.lit (.int kd m)))(fq:s0≠d)(cU:xs.length+m<=68719476736):
  wD P Γ o E (E.app (aWr d s0 iY k (xs++J1 m u)) (zBL d s0 iY)):=by
 refine wD.value gm fun a w G gj=>?_
 have fR:z.cells.size=k:=by grind[vR]
 have hzo:=zDx u hu m;have gy:=zCG _ hzo
 let f2:Nat->List Nat->Value:=fun _ z'=>zAp (zhd u z'.reverse)
 have hnvl:((Builtin.zeroCells z.cells m).toList).length=m*k:=by grind[Builtin.zeroCells]
 have hn:zIe Γ E G d s0 iY k xs.length (J1 m u) f2 (Builtin.zeroCells z.cells m).toList:=by
  refine⟨by grind,gy.2,gy.1,fun _ _=>zCj _,by grind,by simp,fun _ j x hx G2 w2 eP=>?_,fun G2 eP i v mf=>?_⟩
  ·grind[zKH]
  ·have h1:yH G2 d (J1 m u) [] xs.length=qQ (J1 m u):=by grind[zEL]
   rw[h1,zHc]at mf;obtain⟨h2,h3⟩:=zKI sP u k (by grind) eK m i v mf
   grind[Builtin.zeroCells]
 have gv:∀v∈(Builtin.zeroCells z.cells m).toList,v.oneCell'=iZ:=by
  intro v mf;simp only[Builtin.zeroCells,Array.toList_map,Array.toList_range,Jn,Ll]at mf;obtain⟨i,ex,rfl⟩:=mf
  grind[Hn,zGj]
 have bj:zId P t2 e ti (a.eval y) (J1 m u).length (Builtin.zeroCells z.cells m).toList w:=by
  refine⟨.inr ⟨k2,kd,z,cZ,?_,hz,by simp,?_,by omega⟩⟩
  ·rw[(yY gj hy).1];simp
  ·simp only[Ja]
   exact Hs (Jp (show m<=68719476736 by omega) hb) (by decide)
 obtain⟨v,w',gD,G',gw⟩:=zCH (P:=P) (ty:=o.type) gj hd ht hi hz hk eK fR hb eJ fq hn bj gv (by grind);refine⟨v,w',?_,G',gw⟩;rw[<-zCp gj eJ rfl]at gD;simp[execOp,ho,resolve,invoke,builtin,gD]
end
def zMk(G:Gh)(nd:List (Nat×List Nat×T)):Value:=
 match nd with
 | [x]=>sZ G x.1 x.2.2 x.2.1
 |nd=>.tuple (nd.map fun x=>sZ G x.1 x.2.2 x.2.1).toArray
def FnC(P:Program)(f:FuncId)(us:List T)(res:List T)(rws:List (Nat×T)):Prop:=
 ∀(St:Stb)(W:Nat->Prop)(w:World)(G:Gh)(vs:Array Value),vs.size=us.length->
  (∀(i:Nat) u,us[i]? =iW u->vs[i]? =iW (mkV G i u [])/\R St G w i u [])->Mem ⟨St,W,w,0⟩ G w->
  Calls P f vs w fun e w'=> ∃(S':Stb)(G':Gh)(nd:List (Nat×List Nat×T)),zEv St S' W w.heap.size/\e=.returned (zMk G' nd)/\Mem ⟨S',W,w,0⟩ G' w'/\nd.map (·.2.2)=res/\
   (∀x∈nd,R S' G' w' x.1 x.2.2 x.2.1/\us.length<=x.1)/\(nd.map (·.1)).Nodup/\
   ∀i u',(i,u')∈rws->R S' G' w' i u' []/\ ∃u,us[i]? =iW u/\mkV G' i u' []=mkV G i u []
mutual
def vK:T->Bool
 |.ro _=>ja
 |.sl _ xs|.agg xs|.tup xs=>uN xs
 |.ptr t=>vK t
 |.any|.lit _|.same _ _|.addr _ _|.sub _ _ _ _ _=>iZ
def uN:List T->Bool
 | []=>iZ
 |x::xs=>vK x&&uN xs
end
section
variable {St St':Stb}{G:Gh}{w:World}{s:Nat}
mutual
theorem zR5:(t:T)-> ∀(p:List Nat),vK t=iZ->R St G w s t p->R St' G w s t p
 |.ro _,_,h,_=>by simp[vK]at h
 |.sl k xs,p,h,hr=>by
  simp only[vK,R]at h hr ⊢
  rcases hr with hr|⟨b,o0,cap,cs,e,h1,h2,h3,h4,h5,h6,h7,h8⟩
  ·exact .inl hr
  ·exact .inr ⟨b,o0,cap,cs,e,h1,h2,h3,h4,h5,h6,h7,zZ6 xs p 0 b o0 k h h8⟩
 |.agg xs,p,h,hr|.tup xs,p,h,hr=>by simp only[vK,R]at h hr ⊢;exact zZ7 xs p 0 h hr
 |.ptr t,p,h,hr=>by
  simp only[vK,R]at h hr ⊢
  obtain⟨b,cs,e,h1,h2,h3,h6,h4,h5⟩:=hr;exact⟨b,cs,e,h1,h2,h3,h6,h4,zR5 t _ h h5⟩
 |.any,_,_,hr|.lit _,_,_,hr|.same _ _,_,_,hr|.addr _ _,_,_,hr|.sub _ _ _ _ _,_,_,hr=>by first|(simp only[R];done)|simpa only[R]using hr
theorem zZ6:(xs:List T)-> ∀(p:List Nat)(i b o k:Nat),uN xs=iZ->RL St G w s xs p i b o k->RL St' G w s xs p i b o k
 | [],_,_,_,_,_,_,_=>by simp only[RL]
 |x::xs,p,i,b,o,k,h,hr=>by
  simp only[uN,J3,RL]at h hr ⊢
  exact⟨hr.1,zR5 x _ h.1 hr.2.1,zZ6 xs p (i+1) b _ k h.2 hr.2.2⟩
theorem zZ7:(xs:List T)-> ∀(p:List Nat)(i:Nat),uN xs=iZ->RF St G w s xs p i->RF St' G w s xs p i
 | [],_,_,_,_=>by simp only[RF]
 |x::xs,p,i,h,hr=>by
  simp only[uN,J3,RF]at h hr ⊢
  exact⟨zR5 x _ h.1 hr.1,zZ7 xs p (i+1) h.2 hr.2⟩
end
end
section
variable {St St':Stb} (h:∀b x,St b=iW x->St' b=iW x)
 include h
mutual
theorem tJ:(t:T)-> ∀(cs:Array Value)(o:Nat),RoC St t cs o->RoC St' t cs o
 |.sl k xs,cs,o,hr=>by
  simp only[RoC]at hr ⊢
  obtain⟨a,c,h1,h2,h3,h4⟩:=hr;refine⟨a,c,h1,h2,h3,fun gk=>?_⟩;obtain⟨b,o',cs',e,fr,h5,h6,h7⟩:=h4 gk;exact⟨b,o',cs',e,fr,h5,h b _ h6,zMl xs cs' o' k h7⟩
 |.agg xs,cs,o,hr=>by simp only[RoC]at hr ⊢;exact zMm xs cs o hr
 |.ptr t,cs,o,hr=>by
  simp only[RoC]at hr ⊢
  obtain⟨b,o',cs',e,fr,h5,h6,h7⟩:=hr;exact⟨b,o',cs',e,fr,h5,h b _ h6,tJ t cs' o' h7⟩
 |.ro u,cs,o,hr=>by
  simp only[RoC]at hr ⊢
  obtain⟨f,vs,h1,h2,h3⟩:=hr;exact⟨f,vs,h1,h2,tJ u _ _ h3⟩
 |.any,_,_,hr|.lit _,_,_,hr|.same _ _,_,_,hr|.addr _ _,_,_,hr|.sub _ _ _ _ _,_,_,hr|.tup _,_,_,hr=>by first|(simp only[RoC]at hr;done)|simpa only[RoC]using hr
theorem zMl:(xs:List T)-> ∀(cs:Array Value)(o k:Nat),RoL St xs cs o k->RoL St' xs cs o k
 | [],_,_,_,_=>by have _:=h;simp only[RoL]
 |x::xs,cs,o,k,hr=>by simp only[RoL]at hr ⊢;exact⟨tJ x cs o hr.1,zMl xs cs _ k hr.2⟩
theorem zMm:(xs:List T)-> ∀(cs:Array Value)(o:Nat),RoF St xs cs o->RoF St' xs cs o
 | [],_,_,_=>by have _:=h;simp only[RoF]
 |x::xs,cs,o,hr=>by simp only[RoF]at hr ⊢;exact⟨tJ x cs o hr.1,zMm xs cs _ hr.2⟩
end
end
section
variable {St St':Stb}{G:Gh}{w:World}{s:Nat} (h:∀b x,St b=iW x->St' b=iW x)
 include h
mutual
theorem zKR:(t:T)-> ∀(p:List Nat),R St G w s t p->R St' G w s t p
 |.ro t,_,hr=>by simp only[R]at hr ⊢;exact tJ h t _ _ hr
 |.sl k xs,p,hr=>by
  simp only[R]at hr ⊢
  rcases hr with hr|⟨b,o0,cap,cs,e,h1,h2,h3,h4,h5,h6,h7,h8⟩
  ·exact .inl hr
  ·exact .inr ⟨b,o0,cap,cs,e,h1,h2,h3,h4,h5,h6,h7,zPR xs p 0 b o0 k h8⟩
 |.agg xs,p,hr|.tup xs,p,hr=>by simp only[R]at hr ⊢;exact zPS xs p 0 hr
 |.ptr t,p,hr=>by
  simp only[R]at hr ⊢
  obtain⟨b,cs,e,h1,h2,h3,h6,h4,h5⟩:=hr;exact⟨b,cs,e,h1,h2,h3,h6,h4,zKR t _ h5⟩
 |.any,_,hr|.lit _,_,hr|.same _ _,_,hr|.addr _ _,_,hr|.sub _ _ _ _ _,_,hr=>by first|(simp only[R];done)|simpa only[R]using hr
theorem zPR:(xs:List T)-> ∀(p:List Nat)(i b o k:Nat),RL St G w s xs p i b o k->RL St' G w s xs p i b o k
 | [],_,_,_,_,_,_=>by have _:=h;simp only[RL]
 |x::xs,p,i,b,o,k,hr=>by simp only[RL]at hr ⊢;exact⟨hr.1,zKR x _ hr.2.1,zPR xs p (i+1) b _ k hr.2.2⟩
theorem zPS:(xs:List T)-> ∀(p:List Nat)(i:Nat),RF St G w s xs p i->RF St' G w s xs p i
 | [],_,_,_=>by have _:=h;simp only[RF]
 |x::xs,p,i,hr=>by simp only[RF]at hr ⊢;exact⟨zKR x _ hr.1,zPS xs p (i+1) hr.2⟩
end
end
mutual
def strip:T->T
 |.lit v=>.lit v
 |.ro u=>if u.single then u else .any
 |.sl k xs=>.sl k (wU xs)
 |.agg xs=>.agg (wU xs)
 |.ptr t=>.ptr (strip t)
 |.any|.same _ _|.addr _ _|.sub _ _ _ _ _|.tup _=>.any
def wU:List T->List T
 | []=>[]
 |x::xs=>strip x::wU xs
end
theorem zAJ:(xs:List T)->(wU xs).length=xs.length
 | []=>rfl
 |x::xs=>by simp[wU,zAJ xs]
mutual
theorem zEP:(t:T)->(strip t).size=t.size
 |.agg xs=>by simp only[strip,T.size];exact zHd xs
 |.ro u=>by
  simp only[strip];split
  ·rename_i h;cases u<;>simp[T.single]at h<;>simp[T.size]
  ·simp[T.size]
 |.lit _|.sl _ _|.ptr _|.any|.same _ _|.addr _ _|.sub _ _ _ _ _|.tup _=>by simp[strip,T.size]
theorem zHd:(xs:List T)->T.sizes (wU xs)=T.sizes xs
 | []=>rfl
 |x::xs=>by simp only[wU,T.sizes,zEP x,zHd xs]
end
theorem kM{St:Stb}{u:T}(hu:u.single=iZ){v:Value}{cs:Array Value}{o:Nat}(h:RoC St u #[v] 0)(hc:cs[o]? =iW v):RoC St u cs o:=by
 cases u<;>simp[T.single]at hu<;>simp only[RoC]at h ⊢ <;>simp at h<;>first
  |exact⟨v,hc,h⟩
  |(obtain⟨rfl,h2⟩:=h;exact⟨hc,h2⟩)
  |(obtain⟨f,vs,rfl,h2⟩:=h;exact⟨f,vs,hc,h2⟩)
  |(obtain⟨a,c,rfl,h2⟩:=h;exact⟨a,c,hc,by simpa using h2⟩)
  |(obtain⟨b,o',rfl,h2⟩:=h;obtain⟨cs',⟨e,f1,f2,h3⟩,h4⟩:=h2;exact⟨b,o',cs',e,(f1,f2),hc,h3,h4⟩)
section
variable {St Sc:Stb}{G:Gh}{w:World}{s:Nat} (gv:∀s p,(G.hd s p).oneCell'=iZ) (eA:∀b x,St b=iW x->Sc b=iW x) (eB:∀b,(∃y,G.ow b=iW (s,y))->Sc b=w.heap[b]?)
 include gv eA eB
mutual
theorem frz:(t:T)-> ∀(p:List Nat)(b o:Nat)(cs:Array Value)(e:TypeId)(fr:Nat×Nat),w.heap[b]? =iW (.cells cs e fr)->Loc G w s t p b o->R St G w s t p->RoC Sc (strip t) cs o
 |.agg xs,p,b,o,cs,e,fr,hb,hl,hr=>by simp only[Loc,R,strip,RoC]at hl hr ⊢;exact yC6 xs p 0 b o cs e fr hb hl.2 hr
 |.tup _,_,_,_,_,_,_,_,hl,_=>by have _:=eB;simp only[Loc]at hl
 |.any,p,b,o,cs,e,fr,hb,hl,hr|.same _ _,p,b,o,cs,e,fr,hb,hl,hr|.addr _ _,p,b,o,cs,e,fr,hb,hl,hr|.sub _ _ _ _ _,p,b,o,cs,e,fr,hb,hl,hr=>by have h1:=(vD rfl hl).2.2;simp only[yL,World.cell?,hb]at h1;simp only[strip,RoC];exact⟨_,by simpa using h1,gv s p⟩
 |.lit v,p,b,o,cs,e,fr,hb,hl,hr=>by
  have h1:=(vD rfl hl).2.2;simp only[yL,World.cell?,hb]at h1;simp only[strip,RoC,R]at hr ⊢
  exact⟨by rw[<-hr];simpa using h1,by rw[<-hr];exact gv s p⟩
 |.ro u,p,b,o,cs,e,fr,hb,hl,hr=>by
  have h1:=(vD rfl hl).2.2;simp only[yL,World.cell?,hb]at h1;simp only[strip,R]at hr ⊢
  split
  ·rename_i hu
   exact kM hu (tJ eA u _ _ hr) (by simpa using h1)
  ·simp only[RoC];exact⟨_,by simpa using h1,gv s p⟩
 |.sl k xs,p,b,o,cs,e,fr,hb,hl,hr=>by have h1:=(vD rfl hl).2.2;simp only[yL,World.cell?,hb]at h1;exact kM rfl (zMn (.sl k xs) p rfl hr) (by simpa using h1)
 |.ptr t,p,b,o,cs,e,fr,hb,hl,hr=>by have h1:=(vD rfl hl).2.2;simp only[yL,World.cell?,hb]at h1;exact kM rfl (zMn (.ptr t) p rfl hr) (by simpa using h1)
theorem yC6:(xs:List T)-> ∀(p:List Nat)(j b o:Nat)(cs:Array Value)(e:TypeId)(fr:Nat×Nat),w.heap[b]? =iW (.cells cs e fr)->vO G w s xs p j b o->RF St G w s xs p j->RoF Sc (wU xs) cs o
 | [],_,_,_,_,_,_,_,_,_,_=>by have _:=gv;have _:=eA;have _:=eB;simp only[wU,RoF]
 |x::xs,p,j,b,o,cs,e,fr,hb,hl,hr=>by
  simp only[vO,RF,wU,RoF]at hl hr ⊢
  exact⟨frz x _ b o cs e fr hb hl.1 hr.1,by rw[zEP];exact yC6 xs p (j+1) b _ cs e fr hb hl.2 hr.2⟩
theorem yC7:(xs:List T)-> ∀(p:List Nat)(i b o k:Nat)(cs:Array Value)(e:TypeId)(fr:Nat×Nat),w.heap[b]? =iW (.cells cs e fr)->RL St G w s xs p i b o k->RoL Sc (wU xs) cs o k
 | [],_,_,_,_,_,_,_,_,_,_=>by have _:=gv;have _:=eA;have _:=eB;simp only[wU,RoL]
 |x::xs,p,i,b,o,k,cs,e,fr,hb,hr=>by
  simp only[RL,wU,RoL]at hr ⊢
  exact⟨frz x _ b o cs e fr hb hr.1.1 hr.2.1,yC7 xs p (i+1) b _ k cs e fr hb hr.2.2⟩
theorem zMn:(t:T)-> ∀(p:List Nat),t.single=iZ->R St G w s t p->RoC Sc (strip t) #[G.hd s p] 0
 |.agg _,_,h,_|.tup _,_,h,_=>by simp[T.single]at h
 |.any,p,_,_|.same _ _,p,_,_|.addr _ _,p,_,_|.sub _ _ _ _ _,p,_,_=>by simp only[strip,RoC];exact⟨_,by simp,gv s p⟩
 |.lit v,p,_,hr=>by simp only[strip,RoC,R]at hr ⊢;exact⟨by simp[hr],by rw[<-hr];exact gv s p⟩
 |.ro u,p,_,hr=>by
  simp only[strip,R]at hr ⊢
  split
  ·exact tJ eA u _ _ hr
  ·simp only[RoC];exact⟨_,by simp,gv s p⟩
 |.sl k xs,p,_,hr=>by
  simp only[strip,R,RoC]at hr ⊢
  rw[zAJ];rcases hr with⟨rfl,a,h1⟩|⟨b,o0,cap,cs,e,h1,h2,h3,h4,h5,h6,h7,h8⟩
  ·exact⟨a,0,by simp[h1],by simp,by simp[maxLen],fun h=>by simp[wU]at h⟩
  ·exact⟨iW ⟨b,o0,iY⟩,cap,by simp[h1],h3,h4,fun _=>⟨b,o0,cs,e,(0,0),rfl,by rw[eB b ⟨_,h6⟩];exact h2,yC7 xs p 0 b o0 k cs e (0,0) h2 h8⟩⟩
 |.ptr t,p,_,hr=>by
  simp only[strip,R,RoC]at hr ⊢
  obtain⟨b,cs,e,h1,h2,h3,h6,h4,h5⟩:=hr;exact⟨b,0,cs,e,(0,0),by simp[h1],by rw[eB b ⟨_,h6⟩];exact h2,frz t _ b 0 cs e (0,0) h2 h4 h5⟩
end
end
mutual
def clo(E:Env):T->T
 |.agg ts=>.agg (zCq E ts)
 |.lit v=>.lit v
 |.ro u=>.ro u
 |.same r q=>match jY E 4 r q with
  |some (_,_,.ro u)=>.ro u
  |some (_,_,.lit v)=>.lit v
  |some (_,_,t)=>if t.single then .ro (strip t)else .any
  |none=>.any
 |.sub r q k lo hi=>match jY E 4 r q with
  |some (_,_,.sl k' xs)=>if k=k'/\lo<=hi/\hi<=xs.length then .ro (.sl k (((wU xs).drop lo).take (hi-lo)))else .any
  |_=>.any
 |.sl k xs=>.ro (strip (.sl k xs))
 |.ptr t=>.ro (strip (.ptr t))
 |.any|.addr _ _|.tup _=>.any
def zCq(E:Env):List T->List T
 | []=>[]
 |x::xs=>clo E x::zCq E xs
end
mutual
def qN(E:Env)(rs:List Nat)(s:Nat):T->Bool
 |.agg ts=>zB7 E rs s ts
 |.same r q|.sub r q _ _ _=>match jY E 4 r q with
  |some (r',_,_)=> !rs.contains r'
  |none=>iZ
 |.sl _ _|.ptr _=> !rs.contains s
 |.lit _|.ro _|.any|.addr _ _=>iZ
 |.tup _=>ja
def zB7(E:Env)(rs:List Nat)(s:Nat):List T->Bool
 | []=>iZ
 |x::xs=>qN E rs s x&&zB7 E rs s xs
end
theorem zXv{St:Stb}{k:Nat}{xs:List T}{v:Value}{lo hi:Nat}(h:RoC St (.sl k xs) #[v] 0)(h1:lo<=hi)(h2:hi<=xs.length):RoC St (.sl k ((xs.drop lo).take (hi-lo))) #[zB3 v k lo hi] 0:=by
 simp only[RoC]at h ⊢
 obtain⟨a',c,g4,g5,g6,g7⟩:=h;have hv:v=.slice a' xs.length c:=by grind
 subst hv;have gn:((xs.drop lo).take (hi-lo)).length=hi-lo:=by simp;omega
 refine⟨if c=lo then a' else a'.map (·.add (lo*k)),c-lo,by grind[zB3],by omega,by omega,?_⟩;intro gk;have eM:xs≠[]:=by grind
 obtain⟨b,o',cs',e',fr,rfl,h3,h4⟩:=g7 eM;have gy:c≠lo:=by grind
 grind[uE,zHT,zHS]
section
variable {Γ:Ctx}{E:Env}{G Gc:Gh}{a:Act}{w:World}{Sc:Stb}{rs:List Nat}{s i:Nat} (gj:Rep Γ E G a.tmps w) (eA:∀b x,Γ.St b=iW x->Sc b=iW x) (eB:∀r,r∉rs-> ∀b,(∃y,G.ow b=iW (r,y))->Sc b=w.heap[b]?) (gO:∀z,Gc.hd i z=G.hd s z)
 include gj eA eB gO
mutual
theorem zZ8:(t:T)-> ∀(p:List Nat),qN E rs s t=iZ->R Γ.St G w s t p->R Sc Gc w i (clo E t) p
 |.agg ts,p,h,hr=>by simp only[qN,clo,R]at h hr ⊢;exact zTf ts p 0 h hr
 |.tup _,_,h,_=>by grind[qN]
 |.lit v,p,_,hr=>by simp only[clo,R]at hr ⊢;grind
 |.ro u,p,_,hr=>by simp only[clo,R]at hr ⊢;grind[tJ]
 |.any,_,_,_|.addr _ _,_,_,_=>by simp only[clo,R]
 |.sl k xs,p,h,hr=>by
  simp only[qN,Gj,H3,decide_eq_false_iff_not]at h;have:=zMn (fun s p=>gj.mem.one s p) eA (eB s h) (.sl k xs) p rfl hr;simp only[clo,R]
  grind
 |.ptr t,p,h,hr=>by
  simp only[qN,Gj,H3,decide_eq_false_iff_not]at h;have:=zMn (fun s p=>gj.mem.one s p) eA (eB s h) (.ptr t) p rfl hr;simp only[clo,R]
  grind
 |.same r q,p,h,hr=>by
  simp only[qN,clo,R]at h hr ⊢
  cases hf:jY E 4 r q with
  |none=>simp only[R]
  |some x=>
   obtain⟨r',q',t⟩:=x;simp only[hf,Gj,H3,decide_eq_false_iff_not]at h;obtain⟨h1,h2,_⟩:=zDY gj 4 r q r' q' t hf;have h3:Gc.hd i p=G.hd r' q':=by grind
   by_cases hs:t.single=iZ
   ·have h4:=zMn (fun s p=>gj.mem.one s p) eA (eB r' h) t q' hs h1
    cases t with
    |ro u=>simp only[R]at h1 ⊢;grind[tJ]
    |lit v=>simp only[R]at h1 ⊢;grind
    |agg _=>grind[T.single]
    |tup _=>grind[T.single]
    |_=>simp only[hs,if_true,R];grind
   ·cases t<;>simp[T.single]at hs<;>simp[T.single,R]
 |.sub r q k lo hi,p,h,hr=>by
  simp only[qN,clo,R]at h hr ⊢
  cases hf:jY E 4 r q with
  |none=>simp only[R]
  |some x=>
   obtain⟨r',q',t⟩:=x;simp only[hf,Gj,H3,decide_eq_false_iff_not]at h;obtain⟨h1,h2,_⟩:=zDY gj 4 r q r' q' t hf;cases t with
   |sl k' xs=>
    simp only[];split
    ·rename_i hc
     obtain⟨rfl,fA,fy⟩:=hc;have h4:=zMn (fun s p=>gj.mem.one s p) eA (eB r' h) (.sl k xs) q' rfl h1;simp only[strip]at h4;simp only[R]
     grind[zXv,zAJ]
    ·simp only[R]
   |_=>simp only[R]
theorem zTf:(ts:List T)-> ∀(p:List Nat)(j:Nat),zB7 E rs s ts=iZ->RF Γ.St G w s ts p j->RF Sc Gc w i (zCq E ts) p j
 | [],_,_,_,_=>by have _:=gj;have _:=eA;have _:=eB;have _:=gO;simp only[zCq,RF]
 |x::xs,p,j,h,hr=>by
  simp only[zB7,J3,zCq,RF]at h hr ⊢
  exact⟨zZ8 x _ h.1 hr.1,zTf xs p (j+1) h.2 hr.2⟩
end
end
section
variable {E:Env}{G Gc:Gh}{rs:List Nat}{s i:Nat}
theorem zIi(t:T)(h:t.single=iZ):(clo E t).single=iZ:=by cases t<;>simp[T.single]at h<;>simp only[clo]<;>first|rfl|(split<;>first|rfl|(split<;>rfl))
mutual
theorem zTg(gO:∀z,Gc.hd i z=G.hd s z):(t:T)-> ∀(p:List Nat),qN E rs s t=iZ->vals Gc i (clo E t) p=vals G s t p
 |.agg ts,p,h=>by simp only[qN,clo,vals]at h ⊢;exact zGm gO ts p 0 h
 |.tup _,_,h=>by grind[qN]
 |.lit _,p,_|.ro _,p,_|.any,p,_|.addr _ _,p,_|.sl _ _,p,_|.ptr _,p,_|.same _ _,p,_|.sub _ _ _ _ _,p,_=>by
  have h1:∀u:T,u.single=iZ->vals Gc i u p=[G.hd s p]:=fun u hu=>by cases u<;>simp[T.single]at hu<;>simp[vals,gO]
  rw[h1 _ (zIi _ rfl)];simp[vals]
theorem zGm(gO:∀z,Gc.hd i z=G.hd s z):(ts:List T)-> ∀(p:List Nat)(j:Nat),zB7 E rs s ts=iZ->yH Gc i (zCq E ts) p j=yH G s ts p j
 | [],_,_,_=>by rfl
 |x::xs,p,j,h=>by simp only[zB7,J3]at h;simp only[zCq,yH];rw[zTg gO x _ h.1,zGm gO xs p _ h.2]
end
theorem zKS(gO:∀z,Gc.hd i z=G.hd s z)(t:T)(h:qN E rs s t=iZ):mkV Gc i (clo E t) []=mkV G s t []:=by
 cases t with
 |agg ts=>grind[qN,clo,mkV,zGm]
 |tup _=>grind[qN]
 |_=>rw[xS (zIi _ rfl),xS rfl,gO]
end
end Go.Ab
