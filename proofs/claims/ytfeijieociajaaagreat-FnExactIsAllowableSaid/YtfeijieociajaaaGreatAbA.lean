/- The program's IsAllowable returns what the reference's returns,for all arguments;no conditions. -/
import Derived.Orders
import Derived.Laws.AppendOwn
import Derived.Laws.MakeOwn
import Derived.Great.BuildSlice
import Derived.Laws.Tables
open List renaming replicate→J1,length_append→J5,length_cons→J7,mem_cons→J9,mem_append→Ja,mem_map→Jc,append_assoc→Jg,append_nil→Jh,getElem?_append_right→Jk,length_replicate→Jl,getElem?_eq_some_iff→Jm,length_nil→Jt,map_cons→Ju,replicate_succ→Jv,getElem?_map→Jw,getElem?_append_left→Jy,nil_append→K0,cons_append→K9,length_take→Ke,eq_nil_of_length_eq_zero→Kf,reverse_reverse→Ki,all_eq_true→Kj,flatMap_cons→Kr,getElem?_append→Ks,ext_getElem?→L4,take_succ_cons→L5,nodup_cons→La,map_nil→Le,set_cons_succ→Lg,mem_range→Lj,set_cons_zero→Ls,mem_of_getElem?→Lu,getElem?_drop→Ly,contains_eq_mem→H9,length_set→Hf,drop_eq_getElem_cons→Hq,reverse_nil→Hw,reverse_cons→G8,not_mem_nil→G9,getElem?_take_of_lt→Gx,flatMap_append→U4,foldl_cons→Ug,map_take→Uw,cons→Qd,reverse_append→Qu,take_append→Ja9,isEmpty_iff→Jab,map_toArray→Jay,getElem?_cons_succ→Jb9,take_append_drop→Jbl,size_toArray→Jbm
open Bool renaming and_eq_true->J4,false_eq_true->Hs,not_eq_true'->Gv,true_and->Qs,false_and->Jal
open Int renaming toNat_natCast->J8,natCast_mul->Up
open Nat renaming le_refl->Je,zero_add->Ji,lt_or_ge->Jo,mul_le_mul->Jr,succ_mul->K8,mul_le_mul_right->Kc,le_trans->H8,add_assoc->Ha,mod_lt->Hu,add_mul->Hv,add_zero->Um,lt_of_lt_of_le->Ja4,le_mul_of_pos_right->Jau
open Array renaming getElem?_setIfInBounds->Jj,length_toList->Km,getD_eq_getD_getElem?->Kn,getElem?_toList->Kx,getElem?_eq_some_iff->H7,range->Jb1,ext'->Jbc
open Option renaming isSome_none->Ue,map_none->Jac
open Prod renaming mk->Jah
open Option renaming some->jf,none->jg
open Bool renaming true->jh,false->ji
theorem jj{p:Prop}[h:Decidable p](a:¬p):decide p=false:=decide_eq_false a
theorem jk{p:Prop}[h:Decidable p](a:p:=by omega):decide p=true:=decide_eq_true a
namespace Go.Ab
variable {i k r d:Nat}{x:Operand}{f q:List Nat}{w':World}{a:Act}{tmps:Array Value}{ti:TypeInfo}{e t2 ty:TypeId}{z xv:Value}
theorem Q0{p:Prop}(h:p:=by repeat (first|exact trivial|refine⟨rfl,?_⟩)):p:=h
theorem Q2{p:Prop}(h:p:=by first|exact cq|fail):p:=h
theorem Q4{p:Prop}(h:p:=by repeat (first|exact trivial|refine⟨by first|exact Top.of_clean _ (Enc.clean _)|simp[Top,uK],?_⟩)):p:=h
open Go
inductive T where
 |any
 |lit (v:Value)
 |ro (t:T)
 |same (r:Nat) (p:List Nat)
 |addr (r:Nat) (p:List Nat)
 |sub (r:Nat) (p:List Nat) (k lo hi:Nat)
 |sl (k:Nat) (xs:List T)
 |agg (xs:List T)
 |ptr (t:T)
 |tup (xs:List T)
 deriving Inhabited
variable {xs:List T}{u:T}
abbrev Stb:=Nat->Option Obj
variable {St:Stb}
mutual
def T.size:T->Nat
 |.agg xs=>T.sizes xs
 |_=>1
def T.sizes:List T->Nat
 | []=>0
 |x::xs=>x.size+T.sizes xs
end
mutual
def RoC(St:Stb):T->Array Value->Nat->Prop
 |.any,cs,o=> ∃v,cs[o]? =jf v/\v.oneCell'=jh
 |.lit v,cs,o=>cs[o]? =jf v/\v.oneCell'=jh
 |.ro u,cs,o=> ∃f vs,cs[o]? =jf (.func (.func f) #[] vs)/\vs.size+1=u.size/\RoC St u (#[.func (.func f) #[] #[]]++vs) 0
 |.sl k xs,cs,o=> ∃a c,cs[o]? =jf (.slice a xs.length c)/\xs.length<=c/\c<=maxLen/\
   (xs≠[]-> ∃b o' cs' e fr,a=jf ⟨b,o',jg⟩/\St b=jf (.cells cs' e fr)/\RoL St xs cs' o' k)
 |.agg xs,cs,o=>RoF St xs cs o
 |.ptr t,cs,o=> ∃b o' cs' e fr,cs[o]? =jf (.pointer (jf ⟨b,o',jg⟩))/\St b=jf (.cells cs' e fr)/\RoC St t cs' o'
 |.same _ _,_,_=>False
 |.addr _ _,_,_=>False
 |.sub _ _ _ _ _,_,_=>False
 |.tup _,_,_=>False
def RoL(St:Stb):List T->Array Value->Nat->Nat->Prop
 | [],_,_,_=>True
 |x::xs,cs,o,k=>RoC St x cs o/\RoL St xs cs (o+k) k
def RoF(St:Stb):List T->Array Value->Nat->Prop
 | [],_,_=>True
 |x::xs,cs,o=>RoC St x cs o/\RoF St xs cs (o+x.size)
end
structure Gh where
 hd:Nat->List Nat->Value
 ad:Nat->List Nat->Addr
 lb:Nat->Nat->Option (Bool×Nat×List Nat)
 ow:Nat->Option (Nat×List Nat)
variable {G G':Gh}
def yN(w:World)(b o:Nat):Option Value:=w.cell? ⟨b,o,jg⟩
mutual
def Loc(G:Gh)(w:World)(s:Nat):T->List Nat->Nat->Nat->Prop
 |.agg xs,p,b,o=>G.ad s p=⟨b,o,jg⟩/\vQ G w s xs p 0 b o
 |.tup _,_,_,_=>False
 |.any,p,b,o|.lit _,p,b,o|.ro _,p,b,o|.same _ _,p,b,o|.addr _ _,p,b,o|.sub _ _ _ _ _,p,b,o|.sl _ _,p,b,o|.ptr _,p,b,o=>
  G.ad s p=⟨b,o,jg⟩/\G.lb b o=jf (ji,s,p)/\yN w b o=jf (G.hd s p)
def vQ(G:Gh)(w:World)(s:Nat):List T->List Nat->Nat->Nat->Nat->Prop
 | [],_,_,_,_=>True
 |x::xs,p,j,b,o=>Loc G w s x (j::p) b o/\vQ G w s xs p (j+1) b (o+x.size)
end
def zAU(v:Value)(k lo hi:Nat):Value:=
 match v with
 |.slice a _ c=>.slice (if c=lo then a else a.map (·.add (lo*k))) (hi-lo) (c-lo)
 |v=>v
mutual
def R(St:Stb)(G:Gh)(w:World)(s:Nat):T->List Nat->Prop
 |.any,_=>True
 |.lit v,p=>G.hd s p=v
 |.ro t,p=>RoC St t #[G.hd s p] 0
 |.same r q,p=>G.hd s p=G.hd r q
 |.addr r q,p=>G.hd s p=.pointer (jf (G.ad r q))
 |.sub r q k lo hi,p=>G.hd s p=zAU (G.hd r q) k lo hi
 |.sl k xs,p=>(xs=[]/\ ∃a,G.hd s p=.slice a 0 0)\/ ∃b o0 cap cs e,G.hd s p=.slice (jf ⟨b,o0,jg⟩) xs.length cap/\
   w.heap[b]? =jf (.cells cs e (0,0))/\xs.length<=cap/\cap<=maxLen/\o0+cap*k<=cs.size/\G.ow b=jf (s,p)/\
   (∀o,o0+xs.length*k<=o->o<o0+cap*k->G.lb b o=jf (jh,s,p))/\RL St G w s xs p 0 b o0 k
 |.agg xs,p=>RF St G w s xs p 0
 |.ptr t,p=> ∃b cs e,G.hd s p=.pointer (jf ⟨b,0,jg⟩)/\w.heap[b]? =jf (.cells cs e (0,0))/\cs.size=t.size/\G.ow b=jf (s,p)/\
   Loc G w s t (0::p) b 0/\R St G w s t (0::p)
 |.tup xs,p=>RF St G w s xs p 0
def RL(St:Stb)(G:Gh)(w:World)(s:Nat):List T->List Nat->Nat->Nat->Nat->Nat->Prop
 | [],_,_,_,_,_=>True
 |x::xs,p,i,b,o,k=>(Loc G w s x (i::p) b o/\x.size=k)/\R St G w s x (i::p)/\RL St G w s xs p (i+1) b (o+k) k
def RF(St:Stb)(G:Gh)(w:World)(s:Nat):List T->List Nat->Nat->Prop
 | [],_,_=>True
 |x::xs,p,j=>R St G w s x (j::p)/\RF St G w s xs p (j+1)
end
mutual
def yU(φ:Nat->List Nat->Prop):T->Prop
 |.same r p|.addr r p|.sub r p _ _ _=>φ r p
 |.sl _ xs|.agg xs|.tup xs=>xP φ xs
 |.ptr t=>yU φ t
 |.any|.lit _|.ro _=>True
def xP(φ:Nat->List Nat->Prop):List T->Prop
 | []=>True
 |x::xs=>yU φ x/\xP φ xs
end
mutual
theorem yU.mono{φ ψ:Nat->List Nat->Prop}(h:∀r p,φ r p->ψ r p):(t:T)->yU φ t->yU ψ t
 |.same _ _,ht|.addr _ _,ht|.sub _ _ _ _ _,ht=>h _ _ ht
 |.sl _ xs,ht|.agg xs,ht|.tup xs,ht=>by simp only[yU]at ht ⊢;exact xP.mono h xs ht
 |.ptr t,ht=>by simp only[yU]at ht ⊢;exact yU.mono h t ht
 |.any,_|.lit _,_|.ro _,_=>by simp[yU]
theorem xP.mono{φ ψ:Nat->List Nat->Prop}(h:∀r p,φ r p->ψ r p):(xs:List T)->xP φ xs->xP ψ xs
 | [],_=>trivial
 |x::xs,hx=>⟨yU.mono h x hx.1,xP.mono h xs hx.2⟩
end
mutual
theorem yU.triv{φ:Nat->List Nat->Prop}(h:∀r p,φ r p):(t:T)->yU φ t
 |.same _ _|.addr _ _|.sub _ _ _ _ _=>by simp only[yU];exact h _ _
 |.sl _ xs|.agg xs|.tup xs=>by simp only[yU];exact xP.triv h xs
 |.ptr t=>by simp only[yU];exact yU.triv h t
 |.any|.lit _|.ro _=>by simp only[yU]
theorem xP.triv{φ:Nat->List Nat->Prop}(h:∀r p,φ r p):(xs:List T)->xP φ xs
 | []=>by simp only[xP]
 |x::xs=>by simp only[xP];exact⟨yU.triv h x,xP.triv h xs⟩
end
abbrev zZ(t:T):Prop:=yU (fun _ _=>False) t
abbrev yZ(xs:List T):Prop:=xP (fun _ _=>False) xs
def Blk(w w':World):Prop:=∀(b:Nat) cs e,w.heap[b]? =jf (.cells cs e (0,0))-> ∃cs',w'.heap[b]? =jf (.cells cs' e (0,0))/\cs'.size=cs.size
structure MovesE (G:Gh) (w:World) (G':Gh) (w':World) (s:Nat) (p:List Nat) (s':Nat) (p':List Nat):Prop where
 hd:∀z,G'.hd s' (z++p')=G.hd s (z++p)
 ad:∀z,z≠[]->G'.ad s' (z++p')=G.ad s (z++p)
 lb:∀b o f z,z≠[]->(∃y,G.ow b=jf (s,y))->G.lb b o=jf (f,s,z++p)->G'.lb b o=jf (f,s',z++p')/\yN w' b o=yN w b o
 ow:∀b z,z≠[]->G.ow b=jf (s,z++p)->G'.ow b=jf (s',z++p')
 blk:Blk w w'
structure zGR (G:Gh) (w:World) (G':Gh) (w':World) (s:Nat) (p:List Nat) (s':Nat) (p':List Nat):Prop extends MovesE G w G' w' s p s' p' where
 sp:∀b o,(∃y,G.ow b=jf (s,y))->G.lb b o=jf (jh,s,p)->G'.lb b o=jf (jh,s',p')/\yN w' b o=yN w b o
 ow0:∀b,G.ow b=jf (s,p)->G'.ow b=jf (s',p')
def kT(G G':Gh)(r:Nat)(p:List Nat):Prop:=G'.hd r p=G.hd r p/\G'.ad r p=G.ad r p
section
variable {St:Stb}{G:Gh}{w:World}{G':Gh}{w':World}{s:Nat}{p:List Nat}{s':Nat}{p':List Nat}
mutual
theorem zEf(hm:MovesE G w G' w' s p s' p'):(t:T)-> ∀(z:List Nat)(b o:Nat),z≠[]->(∃y,G.ow b=jf (s,y))->Loc G w s t (z++p) b o->Loc G' w' s' t (z++p') b o
 |.agg xs,z,b,o,hz,gV,h=>by
  simp only[Loc]at h ⊢
  exact⟨(hm.ad z hz).trans h.1,zIY hm xs z 0 b o gV h.2⟩
 |.any,z,b,o,hz,gV,h|.lit _,z,b,o,hz,gV,h|.ro _,z,b,o,hz,gV,h|.same _ _,z,b,o,hz,gV,h|.addr _ _,z,b,o,hz,gV,h|.sub _ _ _ _ _,z,b,o,hz,gV,h|.sl _ _,z,b,o,hz,gV,h|.ptr _,z,b,o,hz,gV,h=>by
  simp only[Loc]at h ⊢
  obtain⟨h1,h2,h3⟩:=h;have hl:=hm.lb b o ji z hz gV h2;exact⟨(hm.ad z hz).trans h1,hl.1,by rw[hl.2,h3,hm.hd]⟩
 |.tup _,_,_,_,_,_,h=>by simp only[Loc]at h
theorem zIY(hm:MovesE G w G' w' s p s' p'):(xs:List T)-> ∀(z:List Nat)(j b o:Nat),(∃y,G.ow b=jf (s,y))->vQ G w s xs (z++p) j b o->vQ G' w' s' xs (z++p') j b o
 | [],_,_,_,_,_,_=>by simp only[vQ]
 |x::xs,z,j,b,o,gV,h=>by
  simp only[vQ]at h ⊢
  exact⟨zEf hm x (j::z) b o (by simp) gV h.1,zIY hm xs z (j+1) b _ gV h.2⟩
end
mutual
theorem zEg(hm:MovesE G w G' w' s p s' p'):(t:T)-> ∀(z:List Nat),z≠[]->yU (kT G G') t->R St G w s t (z++p)->R St G' w' s' t (z++p')
 |.any,_,_,_,_=>by simp only[R]
 |.lit _,z,_,_,h=>by simp only[R]at h ⊢;rw[hm.hd];exact h
 |.ro _,z,_,_,h=>by simp only[R]at h ⊢;rw[hm.hd];exact h
 |.same r q,z,_,hk,h=>by simp only[R]at h ⊢;rw[hm.hd,hk.1];exact h
 |.addr r q,z,_,hk,h=>by simp only[R]at h ⊢;rw[hm.hd,hk.2];exact h
 |.sub r q k lo hi,z,_,hk,h=>by simp only[R]at h ⊢;rw[hm.hd,hk.1];exact h
 |.agg xs,z,_,hk,h=>by simp only[R,yU]at h hk ⊢;exact zEh hm xs z 0 hk h
 |.tup xs,z,_,hk,h=>by simp only[R,yU]at h hk ⊢;exact zEh hm xs z 0 hk h
 |.sl k xs,z,hz,hk,h=>by
  simp only[R,yU]at h hk ⊢
  rw[hm.hd];rcases h with h|⟨b,o0,cap,cs,e,h1,h2,h3,h4,h5,h6,h7,h8⟩
  ·exact .inl h
  ·obtain⟨cs',fO,gr⟩:=hm.blk b cs e h2
   exact .inr ⟨b,o0,cap,cs',e,h1,fO,h3,h4,by omega,hm.ow b z hz h6,fun o ho cG=>(hm.lb b o jh z hz ⟨_,h6⟩ (h7 o ho (by omega))).1,zKe hm xs z 0 b o0 k ⟨_,h6⟩ hk h8⟩
 |.ptr t,z,hz,hk,h=>by
  simp only[R,yU]at h hk ⊢
  rw[hm.hd];obtain⟨b,cs,e,h1,h2,h3,h6,h4,h5⟩:=h;obtain⟨cs',fO,gr⟩:=hm.blk b cs e h2;exact⟨b,cs',e,h1,fO,by omega,hm.ow b z hz h6,zEf hm t (0::z) b 0 (by simp) ⟨_,h6⟩ h4,zEg hm t (0::z) (by simp) hk h5⟩
theorem zKe(hm:MovesE G w G' w' s p s' p'):(xs:List T)-> ∀(z:List Nat)(i b o k:Nat),(∃y,G.ow b=jf (s,y))->xP (kT G G') xs->RL St G w s xs (z++p) i b o k->RL St G' w' s' xs (z++p') i b o k
 | [],_,_,_,_,_,_,_,_=>by simp only[RL]
 |x::xs,z,i,b,o,k,gV,hk,h=>by
  simp only[RL,xP]at h hk ⊢
  exact⟨⟨zEf hm x (i::z) b o (by simp) gV h.1.1,h.1.2⟩,zEg hm x (i::z) (by simp) hk.1 h.2.1,zKe hm xs z (i+1) b _ k gV hk.2 h.2.2⟩
theorem zEh(hm:MovesE G w G' w' s p s' p'):(xs:List T)-> ∀(z:List Nat)(j:Nat),xP (kT G G') xs->RF St G w s xs (z++p) j->RF St G' w' s' xs (z++p') j
 | [],_,_,_,_=>by simp only[RF]
 |x::xs,z,j,hk,h=>by
  simp only[RF,xP]at h hk ⊢
  exact⟨zEg hm x (j::z) (by simp) hk.1 h.1,zEh hm xs z (j+1) hk.2 h.2⟩
end
theorem jP(hm:zGR G w G' w' s p s' p')(t:T)(hk:yU (kT G G') t)(h:R St G w s t p):R St G' w' s' t p':=by
 have hd0:G'.hd s' p'=G.hd s p:=by simpa using hm.hd []
 cases t with
 |any=>simp only[R]
 |lit _=>simp only[R]at h ⊢;rw[hd0];exact h
 |ro _=>simp only[R]at h ⊢;rw[hd0];exact h
 |same r q=>simp only[R]at h ⊢;rw[hd0,hk.1];exact h
 |addr r q=>simp only[R]at h ⊢;rw[hd0,hk.2];exact h
 |sub r q k lo hi=>simp only[R]at h ⊢;rw[hd0,hk.1];exact h
 |agg xs=>simp only[R,yU]at h hk ⊢;simpa using zEh hm.toMovesE xs [] 0 hk (by simpa using h)
 |tup xs=>simp only[R,yU]at h hk ⊢;simpa using zEh hm.toMovesE xs [] 0 hk (by simpa using h)
 |sl k xs=>
  simp only[R,yU]at h hk ⊢
  rw[hd0];rcases h with h|⟨b,o0,cap,cs,e,h1,h2,h3,h4,h5,h6,h7,h8⟩
  ·exact .inl h
  ·obtain⟨cs',fO,gr⟩:=hm.blk b cs e h2
   exact .inr ⟨b,o0,cap,cs',e,h1,fO,h3,h4,by omega,hm.ow0 b h6,fun o ho cG=>(hm.sp b o ⟨_,h6⟩ (h7 o ho (by omega))).1,by simpa using zKe hm.toMovesE xs [] 0 b o0 k ⟨_,h6⟩ hk (by simpa using h8)⟩
 |ptr t=>
  simp only[R,yU]at h hk ⊢
  rw[hd0];obtain⟨b,cs,e,h1,h2,h3,h6,h4,h5⟩:=h;obtain⟨cs',fO,gr⟩:=hm.blk b cs e h2;exact⟨b,cs',e,h1,fO,by omega,hm.ow0 b h6,zEf hm.toMovesE t [0] b 0 (by simp) ⟨_,h6⟩ h4,zEg hm.toMovesE t [0] (by simp) hk h5⟩
theorem zTw(hm:zGR G w G' w' s p s' p')(t:T)(z:List Nat)(hk:yU (kT G G') t)(h:R St G w s t (z++p)):R St G' w' s' t (z++p'):=by
 cases z with
 |nil=>exact jP hm t hk h
 |cons i z=>exact zEg hm.toMovesE t (i::z) (by simp) hk h
end
def T.get:T->List Nat->Option T
 |t,[]=>jf t
 |.sl _ xs,i::f|.agg xs,i::f|.tup xs,i::f=>match xs[i]? with
  |some x=>x.get f
  |none=>jg
 |.ptr t,i::f=>if i=0 then t.get f else jg
 |.any,_::_|.lit _,_::_|.ro _,_::_|.same _ _,_::_|.addr _ _,_::_|.sub _ _ _ _ _,_::_=>jg
termination_by structural _ f=>f
def T.set:T->List Nat->T->T
 |_,[],u=>u
 |.sl k xs,i::f,u=>match xs[i]? with
  |some x=>.sl k (xs.set i (x.set f u))
  |none=>.sl k xs
 |.agg xs,i::f,u=>match xs[i]? with
  |some x=>.agg (xs.set i (x.set f u))
  |none=>.agg xs
 |.tup xs,i::f,u=>match xs[i]? with
  |some x=>.tup (xs.set i (x.set f u))
  |none=>.tup xs
 |.ptr t,i::f,u=>if i=0 then .ptr (t.set f u)else .ptr t
 |.any,_::_,_=>.any
 |.lit v,_::_,_=>.lit v
 |.ro t,_::_,_=>.ro t
 |.same r q,_::_,_=>.same r q
 |.addr r q,_::_,_=>.addr r q
 |.sub r q k lo hi,_::_,_=>.sub r q k lo hi
termination_by structural _ f _=>f
def T.locd:T->List Nat->Bool
 |_,[]=>ji
 |.sl _ _,_::_|.ptr _,_::_=>jh
 |.agg xs,i::f|.tup xs,i::f=>match xs[i]? with
  |some x=>x.locd f
  |none=>ji
 |.any,_::_|.lit _,_::_|.ro _,_::_|.same _ _,_::_|.addr _ _,_::_|.sub _ _ _ _ _,_::_=>ji
termination_by structural _ f=>f
abbrev rp(f p:List Nat):List Nat:=f.reverse++p
theorem zA2(i:Nat)(f p:List Nat):rp (i::f) p=rp f (i::p):=by simp[rp]
section
variable {St:Stb}{G:Gh}{w:World}{s:Nat}
theorem sV:(xs:List T)-> ∀(p:List Nat)(i0 b o k i:Nat)(x:T),RL St G w s xs p i0 b o k->xs[i]? =jf x->
  Loc G w s x ((i0+i)::p) b (o+i*k)/\x.size=k/\R St G w s x ((i0+i)::p)
 | [],_,_,_,_,_,_,_,_,h=>by simp at h
 |y::ys,p,i0,b,o,k,i,x,hr,h=>by
  simp only[RL]at hr;cases i with
  |zero=>
   simp at h;subst h;simpa using⟨hr.1.1,hr.1.2,hr.2.1⟩
  |succ i=>
   have:=sV ys p (i0+1) b (o+k) k i x hr.2.2 (by simpa using h);rw[show i0+(i+1)=i0+1+i from by omega,show o+(i+1)*k=o+k+i*k from by rw[K8];omega];exact this
theorem zAL:(xs:List T)-> ∀(p:List Nat)(j i:Nat)(x:T),RF St G w s xs p j->xs[i]? =jf x->R St G w s x ((j+i)::p)
 | [],_,_,_,_,_,h=>by simp at h
 |y::ys,p,j,i,x,hr,h=>by
  simp only[RF]at hr;cases i with
  |zero=>simp at h;subst h;simpa using hr.1
  |succ i=>
   have:=zAL ys p (j+1) i x hr.2 (by simpa using h)
   rwa [show j+(i+1)=j+1+i from by omega]
theorem zL3:(xs:List T)-> ∀(p:List Nat)(j b o i:Nat)(x:T),vQ G w s xs p j b o->xs[i]? =jf x->
  ∃o',Loc G w s x ((j+i)::p) b o'/\o<=o'/\o'+x.size<=o+T.sizes xs
 | [],_,_,_,_,_,_,_,h=>by simp at h
 |y::ys,p,j,b,o,i,x,hr,h=>by
  simp only[vQ]at hr;cases i with
  |zero=>simp at h;subst h;exact⟨o,by simpa using hr.1,by omega,by simp[T.sizes]⟩
  |succ i=>
   obtain⟨o',h1,h2,h3⟩:=zL3 ys p (j+1) b (o+y.size) i x hr.2 (by simpa using h);refine⟨o',?_,by omega,by simp only[T.sizes];omega⟩
   rwa [show j+(i+1)=j+1+i from by omega]
def At(G:Gh)(w:World)(s:Nat)(t:T)(p:List Nat):Prop:=
 ∃b o cs e,Loc G w s t p b o/\w.heap[b]? =jf (.cells cs e (0,0))/\o+t.size<=cs.size
theorem At.field{p:List Nat}(h:At G w s (.agg xs) p){x:T}(hx:xs[i]? =jf x):At G w s x (i::p):=by obtain⟨b,o,cs,e,hl,hh,hs⟩:=h;simp only[Loc]at hl;obtain⟨o',h1,h2,h3⟩:=zL3 xs p 0 b o i x hl.2 hx;simp only[T.size]at hs;exact⟨b,o',cs,e,by simpa using h1,hh,by omega⟩
theorem zCJ{p:List Nat}(h:R St G w s (.sl k xs) p){x:T}(hx:xs[i]? =jf x):
  At G w s x (i::p)/\R St G w s x (i::p):=by
 simp only[R]at h;have hi:=(Jm.1 hx).1;rcases h with⟨rfl,_⟩|⟨b,o0,cap,cs,e,h1,h2,h3,h4,h5,h6,h7,h8⟩
 ·simp at hx
 ·obtain⟨a1,a2,a3⟩:=sV xs p 0 b o0 k i x h8 hx
  simp only[Ji]at a1 a3;refine⟨⟨b,o0+i*k,cs,e,a1,h2,?_⟩,a3⟩;rw[a2,Ha,<-K8];exact H8 (Nat.add_le_add_left (Kc _ (by omega)) _) h5
theorem zAV{t:T}{p:List Nat}(h:R St G w s (.ptr t) p):At G w s t (0::p)/\R St G w s t (0::p):=by simp only[R]at h;obtain⟨b,cs,e,h1,h2,h3,h6,h4,h5⟩:=h;exact⟨⟨b,0,cs,e,h4,h2,by omega⟩,h5⟩
theorem zAj:(f:List Nat)-> ∀(t u:T)(p:List Nat),At G w s t p->R St G w s t p->t.get f=jf u->At G w s u (rp f p)/\R St G w s u (rp f p)
 | [],t,u,p,ha,h,hg=>by simp[T.get]at hg;subst hg;simpa[rp]using⟨ha,h⟩
 |i::f,t,u,p,ha,h,hg=>by
  rw[zA2];cases t with
  |sl k xs=>
   simp only[T.get]at hg;cases hx:xs[i]? with
   |none=>simp[hx]at hg
   |some x=>rw[hx]at hg;exact zAj f x u _ (zCJ h hx).1 (zCJ h hx).2 hg
  |ptr t=>
   simp only[T.get]at hg;split at hg
   ·rename_i hi;subst hi;exact zAj f t u _ (zAV h).1 (zAV h).2 hg
   ·cases hg
  |agg xs=>
   simp only[T.get]at hg;cases hx:xs[i]? with
   |none=>simp[hx]at hg
   |some x=>rw[hx]at hg;exact zAj f x u _ (ha.field hx) (by simp only[R]at h;simpa using zAL xs p 0 i x h hx) hg
  |tup xs=>obtain⟨b,o,cs,e,hl,_⟩:=ha;simp only[Loc]at hl
  |_=>simp[T.get]at hg
theorem zA3:(f:List Nat)-> ∀(t u:T)(p:List Nat),R St G w s t p->t.get f=jf u->R St G w s u (rp f p)/\(t.locd f=jh->At G w s u (rp f p))
 | [],t,u,p,h,hg=>by simp[T.get]at hg;subst hg;simpa[rp,T.locd]using h
 |i::f,t,u,p,h,hg=>by
  rw[zA2];cases t with
  |sl k xs=>
   simp only[T.get]at hg;cases hx:xs[i]? with
   |none=>simp[hx]at hg
   |some x=>rw[hx]at hg;exact⟨(zAj f x u _ (zCJ h hx).1 (zCJ h hx).2 hg).2,fun _=>(zAj f x u _ (zCJ h hx).1 (zCJ h hx).2 hg).1⟩
  |ptr t=>
   simp only[T.get]at hg;split at hg
   ·rename_i hi;subst hi;exact⟨(zAj f t u _ (zAV h).1 (zAV h).2 hg).2,fun _=>(zAj f t u _ (zAV h).1 (zAV h).2 hg).1⟩
   ·cases hg
  |agg xs=>
   simp only[T.get,T.locd]at hg ⊢
   cases hx:xs[i]? with
   |none=>simp[hx]at hg
   |some x=>rw[hx]at hg;exact zA3 f x u _ (by simp only[R]at h;simpa using zAL xs p 0 i x h hx) hg
  |tup xs=>
   simp only[T.get,T.locd]at hg ⊢
   cases hx:xs[i]? with
   |none=>simp[hx]at hg
   |some x=>rw[hx]at hg;exact zA3 f x u _ (by simp only[R]at h;simpa using zAL xs p 0 i x h hx) hg
  |_=>simp[T.get]at hg
end
structure Upd (G:Gh) (w:World) (G':Gh) (w':World) (s:Nat) (tgt:List Nat):Prop where
 hd:∀p,¬tgt<:+p->G'.hd s p=G.hd s p
 ad:∀p,¬tgt<:+p->G'.ad s p=G.ad s p
 lb:∀b o f p,G.lb b o=jf (f,s,p)-> ¬tgt<:+p->G'.lb b o=jf (f,s,p)/\yN w' b o=yN w b o
 ow:∀b p,G.ow b=jf (s,p)-> ¬tgt<:+p->G'.ow b=jf (s,p)
 blk:Blk w w'
section
variable {St:Stb}{G:Gh}{w:World}{G':Gh}{w':World}{s:Nat}{tgt:List Nat}
theorem Upd.moves(h:Upd G w G' w' s tgt){p:List Nat}(hp:∀z,¬tgt<:+z++p):zGR G w G' w' s p s p where
 hd z:=h.hd _ (hp z)
 ad z _:=h.ad _ (hp z)
 lb b o f z _ _ hl:=h.lb b o f _ hl (hp z)
 ow b z _ hl:=h.ow b _ hl (hp z)
 sp b o _ hl:=h.lb b o jh p hl (hp [])
 ow0 b hl:=h.ow b p hl (hp [])
 blk:=h.blk
mutual
theorem zEi(hm:Upd G w G' w' s tgt):(t:T)-> ∀(p:List Nat)(b o:Nat),(∀z,¬tgt<:+z++p)->Loc G w s t p b o->Loc G' w' s t p b o
 |.agg xs,p,b,o,hz,h=>by
  simp only[Loc]at h ⊢
  exact⟨(hm.ad p (hz [])).trans h.1,zL4 hm xs p 0 b o hz h.2⟩
 |.any,p,b,o,hz,h|.lit _,p,b,o,hz,h|.ro _,p,b,o,hz,h|.same _ _,p,b,o,hz,h|.addr _ _,p,b,o,hz,h|.sub _ _ _ _ _,p,b,o,hz,h|.sl _ _,p,b,o,hz,h|.ptr _,p,b,o,hz,h=>by
  simp only[Loc]at h ⊢
  obtain⟨h1,h2,h3⟩:=h;have hl:=hm.lb b o ji p h2 (hz []);exact⟨(hm.ad p (hz [])).trans h1,hl.1,by rw[hl.2,h3,hm.hd p (hz [])]⟩
 |.tup _,_,_,_,_,h=>by simp only[Loc]at h
theorem zL4(hm:Upd G w G' w' s tgt):(xs:List T)-> ∀(p:List Nat)(j b o:Nat),(∀z,¬tgt<:+z++p)->vQ G w s xs p j b o->vQ G' w' s xs p j b o
 | [],_,_,_,_,_,_=>by simp only[vQ]
 |x::xs,p,j,b,o,hz,h=>by
  simp only[vQ]at h ⊢
  exact⟨zEi hm x (j::p) b o (fun z=>by have:=hz (z++[j]);simpa using this) h.1,zL4 hm xs p (j+1) b _ hz h.2⟩
end
theorem zL5(hm:Upd G w G' w' s tgt)(t u:T)(p:List Nat)(b o:Nat)(ht:∀xs,t≠.agg xs)(hu:∀xs,u≠.agg xs)(fq:∀xs,u≠.tup xs)(hz:¬tgt<:+p)(h:Loc G w s t p b o):Loc G' w' s u p b o:=by
 have h3:G.ad s p=⟨b,o,jg⟩/\G.lb b o=jf (ji,s,p)/\yN w b o=jf (G.hd s p):=by
  cases t with
  |agg xs=>exact absurd rfl (ht xs)
  |tup xs=>simp only[Loc]at h
  |_=>simpa only[Loc]using h
 obtain⟨h1,h2,h3⟩:=h3;have hl:=hm.lb b o ji p h2 hz;have h4:G'.ad s p=⟨b,o,jg⟩/\G'.lb b o=jf (ji,s,p)/\yN w' b o=jf (G'.hd s p):=⟨(hm.ad p hz).trans h1,hl.1,by rw[hl.2,h3,hm.hd p hz]⟩;cases u with
 |agg xs=>exact absurd rfl (hu xs)
 |tup xs=>exact absurd rfl (fq xs)
 |_=>simpa only[Loc]using h4
theorem jD{p:List Nat}{i':Nat}(hi:i'≠i)(z:List Nat):¬f.reverse++(i::p)<:+z++(i'::p):=by
 rintro⟨y,hy⟩
 rw[<-Jg]at hy;have:=List.append_inj_right' hy rfl;simp at this;exact hi this.symm
theorem jQ{p:List Nat}:¬f.reverse++(i::p)<:+p:=by intro h;have:=h.length_le;simp at this;omega
theorem zIZ:(xs:List T)-> ∀(i:Nat)(x y:T),xs[i]? =jf x->y.size=x.size->T.sizes (xs.set i y)=T.sizes xs
 | [],_,_,_,h,_=>by simp at h
 |z::zs,i,x,y,h,hs=>by
  cases i with
  |zero=>simp at h;subst h;simp[T.sizes,hs]
  |succ i=>simp only[Lg,T.sizes,zIZ zs i x y (by simpa using h) hs]
theorem zEj:(f:List Nat)-> ∀(t u u0:T),t.get f=jf u0->u.size=u0.size->(t.set f u).size=t.size
 | [],t,u,u0,h,hs=>by simp[T.get]at h;subst h;simpa[T.set]using hs
 |i::f,t,u,u0,h,hs=>by
  cases t with
  |sl k xs=>simp only[T.get]at h;cases hx:xs[i]? <;>simp[hx,T.set,T.size]at h ⊢
  |tup xs=>simp only[T.get]at h;cases hx:xs[i]? <;>simp[hx,T.set,T.size]at h ⊢
  |agg xs=>
   simp only[T.get]at h;cases hx:xs[i]? with
   |none=>simp[hx]at h
   |some x=>
    rw[hx]at h;simp only[T.set,hx,T.size];exact zIZ xs i x _ hx (zEj f x u u0 h hs)
  |ptr t=>simp only[T.get]at h;split at h<;>simp_all [T.set,T.size]
  |_=>simp[T.get]at h
theorem zL6(hm:Upd G w G' w' s tgt):(xs:List T)-> ∀(p:List Nat)(j b o i:Nat)(x y:T),vQ G w s xs p j b o->xs[i]? =jf x->y.size=x.size->
  (∀i',i'≠j+i-> ∀z,¬tgt<:+z++(i'::p))->(∀o',Loc G w s x ((j+i)::p) b o'->Loc G' w' s y ((j+i)::p) b o')->vQ G' w' s (xs.set i y) p j b o
 | [],_,_,_,_,_,_,_,_,h,_,_,_=>by simp at h
 |z::zs,p,j,b,o,i,x,y,hl,h,hs,hz,hy=>by
  simp only[vQ]at hl;cases i with
  |zero=>
   simp at h;subst h;simp only[Ls,vQ,hs];exact⟨by simpa using hy o (by simpa using hl.1),LocF_upd' hm zs p (j+1) b _ (fun i' fj=>hz i' (by omega)) hl.2⟩
  |succ i=>
   simp only[Lg,vQ];refine⟨zEi hm z _ b o (hz j (by omega)) hl.1,zL6 hm zs p (j+1) b _ i x y hl.2 (by simpa using h) hs (fun i' fj=>hz i' (by omega)) ?_⟩;rw[show j+1+i=j+(i+1)from by omega];exact hy
where LocF_upd' (hm:Upd G w G' w' s tgt):(xs:List T)-> ∀(p:List Nat)(j b o:Nat),(∀i',j<=i'-> ∀z,¬tgt<:+z++(i'::p))->vQ G w s xs p j b o->vQ G' w' s xs p j b o
 | [],_,_,_,_,_,_=>by simp only[vQ]
 |x::xs,p,j,b,o,hz,h=>by
  simp only[vQ]at h ⊢
  exact⟨zEi hm x (j::p) b o (hz j (Je _)) h.1,LocF_upd' hm xs p (j+1) b _ (fun i' fj=>hz i' (by omega)) h.2⟩
theorem zKf:(f:List Nat)-> ∀(t u u0:T)(p:List Nat)(b o:Nat),Upd G w G' w' s (rp f p)->Loc G w s t p b o->t.get f=jf u0->u.size=u0.size->
  (∀o',Loc G w s u0 (rp f p) b o'->Loc G' w' s u (rp f p) b o')->Loc G' w' s (t.set f u) p b o
 | [],t,u,u0,p,b,o,hm,hl,hg,hs,hu=>by simp[T.get]at hg;subst hg;simpa[T.set,rp]using hu o (by simpa[rp]using hl)
 |i::f,t,u,u0,p,b,o,hm,hl,hg,hs,hu=>by
  have gP:=hm;rw[zA2]at gP;cases t with
  |sl k xs=>
   have:∃ys,(T.sl k xs).set (i::f) u=.sl k ys:=by simp only[T.set];split<;>exact⟨_,rfl⟩
   obtain⟨ys,hy⟩:=this;rw[hy];exact zL5 gP (.sl k xs) (.sl k ys) p b o (by simp) (by simp) (by simp) jQ hl
  |ptr t=>
   have:∃ys,(T.ptr t).set (i::f) u=.ptr ys:=by simp only[T.set];split<;>exact⟨_,rfl⟩
   obtain⟨ys,hy⟩:=this;rw[hy];exact zL5 gP (.ptr t) (.ptr ys) p b o (by simp) (by simp) (by simp) jQ hl
  |agg xs=>
   simp only[T.get]at hg;cases hx:xs[i]? with
   |none=>simp[hx]at hg
   |some x=>
    rw[hx]at hg;simp only[T.set,hx];simp only[Loc]at hl ⊢
    refine⟨(gP.ad p jQ).trans hl.1,zL6 gP xs p 0 b o i x _ hl.2 hx (zEj f x u u0 hg hs) (fun i' fj z=>jD (by omega) z) ?_⟩;intro o' ho';simp only[Ji]at ho' ⊢
    exact zKf f x u u0 (i::p) b o' gP ho' hg hs (by simpa only[zA2]using hu)
  |tup xs=>simp only[Loc]at hl
  |_=>simp[T.get]at hg
end
section
variable {St:Stb}{G:Gh}{w:World}{G':Gh}{w':World}{s:Nat}{tgt:List Nat}
theorem zPY(hm:Upd G w G' w' s tgt)(t:T)(p:List Nat)(hz:∀z,¬tgt<:+z++p)(hk:yU (kT G G') t)(h:R St G w s t p):R St G' w' s t p:=by simpa using zTw (hm.moves hz) t [] hk (by simpa using h)
theorem zTx(hm:Upd G w G' w' s tgt):(xs:List T)-> ∀(p:List Nat)(i b o k:Nat),(∀i',i<=i'-> ∀z,¬tgt<:+z++(i'::p))->xP (kT G G') xs->RL St G w s xs p i b o k->RL St G' w' s xs p i b o k
 | [],_,_,_,_,_,_,_,_=>by simp only[RL]
 |x::xs,p,i,b,o,k,hz,hk,h=>by
  simp only[RL,xP]at h hk ⊢
  exact⟨⟨zEi hm x (i::p) b o (hz i (Je _)) h.1.1,h.1.2⟩,zPY hm x (i::p) (hz i (Je _)) hk.1 h.2.1,
   zTx hm xs p (i+1) b _ k (fun i' fj=>hz i' (by omega)) hk.2 h.2.2⟩
theorem zTy(hm:Upd G w G' w' s tgt):(xs:List T)-> ∀(p:List Nat)(i0 b o k i:Nat)(x y:T),RL St G w s xs p i0 b o k->xs[i]? =jf x->y.size=x.size->xP (kT G G') xs->
  (∀i',i'≠i0+i-> ∀z,¬tgt<:+z++(i'::p))->(∀o',Loc G w s x ((i0+i)::p) b o'->Loc G' w' s y ((i0+i)::p) b o')->R St G' w' s y ((i0+i)::p)->
  RL St G' w' s (xs.set i y) p i0 b o k
 | [],_,_,_,_,_,_,_,_,_,h,_,_,_,_,_=>by simp at h
 |z::zs,p,i0,b,o,k,i,x,y,hr,h,hs,hk,hz,hl,hy=>by
  simp only[RL,xP]at hr hk;cases i with
  |zero=>
   simp at h;subst h;simp only[Ls,RL];exact⟨⟨by simpa using hl o (by simpa using hr.1.1),by omega⟩,by simpa using hy,zTx hm zs p (i0+1) b _ k (fun i' fj=>hz i' (by omega)) hk.2 hr.2.2⟩
  |succ i=>
   simp only[Lg,RL];rw[show i0+(i+1)=i0+1+i from by omega]at hl hy hz;exact⟨⟨zEi hm z _ b o (hz i0 (by omega)) hr.1.1,hr.1.2⟩,zPY hm z _ (hz i0 (by omega)) hk.1 hr.2.1,zTy hm zs p (i0+1) b _ k i x y hr.2.2 (by simpa using h) hs hk.2 hz hl hy⟩
theorem zTz(hm:Upd G w G' w' s tgt):(xs:List T)-> ∀(p:List Nat)(i:Nat),(∀i',i<=i'-> ∀z,¬tgt<:+z++(i'::p))->xP (kT G G') xs->RF St G w s xs p i->RF St G' w' s xs p i
 | [],_,_,_,_,_=>by simp only[RF]
 |x::xs,p,i,hz,hk,h=>by
  simp only[RF,xP]at h hk ⊢
  exact⟨zPY hm x (i::p) (hz i (Je _)) hk.1 h.1,zTz hm xs p (i+1) (fun i' fj=>hz i' (by omega)) hk.2 h.2⟩
theorem zOc(hm:Upd G w G' w' s tgt):(xs:List T)-> ∀(p:List Nat)(i0 i:Nat)(x y:T),RF St G w s xs p i0->xs[i]? =jf x->xP (kT G G') xs->
  (∀i',i'≠i0+i-> ∀z,¬tgt<:+z++(i'::p))->R St G' w' s y ((i0+i)::p)->
  RF St G' w' s (xs.set i y) p i0
 | [],_,_,_,_,_,_,h,_,_,_=>by simp at h
 |z::zs,p,i0,i,x,y,hr,h,hk,hz,hy=>by
  simp only[RF,xP]at hr hk;cases i with
  |zero=>
   simp at h;subst h;simp only[Ls,RF];exact⟨by simpa using hy,zTz hm zs p (i0+1) (fun i' fj=>hz i' (by omega)) hk.2 hr.2⟩
  |succ i=>
   simp only[Lg,RF];rw[show i0+(i+1)=i0+1+i from by omega]at hy hz;exact⟨zPY hm z _ (hz i0 (by omega)) hk.1 hr.1,zOc hm zs p (i0+1) i x y hr.2 (by simpa using h) hk.2 hz hy⟩
theorem uI{φ:Nat->List Nat->Prop}:(xs:List T)->xP φ xs-> ∀(i:Nat)(x:T),xs[i]? =jf x->yU φ x
 | [],_,_,_,h=>by simp at h
 |y::ys,hk,i,x,h=>by
  simp only[xP]at hk;cases i with
  |zero=>simp at h;subst h;exact hk.1
  |succ i=>exact uI ys hk.2 i x (by simpa using h)
theorem zFV:(f:List Nat)-> ∀(t u u0:T)(p:List Nat),Upd G w G' w' s (rp f p)->R St G w s t p->t.get f=jf u0->u.size=u0.size->yU (kT G G') t->
  (∀b o,Loc G w s u0 (rp f p) b o->Loc G' w' s u (rp f p) b o)->R St G' w' s u (rp f p)->R St G' w' s (t.set f u) p
 | [],t,u,u0,p,hm,hr,hg,hs,hk,hl,hu=>by simpa[T.set,rp]using hu
 |i::f,t,u,u0,p,hm,hr,hg,hs,hk,hl,hu=>by
  have gP:=hm;rw[zA2]at gP hl hu;cases t with
  |sl k xs=>
   simp only[T.get]at hg;cases hx:xs[i]? with
   |none=>simp[hx]at hg
   |some x=>
    rw[hx]at hg;simp only[T.set,hx];simp only[R,yU]at hr hk ⊢
    rcases hr with⟨rfl,_⟩|⟨b,o0,cap,cs,e,h1,h2,h3,h4,h5,h6,h7,h8⟩
    ·simp at hx
    ·obtain⟨cs',fO,gr⟩:=gP.blk b cs e h2
     refine .inr ⟨b,o0,cap,cs',e,by rw[gP.hd p jQ,Hf];exact h1,fO,by rw[Hf];exact h3,h4,by omega,gP.ow b p h6 jQ,?_,?_⟩
     ·intro o ho cG
      rw[Hf]at ho;exact(gP.lb b o jh p (h7 o ho (by omega)) jQ).1
     ·have ae:=sV xs p 0 b o0 k i x h8 hx
      simp only[Ji]at ae;refine zTy gP xs p 0 b o0 k i x _ h8 hx (zEj f x u u0 hg hs) hk (fun i' fj z=>jD (by omega) z) ?_ ?_
      ·intro o' ho'
       simp only[Ji]at ho' ⊢
       exact zKf f x u u0 (i::p) b o' gP ho' hg hs (fun o''=>hl b o'')
      ·simp only[Ji]
       exact zFV f x u u0 (i::p) gP ae.2.2 hg hs (uI xs hk i x hx) hl hu
  |ptr t=>
   simp only[T.get]at hg;split at hg
   ·rename_i hi;subst hi
    simp only[T.set,if_true];simp only[R,yU]at hr hk ⊢
    obtain⟨b,cs,e,h1,h2,h3,h6,h4,h5⟩:=hr;obtain⟨cs',fO,gr⟩:=gP.blk b cs e h2;refine⟨b,cs',e,by rw[gP.hd p jQ];exact h1,fO,by rw[zEj f t u u0 hg hs];omega,gP.ow b p h6 jQ,zKf f t u u0 (0::p) b 0 gP h4 hg hs (fun o''=>hl b o''),zFV f t u u0 (0::p) gP h5 hg hs hk hl hu⟩
   ·cases hg
  |agg xs=>
   simp only[T.get]at hg;cases hx:xs[i]? with
   |none=>simp[hx]at hg
   |some x=>
    rw[hx]at hg;simp only[T.set,hx];simp only[R,yU]at hr hk ⊢
    refine zOc gP xs p 0 i x _ hr hx hk (fun i' fj z=>jD (by omega) z) ?_;simp only[Ji];exact zFV f x u u0 (i::p) gP (by simpa using zAL xs p 0 i x hr hx) hg hs (uI xs hk i x hx) hl hu
  |tup xs=>
   simp only[T.get]at hg;cases hx:xs[i]? with
   |none=>simp[hx]at hg
   |some x=>
    rw[hx]at hg;simp only[T.set,hx];simp only[R,yU]at hr hk ⊢
    refine zOc gP xs p 0 i x _ hr hx hk (fun i' fj z=>jD (by omega) z) ?_;simp only[Ji];exact zFV f x u u0 (i::p) gP (by simpa using zAL xs p 0 i x hr hx) hg hs (uI xs hk i x hx) hl hu
  |_=>simp[T.get]at hg
end
mutual
def vals(G:Gh)(s:Nat):T->List Nat->List Value
 |.agg xs,p=>yE G s xs p 0
 |.any,p|.lit _,p|.ro _,p|.same _ _,p|.addr _ _,p|.sub _ _ _ _ _,p|.sl _ _,p|.ptr _,p|.tup _,p=>[G.hd s p]
def yE(G:Gh)(s:Nat):List T->List Nat->Nat->List Value
 | [],_,_=>[]
 |x::xs,p,j=>vals G s x (j::p)++yE G s xs p (j+1)
end
def sD(G:Gh)(s:Nat)(t:T)(p:List Nat):Value:=
 match t with
 |.agg xs=>.agg (yE G s xs p 0).toArray
 |_=>G.hd s p
def jY(G:Gh)(s:Nat):List T->List Nat->Nat->List Value
 | [],_,_=>[]
 |x::xs,p,j=>sD G s x (j::p)::jY G s xs p (j+1)
def mkV(G:Gh)(s:Nat)(t:T)(p:List Nat):Value:=
 match t with
 |.agg xs=>.agg (yE G s xs p 0).toArray
 |.tup xs=>.tuple (jY G s xs p 0).toArray
 |_=>G.hd s p
mutual
def Top:T->Prop
 |.sl _ xs=>yZ xs
 |.ptr t=>zZ t
 |.agg xs|.tup xs=>uK xs
 |.any|.lit _|.ro _|.same _ _|.addr _ _|.sub _ _ _ _ _=>True
def uK:List T->Prop
 | []=>True
 |x::xs=>Top x/\uK xs
end
mutual
theorem Top.of_clean:(t:T)->zZ t->Top t
 |.sl _ xs,h=>by simpa only[Top,zZ,yU]using h
 |.ptr t,h=>by simpa only[Top,zZ,yU]using h
 |.agg xs,h|.tup xs,h=>by simp only[Top];exact uK.of_clean xs (by simpa only[zZ,yU]using h)
 |.any,_|.lit _,_|.ro _,_|.same _ _,_|.addr _ _,_|.sub _ _ _ _ _,_=>by simp only[Top]
theorem uK.of_clean:(xs:List T)->yZ xs->uK xs
 | [],_=>by simp only[uK]
 |x::xs,h=>by simp only[uK];exact⟨Top.of_clean x h.1,uK.of_clean xs h.2⟩
end
abbrev Chg:=List (Nat×Nat)
variable {chg:Chg}
def Off(chg:Chg)(s:Nat)(p:List Nat):Prop:=∀n,(s,n)∈chg->p.length<n
def kU(chg:Chg)(r:Nat)(p:List Nat):Bool:=chg.all fun c=>c.1 != r||decide (p.length<c.2)
theorem zRE{p:List Nat}(h:kU chg r p=jh):Off chg r p:=by
 intro n hn;have:=Kj.1 h _ hn
 grind
mutual
def T.okB(chg:Chg):T->Bool
 |.same r p|.addr r p|.sub r p _ _ _=>kU chg r p
 |.agg xs|.tup xs=>zL7 chg xs
 |.any|.lit _|.ro _|.sl _ _|.ptr _=>jh
def zL7(chg:Chg):List T->Bool
 | []=>jh
 |x::xs=>x.okB chg&&zL7 chg xs
end
mutual
theorem kW{chg:Chg}:(t:T)->Top t->t.okB chg=jh->yU (Off chg) t
 |.same r p,_,h|.addr r p,_,h|.sub r p _ _ _,_,h=>by simp only[T.okB]at h;simp only[yU];exact zRE h
 |.agg xs,ht,h|.tup xs,ht,h=>by simp only[T.okB,Top]at h ht;simp only[yU];exact zGS xs ht h
 |.sl _ xs,ht,_=>by simp only[Top]at ht;simp only[yU];grind[xP.mono]
 |.ptr t,ht,_=>by simp only[Top]at ht;simp only[yU];grind[yU.mono]
 |.any,_,_|.lit _,_,_|.ro _,_,_=>by simp only[yU]
theorem zGS{chg:Chg}:(xs:List T)->uK xs->zL7 chg xs=jh->xP (Off chg) xs
 | [],_,_=>by simp only[xP]
 |x::xs,ht,h=>by simp only[zL7,uK,J4]at h ht;simp only[xP];exact⟨kW x ht.1 h.1,zGS xs ht.2 h.2⟩
end
abbrev Env:=Nat->Option T
variable {E:Env}
abbrev Wr:=List (Nat×Option T)
def Wr.find(wr:Wr)(s:Nat):Option (Option T):=
 match wr with
 | []=>jg
 |(k,x)::r=>if k=s then jf x else Wr.find r s
def Env.app(E:Env)(wr:Wr)(chg:Chg):Env:=fun s=>
 match wr.find s with
 |some x=>x
 |none=>match E s with
  |some t=>if t.okB chg then jf t else jg
  |none=>jg
structure Ctx where
 St:Stb
 W:Nat->Prop
 w0:World
 N:Nat
variable {Γ:Ctx}
def zBY(Γ:Ctx)(w:World)(b:Nat):Prop:=b<w.heap.size/\(Γ.w0.heap.size<=b\/Γ.W b)/\Γ.St b=jg
structure zXK (w w':World):Prop where
 blk:Blk w w'
 os:w'.os=w.os
 out:w'.output=w.output
structure Mem (Γ:Ctx) (G:Gh) (w:World):Prop where
 one:∀s p,(G.hd s p).oneCell'=jh
 lb:∀b o l,G.lb b o=jf l->zBY Γ w b
 ow:∀b l,G.ow b=jf l->zBY Γ w b
 st:∀b x,Γ.St b=jf x->w.heap[b]? =jf x
 fr:∀b,b<Γ.w0.heap.size-> ¬Γ.W b->w.heap[b]? =Γ.w0.heap[b]?
 sz:Γ.w0.heap.size<=w.heap.size
 bk:zXK Γ.w0 w
theorem Blk.trans{w w'':World}(h:Blk w w')(h':Blk w' w''):Blk w w'':=fun b cs e hb=>by
 obtain⟨cs',h1,h2⟩:=h b cs e hb;obtain⟨cs'',h3,h4⟩:=h' b cs' e h1
 grind
theorem zXK.trans{w w'':World}(h:zXK w w')(h':Blk w' w'')(ho:w''.os=w'.os)(hq:w''.output=w'.output):zXK w w'':=⟨h.blk.trans h',ho.trans h.os,hq.trans h.out⟩
def Ent(Γ:Ctx)(G:Gh)(w:World)(v:Option Value)(s:Nat)(t:T):Prop:=v=jf (mkV G s t [])/\R Γ.St G w s t []/\Top t
structure Rep (Γ:Ctx) (E:Env) (G:Gh) (tmps:Array Value) (w:World):Prop where
 size:tmps.size=Γ.N
 ent:∀s t,E s=jf t->Ent Γ G w tmps[s]? s t
 mem:Mem Γ G w
def Sim(Γ:Ctx)(E:Env)(a:Act)(w:World):Prop:=a.defers=[]/\ ∃G,Rep Γ E G a.tmps w
structure zBZ (S S':Stb) (W:Nat->Prop) (n:Nat):Prop where
 le:∀b x,S b=jf x->S' b=jf x
 nw:∀b,S b=jg->S' b≠jg->n<=b\/W b
theorem zBZ.refl{S:Stb}{W:Nat->Prop}{n:Nat}:zBZ S S W n:=⟨fun _ _ h=>h,by grind⟩
theorem zBZ.trans{S S' S'':Stb}{W:Nat->Prop}{n:Nat}(h:zBZ S S' W n)(h':zBZ S' S'' W n):zBZ S S'' W n:=
 ⟨fun b x hb=>h'.le b x (h.le b x hb),fun b hb gZ=>by
  cases hs:S' b with
  |none=>exact h'.nw b hs gZ
  |some x=>exact h.nw b hb (by grind)⟩
abbrev Ctx.at(Γ:Ctx)(S:Stb):Ctx:={ Γ with St:=S }
def qJ(Γ:Ctx)(E:Env)(a:Act)(w:World):Prop:=∃S,zBZ Γ.St S Γ.W Γ.w0.heap.size/\Sim (Γ.at S) E a w
theorem qJ.of{w:World}(h:Sim Γ E a w):qJ Γ E a w:=⟨Γ.St,.refl,h⟩
theorem qJ.up{w:World}{S:Stb}(hS:zBZ Γ.St S Γ.W Γ.w0.heap.size)(h:qJ (Γ.at S) E a w):qJ Γ E a w:=by obtain⟨S',h1,h2⟩:=h;exact⟨S',hS.trans h1,h2⟩
structure sM (chg:Chg) (G:Gh) (w:World) (G':Gh) (w':World):Prop where
 hd:∀s p,Off chg s p->G'.hd s p=G.hd s p
 ad:∀s p,Off chg s p->G'.ad s p=G.ad s p
 lb:∀b o f s p,(∃y,G.ow b=jf (s,y))->G.lb b o=jf (f,s,p)->(∀n,(s,n)∉chg)->G'.lb b o=jf (f,s,p)/\yN w' b o=yN w b o
 ow:∀b s p,G.ow b=jf (s,p)->(∀n,(s,n)∉chg)->G'.ow b=jf (s,p)
 blk:Blk w w'
theorem Off.of_not{s:Nat}(h:∀n,(s,n)∉chg)(p:List Nat):Off chg s p:=fun n hn=>absurd hn (h n)
section
variable {Γ:Ctx}{G G':Gh}{w w':World}{s:Nat}{chg:Chg}
mutual
theorem zA4{s':Nat}:(t:T)-> ∀(p p':List Nat),(∀z,G'.hd s' (z++p')=G.hd s (z++p))->vals G' s' t p'=vals G s t p
 |.agg xs,p,p',h=>by simp only[vals];exact zEk xs p p' 0 h
 |.any,p,p',h|.lit _,p,p',h|.ro _,p,p',h|.same _ _,p,p',h|.addr _ _,p,p',h|.sub _ _ _ _ _,p,p',h|.sl _ _,p,p',h|.ptr _,p,p',h|.tup _,p,p',h=>by simp only[vals];rw[show G'.hd s' p'=G.hd s p from by simpa using h []]
theorem zEk{s':Nat}:(xs:List T)-> ∀(p p':List Nat)(j:Nat),(∀z,G'.hd s' (z++p')=G.hd s (z++p))->yE G' s' xs p' j=yE G s xs p j
 | [],_,_,_,_=>by rfl
 |x::xs,p,p',j,h=>by simp only[yE];rw[zA4 x (j::p) (j::p') (fun z=>by have:=h (z++[j]);grind),zEk xs p p' (j+1) h]
end
theorem zBz{s':Nat}(t:T)(p p':List Nat)(h:∀z,G'.hd s' (z++p')=G.hd s (z++p)):sD G' s' t p'=sD G s t p:=by
 unfold sD;split
 ·grind[zEk]
 ·simpa using h []
theorem zPZ{s':Nat}:(xs:List T)-> ∀(p p':List Nat)(j:Nat),(∀z,G'.hd s' (z++p')=G.hd s (z++p))->jY G' s' xs p' j=jY G s xs p j
 | [],_,_,_,_=>by rfl
 |x::xs,p,p',j,h=>by simp only[jY];rw[zBz x (j::p) (j::p') (fun z=>by have:=h (z++[j]);simpa using this),zPZ xs p p' (j+1) h]
theorem zFk{s':Nat}(t:T)(p p':List Nat)(h:∀z,G'.hd s' (z++p')=G.hd s (z++p)):mkV G' s' t p'=mkV G s t p:=by
 unfold mkV;split
 ·grind[zEk]
 ·grind[zPZ]
 ·simpa using h []
theorem sM.moves(hk:sM chg G w G' w')(hs:∀n,(s,n)∉chg)(p:List Nat):zGR G w G' w' s p s p where
 hd _:=hk.hd _ _ (.of_not hs _)
 ad _ _:=hk.ad _ _ (.of_not hs _)
 lb b o f _ _ gV hl:=hk.lb b o f s _ gV hl hs
 ow b _ _ hl:=hk.ow b s _ hl hs
 sp b o gV hl:=hk.lb b o jh s _ gV hl hs
 ow0 b hl:=hk.ow b s _ hl hs
 blk:=hk.blk
theorem sM.keepR(hk:sM chg G w G' w'){t:T}(h:yU (Off chg) t):yU (kT G G') t:=
 yU.mono (fun r p hr=>⟨hk.hd r p hr,hk.ad r p hr⟩) t h
theorem Ent.keep(hk:sM chg G w G' w')(hs:∀n,(s,n)∉chg){v:Option Value}{t:T}(ht:t.okB chg=jh)(h:Ent Γ G w v s t):Ent Γ G' w' v s t:=by
 obtain⟨h1,h2,h3⟩:=h;refine⟨?_,?_,h3⟩
 ·rw[h1,zFk t [] [] (fun z=>hk.hd _ _ (.of_not hs _))]
 ·simpa using zTw (hk.moves hs []) t [] (hk.keepR (kW t h3 ht)) (by grind)
end
theorem wW{tmps':Array Value}{w:World}{wr:Wr}(h:Rep Γ E G tmps w)
  (gM:tmps'.size=tmps.size)(hk:sM chg G w G' w')(gp:Mem Γ G' w')
  (gD:∀s,wr.find s=jg->(∀n,(s,n)∉chg)/\tmps'[s]? =tmps[s]?)
  (eB:∀s t,wr.find s=jf (jf t)->Ent Γ G' w' tmps'[s]? s t):Rep Γ (E.app wr chg) G' tmps' w' where
 size:=by rw[gM,h.size]
 mem:=gp
 ent s t hs:=by
  unfold Env.app at hs;cases hf:wr.find s with
  |some x=>
   grind
  |none=>
   rw[hf]at hs;simp at hs;cases he:E s with
   |none=>grind
   |some u=>
    simp[he]at hs;obtain⟨gz,rfl⟩:=hs;rw[(gD s hf).2];exact Ent.keep hk (gD s hf).1 gz (h.ent s u he)
mutual
def cpT(s:Nat):T->List Nat->T
 |.lit v,_=>.lit v
 |.ro t,_=>.ro t
 |.same r q,_=>.same r q
 |.addr r q,_=>.addr r q
 |.sub r q k lo hi,_=>.sub r q k lo hi
 |.agg xs,p=>.agg (cpF s xs p 0)
 |.any,p|.sl _ _,p|.ptr _,p|.tup _,p=>.same s p
def cpF(s:Nat):List T->List Nat->Nat->List T
 | [],_,_=>[]
 |x::xs,p,j=>cpT s x (j::p)::cpF s xs p (j+1)
end
mutual
theorem qD(s:Nat):(t:T)-> ∀p,Top (cpT s t p)
 |.agg xs,p=>by simp only[cpT,Top];exact zQa s xs p 0
 |.lit _,_|.ro _,_|.same _ _,_|.addr _ _,_|.sub _ _ _ _ _,_|.any,_|.sl _ _,_|.ptr _,_|.tup _,_=>by simp only[cpT,Top]
theorem zQa(s:Nat):(xs:List T)-> ∀p j,uK (cpF s xs p j)
 | [],_,_=>by simp only[cpF,uK]
 |x::xs,p,j=>by simp only[cpF,uK];exact⟨qD s x _,zQa s xs p _⟩
end
section
variable {St:Stb}{G G':Gh}{w w':World}{s d:Nat}
mutual
theorem zD8(hs:∀p,G'.hd s p=G.hd s p):(t:T)-> ∀(p p':List Nat),(∀z,G'.hd d (z++p')=G.hd s (z++p))->(∀xs,t≠.tup xs)->yU (kT G G') (cpT s t p)->R St G w s t p->R St G' w' d (cpT s t p) p'
 |.lit _,p,p',hd,_,_,h=>by simp only[cpT,R]at h ⊢;rw[show G'.hd d p'=_ from by simpa using hd []];exact h
 |.ro _,p,p',hd,_,_,h=>by simp only[cpT,R]at h ⊢;rw[show G'.hd d p'=_ from by simpa using hd []];exact h
 |.same r q,p,p',hd,_,hk,h=>by simp only[cpT,R,yU]at h hk ⊢;rw[show G'.hd d p'=_ from by simpa using hd [],hk.1];exact h
 |.addr r q,p,p',hd,_,hk,h=>by simp only[cpT,R,yU]at h hk ⊢;rw[show G'.hd d p'=_ from by simpa using hd [],hk.2];exact h
 |.sub r q k lo hi,p,p',hd,_,hk,h=>by simp only[cpT,R,yU]at h hk ⊢;rw[show G'.hd d p'=_ from by simpa using hd [],hk.1];exact h
 |.any,p,p',hd,_,_,_|.sl _ _,p,p',hd,_,_,_|.ptr _,p,p',hd,_,_,_=>by simp only[cpT,R];rw[show G'.hd d p'=_ from by simpa using hd [],hs]
 |.tup xs,_,_,_,h,_,_=>absurd rfl (h xs)
 |.agg xs,p,p',hd,_,hk,h=>by simp only[cpT,R,yU]at h hk ⊢;exact zKg hs xs p p' 0 hd hk h
theorem zKg(hs:∀p,G'.hd s p=G.hd s p):(xs:List T)-> ∀(p p':List Nat)(j:Nat),(∀z,G'.hd d (z++p')=G.hd s (z++p))->xP (kT G G') (cpF s xs p j)->RF St G w s xs p j->RF St G' w' d (cpF s xs p j) p' j
 | [],_,_,_,_,_,_=>by simp only[cpF,RF]
 |x::xs,p,p',j,hd,hk,h=>by
  simp only[cpF,RF,xP]at h hk ⊢
  refine⟨?_,zKg hs xs p p' (j+1) hd hk.2 h.2⟩
  by_cases hx:∃ys,x=.tup ys
  ·obtain⟨ys,rfl⟩:=hx
   simp only[cpT,R];rw[show G'.hd d (j::p')=_ from by simpa using hd [j],hs]
  ·exact zD8 hs x (j::p) (j::p') (fun z=>by have:=hd (z++[j]);simpa using this) (fun ys e=>hx ⟨ys,e⟩) hk.1 h.1
end
mutual
theorem zRF:(t:T)-> ∀(p p':List Nat),(∀z,G'.hd d (z++p')=G.hd s (z++p))->vals G' d (cpT s t p) p'=vals G s t p
 |.agg xs,p,p',h=>by simp only[cpT,vals];exact zD9 xs p p' 0 h
 |.any,p,p',h|.lit _,p,p',h|.ro _,p,p',h|.same _ _,p,p',h|.addr _ _,p,p',h|.sub _ _ _ _ _,p,p',h|.sl _ _,p,p',h|.ptr _,p,p',h|.tup _,p,p',h=>by simp only[cpT,vals];rw[show G'.hd d p'=G.hd s p from by simpa using h []]
theorem zD9:(xs:List T)-> ∀(p p':List Nat)(j:Nat),(∀z,G'.hd d (z++p')=G.hd s (z++p))->yE G' d (cpF s xs p j) p' j=yE G s xs p j
 | [],_,_,_,_=>by rfl
 |x::xs,p,p',j,h=>by simp only[cpF,yE];rw[zRF x (j::p) (j::p') (fun z=>by have:=h (z++[j]);grind),zD9 xs p p' (j+1) h]
end
theorem zAk(t:T)(p p':List Nat)(ht:∀xs,t≠.tup xs)(h:∀z,G'.hd d (z++p')=G.hd s (z++p)):mkV G' d (cpT s t p) p'=sD G s t p:=by
 cases t with
 |agg xs=>grind[cpT,mkV,sD,zD9]
 |tup xs=>grind
 |_=>simpa[cpT,mkV,sD]using h []
end
theorem jZ(G:Gh)(s:Nat)(t:T)(p:List Nat)(ht:∀xs,t≠.tup xs):mkV G s t p=sD G s t p:=by
 cases t with
 |tup xs=>grind
 |_=>rfl
def Gh.put(G:Gh)(d:Nat)(f:List Nat->Value):Gh:={ G with hd:=fun s z=>if s=d then f z else G.hd s z }
theorem Gh.put_other(G:Gh){s:Nat}(f:List Nat->Value)(p:List Nat)(h:s≠d):(G.put d f).hd s p=G.hd s p:=by simp[Gh.put,h]
theorem Gh.put_self(G:Gh)(d:Nat)(f:List Nat->Value)(p:List Nat):(G.put d f).hd d p=f p:=by simp[Gh.put]
theorem yAK{s:Nat}{p:List Nat}(h:Off [(d,0)] s p):s≠d:=by
 rintro rfl
 exact absurd (h 0 (by simp)) (by simp)
theorem Gh.put_keep(G:Gh){w:World}(hw:w'.heap=w.heap)(d:Nat)(f:List Nat->Value):sM [(d,0)] G w (G.put d f) w' where
 hd s p h:=G.put_other f p (yAK h)
 ad _ _ _:=rfl
 lb b o f' s p _ h _:=⟨h,by grind[yN,World.cell?]⟩
 ow b s p h _:=h
 blk b cs e h:=by grind
theorem Mem.put{w:World}(h:Mem Γ G w)(hw:w'.heap=w.heap)(d:Nat)(f:List Nat->Value)(hf:∀z,(f z).oneCell'=jh)(ho:w'.os=w.os:=by rfl)(hq:w'.output=w.output:=by rfl):Mem Γ (G.put d f) w' where
 one s p:=by unfold Gh.put;dsimp only;split;exact hf p;exact h.one s p
 lb b o l hl:=by have:=h.lb b o l hl;exact⟨by rw[hw];exact this.1,this.2⟩
 ow b l hl:=by have:=h.ow b l hl;exact⟨by rw[hw];exact this.1,this.2⟩
 st b x hx:=by rw[hw];exact h.st b x hx
 fr b h1 h2:=by rw[hw];exact h.fr b h1 h2
 sz:=by rw[hw];exact h.sz
 bk:=h.bk.trans (fun b cs e hb=>by grind) ho hq
theorem uB(d:Nat)(x:Option T)(s:Nat):Wr.find [(d,x)] s=if d=s then jf x else jg:=by rfl
theorem vE{w:World}(h:Rep Γ E G tmps w)(hw:w'.heap=w.heap)(hd:d<Γ.N)
  (f:List Nat->Value)(hf:∀z,(f z).oneCell'=jh)(t:T)(v:Value)(hv:v=mkV (G.put d f) d t [])(hr:R Γ.St (G.put d f) w' d t [])(ht:Top t)(ho:w'.os=w.os:=by rfl)(hq:w'.output=w.output:=by rfl):
  Rep Γ (E.app [(d,jf t)] [(d,0)]) (G.put d f) (tmps.setIfInBounds d v) w':=by
 refine wW h (by simp) (G.put_keep hw d f) (h.mem.put hw d f hf ho hq) ?_ ?_
 ·grind[uB]
 ·intro s t' hs
  rw[uB]at hs;split at hs
  ·rename_i he
   subst he;simp at hs;subst hs;refine⟨?_,hr,ht⟩;rw[Jj];simp[h.size,hd,hv]
  ·cases hs
def xZ(P:Program)(Γ:Ctx)(o:Oper)(E E':Env):Prop:=
 ∀(a:Act)(w:World)(K:Act->World->Prop)(Q:Exit->Act->World->Prop),Sim Γ E a w->(∀a' w',qJ Γ E' a' w'->K a' w')->o.wp P a w K Q
def opT(E:Env):Operand->Option T
 |.tmp s=>E s
 |.const v=>if v.oneCell' then jf (.lit v)else jg
 |.func f=>jf (.lit (.func (.func f) #[] #[]))
 |.global _=>jg
def tC(x:Operand)(t:T):T:=match x with
 |.tmp s=>cpT s t []
 |_=>t
section
variable {P:Program}{Γ:Ctx}{E E':Env}{o:Oper}{d:Nat}
theorem xW{s:Nat}{v:Value}(h:a.tmps[s]? =jf v):a.eval (.tmp s)=v:=by simp[Act.eval,Kn,h]
theorem xZ.value(ho:o.dst=jf d)
  (h:∀(a:Act)(w:World)(G:Gh),Rep Γ E G a.tmps w-> ∃v w',(execOp a.eval o).run P w=.ok (.value v) w'/\ ∃G',Rep Γ E' G' (a.tmps.setIfInBounds d v) w'):xZ P Γ o E E':=by
 intro a w K Q ⟨gJ,G,g9⟩ hK;obtain⟨v,w',gx,G',fD⟩:=h a w G g9;unfold Oper.wp;rw[gx,Oper.upon_value];refine hK _ _ ?_;rw[ho];exact .of ⟨gJ,G',fD⟩
theorem xZ.skip(ho:o.dst=jg)
  (h:∀(a:Act)(w:World)(G:Gh),Rep Γ E G a.tmps w-> ∃w',(execOp a.eval o).run P w=.ok .skip w'/\ ∃G',Rep Γ E' G' a.tmps w'):xZ P Γ o E E':=by
 intro a w K Q ⟨gJ,G,g9⟩ hK;obtain⟨w',gx,G',fD⟩:=h a w G g9;unfold Oper.wp;rw[gx,Oper.upon_skip];refine hK _ _ ?_;rw[ho];exact .of ⟨gJ,G',fD⟩
theorem opd{w:World}(g9:Rep Γ E G a.tmps w){t:T}(hx:opT E x=jf t)(ht:∀xs,t≠.tup xs):
  ∃f:List Nat->Value,(∀z,(f z).oneCell'=jh)/\(∀d,(∀s,x=.tmp s->s≠d)->T.okB [(d,0)] (tC x t)=jh->
   a.eval x=mkV (G.put d f) d (tC x t) []/\R Γ.St (G.put d f) w d (tC x t) [])/\Top (tC x t):=by
 cases x with
 |tmp s=>
  obtain⟨h1,h2,h3⟩:=g9.ent s t hx;refine⟨fun z=>G.hd s z,fun z=>g9.mem.one s z,?_,qD s t []⟩;intro d gc gz;have eI:=gc s rfl;have hk:=G.put_keep (w:=w) (w':=w) rfl d (fun z=>G.hd s z);have hz:∀z,(G.put d (fun z=>G.hd s z)).hd d (z++[])=G.hd s (z++[]):=by grind[Gh.put_self]
  refine⟨?_,?_⟩
  ·grind[xW,tC,zAk,jZ]
  ·exact zD8 (fun p=>G.put_other _ p eI) t [] [] hz ht (hk.keepR (kW _ (qD s t []) gz)) h2
 |const v=>
  simp only[opT]at hx;split at hx
  ·rename_i gk
   simp at hx;subst hx;exact⟨fun _=>v,fun _=>gk,fun d _ _=>⟨by simp[Act.eval,tC,mkV,Gh.put],by simp[tC,R,Gh.put]⟩,by simp[tC,Top]⟩
  ·cases hx
 |func f=>
  simp only[opT]at hx;simp at hx;subst hx;exact⟨fun _=>.func (.func f) #[] #[],fun _=>rfl,fun d _ _=>⟨by simp[Act.eval,tC,mkV,Gh.put],by simp[tC,R,Gh.put]⟩,by simp[tC,Top]⟩
 |global g=>cases hx
theorem zQb(x:Operand)(t:T)(ho:o.op=.move x\/o.op=.assign x)(gg:o.dst=jf d)(hd:d<Γ.N)(hx:opT E x=jf t)(ht:∀xs,t≠.tup xs)
  (gc:∀s,x=.tmp s->s≠d)(gz:T.okB [(d,0)] (tC x t)=jh):xZ P Γ o E (E.app [(d,jf (tC x t))] [(d,0)]):=by
 refine xZ.value gg fun a w G g9=>?_
 obtain⟨f,hf,h1,h2⟩:=opd g9 hx ht;obtain⟨h3,h4⟩:=h1 d gc gz;refine⟨a.eval x,w,?_,_,vE g9 rfl hd f hf _ _ h3 h4 h2⟩;rcases ho with ho|ho<;>simp[execOp,ho]
theorem xY{w:World}(g9:Rep Γ E G a.tmps w){v:Value}(hx:opT E x=jf (.lit v)):a.eval x=v/\v.oneCell'=jh:=by
 cases x with
 |tmp s=>
  obtain⟨h1,h2,_⟩:=g9.ent s _ hx;simp only[R]at h2;refine⟨?_,by rw[<-h2];exact g9.mem.one s []⟩
  grind[xW,mkV]
 |const u=>
  simp only[opT]at hx;split at hx
  ·simp at hx;subst hx;exact⟨rfl,by assumption⟩
  ·cases hx
 |func f=>simp only[opT]at hx;simp at hx;subst hx;exact⟨rfl,rfl⟩
 |global g=>cases hx
theorem kN(v:Value)(hv:v.oneCell'=jh)(gg:o.dst=jf d)(hd:d<Γ.N)
  (h:∀(a:Act)(w:World)(G:Gh),Rep Γ E G a.tmps w->(execOp a.eval o).run P w=.ok (.value v) w):xZ P Γ o E (E.app [(d,jf (.lit v))] [(d,0)]):=by
 refine xZ.value gg fun a w G g9=>?_
 exact⟨v,w,h a w G g9,_,vE g9 rfl hd (fun _=>v) (fun _=>hv) (.lit v) v (by simp[mkV,Gh.put]) (by simp[R,Gh.put]) (by simp[Top])⟩
def zKh(op:BinOp)(k:IntKind)(a b:Int):Option Value:=
 match op with
 |.add=>jf (.int k (k.wrap (a+b)))
 |.sub=>jf (.int k (k.wrap (a-b)))
 |.mul=>jf (.int k (k.wrap (a*b)))
 |.quo=>if b=0 then jg else jf (.int k (k.wrap (a.tdiv b)))
 |.rem=>if b=0 then jg else jf (.int k (a.tmod b))
 |.eql=>jf (.bool (a==b))
 |.neq=>jf (.bool (a != b))
 |.lss=>jf (.bool (decide (a<b)))
 |.leq=>jf (.bool (decide (a<=b)))
 |.gtr=>jf (.bool (decide (a> b)))
 |.geq=>jf (.bool (decide (a>=b)))
 |_=>jg
theorem zT0{op:BinOp}{k:IntKind}{a b:Int}{v:Value}(h:zKh op k a b=jf v):v.oneCell'=jh:=by cases op<;>simp[zKh]at h<;>first|(subst h;rfl)|(obtain⟨_,rfl⟩:=h;rfl)
theorem tV(op:BinOp)(xt yt:TypeId)(x y:Operand)(k:IntKind)(m n:Int)(v:Value)(ho:o.op=.binOp op xt x y yt)(gg:o.dst=jf d)(hd:d<Γ.N)
  (hx:opT E x=jf (.lit (.int k m)))(hy:opT E y=jf (.lit (.int k n)))(hv:zKh op k m n=jf v):xZ P Γ o E (E.app [(d,jf (.lit v))] [(d,0)]):=by
 refine kN v (zT0 hv) gg hd fun a w G g9=>?_
 have h1:=(xY g9 hx).1;have h2:=(xY g9 hy).1;cases op<;>simp[zKh]at hv<;>
  first
   |(subst hv;simp[execOp,ho,h1,h2,eqGuard,binOp,Op.intArith,Op.intCmp];done)
   |(obtain⟨h0,rfl⟩:=hv;simp[execOp,ho,h1,h2,eqGuard,binOp,Op.intDiv,h0])
theorem yAL(xt:TypeId)(x:Operand)(b:Bool)(ho:o.op=.unOp .not xt x)(gg:o.dst=jf d)(hd:d<Γ.N)
  (hx:opT E x=jf (.lit (.bool b))):xZ P Γ o E (E.app [(d,jf (.lit (.bool !b)))] [(d,0)]):=by
 refine kN _ rfl gg hd fun a w G g9=>?_
 have h1:=(xY g9 hx).1;simp[execOp,ho,h1,Op.unary]
theorem yAM(xt:TypeId)(x:Operand)(k:IntKind)(n:Int)(ho:o.op=.unOp .neg xt x)(gg:o.dst=jf d)(hd:d<Γ.N)
  (hx:opT E x=jf (.lit (.int k n))):xZ P Γ o E (E.app [(d,jf (.lit (.int k (k.wrap (0-n)))))] [(d,0)]):=by
 refine kN _ rfl gg hd fun a w G g9=>?_
 have h1:=(xY g9 hx).1;simp[execOp,ho,h1,Op.unary,Op.intArith]
theorem zXL(src dst:TypeId)(ds:TypeDesc)(x:Operand)(k k':IntKind)(n:Int)(ho:o.op=.convert src dst x)(gg:o.dst=jf d)(hd:d<Γ.N)
  (hs:P.underlying src=jf ds)(ht:P.underlying dst=jf (.int k'))(hx:opT E x=jf (.lit (.int k n))):
  xZ P Γ o E (E.app [(d,jf (.lit (.int k' (k'.wrap n))))] [(d,0)]):=by
 refine kN _ rfl gg hd fun a w G g9=>?_
 have h1:=(xY g9 hx).1;simp[execOp,ho,h1,convert,run_underlying hs,run_underlying ht,Conv.intToInt]
theorem zXM(c x y:Operand)(b:Bool)(t:T)(ho:o.op=.pick c x y)(gg:o.dst=jf d)(hd:d<Γ.N)
  (hc:opT E c=jf (.lit (.bool b)))(hx:opT E (if b then x else y)=jf t)(ht:∀xs,t≠.tup xs)
  (gc:∀s,(if b then x else y)=.tmp s->s≠d)(gz:T.okB [(d,0)] (tC (if b then x else y) t)=jh):xZ P Γ o E (E.app [(d,jf (tC (if b then x else y) t))] [(d,0)]):=by
 refine xZ.value gg fun a w G g9=>?_
 obtain⟨f,hf,h1,h2⟩:=opd g9 hx ht;obtain⟨h3,h4⟩:=h1 d gc gz;refine⟨a.eval (if b then x else y),w,?_,_,vE g9 rfl hd f hf _ _ h3 h4 h2⟩;have h5:=(xY g9 hc).1;cases b<;>simp[execOp,ho,h5,asBool]
end
def qK(E:Env):Nat->Nat->List Nat->Option (Nat×List Nat×T)
 |0,_,_=>jg
 |n+1,r,q=>match E r with
  |some t=>match t.get q.reverse with
   |some (.same r' q')=>qK E n r' q'
   |some u=>jf (r,q,u)
   |none=>jg
  |none=>jg
def tD(E:Env):Operand->Option (Nat×List Nat×T)
 |.tmp s=>qK E 4 s []
 |_=>jg
def T.single:T->Bool
 |.agg _|.tup _=>ji
 |_=>jh
theorem yV{s:Nat}{t:T}{p:List Nat}(h:t.single=jh):mkV G s t p=G.hd s p:=by cases t<;>simp[T.single]at h<;>rfl
section
variable {P:Program}{Γ:Ctx}{E:Env}{o:Oper}{d:Nat}
theorem zCK{G:Gh}{a:Act}{w:World}(g9:Rep Γ E G a.tmps w):∀(n s:Nat)(p:List Nat)(r:Nat)(q:List Nat)(u:T),qK E n s p=jf (r,q,u)->
  R Γ.St G w r u q/\G.hd s p=G.hd r q/\(∃t,E r=jf t/\t.get q.reverse=jf u)
 |0,_,_,_,_,_,h=>by simp[qK]at h
 |n+1,s,p,r,q,u,h=>by
  simp only[qK]at h;split at h
  ·rename_i t ht
   obtain⟨_,h4,_⟩:=g9.ent _ _ ht;split at h
   ·rename_i r' q' hg
    obtain⟨h1,h2,h3⟩:=zCK g9 n r' q' r q u h;have h5:=(zA3 p.reverse t _ [] h4 hg).1;simp only[rp,Ki,Jh,R]at h5;exact⟨h1,h5.trans h2,h3⟩
   ·rename_i u' hns hg
    simp at h;obtain⟨rfl,rfl,rfl⟩:=h;have h5:=(zA3 p.reverse t _ [] h4 hg).1;simp only[rp,Ki,Jh]at h5;exact⟨h5,rfl,t,ht,hg⟩
   ·cases h
  ·cases h
theorem qS{w:World}(g9:Rep Γ E G a.tmps w)(h:tD E x=jf (r,q,u))(hu:u.single=jh):
  R Γ.St G w r u q/\a.eval x=G.hd r q:=by
 cases x with
 |tmp s=>
  obtain⟨h1,h2,_⟩:=zCK g9 4 s [] r q u h;refine⟨h1,?_⟩;rw[<-h2];simp only[tD,qK]at h;split at h
  ·rename_i t ht
   obtain⟨h3,_,_⟩:=g9.ent s _ ht;rw[xW h3];simp only[Hw,T.get]at h;have:t.single=jh:=by cases t<;>first|rfl|(simp at h;obtain⟨_,_,rfl⟩:=h;simp[T.single]at hu)
   exact yV this
  ·cases h
 |_=>simp[tD]at h
theorem zKi{w:World}{s:Nat}{p:List Nat}(h:R St G w s (.sl k xs) p):∃a c,G.hd s p=.slice a xs.length c:=by
 simp only[R]at h;rcases h with⟨rfl,a,h⟩|⟨b,_,cap,_,_,h,_⟩
 ·exact⟨a,0,h⟩
 ·exact⟨_,_,h⟩
theorem zCL{w:World}{s:Nat}{p:List Nat}(h:R St G w s (.ro (.sl k xs)) p):∃a c,G.hd s p=.slice a xs.length c/\xs.length<=c/\c<=maxLen/\
   (xs≠[]-> ∃b o' cs' e fr,a=jf ⟨b,o',jg⟩/\St b=jf (.cells cs' e fr)/\RoL St xs cs' o' k):=by
 simp only[R,RoC]at h;obtain⟨a,c,h1,h2,h3,h4⟩:=h;exact⟨a,c,by simpa using h1,h2,h3,h4⟩
def zL8:T->Option Nat
 |.sl _ xs|.ro (.sl _ xs)=>jf xs.length
 |.lit (.slice _ n _)=>jf n
 |.lit (.string s)=>jf s.size
 |_=>jg
def zXN:T->TypeDesc->Bool
 |.lit (.string _),.string=>jh
 |.sl _ _,.slice _|.ro (.sl _ _),.slice _|.lit (.slice _ _ _),.slice _=>jh
 |_,_=>ji
theorem zT1(x:Operand)(t:TypeId)(ds:TypeDesc)(r:Nat)(q:List Nat)(u:T)(n:Nat)(ho:o.op=.call { callee:=.builtin .len,args:=#[x],argTypes:=#[t] })(gg:o.dst=jf d)(hd:d<Γ.N)
  (ht:P.underlying t=jf ds)(hx:tD E x=jf (r,q,u))(hl:zL8 u=jf n)(mm:zXN u ds=jh):
  xZ P Γ o E (E.app [(d,jf (.lit (.int .i64 n)))] [(d,0)]):=by
 refine kN (.int .i64 n) rfl gg hd fun a w G g9=>?_
 have hu:u.single=jh:=by cases u<;>simp[zL8]at hl<;>rfl
 obtain⟨h1,h2⟩:=qS g9 hx hu;have h3:(Builtin.len_ #[t] o.type #[G.hd r q]).run P w=.ok (.int .i64 n) w:=by
  cases u with
  |sl k xs=>
   obtain⟨a',c,h4⟩:=zKi h1;simp[zL8]at hl;subst hl;cases ds<;>simp[zXN]at mm
   simp[Builtin.len_,run_underlying ht,h4,goInt]
  |ro t'=>
   cases t'<;>simp[zL8]at hl
   obtain⟨a',c,h4,_⟩:=zCL h1;subst hl;cases ds<;>simp[zXN]at mm
   simp[Builtin.len_,run_underlying ht,h4,goInt]
  |lit v=>
   simp only[R]at h1;cases v<;>simp[zL8]at hl<;>(subst hl;cases ds<;>simp[zXN]at mm;simp[Builtin.len_,run_underlying ht,h1,goInt])
  |_=>simp[zL8]at hl
 simp[execOp,ho,resolve,invoke,builtin,h2,h3]
theorem zB0{w:World}{s:Nat}{t:T}{p:List Nat}{b o:Nat}(h:Loc G w s t p b o):G.ad s p=⟨b,o,jg⟩:=by cases t<;>simp only[Loc]at h<;>first|exact h.1|exact h.elim
theorem uO(b o n:Nat):(⟨b,o,jg⟩:Addr).add n=⟨b,o+n,jg⟩:=by
 unfold Addr.add;split
 ·rename_i h;subst h;rfl
 ·rfl
theorem zXO{w:World}{s:Nat}{p:List Nat}(h:R St G w s (.sl k xs) p)(hi:i<xs.length):
  ∃b o0 cap,G.hd s p=.slice (jf ⟨b,o0,jg⟩) xs.length cap/\G.ad s (i::p)=⟨b,o0+i*k,jg⟩:=by
 simp only[R]at h;rcases h with⟨rfl,_⟩|⟨b,o0,cap,cs,e,h1,h2,h3,h4,h5,h6,h7,h8⟩
 ·simp at hi
 ·have:=(sV xs p 0 b o0 k i xs[i] h8 (by simp[hi])).1
  simp only[Ji]at this;exact⟨b,o0,cap,h1,zB0 this⟩
theorem zT2(x y:Operand)(t e:TypeId)(ti:TypeInfo)(r:Nat)(q:List Nat)(k:Nat)(xs:List T)(kd:IntKind)(i:Int)(ho:o.op=.indexAddr t x y)(gg:o.dst=jf d)(hd:d<Γ.N)
  (ht:P.underlying t=jf (.slice e))(he:P.info? e=jf ti)(hk:ti.size=k)(hx:tD E x=jf (r,q,.sl k xs))(hy:opT E y=jf (.lit (.int kd i)))(h0:0<=i)(h1:i.toNat<xs.length):
  xZ P Γ o E (E.app [(d,jf (.addr r (i.toNat::q)))] [(d,0)]):=by
 refine xZ.value gg fun a w G g9=>?_
 obtain⟨g1,g2⟩:=qS g9 hx rfl;have g3:=(xY g9 hy).1;obtain⟨b,o0,cap,g4,g5⟩:=zXO g1 h1;refine⟨.pointer (jf (G.ad r (i.toNat::q))),w,?_,_,vE g9 rfl hd (fun _=>.pointer (jf (G.ad r (i.toNat::q)))) (fun _=>rfl) _ _ (by simp[mkV,Gh.put]) (by simp[R,Gh.put]) (by simp[Top])⟩;have gC:i<(xs.length:Int):=by omega
 simp[execOp,ho,Instr.indexAt,g3,g2,g4,asIntOf,run_underlying ht,h0,gC,sizeOf,typeInfo,he,hk,uO,g5]
theorem zG5{St:Stb}:(xs:List T)-> ∀(cs:Array Value)(o k i:Nat)(x:T),RoL St xs cs o k->xs[i]? =jf x->RoC St x cs (o+i*k)
 | [],_,_,_,_,_,_,h=>by simp at h
 |y::ys,cs,o,k,i,x,hr,h=>by
  simp only[RoL]at hr;cases i with
  |zero=>simp at h;subst h;simpa using hr.1
  |succ i=>
   have:=zG5 ys cs (o+k) k i x hr.2 (by simpa using h)
   rwa [show o+(i+1)*k=o+k+i*k from by rw[K8];omega]
theorem zKj{St:Stb}:(xs:List T)-> ∀(cs:Array Value)(o i:Nat)(x:T),RoF St xs cs o->xs[i]? =jf x->RoC St x cs (o+T.sizes (xs.take i))
 | [],_,_,_,_,_,h=>by simp at h
 |y::ys,cs,o,i,x,hr,h=>by
  simp only[RoF]at hr;cases i with
  |zero=>simp at h;subst h;simpa[T.sizes]using hr.1
  |succ i=>
   have:=zKj ys cs (o+y.size) i x hr.2 (by simpa using h)
   rwa [L5,T.sizes,<-Ha]
theorem zT3(x y:Operand)(t e:TypeId)(ti:TypeInfo)(r:Nat)(q:List Nat)(k:Nat)(xs:List T)(kd:IntKind)(i:Int)(u:T)(ho:o.op=.indexAddr t x y)(gg:o.dst=jf d)(hd:d<Γ.N)
  (ht:P.underlying t=jf (.slice e))(he:P.info? e=jf ti)(hk:ti.size=k)(hx:tD E x=jf (r,q,.ro (.sl k xs)))(hy:opT E y=jf (.lit (.int kd i)))(h0:0<=i)(h1:xs[i.toNat]? =jf u):
  xZ P Γ o E (E.app [(d,jf (.ro (.ptr u)))] [(d,0)]):=by
 refine xZ.value gg fun a w G g9=>?_
 obtain⟨g1,g2⟩:=qS g9 hx rfl;have g3:=(xY g9 hy).1;have iy:i.toNat<xs.length:=(Jm.1 h1).1;obtain⟨a',c,g4,_,_,g5⟩:=zCL g1;obtain⟨b,o',cs',e',fr,rfl,g6,g7⟩:=g5 (by rintro rfl;simp at iy);have g8:=zG5 xs cs' o' k i.toNat u g7 h1;refine⟨.pointer (jf ⟨b,o'+i.toNat*k,jg⟩),w,?_,_,vE g9 rfl hd (fun _=>.pointer (jf ⟨b,o'+i.toNat*k,jg⟩)) (fun _=>rfl) _ _ (by simp[mkV,Gh.put]) ?_ (by simp[Top])⟩
 ·have gC:i<(xs.length:Int):=by omega
  simp[execOp,ho,Instr.indexAt,g3,g2,g4,asIntOf,run_underlying ht,h0,gC,sizeOf,typeInfo,he,hk,uO]
 ·simp only[R,Gh.put_self,RoC]
  exact⟨b,_,cs',e',fr,by simp,g6,g8⟩
theorem zCa:(xs:List T)-> ∀{G:Gh}{w:World}{s:Nat}(p:List Nat)(j b o i:Nat)(x:T),vQ G w s xs p j b o->xs[i]? =jf x->
  Loc G w s x ((j+i)::p) b (o+T.sizes (xs.take i))
 | [],_,_,_,_,_,_,_,_,_,_,h=>by simp at h
 |y::ys,G,w,s,p,j,b,o,i,x,hr,h=>by
  simp only[vQ]at hr;cases i with
  |zero=>simp at h;subst h;simpa[T.sizes]using hr.1
  |succ i=>
   have:=zCa ys p (j+1) b (o+y.size) i x hr.2 (by simpa using h)
   rwa [show j+(i+1)=j+1+i from by omega,L5,T.sizes,<-Ha]
theorem uY{P:Program}{w:World}(a:Addr):(Instr.sureAddr (.pointer (jf a))).run P w=.ok a w:=rfl
theorem zCb{P:Program}{w:World}{S:TypeId}{fs:Array Field}{f:Field}{fi:TypeInfo}{j:Nat}{b o':Nat}(hS:P.underlying S=jf (.struct fs))(hf:fs[j]? =jf f)(hi:P.info? f.type=jf fi)(hz:fi.size≠0):
  (Instr.fieldAt S (.pointer (jf ⟨b,o',jg⟩)) j).run P w=.ok (.pointer (jf ⟨b,o'+f.offset,jg⟩)) w:=by
 simp[Instr.fieldAt,run_underlying hS,hf,uY,fieldPlace,sizeOf,typeInfo,hi,hz,uO]
theorem yCO(x:Operand)(S:TypeId)(fs:Array Field)(f:Field)(fi:TypeInfo)(j:Nat)(r:Nat)(q:List Nat)(xs:List T)(u:T)(ho:o.op=.fieldAddr S x j)(gg:o.dst=jf d)(hd:d<Γ.N)
  (hS:P.underlying S=jf (.struct fs))(hf:fs[j]? =jf f)(hi:P.info? f.type=jf fi)(hz:fi.size≠0)(hx:tD E x=jf (r,q,.ptr (.agg xs)))(hu:xs[j]? =jf u)(gB:T.sizes (xs.take j)=f.offset:=by omega):
  xZ P Γ o E (E.app [(d,jf (.addr r (j::0::q)))] [(d,0)]):=by
 refine xZ.value gg fun a w G g9=>?_
 obtain⟨g1,g2⟩:=qS g9 hx rfl;simp only[R]at g1;obtain⟨b,cs,e,g4,_,_,_,g5,_⟩:=g1;simp only[Loc]at g5;have g6:=zCa xs (0::q) 0 b 0 j u g5.2 hu;simp only[Ji]at g6;refine⟨.pointer (jf (G.ad r (j::0::q))),w,?_,_,vE g9 rfl hd (fun _=>.pointer (jf (G.ad r (j::0::q)))) (fun _=>rfl) _ _ (by simp[mkV,Gh.put]) (by simp[R,Gh.put]) (by simp[Top])⟩;have g7:=zCb (w:=w) (b:=b) (o':=0) hS hf hi hz;simp[execOp,ho,g2,g4,g7,zB0 g6,gB]
theorem zOd(x:Operand)(S:TypeId)(fs:Array Field)(f:Field)(fi:TypeInfo)(j:Nat)(r:Nat)(q:List Nat)(t:T)(xs:List T)(u:T)(ho:o.op=.fieldAddr S x j)(gg:o.dst=jf d)(hd:d<Γ.N)
  (hS:P.underlying S=jf (.struct fs))(hf:fs[j]? =jf f)(hi:P.info? f.type=jf fi)(hz:fi.size≠0)(hx:opT E x=jf (.addr r q))(hr:E r=jf t)(hg:t.get q.reverse=jf (.agg xs))(hl:t.locd q.reverse=jh)
  (hu:xs[j]? =jf u)(gB:T.sizes (xs.take j)=f.offset:=by omega):
  xZ P Γ o E (E.app [(d,jf (.addr r (j::q)))] [(d,0)]):=by
 refine xZ.value gg fun a w G g9=>?_
 cases x with
 |tmp s=>
  obtain⟨h1,h2,_⟩:=g9.ent s _ hx;obtain⟨_,h4,_⟩:=g9.ent r _ hr;simp only[R]at h2;obtain⟨b,o',cs,e,h6,_,_⟩:=(zA3 q.reverse t _ [] h4 hg).2 hl;simp only[rp,Ki,Jh]at h6;have h7:=zB0 h6;simp only[Loc]at h6;have g6:=zCa xs q 0 b o' j u h6.2 hu;simp only[Ji]at g6;refine⟨.pointer (jf (G.ad r (j::q))),w,?_,_,vE g9 rfl hd (fun _=>.pointer (jf (G.ad r (j::q)))) (fun _=>rfl) _ _ (by simp[mkV,Gh.put]) (by simp[R,Gh.put]) (by simp[Top])⟩;have g7:=zCb (w:=w) (b:=b) (o':=o') hS hf hi hz;simp[execOp,ho,xW h1,mkV,h2,h7,g7,zB0 g6,gB]
 |const v=>simp only[opT]at hx;split at hx<;>simp at hx
 |func f=>simp[opT]at hx
 |global g=>simp[opT]at hx
theorem zDA{w:World}(g9:Rep Γ E G a.tmps w)(hx:opT E x=jf (.ro u)):RoC Γ.St u #[a.eval x] 0:=by
 cases x with
 |tmp s=>
  obtain⟨h1,h2,_⟩:=g9.ent s _ hx;simp only[R]at h2;rw[xW h1,yV rfl];exact h2
 |const v=>simp only[opT]at hx;split at hx<;>simp at hx
 |func f=>simp[opT]at hx
 |global g=>simp[opT]at hx
theorem zT4(x:Operand)(S:TypeId)(fs:Array Field)(f:Field)(fi:TypeInfo)(j:Nat)(xs:List T)(u:T)(ho:o.op=.fieldAddr S x j)(gg:o.dst=jf d)(hd:d<Γ.N)
  (hS:P.underlying S=jf (.struct fs))(hf:fs[j]? =jf f)(hi:P.info? f.type=jf fi)(hz:fi.size≠0)(hx:opT E x=jf (.ro (.ptr (.agg xs))))(hu:xs[j]? =jf u)(gB:T.sizes (xs.take j)=f.offset:=by omega):
  xZ P Γ o E (E.app [(d,jf (.ro (.ptr u)))] [(d,0)]):=by
 refine xZ.value gg fun a w G g9=>?_
 have h1:=zDA g9 hx;simp only[RoC]at h1;obtain⟨b,o',cs',e,fr,h2,h3,h4⟩:=h1;have h5:=zKj xs cs' o' j u h4 hu;refine⟨.pointer (jf ⟨b,o'+f.offset,jg⟩),w,?_,_,vE g9 rfl hd (fun _=>.pointer (jf ⟨b,o'+f.offset,jg⟩)) (fun _=>rfl) _ _ (by simp[mkV,Gh.put]) ?_ (by simp[Top])⟩
 ·have g7:=zCb (w:=w) (b:=b) (o':=o') hS hf hi hz
  have h6:a.eval x=.pointer (jf ⟨b,o',jg⟩):=by simpa using h2
  simp[execOp,ho,h6,g7]
 ·simp only[R,Gh.put_self,RoC]
  exact⟨b,o'+f.offset,cs',e,fr,by simp,h3,by rw[<-gB];exact h5⟩
def zFl:TypeDesc->Bool
 |.struct _|.array _ _=>jh
 |_=>ji
theorem qP{P:Program}{w:World}{t:TypeId}{ds:TypeDesc}(ht:P.underlying t=jf ds):(isAgg t).run P w=.ok (zFl ds) w:=by cases ds<;>simp[isAgg,run_underlying ht,zFl]
theorem vF{w:World}{s:Nat}{t:T}{p:List Nat}{b o:Nat}(ht:t.single=jh)(h:Loc G w s t p b o):G.ad s p=⟨b,o,jg⟩/\G.lb b o=jf (ji,s,p)/\yN w b o=jf (G.hd s p):=by cases t<;>simp[T.single]at ht<;>simpa only[Loc]using h
mutual
theorem zT5{G:Gh}{w:World}{s:Nat}:(t:T)-> ∀(p:List Nat)(b o:Nat),Loc G w s t p b o-> ∀(i:Nat)(v:Value),(vals G s t p)[i]? =jf v->yN w b (o+i)=jf v
 |.agg xs,p,b,o,h,i,v,hv=>by simp only[Loc,vals]at h hv;exact zAW xs p 0 b o h.2 i v hv
 |.any,p,b,o,h,i,v,hv|.lit _,p,b,o,h,i,v,hv|.ro _,p,b,o,h,i,v,hv|.same _ _,p,b,o,h,i,v,hv|.addr _ _,p,b,o,h,i,v,hv|.sub _ _ _ _ _,p,b,o,h,i,v,hv|.sl _ _,p,b,o,h,i,v,hv|.ptr _,p,b,o,h,i,v,hv=>by
  simp only[Loc,vals]at h hv;cases i with
  |zero=>simp at hv;rw[<-hv];exact h.2.2
  |succ i=>simp at hv
 |.tup _,_,_,_,h,_,_,_=>by simp only[Loc]at h
theorem zAW{G:Gh}{w:World}{s:Nat}:(xs:List T)-> ∀(p:List Nat)(j b o:Nat),vQ G w s xs p j b o-> ∀(i:Nat)(v:Value),(yE G s xs p j)[i]? =jf v->yN w b (o+i)=jf v
 | [],_,_,_,_,_,i,v,hv=>by simp[yE]at hv
 |x::xs,p,j,b,o,h,i,v,hv=>by
  simp only[vQ,yE]at h hv;rw[Ks]at hv;split at hv
  ·exact zT5 x (j::p) b o h.1 i v hv
  ·rename_i hge
   have gf:=vL (G:=G) (s:=s) x (j::p) (fun ys e=>by subst e;simp only[Loc]at h;exact h.1);have:=zAW xs p (j+1) b (o+x.size) h.2 _ v hv
   rwa [show o+x.size+(i-(vals G s x (j::p)).length)=o+i from by omega]at this
theorem vL{G:Gh}{s:Nat}:(t:T)-> ∀(p:List Nat),(∀xs,t≠.tup xs)->(vals G s t p).length=t.size
 |.agg xs,p,_=>by simp only[vals,T.size];exact wO xs p 0
 |.any,_,_|.lit _,_,_|.ro _,_,_|.same _ _,_,_|.addr _ _,_,_|.sub _ _ _ _ _,_,_|.sl _ _,_,_|.ptr _,_,_|.tup _,_,_=>by simp[vals,T.size]
theorem wO{G:Gh}{s:Nat}:(xs:List T)-> ∀(p:List Nat)(j:Nat),(yE G s xs p j).length=T.sizes xs
 | [],_,_=>by simp[yE,T.sizes]
 |x::xs,p,j=>by
  simp only[yE,J5,T.sizes,wO xs p (j+1)]
  by_cases hx:∃ys,x=.tup ys
  ·obtain⟨ys,rfl⟩:=hx;simp[vals,T.size]
  ·rw[vL x (j::p) (fun ys e=>hx ⟨ys,e⟩)]
end
theorem zFW{P:Program}{w:World}{s:Nat}{t:T}{p:List Nat}{b o':Nat}{T':TypeId}{ds:TypeDesc}(hT:P.underlying T'=jf ds)(hi:P.info? T'=jf ti)(hl:Loc G w s t p b o')
  (fg:zFl ds= !t.single)(gr:ti.size=t.size):(loadVar T' ⟨b,o',jg⟩).run P w=.ok (sD G s t p) w:=by
 cases t with
 |agg xs=>
  have h1:=run_loadCells_list (P:=P) (w:=w) ⟨b,o',jg⟩ (yE G s xs p 0) (fun j v hv=>by rw[uO];simp only[Loc]at hl;exact zAW xs p 0 b o' hl.2 j v hv)
  rw[wO]at h1;simp only[T.size]at gr;simp[T.single]at fg;simp[loadVar,qP hT,fg,sizeOf,typeInfo,hi,gr,h1,sD]
 |tup xs=>simp only[Loc]at hl
 |_=>
  have h1:=(vF rfl hl).2.2;simp[T.single]at fg;simp only[yN]at h1;simp[loadVar,qP hT,fg,load,Sem.run,h1,sD]
def zBO(Γ:Ctx)(E:Env)(x:Operand)(r:Nat)(q:List Nat):Prop:=∀(a:Act)(w:World)(G:Gh),Rep Γ E G a.tmps w->a.eval x=.pointer (jf (G.ad r q))
theorem zBO.addr(hx:opT E x=jf (.addr r q)):zBO Γ E x r q:=fun a w G g9=>by
 cases x with
 |tmp s=>
  obtain⟨h1,h2,_⟩:=g9.ent s _ hx;simp only[R]at h2;rw[xW h1];exact h2
 |const v=>simp only[opT]at hx;split at hx<;>simp at hx
 |func f=>simp[opT]at hx
 |global g=>simp[opT]at hx
theorem zBO.ptr{t:T}(hx:tD E x=jf (r,q,.ptr t)):zBO Γ E x r (0::q):=fun a w G g9=>by obtain⟨g1,g2⟩:=qS g9 hx rfl;simp only[R]at g1;obtain⟨b,cs,e,g4,_,_,_,g5,_⟩:=g1;rw[g2,g4,zB0 g5]
theorem zL9(x:Operand)(T':TypeId)(ds:TypeDesc)(ti:TypeInfo)(r:Nat)(q:List Nat)(t u:T)(ho:o.op=.load T' x)(gg:o.dst=jf d)(hd:d<Γ.N)
  (hT:P.underlying T'=jf ds)(hi:P.info? T'=jf ti)(fg:zFl ds= !u.single)(gr:ti.size=u.size)
  (hx:zBO Γ E x r q)(hr:E r=jf t)(hg:t.get q.reverse=jf u)(hl:t.locd q.reverse=jh)(gN:r≠d)(gz:T.okB [(d,0)] (cpT r u q)=jh):
  xZ P Γ o E (E.app [(d,jf (cpT r u q))] [(d,0)]):=by
 refine xZ.value gg fun a w G g9=>?_
 have bI:=hx a w G g9;obtain⟨_,h4,_⟩:=g9.ent r _ hr;obtain⟨h5,h6⟩:=zA3 q.reverse t u [] h4 hg;obtain⟨b,o',cs,e,h6,_,_⟩:=h6 hl;simp only[rp,Ki,Jh]at h5 h6;have hJ:∀xs,u≠.tup xs:=by rintro xs rfl;simp only[Loc]at h6
 have h7:=zB0 h6;have hz:∀z,(G.put d (fun z=>G.hd r (z++q))).hd d (z++[])=G.hd r (z++q):=fun z=>by rw[Gh.put_self,Jh]
 have hk:=G.put_keep (w:=w) (w':=w) rfl d (fun z=>G.hd r (z++q));refine⟨sD G r u q,w,?_,_,vE g9 rfl hd (fun z=>G.hd r (z++q)) (fun z=>g9.mem.one _ _) _ _ (zAk u q [] hJ hz).symm
  (zD8 (fun p=>G.put_other _ p gN) u q [] hz hJ (hk.keepR (kW _ (qD r u q) gz)) h5) (qD r u q)⟩
 have h8:=zFW (T':=T') hT hi h6 fg gr;simp[execOp,ho,bI,h7,Instr.loadAt,uY,h8]
theorem zXP(x:Operand)(T':TypeId)(ds:TypeDesc)(ti:TypeInfo)(r:Nat)(q:List Nat)(t u:T)(ho:o.op=.load T' x)(gg:o.dst=jf d)(hd:d<Γ.N)
  (hT:P.underlying T'=jf ds)(hi:P.info? T'=jf ti)(fg:zFl ds= !u.single)(gr:ti.size=u.size)
  (hx:opT E x=jf (.addr r q))(hr:E r=jf t)(hg:t.get q.reverse=jf u)(hl:t.locd q.reverse=jh)(gN:r≠d)(gz:T.okB [(d,0)] (cpT r u q)=jh):
  xZ P Γ o E (E.app [(d,jf (cpT r u q))] [(d,0)]):=zL9 x T' ds ti r q t u ho gg hd hT hi fg gr (zBO.addr hx) hr hg hl gN gz
def roT:T->T
 |.lit v=>.lit v
 |.agg xs=>.agg (roTs xs)
 |.ro t=>.ro (.ro t)
 |.any=>.any
 |.same r q=>.ro (.same r q)
 |.addr r q=>.ro (.addr r q)
 |.sub r q k lo hi=>.ro (.sub r q k lo hi)
 |.sl k xs=>.ro (.sl k xs)
 |.ptr t=>.ro (.ptr t)
 |.tup xs=>.ro (.tup xs)
where roTs:List T->List T
 | []=>[]
 |x::xs=>roT x::roTs xs
end
def jE(v:Value):Value:=if v.oneCell' then v else .bool ji
theorem zAX(v:Value):(jE v).oneCell'=jh:=by
 unfold jE;split
 ·assumption
 ·rfl
theorem jR{v:Value}(h:v.oneCell'=jh):jE v=v:=by simp[jE,h]
def zDB:T->Array Value->Nat->List Nat->Value
 |.agg xs,cs,o,i::f=>match xs[i]? with
  |some x=>zDB x cs (o+T.sizes (xs.take i)) f
  |none=>.bool ji
 |_,cs,o,_=>cs.getD o (.bool ji)
termination_by structural _ _ _ f=>f
theorem zA5{t:T}(h:t.single=jh)(cs:Array Value)(o:Nat)(f:List Nat):zDB t cs o f=cs.getD o (.bool ji):=by cases t<;>simp[T.single]at h<;>cases f<;>rfl
mutual
theorem zEl:(u:T)->(∀xs,u≠.tup xs)->(roT u).size=u.size
 |.agg xs,_=>by simp only[roT,T.size];exact zFm xs
 |.lit _,_|.any,_|.sl _ _,_|.ptr _,_|.ro _,_|.same _ _,_|.addr _ _,_|.sub _ _ _ _ _,_|.tup _,_=>by simp[roT,T.size]
theorem zFm:(xs:List T)->T.sizes (roT.roTs xs)=T.sizes xs
 | []=>by simp only[roT.roTs]
 |x::xs=>by
  simp only[roT.roTs,T.sizes,zFm xs]
  by_cases hx:∃ys,x=.tup ys
  ·obtain⟨ys,rfl⟩:=hx;simp[roT,T.size]
  ·rw[zEl x (fun ys e=>hx ⟨ys,e⟩)]
end
section
variable {St:Stb}{G:Gh}{w:World}{d:Nat}
theorem zCc{cs:Array Value}{o:Nat}(hu:u.single=jh)(h:RoC St u cs o):∃v,cs[o]? =jf v/\v.oneCell'=jh/\RoC St u #[v] 0:=by
 cases u<;>simp[T.single]at hu<;>simp only[RoC]at h ⊢
 ·obtain⟨v,h1,h2⟩:=h;exact⟨v,h1,h2,v,by simp,h2⟩
 ·exact⟨_,h.1,h.2,by simp,h.2⟩
 ·obtain⟨f,vs,h1,h2⟩:=h;exact⟨_,h1,rfl,f,vs,by simp,h2⟩
 ·obtain⟨a,c,h1,h2⟩:=h;exact⟨_,h1,rfl,a,c,by simp,h2⟩
 ·obtain⟨b,o',cs',e,fr,h1,h2⟩:=h;exact⟨_,h1,rfl,b,o',cs',e,fr,by simp,h2⟩
mutual
theorem zT6:(u:T)-> ∀(cs:Array Value)(o:Nat)(p:List Nat),(∀z,G.hd d (z++p)=jE (zDB u cs o z.reverse))->RoC St u cs o->R St G w d (roT u) p
 |.agg xs,cs,o,p,hd,h=>by
  simp only[roT,R,RoC]at h ⊢
  exact zT7 xs cs o p 0 o (by simp) (fun z j x hx=>by have:=hd (z++[j]);simp only[Jg,K9,K0,Qu,G8,Hw,zDB]at this;rw[Ji,this];simp[hx]) h
 |.lit v,cs,o,p,hd,h=>by
  simp only[roT,R,RoC]at h ⊢
  have:=hd [];rw[K0,zA5 rfl]at this;rw[this];simp[Kn,h.1,jR h.2]
 |.any,_,_,_,_,_=>by simp only[roT,R]
 |.ro _,cs,o,p,hd,h|.sl _ _,cs,o,p,hd,h|.ptr _,cs,o,p,hd,h=>by obtain⟨v,h1,h2,h3⟩:=zCc rfl h;have:=hd [];rw[K0,zA5 rfl]at this;simp only[roT,R];rw[this];simpa[Kn,h1,jR h2]using h3
 |.same _ _,_,_,_,_,h|.addr _ _,_,_,_,_,h|.sub _ _ _ _ _,_,_,_,_,h|.tup _,_,_,_,_,h=>by simp only[RoC]at h
theorem zT7:(xs:List T)-> ∀(cs:Array Value)(o0:Nat)(p:List Nat)(j o:Nat),o0<=o->(∀z i x,xs[i]? =jf x->G.hd d (z++((j+i)::p))=jE (zDB x cs (o+T.sizes (xs.take i)) z.reverse))->RoF St xs cs o->RF St G w d (roT.roTs xs) p j
 | [],_,_,_,_,_,_,_,_=>by simp only[roT.roTs,RF]
 |x::xs,cs,o0,p,j,o,ho,hd,h=>by
  simp only[roT.roTs,RF,RoF]at h ⊢
  refine⟨zT6 x cs o (j::p) (fun z=>by simpa[T.sizes]using hd z 0 x (by simp)) h.1,zT7 xs cs o0 p (j+1) (o+x.size) (by omega) (fun z i y hy=>?_) h.2⟩;have:=hd z (i+1) y (by simpa using hy);simp only[L5,T.sizes]at this;rw[show j+1+i=j+(i+1)from by omega,show o+x.size+T.sizes (xs.take i)=o+(x.size+T.sizes (xs.take i))from Ha ..];exact this
end
mutual
theorem zGT:(u:T)-> ∀(cs:Array Value)(o:Nat)(p:List Nat),(∀z,G.hd d (z++p)=jE (zDB u cs o z.reverse))->RoC St u cs o-> ∀(i:Nat)(v:Value),(vals G d (roT u) p)[i]? =jf v->cs[o+i]? =jf v
 |.agg xs,cs,o,p,hd,h,i,v,hv=>by
  simp only[roT,vals,RoC]at h hv;exact zJa xs cs p 0 o (fun z j x hx=>by have:=hd (z++[j]);simp only[Jg,K9,K0,Qu,G8,Hw,zDB]at this;rw[Ji,this];simp[hx]) h i v hv
 |.lit _,cs,o,p,hd,h,i,v,hv|.ro _,cs,o,p,hd,h,i,v,hv|.any,cs,o,p,hd,h,i,v,hv|.sl _ _,cs,o,p,hd,h,i,v,hv|.ptr _,cs,o,p,hd,h,i,v,hv=>by
  obtain⟨v',h1,h2,h3⟩:=zCc rfl h;have:=hd [];rw[K0,zA5 rfl]at this;simp only[roT,vals]at hv;cases i with
  |zero=>
   simp at hv;rw[<-hv,this];simp[Kn,h1,jR h2]
  |succ i=>simp at hv
 |.same _ _,_,_,_,_,h,_,_,_|.addr _ _,_,_,_,_,h,_,_,_|.sub _ _ _ _ _,_,_,_,_,h,_,_,_|.tup _,_,_,_,_,h,_,_,_=>by simp only[RoC]at h
theorem zJa:(xs:List T)-> ∀(cs:Array Value)(p:List Nat)(j o:Nat),(∀z i x,xs[i]? =jf x->G.hd d (z++((j+i)::p))=jE (zDB x cs (o+T.sizes (xs.take i)) z.reverse))->RoF St xs cs o-> ∀(i:Nat)(v:Value),(yE G d (roT.roTs xs) p j)[i]? =jf v->cs[o+i]? =jf v
 | [],_,_,_,_,_,_,i,v,hv=>by simp[roT.roTs,yE]at hv
 |x::xs,cs,p,j,o,hd,h,i,v,hv=>by
  simp only[roT.roTs,yE,RoF]at h hv;have hx:∀z,G.hd d (z++(j::p))=jE (zDB x cs o z.reverse):=fun z=>by simpa[T.sizes]using hd z 0 x (by simp)
  have gf:(vals G d (roT x) (j::p)).length=x.size:=by have hs:(roT x).size=x.size:=zEl x (fun ys e=>by subst e;simp only[RoC]at h;exact h.1);rw[vL (roT x) (j::p) (fun ys e=>by cases x<;>simp[roT]at e),hs]
  rw[Ks]at hv;split at hv
  ·exact zGT x cs o (j::p) hx h.1 i v hv
  ·have:=zJa xs cs p (j+1) (o+x.size) (fun z i y hy=>by
    have:=hd z (i+1) y (by simpa using hy);simp only[L5,T.sizes]at this;rw[show j+1+i=j+(i+1)from by omega,show o+x.size+T.sizes (xs.take i)=o+(x.size+T.sizes (xs.take i))from Ha ..];exact this) h.2 _ v hv
   rwa [gf,show o+x.size+(i-x.size)=o+i from by omega]at this
end
mutual
theorem zQc:(u:T)->Top (roT u)
 |.agg xs=>by simp only[roT,Top];exact zLA xs
 |.lit _|.any|.sl _ _|.ptr _|.ro _|.same _ _|.addr _ _|.sub _ _ _ _ _|.tup _=>by simp[roT,Top]
theorem zLA:(xs:List T)->uK (roT.roTs xs)
 | []=>by simp only[roT.roTs,uK]
 |x::xs=>by simp only[roT.roTs,uK];exact⟨zQc x,zLA xs⟩
end
end
section
variable {P:Program}{Γ:Ctx}{E:Env}{o:Oper}{d:Nat}
theorem zKk{w:World}(hm:Mem Γ G w){b:Nat}{cs:Array Value}{fr:Nat×Nat}(h:Γ.St b=jf (.cells cs e fr))(i:Nat):w.cell? ⟨b,i,jg⟩=cs[i]?:=by simp[World.cell?,hm.st b _ h]
theorem zOe(x:Operand)(T':TypeId)(ds:TypeDesc)(ti:TypeInfo)(u:T)(ho:o.op=.load T' x)(gg:o.dst=jf d)(hd:d<Γ.N)
  (hT:P.underlying T'=jf ds)(hi:P.info? T'=jf ti)(fg:zFl ds= !u.single)(gr:ti.size=u.size)
  (hx:opT E x=jf (.ro (.ptr u))):xZ P Γ o E (E.app [(d,jf (roT u))] [(d,0)]):=by
 refine xZ.value gg fun a w G g9=>?_
 have h1:=zDA g9 hx;simp only[RoC]at h1;obtain⟨b,o',cs',e,fr,h2,h3,h4⟩:=h1;have fO:a.eval x=.pointer (jf ⟨b,o',jg⟩):=by simpa using h2
 have hJ:∀xs,u≠.tup xs:=by rintro xs rfl;simp only[RoC]at h4
 let f:List Nat->Value:=fun z=>jE (zDB u cs' o' z.reverse)
 have hz:∀z,(G.put d f).hd d (z++[])=jE (zDB u cs' o' z.reverse):=fun z=>by rw[Gh.put_self,Jh]
 refine⟨mkV (G.put d f) d (roT u) [],w,?_,_,vE g9 rfl hd f (fun z=>zAX _) _ _ rfl (zT6 u cs' o' [] hz h4) (zQc u)⟩;cases u with
 |agg xs=>
  have h5:∀j v,(yE (G.put d f) d (roT.roTs xs) [] 0)[j]? =jf v->w.cell? ((⟨b,o',jg⟩:Addr).add j)=jf v:=by intro j v hv;rw[uO,zKk g9.mem h3];exact zGT (.agg xs) cs' o' [] hz h4 j v (by simpa only[roT,vals]using hv)
  have h6:=run_loadCells_list (P:=P) (w:=w) ⟨b,o',jg⟩ _ h5;rw[wO,zFm]at h6;simp only[T.size]at gr;simp[T.single]at fg;simp[execOp,ho,fO,Instr.loadAt,uY,loadVar,qP hT,fg,sizeOf,typeInfo,hi,gr,h6,mkV,roT]
 |tup xs=>exact absurd rfl (hJ xs)
 |_=>
  obtain⟨v,h5,h6,h7⟩:=zCc rfl h4;have h8:w.cell? ⟨b,o',jg⟩=jf v:=by rw[zKk g9.mem h3];exact h5
  simp[T.single]at fg;have h9:f []=v:=by show jE (zDB _ cs' o' _)=v;rw[zA5 rfl];simp[Kn,h5,jR h6]
  simp[execOp,ho,fO,Instr.loadAt,uY,loadVar,qP hT,fg,load,Sem.run,h8,mkV,roT,Gh.put_self,h9]
def zFX(E:Env)(x:Operand):Bool:=
 match opT E x with
 |some (.addr _ _)|some (.ro (.ptr _))=>jh
 |_=>match tD E x with
  |some (_,_,.ptr _)=>jh
  |some (_,_,.ro (.ptr _))=>jh
  |_=>ji
theorem zT8{w:World}(g9:Rep Γ E G a.tmps w)(h:zFX E x=jh):∃ad,a.eval x=.pointer (jf ad):=by
 unfold zFX at h;split at h
 ·rename_i r q hx
  cases x with
  |tmp s=>
   obtain⟨h1,h2,_⟩:=g9.ent s _ hx;simp only[R]at h2;exact⟨_,by rw[xW h1,yV rfl,h2]⟩
  |const v=>simp only[opT]at hx;split at hx<;>simp at hx
  |func f=>simp[opT]at hx
  |global g=>simp[opT]at hx
 ·rename_i u hx
  have:=zDA g9 hx;simp only[RoC]at this;obtain⟨b,o',_,_,_,h1,_⟩:=this;exact⟨_,by simpa using h1⟩
 ·split at h
  ·rename_i hl
   obtain⟨h1,h2⟩:=qS g9 hl rfl;simp only[R]at h1;obtain⟨b,cs,e,h3,_⟩:=h1;exact⟨_,by rw[h2,h3]⟩
  ·rename_i hl
   obtain⟨h1,h2⟩:=qS g9 hl rfl;simp only[R,RoC]at h1;obtain⟨b,o',_,_,_,h3,_⟩:=h1;exact⟨_,by rw[h2];simpa using h3⟩
  ·cases h
theorem yAN(x:Operand)(t:T)(ho:o.op=.nilCheck x)(gg:o.dst=jf d)(hd:d<Γ.N)(hx:opT E x=jf t)(hp:zFX E x=jh)(ht:∀xs,t≠.tup xs)
  (gc:∀s,x=.tmp s->s≠d)(gz:T.okB [(d,0)] (tC x t)=jh):xZ P Γ o E (E.app [(d,jf (tC x t))] [(d,0)]):=by
 refine xZ.value gg fun a w G g9=>?_
 obtain⟨f,hf,h1,h2⟩:=opd g9 hx ht;obtain⟨h3,h4⟩:=h1 d gc gz;obtain⟨ad,h5⟩:=zT8 g9 hp;refine⟨a.eval x,w,?_,_,vE g9 rfl hd f hf _ _ h3 h4 h2⟩;simp[execOp,ho,h5]
theorem zLB{G:Gh}{s:Nat}:(xs:List T)-> ∀(p:List Nat)(j i:Nat)(x:T),xs[i]? =jf x->(jY G s xs p j)[i]? =jf (sD G s x ((j+i)::p))
 | [],_,_,_,_,h=>by simp at h
 |y::ys,p,j,i,x,h=>by
  cases i with
  |zero=>simp at h;subst h;simp[jY]
  |succ i=>
   have:=zLB (G:=G) (s:=s) ys p (j+1) i x (by simpa using h);rw[show j+(i+1)=j+1+i from by omega];simpa[jY]using this
theorem zOf(s i:Nat)(ts:List T)(t:T)(ho:o.op=.extract (.tmp s) i)(gg:o.dst=jf d)(hd:d<Γ.N)(hs:E s=jf (.tup ts))(hi:ts[i]? =jf t)(ht:∀xs,t≠.tup xs)
  (gc:s≠d)(gz:T.okB [(d,0)] (cpT s t [i])=jh):xZ P Γ o E (E.app [(d,jf (cpT s t [i]))] [(d,0)]):=by
 refine xZ.value gg fun a w G g9=>?_
 obtain⟨h1,h2,_⟩:=g9.ent s _ hs;simp only[R]at h2;have h3:=zAL ts [] 0 i t h2 hi;simp only[Ji]at h3;have h4:=zLB (G:=G) (s:=s) ts [] 0 i t hi;simp only[Ji]at h4;have hk:=G.put_keep (w:=w) (w':=w) rfl d (fun z=>G.hd s (z++[i]));have hz:∀z,(G.put d (fun z=>G.hd s (z++[i]))).hd d (z++[])=G.hd s (z++[i]):=fun z=>by rw[Gh.put_self,Jh]
 refine⟨sD G s t [i],w,?_,_,vE g9 rfl hd (fun z=>G.hd s (z++[i])) (fun z=>g9.mem.one _ _) _ _ (zAk t [i] [] ht hz).symm
  (zD8 (fun p=>G.put_other _ p gc) t [i] [] hz ht (hk.keepR (kW _ (qD s t [i]) gz)) h3) (qD s t [i])⟩
 simp[execOp,ho,xW h1,mkV,Instr.extract,h4]
def zB1(E:Env)(x:Option Operand)(dflt n:Nat):Prop:=
 match x with
 |none=>n=dflt
 |some y=> ∃kd,opT E y=jf (.lit (.int kd n))
theorem zGU{St:Stb}:(xs:List T)-> ∀(cs:Array Value)(o k l:Nat),RoL St xs cs o k->RoL St (xs.drop l) cs (o+l*k) k
 | [],_,_,_,_,_=>by simp[RoL]
 |x::xs,cs,o,k,l,h=>by
  cases l with
  |zero=>simpa using h
  |succ l=>
   simp only[RoL]at h;have:=zGU xs cs (o+k) k l h.2
   rwa [List.drop_succ_cons,show o+(l+1)*k=o+k+l*k from by rw[K8];omega]
theorem zGV{St:Stb}:(xs:List T)-> ∀(cs:Array Value)(o k l:Nat),RoL St xs cs o k->RoL St (xs.take l) cs o k
 | [],_,_,_,_,_=>by simp[RoL]
 |x::xs,cs,o,k,l,h=>by
  cases l with
  |zero=>simp[RoL]
  |succ l=>simp only[RoL,L5]at h ⊢;exact⟨h.1,zGV xs cs _ k l h.2⟩
theorem zCM{P:Program}{w:World}(g9:Rep Γ E G a.tmps w){kd:IntKind}{n y:Nat}{c:BoundsCode}(hx:opT E x=jf (.lit (.int kd n)))(h:n<=y):
  (Instr.sliceBound (a.eval x) y c).run P w=.ok n w:=by
 rw[(xY g9 hx).1];have:(n:Int)<=(y:Int):=by omega
 simp[Instr.sliceBound,asIntOf,this]
theorem zGW{P:Program}{w:World}(g9:Rep Γ E G a.tmps w){lo hi:Option Operand}{l h n c:Nat}(eK:zB1 E lo 0 l)(fy:zB1 E hi n h)(h1:l<=h)(h2:h<=c):
  (Instr.sliceBounds jh n c (lo.map a.eval) (hi.map a.eval) jg).run P w=.ok (l,h,c) w:=by
 cases lo with
 |none=>
  cases hi with
  |none=>simp only[zB1]at eK fy;subst eK;subst fy;simp[Instr.sliceBounds]
  |some y=>simp only[zB1]at eK fy;obtain⟨kd,hy⟩:=fy;subst eK;simp[Instr.sliceBounds,zCM g9 hy h2]
 |some x=>
  obtain⟨kd,hx⟩:=eK;cases hi with
  |none=>simp only[zB1]at fy;subst fy;simp[Instr.sliceBounds,zCM g9 hx h1]
  |some y=>obtain⟨kd',hy⟩:=fy;simp[Instr.sliceBounds,zCM g9 hy h2,zCM g9 hx h1]
theorem zLC(x:Operand)(lo hi:Option Operand)(t e:TypeId)(ti:TypeInfo)(r:Nat)(q:List Nat)(k:Nat)(xs:List T)(l h:Nat)(ho:o.op=.slice t x lo hi jg)(gg:o.dst=jf d)(hd:d<Γ.N)
  (ht:P.underlying t=jf (.slice e))(he:P.info? e=jf ti)(hk:ti.size=k)(hx:tD E x=jf (r,q,.ro (.sl k xs)))(eK:zB1 E lo 0 l)(fy:zB1 E hi xs.length h)(h1:l<=h)(h2:h<=xs.length):
  xZ P Γ o E (E.app [(d,jf (.ro (.sl k ((xs.drop l).take (h-l)))))] [(d,0)]):=by
 refine xZ.value gg fun a w G g9=>?_
 obtain⟨g1,g2⟩:=qS g9 hx rfl;obtain⟨a',c,g4,g5,g6,g7⟩:=zCL g1;have g8:=zGW (P:=P) g9 eK fy h1 (H8 h2 g5);have gf:((xs.drop l).take (h-l)).length=h-l:=by simp;omega
 refine⟨.slice (if c=l then a' else a'.map (·.add (l*k))) (h-l) (c-l),w,?_,_,vE g9 rfl hd (fun _=>.slice (if c=l then a' else a'.map (·.add (l*k))) (h-l) (c-l)) (fun _=>rfl) _ _ (by simp[mkV,Gh.put]) ?_ (by simp[Top])⟩
 ·simp only[execOp,ho,Jac]
  simp[Instr.sliceAt,Instr.slice,run_underlying ht,g2,g4,g8,sizeOf,typeInfo,he,hk]
 ·simp only[R,Gh.put_self,RoC]
  refine⟨_,_,by rw[gf];rfl,by omega,by omega,?_⟩;intro gc;have eJ:xs≠[]:=by rintro rfl;simp at gc
  obtain⟨b,o',cs',e',fr,rfl,h3,h4⟩:=g7 eJ;have gy:c≠l:=by rintro rfl;apply gc;apply Kf;omega
  exact⟨b,o'+l*k,cs',e',fr,by simp[gy,uO],h3,zGV _ _ _ _ _ (zGU _ _ _ _ _ h4)⟩
theorem zKl(x:Operand)(lo hi:Option Operand)(t e:TypeId)(ti:TypeInfo)(r:Nat)(q:List Nat)(k:Nat)(xs:List T)(l h:Nat)(ho:o.op=.slice t x lo hi jg)(gg:o.dst=jf d)(hd:d<Γ.N)
  (ht:P.underlying t=jf (.slice e))(he:P.info? e=jf ti)(hk:ti.size=k)(hx:tD E x=jf (r,q,.sl k xs))(eK:zB1 E lo 0 l)(fy:zB1 E hi xs.length h)(h1:l<=h)(h2:h<=xs.length)(gN:r≠d):
  xZ P Γ o E (E.app [(d,jf (.sub r q k l h))] [(d,0)]):=by
 refine xZ.value gg fun a w G g9=>?_
 obtain⟨g1,g2⟩:=qS g9 hx rfl;obtain⟨a',c,g4⟩:=zKi g1;have g5:xs.length<=c:=by
  simp only[R]at g1;rcases g1 with⟨rfl,_⟩|⟨b,o0,cap,cs,e,g,_,g',_⟩
  ·simp
  ·rw[g4]at g;simp at g;omega
 have g8:=zGW (P:=P) g9 eK fy h1 (H8 h2 g5);refine⟨zAU (G.hd r q) k l h,w,?_,_,vE g9 rfl hd (fun _=>zAU (G.hd r q) k l h) (fun _=>by rw[g4];rfl) _ _ (by simp[mkV,Gh.put]) ?_ (by simp[Top])⟩
 ·simp only[execOp,ho,Jac]
  simp[Instr.sliceAt,Instr.slice,run_underlying ht,g2,g4,g8,sizeOf,typeInfo,he,hk,zAU]
 ·simp only[R,Gh.put_self]
  rw[Gh.put_other _ _ _ gN]
end
def T.inT:T->List Nat->Bool
 |_,[]=>jh
 |.agg xs,i::f=>match xs[i]? with
  |some x=>x.inT f
  |none=>ji
 |.any,_::_|.lit _,_::_|.ro _,_::_|.same _ _,_::_|.addr _ _,_::_|.sub _ _ _ _ _,_::_|.sl _ _,_::_|.ptr _,_::_|.tup _,_::_=>ji
termination_by structural _ f=>f
def T.offT:T->List Nat->Nat
 |_,[]=>0
 |.agg xs,i::f=>match xs[i]? with
  |some x=>T.sizes (xs.take i)+x.offT f
  |none=>0
 |.any,_::_|.lit _,_::_|.ro _,_::_|.same _ _,_::_|.addr _ _,_::_|.sub _ _ _ _ _,_::_|.sl _ _,_::_|.ptr _,_::_|.tup _,_::_=>0
termination_by structural _ f=>f
theorem zGX{t:T}(h:t.single=jh)(hf:f≠[]):t.inT f=ji:=by
 cases f with
 |nil=>grind
 |cons i f=>cases t<;>simp[T.single]at h<;>rfl
mutual
def zT9:T->List Nat->Nat->Option (List Nat)
 |.agg xs,p,o=>zCd xs p 0 o
 |.any,p,o|.lit _,p,o|.ro _,p,o|.same _ _,p,o|.addr _ _,p,o|.sub _ _ _ _ _,p,o|.sl _ _,p,o|.ptr _,p,o|.tup _,p,o=>if o=0 then jf p else jg
def zCd:List T->List Nat->Nat->Nat->Option (List Nat)
 | [],_,_,_=>jg
 |x::xs,p,j,o=>if o<x.size then zT9 x (j::p) o else zCd xs p (j+1) (o-x.size)
end
mutual
def T.okTup:T->Bool
 |.tup _=>ji
 |.agg xs=>yM xs
 |.any|.lit _|.ro _|.same _ _|.addr _ _|.sub _ _ _ _ _|.sl _ _|.ptr _=>jh
def yM:List T->Bool
 | []=>jh
 |x::xs=>x.okTup&&yM xs
end
theorem zDC:(xs:List T)-> ∀(p:List Nat)(j o:Nat),T.sizes xs<=o->zCd xs p j o=jg
 | [],_,_,_,_=>by rfl
 |x::xs,p,j,o,h=>by simp only[T.sizes]at h;simp only[zCd];rw[if_neg (by omega)];exact zDC xs p (j+1) _ (by omega)
section
variable {G:Gh}{w:World}{d:Nat}
mutual
theorem yAO:(x:T)-> ∀(p:List Nat)(B o:Nat),(∀xs,x≠.tup xs)->x.okTup=jh->
  (∀f,x.inT f=jh->G.ad d (f.reverse++p)=⟨B,o+x.offT f,jg⟩)->(∀j p',j<x.size->zT9 x p j=jf p'->G.lb B (o+j)=jf (ji,d,p'))->
  (∀j v,(vals G d x p)[j]? =jf v->yN w B (o+j)=jf v)->Loc G w d x p B o
 |.agg xs,p,B,o,_,hn,ha,hl,hc=>by
  simp only[Loc];refine⟨by simpa[T.offT]using ha [] rfl,zG6 xs p 0 B o (by grind[T.okTup]) (fun i x hx f hf=>?_) (fun j p' hj hp=>?_) (by grind[vals])⟩
  ·have:=ha (i::f) (by grind[T.inT])
   grind[T.offT]
  grind[T.size,zT9]
 |.any,p,B,o,_,_,ha,hl,hc|.lit _,p,B,o,_,_,ha,hl,hc|.ro _,p,B,o,_,_,ha,hl,hc|.same _ _,p,B,o,_,_,ha,hl,hc|.addr _ _,p,B,o,_,_,ha,hl,hc|.sub _ _ _ _ _,p,B,o,_,_,ha,hl,hc|.sl _ _,p,B,o,_,_,ha,hl,hc|.ptr _,p,B,o,_,_,ha,hl,hc=>by simp only[Loc];exact⟨by simpa[T.offT]using ha [] rfl,by simpa using hl 0 p (by simp[T.size]) (by rfl),by simpa using hc 0 (G.hd d p) (by simp[vals])⟩
 |.tup xs,_,_,_,h,_,_,_,_=>absurd rfl (h xs)
theorem zG6:(xs:List T)-> ∀(p:List Nat)(j B o:Nat),yM xs=jh->
  (∀i x,xs[i]? =jf x-> ∀f,x.inT f=jh->G.ad d (f.reverse++((j+i)::p))=⟨B,o+(T.sizes (xs.take i)+x.offT f),jg⟩)->
  (∀i p',i<T.sizes xs->zCd xs p j i=jf p'->G.lb B (o+i)=jf (ji,d,p'))->
  (∀i v,(yE G d xs p j)[i]? =jf v->yN w B (o+i)=jf v)->vQ G w d xs p j B o
 | [],_,_,_,_,_,_,_,_=>by simp only[vQ]
 |x::xs,p,j,B,o,hn,ha,hl,hc=>by
  simp only[yM,J4]at hn;have hJ:∀ys,x≠.tup ys:=by rintro ys rfl;grind[T.okTup]
  simp only[vQ];refine⟨yAO x (j::p) B o hJ hn.1 (fun f hf=>by simpa[T.sizes]using ha 0 x (by simp) f hf) (fun i p' hi hp=>hl i p' (by grind[T.sizes]) (by simp only[zCd,hi,if_true];exact hp)) (fun i v hv=>hc i v ?_),
   zG6 xs p (j+1) B (o+x.size) hn.2 (fun i y hy f hf=>?_) (fun i p' hi hp=>?_) (fun i v hv=>?_)⟩
  ·grind[yE]
  ·have:=ha (i+1) y (by grind) f hf
   grind[T.sizes]
  ·have:=hl (x.size+i) p' (by grind[T.sizes]) (by simp only[zCd];grind)
   grind
  ·have:=hc (x.size+i) v (by
    grind[yE,vL])
   grind
end
end
structure MvC (G:Gh) (w:World) (G':Gh) (w':World) (s:Nat) (p:List Nat) (s':Nat) (p':List Nat) (t:T):Prop where
 hd:∀z,G'.hd s' (z++p')=G.hd s (z++p)
 ad:∀z,t.inT z.reverse=ji->G'.ad s' (z++p')=G.ad s (z++p)
 lb:∀b o f z,(f=jh\/t.inT z.reverse=ji)->G.lb b o=jf (f,s,z++p)->G'.lb b o=jf (f,s',z++p')/\yN w' b o=yN w b o
 ow:∀b z,G.ow b=jf (s,z++p)->G'.ow b=jf (s',z++p')
 blk:Blk w w'
section
variable {St:Stb}{G:Gh}{w:World}{G':Gh}{w':World}{s:Nat}{s':Nat}
theorem MvC.moves{p p':List Nat}{t:T}(h:MvC G w G' w' s p s' p' t)(ht:t.single=jh):zGR G w G' w' s p s' p' where
 hd:=h.hd
 ad z hz:=h.ad z (zGX ht (by simp_all))
 lb b o f z hz _ hl:=h.lb b o f z (.inr (zGX ht (by simp_all))) hl
 ow b z _ hl:=h.ow b z hl
 blk:=h.blk
 sp b o _ hl:=by simpa using h.lb b o jh [] (.inl rfl) (by grind)
 ow0 b hl:=by simpa using h.ow b [] (by grind)
theorem MvC.field{p p':List Nat}(h:MvC G w G' w' s p s' p' (.agg xs)){j:Nat}{x:T}(hx:xs[j]? =jf x):MvC G w G' w' s (j::p) s' (j::p') x where
 hd z:=by have:=h.hd (z++[j]);grind
 ad z hz:=by
  have:=h.ad (z++[j]) (by grind[T.inT])
  grind
 lb b o f z hf hl:=by
  have:=h.lb b o f (z++[j]) (by grind[T.inT]) (by grind)
  grind
 ow b z hl:=by
  have:=h.ow b (z++[j]) (by grind)
  grind
 blk:=h.blk
mutual
theorem zLD:(t:T)-> ∀(p p':List Nat),t.okTup=jh->MvC G w G' w' s p s' p' t->yU (kT G G') t->R St G w s t p->R St G' w' s' t p'
 |.agg xs,p,p',hn,h,hk,hr=>by
  simp only[R,yU,T.okTup]at hr hk hn ⊢
  exact zTA xs p p' 0 hn (fun j x hx=>by rw[Ji];exact h.field hx) hk hr
 |.any,p,p',_,h,hk,hr|.lit _,p,p',_,h,hk,hr|.ro _,p,p',_,h,hk,hr|.same _ _,p,p',_,h,hk,hr|.addr _ _,p,p',_,h,hk,hr|.sub _ _ _ _ _,p,p',_,h,hk,hr|.sl _ _,p,p',_,h,hk,hr|.ptr _,p,p',_,h,hk,hr=>
  jP (h.moves rfl) _ hk hr
 |.tup _,_,_,hn,_,_,_=>by grind[T.okTup]
theorem zTA:(xs:List T)-> ∀(p p':List Nat)(j:Nat),yM xs=jh->(∀i x,xs[i]? =jf x->MvC G w G' w' s ((j+i)::p) s' ((j+i)::p') x)->xP (kT G G') xs->RF St G w s xs p j->RF St G' w' s' xs p' j
 | [],_,_,_,_,_,_,_=>by simp only[RF]
 |x::xs,p,p',j,hn,h,hk,hr=>by
  simp only[RF,xP,yM,J4]at hr hk hn ⊢
  exact⟨zLD x (j::p) (j::p') hn.1 (by simpa using h 0 x (by simp)) hk.1 hr.1,zTA xs p p' (j+1) hn.2 (fun i y hy=>by
   have:=h (i+1) y (by grind)
   grind) hk.2 hr.2⟩
end
end
theorem zQd{St:Stb}{G:Gh}{w:World}{s:Nat}:(xs:List T)-> ∀(p:List Nat)(j:Nat),(∀i x,xs[i]? =jf x->R St G w s x ((j+i)::p))->RF St G w s xs p j
 | [],_,_,_=>by simp only[RF]
 |x::xs,p,j,h=>by
  simp only[RF];exact⟨by simpa using h 0 x (by simp),zQd xs p (j+1) (fun i y hy=>by
   have:=h (i+1) y (by grind)
   grind)⟩
theorem zTB{St:Stb}{G:Gh}{w:World}{s:Nat}{k:Nat}:(xs:List T)-> ∀(p:List Nat)(j b o:Nat),(∀x∈xs,x.size=k)->vQ G w s xs p j b o->RF St G w s xs p j->RL St G w s xs p j b o k
 | [],_,_,_,_,_,_,_=>by simp only[RL]
 |x::xs,p,j,b,o,hk,hl,hr=>by
  simp only[RL,vQ,RF]at hl hr ⊢
  have h1:=hk x (by simp);exact⟨⟨hl.1,h1⟩,hr.1,zTB xs p (j+1) b (o+k) (by grind) (by grind) hr.2⟩
theorem wT{k:Nat}:(xs:List T)->(∀x∈xs,x.size=k)->T.sizes xs=xs.length*k
 | [],_=>by simp[T.sizes]
 |x::xs,h=>by simp[T.sizes,wT xs (fun y hy=>h y (by simp[hy])),h x (by simp),K8];omega
def Gh.nb(G:Gh)(d B:Nat)(xs:List T)(src:Nat->Option (Nat×List Nat))(φ:Nat->List Nat->Option (List Nat))(f:Nat->List Nat->Value)(gX:Value):Gh where
 hd s z:=if s=d then(match z.getLast? with
  |some i=>f i z.dropLast
  |none=>gX)else G.hd s z
 ad s z:=if s=d then(if(T.agg xs).inT z.reverse then⟨B,(T.agg xs).offT z.reverse,jg⟩else match z.getLast? with
  |some i=>(match src i with
   |some (x,q)=>G.ad x (z.dropLast++q)
   |none=>default)
  |none=>default)else G.ad s z
 lb b o:=if b=B then jf (match zCd xs [] 0 o with
  |some p=>(ji,d,p)
  |none=>(jh,d,[]))else match G.lb b o with
  |some (fl,s,z)=>(match φ s z with
   |some z'=>jf (fl,d,z')
   |none=>jf (fl,s,z))
  |none=>jg
 ow b:=if b=B then jf (d,[])else match G.ow b with
  |some (s,z)=>(match φ s z with
   |some z'=>jf (d,z')
   |none=>jf (s,z))
  |none=>jg
theorem zCN{w:World}(hm:Mem Γ G w){cells:Array Value}(hw:w'.heap=w.heap.push (.cells cells e))(d:Nat)(xs:List T)
  (src:Nat->Option (Nat×List Nat))(φ:Nat->List Nat->Option (List Nat))(f:Nat->List Nat->Value)(gX:Value)(chg:Chg)
  (gz:yM xs=jh)(hf:∀(i:Nat)(z:List Nat),(f i z).oneCell'=jh)(hh:gX.oneCell'=jh)
  (hφ:∀(i:Nat) u x q(z:List Nat),xs[i]? =jf u->src i=jf (x,q)->φ x (z++q)=jf (z++[i]))
  (u6:∀(i:Nat) u x q,xs[i]? =jf u->src i=jf (x,q)->(∀z,f i z=G.hd x (z++q))/\R Γ.St G w x u q/\zZ u/\x≠d)
  (aJ:∀(i:Nat) u,xs[i]? =jf u->src i=jg-> ∀(G2:Gh)(w2:World),(∀z,G2.hd d (z++[i])=f i z)->R Γ.St G2 w2 d u [i])
  (c9:∀(G2:Gh),(∀i z,G2.hd d (z++[i])=f i z)-> ∀(o:Nat)(v:Value),(yE G2 d xs [] 0)[o]? =jf v->cells[o]? =jf v)
  (d9:∀s p,(∀n,(s,n)∉(d,0)::chg)->φ s p=jg)(ho:w'.os=w.os:=by rfl)(hq:w'.output=w.output:=by rfl):
  sM ((d,0)::chg) G w (G.nb d w.heap.size xs src φ f gX) w'/\Mem Γ (G.nb d w.heap.size xs src φ f gX) w'/\
  vQ (G.nb d w.heap.size xs src φ f gX) w' d xs [] 0 w.heap.size 0/\RF Γ.St (G.nb d w.heap.size xs src φ f gX) w' d xs [] 0/\
  w'.heap[w.heap.size]? =jf (.cells cells e):=by
 have eB:w'.heap[w.heap.size]? =jf (.cells cells e):=by grind
 have gD:∀b,b<w.heap.size->w'.heap[b]? =w.heap[b]?:=fun b hb=>by rw[hw,Array.getElem?_push];grind
 have gr:w'.heap.size=w.heap.size+1:=by grind
 have fp:∀b o,b<w.heap.size->yN w' b o=yN w b o:=fun b o hb=>by simp[yN,World.cell?,gD b hb]
 have gH:Blk w w':=fun b cs e' h=>⟨cs,by rw[gD b (by grind)];exact h,rfl⟩
 have gk:=hm.one
 generalize gm:G.nb d w.heap.size xs src φ f gX=G'
 have ghd:∀i z,G'.hd d (z++[i])=f i z:=fun i z=>by rw[<-gm];simp[Gh.nb]
 have gad:∀g,(T.agg xs).inT g=jh->G'.ad d g.reverse=⟨w.heap.size,(T.agg xs).offT g,jg⟩:=fun g hg=>by rw[<-gm];simp[Gh.nb,hg]
 have gadm:∀i x q z,src i=jf (x,q)->(T.agg xs).inT (i::z.reverse)=ji->G'.ad d (z++[i])=G.ad x (z++q):=fun i x q z hs gK=>by rw[<-gm];simp[Gh.nb,gK,hs]
 have glb:∀o p,zCd xs [] 0 o=jf p->G'.lb w.heap.size o=jf (ji,d,p):=fun o p h=>by rw[<-gm];simp[Gh.nb,h]
 have glbm:∀b o fl x z z',G.lb b o=jf (fl,x,z)->φ x z=jf z'->G'.lb b o=jf (fl,d,z'):=fun b o fl x z z' h1 h2=>by have:=(hm.lb b o _ h1).1;rw[<-gm];simp[Gh.nb,h1,h2,show b≠w.heap.size from by omega]
 have gowm:∀b x z z',G.ow b=jf (x,z)->φ x z=jf z'->G'.ow b=jf (d,z'):=fun b x z z' h1 h2=>by have:=(hm.ow b _ h1).1;rw[<-gm];simp[Gh.nb,h1,h2,show b≠w.heap.size from by omega]
 have gc:∀s p,Off ((d,0)::chg) s p->s≠d:=fun s p h e=>absurd (h 0 (by simp[e])) (by simp)
 have gu:sM ((d,0)::chg) G w G' w':=by
  refine⟨fun s p h=>?_,fun s p h=>?_,fun b o fl s p _ hl h=>⟨?_,fp b o (hm.lb b o _ hl).1⟩,fun b s p hl h=>?_,gH⟩
  ·rw[<-gm];simp[Gh.nb,gc s p h]
  ·rw[<-gm];simp[Gh.nb,gc s p h]
  ·have:=(hm.lb b o _ hl).1
   rw[<-gm];simp[Gh.nb,hl,d9 s p h,show b≠w.heap.size from by omega]
  ·have:=(hm.ow b _ hl).1
   rw[<-gm];simp[Gh.nb,hl,d9 s p h,show b≠w.heap.size from by omega]
 refine⟨gu,?_,?_,?_,eB⟩
 ·
  have hB:zBY Γ w' w.heap.size:=⟨by omega,.inl hm.sz,by
   cases gA:Γ.St w.heap.size with
   |none=>rfl
   |some x=>have:=hm.st _ x gA;simp at this⟩
  have fa:∀b,zBY Γ w b->zBY Γ w' b:=fun b h=>⟨by have:=h.1;omega,h.2⟩
  refine⟨fun s p=>?_,fun b o l hl=>?_,fun b l hl=>?_,fun b x hx=>?_,fun b h1 h2=>?_,by have:=hm.sz;omega,hm.bk.trans gH ho hq⟩
  ·rw[<-gm]
   simp only[Gh.nb];split
   ·split
    ·exact hf _ _
    ·exact hh
   ·exact gk s p
  ·rw[<-gm]at hl
   simp only[Gh.nb]at hl;split at hl
   ·grind
   ·split at hl
    ·rename_i hg;exact fa b (hm.lb b o _ hg)
    ·cases hl
  ·rw[<-gm]at hl
   simp only[Gh.nb]at hl;split at hl
   ·grind
   ·split at hl
    ·rename_i hg;exact fa b (hm.ow b _ hg)
    ·cases hl
  ·have:=hm.st b x hx
   rw[gD b (H7.1 this).1];exact this
  ·rw[gD b (Ja4 h1 hm.sz)]
   exact hm.fr b h1 h2
 ·
  refine zG6 xs [] 0 w.heap.size 0 gz (fun i x hx g hg=>?_) (fun i p' _ hp=>by simpa using glb i p' hp) (fun i v hv=>?_)
  ·have:=gad (i::g) (by simp only[T.inT,hx];exact hg)
   simpa[T.offT,hx]using this
  ·have:=c9 G' ghd i v hv
   rw[Ji];simp[yN,World.cell?,eB,this]
 ·
  refine zQd xs [] 0 (fun i u hu=>?_);rw[Ji];cases hs:src i with
  |none=>exact aJ i u hu hs G' w' (fun z=>ghd i z)
  |some xq=>
   obtain⟨x,q⟩:=xq;obtain⟨h1,h2,h3,h4⟩:=u6 i u x q hu hs;have gK:∀g,(T.agg xs).inT (i::g)=u.inT g:=fun g=>by simp only[T.inT,hu]
   refine zLD u q [i] (okTups_get xs gz i u hu) ⟨fun z=>by rw[ghd,h1],fun z hz=>gadm i x q z hs (by rw[gK];exact hz),fun b o fl z hz hl=>⟨glbm b o fl x _ _ hl (hφ i u x q z hu hs),fp b o (hm.lb b o _ hl).1⟩,
    fun b z hl=>gowm b x _ _ hl (hφ i u x q z hu hs),gH⟩ (yU.mono (by simp) u h3) h2
where okTups_get:(xs:List T)->yM xs=jh-> ∀(i:Nat)(x:T),xs[i]? =jf x->x.okTup=jh
 | [],_,_,_,h=>by simp at h
 |y::ys,hk,i,x,h=>by
  simp only[yM,J4]at hk;cases i with
  |zero=>grind
  |succ i=>exact okTups_get ys hk.2 i x (by grind)
inductive yS where
 |slot (s:Nat) (t:T)
 |zero (u:T)
variable {ps:List yS}
def yS.tree:yS->T
 |.slot _ t=>t
 |.zero u=>u
def sE:T->Bool
 |.lit _|.ro _=>ji
 |_=>jh
mutual
def T.zOk:T->Bool
 |.lit v=>v.oneCell'
 |.sl _ xs=>xs.isEmpty
 |.agg xs=>kX xs
 |.any|.ro _|.same _ _|.addr _ _|.sub _ _ _ _ _|.ptr _|.tup _=>ji
def kX:List T->Bool
 | []=>jh
 |x::xs=>x.zOk&&kX xs
end
def zhd:T->List Nat->Value
 |.agg xs,i::f=>match xs[i]? with
  |some x=>zhd x f
  |none=>.bool ji
 |.lit v,_=>v
 |.sl _ _,_=>.slice jg 0 0
 |.agg _,[] |.any,_|.ro _,_|.same _ _,_|.addr _ _,_|.sub _ _ _ _ _,_|.ptr _,_|.tup _,_=>.bool ji
termination_by structural _ f=>f
mutual
def sF:T->List Value
 |.lit v=>[v]
 |.sl _ _=>[.slice jg 0 0]
 |.agg xs=>sW xs
 |.any|.ro _|.same _ _|.addr _ _|.sub _ _ _ _ _|.ptr _|.tup _=>[]
def sW:List T->List Value
 | []=>[]
 |x::xs=>sF x++sW xs
end
section
variable {St:Stb}{G:Gh}{w:World}{d:Nat}
mutual
theorem zKm:(u:T)-> ∀(p:List Nat),u.zOk=jh->(∀z,G.hd d (z++p)=jE (zhd u z.reverse))->R St G w d u p
 |.lit v,p,h,hd=>by
  simp only[T.zOk,R]at h ⊢
  have:=hd [];rw[K0]at this;rw[this];exact jR h
 |.sl k xs,p,h,hd=>by simp only[T.zOk,Jab]at h;subst h;have:=hd [];rw[K0]at this;simp only[R];exact .inl ⟨trivial,jg,by rw[this];rfl⟩
 |.agg xs,p,h,hd=>by
  simp only[T.zOk,R]at h ⊢
  exact zQe xs p 0 h (fun i x hx z=>by
   rw[Ji];have:=hd (z++[i])
   grind[zhd])
 |.any,_,h,_|.ro _,_,h,_|.same _ _,_,h,_|.addr _ _,_,h,_|.sub _ _ _ _ _,_,h,_|.ptr _,_,h,_|.tup _,_,h,_=>by grind[T.zOk]
theorem zQe:(xs:List T)-> ∀(p:List Nat)(j:Nat),kX xs=jh->(∀i x,xs[i]? =jf x-> ∀z,G.hd d (z++((j+i)::p))=jE (zhd x z.reverse))->RF St G w d xs p j
 | [],_,_,_,_=>by simp only[RF]
 |x::xs,p,j,h,hd=>by
  simp only[kX,J4,RF]at h ⊢
  exact⟨zKm x (j::p) h.1 (by simpa using hd 0 x (by simp)),zQe xs p (j+1) h.2 (fun i y hy z=>by
   have:=hd (i+1) y (by grind) z
   grind)⟩
end
end
section
variable {G:Gh}{d:Nat}
mutual
theorem zFn:(u:T)-> ∀(p:List Nat),u.zOk=jh->(∀z,G.hd d (z++p)=jE (zhd u z.reverse))->vals G d u p=sF u
 |.lit v,p,h,hd=>by
  simp only[T.zOk,vals,sF]at h ⊢
  have:=hd []
  grind[zhd,jR]
 |.sl k xs,p,h,hd=>by
  have:=hd []
  grind[vals,sF,zhd,jE,Value.oneCell']
 |.agg xs,p,h,hd=>by
  simp only[T.zOk,vals,sF]at h ⊢
  exact zDD xs p 0 h (fun i x hx z=>by
   rw[Ji];have:=hd (z++[i])
   grind[zhd])
 |.any,_,h,_|.ro _,_,h,_|.same _ _,_,h,_|.addr _ _,_,h,_|.sub _ _ _ _ _,_,h,_|.ptr _,_,h,_|.tup _,_,h,_=>by grind[T.zOk]
theorem zDD:(xs:List T)-> ∀(p:List Nat)(j:Nat),kX xs=jh->(∀i x,xs[i]? =jf x-> ∀z,G.hd d (z++((j+i)::p))=jE (zhd x z.reverse))->yE G d xs p j=sW xs
 | [],_,_,_,_=>by rfl
 |x::xs,p,j,h,hd=>by
  simp only[kX,J4,yE,sW]at h ⊢
  rw[zFn x (j::p) h.1 (by simpa using hd 0 x (by simp)),zDD xs p (j+1) h.2 (fun i y hy z=>by
   have:=hd (i+1) y (by grind) z
   grind)]
end
end
mutual
theorem zAY:(u:T)->u.zOk=jh->zZ u/\u.okTup=jh
 |.lit _,_=>by simp[zZ,yU,T.okTup]
 |.sl _ xs,h=>by simp only[T.zOk,Jab]at h;subst h;simp[zZ,yU,xP,T.okTup]
 |.agg xs,h=>by simp only[T.zOk]at h;simpa only[zZ,yU,T.okTup]using zB2 xs h
 |.any,h|.ro _,h|.same _ _,h|.addr _ _,h|.sub _ _ _ _ _,h|.ptr _,h|.tup _,h=>by grind[T.zOk]
theorem zB2:(xs:List T)->kX xs=jh->yZ xs/\yM xs=jh
 | [],_=>by simp[yZ,xP,yM]
 |x::xs,h=>by simp only[kX,J4]at h;simp only[yZ,xP,yM,J4];exact⟨⟨(zAY x h.1).1,(zB2 xs h.2).1⟩,(zAY x h.1).2,(zB2 xs h.2).2⟩
end
mutual
theorem vU:(u:T)->u.zOk=jh->(sF u).length=u.size
 |.lit _,_|.sl _ _,_=>by rfl
 |.agg xs,h=>by simp only[T.zOk]at h;simp only[sF,T.size];exact zAM xs h
 |.any,h|.ro _,h|.same _ _,h|.addr _ _,h|.sub _ _ _ _ _,h|.ptr _,h|.tup _,h=>by grind[T.zOk]
theorem zAM:(xs:List T)->kX xs=jh->(sW xs).length=T.sizes xs
 | [],_=>by rfl
 |x::xs,h=>by simp only[kX,J4]at h;simp only[sW,J5,T.sizes,vU x h.1,zAM xs h.2]
end
def zGY(ps:List yS)(i:Nat):Option (Nat×List Nat):=
 match ps[i]? with
 |some (.slot s t)=>if sE t then jf (s,[])else jg
 |_=>jg
def zIB:List yS->Nat->Nat->Option Nat
 | [],_,_=>jg
 |.slot x t::r,i,s=>if sE t&&x==s then jf i else zIB r (i+1) s
 |.zero _::r,i,s=>zIB r (i+1) s
def zIC(ps:List yS)(s:Nat)(z:List Nat):Option (List Nat):=
 match zIB ps 0 s with
 |some i=>jf (z++[i])
 |none=>jg
def pWr(d:Nat):List yS->Nat->Wr
 | [],_=>[]
 |.slot s t::r,i=>if sE t then(s,jf (cpT d t [i]))::pWr d r (i+1)else pWr d r (i+1)
 |.zero _::r,i=>pWr d r (i+1)
def xM:List yS->List Nat
 | []=>[]
 |.slot s t::r=>if sE t then s::xM r else xM r
 |.zero _::r=>xM r
def sB(ps:List yS):Chg:=(xM ps).map fun s=>(s,1)
def sT(G:Gh):yS->List Value
 |.slot s t=>vals G s t []
 |.zero u=>sF u
def pHd(G:Gh)(ps:List yS)(i:Nat)(z:List Nat):Value:=
 match ps[i]? with
 |some (.slot s _)=>G.hd s z
 |some (.zero u)=>jE (zhd u z.reverse)
 |none=>.bool ji
structure tK (E:Env) (d:Nat) (ps:List yS):Prop where
 slot:∀s t,yS.slot s t∈ps->E s=jf t/\zZ t/\t.okTup=jh
 zero:∀u,yS.zero u∈ps->u.zOk=jh
 dist:(d::xM ps).Nodup
theorem zAZ:(ps:List yS)-> ∀(i0 i s:Nat)(t:T),ps[i]? =jf (.slot s t)->sE t=jh->(xM ps).Nodup->zIB ps i0 s=jf (i0+i)
 | [],_,_,_,_,h,_,_=>by simp at h
 |.slot x u::r,i0,i,s,t,h,hm,hn=>by
  cases i with
  |zero=>simp at h;obtain⟨rfl,rfl⟩:=h;simp[zIB,hm]
  |succ i=>
   simp only[Jb9]at h;have gK:s∈xM r:=pSlots_mem r i s t h hm;simp only[zIB]
   by_cases hu:sE u=jh
   ·simp only[xM,hu,if_true,La]at hn
    have:x≠s:=by grind
    simp only[hu,Qs,beq_iff_eq,this,if_false];rw[zAZ r (i0+1) i s t h hm hn.2]
    grind
   ·simp only[xM,hu]at hn
    simp only[hu,Jal,Hs,if_false];rw[zAZ r (i0+1) i s t h hm (by grind)]
    grind
 |.zero u::r,i0,i,s,t,h,hm,hn=>by
  cases i with
  |zero=>simp at h
  |succ i=>
   simp only[Jb9]at h;simp only[zIB];rw[zAZ r (i0+1) i s t h hm (by grind[xM])]
   grind
where pSlots_mem:(ps:List yS)-> ∀(i s:Nat)(t:T),ps[i]? =jf (.slot s t)->sE t=jh->s∈xM ps
 | [],_,_,_,h,_=>by simp at h
 |.slot x u::r,i,s,t,h,hm=>by
  cases i with
  |zero=>simp at h;obtain⟨rfl,rfl⟩:=h;simp[xM,hm]
  |succ i=>
   have:=pSlots_mem r i s t (by grind) hm
   grind[xM]
 |.zero u::r,i,s,t,h,hm=>by
  cases i with
  |zero=>simp at h
  |succ i=>simpa only[xM]using pSlots_mem r i s t (by grind) hm
theorem zCO:(ps:List yS)-> ∀(i0 s:Nat),s∉xM ps->zIB ps i0 s=jg
 | [],_,_,_=>by rfl
 |.slot x u::r,i0,s,h=>by
  simp only[zIB]
  by_cases hu:sE u=jh
  ·simp only[xM,hu,if_true,J9,not_or]at h
   simp only[hu,Qs,beq_iff_eq,Ne.symm h.1,if_false];exact zCO r _ s h.2
  ·simp only[xM,hu]at h
   simp only[hu,Jal,Hs,if_false];exact zCO r _ s (by grind)
 |.zero u::r,i0,s,h=>by simp only[zIB];exact zCO r _ s (by grind[xM])
theorem zCe:(ps:List yS)-> ∀(d i0 s:Nat)(x:Option T),(pWr d ps i0).find s=jf x-> ∃i t,ps[i]? =jf (.slot s t)/\sE t=jh/\x=jf (cpT d t [i0+i])
 | [],_,_,_,_,h=>by grind[pWr,Wr.find]
 |.slot y u::r,d,i0,s,x,h=>by
  simp only[pWr]at h;split at h
  ·rename_i hu
   simp only[Wr.find]at h;split at h
   ·rename_i he;subst he;simp at h;exact⟨0,u,by simp,hu,by grind⟩
   ·obtain⟨i,t,h1,h2,h3⟩:=zCe r d (i0+1) s x h
    exact⟨i+1,t,by grind,h2,by grind⟩
  ·obtain⟨i,t,h1,h2,h3⟩:=zCe r d (i0+1) s x h
   exact⟨i+1,t,by grind,h2,by grind⟩
 |.zero u::r,d,i0,s,x,h=>by simp only[pWr]at h;obtain⟨i,t,h1,h2,h3⟩:=zCe r d (i0+1) s x h;exact⟨i+1,t,by grind,h2,by grind⟩
theorem zCf:(ps:List yS)-> ∀(d i0 s:Nat),(pWr d ps i0).find s=jg->s∉xM ps
 | [],_,_,_,_=>by simp[xM]
 |.slot y u::r,d,i0,s,h=>by
  simp only[pWr]at h;simp only[xM];split at h
  ·rename_i hu
   simp only[Wr.find]at h;split at h
   ·cases h
   ·rename_i gc
    simp only[hu,if_true,J9,not_or];exact⟨fun e=>gc e.symm,zCf r d _ s h⟩
  ·rename_i hu
   simp only[hu];simpa using zCf r d _ s h
 |.zero u::r,d,i0,s,h=>by simp only[pWr]at h;simpa only[xM]using zCf r d _ s h
section
variable {Γ:Ctx}{E:Env}{G:Gh}{tmps:Array Value}{w:World}{d:Nat}{ps:List yS}
theorem zFY(g9:Rep Γ E G tmps w)(h:tK E d ps):
  yM (ps.map yS.tree)=jh/\yZ (ps.map yS.tree)/\(∀i z,(pHd G ps i z).oneCell'=jh)/\
  (∀(i:Nat) u x q(z:List Nat),(ps.map yS.tree)[i]? =jf u->zGY ps i=jf (x,q)->zIC ps x (z++q)=jf (z++[i]))/\
  (∀(i:Nat) u x q,(ps.map yS.tree)[i]? =jf u->zGY ps i=jf (x,q)->(∀z,pHd G ps i z=G.hd x (z++q))/\R Γ.St G w x u q/\zZ u/\x≠d)/\
  (∀(i:Nat) u,(ps.map yS.tree)[i]? =jf u->zGY ps i=jg-> ∀(G2:Gh)(w2:World),(∀z,G2.hd d (z++[i])=pHd G ps i z)->R Γ.St G2 w2 d u [i])/\
  (∀s p,(∀n,(s,n)∉(d,0)::sB ps)->zIC ps s p=jg):=by
 have mN:=La.1 h.dist;refine⟨?_,?_,?_,?_,?_,?_,?_⟩
 ·have:∀qs:List yS,(∀p∈qs,p∈ps)->yM (qs.map yS.tree)=jh:=by
   intro qs
   induction qs with
   |nil=>intro _;rfl
   |cons q qs ih=>
    intro hq;simp only[Ju,yM,J4];refine⟨?_,by grind⟩;cases q with
    |slot s t=>exact(h.slot s t (hq _ (by simp))).2.2
    |zero u=>exact(zAY u (h.zero u (hq _ (by simp)))).2
  grind
 ·have:∀qs:List yS,(∀p∈qs,p∈ps)->yZ (qs.map yS.tree):=by
   intro qs
   induction qs with
   |nil=>intro _;trivial
   |cons q qs ih=>
    intro hq;simp only[Ju,yZ,xP];refine⟨?_,by grind⟩;cases q with
    |slot s t=>exact(h.slot s t (hq _ (by simp))).2.1
    |zero u=>exact(zAY u (h.zero u (hq _ (by simp)))).1
  grind
 ·intro i z
  unfold pHd;split
  ·exact g9.mem.one _ _
  ·exact zAX _
  ·rfl
 ·intro i u x q z hu hs
  rw[Jw]at hu;unfold zGY at hs;cases hp:ps[i]? with
  |none=>grind
  |some p=>
   cases p with
   |zero v=>grind
   |slot s t=>
    simp only[hp]at hs;split at hs
    ·rename_i hm
     simp at hs;obtain⟨rfl,rfl⟩:=hs;simp[zIC,zAZ ps 0 i s t hp hm mN.2]
    ·cases hs
 ·intro i u x q hu hs
  rw[Jw]at hu;unfold zGY at hs;cases hp:ps[i]? with
  |none=>grind
  |some p=>
   cases p with
   |zero v=>grind
   |slot s t=>
    simp only[hp]at hs;split at hs
    ·rename_i hm
     simp at hs;obtain⟨rfl,rfl⟩:=hs;simp[hp,yS.tree]at hu;subst hu;obtain⟨h1,h2,h3⟩:=h.slot s t (by grind);refine⟨by grind[pHd],(g9.ent s t h1).2.1,h2,fun e=>mN.1 ?_⟩
     grind[zAZ.pSlots_mem]
    ·cases hs
 ·intro i u hu hs G2 w2 eS
  rw[Jw]at hu;unfold zGY at hs;cases hp:ps[i]? with
  |none=>grind
  |some p=>
   cases p with
   |zero v=>
    simp[hp,yS.tree]at hu;subst hu;exact zKm v [i] (h.zero v (by grind)) (by grind[pHd])
   |slot s t=>
    simp only[hp]at hs;split at hs
    ·cases hs
    ·rename_i hm
     simp[hp,yS.tree]at hu;subst hu;have h1:=(g9.ent s t (h.slot s t (by grind)).1).2.1;have h2:G2.hd d [i]=G.hd s []:=by have:=eS [];grind[pHd]
     cases t<;>simp[sE]at hm<;>simp only[R]at h1 ⊢ <;>rw[h2]<;>exact h1
 ·intro s p gB
  have:s∉xM ps:=fun gK=>gB 1 (by grind[sB])
  grind[zIC,zCO]
theorem zDE(g9:Rep Γ E G tmps w)(h:tK E d ps)(G2:Gh):∀(qs:List yS)(i0:Nat),(∀i q,qs[i]? =jf q->ps[i0+i]? =jf q)->(∀i z,G2.hd d (z++[i])=pHd G ps i z)->
  yE G2 d (qs.map yS.tree) [] i0=qs.flatMap (sT G)
 | [],_,_,_=>by rfl
 |q::qs,i0,hq,eS=>by
  have h0:ps[i0]? =jf q:=by simpa using hq 0 q (by simp)
  have ih:=zDE g9 h G2 qs (i0+1) (fun i p hp=>by rw[show i0+1+i=i0+(i+1)from by omega];simp_all) eS;simp only[Ju,yE,Kr,ih]
  congr 1
  cases q with
  |slot s t=>exact zA4 t [] [i0] (by grind[pHd])
  |zero u=>exact zFn u [i0] (h.zero u (by grind)) (by grind[pHd])
end
section
variable {P:Program}{Γ:Ctx}{E:Env}{o:Oper}{d:Nat}
theorem zJb{s:Nat}{t:T}{v:Option Value}(hv:v=jf (mkV G s t []))(hJ:∀xs,t≠.tup xs)(hs:∀p,G'.hd s p=G.hd s p)(mO:∀z,G'.hd d (z++[i])=G.hd s z)
  (hr:R Γ.St G' w' d t [i]):Ent Γ G' w' v s (cpT d t [i]):=by
 have hz:∀z,G'.hd s (z++[])=G'.hd d (z++[i]):=fun z=>by rw[Jh,hs,mO]
 refine⟨?_,?_,qD d t [i]⟩
 ·rw[hv,zAk (G:=G') (G':=G') t [i] [] hJ hz,jZ G s t [] hJ,zBz t [] [i] (fun z=>by rw[mO,Jh])]
 ·exact zD8 (G:=G') (G':=G') (fun _=>rfl) t [i] [] hz hJ (yU.triv (fun _ _=>⟨rfl,rfl⟩) _) hr
theorem zBa{w:World}(g9:Rep Γ E G a.tmps w)(h:tK E d ps)(hd:d<Γ.N){cells:Array Value}(hw:w'.heap=w.heap.push (.cells cells e))
  (c9:∀(o:Nat)(v:Value),(ps.flatMap (sT G))[o]? =jf v->cells[o]? =jf v)
  (rt:T)(gX:Value)
  (fh:(∃k cap,rt=.sl k (ps.map yS.tree)/\(∀p∈ps,p.tree.size=k)/\gX=.slice (jf ⟨w.heap.size,0,jg⟩) ps.length cap/\ps.length<=cap/\cap<=maxLen/\cells.size=cap*k)\/
   ∃p,ps=[p]/\rt=.ptr p.tree/\gX=.pointer (jf ⟨w.heap.size,0,jg⟩)/\cells.size=p.tree.size)
  (ho:w'.os=w.os:=by rfl)(hq:w'.output=w.output:=by rfl):
  ∃G',Rep Γ (E.app ((d,jf rt)::pWr d ps 0) ((d,0)::sB ps)) G' (a.tmps.setIfInBounds d gX) w':=by
 obtain⟨f1,f0,f2,f3,f4,f5,f6⟩:=zFY g9 h;have hh:gX.oneCell'=jh:=by rcases fh with⟨k,cap,_,_,rfl,_⟩|⟨p,_,_,rfl,_⟩<;>rfl
 have mN:=La.1 h.dist;obtain⟨g1,g2,g3,g4,g5⟩:=zCN g9.mem hw d (ps.map yS.tree) (zGY ps) (zIC ps) (pHd G ps) gX (sB ps) f1 f2 hh f3 f4 f5
  (fun G2 eS o v hv=>c9 o v (by rw[zDE g9 h G2 ps 0 (fun i q hq=>by simpa using hq) eS]at hv;exact hv)) f6 (ho:=ho) (hq:=hq)
 refine⟨_,wW g9 (by simp) g1 g2 ?_ ?_⟩
 ·intro s hs
  simp only[Wr.find]at hs;split at hs
  ·cases hs
  ·rename_i gc
   have hns:=zCf ps d 0 s hs;refine⟨fun n hn=>?_,by rw[Jj];simp[gc]⟩;simp only[J9,Jah.injEq,sB,Jc]at hn;rcases hn with⟨e1,_⟩|⟨y,hy,e1,_⟩
   ·exact gc e1.symm
   ·exact hns (e1▸hy)
 ·intro s t hs
  simp only[Wr.find]at hs;split at hs
  ·rename_i he
   subst he;simp at hs;subst hs;have pC:(G.nb d w.heap.size (ps.map yS.tree) (zGY ps) (zIC ps) (pHd G ps) gX).hd d []=gX:=by simp[Gh.nb]
   have how:(G.nb d w.heap.size (ps.map yS.tree) (zGY ps) (zIC ps) (pHd G ps) gX).ow w.heap.size=jf (d,[]):=by simp[Gh.nb]
   refine⟨?_,?_,?_⟩
   ·rw[Jj]
    rcases fh with⟨k,cap,rfl,_⟩|⟨p,_,rfl,_⟩<;>simp[g9.size,hd,mkV,pC]
   ·rcases fh with⟨k,cap,rfl,hk,h1,h2,h3,h4⟩|⟨p,rfl,rfl,h1,h4⟩
    ·simp only[R]
     rw[pC];refine .inr ⟨w.heap.size,0,cap,cells,e,by simpa using h1,g5,by simpa using h2,h3,by omega,how,?_,zTB _ _ _ _ _ (fun x hx=>?_) g3 g4⟩
     ·intro o ho _
      have gr:T.sizes (ps.map yS.tree)=(ps.map yS.tree).length*k:=wT _ (fun x hx=>by obtain⟨p,hp,rfl⟩:=Jc.1 hx;exact hk p hp)
      simp[Gh.nb,zDC (ps.map yS.tree) [] 0 o (by omega)]
     ·obtain⟨p,hp,rfl⟩:=Jc.1 hx
      exact hk p hp
    ·simp only[R]
     rw[pC];simp only[Ju,Le,vQ,RF]at g3 g4;exact⟨w.heap.size,cells,e,h1,g5,h4,how,g3.1,g4.1⟩
   ·rcases fh with⟨k,cap,rfl,_⟩|⟨p,rfl,rfl,_⟩
    ·simp only[Top];exact f0
    ·simp only[Top];exact f0.1
  ·rename_i gc
   obtain⟨i,u,h1,h2,h3⟩:=zCe ps d 0 s _ hs;simp only[Ji]at h3;simp at h3;subst h3;obtain⟨h4,h5,h6⟩:=h.slot s u (Lu h1);have hJ:∀xs,u≠.tup xs:=by rintro xs rfl;simp[T.okTup]at h6
   have hi:(ps.map yS.tree)[i]? =jf u:=by simp[h1,yS.tree]
   have hr:=zAL _ [] 0 i u g4 hi;simp only[Ji]at hr;refine zJb (G:=G) (by rw[Jj];simp only[gc,if_false];exact(g9.ent s u h4).1) hJ (fun p=>?_) (fun z=>?_) hr
   ·simp[Gh.nb,show s≠d from fun e=>gc e.symm]
   ·simp[Gh.nb,pHd,h1]
inductive kO (E:Env):Operand->yS->Prop where
 |slot (s:Nat) (t:T):kO E (.tmp s) (.slot s t)
 |zero (v:Value) (u:T) (h:sF u=v.cells.toList):kO E (.const v) (.zero u)
theorem zAl{w:World}(g9:Rep Γ E G a.tmps w)(h:tK E d ps){p:yS}(hp:p∈ps)(hx:kO E x p):
  (a.eval x).cells.toList=sT G p:=by
 cases hx with
 |slot s t=>
  obtain⟨h1,h2,h3⟩:=h.slot s t hp;obtain⟨h4,_,_⟩:=g9.ent s t h1;rw[xW h4];cases t with
  |agg xs=>simp[mkV,Value.cells,vals,sT]
  |tup xs=>simp[T.okTup]at h3
  |_=>
   have:=g9.mem.one s [];simp only[mkV,vals,sT]
   generalize G.hd s []=v at this
   cases v<;>simp[Value.oneCell',Value.cells]at this ⊢
 |zero v u h=>simp[Act.eval,h,sT]
def uP(E:Env):List Operand->List yS->Prop
 | [],[]=>True
 |x::xs,p::ps=>kO E x p/\uP E xs ps
 |_,_=>False
theorem uP.length:(xs:List Operand)->(ps:List yS)->uP E xs ps->xs.length=ps.length
 | [],[],_=>rfl
 |_::xs,_::ps,h=>by simp[uP.length xs ps h.2]
 | [],_::_,h=>by simp[uP]at h
 |_::_,[],h=>by simp[uP]at h
theorem uP.mem:(xs:List Operand)->(ps:List yS)->uP E xs ps-> ∀x∈xs,∃p,p∈ps/\kO E x p
 | [],_,_,x,hx=>by simp at hx
 |y::xs,p::ps,h,x,hx=>by
  rcases J9.1 hx with rfl|hx
  ·exact⟨p,by simp,h.1⟩
  ·obtain⟨q,hq,hxq⟩:=uP.mem xs ps h.2 x hx;exact⟨q,by simp[hq],hxq⟩
 |_::_,[],h,_,_=>by simp[uP]at h
theorem zGZ{G:Gh}{a:Act}{w:World}{ps:List yS}(g9:Rep Γ E G a.tmps w)(h:tK E d ps):∀(xs:List Operand)(qs:List yS),(∀q∈qs,q∈ps)->uP E xs qs->
  ((xs.map a.eval).flatMap fun v=>v.cells.toList)=qs.flatMap (sT G)
 | [],[],_,_=>rfl
 |x::xs,q::qs,hq,hx=>by simp only[Ju,Kr,zAl g9 h (hq q (by simp)) hx.1,zGZ g9 h xs qs (fun p hp=>hq p (by simp[hp])) hx.2]
 | [],_::_,_,hx=>by simp[uP]at hx
 |_::_,[],_,hx=>by simp[uP]at hx
theorem zTC(T':TypeId)(ti:TypeInfo)(z:Value)(u:T)(ho:o.op=.alloc T')(gg:o.dst=jf d)(hd:d<Γ.N)
  (hi:P.info? T'=jf ti)(hz:ti.zero=jf z)(hu:u.zOk=jh)(hv:sF u=z.cells.toList)(gr:z.cells.size=u.size):
  xZ P Γ o E (E.app [(d,jf (.ptr u))] [(d,0)]):=by
 refine xZ.value gg fun a w G g9=>?_
 have gT:tK E d [.zero u]:=⟨fun s t h=>by simp at h,fun v h=>by simp at h;subst h;exact hu,by simp[xM]⟩;obtain⟨G',gm⟩:=zBa (w':=w.alloc (.cells z.cells T')) g9 gT hd (cells:=z.cells) (e:=T') rfl (fun o v h=>by simpa[hv,sT]using h) (.ptr u) (.pointer (jf ⟨w.heap.size,0,jg⟩)) (.inr ⟨.zero u,rfl,rfl,rfl,gr⟩);refine⟨_,_,?_,G',by simpa[pWr,sB,xM]using gm⟩;simp[execOp,ho,Instr.alloc,zeroValue,typeInfo,hi,hz,newVar,newRow]
theorem yAP(T':TypeId)(x:Operand)(p:yS)(ho:o.op=.box T' x)(gg:o.dst=jf d)(hd:d<Γ.N)(hx:kO E x p)(gT:tK E d [p]):
  xZ P Γ o E (E.app ((d,jf (.ptr p.tree))::pWr d [p] 0) ((d,0)::sB [p])):=by
 refine xZ.value gg fun a w G g9=>?_
 have hc:=zAl g9 gT (by simp) hx;have gr:(a.eval x).cells.size=p.tree.size:=by
  rw[<-Km,hc];cases p with
  |slot s t=>
   obtain⟨_,_,h3⟩:=gT.slot s t (by simp);show(vals G s t []).length=t.size;exact vL t [] (by rintro xs rfl;simp[T.okTup]at h3)
  |zero u=>exact vU u (gT.zero u (by simp))
 obtain⟨G',gm⟩:=zBa (w':=w.alloc (.cells (a.eval x).cells T')) g9 gT hd (cells:=(a.eval x).cells) (e:=T') rfl (fun o v h=>by rw[<-Kx,hc];simpa using h) (.ptr p.tree) (.pointer (jf ⟨w.heap.size,0,jg⟩)) (.inr ⟨p,rfl,rfl,rfl,gr⟩)
 refine⟨_,_,?_,G',gm⟩;simp[execOp,ho,Instr.box,newVar,newRow]
theorem zID(t e:TypeId)(ti:TypeInfo)(z:Value)(k n:Nat)(xs:List Operand)(ps:List yS)(ho:o.op=.buildSlice t n ((xs.zipIdx 0).map fun x=>(x.2,x.1)).toArray)(gg:o.dst=jf d)(hd:d<Γ.N)
  (ht:P.underlying t=jf (.slice e))(hi:P.info? e=jf ti)(hz:ti.zero=jf z)(hk:ti.size=k)(fe:0<k)(hn:xs.length=n)(m8:0<n)(hsm:n*k<=2 ^ 24)
  (hx:uP E xs ps)(gT:tK E d ps)(gr:∀p∈ps,p.tree.size=k):
  xZ P Γ o E (E.app ((d,jf (.sl k (ps.map yS.tree)))::pWr d ps 0) ((d,0)::sB ps)):=by
 refine xZ.value gg fun a w G g9=>?_
 subst hk;have gf:xs.length=ps.length:=uP.length xs ps hx;have hc:=zGZ g9 gT xs ps (fun _ h=>h) hx;have cY:∀v∈xs.map a.eval,v.cells.size=ti.size:=by
  intro v hv;obtain⟨x,bT,rfl⟩:=Jc.1 hv;obtain⟨p,hp,hxp⟩:=uP.mem xs ps hx x bT;rw[<-Km,zAl g9 gT hp hxp,<-gr p hp];cases p with
  |slot s t=>
   obtain⟨_,_,h3⟩:=gT.slot s t hp;show(vals G s t []).length=t.size;exact vL t [] (by rintro xs rfl;simp[T.okTup]at h3)
  |zero u=>exact vU u (gT.zero u hp)
 have aY:=Great.fill_whole fe (xs.map a.eval) ((Jb1 (n*ti.size)).map (z.cells[· %z.cells.size]!)) cY (by simp[hn]);have ba:((((xs.zipIdx 0).map fun x=>(x.2,x.1)).toArray).map fun(i,x)=>(i,a.eval x)).toList=((xs.map a.eval).zipIdx 0).map fun x=>(x.2,x.1):=by simp[List.zipIdx_map,Function.comp_def]
 have gx:=run_buildSlice (P:=P) w t e n _ _ ti z ht hi hz (by omega) (by have:=Nat.mul_pos m8 fe;omega) (by rw[ba];exact aY);have gM:((xs.map a.eval).flatMap fun v=>v.cells.toList).toArray.size=n*ti.size:=by rw[Jbm,flat_len (k:=ti.size) _ (fun v hv=>by rw[Km];exact cY v hv)];simp[hn]
 obtain⟨G',gm⟩:=zBa (w':=w.alloc (.cells ((xs.map a.eval).flatMap fun v=>v.cells.toList).toArray e)) g9 gT hd rfl (fun o v h=>by rw[hc];simpa using h) (.sl ti.size (ps.map yS.tree)) (.slice (jf ⟨w.heap.size,0,jg⟩) n n) (.inl ⟨ti.size,n,rfl,gr,by rw[<-gf,hn],by omega,by have:n<=n*ti.size:=Jau n fe;simp only[maxLen];omega,gM⟩)
 refine⟨_,_,?_,G',gm⟩;simp only[execOp,ho,Sem.run_bind,gx,Result.andThen_ok];rfl
where
 flat_len {k:Nat} (vs:List Value) (h:∀v∈vs,v.cells.toList.length=k):(vs.flatMap fun v=>v.cells.toList).length=vs.length*k:=by
  induction vs with
  |nil=>simp
  |cons v vs ih=>simp[Kr,ih (fun u hu=>h u (by simp[hu])),K8];have:=h v (by simp);simp at this;omega
end
theorem zKn{α β:Type}(f:α->List β)(x:α)(k:Nat)(hk:(f x).length=k)(fe:0<k):∀(n o:Nat)(v:β),((J1 n x).flatMap f)[o]? =jf v->o<n*k/\(f x)[o%k]? =jf v
 |0,o,v,h=>by simp at h
 |n+1,o,v,h=>by
  rw[Jv,Kr,Ks]at h;split at h
  ·grind[Nat.mod_eq_of_lt]
  ·rename_i hge
   rw[hk]at h hge;obtain⟨h1,h2⟩:=zKn f x k hk fe n (o-k) v h
   grind[Nat.mod_eq_sub_mod]
section
variable {P:Program}{Γ:Ctx}{E:Env}{o:Oper}{d:Nat}
theorem zXQ(t e:TypeId)(ti:TypeInfo)(z:Value)(u:T)(k:Nat)(x y:Operand)(n c:Nat)(kl kc:IntKind)(ho:o.op=.makeSlice t x y)(gg:o.dst=jf d)(hd:d<Γ.N)
  (ht:P.underlying t=jf (.slice e))(hi:P.info? e=jf ti)(hz:ti.zero=jf z)(hk:ti.size=k)(fe:0<k)(hu:u.zOk=jh)(hv:sF u=z.cells.toList)(fP:u.size=k)(hb:ti.bytes<=4096)
  (hx:opT E x=jf (.lit (.int kl n)))(hy:opT E y=jf (.lit (.int kc c)))(cU:n<=c)(hc:c<=68719476736):
  xZ P Γ o E (E.app [(d,jf (.sl k (J1 n u)))] [(d,0)]):=by
 refine xZ.value gg fun a w G g9=>?_
 have h1:=(xY g9 hx).1;have h2:=(xY g9 hy).1;subst hk;have gT:tK E d (J1 n (.zero u)):=⟨by simp,by grind,by
  have:∀m,xM (J1 m (.zero u))=[]:=by intro m;induction m with|zero=>rfl|succ m ih=>grind[xM]
  simp[this]⟩
 have bQ:z.cells.size=ti.size:=by grind[vU]
 have bE:(ti.bytes:Int)*(c:Int)<=281474976710656:=by have:ti.bytes*c<=4096*68719476736:=Jr hb hc;omega
 have gx:=run_make (P:=P) w t e ti z ht hi hz kl kc n c (by omega) (by omega) bE (by omega);simp only[J8]at gx;obtain⟨G',gm⟩:=zBa (w':=w.alloc (.cells (madeCells z.cells (c*ti.size)) e)) g9 gT hd rfl (fun i v h=>by
  obtain⟨h3,h4⟩:=zKn (sT G) (.zero u) ti.size (by grind[sT]) fe n i v h
  grind[Ja4,Kc,sT,madeCells]) (.sl ti.size (J1 n u)) (.slice (jf ⟨w.heap.size,0,jg⟩) n c)
  (.inl ⟨ti.size,c,by simp[yS.tree],fun p hp=>by simp at hp;obtain⟨_,rfl⟩:=hp;exact fP,by simp,by grind,by grind[maxLen],by simp[madeCells]⟩)
 refine⟨.slice (jf ⟨w.heap.size,0,jg⟩) n c,w.alloc (.cells (madeCells z.cells (c*ti.size)) e),?_,G',?_⟩
 ·simp only[execOp,ho,h1,h2,Sem.run_bind,gx,Result.andThen_ok]
  rfl
 ·have h6:∀m i,pWr d (J1 m (.zero u)) i=[]:=by intro m;induction m with|zero=>intro i;rfl|succ m ih=>grind[pWr]
  have h7:sB (J1 n (.zero u))=[]:=by
   have:∀m,xM (J1 m (.zero u))=[]:=by intro m;induction m with|zero=>rfl|succ m ih=>grind[xM]
   grind[sB]
  grind
theorem zHa(t e:TypeId)(ti:TypeInfo)(k:Nat)(ho:o.op=.buildSlice t 0 #[])(gg:o.dst=jf d)(hd:d<Γ.N)
  (ht:P.underlying t=jf (.slice e))(hi:P.info? e=jf ti):xZ P Γ o E (E.app [(d,jf (.sl k []))] [(d,0)]):=by
 refine xZ.value gg fun a w G g9=>?_
 have gT:tK E d []:=⟨by simp,by simp,by simp[xM]⟩;obtain⟨G',gm⟩:=zBa (w':=w.alloc (.cells #[] e)) g9 gT hd (cells:=#[]) rfl (by simp) (.sl k []) (.slice (jf ⟨w.heap.size,0,jg⟩) 0 0)
  (by simp)
 refine⟨_,_,?_,G',gm⟩;have h0:(Jb1 0:Array Nat)= #[]:=by rfl
 simp[execOp,ho,Instr.buildSlice,run_underlying ht,sizeOf,typeInfo,hi,Instr.fill,newRow,h0]
theorem zLE(k:Nat)(x:Operand)(ho:o.op=.move x\/o.op=.assign x)(hx:x=.const (.slice jg 0 0))(gg:o.dst=jf d)(hd:d<Γ.N):xZ P Γ o E (E.app [(d,jf (.sl k []))] [(d,0)]):=by
 refine xZ.value gg fun a w G g9=>?_
 refine⟨.slice jg 0 0,w,?_,_,vE g9 rfl hd (fun _=>.slice jg 0 0) (fun _=>rfl) (.sl k []) (.slice jg 0 0) (by simp[mkV,Gh.put]) (by simp[R,Gh.put]) (by simp[Top,yZ,xP])⟩;subst hx;rcases ho with ho|ho<;>simp[execOp,ho,Act.eval]
def Gh.nv(G:Gh)(d:Nat)(src:Nat->Option (Nat×List Nat))(φ:Nat->List Nat->Option (List Nat))(f:Nat->List Nat->Value):Gh where
 hd s z:=if s=d then(match z.getLast? with
  |some i=>f i z.dropLast
  |none=>.bool ji)else G.hd s z
 ad s z:=if s=d then(match z.getLast? with
  |some i=>(match src i with
   |some (x,q)=>G.ad x (z.dropLast++q)
   |none=>default)
  |none=>default)else G.ad s z
 lb b o:=match G.lb b o with
  |some (fl,s,z)=>(match φ s z with
   |some z'=>jf (fl,d,z')
   |none=>jf (fl,s,z))
  |none=>jg
 ow b:=match G.ow b with
  |some (s,z)=>(match φ s z with
   |some z'=>jf (d,z')
   |none=>jf (s,z))
  |none=>jg
theorem zXR{w:World}(g9:Rep Γ E G a.tmps w)(h:tK E d ps)(hd:d<Γ.N):
  ∃G',Rep Γ (E.app ((d,jf (.agg (ps.map yS.tree)))::pWr d ps 0) ((d,0)::sB ps)) G' (a.tmps.setIfInBounds d (.agg (ps.flatMap (sT G)).toArray)) w:=by
 obtain⟨f1,f0,f2,f3,f4,f5,f6⟩:=zFY g9 h;have hm:=g9.mem;have gH:Blk w w:=fun b cs e' h=>⟨cs,h,rfl⟩
 generalize gm:G.nv d (zGY ps) (zIC ps) (pHd G ps)=G'
 have ghd:∀i z,G'.hd d (z++[i])=pHd G ps i z:=by grind[Gh.nv]
 have ghd':∀s z,s≠d->G'.hd s z=G.hd s z:=by grind[Gh.nv]
 have glbm:∀b o fl x z z',G.lb b o=jf (fl,x,z)->zIC ps x z=jf z'->G'.lb b o=jf (fl,d,z'):=by grind[Gh.nv]
 have gowm:∀b x z z',G.ow b=jf (x,z)->zIC ps x z=jf z'->G'.ow b=jf (d,z'):=by grind[Gh.nv]
 have gc:∀s p,Off ((d,0)::sB ps) s p->s≠d:=fun s p h e=>absurd (h 0 (by simp[e])) (by simp)
 have gu:sM ((d,0)::sB ps) G w G' w:=by
  refine⟨by grind,fun s p h=>?_,fun b o fl s p _ hl h=>⟨?_,rfl⟩,fun b s p hl h=>?_,gH⟩
  ·grind[Gh.nv]
  all_goals grind[Gh.nv]
 have gp:Mem Γ G' w:=by
  refine⟨fun s p=>?_,fun b o l hl=>?_,fun b l hl=>?_,hm.st,hm.fr,hm.sz,hm.bk⟩
  ·rw[<-gm]
   simp only[Gh.nv];split
   ·split
    ·grind
    ·rfl
   ·exact hm.one s p
  ·rw[<-gm]at hl
   simp only[Gh.nv]at hl;split at hl
   ·rename_i hg;exact hm.lb b o _ hg
   ·cases hl
  ·rw[<-gm]at hl
   simp only[Gh.nv]at hl;split at hl
   ·rename_i hg;exact hm.ow b _ hg
   ·cases hl
 have g4:RF Γ.St G' w d (ps.map yS.tree) [] 0:=by
  refine zQd _ [] 0 (fun i u hu=>?_);rw[Ji];cases hs:zGY ps i with
  |none=>grind
  |some xq=>
   obtain⟨x,q⟩:=xq;obtain⟨h1,h2,h3,h4⟩:=f4 i u x q hu hs;refine zLD u q [i] (zCN.okTups_get _ f1 i u hu) ⟨by grind,by grind[Gh.nv],by grind,
    by grind,gH⟩ (by grind[yU.mono]) h2
 refine⟨G',wW g9 (by simp) gu gp ?_ ?_⟩
 ·grind[Wr.find,zCf,sB]
 ·intro s t hs
  simp only[Wr.find]at hs;split at hs
  ·rename_i he
   subst he;simp at hs;subst hs;refine⟨?_,by simpa only[R]using g4,by simp only[Top];exact uK.of_clean _ f0⟩;rw[Jj];simp only[g9.size,hd,mkV,if_true];rw[zDE g9 h G' ps 0 (by simp) ghd]
  ·rename_i gc
   obtain⟨i,u,h1,h2,h3⟩:=zCe ps d 0 s _ hs;simp only[Ji]at h3;simp at h3;subst h3;obtain⟨h4,h5,h6⟩:=h.slot s u (by grind);have hJ:∀xs,u≠.tup xs:=by rintro xs rfl;grind[T.okTup]
   have hi:(ps.map yS.tree)[i]? =jf u:=by simp[h1,yS.tree]
   have hr:=zAL _ [] 0 i u g4 hi;simp only[Ji]at hr;refine zJb (G:=G) (by rw[Jj];simp only[gc,if_false];exact(g9.ent s u h4).1) hJ (by grind) (fun z=>?_) hr
   grind[pHd]
theorem zQf(off:Nat):∀(vs:List Value)(i:Nat)(cs:Array Value)(k:Nat),off+i+vs.length<=cs.size->
  ((vs.zipIdx i).foldl (fun cs(x:Value×Nat)=>cs.setIfInBounds (off+x.2) x.1) cs)[k]? =if off+i<=k/\k<off+i+vs.length then vs[k-(off+i)]? else cs[k]?
 | [],i,cs,k,_=>by simp;omega
 |v::vs,i,cs,k,h=>by
  simp only[J7]at h;simp only[List.zipIdx_cons,Ug];rw[zQf off vs (i+1) _ k (by simp;omega)]
  grind
theorem zHb{pv:yS->List Value}(place:Nat->Option (Nat×Nat)):∀(vs:List (Nat×Value))(qs:List (Nat×yS))(ps:List yS)(cs:Array Value),cs.toList=ps.flatMap pv->
  (∀i p,ps[i]? =jf p->place i=jf (((ps.take i).flatMap pv).length,(pv p).length))->
  vs.map (·.1)=qs.map (·.1)->(∀(j:Nat)(v:Nat×Value)(q:Nat×yS),vs[j]? =jf v->qs[j]? =jf q->v.2.cells.toList=pv q.2/\ ∃p,ps[q.1]? =jf p/\(pv p).length=(pv q.2).length)->
  ∃cs',Instr.fill place cs vs=jf cs'/\cs'.toList=(qs.foldl (fun ps q=>ps.set q.1 q.2) ps).flatMap pv
 | [],[],ps,cs,gY,_,_,_=>⟨cs,rfl,gY⟩
 | [],_::_,_,_,_,_,h,_=>by simp at h
 |_::_,[],_,_,_,_,h,_=>by simp at h
 |(i,v)::vs,(i',q)::qs,ps,cs,gY,pd,hi,hq=>by
  simp only[Ju,Qd.injEq]at hi;obtain⟨iE,hi⟩:=hi;subst iE;obtain⟨h1,p,h2,h3⟩:=hq 0 (i,v) (i,q) rfl rfl;dsimp only at h1 h2 h3;have ia:=pd i p h2;have gC:=(Jm.1 h2).1;have mZ:ps=ps.take i++p::ps.drop (i+1):=by grind[Hq,Jbl]
  have gv:ps.set i q=ps.take i++q::ps.drop (i+1):=by grind
  have fT:v.cells.size=(pv p).length:=by grind
  have gy:cs.size=((ps.take i).flatMap pv).length+((pv p).length+((ps.drop (i+1)).flatMap pv).length):=by grind[Km]
  have eB:(v.cells.zipIdx.foldl (fun cs(x:Value×Nat)=>cs.setIfInBounds (((ps.take i).flatMap pv).length+x.2) x.1) cs).toList=(ps.set i q).flatMap pv:=by
   rw[gv];simp only[U4,Kr,<-h1];apply L4;intro k;rw[<-Array.foldl_toList,Kx,show v.cells.zipIdx.toList=v.cells.toList.zipIdx 0 from by simp,zQf _ _ 0 cs k (by grind)];have iS:cs.toList=((ps.take i).flatMap pv)++(pv p++(ps.drop (i+1)).flatMap pv):=by grind
   have dQ:v.cells.toList.length=(pv p).length:=by rw[h1,h3]
   rw[<-Kx,iS]
   grind
  have ib:∀j p',(ps.set i q)[j]? =jf p'->place j=jf ((((ps.set i q).take j).flatMap pv).length,(pv p').length):=by
   intro j p' cP;have eF:(((ps.set i q).take j).flatMap pv).length=((ps.take j).flatMap pv).length:=by
    rw[gv]
    conv=>rhs;rw[mZ]
    by_cases hj:j<=i
    ·grind
    ·rw[Ja9,Ja9]
     simp only[U4,J5]
     congr 1
     have:j-(ps.take i).length=(j-(ps.take i).length-1)+1:=by simp;omega
     grind
   grind
  have hq':∀(j:Nat)(x:Nat×Value)(y:Nat×yS),vs[j]? =jf x->qs[j]? =jf y->x.2.cells.toList=pv y.2/\ ∃p,(ps.set i q)[y.1]? =jf p/\(pv p).length=(pv y.2).length:=by
   intro j x y hx hy;obtain⟨h6,p',h7,h8⟩:=hq (j+1) x y (by grind) (by grind)
   grind
  obtain⟨cs',h4,h5⟩:=zHb place vs qs (ps.set i q) _ eB ib hi hq'
  grind[Instr.fill]
theorem uF{t:TypeId}{it:TypeInfo}{fields:Array Field}{places:List (Nat×Nat)}(hi:P.info? t=jf it)(hu:P.underlying t=jf (.struct fields))(hz:it.zero=jf z)
  (hp:fields.toList.mapM (fun f=>(P.info? f.type).map fun i=>(f.offset,i.size))=jf places)(parts:List (Nat×Value)):P.built t parts=Instr.fill (places.toArray[·]?) z.cells parts:=by
 grind[Program.built]
theorem zLF{t:TypeId}{n:Nat}{it ie:TypeInfo}(hi:P.info? t=jf it)(hu:P.underlying t=jf (.array n e))(hz:it.zero=jf z)
  (he:P.info? e=jf ie)(parts:List (Nat×Value)):P.built t parts=Instr.fill (fun i=>jf (i*ie.size,ie.size)) z.cells parts:=by
 grind[Program.built]
theorem zFo{G:Gh}:(zs:List T)->(zs.map yS.zero).flatMap (sT G)=sW zs
 | []=>rfl
 |z::zs=>by simp[sT,sW,<-zFo (G:=G) zs]
theorem zTD(t:TypeId)(place:Nat->Option (Nat×Nat))(z:Value)(zs:List T)(pl:List (Nat×Operand))(qs:List (Nat×yS))(ps:List yS)(ho:o.op=.build t pl.toArray)(gg:o.dst=jf d)(hd:d<Γ.N)
  (hb:∀parts,P.built t parts=Instr.fill place z.cells parts)(hzv:sW zs=z.cells.toList)(hz:kX zs=jh)(pd:∀i u,zs[i]? =jf u->place i=jf (T.sizes (zs.take i),u.size))
  (gT:qs.foldl (fun ps q=>ps.set q.1 q.2) (zs.map yS.zero)=ps)(gz:tK E d ps)(hix:pl.map (·.1)=qs.map (·.1))
  (hq:∀(j:Nat)(x:Nat×Operand)(q:Nat×yS),pl[j]? =jf x->qs[j]? =jf q->kO E x.2 q.2/\q.2∈ps/\ ∃u,zs[q.1]? =jf u/\u.size=q.2.tree.size):
  xZ P Γ o E (E.app ((d,jf (.agg (ps.map yS.tree)))::pWr d ps 0) ((d,0)::sB ps)):=by
 refine xZ.value gg fun a w G g9=>?_
 obtain⟨G',gm⟩:=zXR g9 gz hd;have gr:∀(us:List T),kX us=jh->((us.map yS.zero).flatMap (sT G)).length=T.sizes us:=by grind[zFo,zAM]
 obtain⟨cs',h1,h2⟩:=zHb (pv:=sT G) place (pl.map fun x=>(x.1,a.eval x.2)) qs (zs.map yS.zero) z.cells (by rw[zFo,hzv]) (fun i p hp=>by
   rw[Jw]at hp;cases hu:zs[i]? with
   |none=>grind
   |some u=>
    simp[hu]at hp;subst hp;rw[pd i u hu,<-Uw,gr _ (zOks_take zs i hz),sT,vU u (zOks_get zs hz i u hu)])
  (by grind[Function.comp_def]) (fun j v q hv hqj=>by
   rw[Jw]at hv;cases hx:pl[j]? with
   |none=>grind
   |some x=>
    simp[hx]at hv;subst hv;obtain⟨h3,h4,u,h5,h6⟩:=hq j x q hx hqj;refine⟨zAl g9 gz h4 h3,.zero u,by simp[h5],?_⟩;rw[sT,vU u (zOks_get zs hz _ u h5),h6];cases mD:q.2 with
    |slot s t=>
     rw[mD]at h4;obtain⟨_,_,h7⟩:=gz.slot s t h4;exact(vL t [] (by rintro xs rfl;grind[T.okTup])).symm
    |zero u'=>
     rw[mD]at h4;exact(vU u' (gz.zero u' h4)).symm)
 rw[gT]at h2;have h3:cs'=(ps.flatMap (sT G)).toArray:=by rw[<-h2]
 refine⟨_,w,?_,G',gm⟩;have gx:=run_build (P:=P) w t (pl.map fun x=>(x.1,a.eval x.2)).toArray cs' (by grind);simp only[Jay,execOp,ho,Sem.run_bind]at gx ⊢
 simp_all
where
 zOks_get:(xs:List T)->kX xs=jh-> ∀(i:Nat)(x:T),xs[i]? =jf x->x.zOk=jh
  | [],_,_,_,h=>by simp at h
  |y::ys,hk,i,x,h=>by
   simp only[kX,J4]at hk;cases i with
   |zero=>grind
   |succ i=>exact zOks_get ys hk.2 i x (by grind)
 zOks_take:(xs:List T)-> ∀i,kX xs=jh->kX (xs.take i)=jh
  | [],i,_=>by simp[kX]
  |y::ys,0,_=>by simp[kX]
  |y::ys,i+1,hk=>by
   simp only[kX,J4,L5]at hk ⊢
   exact⟨hk.1,zOks_take ys i hk.2⟩
end
mutual
def vT:T->T->Bool
 |.agg xs,.agg ys=>jS xs ys
 |.agg _,_=>ji
 |.tup _,_=>ji
 |_,.agg _=>ji
 |_,.tup _=>ji
 |.any,_|.lit _,_|.ro _,_|.same _ _,_|.addr _ _,_|.sub _ _ _ _ _,_|.sl _ _,_|.ptr _,_=>jh
def jS:List T->List T->Bool
 | [],[]=>jh
 |x::xs,y::ys=>vT x y&&jS xs ys
 | [],_::_=>ji
 |_::_,[]=>ji
end
mutual
theorem zCg:(x y:T)->vT x y=jh->x.size=y.size
 |.agg xs,.agg ys,h=>by simp only[vT]at h;simp only[T.size];exact zEm xs ys h
 |.agg _,.any,h|.agg _,.lit _,h|.agg _,.ro _,h|.agg _,.same _ _,h|.agg _,.addr _ _,h|.agg _,.sub _ _ _ _ _,h|.agg _,.sl _ _,h|.agg _,.ptr _,h|.agg _,.tup _,h=>by grind[vT]
 |.tup _,_,h=>by grind[vT]
 |.any,y,h|.lit _,y,h|.ro _,y,h|.same _ _,y,h|.addr _ _,y,h|.sub _ _ _ _ _,y,h|.sl _ _,y,h|.ptr _,y,h=>by cases y<;>simp[vT]at h<;>simp[T.size]
theorem zEm:(xs ys:List T)->jS xs ys=jh->T.sizes xs=T.sizes ys
 | [],[],_=>rfl
 |x::xs,y::ys,h=>by simp only[jS,J4]at h;simp only[T.sizes,zCg x y h.1,zEm xs ys h.2]
 | [],_::_,h=>by grind[jS]
 |_::_,[],h=>by grind[jS]
end
section
variable {G:Gh}{w:World}{s:Nat}
mutual
theorem zKo:(t:T)-> ∀(p:List Nat)(b o j:Nat),Loc G w s t p b o->j<t.size-> ∃y,G.lb b (o+j)=jf (ji,s,y++p)
 |.agg xs,p,b,o,j,h,hj=>by simp only[Loc,T.size]at h hj;exact zQg xs p 0 b o j h.2 hj
 |.any,p,b,o,j,h,hj|.lit _,p,b,o,j,h,hj|.ro _,p,b,o,j,h,hj|.same _ _,p,b,o,j,h,hj|.addr _ _,p,b,o,j,h,hj|.sub _ _ _ _ _,p,b,o,j,h,hj|.sl _ _,p,b,o,j,h,hj|.ptr _,p,b,o,j,h,hj=>by
  simp only[Loc,T.size]at h hj
  simp_all
 |.tup _,_,_,_,_,h,_=>by simp only[Loc]at h
theorem zQg:(xs:List T)-> ∀(p:List Nat)(i b o j:Nat),vQ G w s xs p i b o->j<T.sizes xs-> ∃y,G.lb b (o+j)=jf (ji,s,y++p)
 | [],_,_,_,_,_,_,hj=>by grind[T.sizes]
 |x::xs,p,i,b,o,j,h,hj=>by
  simp only[vQ,T.sizes]at h hj
  by_cases gC:j<x.size
  ·obtain⟨y,hy⟩:=zKo x (i::p) b o j h.1 gC
   exact⟨y++[i],by grind⟩
  ·obtain⟨y,hy⟩:=zQg xs p (i+1) b (o+x.size) (j-x.size) h.2 (by omega)
   grind
end
mutual
theorem zTE{G':Gh}{w':World}:(u u0:T)-> ∀(p:List Nat)(b o:Nat),vT u u0=jh->(∀y,u.inT y.reverse=jh->G'.ad s (y++p)=G.ad s (y++p))->
  (∀b o y,G.lb b o=jf (ji,s,y++p)->G'.lb b o=jf (ji,s,y++p))->(∀j v,(vals G' s u p)[j]? =jf v->yN w' b (o+j)=jf v)->Loc G w s u0 p b o->Loc G' w' s u p b o
 |.agg xs,.agg ys,p,b,o,h,ha,hl,hc,h0=>by
  simp only[Loc,vT]at h h0 ⊢
  refine⟨by have:=ha [] rfl;grind,zQh xs ys p 0 b o h (fun i x hx y hy=>?_) (by omega) (by grind[vals]) h0.2⟩
  grind[G8,T.inT]
 |.agg _,.any,_,_,_,h,_,_,_,_|.agg _,.lit _,_,_,_,h,_,_,_,_|.agg _,.ro _,_,_,_,h,_,_,_,_|.agg _,.same _ _,_,_,_,h,_,_,_,_|.agg _,.addr _ _,_,_,_,h,_,_,_,_|.agg _,.sub _ _ _ _ _,_,_,_,h,_,_,_,_|.agg _,.sl _ _,_,_,_,h,_,_,_,_|.agg _,.ptr _,_,_,_,h,_,_,_,_|.agg _,.tup _,_,_,_,h,_,_,_,_=>by grind[vT]
 |.tup _,_,_,_,_,h,_,_,_,_=>by grind[vT]
 |.any,u0,p,b,o,h,ha,hl,hc,h0|.lit _,u0,p,b,o,h,ha,hl,hc,h0|.ro _,u0,p,b,o,h,ha,hl,hc,h0|.same _ _,u0,p,b,o,h,ha,hl,hc,h0|.addr _ _,u0,p,b,o,h,ha,hl,hc,h0|.sub _ _ _ _ _,u0,p,b,o,h,ha,hl,hc,h0|.sl _ _,u0,p,b,o,h,ha,hl,hc,h0|.ptr _,u0,p,b,o,h,ha,hl,hc,h0=>by have h1:=vF (by cases u0<;>simp[vT]at h<;>rfl) h0;have h2:=ha [] rfl;rw[K0]at h2;simp only[Loc];exact⟨h2.trans h1.1,by simp_all,by simpa using hc 0 (G'.hd s p) (by simp[vals])⟩
theorem zQh{G':Gh}{w':World}:(xs ys:List T)-> ∀(p:List Nat)(j b o:Nat),jS xs ys=jh->(∀i x,xs[i]? =jf x-> ∀y,x.inT y.reverse=jh->G'.ad s (y++((j+i)::p))=G.ad s (y++((j+i)::p)))->
  (∀b o y,G.lb b o=jf (ji,s,y++p)->G'.lb b o=jf (ji,s,y++p))->(∀i v,(yE G' s xs p j)[i]? =jf v->yN w' b (o+i)=jf v)->vQ G w s ys p j b o->vQ G' w' s xs p j b o
 | [],[],_,_,_,_,_,_,_,_,_=>by simp only[vQ]
 |x::xs,y::ys,p,j,b,o,h,ha,hl,hc,h0=>by
  simp only[jS,J4,vQ]at h h0 ⊢
  have hs:=zCg x y h.1;have hJ:∀zs,x≠.tup zs:=by rintro zs rfl;grind[vT]
  refine⟨zTE x y (j::p) b o h.1 (fun z hz=>by simpa using ha 0 x (by simp) z hz) (fun b o z hz=>by have:=hl b o (z++[j]) (by grind);grind) (fun i v hv=>hc i v ?_) h0.1,
   zQh xs ys p (j+1) b (o+x.size) h.2 (fun i z hz=>by have:=ha (i+1) z (by grind);grind) hl (fun i v hv=>?_) (by grind)⟩
  ·grind[yE]
  ·have:=hc (x.size+i) v (by
    grind[yE,vL])
   grind
 | [],_::_,_,_,_,_,h,_,_,_,_=>by grind[jS]
 |_::_,[],_,_,_,_,h,_,_,_,_=>by grind[jS]
end
end
def zGt(p:yS)(q:List Nat)(s:Nat)(z:List Nat):Option (List Nat):=
 match p with
 |.slot s0 t=>if sE t&&s0==s then jf (z++q)else jg
 |.zero _=>jg
def sHd(G:Gh)(p:yS)(y:List Nat):Value:=
 match p with
 |.slot s _=>G.hd s y
 |.zero u=>jE (zhd u y.reverse)
def sWr(r:Nat)(q:List Nat):yS->Wr
 |.slot s t=>if sE t then[(s,jf (cpT r t q))]else[]
 |.zero _=>[]
def Gh.st(G:Gh)(r:Nat)(q:List Nat)(p:yS):Gh where
 hd s z:=if s=r/\q<:+z then sHd G p (z.take (z.length-q.length))else G.hd s z
 ad s z:=if s=r/\q<:+z/\p.tree.inT (z.take (z.length-q.length)).reverse=ji then(match p with
  |.slot s0 _=>G.ad s0 (z.take (z.length-q.length))
  |.zero _=>default)else G.ad s z
 lb b o:=match G.lb b o with
  |some (fl,s,z)=>(match zGt p q s z with
   |some z'=>jf (fl,r,z')
   |none=>jf (fl,s,z))
  |none=>jg
 ow b:=match G.ow b with
  |some (s,z)=>(match zGt p q s z with
   |some z'=>jf (r,z')
   |none=>jf (s,z))
  |none=>jg
mutual
theorem zLG{Γ:Ctx}{G:Gh}{w:World}(hm:Mem Γ G w){s:Nat}:(t:T)-> ∀(p:List Nat)(v:Value),v∈vals G s t p->v.oneCell'=jh
 |.agg xs,p,v,h=>by simp only[vals]at h;exact zCP hm xs p 0 v h
 |.any,p,v,h|.lit _,p,v,h|.ro _,p,v,h|.same _ _,p,v,h|.addr _ _,p,v,h|.sub _ _ _ _ _,p,v,h|.sl _ _,p,v,h|.ptr _,p,v,h|.tup _,p,v,h=>by simp only[vals,List.mem_singleton]at h;rw[h];exact hm.one s p
theorem zCP{Γ:Ctx}{G:Gh}{w:World}(hm:Mem Γ G w){s:Nat}:(xs:List T)-> ∀(p:List Nat)(j:Nat)(v:Value),v∈yE G s xs p j->v.oneCell'=jh
 | [],_,_,_,h=>by grind[yE]
 |x::xs,p,j,v,h=>by
  simp only[yE,Ja]at h;rcases h with h|h
  ·exact zLG hm x _ v h
  ·exact zCP hm xs p _ v h
end
mutual
theorem zFp:(u:T)->u.zOk=jh-> ∀v∈sF u,v.oneCell'=jh
 |.lit v,h,x,hx=>by simp only[sF,List.mem_singleton]at hx;rw[hx];exact h
 |.sl _ _,_,x,hx=>by simp only[sF,List.mem_singleton]at hx;rw[hx];rfl
 |.agg xs,h,x,hx=>by simp only[T.zOk]at h;simp only[sF]at hx;exact zHc xs h x hx
 |.any,h,_,_|.ro _,h,_,_|.same _ _,h,_,_|.addr _ _,h,_,_|.sub _ _ _ _ _,h,_,_|.ptr _,h,_,_|.tup _,h,_,_=>by grind[T.zOk]
theorem zHc:(xs:List T)->kX xs=jh-> ∀v∈sW xs,v.oneCell'=jh
 | [],_,_,h=>by grind[sW]
 |x::xs,h,v,hv=>by
  simp only[kX,J4]at h;simp only[sW,Ja]at hv;rcases hv with hv|hv
  ·exact zFp x h.1 v hv
  ·exact zHc xs h.2 v hv
end
theorem zLH(y q:List Nat):(y++q).take ((y++q).length-q.length)=y:=by simp
theorem zOg{s:Nat}{t:T}{v:Option Value}(hv:v=jf (mkV G s t []))(hJ:∀xs,t≠.tup xs)(hs:∀p,G'.hd s p=G.hd s p)(mO:∀z,G'.hd d (z++q)=G.hd s z)
  (hr:R Γ.St G' w' d t q):Ent Γ G' w' v s (cpT d t q):=by
 have hz:∀z,G'.hd s (z++[])=G'.hd d (z++q):=by grind
 refine⟨?_,?_,qD d t q⟩
 ·rw[hv,zAk (G:=G') (G':=G') t q [] hJ hz,jZ G s t [] hJ,zBz t [] q (fun z=>by rw[mO,Jh])]
 ·exact zD8 (G:=G') (G':=G') (fun _=>rfl) t q [] hz hJ (yU.triv (fun _ _=>⟨rfl,rfl⟩) _) hr
section
variable {P:Program}{Γ:Ctx}{E:Env}{o:Oper}
theorem jF:(f:List Nat)-> ∀(t u:T),zZ t->zZ u->zZ (t.set f u)
 | [],t,u,_,hu=>by grind[T.set]
 |i::f,t,u,ht,hu=>by
  cases t with
  |sl k xs=>
   simp only[T.set];split
   ·rename_i x hx
    simp only[zZ,yU]at ht ⊢
    exact sets_clean xs i _ ht (jF f x u (uI xs ht i x hx) hu)
   ·exact ht
  |agg xs=>
   simp only[T.set];split
   ·rename_i x hx
    simp only[zZ,yU]at ht ⊢
    exact sets_clean xs i _ ht (jF f x u (uI xs ht i x hx) hu)
   ·exact ht
  |tup xs=>
   simp only[T.set];split
   ·rename_i x hx
    simp only[zZ,yU]at ht ⊢
    exact sets_clean xs i _ ht (jF f x u (uI xs ht i x hx) hu)
   ·exact ht
  |ptr t=>
   simp only[T.set];split
   ·simp only[zZ,yU]at ht ⊢
    exact jF f t u ht hu
   ·exact ht
  |_=>grind[T.set]
where sets_clean:(xs:List T)-> ∀(i:Nat)(y:T),yZ xs->zZ y->yZ (xs.set i y)
 | [],_,_,_,_=>by grind
 |x::xs,0,y,h,hy=>by simp only[Ls,yZ,xP]at h ⊢;grind
 |x::xs,i+1,y,h,hy=>by simp only[Lg,yZ,xP]at h ⊢;exact⟨h.1,sets_clean xs i y h.2 hy⟩
theorem zJc(T':TypeId)(ti:TypeInfo)(x y:Operand)(r:Nat)(q:List Nat)(tr u0:T)(p:yS)(ho:o.op=.store T' x y)(gg:o.dst=jg)
  (hi:P.info? T'=jf ti)(gr:ti.size=p.tree.size)(pG:0<ti.size)(hx:zBO Γ E x r q)(hr:E r=jf tr)(du:tr.single=jh)(hg:tr.get q.reverse=jf u0)(hl:tr.locd q.reverse=jh)
  (fg:vT p.tree u0=jh)(hy:kO E y p)(gT:tK E r [p]):
  xZ P Γ o E (E.app ((r,jf (tr.set q.reverse p.tree))::sWr r q p) ((r,q.length)::sB [p])):=by
 refine xZ.skip gg fun a w G g9=>?_
 have hm:=g9.mem;have bI:=hx a w G g9;obtain⟨e3,e4,e5⟩:=g9.ent r _ hr;have pF:q≠[]:=by rintro rfl;simp[T.locd]at hl
 obtain⟨i0,f0,uz⟩:∃i f,q.reverse=i::f:=by
  cases h:q.reverse with
  |nil=>exact absurd (by simpa using h) pF
  |cons i f=>exact⟨i,f,rfl⟩
 have ao:∀v:T,(tr.set q.reverse v).single=jh/\zZ tr:=by
  intro v;rw[uz]at hg ⊢
  cases tr with
  |sl k xs=>exact⟨by simp only[T.set];split<;>rfl,by simpa only[Top,zZ,yU]using e5⟩
  |ptr t=>exact⟨by simp only[T.set];split<;>rfl,by simpa only[Top,zZ,yU]using e5⟩
  |agg xs=>simp[T.single]at du
  |tup xs=>simp[T.single]at du
  |_=>simp[T.get]at hg
 obtain⟨b,ob,cs,et,mg,gH,iN⟩:=(zA3 q.reverse tr u0 [] e4 hg).2 hl;simp only[rp,Ki,Jh]at mg;have hru0:=(zA3 q.reverse tr u0 [] e4 hg).1;have eO:=zB0 mg;have ay:=zCg _ _ fg;have hc:=zAl g9 gT (by simp) hy;have cY:(a.eval y).cells.size=p.tree.size:=by
  rw[<-Km,hc];cases p with
  |slot s t=>obtain⟨_,_,h3⟩:=gT.slot s t (by simp);exact vL t [] (by rintro xs rfl;simp[T.okTup]at h3)
  |zero u=>exact vU u (gT.zero u (by simp))
 have gk:∀v∈(a.eval y).cells.toList,v.oneCell'=jh:=by
  rw[hc];intro v hv;cases p with
  |slot s t=>exact zLG hm t [] v hv
  |zero u=>exact zFp u (gT.zero u (by simp)) v hv
 generalize ek:w.setRow b (cs.toList.take ob++(a.eval y).cells.toList++cs.toList.drop (ob+(a.eval y).cells.toList.length)).toArray=w'
 have eB:w'.heap[b]? =jf (.cells (cs.toList.take ob++(a.eval y).cells.toList++cs.toList.drop (ob+(a.eval y).cells.toList.length)).toArray et (0,0)):=by rw[<-ek];exact setRow_heap w b cs _ et _ gH
 have gD:∀b',b'≠b->w'.heap[b']? =w.heap[b']?:=fun b' h=>by rw[<-ek];exact setRow_other w b b' _ h
 have gM:w'.heap.size=w.heap.size:=by rw[<-ek];exact size_setRow w b _
 have gy:(a.eval y).cells.toList.length=u0.size:=by rw[Km,cY,ay]
 have eV:∀k,yN w' b k=if ob<=k/\k<ob+u0.size then(sT G p)[k-ob]? else yN w b k:=by
  intro k;simp only[yN,World.cell?,eB,gH,Ue,Hs,if_false];rw[<-hc,<-gy]at*
  rw[<-Kx,<-Kx (xs:=cs)];simp only[];have gY:cs.toList.length=cs.size:=Km ..
  generalize (a.eval y).cells.toList=V at*
  by_cases h1:k<ob
  ·rw[if_neg (by omega),Jg,Jy (by simp;omega),Gx h1]
  ·by_cases h2:k<ob+V.length
   ·rw[if_pos ⟨by omega,h2⟩,Jg,Jk (by simp;omega),Jy (by simp;omega)]
    congr 1;simp;omega
   ·rw[if_neg (by omega),Jg,Jk (by simp;omega),Jk (by simp;omega),Ly]
    congr 1;simp;omega
 have ca:∀b' o' fl s z,G.lb b' o'=jf (fl,s,z)-> ¬(s=r/\q<:+z)->yN w' b' o'=yN w b' o':=by
  intro b' o' fl s z h1 h2
  by_cases hb:b'=b
  ·subst hb
   rw[eV];split
   ·rename_i h3
    obtain⟨y',h4⟩:=zKo u0 q b' ob (o'-ob) mg (by omega);rw[show ob+(o'-ob)=o' from by omega,h1]at h4;simp at h4;exact absurd ⟨h4.2.1,y',h4.2.2.symm⟩ h2
   ·rfl
  ·simp[yN,World.cell?,gD b' hb]
 have eC:Blk w w':=by
  intro b' cs' e' h1
  by_cases hb:b'=b
  ·subst hb
   rw[gH]at h1;simp at h1;obtain⟨rfl,rfl⟩:=h1;exact⟨_,eB,by simp;have:cs.toList.length=cs.size:=Km ..;omega⟩
  ·exact⟨cs',by rw[gD b' hb];exact h1,rfl⟩
 generalize gm:G.st r q p=G'
 have ghd:∀y',G'.hd r (y'++q)=sHd G p y':=fun y'=>by rw[<-gm];simp[Gh.st]
 have ghd':∀s z,¬(s=r/\q<:+z)->G'.hd s z=G.hd s z:=fun s z h=>by rw[<-gm];simp only[Gh.st];rw[if_neg h]
 have gad:∀s z,¬(s=r/\q<:+z)->G'.ad s z=G.ad s z:=fun s z h=>by rw[<-gm];simp only[Gh.st];rw[if_neg (fun h2=>h ⟨h2.1,h2.2.1⟩)]
 have gadf:∀y',p.tree.inT y'.reverse=jh->G'.ad r (y'++q)=G.ad r (y'++q):=fun y' h=>by rw[<-gm];simp only[Gh.st,zLH];rw[if_neg (by simp[h])]
 have gadm:∀s0 t y',p=.slot s0 t->t.inT y'.reverse=ji->G'.ad r (y'++q)=G.ad s0 y':=fun s0 t y' h1 h2=>by subst h1;rw[<-gm];simp only[Gh.st,zLH,yS.tree];rw[if_pos];simp[h2]
 have glb:∀b' o' fl s z,G.lb b' o'=jf (fl,s,z)->zGt p q s z=jg->G'.lb b' o'=jf (fl,s,z):=fun b' o' fl s z h1 h2=>by rw[<-gm];simp[Gh.st,h1,h2]
 have glbm:∀b' o' fl s z z',G.lb b' o'=jf (fl,s,z)->zGt p q s z=jf z'->G'.lb b' o'=jf (fl,r,z'):=fun b' o' fl s z z' h1 h2=>by rw[<-gm];simp[Gh.st,h1,h2]
 have gow:∀b' s z,G.ow b'=jf (s,z)->zGt p q s z=jg->G'.ow b'=jf (s,z):=fun b' s z h1 h2=>by rw[<-gm];simp[Gh.st,h1,h2]
 have gowm:∀b' s z z',G.ow b'=jf (s,z)->zGt p q s z=jf z'->G'.ow b'=jf (r,z'):=fun b' s z z' h1 h2=>by rw[<-gm];simp[Gh.st,h1,h2]
 have aG:∀s z,(∀n,(s,n)∉(r,q.length)::sB [p])->zGt p q s z=jg:=by
  intro s z h;cases p with
  |zero u=>rfl
  |slot s0 t=>
   simp only[zGt];rw[if_neg];intro h2;simp only[J4,beq_iff_eq]at h2;obtain⟨h3,rfl⟩:=h2;exact h 1 (by simp[sB,xM,h3])
 have pH:∀z,zGt p q r z=jg:=by
  intro z;cases p with
  |zero u=>rfl
  |slot s0 t=>
   simp only[zGt];rw[if_neg];intro h2;simp only[J4,beq_iff_eq]at h2;obtain⟨h3,rfl⟩:=h2;have:=(La.1 gT.dist).1;simp[xM,h3]at this
 have mH:∀s z,Off ((r,q.length)::sB [p]) s z-> ¬(s=r/\q<:+z):=by
  rintro s z h ⟨rfl,h2⟩
  have:=h q.length (by simp);have:=h2.length_le;omega
 have gu:sM ((r,q.length)::sB [p]) G w G' w':=by
  refine⟨fun s z h=>ghd' s z (mH s z h),fun s z h=>gad s z (mH s z h),fun b' o' fl s z _ h1 h2=>⟨glb b' o' fl s z h1 (aG s z h2),ca b' o' fl s z h1 ?_⟩,fun b' s z h1 h2=>gow b' s z h1 (aG s z h2),eC⟩
  rintro⟨rfl,_⟩
  exact h2 q.length (by simp)
 have a7:zBY Γ w b:=by obtain⟨y',h4⟩:=zKo u0 q b ob 0 mg (by omega);exact hm.lb _ _ _ h4
 have gp:Mem Γ G' w':=by
  refine⟨fun s z=>?_,fun b' o' l hl=>?_,fun b' l hl=>?_,fun b' x' er=>?_,fun b' h1 h2=>?_,by rw[gM];exact hm.sz,hm.bk.trans eC (by rw[<-ek];rfl) (by rw[<-ek];rfl)⟩
  ·by_cases h:s=r/\q<:+z
   ·obtain⟨rfl,y',rfl⟩:=h
    rw[ghd];unfold sHd;split
    ·exact hm.one _ _
    ·exact zAX _
   ·rw[ghd' s z h];exact hm.one s z
  ·have:∃l',G.lb b' o'=jf l':=by
    rw[<-gm]at hl;simp only[Gh.st]at hl;split at hl
    ·exact⟨_,by assumption⟩
    ·cases hl
   obtain⟨l',bn⟩:=this;have:=hm.lb b' o' l' bn;exact⟨by rw[gM];exact this.1,this.2⟩
  ·have:∃l',G.ow b'=jf l':=by
    rw[<-gm]at hl;simp only[Gh.st]at hl;split at hl
    ·exact⟨_,by assumption⟩
    ·cases hl
   obtain⟨l',bn⟩:=this;have:=hm.ow b' l' bn;exact⟨by rw[gM];exact this.1,this.2⟩
  ·have hb:b'≠b:=by rintro rfl;rw[a7.2.2]at er;cases er
   rw[gD b' hb];exact hm.st b' x' er
  ·have hb:b'≠b:=by
    rintro rfl
    rcases a7.2.1 with h3|h3
    ·omega
    ·exact h2 h3
   rw[gD b' hb];exact hm.fr b' h1 h2
 have dW:Upd G w G' w' r q:=by refine⟨fun z h=>ghd' r z (fun h2=>h h2.2),fun z h=>gad r z (fun h2=>h h2.2),fun b' o' fl z h1 h=>⟨glb b' o' fl r z h1 (pH z),ca b' o' fl r z h1 (fun h2=>h h2.2)⟩,fun b' z h1 _=>gow b' r z h1 (pH z),eC⟩
 have t8:R Γ.St G' w' r p.tree q:=by
  cases hp:p with
  |zero u=>
   refine zKm u q (gT.zero u (by simp[hp])) (fun z=>by rw[ghd];simp[sHd,hp])
  |slot s0 t=>
   obtain⟨h1,h2,h3⟩:=gT.slot s0 t (by simp[hp]);have fh:=(g9.ent s0 t h1).2.1
   by_cases pK:sE t=jh
   ·have u8:s0≠r:=by
     rintro rfl
     have:=(La.1 gT.dist).1;simp[hp,xM,pK]at this
    refine zLD t [] q h3 ⟨fun z=>by rw[ghd,Jh];simp[sHd,hp],fun z hz=>by rw[Jh];exact gadm s0 t z hp hz,fun b' o' fl z _ h4=>?_,fun b' z h4=>?_,eC⟩ (yU.mono (fun _ _=>False.elim) t h2) fh
    ·rw[Jh]at h4
     exact⟨glbm b' o' fl s0 z _ h4 (by simp[zGt,hp,pK]),ca b' o' fl s0 z h4 (fun h5=>u8 h5.1)⟩
    ·rw[Jh]at h4
     exact gowm b' s0 z _ h4 (by simp[zGt,hp,pK])
   ·have hh:G'.hd r q=G.hd s0 []:=by have:=ghd [];rw[K0]at this;rw[this];simp[sHd,hp]
    cases t<;>simp[sE]at pK<;>simp only[R,yS.tree]at fh ⊢ <;>rw[hh]<;>exact fh
 have pz:vals G' r p.tree q=sT G p:=by
  cases hp:p with
  |zero u=>exact zFn u q (gT.zero u (by simp[hp])) (fun z=>by rw[ghd];simp[sHd,hp])
  |slot s0 t=>exact zA4 t [] q (fun z=>by rw[ghd];simp[sHd,hp])
 have aN:∀b' o',Loc G w r u0 q b' o'->Loc G' w' r p.tree q b' o':=by
  intro b' o' h1;have h2:b'=b/\o'=ob:=by have:=(zB0 h1).symm.trans eO;simp at this;exact this
  obtain⟨rfl,rfl⟩:=h2;refine zTE p.tree u0 q b' o' fg (fun y' h=>gadf y' h) (fun b2 o2 y' h=>glb b2 o2 ji r _ h (pH _)) (fun j v hv=>?_) h1;rw[pz]at hv;have hj:=(Jm.1 hv).1;have pd:(sT G p).length=u0.size:=by rw[<-hc,gy]
  rw[eV,if_pos ⟨by omega,by omega⟩,show o'+j-o'=j from by omega];exact hv
 have aC:R Γ.St G' w' r (tr.set q.reverse p.tree) []:=by
  have cO:rp q.reverse []=q:=by simp[rp]
  refine zFV q.reverse tr p.tree u0 [] (by rw[cO];exact dW) e4 hg ay (yU.mono (fun _ _=>False.elim) tr (ao .any).2) (by rw[cO];exact aN) (by rw[cO];exact t8)
 have gA:=run_storeCells_at P b ob et (a.eval y).cells.toList 0 cs w gH (by omega) gk;simp only[Um]at gA;rw[ek]at gA;refine⟨w',?_,G',wW g9 rfl gu gp ?_ ?_⟩
 ·have dZ:(a.eval y).cells.size=ti.size:=by rw[cY,gr]
  simp[execOp,ho,bI,eO,Instr.storeAt,uY,storeVar,sizeOf,typeInfo,hi,dZ,gA]
 ·intro s hs
  simp only[Wr.find]at hs;split at hs
  ·cases hs
  ·rename_i gc
   refine⟨fun n hn=>?_,rfl⟩;simp only[J9,Jah.injEq]at hn;rcases hn with⟨h1,_⟩|hn
   ·exact gc h1.symm
   ·cases p with
    |zero u=>simp[sB,xM]at hn
    |slot s0 t=>
     by_cases pK:sE t=jh
     ·simp[sB,xM,pK]at hn
      simp[sWr,pK,Wr.find,hn.1.symm]at hs
     ·simp[sB,xM,pK]at hn
 ·intro s t hs
  simp only[Wr.find]at hs;split at hs
  ·rename_i he
   subst he;simp at hs;subst hs;refine⟨?_,aC,Top.of_clean _ (jF _ _ _ (ao .any).2 ?_)⟩
   ·rw[e3,yV (ao p.tree).1,yV du]
    congr 1
    exact(ghd' r [] (fun h=>pF (by simpa using h.2))).symm
   ·cases p with
    |zero u=>exact(zAY u (gT.zero u (by simp))).1
    |slot s0 t=>exact(gT.slot s0 t (by simp)).2.1
  ·rename_i gc
   cases hp:p with
   |zero u=>simp[sWr,hp,Wr.find]at hs
   |slot s0 t0=>
    by_cases pK:sE t0=jh
    ·simp only[sWr,hp,pK,if_true,Wr.find]at hs
     split at hs
     ·rename_i he
      subst he;simp at hs;subst hs;obtain⟨h1,h2,h3⟩:=gT.slot s0 t0 (by simp[hp]);refine zOg (G:=G) (g9.ent s0 t0 h1).1 (by rintro xs rfl;simp[T.okTup]at h3) (fun z=>ghd' s0 z (fun h=>gc h.1.symm)) (fun z=>by rw[ghd];simp[sHd,hp]) (by rw[hp]at t8;exact t8)
     ·cases hs
    ·simp[sWr,hp,pK,Wr.find]at hs
theorem zLI(T':TypeId)(ti:TypeInfo)(x y:Operand)(r:Nat)(q:List Nat)(tr u0:T)(p:yS)(ho:o.op=.store T' x y)(gg:o.dst=jg)
  (hi:P.info? T'=jf ti)(gr:ti.size=p.tree.size)(pG:0<ti.size)(hx:opT E x=jf (.addr r q))(hr:E r=jf tr)(du:tr.single=jh)(hg:tr.get q.reverse=jf u0)(hl:tr.locd q.reverse=jh)
  (fg:vT p.tree u0=jh)(hy:kO E y p)(gT:tK E r [p]):
  xZ P Γ o E (E.app ((r,jf (tr.set q.reverse p.tree))::sWr r q p) ((r,q.length)::sB [p])):=
 by grind[zJc,zBO.addr]
end
section
variable {G G':Gh}{s:Nat}
theorem zOh(xs:List T):∀(p:List Nat)(j:Nat),(∀k,j<=k-> ∀z,G'.hd s (z++(k::p))=G.hd s (z++(k::p)))->yE G' s xs p j=yE G s xs p j:=by
 induction xs with
 |nil=>grind[yE]
 |cons z zs ih=>
  intro p j h;simp only[yE];rw[zA4 z (j::p) (j::p) (h j (Je _)),ih p (j+1) (by grind)]
theorem zRG(xs:List T):∀(p:List Nat)(j i:Nat)(x y:T),xs[i]? =jf x->(∀k,k≠j+i-> ∀z,G'.hd s (z++(k::p))=G.hd s (z++(k::p)))->
  vals G' s y ((j+i)::p)=vals G s x ((j+i)::p)->yE G' s (xs.set i y) p j=yE G s xs p j:=by
 induction xs with
 |nil=>simp
 |cons z zs ih=>
  intro p j i x y h hz hy;cases i with
  |zero=>
   grind[yE,zOh]
  |succ i=>
   simp only[Lg,yE];rw[zA4 z (j::p) (j::p) (hz j (by omega)),ih p (j+1) i x y (by grind) (by grind) (by grind)]
theorem zLJ:(f:List Nat)-> ∀(t u u0:T)(p:List Nat),t.get f=jf u0->u0.single=jh->u.single=jh->(∀z,(rp f p<:+z->z=rp f p)->G'.hd s z=G.hd s z)->vals G' s (t.set f u) p=vals G s t p
 | [],t,u,u0,p,hg,h0,h1,hh=>by simp[T.get]at hg;subst hg;have:G'.hd s p=G.hd s p:=hh p (by simp[rp]);simp only[T.set];cases t<;>simp[T.single]at h0<;>cases u<;>simp[T.single]at h1<;>simp[vals,this]
 |i::f,t,u,u0,p,hg,h0,h1,hh=>by
  rw[zA2]at hh;have hp:G'.hd s p=G.hd s p:=by grind[jQ]
  cases t with
  |agg xs=>
   simp only[T.get]at hg;cases hx:xs[i]? with
   |none=>grind
   |some x=>
    rw[hx]at hg;simp only[T.set,hx,vals];refine zRG xs p 0 i x _ hx (by grind[jD]) ?_;rw[Ji];exact zLJ f x u u0 (i::p) hg h0 h1 hh
  |tup xs=>
   grind[T.set,vals]
  |sl k xs=>grind[T.set,vals]
  |ptr t=>grind[T.set,vals]
  |_=>grind[T.get]
theorem zLK(f:List Nat)(t u u0:T)(p:List Nat)(hg:t.get f=jf u0)(h0:u0.single=jh)(h1:u.single=jh)(hh:∀z,(rp f p<:+z->z=rp f p)->G'.hd s z=G.hd s z)(hJ:∀xs,t≠.tup xs):
  sD G' s (t.set f u) p=sD G s t p:=by
 have h:=zLJ f t u u0 p hg h0 h1 hh;cases f with
 |nil=>
  simp[T.get]at hg;subst hg;have:G'.hd s p=G.hd s p:=hh p (by simp[rp]);simp only[T.set];cases t<;>simp[T.single]at h0<;>cases u<;>simp[T.single]at h1<;>simp[sD,this]
 |cons i f=>
  rw[zA2]at hh;have hp:G'.hd s p=G.hd s p:=by grind[jQ]
  cases t with
  |agg xs=>
   grind[T.set,vals,sD]
  |tup xs=>grind
  |sl k xs=>grind[T.set,sD]
  |ptr t=>grind[T.set,sD]
  |_=>grind[T.get]
theorem zRH(xs:List T):∀(p:List Nat)(j:Nat),(∀k,j<=k-> ∀z,G'.hd s (z++(k::p))=G.hd s (z++(k::p)))->jY G' s xs p j=jY G s xs p j:=by
 induction xs with
 |nil=>grind[jY]
 |cons z zs ih=>
  intro p j h;simp only[jY];rw[zBz z (j::p) (j::p) (h j (Je _)),ih p (j+1) (by grind)]
theorem zTF(xs:List T):∀(p:List Nat)(j i:Nat)(x y:T),xs[i]? =jf x->(∀k,k≠j+i-> ∀z,G'.hd s (z++(k::p))=G.hd s (z++(k::p)))->
  sD G' s y ((j+i)::p)=sD G s x ((j+i)::p)->jY G' s (xs.set i y) p j=jY G s xs p j:=by
 induction xs with
 |nil=>simp
 |cons z zs ih=>
  intro p j i x y h hz hy;cases i with
  |zero=>
   grind[jY,zRH]
  |succ i=>
   simp only[Lg,jY];rw[zBz z (j::p) (j::p) (hz j (by omega)),ih p (j+1) i x y (by grind) (by grind) (by grind)]
def wP:T->Bool
 |.tup xs=>xs.all fun x=>match x with
  |.tup _=>ji
  |_=>jh
 |_=>jh
theorem zKp(f:List Nat)(t u u0:T)(p:List Nat)(hg:t.get f=jf u0)(h0:u0.single=jh)(h1:u.single=jh)(hh:∀z,(rp f p<:+z->z=rp f p)->G'.hd s z=G.hd s z)(mP:wP t=jh):
  mkV G' s (t.set f u) p=mkV G s t p:=by
 by_cases ht:∃xs,t=.tup xs
 ·obtain⟨xs,rfl⟩:=ht
  cases f with
  |nil=>grind[T.get,T.single]
  |cons i f=>
   rw[zA2]at hh;simp only[T.get]at hg;cases hx:xs[i]? with
   |none=>grind
   |some x=>
    rw[hx]at hg;simp only[T.set,hx,mkV];rw[zTF xs p 0 i x _ hx (fun k hk z=>hh _ (fun h=>absurd h (jD (by omega) z)))];rw[Ji];refine zLK f x u u0 (i::p) hg h0 h1 hh ?_
    rintro ys rfl
    simp only[wP]at mP;have:=Kj.1 mP _ (Lu hx)
    grind
 ·have hJ:∀xs,t≠.tup xs:=by grind
  rw[jZ G s t p hJ,<-zLK f t u u0 p hg h0 h1 hh hJ];refine jZ G' s _ p ?_
  rintro xs eH
  cases f with
  |nil=>grind[T.set,T.single]
  |cons i f=>cases t<;>simp only[T.set]at eH<;>first|grind|grind|cases eH
end
theorem zEn:(f:List Nat)-> ∀(t u:T),Top t->zZ u->Top (t.set f u)
 | [],t,u,_,hu=>by grind[T.set,Top.of_clean]
 |i::f,t,u,ht,hu=>by
  cases t with
  |sl k xs=>
   refine Top.of_clean _ (jF (i::f) _ u (by simpa only[Top,zZ,yU]using ht) hu)
  |ptr t=>exact Top.of_clean _ (jF (i::f) _ u (by simpa only[Top,zZ,yU]using ht) hu)
  |agg xs=>
   simp only[T.set];split
   ·rename_i x hx
    simp only[Top]at ht ⊢
    exact tops_set xs i _ ht (zEn f x u (tops_get xs ht i x hx) hu)
   ·exact ht
  |tup xs=>
   simp only[T.set];split
   ·rename_i x hx
    simp only[Top]at ht ⊢
    exact tops_set xs i _ ht (zEn f x u (tops_get xs ht i x hx) hu)
   ·exact ht
  |_=>grind[T.set]
where
 tops_set:(xs:List T)-> ∀(i:Nat)(y:T),uK xs->Top y->uK (xs.set i y)
  | [],_,_,_,_=>by simp[uK]
  |x::xs,0,y,h,hy=>by simp only[Ls,uK]at h ⊢;grind
  |x::xs,i+1,y,h,hy=>by simp only[Lg,uK]at h ⊢;exact⟨h.1,tops_set xs i y h.2 hy⟩
 tops_get:(xs:List T)->uK xs-> ∀(i:Nat)(x:T),xs[i]? =jf x->Top x
  | [],_,_,_,h=>by simp at h
  |y::ys,hk,i,x,h=>by
   simp only[uK]at hk;cases i with
   |zero=>grind
   |succ i=>exact tops_get ys hk.2 i x (by grind)
def Gh.tr(G:Gh)(d:Nat)(g:List Nat)(r:Nat)(p:List Nat):Gh where
 hd s z:=if s=d/\g<:+z then G.hd r (z.take (z.length-g.length)++p)else G.hd s z
 ad s z:=if s=d/\g<:+z/\z≠g then G.ad r (z.take (z.length-g.length)++p)else G.ad s z
 lb b o:=match G.lb b o with
  |some (fl,s,z)=>if s=r/\p<:+z/\(fl=jh\/z≠p)then jf (fl,d,z.take (z.length-p.length)++g)else jf (fl,s,z)
  |none=>jg
 ow b:=match G.ow b with
  |some (s,z)=>if s=r/\p<:+z then jf (d,z.take (z.length-p.length)++g)else jf (s,z)
  |none=>jg
theorem zFZ{t:T}(h:t.single=jh):t.size=1:=by cases t<;>simp[T.single]at h<;>simp[T.size]
theorem zHd{w:World}(g9:Rep Γ E G tmps w)(d:Nat)(g:List Nat)(r:Nat)(p:List Nat)(td tr u v0:T)(hd:E d=jf td)(hg:td.get g.reverse=jf v0)(ai:v0.single=jh)(gQ:G.hd d g=G.hd r p)(hr:E r=jf tr)
  (hp:tr.get p.reverse=jf u)(hu:u.single=jh)(fb:zZ u)(gX:d≠r)(bc:td.okB [(d,g.length+1),(r,p.length+1)]=jh)(me:tr.okB [(d,g.length+1),(r,p.length+1)]=jh)(pQ:wP td=jh)(po:wP tr=jh):
  Rep Γ (E.app [(d,jf (td.set g.reverse u)),(r,jf (if p=[]then .same d g else tr.set p.reverse .any))] [(d,g.length+1),(r,p.length+1)]) (G.tr d g r p) tmps w/\ ∀s z,¬(s=d/\g<:+z/\z≠g)->(G.tr d g r p).hd s z=G.hd s z:=by
 obtain⟨d1,d2,d3⟩:=g9.ent d td hd;obtain⟨r1,r2,r3⟩:=g9.ent r tr hr;have hm:=g9.mem;have t8:=(zA3 p.reverse tr u [] r2 hp).1;simp only[rp,Ki,Jh]at t8;have gH:Blk w w:=fun b cs e' h=>⟨cs,h,rfl⟩
 generalize gm:G.tr d g r p=G'
 have ghd:∀z,G'.hd d (z++g)=G.hd r (z++p):=fun z=>by rw[<-gm];simp[Gh.tr]
 have ghd0:∀s z,¬(s=d/\g<:+z/\z≠g)->G'.hd s z=G.hd s z:=by
  intro s z h;rw[<-gm];simp only[Gh.tr]
  by_cases h2:s=d/\g<:+z
  ·have h3:z=g:=by
    rcases Decidable.em (z=g)with e|e
    ·exact e
    ·exact absurd ⟨h2.1,h2.2,e⟩ h
   subst h3;rw[if_pos h2,h2.1];simpa using gQ.symm
  ·rw[if_neg h2]
 have gad0:∀s z,¬(s=d/\g<:+z/\z≠g)->G'.ad s z=G.ad s z:=fun s z h=>by rw[<-gm];simp only[Gh.tr];rw[if_neg h]
 have gad:∀z,z≠[]->G'.ad d (z++g)=G.ad r (z++p):=fun z h=>by rw[<-gm];simp only[Gh.tr];rw[if_pos (by simpa using h)];simp
 have glb0:∀b o fl s z,G.lb b o=jf (fl,s,z)-> ¬(s=r/\p<:+z/\(fl=jh\/z≠p))->G'.lb b o=jf (fl,s,z):=fun b o fl s z h1 h2=>by rw[<-gm];simp only[Gh.tr,h1];rw[if_neg h2]
 have glb:∀b o fl z,G.lb b o=jf (fl,r,z++p)->(fl=jh\/z≠[])->G'.lb b o=jf (fl,d,z++g):=fun b o fl z h1 h2=>by rw[<-gm];simp only[Gh.tr,h1];rw[if_pos (by simpa using h2)];simp
 have gow0:∀b s z,G.ow b=jf (s,z)-> ¬(s=r/\p<:+z)->G'.ow b=jf (s,z):=fun b s z h1 h2=>by rw[<-gm];simp only[Gh.tr,h1];rw[if_neg h2]
 have gow:∀b z,G.ow b=jf (r,z++p)->G'.ow b=jf (d,z++g):=fun b z h1=>by rw[<-gm];simp only[Gh.tr,h1];rw[if_pos (by simp)];simp
 have gB:∀s z,Off [(d,g.length+1),(r,p.length+1)] s z-> ¬(s=d/\g<:+z/\z≠g):=by
  rintro s z h ⟨rfl,⟨y,rfl⟩,h3⟩
  have:=h (g.length+1) (by simp);have:y=[]:=Kf (by simp at this;omega);exact h3 (by simp[this])
 have gu:sM [(d,g.length+1),(r,p.length+1)] G w G' w:=by
  refine⟨fun s z h=>ghd0 s z (gB s z h),fun s z h=>gad0 s z (gB s z h),fun b o fl s z _ h1 h2=>⟨glb0 b o fl s z h1 ?_,rfl⟩,fun b s z h1 h2=>gow0 b s z h1 ?_,gH⟩
  ·rintro⟨rfl,_⟩;exact h2 (p.length+1) (by simp)
  ·rintro⟨rfl,_⟩;exact h2 (p.length+1) (by simp)
 have gp:Mem Γ G' w:=by
  refine⟨fun s z=>?_,fun b o l hl=>?_,fun b l hl=>?_,hm.st,hm.fr,hm.sz,hm.bk⟩
  ·rw[<-gm]
   simp only[Gh.tr];split
   ·exact hm.one _ _
   ·exact hm.one _ _
  ·have:∃l',G.lb b o=jf l':=by
    rw[<-gm]at hl;simp only[Gh.tr]at hl;split at hl
    ·exact⟨_,by assumption⟩
    ·cases hl
   obtain⟨l',bn⟩:=this;exact hm.lb b o l' bn
  ·have:∃l',G.ow b=jf l':=by
    rw[<-gm]at hl;simp only[Gh.tr]at hl;split at hl
    ·exact⟨_,by assumption⟩
    ·cases hl
   obtain⟨l',bn⟩:=this;exact hm.ow b l' bn
 have cO:∀q:List Nat,rp q.reverse []=q:=fun q=>by simp[rp]
 have hud:R Γ.St G' w d u g:=by
  refine jP (G:=G) (w:=w) (s:=r) (p:=p) ⟨⟨ghd,gad,fun b o f z hz _ hl=>⟨glb b o f z hl (.inr hz),rfl⟩,fun b z _ hl=>gow b z hl,gH⟩,fun b o _ hl=>⟨by simpa using glb b o jh [] (by simpa using hl) (.inl rfl),rfl⟩,fun b hl=>by simpa using gow b [] (by simpa using hl)⟩ u
   (yU.mono (fun _ _=>False.elim) u fb) t8
 have aj:Upd G w G' w d g:=⟨fun z h=>ghd0 d z (fun h2=>h h2.2.1),fun z h=>gad0 d z (fun h2=>h h2.2.1),fun b o f z h1 _=>⟨glb0 b o f d z h1 (fun h2=>gX h2.1),rfl⟩,fun b z h1 _=>gow0 b d z h1 (fun h2=>gX h2.1),gH⟩;have aO:∀b o,Loc G w d v0 g b o->Loc G' w d u g b o:=by intro b o h1;obtain⟨h2,h3,h4⟩:=vF ai h1;have h5:G'.ad d g=⟨b,o,jg⟩/\G'.lb b o=jf (ji,d,g)/\yN w b o=jf (G'.hd d g):=⟨(gad0 d g (fun h=>h.2.2 rfl)).trans h2,glb0 b o ji d g h3 (fun h=>gX h.1),by rw[h4,ghd0 d g (fun h=>h.2.2 rfl)]⟩;cases u<;>simp[T.single]at hu<;>simpa only[Loc]using h5
 have dg:R Γ.St G' w d (td.set g.reverse u) []:=
  zFV g.reverse td u v0 [] (by rw[cO];exact aj) d2 hg (by rw[zFZ ai,zFZ hu]) (gu.keepR (kW td d3 bc)) (by rw[cO];exact aO) (by rw[cO];exact hud)
 have hVd:mkV G' d (td.set g.reverse u) []=mkV G d td []:=
  zKp g.reverse td u v0 [] hg ai hu (fun z hz=>ghd0 d z (fun h2=>h2.2.2 (by rw[cO]at hz;exact hz h2.2.1))) pQ
 have hRr:p≠[]->R Γ.St G' w r (tr.set p.reverse .any) []:=by intro tf;refine zFV p.reverse tr .any u [] (by rw[cO];exact⟨fun z _=>ghd0 r z (fun h2=>gX h2.1.symm),fun z _=>gad0 r z (fun h2=>gX h2.1.symm),fun b o f z h1 h=>⟨glb0 b o f r z h1 (fun h2=>h h2.2.1),rfl⟩,fun b z h1 h=>gow0 b r z h1 (fun h2=>h h2.2),gH⟩) r2 hp (by cases u<;>simp[T.single]at hu<;>simp[T.size]) (gu.keepR (kW tr r3 me)) ?_ (by simp only[R]);rw[cO];intro b o h1;obtain⟨h2,h3,h4⟩:=vF hu h1;simp only[Loc];exact⟨(gad0 r p (fun h=>gX h.1.symm)).trans h2,glb0 b o ji r p h3 (by simp),by rw[h4,ghd0 r p (fun h=>gX h.1.symm)]⟩
 have hVr:p≠[]->mkV G' r (tr.set p.reverse .any) []=mkV G r tr []:=fun _=>
  zKp p.reverse tr .any u [] hp hu rfl (fun z _=>ghd0 r z (fun h2=>gX h2.1.symm)) po
 refine⟨wW g9 rfl gu gp ?_ ?_,ghd0⟩
 ·intro s hs
  simp only[Wr.find]at hs;split at hs
  ·cases hs
  ·rename_i h1
   split at hs
   ·cases hs
   ·rename_i h2
    refine⟨fun n hn=>?_,rfl⟩;simp only[J9,Jah.injEq,G9,or_false]at hn;rcases hn with⟨e,_⟩|⟨e,_⟩
    ·exact h1 e.symm
    ·exact h2 e.symm
 ·intro s t hs
  simp only[Wr.find]at hs;split at hs
  ·rename_i he
   subst he;simp at hs;subst hs;exact⟨by rw[d1,hVd],dg,zEn _ _ _ d3 fb⟩
  ·split at hs
   ·rename_i he
    subst he;simp at hs
    by_cases tf:p=[]
    ·rw[if_pos tf]at hs
     subst hs;subst tf;simp[T.get]at hp;subst hp;refine⟨?_,?_,by simp[Top]⟩
     ·rw[r1,yV hu,yV rfl,ghd0 r [] (fun h=>gX h.1.symm)]
     ·simp only[R]
      rw[ghd0 r [] (fun h=>gX h.1.symm)];have:=ghd [];simpa using this.symm
    ·rw[if_neg tf]at hs
     subst hs;exact⟨by rw[r1,hVr tf],hRr tf,zEn _ _ _ r3 (by simp[zZ,yU])⟩
   ·cases hs
theorem zOi{w:World}(h:Sim Γ E a w)(d:Nat)(g:List Nat)(r:Nat)(p:List Nat)(td tr u:T)(hd:E d=jf td)(hg:td.get g.reverse=jf (.same r p))(hr:E r=jf tr)
  (hp:tr.get p.reverse=jf u)(hu:u.single=jh)(fb:zZ u)(gX:d≠r)(bc:td.okB [(d,g.length+1),(r,p.length+1)]=jh)(me:tr.okB [(d,g.length+1),(r,p.length+1)]=jh)(pQ:wP td=jh)(po:wP tr=jh):
  Sim Γ (E.app [(d,jf (td.set g.reverse u)),(r,jf (if p=[]then .same d g else tr.set p.reverse .any))] [(d,g.length+1),(r,p.length+1)]) a w:=by
 obtain⟨gJ,G,g9⟩:=h;have gQ:=(zA3 g.reverse td _ [] (g9.ent d td hd).2.1 hg).1;simp only[rp,Ki,Jh,R]at gQ;exact⟨gJ,_,(zHd g9 d g r p td tr u _ hd hg rfl gQ hr hp hu fb gX bc me pQ po).1⟩
theorem zDF{St:Stb}{G:Gh}{w:World}{s:Nat}{k:Nat}:(xs:List T)-> ∀(p:List Nat)(j b o:Nat),(∀i x,xs[i]? =jf x->Loc G w s x ((j+i)::p) b (o+i*k)/\x.size=k/\R St G w s x ((j+i)::p))->RL St G w s xs p j b o k
 | [],_,_,_,_,_=>by simp only[RL]
 |x::xs,p,j,b,o,h=>by
  obtain⟨h1,h2,h3⟩:=h 0 x (by simp);simp only[RL];refine⟨⟨by simpa using h1,h2⟩,by simpa using h3,zDF xs p (j+1) b (o+k) (fun i y hy=>?_)⟩;have:=h (i+1) y (by simpa using hy)
  rwa [show j+(i+1)=j+1+i from by omega,show o+(i+1)*k=o+k+i*k from by rw[K8];omega]at this
theorem zAm{St:Stb}{G:Gh}{w:World}{s:Nat}{k:Nat}:(xs:List T)-> ∀(p:List Nat)(j b o:Nat),RL St G w s xs p j b o k->vQ G w s xs p j b o
 | [],_,_,_,_,_=>by simp only[vQ]
 |x::xs,p,j,b,o,h=>by simp only[RL]at h;simp only[vQ];exact⟨h.1.1,zAm xs p (j+1) b (o+x.size) (by rw[h.1.2];exact h.2.2)⟩
theorem zBb{St:Stb}{G:Gh}{w:World}{s:Nat}{k:Nat}:(xs:List T)-> ∀(p:List Nat)(j b o:Nat),RL St G w s xs p j b o k->RF St G w s xs p j/\ ∀x∈xs,x.size=k
 | [],_,_,_,_,_=>by simp[RF]
 |x::xs,p,j,b,o,h=>by simp only[RL]at h;obtain⟨h1,h2⟩:=zBb xs p (j+1) b (o+k) h.2.2;exact⟨by simp only[RF];exact⟨h.2.1,h1⟩,fun y hy=>by rcases J9.1 hy with rfl|hy;exact h.1.2;exact h2 y hy⟩
section
variable {G:Gh}{w:World}{G':Gh}{w':World}{s s':Nat}
mutual
theorem zEo:(t:T)-> ∀(p p':List Nat)(b o:Nat),(∀z,G'.hd s' (z++p')=G.hd s (z++p))->(∀z,G'.ad s' (z++p')=G.ad s (z++p))->
  (∀b o z,G.lb b o=jf (ji,s,z++p)->G'.lb b o=jf (ji,s',z++p')/\yN w' b o=yN w b o)->Loc G w s t p b o->Loc G' w' s' t p' b o
 |.agg xs,p,p',b,o,hh,ha,hl,h=>by
  simp only[Loc]at h ⊢
  exact⟨by have:=ha [];simp at this;rw[this];exact h.1,zJd xs p p' 0 b o hh ha hl h.2⟩
 |.any,p,p',b,o,hh,ha,hl,h|.lit _,p,p',b,o,hh,ha,hl,h|.ro _,p,p',b,o,hh,ha,hl,h|.same _ _,p,p',b,o,hh,ha,hl,h|.addr _ _,p,p',b,o,hh,ha,hl,h|.sub _ _ _ _ _,p,p',b,o,hh,ha,hl,h|.sl _ _,p,p',b,o,hh,ha,hl,h|.ptr _,p,p',b,o,hh,ha,hl,h=>by
  simp only[Loc]at h ⊢
  have h1:=hl b o [] (by simpa using h.2.1);have h2:=ha [];have h3:=hh [];simp only[K0]at h1 h2 h3;exact⟨h2.trans h.1,h1.1,by rw[h1.2,h.2.2,h3]⟩
 |.tup _,_,_,_,_,_,_,_,h=>by simp only[Loc]at h
theorem zJd:(xs:List T)-> ∀(p p':List Nat)(j b o:Nat),(∀z,G'.hd s' (z++p')=G.hd s (z++p))->(∀z,G'.ad s' (z++p')=G.ad s (z++p))->
  (∀b o z,G.lb b o=jf (ji,s,z++p)->G'.lb b o=jf (ji,s',z++p')/\yN w' b o=yN w b o)->vQ G w s xs p j b o->vQ G' w' s' xs p' j b o
 | [],_,_,_,_,_,_,_,_,_=>by simp only[vQ]
 |x::xs,p,p',j,b,o,hh,ha,hl,h=>by
  simp only[vQ]at h ⊢
  exact⟨zEo x (j::p) (j::p') b o (fun z=>by have:=hh (z++[j]);simpa using this) (fun z=>by have:=ha (z++[j]);simpa using this) (fun b o z hz=>by have:=hl b o (z++[j]) (by simpa using hz);simpa using this) h.1,
   zJd xs p p' (j+1) b _ hh ha hl h.2⟩
end
end
theorem zEp(G:Gh)(s:Nat):∀(xs us:List T)(p:List Nat)(j:Nat),yE G s (xs++us) p j=yE G s xs p j++yE G s us p (j+xs.length)
 | [],us,p,j=>by simp[yE]
 |x::xs,us,p,j=>by simp[yE,zEp G s xs us p (j+1),Ha,Nat.add_comm 1]
theorem zEq:∀(xs us:List T),T.sizes (xs++us)=T.sizes xs+T.sizes us
 | [],us=>by simp[T.sizes]
 |x::xs,us=>by simp[T.sizes,zEq xs us,Ha]
theorem zDp:∀(xs us:List T),yM xs=jh->yM us=jh->yM (xs++us)=jh
 | [],us,_,h=>h
 |x::xs,us,h,h'=>by
  simp only[yM,J4,K9]at h ⊢
  exact⟨h.1,zDp xs us h.2 h'⟩
theorem zDq:∀(xs us:List T),yZ xs->yZ us->yZ (xs++us)
 | [],us,_,h=>h
 |x::xs,us,h,h'=>by
  simp only[yZ,xP,K9]at h ⊢
  exact⟨h.1,zDq xs us h.2 h'⟩
theorem jT{St:Stb}{G:Gh}{w:World}{s:Nat}{k:Nat}:(xs:List T)-> ∀(p:List Nat)(j b o:Nat),vQ G w s xs p j b o->yM xs=jh
 | [],_,_,_,_,_=>rfl
 |x::xs,p,j,b,o,h=>by simp only[vQ]at h;simp only[yM,J4];exact⟨one x (j::p) b o h.1,jT (St:=St) (k:=k) xs p (j+1) b _ h.2⟩
where
 one:(t:T)-> ∀(p:List Nat)(b o:Nat),Loc G w s t p b o->t.okTup=jh
  |.agg xs,p,b,o,h=>by simp only[Loc]at h;simp only[T.okTup];exact jT (St:=St) (k:=k) xs p 0 b o h.2
  |.tup _,_,_,_,h=>by simp only[Loc]at h
  |.any,_,_,_,_|.lit _,_,_,_,_|.ro _,_,_,_,_|.same _ _,_,_,_,_|.addr _ _,_,_,_,_|.sub _ _ _ _ _,_,_,_,_|.sl _ _,_,_,_,_|.ptr _,_,_,_,_=>rfl
section
variable {P:Program}
structure zHe (P:Program) (t2:TypeId) (e:TypeId) (ti:TypeInfo) (xv:Value) (m:Nat) (nv:List Value) (w:World):Prop where
 arg:(∃e2 xa c,P.underlying t2=jf (.slice e2)/\xv=.slice xa m c/\ ∀w2:World,w2.heap=w.heap->(Builtin.firstCells ti.size m (.slice xa m c)).run P w2=.ok nv.toArray w2)\/
  ∃k2 k3 z,P.underlying t2=jf (.int k2)/\xv=.int k3 (m:Int)/\ti.zero=jf z/\nv.toArray=Builtin.zeroCells z.cells m/\m*ti.bytes<=2 ^ 47/\z.cells.size=ti.size
theorem zEr{t:TypeId}{m:Nat}{nv:List Value}{w:World}(ht:P.underlying t=jf (.slice e))(hi:P.info? e=jf ti)
  (hx:zHe P t2 e ti xv m nv w)(hm:m<=68719476736){base:Option Addr}{n cap:Nat}(gR:n+m<=cap)
  (gA:(if let jf a:=base then storeCells (a.add (n*ti.size)) nv else pure ():Sem Unit).run P w=.ok () w'):
  (Builtin.append_ #[t,t2] ty #[.slice base n cap,xv]).run P w=.ok (.slice base (n+m) cap) w':=by
 rcases hx.arg with⟨e2,xa,c,h1,rfl,h2⟩|⟨k2,k3,z,h1,rfl,h2,h3,h4,h5⟩
 ·have h2:=h2 w rfl
  cases base with
  |none=>
   simp at gA;subst gA;simp[Builtin.append_,run_underlying ht,run_underlying h1,sizeOf,typeInfo,hi,Builtin.lenOf,gR,h2]
  |some a=>
   simp only at gA;simp[Builtin.append_,run_underlying ht,run_underlying h1,sizeOf,typeInfo,hi,Builtin.lenOf,gR,h2,gA]
 ·have mU:IntKind.i64.wrap (m:Int)=m:=by rw[IntKind.wrap_i64];omega
  have bP:¬(281474976710656<(m:Int)*(ti.bytes:Int)):=by
   have:((m*ti.bytes:Nat):Int)<=2 ^ 47:=by exact_mod_cast h4
   rw[Up]at this;omega
  have fW:¬((m:Int)<0):=by omega
  have tg:nv=(Builtin.zeroCells z.cells m).toList:=by rw[<-h3]
  by_cases hz:m*ti.size=0
  ·have be:nv=[]:=by
    apply Kf;rw[tg];simp[Builtin.zeroCells,h5,hz]
   subst be;cases base with
   |none=>
    simp at gA;subst gA;simp[Builtin.append_,run_underlying ht,run_underlying h1,sizeOf,typeInfo,hi,asInt,asIntOf,mU,bP,fW,gR,hz]
   |some a=>
    simp only[storeCells,Sem.run_pure]at gA;cases gA;simp[Builtin.append_,run_underlying ht,run_underlying h1,sizeOf,typeInfo,hi,asInt,asIntOf,mU,bP,fW,gR,hz,storeCells]
  ·cases base with
   |none=>
    simp at gA;subst gA;simp[Builtin.append_,run_underlying ht,run_underlying h1,sizeOf,typeInfo,zeroValue,hi,h2,asInt,asIntOf,mU,bP,fW,gR]
   |some a=>
    simp only[tg]at gA;simp[Builtin.append_,run_underlying ht,run_underlying h1,sizeOf,typeInfo,zeroValue,hi,h2,asInt,asIntOf,mU,bP,fW,gR,hz,gA]
theorem zKq{t:TypeId}{m:Nat}{nv olds:List Value}{w:World}(ht:P.underlying t=jf (.slice e))(hi:P.info? e=jf ti)(hz:ti.zero=jf z)
  (hx:zHe P t2 e ti xv m nv w){base:Option Addr}{n cap:Nat}(gW:cap<n+m)(pe:n+m<=68719476736)(hb:ti.bytes<=2048)
  (gD:∀w2:World,w2.heap=w.heap->(Builtin.firstCells ti.size n (.slice base n cap)).run P w2=.ok olds.toArray w2):
  (Builtin.append_ #[t,t2] ty #[.slice base n cap,xv]).run P w=.ok (.slice (jf ⟨w.heap.size,0,jg⟩) (n+m) (grownCap w (n+m) cap e))
    (w.drew.alloc (.cells ((olds++nv).toArray++Builtin.zeroCells z.cells (grownCap w (n+m) cap e-(n+m))) e)):=by
 have hn:¬(n+m<=cap):=by omega
 have bN:¬(9223372036854775807<((n:Int)+(m:Int))):=by omega
 have iN:=growslice_fits (need:=n+m) (old:=cap) (bytes:=ti.bytes) gW (H8 (Jr pe hb) (by decide));have bO:¬(281474976710656<Builtin.nextslicecap (n+m) cap*ti.bytes):=by omega
 have ho:=gD w.drew rfl;rcases hx.arg with⟨e2,xa,c,h1,rfl,h2⟩|⟨k2,k3,z',h1,rfl,h2,h3,h4,h5⟩
 ·have h2:=h2 w.drew rfl
  simp[Builtin.append_,run_underlying ht,run_underlying h1,sizeOf,typeInfo,zeroValue,hi,hz,Builtin.lenOf,hn,bN,bO,Question.forced,h2,ho,newRow,grownCap]
  congr 2
  apply Jbc;simp
 ·have mU:IntKind.i64.wrap (m:Int)=m:=by rw[IntKind.wrap_i64];omega
  have bP:¬(281474976710656<(m:Int)*(ti.bytes:Int)):=by
   have:((m*ti.bytes:Nat):Int)<=2 ^ 47:=by exact_mod_cast h4
   rw[Up]at this;omega
  have fW:¬((m:Int)<0):=by omega
  have tg:nv=(Builtin.zeroCells z'.cells m).toList:=by rw[<-h3]
  rw[hz]at h2;simp at h2;subst h2
  by_cases mr:m*ti.size=0
  ·have be:nv=[]:=by
    apply Kf;rw[tg];simp[Builtin.zeroCells,h5,mr]
   subst be;simp[Builtin.append_,run_underlying ht,run_underlying h1,sizeOf,typeInfo,zeroValue,hi,hz,asInt,asIntOf,mU,bP,fW,hn,bN,bO,Question.forced,mr,ho,newRow,grownCap]
  ·simp[Builtin.append_,run_underlying ht,run_underlying h1,sizeOf,typeInfo,zeroValue,hi,hz,asInt,asIntOf,mU,bP,fW,hn,bN,bO,Question.forced,mr,ho,newRow,grownCap,<-h3]
   congr 2
   apply Jbc;simp
end
def zDG(s0:Nat)(y:Option Nat)(n:Nat)(s:Nat)(z:List Nat):Option (List Nat):=
 if s=s0 then jf z else if y=jf s then(match z.getLast? with
  |some j=>jf (z.dropLast++[n+j])
  |none=>jg)else jg
def Gh.ip(G:Gh)(d s0:Nat)(y:Option Nat)(b n k oa:Nat)(us:List T)(f2:Nat->List Nat->Value)(gX:Value):Gh where
 hd s z:=if s=d then(match z.getLast? with
  |some i=>if i<n then G.hd s0 z else f2 (i-n) z.dropLast
  |none=>gX)else G.hd s z
 ad s z:=if s=d then(match z.getLast? with
  |some i=>if i<n then G.ad s0 z else if(T.agg us).inT ((i-n)::z.dropLast.reverse)then⟨b,oa+(T.agg us).offT ((i-n)::z.dropLast.reverse),jg⟩else(match y with
   |some y=>G.ad y (z.dropLast++[i-n])
   |none=>default)
  |none=>default)else G.ad s z
 lb b' o:=if b'=b/\oa<=o/\o<oa+us.length*k then(match zCd us [] n (o-oa)with
  |some p=>jf (ji,d,p)
  |none=>jg)else match G.lb b' o with
  |some (fl,s,z)=>(match zDG s0 y n s z with
   |some z'=>jf (fl,d,z')
   |none=>jf (fl,s,z))
  |none=>jg
 ow b':=match G.ow b' with
  |some (s,z)=>(match zDG s0 y n s z with
   |some z'=>jf (d,z')
   |none=>jf (s,z))
  |none=>jg
def aWr(d s0:Nat)(y:Option Nat)(k:Nat)(ts:List T):Wr:=(d,jf (.sl k ts))::(s0,jf .any)::(match y with
 |some y=>[(y,jf .any)]
 |none=>[])
def zA0(d s0:Nat)(y:Option Nat):Chg:=(d,0)::(s0,1)::(match y with
 |some y=>[(y,1)]
 |none=>[])
structure zHf (Γ:Ctx) (E:Env) (G:Gh) (d s0:Nat) (y:Option Nat) (k n:Nat) (us:List T) (f2:Nat->List Nat->Value) (nv:List Value):Prop where
 size:∀u∈us,u.size=k
 tup:yM us=jh
 clean:yZ us
 one:∀j z,(f2 j z).oneCell'=jh
 len:nv.length=us.length*k
 slot:∀y',y=jf y'->y'≠d/\y'≠s0/\E y'=jf (.sl k us)/\ ∀j z,f2 j z=G.hd y' (z++[j])
 none:y=jg-> ∀(j:Nat) u,us[j]? =jf u-> ∀(G2:Gh)(w2:World),(∀z,G2.hd d (z++[n+j])=f2 j z)->R Γ.St G2 w2 d u [n+j]
 vals:∀(G2:Gh),(∀j z,G2.hd d (z++[n+j])=f2 j z)-> ∀(o:Nat)(v:Value),(yE G2 d us [] n)[o]? =jf v->nv[o]? =jf v
theorem zLL{G G2:Gh}{s d:Nat}:(xs:List T)-> ∀(p:List Nat)(j:Nat),(∀i,i<xs.length-> ∀z,G2.hd d (z++((j+i)::p))=G.hd s (z++((j+i)::p)))->yE G2 d xs p j=yE G s xs p j
 | [],_,_,_=>by simp only[yE]
 |x::xs,p,j,h=>by
  simp only[yE];have ih:yE G2 d xs p (j+1)=yE G s xs p (j+1):=zLL xs p (j+1) (fun i hi z=>by rw[show j+1+i=j+(i+1)from by omega];exact h (i+1) (by simpa using hi) z)
  rw[zA4 x (j::p) (j::p) (by simpa using h 0 (by simp)),ih]
theorem zDr(z:List Nat):z=[]\/ ∃y i,z=y++[i]:=by
 rcases List.eq_nil_or_concat z with h|⟨y,i,h⟩
 ·exact .inl h
 ·exact .inr ⟨y,i,by simpa using h⟩
section
variable {P:Program}{Γ:Ctx}{E:Env}{d:Nat}
theorem zB3{w:World}(g9:Rep Γ E G a.tmps w)(hd:d<Γ.N){t:TypeId}(ht:P.underlying t=jf (.slice e))(hi:P.info? e=jf ti)(hz:ti.zero=jf z)
  (hk:ti.size=k)(_hk0:0<k)(fR:z.cells.size=k)(hb:ti.bytes<=2048){s0:Nat}{y:Option Nat}{us:List T}{f2:Nat->List Nat->Value}{nv:List Value}(ep:E s0=jf (.sl k xs))(ft:s0≠d)
  (hn:zHf Γ E G d s0 y k xs.length us f2 nv)(hx:zHe P t2 e ti xv us.length nv w)(gk:∀v∈nv,v.oneCell'=jh)(pe:xs.length+us.length<=68719476736):
  ∃v w',(Builtin.append_ #[t,t2] ty #[G.hd s0 [],xv]).run P w=.ok v w'/\ ∃G',Rep Γ (E.app (aWr d s0 y k (xs++us)) (zA0 d s0 y)) G' (a.tmps.setIfInBounds d v) w':=by
 have hm:=g9.mem;obtain⟨e1,e2,e3⟩:=g9.ent s0 _ ep;simp only[Top]at e3;simp only[R]at e2;have mY:T.sizes us=us.length*k:=wT us hn.size;have fin:∀(G':Gh)(w':World)(v:Value),sM (zA0 d s0 y) G w G' w'->Mem Γ G' w'->G'.hd d []=v->R Γ.St G' w' d (.sl k (xs++us)) []->(∀s p,s≠d->G'.hd s p=G.hd s p)->
   Rep Γ (E.app (aWr d s0 y k (xs++us)) (zA0 d s0 y)) G' (a.tmps.setIfInBounds d v) w':=by
  intro G' w' v gu gp iQ dg hother;refine wW g9 (by simp) gu gp ?_ ?_
  ·intro s hs
   have gc:s≠d:=by rintro rfl;simp[aWr,Wr.find]at hs
   have fJ:s≠s0:=by rintro rfl;simp[aWr,Wr.find,gc.symm]at hs
   have iu:∀y',y=jf y'->s≠y':=by
    rintro y' rfl rfl
    simp[aWr,Wr.find,gc.symm,fJ.symm]at hs
   refine⟨fun n' hn'=>?_,by rw[Jj];simp[gc.symm]⟩;simp only[zA0,J9,Jah.injEq]at hn';rcases hn' with⟨h1,_⟩|⟨h1,_⟩|hn'
   ·exact gc h1
   ·exact fJ h1
   ·cases y with
    |none=>simp at hn'
    |some y'=>simp at hn';exact iu y' rfl hn'.1
  ·intro s t' hs
   by_cases h1:s=d
   ·subst h1
    simp[aWr,Wr.find]at hs;subst hs;refine⟨?_,dg,by simp only[Top];exact zDq xs us e3 hn.clean⟩;rw[Jj];simp[g9.size,hd,mkV,iQ]
   ·have h3:t'=.any/\(s=s0\/y=jf s):=by
     simp only[aWr,Wr.find]at hs;rw[if_neg (fun h=>h1 h.symm)]at hs;split at hs
     ·rename_i h2;simp at hs;exact⟨hs.symm,.inl h2.symm⟩
     ·cases y with
      |none=>simp[Wr.find]at hs
      |some y'=>
       simp only[Wr.find]at hs;split at hs
       ·rename_i h2;simp at hs;exact⟨hs.symm,.inr (by rw[h2])⟩
       ·cases hs
    obtain⟨rfl,h3⟩:=h3;refine⟨?_,by simp only[R],by simp[Top]⟩;rw[Jj];simp only[Ne.symm h1,if_false,mkV];rw[hother s [] h1];rcases h3 with rfl|h3
    ·exact e1
    ·obtain⟨_,_,h4,_⟩:=hn.slot s h3
     exact(g9.ent s _ h4).1
 have pI:∀s p,(∀n',(s,n')∉zA0 d s0 y)->zDG s0 y xs.length s p=jg:=by
  intro s p h;have h1:s≠s0:=fun e=>h 1 (by simp[zA0,e])
  have h2:y≠jf s:=fun e=>h 1 (by simp[zA0,e])
  simp[zDG,h1,h2]
 by_cases gR:∃a' c,G.hd s0 []=.slice a' xs.length c/\xs.length+us.length<=c
 ·
  obtain⟨a',c,hh,gR⟩:=gR;rcases e2 with⟨rfl,a1,h1⟩|⟨b,o0,cap,cs,et,h1,h2,h3,h4,h5,h6,h7,h8⟩
  ·rw[h1]at hh
   simp at hh;obtain⟨rfl,rfl⟩:=hh;have fP:us=[]:=Kf (by simp only[Jt]at gR;omega);subst fP;have tg:nv=[]:=Kf (by have:=hn.len;simp at this;simp[this]);subst tg;have gx:=zEr (P:=P) (t:=t) (ty:=ty) (w':=w) ht hi hx (by simp) (base:=a1) (n:=0) (cap:=0) (by simp) (by cases a1<;>rfl);refine⟨.slice a1 0 0,w,by rw[h1];exact gx,G.put d (fun _=>.slice a1 0 0),fin _ w _ ?_ (hm.put rfl d _ (fun _=>rfl)) (by rw[Gh.put_self]) (by simp[R,Gh.put]) (fun s p h=>G.put_other _ p h)⟩;have:=G.put_keep (w:=w) (w':=w) rfl d (fun _=>.slice a1 0 0);exact⟨fun s p h=>this.hd s p (fun n hn=>h n (by simp at hn;simp[zA0,hn])),fun s p h=>this.ad s p (fun n hn=>h n (by simp at hn;simp[zA0,hn])),fun b o f s p h0 h1 h2=>this.lb b o f s p h0 h1 (fun n hn=>h2 n (by simp at hn;simp[zA0,hn])),fun b s p h1 h2=>this.ow b s p h1 (fun n hn=>h2 n (by simp at hn;simp[zA0,hn])),this.blk⟩
  ·rw[h1]at hh
   simp at hh;obtain⟨rfl,rfl⟩:=hh;have hmk0:us.length*k+xs.length*k<=cap*k:=by rw[<-Hv];exact Kc _ (by omega)
   have ik:∀o,o0+(xs.length*k+us.length*k)<=o->o0+xs.length*k<=o:=fun o h=>by omega
   generalize hoa:o0+xs.length*k=oa at h7 ik
   have hmk':oa+us.length*k<=o0+cap*k:=by omega
   have hmk:us.length*k+oa<=cs.size:=by omega
   generalize ek:w.setRow b (cs.toList.take (oa)++nv++cs.toList.drop (oa+nv.length)).toArray=w'
   have eB:w'.heap[b]? =jf (.cells (cs.toList.take (oa)++nv++cs.toList.drop (oa+nv.length)).toArray et (0,0)):=by rw[<-ek];exact setRow_heap w b cs _ et _ h2
   have gD:∀b',b'≠b->w'.heap[b']? =w.heap[b']?:=fun b' h=>by rw[<-ek];exact setRow_other w b b' _ h
   have gM:w'.heap.size=w.heap.size:=by rw[<-ek];exact size_setRow w b _
   have hcsl:cs.toList.length=cs.size:=Km ..;have cI:=hn.len;have eV:∀i,yN w' b i=if oa<=i/\i<oa+us.length*k then nv[i-oa]? else yN w b i:=by
    intro i;simp only[yN,World.cell?,eB,h2,Ue,Hs,if_false];rw[<-Kx,<-Kx (xs:=cs)];simp only[]
    by_cases g1:i<oa
    ·rw[if_neg (by omega),Jg,Jy (by simp;omega),Gx g1]
    ·by_cases g2:i<oa+us.length*k
     ·rw[if_pos ⟨by omega,g2⟩,Jg,Jk (by simp;omega),Jy (by simp;omega)]
      congr 1;simp;omega
     ·rw[if_neg (by omega),Jg,Jk (by simp;omega),Jk (by simp;omega),Ly]
      congr 1;simp;omega
   have gK:∀b' o fl s p,G.lb b' o=jf (fl,s,p)->(fl,s,p)≠(jh,s0,[])-> ¬(b'=b/\oa<=o/\o<oa+us.length*k):=by
    rintro b' o fl s p g1 g2 ⟨rfl,g3,g4⟩
    rw[h7 o g3 (by omega)]at g1;simp at g1;exact g2 (by simp[<-g1.1,<-g1.2.1,<-g1.2.2])
   have fp:∀b' o,¬(b'=b/\oa<=o/\o<oa+us.length*k)->yN w' b' o=yN w b' o:=by
    intro b' o g
    by_cases gZ:b'=b
    ·subst gZ
     rw[eV,if_neg (fun g2=>g ⟨rfl,g2⟩)]
    ·simp[yN,World.cell?,gD b' gZ]
   have pJ:((cs.toList.take (oa)++nv++cs.toList.drop (oa+nv.length)).toArray).size=cs.size:=by simp;omega
   have eC:Blk w w':=by
    intro b' cs' e' g1
    by_cases gZ:b'=b
    ·subst gZ
     rw[h2]at g1;simp at g1;obtain⟨rfl,rfl⟩:=g1;exact⟨_,eB,pJ⟩
    ·exact⟨cs',by rw[gD b' gZ];exact g1,rfl⟩
   generalize gm:G.ip d s0 y b xs.length k oa us f2 (.slice (jf ⟨b,o0,jg⟩) (xs.length+us.length) cap)=G'
   have ghdr:G'.hd d []=.slice (jf ⟨b,o0,jg⟩) (xs.length+us.length) cap:=by rw[<-gm];simp[Gh.ip]
   have ghd1:∀i z,i<xs.length->G'.hd d (z++[i])=G.hd s0 (z++[i]):=fun i z g=>by rw[<-gm];simp[Gh.ip,g]
   have ghd2:∀j z,G'.hd d (z++[xs.length+j])=f2 j z:=fun j z=>by rw[<-gm];simp[Gh.ip,show¬xs.length+j<xs.length from by omega]
   have ghd0:∀s z,s≠d->G'.hd s z=G.hd s z:=fun s z g=>by rw[<-gm];simp[Gh.ip,g]
   have gad0:∀s z,s≠d->G'.ad s z=G.ad s z:=fun s z g=>by rw[<-gm];simp[Gh.ip,g]
   have gad1:∀i z,i<xs.length->G'.ad d (z++[i])=G.ad s0 (z++[i]):=fun i z g=>by rw[<-gm];simp[Gh.ip,g]
   have gad2:∀j f,(T.agg us).inT (j::f)=jh->G'.ad d (f.reverse++[xs.length+j])=⟨b,oa+(T.agg us).offT (j::f),jg⟩:=fun j f g=>by rw[<-gm];simp[Gh.ip,g,show¬xs.length+j<xs.length from by omega]
   have gad3:∀y' j z,y=jf y'->(T.agg us).inT (j::z.reverse)=ji->G'.ad d (z++[xs.length+j])=G.ad y' (z++[j]):=fun y' j z g1 g2=>by rw[<-gm];simp[Gh.ip,g1,g2,show¬xs.length+j<xs.length from by omega]
   have glb2:∀i p,i<us.length*k->zCd us [] xs.length i=jf p->G'.lb b (oa+i)=jf (ji,d,p):=fun i p g1 g2=>by rw[<-gm];simp only[Gh.ip];rw[if_pos (by simp;omega),show oa+i-oa=i from by omega,g2]
   have glb0:∀b' o fl s p,G.lb b' o=jf (fl,s,p)-> ¬(b'=b/\oa<=o/\o<oa+us.length*k)->zDG s0 y xs.length s p=jg->G'.lb b' o=jf (fl,s,p):=fun b' o fl s p g1 g2 g3=>by rw[<-gm];simp only[Gh.ip];rw[if_neg g2,g1];simp[g3]
   have glb1:∀b' o fl s p p',G.lb b' o=jf (fl,s,p)-> ¬(b'=b/\oa<=o/\o<oa+us.length*k)->zDG s0 y xs.length s p=jf p'->G'.lb b' o=jf (fl,d,p'):=fun b' o fl s p p' g1 g2 g3=>by rw[<-gm];simp only[Gh.ip];rw[if_neg g2,g1];simp[g3]
   have gow0:∀b' s p,G.ow b'=jf (s,p)->zDG s0 y xs.length s p=jg->G'.ow b'=jf (s,p):=fun b' s p g1 g2=>by rw[<-gm];simp[Gh.ip,g1,g2]
   have gow1:∀b' s p p',G.ow b'=jf (s,p)->zDG s0 y xs.length s p=jf p'->G'.ow b'=jf (d,p'):=fun b' s p p' g1 g2=>by rw[<-gm];simp[Gh.ip,g1,g2]
   have fF:∀p,zDG s0 y xs.length s0 p=jf p:=fun p=>by simp[zDG]
   have mF:∀y' z j,y=jf y'->y'≠s0->zDG s0 y xs.length y' (z++[j])=jf (z++[xs.length+j]):=fun y' z j g1 g2=>by simp[zDG,g1,g2]
   have gc:∀s p,Off (zA0 d s0 y) s p->s≠d:=fun s p h e=>absurd (h 0 (by simp[zA0,e])) (by simp)
   have gu:sM (zA0 d s0 y) G w G' w':=by
    refine⟨fun s p h=>ghd0 s p (gc s p h),fun s p h=>gad0 s p (gc s p h),fun b' o fl s p _ g1 g2=>?_,fun b' s p g1 g2=>gow0 b' s p g1 (pI s p g2),eC⟩;have hs:s≠s0:=fun e=>g2 1 (by simp[zA0,e])
    have g3:=gK b' o fl s p g1 (by simp[hs]);exact⟨glb0 b' o fl s p g1 g3 (pI s p g2),fp b' o g3⟩
   have a7:=hm.ow b _ h6;have gp:Mem Γ G' w':=by
    refine⟨fun s z=>?_,fun b' o' l hl=>?_,fun b' l hl=>?_,fun b' x' er=>?_,fun b' g1 g2=>?_,by rw[gM];exact hm.sz,hm.bk.trans eC (by rw[<-ek];rfl) (by rw[<-ek];rfl)⟩
    ·by_cases g:s=d
     ·subst g
      rcases zDr z with rfl|⟨z',i,rfl⟩
      ·rw[ghdr];rfl
      ·by_cases g1:i<xs.length
       ·rw[ghd1 i z' g1];exact hm.one _ _
       ·have:=ghd2 (i-xs.length) z'
        rw[show xs.length+(i-xs.length)=i from by omega]at this;rw[this];exact hn.one _ _
     ·rw[ghd0 s z g];exact hm.one _ _
    ·have:zBY Γ w b':=by
      rw[<-gm]at hl;simp only[Gh.ip]at hl;split at hl
      ·rename_i g;rw[g.1];exact a7
      ·split at hl
       ·rename_i g;exact hm.lb _ _ _ g
       ·cases hl
     exact⟨by rw[gM];exact this.1,this.2⟩
    ·have:zBY Γ w b':=by
      rw[<-gm]at hl;simp only[Gh.ip]at hl;split at hl
      ·rename_i g;exact hm.ow _ _ g
      ·cases hl
     exact⟨by rw[gM];exact this.1,this.2⟩
    ·have gZ:b'≠b:=by rintro rfl;rw[a7.2.2]at er;cases er
     rw[gD b' gZ];exact hm.st b' x' er
    ·have gZ:b'≠b:=by
      rintro rfl
      rcases a7.2.1 with g3|g3
      ·omega
      ·exact g2 g3
     rw[gD b' gZ];exact hm.fr b' g1 g2
   have bj:vQ G' w' d us [] xs.length b (oa):=by
    refine zG6 us [] xs.length b (oa) hn.tup (fun i x er f hf=>?_) (fun i p' g1 g2=>glb2 i p' (by omega) g2) (fun i v hv=>?_)
    ·have:=gad2 i f (by simp only[T.inT,er];exact hf)
     simpa[T.offT,er]using this
    ·have g1:=hn.vals G' ghd2 i v hv
     have g2:=(Jm.1 g1).1;rw[eV,if_pos ⟨by omega,by omega⟩,show oa+i-oa=i from by omega];exact g1
   have dg:R Γ.St G' w' d (.sl k (xs++us)) []:=by
    simp only[R];rw[ghdr];refine .inr ⟨b,o0,cap,_,et,by simp,eB,by simp;omega,h4,by rw[pJ];exact h5,gow1 b s0 [] [] h6 (fF []),?_,zDF _ _ _ _ _ (fun i x er=>?_)⟩
    ·intro o g1 g2
     rw[J5,Hv]at g1;exact glb1 b o jh s0 [] [] (h7 o (by omega) g2) (by omega) (fF [])
    ·rw[Ks]at er
     simp only[Ji];split at er
     ·rename_i gC
      obtain⟨g1,g2,g3⟩:=sV xs [] 0 b o0 k i x h8 er;simp only[Ji]at g1 g3;have tm:∀b' o fl z,G.lb b' o=jf (fl,s0,z++[i])->G'.lb b' o=jf (fl,d,z++[i])/\yN w' b' o=yN w b' o:=fun b' o fl z g=>by have g4:=gK b' o fl s0 _ g (by simp);exact⟨glb1 b' o fl s0 _ _ g g4 (fF _),fp b' o g4⟩
      refine⟨zEo x [i] [i] b _ (fun z=>ghd1 i z gC) (fun z=>gad1 i z gC) (fun b' o z g=>tm b' o ji z g) g1,g2,?_⟩;refine jP (G:=G) (w:=w) (s:=s0) (p:=[i]) ⟨⟨fun z=>ghd1 i z gC,fun z _=>gad1 i z gC,fun b' o f z _ _ g=>tm b' o f z g,fun b' z _ g=>gow1 b' s0 _ _ g (fF _),eC⟩,fun b' o _ g=>?_,fun b' g=>gow1 b' s0 _ _ g (fF _)⟩ x (yU.mono (fun _ _=>False.elim) x (uI xs e3 i x er)) g3;have:=tm b' o jh [] (by simpa using g);simpa using this
     ·rename_i hge
      obtain⟨j,rfl⟩:∃j,i=xs.length+j:=⟨i-xs.length,by omega⟩;rw[show xs.length+j-xs.length=j from by omega]at er;have g1:=zCa us [] xs.length b (oa) j x bj er;rw[show T.sizes (us.take j)=j*k from by rw[wT _ (fun u hu=>hn.size u (List.mem_of_mem_take hu)),Ke,Nat.min_eq_left (by have:=(Jm.1 er).1;omega)],show oa+j*k=o0+(xs.length+j)*k from by rw[Hv];omega]at g1
      refine⟨g1,hn.size x (Lu er),?_⟩;cases hy:y with
      |none=>exact hn.none hy j x er G' w' (fun z=>ghd2 j z)
      |some y'=>
       obtain⟨y1,y2,y3,y4⟩:=hn.slot y' hy;obtain⟨_,y5,_⟩:=g9.ent y' _ y3;simp only[R]at y5;rcases y5 with⟨rfl,_⟩|⟨b2,o2,cap2,cs2,et2,_,_,_,_,_,_,_,y6⟩
       ·simp at er
       ·obtain⟨_,_,y7⟩:=sV us [] 0 b2 o2 k j x y6 er
        simp only[Ji]at y7;refine zLD x [j] [xs.length+j] (zCN.okTups_get us hn.tup j x er) ⟨fun z=>by rw[ghd2,y4],fun z g=>gad3 y' j z hy (by simp only[T.inT,er];exact g),fun b' o fl z _ g=>?_,fun b' z g=>gow1 b' y' _ _ g (mF y' z j hy y2),eC⟩ (yU.mono (fun _ _=>False.elim) x (uI us hn.clean j x er)) y7;have g4:=gK b' o fl y' _ g (by simp[y2]);exact⟨glb1 b' o fl y' _ _ g g4 (mF y' z j hy y2),fp b' o g4⟩
   have gA:=run_storeCells_at P b (oa) et nv 0 cs w h2 (by omega) gk;simp only[Um]at gA;rw[ek]at gA;have gx:=zEr (P:=P) (t:=t) (ty:=ty) (w':=w') ht hi hx (by omega) (base:=jf ⟨b,o0,jg⟩) gR (by simp only[hk,uO,hoa];exact gA);refine⟨_,w',by rw[h1];exact gx,G',fin G' w' _ gu gp ghdr dg ghd0⟩
 ·
  have da:∃a' c,G.hd s0 []=.slice a' xs.length c/\ ∀w2:World,w2.heap=w.heap->(Builtin.firstCells ti.size xs.length (.slice a' xs.length c)).run P w2=.ok (yE G s0 xs [] 0).toArray w2:=by
   rcases e2 with⟨rfl,a1,h1⟩|⟨b,o0,cap,cs,et,h1,h2,h3,h4,h5,h6,h7,h8⟩
   ·exact⟨a1,0,h1,fun w2 _=>by cases a1<;>simp[Builtin.firstCells,loadCells,loadCellsFrom,yE]⟩
   ·refine⟨_,_,h1,fun w2 bU=>?_⟩
    have hl:=zAm xs [] 0 b o0 h8;refine run_firstCells_some (P:=P) w2 ti.size xs.length ⟨b,o0,jg⟩ _ _ _ ?_ (fun j v hv=>?_)
    ·rw[wO,hk]
     exact wT xs (zBb xs [] 0 b o0 h8).2
    ·have:=zAW xs [] 0 b o0 hl j v hv
     rw[uO];simp only[yN]at this;simpa[World.cell?,bU]using this
  obtain⟨a',c,hh,gD⟩:=da;have eH:yM xs=jh/\(∀x∈xs,x.size=k)/\ ∀i x,xs[i]? =jf x->R Γ.St G w s0 x [i]:=by
   rcases e2 with⟨rfl,a1,h1⟩|⟨b,o0,cap,cs,et,h1,h2,h3,h4,h5,h6,h7,h8⟩
   ·simp[yM]
   ·refine⟨jT (St:=Γ.St) (k:=k) xs [] 0 b o0 (zAm xs [] 0 b o0 h8),(zBb xs [] 0 b o0 h8).2,fun i x er=>?_⟩
    have:=(sV xs [] 0 b o0 k i x h8 er).2.2;simpa using this
  have gW:c<xs.length+us.length:=by
   rcases Jo c (xs.length+us.length)with g|g
   ·exact g
   ·exact absurd ⟨a',c,hh,g⟩ gR
  have gx:=zKq (P:=P) (t:=t) (ty:=ty) ht hi hz hx gW pe hb gD;have hge:=grownCap_ge w (xs.length+us.length) c e;have bB:=grownCap_le_maxLen w (xs.length+us.length) c e (by simp only[maxLen];omega)
  generalize grownCap w (xs.length+us.length) c e=cap' at gx hge bB
  generalize ek:w.drew.alloc (.cells ((yE G s0 xs [] 0++nv).toArray++Builtin.zeroCells z.cells (cap'-(xs.length+us.length))) e)=w' at gx
  have hwh:w'.heap=w.heap.push (.cells ((yE G s0 xs [] 0++nv).toArray++Builtin.zeroCells z.cells (cap'-(xs.length+us.length))) e):=by rw[<-ek];rfl
  have mw:T.sizes xs=xs.length*k:=wT xs eH.2.1;obtain⟨g1,g2,g3,g4,g5⟩:=zCN hm hwh d (xs++us) (fun i=>if i<xs.length then jf (s0,[i])else y.map fun y'=>(y',[i-xs.length])) (zDG s0 y xs.length) (fun i z=>if i<xs.length then G.hd s0 (z++[i])else f2 (i-xs.length) z) (.slice (jf ⟨w.heap.size,0,jg⟩) (xs.length+us.length) cap') ((zA0 d s0 y).tail)
   (zDp xs us eH.1 hn.tup) (fun i z=>by split;exact hm.one _ _;exact hn.one _ _) rfl
   (fun i u x q z' hu hs=>by
    split at hs
    ·simp at hs;obtain⟨rfl,rfl⟩:=hs;simp[zDG]
    ·rename_i fN
     cases y with
     |none=>simp at hs
     |some y'=>
      simp at hs;obtain⟨rfl,rfl⟩:=hs;have:=(hn.slot y' rfl).2.1;simp[zDG,this,show xs.length+(i-xs.length)=i from by omega])
   (fun i u x q hu hs=>by
    rw[Ks]at hu;split at hs
    ·rename_i gC
     rw[if_pos gC]at hu;simp at hs;obtain⟨rfl,rfl⟩:=hs;exact⟨fun z'=>by simp[gC],eH.2.2 i u hu,uI xs e3 i u hu,ft⟩
    ·rename_i fN
     rw[if_neg fN]at hu;cases hy:y with
     |none=>rw[hy]at hs;simp at hs
     |some y'=>
      rw[hy]at hs;simp at hs;obtain⟨rfl,rfl⟩:=hs;obtain⟨y1,y2,y3,y4⟩:=hn.slot y' hy;obtain⟨_,y5,_⟩:=g9.ent y' _ y3;simp only[R]at y5;refine⟨fun z'=>by simp[fN,y4],?_,uI us hn.clean _ u hu,y1⟩;rcases y5 with⟨rfl,_⟩|⟨b2,o2,cap2,cs2,et2,_,_,_,_,_,_,_,y6⟩
      ·simp at hu
      ·have:=(sV us [] 0 b2 o2 k _ u y6 hu).2.2
       simpa using this)
   (fun i u hu hs G2 w2 eS=>by
    rw[Ks]at hu;split at hs
    ·cases hs
    ·rename_i fN
     rw[if_neg fN]at hu;cases hy:y with
     |some y'=>rw[hy]at hs;simp at hs
     |none=>
      have:=hn.none hy (i-xs.length) u hu G2 w2 (fun z'=>by rw[show xs.length+(i-xs.length)=i from by omega,eS,if_neg fN])
      rwa [show xs.length+(i-xs.length)=i from by omega]at this)
   (fun G2 eS o v hv=>by
    rw[zEp,Ji]at hv;have h1:yE G2 d xs [] 0=yE G s0 xs [] 0:=zLL xs [] 0 (fun i fj z'=>by rw[Ji,eS,if_pos fj]);rw[h1]at hv;have tm:(yE G s0 xs [] 0).length=xs.length*k:=by rw[wO,mw]
    have aT:(yE G2 d us [] xs.length).length=us.length*k:=by rw[wO,mY]
    have ho:o<xs.length*k+us.length*k:=by have:=(Jm.1 hv).1;rw[J5]at this;omega
    have cI:=hn.len;rw[Array.getElem?_append_left (by simp;omega),List.getElem?_toArray];rw[Ks]at hv ⊢
    split at hv
    ·rename_i gC;rw[if_pos gC];exact hv
    ·rename_i fN;rw[if_neg fN]
     exact hn.vals G2 (fun j z'=>by rw[eS,if_neg (by omega),show xs.length+j-xs.length=j from by omega]) _ v hv)
   (fun s p h=>pI s p (by simpa[zA0]using h)) (ho:=by rw[<-ek];rfl) (hq:=by rw[<-ek];rfl)
  refine⟨_,w',by rw[hh];exact gx,_,fin _ w' _ (by simpa[zA0]using g1) g2 (by simp[Gh.nb]) ?_ (fun s p h=>by simp[Gh.nb,h])⟩;simp only[R];refine .inr ⟨w.heap.size,0,cap',_,e,by simp[Gh.nb],g5,by simpa using hge,bB,?_,by simp[Gh.nb],?_,zTB _ _ _ _ _ (fun x er=>?_) g3 g4⟩
  ·have tm:(yE G s0 xs [] 0).length=xs.length*k:=by rw[wO,mw]
   have cI:=hn.len;simp only[Array.size_append,Jbm,J5,size_zeroCells,fR,tm,cI,<-Hv];rw[Ji];exact Kc _ (by omega)
  ·intro o ho _
   rw[J5,Hv]at ho;simp[Gh.nb,zDC (xs++us) [] 0 o (by rw[zEq];omega)]
  ·rcases Ja.1 er with h|h
   ·exact eH.2.1 x h
   ·exact hn.size x h
end
mutual
def T.flat:T->Bool
 |.lit _|.ro _=>jh
 |.agg xs=>kV xs
 |.any|.same _ _|.addr _ _|.sub _ _ _ _ _|.sl _ _|.ptr _|.tup _=>ji
def kV:List T->Bool
 | []=>jh
 |x::xs=>x.flat&&kV xs
end
section
variable {St:Stb}{G G2:Gh}{w w2:World}{s d:Nat}
mutual
theorem zKr:(t:T)-> ∀(p p':List Nat),t.flat=jh->(∀z,G2.hd d (z++p')=G.hd s (z++p))->R St G w s t p->R St G2 w2 d t p'
 |.lit _,p,p',_,h,hr=>by have:=h [];simp only[K0]at this;simp only[R]at hr ⊢;rw[this];exact hr
 |.ro _,p,p',_,h,hr=>by have:=h [];simp only[K0]at this;simp only[R]at hr ⊢;rw[this];exact hr
 |.agg xs,p,p',hf,h,hr=>by simp only[R,T.flat]at hr hf ⊢;exact zQi xs p p' 0 hf h hr
 |.any,_,_,hf,_,_|.same _ _,_,_,hf,_,_|.addr _ _,_,_,hf,_,_|.sub _ _ _ _ _,_,_,hf,_,_|.sl _ _,_,_,hf,_,_|.ptr _,_,_,hf,_,_|.tup _,_,_,hf,_,_=>by simp[T.flat]at hf
theorem zQi:(xs:List T)-> ∀(p p':List Nat)(j:Nat),kV xs=jh->(∀z,G2.hd d (z++p')=G.hd s (z++p))->RF St G w s xs p j->RF St G2 w2 d xs p' j
 | [],_,_,_,_,_,_=>by simp only[RF]
 |x::xs,p,p',j,hf,h,hr=>by
  simp only[RF,kV,J4]at hr hf ⊢
  exact⟨zKr x (j::p) (j::p') hf.1 (fun z=>by have:=h (z++[j]);simpa using this) hr.1,zQi xs p p' (j+1) hf.2 h hr.2⟩
end
end
mutual
theorem zHg:(t:T)->t.flat=jh->zZ t/\t.okTup=jh
 |.lit _,_|.ro _,_=>by simp[zZ,yU,T.okTup]
 |.agg xs,h=>by simp only[T.flat]at h;simpa only[zZ,yU,T.okTup]using kA xs h
 |.any,h|.same _ _,h|.addr _ _,h|.sub _ _ _ _ _,h|.sl _ _,h|.ptr _,h|.tup _,h=>by simp[T.flat]at h
theorem kA:(xs:List T)->kV xs=jh->yZ xs/\yM xs=jh
 | [],_=>by simp[yZ,xP,yM]
 |x::xs,h=>by simp only[kV,J4]at h;simp only[yZ,xP,yM,J4];exact⟨⟨(zHg x h.1).1,(kA xs h.2).1⟩,(zHg x h.1).2,(kA xs h.2).2⟩
end
theorem zJe:(xs:List T)->kV xs=jh-> ∀(i:Nat)(x:T),xs[i]? =jf x->x.flat=jh
 | [],_,_,_,h=>by simp at h
 |y::ys,hk,i,x,h=>by
  simp only[kV,J4]at hk;cases i with
  |zero=>simp at h;subst h;exact hk.1
  |succ i=>exact zJe ys hk.2 i x (by simpa using h)
mutual
def zFq:T->Bool
 |.lit _=>jh
 |.sl _ xs=>zBc xs
 |.agg xs=>zBc xs
 |.ptr t=>zFq t
 |.any|.ro _|.same _ _|.addr _ _|.sub _ _ _ _ _|.tup _=>ji
def zBc:List T->Bool
 | []=>jh
 |x::xs=>zFq x&&zBc xs
end
theorem zLM:(ys:List T)->zBc ys=jh-> ∀u∈ys,∀xs,u≠.tup xs
 | [],_,_,h,_=>by simp at h
 |y::ys,hr,u,h,xs=>by
  simp only[zBc,J4]at hr;rcases J9.1 h with rfl|h
  ·rintro rfl;simp[zFq]at hr
  ·exact zLM ys hr.2 u h xs
theorem zGa:(ys:List T)->(roT.roTs ys).length=ys.length
 | []=>rfl
 |y::ys=>by simp[roT.roTs,zGa ys]
theorem zHh{k:Nat}:(ys:List T)->(∀u∈ys,u.size=k)->(∀u∈ys,∀xs,u≠.tup xs)-> ∀u∈roT.roTs ys,u.size=k
 | [],_,_,u,h=>by simp[roT.roTs]at h
 |y::ys,h1,h2,u,h=>by
  simp only[roT.roTs,J9]at h;rcases h with rfl|h
  ·rw[zEl y (h2 y (by simp))];exact h1 y (by simp)
  ·exact zHh ys (fun v hv=>h1 v (by simp[hv])) (fun v hv=>h2 v (by simp[hv])) u h
theorem zLN:(ys:List T)-> ∀(j:Nat)(u:T),(roT.roTs ys)[j]? =jf u-> ∃u0,ys[j]? =jf u0/\u=roT u0
 | [],_,_,h=>by simp[roT.roTs]at h
 |y::ys,j,u,h=>by
  cases j with
  |zero=>simp[roT.roTs]at h;exact⟨y,by simp,h.symm⟩
  |succ j=>
   obtain⟨u0,h1,h2⟩:=zLN ys j u (by simpa[roT.roTs]using h);exact⟨u0,by simpa using h1,h2⟩
theorem zQj{St:Stb}{G2:Gh}{d:Nat}:(ys:List T)-> ∀(cs':Array Value)(o' k n:Nat),RoL St ys cs' o' k->(∀u∈ys,u.size=k)->(∀j u,ys[j]? =jf u-> ∀z',G2.hd d (z'++[n+j])=jE (zDB u cs' (o'+j*k) z'.reverse))->
  ∀(i:Nat)(v:Value),(yE G2 d (roT.roTs ys) [] n)[i]? =jf v->cs'[o'+i]? =jf v
 | [],_,_,_,_,_,_,_,i,v,hv=>by simp[roT.roTs,yE]at hv
 |y::ys,cs',o',k,n,h,hs,hd,i,v,hv=>by
  simp only[RoL]at h;simp only[roT.roTs,yE]at hv;have hJ:∀xs,y≠.tup xs:=by rintro xs rfl;simp only[RoC]at h;exact h.1
  have io:∀xs,roT y≠.tup xs:=fun xs e=>by cases y<;>simp[roT]at e
  have hl:(vals G2 d (roT y) [n]).length=k:=by rw[vL _ _ io,zEl y hJ,hs y (by simp)]
  rw[Ks]at hv;split at hv
  ·exact zGT y cs' o' [n] (fun z'=>by simpa using hd 0 y (by simp) z') h.1 i v hv
  ·have:=zQj ys cs' (o'+k) k (n+1) h.2 (fun u hu=>hs u (by simp[hu])) (fun j u hu z'=>by
    have:=hd (j+1) u (by simpa using hu) z'
    rwa [show n+(j+1)=n+1+j from by omega,show o'+(j+1)*k=o'+k+j*k from by rw[K8];omega]at this) _ v hv
   rwa [hl,show o'+k+(i-k)=o'+i from by omega]at this
mutual
theorem zRI{G:Gh}(hg:∀s z,(G.hd s z).oneCell'=jh){s:Nat}:(t:T)-> ∀(p:List Nat)(v:Value),v∈vals G s t p->v.oneCell'=jh
 |.agg xs,p,v,h=>by simp only[vals]at h;exact zDH hg xs p 0 v h
 |.any,p,v,h|.lit _,p,v,h|.ro _,p,v,h|.same _ _,p,v,h|.addr _ _,p,v,h|.sub _ _ _ _ _,p,v,h|.sl _ _,p,v,h|.ptr _,p,v,h|.tup _,p,v,h=>by simp only[vals,List.mem_singleton]at h;rw[h];exact hg s p
theorem zDH{G:Gh}(hg:∀s z,(G.hd s z).oneCell'=jh){s:Nat}:(xs:List T)-> ∀(p:List Nat)(j:Nat)(v:Value),v∈yE G s xs p j->v.oneCell'=jh
 | [],_,_,_,h=>by simp[yE]at h
 |x::xs,p,j,v,h=>by
  simp only[yE,Ja]at h;rcases h with h|h
  ·exact zRI hg x _ v h
  ·exact zDH hg xs p _ v h
end
theorem zCh{G G2:Gh}{s d:Nat}:(us:List T)-> ∀(n j:Nat),(∀i z,G2.hd d (z++[n+i])=G.hd s (z++[j+i]))->yE G2 d us [] n=yE G s us [] j
 | [],_,_,_=>by simp only[yE]
 |x::xs,n,j,h=>by
  have ih:yE G2 d xs [] (n+1)=yE G s xs [] (j+1):=zCh xs (n+1) (j+1) (fun i z=>by rw[show n+1+i=n+(i+1)from by omega,show j+1+i=j+(i+1)from by omega];exact h (i+1) z)
  simp only[yE];rw[ih,zA4 x [j] [n] (by simpa using h 0)]
theorem zEs{G G2:Gh}{s d:Nat}:(us:List T)-> ∀(n j:Nat)(q:List Nat),(∀i z,G2.hd d (z++[n+i])=G.hd s (z++((j+i)::q)))->yE G2 d us [] n=yE G s us q j
 | [],_,_,_,_=>by simp only[yE]
 |x::xs,n,j,q,h=>by
  have ih:yE G2 d xs [] (n+1)=yE G s xs q (j+1):=zEs xs (n+1) (j+1) q (fun i z=>by rw[show n+1+i=n+(i+1)from by omega,show j+1+i=j+(i+1)from by omega];exact h (i+1) z)
  simp only[yE];rw[ih,zA4 x (j::q) [n] (by simpa using h 0)]
section
variable {P:Program}{Γ:Ctx}{E:Env}{o:Oper}{d:Nat}
theorem zQk{w:World}{us:List T}(h:R St G w r (.sl k us) q){size:Nat}(hk:size=k):
  ∃xa c,G.hd r q=.slice xa us.length c/\ ∀w2:World,w2.heap=w.heap->(Builtin.firstCells size us.length (.slice xa us.length c)).run P w2=.ok (yE G r us q 0).toArray w2:=by
 simp only[R]at h;rcases h with⟨rfl,a1,h1⟩|⟨b,o0,cap,cs,et,h1,h2,h3,h4,h5,h6,h7,h8⟩
 ·exact⟨a1,0,h1,fun w2 _=>by cases a1<;>simp[Builtin.firstCells,loadCells,loadCellsFrom,yE]⟩
 ·refine⟨_,_,h1,fun w2 bU=>?_⟩
  have hl:=zAm us q 0 b o0 h8;refine run_firstCells_some (P:=P) w2 size us.length ⟨b,o0,jg⟩ _ _ _ ?_ (fun j v hv=>?_)
  ·rw[wO,hk]
   exact wT us (zBb us q 0 b o0 h8).2
  ·have:=zAW us q 0 b o0 hl j v hv
   rw[uO];simp only[yN]at this;simpa[World.cell?,bU]using this
theorem zBd{w:World}(g9:Rep Γ E G a.tmps w){s:Nat}{t:T}(h:E s=jf t)(ht:t.single=jh):a.eval (.tmp s)=G.hd s []:=by rw[xW (g9.ent s t h).1,yV ht]
theorem zKs(t e:TypeId)(ti:TypeInfo)(z:Value)(k s0 y:Nat)(xs us:List T)(ho:o.op=.call { callee:=.builtin .append,args:=#[.tmp s0,.tmp y],argTypes:=#[t,t] })(gg:o.dst=jf d)(hd:d<Γ.N)
  (ht:P.underlying t=jf (.slice e))(hi:P.info? e=jf ti)(hz:ti.zero=jf z)(hk:ti.size=k)(fe:0<k)(fR:z.cells.size=k)(hb:ti.bytes<=2048)
  (ep:E s0=jf (.sl k xs))(hy:E y=jf (.sl k us))(ft:s0≠d)(pt:y≠d)(dj:y≠s0)(pe:xs.length+us.length<=68719476736):
  xZ P Γ o E (E.app (aWr d s0 (jf y) k (xs++us)) (zA0 d s0 (jf y))):=by
 refine xZ.value gg fun a w G g9=>?_
 obtain⟨_,y2,y3⟩:=g9.ent y _ hy;simp only[Top]at y3;obtain⟨xa,c,h1,h2⟩:=zQk (P:=P) y2 hk;have fP:yM us=jh/\ ∀u∈us,u.size=k:=by
  simp only[R]at y2;rcases y2 with⟨rfl,_⟩|⟨b,o0,cap,cs,et,_,_,_,_,_,_,_,h8⟩
  ·simp[yM]
  ·exact⟨jT (St:=Γ.St) (k:=k) us [] 0 b o0 (zAm us [] 0 b o0 h8),(zBb us [] 0 b o0 h8).2⟩
 have hn:zHf Γ E G d s0 (jf y) k xs.length us (fun j z'=>G.hd y (z'++[j])) (yE G y us [] 0):=
  ⟨fP.2,fP.1,y3,fun j z'=>g9.mem.one _ _,by rw[wO];exact wT us fP.2,fun y' hy'=>by simp at hy';subst hy';exact⟨pt,dj,hy,fun _ _=>rfl⟩,fun h=>by simp at h,
   fun G2 eS o v hv=>by rw[<-zCh us xs.length 0 (fun i z'=>by rw[eS,Ji])];exact hv⟩
 obtain⟨v,w',gx,G',gm⟩:=zB3 (P:=P) (ty:=o.type) g9 hd ht hi hz hk fe fR hb ep ft hn (xv:=a.eval (.tmp y)) ⟨.inl ⟨e,xa,c,ht,by rw[zBd g9 hy rfl,h1],h2⟩⟩ (fun v hv=>zCP g9.mem us [] 0 v hv) pe;refine⟨v,w',?_,G',gm⟩;rw[<-zBd g9 ep rfl]at gx;simp[execOp,ho,resolve,invoke,builtin,gx]
theorem zKt(t e:TypeId)(ti:TypeInfo)(z:Value)(k s0:Nat)(y:Operand)(r:Nat)(q:List Nat)(xs us:List T)(ho:o.op=.call { callee:=.builtin .append,args:=#[.tmp s0,y],argTypes:=#[t,t] })(gg:o.dst=jf d)(hd:d<Γ.N)
  (ht:P.underlying t=jf (.slice e))(hi:P.info? e=jf ti)(hz:ti.zero=jf z)(hk:ti.size=k)(fe:0<k)(fR:z.cells.size=k)(hb:ti.bytes<=2048)
  (ep:E s0=jf (.sl k xs))(hy:tD E y=jf (r,q,.sl k us))(hf:kV us=jh)(ft:s0≠d)(pe:xs.length+us.length<=68719476736):
  xZ P Γ o E (E.app (aWr d s0 jg k (xs++us)) (zA0 d s0 jg)):=by
 refine xZ.value gg fun a w G g9=>?_
 obtain⟨y2,y1⟩:=qS g9 hy rfl;obtain⟨xa,c,h1,h2⟩:=zQk (P:=P) y2 hk;have fP:(∀u∈us,u.size=k)/\ ∀j u,us[j]? =jf u->R Γ.St G w r u (j::q):=by
  simp only[R]at y2;rcases y2 with⟨rfl,_⟩|⟨b,o0,cap,cs,et,_,_,_,_,_,_,_,h8⟩
  ·simp
  ·refine⟨(zBb us q 0 b o0 h8).2,fun j u hu=>?_⟩
   have:=(sV us q 0 b o0 k j u h8 hu).2.2;simpa using this
 have gy:=kA us hf;have hn:zHf Γ E G d s0 jg k xs.length us (fun j z'=>G.hd r (z'++(j::q))) (yE G r us q 0):=
  ⟨fP.1,gy.2,gy.1,fun j z'=>g9.mem.one _ _,by rw[wO];exact wT us fP.1,fun y' hy'=>by simp at hy',
   fun _ j u hu G2 w2 eS=>zKr u (j::q) [xs.length+j] (zJe us hf j u hu) (fun z'=>eS z') (fP.2 j u hu),
   fun G2 eS o v hv=>by rw[<-zEs us xs.length 0 q (fun i z'=>by rw[eS,Ji])];exact hv⟩
 obtain⟨v,w',gx,G',gm⟩:=zB3 (P:=P) (ty:=o.type) g9 hd ht hi hz hk fe fR hb ep ft hn (xv:=a.eval y) ⟨.inl ⟨e,xa,c,ht,by rw[y1,h1],h2⟩⟩ (fun v hv=>zCP g9.mem us q 0 v hv) pe;refine⟨v,w',?_,G',gm⟩;rw[<-zBd g9 ep rfl]at gx;simp[execOp,ho,resolve,invoke,builtin,gx]
mutual
theorem zTG:(u:T)->zFq u=jh->(roT u).flat=jh
 |.agg xs,h=>by simp only[zFq]at h;simp only[roT,T.flat];exact zFr xs h
 |.lit _,_|.sl _ _,_|.ptr _,_=>by simp[roT,T.flat]
 |.any,h|.ro _,h|.same _ _,h|.addr _ _,h|.sub _ _ _ _ _,h|.tup _,h=>by simp[zFq]at h
theorem zFr:(xs:List T)->zBc xs=jh->kV (roT.roTs xs)=jh
 | [],_=>by simp[roT.roTs,kV]
 |x::xs,h=>by simp only[zBc,J4]at h;simp only[roT.roTs,kV,J4];exact⟨zTG x h.1,zFr xs h.2⟩
end
theorem zKu(t e:TypeId)(ti:TypeInfo)(z:Value)(k s0:Nat)(y:Operand)(r:Nat)(q:List Nat)(xs ys:List T)(ho:o.op=.call { callee:=.builtin .append,args:=#[.tmp s0,y],argTypes:=#[t,t] })(gg:o.dst=jf d)(hd:d<Γ.N)
  (ht:P.underlying t=jf (.slice e))(hi:P.info? e=jf ti)(hz:ti.zero=jf z)(hk:ti.size=k)(fe:0<k)(fR:z.cells.size=k)(hb:ti.bytes<=2048)
  (ep:E s0=jf (.sl k xs))(hy:tD E y=jf (r,q,.ro (.sl k ys)))(hro:zBc ys=jh)(dj:∀u∈ys,u.size=k)(ft:s0≠d)(pe:xs.length+ys.length<=68719476736):
  xZ P Γ o E (E.app (aWr d s0 jg k (xs++roT.roTs ys)) (zA0 d s0 jg)):=by
 refine xZ.value gg fun a w G g9=>?_
 obtain⟨y2,y1⟩:=qS g9 hy rfl;obtain⟨xa,c,h1,h2,h3,h4⟩:=zCL y2;have hf:=zFr ys hro;have gy:=kA _ hf;have gf:(roT.roTs ys).length=ys.length:=zGa ys;have gr:∀u∈roT.roTs ys,u.size=k:=zHh ys dj (fun u hu=>zLM ys hro u hu);obtain⟨cs',o',h5,h6⟩:∃(cs':Array Value)(o':Nat),RoL Γ.St ys cs' o' k/\(ys≠[]-> ∃b et fr,xa=jf ⟨b,o',jg⟩/\Γ.St b=jf (.cells cs' et fr)):=by
  by_cases gc:ys=[]
  ·subst gc;exact⟨#[],0,by simp[RoL],fun h=>absurd rfl h⟩
  ·obtain⟨b,o',cs',et,fr,h5,h6,h7⟩:=h4 gc
   exact⟨cs',o',h7,fun _=>⟨b,et,fr,h5,h6⟩⟩
 let f2:Nat->List Nat->Value:=fun j z'=>match ys[j]? with
  |some u=>jE (zDB u cs' (o'+j*k) z'.reverse)
  |none=>.bool ji
 have hf2:∀j u,ys[j]? =jf u-> ∀z',f2 j z'=jE (zDB u cs' (o'+j*k) z'.reverse):=fun j u hu z'=>by simp[f2,hu]
 let G0:Gh:={ G with hd:=fun s z'=>if s=d then(match z'.getLast? with
  |some j=>f2 j z'.dropLast
  |none=>.bool ji)else G.hd s z' }
 have hG0:∀j z',G0.hd d (z'++[j])=f2 j z':=fun j z'=>by simp[G0]
 have pz:∀(G2:Gh)(n:Nat),(∀j z',G2.hd d (z'++[n+j])=f2 j z')-> ∀(i:Nat)(v:Value),(yE G2 d (roT.roTs ys) [] n)[i]? =jf v->cs'[o'+i]? =jf v:=by intro G2 n eS i v hv;exact zQj ys cs' o' k n h5 dj (fun j u hu z'=>by rw[eS,hf2 j u hu]) i v hv
 have aP:∀w2:World,w2.heap=w.heap->(Builtin.firstCells ti.size ys.length (.slice xa ys.length c)).run P w2=.ok (yE G0 d (roT.roTs ys) [] 0).toArray w2:=by
  intro w2 bU
  by_cases gc:ys=[]
  ·subst gc
   cases xa<;>simp[Builtin.firstCells,loadCells,loadCellsFrom,roT.roTs,yE]
  ·obtain⟨b,et,fr,rfl,h7⟩:=h6 gc
   refine run_firstCells_some (P:=P) w2 ti.size ys.length ⟨b,o',jg⟩ _ _ _ ?_ (fun j v hv=>?_)
   ·rw[wO,hk,wT _ gr,gf]
   ·have:=pz G0 0 (fun j z'=>by rw[Ji];exact hG0 j z') j v hv
    rw[uO];have h8:=g9.mem.st b _ h7;simp[World.cell?,bU,h8,this]
 have mG:∀j z',(f2 j z').oneCell'=jh:=fun j z'=>by
  dsimp only[f2];split
  ·exact zAX _
  ·rfl
 have hn:zHf Γ E G d s0 jg k xs.length (roT.roTs ys) f2 (yE G0 d (roT.roTs ys) [] 0):=by
  refine⟨gr,gy.2,gy.1,mG,by rw[wO];exact wT _ gr,fun y' hy'=>by simp at hy',fun _ j u hu G2 w2 eS=>?_,fun G2 eS i v hv=>?_⟩
  ·obtain⟨u0,dt,rfl⟩:=zLN ys j u hu
   exact zT6 u0 cs' (o'+j*k) [xs.length+j] (fun z'=>by rw[eS z',hf2 j u0 dt]) (zG5 ys cs' o' k j u0 h5 dt)
  ·rw[<-zCh (roT.roTs ys) xs.length 0 (fun i z'=>by rw[eS,Ji];exact(hG0 i z').symm)]
   exact hv
 have aI:∀v∈yE G0 d (roT.roTs ys) [] 0,v.oneCell'=jh:=by
  intro v hv;refine zDH (fun s z'=>?_) _ [] 0 v hv;simp only[G0];split
  ·split
   ·exact mG _ _
   ·rfl
  ·exact g9.mem.one _ _
 have bF:zHe P t e ti (a.eval y) (roT.roTs ys).length (yE G0 d (roT.roTs ys) [] 0) w:=⟨.inl ⟨e,xa,c,ht,by rw[y1,h1,gf],by rw[gf];exact aP⟩⟩;obtain⟨v,w',gx,G',gm⟩:=zB3 (P:=P) (ty:=o.type) g9 hd ht hi hz hk fe fR hb ep ft hn bF aI (by rw[gf];exact pe);refine⟨v,w',?_,G',gm⟩;rw[<-zBd g9 ep rfl]at gx;simp[execOp,ho,resolve,invoke,builtin,gx]
end
theorem zGb:(us:List T)->sW us=us.flatMap sF
 | []=>rfl
 |u::us=>by simp[sW,zGb us]
theorem zCi(u:T)(h:u.zOk=jh):∀m,kX (J1 m u)=jh
 |0=>rfl
 |m+1=>by simp[Jv,kX,h,zCi u h m]
section
variable {P:Program}{Γ:Ctx}{E:Env}{o:Oper}{d:Nat}
theorem zHi(t t2 e:TypeId)(k2:IntKind)(ti:TypeInfo)(z:Value)(u:T)(k s0:Nat)(y:Operand)(kd:IntKind)(m:Nat)(xs:List T)(ho:o.op=.call { callee:=.builtin .append,args:=#[.tmp s0,y],argTypes:=#[t,t2] })(gg:o.dst=jf d)(hd:d<Γ.N)
  (ht:P.underlying t=jf (.slice e))(aw:P.underlying t2=jf (.int k2))(hi:P.info? e=jf ti)(hz:ti.zero=jf z)(hk:ti.size=k)(fe:0<k)(hb:ti.bytes<=2048)(hu:u.zOk=jh)(hv:sF u=z.cells.toList)(fP:u.size=k)
  (ep:E s0=jf (.sl k xs))(hy:opT E y=jf (.lit (.int kd m)))(ft:s0≠d)(pe:xs.length+m<=68719476736):
  xZ P Γ o E (E.app (aWr d s0 jg k (xs++J1 m u)) (zA0 d s0 jg)):=by
 refine xZ.value gg fun a w G g9=>?_
 have fR:z.cells.size=k:=by grind[vU]
 have hzo:=zCi u hu m;have gy:=zB2 _ hzo
 let f2:Nat->List Nat->Value:=fun _ z'=>jE (zhd u z'.reverse)
 have hnvl:((Builtin.zeroCells z.cells m).toList).length=m*k:=by grind[Builtin.zeroCells]
 have hn:zHf Γ E G d s0 jg k xs.length (J1 m u) f2 (Builtin.zeroCells z.cells m).toList:=by
  refine⟨by grind,gy.2,gy.1,fun _ _=>zAX _,by grind,by simp,fun _ j x hx G2 w2 eS=>?_,fun G2 eS i v mu=>?_⟩
  ·grind[zKm]
  ·have h1:yE G2 d (J1 m u) [] xs.length=sW (J1 m u):=by grind[zDD]
   rw[h1,zGb]at mu;obtain⟨h2,h3⟩:=zKn sF u k (by grind) fe m i v mu
   grind[Builtin.zeroCells]
 have gk:∀v∈(Builtin.zeroCells z.cells m).toList,v.oneCell'=jh:=by
  intro v mu;simp only[Builtin.zeroCells,Array.toList_map,Array.toList_range,Jc,Lj]at mu;obtain⟨i,fj,rfl⟩:=mu
  grind[Hu,zFp]
 have bF:zHe P t2 e ti (a.eval y) (J1 m u).length (Builtin.zeroCells z.cells m).toList w:=by
  refine⟨.inr ⟨k2,kd,z,aw,?_,hz,by simp,?_,by omega⟩⟩
  ·rw[(xY g9 hy).1];simp
  ·simp only[Jl]
   exact H8 (Jr (show m<=68719476736 by omega) hb) (by decide)
 obtain⟨v,w',gx,G',gm⟩:=zB3 (P:=P) (ty:=o.type) g9 hd ht hi hz hk fe fR hb ep ft hn bF gk (by grind);refine⟨v,w',?_,G',gm⟩;rw[<-zBd g9 ep rfl]at gx;simp[execOp,ho,resolve,invoke,builtin,gx]
end
def zLO(G:Gh)(nd:List (Nat×List Nat×T)):Value:=
 match nd with
 | [x]=>sD G x.1 x.2.2 x.2.1
 |nd=>.tuple (nd.map fun x=>sD G x.1 x.2.2 x.2.1).toArray
def FnC(P:Program)(f:FuncId)(us:List T)(res:List T)(rws:List (Nat×T)):Prop:=
 ∀(St:Stb)(W:Nat->Prop)(w:World)(G:Gh)(vs:Array Value),vs.size=us.length->
  (∀(i:Nat) u,us[i]? =jf u->vs[i]? =jf (mkV G i u [])/\R St G w i u [])->Mem ⟨St,W,w,0⟩ G w->
  Calls P f vs w fun e w'=> ∃(S':Stb)(G':Gh)(nd:List (Nat×List Nat×T)),zBZ St S' W w.heap.size/\e=.returned (zLO G' nd)/\Mem ⟨S',W,w,0⟩ G' w'/\nd.map (·.2.2)=res/\
   (∀x∈nd,R S' G' w' x.1 x.2.2 x.2.1/\us.length<=x.1)/\(nd.map (·.1)).Nodup/\
   ∀i u',(i,u')∈rws->R S' G' w' i u' []/\ ∃u,us[i]? =jf u/\mkV G' i u' []=mkV G i u []
mutual
def vA:T->Bool
 |.ro _=>ji
 |.sl _ xs|.agg xs|.tup xs=>vV xs
 |.ptr t=>vA t
 |.any|.lit _|.same _ _|.addr _ _|.sub _ _ _ _ _=>jh
def vV:List T->Bool
 | []=>jh
 |x::xs=>vA x&&vV xs
end
section
variable {St St':Stb}{G:Gh}{w:World}{s:Nat}
mutual
theorem zOj:(t:T)-> ∀(p:List Nat),vA t=jh->R St G w s t p->R St' G w s t p
 |.ro _,_,h,_=>by simp[vA]at h
 |.sl k xs,p,h,hr=>by
  simp only[vA,R]at h hr ⊢
  rcases hr with hr|⟨b,o0,cap,cs,e,h1,h2,h3,h4,h5,h6,h7,h8⟩
  ·exact .inl hr
  ·exact .inr ⟨b,o0,cap,cs,e,h1,h2,h3,h4,h5,h6,h7,zZE xs p 0 b o0 k h h8⟩
 |.agg xs,p,h,hr|.tup xs,p,h,hr=>by simp only[vA,R]at h hr ⊢;exact zZF xs p 0 h hr
 |.ptr t,p,h,hr=>by
  simp only[vA,R]at h hr ⊢
  obtain⟨b,cs,e,h1,h2,h3,h6,h4,h5⟩:=hr;exact⟨b,cs,e,h1,h2,h3,h6,h4,zOj t _ h h5⟩
 |.any,_,_,hr|.lit _,_,_,hr|.same _ _,_,_,hr|.addr _ _,_,_,hr|.sub _ _ _ _ _,_,_,hr=>by first|(simp only[R];done)|simpa only[R]using hr
theorem zZE:(xs:List T)-> ∀(p:List Nat)(i b o k:Nat),vV xs=jh->RL St G w s xs p i b o k->RL St' G w s xs p i b o k
 | [],_,_,_,_,_,_,_=>by simp only[RL]
 |x::xs,p,i,b,o,k,h,hr=>by
  simp only[vV,J4,RL]at h hr ⊢
  exact⟨hr.1,zOj x _ h.1 hr.2.1,zZE xs p (i+1) b _ k h.2 hr.2.2⟩
theorem zZF:(xs:List T)-> ∀(p:List Nat)(i:Nat),vV xs=jh->RF St G w s xs p i->RF St' G w s xs p i
 | [],_,_,_,_=>by simp only[RF]
 |x::xs,p,i,h,hr=>by
  simp only[vV,J4,RF]at h hr ⊢
  exact⟨zOj x _ h.1 hr.1,zZF xs p (i+1) h.2 hr.2⟩
end
end
section
variable {St St':Stb} (h:∀b x,St b=jf x->St' b=jf x)
 include h
mutual
theorem uS:(t:T)-> ∀(cs:Array Value)(o:Nat),RoC St t cs o->RoC St' t cs o
 |.sl k xs,cs,o,hr=>by
  simp only[RoC]at hr ⊢
  obtain⟨a,c,h1,h2,h3,h4⟩:=hr;refine⟨a,c,h1,h2,h3,fun gc=>?_⟩;obtain⟨b,o',cs',e,fr,h5,h6,h7⟩:=h4 gc;exact⟨b,o',cs',e,fr,h5,h b _ h6,zLP xs cs' o' k h7⟩
 |.agg xs,cs,o,hr=>by simp only[RoC]at hr ⊢;exact zLQ xs cs o hr
 |.ptr t,cs,o,hr=>by
  simp only[RoC]at hr ⊢
  obtain⟨b,o',cs',e,fr,h5,h6,h7⟩:=hr;exact⟨b,o',cs',e,fr,h5,h b _ h6,uS t cs' o' h7⟩
 |.ro u,cs,o,hr=>by
  simp only[RoC]at hr ⊢
  obtain⟨f,vs,h1,h2,h3⟩:=hr;exact⟨f,vs,h1,h2,uS u _ _ h3⟩
 |.any,_,_,hr|.lit _,_,_,hr|.same _ _,_,_,hr|.addr _ _,_,_,hr|.sub _ _ _ _ _,_,_,hr|.tup _,_,_,hr=>by first|(simp only[RoC]at hr;done)|simpa only[RoC]using hr
theorem zLP:(xs:List T)-> ∀(cs:Array Value)(o k:Nat),RoL St xs cs o k->RoL St' xs cs o k
 | [],_,_,_,_=>by have _:=h;simp only[RoL]
 |x::xs,cs,o,k,hr=>by simp only[RoL]at hr ⊢;exact⟨uS x cs o hr.1,zLP xs cs _ k hr.2⟩
theorem zLQ:(xs:List T)-> ∀(cs:Array Value)(o:Nat),RoF St xs cs o->RoF St' xs cs o
 | [],_,_,_=>by have _:=h;simp only[RoF]
 |x::xs,cs,o,hr=>by simp only[RoF]at hr ⊢;exact⟨uS x cs o hr.1,zLQ xs cs _ hr.2⟩
end
end
section
variable {St St':Stb}{G:Gh}{w:World}{s:Nat} (h:∀b x,St b=jf x->St' b=jf x)
 include h
mutual
theorem zKv:(t:T)-> ∀(p:List Nat),R St G w s t p->R St' G w s t p
 |.ro t,_,hr=>by simp only[R]at hr ⊢;exact uS h t _ _ hr
 |.sl k xs,p,hr=>by
  simp only[R]at hr ⊢
  rcases hr with hr|⟨b,o0,cap,cs,e,h1,h2,h3,h4,h5,h6,h7,h8⟩
  ·exact .inl hr
  ·exact .inr ⟨b,o0,cap,cs,e,h1,h2,h3,h4,h5,h6,h7,zQl xs p 0 b o0 k h8⟩
 |.agg xs,p,hr|.tup xs,p,hr=>by simp only[R]at hr ⊢;exact zQm xs p 0 hr
 |.ptr t,p,hr=>by
  simp only[R]at hr ⊢
  obtain⟨b,cs,e,h1,h2,h3,h6,h4,h5⟩:=hr;exact⟨b,cs,e,h1,h2,h3,h6,h4,zKv t _ h5⟩
 |.any,_,hr|.lit _,_,hr|.same _ _,_,hr|.addr _ _,_,hr|.sub _ _ _ _ _,_,hr=>by first|(simp only[R];done)|simpa only[R]using hr
theorem zQl:(xs:List T)-> ∀(p:List Nat)(i b o k:Nat),RL St G w s xs p i b o k->RL St' G w s xs p i b o k
 | [],_,_,_,_,_,_=>by have _:=h;simp only[RL]
 |x::xs,p,i,b,o,k,hr=>by simp only[RL]at hr ⊢;exact⟨hr.1,zKv x _ hr.2.1,zQl xs p (i+1) b _ k hr.2.2⟩
theorem zQm:(xs:List T)-> ∀(p:List Nat)(i:Nat),RF St G w s xs p i->RF St' G w s xs p i
 | [],_,_,_=>by have _:=h;simp only[RF]
 |x::xs,p,i,hr=>by simp only[RF]at hr ⊢;exact⟨zKv x _ hr.1,zQm xs p (i+1) hr.2⟩
end
end
mutual
def strip:T->T
 |.lit v=>.lit v
 |.ro u=>if u.single then u else .any
 |.sl k xs=>.sl k (wU xs)
 |.agg xs=>.agg (wU xs)
 |.ptr t=>.ptr (strip t)
 |.any|.same _ _|.addr _ _|.sub _ _ _ _ _|.tup _=>.any
def wU:List T->List T
 | []=>[]
 |x::xs=>strip x::wU xs
end
theorem jU:(xs:List T)->(wU xs).length=xs.length
 | []=>rfl
 |x::xs=>by simp[wU,jU xs]
mutual
theorem zDI:(t:T)->(strip t).size=t.size
 |.agg xs=>by simp only[strip,T.size];exact zGc xs
 |.ro u=>by
  simp only[strip];split
  ·rename_i h;cases u<;>simp[T.single]at h<;>simp[T.size]
  ·simp[T.size]
 |.lit _|.sl _ _|.ptr _|.any|.same _ _|.addr _ _|.sub _ _ _ _ _|.tup _=>by simp[strip,T.size]
theorem zGc:(xs:List T)->T.sizes (wU xs)=T.sizes xs
 | []=>rfl
 |x::xs=>by simp only[wU,T.sizes,zDI x,zGc xs]
end
theorem sG(hu:u.single=jh){v:Value}{cs:Array Value}{o:Nat}(h:RoC St u #[v] 0)(hc:cs[o]? =jf v):RoC St u cs o:=by
 cases u<;>simp[T.single]at hu<;>simp only[RoC]at h ⊢ <;>simp at h<;>first
  |exact⟨v,hc,h⟩
  |(obtain⟨rfl,h2⟩:=h;exact⟨hc,h2⟩)
  |(obtain⟨f,vs,rfl,h2⟩:=h;exact⟨f,vs,hc,h2⟩)
  |(obtain⟨a,c,rfl,h2⟩:=h;exact⟨a,c,hc,by simpa using h2⟩)
  |(obtain⟨b,o',rfl,h2⟩:=h;obtain⟨cs',⟨e,f1,f2,h3⟩,h4⟩:=h2;exact⟨b,o',cs',e,(f1,f2),hc,h3,h4⟩)
section
variable {St Sc:Stb}{G:Gh}{w:World}{s:Nat} (gk:∀s p,(G.hd s p).oneCell'=jh) (ee:∀b x,St b=jf x->Sc b=jf x) (ef:∀b,(∃y,G.ow b=jf (s,y))->Sc b=w.heap[b]?)
 include gk ee ef
mutual
theorem frz:(t:T)-> ∀(p:List Nat)(b o:Nat)(cs:Array Value)(e:TypeId)(fr:Nat×Nat),w.heap[b]? =jf (.cells cs e fr)->Loc G w s t p b o->R St G w s t p->RoC Sc (strip t) cs o
 |.agg xs,p,b,o,cs,e,fr,hb,hl,hr=>by simp only[Loc,R,strip,RoC]at hl hr ⊢;exact yCP xs p 0 b o cs e fr hb hl.2 hr
 |.tup _,_,_,_,_,_,_,_,hl,_=>by have _:=ef;simp only[Loc]at hl
 |.any,p,b,o,cs,e,fr,hb,hl,hr|.same _ _,p,b,o,cs,e,fr,hb,hl,hr|.addr _ _,p,b,o,cs,e,fr,hb,hl,hr|.sub _ _ _ _ _,p,b,o,cs,e,fr,hb,hl,hr=>by have h1:=(vF rfl hl).2.2;simp only[yN,World.cell?,hb]at h1;simp only[strip,RoC];exact⟨_,by simpa using h1,gk s p⟩
 |.lit v,p,b,o,cs,e,fr,hb,hl,hr=>by
  have h1:=(vF rfl hl).2.2;simp only[yN,World.cell?,hb]at h1;simp only[strip,RoC,R]at hr ⊢
  exact⟨by rw[<-hr];simpa using h1,by rw[<-hr];exact gk s p⟩
 |.ro u,p,b,o,cs,e,fr,hb,hl,hr=>by
  have h1:=(vF rfl hl).2.2;simp only[yN,World.cell?,hb]at h1;simp only[strip,R]at hr ⊢
  split
  ·rename_i hu
   exact sG hu (uS ee u _ _ hr) (by simpa using h1)
  ·simp only[RoC];exact⟨_,by simpa using h1,gk s p⟩
 |.sl k xs,p,b,o,cs,e,fr,hb,hl,hr=>by have h1:=(vF rfl hl).2.2;simp only[yN,World.cell?,hb]at h1;exact sG rfl (zLR (.sl k xs) p rfl hr) (by simpa using h1)
 |.ptr t,p,b,o,cs,e,fr,hb,hl,hr=>by have h1:=(vF rfl hl).2.2;simp only[yN,World.cell?,hb]at h1;exact sG rfl (zLR (.ptr t) p rfl hr) (by simpa using h1)
theorem yCP:(xs:List T)-> ∀(p:List Nat)(j b o:Nat)(cs:Array Value)(e:TypeId)(fr:Nat×Nat),w.heap[b]? =jf (.cells cs e fr)->vQ G w s xs p j b o->RF St G w s xs p j->RoF Sc (wU xs) cs o
 | [],_,_,_,_,_,_,_,_,_,_=>by have _:=gk;have _:=ee;have _:=ef;simp only[wU,RoF]
 |x::xs,p,j,b,o,cs,e,fr,hb,hl,hr=>by
  simp only[vQ,RF,wU,RoF]at hl hr ⊢
  exact⟨frz x _ b o cs e fr hb hl.1 hr.1,by rw[zDI];exact yCP xs p (j+1) b _ cs e fr hb hl.2 hr.2⟩
theorem frzL:(xs:List T)-> ∀(p:List Nat)(i b o k:Nat)(cs:Array Value)(e:TypeId)(fr:Nat×Nat),w.heap[b]? =jf (.cells cs e fr)->RL St G w s xs p i b o k->RoL Sc (wU xs) cs o k
 | [],_,_,_,_,_,_,_,_,_,_=>by have _:=gk;have _:=ee;have _:=ef;simp only[wU,RoL]
 |x::xs,p,i,b,o,k,cs,e,fr,hb,hr=>by
  simp only[RL,wU,RoL]at hr ⊢
  exact⟨frz x _ b o cs e fr hb hr.1.1 hr.2.1,frzL xs p (i+1) b _ k cs e fr hb hr.2.2⟩
theorem zLR:(t:T)-> ∀(p:List Nat),t.single=jh->R St G w s t p->RoC Sc (strip t) #[G.hd s p] 0
 |.agg _,_,h,_|.tup _,_,h,_=>by simp[T.single]at h
 |.any,p,_,_|.same _ _,p,_,_|.addr _ _,p,_,_|.sub _ _ _ _ _,p,_,_=>by simp only[strip,RoC];exact⟨_,by simp,gk s p⟩
 |.lit v,p,_,hr=>by simp only[strip,RoC,R]at hr ⊢;exact⟨by simp[hr],by rw[<-hr];exact gk s p⟩
 |.ro u,p,_,hr=>by
  simp only[strip,R]at hr ⊢
  split
  ·exact uS ee u _ _ hr
  ·simp only[RoC];exact⟨_,by simp,gk s p⟩
 |.sl k xs,p,_,hr=>by
  simp only[strip,R,RoC]at hr ⊢
  rw[jU];rcases hr with⟨rfl,a,h1⟩|⟨b,o0,cap,cs,e,h1,h2,h3,h4,h5,h6,h7,h8⟩
  ·exact⟨a,0,by simp[h1],by simp,by simp[maxLen],fun h=>by simp[wU]at h⟩
  ·exact⟨jf ⟨b,o0,jg⟩,cap,by simp[h1],h3,h4,fun _=>⟨b,o0,cs,e,(0,0),rfl,by rw[ef b ⟨_,h6⟩];exact h2,frzL xs p 0 b o0 k cs e (0,0) h2 h8⟩⟩
 |.ptr t,p,_,hr=>by
  simp only[strip,R,RoC]at hr ⊢
  obtain⟨b,cs,e,h1,h2,h3,h6,h4,h5⟩:=hr;exact⟨b,0,cs,e,(0,0),by simp[h1],by rw[ef b ⟨_,h6⟩];exact h2,frz t _ b 0 cs e (0,0) h2 h4 h5⟩
end
end
mutual
def clo(E:Env):T->T
 |.agg ts=>.agg (zBe E ts)
 |.lit v=>.lit v
 |.ro u=>.ro u
 |.same r q=>match qK E 4 r q with
  |some (_,_,.ro u)=>.ro u
  |some (_,_,.lit v)=>.lit v
  |some (_,_,t)=>if t.single then .ro (strip t)else .any
  |none=>.any
 |.sub r q k lo hi=>match qK E 4 r q with
  |some (_,_,.sl k' xs)=>if k=k'/\lo<=hi/\hi<=xs.length then .ro (.sl k (((wU xs).drop lo).take (hi-lo)))else .any
  |_=>.any
 |.sl k xs=>.ro (strip (.sl k xs))
 |.ptr t=>.ro (strip (.ptr t))
 |.any|.addr _ _|.tup _=>.any
def zBe(E:Env):List T->List T
 | []=>[]
 |x::xs=>clo E x::zBe E xs
end
mutual
def sU(E:Env)(rs:List Nat)(s:Nat):T->Bool
 |.agg ts=>zAn E rs s ts
 |.same r q|.sub r q _ _ _=>match qK E 4 r q with
  |some (r',_,_)=> !rs.contains r'
  |none=>jh
 |.sl _ _|.ptr _=> !rs.contains s
 |.lit _|.ro _|.any|.addr _ _=>jh
 |.tup _=>ji
def zAn(E:Env)(rs:List Nat)(s:Nat):List T->Bool
 | []=>jh
 |x::xs=>sU E rs s x&&zAn E rs s xs
end
theorem zXS{v:Value}{lo hi:Nat}(h:RoC St (.sl k xs) #[v] 0)(h1:lo<=hi)(h2:hi<=xs.length):RoC St (.sl k ((xs.drop lo).take (hi-lo))) #[zAU v k lo hi] 0:=by
 simp only[RoC]at h ⊢
 obtain⟨a',c,g4,g5,g6,g7⟩:=h;have hv:v=.slice a' xs.length c:=by grind
 subst hv;have gf:((xs.drop lo).take (hi-lo)).length=hi-lo:=by simp;omega
 refine⟨if c=lo then a' else a'.map (·.add (lo*k)),c-lo,by grind[zAU],by omega,by omega,?_⟩;intro gc;have eJ:xs≠[]:=by grind
 obtain⟨b,o',cs',e',fr,rfl,h3,h4⟩:=g7 eJ;have gy:c≠lo:=by grind
 grind[uO,zGV,zGU]
section
variable {Γ:Ctx}{E:Env}{G Gc:Gh}{a:Act}{w:World}{Sc:Stb}{rs:List Nat}{s i:Nat} (g9:Rep Γ E G a.tmps w) (ee:∀b x,Γ.St b=jf x->Sc b=jf x) (ef:∀r,r∉rs-> ∀b,(∃y,G.ow b=jf (r,y))->Sc b=w.heap[b]?) (gE:∀z,Gc.hd i z=G.hd s z)
 include g9 ee ef gE
mutual
theorem zZG:(t:T)-> ∀(p:List Nat),sU E rs s t=jh->R Γ.St G w s t p->R Sc Gc w i (clo E t) p
 |.agg ts,p,h,hr=>by simp only[sU,clo,R]at h hr ⊢;exact zTH ts p 0 h hr
 |.tup _,_,h,_=>by grind[sU]
 |.lit v,p,_,hr=>by simp only[clo,R]at hr ⊢;grind
 |.ro u,p,_,hr=>by simp only[clo,R]at hr ⊢;grind[uS]
 |.any,_,_,_|.addr _ _,_,_,_=>by simp only[clo,R]
 |.sl k xs,p,h,hr=>by
  simp only[sU,Gv,H9,decide_eq_false_iff_not]at h;have:=zLR (fun s p=>g9.mem.one s p) ee (ef s h) (.sl k xs) p rfl hr;simp only[clo,R]
  grind
 |.ptr t,p,h,hr=>by
  simp only[sU,Gv,H9,decide_eq_false_iff_not]at h;have:=zLR (fun s p=>g9.mem.one s p) ee (ef s h) (.ptr t) p rfl hr;simp only[clo,R]
  grind
 |.same r q,p,h,hr=>by
  simp only[sU,clo,R]at h hr ⊢
  cases hf:qK E 4 r q with
  |none=>simp only[R]
  |some x=>
   obtain⟨r',q',t⟩:=x;simp only[hf,Gv,H9,decide_eq_false_iff_not]at h;obtain⟨h1,h2,_⟩:=zCK g9 4 r q r' q' t hf;have h3:Gc.hd i p=G.hd r' q':=by grind
   by_cases hs:t.single=jh
   ·have h4:=zLR (fun s p=>g9.mem.one s p) ee (ef r' h) t q' hs h1
    cases t with
    |ro u=>simp only[R]at h1 ⊢;grind[uS]
    |lit v=>simp only[R]at h1 ⊢;grind
    |agg _=>grind[T.single]
    |tup _=>grind[T.single]
    |_=>simp only[hs,if_true,R];grind
   ·cases t<;>simp[T.single]at hs<;>simp[T.single,R]
 |.sub r q k lo hi,p,h,hr=>by
  simp only[sU,clo,R]at h hr ⊢
  cases hf:qK E 4 r q with
  |none=>simp only[R]
  |some x=>
   obtain⟨r',q',t⟩:=x;simp only[hf,Gv,H9,decide_eq_false_iff_not]at h;obtain⟨h1,h2,_⟩:=zCK g9 4 r q r' q' t hf;cases t with
   |sl k' xs=>
    simp only[];split
    ·rename_i hc
     obtain⟨rfl,pQ,po⟩:=hc;have h4:=zLR (fun s p=>g9.mem.one s p) ee (ef r' h) (.sl k xs) q' rfl h1;simp only[strip]at h4;simp only[R]
     grind[zXS,jU]
    ·simp only[R]
   |_=>simp only[R]
theorem zTH:(ts:List T)-> ∀(p:List Nat)(j:Nat),zAn E rs s ts=jh->RF Γ.St G w s ts p j->RF Sc Gc w i (zBe E ts) p j
 | [],_,_,_,_=>by have _:=g9;have _:=ee;have _:=ef;have _:=gE;simp only[zBe,RF]
 |x::xs,p,j,h,hr=>by
  simp only[zAn,J4,zBe,RF]at h hr ⊢
  exact⟨zZG x _ h.1 hr.1,zTH xs p (j+1) h.2 hr.2⟩
end
end
section
variable {E:Env}{G Gc:Gh}{rs:List Nat}{s i:Nat}
theorem zHj(t:T)(h:t.single=jh):(clo E t).single=jh:=by cases t<;>simp[T.single]at h<;>simp only[clo]<;>first|rfl|(split<;>first|rfl|(split<;>rfl))
mutual
theorem zTI(gE:∀z,Gc.hd i z=G.hd s z):(t:T)-> ∀(p:List Nat),sU E rs s t=jh->vals Gc i (clo E t) p=vals G s t p
 |.agg ts,p,h=>by simp only[sU,clo,vals]at h ⊢;exact zFs gE ts p 0 h
 |.tup _,_,h=>by grind[sU]
 |.lit _,p,_|.ro _,p,_|.any,p,_|.addr _ _,p,_|.sl _ _,p,_|.ptr _,p,_|.same _ _,p,_|.sub _ _ _ _ _,p,_=>by
  have h1:∀u:T,u.single=jh->vals Gc i u p=[G.hd s p]:=fun u hu=>by cases u<;>simp[T.single]at hu<;>simp[vals,gE]
  rw[h1 _ (zHj _ rfl)];simp[vals]
theorem zFs(gE:∀z,Gc.hd i z=G.hd s z):(ts:List T)-> ∀(p:List Nat)(j:Nat),zAn E rs s ts=jh->yE Gc i (zBe E ts) p j=yE G s ts p j
 | [],_,_,_=>by rfl
 |x::xs,p,j,h=>by simp only[zAn,J4]at h;simp only[zBe,yE];rw[zTI gE x _ h.1,zFs gE xs p _ h.2]
end
theorem zKw(gE:∀z,Gc.hd i z=G.hd s z)(t:T)(h:sU E rs s t=jh):mkV Gc i (clo E t) []=mkV G s t []:=by
 cases t with
 |agg ts=>grind[sU,clo,mkV,zFs]
 |tup _=>grind[sU]
 |_=>rw[yV (zHj _ rfl),yV rfl,gE]
end
end Go.Ab
