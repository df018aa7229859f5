/- x -/
import Derived.Orders
import Derived.Laws.AppendOwn
import Derived.Laws.MakeOwn
import Derived.Great.BuildSlice
import Derived.Laws.Tables
open List renaming replicate→J0,length_append→J5,length_cons→J8,getElem?_append_right→Ja,length_replicate→Jc,mem_cons→Je,append_assoc→Jg,append_nil→Jh,mem_append→Ji,eq_nil_of_length_eq_zero→Jj,getElem?_eq_some_iff→Jl,getElem?_map→Jn,mem_map→Jq,map_cons→Jr,nil_append→Js,replicate_succ→Jw,cons_append→K0,getElem?_append_left→K1,reverse_reverse→K6,all_eq_true→Ka,length_nil→Kh,getElem?_append→Km,drop_eq_getElem_cons→Ku,length_take→Kv,getElem?_drop→Kw,ext_getElem?→Kx,mem_of_getElem?→Ky,nodup_cons→L4,set_cons_zero→L7,set_cons_succ→L8,take_succ_cons→La,mem_range→Ll,flatMap_cons→Lm,contains_eq_mem→Lx,reverse_cons→Ly,length_set→H5,reverse_nil→Hk,not_mem_nil→Gm,foldl_cons→Gz,getElem?_take_of_lt→Ua,cons→Ul,map_take→Qa,reverse_append→Qx,take_append_drop→Ja7,mem_of_mem_take→Jah,map_nil→Jai,isEmpty_iff→Jaj,flatMap_append→Jap,size_toArray→Jay,take_append→Jb1,map_toArray→Jb2,getElem?_cons_succ→Jb8
open Bool renaming and_eq_true->J4,false_eq_true->Hg,not_eq_true'->Gj,false_and->Jav
open Int renaming toNat_natCast->J7
open Nat renaming le_refl->J9,zero_add->Jd,lt_or_ge->Jk,succ_mul->Lo,mul_le_mul_right->Lp,add_assoc->H4,add_mul->Hj,mul_le_mul->Gt,le_trans->U1,min_eq_left->Up,add_zero->Jae,lt_of_lt_of_le->Jc1
open Array renaming getElem?_setIfInBounds->Jb,getElem?_toList->Kc,length_toList->Ki,getD_eq_getD_getElem?->Kk,getElem?_eq_some_iff->L2,range->Jb4,ext'->Jbb
open Option renaming isSome_none->Ui,map_none->Jaw
open Prod renaming mk->Jak
open Option renaming some->Wu,none->Wv
open Bool renaming true->Ww,false->Wx
theorem Wy{p:Prop}[h:Decidable p](a:¬p):decide p=false:=decide_eq_false a
theorem Wz{p:Prop}[h:Decidable p](a:p:=by omega):decide p=true:=decide_eq_true a
namespace Go.Ab
variable {i k r n d:Nat}{x:Operand}{f q:List Nat}{w':World}{a:Act}{v z xv:Value}{tmps:Array Value}{ti:TypeInfo}{e t2 ty:TypeId}
theorem Q0{p:Prop}(h:p:=by repeat (first|exact trivial|refine⟨rfl,?_⟩)):p:=h
theorem Q2{p:Prop}(h:p:=by intro E' h;exact zSY (by first|exact uB (hE h rfl) rfl|exact jR (hE h rfl) (hE h rfl) (by first|rfl|exact zX (by assumption) rfl|exact zX (by assumption) (zX (by assumption) rfl)|exact wD rfl (zX (by assumption) rfl)|exact wC (zX (by assumption) rfl)|exact wC (wD rfl (zX (by assumption) rfl))|exact wC (wD rfl (zX (by assumption) (zX (by assumption) rfl)))) rfl) (hO h rfl) (by assumption) rfl):p:=h
theorem Q3{p:Prop}(h:p:=by intro E' h;exact zN2 (by first|exact uB (hE h rfl) rfl|exact jR (hE h rfl) (hE h rfl) (by first|rfl|exact zX (by assumption) rfl|exact zX (by assumption) (zX (by assumption) rfl)|exact wD rfl (zX (by assumption) rfl)|exact wC (zX (by assumption) rfl)|exact wC (wD rfl (zX (by assumption) rfl))|exact wC (wD rfl (zX (by assumption) (zX (by assumption) rfl)))) rfl) rfl):p:=h
theorem Q6{p:Prop}(h:p:=by first|exact cq|fail):p:=h
theorem Q7{p:Prop}(h:p:=by first|exact gdN|exact gdS rfl rfl|fail):p:=h
theorem Q8{p:Prop}(h:p:=by repeat (first|exact trivial|refine⟨by first|exact Top.of_clean _ (Enc.clean _)|simp[Top,vV],?_⟩)):p:=h
open Go
inductive T where
 |any
 |lit (v:Value)
 |ro (t:T)
 |same (r:Nat) (p:List Nat)
 |addr (r:Nat) (p:List Nat)
 |sub (r:Nat) (p:List Nat) (k lo hi:Nat)
 |sl (k:Nat) (xs:List T)
 |agg (xs:List T)
 |ptr (t:T)
 |tup (xs:List T)
 |mp (ks:List Value) (xs:List T)
 deriving Inhabited
variable {xs:List T}{u:T}
abbrev Stb:=Nat->Option Obj
variable {St:Stb}
mutual
def T.size:T->Nat
 |.agg xs=>T.sizes xs
 |_=>1
def T.sizes:List T->Nat
 | []=>0
 |x::xs=>x.size+T.sizes xs
end
mutual
def RoC(St:Stb):T->Array Value->Nat->Prop
 |.any,cs,o=> ∃v,cs[o]? =Wu v/\v.oneCell'=Ww
 |.lit v,cs,o=>cs[o]? =Wu v/\v.oneCell'=Ww
 |.ro u,cs,o=> ∃f vs,cs[o]? =Wu (.func (.func f) #[] vs)/\vs.size+1=u.size/\RoC St u (#[.func (.func f) #[] #[]]++vs) 0
 |.sl k xs,cs,o=> ∃a c,cs[o]? =Wu (.slice a xs.length c)/\xs.length<=c/\c<=maxLen/\
   (xs≠[]-> ∃b o' cs' e fr,a=Wu ⟨b,o',Wv⟩/\St b=Wu (.cells cs' e fr)/\RoL St xs cs' o' k)
 |.agg xs,cs,o=>RoF St xs cs o
 |.ptr t,cs,o=> ∃b o' cs' e fr,cs[o]? =Wu (.pointer (Wu ⟨b,o',Wv⟩))/\St b=Wu (.cells cs' e fr)/\RoC St t cs' o'
 |.same _ _,_,_=>False
 |.addr _ _,_,_=>False
 |.sub _ _ _ _ _,_,_=>False
 |.tup _,_,_=>False
 |.mp _ _,_,_=>False
def RoL(St:Stb):List T->Array Value->Nat->Nat->Prop
 | [],_,_,_=>True
 |x::xs,cs,o,k=>RoC St x cs o/\RoL St xs cs (o+k) k
def RoF(St:Stb):List T->Array Value->Nat->Prop
 | [],_,_=>True
 |x::xs,cs,o=>RoC St x cs o/\RoF St xs cs (o+x.size)
end
def RoM(St:Stb):List Value->List T->List MapEntry->Prop
 | [],[],[]=>True
 |k::ks,x::xs,e::es=>e.key=k/\RoC St x #[e.val] 0/\RoM St ks xs es
 |_,_,_=>False
structure Gh where
 hd:Nat->List Nat->Value
 ad:Nat->List Nat->Addr
 lb:Nat->Nat->Option (Bool×Nat×List Nat)
 ow:Nat->Option (Nat×List Nat)
variable {G G':Gh}
def yQ(w:World)(b o:Nat):Option Value:=w.cell? ⟨b,o,Wv⟩
mutual
def Loc(G:Gh)(w:World)(s:Nat):T->List Nat->Nat->Nat->Prop
 |.agg xs,p,b,o=>G.ad s p=⟨b,o,Wv⟩/\vK G w s xs p 0 b o
 |.tup _,_,_,_=>False
 |.any,p,b,o|.lit _,p,b,o|.ro _,p,b,o|.same _ _,p,b,o|.addr _ _,p,b,o|.sub _ _ _ _ _,p,b,o|.sl _ _,p,b,o|.ptr _,p,b,o|.mp _ _,p,b,o=>
  G.ad s p=⟨b,o,Wv⟩/\G.lb b o=Wu (Wx,s,p)/\yQ w b o=Wu (G.hd s p)
def vK(G:Gh)(w:World)(s:Nat):List T->List Nat->Nat->Nat->Nat->Prop
 | [],_,_,_,_=>True
 |x::xs,p,j,b,o=>Loc G w s x (j::p) b o/\vK G w s xs p (j+1) b (o+x.size)
end
def zBs(v:Value)(k lo hi:Nat):Value:=
 match v with
 |.slice a _ c=>.slice (if c=lo then a else a.map (·.add (lo*k))) (hi-lo) (c-lo)
 |v=>v
mutual
def R(St:Stb)(G:Gh)(w:World)(s:Nat):T->List Nat->Prop
 |.any,_=>True
 |.lit v,p=>G.hd s p=v
 |.ro t,p=>RoC St t #[G.hd s p] 0
 |.same r q,p=>G.hd s p=G.hd r q
 |.addr r q,p=>G.hd s p=.pointer (Wu (G.ad r q))
 |.sub r q k lo hi,p=>G.hd s p=zBs (G.hd r q) k lo hi
 |.sl k xs,p=>(xs=[]/\ ∃a,G.hd s p=.slice a 0 0)\/ ∃b o0 cap cs e,G.hd s p=.slice (Wu ⟨b,o0,Wv⟩) xs.length cap/\
   w.heap[b]? =Wu (.cells cs e (0,0))/\xs.length<=cap/\cap<=maxLen/\o0+cap*k<=cs.size/\G.ow b=Wu (s,p)/\
   (∀o,o0+xs.length*k<=o->o<o0+cap*k->G.lb b o=Wu (Ww,s,p))/\RL St G w s xs p 0 b o0 k
 |.agg xs,p=>RF St G w s xs p 0
 |.ptr t,p=> ∃b cs e,G.hd s p=.pointer (Wu ⟨b,0,Wv⟩)/\w.heap[b]? =Wu (.cells cs e (0,0))/\cs.size=t.size/\G.ow b=Wu (s,p)/\
   Loc G w s t (0::p) b 0/\R St G w s t (0::p)
 |.tup xs,p=>RF St G w s xs p 0
 |.mp ks xs,p=> ∃b ms c,G.hd s p=.map (Wu b)/\w.heap[b]? =Wu (.map ms c)/\G.ow b=Wu (s,p)/\RoM St ks xs ms.toList
def RL(St:Stb)(G:Gh)(w:World)(s:Nat):List T->List Nat->Nat->Nat->Nat->Nat->Prop
 | [],_,_,_,_,_=>True
 |x::xs,p,i,b,o,k=>(Loc G w s x (i::p) b o/\x.size=k)/\R St G w s x (i::p)/\RL St G w s xs p (i+1) b (o+k) k
def RF(St:Stb)(G:Gh)(w:World)(s:Nat):List T->List Nat->Nat->Prop
 | [],_,_=>True
 |x::xs,p,j=>R St G w s x (j::p)/\RF St G w s xs p (j+1)
end
mutual
def xF(φ:Nat->List Nat->Prop):T->Prop
 |.same r p|.addr r p|.sub r p _ _ _=>φ r p
 |.sl _ xs|.agg xs|.tup xs=>xW φ xs
 |.ptr t=>xF φ t
 |.any|.lit _|.ro _|.mp _ _=>True
def xW(φ:Nat->List Nat->Prop):List T->Prop
 | []=>True
 |x::xs=>xF φ x/\xW φ xs
end
mutual
theorem xF.mono{φ ψ:Nat->List Nat->Prop}(h:∀r p,φ r p->ψ r p):(t:T)->xF φ t->xF ψ t
 |.same _ _,ht|.addr _ _,ht|.sub _ _ _ _ _,ht=>h _ _ ht
 |.sl _ xs,ht|.agg xs,ht|.tup xs,ht=>by simp only[xF]at ht ⊢;exact xW.mono h xs ht
 |.ptr t,ht=>by simp only[xF]at ht ⊢;exact xF.mono h t ht
 |.any,_|.lit _,_|.ro _,_|.mp _ _,_=>by simp[xF]
theorem xW.mono{φ ψ:Nat->List Nat->Prop}(h:∀r p,φ r p->ψ r p):(xs:List T)->xW φ xs->xW ψ xs
 | [],_=>trivial
 |x::xs,hx=>⟨xF.mono h x hx.1,xW.mono h xs hx.2⟩
end
mutual
theorem xF.triv{φ:Nat->List Nat->Prop}(h:∀r p,φ r p):(t:T)->xF φ t
 |.same _ _|.addr _ _|.sub _ _ _ _ _=>by simp only[xF];exact h _ _
 |.sl _ xs|.agg xs|.tup xs=>by simp only[xF];exact xW.triv h xs
 |.ptr t=>by simp only[xF];exact xF.triv h t
 |.any|.lit _|.ro _|.mp _ _=>by simp only[xF]
theorem xW.triv{φ:Nat->List Nat->Prop}(h:∀r p,φ r p):(xs:List T)->xW φ xs
 | []=>by simp only[xW]
 |x::xs=>by simp only[xW];exact⟨xF.triv h x,xW.triv h xs⟩
end
abbrev zZ(t:T):Prop:=xF (fun _ _=>False) t
abbrev xG(xs:List T):Prop:=xW (fun _ _=>False) xs
def Blk(w w':World):Prop:=∀(b:Nat) cs e,w.heap[b]? =Wu (.cells cs e (0,0))-> ∃cs',w'.heap[b]? =Wu (.cells cs' e (0,0))/\cs'.size=cs.size
structure MovesE (G:Gh) (w:World) (G':Gh) (w':World) (s:Nat) (p:List Nat) (s':Nat) (p':List Nat):Prop where
 hd:∀z,G'.hd s' (z++p')=G.hd s (z++p)
 ad:∀z,z≠[]->G'.ad s' (z++p')=G.ad s (z++p)
 lb:∀b o f z,z≠[]->(∃y,G.ow b=Wu (s,y))->G.lb b o=Wu (f,s,z++p)->G'.lb b o=Wu (f,s',z++p')/\yQ w' b o=yQ w b o
 ow:∀b z,z≠[]->G.ow b=Wu (s,z++p)->G'.ow b=Wu (s',z++p')
 blk:Blk w w'
 mp:∀b z ms c,G.ow b=Wu (s,z++p)->w.heap[b]? =Wu (.map ms c)->w'.heap[b]? =Wu (.map ms c)
structure zGQ (G:Gh) (w:World) (G':Gh) (w':World) (s:Nat) (p:List Nat) (s':Nat) (p':List Nat):Prop extends MovesE G w G' w' s p s' p' where
 sp:∀b o,(∃y,G.ow b=Wu (s,y))->G.lb b o=Wu (Ww,s,p)->G'.lb b o=Wu (Ww,s',p')/\yQ w' b o=yQ w b o
 ow0:∀b,G.ow b=Wu (s,p)->G'.ow b=Wu (s',p')
def zAk(G G':Gh)(r:Nat)(p:List Nat):Prop:=G'.hd r p=G.hd r p/\G'.ad r p=G.ad r p
section
variable {St:Stb}{G:Gh}{w:World}{G':Gh}{w':World}{s:Nat}{p:List Nat}{s':Nat}{p':List Nat}
mutual
theorem zEg(hm:MovesE G w G' w' s p s' p'):(t:T)-> ∀(z:List Nat)(b o:Nat),z≠[]->(∃y,G.ow b=Wu (s,y))->Loc G w s t (z++p) b o->Loc G' w' s' t (z++p') b o
 |.agg xs,z,b,o,hz,gZ,h=>by
  simp only[Loc]at h ⊢
  exact⟨(hm.ad z hz).trans h.1,zIR hm xs z 0 b o gZ h.2⟩
 |.any,z,b,o,hz,gZ,h|.lit _,z,b,o,hz,gZ,h|.ro _,z,b,o,hz,gZ,h|.same _ _,z,b,o,hz,gZ,h|.addr _ _,z,b,o,hz,gZ,h|.sub _ _ _ _ _,z,b,o,hz,gZ,h|.sl _ _,z,b,o,hz,gZ,h|.ptr _,z,b,o,hz,gZ,h|.mp _ _,z,b,o,hz,gZ,h=>by
  simp only[Loc]at h ⊢
  obtain⟨h1,h2,h3⟩:=h;have hl:=hm.lb b o Wx z hz gZ h2;exact⟨(hm.ad z hz).trans h1,hl.1,by rw[hl.2,h3,hm.hd]⟩
 |.tup _,_,_,_,_,_,h=>by simp only[Loc]at h
theorem zIR(hm:MovesE G w G' w' s p s' p'):(xs:List T)-> ∀(z:List Nat)(j b o:Nat),(∃y,G.ow b=Wu (s,y))->vK G w s xs (z++p) j b o->vK G' w' s' xs (z++p') j b o
 | [],_,_,_,_,_,_=>by simp only[vK]
 |x::xs,z,j,b,o,gZ,h=>by
  simp only[vK]at h ⊢
  exact⟨zEg hm x (j::z) b o (by simp) gZ h.1,zIR hm xs z (j+1) b _ gZ h.2⟩
end
mutual
theorem zEh(hm:MovesE G w G' w' s p s' p'):(t:T)-> ∀(z:List Nat),z≠[]->xF (zAk G G') t->R St G w s t (z++p)->R St G' w' s' t (z++p')
 |.any,_,_,_,_=>by simp only[R]
 |.lit _,z,_,_,h=>by simp only[R]at h ⊢;rw[hm.hd];exact h
 |.ro _,z,_,_,h=>by simp only[R]at h ⊢;rw[hm.hd];exact h
 |.same r q,z,_,hk,h=>by simp only[R]at h ⊢;rw[hm.hd,hk.1];exact h
 |.addr r q,z,_,hk,h=>by simp only[R]at h ⊢;rw[hm.hd,hk.2];exact h
 |.sub r q k lo hi,z,_,hk,h=>by simp only[R]at h ⊢;rw[hm.hd,hk.1];exact h
 |.agg xs,z,_,hk,h=>by simp only[R,xF]at h hk ⊢;exact zEi hm xs z 0 hk h
 |.tup xs,z,_,hk,h=>by simp only[R,xF]at h hk ⊢;exact zEi hm xs z 0 hk h
 |.sl k xs,z,hz,hk,h=>by
  simp only[R,xF]at h hk ⊢
  rw[hm.hd];rcases h with h|⟨b,o0,cap,cs,e,h1,h2,h3,h4,h5,h6,h7,h8⟩
  ·exact .inl h
  ·obtain⟨cs',fP,gv⟩:=hm.blk b cs e h2
   exact .inr ⟨b,o0,cap,cs',e,h1,fP,h3,h4,by omega,hm.ow b z hz h6,fun o ho cC=>(hm.lb b o Ww z hz ⟨_,h6⟩ (h7 o ho (by omega))).1,zJS hm xs z 0 b o0 k ⟨_,h6⟩ hk h8⟩
 |.ptr t,z,hz,hk,h=>by
  simp only[R,xF]at h hk ⊢
  rw[hm.hd];obtain⟨b,cs,e,h1,h2,h3,h6,h4,h5⟩:=h;obtain⟨cs',fP,gv⟩:=hm.blk b cs e h2;exact⟨b,cs',e,h1,fP,by omega,hm.ow b z hz h6,zEg hm t (0::z) b 0 (by simp) ⟨_,h6⟩ h4,zEh hm t (0::z) (by simp) hk h5⟩
 |.mp ks xs,z,hz,_,h=>by
  simp only[R]at h ⊢
  rw[hm.hd];obtain⟨b,ms,c,h1,h2,h3,h4⟩:=h;exact⟨b,ms,c,h1,hm.mp b z ms c h3 h2,hm.ow b z hz h3,h4⟩
theorem zJS(hm:MovesE G w G' w' s p s' p'):(xs:List T)-> ∀(z:List Nat)(i b o k:Nat),(∃y,G.ow b=Wu (s,y))->xW (zAk G G') xs->RL St G w s xs (z++p) i b o k->RL St G' w' s' xs (z++p') i b o k
 | [],_,_,_,_,_,_,_,_=>by simp only[RL]
 |x::xs,z,i,b,o,k,gZ,hk,h=>by
  simp only[RL,xW]at h hk ⊢
  exact⟨⟨zEg hm x (i::z) b o (by simp) gZ h.1.1,h.1.2⟩,zEh hm x (i::z) (by simp) hk.1 h.2.1,zJS hm xs z (i+1) b _ k gZ hk.2 h.2.2⟩
theorem zEi(hm:MovesE G w G' w' s p s' p'):(xs:List T)-> ∀(z:List Nat)(j:Nat),xW (zAk G G') xs->RF St G w s xs (z++p) j->RF St G' w' s' xs (z++p') j
 | [],_,_,_,_=>by simp only[RF]
 |x::xs,z,j,hk,h=>by
  simp only[RF,xW]at h hk ⊢
  exact⟨zEh hm x (j::z) (by simp) hk.1 h.1,zEi hm xs z (j+1) hk.2 h.2⟩
end
theorem kL(hm:zGQ G w G' w' s p s' p')(t:T)(hk:xF (zAk G G') t)(h:R St G w s t p):R St G' w' s' t p':=by
 have hd0:G'.hd s' p'=G.hd s p:=by simpa using hm.hd []
 cases t with
 |any=>simp only[R]
 |lit _=>simp only[R]at h ⊢;rw[hd0];exact h
 |ro _=>simp only[R]at h ⊢;rw[hd0];exact h
 |same r q=>simp only[R]at h ⊢;rw[hd0,hk.1];exact h
 |addr r q=>simp only[R]at h ⊢;rw[hd0,hk.2];exact h
 |sub r q k lo hi=>simp only[R]at h ⊢;rw[hd0,hk.1];exact h
 |agg xs=>simp only[R,xF]at h hk ⊢;simpa using zEi hm.toMovesE xs [] 0 hk (by simpa using h)
 |tup xs=>simp only[R,xF]at h hk ⊢;simpa using zEi hm.toMovesE xs [] 0 hk (by simpa using h)
 |sl k xs=>
  simp only[R,xF]at h hk ⊢
  rw[hd0];rcases h with h|⟨b,o0,cap,cs,e,h1,h2,h3,h4,h5,h6,h7,h8⟩
  ·exact .inl h
  ·obtain⟨cs',fP,gv⟩:=hm.blk b cs e h2
   exact .inr ⟨b,o0,cap,cs',e,h1,fP,h3,h4,by omega,hm.ow0 b h6,fun o ho cC=>(hm.sp b o ⟨_,h6⟩ (h7 o ho (by omega))).1,by simpa using zJS hm.toMovesE xs [] 0 b o0 k ⟨_,h6⟩ hk (by simpa using h8)⟩
 |ptr t=>
  simp only[R,xF]at h hk ⊢
  rw[hd0];obtain⟨b,cs,e,h1,h2,h3,h6,h4,h5⟩:=h;obtain⟨cs',fP,gv⟩:=hm.blk b cs e h2;exact⟨b,cs',e,h1,fP,by omega,hm.ow0 b h6,zEg hm.toMovesE t [0] b 0 (by simp) ⟨_,h6⟩ h4,zEh hm.toMovesE t [0] (by simp) hk h5⟩
 |mp ks xs=>
  simp only[R]at h ⊢
  rw[hd0];obtain⟨b,ms,c,h1,h2,h3,h4⟩:=h;exact⟨b,ms,c,h1,hm.mp b [] ms c (by simpa using h3) h2,hm.ow0 b h3,h4⟩
theorem zSh(hm:zGQ G w G' w' s p s' p')(t:T)(z:List Nat)(hk:xF (zAk G G') t)(h:R St G w s t (z++p)):R St G' w' s' t (z++p'):=by
 cases z with
 |nil=>exact kL hm t hk h
 |cons i z=>exact zEh hm.toMovesE t (i::z) (by simp) hk h
end
def T.get:T->List Nat->Option T
 |t,[]=>Wu t
 |.sl _ xs,i::f|.agg xs,i::f|.tup xs,i::f=>match xs[i]? with
  |some x=>x.get f
  |none=>Wv
 |.ptr t,i::f=>if i=0 then t.get f else Wv
 |.any,_::_|.lit _,_::_|.ro _,_::_|.same _ _,_::_|.addr _ _,_::_|.sub _ _ _ _ _,_::_|.mp _ _,_::_=>Wv
termination_by structural _ f=>f
def T.set:T->List Nat->T->T
 |_,[],u=>u
 |.sl k xs,i::f,u=>match xs[i]? with
  |some x=>.sl k (xs.set i (x.set f u))
  |none=>.sl k xs
 |.agg xs,i::f,u=>match xs[i]? with
  |some x=>.agg (xs.set i (x.set f u))
  |none=>.agg xs
 |.tup xs,i::f,u=>match xs[i]? with
  |some x=>.tup (xs.set i (x.set f u))
  |none=>.tup xs
 |.ptr t,i::f,u=>if i=0 then .ptr (t.set f u)else .ptr t
 |.any,_::_,_=>.any
 |.lit v,_::_,_=>.lit v
 |.ro t,_::_,_=>.ro t
 |.same r q,_::_,_=>.same r q
 |.addr r q,_::_,_=>.addr r q
 |.sub r q k lo hi,_::_,_=>.sub r q k lo hi
 |.mp ks xs,_::_,_=>.mp ks xs
termination_by structural _ f _=>f
def T.locd:T->List Nat->Bool
 |_,[]=>Wx
 |.sl _ _,_::_|.ptr _,_::_=>Ww
 |.agg xs,i::f|.tup xs,i::f=>match xs[i]? with
  |some x=>x.locd f
  |none=>Wx
 |.any,_::_|.lit _,_::_|.ro _,_::_|.same _ _,_::_|.addr _ _,_::_|.sub _ _ _ _ _,_::_|.mp _ _,_::_=>Wx
termination_by structural _ f=>f
abbrev rp(f p:List Nat):List Nat:=f.reverse++p
theorem zAT(i:Nat)(f p:List Nat):rp (i::f) p=rp f (i::p):=by simp[rp]
section
variable {St:Stb}{G:Gh}{w:World}{s:Nat}
theorem sY:(xs:List T)-> ∀(p:List Nat)(i0 b o k i:Nat)(x:T),RL St G w s xs p i0 b o k->xs[i]? =Wu x->
  Loc G w s x ((i0+i)::p) b (o+i*k)/\x.size=k/\R St G w s x ((i0+i)::p)
 | [],_,_,_,_,_,_,_,_,h=>by simp at h
 |y::ys,p,i0,b,o,k,i,x,hr,h=>by
  simp only[RL]at hr;cases i with
  |zero=>
   simp at h;subst h;simpa using⟨hr.1.1,hr.1.2,hr.2.1⟩
  |succ i=>
   have:=sY ys p (i0+1) b (o+k) k i x hr.2.2 (by simpa using h);rw[show i0+(i+1)=i0+1+i from by omega,show o+(i+1)*k=o+k+i*k from by rw[Lo];omega];exact this
theorem zBk:(xs:List T)-> ∀(p:List Nat)(j i:Nat)(x:T),RF St G w s xs p j->xs[i]? =Wu x->R St G w s x ((j+i)::p)
 | [],_,_,_,_,_,h=>by simp at h
 |y::ys,p,j,i,x,hr,h=>by
  simp only[RF]at hr;cases i with
  |zero=>simp at h;subst h;simpa using hr.1
  |succ i=>
   have:=zBk ys p (j+1) i x hr.2 (by simpa using h)
   rwa [show j+(i+1)=j+1+i from by omega]
theorem zLi:(xs:List T)-> ∀(p:List Nat)(j b o i:Nat)(x:T),vK G w s xs p j b o->xs[i]? =Wu x->
  ∃o',Loc G w s x ((j+i)::p) b o'/\o<=o'/\o'+x.size<=o+T.sizes xs
 | [],_,_,_,_,_,_,_,h=>by simp at h
 |y::ys,p,j,b,o,i,x,hr,h=>by
  simp only[vK]at hr;cases i with
  |zero=>simp at h;subst h;exact⟨o,by simpa using hr.1,by omega,by simp[T.sizes]⟩
  |succ i=>
   obtain⟨o',h1,h2,h3⟩:=zLi ys p (j+1) b (o+y.size) i x hr.2 (by simpa using h);refine⟨o',?_,by omega,by simp only[T.sizes];omega⟩
   rwa [show j+(i+1)=j+1+i from by omega]
def At(G:Gh)(w:World)(s:Nat)(t:T)(p:List Nat):Prop:=
 ∃b o cs e,Loc G w s t p b o/\w.heap[b]? =Wu (.cells cs e (0,0))/\o+t.size<=cs.size
theorem At.field{p:List Nat}(h:At G w s (.agg xs) p){x:T}(hx:xs[i]? =Wu x):At G w s x (i::p):=by obtain⟨b,o,cs,e,hl,hh,hs⟩:=h;simp only[Loc]at hl;obtain⟨o',h1,h2,h3⟩:=zLi xs p 0 b o i x hl.2 hx;simp only[T.size]at hs;exact⟨b,o',cs,e,by simpa using h1,hh,by omega⟩
theorem zCS{p:List Nat}(h:R St G w s (.sl k xs) p){x:T}(hx:xs[i]? =Wu x):
  At G w s x (i::p)/\R St G w s x (i::p):=by
 simp only[R]at h;have hi:=(Jl.1 hx).1;rcases h with⟨rfl,_⟩|⟨b,o0,cap,cs,e,h1,h2,h3,h4,h5,h6,h7,h8⟩
 ·simp at hx
 ·obtain⟨a1,a2,a3⟩:=sY xs p 0 b o0 k i x h8 hx
  simp only[Jd]at a1 a3;refine⟨⟨b,o0+i*k,cs,e,a1,h2,?_⟩,a3⟩;rw[a2,H4,<-Lo];exact U1 (Nat.add_le_add_left (Lp _ (by omega)) _) h5
theorem zBt{t:T}{p:List Nat}(h:R St G w s (.ptr t) p):At G w s t (0::p)/\R St G w s t (0::p):=by simp only[R]at h;obtain⟨b,cs,e,h1,h2,h3,h6,h4,h5⟩:=h;exact⟨⟨b,0,cs,e,h4,h2,by omega⟩,h5⟩
theorem zA2:(f:List Nat)-> ∀(t u:T)(p:List Nat),At G w s t p->R St G w s t p->t.get f=Wu u->At G w s u (rp f p)/\R St G w s u (rp f p)
 | [],t,u,p,ha,h,hg=>by simp[T.get]at hg;subst hg;simpa[rp]using⟨ha,h⟩
 |i::f,t,u,p,ha,h,hg=>by
  rw[zAT];cases t with
  |sl k xs=>
   simp only[T.get]at hg;cases hx:xs[i]? with
   |none=>simp[hx]at hg
   |some x=>rw[hx]at hg;exact zA2 f x u _ (zCS h hx).1 (zCS h hx).2 hg
  |ptr t=>
   simp only[T.get]at hg;split at hg
   ·rename_i hi;subst hi;exact zA2 f t u _ (zBt h).1 (zBt h).2 hg
   ·cases hg
  |agg xs=>
   simp only[T.get]at hg;cases hx:xs[i]? with
   |none=>simp[hx]at hg
   |some x=>rw[hx]at hg;exact zA2 f x u _ (ha.field hx) (by simp only[R]at h;simpa using zBk xs p 0 i x h hx) hg
  |tup xs=>obtain⟨b,o,cs,e,hl,_⟩:=ha;simp only[Loc]at hl
  |_=>simp[T.get]at hg
theorem zA3:(f:List Nat)-> ∀(t u:T)(p:List Nat),R St G w s t p->t.get f=Wu u->R St G w s u (rp f p)/\(t.locd f=Ww->At G w s u (rp f p))
 | [],t,u,p,h,hg=>by simp[T.get]at hg;subst hg;simpa[rp,T.locd]using h
 |i::f,t,u,p,h,hg=>by
  rw[zAT];cases t with
  |sl k xs=>
   simp only[T.get]at hg;cases hx:xs[i]? with
   |none=>simp[hx]at hg
   |some x=>rw[hx]at hg;exact⟨(zA2 f x u _ (zCS h hx).1 (zCS h hx).2 hg).2,fun _=>(zA2 f x u _ (zCS h hx).1 (zCS h hx).2 hg).1⟩
  |ptr t=>
   simp only[T.get]at hg;split at hg
   ·rename_i hi;subst hi;exact⟨(zA2 f t u _ (zBt h).1 (zBt h).2 hg).2,fun _=>(zA2 f t u _ (zBt h).1 (zBt h).2 hg).1⟩
   ·cases hg
  |agg xs=>
   simp only[T.get,T.locd]at hg ⊢
   cases hx:xs[i]? with
   |none=>simp[hx]at hg
   |some x=>rw[hx]at hg;exact zA3 f x u _ (by simp only[R]at h;simpa using zBk xs p 0 i x h hx) hg
  |tup xs=>
   simp only[T.get,T.locd]at hg ⊢
   cases hx:xs[i]? with
   |none=>simp[hx]at hg
   |some x=>rw[hx]at hg;exact zA3 f x u _ (by simp only[R]at h;simpa using zBk xs p 0 i x h hx) hg
  |_=>simp[T.get]at hg
end
structure Upd (G:Gh) (w:World) (G':Gh) (w':World) (s:Nat) (tgt:List Nat):Prop where
 hd:∀p,¬tgt<:+p->G'.hd s p=G.hd s p
 ad:∀p,¬tgt<:+p->G'.ad s p=G.ad s p
 lb:∀b o f p,G.lb b o=Wu (f,s,p)-> ¬tgt<:+p->G'.lb b o=Wu (f,s,p)/\yQ w' b o=yQ w b o
 ow:∀b p,G.ow b=Wu (s,p)-> ¬tgt<:+p->G'.ow b=Wu (s,p)
 blk:Blk w w'
 mp:∀b p ms c,G.ow b=Wu (s,p)-> ¬tgt<:+p->w.heap[b]? =Wu (.map ms c)->w'.heap[b]? =Wu (.map ms c)
section
variable {St:Stb}{G:Gh}{w:World}{G':Gh}{w':World}{s:Nat}{tgt:List Nat}
theorem Upd.moves(h:Upd G w G' w' s tgt){p:List Nat}(hp:∀z,¬tgt<:+z++p):zGQ G w G' w' s p s p where
 hd z:=h.hd _ (hp z)
 ad z _:=h.ad _ (hp z)
 lb b o f z _ _ hl:=h.lb b o f _ hl (hp z)
 ow b z _ hl:=h.ow b _ hl (hp z)
 sp b o _ hl:=h.lb b o Ww p hl (hp [])
 ow0 b hl:=h.ow b p hl (hp [])
 blk:=h.blk
 mp b z ms c hl hb:=h.mp b _ ms c hl (hp z) hb
mutual
theorem zEj(hm:Upd G w G' w' s tgt):(t:T)-> ∀(p:List Nat)(b o:Nat),(∀z,¬tgt<:+z++p)->Loc G w s t p b o->Loc G' w' s t p b o
 |.agg xs,p,b,o,hz,h=>by
  simp only[Loc]at h ⊢
  exact⟨(hm.ad p (hz [])).trans h.1,zLj hm xs p 0 b o hz h.2⟩
 |.any,p,b,o,hz,h|.lit _,p,b,o,hz,h|.ro _,p,b,o,hz,h|.same _ _,p,b,o,hz,h|.addr _ _,p,b,o,hz,h|.sub _ _ _ _ _,p,b,o,hz,h|.sl _ _,p,b,o,hz,h|.ptr _,p,b,o,hz,h|.mp _ _,p,b,o,hz,h=>by
  simp only[Loc]at h ⊢
  obtain⟨h1,h2,h3⟩:=h;have hl:=hm.lb b o Wx p h2 (hz []);exact⟨(hm.ad p (hz [])).trans h1,hl.1,by rw[hl.2,h3,hm.hd p (hz [])]⟩
 |.tup _,_,_,_,_,h=>by simp only[Loc]at h
theorem zLj(hm:Upd G w G' w' s tgt):(xs:List T)-> ∀(p:List Nat)(j b o:Nat),(∀z,¬tgt<:+z++p)->vK G w s xs p j b o->vK G' w' s xs p j b o
 | [],_,_,_,_,_,_=>by simp only[vK]
 |x::xs,p,j,b,o,hz,h=>by
  simp only[vK]at h ⊢
  exact⟨zEj hm x (j::p) b o (fun z=>by have:=hz (z++[j]);simpa using this) h.1,zLj hm xs p (j+1) b _ hz h.2⟩
end
theorem zLk(hm:Upd G w G' w' s tgt)(t u:T)(p:List Nat)(b o:Nat)(ht:∀xs,t≠.agg xs)(hu:∀xs,u≠.agg xs)(mU:∀xs,u≠.tup xs)(hz:¬tgt<:+p)(h:Loc G w s t p b o):Loc G' w' s u p b o:=by
 have h3:G.ad s p=⟨b,o,Wv⟩/\G.lb b o=Wu (Wx,s,p)/\yQ w b o=Wu (G.hd s p):=by
  cases t with
  |agg xs=>exact absurd rfl (ht xs)
  |tup xs=>simp only[Loc]at h
  |_=>simpa only[Loc]using h
 obtain⟨h1,h2,h3⟩:=h3;have hl:=hm.lb b o Wx p h2 hz;have h4:G'.ad s p=⟨b,o,Wv⟩/\G'.lb b o=Wu (Wx,s,p)/\yQ w' b o=Wu (G'.hd s p):=⟨(hm.ad p hz).trans h1,hl.1,by rw[hl.2,h3,hm.hd p hz]⟩;cases u with
 |agg xs=>exact absurd rfl (hu xs)
 |tup xs=>exact absurd rfl (mU xs)
 |_=>simpa only[Loc]using h4
theorem jZ{p:List Nat}{i':Nat}(hi:i'≠i)(z:List Nat):¬f.reverse++(i::p)<:+z++(i'::p):=by
 rintro⟨y,hy⟩
 rw[<-Jg]at hy;have:=List.append_inj_right' hy rfl;simp at this;exact hi this.symm
theorem kM{p:List Nat}:¬f.reverse++(i::p)<:+p:=by intro h;have:=h.length_le;simp at this;omega
theorem zIS:(xs:List T)-> ∀(i:Nat)(x y:T),xs[i]? =Wu x->y.size=x.size->T.sizes (xs.set i y)=T.sizes xs
 | [],_,_,_,h,_=>by simp at h
 |z::zs,i,x,y,h,hs=>by
  cases i with
  |zero=>simp at h;subst h;simp[T.sizes,hs]
  |succ i=>simp only[L8,T.sizes,zIS zs i x y (by simpa using h) hs]
theorem zEk:(f:List Nat)-> ∀(t u u0:T),t.get f=Wu u0->u.size=u0.size->(t.set f u).size=t.size
 | [],t,u,u0,h,hs=>by simp[T.get]at h;subst h;simpa[T.set]using hs
 |i::f,t,u,u0,h,hs=>by
  cases t with
  |sl k xs=>simp only[T.get]at h;cases hx:xs[i]? <;>simp[hx,T.set,T.size]at h ⊢
  |tup xs=>simp only[T.get]at h;cases hx:xs[i]? <;>simp[hx,T.set,T.size]at h ⊢
  |agg xs=>
   simp only[T.get]at h;cases hx:xs[i]? with
   |none=>simp[hx]at h
   |some x=>
    rw[hx]at h;simp only[T.set,hx,T.size];exact zIS xs i x _ hx (zEk f x u u0 h hs)
  |ptr t=>simp only[T.get]at h;split at h<;>simp_all [T.set,T.size]
  |_=>simp[T.get]at h
theorem zLl(hm:Upd G w G' w' s tgt):(xs:List T)-> ∀(p:List Nat)(j b o i:Nat)(x y:T),vK G w s xs p j b o->xs[i]? =Wu x->y.size=x.size->
  (∀i',i'≠j+i-> ∀z,¬tgt<:+z++(i'::p))->(∀o',Loc G w s x ((j+i)::p) b o'->Loc G' w' s y ((j+i)::p) b o')->vK G' w' s (xs.set i y) p j b o
 | [],_,_,_,_,_,_,_,_,h,_,_,_=>by simp at h
 |z::zs,p,j,b,o,i,x,y,hl,h,hs,hz,hy=>by
  simp only[vK]at hl;cases i with
  |zero=>
   simp at h;subst h;simp only[L7,vK,hs];exact⟨by simpa using hy o (by simpa using hl.1),LocF_upd' hm zs p (j+1) b _ (fun i' eK=>hz i' (by omega)) hl.2⟩
  |succ i=>
   simp only[L8,vK];refine⟨zEj hm z _ b o (hz j (by omega)) hl.1,zLl hm zs p (j+1) b _ i x y hl.2 (by simpa using h) hs (fun i' eK=>hz i' (by omega)) ?_⟩;rw[show j+1+i=j+(i+1)from by omega];exact hy
where LocF_upd' (hm:Upd G w G' w' s tgt):(xs:List T)-> ∀(p:List Nat)(j b o:Nat),(∀i',j<=i'-> ∀z,¬tgt<:+z++(i'::p))->vK G w s xs p j b o->vK G' w' s xs p j b o
 | [],_,_,_,_,_,_=>by simp only[vK]
 |x::xs,p,j,b,o,hz,h=>by
  simp only[vK]at h ⊢
  exact⟨zEj hm x (j::p) b o (hz j (J9 _)) h.1,LocF_upd' hm xs p (j+1) b _ (fun i' eK=>hz i' (by omega)) h.2⟩
theorem zJT:(f:List Nat)-> ∀(t u u0:T)(p:List Nat)(b o:Nat),Upd G w G' w' s (rp f p)->Loc G w s t p b o->t.get f=Wu u0->u.size=u0.size->
  (∀o',Loc G w s u0 (rp f p) b o'->Loc G' w' s u (rp f p) b o')->Loc G' w' s (t.set f u) p b o
 | [],t,u,u0,p,b,o,hm,hl,hg,hs,hu=>by simp[T.get]at hg;subst hg;simpa[T.set,rp]using hu o (by simpa[rp]using hl)
 |i::f,t,u,u0,p,b,o,hm,hl,hg,hs,hu=>by
  have gV:=hm;rw[zAT]at gV;cases t with
  |sl k xs=>
   have:∃ys,(T.sl k xs).set (i::f) u=.sl k ys:=by simp only[T.set];split<;>exact⟨_,rfl⟩
   obtain⟨ys,hy⟩:=this;rw[hy];exact zLk gV (.sl k xs) (.sl k ys) p b o (by simp) (by simp) (by simp) kM hl
  |ptr t=>
   have:∃ys,(T.ptr t).set (i::f) u=.ptr ys:=by simp only[T.set];split<;>exact⟨_,rfl⟩
   obtain⟨ys,hy⟩:=this;rw[hy];exact zLk gV (.ptr t) (.ptr ys) p b o (by simp) (by simp) (by simp) kM hl
  |agg xs=>
   simp only[T.get]at hg;cases hx:xs[i]? with
   |none=>simp[hx]at hg
   |some x=>
    rw[hx]at hg;simp only[T.set,hx];simp only[Loc]at hl ⊢
    refine⟨(gV.ad p kM).trans hl.1,zLl gV xs p 0 b o i x _ hl.2 hx (zEk f x u u0 hg hs) (fun i' eK z=>jZ (by omega) z) ?_⟩;intro o' ho';simp only[Jd]at ho' ⊢
    exact zJT f x u u0 (i::p) b o' gV ho' hg hs (by simpa only[zAT]using hu)
  |tup xs=>simp only[Loc]at hl
  |_=>simp[T.get]at hg
end
section
variable {St:Stb}{G:Gh}{w:World}{G':Gh}{w':World}{s:Nat}{tgt:List Nat}
theorem zOL(hm:Upd G w G' w' s tgt)(t:T)(p:List Nat)(hz:∀z,¬tgt<:+z++p)(hk:xF (zAk G G') t)(h:R St G w s t p):R St G' w' s t p:=by simpa using zSh (hm.moves hz) t [] hk (by simpa using h)
theorem zSi(hm:Upd G w G' w' s tgt):(xs:List T)-> ∀(p:List Nat)(i b o k:Nat),(∀i',i<=i'-> ∀z,¬tgt<:+z++(i'::p))->xW (zAk G G') xs->RL St G w s xs p i b o k->RL St G' w' s xs p i b o k
 | [],_,_,_,_,_,_,_,_=>by simp only[RL]
 |x::xs,p,i,b,o,k,hz,hk,h=>by
  simp only[RL,xW]at h hk ⊢
  exact⟨⟨zEj hm x (i::p) b o (hz i (J9 _)) h.1.1,h.1.2⟩,zOL hm x (i::p) (hz i (J9 _)) hk.1 h.2.1,
   zSi hm xs p (i+1) b _ k (fun i' eK=>hz i' (by omega)) hk.2 h.2.2⟩
theorem zSj(hm:Upd G w G' w' s tgt):(xs:List T)-> ∀(p:List Nat)(i0 b o k i:Nat)(x y:T),RL St G w s xs p i0 b o k->xs[i]? =Wu x->y.size=x.size->xW (zAk G G') xs->
  (∀i',i'≠i0+i-> ∀z,¬tgt<:+z++(i'::p))->(∀o',Loc G w s x ((i0+i)::p) b o'->Loc G' w' s y ((i0+i)::p) b o')->R St G' w' s y ((i0+i)::p)->
  RL St G' w' s (xs.set i y) p i0 b o k
 | [],_,_,_,_,_,_,_,_,_,h,_,_,_,_,_=>by simp at h
 |z::zs,p,i0,b,o,k,i,x,y,hr,h,hs,hk,hz,hl,hy=>by
  simp only[RL,xW]at hr hk;cases i with
  |zero=>
   simp at h;subst h;simp only[L7,RL];exact⟨⟨by simpa using hl o (by simpa using hr.1.1),by omega⟩,by simpa using hy,zSi hm zs p (i0+1) b _ k (fun i' eK=>hz i' (by omega)) hk.2 hr.2.2⟩
  |succ i=>
   simp only[L8,RL];rw[show i0+(i+1)=i0+1+i from by omega]at hl hy hz;exact⟨⟨zEj hm z _ b o (hz i0 (by omega)) hr.1.1,hr.1.2⟩,zOL hm z _ (hz i0 (by omega)) hk.1 hr.2.1,zSj hm zs p (i0+1) b _ k i x y hr.2.2 (by simpa using h) hs hk.2 hz hl hy⟩
theorem zSk(hm:Upd G w G' w' s tgt):(xs:List T)-> ∀(p:List Nat)(i:Nat),(∀i',i<=i'-> ∀z,¬tgt<:+z++(i'::p))->xW (zAk G G') xs->RF St G w s xs p i->RF St G' w' s xs p i
 | [],_,_,_,_,_=>by simp only[RF]
 |x::xs,p,i,hz,hk,h=>by
  simp only[RF,xW]at h hk ⊢
  exact⟨zOL hm x (i::p) (hz i (J9 _)) hk.1 h.1,zSk hm xs p (i+1) (fun i' eK=>hz i' (by omega)) hk.2 h.2⟩
theorem zNp(hm:Upd G w G' w' s tgt):(xs:List T)-> ∀(p:List Nat)(i0 i:Nat)(x y:T),RF St G w s xs p i0->xs[i]? =Wu x->xW (zAk G G') xs->
  (∀i',i'≠i0+i-> ∀z,¬tgt<:+z++(i'::p))->R St G' w' s y ((i0+i)::p)->
  RF St G' w' s (xs.set i y) p i0
 | [],_,_,_,_,_,_,h,_,_,_=>by simp at h
 |z::zs,p,i0,i,x,y,hr,h,hk,hz,hy=>by
  simp only[RF,xW]at hr hk;cases i with
  |zero=>
   simp at h;subst h;simp only[L7,RF];exact⟨by simpa using hy,zSk hm zs p (i0+1) (fun i' eK=>hz i' (by omega)) hk.2 hr.2⟩
  |succ i=>
   simp only[L8,RF];rw[show i0+(i+1)=i0+1+i from by omega]at hy hz;exact⟨zOL hm z _ (hz i0 (by omega)) hk.1 hr.1,zNp hm zs p (i0+1) i x y hr.2 (by simpa using h) hk.2 hz hy⟩
theorem uA{φ:Nat->List Nat->Prop}:(xs:List T)->xW φ xs-> ∀(i:Nat)(x:T),xs[i]? =Wu x->xF φ x
 | [],_,_,_,h=>by simp at h
 |y::ys,hk,i,x,h=>by
  simp only[xW]at hk;cases i with
  |zero=>simp at h;subst h;exact hk.1
  |succ i=>exact uA ys hk.2 i x (by simpa using h)
theorem zFX:(f:List Nat)-> ∀(t u u0:T)(p:List Nat),Upd G w G' w' s (rp f p)->R St G w s t p->t.get f=Wu u0->u.size=u0.size->xF (zAk G G') t->
  (∀b o,Loc G w s u0 (rp f p) b o->Loc G' w' s u (rp f p) b o)->R St G' w' s u (rp f p)->R St G' w' s (t.set f u) p
 | [],t,u,u0,p,hm,hr,hg,hs,hk,hl,hu=>by simpa[T.set,rp]using hu
 |i::f,t,u,u0,p,hm,hr,hg,hs,hk,hl,hu=>by
  have gV:=hm;rw[zAT]at gV hl hu;cases t with
  |sl k xs=>
   simp only[T.get]at hg;cases hx:xs[i]? with
   |none=>simp[hx]at hg
   |some x=>
    rw[hx]at hg;simp only[T.set,hx];simp only[R,xF]at hr hk ⊢
    rcases hr with⟨rfl,_⟩|⟨b,o0,cap,cs,e,h1,h2,h3,h4,h5,h6,h7,h8⟩
    ·simp at hx
    ·obtain⟨cs',fP,gv⟩:=gV.blk b cs e h2
     refine .inr ⟨b,o0,cap,cs',e,by rw[gV.hd p kM,H5];exact h1,fP,by rw[H5];exact h3,h4,by omega,gV.ow b p h6 kM,?_,?_⟩
     ·intro o ho cC
      rw[H5]at ho;exact(gV.lb b o Ww p (h7 o ho (by omega)) kM).1
     ·have aS:=sY xs p 0 b o0 k i x h8 hx
      simp only[Jd]at aS;refine zSj gV xs p 0 b o0 k i x _ h8 hx (zEk f x u u0 hg hs) hk (fun i' eK z=>jZ (by omega) z) ?_ ?_
      ·intro o' ho'
       simp only[Jd]at ho' ⊢
       exact zJT f x u u0 (i::p) b o' gV ho' hg hs (fun o''=>hl b o'')
      ·simp only[Jd]
       exact zFX f x u u0 (i::p) gV aS.2.2 hg hs (uA xs hk i x hx) hl hu
  |ptr t=>
   simp only[T.get]at hg;split at hg
   ·rename_i hi;subst hi
    simp only[T.set,if_true];simp only[R,xF]at hr hk ⊢
    obtain⟨b,cs,e,h1,h2,h3,h6,h4,h5⟩:=hr;obtain⟨cs',fP,gv⟩:=gV.blk b cs e h2;refine⟨b,cs',e,by rw[gV.hd p kM];exact h1,fP,by rw[zEk f t u u0 hg hs];omega,gV.ow b p h6 kM,zJT f t u u0 (0::p) b 0 gV h4 hg hs (fun o''=>hl b o''),zFX f t u u0 (0::p) gV h5 hg hs hk hl hu⟩
   ·cases hg
  |agg xs=>
   simp only[T.get]at hg;cases hx:xs[i]? with
   |none=>simp[hx]at hg
   |some x=>
    rw[hx]at hg;simp only[T.set,hx];simp only[R,xF]at hr hk ⊢
    refine zNp gV xs p 0 i x _ hr hx hk (fun i' eK z=>jZ (by omega) z) ?_;simp only[Jd];exact zFX f x u u0 (i::p) gV (by simpa using zBk xs p 0 i x hr hx) hg hs (uA xs hk i x hx) hl hu
  |tup xs=>
   simp only[T.get]at hg;cases hx:xs[i]? with
   |none=>simp[hx]at hg
   |some x=>
    rw[hx]at hg;simp only[T.set,hx];simp only[R,xF]at hr hk ⊢
    refine zNp gV xs p 0 i x _ hr hx hk (fun i' eK z=>jZ (by omega) z) ?_;simp only[Jd];exact zFX f x u u0 (i::p) gV (by simpa using zBk xs p 0 i x hr hx) hg hs (uA xs hk i x hx) hl hu
  |_=>simp[T.get]at hg
end
mutual
def vals(G:Gh)(s:Nat):T->List Nat->List Value
 |.agg xs,p=>yJ G s xs p 0
 |.any,p|.lit _,p|.ro _,p|.same _ _,p|.addr _ _,p|.sub _ _ _ _ _,p|.sl _ _,p|.ptr _,p|.tup _,p|.mp _ _,p=>[G.hd s p]
def yJ(G:Gh)(s:Nat):List T->List Nat->Nat->List Value
 | [],_,_=>[]
 |x::xs,p,j=>vals G s x (j::p)++yJ G s xs p (j+1)
end
def sB(G:Gh)(s:Nat)(t:T)(p:List Nat):Value:=
 match t with
 |.agg xs=>.agg (yJ G s xs p 0).toArray
 |_=>G.hd s p
def kA(G:Gh)(s:Nat):List T->List Nat->Nat->List Value
 | [],_,_=>[]
 |x::xs,p,j=>sB G s x (j::p)::kA G s xs p (j+1)
def mkV(G:Gh)(s:Nat)(t:T)(p:List Nat):Value:=
 match t with
 |.agg xs=>.agg (yJ G s xs p 0).toArray
 |.tup xs=>.tuple (kA G s xs p 0).toArray
 |_=>G.hd s p
mutual
def Top:T->Prop
 |.sl _ xs=>xG xs
 |.ptr t=>zZ t
 |.agg xs|.tup xs=>vV xs
 |.any|.lit _|.ro _|.same _ _|.addr _ _|.sub _ _ _ _ _|.mp _ _=>True
def vV:List T->Prop
 | []=>True
 |x::xs=>Top x/\vV xs
end
mutual
theorem Top.of_clean:(t:T)->zZ t->Top t
 |.sl _ xs,h=>by simpa only[Top,zZ,xF]using h
 |.ptr t,h=>by simpa only[Top,zZ,xF]using h
 |.agg xs,h|.tup xs,h=>by simp only[Top];exact vV.of_clean xs (by simpa only[zZ,xF]using h)
 |.any,_|.lit _,_|.ro _,_|.same _ _,_|.addr _ _,_|.sub _ _ _ _ _,_|.mp _ _,_=>by simp only[Top]
theorem vV.of_clean:(xs:List T)->xG xs->vV xs
 | [],_=>by simp only[vV]
 |x::xs,h=>by simp only[vV];exact⟨Top.of_clean x h.1,vV.of_clean xs h.2⟩
end
abbrev Chg:=List (Nat×Nat)
variable {chg:Chg}
def Off(chg:Chg)(s:Nat)(p:List Nat):Prop:=∀n,(s,n)∈chg->p.length<n
def zAl(chg:Chg)(r:Nat)(p:List Nat):Bool:=chg.all fun c=>c.1 != r||decide (p.length<c.2)
theorem zQu{p:List Nat}(h:zAl chg r p=Ww):Off chg r p:=by
 intro n hn;have:=Ka.1 h _ hn
 grind
mutual
def T.okB(chg:Chg):T->Bool
 |.same r p|.addr r p|.sub r p _ _ _=>zAl chg r p
 |.agg xs|.tup xs=>zLm chg xs
 |.any|.lit _|.ro _|.sl _ _|.ptr _|.mp _ _=>Ww
def zLm(chg:Chg):List T->Bool
 | []=>Ww
 |x::xs=>x.okB chg&&zLm chg xs
end
mutual
theorem zAr{chg:Chg}:(t:T)->Top t->t.okB chg=Ww->xF (Off chg) t
 |.same r p,_,h|.addr r p,_,h|.sub r p _ _ _,_,h=>by simp only[T.okB]at h;simp only[xF];exact zQu h
 |.agg xs,ht,h|.tup xs,ht,h=>by simp only[T.okB,Top]at h ht;simp only[xF];exact zGR xs ht h
 |.sl _ xs,ht,_=>by simp only[Top]at ht;simp only[xF];grind[xW.mono]
 |.ptr t,ht,_=>by simp only[Top]at ht;simp only[xF];grind[xF.mono]
 |.any,_,_|.lit _,_,_|.ro _,_,_|.mp _ _,_,_=>by simp only[xF]
theorem zGR{chg:Chg}:(xs:List T)->vV xs->zLm chg xs=Ww->xW (Off chg) xs
 | [],_,_=>by simp only[xW]
 |x::xs,ht,h=>by simp only[zLm,vV,J4]at h ht;simp only[xW];exact⟨zAr x ht.1 h.1,zGR xs ht.2 h.2⟩
end
abbrev Env:=Nat->Option T
variable {E:Env}
abbrev Wr:=List (Nat×Option T)
def Wr.find(wr:Wr)(s:Nat):Option (Option T):=
 match wr with
 | []=>Wv
 |(k,x)::r=>if k=s then Wu x else Wr.find r s
def Env.app(E:Env)(wr:Wr)(chg:Chg):Env:=fun s=>
 match wr.find s with
 |some x=>x
 |none=>match E s with
  |some t=>if t.okB chg then Wu t else Wv
  |none=>Wv
structure Ctx where
 St:Stb
 W:Nat->Prop
 w0:World
 N:Nat
variable {Γ:Ctx}
def zAU(Γ:Ctx)(w:World)(b:Nat):Prop:=b<w.heap.size/\(Γ.w0.heap.size<=b\/Γ.W b)/\Γ.St b=Wv
structure zVZ (w w':World):Prop where
 blk:Blk w w'
 os:w'.os=w.os
 out:w'.output=w.output
structure Mem (Γ:Ctx) (G:Gh) (w:World):Prop where
 one:∀s p,(G.hd s p).oneCell'=Ww
 lb:∀b o l,G.lb b o=Wu l->zAU Γ w b
 ow:∀b l,G.ow b=Wu l->zAU Γ w b
 st:∀b x,Γ.St b=Wu x->w.heap[b]? =Wu x
 fr:∀b,b<Γ.w0.heap.size-> ¬Γ.W b->w.heap[b]? =Γ.w0.heap[b]?
 sz:Γ.w0.heap.size<=w.heap.size
 bk:zVZ Γ.w0 w
theorem Blk.trans{w w'':World}(h:Blk w w')(h':Blk w' w''):Blk w w'':=fun b cs e hb=>by
 obtain⟨cs',h1,h2⟩:=h b cs e hb;obtain⟨cs'',h3,h4⟩:=h' b cs' e h1
 grind
theorem zVZ.trans{w w'':World}(h:zVZ w w')(h':Blk w' w'')(ho:w''.os=w'.os)(hq:w''.output=w'.output):zVZ w w'':=⟨h.blk.trans h',ho.trans h.os,hq.trans h.out⟩
def Ent(Γ:Ctx)(G:Gh)(w:World)(v:Option Value)(s:Nat)(t:T):Prop:=v=Wu (mkV G s t [])/\R Γ.St G w s t []/\Top t
structure Rep (Γ:Ctx) (E:Env) (G:Gh) (tmps:Array Value) (w:World):Prop where
 size:tmps.size=Γ.N
 ent:∀s t,E s=Wu t->Ent Γ G w tmps[s]? s t
 mem:Mem Γ G w
def Sim(Γ:Ctx)(E:Env)(a:Act)(w:World):Prop:=a.defers=[]/\ ∃G,Rep Γ E G a.tmps w
structure zDy (S S':Stb) (W:Nat->Prop) (n:Nat):Prop where
 le:∀b x,S b=Wu x->S' b=Wu x
 nw:∀b,S b=Wv->S' b≠Wv->n<=b\/W b
theorem zDy.refl{S:Stb}{W:Nat->Prop}:zDy S S W n:=⟨fun _ _ h=>h,by grind⟩
theorem zDy.trans{S S' S'':Stb}{W:Nat->Prop}(h:zDy S S' W n)(h':zDy S' S'' W n):zDy S S'' W n:=
 ⟨fun b x hb=>h'.le b x (h.le b x hb),fun b hb ev=>by
  cases hs:S' b with
  |none=>exact h'.nw b hs ev
  |some x=>exact h.nw b hb (by grind)⟩
abbrev Ctx.at(Γ:Ctx)(S:Stb):Ctx:={ Γ with St:=S }
def qW(Γ:Ctx)(E:Env)(a:Act)(w:World):Prop:=∃S,zDy Γ.St S Γ.W Γ.w0.heap.size/\Sim (Γ.at S) E a w
theorem qW.of{w:World}(h:Sim Γ E a w):qW Γ E a w:=⟨Γ.St,.refl,h⟩
theorem qW.up{w:World}{S:Stb}(hS:zDy Γ.St S Γ.W Γ.w0.heap.size)(h:qW (Γ.at S) E a w):qW Γ E a w:=by obtain⟨S',h1,h2⟩:=h;exact⟨S',hS.trans h1,h2⟩
structure sE (chg:Chg) (G:Gh) (w:World) (G':Gh) (w':World):Prop where
 hd:∀s p,Off chg s p->G'.hd s p=G.hd s p
 ad:∀s p,Off chg s p->G'.ad s p=G.ad s p
 lb:∀b o f s p,(∃y,G.ow b=Wu (s,y))->G.lb b o=Wu (f,s,p)->(∀n,(s,n)∉chg)->G'.lb b o=Wu (f,s,p)/\yQ w' b o=yQ w b o
 ow:∀b s p,G.ow b=Wu (s,p)->(∀n,(s,n)∉chg)->G'.ow b=Wu (s,p)
 blk:Blk w w'
 mp:∀b s p ms c,G.ow b=Wu (s,p)->(∀n,(s,n)∉chg)->w.heap[b]? =Wu (.map ms c)->w'.heap[b]? =Wu (.map ms c)
theorem Off.of_not{s:Nat}(h:∀n,(s,n)∉chg)(p:List Nat):Off chg s p:=fun n hn=>absurd hn (h n)
section
variable {Γ:Ctx}{G G':Gh}{w w':World}{s:Nat}{chg:Chg}
mutual
theorem zAV{s':Nat}:(t:T)-> ∀(p p':List Nat),(∀z,G'.hd s' (z++p')=G.hd s (z++p))->vals G' s' t p'=vals G s t p
 |.agg xs,p,p',h=>by simp only[vals];exact zEl xs p p' 0 h
 |.any,p,p',h|.lit _,p,p',h|.ro _,p,p',h|.same _ _,p,p',h|.addr _ _,p,p',h|.sub _ _ _ _ _,p,p',h|.sl _ _,p,p',h|.ptr _,p,p',h|.tup _,p,p',h|.mp _ _,p,p',h=>by simp only[vals];rw[show G'.hd s' p'=G.hd s p from by simpa using h []]
theorem zEl{s':Nat}:(xs:List T)-> ∀(p p':List Nat)(j:Nat),(∀z,G'.hd s' (z++p')=G.hd s (z++p))->yJ G' s' xs p' j=yJ G s xs p j
 | [],_,_,_,_=>by rfl
 |x::xs,p,p',j,h=>by simp only[yJ];rw[zAV x (j::p) (j::p') (fun z=>by have:=h (z++[j]);grind),zEl xs p p' (j+1) h]
end
theorem zBJ{s':Nat}(t:T)(p p':List Nat)(h:∀z,G'.hd s' (z++p')=G.hd s (z++p)):sB G' s' t p'=sB G s t p:=by
 unfold sB;split
 ·grind[zEl]
 ·simpa using h []
theorem zOM{s':Nat}:(xs:List T)-> ∀(p p':List Nat)(j:Nat),(∀z,G'.hd s' (z++p')=G.hd s (z++p))->kA G' s' xs p' j=kA G s xs p j
 | [],_,_,_,_=>by rfl
 |x::xs,p,p',j,h=>by simp only[kA];rw[zBJ x (j::p) (j::p') (fun z=>by have:=h (z++[j]);simpa using this),zOM xs p p' (j+1) h]
theorem zFn{s':Nat}(t:T)(p p':List Nat)(h:∀z,G'.hd s' (z++p')=G.hd s (z++p)):mkV G' s' t p'=mkV G s t p:=by
 unfold mkV;split
 ·grind[zEl]
 ·grind[zOM]
 ·simpa using h []
theorem sE.moves(hk:sE chg G w G' w')(hs:∀n,(s,n)∉chg)(p:List Nat):zGQ G w G' w' s p s p where
 hd _:=hk.hd _ _ (.of_not hs _)
 ad _ _:=hk.ad _ _ (.of_not hs _)
 lb b o f _ _ gZ hl:=hk.lb b o f s _ gZ hl hs
 ow b _ _ hl:=hk.ow b s _ hl hs
 sp b o gZ hl:=hk.lb b o Ww s _ gZ hl hs
 ow0 b hl:=hk.ow b s _ hl hs
 blk:=hk.blk
 mp b _ ms c hl hb:=hk.mp b s _ ms c hl hs hb
theorem sE.keepR(hk:sE chg G w G' w'){t:T}(h:xF (Off chg) t):xF (zAk G G') t:=
 xF.mono (fun r p hr=>⟨hk.hd r p hr,hk.ad r p hr⟩) t h
theorem Ent.keep(hk:sE chg G w G' w')(hs:∀n,(s,n)∉chg){v:Option Value}{t:T}(ht:t.okB chg=Ww)(h:Ent Γ G w v s t):Ent Γ G' w' v s t:=by
 obtain⟨h1,h2,h3⟩:=h;refine⟨?_,?_,h3⟩
 ·rw[h1,zFn t [] [] (fun z=>hk.hd _ _ (.of_not hs _))]
 ·simpa using zSh (hk.moves hs []) t [] (hk.keepR (zAr t h3 ht)) (by grind)
end
theorem wV{tmps':Array Value}{w:World}{wr:Wr}(h:Rep Γ E G tmps w)
  (gU:tmps'.size=tmps.size)(hk:sE chg G w G' w')(gy:Mem Γ G' w')
  (gx:∀s,wr.find s=Wv->(∀n,(s,n)∉chg)/\tmps'[s]? =tmps[s]?)
  (eb:∀s t,wr.find s=Wu (Wu t)->Ent Γ G' w' tmps'[s]? s t):Rep Γ (E.app wr chg) G' tmps' w' where
 size:=by rw[gU,h.size]
 mem:=gy
 ent s t hs:=by
  unfold Env.app at hs;cases hf:wr.find s with
  |some x=>
   grind
  |none=>
   rw[hf]at hs;simp at hs;cases he:E s with
   |none=>grind
   |some u=>
    simp[he]at hs;obtain⟨gD,rfl⟩:=hs;rw[(gx s hf).2];exact Ent.keep hk (gx s hf).1 gD (h.ent s u he)
mutual
def cpT(s:Nat):T->List Nat->T
 |.lit v,_=>.lit v
 |.ro t,_=>.ro t
 |.same r q,_=>.same r q
 |.addr r q,_=>.addr r q
 |.sub r q k lo hi,_=>.sub r q k lo hi
 |.agg xs,p=>.agg (cpF s xs p 0)
 |.any,p|.sl _ _,p|.ptr _,p|.mp _ _,p|.tup _,p=>.same s p
def cpF(s:Nat):List T->List Nat->Nat->List T
 | [],_,_=>[]
 |x::xs,p,j=>cpT s x (j::p)::cpF s xs p (j+1)
end
mutual
theorem qH(s:Nat):(t:T)-> ∀p,Top (cpT s t p)
 |.agg xs,p=>by simp only[cpT,Top];exact zON s xs p 0
 |.lit _,_|.ro _,_|.same _ _,_|.addr _ _,_|.sub _ _ _ _ _,_|.any,_|.sl _ _,_|.ptr _,_|.mp _ _,_|.tup _,_=>by simp only[cpT,Top]
theorem zON(s:Nat):(xs:List T)-> ∀p j,vV (cpF s xs p j)
 | [],_,_=>by simp only[cpF,vV]
 |x::xs,p,j=>by simp only[cpF,vV];exact⟨qH s x _,zON s xs p _⟩
end
section
variable {St:Stb}{G G':Gh}{w w':World}{s d:Nat}
mutual
theorem zDE(hs:∀p,G'.hd s p=G.hd s p):(t:T)-> ∀(p p':List Nat),(∀z,G'.hd d (z++p')=G.hd s (z++p))->(∀xs,t≠.tup xs)->xF (zAk G G') (cpT s t p)->R St G w s t p->R St G' w' d (cpT s t p) p'
 |.lit _,p,p',hd,_,_,h=>by simp only[cpT,R]at h ⊢;rw[show G'.hd d p'=_ from by simpa using hd []];exact h
 |.ro _,p,p',hd,_,_,h=>by simp only[cpT,R]at h ⊢;rw[show G'.hd d p'=_ from by simpa using hd []];exact h
 |.same r q,p,p',hd,_,hk,h=>by simp only[cpT,R,xF]at h hk ⊢;rw[show G'.hd d p'=_ from by simpa using hd [],hk.1];exact h
 |.addr r q,p,p',hd,_,hk,h=>by simp only[cpT,R,xF]at h hk ⊢;rw[show G'.hd d p'=_ from by simpa using hd [],hk.2];exact h
 |.sub r q k lo hi,p,p',hd,_,hk,h=>by simp only[cpT,R,xF]at h hk ⊢;rw[show G'.hd d p'=_ from by simpa using hd [],hk.1];exact h
 |.any,p,p',hd,_,_,_|.sl _ _,p,p',hd,_,_,_|.ptr _,p,p',hd,_,_,_|.mp _ _,p,p',hd,_,_,_=>by simp only[cpT,R];rw[show G'.hd d p'=_ from by simpa using hd [],hs]
 |.tup xs,_,_,_,h,_,_=>absurd rfl (h xs)
 |.agg xs,p,p',hd,_,hk,h=>by simp only[cpT,R,xF]at h hk ⊢;exact zJU hs xs p p' 0 hd hk h
theorem zJU(hs:∀p,G'.hd s p=G.hd s p):(xs:List T)-> ∀(p p':List Nat)(j:Nat),(∀z,G'.hd d (z++p')=G.hd s (z++p))->xW (zAk G G') (cpF s xs p j)->RF St G w s xs p j->RF St G' w' d (cpF s xs p j) p' j
 | [],_,_,_,_,_,_=>by simp only[cpF,RF]
 |x::xs,p,p',j,hd,hk,h=>by
  simp only[cpF,RF,xW]at h hk ⊢
  refine⟨?_,zJU hs xs p p' (j+1) hd hk.2 h.2⟩
  by_cases hx:∃ys,x=.tup ys
  ·obtain⟨ys,rfl⟩:=hx
   simp only[cpT,R];rw[show G'.hd d (j::p')=_ from by simpa using hd [j],hs]
  ·exact zDE hs x (j::p) (j::p') (fun z=>by have:=hd (z++[j]);simpa using this) (fun ys e=>hx ⟨ys,e⟩) hk.1 h.1
end
mutual
theorem zQv:(t:T)-> ∀(p p':List Nat),(∀z,G'.hd d (z++p')=G.hd s (z++p))->vals G' d (cpT s t p) p'=vals G s t p
 |.agg xs,p,p',h=>by simp only[cpT,vals];exact zDF xs p p' 0 h
 |.any,p,p',h|.lit _,p,p',h|.ro _,p,p',h|.same _ _,p,p',h|.addr _ _,p,p',h|.sub _ _ _ _ _,p,p',h|.sl _ _,p,p',h|.ptr _,p,p',h|.mp _ _,p,p',h|.tup _,p,p',h=>by simp only[cpT,vals];rw[show G'.hd d p'=G.hd s p from by simpa using h []]
theorem zDF:(xs:List T)-> ∀(p p':List Nat)(j:Nat),(∀z,G'.hd d (z++p')=G.hd s (z++p))->yJ G' d (cpF s xs p j) p' j=yJ G s xs p j
 | [],_,_,_,_=>by rfl
 |x::xs,p,p',j,h=>by simp only[cpF,yJ];rw[zQv x (j::p) (j::p') (fun z=>by have:=h (z++[j]);grind),zDF xs p p' (j+1) h]
end
theorem zA4(t:T)(p p':List Nat)(ht:∀xs,t≠.tup xs)(h:∀z,G'.hd d (z++p')=G.hd s (z++p)):mkV G' d (cpT s t p) p'=sB G s t p:=by
 cases t with
 |agg xs=>grind[cpT,mkV,sB,zDF]
 |tup xs=>grind
 |_=>simpa[cpT,mkV,sB]using h []
end
theorem kY(G:Gh)(s:Nat)(t:T)(p:List Nat)(ht:∀xs,t≠.tup xs):mkV G s t p=sB G s t p:=by
 cases t with
 |tup xs=>grind
 |_=>rfl
def Gh.put(G:Gh)(d:Nat)(f:List Nat->Value):Gh:={ G with hd:=fun s z=>if s=d then f z else G.hd s z }
theorem Gh.put_other(G:Gh){s:Nat}(f:List Nat->Value)(p:List Nat)(h:s≠d):(G.put d f).hd s p=G.hd s p:=by simp[Gh.put,h]
theorem Gh.put_self(G:Gh)(d:Nat)(f:List Nat->Value)(p:List Nat):(G.put d f).hd d p=f p:=by simp[Gh.put]
theorem zSl{s:Nat}{p:List Nat}(h:Off [(d,0)] s p):s≠d:=by
 rintro rfl
 exact absurd (h 0 (by simp)) (by simp)
theorem Gh.put_keep(G:Gh){w:World}(hw:w'.heap=w.heap)(d:Nat)(f:List Nat->Value):sE [(d,0)] G w (G.put d f) w' where
 hd s p h:=G.put_other f p (zSl h)
 ad _ _ _:=rfl
 lb b o f' s p _ h _:=⟨h,by grind[yQ,World.cell?]⟩
 ow b s p h _:=h
 blk b cs e h:=by grind
 mp b s p ms c _ _ h:=by grind
theorem Mem.put{w:World}(h:Mem Γ G w)(hw:w'.heap=w.heap)(d:Nat)(f:List Nat->Value)(hf:∀z,(f z).oneCell'=Ww)(ho:w'.os=w.os:=by rfl)(hq:w'.output=w.output:=by rfl):Mem Γ (G.put d f) w' where
 one s p:=by unfold Gh.put;dsimp only;split;exact hf p;exact h.one s p
 lb b o l hl:=by have:=h.lb b o l hl;exact⟨by rw[hw];exact this.1,this.2⟩
 ow b l hl:=by have:=h.ow b l hl;exact⟨by rw[hw];exact this.1,this.2⟩
 st b x hx:=by rw[hw];exact h.st b x hx
 fr b h1 h2:=by rw[hw];exact h.fr b h1 h2
 sz:=by rw[hw];exact h.sz
 bk:=h.bk.trans (fun b cs e hb=>by grind) ho hq
theorem uO(d:Nat)(x:Option T)(s:Nat):Wr.find [(d,x)] s=if d=s then Wu x else Wv:=by rfl
theorem vJ{w:World}(h:Rep Γ E G tmps w)(hw:w'.heap=w.heap)(hd:d<Γ.N)
  (f:List Nat->Value)(hf:∀z,(f z).oneCell'=Ww)(t:T)(v:Value)(hv:v=mkV (G.put d f) d t [])(hr:R Γ.St (G.put d f) w' d t [])(ht:Top t)(ho:w'.os=w.os:=by rfl)(hq:w'.output=w.output:=by rfl):
  Rep Γ (E.app [(d,Wu t)] [(d,0)]) (G.put d f) (tmps.setIfInBounds d v) w':=by
 refine wV h (by simp) (G.put_keep hw d f) (h.mem.put hw d f hf ho hq) ?_ ?_
 ·grind[uO]
 ·intro s t' hs
  rw[uO]at hs;split at hs
  ·rename_i he
   subst he;simp at hs;subst hs;refine⟨?_,hr,ht⟩;rw[Jb];simp[h.size,hd,hv]
  ·cases hs
def wF(P:Program)(Γ:Ctx)(o:Oper)(E E':Env):Prop:=
 ∀(a:Act)(w:World)(K:Act->World->Prop)(Q:Exit->Act->World->Prop),Sim Γ E a w->(∀a' w',qW Γ E' a' w'->K a' w')->o.wp P a w K Q
def opT(E:Env):Operand->Option T
 |.tmp s=>E s
 |.const v=>if v.oneCell' then Wu (.lit v)else Wv
 |.func f=>Wu (.lit (.func (.func f) #[] #[]))
 |.global _=>Wv
def uY(x:Operand)(t:T):T:=match x with
 |.tmp s=>cpT s t []
 |_=>t
section
variable {P:Program}{Γ:Ctx}{E E':Env}{o:Oper}{d:Nat}
theorem wH{s:Nat}(h:a.tmps[s]? =Wu v):a.eval (.tmp s)=v:=by simp[Act.eval,Kk,h]
theorem wF.value(ho:o.dst=Wu d)
  (h:∀(a:Act)(w:World)(G:Gh),Rep Γ E G a.tmps w-> ∃v w',(execOp a.eval o).run P w=.ok (.value v) w'/\ ∃G',Rep Γ E' G' (a.tmps.setIfInBounds d v) w'):wF P Γ o E E':=by
 intro a w K Q ⟨gN,G,gc⟩ hK;obtain⟨v,w',gB,G',fE⟩:=h a w G gc;unfold Oper.wp;rw[gB,Oper.upon_value];refine hK _ _ ?_;rw[ho];exact .of ⟨gN,G',fE⟩
theorem wF.skip(ho:o.dst=Wv)
  (h:∀(a:Act)(w:World)(G:Gh),Rep Γ E G a.tmps w-> ∃w',(execOp a.eval o).run P w=.ok .skip w'/\ ∃G',Rep Γ E' G' a.tmps w'):wF P Γ o E E':=by
 intro a w K Q ⟨gN,G,gc⟩ hK;obtain⟨w',gB,G',fE⟩:=h a w G gc;unfold Oper.wp;rw[gB,Oper.upon_skip];refine hK _ _ ?_;rw[ho];exact .of ⟨gN,G',fE⟩
theorem opd{w:World}(gc:Rep Γ E G a.tmps w){t:T}(hx:opT E x=Wu t)(ht:∀xs,t≠.tup xs):
  ∃f:List Nat->Value,(∀z,(f z).oneCell'=Ww)/\(∀d,(∀s,x=.tmp s->s≠d)->T.okB [(d,0)] (uY x t)=Ww->
   a.eval x=mkV (G.put d f) d (uY x t) []/\R Γ.St (G.put d f) w d (uY x t) [])/\Top (uY x t):=by
 cases x with
 |tmp s=>
  obtain⟨h1,h2,h3⟩:=gc.ent s t hx;refine⟨fun z=>G.hd s z,fun z=>gc.mem.one s z,?_,qH s t []⟩;intro d gf gD;have eG:=gf s rfl;have hk:=G.put_keep (w:=w) (w':=w) rfl d (fun z=>G.hd s z);have hz:∀z,(G.put d (fun z=>G.hd s z)).hd d (z++[])=G.hd s (z++[]):=by grind[Gh.put_self]
  refine⟨?_,?_⟩
  ·grind[wH,uY,zA4,kY]
  ·exact zDE (fun p=>G.put_other _ p eG) t [] [] hz ht (hk.keepR (zAr _ (qH s t []) gD)) h2
 |const v=>
  simp only[opT]at hx;split at hx
  ·rename_i gw
   simp at hx;subst hx;exact⟨fun _=>v,fun _=>gw,fun d _ _=>⟨by simp[Act.eval,uY,mkV,Gh.put],by simp[uY,R,Gh.put]⟩,by simp[uY,Top]⟩
  ·cases hx
 |func f=>
  simp only[opT]at hx;simp at hx;subst hx;exact⟨fun _=>.func (.func f) #[] #[],fun _=>rfl,fun d _ _=>⟨by simp[Act.eval,uY,mkV,Gh.put],by simp[uY,R,Gh.put]⟩,by simp[uY,Top]⟩
 |global g=>cases hx
theorem zOO(x:Operand)(t:T)(ho:o.op=.move x\/o.op=.assign x)(gg:o.dst=Wu d)(hd:d<Γ.N)(hx:opT E x=Wu t)(ht:∀xs,t≠.tup xs)
  (gf:∀s,x=.tmp s->s≠d)(gD:T.okB [(d,0)] (uY x t)=Ww):wF P Γ o E (E.app [(d,Wu (uY x t))] [(d,0)]):=by
 refine wF.value gg fun a w G gc=>?_
 obtain⟨f,hf,h1,h2⟩:=opd gc hx ht;obtain⟨h3,h4⟩:=h1 d gf gD;refine⟨a.eval x,w,?_,_,vJ gc rfl hd f hf _ _ h3 h4 h2⟩;rcases ho with ho|ho<;>simp[execOp,ho]
theorem xX{w:World}(gc:Rep Γ E G a.tmps w)(hx:opT E x=Wu (.lit v)):a.eval x=v/\v.oneCell'=Ww:=by
 cases x with
 |tmp s=>
  obtain⟨h1,h2,_⟩:=gc.ent s _ hx;simp only[R]at h2;refine⟨?_,by rw[<-h2];exact gc.mem.one s []⟩
  grind[wH,mkV]
 |const u=>
  simp only[opT]at hx;split at hx
  ·simp at hx;subst hx;exact⟨rfl,by assumption⟩
  ·cases hx
 |func f=>simp only[opT]at hx;simp at hx;subst hx;exact⟨rfl,rfl⟩
 |global g=>cases hx
theorem zA5(v:Value)(hv:v.oneCell'=Ww)(gg:o.dst=Wu d)(hd:d<Γ.N)
  (h:∀(a:Act)(w:World)(G:Gh),Rep Γ E G a.tmps w->(execOp a.eval o).run P w=.ok (.value v) w):wF P Γ o E (E.app [(d,Wu (.lit v))] [(d,0)]):=by
 refine wF.value gg fun a w G gc=>?_
 exact⟨v,w,h a w G gc,_,vJ gc rfl hd (fun _=>v) (fun _=>hv) (.lit v) v (by simp[mkV,Gh.put]) (by simp[R,Gh.put]) (by simp[Top])⟩
def zJV(op:BinOp)(k:IntKind)(a b:Int):Option Value:=
 match op with
 |.add=>Wu (.int k (k.wrap (a+b)))
 |.sub=>Wu (.int k (k.wrap (a-b)))
 |.mul=>Wu (.int k (k.wrap (a*b)))
 |.quo=>if b=0 then Wv else Wu (.int k (k.wrap (a.tdiv b)))
 |.rem=>if b=0 then Wv else Wu (.int k (a.tmod b))
 |.eql=>Wu (.bool (a==b))
 |.neq=>Wu (.bool (a != b))
 |.lss=>Wu (.bool (decide (a<b)))
 |.leq=>Wu (.bool (decide (a<=b)))
 |.gtr=>Wu (.bool (decide (a> b)))
 |.geq=>Wu (.bool (decide (a>=b)))
 |_=>Wv
theorem zSm{op:BinOp}{k:IntKind}{a b:Int}(h:zJV op k a b=Wu v):v.oneCell'=Ww:=by cases op<;>simp[zJV]at h<;>first|(subst h;rfl)|(obtain⟨_,rfl⟩:=h;rfl)
theorem tU(op:BinOp)(xt yt:TypeId)(x y:Operand)(k:IntKind)(m n:Int)(v:Value)(ho:o.op=.binOp op xt x y yt)(gg:o.dst=Wu d)(hd:d<Γ.N)
  (hx:opT E x=Wu (.lit (.int k m)))(hy:opT E y=Wu (.lit (.int k n)))(hv:zJV op k m n=Wu v):wF P Γ o E (E.app [(d,Wu (.lit v))] [(d,0)]):=by
 refine zA5 v (zSm hv) gg hd fun a w G gc=>?_
 have h1:=(xX gc hx).1;have h2:=(xX gc hy).1;cases op<;>simp[zJV]at hv<;>
  first
   |(subst hv;simp[execOp,ho,h1,h2,eqGuard,binOp,Op.intArith,Op.intCmp];done)
   |(obtain⟨h0,rfl⟩:=hv;simp[execOp,ho,h1,h2,eqGuard,binOp,Op.intDiv,h0])
theorem zZh(xt:TypeId)(x:Operand)(b:Bool)(ho:o.op=.unOp .not xt x)(gg:o.dst=Wu d)(hd:d<Γ.N)
  (hx:opT E x=Wu (.lit (.bool b))):wF P Γ o E (E.app [(d,Wu (.lit (.bool !b)))] [(d,0)]):=by
 refine zA5 _ rfl gg hd fun a w G gc=>?_
 have h1:=(xX gc hx).1;simp[execOp,ho,h1,Op.unary]
theorem zZi(xt:TypeId)(x:Operand)(k:IntKind)(n:Int)(ho:o.op=.unOp .neg xt x)(gg:o.dst=Wu d)(hd:d<Γ.N)
  (hx:opT E x=Wu (.lit (.int k n))):wF P Γ o E (E.app [(d,Wu (.lit (.int k (k.wrap (0-n)))))] [(d,0)]):=by
 refine zA5 _ rfl gg hd fun a w G gc=>?_
 have h1:=(xX gc hx).1;simp[execOp,ho,h1,Op.unary,Op.intArith]
theorem zWa(src dst:TypeId)(ds:TypeDesc)(x:Operand)(k k':IntKind)(n:Int)(ho:o.op=.convert src dst x)(gg:o.dst=Wu d)(hd:d<Γ.N)
  (hs:P.underlying src=Wu ds)(ht:P.underlying dst=Wu (.int k'))(hx:opT E x=Wu (.lit (.int k n))):
  wF P Γ o E (E.app [(d,Wu (.lit (.int k' (k'.wrap n))))] [(d,0)]):=by
 refine zA5 _ rfl gg hd fun a w G gc=>?_
 have h1:=(xX gc hx).1;simp[execOp,ho,h1,convert,run_underlying hs,run_underlying ht,Conv.intToInt]
theorem zWb(c x y:Operand)(b:Bool)(t:T)(ho:o.op=.pick c x y)(gg:o.dst=Wu d)(hd:d<Γ.N)
  (hc:opT E c=Wu (.lit (.bool b)))(hx:opT E (if b then x else y)=Wu t)(ht:∀xs,t≠.tup xs)
  (gf:∀s,(if b then x else y)=.tmp s->s≠d)(gD:T.okB [(d,0)] (uY (if b then x else y) t)=Ww):wF P Γ o E (E.app [(d,Wu (uY (if b then x else y) t))] [(d,0)]):=by
 refine wF.value gg fun a w G gc=>?_
 obtain⟨f,hf,h1,h2⟩:=opd gc hx ht;obtain⟨h3,h4⟩:=h1 d gf gD;refine⟨a.eval (if b then x else y),w,?_,_,vJ gc rfl hd f hf _ _ h3 h4 h2⟩;have h5:=(xX gc hc).1;cases b<;>simp[execOp,ho,h5,asBool]
end
def qI(E:Env):Nat->Nat->List Nat->Option (Nat×List Nat×T)
 |0,_,_=>Wv
 |n+1,r,q=>match E r with
  |some t=>match t.get q.reverse with
   |some (.same r' q')=>qI E n r' q'
   |some u=>Wu (r,q,u)
   |none=>Wv
  |none=>Wv
def uP(E:Env):Operand->Option (Nat×List Nat×T)
 |.tmp s=>qI E 4 s []
 |_=>Wv
def T.single:T->Bool
 |.agg _|.tup _=>Wx
 |_=>Ww
theorem xH{s:Nat}{t:T}{p:List Nat}(h:t.single=Ww):mkV G s t p=G.hd s p:=by cases t<;>simp[T.single]at h<;>rfl
section
variable {P:Program}{Γ:Ctx}{E:Env}{o:Oper}{d:Nat}
theorem zCT{G:Gh}{a:Act}{w:World}(gc:Rep Γ E G a.tmps w):∀(n s:Nat)(p:List Nat)(r:Nat)(q:List Nat)(u:T),qI E n s p=Wu (r,q,u)->
  R Γ.St G w r u q/\G.hd s p=G.hd r q/\(∃t,E r=Wu t/\t.get q.reverse=Wu u)
 |0,_,_,_,_,_,h=>by simp[qI]at h
 |n+1,s,p,r,q,u,h=>by
  simp only[qI]at h;split at h
  ·rename_i t ht
   obtain⟨_,h4,_⟩:=gc.ent _ _ ht;split at h
   ·rename_i r' q' hg
    obtain⟨h1,h2,h3⟩:=zCT gc n r' q' r q u h;have h5:=(zA3 p.reverse t _ [] h4 hg).1;simp only[rp,K6,Jh,R]at h5;exact⟨h1,h5.trans h2,h3⟩
   ·rename_i u' hns hg
    simp at h;obtain⟨rfl,rfl,rfl⟩:=h;have h5:=(zA3 p.reverse t _ [] h4 hg).1;simp only[rp,K6,Jh]at h5;exact⟨h5,rfl,t,ht,hg⟩
   ·cases h
  ·cases h
theorem qJ{w:World}(gc:Rep Γ E G a.tmps w)(h:uP E x=Wu (r,q,u))(hu:u.single=Ww):
  R Γ.St G w r u q/\a.eval x=G.hd r q:=by
 cases x with
 |tmp s=>
  obtain⟨h1,h2,_⟩:=zCT gc 4 s [] r q u h;refine⟨h1,?_⟩;rw[<-h2];simp only[uP,qI]at h;split at h
  ·rename_i t ht
   obtain⟨h3,_,_⟩:=gc.ent s _ ht;rw[wH h3];simp only[Hk,T.get]at h;have:t.single=Ww:=by cases t<;>first|rfl|(simp at h;obtain⟨_,_,rfl⟩:=h;simp[T.single]at hu)
   exact xH this
  ·cases h
 |_=>simp[uP]at h
theorem zJW{w:World}{s:Nat}{p:List Nat}(h:R St G w s (.sl k xs) p):∃a c,G.hd s p=.slice a xs.length c:=by
 simp only[R]at h;rcases h with⟨rfl,a,h⟩|⟨b,_,cap,_,_,h,_⟩
 ·exact⟨a,0,h⟩
 ·exact⟨_,_,h⟩
theorem zCU{w:World}{s:Nat}{p:List Nat}(h:R St G w s (.ro (.sl k xs)) p):∃a c,G.hd s p=.slice a xs.length c/\xs.length<=c/\c<=maxLen/\
   (xs≠[]-> ∃b o' cs' e fr,a=Wu ⟨b,o',Wv⟩/\St b=Wu (.cells cs' e fr)/\RoL St xs cs' o' k):=by
 simp only[R,RoC]at h;obtain⟨a,c,h1,h2,h3,h4⟩:=h;exact⟨a,c,by simpa using h1,h2,h3,h4⟩
def zLn:T->Option Nat
 |.sl _ xs|.ro (.sl _ xs)=>Wu xs.length
 |.lit (.slice _ n _)=>Wu n
 |.lit (.string s)=>Wu s.size
 |_=>Wv
def zWc:T->TypeDesc->Bool
 |.lit (.string _),.string=>Ww
 |.sl _ _,.slice _|.ro (.sl _ _),.slice _|.lit (.slice _ _ _),.slice _=>Ww
 |_,_=>Wx
theorem zSn(x:Operand)(t:TypeId)(ds:TypeDesc)(r:Nat)(q:List Nat)(u:T)(n:Nat)(ho:o.op=.call { callee:=.builtin .len,args:=#[x],argTypes:=#[t] })(gg:o.dst=Wu d)(hd:d<Γ.N)
  (ht:P.underlying t=Wu ds)(hx:uP E x=Wu (r,q,u))(hl:zLn u=Wu n)(mG:zWc u ds=Ww):
  wF P Γ o E (E.app [(d,Wu (.lit (.int .i64 n)))] [(d,0)]):=by
 refine zA5 (.int .i64 n) rfl gg hd fun a w G gc=>?_
 have hu:u.single=Ww:=by cases u<;>simp[zLn]at hl<;>rfl
 obtain⟨h1,h2⟩:=qJ gc hx hu;have h3:(Builtin.len_ #[t] o.type #[G.hd r q]).run P w=.ok (.int .i64 n) w:=by
  cases u with
  |sl k xs=>
   obtain⟨a',c,h4⟩:=zJW h1;simp[zLn]at hl;subst hl;cases ds<;>simp[zWc]at mG
   simp[Builtin.len_,run_underlying ht,h4,goInt]
  |ro t'=>
   cases t'<;>simp[zLn]at hl
   obtain⟨a',c,h4,_⟩:=zCU h1;subst hl;cases ds<;>simp[zWc]at mG
   simp[Builtin.len_,run_underlying ht,h4,goInt]
  |lit v=>
   simp only[R]at h1;cases v<;>simp[zLn]at hl<;>(subst hl;cases ds<;>simp[zWc]at mG;simp[Builtin.len_,run_underlying ht,h1,goInt])
  |_=>simp[zLn]at hl
 simp[execOp,ho,resolve,invoke,builtin,h2,h3]
theorem zCs{w:World}{s:Nat}{t:T}{p:List Nat}{b o:Nat}(h:Loc G w s t p b o):G.ad s p=⟨b,o,Wv⟩:=by cases t<;>simp only[Loc]at h<;>first|exact h.1|exact h.elim
theorem uQ(b o n:Nat):(⟨b,o,Wv⟩:Addr).add n=⟨b,o+n,Wv⟩:=by
 unfold Addr.add;split
 ·rename_i h;subst h;rfl
 ·rfl
theorem zWd{w:World}{s:Nat}{p:List Nat}(h:R St G w s (.sl k xs) p)(hi:i<xs.length):
  ∃b o0 cap,G.hd s p=.slice (Wu ⟨b,o0,Wv⟩) xs.length cap/\G.ad s (i::p)=⟨b,o0+i*k,Wv⟩:=by
 simp only[R]at h;rcases h with⟨rfl,_⟩|⟨b,o0,cap,cs,e,h1,h2,h3,h4,h5,h6,h7,h8⟩
 ·simp at hi
 ·have:=(sY xs p 0 b o0 k i xs[i] h8 (by simp[hi])).1
  simp only[Jd]at this;exact⟨b,o0,cap,h1,zCs this⟩
theorem zSo(x y:Operand)(t e:TypeId)(ti:TypeInfo)(r:Nat)(q:List Nat)(k:Nat)(xs:List T)(kd:IntKind)(i:Int)(ho:o.op=.indexAddr t x y)(gg:o.dst=Wu d)(hd:d<Γ.N)
  (ht:P.underlying t=Wu (.slice e))(he:P.info? e=Wu ti)(hk:ti.size=k)(hx:uP E x=Wu (r,q,.sl k xs))(hy:opT E y=Wu (.lit (.int kd i)))(h0:0<=i)(h1:i.toNat<xs.length):
  wF P Γ o E (E.app [(d,Wu (.addr r (i.toNat::q)))] [(d,0)]):=by
 refine wF.value gg fun a w G gc=>?_
 obtain⟨g1,g2⟩:=qJ gc hx rfl;have g3:=(xX gc hy).1;obtain⟨b,o0,cap,g4,g5⟩:=zWd g1 h1;refine⟨.pointer (Wu (G.ad r (i.toNat::q))),w,?_,_,vJ gc rfl hd (fun _=>.pointer (Wu (G.ad r (i.toNat::q)))) (fun _=>rfl) _ _ (by simp[mkV,Gh.put]) (by simp[R,Gh.put]) (by simp[Top])⟩;have gI:i<(xs.length:Int):=by omega
 simp[execOp,ho,Instr.indexAt,g3,g2,g4,asIntOf,run_underlying ht,h0,gI,sizeOf,typeInfo,he,hk,uQ,g5]
theorem zG4{St:Stb}:(xs:List T)-> ∀(cs:Array Value)(o k i:Nat)(x:T),RoL St xs cs o k->xs[i]? =Wu x->RoC St x cs (o+i*k)
 | [],_,_,_,_,_,_,h=>by simp at h
 |y::ys,cs,o,k,i,x,hr,h=>by
  simp only[RoL]at hr;cases i with
  |zero=>simp at h;subst h;simpa using hr.1
  |succ i=>
   have:=zG4 ys cs (o+k) k i x hr.2 (by simpa using h)
   rwa [show o+(i+1)*k=o+k+i*k from by rw[Lo];omega]
theorem zOP{St:Stb}:(xs:List T)-> ∀(cs:Array Value)(o i:Nat)(x:T),RoF St xs cs o->xs[i]? =Wu x->RoC St x cs (o+T.sizes (xs.take i))
 | [],_,_,_,_,_,h=>by simp at h
 |y::ys,cs,o,i,x,hr,h=>by
  simp only[RoF]at hr;cases i with
  |zero=>simp at h;subst h;simpa[T.sizes]using hr.1
  |succ i=>
   have:=zOP ys cs (o+y.size) i x hr.2 (by simpa using h)
   rwa [La,T.sizes,<-H4]
theorem zSp(x y:Operand)(t e:TypeId)(ti:TypeInfo)(r:Nat)(q:List Nat)(k:Nat)(xs:List T)(kd:IntKind)(i:Int)(u:T)(ho:o.op=.indexAddr t x y)(gg:o.dst=Wu d)(hd:d<Γ.N)
  (ht:P.underlying t=Wu (.slice e))(he:P.info? e=Wu ti)(hk:ti.size=k)(hx:uP E x=Wu (r,q,.ro (.sl k xs)))(hy:opT E y=Wu (.lit (.int kd i)))(h0:0<=i)(h1:xs[i.toNat]? =Wu u):
  wF P Γ o E (E.app [(d,Wu (.ro (.ptr u)))] [(d,0)]):=by
 refine wF.value gg fun a w G gc=>?_
 obtain⟨g1,g2⟩:=qJ gc hx rfl;have g3:=(xX gc hy).1;have VC:i.toNat<xs.length:=(Jl.1 h1).1;obtain⟨a',c,g4,_,_,g5⟩:=zCU g1;obtain⟨b,o',cs',e',fr,rfl,g6,g7⟩:=g5 (by rintro rfl;simp at VC);have g8:=zG4 xs cs' o' k i.toNat u g7 h1;refine⟨.pointer (Wu ⟨b,o'+i.toNat*k,Wv⟩),w,?_,_,vJ gc rfl hd (fun _=>.pointer (Wu ⟨b,o'+i.toNat*k,Wv⟩)) (fun _=>rfl) _ _ (by simp[mkV,Gh.put]) ?_ (by simp[Top])⟩
 ·have gI:i<(xs.length:Int):=by omega
  simp[execOp,ho,Instr.indexAt,g3,g2,g4,asIntOf,run_underlying ht,h0,gI,sizeOf,typeInfo,he,hk,uQ]
 ·simp only[R,Gh.put_self,RoC]
  exact⟨b,_,cs',e',fr,by simp,g6,g8⟩
theorem zEm:(xs:List T)-> ∀{G:Gh}{w:World}{s:Nat}(p:List Nat)(j b o i:Nat)(x:T),vK G w s xs p j b o->xs[i]? =Wu x->
  Loc G w s x ((j+i)::p) b (o+T.sizes (xs.take i))
 | [],_,_,_,_,_,_,_,_,_,_,h=>by simp at h
 |y::ys,G,w,s,p,j,b,o,i,x,hr,h=>by
  simp only[vK]at hr;cases i with
  |zero=>simp at h;subst h;simpa[T.sizes]using hr.1
  |succ i=>
   have:=zEm ys p (j+1) b (o+y.size) i x hr.2 (by simpa using h)
   rwa [show j+(i+1)=j+1+i from by omega,La,T.sizes,<-H4]
theorem tO{P:Program}{w:World}(a:Addr):(Instr.sureAddr (.pointer (Wu a))).run P w=.ok a w:=rfl
theorem zCt{P:Program}{w:World}{S:TypeId}{fs:Array Field}{f:Field}{fi:TypeInfo}{j:Nat}{b o':Nat}(hS:P.underlying S=Wu (.struct fs))(hf:fs[j]? =Wu f)(hi:P.info? f.type=Wu fi)(hz:fi.size≠0):
  (Instr.fieldAt S (.pointer (Wu ⟨b,o',Wv⟩)) j).run P w=.ok (.pointer (Wu ⟨b,o'+f.offset,Wv⟩)) w:=by
 simp[Instr.fieldAt,run_underlying hS,hf,tO,fieldPlace,sizeOf,typeInfo,hi,hz,uQ]
theorem yAU(x:Operand)(S:TypeId)(fs:Array Field)(f:Field)(fi:TypeInfo)(j:Nat)(r:Nat)(q:List Nat)(xs:List T)(u:T)(ho:o.op=.fieldAddr S x j)(gg:o.dst=Wu d)(hd:d<Γ.N)
  (hS:P.underlying S=Wu (.struct fs))(hf:fs[j]? =Wu f)(hi:P.info? f.type=Wu fi)(hz:fi.size≠0)(hx:uP E x=Wu (r,q,.ptr (.agg xs)))(hu:xs[j]? =Wu u)(gH:T.sizes (xs.take j)=f.offset:=by omega):
  wF P Γ o E (E.app [(d,Wu (.addr r (j::0::q)))] [(d,0)]):=by
 refine wF.value gg fun a w G gc=>?_
 obtain⟨g1,g2⟩:=qJ gc hx rfl;simp only[R]at g1;obtain⟨b,cs,e,g4,_,_,_,g5,_⟩:=g1;simp only[Loc]at g5;have g6:=zEm xs (0::q) 0 b 0 j u g5.2 hu;simp only[Jd]at g6;refine⟨.pointer (Wu (G.ad r (j::0::q))),w,?_,_,vJ gc rfl hd (fun _=>.pointer (Wu (G.ad r (j::0::q)))) (fun _=>rfl) _ _ (by simp[mkV,Gh.put]) (by simp[R,Gh.put]) (by simp[Top])⟩;have g7:=zCt (w:=w) (b:=b) (o':=0) hS hf hi hz;simp[execOp,ho,g2,g4,g7,zCs g6,gH]
theorem zNq(x:Operand)(S:TypeId)(fs:Array Field)(f:Field)(fi:TypeInfo)(j:Nat)(r:Nat)(q:List Nat)(t:T)(xs:List T)(u:T)(ho:o.op=.fieldAddr S x j)(gg:o.dst=Wu d)(hd:d<Γ.N)
  (hS:P.underlying S=Wu (.struct fs))(hf:fs[j]? =Wu f)(hi:P.info? f.type=Wu fi)(hz:fi.size≠0)(hx:opT E x=Wu (.addr r q))(hr:E r=Wu t)(hg:t.get q.reverse=Wu (.agg xs))(hl:t.locd q.reverse=Ww)
  (hu:xs[j]? =Wu u)(gH:T.sizes (xs.take j)=f.offset:=by omega):
  wF P Γ o E (E.app [(d,Wu (.addr r (j::q)))] [(d,0)]):=by
 refine wF.value gg fun a w G gc=>?_
 cases x with
 |tmp s=>
  obtain⟨h1,h2,_⟩:=gc.ent s _ hx;obtain⟨_,h4,_⟩:=gc.ent r _ hr;simp only[R]at h2;obtain⟨b,o',cs,e,h6,_,_⟩:=(zA3 q.reverse t _ [] h4 hg).2 hl;simp only[rp,K6,Jh]at h6;have h7:=zCs h6;simp only[Loc]at h6;have g6:=zEm xs q 0 b o' j u h6.2 hu;simp only[Jd]at g6;refine⟨.pointer (Wu (G.ad r (j::q))),w,?_,_,vJ gc rfl hd (fun _=>.pointer (Wu (G.ad r (j::q)))) (fun _=>rfl) _ _ (by simp[mkV,Gh.put]) (by simp[R,Gh.put]) (by simp[Top])⟩;have g7:=zCt (w:=w) (b:=b) (o':=o') hS hf hi hz;simp[execOp,ho,wH h1,mkV,h2,h7,g7,zCs g6,gH]
 |const v=>simp only[opT]at hx;split at hx<;>simp at hx
 |func f=>simp[opT]at hx
 |global g=>simp[opT]at hx
theorem zGS{w:World}(gc:Rep Γ E G a.tmps w)(hx:opT E x=Wu (.ro u)):RoC Γ.St u #[a.eval x] 0:=by
 cases x with
 |tmp s=>
  obtain⟨h1,h2,_⟩:=gc.ent s _ hx;simp only[R]at h2;rw[wH h1,xH rfl];exact h2
 |const v=>simp only[opT]at hx;split at hx<;>simp at hx
 |func f=>simp[opT]at hx
 |global g=>simp[opT]at hx
theorem zSq(x:Operand)(S:TypeId)(fs:Array Field)(f:Field)(fi:TypeInfo)(j:Nat)(xs:List T)(u:T)(ho:o.op=.fieldAddr S x j)(gg:o.dst=Wu d)(hd:d<Γ.N)
  (hS:P.underlying S=Wu (.struct fs))(hf:fs[j]? =Wu f)(hi:P.info? f.type=Wu fi)(hz:fi.size≠0)(hx:opT E x=Wu (.ro (.ptr (.agg xs))))(hu:xs[j]? =Wu u)(gH:T.sizes (xs.take j)=f.offset:=by omega):
  wF P Γ o E (E.app [(d,Wu (.ro (.ptr u)))] [(d,0)]):=by
 refine wF.value gg fun a w G gc=>?_
 have h1:=zGS gc hx;simp only[RoC]at h1;obtain⟨b,o',cs',e,fr,h2,h3,h4⟩:=h1;have h5:=zOP xs cs' o' j u h4 hu;refine⟨.pointer (Wu ⟨b,o'+f.offset,Wv⟩),w,?_,_,vJ gc rfl hd (fun _=>.pointer (Wu ⟨b,o'+f.offset,Wv⟩)) (fun _=>rfl) _ _ (by simp[mkV,Gh.put]) ?_ (by simp[Top])⟩
 ·have g7:=zCt (w:=w) (b:=b) (o':=o') hS hf hi hz
  have h6:a.eval x=.pointer (Wu ⟨b,o',Wv⟩):=by simpa using h2
  simp[execOp,ho,h6,g7]
 ·simp only[R,Gh.put_self,RoC]
  exact⟨b,o'+f.offset,cs',e,fr,by simp,h3,by rw[<-gH];exact h5⟩
def zGT:TypeDesc->Bool
 |.struct _|.array _ _=>Ww
 |_=>Wx
theorem kD{P:Program}{w:World}{t:TypeId}{ds:TypeDesc}(ht:P.underlying t=Wu ds):(isAgg t).run P w=.ok (zGT ds) w:=by cases ds<;>simp[isAgg,run_underlying ht,zGT]
theorem vC{w:World}{s:Nat}{t:T}{p:List Nat}{b o:Nat}(ht:t.single=Ww)(h:Loc G w s t p b o):G.ad s p=⟨b,o,Wv⟩/\G.lb b o=Wu (Wx,s,p)/\yQ w b o=Wu (G.hd s p):=by cases t<;>simp[T.single]at ht<;>simpa only[Loc]using h
mutual
theorem zSr{G:Gh}{w:World}{s:Nat}:(t:T)-> ∀(p:List Nat)(b o:Nat),Loc G w s t p b o-> ∀(i:Nat)(v:Value),(vals G s t p)[i]? =Wu v->yQ w b (o+i)=Wu v
 |.agg xs,p,b,o,h,i,v,hv=>by simp only[Loc,vals]at h hv;exact zBu xs p 0 b o h.2 i v hv
 |.any,p,b,o,h,i,v,hv|.lit _,p,b,o,h,i,v,hv|.ro _,p,b,o,h,i,v,hv|.same _ _,p,b,o,h,i,v,hv|.addr _ _,p,b,o,h,i,v,hv|.sub _ _ _ _ _,p,b,o,h,i,v,hv|.sl _ _,p,b,o,h,i,v,hv|.ptr _,p,b,o,h,i,v,hv|.mp _ _,p,b,o,h,i,v,hv=>by
  simp only[Loc,vals]at h hv;cases i with
  |zero=>simp at hv;rw[<-hv];exact h.2.2
  |succ i=>simp at hv
 |.tup _,_,_,_,h,_,_,_=>by simp only[Loc]at h
theorem zBu{G:Gh}{w:World}{s:Nat}:(xs:List T)-> ∀(p:List Nat)(j b o:Nat),vK G w s xs p j b o-> ∀(i:Nat)(v:Value),(yJ G s xs p j)[i]? =Wu v->yQ w b (o+i)=Wu v
 | [],_,_,_,_,_,i,v,hv=>by simp[yJ]at hv
 |x::xs,p,j,b,o,h,i,v,hv=>by
  simp only[vK,yJ]at h hv;rw[Km]at hv;split at hv
  ·exact zSr x (j::p) b o h.1 i v hv
  ·rename_i hge
   have gm:=vG (G:=G) (s:=s) x (j::p) (fun ys e=>by subst e;simp only[Loc]at h;exact h.1);have:=zBu xs p (j+1) b (o+x.size) h.2 _ v hv
   rwa [show o+x.size+(i-(vals G s x (j::p)).length)=o+i from by omega]at this
theorem vG{G:Gh}{s:Nat}:(t:T)-> ∀(p:List Nat),(∀xs,t≠.tup xs)->(vals G s t p).length=t.size
 |.agg xs,p,_=>by simp only[vals,T.size];exact wS xs p 0
 |.any,_,_|.lit _,_,_|.ro _,_,_|.same _ _,_,_|.addr _ _,_,_|.sub _ _ _ _ _,_,_|.sl _ _,_,_|.ptr _,_,_|.mp _ _,_,_|.tup _,_,_=>by simp[vals,T.size]
theorem wS{G:Gh}{s:Nat}:(xs:List T)-> ∀(p:List Nat)(j:Nat),(yJ G s xs p j).length=T.sizes xs
 | [],_,_=>by simp[yJ,T.sizes]
 |x::xs,p,j=>by
  simp only[yJ,J5,T.sizes,wS xs p (j+1)]
  by_cases hx:∃ys,x=.tup ys
  ·obtain⟨ys,rfl⟩:=hx;simp[vals,T.size]
  ·rw[vG x (j::p) (fun ys e=>hx ⟨ys,e⟩)]
end
theorem zFY{P:Program}{w:World}{s:Nat}{t:T}{p:List Nat}{b o':Nat}{T':TypeId}{ds:TypeDesc}(hT:P.underlying T'=Wu ds)(hi:P.info? T'=Wu ti)(hl:Loc G w s t p b o')
  (fg:zGT ds= !t.single)(gv:ti.size=t.size):(loadVar T' ⟨b,o',Wv⟩).run P w=.ok (sB G s t p) w:=by
 cases t with
 |agg xs=>
  have h1:=run_loadCells_list (P:=P) (w:=w) ⟨b,o',Wv⟩ (yJ G s xs p 0) (fun j v hv=>by rw[uQ];simp only[Loc]at hl;exact zBu xs p 0 b o' hl.2 j v hv)
  rw[wS]at h1;simp only[T.size]at gv;simp[T.single]at fg;simp[loadVar,kD hT,fg,sizeOf,typeInfo,hi,gv,h1,sB]
 |tup xs=>simp only[Loc]at hl
 |_=>
  have h1:=(vC rfl hl).2.2;simp[T.single]at fg;simp only[yQ]at h1;simp[loadVar,kD hT,fg,load,Sem.run,h1,sB]
def zAW(Γ:Ctx)(E:Env)(x:Operand)(r:Nat)(q:List Nat):Prop:=∀(a:Act)(w:World)(G:Gh),Rep Γ E G a.tmps w->a.eval x=.pointer (Wu (G.ad r q))
theorem zAW.addr(hx:opT E x=Wu (.addr r q)):zAW Γ E x r q:=fun a w G gc=>by
 cases x with
 |tmp s=>
  obtain⟨h1,h2,_⟩:=gc.ent s _ hx;simp only[R]at h2;rw[wH h1];exact h2
 |const v=>simp only[opT]at hx;split at hx<;>simp at hx
 |func f=>simp[opT]at hx
 |global g=>simp[opT]at hx
theorem zAW.ptr{t:T}(hx:uP E x=Wu (r,q,.ptr t)):zAW Γ E x r (0::q):=fun a w G gc=>by obtain⟨g1,g2⟩:=qJ gc hx rfl;simp only[R]at g1;obtain⟨b,cs,e,g4,_,_,_,g5,_⟩:=g1;rw[g2,g4,zCs g5]
theorem zLo(x:Operand)(T':TypeId)(ds:TypeDesc)(ti:TypeInfo)(r:Nat)(q:List Nat)(t u:T)(ho:o.op=.load T' x)(gg:o.dst=Wu d)(hd:d<Γ.N)
  (hT:P.underlying T'=Wu ds)(hi:P.info? T'=Wu ti)(fg:zGT ds= !u.single)(gv:ti.size=u.size)
  (hx:zAW Γ E x r q)(hr:E r=Wu t)(hg:t.get q.reverse=Wu u)(hl:t.locd q.reverse=Ww)(gJ:r≠d)(gD:T.okB [(d,0)] (cpT r u q)=Ww):
  wF P Γ o E (E.app [(d,Wu (cpT r u q))] [(d,0)]):=by
 refine wF.value gg fun a w G gc=>?_
 have ag:=hx a w G gc;obtain⟨_,h4,_⟩:=gc.ent r _ hr;obtain⟨h5,h6⟩:=zA3 q.reverse t u [] h4 hg;obtain⟨b,o',cs,e,h6,_,_⟩:=h6 hl;simp only[rp,K6,Jh]at h5 h6;have ei:∀xs,u≠.tup xs:=by rintro xs rfl;simp only[Loc]at h6
 have h7:=zCs h6;have hz:∀z,(G.put d (fun z=>G.hd r (z++q))).hd d (z++[])=G.hd r (z++q):=fun z=>by rw[Gh.put_self,Jh]
 have hk:=G.put_keep (w:=w) (w':=w) rfl d (fun z=>G.hd r (z++q));refine⟨sB G r u q,w,?_,_,vJ gc rfl hd (fun z=>G.hd r (z++q)) (fun z=>gc.mem.one _ _) _ _ (zA4 u q [] ei hz).symm
  (zDE (fun p=>G.put_other _ p gJ) u q [] hz ei (hk.keepR (zAr _ (qH r u q) gD)) h5) (qH r u q)⟩
 have h8:=zFY (T':=T') hT hi h6 fg gv;simp[execOp,ho,ag,h7,Instr.loadAt,tO,h8]
theorem zWe(x:Operand)(T':TypeId)(ds:TypeDesc)(ti:TypeInfo)(r:Nat)(q:List Nat)(t u:T)(ho:o.op=.load T' x)(gg:o.dst=Wu d)(hd:d<Γ.N)
  (hT:P.underlying T'=Wu ds)(hi:P.info? T'=Wu ti)(fg:zGT ds= !u.single)(gv:ti.size=u.size)
  (hx:opT E x=Wu (.addr r q))(hr:E r=Wu t)(hg:t.get q.reverse=Wu u)(hl:t.locd q.reverse=Ww)(gJ:r≠d)(gD:T.okB [(d,0)] (cpT r u q)=Ww):
  wF P Γ o E (E.app [(d,Wu (cpT r u q))] [(d,0)]):=zLo x T' ds ti r q t u ho gg hd hT hi fg gv (zAW.addr hx) hr hg hl gJ gD
def roT:T->T
 |.lit v=>.lit v
 |.agg xs=>.agg (roTs xs)
 |.ro t=>.ro (.ro t)
 |.any=>.any
 |.same r q=>.ro (.same r q)
 |.addr r q=>.ro (.addr r q)
 |.sub r q k lo hi=>.ro (.sub r q k lo hi)
 |.sl k xs=>.ro (.sl k xs)
 |.ptr t=>.ro (.ptr t)
 |.tup xs=>.ro (.tup xs)
 |.mp ks xs=>.ro (.mp ks xs)
where roTs:List T->List T
 | []=>[]
 |x::xs=>roT x::roTs xs
end
def kE(v:Value):Value:=if v.oneCell' then v else .bool Wx
theorem zBv(v:Value):(kE v).oneCell'=Ww:=by
 unfold kE;split
 ·assumption
 ·rfl
theorem zAs(h:v.oneCell'=Ww):kE v=v:=by simp[kE,h]
def zDG:T->Array Value->Nat->List Nat->Value
 |.agg xs,cs,o,i::f=>match xs[i]? with
  |some x=>zDG x cs (o+T.sizes (xs.take i)) f
  |none=>.bool Wx
 |_,cs,o,_=>cs.getD o (.bool Wx)
termination_by structural _ _ _ f=>f
theorem zAX{t:T}(h:t.single=Ww)(cs:Array Value)(o:Nat)(f:List Nat):zDG t cs o f=cs.getD o (.bool Wx):=by cases t<;>simp[T.single]at h<;>cases f<;>rfl
mutual
theorem zEn:(u:T)->(∀xs,u≠.tup xs)->(roT u).size=u.size
 |.agg xs,_=>by simp only[roT,T.size];exact zFo xs
 |.lit _,_|.any,_|.sl _ _,_|.ptr _,_|.mp _ _,_|.ro _,_|.same _ _,_|.addr _ _,_|.sub _ _ _ _ _,_|.tup _,_=>by simp[roT,T.size]
theorem zFo:(xs:List T)->T.sizes (roT.roTs xs)=T.sizes xs
 | []=>by simp only[roT.roTs]
 |x::xs=>by
  simp only[roT.roTs,T.sizes,zFo xs]
  by_cases hx:∃ys,x=.tup ys
  ·obtain⟨ys,rfl⟩:=hx;simp[roT,T.size]
  ·rw[zEn x (fun ys e=>hx ⟨ys,e⟩)]
end
section
variable {St:Stb}{G:Gh}{w:World}{d:Nat}
theorem zEo{cs:Array Value}{o:Nat}(hu:u.single=Ww)(h:RoC St u cs o):∃v,cs[o]? =Wu v/\v.oneCell'=Ww/\RoC St u #[v] 0:=by
 cases u<;>simp[T.single]at hu<;>simp only[RoC]at h ⊢
 ·obtain⟨v,h1,h2⟩:=h;exact⟨v,h1,h2,v,by simp,h2⟩
 ·exact⟨_,h.1,h.2,by simp,h.2⟩
 ·obtain⟨f,vs,h1,h2⟩:=h;exact⟨_,h1,rfl,f,vs,by simp,h2⟩
 ·obtain⟨a,c,h1,h2⟩:=h;exact⟨_,h1,rfl,a,c,by simp,h2⟩
 ·obtain⟨b,o',cs',e,fr,h1,h2⟩:=h;exact⟨_,h1,rfl,b,o',cs',e,fr,by simp,h2⟩
mutual
theorem zSs:(u:T)-> ∀(cs:Array Value)(o:Nat)(p:List Nat),(∀z,G.hd d (z++p)=kE (zDG u cs o z.reverse))->RoC St u cs o->R St G w d (roT u) p
 |.agg xs,cs,o,p,hd,h=>by
  simp only[roT,R,RoC]at h ⊢
  exact zSt xs cs o p 0 o (by simp) (fun z j x hx=>by have:=hd (z++[j]);simp only[Jg,K0,Js,Qx,Ly,Hk,zDG]at this;rw[Jd,this];simp[hx]) h
 |.lit v,cs,o,p,hd,h=>by
  simp only[roT,R,RoC]at h ⊢
  have:=hd [];rw[Js,zAX rfl]at this;rw[this];simp[Kk,h.1,zAs h.2]
 |.any,_,_,_,_,_=>by simp only[roT,R]
 |.ro _,cs,o,p,hd,h|.sl _ _,cs,o,p,hd,h|.ptr _,cs,o,p,hd,h|.mp _ _,cs,o,p,hd,h=>by obtain⟨v,h1,h2,h3⟩:=zEo rfl h;have:=hd [];rw[Js,zAX rfl]at this;simp only[roT,R];rw[this];simpa[Kk,h1,zAs h2]using h3
 |.same _ _,_,_,_,_,h|.addr _ _,_,_,_,_,h|.sub _ _ _ _ _,_,_,_,_,h|.tup _,_,_,_,_,h=>by simp only[RoC]at h
theorem zSt:(xs:List T)-> ∀(cs:Array Value)(o0:Nat)(p:List Nat)(j o:Nat),o0<=o->(∀z i x,xs[i]? =Wu x->G.hd d (z++((j+i)::p))=kE (zDG x cs (o+T.sizes (xs.take i)) z.reverse))->RoF St xs cs o->RF St G w d (roT.roTs xs) p j
 | [],_,_,_,_,_,_,_,_=>by simp only[roT.roTs,RF]
 |x::xs,cs,o0,p,j,o,ho,hd,h=>by
  simp only[roT.roTs,RF,RoF]at h ⊢
  refine⟨zSs x cs o (j::p) (fun z=>by simpa[T.sizes]using hd z 0 x (by simp)) h.1,zSt xs cs o0 p (j+1) (o+x.size) (by omega) (fun z i y hy=>?_) h.2⟩;have:=hd z (i+1) y (by simpa using hy);simp only[La,T.sizes]at this;rw[show j+1+i=j+(i+1)from by omega,show o+x.size+T.sizes (xs.take i)=o+(x.size+T.sizes (xs.take i))from H4 ..];exact this
end
mutual
theorem zGU:(u:T)-> ∀(cs:Array Value)(o:Nat)(p:List Nat),(∀z,G.hd d (z++p)=kE (zDG u cs o z.reverse))->RoC St u cs o-> ∀(i:Nat)(v:Value),(vals G d (roT u) p)[i]? =Wu v->cs[o+i]? =Wu v
 |.agg xs,cs,o,p,hd,h,i,v,hv=>by
  simp only[roT,vals,RoC]at h hv;exact zIT xs cs p 0 o (fun z j x hx=>by have:=hd (z++[j]);simp only[Jg,K0,Js,Qx,Ly,Hk,zDG]at this;rw[Jd,this];simp[hx]) h i v hv
 |.lit _,cs,o,p,hd,h,i,v,hv|.ro _,cs,o,p,hd,h,i,v,hv|.any,cs,o,p,hd,h,i,v,hv|.sl _ _,cs,o,p,hd,h,i,v,hv|.ptr _,cs,o,p,hd,h,i,v,hv|.mp _ _,cs,o,p,hd,h,i,v,hv=>by
  obtain⟨v',h1,h2,h3⟩:=zEo rfl h;have:=hd [];rw[Js,zAX rfl]at this;simp only[roT,vals]at hv;cases i with
  |zero=>
   simp at hv;rw[<-hv,this];simp[Kk,h1,zAs h2]
  |succ i=>simp at hv
 |.same _ _,_,_,_,_,h,_,_,_|.addr _ _,_,_,_,_,h,_,_,_|.sub _ _ _ _ _,_,_,_,_,h,_,_,_|.tup _,_,_,_,_,h,_,_,_=>by simp only[RoC]at h
theorem zIT:(xs:List T)-> ∀(cs:Array Value)(p:List Nat)(j o:Nat),(∀z i x,xs[i]? =Wu x->G.hd d (z++((j+i)::p))=kE (zDG x cs (o+T.sizes (xs.take i)) z.reverse))->RoF St xs cs o-> ∀(i:Nat)(v:Value),(yJ G d (roT.roTs xs) p j)[i]? =Wu v->cs[o+i]? =Wu v
 | [],_,_,_,_,_,_,i,v,hv=>by simp[roT.roTs,yJ]at hv
 |x::xs,cs,p,j,o,hd,h,i,v,hv=>by
  simp only[roT.roTs,yJ,RoF]at h hv;have hx:∀z,G.hd d (z++(j::p))=kE (zDG x cs o z.reverse):=fun z=>by simpa[T.sizes]using hd z 0 x (by simp)
  have gm:(vals G d (roT x) (j::p)).length=x.size:=by have hs:(roT x).size=x.size:=zEn x (fun ys e=>by subst e;simp only[RoC]at h;exact h.1);rw[vG (roT x) (j::p) (fun ys e=>by cases x<;>simp[roT]at e),hs]
  rw[Km]at hv;split at hv
  ·exact zGU x cs o (j::p) hx h.1 i v hv
  ·have:=zIT xs cs p (j+1) (o+x.size) (fun z i y hy=>by
    have:=hd z (i+1) y (by simpa using hy);simp only[La,T.sizes]at this;rw[show j+1+i=j+(i+1)from by omega,show o+x.size+T.sizes (xs.take i)=o+(x.size+T.sizes (xs.take i))from H4 ..];exact this) h.2 _ v hv
   rwa [gm,show o+x.size+(i-x.size)=o+i from by omega]at this
end
mutual
theorem zOQ:(u:T)->Top (roT u)
 |.agg xs=>by simp only[roT,Top];exact zLp xs
 |.lit _|.any|.sl _ _|.ptr _|.mp _ _|.ro _|.same _ _|.addr _ _|.sub _ _ _ _ _|.tup _=>by simp[roT,Top]
theorem zLp:(xs:List T)->vV (roT.roTs xs)
 | []=>by simp only[roT.roTs,vV]
 |x::xs=>by simp only[roT.roTs,vV];exact⟨zOQ x,zLp xs⟩
end
end
section
variable {P:Program}{Γ:Ctx}{E:Env}{o:Oper}{d:Nat}
theorem zJX{w:World}(hm:Mem Γ G w){b:Nat}{cs:Array Value}{fr:Nat×Nat}(h:Γ.St b=Wu (.cells cs e fr))(i:Nat):w.cell? ⟨b,i,Wv⟩=cs[i]?:=by simp[World.cell?,hm.st b _ h]
theorem zNr(x:Operand)(T':TypeId)(ds:TypeDesc)(ti:TypeInfo)(u:T)(ho:o.op=.load T' x)(gg:o.dst=Wu d)(hd:d<Γ.N)
  (hT:P.underlying T'=Wu ds)(hi:P.info? T'=Wu ti)(fg:zGT ds= !u.single)(gv:ti.size=u.size)
  (hx:opT E x=Wu (.ro (.ptr u))):wF P Γ o E (E.app [(d,Wu (roT u))] [(d,0)]):=by
 refine wF.value gg fun a w G gc=>?_
 have h1:=zGS gc hx;simp only[RoC]at h1;obtain⟨b,o',cs',e,fr,h2,h3,h4⟩:=h1;have fP:a.eval x=.pointer (Wu ⟨b,o',Wv⟩):=by simpa using h2
 have ei:∀xs,u≠.tup xs:=by rintro xs rfl;simp only[RoC]at h4
 let f:List Nat->Value:=fun z=>kE (zDG u cs' o' z.reverse)
 have hz:∀z,(G.put d f).hd d (z++[])=kE (zDG u cs' o' z.reverse):=fun z=>by rw[Gh.put_self,Jh]
 refine⟨mkV (G.put d f) d (roT u) [],w,?_,_,vJ gc rfl hd f (fun z=>zBv _) _ _ rfl (zSs u cs' o' [] hz h4) (zOQ u)⟩;cases u with
 |agg xs=>
  have h5:∀j v,(yJ (G.put d f) d (roT.roTs xs) [] 0)[j]? =Wu v->w.cell? ((⟨b,o',Wv⟩:Addr).add j)=Wu v:=by intro j v hv;rw[uQ,zJX gc.mem h3];exact zGU (.agg xs) cs' o' [] hz h4 j v (by simpa only[roT,vals]using hv)
  have h6:=run_loadCells_list (P:=P) (w:=w) ⟨b,o',Wv⟩ _ h5;rw[wS,zFo]at h6;simp only[T.size]at gv;simp[T.single]at fg;simp[execOp,ho,fP,Instr.loadAt,tO,loadVar,kD hT,fg,sizeOf,typeInfo,hi,gv,h6,mkV,roT]
 |tup xs=>exact absurd rfl (ei xs)
 |_=>
  obtain⟨v,h5,h6,h7⟩:=zEo rfl h4;have h8:w.cell? ⟨b,o',Wv⟩=Wu v:=by rw[zJX gc.mem h3];exact h5
  simp[T.single]at fg;have h9:f []=v:=by show kE (zDG _ cs' o' _)=v;rw[zAX rfl];simp[Kk,h5,zAs h6]
  simp[execOp,ho,fP,Instr.loadAt,tO,loadVar,kD hT,fg,load,Sem.run,h8,mkV,roT,Gh.put_self,h9]
def zFZ(E:Env)(x:Operand):Bool:=
 match opT E x with
 |some (.addr _ _)|some (.ro (.ptr _))=>Ww
 |_=>match uP E x with
  |some (_,_,.ptr _)=>Ww
  |some (_,_,.ro (.ptr _))=>Ww
  |_=>Wx
theorem zSu{w:World}(gc:Rep Γ E G a.tmps w)(h:zFZ E x=Ww):∃ad,a.eval x=.pointer (Wu ad):=by
 unfold zFZ at h;split at h
 ·rename_i r q hx
  cases x with
  |tmp s=>
   obtain⟨h1,h2,_⟩:=gc.ent s _ hx;simp only[R]at h2;exact⟨_,by rw[wH h1,xH rfl,h2]⟩
  |const v=>simp only[opT]at hx;split at hx<;>simp at hx
  |func f=>simp[opT]at hx
  |global g=>simp[opT]at hx
 ·rename_i u hx
  have:=zGS gc hx;simp only[RoC]at this;obtain⟨b,o',_,_,_,h1,_⟩:=this;exact⟨_,by simpa using h1⟩
 ·split at h
  ·rename_i hl
   obtain⟨h1,h2⟩:=qJ gc hl rfl;simp only[R]at h1;obtain⟨b,cs,e,h3,_⟩:=h1;exact⟨_,by rw[h2,h3]⟩
  ·rename_i hl
   obtain⟨h1,h2⟩:=qJ gc hl rfl;simp only[R,RoC]at h1;obtain⟨b,o',_,_,_,h3,_⟩:=h1;exact⟨_,by rw[h2];simpa using h3⟩
  ·cases h
theorem zZj(x:Operand)(t:T)(ho:o.op=.nilCheck x)(gg:o.dst=Wu d)(hd:d<Γ.N)(hx:opT E x=Wu t)(hp:zFZ E x=Ww)(ht:∀xs,t≠.tup xs)
  (gf:∀s,x=.tmp s->s≠d)(gD:T.okB [(d,0)] (uY x t)=Ww):wF P Γ o E (E.app [(d,Wu (uY x t))] [(d,0)]):=by
 refine wF.value gg fun a w G gc=>?_
 obtain⟨f,hf,h1,h2⟩:=opd gc hx ht;obtain⟨h3,h4⟩:=h1 d gf gD;obtain⟨ad,h5⟩:=zSu gc hp;refine⟨a.eval x,w,?_,_,vJ gc rfl hd f hf _ _ h3 h4 h2⟩;simp[execOp,ho,h5]
theorem zLq{G:Gh}{s:Nat}:(xs:List T)-> ∀(p:List Nat)(j i:Nat)(x:T),xs[i]? =Wu x->(kA G s xs p j)[i]? =Wu (sB G s x ((j+i)::p))
 | [],_,_,_,_,h=>by simp at h
 |y::ys,p,j,i,x,h=>by
  cases i with
  |zero=>simp at h;subst h;simp[kA]
  |succ i=>
   have:=zLq (G:=G) (s:=s) ys p (j+1) i x (by simpa using h);rw[show j+(i+1)=j+1+i from by omega];simpa[kA]using this
theorem zNs(s i:Nat)(ts:List T)(t:T)(ho:o.op=.extract (.tmp s) i)(gg:o.dst=Wu d)(hd:d<Γ.N)(hs:E s=Wu (.tup ts))(hi:ts[i]? =Wu t)(ht:∀xs,t≠.tup xs)
  (gf:s≠d)(gD:T.okB [(d,0)] (cpT s t [i])=Ww):wF P Γ o E (E.app [(d,Wu (cpT s t [i]))] [(d,0)]):=by
 refine wF.value gg fun a w G gc=>?_
 obtain⟨h1,h2,_⟩:=gc.ent s _ hs;simp only[R]at h2;have h3:=zBk ts [] 0 i t h2 hi;simp only[Jd]at h3;have h4:=zLq (G:=G) (s:=s) ts [] 0 i t hi;simp only[Jd]at h4;have hk:=G.put_keep (w:=w) (w':=w) rfl d (fun z=>G.hd s (z++[i]));have hz:∀z,(G.put d (fun z=>G.hd s (z++[i]))).hd d (z++[])=G.hd s (z++[i]):=fun z=>by rw[Gh.put_self,Jh]
 refine⟨sB G s t [i],w,?_,_,vJ gc rfl hd (fun z=>G.hd s (z++[i])) (fun z=>gc.mem.one _ _) _ _ (zA4 t [i] [] ht hz).symm
  (zDE (fun p=>G.put_other _ p gf) t [i] [] hz ht (hk.keepR (zAr _ (qH s t [i]) gD)) h3) (qH s t [i])⟩
 simp[execOp,ho,wH h1,mkV,Instr.extract,h4]
def zBK(E:Env)(x:Option Operand)(dflt n:Nat):Prop:=
 match x with
 |none=>n=dflt
 |some y=> ∃kd,opT E y=Wu (.lit (.int kd n))
theorem zGV{St:Stb}:(xs:List T)-> ∀(cs:Array Value)(o k l:Nat),RoL St xs cs o k->RoL St (xs.drop l) cs (o+l*k) k
 | [],_,_,_,_,_=>by simp[RoL]
 |x::xs,cs,o,k,l,h=>by
  cases l with
  |zero=>simpa using h
  |succ l=>
   simp only[RoL]at h;have:=zGV xs cs (o+k) k l h.2
   rwa [List.drop_succ_cons,show o+(l+1)*k=o+k+l*k from by rw[Lo];omega]
theorem zGW{St:Stb}:(xs:List T)-> ∀(cs:Array Value)(o k l:Nat),RoL St xs cs o k->RoL St (xs.take l) cs o k
 | [],_,_,_,_,_=>by simp[RoL]
 |x::xs,cs,o,k,l,h=>by
  cases l with
  |zero=>simp[RoL]
  |succ l=>simp only[RoL,La]at h ⊢;exact⟨h.1,zGW xs cs _ k l h.2⟩
theorem zCV{P:Program}{w:World}(gc:Rep Γ E G a.tmps w){kd:IntKind}{y:Nat}{c:BoundsCode}(hx:opT E x=Wu (.lit (.int kd n)))(h:n<=y):
  (Instr.sliceBound (a.eval x) y c).run P w=.ok n w:=by
 rw[(xX gc hx).1];have:(n:Int)<=(y:Int):=by omega
 simp[Instr.sliceBound,asIntOf,this]
theorem zGX{P:Program}{w:World}(gc:Rep Γ E G a.tmps w){lo hi:Option Operand}{l h c:Nat}(eg:zBK E lo 0 l)(fx:zBK E hi n h)(h1:l<=h)(h2:h<=c):
  (Instr.sliceBounds Ww n c (lo.map a.eval) (hi.map a.eval) Wv).run P w=.ok (l,h,c) w:=by
 cases lo with
 |none=>
  cases hi with
  |none=>simp only[zBK]at eg fx;subst eg;subst fx;simp[Instr.sliceBounds]
  |some y=>simp only[zBK]at eg fx;obtain⟨kd,hy⟩:=fx;subst eg;simp[Instr.sliceBounds,zCV gc hy h2]
 |some x=>
  obtain⟨kd,hx⟩:=eg;cases hi with
  |none=>simp only[zBK]at fx;subst fx;simp[Instr.sliceBounds,zCV gc hx h1]
  |some y=>obtain⟨kd',hy⟩:=fx;simp[Instr.sliceBounds,zCV gc hy h2,zCV gc hx h1]
theorem zLr(x:Operand)(lo hi:Option Operand)(t e:TypeId)(ti:TypeInfo)(r:Nat)(q:List Nat)(k:Nat)(xs:List T)(l h:Nat)(ho:o.op=.slice t x lo hi Wv)(gg:o.dst=Wu d)(hd:d<Γ.N)
  (ht:P.underlying t=Wu (.slice e))(he:P.info? e=Wu ti)(hk:ti.size=k)(hx:uP E x=Wu (r,q,.ro (.sl k xs)))(eg:zBK E lo 0 l)(fx:zBK E hi xs.length h)(h1:l<=h)(h2:h<=xs.length):
  wF P Γ o E (E.app [(d,Wu (.ro (.sl k ((xs.drop l).take (h-l)))))] [(d,0)]):=by
 refine wF.value gg fun a w G gc=>?_
 obtain⟨g1,g2⟩:=qJ gc hx rfl;obtain⟨a',c,g4,g5,g6,g7⟩:=zCU g1;have g8:=zGX (P:=P) gc eg fx h1 (U1 h2 g5);have gm:((xs.drop l).take (h-l)).length=h-l:=by simp;omega
 refine⟨.slice (if c=l then a' else a'.map (·.add (l*k))) (h-l) (c-l),w,?_,_,vJ gc rfl hd (fun _=>.slice (if c=l then a' else a'.map (·.add (l*k))) (h-l) (c-l)) (fun _=>rfl) _ _ (by simp[mkV,Gh.put]) ?_ (by simp[Top])⟩
 ·simp only[execOp,ho,Jaw]
  simp[Instr.sliceAt,Instr.slice,run_underlying ht,g2,g4,g8,sizeOf,typeInfo,he,hk]
 ·simp only[R,Gh.put_self,RoC]
  refine⟨_,_,by rw[gm];rfl,by omega,by omega,?_⟩;intro gf;have eH:xs≠[]:=by rintro rfl;simp at gf
  obtain⟨b,o',cs',e',fr,rfl,h3,h4⟩:=g7 eH;have gF:c≠l:=by rintro rfl;apply gf;apply Jj;omega
  exact⟨b,o'+l*k,cs',e',fr,by simp[gF,uQ],h3,zGW _ _ _ _ _ (zGV _ _ _ _ _ h4)⟩
theorem zJY(x:Operand)(lo hi:Option Operand)(t e:TypeId)(ti:TypeInfo)(r:Nat)(q:List Nat)(k:Nat)(xs:List T)(l h:Nat)(ho:o.op=.slice t x lo hi Wv)(gg:o.dst=Wu d)(hd:d<Γ.N)
  (ht:P.underlying t=Wu (.slice e))(he:P.info? e=Wu ti)(hk:ti.size=k)(hx:uP E x=Wu (r,q,.sl k xs))(eg:zBK E lo 0 l)(fx:zBK E hi xs.length h)(h1:l<=h)(h2:h<=xs.length)(gJ:r≠d):
  wF P Γ o E (E.app [(d,Wu (.sub r q k l h))] [(d,0)]):=by
 refine wF.value gg fun a w G gc=>?_
 obtain⟨g1,g2⟩:=qJ gc hx rfl;obtain⟨a',c,g4⟩:=zJW g1;have g5:xs.length<=c:=by
  simp only[R]at g1;rcases g1 with⟨rfl,_⟩|⟨b,o0,cap,cs,e,g,_,g',_⟩
  ·simp
  ·rw[g4]at g;simp at g;omega
 have g8:=zGX (P:=P) gc eg fx h1 (U1 h2 g5);refine⟨zBs (G.hd r q) k l h,w,?_,_,vJ gc rfl hd (fun _=>zBs (G.hd r q) k l h) (fun _=>by rw[g4];rfl) _ _ (by simp[mkV,Gh.put]) ?_ (by simp[Top])⟩
 ·simp only[execOp,ho,Jaw]
  simp[Instr.sliceAt,Instr.slice,run_underlying ht,g2,g4,g8,sizeOf,typeInfo,he,hk,zBs]
 ·simp only[R,Gh.put_self]
  rw[Gh.put_other _ _ _ gJ]
end
def T.inT:T->List Nat->Bool
 |_,[]=>Ww
 |.agg xs,i::f=>match xs[i]? with
  |some x=>x.inT f
  |none=>Wx
 |.any,_::_|.lit _,_::_|.ro _,_::_|.same _ _,_::_|.addr _ _,_::_|.sub _ _ _ _ _,_::_|.sl _ _,_::_|.ptr _,_::_|.mp _ _,_::_|.tup _,_::_=>Wx
termination_by structural _ f=>f
def T.offT:T->List Nat->Nat
 |_,[]=>0
 |.agg xs,i::f=>match xs[i]? with
  |some x=>T.sizes (xs.take i)+x.offT f
  |none=>0
 |.any,_::_|.lit _,_::_|.ro _,_::_|.same _ _,_::_|.addr _ _,_::_|.sub _ _ _ _ _,_::_|.sl _ _,_::_|.ptr _,_::_|.mp _ _,_::_|.tup _,_::_=>0
termination_by structural _ f=>f
theorem zGY{t:T}(h:t.single=Ww)(hf:f≠[]):t.inT f=Wx:=by
 cases f with
 |nil=>grind
 |cons i f=>cases t<;>simp[T.single]at h<;>rfl
mutual
def zSv:T->List Nat->Nat->Option (List Nat)
 |.agg xs,p,o=>zCu xs p 0 o
 |.any,p,o|.lit _,p,o|.ro _,p,o|.same _ _,p,o|.addr _ _,p,o|.sub _ _ _ _ _,p,o|.sl _ _,p,o|.ptr _,p,o|.mp _ _,p,o|.tup _,p,o=>if o=0 then Wu p else Wv
def zCu:List T->List Nat->Nat->Nat->Option (List Nat)
 | [],_,_,_=>Wv
 |x::xs,p,j,o=>if o<x.size then zSv x (j::p) o else zCu xs p (j+1) (o-x.size)
end
mutual
def T.okTup:T->Bool
 |.tup _=>Wx
 |.agg xs=>yU xs
 |.any|.lit _|.ro _|.same _ _|.addr _ _|.sub _ _ _ _ _|.sl _ _|.ptr _|.mp _ _=>Ww
def yU:List T->Bool
 | []=>Ww
 |x::xs=>x.okTup&&yU xs
end
theorem zDH:(xs:List T)-> ∀(p:List Nat)(j o:Nat),T.sizes xs<=o->zCu xs p j o=Wv
 | [],_,_,_,_=>by rfl
 |x::xs,p,j,o,h=>by simp only[T.sizes]at h;simp only[zCu];rw[if_neg (by omega)];exact zDH xs p (j+1) _ (by omega)
section
variable {G:Gh}{w:World}{d:Nat}
mutual
theorem zZk:(x:T)-> ∀(p:List Nat)(B o:Nat),(∀xs,x≠.tup xs)->x.okTup=Ww->
  (∀f,x.inT f=Ww->G.ad d (f.reverse++p)=⟨B,o+x.offT f,Wv⟩)->(∀j p',j<x.size->zSv x p j=Wu p'->G.lb B (o+j)=Wu (Wx,d,p'))->
  (∀j v,(vals G d x p)[j]? =Wu v->yQ w B (o+j)=Wu v)->Loc G w d x p B o
 |.agg xs,p,B,o,_,hn,ha,hl,hc=>by
  simp only[Loc];refine⟨by simpa[T.offT]using ha [] rfl,zG5 xs p 0 B o (by grind[T.okTup]) (fun i x hx f hf=>?_) (fun j p' hj hp=>?_) (by grind[vals])⟩
  ·have:=ha (i::f) (by grind[T.inT])
   grind[T.offT]
  grind[T.size,zSv]
 |.any,p,B,o,_,_,ha,hl,hc|.lit _,p,B,o,_,_,ha,hl,hc|.ro _,p,B,o,_,_,ha,hl,hc|.same _ _,p,B,o,_,_,ha,hl,hc|.addr _ _,p,B,o,_,_,ha,hl,hc|.sub _ _ _ _ _,p,B,o,_,_,ha,hl,hc|.sl _ _,p,B,o,_,_,ha,hl,hc|.ptr _,p,B,o,_,_,ha,hl,hc|.mp _ _,p,B,o,_,_,ha,hl,hc=>by simp only[Loc];exact⟨by simpa[T.offT]using ha [] rfl,by simpa using hl 0 p (by simp[T.size]) (by rfl),by simpa using hc 0 (G.hd d p) (by simp[vals])⟩
 |.tup xs,_,_,_,h,_,_,_,_=>absurd rfl (h xs)
theorem zG5:(xs:List T)-> ∀(p:List Nat)(j B o:Nat),yU xs=Ww->
  (∀i x,xs[i]? =Wu x-> ∀f,x.inT f=Ww->G.ad d (f.reverse++((j+i)::p))=⟨B,o+(T.sizes (xs.take i)+x.offT f),Wv⟩)->
  (∀i p',i<T.sizes xs->zCu xs p j i=Wu p'->G.lb B (o+i)=Wu (Wx,d,p'))->
  (∀i v,(yJ G d xs p j)[i]? =Wu v->yQ w B (o+i)=Wu v)->vK G w d xs p j B o
 | [],_,_,_,_,_,_,_,_=>by simp only[vK]
 |x::xs,p,j,B,o,hn,ha,hl,hc=>by
  simp only[yU,J4]at hn;have ei:∀ys,x≠.tup ys:=by rintro ys rfl;grind[T.okTup]
  simp only[vK];refine⟨zZk x (j::p) B o ei hn.1 (fun f hf=>by simpa[T.sizes]using ha 0 x (by simp) f hf) (fun i p' hi hp=>hl i p' (by grind[T.sizes]) (by simp only[zCu,hi,if_true];exact hp)) (fun i v hv=>hc i v ?_),
   zG5 xs p (j+1) B (o+x.size) hn.2 (fun i y hy f hf=>?_) (fun i p' hi hp=>?_) (fun i v hv=>?_)⟩
  ·grind[yJ]
  ·have:=ha (i+1) y (by grind) f hf
   grind[T.sizes]
  ·have:=hl (x.size+i) p' (by grind[T.sizes]) (by simp only[zCu];grind)
   grind
  ·have:=hc (x.size+i) v (by
    grind[yJ,vG])
   grind
end
end
structure MvC (G:Gh) (w:World) (G':Gh) (w':World) (s:Nat) (p:List Nat) (s':Nat) (p':List Nat) (t:T):Prop where
 hd:∀z,G'.hd s' (z++p')=G.hd s (z++p)
 ad:∀z,t.inT z.reverse=Wx->G'.ad s' (z++p')=G.ad s (z++p)
 lb:∀b o f z,(f=Ww\/t.inT z.reverse=Wx)->G.lb b o=Wu (f,s,z++p)->G'.lb b o=Wu (f,s',z++p')/\yQ w' b o=yQ w b o
 ow:∀b z,G.ow b=Wu (s,z++p)->G'.ow b=Wu (s',z++p')
 blk:Blk w w'
 mp:∀b z ms c,G.ow b=Wu (s,z++p)->w.heap[b]? =Wu (.map ms c)->w'.heap[b]? =Wu (.map ms c)
section
variable {St:Stb}{G:Gh}{w:World}{G':Gh}{w':World}{s:Nat}{s':Nat}
theorem MvC.moves{p p':List Nat}{t:T}(h:MvC G w G' w' s p s' p' t)(ht:t.single=Ww):zGQ G w G' w' s p s' p' where
 hd:=h.hd
 ad z hz:=h.ad z (zGY ht (by simp_all))
 lb b o f z hz _ hl:=h.lb b o f z (.inr (zGY ht (by simp_all))) hl
 ow b z _ hl:=h.ow b z hl
 blk:=h.blk
 mp:=h.mp
 sp b o _ hl:=by simpa using h.lb b o Ww [] (.inl rfl) (by grind)
 ow0 b hl:=by simpa using h.ow b [] (by grind)
theorem MvC.field{p p':List Nat}(h:MvC G w G' w' s p s' p' (.agg xs)){j:Nat}{x:T}(hx:xs[j]? =Wu x):MvC G w G' w' s (j::p) s' (j::p') x where
 hd z:=by have:=h.hd (z++[j]);grind
 ad z hz:=by
  have:=h.ad (z++[j]) (by grind[T.inT])
  grind
 lb b o f z hf hl:=by
  have:=h.lb b o f (z++[j]) (by grind[T.inT]) (by grind)
  grind
 ow b z hl:=by
  have:=h.ow b (z++[j]) (by grind)
  grind
 blk:=h.blk
 mp b z ms c hl hb:=h.mp b (z++[j]) ms c (by simpa using hl) hb
mutual
theorem zLs:(t:T)-> ∀(p p':List Nat),t.okTup=Ww->MvC G w G' w' s p s' p' t->xF (zAk G G') t->R St G w s t p->R St G' w' s' t p'
 |.agg xs,p,p',hn,h,hk,hr=>by
  simp only[R,xF,T.okTup]at hr hk hn ⊢
  exact zSw xs p p' 0 hn (fun j x hx=>by rw[Jd];exact h.field hx) hk hr
 |.any,p,p',_,h,hk,hr|.lit _,p,p',_,h,hk,hr|.ro _,p,p',_,h,hk,hr|.same _ _,p,p',_,h,hk,hr|.addr _ _,p,p',_,h,hk,hr|.sub _ _ _ _ _,p,p',_,h,hk,hr|.sl _ _,p,p',_,h,hk,hr|.ptr _,p,p',_,h,hk,hr|.mp _ _,p,p',_,h,hk,hr=>
  kL (h.moves rfl) _ hk hr
 |.tup _,_,_,hn,_,_,_=>by grind[T.okTup]
theorem zSw:(xs:List T)-> ∀(p p':List Nat)(j:Nat),yU xs=Ww->(∀i x,xs[i]? =Wu x->MvC G w G' w' s ((j+i)::p) s' ((j+i)::p') x)->xW (zAk G G') xs->RF St G w s xs p j->RF St G' w' s' xs p' j
 | [],_,_,_,_,_,_,_=>by simp only[RF]
 |x::xs,p,p',j,hn,h,hk,hr=>by
  simp only[RF,xW,yU,J4]at hr hk hn ⊢
  exact⟨zLs x (j::p) (j::p') hn.1 (by simpa using h 0 x (by simp)) hk.1 hr.1,zSw xs p p' (j+1) hn.2 (fun i y hy=>by
   have:=h (i+1) y (by grind)
   grind) hk.2 hr.2⟩
end
end
theorem zOR{St:Stb}{G:Gh}{w:World}{s:Nat}:(xs:List T)-> ∀(p:List Nat)(j:Nat),(∀i x,xs[i]? =Wu x->R St G w s x ((j+i)::p))->RF St G w s xs p j
 | [],_,_,_=>by simp only[RF]
 |x::xs,p,j,h=>by
  simp only[RF];exact⟨by simpa using h 0 x (by simp),zOR xs p (j+1) (fun i y hy=>by
   have:=h (i+1) y (by grind)
   grind)⟩
theorem zSx{St:Stb}{G:Gh}{w:World}{s:Nat}{k:Nat}:(xs:List T)-> ∀(p:List Nat)(j b o:Nat),(∀x∈xs,x.size=k)->vK G w s xs p j b o->RF St G w s xs p j->RL St G w s xs p j b o k
 | [],_,_,_,_,_,_,_=>by simp only[RL]
 |x::xs,p,j,b,o,hk,hl,hr=>by
  simp only[RL,vK,RF]at hl hr ⊢
  have h1:=hk x (by simp);exact⟨⟨hl.1,h1⟩,hr.1,zSx xs p (j+1) b (o+k) (by grind) (by grind) hr.2⟩
theorem wW{k:Nat}:(xs:List T)->(∀x∈xs,x.size=k)->T.sizes xs=xs.length*k
 | [],_=>by simp[T.sizes]
 |x::xs,h=>by simp[T.sizes,wW xs (fun y hy=>h y (by simp[hy])),h x (by simp),Lo];omega
def Gh.nb(G:Gh)(d B:Nat)(xs:List T)(src:Nat->Option (Nat×List Nat))(φ:Nat->List Nat->Option (List Nat))(f:Nat->List Nat->Value)(ee:Value):Gh where
 hd s z:=if s=d then(match z.getLast? with
  |some i=>f i z.dropLast
  |none=>ee)else G.hd s z
 ad s z:=if s=d then(if(T.agg xs).inT z.reverse then⟨B,(T.agg xs).offT z.reverse,Wv⟩else match z.getLast? with
  |some i=>(match src i with
   |some (x,q)=>G.ad x (z.dropLast++q)
   |none=>default)
  |none=>default)else G.ad s z
 lb b o:=if b=B then Wu (match zCu xs [] 0 o with
  |some p=>(Wx,d,p)
  |none=>(Ww,d,[]))else match G.lb b o with
  |some (fl,s,z)=>(match φ s z with
   |some z'=>Wu (fl,d,z')
   |none=>Wu (fl,s,z))
  |none=>Wv
 ow b:=if b=B then Wu (d,[])else match G.ow b with
  |some (s,z)=>(match φ s z with
   |some z'=>Wu (d,z')
   |none=>Wu (s,z))
  |none=>Wv
theorem zCW{w:World}(hm:Mem Γ G w){cells:Array Value}(hw:w'.heap=w.heap.push (.cells cells e))(d:Nat)(xs:List T)
  (src:Nat->Option (Nat×List Nat))(φ:Nat->List Nat->Option (List Nat))(f:Nat->List Nat->Value)(ee:Value)(chg:Chg)
  (gD:yU xs=Ww)(hf:∀(i:Nat)(z:List Nat),(f i z).oneCell'=Ww)(hh:ee.oneCell'=Ww)
  (hφ:∀(i:Nat) u x q(z:List Nat),xs[i]? =Wu u->src i=Wu (x,q)->φ x (z++q)=Wu (z++[i]))
  (jk:∀(i:Nat) u x q,xs[i]? =Wu u->src i=Wu (x,q)->(∀z,f i z=G.hd x (z++q))/\R Γ.St G w x u q/\zZ u/\x≠d)
  (dP:∀(i:Nat) u,xs[i]? =Wu u->src i=Wv-> ∀(G2:Gh)(w2:World),(∀z,G2.hd d (z++[i])=f i z)->R Γ.St G2 w2 d u [i])
  (cp:∀(G2:Gh),(∀i z,G2.hd d (z++[i])=f i z)-> ∀(o:Nat)(v:Value),(yJ G2 d xs [] 0)[o]? =Wu v->cells[o]? =Wu v)
  (uo:∀s p,(∀n,(s,n)∉(d,0)::chg)->φ s p=Wv)(ho:w'.os=w.os:=by rfl)(hq:w'.output=w.output:=by rfl):
  sE ((d,0)::chg) G w (G.nb d w.heap.size xs src φ f ee) w'/\Mem Γ (G.nb d w.heap.size xs src φ f ee) w'/\
  vK (G.nb d w.heap.size xs src φ f ee) w' d xs [] 0 w.heap.size 0/\RF Γ.St (G.nb d w.heap.size xs src φ f ee) w' d xs [] 0/\
  w'.heap[w.heap.size]? =Wu (.cells cells e):=by
 have eb:w'.heap[w.heap.size]? =Wu (.cells cells e):=by grind
 have gx:∀b,b<w.heap.size->w'.heap[b]? =w.heap[b]?:=fun b hb=>by rw[hw,Array.getElem?_push];grind
 have gv:w'.heap.size=w.heap.size+1:=by grind
 have eJ:∀b o,b<w.heap.size->yQ w' b o=yQ w b o:=fun b o hb=>by simp[yQ,World.cell?,gx b hb]
 have gG:Blk w w':=fun b cs e' h=>⟨cs,by rw[gx b (by grind)];exact h,rfl⟩
 have gw:=hm.one
 generalize gr:G.nb d w.heap.size xs src φ f ee=G'
 have ghd:∀i z,G'.hd d (z++[i])=f i z:=fun i z=>by rw[<-gr];simp[Gh.nb]
 have gad:∀g,(T.agg xs).inT g=Ww->G'.ad d g.reverse=⟨w.heap.size,(T.agg xs).offT g,Wv⟩:=fun g hg=>by rw[<-gr];simp[Gh.nb,hg]
 have gadm:∀i x q z,src i=Wu (x,q)->(T.agg xs).inT (i::z.reverse)=Wx->G'.ad d (z++[i])=G.ad x (z++q):=fun i x q z hs gK=>by rw[<-gr];simp[Gh.nb,gK,hs]
 have glb:∀o p,zCu xs [] 0 o=Wu p->G'.lb w.heap.size o=Wu (Wx,d,p):=fun o p h=>by rw[<-gr];simp[Gh.nb,h]
 have glbm:∀b o fl x z z',G.lb b o=Wu (fl,x,z)->φ x z=Wu z'->G'.lb b o=Wu (fl,d,z'):=fun b o fl x z z' h1 h2=>by have:=(hm.lb b o _ h1).1;rw[<-gr];simp[Gh.nb,h1,h2,show b≠w.heap.size from by omega]
 have gowm:∀b x z z',G.ow b=Wu (x,z)->φ x z=Wu z'->G'.ow b=Wu (d,z'):=fun b x z z' h1 h2=>by have:=(hm.ow b _ h1).1;rw[<-gr];simp[Gh.nb,h1,h2,show b≠w.heap.size from by omega]
 have gf:∀s p,Off ((d,0)::chg) s p->s≠d:=fun s p h e=>absurd (h 0 (by simp[e])) (by simp)
 have gA:sE ((d,0)::chg) G w G' w':=by
  refine⟨fun s p h=>?_,fun s p h=>?_,fun b o fl s p _ hl h=>⟨?_,eJ b o (hm.lb b o _ hl).1⟩,fun b s p hl h=>?_,gG,fun b s p ms c hl _ hb=>by rw[gx b (hm.ow b _ hl).1];exact hb⟩
  ·rw[<-gr];simp[Gh.nb,gf s p h]
  ·rw[<-gr];simp[Gh.nb,gf s p h]
  ·have:=(hm.lb b o _ hl).1
   rw[<-gr];simp[Gh.nb,hl,uo s p h,show b≠w.heap.size from by omega]
  ·have:=(hm.ow b _ hl).1
   rw[<-gr];simp[Gh.nb,hl,uo s p h,show b≠w.heap.size from by omega]
 refine⟨gA,?_,?_,?_,eb⟩
 ·
  have hB:zAU Γ w' w.heap.size:=⟨by omega,.inl hm.sz,by
   cases gE:Γ.St w.heap.size with
   |none=>rfl
   |some x=>have:=hm.st _ x gE;simp at this⟩
  have ff:∀b,zAU Γ w b->zAU Γ w' b:=fun b h=>⟨by have:=h.1;omega,h.2⟩
  refine⟨fun s p=>?_,fun b o l hl=>?_,fun b l hl=>?_,fun b x hx=>?_,fun b h1 h2=>?_,by have:=hm.sz;omega,hm.bk.trans gG ho hq⟩
  ·rw[<-gr]
   simp only[Gh.nb];split
   ·split
    ·exact hf _ _
    ·exact hh
   ·exact gw s p
  ·rw[<-gr]at hl
   simp only[Gh.nb]at hl;split at hl
   ·grind
   ·split at hl
    ·rename_i hg;exact ff b (hm.lb b o _ hg)
    ·cases hl
  ·rw[<-gr]at hl
   simp only[Gh.nb]at hl;split at hl
   ·grind
   ·split at hl
    ·rename_i hg;exact ff b (hm.ow b _ hg)
    ·cases hl
  ·have:=hm.st b x hx
   rw[gx b (L2.1 this).1];exact this
  ·rw[gx b (Jc1 h1 hm.sz)]
   exact hm.fr b h1 h2
 ·
  refine zG5 xs [] 0 w.heap.size 0 gD (fun i x hx g hg=>?_) (fun i p' _ hp=>by simpa using glb i p' hp) (fun i v hv=>?_)
  ·have:=gad (i::g) (by simp only[T.inT,hx];exact hg)
   simpa[T.offT,hx]using this
  ·have:=cp G' ghd i v hv
   rw[Jd];simp[yQ,World.cell?,eb,this]
 ·
  refine zOR xs [] 0 (fun i u hu=>?_);rw[Jd];cases hs:src i with
  |none=>exact dP i u hu hs G' w' (fun z=>ghd i z)
  |some xq=>
   obtain⟨x,q⟩:=xq;obtain⟨h1,h2,h3,h4⟩:=jk i u x q hu hs;have gK:∀g,(T.agg xs).inT (i::g)=u.inT g:=fun g=>by simp only[T.inT,hu]
   refine zLs u q [i] (okTups_get xs gD i u hu) ⟨fun z=>by rw[ghd,h1],fun z hz=>gadm i x q z hs (by rw[gK];exact hz),fun b o fl z hz hl=>⟨glbm b o fl x _ _ hl (hφ i u x q z hu hs),eJ b o (hm.lb b o _ hl).1⟩,
    fun b z hl=>gowm b x _ _ hl (hφ i u x q z hu hs),gG,fun b z ms c hl hb=>by rw[gx b (hm.ow b _ hl).1];exact hb⟩ (xF.mono (by simp) u h3) h2
where okTups_get:(xs:List T)->yU xs=Ww-> ∀(i:Nat)(x:T),xs[i]? =Wu x->x.okTup=Ww
 | [],_,_,_,h=>by simp at h
 |y::ys,hk,i,x,h=>by
  simp only[yU,J4]at hk;cases i with
  |zero=>grind
  |succ i=>exact okTups_get ys hk.2 i x (by grind)
inductive yV where
 |slot (s:Nat) (t:T)
 |zero (u:T)
def yV.tree:yV->T
 |.slot _ t=>t
 |.zero u=>u
def sF:T->Bool
 |.lit _|.ro _=>Wx
 |_=>Ww
mutual
def T.zOk:T->Bool
 |.lit v=>v.oneCell'
 |.sl _ xs=>xs.isEmpty
 |.agg xs=>zAt xs
 |.any|.ro _|.same _ _|.addr _ _|.sub _ _ _ _ _|.ptr _|.tup _|.mp _ _=>Wx
def zAt:List T->Bool
 | []=>Ww
 |x::xs=>x.zOk&&zAt xs
end
def zhd:T->List Nat->Value
 |.agg xs,i::f=>match xs[i]? with
  |some x=>zhd x f
  |none=>.bool Wx
 |.lit v,_=>v
 |.sl _ _,_=>.slice Wv 0 0
 |.agg _,[] |.any,_|.ro _,_|.same _ _,_|.addr _ _,_|.sub _ _ _ _ _,_|.ptr _,_|.tup _,_|.mp _ _,_=>.bool Wx
termination_by structural _ f=>f
mutual
def tW:T->List Value
 |.lit v=>[v]
 |.sl _ _=>[.slice Wv 0 0]
 |.agg xs=>sZ xs
 |.any|.ro _|.same _ _|.addr _ _|.sub _ _ _ _ _|.ptr _|.tup _|.mp _ _=>[]
def sZ:List T->List Value
 | []=>[]
 |x::xs=>tW x++sZ xs
end
section
variable {St:Stb}{G:Gh}{w:World}{d:Nat}
mutual
theorem zJZ:(u:T)-> ∀(p:List Nat),u.zOk=Ww->(∀z,G.hd d (z++p)=kE (zhd u z.reverse))->R St G w d u p
 |.lit v,p,h,hd=>by
  simp only[T.zOk,R]at h ⊢
  have:=hd [];rw[Js]at this;rw[this];exact zAs h
 |.sl k xs,p,h,hd=>by simp only[T.zOk,Jaj]at h;subst h;have:=hd [];rw[Js]at this;simp only[R];exact .inl ⟨trivial,Wv,by rw[this];rfl⟩
 |.agg xs,p,h,hd=>by
  simp only[T.zOk,R]at h ⊢
  exact zOS xs p 0 h (fun i x hx z=>by
   rw[Jd];have:=hd (z++[i])
   grind[zhd])
 |.any,_,h,_|.ro _,_,h,_|.same _ _,_,h,_|.addr _ _,_,h,_|.sub _ _ _ _ _,_,h,_|.ptr _,_,h,_|.tup _,_,h,_|.mp _ _,_,h,_=>by grind[T.zOk]
theorem zOS:(xs:List T)-> ∀(p:List Nat)(j:Nat),zAt xs=Ww->(∀i x,xs[i]? =Wu x-> ∀z,G.hd d (z++((j+i)::p))=kE (zhd x z.reverse))->RF St G w d xs p j
 | [],_,_,_,_=>by simp only[RF]
 |x::xs,p,j,h,hd=>by
  simp only[zAt,J4,RF]at h ⊢
  exact⟨zJZ x (j::p) h.1 (by simpa using hd 0 x (by simp)),zOS xs p (j+1) h.2 (fun i y hy z=>by
   have:=hd (i+1) y (by grind) z
   grind)⟩
end
end
section
variable {G:Gh}{d:Nat}
mutual
theorem zFp:(u:T)-> ∀(p:List Nat),u.zOk=Ww->(∀z,G.hd d (z++p)=kE (zhd u z.reverse))->vals G d u p=tW u
 |.lit v,p,h,hd=>by
  simp only[T.zOk,vals,tW]at h ⊢
  have:=hd []
  grind[zhd,zAs]
 |.sl k xs,p,h,hd=>by
  have:=hd []
  grind[vals,tW,zhd,kE,Value.oneCell']
 |.agg xs,p,h,hd=>by
  simp only[T.zOk,vals,tW]at h ⊢
  exact zDI xs p 0 h (fun i x hx z=>by
   rw[Jd];have:=hd (z++[i])
   grind[zhd])
 |.any,_,h,_|.ro _,_,h,_|.same _ _,_,h,_|.addr _ _,_,h,_|.sub _ _ _ _ _,_,h,_|.ptr _,_,h,_|.tup _,_,h,_|.mp _ _,_,h,_=>by grind[T.zOk]
theorem zDI:(xs:List T)-> ∀(p:List Nat)(j:Nat),zAt xs=Ww->(∀i x,xs[i]? =Wu x-> ∀z,G.hd d (z++((j+i)::p))=kE (zhd x z.reverse))->yJ G d xs p j=sZ xs
 | [],_,_,_,_=>by rfl
 |x::xs,p,j,h,hd=>by
  simp only[zAt,J4,yJ,sZ]at h ⊢
  rw[zFp x (j::p) h.1 (by simpa using hd 0 x (by simp)),zDI xs p (j+1) h.2 (fun i y hy z=>by
   have:=hd (i+1) y (by grind) z
   grind)]
end
end
mutual
theorem zBw:(u:T)->u.zOk=Ww->zZ u/\u.okTup=Ww
 |.lit _,_=>by simp[zZ,xF,T.okTup]
 |.sl _ xs,h=>by simp only[T.zOk,Jaj]at h;subst h;simp[zZ,xF,xW,T.okTup]
 |.agg xs,h=>by simp only[T.zOk]at h;simpa only[zZ,xF,T.okTup]using zBL xs h
 |.any,h|.ro _,h|.same _ _,h|.addr _ _,h|.sub _ _ _ _ _,h|.ptr _,h|.tup _,h|.mp _ _,h=>by grind[T.zOk]
theorem zBL:(xs:List T)->zAt xs=Ww->xG xs/\yU xs=Ww
 | [],_=>by simp[xG,xW,yU]
 |x::xs,h=>by simp only[zAt,J4]at h;simp only[xG,xW,yU,J4];exact⟨⟨(zBw x h.1).1,(zBL xs h.2).1⟩,(zBw x h.1).2,(zBL xs h.2).2⟩
end
mutual
theorem vO:(u:T)->u.zOk=Ww->(tW u).length=u.size
 |.lit _,_|.sl _ _,_=>by rfl
 |.agg xs,h=>by simp only[T.zOk]at h;simp only[tW,T.size];exact zBl xs h
 |.any,h|.ro _,h|.same _ _,h|.addr _ _,h|.sub _ _ _ _ _,h|.ptr _,h|.tup _,h|.mp _ _,h=>by grind[T.zOk]
theorem zBl:(xs:List T)->zAt xs=Ww->(sZ xs).length=T.sizes xs
 | [],_=>by rfl
 |x::xs,h=>by simp only[zAt,J4]at h;simp only[sZ,J5,T.sizes,vO x h.1,zBl xs h.2]
end
def zGZ(ps:List yV)(i:Nat):Option (Nat×List Nat):=
 match ps[i]? with
 |some (.slot s t)=>if sF t then Wu (s,[])else Wv
 |_=>Wv
def zI9:List yV->Nat->Nat->Option Nat
 | [],_,_=>Wv
 |.slot x t::r,i,s=>if sF t&&x==s then Wu i else zI9 r (i+1) s
 |.zero _::r,i,s=>zI9 r (i+1) s
def zIA(ps:List yV)(s:Nat)(z:List Nat):Option (List Nat):=
 match zI9 ps 0 s with
 |some i=>Wu (z++[i])
 |none=>Wv
def pWr(d:Nat):List yV->Nat->Wr
 | [],_=>[]
 |.slot s t::r,i=>if sF t then(s,Wu (cpT d t [i]))::pWr d r (i+1)else pWr d r (i+1)
 |.zero _::r,i=>pWr d r (i+1)
def xV:List yV->List Nat
 | []=>[]
 |.slot s t::r=>if sF t then s::xV r else xV r
 |.zero _::r=>xV r
def sC(ps:List yV):Chg:=(xV ps).map fun s=>(s,1)
def sT(G:Gh):yV->List Value
 |.slot s t=>vals G s t []
 |.zero u=>tW u
def pHd(G:Gh)(ps:List yV)(i:Nat)(z:List Nat):Value:=
 match ps[i]? with
 |some (.slot s _)=>G.hd s z
 |some (.zero u)=>kE (zhd u z.reverse)
 |none=>.bool Wx
structure tJ (E:Env) (d:Nat) (ps:List yV):Prop where
 slot:∀s t,yV.slot s t∈ps->E s=Wu t/\zZ t/\t.okTup=Ww
 zero:∀u,yV.zero u∈ps->u.zOk=Ww
 dist:(d::xV ps).Nodup
theorem zBx:(ps:List yV)-> ∀(i0 i s:Nat)(t:T),ps[i]? =Wu (.slot s t)->sF t=Ww->(xV ps).Nodup->zI9 ps i0 s=Wu (i0+i)
 | [],_,_,_,_,h,_,_=>by simp at h
 |.slot x u::r,i0,i,s,t,h,hm,hn=>by
  cases i with
  |zero=>simp at h;obtain⟨rfl,rfl⟩:=h;simp[zI9,hm]
  |succ i=>
   simp only[Jb8]at h;have gK:s∈xV r:=pSlots_mem r i s t h hm;simp only[zI9]
   by_cases hu:sF u=Ww
   ·simp only[xV,hu,if_true,L4]at hn
    have:x≠s:=by grind
    simp only[hu,Bool.true_and,beq_iff_eq,this,if_false];rw[zBx r (i0+1) i s t h hm hn.2]
    grind
   ·simp only[xV,hu]at hn
    simp only[hu,Jav,Hg,if_false];rw[zBx r (i0+1) i s t h hm (by grind)]
    grind
 |.zero u::r,i0,i,s,t,h,hm,hn=>by
  cases i with
  |zero=>simp at h
  |succ i=>
   simp only[Jb8]at h;simp only[zI9];rw[zBx r (i0+1) i s t h hm (by grind[xV])]
   grind
where pSlots_mem:(ps:List yV)-> ∀(i s:Nat)(t:T),ps[i]? =Wu (.slot s t)->sF t=Ww->s∈xV ps
 | [],_,_,_,h,_=>by simp at h
 |.slot x u::r,i,s,t,h,hm=>by
  cases i with
  |zero=>simp at h;obtain⟨rfl,rfl⟩:=h;simp[xV,hm]
  |succ i=>
   have:=pSlots_mem r i s t (by grind) hm
   grind[xV]
 |.zero u::r,i,s,t,h,hm=>by
  cases i with
  |zero=>simp at h
  |succ i=>simpa only[xV]using pSlots_mem r i s t (by grind) hm
theorem zCX:(ps:List yV)-> ∀(i0 s:Nat),s∉xV ps->zI9 ps i0 s=Wv
 | [],_,_,_=>by rfl
 |.slot x u::r,i0,s,h=>by
  simp only[zI9]
  by_cases hu:sF u=Ww
  ·simp only[xV,hu,if_true,Je,not_or]at h
   simp only[hu,Bool.true_and,beq_iff_eq,Ne.symm h.1,if_false];exact zCX r _ s h.2
  ·simp only[xV,hu]at h
   simp only[hu,Jav,Hg,if_false];exact zCX r _ s (by grind)
 |.zero u::r,i0,s,h=>by simp only[zI9];exact zCX r _ s (by grind[xV])
theorem zCv:(ps:List yV)-> ∀(d i0 s:Nat)(x:Option T),(pWr d ps i0).find s=Wu x-> ∃i t,ps[i]? =Wu (.slot s t)/\sF t=Ww/\x=Wu (cpT d t [i0+i])
 | [],_,_,_,_,h=>by grind[pWr,Wr.find]
 |.slot y u::r,d,i0,s,x,h=>by
  simp only[pWr]at h;split at h
  ·rename_i hu
   simp only[Wr.find]at h;split at h
   ·rename_i he;subst he;simp at h;exact⟨0,u,by simp,hu,by grind⟩
   ·obtain⟨i,t,h1,h2,h3⟩:=zCv r d (i0+1) s x h
    exact⟨i+1,t,by grind,h2,by grind⟩
  ·obtain⟨i,t,h1,h2,h3⟩:=zCv r d (i0+1) s x h
   exact⟨i+1,t,by grind,h2,by grind⟩
 |.zero u::r,d,i0,s,x,h=>by simp only[pWr]at h;obtain⟨i,t,h1,h2,h3⟩:=zCv r d (i0+1) s x h;exact⟨i+1,t,by grind,h2,by grind⟩
theorem zCw:(ps:List yV)-> ∀(d i0 s:Nat),(pWr d ps i0).find s=Wv->s∉xV ps
 | [],_,_,_,_=>by simp[xV]
 |.slot y u::r,d,i0,s,h=>by
  simp only[pWr]at h;simp only[xV];split at h
  ·rename_i hu
   simp only[Wr.find]at h;split at h
   ·cases h
   ·rename_i gf
    simp only[hu,if_true,Je,not_or];exact⟨fun e=>gf e.symm,zCw r d _ s h⟩
  ·rename_i hu
   simp only[hu];simpa using zCw r d _ s h
 |.zero u::r,d,i0,s,h=>by simp only[pWr]at h;simpa only[xV]using zCw r d _ s h
section
variable {Γ:Ctx}{E:Env}{G:Gh}{tmps:Array Value}{w:World}{d:Nat}{ps:List yV}
theorem zGa(gc:Rep Γ E G tmps w)(h:tJ E d ps):
  yU (ps.map yV.tree)=Ww/\xG (ps.map yV.tree)/\(∀i z,(pHd G ps i z).oneCell'=Ww)/\
  (∀(i:Nat) u x q(z:List Nat),(ps.map yV.tree)[i]? =Wu u->zGZ ps i=Wu (x,q)->zIA ps x (z++q)=Wu (z++[i]))/\
  (∀(i:Nat) u x q,(ps.map yV.tree)[i]? =Wu u->zGZ ps i=Wu (x,q)->(∀z,pHd G ps i z=G.hd x (z++q))/\R Γ.St G w x u q/\zZ u/\x≠d)/\
  (∀(i:Nat) u,(ps.map yV.tree)[i]? =Wu u->zGZ ps i=Wv-> ∀(G2:Gh)(w2:World),(∀z,G2.hd d (z++[i])=pHd G ps i z)->R Γ.St G2 w2 d u [i])/\
  (∀s p,(∀n,(s,n)∉(d,0)::sC ps)->zIA ps s p=Wv):=by
 have bq:=L4.1 h.dist;refine⟨?_,?_,?_,?_,?_,?_,?_⟩
 ·have:∀qs:List yV,(∀p∈qs,p∈ps)->yU (qs.map yV.tree)=Ww:=by
   intro qs
   induction qs with
   |nil=>intro _;rfl
   |cons q qs ih=>
    intro hq;simp only[Jr,yU,J4];refine⟨?_,by grind⟩;cases q with
    |slot s t=>exact(h.slot s t (hq _ (by simp))).2.2
    |zero u=>exact(zBw u (h.zero u (hq _ (by simp)))).2
  grind
 ·have:∀qs:List yV,(∀p∈qs,p∈ps)->xG (qs.map yV.tree):=by
   intro qs
   induction qs with
   |nil=>intro _;trivial
   |cons q qs ih=>
    intro hq;simp only[Jr,xG,xW];refine⟨?_,by grind⟩;cases q with
    |slot s t=>exact(h.slot s t (hq _ (by simp))).2.1
    |zero u=>exact(zBw u (h.zero u (hq _ (by simp)))).1
  grind
 ·intro i z
  unfold pHd;split
  ·exact gc.mem.one _ _
  ·exact zBv _
  ·rfl
 ·intro i u x q z hu hs
  rw[Jn]at hu;unfold zGZ at hs;cases hp:ps[i]? with
  |none=>grind
  |some p=>
   cases p with
   |zero v=>grind
   |slot s t=>
    simp only[hp]at hs;split at hs
    ·rename_i hm
     simp at hs;obtain⟨rfl,rfl⟩:=hs;simp[zIA,zBx ps 0 i s t hp hm bq.2]
    ·cases hs
 ·intro i u x q hu hs
  rw[Jn]at hu;unfold zGZ at hs;cases hp:ps[i]? with
  |none=>grind
  |some p=>
   cases p with
   |zero v=>grind
   |slot s t=>
    simp only[hp]at hs;split at hs
    ·rename_i hm
     simp at hs;obtain⟨rfl,rfl⟩:=hs;simp[hp,yV.tree]at hu;subst hu;obtain⟨h1,h2,h3⟩:=h.slot s t (by grind);refine⟨by grind[pHd],(gc.ent s t h1).2.1,h2,fun e=>bq.1 ?_⟩
     grind[zBx.pSlots_mem]
    ·cases hs
 ·intro i u hu hs G2 w2 eP
  rw[Jn]at hu;unfold zGZ at hs;cases hp:ps[i]? with
  |none=>grind
  |some p=>
   cases p with
   |zero v=>
    simp[hp,yV.tree]at hu;subst hu;exact zJZ v [i] (h.zero v (by grind)) (by grind[pHd])
   |slot s t=>
    simp only[hp]at hs;split at hs
    ·cases hs
    ·rename_i hm
     simp[hp,yV.tree]at hu;subst hu;have h1:=(gc.ent s t (h.slot s t (by grind)).1).2.1;have h2:G2.hd d [i]=G.hd s []:=by have:=eP [];grind[pHd]
     cases t<;>simp[sF]at hm<;>simp only[R]at h1 ⊢ <;>rw[h2]<;>exact h1
 ·intro s p gH
  have:s∉xV ps:=fun gK=>gH 1 (by grind[sC])
  grind[zIA,zCX]
theorem zDJ(gc:Rep Γ E G tmps w)(h:tJ E d ps)(G2:Gh):∀(qs:List yV)(i0:Nat),(∀i q,qs[i]? =Wu q->ps[i0+i]? =Wu q)->(∀i z,G2.hd d (z++[i])=pHd G ps i z)->
  yJ G2 d (qs.map yV.tree) [] i0=qs.flatMap (sT G)
 | [],_,_,_=>by rfl
 |q::qs,i0,hq,eP=>by
  have h0:ps[i0]? =Wu q:=by simpa using hq 0 q (by simp)
  have ih:=zDJ gc h G2 qs (i0+1) (fun i p hp=>by rw[show i0+1+i=i0+(i+1)from by omega];simp_all) eP;simp only[Jr,yJ,Lm,ih]
  congr 1
  cases q with
  |slot s t=>exact zAV t [] [i0] (by grind[pHd])
  |zero u=>exact zFp u [i0] (h.zero u (by grind)) (by grind[pHd])
end
section
variable {P:Program}{Γ:Ctx}{E:Env}{o:Oper}{d:Nat}
theorem zIU{s:Nat}{t:T}{v:Option Value}(hv:v=Wu (mkV G s t []))(ei:∀xs,t≠.tup xs)(hs:∀p,G'.hd s p=G.hd s p)(br:∀z,G'.hd d (z++[i])=G.hd s z)
  (hr:R Γ.St G' w' d t [i]):Ent Γ G' w' v s (cpT d t [i]):=by
 have hz:∀z,G'.hd s (z++[])=G'.hd d (z++[i]):=fun z=>by rw[Jh,hs,br]
 refine⟨?_,?_,qH d t [i]⟩
 ·rw[hv,zA4 (G:=G') (G':=G') t [i] [] ei hz,kY G s t [] ei,zBJ t [] [i] (fun z=>by rw[br,Jh])]
 ·exact zDE (G:=G') (G':=G') (fun _=>rfl) t [i] [] hz ei (xF.triv (fun _ _=>⟨rfl,rfl⟩) _) hr
theorem zBy{w:World}{ps:List yV}(gc:Rep Γ E G a.tmps w)(h:tJ E d ps)(hd:d<Γ.N){cells:Array Value}(hw:w'.heap=w.heap.push (.cells cells e))
  (cp:∀(o:Nat)(v:Value),(ps.flatMap (sT G))[o]? =Wu v->cells[o]? =Wu v)
  (rt:T)(ee:Value)
  (fh:(∃k cap,rt=.sl k (ps.map yV.tree)/\(∀p∈ps,p.tree.size=k)/\ee=.slice (Wu ⟨w.heap.size,0,Wv⟩) ps.length cap/\ps.length<=cap/\cap<=maxLen/\cells.size=cap*k)\/
   ∃p,ps=[p]/\rt=.ptr p.tree/\ee=.pointer (Wu ⟨w.heap.size,0,Wv⟩)/\cells.size=p.tree.size)
  (ho:w'.os=w.os:=by rfl)(hq:w'.output=w.output:=by rfl):
  ∃G',Rep Γ (E.app ((d,Wu rt)::pWr d ps 0) ((d,0)::sC ps)) G' (a.tmps.setIfInBounds d ee) w':=by
 obtain⟨f1,f0,f2,f3,f4,f5,f6⟩:=zGa gc h;have hh:ee.oneCell'=Ww:=by rcases fh with⟨k,cap,_,_,rfl,_⟩|⟨p,_,_,rfl,_⟩<;>rfl
 have bq:=L4.1 h.dist;obtain⟨g1,g2,g3,g4,g5⟩:=zCW gc.mem hw d (ps.map yV.tree) (zGZ ps) (zIA ps) (pHd G ps) ee (sC ps) f1 f2 hh f3 f4 f5
  (fun G2 eP o v hv=>cp o v (by rw[zDJ gc h G2 ps 0 (fun i q hq=>by simpa using hq) eP]at hv;exact hv)) f6 (ho:=ho) (hq:=hq)
 refine⟨_,wV gc (by simp) g1 g2 ?_ ?_⟩
 ·intro s hs
  simp only[Wr.find]at hs;split at hs
  ·cases hs
  ·rename_i gf
   have hns:=zCw ps d 0 s hs;refine⟨fun n hn=>?_,by rw[Jb];simp[gf]⟩;simp only[Je,Jak.injEq,sC,Jq]at hn;rcases hn with⟨e1,_⟩|⟨y,hy,e1,_⟩
   ·exact gf e1.symm
   ·exact hns (e1▸hy)
 ·intro s t hs
  simp only[Wr.find]at hs;split at hs
  ·rename_i he
   subst he;simp at hs;subst hs;have pB:(G.nb d w.heap.size (ps.map yV.tree) (zGZ ps) (zIA ps) (pHd G ps) ee).hd d []=ee:=by simp[Gh.nb]
   have how:(G.nb d w.heap.size (ps.map yV.tree) (zGZ ps) (zIA ps) (pHd G ps) ee).ow w.heap.size=Wu (d,[]):=by simp[Gh.nb]
   refine⟨?_,?_,?_⟩
   ·rw[Jb]
    rcases fh with⟨k,cap,rfl,_⟩|⟨p,_,rfl,_⟩<;>simp[gc.size,hd,mkV,pB]
   ·rcases fh with⟨k,cap,rfl,hk,h1,h2,h3,h4⟩|⟨p,rfl,rfl,h1,h4⟩
    ·simp only[R]
     rw[pB];refine .inr ⟨w.heap.size,0,cap,cells,e,by simpa using h1,g5,by simpa using h2,h3,by omega,how,?_,zSx _ _ _ _ _ (fun x hx=>?_) g3 g4⟩
     ·intro o ho _
      have gv:T.sizes (ps.map yV.tree)=(ps.map yV.tree).length*k:=wW _ (fun x hx=>by obtain⟨p,hp,rfl⟩:=Jq.1 hx;exact hk p hp)
      simp[Gh.nb,zDH (ps.map yV.tree) [] 0 o (by omega)]
     ·obtain⟨p,hp,rfl⟩:=Jq.1 hx
      exact hk p hp
    ·simp only[R]
     rw[pB];simp only[Jr,Jai,vK,RF]at g3 g4;exact⟨w.heap.size,cells,e,h1,g5,h4,how,g3.1,g4.1⟩
   ·rcases fh with⟨k,cap,rfl,_⟩|⟨p,rfl,rfl,_⟩
    ·simp only[Top];exact f0
    ·simp only[Top];exact f0.1
  ·rename_i gf
   obtain⟨i,u,h1,h2,h3⟩:=zCv ps d 0 s _ hs;simp only[Jd]at h3;simp at h3;subst h3;obtain⟨h4,h5,h6⟩:=h.slot s u (Ky h1);have ei:∀xs,u≠.tup xs:=by rintro xs rfl;simp[T.okTup]at h6
   have hi:(ps.map yV.tree)[i]? =Wu u:=by simp[h1,yV.tree]
   have hr:=zBk _ [] 0 i u g4 hi;simp only[Jd]at hr;refine zIU (G:=G) (by rw[Jb];simp only[gf,if_false];exact(gc.ent s u h4).1) ei (fun p=>?_) (fun z=>?_) hr
   ·simp[Gh.nb,show s≠d from fun e=>gf e.symm]
   ·simp[Gh.nb,pHd,h1]
inductive zAg (E:Env):Operand->yV->Prop where
 |slot (s:Nat) (t:T):zAg E (.tmp s) (.slot s t)
 |zero (v:Value) (u:T) (h:tW u=v.cells.toList):zAg E (.const v) (.zero u)
theorem zA6{w:World}{ps:List yV}(gc:Rep Γ E G a.tmps w)(h:tJ E d ps){p:yV}(hp:p∈ps)(hx:zAg E x p):
  (a.eval x).cells.toList=sT G p:=by
 cases hx with
 |slot s t=>
  obtain⟨h1,h2,h3⟩:=h.slot s t hp;obtain⟨h4,_,_⟩:=gc.ent s t h1;rw[wH h4];cases t with
  |agg xs=>simp[mkV,Value.cells,vals,sT]
  |tup xs=>simp[T.okTup]at h3
  |_=>
   have:=gc.mem.one s [];simp only[mkV,vals,sT]
   generalize G.hd s []=v at this
   cases v<;>simp[Value.oneCell',Value.cells]at this ⊢
 |zero v u h=>simp[Act.eval,h,sT]
def uK(E:Env):List Operand->List yV->Prop
 | [],[]=>True
 |x::xs,p::ps=>zAg E x p/\uK E xs ps
 |_,_=>False
theorem uK.length:(xs:List Operand)->(ps:List yV)->uK E xs ps->xs.length=ps.length
 | [],[],_=>rfl
 |_::xs,_::ps,h=>by simp[uK.length xs ps h.2]
 | [],_::_,h=>by simp[uK]at h
 |_::_,[],h=>by simp[uK]at h
theorem uK.mem:(xs:List Operand)->(ps:List yV)->uK E xs ps-> ∀x∈xs,∃p,p∈ps/\zAg E x p
 | [],_,_,x,hx=>by simp at hx
 |y::xs,p::ps,h,x,hx=>by
  rcases Je.1 hx with rfl|hx
  ·exact⟨p,by simp,h.1⟩
  ·obtain⟨q,hq,hxq⟩:=uK.mem xs ps h.2 x hx;exact⟨q,by simp[hq],hxq⟩
 |_::_,[],h,_,_=>by simp[uK]at h
theorem zHa{G:Gh}{a:Act}{w:World}{ps:List yV}(gc:Rep Γ E G a.tmps w)(h:tJ E d ps):∀(xs:List Operand)(qs:List yV),(∀q∈qs,q∈ps)->uK E xs qs->
  ((xs.map a.eval).flatMap fun v=>v.cells.toList)=qs.flatMap (sT G)
 | [],[],_,_=>rfl
 |x::xs,q::qs,hq,hx=>by simp only[Jr,Lm,zA6 gc h (hq q (by simp)) hx.1,zHa gc h xs qs (fun p hp=>hq p (by simp[hp])) hx.2]
 | [],_::_,_,hx=>by simp[uK]at hx
 |_::_,[],_,hx=>by simp[uK]at hx
theorem zSy(T':TypeId)(ti:TypeInfo)(z:Value)(u:T)(ho:o.op=.alloc T')(gg:o.dst=Wu d)(hd:d<Γ.N)
  (hi:P.info? T'=Wu ti)(hz:ti.zero=Wu z)(hu:u.zOk=Ww)(hv:tW u=z.cells.toList)(gv:z.cells.size=u.size):
  wF P Γ o E (E.app [(d,Wu (.ptr u))] [(d,0)]):=by
 refine wF.value gg fun a w G gc=>?_
 have ef:tJ E d [.zero u]:=⟨fun s t h=>by simp at h,fun v h=>by simp at h;subst h;exact hu,by simp[xV]⟩;obtain⟨G',gr⟩:=zBy (w':=w.alloc (.cells z.cells T')) gc ef hd (cells:=z.cells) (e:=T') rfl (fun o v h=>by simpa[hv,sT]using h) (.ptr u) (.pointer (Wu ⟨w.heap.size,0,Wv⟩)) (.inr ⟨.zero u,rfl,rfl,rfl,gv⟩);refine⟨_,_,?_,G',by simpa[pWr,sC,xV]using gr⟩;simp[execOp,ho,Instr.alloc,zeroValue,typeInfo,hi,hz,newVar,newRow]
theorem zZl(T':TypeId)(x:Operand)(p:yV)(ho:o.op=.box T' x)(gg:o.dst=Wu d)(hd:d<Γ.N)(hx:zAg E x p)(ef:tJ E d [p]):
  wF P Γ o E (E.app ((d,Wu (.ptr p.tree))::pWr d [p] 0) ((d,0)::sC [p])):=by
 refine wF.value gg fun a w G gc=>?_
 have hc:=zA6 gc ef (by simp) hx;have gv:(a.eval x).cells.size=p.tree.size:=by
  rw[<-Ki,hc];cases p with
  |slot s t=>
   obtain⟨_,_,h3⟩:=ef.slot s t (by simp);show(vals G s t []).length=t.size;exact vG t [] (by rintro xs rfl;simp[T.okTup]at h3)
  |zero u=>exact vO u (ef.zero u (by simp))
 obtain⟨G',gr⟩:=zBy (w':=w.alloc (.cells (a.eval x).cells T')) gc ef hd (cells:=(a.eval x).cells) (e:=T') rfl (fun o v h=>by rw[<-Kc,hc];simpa using h) (.ptr p.tree) (.pointer (Wu ⟨w.heap.size,0,Wv⟩)) (.inr ⟨p,rfl,rfl,rfl,gv⟩)
 refine⟨_,_,?_,G',gr⟩;simp[execOp,ho,Instr.box,newVar,newRow]
theorem zIB(t e:TypeId)(ti:TypeInfo)(z:Value)(k n:Nat)(xs:List Operand)(ps:List yV)(ho:o.op=.buildSlice t n ((xs.zipIdx 0).map fun x=>(x.2,x.1)).toArray)(gg:o.dst=Wu d)(hd:d<Γ.N)
  (ht:P.underlying t=Wu (.slice e))(hi:P.info? e=Wu ti)(hz:ti.zero=Wu z)(hk:ti.size=k)(fd:0<k)(hn:xs.length=n)(dS:0<n)(jl:n*k<=2 ^ 24)
  (hx:uK E xs ps)(ef:tJ E d ps)(gv:∀p∈ps,p.tree.size=k):
  wF P Γ o E (E.app ((d,Wu (.sl k (ps.map yV.tree)))::pWr d ps 0) ((d,0)::sC ps)):=by
 refine wF.value gg fun a w G gc=>?_
 subst hk;have gm:xs.length=ps.length:=uK.length xs ps hx;have hc:=zHa gc ef xs ps (fun _ h=>h) hx;have cJ:∀v∈xs.map a.eval,v.cells.size=ti.size:=by
  intro v hv;obtain⟨x,au,rfl⟩:=Jq.1 hv;obtain⟨p,hp,hxp⟩:=uK.mem xs ps hx x au;rw[<-Ki,zA6 gc ef hp hxp,<-gv p hp];cases p with
  |slot s t=>
   obtain⟨_,_,h3⟩:=ef.slot s t hp;show(vals G s t []).length=t.size;exact vG t [] (by rintro xs rfl;simp[T.okTup]at h3)
  |zero u=>exact vO u (ef.zero u hp)
 have uf:=Great.fill_whole fd (xs.map a.eval) ((Jb4 (n*ti.size)).map (z.cells[· %z.cells.size]!)) cJ (by simp[hn]);have bY:((((xs.zipIdx 0).map fun x=>(x.2,x.1)).toArray).map fun(i,x)=>(i,a.eval x)).toList=((xs.map a.eval).zipIdx 0).map fun x=>(x.2,x.1):=by simp[List.zipIdx_map,Function.comp_def]
 have gB:=run_buildSlice (P:=P) w t e n _ _ ti z ht hi hz (by omega) (by have:=Nat.mul_pos dS fd;omega) (by rw[bY];exact uf);have gU:((xs.map a.eval).flatMap fun v=>v.cells.toList).toArray.size=n*ti.size:=by rw[Jay,flat_len (k:=ti.size) _ (fun v hv=>by rw[Ki];exact cJ v hv)];simp[hn]
 obtain⟨G',gr⟩:=zBy (w':=w.alloc (.cells ((xs.map a.eval).flatMap fun v=>v.cells.toList).toArray e)) gc ef hd rfl (fun o v h=>by rw[hc];simpa using h) (.sl ti.size (ps.map yV.tree)) (.slice (Wu ⟨w.heap.size,0,Wv⟩) n n) (.inl ⟨ti.size,n,rfl,gv,by rw[<-gm,hn],by omega,by have:n<=n*ti.size:=Nat.le_mul_of_pos_right n fd;simp only[maxLen];omega,gU⟩)
 refine⟨_,_,?_,G',gr⟩;simp only[execOp,ho,Sem.run_bind,gB,Result.andThen_ok];rfl
where
 flat_len {k:Nat} (vs:List Value) (h:∀v∈vs,v.cells.toList.length=k):(vs.flatMap fun v=>v.cells.toList).length=vs.length*k:=by
  induction vs with
  |nil=>simp
  |cons v vs ih=>simp[Lm,ih (fun u hu=>h u (by simp[hu])),Lo];have:=h v (by simp);simp at this;omega
end
theorem zKa{α β:Type}(f:α->List β)(x:α)(k:Nat)(hk:(f x).length=k)(fd:0<k):∀(n o:Nat)(v:β),((J0 n x).flatMap f)[o]? =Wu v->o<n*k/\(f x)[o%k]? =Wu v
 |0,o,v,h=>by simp at h
 |n+1,o,v,h=>by
  rw[Jw,Lm,Km]at h;split at h
  ·grind[Nat.mod_eq_of_lt]
  ·rename_i hge
   rw[hk]at h hge;obtain⟨h1,h2⟩:=zKa f x k hk fd n (o-k) v h
   grind[Nat.mod_eq_sub_mod]
section
variable {P:Program}{Γ:Ctx}{E:Env}{o:Oper}{d:Nat}
theorem zWf(t e:TypeId)(ti:TypeInfo)(z:Value)(u:T)(k:Nat)(x y:Operand)(n c:Nat)(kl kc:IntKind)(ho:o.op=.makeSlice t x y)(gg:o.dst=Wu d)(hd:d<Γ.N)
  (ht:P.underlying t=Wu (.slice e))(hi:P.info? e=Wu ti)(hz:ti.zero=Wu z)(hk:ti.size=k)(fd:0<k)(hu:u.zOk=Ww)(hv:tW u=z.cells.toList)(fQ:u.size=k)(hb:ti.bytes<=4096)
  (hx:opT E x=Wu (.lit (.int kl n)))(hy:opT E y=Wu (.lit (.int kc c)))(cY:n<=c)(hc:c<=68719476736):
  wF P Γ o E (E.app [(d,Wu (.sl k (J0 n u)))] [(d,0)]):=by
 refine wF.value gg fun a w G gc=>?_
 have h1:=(xX gc hx).1;have h2:=(xX gc hy).1;subst hk;have ef:tJ E d (J0 n (.zero u)):=⟨by simp,by grind,by
  have:∀m,xV (J0 m (.zero u))=[]:=by intro m;induction m with|zero=>rfl|succ m ih=>grind[xV]
  simp[this]⟩
 have ap:z.cells.size=ti.size:=by grind[vO]
 have ab:(ti.bytes:Int)*(c:Int)<=281474976710656:=by have:ti.bytes*c<=4096*68719476736:=Gt hb hc;omega
 have gB:=run_make (P:=P) w t e ti z ht hi hz kl kc n c (by omega) (by omega) ab (by omega);simp only[J7]at gB;obtain⟨G',gr⟩:=zBy (w':=w.alloc (.cells (madeCells z.cells (c*ti.size)) e)) gc ef hd rfl (fun i v h=>by
  obtain⟨h3,h4⟩:=zKa (sT G) (.zero u) ti.size (by grind[sT]) fd n i v h
  grind[Jc1,Lp,sT,madeCells]) (.sl ti.size (J0 n u)) (.slice (Wu ⟨w.heap.size,0,Wv⟩) n c)
  (.inl ⟨ti.size,c,by simp[yV.tree],fun p hp=>by simp at hp;obtain⟨_,rfl⟩:=hp;exact fQ,by simp,by grind,by grind[maxLen],by simp[madeCells]⟩)
 refine⟨.slice (Wu ⟨w.heap.size,0,Wv⟩) n c,w.alloc (.cells (madeCells z.cells (c*ti.size)) e),?_,G',?_⟩
 ·simp only[execOp,ho,h1,h2,Sem.run_bind,gB,Result.andThen_ok]
  rfl
 ·have h6:∀m i,pWr d (J0 m (.zero u)) i=[]:=by intro m;induction m with|zero=>intro i;rfl|succ m ih=>grind[pWr]
  have h7:sC (J0 n (.zero u))=[]:=by
   have:∀m,xV (J0 m (.zero u))=[]:=by intro m;induction m with|zero=>rfl|succ m ih=>grind[xV]
   grind[sC]
  grind
theorem zHb(t e:TypeId)(ti:TypeInfo)(k:Nat)(ho:o.op=.buildSlice t 0 #[])(gg:o.dst=Wu d)(hd:d<Γ.N)
  (ht:P.underlying t=Wu (.slice e))(hi:P.info? e=Wu ti):wF P Γ o E (E.app [(d,Wu (.sl k []))] [(d,0)]):=by
 refine wF.value gg fun a w G gc=>?_
 have ef:tJ E d []:=⟨by simp,by simp,by simp[xV]⟩;obtain⟨G',gr⟩:=zBy (w':=w.alloc (.cells #[] e)) gc ef hd (cells:=#[]) rfl (by simp) (.sl k []) (.slice (Wu ⟨w.heap.size,0,Wv⟩) 0 0)
  (by simp)
 refine⟨_,_,?_,G',gr⟩;have h0:(Jb4 0:Array Nat)= #[]:=by rfl
 simp[execOp,ho,Instr.buildSlice,run_underlying ht,sizeOf,typeInfo,hi,Instr.fill,newRow,h0]
theorem zLt(k:Nat)(x:Operand)(ho:o.op=.move x\/o.op=.assign x)(hx:x=.const (.slice Wv 0 0))(gg:o.dst=Wu d)(hd:d<Γ.N):wF P Γ o E (E.app [(d,Wu (.sl k []))] [(d,0)]):=by
 refine wF.value gg fun a w G gc=>?_
 refine⟨.slice Wv 0 0,w,?_,_,vJ gc rfl hd (fun _=>.slice Wv 0 0) (fun _=>rfl) (.sl k []) (.slice Wv 0 0) (by simp[mkV,Gh.put]) (by simp[R,Gh.put]) (by simp[Top,xG,xW])⟩;subst hx;rcases ho with ho|ho<;>simp[execOp,ho,Act.eval]
def Gh.nv(G:Gh)(d:Nat)(src:Nat->Option (Nat×List Nat))(φ:Nat->List Nat->Option (List Nat))(f:Nat->List Nat->Value):Gh where
 hd s z:=if s=d then(match z.getLast? with
  |some i=>f i z.dropLast
  |none=>.bool Wx)else G.hd s z
 ad s z:=if s=d then(match z.getLast? with
  |some i=>(match src i with
   |some (x,q)=>G.ad x (z.dropLast++q)
   |none=>default)
  |none=>default)else G.ad s z
 lb b o:=match G.lb b o with
  |some (fl,s,z)=>(match φ s z with
   |some z'=>Wu (fl,d,z')
   |none=>Wu (fl,s,z))
  |none=>Wv
 ow b:=match G.ow b with
  |some (s,z)=>(match φ s z with
   |some z'=>Wu (d,z')
   |none=>Wu (s,z))
  |none=>Wv
theorem zWg{w:World}{ps:List yV}(gc:Rep Γ E G a.tmps w)(h:tJ E d ps)(hd:d<Γ.N):
  ∃G',Rep Γ (E.app ((d,Wu (.agg (ps.map yV.tree)))::pWr d ps 0) ((d,0)::sC ps)) G' (a.tmps.setIfInBounds d (.agg (ps.flatMap (sT G)).toArray)) w:=by
 obtain⟨f1,f0,f2,f3,f4,f5,f6⟩:=zGa gc h;have hm:=gc.mem;have gG:Blk w w:=fun b cs e' h=>⟨cs,h,rfl⟩
 generalize gr:G.nv d (zGZ ps) (zIA ps) (pHd G ps)=G'
 have ghd:∀i z,G'.hd d (z++[i])=pHd G ps i z:=by grind[Gh.nv]
 have ghd':∀s z,s≠d->G'.hd s z=G.hd s z:=by grind[Gh.nv]
 have glbm:∀b o fl x z z',G.lb b o=Wu (fl,x,z)->zIA ps x z=Wu z'->G'.lb b o=Wu (fl,d,z'):=by grind[Gh.nv]
 have gowm:∀b x z z',G.ow b=Wu (x,z)->zIA ps x z=Wu z'->G'.ow b=Wu (d,z'):=by grind[Gh.nv]
 have gf:∀s p,Off ((d,0)::sC ps) s p->s≠d:=fun s p h e=>absurd (h 0 (by simp[e])) (by simp)
 have gA:sE ((d,0)::sC ps) G w G' w:=by
  refine⟨by grind,fun s p h=>?_,fun b o fl s p _ hl h=>⟨?_,rfl⟩,fun b s p hl h=>?_,gG,by intros;assumption⟩
  ·grind[Gh.nv]
  all_goals grind[Gh.nv]
 have gy:Mem Γ G' w:=by
  refine⟨fun s p=>?_,fun b o l hl=>?_,fun b l hl=>?_,hm.st,hm.fr,hm.sz,hm.bk⟩
  ·rw[<-gr]
   simp only[Gh.nv];split
   ·split
    ·grind
    ·rfl
   ·exact hm.one s p
  ·rw[<-gr]at hl
   simp only[Gh.nv]at hl;split at hl
   ·rename_i hg;exact hm.lb b o _ hg
   ·cases hl
  ·rw[<-gr]at hl
   simp only[Gh.nv]at hl;split at hl
   ·rename_i hg;exact hm.ow b _ hg
   ·cases hl
 have g4:RF Γ.St G' w d (ps.map yV.tree) [] 0:=by
  refine zOR _ [] 0 (fun i u hu=>?_);rw[Jd];cases hs:zGZ ps i with
  |none=>grind
  |some xq=>
   obtain⟨x,q⟩:=xq;obtain⟨h1,h2,h3,h4⟩:=f4 i u x q hu hs;refine zLs u q [i] (zCW.okTups_get _ f1 i u hu) ⟨by grind,by grind[Gh.nv],by grind,
    by grind,gG,by intros;assumption⟩ (by grind[xF.mono]) h2
 refine⟨G',wV gc (by simp) gA gy ?_ ?_⟩
 ·grind[Wr.find,zCw,sC]
 ·intro s t hs
  simp only[Wr.find]at hs;split at hs
  ·rename_i he
   subst he;simp at hs;subst hs;refine⟨?_,by simpa only[R]using g4,by simp only[Top];exact vV.of_clean _ f0⟩;rw[Jb];simp only[gc.size,hd,mkV,if_true];rw[zDJ gc h G' ps 0 (by simp) ghd]
  ·rename_i gf
   obtain⟨i,u,h1,h2,h3⟩:=zCv ps d 0 s _ hs;simp only[Jd]at h3;simp at h3;subst h3;obtain⟨h4,h5,h6⟩:=h.slot s u (by grind);have ei:∀xs,u≠.tup xs:=by rintro xs rfl;grind[T.okTup]
   have hi:(ps.map yV.tree)[i]? =Wu u:=by simp[h1,yV.tree]
   have hr:=zBk _ [] 0 i u g4 hi;simp only[Jd]at hr;refine zIU (G:=G) (by rw[Jb];simp only[gf,if_false];exact(gc.ent s u h4).1) ei (by grind) (fun z=>?_) hr
   grind[pHd]
theorem zOT(off:Nat):∀(vs:List Value)(i:Nat)(cs:Array Value)(k:Nat),off+i+vs.length<=cs.size->
  ((vs.zipIdx i).foldl (fun cs(x:Value×Nat)=>cs.setIfInBounds (off+x.2) x.1) cs)[k]? =if off+i<=k/\k<off+i+vs.length then vs[k-(off+i)]? else cs[k]?
 | [],i,cs,k,_=>by simp;omega
 |v::vs,i,cs,k,h=>by
  simp only[J8]at h;simp only[List.zipIdx_cons,Gz];rw[zOT off vs (i+1) _ k (by simp;omega)]
  grind
theorem zHc{pv:yV->List Value}(place:Nat->Option (Nat×Nat)):∀(vs:List (Nat×Value))(qs:List (Nat×yV))(ps:List yV)(cs:Array Value),cs.toList=ps.flatMap pv->
  (∀i p,ps[i]? =Wu p->place i=Wu (((ps.take i).flatMap pv).length,(pv p).length))->
  vs.map (·.1)=qs.map (·.1)->(∀(j:Nat)(v:Nat×Value)(q:Nat×yV),vs[j]? =Wu v->qs[j]? =Wu q->v.2.cells.toList=pv q.2/\ ∃p,ps[q.1]? =Wu p/\(pv p).length=(pv q.2).length)->
  ∃cs',Instr.fill place cs vs=Wu cs'/\cs'.toList=(qs.foldl (fun ps q=>ps.set q.1 q.2) ps).flatMap pv
 | [],[],ps,cs,eu,_,_,_=>⟨cs,rfl,eu⟩
 | [],_::_,_,_,_,_,h,_=>by simp at h
 |_::_,[],_,_,_,_,h,_=>by simp at h
 |(i,v)::vs,(i',q)::qs,ps,cs,eu,bX,hi,hq=>by
  simp only[Jr,Ul.injEq]at hi;obtain⟨iw,hi⟩:=hi;subst iw;obtain⟨h1,p,h2,h3⟩:=hq 0 (i,v) (i,q) rfl rfl;dsimp only at h1 h2 h3;have Vl:=bX i p h2;have gI:=(Jl.1 h2).1;have bI:ps=ps.take i++p::ps.drop (i+1):=by grind[Ku,Ja7]
  have gp:ps.set i q=ps.take i++q::ps.drop (i+1):=by grind
  have pq:v.cells.size=(pv p).length:=by grind
  have gF:cs.size=((ps.take i).flatMap pv).length+((pv p).length+((ps.drop (i+1)).flatMap pv).length):=by grind[Ki]
  have eb:(v.cells.zipIdx.foldl (fun cs(x:Value×Nat)=>cs.setIfInBounds (((ps.take i).flatMap pv).length+x.2) x.1) cs).toList=(ps.set i q).flatMap pv:=by
   rw[gp];simp only[Jap,Lm,<-h1];apply Kx;intro k;rw[<-Array.foldl_toList,Kc,show v.cells.zipIdx.toList=v.cells.toList.zipIdx 0 from by simp,zOT _ _ 0 cs k (by grind)];have VX:cs.toList=((ps.take i).flatMap pv)++(pv p++(ps.drop (i+1)).flatMap pv):=by grind
   have iO:v.cells.toList.length=(pv p).length:=by rw[h1,h3]
   rw[<-Kc,VX]
   grind
  have Vm:∀j p',(ps.set i q)[j]? =Wu p'->place j=Wu ((((ps.set i q).take j).flatMap pv).length,(pv p').length):=by
   intro j p' cW;have ek:(((ps.set i q).take j).flatMap pv).length=((ps.take j).flatMap pv).length:=by
    rw[gp]
    conv=>rhs;rw[bI]
    by_cases hj:j<=i
    ·grind
    ·rw[Jb1,Jb1]
     simp only[Jap,J5]
     congr 1
     have:j-(ps.take i).length=(j-(ps.take i).length-1)+1:=by simp;omega
     grind
   grind
  have hq':∀(j:Nat)(x:Nat×Value)(y:Nat×yV),vs[j]? =Wu x->qs[j]? =Wu y->x.2.cells.toList=pv y.2/\ ∃p,(ps.set i q)[y.1]? =Wu p/\(pv p).length=(pv y.2).length:=by
   intro j x y hx hy;obtain⟨h6,p',h7,h8⟩:=hq (j+1) x y (by grind) (by grind)
   grind
  obtain⟨cs',h4,h5⟩:=zHc place vs qs (ps.set i q) _ eb Vm hi hq'
  grind[Instr.fill]
theorem vX{t:TypeId}{it:TypeInfo}{fields:Array Field}{places:List (Nat×Nat)}(hi:P.info? t=Wu it)(hu:P.underlying t=Wu (.struct fields))(hz:it.zero=Wu z)
  (hp:fields.toList.mapM (fun f=>(P.info? f.type).map fun i=>(f.offset,i.size))=Wu places)(parts:List (Nat×Value)):P.built t parts=Instr.fill (places.toArray[·]?) z.cells parts:=by
 grind[Program.built]
theorem zFq{G:Gh}:(zs:List T)->(zs.map yV.zero).flatMap (sT G)=sZ zs
 | []=>rfl
 |z::zs=>by simp[sT,sZ,<-zFq (G:=G) zs]
theorem zSz(t:TypeId)(place:Nat->Option (Nat×Nat))(z:Value)(zs:List T)(pl:List (Nat×Operand))(qs:List (Nat×yV))(ps:List yV)(ho:o.op=.build t pl.toArray)(gg:o.dst=Wu d)(hd:d<Γ.N)
  (hb:∀parts,P.built t parts=Instr.fill place z.cells parts)(hzv:sZ zs=z.cells.toList)(hz:zAt zs=Ww)(bX:∀i u,zs[i]? =Wu u->place i=Wu (T.sizes (zs.take i),u.size))
  (ef:qs.foldl (fun ps q=>ps.set q.1 q.2) (zs.map yV.zero)=ps)(gD:tJ E d ps)(me:pl.map (·.1)=qs.map (·.1))
  (hq:∀(j:Nat)(x:Nat×Operand)(q:Nat×yV),pl[j]? =Wu x->qs[j]? =Wu q->zAg E x.2 q.2/\q.2∈ps/\ ∃u,zs[q.1]? =Wu u/\u.size=q.2.tree.size):
  wF P Γ o E (E.app ((d,Wu (.agg (ps.map yV.tree)))::pWr d ps 0) ((d,0)::sC ps)):=by
 refine wF.value gg fun a w G gc=>?_
 obtain⟨G',gr⟩:=zWg gc gD hd;have gv:∀(us:List T),zAt us=Ww->((us.map yV.zero).flatMap (sT G)).length=T.sizes us:=by grind[zFq,zBl]
 obtain⟨cs',h1,h2⟩:=zHc (pv:=sT G) place (pl.map fun x=>(x.1,a.eval x.2)) qs (zs.map yV.zero) z.cells (by rw[zFq,hzv]) (fun i p hp=>by
   rw[Jn]at hp;cases hu:zs[i]? with
   |none=>grind
   |some u=>
    simp[hu]at hp;subst hp;rw[bX i u hu,<-Qa,gv _ (zOks_take zs i hz),sT,vO u (zOks_get zs hz i u hu)])
  (by grind[Function.comp_def]) (fun j v q hv hqj=>by
   rw[Jn]at hv;cases hx:pl[j]? with
   |none=>grind
   |some x=>
    simp[hx]at hv;subst hv;obtain⟨h3,h4,u,h5,h6⟩:=hq j x q hx hqj;refine⟨zA6 gc gD h4 h3,.zero u,by simp[h5],?_⟩;rw[sT,vO u (zOks_get zs hz _ u h5),h6];cases dF:q.2 with
    |slot s t=>
     rw[dF]at h4;obtain⟨_,_,h7⟩:=gD.slot s t h4;exact(vG t [] (by rintro xs rfl;grind[T.okTup])).symm
    |zero u'=>
     rw[dF]at h4;exact(vO u' (gD.zero u' h4)).symm)
 rw[ef]at h2;have h3:cs'=(ps.flatMap (sT G)).toArray:=by rw[<-h2]
 refine⟨_,w,?_,G',gr⟩;have gB:=run_build (P:=P) w t (pl.map fun x=>(x.1,a.eval x.2)).toArray cs' (by grind);simp only[Jb2,execOp,ho,Sem.run_bind]at gB ⊢
 simp_all
where
 zOks_get:(xs:List T)->zAt xs=Ww-> ∀(i:Nat)(x:T),xs[i]? =Wu x->x.zOk=Ww
  | [],_,_,_,h=>by simp at h
  |y::ys,hk,i,x,h=>by
   simp only[zAt,J4]at hk;cases i with
   |zero=>grind
   |succ i=>exact zOks_get ys hk.2 i x (by grind)
 zOks_take:(xs:List T)-> ∀i,zAt xs=Ww->zAt (xs.take i)=Ww
  | [],i,_=>by simp[zAt]
  |y::ys,0,_=>by simp[zAt]
  |y::ys,i+1,hk=>by
   simp only[zAt,J4,La]at hk ⊢
   exact⟨hk.1,zOks_take ys i hk.2⟩
end
mutual
def vD:T->T->Bool
 |.agg xs,.agg ys=>kN xs ys
 |.agg _,_=>Wx
 |.tup _,_=>Wx
 |_,.agg _=>Wx
 |_,.tup _=>Wx
 |.any,_|.lit _,_|.ro _,_|.same _ _,_|.addr _ _,_|.sub _ _ _ _ _,_|.sl _ _,_|.ptr _,_|.mp _ _,_=>Ww
def kN:List T->List T->Bool
 | [],[]=>Ww
 |x::xs,y::ys=>vD x y&&kN xs ys
 | [],_::_=>Wx
 |_::_,[]=>Wx
end
mutual
theorem zCx:(x y:T)->vD x y=Ww->x.size=y.size
 |.agg xs,.agg ys,h=>by simp only[vD]at h;simp only[T.size];exact zEp xs ys h
 |.agg _,.any,h|.agg _,.lit _,h|.agg _,.ro _,h|.agg _,.same _ _,h|.agg _,.addr _ _,h|.agg _,.sub _ _ _ _ _,h|.agg _,.sl _ _,h|.agg _,.ptr _,h|.agg _,.tup _,h=>by grind[vD]
 |.tup _,_,h=>by grind[vD]
 |.any,y,h|.lit _,y,h|.ro _,y,h|.same _ _,y,h|.addr _ _,y,h|.sub _ _ _ _ _,y,h|.sl _ _,y,h|.ptr _,y,h|.mp _ _,y,h=>by cases y<;>simp[vD]at h<;>simp[T.size]
theorem zEp:(xs ys:List T)->kN xs ys=Ww->T.sizes xs=T.sizes ys
 | [],[],_=>rfl
 |x::xs,y::ys,h=>by simp only[kN,J4]at h;simp only[T.sizes,zCx x y h.1,zEp xs ys h.2]
 | [],_::_,h=>by grind[kN]
 |_::_,[],h=>by grind[kN]
end
section
variable {G:Gh}{w:World}{s:Nat}
mutual
theorem zKb:(t:T)-> ∀(p:List Nat)(b o j:Nat),Loc G w s t p b o->j<t.size-> ∃y,G.lb b (o+j)=Wu (Wx,s,y++p)
 |.agg xs,p,b,o,j,h,hj=>by simp only[Loc,T.size]at h hj;exact zOU xs p 0 b o j h.2 hj
 |.any,p,b,o,j,h,hj|.lit _,p,b,o,j,h,hj|.ro _,p,b,o,j,h,hj|.same _ _,p,b,o,j,h,hj|.addr _ _,p,b,o,j,h,hj|.sub _ _ _ _ _,p,b,o,j,h,hj|.sl _ _,p,b,o,j,h,hj|.ptr _,p,b,o,j,h,hj|.mp _ _,p,b,o,j,h,hj=>by
  simp only[Loc,T.size]at h hj
  simp_all
 |.tup _,_,_,_,_,h,_=>by simp only[Loc]at h
theorem zOU:(xs:List T)-> ∀(p:List Nat)(i b o j:Nat),vK G w s xs p i b o->j<T.sizes xs-> ∃y,G.lb b (o+j)=Wu (Wx,s,y++p)
 | [],_,_,_,_,_,_,hj=>by grind[T.sizes]
 |x::xs,p,i,b,o,j,h,hj=>by
  simp only[vK,T.sizes]at h hj
  by_cases gI:j<x.size
  ·obtain⟨y,hy⟩:=zKb x (i::p) b o j h.1 gI
   exact⟨y++[i],by grind⟩
  ·obtain⟨y,hy⟩:=zOU xs p (i+1) b (o+x.size) (j-x.size) h.2 (by omega)
   grind
end
mutual
theorem zS0{G':Gh}{w':World}:(u u0:T)-> ∀(p:List Nat)(b o:Nat),vD u u0=Ww->(∀y,u.inT y.reverse=Ww->G'.ad s (y++p)=G.ad s (y++p))->
  (∀b o y,G.lb b o=Wu (Wx,s,y++p)->G'.lb b o=Wu (Wx,s,y++p))->(∀j v,(vals G' s u p)[j]? =Wu v->yQ w' b (o+j)=Wu v)->Loc G w s u0 p b o->Loc G' w' s u p b o
 |.agg xs,.agg ys,p,b,o,h,ha,hl,hc,h0=>by
  simp only[Loc,vD]at h h0 ⊢
  refine⟨by have:=ha [] rfl;grind,zOV xs ys p 0 b o h (fun i x hx y hy=>?_) (by omega) (by grind[vals]) h0.2⟩
  grind[Ly,T.inT]
 |.agg _,.any,_,_,_,h,_,_,_,_|.agg _,.lit _,_,_,_,h,_,_,_,_|.agg _,.ro _,_,_,_,h,_,_,_,_|.agg _,.same _ _,_,_,_,h,_,_,_,_|.agg _,.addr _ _,_,_,_,h,_,_,_,_|.agg _,.sub _ _ _ _ _,_,_,_,h,_,_,_,_|.agg _,.sl _ _,_,_,_,h,_,_,_,_|.agg _,.ptr _,_,_,_,h,_,_,_,_|.agg _,.tup _,_,_,_,h,_,_,_,_=>by grind[vD]
 |.tup _,_,_,_,_,h,_,_,_,_=>by grind[vD]
 |.any,u0,p,b,o,h,ha,hl,hc,h0|.lit _,u0,p,b,o,h,ha,hl,hc,h0|.ro _,u0,p,b,o,h,ha,hl,hc,h0|.same _ _,u0,p,b,o,h,ha,hl,hc,h0|.addr _ _,u0,p,b,o,h,ha,hl,hc,h0|.sub _ _ _ _ _,u0,p,b,o,h,ha,hl,hc,h0|.sl _ _,u0,p,b,o,h,ha,hl,hc,h0|.ptr _,u0,p,b,o,h,ha,hl,hc,h0|.mp _ _,u0,p,b,o,h,ha,hl,hc,h0=>by have h1:=vC (by cases u0<;>simp[vD]at h<;>rfl) h0;have h2:=ha [] rfl;rw[Js]at h2;simp only[Loc];exact⟨h2.trans h1.1,by simp_all,by simpa using hc 0 (G'.hd s p) (by simp[vals])⟩
theorem zOV{G':Gh}{w':World}:(xs ys:List T)-> ∀(p:List Nat)(j b o:Nat),kN xs ys=Ww->(∀i x,xs[i]? =Wu x-> ∀y,x.inT y.reverse=Ww->G'.ad s (y++((j+i)::p))=G.ad s (y++((j+i)::p)))->
  (∀b o y,G.lb b o=Wu (Wx,s,y++p)->G'.lb b o=Wu (Wx,s,y++p))->(∀i v,(yJ G' s xs p j)[i]? =Wu v->yQ w' b (o+i)=Wu v)->vK G w s ys p j b o->vK G' w' s xs p j b o
 | [],[],_,_,_,_,_,_,_,_,_=>by simp only[vK]
 |x::xs,y::ys,p,j,b,o,h,ha,hl,hc,h0=>by
  simp only[kN,J4,vK]at h h0 ⊢
  have hs:=zCx x y h.1;have ei:∀zs,x≠.tup zs:=by rintro zs rfl;grind[vD]
  refine⟨zS0 x y (j::p) b o h.1 (fun z hz=>by simpa using ha 0 x (by simp) z hz) (fun b o z hz=>by have:=hl b o (z++[j]) (by grind);grind) (fun i v hv=>hc i v ?_) h0.1,
   zOV xs ys p (j+1) b (o+x.size) h.2 (fun i z hz=>by have:=ha (i+1) z (by grind);grind) hl (fun i v hv=>?_) (by grind)⟩
  ·grind[yJ]
  ·have:=hc (x.size+i) v (by
    grind[yJ,vG])
   grind
 | [],_::_,_,_,_,_,h,_,_,_,_=>by grind[kN]
 |_::_,[],_,_,_,_,h,_,_,_,_=>by grind[kN]
end
end
def zGv(p:yV)(q:List Nat)(s:Nat)(z:List Nat):Option (List Nat):=
 match p with
 |.slot s0 t=>if sF t&&s0==s then Wu (z++q)else Wv
 |.zero _=>Wv
def sHd(G:Gh)(p:yV)(y:List Nat):Value:=
 match p with
 |.slot s _=>G.hd s y
 |.zero u=>kE (zhd u y.reverse)
def sWr(r:Nat)(q:List Nat):yV->Wr
 |.slot s t=>if sF t then[(s,Wu (cpT r t q))]else[]
 |.zero _=>[]
def Gh.st(G:Gh)(r:Nat)(q:List Nat)(p:yV):Gh where
 hd s z:=if s=r/\q<:+z then sHd G p (z.take (z.length-q.length))else G.hd s z
 ad s z:=if s=r/\q<:+z/\p.tree.inT (z.take (z.length-q.length)).reverse=Wx then(match p with
  |.slot s0 _=>G.ad s0 (z.take (z.length-q.length))
  |.zero _=>default)else G.ad s z
 lb b o:=match G.lb b o with
  |some (fl,s,z)=>(match zGv p q s z with
   |some z'=>Wu (fl,r,z')
   |none=>Wu (fl,s,z))
  |none=>Wv
 ow b:=match G.ow b with
  |some (s,z)=>(match zGv p q s z with
   |some z'=>Wu (r,z')
   |none=>Wu (s,z))
  |none=>Wv
mutual
theorem zLu{Γ:Ctx}{G:Gh}{w:World}(hm:Mem Γ G w){s:Nat}:(t:T)-> ∀(p:List Nat)(v:Value),v∈vals G s t p->v.oneCell'=Ww
 |.agg xs,p,v,h=>by simp only[vals]at h;exact zCY hm xs p 0 v h
 |.any,p,v,h|.lit _,p,v,h|.ro _,p,v,h|.same _ _,p,v,h|.addr _ _,p,v,h|.sub _ _ _ _ _,p,v,h|.sl _ _,p,v,h|.ptr _,p,v,h|.mp _ _,p,v,h|.tup _,p,v,h=>by simp only[vals,List.mem_singleton]at h;rw[h];exact hm.one s p
theorem zCY{Γ:Ctx}{G:Gh}{w:World}(hm:Mem Γ G w){s:Nat}:(xs:List T)-> ∀(p:List Nat)(j:Nat)(v:Value),v∈yJ G s xs p j->v.oneCell'=Ww
 | [],_,_,_,h=>by grind[yJ]
 |x::xs,p,j,v,h=>by
  simp only[yJ,Ji]at h;rcases h with h|h
  ·exact zLu hm x _ v h
  ·exact zCY hm xs p _ v h
end
mutual
theorem zFr:(u:T)->u.zOk=Ww-> ∀v∈tW u,v.oneCell'=Ww
 |.lit v,h,x,hx=>by simp only[tW,List.mem_singleton]at hx;rw[hx];exact h
 |.sl _ _,_,x,hx=>by simp only[tW,List.mem_singleton]at hx;rw[hx];rfl
 |.agg xs,h,x,hx=>by simp only[T.zOk]at h;simp only[tW]at hx;exact zHd xs h x hx
 |.any,h,_,_|.ro _,h,_,_|.same _ _,h,_,_|.addr _ _,h,_,_|.sub _ _ _ _ _,h,_,_|.ptr _,h,_,_|.tup _,h,_,_|.mp _ _,h,_,_=>by grind[T.zOk]
theorem zHd:(xs:List T)->zAt xs=Ww-> ∀v∈sZ xs,v.oneCell'=Ww
 | [],_,_,h=>by grind[sZ]
 |x::xs,h,v,hv=>by
  simp only[zAt,J4]at h;simp only[sZ,Ji]at hv;rcases hv with hv|hv
  ·exact zFr x h.1 v hv
  ·exact zHd xs h.2 v hv
end
theorem zLv(y q:List Nat):(y++q).take ((y++q).length-q.length)=y:=by simp
theorem zNt{s:Nat}{t:T}{v:Option Value}(hv:v=Wu (mkV G s t []))(ei:∀xs,t≠.tup xs)(hs:∀p,G'.hd s p=G.hd s p)(br:∀z,G'.hd d (z++q)=G.hd s z)
  (hr:R Γ.St G' w' d t q):Ent Γ G' w' v s (cpT d t q):=by
 have hz:∀z,G'.hd s (z++[])=G'.hd d (z++q):=by grind
 refine⟨?_,?_,qH d t q⟩
 ·rw[hv,zA4 (G:=G') (G':=G') t q [] ei hz,kY G s t [] ei,zBJ t [] q (fun z=>by rw[br,Jh])]
 ·exact zDE (G:=G') (G':=G') (fun _=>rfl) t q [] hz ei (xF.triv (fun _ _=>⟨rfl,rfl⟩) _) hr
section
variable {P:Program}{Γ:Ctx}{E:Env}{o:Oper}
theorem kF:(f:List Nat)-> ∀(t u:T),zZ t->zZ u->zZ (t.set f u)
 | [],t,u,_,hu=>by grind[T.set]
 |i::f,t,u,ht,hu=>by
  cases t with
  |sl k xs=>
   simp only[T.set];split
   ·rename_i x hx
    simp only[zZ,xF]at ht ⊢
    exact sets_clean xs i _ ht (kF f x u (uA xs ht i x hx) hu)
   ·exact ht
  |agg xs=>
   simp only[T.set];split
   ·rename_i x hx
    simp only[zZ,xF]at ht ⊢
    exact sets_clean xs i _ ht (kF f x u (uA xs ht i x hx) hu)
   ·exact ht
  |tup xs=>
   simp only[T.set];split
   ·rename_i x hx
    simp only[zZ,xF]at ht ⊢
    exact sets_clean xs i _ ht (kF f x u (uA xs ht i x hx) hu)
   ·exact ht
  |ptr t=>
   simp only[T.set];split
   ·simp only[zZ,xF]at ht ⊢
    exact kF f t u ht hu
   ·exact ht
  |_=>grind[T.set]
where sets_clean:(xs:List T)-> ∀(i:Nat)(y:T),xG xs->zZ y->xG (xs.set i y)
 | [],_,_,_,_=>by grind
 |x::xs,0,y,h,hy=>by simp only[L7,xG,xW]at h ⊢;grind
 |x::xs,i+1,y,h,hy=>by simp only[L8,xG,xW]at h ⊢;exact⟨h.1,sets_clean xs i y h.2 hy⟩
theorem zFs(T':TypeId)(ti:TypeInfo)(x y:Operand)(r:Nat)(q:List Nat)(tr u0:T)(p:yV)(ho:o.op=.store T' x y)(gg:o.dst=Wv)
  (hi:P.info? T'=Wu ti)(gv:ti.size=p.tree.size)(pL:0<ti.size)(hx:zAW Γ E x r q)(hr:E r=Wu tr)(ij:tr.single=Ww)(hg:tr.get q.reverse=Wu u0)(hl:tr.locd q.reverse=Ww)
  (fg:vD p.tree u0=Ww)(hy:zAg E y p)(ef:tJ E r [p]):
  wF P Γ o E (E.app ((r,Wu (tr.set q.reverse p.tree))::sWr r q p) ((r,q.length)::sC [p])):=by
 refine wF.skip gg fun a w G gc=>?_
 have hm:=gc.mem;have ag:=hx a w G gc;obtain⟨e3,e4,e5⟩:=gc.ent r _ hr;have az:q≠[]:=by rintro rfl;simp[T.locd]at hl
 obtain⟨i0,f0,Vj⟩:∃i f,q.reverse=i::f:=by
  cases h:q.reverse with
  |nil=>exact absurd (by simpa using h) az
  |cons i f=>exact⟨i,f,rfl⟩
 have dn:∀v:T,(tr.set q.reverse v).single=Ww/\zZ tr:=by
  intro v;rw[Vj]at hg ⊢
  cases tr with
  |sl k xs=>exact⟨by simp only[T.set];split<;>rfl,by simpa only[Top,zZ,xF]using e5⟩
  |ptr t=>exact⟨by simp only[T.set];split<;>rfl,by simpa only[Top,zZ,xF]using e5⟩
  |agg xs=>simp[T.single]at ij
  |tup xs=>simp[T.single]at ij
  |_=>simp[T.get]at hg
 obtain⟨b,ob,cs,et,mD,gG,VS⟩:=(zA3 q.reverse tr u0 [] e4 hg).2 hl;simp only[rp,K6,Jh]at mD;have hru0:=(zA3 q.reverse tr u0 [] e4 hg).1;have fq:=zCs mD;have du:=zCx _ _ fg;have hc:=zA6 gc ef (by simp) hy;have cJ:(a.eval y).cells.size=p.tree.size:=by
  rw[<-Ki,hc];cases p with
  |slot s t=>obtain⟨_,_,h3⟩:=ef.slot s t (by simp);exact vG t [] (by rintro xs rfl;simp[T.okTup]at h3)
  |zero u=>exact vO u (ef.zero u (by simp))
 have gw:∀v∈(a.eval y).cells.toList,v.oneCell'=Ww:=by
  rw[hc];intro v hv;cases p with
  |slot s t=>exact zLu hm t [] v hv
  |zero u=>exact zFr u (ef.zero u (by simp)) v hv
 generalize gS:w.setRow b (cs.toList.take ob++(a.eval y).cells.toList++cs.toList.drop (ob+(a.eval y).cells.toList.length)).toArray=w'
 have eb:w'.heap[b]? =Wu (.cells (cs.toList.take ob++(a.eval y).cells.toList++cs.toList.drop (ob+(a.eval y).cells.toList.length)).toArray et (0,0)):=by rw[<-gS];exact setRow_heap w b cs _ et _ gG
 have gx:∀b',b'≠b->w'.heap[b']? =w.heap[b']?:=fun b' h=>by rw[<-gS];exact setRow_other w b b' _ h
 have gU:w'.heap.size=w.heap.size:=by rw[<-gS];exact size_setRow w b _
 have gF:(a.eval y).cells.toList.length=u0.size:=by rw[Ki,cJ,du]
 have eS:∀k,yQ w' b k=if ob<=k/\k<ob+u0.size then(sT G p)[k-ob]? else yQ w b k:=by
  intro k;simp only[yQ,World.cell?,eb,gG,Ui,Hg,if_false];rw[<-hc,<-gF]at*
  rw[<-Kc,<-Kc (xs:=cs)];simp only[];have eu:cs.toList.length=cs.size:=Ki ..
  generalize (a.eval y).cells.toList=V at*
  by_cases h1:k<ob
  ·rw[if_neg (by omega),Jg,K1 (by simp;omega),Ua h1]
  ·by_cases h2:k<ob+V.length
   ·rw[if_pos ⟨by omega,h2⟩,Jg,Ja (by simp;omega),K1 (by simp;omega)]
    congr 1;simp;omega
   ·rw[if_neg (by omega),Jg,Ja (by simp;omega),Ja (by simp;omega),Kw]
    congr 1;simp;omega
 have cr:∀b' o' fl s z,G.lb b' o'=Wu (fl,s,z)-> ¬(s=r/\q<:+z)->yQ w' b' o'=yQ w b' o':=by
  intro b' o' fl s z h1 h2
  by_cases hb:b'=b
  ·subst hb
   rw[eS];split
   ·rename_i h3
    obtain⟨y',h4⟩:=zKb u0 q b' ob (o'-ob) mD (by omega);rw[show ob+(o'-ob)=o' from by omega,h1]at h4;simp at h4;exact absurd ⟨h4.2.1,y',h4.2.2.symm⟩ h2
   ·rfl
  ·simp[yQ,World.cell?,gx b' hb]
 have bi:∀(b':Nat) ms c,w.heap[b']? =Wu (.map ms c)->w'.heap[b']? =Wu (.map ms c):=fun b' ms c h=>by
  by_cases e:b'=b
  ·subst e
   rw[gG]at h;cases h
  ·rw[gx b' e];exact h
 have eB:Blk w w':=by
  intro b' cs' e' h1
  by_cases hb:b'=b
  ·subst hb
   rw[gG]at h1;simp at h1;obtain⟨rfl,rfl⟩:=h1;exact⟨_,eb,by simp;have:cs.toList.length=cs.size:=Ki ..;omega⟩
  ·exact⟨cs',by rw[gx b' hb];exact h1,rfl⟩
 generalize gr:G.st r q p=G'
 have ghd:∀y',G'.hd r (y'++q)=sHd G p y':=fun y'=>by rw[<-gr];simp[Gh.st]
 have ghd':∀s z,¬(s=r/\q<:+z)->G'.hd s z=G.hd s z:=fun s z h=>by rw[<-gr];simp only[Gh.st];rw[if_neg h]
 have gad:∀s z,¬(s=r/\q<:+z)->G'.ad s z=G.ad s z:=fun s z h=>by rw[<-gr];simp only[Gh.st];rw[if_neg (fun h2=>h ⟨h2.1,h2.2.1⟩)]
 have gadf:∀y',p.tree.inT y'.reverse=Ww->G'.ad r (y'++q)=G.ad r (y'++q):=fun y' h=>by rw[<-gr];simp only[Gh.st,zLv];rw[if_neg (by simp[h])]
 have gadm:∀s0 t y',p=.slot s0 t->t.inT y'.reverse=Wx->G'.ad r (y'++q)=G.ad s0 y':=fun s0 t y' h1 h2=>by subst h1;rw[<-gr];simp only[Gh.st,zLv,yV.tree];rw[if_pos];simp[h2]
 have glb:∀b' o' fl s z,G.lb b' o'=Wu (fl,s,z)->zGv p q s z=Wv->G'.lb b' o'=Wu (fl,s,z):=fun b' o' fl s z h1 h2=>by rw[<-gr];simp[Gh.st,h1,h2]
 have glbm:∀b' o' fl s z z',G.lb b' o'=Wu (fl,s,z)->zGv p q s z=Wu z'->G'.lb b' o'=Wu (fl,r,z'):=fun b' o' fl s z z' h1 h2=>by rw[<-gr];simp[Gh.st,h1,h2]
 have gow:∀b' s z,G.ow b'=Wu (s,z)->zGv p q s z=Wv->G'.ow b'=Wu (s,z):=fun b' s z h1 h2=>by rw[<-gr];simp[Gh.st,h1,h2]
 have gowm:∀b' s z z',G.ow b'=Wu (s,z)->zGv p q s z=Wu z'->G'.ow b'=Wu (r,z'):=fun b' s z z' h1 h2=>by rw[<-gr];simp[Gh.st,h1,h2]
 have dJ:∀s z,(∀n,(s,n)∉(r,q.length)::sC [p])->zGv p q s z=Wv:=by
  intro s z h;cases p with
  |zero u=>rfl
  |slot s0 t=>
   simp only[zGv];rw[if_neg];intro h2;simp only[J4,beq_iff_eq]at h2;obtain⟨h3,rfl⟩:=h2;exact h 1 (by simp[sC,xV,h3])
 have pM:∀z,zGv p q r z=Wv:=by
  intro z;cases p with
  |zero u=>rfl
  |slot s0 t=>
   simp only[zGv];rw[if_neg];intro h2;simp only[J4,beq_iff_eq]at h2;obtain⟨h3,rfl⟩:=h2;have:=(L4.1 ef.dist).1;simp[xV,h3]at this
 have bg:∀s z,Off ((r,q.length)::sC [p]) s z-> ¬(s=r/\q<:+z):=by
  rintro s z h ⟨rfl,h2⟩
  have:=h q.length (by simp);have:=h2.length_le;omega
 have gA:sE ((r,q.length)::sC [p]) G w G' w':=by
  refine⟨fun s z h=>ghd' s z (bg s z h),fun s z h=>gad s z (bg s z h),fun b' o' fl s z _ h1 h2=>⟨glb b' o' fl s z h1 (dJ s z h2),cr b' o' fl s z h1 ?_⟩,fun b' s z h1 h2=>gow b' s z h1 (dJ s z h2),eB,fun b' _ _ ms c _ _ h=>bi b' ms c h⟩
  rintro⟨rfl,_⟩
  exact h2 q.length (by simp)
 have mR:zAU Γ w b:=by obtain⟨y',h4⟩:=zKb u0 q b ob 0 mD (by omega);exact hm.lb _ _ _ h4
 have gy:Mem Γ G' w':=by
  refine⟨fun s z=>?_,fun b' o' l hl=>?_,fun b' l hl=>?_,fun b' x' ej=>?_,fun b' h1 h2=>?_,by rw[gU];exact hm.sz,hm.bk.trans eB (by rw[<-gS];rfl) (by rw[<-gS];rfl)⟩
  ·by_cases h:s=r/\q<:+z
   ·obtain⟨rfl,y',rfl⟩:=h
    rw[ghd];unfold sHd;split
    ·exact hm.one _ _
    ·exact zBv _
   ·rw[ghd' s z h];exact hm.one s z
  ·have:∃l',G.lb b' o'=Wu l':=by
    rw[<-gr]at hl;simp only[Gh.st]at hl;split at hl
    ·exact⟨_,by assumption⟩
    ·cases hl
   obtain⟨l',tg⟩:=this;have:=hm.lb b' o' l' tg;exact⟨by rw[gU];exact this.1,this.2⟩
  ·have:∃l',G.ow b'=Wu l':=by
    rw[<-gr]at hl;simp only[Gh.st]at hl;split at hl
    ·exact⟨_,by assumption⟩
    ·cases hl
   obtain⟨l',tg⟩:=this;have:=hm.ow b' l' tg;exact⟨by rw[gU];exact this.1,this.2⟩
  ·have hb:b'≠b:=by rintro rfl;rw[mR.2.2]at ej;cases ej
   rw[gx b' hb];exact hm.st b' x' ej
  ·have hb:b'≠b:=by
    rintro rfl
    rcases mR.2.1 with h3|h3
    ·omega
    ·exact h2 h3
   rw[gx b' hb];exact hm.fr b' h1 h2
 have jf:Upd G w G' w' r q:=by refine⟨fun z h=>ghd' r z (fun h2=>h h2.2),fun z h=>gad r z (fun h2=>h h2.2),fun b' o' fl z h1 h=>⟨glb b' o' fl r z h1 (pM z),cr b' o' fl r z h1 (fun h2=>h h2.2)⟩,fun b' z h1 _=>gow b' r z h1 (pM z),eB,fun b' _ ms c _ _ h=>bi b' ms c h⟩
 have ay:R Γ.St G' w' r p.tree q:=by
  cases hp:p with
  |zero u=>
   refine zJZ u q (ef.zero u (by simp[hp])) (fun z=>by rw[ghd];simp[sHd,hp])
  |slot s0 t=>
   obtain⟨h1,h2,h3⟩:=ef.slot s0 t (by simp[hp]);have fh:=(gc.ent s0 t h1).2.1
   by_cases pP:sF t=Ww
   ·have jm:s0≠r:=by
     rintro rfl
     have:=(L4.1 ef.dist).1;simp[hp,xV,pP]at this
    refine zLs t [] q h3 ⟨fun z=>by rw[ghd,Jh];simp[sHd,hp],fun z hz=>by rw[Jh];exact gadm s0 t z hp hz,fun b' o' fl z _ h4=>?_,fun b' z h4=>?_,eB,fun b' _ ms c _ h=>bi b' ms c h⟩ (xF.mono (fun _ _=>False.elim) t h2) fh
    ·rw[Jh]at h4
     exact⟨glbm b' o' fl s0 z _ h4 (by simp[zGv,hp,pP]),cr b' o' fl s0 z h4 (fun h5=>jm h5.1)⟩
    ·rw[Jh]at h4
     exact gowm b' s0 z _ h4 (by simp[zGv,hp,pP])
   ·have hh:G'.hd r q=G.hd s0 []:=by have:=ghd [];rw[Js]at this;rw[this];simp[sHd,hp]
    cases t<;>simp[sF]at pP<;>simp only[R,yV.tree]at fh ⊢ <;>rw[hh]<;>exact fh
 have pt:vals G' r p.tree q=sT G p:=by
  cases hp:p with
  |zero u=>exact zFp u q (ef.zero u (by simp[hp])) (fun z=>by rw[ghd];simp[sHd,hp])
  |slot s0 t=>exact zAV t [] q (fun z=>by rw[ghd];simp[sHd,hp])
 have dU:∀b' o',Loc G w r u0 q b' o'->Loc G' w' r p.tree q b' o':=by
  intro b' o' h1;have h2:b'=b/\o'=ob:=by have:=(zCs h1).symm.trans fq;simp at this;exact this
  obtain⟨rfl,rfl⟩:=h2;refine zS0 p.tree u0 q b' o' fg (fun y' h=>gadf y' h) (fun b2 o2 y' h=>glb b2 o2 Wx r _ h (pM _)) (fun j v hv=>?_) h1;rw[pt]at hv;have hj:=(Jl.1 hv).1;have bX:(sT G p).length=u0.size:=by rw[<-hc,gF]
  rw[eS,if_pos ⟨by omega,by omega⟩,show o'+j-o'=j from by omega];exact hv
 have dx:R Γ.St G' w' r (tr.set q.reverse p.tree) []:=by
  have cU:rp q.reverse []=q:=by simp[rp]
  refine zFX q.reverse tr p.tree u0 [] (by rw[cU];exact jf) e4 hg du (xF.mono (fun _ _=>False.elim) tr (dn .any).2) (by rw[cU];exact dU) (by rw[cU];exact ay)
 have gE:=run_storeCells_at P b ob et (a.eval y).cells.toList 0 cs w gG (by omega) gw;simp only[Jae]at gE;rw[gS]at gE;refine⟨w',?_,G',wV gc rfl gA gy ?_ ?_⟩
 ·have jh:(a.eval y).cells.size=ti.size:=by rw[cJ,gv]
  simp[execOp,ho,ag,fq,Instr.storeAt,tO,storeVar,sizeOf,typeInfo,hi,jh,gE]
 ·intro s hs
  simp only[Wr.find]at hs;split at hs
  ·cases hs
  ·rename_i gf
   refine⟨fun n hn=>?_,rfl⟩;simp only[Je,Jak.injEq]at hn;rcases hn with⟨h1,_⟩|hn
   ·exact gf h1.symm
   ·cases p with
    |zero u=>simp[sC,xV]at hn
    |slot s0 t=>
     by_cases pP:sF t=Ww
     ·simp[sC,xV,pP]at hn
      simp[sWr,pP,Wr.find,hn.1.symm]at hs
     ·simp[sC,xV,pP]at hn
 ·intro s t hs
  simp only[Wr.find]at hs;split at hs
  ·rename_i he
   subst he;simp at hs;subst hs;refine⟨?_,dx,Top.of_clean _ (kF _ _ _ (dn .any).2 ?_)⟩
   ·rw[e3,xH (dn p.tree).1,xH ij]
    congr 1
    exact(ghd' r [] (fun h=>az (by simpa using h.2))).symm
   ·cases p with
    |zero u=>exact(zBw u (ef.zero u (by simp))).1
    |slot s0 t=>exact(ef.slot s0 t (by simp)).2.1
  ·rename_i gf
   cases hp:p with
   |zero u=>simp[sWr,hp,Wr.find]at hs
   |slot s0 t0=>
    by_cases pP:sF t0=Ww
    ·simp only[sWr,hp,pP,if_true,Wr.find]at hs
     split at hs
     ·rename_i he
      subst he;simp at hs;subst hs;obtain⟨h1,h2,h3⟩:=ef.slot s0 t0 (by simp[hp]);refine zNt (G:=G) (gc.ent s0 t0 h1).1 (by rintro xs rfl;simp[T.okTup]at h3) (fun z=>ghd' s0 z (fun h=>gf h.1.symm)) (fun z=>by rw[ghd];simp[sHd,hp]) (by rw[hp]at ay;exact ay)
     ·cases hs
    ·simp[sWr,hp,pP,Wr.find]at hs
theorem zLw(T':TypeId)(ti:TypeInfo)(x y:Operand)(r:Nat)(q:List Nat)(tr u0:T)(p:yV)(ho:o.op=.store T' x y)(gg:o.dst=Wv)
  (hi:P.info? T'=Wu ti)(gv:ti.size=p.tree.size)(pL:0<ti.size)(hx:opT E x=Wu (.addr r q))(hr:E r=Wu tr)(ij:tr.single=Ww)(hg:tr.get q.reverse=Wu u0)(hl:tr.locd q.reverse=Ww)
  (fg:vD p.tree u0=Ww)(hy:zAg E y p)(ef:tJ E r [p]):
  wF P Γ o E (E.app ((r,Wu (tr.set q.reverse p.tree))::sWr r q p) ((r,q.length)::sC [p])):=
 by grind[zFs,zAW.addr]
end
section
variable {G G':Gh}{s:Nat}
theorem zNu(xs:List T):∀(p:List Nat)(j:Nat),(∀k,j<=k-> ∀z,G'.hd s (z++(k::p))=G.hd s (z++(k::p)))->yJ G' s xs p j=yJ G s xs p j:=by
 induction xs with
 |nil=>grind[yJ]
 |cons z zs ih=>
  intro p j h;simp only[yJ];rw[zAV z (j::p) (j::p) (h j (J9 _)),ih p (j+1) (by grind)]
theorem zQw(xs:List T):∀(p:List Nat)(j i:Nat)(x y:T),xs[i]? =Wu x->(∀k,k≠j+i-> ∀z,G'.hd s (z++(k::p))=G.hd s (z++(k::p)))->
  vals G' s y ((j+i)::p)=vals G s x ((j+i)::p)->yJ G' s (xs.set i y) p j=yJ G s xs p j:=by
 induction xs with
 |nil=>simp
 |cons z zs ih=>
  intro p j i x y h hz hy;cases i with
  |zero=>
   grind[yJ,zNu]
  |succ i=>
   simp only[L8,yJ];rw[zAV z (j::p) (j::p) (hz j (by omega)),ih p (j+1) i x y (by grind) (by grind) (by grind)]
theorem zLx:(f:List Nat)-> ∀(t u u0:T)(p:List Nat),t.get f=Wu u0->u0.single=Ww->u.single=Ww->(∀z,(rp f p<:+z->z=rp f p)->G'.hd s z=G.hd s z)->vals G' s (t.set f u) p=vals G s t p
 | [],t,u,u0,p,hg,h0,h1,hh=>by simp[T.get]at hg;subst hg;have:G'.hd s p=G.hd s p:=hh p (by simp[rp]);simp only[T.set];cases t<;>simp[T.single]at h0<;>cases u<;>simp[T.single]at h1<;>simp[vals,this]
 |i::f,t,u,u0,p,hg,h0,h1,hh=>by
  rw[zAT]at hh;have hp:G'.hd s p=G.hd s p:=by grind[kM]
  cases t with
  |agg xs=>
   simp only[T.get]at hg;cases hx:xs[i]? with
   |none=>grind
   |some x=>
    rw[hx]at hg;simp only[T.set,hx,vals];refine zQw xs p 0 i x _ hx (by grind[jZ]) ?_;rw[Jd];exact zLx f x u u0 (i::p) hg h0 h1 hh
  |tup xs=>
   grind[T.set,vals]
  |sl k xs=>grind[T.set,vals]
  |ptr t=>grind[T.set,vals]
  |_=>grind[T.get]
theorem zLy(f:List Nat)(t u u0:T)(p:List Nat)(hg:t.get f=Wu u0)(h0:u0.single=Ww)(h1:u.single=Ww)(hh:∀z,(rp f p<:+z->z=rp f p)->G'.hd s z=G.hd s z)(ei:∀xs,t≠.tup xs):
  sB G' s (t.set f u) p=sB G s t p:=by
 have h:=zLx f t u u0 p hg h0 h1 hh;cases f with
 |nil=>
  simp[T.get]at hg;subst hg;have:G'.hd s p=G.hd s p:=hh p (by simp[rp]);simp only[T.set];cases t<;>simp[T.single]at h0<;>cases u<;>simp[T.single]at h1<;>simp[sB,this]
 |cons i f=>
  rw[zAT]at hh;have hp:G'.hd s p=G.hd s p:=by grind[kM]
  cases t with
  |agg xs=>
   grind[T.set,vals,sB]
  |tup xs=>grind
  |sl k xs=>grind[T.set,sB]
  |ptr t=>grind[T.set,sB]
  |_=>grind[T.get]
theorem zQx(xs:List T):∀(p:List Nat)(j:Nat),(∀k,j<=k-> ∀z,G'.hd s (z++(k::p))=G.hd s (z++(k::p)))->kA G' s xs p j=kA G s xs p j:=by
 induction xs with
 |nil=>grind[kA]
 |cons z zs ih=>
  intro p j h;simp only[kA];rw[zBJ z (j::p) (j::p) (h j (J9 _)),ih p (j+1) (by grind)]
theorem zS1(xs:List T):∀(p:List Nat)(j i:Nat)(x y:T),xs[i]? =Wu x->(∀k,k≠j+i-> ∀z,G'.hd s (z++(k::p))=G.hd s (z++(k::p)))->
  sB G' s y ((j+i)::p)=sB G s x ((j+i)::p)->kA G' s (xs.set i y) p j=kA G s xs p j:=by
 induction xs with
 |nil=>simp
 |cons z zs ih=>
  intro p j i x y h hz hy;cases i with
  |zero=>
   grind[kA,zQx]
  |succ i=>
   simp only[L8,kA];rw[zBJ z (j::p) (j::p) (hz j (by omega)),ih p (j+1) i x y (by grind) (by grind) (by grind)]
def wB:T->Bool
 |.tup xs=>xs.all fun x=>match x with
  |.tup _=>Wx
  |_=>Ww
 |_=>Ww
theorem zKc(f:List Nat)(t u u0:T)(p:List Nat)(hg:t.get f=Wu u0)(h0:u0.single=Ww)(h1:u.single=Ww)(hh:∀z,(rp f p<:+z->z=rp f p)->G'.hd s z=G.hd s z)(bt:wB t=Ww):
  mkV G' s (t.set f u) p=mkV G s t p:=by
 by_cases ht:∃xs,t=.tup xs
 ·obtain⟨xs,rfl⟩:=ht
  cases f with
  |nil=>grind[T.get,T.single]
  |cons i f=>
   rw[zAT]at hh;simp only[T.get]at hg;cases hx:xs[i]? with
   |none=>grind
   |some x=>
    rw[hx]at hg;simp only[T.set,hx,mkV];rw[zS1 xs p 0 i x _ hx (fun k hk z=>hh _ (fun h=>absurd h (jZ (by omega) z)))];rw[Jd];refine zLy f x u u0 (i::p) hg h0 h1 hh ?_
    rintro ys rfl
    simp only[wB]at bt;have:=Ka.1 bt _ (Ky hx)
    grind
 ·have ei:∀xs,t≠.tup xs:=by grind
  rw[kY G s t p ei,<-zLy f t u u0 p hg h0 h1 hh ei];refine kY G' s _ p ?_
  rintro xs eZ
  cases f with
  |nil=>grind[T.set,T.single]
  |cons i f=>cases t<;>simp only[T.set]at eZ<;>first|grind|grind|cases eZ
end
theorem zEq:(f:List Nat)-> ∀(t u:T),Top t->zZ u->Top (t.set f u)
 | [],t,u,_,hu=>by grind[T.set,Top.of_clean]
 |i::f,t,u,ht,hu=>by
  cases t with
  |sl k xs=>
   refine Top.of_clean _ (kF (i::f) _ u (by simpa only[Top,zZ,xF]using ht) hu)
  |ptr t=>exact Top.of_clean _ (kF (i::f) _ u (by simpa only[Top,zZ,xF]using ht) hu)
  |agg xs=>
   simp only[T.set];split
   ·rename_i x hx
    simp only[Top]at ht ⊢
    exact tops_set xs i _ ht (zEq f x u (tops_get xs ht i x hx) hu)
   ·exact ht
  |tup xs=>
   simp only[T.set];split
   ·rename_i x hx
    simp only[Top]at ht ⊢
    exact tops_set xs i _ ht (zEq f x u (tops_get xs ht i x hx) hu)
   ·exact ht
  |_=>grind[T.set]
where
 tops_set:(xs:List T)-> ∀(i:Nat)(y:T),vV xs->Top y->vV (xs.set i y)
  | [],_,_,_,_=>by simp[vV]
  |x::xs,0,y,h,hy=>by simp only[L7,vV]at h ⊢;grind
  |x::xs,i+1,y,h,hy=>by simp only[L8,vV]at h ⊢;exact⟨h.1,tops_set xs i y h.2 hy⟩
 tops_get:(xs:List T)->vV xs-> ∀(i:Nat)(x:T),xs[i]? =Wu x->Top x
  | [],_,_,_,h=>by simp at h
  |y::ys,hk,i,x,h=>by
   simp only[vV]at hk;cases i with
   |zero=>grind
   |succ i=>exact tops_get ys hk.2 i x (by grind)
def Gh.tr(G:Gh)(d:Nat)(g:List Nat)(r:Nat)(p:List Nat):Gh where
 hd s z:=if s=d/\g<:+z then G.hd r (z.take (z.length-g.length)++p)else G.hd s z
 ad s z:=if s=d/\g<:+z/\z≠g then G.ad r (z.take (z.length-g.length)++p)else G.ad s z
 lb b o:=match G.lb b o with
  |some (fl,s,z)=>if s=r/\p<:+z/\(fl=Ww\/z≠p)then Wu (fl,d,z.take (z.length-p.length)++g)else Wu (fl,s,z)
  |none=>Wv
 ow b:=match G.ow b with
  |some (s,z)=>if s=r/\p<:+z then Wu (d,z.take (z.length-p.length)++g)else Wu (s,z)
  |none=>Wv
theorem zGb{t:T}(h:t.single=Ww):t.size=1:=by cases t<;>simp[T.single]at h<;>simp[T.size]
theorem zDK{w:World}(gc:Rep Γ E G tmps w)(d:Nat)(g:List Nat)(r:Nat)(p:List Nat)(td tr u v0:T)(hd:E d=Wu td)(hg:td.get g.reverse=Wu v0)(dh:v0.single=Ww)(gW:G.hd d g=G.hd r p)(hr:E r=Wu tr)
  (hp:tr.get p.reverse=Wu u)(hu:u.single=Ww)(ez:zZ u)(ee:d≠r)(bZ:td.okB [(d,g.length+1),(r,p.length+1)]=Ww)(my:tr.okB [(d,g.length+1),(r,p.length+1)]=Ww)(ct:wB td=Ww)(eE:wB tr=Ww):
  Rep Γ (E.app [(d,Wu (td.set g.reverse u)),(r,Wu (if p=[]then .same d g else tr.set p.reverse .any))] [(d,g.length+1),(r,p.length+1)]) (G.tr d g r p) tmps w/\ ∀s z,¬(s=d/\g<:+z/\z≠g)->(G.tr d g r p).hd s z=G.hd s z:=by
 obtain⟨d1,d2,d3⟩:=gc.ent d td hd;obtain⟨r1,r2,r3⟩:=gc.ent r tr hr;have hm:=gc.mem;have ay:=(zA3 p.reverse tr u [] r2 hp).1;simp only[rp,K6,Jh]at ay;have gG:Blk w w:=fun b cs e' h=>⟨cs,h,rfl⟩
 generalize gr:G.tr d g r p=G'
 have ghd:∀z,G'.hd d (z++g)=G.hd r (z++p):=fun z=>by rw[<-gr];simp[Gh.tr]
 have ghd0:∀s z,¬(s=d/\g<:+z/\z≠g)->G'.hd s z=G.hd s z:=by
  intro s z h;rw[<-gr];simp only[Gh.tr]
  by_cases h2:s=d/\g<:+z
  ·have h3:z=g:=by
    rcases Decidable.em (z=g)with e|e
    ·exact e
    ·exact absurd ⟨h2.1,h2.2,e⟩ h
   subst h3;rw[if_pos h2,h2.1];simpa using gW.symm
  ·rw[if_neg h2]
 have gad0:∀s z,¬(s=d/\g<:+z/\z≠g)->G'.ad s z=G.ad s z:=fun s z h=>by rw[<-gr];simp only[Gh.tr];rw[if_neg h]
 have gad:∀z,z≠[]->G'.ad d (z++g)=G.ad r (z++p):=fun z h=>by rw[<-gr];simp only[Gh.tr];rw[if_pos (by simpa using h)];simp
 have glb0:∀b o fl s z,G.lb b o=Wu (fl,s,z)-> ¬(s=r/\p<:+z/\(fl=Ww\/z≠p))->G'.lb b o=Wu (fl,s,z):=fun b o fl s z h1 h2=>by rw[<-gr];simp only[Gh.tr,h1];rw[if_neg h2]
 have glb:∀b o fl z,G.lb b o=Wu (fl,r,z++p)->(fl=Ww\/z≠[])->G'.lb b o=Wu (fl,d,z++g):=fun b o fl z h1 h2=>by rw[<-gr];simp only[Gh.tr,h1];rw[if_pos (by simpa using h2)];simp
 have gow0:∀b s z,G.ow b=Wu (s,z)-> ¬(s=r/\p<:+z)->G'.ow b=Wu (s,z):=fun b s z h1 h2=>by rw[<-gr];simp only[Gh.tr,h1];rw[if_neg h2]
 have gow:∀b z,G.ow b=Wu (r,z++p)->G'.ow b=Wu (d,z++g):=fun b z h1=>by rw[<-gr];simp only[Gh.tr,h1];rw[if_pos (by simp)];simp
 have gH:∀s z,Off [(d,g.length+1),(r,p.length+1)] s z-> ¬(s=d/\g<:+z/\z≠g):=by
  rintro s z h ⟨rfl,⟨y,rfl⟩,h3⟩
  have:=h (g.length+1) (by simp);have:y=[]:=Jj (by simp at this;omega);exact h3 (by simp[this])
 have gA:sE [(d,g.length+1),(r,p.length+1)] G w G' w:=by
  refine⟨fun s z h=>ghd0 s z (gH s z h),fun s z h=>gad0 s z (gH s z h),fun b o fl s z _ h1 h2=>⟨glb0 b o fl s z h1 ?_,rfl⟩,fun b s z h1 h2=>gow0 b s z h1 ?_,gG,by intros;assumption⟩
  ·rintro⟨rfl,_⟩;exact h2 (p.length+1) (by simp)
  ·rintro⟨rfl,_⟩;exact h2 (p.length+1) (by simp)
 have gy:Mem Γ G' w:=by
  refine⟨fun s z=>?_,fun b o l hl=>?_,fun b l hl=>?_,hm.st,hm.fr,hm.sz,hm.bk⟩
  ·rw[<-gr]
   simp only[Gh.tr];split
   ·exact hm.one _ _
   ·exact hm.one _ _
  ·have:∃l',G.lb b o=Wu l':=by
    rw[<-gr]at hl;simp only[Gh.tr]at hl;split at hl
    ·exact⟨_,by assumption⟩
    ·cases hl
   obtain⟨l',tg⟩:=this;exact hm.lb b o l' tg
  ·have:∃l',G.ow b=Wu l':=by
    rw[<-gr]at hl;simp only[Gh.tr]at hl;split at hl
    ·exact⟨_,by assumption⟩
    ·cases hl
   obtain⟨l',tg⟩:=this;exact hm.ow b l' tg
 have cU:∀q:List Nat,rp q.reverse []=q:=fun q=>by simp[rp]
 have hud:R Γ.St G' w d u g:=by
  refine kL (G:=G) (w:=w) (s:=r) (p:=p) ⟨⟨ghd,gad,fun b o f z hz _ hl=>⟨glb b o f z hl (.inr hz),rfl⟩,fun b z _ hl=>gow b z hl,gG,by intros;assumption⟩,fun b o _ hl=>⟨by simpa using glb b o Ww [] (by simpa using hl) (.inl rfl),rfl⟩,fun b hl=>by simpa using gow b [] (by simpa using hl)⟩ u
   (xF.mono (fun _ _=>False.elim) u ez) ay
 have di:Upd G w G' w d g:=⟨fun z h=>ghd0 d z (fun h2=>h h2.2.1),fun z h=>gad0 d z (fun h2=>h h2.2.1),fun b o f z h1 _=>⟨glb0 b o f d z h1 (fun h2=>ee h2.1),rfl⟩,fun b z h1 _=>gow0 b d z h1 (fun h2=>ee h2.1),gG,by intros;assumption⟩;have dV:∀b o,Loc G w d v0 g b o->Loc G' w d u g b o:=by intro b o h1;obtain⟨h2,h3,h4⟩:=vC dh h1;have h5:G'.ad d g=⟨b,o,Wv⟩/\G'.lb b o=Wu (Wx,d,g)/\yQ w b o=Wu (G'.hd d g):=⟨(gad0 d g (fun h=>h.2.2 rfl)).trans h2,glb0 b o Wx d g h3 (fun h=>ee h.1),by rw[h4,ghd0 d g (fun h=>h.2.2 rfl)]⟩;cases u<;>simp[T.single]at hu<;>simpa only[Loc]using h5
 have uy:R Γ.St G' w d (td.set g.reverse u) []:=
  zFX g.reverse td u v0 [] (by rw[cU];exact di) d2 hg (by rw[zGb dh,zGb hu]) (gA.keepR (zAr td d3 bZ)) (by rw[cU];exact dV) (by rw[cU];exact hud)
 have hVd:mkV G' d (td.set g.reverse u) []=mkV G d td []:=
  zKc g.reverse td u v0 [] hg dh hu (fun z hz=>ghd0 d z (fun h2=>h2.2.2 (by rw[cU]at hz;exact hz h2.2.1))) ct
 have hRr:p≠[]->R Γ.St G' w r (tr.set p.reverse .any) []:=by intro aA;refine zFX p.reverse tr .any u [] (by rw[cU];exact⟨fun z _=>ghd0 r z (fun h2=>ee h2.1.symm),fun z _=>gad0 r z (fun h2=>ee h2.1.symm),fun b o f z h1 h=>⟨glb0 b o f r z h1 (fun h2=>h h2.2.1),rfl⟩,fun b z h1 h=>gow0 b r z h1 (fun h2=>h h2.2),gG,by intros;assumption⟩) r2 hp (by cases u<;>simp[T.single]at hu<;>simp[T.size]) (gA.keepR (zAr tr r3 my)) ?_ (by simp only[R]);rw[cU];intro b o h1;obtain⟨h2,h3,h4⟩:=vC hu h1;simp only[Loc];exact⟨(gad0 r p (fun h=>ee h.1.symm)).trans h2,glb0 b o Wx r p h3 (by simp),by rw[h4,ghd0 r p (fun h=>ee h.1.symm)]⟩
 have hVr:p≠[]->mkV G' r (tr.set p.reverse .any) []=mkV G r tr []:=fun _=>
  zKc p.reverse tr .any u [] hp hu rfl (fun z _=>ghd0 r z (fun h2=>ee h2.1.symm)) eE
 refine⟨wV gc rfl gA gy ?_ ?_,ghd0⟩
 ·intro s hs
  simp only[Wr.find]at hs;split at hs
  ·cases hs
  ·rename_i h1
   split at hs
   ·cases hs
   ·rename_i h2
    refine⟨fun n hn=>?_,rfl⟩;simp only[Je,Jak.injEq,Gm,or_false]at hn;rcases hn with⟨e,_⟩|⟨e,_⟩
    ·exact h1 e.symm
    ·exact h2 e.symm
 ·intro s t hs
  simp only[Wr.find]at hs;split at hs
  ·rename_i he
   subst he;simp at hs;subst hs;exact⟨by rw[d1,hVd],uy,zEq _ _ _ d3 ez⟩
  ·split at hs
   ·rename_i he
    subst he;simp at hs
    by_cases aA:p=[]
    ·rw[if_pos aA]at hs
     subst hs;subst aA;simp[T.get]at hp;subst hp;refine⟨?_,?_,by simp[Top]⟩
     ·rw[r1,xH hu,xH rfl,ghd0 r [] (fun h=>ee h.1.symm)]
     ·simp only[R]
      rw[ghd0 r [] (fun h=>ee h.1.symm)];have:=ghd [];simpa using this.symm
    ·rw[if_neg aA]at hs
     subst hs;exact⟨by rw[r1,hVr aA],hRr aA,zEq _ _ _ r3 (by simp[zZ,xF])⟩
   ·cases hs
theorem zNv{w:World}(h:Sim Γ E a w)(d:Nat)(g:List Nat)(r:Nat)(p:List Nat)(td tr u:T)(hd:E d=Wu td)(hg:td.get g.reverse=Wu (.same r p))(hr:E r=Wu tr)
  (hp:tr.get p.reverse=Wu u)(hu:u.single=Ww)(ez:zZ u)(ee:d≠r)(bZ:td.okB [(d,g.length+1),(r,p.length+1)]=Ww)(my:tr.okB [(d,g.length+1),(r,p.length+1)]=Ww)(ct:wB td=Ww)(eE:wB tr=Ww):
  Sim Γ (E.app [(d,Wu (td.set g.reverse u)),(r,Wu (if p=[]then .same d g else tr.set p.reverse .any))] [(d,g.length+1),(r,p.length+1)]) a w:=by
 obtain⟨gN,G,gc⟩:=h;have gW:=(zA3 g.reverse td _ [] (gc.ent d td hd).2.1 hg).1;simp only[rp,K6,Jh,R]at gW;exact⟨gN,_,(zDK gc d g r p td tr u _ hd hg rfl gW hr hp hu ez ee bZ my ct eE).1⟩
theorem zDL{St:Stb}{G:Gh}{w:World}{s:Nat}{k:Nat}:(xs:List T)-> ∀(p:List Nat)(j b o:Nat),(∀i x,xs[i]? =Wu x->Loc G w s x ((j+i)::p) b (o+i*k)/\x.size=k/\R St G w s x ((j+i)::p))->RL St G w s xs p j b o k
 | [],_,_,_,_,_=>by simp only[RL]
 |x::xs,p,j,b,o,h=>by
  obtain⟨h1,h2,h3⟩:=h 0 x (by simp);simp only[RL];refine⟨⟨by simpa using h1,h2⟩,by simpa using h3,zDL xs p (j+1) b (o+k) (fun i y hy=>?_)⟩;have:=h (i+1) y (by simpa using hy)
  rwa [show j+(i+1)=j+1+i from by omega,show o+(i+1)*k=o+k+i*k from by rw[Lo];omega]at this
theorem zA7{St:Stb}{G:Gh}{w:World}{s:Nat}{k:Nat}:(xs:List T)-> ∀(p:List Nat)(j b o:Nat),RL St G w s xs p j b o k->vK G w s xs p j b o
 | [],_,_,_,_,_=>by simp only[vK]
 |x::xs,p,j,b,o,h=>by simp only[RL]at h;simp only[vK];exact⟨h.1.1,zA7 xs p (j+1) b (o+x.size) (by rw[h.1.2];exact h.2.2)⟩
theorem zBz{St:Stb}{G:Gh}{w:World}{s:Nat}{k:Nat}:(xs:List T)-> ∀(p:List Nat)(j b o:Nat),RL St G w s xs p j b o k->RF St G w s xs p j/\ ∀x∈xs,x.size=k
 | [],_,_,_,_,_=>by simp[RF]
 |x::xs,p,j,b,o,h=>by simp only[RL]at h;obtain⟨h1,h2⟩:=zBz xs p (j+1) b (o+k) h.2.2;exact⟨by simp only[RF];exact⟨h.2.1,h1⟩,fun y hy=>by rcases Je.1 hy with rfl|hy;exact h.1.2;exact h2 y hy⟩
section
variable {G:Gh}{w:World}{G':Gh}{w':World}{s s':Nat}
mutual
theorem zEr:(t:T)-> ∀(p p':List Nat)(b o:Nat),(∀z,G'.hd s' (z++p')=G.hd s (z++p))->(∀z,G'.ad s' (z++p')=G.ad s (z++p))->
  (∀b o z,G.lb b o=Wu (Wx,s,z++p)->G'.lb b o=Wu (Wx,s',z++p')/\yQ w' b o=yQ w b o)->Loc G w s t p b o->Loc G' w' s' t p' b o
 |.agg xs,p,p',b,o,hh,ha,hl,h=>by
  simp only[Loc]at h ⊢
  exact⟨by have:=ha [];simp at this;rw[this];exact h.1,zIV xs p p' 0 b o hh ha hl h.2⟩
 |.any,p,p',b,o,hh,ha,hl,h|.lit _,p,p',b,o,hh,ha,hl,h|.ro _,p,p',b,o,hh,ha,hl,h|.same _ _,p,p',b,o,hh,ha,hl,h|.addr _ _,p,p',b,o,hh,ha,hl,h|.sub _ _ _ _ _,p,p',b,o,hh,ha,hl,h|.sl _ _,p,p',b,o,hh,ha,hl,h|.ptr _,p,p',b,o,hh,ha,hl,h|.mp _ _,p,p',b,o,hh,ha,hl,h=>by
  simp only[Loc]at h ⊢
  have h1:=hl b o [] (by simpa using h.2.1);have h2:=ha [];have h3:=hh [];simp only[Js]at h1 h2 h3;exact⟨h2.trans h.1,h1.1,by rw[h1.2,h.2.2,h3]⟩
 |.tup _,_,_,_,_,_,_,_,h=>by simp only[Loc]at h
theorem zIV:(xs:List T)-> ∀(p p':List Nat)(j b o:Nat),(∀z,G'.hd s' (z++p')=G.hd s (z++p))->(∀z,G'.ad s' (z++p')=G.ad s (z++p))->
  (∀b o z,G.lb b o=Wu (Wx,s,z++p)->G'.lb b o=Wu (Wx,s',z++p')/\yQ w' b o=yQ w b o)->vK G w s xs p j b o->vK G' w' s' xs p' j b o
 | [],_,_,_,_,_,_,_,_,_=>by simp only[vK]
 |x::xs,p,p',j,b,o,hh,ha,hl,h=>by
  simp only[vK]at h ⊢
  exact⟨zEr x (j::p) (j::p') b o (fun z=>by have:=hh (z++[j]);simpa using this) (fun z=>by have:=ha (z++[j]);simpa using this) (fun b o z hz=>by have:=hl b o (z++[j]) (by simpa using hz);simpa using this) h.1,
   zIV xs p p' (j+1) b _ hh ha hl h.2⟩
end
end
theorem zEs(G:Gh)(s:Nat):∀(xs us:List T)(p:List Nat)(j:Nat),yJ G s (xs++us) p j=yJ G s xs p j++yJ G s us p (j+xs.length)
 | [],us,p,j=>by simp[yJ]
 |x::xs,us,p,j=>by simp[yJ,zEs G s xs us p (j+1),H4,Nat.add_comm 1]
theorem zEt:∀(xs us:List T),T.sizes (xs++us)=T.sizes xs+T.sizes us
 | [],us=>by simp[T.sizes]
 |x::xs,us=>by simp[T.sizes,zEt xs us,H4]
theorem zD5:∀(xs us:List T),yU xs=Ww->yU us=Ww->yU (xs++us)=Ww
 | [],us,_,h=>h
 |x::xs,us,h,h'=>by
  simp only[yU,J4,K0]at h ⊢
  exact⟨h.1,zD5 xs us h.2 h'⟩
theorem zD6:∀(xs us:List T),xG xs->xG us->xG (xs++us)
 | [],us,_,h=>h
 |x::xs,us,h,h'=>by
  simp only[xG,xW,K0]at h ⊢
  exact⟨h.1,zD6 xs us h.2 h'⟩
theorem kO{St:Stb}{G:Gh}{w:World}{s:Nat}{k:Nat}:(xs:List T)-> ∀(p:List Nat)(j b o:Nat),vK G w s xs p j b o->yU xs=Ww
 | [],_,_,_,_,_=>rfl
 |x::xs,p,j,b,o,h=>by simp only[vK]at h;simp only[yU,J4];exact⟨one x (j::p) b o h.1,kO (St:=St) (k:=k) xs p (j+1) b _ h.2⟩
where
 one:(t:T)-> ∀(p:List Nat)(b o:Nat),Loc G w s t p b o->t.okTup=Ww
  |.agg xs,p,b,o,h=>by simp only[Loc]at h;simp only[T.okTup];exact kO (St:=St) (k:=k) xs p 0 b o h.2
  |.tup _,_,_,_,h=>by simp only[Loc]at h
  |.any,_,_,_,_|.lit _,_,_,_,_|.ro _,_,_,_,_|.same _ _,_,_,_,_|.addr _ _,_,_,_,_|.sub _ _ _ _ _,_,_,_,_|.sl _ _,_,_,_,_|.ptr _,_,_,_,_|.mp _ _,_,_,_,_=>rfl
section
variable {P:Program}
structure zHe (P:Program) (t2:TypeId) (e:TypeId) (ti:TypeInfo) (xv:Value) (m:Nat) (nv:List Value) (w:World):Prop where
 arg:(∃e2 xa c,P.underlying t2=Wu (.slice e2)/\xv=.slice xa m c/\ ∀w2:World,w2.heap=w.heap->(Builtin.firstCells ti.size m (.slice xa m c)).run P w2=.ok nv.toArray w2)\/
  ∃k2 k3 z,P.underlying t2=Wu (.int k2)/\xv=.int k3 (m:Int)/\ti.zero=Wu z/\nv.toArray=Builtin.zeroCells z.cells m/\m*ti.bytes<=2 ^ 47/\z.cells.size=ti.size
theorem zEu{t:TypeId}{m:Nat}{nv:List Value}{w:World}(ht:P.underlying t=Wu (.slice e))(hi:P.info? e=Wu ti)
  (hx:zHe P t2 e ti xv m nv w)(hm:m<=68719476736){base:Option Addr}{cap:Nat}(gY:n+m<=cap)
  (gE:(if let Wu a:=base then storeCells (a.add (n*ti.size)) nv else pure ():Sem Unit).run P w=.ok () w'):
  (Builtin.append_ #[t,t2] ty #[.slice base n cap,xv]).run P w=.ok (.slice base (n+m) cap) w':=by
 rcases hx.arg with⟨e2,xa,c,h1,rfl,h2⟩|⟨k2,k3,z,h1,rfl,h2,h3,h4,h5⟩
 ·have h2:=h2 w rfl
  cases base with
  |none=>
   simp at gE;subst gE;simp[Builtin.append_,run_underlying ht,run_underlying h1,sizeOf,typeInfo,hi,Builtin.lenOf,gY,h2]
  |some a=>
   simp only at gE;simp[Builtin.append_,run_underlying ht,run_underlying h1,sizeOf,typeInfo,hi,Builtin.lenOf,gY,h2,gE]
 ·have bx:IntKind.i64.wrap (m:Int)=m:=by rw[IntKind.wrap_i64];omega
  have ao:¬(281474976710656<(m:Int)*(ti.bytes:Int)):=by
   have:((m*ti.bytes:Nat):Int)<=2 ^ 47:=by exact_mod_cast h4
   rw[Int.natCast_mul]at this;omega
  have ch:¬((m:Int)<0):=by omega
  have aB:nv=(Builtin.zeroCells z.cells m).toList:=by rw[<-h3]
  by_cases hz:m*ti.size=0
  ·have ta:nv=[]:=by
    apply Jj;rw[aB];simp[Builtin.zeroCells,h5,hz]
   subst ta;cases base with
   |none=>
    simp at gE;subst gE;simp[Builtin.append_,run_underlying ht,run_underlying h1,sizeOf,typeInfo,hi,asInt,asIntOf,bx,ao,ch,gY,hz]
   |some a=>
    simp only[storeCells,Sem.run_pure]at gE;cases gE;simp[Builtin.append_,run_underlying ht,run_underlying h1,sizeOf,typeInfo,hi,asInt,asIntOf,bx,ao,ch,gY,hz,storeCells]
  ·cases base with
   |none=>
    simp at gE;subst gE;simp[Builtin.append_,run_underlying ht,run_underlying h1,sizeOf,typeInfo,zeroValue,hi,h2,asInt,asIntOf,bx,ao,ch,gY]
   |some a=>
    simp only[aB]at gE;simp[Builtin.append_,run_underlying ht,run_underlying h1,sizeOf,typeInfo,zeroValue,hi,h2,asInt,asIntOf,bx,ao,ch,gY,hz,gE]
theorem zKd{t:TypeId}{m:Nat}{nv olds:List Value}{w:World}(ht:P.underlying t=Wu (.slice e))(hi:P.info? e=Wu ti)(hz:ti.zero=Wu z)
  (hx:zHe P t2 e ti xv m nv w){base:Option Addr}{cap:Nat}(eh:cap<n+m)(pg:n+m<=68719476736)(hb:ti.bytes<=2048)
  (gx:∀w2:World,w2.heap=w.heap->(Builtin.firstCells ti.size n (.slice base n cap)).run P w2=.ok olds.toArray w2):
  (Builtin.append_ #[t,t2] ty #[.slice base n cap,xv]).run P w=.ok (.slice (Wu ⟨w.heap.size,0,Wv⟩) (n+m) (grownCap w (n+m) cap e))
    (w.drew.alloc (.cells ((olds++nv).toArray++Builtin.zeroCells z.cells (grownCap w (n+m) cap e-(n+m))) e)):=by
 have hn:¬(n+m<=cap):=by omega
 have al:¬(9223372036854775807<((n:Int)+(m:Int))):=by omega
 have VS:=growslice_fits (need:=n+m) (old:=cap) (bytes:=ti.bytes) eh (U1 (Gt pg hb) (by decide));have am:¬(281474976710656<Builtin.nextslicecap (n+m) cap*ti.bytes):=by omega
 have ho:=gx w.drew rfl;rcases hx.arg with⟨e2,xa,c,h1,rfl,h2⟩|⟨k2,k3,z',h1,rfl,h2,h3,h4,h5⟩
 ·have h2:=h2 w.drew rfl
  simp[Builtin.append_,run_underlying ht,run_underlying h1,sizeOf,typeInfo,zeroValue,hi,hz,Builtin.lenOf,hn,al,am,Question.forced,h2,ho,newRow,grownCap]
  congr 2
  apply Jbb;simp
 ·have bx:IntKind.i64.wrap (m:Int)=m:=by rw[IntKind.wrap_i64];omega
  have ao:¬(281474976710656<(m:Int)*(ti.bytes:Int)):=by
   have:((m*ti.bytes:Nat):Int)<=2 ^ 47:=by exact_mod_cast h4
   rw[Int.natCast_mul]at this;omega
  have ch:¬((m:Int)<0):=by omega
  have aB:nv=(Builtin.zeroCells z'.cells m).toList:=by rw[<-h3]
  rw[hz]at h2;simp at h2;subst h2
  by_cases aO:m*ti.size=0
  ·have ta:nv=[]:=by
    apply Jj;rw[aB];simp[Builtin.zeroCells,h5,aO]
   subst ta;simp[Builtin.append_,run_underlying ht,run_underlying h1,sizeOf,typeInfo,zeroValue,hi,hz,asInt,asIntOf,bx,ao,ch,hn,al,am,Question.forced,aO,ho,newRow,grownCap]
  ·simp[Builtin.append_,run_underlying ht,run_underlying h1,sizeOf,typeInfo,zeroValue,hi,hz,asInt,asIntOf,bx,ao,ch,hn,al,am,Question.forced,aO,ho,newRow,grownCap,<-h3]
   congr 2
   apply Jbb;simp
end
def zDM(s0:Nat)(y:Option Nat)(n:Nat)(s:Nat)(z:List Nat):Option (List Nat):=
 if s=s0 then Wu z else if y=Wu s then(match z.getLast? with
  |some j=>Wu (z.dropLast++[n+j])
  |none=>Wv)else Wv
def Gh.ip(G:Gh)(d s0:Nat)(y:Option Nat)(b n k oa:Nat)(us:List T)(f2:Nat->List Nat->Value)(ee:Value):Gh where
 hd s z:=if s=d then(match z.getLast? with
  |some i=>if i<n then G.hd s0 z else f2 (i-n) z.dropLast
  |none=>ee)else G.hd s z
 ad s z:=if s=d then(match z.getLast? with
  |some i=>if i<n then G.ad s0 z else if(T.agg us).inT ((i-n)::z.dropLast.reverse)then⟨b,oa+(T.agg us).offT ((i-n)::z.dropLast.reverse),Wv⟩else(match y with
   |some y=>G.ad y (z.dropLast++[i-n])
   |none=>default)
  |none=>default)else G.ad s z
 lb b' o:=if b'=b/\oa<=o/\o<oa+us.length*k then(match zCu us [] n (o-oa)with
  |some p=>Wu (Wx,d,p)
  |none=>Wv)else match G.lb b' o with
  |some (fl,s,z)=>(match zDM s0 y n s z with
   |some z'=>Wu (fl,d,z')
   |none=>Wu (fl,s,z))
  |none=>Wv
 ow b':=match G.ow b' with
  |some (s,z)=>(match zDM s0 y n s z with
   |some z'=>Wu (d,z')
   |none=>Wu (s,z))
  |none=>Wv
def aWr(d s0:Nat)(y:Option Nat)(k:Nat)(ts:List T):Wr:=(d,Wu (.sl k ts))::(s0,Wu .any)::(match y with
 |some y=>[(y,Wu .any)]
 |none=>[])
def zAP(d s0:Nat)(y:Option Nat):Chg:=(d,0)::(s0,1)::(match y with
 |some y=>[(y,1)]
 |none=>[])
structure zHf (Γ:Ctx) (E:Env) (G:Gh) (d s0:Nat) (y:Option Nat) (k n:Nat) (us:List T) (f2:Nat->List Nat->Value) (nv:List Value):Prop where
 size:∀u∈us,u.size=k
 tup:yU us=Ww
 clean:xG us
 one:∀j z,(f2 j z).oneCell'=Ww
 len:nv.length=us.length*k
 slot:∀y',y=Wu y'->y'≠d/\y'≠s0/\E y'=Wu (.sl k us)/\ ∀j z,f2 j z=G.hd y' (z++[j])
 none:y=Wv-> ∀(j:Nat) u,us[j]? =Wu u-> ∀(G2:Gh)(w2:World),(∀z,G2.hd d (z++[n+j])=f2 j z)->R Γ.St G2 w2 d u [n+j]
 vals:∀(G2:Gh),(∀j z,G2.hd d (z++[n+j])=f2 j z)-> ∀(o:Nat)(v:Value),(yJ G2 d us [] n)[o]? =Wu v->nv[o]? =Wu v
theorem zLz{G G2:Gh}{s d:Nat}:(xs:List T)-> ∀(p:List Nat)(j:Nat),(∀i,i<xs.length-> ∀z,G2.hd d (z++((j+i)::p))=G.hd s (z++((j+i)::p)))->yJ G2 d xs p j=yJ G s xs p j
 | [],_,_,_=>by simp only[yJ]
 |x::xs,p,j,h=>by
  simp only[yJ];have ih:yJ G2 d xs p (j+1)=yJ G s xs p (j+1):=zLz xs p (j+1) (fun i hi z=>by rw[show j+1+i=j+(i+1)from by omega];exact h (i+1) (by simpa using hi) z)
  rw[zAV x (j::p) (j::p) (by simpa using h 0 (by simp)),ih]
theorem zD7(z:List Nat):z=[]\/ ∃y i,z=y++[i]:=by
 rcases List.eq_nil_or_concat z with h|⟨y,i,h⟩
 ·exact .inl h
 ·exact .inr ⟨y,i,by simpa using h⟩
section
variable {P:Program}{Γ:Ctx}{E:Env}{d:Nat}
theorem zBM{w:World}(gc:Rep Γ E G a.tmps w)(hd:d<Γ.N){t:TypeId}(ht:P.underlying t=Wu (.slice e))(hi:P.info? e=Wu ti)(hz:ti.zero=Wu z)
  (hk:ti.size=k)(_hk0:0<k)(fT:z.cells.size=k)(hb:ti.bytes<=2048){s0:Nat}{y:Option Nat}{us:List T}{f2:Nat->List Nat->Value}{nv:List Value}(er:E s0=Wu (.sl k xs))(ft:s0≠d)
  (hn:zHf Γ E G d s0 y k xs.length us f2 nv)(hx:zHe P t2 e ti xv us.length nv w)(gw:∀v∈nv,v.oneCell'=Ww)(pg:xs.length+us.length<=68719476736):
  ∃v w',(Builtin.append_ #[t,t2] ty #[G.hd s0 [],xv]).run P w=.ok v w'/\ ∃G',Rep Γ (E.app (aWr d s0 y k (xs++us)) (zAP d s0 y)) G' (a.tmps.setIfInBounds d v) w':=by
 have hm:=gc.mem;obtain⟨e1,e2,e3⟩:=gc.ent s0 _ er;simp only[Top]at e3;simp only[R]at e2;have bH:T.sizes us=us.length*k:=wW us hn.size;have fin:∀(G':Gh)(w':World)(v:Value),sE (zAP d s0 y) G w G' w'->Mem Γ G' w'->G'.hd d []=v->R Γ.St G' w' d (.sl k (xs++us)) []->(∀s p,s≠d->G'.hd s p=G.hd s p)->
   Rep Γ (E.app (aWr d s0 y k (xs++us)) (zAP d s0 y)) G' (a.tmps.setIfInBounds d v) w':=by
  intro G' w' v gA gy VU uy hother;refine wV gc (by simp) gA gy ?_ ?_
  ·intro s hs
   have gf:s≠d:=by rintro rfl;simp[aWr,Wr.find]at hs
   have fK:s≠s0:=by rintro rfl;simp[aWr,Wr.find,gf.symm]at hs
   have Vv:∀y',y=Wu y'->s≠y':=by
    rintro y' rfl rfl
    simp[aWr,Wr.find,gf.symm,fK.symm]at hs
   refine⟨fun n' hn'=>?_,by rw[Jb];simp[gf.symm]⟩;simp only[zAP,Je,Jak.injEq]at hn';rcases hn' with⟨h1,_⟩|⟨h1,_⟩|hn'
   ·exact gf h1
   ·exact fK h1
   ·cases y with
    |none=>simp at hn'
    |some y'=>simp at hn';exact Vv y' rfl hn'.1
  ·intro s t' hs
   by_cases h1:s=d
   ·subst h1
    simp[aWr,Wr.find]at hs;subst hs;refine⟨?_,uy,by simp only[Top];exact zD6 xs us e3 hn.clean⟩;rw[Jb];simp[gc.size,hd,mkV,VU]
   ·have h3:t'=.any/\(s=s0\/y=Wu s):=by
     simp only[aWr,Wr.find]at hs;rw[if_neg (fun h=>h1 h.symm)]at hs;split at hs
     ·rename_i h2;simp at hs;exact⟨hs.symm,.inl h2.symm⟩
     ·cases y with
      |none=>simp[Wr.find]at hs
      |some y'=>
       simp only[Wr.find]at hs;split at hs
       ·rename_i h2;simp at hs;exact⟨hs.symm,.inr (by rw[h2])⟩
       ·cases hs
    obtain⟨rfl,h3⟩:=h3;refine⟨?_,by simp only[R],by simp[Top]⟩;rw[Jb];simp only[Ne.symm h1,if_false,mkV];rw[hother s [] h1];rcases h3 with rfl|h3
    ·exact e1
    ·obtain⟨_,_,h4,_⟩:=hn.slot s h3
     exact(gc.ent s _ h4).1
 have pN:∀s p,(∀n',(s,n')∉zAP d s0 y)->zDM s0 y xs.length s p=Wv:=by
  intro s p h;have h1:s≠s0:=fun e=>h 1 (by simp[zAP,e])
  have h2:y≠Wu s:=fun e=>h 1 (by simp[zAP,e])
  simp[zDM,h1,h2]
 by_cases gY:∃a' c,G.hd s0 []=.slice a' xs.length c/\xs.length+us.length<=c
 ·
  obtain⟨a',c,hh,gY⟩:=gY;rcases e2 with⟨rfl,a1,h1⟩|⟨b,o0,cap,cs,et,h1,h2,h3,h4,h5,h6,h7,h8⟩
  ·rw[h1]at hh
   simp at hh;obtain⟨rfl,rfl⟩:=hh;have fQ:us=[]:=Jj (by simp only[Kh]at gY;omega);subst fQ;have aB:nv=[]:=Jj (by have:=hn.len;simp at this;simp[this]);subst aB;have gB:=zEu (P:=P) (t:=t) (ty:=ty) (w':=w) ht hi hx (by simp) (base:=a1) (n:=0) (cap:=0) (by simp) (by cases a1<;>rfl);refine⟨.slice a1 0 0,w,by rw[h1];exact gB,G.put d (fun _=>.slice a1 0 0),fin _ w _ ?_ (hm.put rfl d _ (fun _=>rfl)) (by rw[Gh.put_self]) (by simp[R,Gh.put]) (fun s p h=>G.put_other _ p h)⟩;have:=G.put_keep (w:=w) (w':=w) rfl d (fun _=>.slice a1 0 0);exact⟨fun s p h=>this.hd s p (fun n hn=>h n (by simp at hn;simp[zAP,hn])),fun s p h=>this.ad s p (fun n hn=>h n (by simp at hn;simp[zAP,hn])),fun b o f s p h0 h1 h2=>this.lb b o f s p h0 h1 (fun n hn=>h2 n (by simp at hn;simp[zAP,hn])),fun b s p h1 h2=>this.ow b s p h1 (fun n hn=>h2 n (by simp at hn;simp[zAP,hn])),this.blk,by intros;assumption⟩
  ·rw[h1]at hh
   simp at hh;obtain⟨rfl,rfl⟩:=hh;have hmk0:us.length*k+xs.length*k<=cap*k:=by rw[<-Hj];exact Lp _ (by omega)
   have Vr:∀o,o0+(xs.length*k+us.length*k)<=o->o0+xs.length*k<=o:=fun o h=>by omega
   generalize hoa:o0+xs.length*k=oa at h7 Vr
   have hmk':oa+us.length*k<=o0+cap*k:=by omega
   have hmk:us.length*k+oa<=cs.size:=by omega
   generalize gS:w.setRow b (cs.toList.take (oa)++nv++cs.toList.drop (oa+nv.length)).toArray=w'
   have eb:w'.heap[b]? =Wu (.cells (cs.toList.take (oa)++nv++cs.toList.drop (oa+nv.length)).toArray et (0,0)):=by rw[<-gS];exact setRow_heap w b cs _ et _ h2
   have gx:∀b',b'≠b->w'.heap[b']? =w.heap[b']?:=fun b' h=>by rw[<-gS];exact setRow_other w b b' _ h
   have gU:w'.heap.size=w.heap.size:=by rw[<-gS];exact size_setRow w b _
   have hcsl:cs.toList.length=cs.size:=Ki ..;have mz:=hn.len;have eS:∀i,yQ w' b i=if oa<=i/\i<oa+us.length*k then nv[i-oa]? else yQ w b i:=by
    intro i;simp only[yQ,World.cell?,eb,h2,Ui,Hg,if_false];rw[<-Kc,<-Kc (xs:=cs)];simp only[]
    by_cases g1:i<oa
    ·rw[if_neg (by omega),Jg,K1 (by simp;omega),Ua g1]
    ·by_cases g2:i<oa+us.length*k
     ·rw[if_pos ⟨by omega,g2⟩,Jg,Ja (by simp;omega),K1 (by simp;omega)]
      congr 1;simp;omega
     ·rw[if_neg (by omega),Jg,Ja (by simp;omega),Ja (by simp;omega),Kw]
      congr 1;simp;omega
   have gK:∀b' o fl s p,G.lb b' o=Wu (fl,s,p)->(fl,s,p)≠(Ww,s0,[])-> ¬(b'=b/\oa<=o/\o<oa+us.length*k):=by
    rintro b' o fl s p g1 g2 ⟨rfl,g3,g4⟩
    rw[h7 o g3 (by omega)]at g1;simp at g1;exact g2 (by simp[<-g1.1,<-g1.2.1,<-g1.2.2])
   have eJ:∀b' o,¬(b'=b/\oa<=o/\o<oa+us.length*k)->yQ w' b' o=yQ w b' o:=by
    intro b' o g
    by_cases ev:b'=b
    ·subst ev
     rw[eS,if_neg (fun g2=>g ⟨rfl,g2⟩)]
    ·simp[yQ,World.cell?,gx b' ev]
   have pO:((cs.toList.take (oa)++nv++cs.toList.drop (oa+nv.length)).toArray).size=cs.size:=by simp;omega
   have bi:∀(b':Nat) ms c,w.heap[b']? =Wu (.map ms c)->w'.heap[b']? =Wu (.map ms c):=fun b' ms c g=>by
    by_cases e:b'=b
    ·subst e
     rw[h2]at g;cases g
    ·rw[gx b' e];exact g
   have eB:Blk w w':=by
    intro b' cs' e' g1
    by_cases ev:b'=b
    ·subst ev
     rw[h2]at g1;simp at g1;obtain⟨rfl,rfl⟩:=g1;exact⟨_,eb,pO⟩
    ·exact⟨cs',by rw[gx b' ev];exact g1,rfl⟩
   generalize gr:G.ip d s0 y b xs.length k oa us f2 (.slice (Wu ⟨b,o0,Wv⟩) (xs.length+us.length) cap)=G'
   have ghdr:G'.hd d []=.slice (Wu ⟨b,o0,Wv⟩) (xs.length+us.length) cap:=by rw[<-gr];simp[Gh.ip]
   have ghd1:∀i z,i<xs.length->G'.hd d (z++[i])=G.hd s0 (z++[i]):=fun i z g=>by rw[<-gr];simp[Gh.ip,g]
   have ghd2:∀j z,G'.hd d (z++[xs.length+j])=f2 j z:=fun j z=>by rw[<-gr];simp[Gh.ip,show¬xs.length+j<xs.length from by omega]
   have ghd0:∀s z,s≠d->G'.hd s z=G.hd s z:=fun s z g=>by rw[<-gr];simp[Gh.ip,g]
   have gad0:∀s z,s≠d->G'.ad s z=G.ad s z:=fun s z g=>by rw[<-gr];simp[Gh.ip,g]
   have gad1:∀i z,i<xs.length->G'.ad d (z++[i])=G.ad s0 (z++[i]):=fun i z g=>by rw[<-gr];simp[Gh.ip,g]
   have gad2:∀j f,(T.agg us).inT (j::f)=Ww->G'.ad d (f.reverse++[xs.length+j])=⟨b,oa+(T.agg us).offT (j::f),Wv⟩:=fun j f g=>by rw[<-gr];simp[Gh.ip,g,show¬xs.length+j<xs.length from by omega]
   have gad3:∀y' j z,y=Wu y'->(T.agg us).inT (j::z.reverse)=Wx->G'.ad d (z++[xs.length+j])=G.ad y' (z++[j]):=fun y' j z g1 g2=>by rw[<-gr];simp[Gh.ip,g1,g2,show¬xs.length+j<xs.length from by omega]
   have glb2:∀i p,i<us.length*k->zCu us [] xs.length i=Wu p->G'.lb b (oa+i)=Wu (Wx,d,p):=fun i p g1 g2=>by rw[<-gr];simp only[Gh.ip];rw[if_pos (by simp;omega),show oa+i-oa=i from by omega,g2]
   have glb0:∀b' o fl s p,G.lb b' o=Wu (fl,s,p)-> ¬(b'=b/\oa<=o/\o<oa+us.length*k)->zDM s0 y xs.length s p=Wv->G'.lb b' o=Wu (fl,s,p):=fun b' o fl s p g1 g2 g3=>by rw[<-gr];simp only[Gh.ip];rw[if_neg g2,g1];simp[g3]
   have glb1:∀b' o fl s p p',G.lb b' o=Wu (fl,s,p)-> ¬(b'=b/\oa<=o/\o<oa+us.length*k)->zDM s0 y xs.length s p=Wu p'->G'.lb b' o=Wu (fl,d,p'):=fun b' o fl s p p' g1 g2 g3=>by rw[<-gr];simp only[Gh.ip];rw[if_neg g2,g1];simp[g3]
   have gow0:∀b' s p,G.ow b'=Wu (s,p)->zDM s0 y xs.length s p=Wv->G'.ow b'=Wu (s,p):=fun b' s p g1 g2=>by rw[<-gr];simp[Gh.ip,g1,g2]
   have gow1:∀b' s p p',G.ow b'=Wu (s,p)->zDM s0 y xs.length s p=Wu p'->G'.ow b'=Wu (d,p'):=fun b' s p p' g1 g2=>by rw[<-gr];simp[Gh.ip,g1,g2]
   have fH:∀p,zDM s0 y xs.length s0 p=Wu p:=fun p=>by simp[zDM]
   have bc:∀y' z j,y=Wu y'->y'≠s0->zDM s0 y xs.length y' (z++[j])=Wu (z++[xs.length+j]):=fun y' z j g1 g2=>by simp[zDM,g1,g2]
   have gf:∀s p,Off (zAP d s0 y) s p->s≠d:=fun s p h e=>absurd (h 0 (by simp[zAP,e])) (by simp)
   have gA:sE (zAP d s0 y) G w G' w':=by
    refine⟨fun s p h=>ghd0 s p (gf s p h),fun s p h=>gad0 s p (gf s p h),fun b' o fl s p _ g1 g2=>?_,fun b' s p g1 g2=>gow0 b' s p g1 (pN s p g2),eB,fun b' _ _ ms c _ _ g=>bi b' ms c g⟩;have hs:s≠s0:=fun e=>g2 1 (by simp[zAP,e])
    have g3:=gK b' o fl s p g1 (by simp[hs]);exact⟨glb0 b' o fl s p g1 g3 (pN s p g2),eJ b' o g3⟩
   have mR:=hm.ow b _ h6;have gy:Mem Γ G' w':=by
    refine⟨fun s z=>?_,fun b' o' l hl=>?_,fun b' l hl=>?_,fun b' x' ej=>?_,fun b' g1 g2=>?_,by rw[gU];exact hm.sz,hm.bk.trans eB (by rw[<-gS];rfl) (by rw[<-gS];rfl)⟩
    ·by_cases g:s=d
     ·subst g
      rcases zD7 z with rfl|⟨z',i,rfl⟩
      ·rw[ghdr];rfl
      ·by_cases g1:i<xs.length
       ·rw[ghd1 i z' g1];exact hm.one _ _
       ·have:=ghd2 (i-xs.length) z'
        rw[show xs.length+(i-xs.length)=i from by omega]at this;rw[this];exact hn.one _ _
     ·rw[ghd0 s z g];exact hm.one _ _
    ·have:zAU Γ w b':=by
      rw[<-gr]at hl;simp only[Gh.ip]at hl;split at hl
      ·rename_i g;rw[g.1];exact mR
      ·split at hl
       ·rename_i g;exact hm.lb _ _ _ g
       ·cases hl
     exact⟨by rw[gU];exact this.1,this.2⟩
    ·have:zAU Γ w b':=by
      rw[<-gr]at hl;simp only[Gh.ip]at hl;split at hl
      ·rename_i g;exact hm.ow _ _ g
      ·cases hl
     exact⟨by rw[gU];exact this.1,this.2⟩
    ·have ev:b'≠b:=by rintro rfl;rw[mR.2.2]at ej;cases ej
     rw[gx b' ev];exact hm.st b' x' ej
    ·have ev:b'≠b:=by
      rintro rfl
      rcases mR.2.1 with g3|g3
      ·omega
      ·exact g2 g3
     rw[gx b' ev];exact hm.fr b' g1 g2
   have tc:vK G' w' d us [] xs.length b (oa):=by
    refine zG5 us [] xs.length b (oa) hn.tup (fun i x ej f hf=>?_) (fun i p' g1 g2=>glb2 i p' (by omega) g2) (fun i v hv=>?_)
    ·have:=gad2 i f (by simp only[T.inT,ej];exact hf)
     simpa[T.offT,ej]using this
    ·have g1:=hn.vals G' ghd2 i v hv
     have g2:=(Jl.1 g1).1;rw[eS,if_pos ⟨by omega,by omega⟩,show oa+i-oa=i from by omega];exact g1
   have uy:R Γ.St G' w' d (.sl k (xs++us)) []:=by
    simp only[R];rw[ghdr];refine .inr ⟨b,o0,cap,_,et,by simp,eb,by simp;omega,h4,by rw[pO];exact h5,gow1 b s0 [] [] h6 (fH []),?_,zDL _ _ _ _ _ (fun i x ej=>?_)⟩
    ·intro o g1 g2
     rw[J5,Hj]at g1;exact glb1 b o Ww s0 [] [] (h7 o (by omega) g2) (by omega) (fH [])
    ·rw[Km]at ej
     simp only[Jd];split at ej
     ·rename_i gI
      obtain⟨g1,g2,g3⟩:=sY xs [] 0 b o0 k i x h8 ej;simp only[Jd]at g1 g3;have bm:∀b' o fl z,G.lb b' o=Wu (fl,s0,z++[i])->G'.lb b' o=Wu (fl,d,z++[i])/\yQ w' b' o=yQ w b' o:=fun b' o fl z g=>by have g4:=gK b' o fl s0 _ g (by simp);exact⟨glb1 b' o fl s0 _ _ g g4 (fH _),eJ b' o g4⟩
      refine⟨zEr x [i] [i] b _ (fun z=>ghd1 i z gI) (fun z=>gad1 i z gI) (fun b' o z g=>bm b' o Wx z g) g1,g2,?_⟩;refine kL (G:=G) (w:=w) (s:=s0) (p:=[i]) ⟨⟨fun z=>ghd1 i z gI,fun z _=>gad1 i z gI,fun b' o f z _ _ g=>bm b' o f z g,fun b' z _ g=>gow1 b' s0 _ _ g (fH _),eB,fun b' _ ms c _ g=>bi b' ms c g⟩,fun b' o _ g=>?_,fun b' g=>gow1 b' s0 _ _ g (fH _)⟩ x (xF.mono (fun _ _=>False.elim) x (uA xs e3 i x ej)) g3;have:=bm b' o Ww [] (by simpa using g);simpa using this
     ·rename_i hge
      obtain⟨j,rfl⟩:∃j,i=xs.length+j:=⟨i-xs.length,by omega⟩;rw[show xs.length+j-xs.length=j from by omega]at ej;have g1:=zEm us [] xs.length b (oa) j x tc ej;rw[show T.sizes (us.take j)=j*k from by rw[wW _ (fun u hu=>hn.size u (Jah hu)),Kv,Up (by have:=(Jl.1 ej).1;omega)],show oa+j*k=o0+(xs.length+j)*k from by rw[Hj];omega]at g1
      refine⟨g1,hn.size x (Ky ej),?_⟩;cases hy:y with
      |none=>exact hn.none hy j x ej G' w' (fun z=>ghd2 j z)
      |some y'=>
       obtain⟨y1,y2,y3,y4⟩:=hn.slot y' hy;obtain⟨_,y5,_⟩:=gc.ent y' _ y3;simp only[R]at y5;rcases y5 with⟨rfl,_⟩|⟨b2,o2,cap2,cs2,et2,_,_,_,_,_,_,_,y6⟩
       ·simp at ej
       ·obtain⟨_,_,y7⟩:=sY us [] 0 b2 o2 k j x y6 ej
        simp only[Jd]at y7;refine zLs x [j] [xs.length+j] (zCW.okTups_get us hn.tup j x ej) ⟨fun z=>by rw[ghd2,y4],fun z g=>gad3 y' j z hy (by simp only[T.inT,ej];exact g),fun b' o fl z _ g=>?_,fun b' z g=>gow1 b' y' _ _ g (bc y' z j hy y2),eB,fun b' _ ms c _ g=>bi b' ms c g⟩ (xF.mono (fun _ _=>False.elim) x (uA us hn.clean j x ej)) y7;have g4:=gK b' o fl y' _ g (by simp[y2]);exact⟨glb1 b' o fl y' _ _ g g4 (bc y' z j hy y2),eJ b' o g4⟩
   have gE:=run_storeCells_at P b (oa) et nv 0 cs w h2 (by omega) gw;simp only[Jae]at gE;rw[gS]at gE;have gB:=zEu (P:=P) (t:=t) (ty:=ty) (w':=w') ht hi hx (by omega) (base:=Wu ⟨b,o0,Wv⟩) gY (by simp only[hk,uQ,hoa];exact gE);refine⟨_,w',by rw[h1];exact gB,G',fin G' w' _ gA gy ghdr uy ghd0⟩
 ·
  have uu:∃a' c,G.hd s0 []=.slice a' xs.length c/\ ∀w2:World,w2.heap=w.heap->(Builtin.firstCells ti.size xs.length (.slice a' xs.length c)).run P w2=.ok (yJ G s0 xs [] 0).toArray w2:=by
   rcases e2 with⟨rfl,a1,h1⟩|⟨b,o0,cap,cs,et,h1,h2,h3,h4,h5,h6,h7,h8⟩
   ·exact⟨a1,0,h1,fun w2 _=>by cases a1<;>simp[Builtin.firstCells,loadCells,loadCellsFrom,yJ]⟩
   ·refine⟨_,_,h1,fun w2 pZ=>?_⟩
    have hl:=zA7 xs [] 0 b o0 h8;refine run_firstCells_some (P:=P) w2 ti.size xs.length ⟨b,o0,Wv⟩ _ _ _ ?_ (fun j v hv=>?_)
    ·rw[wS,hk]
     exact wW xs (zBz xs [] 0 b o0 h8).2
    ·have:=zBu xs [] 0 b o0 hl j v hv
     rw[uQ];simp only[yQ]at this;simpa[World.cell?,pZ]using this
  obtain⟨a',c,hh,gx⟩:=uu;have eZ:yU xs=Ww/\(∀x∈xs,x.size=k)/\ ∀i x,xs[i]? =Wu x->R Γ.St G w s0 x [i]:=by
   rcases e2 with⟨rfl,a1,h1⟩|⟨b,o0,cap,cs,et,h1,h2,h3,h4,h5,h6,h7,h8⟩
   ·simp[yU]
   ·refine⟨kO (St:=Γ.St) (k:=k) xs [] 0 b o0 (zA7 xs [] 0 b o0 h8),(zBz xs [] 0 b o0 h8).2,fun i x ej=>?_⟩
    have:=(sY xs [] 0 b o0 k i x h8 ej).2.2;simpa using this
  have eh:c<xs.length+us.length:=by
   rcases Jk c (xs.length+us.length)with g|g
   ·exact g
   ·exact absurd ⟨a',c,hh,g⟩ gY
  have gB:=zKd (P:=P) (t:=t) (ty:=ty) ht hi hz hx eh pg hb gx;have hge:=grownCap_ge w (xs.length+us.length) c e;have iy:=grownCap_le_maxLen w (xs.length+us.length) c e (by simp only[maxLen];omega)
  generalize grownCap w (xs.length+us.length) c e=cap' at gB hge iy
  generalize gS:w.drew.alloc (.cells ((yJ G s0 xs [] 0++nv).toArray++Builtin.zeroCells z.cells (cap'-(xs.length+us.length))) e)=w' at gB
  have hwh:w'.heap=w.heap.push (.cells ((yJ G s0 xs [] 0++nv).toArray++Builtin.zeroCells z.cells (cap'-(xs.length+us.length))) e):=by rw[<-gS];rfl
  have mV:T.sizes xs=xs.length*k:=wW xs eZ.2.1;obtain⟨g1,g2,g3,g4,g5⟩:=zCW hm hwh d (xs++us) (fun i=>if i<xs.length then Wu (s0,[i])else y.map fun y'=>(y',[i-xs.length])) (zDM s0 y xs.length) (fun i z=>if i<xs.length then G.hd s0 (z++[i])else f2 (i-xs.length) z) (.slice (Wu ⟨w.heap.size,0,Wv⟩) (xs.length+us.length) cap') ((zAP d s0 y).tail)
   (zD5 xs us eZ.1 hn.tup) (fun i z=>by split;exact hm.one _ _;exact hn.one _ _) rfl
   (fun i u x q z' hu hs=>by
    split at hs
    ·simp at hs;obtain⟨rfl,rfl⟩:=hs;simp[zDM]
    ·rename_i fN
     cases y with
     |none=>simp at hs
     |some y'=>
      simp at hs;obtain⟨rfl,rfl⟩:=hs;have:=(hn.slot y' rfl).2.1;simp[zDM,this,show xs.length+(i-xs.length)=i from by omega])
   (fun i u x q hu hs=>by
    rw[Km]at hu;split at hs
    ·rename_i gI
     rw[if_pos gI]at hu;simp at hs;obtain⟨rfl,rfl⟩:=hs;exact⟨fun z'=>by simp[gI],eZ.2.2 i u hu,uA xs e3 i u hu,ft⟩
    ·rename_i fN
     rw[if_neg fN]at hu;cases hy:y with
     |none=>rw[hy]at hs;simp at hs
     |some y'=>
      rw[hy]at hs;simp at hs;obtain⟨rfl,rfl⟩:=hs;obtain⟨y1,y2,y3,y4⟩:=hn.slot y' hy;obtain⟨_,y5,_⟩:=gc.ent y' _ y3;simp only[R]at y5;refine⟨fun z'=>by simp[fN,y4],?_,uA us hn.clean _ u hu,y1⟩;rcases y5 with⟨rfl,_⟩|⟨b2,o2,cap2,cs2,et2,_,_,_,_,_,_,_,y6⟩
      ·simp at hu
      ·have:=(sY us [] 0 b2 o2 k _ u y6 hu).2.2
       simpa using this)
   (fun i u hu hs G2 w2 eP=>by
    rw[Km]at hu;split at hs
    ·cases hs
    ·rename_i fN
     rw[if_neg fN]at hu;cases hy:y with
     |some y'=>rw[hy]at hs;simp at hs
     |none=>
      have:=hn.none hy (i-xs.length) u hu G2 w2 (fun z'=>by rw[show xs.length+(i-xs.length)=i from by omega,eP,if_neg fN])
      rwa [show xs.length+(i-xs.length)=i from by omega]at this)
   (fun G2 eP o v hv=>by
    rw[zEs,Jd]at hv;have h1:yJ G2 d xs [] 0=yJ G s0 xs [] 0:=zLz xs [] 0 (fun i eK z'=>by rw[Jd,eP,if_pos eK]);rw[h1]at hv;have bm:(yJ G s0 xs [] 0).length=xs.length*k:=by rw[wS,mV]
    have dZ:(yJ G2 d us [] xs.length).length=us.length*k:=by rw[wS,bH]
    have ho:o<xs.length*k+us.length*k:=by have:=(Jl.1 hv).1;rw[J5]at this;omega
    have mz:=hn.len;rw[Array.getElem?_append_left (by simp;omega),List.getElem?_toArray];rw[Km]at hv ⊢
    split at hv
    ·rename_i gI;rw[if_pos gI];exact hv
    ·rename_i fN;rw[if_neg fN]
     exact hn.vals G2 (fun j z'=>by rw[eP,if_neg (by omega),show xs.length+j-xs.length=j from by omega]) _ v hv)
   (fun s p h=>pN s p (by simpa[zAP]using h)) (ho:=by rw[<-gS];rfl) (hq:=by rw[<-gS];rfl)
  refine⟨_,w',by rw[hh];exact gB,_,fin _ w' _ (by simpa[zAP]using g1) g2 (by simp[Gh.nb]) ?_ (fun s p h=>by simp[Gh.nb,h])⟩;simp only[R];refine .inr ⟨w.heap.size,0,cap',_,e,by simp[Gh.nb],g5,by simpa using hge,iy,?_,by simp[Gh.nb],?_,zSx _ _ _ _ _ (fun x ej=>?_) g3 g4⟩
  ·have bm:(yJ G s0 xs [] 0).length=xs.length*k:=by rw[wS,mV]
   have mz:=hn.len;simp only[Array.size_append,Jay,J5,size_zeroCells,fT,bm,mz,<-Hj];rw[Jd];exact Lp _ (by omega)
  ·intro o ho _
   rw[J5,Hj]at ho;simp[Gh.nb,zDH (xs++us) [] 0 o (by rw[zEt];omega)]
  ·rcases Ji.1 ej with h|h
   ·exact eZ.2.1 x h
   ·exact hn.size x h
end
mutual
def T.flat:T->Bool
 |.lit _|.ro _=>Ww
 |.agg xs=>zAm xs
 |.any|.same _ _|.addr _ _|.sub _ _ _ _ _|.sl _ _|.ptr _|.mp _ _|.tup _=>Wx
def zAm:List T->Bool
 | []=>Ww
 |x::xs=>x.flat&&zAm xs
end
section
variable {St:Stb}{G G2:Gh}{w w2:World}{s d:Nat}
mutual
theorem zKe:(t:T)-> ∀(p p':List Nat),t.flat=Ww->(∀z,G2.hd d (z++p')=G.hd s (z++p))->R St G w s t p->R St G2 w2 d t p'
 |.lit _,p,p',_,h,hr=>by have:=h [];simp only[Js]at this;simp only[R]at hr ⊢;rw[this];exact hr
 |.ro _,p,p',_,h,hr=>by have:=h [];simp only[Js]at this;simp only[R]at hr ⊢;rw[this];exact hr
 |.agg xs,p,p',hf,h,hr=>by simp only[R,T.flat]at hr hf ⊢;exact zOW xs p p' 0 hf h hr
 |.any,_,_,hf,_,_|.same _ _,_,_,hf,_,_|.addr _ _,_,_,hf,_,_|.sub _ _ _ _ _,_,_,hf,_,_|.sl _ _,_,_,hf,_,_|.ptr _,_,_,hf,_,_|.mp _ _,_,_,hf,_,_|.tup _,_,_,hf,_,_=>by simp[T.flat]at hf
theorem zOW:(xs:List T)-> ∀(p p':List Nat)(j:Nat),zAm xs=Ww->(∀z,G2.hd d (z++p')=G.hd s (z++p))->RF St G w s xs p j->RF St G2 w2 d xs p' j
 | [],_,_,_,_,_,_=>by simp only[RF]
 |x::xs,p,p',j,hf,h,hr=>by
  simp only[RF,zAm,J4]at hr hf ⊢
  exact⟨zKe x (j::p) (j::p') hf.1 (fun z=>by have:=h (z++[j]);simpa using this) hr.1,zOW xs p p' (j+1) hf.2 h hr.2⟩
end
end
mutual
theorem zHg:(t:T)->t.flat=Ww->zZ t/\t.okTup=Ww
 |.lit _,_|.ro _,_=>by simp[zZ,xF,T.okTup]
 |.agg xs,h=>by simp only[T.flat]at h;simpa only[zZ,xF,T.okTup]using kZ xs h
 |.any,h|.same _ _,h|.addr _ _,h|.sub _ _ _ _ _,h|.sl _ _,h|.ptr _,h|.mp _ _,h|.tup _,h=>by simp[T.flat]at h
theorem kZ:(xs:List T)->zAm xs=Ww->xG xs/\yU xs=Ww
 | [],_=>by simp[xG,xW,yU]
 |x::xs,h=>by simp only[zAm,J4]at h;simp only[xG,xW,yU,J4];exact⟨⟨(zHg x h.1).1,(kZ xs h.2).1⟩,(zHg x h.1).2,(kZ xs h.2).2⟩
end
theorem zIW:(xs:List T)->zAm xs=Ww-> ∀(i:Nat)(x:T),xs[i]? =Wu x->x.flat=Ww
 | [],_,_,_,h=>by simp at h
 |y::ys,hk,i,x,h=>by
  simp only[zAm,J4]at hk;cases i with
  |zero=>simp at h;subst h;exact hk.1
  |succ i=>exact zIW ys hk.2 i x (by simpa using h)
mutual
def zGw:T->Bool
 |.lit _=>Ww
 |.sl _ xs=>zCl xs
 |.agg xs=>zCl xs
 |.ptr t=>zGw t
 |.any|.ro _|.same _ _|.addr _ _|.sub _ _ _ _ _|.tup _|.mp _ _=>Wx
def zCl:List T->Bool
 | []=>Ww
 |x::xs=>zGw x&&zCl xs
end
theorem zL0:(ys:List T)->zCl ys=Ww-> ∀u∈ys,∀xs,u≠.tup xs
 | [],_,_,h,_=>by simp at h
 |y::ys,hr,u,h,xs=>by
  simp only[zCl,J4]at hr;rcases Je.1 h with rfl|h
  ·rintro rfl;simp[zGw]at hr
  ·exact zL0 ys hr.2 u h xs
theorem zGc:(ys:List T)->(roT.roTs ys).length=ys.length
 | []=>rfl
 |y::ys=>by simp[roT.roTs,zGc ys]
theorem zHh{k:Nat}:(ys:List T)->(∀u∈ys,u.size=k)->(∀u∈ys,∀xs,u≠.tup xs)-> ∀u∈roT.roTs ys,u.size=k
 | [],_,_,u,h=>by simp[roT.roTs]at h
 |y::ys,h1,h2,u,h=>by
  simp only[roT.roTs,Je]at h;rcases h with rfl|h
  ·rw[zEn y (h2 y (by simp))];exact h1 y (by simp)
  ·exact zHh ys (fun v hv=>h1 v (by simp[hv])) (fun v hv=>h2 v (by simp[hv])) u h
theorem zL1:(ys:List T)-> ∀(j:Nat)(u:T),(roT.roTs ys)[j]? =Wu u-> ∃u0,ys[j]? =Wu u0/\u=roT u0
 | [],_,_,h=>by simp[roT.roTs]at h
 |y::ys,j,u,h=>by
  cases j with
  |zero=>simp[roT.roTs]at h;exact⟨y,by simp,h.symm⟩
  |succ j=>
   obtain⟨u0,h1,h2⟩:=zL1 ys j u (by simpa[roT.roTs]using h);exact⟨u0,by simpa using h1,h2⟩
theorem zOX{St:Stb}{G2:Gh}{d:Nat}:(ys:List T)-> ∀(cs':Array Value)(o' k n:Nat),RoL St ys cs' o' k->(∀u∈ys,u.size=k)->(∀j u,ys[j]? =Wu u-> ∀z',G2.hd d (z'++[n+j])=kE (zDG u cs' (o'+j*k) z'.reverse))->
  ∀(i:Nat)(v:Value),(yJ G2 d (roT.roTs ys) [] n)[i]? =Wu v->cs'[o'+i]? =Wu v
 | [],_,_,_,_,_,_,_,i,v,hv=>by simp[roT.roTs,yJ]at hv
 |y::ys,cs',o',k,n,h,hs,hd,i,v,hv=>by
  simp only[RoL]at h;simp only[roT.roTs,yJ]at hv;have ei:∀xs,y≠.tup xs:=by rintro xs rfl;simp only[RoC]at h;exact h.1
  have Vt:∀xs,roT y≠.tup xs:=fun xs e=>by cases y<;>simp[roT]at e
  have hl:(vals G2 d (roT y) [n]).length=k:=by rw[vG _ _ Vt,zEn y ei,hs y (by simp)]
  rw[Km]at hv;split at hv
  ·exact zGU y cs' o' [n] (fun z'=>by simpa using hd 0 y (by simp) z') h.1 i v hv
  ·have:=zOX ys cs' (o'+k) k (n+1) h.2 (fun u hu=>hs u (by simp[hu])) (fun j u hu z'=>by
    have:=hd (j+1) u (by simpa using hu) z'
    rwa [show n+(j+1)=n+1+j from by omega,show o'+(j+1)*k=o'+k+j*k from by rw[Lo];omega]at this) _ v hv
   rwa [hl,show o'+k+(i-k)=o'+i from by omega]at this
mutual
theorem zQy{G:Gh}(hg:∀s z,(G.hd s z).oneCell'=Ww){s:Nat}:(t:T)-> ∀(p:List Nat)(v:Value),v∈vals G s t p->v.oneCell'=Ww
 |.agg xs,p,v,h=>by simp only[vals]at h;exact zDN hg xs p 0 v h
 |.any,p,v,h|.lit _,p,v,h|.ro _,p,v,h|.same _ _,p,v,h|.addr _ _,p,v,h|.sub _ _ _ _ _,p,v,h|.sl _ _,p,v,h|.ptr _,p,v,h|.mp _ _,p,v,h|.tup _,p,v,h=>by simp only[vals,List.mem_singleton]at h;rw[h];exact hg s p
theorem zDN{G:Gh}(hg:∀s z,(G.hd s z).oneCell'=Ww){s:Nat}:(xs:List T)-> ∀(p:List Nat)(j:Nat)(v:Value),v∈yJ G s xs p j->v.oneCell'=Ww
 | [],_,_,_,h=>by simp[yJ]at h
 |x::xs,p,j,v,h=>by
  simp only[yJ,Ji]at h;rcases h with h|h
  ·exact zQy hg x _ v h
  ·exact zDN hg xs p _ v h
end
theorem zCy{G G2:Gh}{s d:Nat}:(us:List T)-> ∀(n j:Nat),(∀i z,G2.hd d (z++[n+i])=G.hd s (z++[j+i]))->yJ G2 d us [] n=yJ G s us [] j
 | [],_,_,_=>by simp only[yJ]
 |x::xs,n,j,h=>by
  have ih:yJ G2 d xs [] (n+1)=yJ G s xs [] (j+1):=zCy xs (n+1) (j+1) (fun i z=>by rw[show n+1+i=n+(i+1)from by omega,show j+1+i=j+(i+1)from by omega];exact h (i+1) z)
  simp only[yJ];rw[ih,zAV x [j] [n] (by simpa using h 0)]
theorem zEv{G G2:Gh}{s d:Nat}:(us:List T)-> ∀(n j:Nat)(q:List Nat),(∀i z,G2.hd d (z++[n+i])=G.hd s (z++((j+i)::q)))->yJ G2 d us [] n=yJ G s us q j
 | [],_,_,_,_=>by simp only[yJ]
 |x::xs,n,j,q,h=>by
  have ih:yJ G2 d xs [] (n+1)=yJ G s xs q (j+1):=zEv xs (n+1) (j+1) q (fun i z=>by rw[show n+1+i=n+(i+1)from by omega,show j+1+i=j+(i+1)from by omega];exact h (i+1) z)
  simp only[yJ];rw[ih,zAV x (j::q) [n] (by simpa using h 0)]
section
variable {P:Program}{Γ:Ctx}{E:Env}{o:Oper}{d:Nat}
theorem zOY{w:World}{us:List T}(h:R St G w r (.sl k us) q){size:Nat}(hk:size=k):
  ∃xa c,G.hd r q=.slice xa us.length c/\ ∀w2:World,w2.heap=w.heap->(Builtin.firstCells size us.length (.slice xa us.length c)).run P w2=.ok (yJ G r us q 0).toArray w2:=by
 simp only[R]at h;rcases h with⟨rfl,a1,h1⟩|⟨b,o0,cap,cs,et,h1,h2,h3,h4,h5,h6,h7,h8⟩
 ·exact⟨a1,0,h1,fun w2 _=>by cases a1<;>simp[Builtin.firstCells,loadCells,loadCellsFrom,yJ]⟩
 ·refine⟨_,_,h1,fun w2 pZ=>?_⟩
  have hl:=zA7 us q 0 b o0 h8;refine run_firstCells_some (P:=P) w2 size us.length ⟨b,o0,Wv⟩ _ _ _ ?_ (fun j v hv=>?_)
  ·rw[wS,hk]
   exact wW us (zBz us q 0 b o0 h8).2
  ·have:=zBu us q 0 b o0 hl j v hv
   rw[uQ];simp only[yQ]at this;simpa[World.cell?,pZ]using this
theorem zB0{w:World}(gc:Rep Γ E G a.tmps w){s:Nat}{t:T}(h:E s=Wu t)(ht:t.single=Ww):a.eval (.tmp s)=G.hd s []:=by rw[wH (gc.ent s t h).1,xH ht]
theorem zKf(t e:TypeId)(ti:TypeInfo)(z:Value)(k s0 y:Nat)(xs us:List T)(ho:o.op=.call { callee:=.builtin .append,args:=#[.tmp s0,.tmp y],argTypes:=#[t,t] })(gg:o.dst=Wu d)(hd:d<Γ.N)
  (ht:P.underlying t=Wu (.slice e))(hi:P.info? e=Wu ti)(hz:ti.zero=Wu z)(hk:ti.size=k)(fd:0<k)(fT:z.cells.size=k)(hb:ti.bytes<=2048)
  (er:E s0=Wu (.sl k xs))(hy:E y=Wu (.sl k us))(ft:s0≠d)(pi:y≠d)(ib:y≠s0)(pg:xs.length+us.length<=68719476736):
  wF P Γ o E (E.app (aWr d s0 (Wu y) k (xs++us)) (zAP d s0 (Wu y))):=by
 refine wF.value gg fun a w G gc=>?_
 obtain⟨_,y2,y3⟩:=gc.ent y _ hy;simp only[Top]at y3;obtain⟨xa,c,h1,h2⟩:=zOY (P:=P) y2 hk;have fQ:yU us=Ww/\ ∀u∈us,u.size=k:=by
  simp only[R]at y2;rcases y2 with⟨rfl,_⟩|⟨b,o0,cap,cs,et,_,_,_,_,_,_,_,h8⟩
  ·simp[yU]
  ·exact⟨kO (St:=Γ.St) (k:=k) us [] 0 b o0 (zA7 us [] 0 b o0 h8),(zBz us [] 0 b o0 h8).2⟩
 have hn:zHf Γ E G d s0 (Wu y) k xs.length us (fun j z'=>G.hd y (z'++[j])) (yJ G y us [] 0):=
  ⟨fQ.2,fQ.1,y3,fun j z'=>gc.mem.one _ _,by rw[wS];exact wW us fQ.2,fun y' hy'=>by simp at hy';subst hy';exact⟨pi,ib,hy,fun _ _=>rfl⟩,fun h=>by simp at h,
   fun G2 eP o v hv=>by rw[<-zCy us xs.length 0 (fun i z'=>by rw[eP,Jd])];exact hv⟩
 obtain⟨v,w',gB,G',gr⟩:=zBM (P:=P) (ty:=o.type) gc hd ht hi hz hk fd fT hb er ft hn (xv:=a.eval (.tmp y)) ⟨.inl ⟨e,xa,c,ht,by rw[zB0 gc hy rfl,h1],h2⟩⟩ (fun v hv=>zCY gc.mem us [] 0 v hv) pg;refine⟨v,w',?_,G',gr⟩;rw[<-zB0 gc er rfl]at gB;simp[execOp,ho,resolve,invoke,builtin,gB]
theorem zKg(t e:TypeId)(ti:TypeInfo)(z:Value)(k s0:Nat)(y:Operand)(r:Nat)(q:List Nat)(xs us:List T)(ho:o.op=.call { callee:=.builtin .append,args:=#[.tmp s0,y],argTypes:=#[t,t] })(gg:o.dst=Wu d)(hd:d<Γ.N)
  (ht:P.underlying t=Wu (.slice e))(hi:P.info? e=Wu ti)(hz:ti.zero=Wu z)(hk:ti.size=k)(fd:0<k)(fT:z.cells.size=k)(hb:ti.bytes<=2048)
  (er:E s0=Wu (.sl k xs))(hy:uP E y=Wu (r,q,.sl k us))(hf:zAm us=Ww)(ft:s0≠d)(pg:xs.length+us.length<=68719476736):
  wF P Γ o E (E.app (aWr d s0 Wv k (xs++us)) (zAP d s0 Wv)):=by
 refine wF.value gg fun a w G gc=>?_
 obtain⟨y2,y1⟩:=qJ gc hy rfl;obtain⟨xa,c,h1,h2⟩:=zOY (P:=P) y2 hk;have fQ:(∀u∈us,u.size=k)/\ ∀j u,us[j]? =Wu u->R Γ.St G w r u (j::q):=by
  simp only[R]at y2;rcases y2 with⟨rfl,_⟩|⟨b,o0,cap,cs,et,_,_,_,_,_,_,_,h8⟩
  ·simp
  ·refine⟨(zBz us q 0 b o0 h8).2,fun j u hu=>?_⟩
   have:=(sY us q 0 b o0 k j u h8 hu).2.2;simpa using this
 have gF:=kZ us hf;have hn:zHf Γ E G d s0 Wv k xs.length us (fun j z'=>G.hd r (z'++(j::q))) (yJ G r us q 0):=
  ⟨fQ.1,gF.2,gF.1,fun j z'=>gc.mem.one _ _,by rw[wS];exact wW us fQ.1,fun y' hy'=>by simp at hy',
   fun _ j u hu G2 w2 eP=>zKe u (j::q) [xs.length+j] (zIW us hf j u hu) (fun z'=>eP z') (fQ.2 j u hu),
   fun G2 eP o v hv=>by rw[<-zEv us xs.length 0 q (fun i z'=>by rw[eP,Jd])];exact hv⟩
 obtain⟨v,w',gB,G',gr⟩:=zBM (P:=P) (ty:=o.type) gc hd ht hi hz hk fd fT hb er ft hn (xv:=a.eval y) ⟨.inl ⟨e,xa,c,ht,by rw[y1,h1],h2⟩⟩ (fun v hv=>zCY gc.mem us q 0 v hv) pg;refine⟨v,w',?_,G',gr⟩;rw[<-zB0 gc er rfl]at gB;simp[execOp,ho,resolve,invoke,builtin,gB]
mutual
theorem zS2:(u:T)->zGw u=Ww->(roT u).flat=Ww
 |.agg xs,h=>by simp only[zGw]at h;simp only[roT,T.flat];exact zFt xs h
 |.lit _,_|.sl _ _,_|.ptr _,_|.mp _ _,_=>by simp[roT,T.flat]
 |.any,h|.ro _,h|.same _ _,h|.addr _ _,h|.sub _ _ _ _ _,h|.tup _,h=>by simp[zGw]at h
theorem zFt:(xs:List T)->zCl xs=Ww->zAm (roT.roTs xs)=Ww
 | [],_=>by simp[roT.roTs,zAm]
 |x::xs,h=>by simp only[zCl,J4]at h;simp only[roT.roTs,zAm,J4];exact⟨zS2 x h.1,zFt xs h.2⟩
end
theorem zKh(t e:TypeId)(ti:TypeInfo)(z:Value)(k s0:Nat)(y:Operand)(r:Nat)(q:List Nat)(xs ys:List T)(ho:o.op=.call { callee:=.builtin .append,args:=#[.tmp s0,y],argTypes:=#[t,t] })(gg:o.dst=Wu d)(hd:d<Γ.N)
  (ht:P.underlying t=Wu (.slice e))(hi:P.info? e=Wu ti)(hz:ti.zero=Wu z)(hk:ti.size=k)(fd:0<k)(fT:z.cells.size=k)(hb:ti.bytes<=2048)
  (er:E s0=Wu (.sl k xs))(hy:uP E y=Wu (r,q,.ro (.sl k ys)))(hro:zCl ys=Ww)(ib:∀u∈ys,u.size=k)(ft:s0≠d)(pg:xs.length+ys.length<=68719476736):
  wF P Γ o E (E.app (aWr d s0 Wv k (xs++roT.roTs ys)) (zAP d s0 Wv)):=by
 refine wF.value gg fun a w G gc=>?_
 obtain⟨y2,y1⟩:=qJ gc hy rfl;obtain⟨xa,c,h1,h2,h3,h4⟩:=zCU y2;have hf:=zFt ys hro;have gF:=kZ _ hf;have gm:(roT.roTs ys).length=ys.length:=zGc ys;have gv:∀u∈roT.roTs ys,u.size=k:=zHh ys ib (fun u hu=>zL0 ys hro u hu);obtain⟨cs',o',h5,h6⟩:∃(cs':Array Value)(o':Nat),RoL Γ.St ys cs' o' k/\(ys≠[]-> ∃b et fr,xa=Wu ⟨b,o',Wv⟩/\Γ.St b=Wu (.cells cs' et fr)):=by
  by_cases gf:ys=[]
  ·subst gf;exact⟨#[],0,by simp[RoL],fun h=>absurd rfl h⟩
  ·obtain⟨b,o',cs',et,fr,h5,h6,h7⟩:=h4 gf
   exact⟨cs',o',h7,fun _=>⟨b,et,fr,h5,h6⟩⟩
 let f2:Nat->List Nat->Value:=fun j z'=>match ys[j]? with
  |some u=>kE (zDG u cs' (o'+j*k) z'.reverse)
  |none=>.bool Wx
 have hf2:∀j u,ys[j]? =Wu u-> ∀z',f2 j z'=kE (zDG u cs' (o'+j*k) z'.reverse):=fun j u hu z'=>by simp[f2,hu]
 let G0:Gh:={ G with hd:=fun s z'=>if s=d then(match z'.getLast? with
  |some j=>f2 j z'.dropLast
  |none=>.bool Wx)else G.hd s z' }
 have hG0:∀j z',G0.hd d (z'++[j])=f2 j z':=fun j z'=>by simp[G0]
 have pt:∀(G2:Gh)(n:Nat),(∀j z',G2.hd d (z'++[n+j])=f2 j z')-> ∀(i:Nat)(v:Value),(yJ G2 d (roT.roTs ys) [] n)[i]? =Wu v->cs'[o'+i]? =Wu v:=by intro G2 n eP i v hv;exact zOX ys cs' o' k n h5 ib (fun j u hu z'=>by rw[eP,hf2 j u hu]) i v hv
 have dW:∀w2:World,w2.heap=w.heap->(Builtin.firstCells ti.size ys.length (.slice xa ys.length c)).run P w2=.ok (yJ G0 d (roT.roTs ys) [] 0).toArray w2:=by
  intro w2 pZ
  by_cases gf:ys=[]
  ·subst gf
   cases xa<;>simp[Builtin.firstCells,loadCells,loadCellsFrom,roT.roTs,yJ]
  ·obtain⟨b,et,fr,rfl,h7⟩:=h6 gf
   refine run_firstCells_some (P:=P) w2 ti.size ys.length ⟨b,o',Wv⟩ _ _ _ ?_ (fun j v hv=>?_)
   ·rw[wS,hk,wW _ gv,gm]
   ·have:=pt G0 0 (fun j z'=>by rw[Jd];exact hG0 j z') j v hv
    rw[uQ];have h8:=gc.mem.st b _ h7;simp[World.cell?,pZ,h8,this]
 have be:∀j z',(f2 j z').oneCell'=Ww:=fun j z'=>by
  dsimp only[f2];split
  ·exact zBv _
  ·rfl
 have hn:zHf Γ E G d s0 Wv k xs.length (roT.roTs ys) f2 (yJ G0 d (roT.roTs ys) [] 0):=by
  refine⟨gv,gF.2,gF.1,be,by rw[wS];exact wW _ gv,fun y' hy'=>by simp at hy',fun _ j u hu G2 w2 eP=>?_,fun G2 eP i v hv=>?_⟩
  ·obtain⟨u0,ii,rfl⟩:=zL1 ys j u hu
   exact zSs u0 cs' (o'+j*k) [xs.length+j] (fun z'=>by rw[eP z',hf2 j u0 ii]) (zG4 ys cs' o' k j u0 h5 ii)
  ·rw[<-zCy (roT.roTs ys) xs.length 0 (fun i z'=>by rw[eP,Jd];exact(hG0 i z').symm)]
   exact hv
 have dM:∀v∈yJ G0 d (roT.roTs ys) [] 0,v.oneCell'=Ww:=by
  intro v hv;refine zDN (fun s z'=>?_) _ [] 0 v hv;simp only[G0];split
  ·split
   ·exact be _ _
   ·rfl
  ·exact gc.mem.one _ _
 have ac:zHe P t e ti (a.eval y) (roT.roTs ys).length (yJ G0 d (roT.roTs ys) [] 0) w:=⟨.inl ⟨e,xa,c,ht,by rw[y1,h1,gm],by rw[gm];exact dW⟩⟩;obtain⟨v,w',gB,G',gr⟩:=zBM (P:=P) (ty:=o.type) gc hd ht hi hz hk fd fT hb er ft hn ac dM (by rw[gm];exact pg);refine⟨v,w',?_,G',gr⟩;rw[<-zB0 gc er rfl]at gB;simp[execOp,ho,resolve,invoke,builtin,gB]
end
theorem zGd:(us:List T)->sZ us=us.flatMap tW
 | []=>rfl
 |u::us=>by simp[sZ,zGd us]
theorem zCz(u:T)(h:u.zOk=Ww):∀m,zAt (J0 m u)=Ww
 |0=>rfl
 |m+1=>by simp[Jw,zAt,h,zCz u h m]
section
variable {P:Program}{Γ:Ctx}{E:Env}{o:Oper}{d:Nat}
theorem zHi(t t2 e:TypeId)(k2:IntKind)(ti:TypeInfo)(z:Value)(u:T)(k s0:Nat)(y:Operand)(kd:IntKind)(m:Nat)(xs:List T)(ho:o.op=.call { callee:=.builtin .append,args:=#[.tmp s0,y],argTypes:=#[t,t2] })(gg:o.dst=Wu d)(hd:d<Γ.N)
  (ht:P.underlying t=Wu (.slice e))(mr:P.underlying t2=Wu (.int k2))(hi:P.info? e=Wu ti)(hz:ti.zero=Wu z)(hk:ti.size=k)(fd:0<k)(hb:ti.bytes<=2048)(hu:u.zOk=Ww)(hv:tW u=z.cells.toList)(fQ:u.size=k)
  (er:E s0=Wu (.sl k xs))(hy:opT E y=Wu (.lit (.int kd m)))(ft:s0≠d)(pg:xs.length+m<=68719476736):
  wF P Γ o E (E.app (aWr d s0 Wv k (xs++J0 m u)) (zAP d s0 Wv)):=by
 refine wF.value gg fun a w G gc=>?_
 have fT:z.cells.size=k:=by grind[vO]
 have hzo:=zCz u hu m;have gF:=zBL _ hzo
 let f2:Nat->List Nat->Value:=fun _ z'=>kE (zhd u z'.reverse)
 have hnvl:((Builtin.zeroCells z.cells m).toList).length=m*k:=by grind[Builtin.zeroCells]
 have hn:zHf Γ E G d s0 Wv k xs.length (J0 m u) f2 (Builtin.zeroCells z.cells m).toList:=by
  refine⟨by grind,gF.2,gF.1,fun _ _=>zBv _,by grind,by simp,fun _ j x hx G2 w2 eP=>?_,fun G2 eP i v pc=>?_⟩
  ·grind[zJZ]
  ·have h1:yJ G2 d (J0 m u) [] xs.length=sZ (J0 m u):=by grind[zDI]
   rw[h1,zGd]at pc;obtain⟨h2,h3⟩:=zKa tW u k (by grind) fd m i v pc
   grind[Builtin.zeroCells]
 have gw:∀v∈(Builtin.zeroCells z.cells m).toList,v.oneCell'=Ww:=by
  intro v pc;simp only[Builtin.zeroCells,Array.toList_map,Array.toList_range,Jq,Ll]at pc;obtain⟨i,eK,rfl⟩:=pc
  grind[Nat.mod_lt,zFr]
 have ac:zHe P t2 e ti (a.eval y) (J0 m u).length (Builtin.zeroCells z.cells m).toList w:=by
  refine⟨.inr ⟨k2,kd,z,mr,?_,hz,by simp,?_,by omega⟩⟩
  ·rw[(xX gc hy).1];simp
  ·simp only[Jc]
   exact U1 (Gt (show m<=68719476736 by omega) hb) (by decide)
 obtain⟨v,w',gB,G',gr⟩:=zBM (P:=P) (ty:=o.type) gc hd ht hi hz hk fd fT hb er ft hn ac gw (by grind);refine⟨v,w',?_,G',gr⟩;rw[<-zB0 gc er rfl]at gB;simp[execOp,ho,resolve,invoke,builtin,gB]
end
def zL2(G:Gh)(nd:List (Nat×List Nat×T)):Value:=
 match nd with
 | [x]=>sB G x.1 x.2.2 x.2.1
 |nd=>.tuple (nd.map fun x=>sB G x.1 x.2.2 x.2.1).toArray
def FnC(P:Program)(f:FuncId)(us:List T)(res:List T)(rws:List (Nat×T)):Prop:=
 ∀(St:Stb)(W:Nat->Prop)(w:World)(G:Gh)(vs:Array Value),vs.size=us.length->
  (∀(i:Nat) u,us[i]? =Wu u->vs[i]? =Wu (mkV G i u [])/\R St G w i u [])->Mem ⟨St,W,w,0⟩ G w->
  Calls P f vs w fun e w'=> ∃(S':Stb)(G':Gh)(nd:List (Nat×List Nat×T)),zDy St S' W w.heap.size/\e=.returned (zL2 G' nd)/\Mem ⟨S',W,w,0⟩ G' w'/\nd.map (·.2.2)=res/\
   (∀x∈nd,R S' G' w' x.1 x.2.2 x.2.1/\us.length<=x.1)/\(nd.map (·.1)).Nodup/\
   ∀i u',(i,u')∈rws->R S' G' w' i u' []/\ ∃u,us[i]? =Wu u/\mkV G' i u' []=mkV G i u []
mutual
def wT:T->Bool
 |.ro _|.mp _ _=>Wx
 |.sl _ xs|.agg xs|.tup xs=>vY xs
 |.ptr t=>wT t
 |.any|.lit _|.same _ _|.addr _ _|.sub _ _ _ _ _=>Ww
def vY:List T->Bool
 | []=>Ww
 |x::xs=>wT x&&vY xs
end
section
variable {St St':Stb}{G:Gh}{w:World}{s:Nat}
mutual
theorem zQz:(t:T)-> ∀(p:List Nat),wT t=Ww->R St G w s t p->R St' G w s t p
 |.ro _,_,h,_|.mp _ _,_,h,_=>by simp[wT]at h
 |.sl k xs,p,h,hr=>by
  simp only[wT,R]at h hr ⊢
  rcases hr with hr|⟨b,o0,cap,cs,e,h1,h2,h3,h4,h5,h6,h7,h8⟩
  ·exact .inl hr
  ·exact .inr ⟨b,o0,cap,cs,e,h1,h2,h3,h4,h5,h6,h7,zYj xs p 0 b o0 k h h8⟩
 |.agg xs,p,h,hr|.tup xs,p,h,hr=>by simp only[wT,R]at h hr ⊢;exact zYk xs p 0 h hr
 |.ptr t,p,h,hr=>by
  simp only[wT,R]at h hr ⊢
  obtain⟨b,cs,e,h1,h2,h3,h6,h4,h5⟩:=hr;exact⟨b,cs,e,h1,h2,h3,h6,h4,zQz t _ h h5⟩
 |.any,_,_,hr|.lit _,_,_,hr|.same _ _,_,_,hr|.addr _ _,_,_,hr|.sub _ _ _ _ _,_,_,hr=>by first|(simp only[R];done)|simpa only[R]using hr
theorem zYj:(xs:List T)-> ∀(p:List Nat)(i b o k:Nat),vY xs=Ww->RL St G w s xs p i b o k->RL St' G w s xs p i b o k
 | [],_,_,_,_,_,_,_=>by simp only[RL]
 |x::xs,p,i,b,o,k,h,hr=>by
  simp only[vY,J4,RL]at h hr ⊢
  exact⟨hr.1,zQz x _ h.1 hr.2.1,zYj xs p (i+1) b _ k h.2 hr.2.2⟩
theorem zYk:(xs:List T)-> ∀(p:List Nat)(i:Nat),vY xs=Ww->RF St G w s xs p i->RF St' G w s xs p i
 | [],_,_,_,_=>by simp only[RF]
 |x::xs,p,i,h,hr=>by
  simp only[vY,J4,RF]at h hr ⊢
  exact⟨zQz x _ h.1 hr.1,zYk xs p (i+1) h.2 hr.2⟩
end
end
section
variable {St St':Stb} (h:∀b x,St b=Wu x->St' b=Wu x)
 include h
mutual
theorem uR:(t:T)-> ∀(cs:Array Value)(o:Nat),RoC St t cs o->RoC St' t cs o
 |.sl k xs,cs,o,hr=>by
  simp only[RoC]at hr ⊢
  obtain⟨a,c,h1,h2,h3,h4⟩:=hr;refine⟨a,c,h1,h2,h3,fun gf=>?_⟩;obtain⟨b,o',cs',e,fr,h5,h6,h7⟩:=h4 gf;exact⟨b,o',cs',e,fr,h5,h b _ h6,zL3 xs cs' o' k h7⟩
 |.agg xs,cs,o,hr=>by simp only[RoC]at hr ⊢;exact zL4 xs cs o hr
 |.ptr t,cs,o,hr=>by
  simp only[RoC]at hr ⊢
  obtain⟨b,o',cs',e,fr,h5,h6,h7⟩:=hr;exact⟨b,o',cs',e,fr,h5,h b _ h6,uR t cs' o' h7⟩
 |.ro u,cs,o,hr=>by
  simp only[RoC]at hr ⊢
  obtain⟨f,vs,h1,h2,h3⟩:=hr;exact⟨f,vs,h1,h2,uR u _ _ h3⟩
 |.any,_,_,hr|.lit _,_,_,hr|.same _ _,_,_,hr|.addr _ _,_,_,hr|.sub _ _ _ _ _,_,_,hr|.tup _,_,_,hr|.mp _ _,_,_,hr=>by first|(simp only[RoC]at hr;done)|simpa only[RoC]using hr
theorem zL3:(xs:List T)-> ∀(cs:Array Value)(o k:Nat),RoL St xs cs o k->RoL St' xs cs o k
 | [],_,_,_,_=>by have _:=h;simp only[RoL]
 |x::xs,cs,o,k,hr=>by simp only[RoL]at hr ⊢;exact⟨uR x cs o hr.1,zL3 xs cs _ k hr.2⟩
theorem zL4:(xs:List T)-> ∀(cs:Array Value)(o:Nat),RoF St xs cs o->RoF St' xs cs o
 | [],_,_,_=>by have _:=h;simp only[RoF]
 |x::xs,cs,o,hr=>by simp only[RoF]at hr ⊢;exact⟨uR x cs o hr.1,zL4 xs cs _ hr.2⟩
end
end
section
variable {St St':Stb}{G:Gh}{w:World}{s:Nat} (h:∀b x,St b=Wu x->St' b=Wu x)
 include h
theorem zL5:∀(ks:List Value)(xs:List T)(es:List MapEntry),RoM St ks xs es->RoM St' ks xs es
 | [],[],[],_=>by have _:=h;trivial
 |k::ks,x::xs,e::es,hr=>by simp only[RoM]at hr ⊢;exact⟨hr.1,uR h x _ _ hr.2.1,zL5 ks xs es hr.2.2⟩
 | [],_::_,_,hr| [],[],_::_,hr|_::_,[],_,hr|_::_,_::_,[],hr=>by simp only[RoM]at hr
mutual
theorem zKi:(t:T)-> ∀(p:List Nat),R St G w s t p->R St' G w s t p
 |.ro t,_,hr=>by simp only[R]at hr ⊢;exact uR h t _ _ hr
 |.sl k xs,p,hr=>by
  simp only[R]at hr ⊢
  rcases hr with hr|⟨b,o0,cap,cs,e,h1,h2,h3,h4,h5,h6,h7,h8⟩
  ·exact .inl hr
  ·exact .inr ⟨b,o0,cap,cs,e,h1,h2,h3,h4,h5,h6,h7,zOZ xs p 0 b o0 k h8⟩
 |.agg xs,p,hr|.tup xs,p,hr=>by simp only[R]at hr ⊢;exact zPa xs p 0 hr
 |.ptr t,p,hr=>by
  simp only[R]at hr ⊢
  obtain⟨b,cs,e,h1,h2,h3,h6,h4,h5⟩:=hr;exact⟨b,cs,e,h1,h2,h3,h6,h4,zKi t _ h5⟩
 |.mp ks xs,_,hr=>by
  simp only[R]at hr ⊢
  obtain⟨b,ms,c,h1,h2,h3,h4⟩:=hr;exact⟨b,ms,c,h1,h2,h3,zL5 h ks xs _ h4⟩
 |.any,_,hr|.lit _,_,hr|.same _ _,_,hr|.addr _ _,_,hr|.sub _ _ _ _ _,_,hr=>by first|(simp only[R];done)|simpa only[R]using hr
theorem zOZ:(xs:List T)-> ∀(p:List Nat)(i b o k:Nat),RL St G w s xs p i b o k->RL St' G w s xs p i b o k
 | [],_,_,_,_,_,_=>by have _:=h;simp only[RL]
 |x::xs,p,i,b,o,k,hr=>by simp only[RL]at hr ⊢;exact⟨hr.1,zKi x _ hr.2.1,zOZ xs p (i+1) b _ k hr.2.2⟩
theorem zPa:(xs:List T)-> ∀(p:List Nat)(i:Nat),RF St G w s xs p i->RF St' G w s xs p i
 | [],_,_,_=>by have _:=h;simp only[RF]
 |x::xs,p,i,hr=>by simp only[RF]at hr ⊢;exact⟨zKi x _ hr.1,zPa xs p (i+1) hr.2⟩
end
end
mutual
def strip:T->T
 |.lit v=>.lit v
 |.ro u=>if u.single then u else .any
 |.sl k xs=>.sl k (vA xs)
 |.agg xs=>.agg (vA xs)
 |.ptr t=>.ptr (strip t)
 |.any|.same _ _|.addr _ _|.sub _ _ _ _ _|.tup _|.mp _ _=>.any
def vA:List T->List T
 | []=>[]
 |x::xs=>strip x::vA xs
end
theorem kQ:(xs:List T)->(vA xs).length=xs.length
 | []=>rfl
 |x::xs=>by simp[vA,kQ xs]
mutual
theorem zDO:(t:T)->(strip t).size=t.size
 |.agg xs=>by simp only[strip,T.size];exact zGe xs
 |.ro u=>by
  simp only[strip];split
  ·rename_i h;cases u<;>simp[T.single]at h<;>simp[T.size]
  ·simp[T.size]
 |.lit _|.sl _ _|.ptr _|.mp _ _|.any|.same _ _|.addr _ _|.sub _ _ _ _ _|.tup _=>by simp[strip,T.size]
theorem zGe:(xs:List T)->T.sizes (vA xs)=T.sizes xs
 | []=>rfl
 |x::xs=>by simp only[vA,T.sizes,zDO x,zGe xs]
end
theorem qQ(hu:u.single=Ww){cs:Array Value}{o:Nat}(h:RoC St u #[v] 0)(hc:cs[o]? =Wu v):RoC St u cs o:=by
 cases u<;>simp[T.single]at hu<;>simp only[RoC]at h ⊢ <;>simp at h<;>first
  |exact⟨v,hc,h⟩
  |(obtain⟨rfl,h2⟩:=h;exact⟨hc,h2⟩)
  |(obtain⟨f,vs,rfl,h2⟩:=h;exact⟨f,vs,hc,h2⟩)
  |(obtain⟨a,c,rfl,h2⟩:=h;exact⟨a,c,hc,by simpa using h2⟩)
  |(obtain⟨b,o',rfl,h2⟩:=h;obtain⟨cs',⟨e,f1,f2,h3⟩,h4⟩:=h2;exact⟨b,o',cs',e,(f1,f2),hc,h3,h4⟩)
section
variable {St Sc:Stb}{G:Gh}{w:World}{s:Nat} (gw:∀s p,(G.hd s p).oneCell'=Ww) (ew:∀b x,St b=Wu x->Sc b=Wu x) (ey:∀b,(∃y,G.ow b=Wu (s,y))->Sc b=w.heap[b]?)
 include gw ew ey
mutual
theorem frz:(t:T)-> ∀(p:List Nat)(b o:Nat)(cs:Array Value)(e:TypeId)(fr:Nat×Nat),w.heap[b]? =Wu (.cells cs e fr)->Loc G w s t p b o->R St G w s t p->RoC Sc (strip t) cs o
 |.agg xs,p,b,o,cs,e,fr,hb,hl,hr=>by simp only[Loc,R,strip,RoC]at hl hr ⊢;exact yAV xs p 0 b o cs e fr hb hl.2 hr
 |.tup _,_,_,_,_,_,_,_,hl,_=>by have _:=ey;simp only[Loc]at hl
 |.any,p,b,o,cs,e,fr,hb,hl,hr|.same _ _,p,b,o,cs,e,fr,hb,hl,hr|.addr _ _,p,b,o,cs,e,fr,hb,hl,hr|.sub _ _ _ _ _,p,b,o,cs,e,fr,hb,hl,hr|.mp _ _,p,b,o,cs,e,fr,hb,hl,hr=>by have h1:=(vC rfl hl).2.2;simp only[yQ,World.cell?,hb]at h1;simp only[strip,RoC];exact⟨_,by simpa using h1,gw s p⟩
 |.lit v,p,b,o,cs,e,fr,hb,hl,hr=>by
  have h1:=(vC rfl hl).2.2;simp only[yQ,World.cell?,hb]at h1;simp only[strip,RoC,R]at hr ⊢
  exact⟨by rw[<-hr];simpa using h1,by rw[<-hr];exact gw s p⟩
 |.ro u,p,b,o,cs,e,fr,hb,hl,hr=>by
  have h1:=(vC rfl hl).2.2;simp only[yQ,World.cell?,hb]at h1;simp only[strip,R]at hr ⊢
  split
  ·rename_i hu
   exact qQ hu (uR ew u _ _ hr) (by simpa using h1)
  ·simp only[RoC];exact⟨_,by simpa using h1,gw s p⟩
 |.sl k xs,p,b,o,cs,e,fr,hb,hl,hr=>by have h1:=(vC rfl hl).2.2;simp only[yQ,World.cell?,hb]at h1;exact qQ rfl (zL6 (.sl k xs) p rfl hr) (by simpa using h1)
 |.ptr t,p,b,o,cs,e,fr,hb,hl,hr=>by have h1:=(vC rfl hl).2.2;simp only[yQ,World.cell?,hb]at h1;exact qQ rfl (zL6 (.ptr t) p rfl hr) (by simpa using h1)
theorem yAV:(xs:List T)-> ∀(p:List Nat)(j b o:Nat)(cs:Array Value)(e:TypeId)(fr:Nat×Nat),w.heap[b]? =Wu (.cells cs e fr)->vK G w s xs p j b o->RF St G w s xs p j->RoF Sc (vA xs) cs o
 | [],_,_,_,_,_,_,_,_,_,_=>by have _:=gw;have _:=ew;have _:=ey;simp only[vA,RoF]
 |x::xs,p,j,b,o,cs,e,fr,hb,hl,hr=>by
  simp only[vK,RF,vA,RoF]at hl hr ⊢
  exact⟨frz x _ b o cs e fr hb hl.1 hr.1,by rw[zDO];exact yAV xs p (j+1) b _ cs e fr hb hl.2 hr.2⟩
theorem yAW:(xs:List T)-> ∀(p:List Nat)(i b o k:Nat)(cs:Array Value)(e:TypeId)(fr:Nat×Nat),w.heap[b]? =Wu (.cells cs e fr)->RL St G w s xs p i b o k->RoL Sc (vA xs) cs o k
 | [],_,_,_,_,_,_,_,_,_,_=>by have _:=gw;have _:=ew;have _:=ey;simp only[vA,RoL]
 |x::xs,p,i,b,o,k,cs,e,fr,hb,hr=>by
  simp only[RL,vA,RoL]at hr ⊢
  exact⟨frz x _ b o cs e fr hb hr.1.1 hr.2.1,yAW xs p (i+1) b _ k cs e fr hb hr.2.2⟩
theorem zL6:(t:T)-> ∀(p:List Nat),t.single=Ww->R St G w s t p->RoC Sc (strip t) #[G.hd s p] 0
 |.agg _,_,h,_|.tup _,_,h,_=>by simp[T.single]at h
 |.any,p,_,_|.same _ _,p,_,_|.addr _ _,p,_,_|.sub _ _ _ _ _,p,_,_|.mp _ _,p,_,_=>by simp only[strip,RoC];exact⟨_,by simp,gw s p⟩
 |.lit v,p,_,hr=>by simp only[strip,RoC,R]at hr ⊢;exact⟨by simp[hr],by rw[<-hr];exact gw s p⟩
 |.ro u,p,_,hr=>by
  simp only[strip,R]at hr ⊢
  split
  ·exact uR ew u _ _ hr
  ·simp only[RoC];exact⟨_,by simp,gw s p⟩
 |.sl k xs,p,_,hr=>by
  simp only[strip,R,RoC]at hr ⊢
  rw[kQ];rcases hr with⟨rfl,a,h1⟩|⟨b,o0,cap,cs,e,h1,h2,h3,h4,h5,h6,h7,h8⟩
  ·exact⟨a,0,by simp[h1],by simp,by simp[maxLen],fun h=>by simp[vA]at h⟩
  ·exact⟨Wu ⟨b,o0,Wv⟩,cap,by simp[h1],h3,h4,fun _=>⟨b,o0,cs,e,(0,0),rfl,by rw[ey b ⟨_,h6⟩];exact h2,yAW xs p 0 b o0 k cs e (0,0) h2 h8⟩⟩
 |.ptr t,p,_,hr=>by
  simp only[strip,R,RoC]at hr ⊢
  obtain⟨b,cs,e,h1,h2,h3,h6,h4,h5⟩:=hr;exact⟨b,0,cs,e,(0,0),by simp[h1],by rw[ey b ⟨_,h6⟩];exact h2,frz t _ b 0 cs e (0,0) h2 h4 h5⟩
end
end
mutual
def clo(E:Env):T->T
 |.agg ts=>.agg (zB1 E ts)
 |.lit v=>.lit v
 |.ro u=>.ro u
 |.same r q=>match qI E 4 r q with
  |some (_,_,.ro u)=>.ro u
  |some (_,_,.lit v)=>.lit v
  |some (_,_,t)=>if t.single then .ro (strip t)else .any
  |none=>.any
 |.sub r q k lo hi=>match qI E 4 r q with
  |some (_,_,.sl k' xs)=>if k=k'/\lo<=hi/\hi<=xs.length then .ro (.sl k (((vA xs).drop lo).take (hi-lo)))else .any
  |_=>.any
 |.sl k xs=>.ro (strip (.sl k xs))
 |.ptr t=>.ro (strip (.ptr t))
 |.any|.addr _ _|.tup _|.mp _ _=>.any
def zB1(E:Env):List T->List T
 | []=>[]
 |x::xs=>clo E x::zB1 E xs
end
mutual
def sU(E:Env)(rs:List Nat)(s:Nat):T->Bool
 |.agg ts=>zA8 E rs s ts
 |.same r q|.sub r q _ _ _=>match qI E 4 r q with
  |some (r',_,_)=> !rs.contains r'
  |none=>Ww
 |.sl _ _|.ptr _=> !rs.contains s
 |.lit _|.ro _|.any|.addr _ _|.mp _ _=>Ww
 |.tup _=>Wx
def zA8(E:Env)(rs:List Nat)(s:Nat):List T->Bool
 | []=>Ww
 |x::xs=>sU E rs s x&&zA8 E rs s xs
end
theorem zWh{lo hi:Nat}(h:RoC St (.sl k xs) #[v] 0)(h1:lo<=hi)(h2:hi<=xs.length):RoC St (.sl k ((xs.drop lo).take (hi-lo))) #[zBs v k lo hi] 0:=by
 simp only[RoC]at h ⊢
 obtain⟨a',c,g4,g5,g6,g7⟩:=h;have hv:v=.slice a' xs.length c:=by grind
 subst hv;have gm:((xs.drop lo).take (hi-lo)).length=hi-lo:=by simp;omega
 refine⟨if c=lo then a' else a'.map (·.add (lo*k)),c-lo,by grind[zBs],by omega,by omega,?_⟩;intro gf;have eH:xs≠[]:=by grind
 obtain⟨b,o',cs',e',fr,rfl,h3,h4⟩:=g7 eH;have gF:c≠lo:=by grind
 grind[uQ,zGW,zGV]
section
variable {Γ:Ctx}{E:Env}{G Gc:Gh}{a:Act}{w:World}{Sc:Stb}{rs:List Nat}{s i:Nat} (gc:Rep Γ E G a.tmps w) (ew:∀b x,Γ.St b=Wu x->Sc b=Wu x) (ey:∀r,r∉rs-> ∀b,(∃y,G.ow b=Wu (r,y))->Sc b=w.heap[b]?) (gL:∀z,Gc.hd i z=G.hd s z)
 include gc ew ey gL
mutual
theorem zYl:(t:T)-> ∀(p:List Nat),sU E rs s t=Ww->R Γ.St G w s t p->R Sc Gc w i (clo E t) p
 |.agg ts,p,h,hr=>by simp only[sU,clo,R]at h hr ⊢;exact zS3 ts p 0 h hr
 |.tup _,_,h,_=>by grind[sU]
 |.lit v,p,_,hr=>by simp only[clo,R]at hr ⊢;grind
 |.ro u,p,_,hr=>by simp only[clo,R]at hr ⊢;grind[uR]
 |.any,_,_,_|.addr _ _,_,_,_|.mp _ _,_,_,_=>by simp only[clo,R]
 |.sl k xs,p,h,hr=>by
  simp only[sU,Gj,Lx,decide_eq_false_iff_not]at h;have:=zL6 (fun s p=>gc.mem.one s p) ew (ey s h) (.sl k xs) p rfl hr;simp only[clo,R]
  grind
 |.ptr t,p,h,hr=>by
  simp only[sU,Gj,Lx,decide_eq_false_iff_not]at h;have:=zL6 (fun s p=>gc.mem.one s p) ew (ey s h) (.ptr t) p rfl hr;simp only[clo,R]
  grind
 |.same r q,p,h,hr=>by
  simp only[sU,clo,R]at h hr ⊢
  cases hf:qI E 4 r q with
  |none=>simp only[R]
  |some x=>
   obtain⟨r',q',t⟩:=x;simp only[hf,Gj,Lx,decide_eq_false_iff_not]at h;obtain⟨h1,h2,_⟩:=zCT gc 4 r q r' q' t hf;have h3:Gc.hd i p=G.hd r' q':=by grind
   by_cases hs:t.single=Ww
   ·have h4:=zL6 (fun s p=>gc.mem.one s p) ew (ey r' h) t q' hs h1
    cases t with
    |ro u=>simp only[R]at h1 ⊢;grind[uR]
    |lit v=>simp only[R]at h1 ⊢;grind
    |agg _=>grind[T.single]
    |tup _=>grind[T.single]
    |_=>simp only[hs,if_true,R];grind
   ·cases t<;>simp[T.single]at hs<;>simp[T.single,R]
 |.sub r q k lo hi,p,h,hr=>by
  simp only[sU,clo,R]at h hr ⊢
  cases hf:qI E 4 r q with
  |none=>simp only[R]
  |some x=>
   obtain⟨r',q',t⟩:=x;simp only[hf,Gj,Lx,decide_eq_false_iff_not]at h;obtain⟨h1,h2,_⟩:=zCT gc 4 r q r' q' t hf;cases t with
   |sl k' xs=>
    simp only[];split
    ·rename_i hc
     obtain⟨rfl,ct,eE⟩:=hc;have h4:=zL6 (fun s p=>gc.mem.one s p) ew (ey r' h) (.sl k xs) q' rfl h1;simp only[strip]at h4;simp only[R]
     grind[zWh,kQ]
    ·simp only[R]
   |_=>simp only[R]
theorem zS3:(ts:List T)-> ∀(p:List Nat)(j:Nat),zA8 E rs s ts=Ww->RF Γ.St G w s ts p j->RF Sc Gc w i (zB1 E ts) p j
 | [],_,_,_,_=>by have _:=gc;have _:=ew;have _:=ey;have _:=gL;simp only[zB1,RF]
 |x::xs,p,j,h,hr=>by
  simp only[zA8,J4,zB1,RF]at h hr ⊢
  exact⟨zYl x _ h.1 hr.1,zS3 xs p (j+1) h.2 hr.2⟩
end
end
section
variable {E:Env}{G Gc:Gh}{rs:List Nat}{s i:Nat}
theorem zHj(t:T)(h:t.single=Ww):(clo E t).single=Ww:=by cases t<;>simp[T.single]at h<;>simp only[clo]<;>first|rfl|(split<;>first|rfl|(split<;>rfl))
mutual
theorem zS4(gL:∀z,Gc.hd i z=G.hd s z):(t:T)-> ∀(p:List Nat),sU E rs s t=Ww->vals Gc i (clo E t) p=vals G s t p
 |.agg ts,p,h=>by simp only[sU,clo,vals]at h ⊢;exact zFu gL ts p 0 h
 |.tup _,_,h=>by grind[sU]
 |.lit _,p,_|.ro _,p,_|.any,p,_|.addr _ _,p,_|.sl _ _,p,_|.ptr _,p,_|.mp _ _,p,_|.same _ _,p,_|.sub _ _ _ _ _,p,_=>by
  have h1:∀u:T,u.single=Ww->vals Gc i u p=[G.hd s p]:=fun u hu=>by cases u<;>simp[T.single]at hu<;>simp[vals,gL]
  rw[h1 _ (zHj _ rfl)];simp[vals]
theorem zFu(gL:∀z,Gc.hd i z=G.hd s z):(ts:List T)-> ∀(p:List Nat)(j:Nat),zA8 E rs s ts=Ww->yJ Gc i (zB1 E ts) p j=yJ G s ts p j
 | [],_,_,_=>by rfl
 |x::xs,p,j,h=>by simp only[zA8,J4]at h;simp only[zB1,yJ];rw[zS4 gL x _ h.1,zFu gL xs p _ h.2]
end
theorem zKj(gL:∀z,Gc.hd i z=G.hd s z)(t:T)(h:sU E rs s t=Ww):mkV Gc i (clo E t) []=mkV G s t []:=by
 cases t with
 |agg ts=>grind[sU,clo,mkV,zFu]
 |tup _=>grind[sU]
 |_=>rw[xH (zHj _ rfl),xH rfl,gL]
end
end Go.Ab
