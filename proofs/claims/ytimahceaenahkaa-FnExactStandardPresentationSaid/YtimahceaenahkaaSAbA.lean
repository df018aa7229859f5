/- x -/
import Derived.Orders
import Derived.Laws.AppendOwn
import Derived.Laws.MakeOwn
import Derived.MapKept
import Derived.Laws.IdiomRangeMap
import Derived.Great.BuildSlice
import Derived.Laws.Tables
open List renaming replicate→J1,mem_map→J7,append_nil→J9,getElem?_eq_some_iff→Ja,append_assoc→Jb,map_cons→Jc,getElem?_append_right→Jd,length_append→Je,getElem?_map→Jf,mem_cons→Jh,eq_nil_of_length_eq_zero→Ji,length_replicate→Jk,all_eq_true→Jm,length_cons→Jn,nil_append→Jr,getElem?_append→Jv,drop_eq_getElem_cons→Jw,nodup_cons→K0,set_cons_succ→K4,replicate_succ→K5,set_cons_zero→K6,mem_range→K9,cons_append→Ka,take_succ_cons→Kf,reverse_reverse→Kj,mem_of_getElem?→Kk,flatMap_cons→Kz,ext_getElem?→L0,getElem?_append_left→L2,mem_append→Lg,length_take→Lj,length_set→Lq,reverse_nil→H6,getElem?_drop→H7,take_append_drop→H9,reverse_cons→Hl,getElem?_take_of_lt→Hv,cons→G6,map_take→Gk,reverse_append→Gs,take_append→Ue,isEmpty_iff→Ug,getElem?_cons_succ→Um,flatMap_append→Un,size_toArray→Uw,length_nil→Qh
open Bool renaming and_eq_true→J2,false_eq_true→L8,false_and→Ut,true_and→Qg
open Array renaming getElem?_setIfInBounds→J6,getD_eq_getD_getElem?→Jo,length_toList→Jx,getElem?_toList→Jy,getElem?_eq_some_iff→K3,range→Q3,ext'→Q9
open Nat renaming zero_add→J8,le_refl→Jg,mul_le_mul_right→Jp,le_trans→Ke,succ_mul→Kl,mul_le_mul→L6,add_assoc→L7,add_mul→Li,lt_or_ge→Ho,add_zero→Hp,mul_pos→Uq,lt_of_lt_of_le→Uy,add_comm→Q7,mod_eq_of_lt→Qa,min_eq_left→Qd
open Int renaming toNat_natCast→Jj,natCast_mul→L1
open Option renaming isSome_none→Gi,map_none→U8
open Prod renaming mk→Gz
open Option renaming some→df,none→dg
open Bool renaming true→dh,false→di
theorem dj{p:Prop}[h:Decidable p](a:¬p):decide p=false:=decide_eq_false a
theorem dl{p:Prop}[h:Decidable p](a:p):decide p=true:=decide_eq_true a
namespace Go.Ab
open Go
inductive T where
 |any
 |lit (v:Value)
 |ro (t:T)
 |same (r:Nat) (p:List Nat)
 |addr (r:Nat) (p:List Nat)
 |sub (r:Nat) (p:List Nat) (k lo hi:Nat)
 |sl (k:Nat) (xs:List T)
 |agg (xs:List T)
 |ptr (t:T)
 |tup (xs:List T)
 |mp (ks:List Value) (xs:List T)
 deriving Inhabited
abbrev Stb:=Nat→Option Obj
mutual
def T.size:T→Nat
 |.agg xs=>T.sizes xs
 |_=>1
def T.sizes:List T→Nat
 | []=>0
 |x::xs=>x.size+T.sizes xs
end
def zLT:List Value→Bool
 |.bool _::_=>dh
 |_=>di
mutual
def RoC(St:Stb):T→Array Value→Nat→Prop
 |.any,cs,o=> ∃v,cs[o]? =df v∧v.oneCell'=dh
 |.lit v,cs,o=>cs[o]? =df v∧v.oneCell'=dh
 |.ro u,cs,o=> ∃f vs,cs[o]? =df (.func (.func f) #[] vs)∧vs.size+1=u.size∧RoC St u (#[.func (.func f) #[] #[]]++vs) 0
 |.sl k xs,cs,o=> ∃a c,cs[o]? =df (.slice a xs.length c)∧xs.length≤c∧c≤maxLen∧
   (xs≠[]→ ∃b o' cs' e fr,a=df ⟨b,o',dg⟩∧St b=df (.cells cs' e fr)∧RoL St xs cs' o' k)
 |.agg xs,cs,o=>RoF St xs cs o
 |.ptr t,cs,o=> ∃b o' cs' e fr,cs[o]? =df (.pointer (df ⟨b,o',dg⟩))∧St b=df (.cells cs' e fr)∧RoC St t cs' o'
 |.same _ _,_,_=>False
 |.addr _ _,_,_=>False
 |.sub _ _ _ _ _,_,_=>False
 |.tup _,_,_=>False
 |.mp ks xs,cs,o=>(∃v,cs[o]? =df v∧v.oneCell'=dh∧zLT ks=dh)∨ ∃b ms c es,cs[o]? =df (.map (df b))∧St b=df (.map ms c)∧MapKept.Stamped ms c∧es.Perm ms.toList∧RoM St ks xs es
def RoL(St:Stb):List T→Array Value→Nat→Nat→Prop
 | [],_,_,_=>True
 |x::xs,cs,o,k=>RoC St x cs o∧RoL St xs cs (o+k) k
def RoF(St:Stb):List T→Array Value→Nat→Prop
 | [],_,_=>True
 |x::xs,cs,o=>RoC St x cs o∧RoF St xs cs (o+x.size)
def RoM(St:Stb):List Value→List T→List MapEntry→Prop
 |ks,[],es=>ks=[]∧es=[]
 |ks,x::xs,es=> ∃k ks' e es',ks=k::ks'∧es=e::es'∧e.key=k∧RoC St x #[e.val] 0∧RoM St ks' xs es'
end
def _root_.Go.Obj.nocell:Obj→Bool
 |.cells _ _ _=>di
 |_=>dh
def zCp(x:Obj)(b:Nat):Value:=
 match x with
 |.map _ _=>.map (df b)
 |_=>.pointer (df ⟨b,0,dg⟩)
def zCq(St:Stb)(ks:List Value)(xs:List T):Obj→Prop
 |.map ms c=>(zLT ks=di∧MapKept.Stamped ms c)∧ ∃es,es.Perm ms.toList∧RoM St ks xs es
 |.mapIter (df bm) since seen c0=> ∃(ms:Array MapEntry)(c:Nat)(hc:Bool)(ks':List Value)(xs':List T),ks=.bool hc::ks'∧xs=.any::xs'∧St bm=df (.map ms c)∧MapKept.Stamped ms c∧(∀x∈ms.toList,x.born<since)∧(since≤c0∧since≤c)∧
   ∃(cur es:List MapEntry),RoM St ks' xs' (cur++es)∧es.Perm (leftOf ms seen).toList∧if hc=dh then∃e,cur=[e]∧e∈ms.toList∧(∃(seen':Array Nat),seen=seen'.push e.born)∧c0=c else cur=[]
 |_=>False
structure Gh where
 hd:Nat→List Nat→Value
 ad:Nat→List Nat→Addr
 lb:Nat→Nat→Option (Bool×Nat×List Nat)
 ow:Nat→Option (Nat×List Nat)
def zT(w:World)(b o:Nat):Option Value:=w.cell? ⟨b,o,dg⟩
mutual
def Loc(G:Gh)(w:World)(s:Nat):T→List Nat→Nat→Nat→Prop
 |.agg xs,p,b,o=>G.ad s p=⟨b,o,dg⟩∧xS G w s xs p 0 b o
 |.tup _,_,_,_=>False
 |.any,p,b,o|.lit _,p,b,o|.ro _,p,b,o|.same _ _,p,b,o|.addr _ _,p,b,o|.sub _ _ _ _ _,p,b,o|.sl _ _,p,b,o|.ptr _,p,b,o|.mp _ _,p,b,o=>
  G.ad s p=⟨b,o,dg⟩∧G.lb b o=df (di,s,p)∧zT w b o=df (G.hd s p)
def xS(G:Gh)(w:World)(s:Nat):List T→List Nat→Nat→Nat→Nat→Prop
 | [],_,_,_,_=>True
 |x::xs,p,j,b,o=>Loc G w s x (j::p) b o∧xS G w s xs p (j+1) b (o+x.size)
end
def zDV(v:Value)(k lo hi:Nat):Value:=
 match v with
 |.slice a _ c=>.slice (if c=lo then a else a.map (·.add (lo*k))) (hi-lo) (c-lo)
 |v=>v
mutual
def R(St:Stb)(G:Gh)(w:World)(s:Nat):T→List Nat→Prop
 |.any,_=>True
 |.lit v,p=>G.hd s p=v
 |.ro t,p=>RoC St t #[G.hd s p] 0
 |.same r q,p=>G.hd s p=G.hd r q
 |.addr r q,p=>G.hd s p=.pointer (df (G.ad r q))
 |.sub r q k lo hi,p=>G.hd s p=zDV (G.hd r q) k lo hi
 |.sl k xs,p=>(xs=[]∧ ∃a,G.hd s p=.slice a 0 0)∨ ∃b o0 cap cs e,G.hd s p=.slice (df ⟨b,o0,dg⟩) xs.length cap∧
   w.heap[b]? =df (.cells cs e (0,0))∧xs.length≤cap∧cap≤maxLen∧o0+cap*k≤cs.size∧G.ow b=df (s,p)∧
   (∀o,o0+xs.length*k≤o→o<o0+cap*k→G.lb b o=df (dh,s,p))∧RL St G w s xs p 0 b o0 k
 |.agg xs,p=>RF St G w s xs p 0
 |.ptr t,p=> ∃b cs e,G.hd s p=.pointer (df ⟨b,0,dg⟩)∧w.heap[b]? =df (.cells cs e (0,0))∧cs.size=t.size∧G.ow b=df (s,p)∧
   Loc G w s t (0::p) b 0∧R St G w s t (0::p)
 |.tup xs,p=>RF St G w s xs p 0
 |.mp ks xs,p=> ∃(b:Nat)(ms:Obj)(_:ms.nocell=dh),G.hd s p=zCp ms b∧w.heap[b]? =df ms∧G.ow b=df (s,p)∧zCq St ks xs ms
def RL(St:Stb)(G:Gh)(w:World)(s:Nat):List T→List Nat→Nat→Nat→Nat→Nat→Prop
 | [],_,_,_,_,_=>True
 |x::xs,p,i,b,o,k=>(Loc G w s x (i::p) b o∧x.size=k)∧R St G w s x (i::p)∧RL St G w s xs p (i+1) b (o+k) k
def RF(St:Stb)(G:Gh)(w:World)(s:Nat):List T→List Nat→Nat→Prop
 | [],_,_=>True
 |x::xs,p,j=>R St G w s x (j::p)∧RF St G w s xs p (j+1)
end
mutual
def yA(φ:Nat→List Nat→Prop):T→Prop
 |.same r p|.addr r p|.sub r p _ _ _=>φ r p
 |.sl _ xs|.agg xs|.tup xs=>yL φ xs
 |.ptr t=>yA φ t
 |.any|.lit _|.ro _|.mp _ _=>True
def yL(φ:Nat→List Nat→Prop):List T→Prop
 | []=>True
 |x::xs=>yA φ x∧yL φ xs
end
mutual
theorem yA.mono{φ ψ:Nat→List Nat→Prop}(h:∀r p,φ r p→ψ r p):(t:T)→yA φ t→yA ψ t
 |.same _ _,ht|.addr _ _,ht|.sub _ _ _ _ _,ht=>h _ _ ht
 |.sl _ xs,ht|.agg xs,ht|.tup xs,ht=>by simp only[yA]at ht ⊢;exact yL.mono h xs ht
 |.ptr t,ht=>by simp only[yA]at ht ⊢;exact yA.mono h t ht
 |.any,_|.lit _,_|.ro _,_|.mp _ _,_=>by simp[yA]
theorem yL.mono{φ ψ:Nat→List Nat→Prop}(h:∀r p,φ r p→ψ r p):(xs:List T)→yL φ xs→yL ψ xs
 | [],_=>trivial
 |x::xs,hx=>⟨yA.mono h x hx.1,yL.mono h xs hx.2⟩
end
mutual
theorem yA.triv{φ:Nat→List Nat→Prop}(h:∀r p,φ r p):(t:T)→yA φ t
 |.same _ _|.addr _ _|.sub _ _ _ _ _=>by simp only[yA];exact h _ _
 |.sl _ xs|.agg xs|.tup xs=>by simp only[yA];exact yL.triv h xs
 |.ptr t=>by simp only[yA];exact yA.triv h t
 |.any|.lit _|.ro _|.mp _ _=>by simp only[yA]
theorem yL.triv{φ:Nat→List Nat→Prop}(h:∀r p,φ r p):(xs:List T)→yL φ xs
 | []=>by simp only[yL]
 |x::xs=>by simp only[yL];exact⟨yA.triv h x,yL.triv h xs⟩
end
abbrev zK(t:T):Prop:=yA (fun _ _=>False) t
abbrev yE(xs:List T):Prop:=yL (fun _ _=>False) xs
def Blk(w w':World):Prop:=∀(b:Nat) cs e,w.heap[b]? =df (.cells cs e (0,0))→ ∃cs',w'.heap[b]? =df (.cells cs' e (0,0))∧cs'.size=cs.size
structure MovesE (G:Gh) (w:World) (G':Gh) (w':World) (s:Nat) (p:List Nat) (s':Nat) (p':List Nat):Prop where
 hd:∀z,G'.hd s' (z++p')=G.hd s (z++p)
 ad:∀z,z≠[]→G'.ad s' (z++p')=G.ad s (z++p)
 lb:∀b o f z,z≠[]→(∃y,G.ow b=df (s,y))→G.lb b o=df (f,s,z++p)→G'.lb b o=df (f,s',z++p')∧zT w' b o=zT w b o
 ow:∀b z,z≠[]→G.ow b=df (s,z++p)→G'.ow b=df (s',z++p')
 blk:Blk w w'
 mp:∀b z(ms:Obj)(_:ms.nocell=dh),G.ow b=df (s,z++p)→w.heap[b]? =df ms→w'.heap[b]? =df ms
structure zCC (G:Gh) (w:World) (G':Gh) (w':World) (s:Nat) (p:List Nat) (s':Nat) (p':List Nat):Prop extends MovesE G w G' w' s p s' p' where
 sp:∀b o,(∃y,G.ow b=df (s,y))→G.lb b o=df (dh,s,p)→G'.lb b o=df (dh,s',p')∧zT w' b o=zT w b o
 ow0:∀b,G.ow b=df (s,p)→G'.ow b=df (s',p')
def tB(G G':Gh)(r:Nat)(p:List Nat):Prop:=G'.hd r p=G.hd r p∧G'.ad r p=G.ad r p
section
variable {St:Stb}{G:Gh}{w:World}{G':Gh}{w':World}{s:Nat}{p:List Nat}{s':Nat}{p':List Nat}
mutual
theorem zAV(hm:MovesE G w G' w' s p s' p'):(t:T)→ ∀(z:List Nat)(b o:Nat),z≠[]→(∃y,G.ow b=df (s,y))→Loc G w s t (z++p) b o→Loc G' w' s' t (z++p') b o
 |.agg xs,z,b,o,hz,gV,h=>by
  simp only[Loc]at h ⊢
  exact⟨(hm.ad z hz).trans h.1,zDW hm xs z 0 b o gV h.2⟩
 |.any,z,b,o,hz,gV,h|.lit _,z,b,o,hz,gV,h|.ro _,z,b,o,hz,gV,h|.same _ _,z,b,o,hz,gV,h|.addr _ _,z,b,o,hz,gV,h|.sub _ _ _ _ _,z,b,o,hz,gV,h|.sl _ _,z,b,o,hz,gV,h|.ptr _,z,b,o,hz,gV,h|.mp _ _,z,b,o,hz,gV,h=>by
  simp only[Loc]at h ⊢
  obtain⟨h1,h2,h3⟩:=h;have hl:=hm.lb b o di z hz gV h2;exact⟨(hm.ad z hz).trans h1,hl.1,by rw[hl.2,h3,hm.hd]⟩
 |.tup _,_,_,_,_,_,h=>by simp only[Loc]at h
theorem zDW(hm:MovesE G w G' w' s p s' p'):(xs:List T)→ ∀(z:List Nat)(j b o:Nat),(∃y,G.ow b=df (s,y))→xS G w s xs (z++p) j b o→xS G' w' s' xs (z++p') j b o
 | [],_,_,_,_,_,_=>by simp only[xS]
 |x::xs,z,j,b,o,gV,h=>by
  simp only[xS]at h ⊢
  exact⟨zAV hm x (j::z) b o (by simp) gV h.1,zDW hm xs z (j+1) b _ gV h.2⟩
end
mutual
theorem zAW(hm:MovesE G w G' w' s p s' p'):(t:T)→ ∀(z:List Nat),z≠[]→yA (tB G G') t→R St G w s t (z++p)→R St G' w' s' t (z++p')
 |.any,_,_,_,_=>by simp only[R]
 |.lit _,z,_,_,h=>by simp only[R]at h ⊢;rw[hm.hd];exact h
 |.ro _,z,_,_,h=>by simp only[R]at h ⊢;rw[hm.hd];exact h
 |.same r q,z,_,hk,h=>by simp only[R]at h ⊢;rw[hm.hd,hk.1];exact h
 |.addr r q,z,_,hk,h=>by simp only[R]at h ⊢;rw[hm.hd,hk.2];exact h
 |.sub r q k lo hi,z,_,hk,h=>by simp only[R]at h ⊢;rw[hm.hd,hk.1];exact h
 |.agg xs,z,_,hk,h=>by simp only[R,yA]at h hk ⊢;exact zAX hm xs z 0 hk h
 |.tup xs,z,_,hk,h=>by simp only[R,yA]at h hk ⊢;exact zAX hm xs z 0 hk h
 |.sl k xs,z,hz,hk,h=>by
  simp only[R,yA]at h hk ⊢
  rw[hm.hd];rcases h with h|⟨b,o0,cap,cs,e,h1,h2,h3,h4,h5,h6,h7,h8⟩
  ·exact .inl h
  ·obtain⟨cs',fd,gp⟩:=hm.blk b cs e h2
   exact .inr ⟨b,o0,cap,cs',e,h1,fd,h3,h4,by omega,hm.ow b z hz h6,fun o ho fk=>(hm.lb b o dh z hz ⟨_,h6⟩ (h7 o ho (by omega))).1,zEC hm xs z 0 b o0 k ⟨_,h6⟩ hk h8⟩
 |.ptr t,z,hz,hk,h=>by
  simp only[R,yA]at h hk ⊢
  rw[hm.hd];obtain⟨b,cs,e,h1,h2,h3,h6,h4,h5⟩:=h;obtain⟨cs',fd,gp⟩:=hm.blk b cs e h2;exact⟨b,cs',e,h1,fd,by omega,hm.ow b z hz h6,zAV hm t (0::z) b 0 (by simp) ⟨_,h6⟩ h4,zAW hm t (0::z) (by simp) hk h5⟩
 |.mp ks xs,z,hz,_,h=>by
  simp only[R]at h ⊢
  rw[hm.hd];obtain⟨b,ms,c,h1,h2,h3,h4⟩:=h;exact⟨b,ms,c,h1,hm.mp b z ms c h3 h2,hm.ow b z hz h3,h4⟩
theorem zEC(hm:MovesE G w G' w' s p s' p'):(xs:List T)→ ∀(z:List Nat)(i b o k:Nat),(∃y,G.ow b=df (s,y))→yL (tB G G') xs→RL St G w s xs (z++p) i b o k→RL St G' w' s' xs (z++p') i b o k
 | [],_,_,_,_,_,_,_,_=>by simp only[RL]
 |x::xs,z,i,b,o,k,gV,hk,h=>by
  simp only[RL,yL]at h hk ⊢
  exact⟨⟨zAV hm x (i::z) b o (by simp) gV h.1.1,h.1.2⟩,zAW hm x (i::z) (by simp) hk.1 h.2.1,zEC hm xs z (i+1) b _ k gV hk.2 h.2.2⟩
theorem zAX(hm:MovesE G w G' w' s p s' p'):(xs:List T)→ ∀(z:List Nat)(j:Nat),yL (tB G G') xs→RF St G w s xs (z++p) j→RF St G' w' s' xs (z++p') j
 | [],_,_,_,_=>by simp only[RF]
 |x::xs,z,j,hk,h=>by
  simp only[RF,yL]at h hk ⊢
  exact⟨zAW hm x (j::z) (by simp) hk.1 h.1,zAX hm xs z (j+1) hk.2 h.2⟩
end
theorem tE(hm:zCC G w G' w' s p s' p')(t:T)(hk:yA (tB G G') t)(h:R St G w s t p):R St G' w' s' t p':=by
 have hd0:G'.hd s' p'=G.hd s p:=by simpa using hm.hd []
 cases t with
 |any=>simp only[R]
 |lit _=>simp only[R]at h ⊢;rw[hd0];exact h
 |ro _=>simp only[R]at h ⊢;rw[hd0];exact h
 |same r q=>simp only[R]at h ⊢;rw[hd0,hk.1];exact h
 |addr r q=>simp only[R]at h ⊢;rw[hd0,hk.2];exact h
 |sub r q k lo hi=>simp only[R]at h ⊢;rw[hd0,hk.1];exact h
 |agg xs=>simp only[R,yA]at h hk ⊢;simpa using zAX hm.toMovesE xs [] 0 hk (by simpa using h)
 |tup xs=>simp only[R,yA]at h hk ⊢;simpa using zAX hm.toMovesE xs [] 0 hk (by simpa using h)
 |sl k xs=>
  simp only[R,yA]at h hk ⊢
  rw[hd0];rcases h with h|⟨b,o0,cap,cs,e,h1,h2,h3,h4,h5,h6,h7,h8⟩
  ·exact .inl h
  ·obtain⟨cs',fd,gp⟩:=hm.blk b cs e h2
   exact .inr ⟨b,o0,cap,cs',e,h1,fd,h3,h4,by omega,hm.ow0 b h6,fun o ho fk=>(hm.sp b o ⟨_,h6⟩ (h7 o ho (by omega))).1,by simpa using zEC hm.toMovesE xs [] 0 b o0 k ⟨_,h6⟩ hk (by simpa using h8)⟩
 |ptr t=>
  simp only[R,yA]at h hk ⊢
  rw[hd0];obtain⟨b,cs,e,h1,h2,h3,h6,h4,h5⟩:=h;obtain⟨cs',fd,gp⟩:=hm.blk b cs e h2;exact⟨b,cs',e,h1,fd,by omega,hm.ow0 b h6,zAV hm.toMovesE t [0] b 0 (by simp) ⟨_,h6⟩ h4,zAW hm.toMovesE t [0] (by simp) hk h5⟩
 |mp ks xs=>
  simp only[R]at h ⊢
  rw[hd0];obtain⟨b,ms,c,h1,h2,h3,h4⟩:=h;exact⟨b,ms,c,h1,hm.mp b [] ms c (by simpa using h3) h2,hm.ow0 b h3,h4⟩
theorem zJx(hm:zCC G w G' w' s p s' p')(t:T)(z:List Nat)(hk:yA (tB G G') t)(h:R St G w s t (z++p)):R St G' w' s' t (z++p'):=by
 cases z with
 |nil=>exact tE hm t hk h
 |cons i z=>exact zAW hm.toMovesE t (i::z) (by simp) hk h
end
end Go.Ab

namespace Go.Ab
open Go
def T.get:T→List Nat→Option T
 |t,[]=>df t
 |.sl _ xs,i::f|.agg xs,i::f|.tup xs,i::f=>match xs[i]? with
  |some x=>x.get f
  |none=>dg
 |.ptr t,i::f=>if i=0 then t.get f else dg
 |.any,_::_|.lit _,_::_|.ro _,_::_|.same _ _,_::_|.addr _ _,_::_|.sub _ _ _ _ _,_::_|.mp _ _,_::_=>dg
termination_by structural _ f=>f
def T.set:T→List Nat→T→T
 |_,[],u=>u
 |.sl k xs,i::f,u=>match xs[i]? with
  |some x=>.sl k (xs.set i (x.set f u))
  |none=>.sl k xs
 |.agg xs,i::f,u=>match xs[i]? with
  |some x=>.agg (xs.set i (x.set f u))
  |none=>.agg xs
 |.tup xs,i::f,u=>match xs[i]? with
  |some x=>.tup (xs.set i (x.set f u))
  |none=>.tup xs
 |.ptr t,i::f,u=>if i=0 then .ptr (t.set f u)else .ptr t
 |.any,_::_,_=>.any
 |.lit v,_::_,_=>.lit v
 |.ro t,_::_,_=>.ro t
 |.same r q,_::_,_=>.same r q
 |.addr r q,_::_,_=>.addr r q
 |.sub r q k lo hi,_::_,_=>.sub r q k lo hi
 |.mp ks xs,_::_,_=>.mp ks xs
termination_by structural _ f _=>f
def T.locd:T→List Nat→Bool
 |_,[]=>di
 |.sl _ _,_::_|.ptr _,_::_=>dh
 |.agg xs,i::f|.tup xs,i::f=>match xs[i]? with
  |some x=>x.locd f
  |none=>di
 |.any,_::_|.lit _,_::_|.ro _,_::_|.same _ _,_::_|.addr _ _,_::_|.sub _ _ _ _ _,_::_|.mp _ _,_::_=>di
termination_by structural _ f=>f
abbrev rp(f p:List Nat):List Nat:=f.reverse++p
theorem sC(i:Nat)(f p:List Nat):rp (i::f) p=rp f (i::p):=by simp[rp]
section
variable {St:Stb}{G:Gh}{w:World}{s:Nat}
theorem uZ:(xs:List T)→ ∀(p:List Nat)(i0 b o k i:Nat)(x:T),RL St G w s xs p i0 b o k→xs[i]? =df x→
  Loc G w s x ((i0+i)::p) b (o+i*k)∧x.size=k∧R St G w s x ((i0+i)::p)
 | [],_,_,_,_,_,_,_,_,h=>by simp at h
 |y::ys,p,i0,b,o,k,i,x,hr,h=>by
  simp only[RL]at hr;cases i with
  |zero=>
   simp at h;subst h;simpa using⟨hr.1.1,hr.1.2,hr.2.1⟩
  |succ i=>
   have:=uZ ys p (i0+1) b (o+k) k i x hr.2.2 (by simpa using h);rw[show i0+(i+1)=i0+1+i from by omega,show o+(i+1)*k=o+k+i*k from by rw[Kl];omega];exact this
theorem sO:(xs:List T)→ ∀(p:List Nat)(j i:Nat)(x:T),RF St G w s xs p j→xs[i]? =df x→R St G w s x ((j+i)::p)
 | [],_,_,_,_,_,h=>by simp at h
 |y::ys,p,j,i,x,hr,h=>by
  simp only[RF]at hr;cases i with
  |zero=>simp at h;subst h;simpa using hr.1
  |succ i=>
   have:=sO ys p (j+1) i x hr.2 (by simpa using h)
   rwa [show j+(i+1)=j+1+i from by omega]
theorem zFy:(xs:List T)→ ∀(p:List Nat)(j b o i:Nat)(x:T),xS G w s xs p j b o→xs[i]? =df x→
  ∃o',Loc G w s x ((j+i)::p) b o'∧o≤o'∧o'+x.size≤o+T.sizes xs
 | [],_,_,_,_,_,_,_,h=>by simp at h
 |y::ys,p,j,b,o,i,x,hr,h=>by
  simp only[xS]at hr;cases i with
  |zero=>simp at h;subst h;exact⟨o,by simpa using hr.1,by omega,by simp[T.sizes]⟩
  |succ i=>
   obtain⟨o',h1,h2,h3⟩:=zFy ys p (j+1) b (o+y.size) i x hr.2 (by simpa using h);refine⟨o',?_,by omega,by simp only[T.sizes];omega⟩
   rwa [show j+(i+1)=j+1+i from by omega]
def At(G:Gh)(w:World)(s:Nat)(t:T)(p:List Nat):Prop:=
 ∃b o cs e,Loc G w s t p b o∧w.heap[b]? =df (.cells cs e (0,0))∧o+t.size≤cs.size
theorem At.field{xs:List T}{p:List Nat}(h:At G w s (.agg xs) p){i:Nat}{x:T}(hx:xs[i]? =df x):At G w s x (i::p):=by obtain⟨b,o,cs,e,hl,hh,hs⟩:=h;simp only[Loc]at hl;obtain⟨o',h1,h2,h3⟩:=zFy xs p 0 b o i x hl.2 hx;simp only[T.size]at hs;exact⟨b,o',cs,e,by simpa using h1,hh,by omega⟩
theorem zAg{k:Nat}{xs:List T}{p:List Nat}(h:R St G w s (.sl k xs) p){i:Nat}{x:T}(hx:xs[i]? =df x):
  At G w s x (i::p)∧R St G w s x (i::p):=by
 simp only[R]at h;have hi:=(Ja.1 hx).1;rcases h with⟨rfl,_⟩|⟨b,o0,cap,cs,e,h1,h2,h3,h4,h5,h6,h7,h8⟩
 ·simp at hx
 ·obtain⟨a1,a2,a3⟩:=uZ xs p 0 b o0 k i x h8 hx
  simp only[J8]at a1 a3;refine⟨⟨b,o0+i*k,cs,e,a1,h2,?_⟩,a3⟩;rw[a2,L7,←Kl];exact Ke (Nat.add_le_add_left (Jp _ (by omega)) _) h5
theorem sX{t:T}{p:List Nat}(h:R St G w s (.ptr t) p):At G w s t (0::p)∧R St G w s t (0::p):=by simp only[R]at h;obtain⟨b,cs,e,h1,h2,h3,h6,h4,h5⟩:=h;exact⟨⟨b,0,cs,e,h4,h2,by omega⟩,h5⟩
theorem tN:(f:List Nat)→ ∀(t u:T)(p:List Nat),At G w s t p→R St G w s t p→t.get f=df u→At G w s u (rp f p)∧R St G w s u (rp f p)
 | [],t,u,p,ha,h,hg=>by simp[T.get]at hg;subst hg;simpa[rp]using⟨ha,h⟩
 |i::f,t,u,p,ha,h,hg=>by
  rw[sC];cases t with
  |sl k xs=>
   simp only[T.get]at hg;cases hx:xs[i]? with
   |none=>simp[hx]at hg
   |some x=>rw[hx]at hg;exact tN f x u _ (zAg h hx).1 (zAg h hx).2 hg
  |ptr t=>
   simp only[T.get]at hg;split at hg
   ·rename_i hi;subst hi;exact tN f t u _ (sX h).1 (sX h).2 hg
   ·cases hg
  |agg xs=>
   simp only[T.get]at hg;cases hx:xs[i]? with
   |none=>simp[hx]at hg
   |some x=>rw[hx]at hg;exact tN f x u _ (ha.field hx) (by simp only[R]at h;simpa using sO xs p 0 i x h hx) hg
  |tup xs=>obtain⟨b,o,cs,e,hl,_⟩:=ha;simp only[Loc]at hl
  |_=>simp[T.get]at hg
theorem kA:(f:List Nat)→ ∀(t u:T)(p:List Nat),R St G w s t p→t.get f=df u→R St G w s u (rp f p)∧(t.locd f=dh→At G w s u (rp f p))
 | [],t,u,p,h,hg=>by simp[T.get]at hg;subst hg;simpa[rp,T.locd]using h
 |i::f,t,u,p,h,hg=>by
  rw[sC];cases t with
  |sl k xs=>
   simp only[T.get]at hg;cases hx:xs[i]? with
   |none=>simp[hx]at hg
   |some x=>rw[hx]at hg;exact⟨(tN f x u _ (zAg h hx).1 (zAg h hx).2 hg).2,fun _=>(tN f x u _ (zAg h hx).1 (zAg h hx).2 hg).1⟩
  |ptr t=>
   simp only[T.get]at hg;split at hg
   ·rename_i hi;subst hi;exact⟨(tN f t u _ (sX h).1 (sX h).2 hg).2,fun _=>(tN f t u _ (sX h).1 (sX h).2 hg).1⟩
   ·cases hg
  |agg xs=>
   simp only[T.get,T.locd]at hg ⊢
   cases hx:xs[i]? with
   |none=>simp[hx]at hg
   |some x=>rw[hx]at hg;exact kA f x u _ (by simp only[R]at h;simpa using sO xs p 0 i x h hx) hg
  |tup xs=>
   simp only[T.get,T.locd]at hg ⊢
   cases hx:xs[i]? with
   |none=>simp[hx]at hg
   |some x=>rw[hx]at hg;exact kA f x u _ (by simp only[R]at h;simpa using sO xs p 0 i x h hx) hg
  |_=>simp[T.get]at hg
end
structure Upd (G:Gh) (w:World) (G':Gh) (w':World) (s:Nat) (tgt:List Nat):Prop where
 hd:∀p,¬tgt<:+p→G'.hd s p=G.hd s p
 ad:∀p,¬tgt<:+p→G'.ad s p=G.ad s p
 lb:∀b o f p,G.lb b o=df (f,s,p)→ ¬tgt<:+p→G'.lb b o=df (f,s,p)∧zT w' b o=zT w b o
 ow:∀b p,G.ow b=df (s,p)→ ¬tgt<:+p→G'.ow b=df (s,p)
 blk:Blk w w'
 mp:∀b p(ms:Obj)(_:ms.nocell=dh),G.ow b=df (s,p)→ ¬tgt<:+p→w.heap[b]? =df ms→w'.heap[b]? =df ms
section
variable {St:Stb}{G:Gh}{w:World}{G':Gh}{w':World}{s:Nat}{tgt:List Nat}
theorem Upd.moves(h:Upd G w G' w' s tgt){p:List Nat}(hp:∀z,¬tgt<:+z++p):zCC G w G' w' s p s p where
 hd z:=h.hd _ (hp z)
 ad z _:=h.ad _ (hp z)
 lb b o f z _ _ hl:=h.lb b o f _ hl (hp z)
 ow b z _ hl:=h.ow b _ hl (hp z)
 sp b o _ hl:=h.lb b o dh p hl (hp [])
 ow0 b hl:=h.ow b p hl (hp [])
 blk:=h.blk
 mp b z ms c hl hb:=h.mp b _ ms c hl (hp z) hb
mutual
theorem zAY(hm:Upd G w G' w' s tgt):(t:T)→ ∀(p:List Nat)(b o:Nat),(∀z,¬tgt<:+z++p)→Loc G w s t p b o→Loc G' w' s t p b o
 |.agg xs,p,b,o,hz,h=>by
  simp only[Loc]at h ⊢
  exact⟨(hm.ad p (hz [])).trans h.1,zFz hm xs p 0 b o hz h.2⟩
 |.any,p,b,o,hz,h|.lit _,p,b,o,hz,h|.ro _,p,b,o,hz,h|.same _ _,p,b,o,hz,h|.addr _ _,p,b,o,hz,h|.sub _ _ _ _ _,p,b,o,hz,h|.sl _ _,p,b,o,hz,h|.ptr _,p,b,o,hz,h|.mp _ _,p,b,o,hz,h=>by
  simp only[Loc]at h ⊢
  obtain⟨h1,h2,h3⟩:=h;have hl:=hm.lb b o di p h2 (hz []);exact⟨(hm.ad p (hz [])).trans h1,hl.1,by rw[hl.2,h3,hm.hd p (hz [])]⟩
 |.tup _,_,_,_,_,h=>by simp only[Loc]at h
theorem zFz(hm:Upd G w G' w' s tgt):(xs:List T)→ ∀(p:List Nat)(j b o:Nat),(∀z,¬tgt<:+z++p)→xS G w s xs p j b o→xS G' w' s xs p j b o
 | [],_,_,_,_,_,_=>by simp only[xS]
 |x::xs,p,j,b,o,hz,h=>by
  simp only[xS]at h ⊢
  exact⟨zAY hm x (j::p) b o (fun z=>by have:=hz (z++[j]);simpa using this) h.1,zFz hm xs p (j+1) b _ hz h.2⟩
end
theorem zF0(hm:Upd G w G' w' s tgt)(t u:T)(p:List Nat)(b o:Nat)(ht:∀xs,t≠.agg xs)(hu:∀xs,u≠.agg xs)(tk:∀xs,u≠.tup xs)(hz:¬tgt<:+p)(h:Loc G w s t p b o):Loc G' w' s u p b o:=by
 have h3:G.ad s p=⟨b,o,dg⟩∧G.lb b o=df (di,s,p)∧zT w b o=df (G.hd s p):=by
  cases t with
  |agg xs=>exact absurd rfl (ht xs)
  |tup xs=>simp only[Loc]at h
  |_=>simpa only[Loc]using h
 obtain⟨h1,h2,h3⟩:=h3;have hl:=hm.lb b o di p h2 hz;have h4:G'.ad s p=⟨b,o,dg⟩∧G'.lb b o=df (di,s,p)∧zT w' b o=df (G'.hd s p):=⟨(hm.ad p hz).trans h1,hl.1,by rw[hl.2,h3,hm.hd p hz]⟩;cases u with
 |agg xs=>exact absurd rfl (hu xs)
 |tup xs=>exact absurd rfl (tk xs)
 |_=>simpa only[Loc]using h4
theorem uJ{f p:List Nat}{i i':Nat}(hi:i'≠i)(z:List Nat):¬f.reverse++(i::p)<:+z++(i'::p):=by
 rintro⟨y,hy⟩
 rw[←Jb]at hy;have:=List.append_inj_right' hy rfl;simp at this;exact hi this.symm
theorem uO{f p:List Nat}{i:Nat}:¬f.reverse++(i::p)<:+p:=by intro h;have:=h.length_le;simp at this;omega
theorem zDX:(xs:List T)→ ∀(i:Nat)(x y:T),xs[i]? =df x→y.size=x.size→T.sizes (xs.set i y)=T.sizes xs
 | [],_,_,_,h,_=>by simp at h
 |z::zs,i,x,y,h,hs=>by
  cases i with
  |zero=>simp at h;subst h;simp[T.sizes,hs]
  |succ i=>simp only[K4,T.sizes,zDX zs i x y (by simpa using h) hs]
theorem zAZ:(f:List Nat)→ ∀(t u u0:T),t.get f=df u0→u.size=u0.size→(t.set f u).size=t.size
 | [],t,u,u0,h,hs=>by simp[T.get]at h;subst h;simpa[T.set]using hs
 |i::f,t,u,u0,h,hs=>by
  cases t with
  |sl k xs=>simp only[T.get]at h;cases hx:xs[i]? <;>simp[hx,T.set,T.size]at h ⊢
  |tup xs=>simp only[T.get]at h;cases hx:xs[i]? <;>simp[hx,T.set,T.size]at h ⊢
  |agg xs=>
   simp only[T.get]at h;cases hx:xs[i]? with
   |none=>simp[hx]at h
   |some x=>
    rw[hx]at h;simp only[T.set,hx,T.size];exact zDX xs i x _ hx (zAZ f x u u0 h hs)
  |ptr t=>simp only[T.get]at h;split at h<;>simp_all [T.set,T.size]
  |_=>simp[T.get]at h
theorem zF1(hm:Upd G w G' w' s tgt):(xs:List T)→ ∀(p:List Nat)(j b o i:Nat)(x y:T),xS G w s xs p j b o→xs[i]? =df x→y.size=x.size→
  (∀i',i'≠j+i→ ∀z,¬tgt<:+z++(i'::p))→(∀o',Loc G w s x ((j+i)::p) b o'→Loc G' w' s y ((j+i)::p) b o')→xS G' w' s (xs.set i y) p j b o
 | [],_,_,_,_,_,_,_,_,h,_,_,_=>by simp at h
 |z::zs,p,j,b,o,i,x,y,hl,h,hs,hz,hy=>by
  simp only[xS]at hl;cases i with
  |zero=>
   simp at h;subst h;simp only[K6,xS,hs];exact⟨by simpa using hy o (by simpa using hl.1),LocF_upd' hm zs p (j+1) b _ (fun i' eM=>hz i' (by omega)) hl.2⟩
  |succ i=>
   simp only[K4,xS];refine⟨zAY hm z _ b o (hz j (by omega)) hl.1,zF1 hm zs p (j+1) b _ i x y hl.2 (by simpa using h) hs (fun i' eM=>hz i' (by omega)) ?_⟩;rw[show j+1+i=j+(i+1)from by omega];exact hy
where LocF_upd' (hm:Upd G w G' w' s tgt):(xs:List T)→ ∀(p:List Nat)(j b o:Nat),(∀i',j≤i'→ ∀z,¬tgt<:+z++(i'::p))→xS G w s xs p j b o→xS G' w' s xs p j b o
 | [],_,_,_,_,_,_=>by simp only[xS]
 |x::xs,p,j,b,o,hz,h=>by
  simp only[xS]at h ⊢
  exact⟨zAY hm x (j::p) b o (hz j (Jg _)) h.1,LocF_upd' hm xs p (j+1) b _ (fun i' eM=>hz i' (by omega)) h.2⟩
theorem zED:(f:List Nat)→ ∀(t u u0:T)(p:List Nat)(b o:Nat),Upd G w G' w' s (rp f p)→Loc G w s t p b o→t.get f=df u0→u.size=u0.size→
  (∀o',Loc G w s u0 (rp f p) b o'→Loc G' w' s u (rp f p) b o')→Loc G' w' s (t.set f u) p b o
 | [],t,u,u0,p,b,o,hm,hl,hg,hs,hu=>by simp[T.get]at hg;subst hg;simpa[T.set,rp]using hu o (by simpa[rp]using hl)
 |i::f,t,u,u0,p,b,o,hm,hl,hg,hs,hu=>by
  have gF:=hm;rw[sC]at gF;cases t with
  |sl k xs=>
   have:∃ys,(T.sl k xs).set (i::f) u=.sl k ys:=by simp only[T.set];split<;>exact⟨_,rfl⟩
   obtain⟨ys,hy⟩:=this;rw[hy];exact zF0 gF (.sl k xs) (.sl k ys) p b o (by simp) (by simp) (by simp) uO hl
  |ptr t=>
   have:∃ys,(T.ptr t).set (i::f) u=.ptr ys:=by simp only[T.set];split<;>exact⟨_,rfl⟩
   obtain⟨ys,hy⟩:=this;rw[hy];exact zF0 gF (.ptr t) (.ptr ys) p b o (by simp) (by simp) (by simp) uO hl
  |agg xs=>
   simp only[T.get]at hg;cases hx:xs[i]? with
   |none=>simp[hx]at hg
   |some x=>
    rw[hx]at hg;simp only[T.set,hx];simp only[Loc]at hl ⊢
    refine⟨(gF.ad p uO).trans hl.1,zF1 gF xs p 0 b o i x _ hl.2 hx (zAZ f x u u0 hg hs) (fun i' eM z=>uJ (by omega) z) ?_⟩;intro o' cK;simp only[J8]at cK ⊢
    exact zED f x u u0 (i::p) b o' gF cK hg hs (by simpa only[sC]using hu)
  |tup xs=>simp only[Loc]at hl
  |_=>simp[T.get]at hg
end
end Go.Ab

namespace Go.Ab
open Go
section
variable {St:Stb}{G:Gh}{w:World}{G':Gh}{w':World}{s:Nat}{tgt:List Nat}
theorem zHA(hm:Upd G w G' w' s tgt)(t:T)(p:List Nat)(hz:∀z,¬tgt<:+z++p)(hk:yA (tB G G') t)(h:R St G w s t p):R St G' w' s t p:=by simpa using zJx (hm.moves hz) t [] hk (by simpa using h)
theorem zJy(hm:Upd G w G' w' s tgt):(xs:List T)→ ∀(p:List Nat)(i b o k:Nat),(∀i',i≤i'→ ∀z,¬tgt<:+z++(i'::p))→yL (tB G G') xs→RL St G w s xs p i b o k→RL St G' w' s xs p i b o k
 | [],_,_,_,_,_,_,_,_=>by simp only[RL]
 |x::xs,p,i,b,o,k,hz,hk,h=>by
  simp only[RL,yL]at h hk ⊢
  exact⟨⟨zAY hm x (i::p) b o (hz i (Jg _)) h.1.1,h.1.2⟩,zHA hm x (i::p) (hz i (Jg _)) hk.1 h.2.1,
   zJy hm xs p (i+1) b _ k (fun i' eM=>hz i' (by omega)) hk.2 h.2.2⟩
theorem zJz(hm:Upd G w G' w' s tgt):(xs:List T)→ ∀(p:List Nat)(i0 b o k i:Nat)(x y:T),RL St G w s xs p i0 b o k→xs[i]? =df x→y.size=x.size→yL (tB G G') xs→
  (∀i',i'≠i0+i→ ∀z,¬tgt<:+z++(i'::p))→(∀o',Loc G w s x ((i0+i)::p) b o'→Loc G' w' s y ((i0+i)::p) b o')→R St G' w' s y ((i0+i)::p)→
  RL St G' w' s (xs.set i y) p i0 b o k
 | [],_,_,_,_,_,_,_,_,_,h,_,_,_,_,_=>by simp at h
 |z::zs,p,i0,b,o,k,i,x,y,hr,h,hs,hk,hz,hl,hy=>by
  simp only[RL,yL]at hr hk;cases i with
  |zero=>
   simp at h;subst h;simp only[K6,RL];exact⟨⟨by simpa using hl o (by simpa using hr.1.1),by omega⟩,by simpa using hy,zJy hm zs p (i0+1) b _ k (fun i' eM=>hz i' (by omega)) hk.2 hr.2.2⟩
  |succ i=>
   simp only[K4,RL];rw[show i0+(i+1)=i0+1+i from by omega]at hl hy hz;exact⟨⟨zAY hm z _ b o (hz i0 (by omega)) hr.1.1,hr.1.2⟩,zHA hm z _ (hz i0 (by omega)) hk.1 hr.2.1,zJz hm zs p (i0+1) b _ k i x y hr.2.2 (by simpa using h) hs hk.2 hz hl hy⟩
theorem zJ0(hm:Upd G w G' w' s tgt):(xs:List T)→ ∀(p:List Nat)(i:Nat),(∀i',i≤i'→ ∀z,¬tgt<:+z++(i'::p))→yL (tB G G') xs→RF St G w s xs p i→RF St G' w' s xs p i
 | [],_,_,_,_,_=>by simp only[RF]
 |x::xs,p,i,hz,hk,h=>by
  simp only[RF,yL]at h hk ⊢
  exact⟨zHA hm x (i::p) (hz i (Jg _)) hk.1 h.1,zJ0 hm xs p (i+1) (fun i' eM=>hz i' (by omega)) hk.2 h.2⟩
theorem zGJ(hm:Upd G w G' w' s tgt):(xs:List T)→ ∀(p:List Nat)(i0 i:Nat)(x y:T),RF St G w s xs p i0→xs[i]? =df x→yL (tB G G') xs→
  (∀i',i'≠i0+i→ ∀z,¬tgt<:+z++(i'::p))→R St G' w' s y ((i0+i)::p)→
  RF St G' w' s (xs.set i y) p i0
 | [],_,_,_,_,_,_,h,_,_,_=>by simp at h
 |z::zs,p,i0,i,x,y,hr,h,hk,hz,hy=>by
  simp only[RF,yL]at hr hk;cases i with
  |zero=>
   simp at h;subst h;simp only[K6,RF];exact⟨by simpa using hy,zJ0 hm zs p (i0+1) (fun i' eM=>hz i' (by omega)) hk.2 hr.2⟩
  |succ i=>
   simp only[K4,RF];rw[show i0+(i+1)=i0+1+i from by omega]at hy hz;exact⟨zHA hm z _ (hz i0 (by omega)) hk.1 hr.1,zGJ hm zs p (i0+1) i x y hr.2 (by simpa using h) hk.2 hz hy⟩
theorem xY{φ:Nat→List Nat→Prop}:(xs:List T)→yL φ xs→ ∀(i:Nat)(x:T),xs[i]? =df x→yA φ x
 | [],_,_,_,h=>by simp at h
 |y::ys,hk,i,x,h=>by
  simp only[yL]at hk;cases i with
  |zero=>simp at h;subst h;exact hk.1
  |succ i=>exact xY ys hk.2 i x (by simpa using h)
theorem zCD:(f:List Nat)→ ∀(t u u0:T)(p:List Nat),Upd G w G' w' s (rp f p)→R St G w s t p→t.get f=df u0→u.size=u0.size→yA (tB G G') t→
  (∀b o,Loc G w s u0 (rp f p) b o→Loc G' w' s u (rp f p) b o)→R St G' w' s u (rp f p)→R St G' w' s (t.set f u) p
 | [],t,u,u0,p,hm,hr,hg,hs,hk,hl,hu=>by simpa[T.set,rp]using hu
 |i::f,t,u,u0,p,hm,hr,hg,hs,hk,hl,hu=>by
  have gF:=hm;rw[sC]at gF hl hu;cases t with
  |sl k xs=>
   simp only[T.get]at hg;cases hx:xs[i]? with
   |none=>simp[hx]at hg
   |some x=>
    rw[hx]at hg;simp only[T.set,hx];simp only[R,yA]at hr hk ⊢
    rcases hr with⟨rfl,_⟩|⟨b,o0,cap,cs,e,h1,h2,h3,h4,h5,h6,h7,h8⟩
    ·simp at hx
    ·obtain⟨cs',fd,gp⟩:=gF.blk b cs e h2
     refine .inr ⟨b,o0,cap,cs',e,by rw[gF.hd p uO,Lq];exact h1,fd,by rw[Lq];exact h3,h4,by omega,gF.ow b p h6 uO,?_,?_⟩
     ·intro o ho fk
      rw[Lq]at ho;exact(gF.lb b o dh p (h7 o ho (by omega)) uO).1
     ·have mu:=uZ xs p 0 b o0 k i x h8 hx
      simp only[J8]at mu;refine zJz gF xs p 0 b o0 k i x _ h8 hx (zAZ f x u u0 hg hs) hk (fun i' eM z=>uJ (by omega) z) ?_ ?_
      ·intro o' cK
       simp only[J8]at cK ⊢
       exact zED f x u u0 (i::p) b o' gF cK hg hs (fun o''=>hl b o'')
      ·simp only[J8]
       exact zCD f x u u0 (i::p) gF mu.2.2 hg hs (xY xs hk i x hx) hl hu
  |ptr t=>
   simp only[T.get]at hg;split at hg
   ·rename_i hi;subst hi
    simp only[T.set,if_true];simp only[R,yA]at hr hk ⊢
    obtain⟨b,cs,e,h1,h2,h3,h6,h4,h5⟩:=hr;obtain⟨cs',fd,gp⟩:=gF.blk b cs e h2;refine⟨b,cs',e,by rw[gF.hd p uO];exact h1,fd,by rw[zAZ f t u u0 hg hs];omega,gF.ow b p h6 uO,zED f t u u0 (0::p) b 0 gF h4 hg hs (fun o''=>hl b o''),zCD f t u u0 (0::p) gF h5 hg hs hk hl hu⟩
   ·cases hg
  |agg xs=>
   simp only[T.get]at hg;cases hx:xs[i]? with
   |none=>simp[hx]at hg
   |some x=>
    rw[hx]at hg;simp only[T.set,hx];simp only[R,yA]at hr hk ⊢
    refine zGJ gF xs p 0 i x _ hr hx hk (fun i' eM z=>uJ (by omega) z) ?_;simp only[J8];exact zCD f x u u0 (i::p) gF (by simpa using sO xs p 0 i x hr hx) hg hs (xY xs hk i x hx) hl hu
  |tup xs=>
   simp only[T.get]at hg;cases hx:xs[i]? with
   |none=>simp[hx]at hg
   |some x=>
    rw[hx]at hg;simp only[T.set,hx];simp only[R,yA]at hr hk ⊢
    refine zGJ gF xs p 0 i x _ hr hx hk (fun i' eM z=>uJ (by omega) z) ?_;simp only[J8];exact zCD f x u u0 (i::p) gF (by simpa using sO xs p 0 i x hr hx) hg hs (xY xs hk i x hx) hl hu
  |_=>simp[T.get]at hg
end
end Go.Ab

namespace Go.Ab
open Go
mutual
def vals(G:Gh)(s:Nat):T→List Nat→List Value
 |.agg xs,p=>zJ G s xs p 0
 |.any,p|.lit _,p|.ro _,p|.same _ _,p|.addr _ _,p|.sub _ _ _ _ _,p|.sl _ _,p|.ptr _,p|.tup _,p|.mp _ _,p=>[G.hd s p]
def zJ(G:Gh)(s:Nat):List T→List Nat→Nat→List Value
 | [],_,_=>[]
 |x::xs,p,j=>vals G s x (j::p)++zJ G s xs p (j+1)
end
def wR(G:Gh)(s:Nat)(t:T)(p:List Nat):Value:=
 match t with
 |.agg xs=>.agg (zJ G s xs p 0).toArray
 |_=>G.hd s p
def vW(G:Gh)(s:Nat):List T→List Nat→Nat→List Value
 | [],_,_=>[]
 |x::xs,p,j=>wR G s x (j::p)::vW G s xs p (j+1)
def mkV(G:Gh)(s:Nat)(t:T)(p:List Nat):Value:=
 match t with
 |.agg xs=>.agg (zJ G s xs p 0).toArray
 |.tup xs=>.tuple (vW G s xs p 0).toArray
 |_=>G.hd s p
mutual
def Top:T→Prop
 |.sl _ xs=>yE xs
 |.ptr t=>zK t
 |.agg xs|.tup xs=>xV xs
 |.any|.lit _|.ro _|.same _ _|.addr _ _|.sub _ _ _ _ _|.mp _ _=>True
def xV:List T→Prop
 | []=>True
 |x::xs=>Top x∧xV xs
end
mutual
theorem Top.of_clean:(t:T)→zK t→Top t
 |.sl _ xs,h=>by simpa only[Top,zK,yA]using h
 |.ptr t,h=>by simpa only[Top,zK,yA]using h
 |.agg xs,h|.tup xs,h=>by simp only[Top];exact xV.of_clean xs (by simpa only[zK,yA]using h)
 |.any,_|.lit _,_|.ro _,_|.same _ _,_|.addr _ _,_|.sub _ _ _ _ _,_|.mp _ _,_=>by simp only[Top]
theorem xV.of_clean:(xs:List T)→yE xs→xV xs
 | [],_=>by simp only[xV]
 |x::xs,h=>by simp only[xV];exact⟨Top.of_clean x h.1,xV.of_clean xs h.2⟩
end
abbrev Chg:=List (Nat×Nat)
def Off(chg:Chg)(s:Nat)(p:List Nat):Prop:=∀n,(s,n)∈chg→p.length<n
def zCE(chg:Chg)(r:Nat)(p:List Nat):Bool:=chg.all fun c=>c.1 != r||decide (p.length<c.2)
theorem zI9{chg:Chg}{r:Nat}{p:List Nat}(h:zCE chg r p=dh):Off chg r p:=by
 intro n hn;have:=Jm.1 h _ hn
 grind
mutual
def T.okB(chg:Chg):T→Bool
 |.same r p|.addr r p|.sub r p _ _ _=>zCE chg r p
 |.agg xs|.tup xs=>zF2 chg xs
 |.any|.lit _|.ro _|.sl _ _|.ptr _|.mp _ _=>dh
def zF2(chg:Chg):List T→Bool
 | []=>dh
 |x::xs=>x.okB chg&&zF2 chg xs
end
mutual
theorem sD{chg:Chg}:(t:T)→Top t→t.okB chg=dh→yA (Off chg) t
 |.same r p,_,h|.addr r p,_,h|.sub r p _ _ _,_,h=>by simp only[T.okB]at h;simp only[yA];exact zI9 h
 |.agg xs,ht,h|.tup xs,ht,h=>by simp only[T.okB,Top]at h ht;simp only[yA];exact zCF xs ht h
 |.sl _ xs,ht,_=>by simp only[Top]at ht;simp only[yA];grind[yL.mono]
 |.ptr t,ht,_=>by simp only[Top]at ht;simp only[yA];grind[yA.mono]
 |.any,_,_|.lit _,_,_|.ro _,_,_|.mp _ _,_,_=>by simp only[yA]
theorem zCF{chg:Chg}:(xs:List T)→xV xs→zF2 chg xs=dh→yL (Off chg) xs
 | [],_,_=>by simp only[yL]
 |x::xs,ht,h=>by simp only[zF2,xV,J2]at h ht;simp only[yL];exact⟨sD x ht.1 h.1,zCF xs ht.2 h.2⟩
end
abbrev Env:=Nat→Option T
abbrev Wr:=List (Nat×Option T)
def Wr.find(wr:Wr)(s:Nat):Option (Option T):=
 match wr with
 | []=>dg
 |(k,x)::r=>if k=s then df x else Wr.find r s
def Env.app(E:Env)(wr:Wr)(chg:Chg):Env:=fun s=>
 match wr.find s with
 |some x=>x
 |none=>match E s with
  |some t=>if t.okB chg then df t else dg
  |none=>dg
structure Ctx where
 St:Stb
 W:Nat→Prop
 w0:World
 N:Nat
def sE(Γ:Ctx)(w:World)(b:Nat):Prop:=b<w.heap.size∧(Γ.w0.heap.size≤b∨Γ.W b)∧Γ.St b=dg
structure zLU (w w':World):Prop where
 blk:Blk w w'
 os:w'.os=w.os
 out:w'.output=w.output
structure Mem (Γ:Ctx) (G:Gh) (w:World):Prop where
 one:∀s p,(G.hd s p).oneCell'=dh
 lb:∀b o l,G.lb b o=df l→sE Γ w b
 ow:∀b l,G.ow b=df l→sE Γ w b
 st:∀b x,Γ.St b=df x→w.heap[b]? =df x
 fr:∀b,b<Γ.w0.heap.size→ ¬Γ.W b→w.heap[b]? =Γ.w0.heap[b]?
 sz:Γ.w0.heap.size≤w.heap.size
 bk:zLU Γ.w0 w
theorem Blk.trans{w w' w'':World}(h:Blk w w')(h':Blk w' w''):Blk w w'':=fun b cs e hb=>by
 obtain⟨cs',h1,h2⟩:=h b cs e hb;obtain⟨cs'',h3,h4⟩:=h' b cs' e h1
 grind
theorem zLU.trans{w w' w'':World}(h:zLU w w')(h':Blk w' w'')(ho:w''.os=w'.os)(hq:w''.output=w'.output):zLU w w'':=⟨h.blk.trans h',ho.trans h.os,hq.trans h.out⟩
def Ent(Γ:Ctx)(G:Gh)(w:World)(v:Option Value)(s:Nat)(t:T):Prop:=v=df (mkV G s t [])∧R Γ.St G w s t []∧Top t
structure Rep (Γ:Ctx) (E:Env) (G:Gh) (tmps:Array Value) (w:World):Prop where
 size:tmps.size=Γ.N
 ent:∀s t,E s=df t→Ent Γ G w tmps[s]? s t
 mem:Mem Γ G w
def Sim(Γ:Ctx)(E:Env)(a:Act)(w:World):Prop:=a.defers=[]∧ ∃G,Rep Γ E G a.tmps w
structure zBa (S S':Stb) (W:Nat→Prop) (n:Nat):Prop where
 le:∀b x,S b=df x→S' b=df x
 nw:∀b,S b=dg→S' b≠dg→n≤b∨W b
theorem zBa.refl{S:Stb}{W:Nat→Prop}{n:Nat}:zBa S S W n:=⟨fun _ _ h=>h,by grind⟩
theorem zBa.trans{S S' S'':Stb}{W:Nat→Prop}{n:Nat}(h:zBa S S' W n)(h':zBa S' S'' W n):zBa S S'' W n:=
 ⟨fun b x hb=>h'.le b x (h.le b x hb),fun b hb eB=>by
  cases hs:S' b with
  |none=>exact h'.nw b hs eB
  |some x=>exact h.nw b hb (by grind)⟩
abbrev Ctx.at(Γ:Ctx)(S:Stb):Ctx:={ Γ with St:=S }
def uB(Γ:Ctx)(E:Env)(a:Act)(w:World):Prop:=∃S,zBa Γ.St S Γ.W Γ.w0.heap.size∧Sim (Γ.at S) E a w
theorem uB.of{Γ:Ctx}{E:Env}{a:Act}{w:World}(h:Sim Γ E a w):uB Γ E a w:=⟨Γ.St,.refl,h⟩
theorem uB.up{Γ:Ctx}{E:Env}{a:Act}{w:World}{S:Stb}(hS:zBa Γ.St S Γ.W Γ.w0.heap.size)(h:uB (Γ.at S) E a w):uB Γ E a w:=by obtain⟨S',h1,h2⟩:=h;exact⟨S',hS.trans h1,h2⟩
structure uK (chg:Chg) (G:Gh) (w:World) (G':Gh) (w':World):Prop where
 hd:∀s p,Off chg s p→G'.hd s p=G.hd s p
 ad:∀s p,Off chg s p→G'.ad s p=G.ad s p
 lb:∀b o f s p,(∃y,G.ow b=df (s,y))→G.lb b o=df (f,s,p)→(∀n,(s,n)∉chg)→G'.lb b o=df (f,s,p)∧zT w' b o=zT w b o
 ow:∀b s p,G.ow b=df (s,p)→(∀n,(s,n)∉chg)→G'.ow b=df (s,p)
 blk:Blk w w'
 mp:∀b s p(ms:Obj)(_:ms.nocell=dh),G.ow b=df (s,p)→(∀n,(s,n)∉chg)→w.heap[b]? =df ms→w'.heap[b]? =df ms
theorem Off.of_not{chg:Chg}{s:Nat}(h:∀n,(s,n)∉chg)(p:List Nat):Off chg s p:=fun n hn=>absurd hn (h n)
section
variable {Γ:Ctx}{G G':Gh}{w w':World}{s:Nat}{chg:Chg}
mutual
theorem sF{s':Nat}:(t:T)→ ∀(p p':List Nat),(∀z,G'.hd s' (z++p')=G.hd s (z++p))→vals G' s' t p'=vals G s t p
 |.agg xs,p,p',h=>by simp only[vals];exact zBb xs p p' 0 h
 |.any,p,p',h|.lit _,p,p',h|.ro _,p,p',h|.same _ _,p,p',h|.addr _ _,p,p',h|.sub _ _ _ _ _,p,p',h|.sl _ _,p,p',h|.ptr _,p,p',h|.tup _,p,p',h|.mp _ _,p,p',h=>by simp only[vals];rw[show G'.hd s' p'=G.hd s p from by simpa using h []]
theorem zBb{s':Nat}:(xs:List T)→ ∀(p p':List Nat)(j:Nat),(∀z,G'.hd s' (z++p')=G.hd s (z++p))→zJ G' s' xs p' j=zJ G s xs p j
 | [],_,_,_,_=>by rfl
 |x::xs,p,p',j,h=>by simp only[zJ];rw[sF x (j::p) (j::p') (fun z=>by have:=h (z++[j]);grind),zBb xs p p' (j+1) h]
end
theorem qQ{s':Nat}(t:T)(p p':List Nat)(h:∀z,G'.hd s' (z++p')=G.hd s (z++p)):wR G' s' t p'=wR G s t p:=by
 unfold wR;split
 ·grind[zBb]
 ·simpa using h []
theorem zHB{s':Nat}:(xs:List T)→ ∀(p p':List Nat)(j:Nat),(∀z,G'.hd s' (z++p')=G.hd s (z++p))→vW G' s' xs p' j=vW G s xs p j
 | [],_,_,_,_=>by rfl
 |x::xs,p,p',j,h=>by simp only[vW];rw[qQ x (j::p) (j::p') (fun z=>by have:=h (z++[j]);simpa using this),zHB xs p p' (j+1) h]
theorem zCG{s':Nat}(t:T)(p p':List Nat)(h:∀z,G'.hd s' (z++p')=G.hd s (z++p)):mkV G' s' t p'=mkV G s t p:=by
 unfold mkV;split
 ·grind[zBb]
 ·grind[zHB]
 ·simpa using h []
theorem uK.moves(hk:uK chg G w G' w')(hs:∀n,(s,n)∉chg)(p:List Nat):zCC G w G' w' s p s p where
 hd _:=hk.hd _ _ (.of_not hs _)
 ad _ _:=hk.ad _ _ (.of_not hs _)
 lb b o f _ _ gV hl:=hk.lb b o f s _ gV hl hs
 ow b _ _ hl:=hk.ow b s _ hl hs
 sp b o gV hl:=hk.lb b o dh s _ gV hl hs
 ow0 b hl:=hk.ow b s _ hl hs
 blk:=hk.blk
 mp b _ ms c hl hb:=hk.mp b s _ ms c hl hs hb
theorem uK.keepR(hk:uK chg G w G' w'){t:T}(h:yA (Off chg) t):yA (tB G G') t:=
 yA.mono (fun r p hr=>⟨hk.hd r p hr,hk.ad r p hr⟩) t h
theorem Ent.keep(hk:uK chg G w G' w')(hs:∀n,(s,n)∉chg){v:Option Value}{t:T}(ht:t.okB chg=dh)(h:Ent Γ G w v s t):Ent Γ G' w' v s t:=by
 obtain⟨h1,h2,h3⟩:=h;refine⟨?_,?_,h3⟩
 ·rw[h1,zCG t [] [] (fun z=>hk.hd _ _ (.of_not hs _))]
 ·simpa using zJx (hk.moves hs []) t [] (hk.keepR (sD t h3 ht)) (by grind)
end
theorem wB{Γ:Ctx}{E:Env}{G G':Gh}{tmps tmps':Array Value}{w w':World}{wr:Wr}{chg:Chg}(h:Rep Γ E G tmps w)
  (gE:tmps'.size=tmps.size)(hk:uK chg G w G' w')(gr:Mem Γ G' w')
  (gj:∀s,wr.find s=dg→(∀n,(s,n)∉chg)∧tmps'[s]? =tmps[s]?)
  (gI:∀s t,wr.find s=df (df t)→Ent Γ G' w' tmps'[s]? s t):Rep Γ (E.app wr chg) G' tmps' w' where
 size:=by rw[gE,h.size]
 mem:=gr
 ent s t hs:=by
  unfold Env.app at hs;cases hf:wr.find s with
  |some x=>
   grind
  |none=>
   rw[hf]at hs;simp at hs;cases he:E s with
   |none=>grind
   |some u=>
    simp[he]at hs;obtain⟨gC,rfl⟩:=hs;rw[(gj s hf).2];exact Ent.keep hk (gj s hf).1 gC (h.ent s u he)
end Go.Ab

namespace Go.Ab
open Go
mutual
def cpT(s:Nat):T→List Nat→T
 |.lit v,_=>.lit v
 |.ro t,_=>.ro t
 |.same r q,_=>.same r q
 |.addr r q,_=>.addr r q
 |.sub r q k lo hi,_=>.sub r q k lo hi
 |.agg xs,p=>.agg (cpF s xs p 0)
 |.any,p|.sl _ _,p|.ptr _,p|.mp _ _,p|.tup _,p=>.same s p
def cpF(s:Nat):List T→List Nat→Nat→List T
 | [],_,_=>[]
 |x::xs,p,j=>cpT s x (j::p)::cpF s xs p (j+1)
end
mutual
theorem vR(s:Nat):(t:T)→ ∀p,Top (cpT s t p)
 |.agg xs,p=>by simp only[cpT,Top];exact zHC s xs p 0
 |.lit _,_|.ro _,_|.same _ _,_|.addr _ _,_|.sub _ _ _ _ _,_|.any,_|.sl _ _,_|.ptr _,_|.mp _ _,_|.tup _,_=>by simp only[cpT,Top]
theorem zHC(s:Nat):(xs:List T)→ ∀p j,xV (cpF s xs p j)
 | [],_,_=>by simp only[cpF,xV]
 |x::xs,p,j=>by simp only[cpF,xV];exact⟨vR s x _,zHC s xs p _⟩
end
section
variable {St:Stb}{G G':Gh}{w w':World}{s d:Nat}
mutual
theorem zA7(hs:∀p,G'.hd s p=G.hd s p):(t:T)→ ∀(p p':List Nat),(∀z,G'.hd d (z++p')=G.hd s (z++p))→(∀xs,t≠.tup xs)→yA (tB G G') (cpT s t p)→R St G w s t p→R St G' w' d (cpT s t p) p'
 |.lit _,p,p',hd,_,_,h=>by simp only[cpT,R]at h ⊢;rw[show G'.hd d p'=_ from by simpa using hd []];exact h
 |.ro _,p,p',hd,_,_,h=>by simp only[cpT,R]at h ⊢;rw[show G'.hd d p'=_ from by simpa using hd []];exact h
 |.same r q,p,p',hd,_,hk,h=>by simp only[cpT,R,yA]at h hk ⊢;rw[show G'.hd d p'=_ from by simpa using hd [],hk.1];exact h
 |.addr r q,p,p',hd,_,hk,h=>by simp only[cpT,R,yA]at h hk ⊢;rw[show G'.hd d p'=_ from by simpa using hd [],hk.2];exact h
 |.sub r q k lo hi,p,p',hd,_,hk,h=>by simp only[cpT,R,yA]at h hk ⊢;rw[show G'.hd d p'=_ from by simpa using hd [],hk.1];exact h
 |.any,p,p',hd,_,_,_|.sl _ _,p,p',hd,_,_,_|.ptr _,p,p',hd,_,_,_|.mp _ _,p,p',hd,_,_,_=>by simp only[cpT,R];rw[show G'.hd d p'=_ from by simpa using hd [],hs]
 |.tup xs,_,_,_,h,_,_=>absurd rfl (h xs)
 |.agg xs,p,p',hd,_,hk,h=>by simp only[cpT,R,yA]at h hk ⊢;exact zEE hs xs p p' 0 hd hk h
theorem zEE(hs:∀p,G'.hd s p=G.hd s p):(xs:List T)→ ∀(p p':List Nat)(j:Nat),(∀z,G'.hd d (z++p')=G.hd s (z++p))→yL (tB G G') (cpF s xs p j)→RF St G w s xs p j→RF St G' w' d (cpF s xs p j) p' j
 | [],_,_,_,_,_,_=>by simp only[cpF,RF]
 |x::xs,p,p',j,hd,hk,h=>by
  simp only[cpF,RF,yL]at h hk ⊢
  refine⟨?_,zEE hs xs p p' (j+1) hd hk.2 h.2⟩
  by_cases hx:∃ys,x=.tup ys
  ·obtain⟨ys,rfl⟩:=hx
   simp only[cpT,R];rw[show G'.hd d (j::p')=_ from by simpa using hd [j],hs]
  ·exact zA7 hs x (j::p) (j::p') (fun z=>by have:=hd (z++[j]);simpa using this) (fun ys e=>hx ⟨ys,e⟩) hk.1 h.1
end
mutual
theorem zIA:(t:T)→ ∀(p p':List Nat),(∀z,G'.hd d (z++p')=G.hd s (z++p))→vals G' d (cpT s t p) p'=vals G s t p
 |.agg xs,p,p',h=>by simp only[cpT,vals];exact zA8 xs p p' 0 h
 |.any,p,p',h|.lit _,p,p',h|.ro _,p,p',h|.same _ _,p,p',h|.addr _ _,p,p',h|.sub _ _ _ _ _,p,p',h|.sl _ _,p,p',h|.ptr _,p,p',h|.mp _ _,p,p',h|.tup _,p,p',h=>by simp only[cpT,vals];rw[show G'.hd d p'=G.hd s p from by simpa using h []]
theorem zA8:(xs:List T)→ ∀(p p':List Nat)(j:Nat),(∀z,G'.hd d (z++p')=G.hd s (z++p))→zJ G' d (cpF s xs p j) p' j=zJ G s xs p j
 | [],_,_,_,_=>by rfl
 |x::xs,p,p',j,h=>by simp only[cpF,zJ];rw[zIA x (j::p) (j::p') (fun z=>by have:=h (z++[j]);grind),zA8 xs p p' (j+1) h]
end
theorem tO(t:T)(p p':List Nat)(ht:∀xs,t≠.tup xs)(h:∀z,G'.hd d (z++p')=G.hd s (z++p)):mkV G' d (cpT s t p) p'=wR G s t p:=by
 cases t with
 |agg xs=>grind[cpT,mkV,wR,zA8]
 |tup xs=>grind
 |_=>simpa[cpT,mkV,wR]using h []
end
theorem uR(G:Gh)(s:Nat)(t:T)(p:List Nat)(ht:∀xs,t≠.tup xs):mkV G s t p=wR G s t p:=by
 cases t with
 |tup xs=>grind
 |_=>rfl
def Gh.put(G:Gh)(d:Nat)(f:List Nat→Value):Gh:={ G with hd:=fun s z=>if s=d then f z else G.hd s z }
theorem Gh.put_other(G:Gh){d s:Nat}(f:List Nat→Value)(p:List Nat)(h:s≠d):(G.put d f).hd s p=G.hd s p:=by simp[Gh.put,h]
theorem Gh.put_self(G:Gh)(d:Nat)(f:List Nat→Value)(p:List Nat):(G.put d f).hd d p=f p:=by simp[Gh.put]
theorem zJ1{d s:Nat}{p:List Nat}(h:Off [(d,0)] s p):s≠d:=by
 rintro rfl
 exact absurd (h 0 (by simp)) (by simp)
theorem Gh.put_keep(G:Gh){w w':World}(hw:w'.heap=w.heap)(d:Nat)(f:List Nat→Value):uK [(d,0)] G w (G.put d f) w' where
 hd s p h:=G.put_other f p (zJ1 h)
 ad _ _ _:=rfl
 lb b o f' s p _ h _:=⟨h,by grind[zT,World.cell?]⟩
 ow b s p h _:=h
 blk b cs e h:=by grind
 mp b s p ms c _ _ h:=by grind
theorem Mem.put{Γ:Ctx}{G:Gh}{w w':World}(h:Mem Γ G w)(hw:w'.heap=w.heap)(d:Nat)(f:List Nat→Value)(hf:∀z,(f z).oneCell'=dh)(ho:w'.os=w.os:=by rfl)(hq:w'.output=w.output:=by rfl):Mem Γ (G.put d f) w' where
 one s p:=by unfold Gh.put;dsimp only;split;exact hf p;exact h.one s p
 lb b o l hl:=by have:=h.lb b o l hl;exact⟨by rw[hw];exact this.1,this.2⟩
 ow b l hl:=by have:=h.ow b l hl;exact⟨by rw[hw];exact this.1,this.2⟩
 st b x hx:=by rw[hw];exact h.st b x hx
 fr b h1 h2:=by rw[hw];exact h.fr b h1 h2
 sz:=by rw[hw];exact h.sz
 bk:=h.bk.trans (fun b cs e hb=>by grind) ho hq
theorem uS(d:Nat)(x:Option T)(s:Nat):Wr.find [(d,x)] s=if d=s then df x else dg:=by rfl
theorem yZ{Γ:Ctx}{E:Env}{G:Gh}{tmps:Array Value}{w w':World}(h:Rep Γ E G tmps w)(hw:w'.heap=w.heap){d:Nat}(hd:d<Γ.N)
  (f:List Nat→Value)(hf:∀z,(f z).oneCell'=dh)(t:T)(v:Value)(hv:v=mkV (G.put d f) d t [])(hr:R Γ.St (G.put d f) w' d t [])(ht:Top t)(ho:w'.os=w.os:=by rfl)(hq:w'.output=w.output:=by rfl):
  Rep Γ (E.app [(d,df t)] [(d,0)]) (G.put d f) (tmps.setIfInBounds d v) w':=by
 refine wB h (by simp) (G.put_keep hw d f) (h.mem.put hw d f hf ho hq) ?_ ?_
 ·grind[uS]
 ·intro s t' hs
  rw[uS]at hs;split at hs
  ·rename_i he
   subst he;simp at hs;subst hs;refine⟨?_,hr,ht⟩;rw[J6];simp[h.size,hd,hv]
  ·cases hs
def yN(P:Program)(Γ:Ctx)(o:Oper)(E E':Env):Prop:=
 ∀(a:Act)(w:World)(K:Act→World→Prop)(Q:Exit→Act→World→Prop),Sim Γ E a w→(∀a' w',uB Γ E' a' w'→K a' w')→o.wp P a w K Q
def opT(E:Env):Operand→Option T
 |.tmp s=>E s
 |.const v=>if v.oneCell' then df (.lit v)else dg
 |.func f=>df (.lit (.func (.func f) #[] #[]))
 |.global _=>dg
def wP(x:Operand)(t:T):T:=match x with
 |.tmp s=>cpT s t []
 |_=>t
section
variable {P:Program}{Γ:Ctx}{E E':Env}{o:Oper}{d:Nat}
theorem xH{a:Act}{s:Nat}{v:Value}(h:a.tmps[s]? =df v):a.eval (.tmp s)=v:=by simp[Act.eval,Jo,h]
theorem yN.value(ho:o.dst=df d)
  (h:∀(a:Act)(w:World)(G:Gh),Rep Γ E G a.tmps w→ ∃v w',(execOp a.eval o).run P w=.ok (.value v) w'∧ ∃G',Rep Γ E' G' (a.tmps.setIfInBounds d v) w'):yN P Γ o E E':=by
 intro a w K Q ⟨gR,G,ga⟩ hK;obtain⟨v,w',gm,G',eh⟩:=h a w G ga;unfold Oper.wp;rw[gm,Oper.upon_value];refine hK _ _ ?_;rw[ho];exact .of ⟨gR,G',eh⟩
theorem yN.skip(ho:o.dst=dg)
  (h:∀(a:Act)(w:World)(G:Gh),Rep Γ E G a.tmps w→ ∃w',(execOp a.eval o).run P w=.ok .skip w'∧ ∃G',Rep Γ E' G' a.tmps w'):yN P Γ o E E':=by
 intro a w K Q ⟨gR,G,ga⟩ hK;obtain⟨w',gm,G',eh⟩:=h a w G ga;unfold Oper.wp;rw[gm,Oper.upon_skip];refine hK _ _ ?_;rw[ho];exact .of ⟨gR,G',eh⟩
theorem opd{G:Gh}{a:Act}{w:World}(ga:Rep Γ E G a.tmps w){x:Operand}{t:T}(hx:opT E x=df t)(ht:∀xs,t≠.tup xs):
  ∃f:List Nat→Value,(∀z,(f z).oneCell'=dh)∧(∀d,(∀s,x=.tmp s→s≠d)→T.okB [(d,0)] (wP x t)=dh→
   a.eval x=mkV (G.put d f) d (wP x t) []∧R Γ.St (G.put d f) w d (wP x t) [])∧Top (wP x t):=by
 cases x with
 |tmp s=>
  obtain⟨h1,h2,h3⟩:=ga.ent s t hx;refine⟨fun z=>G.hd s z,fun z=>ga.mem.one s z,?_,vR s t []⟩;intro d gf gC;have gY:=gf s rfl;have hk:=G.put_keep (w:=w) (w':=w) rfl d (fun z=>G.hd s z);have hz:∀z,(G.put d (fun z=>G.hd s z)).hd d (z++[])=G.hd s (z++[]):=by grind[Gh.put_self]
  refine⟨?_,?_⟩
  ·grind[xH,wP,tO,uR]
  ·exact zA7 (fun p=>G.put_other _ p gY) t [] [] hz ht (hk.keepR (sD _ (vR s t []) gC)) h2
 |const v=>
  simp only[opT]at hx;split at hx
  ·rename_i gv
   simp at hx;subst hx;exact⟨fun _=>v,fun _=>gv,fun d _ _=>⟨by simp[Act.eval,wP,mkV,Gh.put],by simp[wP,R,Gh.put]⟩,by simp[wP,Top]⟩
  ·cases hx
 |func f=>
  simp only[opT]at hx;simp at hx;subst hx;exact⟨fun _=>.func (.func f) #[] #[],fun _=>rfl,fun d _ _=>⟨by simp[Act.eval,wP,mkV,Gh.put],by simp[wP,R,Gh.put]⟩,by simp[wP,Top]⟩
 |global g=>cases hx
theorem zHD(x:Operand)(t:T)(ho:o.op=.move x∨o.op=.assign x)(gb:o.dst=df d)(hd:d<Γ.N)(hx:opT E x=df t)(ht:∀xs,t≠.tup xs)
  (gf:∀s,x=.tmp s→s≠d)(gC:T.okB [(d,0)] (wP x t)=dh):yN P Γ o E (E.app [(d,df (wP x t))] [(d,0)]):=by
 refine yN.value gb fun a w G ga=>?_
 obtain⟨f,hf,h1,h2⟩:=opd ga hx ht;obtain⟨h3,h4⟩:=h1 d gf gC;refine⟨a.eval x,w,?_,_,yZ ga rfl hd f hf _ _ h3 h4 h2⟩;rcases ho with ho|ho<;>simp[execOp,ho]
theorem yV{G:Gh}{a:Act}{w:World}(ga:Rep Γ E G a.tmps w){x:Operand}{v:Value}(hx:opT E x=df (.lit v)):a.eval x=v∧v.oneCell'=dh:=by
 cases x with
 |tmp s=>
  obtain⟨h1,h2,_⟩:=ga.ent s _ hx;simp only[R]at h2;refine⟨?_,by rw[←h2];exact ga.mem.one s []⟩
  grind[xH,mkV]
 |const u=>
  simp only[opT]at hx;split at hx
  ·simp at hx;subst hx;exact⟨rfl,by assumption⟩
  ·cases hx
 |func f=>simp only[opT]at hx;simp at hx;subst hx;exact⟨rfl,rfl⟩
 |global g=>cases hx
theorem kD(v:Value)(hv:v.oneCell'=dh)(gb:o.dst=df d)(hd:d<Γ.N)
  (h:∀(a:Act)(w:World)(G:Gh),Rep Γ E G a.tmps w→(execOp a.eval o).run P w=.ok (.value v) w):yN P Γ o E (E.app [(d,df (.lit v))] [(d,0)]):=by
 refine yN.value gb fun a w G ga=>?_
 exact⟨v,w,h a w G ga,_,yZ ga rfl hd (fun _=>v) (fun _=>hv) (.lit v) v (by simp[mkV,Gh.put]) (by simp[R,Gh.put]) (by simp[Top])⟩
def zEF(op:BinOp)(k:IntKind)(a b:Int):Option Value:=
 match op with
 |.add=>df (.int k (k.wrap (a+b)))
 |.sub=>df (.int k (k.wrap (a-b)))
 |.mul=>df (.int k (k.wrap (a*b)))
 |.quo=>if b=0 then dg else df (.int k (k.wrap (a.tdiv b)))
 |.rem=>if b=0 then dg else df (.int k (a.tmod b))
 |.eql=>df (.bool (a==b))
 |.neq=>df (.bool (a != b))
 |.lss=>df (.bool (decide (a<b)))
 |.leq=>df (.bool (decide (a≤b)))
 |.gtr=>df (.bool (decide (a> b)))
 |.geq=>df (.bool (decide (a≥b)))
 |_=>dg
theorem zJ2{op:BinOp}{k:IntKind}{a b:Int}{v:Value}(h:zEF op k a b=df v):v.oneCell'=dh:=by cases op<;>simp[zEF]at h<;>first|(subst h;rfl)|(obtain⟨_,rfl⟩:=h;rfl)
theorem vX(op:BinOp)(xt yt:TypeId)(x y:Operand)(k:IntKind)(m n:Int)(v:Value)(ho:o.op=.binOp op xt x y yt)(gb:o.dst=df d)(hd:d<Γ.N)
  (hx:opT E x=df (.lit (.int k m)))(hy:opT E y=df (.lit (.int k n)))(hv:zEF op k m n=df v):yN P Γ o E (E.app [(d,df (.lit v))] [(d,0)]):=by
 refine kD v (zJ2 hv) gb hd fun a w G ga=>?_
 have h1:=(yV ga hx).1;have h2:=(yV ga hy).1;cases op<;>simp[zEF]at hv<;>
  first
   |(subst hv;simp[execOp,ho,h1,h2,eqGuard,binOp,Op.intArith,Op.intCmp];done)
   |(obtain⟨h0,rfl⟩:=hv;simp[execOp,ho,h1,h2,eqGuard,binOp,Op.intDiv,h0])
theorem zNT(xt:TypeId)(x:Operand)(b:Bool)(ho:o.op=.unOp .not xt x)(gb:o.dst=df d)(hd:d<Γ.N)
  (hx:opT E x=df (.lit (.bool b))):yN P Γ o E (E.app [(d,df (.lit (.bool !b)))] [(d,0)]):=by
 refine kD _ rfl gb hd fun a w G ga=>?_
 have h1:=(yV ga hx).1;simp[execOp,ho,h1,Op.unary]
theorem zNU(xt:TypeId)(x:Operand)(k:IntKind)(n:Int)(ho:o.op=.unOp .neg xt x)(gb:o.dst=df d)(hd:d<Γ.N)
  (hx:opT E x=df (.lit (.int k n))):yN P Γ o E (E.app [(d,df (.lit (.int k (k.wrap (0-n)))))] [(d,0)]):=by
 refine kD _ rfl gb hd fun a w G ga=>?_
 have h1:=(yV ga hx).1;simp[execOp,ho,h1,Op.unary,Op.intArith]
theorem zLV(c x y:Operand)(b:Bool)(t:T)(ho:o.op=.pick c x y)(gb:o.dst=df d)(hd:d<Γ.N)
  (hc:opT E c=df (.lit (.bool b)))(hx:opT E (if b then x else y)=df t)(ht:∀xs,t≠.tup xs)
  (gf:∀s,(if b then x else y)=.tmp s→s≠d)(gC:T.okB [(d,0)] (wP (if b then x else y) t)=dh):yN P Γ o E (E.app [(d,df (wP (if b then x else y) t))] [(d,0)]):=by
 refine yN.value gb fun a w G ga=>?_
 obtain⟨f,hf,h1,h2⟩:=opd ga hx ht;obtain⟨h3,h4⟩:=h1 d gf gC;refine⟨a.eval (if b then x else y),w,?_,_,yZ ga rfl hd f hf _ _ h3 h4 h2⟩;have h5:=(yV ga hc).1;cases b<;>simp[execOp,ho,h5,asBool]
end
end Go.Ab

namespace Go.Ab
open Go
def vU(E:Env):Nat→Nat→List Nat→Option (Nat×List Nat×T)
 |0,_,_=>dg
 |n+1,r,q=>match E r with
  |some t=>match t.get q.reverse with
   |some (.same r' q')=>vU E n r' q'
   |some u=>df (r,q,u)
   |none=>dg
  |none=>dg
def xZ(E:Env):Operand→Option (Nat×List Nat×T)
 |.tmp s=>vU E 4 s []
 |_=>dg
def T.single:T→Bool
 |.agg _|.tup _=>di
 |_=>dh
theorem yM{G:Gh}{s:Nat}{t:T}{p:List Nat}(h:t.single=dh):mkV G s t p=G.hd s p:=by cases t<;>simp[T.single]at h<;>rfl
section
variable {P:Program}{Γ:Ctx}{E:Env}{o:Oper}{d:Nat}
theorem zAh{G:Gh}{a:Act}{w:World}(ga:Rep Γ E G a.tmps w):∀(n s:Nat)(p:List Nat)(r:Nat)(q:List Nat)(u:T),vU E n s p=df (r,q,u)→
  R Γ.St G w r u q∧G.hd s p=G.hd r q∧(∃t,E r=df t∧t.get q.reverse=df u)
 |0,_,_,_,_,_,h=>by simp[vU]at h
 |n+1,s,p,r,q,u,h=>by
  simp only[vU]at h;split at h
  ·rename_i t ht
   obtain⟨_,h4,_⟩:=ga.ent _ _ ht;split at h
   ·rename_i r' q' hg
    obtain⟨h1,h2,h3⟩:=zAh ga n r' q' r q u h;have h5:=(kA p.reverse t _ [] h4 hg).1;simp only[rp,Kj,J9,R]at h5;exact⟨h1,h5.trans h2,h3⟩
   ·rename_i u' hns hg
    simp at h;obtain⟨rfl,rfl,rfl⟩:=h;have h5:=(kA p.reverse t _ [] h4 hg).1;simp only[rp,Kj,J9]at h5;exact⟨h5,rfl,t,ht,hg⟩
   ·cases h
  ·cases h
theorem wU{G:Gh}{a:Act}{w:World}(ga:Rep Γ E G a.tmps w){x:Operand}{r:Nat}{q:List Nat}{u:T}(h:xZ E x=df (r,q,u))(hu:u.single=dh):
  R Γ.St G w r u q∧a.eval x=G.hd r q:=by
 cases x with
 |tmp s=>
  obtain⟨h1,h2,_⟩:=zAh ga 4 s [] r q u h;refine⟨h1,?_⟩;rw[←h2];simp only[xZ,vU]at h;split at h
  ·rename_i t ht
   obtain⟨h3,_,_⟩:=ga.ent s _ ht;rw[xH h3];simp only[H6,T.get]at h;have:t.single=dh:=by cases t<;>first|rfl|(simp at h;obtain⟨_,_,rfl⟩:=h;simp[T.single]at hu)
   exact yM this
  ·cases h
 |_=>simp[xZ]at h
theorem zHE{St:Stb}{G:Gh}{w:World}{s:Nat}{k:Nat}{xs:List T}{p:List Nat}(h:R St G w s (.sl k xs) p):∃a c,G.hd s p=.slice a xs.length c:=by
 simp only[R]at h;rcases h with⟨rfl,a,h⟩|⟨b,_,cap,_,_,h,_⟩
 ·exact⟨a,0,h⟩
 ·exact⟨_,_,h⟩
theorem zBc{St:Stb}{G:Gh}{w:World}{s:Nat}{k:Nat}{xs:List T}{p:List Nat}(h:R St G w s (.ro (.sl k xs)) p):∃a c,G.hd s p=.slice a xs.length c∧xs.length≤c∧c≤maxLen∧
   (xs≠[]→ ∃b o' cs' e fr,a=df ⟨b,o',dg⟩∧St b=df (.cells cs' e fr)∧RoL St xs cs' o' k):=by
 simp only[R,RoC]at h;obtain⟨a,c,h1,h2,h3,h4⟩:=h;exact⟨a,c,by simpa using h1,h2,h3,h4⟩
def zF3:T→Option Nat
 |.sl _ xs|.ro (.sl _ xs)=>df xs.length
 |.lit (.slice _ n _)=>df n
 |.lit (.string s)=>df s.size
 |_=>dg
def zLW:T→TypeDesc→Bool
 |.lit (.string _),.string=>dh
 |.sl _ _,.slice _|.ro (.sl _ _),.slice _|.lit (.slice _ _ _),.slice _=>dh
 |_,_=>di
theorem zJ3(x:Operand)(t:TypeId)(ds:TypeDesc)(r:Nat)(q:List Nat)(u:T)(n:Nat)(ho:o.op=.call { callee:=.builtin .len,args:=#[x],argTypes:=#[t] })(gb:o.dst=df d)(hd:d<Γ.N)
  (ht:P.underlying t=df ds)(hx:xZ E x=df (r,q,u))(hl:zF3 u=df n)(fT:zLW u ds=dh):
  yN P Γ o E (E.app [(d,df (.lit (.int .i64 n)))] [(d,0)]):=by
 refine kD (.int .i64 n) rfl gb hd fun a w G ga=>?_
 have hu:u.single=dh:=by cases u<;>simp[zF3]at hl<;>rfl
 obtain⟨h1,h2⟩:=wU ga hx hu;have h3:(Builtin.len_ #[t] o.type #[G.hd r q]).run P w=.ok (.int .i64 n) w:=by
  cases u with
  |sl k xs=>
   obtain⟨a',c,h4⟩:=zHE h1;simp[zF3]at hl;subst hl;cases ds<;>simp[zLW]at fT
   simp[Builtin.len_,run_underlying ht,h4,goInt]
  |ro t'=>
   cases t'<;>simp[zF3]at hl
   obtain⟨a',c,h4,_⟩:=zBc h1;subst hl;cases ds<;>simp[zLW]at fT
   simp[Builtin.len_,run_underlying ht,h4,goInt]
  |lit v=>
   simp only[R]at h1;cases v<;>simp[zF3]at hl<;>(subst hl;cases ds<;>simp[zLW]at fT;simp[Builtin.len_,run_underlying ht,h1,goInt])
  |_=>simp[zF3]at hl
 simp[execOp,ho,resolve,invoke,builtin,h2,h3]
theorem zBz{G:Gh}{w:World}{s:Nat}{t:T}{p:List Nat}{b o:Nat}(h:Loc G w s t p b o):G.ad s p=⟨b,o,dg⟩:=by cases t<;>simp only[Loc]at h<;>first|exact h.1|exact h.elim
theorem wV(b o n:Nat):(⟨b,o,dg⟩:Addr).add n=⟨b,o+n,dg⟩:=by
 unfold Addr.add;split
 ·rename_i h;subst h;rfl
 ·rfl
theorem zLX{St:Stb}{G:Gh}{w:World}{s:Nat}{k:Nat}{xs:List T}{p:List Nat}(h:R St G w s (.sl k xs) p){i:Nat}(hi:i<xs.length):
  ∃b o0 cap,G.hd s p=.slice (df ⟨b,o0,dg⟩) xs.length cap∧G.ad s (i::p)=⟨b,o0+i*k,dg⟩:=by
 simp only[R]at h;rcases h with⟨rfl,_⟩|⟨b,o0,cap,cs,e,h1,h2,h3,h4,h5,h6,h7,h8⟩
 ·simp at hi
 ·have:=(uZ xs p 0 b o0 k i xs[i] h8 (by simp[hi])).1
  simp only[J8]at this;exact⟨b,o0,cap,h1,zBz this⟩
theorem zPm(x y:Operand)(t e:TypeId)(ti:TypeInfo)(r:Nat)(q:List Nat)(k:Nat)(xs:List T)(kd:IntKind)(i:Int)(ho:o.op=.indexAddr t x y)(gb:o.dst=df d)(hd:d<Γ.N)
  (ht:P.underlying t=df (.slice e))(he:P.info? e=df ti)(hk:ti.size=k)(hx:xZ E x=df (r,q,.sl k xs))(hy:opT E y=df (.lit (.int kd i)))(h0:0≤i)(h1:i.toNat<xs.length):
  yN P Γ o E (E.app [(d,df (.addr r (i.toNat::q)))] [(d,0)]):=by
 refine yN.value gb fun a w G ga=>?_
 obtain⟨g1,g2⟩:=wU ga hx rfl;have g3:=(yV ga hy).1;obtain⟨b,o0,cap,g4,g5⟩:=zLX g1 h1;refine⟨.pointer (df (G.ad r (i.toNat::q))),w,?_,_,yZ ga rfl hd (fun _=>.pointer (df (G.ad r (i.toNat::q)))) (fun _=>rfl) _ _ (by simp[mkV,Gh.put]) (by simp[R,Gh.put]) (by simp[Top])⟩;have gG:i<(xs.length:Int):=by omega
 simp[execOp,ho,Instr.indexAt,g3,g2,g4,asIntOf,run_underlying ht,h0,gG,sizeOf,typeInfo,he,hk,wV,g5]
theorem zEG{St:Stb}:(xs:List T)→ ∀(cs:Array Value)(o k i:Nat)(x:T),RoL St xs cs o k→xs[i]? =df x→RoC St x cs (o+i*k)
 | [],_,_,_,_,_,_,h=>by simp at h
 |y::ys,cs,o,k,i,x,hr,h=>by
  simp only[RoL]at hr;cases i with
  |zero=>simp at h;subst h;simpa using hr.1
  |succ i=>
   have:=zEG ys cs (o+k) k i x hr.2 (by simpa using h)
   rwa [show o+(i+1)*k=o+k+i*k from by rw[Kl];omega]
theorem zHF{St:Stb}:(xs:List T)→ ∀(cs:Array Value)(o i:Nat)(x:T),RoF St xs cs o→xs[i]? =df x→RoC St x cs (o+T.sizes (xs.take i))
 | [],_,_,_,_,_,h=>by simp at h
 |y::ys,cs,o,i,x,hr,h=>by
  simp only[RoF]at hr;cases i with
  |zero=>simp at h;subst h;simpa[T.sizes]using hr.1
  |succ i=>
   have:=zHF ys cs (o+y.size) i x hr.2 (by simpa using h)
   rwa [Kf,T.sizes,←L7]
theorem zJ4(x y:Operand)(t e:TypeId)(ti:TypeInfo)(r:Nat)(q:List Nat)(k:Nat)(xs:List T)(kd:IntKind)(i:Int)(u:T)(ho:o.op=.indexAddr t x y)(gb:o.dst=df d)(hd:d<Γ.N)
  (ht:P.underlying t=df (.slice e))(he:P.info? e=df ti)(hk:ti.size=k)(hx:xZ E x=df (r,q,.ro (.sl k xs)))(hy:opT E y=df (.lit (.int kd i)))(h0:0≤i)(h1:xs[i.toNat]? =df u):
  yN P Γ o E (E.app [(d,df (.ro (.ptr u)))] [(d,0)]):=by
 refine yN.value gb fun a w G ga=>?_
 obtain⟨g1,g2⟩:=wU ga hx rfl;have g3:=(yV ga hy).1;have az:i.toNat<xs.length:=(Ja.1 h1).1;obtain⟨a',c,g4,_,_,g5⟩:=zBc g1;obtain⟨b,o',cs',e',fr,rfl,g6,g7⟩:=g5 (by rintro rfl;simp at az);have g8:=zEG xs cs' o' k i.toNat u g7 h1;refine⟨.pointer (df ⟨b,o'+i.toNat*k,dg⟩),w,?_,_,yZ ga rfl hd (fun _=>.pointer (df ⟨b,o'+i.toNat*k,dg⟩)) (fun _=>rfl) _ _ (by simp[mkV,Gh.put]) ?_ (by simp[Top])⟩
 ·have gG:i<(xs.length:Int):=by omega
  simp[execOp,ho,Instr.indexAt,g3,g2,g4,asIntOf,run_underlying ht,h0,gG,sizeOf,typeInfo,he,hk,wV]
 ·simp only[R,Gh.put_self,RoC]
  exact⟨b,_,cs',e',fr,by simp,g6,g8⟩
theorem zCH:(xs:List T)→ ∀{G:Gh}{w:World}{s:Nat}(p:List Nat)(j b o i:Nat)(x:T),xS G w s xs p j b o→xs[i]? =df x→
  Loc G w s x ((j+i)::p) b (o+T.sizes (xs.take i))
 | [],_,_,_,_,_,_,_,_,_,_,h=>by simp at h
 |y::ys,G,w,s,p,j,b,o,i,x,hr,h=>by
  simp only[xS]at hr;cases i with
  |zero=>simp at h;subst h;simpa[T.sizes]using hr.1
  |succ i=>
   have:=zCH ys p (j+1) b (o+y.size) i x hr.2 (by simpa using h)
   rwa [show j+(i+1)=j+1+i from by omega,Kf,T.sizes,←L7]
theorem vN{P:Program}{w:World}(a:Addr):(Instr.sureAddr (.pointer (df a))).run P w=.ok a w:=rfl
theorem zBX{P:Program}{w:World}{S:TypeId}{fs:Array Field}{f:Field}{fi:TypeInfo}{j:Nat}{b o':Nat}(hS:P.underlying S=df (.struct fs))(hf:fs[j]? =df f)(hi:P.info? f.type=df fi)(hz:fi.size≠0):
  (Instr.fieldAt S (.pointer (df ⟨b,o',dg⟩)) j).run P w=.ok (.pointer (df ⟨b,o'+f.offset,dg⟩)) w:=by
 simp[Instr.fieldAt,run_underlying hS,hf,vN,fieldPlace,sizeOf,typeInfo,hi,hz,wV]
theorem zPn(x:Operand)(S:TypeId)(fs:Array Field)(f:Field)(fi:TypeInfo)(j:Nat)(r:Nat)(q:List Nat)(xs:List T)(u:T)(ho:o.op=.fieldAddr S x j)(gb:o.dst=df d)(hd:d<Γ.N)
  (hS:P.underlying S=df (.struct fs))(hf:fs[j]? =df f)(hi:P.info? f.type=df fi)(hz:fi.size≠0)(hx:xZ E x=df (r,q,.ptr (.agg xs)))(hu:xs[j]? =df u)(gD:T.sizes (xs.take j)=f.offset):
  yN P Γ o E (E.app [(d,df (.addr r (j::0::q)))] [(d,0)]):=by
 refine yN.value gb fun a w G ga=>?_
 obtain⟨g1,g2⟩:=wU ga hx rfl;simp only[R]at g1;obtain⟨b,cs,e,g4,_,_,_,g5,_⟩:=g1;simp only[Loc]at g5;have g6:=zCH xs (0::q) 0 b 0 j u g5.2 hu;simp only[J8]at g6;refine⟨.pointer (df (G.ad r (j::0::q))),w,?_,_,yZ ga rfl hd (fun _=>.pointer (df (G.ad r (j::0::q)))) (fun _=>rfl) _ _ (by simp[mkV,Gh.put]) (by simp[R,Gh.put]) (by simp[Top])⟩;have g7:=zBX (w:=w) (b:=b) (o':=0) hS hf hi hz;simp[execOp,ho,g2,g4,g7,zBz g6,gD]
theorem zEH{G:Gh}{a:Act}{w:World}(ga:Rep Γ E G a.tmps w){x:Operand}{u:T}(hx:opT E x=df (.ro u)):RoC Γ.St u #[a.eval x] 0:=by
 cases x with
 |tmp s=>
  obtain⟨h1,h2,_⟩:=ga.ent s _ hx;simp only[R]at h2;rw[xH h1,yM rfl];exact h2
 |const v=>simp only[opT]at hx;split at hx<;>simp at hx
 |func f=>simp[opT]at hx
 |global g=>simp[opT]at hx
theorem zJ5(x:Operand)(S:TypeId)(fs:Array Field)(f:Field)(fi:TypeInfo)(j:Nat)(xs:List T)(u:T)(ho:o.op=.fieldAddr S x j)(gb:o.dst=df d)(hd:d<Γ.N)
  (hS:P.underlying S=df (.struct fs))(hf:fs[j]? =df f)(hi:P.info? f.type=df fi)(hz:fi.size≠0)(hx:opT E x=df (.ro (.ptr (.agg xs))))(hu:xs[j]? =df u)(gD:T.sizes (xs.take j)=f.offset):
  yN P Γ o E (E.app [(d,df (.ro (.ptr u)))] [(d,0)]):=by
 refine yN.value gb fun a w G ga=>?_
 have h1:=zEH ga hx;simp only[RoC]at h1;obtain⟨b,o',cs',e,fr,h2,h3,h4⟩:=h1;have h5:=zHF xs cs' o' j u h4 hu;refine⟨.pointer (df ⟨b,o'+f.offset,dg⟩),w,?_,_,yZ ga rfl hd (fun _=>.pointer (df ⟨b,o'+f.offset,dg⟩)) (fun _=>rfl) _ _ (by simp[mkV,Gh.put]) ?_ (by simp[Top])⟩
 ·have g7:=zBX (w:=w) (b:=b) (o':=o') hS hf hi hz
  have h6:a.eval x=.pointer (df ⟨b,o',dg⟩):=by simpa using h2
  simp[execOp,ho,h6,g7]
 ·simp only[R,Gh.put_self,RoC]
  exact⟨b,o'+f.offset,cs',e,fr,by simp,h3,by rw[←gD];exact h5⟩
def zCr:TypeDesc→Bool
 |.struct _|.array _ _=>dh
 |_=>di
theorem uL{P:Program}{w:World}{t:TypeId}{ds:TypeDesc}(ht:P.underlying t=df ds):(isAgg t).run P w=.ok (zCr ds) w:=by cases ds<;>simp[isAgg,run_underlying ht,zCr]
theorem wI{G:Gh}{w:World}{s:Nat}{t:T}{p:List Nat}{b o:Nat}(ht:t.single=dh)(h:Loc G w s t p b o):G.ad s p=⟨b,o,dg⟩∧G.lb b o=df (di,s,p)∧zT w b o=df (G.hd s p):=by cases t<;>simp[T.single]at ht<;>simpa only[Loc]using h
mutual
theorem zJ6{G:Gh}{w:World}{s:Nat}:(t:T)→ ∀(p:List Nat)(b o:Nat),Loc G w s t p b o→ ∀(i:Nat)(v:Value),(vals G s t p)[i]? =df v→zT w b (o+i)=df v
 |.agg xs,p,b,o,h,i,v,hv=>by simp only[Loc,vals]at h hv;exact sY xs p 0 b o h.2 i v hv
 |.any,p,b,o,h,i,v,hv|.lit _,p,b,o,h,i,v,hv|.ro _,p,b,o,h,i,v,hv|.same _ _,p,b,o,h,i,v,hv|.addr _ _,p,b,o,h,i,v,hv|.sub _ _ _ _ _,p,b,o,h,i,v,hv|.sl _ _,p,b,o,h,i,v,hv|.ptr _,p,b,o,h,i,v,hv|.mp _ _,p,b,o,h,i,v,hv=>by
  simp only[Loc,vals]at h hv;cases i with
  |zero=>simp at hv;rw[←hv];exact h.2.2
  |succ i=>simp at hv
 |.tup _,_,_,_,h,_,_,_=>by simp only[Loc]at h
theorem sY{G:Gh}{w:World}{s:Nat}:(xs:List T)→ ∀(p:List Nat)(j b o:Nat),xS G w s xs p j b o→ ∀(i:Nat)(v:Value),(zJ G s xs p j)[i]? =df v→zT w b (o+i)=df v
 | [],_,_,_,_,_,i,v,hv=>by simp[zJ]at hv
 |x::xs,p,j,b,o,h,i,v,hv=>by
  simp only[xS,zJ]at h hv;rw[Jv]at hv;split at hv
  ·exact zJ6 x (j::p) b o h.1 i v hv
  ·rename_i hge
   have gn:=xE (G:=G) (s:=s) x (j::p) (fun ys e=>by subst e;simp only[Loc]at h;exact h.1);have:=sY xs p (j+1) b (o+x.size) h.2 _ v hv
   rwa [show o+x.size+(i-(vals G s x (j::p)).length)=o+i from by omega]at this
theorem xE{G:Gh}{s:Nat}:(t:T)→ ∀(p:List Nat),(∀xs,t≠.tup xs)→(vals G s t p).length=t.size
 |.agg xs,p,_=>by simp only[vals,T.size];exact yS xs p 0
 |.any,_,_|.lit _,_,_|.ro _,_,_|.same _ _,_,_|.addr _ _,_,_|.sub _ _ _ _ _,_,_|.sl _ _,_,_|.ptr _,_,_|.mp _ _,_,_|.tup _,_,_=>by simp[vals,T.size]
theorem yS{G:Gh}{s:Nat}:(xs:List T)→ ∀(p:List Nat)(j:Nat),(zJ G s xs p j).length=T.sizes xs
 | [],_,_=>by simp[zJ,T.sizes]
 |x::xs,p,j=>by
  simp only[zJ,Je,T.sizes,yS xs p (j+1)]
  by_cases hx:∃ys,x=.tup ys
  ·obtain⟨ys,rfl⟩:=hx;simp[vals,T.size]
  ·rw[xE x (j::p) (fun ys e=>hx ⟨ys,e⟩)]
end
theorem zBY{P:Program}{G:Gh}{w:World}{s:Nat}{t:T}{p:List Nat}{b o':Nat}{T':TypeId}{ds:TypeDesc}{ti:TypeInfo}(hT:P.underlying T'=df ds)(hi:P.info? T'=df ti)(hl:Loc G w s t p b o')
  (eF:zCr ds= !t.single)(gp:ti.size=t.size):(loadVar T' ⟨b,o',dg⟩).run P w=.ok (wR G s t p) w:=by
 cases t with
 |agg xs=>
  have h1:=run_loadCells_list (P:=P) (w:=w) ⟨b,o',dg⟩ (zJ G s xs p 0) (fun j v hv=>by rw[wV];simp only[Loc]at hl;exact sY xs p 0 b o' hl.2 j v hv)
  rw[yS]at h1;simp only[T.size]at gp;simp[T.single]at eF;simp[loadVar,uL hT,eF,sizeOf,typeInfo,hi,gp,h1,wR]
 |tup xs=>simp only[Loc]at hl
 |_=>
  have h1:=(wI rfl hl).2.2;simp[T.single]at eF;simp only[zT]at h1;simp[loadVar,uL hT,eF,load,Sem.run,h1,wR]
def jO(Γ:Ctx)(E:Env)(x:Operand)(r:Nat)(q:List Nat):Prop:=∀(a:Act)(w:World)(G:Gh),Rep Γ E G a.tmps w→a.eval x=.pointer (df (G.ad r q))
theorem jO.addr{x:Operand}{r:Nat}{q:List Nat}(hx:opT E x=df (.addr r q)):jO Γ E x r q:=fun a w G ga=>by
 cases x with
 |tmp s=>
  obtain⟨h1,h2,_⟩:=ga.ent s _ hx;simp only[R]at h2;rw[xH h1];exact h2
 |const v=>simp only[opT]at hx;split at hx<;>simp at hx
 |func f=>simp[opT]at hx
 |global g=>simp[opT]at hx
theorem jO.ptr{x:Operand}{r:Nat}{q:List Nat}{t:T}(hx:xZ E x=df (r,q,.ptr t)):jO Γ E x r (0::q):=fun a w G ga=>by obtain⟨g1,g2⟩:=wU ga hx rfl;simp only[R]at g1;obtain⟨b,cs,e,g4,_,_,_,g5,_⟩:=g1;rw[g2,g4,zBz g5]
theorem zF4(x:Operand)(T':TypeId)(ds:TypeDesc)(ti:TypeInfo)(r:Nat)(q:List Nat)(t u:T)(ho:o.op=.load T' x)(gb:o.dst=df d)(hd:d<Γ.N)
  (hT:P.underlying T'=df ds)(hi:P.info? T'=df ti)(eF:zCr ds= !u.single)(gp:ti.size=u.size)
  (hx:jO Γ E x r q)(hr:E r=df t)(hg:t.get q.reverse=df u)(hl:t.locd q.reverse=dh)(gU:r≠d)(gC:T.okB [(d,0)] (cpT r u q)=dh):
  yN P Γ o E (E.app [(d,df (cpT r u q))] [(d,0)]):=by
 refine yN.value gb fun a w G ga=>?_
 have pM:=hx a w G ga;obtain⟨_,h4,_⟩:=ga.ent r _ hr;obtain⟨h5,h6⟩:=kA q.reverse t u [] h4 hg;obtain⟨b,o',cs,e,h6,_,_⟩:=h6 hl;simp only[rp,Kj,J9]at h5 h6;have gO:∀xs,u≠.tup xs:=by rintro xs rfl;simp only[Loc]at h6
 have h7:=zBz h6;have hz:∀z,(G.put d (fun z=>G.hd r (z++q))).hd d (z++[])=G.hd r (z++q):=fun z=>by rw[Gh.put_self,J9]
 have hk:=G.put_keep (w:=w) (w':=w) rfl d (fun z=>G.hd r (z++q));refine⟨wR G r u q,w,?_,_,yZ ga rfl hd (fun z=>G.hd r (z++q)) (fun z=>ga.mem.one _ _) _ _ (tO u q [] gO hz).symm
  (zA7 (fun p=>G.put_other _ p gU) u q [] hz gO (hk.keepR (sD _ (vR r u q) gC)) h5) (vR r u q)⟩
 have h8:=zBY (T':=T') hT hi h6 eF gp;simp[execOp,ho,pM,h7,Instr.loadAt,vN,h8]
theorem zLY(x:Operand)(T':TypeId)(ds:TypeDesc)(ti:TypeInfo)(r:Nat)(q:List Nat)(t u:T)(ho:o.op=.load T' x)(gb:o.dst=df d)(hd:d<Γ.N)
  (hT:P.underlying T'=df ds)(hi:P.info? T'=df ti)(eF:zCr ds= !u.single)(gp:ti.size=u.size)
  (hx:opT E x=df (.addr r q))(hr:E r=df t)(hg:t.get q.reverse=df u)(hl:t.locd q.reverse=dh)(gU:r≠d)(gC:T.okB [(d,0)] (cpT r u q)=dh):
  yN P Γ o E (E.app [(d,df (cpT r u q))] [(d,0)]):=zF4 x T' ds ti r q t u ho gb hd hT hi eF gp (jO.addr hx) hr hg hl gU gC
def roT:T→T
 |.lit v=>.lit v
 |.agg xs=>.agg (roTs xs)
 |.ro t=>.ro (.ro t)
 |.any=>.any
 |.same r q=>.ro (.same r q)
 |.addr r q=>.ro (.addr r q)
 |.sub r q k lo hi=>.ro (.sub r q k lo hi)
 |.sl k xs=>.ro (.sl k xs)
 |.ptr t=>.ro (.ptr t)
 |.tup xs=>.ro (.tup xs)
 |.mp ks xs=>.ro (.mp ks xs)
where roTs:List T→List T
 | []=>[]
 |x::xs=>roT x::roTs xs
end
end Go.Ab

namespace Go.Ab
open Go
def uT(v:Value):Value:=if v.oneCell' then v else .bool di
theorem sZ(v:Value):(uT v).oneCell'=dh:=by
 unfold uT;split
 ·assumption
 ·rfl
theorem sG{v:Value}(h:v.oneCell'=dh):uT v=v:=by simp[uT,h]
def zA9:T→Array Value→Nat→List Nat→Value
 |.agg xs,cs,o,i::f=>match xs[i]? with
  |some x=>zA9 x cs (o+T.sizes (xs.take i)) f
  |none=>.bool di
 |_,cs,o,_=>cs.getD o (.bool di)
termination_by structural _ _ _ f=>f
theorem sH{t:T}(h:t.single=dh)(cs:Array Value)(o:Nat)(f:List Nat):zA9 t cs o f=cs.getD o (.bool di):=by cases t<;>simp[T.single]at h<;>cases f<;>rfl
mutual
theorem zBd:(u:T)→(∀xs,u≠.tup xs)→(roT u).size=u.size
 |.agg xs,_=>by simp only[roT,T.size];exact zB0 xs
 |.lit _,_|.any,_|.sl _ _,_|.ptr _,_|.mp _ _,_|.ro _,_|.same _ _,_|.addr _ _,_|.sub _ _ _ _ _,_|.tup _,_=>by simp[roT,T.size]
theorem zB0:(xs:List T)→T.sizes (roT.roTs xs)=T.sizes xs
 | []=>by simp only[roT.roTs]
 |x::xs=>by
  simp only[roT.roTs,T.sizes,zB0 xs]
  by_cases hx:∃ys,x=.tup ys
  ·obtain⟨ys,rfl⟩:=hx;simp[roT,T.size]
  ·rw[zBd x (fun ys e=>hx ⟨ys,e⟩)]
end
section
variable {St:Stb}{G:Gh}{w:World}{d:Nat}
theorem qA{u:T}{cs:Array Value}{o:Nat}(hu:u.single=dh)(h:RoC St u cs o):∃v,cs[o]? =df v∧v.oneCell'=dh∧RoC St u #[v] 0:=by
 cases u<;>simp[T.single]at hu<;>simp only[RoC]at h ⊢
 ·obtain⟨v,h1,h2⟩:=h;exact⟨v,h1,h2,v,by simp,h2⟩
 ·exact⟨_,h.1,h.2,by simp,h.2⟩
 ·obtain⟨f,vs,h1,h2⟩:=h;exact⟨_,h1,rfl,f,vs,by simp,h2⟩
 ·obtain⟨a,c,h1,h2⟩:=h;exact⟨_,h1,rfl,a,c,by simp,h2⟩
 ·obtain⟨b,o',cs',e,fr,h1,h2⟩:=h;exact⟨_,h1,rfl,b,o',cs',e,fr,by simp,h2⟩
 ·rcases h with⟨v,h1,h2,h3⟩|⟨b,ms,c,es,h1,h2⟩
  ·exact⟨v,h1,h2,.inl ⟨v,by simp,h2,h3⟩⟩
  ·exact⟨_,h1,rfl,.inr ⟨b,ms,c,es,by simp,h2⟩⟩
mutual
theorem zJ7:(u:T)→ ∀(cs:Array Value)(o:Nat)(p:List Nat),(∀z,G.hd d (z++p)=uT (zA9 u cs o z.reverse))→RoC St u cs o→R St G w d (roT u) p
 |.agg xs,cs,o,p,hd,h=>by
  simp only[roT,R,RoC]at h ⊢
  exact zJ8 xs cs o p 0 o (by simp) (fun z j x hx=>by have:=hd (z++[j]);simp only[Jb,Ka,Jr,Gs,Hl,H6,zA9]at this;rw[J8,this];simp[hx]) h
 |.lit v,cs,o,p,hd,h=>by
  simp only[roT,R,RoC]at h ⊢
  have:=hd [];rw[Jr,sH rfl]at this;rw[this];simp[Jo,h.1,sG h.2]
 |.any,_,_,_,_,_=>by simp only[roT,R]
 |.ro _,cs,o,p,hd,h|.sl _ _,cs,o,p,hd,h|.ptr _,cs,o,p,hd,h|.mp _ _,cs,o,p,hd,h=>by obtain⟨v,h1,h2,h3⟩:=qA rfl h;have:=hd [];rw[Jr,sH rfl]at this;simp only[roT,R];rw[this];simpa[Jo,h1,sG h2]using h3
 |.same _ _,_,_,_,_,h|.addr _ _,_,_,_,_,h|.sub _ _ _ _ _,_,_,_,_,h|.tup _,_,_,_,_,h=>by simp only[RoC]at h
theorem zJ8:(xs:List T)→ ∀(cs:Array Value)(o0:Nat)(p:List Nat)(j o:Nat),o0≤o→(∀z i x,xs[i]? =df x→G.hd d (z++((j+i)::p))=uT (zA9 x cs (o+T.sizes (xs.take i)) z.reverse))→RoF St xs cs o→RF St G w d (roT.roTs xs) p j
 | [],_,_,_,_,_,_,_,_=>by simp only[roT.roTs,RF]
 |x::xs,cs,o0,p,j,o,ho,hd,h=>by
  simp only[roT.roTs,RF,RoF]at h ⊢
  refine⟨zJ7 x cs o (j::p) (fun z=>by simpa[T.sizes]using hd z 0 x (by simp)) h.1,zJ8 xs cs o0 p (j+1) (o+x.size) (by omega) (fun z i y hy=>?_) h.2⟩;have:=hd z (i+1) y (by simpa using hy);simp only[Kf,T.sizes]at this;rw[show j+1+i=j+(i+1)from by omega,show o+x.size+T.sizes (xs.take i)=o+(x.size+T.sizes (xs.take i))from L7 ..];exact this
end
mutual
theorem zCI:(u:T)→ ∀(cs:Array Value)(o:Nat)(p:List Nat),(∀z,G.hd d (z++p)=uT (zA9 u cs o z.reverse))→RoC St u cs o→ ∀(i:Nat)(v:Value),(vals G d (roT u) p)[i]? =df v→cs[o+i]? =df v
 |.agg xs,cs,o,p,hd,h,i,v,hv=>by
  simp only[roT,vals,RoC]at h hv;exact zDY xs cs p 0 o (fun z j x hx=>by have:=hd (z++[j]);simp only[Jb,Ka,Jr,Gs,Hl,H6,zA9]at this;rw[J8,this];simp[hx]) h i v hv
 |.lit _,cs,o,p,hd,h,i,v,hv|.ro _,cs,o,p,hd,h,i,v,hv|.any,cs,o,p,hd,h,i,v,hv|.sl _ _,cs,o,p,hd,h,i,v,hv|.ptr _,cs,o,p,hd,h,i,v,hv|.mp _ _,cs,o,p,hd,h,i,v,hv=>by
  obtain⟨v',h1,h2,h3⟩:=qA rfl h;have:=hd [];rw[Jr,sH rfl]at this;simp only[roT,vals]at hv;cases i with
  |zero=>
   simp at hv;rw[←hv,this];simp[Jo,h1,sG h2]
  |succ i=>simp at hv
 |.same _ _,_,_,_,_,h,_,_,_|.addr _ _,_,_,_,_,h,_,_,_|.sub _ _ _ _ _,_,_,_,_,h,_,_,_|.tup _,_,_,_,_,h,_,_,_=>by simp only[RoC]at h
theorem zDY:(xs:List T)→ ∀(cs:Array Value)(p:List Nat)(j o:Nat),(∀z i x,xs[i]? =df x→G.hd d (z++((j+i)::p))=uT (zA9 x cs (o+T.sizes (xs.take i)) z.reverse))→RoF St xs cs o→ ∀(i:Nat)(v:Value),(zJ G d (roT.roTs xs) p j)[i]? =df v→cs[o+i]? =df v
 | [],_,_,_,_,_,_,i,v,hv=>by simp[roT.roTs,zJ]at hv
 |x::xs,cs,p,j,o,hd,h,i,v,hv=>by
  simp only[roT.roTs,zJ,RoF]at h hv;have hx:∀z,G.hd d (z++(j::p))=uT (zA9 x cs o z.reverse):=fun z=>by simpa[T.sizes]using hd z 0 x (by simp)
  have gn:(vals G d (roT x) (j::p)).length=x.size:=by have hs:(roT x).size=x.size:=zBd x (fun ys e=>by subst e;simp only[RoC]at h;exact h.1);rw[xE (roT x) (j::p) (fun ys e=>by cases x<;>simp[roT]at e),hs]
  rw[Jv]at hv;split at hv
  ·exact zCI x cs o (j::p) hx h.1 i v hv
  ·have:=zDY xs cs p (j+1) (o+x.size) (fun z i y hy=>by
    have:=hd z (i+1) y (by simpa using hy);simp only[Kf,T.sizes]at this;rw[show j+1+i=j+(i+1)from by omega,show o+x.size+T.sizes (xs.take i)=o+(x.size+T.sizes (xs.take i))from L7 ..];exact this) h.2 _ v hv
   rwa [gn,show o+x.size+(i-x.size)=o+i from by omega]at this
end
mutual
theorem zHG:(u:T)→Top (roT u)
 |.agg xs=>by simp only[roT,Top];exact zF5 xs
 |.lit _|.any|.sl _ _|.ptr _|.mp _ _|.ro _|.same _ _|.addr _ _|.sub _ _ _ _ _|.tup _=>by simp[roT,Top]
theorem zF5:(xs:List T)→xV (roT.roTs xs)
 | []=>by simp only[roT.roTs,xV]
 |x::xs=>by simp only[roT.roTs,xV];exact⟨zHG x,zF5 xs⟩
end
end
section
variable {P:Program}{Γ:Ctx}{E:Env}{o:Oper}{d:Nat}
theorem zHH{G:Gh}{w:World}(hm:Mem Γ G w){b:Nat}{cs:Array Value}{e:TypeId}{fr:Nat×Nat}(h:Γ.St b=df (.cells cs e fr))(i:Nat):w.cell? ⟨b,i,dg⟩=cs[i]?:=by simp[World.cell?,hm.st b _ h]
theorem zGK(x:Operand)(T':TypeId)(ds:TypeDesc)(ti:TypeInfo)(u:T)(ho:o.op=.load T' x)(gb:o.dst=df d)(hd:d<Γ.N)
  (hT:P.underlying T'=df ds)(hi:P.info? T'=df ti)(eF:zCr ds= !u.single)(gp:ti.size=u.size)
  (hx:opT E x=df (.ro (.ptr u))):yN P Γ o E (E.app [(d,df (roT u))] [(d,0)]):=by
 refine yN.value gb fun a w G ga=>?_
 have h1:=zEH ga hx;simp only[RoC]at h1;obtain⟨b,o',cs',e,fr,h2,h3,h4⟩:=h1;have fd:a.eval x=.pointer (df ⟨b,o',dg⟩):=by simpa using h2
 have gO:∀xs,u≠.tup xs:=by rintro xs rfl;simp only[RoC]at h4
 let f:List Nat→Value:=fun z=>uT (zA9 u cs' o' z.reverse)
 have hz:∀z,(G.put d f).hd d (z++[])=uT (zA9 u cs' o' z.reverse):=fun z=>by rw[Gh.put_self,J9]
 refine⟨mkV (G.put d f) d (roT u) [],w,?_,_,yZ ga rfl hd f (fun z=>sZ _) _ _ rfl (zJ7 u cs' o' [] hz h4) (zHG u)⟩;cases u with
 |agg xs=>
  have h5:∀j v,(zJ (G.put d f) d (roT.roTs xs) [] 0)[j]? =df v→w.cell? ((⟨b,o',dg⟩:Addr).add j)=df v:=by intro j v hv;rw[wV,zHH ga.mem h3];exact zCI (.agg xs) cs' o' [] hz h4 j v (by simpa only[roT,vals]using hv)
  have h6:=run_loadCells_list (P:=P) (w:=w) ⟨b,o',dg⟩ _ h5;rw[yS,zB0]at h6;simp only[T.size]at gp;simp[T.single]at eF;simp[execOp,ho,fd,Instr.loadAt,vN,loadVar,uL hT,eF,sizeOf,typeInfo,hi,gp,h6,mkV,roT]
 |tup xs=>exact absurd rfl (gO xs)
 |_=>
  obtain⟨v,h5,h6,h7⟩:=qA rfl h4;have h8:w.cell? ⟨b,o',dg⟩=df v:=by rw[zHH ga.mem h3];exact h5
  simp[T.single]at eF;have h9:f []=v:=by show uT (zA9 _ cs' o' _)=v;rw[sH rfl];simp[Jo,h5,sG h6]
  simp[execOp,ho,fd,Instr.loadAt,vN,loadVar,uL hT,eF,load,Sem.run,h8,mkV,roT,Gh.put_self,h9]
def zDZ(E:Env)(x:Operand):Bool:=
 match opT E x with
 |some (.addr _ _)|some (.ro (.ptr _))=>dh
 |_=>match xZ E x with
  |some (_,_,.ptr _)=>dh
  |some (_,_,.ro (.ptr _))=>dh
  |_=>di
theorem zJ9{G:Gh}{a:Act}{w:World}(ga:Rep Γ E G a.tmps w){x:Operand}(h:zDZ E x=dh):∃ad,a.eval x=.pointer (df ad):=by
 unfold zDZ at h;split at h
 ·rename_i r q hx
  cases x with
  |tmp s=>
   obtain⟨h1,h2,_⟩:=ga.ent s _ hx;simp only[R]at h2;exact⟨_,by rw[xH h1,yM rfl,h2]⟩
  |const v=>simp only[opT]at hx;split at hx<;>simp at hx
  |func f=>simp[opT]at hx
  |global g=>simp[opT]at hx
 ·rename_i u hx
  have:=zEH ga hx;simp only[RoC]at this;obtain⟨b,o',_,_,_,h1,_⟩:=this;exact⟨_,by simpa using h1⟩
 ·split at h
  ·rename_i hl
   obtain⟨h1,h2⟩:=wU ga hl rfl;simp only[R]at h1;obtain⟨b,cs,e,h3,_⟩:=h1;exact⟨_,by rw[h2,h3]⟩
  ·rename_i hl
   obtain⟨h1,h2⟩:=wU ga hl rfl;simp only[R,RoC]at h1;obtain⟨b,o',_,_,_,h3,_⟩:=h1;exact⟨_,by rw[h2];simpa using h3⟩
  ·cases h
theorem zNV(x:Operand)(t:T)(ho:o.op=.nilCheck x)(gb:o.dst=df d)(hd:d<Γ.N)(hx:opT E x=df t)(hp:zDZ E x=dh)(ht:∀xs,t≠.tup xs)
  (gf:∀s,x=.tmp s→s≠d)(gC:T.okB [(d,0)] (wP x t)=dh):yN P Γ o E (E.app [(d,df (wP x t))] [(d,0)]):=by
 refine yN.value gb fun a w G ga=>?_
 obtain⟨f,hf,h1,h2⟩:=opd ga hx ht;obtain⟨h3,h4⟩:=h1 d gf gC;obtain⟨ad,h5⟩:=zJ9 ga hp;refine⟨a.eval x,w,?_,_,yZ ga rfl hd f hf _ _ h3 h4 h2⟩;simp[execOp,ho,h5]
theorem zF6{G:Gh}{s:Nat}:(xs:List T)→ ∀(p:List Nat)(j i:Nat)(x:T),xs[i]? =df x→(vW G s xs p j)[i]? =df (wR G s x ((j+i)::p))
 | [],_,_,_,_,h=>by simp at h
 |y::ys,p,j,i,x,h=>by
  cases i with
  |zero=>simp at h;subst h;simp[vW]
  |succ i=>
   have:=zF6 (G:=G) (s:=s) ys p (j+1) i x (by simpa using h);rw[show j+(i+1)=j+1+i from by omega];simpa[vW]using this
theorem zGL(s i:Nat)(ts:List T)(t:T)(ho:o.op=.extract (.tmp s) i)(gb:o.dst=df d)(hd:d<Γ.N)(hs:E s=df (.tup ts))(hi:ts[i]? =df t)(ht:∀xs,t≠.tup xs)
  (gf:s≠d)(gC:T.okB [(d,0)] (cpT s t [i])=dh):yN P Γ o E (E.app [(d,df (cpT s t [i]))] [(d,0)]):=by
 refine yN.value gb fun a w G ga=>?_
 obtain⟨h1,h2,_⟩:=ga.ent s _ hs;simp only[R]at h2;have h3:=sO ts [] 0 i t h2 hi;simp only[J8]at h3;have h4:=zF6 (G:=G) (s:=s) ts [] 0 i t hi;simp only[J8]at h4;have hk:=G.put_keep (w:=w) (w':=w) rfl d (fun z=>G.hd s (z++[i]));have hz:∀z,(G.put d (fun z=>G.hd s (z++[i]))).hd d (z++[])=G.hd s (z++[i]):=fun z=>by rw[Gh.put_self,J9]
 refine⟨wR G s t [i],w,?_,_,yZ ga rfl hd (fun z=>G.hd s (z++[i])) (fun z=>ga.mem.one _ _) _ _ (tO t [i] [] ht hz).symm
  (zA7 (fun p=>G.put_other _ p gf) t [i] [] hz ht (hk.keepR (sD _ (vR s t [i]) gC)) h3) (vR s t [i])⟩
 simp[execOp,ho,xH h1,mkV,Instr.extract,h4]
def kE(E:Env)(x:Option Operand)(dflt n:Nat):Prop:=
 match x with
 |none=>n=dflt
 |some y=> ∃kd,opT E y=df (.lit (.int kd n))
theorem zCJ{St:Stb}:(xs:List T)→ ∀(cs:Array Value)(o k l:Nat),RoL St xs cs o k→RoL St (xs.drop l) cs (o+l*k) k
 | [],_,_,_,_,_=>by simp[RoL]
 |x::xs,cs,o,k,l,h=>by
  cases l with
  |zero=>simpa using h
  |succ l=>
   simp only[RoL]at h;have:=zCJ xs cs (o+k) k l h.2
   rwa [List.drop_succ_cons,show o+(l+1)*k=o+k+l*k from by rw[Kl];omega]
theorem zCK{St:Stb}:(xs:List T)→ ∀(cs:Array Value)(o k l:Nat),RoL St xs cs o k→RoL St (xs.take l) cs o k
 | [],_,_,_,_,_=>by simp[RoL]
 |x::xs,cs,o,k,l,h=>by
  cases l with
  |zero=>simp[RoL]
  |succ l=>simp only[RoL,Kf]at h ⊢;exact⟨h.1,zCK xs cs _ k l h.2⟩
theorem zAi{P:Program}{G:Gh}{a:Act}{w:World}(ga:Rep Γ E G a.tmps w){x:Operand}{kd:IntKind}{n y:Nat}{c:BoundsCode}(hx:opT E x=df (.lit (.int kd n)))(h:n≤y):
  (Instr.sliceBound (a.eval x) y c).run P w=.ok n w:=by
 rw[(yV ga hx).1];have:(n:Int)≤(y:Int):=by omega
 simp[Instr.sliceBound,asIntOf,this]
theorem zCL{P:Program}{G:Gh}{a:Act}{w:World}(ga:Rep Γ E G a.tmps w){lo hi:Option Operand}{l h n c:Nat}(eL:kE E lo 0 l)(eO:kE E hi n h)(h1:l≤h)(h2:h≤c):
  (Instr.sliceBounds dh n c (lo.map a.eval) (hi.map a.eval) dg).run P w=.ok (l,h,c) w:=by
 cases lo with
 |none=>
  cases hi with
  |none=>simp only[kE]at eL eO;subst eL;subst eO;simp[Instr.sliceBounds]
  |some y=>simp only[kE]at eL eO;obtain⟨kd,hy⟩:=eO;subst eL;simp[Instr.sliceBounds,zAi ga hy h2]
 |some x=>
  obtain⟨kd,hx⟩:=eL;cases hi with
  |none=>simp only[kE]at eO;subst eO;simp[Instr.sliceBounds,zAi ga hx h1]
  |some y=>obtain⟨kd',hy⟩:=eO;simp[Instr.sliceBounds,zAi ga hy h2,zAi ga hx h1]
theorem zF7(x:Operand)(lo hi:Option Operand)(t e:TypeId)(ti:TypeInfo)(r:Nat)(q:List Nat)(k:Nat)(xs:List T)(l h:Nat)(ho:o.op=.slice t x lo hi dg)(gb:o.dst=df d)(hd:d<Γ.N)
  (ht:P.underlying t=df (.slice e))(he:P.info? e=df ti)(hk:ti.size=k)(hx:xZ E x=df (r,q,.ro (.sl k xs)))(eL:kE E lo 0 l)(eO:kE E hi xs.length h)(h1:l≤h)(h2:h≤xs.length):
  yN P Γ o E (E.app [(d,df (.ro (.sl k ((xs.drop l).take (h-l)))))] [(d,0)]):=by
 refine yN.value gb fun a w G ga=>?_
 obtain⟨g1,g2⟩:=wU ga hx rfl;obtain⟨a',c,g4,g5,g6,g7⟩:=zBc g1;have g8:=zCL (P:=P) ga eL eO h1 (Ke h2 g5);have gn:((xs.drop l).take (h-l)).length=h-l:=by simp;omega
 refine⟨.slice (if c=l then a' else a'.map (·.add (l*k))) (h-l) (c-l),w,?_,_,yZ ga rfl hd (fun _=>.slice (if c=l then a' else a'.map (·.add (l*k))) (h-l) (c-l)) (fun _=>rfl) _ _ (by simp[mkV,Gh.put]) ?_ (by simp[Top])⟩
 ·simp only[execOp,ho,U8]
  simp[Instr.sliceAt,Instr.slice,run_underlying ht,g2,g4,g8,sizeOf,typeInfo,he,hk]
 ·simp only[R,Gh.put_self,RoC]
  refine⟨_,_,by rw[gn];rfl,by omega,by omega,?_⟩;intro gf;have pB:xs≠[]:=by rintro rfl;simp at gf
  obtain⟨b,o',cs',e',fr,rfl,h3,h4⟩:=g7 pB;have gN:c≠l:=by rintro rfl;apply gf;apply Ji;omega
  exact⟨b,o'+l*k,cs',e',fr,by simp[gN,wV],h3,zCK _ _ _ _ _ (zCJ _ _ _ _ _ h4)⟩
theorem zEI(x:Operand)(lo hi:Option Operand)(t e:TypeId)(ti:TypeInfo)(r:Nat)(q:List Nat)(k:Nat)(xs:List T)(l h:Nat)(ho:o.op=.slice t x lo hi dg)(gb:o.dst=df d)(hd:d<Γ.N)
  (ht:P.underlying t=df (.slice e))(he:P.info? e=df ti)(hk:ti.size=k)(hx:xZ E x=df (r,q,.sl k xs))(eL:kE E lo 0 l)(eO:kE E hi xs.length h)(h1:l≤h)(h2:h≤xs.length)(gU:r≠d):
  yN P Γ o E (E.app [(d,df (.sub r q k l h))] [(d,0)]):=by
 refine yN.value gb fun a w G ga=>?_
 obtain⟨g1,g2⟩:=wU ga hx rfl;obtain⟨a',c,g4⟩:=zHE g1;have g5:xs.length≤c:=by
  simp only[R]at g1;rcases g1 with⟨rfl,_⟩|⟨b,o0,cap,cs,e,g,_,g',_⟩
  ·simp
  ·rw[g4]at g;simp at g;omega
 have g8:=zCL (P:=P) ga eL eO h1 (Ke h2 g5);refine⟨zDV (G.hd r q) k l h,w,?_,_,yZ ga rfl hd (fun _=>zDV (G.hd r q) k l h) (fun _=>by rw[g4];rfl) _ _ (by simp[mkV,Gh.put]) ?_ (by simp[Top])⟩
 ·simp only[execOp,ho,U8]
  simp[Instr.sliceAt,Instr.slice,run_underlying ht,g2,g4,g8,sizeOf,typeInfo,he,hk,zDV]
 ·simp only[R,Gh.put_self]
  rw[Gh.put_other _ _ _ gU]
end
end Go.Ab

namespace Go.Ab
open Go
def T.inT:T→List Nat→Bool
 |_,[]=>dh
 |.agg xs,i::f=>match xs[i]? with
  |some x=>x.inT f
  |none=>di
 |.any,_::_|.lit _,_::_|.ro _,_::_|.same _ _,_::_|.addr _ _,_::_|.sub _ _ _ _ _,_::_|.sl _ _,_::_|.ptr _,_::_|.mp _ _,_::_|.tup _,_::_=>di
termination_by structural _ f=>f
def T.offT:T→List Nat→Nat
 |_,[]=>0
 |.agg xs,i::f=>match xs[i]? with
  |some x=>T.sizes (xs.take i)+x.offT f
  |none=>0
 |.any,_::_|.lit _,_::_|.ro _,_::_|.same _ _,_::_|.addr _ _,_::_|.sub _ _ _ _ _,_::_|.sl _ _,_::_|.ptr _,_::_|.mp _ _,_::_|.tup _,_::_=>0
termination_by structural _ f=>f
theorem zCM{t:T}(h:t.single=dh){f:List Nat}(hf:f≠[]):t.inT f=di:=by
 cases f with
 |nil=>grind
 |cons i f=>cases t<;>simp[T.single]at h<;>rfl
mutual
def zJA:T→List Nat→Nat→Option (List Nat)
 |.agg xs,p,o=>kF xs p 0 o
 |.any,p,o|.lit _,p,o|.ro _,p,o|.same _ _,p,o|.addr _ _,p,o|.sub _ _ _ _ _,p,o|.sl _ _,p,o|.ptr _,p,o|.mp _ _,p,o|.tup _,p,o=>if o=0 then df p else dg
def kF:List T→List Nat→Nat→Nat→Option (List Nat)
 | [],_,_,_=>dg
 |x::xs,p,j,o=>if o<x.size then zJA x (j::p) o else kF xs p (j+1) (o-x.size)
end
mutual
def T.okTup:T→Bool
 |.tup _=>di
 |.agg xs=>zY xs
 |.any|.lit _|.ro _|.same _ _|.addr _ _|.sub _ _ _ _ _|.sl _ _|.ptr _|.mp _ _=>dh
def zY:List T→Bool
 | []=>dh
 |x::xs=>x.okTup&&zY xs
end
theorem zAA:(xs:List T)→ ∀(p:List Nat)(j o:Nat),T.sizes xs≤o→kF xs p j o=dg
 | [],_,_,_,_=>by rfl
 |x::xs,p,j,o,h=>by simp only[T.sizes]at h;simp only[kF];rw[if_neg (by omega)];exact zAA xs p (j+1) _ (by omega)
section
variable {G:Gh}{w:World}{d:Nat}
mutual
theorem zNW:(x:T)→ ∀(p:List Nat)(B o:Nat),(∀xs,x≠.tup xs)→x.okTup=dh→
  (∀f,x.inT f=dh→G.ad d (f.reverse++p)=⟨B,o+x.offT f,dg⟩)→(∀j p',j<x.size→zJA x p j=df p'→G.lb B (o+j)=df (di,d,p'))→
  (∀j v,(vals G d x p)[j]? =df v→zT w B (o+j)=df v)→Loc G w d x p B o
 |.agg xs,p,B,o,_,hn,ha,hl,hc=>by
  simp only[Loc];refine⟨by simpa[T.offT]using ha [] rfl,zCv xs p 0 B o (by grind[T.okTup]) (fun i x hx f hf=>?_) (fun j p' hj hp=>?_) (by grind[vals])⟩
  ·have:=ha (i::f) (by grind[T.inT])
   grind[T.offT]
  grind[T.size,zJA]
 |.any,p,B,o,_,_,ha,hl,hc|.lit _,p,B,o,_,_,ha,hl,hc|.ro _,p,B,o,_,_,ha,hl,hc|.same _ _,p,B,o,_,_,ha,hl,hc|.addr _ _,p,B,o,_,_,ha,hl,hc|.sub _ _ _ _ _,p,B,o,_,_,ha,hl,hc|.sl _ _,p,B,o,_,_,ha,hl,hc|.ptr _,p,B,o,_,_,ha,hl,hc|.mp _ _,p,B,o,_,_,ha,hl,hc=>by simp only[Loc];exact⟨by simpa[T.offT]using ha [] rfl,by simpa using hl 0 p (by simp[T.size]) (by rfl),by simpa using hc 0 (G.hd d p) (by simp[vals])⟩
 |.tup xs,_,_,_,h,_,_,_,_=>absurd rfl (h xs)
theorem zCv:(xs:List T)→ ∀(p:List Nat)(j B o:Nat),zY xs=dh→
  (∀i x,xs[i]? =df x→ ∀f,x.inT f=dh→G.ad d (f.reverse++((j+i)::p))=⟨B,o+(T.sizes (xs.take i)+x.offT f),dg⟩)→
  (∀i p',i<T.sizes xs→kF xs p j i=df p'→G.lb B (o+i)=df (di,d,p'))→
  (∀i v,(zJ G d xs p j)[i]? =df v→zT w B (o+i)=df v)→xS G w d xs p j B o
 | [],_,_,_,_,_,_,_,_=>by simp only[xS]
 |x::xs,p,j,B,o,hn,ha,hl,hc=>by
  simp only[zY,J2]at hn;have gO:∀ys,x≠.tup ys:=by rintro ys rfl;grind[T.okTup]
  simp only[xS];refine⟨zNW x (j::p) B o gO hn.1 (fun f hf=>by simpa[T.sizes]using ha 0 x (by simp) f hf) (fun i p' hi hp=>hl i p' (by grind[T.sizes]) (by simp only[kF,hi,if_true];exact hp)) (fun i v hv=>hc i v ?_),
   zCv xs p (j+1) B (o+x.size) hn.2 (fun i y hy f hf=>?_) (fun i p' hi hp=>?_) (fun i v hv=>?_)⟩
  ·grind[zJ]
  ·have:=ha (i+1) y (by grind) f hf
   grind[T.sizes]
  ·have:=hl (x.size+i) p' (by grind[T.sizes]) (by simp only[kF];grind)
   grind
  ·have:=hc (x.size+i) v (by
    grind[zJ,xE])
   grind
end
end
structure MvC (G:Gh) (w:World) (G':Gh) (w':World) (s:Nat) (p:List Nat) (s':Nat) (p':List Nat) (t:T):Prop where
 hd:∀z,G'.hd s' (z++p')=G.hd s (z++p)
 ad:∀z,t.inT z.reverse=di→G'.ad s' (z++p')=G.ad s (z++p)
 lb:∀b o f z,(f=dh∨t.inT z.reverse=di)→G.lb b o=df (f,s,z++p)→G'.lb b o=df (f,s',z++p')∧zT w' b o=zT w b o
 ow:∀b z,G.ow b=df (s,z++p)→G'.ow b=df (s',z++p')
 blk:Blk w w'
 mp:∀b z(ms:Obj)(_:ms.nocell=dh),G.ow b=df (s,z++p)→w.heap[b]? =df ms→w'.heap[b]? =df ms
section
variable {St:Stb}{G:Gh}{w:World}{G':Gh}{w':World}{s:Nat}{s':Nat}
theorem MvC.moves{p p':List Nat}{t:T}(h:MvC G w G' w' s p s' p' t)(ht:t.single=dh):zCC G w G' w' s p s' p' where
 hd:=h.hd
 ad z hz:=h.ad z (zCM ht (by simp_all))
 lb b o f z hz _ hl:=h.lb b o f z (.inr (zCM ht (by simp_all))) hl
 ow b z _ hl:=h.ow b z hl
 blk:=h.blk
 mp:=h.mp
 sp b o _ hl:=by simpa using h.lb b o dh [] (.inl rfl) (by grind)
 ow0 b hl:=by simpa using h.ow b [] (by grind)
theorem MvC.field{p p':List Nat}{xs:List T}(h:MvC G w G' w' s p s' p' (.agg xs)){j:Nat}{x:T}(hx:xs[j]? =df x):MvC G w G' w' s (j::p) s' (j::p') x where
 hd z:=by have:=h.hd (z++[j]);grind
 ad z hz:=by
  have:=h.ad (z++[j]) (by grind[T.inT])
  grind
 lb b o f z hf hl:=by
  have:=h.lb b o f (z++[j]) (by grind[T.inT]) (by grind)
  grind
 ow b z hl:=by
  have:=h.ow b (z++[j]) (by grind)
  grind
 blk:=h.blk
 mp b z ms c hl hb:=h.mp b (z++[j]) ms c (by simpa using hl) hb
mutual
theorem zF8:(t:T)→ ∀(p p':List Nat),t.okTup=dh→MvC G w G' w' s p s' p' t→yA (tB G G') t→R St G w s t p→R St G' w' s' t p'
 |.agg xs,p,p',hn,h,hk,hr=>by
  simp only[R,yA,T.okTup]at hr hk hn ⊢
  exact zJB xs p p' 0 hn (fun j x hx=>by rw[J8];exact h.field hx) hk hr
 |.any,p,p',_,h,hk,hr|.lit _,p,p',_,h,hk,hr|.ro _,p,p',_,h,hk,hr|.same _ _,p,p',_,h,hk,hr|.addr _ _,p,p',_,h,hk,hr|.sub _ _ _ _ _,p,p',_,h,hk,hr|.sl _ _,p,p',_,h,hk,hr|.ptr _,p,p',_,h,hk,hr|.mp _ _,p,p',_,h,hk,hr=>
  tE (h.moves rfl) _ hk hr
 |.tup _,_,_,hn,_,_,_=>by grind[T.okTup]
theorem zJB:(xs:List T)→ ∀(p p':List Nat)(j:Nat),zY xs=dh→(∀i x,xs[i]? =df x→MvC G w G' w' s ((j+i)::p) s' ((j+i)::p') x)→yL (tB G G') xs→RF St G w s xs p j→RF St G' w' s' xs p' j
 | [],_,_,_,_,_,_,_=>by simp only[RF]
 |x::xs,p,p',j,hn,h,hk,hr=>by
  simp only[RF,yL,zY,J2]at hr hk hn ⊢
  exact⟨zF8 x (j::p) (j::p') hn.1 (by simpa using h 0 x (by simp)) hk.1 hr.1,zJB xs p p' (j+1) hn.2 (fun i y hy=>by
   have:=h (i+1) y (by grind)
   grind) hk.2 hr.2⟩
end
end
theorem zHI{St:Stb}{G:Gh}{w:World}{s:Nat}:(xs:List T)→ ∀(p:List Nat)(j:Nat),(∀i x,xs[i]? =df x→R St G w s x ((j+i)::p))→RF St G w s xs p j
 | [],_,_,_=>by simp only[RF]
 |x::xs,p,j,h=>by
  simp only[RF];exact⟨by simpa using h 0 x (by simp),zHI xs p (j+1) (fun i y hy=>by
   have:=h (i+1) y (by grind)
   grind)⟩
theorem zJC{St:Stb}{G:Gh}{w:World}{s:Nat}{k:Nat}:(xs:List T)→ ∀(p:List Nat)(j b o:Nat),(∀x∈xs,x.size=k)→xS G w s xs p j b o→RF St G w s xs p j→RL St G w s xs p j b o k
 | [],_,_,_,_,_,_,_=>by simp only[RL]
 |x::xs,p,j,b,o,hk,hl,hr=>by
  simp only[RL,xS,RF]at hl hr ⊢
  have h1:=hk x (by simp);exact⟨⟨hl.1,h1⟩,hr.1,zJC xs p (j+1) b (o+k) (by grind) (by grind) hr.2⟩
theorem yU{k:Nat}:(xs:List T)→(∀x∈xs,x.size=k)→T.sizes xs=xs.length*k
 | [],_=>by simp[T.sizes]
 |x::xs,h=>by simp[T.sizes,yU xs (fun y hy=>h y (by simp[hy])),h x (by simp),Kl];omega
def Gh.nb(G:Gh)(d B:Nat)(xs:List T)(src:Nat→Option (Nat×List Nat))(φ:Nat→List Nat→Option (List Nat))(f:Nat→List Nat→Value)(gJ:Value):Gh where
 hd s z:=if s=d then(match z.getLast? with
  |some i=>f i z.dropLast
  |none=>gJ)else G.hd s z
 ad s z:=if s=d then(if(T.agg xs).inT z.reverse then⟨B,(T.agg xs).offT z.reverse,dg⟩else match z.getLast? with
  |some i=>(match src i with
   |some (x,q)=>G.ad x (z.dropLast++q)
   |none=>default)
  |none=>default)else G.ad s z
 lb b o:=if b=B then df (match kF xs [] 0 o with
  |some p=>(di,d,p)
  |none=>(dh,d,[]))else match G.lb b o with
  |some (fl,s,z)=>(match φ s z with
   |some z'=>df (fl,d,z')
   |none=>df (fl,s,z))
  |none=>dg
 ow b:=if b=B then df (d,[])else match G.ow b with
  |some (s,z)=>(match φ s z with
   |some z'=>df (d,z')
   |none=>df (s,z))
  |none=>dg
theorem zAj{Γ:Ctx}{G:Gh}{w w':World}(hm:Mem Γ G w){cells:Array Value}{e:TypeId}(hw:w'.heap=w.heap.push (.cells cells e))(d:Nat)(xs:List T)
  (src:Nat→Option (Nat×List Nat))(φ:Nat→List Nat→Option (List Nat))(f:Nat→List Nat→Value)(gJ:Value)(chg:Chg)
  (gC:zY xs=dh)(hf:∀(i:Nat)(z:List Nat),(f i z).oneCell'=dh)(hh:gJ.oneCell'=dh)
  (hφ:∀(i:Nat) u x q(z:List Nat),xs[i]? =df u→src i=df (x,q)→φ x (z++q)=df (z++[i]))
  (tt:∀(i:Nat) u x q,xs[i]? =df u→src i=df (x,q)→(∀z,f i z=G.hd x (z++q))∧R Γ.St G w x u q∧zK u∧x≠d)
  (mQ:∀(i:Nat) u,xs[i]? =df u→src i=dg→ ∀(G2:Gh)(w2:World),(∀z,G2.hd d (z++[i])=f i z)→R Γ.St G2 w2 d u [i])
  (eW:∀(G2:Gh),(∀i z,G2.hd d (z++[i])=f i z)→ ∀(o:Nat)(v:Value),(zJ G2 d xs [] 0)[o]? =df v→cells[o]? =df v)
  (bn:∀s p,(∀n,(s,n)∉(d,0)::chg)→φ s p=dg)(ho:w'.os=w.os:=by rfl)(hq:w'.output=w.output:=by rfl):
  uK ((d,0)::chg) G w (G.nb d w.heap.size xs src φ f gJ) w'∧Mem Γ (G.nb d w.heap.size xs src φ f gJ) w'∧
  xS (G.nb d w.heap.size xs src φ f gJ) w' d xs [] 0 w.heap.size 0∧RF Γ.St (G.nb d w.heap.size xs src φ f gJ) w' d xs [] 0∧
  w'.heap[w.heap.size]? =df (.cells cells e):=by
 have gI:w'.heap[w.heap.size]? =df (.cells cells e):=by grind
 have gj:∀b,b<w.heap.size→w'.heap[b]? =w.heap[b]?:=fun b hb=>by rw[hw,Array.getElem?_push];grind
 have gp:w'.heap.size=w.heap.size+1:=by grind
 have ea:∀b o,b<w.heap.size→zT w' b o=zT w b o:=fun b o hb=>by simp[zT,World.cell?,gj b hb]
 have gz:Blk w w':=fun b cs e' h=>⟨cs,by rw[gj b (by grind)];exact h,rfl⟩
 have gv:=hm.one
 generalize gg:G.nb d w.heap.size xs src φ f gJ=G'
 have ghd:∀i z,G'.hd d (z++[i])=f i z:=fun i z=>by rw[←gg];simp[Gh.nb]
 have gad:∀g,(T.agg xs).inT g=dh→G'.ad d g.reverse=⟨w.heap.size,(T.agg xs).offT g,dg⟩:=fun g hg=>by rw[←gg];simp[Gh.nb,hg]
 have gadm:∀i x q z,src i=df (x,q)→(T.agg xs).inT (i::z.reverse)=di→G'.ad d (z++[i])=G.ad x (z++q):=fun i x q z hs gT=>by rw[←gg];simp[Gh.nb,gT,hs]
 have glb:∀o p,kF xs [] 0 o=df p→G'.lb w.heap.size o=df (di,d,p):=fun o p h=>by rw[←gg];simp[Gh.nb,h]
 have glbm:∀b o fl x z z',G.lb b o=df (fl,x,z)→φ x z=df z'→G'.lb b o=df (fl,d,z'):=fun b o fl x z z' h1 h2=>by have:=(hm.lb b o _ h1).1;rw[←gg];simp[Gh.nb,h1,h2,show b≠w.heap.size from by omega]
 have gowm:∀b x z z',G.ow b=df (x,z)→φ x z=df z'→G'.ow b=df (d,z'):=fun b x z z' h1 h2=>by have:=(hm.ow b _ h1).1;rw[←gg];simp[Gh.nb,h1,h2,show b≠w.heap.size from by omega]
 have gf:∀s p,Off ((d,0)::chg) s p→s≠d:=fun s p h e=>absurd (h 0 (by simp[e])) (by simp)
 have gw:uK ((d,0)::chg) G w G' w':=by
  refine⟨fun s p h=>?_,fun s p h=>?_,fun b o fl s p _ hl h=>⟨?_,ea b o (hm.lb b o _ hl).1⟩,fun b s p hl h=>?_,gz,fun b s p ms c hl _ hb=>by rw[gj b (hm.ow b _ hl).1];exact hb⟩
  ·rw[←gg];simp[Gh.nb,gf s p h]
  ·rw[←gg];simp[Gh.nb,gf s p h]
  ·have:=(hm.lb b o _ hl).1
   rw[←gg];simp[Gh.nb,hl,bn s p h,show b≠w.heap.size from by omega]
  ·have:=(hm.ow b _ hl).1
   rw[←gg];simp[Gh.nb,hl,bn s p h,show b≠w.heap.size from by omega]
 refine⟨gw,?_,?_,?_,gI⟩
 ·
  have hB:sE Γ w' w.heap.size:=⟨by omega,.inl hm.sz,by
   cases gA:Γ.St w.heap.size with
   |none=>rfl
   |some x=>have:=hm.st _ x gA;simp at this⟩
  have fj:∀b,sE Γ w b→sE Γ w' b:=fun b h=>⟨by have:=h.1;omega,h.2⟩
  refine⟨fun s p=>?_,fun b o l hl=>?_,fun b l hl=>?_,fun b x hx=>?_,fun b h1 h2=>?_,by have:=hm.sz;omega,hm.bk.trans gz ho hq⟩
  ·rw[←gg]
   simp only[Gh.nb];split
   ·split
    ·exact hf _ _
    ·exact hh
   ·exact gv s p
  ·rw[←gg]at hl
   simp only[Gh.nb]at hl;split at hl
   ·grind
   ·split at hl
    ·rename_i hg;exact fj b (hm.lb b o _ hg)
    ·cases hl
  ·rw[←gg]at hl
   simp only[Gh.nb]at hl;split at hl
   ·grind
   ·split at hl
    ·rename_i hg;exact fj b (hm.ow b _ hg)
    ·cases hl
  ·have:=hm.st b x hx
   rw[gj b (K3.1 this).1];exact this
  ·rw[gj b (Uy h1 hm.sz)]
   exact hm.fr b h1 h2
 ·
  refine zCv xs [] 0 w.heap.size 0 gC (fun i x hx g hg=>?_) (fun i p' _ hp=>by simpa using glb i p' hp) (fun i v hv=>?_)
  ·have:=gad (i::g) (by simp only[T.inT,hx];exact hg)
   simpa[T.offT,hx]using this
  ·have:=eW G' ghd i v hv
   rw[J8];simp[zT,World.cell?,gI,this]
 ·
  refine zHI xs [] 0 (fun i u hu=>?_);rw[J8];cases hs:src i with
  |none=>exact mQ i u hu hs G' w' (fun z=>ghd i z)
  |some xq=>
   obtain⟨x,q⟩:=xq;obtain⟨h1,h2,h3,h4⟩:=tt i u x q hu hs;have gT:∀g,(T.agg xs).inT (i::g)=u.inT g:=fun g=>by simp only[T.inT,hu]
   refine zF8 u q [i] (okTups_get xs gC i u hu) ⟨fun z=>by rw[ghd,h1],fun z hz=>gadm i x q z hs (by rw[gT];exact hz),fun b o fl z hz hl=>⟨glbm b o fl x _ _ hl (hφ i u x q z hu hs),ea b o (hm.lb b o _ hl).1⟩,
    fun b z hl=>gowm b x _ _ hl (hφ i u x q z hu hs),gz,fun b z ms c hl hb=>by rw[gj b (hm.ow b _ hl).1];exact hb⟩ (yA.mono (by simp) u h3) h2
where okTups_get:(xs:List T)→zY xs=dh→ ∀(i:Nat)(x:T),xs[i]? =df x→x.okTup=dh
 | [],_,_,_,h=>by simp at h
 |y::ys,hk,i,x,h=>by
  simp only[zY,J2]at hk;cases i with
  |zero=>grind
  |succ i=>exact okTups_get ys hk.2 i x (by grind)
end Go.Ab

namespace Go.Ab
open Go
inductive zU where
 |slot (s:Nat) (t:T)
 |zero (u:T)
def zU.tree:zU→T
 |.slot _ t=>t
 |.zero u=>u
def vL:T→Bool
 |.lit _|.ro _=>di
 |_=>dh
mutual
def T.zOk:T→Bool
 |.lit v=>v.oneCell'
 |.sl _ xs=>xs.isEmpty
 |.agg xs=>tF xs
 |.any|.ro _|.same _ _|.addr _ _|.sub _ _ _ _ _|.ptr _|.tup _|.mp _ _=>di
def tF:List T→Bool
 | []=>dh
 |x::xs=>x.zOk&&tF xs
end
def zhd:T→List Nat→Value
 |.agg xs,i::f=>match xs[i]? with
  |some x=>zhd x f
  |none=>.bool di
 |.lit v,_=>v
 |.sl _ _,_=>.slice dg 0 0
 |.agg _,[] |.any,_|.ro _,_|.same _ _,_|.addr _ _,_|.sub _ _ _ _ _,_|.ptr _,_|.tup _,_|.mp _ _,_=>.bool di
termination_by structural _ f=>f
mutual
def wX:T→List Value
 |.lit v=>[v]
 |.sl _ _=>[.slice dg 0 0]
 |.agg xs=>vM xs
 |.any|.ro _|.same _ _|.addr _ _|.sub _ _ _ _ _|.ptr _|.tup _|.mp _ _=>[]
def vM:List T→List Value
 | []=>[]
 |x::xs=>wX x++vM xs
end
section
variable {St:Stb}{G:Gh}{w:World}{d:Nat}
mutual
theorem zEJ:(u:T)→ ∀(p:List Nat),u.zOk=dh→(∀z,G.hd d (z++p)=uT (zhd u z.reverse))→R St G w d u p
 |.lit v,p,h,hd=>by
  simp only[T.zOk,R]at h ⊢
  have:=hd [];rw[Jr]at this;rw[this];exact sG h
 |.sl k xs,p,h,hd=>by simp only[T.zOk,Ug]at h;subst h;have:=hd [];rw[Jr]at this;simp only[R];exact .inl ⟨trivial,dg,by rw[this];rfl⟩
 |.agg xs,p,h,hd=>by
  simp only[T.zOk,R]at h ⊢
  exact zHJ xs p 0 h (fun i x hx z=>by
   rw[J8];have:=hd (z++[i])
   grind[zhd])
 |.any,_,h,_|.ro _,_,h,_|.same _ _,_,h,_|.addr _ _,_,h,_|.sub _ _ _ _ _,_,h,_|.ptr _,_,h,_|.tup _,_,h,_|.mp _ _,_,h,_=>by grind[T.zOk]
theorem zHJ:(xs:List T)→ ∀(p:List Nat)(j:Nat),tF xs=dh→(∀i x,xs[i]? =df x→ ∀z,G.hd d (z++((j+i)::p))=uT (zhd x z.reverse))→RF St G w d xs p j
 | [],_,_,_,_=>by simp only[RF]
 |x::xs,p,j,h,hd=>by
  simp only[tF,J2,RF]at h ⊢
  exact⟨zEJ x (j::p) h.1 (by simpa using hd 0 x (by simp)),zHJ xs p (j+1) h.2 (fun i y hy z=>by
   have:=hd (i+1) y (by grind) z
   grind)⟩
end
end
section
variable {G:Gh}{d:Nat}
mutual
theorem zB1:(u:T)→ ∀(p:List Nat),u.zOk=dh→(∀z,G.hd d (z++p)=uT (zhd u z.reverse))→vals G d u p=wX u
 |.lit v,p,h,hd=>by
  simp only[T.zOk,vals,wX]at h ⊢
  have:=hd []
  grind[zhd,sG]
 |.sl k xs,p,h,hd=>by
  have:=hd []
  grind[vals,wX,zhd,uT,Value.oneCell']
 |.agg xs,p,h,hd=>by
  simp only[T.zOk,vals,wX]at h ⊢
  exact zAB xs p 0 h (fun i x hx z=>by
   rw[J8];have:=hd (z++[i])
   grind[zhd])
 |.any,_,h,_|.ro _,_,h,_|.same _ _,_,h,_|.addr _ _,_,h,_|.sub _ _ _ _ _,_,h,_|.ptr _,_,h,_|.tup _,_,h,_|.mp _ _,_,h,_=>by grind[T.zOk]
theorem zAB:(xs:List T)→ ∀(p:List Nat)(j:Nat),tF xs=dh→(∀i x,xs[i]? =df x→ ∀z,G.hd d (z++((j+i)::p))=uT (zhd x z.reverse))→zJ G d xs p j=vM xs
 | [],_,_,_,_=>by rfl
 |x::xs,p,j,h,hd=>by
  simp only[tF,J2,zJ,vM]at h ⊢
  rw[zB1 x (j::p) h.1 (by simpa using hd 0 x (by simp)),zAB xs p (j+1) h.2 (fun i y hy z=>by
   have:=hd (i+1) y (by grind) z
   grind)]
end
end
mutual
theorem qB:(u:T)→u.zOk=dh→zK u∧u.okTup=dh
 |.lit _,_=>by simp[zK,yA,T.okTup]
 |.sl _ xs,h=>by simp only[T.zOk,Ug]at h;subst h;simp[zK,yA,yL,T.okTup]
 |.agg xs,h=>by simp only[T.zOk]at h;simpa only[zK,yA,T.okTup]using qR xs h
 |.any,h|.ro _,h|.same _ _,h|.addr _ _,h|.sub _ _ _ _ _,h|.ptr _,h|.tup _,h|.mp _ _,h=>by grind[T.zOk]
theorem qR:(xs:List T)→tF xs=dh→yE xs∧zY xs=dh
 | [],_=>by simp[yE,yL,zY]
 |x::xs,h=>by simp only[tF,J2]at h;simp only[yE,yL,zY,J2];exact⟨⟨(qB x h.1).1,(qR xs h.2).1⟩,(qB x h.1).2,(qR xs h.2).2⟩
end
mutual
theorem xJ:(u:T)→u.zOk=dh→(wX u).length=u.size
 |.lit _,_|.sl _ _,_=>by rfl
 |.agg xs,h=>by simp only[T.zOk]at h;simp only[wX,T.size];exact sP xs h
 |.any,h|.ro _,h|.same _ _,h|.addr _ _,h|.sub _ _ _ _ _,h|.ptr _,h|.tup _,h|.mp _ _,h=>by grind[T.zOk]
theorem sP:(xs:List T)→tF xs=dh→(vM xs).length=T.sizes xs
 | [],_=>by rfl
 |x::xs,h=>by simp only[tF,J2]at h;simp only[vM,Je,T.sizes,xJ x h.1,sP xs h.2]
end
def zCN(ps:List zU)(i:Nat):Option (Nat×List Nat):=
 match ps[i]? with
 |some (.slot s t)=>if vL t then df (s,[])else dg
 |_=>dg
def zDN:List zU→Nat→Nat→Option Nat
 | [],_,_=>dg
 |.slot x t::r,i,s=>if vL t&&x==s then df i else zDN r (i+1) s
 |.zero _::r,i,s=>zDN r (i+1) s
def zDO(ps:List zU)(s:Nat)(z:List Nat):Option (List Nat):=
 match zDN ps 0 s with
 |some i=>df (z++[i])
 |none=>dg
def pWr(d:Nat):List zU→Nat→Wr
 | [],_=>[]
 |.slot s t::r,i=>if vL t then(s,df (cpT d t [i]))::pWr d r (i+1)else pWr d r (i+1)
 |.zero _::r,i=>pWr d r (i+1)
def yK:List zU→List Nat
 | []=>[]
 |.slot s t::r=>if vL t then s::yK r else yK r
 |.zero _::r=>yK r
def wY(ps:List zU):Chg:=(yK ps).map fun s=>(s,1)
def vI(G:Gh):zU→List Value
 |.slot s t=>vals G s t []
 |.zero u=>wX u
def pHd(G:Gh)(ps:List zU)(i:Nat)(z:List Nat):Value:=
 match ps[i]? with
 |some (.slot s _)=>G.hd s z
 |some (.zero u)=>uT (zhd u z.reverse)
 |none=>.bool di
structure wS (E:Env) (d:Nat) (ps:List zU):Prop where
 slot:∀s t,zU.slot s t∈ps→E s=df t∧zK t∧t.okTup=dh
 zero:∀u,zU.zero u∈ps→u.zOk=dh
 dist:(d::yK ps).Nodup
theorem qC:(ps:List zU)→ ∀(i0 i s:Nat)(t:T),ps[i]? =df (.slot s t)→vL t=dh→(yK ps).Nodup→zDN ps i0 s=df (i0+i)
 | [],_,_,_,_,h,_,_=>by simp at h
 |.slot x u::r,i0,i,s,t,h,hm,hn=>by
  cases i with
  |zero=>simp at h;obtain⟨rfl,rfl⟩:=h;simp[zDN,hm]
  |succ i=>
   simp only[Um]at h;have gT:s∈yK r:=pSlots_mem r i s t h hm;simp only[zDN]
   by_cases hu:vL u=dh
   ·simp only[yK,hu,if_true,K0]at hn
    have:x≠s:=by grind
    simp only[hu,Qg,beq_iff_eq,this,if_false];rw[qC r (i0+1) i s t h hm hn.2]
    grind
   ·simp only[yK,hu]at hn
    simp only[hu,Ut,L8,if_false];rw[qC r (i0+1) i s t h hm (by grind)]
    grind
 |.zero u::r,i0,i,s,t,h,hm,hn=>by
  cases i with
  |zero=>simp at h
  |succ i=>
   simp only[Um]at h;simp only[zDN];rw[qC r (i0+1) i s t h hm (by grind[yK])]
   grind
where pSlots_mem:(ps:List zU)→ ∀(i s:Nat)(t:T),ps[i]? =df (.slot s t)→vL t=dh→s∈yK ps
 | [],_,_,_,h,_=>by simp at h
 |.slot x u::r,i,s,t,h,hm=>by
  cases i with
  |zero=>simp at h;obtain⟨rfl,rfl⟩:=h;simp[yK,hm]
  |succ i=>
   have:=pSlots_mem r i s t (by grind) hm
   grind[yK]
 |.zero u::r,i,s,t,h,hm=>by
  cases i with
  |zero=>simp at h
  |succ i=>simpa only[yK]using pSlots_mem r i s t (by grind) hm
theorem zAk:(ps:List zU)→ ∀(i0 s:Nat),s∉yK ps→zDN ps i0 s=dg
 | [],_,_,_=>by rfl
 |.slot x u::r,i0,s,h=>by
  simp only[zDN]
  by_cases hu:vL u=dh
  ·simp only[yK,hu,if_true,Jh,not_or]at h
   simp only[hu,Qg,beq_iff_eq,Ne.symm h.1,if_false];exact zAk r _ s h.2
  ·simp only[yK,hu]at h
   simp only[hu,Ut,L8,if_false];exact zAk r _ s (by grind)
 |.zero u::r,i0,s,h=>by simp only[zDN];exact zAk r _ s (by grind[yK])
theorem kG:(ps:List zU)→ ∀(d i0 s:Nat)(x:Option T),(pWr d ps i0).find s=df x→ ∃i t,ps[i]? =df (.slot s t)∧vL t=dh∧x=df (cpT d t [i0+i])
 | [],_,_,_,_,h=>by grind[pWr,Wr.find]
 |.slot y u::r,d,i0,s,x,h=>by
  simp only[pWr]at h;split at h
  ·rename_i hu
   simp only[Wr.find]at h;split at h
   ·rename_i he;subst he;simp at h;exact⟨0,u,by simp,hu,by grind⟩
   ·obtain⟨i,t,h1,h2,h3⟩:=kG r d (i0+1) s x h
    exact⟨i+1,t,by grind,h2,by grind⟩
  ·obtain⟨i,t,h1,h2,h3⟩:=kG r d (i0+1) s x h
   exact⟨i+1,t,by grind,h2,by grind⟩
 |.zero u::r,d,i0,s,x,h=>by simp only[pWr]at h;obtain⟨i,t,h1,h2,h3⟩:=kG r d (i0+1) s x h;exact⟨i+1,t,by grind,h2,by grind⟩
theorem kH:(ps:List zU)→ ∀(d i0 s:Nat),(pWr d ps i0).find s=dg→s∉yK ps
 | [],_,_,_,_=>by simp[yK]
 |.slot y u::r,d,i0,s,h=>by
  simp only[pWr]at h;simp only[yK];split at h
  ·rename_i hu
   simp only[Wr.find]at h;split at h
   ·cases h
   ·rename_i gf
    simp only[hu,if_true,Jh,not_or];exact⟨fun e=>gf e.symm,kH r d _ s h⟩
  ·rename_i hu
   simp only[hu];simpa using kH r d _ s h
 |.zero u::r,d,i0,s,h=>by simp only[pWr]at h;simpa only[yK]using kH r d _ s h
section
variable {Γ:Ctx}{E:Env}{G:Gh}{tmps:Array Value}{w:World}{d:Nat}{ps:List zU}
theorem zBZ(ga:Rep Γ E G tmps w)(h:wS E d ps):
  zY (ps.map zU.tree)=dh∧yE (ps.map zU.tree)∧(∀i z,(pHd G ps i z).oneCell'=dh)∧
  (∀(i:Nat) u x q(z:List Nat),(ps.map zU.tree)[i]? =df u→zCN ps i=df (x,q)→zDO ps x (z++q)=df (z++[i]))∧
  (∀(i:Nat) u x q,(ps.map zU.tree)[i]? =df u→zCN ps i=df (x,q)→(∀z,pHd G ps i z=G.hd x (z++q))∧R Γ.St G w x u q∧zK u∧x≠d)∧
  (∀(i:Nat) u,(ps.map zU.tree)[i]? =df u→zCN ps i=dg→ ∀(G2:Gh)(w2:World),(∀z,G2.hd d (z++[i])=pHd G ps i z)→R Γ.St G2 w2 d u [i])∧
  (∀s p,(∀n,(s,n)∉(d,0)::wY ps)→zDO ps s p=dg):=by
 have fU:=K0.1 h.dist;refine⟨?_,?_,?_,?_,?_,?_,?_⟩
 ·have:∀qs:List zU,(∀p∈qs,p∈ps)→zY (qs.map zU.tree)=dh:=by
   intro qs
   induction qs with
   |nil=>intro _;rfl
   |cons q qs ih=>
    intro hq;simp only[Jc,zY,J2];refine⟨?_,by grind⟩;cases q with
    |slot s t=>exact(h.slot s t (hq _ (by simp))).2.2
    |zero u=>exact(qB u (h.zero u (hq _ (by simp)))).2
  grind
 ·have:∀qs:List zU,(∀p∈qs,p∈ps)→yE (qs.map zU.tree):=by
   intro qs
   induction qs with
   |nil=>intro _;trivial
   |cons q qs ih=>
    intro hq;simp only[Jc,yE,yL];refine⟨?_,by grind⟩;cases q with
    |slot s t=>exact(h.slot s t (hq _ (by simp))).2.1
    |zero u=>exact(qB u (h.zero u (hq _ (by simp)))).1
  grind
 ·intro i z
  unfold pHd;split
  ·exact ga.mem.one _ _
  ·exact sZ _
  ·rfl
 ·intro i u x q z hu hs
  rw[Jf]at hu;unfold zCN at hs;cases hp:ps[i]? with
  |none=>grind
  |some p=>
   cases p with
   |zero v=>grind
   |slot s t=>
    simp only[hp]at hs;split at hs
    ·rename_i hm
     simp at hs;obtain⟨rfl,rfl⟩:=hs;simp[zDO,qC ps 0 i s t hp hm fU.2]
    ·cases hs
 ·intro i u x q hu hs
  rw[Jf]at hu;unfold zCN at hs;cases hp:ps[i]? with
  |none=>grind
  |some p=>
   cases p with
   |zero v=>grind
   |slot s t=>
    simp only[hp]at hs;split at hs
    ·rename_i hm
     simp at hs;obtain⟨rfl,rfl⟩:=hs;simp[hp,zU.tree]at hu;subst hu;obtain⟨h1,h2,h3⟩:=h.slot s t (by grind);refine⟨by grind[pHd],(ga.ent s t h1).2.1,h2,fun e=>fU.1 ?_⟩
     grind[qC.pSlots_mem]
    ·cases hs
 ·intro i u hu hs G2 w2 ee
  rw[Jf]at hu;unfold zCN at hs;cases hp:ps[i]? with
  |none=>grind
  |some p=>
   cases p with
   |zero v=>
    simp[hp,zU.tree]at hu;subst hu;exact zEJ v [i] (h.zero v (by grind)) (by grind[pHd])
   |slot s t=>
    simp only[hp]at hs;split at hs
    ·cases hs
    ·rename_i hm
     simp[hp,zU.tree]at hu;subst hu;have h1:=(ga.ent s t (h.slot s t (by grind)).1).2.1;have h2:G2.hd d [i]=G.hd s []:=by have:=ee [];grind[pHd]
     cases t<;>simp[vL]at hm<;>simp only[R]at h1 ⊢ <;>rw[h2]<;>exact h1
 ·intro s p gD
  have:s∉yK ps:=fun gT=>gD 1 (by grind[wY])
  grind[zDO,zAk]
theorem zAC(ga:Rep Γ E G tmps w)(h:wS E d ps)(G2:Gh):∀(qs:List zU)(i0:Nat),(∀i q,qs[i]? =df q→ps[i0+i]? =df q)→(∀i z,G2.hd d (z++[i])=pHd G ps i z)→
  zJ G2 d (qs.map zU.tree) [] i0=qs.flatMap (vI G)
 | [],_,_,_=>by rfl
 |q::qs,i0,hq,ee=>by
  have h0:ps[i0]? =df q:=by simpa using hq 0 q (by simp)
  have ih:=zAC ga h G2 qs (i0+1) (fun i p hp=>by rw[show i0+1+i=i0+(i+1)from by omega];simp_all) ee;simp only[Jc,zJ,Kz,ih]
  congr 1
  cases q with
  |slot s t=>exact sF t [] [i0] (by grind[pHd])
  |zero u=>exact zB1 u [i0] (h.zero u (by grind)) (by grind[pHd])
end
end Go.Ab

namespace Go.Ab
open Go
section
variable {P:Program}{Γ:Ctx}{E:Env}{o:Oper}{d:Nat}
theorem zEa{G G':Gh}{w':World}{s i:Nat}{t:T}{v:Option Value}(hv:v=df (mkV G s t []))(gO:∀xs,t≠.tup xs)(hs:∀p,G'.hd s p=G.hd s p)(cW:∀z,G'.hd d (z++[i])=G.hd s z)
  (hr:R Γ.St G' w' d t [i]):Ent Γ G' w' v s (cpT d t [i]):=by
 have hz:∀z,G'.hd s (z++[])=G'.hd d (z++[i]):=fun z=>by rw[J9,hs,cW]
 refine⟨?_,?_,vR d t [i]⟩
 ·rw[hv,tO (G:=G') (G':=G') t [i] [] gO hz,uR G s t [] gO,qQ t [] [i] (fun z=>by rw[cW,J9])]
 ·exact zA7 (G:=G') (G':=G') (fun _=>rfl) t [i] [] hz gO (yA.triv (fun _ _=>⟨rfl,rfl⟩) _) hr
theorem qD{G:Gh}{a:Act}{w w':World}{ps:List zU}(ga:Rep Γ E G a.tmps w)(h:wS E d ps)(hd:d<Γ.N){cells:Array Value}{e:TypeId}(hw:w'.heap=w.heap.push (.cells cells e))
  (eW:∀(o:Nat)(v:Value),(ps.flatMap (vI G))[o]? =df v→cells[o]? =df v)
  (rt:T)(gJ:Value)
  (eT:(∃k cap,rt=.sl k (ps.map zU.tree)∧(∀p∈ps,p.tree.size=k)∧gJ=.slice (df ⟨w.heap.size,0,dg⟩) ps.length cap∧ps.length≤cap∧cap≤maxLen∧cells.size=cap*k)∨
   ∃p,ps=[p]∧rt=.ptr p.tree∧gJ=.pointer (df ⟨w.heap.size,0,dg⟩)∧cells.size=p.tree.size)
  (ho:w'.os=w.os:=by rfl)(hq:w'.output=w.output:=by rfl):
  ∃G',Rep Γ (E.app ((d,df rt)::pWr d ps 0) ((d,0)::wY ps)) G' (a.tmps.setIfInBounds d gJ) w':=by
 obtain⟨f1,f0,f2,f3,f4,f5,f6⟩:=zBZ ga h;have hh:gJ.oneCell'=dh:=by rcases eT with⟨k,cap,_,_,rfl,_⟩|⟨p,_,_,rfl,_⟩<;>rfl
 have fU:=K0.1 h.dist;obtain⟨g1,g2,g3,g4,g5⟩:=zAj ga.mem hw d (ps.map zU.tree) (zCN ps) (zDO ps) (pHd G ps) gJ (wY ps) f1 f2 hh f3 f4 f5
  (fun G2 ee o v hv=>eW o v (by rw[zAC ga h G2 ps 0 (fun i q hq=>by simpa using hq) ee]at hv;exact hv)) f6 (ho:=ho) (hq:=hq)
 refine⟨_,wB ga (by simp) g1 g2 ?_ ?_⟩
 ·intro s hs
  simp only[Wr.find]at hs;split at hs
  ·cases hs
  ·rename_i gf
   have hns:=kH ps d 0 s hs;refine⟨fun n hn=>?_,by rw[J6];simp[gf]⟩;simp only[Jh,Gz.injEq,wY,J7]at hn;rcases hn with⟨e1,_⟩|⟨y,hy,e1,_⟩
   ·exact gf e1.symm
   ·exact hns (e1▸hy)
 ·intro s t hs
  simp only[Wr.find]at hs;split at hs
  ·rename_i he
   subst he;simp at hs;subst hs;have fw:(G.nb d w.heap.size (ps.map zU.tree) (zCN ps) (zDO ps) (pHd G ps) gJ).hd d []=gJ:=by simp[Gh.nb]
   have how:(G.nb d w.heap.size (ps.map zU.tree) (zCN ps) (zDO ps) (pHd G ps) gJ).ow w.heap.size=df (d,[]):=by simp[Gh.nb]
   refine⟨?_,?_,?_⟩
   ·rw[J6]
    rcases eT with⟨k,cap,rfl,_⟩|⟨p,_,rfl,_⟩<;>simp[ga.size,hd,mkV,fw]
   ·rcases eT with⟨k,cap,rfl,hk,h1,h2,h3,h4⟩|⟨p,rfl,rfl,h1,h4⟩
    ·simp only[R]
     rw[fw];refine .inr ⟨w.heap.size,0,cap,cells,e,by simpa using h1,g5,by simpa using h2,h3,by omega,how,?_,zJC _ _ _ _ _ (fun x hx=>?_) g3 g4⟩
     ·intro o ho _
      have gp:T.sizes (ps.map zU.tree)=(ps.map zU.tree).length*k:=yU _ (fun x hx=>by obtain⟨p,hp,rfl⟩:=J7.1 hx;exact hk p hp)
      simp[Gh.nb,zAA (ps.map zU.tree) [] 0 o (by omega)]
     ·obtain⟨p,hp,rfl⟩:=J7.1 hx
      exact hk p hp
    ·simp only[R]
     rw[fw];simp only[Jc,List.map_nil,xS,RF]at g3 g4;exact⟨w.heap.size,cells,e,h1,g5,h4,how,g3.1,g4.1⟩
   ·rcases eT with⟨k,cap,rfl,_⟩|⟨p,rfl,rfl,_⟩
    ·simp only[Top];exact f0
    ·simp only[Top];exact f0.1
  ·rename_i gf
   obtain⟨i,u,h1,h2,h3⟩:=kG ps d 0 s _ hs;simp only[J8]at h3;simp at h3;subst h3;obtain⟨h4,h5,h6⟩:=h.slot s u (Kk h1);have gO:∀xs,u≠.tup xs:=by rintro xs rfl;simp[T.okTup]at h6
   have hi:(ps.map zU.tree)[i]? =df u:=by simp[h1,zU.tree]
   have hr:=sO _ [] 0 i u g4 hi;simp only[J8]at hr;refine zEa (G:=G) (by rw[J6];simp only[gf,if_false];exact(ga.ent s u h4).1) gO (fun p=>?_) (fun z=>?_) hr
   ·simp[Gh.nb,show s≠d from fun e=>gf e.symm]
   ·simp[Gh.nb,pHd,h1]
inductive tA (E:Env):Operand→zU→Prop where
 |slot (s:Nat) (t:T):tA E (.tmp s) (.slot s t)
 |zero (v:Value) (u:T) (h:wX u=v.cells.toList):tA E (.const v) (.zero u)
theorem tP{G:Gh}{a:Act}{w:World}{ps:List zU}(ga:Rep Γ E G a.tmps w)(h:wS E d ps){x:Operand}{p:zU}(hp:p∈ps)(hx:tA E x p):
  (a.eval x).cells.toList=vI G p:=by
 cases hx with
 |slot s t=>
  obtain⟨h1,h2,h3⟩:=h.slot s t hp;obtain⟨h4,_,_⟩:=ga.ent s t h1;rw[xH h4];cases t with
  |agg xs=>simp[mkV,Value.cells,vals,vI]
  |tup xs=>simp[T.okTup]at h3
  |_=>
   have:=ga.mem.one s [];simp only[mkV,vals,vI]
   generalize G.hd s []=v at this
   cases v<;>simp[Value.oneCell',Value.cells]at this ⊢
 |zero v u h=>simp[Act.eval,h,vI]
def wD(E:Env):List Operand→List zU→Prop
 | [],[]=>True
 |x::xs,p::ps=>tA E x p∧wD E xs ps
 |_,_=>False
theorem wD.length:(xs:List Operand)→(ps:List zU)→wD E xs ps→xs.length=ps.length
 | [],[],_=>rfl
 |_::xs,_::ps,h=>by simp[wD.length xs ps h.2]
 | [],_::_,h=>by simp[wD]at h
 |_::_,[],h=>by simp[wD]at h
theorem wD.mem:(xs:List Operand)→(ps:List zU)→wD E xs ps→ ∀x∈xs,∃p,p∈ps∧tA E x p
 | [],_,_,x,hx=>by simp at hx
 |y::xs,p::ps,h,x,hx=>by
  rcases Jh.1 hx with rfl|hx
  ·exact⟨p,by simp,h.1⟩
  ·obtain⟨q,hq,hxq⟩:=wD.mem xs ps h.2 x hx;exact⟨q,by simp[hq],hxq⟩
 |_::_,[],h,_,_=>by simp[wD]at h
theorem zCO{G:Gh}{a:Act}{w:World}{ps:List zU}(ga:Rep Γ E G a.tmps w)(h:wS E d ps):∀(xs:List Operand)(qs:List zU),(∀q∈qs,q∈ps)→wD E xs qs→
  ((xs.map a.eval).flatMap fun v=>v.cells.toList)=qs.flatMap (vI G)
 | [],[],_,_=>rfl
 |x::xs,q::qs,hq,hx=>by simp only[Jc,Kz,tP ga h (hq q (by simp)) hx.1,zCO ga h xs qs (fun p hp=>hq p (by simp[hp])) hx.2]
 | [],_::_,_,hx=>by simp[wD]at hx
 |_::_,[],_,hx=>by simp[wD]at hx
theorem zJD(T':TypeId)(ti:TypeInfo)(z:Value)(u:T)(ho:o.op=.alloc T')(gb:o.dst=df d)(hd:d<Γ.N)
  (hi:P.info? T'=df ti)(hz:ti.zero=df z)(hu:u.zOk=dh)(hv:wX u=z.cells.toList)(gp:z.cells.size=u.size):
  yN P Γ o E (E.app [(d,df (.ptr u))] [(d,0)]):=by
 refine yN.value gb fun a w G ga=>?_
 have gL:wS E d [.zero u]:=⟨fun s t h=>by simp at h,fun v h=>by simp at h;subst h;exact hu,by simp[yK]⟩;obtain⟨G',gg⟩:=qD (w':=w.alloc (.cells z.cells T')) ga gL hd (cells:=z.cells) (e:=T') rfl (fun o v h=>by simpa[hv,vI]using h) (.ptr u) (.pointer (df ⟨w.heap.size,0,dg⟩)) (.inr ⟨.zero u,rfl,rfl,rfl,gp⟩);refine⟨_,_,?_,G',by simpa[pWr,wY,yK]using gg⟩;simp[execOp,ho,Instr.alloc,zeroValue,typeInfo,hi,hz,newVar,newRow]
theorem zNX(T':TypeId)(x:Operand)(p:zU)(ho:o.op=.box T' x)(gb:o.dst=df d)(hd:d<Γ.N)(hx:tA E x p)(gL:wS E d [p]):
  yN P Γ o E (E.app ((d,df (.ptr p.tree))::pWr d [p] 0) ((d,0)::wY [p])):=by
 refine yN.value gb fun a w G ga=>?_
 have hc:=tP ga gL (by simp) hx;have gp:(a.eval x).cells.size=p.tree.size:=by
  rw[←Jx,hc];cases p with
  |slot s t=>
   obtain⟨_,_,h3⟩:=gL.slot s t (by simp);show(vals G s t []).length=t.size;exact xE t [] (by rintro xs rfl;simp[T.okTup]at h3)
  |zero u=>exact xJ u (gL.zero u (by simp))
 obtain⟨G',gg⟩:=qD (w':=w.alloc (.cells (a.eval x).cells T')) ga gL hd (cells:=(a.eval x).cells) (e:=T') rfl (fun o v h=>by rw[←Jy,hc];simpa using h) (.ptr p.tree) (.pointer (df ⟨w.heap.size,0,dg⟩)) (.inr ⟨p,rfl,rfl,rfl,gp⟩)
 refine⟨_,_,?_,G',gg⟩;simp[execOp,ho,Instr.box,newVar,newRow]
theorem zDP(t e:TypeId)(ti:TypeInfo)(z:Value)(k n:Nat)(xs:List Operand)(ps:List zU)(ho:o.op=.buildSlice t n ((xs.zipIdx 0).map fun x=>(x.2,x.1)).toArray)(gb:o.dst=df d)(hd:d<Γ.N)
  (ht:P.underlying t=df (.slice e))(hi:P.info? e=df ti)(hz:ti.zero=df z)(hk:ti.size=k)(eA:0<k)(hn:xs.length=n)(hn0:0<n)(tu:n*k≤2 ^ 24)
  (hx:wD E xs ps)(gL:wS E d ps)(gp:∀p∈ps,p.tree.size=k):
  yN P Γ o E (E.app ((d,df (.sl k (ps.map zU.tree)))::pWr d ps 0) ((d,0)::wY ps)):=by
 refine yN.value gb fun a w G ga=>?_
 subst hk;have gn:xs.length=ps.length:=wD.length xs ps hx;have hc:=zCO ga gL xs ps (fun _ h=>h) hx;have fN:∀v∈xs.map a.eval,v.cells.size=ti.size:=by
  intro v hv;obtain⟨x,pX,rfl⟩:=J7.1 hv;obtain⟨p,hp,hxp⟩:=wD.mem xs ps hx x pX;rw[←Jx,tP ga gL hp hxp,←gp p hp];cases p with
  |slot s t=>
   obtain⟨_,_,h3⟩:=gL.slot s t hp;show(vals G s t []).length=t.size;exact xE t [] (by rintro xs rfl;simp[T.okTup]at h3)
  |zero u=>exact xJ u (gL.zero u hp)
 have bh:=Great.fill_whole eA (xs.map a.eval) ((Q3 (n*ti.size)).map (z.cells[· %z.cells.size]!)) fN (by simp[hn]);have py:((((xs.zipIdx 0).map fun x=>(x.2,x.1)).toArray).map fun(i,x)=>(i,a.eval x)).toList=((xs.map a.eval).zipIdx 0).map fun x=>(x.2,x.1):=by simp[List.zipIdx_map,Function.comp_def]
 have gm:=run_buildSlice (P:=P) w t e n _ _ ti z ht hi hz (by omega) (by have:=Uq hn0 eA;omega) (by rw[py];exact bh);have gE:((xs.map a.eval).flatMap fun v=>v.cells.toList).toArray.size=n*ti.size:=by rw[Uw,flat_len (k:=ti.size) _ (fun v hv=>by rw[Jx];exact fN v hv)];simp[hn]
 obtain⟨G',gg⟩:=qD (w':=w.alloc (.cells ((xs.map a.eval).flatMap fun v=>v.cells.toList).toArray e)) ga gL hd rfl (fun o v h=>by rw[hc];simpa using h) (.sl ti.size (ps.map zU.tree)) (.slice (df ⟨w.heap.size,0,dg⟩) n n) (.inl ⟨ti.size,n,rfl,gp,by rw[←gn,hn],by omega,by have:n≤n*ti.size:=Nat.le_mul_of_pos_right n eA;simp only[maxLen];omega,gE⟩)
 refine⟨_,_,?_,G',gg⟩;simp only[execOp,ho,Sem.run_bind,gm,Result.andThen_ok];rfl
where
 flat_len {k:Nat} (vs:List Value) (h:∀v∈vs,v.cells.toList.length=k):(vs.flatMap fun v=>v.cells.toList).length=vs.length*k:=by
  induction vs with
  |nil=>simp
  |cons v vs ih=>simp[Kz,ih (fun u hu=>h u (by simp[hu])),Kl];have:=h v (by simp);simp at this;omega
end
end Go.Ab

namespace Go.Ab
open Go
theorem zEK{α β:Type}(f:α→List β)(x:α)(k:Nat)(hk:(f x).length=k)(eA:0<k):∀(n o:Nat)(v:β),((J1 n x).flatMap f)[o]? =df v→o<n*k∧(f x)[o%k]? =df v
 |0,o,v,h=>by simp at h
 |n+1,o,v,h=>by
  rw[K5,Kz,Jv]at h;split at h
  ·grind[Qa]
  ·rename_i hge
   rw[hk]at h hge;obtain⟨h1,h2⟩:=zEK f x k hk eA n (o-k) v h
   grind[Nat.mod_eq_sub_mod]
section
variable {P:Program}{Γ:Ctx}{E:Env}{o:Oper}{d:Nat}
theorem zLZ(t e:TypeId)(ti:TypeInfo)(z:Value)(u:T)(k:Nat)(x y:Operand)(n c:Nat)(kl kc:IntKind)(ho:o.op=.makeSlice t x y)(gb:o.dst=df d)(hd:d<Γ.N)
  (ht:P.underlying t=df (.slice e))(hi:P.info? e=df ti)(hz:ti.zero=df z)(hk:ti.size=k)(eA:0<k)(hu:u.zOk=dh)(hv:wX u=z.cells.toList)(eQ:u.size=k)(hb:ti.bytes≤4096)
  (hx:opT E x=df (.lit (.int kl n)))(hy:opT E y=df (.lit (.int kc c)))(fR:n≤c)(hc:c≤68719476736):
  yN P Γ o E (E.app [(d,df (.sl k (J1 n u)))] [(d,0)]):=by
 refine yN.value gb fun a w G ga=>?_
 have h1:=(yV ga hx).1;have h2:=(yV ga hy).1;subst hk;have gL:wS E d (J1 n (.zero u)):=⟨by simp,by grind,by
  have:∀m,yK (J1 m (.zero u))=[]:=by intro m;induction m with|zero=>rfl|succ m ih=>grind[yK]
  simp[this]⟩
 have hzs:z.cells.size=ti.size:=by grind[xJ]
 have pJ:(ti.bytes:Int)*(c:Int)≤281474976710656:=by have:ti.bytes*c≤4096*68719476736:=L6 hb hc;omega
 have gm:=run_make (P:=P) w t e ti z ht hi hz kl kc n c (by omega) (by omega) pJ (by omega);simp only[Jj]at gm;obtain⟨G',gg⟩:=qD (w':=w.alloc (.cells (madeCells z.cells (c*ti.size)) e)) ga gL hd rfl (fun i v h=>by
  obtain⟨h3,h4⟩:=zEK (vI G) (.zero u) ti.size (by grind[vI]) eA n i v h
  grind[Uy,Jp,vI,madeCells]) (.sl ti.size (J1 n u)) (.slice (df ⟨w.heap.size,0,dg⟩) n c)
  (.inl ⟨ti.size,c,by simp[zU.tree],fun p hp=>by simp at hp;obtain⟨_,rfl⟩:=hp;exact eQ,by simp,by grind,by grind[maxLen],by simp[madeCells]⟩)
 refine⟨.slice (df ⟨w.heap.size,0,dg⟩) n c,w.alloc (.cells (madeCells z.cells (c*ti.size)) e),?_,G',?_⟩
 ·simp only[execOp,ho,h1,h2,Sem.run_bind,gm,Result.andThen_ok]
  rfl
 ·have h6:∀m i,pWr d (J1 m (.zero u)) i=[]:=by intro m;induction m with|zero=>intro i;rfl|succ m ih=>grind[pWr]
  have h7:wY (J1 n (.zero u))=[]:=by
   have:∀m,yK (J1 m (.zero u))=[]:=by intro m;induction m with|zero=>rfl|succ m ih=>grind[yK]
   grind[wY]
  grind
theorem zCP(t e:TypeId)(ti:TypeInfo)(k:Nat)(ho:o.op=.buildSlice t 0 #[])(gb:o.dst=df d)(hd:d<Γ.N)
  (ht:P.underlying t=df (.slice e))(hi:P.info? e=df ti):yN P Γ o E (E.app [(d,df (.sl k []))] [(d,0)]):=by
 refine yN.value gb fun a w G ga=>?_
 have gL:wS E d []:=⟨by simp,by simp,by simp[yK]⟩;obtain⟨G',gg⟩:=qD (w':=w.alloc (.cells #[] e)) ga gL hd (cells:=#[]) rfl (by simp) (.sl k []) (.slice (df ⟨w.heap.size,0,dg⟩) 0 0)
  (by simp)
 refine⟨_,_,?_,G',gg⟩;have h0:(Q3 0:Array Nat)= #[]:=by rfl
 simp[execOp,ho,Instr.buildSlice,run_underlying ht,sizeOf,typeInfo,hi,Instr.fill,newRow,h0]
theorem zF9(k:Nat)(x:Operand)(ho:o.op=.move x∨o.op=.assign x)(hx:x=.const (.slice dg 0 0))(gb:o.dst=df d)(hd:d<Γ.N):yN P Γ o E (E.app [(d,df (.sl k []))] [(d,0)]):=by
 refine yN.value gb fun a w G ga=>?_
 refine⟨.slice dg 0 0,w,?_,_,yZ ga rfl hd (fun _=>.slice dg 0 0) (fun _=>rfl) (.sl k []) (.slice dg 0 0) (by simp[mkV,Gh.put]) (by simp[R,Gh.put]) (by simp[Top,yE,yL])⟩;subst hx;rcases ho with ho|ho<;>simp[execOp,ho,Act.eval]
def Gh.nv(G:Gh)(d:Nat)(src:Nat→Option (Nat×List Nat))(φ:Nat→List Nat→Option (List Nat))(f:Nat→List Nat→Value):Gh where
 hd s z:=if s=d then(match z.getLast? with
  |some i=>f i z.dropLast
  |none=>.bool di)else G.hd s z
 ad s z:=if s=d then(match z.getLast? with
  |some i=>(match src i with
   |some (x,q)=>G.ad x (z.dropLast++q)
   |none=>default)
  |none=>default)else G.ad s z
 lb b o:=match G.lb b o with
  |some (fl,s,z)=>(match φ s z with
   |some z'=>df (fl,d,z')
   |none=>df (fl,s,z))
  |none=>dg
 ow b:=match G.ow b with
  |some (s,z)=>(match φ s z with
   |some z'=>df (d,z')
   |none=>df (s,z))
  |none=>dg
theorem zMa{G:Gh}{a:Act}{w:World}{ps:List zU}(ga:Rep Γ E G a.tmps w)(h:wS E d ps)(hd:d<Γ.N):
  ∃G',Rep Γ (E.app ((d,df (.agg (ps.map zU.tree)))::pWr d ps 0) ((d,0)::wY ps)) G' (a.tmps.setIfInBounds d (.agg (ps.flatMap (vI G)).toArray)) w:=by
 obtain⟨f1,f0,f2,f3,f4,f5,f6⟩:=zBZ ga h;have hm:=ga.mem;have gz:Blk w w:=fun b cs e' h=>⟨cs,h,rfl⟩
 generalize gg:G.nv d (zCN ps) (zDO ps) (pHd G ps)=G'
 have ghd:∀i z,G'.hd d (z++[i])=pHd G ps i z:=by grind[Gh.nv]
 have ghd':∀s z,s≠d→G'.hd s z=G.hd s z:=by grind[Gh.nv]
 have glbm:∀b o fl x z z',G.lb b o=df (fl,x,z)→zDO ps x z=df z'→G'.lb b o=df (fl,d,z'):=by grind[Gh.nv]
 have gowm:∀b x z z',G.ow b=df (x,z)→zDO ps x z=df z'→G'.ow b=df (d,z'):=by grind[Gh.nv]
 have gf:∀s p,Off ((d,0)::wY ps) s p→s≠d:=fun s p h e=>absurd (h 0 (by simp[e])) (by simp)
 have gw:uK ((d,0)::wY ps) G w G' w:=by
  refine⟨by grind,fun s p h=>?_,fun b o fl s p _ hl h=>⟨?_,rfl⟩,fun b s p hl h=>?_,gz,by intros;assumption⟩
  ·grind[Gh.nv]
  all_goals grind[Gh.nv]
 have gr:Mem Γ G' w:=by
  refine⟨fun s p=>?_,fun b o l hl=>?_,fun b l hl=>?_,hm.st,hm.fr,hm.sz,hm.bk⟩
  ·rw[←gg]
   simp only[Gh.nv];split
   ·split
    ·grind
    ·rfl
   ·exact hm.one s p
  ·rw[←gg]at hl
   simp only[Gh.nv]at hl;split at hl
   ·rename_i hg;exact hm.lb b o _ hg
   ·cases hl
  ·rw[←gg]at hl
   simp only[Gh.nv]at hl;split at hl
   ·rename_i hg;exact hm.ow b _ hg
   ·cases hl
 have g4:RF Γ.St G' w d (ps.map zU.tree) [] 0:=by
  refine zHI _ [] 0 (fun i u hu=>?_);rw[J8];cases hs:zCN ps i with
  |none=>grind
  |some xq=>
   obtain⟨x,q⟩:=xq;obtain⟨h1,h2,h3,h4⟩:=f4 i u x q hu hs;refine zF8 u q [i] (zAj.okTups_get _ f1 i u hu) ⟨by grind,by grind[Gh.nv],by grind,
    by grind,gz,by intros;assumption⟩ (by grind[yA.mono]) h2
 refine⟨G',wB ga (by simp) gw gr ?_ ?_⟩
 ·grind[Wr.find,kH,wY]
 ·intro s t hs
  simp only[Wr.find]at hs;split at hs
  ·rename_i he
   subst he;simp at hs;subst hs;refine⟨?_,by simpa only[R]using g4,by simp only[Top];exact xV.of_clean _ f0⟩;rw[J6];simp only[ga.size,hd,mkV,if_true];rw[zAC ga h G' ps 0 (by simp) ghd]
  ·rename_i gf
   obtain⟨i,u,h1,h2,h3⟩:=kG ps d 0 s _ hs;simp only[J8]at h3;simp at h3;subst h3;obtain⟨h4,h5,h6⟩:=h.slot s u (by grind);have gO:∀xs,u≠.tup xs:=by rintro xs rfl;grind[T.okTup]
   have hi:(ps.map zU.tree)[i]? =df u:=by simp[h1,zU.tree]
   have hr:=sO _ [] 0 i u g4 hi;simp only[J8]at hr;refine zEa (G:=G) (by rw[J6];simp only[gf,if_false];exact(ga.ent s u h4).1) gO (by grind) (fun z=>?_) hr
   grind[pHd]
theorem zHK(off:Nat):∀(vs:List Value)(i:Nat)(cs:Array Value)(k:Nat),off+i+vs.length≤cs.size→
  ((vs.zipIdx i).foldl (fun cs(x:Value×Nat)=>cs.setIfInBounds (off+x.2) x.1) cs)[k]? =if off+i≤k∧k<off+i+vs.length then vs[k-(off+i)]? else cs[k]?
 | [],i,cs,k,_=>by simp;omega
 |v::vs,i,cs,k,h=>by
  simp only[Jn]at h;simp only[List.zipIdx_cons,List.foldl_cons];rw[zHK off vs (i+1) _ k (by simp;omega)]
  grind
theorem zCQ{pv:zU→List Value}(place:Nat→Option (Nat×Nat)):∀(vs:List (Nat×Value))(qs:List (Nat×zU))(ps:List zU)(cs:Array Value),cs.toList=ps.flatMap pv→
  (∀i p,ps[i]? =df p→place i=df (((ps.take i).flatMap pv).length,(pv p).length))→
  vs.map (·.1)=qs.map (·.1)→(∀(j:Nat)(v:Nat×Value)(q:Nat×zU),vs[j]? =df v→qs[j]? =df q→v.2.cells.toList=pv q.2∧ ∃p,ps[q.1]? =df p∧(pv p).length=(pv q.2).length)→
  ∃cs',Instr.fill place cs vs=df cs'∧cs'.toList=(qs.foldl (fun ps q=>ps.set q.1 q.2) ps).flatMap pv
 | [],[],ps,cs,gQ,_,_,_=>⟨cs,rfl,gQ⟩
 | [],_::_,_,_,_,_,h,_=>by simp at h
 |_::_,[],_,_,_,_,h,_=>by simp at h
 |(i,v)::vs,(i',q)::qs,ps,cs,gQ,bB,hi,hq=>by
  simp only[Jc,G6.injEq]at hi;obtain⟨aG,hi⟩:=hi;subst aG;obtain⟨h1,p,h2,h3⟩:=hq 0 (i,v) (i,q) rfl rfl;dsimp only at h1 h2 h3;have al:=bB i p h2;have gG:=(Ja.1 h2).1;have pi:ps=ps.take i++p::ps.drop (i+1):=by grind[Jw,H9]
  have gx:ps.set i q=ps.take i++q::ps.drop (i+1):=by grind
  have fh:v.cells.size=(pv p).length:=by grind
  have gN:cs.size=((ps.take i).flatMap pv).length+((pv p).length+((ps.drop (i+1)).flatMap pv).length):=by grind[Jx]
  have gI:(v.cells.zipIdx.foldl (fun cs(x:Value×Nat)=>cs.setIfInBounds (((ps.take i).flatMap pv).length+x.2) x.1) cs).toList=(ps.set i q).flatMap pv:=by
   rw[gx];simp only[Un,Kz,←h1];apply L0;intro k;rw[←Array.foldl_toList,Jy,show v.cells.zipIdx.toList=v.cells.toList.zipIdx 0 from by simp,zHK _ _ 0 cs k (by grind)];have aN:cs.toList=((ps.take i).flatMap pv)++(pv p++(ps.drop (i+1)).flatMap pv):=by grind
   have hvl2:v.cells.toList.length=(pv p).length:=by rw[h1,h3]
   rw[←Jy,aN]
   grind
  have am:∀j p',(ps.set i q)[j]? =df p'→place j=df ((((ps.set i q).take j).flatMap pv).length,(pv p').length):=by
   intro j p' eR;have cv:(((ps.set i q).take j).flatMap pv).length=((ps.take j).flatMap pv).length:=by
    rw[gx]
    conv=>rhs;rw[pi]
    by_cases hj:j≤i
    ·grind
    ·rw[Ue,Ue]
     simp only[Un,Je]
     congr 1
     have:j-(ps.take i).length=(j-(ps.take i).length-1)+1:=by simp;omega
     grind
   grind
  have hq':∀(j:Nat)(x:Nat×Value)(y:Nat×zU),vs[j]? =df x→qs[j]? =df y→x.2.cells.toList=pv y.2∧ ∃p,(ps.set i q)[y.1]? =df p∧(pv p).length=(pv y.2).length:=by
   intro j x y hx hy;obtain⟨h6,p',h7,h8⟩:=hq (j+1) x y (by grind) (by grind)
   grind
  obtain⟨cs',h4,h5⟩:=zCQ place vs qs (ps.set i q) _ gI am hi hq'
  grind[Instr.fill]
theorem tG{t:TypeId}{it:TypeInfo}{fields:Array Field}{z:Value}{places:List (Nat×Nat)}(hi:P.info? t=df it)(hu:P.underlying t=df (.struct fields))(hz:it.zero=df z)
  (hp:fields.toList.mapM (fun f=>(P.info? f.type).map fun i=>(f.offset,i.size))=df places)(parts:List (Nat×Value)):P.built t parts=Instr.fill (places.toArray[·]?) z.cells parts:=by
 grind[Program.built]
theorem zB2{G:Gh}:(zs:List T)→(zs.map zU.zero).flatMap (vI G)=vM zs
 | []=>rfl
 |z::zs=>by simp[vI,vM,←zB2 (G:=G) zs]
theorem zJE(t:TypeId)(place:Nat→Option (Nat×Nat))(z:Value)(zs:List T)(pl:List (Nat×Operand))(qs:List (Nat×zU))(ps:List zU)(ho:o.op=.build t pl.toArray)(gb:o.dst=df d)(hd:d<Γ.N)
  (hb:∀parts,P.built t parts=Instr.fill place z.cells parts)(hzv:vM zs=z.cells.toList)(hz:tF zs=dh)(bB:∀i u,zs[i]? =df u→place i=df (T.sizes (zs.take i),u.size))
  (gL:qs.foldl (fun ps q=>ps.set q.1 q.2) (zs.map zU.zero)=ps)(gC:wS E d ps)(mj:pl.map (·.1)=qs.map (·.1))
  (hq:∀(j:Nat)(x:Nat×Operand)(q:Nat×zU),pl[j]? =df x→qs[j]? =df q→tA E x.2 q.2∧q.2∈ps∧ ∃u,zs[q.1]? =df u∧u.size=q.2.tree.size):
  yN P Γ o E (E.app ((d,df (.agg (ps.map zU.tree)))::pWr d ps 0) ((d,0)::wY ps)):=by
 refine yN.value gb fun a w G ga=>?_
 obtain⟨G',gg⟩:=zMa ga gC hd;have gp:∀(us:List T),tF us=dh→((us.map zU.zero).flatMap (vI G)).length=T.sizes us:=by grind[zB2,sP]
 obtain⟨cs',h1,h2⟩:=zCQ (pv:=vI G) place (pl.map fun x=>(x.1,a.eval x.2)) qs (zs.map zU.zero) z.cells (by rw[zB2,hzv]) (fun i p hp=>by
   rw[Jf]at hp;cases hu:zs[i]? with
   |none=>grind
   |some u=>
    simp[hu]at hp;subst hp;rw[bB i u hu,←Gk,gp _ (zOks_take zs i hz),vI,xJ u (zOks_get zs hz i u hu)])
  (by grind[Function.comp_def]) (fun j v q hv hqj=>by
   rw[Jf]at hv;cases hx:pl[j]? with
   |none=>grind
   |some x=>
    simp[hx]at hv;subst hv;obtain⟨h3,h4,u,h5,h6⟩:=hq j x q hx hqj;refine⟨tP ga gC h4 h3,.zero u,by simp[h5],?_⟩;rw[vI,xJ u (zOks_get zs hz _ u h5),h6];cases cE:q.2 with
    |slot s t=>
     rw[cE]at h4;obtain⟨_,_,h7⟩:=gC.slot s t h4;exact(xE t [] (by rintro xs rfl;grind[T.okTup])).symm
    |zero u'=>
     rw[cE]at h4;exact(xJ u' (gC.zero u' h4)).symm)
 rw[gL]at h2;have h3:cs'=(ps.flatMap (vI G)).toArray:=by rw[←h2]
 refine⟨_,w,?_,G',gg⟩;have gm:=run_build (P:=P) w t (pl.map fun x=>(x.1,a.eval x.2)).toArray cs' (by grind);simp only[List.map_toArray,execOp,ho,Sem.run_bind]at gm ⊢
 simp_all
where
 zOks_get:(xs:List T)→tF xs=dh→ ∀(i:Nat)(x:T),xs[i]? =df x→x.zOk=dh
  | [],_,_,_,h=>by simp at h
  |y::ys,hk,i,x,h=>by
   simp only[tF,J2]at hk;cases i with
   |zero=>grind
   |succ i=>exact zOks_get ys hk.2 i x (by grind)
 zOks_take:(xs:List T)→ ∀i,tF xs=dh→tF (xs.take i)=dh
  | [],i,_=>by simp[tF]
  |y::ys,0,_=>by simp[tF]
  |y::ys,i+1,hk=>by
   simp only[tF,J2,Kf]at hk ⊢
   exact⟨hk.1,zOks_take ys i hk.2⟩
end
end Go.Ab

namespace Go.Ab
open Go
mutual
def wJ:T→T→Bool
 |.agg xs,.agg ys=>uP xs ys
 |.agg _,_=>di
 |.tup _,_=>di
 |_,.agg _=>di
 |_,.tup _=>di
 |.any,_|.lit _,_|.ro _,_|.same _ _,_|.addr _ _,_|.sub _ _ _ _ _,_|.sl _ _,_|.ptr _,_|.mp _ _,_=>dh
def uP:List T→List T→Bool
 | [],[]=>dh
 |x::xs,y::ys=>wJ x y&&uP xs ys
 | [],_::_=>di
 |_::_,[]=>di
end
mutual
theorem kI:(x y:T)→wJ x y=dh→x.size=y.size
 |.agg xs,.agg ys,h=>by simp only[wJ]at h;simp only[T.size];exact zBe xs ys h
 |.agg _,.any,h|.agg _,.lit _,h|.agg _,.ro _,h|.agg _,.same _ _,h|.agg _,.addr _ _,h|.agg _,.sub _ _ _ _ _,h|.agg _,.sl _ _,h|.agg _,.ptr _,h|.agg _,.tup _,h=>by grind[wJ]
 |.tup _,_,h=>by grind[wJ]
 |.any,y,h|.lit _,y,h|.ro _,y,h|.same _ _,y,h|.addr _ _,y,h|.sub _ _ _ _ _,y,h|.sl _ _,y,h|.ptr _,y,h|.mp _ _,y,h=>by cases y<;>simp[wJ]at h<;>simp[T.size]
theorem zBe:(xs ys:List T)→uP xs ys=dh→T.sizes xs=T.sizes ys
 | [],[],_=>rfl
 |x::xs,y::ys,h=>by simp only[uP,J2]at h;simp only[T.sizes,kI x y h.1,zBe xs ys h.2]
 | [],_::_,h=>by grind[uP]
 |_::_,[],h=>by grind[uP]
end
section
variable {G:Gh}{w:World}{s:Nat}
mutual
theorem zEL:(t:T)→ ∀(p:List Nat)(b o j:Nat),Loc G w s t p b o→j<t.size→ ∃y,G.lb b (o+j)=df (di,s,y++p)
 |.agg xs,p,b,o,j,h,hj=>by simp only[Loc,T.size]at h hj;exact zHL xs p 0 b o j h.2 hj
 |.any,p,b,o,j,h,hj|.lit _,p,b,o,j,h,hj|.ro _,p,b,o,j,h,hj|.same _ _,p,b,o,j,h,hj|.addr _ _,p,b,o,j,h,hj|.sub _ _ _ _ _,p,b,o,j,h,hj|.sl _ _,p,b,o,j,h,hj|.ptr _,p,b,o,j,h,hj|.mp _ _,p,b,o,j,h,hj=>by
  simp only[Loc,T.size]at h hj
  simp_all
 |.tup _,_,_,_,_,h,_=>by simp only[Loc]at h
theorem zHL:(xs:List T)→ ∀(p:List Nat)(i b o j:Nat),xS G w s xs p i b o→j<T.sizes xs→ ∃y,G.lb b (o+j)=df (di,s,y++p)
 | [],_,_,_,_,_,_,hj=>by grind[T.sizes]
 |x::xs,p,i,b,o,j,h,hj=>by
  simp only[xS,T.sizes]at h hj
  by_cases gG:j<x.size
  ·obtain⟨y,hy⟩:=zEL x (i::p) b o j h.1 gG
   exact⟨y++[i],by grind⟩
  ·obtain⟨y,hy⟩:=zHL xs p (i+1) b (o+x.size) (j-x.size) h.2 (by omega)
   grind
end
mutual
theorem zJF{G':Gh}{w':World}:(u u0:T)→ ∀(p:List Nat)(b o:Nat),wJ u u0=dh→(∀y,u.inT y.reverse=dh→G'.ad s (y++p)=G.ad s (y++p))→
  (∀b o y,G.lb b o=df (di,s,y++p)→G'.lb b o=df (di,s,y++p))→(∀j v,(vals G' s u p)[j]? =df v→zT w' b (o+j)=df v)→Loc G w s u0 p b o→Loc G' w' s u p b o
 |.agg xs,.agg ys,p,b,o,h,ha,hl,hc,h0=>by
  simp only[Loc,wJ]at h h0 ⊢
  refine⟨by have:=ha [] rfl;grind,zHM xs ys p 0 b o h (fun i x hx y hy=>?_) (by omega) (by grind[vals]) h0.2⟩
  grind[Hl,T.inT]
 |.agg _,.any,_,_,_,h,_,_,_,_|.agg _,.lit _,_,_,_,h,_,_,_,_|.agg _,.ro _,_,_,_,h,_,_,_,_|.agg _,.same _ _,_,_,_,h,_,_,_,_|.agg _,.addr _ _,_,_,_,h,_,_,_,_|.agg _,.sub _ _ _ _ _,_,_,_,h,_,_,_,_|.agg _,.sl _ _,_,_,_,h,_,_,_,_|.agg _,.ptr _,_,_,_,h,_,_,_,_|.agg _,.tup _,_,_,_,h,_,_,_,_=>by grind[wJ]
 |.tup _,_,_,_,_,h,_,_,_,_=>by grind[wJ]
 |.any,u0,p,b,o,h,ha,hl,hc,h0|.lit _,u0,p,b,o,h,ha,hl,hc,h0|.ro _,u0,p,b,o,h,ha,hl,hc,h0|.same _ _,u0,p,b,o,h,ha,hl,hc,h0|.addr _ _,u0,p,b,o,h,ha,hl,hc,h0|.sub _ _ _ _ _,u0,p,b,o,h,ha,hl,hc,h0|.sl _ _,u0,p,b,o,h,ha,hl,hc,h0|.ptr _,u0,p,b,o,h,ha,hl,hc,h0|.mp _ _,u0,p,b,o,h,ha,hl,hc,h0=>by have h1:=wI (by cases u0<;>simp[wJ]at h<;>rfl) h0;have h2:=ha [] rfl;rw[Jr]at h2;simp only[Loc];exact⟨h2.trans h1.1,by simp_all,by simpa using hc 0 (G'.hd s p) (by simp[vals])⟩
theorem zHM{G':Gh}{w':World}:(xs ys:List T)→ ∀(p:List Nat)(j b o:Nat),uP xs ys=dh→(∀i x,xs[i]? =df x→ ∀y,x.inT y.reverse=dh→G'.ad s (y++((j+i)::p))=G.ad s (y++((j+i)::p)))→
  (∀b o y,G.lb b o=df (di,s,y++p)→G'.lb b o=df (di,s,y++p))→(∀i v,(zJ G' s xs p j)[i]? =df v→zT w' b (o+i)=df v)→xS G w s ys p j b o→xS G' w' s xs p j b o
 | [],[],_,_,_,_,_,_,_,_,_=>by simp only[xS]
 |x::xs,y::ys,p,j,b,o,h,ha,hl,hc,h0=>by
  simp only[uP,J2,xS]at h h0 ⊢
  have hs:=kI x y h.1;have gO:∀zs,x≠.tup zs:=by rintro zs rfl;grind[wJ]
  refine⟨zJF x y (j::p) b o h.1 (fun z hz=>by simpa using ha 0 x (by simp) z hz) (fun b o z hz=>by have:=hl b o (z++[j]) (by grind);grind) (fun i v hv=>hc i v ?_) h0.1,
   zHM xs ys p (j+1) b (o+x.size) h.2 (fun i z hz=>by have:=ha (i+1) z (by grind);grind) hl (fun i v hv=>?_) (by grind)⟩
  ·grind[zJ]
  ·have:=hc (x.size+i) v (by
    grind[zJ,xE])
   grind
 | [],_::_,_,_,_,_,h,_,_,_,_=>by grind[uP]
 |_::_,[],_,_,_,_,h,_,_,_,_=>by grind[uP]
end
end
def zCs(p:zU)(q:List Nat)(s:Nat)(z:List Nat):Option (List Nat):=
 match p with
 |.slot s0 t=>if vL t&&s0==s then df (z++q)else dg
 |.zero _=>dg
def sHd(G:Gh)(p:zU)(y:List Nat):Value:=
 match p with
 |.slot s _=>G.hd s y
 |.zero u=>uT (zhd u y.reverse)
def sWr(r:Nat)(q:List Nat):zU→Wr
 |.slot s t=>if vL t then[(s,df (cpT r t q))]else[]
 |.zero _=>[]
def Gh.st(G:Gh)(r:Nat)(q:List Nat)(p:zU):Gh where
 hd s z:=if s=r∧q<:+z then sHd G p (z.take (z.length-q.length))else G.hd s z
 ad s z:=if s=r∧q<:+z∧p.tree.inT (z.take (z.length-q.length)).reverse=di then(match p with
  |.slot s0 _=>G.ad s0 (z.take (z.length-q.length))
  |.zero _=>default)else G.ad s z
 lb b o:=match G.lb b o with
  |some (fl,s,z)=>(match zCs p q s z with
   |some z'=>df (fl,r,z')
   |none=>df (fl,s,z))
  |none=>dg
 ow b:=match G.ow b with
  |some (s,z)=>(match zCs p q s z with
   |some z'=>df (r,z')
   |none=>df (s,z))
  |none=>dg
mutual
theorem zFA{Γ:Ctx}{G:Gh}{w:World}(hm:Mem Γ G w){s:Nat}:(t:T)→ ∀(p:List Nat)(v:Value),v∈vals G s t p→v.oneCell'=dh
 |.agg xs,p,v,h=>by simp only[vals]at h;exact zAl hm xs p 0 v h
 |.any,p,v,h|.lit _,p,v,h|.ro _,p,v,h|.same _ _,p,v,h|.addr _ _,p,v,h|.sub _ _ _ _ _,p,v,h|.sl _ _,p,v,h|.ptr _,p,v,h|.mp _ _,p,v,h|.tup _,p,v,h=>by simp only[vals,List.mem_singleton]at h;rw[h];exact hm.one s p
theorem zAl{Γ:Ctx}{G:Gh}{w:World}(hm:Mem Γ G w){s:Nat}:(xs:List T)→ ∀(p:List Nat)(j:Nat)(v:Value),v∈zJ G s xs p j→v.oneCell'=dh
 | [],_,_,_,h=>by grind[zJ]
 |x::xs,p,j,v,h=>by
  simp only[zJ,Lg]at h;rcases h with h|h
  ·exact zFA hm x _ v h
  ·exact zAl hm xs p _ v h
end
mutual
theorem zB3:(u:T)→u.zOk=dh→ ∀v∈wX u,v.oneCell'=dh
 |.lit v,h,x,hx=>by simp only[wX,List.mem_singleton]at hx;rw[hx];exact h
 |.sl _ _,_,x,hx=>by simp only[wX,List.mem_singleton]at hx;rw[hx];rfl
 |.agg xs,h,x,hx=>by simp only[T.zOk]at h;simp only[wX]at hx;exact zCR xs h x hx
 |.any,h,_,_|.ro _,h,_,_|.same _ _,h,_,_|.addr _ _,h,_,_|.sub _ _ _ _ _,h,_,_|.ptr _,h,_,_|.tup _,h,_,_|.mp _ _,h,_,_=>by grind[T.zOk]
theorem zCR:(xs:List T)→tF xs=dh→ ∀v∈vM xs,v.oneCell'=dh
 | [],_,_,h=>by grind[vM]
 |x::xs,h,v,hv=>by
  simp only[tF,J2]at h;simp only[vM,Lg]at hv;rcases hv with hv|hv
  ·exact zB3 x h.1 v hv
  ·exact zCR xs h.2 v hv
end
theorem zFB(y q:List Nat):(y++q).take ((y++q).length-q.length)=y:=by simp
theorem zGM{Γ:Ctx}{G G':Gh}{w':World}{s d:Nat}{q:List Nat}{t:T}{v:Option Value}(hv:v=df (mkV G s t []))(gO:∀xs,t≠.tup xs)(hs:∀p,G'.hd s p=G.hd s p)(cW:∀z,G'.hd d (z++q)=G.hd s z)
  (hr:R Γ.St G' w' d t q):Ent Γ G' w' v s (cpT d t q):=by
 have hz:∀z,G'.hd s (z++[])=G'.hd d (z++q):=by grind
 refine⟨?_,?_,vR d t q⟩
 ·rw[hv,tO (G:=G') (G':=G') t q [] gO hz,uR G s t [] gO,qQ t [] q (fun z=>by rw[cW,J9])]
 ·exact zA7 (G:=G') (G':=G') (fun _=>rfl) t q [] hz gO (yA.triv (fun _ _=>⟨rfl,rfl⟩) _) hr
section
variable {P:Program}{Γ:Ctx}{E:Env}{o:Oper}
theorem uM:(f:List Nat)→ ∀(t u:T),zK t→zK u→zK (t.set f u)
 | [],t,u,_,hu=>by grind[T.set]
 |i::f,t,u,ht,hu=>by
  cases t with
  |sl k xs=>
   simp only[T.set];split
   ·rename_i x hx
    simp only[zK,yA]at ht ⊢
    exact sets_clean xs i _ ht (uM f x u (xY xs ht i x hx) hu)
   ·exact ht
  |agg xs=>
   simp only[T.set];split
   ·rename_i x hx
    simp only[zK,yA]at ht ⊢
    exact sets_clean xs i _ ht (uM f x u (xY xs ht i x hx) hu)
   ·exact ht
  |tup xs=>
   simp only[T.set];split
   ·rename_i x hx
    simp only[zK,yA]at ht ⊢
    exact sets_clean xs i _ ht (uM f x u (xY xs ht i x hx) hu)
   ·exact ht
  |ptr t=>
   simp only[T.set];split
   ·simp only[zK,yA]at ht ⊢
    exact uM f t u ht hu
   ·exact ht
  |_=>grind[T.set]
where sets_clean:(xs:List T)→ ∀(i:Nat)(y:T),yE xs→zK y→yE (xs.set i y)
 | [],_,_,_,_=>by grind
 |x::xs,0,y,h,hy=>by simp only[K6,yE,yL]at h ⊢;grind
 |x::xs,i+1,y,h,hy=>by simp only[K4,yE,yL]at h ⊢;exact⟨h.1,sets_clean xs i y h.2 hy⟩
theorem zEb(T':TypeId)(ti:TypeInfo)(x y:Operand)(r:Nat)(q:List Nat)(tr u0:T)(p:zU)(ho:o.op=.store T' x y)(gb:o.dst=dg)
  (hi:P.info? T'=df ti)(gp:ti.size=p.tree.size)(pu:0<ti.size)(hx:jO Γ E x r q)(hr:E r=df tr)(bz:tr.single=dh)(hg:tr.get q.reverse=df u0)(hl:tr.locd q.reverse=dh)
  (eF:wJ p.tree u0=dh)(hy:tA E y p)(gL:wS E r [p]):
  yN P Γ o E (E.app ((r,df (tr.set q.reverse p.tree))::sWr r q p) ((r,q.length)::wY [p])):=by
 refine yN.skip gb fun a w G ga=>?_
 have hm:=ga.mem;have pM:=hx a w G ga;obtain⟨e3,e4,e5⟩:=ga.ent r _ hr;have mb:q≠[]:=by rintro rfl;simp[T.locd]at hl
 obtain⟨i0,f0,ai⟩:∃i f,q.reverse=i::f:=by
  cases h:q.reverse with
  |nil=>exact absurd (by simpa using h) mb
  |cons i f=>exact⟨i,f,rfl⟩
 have pd:∀v:T,(tr.set q.reverse v).single=dh∧zK tr:=by
  intro v;rw[ai]at hg ⊢
  cases tr with
  |sl k xs=>exact⟨by simp only[T.set];split<;>rfl,by simpa only[Top,zK,yA]using e5⟩
  |ptr t=>exact⟨by simp only[T.set];split<;>rfl,by simpa only[Top,zK,yA]using e5⟩
  |agg xs=>simp[T.single]at bz
  |tup xs=>simp[T.single]at bz
  |_=>simp[T.get]at hg
 obtain⟨b,ob,cs,et,cf,gz,aL⟩:=(kA q.reverse tr u0 [] e4 hg).2 hl;simp only[rp,Kj,J9]at cf;have hru0:=(kA q.reverse tr u0 [] e4 hg).1;have pN:=zBz cf;have hsu:=kI _ _ eF;have hc:=tP ga gL (by simp) hy;have fN:(a.eval y).cells.size=p.tree.size:=by
  rw[←Jx,hc];cases p with
  |slot s t=>obtain⟨_,_,h3⟩:=gL.slot s t (by simp);exact xE t [] (by rintro xs rfl;simp[T.okTup]at h3)
  |zero u=>exact xJ u (gL.zero u (by simp))
 have gv:∀v∈(a.eval y).cells.toList,v.oneCell'=dh:=by
  rw[hc];intro v hv;cases p with
  |slot s t=>exact zFA hm t [] v hv
  |zero u=>exact zB3 u (gL.zero u (by simp)) v hv
 generalize ew:w.setRow b (cs.toList.take ob++(a.eval y).cells.toList++cs.toList.drop (ob+(a.eval y).cells.toList.length)).toArray=w'
 have gI:w'.heap[b]? =df (.cells (cs.toList.take ob++(a.eval y).cells.toList++cs.toList.drop (ob+(a.eval y).cells.toList.length)).toArray et (0,0)):=by rw[←ew];exact setRow_heap w b cs _ et _ gz
 have gj:∀b',b'≠b→w'.heap[b']? =w.heap[b']?:=fun b' h=>by rw[←ew];exact setRow_other w b b' _ h
 have gE:w'.heap.size=w.heap.size:=by rw[←ew];exact size_setRow w b _
 have gN:(a.eval y).cells.toList.length=u0.size:=by rw[Jx,fN,hsu]
 have ej:∀k,zT w' b k=if ob≤k∧k<ob+u0.size then(vI G p)[k-ob]? else zT w b k:=by
  intro k;simp only[zT,World.cell?,gI,gz,Gi,L8,if_false];rw[←hc,←gN]at*
  rw[←Jy,←Jy (xs:=cs)];simp only[];have gQ:cs.toList.length=cs.size:=Jx ..
  generalize (a.eval y).cells.toList=V at*
  by_cases h1:k<ob
  ·rw[if_neg (by omega),Jb,L2 (by simp;omega),Hv h1]
  ·by_cases h2:k<ob+V.length
   ·rw[if_pos ⟨by omega,h2⟩,Jb,Jd (by simp;omega),L2 (by simp;omega)]
    congr 1;simp;omega
   ·rw[if_neg (by omega),Jb,Jd (by simp;omega),Jd (by simp;omega),H7]
    congr 1;simp;omega
 have eY:∀b' o' fl s z,G.lb b' o'=df (fl,s,z)→ ¬(s=r∧q<:+z)→zT w' b' o'=zT w b' o':=by
  intro b' o' fl s z h1 h2
  by_cases hb:b'=b
  ·subst hb
   rw[ej];split
   ·rename_i h3
    obtain⟨y',h4⟩:=zEL u0 q b' ob (o'-ob) cf (by omega);rw[show ob+(o'-ob)=o' from by omega,h1]at h4;simp at h4;exact absurd ⟨h4.2.1,y',h4.2.2.symm⟩ h2
   ·rfl
  ·simp[zT,World.cell?,gj b' hb]
 have cP:∀(b':Nat)(ms:Obj)(_:ms.nocell=dh),w.heap[b']? =df ms→w'.heap[b']? =df ms:=fun b' ms c h=>by
  by_cases e:b'=b
  ·subst e
   rw[gz]at h;cases h;cases c
  ·rw[gj b' e];exact h
 have gW:Blk w w':=by
  intro b' cs' e' h1
  by_cases hb:b'=b
  ·subst hb
   rw[gz]at h1;simp at h1;obtain⟨rfl,rfl⟩:=h1;exact⟨_,gI,by simp;have:cs.toList.length=cs.size:=Jx ..;omega⟩
  ·exact⟨cs',by rw[gj b' hb];exact h1,rfl⟩
 generalize gg:G.st r q p=G'
 have ghd:∀y',G'.hd r (y'++q)=sHd G p y':=fun y'=>by rw[←gg];simp[Gh.st]
 have ghd':∀s z,¬(s=r∧q<:+z)→G'.hd s z=G.hd s z:=fun s z h=>by rw[←gg];simp only[Gh.st];rw[if_neg h]
 have gad:∀s z,¬(s=r∧q<:+z)→G'.ad s z=G.ad s z:=fun s z h=>by rw[←gg];simp only[Gh.st];rw[if_neg (fun h2=>h ⟨h2.1,h2.2.1⟩)]
 have gadf:∀y',p.tree.inT y'.reverse=dh→G'.ad r (y'++q)=G.ad r (y'++q):=fun y' h=>by rw[←gg];simp only[Gh.st,zFB];rw[if_neg (by simp[h])]
 have gadm:∀s0 t y',p=.slot s0 t→t.inT y'.reverse=di→G'.ad r (y'++q)=G.ad s0 y':=fun s0 t y' h1 h2=>by subst h1;rw[←gg];simp only[Gh.st,zFB,zU.tree];rw[if_pos];simp[h2]
 have glb:∀b' o' fl s z,G.lb b' o'=df (fl,s,z)→zCs p q s z=dg→G'.lb b' o'=df (fl,s,z):=fun b' o' fl s z h1 h2=>by rw[←gg];simp[Gh.st,h1,h2]
 have glbm:∀b' o' fl s z z',G.lb b' o'=df (fl,s,z)→zCs p q s z=df z'→G'.lb b' o'=df (fl,r,z'):=fun b' o' fl s z z' h1 h2=>by rw[←gg];simp[Gh.st,h1,h2]
 have gow:∀b' s z,G.ow b'=df (s,z)→zCs p q s z=dg→G'.ow b'=df (s,z):=fun b' s z h1 h2=>by rw[←gg];simp[Gh.st,h1,h2]
 have gowm:∀b' s z z',G.ow b'=df (s,z)→zCs p q s z=df z'→G'.ow b'=df (r,z'):=fun b' s z z' h1 h2=>by rw[←gg];simp[Gh.st,h1,h2]
 have mN:∀s z,(∀n,(s,n)∉(r,q.length)::wY [p])→zCs p q s z=dg:=by
  intro s z h;cases p with
  |zero u=>rfl
  |slot s0 t=>
   simp only[zCs];rw[if_neg];intro h2;simp only[J2,beq_iff_eq]at h2;obtain⟨h3,rfl⟩:=h2;exact h 1 (by simp[wY,yK,h3])
 have fy:∀z,zCs p q r z=dg:=by
  intro z;cases p with
  |zero u=>rfl
  |slot s0 t=>
   simp only[zCs];rw[if_neg];intro h2;simp only[J2,beq_iff_eq]at h2;obtain⟨h3,rfl⟩:=h2;have:=(K0.1 gL.dist).1;simp[yK,h3]at this
 have cJ:∀s z,Off ((r,q.length)::wY [p]) s z→ ¬(s=r∧q<:+z):=by
  rintro s z h ⟨rfl,h2⟩
  have:=h q.length (by simp);have:=h2.length_le;omega
 have gw:uK ((r,q.length)::wY [p]) G w G' w':=by
  refine⟨fun s z h=>ghd' s z (cJ s z h),fun s z h=>gad s z (cJ s z h),fun b' o' fl s z _ h1 h2=>⟨glb b' o' fl s z h1 (mN s z h2),eY b' o' fl s z h1 ?_⟩,fun b' s z h1 h2=>gow b' s z h1 (mN s z h2),gW,fun b' _ _ ms c _ _ h=>cP b' ms c h⟩
  rintro⟨rfl,_⟩
  exact h2 q.length (by simp)
 have cj:sE Γ w b:=by obtain⟨y',h4⟩:=zEL u0 q b ob 0 cf (by omega);exact hm.lb _ _ _ h4
 have gr:Mem Γ G' w':=by
  refine⟨fun s z=>?_,fun b' o' l hl=>?_,fun b' l hl=>?_,fun b' x' gK=>?_,fun b' h1 h2=>?_,by rw[gE];exact hm.sz,hm.bk.trans gW (by rw[←ew];rfl) (by rw[←ew];rfl)⟩
  ·by_cases h:s=r∧q<:+z
   ·obtain⟨rfl,y',rfl⟩:=h
    rw[ghd];unfold sHd;split
    ·exact hm.one _ _
    ·exact sZ _
   ·rw[ghd' s z h];exact hm.one s z
  ·have:∃l',G.lb b' o'=df l':=by
    rw[←gg]at hl;simp only[Gh.st]at hl;split at hl
    ·exact⟨_,by assumption⟩
    ·cases hl
   obtain⟨l',pE⟩:=this;have:=hm.lb b' o' l' pE;exact⟨by rw[gE];exact this.1,this.2⟩
  ·have:∃l',G.ow b'=df l':=by
    rw[←gg]at hl;simp only[Gh.st]at hl;split at hl
    ·exact⟨_,by assumption⟩
    ·cases hl
   obtain⟨l',pE⟩:=this;have:=hm.ow b' l' pE;exact⟨by rw[gE];exact this.1,this.2⟩
  ·have hb:b'≠b:=by rintro rfl;rw[cj.2.2]at gK;cases gK
   rw[gj b' hb];exact hm.st b' x' gK
  ·have hb:b'≠b:=by
    rintro rfl
    rcases cj.2.1 with h3|h3
    ·omega
    ·exact h2 h3
   rw[gj b' hb];exact hm.fr b' h1 h2
 have tf:Upd G w G' w' r q:=by refine⟨fun z h=>ghd' r z (fun h2=>h h2.2),fun z h=>gad r z (fun h2=>h h2.2),fun b' o' fl z h1 h=>⟨glb b' o' fl r z h1 (fy z),eY b' o' fl r z h1 (fun h2=>h h2.2)⟩,fun b' z h1 _=>gow b' r z h1 (fy z),gW,fun b' _ ms c _ _ h=>cP b' ms c h⟩
 have pZ:R Γ.St G' w' r p.tree q:=by
  cases hp:p with
  |zero u=>
   refine zEJ u q (gL.zero u (by simp[hp])) (fun z=>by rw[ghd];simp[sHd,hp])
  |slot s0 t=>
   obtain⟨h1,h2,h3⟩:=gL.slot s0 t (by simp[hp]);have eT:=(ga.ent s0 t h1).2.1
   by_cases fD:vL t=dh
   ·have tw:s0≠r:=by
     rintro rfl
     have:=(K0.1 gL.dist).1;simp[hp,yK,fD]at this
    refine zF8 t [] q h3 ⟨fun z=>by rw[ghd,J9];simp[sHd,hp],fun z hz=>by rw[J9];exact gadm s0 t z hp hz,fun b' o' fl z _ h4=>?_,fun b' z h4=>?_,gW,fun b' _ ms c _ h=>cP b' ms c h⟩ (yA.mono (fun _ _=>False.elim) t h2) eT
    ·rw[J9]at h4
     exact⟨glbm b' o' fl s0 z _ h4 (by simp[zCs,hp,fD]),eY b' o' fl s0 z h4 (fun h5=>tw h5.1)⟩
    ·rw[J9]at h4
     exact gowm b' s0 z _ h4 (by simp[zCs,hp,fD])
   ·have hh:G'.hd r q=G.hd s0 []:=by have:=ghd [];rw[Jr]at this;rw[this];simp[sHd,hp]
    cases t<;>simp[vL]at fD<;>simp only[R,zU.tree]at eT ⊢ <;>rw[hh]<;>exact eT
 have fo:vals G' r p.tree q=vI G p:=by
  cases hp:p with
  |zero u=>exact zB1 u q (gL.zero u (by simp[hp])) (fun z=>by rw[ghd];simp[sHd,hp])
  |slot s0 t=>exact sF t [] q (fun z=>by rw[ghd];simp[sHd,hp])
 have mV:∀b' o',Loc G w r u0 q b' o'→Loc G' w' r p.tree q b' o':=by
  intro b' o' h1;have h2:b'=b∧o'=ob:=by have:=(zBz h1).symm.trans pN;simp at this;exact this
  obtain⟨rfl,rfl⟩:=h2;refine zJF p.tree u0 q b' o' eF (fun y' h=>gadf y' h) (fun b2 o2 y' h=>glb b2 o2 di r _ h (fy _)) (fun j v hv=>?_) h1;rw[fo]at hv;have hj:=(Ja.1 hv).1;have bB:(vI G p).length=u0.size:=by rw[←hc,gN]
  rw[ej,if_pos ⟨by omega,by omega⟩,show o'+j-o'=j from by omega];exact hv
 have mI:R Γ.St G' w' r (tr.set q.reverse p.tree) []:=by
  have fO:rp q.reverse []=q:=by simp[rp]
  refine zCD q.reverse tr p.tree u0 [] (by rw[fO];exact tf) e4 hg hsu (yA.mono (fun _ _=>False.elim) tr (pd .any).2) (by rw[fO];exact mV) (by rw[fO];exact pZ)
 have gA:=run_storeCells_at P b ob et (a.eval y).cells.toList 0 cs w gz (by omega) gv;simp only[Hp]at gA;rw[ew]at gA;refine⟨w',?_,G',wB ga rfl gw gr ?_ ?_⟩
 ·have tp:(a.eval y).cells.size=ti.size:=by rw[fN,gp]
  simp[execOp,ho,pM,pN,Instr.storeAt,vN,storeVar,sizeOf,typeInfo,hi,tp,gA]
 ·intro s hs
  simp only[Wr.find]at hs;split at hs
  ·cases hs
  ·rename_i gf
   refine⟨fun n hn=>?_,rfl⟩;simp only[Jh,Gz.injEq]at hn;rcases hn with⟨h1,_⟩|hn
   ·exact gf h1.symm
   ·cases p with
    |zero u=>simp[wY,yK]at hn
    |slot s0 t=>
     by_cases fD:vL t=dh
     ·simp[wY,yK,fD]at hn
      simp[sWr,fD,Wr.find,hn.1.symm]at hs
     ·simp[wY,yK,fD]at hn
 ·intro s t hs
  simp only[Wr.find]at hs;split at hs
  ·rename_i he
   subst he;simp at hs;subst hs;refine⟨?_,mI,Top.of_clean _ (uM _ _ _ (pd .any).2 ?_)⟩
   ·rw[e3,yM (pd p.tree).1,yM bz]
    congr 1
    exact(ghd' r [] (fun h=>mb (by simpa using h.2))).symm
   ·cases p with
    |zero u=>exact(qB u (gL.zero u (by simp))).1
    |slot s0 t=>exact(gL.slot s0 t (by simp)).2.1
  ·rename_i gf
   cases hp:p with
   |zero u=>simp[sWr,hp,Wr.find]at hs
   |slot s0 t0=>
    by_cases fD:vL t0=dh
    ·simp only[sWr,hp,fD,if_true,Wr.find]at hs
     split at hs
     ·rename_i he
      subst he;simp at hs;subst hs;obtain⟨h1,h2,h3⟩:=gL.slot s0 t0 (by simp[hp]);refine zGM (G:=G) (ga.ent s0 t0 h1).1 (by rintro xs rfl;simp[T.okTup]at h3) (fun z=>ghd' s0 z (fun h=>gf h.1.symm)) (fun z=>by rw[ghd];simp[sHd,hp]) (by rw[hp]at pZ;exact pZ)
     ·cases hs
    ·simp[sWr,hp,fD,Wr.find]at hs
theorem zJG(T':TypeId)(ti:TypeInfo)(x y:Operand)(r:Nat)(q:List Nat)(tr u0:T)(p:zU)(ho:o.op=.store T' x y)(gb:o.dst=dg)
  (hi:P.info? T'=df ti)(gp:ti.size=p.tree.size)(pu:0<ti.size)(hx:opT E x=df (.addr r q))(hr:E r=df tr)(bz:tr.single=dh)(hg:tr.get q.reverse=df u0)(hl:tr.locd q.reverse=dh)
  (eF:wJ p.tree u0=dh)(hy:tA E y p)(gL:wS E r [p]):
  yN P Γ o E (E.app ((r,df (tr.set q.reverse p.tree))::sWr r q p) ((r,q.length)::wY [p])):=
 by grind[zEb,jO.addr]
end
end Go.Ab

namespace Go.Ab
open Go
section
variable {G G':Gh}{s:Nat}
theorem zGN(xs:List T):∀(p:List Nat)(j:Nat),(∀k,j≤k→ ∀z,G'.hd s (z++(k::p))=G.hd s (z++(k::p)))→zJ G' s xs p j=zJ G s xs p j:=by
 induction xs with
 |nil=>grind[zJ]
 |cons z zs ih=>
  intro p j h;simp only[zJ];rw[sF z (j::p) (j::p) (h j (Jg _)),ih p (j+1) (by grind)]
theorem zIB(xs:List T):∀(p:List Nat)(j i:Nat)(x y:T),xs[i]? =df x→(∀k,k≠j+i→ ∀z,G'.hd s (z++(k::p))=G.hd s (z++(k::p)))→
  vals G' s y ((j+i)::p)=vals G s x ((j+i)::p)→zJ G' s (xs.set i y) p j=zJ G s xs p j:=by
 induction xs with
 |nil=>simp
 |cons z zs ih=>
  intro p j i x y h hz hy;cases i with
  |zero=>
   grind[zJ,zGN]
  |succ i=>
   simp only[K4,zJ];rw[sF z (j::p) (j::p) (hz j (by omega)),ih p (j+1) i x y (by grind) (by grind) (by grind)]
theorem zFC:(f:List Nat)→ ∀(t u u0:T)(p:List Nat),t.get f=df u0→u0.single=dh→u.single=dh→(∀z,(rp f p<:+z→z=rp f p)→G'.hd s z=G.hd s z)→vals G' s (t.set f u) p=vals G s t p
 | [],t,u,u0,p,hg,h0,h1,hh=>by simp[T.get]at hg;subst hg;have:G'.hd s p=G.hd s p:=hh p (by simp[rp]);simp only[T.set];cases t<;>simp[T.single]at h0<;>cases u<;>simp[T.single]at h1<;>simp[vals,this]
 |i::f,t,u,u0,p,hg,h0,h1,hh=>by
  rw[sC]at hh;have hp:G'.hd s p=G.hd s p:=by grind[uO]
  cases t with
  |agg xs=>
   simp only[T.get]at hg;cases hx:xs[i]? with
   |none=>grind
   |some x=>
    rw[hx]at hg;simp only[T.set,hx,vals];refine zIB xs p 0 i x _ hx (by grind[uJ]) ?_;rw[J8];exact zFC f x u u0 (i::p) hg h0 h1 hh
  |tup xs=>
   grind[T.set,vals]
  |sl k xs=>grind[T.set,vals]
  |ptr t=>grind[T.set,vals]
  |_=>grind[T.get]
theorem zFD(f:List Nat)(t u u0:T)(p:List Nat)(hg:t.get f=df u0)(h0:u0.single=dh)(h1:u.single=dh)(hh:∀z,(rp f p<:+z→z=rp f p)→G'.hd s z=G.hd s z)(gO:∀xs,t≠.tup xs):
  wR G' s (t.set f u) p=wR G s t p:=by
 have h:=zFC f t u u0 p hg h0 h1 hh;cases f with
 |nil=>
  simp[T.get]at hg;subst hg;have:G'.hd s p=G.hd s p:=hh p (by simp[rp]);simp only[T.set];cases t<;>simp[T.single]at h0<;>cases u<;>simp[T.single]at h1<;>simp[wR,this]
 |cons i f=>
  rw[sC]at hh;have hp:G'.hd s p=G.hd s p:=by grind[uO]
  cases t with
  |agg xs=>
   grind[T.set,vals,wR]
  |tup xs=>grind
  |sl k xs=>grind[T.set,wR]
  |ptr t=>grind[T.set,wR]
  |_=>grind[T.get]
theorem zIC(xs:List T):∀(p:List Nat)(j:Nat),(∀k,j≤k→ ∀z,G'.hd s (z++(k::p))=G.hd s (z++(k::p)))→vW G' s xs p j=vW G s xs p j:=by
 induction xs with
 |nil=>grind[vW]
 |cons z zs ih=>
  intro p j h;simp only[vW];rw[qQ z (j::p) (j::p) (h j (Jg _)),ih p (j+1) (by grind)]
theorem zJH(xs:List T):∀(p:List Nat)(j i:Nat)(x y:T),xs[i]? =df x→(∀k,k≠j+i→ ∀z,G'.hd s (z++(k::p))=G.hd s (z++(k::p)))→
  wR G' s y ((j+i)::p)=wR G s x ((j+i)::p)→vW G' s (xs.set i y) p j=vW G s xs p j:=by
 induction xs with
 |nil=>simp
 |cons z zs ih=>
  intro p j i x y h hz hy;cases i with
  |zero=>
   grind[vW,zIC]
  |succ i=>
   simp only[K4,vW];rw[qQ z (j::p) (j::p) (hz j (by omega)),ih p (j+1) i x y (by grind) (by grind) (by grind)]
def yW:T→Bool
 |.tup xs=>xs.all fun x=>match x with
  |.tup _=>di
  |_=>dh
 |_=>dh
theorem zHN(f:List Nat)(t u u0:T)(p:List Nat)(hg:t.get f=df u0)(h0:u0.single=dh)(h1:u.single=dh)(hh:∀z,(rp f p<:+z→z=rp f p)→G'.hd s z=G.hd s z)(cX:yW t=dh):
  mkV G' s (t.set f u) p=mkV G s t p:=by
 by_cases ht:∃xs,t=.tup xs
 ·obtain⟨xs,rfl⟩:=ht
  cases f with
  |nil=>grind[T.get,T.single]
  |cons i f=>
   rw[sC]at hh;simp only[T.get]at hg;cases hx:xs[i]? with
   |none=>grind
   |some x=>
    rw[hx]at hg;simp only[T.set,hx,mkV];rw[zJH xs p 0 i x _ hx (fun k hk z=>hh _ (fun h=>absurd h (uJ (by omega) z)))];rw[J8];refine zFD f x u u0 (i::p) hg h0 h1 hh ?_
    rintro ys rfl
    simp only[yW]at cX;have:=Jm.1 cX _ (Kk hx)
    grind
 ·have gO:∀xs,t≠.tup xs:=by grind
  rw[uR G s t p gO,←zFD f t u u0 p hg h0 h1 hh gO];refine uR G' s _ p ?_
  rintro xs eu
  cases f with
  |nil=>grind[T.set,T.single]
  |cons i f=>cases t<;>simp only[T.set]at eu<;>first|grind|grind|cases eu
end
theorem zCw:(f:List Nat)→ ∀(t u:T),Top t→zK u→Top (t.set f u)
 | [],t,u,_,hu=>by grind[T.set,Top.of_clean]
 |i::f,t,u,ht,hu=>by
  cases t with
  |sl k xs=>
   refine Top.of_clean _ (uM (i::f) _ u (by simpa only[Top,zK,yA]using ht) hu)
  |ptr t=>exact Top.of_clean _ (uM (i::f) _ u (by simpa only[Top,zK,yA]using ht) hu)
  |agg xs=>
   simp only[T.set];split
   ·rename_i x hx
    simp only[Top]at ht ⊢
    exact tops_set xs i _ ht (zCw f x u (tops_get xs ht i x hx) hu)
   ·exact ht
  |tup xs=>
   simp only[T.set];split
   ·rename_i x hx
    simp only[Top]at ht ⊢
    exact tops_set xs i _ ht (zCw f x u (tops_get xs ht i x hx) hu)
   ·exact ht
  |_=>grind[T.set]
where
 tops_set:(xs:List T)→ ∀(i:Nat)(y:T),xV xs→Top y→xV (xs.set i y)
  | [],_,_,_,_=>by simp[xV]
  |x::xs,0,y,h,hy=>by simp only[K6,xV]at h ⊢;grind
  |x::xs,i+1,y,h,hy=>by simp only[K4,xV]at h ⊢;exact⟨h.1,tops_set xs i y h.2 hy⟩
 tops_get:(xs:List T)→xV xs→ ∀(i:Nat)(x:T),xs[i]? =df x→Top x
  | [],_,_,_,h=>by simp at h
  |y::ys,hk,i,x,h=>by
   simp only[xV]at hk;cases i with
   |zero=>grind
   |succ i=>exact tops_get ys hk.2 i x (by grind)
def Gh.tr(G:Gh)(d:Nat)(g:List Nat)(r:Nat)(p:List Nat):Gh where
 hd s z:=if s=d∧g<:+z then G.hd r (z.take (z.length-g.length)++p)else G.hd s z
 ad s z:=if s=d∧g<:+z∧z≠g then G.ad r (z.take (z.length-g.length)++p)else G.ad s z
 lb b o:=match G.lb b o with
  |some (fl,s,z)=>if s=r∧p<:+z∧(fl=dh∨z≠p)then df (fl,d,z.take (z.length-p.length)++g)else df (fl,s,z)
  |none=>dg
 ow b:=match G.ow b with
  |some (s,z)=>if s=r∧p<:+z then df (d,z.take (z.length-p.length)++g)else df (s,z)
  |none=>dg
theorem zCa{t:T}(h:t.single=dh):t.size=1:=by cases t<;>simp[T.single]at h<;>simp[T.size]
theorem zCS{Γ:Ctx}{E:Env}{G:Gh}{tmps:Array Value}{w:World}(ga:Rep Γ E G tmps w)(d:Nat)(g:List Nat)(r:Nat)(p:List Nat)(td tr u v0:T)(hd:E d=df td)(hg:td.get g.reverse=df v0)(fp:v0.single=dh)(gS:G.hd d g=G.hd r p)(hr:E r=df tr)
  (hp:tr.get p.reverse=df u)(hu:u.single=dh)(ef:zK u)(gJ:d≠r)(pz:td.okB [(d,g.length+1),(r,p.length+1)]=dh)(cb:tr.okB [(d,g.length+1),(r,p.length+1)]=dh)(bJ:yW td=dh)(fL:yW tr=dh):
  Rep Γ (E.app [(d,df (td.set g.reverse u)),(r,df (if p=[]then .same d g else tr.set p.reverse .any))] [(d,g.length+1),(r,p.length+1)]) (G.tr d g r p) tmps w∧ ∀s z,¬(s=d∧g<:+z∧z≠g)→(G.tr d g r p).hd s z=G.hd s z:=by
 obtain⟨d1,d2,d3⟩:=ga.ent d td hd;obtain⟨r1,r2,r3⟩:=ga.ent r tr hr;have hm:=ga.mem;have pZ:=(kA p.reverse tr u [] r2 hp).1;simp only[rp,Kj,J9]at pZ;have gz:Blk w w:=fun b cs e' h=>⟨cs,h,rfl⟩
 generalize gg:G.tr d g r p=G'
 have ghd:∀z,G'.hd d (z++g)=G.hd r (z++p):=fun z=>by rw[←gg];simp[Gh.tr]
 have ghd0:∀s z,¬(s=d∧g<:+z∧z≠g)→G'.hd s z=G.hd s z:=by
  intro s z h;rw[←gg];simp only[Gh.tr]
  by_cases h2:s=d∧g<:+z
  ·have h3:z=g:=by
    rcases Decidable.em (z=g)with e|e
    ·exact e
    ·exact absurd ⟨h2.1,h2.2,e⟩ h
   subst h3;rw[if_pos h2,h2.1];simpa using gS.symm
  ·rw[if_neg h2]
 have gad0:∀s z,¬(s=d∧g<:+z∧z≠g)→G'.ad s z=G.ad s z:=fun s z h=>by rw[←gg];simp only[Gh.tr];rw[if_neg h]
 have gad:∀z,z≠[]→G'.ad d (z++g)=G.ad r (z++p):=fun z h=>by rw[←gg];simp only[Gh.tr];rw[if_pos (by simpa using h)];simp
 have glb0:∀b o fl s z,G.lb b o=df (fl,s,z)→ ¬(s=r∧p<:+z∧(fl=dh∨z≠p))→G'.lb b o=df (fl,s,z):=fun b o fl s z h1 h2=>by rw[←gg];simp only[Gh.tr,h1];rw[if_neg h2]
 have glb:∀b o fl z,G.lb b o=df (fl,r,z++p)→(fl=dh∨z≠[])→G'.lb b o=df (fl,d,z++g):=fun b o fl z h1 h2=>by rw[←gg];simp only[Gh.tr,h1];rw[if_pos (by simpa using h2)];simp
 have gow0:∀b s z,G.ow b=df (s,z)→ ¬(s=r∧p<:+z)→G'.ow b=df (s,z):=fun b s z h1 h2=>by rw[←gg];simp only[Gh.tr,h1];rw[if_neg h2]
 have gow:∀b z,G.ow b=df (r,z++p)→G'.ow b=df (d,z++g):=fun b z h1=>by rw[←gg];simp only[Gh.tr,h1];rw[if_pos (by simp)];simp
 have gD:∀s z,Off [(d,g.length+1),(r,p.length+1)] s z→ ¬(s=d∧g<:+z∧z≠g):=by
  rintro s z h ⟨rfl,⟨y,rfl⟩,h3⟩
  have:=h (g.length+1) (by simp);have:y=[]:=Ji (by simp at this;omega);exact h3 (by simp[this])
 have gw:uK [(d,g.length+1),(r,p.length+1)] G w G' w:=by
  refine⟨fun s z h=>ghd0 s z (gD s z h),fun s z h=>gad0 s z (gD s z h),fun b o fl s z _ h1 h2=>⟨glb0 b o fl s z h1 ?_,rfl⟩,fun b s z h1 h2=>gow0 b s z h1 ?_,gz,by intros;assumption⟩
  ·rintro⟨rfl,_⟩;exact h2 (p.length+1) (by simp)
  ·rintro⟨rfl,_⟩;exact h2 (p.length+1) (by simp)
 have gr:Mem Γ G' w:=by
  refine⟨fun s z=>?_,fun b o l hl=>?_,fun b l hl=>?_,hm.st,hm.fr,hm.sz,hm.bk⟩
  ·rw[←gg]
   simp only[Gh.tr];split
   ·exact hm.one _ _
   ·exact hm.one _ _
  ·have:∃l',G.lb b o=df l':=by
    rw[←gg]at hl;simp only[Gh.tr]at hl;split at hl
    ·exact⟨_,by assumption⟩
    ·cases hl
   obtain⟨l',pE⟩:=this;exact hm.lb b o l' pE
  ·have:∃l',G.ow b=df l':=by
    rw[←gg]at hl;simp only[Gh.tr]at hl;split at hl
    ·exact⟨_,by assumption⟩
    ·cases hl
   obtain⟨l',pE⟩:=this;exact hm.ow b l' pE
 have fO:∀q:List Nat,rp q.reverse []=q:=fun q=>by simp[rp]
 have hud:R Γ.St G' w d u g:=by
  refine tE (G:=G) (w:=w) (s:=r) (p:=p) ⟨⟨ghd,gad,fun b o f z hz _ hl=>⟨glb b o f z hl (.inr hz),rfl⟩,fun b z _ hl=>gow b z hl,gz,by intros;assumption⟩,fun b o _ hl=>⟨by simpa using glb b o dh [] (by simpa using hl) (.inl rfl),rfl⟩,fun b hl=>by simpa using gow b [] (by simpa using hl)⟩ u
   (yA.mono (fun _ _=>False.elim) u ef) pZ
 have mB:Upd G w G' w d g:=⟨fun z h=>ghd0 d z (fun h2=>h h2.2.1),fun z h=>gad0 d z (fun h2=>h h2.2.1),fun b o f z h1 _=>⟨glb0 b o f d z h1 (fun h2=>gJ h2.1),rfl⟩,fun b z h1 _=>gow0 b d z h1 (fun h2=>gJ h2.1),gz,by intros;assumption⟩;have mW:∀b o,Loc G w d v0 g b o→Loc G' w d u g b o:=by intro b o h1;obtain⟨h2,h3,h4⟩:=wI fp h1;have h5:G'.ad d g=⟨b,o,dg⟩∧G'.lb b o=df (di,d,g)∧zT w b o=df (G'.hd d g):=⟨(gad0 d g (fun h=>h.2.2 rfl)).trans h2,glb0 b o di d g h3 (fun h=>gJ h.1),by rw[h4,ghd0 d g (fun h=>h.2.2 rfl)]⟩;cases u<;>simp[T.single]at hu<;>simpa only[Loc]using h5
 have bq:R Γ.St G' w d (td.set g.reverse u) []:=
  zCD g.reverse td u v0 [] (by rw[fO];exact mB) d2 hg (by rw[zCa fp,zCa hu]) (gw.keepR (sD td d3 pz)) (by rw[fO];exact mW) (by rw[fO];exact hud)
 have hVd:mkV G' d (td.set g.reverse u) []=mkV G d td []:=
  zHN g.reverse td u v0 [] hg fp hu (fun z hz=>ghd0 d z (fun h2=>h2.2.2 (by rw[fO]at hz;exact hz h2.2.1))) bJ
 have hRr:p≠[]→R Γ.St G' w r (tr.set p.reverse .any) []:=by intro me;refine zCD p.reverse tr .any u [] (by rw[fO];exact⟨fun z _=>ghd0 r z (fun h2=>gJ h2.1.symm),fun z _=>gad0 r z (fun h2=>gJ h2.1.symm),fun b o f z h1 h=>⟨glb0 b o f r z h1 (fun h2=>h h2.2.1),rfl⟩,fun b z h1 h=>gow0 b r z h1 (fun h2=>h h2.2),gz,by intros;assumption⟩) r2 hp (by cases u<;>simp[T.single]at hu<;>simp[T.size]) (gw.keepR (sD tr r3 cb)) ?_ (by simp only[R]);rw[fO];intro b o h1;obtain⟨h2,h3,h4⟩:=wI hu h1;simp only[Loc];exact⟨(gad0 r p (fun h=>gJ h.1.symm)).trans h2,glb0 b o di r p h3 (by simp),by rw[h4,ghd0 r p (fun h=>gJ h.1.symm)]⟩
 have hVr:p≠[]→mkV G' r (tr.set p.reverse .any) []=mkV G r tr []:=fun _=>
  zHN p.reverse tr .any u [] hp hu rfl (fun z _=>ghd0 r z (fun h2=>gJ h2.1.symm)) fL
 refine⟨wB ga rfl gw gr ?_ ?_,ghd0⟩
 ·intro s hs
  simp only[Wr.find]at hs;split at hs
  ·cases hs
  ·rename_i h1
   split at hs
   ·cases hs
   ·rename_i h2
    refine⟨fun n hn=>?_,rfl⟩;simp only[Jh,Gz.injEq,List.not_mem_nil,or_false]at hn;rcases hn with⟨e,_⟩|⟨e,_⟩
    ·exact h1 e.symm
    ·exact h2 e.symm
 ·intro s t hs
  simp only[Wr.find]at hs;split at hs
  ·rename_i he
   subst he;simp at hs;subst hs;exact⟨by rw[d1,hVd],bq,zCw _ _ _ d3 ef⟩
  ·split at hs
   ·rename_i he
    subst he;simp at hs
    by_cases me:p=[]
    ·rw[if_pos me]at hs
     subst hs;subst me;simp[T.get]at hp;subst hp;refine⟨?_,?_,by simp[Top]⟩
     ·rw[r1,yM hu,yM rfl,ghd0 r [] (fun h=>gJ h.1.symm)]
     ·simp only[R]
      rw[ghd0 r [] (fun h=>gJ h.1.symm)];have:=ghd [];simpa using this.symm
    ·rw[if_neg me]at hs
     subst hs;exact⟨by rw[r1,hVr me],hRr me,zCw _ _ _ r3 (by simp[zK,yA])⟩
   ·cases hs
theorem zGO{Γ:Ctx}{E:Env}{a:Act}{w:World}(h:Sim Γ E a w)(d:Nat)(g:List Nat)(r:Nat)(p:List Nat)(td tr u:T)(hd:E d=df td)(hg:td.get g.reverse=df (.same r p))(hr:E r=df tr)
  (hp:tr.get p.reverse=df u)(hu:u.single=dh)(ef:zK u)(gJ:d≠r)(pz:td.okB [(d,g.length+1),(r,p.length+1)]=dh)(cb:tr.okB [(d,g.length+1),(r,p.length+1)]=dh)(bJ:yW td=dh)(fL:yW tr=dh):
  Sim Γ (E.app [(d,df (td.set g.reverse u)),(r,df (if p=[]then .same d g else tr.set p.reverse .any))] [(d,g.length+1),(r,p.length+1)]) a w:=by
 obtain⟨gR,G,ga⟩:=h;have gS:=(kA g.reverse td _ [] (ga.ent d td hd).2.1 hg).1;simp only[rp,Kj,J9,R]at gS;exact⟨gR,_,(zCS ga d g r p td tr u _ hd hg rfl gS hr hp hu ef gJ pz cb bJ fL).1⟩
end Go.Ab

namespace Go.Ab
open Go
theorem zEM{St:Stb}{G:Gh}{w:World}{s:Nat}{k:Nat}:(xs:List T)→ ∀(p:List Nat)(j b o:Nat),(∀i x,xs[i]? =df x→Loc G w s x ((j+i)::p) b (o+i*k)∧x.size=k∧R St G w s x ((j+i)::p))→RL St G w s xs p j b o k
 | [],_,_,_,_,_=>by simp only[RL]
 |x::xs,p,j,b,o,h=>by
  obtain⟨h1,h2,h3⟩:=h 0 x (by simp);simp only[RL];refine⟨⟨by simpa using h1,h2⟩,by simpa using h3,zEM xs p (j+1) b (o+k) (fun i y hy=>?_)⟩;have:=h (i+1) y (by simpa using hy)
  rwa [show j+(i+1)=j+1+i from by omega,show o+(i+1)*k=o+k+i*k from by rw[Kl];omega]at this
theorem tQ{St:Stb}{G:Gh}{w:World}{s:Nat}{k:Nat}:(xs:List T)→ ∀(p:List Nat)(j b o:Nat),RL St G w s xs p j b o k→xS G w s xs p j b o
 | [],_,_,_,_,_=>by simp only[xS]
 |x::xs,p,j,b,o,h=>by simp only[RL]at h;simp only[xS];exact⟨h.1.1,tQ xs p (j+1) b (o+x.size) (by rw[h.1.2];exact h.2.2)⟩
theorem qE{St:Stb}{G:Gh}{w:World}{s:Nat}{k:Nat}:(xs:List T)→ ∀(p:List Nat)(j b o:Nat),RL St G w s xs p j b o k→RF St G w s xs p j∧ ∀x∈xs,x.size=k
 | [],_,_,_,_,_=>by simp[RF]
 |x::xs,p,j,b,o,h=>by simp only[RL]at h;obtain⟨h1,h2⟩:=qE xs p (j+1) b (o+k) h.2.2;exact⟨by simp only[RF];exact⟨h.2.1,h1⟩,fun y hy=>by rcases Jh.1 hy with rfl|hy;exact h.1.2;exact h2 y hy⟩
section
variable {G:Gh}{w:World}{G':Gh}{w':World}{s s':Nat}
mutual
theorem zBf:(t:T)→ ∀(p p':List Nat)(b o:Nat),(∀z,G'.hd s' (z++p')=G.hd s (z++p))→(∀z,G'.ad s' (z++p')=G.ad s (z++p))→
  (∀b o z,G.lb b o=df (di,s,z++p)→G'.lb b o=df (di,s',z++p')∧zT w' b o=zT w b o)→Loc G w s t p b o→Loc G' w' s' t p' b o
 |.agg xs,p,p',b,o,hh,ha,hl,h=>by
  simp only[Loc]at h ⊢
  exact⟨by have:=ha [];simp at this;rw[this];exact h.1,zEc xs p p' 0 b o hh ha hl h.2⟩
 |.any,p,p',b,o,hh,ha,hl,h|.lit _,p,p',b,o,hh,ha,hl,h|.ro _,p,p',b,o,hh,ha,hl,h|.same _ _,p,p',b,o,hh,ha,hl,h|.addr _ _,p,p',b,o,hh,ha,hl,h|.sub _ _ _ _ _,p,p',b,o,hh,ha,hl,h|.sl _ _,p,p',b,o,hh,ha,hl,h|.ptr _,p,p',b,o,hh,ha,hl,h|.mp _ _,p,p',b,o,hh,ha,hl,h=>by
  simp only[Loc]at h ⊢
  have h1:=hl b o [] (by simpa using h.2.1);have h2:=ha [];have h3:=hh [];simp only[Jr]at h1 h2 h3;exact⟨h2.trans h.1,h1.1,by rw[h1.2,h.2.2,h3]⟩
 |.tup _,_,_,_,_,_,_,_,h=>by simp only[Loc]at h
theorem zEc:(xs:List T)→ ∀(p p':List Nat)(j b o:Nat),(∀z,G'.hd s' (z++p')=G.hd s (z++p))→(∀z,G'.ad s' (z++p')=G.ad s (z++p))→
  (∀b o z,G.lb b o=df (di,s,z++p)→G'.lb b o=df (di,s',z++p')∧zT w' b o=zT w b o)→xS G w s xs p j b o→xS G' w' s' xs p' j b o
 | [],_,_,_,_,_,_,_,_,_=>by simp only[xS]
 |x::xs,p,p',j,b,o,hh,ha,hl,h=>by
  simp only[xS]at h ⊢
  exact⟨zBf x (j::p) (j::p') b o (fun z=>by have:=hh (z++[j]);simpa using this) (fun z=>by have:=ha (z++[j]);simpa using this) (fun b o z hz=>by have:=hl b o (z++[j]) (by simpa using hz);simpa using this) h.1,
   zEc xs p p' (j+1) b _ hh ha hl h.2⟩
end
end
theorem zBg(G:Gh)(s:Nat):∀(xs us:List T)(p:List Nat)(j:Nat),zJ G s (xs++us) p j=zJ G s xs p j++zJ G s us p (j+xs.length)
 | [],us,p,j=>by simp[zJ]
 |x::xs,us,p,j=>by simp[zJ,zBg G s xs us p (j+1),L7,Q7 1]
theorem zBh:∀(xs us:List T),T.sizes (xs++us)=T.sizes xs+T.sizes us
 | [],us=>by simp[T.sizes]
 |x::xs,us=>by simp[T.sizes,zBh xs us,L7]
theorem zAy:∀(xs us:List T),zY xs=dh→zY us=dh→zY (xs++us)=dh
 | [],us,_,h=>h
 |x::xs,us,h,h'=>by
  simp only[zY,J2,Ka]at h ⊢
  exact⟨h.1,zAy xs us h.2 h'⟩
theorem zAz:∀(xs us:List T),yE xs→yE us→yE (xs++us)
 | [],us,_,h=>h
 |x::xs,us,h,h'=>by
  simp only[yE,yL,Ka]at h ⊢
  exact⟨h.1,zAz xs us h.2 h'⟩
theorem uQ{St:Stb}{G:Gh}{w:World}{s:Nat}{k:Nat}:(xs:List T)→ ∀(p:List Nat)(j b o:Nat),xS G w s xs p j b o→zY xs=dh
 | [],_,_,_,_,_=>rfl
 |x::xs,p,j,b,o,h=>by simp only[xS]at h;simp only[zY,J2];exact⟨one x (j::p) b o h.1,uQ (St:=St) (k:=k) xs p (j+1) b _ h.2⟩
where
 one:(t:T)→ ∀(p:List Nat)(b o:Nat),Loc G w s t p b o→t.okTup=dh
  |.agg xs,p,b,o,h=>by simp only[Loc]at h;simp only[T.okTup];exact uQ (St:=St) (k:=k) xs p 0 b o h.2
  |.tup _,_,_,_,h=>by simp only[Loc]at h
  |.any,_,_,_,_|.lit _,_,_,_,_|.ro _,_,_,_,_|.same _ _,_,_,_,_|.addr _ _,_,_,_,_|.sub _ _ _ _ _,_,_,_,_|.sl _ _,_,_,_,_|.ptr _,_,_,_,_|.mp _ _,_,_,_,_=>rfl
section
variable {P:Program}
structure zCT (P:Program) (t2:TypeId) (e:TypeId) (ti:TypeInfo) (xv:Value) (m:Nat) (nv:List Value) (w:World):Prop where
 arg:(∃e2 xa c,P.underlying t2=df (.slice e2)∧xv=.slice xa m c∧ ∀w2:World,w2.heap=w.heap→(Builtin.firstCells ti.size m (.slice xa m c)).run P w2=.ok nv.toArray w2)∨
  ∃k2 k3 z,P.underlying t2=df (.int k2)∧xv=.int k3 (m:Int)∧ti.zero=df z∧nv.toArray=Builtin.zeroCells z.cells m∧m*ti.bytes≤2 ^ 47∧z.cells.size=ti.size
theorem zBi{t t2 ty e:TypeId}{ti:TypeInfo}{xv:Value}{m:Nat}{nv:List Value}{w w':World}(ht:P.underlying t=df (.slice e))(hi:P.info? e=df ti)
  (hx:zCT P t2 e ti xv m nv w)(hm:m≤68719476736){base:Option Addr}{n cap:Nat}(gH:n+m≤cap)
  (gA:(if let df a:=base then storeCells (a.add (n*ti.size)) nv else pure ():Sem Unit).run P w=.ok () w'):
  (Builtin.append_ #[t,t2] ty #[.slice base n cap,xv]).run P w=.ok (.slice base (n+m) cap) w':=by
 rcases hx.arg with⟨e2,xa,c,h1,rfl,h2⟩|⟨k2,k3,z,h1,rfl,h2,h3,h4,h5⟩
 ·have h2:=h2 w rfl
  cases base with
  |none=>
   simp at gA;subst gA;simp[Builtin.append_,run_underlying ht,run_underlying h1,sizeOf,typeInfo,hi,Builtin.lenOf,gH,h2]
  |some a=>
   simp only at gA;simp[Builtin.append_,run_underlying ht,run_underlying h1,sizeOf,typeInfo,hi,Builtin.lenOf,gH,h2,gA]
 ·have cY:IntKind.i64.wrap (m:Int)=m:=by rw[IntKind.wrap_i64];omega
  have pU:¬(281474976710656<(m:Int)*(ti.bytes:Int)):=by
   have:((m*ti.bytes:Nat):Int)≤2 ^ 47:=by exact_mod_cast h4
   rw[L1]at this;omega
  have eH:¬((m:Int)<0):=by omega
  have mf:nv=(Builtin.zeroCells z.cells m).toList:=by rw[←h3]
  by_cases hz:m*ti.size=0
  ·have pA:nv=[]:=by
    apply Ji;rw[mf];simp[Builtin.zeroCells,h5,hz]
   subst pA;cases base with
   |none=>
    simp at gA;subst gA;simp[Builtin.append_,run_underlying ht,run_underlying h1,sizeOf,typeInfo,hi,asInt,asIntOf,cY,pU,eH,gH,hz]
   |some a=>
    simp only[storeCells,Sem.run_pure]at gA;cases gA;simp[Builtin.append_,run_underlying ht,run_underlying h1,sizeOf,typeInfo,hi,asInt,asIntOf,cY,pU,eH,gH,hz,storeCells]
  ·cases base with
   |none=>
    simp at gA;subst gA;simp[Builtin.append_,run_underlying ht,run_underlying h1,sizeOf,typeInfo,zeroValue,hi,h2,asInt,asIntOf,cY,pU,eH,gH]
   |some a=>
    simp only[mf]at gA;simp[Builtin.append_,run_underlying ht,run_underlying h1,sizeOf,typeInfo,zeroValue,hi,h2,asInt,asIntOf,cY,pU,eH,gH,hz,gA]
theorem zEN{t t2 ty e:TypeId}{ti:TypeInfo}{z xv:Value}{m:Nat}{nv olds:List Value}{w:World}(ht:P.underlying t=df (.slice e))(hi:P.info? e=df ti)(hz:ti.zero=df z)
  (hx:zCT P t2 e ti xv m nv w){base:Option Addr}{n cap:Nat}(gM:cap<n+m)(fb:n+m≤68719476736)(hb:ti.bytes≤2048)
  (gj:∀w2:World,w2.heap=w.heap→(Builtin.firstCells ti.size n (.slice base n cap)).run P w2=.ok olds.toArray w2):
  (Builtin.append_ #[t,t2] ty #[.slice base n cap,xv]).run P w=.ok (.slice (df ⟨w.heap.size,0,dg⟩) (n+m) (grownCap w (n+m) cap e))
    (w.drew.alloc (.cells ((olds++nv).toArray++Builtin.zeroCells z.cells (grownCap w (n+m) cap e-(n+m))) e)):=by
 have hn:¬(n+m≤cap):=by omega
 have pS:¬(9223372036854775807<((n:Int)+(m:Int))):=by omega
 have aL:=growslice_fits (need:=n+m) (old:=cap) (bytes:=ti.bytes) gM (Ke (L6 fb hb) (by decide));have pT:¬(281474976710656<Builtin.nextslicecap (n+m) cap*ti.bytes):=by omega
 have ho:=gj w.drew rfl;rcases hx.arg with⟨e2,xa,c,h1,rfl,h2⟩|⟨k2,k3,z',h1,rfl,h2,h3,h4,h5⟩
 ·have h2:=h2 w.drew rfl
  simp[Builtin.append_,run_underlying ht,run_underlying h1,sizeOf,typeInfo,zeroValue,hi,hz,Builtin.lenOf,hn,pS,pT,Question.forced,h2,ho,newRow,grownCap]
  congr 2
  apply Q9;simp
 ·have cY:IntKind.i64.wrap (m:Int)=m:=by rw[IntKind.wrap_i64];omega
  have pU:¬(281474976710656<(m:Int)*(ti.bytes:Int)):=by
   have:((m*ti.bytes:Nat):Int)≤2 ^ 47:=by exact_mod_cast h4
   rw[L1]at this;omega
  have eH:¬((m:Int)<0):=by omega
  have mf:nv=(Builtin.zeroCells z'.cells m).toList:=by rw[←h3]
  rw[hz]at h2;simp at h2;subst h2
  by_cases bO:m*ti.size=0
  ·have pA:nv=[]:=by
    apply Ji;rw[mf];simp[Builtin.zeroCells,h5,bO]
   subst pA;simp[Builtin.append_,run_underlying ht,run_underlying h1,sizeOf,typeInfo,zeroValue,hi,hz,asInt,asIntOf,cY,pU,eH,hn,pS,pT,Question.forced,bO,ho,newRow,grownCap]
  ·simp[Builtin.append_,run_underlying ht,run_underlying h1,sizeOf,typeInfo,zeroValue,hi,hz,asInt,asIntOf,cY,pU,eH,hn,pS,pT,Question.forced,bO,ho,newRow,grownCap,←h3]
   congr 2
   apply Q9;simp
end
def zAD(s0:Nat)(y:Option Nat)(n:Nat)(s:Nat)(z:List Nat):Option (List Nat):=
 if s=s0 then df z else if y=df s then(match z.getLast? with
  |some j=>df (z.dropLast++[n+j])
  |none=>dg)else dg
def Gh.ip(G:Gh)(d s0:Nat)(y:Option Nat)(b n k oa:Nat)(us:List T)(f2:Nat→List Nat→Value)(gJ:Value):Gh where
 hd s z:=if s=d then(match z.getLast? with
  |some i=>if i<n then G.hd s0 z else f2 (i-n) z.dropLast
  |none=>gJ)else G.hd s z
 ad s z:=if s=d then(match z.getLast? with
  |some i=>if i<n then G.ad s0 z else if(T.agg us).inT ((i-n)::z.dropLast.reverse)then⟨b,oa+(T.agg us).offT ((i-n)::z.dropLast.reverse),dg⟩else(match y with
   |some y=>G.ad y (z.dropLast++[i-n])
   |none=>default)
  |none=>default)else G.ad s z
 lb b' o:=if b'=b∧oa≤o∧o<oa+us.length*k then(match kF us [] n (o-oa)with
  |some p=>df (di,d,p)
  |none=>dg)else match G.lb b' o with
  |some (fl,s,z)=>(match zAD s0 y n s z with
   |some z'=>df (fl,d,z')
   |none=>df (fl,s,z))
  |none=>dg
 ow b':=match G.ow b' with
  |some (s,z)=>(match zAD s0 y n s z with
   |some z'=>df (d,z')
   |none=>df (s,z))
  |none=>dg
def aWr(d s0:Nat)(y:Option Nat)(k:Nat)(ts:List T):Wr:=(d,df (.sl k ts))::(s0,df .any)::(match y with
 |some y=>[(y,df .any)]
 |none=>[])
def sA(d s0:Nat)(y:Option Nat):Chg:=(d,0)::(s0,1)::(match y with
 |some y=>[(y,1)]
 |none=>[])
structure zCU (Γ:Ctx) (E:Env) (G:Gh) (d s0:Nat) (y:Option Nat) (k n:Nat) (us:List T) (f2:Nat→List Nat→Value) (nv:List Value):Prop where
 size:∀u∈us,u.size=k
 tup:zY us=dh
 clean:yE us
 one:∀j z,(f2 j z).oneCell'=dh
 len:nv.length=us.length*k
 slot:∀y',y=df y'→y'≠d∧y'≠s0∧E y'=df (.sl k us)∧ ∀j z,f2 j z=G.hd y' (z++[j])
 none:y=dg→ ∀(j:Nat) u,us[j]? =df u→ ∀(G2:Gh)(w2:World),(∀z,G2.hd d (z++[n+j])=f2 j z)→R Γ.St G2 w2 d u [n+j]
 vals:∀(G2:Gh),(∀j z,G2.hd d (z++[n+j])=f2 j z)→ ∀(o:Nat)(v:Value),(zJ G2 d us [] n)[o]? =df v→nv[o]? =df v
theorem zFE{G G2:Gh}{s d:Nat}:(xs:List T)→ ∀(p:List Nat)(j:Nat),(∀i,i<xs.length→ ∀z,G2.hd d (z++((j+i)::p))=G.hd s (z++((j+i)::p)))→zJ G2 d xs p j=zJ G s xs p j
 | [],_,_,_=>by simp only[zJ]
 |x::xs,p,j,h=>by
  simp only[zJ];have ih:zJ G2 d xs p (j+1)=zJ G s xs p (j+1):=zFE xs p (j+1) (fun i hi z=>by rw[show j+1+i=j+(i+1)from by omega];exact h (i+1) (by simpa using hi) z)
  rw[sF x (j::p) (j::p) (by simpa using h 0 (by simp)),ih]
theorem zA0(z:List Nat):z=[]∨ ∃y i,z=y++[i]:=by
 rcases List.eq_nil_or_concat z with h|⟨y,i,h⟩
 ·exact .inl h
 ·exact .inr ⟨y,i,by simpa using h⟩
section
variable {P:Program}{Γ:Ctx}{E:Env}{d:Nat}
theorem qS{G:Gh}{a:Act}{w:World}(ga:Rep Γ E G a.tmps w)(hd:d<Γ.N){t t2 ty e:TypeId}{ti:TypeInfo}{z:Value}{k:Nat}(ht:P.underlying t=df (.slice e))(hi:P.info? e=df ti)(hz:ti.zero=df z)
  (hk:ti.size=k)(_hk0:0<k)(eS:z.cells.size=k)(hb:ti.bytes≤2048){s0:Nat}{y:Option Nat}{xs us:List T}{f2:Nat→List Nat→Value}{nv:List Value}(gX:E s0=df (.sl k xs))(ey:s0≠d)
  (hn:zCU Γ E G d s0 y k xs.length us f2 nv){xv:Value}(hx:zCT P t2 e ti xv us.length nv w)(gv:∀v∈nv,v.oneCell'=dh)(fb:xs.length+us.length≤68719476736):
  ∃v w',(Builtin.append_ #[t,t2] ty #[G.hd s0 [],xv]).run P w=.ok v w'∧ ∃G',Rep Γ (E.app (aWr d s0 y k (xs++us)) (sA d s0 y)) G' (a.tmps.setIfInBounds d v) w':=by
 have hm:=ga.mem;obtain⟨e1,e2,e3⟩:=ga.ent s0 _ gX;simp only[Top]at e3;simp only[R]at e2;have ph:T.sizes us=us.length*k:=yU us hn.size;have fin:∀(G':Gh)(w':World)(v:Value),uK (sA d s0 y) G w G' w'→Mem Γ G' w'→G'.hd d []=v→R Γ.St G' w' d (.sl k (xs++us)) []→(∀s p,s≠d→G'.hd s p=G.hd s p)→
   Rep Γ (E.app (aWr d s0 y k (xs++us)) (sA d s0 y)) G' (a.tmps.setIfInBounds d v) w':=by
  intro G' w' v gw gr hdv bq hother;refine wB ga (by simp) gw gr ?_ ?_
  ·intro s hs
   have gf:s≠d:=by rintro rfl;simp[aWr,Wr.find]at hs
   have eJ:s≠s0:=by rintro rfl;simp[aWr,Wr.find,gf.symm]at hs
   have aw:∀y',y=df y'→s≠y':=by
    rintro y' rfl rfl
    simp[aWr,Wr.find,gf.symm,eJ.symm]at hs
   refine⟨fun n' hn'=>?_,by rw[J6];simp[gf.symm]⟩;simp only[sA,Jh,Gz.injEq]at hn';rcases hn' with⟨h1,_⟩|⟨h1,_⟩|hn'
   ·exact gf h1
   ·exact eJ h1
   ·cases y with
    |none=>simp at hn'
    |some y'=>simp at hn';exact aw y' rfl hn'.1
  ·intro s t' hs
   by_cases h1:s=d
   ·subst h1
    simp[aWr,Wr.find]at hs;subst hs;refine⟨?_,bq,by simp only[Top];exact zAz xs us e3 hn.clean⟩;rw[J6];simp[ga.size,hd,mkV,hdv]
   ·have h3:t'=.any∧(s=s0∨y=df s):=by
     simp only[aWr,Wr.find]at hs;rw[if_neg (fun h=>h1 h.symm)]at hs;split at hs
     ·rename_i h2;simp at hs;exact⟨hs.symm,.inl h2.symm⟩
     ·cases y with
      |none=>simp[Wr.find]at hs
      |some y'=>
       simp only[Wr.find]at hs;split at hs
       ·rename_i h2;simp at hs;exact⟨hs.symm,.inr (by rw[h2])⟩
       ·cases hs
    obtain⟨rfl,h3⟩:=h3;refine⟨?_,by simp only[R],by simp[Top]⟩;rw[J6];simp only[Ne.symm h1,if_false,mkV];rw[hother s [] h1];rcases h3 with rfl|h3
    ·exact e1
    ·obtain⟨_,_,h4,_⟩:=hn.slot s h3
     exact(ga.ent s _ h4).1
 have fA:∀s p,(∀n',(s,n')∉sA d s0 y)→zAD s0 y xs.length s p=dg:=by
  intro s p h;have h1:s≠s0:=fun e=>h 1 (by simp[sA,e])
  have h2:y≠df s:=fun e=>h 1 (by simp[sA,e])
  simp[zAD,h1,h2]
 by_cases gH:∃a' c,G.hd s0 []=.slice a' xs.length c∧xs.length+us.length≤c
 ·
  obtain⟨a',c,hh,gH⟩:=gH;rcases e2 with⟨rfl,a1,h1⟩|⟨b,o0,cap,cs,et,h1,h2,h3,h4,h5,h6,h7,h8⟩
  ·rw[h1]at hh
   simp at hh;obtain⟨rfl,rfl⟩:=hh;have eQ:us=[]:=Ji (by simp only[Qh]at gH;omega);subst eQ;have mf:nv=[]:=Ji (by have:=hn.len;simp at this;simp[this]);subst mf;have gm:=zBi (P:=P) (t:=t) (ty:=ty) (w':=w) ht hi hx (by simp) (base:=a1) (n:=0) (cap:=0) (by simp) (by cases a1<;>rfl);refine⟨.slice a1 0 0,w,by rw[h1];exact gm,G.put d (fun _=>.slice a1 0 0),fin _ w _ ?_ (hm.put rfl d _ (fun _=>rfl)) (by rw[Gh.put_self]) (by simp[R,Gh.put]) (fun s p h=>G.put_other _ p h)⟩;have:=G.put_keep (w:=w) (w':=w) rfl d (fun _=>.slice a1 0 0);exact⟨fun s p h=>this.hd s p (fun n hn=>h n (by simp at hn;simp[sA,hn])),fun s p h=>this.ad s p (fun n hn=>h n (by simp at hn;simp[sA,hn])),fun b o f s p h0 h1 h2=>this.lb b o f s p h0 h1 (fun n hn=>h2 n (by simp at hn;simp[sA,hn])),fun b s p h1 h2=>this.ow b s p h1 (fun n hn=>h2 n (by simp at hn;simp[sA,hn])),this.blk,by intros;assumption⟩
  ·rw[h1]at hh
   simp at hh;obtain⟨rfl,rfl⟩:=hh;have hmk0:us.length*k+xs.length*k≤cap*k:=by rw[←Li];exact Jp _ (by omega)
   have ar:∀o,o0+(xs.length*k+us.length*k)≤o→o0+xs.length*k≤o:=fun o h=>by omega
   generalize hoa:o0+xs.length*k=oa at h7 ar
   have hmk':oa+us.length*k≤o0+cap*k:=by omega
   have hmk:us.length*k+oa≤cs.size:=by omega
   generalize ew:w.setRow b (cs.toList.take (oa)++nv++cs.toList.drop (oa+nv.length)).toArray=w'
   have gI:w'.heap[b]? =df (.cells (cs.toList.take (oa)++nv++cs.toList.drop (oa+nv.length)).toArray et (0,0)):=by rw[←ew];exact setRow_heap w b cs _ et _ h2
   have gj:∀b',b'≠b→w'.heap[b']? =w.heap[b']?:=fun b' h=>by rw[←ew];exact setRow_other w b b' _ h
   have gE:w'.heap.size=w.heap.size:=by rw[←ew];exact size_setRow w b _
   have hcsl:cs.toList.length=cs.size:=Jx ..;have fQ:=hn.len;have ej:∀i,zT w' b i=if oa≤i∧i<oa+us.length*k then nv[i-oa]? else zT w b i:=by
    intro i;simp only[zT,World.cell?,gI,h2,Gi,L8,if_false];rw[←Jy,←Jy (xs:=cs)];simp only[]
    by_cases g1:i<oa
    ·rw[if_neg (by omega),Jb,L2 (by simp;omega),Hv g1]
    ·by_cases g2:i<oa+us.length*k
     ·rw[if_pos ⟨by omega,g2⟩,Jb,Jd (by simp;omega),L2 (by simp;omega)]
      congr 1;simp;omega
     ·rw[if_neg (by omega),Jb,Jd (by simp;omega),Jd (by simp;omega),H7]
      congr 1;simp;omega
   have gT:∀b' o fl s p,G.lb b' o=df (fl,s,p)→(fl,s,p)≠(dh,s0,[])→ ¬(b'=b∧oa≤o∧o<oa+us.length*k):=by
    rintro b' o fl s p g1 g2 ⟨rfl,g3,g4⟩
    rw[h7 o g3 (by omega)]at g1;simp at g1;exact g2 (by simp[←g1.1,←g1.2.1,←g1.2.2])
   have ea:∀b' o,¬(b'=b∧oa≤o∧o<oa+us.length*k)→zT w' b' o=zT w b' o:=by
    intro b' o g
    by_cases eB:b'=b
    ·subst eB
     rw[ej,if_neg (fun g2=>g ⟨rfl,g2⟩)]
    ·simp[zT,World.cell?,gj b' eB]
   have fC:((cs.toList.take (oa)++nv++cs.toList.drop (oa+nv.length)).toArray).size=cs.size:=by simp;omega
   have cP:∀(b':Nat)(ms:Obj)(_:ms.nocell=dh),w.heap[b']? =df ms→w'.heap[b']? =df ms:=fun b' ms c g=>by
    by_cases e:b'=b
    ·subst e
     rw[h2]at g;cases g;cases c
    ·rw[gj b' e];exact g
   have gW:Blk w w':=by
    intro b' cs' e' g1
    by_cases eB:b'=b
    ·subst eB
     rw[h2]at g1;simp at g1;obtain⟨rfl,rfl⟩:=g1;exact⟨_,gI,fC⟩
    ·exact⟨cs',by rw[gj b' eB];exact g1,rfl⟩
   generalize gg:G.ip d s0 y b xs.length k oa us f2 (.slice (df ⟨b,o0,dg⟩) (xs.length+us.length) cap)=G'
   have ghdr:G'.hd d []=.slice (df ⟨b,o0,dg⟩) (xs.length+us.length) cap:=by rw[←gg];simp[Gh.ip]
   have ghd1:∀i z,i<xs.length→G'.hd d (z++[i])=G.hd s0 (z++[i]):=fun i z g=>by rw[←gg];simp[Gh.ip,g]
   have ghd2:∀j z,G'.hd d (z++[xs.length+j])=f2 j z:=fun j z=>by rw[←gg];simp[Gh.ip,show¬xs.length+j<xs.length from by omega]
   have ghd0:∀s z,s≠d→G'.hd s z=G.hd s z:=fun s z g=>by rw[←gg];simp[Gh.ip,g]
   have gad0:∀s z,s≠d→G'.ad s z=G.ad s z:=fun s z g=>by rw[←gg];simp[Gh.ip,g]
   have gad1:∀i z,i<xs.length→G'.ad d (z++[i])=G.ad s0 (z++[i]):=fun i z g=>by rw[←gg];simp[Gh.ip,g]
   have gad2:∀j f,(T.agg us).inT (j::f)=dh→G'.ad d (f.reverse++[xs.length+j])=⟨b,oa+(T.agg us).offT (j::f),dg⟩:=fun j f g=>by rw[←gg];simp[Gh.ip,g,show¬xs.length+j<xs.length from by omega]
   have gad3:∀y' j z,y=df y'→(T.agg us).inT (j::z.reverse)=di→G'.ad d (z++[xs.length+j])=G.ad y' (z++[j]):=fun y' j z g1 g2=>by rw[←gg];simp[Gh.ip,g1,g2,show¬xs.length+j<xs.length from by omega]
   have glb2:∀i p,i<us.length*k→kF us [] xs.length i=df p→G'.lb b (oa+i)=df (di,d,p):=fun i p g1 g2=>by rw[←gg];simp only[Gh.ip];rw[if_pos (by simp;omega),show oa+i-oa=i from by omega,g2]
   have glb0:∀b' o fl s p,G.lb b' o=df (fl,s,p)→ ¬(b'=b∧oa≤o∧o<oa+us.length*k)→zAD s0 y xs.length s p=dg→G'.lb b' o=df (fl,s,p):=fun b' o fl s p g1 g2 g3=>by rw[←gg];simp only[Gh.ip];rw[if_neg g2,g1];simp[g3]
   have glb1:∀b' o fl s p p',G.lb b' o=df (fl,s,p)→ ¬(b'=b∧oa≤o∧o<oa+us.length*k)→zAD s0 y xs.length s p=df p'→G'.lb b' o=df (fl,d,p'):=fun b' o fl s p p' g1 g2 g3=>by rw[←gg];simp only[Gh.ip];rw[if_neg g2,g1];simp[g3]
   have gow0:∀b' s p,G.ow b'=df (s,p)→zAD s0 y xs.length s p=dg→G'.ow b'=df (s,p):=fun b' s p g1 g2=>by rw[←gg];simp[Gh.ip,g1,g2]
   have gow1:∀b' s p p',G.ow b'=df (s,p)→zAD s0 y xs.length s p=df p'→G'.ow b'=df (d,p'):=fun b' s p p' g1 g2=>by rw[←gg];simp[Gh.ip,g1,g2]
   have eG:∀p,zAD s0 y xs.length s0 p=df p:=fun p=>by simp[zAD]
   have cH:∀y' z j,y=df y'→y'≠s0→zAD s0 y xs.length y' (z++[j])=df (z++[xs.length+j]):=fun y' z j g1 g2=>by simp[zAD,g1,g2]
   have gf:∀s p,Off (sA d s0 y) s p→s≠d:=fun s p h e=>absurd (h 0 (by simp[sA,e])) (by simp)
   have gw:uK (sA d s0 y) G w G' w':=by
    refine⟨fun s p h=>ghd0 s p (gf s p h),fun s p h=>gad0 s p (gf s p h),fun b' o fl s p _ g1 g2=>?_,fun b' s p g1 g2=>gow0 b' s p g1 (fA s p g2),gW,fun b' _ _ ms c _ _ g=>cP b' ms c g⟩;have hs:s≠s0:=fun e=>g2 1 (by simp[sA,e])
    have g3:=gT b' o fl s p g1 (by simp[hs]);exact⟨glb0 b' o fl s p g1 g3 (fA s p g2),ea b' o g3⟩
   have cj:=hm.ow b _ h6;have gr:Mem Γ G' w':=by
    refine⟨fun s z=>?_,fun b' o' l hl=>?_,fun b' l hl=>?_,fun b' x' gK=>?_,fun b' g1 g2=>?_,by rw[gE];exact hm.sz,hm.bk.trans gW (by rw[←ew];rfl) (by rw[←ew];rfl)⟩
    ·by_cases g:s=d
     ·subst g
      rcases zA0 z with rfl|⟨z',i,rfl⟩
      ·rw[ghdr];rfl
      ·by_cases g1:i<xs.length
       ·rw[ghd1 i z' g1];exact hm.one _ _
       ·have:=ghd2 (i-xs.length) z'
        rw[show xs.length+(i-xs.length)=i from by omega]at this;rw[this];exact hn.one _ _
     ·rw[ghd0 s z g];exact hm.one _ _
    ·have:sE Γ w b':=by
      rw[←gg]at hl;simp only[Gh.ip]at hl;split at hl
      ·rename_i g;rw[g.1];exact cj
      ·split at hl
       ·rename_i g;exact hm.lb _ _ _ g
       ·cases hl
     exact⟨by rw[gE];exact this.1,this.2⟩
    ·have:sE Γ w b':=by
      rw[←gg]at hl;simp only[Gh.ip]at hl;split at hl
      ·rename_i g;exact hm.ow _ _ g
      ·cases hl
     exact⟨by rw[gE];exact this.1,this.2⟩
    ·have eB:b'≠b:=by rintro rfl;rw[cj.2.2]at gK;cases gK
     rw[gj b' eB];exact hm.st b' x' gK
    ·have eB:b'≠b:=by
      rintro rfl
      rcases cj.2.1 with g3|g3
      ·omega
      ·exact g2 g3
     rw[gj b' eB];exact hm.fr b' g1 g2
   have pC:xS G' w' d us [] xs.length b (oa):=by
    refine zCv us [] xs.length b (oa) hn.tup (fun i x gK f hf=>?_) (fun i p' g1 g2=>glb2 i p' (by omega) g2) (fun i v hv=>?_)
    ·have:=gad2 i f (by simp only[T.inT,gK];exact hf)
     simpa[T.offT,gK]using this
    ·have g1:=hn.vals G' ghd2 i v hv
     have g2:=(Ja.1 g1).1;rw[ej,if_pos ⟨by omega,by omega⟩,show oa+i-oa=i from by omega];exact g1
   have bq:R Γ.St G' w' d (.sl k (xs++us)) []:=by
    simp only[R];rw[ghdr];refine .inr ⟨b,o0,cap,_,et,by simp,gI,by simp;omega,h4,by rw[fC];exact h5,gow1 b s0 [] [] h6 (eG []),?_,zEM _ _ _ _ _ (fun i x gK=>?_)⟩
    ·intro o g1 g2
     rw[Je,Li]at g1;exact glb1 b o dh s0 [] [] (h7 o (by omega) g2) (by omega) (eG [])
    ·rw[Jv]at gK
     simp only[J8];split at gK
     ·rename_i gG
      obtain⟨g1,g2,g3⟩:=uZ xs [] 0 b o0 k i x h8 gK;simp only[J8]at g1 g3;have mi:∀b' o fl z,G.lb b' o=df (fl,s0,z++[i])→G'.lb b' o=df (fl,d,z++[i])∧zT w' b' o=zT w b' o:=fun b' o fl z g=>by have g4:=gT b' o fl s0 _ g (by simp);exact⟨glb1 b' o fl s0 _ _ g g4 (eG _),ea b' o g4⟩
      refine⟨zBf x [i] [i] b _ (fun z=>ghd1 i z gG) (fun z=>gad1 i z gG) (fun b' o z g=>mi b' o di z g) g1,g2,?_⟩;refine tE (G:=G) (w:=w) (s:=s0) (p:=[i]) ⟨⟨fun z=>ghd1 i z gG,fun z _=>gad1 i z gG,fun b' o f z _ _ g=>mi b' o f z g,fun b' z _ g=>gow1 b' s0 _ _ g (eG _),gW,fun b' _ ms c _ g=>cP b' ms c g⟩,fun b' o _ g=>?_,fun b' g=>gow1 b' s0 _ _ g (eG _)⟩ x (yA.mono (fun _ _=>False.elim) x (xY xs e3 i x gK)) g3;have:=mi b' o dh [] (by simpa using g);simpa using this
     ·rename_i hge
      obtain⟨j,rfl⟩:∃j,i=xs.length+j:=⟨i-xs.length,by omega⟩;rw[show xs.length+j-xs.length=j from by omega]at gK;have g1:=zCH us [] xs.length b (oa) j x pC gK;rw[show T.sizes (us.take j)=j*k from by rw[yU _ (fun u hu=>hn.size u (List.mem_of_mem_take hu)),Lj,Qd (by have:=(Ja.1 gK).1;omega)],show oa+j*k=o0+(xs.length+j)*k from by rw[Li];omega]at g1
      refine⟨g1,hn.size x (Kk gK),?_⟩;cases hy:y with
      |none=>exact hn.none hy j x gK G' w' (fun z=>ghd2 j z)
      |some y'=>
       obtain⟨y1,y2,y3,y4⟩:=hn.slot y' hy;obtain⟨_,y5,_⟩:=ga.ent y' _ y3;simp only[R]at y5;rcases y5 with⟨rfl,_⟩|⟨b2,o2,cap2,cs2,et2,_,_,_,_,_,_,_,y6⟩
       ·simp at gK
       ·obtain⟨_,_,y7⟩:=uZ us [] 0 b2 o2 k j x y6 gK
        simp only[J8]at y7;refine zF8 x [j] [xs.length+j] (zAj.okTups_get us hn.tup j x gK) ⟨fun z=>by rw[ghd2,y4],fun z g=>gad3 y' j z hy (by simp only[T.inT,gK];exact g),fun b' o fl z _ g=>?_,fun b' z g=>gow1 b' y' _ _ g (cH y' z j hy y2),gW,fun b' _ ms c _ g=>cP b' ms c g⟩ (yA.mono (fun _ _=>False.elim) x (xY us hn.clean j x gK)) y7;have g4:=gT b' o fl y' _ g (by simp[y2]);exact⟨glb1 b' o fl y' _ _ g g4 (cH y' z j hy y2),ea b' o g4⟩
   have gA:=run_storeCells_at P b (oa) et nv 0 cs w h2 (by omega) gv;simp only[Hp]at gA;rw[ew]at gA;have gm:=zBi (P:=P) (t:=t) (ty:=ty) (w':=w') ht hi hx (by omega) (base:=df ⟨b,o0,dg⟩) gH (by simp only[hk,wV,hoa];exact gA);refine⟨_,w',by rw[h1];exact gm,G',fin G' w' _ gw gr ghdr bq ghd0⟩
 ·
  have bo:∃a' c,G.hd s0 []=.slice a' xs.length c∧ ∀w2:World,w2.heap=w.heap→(Builtin.firstCells ti.size xs.length (.slice a' xs.length c)).run P w2=.ok (zJ G s0 xs [] 0).toArray w2:=by
   rcases e2 with⟨rfl,a1,h1⟩|⟨b,o0,cap,cs,et,h1,h2,h3,h4,h5,h6,h7,h8⟩
   ·exact⟨a1,0,h1,fun w2 _=>by cases a1<;>simp[Builtin.firstCells,loadCells,loadCellsFrom,zJ]⟩
   ·refine⟨_,_,h1,fun w2 pY=>?_⟩
    have hl:=tQ xs [] 0 b o0 h8;refine run_firstCells_some (P:=P) w2 ti.size xs.length ⟨b,o0,dg⟩ _ _ _ ?_ (fun j v hv=>?_)
    ·rw[yS,hk]
     exact yU xs (qE xs [] 0 b o0 h8).2
    ·have:=sY xs [] 0 b o0 hl j v hv
     rw[wV];simp only[zT]at this;simpa[World.cell?,pY]using this
  obtain⟨a',c,hh,gj⟩:=bo;have eu:zY xs=dh∧(∀x∈xs,x.size=k)∧ ∀i x,xs[i]? =df x→R Γ.St G w s0 x [i]:=by
   rcases e2 with⟨rfl,a1,h1⟩|⟨b,o0,cap,cs,et,h1,h2,h3,h4,h5,h6,h7,h8⟩
   ·simp[zY]
   ·refine⟨uQ (St:=Γ.St) (k:=k) xs [] 0 b o0 (tQ xs [] 0 b o0 h8),(qE xs [] 0 b o0 h8).2,fun i x gK=>?_⟩
    have:=(uZ xs [] 0 b o0 k i x h8 gK).2.2;simpa using this
  have gM:c<xs.length+us.length:=by
   rcases Ho c (xs.length+us.length)with g|g
   ·exact g
   ·exact absurd ⟨a',c,hh,g⟩ gH
  have gm:=zEN (P:=P) (t:=t) (ty:=ty) ht hi hz hx gM fb hb gj;have hge:=grownCap_ge w (xs.length+us.length) c e;have hcm:=grownCap_le_maxLen w (xs.length+us.length) c e (by simp only[maxLen];omega)
  generalize grownCap w (xs.length+us.length) c e=cap' at gm hge hcm
  generalize ew:w.drew.alloc (.cells ((zJ G s0 xs [] 0++nv).toArray++Builtin.zeroCells z.cells (cap'-(xs.length+us.length))) e)=w' at gm
  have hwh:w'.heap=w.heap.push (.cells ((zJ G s0 xs [] 0++nv).toArray++Builtin.zeroCells z.cells (cap'-(xs.length+us.length))) e):=by rw[←ew];rfl
  have cx:T.sizes xs=xs.length*k:=yU xs eu.2.1;obtain⟨g1,g2,g3,g4,g5⟩:=zAj hm hwh d (xs++us) (fun i=>if i<xs.length then df (s0,[i])else y.map fun y'=>(y',[i-xs.length])) (zAD s0 y xs.length) (fun i z=>if i<xs.length then G.hd s0 (z++[i])else f2 (i-xs.length) z) (.slice (df ⟨w.heap.size,0,dg⟩) (xs.length+us.length) cap') ((sA d s0 y).tail)
   (zAy xs us eu.1 hn.tup) (fun i z=>by split;exact hm.one _ _;exact hn.one _ _) rfl
   (fun i u x q z' hu hs=>by
    split at hs
    ·simp at hs;obtain⟨rfl,rfl⟩:=hs;simp[zAD]
    ·rename_i eP
     cases y with
     |none=>simp at hs
     |some y'=>
      simp at hs;obtain⟨rfl,rfl⟩:=hs;have:=(hn.slot y' rfl).2.1;simp[zAD,this,show xs.length+(i-xs.length)=i from by omega])
   (fun i u x q hu hs=>by
    rw[Jv]at hu;split at hs
    ·rename_i gG
     rw[if_pos gG]at hu;simp at hs;obtain⟨rfl,rfl⟩:=hs;exact⟨fun z'=>by simp[gG],eu.2.2 i u hu,xY xs e3 i u hu,ey⟩
    ·rename_i eP
     rw[if_neg eP]at hu;cases hy:y with
     |none=>rw[hy]at hs;simp at hs
     |some y'=>
      rw[hy]at hs;simp at hs;obtain⟨rfl,rfl⟩:=hs;obtain⟨y1,y2,y3,y4⟩:=hn.slot y' hy;obtain⟨_,y5,_⟩:=ga.ent y' _ y3;simp only[R]at y5;refine⟨fun z'=>by simp[eP,y4],?_,xY us hn.clean _ u hu,y1⟩;rcases y5 with⟨rfl,_⟩|⟨b2,o2,cap2,cs2,et2,_,_,_,_,_,_,_,y6⟩
      ·simp at hu
      ·have:=(uZ us [] 0 b2 o2 k _ u y6 hu).2.2
       simpa using this)
   (fun i u hu hs G2 w2 ee=>by
    rw[Jv]at hu;split at hs
    ·cases hs
    ·rename_i eP
     rw[if_neg eP]at hu;cases hy:y with
     |some y'=>rw[hy]at hs;simp at hs
     |none=>
      have:=hn.none hy (i-xs.length) u hu G2 w2 (fun z'=>by rw[show xs.length+(i-xs.length)=i from by omega,ee,if_neg eP])
      rwa [show xs.length+(i-xs.length)=i from by omega]at this)
   (fun G2 ee o v hv=>by
    rw[zBg,J8]at hv;have h1:zJ G2 d xs [] 0=zJ G s0 xs [] 0:=zFE xs [] 0 (fun i eM z'=>by rw[J8,ee,if_pos eM]);rw[h1]at hv;have mi:(zJ G s0 xs [] 0).length=xs.length*k:=by rw[yS,cx]
    have hl2:(zJ G2 d us [] xs.length).length=us.length*k:=by rw[yS,ph]
    have ho:o<xs.length*k+us.length*k:=by have:=(Ja.1 hv).1;rw[Je]at this;omega
    have fQ:=hn.len;rw[Array.getElem?_append_left (by simp;omega),List.getElem?_toArray];rw[Jv]at hv ⊢
    split at hv
    ·rename_i gG;rw[if_pos gG];exact hv
    ·rename_i eP;rw[if_neg eP]
     exact hn.vals G2 (fun j z'=>by rw[ee,if_neg (by omega),show xs.length+j-xs.length=j from by omega]) _ v hv)
   (fun s p h=>fA s p (by simpa[sA]using h)) (ho:=by rw[←ew];rfl) (hq:=by rw[←ew];rfl)
  refine⟨_,w',by rw[hh];exact gm,_,fin _ w' _ (by simpa[sA]using g1) g2 (by simp[Gh.nb]) ?_ (fun s p h=>by simp[Gh.nb,h])⟩;simp only[R];refine .inr ⟨w.heap.size,0,cap',_,e,by simp[Gh.nb],g5,by simpa using hge,hcm,?_,by simp[Gh.nb],?_,zJC _ _ _ _ _ (fun x gK=>?_) g3 g4⟩
  ·have mi:(zJ G s0 xs [] 0).length=xs.length*k:=by rw[yS,cx]
   have fQ:=hn.len;simp only[Array.size_append,Uw,Je,size_zeroCells,eS,mi,fQ,←Li];rw[J8];exact Jp _ (by omega)
  ·intro o ho _
   rw[Je,Li]at ho;simp[Gh.nb,zAA (xs++us) [] 0 o (by rw[zBh];omega)]
  ·rcases Lg.1 gK with h|h
   ·exact eu.2.1 x h
   ·exact hn.size x h
end
end Go.Ab

namespace Go.Ab
open Go
mutual
def T.flat:T→Bool
 |.lit _|.ro _=>dh
 |.agg xs=>tC xs
 |.any|.same _ _|.addr _ _|.sub _ _ _ _ _|.sl _ _|.ptr _|.mp _ _|.tup _=>di
def tC:List T→Bool
 | []=>dh
 |x::xs=>x.flat&&tC xs
end
section
variable {St:Stb}{G G2:Gh}{w w2:World}{s d:Nat}
mutual
theorem zGP:(t:T)→ ∀(p p':List Nat),t.flat=dh→(∀z,G2.hd d (z++p')=G.hd s (z++p))→R St G w s t p→R St G2 w2 d t p'
 |.lit _,p,p',_,h,hr=>by have:=h [];simp only[Jr]at this;simp only[R]at hr ⊢;rw[this];exact hr
 |.ro _,p,p',_,h,hr=>by have:=h [];simp only[Jr]at this;simp only[R]at hr ⊢;rw[this];exact hr
 |.agg xs,p,p',hf,h,hr=>by simp only[R,T.flat]at hr hf ⊢;exact zHO xs p p' 0 hf h hr
 |.any,_,_,hf,_,_|.same _ _,_,_,hf,_,_|.addr _ _,_,_,hf,_,_|.sub _ _ _ _ _,_,_,hf,_,_|.sl _ _,_,_,hf,_,_|.ptr _,_,_,hf,_,_|.mp _ _,_,_,hf,_,_|.tup _,_,_,hf,_,_=>by simp[T.flat]at hf
theorem zHO:(xs:List T)→ ∀(p p':List Nat)(j:Nat),tC xs=dh→(∀z,G2.hd d (z++p')=G.hd s (z++p))→RF St G w s xs p j→RF St G2 w2 d xs p' j
 | [],_,_,_,_,_,_=>by simp only[RF]
 |x::xs,p,p',j,hf,h,hr=>by
  simp only[RF,tC,J2]at hr hf ⊢
  exact⟨zGP x (j::p) (j::p') hf.1 (fun z=>by have:=h (z++[j]);simpa using this) hr.1,zHO xs p p' (j+1) hf.2 h hr.2⟩
end
end
mutual
theorem zCV:(t:T)→t.flat=dh→zK t∧t.okTup=dh
 |.lit _,_|.ro _,_=>by simp[zK,yA,T.okTup]
 |.agg xs,h=>by simp only[T.flat]at h;simpa only[zK,yA,T.okTup]using uU xs h
 |.any,h|.same _ _,h|.addr _ _,h|.sub _ _ _ _ _,h|.sl _ _,h|.ptr _,h|.mp _ _,h|.tup _,h=>by simp[T.flat]at h
theorem uU:(xs:List T)→tC xs=dh→yE xs∧zY xs=dh
 | [],_=>by simp[yE,yL,zY]
 |x::xs,h=>by simp only[tC,J2]at h;simp only[yE,yL,zY,J2];exact⟨⟨(zCV x h.1).1,(uU xs h.2).1⟩,(zCV x h.1).2,(uU xs h.2).2⟩
end
theorem zEd:(xs:List T)→tC xs=dh→ ∀(i:Nat)(x:T),xs[i]? =df x→x.flat=dh
 | [],_,_,_,h=>by simp at h
 |y::ys,hk,i,x,h=>by
  simp only[tC,J2]at hk;cases i with
  |zero=>simp at h;subst h;exact hk.1
  |succ i=>exact zEd ys hk.2 i x (by simpa using h)
mutual
def zCt:T→Bool
 |.lit _=>dh
 |.sl _ xs=>jP xs
 |.agg xs=>jP xs
 |.ptr t=>zCt t
 |.any|.ro _|.same _ _|.addr _ _|.sub _ _ _ _ _|.tup _|.mp _ _=>di
def jP:List T→Bool
 | []=>dh
 |x::xs=>zCt x&&jP xs
end
theorem zFF:(ys:List T)→jP ys=dh→ ∀u∈ys,∀xs,u≠.tup xs
 | [],_,_,h,_=>by simp at h
 |y::ys,hr,u,h,xs=>by
  simp only[jP,J2]at hr;rcases Jh.1 h with rfl|h
  ·rintro rfl;simp[zCt]at hr
  ·exact zFF ys hr.2 u h xs
theorem zCb:(ys:List T)→(roT.roTs ys).length=ys.length
 | []=>rfl
 |y::ys=>by simp[roT.roTs,zCb ys]
theorem zCW{k:Nat}:(ys:List T)→(∀u∈ys,u.size=k)→(∀u∈ys,∀xs,u≠.tup xs)→ ∀u∈roT.roTs ys,u.size=k
 | [],_,_,u,h=>by simp[roT.roTs]at h
 |y::ys,h1,h2,u,h=>by
  simp only[roT.roTs,Jh]at h;rcases h with rfl|h
  ·rw[zBd y (h2 y (by simp))];exact h1 y (by simp)
  ·exact zCW ys (fun v hv=>h1 v (by simp[hv])) (fun v hv=>h2 v (by simp[hv])) u h
theorem zFG:(ys:List T)→ ∀(j:Nat)(u:T),(roT.roTs ys)[j]? =df u→ ∃u0,ys[j]? =df u0∧u=roT u0
 | [],_,_,h=>by simp[roT.roTs]at h
 |y::ys,j,u,h=>by
  cases j with
  |zero=>simp[roT.roTs]at h;exact⟨y,by simp,h.symm⟩
  |succ j=>
   obtain⟨u0,h1,h2⟩:=zFG ys j u (by simpa[roT.roTs]using h);exact⟨u0,by simpa using h1,h2⟩
theorem zHP{St:Stb}{G2:Gh}{d:Nat}:(ys:List T)→ ∀(cs':Array Value)(o' k n:Nat),RoL St ys cs' o' k→(∀u∈ys,u.size=k)→(∀j u,ys[j]? =df u→ ∀z',G2.hd d (z'++[n+j])=uT (zA9 u cs' (o'+j*k) z'.reverse))→
  ∀(i:Nat)(v:Value),(zJ G2 d (roT.roTs ys) [] n)[i]? =df v→cs'[o'+i]? =df v
 | [],_,_,_,_,_,_,_,i,v,hv=>by simp[roT.roTs,zJ]at hv
 |y::ys,cs',o',k,n,h,hs,hd,i,v,hv=>by
  simp only[RoL]at h;simp only[roT.roTs,zJ]at hv;have gO:∀xs,y≠.tup xs:=by rintro xs rfl;simp only[RoC]at h;exact h.1
  have au:∀xs,roT y≠.tup xs:=fun xs e=>by cases y<;>simp[roT]at e
  have hl:(vals G2 d (roT y) [n]).length=k:=by rw[xE _ _ au,zBd y gO,hs y (by simp)]
  rw[Jv]at hv;split at hv
  ·exact zCI y cs' o' [n] (fun z'=>by simpa using hd 0 y (by simp) z') h.1 i v hv
  ·have:=zHP ys cs' (o'+k) k (n+1) h.2 (fun u hu=>hs u (by simp[hu])) (fun j u hu z'=>by
    have:=hd (j+1) u (by simpa using hu) z'
    rwa [show n+(j+1)=n+1+j from by omega,show o'+(j+1)*k=o'+k+j*k from by rw[Kl];omega]at this) _ v hv
   rwa [hl,show o'+k+(i-k)=o'+i from by omega]at this
mutual
theorem zID{G:Gh}(hg:∀s z,(G.hd s z).oneCell'=dh){s:Nat}:(t:T)→ ∀(p:List Nat)(v:Value),v∈vals G s t p→v.oneCell'=dh
 |.agg xs,p,v,h=>by simp only[vals]at h;exact zAE hg xs p 0 v h
 |.any,p,v,h|.lit _,p,v,h|.ro _,p,v,h|.same _ _,p,v,h|.addr _ _,p,v,h|.sub _ _ _ _ _,p,v,h|.sl _ _,p,v,h|.ptr _,p,v,h|.mp _ _,p,v,h|.tup _,p,v,h=>by simp only[vals,List.mem_singleton]at h;rw[h];exact hg s p
theorem zAE{G:Gh}(hg:∀s z,(G.hd s z).oneCell'=dh){s:Nat}:(xs:List T)→ ∀(p:List Nat)(j:Nat)(v:Value),v∈zJ G s xs p j→v.oneCell'=dh
 | [],_,_,_,h=>by simp[zJ]at h
 |x::xs,p,j,v,h=>by
  simp only[zJ,Lg]at h;rcases h with h|h
  ·exact zID hg x _ v h
  ·exact zAE hg xs p _ v h
end
theorem kJ{G G2:Gh}{s d:Nat}:(us:List T)→ ∀(n j:Nat),(∀i z,G2.hd d (z++[n+i])=G.hd s (z++[j+i]))→zJ G2 d us [] n=zJ G s us [] j
 | [],_,_,_=>by simp only[zJ]
 |x::xs,n,j,h=>by
  have ih:zJ G2 d xs [] (n+1)=zJ G s xs [] (j+1):=kJ xs (n+1) (j+1) (fun i z=>by rw[show n+1+i=n+(i+1)from by omega,show j+1+i=j+(i+1)from by omega];exact h (i+1) z)
  simp only[zJ];rw[ih,sF x [j] [n] (by simpa using h 0)]
theorem zBj{G G2:Gh}{s d:Nat}:(us:List T)→ ∀(n j:Nat)(q:List Nat),(∀i z,G2.hd d (z++[n+i])=G.hd s (z++((j+i)::q)))→zJ G2 d us [] n=zJ G s us q j
 | [],_,_,_,_=>by simp only[zJ]
 |x::xs,n,j,q,h=>by
  have ih:zJ G2 d xs [] (n+1)=zJ G s xs q (j+1):=zBj xs (n+1) (j+1) q (fun i z=>by rw[show n+1+i=n+(i+1)from by omega,show j+1+i=j+(i+1)from by omega];exact h (i+1) z)
  simp only[zJ];rw[ih,sF x (j::q) [n] (by simpa using h 0)]
section
variable {P:Program}{Γ:Ctx}{E:Env}{o:Oper}{d:Nat}
theorem zHQ{St:Stb}{G:Gh}{w:World}{r:Nat}{q:List Nat}{k:Nat}{us:List T}(h:R St G w r (.sl k us) q){size:Nat}(hk:size=k):
  ∃xa c,G.hd r q=.slice xa us.length c∧ ∀w2:World,w2.heap=w.heap→(Builtin.firstCells size us.length (.slice xa us.length c)).run P w2=.ok (zJ G r us q 0).toArray w2:=by
 simp only[R]at h;rcases h with⟨rfl,a1,h1⟩|⟨b,o0,cap,cs,et,h1,h2,h3,h4,h5,h6,h7,h8⟩
 ·exact⟨a1,0,h1,fun w2 _=>by cases a1<;>simp[Builtin.firstCells,loadCells,loadCellsFrom,zJ]⟩
 ·refine⟨_,_,h1,fun w2 pY=>?_⟩
  have hl:=tQ us q 0 b o0 h8;refine run_firstCells_some (P:=P) w2 size us.length ⟨b,o0,dg⟩ _ _ _ ?_ (fun j v hv=>?_)
  ·rw[yS,hk]
   exact yU us (qE us q 0 b o0 h8).2
  ·have:=sY us q 0 b o0 hl j v hv
   rw[wV];simp only[zT]at this;simpa[World.cell?,pY]using this
theorem qF{G:Gh}{a:Act}{w:World}(ga:Rep Γ E G a.tmps w){s:Nat}{t:T}(h:E s=df t)(ht:t.single=dh):a.eval (.tmp s)=G.hd s []:=by rw[xH (ga.ent s t h).1,yM ht]
theorem zEO(t e:TypeId)(ti:TypeInfo)(z:Value)(k s0 y:Nat)(xs us:List T)(ho:o.op=.call { callee:=.builtin .append,args:=#[.tmp s0,.tmp y],argTypes:=#[t,t] })(gb:o.dst=df d)(hd:d<Γ.N)
  (ht:P.underlying t=df (.slice e))(hi:P.info? e=df ti)(hz:ti.zero=df z)(hk:ti.size=k)(eA:0<k)(eS:z.cells.size=k)(hb:ti.bytes≤2048)
  (gX:E s0=df (.sl k xs))(hy:E y=df (.sl k us))(ey:s0≠d)(hyd:y≠d)(bv:y≠s0)(fb:xs.length+us.length≤68719476736):
  yN P Γ o E (E.app (aWr d s0 (df y) k (xs++us)) (sA d s0 (df y))):=by
 refine yN.value gb fun a w G ga=>?_
 obtain⟨_,y2,y3⟩:=ga.ent y _ hy;simp only[Top]at y3;obtain⟨xa,c,h1,h2⟩:=zHQ (P:=P) y2 hk;have eQ:zY us=dh∧ ∀u∈us,u.size=k:=by
  simp only[R]at y2;rcases y2 with⟨rfl,_⟩|⟨b,o0,cap,cs,et,_,_,_,_,_,_,_,h8⟩
  ·simp[zY]
  ·exact⟨uQ (St:=Γ.St) (k:=k) us [] 0 b o0 (tQ us [] 0 b o0 h8),(qE us [] 0 b o0 h8).2⟩
 have hn:zCU Γ E G d s0 (df y) k xs.length us (fun j z'=>G.hd y (z'++[j])) (zJ G y us [] 0):=
  ⟨eQ.2,eQ.1,y3,fun j z'=>ga.mem.one _ _,by rw[yS];exact yU us eQ.2,fun y' hy'=>by simp at hy';subst hy';exact⟨hyd,bv,hy,fun _ _=>rfl⟩,fun h=>by simp at h,
   fun G2 ee o v hv=>by rw[←kJ us xs.length 0 (fun i z'=>by rw[ee,J8])];exact hv⟩
 obtain⟨v,w',gm,G',gg⟩:=qS (P:=P) (ty:=o.type) ga hd ht hi hz hk eA eS hb gX ey hn (xv:=a.eval (.tmp y)) ⟨.inl ⟨e,xa,c,ht,by rw[qF ga hy rfl,h1],h2⟩⟩ (fun v hv=>zAl ga.mem us [] 0 v hv) fb;refine⟨v,w',?_,G',gg⟩;rw[←qF ga gX rfl]at gm;simp[execOp,ho,resolve,invoke,builtin,gm]
theorem zEP(t e:TypeId)(ti:TypeInfo)(z:Value)(k s0:Nat)(y:Operand)(r:Nat)(q:List Nat)(xs us:List T)(ho:o.op=.call { callee:=.builtin .append,args:=#[.tmp s0,y],argTypes:=#[t,t] })(gb:o.dst=df d)(hd:d<Γ.N)
  (ht:P.underlying t=df (.slice e))(hi:P.info? e=df ti)(hz:ti.zero=df z)(hk:ti.size=k)(eA:0<k)(eS:z.cells.size=k)(hb:ti.bytes≤2048)
  (gX:E s0=df (.sl k xs))(hy:xZ E y=df (r,q,.sl k us))(hf:tC us=dh)(ey:s0≠d)(fb:xs.length+us.length≤68719476736):
  yN P Γ o E (E.app (aWr d s0 dg k (xs++us)) (sA d s0 dg)):=by
 refine yN.value gb fun a w G ga=>?_
 obtain⟨y2,y1⟩:=wU ga hy rfl;obtain⟨xa,c,h1,h2⟩:=zHQ (P:=P) y2 hk;have eQ:(∀u∈us,u.size=k)∧ ∀j u,us[j]? =df u→R Γ.St G w r u (j::q):=by
  simp only[R]at y2;rcases y2 with⟨rfl,_⟩|⟨b,o0,cap,cs,et,_,_,_,_,_,_,_,h8⟩
  ·simp
  ·refine⟨(qE us q 0 b o0 h8).2,fun j u hu=>?_⟩
   have:=(uZ us q 0 b o0 k j u h8 hu).2.2;simpa using this
 have gN:=uU us hf;have hn:zCU Γ E G d s0 dg k xs.length us (fun j z'=>G.hd r (z'++(j::q))) (zJ G r us q 0):=
  ⟨eQ.1,gN.2,gN.1,fun j z'=>ga.mem.one _ _,by rw[yS];exact yU us eQ.1,fun y' hy'=>by simp at hy',
   fun _ j u hu G2 w2 ee=>zGP u (j::q) [xs.length+j] (zEd us hf j u hu) (fun z'=>ee z') (eQ.2 j u hu),
   fun G2 ee o v hv=>by rw[←zBj us xs.length 0 q (fun i z'=>by rw[ee,J8])];exact hv⟩
 obtain⟨v,w',gm,G',gg⟩:=qS (P:=P) (ty:=o.type) ga hd ht hi hz hk eA eS hb gX ey hn (xv:=a.eval y) ⟨.inl ⟨e,xa,c,ht,by rw[y1,h1],h2⟩⟩ (fun v hv=>zAl ga.mem us q 0 v hv) fb;refine⟨v,w',?_,G',gg⟩;rw[←qF ga gX rfl]at gm;simp[execOp,ho,resolve,invoke,builtin,gm]
mutual
theorem zJI:(u:T)→zCt u=dh→(roT u).flat=dh
 |.agg xs,h=>by simp only[zCt]at h;simp only[roT,T.flat];exact zB4 xs h
 |.lit _,_|.sl _ _,_|.ptr _,_|.mp _ _,_=>by simp[roT,T.flat]
 |.any,h|.ro _,h|.same _ _,h|.addr _ _,h|.sub _ _ _ _ _,h|.tup _,h=>by simp[zCt]at h
theorem zB4:(xs:List T)→jP xs=dh→tC (roT.roTs xs)=dh
 | [],_=>by simp[roT.roTs,tC]
 |x::xs,h=>by simp only[jP,J2]at h;simp only[roT.roTs,tC,J2];exact⟨zJI x h.1,zB4 xs h.2⟩
end
theorem zEQ(t e:TypeId)(ti:TypeInfo)(z:Value)(k s0:Nat)(y:Operand)(r:Nat)(q:List Nat)(xs ys:List T)(ho:o.op=.call { callee:=.builtin .append,args:=#[.tmp s0,y],argTypes:=#[t,t] })(gb:o.dst=df d)(hd:d<Γ.N)
  (ht:P.underlying t=df (.slice e))(hi:P.info? e=df ti)(hz:ti.zero=df z)(hk:ti.size=k)(eA:0<k)(eS:z.cells.size=k)(hb:ti.bytes≤2048)
  (gX:E s0=df (.sl k xs))(hy:xZ E y=df (r,q,.ro (.sl k ys)))(hro:jP ys=dh)(bv:∀u∈ys,u.size=k)(ey:s0≠d)(fb:xs.length+ys.length≤68719476736):
  yN P Γ o E (E.app (aWr d s0 dg k (xs++roT.roTs ys)) (sA d s0 dg)):=by
 refine yN.value gb fun a w G ga=>?_
 obtain⟨y2,y1⟩:=wU ga hy rfl;obtain⟨xa,c,h1,h2,h3,h4⟩:=zBc y2;have hf:=zB4 ys hro;have gN:=uU _ hf;have gn:(roT.roTs ys).length=ys.length:=zCb ys;have gp:∀u∈roT.roTs ys,u.size=k:=zCW ys bv (fun u hu=>zFF ys hro u hu);obtain⟨cs',o',h5,h6⟩:∃(cs':Array Value)(o':Nat),RoL Γ.St ys cs' o' k∧(ys≠[]→ ∃b et fr,xa=df ⟨b,o',dg⟩∧Γ.St b=df (.cells cs' et fr)):=by
  by_cases gf:ys=[]
  ·subst gf;exact⟨#[],0,by simp[RoL],fun h=>absurd rfl h⟩
  ·obtain⟨b,o',cs',et,fr,h5,h6,h7⟩:=h4 gf
   exact⟨cs',o',h7,fun _=>⟨b,et,fr,h5,h6⟩⟩
 let f2:Nat→List Nat→Value:=fun j z'=>match ys[j]? with
  |some u=>uT (zA9 u cs' (o'+j*k) z'.reverse)
  |none=>.bool di
 have hf2:∀j u,ys[j]? =df u→ ∀z',f2 j z'=uT (zA9 u cs' (o'+j*k) z'.reverse):=fun j u hu z'=>by simp[f2,hu]
 let G0:Gh:={ G with hd:=fun s z'=>if s=d then(match z'.getLast? with
  |some j=>f2 j z'.dropLast
  |none=>.bool di)else G.hd s z' }
 have hG0:∀j z',G0.hd d (z'++[j])=f2 j z':=fun j z'=>by simp[G0]
 have fo:∀(G2:Gh)(n:Nat),(∀j z',G2.hd d (z'++[n+j])=f2 j z')→ ∀(i:Nat)(v:Value),(zJ G2 d (roT.roTs ys) [] n)[i]? =df v→cs'[o'+i]? =df v:=by intro G2 n ee i v hv;exact zHP ys cs' o' k n h5 bv (fun j u hu z'=>by rw[ee,hf2 j u hu]) i v hv
 have mX:∀w2:World,w2.heap=w.heap→(Builtin.firstCells ti.size ys.length (.slice xa ys.length c)).run P w2=.ok (zJ G0 d (roT.roTs ys) [] 0).toArray w2:=by
  intro w2 pY
  by_cases gf:ys=[]
  ·subst gf
   cases xa<;>simp[Builtin.firstCells,loadCells,loadCellsFrom,roT.roTs,zJ]
  ·obtain⟨b,et,fr,rfl,h7⟩:=h6 gf
   refine run_firstCells_some (P:=P) w2 ti.size ys.length ⟨b,o',dg⟩ _ _ _ ?_ (fun j v hv=>?_)
   ·rw[yS,hk,yU _ gp,gn]
   ·have:=fo G0 0 (fun j z'=>by rw[J8];exact hG0 j z') j v hv
    rw[wV];have h8:=ga.mem.st b _ h7;simp[World.cell?,pY,h8,this]
 have cI:∀j z',(f2 j z').oneCell'=dh:=fun j z'=>by
  dsimp only[f2];split
  ·exact sZ _
  ·rfl
 have hn:zCU Γ E G d s0 dg k xs.length (roT.roTs ys) f2 (zJ G0 d (roT.roTs ys) [] 0):=by
  refine⟨gp,gN.2,gN.1,cI,by rw[yS];exact yU _ gp,fun y' hy'=>by simp at hy',fun _ j u hu G2 w2 ee=>?_,fun G2 ee i v hv=>?_⟩
  ·obtain⟨u0,bx,rfl⟩:=zFG ys j u hu
   exact zJ7 u0 cs' (o'+j*k) [xs.length+j] (fun z'=>by rw[ee z',hf2 j u0 bx]) (zEG ys cs' o' k j u0 h5 bx)
  ·rw[←kJ (roT.roTs ys) xs.length 0 (fun i z'=>by rw[ee,J8];exact(hG0 i z').symm)]
   exact hv
 have mP:∀v∈zJ G0 d (roT.roTs ys) [] 0,v.oneCell'=dh:=by
  intro v hv;refine zAE (fun s z'=>?_) _ [] 0 v hv;simp only[G0];split
  ·split
   ·exact cI _ _
   ·rfl
  ·exact ga.mem.one _ _
 have pL:zCT P t e ti (a.eval y) (roT.roTs ys).length (zJ G0 d (roT.roTs ys) [] 0) w:=⟨.inl ⟨e,xa,c,ht,by rw[y1,h1,gn],by rw[gn];exact mX⟩⟩;obtain⟨v,w',gm,G',gg⟩:=qS (P:=P) (ty:=o.type) ga hd ht hi hz hk eA eS hb gX ey hn pL mP (by rw[gn];exact fb);refine⟨v,w',?_,G',gg⟩;rw[←qF ga gX rfl]at gm;simp[execOp,ho,resolve,invoke,builtin,gm]
end
end Go.Ab

namespace Go.Ab
open Go
theorem zCc:(us:List T)→vM us=us.flatMap wX
 | []=>rfl
 |u::us=>by simp[vM,zCc us]
theorem kK(u:T)(h:u.zOk=dh):∀m,tF (J1 m u)=dh
 |0=>rfl
 |m+1=>by simp[K5,tF,h,kK u h m]
section
variable {P:Program}{Γ:Ctx}{E:Env}{o:Oper}{d:Nat}
theorem zCX(t t2 e:TypeId)(k2:IntKind)(ti:TypeInfo)(z:Value)(u:T)(k s0:Nat)(y:Operand)(kd:IntKind)(m:Nat)(xs:List T)(ho:o.op=.call { callee:=.builtin .append,args:=#[.tmp s0,y],argTypes:=#[t,t2] })(gb:o.dst=df d)(hd:d<Γ.N)
  (ht:P.underlying t=df (.slice e))(pf:P.underlying t2=df (.int k2))(hi:P.info? e=df ti)(hz:ti.zero=df z)(hk:ti.size=k)(eA:0<k)(hb:ti.bytes≤2048)(hu:u.zOk=dh)(hv:wX u=z.cells.toList)(eQ:u.size=k)
  (gX:E s0=df (.sl k xs))(hy:opT E y=df (.lit (.int kd m)))(ey:s0≠d)(fb:xs.length+m≤68719476736):
  yN P Γ o E (E.app (aWr d s0 dg k (xs++J1 m u)) (sA d s0 dg)):=by
 refine yN.value gb fun a w G ga=>?_
 have eS:z.cells.size=k:=by grind[xJ]
 have hzo:=kK u hu m;have gN:=qR _ hzo
 let f2:Nat→List Nat→Value:=fun _ z'=>uT (zhd u z'.reverse)
 have hnvl:((Builtin.zeroCells z.cells m).toList).length=m*k:=by grind[Builtin.zeroCells]
 have hn:zCU Γ E G d s0 dg k xs.length (J1 m u) f2 (Builtin.zeroCells z.cells m).toList:=by
  refine⟨by grind,gN.2,gN.1,fun _ _=>sZ _,by grind,by simp,fun _ j x hx G2 w2 ee=>?_,fun G2 ee i v hv'=>?_⟩
  ·grind[zEJ]
  ·have h1:zJ G2 d (J1 m u) [] xs.length=vM (J1 m u):=by grind[zAB]
   rw[h1,zCc]at hv';obtain⟨h2,h3⟩:=zEK wX u k (by grind) eA m i v hv'
   grind[Builtin.zeroCells]
 have gv:∀v∈(Builtin.zeroCells z.cells m).toList,v.oneCell'=dh:=by
  intro v hv';simp only[Builtin.zeroCells,Array.toList_map,Array.toList_range,J7,K9]at hv';obtain⟨i,eM,rfl⟩:=hv'
  grind[Nat.mod_lt,zB3]
 have pL:zCT P t2 e ti (a.eval y) (J1 m u).length (Builtin.zeroCells z.cells m).toList w:=by
  refine⟨.inr ⟨k2,kd,z,pf,?_,hz,by simp,?_,by omega⟩⟩
  ·rw[(yV ga hy).1];simp
  ·simp only[Jk]
   exact Ke (L6 (show m≤68719476736 by omega) hb) (by decide)
 obtain⟨v,w',gm,G',gg⟩:=qS (P:=P) (ty:=o.type) ga hd ht hi hz hk eA eS hb gX ey hn pL gv (by grind);refine⟨v,w',?_,G',gg⟩;rw[←qF ga gX rfl]at gm;simp[execOp,ho,resolve,invoke,builtin,gm]
end
end Go.Ab

namespace Go.Ab
open Go
def zFH(G:Gh)(nd:List (Nat×List Nat×T)):Value:=
 match nd with
 | [x]=>wR G x.1 x.2.2 x.2.1
 |nd=>.tuple (nd.map fun x=>wR G x.1 x.2.2 x.2.1).toArray
def FnC(P:Program)(f:FuncId)(us:List T)(res:List T)(rws:List (Nat×T)):Prop:=
 ∀(St:Stb)(W:Nat→Prop)(w:World)(G:Gh)(vs:Array Value),vs.size=us.length→
  (∀(i:Nat) u,us[i]? =df u→vs[i]? =df (mkV G i u [])∧R St G w i u [])→Mem ⟨St,W,w,0⟩ G w→
  Calls P f vs w fun e w'=> ∃(S':Stb)(G':Gh)(nd:List (Nat×List Nat×T)),zBa St S' W w.heap.size∧e=.returned (zFH G' nd)∧Mem ⟨S',W,w,0⟩ G' w'∧nd.map (·.2.2)=res∧
   (∀x∈nd,R S' G' w' x.1 x.2.2 x.2.1∧us.length≤x.1)∧(nd.map (·.1)).Nodup∧
   ∀i u',(i,u')∈rws→R S' G' w' i u' []∧ ∃u,us[i]? =df u∧mkV G' i u' []=mkV G i u []
mutual
def xF:T→Bool
 |.ro _|.mp _ _=>di
 |.sl _ xs|.agg xs|.tup xs=>xW xs
 |.ptr t=>xF t
 |.any|.lit _|.same _ _|.addr _ _|.sub _ _ _ _ _=>dh
def xW:List T→Bool
 | []=>dh
 |x::xs=>xF x&&xW xs
end
section
variable {St St':Stb}{G:Gh}{w:World}{s:Nat}
mutual
theorem zIE:(t:T)→ ∀(p:List Nat),xF t=dh→R St G w s t p→R St' G w s t p
 |.ro _,_,h,_|.mp _ _,_,h,_=>by simp[xF]at h
 |.sl k xs,p,h,hr=>by
  simp only[xF,R]at h hr ⊢
  rcases hr with hr|⟨b,o0,cap,cs,e,h1,h2,h3,h4,h5,h6,h7,h8⟩
  ·exact .inl hr
  ·exact .inr ⟨b,o0,cap,cs,e,h1,h2,h3,h4,h5,h6,h7,zNe xs p 0 b o0 k h h8⟩
 |.agg xs,p,h,hr|.tup xs,p,h,hr=>by simp only[xF,R]at h hr ⊢;exact zNf xs p 0 h hr
 |.ptr t,p,h,hr=>by
  simp only[xF,R]at h hr ⊢
  obtain⟨b,cs,e,h1,h2,h3,h6,h4,h5⟩:=hr;exact⟨b,cs,e,h1,h2,h3,h6,h4,zIE t _ h h5⟩
 |.any,_,_,hr|.lit _,_,_,hr|.same _ _,_,_,hr|.addr _ _,_,_,hr|.sub _ _ _ _ _,_,_,hr=>by first|(simp only[R];done)|simpa only[R]using hr
theorem zNe:(xs:List T)→ ∀(p:List Nat)(i b o k:Nat),xW xs=dh→RL St G w s xs p i b o k→RL St' G w s xs p i b o k
 | [],_,_,_,_,_,_,_=>by simp only[RL]
 |x::xs,p,i,b,o,k,h,hr=>by
  simp only[xW,J2,RL]at h hr ⊢
  exact⟨hr.1,zIE x _ h.1 hr.2.1,zNe xs p (i+1) b _ k h.2 hr.2.2⟩
theorem zNf:(xs:List T)→ ∀(p:List Nat)(i:Nat),xW xs=dh→RF St G w s xs p i→RF St' G w s xs p i
 | [],_,_,_,_=>by simp only[RF]
 |x::xs,p,i,h,hr=>by
  simp only[xW,J2,RF]at h hr ⊢
  exact⟨zIE x _ h.1 hr.1,zNf xs p (i+1) h.2 hr.2⟩
end
end
section
variable {St St':Stb} (h:∀b x,St b=df x→St' b=df x)
 include h
mutual
theorem wZ:(t:T)→ ∀(cs:Array Value)(o:Nat),RoC St t cs o→RoC St' t cs o
 |.sl k xs,cs,o,hr=>by
  simp only[RoC]at hr ⊢
  obtain⟨a,c,h1,h2,h3,h4⟩:=hr;refine⟨a,c,h1,h2,h3,fun gf=>?_⟩;obtain⟨b,o',cs',e,fr,h5,h6,h7⟩:=h4 gf;exact⟨b,o',cs',e,fr,h5,h b _ h6,zFI xs cs' o' k h7⟩
 |.agg xs,cs,o,hr=>by simp only[RoC]at hr ⊢;exact zFJ xs cs o hr
 |.ptr t,cs,o,hr=>by
  simp only[RoC]at hr ⊢
  obtain⟨b,o',cs',e,fr,h5,h6,h7⟩:=hr;exact⟨b,o',cs',e,fr,h5,h b _ h6,wZ t cs' o' h7⟩
 |.ro u,cs,o,hr=>by
  simp only[RoC]at hr ⊢
  obtain⟨f,vs,h1,h2,h3⟩:=hr;exact⟨f,vs,h1,h2,wZ u _ _ h3⟩
 |.mp ks xs,cs,o,hr=>by
  simp only[RoC]at hr ⊢
  rcases hr with hr|⟨b,ms,c,es,h1,h2,h3,h4,h5⟩
  ·exact .inl hr
  ·exact .inr ⟨b,ms,c,es,h1,h b _ h2,h3,h4,kL xs ks es h5⟩
 |.any,_,_,hr|.lit _,_,_,hr|.same _ _,_,_,hr|.addr _ _,_,_,hr|.sub _ _ _ _ _,_,_,hr|.tup _,_,_,hr=>by first|(simp only[RoC]at hr;done)|simpa only[RoC]using hr
theorem zFI:(xs:List T)→ ∀(cs:Array Value)(o k:Nat),RoL St xs cs o k→RoL St' xs cs o k
 | [],_,_,_,_=>by have _:=h;simp only[RoL]
 |x::xs,cs,o,k,hr=>by simp only[RoL]at hr ⊢;exact⟨wZ x cs o hr.1,zFI xs cs _ k hr.2⟩
theorem zFJ:(xs:List T)→ ∀(cs:Array Value)(o:Nat),RoF St xs cs o→RoF St' xs cs o
 | [],_,_,_=>by have _:=h;simp only[RoF]
 |x::xs,cs,o,hr=>by simp only[RoF]at hr ⊢;exact⟨wZ x cs o hr.1,zFJ xs cs _ hr.2⟩
theorem kL:(xs:List T)→ ∀(ks:List Value)(es:List MapEntry),RoM St ks xs es→RoM St' ks xs es
 | [],_,_,hr=>by have _:=h;simp only[RoM]at hr ⊢;exact hr
 |x::xs,ks,es,hr=>by
  simp only[RoM]at hr ⊢
  obtain⟨k,ks',e,es',h1,h2,h3,h4,h5⟩:=hr;exact⟨k,ks',e,es',h1,h2,h3,wZ x _ _ h4,kL xs ks' es' h5⟩
end
theorem zIF{ks:List Value}{xs:List T}{x:Obj}(hr:zCq St ks xs x):zCq St' ks xs x:=by
 unfold zCq at hr ⊢
 split
 ·simp only at hr
  obtain⟨h1,es,h2,h3⟩:=hr;exact⟨h1,es,h2,kL h xs ks es h3⟩
 ·simp only at hr
  obtain⟨ms,c,hc,ks',xs',h1,h2,h3,h4,h5,h6,cur,es,h7,h8⟩:=hr;exact⟨ms,c,hc,ks',xs',h1,h2,h _ _ h3,h4,h5,h6,cur,es,kL h xs' ks' _ h7,h8⟩
 ·simp at hr
end
section
variable {St St':Stb}{G:Gh}{w:World}{s:Nat} (h:∀b x,St b=df x→St' b=df x)
 include h
mutual
theorem zER:(t:T)→ ∀(p:List Nat),R St G w s t p→R St' G w s t p
 |.ro t,_,hr=>by simp only[R]at hr ⊢;exact wZ h t _ _ hr
 |.sl k xs,p,hr=>by
  simp only[R]at hr ⊢
  rcases hr with hr|⟨b,o0,cap,cs,e,h1,h2,h3,h4,h5,h6,h7,h8⟩
  ·exact .inl hr
  ·exact .inr ⟨b,o0,cap,cs,e,h1,h2,h3,h4,h5,h6,h7,zHR xs p 0 b o0 k h8⟩
 |.agg xs,p,hr|.tup xs,p,hr=>by simp only[R]at hr ⊢;exact zHS xs p 0 hr
 |.ptr t,p,hr=>by
  simp only[R]at hr ⊢
  obtain⟨b,cs,e,h1,h2,h3,h6,h4,h5⟩:=hr;exact⟨b,cs,e,h1,h2,h3,h6,h4,zER t _ h5⟩
 |.mp ks xs,_,hr=>by
  simp only[R]at hr ⊢
  obtain⟨b,ms,c,h1,h2,h3,h4⟩:=hr;exact⟨b,ms,c,h1,h2,h3,zIF h h4⟩
 |.any,_,hr|.lit _,_,hr|.same _ _,_,hr|.addr _ _,_,hr|.sub _ _ _ _ _,_,hr=>by first|(simp only[R];done)|simpa only[R]using hr
theorem zHR:(xs:List T)→ ∀(p:List Nat)(i b o k:Nat),RL St G w s xs p i b o k→RL St' G w s xs p i b o k
 | [],_,_,_,_,_,_=>by have _:=h;simp only[RL]
 |x::xs,p,i,b,o,k,hr=>by simp only[RL]at hr ⊢;exact⟨hr.1,zER x _ hr.2.1,zHR xs p (i+1) b _ k hr.2.2⟩
theorem zHS:(xs:List T)→ ∀(p:List Nat)(i:Nat),RF St G w s xs p i→RF St' G w s xs p i
 | [],_,_,_=>by have _:=h;simp only[RF]
 |x::xs,p,i,hr=>by simp only[RF]at hr ⊢;exact⟨zER x _ hr.1,zHS xs p (i+1) hr.2⟩
end
end
mutual
def strip:T→T
 |.lit v=>.lit v
 |.ro u=>if u.single then u else .any
 |.sl k xs=>.sl k (wC xs)
 |.agg xs=>.agg (wC xs)
 |.ptr t=>.ptr (strip t)
 |.mp ks xs=>.mp ks xs
 |.any|.same _ _|.addr _ _|.sub _ _ _ _ _|.tup _=>.any
def wC:List T→List T
 | []=>[]
 |x::xs=>strip x::wC xs
end
theorem sQ:(xs:List T)→(wC xs).length=xs.length
 | []=>rfl
 |x::xs=>by simp[wC,sQ xs]
mutual
theorem zCY:(t:T)→(strip t).size=t.size
 |.agg xs=>by simp only[strip,T.size];exact zCd xs
 |.ro u=>by
  simp only[strip];split
  ·rename_i h;cases u<;>simp[T.single]at h<;>simp[T.size]
  ·simp[T.size]
 |.lit _|.sl _ _|.ptr _|.mp _ _|.any|.same _ _|.addr _ _|.sub _ _ _ _ _|.tup _=>by simp[strip,T.size]
theorem zCd:(xs:List T)→T.sizes (wC xs)=T.sizes xs
 | []=>rfl
 |x::xs=>by simp only[wC,T.sizes,zCY x,zCd xs]
end
theorem sJ{St:Stb}{u:T}(hu:u.single=dh){v:Value}{cs:Array Value}{o:Nat}(h:RoC St u #[v] 0)(hc:cs[o]? =df v):RoC St u cs o:=by
 by_cases hm:∃ks xs,u=.mp ks xs
 ·obtain⟨ks,xs,rfl⟩:=hm
  simp only[RoC]at h ⊢
  rcases h with⟨v',h1,h2⟩|⟨b,ms,c,es,h1,h2⟩
  ·exact .inl ⟨v,hc,by simp at h1;rw[h1];exact h2⟩
  ·exact .inr ⟨b,ms,c,es,by simp at h1;rw[hc,h1],h2⟩
 cases u<;>simp[T.single]at hu<;>simp only[RoC]at h ⊢ <;>simp at h<;>first
  |exact⟨v,hc,h⟩
  |(obtain⟨rfl,h2⟩:=h;exact⟨hc,h2⟩)
  |(obtain⟨f,vs,rfl,h2⟩:=h;exact⟨f,vs,hc,h2⟩)
  |(obtain⟨a,c,rfl,h2⟩:=h;exact⟨a,c,hc,by simpa using h2⟩)
  |exact absurd ⟨_,_,rfl⟩ hm
  |(obtain⟨b,o',rfl,h2⟩:=h;obtain⟨cs',⟨e,f1,f2,h3⟩,h4⟩:=h2;exact⟨b,o',cs',e,(f1,f2),hc,h3,h4⟩)
section
variable {St Sc:Stb}{G:Gh}{w:World}{s:Nat} (gv:∀s p,(G.hd s p).oneCell'=dh) (ek:∀b x,St b=df x→Sc b=df x) (el:∀b,(∃y,G.ow b=df (s,y))→Sc b=w.heap[b]?)
 include gv ek el
mutual
theorem frz:(t:T)→ ∀(p:List Nat)(b o:Nat)(cs:Array Value)(e:TypeId)(fr:Nat×Nat),w.heap[b]? =df (.cells cs e fr)→Loc G w s t p b o→R St G w s t p→RoC Sc (strip t) cs o
 |.agg xs,p,b,o,cs,e,fr,hb,hl,hr=>by simp only[Loc,R,strip,RoC]at hl hr ⊢;exact zPo xs p 0 b o cs e fr hb hl.2 hr
 |.tup _,_,_,_,_,_,_,_,hl,_=>by have _:=el;simp only[Loc]at hl
 |.any,p,b,o,cs,e,fr,hb,hl,hr|.same _ _,p,b,o,cs,e,fr,hb,hl,hr|.addr _ _,p,b,o,cs,e,fr,hb,hl,hr|.sub _ _ _ _ _,p,b,o,cs,e,fr,hb,hl,hr=>by have h1:=(wI rfl hl).2.2;simp only[zT,World.cell?,hb]at h1;simp only[strip,RoC];exact⟨_,by simpa using h1,gv s p⟩
 |.lit v,p,b,o,cs,e,fr,hb,hl,hr=>by
  have h1:=(wI rfl hl).2.2;simp only[zT,World.cell?,hb]at h1;simp only[strip,RoC,R]at hr ⊢
  exact⟨by rw[←hr];simpa using h1,by rw[←hr];exact gv s p⟩
 |.ro u,p,b,o,cs,e,fr,hb,hl,hr=>by
  have h1:=(wI rfl hl).2.2;simp only[zT,World.cell?,hb]at h1;simp only[strip,R]at hr ⊢
  split
  ·rename_i hu
   exact sJ hu (wZ ek u _ _ hr) (by simpa using h1)
  ·simp only[RoC];exact⟨_,by simpa using h1,gv s p⟩
 |.sl k xs,p,b,o,cs,e,fr,hb,hl,hr=>by have h1:=(wI rfl hl).2.2;simp only[zT,World.cell?,hb]at h1;exact sJ rfl (zCZ (.sl k xs) p rfl hr) (by simpa using h1)
 |.ptr t,p,b,o,cs,e,fr,hb,hl,hr=>by have h1:=(wI rfl hl).2.2;simp only[zT,World.cell?,hb]at h1;exact sJ rfl (zCZ (.ptr t) p rfl hr) (by simpa using h1)
 |.mp ks xs,p,b,o,cs,e,fr,hb,hl,hr=>by have h1:=(wI rfl hl).2.2;simp only[zT,World.cell?,hb]at h1;exact sJ rfl (zCZ (.mp ks xs) p rfl hr) (by simpa using h1)
theorem zPo:(xs:List T)→ ∀(p:List Nat)(j b o:Nat)(cs:Array Value)(e:TypeId)(fr:Nat×Nat),w.heap[b]? =df (.cells cs e fr)→xS G w s xs p j b o→RF St G w s xs p j→RoF Sc (wC xs) cs o
 | [],_,_,_,_,_,_,_,_,_,_=>by have _:=gv;have _:=ek;have _:=el;simp only[wC,RoF]
 |x::xs,p,j,b,o,cs,e,fr,hb,hl,hr=>by
  simp only[xS,RF,wC,RoF]at hl hr ⊢
  exact⟨frz x _ b o cs e fr hb hl.1 hr.1,by rw[zCY];exact zPo xs p (j+1) b _ cs e fr hb hl.2 hr.2⟩
theorem zPp:(xs:List T)→ ∀(p:List Nat)(i b o k:Nat)(cs:Array Value)(e:TypeId)(fr:Nat×Nat),w.heap[b]? =df (.cells cs e fr)→RL St G w s xs p i b o k→RoL Sc (wC xs) cs o k
 | [],_,_,_,_,_,_,_,_,_,_=>by have _:=gv;have _:=ek;have _:=el;simp only[wC,RoL]
 |x::xs,p,i,b,o,k,cs,e,fr,hb,hr=>by
  simp only[RL,wC,RoL]at hr ⊢
  exact⟨frz x _ b o cs e fr hb hr.1.1 hr.2.1,zPp xs p (i+1) b _ k cs e fr hb hr.2.2⟩
theorem zCZ:(t:T)→ ∀(p:List Nat),t.single=dh→R St G w s t p→RoC Sc (strip t) #[G.hd s p] 0
 |.agg _,_,h,_|.tup _,_,h,_=>by simp[T.single]at h
 |.any,p,_,_|.same _ _,p,_,_|.addr _ _,p,_,_|.sub _ _ _ _ _,p,_,_=>by simp only[strip,RoC];exact⟨_,by simp,gv s p⟩
 |.mp ks xs,p,_,hr=>by
  simp only[strip,R,RoC]at hr ⊢
  obtain⟨b,x,_,h1,h2,h3,h4⟩:=hr;unfold zCq at h4;split at h4
  ·exact .inr ⟨b,_,_,h4.2.choose,by simp[h1,zCp],by rw[el b ⟨_,h3⟩];exact h2,h4.1.2,h4.2.choose_spec.1,kL ek _ _ _ h4.2.choose_spec.2⟩
  ·obtain⟨_,_,hc,ks',xs',rfl,_⟩:=h4
   exact .inl ⟨_,by simp,gv s p,rfl⟩
  ·exact h4.elim
 |.lit v,p,_,hr=>by simp only[strip,RoC,R]at hr ⊢;exact⟨by simp[hr],by rw[←hr];exact gv s p⟩
 |.ro u,p,_,hr=>by
  simp only[strip,R]at hr ⊢
  split
  ·exact wZ ek u _ _ hr
  ·simp only[RoC];exact⟨_,by simp,gv s p⟩
 |.sl k xs,p,_,hr=>by
  simp only[strip,R,RoC]at hr ⊢
  rw[sQ];rcases hr with⟨rfl,a,h1⟩|⟨b,o0,cap,cs,e,h1,h2,h3,h4,h5,h6,h7,h8⟩
  ·exact⟨a,0,by simp[h1],by simp,by simp[maxLen],fun h=>by simp[wC]at h⟩
  ·exact⟨df ⟨b,o0,dg⟩,cap,by simp[h1],h3,h4,fun _=>⟨b,o0,cs,e,(0,0),rfl,by rw[el b ⟨_,h6⟩];exact h2,zPp xs p 0 b o0 k cs e (0,0) h2 h8⟩⟩
 |.ptr t,p,_,hr=>by
  simp only[strip,R,RoC]at hr ⊢
  obtain⟨b,cs,e,h1,h2,h3,h6,h4,h5⟩:=hr;exact⟨b,0,cs,e,(0,0),by simp[h1],by rw[el b ⟨_,h6⟩];exact h2,frz t _ b 0 cs e (0,0) h2 h4 h5⟩
end
end
end Go.Ab
