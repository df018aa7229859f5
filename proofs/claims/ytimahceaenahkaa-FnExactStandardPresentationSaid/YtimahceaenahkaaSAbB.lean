/- x -/
import Derived.Test.YtimahceaenahkaaSAbA
import Derived.Laws.CopyRow
import Derived.ProofKit
open List renaming replicate→J1,getElem?_eq_getElem→J5,mem_map→J7,append_nil→J9,getElem?_eq_some_iff→Ja,map_cons→Jc,length_append→Je,getElem?_map→Jf,mem_cons→Jh,eq_nil_of_length_eq_zero→Ji,length_map→Jl,all_eq_true→Jm,length_cons→Jn,nil_append→Jr,getElem?_append→Jv,range→Jz,nodup_cons→K0,replicate_succ→K5,contains_eq_mem→K7,cons_append→Ka,take_succ_cons→Kf,reverse_reverse→Kj,mem_of_getElem?→Kk,map_append→Kn,singleton_append→Ks,getElem?_set_self→Ky,flatMap_cons→Kz,mem_append→Lg,take_zero→Lp,drop_zero→Lr,reverse_nil→H6,getElem?_drop→H7,getElem?_set_ne→Hd,find?_eq_none→He,reverse_cons→Hl,range'→Ht,find?_cons_of_neg→G5,cons→G6,mem_iff_getElem?→Gb,map_take→Gk,getLast?_append→Gl,dropLast_concat→Gm,all_cons→Gp,map_map→U1,getElem?_take→U2,mem_filter→Ul,getElem?_cons_succ→Um,size_toArray→Uw,getElem?_set→Ux,range'_succ→Uz,mem_iff_getElem→Q2,map_drop→Qe,getD→Qf,length_nil→Qh
open Bool renaming and_eq_true→J2,not_eq_true'→Kr,and_self→L5,false_eq_true→L8,true_and→Qg
open Nat renaming blt→J3,zero_add→J8,le_refl→Jg,mul_le_mul_right→Jp,le_trans→Ke,succ_mul→Kl,zero_le→Kq,add_assoc→L7,lt_or_ge→Ho,sub_zero→G8,mul_comm→Ga,ble→Ud
open Array renaming getElem?_setIfInBounds→J6,getD_eq_getD_getElem?→Jo,length_toList→Jx,getElem?_toList→Jy,getElem?_eq_some_iff→K3,replicate→Hk
open Option renaming map_eq_some_iff→K8,some→Kb,getD_some→Kc,map_eq_none_iff→Hu,bind_eq_some_iff→Hw
open Prod renaming mk→Gz
open Option renaming some→df,none→dg
open Bool renaming true→dh,false→di
namespace Go.Ab
open Go
mutual
def clo(E:Env):T→T
 |.agg ts=>.agg (qG E ts)
 |.lit v=>.lit v
 |.ro u=>.ro u
 |.same r q=>match vU E 4 r q with
  |some (_,_,.ro u)=>.ro u
  |some (_,_,.lit v)=>.lit v
  |some (_,_,t)=>if t.single then .ro (strip t)else .any
  |none=>.any
 |.sub r q k lo hi=>match vU E 4 r q with
  |some (_,_,.sl k' xs)=>if k=k'∧lo≤hi∧hi≤xs.length then .ro (.sl k (((wC xs).drop lo).take (hi-lo)))else .any
  |_=>.any
 |.sl k xs=>.ro (strip (.sl k xs))
 |.ptr t=>.ro (strip (.ptr t))
 |.mp ks xs=>.ro (.mp ks xs)
 |.any|.addr _ _|.tup _=>.any
def qG(E:Env):List T→List T
 | []=>[]
 |x::xs=>clo E x::qG E xs
end
mutual
def vJ(E:Env)(rs:List Nat)(s:Nat):T→Bool
 |.agg ts=>tR E rs s ts
 |.same r q|.sub r q _ _ _=>match vU E 4 r q with
  |some (r',_,_)=> !rs.contains r'
  |none=>dh
 |.sl _ _|.ptr _|.mp _ _=> !rs.contains s
 |.lit _|.ro _|.any|.addr _ _=>dh
 |.tup _=>di
def tR(E:Env)(rs:List Nat)(s:Nat):List T→Bool
 | []=>dh
 |x::xs=>vJ E rs s x&&tR E rs s xs
end
theorem zMb{St:Stb}{k:Nat}{xs:List T}{v:Value}{lo hi:Nat}(h:RoC St (.sl k xs) #[v] 0)(h1:lo≤hi)(h2:hi≤xs.length):RoC St (.sl k ((xs.drop lo).take (hi-lo))) #[zDV v k lo hi] 0:=by
 simp only[RoC]at h ⊢
 obtain⟨a',c,g4,g5,g6,g7⟩:=h;have hv:v=.slice a' xs.length c:=by grind
 subst hv;have gn:((xs.drop lo).take (hi-lo)).length=hi-lo:=by simp;omega
 refine⟨if c=lo then a' else a'.map (·.add (lo*k)),c-lo,by grind[zDV],by omega,by omega,?_⟩;intro gf;have pB:xs≠[]:=by grind
 obtain⟨b,o',cs',e',fr,rfl,h3,h4⟩:=g7 pB;have gN:c≠lo:=by grind
 grind[wV,zCK,zCJ]
section
variable {Γ:Ctx}{E:Env}{G Gc:Gh}{a:Act}{w:World}{Sc:Stb}{rs:List Nat}{s i:Nat} (ga:Rep Γ E G a.tmps w) (ek:∀b x,Γ.St b=df x→Sc b=df x) (el:∀r,r∉rs→ ∀b,(∃y,G.ow b=df (r,y))→Sc b=w.heap[b]?) (gP:∀z,Gc.hd i z=G.hd s z)
 include ga ek el gP
mutual
theorem zNg:(t:T)→ ∀(p:List Nat),vJ E rs s t=dh→R Γ.St G w s t p→R Sc Gc w i (clo E t) p
 |.agg ts,p,h,hr=>by simp only[vJ,clo,R]at h hr ⊢;exact zJJ ts p 0 h hr
 |.tup _,_,h,_=>by grind[vJ]
 |.lit v,p,_,hr=>by simp only[clo,R]at hr ⊢;grind
 |.ro u,p,_,hr=>by simp only[clo,R]at hr ⊢;grind[wZ]
 |.any,_,_,_|.addr _ _,_,_,_=>by simp only[clo,R]
 |.mp ks xs,p,h,hr=>by simp only[vJ,Kr,K7,decide_eq_false_iff_not]at h;have:=zCZ (fun s p=>ga.mem.one s p) ek (el s h) (.mp ks xs) p rfl hr;simp only[strip]at this;have h3:=gP p;simp only[clo,R];rw[h3];exact this
 |.sl k xs,p,h,hr=>by
  simp only[vJ,Kr,K7,decide_eq_false_iff_not]at h;have:=zCZ (fun s p=>ga.mem.one s p) ek (el s h) (.sl k xs) p rfl hr;simp only[clo,R]
  grind
 |.ptr t,p,h,hr=>by
  simp only[vJ,Kr,K7,decide_eq_false_iff_not]at h;have:=zCZ (fun s p=>ga.mem.one s p) ek (el s h) (.ptr t) p rfl hr;simp only[clo,R]
  grind
 |.same r q,p,h,hr=>by
  simp only[vJ,clo,R]at h hr ⊢
  cases hf:vU E 4 r q with
  |none=>simp only[R]
  |some x=>
   obtain⟨r',q',t⟩:=x;simp only[hf,Kr,K7,decide_eq_false_iff_not]at h;obtain⟨h1,h2,_⟩:=zAh ga 4 r q r' q' t hf;have h3:Gc.hd i p=G.hd r' q':=by grind
   by_cases hs:t.single=dh
   ·have h4:=zCZ (fun s p=>ga.mem.one s p) ek (el r' h) t q' hs h1
    cases t with
    |ro u=>simp only[R]at h1 ⊢;grind[wZ]
    |lit v=>simp only[R]at h1 ⊢;grind
    |agg _=>grind[T.single]
    |tup _=>grind[T.single]
    |_=>simp only[hs,if_true,R];grind
   ·cases t<;>simp[T.single]at hs<;>simp[T.single,R]
 |.sub r q k lo hi,p,h,hr=>by
  simp only[vJ,clo,R]at h hr ⊢
  cases hf:vU E 4 r q with
  |none=>simp only[R]
  |some x=>
   obtain⟨r',q',t⟩:=x;simp only[hf,Kr,K7,decide_eq_false_iff_not]at h;obtain⟨h1,h2,_⟩:=zAh ga 4 r q r' q' t hf;cases t with
   |sl k' xs=>
    simp only[];split
    ·rename_i hc
     obtain⟨rfl,bJ,fL⟩:=hc;have h4:=zCZ (fun s p=>ga.mem.one s p) ek (el r' h) (.sl k xs) q' rfl h1;simp only[strip]at h4;simp only[R]
     grind[zMb,sQ]
    ·simp only[R]
   |_=>simp only[R]
theorem zJJ:(ts:List T)→ ∀(p:List Nat)(j:Nat),tR E rs s ts=dh→RF Γ.St G w s ts p j→RF Sc Gc w i (qG E ts) p j
 | [],_,_,_,_=>by have _:=ga;have _:=ek;have _:=el;have _:=gP;simp only[qG,RF]
 |x::xs,p,j,h,hr=>by
  simp only[tR,J2,qG,RF]at h hr ⊢
  exact⟨zNg x _ h.1 hr.1,zJJ xs p (j+1) h.2 hr.2⟩
end
end
section
variable {E:Env}{G Gc:Gh}{rs:List Nat}{s i:Nat}
theorem zDa(t:T)(h:t.single=dh):(clo E t).single=dh:=by cases t<;>simp[T.single]at h<;>simp only[clo]<;>first|rfl|(split<;>first|rfl|(split<;>rfl))
mutual
theorem zJK(gP:∀z,Gc.hd i z=G.hd s z):(t:T)→ ∀(p:List Nat),vJ E rs s t=dh→vals Gc i (clo E t) p=vals G s t p
 |.agg ts,p,h=>by simp only[vJ,clo,vals]at h ⊢;exact zB5 gP ts p 0 h
 |.tup _,_,h=>by grind[vJ]
 |.lit _,p,_|.ro _,p,_|.any,p,_|.addr _ _,p,_|.sl _ _,p,_|.ptr _,p,_|.mp _ _,p,_|.same _ _,p,_|.sub _ _ _ _ _,p,_=>by
  have h1:∀u:T,u.single=dh→vals Gc i u p=[G.hd s p]:=fun u hu=>by cases u<;>simp[T.single]at hu<;>simp[vals,gP]
  rw[h1 _ (zDa _ rfl)];simp[vals]
theorem zB5(gP:∀z,Gc.hd i z=G.hd s z):(ts:List T)→ ∀(p:List Nat)(j:Nat),tR E rs s ts=dh→zJ Gc i (qG E ts) p j=zJ G s ts p j
 | [],_,_,_=>by rfl
 |x::xs,p,j,h=>by simp only[tR,J2]at h;simp only[qG,zJ];rw[zJK gP x _ h.1,zB5 gP xs p _ h.2]
end
theorem zHT(gP:∀z,Gc.hd i z=G.hd s z)(t:T)(h:vJ E rs s t=dh):mkV Gc i (clo E t) []=mkV G s t []:=by
 cases t with
 |agg ts=>grind[vJ,clo,mkV,zB5]
 |tup _=>grind[vJ]
 |_=>rw[yM (zDa _ rfl),yM rfl,gP]
end
end Go.Ab

namespace Go.Ab
open Go
abbrev Rw:=List (Nat×Nat×T)
def rwI(rw:Rw)(s:Nat):Option Nat:=(rw.find? fun x=>x.2.1==s).map (·.1)
def rwS(rw:Rw)(i:Nat):Option Nat:=(rw.find? fun x=>x.1==i).map (·.2.1)
theorem kM:(rw:Rw)→(rw.map (·.2.1)).Nodup→ ∀{i s:Nat}{u:T},(i,s,u)∈rw→rwI rw s=df i
 | [],_,_,_,_,h=>by simp at h
 |(i0,s0,u0)::rw,hn,i,s,u,h=>by
  simp only[Jc,K0,J7]at hn;rcases Jh.1 h with h|h
  ·simp at h;obtain⟨rfl,rfl,rfl⟩:=h;simp[rwI]
  ·have gf:s0≠s:=fun e=>hn.1 ⟨_,h,e.symm⟩
   have:=kM rw hn.2 h;simp only[rwI]at this ⊢
   rw[G5 (by simpa using gf)];exact this
theorem zFK:(rw:Rw)→(rw.map (·.1)).Nodup→ ∀{i s:Nat}{u:T},(i,s,u)∈rw→rwS rw i=df s
 | [],_,_,_,_,h=>by simp at h
 |(i0,s0,u0)::rw,hn,i,s,u,h=>by
  simp only[Jc,K0,J7]at hn;rcases Jh.1 h with h|h
  ·simp at h;obtain⟨rfl,rfl,rfl⟩:=h;simp[rwS]
  ·have gf:i0≠i:=fun e=>hn.1 ⟨_,h,e.symm⟩
   have:=zFK rw hn.2 h;simp only[rwS]at this ⊢
   rw[G5 (by simpa using gf)];exact this
theorem zFL{rw:Rw}{s:Nat}(h:s∉rw.map (·.2.1)):rwI rw s=dg:=by simp only[rwI,Hu,He];intro x hx;simp only[beq_iff_eq];exact fun e=>h (J7.2 ⟨x,hx,e⟩)
theorem zJL{rw:Rw}{i:Nat}(h:∀x∈rw,x.1≠i):rwS rw i=dg:=by simp only[rwS,Hu,He];intro x hx;simpa using h x hx
theorem zHU{rw:Rw}{s i:Nat}(h:rwI rw s=df i):s∈rw.map (·.2.1):=by simp only[rwI,K8]at h;obtain⟨x,hx,_⟩:=h;have h1:=List.mem_of_find?_eq_some hx;have h2:=List.find?_some hx;exact J7.2 ⟨x,h1,by simpa using h2⟩
abbrev Nd:=List (Nat×List Nat×T)
def zJM(nd:Nd)(k s:Nat):Option (Nat×List Nat):=
 match nd with
 | []=>dg
 |x::r=>if x.1=s then df (k,x.2.1)else zJM r (k+1) s
def ndB(d:Nat)(nd:Nd)(s:Nat)(z:List Nat):Option (Nat×List Nat):=
 match nd with
 | [x]=>if x.1=s∧x.2.1<:+z then df (d,z.take (z.length-x.2.1.length))else dg
 |nd=>match zJM nd 0 s with
  |some (k,q)=>if q<:+z then df (d,z.take (z.length-q.length)++[k])else dg
  |none=>dg
theorem zEe:(nd:Nd)→(nd.map (·.1)).Nodup→ ∀{k k0:Nat}{x:Nat×List Nat×T},nd[k]? =df x→zJM nd k0 x.1=df (k0+k,x.2.1)
 | [],_,_,_,_,h=>by simp at h
 |y::nd,hn,k,k0,x,h=>by
  simp only[Jc,K0,J7]at hn;cases k with
  |zero=>simp at h;subst h;simp[zJM]
  |succ k=>
   simp only[Um]at h;have gf:y.1≠x.1:=fun e=>hn.1 ⟨x,Kk h,e.symm⟩
   simp only[zJM,gf,if_false];rw[zEe nd hn.2 h]
   congr 2;omega
def zJN(G:Gh)(nd:Nd)(z:List Nat):Value:=
 match nd with
 | [x]=>G.hd x.1 (z++x.2.1)
 |nd=>match z.getLast? with
  |some k=>(match nd[k]? with
   |some x=>G.hd x.1 (z.dropLast++x.2.1)
   |none=>.bool di)
  |none=>.bool di
def zMc(G:Gh)(nd:Nd)(z:List Nat):Addr:=
 match nd with
 | [x]=>G.ad x.1 (z++x.2.1)
 |nd=>match z.getLast? with
  |some k=>(match nd[k]? with
   |some x=>G.ad x.1 (z.dropLast++x.2.1)
   |none=>default)
  |none=>default
def Gh.arg(G:Gh)(a:Act)(xs:List Operand)(rw:Rw):Gh where
 hd i z:=match xs[i]? with
  |some (.tmp s)=>G.hd s z
  |some x=>uT (a.eval x)
  |none=>.bool di
 ad i z:=match xs[i]? with
  |some (.tmp s)=>G.ad s z
  |_=>default
 lb b o:=match G.lb b o with
  |some (f,s,z)=>(match rwI rw s,G.ow b with
   |some i,df (s',_)=>if s'=s then df (f,i,z)else dg
   |_,_=>dg)
  |none=>dg
 ow b:=match G.ow b with
  |some (s,z)=>(match rwI rw s with
   |some i=>df (i,z)
   |none=>dg)
  |none=>dg
def sB(G:Gh)(rw:Rw)(b:Nat):Prop:=∃s z,G.ow b=df (s,z)∧s∈rw.map (·.2.1)
def zA1(d:Nat)(rw:Rw)(nd:Nd)(s:Nat)(z:List Nat):Option (Nat×List Nat):=
 match rwS rw s with
 |some s'=>df (s',z)
 |none=>ndB d nd s z
open Classical in
noncomputable def Gh.back (G G':Gh) (n0 d:Nat) (rw:Rw) (nd:Nd):Gh where
 hd s z:=if s=d then zJN G' nd z else match rwI rw s with
  |some i=>G'.hd i z
  |none=>G.hd s z
 ad s z:=if s=d then zMc G' nd z else match rwI rw s with
  |some i=>if z=[]then G.ad s z else G'.ad i z
  |none=>G.ad s z
 lb b o:=if sB G rw b∨n0≤b then(match G'.lb b o with
  |some (f,s,z)=>(match zA1 d rw nd s z with
   |some (s',z')=>df (f,s',z')
   |none=>dg)
  |none=>dg)else G.lb b o
 ow b:=if sB G rw b∨n0≤b then(match G'.ow b with
  |some (s,z)=>zA1 d rw nd s z
  |none=>dg)else G.ow b
def zCu(res:List T):T:=match res with
 | [u]=>u
 |us=>.tup us
def cWr(d:Nat)(res:List T)(rw:Rw):Wr:=(d,df (zCu res))::rw.map fun x=>(x.2.1,df x.2.2)
def cLv(t:T):Nat:=if t.single then 1 else 0
def vA(d:Nat)(rw:Rw):Chg:=(d,0)::rw.map fun x=>(x.2.1,cLv x.2.2)
theorem zDb{d:Nat}{rw:Rw}{x:Nat×Nat×T}(h:x∈rw):(x.2.1,cLv x.2.2)∈vA d rw:=List.mem_cons_of_mem _ (J7.2 ⟨x,h,rfl⟩)
theorem zHV{Gn G':Gh}{d:Nat}:(nd:Nd)→ ∀(j:Nat),(∀k x,nd[k]? =df x→ ∀z,Gn.hd d (z++[j+k])=G'.hd x.1 (z++x.2.1))→vW Gn d (nd.map (·.2.2)) [] j=nd.map fun x=>wR G' x.1 x.2.2 x.2.1
 | [],_,_=>by simp[vW]
 |x::nd,j,h=>by
  have ih:=zHV (Gn:=Gn) (G':=G') (d:=d) nd (j+1) (fun k y hy z=>by rw[show j+1+k=j+(k+1)from by omega];exact h (k+1) y (by simpa using hy) z)
  simp only[Jc,vW,ih];rw[qQ x.2.2 x.2.1 [j] (by simpa using h 0 x (by simp))]
theorem zJO{d:Nat}{res:List T}{rw:Rw}{s:Nat}{x:Option T}(h:(cWr d res rw).find s=df x):(s=d∧x=df (zCu res))∨(s≠d∧ ∃i u,(i,s,u)∈rw∧x=df u):=by
 simp only[cWr,Wr.find]at h;split at h
 ·rename_i he;simp at h;exact .inl ⟨he.symm,h.symm⟩
 ·rename_i gf
  refine .inr ⟨fun e=>gf e.symm,?_⟩
  clear gf
  induction rw with
  |nil=>simp[Wr.find]at h
  |cons y rw ih=>
   simp only[Jc,Wr.find]at h;split at h
   ·rename_i he;simp at h;subst he;exact⟨y.1,y.2.2,by simp,h.symm⟩
   ·obtain⟨i,u,h1,h2⟩:=ih h;exact⟨i,u,by simp[h1],h2⟩
theorem zJP{d:Nat}{res:List T}{rw:Rw}{s:Nat}(h:(cWr d res rw).find s=dg):s≠d∧s∉rw.map (·.2.1):=by
 simp only[cWr,Wr.find]at h;split at h
 ·cases h
 ·rename_i gf
  refine⟨fun e=>gf e.symm,?_⟩
  clear gf
  induction rw with
  |nil=>simp
  |cons y rw ih=>
   simp only[Jc,Wr.find]at h;split at h
   ·cases h
   ·rename_i he
    simp only[Jc,Jh,not_or];exact⟨fun e=>he e.symm,ih h⟩
def aft(S Sc S':Stb):Stb:=fun b=>match Sc b with
 |none=>S' b
 |some _=>S b
theorem Rep.up{Γ:Ctx}{E:Env}{G:Gh}{tmps tmps':Array Value}{w w':World}{G':Gh}{wr:Wr}{chg:Chg}{S:Stb}(h:Rep Γ E G tmps w)(hS:∀b x,Γ.St b=df x→S b=df x)
  (gE:tmps'.size=tmps.size)(hk:uK chg G w G' w')(gr:Mem (Γ.at S) G' w')
  (gj:∀s,wr.find s=dg→(∀n,(s,n)∉chg)∧tmps'[s]? =tmps[s]?)
  (gI:∀s t,wr.find s=df (df t)→Ent (Γ.at S) G' w' tmps'[s]? s t):Rep (Γ.at S) (E.app wr chg) G' tmps' w' where
 size:=by rw[gE];exact h.size
 mem:=gr
 ent s t hs:=by
  unfold Env.app at hs;cases hf:wr.find s with
  |some x=>
   rw[hf]at hs;simp at hs;subst hs;exact gI s t hf
  |none=>
   rw[hf]at hs;simp at hs;cases he:E s with
   |none=>simp[he]at hs
   |some u=>
    simp[he]at hs;obtain⟨gC,rfl⟩:=hs;rw[(gj s hf).2];obtain⟨e1,e2,e3⟩:=Ent.keep hk (gj s hf).1 gC (h.ent s u he);exact⟨e1,zER hS u [] e2,e3⟩
section
variable {P:Program}{Γ:Ctx}{E:Env}{d:Nat}
theorem zFM{G:Gh}{a:Act}{w:World}(ga:Rep Γ E G a.tmps w)(hd:d<Γ.N){Sc:Stb}{rw:Rw}(hS1:∀b x,Sc b=df x→w.heap[b]? =df x∧ ¬sB G rw b)(hS0:∀b x,Γ.St b=df x→Sc b=df x){f:FuncId}{us res:List T}
  (hc:FnC P f us res (rw.map fun x=>(x.1,x.2.2))){xs:List Operand}(gn:xs.length=us.length)
  (gk:∀(i:Nat) u,us[i]? =df u→(∃x,xs[i]? =df x∧a.eval x=mkV (G.arg a xs rw) i u []∧R Sc (G.arg a xs rw) w i u []))
  (hn1:(d::rw.map (·.2.1)).Nodup)(hn2:(rw.map (·.1)).Nodup)(eu:∀x∈rw,xs[x.1]? =df (.tmp x.2.1))
  (gy:∀u∈res,zK u∧u.okTup=dh∧ ∀(S':Stb)(G:Gh)(w:World)(s:Nat)(p:List Nat),(∀b x,Sc b=df x→S' b=df x)→R S' G w s u p→R (aft Γ.St Sc S') G w s u p)
  (mH:∀x∈rw,zK x.2.2∧(∀(S':Stb)(G:Gh)(w:World)(s:Nat)(p:List Nat),(∀b x,Sc b=df x→S' b=df x)→R S' G w s x.2.2 p→R (aft Γ.St Sc S') G w s x.2.2 p)∧ ∃u,E x.2.1=df u∧x.2.2.single=u.single∧us[x.1]? =df u):
  Calls P f (xs.map a.eval).toArray w fun e w'=> ∃v,e=.returned v∧ ∃S G',zBa Γ.St S Γ.W Γ.w0.heap.size∧uK (vA d rw) G w G' w'∧Rep (Γ.at S) (E.app (cWr d res rw) (vA d rw)) G' (a.tmps.setIfInBounds d v) w':=by
 have hm:=ga.mem;have fU:=K0.1 hn1;have hmc:Mem ⟨Sc,sB G rw,w,0⟩ (G.arg a xs rw) w:=by
  have gA:∀b,sB G rw b→Sc b=dg:=fun b h=>by
   cases hs:Sc b with
   |none=>rfl
   |some x=>exact absurd h (hS1 b x hs).2
  refine⟨fun i z=>?_,fun b o l hl=>?_,fun b l hl=>?_,fun b x hx=>(hS1 b x hx).1,fun b _ _=>rfl,Jg _,⟨fun b cs e h=>⟨cs,h,rfl⟩,rfl,rfl⟩⟩
  ·simp only[Gh.arg]
   split
   ·exact hm.one _ _
   ·exact sZ _
   ·rfl
  ·simp only[Gh.arg]at hl
   split at hl
   ·rename_i f' s z hg
    split at hl
    ·rename_i i s' y hi ho
     split at hl
     ·rename_i he;subst he
      have hL:sB G rw b:=⟨s',y,ho,zHU hi⟩;exact⟨(hm.lb b o _ hg).1,.inr hL,gA b hL⟩
     ·cases hl
    ·cases hl
   ·cases hl
  ·simp only[Gh.arg]at hl
   split at hl
   ·rename_i s z hg
    split at hl
    ·rename_i i hi
     have hL:sB G rw b:=⟨s,z,hg,zHU hi⟩;exact⟨(hm.ow b _ hg).1,.inr hL,gA b hL⟩
    ·cases hl
   ·cases hl
 have gu:=hc Sc (sB G rw) w (G.arg a xs rw) (xs.map a.eval).toArray (by simp[gn]) (fun i u hu=>by obtain⟨x,h1,h2,h3⟩:=gk i u hu;exact⟨by simp[h1,h2],h3⟩) hmc
 refine gu.mono ?_
 rintro e w' ⟨S',G',nd,gM,rfl,gF,fa,eo,ce,mG⟩
 have fj:∀b x,Γ.St b=df x→aft Γ.St Sc S' b=df x:=fun b x hx=>by simp only[aft,hS0 b x hx,hx]
 have aI:zBa Γ.St (aft Γ.St Sc S') Γ.W Γ.w0.heap.size:=⟨fj,fun b hb eB=>by
  simp only[aft]at eB;split at eB
  ·rename_i hs
   rcases gM.nw b hs eB with h|⟨s,z,h,_⟩
   ·exact .inl (by have:=hm.sz;omega)
   ·exact(hm.ow b _ h).2.1
  ·exact absurd hb eB⟩
 refine⟨_,rfl,aft Γ.St Sc S',G.back G' w.heap.size d rw nd,aI,?_⟩;have fS:∀b,b<w.heap.size→ ¬sB G rw b→w'.heap[b]? =w.heap[b]?:=gF.fr;have gp:w.heap.size≤w'.heap.size:=gF.sz;have gz:Blk w w':=gF.bk.blk
 generalize hGn:G.back G' w.heap.size d rw nd=Gn
 have ghdd:∀z,Gn.hd d z=zJN G' nd z:=fun z=>by rw[←hGn];simp[Gh.back]
 have gadd:∀z,Gn.ad d z=zMc G' nd z:=fun z=>by rw[←hGn];simp[Gh.back]
 have ghd0:∀s z,s≠d→s∉rw.map (·.2.1)→Gn.hd s z=G.hd s z:=fun s z h1 h2=>by rw[←hGn];simp[Gh.back,h1,zFL h2]
 have gad0:∀s z,s≠d→s∉rw.map (·.2.1)→Gn.ad s z=G.ad s z:=fun s z h1 h2=>by rw[←hGn];simp[Gh.back,h1,zFL h2]
 have gY:∀i s u,(i,s,u)∈rw→s≠d:=fun i s u h e=>fU.1 (e▸J7.2 ⟨_,h,rfl⟩)
 have ghdr:∀i s u z,(i,s,u)∈rw→Gn.hd s z=G'.hd i z:=fun i s u z h=>by rw[←hGn];simp[Gh.back,gY i s u h,kM rw fU.2 h]
 have gadr:∀i s u z,(i,s,u)∈rw→z≠[]→Gn.ad s z=G'.ad i z:=fun i s u z h h0=>by rw[←hGn];simp[Gh.back,gY i s u h,kM rw fU.2 h,h0]
 have gadr0:∀i s u,(i,s,u)∈rw→Gn.ad s []=G.ad s []:=fun i s u h=>by rw[←hGn];simp[Gh.back,gY i s u h,kM rw fU.2 h]
 have glb0:∀b o l,¬sB G rw b→G.lb b o=df l→Gn.lb b o=df l:=fun b o l h1 h2=>by have:=(hm.lb b o _ h2).1;rw[←hGn];simp only[Gh.back];rw[if_neg (by rintro(h|h);exact h1 h;omega)];exact h2
 have gow0:∀b l,¬sB G rw b→G.ow b=df l→Gn.ow b=df l:=fun b l h1 h2=>by have:=(hm.ow b _ h2).1;rw[←hGn];simp only[Gh.back];rw[if_neg (by rintro(h|h);exact h1 h;omega)];exact h2
 have gT:∀b o l,G'.lb b o=df l→sB G rw b∨w.heap.size≤b:=fun b o l h=>(gF.lb b o l h).2.1.symm
 have aF:∀b l,G'.ow b=df l→sB G rw b∨w.heap.size≤b:=fun b l h=>(gF.ow b l h).2.1.symm
 have glb1:∀b o fl s z s' z',G'.lb b o=df (fl,s,z)→zA1 d rw nd s z=df (s',z')→Gn.lb b o=df (fl,s',z'):=fun b o fl s z s' z' h1 h2=>by rw[←hGn];simp only[Gh.back];rw[if_pos (gT b o _ h1),h1];simp[h2]
 have gow1:∀b s z l,G'.ow b=df (s,z)→zA1 d rw nd s z=df l→Gn.ow b=df l:=fun b s z l h1 h2=>by rw[←hGn];simp only[Gh.back];rw[if_pos (aF b _ h1),h1];simp[h2]
 have bK:∀i s u z,(i,s,u)∈rw→zA1 d rw nd i z=df (s,z):=fun i s u z h=>by simp[zA1,zFK rw hn2 h]
 have gG:∀x∈rw,x.1<us.length:=fun x hx=>by have:=(Ja.1 (eu x hx)).1;omega
 have hbn:∀x∈nd,∀z,zA1 d rw nd x.1 z=ndB d nd x.1 z:=fun x hx z=>by have h1:=(eo x hx).2;have h2:rwS rw x.1=dg:=zJL (fun y hy e=>by have:=gG y hy;omega);simp[zA1,h2]
 have pe:∀(k:Nat) x,nd[k]? =df x→ ∃tgt,(nd.length=1→tgt=[])∧(nd.length≠1→tgt=[k])∧(∀z,Gn.hd d (z++tgt)=G'.hd x.1 (z++x.2.1))∧(∀z,Gn.ad d (z++tgt)=G'.ad x.1 (z++x.2.1))∧ ∀z,zA1 d rw nd x.1 (z++x.2.1)=df (d,z++tgt):=by
  intro k x hk;have pX:=Kk hk
  match nd,hk,ce,hbn x pX,ghdd,gadd with
  | [y],hk,ce,hb,ghdd,gadd=>
   have aA:y=x:=by
    cases k with
    |zero=>simpa using hk
    |succ k=>simp at hk
   subst aA;exact⟨[],fun _=>rfl,fun h=>absurd rfl h,fun z=>by rw[ghdd];simp[zJN],fun z=>by rw[gadd];simp[zMc],fun z=>by rw[hb];simp[ndB]⟩
  | [],hk,_,_,_,_=>simp at hk
  |y1::y2::r,hk,ce,hb,ghdd,gadd=>
   refine⟨[k],fun h=>by simp at h,fun _=>rfl,fun z=>by rw[ghdd];simp only[zJN,Gl,Gm];simp[hk],fun z=>by rw[gadd];simp only[zMc,Gl,Gm];simp[hk],fun z=>?_⟩;rw[hb];have:=zEe (y1::y2::r) ce (k0:=0) hk;rw[J8]at this;simp only[ndB,this];simp
 have cB:∀(k:Nat) x,nd[k]? =df x→ ∀tgt,(∀z,Gn.hd d (z++tgt)=G'.hd x.1 (z++x.2.1))→(∀z,Gn.ad d (z++tgt)=G'.ad x.1 (z++x.2.1))→(∀z,zA1 d rw nd x.1 (z++x.2.1)=df (d,z++tgt))→R (aft Γ.St Sc S') Gn w' d x.2.2 tgt:=by intro k x hk tgt h1 h2 h3;have pX:=Kk hk;obtain⟨c1,c2,c3⟩:=gy x.2.2 (by rw[←fa];exact J7.2 ⟨x,pX,rfl⟩);refine tE (G:=G') (w:=w') (s:=x.1) (p:=x.2.1) ⟨⟨h1,fun z _=>h2 z,fun b o f' z _ _ hl=>⟨glb1 b o f' _ _ _ _ hl (h3 z),rfl⟩,fun b z _ hl=>gow1 b _ _ _ hl (h3 z),fun b cs e h=>⟨cs,h,rfl⟩,by intros;assumption⟩,fun b o _ hl=>⟨glb1 b o dh _ _ _ _ hl (by simpa using h3 []),rfl⟩,fun b hl=>gow1 b _ _ _ hl (by simpa using h3 [])⟩ _ (yA.mono (fun _ _=>False.elim) _ c1) (c3 _ _ _ _ _ gM.le (eo x pX).1)
 have gw:uK (vA d rw) G w Gn w':=by
  have gD:∀s,(∀n,(s,n)∉vA d rw)→s≠d∧s∉rw.map (·.2.1):=fun s h=>⟨fun e=>h 0 (by simp[vA,e]),fun hm=>by obtain⟨x,hx,rfl⟩:=J7.1 hm;exact h _ (zDb hx)⟩
  have fQ:∀b s y,G.ow b=df (s,y)→s∉rw.map (·.2.1)→ ¬sB G rw b:=by
   rintro b s y h1 h2 ⟨s',z',h3,h4⟩
   rw[h1]at h3;simp at h3;exact h2 (h3.1▸h4)
  refine⟨fun s p h=>?_,fun s p h=>?_,fun b o fl s p gV h1 h2=>?_,fun b s p h1 h2=>?_,gz,fun b s p ms c h1 h2 hb=>by rw[fS b (hm.ow b _ h1).1 (fQ b s p h1 (gD s h2).2)];exact hb⟩
  ·have h1:s≠d:=fun e=>absurd (h 0 (by simp[vA,e])) (by simp)
   by_cases h2:s∈rw.map (·.2.1)
   ·
    obtain⟨x,hx,rfl⟩:=J7.1 h2;have hc:=h _ (zDb hx);have c2:x.2.2.single=dh:=by
     cases fL:x.2.2.single with
     |true=>rfl
     |false=>simp[cLv,fL]at hc
    have h3:p=[]:=Ji (by simp only[cLv,c2,if_true]at hc;omega);subst h3;obtain⟨_,_,u,c4,c5,c6⟩:=mH x hx;rw[c2]at c5;have c5:=c5.symm;obtain⟨_,u0,e1,e2⟩:=mG x.1 x.2.2 (J7.2 ⟨x,hx,rfl⟩);rw[c6]at e1;simp at e1;subst e1;rw[yM c2,yM c5]at e2;rw[ghdr x.1 x.2.1 x.2.2 [] hx,e2];simp[Gh.arg,eu x hx]
   ·exact ghd0 s p h1 h2
  ·have h1:s≠d:=fun e=>absurd (h 0 (by simp[vA,e])) (by simp)
   by_cases h2:s∈rw.map (·.2.1)
   ·obtain⟨x,hx,rfl⟩:=J7.1 h2
    have hc:=h _ (zDb hx);have h3:p=[]:=Ji (by have:cLv x.2.2≤1:=(by unfold cLv;split<;>omega);omega);subst h3;exact gadr0 x.1 x.2.1 x.2.2 hx
   ·exact gad0 s p h1 h2
  ·obtain⟨h3,h4⟩:=gD s h2
   obtain⟨y,hy⟩:=gV;have h5:=fQ b s y hy h4;exact⟨glb0 b o _ h5 h1,by simp[zT,World.cell?,fS b (hm.lb b o _ h1).1 h5]⟩
  ·obtain⟨h3,h4⟩:=gD s h2
   exact gow0 b _ (fQ b s p h1 h4) h1
 have gr:Mem (Γ.at (aft Γ.St Sc S')) Gn w':=by
  have gC:∀b,b<w'.heap.size∧(w.heap.size≤b∨sB G rw b)∧S' b=dg→sE (Γ.at (aft Γ.St Sc S')) w' b:=fun b ⟨hb,h,gB⟩=>by
   have hsc:Sc b=dg:=by
    cases hs:Sc b with
    |none=>rfl
    |some x=>rw[gM.le b x hs]at gB;cases gB
   refine⟨hb,?_,by simp only[aft,hsc];exact gB⟩;rcases h with h|⟨s,z,h1,_⟩
   ·exact .inl (by have:=hm.sz;show Γ.w0.heap.size≤b;omega)
   ·exact(hm.ow b _ h1).2.1
  have gj:∀b,¬(sB G rw b∨w.heap.size≤b)→sE Γ w b→sE (Γ.at (aft Γ.St Sc S')) w' b:=fun b h ⟨h1,h2,h3⟩=>by
   refine⟨by omega,h2,?_⟩;simp only[aft];split
   ·rename_i hs
    cases gB:S' b with
    |none=>rfl
    |some x=>
     rcases gM.nw b hs (by rw[gB];simp)with h4|h4
     ·exact absurd (.inr h4) h
     ·exact absurd (.inl h4) h
   ·exact h3
  refine⟨fun s z=>?_,fun b o l hl=>?_,fun b l hl=>?_,fun b x hx=>?_,fun b(h1:b<Γ.w0.heap.size) h2=>?_,Ke hm.sz gp,hm.bk.trans gz gF.bk.os gF.bk.out⟩
  ·by_cases h1:s=d
   ·subst h1
    rw[ghdd];unfold zJN;split
    ·exact gF.one _ _
    ·split
     ·split
      ·exact gF.one _ _
      ·rfl
     ·rfl
   ·by_cases h2:s∈rw.map (·.2.1)
    ·obtain⟨x,hx,rfl⟩:=J7.1 h2
     rw[ghdr x.1 x.2.1 x.2.2 z hx];exact gF.one _ _
    ·rw[ghd0 s z h1 h2];exact hm.one _ _
  ·rw[←hGn]at hl
   simp only[Gh.back]at hl;split at hl
   ·rename_i ch
    split at hl
    ·rename_i hg
     exact gC b (gF.lb b o _ hg)
    ·cases hl
   ·rename_i ch
    exact gj b ch (hm.lb b o l hl)
  ·rw[←hGn]at hl
   simp only[Gh.back]at hl;split at hl
   ·rename_i ch
    split at hl
    ·rename_i hg
     exact gC b (gF.ow b _ hg)
    ·cases hl
   ·rename_i ch
    exact gj b ch (hm.ow b l hl)
  ·simp only[aft]at hx
   split at hx
   ·exact gF.st b x hx
   have h1:=hm.st b x hx;have h2:=(K3.1 h1).1;have h3:¬sB G rw b:=by
    rintro⟨s,z,h4,_⟩
    rw[(hm.ow b _ h4).2.2]at hx;cases hx
   rw[fS b h2 h3];exact h1
  ·have h3:¬sB G rw b:=by
    rintro⟨s,z,h4,_⟩
    rcases(hm.ow b _ h4).2.1 with h5|h5
    ·omega
    ·exact h2 h5
   rw[fS b (by have:=hm.sz;omega) h3];exact hm.fr b h1 h2
 have ax:nd.length=res.length:=by rw[←fa];simp
 refine⟨gw,ga.up fj (by simp) gw gr ?_ ?_⟩
 ·intro s hs
  obtain⟨h1,h2⟩:=zJP hs;refine⟨fun n hn=>?_,by rw[J6];simp[Ne.symm h1]⟩;simp only[vA,Jh,Gz.injEq,J7]at hn;rcases hn with⟨e,_⟩|⟨x,hx,e,_⟩
  ·exact h1 e
  ·exact h2 (J7.2 ⟨x,hx,e⟩)
 ·intro s t hs
  rcases zJO hs with⟨rfl,ht⟩|⟨gf,i,u,fe,ht⟩
  ·simp at ht
   subst ht;rw[J6];simp only[ga.size,hd,if_true];have fx:res=nd.map (·.2.2):=fa.symm
   by_cases hl:nd.length=1
   ·obtain⟨x,hx⟩:∃x,nd=[x]:=List.length_eq_one_iff.1 hl
    obtain⟨tgt,t1,_,t3,t4,t5⟩:=pe 0 x (by simp[hx]);obtain rfl:=t1 hl;have hr:=cB 0 x (by simp[hx]) [] t3 t4 t5;obtain⟨c1,c2,_⟩:=gy x.2.2 (by rw[fx,hx];simp);have eT:zCu res=x.2.2:=by rw[fx,hx];rfl
    have gO:∀ys,x.2.2≠.tup ys:=fun ys e=>by rw[e]at c2;simp[T.okTup]at c2
    rw[eT];refine⟨?_,hr,Top.of_clean _ c1⟩;rw[uR Gn s _ [] gO,qQ x.2.2 x.2.1 [] t3,hx];rfl
   ·have eT:zCu res=.tup res:=by
     rw[ax]at hl
     match res,hl with
     | [],_=>rfl
     | [u],hl=>simp at hl
     |_::_::_,_=>rfl
    rw[eT];have gP:∀k x,nd[k]? =df x→ ∀z,Gn.hd s (z++[0+k])=G'.hd x.1 (z++x.2.1):=fun k x hk z=>by obtain⟨tgt,_,t2,t3,_,_⟩:=pe k x hk;rw[t2 hl]at t3;rw[J8];exact t3 z
    refine⟨?_,?_,?_⟩
    ·have hv:=zHV (Gn:=Gn) (G':=G') (d:=s) nd 0 gP
     rw[fa]at hv;simp only[mkV,hv];unfold zFH;split
     ·simp at hl
     ·rfl
    ·simp only[R]
     rw[fx];refine zHI _ [] 0 (fun k u hu=>?_);rw[Jf]at hu;cases hk:nd[k]? with
     |none=>simp[hk]at hu
     |some x=>
      simp[hk]at hu;subst hu;obtain⟨tgt,_,t2,t3,t4,t5⟩:=pe k x hk;rw[t2 hl]at t3 t4 t5;rw[J8];exact cB k x hk [k] t3 t4 t5
    ·simp only[Top]
     refine xV.of_clean _ ?_;have:∀us:List T,(∀u∈us,zK u)→yE us:=by
      intro us
      induction us with
      |nil=>intro _;trivial
      |cons u us ih=>intro h;exact⟨h u (by simp),ih fun v hv=>h v (by simp[hv])⟩
     exact this res fun u hu=>(gy u hu).1
  ·simp at ht
   subst ht;obtain⟨c1,c3,u0,c4,_,c6⟩:=mH _ fe;obtain⟨r1,u1,e1,e2⟩:=mG i t (J7.2 ⟨_,fe,rfl⟩);simp only at c4 c6;rw[c6]at e1;simp at e1;subst e1;refine⟨?_,?_,Top.of_clean _ c1⟩
   ·rw[J6]
    simp only[Ne.symm gf,if_false];have hxi:=eu _ fe;simp only at hxi;have m1:mkV Gn s t []=mkV G' i t []:=zCG t [] [] (fun z=>by rw[J9];exact ghdr i s t z fe);have m2:mkV (G.arg a xs rw) i u0 []=mkV G s u0 []:=zCG u0 [] [] (fun z=>by simp[Gh.arg,hxi]);rw[(ga.ent s u0 c4).1,m1,e2,m2]
   ·refine tE (G:=G') (w:=w') (s:=i) (p:=[]) ⟨⟨fun z=>by rw[J9];exact ghdr i s t z fe,fun z hz=>by rw[J9];exact gadr i s t z fe hz,fun b o f' z _ _ hl=>?_,fun b z _ hl=>?_,fun b cs e h=>⟨cs,h,rfl⟩,by intros;assumption⟩,fun b o _ hl=>⟨glb1 b o dh _ _ _ _ hl (bK i s t [] fe),rfl⟩,fun b hl=>gow1 b _ _ _ hl (bK i s t [] fe)⟩ t (yA.mono (fun _ _=>False.elim) _ c1) (c3 _ _ _ _ _ gM.le r1)
    ·rw[J9]at hl ⊢;exact⟨glb1 b o f' _ _ _ _ hl (bK i s t z fe),rfl⟩
    ·rw[J9]at hl ⊢;exact gow1 b _ _ _ hl (bK i s t z fe)
end
end Go.Ab

namespace Go.Ab
open Go
def zJQ(E:Env)(rs:List Nat)(x:Operand)(t:T):Bool:=
 match x with
 |.tmp s=>vJ E rs s t
 |_=>dh
def jQ(E:Env)(rw:Rw)(i:Nat)(x:Operand)(u:T):Prop:=
 (∃s u',x=.tmp s∧(i,s,u')∈rw∧E s=df u∧zK u∧u.okTup=dh∧xF u=dh)∨(∃t,opT E x=df t∧clo E t=u∧zJQ E (rw.map (·.2.1)) x t=dh)
def xG(E:Env)(rw:Rw):Nat→List Operand→List T→Prop
 |_,[],[]=>True
 |i,x::xs,u::us=>jQ E rw i x u∧xG E rw (i+1) xs us
 |_,_,_=>False
theorem xG.length{E:Env}{rw:Rw}:(xs:List Operand)→(us:List T)→ ∀i,xG E rw i xs us→xs.length=us.length
 | [],[],_,_=>rfl
 |_::xs,_::us,i,h=>by simp[xG.length xs us (i+1) h.2]
 | [],_::_,_,h=>by simp[xG]at h
 |_::_,[],_,h=>by simp[xG]at h
theorem xG.get{E:Env}{rw:Rw}:(xs:List Operand)→(us:List T)→ ∀i,xG E rw i xs us→ ∀(j:Nat) u,us[j]? =df u→ ∃x,xs[j]? =df x∧jQ E rw (i+j) x u
 | [],[],_,_,_,_,h=>by simp at h
 |x::xs,v::us,i,h,j,u,hj=>by
  cases j with
  |zero=>simp at hj;subst hj;exact⟨x,by simp,h.1⟩
  |succ j=>
   obtain⟨y,h1,h2⟩:=xG.get xs us (i+1) h.2 j u (by simpa using hj);exact⟨y,by simpa using h1,by rwa [show i+(j+1)=i+1+j from by omega]⟩
 | [],_::_,_,h,_,_,_=>by simp[xG]at h
 |_::_,[],_,h,_,_,_=>by grind
structure zDc (E:Env) (d:Nat) (xs:List Operand) (us:List T) (rw:Rw):Prop where
 nodup:(d::rw.map (·.2.1)).Nodup
 nodup2:(rw.map (·.1)).Nodup
 at_:∀x∈rw,xs[x.1]? =df (.tmp x.2.1)
 tree:∀x∈rw,zK x.2.2∧xF x.2.2=dh∧ ∃u,E x.2.1=df u∧x.2.2.single=u.single∧us[x.1]? =df u
theorem zDc.nil{E:Env}{d:Nat}{xs:List Operand}{us:List T}:zDc E d xs us []:=⟨by simp,by simp,by simp,by simp⟩
theorem zDc.one{E:Env}{d i s:Nat}{u u':T}{xs:List Operand}{us:List T}(h1:d≠s)(h2:xs[i]? =df (.tmp s))(h3:zK u')(h4:u'.single=dh)(h5:xF u'=dh)(h6:E s=df u)(h7:u.single=dh)(h8:us[i]? =df u):
  zDc E d xs us [(i,s,u')]:=⟨by grind,by simp,by grind,by grind⟩
theorem zDc.one'{E:Env}{d i s:Nat}{u u':T}{xs:List Operand}{us:List T}(h1:d≠s)(h2:xs[i]? =df (.tmp s))(h3:zK u')(h4:u'.single=u.single)(h5:xF u'=dh)(h6:E s=df u)(h8:us[i]? =df u):
  zDc E d xs us [(i,s,u')]:=⟨by grind,by simp,by grind,by grind⟩
section
variable {P:Program}{Γ:Ctx}{E:Env}{o:Oper}{d:Nat}
theorem zMd{G:Gh}{a:Act}{w:World}(ga:Rep Γ E G a.tmps w){rw:Rw}{xs:List Operand}{us:List T}(hr:zDc E d xs us rw){Sc:Stb}(ek:∀b x,Γ.St b=df x→Sc b=df x)
  (el:∀r,r∉rw.map (·.2.1)→ ∀b,(∃y,G.ow b=df (r,y))→Sc b=w.heap[b]?){i:Nat}{x:Operand}{u:T}(hx:xs[i]? =df x)(hu:us[i]? =df u)(h:jQ E rw i x u):
  a.eval x=mkV (G.arg a xs rw) i u []∧R Sc (G.arg a xs rw) w i u []:=by
 rcases h with⟨s,u',rfl,h1,h2,h3,h4,h5⟩|⟨t,h1,rfl,h3⟩
 ·obtain⟨e1,e2,_⟩:=ga.ent s u h2
  have gP:∀z,(G.arg a xs rw).hd i z=G.hd s z:=by grind[Gh.arg]
  have pN:∀z,(G.arg a xs rw).ad i z=G.ad s z:=by grind[Gh.arg]
  have hi:=kM rw (K0.1 hr.nodup).2 h1;refine⟨by grind[xH,zCG],?_⟩;refine zIE u [] h5 (tE (St:=Γ.St) (G:=G) (w:=w) (s:=s) (p:=[]) ⟨⟨by grind,by grind,fun b o' f' z _ gV hl=>?_,fun b z _ hl=>?_,fun b cs e h=>⟨cs,h,rfl⟩,by intros;assumption⟩,fun b o' gV hl=>?_,fun b hl=>?_⟩ u (by grind[yA.mono]) e2)
  ·obtain⟨y,hy⟩:=gV
   exact⟨by grind[Gh.arg],rfl⟩
  ·grind[Gh.arg]
  ·obtain⟨y,hy⟩:=gV
   exact⟨by grind[Gh.arg],rfl⟩
  grind[Gh.arg]
 ·cases x with
  |tmp s=>
   have gP:∀z,(G.arg a xs rw).hd i z=G.hd s z:=by grind[Gh.arg]
   obtain⟨e1,e2,_⟩:=ga.ent s t h1
   grind[zJQ,xH,zHT,zNg]
  |const v=>
   simp only[opT]at h1;split at h1
   ·rename_i gv
    simp at h1;subst h1;have gP:(G.arg a xs rw).hd i []=v:=by grind[Gh.arg,Act.eval,sG]
    exact⟨by grind[clo,mkV,Act.eval],by simp[clo,R,gP]⟩
   ·cases h1
  |func f=>
   simp only[opT]at h1;simp at h1;subst h1;have gP:(G.arg a xs rw).hd i []=.func (.func f) #[] #[]:=by grind[Gh.arg,Act.eval,uT,Value.oneCell']
   exact⟨by grind[clo,mkV,Act.eval],by simp[clo,R,gP]⟩
  |global g=>grind[opT]
theorem zB6{E:Env}:(t:T)→t.flat=dh→(∀rs s,vJ E rs s t=dh)∧clo E t=t
 |.lit _,_|.ro _,_=>by simp[vJ,clo]
 |.agg ts,h=>by
  simp only[T.flat]at h;have:=go ts h
  grind[vJ,clo]
 |.any,h|.same _ _,h|.addr _ _,h|.sub _ _ _ _ _,h|.sl _ _,h|.ptr _,h|.mp _ _,h|.tup _,h=>by grind[T.flat]
where go:(ts:List T)→tC ts=dh→(∀rs s,tR E rs s ts=dh)∧qG E ts=ts
 | [],_=>by simp[tR,qG]
 |x::xs,h=>by simp only[tC,J2]at h;simp only[tR,qG,J2];exact⟨fun rs s=>⟨(zB6 x h.1).1 rs s,(go xs h.2).1 rs s⟩,by rw[(zB6 x h.1).2,(go xs h.2).2]⟩
theorem zBk{a:Act}{w:World}{K:Act→World→Prop}{Q:Exit→Act→World→Prop}{f:FuncId}{xf:Operand}{xs:List Operand}{ats:Array TypeId}(ho:o.op=.call { callee:=.value xf,args:=xs.toArray,argTypes:=ats })(gb:o.dst=df d)
  (gu:∀args w,(callFunc f args).run P w=.ok (.enter f args) w)(hf:a.eval xf=.func (.func f) #[] #[])
  (h:Calls P f (xs.map a.eval).toArray w fun e w'=> ∃v,e=.returned v∧K (a.put (df d) v) w'):o.wp P a w K Q:=by
 have gm:(execOp a.eval o).run P w=.ok (.enter f (xs.map a.eval).toArray) w:=by simp[execOp,ho,resolve,hf,Deferred.ofValue,invoke,gu]
 unfold Oper.wp;rw[gm,Oper.upon_enter];refine h.mono ?_
 grind
theorem zDd{G:Gh}{a:Act}{w:World}(ga:Rep Γ E G a.tmps w)(hd:d<Γ.N)(f:FuncId)(xs:List Operand)(us res:List T)(rw:Rw)
  (hc:FnC P f us res (rw.map fun x=>(x.1,x.2.2)))(gk:xG E rw 0 xs us)(hr:zDc E d xs us rw)(gy:yE res∧zY res=dh∧xW res=dh):
  Calls P f (xs.map a.eval).toArray w fun e w'=> ∃v,e=.returned v∧ ∃S G',zBa Γ.St S Γ.W Γ.w0.heap.size∧uK (vA d rw) G w G' w'∧Rep (Γ.at S) (E.app (cWr d res rw) (vA d rw)) G' (a.tmps.setIfInBounds d v) w':=by
 classical
 have hm:=ga.mem
 let Sc:Stb:=fun b=>if sB G rw b then dg else w.heap[b]?
 have ek:∀b x,Γ.St b=df x→Sc b=df x:=fun b x hx=>by
  have h3:¬sB G rw b:=by
   rintro⟨s,z,h4,_⟩
   rw[(hm.ow b _ h4).2.2]at hx;cases hx
  simp only[Sc,h3,if_false];exact hm.st b x hx
 have el:∀r,r∉rw.map (·.2.1)→ ∀b,(∃y,G.ow b=df (r,y))→Sc b=w.heap[b]?:=fun r bA b ⟨y,hy⟩=>by
  have h3:¬sB G rw b:=by
   rintro⟨s,z,h4,h5⟩
   grind
  grind
 have fJ:∀(us:List T),yE us∧zY us=dh∧xW us=dh→ ∀u∈us,zK u∧u.okTup=dh∧xF u=dh:=by
  intro us
  induction us with
  |nil=>simp
  |cons v us ih=>
   intro⟨h1,h2,h3⟩ u hu;simp only[zY,xW,J2]at h2 h3;rcases Jh.1 hu with rfl|hu
   ·exact⟨h1.1,h2.1,h3.1⟩
   ·exact ih ⟨h1.2,h2.2,h3.2⟩ u hu
 exact zFM ga hd (Sc:=Sc) (rw:=rw) (by grind) ek hc (xG.length xs us 0 gk) (fun i u hu=>by
   obtain⟨x,h1,h2⟩:=xG.get xs us 0 gk i u hu;rw[J8]at h2
   grind[zMd]) hr.nodup hr.nodup2 hr.at_
  (by grind[zIE])
  (fun x hx=>by
   obtain⟨h1,h3,h4⟩:=hr.tree x hx
   grind[zIE])
theorem zMe(f:FuncId)(xf:Operand)(xs:List Operand)(ats:Array TypeId)(us res:List T)(rw:Rw)(ho:o.op=.call { callee:=.value xf,args:=xs.toArray,argTypes:=ats })(gb:o.dst=df d)(hd:d<Γ.N)
  (gu:∀args w,(callFunc f args).run P w=.ok (.enter f args) w)(hf:opT E xf=df (.lit (.func (.func f) #[] #[])))
  (hc:FnC P f us res (rw.map fun x=>(x.1,x.2.2)))(gk:xG E rw 0 xs us)(hr:zDc E d xs us rw)(gy:yE res∧zY res=dh∧xW res=dh):
  yN P Γ o E (E.app (cWr d res rw) (vA d rw)):=by
 intro a w K Q ⟨gR,G,ga⟩ hK;refine zBk ho gb gu (yV ga hf).1 ?_;refine(zDd ga hd f xs us res rw hc gk hr gy).mono ?_
 rintro e w' ⟨v,rfl,S,G',hS,_,gg⟩
 exact⟨v,rfl,hK _ _ ⟨S,hS,gR,G',gg⟩⟩
theorem zFN(f:FuncId)(xf:Operand)(xs:List Operand)(ats:Array TypeId)(us res:List T)(i ds r:Nat)(q:List Nat)(tr u u':T)(ho:o.op=.call { callee:=.value xf,args:=xs.toArray,argTypes:=ats })(gb:o.dst=df d)(hd:d<Γ.N)
  (gu:∀args w,(callFunc f args).run P w=.ok (.enter f args) w)(hf:opT E xf=df (.lit (.func (.func f) #[] #[])))
  (hs:E ds=df (.same r q))(hr:E r=df tr)(hq:tr.get q.reverse=df u)(hu:u.single=dh)(ef:zK u)(gJ:ds≠r)(hdr2:d≠r)(gC:tr.okB [(ds,1),(r,q.length+1)]=dh)(fL:yW tr=dh)
  (E1 E2:Env)(bu:E1=E.app [(ds,df u),(r,df (if q=[]then .same ds []else tr.set q.reverse .any))] [(ds,1),(r,q.length+1)])(dc:E2=E1.app (cWr d res [(i,ds,u')]) (vA d [(i,ds,u')]))
  (hc:FnC P f us res [(i,u')])(gk:xG E1 [(i,ds,u')] 0 xs us)(fe:zDc E1 d xs us [(i,ds,u')])(gy:yE res∧zY res=dh∧xW res=dh)
  (tr2 v0:T)(ag:E2 r=df tr2)(eb:tr2.get q.reverse=df v0)(fp:v0.single=dh)(pk:E2 ds=df u')(eE:zK u')(tk:u'.single=dh)(cb:tr2.okB [(r,q.length+1),(ds,1)]=dh)(hc3:yW tr2=dh)(hok3:u'.okB [(r,q.length+1),(ds,1)]=dh)(hc4:yW u'=dh):
  yN P Γ o E (E2.app [(r,df (tr2.set q.reverse u')),(ds,df (.same r q))] [(r,q.length+1),(ds,1)]):=by
 have hlv:cLv u'=1:=by grind[cLv]
 intro a w K Q ⟨gR,G,ga⟩ hK;refine zBk ho gb gu (yV ga hf).1 ?_;have gS:G.hd ds []=G.hd r q:=by have:=(ga.ent ds _ hs).2.1;simpa only[R]using this
 obtain⟨cD,hhd1⟩:=zCS ga ds [] r q (.same r q) tr u (.same r q) hs rfl rfl gS hr hq hu ef gJ (by grind[T.okB,zCE]) (by omega) rfl fL;have de:E.app [(ds,df ((T.same r q).set [].reverse u)),(r,df (if q=[]then .same ds []else tr.set q.reverse .any))] [(ds,([]:List Nat).length+1),(r,q.length+1)]=E1:=by rw[bu];rfl
 rw[de]at cD;refine(zDd cD hd f xs us res [(i,ds,u')] hc gk fe gy).mono ?_
 rintro e w' ⟨v,rfl,S,G',hS,hk,gg⟩
 rw[←dc]at gg;have hdds:d≠ds:=by have:=fe.nodup;grind
 have h1:G'.hd r q=(G.tr ds [] r q).hd r q:=hk.hd r q (fun n hn=>by grind[vA]);have h2:G'.hd ds []=(G.tr ds [] r q).hd ds []:=hk.hd ds [] (fun n hn=>by grind[vA]);have pj:G'.hd r q=G'.hd ds []:=by grind
 obtain⟨cC,_⟩:=zCS gg r q ds [] tr2 u' u' v0 ag eb fp pj pk rfl tk eE (Ne.symm gJ) (by omega) (by omega) hc3 hc4;refine⟨v,rfl,hK _ _ ⟨S,hS,gR,G'.tr r q ds [],?_⟩⟩;have hw:(if([]:List Nat)=[]then T.same r q else u'.set ([]:List Nat).reverse .any)=T.same r q:=if_pos rfl;rw[hw]at cC;exact cC
theorem zJR(f:FuncId)(xf:Operand)(xs:List Operand)(ats:Array TypeId)(us res:List T)(ho:o.op=.call { callee:=.value xf,args:=xs.toArray,argTypes:=ats })(gb:o.dst=df d)(hd:d<Γ.N)
  (gu:∀args w,(callFunc f args).run P w=.ok (.enter f args) w)(hf:opT E xf=df (.lit (.func (.func f) #[] #[])))
  (hc:FnC P f us res [])(gn:xs.length=us.length)(gk:∀(i:Nat) u,us[i]? =df u→ ∃x,xs[i]? =df x∧opT E x=df u∧u.flat=dh)(gy:yE res∧zY res=dh):
  yN P Γ o E (E.app (cWr d res []) (vA d [])):=by
 intro a w K Q ⟨gR,G,ga⟩ hK;have hm:=ga.mem;refine zBk ho gb gu (yV ga hf).1 ?_;have fQ:∀b,¬sB G [] b:=by rintro b ⟨s,z,_,h⟩;simp at h
 have fJ:∀(us:List T),yE us∧zY us=dh→ ∀u∈us,zK u∧u.okTup=dh:=by
  intro us
  induction us with
  |nil=>simp
  |cons v us ih=>
   intro⟨h1,h2⟩ u hu;simp only[zY,J2]at h2;rcases Jh.1 hu with rfl|hu
   ·exact⟨h1.1,h2.1⟩
   ·exact ih ⟨h1.2,h2.2⟩ u hu
 have:=zFM ga hd (Sc:=Γ.St) (rw:=[]) (fun b x hx=>⟨hm.st b x hx,fQ b⟩) (fun _ _ h=>h) hc gn (fun i u hu=>by
   obtain⟨x,h1,h2,h3⟩:=gk i u hu;refine⟨x,h1,?_⟩;have hfl:=zB6 (E:=E) u h3;cases x with
   |tmp s=>
    have gP:∀z,(G.arg a xs []).hd i z=G.hd s z:=by grind[Gh.arg]
    obtain⟨e1,e2,_⟩:=ga.ent s u h2;refine⟨?_,by grind[zGP]⟩;have:=zHT (E:=E) gP u (hfl.1 [] s)
    grind[xH]
   |const v=>
    simp only[opT]at h2;split at h2
    ·rename_i gv
     simp at h2;subst h2;have gP:(G.arg a xs []).hd i []=v:=by grind[Gh.arg,Act.eval,sG]
     exact⟨by grind[mkV,Act.eval],by simp[R,gP]⟩
    ·cases h2
   |func f=>
    simp only[opT]at h2;simp at h2;subst h2;have gP:(G.arg a xs []).hd i []=.func (.func f) #[] #[]:=by grind[Gh.arg,Act.eval,uT,Value.oneCell']
    exact⟨by grind[mkV,Act.eval],by simp[R,gP]⟩
   |global g=>grind[opT]) (by simp) (by simp) (by simp)
  (fun u hu=>⟨by grind,by grind,fun S' G w s p hS h=>by
   have:aft Γ.St Γ.St S'=S':=funext (by grind[aft])
   grind⟩) (by simp)
 refine this.mono ?_
 rintro e w' ⟨v,rfl,S,G',hS,_,gg⟩
 exact⟨v,rfl,hK _ _ ⟨S,hS,gR,G',gg⟩⟩
end
end Go.Ab

namespace Go.Ab
open Go
def xT:List (Nat×T)→Env
 | [],_=>dg
 |(k,t)::l,s=>if k=s then df t else xT l s
def Env.Has(E:Env):List (Nat×T)→Prop
 | []=>True
 |(s,t)::l=>E s=df t∧E.Has l
theorem Env.Has.le{E:Env}:{l:List (Nat×T)}→E.Has l→ ∀s t,xT l s=df t→E s=df t
 | [],_,s,t,h=>by grind[xT]
 |(k,u)::l,hh,s,t,h=>by
  simp only[xT]at h;split at h
  ·rename_i e
   subst e;rw[hh.1];exact h
  ·exact hh.2.le s t h
theorem Sim.weaken{Γ:Ctx}{E E':Env}{a:Act}{w:World}(h:Sim Γ E a w)(eC:∀s t,E' s=df t→E s=df t):Sim Γ E' a w:=by obtain⟨h1,G,h2⟩:=h;exact⟨h1,G,⟨h2.size,fun s t hs=>h2.ent s t (eC s t hs),h2.mem⟩⟩
theorem uB.weaken{Γ:Ctx}{E E':Env}{a:Act}{w:World}(h:uB Γ E a w)(eC:∀s t,E' s=df t→E s=df t):uB Γ E' a w:=by obtain⟨S,h1,h2⟩:=h;exact⟨S,h1,h2.weaken eC⟩
abbrev vV:=List (Nat×Value)
def vV.Hold(pn:vV)(a:Act):Prop:=∀x∈pn,a.tmps[x.1]? =df x.2
def vV.ok(pn:vV)(d:Option Nat):Bool:=match d with
 |none=>dh
 |some d=>pn.all fun x=>x.1 != d
theorem Oper.wp_frame{P:Program}{o:Oper}{a:Act}{w:World}{K:Act→World→Prop}{Q:Exit→Act→World→Prop}(h:o.wp P a w K Q):
  o.wp P a w (fun a' w'=>K a' w'∧ ∀s,o.dst≠df s→a'.tmps[s]? =a.tmps[s]?) Q:=by
 have key:∀(v:Value)(ds:List Deferred),∀s,o.dst≠df s→(({ a with defers:=ds }:Act).put o.dst v).tmps[s]? =a.tmps[s]?:=by
  intro v ds s hs;cases hd:o.dst with
  |none=>rfl
  |some d=>
   grind[Act.put]
 have key0:∀(v:Value),∀s,o.dst≠df s→(a.put o.dst v).tmps[s]? =a.tmps[s]?:=fun v=>key v a.defers
 unfold Oper.wp at*
 generalize (execOp a.eval o).run P w=r at*
 cases r with
 |ok n w'=>
  cases n<;>simp only[Oper.upon]at h ⊢
  all_goals grind
 |halt x w'=>cases x<;>simp only[Oper.upon]at h ⊢ <;>exact h
theorem vV.Hold.frame{pn:vV}{a a':Act}{d:Option Nat}(h:pn.Hold a)(gC:pn.ok d=dh)(hf:∀s,d≠df s→a'.tmps[s]? =a.tmps[s]?):pn.Hold a':=by
 intro x hx;rw[hf x.1 ?_]
 ·exact h x hx
 ·rintro rfl
  have:=Jm.1 gC x hx
  grind
section
variable (P:Program) (Γ:Ctx) (pn:vV)
def CW(c:Code)(E:Env)(Q:Exit→Env→Prop):Prop:=
 ∀(a:Act)(w:World)(Q':Exit→Act→World→Prop),uB Γ E a w→pn.Hold a→(∀e E' a' w',Q e E'→uB Γ E' a' w'→pn.Hold a'→Q' e a' w')→c.wp P Q' a w
def xQ(ops:Array Oper)(o:Oper)(E E':Env):Prop:=
 ∀(a:Act)(w:World)(K:Act→World→Prop)(Q:Exit→Act→World→Prop),uB Γ E a w→(∀a' w',uB Γ E' a' w'→(∀s,o.dst≠df s→a'.tmps[s]? =a.tmps[s]?)→K a' w')→
  if Region.wanted o (yielded ops a.tmps)then o.wp P a w K Q∨(o.asks P a w∧LetsOut Q)else K (a.put o.dst undef) w
def wpL(ops:Array Oper)(Q:Exit→Act→World→Prop):List Oper→Act→World→Prop
 | [],a,w=>Q .normal a w
 |o::os,a,w=>if Region.wanted o (yielded ops a.tmps)then o.wp P a w (wpL ops Q os) Q∨(o.asks P a w∧LetsOut Q)else wpL ops Q os (a.put o.dst undef) w
def RW(ops:Array Oper)(os:List Oper)(E:Env)(Q:Exit→Env→Prop):Prop:=
 ∀(a:Act)(w:World)(Q':Exit→Act→World→Prop),uB Γ E a w→pn.Hold a→(∀e E' a' w',Q e E'→uB Γ E' a' w'→pn.Hold a'→Q' e a' w')→wpL P ops Q' os a w
end
section
variable {P:Program}{Γ:Ctx}{pn:vV}{E E':Env}{Q Q1:Exit→Env→Prop}{c c1 c2:Code}{ops:Array Oper}{o:Oper}{os:List Oper}{d:Nat}
theorem zES{Q':Exit→Act→World→Prop}:∀(os:List Oper)(n:Nat)(a:Act)(w:World),ops.toList.drop n=os→wpL P ops Q' os a w→wpOps P ops Q' (Ht n os.length) a w
 | [],n,a,w,_,h=>by simpa[wpOps,wpL]using h
 |o::os,n,a,w,hd,h=>by
  have ho:ops[n]? =df o:=by
   have:=congrArg (·[0]?) hd
   grind
  have cW:ops.toList.drop (n+1)=os:=by
   have:=congrArg List.tail hd
   grind[List.tail_drop]
  simp only[Jn,Uz,wpOps,ho];simp only[wpL]at h;split
  ·rename_i hw
   simp only[hw,if_true]at h;exact h.imp (Oper.wp_mono fun a w=>zES os (n+1) a w cW) id
  ·rename_i hw
   simp only[hw]at h;exact zES os (n+1) _ w cW h
theorem CW.region{id:Nat}(h:RW P Γ pn ops ops.toList E Q):CW P Γ pn (.region id ops di) E Q:=by
 intro a w Q' hs hp hQ;refine wp_region ?_;have:=zES (P:=P) ops.toList 0 a w (by simp) (h a w Q' hs hp hQ)
 grind[List.range_eq_range']
theorem RW.nil(h:Q .normal E):RW P Γ pn ops [] E Q:=fun a w Q' hs hp hQ=>by
 simp only[wpL]
 grind
theorem RW.cons(h1:xQ P Γ ops o E E')(h3:RW P Γ pn ops os E' Q)(h2:pn.ok o.dst=dh:=by rfl):RW P Γ pn ops (o::os) E Q:=by
 intro a w Q' hs hp hQ;simp only[wpL];have:=h1 a w (wpL P ops Q' os) Q' hs fun a' w' gB hf=>h3 a' w' Q' gB (hp.frame h2 hf) hQ
 exact this
theorem xQ.op(h:∀S,yN P (Γ.at S) o E E')(hg:o.guard=dg:=by rfl):xQ P Γ ops o E E':=by
 intro a w K Q hs hK;have hw:Region.wanted o (yielded ops a.tmps)=dh:=by simp[Region.wanted,hg]
 rw[if_pos hw];refine .inl ?_;obtain⟨S,hS,hs⟩:=hs;have:=Oper.wp_frame (h S a w (fun a' w'=>uB Γ E' a' w') Q hs fun a' w' h=>h.up hS)
 grind[Oper.wp_mono]
theorem zDe{a:Act}{w:World}(hs:uB Γ E a w){g s:Nat}{b:Bool}(ep:(ops[g]?).bind (·.dst)=df s)(h:E s=df (.lit (.bool b))):yielded ops a.tmps g=df b:=by
 obtain⟨_,_,_,G,hr⟩:=hs;obtain⟨h1,h2,_⟩:=hr.ent s _ h;simp only[R]at h2
 grind[yielded,mkV]
theorem xQ.guard(g:Nat)(b:Bool)(s:Nat)(h:∀S,yN P (Γ.at S) o E E')(hg:o.guard=df (g,b):=by rfl)(ep:(ops[g]?).bind (·.dst)=df s:=by rfl)(hb:E s=df (.lit (.bool b)):=by rfl):xQ P Γ ops o E E':=by
 intro a w K Q hs hK;have hw:Region.wanted o (yielded ops a.tmps)=dh:=by grind[Region.wanted,zDe]
 rw[if_pos hw];refine .inl ?_;obtain⟨S,hS,hs⟩:=hs;have:=Oper.wp_frame (h S a w (fun a' w'=>uB Γ E' a' w') Q hs fun a' w' h=>h.up hS)
 grind[Oper.wp_mono]
def zF(Γ:Ctx)(E E':Env):Prop:=∀(a:Act)(w:World),uB Γ E a w→uB Γ E' a w
theorem zF.refl:zF Γ E E:=fun _ _ h=>h
theorem zF.trans{E1 E2 E3:Env}(h:zF Γ E1 E2)(h':zF Γ E2 E3):zF Γ E1 E3:=fun a w hs=>h' a w (h a w hs)
theorem zF.has{l:List (Nat×T)}(h:E.Has l):zF Γ E (xT l):=fun _ _ hs=>hs.weaken h.le
theorem CW.ghost(h1:zF Γ E E')(h:CW P Γ pn c E' Q):CW P Γ pn c E Q:=fun a w Q' hs=>h a w Q' (h1 a w hs)
theorem RW.ghost(h1:zF Γ E E')(h:RW P Γ pn ops os E' Q):RW P Γ pn ops os E Q:=fun a w Q' hs=>h a w Q' (h1 a w hs)
theorem CW.to(l:List (Nat×T))(h1:E.Has l)(h:CW P Γ pn c (xT l) Q):CW P Γ pn c E Q:=h.ghost (.has h1)
theorem CW.mono(h:CW P Γ pn c E Q1)(hq:∀e E',Q1 e E'→Q e E'):CW P Γ pn c E Q:=fun a w Q' hs hp hQ=>h a w Q' hs hp (by grind)
theorem CW.skip(h:Q .normal E):CW P Γ pn .skip E Q:=fun _ _ _ hs hp hQ=>by grind[wp_skip]
theorem CW.ret(h:Q .ret E):CW P Γ pn .ret E Q:=fun _ _ _ hs hp hQ=>by grind[wp_ret]
theorem CW.exit{id:Nat}(h:Q (.exit id) E):CW P Γ pn (.exit id) E Q:=fun _ _ _ hs hp hQ=>by grind[wp_exit]
def zW(P:Program)(Γ:Ctx)(pn:vV)(c:Code)(Q:Exit→Env→Prop):Exit→Env→Prop
 |.normal,E=>CW P Γ pn c E Q
 |e,E=>Q e E
theorem CW.seq(h:CW P Γ pn c1 E (zW P Γ pn c2 Q)):CW P Γ pn (.seq c1 c2) E Q:=by
 intro a w Q' hs hp hQ;refine wp_seq (h a w _ hs hp fun e E' a' w' h1 gB eR=>?_);cases e with
 |normal=>exact h1 a' w' Q' gB eR hQ
 |_=>exact hQ _ _ _ _ h1 gB eR
theorem CW.cond{x:Operand}(b:Bool)(hb:opT E x=df (.lit (.bool b)))(ht:b=dh→CW P Γ pn c1 E Q)(hf:b=di→CW P Γ pn c2 E Q):CW P Γ pn (.cond x c1 c2) E Q:=by intro a w Q' hs hp hQ;obtain⟨_,_,_,G,hr⟩:=id hs;refine wp_cond_split (yV hr hb).1 (fun h=>ht h a w Q' hs hp hQ) (fun h=>hf h a w Q' hs hp hQ)
def yB(id:Nat)(Q:Exit→Env→Prop):Exit→Env→Prop
 |.exit id',E=>if id'=id then Q .normal E else Q (.exit id') E
 |e,E=>Q e E
theorem CW.block{id:Nat}(h:CW P Γ pn c E (yB id Q)):CW P Γ pn (.block id c) E Q:=by
 intro a w Q' hs hp hQ;refine wp_block (h a w _ hs hp fun e E' a' w' h1 gB eR=>?_);cases e with
 |exit id'=>
  simp only[yB]at h1;simp only[Exit.inBlock]
  grind
 |_=>exact hQ _ _ _ _ h1 gB eR
end
def uD{σ ρ:Type}(body:σ→Option (σ⊕ρ)):Nat→σ→Option ρ
 |0,_=>dg
 |n+1,s=>match body s with
  |none=>dg
  |some (.inl s')=>uD body n s'
  |some (.inr r)=>df r
theorem zDf{σ ρ:Type}{body:σ→Option (σ⊕ρ)}{r:ρ}:∀{n m:Nat}{s:σ},uD body n s=df r→n≤m→uD body m s=df r
 |0,_,_,h,_=>by grind[uD]
 |n+1,0,_,_,hm=>by omega
 |n+1,m+1,s,h,hm=>by
  simp only[uD]at h ⊢
  cases hb:body s with
  |none=>grind
  |some x=>
   cases x with
   |inl s'=>simp only[hb]at h ⊢;exact zDf h (by omega)
   |inr r'=>grind
open Classical in
noncomputable def zC {σ ρ:Type} (body:σ→Option (σ⊕ρ)) (s:σ):Option ρ:=
 if h:∃(n:Nat)(r:ρ),uD body n s=df r then df h.choose_spec.choose else dg
theorem zAF{σ ρ:Type}{body:σ→Option (σ⊕ρ)}{s:σ}{r:ρ}:zC body s=df r↔ ∃n,uD body n s=df r:=by
 unfold zC;constructor
 ·intro h
  split at h
  all_goals grind
 ·rintro⟨n,hn⟩
  have he:∃(n:Nat)(r:ρ),uD body n s=df r:=⟨n,r,hn⟩;rw[dif_pos he]
  grind[zDf]
theorem zM{σ ρ:Type}(body:σ→Option (σ⊕ρ))(s:σ):zC body s=match body s with
  |none=>dg
  |some (.inl s')=>zC body s'
  |some (.inr r)=>df r:=by
 apply Option.ext;intro r;rw[zAF];cases hb:body s with
 |none=>
  simp only[reduceCtorEq,iff_false]
  rintro⟨n,hn⟩
  cases n<;>simp[uD,hb]at hn
 |some x=>
  cases x with
  |inl s'=>
   simp only[];rw[zAF];constructor
   ·rintro⟨n,hn⟩
    cases n with
    |zero=>grind[uD]
    |succ n=>grind[uD]
   ·rintro⟨n,hn⟩
    exact⟨n+1,by grind[uD]⟩
  |inr r'=>
   simp only[Kb.injEq];constructor
   ·rintro⟨n,hn⟩
    cases n with
    |zero=>grind[uD]
    |succ n=>grind[uD]
   ·rintro rfl
    exact⟨1,by simp[uD,hb]⟩
section
variable {P:Program}{Γ:Ctx}{pn:vV}{E:Env}{Q:Exit→Env→Prop}{c:Code}
def yY{σ ρ:Type}(Γ:Ctx)(en:σ→Env)(Q:ρ→Exit→Env→Prop)(x:σ⊕ρ):Exit→Env→Prop:=fun e E'=>
 match x with
 |.inl s'=>e=.normal∧zF Γ E' (en s')
 |.inr r=>e≠.normal∧Q r e E'
theorem kN{p:Nat→Prop}(h:∃m,p m):∃m,p m∧ ∀k,k<m→ ¬p k:=by
 refine Classical.byContradiction fun hn=>?_
 have key:∀n,∀k,k<n→ ¬p k:=by
  intro n
  induction n with
  |zero=>simp
  |succ n ih=>
   grind
 grind
theorem CW.loop{σ ρ:Type}(body:σ→Option (σ⊕ρ))(en:σ→Env)(Q:ρ→Exit→Env→Prop)(h:∀s x,body s=df x→CW P Γ pn c (en s) (yY Γ en Q x)){s:σ}{r:ρ}(hr:zC body s=df r):
  CW P Γ pn (.loop c) (en s) (Q r):=by
 classical
 intro a w Q' hs hp hQ
 let p:Act→World→Nat→Prop:=fun a w m=> ∃s,uD body m s=df r∧uB Γ (en s) a w∧pn.Hold a
 let μ:Act→World→Nat:=fun a w=>if h:∃m,p a w m then(kN h).choose else 0
 obtain⟨n,hn⟩:=zAF.1 hr;refine wp_loop (fun a w=> ∃m,p a w m) μ (by grind) ?_;intro a w er;have hμ:μ a w=(kN er).choose:=dif_pos er;obtain⟨s,h1,h2,h3⟩:=(kN er).choose_spec.1;have ay:=(kN er).choose_spec.2;rw[←hμ]at h1;cases hm:μ a w with
 |zero=>grind[uD]
 |succ k=>
  rw[hm]at h1;simp only[uD]at h1;cases hb:body s with
  |none=>grind
  |some x=>
   refine h s x hb a w _ h2 h3 fun e E' a' w' hq gB eR=>?_
   cases x with
   |inl s'=>
    simp only[hb]at h1;obtain⟨rfl,hg⟩:=hq;have mc:p a' w' k:=⟨s',h1,hg a' w' gB,eR⟩;refine⟨⟨k,mc⟩,?_⟩;have fK:∃m,p a' w' m:=⟨k,mc⟩
    grind
   |inr r'=>
    simp only[hb]at h1;have:r'=r:=by grind
    subst this;obtain⟨gf,hq⟩:=hq;have:=hQ e E' a' w' hq gB eR;cases e with
    |normal=>grind
    |_=>exact this
end
end Go.Ab

namespace Go.Ab
open Go
abbrev Nds:=List (Nat×List Nat×T)
def ROk(P:Program)(E:Env):ResultVar→(Nat×List Nat×T)→Prop
 |.tmp s,x=>x.1=s∧x.2.1=[]∧E s=df x.2.2∧x.2.2.okTup=dh
 |.cell a T,x=>x.1=a∧x.2.1=[0]∧E a=df (.ptr x.2.2)∧ ∃ds ti,P.underlying T=df ds∧P.info? T=df ti∧zCr ds= !x.2.2.single∧ti.size=x.2.2.size
def zIG(P:Program)(E:Env):List ResultVar→Nds→Prop
 | [],[]=>True
 |x::xs,y::ys=>ROk P E x y∧zIG P E xs ys
 |_,_=>False
def LOk(E:Env)(us:List T):List (Nat×T)→Prop
 | []=>True
 |(i,u')::l=>(E i=df u'∧ ∃u,us[i]? =df u)∧LOk E us l
def zPq(P:Program)(rs:Array ResultVar)(us res:List T)(rws:List (Nat×T)):Exit→Env→Prop:=fun e E=>
 (e=.ret∨e=.normal)∧ ∃nd:Nds,zIG P E rs.toList nd∧nd.map (·.2.2)=res∧(∀x∈nd,us.length≤x.1)∧(nd.map (·.1)).Nodup∧LOk E us rws
def kO(v:Nat→Value)(is:List Nat):vV:=is.map fun i=>(i,v i)
def zDQ:Nat→List T→List (Nat×T)
 |_,[]=>[]
 |i,u::us=>(i,u)::zDQ (i+1) us
theorem zFO:∀(us:List T)(i s:Nat)(t:T),xT (zDQ i us) s=df t→i≤s∧us[s-i]? =df t
 | [],i,s,t,h=>by grind[zDQ,xT]
 |u::us,i,s,t,h=>by
  simp only[zDQ,xT]at h;split at h
  ·grind
  ·rename_i e
   obtain⟨h1,h2⟩:=zFO us (i+1) s t h
   grind
def zJS(tmps:Array Value):ResultVar→Sem Value
 |.tmp t=>pure (tmps.getD t undef)
 |.cell a t=>do loadVar t (←asAddr (tmps.getD a undef))
theorem zGQ(fn:Func)(tmps:Array Value):results fn tmps=(do
  let vs ←fn.results.mapM (zJS tmps)
  pure (if h:vs.size=1 then vs[0]else .tuple vs)):=rfl
theorem xV.get:(xs:List T)→xV xs→ ∀(i:Nat)(x:T),xs[i]? =df x→Top x
 | [],_,i,x,h=>by simp at h
 |y::ys,ht,i,x,h=>by
  simp only[xV]at ht;cases i with
  |zero=>simp at h;subst h;exact ht.1
  |succ i=>exact xV.get ys ht.2 i x (by simpa using h)
theorem LOk.get{E:Env}{us:List T}:(l:List (Nat×T))→LOk E us l→ ∀i u',(i,u')∈l→E i=df u'∧ ∃u,us[i]? =df u
 | [],_,_,_,h=>by simp at h
 |x::l,h,i,u',hm=>by
  rcases Jh.1 hm with rfl|hm
  ·exact h.1
  ·exact LOk.get l h.2 i u' hm
theorem zQM{P:Program}{Γ:Ctx}{E:Env}{G:Gh}{tmps:Array Value}{w:World}(ga:Rep Γ E G tmps w)(x:ResultVar)(s:Nat)(q:List Nat)(t:T)(h:ROk P E x (s,q,t)):
  (zJS tmps x).run P w=.ok (wR G s t q) w∧R Γ.St G w s t q:=by
 cases x with
 |tmp s'=>
  obtain⟨h0,pV,h1,h2⟩:=h;dsimp only at h0 pV h1 h2;subst h0 pV;obtain⟨g1,g2,_⟩:=ga.ent _ _ h1;have gO:∀xs,t≠.tup xs:=by rintro xs rfl;grind[T.okTup]
  refine⟨?_,g2⟩;rw[←uR G s t [] gO];simp[zJS,Jo,g1]
 |cell a T'=>
  obtain⟨h0,pV,h1,ds,ti,h2,h3,h4,h5⟩:=h;dsimp only at h0 pV h1 h4 h5;subst h0 pV;obtain⟨g1,g2,_⟩:=ga.ent _ _ h1;simp only[R]at g2;obtain⟨b,cs,e,k1,k2,k3,k4,k5,k6⟩:=g2;refine⟨?_,k6⟩;rw[yM rfl,k1]at g1;have h6:=zBY (w:=w) h2 h3 k5 h4 h5;simp[zJS,Jo,g1,asAddr,h6]
theorem zCe{P:Program}{Γ:Ctx}{E:Env}{G:Gh}{tmps:Array Value}{w:World}(ga:Rep Γ E G tmps w):(rs:List ResultVar)→(nd:Nds)→zIG P E rs nd→
  (rs.mapM (zJS tmps)).run P w=.ok (nd.map fun x=>wR G x.1 x.2.2 x.2.1) w∧ ∀x∈nd,R Γ.St G w x.1 x.2.2 x.2.1
 | [],[],_=>by simp
 |x::xs,y::ys,h=>by
  obtain⟨h1,h2⟩:=zCe ga xs ys h.2;obtain⟨h3,h4⟩:=zQM ga x y.1 y.2.1 y.2.2 h.1
  simp_all
 | [],_::_,h=>by simp[zIG]at h
 |_::_,[],h=>by simp[zIG]at h
theorem FnC.of_body{P:Program}{f:FuncId}{fn:Func}{c:Code}{us res:List T}{rws:List (Nat×T)}(hf:P.funcs[f]? =df fn)(hb:fn.body=df c)(hn:us.length≤fn.ntmps)(ht:xV us)(hr:rws.all (fun x=>decide (x.1<us.length))=dh)
  (h:∀(Γ:Ctx)(v:Nat→Value),Γ.N=fn.ntmps→CW P Γ (kO v (rws.map (·.1))) c (xT (zDQ 0 us)) (zPq P fn.results us res rws)):FnC P f us res rws:=by
 intro St W w G vs fN gk gr
 let Γ:Ctx:=⟨St,W,w,fn.ntmps⟩
 let v:Nat→Value:=fun i=>vs.getD i undef
 have hm:Mem Γ G w:=⟨gr.one,gr.lb,gr.ow,gr.st,gr.fr,gr.sz,gr.bk⟩;have gp:(vs++Hk (fn.ntmps-vs.size) undef).size=fn.ntmps:=by simp;omega
 have tv:Sim Γ (xT (zDQ 0 us)) { tmps:=vs++Hk (fn.ntmps-vs.size) undef,defers:=[] } w:=by
  refine⟨rfl,G,gp,?_,hm⟩;intro s t hs;obtain⟨_,h2⟩:=zFO us 0 s t hs;simp only[G8]at h2;obtain⟨h3,h4⟩:=gk s t h2;have gG:s<vs.size:=by grind
  exact⟨by grind,h4,xV.get us ht s t h2⟩
 have ao:(kO v (rws.map (·.1))).Hold { tmps:=vs++Hk (fn.ntmps-vs.size) undef,defers:=[] }:=by
  intro x hx;simp only[kO,J7]at hx;obtain⟨i,⟨y,hy,rfl⟩,rfl⟩:=hx;have h1:=Jm.1 hr y hy;simp at h1;have h2:y.1<vs.size:=by omega
  simp[Array.getElem?_append,h2,v]
 refine calls_of_wp hf hb (h Γ v rfl _ _ _ (.of tv) ao ?_)
 rintro e E' a' w' ⟨he,nd,h1,h2,h3,h4,h5⟩ ⟨S',gM,gR,G',ga⟩ hp
 obtain⟨g1,g2⟩:=zCe ga _ _ h1;have gy:(results fn a'.tmps).run P w'=.ok (zFH G' nd) w':=by
  rw[zGQ,Array.mapM_eq_mapM_toList];simp only[Sem.run_bind,Sem.run_map,g1];cases nd with
  |nil=>simp[zFH]
  |cons y ys=>
   cases ys with
   |nil=>simp[zFH]
   |cons z zs=>simp[zFH]
 have gF:Mem ⟨S',W,w,0⟩ G' w':=⟨ga.mem.one,ga.mem.lb,ga.mem.ow,ga.mem.st,ga.mem.fr,ga.mem.sz,ga.mem.bk⟩;have aM:bodyPost P fn (fun e w'=> ∃(S':Stb)(G':Gh)(nd:List (Nat×List Nat×T)),zBa St S' W w.heap.size∧e=.returned (zFH G' nd)∧Mem ⟨S',W,w,0⟩ G' w'∧nd.map (·.2.2)=res∧
   (∀x∈nd,R S' G' w' x.1 x.2.2 x.2.1∧us.length≤x.1)∧(nd.map (·.1)).Nodup∧
   ∀i u',(i,u')∈rws→R S' G' w' i u' []∧ ∃u,us[i]? =df u∧mkV G' i u' []=mkV G i u []) .ret a' w':=by
  refine⟨gR,_,gy,S',G',nd,gM,rfl,gF,h2,by grind,h4,?_⟩;intro i u' hiu;obtain⟨k1,u,k3⟩:=LOk.get _ h5 i u' hiu;obtain⟨k5,k6,_⟩:=ga.ent i u' k1;refine⟨k6,u,k3,?_⟩;have k7:=hp (i,v i) (by simp only[kO,J7];grind);have k8:=(gk i u k3).1;rw[k5]at k7;simp[v,Jo,k8]at k7;exact k7
 rcases he with rfl|rfl<;>exact aM
end Go.Ab

namespace Go.Ab
open Go
mutual
def vO:T→T
 |.sl k xs=>.ro (strip (.sl k xs))
 |.ptr t=>.ro (strip (.ptr t))
 |.agg xs=>.agg (uE xs)
 |.tup xs=>.tup (uE xs)
 |.any=>.any
 |.lit v=>.lit v
 |.ro t=>.ro t
 |.same r p=>.same r p
 |.addr r p=>.addr r p
 |.sub r p k lo hi=>.sub r p k lo hi
 |.mp ks xs=>.ro (.mp ks xs)
def uE:List T→List T
 | []=>[]
 |x::xs=>vO x::uE xs
end
mutual
theorem zJT(G:Gh)(s:Nat):(t:T)→ ∀p,vals G s (vO t) p=vals G s t p
 |.agg xs,p=>by simp only[vO,vals];exact zAm G s xs p 0
 |.sl _ _,_|.ptr _,_|.mp _ _,_|.tup _,_|.any,_|.lit _,_|.ro _,_|.same _ _,_|.addr _ _,_|.sub _ _ _ _ _,_=>by rfl
theorem zAm(G:Gh)(s:Nat):(xs:List T)→ ∀p j,zJ G s (uE xs) p j=zJ G s xs p j
 | [],_,_=>by rfl
 |x::xs,p,j=>by simp only[uE,zJ,zJT G s x,zAm G s xs]
end
theorem zJU(G:Gh)(s:Nat)(t:T)(p:List Nat):wR G s (vO t) p=wR G s t p:=by cases t<;>simp only[vO,wR,zAm]
theorem zFP(G:Gh)(s:Nat):(xs:List T)→ ∀p j,vW G s (uE xs) p j=vW G s xs p j
 | [],_,_=>by rfl
 |x::xs,p,j=>by simp only[uE,vW,zJU,zFP G s xs]
theorem zMf(G:Gh)(s:Nat)(t:T)(p:List Nat):mkV G s (vO t) p=mkV G s t p:=by cases t<;>simp only[vO,mkV,zAm,zFP]
mutual
theorem zFQ:(t:T)→Top t→Top (vO t)
 |.agg xs,h|.tup xs,h=>by simp only[vO,Top]at h ⊢;exact zEf xs h
 |.sl _ _,_|.ptr _,_|.mp _ _,_|.any,_|.lit _,_|.ro _,_|.same _ _,_|.addr _ _,_|.sub _ _ _ _ _,_=>by simp only[vO,Top]
theorem zEf:(xs:List T)→xV xs→xV (uE xs)
 | [],_=>by grind[uE]
 |x::xs,h=>by simp only[uE,xV]at h ⊢;exact⟨zFQ x h.1,zEf xs h.2⟩
end
section
variable {St Sc:Stb}{G G':Gh}{w:World}{s:Nat} (gv:∀s p,(G.hd s p).oneCell'=dh) (ek:∀b x,St b=df x→Sc b=df x) (el:∀b,(∃y,G.ow b=df (s,y))→Sc b=w.heap[b]?) (gP:∀s z,G'.hd s z=G.hd s z) (pN:∀s z,G'.ad s z=G.ad s z)
 include gv ek el gP pN
mutual
theorem zNh:(t:T)→ ∀(p:List Nat),R St G w s t p→R Sc G' w s (vO t) p
 |.agg xs,p,hr|.tup xs,p,hr=>by simp only[vO,R]at hr ⊢;exact zJV xs p 0 hr
 |.sl k xs,p,hr=>by have:=zCZ gv ek el (.sl k xs) p rfl hr;simp only[vO,R,gP];exact this
 |.ptr t,p,hr=>by have:=zCZ gv ek el (.ptr t) p rfl hr;simp only[vO,R,gP];exact this
 |.ro u,p,hr=>by simp only[vO,R,gP]at hr ⊢;grind[wZ]
 |.mp ks xs,p,hr=>by have:=zCZ gv ek el (.mp ks xs) p rfl hr;simp only[strip]at this;simp only[vO,R,gP];exact this
 |.any,_,_=>by simp only[vO,R]
 |.lit _,_,hr|.same _ _,_,hr|.sub _ _ _ _ _,_,hr=>by simp only[vO,R,gP]at hr ⊢;exact hr
 |.addr _ _,_,hr=>by simp only[vO,R,gP,pN]at hr ⊢;exact hr
theorem zJV:(xs:List T)→ ∀(p:List Nat)(j:Nat),RF St G w s xs p j→RF Sc G' w s (uE xs) p j
 | [],_,_,_=>by have _:=gv;have _:=ek;have _:=el;have _:=gP;have _:=pN;simp only[uE,RF]
 |x::xs,p,j,hr=>by simp only[uE,RF]at hr ⊢;exact⟨zNh x _ hr.1,zJV xs p (j+1) hr.2⟩
end
end
theorem zF.freeze{Γ:Ctx}{E:Env}(s:Nat)(t:T)(hs:E s=df t):zF Γ E (E.app [(s,df (vO t))] [(s,1)]):=by
 classical
 rintro a w ⟨S,hS,gR,G,ga⟩
 have hm:=ga.mem
 let own:Nat→Prop:=fun b=> ∃y,G.ow b=df (s,y)
 let Sc:Stb:=fun b=>if own b then w.heap[b]? else S b
 let G':Gh:={ hd:=G.hd,ad:=G.ad,lb:=fun b o=>if own b then dg else G.lb b o,ow:=fun b=>if own b then dg else G.ow b }
 have fj:∀b x,S b=df x→Sc b=df x:=fun b x hx=>by
  have:¬own b:=by
   rintro⟨y,hy⟩
   have:=(hm.ow b _ hy).2.2
   grind
  grind
 have aI:zBa S Sc Γ.W Γ.w0.heap.size:=⟨fj,fun b hb eB=>by
  by_cases h:own b
  ·obtain⟨y,hy⟩:=h
   exact(hm.ow b _ hy).2.1
  grind⟩
 have gr:Mem ((Γ.at S).at Sc) G' w:=by
  refine⟨hm.one,fun b o l hl=>?_,fun b l hl=>?_,fun b x hx=>?_,hm.fr,hm.sz,hm.bk⟩
  ·by_cases h:own b
   ·grind
   ·simp only[G',h,if_false]at hl
    have:=hm.lb b o l hl;exact⟨this.1,this.2.1,by simp only[Sc,h,if_false];exact this.2.2⟩
  ·by_cases h:own b
   ·grind
   ·simp only[G',h,if_false]at hl
    have:=hm.ow b l hl;exact⟨this.1,this.2.1,by simp only[Sc,h,if_false];exact this.2.2⟩
  ·by_cases h:own b
   ·grind
   ·simp only[Sc,h,if_false]at hx;exact hm.st b x hx
 have gw:uK [(s,1)] G w G' w:=by
  have fP:∀b s0 y,G.ow b=df (s0,y)→(∀n,(s0,n)∉([(s,1)]:Chg))→ ¬own b:=by grind
  refine⟨fun _ _ _=>rfl,fun _ _ _=>rfl,by grind,by grind,fun b cs e h=>⟨cs,h,rfl⟩,by intros;assumption⟩
  all_goals grind
 obtain⟨e1,e2,e3⟩:=ga.ent s t hs;refine⟨Sc,hS.trans aI,gR,G',ga.up fj rfl gw gr (fun s0 h0=>⟨fun n hn=>?_,rfl⟩) (fun s0 t0 h0=>?_)⟩
 ·grind[uS]
 ·rw[uS]at h0
  split at h0
  ·rename_i he;subst he
   simp at h0;subst h0;have hR:=zNh (G':=G') hm.one fj (fun b hb=>by grind) (fun _ _=>rfl) (fun _ _=>rfl) t [] e2;refine⟨?_,hR,zFQ t e3⟩;rw[e1];have h1:mkV G' s (vO t) []=mkV G s (vO t) []:=zCG _ _ _ (fun _=>rfl);rw[h1,zMf]
  ·cases h0
end Go.Ab

namespace Go.Ab
open Go
abbrev jT:=List (Wr×Chg)
def Env.apps(E:Env)(l:jT):Env:=l.foldl (fun E x=>E.app x.1 x.2) E
structure Stp where
 rd:List (Nat×T)
 l:jT
def vD(wr:Wr):List Nat:=wr.map (·.1)
def Stp.slots(X:Stp):List Nat:=X.l.flatMap fun x=>vD x.1
def oOk(chg:Chg):Option T→Bool
 |none=>dh
 |some t=>t.okB chg
def zGR(chg:Chg)(wr:Wr):Bool:=wr.all fun x=>oOk chg x.2
def zIH(a b:List Nat):Bool:=a.all fun x=> !b.contains x
def zB7(a b:jT):Bool:=a.all fun x=>b.all fun y=>zIH (vD x.1) (vD y.1)&&zGR y.2 x.1&&zGR x.2 y.1
def Stp.apart(a b:Stp):Bool:=zB7 a.l b.l&&zIH a.slots (b.rd.map (·.1))&&zIH b.slots (a.rd.map (·.1))&&a.rd.all fun x=>b.l.all fun y=>x.2.okB y.2
theorem zB8{wr:Wr}{s:Nat}(h:s∉vD wr):wr.find s=dg:=by
 induction wr with
 |nil=>rfl
 |cons x wr ih=>
  simp only[vD,Jc,Jh,not_or]at h;simp only[Wr.find,Ne.symm h.1,if_false];exact ih h.2
theorem zEg{wr:Wr}{s:Nat}{x:Option T}(h:wr.find s=df x):s∈vD wr∧ ∃y∈wr,y.2=x:=by
 induction wr with
 |nil=>grind[Wr.find]
 |cons y wr ih=>
  grind[Wr.find,vD]
theorem zDg{a b:List Nat}(h:zIH a b=dh){s:Nat}(hs:s∈a):s∉b:=by
 have:=Jm.1 h s hs
 grind
theorem zJW(E:Env)(w1 w2:Wr)(c1 c2:Chg)(h:zIH (vD w1) (vD w2)=dh)(h1:zGR c2 w1=dh)(h2:zGR c1 w2=dh):
  (E.app w1 c1).app w2 c2=(E.app w2 c2).app w1 c1:=by
 funext s
 have ok:∀{c:Chg}{w:Wr}{s:Nat}{x:Option T},zGR c w=dh→w.find s=df x→(match x with|some t=>if t.okB c then df t else dg|none=>dg)=x:=by
  intro c w s x hw hf;obtain⟨_,y,hy,rfl⟩:=zEg hf;have:=Jm.1 hw y hy
  grind[oOk]
 unfold Env.app;cases ml:w1.find s with
 |some x=>
  grind[zB8,zDg,zEg]
 |none=>
  grind
theorem zA2(w:Wr)(c:Chg):∀(l:jT)(E:Env),(∀y∈l,zIH (vD w) (vD y.1)=dh∧zGR y.2 w=dh∧zGR c y.1=dh)→(E.app w c).apps l=(E.apps l).app w c
 | [],E,_=>rfl
 |y::l,E,h=>by obtain⟨h1,h2,h3⟩:=h y (by simp);show((E.app w c).app y.1 y.2).apps l=_;rw[zJW E w y.1 c y.2 h1 h2 h3];exact zA2 w c l _ (by grind)
theorem zEh:∀(l1 l2:jT)(E:Env),zB7 l1 l2=dh→(E.apps l1).apps l2=(E.apps l2).apps l1
 | [],l2,E,_=>rfl
 |x::l1,l2,E,h=>by simp only[zB7,Gp,J2]at h;show((E.app x.1 x.2).apps l1).apps l2=((E.apps l2).app x.1 x.2).apps l1;rw[zEh l1 l2 _ (by grind[zB7]),zA2 x.1 x.2 l2 E (by grind)]
def runD:Env→List (Bool×Stp)→Env
 |E,[]=>E
 |E,(b,X)::l=>runD (if b then E.apps X.l else E) l
theorem uV:∀(l1 l2:List (Bool×Stp))(E:Env),runD E (l1++l2)=runD (runD E l1) l2
 | [],_,_=>rfl
 |(b,X)::l1,l2,E=>by simp only[Ka,runD];exact uV l1 l2 _
theorem zB9:∀(l:List (Bool×Stp))(X:Stp)(E:Env),(∀y∈l,y.1=dh→zB7 X.l y.2.l=dh)→runD (E.apps X.l) l=(runD E l).apps X.l
 | [],_,_,_=>rfl
 |(b,Y)::l,X,E,h=>by
  simp only[runD];cases b with
  |false=>exact zB9 l X E (by grind)
  |true=>
   have:=h (dh,Y) (by simp) rfl;simp only[if_true];rw[zEh X.l Y.l E this];exact zB9 l X _ (by grind)
theorem zDh{s:Nat}:∀(l:jT)(E:Env),s∉l.flatMap (fun x=>vD x.1)→ ∀t,(E.apps l) s=df t→E s=df t
 | [],_,_,_,h=>h
 |x::l,E,hs,t,h=>by
  simp only[Kz,Lg,not_or]at hs;have:=zDh l (E.app x.1 x.2) hs.2 t h
  grind[Env.app,zB8]
theorem zEi{s:Nat}{t:T}:∀(l:jT)(E:Env),s∉l.flatMap (fun x=>vD x.1)→(∀y∈l,t.okB y.2=dh)→E s=df t→(E.apps l) s=df t
 | [],_,_,_,h=>h
 |x::l,E,hs,gC,h=>by
  simp only[Kz,Lg,not_or]at hs;refine zEi l (E.app x.1 x.2) hs.2 (by grind) ?_
  grind[Env.app,zB8]
theorem zEj{s:Nat}:∀(l:jT)(E1 E2:Env),(∀t,E2 s=df t→E1 s=df t)→ ∀t,(E2.apps l) s=df t→(E1.apps l) s=df t
 | [],_,_,h,t,ht=>h t ht
 |x::l,E1,E2,h,t,ht=>by
  refine zEj l (E1.app x.1 x.2) (E2.app x.1 x.2) (fun u hu=>?_) t ht
  grind[Env.app]
theorem zEk{s:Nat}:∀(l:List (Bool×Stp))(E1 E2:Env),(∀y∈l,y.1=di→s∉y.2.slots)→(∀t,E2 s=df t→E1 s=df t)→
  ∀t,runD E2 (l.map fun y=>(dh,y.2)) s=df t→runD E1 l s=df t
 | [],_,_,_,h,t,ht=>h t ht
 |(b,X)::l,E1,E2,hl,h,t,ht=>by
  simp only[Jc,runD,if_true]at ht ⊢
  refine zEk l _ _ (by grind) (fun u hu=>?_) t ht;cases b with
  |true=>grind[zEj]
  |false=>exact h u (zDh X.l E2 (hl (di,X) (by simp) rfl) u hu)
theorem zEl{s:Nat}{t:T}:∀(l:List (Bool×Stp))(E:Env),(∀y∈l,y.1=dh→s∉y.2.slots∧ ∀z∈y.2.l,t.okB z.2=dh)→E s=df t→runD E l s=df t
 | [],_,_,h=>h
 |(b,X)::l,E,hl,h=>by
  simp only[runD];refine zEl l _ (fun y hy=>hl y (by simp[hy])) ?_;cases b with
  |false=>exact h
  |true=>obtain⟨h1,h2⟩:=hl (dh,X) (by simp) rfl;exact zEi X.l E h1 h2 h
theorem Env.Has.of{E E':Env}:{l:List (Nat×T)}→E.Has l→(∀s t,(s,t)∈l→E s=df t→E' s=df t)→E'.Has l
 | [],_,_=>trivial
 |(s,t)::l,h,h'=>⟨h' s t (by simp) h.1,Env.Has.of h.2 fun s t hm=>h' s t (by simp[hm])⟩
end Go.Ab

namespace Go.Ab
open Go
def qH(o:Oper):List Nat:=(o.after.toList.filter (Region.binds .any)).map (·.on)
def sK:Nat→List Oper→Bool
 |_,[]=>dh
 |i,o::os=>((qH o).all fun m=>decide (m<i))&&sK (i+1) os
def tH(an:List (List Nat)):List (List Nat)→List Oper→Bool
 | [],_=>dh
 |_::_,[]=>di
 |l::ls,o::os=>(l.all fun k=>(qH o).contains k||(qH o).any fun m=>(an.getD m []).contains k)&&tH an ls os
def uN(Xs:List Stp):Nat→List (List Nat)→List Stp→Bool
 |_,_,[]=>dh
 |j,an,Y::Ys=>((Jz j).all fun i=>(an.headD []).contains i||match Xs[i]? with
   |some X=>X.apart Y
   |none=>dh)&&uN Xs (j+1) an.tail Ys
theorem zCx:∀(os:List Oper)(i0 j:Nat)(o:Oper),sK i0 os=dh→os[j]? =df o→ ∀m∈qH o,m<i0+j
 | [],_,j,_,_,h=>by simp at h
 |x::os,i0,j,o,hf,h=>by
  simp only[sK,J2]at hf;cases j with
  |zero=>
   grind
  |succ j=>
   intro m hm;have:=zCx os (i0+1) j o hf.2 (by grind) m hm;omega
theorem zET(an:List (List Nat)):∀(ls:List (List Nat))(os:List Oper)(j:Nat)(l:List Nat),tH an ls os=dh→ls[j]? =df l→ ∃o,os[j]? =df o∧ ∀k∈l,k∈qH o∨ ∃m∈qH o,k∈an.getD m []
 | [],_,j,_,_,h=>by simp at h
 |_::_,[],_,_,h,_=>by grind[tH]
 |x::ls,o::os,j,l,ha,h=>by
  simp only[tH,J2]at ha;cases j with
  |zero=>
   simp_all
  |succ j=>
   obtain⟨o',h1,h2⟩:=zET an ls os j l ha.2 (by grind)
   grind
theorem zBA(Xs:List Stp):∀(Ys:List Stp)(j0:Nat)(an:List (List Nat))(j:Nat)(Y:Stp),uN Xs j0 an Ys=dh→Ys[j]? =df Y→ ∀i X,i<j0+j→Xs[i]? =df X→i∈an.getD j []∨X.apart Y=dh
 | [],_,_,j,_,_,h=>by simp at h
 |Z::Ys,j0,an,j,Y,hp,h=>by
  simp only[uN,J2]at hp;intro i X hi hX;cases j with
  |zero=>
   simp at h;subst h;have:=Jm.1 hp.1 i (by grind);simp only[hX,Bool.or_eq_true,K7,decide_eq_true_eq]at this;rcases this with h|h
   ·left
    cases an with
    |nil=>simp at h
    |cons l an=>grind
   grind
  |succ j=>
   rcases zBA Xs Ys (j0+1) an.tail j Y hp.2 (by grind) i X (by omega) hX with h|h
   all_goals grind
section
variable {P:Program}{Γ:Ctx}{pn:vV}{ops:Array Oper}
def zJX(ops:Array Oper)(L:List Bool):Prop:=∀(i:Nat)(o:Oper),ops[i]? =df o→L[i]? =df dh→ ∀m∈qH o,L[m]? =df dh
theorem zDi{L:List Bool}{an:List (List Nat)}(hf:sK 0 ops.toList=dh)(ha:tH an an ops.toList=dh)(hc:zJX ops L):
  ∀(n i:Nat),i≤n→ ∀o,ops[i]? =df o→(∀m∈qH o,L[m]? =df dh)→ ∀k∈an.getD i [],L[k]? =df dh:=by
 intro n
 induction n with
 |zero=>
  intro i hi o ho hp k hk;have aG:i=0:=by omega
  subst aG;cases hl:an[0]? with
  |none=>grind
  |some l=>
   obtain⟨o',h1,h2⟩:=zET an an ops.toList 0 l ha hl;rw[Jy,ho]at h1;simp at h1;subst h1;simp only[Qf,hl,Kc]at hk;rcases h2 k hk with h|⟨m,h,_⟩
   ·grind
   ·have:=zCx ops.toList 0 0 o hf (by grind) m h
    omega
 |succ n ih=>
  intro i hi o ho hp k hk;cases hl:an[i]? with
  |none=>grind
  |some l=>
   obtain⟨o',h1,h2⟩:=zET an an ops.toList i l ha hl;rw[Jy,ho]at h1;simp at h1;subst h1;simp only[Qf,hl,Kc]at hk;rcases h2 k hk with h|⟨m,h,hkm⟩
   ·grind
   ·have gG:=zCx ops.toList 0 i o hf (by grind) m h
    have hLm:=hp m h;cases bE:ops[m]? with
    |none=>
     grind
    |some om=>exact ih m (by omega) om bE (hc m om bE hLm) k hkm
theorem zEm{L:List Bool}{Xs:List Stp}{i:Nat}{b:Bool}{X:Stp}(hL:L[i]? =df b)(hX:Xs[i]? =df X):L.zip Xs=(L.take i).zip (Xs.take i)++(b,X)::(L.drop (i+1)).zip (Xs.drop (i+1)):=by
 have h1:L=L.take i++b::L.drop (i+1):=by obtain⟨h,rfl⟩:=Ja.1 hL;simp
 have h2:Xs=Xs.take i++X::Xs.drop (i+1):=by obtain⟨h,rfl⟩:=Ja.1 hX;simp
 grind[List.zip_cons_cons]
theorem zEU{L:List Bool}{Xs:List Stp}{y:Bool×Stp}(h:y∈L.zip Xs):∃j:Nat,L[j]? =df y.1∧Xs[j]? =df y.2:=by grind[Gb,List.getElem?_zip_eq_some]
def vE:Env→List Stp→Prop
 |_,[]=>True
 |E,X::Xs=>E.Has X.rd∧vE (E.apps X.l) Xs
theorem vE.get:∀(Xs:List Stp)(E:Env),vE E Xs→ ∀(i:Nat)(X:Stp),Xs[i]? =df X→(runD E ((Xs.take i).map fun y=>(dh,y))).Has X.rd
 | [],_,_,i,_,h=>by simp at h
 |Y::Xs,E,hh,i,X,h=>by
  cases i with
  |zero=>simp at h;subst h;simpa[runD]using hh.1
  |succ i=>
   have:=vE.get Xs _ hh.2 i X (by grind)
   grind[runD]
theorem Stp.apart_spec{a b:Stp}(h:a.apart b=dh):zB7 a.l b.l=dh∧(∀s∈a.slots,s∉b.rd.map (·.1))∧(∀s∈b.slots,s∉a.rd.map (·.1))∧ ∀x∈a.rd,∀y∈b.l,x.2.okB y.2=dh:=by simp only[Stp.apart,J2]at h;refine⟨h.1.1.1,by grind[zDg],by grind[zDg],fun x hx y hy=>?_⟩;exact Jm.1 (Jm.1 h.2 x hx) y hy
mutual
theorem zHW:(t:T)→t.okB []=dh
 |.same _ _|.addr _ _|.sub _ _ _ _ _=>by rfl
 |.agg xs|.tup xs=>by simp only[T.okB];exact zFR xs
 |.any|.lit _|.ro _|.sl _ _|.ptr _|.mp _ _=>by rfl
theorem zFR:(xs:List T)→zF2 [] xs=dh
 | []=>by rfl
 |x::xs=>by simp only[zF2,zHW x,zFR xs,L5]
end
theorem Rep.heap{E:Env}{G:Gh}{tmps:Array Value}{w w':World}(h:Rep Γ E G tmps w)(hw:w'.heap=w.heap)(ho:w'.os=w.os:=by rfl)(hq:w'.output=w.output:=by rfl):Rep Γ E G tmps w' where
 size:=h.size
 ent s t hs:=Ent.keep (chg:=[]) ⟨fun _ _ _=>rfl,fun _ _ _=>rfl,by grind[zT,World.cell?],fun _ _ _ h _=>h,fun b cs e h=>⟨cs,by grind,rfl⟩,fun b _ _ ms c _ _ h=>by grind⟩ (by simp) (zHW t) (h.ent s t hs)
 mem:=by
  have hm:=h.mem;exact⟨hm.one,fun b o l hl=>by have:=hm.lb b o l hl;exact⟨by rw[hw];exact this.1,this.2⟩,fun b l hl=>by have:=hm.ow b l hl;exact⟨by rw[hw];exact this.1,this.2⟩,
   fun b x hx=>by rw[hw];exact hm.st b x hx,fun b h1 h2=>by rw[hw];exact hm.fr b h1 h2,by rw[hw];exact hm.sz,hm.bk.trans (fun b cs e hb=>⟨cs,by grind,rfl⟩) ho hq⟩
end
end Go.Ab

namespace Go.Ab
open Go
abbrev I(n:Int):T:=.lit (.int .i64 n)
abbrev B(b:Bool):T:=.lit (.bool b)
abbrev L{α:Type}(k:Nat)(f:α→T)(xs:List α):T:=.sl k (xs.map f)
theorem zI{P:Program}{t:TypeId}{ti:TypeInfo}(h:P.types[t]? =df ti):P.info? t=df ti:=by grind[Tables.info?]
def Ok(P:Program)(Γ:Ctx)(o:Oper)(E E':Env):Prop:=∀S,yN P (Γ.at S) o E E'
section
variable {P:Program}{Γ:Ctx}{pn:vV}{ops:Array Oper}{o:Oper}{os:List Oper}{E E':Env}{Q:Exit→Env→Prop}{d:Nat}
theorem RW.op(h:Ok P Γ o E E')(k:RW P Γ pn ops os E' Q)(hg:o.guard=dg:=by rfl)(hp:pn.ok o.dst=dh:=by rfl):RW P Γ pn ops (o::os) E Q:=RW.cons (xQ.op h hg) k hp
def neD(x:Operand)(d:Nat):Bool:=match x with
 |.tmp s=>s != d
 |_=>dh
theorem zBl{x:Operand}{d:Nat}(h:neD x d=dh):∀s,x=.tmp s→s≠d:=by rintro s rfl;grind[neD]
theorem qI{t:T}(h:t.okTup=dh):∀xs,t≠.tup xs:=by rintro xs rfl;grind[T.okTup]
abbrev mvB(Γ:Ctx)(x:Operand)(t:T)(d:Nat):Bool:=J3 d Γ.N&&t.okTup&&neD x d&&T.okB [(d,0)] (wP x t)
section
variable {x y:Operand}{t:T}{ty:TypeId}{ps:String}{af:Array Edge}{gd:Option (Nat×Bool)}
theorem zP{a b:Nat}(h:J3 a b=dh):a<b:=by grind[Nat.blt_eq]
theorem zMg(hx:opT E x=df t)(sd:mvB Γ x t d=dh):Ok P Γ ⟨df d,.move x,ty,ps,af,gd⟩ E (E.app [(d,df (wP x t))] [(d,0)]):=by simp only[mvB,J2]at sd;exact fun S=>zHD x t (.inl rfl) rfl (zP sd.1.1.1) hx (qI sd.1.1.2) (zBl sd.1.2) sd.2
theorem zMh(hx:opT E x=df t)(sd:mvB Γ x t d=dh):Ok P Γ ⟨df d,.assign x,ty,ps,af,gd⟩ E (E.app [(d,df (wP x t))] [(d,0)]):=by simp only[mvB,J2]at sd;exact fun S=>zHD x t (.inr rfl) rfl (zP sd.1.1.1) hx (qI sd.1.1.2) (zBl sd.1.2) sd.2
def inR(n:Int):Bool:=decide (-9223372036854775808≤n)&&decide (n≤9223372036854775807)
theorem kQ{n:Int}(h:inR n=dh):IntKind.i64.wrap n=n:=by
 simp only[inR,J2,decide_eq_true_eq]at h;have hb:IntKind.i64.bits=64:=rfl;have hs:IntKind.i64.signed=dh:=rfl;simp only[IntKind.wrap,hb,hs,Qg]
 grind
def rng(n:Int):Option Int:=if inR n then df n else dg
theorem kR{n m:Int}(h:rng n=df m):m=n∧inR n=dh:=by grind[rng]
theorem zNi{m n c:Int}{xt yt:TypeId}(hv:rng (m+n)=df c)(hx:opT E x=df (I m))(hy:opT E y=df (I n))(sd:J3 d Γ.N=dh):Ok P Γ ⟨df d,.binOp .add xt x y yt,ty,ps,af,gd⟩ E (E.app [(d,df (I c))] [(d,0)]):=by obtain⟨rfl,h⟩:=kR hv;exact fun S=>vX .add xt yt x y .i64 m n _ rfl rfl (zP sd) hx hy (by grind[zEF,kQ])
theorem zNj{m n:Int}{xt yt:TypeId}(hx:opT E x=df (I m))(hy:opT E y=df (I n))(sd:J3 d Γ.N=dh):Ok P Γ ⟨df d,.binOp .lss xt x y yt,ty,ps,af,gd⟩ E (E.app [(d,df (B (decide (m<n))))] [(d,0)]):=
 fun _S=>vX .lss xt yt x y .i64 m n _ rfl rfl (zP sd) hx hy rfl
theorem zBm(k:Nat)(sd:J3 d Γ.N=dh):Ok P Γ ⟨df d,.assign (.const (.slice dg 0 0)),ty,ps,af,gd⟩ E (E.app [(d,df (.sl k []))] [(d,0)]):=
 fun _=>zF9 k _ (.inr rfl) rfl rfl (zP sd)
def yF(n:Int):Option Nat:=if 0≤n∧n≤68719476736 then df n.toNat else dg
theorem zDj{n:Int}{m:Nat}(h:yF n=df m):n=(m:Int)∧m≤68719476736:=by grind[yF]
class ElT (P:Program) (t:TypeId) (e:outParam TypeId) (ti:outParam TypeInfo) (k:outParam Nat) (u:outParam T):Prop where
 un:P.underlying t=df (.slice e)
 info:P.info? e=df ti
 zero:∃z,ti.zero=df z∧wX u=z.cells.toList
 size:ti.size=k
 pos:0<k
 zok:u.zOk=dh
 us:u.size=k
 bytes:ti.bytes≤2048
theorem zNY{t e:TypeId}{ti:TypeInfo}{k:Nat}{u:T}{n m:Nat}{a b:Int}(ht:ElT P t e ti k u)(hn:yF a=df n)(hx:opT E x=df (I a))(hm:yF b=df m)(hy:opT E y=df (I b))(fb:n≤m)(sd:J3 d Γ.N=dh):
  Ok P Γ ⟨df d,.makeSlice t x y,ty,ps,af,gd⟩ E (E.app [(d,df (.sl k (J1 n u)))] [(d,0)]):=by
 obtain⟨rfl,h1⟩:=zDj hn;obtain⟨rfl,h2⟩:=zDj hm;obtain⟨z,hz,hv⟩:=ht.zero;exact fun S=>zLZ t e ti z u k x y n m .i64 .i64 rfl rfl (zP sd) ht.un ht.info hz ht.size ht.pos ht.zok hv ht.us (Ke ht.bytes (by decide)) hx hy fb h2
end
end
end Go.Ab

namespace Go.Ab
open Go
def ixO{α:Type}(xs:List α)(i:Int):Option α:=if 0≤i then xs[i.toNat]? else dg
theorem qJ{α:Type}{xs:List α}{i:Int}{v:α}(h:ixO xs i=df v):0≤i∧xs[i.toNat]? =df v:=by grind[ixO]
def sL:T→Bool
 |.same _ _=>di
 |_=>dh
theorem zBB{E:Env}{s r:Nat}{q:List Nat}{t u:T}(h1:E s=df (.same r q))(h2:E r=df t)(h3:t.get q.reverse=df u)(h4:sL u=dh):xZ E (.tmp s)=df (r,q,u):=by
 have hg:∀t:T,t.get []=df t:=fun t=>by rfl
 grind[sL,xZ,vU]
theorem vP{E:Env}{s:Nat}{t:T}(h1:E s=df t)(h4:sL t=dh):xZ E (.tmp s)=df (s,[],t):=by
 have hg:∀t:T,t.get []=df t:=fun t=>by rfl
 grind[sL,xZ,vU]
section
variable {P:Program}{Γ:Ctx}{E:Env}{d:Nat}{x y:Operand}{ty:TypeId}{ps:String}{af:Array Edge}{gd:Option (Nat×Bool)}
class jU (P:Program) (t:TypeId) (e:outParam TypeId) (ti:outParam TypeInfo) (k:outParam Nat):Prop where
 un:P.underlying t=df (.slice e)
 info:P.info? e=df ti
 size:ti.size=k
theorem zPr{α:Type}{t e:TypeId}{ti:TypeInfo}{r k:Nat}{q:List Nat}{f:α→T}{xs:List α}{v:α}{i:Int}(ht:jU P t e ti k)(hv:ixO xs i=df v)(hx:xZ E x=df (r,q,L k f xs))(hy:opT E y=df (I i))(sd:J3 d Γ.N=dh):
  Ok P Γ ⟨df d,.indexAddr t x y,ty,ps,af,gd⟩ E (E.app [(d,df (.addr r (i.toNat::q)))] [(d,0)]):=by
 obtain⟨h1,h2⟩:=qJ hv;exact fun S=>zPm x y t e ti r q k _ .i64 i rfl rfl (zP sd) ht.un ht.info ht.size hx hy h1 (by grind)
theorem zNk{α:Type}{t e:TypeId}{ti:TypeInfo}{r k:Nat}{q:List Nat}{f:α→T}{xs:List α}{v:α}{i:Int}(ht:jU P t e ti k)(hv:ixO xs i=df v)(hx:xZ E x=df (r,q,.ro (L k f xs)))(hy:opT E y=df (I i))(sd:J3 d Γ.N=dh):
  Ok P Γ ⟨df d,.indexAddr t x y,ty,ps,af,gd⟩ E (E.app [(d,df (.ro (.ptr (f v))))] [(d,0)]):=by
 obtain⟨h1,h2⟩:=qJ hv;exact fun S=>zJ4 x y t e ti r q k _ .i64 i _ rfl rfl (zP sd) ht.un ht.info ht.size hx hy h1 (by simp[h2])
theorem zNl{α:Type}{t e:TypeId}{r k:Nat}{q:List Nat}{f:α→T}{xs:List α}(hu:P.underlying t=df (.slice e))(hx:xZ E x=df (r,q,L k f xs))(sd:J3 d Γ.N=dh):
  Ok P Γ ⟨df d,.call { callee:=.builtin .len,args:=#[x],argTypes:=#[t] },ty,ps,af,gd⟩ E (E.app [(d,df (I xs.length))] [(d,0)]):=
 fun _=>zJ3 x t _ r q (L k f xs) xs.length rfl rfl (zP sd) hu hx (by simp[zF3]) rfl
theorem zJY{α:Type}{t e:TypeId}{r k:Nat}{q:List Nat}{f:α→T}{xs:List α}(hu:P.underlying t=df (.slice e))(hx:xZ E x=df (r,q,.ro (L k f xs)))(sd:J3 d Γ.N=dh):
  Ok P Γ ⟨df d,.call { callee:=.builtin .len,args:=#[x],argTypes:=#[t] },ty,ps,af,gd⟩ E (E.app [(d,df (I xs.length))] [(d,0)]):=
 fun _=>zJ3 x t _ r q (.ro (L k f xs)) xs.length rfl rfl (zP sd) hu hx (by simp[zF3]) rfl
structure zMi (P:Program) (t:TypeId) (u:T):Prop where
 h:∃ds ti,P.underlying t=df ds∧P.info? t=df ti∧zCr ds= !u.single∧ti.size=u.size
theorem zPs{t:TypeId}{u:T}(ht:zMi P t u)(hx:opT E x=df (.ro (.ptr u)))(sd:J3 d Γ.N=dh):Ok P Γ ⟨df d,.load t x,ty,ps,af,gd⟩ E (E.app [(d,df (roT u))] [(d,0)]):=by obtain⟨ds,ti,h1,h2,h3,h4⟩:=ht.h;exact fun S=>zGK x t ds ti u rfl rfl (zP sd) h1 h2 h3 h4 hx
theorem zQN{t:TypeId}{u tr:T}{r:Nat}{q:List Nat}(ht:zMi P t u)(hx:opT E x=df (.addr r q))(hr:E r=df tr)(hg:tr.get q.reverse=df u)(sd:(J3 d Γ.N&&tr.locd q.reverse&&(r != d)&&T.okB [(d,0)] (cpT r u q))=dh):
  Ok P Γ ⟨df d,.load t x,ty,ps,af,gd⟩ E (E.app [(d,df (cpT r u q))] [(d,0)]):=by
 obtain⟨ds,ti,h1,h2,h3,h4⟩:=ht.h;simp only[J2]at sd;exact fun S=>zLY x t ds ti r q tr u rfl rfl (zP sd.1.1.1) h1 h2 h3 h4 hx hr hg sd.1.1.2 (by grind) sd.2
end
end Go.Ab

namespace Go.Ab
open Go
section
variable {P:Program}{Γ:Ctx}{E:Env}{x:Operand}{ty:TypeId}{ps:String}{af:Array Edge}{gd:Option (Nat×Bool)}
theorem zPt{t:TypeId}{ti:TypeInfo}{r:Nat}{q:List Nat}{tr tr' u0:T}{v:Value}(hi:P.info? t=df ti)(gp:ti.size=1)(hx:opT E x=df (.addr r q))(hr:E r=df tr)(hg:tr.get q.reverse=df u0)(gx:tr.set q.reverse (.lit v)=tr')
  (sd:(tr.single&&tr.locd q.reverse&&wJ (.lit v) u0&&(T.lit v).zOk)=dh)(hz:wX (.lit v)=v.cells.toList):Ok P Γ ⟨dg,.store t x (.const v),ty,ps,af,gd⟩ E (E.app [(r,df tr')] [(r,q.length)]):=by
 simp only[J2]at sd;subst gx;intro S;have:=zJG (P:=P) (Γ:=Γ.at S) (E:=E) (o:=⟨dg,.store t x (.const v),ty,ps,af,gd⟩) t ti x (.const v) r q tr u0 (.zero (.lit v)) rfl rfl hi (by rw[gp];rfl) (by omega) hx hr sd.1.1.1 hg sd.1.1.2 sd.1.2 (.zero v _ hz)
  ⟨by simp,by grind,by simp[yK]⟩
 exact this
end
end Go.Ab

namespace Go.Ab
open Go
theorem zF.tr{Γ:Ctx}{E:Env}(d r:Nat)(u:T)(hd:E d=df (.same r []))(hr:E r=df u)(ef:zK u)(sd:(u.single&&yW u&&u.okB [(d,1),(r,1)]&&(d != r))=dh):
  zF Γ E (E.app [(d,df u),(r,df (.same d []))] [(d,1),(r,1)]):=by
 simp only[J2]at sd
 rintro a w ⟨S,hS,hs⟩
 have gf:d≠r:=by grind
 have hg:∀t:T,t.get []=df t:=fun t=>by rfl
 have:=zGO hs d [] r [] (.same r []) u u hd rfl hr (hg u) sd.1.1.1 ef gf (by simp[T.okB,zCE]) sd.1.2 rfl sd.1.1.2;exact⟨S,hS,this⟩
theorem zAG{α:Type}{f:α→T}(hf:∀x,zK (f x)):(xs:List α)→yE (xs.map f)
 | []=>trivial
 |x::xs=>⟨hf x,zAG hf xs⟩
theorem zHX{α:Type}{f:α→T}{k:Nat}{xs:List α}(hf:∀x,zK (f x)):zK (L k f xs):=by simp only[zK,yA];grind[zAG]
theorem zMj(b:Bool):zK (B b):=by simp[zK,yA]
end Go.Ab

namespace Go.Ab
open Go
section
variable {P:Program}{Γ:Ctx}{E:Env}{d:Nat}{x y:Operand}{ty:TypeId}{ps:String}{af:Array Edge}{gd:Option (Nat×Bool)}{m n c:Int}{xt yt:TypeId}
theorem zNm(hv:rng (m-n)=df c)(hx:opT E x=df (I m))(hy:opT E y=df (I n))(sd:J3 d Γ.N=dh):Ok P Γ ⟨df d,.binOp .sub xt x y yt,ty,ps,af,gd⟩ E (E.app [(d,df (I c))] [(d,0)]):=by obtain⟨rfl,h⟩:=kR hv;exact fun _=>vX .sub xt yt x y .i64 m n _ rfl rfl (zP sd) hx hy (by grind[zEF,kQ])
theorem zNn(hv:rng (m*n)=df c)(hx:opT E x=df (I m))(hy:opT E y=df (I n))(sd:J3 d Γ.N=dh):Ok P Γ ⟨df d,.binOp .mul xt x y yt,ty,ps,af,gd⟩ E (E.app [(d,df (I c))] [(d,0)]):=by obtain⟨rfl,h⟩:=kR hv;exact fun _=>vX .mul xt yt x y .i64 m n _ rfl rfl (zP sd) hx hy (by grind[zEF,kQ])
def wA(m n:Int):Option Int:=if n=0 then dg else rng (m.tdiv n)
def wF(m n:Int):Option Int:=if n=0 then dg else df (m.tmod n)
theorem zPu(hv:wA m n=df c)(hx:opT E x=df (I m))(hy:opT E y=df (I n))(sd:J3 d Γ.N=dh):Ok P Γ ⟨df d,.binOp .quo xt x y yt,ty,ps,af,gd⟩ E (E.app [(d,df (I c))] [(d,0)]):=by
 unfold wA at hv;split at hv
 ·cases hv
 ·rename_i h0
  obtain⟨rfl,h⟩:=kR hv;exact fun _=>vX .quo xt yt x y .i64 m n _ rfl rfl (zP sd) hx hy (by simp only[zEF,h0,if_false,kQ h])
theorem zPv(hv:wF m n=df c)(hx:opT E x=df (I m))(hy:opT E y=df (I n))(sd:J3 d Γ.N=dh):Ok P Γ ⟨df d,.binOp .rem xt x y yt,ty,ps,af,gd⟩ E (E.app [(d,df (I c))] [(d,0)]):=by
 unfold wF at hv;split at hv
 ·cases hv
 ·rename_i h0
  simp at hv;subst hv;exact fun _=>vX .rem xt yt x y .i64 m n _ rfl rfl (zP sd) hx hy (by simp only[zEF,h0,if_false])
theorem zNo(hx:opT E x=df (I m))(hy:opT E y=df (I n))(sd:J3 d Γ.N=dh):Ok P Γ ⟨df d,.binOp .leq xt x y yt,ty,ps,af,gd⟩ E (E.app [(d,df (B (decide (m≤n))))] [(d,0)]):=
 fun _=>vX .leq xt yt x y .i64 m n _ rfl rfl (zP sd) hx hy rfl
theorem zNp(hx:opT E x=df (I m))(hy:opT E y=df (I n))(sd:J3 d Γ.N=dh):Ok P Γ ⟨df d,.binOp .gtr xt x y yt,ty,ps,af,gd⟩ E (E.app [(d,df (B (decide (m> n))))] [(d,0)]):=
 fun _=>vX .gtr xt yt x y .i64 m n _ rfl rfl (zP sd) hx hy rfl
theorem zNq(hx:opT E x=df (I m))(hy:opT E y=df (I n))(sd:J3 d Γ.N=dh):Ok P Γ ⟨df d,.binOp .geq xt x y yt,ty,ps,af,gd⟩ E (E.app [(d,df (B (decide (m≥n))))] [(d,0)]):=
 fun _=>vX .geq xt yt x y .i64 m n _ rfl rfl (zP sd) hx hy rfl
theorem zJZ(hx:opT E x=df (I m))(hy:opT E y=df (I n))(sd:J3 d Γ.N=dh):Ok P Γ ⟨df d,.binOp .eql xt x y yt,ty,ps,af,gd⟩ E (E.app [(d,df (B (m==n)))] [(d,0)]):=
 fun _=>vX .eql xt yt x y .i64 m n _ rfl rfl (zP sd) hx hy rfl
theorem zPw(hx:opT E x=df (I m))(hy:opT E y=df (I n))(sd:J3 d Γ.N=dh):Ok P Γ ⟨df d,.binOp .neq xt x y yt,ty,ps,af,gd⟩ E (E.app [(d,df (B (m != n)))] [(d,0)]):=
 fun _=>vX .neq xt yt x y .i64 m n _ rfl rfl (zP sd) hx hy rfl
theorem zNr{b:Bool}(hx:opT E x=df (B b))(sd:J3 d Γ.N=dh):Ok P Γ ⟨df d,.unOp .not xt x,ty,ps,af,gd⟩ E (E.app [(d,df (B (!b)))] [(d,0)]):=
 fun _=>zNT xt x b rfl rfl (zP sd) hx
theorem zPx(hv:rng (0-n)=df c)(hx:opT E x=df (I n))(sd:J3 d Γ.N=dh):Ok P Γ ⟨df d,.unOp .neg xt x,ty,ps,af,gd⟩ E (E.app [(d,df (I c))] [(d,0)]):=by
 obtain⟨rfl,h⟩:=kR hv;have:=fun S=>zNU (P:=P) (Γ:=Γ.at S) (E:=E) (o:=⟨df d,.unOp .neg xt x,ty,ps,af,gd⟩) xt x .i64 n rfl rfl (zP sd) hx
 rw[kQ h]at this;exact this
end
end Go.Ab

namespace Go.Ab
open Go
section
variable {P:Program}{Γ:Ctx}{E:Env}{d:Nat}{x y:Operand}{ty:TypeId}{ps:String}{af:Array Edge}{gd:Option (Nat×Bool)}
class zKa (P:Program) (t:TypeId) (u:outParam T):Prop where
 h:∃ti z,P.info? t=df ti∧ti.zero=df z∧u.zOk=dh∧wX u=z.cells.toList∧z.cells.size=u.size
theorem zHY{t:TypeId}{u:T}(ht:zKa P t u)(sd:J3 d Γ.N=dh):Ok P Γ ⟨df d,.alloc t,ty,ps,af,gd⟩ E (E.app [(d,df (.ptr u))] [(d,0)]):=by obtain⟨ti,z,h1,h2,h3,h4,h5⟩:=ht.h;exact fun S=>zJD t ti z u rfl rfl (zP sd) h1 h2 h3 h4 h5
theorem zNs{s i:Nat}{ts:List T}{t:T}(hs:E s=df (.tup ts))(hi:ts[i]? =df t)(sd:(J3 d Γ.N&&t.okTup&&(s != d)&&T.okB [(d,0)] (cpT s t [i]))=dh):
  Ok P Γ ⟨df d,.extract (.tmp s) i,ty,ps,af,gd⟩ E (E.app [(d,df (cpT s t [i]))] [(d,0)]):=by
 simp only[J2]at sd;exact fun S=>zGL s i ts t rfl rfl (zP sd.1.1.1) hs hi (qI sd.1.1.2) (by grind) sd.2
theorem zAH{t:T}(hx:opT E x=df t)(hp:zDZ E x=dh)(sd:mvB Γ x t d=dh):Ok P Γ ⟨df d,.nilCheck x,ty,ps,af,gd⟩ E (E.app [(d,df (wP x t))] [(d,0)]):=by simp only[mvB,J2]at sd;exact fun S=>zNV x t rfl rfl (zP sd.1.1.1) hx hp (qI sd.1.1.2) (zBl sd.1.2) sd.2
theorem zNZ{c:Operand}{b:Bool}{t:T}(hc:opT E c=df (B b))(hx:opT E (if b then x else y)=df t)(sd:mvB Γ (if b then x else y) t d=dh):Ok P Γ ⟨df d,.pick c x y,ty,ps,af,gd⟩ E (E.app [(d,df (wP (if b then x else y) t))] [(d,0)]):=by simp only[mvB,J2]at sd;exact fun S=>zLV c x y b t rfl rfl (zP sd.1.1.1) hc hx (qI sd.1.1.2) (zBl sd.1.2) sd.2
theorem zNt{t:TypeId}{s:Nat}{u:T}(hs:E s=df u)(hu:zK u)(sd:(J3 d Γ.N&&u.okTup&&(s != d))=dh):
  Ok P Γ ⟨df d,.box t (.tmp s),ty,ps,af,gd⟩ E (E.app ((d,df (.ptr u))::pWr d [.slot s u] 0) ((d,0)::wY [.slot s u])):=by
 simp only[J2]at sd;have gf:s≠d:=by grind
 refine fun S=>zNX t (.tmp s) (.slot s u) rfl rfl (zP sd.1.1) (.slot s u) ⟨by grind,by simp,?_⟩
 simp only[yK]
 grind
end
end Go.Ab

namespace Go.Ab
open Go
def yQ{α:Type}(xs ys:List α):Option (List α):=if xs.length+ys.length≤68719476736 then df (xs++ys)else dg
theorem zBC{α:Type}{xs ys zs:List α}(h:yQ xs ys=df zs):zs=xs++ys∧xs.length+ys.length≤68719476736:=by grind[yQ]
section
variable {P:Program}{Γ:Ctx}{E:Env}{d:Nat}{x y:Operand}{ty:TypeId}{ps:String}{af:Array Edge}{gd:Option (Nat×Bool)}
theorem ElT.zsize{t e:TypeId}{ti:TypeInfo}{k:Nat}{u:T}(h:ElT P t e ti k u):∃z,ti.zero=df z∧z.cells.size=k:=by obtain⟨z,h1,h2⟩:=h.zero;exact⟨z,h1,by rw[←Jx,←h2,xJ u h.zok,h.us]⟩
theorem zDk{α:Type}{t e:TypeId}{ti:TypeInfo}{k:Nat}{u:T}{f:α→T}{xs ys zs:List α}{s0 s1:Nat}(ht:ElT P t e ti k u)(hv:yQ xs ys=df zs)(h0:E s0=df (L k f xs))(h1:E s1=df (L k f ys))(sd:(J3 d Γ.N&&(s0 != d)&&(s1 != d)&&(s1 != s0))=dh):
  Ok P Γ ⟨df d,.call { callee:=.builtin .append,args:=#[.tmp s0,.tmp s1],argTypes:=#[t,t] },ty,ps,af,gd⟩ E (E.app [(d,df (L k f zs)),(s0,df .any),(s1,df .any)] [(d,0),(s0,1),(s1,1)]):=by
 obtain⟨rfl,hl⟩:=zBC hv;obtain⟨z,hz,eS⟩:=ht.zsize;simp only[J2]at sd;intro S;have:=zEO (P:=P) (Γ:=Γ.at S) (E:=E) (o:=⟨df d,.call { callee:=.builtin .append,args:=#[.tmp s0,.tmp s1],argTypes:=#[t,t] },ty,ps,af,gd⟩) t e ti z k s0 s1 (xs.map f) (ys.map f) rfl rfl (zP sd.1.1.1) ht.un ht.info hz ht.size ht.pos eS ht.bytes h0 h1
  (by grind) (by grind) (by grind) (by grind)
 rw[←Kn]at this;exact this
theorem zEn{α:Type}{f:α→T}(hf:∀x,(f x).flat=dh):(xs:List α)→tC (xs.map f)=dh
 | []=>rfl
 |x::xs=>by simp only[Jc,tC,hf x,zEn hf xs,L5]
theorem zGS{α:Type}{t e:TypeId}{ti:TypeInfo}{k r:Nat}{q:List Nat}{u:T}{f:α→T}{xs ys zs:List α}{s0:Nat}(ht:ElT P t e ti k u)(hf:∀x,(f x).flat=dh)(hv:yQ xs ys=df zs)(h0:E s0=df (L k f xs))(h1:xZ E y=df (r,q,L k f ys))(sd:(J3 d Γ.N&&(s0 != d))=dh):
  Ok P Γ ⟨df d,.call { callee:=.builtin .append,args:=#[.tmp s0,y],argTypes:=#[t,t] },ty,ps,af,gd⟩ E (E.app [(d,df (L k f zs)),(s0,df .any)] [(d,0),(s0,1)]):=by
 obtain⟨rfl,hl⟩:=zBC hv;obtain⟨z,hz,eS⟩:=ht.zsize;simp only[J2]at sd;intro S;have:=zEP (P:=P) (Γ:=Γ.at S) (E:=E) (o:=⟨df d,.call { callee:=.builtin .append,args:=#[.tmp s0,y],argTypes:=#[t,t] },ty,ps,af,gd⟩) t e ti z k s0 y r q (xs.map f) (ys.map f) rfl rfl (zP sd.1) ht.un ht.info hz ht.size ht.pos eS ht.bytes h0 h1 (zEn hf ys)
  (by grind) (by grind)
 rw[←Kn]at this;exact this
end
end Go.Ab

namespace Go.Ab
open Go
abbrev IK(k:IntKind)(n:Int):T:=.lit (.int k n)
abbrev Str(s:ByteArray):T:=.lit (.string s)
abbrev Pt{α:Type}(f:α→T)(x:α):T:=.ptr (f x)
abbrev Ro{α:Type}(f:α→T)(x:α):T:=.ro (f x)
theorem bd{α β:Type}{o:Option α}{f:α→Option β}{r:β}(h:o.bind f=df r):∃v,o=df v∧f v=df r:=by
 cases o with
 |none=>simp at h
 |some v=>grind
theorem cT{α:Type}{b:Bool}{x y:α}{z:α}(hc:b=dh)(h:cond b x y=z):x=z:=by grind
theorem cF{α:Type}{b:Bool}{x y:α}{z:α}(hc:b=di)(h:cond b x y=z):y=z:=by grind
theorem sI{α:Type}{x y:α}(h:df x=df y):x=y:=Kb.inj h
section
variable {P:Program}{Γ:Ctx}{pn:vV}{E E':Env}{Q:Exit→Env→Prop}{c:Code}{id id':Nat}
theorem nA(h:CW P Γ pn c E Q):zW P Γ pn c Q .normal E:=h
theorem xA(h:Q (.exit id) E):zW P Γ pn c Q (.exit id) E:=h
theorem rA(h:Q .ret E):zW P Γ pn c Q .ret E:=h
theorem nB(h:Q .normal E):yB id Q .normal E:=h
theorem rB(h:Q .ret E):yB id Q .ret E:=h
theorem xB(h:Q .normal E):yB id Q (.exit id) E:=by simp only[yB,if_true];exact h
theorem neX:Exit.exit id≠.normal:=by simp
theorem neR:Exit.ret≠.normal:=by simp
theorem RW.cases{ops:Array Oper}{os:List Oper}(s:Nat)(b:Bool)(hb:E s=df (B b))(ht:b=dh→RW P Γ pn ops os (E.app [(s,df (B dh))] []) Q)(hf:b=di→RW P Γ pn ops os (E.app [(s,df (B di))] []) Q):RW P Γ pn ops os E Q:=by
 have key:∀c:Bool,b=c→zF Γ E (E.app [(s,df (B c))] []):=by
  rintro c rfl a w hs
  refine hs.weaken fun s' t h=>?_
  by_cases e:s=s'
  ·grind[Env.app,Wr.find]
  ·simp only[Env.app,Wr.find,e,if_false]at h
   grind
 cases hc:b with
 |true=>grind[ghost]
 |false=>grind[ghost]
end
theorem zN{α:Type}{k:Nat}{f:α→T}{xs:List α}{i:Int}{v:α}{p:List Nat}{u:T}(h:ixO xs i=df v)(hr:(f v).get p=df u):(L k f xs).get (i.toNat::p)=df u:=by simp[T.get,(qJ h).2,hr]
theorem xK{t u:T}{p:List Nat}(h:t.get p=df u):(T.ptr t).get (0::p)=df u:=h
theorem xL{xs:List T}{x u:T}{j:Nat}{p:List Nat}(hj:xs[j]? =df x)(h:x.get p=df u):(T.agg xs).get (j::p)=df u:=by grind[T.get]
theorem zBD{α:Type}{k:Nat}{f:α→T}{xs:List α}{i:Int}{v w:α}{p:List Nat}{u:T}(h:ixO xs i=df v)(hr:(f v).set p u=f w):(L k f xs).set (i.toNat::p) u=L k f (xs.set i.toNat w):=by simp[L,T.set,(qJ h).2,hr,List.map_set]
theorem jV{t u t':T}{p:List Nat}(h:t.set p u=t'):(T.ptr t).set (0::p) u=T.ptr t':=by simp[T.set,h]
theorem zGT{xs:List T}{x u x':T}{j:Nat}{p:List Nat}(hj:xs[j]? =df x)(h:x.set p u=x'):(T.agg xs).set (j::p) u=.agg (xs.set j x'):=by grind[T.set]
class Enc {α:Type} (f:α→T):Prop where
 clean:∀x,zK (f x)
 rofree:∀x,xF (f x)=dh
 strip:∀x,strip (f x)=f x
 okTup:∀x,(f x).okTup=dh
 rook:∀x,zCt (f x)=dh
theorem zAI{α:Type}{f:α→T}(h:∀x,xF (f x)=dh):(xs:List α)→xW (xs.map f)=dh
 | []=>rfl
 |x::xs=>by simp only[Jc,xW,h x,zAI h xs,L5]
theorem zDl{α:Type}{f:α→T}(h:∀x,zCt (f x)=dh):(xs:List α)→jP (xs.map f)=dh
 | []=>rfl
 |x::xs=>by simp only[Jc,jP,h x,zDl h xs,L5]
theorem vF{α:Type}{f g:α→T}(h:∀x,strip (f x)=g x):(xs:List α)→wC (xs.map f)=xs.map g
 | []=>rfl
 |x::xs=>by simp only[Jc,wC,h x,vF h xs]
instance:Enc B:=⟨zMj,fun _=>rfl,fun _=>rfl,fun _=>rfl,fun _=>rfl⟩
instance{k:IntKind}:Enc (IK k):=⟨fun _=>by simp[zK,yA],fun _=>rfl,fun _=>rfl,fun _=>rfl,fun _=>rfl⟩
instance:Enc Str:=⟨fun _=>by simp[zK,yA],fun _=>rfl,fun _=>rfl,fun _=>rfl,fun _=>rfl⟩
instance{α:Type}{k:Nat}{f:α→T}[h:Enc f]:Enc (L k f):=
 ⟨fun _=>zHX h.clean,fun xs=>by simp only[xF];exact zAI h.rofree xs,fun xs=>by simp only[L,strip,vF h.strip xs],fun _=>rfl,fun xs=>by simp only[zCt,zDl h.rook xs]⟩
instance{α:Type}{f:α→T}[h:Enc f]:Enc (Pt f):=
 ⟨fun x=>by simp only[zK,yA];exact h.clean x,fun x=>by simp only[xF,h.rofree],fun x=>by simp only[Pt,strip,h.strip],fun _=>rfl,fun x=>by simp only[zCt,h.rook]⟩
class xM {α:Type} (f g:α→T):Prop where
 h:∀x,strip (f x)=g x
instance{α:Type}{f:α→T}[h:Enc f]:xM f f:=⟨h.strip⟩
instance{α:Type}{k:Nat}{f g:α→T}[h:xM f g]:xM (L k f) (L k g):=⟨fun xs=>by simp only[L,strip,vF h.h xs]⟩
instance{α:Type}{k:Nat}{g:α→T}:xM (Ro (L k g)) (L k g):=⟨fun _=>rfl⟩
instance{α:Type}{g:α→T}:xM (Ro (Pt g)) (Pt g):=⟨fun _=>rfl⟩
theorem stA{xs ys:List T}(h:wC xs=ys):strip (.agg xs)=.agg ys:=by grind[strip]
theorem stC{x y:T}{xs ys:List T}(h:strip x=y)(h2:wC xs=ys):wC (x::xs)=y::ys:=by grind[wC]
section
variable {E:Env}{rw:Rw}{i s r:Nat}{q:List Nat}{x:Operand}
theorem zKb{α:Type}{k:Nat}{f g:α→T}{xs:List α}(h:xM f g):clo E (L k f xs)=.ro (L k g xs):=by simp only[clo,L,strip,vF h.h xs]
theorem zEo{tr u:T}(hr:E r=df tr)(hg:tr.get q.reverse=df u)(h4:sL u=dh):vU E 4 r q=df (r,q,u):=by grind[sL,vU]
theorem zKc{α:Type}{k:Nat}{f g:α→T}{xs:List α}{tr:T}(hr:E r=df tr)(hg:tr.get q.reverse=df (L k f xs))(h:xM f g):clo E (.same r q)=.ro (L k g xs):=by simp only[clo,zEo hr hg rfl,T.single,if_true,L,strip,vF h.h xs]
theorem zOa{α:Type}{k l h:Nat}{f g:α→T}{xs:List α}{tr:T}(hr:E r=df tr)(hg:tr.get q.reverse=df (L k f xs))(hs:xM f g)(h1:l≤h)(h2:h≤xs.length):clo E (.sub r q k l h)=.ro (L k g ((xs.drop l).take (h-l))):=by simp only[clo,zEo hr hg rfl,L,vF hs.h xs,Jl,h1,h2,and_self,if_true,Qe,Gk]
theorem zPy{xs ys:List T}(h:qG E xs=ys):clo E (.agg xs)=.agg ys:=by grind[clo]
theorem zQO:qG E []=[]:=rfl
theorem zPz{x y:T}{xs ys:List T}(h:clo E x=y)(h2:qG E xs=ys):qG E (x::xs)=y::ys:=by grind[qG]
mutual
theorem zEp(s:Nat):(t:T)→t.okTup=dh→vJ E [] s t=dh
 |.agg xs,h=>by simp only[vJ,T.okTup]at h ⊢;exact zDm s xs h
 |.tup _,h=>by grind[T.okTup]
 |.same r q,_|.sub r q _ _ _,_=>by grind[vJ]
 |.sl _ _,_|.ptr _,_|.mp _ _,_=>by rfl
 |.lit _,_|.ro _,_|.any,_|.addr _ _,_=>by rfl
theorem zDm(s:Nat):(xs:List T)→zY xs=dh→tR E [] s xs=dh
 | [],_=>rfl
 |x::xs,h=>by simp only[zY,J2]at h;simp only[tR,zEp s x h.1,zDm s xs h.2,L5]
end
theorem agC{u:T}(t:T)(h:opT E x=df t)(h1:clo E t=u)(h2:t.okTup=dh):jQ E [] i x u:=.inr ⟨t,h,h1,by
 cases x with
 |tmp s=>exact zEp s t h2
 |_=>rfl⟩
end
section
variable {P:Program}{Γ:Ctx}{E:Env}{d:Nat}{x y:Operand}{ty:TypeId}{ps:String}{af:Array Edge}{gd:Option (Nat×Bool)}
abbrev kS(res:List T):Prop:=yE res∧zY res=dh∧xW res=dh
theorem zOb:kS []:=⟨trivial,rfl,rfl⟩
theorem zOc{α:Type}{f:α→T}{x:α}{ts:List T}(h:Enc f)(h2:kS ts):kS (f x::ts):=
 ⟨⟨h.clean x,h2.1⟩,by simp only[zY,h.okTup,h2.2.1,L5],by simp only[xW,h.rofree,h2.2.2,L5]⟩
abbrev qT(P:Program)(f:FuncId):Prop:=∀args w,(callFunc f args).run P w=.ok (.enter f args) w
theorem zGU{f:FuncId}{xs:List Operand}{ats:Array TypeId}{us res:List T}(gu:qT P f)(hc:FnC P f us res [])(gk:xG E [] 0 xs us)(gy:kS res)(sd:J3 d Γ.N=dh):
  Ok P Γ ⟨df d,.call { callee:=.value (.func f),args:=xs.toArray,argTypes:=ats },ty,ps,af,gd⟩ E (E.app (cWr d res []) (vA d [])):=
 fun _S=>zMe f (.func f) xs ats us res [] rfl rfl (zP sd) gu rfl hc gk .nil gy
theorem zMk{f:FuncId}{xs:List Operand}{ats:Array TypeId}{us res:List T}(gu:qT P f)(hc:FnC P f us res [])(gn:xs.length=us.length)(gk:∀(i:Nat) u,us[i]? =df u→ ∃x,xs[i]? =df x∧opT E x=df u∧u.flat=dh)(gy:yE res∧zY res=dh)(sd:J3 d Γ.N=dh):
  Ok P Γ ⟨df d,.call { callee:=.value (.func f),args:=xs.toArray,argTypes:=ats },ty,ps,af,gd⟩ E (E.app (cWr d res []) (vA d [])):=
 fun _S=>zJR f (.func f) xs ats us res rfl rfl (zP sd) gu rfl hc gn gk gy
class zAt (P:Program) (S:TypeId) (j:Nat) (off:outParam Nat):Prop where
 h:∃fs f fi,P.underlying S=df (.struct fs)∧fs[j]? =df f∧P.info? f.type=df fi∧fi.size≠0∧off=f.offset
theorem zP0{S:TypeId}{j off r:Nat}{q:List Nat}{xs:List T}{u:T}(ht:zAt P S j off)(hx:xZ E x=df (r,q,.ptr (.agg xs)))(hu:xs[j]? =df u)(gD:T.sizes (xs.take j)=off)(sd:J3 d Γ.N=dh):
  Ok P Γ ⟨df d,.fieldAddr S x j,ty,ps,af,gd⟩ E (E.app [(d,df (.addr r (j::0::q)))] [(d,0)]):=by
 obtain⟨fs,f,fi,h1,h2,h3,h4,h5⟩:=ht.h;exact fun _=>zPn x S fs f fi j r q xs u rfl rfl (zP sd) h1 h2 h3 h4 hx hu (by omega)
theorem zKd{S:TypeId}{j off:Nat}{xs:List T}{u:T}(ht:zAt P S j off)(hx:opT E x=df (.ro (.ptr (.agg xs))))(hu:xs[j]? =df u)(gD:T.sizes (xs.take j)=off)(sd:J3 d Γ.N=dh):
  Ok P Γ ⟨df d,.fieldAddr S x j,ty,ps,af,gd⟩ E (E.app [(d,df (.ro (.ptr u)))] [(d,0)]):=by
 obtain⟨fs,f,fi,h1,h2,h3,h4,h5⟩:=ht.h;exact fun _=>zJ5 x S fs f fi j xs u rfl rfl (zP sd) h1 h2 h3 h4 hx hu (by omega)
def zS{α:Type}(xs:List α)(l h:Int):Option (List α):=if 0≤l∧l≤h∧h≤(xs.length:Int)then df ((xs.drop l.toNat).take (h.toNat-l.toNat))else dg
theorem zP1{α:Type}{t e:TypeId}{ti:TypeInfo}{r k:Nat}{q:List Nat}{f:α→T}{xs ys:List α}{lo hi:Option Operand}{l h:Int}(ht:jU P t e ti k)(hv:zS xs l h=df ys)(hx:xZ E x=df (r,q,.ro (L k f xs)))(eL:kE E lo 0 l.toNat)(eO:kE E hi xs.length h.toNat)(sd:J3 d Γ.N=dh):
  Ok P Γ ⟨df d,.slice t x lo hi dg,ty,ps,af,gd⟩ E (E.app [(d,df (.ro (L k f ys)))] [(d,0)]):=by
 unfold zS at hv;split at hv
 ·rename_i hc
  simp at hv;subst hv;intro S;have:=zF7 (P:=P) (Γ:=Γ.at S) (E:=E) (o:=⟨df d,.slice t x lo hi dg,ty,ps,af,gd⟩) x lo hi t e ti r q k (xs.map f) l.toNat h.toNat rfl rfl (zP sd) ht.un ht.info ht.size hx eL (by grind) (by omega) (by simp;omega);simpa[L,Qe,Gk]using this
 ·cases hv
theorem zP2{α:Type}{t e:TypeId}{ti:TypeInfo}{r k:Nat}{q:List Nat}{f:α→T}{xs ys:List α}{lo hi:Option Operand}{l h:Int}(ht:jU P t e ti k)(hv:zS xs l h=df ys)(hx:xZ E x=df (r,q,L k f xs))(eL:kE E lo 0 l.toNat)(eO:kE E hi xs.length h.toNat)(sd:(J3 d Γ.N&&(r != d))=dh):
  Ok P Γ ⟨df d,.slice t x lo hi dg,ty,ps,af,gd⟩ E (E.app [(d,df (.sub r q k l.toNat h.toNat))] [(d,0)]):=by
 unfold zS at hv;simp only[J2]at sd;split at hv
 ·rename_i hc
  intro S;exact zEI (P:=P) (Γ:=Γ.at S) (E:=E) (o:=⟨df d,.slice t x lo hi dg,ty,ps,af,gd⟩) x lo hi t e ti r q k (xs.map f) l.toNat h.toNat rfl rfl (zP sd.1) ht.un ht.info ht.size hx eL (by grind) (by omega) (by simp;omega) (by grind)
 ·cases hv
end
end Go.Ab

namespace Go.Ab
open Go
theorem zQ{t:T}(h:zK t):zK t:=h
theorem yO{α:Type}{f:α→T}{k:Nat}{xs:List α}(hf:∀x,zK (f x)):zK (L k f xs):=zHX hf
theorem zGV{t:T}(h:zK t):zK (.ptr t):=by simpa only[zK,yA]using h
theorem zAJ{xs:List T}(h:yE xs):zK (.agg xs):=by simpa only[zK,yA]using h
section
variable {P:Program}{Γ:Ctx}{pn:vV}{E E':Env}{Q:Exit→Env→Prop}{c c1 c2:Code}{x:Operand}
theorem CW.condT(hx:opT E x=df (B dh))(h:CW P Γ pn c1 E Q):CW P Γ pn (.cond x c1 c2) E Q:=by grind[CW.cond]
theorem CW.condF(hx:opT E x=df (B di))(h:CW P Γ pn c2 E Q):CW P Γ pn (.cond x c1 c2) E Q:=by grind[CW.cond]
theorem zEq{wr:Wr}{chg:Chg}{s:Nat}{t:T}(h:E s=df t)(hf:wr.find s=dg:=by rfl)(hb:t.okB chg=dh:=by rfl):E.app wr chg s=df t:=by grind[Env.app]
theorem xQ.gh{ops:Array Oper}{o:Oper}{E1:Env}(hg:zF Γ E E1)(h:xQ P Γ ops o E1 E'):xQ P Γ ops o E E':=fun a w K Q hs hK=>h a w K Q (hg a w hs) hK
theorem zDn{t:T}(h:opT E x=df (.ro (.ptr t))):zDZ E x=dh:=by simp[zDZ,h]
end
theorem zQP{E:Env}{n:Nat}:kE E dg n (n:Int).toNat:=by simp[kE]
theorem zQQ{E:Env}{x:Operand}{n:Int}{d:Nat}(h0:0≤n)(h:opT E x=df (I n)):kE E (df x) d n.toNat:=⟨.i64,by grind⟩
theorem uW{α:Type}{xs ys:List α}{l h:Int}(hv:zS xs l h=df ys):0≤l∧l≤h∧h≤xs.length∧ys=(xs.drop l.toNat).take (h.toNat-l.toNat):=by grind[zS]
theorem zII{α:Type}{xs ys:List α}{l h:Int}(hv:zS xs l h=df ys):0≤l:=(uW hv).1
theorem zIJ{α:Type}{xs ys:List α}{l h:Int}(hv:zS xs l h=df ys):0≤h:=by have:=uW hv;omega
theorem zMl{E:Env}{r k:Nat}{q:List Nat}{α:Type}{l h:Int}{f g:α→T}{xs ys:List α}{tr:T}(hr:E r=df tr)(hg:tr.get q.reverse=df (L k f xs))(hs:xM f g)(hv:zS xs l h=df ys):
  clo E (.sub r q k l.toNat h.toNat)=.ro (L k g ys):=by
 obtain⟨h1,h2,h3,rfl⟩:=uW hv
 grind[zOa]
section
variable {P:Program}{Γ:Ctx}{E E':Env}{d:Nat}{x y:Operand}{ty:TypeId}{ps:String}{af:Array Edge}{gd:Option (Nat×Bool)}
theorem zP3{t:TypeId}{u tr t0:T}{r:Nat}{q:List Nat}(ht:zMi P t u)(hx:xZ E x=df (r,q,.ptr t0))(hr:E r=df tr)(hg:tr.get (0::q).reverse=df u)(sd:(J3 d Γ.N&&tr.locd (0::q).reverse&&(r != d)&&T.okB [(d,0)] (cpT r u (0::q)))=dh):
  Ok P Γ ⟨df d,.load t x,ty,ps,af,gd⟩ E (E.app [(d,df (cpT r u (0::q)))] [(d,0)]):=by
 obtain⟨ds,ti,h1,h2,h3,h4⟩:=ht.h;simp only[J2]at sd;exact fun S=>zF4 x t ds ti r (0::q) tr u rfl rfl (zP sd.1.1.1) h1 h2 h3 h4 (jO.ptr hx) hr hg sd.1.1.2 (by grind) sd.2
theorem zNu{t:TypeId}{ti:TypeInfo}{r s:Nat}{q:List Nat}{tr tr' u0 u:T}(hi:P.info? t=df ti)(gp:(ti.size==u.size&&J3 0 ti.size)=dh)(hx:∀S,jO (Γ.at S) E x r q)(hr:E r=df tr)(hg:tr.get q.reverse=df u0)(gx:tr.set q.reverse u=tr')(hy:E s=df u)(hu:zK u)
  (sd:(tr.single&&tr.locd q.reverse&&wJ u u0&&(r != s)&&u.okTup)=dh):Ok P Γ ⟨dg,.store t x (.tmp s),ty,ps,af,gd⟩ E (E.app ((r,df tr')::sWr r q (.slot s u)) ((r,q.length)::wY [.slot s u])):=by
 simp only[J2]at sd gp;subst gx;intro S;refine zEb (P:=P) (Γ:=Γ.at S) (E:=E) (o:=⟨dg,.store t x (.tmp s),ty,ps,af,gd⟩) t ti x (.tmp s) r q tr u0 (.slot s u) rfl rfl hi (by grind[zU.tree]) (zP gp.2) (hx S) hr sd.1.1.1.1 hg sd.1.1.1.2 sd.1.1.2 (.slot s _)
  ⟨by grind,by simp,?_⟩
 grind[yK]
theorem zOd{t:TypeId}{ti:TypeInfo}{r s:Nat}{q:List Nat}{tr tr' u0 u:T}(hi:P.info? t=df ti)(gp:(ti.size==u.size&&J3 0 ti.size)=dh)(hx:opT E x=df (.addr r q))(hr:E r=df tr)(hg:tr.get q.reverse=df u0)(gx:tr.set q.reverse u=tr')(hy:E s=df u)(hu:zK u)
  (sd:(tr.single&&tr.locd q.reverse&&wJ u u0&&(r != s)&&u.okTup)=dh):Ok P Γ ⟨dg,.store t x (.tmp s),ty,ps,af,gd⟩ E (E.app ((r,df tr')::sWr r q (.slot s u)) ((r,q.length)::wY [.slot s u])):=
 zNu hi gp (fun _=>jO.addr hx) hr hg gx hy hu sd
theorem zHZ{t:TypeId}{ti:TypeInfo}{r s:Nat}{q:List Nat}{tr tr' u0 u t0:T}(hi:P.info? t=df ti)(gp:(ti.size==u.size&&J3 0 ti.size)=dh)(hx:xZ E x=df (r,q,.ptr t0))(hr:E r=df tr)(hg:tr.get (0::q).reverse=df u0)(gx:tr.set (0::q).reverse u=tr')(hy:E s=df u)(hu:zK u)
  (sd:(tr.single&&tr.locd (0::q).reverse&&wJ u u0&&(r != s)&&u.okTup)=dh):Ok P Γ ⟨dg,.store t x (.tmp s),ty,ps,af,gd⟩ E (E.app ((r,df tr')::sWr r (0::q) (.slot s u)) ((r,(0::q).length)::wY [.slot s u])):=
 zNu hi gp (fun _=>jO.ptr hx) hr hg gx hy hu sd
theorem zDo{G:Gh}{s:Nat}:(xs:List T)→zY xs=dh→ ∀(p:List Nat)(i j:Nat)(u:T),xs[j]? =df u→ ∃l1 l2,zJ G s xs p i=l1++vals G s u ((i+j)::p)++l2∧l1.length=T.sizes (xs.take j)
 | [],_,_,_,_,_,h=>by simp at h
 |x::xs,ht,p,i,j,u,h=>by
  simp only[zY,J2]at ht;cases j with
  |zero=>simp at h;subst h;exact⟨[],zJ G s xs p (i+1),by rfl,by rfl⟩
  |succ j=>
   obtain⟨l1,l2,h1,h2⟩:=zDo xs ht.2 p (i+1) j u (by grind);refine⟨vals G s x (i::p)++l1,l2,by rw[zJ,h1,show i+(j+1)=i+1+j from by omega];simp,?_⟩;rw[Je,xE x _ (by rintro ys rfl;grind[T.okTup]),h2,Kf,T.sizes]
theorem zP4{S:TypeId}{j off s:Nat}{xs:List T}{u:T}(ht:zAt P S j off)(hv:∃ds ti fs f,P.underlying S=df (.struct fs)∧fs[j]? =df f∧P.underlying f.type=df ds∧P.info? f.type=df ti∧zCr ds= !u.single∧ti.size=u.size)(hx:E s=df (.agg xs))(hu:xs[j]? =df u)(gD:T.sizes (xs.take j)=off)
  (sd:(J3 d Γ.N&&zY xs&&u.okTup&&(s != d)&&T.okB [(d,0)] (cpT s u [j]))=dh):
  Ok P Γ ⟨df d,.field S (.tmp s) j,ty,ps,af,gd⟩ E (E.app [(d,df (cpT s u [j]))] [(d,0)]):=by
 obtain⟨fs,f,fi,h1,h2,h3,h4,h5⟩:=ht.h;obtain⟨ds,ti,fs',f',g1,g2,g3,g4,g5,g6⟩:=hv;simp only[J2]at sd;rw[h1]at g1;simp at g1;subst g1;rw[h2]at g2;simp at g2;subst g2;rw[h3]at g4;simp at g4;subst g4;intro S';refine yN.value rfl fun a w G ga=>?_
 obtain⟨k1,k2,_⟩:=ga.ent s _ hx;simp only[R]at k2;have k3:=sO xs [] 0 j u k2 hu;simp only[J8]at k3;have gf:s≠d:=by grind
 have gO:∀ys,u≠.tup ys:=qI sd.1.1.2;have hk:=G.put_keep (w:=w) (w':=w) rfl d (fun z=>G.hd s (z++[j]));have hz:∀z,(G.put d (fun z=>G.hd s (z++[j]))).hd d (z++[])=G.hd s (z++[j]):=by grind[Gh.put_self]
 refine⟨wR G s u [j],w,?_,_,yZ ga rfl (zP sd.1.1.1.1) (fun z=>G.hd s (z++[j])) (fun z=>ga.mem.one _ _) _ _ (by grind[tO])
  (zA7 (fun p=>G.put_other _ p gf) u [j] [] hz gO (hk.keepR (by grind[sD,vR])) k3) (vR s u [j])⟩
 obtain⟨l1,l2,e1,e2⟩:=zDo (G:=G) (s:=s) xs sd.1.1.1.2 [] 0 j u hu;simp only[J8]at e1;have e3:l1.length=f.offset:=by omega
 have e4:=xE (G:=G) (s:=s) u [j] gO;have mO:(part f.type (zJ G s xs [] 0).toArray f.offset).run P w=.ok (wR G s u [j]) w:=by
  rw[e1];cases u with
  |agg ys=>
   simp[T.single]at g5;simp only[vals,T.size]at e4 g6 ⊢
   simp[part,uL g3,g5,sizeOf,typeInfo,h3,wR]
   grind
  |tup ys=>grind
  |_=>
   simp[T.single]at g5;simp[part,uL g3,g5,wR,vals,←e3]
 simp[execOp,xH k1,mkV,Instr.field,run_underlying h1,h2,asAgg,mO]
theorem zMm{α:Type}{t e:TypeId}{ti:TypeInfo}{k:Nat}{u:T}{n:Nat}{a:Int}{f:α→T}{z:α}(ht:ElT P t e ti k u)(hz:f z=u)(hn:yF a=df n)(hx:opT E x=df (I a))(hy:opT E y=df (I a))(sd:J3 d Γ.N=dh):
  Ok P Γ ⟨df d,.makeSlice t x y,ty,ps,af,gd⟩ E (E.app [(d,df (L k f (J1 n z)))] [(d,0)]):=by
 have:=zNY (P:=P) (Γ:=Γ) (E:=E) (d:=d) (ty:=ty) (ps:=ps) (af:=af) (gd:=gd) ht hn hx hn hy (Jg _) sd;rw[←hz]at this;simpa[L]using this
theorem zKe{t e:TypeId}{ti:TypeInfo}{k:Nat}{u:T}(ht:ElT P t e ti k u)(sd:J3 d Γ.N=dh):Ok P Γ ⟨df d,.buildSlice t 0 #[],ty,ps,af,gd⟩ E (E.app [(d,df (.sl k []))] [(d,0)]):=
 fun _=>zCP t e ti k rfl rfl (zP sd) ht.un ht.info
theorem zDp(t:TypeId)(x y:Value):Op.equal t x y=Op.equalIn (9999+1) t x y:=rfl
theorem zCy{P:Program}{w:World}{t:TypeId}{k:IntKind}{a b:Int}(n:Nat)(h:P.underlying t=df (.int k)):(Op.equalIn (n+1) t (.int k a) (.int k b)).run P w=.ok (a==b) w:=by simp only[Op.equalIn,Sem.run_bind,run_underlying h];simp
end
end Go.Ab

namespace Go.Ab
open Go
def qU:List Nat→Bool
 | []=>dh
 |x::xs=> !xs.contains x&&qU xs
theorem zBE:{l:List Nat}→qU l=dh→l.Nodup
 | [],_=>by simp
 |x::xs,h=>by simp only[qU,J2,Kr,K7,decide_eq_false_iff_not]at h;exact K0.2 ⟨h.1,zBE h.2⟩
def qV(E:Env):List zU→Prop
 | []=>True
 |.slot s t::l=>(E s=df t∧zK t∧t.okTup=dh)∧qV E l
 |.zero u::l=>u.zOk=dh∧qV E l
theorem qV.get{E:Env}:(l:List zU)→qV E l→(∀s t,zU.slot s t∈l→E s=df t∧zK t∧t.okTup=dh)∧ ∀u,zU.zero u∈l→u.zOk=dh
 | [],_=>⟨fun _ _ h=>by simp at h,fun _ h=>by simp at h⟩
 |.slot s t::l,h=>by
  obtain⟨h1,h2⟩:=qV.get l h.2;exact⟨fun s' t' hm=>by
   rcases Jh.1 hm with e|hm
   ·cases e;exact h.1
   ·exact h1 s' t' hm,fun u hm=>by
   rcases Jh.1 hm with e|hm
   ·cases e
   ·exact h2 u hm⟩
 |.zero u::l,h=>by
  obtain⟨h1,h2⟩:=qV.get l h.2;exact⟨fun s' t' hm=>by
   rcases Jh.1 hm with e|hm
   ·cases e
   ·exact h1 s' t' hm,fun u' hm=>by
   rcases Jh.1 hm with e|hm
   ·cases e;exact h.1
   ·exact h2 u' hm⟩
section
variable {E:Env}
theorem pkN:qV E []:=trivial
theorem pkS{s:Nat}{t:T}{l:List zU}(h:E s=df t)(hc:zK t)(h3:t.okTup=dh)(hl:qV E l):qV E (.slot s t::l):=⟨⟨h,hc,h3⟩,hl⟩
theorem pkZ{u:T}{l:List zU}(h:u.zOk=dh)(hl:qV E l):qV E (.zero u::l):=⟨h,hl⟩
theorem qV.parts{d:Nat}{l:List zU}(h:qV E l)(hn:qU (d::yK l)=dh):wS E d l:=⟨(qV.get l h).1,(qV.get l h).2,zBE hn⟩
def jW(E:Env)(zs:List T)(ps:List zU):List (Nat×Operand)→List (Nat×zU)→Prop
 | [],[]=>True
 |x::xs,q::qs=>(x.1=q.1∧tA E x.2 q.2∧ps[q.1]? =df q.2∧ ∃u,zs[q.1]? =df u∧u.size=q.2.tree.size)∧jW E zs ps xs qs
 |_,_=>False
theorem bqN{zs:List T}{ps:List zU}:jW E zs ps [] []:=trivial
theorem bqC{zs:List T}{ps:List zU}{i:Nat}{x:Operand}{q:zU}{xs:List (Nat×Operand)}{qs:List (Nat×zU)}(h:tA E x q)(hl:jW E zs ps xs qs)(h1:ps[i]? =df q:=by rfl)(h2:∃u,zs[i]? =df u∧u.size=q.tree.size:=by exact⟨_,rfl,rfl⟩):jW E zs ps ((i,x)::xs) ((i,q)::qs):=⟨⟨rfl,h,h1,h2⟩,hl⟩
theorem jW.ix{zs:List T}{ps:List zU}:(pl:List (Nat×Operand))→(qs:List (Nat×zU))→jW E zs ps pl qs→pl.map (·.1)=qs.map (·.1)
 | [],[],_=>rfl
 |x::xs,q::qs,h=>by simp[h.1.1,jW.ix xs qs h.2]
 | [],_::_,h=>by simp[jW]at h
 |_::_,[],h=>by simp[jW]at h
theorem jW.get{zs:List T}{ps:List zU}:(pl:List (Nat×Operand))→(qs:List (Nat×zU))→jW E zs ps pl qs→ ∀(j:Nat)(x:Nat×Operand)(q:Nat×zU),pl[j]? =df x→qs[j]? =df q→tA E x.2 q.2∧q.2∈ps∧ ∃u,zs[q.1]? =df u∧u.size=q.2.tree.size
 | [],[],_,j,_,_,h,_=>by simp at h
 |x::xs,q::qs,h,j,x',q',h1,h2=>by
  cases j with
  |zero=>simp at h1 h2;subst h1;subst h2;exact⟨h.1.2.1,Kk h.1.2.2.1,h.1.2.2.2⟩
  |succ j=>exact jW.get xs qs h.2 j x' q' (by simpa using h1) (by simpa using h2)
 | [],_::_,h,_,_,_,_,_=>by simp[jW]at h
 |_::_,[],h,_,_,_,_,_=>by simp[jW]at h
end
class zIK (P:Program) (t:TypeId) (zs:outParam (List T)):Prop where
 h:∃(place:Nat→Option (Nat×Nat))(z:Value),(∀parts,P.built t parts=Instr.fill place z.cells parts)∧vM zs=z.cells.toList∧tF zs=dh∧ ∀i u,zs[i]? =df u→place i=df (T.sizes (zs.take i),u.size)
section
variable {P:Program}{Γ:Ctx}{E E':Env}{d:Nat}{x y:Operand}{ty:TypeId}{ps:String}{af:Array Edge}{gd:Option (Nat×Bool)}
theorem zEV{t:TypeId}{zs:List T}{pa:Array (Nat×Operand)}(hb:zIK P t zs)(pl:List (Nat×Operand))(qs:List (Nat×zU))(pp:List zU)(gC:qV E pp)(hq:jW E zs pp pl qs)(sd:(J3 d Γ.N&&qU (d::yK pp))=dh)
  (eU:pa=pl.toArray:=by rfl)(gL:qs.foldl (fun ps q=>ps.set q.1 q.2) (zs.map zU.zero)=pp:=by rfl):Ok P Γ ⟨df d,.build t pa,ty,ps,af,gd⟩ E (E.app ((d,df (.agg (pp.map zU.tree)))::pWr d pp 0) ((d,0)::wY pp)):=by
 obtain⟨place,z,h1,h2,h3,h4⟩:=hb.h;simp only[J2]at sd;subst eU;exact fun S=>zJE t place z zs pl qs pp rfl rfl (zP sd.1) h1 h2 h3 h4 gL (gC.parts sd.2) (jW.ix _ _ hq) (jW.get _ _ hq)
def zFS(k:Nat):List zU→Bool
 | []=>dh
 |p::l=>(p.tree.size==k)&&zFS k l
theorem zFT{k:Nat}:(l:List zU)→zFS k l=dh→ ∀p∈l,p.tree.size=k
 | [],_,_,h=>by simp at h
 |p::l,h,q,hm=>by
  simp only[zFS,J2,beq_iff_eq]at h;rcases Jh.1 hm with rfl|hm
  ·exact h.1
  ·exact zFT l h.2 q hm
theorem zDq{α:Type}{t e:TypeId}{ti:TypeInfo}{k n:Nat}{u:T}{pa:Array (Nat×Operand)}(ht:ElT P t e ti k u)(xs:List Operand)(pp:List zU)(ys:List α)(f:α→T)(hx:wD E xs pp)(gC:qV E pp)
  (sd:(J3 d Γ.N&&qU (d::yK pp)&&zFS k pp&&J3 0 n&&Ud (n*k) 65536)=dh)(hn:xs.length=n)(eU:pa=((xs.zipIdx 0).map fun x=>(x.2,x.1)).toArray:=by rfl)(hy:pp.map zU.tree=ys.map f:=by rfl):
  Ok P Γ ⟨df d,.buildSlice t n pa,ty,ps,af,gd⟩ E (E.app ((d,df (L k f ys))::pWr d pp 0) ((d,0)::wY pp)):=by
 obtain⟨z,hz,_⟩:=ht.zero;simp only[J2]at sd;subst eU;intro S;have eC:n*k≤65536:=by simpa[Nat.ble_eq]using sd.2
 have:=zDP (P:=P) (Γ:=Γ.at S) (E:=E) (o:=⟨df d,.buildSlice t n ((xs.zipIdx 0).map fun x=>(x.2,x.1)).toArray,ty,ps,af,gd⟩) t e ti z k n xs pp rfl rfl (zP sd.1.1.1.1) ht.un ht.info hz ht.size ht.pos hn (zP sd.1.2) (by omega) hx (gC.parts sd.1.1.1.2) (zFT pp sd.1.1.2);rw[hy]at this;exact this
theorem zFU{α:Type}{f g:α→T}(h:∀y,roT (g y)=f y):(ys:List α)→roT.roTs (ys.map g)=ys.map f
 | []=>rfl
 |y::ys=>by simp only[Jc,roT.roTs,h y,zFU h ys]
theorem zAK{α:Type}{t e:TypeId}{ti:TypeInfo}{k r:Nat}{q:List Nat}{u:T}{f g:α→T}{xs ys zs:List α}{s0:Nat}(ht:ElT P t e ti k u)(bi:∀y,roT (g y)=f y)(gp:∀y,(g y).size=k)(hg:Enc g)(hv:yQ xs ys=df zs)(h0:E s0=df (L k f xs))(h1:xZ E y=df (r,q,.ro (L k g ys)))(sd:(J3 d Γ.N&&(s0 != d))=dh):
  Ok P Γ ⟨df d,.call { callee:=.builtin .append,args:=#[.tmp s0,y],argTypes:=#[t,t] },ty,ps,af,gd⟩ E (E.app [(d,df (L k f zs)),(s0,df .any)] [(d,0),(s0,1)]):=by
 obtain⟨rfl,hl⟩:=zBC hv;obtain⟨z,hz,eS⟩:=ht.zsize;simp only[J2]at sd;intro S;have:=zEQ (P:=P) (Γ:=Γ.at S) (E:=E) (o:=⟨df d,.call { callee:=.builtin .append,args:=#[.tmp s0,y],argTypes:=#[t,t] },ty,ps,af,gd⟩) t e ti z k s0 y r q (xs.map f) (ys.map g) rfl rfl (zP sd.1) ht.un ht.info hz ht.size ht.pos eS ht.bytes h0 h1 (zDl hg.rook ys)
  (by intro v hv;obtain⟨y,_,rfl⟩:=J7.1 hv;exact gp y) (by simpa using sd.2) (by simpa using hl)
 rw[zFU bi,←Kn]at this;exact this
def xC{α:Type}(xs:List α)(m:Int)(z:α):Option (List α):=if 0≤m∧xs.length+m.toNat≤68719476736 then df (xs++J1 m.toNat z)else dg
theorem zOe{α:Type}{t t2 e:TypeId}{k2:IntKind}{ti:TypeInfo}{k:Nat}{u:T}{f:α→T}{z:α}{xs zs:List α}{s0:Nat}{m:Int}(ht:ElT P t e ti k u)(pf:P.underlying t2=df (.int k2))(hz:f z=u)(hv:xC xs m z=df zs)(h0:E s0=df (L k f xs))(h1:opT E y=df (I m))(sd:(J3 d Γ.N&&(s0 != d))=dh):
  Ok P Γ ⟨df d,.call { callee:=.builtin .append,args:=#[.tmp s0,y],argTypes:=#[t,t2] },ty,ps,af,gd⟩ E (E.app [(d,df (L k f zs)),(s0,df .any)] [(d,0),(s0,1)]):=by
 unfold xC at hv;split at hv
 ·rename_i hc
  simp at hv;subst hv;obtain⟨zv,fV,bN⟩:=ht.zero;simp only[J2]at sd;obtain⟨n,rfl⟩:∃n:Nat,m=n:=⟨m.toNat,by omega⟩;intro S;have:=zCX (P:=P) (Γ:=Γ.at S) (E:=E) (o:=⟨df d,.call { callee:=.builtin .append,args:=#[.tmp s0,y],argTypes:=#[t,t2] },ty,ps,af,gd⟩) t t2 e k2 ti zv u k s0 y .i64 n (xs.map f) rfl rfl (zP sd.1) ht.un pf ht.info fV ht.size ht.pos ht.bytes ht.zok bN ht.us h0 h1
   (by simpa using sd.2) (by simp at hc ⊢;omega)
  have e:xs.map f++J1 n u=(xs++J1 n z).map f:=by simp[hz]
  rw[e]at this;have h2:((n:Int)).toNat=n:=by simp
  rw[h2];exact this
 ·cases hv
end
section
variable {Γ:Ctx}{E:Env}
theorem zF.trq(d r:Nat)(q:List Nat){tr u tr':T}(hd:E d=df (.same r q))(hr:E r=df tr)(hg:tr.get q.reverse=df u)(ef:zK u)(sd:(u.single&&yW tr&&tr.okB [(d,1),(r,q.length+1)]&&(d != r))=dh)(gx:(if q=[]then .same d []else tr.set q.reverse .any)=tr':=by rfl):
  zF Γ E (E.app [(d,df u),(r,df tr')] [(d,1),(r,q.length+1)]):=by
 simp only[J2]at sd
 rintro a w ⟨S,hS,hs⟩
 have gf:d≠r:=by simpa using sd.2
 have:=zGO hs d [] r q (.same r q) tr u hd rfl hr hg sd.1.1.1 ef gf (by simp[T.okB,zCE,gf]) sd.1.2 rfl sd.1.1.2;subst gx;exact⟨S,hS,this⟩
theorem zF.trf(d:Nat)(g:List Nat)(r:Nat)(q:List Nat)(td tr:T){u td' tr':T}(hd:E d=df td)(aK:td.get g.reverse=df (.same r q))(hr:E r=df tr)(hg:tr.get q.reverse=df u)(gx:td.set g.reverse u=td')(ef:zK u)
  (sd:(u.single&&yW td&&yW tr&&td.okB [(d,g.length+1),(r,q.length+1)]&&tr.okB [(d,g.length+1),(r,q.length+1)]&&(d != r))=dh)(fu:(if q=[]then .same d g else tr.set q.reverse .any)=tr':=by rfl):
  zF Γ E (E.app [(d,df td'),(r,df tr')] [(d,g.length+1),(r,q.length+1)]):=by
 simp only[J2]at sd
 rintro a w ⟨S,hS,hs⟩
 have gf:d≠r:=by simpa using sd.2
 have:=zGO hs d g r q td tr u hd aK hr hg sd.1.1.1.1.1 ef gf sd.1.1.2 sd.1.2 sd.1.1.1.1.2 sd.1.1.1.2;subst gx fu;exact⟨S,hS,this⟩
theorem zF.frz{α:Type}(s:Nat){k:Nat}{f g:α→T}(xs:List α)(hs:E s=df (L k f xs))(h:xM f g):zF Γ E (E.app [(s,df (.ro (L k g xs)))] [(s,1)]):=by have:=zF.freeze (Γ:=Γ) s _ hs;simp only[vO,strip,vF h.h xs]at this;exact this
theorem zF.res(d r:Nat)(q:List Nat)(tr:T){u:T}(hd:E d=df (.same r q))(hr:E r=df tr)(hg:tr.get q.reverse=df (.ro u)):zF Γ E (E.app [(d,df (.ro u))] []):=by
 rintro a w ⟨S,hS,gR,G,ga⟩
 refine⟨S,hS,gR,G,?_⟩;have hk:uK [] G w G w:=⟨fun _ _ _=>rfl,fun _ _ _=>rfl,fun _ _ _ _ _ _ h _=>⟨h,rfl⟩,fun _ _ _ h _=>h,fun b cs e h=>⟨cs,h,rfl⟩,by intros;assumption⟩;refine wB ga rfl hk ga.mem (fun s _=>⟨fun n hn=>by simp at hn,rfl⟩) fun s t hs=>?_
 simp only[Wr.find]at hs;split at hs
 ·rename_i e;subst e
  simp at hs;subst hs;obtain⟨h1,h2,_⟩:=ga.ent d _ hd;obtain⟨_,h4,_⟩:=ga.ent r _ hr;simp only[R]at h2;have h5:=(kA q.reverse tr _ [] h4 hg).1;simp only[rp,Kj,J9,R]at h5;exact⟨by rw[h1];rfl,by simp only[R];rw[h2];exact h5,by simp[Top]⟩
 ·cases hs
end
theorem zEW:(p:List Nat)→ ∀(t u0 a:T),t.get p=df u0→(t.set p a).get p=df a
 | [],t,_,a,_=>by cases t<;>cases a<;>rfl
 |i::p,t,u0,a,h=>by
  cases t with
  |sl k xs|agg xs|tup xs=>
   simp only[T.get,T.set]at h ⊢
   cases hx:xs[i]? with
   |none=>rw[hx]at h;cases h
   |some x=>
    rw[hx]at h;have hi:=(Ja.1 hx).1;simp only[];simp only[T.get,Ky hi];exact zEW p x u0 a h
  |ptr t=>
   simp only[T.get,T.set]at h ⊢
   split at h
   ·rename_i e;subst e;simp only[if_true,T.get];exact zEW p t u0 a h
   ·cases h
  |_=>simp[T.get]at h
theorem set_set:(p:List Nat)→ ∀(t u0 a b:T),t.get p=df u0→(t.set p a).set p b=t.set p b
 | [],t,_,a,_,_=>by cases t<;>cases a<;>rfl
 |i::p,t,u0,a,b,h=>by
  cases t with
  |sl k xs|agg xs|tup xs=>
   simp only[T.get,T.set]at h ⊢
   cases hx:xs[i]? with
   |none=>rw[hx]at h;cases h
   |some x=>
    rw[hx]at h;have hi:=(Ja.1 hx).1;simp only[];simp only[T.set,Ky hi,List.set_set,set_set p x u0 a b h]
  |ptr t=>
   simp only[T.get,T.set]at h ⊢
   split at h
   ·rename_i e;subst e;simp only[if_true,T.set,set_set p t u0 a b h]
   ·cases h
  |_=>simp[T.get]at h
def zAu:T→Bool
 |.sl _ _|.ptr _=>dh
 |_=>di
theorem zKf{t:T}(h:zAu t=dh)(p:List Nat){u:T}(hp:p≠[]):zAu (t.set p u)=dh:=by
 cases p with
 |nil=>exact absurd rfl hp
 |cons i p=>cases t<;>simp[zAu]at h<;>simp only[T.set]<;>split<;>rfl
theorem vS{t:T}(h:zAu t=dh)(chg:Chg):t.okB chg=dh∧yW t=dh∧t.single=dh:=by cases t<;>simp[zAu]at h<;>simp[T.okB,yW,T.single]
section
variable {P:Program}{Γ:Ctx}{E E':Env}{d:Nat}{ty:TypeId}{ps:String}{af:Array Edge}{gd:Option (Nat×Bool)}
theorem agM{E:Env}{rw:Rw}{i:Nat}{x:Operand}{u:T}(t:T)(h:opT E x=df t)(h1:clo E t=u)(h2:zJQ E (rw.map (·.2.1)) x t=dh):jQ E rw i x u:=.inr ⟨t,h,h1,h2⟩
theorem zP5{E:Env}{rw:Rw}{i s:Nat}{u u':T}(h:E s=df u)(hc:zK u)(hr:xF u=dh)(hs:u.okTup=dh:=by rfl)(hm:(i,s,u')∈rw:=by exact List.mem_singleton.2 rfl):jQ E rw i (.tmp s) u:=.inl ⟨s,u',rfl,hm,h,hc,hs,hr⟩
abbrev uF(E:Env)(ds r:Nat)(q:List Nat)(tr u:T):Env:=E.app [(ds,df u),(r,df (if q=[]then .same ds []else tr.set q.reverse .any))] [(ds,1),(r,q.length+1)]
theorem zMn{f:FuncId}{xs:List Operand}{ats:Array TypeId}{us res:List T}{tr u u' tr':T}(i ds r:Nat)(q:List Nat)(gu:qT P f)(hc:FnC P f us res [(i,u')])(hs:E ds=df (.same r q))(hr:E r=df tr)(hq:tr.get q.reverse=df u)
  (ef:zK u)(eE:zK u')(_:xF u=dh)(fZ:xF u'=dh)(gk:xG (uF E ds r q tr u) [(i,ds,u')] 0 xs us)(gy:kS res)(gx:tr.set q.reverse u'=tr')
  (sd:(J3 d Γ.N&&(d != ds)&&(d != r)&&(ds != r)&&zAu u&&zAu u'&&zAu tr)=dh)(hx:xs[i]? =df (.tmp ds))(hu:us[i]? =df u):
  Ok P Γ ⟨df d,.call { callee:=.value (.func f),args:=xs.toArray,argTypes:=ats },ty,ps,af,gd⟩ E ((((uF E ds r q tr u).app (cWr d res [(i,ds,u')]) (vA d [(i,ds,u')]))).app [(r,df tr'),(ds,df (.same r q))] [(r,q.length+1),(ds,1)]):=by
 simp only[J2]at sd;obtain⟨⟨⟨⟨⟨⟨s1,s2⟩,s3⟩,s4⟩,s5⟩,s6⟩,s7⟩:=sd;have d1:d≠ds:=by simpa using s2
 have d2:d≠r:=by simpa using s3
 have d3:ds≠r:=by simpa using s4
 obtain⟨u1,u2,u3⟩:=vS s5 [];obtain⟨v1,v2,v3⟩:=vS s6 [];have hlv:cLv u'=1:=by simp[cLv,v3]
 subst gx;intro S
 by_cases mb:q=[]
 ·subst mb
  have htu:tr=u:=by
   have:tr.get []=df tr:=by cases tr<;>rfl
   simp only[H6]at hq;rw[this]at hq;exact Kb.inj hq
  subst htu;have mE:∀a b:T,a.set [] b=b:=fun a b=>by cases a<;>rfl
  have bu:(uF E ds r [] tr tr) ds=df tr:=by simp[uF,Env.app,Wr.find]
  have pP:((uF E ds r [] tr tr).app (cWr d res [(i,ds,u')]) (vA d [(i,ds,u')])) r=df (.same ds []):=by
   have h1:(uF E ds r [] tr tr) r=df (.same ds []):=by simp[uF,Env.app,Wr.find,d3]
   have h2:(cWr d res [(i,ds,u')]).find r=dg:=by simp[cWr,Wr.find,d2,d3]
   have h3:(T.same ds []).okB (vA d [(i,ds,u')])=dh:=by simp[T.okB,zCE,vA,d1,hlv]
   simp only[Env.app,h2,h1,h3,if_true]
  have pQ:((uF E ds r [] tr tr).app (cWr d res [(i,ds,u')]) (vA d [(i,ds,u')])) ds=df u':=by simp[Env.app,Wr.find,cWr,d1]
  have:=zFN (P:=P) (Γ:=Γ.at S) (E:=E) (o:=⟨df d,.call { callee:=.value (.func f),args:=xs.toArray,argTypes:=ats },ty,ps,af,gd⟩) f (.func f) xs ats us res i ds r [] tr tr u' rfl rfl (zP s1) gu rfl hs hr hq u3 ef d3 d2 (vS s7 _).1 (vS s7 []).2.1
   (uF E ds r [] tr tr) _ rfl rfl hc gk (.one d1 hx eE v3 fZ bu u3 hu) gy (.same ds []) (.same ds []) pP rfl rfl pQ eE v3 (by simp[T.okB,zCE]) rfl (vS s6 _).1 v2
  rw[H6,mE]at this ⊢
  exact this
 ·have ai:q.reverse≠[]:=by simpa using mb
  have bu:(uF E ds r q tr u) ds=df u:=by simp[uF,Env.app,Wr.find]
  have aY:=zKf s7 q.reverse (u:=.any) ai;have pP:((uF E ds r q tr u).app (cWr d res [(i,ds,u')]) (vA d [(i,ds,u')])) r=df (tr.set q.reverse .any):=by
   have h1:(uF E ds r q tr u) r=df (tr.set q.reverse .any):=by simp[uF,Env.app,Wr.find,d3,mb]
   have h2:(cWr d res [(i,ds,u')]).find r=dg:=by simp[cWr,Wr.find,d2,d3]
   simp[Env.app,h2,h1,(vS aY _).1]
  have pQ:((uF E ds r q tr u).app (cWr d res [(i,ds,u')]) (vA d [(i,ds,u')])) ds=df u':=by simp[Env.app,Wr.find,cWr,d1]
  have:=zFN (P:=P) (Γ:=Γ.at S) (E:=E) (o:=⟨df d,.call { callee:=.value (.func f),args:=xs.toArray,argTypes:=ats },ty,ps,af,gd⟩) f (.func f) xs ats us res i ds r q tr u u' rfl rfl (zP s1) gu rfl hs hr hq u3 ef d3 d2 (vS s7 _).1 (vS s7 []).2.1
   (uF E ds r q tr u) _ rfl rfl hc gk (.one d1 hx eE v3 fZ bu u3 hu) gy (tr.set q.reverse .any) .any pP (zEW _ _ _ _ hq) rfl pQ eE v3 (vS aY _).1 (vS aY []).2.1 (vS s6 _).1 v2
  rw[set_set _ _ _ _ _ hq]at this;exact this
def zAL(E:Env):List Operand→List T→Prop
 | [],[]=>True
 |x::xs,u::us=>(opT E x=df u∧u.flat=dh)∧zAL E xs us
 |_,_=>False
theorem afN:zAL E [] []:=trivial
theorem afC{x:Operand}{xs:List Operand}{u:T}{us:List T}(h:opT E x=df u)(h1:u.flat=dh)(h2:zAL E xs us):zAL E (x::xs) (u::us):=⟨⟨h,h1⟩,h2⟩
theorem zAL.get:(xs:List Operand)→(us:List T)→zAL E xs us→ ∀(i:Nat) u,us[i]? =df u→ ∃x,xs[i]? =df x∧opT E x=df u∧u.flat=dh
 | [],[],_,i,u,h=>by simp at h
 |x::xs,v::us,h,i,u,hi=>by
  cases i with
  |zero=>simp at hi;subst hi;exact⟨x,by simp,h.1⟩
  |succ i=>obtain⟨y,h1,h2⟩:=zAL.get xs us h.2 i u (by simpa using hi);exact⟨y,by simpa using h1,h2⟩
 | [],_::_,h,_,_,_=>by simp[zAL]at h
 |_::_,[],h,_,_,_=>by simp[zAL]at h
theorem zIa{f:FuncId}{xs:List Operand}{ats:Array TypeId}{us res:List T}(gu:qT P f)(hc:FnC P f us res [])(ha:zAL E xs us)(gn:xs.length=us.length)(gy:yE res)(mJ:zY res=dh)(sd:J3 d Γ.N=dh):
  Ok P Γ ⟨df d,.call { callee:=.value (.func f),args:=xs.toArray,argTypes:=ats },ty,ps,af,gd⟩ E (E.app (cWr d res []) (vA d [])):=
 zMk gu hc gn (zAL.get _ _ ha) ⟨gy,mJ⟩ sd
end
noncomputable def zBn {α:Type} (g:Nat→Option α):Option α:=
 open Classical in if h:∃r,∃n,∀m,n≤m→g m=df r then df h.choose else dg
theorem tS{α:Type}{g:Nat→Option α}{r:α}(h:zBn g=df r):∃n,g n=df r:=by
 unfold zBn at h;split at h
 ·rename_i he
  simp at h;obtain⟨n,hn⟩:=he.choose_spec;exact⟨n,by rw[←h];exact hn n (Jg _)⟩
 ·cases h
theorem kT{α:Type}{g:Nat→Option α}{r:α}(n:Nat)(h:∀m,n≤m→g m=df r):zBn g=df r:=by have he:∃r,∃n,∀m,n≤m→g m=df r:=⟨r,n,h⟩;unfold zBn;rw[dif_pos he];obtain⟨n',hn'⟩:=he.choose_spec;have h1:=h (max n n') (by omega);have h2:=hn' (max n n') (by omega);rw[h1]at h2;exact h2.symm
end Go.Ab

namespace Go.Ab
open Go
section
variable {P:Program}{Γ:Ctx}{ops:Array Oper}{o:Oper}{E:Env}
theorem xQ.skipW{d:Nat}(hd:o.dst=df d)(sd:J3 d Γ.N=dh)(hw:∀(a:Act)(w:World),uB Γ E a w→Region.wanted o (yielded ops a.tmps)=di):xQ P Γ ops o E (E.app [(d,df (.tup []))] [(d,0)]):=by
 intro a w K Q hs hK;rw[if_neg (by grind)];obtain⟨S,hS,gR,G,ga⟩:=hs;refine hK _ _ ⟨S,hS,by rw[hd];exact gR,G.put d (fun _=>.bool di),?_⟩ ?_
 ·rw[hd]
  have hu:(Value.bool di).oneCell'=dh:=rfl;refine wB ga (by simp[Act.put]) (G.put_keep rfl d _) (ga.mem.put rfl d _ fun _=>hu) ?_ ?_
  ·grind[uS,Act.put]
  ·intro s t' hs
   rw[uS]at hs;split at hs
   ·rename_i e;subst e
    simp at hs;subst hs;have gp:=ga.size;have gG:=zP sd;refine⟨?_,by simp[R,RF],by simp[Top,xV]⟩
    grind[Act.put,mkV,vW,undef]
   ·cases hs
 grind[Act.put]
theorem xQ.skip2{d:Nat}(g:Nat)(b b':Bool)(s:Nat)(hd:o.dst=df d)(sd:J3 d Γ.N=dh)(ci:(b==b')=di)(hg:o.guard=df (g,b))(ep:(ops[g]?).bind (·.dst)=df s)(hb:E s=df (.lit (.bool b'))):
  xQ P Γ ops o E (E.app [(d,df (.tup []))] [(d,0)]):=.skipW hd sd fun a w hs=>by
 simp only[Region.wanted,hg,zDe hs ep hb]
 grind
theorem xQ.skip3{d:Nat}(g:Nat)(b:Bool)(s:Nat)(hd:o.dst=df d)(sd:J3 d Γ.N=dh)(hg:o.guard=df (g,b))(ep:(ops[g]?).bind (·.dst)=df s)(hb:E s=df (.tup [])):
  xQ P Γ ops o E (E.app [(d,df (.tup []))] [(d,0)]):=.skipW hd sd fun a w hs=>by
 obtain⟨_,_,_,G,hr⟩:=hs;obtain⟨h1,_,_⟩:=hr.ent s _ hb
 grind[Region.wanted,yielded,mkV]
theorem xQ.opE{E1 E':Env}(h:Ok P Γ o E E1)(e:E1=E')(hg:o.guard=dg:=by rfl):xQ P Γ ops o E E':=e▸xQ.op h hg
end
def xP(Γ:Ctx)(P:Program)(rs:Array ResultVar)(us res:List T)(rws:List (Nat×T)):Exit→Env→Prop:=fun e E=> ∃E',zF Γ E E'∧zPq P rs us res rws e E'
theorem FnC.of_bodyG{P:Program}{f:FuncId}{fn:Func}{c:Code}{us res:List T}{rws:List (Nat×T)}(hf:P.funcs[f]? =df fn)(hb:fn.body=df c)(hn:us.length≤fn.ntmps)(ht:xV us)(hr:rws.all (fun x=>decide (x.1<us.length))=dh)
  (h:∀(Γ:Ctx)(v:Nat→Value),Γ.N=fn.ntmps→CW P Γ (kO v (rws.map (·.1))) c (xT (zDQ 0 us)) (xP Γ P fn.results us res rws)):FnC P f us res rws:=by
 refine FnC.of_body hf hb hn ht hr fun Γ v hN=>?_
 intro a w Q' hs hp hQ;refine h Γ v hN a w Q' hs hp ?_
 rintro e E a' w' ⟨E',hg,hq⟩ gB eR
 exact hQ e E' a' w' hq (hg a' w' gB) eR
def zMo(t:T):Prop:=zK t∧xF t=dh∧strip t=t∧t.okTup=dh∧zCt t=dh
def zKg:List T→Prop
 | []=>True
 |x::xs=>zMo x∧zKg xs
theorem Enc.t{α:Type}{f:α→T}(h:Enc f)(x:α):zMo (f x):=⟨h.clean x,h.rofree x,h.strip x,h.okTup x,h.rook x⟩
theorem Enc.of{α:Type}{f:α→T}(h:∀x,zMo (f x)):Enc f:=⟨fun x=>(h x).1,fun x=>(h x).2.1,fun x=>(h x).2.2.1,fun x=>(h x).2.2.2.1,fun x=>(h x).2.2.2.2⟩
theorem zMp{xs:List T}(h:zKg xs):zMo (.agg xs):=by
 have key:∀xs:List T,zKg xs→yE xs∧xW xs=dh∧wC xs=xs∧zY xs=dh∧jP xs=dh:=by
  intro xs
  induction xs with
  |nil=>intro _;exact⟨trivial,rfl,rfl,rfl,rfl⟩
  |cons x xs ih=>
   rintro⟨⟨h1,h2,h3,h4,h5⟩,h⟩
   obtain⟨g1,g2,g3,g4,g5⟩:=ih h;exact⟨⟨h1,g1⟩,by grind[xW],by grind[wC],by grind[zY],by grind[jP]⟩
 obtain⟨g1,g2,g3,g4,g5⟩:=key xs h;exact⟨zAJ g1,by grind[xF],by grind[strip],by grind[T.okTup],by grind[zCt]⟩
end Go.Ab

namespace Go.Ab
open Go
section
variable {Γ:Ctx}{E:Env}{d:Nat}
def Gh.cut(G:Gh)(d s0 b lo hi:Nat)(v:Value):Gh where
 hd s z:=if s=d then(if z=[]then v else G.hd s0 z)else G.hd s z
 ad s z:=if s=d then G.ad s0 z else G.ad s z
 lb b' o:=if b'=b∧lo≤o∧o<hi then df (dh,d,[])else match G.lb b' o with
  |some (f,s,z)=>if s=s0 then df (f,d,z)else df (f,s,z)
  |none=>dg
 ow b':=match G.ow b' with
  |some (s,z)=>if s=s0 then df (d,z)else df (s,z)
  |none=>dg
theorem zIb{G:Gh}{tmps:Array Value}{w:World}(ga:Rep Γ E G tmps w)(hd:d<Γ.N){s0 k h cap':Nat}{xs:List T}(gX:E s0=df (.sl k xs))(gf:s0≠d)(hk:0<k)
  {b o0 cap:Nat}{cs:Array Value}{e:TypeId}(h1:G.hd s0 []=.slice (df ⟨b,o0,dg⟩) xs.length cap)(h2:w.heap[b]? =df (.cells cs e (0,0)))(_h3:xs.length≤cap)(h4:cap≤maxLen)(h5:o0+cap*k≤cs.size)(h6:G.ow b=df (s0,[]))
  (h7:∀o,o0+xs.length*k≤o→o<o0+cap*k→G.lb b o=df (dh,s0,[]))(h8:RL Γ.St G w s0 xs [] 0 b o0 k)(hh:h≤xs.length)(hc:h≤cap')(fL:cap'≤cap):
  ∃G',Rep Γ (E.app [(d,df (.sl k (xs.take h))),(s0,df .any)] [(d,0),(s0,1)]) G' (tmps.setIfInBounds d (.slice (df ⟨b,o0,dg⟩) h cap')) w:=by
 have hm:=ga.mem;obtain⟨e1,_,e3⟩:=ga.ent s0 _ gX
 let v:Value:=.slice (df ⟨b,o0,dg⟩) h cap'
 let G':=G.cut d s0 b (o0+h*k) (o0+cap'*k) v
 have gz:=hm.ow b _ h6;have cV:∀o f z i,o0+h*k≤o→o<o0+cap'*k→G.lb b o=df (f,s0,z++[i])→h≤i:=by
  intro o f z i eZ fk hl;obtain⟨o,rfl⟩:∃o',o=o0+o':=⟨o-o0,by have:o0≤o0+h*k:=Nat.le_add_right _ _;omega⟩
  replace eZ:h*k≤o:=by omega
  by_cases ho:o<xs.length*k
  ·have hj:o/k<xs.length:=(Nat.div_lt_iff_lt_mul hk).2 ho
   obtain⟨g1,g2,_⟩:=uZ xs [] 0 b o0 k (o/k) xs[o/k] h8 (by simp[hj]);obtain⟨y,hy⟩:=zEL xs[o/k] _ b _ (o%k) g1 (by rw[g2];exact Nat.mod_lt _ hk);rw[J8,L7,Ga,Nat.div_add_mod,hl]at hy;simp only[Kb.injEq,Gz.injEq]at hy;have:=hy.2.2;have hi:i=o/k:=by have:=congrArg List.getLast? this;simpa using this
   rw[hi];exact(Nat.le_div_iff_mul_le hk).2 eZ
  ·have:=h7 (o0+o) (by omega) (by have:=Jp k fL;omega)
   rw[hl]at this;simp at this
 have glb:∀b' o f z,G.lb b' o=df (f,s0,z)→ ¬(b'=b∧o0+h*k≤o∧o<o0+cap'*k)→G'.lb b' o=df (f,d,z):=fun b' o f z hl hn=>by show(if _ then _ else _)=_;rw[if_neg hn];simp[hl]
 have gow:∀b' z,G.ow b'=df (s0,z)→G'.ow b'=df (d,z):=fun b' z hl=>by simp[G',Gh.cut,hl]
 have mv:∀i,i<h→zCC G w G' w s0 [i] d [i]:=fun i hi=>by
  have hn:∀b' o f z,G.lb b' o=df (f,s0,z++[i])→ ¬(b'=b∧o0+h*k≤o∧o<o0+cap'*k):=by
   rintro b' o f z hl ⟨rfl,eZ,fk⟩
   have:=cV o f z i eZ fk hl;omega
  refine⟨⟨fun z=>by simp[G',Gh.cut],fun z _=>by simp[G',Gh.cut],fun b' o f z _ _ hl=>⟨glb _ _ _ _ hl (hn _ _ _ _ hl),rfl⟩,fun b' z _ hl=>gow _ _ hl,fun b' cs' e' hb=>⟨cs',hb,rfl⟩,by intros;assumption⟩,fun b' o _ hl=>⟨glb _ _ _ _ hl (hn b' o dh [] (by simpa using hl)),rfl⟩,fun b' hl=>gow _ _ hl⟩
 have gw:uK [(d,0),(s0,1)] G w G' w:=by
  refine⟨fun s p ho=>?_,fun s p ho=>?_,fun b' o f s p gV hl hs=>?_,fun b' s p hl hs=>?_,fun b' cs' e' hb=>⟨cs',hb,rfl⟩,by intros;assumption⟩
  ·have:s≠d:=fun e=>absurd (ho 0 (by simp[e])) (by simp)
   simp[G',Gh.cut,this]
  ·have:s≠d:=fun e=>absurd (ho 0 (by simp[e])) (by simp)
   simp[G',Gh.cut,this]
  ·have gY:s≠s0:=fun e=>hs 1 (by simp[e])
   obtain⟨y,hy⟩:=gV;have ci:b'≠b:=by
    rintro rfl
    rw[h6]at hy;simp at hy;exact gY hy.1.symm
   refine⟨?_,rfl⟩;show(if _ then _ else _)=_;rw[if_neg (fun hn=>ci hn.1)];simp[hl,gY]
  ·have gY:s≠s0:=fun e=>hs 1 (by simp[e])
   simp[G',Gh.cut,hl,gY]
 have gr:Mem Γ G' w:=by
  refine⟨fun s z=>?_,fun b' o l hl=>?_,fun b' l hl=>?_,hm.st,hm.fr,hm.sz,hm.bk⟩
  ·show(if _ then _ else _:Value).oneCell'=dh
   split
   ·split
    ·rfl
    ·exact hm.one _ _
   ·exact hm.one _ _
  ·change(if _ then _ else _)=_ at hl
   split at hl
   ·rename_i hn;rw[hn.1];exact gz
   ·cases hg:G.lb b' o with
    |none=>simp[hg]at hl
    |some x=>exact hm.lb b' o x hg
  ·cases hg:G.ow b' with
   |none=>simp[G',Gh.cut,hg]at hl
   |some x=>exact hm.ow b' x hg
 refine⟨G',wB ga (by simp) gw gr ?_ ?_⟩
 ·intro s hs
  have eI:s≠d:=by rintro rfl;simp[Wr.find]at hs
  have eJ:s≠s0:=by rintro rfl;simp[Wr.find,gf.symm]at hs
  exact⟨fun n hn=>by simp at hn;rcases hn with h|h;exact eI h.1;exact eJ h.1,by rw[J6];simp[eI.symm]⟩
 ·intro s t' hs
  by_cases gY:s=d
  ·subst gY
   simp[Wr.find]at hs;subst hs;have gn:(xs.take h).length=h:=by simp;omega
   simp only[Top]at e3;have aC:∀ys:List T,yE ys→ ∀n,yE (ys.take n):=by
    intro ys
    induction ys with
    |nil=>intro _ n;simp[yE,yL]
    |cons y ys ih=>intro hy n;cases n with
     |zero=>simp[yE,yL]
     |succ n=>exact⟨hy.1,ih hy.2 n⟩
   refine⟨?_,?_,by simp only[Top];exact aC xs e3 h⟩
   ·rw[J6]
    simp[ga.size,hd,mkV,G',Gh.cut,v]
   ·simp only[R]
    refine .inr ⟨b,o0,cap',cs,e,by rw[gn];simp[G',Gh.cut,v],h2,by omega,by omega,by have:=Jp k fL;omega,gow b _ h6,fun o eZ fk=>?_,?_⟩
    ·rw[gn]at eZ
     show(if _ then _ else _)=_;rw[if_pos ⟨rfl,eZ,fk⟩]
    ·refine zEM _ [] 0 b o0 fun i x hx=>?_
     rw[U2]at hx;split at hx
     ·rename_i hi
      obtain⟨g1,g2,g3⟩:=uZ xs [] 0 b o0 k i x h8 hx;rw[J8]at g1 g3 ⊢
      refine⟨?_,g2,tE (mv i hi) x (yA.mono (fun _ _=>False.elim) _ (xY xs e3 i x hx)) g3⟩;refine zBf x [i] [i] b _ (fun z=>by simp[G',Gh.cut]) (fun z=>by simp[G',Gh.cut]) (fun b' o z hl=>⟨glb _ _ _ _ hl ?_,rfl⟩) g1
      rintro⟨rfl,eZ,fk⟩
      have:=cV o di z i eZ fk hl;omega
     ·cases hx
  ·have h9:s=s0∧t'=.any:=by
    simp only[Wr.find]at hs;rw[if_neg (fun h=>gY h.symm)]at hs;split at hs
    ·rename_i h;simp at hs;exact⟨h.symm,hs.symm⟩
    ·cases hs
   obtain⟨rfl,rfl⟩:=h9;refine⟨?_,by simp only[R],by simp[Top]⟩;rw[J6];simp only[Ne.symm gY,if_false,mkV];rw[e1,yM rfl];simp[G',Gh.cut,gY]
theorem zKh{G:Gh}{tmps:Array Value}{w:World}(ga:Rep Γ E G tmps w)(hd:d<Γ.N){s0 k:Nat}(gX:E s0=df (.sl k []))(gf:s0≠d)(a:Option Addr):
  ∃G',Rep Γ (E.app [(d,df (.sl k [])),(s0,df .any)] [(d,0),(s0,1)]) G' (tmps.setIfInBounds d (.slice a 0 0)) w:=by
 obtain⟨e1,_,_⟩:=ga.ent s0 _ gX;refine⟨G.put d (fun _=>.slice a 0 0),?_⟩;have hk:uK [(d,0),(s0,1)] G w (G.put d fun _=>.slice a 0 0) w:=by have h0:=G.put_keep (w:=w) (w':=w) rfl d (fun _=>.slice a 0 0);refine⟨fun s p ho=>h0.hd s p (fun n hn=>ho n (by simp at hn ⊢;exact .inl hn)),fun s p ho=>h0.ad s p (fun n hn=>ho n (by simp at hn ⊢;exact .inl hn)),fun b o f s p h1 h2 h3=>h0.lb b o f s p h1 h2 (fun n hn=>h3 n (by simp at hn ⊢;exact .inl hn)),fun b s p h1 h3=>h0.ow b s p h1 (fun n hn=>h3 n (by simp at hn ⊢;exact .inl hn)),h0.blk,by intros;assumption⟩
 refine wB ga (by simp) hk (ga.mem.put rfl d _ (fun _=>rfl)) ?_ ?_
 ·intro s hs
  have eI:s≠d:=by rintro rfl;simp[Wr.find]at hs
  have eJ:s≠s0:=by rintro rfl;simp[Wr.find,gf.symm]at hs
  exact⟨fun n hn=>by simp at hn;rcases hn with h|h;exact eI h.1;exact eJ h.1,by rw[J6];simp[eI.symm]⟩
 ·intro s t' hs
  by_cases gY:s=d
  ·subst gY
   simp[Wr.find]at hs;subst hs;refine⟨by rw[J6];simp[ga.size,hd,mkV,Gh.put],by simp only[R];exact .inl ⟨trivial,a,by simp[Gh.put]⟩,by simp[Top,yE,yL]⟩
  ·have h9:s=s0∧t'=.any:=by
    simp only[Wr.find]at hs;rw[if_neg (fun h=>gY h.symm)]at hs;split at hs
    ·rename_i h;simp at hs;exact⟨h.symm,hs.symm⟩
    ·cases hs
   obtain⟨rfl,rfl⟩:=h9;refine⟨?_,by simp only[R],by simp[Top]⟩;rw[J6];simp only[Ne.symm gY,if_false,mkV];rw[e1,yM rfl];simp[Gh.put,gY]
end
section
variable {P:Program}{Γ:Ctx}{pn:vV}{E E':Env}{Q:Exit→Env→Prop}{d:Nat}{x y:Operand}{ty:TypeId}{ps:String}{af:Array Edge}{gd:Option (Nat×Bool)}
theorem zP6{α:Type}{t e:TypeId}{ti:TypeInfo}{s0 k:Nat}{f:α→T}{xs ys:List α}{mx:Option Operand}{h:Int}{u:T}(ht:ElT P t e ti k u)(hv:zS xs 0 h=df ys)(h0:E s0=df (L k f xs))(hy:opT E y=df (I h))(bF:mx=dg∨ ∃z,mx=df z∧opT E z=df (I h))(sd:(J3 d Γ.N&&(s0 != d))=dh):
  Ok P Γ ⟨df d,.slice t (.tmp s0) dg (df y) mx,ty,ps,af,gd⟩ E (E.app [(d,df (L k f ys)),(s0,df .any)] [(d,0),(s0,1)]):=by
 obtain⟨_,pV,eC,rfl⟩:=uW hv;simp only[J2]at sd;have gf:s0≠d:=by simpa using sd.2
 obtain⟨n,rfl⟩:∃n:Nat,h=n:=⟨h.toNat,by omega⟩;have hn:n≤xs.length:=by omega
 intro S;refine yN.value rfl fun a w G ga=>?_
 obtain⟨e1,e2,_⟩:=ga.ent s0 _ h0;have pW:=(yV ga hy).1;have mm:a.eval (.tmp s0)=G.hd s0 []:=by rw[xH e1,yM rfl]
 have fq:=ht.un;have gT:=ht.info;have gp:=ht.size;have fF:List.map f ((xs.drop (0:Int).toNat).take ((n:Int).toNat-(0:Int).toNat))=(xs.map f).take n:=by simp[Gk]
 rw[show L k f ((xs.drop (0:Int).toNat).take ((n:Int).toNat-(0:Int).toNat))=.sl k ((xs.map f).take n)by simp only[L,fF]];have e2':=e2;simp only[R]at e2;rcases e2 with⟨ez,ad,h1⟩|⟨b,o0,cap,cs,e',h1,h2,h3,h4,h5,h6,h7,h8⟩
 ·have eu:xs=[]:=by simpa using ez
  subst eu;simp at hn;subst hn;obtain⟨G',gg⟩:=zKh ga (zP sd.1) (k:=k) (by rw[h0];rfl) gf ad;refine⟨_,w,?_,G',by simpa using gg⟩;rcases bF with rfl|⟨z,rfl,hz⟩
  ·simp[execOp,Instr.sliceAt,Instr.slice,run_underlying fq,mm,h1,pW,sizeOf,typeInfo,gT,Instr.sliceBounds,Instr.sliceBound,asIntOf]
  ·have fV:=(yV ga hz).1
   simp[execOp,Instr.sliceAt,Instr.slice,run_underlying fq,mm,h1,pW,fV,sizeOf,typeInfo,gT,Instr.sliceBounds,Instr.sliceBound,asIntOf]
 ·rw[Jl]at h1 h3
  have fR:n≤cap:=by omega
  have hcz:cap=0→n=0:=by omega
  rcases bF with rfl|⟨z,rfl,hz⟩
  ·obtain⟨G',gg⟩:=zIb ga (zP sd.1) h0 gf ht.pos (by rw[Jl];exact h1) h2 (by rw[Jl];exact h3) h4 h5 h6 h7 h8 (h:=n) (cap':=cap) (by simpa using hn) fR (Jg _)
   refine⟨_,w,?_,G',gg⟩;simp[execOp,Instr.sliceAt,Instr.slice,run_underlying fq,mm,h1,pW,sizeOf,typeInfo,gT,Instr.sliceBounds,Instr.sliceBound,asIntOf,fR,wV]
  ·have fV:=(yV ga hz).1
   obtain⟨G',gg⟩:=zIb ga (zP sd.1) h0 gf ht.pos (by rw[Jl];exact h1) h2 (by rw[Jl];exact h3) h4 h5 h6 h7 h8 (h:=n) (cap':=n) (by simpa using hn) (Jg _) fR;refine⟨_,w,?_,G',gg⟩;simp[execOp,Instr.sliceAt,Instr.slice,run_underlying fq,mm,h1,pW,fV,sizeOf,typeInfo,gT,Instr.sliceBounds,Instr.sliceBound,asIntOf,fR,wV]
end
end Go.Ab

namespace Go.Ab
open Go
section
variable {P:Program}{Γ:Ctx}{pn:vV}{E E':Env}{Q:Exit→Env→Prop}{d:Nat}{x y:Operand}{ty:TypeId}{ps:String}{af:Array Edge}{gd:Option (Nat×Bool)}{ops:Array Oper}{os:List Oper}
theorem zEr{P:Program}{w:World}{t e:TypeId}{a:Option Addr}{n c:Nat}(m:Nat)(h:P.underlying t=df (.slice e)):(Op.equalIn (m+1) t (.slice a n c) (.slice dg 0 0)).run P w=.ok a.isNone w:=by simp only[Op.equalIn,Sem.run_bind,run_underlying h];cases a<;>rfl
theorem RW.isnil{α:Type}{xt yt e:TypeId}{r k:Nat}{q:List Nat}{f:α→T}{xs:List α}{u:T}(hu:P.underlying xt=df (.slice e))(hx:xZ E x=df (r,q,u))(ft:u=.ro (L k f xs)∨u=L k f xs)(sd:J3 d Γ.N=dh)(hp:pn.ok (df d)=dh)
  (h:∀b,(b=dh→xs=[])→RW P Γ pn ops os (E.app [(d,df (B b))] [(d,0)]) Q):RW P Γ pn ops (⟨df d,.binOp .eql xt x (.const (.slice dg 0 0)) yt,ty,ps,af,dg⟩::os) E Q:=by
 intro a w Q' hs eU hQ;obtain⟨S,hS,gR,G,ga⟩:=id hs;have eQ:u.single=dh:=by rcases ft with rfl|rfl<;>rfl
 obtain⟨h1,h2⟩:=wU ga hx eQ;obtain⟨ad,n,c,h3,h4⟩:∃ad n c,a.eval x=.slice ad n c∧(ad.isNone=dh→xs=[]):=by
  rcases ft with rfl|rfl
  ·obtain⟨ad,c,g1,_,_,g2⟩:=zBc h1
   refine⟨ad,_,c,by rw[h2,g1],fun hn=>?_⟩;apply Classical.byContradiction;intro gf;obtain⟨b,o',_,_,_,rfl,_⟩:=g2 (by simpa using gf);simp at hn
  ·simp only[R]at h1
   rcases h1 with⟨g1,ad,g2⟩|⟨b,_,cap,cs,e',g1,_⟩
   ·exact⟨ad,0,0,by rw[h2,g2],fun _=>by simpa using g1⟩
   ·exact⟨_,_,_,by rw[h2,g1],fun hn=>by simp at hn⟩
 have gm:(execOp a.eval ⟨df d,.binOp .eql xt x (.const (.slice dg 0 0)) yt,ty,ps,af,dg⟩).run P w=.ok (.value (.bool ad.isNone)) w:=by have h5:(Op.equalIn 10000 xt (.slice ad n c) (.slice dg 0 0)).run P w=.ok ad.isNone w:=zEr 9999 hu;have h6:a.eval (.const (.slice dg 0 0))=.slice dg 0 0:=rfl;simp[execOp,h3,h6,eqGuard,binOp,zDp,h5]
 simp only[wpL,Region.wanted,if_true];refine .inl ?_;unfold Oper.wp;rw[gm,Oper.upon_value];have eh:=yZ ga rfl (zP sd) (fun _=>.bool ad.isNone) (fun _=>rfl) (B ad.isNone) (.bool ad.isNone) (by simp[mkV,Gh.put]) (by simp[R,Gh.put]) (by simp[Top]);refine h ad.isNone h4 _ w Q' ⟨S,hS,gR,_,eh⟩ ?_ hQ;refine eU.frame hp fun s gB=>?_
 have:d≠s:=fun e=>gB (by rw[e])
 simp[Act.put,Array.getElem?_setIfInBounds_ne this]
theorem zFV{t e:TypeId}(hu:P.underlying t=df (.slice e))(hx:opT E x=df (.lit (.slice dg 0 0)))(sd:J3 d Γ.N=dh):Ok P Γ ⟨df d,.call { callee:=.builtin .len,args:=#[x],argTypes:=#[t] },ty,ps,af,gd⟩ E (E.app [(d,df (I 0))] [(d,0)]):=by
 intro S;refine kD (.int .i64 0) rfl rfl (zP sd) fun a w G ga=>?_
 have h1:=(yV ga hx).1;simp[execOp,resolve,invoke,builtin,h1,Builtin.len_,run_underlying hu,goInt]
theorem zFW{t e:TypeId}(hu:P.underlying t=df (.slice e))(hx:opT E x=df (.lit (.slice dg 0 0)))(sd:J3 d Γ.N=dh):Ok P Γ ⟨df d,.call { callee:=.builtin .cap,args:=#[x],argTypes:=#[t] },ty,ps,af,gd⟩ E (E.app [(d,df (I 0))] [(d,0)]):=by
 intro S;refine kD (.int .i64 0) rfl rfl (zP sd) fun a w G ga=>?_
 have h1:=(yV ga hx).1;simp[execOp,resolve,invoke,builtin,h1,Builtin.cap_,run_underlying hu,goInt]
theorem zMq{t e:TypeId}{ti:TypeInfo}{u:T}{k:Nat}(ht:ElT P t e ti k u)(hx:opT E x=df (.lit (.slice dg 0 0)))(hy:opT E y=df (I 0))(sd:J3 d Γ.N=dh):Ok P Γ ⟨df d,.slice t x dg (df y) dg,ty,ps,af,gd⟩ E (E.app [(d,df (.sl k []))] [(d,0)]):=by
 intro S;refine yN.value rfl fun a w G ga=>?_
 have h1:=(yV ga hx).1;have h2:=(yV ga hy).1;refine⟨.slice dg 0 0,w,?_,_,yZ ga rfl (zP sd) (fun _=>.slice dg 0 0) (fun _=>rfl) (.sl k []) (.slice dg 0 0) (by simp[mkV,Gh.put]) (by simp[R,Gh.put]) (by simp[Top,yE,yL])⟩;simp[execOp,Instr.sliceAt,Instr.slice,run_underlying ht.un,h1,h2,sizeOf,typeInfo,ht.info,Instr.sliceBounds,Instr.sliceBound,asIntOf]
theorem zF.nil(s k:Nat)(hs:E s=df (.lit (.slice dg 0 0))):zF Γ E (E.app [(s,df (.sl k []))] [(s,0)]):=by
 rintro a w ⟨S,hS,gR,G,ga⟩
 refine⟨S,hS,gR,G,?_⟩;have hk:uK [(s,0)] G w G w:=⟨fun _ _ _=>rfl,fun _ _ _=>rfl,fun _ _ _ _ _ _ h _=>⟨h,rfl⟩,fun _ _ _ h _=>h,fun b cs e h=>⟨cs,h,rfl⟩,by intros;assumption⟩;refine wB ga rfl hk ga.mem (fun s' gB=>⟨fun n hn=>?_,rfl⟩) fun s' t gB=>?_
 ·simp at hn
  simp[Wr.find,hn.1]at gB
 ·simp only[Wr.find]at gB
  split at gB
  ·rename_i e;subst e
   simp at gB;subst gB;obtain⟨h1,h2,_⟩:=ga.ent s _ hs;simp only[R]at h2;exact⟨by rw[h1];rfl,by simp only[R];exact .inl ⟨trivial,dg,h2⟩,by simp[Top,yE,yL]⟩
  ·cases gB
end
end Go.Ab

namespace Go.Ab
open Go
structure zKi (P:Program) (f:Field) (i:Nat):Prop where
 name:f.name≠ "_"
 off:f.offset=i
 ty:P.underlying f.type=df (.int .i64)
class zMr (P:Program) (t:TypeId):Prop where
 h:∃f0 f1 f2 f3:Field,P.underlying t=df (.struct #[f0,f1,f2,f3])∧zKi P f0 0∧zKi P f1 1∧zKi P f2 2∧zKi P f3 3
 st:P.stoodInHeld t=di
 gd:P.eqGuardType P.depth t=di
theorem zBo{P:Program}{w:World}{f:Field}{i:Nat}(h:zKi P f i)(cs:Array Value)(v:Value)(hv:cs[i]? =df v):(part f.type cs f.offset).run P w=.ok v w:=by simp[part,uL h.ty,zCr,h.off,hv]
theorem zKj{P:Program}{w:World}{t:TypeId}(h:zMr P t)(a b c d a' b' c' d':Int)(m:Nat):
  (Op.equalIn (m+2) t (.agg #[.int .i64 a,.int .i64 b,.int .i64 c,.int .i64 d]) (.agg #[.int .i64 a',.int .i64 b',.int .i64 c',.int .i64 d'])).run P w=.ok (a==a'&&(b==b'&&(c==c'&&d==d'))) w:=by
 obtain⟨f0,f1,f2,f3,h1,g0,g1,g2,g3⟩:=h.h;have k0:=fun(x y:Int)=>zCy (P:=P) (w:=w) (a:=x) (b:=y) m g0.ty
 have k1:=fun(x y:Int)=>zCy (P:=P) (w:=w) (a:=x) (b:=y) m g1.ty
 have k2:=fun(x y:Int)=>zCy (P:=P) (w:=w) (a:=x) (b:=y) m g2.ty
 have k3:=fun(x y:Int)=>zCy (P:=P) (w:=w) (a:=x) (b:=y) m g3.ty
 have gA:=h.st;rw[Op.equalIn];simp only[Sem.run_bind,run_underlying h1];have q0:=fun(a b c d:Int)=>zBo (w:=w) g0 #[.int .i64 a,.int .i64 b,.int .i64 c,.int .i64 d] (.int .i64 a) rfl
 have q1:=fun(a b c d:Int)=>zBo (w:=w) g1 #[.int .i64 a,.int .i64 b,.int .i64 c,.int .i64 d] (.int .i64 b) rfl
 have q2:=fun(a b c d:Int)=>zBo (w:=w) g2 #[.int .i64 a,.int .i64 b,.int .i64 c,.int .i64 d] (.int .i64 c) rfl
 have q3:=fun(a b c d:Int)=>zBo (w:=w) g3 #[.int .i64 a,.int .i64 b,.int .i64 c,.int .i64 d] (.int .i64 d) rfl
 by_cases e0:a=a'<;>by_cases e1:b=b'<;>by_cases e2:c=c'<;>by_cases e3:d=d'<;>
  simp[gA,g0.name,g1.name,g2.name,g3.name,q0,q1,q2,q3,k0,k1,k2,k3,e0,e1,e2,e3]
section
variable {P:Program}{Γ:Ctx}{E E':Env}{d:Nat}{x y:Operand}{ty:TypeId}{ps:String}{af:Array Edge}{gd:Option (Nat×Bool)}
theorem zOf{t t':TypeId}{s s':Nat}{a b c e a' b' c' e':Int}(h:zMr P t)(hx:E s=df (.agg [I a,I b,I c,I e]))(hy:E s'=df (.agg [I a',I b',I c',I e']))(sd:J3 d Γ.N=dh):
  Ok P Γ ⟨df d,.binOp .eql t (.tmp s) (.tmp s') t',ty,ps,af,gd⟩ E (E.app [(d,df (B (a==a'&&(b==b'&&(c==c'&&e==e')))))] [(d,0)]):=by
 intro S;refine kD _ rfl rfl (zP sd) fun A w G ga=>?_
 obtain⟨h1,h2,_⟩:=ga.ent s _ hx;obtain⟨h3,h4,_⟩:=ga.ent s' _ hy;simp only[R,RF]at h2 h4;have e1:A.eval (.tmp s)=.agg #[.int .i64 a,.int .i64 b,.int .i64 c,.int .i64 e]:=by rw[xH h1];simp[mkV,zJ,vals,h2]
 have e2:A.eval (.tmp s')=.agg #[.int .i64 a',.int .i64 b',.int .i64 c',.int .i64 e']:=by rw[xH h3];simp[mkV,zJ,vals,h4]
 have h5:(Op.equalIn 10000 t (.agg #[.int .i64 a,.int .i64 b,.int .i64 c,.int .i64 e]) (.agg #[.int .i64 a',.int .i64 b',.int .i64 c',.int .i64 e'])).run P w=_:=zKj (w:=w) h a b c e a' b' c' e' 9998;have hg:=h.gd;simp[execOp,e1,e2,eqGuard,binOp,zDp,h5,hg]
end
end Go.Ab

namespace Go.Ab
open Go
end Go.Ab

namespace Go.Ab
open Go
theorem zEs{G G':Gh}{s d:Nat}(hd:∀z,G'.hd d z=G.hd s z):(xs:List T)→zY xs=dh→ ∀(j:Nat),vW G' d (cpF s xs [] j) [] j=vW G s xs [] j
 | [],_,_=>by rfl
 |x::xs,h,j=>by
  simp only[zY,J2]at h;simp only[cpF,vW];have gO:∀ys,x≠.tup ys:=by rintro ys rfl;grind[T.okTup]
  have h1:=tO (G:=G) (G':=G') (s:=s) (d:=d) x [j] [j] gO (fun z=>hd _);have h2:∀ys,cpT s x [j]≠.tup ys:=by intro ys;cases x<;>simp[cpT]
  rw[uR _ _ _ _ h2]at h1;rw[h1,zEs hd xs h.2 (j+1)]
section
variable {P:Program}{Γ:Ctx}{E E':Env}{d:Nat}{x y:Operand}{ty:TypeId}{ps:String}{af:Array Edge}{gd:Option (Nat×Bool)}
theorem zNv{s:Nat}{ts:List T}(hx:E s=df (.tup ts))(sd:(J3 d Γ.N&&zY ts&&(s != d)&&zF2 [(d,0)] (cpF s ts [] 0))=dh):Ok P Γ ⟨df d,.move (.tmp s),ty,ps,af,gd⟩ E (E.app [(d,df (.tup (cpF s ts [] 0)))] [(d,0)]):=by
 simp only[J2]at sd;obtain⟨⟨⟨s1,s2⟩,s3⟩,s4⟩:=sd;have gf:s≠d:=by grind
 intro S;refine yN.value rfl fun a w G ga=>?_
 obtain⟨h1,h2,_⟩:=ga.ent s _ hx;simp only[R]at h2;have hk:=G.put_keep (w:=w) (w':=w) rfl d (fun z=>G.hd s z);have hz:∀z,(G.put d (fun z=>G.hd s z)).hd d z=G.hd s z:=by grind[Gh.put_self]
 have fW:∀(xs:List T)(j:Nat),xV (cpF s xs [] j):=by
  intro xs
  induction xs with
  |nil=>intro j;simp only[cpF,xV]
  |cons x xs ih=>intro j;simp only[cpF,xV];grind[vR]
 refine⟨mkV G s (.tup ts) [],w,?_,_,yZ ga rfl (zP s1) (fun z=>G.hd s z) (fun z=>ga.mem.one _ _) _ _ (by grind[mkV,zEs])
  (by simp only[R];exact zEE (fun p=>G.put_other _ p gf) ts [] [] 0 (fun z=>hz _) (yL.mono (fun r p hr=>⟨hk.hd r p hr,hk.ad r p hr⟩) _ (by grind[zCF])) h2) (by simp only[Top];grind)⟩
 simp[execOp,xH h1]
end
end Go.Ab

namespace Go.Ab
open Go
section
variable (ds r:Nat)
inductive zEX:Env→List (Nat×List Nat)→Env→Prop where
 |nil (E:Env):zEX E [] E
 |cons {E E':Env}{l:List (Nat×List Nat)} (j:Nat) (q:List Nat) (td td' tr tr' u:T) (hd:E ds=df td) (hg:td.get [j]=df (.same r q)) (hr:E r=df tr) (hp:tr.get q.reverse=df u) (ef:zK u)
   (pm:td.set [j] u=td') (pk:tr.set q.reverse .any=tr') (sd:(u.single&&td.okB [(ds,2),(r,q.length+1)]&&tr.okB [(ds,2),(r,q.length+1)]&&yW td&&yW tr&&(ds != r)&& !q.isEmpty)=dh)
   (h:zEX (E.app [(ds,df td'),(r,df tr')] [(ds,2),(r,q.length+1)]) l E'):zEX E ((j,q)::l) E'
inductive zBp:Env→List (Nat×List Nat)→Env→Prop where
 |nil (E:Env):zBp E [] E
 |cons {E E':Env}{l:List (Nat×List Nat)} (j:Nat) (q:List Nat) (td td' tr tr' u v0:T) (hd:E ds=df td) (hg:td.get [j]=df u) (hr:E r=df tr) (hp:tr.get q.reverse=df v0) (ef:zK u)
   (pm:td.set [j] .any=td') (pk:tr.set q.reverse u=tr') (sd:(u.single&&v0.single&&td.okB [(r,q.length+1),(ds,2)]&&tr.okB [(r,q.length+1),(ds,2)]&&yW td&&yW tr&&(ds != r)&& !q.isEmpty)=dh)
   (h:zBp (E.app [(r,df tr'),(ds,df td')] [(r,q.length+1),(ds,2)]) l E'):zBp E ((j,q)::l) E'
end
theorem zMs{g z:List Nat}(h:g<:+z)(hn:z≠g):g.length<z.length:=by
 have h1:=h.length_le;rcases Ho g.length z.length with h2|h2
 ·exact h2
 ·exact absurd (h.eq_of_length (by omega)).symm hn
theorem zEX.rep{Γ:Ctx}{tmps:Array Value}{w:World}{ds r:Nat}{E E':Env}{l:List (Nat×List Nat)}(h:zEX ds r E l E'):∀{G:Gh},Rep Γ E G tmps w→
  ∃G',Rep Γ E' G' tmps w∧(∀z,G'.hd r z=G.hd r z)∧(∀j,G'.hd ds [j]=G.hd ds [j])∧ ∀x∈l,G.hd ds [x.1]=G.hd r x.2:=by
 induction h with
 |nil E=>intro G hr;exact⟨G,hr,fun _=>rfl,fun _=>rfl,by simp⟩
 |cons j q td td' tr tr' u hd hg hr hp ef pm pk sd _ ih=>
  intro G ga;simp only[J2]at sd;obtain⟨⟨⟨⟨⟨⟨s1,s2⟩,s3⟩,s4⟩,s5⟩,s6⟩,s7⟩:=sd;have gf:ds≠r:=by grind
  have hq:q≠[]:=by grind
  have gS:G.hd ds [j]=G.hd r q:=by have:=(kA [j] td _ [] (ga.ent ds td hd).2.1 hg).1;simpa[rp,R]using this
  obtain⟨h1,h2⟩:=zCS ga ds [j] r q td tr u (.same r q) hd (by grind) rfl gS hr hp s1 ef gf (by omega) (by omega) s4 s5;rw[if_neg hq,show([j]:List Nat).reverse=[j]from rfl,pm,pk]at h1;obtain⟨G',g1,g2,g3,g4⟩:=ih (by omega)
  grind
theorem zBp.rep{Γ:Ctx}{tmps:Array Value}{w:World}{ds r:Nat}{E E':Env}{l:List (Nat×List Nat)}(m:Nat)(h:zBp ds r E l E'):(∀x∈l,x.2.length=m)→ ∀{G:Gh},Rep Γ E G tmps w→(∀x∈l,G.hd ds [x.1]=G.hd r x.2)→ ∃G',Rep Γ E' G' tmps w:=by
 induction h with
 |nil E=>grind
 | @cons E E' l j q td td' tr tr' u v0 hd hg hr hp ef pm pk sd _ ih=>
  intro hm G ga tu;simp only[J2]at sd;obtain⟨⟨⟨⟨⟨⟨⟨s1,s1'⟩,s2⟩,s3⟩,s4⟩,s5⟩,s6⟩,s7⟩:=sd;have gf:ds≠r:=by grind
  have hq:q≠[]:=by grind
  obtain⟨h1,h2⟩:=zCS ga r q ds [j] tr td u v0 hr hp s1' (tu (j,q) (by simp)).symm hd (by grind) s1 ef (Ne.symm gf) (by omega) (by omega) s5 s4;rw[if_neg (by simp),show([j]:List Nat).reverse=[j]from rfl,pm,pk]at h1;refine ih (by grind) (by omega) fun x hx=>?_
  have e1:∀z,(G.tr r q ds [j]).hd ds z=G.hd ds z:=by grind
  by_cases hz:q<:+x.2∧x.2≠q
  ·have h3:=zMs hz.1 hz.2
   rw[hm x (by simp[hx]),hm (j,q) (by simp)]at h3;omega
  grind
theorem zCf{G G':Gh}{s:Nat}:(xs ys:List T)→(∀x∈xs,x.single=dh)→(∀x∈ys,x.single=dh)→xs.length=ys.length→ ∀(j:Nat),zJ G s xs [] j=zJ G' s ys [] j→ ∀i,i<xs.length→G.hd s [j+i]=G'.hd s [j+i]
 | [],_,_,_,_,_,_,i,hi=>by simp at hi
 |x::xs,[],_,_,hl,_,_,_,_=>by simp at hl
 |x::xs,y::ys,h1,h2,hl,j,h,i,hi=>by
  have v1:∀(G:Gh)(t:T)(p:List Nat),t.single=dh→vals G s t p=[G.hd s p]:=fun G t p ht=>by cases t<;>simp[T.single]at ht<;>simp[vals]
  simp only[zJ,v1 G x _ (h1 x (by simp)),v1 G' y _ (h2 y (by simp)),Ks,G6.injEq]at h;cases i with
  |zero=>exact h.1
  |succ i=>
   have:=zCf xs ys (by grind) (by grind) (by grind) (j+1) h.2 i (by grind)
   grind
def qW:List T→Bool
 | []=>dh
 |x::xs=>x.single&&qW xs
theorem zAM:{xs:List T}→qW xs=dh→ ∀x∈xs,x.single=dh
 | [],_,_,h=>by simp at h
 |x::xs,h,y,hy=>by
  simp only[qW,J2]at h;rcases Jh.1 hy with rfl|hy
  ·exact h.1
  ·exact zAM h.2 y hy
theorem zMt{P:Program}{Γ:Ctx}{E E1 E3:Env}{d:Nat}{ty:TypeId}{ps:String}{af:Array Edge}{gd:Option (Nat×Bool)}{f:FuncId}{xs:List Operand}{ats:Array TypeId}{us res:List T}{ts ts':List T}(i ds r:Nat)(l:List (Nat×List Nat))(m:Nat)(gu:qT P f)(hc:FnC P f us res [(i,.agg ts')])
  (gT:zEX ds r E l E1)(hs:E1 ds=df (.agg ts))(eE:zK (.agg ts'))(fZ:xF (.agg ts')=dh)(gk:xG E1 [(i,ds,.agg ts')] 0 xs us)(gy:kS res)
  (eV:zBp ds r (E1.app (cWr d res [(i,ds,.agg ts')]) (vA d [(i,ds,.agg ts')])) l E3)
  (sd:(J3 d Γ.N&&(d != ds)&&(d != r)&&(ds != r)&&qW ts&&qW ts'&&(ts.length==ts'.length)&&(l.all fun x=>x.2.length==m&&J3 x.1 ts.length))=dh)(hx:xs[i]? =df (.tmp ds))(hu:us[i]? =df (.agg ts)):
  Ok P Γ ⟨df d,.call { callee:=.value (.func f),args:=xs.toArray,argTypes:=ats },ty,ps,af,gd⟩ E E3:=by
 simp only[J2]at sd;obtain⟨⟨⟨⟨⟨⟨⟨s1,s2⟩,s3⟩,s4⟩,s5⟩,s6⟩,s7⟩,s8⟩:=sd;have d1:d≠ds:=by grind
 have d2:d≠r:=by grind
 have d3:ds≠r:=by grind
 have gn:ts.length=ts'.length:=by grind
 have hl:∀x∈l,x.2.length=m∧x.1<ts.length:=fun x hx=>by
  have:=Jm.1 s8 x hx
  simp_all
 intro S a w K Q ⟨gR,G,ga⟩ hK;refine zBk (xf:=.func f) rfl rfl gu rfl ?_;obtain⟨G1,g1,g2,g3,g4⟩:=gT.rep ga;refine(zDd g1 (zP s1) f xs us res [(i,ds,.agg ts')] hc gk (zDc.one' (u:=.agg ts) d1 hx eE rfl fZ hs hu) gy).mono ?_
 rintro e w' ⟨v,rfl,S',G',hS,hk,gg⟩
 have dc:(E1.app (cWr d res [(i,ds,.agg ts')]) (vA d [(i,ds,.agg ts')])) ds=df (.agg ts'):=by grind[Env.app,Wr.find,cWr]
 have hv:mkV G' ds (.agg ts') []=mkV G1 ds (.agg ts) []:=by
  have a1:=(gg.ent ds _ dc).1;have a2:=(g1.ent ds _ hs).1
  grind
 simp only[mkV,Value.agg.injEq]at hv;have eD:zJ G' ds ts' [] 0=zJ G1 ds ts [] 0:=by grind
 have pF:=zCf ts' ts (zAM s6) (zAM s5) gn.symm 0 eD;obtain⟨G3,hG3⟩:=eV.rep m (by grind) gg fun x hx=>by
  have h1:=pF x.1 (by grind);rw[J8]at h1;have h2:G'.hd r x.2=G1.hd r x.2:=hk.hd r x.2 (fun n hn=>by grind[vA])
  grind
 exact⟨v,rfl,hK _ _ ⟨S',hS,gR,G3,hG3⟩⟩
end Go.Ab

namespace Go.Ab
open Go
end Go.Ab
namespace Go.Ab
open Go
end Go.Ab
namespace Go.Ab
open Go
section
variable {P:Program}{Γ:Ctx}{pn:vV}{E E':Env}{Q Q1:Exit→Env→Prop}{c c1 c2:Code}{ops:Array Oper}{o:Oper}{os:List Oper}{id:Nat}
theorem sR(h:RW P Γ pn ops ops.toList E (zW P Γ pn c Q)):CW P Γ pn (.seq (.region id ops di) c) E Q:=CW.seq (CW.region h)
theorem rN(h:CW P Γ pn c E Q):RW P Γ pn ops [] E (zW P Γ pn c Q):=RW.nil h
theorem oP(h:Ok P Γ o E E')(k:RW P Γ pn ops os E' Q)(hg:o.guard=dg:=by rfl)(hp:pn.ok o.dst=dh:=by rfl):RW P Γ pn ops (o::os) E Q:=RW.op h k hg hp
def zOg(ops:List Oper):List (List Nat):=(ops.foldl (fun(acc:Array (List Nat)) o=>acc.push ((qH o).foldl (fun l m=>m::(acc.getD m [])++l) [])) #[]).toList
theorem CW.lp{σ ρ:Type}(body:σ→Option (σ⊕ρ))(en:σ→Env)(Q1:ρ→Exit→Env→Prop){s:σ}{r:ρ}(hg:zF Γ E (en s))(h:∀s x,body s=df x→CW P Γ pn c (en s) (yY Γ en Q1 x))(hr:zC body s=df r)(hq:∀e E',Q1 r e E'→Q e E'):CW P Γ pn (.loop c) E Q:=
 (CW.mono (CW.loop body en Q1 h hr) hq).ghost hg
end
end Go.Ab

namespace Go.Ab
open Go Go.ChangeShapes
abbrev zFX(w:World):Stb:=fun b=>w.heap[b]?
theorem zIL{w:World}{a:Addr}{n:Nat}{cs:List Value}(h:w.cells? 0 a n=df cs):cs.length=n∧ ∀(i:Nat) v,cs[i]? =df v→w.cell? (a.add i)=df v:=by
 unfold World.cells? at h;rw[if_pos (Kq _)]at h;refine⟨by simpa using mapM_some_length h,fun i v hv=>?_⟩;have hi:i<n:=by have:=(Ja.1 hv).1;have h2:=mapM_some_length h;rw[List.length_range]at h2;omega
 rw[←hv];exact mapM_some_get h i i (by simp[hi])
theorem zIc{w:World}{a:Addr}{v:Value}(h:w.cell? a=df v):a.spot=dg∧ ∃c e fr,w.heap[a.block]? =df (.cells c e fr)∧c[a.off]? =df v:=by
 simp only[World.cell?]at h;split at h
 ·rename_i c e fr hb
  split at h
  ·cases h
  ·rename_i hs
   exact⟨by cases hq:a.spot with|none=>rfl|some _=>rw[hq]at hs;simp at hs,c,e,fr,hb,h⟩
 ·cases h
theorem zFY{b o m:Nat}:(Addr.mk b o dg).add m=⟨b,o+m,dg⟩:=by
 unfold Addr.add;split
 ·rename_i h;subst h;rfl
 ·rfl
theorem zCg{α:Type}{Q:Nat→α→Prop}:∀(n:Nat),(∀i,i<n→ ∃x,Q i x)→ ∃xs:List α,xs.length=n∧ ∀i x,xs[i]? =df x→Q i x
 |0,_=>⟨[],rfl,fun i x h=>by simp at h⟩
 |n+1,h=>by
  obtain⟨xs,h1,h2⟩:=zCg n fun i hi=>h i (by omega)
  obtain⟨y,hy⟩:=h n (by omega);refine⟨xs++[y],by simp[h1],fun i x hx=>?_⟩;rw[Jv]at hx;split at hx
  ·exact h2 i x hx
  ·rename_i hge
   have:i-xs.length=0:=by have:=(Ja.1 hx).1;simpa using this
   rw[this]at hx;simp at hx;subst hx
   rwa [show i=n from by omega]
theorem zId{St:Stb}:(xs:List T)→ ∀(cs:Array Value)(o k:Nat),(∀i x,xs[i]? =df x→RoC St x cs (o+i*k))→RoL St xs cs o k
 | [],_,_,_,_=>by simp only[RoL]
 |x::xs,cs,o,k,h=>by
  simp only[RoL];refine⟨by simpa using h 0 x rfl,zId xs cs (o+k) k fun i y hy=>?_⟩;have:=h (i+1) y (by simpa using hy)
  rwa [show o+k+i*k=o+(i+1)*k from by rw[Kl];omega]
section
variable {P:Program}
def RdT(P:Program)(t:TypeId)(k:Nat){α:Type}(f:α→T)(V:α→Prop):Prop:=
 ∀{H:Type}(enc:TypeId×Value→H)(w:World)(fuel:Nat)(cs:List Value)(x:DataW H×List MemPlace),DataW.trod enc P w 0 (fun _=>dh) dh fuel t cs=df x→
  cs.length=k→ ∃d,V d∧ ∀(A:Array Value)(o:Nat),(∀(i:Nat) v,cs[i]? =df v→A[o+i]? =df v)→RoC (zFX w) (f d) A o
theorem zOh{t:TypeId}{q:IntKind}(hu:P.underlying t=df (.int q)):RdT P t 1 (IK q) (fun n=>(Lit.int q n).wf=dh):=by intro H enc w fuel cs x h _;obtain⟨n,rfl,_,hw⟩:=DataW.trod_int hu h;exact⟨n,hw,fun A o hA=>by simp only[RoC];exact⟨by simpa using hA 0 _ rfl,rfl⟩⟩
theorem zOi{α:Type}{f:α→T}{V:α→Prop}{t e:TypeId}{k:Nat}(hu:P.underlying t=df (.slice e))(hk:P.cellsOf e=k)(eA:0<k)(h:RdT P e k f V):
  RdT P t 1 (L k f) (fun xs=>xs.length≤maxLen∧ ∀x∈xs,V x):=by
 intro H enc w fuel cs x hx _;rcases DataW.trod_slice hu hx with⟨rfl,_⟩|⟨a,len,cap,elems,rest,n,rfl,rfl,_,_,eC,aP,bj,fJ,_⟩
 ·refine⟨[],⟨by simp,by simp⟩,fun A o hA=>?_⟩
  simp only[RoC,List.map_nil,Qh];exact⟨dg,0,by simpa using hA 0 _ rfl,Jg _,by simp[maxLen],fun h=>absurd rfl h⟩
 ·subst hk
  have key:∀i,i<len→ ∃y,V y∧ ∃cs':List Value,cs'.length=P.cellsOf e∧(∀(j:Nat) v,cs'[j]? =df v→w.cell? ((a.add (i*P.cellsOf e)).add j)=df v)∧
    ∀(A:Array Value)(o:Nat),(∀(j:Nat) v,cs'[j]? =df v→A[o+j]? =df v)→RoC (zFX w) (f y) A o:=by
   intro i hi;have h1:=fJ i hi;rw[J5 (by omega)]at h1;obtain⟨cs',h2,h3⟩:=Hw.1 h1;obtain⟨h4,h5⟩:=zIL h2;obtain⟨y,h6,h7⟩:=h enc w n cs' _ h3 h4;exact⟨y,h6,cs',h4,h5,h7⟩
  obtain⟨xs,hxl,eu⟩:=zCg len key;refine⟨xs,⟨by omega,fun y hy=>?_⟩,fun A o hA=>?_⟩
  ·obtain⟨i,hi,rfl⟩:=Q2.1 hy
   exact(eu i _ (J5 hi)).1
  ·simp only[RoC,Jl,hxl]
   refine⟨df a,cap,by simpa using hA 0 _ rfl,eC,aP,fun gf=>?_⟩;have pu:0<xs.length:=by
    cases xs with
    |nil=>simp at gf
    |cons _ _=>simp
   obtain⟨_,cs0,g1,g2,_⟩:=eu 0 _ (J5 pu);have hz:a.add (0*P.cellsOf e)=a:=by simp[Addr.add]
   have g3:=g2 0 cs0[0] (J5 (by omega));rw[hz,show a.add 0=a from by simp[Addr.add]]at g3;obtain⟨fX,c,e',fr,hb,_⟩:=zIc g3;obtain⟨b,off,sp⟩:=a;simp only at fX hb;subst fX;refine⟨b,off,c,e',fr,rfl,hb,zId _ _ _ _ fun i y hy=>?_⟩;rw[Jf,K8]at hy;obtain⟨z,fV,rfl⟩:=hy;obtain⟨_,cs',g1',g2',g4⟩:=eu i z fV;refine g4 c _ fun j v hv=>?_
   have:=g2' j v hv;rw[zFY,zFY]at this;obtain⟨_,c2,e2,fr2,pK,eD⟩:=zIc this;simp only at pK eD;rw[hb]at pK;cases pK;exact eD
theorem zEY{H:Type}{enc:TypeId×Value→H}{w:World}{t:TypeId}{fs:Array Field}{fuel:Nat}{cs:List Value}{x:DataW H×List MemPlace}(hu:P.underlying t=df (.struct fs))(h:DataW.trod enc P w 0 (fun _=>dh) dh fuel t cs=df x)
  {i j k:Nat}{f:Field}(hf:fs[i]? =df f)(hj:f.offset=j)(hk:P.cellsOf f.type=k):∃n y,DataW.trod enc P w 0 (fun _=>dh) dh n f.type ((cs.drop j).take k)=df y:=by
 obtain⟨xs,n,_,_,_,gn,fJ⟩:=DataW.trod_struct hu h;have hi:i<xs.length:=by rw[gn];exact(K3.1 hf).1
 have:=fJ i f hf;rw[hj,hk,J5 hi]at this;exact⟨n,_,this⟩
end
def zIM(v:Value):Value:=if v.oneCell' then v else .bool di
theorem zFZ(v:Value):(zIM v).oneCell'=dh:=by unfold zIM;split;assumption;rfl
theorem zEZ{v:Value}(h:v.oneCell'=dh):zIM v=v:=by simp[zIM,h]
def hd0(vs:Array Value)(s:Nat)(p:List Nat):Value:=
 match vs[s]?,p with
 |some (.agg cs),[j]=>zIM (cs[j]?.getD (.bool di))
 |some v,[]=>zIM v
 |_,_=>.bool di
def G0(vs:Array Value):Gh:={ hd:=hd0 vs,ad:=fun _ _=>default,lb:=fun _ _=>dg,ow:=fun _=>dg }
theorem zQR(w:World)(vs:Array Value):Mem ⟨zFX w,fun _=>False,w,0⟩ (G0 vs) w where
 one s p:=by
  simp only[G0,hd0];split
  ·exact zFZ _
  ·exact zFZ _
  ·rfl
 lb b o l h:=by simp[G0]at h
 ow b l h:=by simp[G0]at h
 st b x h:=h
 fr b _ _:=rfl
 sz:=Jg _
 bk:=⟨fun b cs e h=>⟨cs,h,rfl⟩,rfl,rfl⟩
def RdA(P:Program)(t:TypeId){α:Type}(u:α→T)(V:α→Prop):Prop:=
 ∀{H:Type}(enc:TypeId×Value→H)(w:World)(base fuel:Nat)(v:Value)(x:DataW H×List MemPlace),DataW.trod enc P w 0 (fun _=>dh) dh fuel t v.cells.toList=df x→
  Value.okWide P w .any base t v→ ∃d,V d∧ ∀(vs:Array Value)(s:Nat),vs[s]? =df v→df v=df (mkV (G0 vs) s (u d) [])∧R (zFX w) (G0 vs) w s (u d) []
def RdC(P:Program)(t:TypeId){α:Type}(u:α→T)(V:α→Prop):Prop:=
 ∀{H:Type}(enc:TypeId×Value→H)(w:World)(fuel:Nat)(c:Value)(x:DataW H×List MemPlace),DataW.trod enc P w 0 (fun _=>dh) dh fuel t [c]=df x→
  ∃d,V d∧c.oneCell'=dh∧ ∀(G:Gh)(s:Nat)(p:List Nat),G.hd s p=c→vals G s (u d) p=[c]∧R (zFX w) G w s (u d) p
section
variable {P:Program}
theorem zP7{α:Type}{f:α→T}{V:α→Prop}{t:TypeId}(h:RdT P t 1 f V)(h1:∀{H:Type}(enc:TypeId×Value→H)(w:World)(fuel:Nat)(c:Value)(x:DataW H×List MemPlace),DataW.trod enc P w 0 (fun _=>dh) dh fuel t [c]=df x→c.oneCell'=dh):
  RdC P t (fun x=>T.ro (f x)) V:=by
 intro H enc w fuel c x hx;obtain⟨d,g1,g2⟩:=h enc w fuel [c] x hx rfl;refine⟨d,g1,h1 enc w fuel c x hx,fun G s p hp=>⟨by simp only[vals,hp],?_⟩⟩;simp only[R,hp];exact g2 _ _ fun i v hv=>by
  cases i with
  |zero=>simpa using hv
  |succ i=>simp at hv
theorem zOj{α:Type}{f:α→T}{V:α→Prop}{t e:TypeId}{k:Nat}(hu:P.underlying t=df (.slice e))(hk:P.cellsOf e=k)(eA:0<k)(h:RdT P e k f V):RdC P t (fun xs=>T.ro (L k f xs)) (fun xs=>xs.length≤maxLen∧ ∀x∈xs,V x):=
 zP7 (zOi hu hk eA h) fun enc w fuel c x hx=>by
  rcases DataW.trod_slice hu hx with⟨h1,_⟩|⟨a,len,cap,_,_,_,_,h1,_⟩<;>
  ·simp only[G6.injEq,and_true]at h1
   subst h1;rfl
theorem zDR{w:World}{base:Nat}{t:TypeId}{fs:Array Field}{v:Value}(hu:P.underlying t=df (.struct fs))(h:Value.okWide P w .any base t v):∃cs,v=.agg cs∧cs.size=P.cellsOf t:=by simp only[Value.okWide,hu]at h;obtain⟨cs,h1,h2,_⟩:=h;exact⟨cs,h1,h2⟩
theorem zP8{α β γ δ:Type}{ua:α→T}{ub:β→T}{uc:γ→T}{Va:α→Prop}{Vb:β→Prop}{Vc:γ→Prop}{t:TypeId}{f0 f1 f2:Field}(mk:α→β→γ→δ){u:δ→T}{V:δ→Prop}
  (hu:P.underlying t=df (.struct #[f0,f1,f2]))(hc:P.cellsOf t=3)(h0:f0.offset=0∧P.cellsOf f0.type=1)(h1:f1.offset=1∧P.cellsOf f1.type=1)(h2:f2.offset=2∧P.cellsOf f2.type=1)
  (ra:RdC P f0.type ua Va)(rb:RdC P f1.type ub Vb)(rc:RdC P f2.type uc Vc)(hmk:∀a b c,u (mk a b c)=T.agg [ua a,ub b,uc c])(hV:∀a b c,Va a→Vb b→Vc c→V (mk a b c)):RdA P t u V:=by
 intro H enc w base fuel v x hx gC;obtain⟨cs,rfl,gp⟩:=zDR hu gC;obtain⟨l,rfl⟩:∃l:List Value,cs=l.toArray:=⟨cs.toList,by simp⟩;rw[hc,Uw]at gp;obtain⟨c0,c1,c2,rfl⟩:∃a b c,l=[a,b,c]:=by
  match l,gp with
  | [a,b,c],_=>exact⟨a,b,c,rfl⟩
 simp only[Value.cells]at hx;obtain⟨n0,y0,g0⟩:=zEY hu hx (i:=0) rfl h0.1 h0.2;obtain⟨n1,y1,g1⟩:=zEY hu hx (i:=1) rfl h1.1 h1.2;obtain⟨n2,y2,g2⟩:=zEY hu hx (i:=2) rfl h2.1 h2.2;simp only[List.drop_succ_cons,Lr,Kf,Lp]at g0 g1 g2;obtain⟨a,a1,a2,a3⟩:=ra enc w n0 c0 _ g0;obtain⟨b,b1,b2,b3⟩:=rb enc w n1 c1 _ g1;obtain⟨c,e1,e2,e3⟩:=rc enc w n2 c2 _ g2;refine⟨mk a b c,hV a b c a1 b1 e1,fun vs s fN=>?_⟩;have k0:(G0 vs).hd s [0]=c0:=by simp[G0,hd0,fN,zEZ a2]
 have k1:(G0 vs).hd s [1]=c1:=by simp[G0,hd0,fN,zEZ b2]
 have k2:(G0 vs).hd s [2]=c2:=by simp[G0,hd0,fN,zEZ e2]
 rw[hmk];simp only[mkV,zJ,(a3 _ _ _ k0).1,(b3 _ _ _ k1).1,(e3 _ _ _ k2).1,Ka,Jr,R,RF];exact⟨trivial,(a3 _ _ _ k0).2,(b3 _ _ _ k1).2,(e3 _ _ _ k2).2,trivial⟩
end
theorem FnC.top{P:Program}{f:FuncId}{us:List T}(h:FnC P f us [B dh] []){w:World}{vs:Array Value}(gp:vs.size=us.length)
  (ha:∀(i:Nat) u,us[i]? =df u→vs[i]? =df (mkV (G0 vs) i u [])∧R (zFX w) (G0 vs) w i u []):
  Calls P f vs w fun e w'=>e=.returned (.bool dh)∧w'.os=w.os∧w'.output=w.output∧w.heap.size≤w'.heap.size∧ ∀b,b<w.heap.size→w'.heap[b]? =w.heap[b]?:=by
 refine(h (zFX w) (fun _=>False) w (G0 vs) vs gp (fun i u hu=>?_) (zQR w vs)).mono fun e w'=>?_
 ·obtain⟨h1,h2⟩:=ha i u hu
  refine⟨?_,h2⟩;rw[h1]
 ·rintro⟨S',G',nd,_,he,hm,eo,hr,_,_⟩
  match nd,eo with
  | [(s,p,t)],eo=>
   simp only[Jc,List.map_nil,G6.injEq,and_true]at eo;subst eo;have:=(hr (s,p,B dh) (by simp)).1;simp only[R]at this;exact⟨by rw[he];simp only[zFH,wR,this],hm.bk.os,hm.bk.out,hm.sz,fun b hb=>hm.fr b hb (fun h=>h)⟩
theorem zA3{H:Type}{enc:TypeId×Value→H}{P:Program}(hl:laidOutB P=dh){W W':World}{sp:Nat→Bool}:∀{ts:List TypeId}{vs:List Value}{ds:List (DataW H)}{ps:List MemPlace},(∀t∈ts,P.readableRec t=dh∧t<P.types.size)→
  DataW.TrodAll enc P W 0 (fun _=>dh) dh ts vs ds ps→(∀p∈ps,W.sameAt W' p)→(∀p∈ps,sp p.block=dh)→DataW.TrodAll enc P W' 0 sp dh ts vs ds ps
 | [],[],[],_,_,h,_,_=>h
 |t::ts,v::vs,d::ds,ps,hr,h,h1,h2=>by
  obtain⟨p,q,g1,g2,rfl⟩:=h;exact⟨p,q,Go.WideElems.Trod_stays hl (hr t (by simp)).1 (hr t (by simp)).2 g1 (fun x hx=>h1 x (by simp[hx])) (fun x hx=>h2 x (by simp[hx])),
   zA3 hl (fun t' tm=>hr t' (by simp[tm])) g2 (fun x hx=>h1 x (by simp[hx])) (fun x hx=>h2 x (by simp[hx])),rfl⟩
 | [],_::_,_,_,_,h,_,_| [],[],_::_,_,_,h,_,_|_::_,[],_,_,_,h,_,_|_::_,_::_,[],_,_,h,_,_=>h.elim
theorem zGW{C:Checked}{os:Os}(own:ownKnob C.prog.godebug=dg)(started:os.Started){f:FuncId}{fn:Func}(noInit:C.prog.inits.idxOf? f=dg)(hfn:C.prog.funcs[f]? =df fn){H:Type}{enc:TypeId×Value→H}{s:ChangeSpec}{conds:List PathCond}{apart fresh handsOn again:Bool}
  (witness:∃(w:World)(tape:Tape)(i:Input),w.os=os∧(w.forCall tape i).Shaped C.prog∧i.vars=[]∧Input.okWide C.prog (w.forCall tape i) .any w.heap.size f i∧
   s.pre6 enc C.prog fn conds apart (w.forCall tape i).memory i.args∧Assume.holds {} C.prog (lone (Frame.enter C.prog f i.args .normal) [] (w.forCall tape i)))
  (hs:∀(l:List (DataW H)),l.length=fn.params.size→(s.fn H l).results=[.lit (.bool dh)]∧(s.fn H l).args=l∧(s.fn H l).vars=[])(ck:s.vars=[]){tb:TypeId}(eT:fn.resultTypes= #[tb])(hb:C.prog.underlying tb=df .bool)
  (laid:laidOutB C.prog=dh)(mK:fn.params.toList.all (fun t=>C.prog.readableRec t&&decide (t<C.prog.types.size))=dh)
  (law:∀(W:World)(base:Nat)(args:Array Value)(ds:List (DataW H))(p:List MemPlace),(∀(j:Nat) t v,fn.params[j]? =df t→args[j]? =df v→Value.okWide C.prog W .any base t v)→
   DataW.TrodAll enc C.prog W 0 (fun _=>dh) dh fn.params.toList args.toList ds p→
   ∃us:List T,args.size=us.length∧FnC C.prog f us [B dh] []∧ ∀(i:Nat) u,us[i]? =df u→args[i]? =df (mkV (G0 args) i u [])∧R (zFX W) (G0 args) W i u []):
  ReturnsInHanded {} C os f .any (s.pre6 enc C.prog fn conds apart) (s.post enc C.prog fn apart fresh handsOn again):=by
 refine returnsInHanded_of_change (C:=C) own started noInit hfn witness ?_;intro W base args ds gs before hval hW _ _;have pO:=hW;obtain⟨p,q,hA,hV,hbq,hfz,eo⟩:=hW;obtain⟨us,h1,h2,h3⟩:=law W base args ds p hval hA;have hl:ds.length=fn.params.size:=by
  have:∀{ts:List TypeId}{vs:List Value}{ds:List (DataW H)}{p:List MemPlace},DataW.TrodAll enc C.prog W 0 (fun _=>dh) dh ts vs ds p→ds.length=ts.length:=by
   intro ts
   induction ts with
   |nil=>intro vs ds p h;cases vs<;>cases ds<;>first|rfl|exact h.elim
   |cons t ts ih=>intro vs ds p h;cases vs<;>cases ds<;>first|exact h.elim|(obtain⟨_,_,_,g,_⟩:=h;simp[ih g])
  simpa using this hA
 rw[ck]at hV;have hq:gs=[]∧q=[]:=by
  cases gs with
  |nil=>exact⟨rfl,hV⟩
  |cons _ _=>exact hV.elim
 obtain⟨rfl,rfl⟩:=hq;have gG:=pO.lt;refine(h2.top h1 h3).mono fun e w' ⟨he,ho,hq,gp,hh⟩=>⟨_,he,?_⟩
 have gS:∀p∈before,W.sameAt w' p:=fun p hp=>by
  have:=gG p hp;cases p with
  |cell b off=>simp only[World.sameAt,World.cell?,hh b this]
  |map b=>exact hh b this
 obtain⟨k1,k2,k3⟩:=hs ds hl;have hbp:before=p:=by simpa using hbq
 subst hbp;have gU:∀t∈fn.params.toList,C.prog.readableRec t=dh∧t<C.prog.types.size:=fun t ht=>by have:=Jm.1 mK t ht;simpa using this
 have gy:∀(b:Nat)(sp:Nat→Bool)(hd:Bool),DataW.TrodAll enc C.prog w' b sp hd fn.resultTypes.toList ((Value.bool dh).resultList fn.resultTypes.size) (s.fn H (ds++[])).results []:=fun b sp hd=>by rw[eT,J9,k1];exact⟨[],[],⟨1,by simp[DataW.trod,hb,Value.cells]⟩,⟨rfl,rfl⟩⟩
 have gk:∀sp:Nat→Bool,(∀p∈before,sp p.block=dh)→DataW.TrodAll enc C.prog w' 0 sp dh fn.params.toList args.toList (s.fn H (ds++[])).args before:=fun sp fX=>by rw[J9,k2];exact zA3 laid gU hA gS fX
 have mw:∀sp:Nat→Bool,DataW.TrodVars enc C.prog w' sp s.vars (s.fn H (ds++[])).vars []:=fun sp=>by rw[ck,J9,k3];rfl
 have gj:∀p∈before,(fun b=>decide (b<W.heap.size)) p.block=dh:=fun p hp=>by simpa using gG p hp
 have fS:∀p∈before,∀o,w'.frozen? ⟨p.block,o,dg⟩=W.frozen? ⟨p.block,o,dg⟩:=fun p hp o=>by simp only[World.frozen?,hh _ (gG p hp)]
 refine⟨ds,[],before,[],before,[],pO,gy _ _ _,gk _ gj,mw _,⟨ho,hq,fun i hi=>?_⟩,fun _=>⟨fun j t r hj hr=>?_,_,_,([]++before)++[],⟨[]++before,[],trodAll_append (gk _ (fun _ _=>rfl)) (gy _ _ _),mw _,rfl,fun b off hp=>?_,fun ha=>?_⟩,fun p hp _=>?_⟩⟩
 ·rw[hh i hi]
  cases hx:W.heap[i]? with
  |none=>rfl
  |some o=>cases o<;>simp
 ·rw[eT]at hj hr
  match j,hj,hr with
  |0,hj,hr=>
   simp[Value.resultList]at hj hr;subst hj;subst hr;simp[Value.okWide,hb,Cell.okWide,Cell.ok]
 ·have eR:MemPlace.cell b off∈before:=by simpa using hp
  exact(fS _ eR off).trans (hfz b off eR)
 ·have:=eo ha
  simpa using this
 ·simpa using hp
end Go.Ab

namespace Go.Ab
open Go
def uX(hs:List Nat)(E:Env):Prop:=∀s,hs.contains s=dh→ ∃t,E s=df t∧zAu t=dh
def lsS(s:Nat):jT→Bool→Bool
 | [],b=>b
 |y::l,b=>lsS s l (match y.1.find s with
  |some (df t)=>zAu t
  |some dg=>di
  |none=>b)
def wrS(hs:List Nat)(X:Stp):Bool:=hs.all fun s=>lsS s X.l dh
theorem zKk{s:Nat}:∀(l:jT)(E:Env)(b:Bool),(b=dh→ ∃t,E s=df t∧zAu t=dh)→lsS s l b=dh→ ∃t,(E.apps l) s=df t∧zAu t=dh
 | [],_,_,h,hw=>h hw
 |x::l,E,b,h,hw=>by
  simp only[lsS]at hw;refine zKk l (E.app x.1 x.2) _ (fun hb=>?_) hw;unfold Env.app;cases hf:x.1.find s with
  |some y=>cases y<;>simp_all
  |none=>
   rw[hf]at hb;obtain⟨t,he,ht⟩:=h hb
   grind[vS]
theorem uX.apps{hs:List Nat}(l:jT)(E:Env)(h:uX hs E)(hw:(hs.all fun s=>lsS s l dh)=dh):uX hs (E.apps l):=fun s gB=>
 zKk l E dh (fun _=>h s gB) (Jm.1 hw s (by grind))
theorem uX.runD{hs:List Nat}:∀(l:List (Bool×Stp))(E:Env),uX hs E→(∀y∈l,wrS hs y.2=dh)→uX hs (runD E l)
 | [],_,h,_=>h
 |(b,X)::l,E,h,hw=>by
  simp only[Go.Ab.runD];refine uX.runD l _ ?_ fun y hy=>hw y (by simp[hy])
  cases b with
  |true=>exact uX.apps X.l E h (hw (dh,X) (by simp))
  |false=>exact h
section
variable {P:Program}{Γ:Ctx}{pn:vV}{E E':Env}{Q:Exit→Env→Prop}{ops:Array Oper}{o:Oper}{os:List Oper}{id:Nat}{wr:Wr}{chg:Chg}{hs:List Nat}
def zIe(P:Program)(Γ:Ctx)(pn:vV)(ops:Array Oper)(o:Oper)(E E':Env):Prop:=
 ∀(a:Act)(w:World)(K:Act→World→Prop)(Q:Exit→Act→World→Prop),pn.Hold a→uB Γ E a w→(∀a' w',uB Γ E' a' w'→(∀s,o.dst≠df s→a'.tmps[s]? =a.tmps[s]?)→K a' w')→
  if Region.wanted o (yielded ops a.tmps)then o.wp P a w K Q∨(o.asks P a w∧LetsOut Q)else K (a.put o.dst undef) w
def xN(P:Program)(Γ:Ctx)(pn:vV)(hs:List Nat)(ops:Array Oper):List Oper→List Stp→Prop
 | [],[]=>True
 |o::os,X::Xs=>(∀E:Env,E.Has X.rd→uX hs E→zIe P Γ pn ops o E (E.apps X.l))∧xN P Γ pn hs ops os Xs
 |_,_=>False
theorem xN.get:∀(os:List Oper)(Xs:List Stp),xN P Γ pn hs ops os Xs→os.length=Xs.length∧ ∀(i:Nat)(o:Oper)(X:Stp),os[i]? =df o→Xs[i]? =df X→ ∀E:Env,E.Has X.rd→uX hs E→zIe P Γ pn ops o E (E.apps X.l)
 | [],[],_=>by simp
 |o::os,X::Xs,h=>by
  obtain⟨h1,h2⟩:=xN.get os Xs h.2;refine⟨by simp[h1],fun i o' X' ho hX=>?_⟩;cases i with
  |zero=>simp at ho hX;subst ho hX;exact h.1
  |succ i=>exact h2 i o' X' (by simpa using ho) (by simpa using hX)
 | [],_::_,h=>by simp[xN]at h
 |_::_,[],h=>by simp[xN]at h
theorem xN.snoc{X:Stp}:∀(os:List Oper)(Xs:List Stp),xN P Γ pn hs ops os Xs→(∀E:Env,E.Has X.rd→uX hs E→zIe P Γ pn ops o E (E.apps X.l))→xN P Γ pn hs ops (os++[o]) (Xs++[X])
 | [],[],_,h=>⟨h,trivial⟩
 |_::os,_::Xs,h1,h=>⟨h1.1,xN.snoc os Xs h1.2 h⟩
 | [],_::_,h,_=>by simp[xN]at h
 |_::_,[],h,_=>by simp[xN]at h
theorem vE.snoc{X:Stp}:∀(Xs:List Stp)(E:Env),vE E Xs→(runD E (Xs.map fun y=>(dh,y))).Has X.rd→vE E (Xs++[X])
 | [],_,_,h=>⟨by grind[runD],trivial⟩
 |_::Xs,_,h1,h=>⟨h1.1,vE.snoc Xs _ h1.2 (by simpa[runD]using h)⟩
theorem zFa{E0:Env}{gX:List Nat}{Xs:List Stp}{an:List (List Nat)}{Q':Exit→Act→World→Prop}(hf:sK 0 ops.toList=dh)(ha:tH an an ops.toList=dh)(hp:uN Xs 0 an Xs=dh)
  (gA:xN P Γ pn gX ops ops.toList Xs)(hI:uX gX E0)(hw:Xs.all (wrS gX)=dh)(hh:vE E0 Xs)(px:ops.toList.all (fun o=>pn.ok o.dst)=dh)(hQ:∀a' w',uB Γ (runD E0 (Xs.map fun y=>(dh,y))) a' w'→pn.Hold a'→Q' .normal a' w'):
  ∀(fuel:Nat)(L:List Bool)(a:Act)(w:World),L.length=ops.size→L.count di=fuel→zJX ops L→uB Γ (runD E0 (L.zip Xs)) a w→pn.Hold a→wpAny P .any ops Q' fuel L.toArray a w:=by
 obtain⟨gn,eg⟩:=xN.get _ _ gA;have cR:Xs.length=ops.size:=by grind
 intro fuel
 induction fuel with
 |zero=>
  intro L a w hL hcnt gN hs eU;have ed:∀b∈L,b=dh:=by grind
  have db:L=J1 ops.size dh:=by rw[←hL];exact List.eq_replicate_iff.2 ⟨rfl,ed⟩
  refine⟨?_,?_⟩
  ·apply List.eq_nil_iff_forall_not_mem.2
   intro j hj;obtain⟨h1,o,ho,_⟩:=mem_ready.1 hj;have gG:=(K3.1 ho).1;rw[db]at h1;simp[gG]at h1
  ·refine hQ a w ?_ eU
   have:L.zip Xs=Xs.map fun y=>(dh,y):=by
    rw[db,←cR]
    clear hs hL db ed hcnt gN gA hw hh hp gn cR eg hQ
    induction Xs with
    |nil=>rfl
    |cons X Xs ih=>simp[K5,ih]
   grind
 |succ fuel ih=>
  intro L a w hL hcnt gN hs eU;refine⟨fun hr=>?_,fun i hi=>?_⟩
  ·
   exfalso
   have er:∃m:Nat,L[m]? =df di:=by
    have:di∈L:=by grind
    grind[Gb]
   obtain⟨m,hm,ay⟩:=kN er;have hmlt:=(Ja.1 hm).1;have bE:ops[m]? =df ops[m]:=by simp
   have:m∈Region.ready .any ops L.toArray:=by
    refine mem_ready.2 ⟨by simp_all,ops[m],bE,fun e he hb=>?_⟩;have hpm:e.on∈qH ops[m]:=by
     simp only[qH,J7,Ul]
     grind
    have gG:=zCx ops.toList 0 m _ hf (by simp) _ hpm;rw[J8]at gG;cases hL1:L[e.on]? with
    |none=>grind
    |some b=>
     cases b with
     |false=>grind
     |true=>simp_all
   grind
  ·obtain⟨h1,o,ho,ed⟩:=mem_ready.1 hi
   have gG:=(K3.1 ho).1;have hLi:L[i]? =df di:=by simp_all
   have ca:∀m∈qH o,L[m]? =df dh:=by
    intro m hm;simp only[qH,J7,Ul]at hm;obtain⟨e,⟨he,hb⟩,rfl⟩:=hm;have:=ed e (by grind) hb;cases hL1:L[e.on]? with
    |none=>grind
    |some b=>simp_all
   have hanc:=zDi hf ha gN i i (Jg _) o ho ca;have mn:Xs[i]? =df Xs[i]:=by simp
   generalize hXe:Xs[i]=X at mn
   have ba:∀(j:Nat)(Y:Stp),Xs[j]? =df Y→i<j→L[j]? =df dh→X.apart Y=dh:=by
    intro j Y hY hij hj;rcases zBA Xs Xs 0 an j Y hp hY i X (by omega) mn with h|h
    ·have hjlt:=(Ja.1 hY).1
     have hoj:ops[j]? =df ops[j]:=by simp
     have:=zDi hf ha gN j j (Jg _) _ hoj (gN j _ hoj hj) i h
     grind
    ·exact h
   have pH:∀(j:Nat)(Y:Stp),Xs[j]? =df Y→j<i→L[j]? =df di→Y.apart X=dh:=by grind[zBA]
   have mM:∀y∈(L.take i).zip (Xs.take i),∃j:Nat,j<i∧L[j]? =df y.1∧Xs[j]? =df y.2:=by
    intro y hy;obtain⟨j,g1,g2⟩:=zEU hy;rw[U2]at g1 g2
    grind
   have cG:∀y∈(L.drop (i+1)).zip (Xs.drop (i+1)),∃j:Nat,i<j∧L[j]? =df y.1∧Xs[j]? =df y.2:=by
    intro y hy;obtain⟨j,g1,g2⟩:=zEU hy;rw[H7]at g1 g2
    grind
   have fX:=zEm hLi mn;have aH:(runD E0 (L.zip Xs)).Has X.rd:=by
    rw[fX,uV];simp only[runD,L8,if_false];have h0:=vE.get Xs E0 hh i X mn;refine h0.of fun s t gA gX=>?_
    have tu:s∈X.rd.map (·.1):=by grind
    refine zEl _ _ (fun y hy hb=>?_) ?_
    ·obtain⟨j,g1,g2,g3⟩:=cG y hy
     have:=Stp.apart_spec (ba j y.2 g3 g1 (by rw[g2,hb]));exact⟨by grind,by grind⟩
    ·have cP:((L.take i).zip (Xs.take i)).map (fun y=>(dh,y.2))=(Xs.take i).map fun y=>(dh,y):=by
      have hl2:(L.take i).length=(Xs.take i).length:=by simp;omega
      rw[show(fun y:Bool×Stp=>(dh,y.2))=(fun y=>(dh,y))∘Prod.snd from rfl,←U1,List.map_snd_zip (by omega)]
     refine zEk _ E0 E0 (fun y hy hb gB=>?_) (fun _ h=>h) t (by grind);obtain⟨j,g1,g2,g3⟩:=mM y hy;have:=Stp.apart_spec (pH j y.2 g3 g1 (by rw[g2,hb]))
     grind
   have hnext:runD E0 ((L.set i dh).zip Xs)=(runD E0 (L.zip Xs)).apps X.l:=by
    have hLs:(L.set i dh)[i]? =df dh:=by grind
    rw[zEm hLs mn,fX,uV,uV];simp only[runD,if_true,L8,if_false,List.take_set_of_le (Jg i),List.drop_set_of_lt (Nat.lt_succ_self i)];refine zB9 _ X _ fun y hy hb=>?_
    obtain⟨j,g1,g2,g3⟩:=cG y hy;exact(Stp.apart_spec (by grind)).1
   have tq:=eg i o X (by grind) mn _ aH (uX.runD (L.zip Xs) E0 hI fun y hy=>Jm.1 hw _ (by obtain⟨j,_,g⟩:=zEU hy;grind));unfold wpOp;simp only[ho];refine tq a w _ Q' eU hs fun a' w' gB fS=>?_
   rw[List.setIfInBounds_toArray];have gC:pn.ok o.dst=dh:=by grind
   refine ih (L.set i dh) a' w' (by simp[hL]) (by grind) ?_ (by grind) (eU.frame gC fS);intro k ok hk hkt m hm
   by_cases hki:k=i
   ·subst hki
    rw[ho]at hk;simp at hk;subst hk;rw[Ux];split
    ·grind
    grind
   ·rw[Hd (Ne.symm hki)]at hkt
    rw[Ux];split
    ·grind
    ·exact gN k ok hk hkt m hm
theorem CW.drawnI{gX:List Nat}{id:Nat}{E:Env}{Q:Exit→Env→Prop}(Xs:List Stp)(an:List (List Nat))(hm:P.follows .mixedOrders=dh)(gA:xN P Γ pn gX ops ops.toList Xs)(hI:uX gX E)(hw:Xs.all (wrS gX)=dh)(hh:vE E Xs)
  (hQ:Q .normal (runD E (Xs.map fun y=>(dh,y))))(hf:sK 0 ops.toList=dh:=by rfl)(ha:tH an an ops.toList=dh:=by rfl)(hp:uN Xs 0 an Xs=dh:=by rfl)
  (px:ops.toList.all (fun o=>pn.ok o.dst)=dh:=by rfl):CW P Γ pn (.region id ops dh) E Q:=by
 intro a w Q' hs eU hQ';refine wp_region_any hm ?_;have gB:uB Γ E a { w with drawn:=w.drawn+1 }:=by obtain⟨S,hS,gR,G,hr⟩:=hs;exact⟨S,hS,gR,G,hr.heap rfl⟩
 have:=zFa (P:=P) (Γ:=Γ) (pn:=pn) (E0:=E) (Q':=Q') hf ha hp gA hI hw hh px (by grind) ops.size (J1 ops.size di) a { w with drawn:=w.drawn+1 } (by simp) (by simp)
  (fun i o ho hi=>by
   grind) (by
   have:runD E ((J1 ops.size di).zip Xs)=E:=by
    generalize ops.size=n
    clear gA hI hw hh hQ hf ha hp gB
    induction n generalizing Xs with
    |zero=>simp[runD]
    |succ n ih=>
     cases Xs with
     |nil=>simp[runD]
     |cons X Xs=>simpa[K5,runD]using ih Xs
   grind) eU
 grind
def DK(P:Program)(Γ:Ctx)(pn:vV)(ops:Array Oper)(id:Nat)(hs:List Nat)(E0:Env)(Q:Exit→Env→Prop)(os:List Oper)(E:Env)(acc:List Stp):Prop:=
 ∀don,don++os=ops.toList→xN P Γ pn hs ops don acc.reverse→vE E0 acc.reverse→E=runD E0 (acc.reverse.map fun y=>(dh,y))→CW P Γ pn (.region id ops dh) E0 Q
variable {E0:Env}{acc:List Stp}
theorem CW.dk(h:DK P Γ pn ops id [] E Q ops.toList E []):CW P Γ pn (.region id ops dh) E Q:=h [] rfl trivial trivial rfl
theorem dGP(rd:List (Nat×T))(l:jT)(gU:E.Has rd)(gA:∀E':Env,E'.Has rd→uX hs E'→zIe P Γ pn ops o E' (E'.apps l))(k:DK P Γ pn ops id hs E0 Q os (E.apps l) (⟨rd,l⟩::acc)):DK P Γ pn ops id hs E0 Q (o::os) E acc:=by
 intro don hd hso hh hE;subst hE;have hr:=fun X=>Hl (a:=X) (as:=acc)
 refine k (don++[o]) (by simp[hd]) ?_ ?_ ?_
 ·grind[xN.snoc]
 ·grind[vE.snoc]
 ·rw[hr,Kn,uV];rfl
theorem dGS(rd:List (Nat×T))(l:jT)(gU:E.Has rd)(gA:∀E':Env,E'.Has rd→uX hs E'→xQ P Γ ops o E' (E'.apps l))(k:DK P Γ pn ops id hs E0 Q os (E.apps l) (⟨rd,l⟩::acc)):DK P Γ pn ops id hs E0 Q (o::os) E acc:=
 dGP rd l gU (fun E' h h' a w K Q _=>gA E' h h' a w K Q) k
theorem dG(rd:List (Nat×T))(l:jT)(gU:E.Has rd)(gA:∀E':Env,E'.Has rd→xQ P Γ ops o E' (E'.apps l))(k:DK P Γ pn ops id hs E0 Q os (E.apps l) (⟨rd,l⟩::acc)):DK P Γ pn ops id hs E0 Q (o::os) E acc:=
 by grind[dGS]
def zKl(hs:List Nat)(E:Env):Bool:=hs.all fun s=>match E s with
 |some t=>zAu t
 |none=>di
theorem zKm(h:zKl hs E=dh):uX hs E:=by
 intro s gB;have h1:=Jm.1 h s (by grind)
 grind
theorem dN(an:List (List Nat))(hm:P.follows .mixedOrders=dh)(hQ:Q .normal E)(hf:sK 0 ops.toList=dh:=by rfl)(ha:tH an an ops.toList=dh:=by rfl)(hp:uN acc.reverse 0 an acc.reverse=dh:=by rfl)
  (px:ops.toList.all (fun o=>pn.ok o.dst)=dh:=by rfl)(hh0:zKl hs E0=dh:=by rfl)(hw:acc.reverse.all (wrS hs)=dh:=by rfl):DK P Γ pn ops id hs E0 Q [] E acc:=by
 intro don hd gA hh hE
 grind[CW.drawnI,zKm]
end
end Go.Ab

namespace Go.Ab
open Go
section
variable {P:Program}{Γ:Ctx}{pn:vV}{E E':Env}{Q:Exit→Env→Prop}{ops:Array Oper}{o:Oper}{os:List Oper}{id d:Nat}{wr:Wr}{chg:Chg}{hs:List Nat}{E0:Env}{acc:List Stp}{x y:Operand}{ty:TypeId}{ps:String}{af:Array Edge}{gd:Option (Nat×Bool)}
class zDr (P:Program) (t:TypeId) (e:outParam TypeId):Prop where
 h:P.underlying t=df (.slice e)
class qK (P:Program) (t:TypeId) (b:outParam Bool) (n:outParam Nat):Prop where
 h:∀u:T,u.single=b→u.size=n→zMi P t u
theorem hE{rd:List (Nat×T)}{s:Nat}{t:T}(h:E.Has rd)(hr:xT rd s=df t):E s=df t:=h.le s t hr
theorem hO{rd:List (Nat×T)}{t:T}(h:E.Has rd)(hr:opT (xT rd) x=df t):opT E x=df t:=by
 cases x<;>simp only[opT]at hr ⊢
 ·exact h.le _ _ hr
 all_goals exact hr
mutual
def zAN:T→Bool
 |.ro _|.lit _|.any=>dh
 |.agg xs|.tup xs=>zCz xs
 |.ptr t=>zAN t
 |.sl _ []=>dh
 |_=>di
def zCz:List T→Bool
 | []=>dh
 |x::xs=>zAN x&&zCz xs
end
mutual
theorem zBF:{t:T}→zAN t=dh→zK t
 |.ro _,_|.lit _,_|.any,_=>by simp[zK,yA]
 |.agg xs,h|.tup xs,h=>by simp only[zAN]at h;simpa only[zK,yA]using zDs h
 |.ptr t,h=>by simp only[zAN]at h;exact zGV (zBF h)
 |.sl _ [],_=>by simp[zK,yA,yL]
 |.sl _ (_::_),h=>by simp[zAN]at h
 |.same _ _,h|.addr _ _,h|.sub _ _ _ _ _,h=>by simp[zAN]at h
theorem zDs:{xs:List T}→zCz xs=dh→yE xs
 | [],_=>trivial
 |x::xs,h=>by simp only[zCz,J2]at h;exact⟨zBF h.1,zDs h.2⟩
end
theorem zQS{α:Type}{t e:TypeId}{ti:TypeInfo}{r k:Nat}{q:List Nat}{f:α→T}{xs:List α}{v:α}{i:Int}[ht:jU P t e ti k](hx:xZ E x=df (r,q,L k f xs))(hy:opT E y=df (I i))(hv:ixO xs i=df v)(sd:J3 d Γ.N=dh):
  Ok P Γ ⟨df d,.indexAddr t x y,ty,ps,af,gd⟩ E (E.app [(d,df (.addr r (i.toNat::q)))] [(d,0)]):=zPr ht hv hx hy sd
theorem zNw{α:Type}{t e:TypeId}{ti:TypeInfo}{r k:Nat}{q:List Nat}{f:α→T}{xs:List α}{v:α}{i:Int}[ht:jU P t e ti k](hx:xZ E x=df (r,q,.ro (L k f xs)))(hy:opT E y=df (I i))(hv:ixO xs i=df v)(sd:J3 d Γ.N=dh):
  Ok P Γ ⟨df d,.indexAddr t x y,ty,ps,af,gd⟩ E (E.app [(d,df (.ro (.ptr (f v))))] [(d,0)]):=zNk ht hv hx hy sd
theorem zKn{t:TypeId}{u:T}{b:Bool}{n:Nat}[i:qK P t b n](hx:opT E x=df (.ro (.ptr u)))(h1:u.single=b)(h2:u.size=n)(sd:J3 d Γ.N=dh):Ok P Γ ⟨df d,.load t x,ty,ps,af,gd⟩ E (E.app [(d,df (roT u))] [(d,0)]):=zPs (i.h u h1 h2) hx sd
theorem zOl{t:TypeId}{u tr:T}{r:Nat}{q:List Nat}{b:Bool}{n:Nat}[i:qK P t b n](hx:opT E x=df (.addr r q))(hr:E r=df tr)(hg:tr.get q.reverse=df u)(h1:u.single=b)(h2:u.size=n)(sd:(J3 d Γ.N&&tr.locd q.reverse&&(r != d)&&T.okB [(d,0)] (cpT r u q))=dh):
  Ok P Γ ⟨df d,.load t x,ty,ps,af,gd⟩ E (E.app [(d,df (cpT r u q))] [(d,0)]):=zQN (i.h u h1 h2) hx hr hg sd
theorem zKo{t:TypeId}{u tr t0:T}{r:Nat}{q:List Nat}{b:Bool}{n:Nat}[i:qK P t b n](hx:xZ E x=df (r,q,.ptr t0))(hr:E r=df tr)(hg:tr.get (0::q).reverse=df u)(h1:u.single=b)(h2:u.size=n)(sd:(J3 d Γ.N&&tr.locd (0::q).reverse&&(r != d)&&T.okB [(d,0)] (cpT r u (0::q)))=dh):
  Ok P Γ ⟨df d,.load t x,ty,ps,af,gd⟩ E (E.app [(d,df (cpT r u (0::q)))] [(d,0)]):=zP3 (i.h u h1 h2) hx hr hg sd
theorem zP9{α:Type}{t e:TypeId}{r k:Nat}{q:List Nat}{f:α→T}{xs:List α}[i:zDr P t e](hx:xZ E x=df (r,q,L k f xs))(sd:J3 d Γ.N=dh):
  Ok P Γ ⟨df d,.call { callee:=.builtin .len,args:=#[x],argTypes:=#[t] },ty,ps,af,gd⟩ E (E.app [(d,df (I (xs.length:Int)))] [(d,0)]):=zNl i.h hx sd
theorem zOm{α:Type}{t e:TypeId}{r k:Nat}{q:List Nat}{f:α→T}{xs:List α}[i:zDr P t e](hx:xZ E x=df (r,q,.ro (L k f xs)))(sd:J3 d Γ.N=dh):
  Ok P Γ ⟨df d,.call { callee:=.builtin .len,args:=#[x],argTypes:=#[t] },ty,ps,af,gd⟩ E (E.app [(d,df (I (xs.length:Int)))] [(d,0)]):=zJY i.h hx sd
theorem zZ(k:RW P Γ pn ops os (E.app wr chg) Q)(h:Ok P Γ o E (E.app wr chg):=by exact zMg rfl rfl)(hg:o.guard=dg:=by rfl)(hp:pn.ok o.dst=dh:=by rfl):RW P Γ pn ops (o::os) E Q:=oP h k hg hp
theorem xX(k:RW P Γ pn ops os (E.app wr chg) Q)(h:Ok P Γ o E (E.app wr chg):=by exact zMh rfl rfl)(hg:o.guard=dg:=by rfl)(hp:pn.ok o.dst=dh:=by rfl):RW P Γ pn ops (o::os) E Q:=oP h k hg hp
theorem zCh(k:RW P Γ pn ops os (E.app wr chg) Q)(h:Ok P Γ o E (E.app wr chg):=by exact zKn rfl rfl rfl rfl)(hg:o.guard=dg:=by rfl)(hp:pn.ok o.dst=dh:=by rfl):RW P Γ pn ops (o::os) E Q:=oP h k hg hp
theorem zIf(k:RW P Γ pn ops os (E.app wr chg) Q)(h:Ok P Γ o E (E.app wr chg):=by exact zNw (by first|exact vP rfl rfl|exact zBB rfl rfl (by first|rfl|exact zN (by assumption) rfl|exact zN (by assumption) (zN (by assumption) rfl)|exact xL rfl (zN (by assumption) rfl)|exact xK (zN (by assumption) rfl)|exact xK (xL rfl (zN (by assumption) rfl))|exact xK (xL rfl (zN (by assumption) (zN (by assumption) rfl)))) rfl) rfl (by assumption) rfl)(hg:o.guard=dg:=by rfl)(hp:pn.ok o.dst=dh:=by rfl):RW P Γ pn ops (o::os) E Q:=oP h k hg hp
theorem zBG(k:RW P Γ pn ops os (E.app wr chg) Q)(h:Ok P Γ o E (E.app wr chg):=by exact zOm (by first|exact vP rfl rfl|exact zBB rfl rfl (by first|rfl|exact zN (by assumption) rfl|exact zN (by assumption) (zN (by assumption) rfl)|exact xL rfl (zN (by assumption) rfl)|exact xK (zN (by assumption) rfl)|exact xK (xL rfl (zN (by assumption) rfl))|exact xK (xL rfl (zN (by assumption) (zN (by assumption) rfl)))) rfl) rfl)(hg:o.guard=dg:=by rfl)(hp:pn.ok o.dst=dh:=by rfl):RW P Γ pn ops (o::os) E Q:=oP h k hg hp
theorem sM(k:RW P Γ pn ops os (E.app wr chg) Q)(h:Ok P Γ o E (E.app wr chg):=by exact zNi (by assumption) rfl rfl rfl)(hg:o.guard=dg:=by rfl)(hp:pn.ok o.dst=dh:=by rfl):RW P Γ pn ops (o::os) E Q:=oP h k hg hp
theorem zCi(k:RW P Γ pn ops os (E.app wr chg) Q)(h:Ok P Γ o E (E.app wr chg):=by exact zNj rfl rfl rfl)(hg:o.guard=dg:=by rfl)(hp:pn.ok o.dst=dh:=by rfl):RW P Γ pn ops (o::os) E Q:=oP h k hg hp
theorem zPA(k:RW P Γ pn ops os (E.app wr chg) Q)(h:Ok P Γ o E (E.app wr chg):=by first|exact zKo (by first|exact vP rfl rfl|exact zBB rfl rfl (by first|rfl|exact zN (by assumption) rfl|exact zN (by assumption) (zN (by assumption) rfl)|exact xL rfl (zN (by assumption) rfl)|exact xK (zN (by assumption) rfl)|exact xK (xL rfl (zN (by assumption) rfl))|exact xK (xL rfl (zN (by assumption) (zN (by assumption) rfl)))) rfl) rfl rfl rfl rfl rfl|exact zKo (by first|exact vP rfl rfl|exact zBB rfl rfl (by first|rfl|exact zN (by assumption) rfl|exact zN (by assumption) (zN (by assumption) rfl)|exact xL rfl (zN (by assumption) rfl)|exact xK (zN (by assumption) rfl)|exact xK (xL rfl (zN (by assumption) rfl))|exact xK (xL rfl (zN (by assumption) (zN (by assumption) rfl)))) rfl) rfl (by first|rfl|exact zN (by assumption) rfl|exact zN (by assumption) (zN (by assumption) rfl)|exact xL rfl (zN (by assumption) rfl)|exact xK (zN (by assumption) rfl)|exact xK (xL rfl (zN (by assumption) rfl))|exact xK (xL rfl (zN (by assumption) (zN (by assumption) rfl)))) (by rfl) (by rfl) (by rfl))(hg:o.guard=dg:=by rfl)(hp:pn.ok o.dst=dh:=by rfl):RW P Γ pn ops (o::os) E Q:=oP h k hg hp
theorem zGa(k:RW P Γ pn ops os (E.app wr chg) Q)(h:Ok P Γ o E (E.app wr chg):=by exact zNm (by assumption) rfl rfl rfl)(hg:o.guard=dg:=by rfl)(hp:pn.ok o.dst=dh:=by rfl):RW P Γ pn ops (o::os) E Q:=oP h k hg hp
theorem zNx(k:RW P Γ pn ops os (E.app wr chg) Q)(h:Ok P Γ o E (E.app wr chg):=by exact zNr rfl rfl)(hg:o.guard=dg:=by rfl)(hp:pn.ok o.dst=dh:=by rfl):RW P Γ pn ops (o::os) E Q:=oP h k hg hp
theorem zNy(k:RW P Γ pn ops os (E.app wr chg) Q)(h:Ok P Γ o E (E.app wr chg):=by exact zJZ rfl rfl rfl)(hg:o.guard=dg:=by rfl)(hp:pn.ok o.dst=dh:=by rfl):RW P Γ pn ops (o::os) E Q:=oP h k hg hp
theorem zPB(k:RW P Γ pn ops os (E.app wr chg) Q)(h:Ok P Γ o E (E.app wr chg):=by exact zNp rfl rfl rfl)(hg:o.guard=dg:=by rfl)(hp:pn.ok o.dst=dh:=by rfl):RW P Γ pn ops (o::os) E Q:=oP h k hg hp
theorem zPC(k:RW P Γ pn ops os (E.app wr chg) Q)(h:Ok P Γ o E (E.app wr chg):=by exact zNq rfl rfl rfl)(hg:o.guard=dg:=by rfl)(hp:pn.ok o.dst=dh:=by rfl):RW P Γ pn ops (o::os) E Q:=oP h k hg hp
theorem zIg(k:RW P Γ pn ops os (E.app wr chg) Q)(h:Ok P Γ o E (E.app wr chg):=by exact zNo rfl rfl rfl)(hg:o.guard=dg:=by rfl)(hp:pn.ok o.dst=dh:=by rfl):RW P Γ pn ops (o::os) E Q:=oP h k hg hp
theorem zIh(k:RW P Γ pn ops os (E.app wr chg) Q)(h:Ok P Γ o E (E.app wr chg):=by exact zKd inferInstance rfl rfl rfl rfl)(hg:o.guard=dg:=by rfl)(hp:pn.ok o.dst=dh:=by rfl):RW P Γ pn ops (o::os) E Q:=oP h k hg hp
theorem zFb(k:RW P Γ pn ops os (E.app wr chg) Q)(h:Ok P Γ o E (E.app wr chg):=by first|exact zAH rfl (zDn rfl) rfl|exact zAH rfl (isPtr_addr rfl) rfl|exact zAH rfl (isPtr_own (by first|exact vP rfl rfl|exact zBB rfl rfl (by first|rfl|exact zN (by assumption) rfl|exact zN (by assumption) (zN (by assumption) rfl)|exact xL rfl (zN (by assumption) rfl)|exact xK (zN (by assumption) rfl)|exact xK (xL rfl (zN (by assumption) rfl))|exact xK (xL rfl (zN (by assumption) (zN (by assumption) rfl)))) rfl)) rfl)(hg:o.guard=dg:=by rfl)(hp:pn.ok o.dst=dh:=by rfl):RW P Γ pn ops (o::os) E Q:=oP h k hg hp
theorem zNz(k:RW P Γ pn ops os (E.app wr chg) Q)(h:Ok P Γ o E (E.app wr chg):=by exact zP9 (by first|exact vP rfl rfl|exact zBB rfl rfl (by first|rfl|exact zN (by assumption) rfl|exact zN (by assumption) (zN (by assumption) rfl)|exact xL rfl (zN (by assumption) rfl)|exact xK (zN (by assumption) rfl)|exact xK (xL rfl (zN (by assumption) rfl))|exact xK (xL rfl (zN (by assumption) (zN (by assumption) rfl)))) rfl) rfl)(hg:o.guard=dg:=by rfl)(hp:pn.ok o.dst=dh:=by rfl):RW P Γ pn ops (o::os) E Q:=oP h k hg hp
theorem zPD(k:RW P Γ pn ops os (E.app wr chg) Q)(h:Ok P Γ o E (E.app wr chg):=by exact zNn (by assumption) rfl rfl rfl)(hg:o.guard=dg:=by rfl)(hp:pn.ok o.dst=dh:=by rfl):RW P Γ pn ops (o::os) E Q:=oP h k hg hp
theorem zIi(k:RW P Γ pn ops os (E.app wr chg) Q)(h:Ok P Γ o E (E.app wr chg):=by exact zHY inferInstance rfl)(hg:o.guard=dg:=by rfl)(hp:pn.ok o.dst=dh:=by rfl):RW P Γ pn ops (o::os) E Q:=oP h k hg hp
theorem sN(k:RW P Γ pn ops os (E.app wr chg) Q)(h:Ok P Γ o E (E.app wr chg):=by exact zNs rfl rfl rfl)(hg:o.guard=dg:=by rfl)(hp:pn.ok o.dst=dh:=by rfl):RW P Γ pn ops (o::os) E Q:=oP h k hg hp
theorem zKp(k:RW P Γ pn ops os (E.app wr chg) Q)(h:Ok P Γ o E (E.app wr chg):=by exact zNv rfl rfl)(hg:o.guard=dg:=by rfl)(hp:pn.ok o.dst=dh:=by rfl):RW P Γ pn ops (o::os) E Q:=oP h k hg hp
theorem jY(rd:List (Nat×T))(k:DK P Γ pn ops id hs E0 Q os (E.app wr chg) (⟨rd,[(wr,chg)]⟩::acc))(gU:E.Has rd:=by repeat (first|exact trivial|refine⟨rfl,?_⟩))(h:∀E':Env,E'.Has rd→Ok P Γ o E' (E'.app wr chg):=by intro E' h;exact zMg (hO h rfl) rfl)(hg:o.guard=dg:=by rfl):DK P Γ pn ops id hs E0 Q (o::os) E acc:=dG rd [(wr,chg)] gU (fun E' h'=>xQ.op (h E' h') hg) k
theorem zBq(rd:List (Nat×T))(k:DK P Γ pn ops id hs E0 Q os (E.app wr chg) (⟨rd,[(wr,chg)]⟩::acc))(gU:E.Has rd:=by repeat (first|exact trivial|refine⟨rfl,?_⟩))(h:∀E':Env,E'.Has rd→Ok P Γ o E' (E'.app wr chg):=by intro E' h;exact zKn (hO h rfl) rfl rfl rfl)(hg:o.guard=dg:=by rfl):DK P Γ pn ops id hs E0 Q (o::os) E acc:=dG rd [(wr,chg)] gU (fun E' h'=>xQ.op (h E' h') hg) k
theorem zEt(rd:List (Nat×T))(k:DK P Γ pn ops id hs E0 Q os (E.app wr chg) (⟨rd,[(wr,chg)]⟩::acc))(gU:E.Has rd:=by repeat (first|exact trivial|refine⟨rfl,?_⟩))(h:∀E':Env,E'.Has rd→Ok P Γ o E' (E'.app wr chg):=by intro E' h;exact zNw (by first|exact vP (hE h rfl) rfl|exact zBB (hE h rfl) (hE h rfl) (by first|rfl|exact zN (by assumption) rfl|exact zN (by assumption) (zN (by assumption) rfl)|exact xL rfl (zN (by assumption) rfl)|exact xK (zN (by assumption) rfl)|exact xK (xL rfl (zN (by assumption) rfl))|exact xK (xL rfl (zN (by assumption) (zN (by assumption) rfl)))) rfl) (hO h rfl) (by assumption) rfl)(hg:o.guard=dg:=by rfl):DK P Γ pn ops id hs E0 Q (o::os) E acc:=dG rd [(wr,chg)] gU (fun E' h'=>xQ.op (h E' h') hg) k
theorem zPE(rd:List (Nat×T))(k:DK P Γ pn ops id hs E0 Q os (E.app wr chg) (⟨rd,[(wr,chg)]⟩::acc))(gU:E.Has rd:=by repeat (first|exact trivial|refine⟨rfl,?_⟩))(h:∀E':Env,E'.Has rd→Ok P Γ o E' (E'.app wr chg):=by intro E' h;exact zP0 inferInstance (by first|exact vP (hE h rfl) rfl|exact zBB (hE h rfl) (hE h rfl) (by first|rfl|exact zN (by assumption) rfl|exact zN (by assumption) (zN (by assumption) rfl)|exact xL rfl (zN (by assumption) rfl)|exact xK (zN (by assumption) rfl)|exact xK (xL rfl (zN (by assumption) rfl))|exact xK (xL rfl (zN (by assumption) (zN (by assumption) rfl)))) rfl) rfl rfl rfl)(hg:o.guard=dg:=by rfl):DK P Γ pn ops id hs E0 Q (o::os) E acc:=dG rd [(wr,chg)] gU (fun E' h'=>xQ.op (h E' h') hg) k
theorem zOn(rd:List (Nat×T))(k:DK P Γ pn ops id hs E0 Q os (E.app wr chg) (⟨rd,[(wr,chg)]⟩::acc))(gU:E.Has rd:=by repeat (first|exact trivial|refine⟨rfl,?_⟩))(h:∀E':Env,E'.Has rd→Ok P Γ o E' (E'.app wr chg):=by intro E' h;first|exact zOl (hO h rfl) (hE h rfl) rfl rfl rfl rfl|exact zOl (hO h rfl) (hE h rfl) (by first|rfl|exact zN (by assumption) rfl|exact zN (by assumption) (zN (by assumption) rfl)|exact xL rfl (zN (by assumption) rfl)|exact xK (zN (by assumption) rfl)|exact xK (xL rfl (zN (by assumption) rfl))|exact xK (xL rfl (zN (by assumption) (zN (by assumption) rfl)))) (by rfl) (by rfl) (by rfl))(hg:o.guard=dg:=by rfl):DK P Γ pn ops id hs E0 Q (o::os) E acc:=dG rd [(wr,chg)] gU (fun E' h'=>xQ.op (h E' h') hg) k
theorem zPF(rd:List (Nat×T))(k:DK P Γ pn ops id hs E0 Q os (E.app wr chg) (⟨rd,[(wr,chg)]⟩::acc))(gU:E.Has rd:=by repeat (first|exact trivial|refine⟨rfl,?_⟩))(h:∀E':Env,E'.Has rd→Ok P Γ o E' (E'.app wr chg):=by intro E' h;exact zJZ (hO h rfl) (hO h rfl) rfl)(hg:o.guard=dg:=by rfl):DK P Γ pn ops id hs E0 Q (o::os) E acc:=dG rd [(wr,chg)] gU (fun E' h'=>xQ.op (h E' h') hg) k
theorem zKq(rd:List (Nat×T))(k:DK P Γ pn ops id hs E0 Q os (E.app wr chg) (⟨rd,[(wr,chg)]⟩::acc))(gU:E.Has rd:=by repeat (first|exact trivial|refine⟨rfl,?_⟩))(h:∀E':Env,E'.Has rd→Ok P Γ o E' (E'.app wr chg):=by intro E' h;exact zKd inferInstance (hO h rfl) rfl rfl rfl)(hg:o.guard=dg:=by rfl):DK P Γ pn ops id hs E0 Q (o::os) E acc:=dG rd [(wr,chg)] gU (fun E' h'=>xQ.op (h E' h') hg) k
theorem zGX(rd:List (Nat×T))(k:DK P Γ pn ops id hs E0 Q os (E.app wr chg) (⟨rd,[(wr,chg)]⟩::acc))(gU:E.Has rd:=by repeat (first|exact trivial|refine⟨rfl,?_⟩))(h:∀E':Env,E'.Has rd→Ok P Γ o E' (E'.app wr chg):=by intro E' h;first|exact zAH (hO h rfl) (zDn (hO h rfl)) rfl|exact zAH (hO h rfl) (isPtr_addr (hO h rfl)) rfl|exact zAH (hO h rfl) (isPtr_own (by first|exact vP (hE h rfl) rfl|exact zBB (hE h rfl) (hE h rfl) (by first|rfl|exact zN (by assumption) rfl|exact zN (by assumption) (zN (by assumption) rfl)|exact xL rfl (zN (by assumption) rfl)|exact xK (zN (by assumption) rfl)|exact xK (xL rfl (zN (by assumption) rfl))|exact xK (xL rfl (zN (by assumption) (zN (by assumption) rfl)))) rfl)) rfl)(hg:o.guard=dg:=by rfl):DK P Γ pn ops id hs E0 Q (o::os) E acc:=dG rd [(wr,chg)] gU (fun E' h'=>xQ.op (h E' h') hg) k
theorem zOo(rd:List (Nat×T))(k:DK P Γ pn ops id hs E0 Q os (E.app wr chg) (⟨rd,[(wr,chg)]⟩::acc))(gU:E.Has rd:=by repeat (first|exact trivial|refine⟨rfl,?_⟩))(h:∀E':Env,E'.Has rd→Ok P Γ o E' (E'.app wr chg):=by intro E' h;exact zQS (by first|exact vP (hE h rfl) rfl|exact zBB (hE h rfl) (hE h rfl) (by first|rfl|exact zN (by assumption) rfl|exact zN (by assumption) (zN (by assumption) rfl)|exact xL rfl (zN (by assumption) rfl)|exact xK (zN (by assumption) rfl)|exact xK (xL rfl (zN (by assumption) rfl))|exact xK (xL rfl (zN (by assumption) (zN (by assumption) rfl)))) rfl) (hO h rfl) (by assumption) rfl)(hg:o.guard=dg:=by rfl):DK P Γ pn ops id hs E0 Q (o::os) E acc:=dG rd [(wr,chg)] gU (fun E' h'=>xQ.op (h E' h') hg) k
theorem cA{f:FuncId}{xs:List Operand}{ats:Array TypeId}{us res:List T}(gu:qT P f)(hc:FnC P f us res [])(k:RW P Γ pn ops os (E.app (cWr d res []) (vA d [])) Q)(gk:xG E [] 0 xs us:=by repeat (first|exact trivial|refine⟨agC _ rfl (by first|rfl|exact zKb inferInstance|exact zKc rfl (by first|rfl|exact zN (by assumption) rfl|exact zN (by assumption) (zN (by assumption) rfl)|exact xL rfl (zN (by assumption) rfl)|exact xK (zN (by assumption) rfl)|exact xK (xL rfl (zN (by assumption) rfl))|exact xK (xL rfl (zN (by assumption) (zN (by assumption) rfl)))) inferInstance|exact cloSR rfl (by first|rfl|exact zN (by assumption) rfl|exact zN (by assumption) (zN (by assumption) rfl)|exact xL rfl (zN (by assumption) rfl)|exact xK (zN (by assumption) rfl)|exact xK (xL rfl (zN (by assumption) rfl))|exact xK (xL rfl (zN (by assumption) (zN (by assumption) rfl))))) rfl,?_⟩))(gy:kS res:=by repeat (first|exact zOb|refine zOc inferInstance ?_))(sd:J3 d Γ.N=dh:=by rfl)(hg:gd=dg:=by rfl)(hp:pn.ok (df d)=dh:=by rfl):
  RW P Γ pn ops (⟨df d,.call { callee:=.value (.func f),args:=xs.toArray,argTypes:=ats },ty,ps,af,gd⟩::os) E Q:=oP (zGU gu hc gk gy sd) k hg hp
theorem dC{f:FuncId}{xs:List Operand}{ats:Array TypeId}{us res:List T}(rd:List (Nat×T))(gu:qT P f)(hc:FnC P f us res [])(k:DK P Γ pn ops id hs E0 Q os (E.app (cWr d res []) (vA d [])) (⟨rd,[(cWr d res [],vA d [])]⟩::acc))(gU:E.Has rd:=by repeat (first|exact trivial|refine⟨rfl,?_⟩))(gk:∀E':Env,E'.Has rd→xG E' [] 0 xs us:=by intro E' h;repeat (first|exact trivial|refine⟨agC _ (hO h rfl) (by first|rfl|exact zKb inferInstance|exact zKc (hE h rfl) (by first|rfl|exact zN (by assumption) rfl|exact zN (by assumption) (zN (by assumption) rfl)|exact xL rfl (zN (by assumption) rfl)|exact xK (zN (by assumption) rfl)|exact xK (xL rfl (zN (by assumption) rfl))|exact xK (xL rfl (zN (by assumption) (zN (by assumption) rfl)))) inferInstance|exact cloSR (hE h rfl) (by first|rfl|exact zN (by assumption) rfl|exact zN (by assumption) (zN (by assumption) rfl)|exact xL rfl (zN (by assumption) rfl)|exact xK (zN (by assumption) rfl)|exact xK (xL rfl (zN (by assumption) rfl))|exact xK (xL rfl (zN (by assumption) (zN (by assumption) rfl))))) rfl,?_⟩))(gy:kS res:=by repeat (first|exact zOb|refine zOc inferInstance ?_))(sd:J3 d Γ.N=dh:=by rfl)(hg:gd=dg:=by rfl):
  DK P Γ pn ops id hs E0 Q (⟨df d,.call { callee:=.value (.func f),args:=xs.toArray,argTypes:=ats },ty,ps,af,gd⟩::os) E acc:=
 dG rd [(cWr d res [],vA d [])] gU (fun E' h'=>xQ.op (zGU gu hc (gk E' h') gy sd) hg) k
theorem sk2{g s:Nat}{b b':Bool}(k:RW P Γ pn ops os (E.app [(d,df (.tup []))] [(d,0)]) Q)(hd:o.dst=df d:=by rfl)(hg:o.guard=df (g,b):=by rfl)(ep:(ops[g]?).bind (·.dst)=df s:=by rfl)(hb:E s=df (.lit (.bool b')):=by rfl)(ci:(b==b')=di:=by rfl)(sd:J3 d Γ.N=dh:=by rfl)(hp:pn.ok o.dst=dh:=by rfl):
  RW P Γ pn ops (o::os) E Q:=RW.cons (xQ.skip2 g b b' s hd sd ci hg ep hb) k hp
theorem sk3{g s:Nat}{b:Bool}(k:RW P Γ pn ops os (E.app [(d,df (.tup []))] [(d,0)]) Q)(hd:o.dst=df d:=by rfl)(hg:o.guard=df (g,b):=by rfl)(ep:(ops[g]?).bind (·.dst)=df s:=by rfl)(hb:E s=df (.tup []):=by rfl)(sd:J3 d Γ.N=dh:=by rfl)(hp:pn.ok o.dst=dh:=by rfl):
  RW P Γ pn ops (o::os) E Q:=RW.cons (xQ.skip3 g b s hd sd hg ep hb) k hp
theorem zQT{g s:Nat}{b b':Bool}(k:DK P Γ pn ops id hs E0 Q os (E.app [(d,df (.tup []))] [(d,0)]) (⟨[(s,.lit (.bool b'))],[([(d,df (.tup []))],[(d,0)])]⟩::acc))(hd:o.dst=df d:=by rfl)(hg:o.guard=df (g,b):=by rfl)(ep:(ops[g]?).bind (·.dst)=df s:=by rfl)(hb:E s=df (.lit (.bool b')):=by rfl)(ci:(b==b')=di:=by rfl)(sd:J3 d Γ.N=dh:=by rfl):
  DK P Γ pn ops id hs E0 Q (o::os) E acc:=dG [(s,.lit (.bool b'))] [([(d,df (.tup []))],[(d,0)])] ⟨hb,trivial⟩ (fun _E' h=>xQ.skip2 g b b' s hd sd ci hg ep h.1) k
theorem zQU{g s:Nat}{b:Bool}(k:DK P Γ pn ops id hs E0 Q os (E.app [(d,df (.tup []))] [(d,0)]) (⟨[(s,.tup [])],[([(d,df (.tup []))],[(d,0)])]⟩::acc))(hd:o.dst=df d:=by rfl)(hg:o.guard=df (g,b):=by rfl)(ep:(ops[g]?).bind (·.dst)=df s:=by rfl)(hb:E s=df (.tup []):=by rfl)(sd:J3 d Γ.N=dh:=by rfl):
  DK P Γ pn ops id hs E0 Q (o::os) E acc:=dG [(s,.tup [])] [([(d,df (.tup []))],[(d,0)])] ⟨hb,trivial⟩ (fun _E' h=>xQ.skip3 g b s hd sd hg ep h.1) k
theorem dNA(hm:P.follows .mixedOrders=dh)(hQ:Q .normal E)(hf:sK 0 ops.toList=dh:=by rfl)(ha:tH (zOg ops.toList) (zOg ops.toList) ops.toList=dh:=by rfl)(hp:uN acc.reverse 0 (zOg ops.toList) acc.reverse=dh:=by rfl)
  (px:ops.toList.all (fun o=>pn.ok o.dst)=dh:=by rfl)(hh0:zKl hs E0=dh:=by rfl)(hw:acc.reverse.all (wrS hs)=dh:=by rfl):DK P Γ pn ops id hs E0 Q [] E acc:=dN _ hm hQ hf ha hp px hh0 hw
theorem cn{c1 c2:Code}{α:Type}{b:Bool}{u v z:α}(h:cond b u v=z)(ht:b=dh→u=z→CW P Γ pn c1 E Q)(hf:b=di→v=z→CW P Γ pn c2 E Q)(hb:opT E x=df (.lit (.bool b)):=by rfl):CW P Γ pn (.cond x c1 c2) E Q:=
 CW.cond b hb (fun hc=>ht hc (cT hc h)) fun hc=>hf hc (cF hc h)
theorem fB{f:FuncId}{fn:Func}{c:Code}{us res:List T}{rws:List (Nat×T)}(hf:P.funcs[f]? =df fn)(h:∀(St:Stb)(W:Nat→Prop)(w0:World)(v:Nat→Value),CW P ⟨St,W,w0,fn.ntmps⟩ (kO v (rws.map (·.1))) c (xT (zDQ 0 us)) (xP ⟨St,W,w0,fn.ntmps⟩ P fn.results us res rws))(hb:fn.body=df c:=by rfl)(hn:us.length≤fn.ntmps:=by exact Nat.le_of_ble_eq_true rfl)
  (ht:xV us:=by repeat (first|exact trivial|refine⟨by first|exact Top.of_clean _ (Enc.clean _)|simp[Top,xV],?_⟩))(hr:rws.all (fun x=>decide (x.1<us.length))=dh:=by rfl):FnC P f us res rws:=
 FnC.of_bodyG hf hb hn ht hr (by rintro⟨St,W,w0,N⟩ v hN;subst hN;exact h St W w0 v)
def kU:List ResultVar→Option (List Nat)
 | []=>df []
 |.tmp s::l=>(kU l).map (s::·)
 |.cell _ _::_=>dg
theorem zEu:∀(rs:List ResultVar)(ss:List Nat)(res:List T),kU rs=df ss→ss.map E=res.map df→res.all T.okTup=dh→ ∃nd:Nds,zIG P E rs nd∧nd.map (·.2.2)=res∧nd.map (·.1)=ss
 | [],ss,res,h,hE,_=>by
  simp[kU]at h;subst h;cases res with
  |nil=>exact⟨[],trivial,rfl,rfl⟩
  |cons _ _=>simp at hE
 |.tmp s::rs,ss,res,h,hE,ht=>by
  simp only[kU,K8]at h;obtain⟨ss',h,rfl⟩:=h;cases res with
  |nil=>simp at hE
  |cons t res=>
   simp only[Jc,G6.injEq]at hE;simp only[Gp,J2]at ht;obtain⟨nd,h1,h2,h3⟩:=zEu rs ss' res h hE.2 ht.2;exact⟨(s,[],t)::nd,⟨⟨rfl,rfl,hE.1,ht.1⟩,h1⟩,by simp[h2],by simp[h3]⟩
 |.cell _ _::_,_,_,h,_,_=>by simp[kU]at h
theorem rT{rs:Array ResultVar}{us res:List T}{rws:List (Nat×T)}{e:Exit}{ss:List Nat}(hs:kU rs.toList=df ss:=by rfl)(hE:ss.map E=res.map df:=by rfl)(ht:res.all T.okTup=dh:=by rfl)(hl:ss.all (fun s=>Ud us.length s)=dh:=by rfl)(hn:qU ss=dh:=by rfl)
  (hw:LOk E us rws:=by repeat (first|exact trivial|refine⟨⟨rfl,_,rfl⟩,?_⟩))(he:e=.ret∨e=.normal:=by first|exact .inl rfl|exact .inr rfl):xP Γ P rs us res rws e E:=by
 obtain⟨nd,h1,h2,h3⟩:=zEu (P:=P) rs.toList ss res hs hE ht;refine⟨E,zF.refl,he,nd,h1,h2,fun x hx=>?_,by rw[h3];exact zBE hn,hw⟩;have:x.1∈ss:=by rw[←h3];exact J7.2 ⟨x,hx,rfl⟩
 exact Nat.le_of_ble_eq_true (Jm.1 hl _ this)
theorem eN{σ ρ:Type}{en:σ→Env}{Q1:ρ→Exit→Env→Prop}{y:σ}{x:σ⊕ρ}(h:df (Sum.inl y)=df x)(q:zF Γ E (en y):=by exact .has (by repeat (first|exact trivial|refine⟨rfl,?_⟩))):yY Γ en Q1 x .normal E:=by obtain rfl:=sI h;exact⟨rfl,q⟩
theorem rTg{rs:Array ResultVar}{us res:List T}{rws:List (Nat×T)}{e:Exit}(hg:zF Γ E E')(h:xP Γ P rs us res rws e E'):xP Γ P rs us res rws e E:=by obtain⟨E2,h1,h2⟩:=h;exact⟨E2,hg.trans h1,h2⟩
theorem eX{σ ρ:Type}{en:σ→Env}{Q1:ρ→Exit→Env→Prop}{y:ρ}{x:σ⊕ρ}{e:Exit}(h:df (Sum.inr y)=df x)(q:Q1 y e E:=by first|exact⟨rfl,.has (by repeat (first|exact trivial|refine⟨rfl,?_⟩))⟩|exact⟨rfl,rT⟩)(gf:e≠.normal:=by first|exact neX|exact neR):yY Γ en Q1 x e E:=by obtain rfl:=sI h;exact⟨gf,q⟩
end
end Go.Ab

namespace Go.Ab
open Go
section
variable {Γ:Ctx}{E:Env}
theorem zF.frzG(s:Nat)(t:T){t':T}(hs:E s=df t)(h:vO t=t'):zF Γ E (E.app [(s,df t')] [(s,1)]):=h▸zF.freeze s t hs
theorem fzO{α:Type}{k:Nat}{f g:α→T}{xs:List α}(h:xM f g):vO (L k f xs)=.ro (L k g xs):=by simp only[vO,strip,vF h.h xs]
theorem fzP{t u:T}(h:strip t=u):vO (.ptr t)=.ro (.ptr u):=by grind[vO,strip]
theorem fzN:uE []=[]:=rfl
theorem fzC{x y:T}{xs ys:List T}(h:vO x=y)(h2:uE xs=ys):uE (x::xs)=y::ys:=by grind[uE]
end
end Go.Ab
namespace Go.Ab
open Go
theorem zN0{E:Env}{wr:Wr}{chg:Chg}{s:Nat}{t:T}(h:E s=df t)(hf:wr.find s=dg:=by rfl)(hb:t.okB chg=dh:=by rfl):opT (E.app wr chg) (.tmp s)=df t:=zEq h hf hb
end Go.Ab

namespace Go.Ab
open Go
end Go.Ab

namespace Go.Ab
open Go Go.ChangeShapes
end Go.Ab

namespace Go.Ab
open Go
section
variable {α:Type}{k:Nat}{f:α→T}{xs:List α}{i:Int}{v w:α}{u:T}
theorem zQV(h:ixO xs i=df v):(L k f xs).set [i.toNat] u=.sl k ((xs.map f).set i.toNat u):=by simp[T.set,(qJ h).2]
end
theorem zF.trh{Γ:Ctx}{E:Env}{α:Type}(d r:Nat){k:Nat}{f:α→T}{xs:List α}{v:α}{i:Int}(hd:E d=df (.same r [i.toNat]))(hr:E r=df (L k f xs))(hv:ixO xs i=df v)(ef:zK (f v))(sd:((f v).single&&(d != r))=dh):
  zF Γ E (E.app [(d,df (f v)),(r,df (.sl k ((xs.map f).set i.toNat .any)))] [(d,1),(r,2)]):=by
 refine zF.trq d r [i.toNat] hd hr (zN hv rfl) ef ?_ ?_
 ·simp only[J2]at sd ⊢
  exact⟨⟨⟨sd.1,rfl⟩,rfl⟩,sd.2⟩
 ·rw[if_neg (by simp)]
  exact zQV hv
end Go.Ab

namespace Go.Ab
open Go
end Go.Ab

namespace Go.Ab
open Go
end Go.Ab
