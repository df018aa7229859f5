/- The program's MultiplicatorRank returns what the reference's returns,for all arguments;no conditions. -/
import Derived.Test.YtnggaddopliclaaGreatAbA
import Derived.Laws.CopyRow
import Derived.ProofKit
open List renaming replicate→J1,getElem?_eq_getElem→J3,length_append→J5,length_cons→J6,getElem?_append_right→J8,append_nil→J9,append_assoc→Ja,getElem?_eq_some_iff→Jb,length_map→Jc,mem_cons→Jd,nil_append→Ji,mem_append→Jj,range→Jl,getElem?_append_left→Jm,replicate_succ→Jo,cons_append→Jq,mem_map→Jt,map_cons→Ju,length_nil→Jw,getElem?_map→K0,take_zero→K6,take_succ_cons→K9,length_take→Ka,eq_nil_of_length_eq_zero→Kb,mem_of_getElem?→Kd,all_eq_true→Kh,reverse_reverse→Km,getElem?_drop→Ko,getElem?_replicate→Kr,map_append→Ks,length_range→Kt,getElem?_append→L4,range'→L9,reverse_nil→Lg,nodup_cons→Ll,set_cons_succ→Lm,flatMap_cons→Ln,range_eq_range'→Lr,map_nil→Lw,contains_eq_mem→Ly,reverse_cons→H0,getElem?_take→H3,mem_cons_of_mem→H5,mem_iff_getElem→G3,drop_zero→G4,getElem?_set_self→Uq,getElem?_cons_succ→Uu,map_take→Qq,getElem?_eq_none_iff→Qw,getD→Ja3,getElem?_set_ne→Jad,find?_cons_of_neg→Jag,mem_iff_getElem?→Jaj,getLast?_append→Jau,dropLast_concat→Jav,map_set→Jb3,find?_eq_none→Jb4,count_eq_zero→Jb6,map_map→Jbp,all_cons→Jbt,mem_filter→Jbx,cons→Jc1,size_toArray→Jc3,getElem?_set→Jc4,map_drop→Jcy,set_set→Jd5,range'_succ→Jd6
open Bool renaming and_eq_true→J4,not_true→Ky,and_self→L8,not_eq_true'→G5,false_eq_true→Ga
open Nat renaming blt→J7,zero_add→Jf,lt_or_ge→Jk,le_refl→Jp,succ_mul→Jy,mul_le_mul_right→Kg,zero_le→Kk,le_trans→L6,mul_comm→H2,div_add_mod→H8,div_lt_iff_lt_mul→Hn,mod_lt→Gd,sub_zero→U7,add_zero→U8,mul_one→Qp,beq→Jbl
open Array renaming getElem?_setIfInBounds→Jg,getD_eq_getD_getElem?→K5,getElem?_toList→K7,length_toList→Kf,getElem?_eq_some_iff→Ki,getElem?_setIfInBounds_ne→H1,replicate→Ql,getElem?_append→Jah
open Int renaming emod_eq_of_lt→Ke,add_emod_right→Un
open Option renaming some→Lb,map_eq_some_iff→Lf,map_some→Hj,getD_some→Qh,map_eq_none_iff→Qx
open Prod renaming mk→Jax
namespace Go.Ab
open Go
mutual
def clo(E:Env):T→T
 |.agg ts=>.agg (zAL E ts)
 |.lit v=>.lit v
 |.ro u=>.ro u
 |.same r q=>match qA E 4 r q with
  |some (_,_,.ro u)=>.ro u
  |some (_,_,.lit v)=>.lit v
  |some (_,_,t)=>if t.single then .ro (strip t)else .any
  |none=>.any
 |.sub r q k lo hi=>match qA E 4 r q with
  |some (_,_,.sl k' xs)=>if k=k'∧lo≤hi∧hi≤xs.length then .ro (.sl k (((wU xs).drop lo).take (hi-lo)))else .any
  |_=>.any
 |.sl k xs=>.ro (strip (.sl k xs))
 |.ptr t=>.ro (strip (.ptr t))
 |.any|.addr _ _|.tup _=>.any
def zAL(E:Env):List T→List T
 | []=>[]
 |x::xs=>clo E x::zAL E xs
end
mutual
def sC(E:Env)(rs:List Nat)(s:Nat):T→Bool
 |.agg ts=>zAq E rs s ts
 |.same r q|.sub r q _ _ _=>match qA E 4 r q with
  |some (r',_,_)=> !rs.contains r'
  |none=>true
 |.sl _ _|.ptr _=> !rs.contains s
 |.lit _|.ro _|.any|.addr _ _=>true
 |.tup _=>false
def zAq(E:Env)(rs:List Nat)(s:Nat):List T→Bool
 | []=>true
 |x::xs=>sC E rs s x&&zAq E rs s xs
end
theorem zTG{St:Stb}{k:Nat}{xs:List T}{v:Value}{lo hi:Nat}(h:RoC St (.sl k xs) #[v] 0)(h1:lo≤hi)(h2:hi≤xs.length):RoC St (.sl k ((xs.drop lo).take (hi-lo))) #[zAT v k lo hi] 0:=by
 simp only[RoC]at h ⊢
 obtain⟨a',c,g4,g5,g6,g7⟩:=h;have hv:v=.slice a' xs.length c:=by simpa using g4
 subst hv;have hlen:((xs.drop lo).take (hi-lo)).length=hi-lo:=by simp;omega
 refine⟨if c=lo then a' else a'.map (·.add (lo*k)),c-lo,by rw[hlen];simp[zAT],by omega,by omega,?_⟩;intro hne;have hne':xs≠[]:=by rintro rfl;simp at hne
 obtain⟨b,o',cs',e',fr,rfl,h3,h4⟩:=g7 hne';have hcl:c≠lo:=by rintro rfl;apply hne;apply Kb;omega
 exact⟨b,o'+lo*k,cs',e',fr,by simp[hcl,uM],h3,zG6 _ _ _ _ _ (zG5 _ _ _ _ _ h4)⟩
section
variable {Γ:Ctx}{E:Env}{G Gc:Gh}{a:Act}{w:World}{Sc:Stb}{rs:List Nat}{s i:Nat} (hrep:Rep Γ E G a.tmps w) (hSt:∀b x,Γ.St b=some x→Sc b=some x) (hSc:∀r,r∉rs→ ∀b,(∃y,G.ow b=some (r,y))→Sc b=w.heap[b]?) (hhd:∀z,Gc.hd i z=G.hd s z)
 include hrep hSt hSc hhd
mutual
theorem zVd:(t:T)→ ∀(p:List Nat),sC E rs s t=true→R Γ.St G w s t p→R Sc Gc w i (clo E t) p
 |.agg ts,p,h,hr=>by simp only[sC,clo,R]at h hr ⊢;exact zQC ts p 0 h hr
 |.tup _,_,h,_=>by simp[sC]at h
 |.lit v,p,_,hr=>by simp only[clo,R]at hr ⊢;rw[hhd];exact hr
 |.ro u,p,_,hr=>by simp only[clo,R]at hr ⊢;rw[hhd];exact tS hSt u _ _ hr
 |.any,_,_,_|.addr _ _,_,_,_=>by simp only[clo,R]
 |.sl k xs,p,h,hr=>by simp only[sC,G5,Ly,decide_eq_false_iff_not]at h;have:=zK8 (fun s p=>hrep.mem.one s p) hSt (hSc s h) (.sl k xs) p rfl hr;simp only[clo,R];rw[hhd];exact this
 |.ptr t,p,h,hr=>by simp only[sC,G5,Ly,decide_eq_false_iff_not]at h;have:=zK8 (fun s p=>hrep.mem.one s p) hSt (hSc s h) (.ptr t) p rfl hr;simp only[clo,R];rw[hhd];exact this
 |.same r q,p,h,hr=>by
  simp only[sC,clo,R]at h hr ⊢
  cases hf:qA E 4 r q with
  |none=>simp only[R]
  |some x=>
   obtain⟨r',q',t⟩:=x;simp only[hf,G5,Ly,decide_eq_false_iff_not]at h;obtain⟨h1,h2,_⟩:=zCH hrep 4 r q r' q' t hf;have h3:Gc.hd i p=G.hd r' q':=by rw[hhd,hr,h2]
   by_cases hs:t.single=true
   ·have h4:=zK8 (fun s p=>hrep.mem.one s p) hSt (hSc r' h) t q' hs h1
    cases t with
    |ro u=>simp only[R]at h1 ⊢;rw[h3];exact tS hSt u _ _ h1
    |lit v=>simp only[R]at h1 ⊢;rw[h3];exact h1
    |agg _=>simp[T.single]at hs
    |tup _=>simp[T.single]at hs
    |_=>simp only[hs,if_true,R];rw[h3];exact h4
   ·cases t<;>simp[T.single]at hs<;>simp[T.single,R]
 |.sub r q k lo hi,p,h,hr=>by
  simp only[sC,clo,R]at h hr ⊢
  cases hf:qA E 4 r q with
  |none=>simp only[R]
  |some x=>
   obtain⟨r',q',t⟩:=x;simp only[hf,G5,Ly,decide_eq_false_iff_not]at h;obtain⟨h1,h2,_⟩:=zCH hrep 4 r q r' q' t hf;cases t with
   |sl k' xs=>
    simp only[];split
    ·rename_i hc
     obtain⟨rfl,hc1,hc2⟩:=hc;have h4:=zK8 (fun s p=>hrep.mem.one s p) hSt (hSc r' h) (.sl k xs) q' rfl h1;simp only[strip]at h4;simp only[R];rw[hhd,hr,h2];exact zTG h4 hc1 (by rw[jZ];exact hc2)
    ·simp only[R]
   |_=>simp only[R]
theorem zQC:(ts:List T)→ ∀(p:List Nat)(j:Nat),zAq E rs s ts=true→RF Γ.St G w s ts p j→RF Sc Gc w i (zAL E ts) p j
 | [],_,_,_,_=>by have _:=hrep;have _:=hSt;have _:=hSc;have _:=hhd;simp only[zAL,RF]
 |x::xs,p,j,h,hr=>by
  simp only[zAq,J4,zAL,RF]at h hr ⊢
  exact⟨zVd x _ h.1 hr.1,zQC xs p (j+1) h.2 hr.2⟩
end
end
section
variable {E:Env}{G Gc:Gh}{rs:List Nat}{s i:Nat}
theorem zGM(t:T)(h:t.single=true):(clo E t).single=true:=by cases t<;>simp[T.single]at h<;>simp only[clo]<;>first|rfl|(split<;>first|rfl|(split<;>rfl))
mutual
theorem zQD(hhd:∀z,Gc.hd i z=G.hd s z):(t:T)→ ∀(p:List Nat),sC E rs s t=true→vals Gc i (clo E t) p=vals G s t p
 |.agg ts,p,h=>by simp only[sC,clo,vals]at h ⊢;exact zFa hhd ts p 0 h
 |.tup _,_,h=>by simp[sC]at h
 |.lit _,p,_|.ro _,p,_|.any,p,_|.addr _ _,p,_|.sl _ _,p,_|.ptr _,p,_|.same _ _,p,_|.sub _ _ _ _ _,p,_=>by
  have h1:∀u:T,u.single=true→vals Gc i u p=[G.hd s p]:=fun u hu=>by cases u<;>simp[T.single]at hu<;>simp[vals,hhd]
  rw[h1 _ (zGM _ rfl)];simp[vals]
theorem zFa(hhd:∀z,Gc.hd i z=G.hd s z):(ts:List T)→ ∀(p:List Nat)(j:Nat),zAq E rs s ts=true→yF Gc i (zAL E ts) p j=yF G s ts p j
 | [],_,_,_=>by simp only[zAL,yF]
 |x::xs,p,j,h=>by simp only[zAq,J4]at h;simp only[zAL,yF];rw[zQD hhd x _ h.1,zFa hhd xs p _ h.2]
end
theorem zJu(hhd:∀z,Gc.hd i z=G.hd s z)(t:T)(h:sC E rs s t=true):mkV Gc i (clo E t) []=mkV G s t []:=by
 cases t with
 |agg ts=>simp only[sC]at h;simp only[clo,mkV,zFa hhd ts [] 0 h]
 |tup _=>simp[sC]at h
 |_=>rw[xP (zGM _ rfl),xP rfl,hhd]
end
end Go.Ab

namespace Go.Ab
open Go
abbrev Rw:=List (Nat×Nat×T)
def rwI(rw:Rw)(s:Nat):Option Nat:=(rw.find? fun x=>x.2.1==s).map (·.1)
def rwS(rw:Rw)(i:Nat):Option Nat:=(rw.find? fun x=>x.1==i).map (·.2.1)
theorem zCg:(rw:Rw)→(rw.map (·.2.1)).Nodup→ ∀{i s:Nat}{u:T},(i,s,u)∈rw→rwI rw s=some i
 | [],_,_,_,_,h=>by simp at h
 |(i0,s0,u0)::rw,hn,i,s,u,h=>by
  simp only[Ju,Ll,Jt]at hn;rcases Jd.1 h with h|h
  ·simp at h;obtain⟨rfl,rfl,rfl⟩:=h;simp[rwI]
  ·have hne:s0≠s:=fun e=>hn.1 ⟨_,h,e.symm⟩
   have:=zCg rw hn.2 h;simp only[rwI]at this ⊢
   rw[Jag (by simpa using hne)];exact this
theorem zK9:(rw:Rw)→(rw.map (·.1)).Nodup→ ∀{i s:Nat}{u:T},(i,s,u)∈rw→rwS rw i=some s
 | [],_,_,_,_,h=>by simp at h
 |(i0,s0,u0)::rw,hn,i,s,u,h=>by
  simp only[Ju,Ll,Jt]at hn;rcases Jd.1 h with h|h
  ·simp at h;obtain⟨rfl,rfl,rfl⟩:=h;simp[rwS]
  ·have hne:i0≠i:=fun e=>hn.1 ⟨_,h,e.symm⟩
   have:=zK9 rw hn.2 h;simp only[rwS]at this ⊢
   rw[Jag (by simpa using hne)];exact this
theorem zKA{rw:Rw}{s:Nat}(h:s∉rw.map (·.2.1)):rwI rw s=none:=by simp only[rwI,Qx,Jb4];intro x hx;simp only[beq_iff_eq];exact fun e=>h (Jt.2 ⟨x,hx,e⟩)
theorem zQE{rw:Rw}{i:Nat}(h:∀x∈rw,x.1≠i):rwS rw i=none:=by simp only[rwS,Qx,Jb4];intro x hx;simpa using h x hx
theorem zNS{rw:Rw}{s i:Nat}(h:rwI rw s=some i):s∈rw.map (·.2.1):=by simp only[rwI,Lf]at h;obtain⟨x,hx,_⟩:=h;have h1:=List.mem_of_find?_eq_some hx;have h2:=List.find?_some hx;exact Jt.2 ⟨x,h1,by simpa using h2⟩
abbrev Nd:=List (Nat×List Nat×T)
def zQF(nd:Nd)(k s:Nat):Option (Nat×List Nat):=
 match nd with
 | []=>none
 |x::r=>if x.1=s then some (k,x.2.1)else zQF r (k+1) s
def ndB(d:Nat)(nd:Nd)(s:Nat)(z:List Nat):Option (Nat×List Nat):=
 match nd with
 | [x]=>if x.1=s∧x.2.1<:+z then some (d,z.take (z.length-x.2.1.length))else none
 |nd=>match zQF nd 0 s with
  |some (k,q)=>if q<:+z then some (d,z.take (z.length-q.length)++[k])else none
  |none=>none
theorem zIx:(nd:Nd)→(nd.map (·.1)).Nodup→ ∀{k k0:Nat}{x:Nat×List Nat×T},nd[k]? =some x→zQF nd k0 x.1=some (k0+k,x.2.1)
 | [],_,_,_,_,h=>by simp at h
 |y::nd,hn,k,k0,x,h=>by
  simp only[Ju,Ll,Jt]at hn;cases k with
  |zero=>simp at h;subst h;simp[zQF]
  |succ k=>
   simp only[Uu]at h;have hne:y.1≠x.1:=fun e=>hn.1 ⟨x,Kd h,e.symm⟩
   simp only[zQF,hne,if_false];rw[zIx nd hn.2 h]
   congr 2;omega
def zQG(G:Gh)(nd:Nd)(z:List Nat):Value:=
 match nd with
 | [x]=>G.hd x.1 (z++x.2.1)
 |nd=>match z.getLast? with
  |some k=>(match nd[k]? with
   |some x=>G.hd x.1 (z.dropLast++x.2.1)
   |none=>.bool false)
  |none=>.bool false
def zTH(G:Gh)(nd:Nd)(z:List Nat):Addr:=
 match nd with
 | [x]=>G.ad x.1 (z++x.2.1)
 |nd=>match z.getLast? with
  |some k=>(match nd[k]? with
   |some x=>G.ad x.1 (z.dropLast++x.2.1)
   |none=>default)
  |none=>default
def Gh.arg(G:Gh)(a:Act)(xs:List Operand)(rw:Rw):Gh where
 hd i z:=match xs[i]? with
  |some (.tmp s)=>G.hd s z
  |some x=>jM (a.eval x)
  |none=>.bool false
 ad i z:=match xs[i]? with
  |some (.tmp s)=>G.ad s z
  |_=>default
 lb b o:=match G.lb b o with
  |some (f,s,z)=>(match rwI rw s,G.ow b with
   |some i,some (s',_)=>if s'=s then some (f,i,z)else none
   |_,_=>none)
  |none=>none
 ow b:=match G.ow b with
  |some (s,z)=>(match rwI rw s with
   |some i=>some (i,z)
   |none=>none)
  |none=>none
def zA2(G:Gh)(rw:Rw)(b:Nat):Prop:=∃s z,G.ow b=some (s,z)∧s∈rw.map (·.2.1)
def zDs(d:Nat)(rw:Rw)(nd:Nd)(s:Nat)(z:List Nat):Option (Nat×List Nat):=
 match rwS rw s with
 |some s'=>some (s',z)
 |none=>ndB d nd s z
open Classical in
noncomputable def Gh.back (G G':Gh) (n0 d:Nat) (rw:Rw) (nd:Nd):Gh where
 hd s z:=if s=d then zQG G' nd z else match rwI rw s with
  |some i=>G'.hd i z
  |none=>G.hd s z
 ad s z:=if s=d then zTH G' nd z else match rwI rw s with
  |some i=>if z=[]then G.ad s z else G'.ad i z
  |none=>G.ad s z
 lb b o:=if zA2 G rw b∨n0≤b then(match G'.lb b o with
  |some (f,s,z)=>(match zDs d rw nd s z with
   |some (s',z')=>some (f,s',z')
   |none=>none)
  |none=>none)else G.lb b o
 ow b:=if zA2 G rw b∨n0≤b then(match G'.ow b with
  |some (s,z)=>zDs d rw nd s z
  |none=>none)else G.ow b
def zM2(res:List T):T:=match res with
 | [u]=>u
 |us=>.tup us
def cWr(d:Nat)(res:List T)(rw:Rw):Wr:=(d,some (zM2 res))::rw.map fun x=>(x.2.1,some x.2.2)
def cLv(t:T):Nat:=if t.single then 1 else 0
def uI(d:Nat)(rw:Rw):Chg:=(d,0)::rw.map fun x=>(x.2.1,cLv x.2.2)
theorem zGN{d:Nat}{rw:Rw}{x:Nat×Nat×T}(h:x∈rw):(x.2.1,cLv x.2.2)∈uI d rw:=H5 _ (Jt.2 ⟨x,h,rfl⟩)
theorem zNT{Gn G':Gh}{d:Nat}:(nd:Nd)→ ∀(j:Nat),(∀k x,nd[k]? =some x→ ∀z,Gn.hd d (z++[j+k])=G'.hd x.1 (z++x.2.1))→qW Gn d (nd.map (·.2.2)) [] j=nd.map fun x=>tZ G' x.1 x.2.2 x.2.1
 | [],_,_=>by simp[qW]
 |x::nd,j,h=>by
  have ih:=zNT (Gn:=Gn) (G':=G') (d:=d) nd (j+1) (fun k y hy z=>by rw[show j+1+k=j+(k+1)from by omega];exact h (k+1) y (by simpa using hy) z)
  simp only[Ju,qW,ih];rw[zBz x.2.2 x.2.1 [j] (by simpa using h 0 x (by simp))]
theorem zQH{d:Nat}{res:List T}{rw:Rw}{s:Nat}{x:Option T}(h:(cWr d res rw).find s=some x):(s=d∧x=some (zM2 res))∨(s≠d∧ ∃i u,(i,s,u)∈rw∧x=some u):=by
 simp only[cWr,Wr.find]at h;split at h
 ·rename_i he;simp at h;exact .inl ⟨he.symm,h.symm⟩
 ·rename_i hne
  refine .inr ⟨fun e=>hne e.symm,?_⟩
  clear hne
  induction rw with
  |nil=>simp[Wr.find]at h
  |cons y rw ih=>
   simp only[Ju,Wr.find]at h;split at h
   ·rename_i he;simp at h;subst he;exact⟨y.1,y.2.2,by simp,h.symm⟩
   ·obtain⟨i,u,h1,h2⟩:=ih h;exact⟨i,u,by simp[h1],h2⟩
theorem zQI{d:Nat}{res:List T}{rw:Rw}{s:Nat}(h:(cWr d res rw).find s=none):s≠d∧s∉rw.map (·.2.1):=by
 simp only[cWr,Wr.find]at h;split at h
 ·cases h
 ·rename_i hne
  refine⟨fun e=>hne e.symm,?_⟩
  clear hne
  induction rw with
  |nil=>simp
  |cons y rw ih=>
   simp only[Ju,Wr.find]at h;split at h
   ·cases h
   ·rename_i he
    simp only[Ju,Jd,not_or];exact⟨fun e=>he e.symm,ih h⟩
def aft(S Sc S':Stb):Stb:=fun b=>match Sc b with
 |none=>S' b
 |some _=>S b
theorem Rep.up{Γ:Ctx}{E:Env}{G:Gh}{tmps tmps':Array Value}{w w':World}{G':Gh}{wr:Wr}{chg:Chg}{S:Stb}(h:Rep Γ E G tmps w)(hS:∀b x,Γ.St b=some x→S b=some x)
  (hsize:tmps'.size=tmps.size)(hk:qP chg G w G' w')(hmem:Mem (Γ.at S) G' w')
  (hold:∀s,wr.find s=none→(∀n,(s,n)∉chg)∧tmps'[s]? =tmps[s]?)
  (hnew:∀s t,wr.find s=some (some t)→Ent (Γ.at S) G' w' tmps'[s]? s t):Rep (Γ.at S) (E.app wr chg) G' tmps' w' where
 size:=by rw[hsize];exact h.size
 mem:=hmem
 ent s t hs:=by
  unfold Env.app at hs;cases hf:wr.find s with
  |some x=>
   rw[hf]at hs;simp at hs;subst hs;exact hnew s t hf
  |none=>
   rw[hf]at hs;simp at hs;cases he:E s with
   |none=>simp[he]at hs
   |some u=>
    simp[he]at hs;obtain⟨hok,rfl⟩:=hs;rw[(hold s hf).2];obtain⟨e1,e2,e3⟩:=Ent.keep hk (hold s hf).1 hok (h.ent s u he);exact⟨e1,zJt hS u [] e2,e3⟩
section
variable {P:Program}{Γ:Ctx}{E:Env}{d:Nat}
theorem zGO{G:Gh}{a:Act}{w:World}(hrep:Rep Γ E G a.tmps w)(hd:d<Γ.N){Sc:Stb}{rw:Rw}(hS1:∀b x,Sc b=some x→w.heap[b]? =some x∧ ¬zA2 G rw b)(hS0:∀b x,Γ.St b=some x→Sc b=some x){f:FuncId}{us res:List T}
  (hc:FnC P f us res (rw.map fun x=>(x.1,x.2.2))){xs:List Operand}(hlen:xs.length=us.length)
  (hargs:∀(i:Nat) u,us[i]? =some u→(∃x,xs[i]? =some x∧a.eval x=mkV (G.arg a xs rw) i u []∧R Sc (G.arg a xs rw) w i u []))
  (hn1:(d::rw.map (·.2.1)).Nodup)(hn2:(rw.map (·.1)).Nodup)(hxs:∀x∈rw,xs[x.1]? =some (.tmp x.2.1))
  (hres:∀u∈res,yD u∧u.okTup=true∧ ∀(S':Stb)(G:Gh)(w:World)(s:Nat)(p:List Nat),(∀b x,Sc b=some x→S' b=some x)→R S' G w s u p→R (aft Γ.St Sc S') G w s u p)
  (hrwT:∀x∈rw,yD x.2.2∧(∀(S':Stb)(G:Gh)(w:World)(s:Nat)(p:List Nat),(∀b x,Sc b=some x→S' b=some x)→R S' G w s x.2.2 p→R (aft Γ.St Sc S') G w s x.2.2 p)∧ ∃u,E x.2.1=some u∧x.2.2.single=u.single∧us[x.1]? =some u):
  Calls P f (xs.map a.eval).toArray w fun e w'=> ∃v,e=.returned v∧ ∃S G',zDg Γ.St S Γ.W Γ.w0.heap.size∧qP (uI d rw) G w G' w'∧Rep (Γ.at S) (E.app (cWr d res rw) (uI d rw)) G' (a.tmps.setIfInBounds d v) w':=by
 have hm:=hrep.mem;have hdn:=Ll.1 hn1;have hmc:Mem ⟨Sc,zA2 G rw,w,0⟩ (G.arg a xs rw) w:=by
  have hst:∀b,zA2 G rw b→Sc b=none:=fun b h=>by
   cases hs:Sc b with
   |none=>rfl
   |some x=>exact absurd h (hS1 b x hs).2
  refine⟨fun i z=>?_,fun b o l hl=>?_,fun b l hl=>?_,fun b x hx=>(hS1 b x hx).1,fun b _ _=>rfl,Jp _,⟨fun b cs e h=>⟨cs,h,rfl⟩,rfl,rfl⟩⟩
  ·simp only[Gh.arg]
   split
   ·exact hm.one _ _
   ·exact zAW _
   ·rfl
  ·simp only[Gh.arg]at hl
   split at hl
   ·rename_i f' s z hg
    split at hl
    ·rename_i i s' y hi ho
     split at hl
     ·rename_i he;subst he
      have hL:zA2 G rw b:=⟨s',y,ho,zNS hi⟩;exact⟨(hm.lb b o _ hg).1,.inr hL,hst b hL⟩
     ·cases hl
    ·cases hl
   ·cases hl
  ·simp only[Gh.arg]at hl
   split at hl
   ·rename_i s z hg
    split at hl
    ·rename_i i hi
     have hL:zA2 G rw b:=⟨s,z,hg,zNS hi⟩;exact⟨(hm.ow b _ hg).1,.inr hL,hst b hL⟩
    ·cases hl
   ·cases hl
 have hcall:=hc Sc (zA2 G rw) w (G.arg a xs rw) (xs.map a.eval).toArray (by simp[hlen]) (fun i u hu=>by obtain⟨x,h1,h2,h3⟩:=hargs i u hu;exact⟨by simp[h1,h2],h3⟩) hmc
 refine hcall.mono ?_
 rintro e w' ⟨S',G',nd,hgrow,rfl,hm',hnres,hnd,hndn,hrws⟩
 have hup:∀b x,Γ.St b=some x→aft Γ.St Sc S' b=some x:=fun b x hx=>by simp only[aft,hS0 b x hx,hx]
 have hgr:zDg Γ.St (aft Γ.St Sc S') Γ.W Γ.w0.heap.size:=⟨hup,fun b hb hb'=>by
  simp only[aft]at hb';split at hb'
  ·rename_i hs
   rcases hgrow.nw b hs hb' with h|⟨s,z,h,_⟩
   ·exact .inl (by have:=hm.sz;omega)
   ·exact(hm.ow b _ h).2.1
  ·exact absurd hb hb'⟩
 refine⟨_,rfl,aft Γ.St Sc S',G.back G' w.heap.size d rw nd,hgr,?_⟩;have hfr:∀b,b<w.heap.size→ ¬zA2 G rw b→w'.heap[b]? =w.heap[b]?:=hm'.fr;have hsz:w.heap.size≤w'.heap.size:=hm'.sz;have hblk:Blk w w':=hm'.bk.blk
 generalize hGn:G.back G' w.heap.size d rw nd=Gn
 have ghdd:∀z,Gn.hd d z=zQG G' nd z:=fun z=>by rw[←hGn];simp[Gh.back]
 have gadd:∀z,Gn.ad d z=zTH G' nd z:=fun z=>by rw[←hGn];simp[Gh.back]
 have ghd0:∀s z,s≠d→s∉rw.map (·.2.1)→Gn.hd s z=G.hd s z:=fun s z h1 h2=>by rw[←hGn];simp[Gh.back,h1,zKA h2]
 have gad0:∀s z,s≠d→s∉rw.map (·.2.1)→Gn.ad s z=G.ad s z:=fun s z h1 h2=>by rw[←hGn];simp[Gh.back,h1,zKA h2]
 have hsd:∀i s u,(i,s,u)∈rw→s≠d:=fun i s u h e=>hdn.1 (e▸Jt.2 ⟨_,h,rfl⟩)
 have ghdr:∀i s u z,(i,s,u)∈rw→Gn.hd s z=G'.hd i z:=fun i s u z h=>by rw[←hGn];simp[Gh.back,hsd i s u h,zCg rw hdn.2 h]
 have gadr:∀i s u z,(i,s,u)∈rw→z≠[]→Gn.ad s z=G'.ad i z:=fun i s u z h h0=>by rw[←hGn];simp[Gh.back,hsd i s u h,zCg rw hdn.2 h,h0]
 have gadr0:∀i s u,(i,s,u)∈rw→Gn.ad s []=G.ad s []:=fun i s u h=>by rw[←hGn];simp[Gh.back,hsd i s u h,zCg rw hdn.2 h]
 have glb0:∀b o l,¬zA2 G rw b→G.lb b o=some l→Gn.lb b o=some l:=fun b o l h1 h2=>by have:=(hm.lb b o _ h2).1;rw[←hGn];simp only[Gh.back];rw[if_neg (by rintro(h|h);exact h1 h;omega)];exact h2
 have gow0:∀b l,¬zA2 G rw b→G.ow b=some l→Gn.ow b=some l:=fun b l h1 h2=>by have:=(hm.ow b _ h2).1;rw[←hGn];simp only[Gh.back];rw[if_neg (by rintro(h|h);exact h1 h;omega)];exact h2
 have hin:∀b o l,G'.lb b o=some l→zA2 G rw b∨w.heap.size≤b:=fun b o l h=>(hm'.lb b o l h).2.1.symm
 have hin2:∀b l,G'.ow b=some l→zA2 G rw b∨w.heap.size≤b:=fun b l h=>(hm'.ow b l h).2.1.symm
 have glb1:∀b o fl s z s' z',G'.lb b o=some (fl,s,z)→zDs d rw nd s z=some (s',z')→Gn.lb b o=some (fl,s',z'):=fun b o fl s z s' z' h1 h2=>by rw[←hGn];simp only[Gh.back];rw[if_pos (hin b o _ h1),h1];simp[h2]
 have gow1:∀b s z l,G'.ow b=some (s,z)→zDs d rw nd s z=some l→Gn.ow b=some l:=fun b s z l h1 h2=>by rw[←hGn];simp only[Gh.back];rw[if_pos (hin2 b _ h1),h1];simp[h2]
 have hbk:∀i s u z,(i,s,u)∈rw→zDs d rw nd i z=some (s,z):=fun i s u z h=>by simp[zDs,zK9 rw hn2 h]
 have hlt:∀x∈rw,x.1<us.length:=fun x hx=>by have:=(Jb.1 (hxs x hx)).1;omega
 have hbn:∀x∈nd,∀z,zDs d rw nd x.1 z=ndB d nd x.1 z:=fun x hx z=>by have h1:=(hnd x hx).2;have h2:rwS rw x.1=none:=zQE (fun y hy e=>by have:=hlt y hy;omega);simp[zDs,h2]
 have htgt:∀(k:Nat) x,nd[k]? =some x→ ∃tgt,(nd.length=1→tgt=[])∧(nd.length≠1→tgt=[k])∧(∀z,Gn.hd d (z++tgt)=G'.hd x.1 (z++x.2.1))∧(∀z,Gn.ad d (z++tgt)=G'.ad x.1 (z++x.2.1))∧ ∀z,zDs d rw nd x.1 (z++x.2.1)=some (d,z++tgt):=by
  intro k x hk;have hxm:=Kd hk
  match nd,hk,hndn,hbn x hxm,ghdd,gadd with
  | [y],hk,hndn,hb,ghdd,gadd=>
   have hkx:y=x:=by
    cases k with
    |zero=>simpa using hk
    |succ k=>simp at hk
   subst hkx;exact⟨[],fun _=>rfl,fun h=>absurd rfl h,fun z=>by rw[ghdd];simp[zQG],fun z=>by rw[gadd];simp[zTH],fun z=>by rw[hb];simp[ndB]⟩
  | [],hk,_,_,_,_=>simp at hk
  |y1::y2::r,hk,hndn,hb,ghdd,gadd=>
   refine⟨[k],fun h=>by simp at h,fun _=>rfl,fun z=>by rw[ghdd];simp only[zQG,Jau,Jav];simp[hk],fun z=>by rw[gadd];simp only[zTH,Jau,Jav];simp[hk],fun z=>?_⟩;rw[hb];have:=zIx (y1::y2::r) hndn (k0:=0) hk;rw[Jf]at this;simp only[ndB,this];simp
 have hresR:∀(k:Nat) x,nd[k]? =some x→ ∀tgt,(∀z,Gn.hd d (z++tgt)=G'.hd x.1 (z++x.2.1))→(∀z,Gn.ad d (z++tgt)=G'.ad x.1 (z++x.2.1))→(∀z,zDs d rw nd x.1 (z++x.2.1)=some (d,z++tgt))→R (aft Γ.St Sc S') Gn w' d x.2.2 tgt:=by intro k x hk tgt h1 h2 h3;have hxm:=Kd hk;obtain⟨c1,c2,c3⟩:=hres x.2.2 (by rw[←hnres];exact Jt.2 ⟨x,hxm,rfl⟩);refine kX (G:=G') (w:=w') (s:=x.1) (p:=x.2.1) ⟨⟨h1,fun z _=>h2 z,fun b o f' z _ _ hl=>⟨glb1 b o f' _ _ _ _ hl (h3 z),rfl⟩,fun b z _ hl=>gow1 b _ _ _ hl (h3 z),fun b cs e h=>⟨cs,h,rfl⟩⟩,fun b o _ hl=>⟨glb1 b o true _ _ _ _ hl (by simpa using h3 []),rfl⟩,fun b hl=>gow1 b _ _ _ hl (by simpa using h3 [])⟩ _ (yY.mono (fun _ _=>False.elim) _ c1) (c3 _ _ _ _ _ hgrow.le (hnd x hxm).1)
 have hkeep:qP (uI d rw) G w Gn w':=by
  have hoff:∀s,(∀n,(s,n)∉uI d rw)→s≠d∧s∉rw.map (·.2.1):=fun s h=>⟨fun e=>h 0 (by simp[uI,e]),fun hm=>by obtain⟨x,hx,rfl⟩:=Jt.1 hm;exact h _ (zGN hx)⟩
  have hnl:∀b s y,G.ow b=some (s,y)→s∉rw.map (·.2.1)→ ¬zA2 G rw b:=by
   rintro b s y h1 h2 ⟨s',z',h3,h4⟩
   rw[h1]at h3;simp at h3;exact h2 (h3.1▸h4)
  refine⟨fun s p h=>?_,fun s p h=>?_,fun b o fl s p hob h1 h2=>?_,fun b s p h1 h2=>?_,hblk⟩
  ·have h1:s≠d:=fun e=>absurd (h 0 (by simp[uI,e])) (by simp)
   by_cases h2:s∈rw.map (·.2.1)
   ·
    obtain⟨x,hx,rfl⟩:=Jt.1 h2;have hc:=h _ (zGN hx);have c2:x.2.2.single=true:=by
     cases hc2:x.2.2.single with
     |true=>rfl
     |false=>simp[cLv,hc2]at hc
    have h3:p=[]:=Kb (by simp only[cLv,c2,if_true]at hc;omega);subst h3;obtain⟨_,_,u,c4,c5,c6⟩:=hrwT x hx;rw[c2]at c5;have c5:=c5.symm;obtain⟨_,u0,e1,e2⟩:=hrws x.1 x.2.2 (Jt.2 ⟨x,hx,rfl⟩);rw[c6]at e1;simp at e1;subst e1;rw[xP c2,xP c5]at e2;rw[ghdr x.1 x.2.1 x.2.2 [] hx,e2];simp[Gh.arg,hxs x hx]
   ·exact ghd0 s p h1 h2
  ·have h1:s≠d:=fun e=>absurd (h 0 (by simp[uI,e])) (by simp)
   by_cases h2:s∈rw.map (·.2.1)
   ·obtain⟨x,hx,rfl⟩:=Jt.1 h2
    have hc:=h _ (zGN hx);have h3:p=[]:=Kb (by have:cLv x.2.2≤1:=(by unfold cLv;split<;>omega);omega);subst h3;exact gadr0 x.1 x.2.1 x.2.2 hx
   ·exact gad0 s p h1 h2
  ·obtain⟨h3,h4⟩:=hoff s h2
   obtain⟨y,hy⟩:=hob;have h5:=hnl b s y hy h4;exact⟨glb0 b o _ h5 h1,by simp[yP,World.cell?,hfr b (hm.lb b o _ h1).1 h5]⟩
  ·obtain⟨h3,h4⟩:=hoff s h2
   exact gow0 b _ (hnl b s p h1 h4) h1
 have hmem:Mem (Γ.at (aft Γ.St Sc S')) Gn w':=by
  have hok:∀b,b<w'.heap.size∧(w.heap.size≤b∨zA2 G rw b)∧S' b=none→zBY (Γ.at (aft Γ.St Sc S')) w' b:=fun b ⟨hb,h,hs'⟩=>by
   have hsc:Sc b=none:=by
    cases hs:Sc b with
    |none=>rfl
    |some x=>rw[hgrow.le b x hs]at hs';cases hs'
   refine⟨hb,?_,by simp only[aft,hsc];exact hs'⟩;rcases h with h|⟨s,z,h1,_⟩
   ·exact .inl (by have:=hm.sz;show Γ.w0.heap.size≤b;omega)
   ·exact(hm.ow b _ h1).2.1
  have hold:∀b,¬(zA2 G rw b∨w.heap.size≤b)→zBY Γ w b→zBY (Γ.at (aft Γ.St Sc S')) w' b:=fun b h ⟨h1,h2,h3⟩=>by
   refine⟨by omega,h2,?_⟩;simp only[aft];split
   ·rename_i hs
    cases hs':S' b with
    |none=>rfl
    |some x=>
     rcases hgrow.nw b hs (by rw[hs'];simp)with h4|h4
     ·exact absurd (.inr h4) h
     ·exact absurd (.inl h4) h
   ·exact h3
  refine⟨fun s z=>?_,fun b o l hl=>?_,fun b l hl=>?_,fun b x hx=>?_,fun b(h1:b<Γ.w0.heap.size) h2=>?_,L6 hm.sz hsz,hm.bk.trans hblk hm'.bk.os hm'.bk.out⟩
  ·by_cases h1:s=d
   ·subst h1
    rw[ghdd];unfold zQG;split
    ·exact hm'.one _ _
    ·split
     ·split
      ·exact hm'.one _ _
      ·rfl
     ·rfl
   ·by_cases h2:s∈rw.map (·.2.1)
    ·obtain⟨x,hx,rfl⟩:=Jt.1 h2
     rw[ghdr x.1 x.2.1 x.2.2 z hx];exact hm'.one _ _
    ·rw[ghd0 s z h1 h2];exact hm.one _ _
  ·rw[←hGn]at hl
   simp only[Gh.back]at hl;split at hl
   ·rename_i hc'
    split at hl
    ·rename_i hg
     exact hok b (hm'.lb b o _ hg)
    ·cases hl
   ·rename_i hc'
    exact hold b hc' (hm.lb b o l hl)
  ·rw[←hGn]at hl
   simp only[Gh.back]at hl;split at hl
   ·rename_i hc'
    split at hl
    ·rename_i hg
     exact hok b (hm'.ow b _ hg)
    ·cases hl
   ·rename_i hc'
    exact hold b hc' (hm.ow b l hl)
  ·simp only[aft]at hx
   split at hx
   ·exact hm'.st b x hx
   have h1:=hm.st b x hx;have h2:=(Ki.1 h1).1;have h3:¬zA2 G rw b:=by
    rintro⟨s,z,h4,_⟩
    rw[(hm.ow b _ h4).2.2]at hx;cases hx
   rw[hfr b h2 h3];exact h1
  ·have h3:¬zA2 G rw b:=by
    rintro⟨s,z,h4,_⟩
    rcases(hm.ow b _ h4).2.1 with h5|h5
    ·omega
    ·exact h2 h5
   rw[hfr b (by have:=hm.sz;omega) h3];exact hm.fr b h1 h2
 have hndl:nd.length=res.length:=by rw[←hnres];simp
 refine⟨hkeep,hrep.up hup (by simp) hkeep hmem ?_ ?_⟩
 ·intro s hs
  obtain⟨h1,h2⟩:=zQI hs;refine⟨fun n hn=>?_,by rw[Jg];simp[Ne.symm h1]⟩;simp only[uI,Jd,Jax.injEq,Jt]at hn;rcases hn with⟨e,_⟩|⟨x,hx,e,_⟩
  ·exact h1 e
  ·exact h2 (Jt.2 ⟨x,hx,e⟩)
 ·intro s t hs
  rcases zQH hs with⟨rfl,ht⟩|⟨hne,i,u,hrw,ht⟩
  ·simp at ht
   subst ht;rw[Jg];simp only[hrep.size,hd,if_true];have hres1:res=nd.map (·.2.2):=hnres.symm
   by_cases hl:nd.length=1
   ·obtain⟨x,hx⟩:∃x,nd=[x]:=List.length_eq_one_iff.1 hl
    obtain⟨tgt,t1,_,t3,t4,t5⟩:=htgt 0 x (by simp[hx]);obtain rfl:=t1 hl;have hr:=hresR 0 x (by simp[hx]) [] t3 t4 t5;obtain⟨c1,c2,_⟩:=hres x.2.2 (by rw[hres1,hx];simp);have hrt:zM2 res=x.2.2:=by rw[hres1,hx];rfl
    have hnt:∀ys,x.2.2≠.tup ys:=fun ys e=>by rw[e]at c2;simp[T.okTup]at c2
    rw[hrt];refine⟨?_,hr,Top.of_clean _ c1⟩;rw[kD Gn s _ [] hnt,zBz x.2.2 x.2.1 [] t3,hx];rfl
   ·have hrt:zM2 res=.tup res:=by
     rw[hndl]at hl
     match res,hl with
     | [],_=>rfl
     | [u],hl=>simp at hl
     |_::_::_,_=>rfl
    rw[hrt];have hhd:∀k x,nd[k]? =some x→ ∀z,Gn.hd s (z++[0+k])=G'.hd x.1 (z++x.2.1):=fun k x hk z=>by obtain⟨tgt,_,t2,t3,_,_⟩:=htgt k x hk;rw[t2 hl]at t3;rw[Jf];exact t3 z
    refine⟨?_,?_,?_⟩
    ·have hv:=zNT (Gn:=Gn) (G':=G') (d:=s) nd 0 hhd
     rw[hnres]at hv;simp only[mkV,hv];unfold zK5;split
     ·simp at hl
     ·rfl
    ·simp only[R]
     rw[hres1];refine zNI _ [] 0 (fun k u hu=>?_);rw[K0]at hu;cases hk:nd[k]? with
     |none=>simp[hk]at hu
     |some x=>
      simp[hk]at hu;subst hu;obtain⟨tgt,_,t2,t3,t4,t5⟩:=htgt k x hk;rw[t2 hl]at t3 t4 t5;rw[Jf];exact hresR k x hk [k] t3 t4 t5
    ·simp only[Top]
     refine vL.of_clean _ ?_;have:∀us:List T,(∀u∈us,yD u)→xH us:=by
      intro us
      induction us with
      |nil=>intro _;trivial
      |cons u us ih=>intro h;exact⟨h u (by simp),ih fun v hv=>h v (by simp[hv])⟩
     exact this res fun u hu=>(hres u hu).1
  ·simp at ht
   subst ht;obtain⟨c1,c3,u0,c4,_,c6⟩:=hrwT _ hrw;obtain⟨r1,u1,e1,e2⟩:=hrws i t (Jt.2 ⟨_,hrw,rfl⟩);simp only at c4 c6;rw[c6]at e1;simp at e1;subst e1;refine⟨?_,?_,Top.of_clean _ c1⟩
   ·rw[Jg]
    simp only[Ne.symm hne,if_false];have hxi:=hxs _ hrw;simp only at hxi;have m1:mkV Gn s t []=mkV G' i t []:=zER t [] [] (fun z=>by rw[J9];exact ghdr i s t z hrw);have m2:mkV (G.arg a xs rw) i u0 []=mkV G s u0 []:=zER u0 [] [] (fun z=>by simp[Gh.arg,hxi]);rw[(hrep.ent s u0 c4).1,m1,e2,m2]
   ·refine kX (G:=G') (w:=w') (s:=i) (p:=[]) ⟨⟨fun z=>by rw[J9];exact ghdr i s t z hrw,fun z hz=>by rw[J9];exact gadr i s t z hrw hz,fun b o f' z _ _ hl=>?_,fun b z _ hl=>?_,fun b cs e h=>⟨cs,h,rfl⟩⟩,fun b o _ hl=>⟨glb1 b o true _ _ _ _ hl (hbk i s t [] hrw),rfl⟩,fun b hl=>gow1 b _ _ _ hl (hbk i s t [] hrw)⟩ t (yY.mono (fun _ _=>False.elim) _ c1) (c3 _ _ _ _ _ hgrow.le r1)
    ·rw[J9]at hl ⊢;exact⟨glb1 b o f' _ _ _ _ hl (hbk i s t z hrw),rfl⟩
    ·rw[J9]at hl ⊢;exact gow1 b _ _ _ hl (hbk i s t z hrw)
end
end Go.Ab

namespace Go.Ab
open Go
def zIy(E:Env)(rs:List Nat)(x:Operand)(t:T):Bool:=
 match x with
 |.tmp s=>sC E rs s t
 |_=>true
def zBO(E:Env)(rw:Rw)(i:Nat)(x:Operand)(u:T):Prop:=
 (∃s u',x=.tmp s∧(i,s,u')∈rw∧E s=some u∧yD u∧u.okTup=true∧vG u=true)∨(∃t,opT E x=some t∧clo E t=u∧zIy E (rw.map (·.2.1)) x t=true)
def xZ(E:Env)(rw:Rw):Nat→List Operand→List T→Prop
 |_,[],[]=>True
 |i,x::xs,u::us=>zBO E rw i x u∧xZ E rw (i+1) xs us
 |_,_,_=>False
theorem xZ.length{E:Env}{rw:Rw}:(xs:List Operand)→(us:List T)→ ∀i,xZ E rw i xs us→xs.length=us.length
 | [],[],_,_=>rfl
 |_::xs,_::us,i,h=>by simp[xZ.length xs us (i+1) h.2]
 | [],_::_,_,h=>by simp[xZ]at h
 |_::_,[],_,h=>by simp[xZ]at h
theorem xZ.get{E:Env}{rw:Rw}:(xs:List Operand)→(us:List T)→ ∀i,xZ E rw i xs us→ ∀(j:Nat) u,us[j]? =some u→ ∃x,xs[j]? =some x∧zBO E rw (i+j) x u
 | [],[],_,_,_,_,h=>by simp at h
 |x::xs,v::us,i,h,j,u,hj=>by
  cases j with
  |zero=>simp at hj;subst hj;exact⟨x,by simp,h.1⟩
  |succ j=>
   obtain⟨y,h1,h2⟩:=xZ.get xs us (i+1) h.2 j u (by simpa using hj);exact⟨y,by simpa using h1,by rwa [show i+(j+1)=i+1+j from by omega]⟩
 | [],_::_,_,h,_,_,_=>by simp[xZ]at h
 |_::_,[],_,h,_,_,_=>by simp[xZ]at h
structure zKB (E:Env) (d:Nat) (xs:List Operand) (us:List T) (rw:Rw):Prop where
 nodup:(d::rw.map (·.2.1)).Nodup
 nodup2:(rw.map (·.1)).Nodup
 at_:∀x∈rw,xs[x.1]? =some (.tmp x.2.1)
 tree:∀x∈rw,yD x.2.2∧vG x.2.2=true∧ ∃u,E x.2.1=some u∧x.2.2.single=u.single∧us[x.1]? =some u
theorem zKB.nil{E:Env}{d:Nat}{xs:List Operand}{us:List T}:zKB E d xs us []:=⟨by simp,by simp,fun _ h=>by simp at h,fun _ h=>by simp at h⟩
theorem zKB.one{E:Env}{d i s:Nat}{u u':T}{xs:List Operand}{us:List T}(h1:d≠s)(h2:xs[i]? =some (.tmp s))(h3:yD u')(h4:u'.single=true)(h5:vG u'=true)(h6:E s=some u)(h7:u.single=true)(h8:us[i]? =some u):
  zKB E d xs us [(i,s,u')]:=⟨by simpa using h1,by simp,fun x h=>by simp at h;subst h;exact h2,fun x h=>by simp at h;subst h;exact⟨h3,h5,u,h6,by rw[h4,h7],h8⟩⟩
section
variable {P:Program}{Γ:Ctx}{E:Env}{o:Oper}{d:Nat}
theorem zTI{G:Gh}{a:Act}{w:World}(hrep:Rep Γ E G a.tmps w){rw:Rw}{xs:List Operand}{us:List T}(hr:zKB E d xs us rw){Sc:Stb}(hSt:∀b x,Γ.St b=some x→Sc b=some x)
  (hSc:∀r,r∉rw.map (·.2.1)→ ∀b,(∃y,G.ow b=some (r,y))→Sc b=w.heap[b]?){i:Nat}{x:Operand}{u:T}(hx:xs[i]? =some x)(hu:us[i]? =some u)(h:zBO E rw i x u):
  a.eval x=mkV (G.arg a xs rw) i u []∧R Sc (G.arg a xs rw) w i u []:=by
 rcases h with⟨s,u',rfl,h1,h2,h3,h4,h5⟩|⟨t,h1,rfl,h3⟩
 ·obtain⟨e1,e2,_⟩:=hrep.ent s u h2
  have hhd:∀z,(G.arg a xs rw).hd i z=G.hd s z:=fun z=>by simp[Gh.arg,hx]
  have had:∀z,(G.arg a xs rw).ad i z=G.ad s z:=fun z=>by simp[Gh.arg,hx]
  have hi:=zCg rw (Ll.1 hr.nodup).2 h1;refine⟨by rw[wK e1,zER (G:=G) (G':=G.arg a xs rw) (s:=s) (s':=i) u [] [] (fun z=>hhd _)],?_⟩;refine zPg u [] h5 (kX (St:=Γ.St) (G:=G) (w:=w) (s:=s) (p:=[]) ⟨⟨fun z=>by simp[hhd],fun z _=>by simp[had],fun b o' f' z _ hob hl=>?_,fun b z _ hl=>?_,fun b cs e h=>⟨cs,h,rfl⟩⟩,fun b o' hob hl=>?_,fun b hl=>?_⟩ u (yY.mono (fun _ _=>False.elim) _ h3) e2)
  ·obtain⟨y,hy⟩:=hob
   exact⟨by simp[Gh.arg,hl,hi,hy],rfl⟩
  ·simp[Gh.arg,hl,hi]
  ·obtain⟨y,hy⟩:=hob
   exact⟨by simp[Gh.arg,hl,hi,hy],rfl⟩
  ·simp[Gh.arg,hl,hi]
 ·cases x with
  |tmp s=>
   have hhd:∀z,(G.arg a xs rw).hd i z=G.hd s z:=fun z=>by simp[Gh.arg,hx]
   obtain⟨e1,e2,_⟩:=hrep.ent s t h1;simp only[zIy]at h3;exact⟨by rw[wK e1,zJu hhd t h3],zVd hrep hSt hSc hhd t [] h3 e2⟩
  |const v=>
   simp only[opT]at h1;split at h1
   ·rename_i hone
    simp at h1;subst h1;have hhd:(G.arg a xs rw).hd i []=v:=by simp[Gh.arg,hx,Act.eval,kZ hone]
    exact⟨by simp[clo,mkV,hhd,Act.eval],by simp[clo,R,hhd]⟩
   ·cases h1
  |func f=>
   simp only[opT]at h1;simp at h1;subst h1;have hhd:(G.arg a xs rw).hd i []=.func (.func f) #[] #[]:=by simp[Gh.arg,hx,Act.eval,jM,Value.oneCell']
   exact⟨by simp[clo,mkV,hhd,Act.eval],by simp[clo,R,hhd]⟩
  |global g=>simp[opT]at h1
theorem zCN{E:Env}:(t:T)→t.flat=true→(∀rs s,sC E rs s t=true)∧clo E t=t
 |.lit _,_|.ro _,_=>by simp[sC,clo]
 |.agg ts,h=>by simp only[T.flat]at h;have:=go ts h;simp only[sC,clo];exact⟨this.1,by rw[this.2]⟩
 |.any,h|.same _ _,h|.addr _ _,h|.sub _ _ _ _ _,h|.sl _ _,h|.ptr _,h|.tup _,h=>by simp[T.flat]at h
where go:(ts:List T)→kS ts=true→(∀rs s,zAq E rs s ts=true)∧zAL E ts=ts
 | [],_=>by simp[zAq,zAL]
 |x::xs,h=>by simp only[kS,J4]at h;simp only[zAq,zAL,J4];exact⟨fun rs s=>⟨(zCN x h.1).1 rs s,(go xs h.2).1 rs s⟩,by rw[(zCN x h.1).2,(go xs h.2).2]⟩
theorem zEl{a:Act}{w:World}{K:Act→World→Prop}{Q:Exit→Act→World→Prop}{f:FuncId}{xf:Operand}{xs:List Operand}{ats:Array TypeId}(ho:o.op=.call { callee:=.value xf,args:=xs.toArray,argTypes:=ats })(hdst:o.dst=some d)
  (hcall:∀args w,(callFunc f args).run P w=.ok (.enter f args) w)(hf:a.eval xf=.func (.func f) #[] #[])
  (h:Calls P f (xs.map a.eval).toArray w fun e w'=> ∃v,e=.returned v∧K (a.put (some d) v) w'):o.wp P a w K Q:=by
 have hrun:(execOp a.eval o).run P w=.ok (.enter f (xs.map a.eval).toArray) w:=by simp[execOp,ho,resolve,hf,Deferred.ofValue,invoke,hcall]
 unfold Oper.wp;rw[hrun,Oper.upon_enter];refine h.mono ?_
 rintro e w' ⟨v,rfl,h2⟩
 rw[hdst];exact h2
theorem zKC{G:Gh}{a:Act}{w:World}(hrep:Rep Γ E G a.tmps w)(hd:d<Γ.N)(f:FuncId)(xs:List Operand)(us res:List T)(rw:Rw)
  (hc:FnC P f us res (rw.map fun x=>(x.1,x.2.2)))(hargs:xZ E rw 0 xs us)(hr:zKB E d xs us rw)(hres:xH res∧yR res=true∧uE res=true):
  Calls P f (xs.map a.eval).toArray w fun e w'=> ∃v,e=.returned v∧ ∃S G',zDg Γ.St S Γ.W Γ.w0.heap.size∧qP (uI d rw) G w G' w'∧Rep (Γ.at S) (E.app (cWr d res rw) (uI d rw)) G' (a.tmps.setIfInBounds d v) w':=by
 classical
 have hm:=hrep.mem
 let Sc:Stb:=fun b=>if zA2 G rw b then none else w.heap[b]?
 have hSt:∀b x,Γ.St b=some x→Sc b=some x:=fun b x hx=>by
  have h3:¬zA2 G rw b:=by
   rintro⟨s,z,h4,_⟩
   rw[(hm.ow b _ h4).2.2]at hx;cases hx
  simp only[Sc,h3,if_false];exact hm.st b x hx
 have hSc:∀r,r∉rw.map (·.2.1)→ ∀b,(∃y,G.ow b=some (r,y))→Sc b=w.heap[b]?:=fun r hr' b ⟨y,hy⟩=>by
  have h3:¬zA2 G rw b:=by
   rintro⟨s,z,h4,h5⟩
   rw[hy]at h4;simp at h4;exact hr' (h4.1▸h5)
  simp only[Sc,h3,if_false]
 have hget:∀(us:List T),xH us∧yR us=true∧uE us=true→ ∀u∈us,yD u∧u.okTup=true∧vG u=true:=by
  intro us
  induction us with
  |nil=>intro _ u hu;simp at hu
  |cons v us ih=>
   intro⟨h1,h2,h3⟩ u hu;simp only[yR,uE,J4]at h2 h3;rcases Jd.1 hu with rfl|hu
   ·exact⟨h1.1,h2.1,h3.1⟩
   ·exact ih ⟨h1.2,h2.2,h3.2⟩ u hu
 exact zGO hrep hd (Sc:=Sc) (rw:=rw) (fun b x hx=>by
   simp only[Sc]at hx;split at hx
   ·cases hx
   ·rename_i h;exact⟨hx,h⟩) hSt hc (xZ.length xs us 0 hargs) (fun i u hu=>by
   obtain⟨x,h1,h2⟩:=xZ.get xs us 0 hargs i u hu;rw[Jf]at h2;exact⟨x,h1,zTI hrep hr hSt hSc h1 hu h2⟩) hr.nodup hr.nodup2 hr.at_
  (fun u hu=>⟨(hget res hres u hu).1,(hget res hres u hu).2.1,fun S' G w s p _ h=>zPg u p (hget res hres u hu).2.2 h⟩)
  (fun x hx=>by obtain⟨h1,h3,h4⟩:=hr.tree x hx;exact⟨h1,fun S' G w s p _ h=>zPg _ p h3 h,h4⟩)
theorem zJv(f:FuncId)(xf:Operand)(xs:List Operand)(ats:Array TypeId)(us res:List T)(rw:Rw)(ho:o.op=.call { callee:=.value xf,args:=xs.toArray,argTypes:=ats })(hdst:o.dst=some d)(hd:d<Γ.N)
  (hcall:∀args w,(callFunc f args).run P w=.ok (.enter f args) w)(hf:opT E xf=some (.lit (.func (.func f) #[] #[])))
  (hc:FnC P f us res (rw.map fun x=>(x.1,x.2.2)))(hargs:xZ E rw 0 xs us)(hr:zKB E d xs us rw)(hres:xH res∧yR res=true∧uE res=true):
  wN P Γ o E (E.app (cWr d res rw) (uI d rw)):=by
 intro a w K Q ⟨hdf,G,hrep⟩ hK;refine zEl ho hdst hcall (wO hrep hf).1 ?_;refine(zKC hrep hd f xs us res rw hc hargs hr hres).mono ?_
 rintro e w' ⟨v,rfl,S,G',hS,_,hG'⟩
 exact⟨v,rfl,hK _ _ ⟨S,hS,hdf,G',hG'⟩⟩
theorem zKD(f:FuncId)(xf:Operand)(xs:List Operand)(ats:Array TypeId)(us res:List T)(i ds r:Nat)(q:List Nat)(tr u u':T)(ho:o.op=.call { callee:=.value xf,args:=xs.toArray,argTypes:=ats })(hdst:o.dst=some d)(hd:d<Γ.N)
  (hcall:∀args w,(callFunc f args).run P w=.ok (.enter f args) w)(hf:opT E xf=some (.lit (.func (.func f) #[] #[])))
  (hs:E ds=some (.same r q))(hr:E r=some tr)(hq:tr.get q.reverse=some u)(hu:u.single=true)(huc:yD u)(hdr:ds≠r)(hdr2:d≠r)(hok:tr.okB [(ds,1),(r,q.length+1)]=true)(hc2:xY tr=true)
  (E1 E2:Env)(hE1:E1=E.app [(ds,some u),(r,some (if q=[]then .same ds []else tr.set q.reverse .any))] [(ds,1),(r,q.length+1)])(hE2:E2=E1.app (cWr d res [(i,ds,u')]) (uI d [(i,ds,u')]))
  (hc:FnC P f us res [(i,u')])(hargs:xZ E1 [(i,ds,u')] 0 xs us)(hrw:zKB E1 d xs us [(i,ds,u')])(hres:xH res∧yR res=true∧uE res=true)
  (tr2 v0:T)(hr2:E2 r=some tr2)(hq2:tr2.get q.reverse=some v0)(hv0:v0.single=true)(hs2:E2 ds=some u')(huc':yD u')(hu':u'.single=true)(hok2:tr2.okB [(r,q.length+1),(ds,1)]=true)(hc3:xY tr2=true)(hok3:u'.okB [(r,q.length+1),(ds,1)]=true)(hc4:xY u'=true):
  wN P Γ o E (E2.app [(r,some (tr2.set q.reverse u')),(ds,some (.same r q))] [(r,q.length+1),(ds,1)]):=by
 have hlv:cLv u'=1:=by simp[cLv,hu']
 intro a w K Q ⟨hdf,G,hrep⟩ hK;refine zEl ho hdst hcall (wO hrep hf).1 ?_;have hsame:G.hd ds []=G.hd r q:=by have:=(hrep.ent ds _ hs).2.1;simpa only[R]using this
 obtain⟨hrep1,hhd1⟩:=zGF hrep ds [] r q (.same r q) tr u (.same r q) hs rfl rfl hsame hr hq hu huc hdr (by simp[T.okB,kC,hdr]) (by simpa using hok) rfl hc2;have hE1':E.app [(ds,some ((T.same r q).set [].reverse u)),(r,some (if q=[]then .same ds []else tr.set q.reverse .any))] [(ds,([]:List Nat).length+1),(r,q.length+1)]=E1:=by rw[hE1];rfl
 rw[hE1']at hrep1;refine(zKC hrep1 hd f xs us res [(i,ds,u')] hc hargs hrw hres).mono ?_
 rintro e w' ⟨v,rfl,S,G',hS,hk,hG'⟩
 rw[←hE2]at hG';have hdds:d≠ds:=by have:=hrw.nodup;simpa using this
 have h1:G'.hd r q=(G.tr ds [] r q).hd r q:=hk.hd r q (fun n hn=>by simp[uI,hlv]at hn;rcases hn with⟨e,_⟩|⟨e,_⟩;exact absurd e.symm hdr2;exact absurd e.symm hdr);have h2:G'.hd ds []=(G.tr ds [] r q).hd ds []:=hk.hd ds [] (fun n hn=>by simp[uI,hlv]at hn;rcases hn with⟨e,_⟩|h;exact absurd e.symm hdds;simp[h]);have hsame2:G'.hd r q=G'.hd ds []:=by rw[h1,h2,hhd1 r q (fun h=>hdr h.1.symm),hhd1 ds [] (fun h=>h.2.2 rfl),hsame]
 obtain⟨hrep3,_⟩:=zGF hG' r q ds [] tr2 u' u' v0 hr2 hq2 hv0 hsame2 hs2 rfl hu' huc' (Ne.symm hdr) (by simpa using hok2) (by simpa using hok3) hc3 hc4;refine⟨v,rfl,hK _ _ ⟨S,hS,hdf,G'.tr r q ds [],?_⟩⟩;have hw:(if([]:List Nat)=[]then T.same r q else u'.set ([]:List Nat).reverse .any)=T.same r q:=if_pos rfl;rw[hw]at hrep3;exact hrep3
theorem zQJ(f:FuncId)(xf:Operand)(xs:List Operand)(ats:Array TypeId)(us res:List T)(ho:o.op=.call { callee:=.value xf,args:=xs.toArray,argTypes:=ats })(hdst:o.dst=some d)(hd:d<Γ.N)
  (hcall:∀args w,(callFunc f args).run P w=.ok (.enter f args) w)(hf:opT E xf=some (.lit (.func (.func f) #[] #[])))
  (hc:FnC P f us res [])(hlen:xs.length=us.length)(hargs:∀(i:Nat) u,us[i]? =some u→ ∃x,xs[i]? =some x∧opT E x=some u∧u.flat=true)(hres:xH res∧yR res=true):
  wN P Γ o E (E.app (cWr d res []) (uI d [])):=by
 intro a w K Q ⟨hdf,G,hrep⟩ hK;have hm:=hrep.mem;refine zEl ho hdst hcall (wO hrep hf).1 ?_;have hnl:∀b,¬zA2 G [] b:=by rintro b ⟨s,z,_,h⟩;simp at h
 have hget:∀(us:List T),xH us∧yR us=true→ ∀u∈us,yD u∧u.okTup=true:=by
  intro us
  induction us with
  |nil=>intro _ u hu;simp at hu
  |cons v us ih=>
   intro⟨h1,h2⟩ u hu;simp only[yR,J4]at h2;rcases Jd.1 hu with rfl|hu
   ·exact⟨h1.1,h2.1⟩
   ·exact ih ⟨h1.2,h2.2⟩ u hu
 have:=zGO hrep hd (Sc:=Γ.St) (rw:=[]) (fun b x hx=>⟨hm.st b x hx,hnl b⟩) (fun _ _ h=>h) hc hlen (fun i u hu=>by
   obtain⟨x,h1,h2,h3⟩:=hargs i u hu;refine⟨x,h1,?_⟩;have hfl:=zCN (E:=E) u h3;cases x with
   |tmp s=>
    have hhd:∀z,(G.arg a xs []).hd i z=G.hd s z:=fun z=>by simp[Gh.arg,h1]
    obtain⟨e1,e2,_⟩:=hrep.ent s u h2;refine⟨?_,zJp u [] [] h3 (fun z=>by simp[hhd]) e2⟩;have:=zJu (E:=E) hhd u (hfl.1 [] s);rw[hfl.2]at this;rw[wK e1,this]
   |const v=>
    simp only[opT]at h2;split at h2
    ·rename_i hone
     simp at h2;subst h2;have hhd:(G.arg a xs []).hd i []=v:=by simp[Gh.arg,h1,Act.eval,kZ hone]
     exact⟨by simp[mkV,hhd,Act.eval],by simp[R,hhd]⟩
    ·cases h2
   |func f=>
    simp only[opT]at h2;simp at h2;subst h2;have hhd:(G.arg a xs []).hd i []=.func (.func f) #[] #[]:=by simp[Gh.arg,h1,Act.eval,jM,Value.oneCell']
    exact⟨by simp[mkV,hhd,Act.eval],by simp[R,hhd]⟩
   |global g=>simp[opT]at h2) (by simp) (by simp) (fun x h=>by simp at h)
  (fun u hu=>⟨(hget res hres u hu).1,(hget res hres u hu).2,fun S' G w s p hS h=>by
   have:aft Γ.St Γ.St S'=S':=funext fun b=>by
    simp only[aft];cases hb:Γ.St b with
    |none=>rfl
    |some x=>exact(hS b x hb).symm
   rw[this];exact h⟩) (fun x h=>by simp at h)
 refine this.mono ?_
 rintro e w' ⟨v,rfl,S,G',hS,_,hG'⟩
 exact⟨v,rfl,hK _ _ ⟨S,hS,hdf,G',hG'⟩⟩
end
end Go.Ab

namespace Go.Ab
open Go
def yV:List (Nat×T)→Env
 | [],_=>none
 |(k,t)::l,s=>if k=s then some t else yV l s
def Env.Has(E:Env):List (Nat×T)→Prop
 | []=>True
 |(s,t)::l=>E s=some t∧E.Has l
theorem Env.Has.le{E:Env}:{l:List (Nat×T)}→E.Has l→ ∀s t,yV l s=some t→E s=some t
 | [],_,s,t,h=>by simp[yV]at h
 |(k,u)::l,hh,s,t,h=>by
  simp only[yV]at h;split at h
  ·rename_i e
   subst e;rw[hh.1];exact h
  ·exact hh.2.le s t h
theorem Sim.weaken{Γ:Ctx}{E E':Env}{a:Act}{w:World}(h:Sim Γ E a w)(hle:∀s t,E' s=some t→E s=some t):Sim Γ E' a w:=by obtain⟨h1,G,h2⟩:=h;exact⟨h1,G,⟨h2.size,fun s t hs=>h2.ent s t (hle s t hs),h2.mem⟩⟩
theorem qX.weaken{Γ:Ctx}{E E':Env}{a:Act}{w:World}(h:qX Γ E a w)(hle:∀s t,E' s=some t→E s=some t):qX Γ E' a w:=by obtain⟨S,h1,h2⟩:=h;exact⟨S,h1,h2.weaken hle⟩
abbrev jO:=List (Nat×Value)
def jO.Hold(pn:jO)(a:Act):Prop:=∀x∈pn,a.tmps[x.1]? =some x.2
def jO.ok(pn:jO)(d:Option Nat):Bool:=match d with
 |none=>true
 |some d=>pn.all fun x=>x.1 != d
theorem Oper.wp_frame{P:Program}{o:Oper}{a:Act}{w:World}{K:Act→World→Prop}{Q:Exit→Act→World→Prop}(h:o.wp P a w K Q):
  o.wp P a w (fun a' w'=>K a' w'∧ ∀s,o.dst≠some s→a'.tmps[s]? =a.tmps[s]?) Q:=by
 have key:∀(v:Value)(ds:List Deferred),∀s,o.dst≠some s→(({ a with defers:=ds }:Act).put o.dst v).tmps[s]? =a.tmps[s]?:=by
  intro v ds s hs;cases hd:o.dst with
  |none=>rfl
  |some d=>
   have:d≠s:=fun e=>hs (by rw[hd,e])
   simp[Act.put,H1 this]
 have key0:∀(v:Value),∀s,o.dst≠some s→(a.put o.dst v).tmps[s]? =a.tmps[s]?:=fun v=>key v a.defers
 unfold Oper.wp at*
 generalize (execOp a.eval o).run P w=r at*
 cases r with
 |ok n w'=>
  cases n<;>simp only[Oper.upon]at h ⊢
  case value v=>exact⟨h,key0 v⟩
  case skip=>exact⟨h,key0 _⟩
  case defer d=>exact⟨h,key _ _⟩
  case enter f args=>
   refine Calls.mono h ?_;intro e w'' he;cases e with
   |returned v=>exact⟨he,key0 v⟩
   |panicked c=>exact he
   |outgrown=>exact he
  case row row args=>
   refine Rows.mono h ?_;intro v w'' he;exact⟨he,key0 v⟩
 |halt x w'=>cases x<;>simp only[Oper.upon]at h ⊢ <;>exact h
theorem jO.Hold.frame{pn:jO}{a a':Act}{d:Option Nat}(h:pn.Hold a)(hok:pn.ok d=true)(hf:∀s,d≠some s→a'.tmps[s]? =a.tmps[s]?):pn.Hold a':=by
 intro x hx;rw[hf x.1 ?_]
 ·exact h x hx
 ·rintro rfl
  have:=Kh.1 hok x hx;simp at this
section
variable (P:Program) (Γ:Ctx) (pn:jO)
def CW(c:Code)(E:Env)(Q:Exit→Env→Prop):Prop:=
 ∀(a:Act)(w:World)(Q':Exit→Act→World→Prop),qX Γ E a w→pn.Hold a→(∀e E' a' w',Q e E'→qX Γ E' a' w'→pn.Hold a'→Q' e a' w')→c.wp P Q' a w
def zW(ops:Array Oper)(o:Oper)(E E':Env):Prop:=
 ∀(a:Act)(w:World)(K:Act→World→Prop)(Q:Exit→Act→World→Prop),qX Γ E a w→(∀a' w',qX Γ E' a' w'→(∀s,o.dst≠some s→a'.tmps[s]? =a.tmps[s]?)→K a' w')→
  if Region.wanted o (yielded ops a.tmps)then o.wp P a w K Q∨(o.asks P a w∧LetsOut Q)else K (a.put o.dst undef) w
def wpL(ops:Array Oper)(Q:Exit→Act→World→Prop):List Oper→Act→World→Prop
 | [],a,w=>Q .normal a w
 |o::os,a,w=>if Region.wanted o (yielded ops a.tmps)then o.wp P a w (wpL ops Q os) Q∨(o.asks P a w∧LetsOut Q)else wpL ops Q os (a.put o.dst undef) w
def RW(ops:Array Oper)(os:List Oper)(E:Env)(Q:Exit→Env→Prop):Prop:=
 ∀(a:Act)(w:World)(Q':Exit→Act→World→Prop),qX Γ E a w→pn.Hold a→(∀e E' a' w',Q e E'→qX Γ E' a' w'→pn.Hold a'→Q' e a' w')→wpL P ops Q' os a w
end
section
variable {P:Program}{Γ:Ctx}{pn:jO}{E E':Env}{Q Q1:Exit→Env→Prop}{c c1 c2:Code}{ops:Array Oper}{o:Oper}{os:List Oper}{d:Nat}
theorem zJw{Q':Exit→Act→World→Prop}:∀(os:List Oper)(n:Nat)(a:Act)(w:World),ops.toList.drop n=os→wpL P ops Q' os a w→wpOps P ops Q' (L9 n os.length) a w
 | [],n,a,w,_,h=>by simpa[wpOps,wpL]using h
 |o::os,n,a,w,hd,h=>by
  have ho:ops[n]? =some o:=by have:=congrArg (·[0]?) hd;simpa[Ko]using this
  have hd':ops.toList.drop (n+1)=os:=by have:=congrArg List.tail hd;simpa[List.tail_drop]using this
  simp only[J6,Jd6,wpOps,ho];simp only[wpL]at h;split
  ·rename_i hw
   simp only[hw,if_true]at h;exact h.imp (Oper.wp_mono fun a w=>zJw os (n+1) a w hd') id
  ·rename_i hw
   simp only[hw]at h;exact zJw os (n+1) _ w hd' h
theorem CW.region{id:Nat}(h:RW P Γ pn ops ops.toList E Q):CW P Γ pn (.region id ops false) E Q:=by intro a w Q' hs hp hQ;refine wp_region ?_;have:=zJw (P:=P) ops.toList 0 a w (by simp) (h a w Q' hs hp hQ);simpa[Lr]using this
theorem RW.nil(h:Q .normal E):RW P Γ pn ops [] E Q:=fun a w Q' hs hp hQ=>by simp only[wpL];exact hQ _ _ _ _ h hs hp
theorem RW.cons(h1:zW P Γ ops o E E')(h3:RW P Γ pn ops os E' Q)(h2:pn.ok o.dst=true:=by rfl):RW P Γ pn ops (o::os) E Q:=by
 intro a w Q' hs hp hQ;simp only[wpL];have:=h1 a w (wpL P ops Q' os) Q' hs fun a' w' hs' hf=>h3 a' w' Q' hs' (hp.frame h2 hf) hQ
 exact this
theorem zW.op(h:∀S,wN P (Γ.at S) o E E')(hg:o.guard=none:=by rfl):zW P Γ ops o E E':=by
 intro a w K Q hs hK;have hw:Region.wanted o (yielded ops a.tmps)=true:=by simp[Region.wanted,hg]
 rw[if_pos hw];refine .inl ?_;obtain⟨S,hS,hs⟩:=hs;have:=Oper.wp_frame (h S a w (fun a' w'=>qX Γ E' a' w') Q hs fun a' w' h=>h.up hS);exact Oper.wp_mono (fun a' w' h=>hK a' w' h.1 h.2) this
theorem zGP{a:Act}{w:World}(hs:qX Γ E a w){g s:Nat}{b:Bool}(hgo:(ops[g]?).bind (·.dst)=some s)(h:E s=some (.lit (.bool b))):yielded ops a.tmps g=some b:=by obtain⟨_,_,_,G,hr⟩:=hs;obtain⟨h1,h2,_⟩:=hr.ent s _ h;simp only[R]at h2;simp[yielded,hgo,h1,mkV,h2]
theorem zW.guard(g:Nat)(b:Bool)(s:Nat)(h:∀S,wN P (Γ.at S) o E E')(hg:o.guard=some (g,b):=by rfl)(hgo:(ops[g]?).bind (·.dst)=some s:=by rfl)(hb:E s=some (.lit (.bool b)):=by rfl):zW P Γ ops o E E':=by
 intro a w K Q hs hK;have hw:Region.wanted o (yielded ops a.tmps)=true:=by simp[Region.wanted,hg,zGP hs hgo hb]
 rw[if_pos hw];refine .inl ?_;obtain⟨S,hS,hs⟩:=hs;have:=Oper.wp_frame (h S a w (fun a' w'=>qX Γ E' a' w') Q hs fun a' w' h=>h.up hS);exact Oper.wp_mono (fun a' w' h=>hK a' w' h.1 h.2) this
def zM(Γ:Ctx)(E E':Env):Prop:=∀(a:Act)(w:World),qX Γ E a w→qX Γ E' a w
theorem zM.refl:zM Γ E E:=fun _ _ h=>h
theorem zM.trans{E1 E2 E3:Env}(h:zM Γ E1 E2)(h':zM Γ E2 E3):zM Γ E1 E3:=fun a w hs=>h' a w (h a w hs)
theorem zM.has{l:List (Nat×T)}(h:E.Has l):zM Γ E (yV l):=fun _ _ hs=>hs.weaken h.le
theorem CW.ghost(h1:zM Γ E E')(h:CW P Γ pn c E' Q):CW P Γ pn c E Q:=fun a w Q' hs=>h a w Q' (h1 a w hs)
theorem RW.ghost(h1:zM Γ E E')(h:RW P Γ pn ops os E' Q):RW P Γ pn ops os E Q:=fun a w Q' hs=>h a w Q' (h1 a w hs)
theorem CW.to(l:List (Nat×T))(h1:E.Has l)(h:CW P Γ pn c (yV l) Q):CW P Γ pn c E Q:=h.ghost (.has h1)
theorem CW.mono(h:CW P Γ pn c E Q1)(hq:∀e E',Q1 e E'→Q e E'):CW P Γ pn c E Q:=fun a w Q' hs hp hQ=>h a w Q' hs hp fun e E' a' w' h1=>hQ e E' a' w' (hq e E' h1)
theorem CW.skip(h:Q .normal E):CW P Γ pn .skip E Q:=fun _ _ _ hs hp hQ=>wp_skip (hQ _ _ _ _ h hs hp)
theorem CW.ret(h:Q .ret E):CW P Γ pn .ret E Q:=fun _ _ _ hs hp hQ=>wp_ret (hQ _ _ _ _ h hs hp)
theorem CW.exit{id:Nat}(h:Q (.exit id) E):CW P Γ pn (.exit id) E Q:=fun _ _ _ hs hp hQ=>wp_exit (hQ _ _ _ _ h hs hp)
def wB(P:Program)(Γ:Ctx)(pn:jO)(c:Code)(Q:Exit→Env→Prop):Exit→Env→Prop
 |.normal,E=>CW P Γ pn c E Q
 |e,E=>Q e E
theorem CW.seq(h:CW P Γ pn c1 E (wB P Γ pn c2 Q)):CW P Γ pn (.seq c1 c2) E Q:=by
 intro a w Q' hs hp hQ;refine wp_seq (h a w _ hs hp fun e E' a' w' h1 hs' hp'=>?_);cases e with
 |normal=>exact h1 a' w' Q' hs' hp' hQ
 |_=>exact hQ _ _ _ _ h1 hs' hp'
theorem CW.cond{x:Operand}(b:Bool)(hb:opT E x=some (.lit (.bool b)))(ht:b=true→CW P Γ pn c1 E Q)(hf:b=false→CW P Γ pn c2 E Q):CW P Γ pn (.cond x c1 c2) E Q:=by intro a w Q' hs hp hQ;obtain⟨_,_,_,G,hr⟩:=id hs;refine wp_cond_split (wO hr hb).1 (fun h=>ht h a w Q' hs hp hQ) (fun h=>hf h a w Q' hs hp hQ)
def wF(id:Nat)(Q:Exit→Env→Prop):Exit→Env→Prop
 |.exit id',E=>if id'=id then Q .normal E else Q (.exit id') E
 |e,E=>Q e E
theorem CW.block{id:Nat}(h:CW P Γ pn c E (wF id Q)):CW P Γ pn (.block id c) E Q:=by
 intro a w Q' hs hp hQ;refine wp_block (h a w _ hs hp fun e E' a' w' h1 hs' hp'=>?_);cases e with
 |exit id'=>
  simp only[wF]at h1;simp only[Exit.inBlock];split
  ·rename_i e;rw[if_pos e]at h1;exact hQ _ _ _ _ h1 hs' hp'
  ·rename_i e;rw[if_neg e]at h1;exact hQ _ _ _ _ h1 hs' hp'
 |_=>exact hQ _ _ _ _ h1 hs' hp'
end
def jF{σ ρ:Type}(body:σ→Option (σ⊕ρ)):Nat→σ→Option ρ
 |0,_=>none
 |n+1,s=>match body s with
  |none=>none
  |some (.inl s')=>jF body n s'
  |some (.inr r)=>some r
theorem zDC{σ ρ:Type}{body:σ→Option (σ⊕ρ)}{r:ρ}:∀{n m:Nat}{s:σ},jF body n s=some r→n≤m→jF body m s=some r
 |0,_,_,h,_=>by simp[jF]at h
 |n+1,0,_,_,hm=>by omega
 |n+1,m+1,s,h,hm=>by
  simp only[jF]at h ⊢
  cases hb:body s with
  |none=>simp[hb]at h
  |some x=>
   cases x with
   |inl s'=>simp only[hb]at h ⊢;exact zDC h (by omega)
   |inr r'=>simpa[hb]using h
open Classical in
noncomputable def zI {σ ρ:Type} (body:σ→Option (σ⊕ρ)) (s:σ):Option ρ:=
 if h:∃(n:Nat)(r:ρ),jF body n s=some r then some h.choose_spec.choose else none
theorem zDD{σ ρ:Type}{body:σ→Option (σ⊕ρ)}{s:σ}{r:ρ}:zI body s=some r↔ ∃n,jF body n s=some r:=by
 unfold zI;constructor
 ·intro h
  split at h
  ·rename_i he
   simp at h;exact⟨he.choose,by rw[←h];exact he.choose_spec.choose_spec⟩
  ·cases h
 ·rintro⟨n,hn⟩
  have he:∃(n:Nat)(r:ρ),jF body n s=some r:=⟨n,r,hn⟩;rw[dif_pos he];have h1:=he.choose_spec.choose_spec;have h2:=zDC h1 (Nat.le_max_left he.choose n);have h3:=zDC hn (Nat.le_max_right he.choose n);rw[h2]at h3;exact h3
theorem xT{σ ρ:Type}(body:σ→Option (σ⊕ρ))(s:σ):zI body s=match body s with
  |none=>none
  |some (.inl s')=>zI body s'
  |some (.inr r)=>some r:=by
 apply Option.ext;intro r;rw[zDD];cases hb:body s with
 |none=>
  simp only[reduceCtorEq,iff_false]
  rintro⟨n,hn⟩
  cases n<;>simp[jF,hb]at hn
 |some x=>
  cases x with
  |inl s'=>
   simp only[];rw[zDD];constructor
   ·rintro⟨n,hn⟩
    cases n with
    |zero=>simp[jF]at hn
    |succ n=>exact⟨n,by simpa[jF,hb]using hn⟩
   ·rintro⟨n,hn⟩
    exact⟨n+1,by simpa[jF,hb]using hn⟩
  |inr r'=>
   simp only[Lb.injEq];constructor
   ·rintro⟨n,hn⟩
    cases n with
    |zero=>simp[jF]at hn
    |succ n=>simpa[jF,hb]using hn
   ·rintro rfl
    exact⟨1,by simp[jF,hb]⟩
section
variable {P:Program}{Γ:Ctx}{pn:jO}{E:Env}{Q:Exit→Env→Prop}{c:Code}
def vT{σ ρ:Type}(Γ:Ctx)(en:σ→Env)(Q:ρ→Exit→Env→Prop)(x:σ⊕ρ):Exit→Env→Prop:=fun e E'=>
 match x with
 |.inl s'=>e=.normal∧zM Γ E' (en s')
 |.inr r=>e≠.normal∧Q r e E'
theorem zBd{p:Nat→Prop}(h:∃m,p m):∃m,p m∧ ∀k,k<m→ ¬p k:=by
 refine Classical.byContradiction fun hn=>?_
 have key:∀n,∀k,k<n→ ¬p k:=by
  intro n
  induction n with
  |zero=>intro k hk;omega
  |succ n ih=>
   intro k hk hp;rcases Jk k n with h1|h1
   ·exact ih k h1 hp
   ·have:k=n:=by omega
    subst this;exact hn ⟨k,hp,ih⟩
 obtain⟨m,hm⟩:=h;exact key (m+1) m (by omega) hm
theorem CW.loop{σ ρ:Type}(body:σ→Option (σ⊕ρ))(en:σ→Env)(Q:ρ→Exit→Env→Prop)(h:∀s x,body s=some x→CW P Γ pn c (en s) (vT Γ en Q x)){s:σ}{r:ρ}(hr:zI body s=some r):
  CW P Γ pn (.loop c) (en s) (Q r):=by
 classical
 intro a w Q' hs hp hQ
 let p:Act→World→Nat→Prop:=fun a w m=> ∃s,jF body m s=some r∧qX Γ (en s) a w∧pn.Hold a
 let μ:Act→World→Nat:=fun a w=>if h:∃m,p a w m then(zBd h).choose else 0
 obtain⟨n,hn⟩:=zDD.1 hr;refine wp_loop (fun a w=> ∃m,p a w m) μ ⟨n,s,hn,hs,hp⟩ ?_;intro a w hex;have hμ:μ a w=(zBd hex).choose:=dif_pos hex;obtain⟨s,h1,h2,h3⟩:=(zBd hex).choose_spec.1;have hmin:=(zBd hex).choose_spec.2;rw[←hμ]at h1;cases hm:μ a w with
 |zero=>rw[hm]at h1;simp[jF]at h1
 |succ k=>
  rw[hm]at h1;simp only[jF]at h1;cases hb:body s with
  |none=>simp[hb]at h1
  |some x=>
   refine h s x hb a w _ h2 h3 fun e E' a' w' hq hs' hp'=>?_
   cases x with
   |inl s'=>
    simp only[hb]at h1;obtain⟨rfl,hg⟩:=hq;have hp2:p a' w' k:=⟨s',h1,hg a' w' hs',hp'⟩;refine⟨⟨k,hp2⟩,?_⟩;have hex':∃m,p a' w' m:=⟨k,hp2⟩;have hμ':μ a' w'=(zBd hex').choose:=dif_pos hex';rw[hμ'];rcases Jk (zBd hex').choose (k+1)with h4|h4
    ·exact h4
    ·exact absurd hp2 ((zBd hex').choose_spec.2 k (by omega))
   |inr r'=>
    simp only[hb]at h1;have:r'=r:=by simpa using h1
    subst this;obtain⟨hne,hq⟩:=hq;have:=hQ e E' a' w' hq hs' hp';cases e with
    |normal=>exact absurd rfl hne
    |_=>exact this
end
end Go.Ab

namespace Go.Ab
open Go
abbrev Nds:=List (Nat×List Nat×T)
def ROk(P:Program)(E:Env):ResultVar→(Nat×List Nat×T)→Prop
 |.tmp s,x=>x.1=s∧x.2.1=[]∧E s=some x.2.2∧x.2.2.okTup=true
 |.cell a T,x=>x.1=a∧x.2.1=[0]∧E a=some (.ptr x.2.2)∧ ∃ds ti,P.underlying T=some ds∧P.info? T=some ti∧zES ds= !x.2.2.single∧ti.size=x.2.2.size
def zPh(P:Program)(E:Env):List ResultVar→Nds→Prop
 | [],[]=>True
 |x::xs,y::ys=>ROk P E x y∧zPh P E xs ys
 |_,_=>False
def LOk(E:Env)(us:List T):List (Nat×T)→Prop
 | []=>True
 |(i,u')::l=>(E i=some u'∧ ∃u,us[i]? =some u)∧LOk E us l
def zX7(P:Program)(rs:Array ResultVar)(us res:List T)(rws:List (Nat×T)):Exit→Env→Prop:=fun e E=>
 (e=.ret∨e=.normal)∧ ∃nd:Nds,zPh P E rs.toList nd∧nd.map (·.2.2)=res∧(∀x∈nd,us.length≤x.1)∧(nd.map (·.1)).Nodup∧LOk E us rws
def zCh(v:Nat→Value)(is:List Nat):jO:=is.map fun i=>(i,v i)
def zIc:Nat→List T→List (Nat×T)
 |_,[]=>[]
 |i,u::us=>(i,u)::zIc (i+1) us
theorem zKE:∀(us:List T)(i s:Nat)(t:T),yV (zIc i us) s=some t→i≤s∧us[s-i]? =some t
 | [],i,s,t,h=>by simp[zIc,yV]at h
 |u::us,i,s,t,h=>by
  simp only[zIc,yV]at h;split at h
  ·rename_i e;subst e;simpa using h
  ·rename_i e
   obtain⟨h1,h2⟩:=zKE us (i+1) s t h;refine⟨by omega,?_⟩;have:s-i=(s-(i+1))+1:=by omega
   rw[this];simpa using h2
def zQK(tmps:Array Value):ResultVar→Sem Value
 |.tmp t=>pure (tmps.getD t undef)
 |.cell a t=>do loadVar t (←asAddr (tmps.getD a undef))
theorem zM3(fn:Func)(tmps:Array Value):results fn tmps=(do
  let vs ←fn.results.mapM (zQK tmps)
  pure (if h:vs.size=1 then vs[0]else .tuple vs)):=rfl
theorem vL.get:(xs:List T)→vL xs→ ∀(i:Nat)(x:T),xs[i]? =some x→Top x
 | [],_,i,x,h=>by simp at h
 |y::ys,ht,i,x,h=>by
  simp only[vL]at ht;cases i with
  |zero=>simp at h;subst h;exact ht.1
  |succ i=>exact vL.get ys ht.2 i x (by simpa using h)
theorem LOk.get{E:Env}{us:List T}:(l:List (Nat×T))→LOk E us l→ ∀i u',(i,u')∈l→E i=some u'∧ ∃u,us[i]? =some u
 | [],_,_,_,h=>by simp at h
 |x::l,h,i,u',hm=>by
  rcases Jd.1 hm with rfl|hm
  ·exact h.1
  ·exact LOk.get l h.2 i u' hm
theorem zZx{P:Program}{Γ:Ctx}{E:Env}{G:Gh}{tmps:Array Value}{w:World}(hrep:Rep Γ E G tmps w)(x:ResultVar)(s:Nat)(q:List Nat)(t:T)(h:ROk P E x (s,q,t)):
  (zQK tmps x).run P w=.ok (tZ G s t q) w∧R Γ.St G w s t q:=by
 cases x with
 |tmp s'=>
  obtain⟨h0,h0',h1,h2⟩:=h;dsimp only at h0 h0' h1 h2;subst h0 h0';obtain⟨g1,g2,_⟩:=hrep.ent _ _ h1;have hnt:∀xs,t≠.tup xs:=by rintro xs rfl;simp[T.okTup]at h2
  refine⟨?_,g2⟩;rw[←kD G s t [] hnt];simp[zQK,K5,g1]
 |cell a T'=>
  obtain⟨h0,h0',h1,ds,ti,h2,h3,h4,h5⟩:=h;dsimp only at h0 h0' h1 h4 h5;subst h0 h0';obtain⟨g1,g2,_⟩:=hrep.ent _ _ h1;simp only[R]at g2;obtain⟨b,cs,e,k1,k2,k3,k4,k5,k6⟩:=g2;refine⟨?_,k6⟩;rw[xP rfl,k1]at g1;have h6:=zFE (w:=w) h2 h3 k5 h4 h5;simp[zQK,K5,g1,asAddr,h6]
theorem zFL{P:Program}{Γ:Ctx}{E:Env}{G:Gh}{tmps:Array Value}{w:World}(hrep:Rep Γ E G tmps w):(rs:List ResultVar)→(nd:Nds)→zPh P E rs nd→
  (rs.mapM (zQK tmps)).run P w=.ok (nd.map fun x=>tZ G x.1 x.2.2 x.2.1) w∧ ∀x∈nd,R Γ.St G w x.1 x.2.2 x.2.1
 | [],[],_=>by simp
 |x::xs,y::ys,h=>by
  obtain⟨h1,h2⟩:=zFL hrep xs ys h.2;obtain⟨h3,h4⟩:=zZx hrep x y.1 y.2.1 y.2.2 h.1;refine⟨?_,?_⟩
  ·simp[List.mapM_cons,h3,h1]
  ·intro z hz
   rcases Jd.1 hz with rfl|hz
   ·exact h4
   ·exact h2 z hz
 | [],_::_,h=>by simp[zPh]at h
 |_::_,[],h=>by simp[zPh]at h
theorem FnC.of_body{P:Program}{f:FuncId}{fn:Func}{c:Code}{us res:List T}{rws:List (Nat×T)}(hf:P.funcs[f]? =some fn)(hb:fn.body=some c)(hn:us.length≤fn.ntmps)(ht:vL us)(hr:rws.all (fun x=>decide (x.1<us.length))=true)
  (h:∀(Γ:Ctx)(v:Nat→Value),Γ.N=fn.ntmps→CW P Γ (zCh v (rws.map (·.1))) c (yV (zIc 0 us)) (zX7 P fn.results us res rws)):FnC P f us res rws:=by
 intro St W w G vs hvs hargs hmem
 let Γ:Ctx:=⟨St,W,w,fn.ntmps⟩
 let v:Nat→Value:=fun i=>vs.getD i undef
 have hm:Mem Γ G w:=⟨hmem.one,hmem.lb,hmem.ow,hmem.st,hmem.fr,hmem.sz,hmem.bk⟩;have hsz:(vs++Ql (fn.ntmps-vs.size) undef).size=fn.ntmps:=by simp;omega
 have hsim:Sim Γ (yV (zIc 0 us)) { tmps:=vs++Ql (fn.ntmps-vs.size) undef,defers:=[] } w:=by refine⟨rfl,G,hsz,?_,hm⟩;intro s t hs;obtain⟨_,h2⟩:=zKE us 0 s t hs;simp only[U7]at h2;obtain⟨h3,h4⟩:=hargs s t h2;have hlt:s<vs.size:=(Ki.1 h3).1;exact⟨by simp[Jah,hlt];exact(Ki.1 h3).2,h4,vL.get us ht s t h2⟩
 have hpin:(zCh v (rws.map (·.1))).Hold { tmps:=vs++Ql (fn.ntmps-vs.size) undef,defers:=[] }:=by
  intro x hx;simp only[zCh,Jt]at hx;obtain⟨i,⟨y,hy,rfl⟩,rfl⟩:=hx;have h1:=Kh.1 hr y hy;simp at h1;have h2:y.1<vs.size:=by omega
  simp[Jah,h2,v]
 refine calls_of_wp hf hb (h Γ v rfl _ _ _ (.of hsim) hpin ?_)
 rintro e E' a' w' ⟨he,nd,h1,h2,h3,h4,h5⟩ ⟨S',hgrow,hdf,G',hrep⟩ hp
 obtain⟨g1,g2⟩:=zFL hrep _ _ h1;have hres:(results fn a'.tmps).run P w'=.ok (zK5 G' nd) w':=by
  rw[zM3,Array.mapM_eq_mapM_toList];simp only[Sem.run_bind,Sem.run_map,g1];cases nd with
  |nil=>simp[zK5]
  |cons y ys=>
   cases ys with
   |nil=>simp[zK5]
   |cons z zs=>simp[zK5]
 have hm':Mem ⟨S',W,w,0⟩ G' w':=⟨hrep.mem.one,hrep.mem.lb,hrep.mem.ow,hrep.mem.st,hrep.mem.fr,hrep.mem.sz,hrep.mem.bk⟩;have hfin:bodyPost P fn (fun e w'=> ∃(S':Stb)(G':Gh)(nd:List (Nat×List Nat×T)),zDg St S' W w.heap.size∧e=.returned (zK5 G' nd)∧Mem ⟨S',W,w,0⟩ G' w'∧nd.map (·.2.2)=res∧
   (∀x∈nd,R S' G' w' x.1 x.2.2 x.2.1∧us.length≤x.1)∧(nd.map (·.1)).Nodup∧
   ∀i u',(i,u')∈rws→R S' G' w' i u' []∧ ∃u,us[i]? =some u∧mkV G' i u' []=mkV G i u []) .ret a' w':=by
  refine⟨hdf,_,hres,S',G',nd,hgrow,rfl,hm',h2,fun x hx=>⟨g2 x hx,h3 x hx⟩,h4,?_⟩;intro i u' hiu;obtain⟨k1,u,k3⟩:=LOk.get _ h5 i u' hiu;obtain⟨k5,k6,_⟩:=hrep.ent i u' k1;refine⟨k6,u,k3,?_⟩;have k7:=hp (i,v i) (by simp only[zCh,Jt];exact⟨i,⟨(i,u'),hiu,rfl⟩,rfl⟩);have k8:=(hargs i u k3).1;rw[k5]at k7;simp[v,K5,k8]at k7;exact k7
 rcases he with rfl|rfl<;>exact hfin
end Go.Ab

namespace Go.Ab
open Go
mutual
def vQ:T→T
 |.sl k xs=>.ro (strip (.sl k xs))
 |.ptr t=>.ro (strip (.ptr t))
 |.agg xs=>.agg (vW xs)
 |.tup xs=>.tup (vW xs)
 |.any=>.any
 |.lit v=>.lit v
 |.ro t=>.ro t
 |.same r p=>.same r p
 |.addr r p=>.addr r p
 |.sub r p k lo hi=>.sub r p k lo hi
def vW:List T→List T
 | []=>[]
 |x::xs=>vQ x::vW xs
end
mutual
theorem zQL(G:Gh)(s:Nat):(t:T)→ ∀p,vals G s (vQ t) p=vals G s t p
 |.agg xs,p=>by simp only[vQ,vals];exact zCO G s xs p 0
 |.sl _ _,_|.ptr _,_|.tup _,_|.any,_|.lit _,_|.ro _,_|.same _ _,_|.addr _ _,_|.sub _ _ _ _ _,_=>by simp only[vQ,vals]
theorem zCO(G:Gh)(s:Nat):(xs:List T)→ ∀p j,yF G s (vW xs) p j=yF G s xs p j
 | [],_,_=>by simp only[vW]
 |x::xs,p,j=>by simp only[vW,yF,zQL G s x,zCO G s xs]
end
theorem zQM(G:Gh)(s:Nat)(t:T)(p:List Nat):tZ G s (vQ t) p=tZ G s t p:=by cases t<;>simp only[vQ,tZ,zCO]
theorem zKF(G:Gh)(s:Nat):(xs:List T)→ ∀p j,qW G s (vW xs) p j=qW G s xs p j
 | [],_,_=>by simp only[vW]
 |x::xs,p,j=>by simp only[vW,qW,zQM,zKF G s xs]
theorem zTJ(G:Gh)(s:Nat)(t:T)(p:List Nat):mkV G s (vQ t) p=mkV G s t p:=by cases t<;>simp only[vQ,mkV,zCO,zKF]
mutual
theorem zKG:(t:T)→Top t→Top (vQ t)
 |.agg xs,h|.tup xs,h=>by simp only[vQ,Top]at h ⊢;exact zIz xs h
 |.sl _ _,_|.ptr _,_|.any,_|.lit _,_|.ro _,_|.same _ _,_|.addr _ _,_|.sub _ _ _ _ _,_=>by simp only[vQ,Top]
theorem zIz:(xs:List T)→vL xs→vL (vW xs)
 | [],_=>by simp only[vW,vL]
 |x::xs,h=>by simp only[vW,vL]at h ⊢;exact⟨zKG x h.1,zIz xs h.2⟩
end
section
variable {St Sc:Stb}{G G':Gh}{w:World}{s:Nat} (hone:∀s p,(G.hd s p).oneCell'=true) (hSt:∀b x,St b=some x→Sc b=some x) (hSc:∀b,(∃y,G.ow b=some (s,y))→Sc b=w.heap[b]?) (hhd:∀s z,G'.hd s z=G.hd s z) (had:∀s z,G'.ad s z=G.ad s z)
 include hone hSt hSc hhd had
mutual
theorem zVe:(t:T)→ ∀(p:List Nat),R St G w s t p→R Sc G' w s (vQ t) p
 |.agg xs,p,hr|.tup xs,p,hr=>by simp only[vQ,R]at hr ⊢;exact zQN xs p 0 hr
 |.sl k xs,p,hr=>by have:=zK8 hone hSt hSc (.sl k xs) p rfl hr;simp only[vQ,R,hhd];exact this
 |.ptr t,p,hr=>by have:=zK8 hone hSt hSc (.ptr t) p rfl hr;simp only[vQ,R,hhd];exact this
 |.ro u,p,hr=>by simp only[vQ,R,hhd]at hr ⊢;exact tS hSt u _ _ hr
 |.any,_,_=>by simp only[vQ,R]
 |.lit _,_,hr|.same _ _,_,hr|.sub _ _ _ _ _,_,hr=>by simp only[vQ,R,hhd]at hr ⊢;exact hr
 |.addr _ _,_,hr=>by simp only[vQ,R,hhd,had]at hr ⊢;exact hr
theorem zQN:(xs:List T)→ ∀(p:List Nat)(j:Nat),RF St G w s xs p j→RF Sc G' w s (vW xs) p j
 | [],_,_,_=>by have _:=hone;have _:=hSt;have _:=hSc;have _:=hhd;have _:=had;simp only[vW,RF]
 |x::xs,p,j,hr=>by simp only[vW,RF]at hr ⊢;exact⟨zVe x _ hr.1,zQN xs p (j+1) hr.2⟩
end
end
theorem zM.freeze{Γ:Ctx}{E:Env}(s:Nat)(t:T)(hs:E s=some t):zM Γ E (E.app [(s,some (vQ t))] [(s,1)]):=by
 classical
 rintro a w ⟨S,hS,hdf,G,hrep⟩
 have hm:=hrep.mem
 let own:Nat→Prop:=fun b=> ∃y,G.ow b=some (s,y)
 let Sc:Stb:=fun b=>if own b then w.heap[b]? else S b
 let G':Gh:={ hd:=G.hd,ad:=G.ad,lb:=fun b o=>if own b then none else G.lb b o,ow:=fun b=>if own b then none else G.ow b }
 have hup:∀b x,S b=some x→Sc b=some x:=fun b x hx=>by
  have:¬own b:=by
   rintro⟨y,hy⟩
   have:=(hm.ow b _ hy).2.2;rw[show S b=none from this]at hx;cases hx
  simp only[Sc,this,if_false];exact hx
 have hgr:zDg S Sc Γ.W Γ.w0.heap.size:=⟨hup,fun b hb hb'=>by
  by_cases h:own b
  ·obtain⟨y,hy⟩:=h
   exact(hm.ow b _ hy).2.1
  ·simp only[Sc,h,if_false]at hb'
   exact absurd hb hb'⟩
 have hmem:Mem ((Γ.at S).at Sc) G' w:=by
  refine⟨hm.one,fun b o l hl=>?_,fun b l hl=>?_,fun b x hx=>?_,hm.fr,hm.sz,hm.bk⟩
  ·by_cases h:own b
   ·simp only[G',h,if_true]at hl;cases hl
   ·simp only[G',h,if_false]at hl
    have:=hm.lb b o l hl;exact⟨this.1,this.2.1,by simp only[Sc,h,if_false];exact this.2.2⟩
  ·by_cases h:own b
   ·simp only[G',h,if_true]at hl;cases hl
   ·simp only[G',h,if_false]at hl
    have:=hm.ow b l hl;exact⟨this.1,this.2.1,by simp only[Sc,h,if_false];exact this.2.2⟩
  ·by_cases h:own b
   ·simp only[Sc,h,if_true]at hx;exact hx
   ·simp only[Sc,h,if_false]at hx;exact hm.st b x hx
 have hkeep:qP [(s,1)] G w G' w:=by
  have hno:∀b s0 y,G.ow b=some (s0,y)→(∀n,(s0,n)∉([(s,1)]:Chg))→ ¬own b:=by
   rintro b s0 y h1 h2 ⟨y',h3⟩
   rw[h1]at h3;simp at h3;exact h2 1 (by simp[h3.1])
  refine⟨fun _ _ _=>rfl,fun _ _ _=>rfl,fun b o f s0 p ⟨y,hy⟩ h1 h2=>?_,fun b s0 p h1 h2=>?_,fun b cs e h=>⟨cs,h,rfl⟩⟩
  ·have:=hno b s0 y hy h2
   refine⟨?_,rfl⟩;simp only[G',this,if_false];exact h1
  ·have:=hno b s0 p h1 h2
   simp only[G',this,if_false];exact h1
 obtain⟨e1,e2,e3⟩:=hrep.ent s t hs;refine⟨Sc,hS.trans hgr,hdf,G',hrep.up hup rfl hkeep hmem (fun s0 h0=>⟨fun n hn=>?_,rfl⟩) (fun s0 t0 h0=>?_)⟩
 ·rw[tR]at h0
  simp at hn;simp[hn.1]at h0
 ·rw[tR]at h0
  split at h0
  ·rename_i he;subst he
   simp at h0;subst h0;have hR:=zVe (G':=G') hm.one hup (fun b hb=>by simp only[Sc];rw[if_pos hb]) (fun _ _=>rfl) (fun _ _=>rfl) t [] e2;refine⟨?_,hR,zKG t e3⟩;rw[e1];have h1:mkV G' s (vQ t) []=mkV G s (vQ t) []:=zER _ _ _ (fun _=>rfl);rw[h1,zTJ]
  ·cases h0
end Go.Ab

namespace Go.Ab
open Go
abbrev zEm:=List (Wr×Chg)
def Env.apps(E:Env)(l:zEm):Env:=l.foldl (fun E x=>E.app x.1 x.2) E
structure Stp where
 rd:List (Nat×T)
 l:zEm
def sD(wr:Wr):List Nat:=wr.map (·.1)
def Stp.slots(X:Stp):List Nat:=X.l.flatMap fun x=>sD x.1
def oOk(chg:Chg):Option T→Bool
 |none=>true
 |some t=>t.okB chg
def zM4(chg:Chg)(wr:Wr):Bool:=wr.all fun x=>oOk chg x.2
def zPi(a b:List Nat):Bool:=a.all fun x=> !b.contains x
def zFb(a b:zEm):Bool:=a.all fun x=>b.all fun y=>zPi (sD x.1) (sD y.1)&&zM4 y.2 x.1&&zM4 x.2 y.1
def Stp.apart(a b:Stp):Bool:=zFb a.l b.l&&zPi a.slots (b.rd.map (·.1))&&zPi b.slots (a.rd.map (·.1))&&a.rd.all fun x=>b.l.all fun y=>x.2.okB y.2
theorem zFc{wr:Wr}{s:Nat}(h:s∉sD wr):wr.find s=none:=by
 induction wr with
 |nil=>rfl
 |cons x wr ih=>
  simp only[sD,Ju,Jd,not_or]at h;simp only[Wr.find,Ne.symm h.1,if_false];exact ih h.2
theorem zI0{wr:Wr}{s:Nat}{x:Option T}(h:wr.find s=some x):s∈sD wr∧ ∃y∈wr,y.2=x:=by
 induction wr with
 |nil=>simp[Wr.find]at h
 |cons y wr ih=>
  simp only[Wr.find]at h;split at h
  ·rename_i e
   simp at h;exact⟨by simp[sD,e],y,by simp,h⟩
  ·obtain⟨h1,z,h2,h3⟩:=ih h
   exact⟨by simp only[sD,Ju,Jd];exact .inr h1,z,by simp[h2],h3⟩
theorem zGQ{a b:List Nat}(h:zPi a b=true){s:Nat}(hs:s∈a):s∉b:=by have:=Kh.1 h s hs;simpa using this
theorem zQO(E:Env)(w1 w2:Wr)(c1 c2:Chg)(h:zPi (sD w1) (sD w2)=true)(h1:zM4 c2 w1=true)(h2:zM4 c1 w2=true):
  (E.app w1 c1).app w2 c2=(E.app w2 c2).app w1 c1:=by
 funext s
 have ok:∀{c:Chg}{w:Wr}{s:Nat}{x:Option T},zM4 c w=true→w.find s=some x→(match x with|some t=>if t.okB c then some t else none|none=>none)=x:=by
  intro c w s x hw hf;obtain⟨_,y,hy,rfl⟩:=zI0 hf;have:=Kh.1 hw y hy;cases hy2:y.2 with
  |none=>rfl
  |some t=>rw[hy2]at this;simp only[oOk]at this;simp[this]
 unfold Env.app;cases hf1:w1.find s with
 |some x=>
  have:=zFc (zGQ h (zI0 hf1).1);simp only[this];exact ok h1 hf1
 |none=>
  cases hf2:w2.find s with
  |some y=>simp only;exact(ok h2 hf2).symm
  |none=>
   simp only
   cases E s with
   |none=>rfl
   |some t=>by_cases k1:t.okB c1=true<;>by_cases k2:t.okB c2=true<;>simp[k1,k2]
theorem zDt(w:Wr)(c:Chg):∀(l:zEm)(E:Env),(∀y∈l,zPi (sD w) (sD y.1)=true∧zM4 y.2 w=true∧zM4 c y.1=true)→(E.app w c).apps l=(E.apps l).app w c
 | [],E,_=>rfl
 |y::l,E,h=>by obtain⟨h1,h2,h3⟩:=h y (by simp);show((E.app w c).app y.1 y.2).apps l=_;rw[zQO E w y.1 c y.2 h1 h2 h3];exact zDt w c l _ (fun z hz=>h z (by simp[hz]))
theorem zI1:∀(l1 l2:zEm)(E:Env),zFb l1 l2=true→(E.apps l1).apps l2=(E.apps l2).apps l1
 | [],l2,E,_=>rfl
 |x::l1,l2,E,h=>by
  simp only[zFb,Jbt,J4]at h;show((E.app x.1 x.2).apps l1).apps l2=((E.apps l2).app x.1 x.2).apps l1;rw[zI1 l1 l2 _ (by simp only[zFb];exact h.2),zDt x.1 x.2 l2 E (fun y hy=>by have:=Kh.1 h.1 y hy;simp only[J4]at this;exact⟨this.1.1,this.1.2,this.2⟩)]
def runD:Env→List (Bool×Stp)→Env
 |E,[]=>E
 |E,(b,X)::l=>runD (if b then E.apps X.l else E) l
theorem kF:∀(l1 l2:List (Bool×Stp))(E:Env),runD E (l1++l2)=runD (runD E l1) l2
 | [],_,_=>rfl
 |(b,X)::l1,l2,E=>by simp only[Jq,runD];exact kF l1 l2 _
theorem zFd:∀(l:List (Bool×Stp))(X:Stp)(E:Env),(∀y∈l,y.1=true→zFb X.l y.2.l=true)→runD (E.apps X.l) l=(runD E l).apps X.l
 | [],_,_,_=>rfl
 |(b,Y)::l,X,E,h=>by
  simp only[runD];cases b with
  |false=>exact zFd l X E (fun y hy=>h y (by simp[hy]))
  |true=>
   have:=h (true,Y) (by simp) rfl;simp only[if_true];rw[zI1 X.l Y.l E this];exact zFd l X _ (fun y hy=>h y (by simp[hy]))
theorem zGR{s:Nat}:∀(l:zEm)(E:Env),s∉l.flatMap (fun x=>sD x.1)→ ∀t,(E.apps l) s=some t→E s=some t
 | [],_,_,_,h=>h
 |x::l,E,hs,t,h=>by
  simp only[Ln,Jj,not_or]at hs;have:=zGR l (E.app x.1 x.2) hs.2 t h;unfold Env.app at this;rw[zFc hs.1]at this;simp only[]at this;cases he:E s with
  |none=>simp[he]at this
  |some u=>simp[he]at this;rw[this.2]
theorem zI2{s:Nat}{t:T}:∀(l:zEm)(E:Env),s∉l.flatMap (fun x=>sD x.1)→(∀y∈l,t.okB y.2=true)→E s=some t→(E.apps l) s=some t
 | [],_,_,_,h=>h
 |x::l,E,hs,hok,h=>by simp only[Ln,Jj,not_or]at hs;refine zI2 l (E.app x.1 x.2) hs.2 (fun y hy=>hok y (by simp[hy])) ?_;unfold Env.app;rw[zFc hs.1];simp[h,hok x (by simp)]
theorem zI3{s:Nat}:∀(l:zEm)(E1 E2:Env),(∀t,E2 s=some t→E1 s=some t)→ ∀t,(E2.apps l) s=some t→(E1.apps l) s=some t
 | [],_,_,h,t,ht=>h t ht
 |x::l,E1,E2,h,t,ht=>by
  refine zI3 l (E1.app x.1 x.2) (E2.app x.1 x.2) (fun u hu=>?_) t ht;unfold Env.app at hu ⊢
  cases hf:x.1.find s with
  |some y=>simpa[hf]using hu
  |none=>
   simp only[hf]at hu ⊢
   cases he:E2 s with
   |none=>simp[he]at hu
   |some v=>rw[h v he];simpa[he]using hu
theorem zI4{s:Nat}:∀(l:List (Bool×Stp))(E1 E2:Env),(∀y∈l,y.1=false→s∉y.2.slots)→(∀t,E2 s=some t→E1 s=some t)→
  ∀t,runD E2 (l.map fun y=>(true,y.2)) s=some t→runD E1 l s=some t
 | [],_,_,_,h,t,ht=>h t ht
 |(b,X)::l,E1,E2,hl,h,t,ht=>by
  simp only[Ju,runD,if_true]at ht ⊢
  refine zI4 l _ _ (fun y hy=>hl y (by simp[hy])) (fun u hu=>?_) t ht;cases b with
  |true=>exact zI3 X.l E1 E2 h u hu
  |false=>exact h u (zGR X.l E2 (hl (false,X) (by simp) rfl) u hu)
theorem zI5{s:Nat}{t:T}:∀(l:List (Bool×Stp))(E:Env),(∀y∈l,y.1=true→s∉y.2.slots∧ ∀z∈y.2.l,t.okB z.2=true)→E s=some t→runD E l s=some t
 | [],_,_,h=>h
 |(b,X)::l,E,hl,h=>by
  simp only[runD];refine zI5 l _ (fun y hy=>hl y (by simp[hy])) ?_;cases b with
  |false=>exact h
  |true=>obtain⟨h1,h2⟩:=hl (true,X) (by simp) rfl;exact zI2 X.l E h1 h2 h
theorem Env.Has.of{E E':Env}:{l:List (Nat×T)}→E.Has l→(∀s t,(s,t)∈l→E s=some t→E' s=some t)→E'.Has l
 | [],_,_=>trivial
 |(s,t)::l,h,h'=>⟨h' s t (by simp) h.1,Env.Has.of h.2 fun s t hm=>h' s t (by simp[hm])⟩
end Go.Ab

namespace Go.Ab
open Go
def zBe(o:Oper):List Nat:=(o.after.toList.filter (Region.binds .any)).map (·.on)
def zA9:Nat→List Oper→Bool
 |_,[]=>true
 |i,o::os=>((zBe o).all fun m=>decide (m<i))&&zA9 (i+1) os
def zAb(an:List (List Nat)):List (List Nat)→List Oper→Bool
 | [],_=>true
 |_::_,[]=>false
 |l::ls,o::os=>(l.all fun k=>(zBe o).contains k||(zBe o).any fun m=>(an.getD m []).contains k)&&zAb an ls os
def jP(Xs:List Stp):Nat→List (List Nat)→List Stp→Bool
 |_,_,[]=>true
 |j,an,Y::Ys=>((Jl j).all fun i=>(an.headD []).contains i||match Xs[i]? with
   |some X=>X.apart Y
   |none=>true)&&jP Xs (j+1) an.tail Ys
theorem zGk:∀(os:List Oper)(i0 j:Nat)(o:Oper),zA9 i0 os=true→os[j]? =some o→ ∀m∈zBe o,m<i0+j
 | [],_,j,_,_,h=>by simp at h
 |x::os,i0,j,o,hf,h=>by
  simp only[zA9,J4]at hf;cases j with
  |zero=>
   simp at h;subst h;intro m hm;simpa using Kh.1 hf.1 m hm
  |succ j=>
   intro m hm;have:=zGk os (i0+1) j o hf.2 (by simpa using h) m hm;omega
theorem zJx(an:List (List Nat)):∀(ls:List (List Nat))(os:List Oper)(j:Nat)(l:List Nat),zAb an ls os=true→ls[j]? =some l→ ∃o,os[j]? =some o∧ ∀k∈l,k∈zBe o∨ ∃m∈zBe o,k∈an.getD m []
 | [],_,j,_,_,h=>by simp at h
 |_::_,[],_,_,h,_=>by simp[zAb]at h
 |x::ls,o::os,j,l,ha,h=>by
  simp only[zAb,J4]at ha;cases j with
  |zero=>
   simp at h;subst h;refine⟨o,by simp,fun k hk=>?_⟩;have:=Kh.1 ha.1 k hk;simpa using this
  |succ j=>
   obtain⟨o',h1,h2⟩:=zJx an ls os j l ha.2 (by simpa using h);exact⟨o',by simpa using h1,h2⟩
theorem zFe(Xs:List Stp):∀(Ys:List Stp)(j0:Nat)(an:List (List Nat))(j:Nat)(Y:Stp),jP Xs j0 an Ys=true→Ys[j]? =some Y→ ∀i X,i<j0+j→Xs[i]? =some X→i∈an.getD j []∨X.apart Y=true
 | [],_,_,j,_,_,h=>by simp at h
 |Z::Ys,j0,an,j,Y,hp,h=>by
  simp only[jP,J4]at hp;intro i X hi hX;cases j with
  |zero=>
   simp at h;subst h;have:=Kh.1 hp.1 i (by simpa using hi);simp only[hX,Bool.or_eq_true,Ly,decide_eq_true_eq]at this;rcases this with h|h
   ·left
    cases an with
    |nil=>simp at h
    |cons l an=>simpa using h
   ·exact .inr h
  |succ j=>
   rcases zFe Xs Ys (j0+1) an.tail j Y hp.2 (by simpa using h) i X (by omega) hX with h|h
   ·left
    cases an with
    |nil=>simp at h
    |cons l an=>simpa using h
   ·exact .inr h
section
variable {P:Program}{Γ:Ctx}{pn:jO}{ops:Array Oper}
def zQP(ops:Array Oper)(L:List Bool):Prop:=∀(i:Nat)(o:Oper),ops[i]? =some o→L[i]? =some true→ ∀m∈zBe o,L[m]? =some true
theorem zGS{L:List Bool}{an:List (List Nat)}(hf:zA9 0 ops.toList=true)(ha:zAb an an ops.toList=true)(hc:zQP ops L):
  ∀(n i:Nat),i≤n→ ∀o,ops[i]? =some o→(∀m∈zBe o,L[m]? =some true)→ ∀k∈an.getD i [],L[k]? =some true:=by
 intro n
 induction n with
 |zero=>
  intro i hi o ho hp k hk;have hi0:i=0:=by omega
  subst hi0;cases hl:an[0]? with
  |none=>simp[Ja3,hl]at hk
  |some l=>
   obtain⟨o',h1,h2⟩:=zJx an an ops.toList 0 l ha hl;rw[K7,ho]at h1;simp at h1;subst h1;simp only[Ja3,hl,Qh]at hk;rcases h2 k hk with h|⟨m,h,_⟩
   ·exact hp k h
   ·have:=zGk ops.toList 0 0 o hf (by rw[K7];exact ho) m h
    omega
 |succ n ih=>
  intro i hi o ho hp k hk;cases hl:an[i]? with
  |none=>simp[Ja3,hl]at hk
  |some l=>
   obtain⟨o',h1,h2⟩:=zJx an an ops.toList i l ha hl;rw[K7,ho]at h1;simp at h1;subst h1;simp only[Ja3,hl,Qh]at hk;rcases h2 k hk with h|⟨m,h,hkm⟩
   ·exact hp k h
   ·have hlt:=zGk ops.toList 0 i o hf (by rw[K7];exact ho) m h
    have hLm:=hp m h;cases hom:ops[m]? with
    |none=>
     have h4:=(Ki.1 ho).1;have:=Array.getElem?_eq_none_iff.1 hom;omega
    |some om=>exact ih m (by omega) om hom (hc m om hom hLm) k hkm
theorem zI6{L:List Bool}{Xs:List Stp}{i:Nat}{b:Bool}{X:Stp}(hL:L[i]? =some b)(hX:Xs[i]? =some X):L.zip Xs=(L.take i).zip (Xs.take i)++(b,X)::(L.drop (i+1)).zip (Xs.drop (i+1)):=by
 have h1:L=L.take i++b::L.drop (i+1):=by obtain⟨h,rfl⟩:=Jb.1 hL;simp
 have h2:Xs=Xs.take i++X::Xs.drop (i+1):=by obtain⟨h,rfl⟩:=Jb.1 hX;simp
 have h3:(L.take i).length=(Xs.take i).length:=by have:=(Jb.1 hL).1;have:=(Jb.1 hX).1;simp;omega
 conv=>lhs;rw[h1,h2]
 rw[List.zip_append h3,List.zip_cons_cons]
theorem zJy{L:List Bool}{Xs:List Stp}{y:Bool×Stp}(h:y∈L.zip Xs):∃j:Nat,L[j]? =some y.1∧Xs[j]? =some y.2:=by obtain⟨j,hj⟩:=Jaj.1 h;rw[List.getElem?_zip_eq_some]at hj;exact⟨j,hj⟩
def sP:Env→List Stp→Prop
 |_,[]=>True
 |E,X::Xs=>E.Has X.rd∧sP (E.apps X.l) Xs
theorem sP.get:∀(Xs:List Stp)(E:Env),sP E Xs→ ∀(i:Nat)(X:Stp),Xs[i]? =some X→(runD E ((Xs.take i).map fun y=>(true,y))).Has X.rd
 | [],_,_,i,_,h=>by simp at h
 |Y::Xs,E,hh,i,X,h=>by
  cases i with
  |zero=>simp at h;subst h;simpa[runD]using hh.1
  |succ i=>
   have:=sP.get Xs _ hh.2 i X (by simpa using h);simpa[runD]using this
theorem Stp.apart_spec{a b:Stp}(h:a.apart b=true):zFb a.l b.l=true∧(∀s∈a.slots,s∉b.rd.map (·.1))∧(∀s∈b.slots,s∉a.rd.map (·.1))∧ ∀x∈a.rd,∀y∈b.l,x.2.okB y.2=true:=by simp only[Stp.apart,J4]at h;refine⟨h.1.1.1,fun s hs=>zGQ h.1.1.2 hs,fun s hs=>zGQ h.1.2 hs,fun x hx y hy=>?_⟩;exact Kh.1 (Kh.1 h.2 x hx) y hy
theorem zPj{L:List Bool}:∀{i:Nat},L[i]? =some false→(L.set i true).count false+1=L.count false:=by
 induction L with
 |nil=>intro i h;simp at h
 |cons b L ih=>
  intro i h;cases i with
  |zero=>simp at h;subst h;simp
  |succ i=>
   have:=ih (i:=i) (by simpa using h);simp only[Lm,List.count_cons];omega
mutual
theorem zNU:(t:T)→t.okB []=true
 |.same _ _|.addr _ _|.sub _ _ _ _ _=>by simp[T.okB,kC]
 |.agg xs|.tup xs=>by simp only[T.okB];exact zKH xs
 |.any|.lit _|.ro _|.sl _ _|.ptr _=>by simp only[T.okB]
theorem zKH:(xs:List T)→zJe [] xs=true
 | []=>by simp only[zJe]
 |x::xs=>by simp only[zJe,zNU x,zKH xs,L8]
end
theorem Rep.heap{E:Env}{G:Gh}{tmps:Array Value}{w w':World}(h:Rep Γ E G tmps w)(hw:w'.heap=w.heap)(ho:w'.os=w.os:=by rfl)(hq:w'.output=w.output:=by rfl):Rep Γ E G tmps w' where
 size:=h.size
 ent s t hs:=Ent.keep (chg:=[]) ⟨fun _ _ _=>rfl,fun _ _ _=>rfl,fun b o f s p _ h _=>⟨h,by simp[yP,World.cell?,hw]⟩,fun _ _ _ h _=>h,fun b cs e h=>⟨cs,by rw[hw];exact h,rfl⟩⟩ (fun _ h=>by simp at h) (zNU t) (h.ent s t hs)
 mem:=by
  have hm:=h.mem;exact⟨hm.one,fun b o l hl=>by have:=hm.lb b o l hl;exact⟨by rw[hw];exact this.1,this.2⟩,fun b l hl=>by have:=hm.ow b l hl;exact⟨by rw[hw];exact this.1,this.2⟩,
   fun b x hx=>by rw[hw];exact hm.st b x hx,fun b h1 h2=>by rw[hw];exact hm.fr b h1 h2,by rw[hw];exact hm.sz,hm.bk.trans (fun b cs e hb=>⟨cs,by rw[hw];exact hb,rfl⟩) ho hq⟩
end
end Go.Ab

namespace Go.Ab
open Go
abbrev I(n:Int):T:=.lit (.int .i64 n)
abbrev B(b:Bool):T:=.lit (.bool b)
abbrev L{α:Type}(k:Nat)(f:α→T)(xs:List α):T:=.sl k (xs.map f)
theorem zP{P:Program}{t:TypeId}{ti:TypeInfo}(h:P.types[t]? =some ti):P.info? t=some ti:=by
 have h':=(Ki.1 h).1;simp[Tables.info?,h]
 try omega
def Ok(P:Program)(Γ:Ctx)(o:Oper)(E E':Env):Prop:=∀S,wN P (Γ.at S) o E E'
section
variable {P:Program}{Γ:Ctx}{pn:jO}{ops:Array Oper}{o:Oper}{os:List Oper}{E E':Env}{Q:Exit→Env→Prop}{d:Nat}
theorem RW.op(h:Ok P Γ o E E')(k:RW P Γ pn ops os E' Q)(hg:o.guard=none:=by rfl)(hp:pn.ok o.dst=true:=by rfl):RW P Γ pn ops (o::os) E Q:=RW.cons (zW.op h hg) k hp
def neD(x:Operand)(d:Nat):Bool:=match x with
 |.tmp s=>s != d
 |_=>true
theorem zEn{x:Operand}{d:Nat}(h:neD x d=true):∀s,x=.tmp s→s≠d:=by rintro s rfl;simpa[neD]using h
theorem zBf{t:T}(h:t.okTup=true):∀xs,t≠.tup xs:=by rintro xs rfl;simp[T.okTup]at h
abbrev mvB(Γ:Ctx)(x:Operand)(t:T)(d:Nat):Bool:=J7 d Γ.N&&t.okTup&&neD x d&&T.okB [(d,0)] (tG x t)
section
variable {x y:Operand}{t:T}{ty:TypeId}{ps:String}{af:Array Edge}{gd:Option (Nat×Bool)}
theorem yJ{a b:Nat}(h:J7 a b=true):a<b:=by simpa[Nat.blt_eq]using h
theorem zM5(hx:opT E x=some t)(sd:mvB Γ x t d=true):Ok P Γ ⟨some d,.move x,ty,ps,af,gd⟩ E (E.app [(d,some (tG x t))] [(d,0)]):=by simp only[mvB,J4]at sd;exact fun S=>zND x t (.inl rfl) rfl (yJ sd.1.1.1) hx (zBf sd.1.1.2) (zEn sd.1.2) sd.2
theorem zTK(hx:opT E x=some t)(sd:mvB Γ x t d=true):Ok P Γ ⟨some d,.assign x,ty,ps,af,gd⟩ E (E.app [(d,some (tG x t))] [(d,0)]):=by simp only[mvB,J4]at sd;exact fun S=>zND x t (.inr rfl) rfl (yJ sd.1.1.1) hx (zBf sd.1.1.2) (zEn sd.1.2) sd.2
def inR(n:Int):Bool:=decide (-9223372036854775808≤n)&&decide (n≤9223372036854775807)
theorem zCi{n:Int}(h:inR n=true):IntKind.i64.wrap n=n:=by
 simp only[inR,J4,decide_eq_true_eq]at h;have hb:IntKind.i64.bits=64:=rfl;have hs:IntKind.i64.signed=true:=rfl;simp only[IntKind.wrap,hb,hs,Bool.true_and]
 by_cases h0:0≤n
 ·have:n%2 ^ 64=n:=Ke h0 (by omega)
  rw[this];have h1:¬(n≥2 ^ (64-1)):=by omega
  simp;omega
 ·have:n%2 ^ 64=n+2 ^ 64:=by
   rw[←Un,Ke (by omega) (by omega)]
  rw[this];have h1:(n+2 ^ 64:Int)≥2 ^ (64-1):=by omega
  simp;omega
def rng(n:Int):Option Int:=if inR n then some n else none
theorem zCj{n m:Int}(h:rng n=some m):m=n∧inR n=true:=by
 unfold rng at h;split at h
 ·simp at h;exact⟨h.symm,by assumption⟩
 ·cases h
theorem qE{m n c:Int}{xt yt:TypeId}(hv:rng (m+n)=some c)(hx:opT E x=some (I m))(hy:opT E y=some (I n))(sd:J7 d Γ.N=true):Ok P Γ ⟨some d,.binOp .add xt x y yt,ty,ps,af,gd⟩ E (E.app [(d,some (I c))] [(d,0)]):=by obtain⟨rfl,h⟩:=zCj hv;exact fun S=>sB .add xt yt x y .i64 m n _ rfl rfl (yJ sd) hx hy (by simp only[zJg,zCi h])
theorem zKI{m n:Int}{xt yt:TypeId}(hx:opT E x=some (I m))(hy:opT E y=some (I n))(sd:J7 d Γ.N=true):Ok P Γ ⟨some d,.binOp .lss xt x y yt,ty,ps,af,gd⟩ E (E.app [(d,some (B (decide (m<n))))] [(d,0)]):=
 fun _S=>sB .lss xt yt x y .i64 m n _ rfl rfl (yJ sd) hx hy rfl
theorem zCk(k:Nat)(sd:J7 d Γ.N=true):Ok P Γ ⟨some d,.assign (.const (.slice none 0 0)),ty,ps,af,gd⟩ E (E.app [(d,some (.sl k []))] [(d,0)]):=
 fun _=>zKv k _ (.inr rfl) rfl rfl (yJ sd)
def xF(n:Int):Option Nat:=if 0≤n∧n≤68719476736 then some n.toNat else none
theorem zGT{n:Int}{m:Nat}(h:xF n=some m):n=(m:Int)∧m≤68719476736:=by
 unfold xF at h;split at h
 ·simp at h;omega
 ·cases h
class ElT (P:Program) (t:TypeId) (e:outParam TypeId) (ti:outParam TypeInfo) (k:outParam Nat) (u:outParam T):Prop where
 un:P.underlying t=some (.slice e)
 info:P.info? e=some ti
 zero:∃z,ti.zero=some z∧tK u=z.cells.toList
 size:ti.size=k
 pos:0<k
 zok:u.zOk=true
 us:u.size=k
 bytes:ti.bytes≤2048
theorem zVV{t e:TypeId}{ti:TypeInfo}{k:Nat}{u:T}{n m:Nat}{a b:Int}(ht:ElT P t e ti k u)(hn:xF a=some n)(hx:opT E x=some (I a))(hm:xF b=some m)(hy:opT E y=some (I b))(hnm:n≤m)(sd:J7 d Γ.N=true):
  Ok P Γ ⟨some d,.makeSlice t x y,ty,ps,af,gd⟩ E (E.app [(d,some (.sl k (J1 n u)))] [(d,0)]):=by
 obtain⟨rfl,h1⟩:=zGT hn;obtain⟨rfl,h2⟩:=zGT hm;obtain⟨z,hz,hv⟩:=ht.zero;exact fun S=>zTE t e ti z u k x y n m .i64 .i64 rfl rfl (yJ sd) ht.un ht.info hz ht.size ht.pos ht.zok hv ht.us (L6 ht.bytes (by decide)) hx hy hnm h2
end
end
end Go.Ab

namespace Go.Ab
open Go
def ixO{α:Type}(xs:List α)(i:Int):Option α:=if 0≤i then xs[i.toNat]? else none
theorem uN{α:Type}{xs:List α}{i:Int}{v:α}(h:ixO xs i=some v):0≤i∧xs[i.toNat]? =some v:=by
 unfold ixO at h;split at h
 ·exact⟨by assumption,h⟩
 ·cases h
def zAc:T→Bool
 |.same _ _=>false
 |_=>true
theorem tO{E:Env}{s r:Nat}{q:List Nat}{t u:T}(h1:E s=some (.same r q))(h2:E r=some t)(h3:t.get q.reverse=some u)(h4:zAc u=true):tH E (.tmp s)=some (r,q,u):=by
 have hg:∀t:T,t.get []=some t:=fun t=>by cases t<;>rfl
 cases u<;>simp[zAc]at h4<;>simp[tH,qA,h1,h2,h3,hg]
theorem wH{E:Env}{s:Nat}{t:T}(h1:E s=some t)(h4:zAc t=true):tH E (.tmp s)=some (s,[],t):=by
 have hg:∀t:T,t.get []=some t:=fun t=>by cases t<;>rfl
 cases t<;>simp[zAc]at h4<;>simp[tH,qA,h1,hg]
section
variable {P:Program}{Γ:Ctx}{E:Env}{d:Nat}{x y:Operand}{ty:TypeId}{ps:String}{af:Array Edge}{gd:Option (Nat×Bool)}
class zB4 (P:Program) (t:TypeId) (e:outParam TypeId) (ti:outParam TypeInfo) (k:outParam Nat):Prop where
 un:P.underlying t=some (.slice e)
 info:P.info? e=some ti
 size:ti.size=k
theorem zFf{α:Type}{t e:TypeId}{ti:TypeInfo}{r k:Nat}{q:List Nat}{f:α→T}{xs:List α}{v:α}{i:Int}(ht:zB4 P t e ti k)(hv:ixO xs i=some v)(hx:tH E x=some (r,q,L k f xs))(hy:opT E y=some (I i))(sd:J7 d Γ.N=true):
  Ok P Γ ⟨some d,.indexAddr t x y,ty,ps,af,gd⟩ E (E.app [(d,some (.addr r (i.toNat::q)))] [(d,0)]):=by
 obtain⟨h1,h2⟩:=uN hv;exact fun S=>zQy x y t e ti r q k _ .i64 i rfl rfl (yJ sd) ht.un ht.info ht.size hx hy h1 (by simpa using(Jb.1 h2).1)
theorem zBg{α:Type}{t e:TypeId}{ti:TypeInfo}{r k:Nat}{q:List Nat}{f:α→T}{xs:List α}{v:α}{i:Int}(ht:zB4 P t e ti k)(hv:ixO xs i=some v)(hx:tH E x=some (r,q,.ro (L k f xs)))(hy:opT E y=some (I i))(sd:J7 d Γ.N=true):
  Ok P Γ ⟨some d,.indexAddr t x y,ty,ps,af,gd⟩ E (E.app [(d,some (.ro (.ptr (f v))))] [(d,0)]):=by
 obtain⟨h1,h2⟩:=uN hv;exact fun S=>zQz x y t e ti r q k _ .i64 i _ rfl rfl (yJ sd) ht.un ht.info ht.size hx hy h1 (by simp[h2])
theorem zQQ{α:Type}{t e:TypeId}{r k:Nat}{q:List Nat}{f:α→T}{xs:List α}(hu:P.underlying t=some (.slice e))(hx:tH E x=some (r,q,L k f xs))(sd:J7 d Γ.N=true):
  Ok P Γ ⟨some d,.call { callee:=.builtin .len,args:=#[x],argTypes:=#[t] },ty,ps,af,gd⟩ E (E.app [(d,some (I xs.length))] [(d,0)]):=
 fun _=>zQx x t _ r q (L k f xs) xs.length rfl rfl (yJ sd) hu hx (by simp[zKp]) rfl
theorem zQR{α:Type}{t e:TypeId}{r k:Nat}{q:List Nat}{f:α→T}{xs:List α}(hu:P.underlying t=some (.slice e))(hx:tH E x=some (r,q,.ro (L k f xs)))(sd:J7 d Γ.N=true):
  Ok P Γ ⟨some d,.call { callee:=.builtin .len,args:=#[x],argTypes:=#[t] },ty,ps,af,gd⟩ E (E.app [(d,some (I xs.length))] [(d,0)]):=
 fun _=>zQx x t _ r q (.ro (L k f xs)) xs.length rfl rfl (yJ sd) hu hx (by simp[zKp]) rfl
structure zTL (P:Program) (t:TypeId) (u:T):Prop where
 h:∃ds ti,P.underlying t=some ds∧P.info? t=some ti∧zES ds= !u.single∧ti.size=u.size
theorem zX8{t:TypeId}{u:T}(ht:zTL P t u)(hx:opT E x=some (.ro (.ptr u)))(sd:J7 d Γ.N=true):Ok P Γ ⟨some d,.load t x,ty,ps,af,gd⟩ E (E.app [(d,some (roT u))] [(d,0)]):=by obtain⟨ds,ti,h1,h2,h3,h4⟩:=ht.h;exact fun S=>zMx x t ds ti u rfl rfl (yJ sd) h1 h2 h3 h4 hx
theorem zEo{t:TypeId}{u tr:T}{r:Nat}{q:List Nat}(ht:zTL P t u)(hx:opT E x=some (.addr r q))(hr:E r=some tr)(hg:tr.get q.reverse=some u)(sd:(J7 d Γ.N&&tr.locd q.reverse&&(r != d)&&T.okB [(d,0)] (cpT r u q))=true):
  Ok P Γ ⟨some d,.load t x,ty,ps,af,gd⟩ E (E.app [(d,some (cpT r u q))] [(d,0)]):=by
 obtain⟨ds,ti,h1,h2,h3,h4⟩:=ht.h;simp only[J4]at sd;exact fun S=>zTD x t ds ti r q tr u rfl rfl (yJ sd.1.1.1) h1 h2 h3 h4 hx hr hg sd.1.1.2 (by simpa using sd.1.2) sd.2
end
end Go.Ab

namespace Go.Ab
open Go
section
variable {P:Program}{Γ:Ctx}{E:Env}{x:Operand}{ty:TypeId}{ps:String}{af:Array Edge}{gd:Option (Nat×Bool)}
theorem yAl{t:TypeId}{ti:TypeInfo}{r s:Nat}{q:List Nat}{tr tr' u0:T}{v:Value}(hi:P.info? t=some ti)(hsz:ti.size=1)(hx:opT E x=some (.addr r q))(hr:E r=some tr)(hg:tr.get q.reverse=some u0)(hset:tr.set q.reverse (.lit v)=tr')(hy:E s=some (.lit v))
  (sd:(tr.single&&tr.locd q.reverse&&vC (.lit v) u0&&(r != s))=true):Ok P Γ ⟨none,.store t x (.tmp s),ty,ps,af,gd⟩ E (E.app [(r,some tr')] [(r,q.length)]):=by
 simp only[J4]at sd;subst hset;intro S;have:=zKz (P:=P) (Γ:=Γ.at S) (E:=E) (o:=⟨none,.store t x (.tmp s),ty,ps,af,gd⟩) t ti x (.tmp s) r q tr u0 (.slot s (.lit v)) rfl rfl hi (by rw[hsz];rfl) (by omega) hx hr sd.1.1.1 hg sd.1.1.2 sd.1.2 (.slot s _)
  ⟨fun s' t' h=>by simp at h;obtain⟨rfl,rfl⟩:=h;exact⟨hy,by simp[yD,yY],rfl⟩,fun u h=>by simp at h,by simp[xS,sL]⟩
 exact this
theorem zX9{t:TypeId}{ti:TypeInfo}{r:Nat}{q:List Nat}{tr tr' u0:T}{v:Value}(hi:P.info? t=some ti)(hsz:ti.size=1)(hx:opT E x=some (.addr r q))(hr:E r=some tr)(hg:tr.get q.reverse=some u0)(hset:tr.set q.reverse (.lit v)=tr')
  (sd:(tr.single&&tr.locd q.reverse&&vC (.lit v) u0&&(T.lit v).zOk)=true)(hz:tK (.lit v)=v.cells.toList):Ok P Γ ⟨none,.store t x (.const v),ty,ps,af,gd⟩ E (E.app [(r,some tr')] [(r,q.length)]):=by
 simp only[J4]at sd;subst hset;intro S;have:=zKz (P:=P) (Γ:=Γ.at S) (E:=E) (o:=⟨none,.store t x (.const v),ty,ps,af,gd⟩) t ti x (.const v) r q tr u0 (.zero (.lit v)) rfl rfl hi (by rw[hsz];rfl) (by omega) hx hr sd.1.1.1 hg sd.1.1.2 sd.1.2 (.zero v _ hz)
  ⟨fun s' t' h=>by simp at h,fun u h=>by simp at h;subst h;exact sd.2,by simp[xS]⟩
 exact this
end
end Go.Ab

namespace Go.Ab
open Go
theorem zM.tr{Γ:Ctx}{E:Env}(d r:Nat)(u:T)(hd:E d=some (.same r []))(hr:E r=some u)(huc:yD u)(sd:(u.single&&xY u&&u.okB [(d,1),(r,1)]&&(d != r))=true):
  zM Γ E (E.app [(d,some u),(r,some (.same d []))] [(d,1),(r,1)]):=by
 simp only[J4]at sd
 rintro a w ⟨S,hS,hs⟩
 have hne:d≠r:=by simpa using sd.2
 have hg:∀t:T,t.get []=some t:=fun t=>by cases t<;>rfl
 have:=zM1 hs d [] r [] (.same r []) u u hd rfl hr (hg u) sd.1.1.1 huc hne (by simp[T.okB,kC]) sd.1.2 rfl sd.1.1.2;exact⟨S,hS,this⟩
theorem zDE{α:Type}{f:α→T}(hf:∀x,yD (f x)):(xs:List α)→xH (xs.map f)
 | []=>trivial
 |x::xs=>⟨hf x,zDE hf xs⟩
theorem zNV{α:Type}{f:α→T}{k:Nat}{xs:List α}(hf:∀x,yD (f x)):yD (L k f xs):=by simp only[yD,yY];exact zDE hf xs
theorem zNW(n:Int):yD (I n):=by simp[yD,yY]
theorem zTM(b:Bool):yD (B b):=by simp[yD,yY]
end Go.Ab

namespace Go.Ab
open Go
section
variable {P:Program}{Γ:Ctx}{E:Env}{d:Nat}{x y:Operand}{ty:TypeId}{ps:String}{af:Array Edge}{gd:Option (Nat×Bool)}{m n c:Int}{xt yt:TypeId}
theorem zFM(hv:rng (m-n)=some c)(hx:opT E x=some (I m))(hy:opT E y=some (I n))(sd:J7 d Γ.N=true):Ok P Γ ⟨some d,.binOp .sub xt x y yt,ty,ps,af,gd⟩ E (E.app [(d,some (I c))] [(d,0)]):=by obtain⟨rfl,h⟩:=zCj hv;exact fun _=>sB .sub xt yt x y .i64 m n _ rfl rfl (yJ sd) hx hy (by simp only[zJg,zCi h])
theorem zQS(hv:rng (m*n)=some c)(hx:opT E x=some (I m))(hy:opT E y=some (I n))(sd:J7 d Γ.N=true):Ok P Γ ⟨some d,.binOp .mul xt x y yt,ty,ps,af,gd⟩ E (E.app [(d,some (I c))] [(d,0)]):=by obtain⟨rfl,h⟩:=zCj hv;exact fun _=>sB .mul xt yt x y .i64 m n _ rfl rfl (yJ sd) hx hy (by simp only[zJg,zCi h])
def uZ(m n:Int):Option Int:=if n=0 then none else rng (m.tdiv n)
def uJ(m n:Int):Option Int:=if n=0 then none else some (m.tmod n)
theorem zXA(hv:uZ m n=some c)(hx:opT E x=some (I m))(hy:opT E y=some (I n))(sd:J7 d Γ.N=true):Ok P Γ ⟨some d,.binOp .quo xt x y yt,ty,ps,af,gd⟩ E (E.app [(d,some (I c))] [(d,0)]):=by
 unfold uZ at hv;split at hv
 ·cases hv
 ·rename_i h0
  obtain⟨rfl,h⟩:=zCj hv;exact fun _=>sB .quo xt yt x y .i64 m n _ rfl rfl (yJ sd) hx hy (by simp only[zJg,h0,if_false,zCi h])
theorem zVf(hv:uJ m n=some c)(hx:opT E x=some (I m))(hy:opT E y=some (I n))(sd:J7 d Γ.N=true):Ok P Γ ⟨some d,.binOp .rem xt x y yt,ty,ps,af,gd⟩ E (E.app [(d,some (I c))] [(d,0)]):=by
 unfold uJ at hv;split at hv
 ·cases hv
 ·rename_i h0
  simp at hv;subst hv;exact fun _=>sB .rem xt yt x y .i64 m n _ rfl rfl (yJ sd) hx hy (by simp only[zJg,h0,if_false])
theorem zQT(hx:opT E x=some (I m))(hy:opT E y=some (I n))(sd:J7 d Γ.N=true):Ok P Γ ⟨some d,.binOp .leq xt x y yt,ty,ps,af,gd⟩ E (E.app [(d,some (B (decide (m≤n))))] [(d,0)]):=
 fun _=>sB .leq xt yt x y .i64 m n _ rfl rfl (yJ sd) hx hy rfl
theorem zQU(hx:opT E x=some (I m))(hy:opT E y=some (I n))(sd:J7 d Γ.N=true):Ok P Γ ⟨some d,.binOp .gtr xt x y yt,ty,ps,af,gd⟩ E (E.app [(d,some (B (decide (m> n))))] [(d,0)]):=
 fun _=>sB .gtr xt yt x y .i64 m n _ rfl rfl (yJ sd) hx hy rfl
theorem zNX(hx:opT E x=some (I m))(hy:opT E y=some (I n))(sd:J7 d Γ.N=true):Ok P Γ ⟨some d,.binOp .geq xt x y yt,ty,ps,af,gd⟩ E (E.app [(d,some (B (decide (m≥n))))] [(d,0)]):=
 fun _=>sB .geq xt yt x y .i64 m n _ rfl rfl (yJ sd) hx hy rfl
theorem zKJ(hx:opT E x=some (I m))(hy:opT E y=some (I n))(sd:J7 d Γ.N=true):Ok P Γ ⟨some d,.binOp .eql xt x y yt,ty,ps,af,gd⟩ E (E.app [(d,some (B (m==n)))] [(d,0)]):=
 fun _=>sB .eql xt yt x y .i64 m n _ rfl rfl (yJ sd) hx hy rfl
theorem zQV(hx:opT E x=some (I m))(hy:opT E y=some (I n))(sd:J7 d Γ.N=true):Ok P Γ ⟨some d,.binOp .neq xt x y yt,ty,ps,af,gd⟩ E (E.app [(d,some (B (m != n)))] [(d,0)]):=
 fun _=>sB .neq xt yt x y .i64 m n _ rfl rfl (yJ sd) hx hy rfl
theorem zXB{b:Bool}(hx:opT E x=some (B b))(sd:J7 d Γ.N=true):Ok P Γ ⟨some d,.unOp .not xt x,ty,ps,af,gd⟩ E (E.app [(d,some (B (!b)))] [(d,0)]):=
 fun _=>zVQ xt x b rfl rfl (yJ sd) hx
theorem zVg(hv:rng (0-n)=some c)(hx:opT E x=some (I n))(sd:J7 d Γ.N=true):Ok P Γ ⟨some d,.unOp .neg xt x,ty,ps,af,gd⟩ E (E.app [(d,some (I c))] [(d,0)]):=by
 obtain⟨rfl,h⟩:=zCj hv;have:=fun S=>zVR (P:=P) (Γ:=Γ.at S) (E:=E) (o:=⟨some d,.unOp .neg xt x,ty,ps,af,gd⟩) xt x .i64 n rfl rfl (yJ sd) hx
 rw[zCi h]at this;exact this
end
end Go.Ab

namespace Go.Ab
open Go
section
variable {P:Program}{Γ:Ctx}{E:Env}{d:Nat}{x y:Operand}{ty:TypeId}{ps:String}{af:Array Edge}{gd:Option (Nat×Bool)}
class zGa (P:Program) (t:TypeId) (u:outParam T):Prop where
 h:∃ti z,P.info? t=some ti∧ti.zero=some z∧u.zOk=true∧tK u=z.cells.toList∧z.cells.size=u.size
theorem zJz{t:TypeId}{u:T}(ht:zGa P t u)(sd:J7 d Γ.N=true):Ok P Γ ⟨some d,.alloc t,ty,ps,af,gd⟩ E (E.app [(d,some (.ptr u))] [(d,0)]):=by obtain⟨ti,z,h1,h2,h3,h4,h5⟩:=ht.h;exact fun S=>zQ7 t ti z u rfl rfl (yJ sd) h1 h2 h3 h4 h5
theorem zVh{s i:Nat}{ts:List T}{t:T}(hs:E s=some (.tup ts))(hi:ts[i]? =some t)(sd:(J7 d Γ.N&&t.okTup&&(s != d)&&T.okB [(d,0)] (cpT s t [i]))=true):
  Ok P Γ ⟨some d,.extract (.tmp s) i,ty,ps,af,gd⟩ E (E.app [(d,some (cpT s t [i]))] [(d,0)]):=by
 simp only[J4]at sd;exact fun S=>zMy s i ts t rfl rfl (yJ sd.1.1.1) hs hi (zBf sd.1.1.2) (by simpa using sd.1.2) sd.2
theorem zDF{t:T}(hx:opT E x=some t)(hp:zFF E x=true)(sd:mvB Γ x t d=true):Ok P Γ ⟨some d,.nilCheck x,ty,ps,af,gd⟩ E (E.app [(d,some (tG x t))] [(d,0)]):=by simp only[mvB,J4]at sd;exact fun S=>zVS x t rfl rfl (yJ sd.1.1.1) hx hp (zBf sd.1.1.2) (zEn sd.1.2) sd.2
theorem zM6{c:Operand}{b:Bool}{t:T}(hc:opT E c=some (B b))(hx:opT E (if b then x else y)=some t)(sd:mvB Γ (if b then x else y) t d=true):Ok P Γ ⟨some d,.pick c x y,ty,ps,af,gd⟩ E (E.app [(d,some (tG (if b then x else y) t))] [(d,0)]):=by simp only[mvB,J4]at sd;exact fun S=>zTA c x y b t rfl rfl (yJ sd.1.1.1) hc hx (zBf sd.1.1.2) (zEn sd.1.2) sd.2
theorem zVi{t:TypeId}{s:Nat}{u:T}(hs:E s=some u)(hu:yD u)(sd:(J7 d Γ.N&&u.okTup&&(s != d))=true):
  Ok P Γ ⟨some d,.box t (.tmp s),ty,ps,af,gd⟩ E (E.app ((d,some (.ptr u))::pWr d [.slot s u] 0) ((d,0)::sM [.slot s u])):=by
 simp only[J4]at sd;have hne:s≠d:=by simpa using sd.2
 refine fun S=>zVU t (.tmp s) (.slot s u) rfl rfl (yJ sd.1.1) (.slot s u) ⟨fun s' t' h=>by simp at h;obtain⟨rfl,rfl⟩:=h;exact⟨hs,hu,sd.1.2⟩,fun u h=>by simp at h,?_⟩
 simp only[xS];split<;>simp[Ne.symm hne]
end
end Go.Ab

namespace Go.Ab
open Go
def xU{α:Type}(xs ys:List α):Option (List α):=if xs.length+ys.length≤68719476736 then some (xs++ys)else none
theorem zFg{α:Type}{xs ys zs:List α}(h:xU xs ys=some zs):zs=xs++ys∧xs.length+ys.length≤68719476736:=by
 unfold xU at h;split at h
 ·simp at h;exact⟨h.symm,by assumption⟩
 ·cases h
section
variable {P:Program}{Γ:Ctx}{E:Env}{d:Nat}{x y:Operand}{ty:TypeId}{ps:String}{af:Array Edge}{gd:Option (Nat×Bool)}
theorem ElT.zsize{t e:TypeId}{ti:TypeInfo}{k:Nat}{u:T}(h:ElT P t e ti k u):∃z,ti.zero=some z∧z.cells.size=k:=by obtain⟨z,h1,h2⟩:=h.zero;exact⟨z,h1,by rw[←Kf,←h2,wV u h.zok,h.us]⟩
theorem zAr{α:Type}{t e:TypeId}{ti:TypeInfo}{k:Nat}{u:T}{f:α→T}{xs ys zs:List α}{s0 s1:Nat}(ht:ElT P t e ti k u)(hv:xU xs ys=some zs)(h0:E s0=some (L k f xs))(h1:E s1=some (L k f ys))(sd:(J7 d Γ.N&&(s0 != d)&&(s1 != d)&&(s1 != s0))=true):
  Ok P Γ ⟨some d,.call { callee:=.builtin .append,args:=#[.tmp s0,.tmp s1],argTypes:=#[t,t] },ty,ps,af,gd⟩ E (E.app [(d,some (L k f zs)),(s0,some .any),(s1,some .any)] [(d,0),(s0,1),(s1,1)]):=by
 obtain⟨rfl,hl⟩:=zFg hv;obtain⟨z,hz,hzk⟩:=ht.zsize;simp only[J4]at sd;intro S;have:=zJq (P:=P) (Γ:=Γ.at S) (E:=E) (o:=⟨some d,.call { callee:=.builtin .append,args:=#[.tmp s0,.tmp s1],argTypes:=#[t,t] },ty,ps,af,gd⟩) t e ti z k s0 s1 (xs.map f) (ys.map f) rfl rfl (yJ sd.1.1.1) ht.un ht.info hz ht.size ht.pos hzk ht.bytes h0 h1
  (by simpa using sd.1.1.2) (by simpa using sd.1.2) (by simpa using sd.2) (by simpa using hl)
 rw[←Ks]at this;exact this
theorem zI7{α:Type}{f:α→T}(hf:∀x,(f x).flat=true):(xs:List α)→kS (xs.map f)=true
 | []=>rfl
 |x::xs=>by simp only[Ju,kS,hf x,zI7 hf xs,L8]
theorem zM7{α:Type}{t e:TypeId}{ti:TypeInfo}{k r:Nat}{q:List Nat}{u:T}{f:α→T}{xs ys zs:List α}{s0:Nat}(ht:ElT P t e ti k u)(hf:∀x,(f x).flat=true)(hv:xU xs ys=some zs)(h0:E s0=some (L k f xs))(h1:tH E y=some (r,q,L k f ys))(sd:(J7 d Γ.N&&(s0 != d))=true):
  Ok P Γ ⟨some d,.call { callee:=.builtin .append,args:=#[.tmp s0,y],argTypes:=#[t,t] },ty,ps,af,gd⟩ E (E.app [(d,some (L k f zs)),(s0,some .any)] [(d,0),(s0,1)]):=by
 obtain⟨rfl,hl⟩:=zFg hv;obtain⟨z,hz,hzk⟩:=ht.zsize;simp only[J4]at sd;intro S;have:=zJr (P:=P) (Γ:=Γ.at S) (E:=E) (o:=⟨some d,.call { callee:=.builtin .append,args:=#[.tmp s0,y],argTypes:=#[t,t] },ty,ps,af,gd⟩) t e ti z k s0 y r q (xs.map f) (ys.map f) rfl rfl (yJ sd.1) ht.un ht.info hz ht.size ht.pos hzk ht.bytes h0 h1 (zI7 hf ys)
  (by simpa using sd.2) (by simpa using hl)
 rw[←Ks]at this;exact this
end
end Go.Ab

namespace Go.Ab
open Go
abbrev IK(k:IntKind)(n:Int):T:=.lit (.int k n)
abbrev Str(s:ByteArray):T:=.lit (.string s)
abbrev Pt{α:Type}(f:α→T)(x:α):T:=.ptr (f x)
abbrev Ro{α:Type}(f:α→T)(x:α):T:=.ro (f x)
abbrev A2{α:Type}(f:α→T)(x:α×α):T:=.agg [f x.1,f x.2]
theorem bd{α β:Type}{o:Option α}{f:α→Option β}{r:β}(h:o.bind f=some r):∃v,o=some v∧f v=some r:=by
 cases o with
 |none=>simp at h
 |some v=>exact⟨v,rfl,by simpa using h⟩
theorem cT{α:Type}{b:Bool}{x y:α}{z:α}(hc:b=true)(h:cond b x y=z):x=z:=by subst hc;exact h
theorem cF{α:Type}{b:Bool}{x y:α}{z:α}(hc:b=false)(h:cond b x y=z):y=z:=by subst hc;exact h
theorem sI{α:Type}{x y:α}(h:some x=some y):x=y:=Lb.inj h
section
variable {P:Program}{Γ:Ctx}{pn:jO}{E E':Env}{Q:Exit→Env→Prop}{c:Code}{id id':Nat}
theorem nA(h:CW P Γ pn c E Q):wB P Γ pn c Q .normal E:=h
theorem xA(h:Q (.exit id) E):wB P Γ pn c Q (.exit id) E:=h
theorem rA(h:Q .ret E):wB P Γ pn c Q .ret E:=h
theorem nB(h:Q .normal E):wF id Q .normal E:=h
theorem rB(h:Q .ret E):wF id Q .ret E:=h
theorem xB(h:Q .normal E):wF id Q (.exit id) E:=by simp only[wF,if_true];exact h
theorem neX:Exit.exit id≠.normal:=by intro h;cases h
theorem neR:Exit.ret≠.normal:=by intro h;cases h
theorem RW.cases{ops:Array Oper}{os:List Oper}(s:Nat)(b:Bool)(hb:E s=some (B b))(ht:b=true→RW P Γ pn ops os (E.app [(s,some (B true))] []) Q)(hf:b=false→RW P Γ pn ops os (E.app [(s,some (B false))] []) Q):RW P Γ pn ops os E Q:=by
 have key:∀c:Bool,b=c→zM Γ E (E.app [(s,some (B c))] []):=by
  rintro c rfl a w hs
  refine hs.weaken fun s' t h=>?_
  by_cases e:s=s'
  ·subst e
   simp[Env.app,Wr.find]at h;subst h;exact hb
  ·simp only[Env.app,Wr.find,e,if_false]at h
   cases he:E s' with
   |none=>simp[he]at h
   |some t'=>simp[he]at h;rw[h.2]
 cases hc:b with
 |true=>exact(ht hc).ghost (key true hc)
 |false=>exact(hf hc).ghost (key false hc)
end
theorem zT{α:Type}{k:Nat}{f:α→T}{xs:List α}{i:Int}{v:α}{p:List Nat}{u:T}(h:ixO xs i=some v)(hr:(f v).get p=some u):(L k f xs).get (i.toNat::p)=some u:=by simp[T.get,(uN h).2,hr]
theorem xC{t u:T}{p:List Nat}(h:t.get p=some u):(T.ptr t).get (0::p)=some u:=h
theorem yX{xs:List T}{x u:T}{j:Nat}{p:List Nat}(hj:xs[j]? =some x)(h:x.get p=some u):(T.agg xs).get (j::p)=some u:=by simp[T.get,hj,h]
theorem kG{α:Type}{k:Nat}{f:α→T}{xs:List α}{i:Int}{v w:α}{p:List Nat}{u:T}(h:ixO xs i=some v)(hr:(f v).set p u=f w):(L k f xs).set (i.toNat::p) u=L k f (xs.set i.toNat w):=by simp[L,T.set,(uN h).2,hr,Jb3]
theorem zAM{t u t':T}{p:List Nat}(h:t.set p u=t'):(T.ptr t).set (0::p) u=T.ptr t':=by simp[T.set,h]
theorem zFh{xs:List T}{x u x':T}{j:Nat}{p:List Nat}(hj:xs[j]? =some x)(h:x.set p u=x'):(T.agg xs).set (j::p) u=.agg (xs.set j x'):=by simp[T.set,hj,h]
class Enc {α:Type} (f:α→T):Prop where
 clean:∀x,yD (f x)
 rofree:∀x,vG (f x)=true
 strip:∀x,strip (f x)=f x
 okTup:∀x,(f x).okTup=true
 rook:∀x,zEY (f x)=true
theorem zGU{α:Type}{f:α→T}(h:∀x,vG (f x)=true):(xs:List α)→uE (xs.map f)=true
 | []=>rfl
 |x::xs=>by simp only[Ju,uE,h x,zGU h xs,L8]
theorem zGV{α:Type}{f:α→T}(h:∀x,zEY (f x)=true):(xs:List α)→zBb (xs.map f)=true
 | []=>rfl
 |x::xs=>by simp only[Ju,zBb,h x,zGV h xs,L8]
theorem tW{α:Type}{f g:α→T}(h:∀x,strip (f x)=g x):(xs:List α)→wU (xs.map f)=xs.map g
 | []=>rfl
 |x::xs=>by simp only[Ju,wU,h x,tW h xs]
instance:Enc I:=⟨zNW,fun _=>rfl,fun _=>rfl,fun _=>rfl,fun _=>rfl⟩
instance:Enc B:=⟨zTM,fun _=>rfl,fun _=>rfl,fun _=>rfl,fun _=>rfl⟩
instance{k:IntKind}:Enc (IK k):=⟨fun _=>by simp[yD,yY],fun _=>rfl,fun _=>rfl,fun _=>rfl,fun _=>rfl⟩
instance:Enc Str:=⟨fun _=>by simp[yD,yY],fun _=>rfl,fun _=>rfl,fun _=>rfl,fun _=>rfl⟩
instance{α:Type}{k:Nat}{f:α→T}[h:Enc f]:Enc (L k f):=
 ⟨fun _=>zNV h.clean,fun xs=>by simp only[vG];exact zGU h.rofree xs,fun xs=>by simp only[L,strip,tW h.strip xs],fun _=>rfl,fun xs=>by simp only[zEY,zGV h.rook xs]⟩
instance{α:Type}{f:α→T}[h:Enc f]:Enc (A2 f):=
 ⟨fun x=>by simp only[yD,yY,xW];exact⟨h.clean _,h.clean _,trivial⟩,fun x=>by simp only[vG,uE,h.rofree,L8],fun x=>by simp only[A2,strip,wU,h.strip],
  fun x=>by simp only[T.okTup,yR,h.okTup,L8],fun x=>by simp only[zEY,zBb,h.rook,L8]⟩
instance{α:Type}{f:α→T}[h:Enc f]:Enc (Pt f):=
 ⟨fun x=>by simp only[yD,yY];exact h.clean x,fun x=>by simp only[vG,h.rofree],fun x=>by simp only[Pt,strip,h.strip],fun _=>rfl,fun x=>by simp only[zEY,h.rook]⟩
class uO {α:Type} (f g:α→T):Prop where
 h:∀x,strip (f x)=g x
instance{α:Type}{f:α→T}[h:Enc f]:uO f f:=⟨h.strip⟩
instance{α:Type}{k:Nat}{f g:α→T}[h:uO f g]:uO (L k f) (L k g):=⟨fun xs=>by simp only[L,strip,tW h.h xs]⟩
instance{α:Type}{k:Nat}{g:α→T}:uO (Ro (L k g)) (L k g):=⟨fun _=>rfl⟩
instance{α:Type}{g:α→T}:uO (Ro (Pt g)) (Pt g):=⟨fun _=>rfl⟩
theorem stA{xs ys:List T}(h:wU xs=ys):strip (.agg xs)=.agg ys:=by simp only[strip,h]
theorem stC{x y:T}{xs ys:List T}(h:strip x=y)(h2:wU xs=ys):wU (x::xs)=y::ys:=by simp only[wU,h,h2]
section
variable {E:Env}{rw:Rw}{i s r:Nat}{q:List Nat}{x:Operand}
theorem zDh{α:Type}{k:Nat}{f g:α→T}{xs:List α}(h:uO f g):clo E (L k f xs)=.ro (L k g xs):=by simp only[clo,L,strip,tW h.h xs]
theorem zQW{t u:T}(h:strip t=u):clo E (.ptr t)=.ro (.ptr u):=by simp only[clo,strip,h]
theorem zCP{tr u:T}(hr:E r=some tr)(hg:tr.get q.reverse=some u)(h4:zAc u=true):qA E 4 r q=some (r,q,u):=by cases u<;>simp[zAc]at h4<;>simp[qA,hr,hg]
theorem zB5{α:Type}{k:Nat}{f g:α→T}{xs:List α}{tr:T}(hr:E r=some tr)(hg:tr.get q.reverse=some (L k f xs))(h:uO f g):clo E (.same r q)=.ro (L k g xs):=by simp only[clo,zCP hr hg rfl,T.single,if_true,L,strip,tW h.h xs]
theorem zXC{t u tr:T}(hr:E r=some tr)(hg:tr.get q.reverse=some (.ptr t))(h:strip t=u):clo E (.same r q)=.ro (.ptr u):=by simp only[clo,zCP hr hg rfl,T.single,if_true,strip,h]
theorem zVW{α:Type}{k l h:Nat}{f g:α→T}{xs:List α}{tr:T}(hr:E r=some tr)(hg:tr.get q.reverse=some (L k f xs))(hs:uO f g)(h1:l≤h)(h2:h≤xs.length):clo E (.sub r q k l h)=.ro (L k g ((xs.drop l).take (h-l))):=by simp only[clo,zCP hr hg rfl,L,tW hs.h xs,Jc,h1,h2,and_self,if_true,Jcy,Qq]
theorem zEp{xs ys:List T}(h:zAL E xs=ys):clo E (.agg xs)=.agg ys:=by simp only[clo,h]
theorem zFi:zAL E []=[]:=rfl
theorem jQ{x y:T}{xs ys:List T}(h:clo E x=y)(h2:zAL E xs=ys):zAL E (x::xs)=y::ys:=by simp only[zAL,h,h2]
mutual
theorem zI8(s:Nat):(t:T)→t.okTup=true→sC E [] s t=true
 |.agg xs,h=>by simp only[sC,T.okTup]at h ⊢;exact zGW s xs h
 |.tup _,h=>by simp[T.okTup]at h
 |.same r q,_|.sub r q _ _ _,_=>by simp only[sC];cases qA E 4 r q<;>simp
 |.sl _ _,_|.ptr _,_=>by simp[sC]
 |.lit _,_|.ro _,_|.any,_|.addr _ _,_=>by simp only[sC]
theorem zGW(s:Nat):(xs:List T)→yR xs=true→zAq E [] s xs=true
 | [],_=>rfl
 |x::xs,h=>by simp only[yR,J4]at h;simp only[zAq,zI8 s x h.1,zGW s xs h.2,L8]
end
theorem agC{u:T}(t:T)(h:opT E x=some t)(h1:clo E t=u)(h2:t.okTup=true):zBO E [] i x u:=.inr ⟨t,h,h1,by
 cases x with
 |tmp s=>exact zI8 s t h2
 |_=>rfl⟩
end
section
variable {P:Program}{Γ:Ctx}{E:Env}{d:Nat}{x y:Operand}{ty:TypeId}{ps:String}{af:Array Edge}{gd:Option (Nat×Bool)}
abbrev kT(res:List T):Prop:=xH res∧yR res=true∧uE res=true
theorem qQ:kT []:=⟨trivial,rfl,rfl⟩
theorem zA3{α:Type}{f:α→T}{x:α}{ts:List T}(h:Enc f)(h2:kT ts):kT (f x::ts):=
 ⟨⟨h.clean x,h2.1⟩,by simp only[yR,h.okTup,h2.2.1,L8],by simp only[uE,h.rofree,h2.2.2,L8]⟩
abbrev zAs(P:Program)(f:FuncId):Prop:=∀args w,(callFunc f args).run P w=.ok (.enter f args) w
theorem sN{f:FuncId}{xs:List Operand}{ats:Array TypeId}{us res:List T}(hcall:zAs P f)(hc:FnC P f us res [])(hargs:xZ E [] 0 xs us)(hres:kT res)(sd:J7 d Γ.N=true):
  Ok P Γ ⟨some d,.call { callee:=.value (.func f),args:=xs.toArray,argTypes:=ats },ty,ps,af,gd⟩ E (E.app (cWr d res []) (uI d [])):=
 fun _S=>zJv f (.func f) xs ats us res [] rfl rfl (yJ sd) hcall rfl hc hargs .nil hres
theorem zTN{f:FuncId}{xs:List Operand}{ats:Array TypeId}{us res:List T}(hcall:zAs P f)(hc:FnC P f us res [])(hlen:xs.length=us.length)(hargs:∀(i:Nat) u,us[i]? =some u→ ∃x,xs[i]? =some x∧opT E x=some u∧u.flat=true)(hres:xH res∧yR res=true)(sd:J7 d Γ.N=true):
  Ok P Γ ⟨some d,.call { callee:=.value (.func f),args:=xs.toArray,argTypes:=ats },ty,ps,af,gd⟩ E (E.app (cWr d res []) (uI d [])):=
 fun _S=>zQJ f (.func f) xs ats us res rfl rfl (yJ sd) hcall rfl hc hlen hargs hres
class sJ (P:Program) (S:TypeId) (j:Nat) (off:outParam Nat):Prop where
 h:∃fs f fi,P.underlying S=some (.struct fs)∧fs[j]? =some f∧P.info? f.type=some fi∧fi.size≠0∧off=f.offset
theorem zVX{S:TypeId}{j off r:Nat}{q:List Nat}{xs:List T}{u:T}(ht:sJ P S j off)(hx:tH E x=some (r,q,.ptr (.agg xs)))(hu:xs[j]? =some u)(hoff:T.sizes (xs.take j)=off)(sd:J7 d Γ.N=true):
  Ok P Γ ⟨some d,.fieldAddr S x j,ty,ps,af,gd⟩ E (E.app [(d,some (.addr r (j::0::q)))] [(d,0)]):=by
 obtain⟨fs,f,fi,h1,h2,h3,h4,h5⟩:=ht.h;exact fun _=>zX4 x S fs f fi j r q xs u rfl rfl (yJ sd) h1 h2 h3 h4 hx hu (by rw[hoff,h5])
theorem zBP{S:TypeId}{j off r:Nat}{q:List Nat}{t:T}{xs:List T}{u:T}(ht:sJ P S j off)(hx:opT E x=some (.addr r q))(hr:E r=some t)(hg:t.get q.reverse=some (.agg xs))(hu:xs[j]? =some u)(hoff:T.sizes (xs.take j)=off)(sd:(J7 d Γ.N&&t.locd q.reverse)=true):
  Ok P Γ ⟨some d,.fieldAddr S x j,ty,ps,af,gd⟩ E (E.app [(d,some (.addr r (j::q)))] [(d,0)]):=by
 obtain⟨fs,f,fi,h1,h2,h3,h4,h5⟩:=ht.h;simp only[J4]at sd;exact fun _=>zMv x S fs f fi j r q t xs u rfl rfl (yJ sd.1) h1 h2 h3 h4 hx hr hg sd.2 hu (by rw[hoff,h5])
theorem zQX{S:TypeId}{j off:Nat}{xs:List T}{u:T}(ht:sJ P S j off)(hx:opT E x=some (.ro (.ptr (.agg xs))))(hu:xs[j]? =some u)(hoff:T.sizes (xs.take j)=off)(sd:J7 d Γ.N=true):
  Ok P Γ ⟨some d,.fieldAddr S x j,ty,ps,af,gd⟩ E (E.app [(d,some (.ro (.ptr u)))] [(d,0)]):=by
 obtain⟨fs,f,fi,h1,h2,h3,h4,h5⟩:=ht.h;exact fun _=>zQ0 x S fs f fi j xs u rfl rfl (yJ sd) h1 h2 h3 h4 hx hu (by rw[hoff,h5])
def yB{α:Type}(xs:List α)(l h:Int):Option (List α):=if 0≤l∧l≤h∧h≤(xs.length:Int)then some ((xs.drop l.toNat).take (h.toNat-l.toNat))else none
theorem zCl{α:Type}{t e:TypeId}{ti:TypeInfo}{r k:Nat}{q:List Nat}{f:α→T}{xs ys:List α}{lo hi:Option Operand}{l h:Int}(ht:zB4 P t e ti k)(hv:yB xs l h=some ys)(hx:tH E x=some (r,q,.ro (L k f xs)))(hlo:zB1 E lo 0 l.toNat)(hhi:zB1 E hi xs.length h.toNat)(sd:J7 d Γ.N=true):
  Ok P Γ ⟨some d,.slice t x lo hi none,ty,ps,af,gd⟩ E (E.app [(d,some (.ro (L k f ys)))] [(d,0)]):=by
 unfold yB at hv;split at hv
 ·rename_i hc
  simp at hv;subst hv;intro S;have:=zKt (P:=P) (Γ:=Γ.at S) (E:=E) (o:=⟨some d,.slice t x lo hi none,ty,ps,af,gd⟩) x lo hi t e ti r q k (xs.map f) l.toNat h.toNat rfl rfl (yJ sd) ht.un ht.info ht.size hx hlo (by simpa using hhi) (by omega) (by simp;omega);simpa[L,Jcy,Qq]using this
 ·cases hv
theorem zQY{α:Type}{t e:TypeId}{ti:TypeInfo}{r k:Nat}{q:List Nat}{f:α→T}{xs ys:List α}{lo hi:Option Operand}{l h:Int}(ht:zB4 P t e ti k)(hv:yB xs l h=some ys)(hx:tH E x=some (r,q,L k f xs))(hlo:zB1 E lo 0 l.toNat)(hhi:zB1 E hi xs.length h.toNat)(sd:(J7 d Γ.N&&(r != d))=true):
  Ok P Γ ⟨some d,.slice t x lo hi none,ty,ps,af,gd⟩ E (E.app [(d,some (.sub r q k l.toNat h.toNat))] [(d,0)]):=by
 unfold yB at hv;simp only[J4]at sd;split at hv
 ·rename_i hc
  intro S;exact zJi (P:=P) (Γ:=Γ.at S) (E:=E) (o:=⟨some d,.slice t x lo hi none,ty,ps,af,gd⟩) x lo hi t e ti r q k (xs.map f) l.toNat h.toNat rfl rfl (yJ sd.1) ht.un ht.info ht.size hx hlo (by simpa using hhi) (by omega) (by simp;omega) (by simpa using sd.2)
 ·cases hv
end
end Go.Ab

namespace Go.Ab
open Go
theorem zB{t:T}(h:yD t):yD t:=h
theorem zK{α:Type}{f:α→T}{k:Nat}{xs:List α}(hf:∀x,yD (f x)):yD (L k f xs):=zNV hf
theorem wI{t:T}(h:yD t):yD (.ptr t):=by simpa only[yD,yY]using h
theorem yK{xs:List T}(h:xH xs):yD (.agg xs):=by simpa only[yD,yY]using h
section
variable {P:Program}{Γ:Ctx}{pn:jO}{E E':Env}{Q:Exit→Env→Prop}{c c1 c2:Code}{x:Operand}
theorem CW.condT(hx:opT E x=some (B true))(h:CW P Γ pn c1 E Q):CW P Γ pn (.cond x c1 c2) E Q:=CW.cond true hx (fun _=>h) (fun h=>by cases h)
theorem CW.condF(hx:opT E x=some (B false))(h:CW P Γ pn c2 E Q):CW P Γ pn (.cond x c1 c2) E Q:=CW.cond false hx (fun h=>by cases h) (fun _=>h)
theorem CW.casesB(b:Bool)(ht:b=true→CW P Γ pn c E Q)(hf:b=false→CW P Γ pn c E Q):CW P Γ pn c E Q:=by
 cases h:b with
 |true=>exact ht h
 |false=>exact hf h
theorem sE{wr:Wr}{chg:Chg}{s:Nat}{t:T}(h:E s=some t)(hf:wr.find s=none:=by rfl)(hb:t.okB chg=true:=by rfl):E.app wr chg s=some t:=by simp[Env.app,hf,h,hb]
theorem zW.gh{ops:Array Oper}{o:Oper}{E1:Env}(hg:zM Γ E E1)(h:zW P Γ ops o E1 E'):zW P Γ ops o E E':=fun a w K Q hs hK=>h a w K Q (hg a w hs) hK
theorem zGX{t:T}(h:opT E x=some (.ro (.ptr t))):zFF E x=true:=by simp[zFF,h]
theorem zI9{r:Nat}{q:List Nat}{t:T}(h:tH E x=some (r,q,.ptr t)):zFF E x=true:=by
 unfold zFF;split
 ·rfl
 ·rfl
 ·simp[h]
end
theorem zKK{E:Env}{n:Nat}:zB1 E none n (n:Int).toNat:=by simp[zB1]
theorem zNY{E:Env}:zB1 E none 0 (0:Int).toNat:=by simp[zB1]
theorem zEq{E:Env}{x:Operand}{n:Int}{d:Nat}(h0:0≤n)(h:opT E x=some (I n)):zB1 E (some x) d n.toNat:=⟨.i64,by rw[h];simp;omega⟩
theorem sO{α:Type}{xs ys:List α}{l h:Int}(hv:yB xs l h=some ys):0≤l∧l≤h∧h≤xs.length∧ys=(xs.drop l.toNat).take (h.toNat-l.toNat):=by
 unfold yB at hv;split at hv
 ·rename_i hc;simp at hv;exact⟨hc.1,hc.2.1,hc.2.2,hv.symm⟩
 ·cases hv
theorem sQ{α:Type}{xs ys:List α}{l h:Int}(hv:yB xs l h=some ys):0≤l:=(sO hv).1
theorem zAi{α:Type}{xs ys:List α}{l h:Int}(hv:yB xs l h=some ys):0≤h:=by have:=sO hv;omega
theorem zTO{E:Env}{r k:Nat}{q:List Nat}{α:Type}{l h:Int}{f g:α→T}{xs ys:List α}{tr:T}(hr:E r=some tr)(hg:tr.get q.reverse=some (L k f xs))(hs:uO f g)(hv:yB xs l h=some ys):
  clo E (.sub r q k l.toNat h.toNat)=.ro (L k g ys):=by
 obtain⟨h1,h2,h3,rfl⟩:=sO hv;exact zVW hr hg hs (by omega) (by omega)
section
variable {P:Program}{Γ:Ctx}{E E':Env}{d:Nat}{x y:Operand}{ty:TypeId}{ps:String}{af:Array Edge}{gd:Option (Nat×Bool)}
theorem zFj{o:Oper}{e b:Bool}{d:Nat}{wr:Wr}{chg:Chg}(he:e=b)(h:Ok P Γ o E (E.app ((d,some (B e))::wr) chg)):Ok P Γ o E (E.app ((d,some (B b))::wr) chg):=he▸h
theorem zXD{t:TypeId}{u tr t0:T}{r:Nat}{q:List Nat}(ht:zTL P t u)(hx:tH E x=some (r,q,.ptr t0))(hr:E r=some tr)(hg:tr.get (0::q).reverse=some u)(sd:(J7 d Γ.N&&tr.locd (0::q).reverse&&(r != d)&&T.okB [(d,0)] (cpT r u (0::q)))=true):
  Ok P Γ ⟨some d,.load t x,ty,ps,af,gd⟩ E (E.app [(d,some (cpT r u (0::q)))] [(d,0)]):=by
 obtain⟨ds,ti,h1,h2,h3,h4⟩:=ht.h;simp only[J4]at sd;exact fun S=>zKq x t ds ti r (0::q) tr u rfl rfl (yJ sd.1.1.1) h1 h2 h3 h4 (zA7.ptr hx) hr hg sd.1.1.2 (by simpa using sd.1.2) sd.2
theorem zVj{t:TypeId}{ti:TypeInfo}{r s:Nat}{q:List Nat}{tr tr' u0 u:T}(hi:P.info? t=some ti)(hsz:(ti.size==u.size&&J7 0 ti.size)=true)(hx:∀S,zA7 (Γ.at S) E x r q)(hr:E r=some tr)(hg:tr.get q.reverse=some u0)(hset:tr.set q.reverse u=tr')(hy:E s=some u)(hu:yD u)
  (sd:(tr.single&&tr.locd q.reverse&&vC u u0&&(r != s)&&u.okTup)=true):Ok P Γ ⟨none,.store t x (.tmp s),ty,ps,af,gd⟩ E (E.app ((r,some tr')::sWr r q (.slot s u)) ((r,q.length)::sM [.slot s u])):=by
 simp only[J4]at sd hsz;subst hset;intro S;refine zEX (P:=P) (Γ:=Γ.at S) (E:=E) (o:=⟨none,.store t x (.tmp s),ty,ps,af,gd⟩) t ti x (.tmp s) r q tr u0 (.slot s u) rfl rfl hi (by simpa[yS.tree]using hsz.1) (yJ hsz.2) (hx S) hr sd.1.1.1.1 hg sd.1.1.1.2 sd.1.1.2 (.slot s _)
  ⟨fun s' t' h=>by simp at h;obtain⟨rfl,rfl⟩:=h;exact⟨hy,hu,sd.2⟩,fun u h=>by simp at h,?_⟩
 have:r≠s:=by simpa using sd.1.2
 simp only[xS];split<;>simp[this]
theorem zDG{t:TypeId}{ti:TypeInfo}{r s:Nat}{q:List Nat}{tr tr' u0 u:T}(hi:P.info? t=some ti)(hsz:(ti.size==u.size&&J7 0 ti.size)=true)(hx:opT E x=some (.addr r q))(hr:E r=some tr)(hg:tr.get q.reverse=some u0)(hset:tr.set q.reverse u=tr')(hy:E s=some u)(hu:yD u)
  (sd:(tr.single&&tr.locd q.reverse&&vC u u0&&(r != s)&&u.okTup)=true):Ok P Γ ⟨none,.store t x (.tmp s),ty,ps,af,gd⟩ E (E.app ((r,some tr')::sWr r q (.slot s u)) ((r,q.length)::sM [.slot s u])):=
 zVj hi hsz (fun _=>zA7.addr hx) hr hg hset hy hu sd
theorem vX{t:TypeId}{ti:TypeInfo}{r s:Nat}{q:List Nat}{tr tr' u0 u t0:T}(hi:P.info? t=some ti)(hsz:(ti.size==u.size&&J7 0 ti.size)=true)(hx:tH E x=some (r,q,.ptr t0))(hr:E r=some tr)(hg:tr.get (0::q).reverse=some u0)(hset:tr.set (0::q).reverse u=tr')(hy:E s=some u)(hu:yD u)
  (sd:(tr.single&&tr.locd (0::q).reverse&&vC u u0&&(r != s)&&u.okTup)=true):Ok P Γ ⟨none,.store t x (.tmp s),ty,ps,af,gd⟩ E (E.app ((r,some tr')::sWr r (0::q) (.slot s u)) ((r,(0::q).length)::sM [.slot s u])):=
 zVj hi hsz (fun _=>zA7.ptr hx) hr hg hset hy hu sd
theorem zVY{t:TypeId}{ti:TypeInfo}{r:Nat}{q:List Nat}{tr tr' u0 u:T}{v:Value}(hi:P.info? t=some ti)(hsz:(ti.size==u.size&&J7 0 ti.size)=true)(hx:∀S,zA7 (Γ.at S) E x r q)(hr:E r=some tr)(hg:tr.get q.reverse=some u0)(hset:tr.set q.reverse u=tr')
  (sd:(tr.single&&tr.locd q.reverse&&vC u u0&&u.zOk)=true)(hz:tK u=v.cells.toList):Ok P Γ ⟨none,.store t x (.const v),ty,ps,af,gd⟩ E (E.app [(r,some tr')] [(r,q.length)]):=by
 simp only[J4]at sd hsz;subst hset;intro S;have:=zEX (P:=P) (Γ:=Γ.at S) (E:=E) (o:=⟨none,.store t x (.const v),ty,ps,af,gd⟩) t ti x (.const v) r q tr u0 (.zero u) rfl rfl hi (by simpa[yS.tree]using hsz.1) (yJ hsz.2) (hx S) hr sd.1.1.1 hg sd.1.1.2 sd.1.2 (.zero v _ hz)
  ⟨fun s' t' h=>by simp at h,fun u h=>by simp at h;subst h;exact sd.2,by simp[xS]⟩
 exact this
theorem zFk{t:TypeId}{ti:TypeInfo}{r:Nat}{q:List Nat}{tr tr' u0 u:T}{v:Value}(hi:P.info? t=some ti)(hsz:(ti.size==u.size&&J7 0 ti.size)=true)(hx:opT E x=some (.addr r q))(hr:E r=some tr)(hg:tr.get q.reverse=some u0)(hset:tr.set q.reverse u=tr')
  (sd:(tr.single&&tr.locd q.reverse&&vC u u0&&u.zOk)=true)(hz:tK u=v.cells.toList):Ok P Γ ⟨none,.store t x (.const v),ty,ps,af,gd⟩ E (E.app [(r,some tr')] [(r,q.length)]):=
 zVY hi hsz (fun _=>zA7.addr hx) hr hg hset sd hz
theorem zGY{G:Gh}{s:Nat}:(xs:List T)→yR xs=true→ ∀(p:List Nat)(i j:Nat)(u:T),xs[j]? =some u→ ∃l1 l2,yF G s xs p i=l1++vals G s u ((i+j)::p)++l2∧l1.length=T.sizes (xs.take j)
 | [],_,_,_,_,_,h=>by simp at h
 |x::xs,ht,p,i,j,u,h=>by
  simp only[yR,J4]at ht;cases j with
  |zero=>simp at h;subst h;exact⟨[],yF G s xs p (i+1),by simp[yF],by simp[T.sizes]⟩
  |succ j=>
   obtain⟨l1,l2,h1,h2⟩:=zGY xs ht.2 p (i+1) j u (by simpa using h);refine⟨vals G s x (i::p)++l1,l2,by rw[yF,h1,show i+(j+1)=i+1+j from by omega];simp[Ja],?_⟩;rw[J5,wS x _ (by rintro ys rfl;simp[T.okTup]at ht),h2,K9,T.sizes]
theorem zXE{S:TypeId}{j off s:Nat}{xs:List T}{u:T}(ht:sJ P S j off)(hv:∃ds ti fs f,P.underlying S=some (.struct fs)∧fs[j]? =some f∧P.underlying f.type=some ds∧P.info? f.type=some ti∧zES ds= !u.single∧ti.size=u.size)(hx:E s=some (.agg xs))(hu:xs[j]? =some u)(hoff:T.sizes (xs.take j)=off)
  (sd:(J7 d Γ.N&&yR xs&&u.okTup&&(s != d)&&T.okB [(d,0)] (cpT s u [j]))=true):
  Ok P Γ ⟨some d,.field S (.tmp s) j,ty,ps,af,gd⟩ E (E.app [(d,some (cpT s u [j]))] [(d,0)]):=by
 obtain⟨fs,f,fi,h1,h2,h3,h4,h5⟩:=ht.h;obtain⟨ds,ti,fs',f',g1,g2,g3,g4,g5,g6⟩:=hv;simp only[J4]at sd;rw[h1]at g1;simp at g1;subst g1;rw[h2]at g2;simp at g2;subst g2;rw[h3]at g4;simp at g4;subst g4;intro S';refine wN.value rfl fun a w G hrep=>?_
 obtain⟨k1,k2,_⟩:=hrep.ent s _ hx;simp only[R]at k2;have k3:=zAI xs [] 0 j u k2 hu;simp only[Jf]at k3;have hne:s≠d:=by simpa using sd.1.2
 have hnt:∀ys,u≠.tup ys:=zBf sd.1.1.2;have hk:=G.put_keep (w:=w) (w':=w) rfl d (fun z=>G.hd s (z++[j]));have hz:∀z,(G.put d (fun z=>G.hd s (z++[j]))).hd d (z++[])=G.hd s (z++[j]):=fun z=>by rw[Gh.put_self,J9]
 refine⟨tZ G s u [j],w,?_,_,vJ hrep rfl (yJ sd.1.1.1.1) (fun z=>G.hd s (z++[j])) (fun z=>hrep.mem.one _ _) _ _ (zAn u [j] [] hnt hz).symm
  (zD3 (fun p=>G.put_other _ p hne) u [j] [] hz hnt (hk.keepR (kY _ (qL s u [j]) sd.2)) k3) (qL s u [j])⟩
 obtain⟨l1,l2,e1,e2⟩:=zGY (G:=G) (s:=s) xs sd.1.1.1.2 [] 0 j u hu;simp only[Jf]at e1;have e3:l1.length=f.offset:=by rw[e2,hoff,h5]
 have e4:=wS (G:=G) (s:=s) u [j] hnt;have hpart:(part f.type (yF G s xs [] 0).toArray f.offset).run P w=.ok (tZ G s u [j]) w:=by
  rw[e1];cases u with
  |agg ys=>
   simp[T.single]at g5;simp only[vals,T.size]at e4 g6 ⊢
   simp[part,jL g3,g5,sizeOf,typeInfo,h3,tZ];rw[←e3,g6,←e4];simp
  |tup ys=>exact absurd rfl (hnt ys)
  |_=>
   simp[T.single]at g5;simp[part,jL g3,g5,tZ,vals,←e3]
 simp[execOp,wK k1,mkV,Instr.field,run_underlying h1,h2,asAgg,hpart]
theorem zCQ{α:Type}{t e:TypeId}{ti:TypeInfo}{k:Nat}{u:T}{n:Nat}{a:Int}{f:α→T}{z:α}(ht:ElT P t e ti k u)(hz:f z=u)(hn:xF a=some n)(hx:opT E x=some (I a))(hy:opT E y=some (I a))(sd:J7 d Γ.N=true):
  Ok P Γ ⟨some d,.makeSlice t x y,ty,ps,af,gd⟩ E (E.app [(d,some (L k f (J1 n z)))] [(d,0)]):=by
 have:=zVV (P:=P) (Γ:=Γ) (E:=E) (d:=d) (ty:=ty) (ps:=ps) (af:=af) (gd:=gd) ht hn hx hn hy (Jp _) sd;rw[←hz]at this;simpa[L]using this
theorem zGZ{t e:TypeId}{ti:TypeInfo}{k:Nat}{u:T}(ht:ElT P t e ti k u)(sd:J7 d Γ.N=true):Ok P Γ ⟨some d,.buildSlice t 0 #[],ty,ps,af,gd⟩ E (E.app [(d,some (.sl k []))] [(d,0)]):=
 fun _=>zGC t e ti k rfl rfl (yJ sd) ht.un ht.info
theorem zKL(t:TypeId)(x y:Value):Op.equal t x y=Op.equalIn (9999+1) t x y:=rfl
theorem zGl{P:Program}{w:World}{t:TypeId}{k:IntKind}{a b:Int}(n:Nat)(h:P.underlying t=some (.int k)):(Op.equalIn (n+1) t (.int k a) (.int k b)).run P w=.ok (a==b) w:=by simp only[Op.equalIn,Sem.run_bind,run_underlying h];simp
end
end Go.Ab

namespace Go.Ab
open Go
def zB6:List Nat→Bool
 | []=>true
 |x::xs=> !xs.contains x&&zB6 xs
theorem zFl:{l:List Nat}→zB6 l=true→l.Nodup
 | [],_=>by simp
 |x::xs,h=>by simp only[zB6,J4,G5,Ly,decide_eq_false_iff_not]at h;exact Ll.2 ⟨h.1,zFl h.2⟩
def zB7(E:Env):List yS→Prop
 | []=>True
 |.slot s t::l=>(E s=some t∧yD t∧t.okTup=true)∧zB7 E l
 |.zero u::l=>u.zOk=true∧zB7 E l
theorem zB7.get{E:Env}:(l:List yS)→zB7 E l→(∀s t,yS.slot s t∈l→E s=some t∧yD t∧t.okTup=true)∧ ∀u,yS.zero u∈l→u.zOk=true
 | [],_=>⟨fun _ _ h=>by simp at h,fun _ h=>by simp at h⟩
 |.slot s t::l,h=>by
  obtain⟨h1,h2⟩:=zB7.get l h.2;exact⟨fun s' t' hm=>by
   rcases Jd.1 hm with e|hm
   ·cases e;exact h.1
   ·exact h1 s' t' hm,fun u hm=>by
   rcases Jd.1 hm with e|hm
   ·cases e
   ·exact h2 u hm⟩
 |.zero u::l,h=>by
  obtain⟨h1,h2⟩:=zB7.get l h.2;exact⟨fun s' t' hm=>by
   rcases Jd.1 hm with e|hm
   ·cases e
   ·exact h1 s' t' hm,fun u' hm=>by
   rcases Jd.1 hm with e|hm
   ·cases e;exact h.1
   ·exact h2 u' hm⟩
section
variable {E:Env}
theorem pkN:zB7 E []:=trivial
theorem pkS{s:Nat}{t:T}{l:List yS}(h:E s=some t)(hc:yD t)(h3:t.okTup=true)(hl:zB7 E l):zB7 E (.slot s t::l):=⟨⟨h,hc,h3⟩,hl⟩
theorem pkZ{u:T}{l:List yS}(h:u.zOk=true)(hl:zB7 E l):zB7 E (.zero u::l):=⟨h,hl⟩
theorem zB7.parts{d:Nat}{l:List yS}(h:zB7 E l)(hn:zB6 (d::xS l)=true):tN E d l:=⟨(zB7.get l h).1,(zB7.get l h).2,zFl hn⟩
def zBV(E:Env)(zs:List T)(ps:List yS):List (Nat×Operand)→List (Nat×yS)→Prop
 | [],[]=>True
 |x::xs,q::qs=>(x.1=q.1∧kO E x.2 q.2∧ps[q.1]? =some q.2∧ ∃u,zs[q.1]? =some u∧u.size=q.2.tree.size)∧zBV E zs ps xs qs
 |_,_=>False
theorem bqN{zs:List T}{ps:List yS}:zBV E zs ps [] []:=trivial
theorem bqC{zs:List T}{ps:List yS}{i:Nat}{x:Operand}{q:yS}{xs:List (Nat×Operand)}{qs:List (Nat×yS)}(h:kO E x q)(hl:zBV E zs ps xs qs)(h1:ps[i]? =some q:=by rfl)(h2:∃u,zs[i]? =some u∧u.size=q.tree.size:=by exact⟨_,rfl,rfl⟩):zBV E zs ps ((i,x)::xs) ((i,q)::qs):=⟨⟨rfl,h,h1,h2⟩,hl⟩
theorem zBV.ix{zs:List T}{ps:List yS}:(pl:List (Nat×Operand))→(qs:List (Nat×yS))→zBV E zs ps pl qs→pl.map (·.1)=qs.map (·.1)
 | [],[],_=>rfl
 |x::xs,q::qs,h=>by simp[h.1.1,zBV.ix xs qs h.2]
 | [],_::_,h=>by simp[zBV]at h
 |_::_,[],h=>by simp[zBV]at h
theorem zBV.get{zs:List T}{ps:List yS}:(pl:List (Nat×Operand))→(qs:List (Nat×yS))→zBV E zs ps pl qs→ ∀(j:Nat)(x:Nat×Operand)(q:Nat×yS),pl[j]? =some x→qs[j]? =some q→kO E x.2 q.2∧q.2∈ps∧ ∃u,zs[q.1]? =some u∧u.size=q.2.tree.size
 | [],[],_,j,_,_,h,_=>by simp at h
 |x::xs,q::qs,h,j,x',q',h1,h2=>by
  cases j with
  |zero=>simp at h1 h2;subst h1;subst h2;exact⟨h.1.2.1,Kd h.1.2.2.1,h.1.2.2.2⟩
  |succ j=>exact zBV.get xs qs h.2 j x' q' (by simpa using h1) (by simpa using h2)
 | [],_::_,h,_,_,_,_,_=>by simp[zBV]at h
 |_::_,[],h,_,_,_,_,_=>by simp[zBV]at h
end
class zGb (P:Program) (t:TypeId) (zs:outParam (List T)):Prop where
 h:∃(place:Nat→Option (Nat×Nat))(z:Value),(∀parts,P.built t parts=Instr.fill place z.cells parts)∧sA zs=z.cells.toList∧zAa zs=true∧ ∀i u,zs[i]? =some u→place i=some (T.sizes (zs.take i),u.size)
section
variable {P:Program}{Γ:Ctx}{E E':Env}{d:Nat}{x y:Operand}{ty:TypeId}{ps:String}{af:Array Edge}{gd:Option (Nat×Bool)}
theorem qZ{t:TypeId}{zs:List T}{pa:Array (Nat×Operand)}(hb:zGb P t zs)(pl:List (Nat×Operand))(qs:List (Nat×yS))(pp:List yS)(hok:zB7 E pp)(hq:zBV E zs pp pl qs)(sd:(J7 d Γ.N&&zB6 (d::xS pp))=true)
  (hpa:pa=pl.toArray:=by rfl)(hps:qs.foldl (fun ps q=>ps.set q.1 q.2) (zs.map yS.zero)=pp:=by rfl):Ok P Γ ⟨some d,.build t pa,ty,ps,af,gd⟩ E (E.app ((d,some (.agg (pp.map yS.tree)))::pWr d pp 0) ((d,0)::sM pp)):=by
 obtain⟨place,z,h1,h2,h3,h4⟩:=hb.h;simp only[J4]at sd;subst hpa;exact fun S=>zQ8 t place z zs pl qs pp rfl rfl (yJ sd.1) h1 h2 h3 h4 hps (hok.parts sd.2) (zBV.ix _ _ hq) (zBV.get _ _ hq)
def zKM(k:Nat):List yS→Bool
 | []=>true
 |p::l=>(p.tree.size==k)&&zKM k l
theorem zKN{k:Nat}:(l:List yS)→zKM k l=true→ ∀p∈l,p.tree.size=k
 | [],_,_,h=>by simp at h
 |p::l,h,q,hm=>by
  simp only[zKM,J4,beq_iff_eq]at h;rcases Jd.1 hm with rfl|hm
  ·exact h.1
  ·exact zKN l h.2 q hm
theorem zBW{α:Type}{t e:TypeId}{ti:TypeInfo}{k n:Nat}{u:T}{pa:Array (Nat×Operand)}(ht:ElT P t e ti k u)(xs:List Operand)(pp:List yS)(ys:List α)(f:α→T)(hx:uD E xs pp)(hok:zB7 E pp)
  (sd:(J7 d Γ.N&&zB6 (d::xS pp)&&zKM k pp&&J7 0 n&&Nat.ble (n*k) 65536)=true)(hn:xs.length=n)(hpa:pa=((xs.zipIdx 0).map fun x=>(x.2,x.1)).toArray:=by rfl)(hy:pp.map yS.tree=ys.map f:=by rfl):
  Ok P Γ ⟨some d,.buildSlice t n pa,ty,ps,af,gd⟩ E (E.app ((d,some (L k f ys))::pWr d pp 0) ((d,0)::sM pp)):=by
 obtain⟨z,hz,_⟩:=ht.zero;simp only[J4]at sd;subst hpa;intro S;have hle:n*k≤65536:=by simpa[Nat.ble_eq]using sd.2
 have:=zIa (P:=P) (Γ:=Γ.at S) (E:=E) (o:=⟨some d,.buildSlice t n ((xs.zipIdx 0).map fun x=>(x.2,x.1)).toArray,ty,ps,af,gd⟩) t e ti z k n xs pp rfl rfl (yJ sd.1.1.1.1) ht.un ht.info hz ht.size ht.pos hn (yJ sd.1.2) (by omega) hx (hok.parts sd.1.1.1.2) (zKN pp sd.1.1.2);rw[hy]at this;exact this
theorem zKO{α:Type}{f g:α→T}(h:∀y,roT (g y)=f y):(ys:List α)→roT.roTs (ys.map g)=ys.map f
 | []=>rfl
 |y::ys=>by simp only[Ju,roT.roTs,h y,zKO h ys]
theorem zDH{α:Type}{t e:TypeId}{ti:TypeInfo}{k r:Nat}{q:List Nat}{u:T}{f g:α→T}{xs ys zs:List α}{s0:Nat}(ht:ElT P t e ti k u)(hfg:∀y,roT (g y)=f y)(hsz:∀y,(g y).size=k)(hg:Enc g)(hv:xU xs ys=some zs)(h0:E s0=some (L k f xs))(h1:tH E y=some (r,q,.ro (L k g ys)))(sd:(J7 d Γ.N&&(s0 != d))=true):
  Ok P Γ ⟨some d,.call { callee:=.builtin .append,args:=#[.tmp s0,y],argTypes:=#[t,t] },ty,ps,af,gd⟩ E (E.app [(d,some (L k f zs)),(s0,some .any)] [(d,0),(s0,1)]):=by
 obtain⟨rfl,hl⟩:=zFg hv;obtain⟨z,hz,hzk⟩:=ht.zsize;simp only[J4]at sd;intro S;have:=zJs (P:=P) (Γ:=Γ.at S) (E:=E) (o:=⟨some d,.call { callee:=.builtin .append,args:=#[.tmp s0,y],argTypes:=#[t,t] },ty,ps,af,gd⟩) t e ti z k s0 y r q (xs.map f) (ys.map g) rfl rfl (yJ sd.1) ht.un ht.info hz ht.size ht.pos hzk ht.bytes h0 h1 (zGV hg.rook ys)
  (by intro v hv;obtain⟨y,_,rfl⟩:=Jt.1 hv;exact hsz y) (by simpa using sd.2) (by simpa using hl)
 rw[zKO hfg,←Ks]at this;exact this
def uA{α:Type}(xs:List α)(m:Int)(z:α):Option (List α):=if 0≤m∧xs.length+m.toNat≤68719476736 then some (xs++J1 m.toNat z)else none
theorem zVZ{α:Type}{t t2 e:TypeId}{k2:IntKind}{ti:TypeInfo}{k:Nat}{u:T}{f:α→T}{z:α}{xs zs:List α}{s0:Nat}{m:Int}(ht:ElT P t e ti k u)(ht2:P.underlying t2=some (.int k2))(hz:f z=u)(hv:uA xs m z=some zs)(h0:E s0=some (L k f xs))(h1:opT E y=some (I m))(sd:(J7 d Γ.N&&(s0 != d))=true):
  Ok P Γ ⟨some d,.call { callee:=.builtin .append,args:=#[.tmp s0,y],argTypes:=#[t,t2] },ty,ps,af,gd⟩ E (E.app [(d,some (L k f zs)),(s0,some .any)] [(d,0),(s0,1)]):=by
 unfold uA at hv;split at hv
 ·rename_i hc
  simp at hv;subst hv;obtain⟨zv,hz1,hz2⟩:=ht.zero;simp only[J4]at sd;obtain⟨n,rfl⟩:∃n:Nat,m=n:=⟨m.toNat,by omega⟩;intro S;have:=zGL (P:=P) (Γ:=Γ.at S) (E:=E) (o:=⟨some d,.call { callee:=.builtin .append,args:=#[.tmp s0,y],argTypes:=#[t,t2] },ty,ps,af,gd⟩) t t2 e k2 ti zv u k s0 y .i64 n (xs.map f) rfl rfl (yJ sd.1) ht.un ht2 ht.info hz1 ht.size ht.pos ht.bytes ht.zok hz2 ht.us h0 h1
   (by simpa using sd.2) (by simp at hc ⊢;omega)
  have e:xs.map f++J1 n u=(xs++J1 n z).map f:=by simp[hz]
  rw[e]at this;have h2:((n:Int)).toNat=n:=by simp
  rw[h2];exact this
 ·cases hv
end
section
variable {Γ:Ctx}{E:Env}
theorem zM.trq(d r:Nat)(q:List Nat){tr u tr':T}(hd:E d=some (.same r q))(hr:E r=some tr)(hg:tr.get q.reverse=some u)(huc:yD u)(sd:(u.single&&xY tr&&tr.okB [(d,1),(r,q.length+1)]&&(d != r))=true)(hset:(if q=[]then .same d []else tr.set q.reverse .any)=tr':=by rfl):
  zM Γ E (E.app [(d,some u),(r,some tr')] [(d,1),(r,q.length+1)]):=by
 simp only[J4]at sd
 rintro a w ⟨S,hS,hs⟩
 have hne:d≠r:=by simpa using sd.2
 have:=zM1 hs d [] r q (.same r q) tr u hd rfl hr hg sd.1.1.1 huc hne (by simp[T.okB,kC,hne]) sd.1.2 rfl sd.1.1.2;subst hset;exact⟨S,hS,this⟩
theorem zM.trf(d:Nat)(g:List Nat)(r:Nat)(q:List Nat)(td tr:T){u td' tr':T}(hd:E d=some td)(hgd:td.get g.reverse=some (.same r q))(hr:E r=some tr)(hg:tr.get q.reverse=some u)(hset:td.set g.reverse u=td')(huc:yD u)
  (sd:(u.single&&xY td&&xY tr&&td.okB [(d,g.length+1),(r,q.length+1)]&&tr.okB [(d,g.length+1),(r,q.length+1)]&&(d != r))=true)(hset2:(if q=[]then .same d g else tr.set q.reverse .any)=tr':=by rfl):
  zM Γ E (E.app [(d,some td'),(r,some tr')] [(d,g.length+1),(r,q.length+1)]):=by
 simp only[J4]at sd
 rintro a w ⟨S,hS,hs⟩
 have hne:d≠r:=by simpa using sd.2
 have:=zM1 hs d g r q td tr u hd hgd hr hg sd.1.1.1.1.1 huc hne sd.1.1.2 sd.1.2 sd.1.1.1.1.2 sd.1.1.1.2;subst hset hset2;exact⟨S,hS,this⟩
theorem zM.frz{α:Type}(s:Nat){k:Nat}{f g:α→T}(xs:List α)(hs:E s=some (L k f xs))(h:uO f g):zM Γ E (E.app [(s,some (.ro (L k g xs)))] [(s,1)]):=by have:=zM.freeze (Γ:=Γ) s _ hs;simp only[vQ,strip,tW h.h xs]at this;exact this
theorem zM.res(d r:Nat)(q:List Nat)(tr:T){u:T}(hd:E d=some (.same r q))(hr:E r=some tr)(hg:tr.get q.reverse=some (.ro u)):zM Γ E (E.app [(d,some (.ro u))] []):=by
 rintro a w ⟨S,hS,hdf,G,hrep⟩
 refine⟨S,hS,hdf,G,?_⟩;have hk:qP [] G w G w:=⟨fun _ _ _=>rfl,fun _ _ _=>rfl,fun _ _ _ _ _ _ h _=>⟨h,rfl⟩,fun _ _ _ h _=>h,fun b cs e h=>⟨cs,h,rfl⟩⟩;refine vF hrep rfl hk hrep.mem (fun s _=>⟨fun n hn=>by simp at hn,rfl⟩) fun s t hs=>?_
 simp only[Wr.find]at hs;split at hs
 ·rename_i e;subst e
  simp at hs;subst hs;obtain⟨h1,h2,_⟩:=hrep.ent d _ hd;obtain⟨_,h4,_⟩:=hrep.ent r _ hr;simp only[R]at h2;have h5:=(zA5 q.reverse tr _ [] h4 hg).1;simp only[rp,Km,J9,R]at h5;exact⟨by rw[h1];rfl,by simp only[R];rw[h2];exact h5,by simp[Top]⟩
 ·cases hs
end
theorem zJ0:(p:List Nat)→ ∀(t u0 a:T),t.get p=some u0→(t.set p a).get p=some a
 | [],t,_,a,_=>by cases t<;>cases a<;>rfl
 |i::p,t,u0,a,h=>by
  cases t with
  |sl k xs|agg xs|tup xs=>
   simp only[T.get,T.set]at h ⊢
   cases hx:xs[i]? with
   |none=>rw[hx]at h;cases h
   |some x=>
    rw[hx]at h;have hi:=(Jb.1 hx).1;simp only[];simp only[T.get,Uq hi];exact zJ0 p x u0 a h
  |ptr t=>
   simp only[T.get,T.set]at h ⊢
   split at h
   ·rename_i e;subst e;simp only[if_true,T.get];exact zJ0 p t u0 a h
   ·cases h
  |_=>simp[T.get]at h
theorem set_set:(p:List Nat)→ ∀(t u0 a b:T),t.get p=some u0→(t.set p a).set p b=t.set p b
 | [],t,_,a,_,_=>by cases t<;>cases a<;>rfl
 |i::p,t,u0,a,b,h=>by
  cases t with
  |sl k xs|agg xs|tup xs=>
   simp only[T.get,T.set]at h ⊢
   cases hx:xs[i]? with
   |none=>rw[hx]at h;cases h
   |some x=>
    rw[hx]at h;have hi:=(Jb.1 hx).1;simp only[];simp only[T.set,Uq hi,Jd5,set_set p x u0 a b h]
  |ptr t=>
   simp only[T.get,T.set]at h ⊢
   split at h
   ·rename_i e;subst e;simp only[if_true,T.set,set_set p t u0 a b h]
   ·cases h
  |_=>simp[T.get]at h
def zAN:T→Bool
 |.sl _ _|.ptr _=>true
 |_=>false
theorem zQZ{t:T}(h:zAN t=true)(p:List Nat){u:T}(hp:p≠[]):zAN (t.set p u)=true:=by
 cases p with
 |nil=>exact absurd rfl hp
 |cons i p=>cases t<;>simp[zAN]at h<;>simp only[T.set]<;>split<;>rfl
theorem uW{t:T}(h:zAN t=true)(chg:Chg):t.okB chg=true∧xY t=true∧t.single=true:=by cases t<;>simp[zAN]at h<;>simp[T.okB,xY,T.single]
section
variable {P:Program}{Γ:Ctx}{E E':Env}{d:Nat}{ty:TypeId}{ps:String}{af:Array Edge}{gd:Option (Nat×Bool)}
theorem agM{E:Env}{rw:Rw}{i:Nat}{x:Operand}{u:T}(t:T)(h:opT E x=some t)(h1:clo E t=u)(h2:zIy E (rw.map (·.2.1)) x t=true):zBO E rw i x u:=.inr ⟨t,h,h1,h2⟩
theorem zDI{E:Env}{rw:Rw}{i s:Nat}{u u':T}(h:E s=some u)(hc:yD u)(hr:vG u=true)(hs:u.okTup=true:=by rfl)(hm:(i,s,u')∈rw:=by exact List.mem_singleton.2 rfl):zBO E rw i (.tmp s) u:=.inl ⟨s,u',rfl,hm,h,hc,hs,hr⟩
abbrev vY(E:Env)(ds r:Nat)(q:List Nat)(tr u:T):Env:=E.app [(ds,some u),(r,some (if q=[]then .same ds []else tr.set q.reverse .any))] [(ds,1),(r,q.length+1)]
theorem zCR{f:FuncId}{xs:List Operand}{ats:Array TypeId}{us res:List T}{tr u u' tr':T}(i ds r:Nat)(q:List Nat)(hcall:zAs P f)(hc:FnC P f us res [(i,u')])(hs:E ds=some (.same r q))(hr:E r=some tr)(hq:tr.get q.reverse=some u)
  (huc:yD u)(huc':yD u')(_:vG u=true)(hrf':vG u'=true)(hargs:xZ (vY E ds r q tr u) [(i,ds,u')] 0 xs us)(hres:kT res)(hset:tr.set q.reverse u'=tr')
  (sd:(J7 d Γ.N&&(d != ds)&&(d != r)&&(ds != r)&&zAN u&&zAN u'&&zAN tr)=true)(hx:xs[i]? =some (.tmp ds))(hu:us[i]? =some u):
  Ok P Γ ⟨some d,.call { callee:=.value (.func f),args:=xs.toArray,argTypes:=ats },ty,ps,af,gd⟩ E ((((vY E ds r q tr u).app (cWr d res [(i,ds,u')]) (uI d [(i,ds,u')]))).app [(r,some tr'),(ds,some (.same r q))] [(r,q.length+1),(ds,1)]):=by
 simp only[J4]at sd;obtain⟨⟨⟨⟨⟨⟨s1,s2⟩,s3⟩,s4⟩,s5⟩,s6⟩,s7⟩:=sd;have d1:d≠ds:=by simpa using s2
 have d2:d≠r:=by simpa using s3
 have d3:ds≠r:=by simpa using s4
 obtain⟨u1,u2,u3⟩:=uW s5 [];obtain⟨v1,v2,v3⟩:=uW s6 [];have hlv:cLv u'=1:=by simp[cLv,v3]
 subst hset;intro S
 by_cases hq0:q=[]
 ·subst hq0
  have htu:tr=u:=by
   have:tr.get []=some tr:=by cases tr<;>rfl
   simp only[Lg]at hq;rw[this]at hq;exact Lb.inj hq
  subst htu;have hset0:∀a b:T,a.set [] b=b:=fun a b=>by cases a<;>rfl
  have hE1:(vY E ds r [] tr tr) ds=some tr:=by simp[vY,Env.app,Wr.find]
  have hE2r:((vY E ds r [] tr tr).app (cWr d res [(i,ds,u')]) (uI d [(i,ds,u')])) r=some (.same ds []):=by
   have h1:(vY E ds r [] tr tr) r=some (.same ds []):=by simp[vY,Env.app,Wr.find,d3]
   have h2:(cWr d res [(i,ds,u')]).find r=none:=by simp[cWr,Wr.find,d2,d3]
   have h3:(T.same ds []).okB (uI d [(i,ds,u')])=true:=by simp[T.okB,kC,uI,d1,hlv]
   simp only[Env.app,h2,h1,h3,if_true]
  have hE2d:((vY E ds r [] tr tr).app (cWr d res [(i,ds,u')]) (uI d [(i,ds,u')])) ds=some u':=by simp[Env.app,Wr.find,cWr,d1]
  have:=zKD (P:=P) (Γ:=Γ.at S) (E:=E) (o:=⟨some d,.call { callee:=.value (.func f),args:=xs.toArray,argTypes:=ats },ty,ps,af,gd⟩) f (.func f) xs ats us res i ds r [] tr tr u' rfl rfl (yJ s1) hcall rfl hs hr hq u3 huc d3 d2 (uW s7 _).1 (uW s7 []).2.1
   (vY E ds r [] tr tr) _ rfl rfl hc hargs (.one d1 hx huc' v3 hrf' hE1 u3 hu) hres (.same ds []) (.same ds []) hE2r rfl rfl hE2d huc' v3 (by simp[T.okB,kC]) rfl (uW s6 _).1 v2
  rw[Lg,hset0]at this ⊢
  exact this
 ·have hqr:q.reverse≠[]:=by simpa using hq0
  have hE1:(vY E ds r q tr u) ds=some u:=by simp[vY,Env.app,Wr.find]
  have hSP:=zQZ s7 q.reverse (u:=.any) hqr;have hE2r:((vY E ds r q tr u).app (cWr d res [(i,ds,u')]) (uI d [(i,ds,u')])) r=some (tr.set q.reverse .any):=by
   have h1:(vY E ds r q tr u) r=some (tr.set q.reverse .any):=by simp[vY,Env.app,Wr.find,d3,hq0]
   have h2:(cWr d res [(i,ds,u')]).find r=none:=by simp[cWr,Wr.find,d2,d3]
   simp[Env.app,h2,h1,(uW hSP _).1]
  have hE2d:((vY E ds r q tr u).app (cWr d res [(i,ds,u')]) (uI d [(i,ds,u')])) ds=some u':=by simp[Env.app,Wr.find,cWr,d1]
  have:=zKD (P:=P) (Γ:=Γ.at S) (E:=E) (o:=⟨some d,.call { callee:=.value (.func f),args:=xs.toArray,argTypes:=ats },ty,ps,af,gd⟩) f (.func f) xs ats us res i ds r q tr u u' rfl rfl (yJ s1) hcall rfl hs hr hq u3 huc d3 d2 (uW s7 _).1 (uW s7 []).2.1
   (vY E ds r q tr u) _ rfl rfl hc hargs (.one d1 hx huc' v3 hrf' hE1 u3 hu) hres (tr.set q.reverse .any) .any hE2r (zJ0 _ _ _ _ hq) rfl hE2d huc' v3 (uW hSP _).1 (uW hSP []).2.1 (uW s6 _).1 v2
  rw[set_set _ _ _ _ _ hq]at this;exact this
theorem zGm{f:FuncId}{xs:List Operand}{ats:Array TypeId}{us res:List T}{xf:Operand}(hf:opT E xf=some (.lit (.func (.func f) #[] #[])))(hcall:zAs P f)(hc:FnC P f us res [])(hargs:xZ E [] 0 xs us)(hres:kT res)(sd:J7 d Γ.N=true):
  Ok P Γ ⟨some d,.call { callee:=.value xf,args:=xs.toArray,argTypes:=ats },ty,ps,af,gd⟩ E (E.app (cWr d res []) (uI d [])):=
 fun _=>zJv f xf xs ats us res [] rfl rfl (yJ sd) hcall hf hc hargs .nil hres
def zCm(E:Env):List Operand→List T→Prop
 | [],[]=>True
 |x::xs,u::us=>(opT E x=some u∧u.flat=true)∧zCm E xs us
 |_,_=>False
theorem afN:zCm E [] []:=trivial
theorem afC{x:Operand}{xs:List Operand}{u:T}{us:List T}(h:opT E x=some u)(h1:u.flat=true)(h2:zCm E xs us):zCm E (x::xs) (u::us):=⟨⟨h,h1⟩,h2⟩
theorem zCm.get:(xs:List Operand)→(us:List T)→zCm E xs us→ ∀(i:Nat) u,us[i]? =some u→ ∃x,xs[i]? =some x∧opT E x=some u∧u.flat=true
 | [],[],_,i,u,h=>by simp at h
 |x::xs,v::us,h,i,u,hi=>by
  cases i with
  |zero=>simp at hi;subst hi;exact⟨x,by simp,h.1⟩
  |succ i=>obtain⟨y,h1,h2⟩:=zCm.get xs us h.2 i u (by simpa using hi);exact⟨y,by simpa using h1,h2⟩
 | [],_::_,h,_,_,_=>by simp[zCm]at h
 |_::_,[],h,_,_,_=>by simp[zCm]at h
theorem kA{f:FuncId}{xs:List Operand}{ats:Array TypeId}{us res:List T}(hcall:zAs P f)(hc:FnC P f us res [])(ha:zCm E xs us)(hlen:xs.length=us.length)(hres:xH res)(hres2:yR res=true)(sd:J7 d Γ.N=true):
  Ok P Γ ⟨some d,.call { callee:=.value (.func f),args:=xs.toArray,argTypes:=ats },ty,ps,af,gd⟩ E (E.app (cWr d res []) (uI d [])):=
 zTN hcall hc hlen (zCm.get _ _ ha) ⟨hres,hres2⟩ sd
end
noncomputable def zDu {α:Type} (g:Nat→Option α):Option α:=
 open Classical in if h:∃r,∃n,∀m,n≤m→g m=some r then some h.choose else none
theorem jR{α:Type}{g:Nat→Option α}{r:α}(h:zDu g=some r):∃n,g n=some r:=by
 unfold zDu at h;split at h
 ·rename_i he
  simp at h;obtain⟨n,hn⟩:=he.choose_spec;exact⟨n,by rw[←h];exact hn n (Jp _)⟩
 ·cases h
theorem zBh{α:Type}{g:Nat→Option α}{r:α}(n:Nat)(h:∀m,n≤m→g m=some r):zDu g=some r:=by have he:∃r,∃n,∀m,n≤m→g m=some r:=⟨r,n,h⟩;unfold zDu;rw[dif_pos he];obtain⟨n',hn'⟩:=he.choose_spec;have h1:=h (max n n') (by omega);have h2:=hn' (max n n') (by omega);rw[h1]at h2;exact h2.symm
end Go.Ab

namespace Go.Ab
open Go
section
variable {P:Program}{Γ:Ctx}{ops:Array Oper}{o:Oper}{E:Env}
theorem zW.skipW{d:Nat}(hd:o.dst=some d)(sd:J7 d Γ.N=true)(hw:∀(a:Act)(w:World),qX Γ E a w→Region.wanted o (yielded ops a.tmps)=false):zW P Γ ops o E (E.app [(d,some (.tup []))] [(d,0)]):=by
 intro a w K Q hs hK;rw[if_neg (by simp[hw a w hs])];obtain⟨S,hS,hdf,G,hrep⟩:=hs;refine hK _ _ ⟨S,hS,by rw[hd];exact hdf,G.put d (fun _=>.bool false),?_⟩ ?_
 ·rw[hd]
  have hu:(Value.bool false).oneCell'=true:=rfl;refine vF hrep (by simp[Act.put]) (G.put_keep rfl d _) (hrep.mem.put rfl d _ fun _=>hu) ?_ ?_
  ·intro s hs
   rw[tR]at hs;split at hs
   ·cases hs
   ·rename_i hne
    refine⟨fun n hn=>hne (by simp at hn;exact hn.1.symm),?_⟩;simp[Act.put,H1 hne]
  ·intro s t' hs
   rw[tR]at hs;split at hs
   ·rename_i e;subst e
    simp at hs;subst hs;have hsz:=hrep.size;have hlt:=yJ sd;refine⟨?_,by simp[R,RF],by simp[Top,vL]⟩;have:d<a.tmps.size:=by rw[hsz];exact hlt
    simp[Act.put,mkV,qW,undef,this]
   ·cases hs
 ·intro s hs
  rw[hd]at hs ⊢
  have:d≠s:=fun e=>hs (by rw[e])
  simp[Act.put,H1 this]
theorem zW.skip2{d:Nat}(g:Nat)(b b':Bool)(s:Nat)(hd:o.dst=some d)(sd:J7 d Γ.N=true)(hbb:(b==b')=false)(hg:o.guard=some (g,b))(hgo:(ops[g]?).bind (·.dst)=some s)(hb:E s=some (.lit (.bool b'))):
  zW P Γ ops o E (E.app [(d,some (.tup []))] [(d,0)]):=.skipW hd sd fun a w hs=>by
 simp only[Region.wanted,hg,zGP hs hgo hb];cases b<;>cases b'<;>simp_all
theorem zW.skip3{d:Nat}(g:Nat)(b:Bool)(s:Nat)(hd:o.dst=some d)(sd:J7 d Γ.N=true)(hg:o.guard=some (g,b))(hgo:(ops[g]?).bind (·.dst)=some s)(hb:E s=some (.tup [])):
  zW P Γ ops o E (E.app [(d,some (.tup []))] [(d,0)]):=.skipW hd sd fun a w hs=>by
 obtain⟨_,_,_,G,hr⟩:=hs;obtain⟨h1,_,_⟩:=hr.ent s _ hb;simp only[Region.wanted,hg,yielded,hgo,Option.bind_some,h1,mkV,qW];rfl
theorem zW.opE{E1 E':Env}(h:Ok P Γ o E E1)(e:E1=E')(hg:o.guard=none:=by rfl):zW P Γ ops o E E':=e▸zW.op h hg
theorem zW.guardE{E1 E':Env}(g:Nat)(b:Bool)(s:Nat)(h:Ok P Γ o E E1)(hg:o.guard=some (g,b))(hgo:(ops[g]?).bind (·.dst)=some s)(hb:E s=some (.lit (.bool b)))(e:E1=E'):zW P Γ ops o E E':=e▸zW.guard g b s h hg hgo hb
end
def tA(Γ:Ctx)(P:Program)(rs:Array ResultVar)(us res:List T)(rws:List (Nat×T)):Exit→Env→Prop:=fun e E=> ∃E',zM Γ E E'∧zX7 P rs us res rws e E'
theorem FnC.of_bodyG{P:Program}{f:FuncId}{fn:Func}{c:Code}{us res:List T}{rws:List (Nat×T)}(hf:P.funcs[f]? =some fn)(hb:fn.body=some c)(hn:us.length≤fn.ntmps)(ht:vL us)(hr:rws.all (fun x=>decide (x.1<us.length))=true)
  (h:∀(Γ:Ctx)(v:Nat→Value),Γ.N=fn.ntmps→CW P Γ (zCh v (rws.map (·.1))) c (yV (zIc 0 us)) (tA Γ P fn.results us res rws)):FnC P f us res rws:=by
 refine FnC.of_body hf hb hn ht hr fun Γ v hN=>?_
 intro a w Q' hs hp hQ;refine h Γ v hN a w Q' hs hp ?_
 rintro e E a' w' ⟨E',hg,hq⟩ hs' hp'
 exact hQ e E' a' w' hq (hg a' w' hs') hp'
def zTP(t:T):Prop:=yD t∧vG t=true∧strip t=t∧t.okTup=true∧zEY t=true
def zRa:List T→Prop
 | []=>True
 |x::xs=>zTP x∧zRa xs
theorem Enc.t{α:Type}{f:α→T}(h:Enc f)(x:α):zTP (f x):=⟨h.clean x,h.rofree x,h.strip x,h.okTup x,h.rook x⟩
theorem Enc.of{α:Type}{f:α→T}(h:∀x,zTP (f x)):Enc f:=⟨fun x=>(h x).1,fun x=>(h x).2.1,fun x=>(h x).2.2.1,fun x=>(h x).2.2.2.1,fun x=>(h x).2.2.2.2⟩
theorem zM8{xs:List T}(h:zRa xs):zTP (.agg xs):=by
 have key:∀xs:List T,zRa xs→xH xs∧uE xs=true∧wU xs=xs∧yR xs=true∧zBb xs=true:=by
  intro xs
  induction xs with
  |nil=>intro _;exact⟨trivial,rfl,rfl,rfl,rfl⟩
  |cons x xs ih=>
   rintro⟨⟨h1,h2,h3,h4,h5⟩,h⟩
   obtain⟨g1,g2,g3,g4,g5⟩:=ih h;exact⟨⟨h1,g1⟩,by simp only[uE,h2,g2,L8],by simp only[wU,h3,g3],by simp only[yR,h4,g4,L8],by simp only[zBb,h5,g5,L8]⟩
 obtain⟨g1,g2,g3,g4,g5⟩:=key xs h;exact⟨yK g1,by simp only[vG,g2],by simp only[strip,g3],by simp only[T.okTup,g4],by simp only[zEY,g5]⟩
end Go.Ab

namespace Go.Ab
open Go
section
variable {Γ:Ctx}{E:Env}{d:Nat}
def Gh.cut(G:Gh)(d s0 b lo hi:Nat)(v:Value):Gh where
 hd s z:=if s=d then(if z=[]then v else G.hd s0 z)else G.hd s z
 ad s z:=if s=d then G.ad s0 z else G.ad s z
 lb b' o:=if b'=b∧lo≤o∧o<hi then some (true,d,[])else match G.lb b' o with
  |some (f,s,z)=>if s=s0 then some (f,d,z)else some (f,s,z)
  |none=>none
 ow b':=match G.ow b' with
  |some (s,z)=>if s=s0 then some (d,z)else some (s,z)
  |none=>none
theorem zNZ{G:Gh}{tmps:Array Value}{w:World}(hrep:Rep Γ E G tmps w)(hd:d<Γ.N){s0 k h cap':Nat}{xs:List T}(hs0:E s0=some (.sl k xs))(hne:s0≠d)(hk:0<k)
  {b cap:Nat}{cs:Array Value}{e:TypeId}(h1:G.hd s0 []=.slice (some ⟨b,0,none⟩) xs.length cap)(h2:w.heap[b]? =some (.cells cs e (0,0)))(_h3:xs.length≤cap)(h4:cap≤maxLen)(h5:cap*k≤cs.size)(h6:G.ow b=some (s0,[]))
  (h7:∀o,xs.length*k≤o→o<cap*k→G.lb b o=some (true,s0,[]))(h8:RL Γ.St G w s0 xs [] 0 b 0 k)(hh:h≤xs.length)(hc:h≤cap')(hc2:cap'≤cap):
  ∃G',Rep Γ (E.app [(d,some (.sl k (xs.take h))),(s0,some .any)] [(d,0),(s0,1)]) G' (tmps.setIfInBounds d (.slice (some ⟨b,0,none⟩) h cap')) w:=by
 have hm:=hrep.mem;obtain⟨e1,_,e3⟩:=hrep.ent s0 _ hs0
 let v:Value:=.slice (some ⟨b,0,none⟩) h cap'
 let G':=G.cut d s0 b (h*k) (cap'*k) v
 have hblk:=hm.ow b _ h6;have hgone:∀o f z i,h*k≤o→o<cap'*k→G.lb b o=some (f,s0,z++[i])→h≤i:=by
  intro o f z i ho1 ho2 hl
  by_cases ho:o<xs.length*k
  ·have hj:o/k<xs.length:=(Hn hk).2 ho
   obtain⟨g1,g2,_⟩:=jJ xs [] 0 b 0 k (o/k) xs[o/k] h8 (by simp[hj]);obtain⟨y,hy⟩:=zJl xs[o/k] _ b _ (o%k) g1 (by rw[g2];exact Gd _ hk);rw[Jf,Jf,H2,H8,hl]at hy;simp only[Lb.injEq,Jax.injEq]at hy;have:=hy.2.2;have hi:i=o/k:=by have:=congrArg List.getLast? this;simpa using this
   rw[hi];exact(Nat.le_div_iff_mul_le hk).2 ho1
  ·have:=h7 o (by omega) (by have:=Kg k hc2;omega)
   rw[hl]at this;simp at this
 have glb:∀b' o f z,G.lb b' o=some (f,s0,z)→ ¬(b'=b∧h*k≤o∧o<cap'*k)→G'.lb b' o=some (f,d,z):=fun b' o f z hl hn=>by show(if _ then _ else _)=_;rw[if_neg hn];simp[hl]
 have gow:∀b' z,G.ow b'=some (s0,z)→G'.ow b'=some (d,z):=fun b' z hl=>by simp[G',Gh.cut,hl]
 have mv:∀i,i<h→zIq G w G' w s0 [i] d [i]:=fun i hi=>by
  have hn:∀b' o f z,G.lb b' o=some (f,s0,z++[i])→ ¬(b'=b∧h*k≤o∧o<cap'*k):=by
   rintro b' o f z hl ⟨rfl,ho1,ho2⟩
   have:=hgone o f z i ho1 ho2 hl;omega
  refine⟨⟨fun z=>by simp[G',Gh.cut],fun z _=>by simp[G',Gh.cut],fun b' o f z _ _ hl=>⟨glb _ _ _ _ hl (hn _ _ _ _ hl),rfl⟩,fun b' z _ hl=>gow _ _ hl,fun b' cs' e' hb=>⟨cs',hb,rfl⟩⟩,fun b' o _ hl=>⟨glb _ _ _ _ hl (hn b' o true [] (by simpa using hl)),rfl⟩,fun b' hl=>gow _ _ hl⟩
 have hkeep:qP [(d,0),(s0,1)] G w G' w:=by
  refine⟨fun s p ho=>?_,fun s p ho=>?_,fun b' o f s p hob hl hs=>?_,fun b' s p hl hs=>?_,fun b' cs' e' hb=>⟨cs',hb,rfl⟩⟩
  ·have:s≠d:=fun e=>absurd (ho 0 (by simp[e])) (by simp)
   simp[G',Gh.cut,this]
  ·have:s≠d:=fun e=>absurd (ho 0 (by simp[e])) (by simp)
   simp[G',Gh.cut,this]
  ·have hsd:s≠s0:=fun e=>hs 1 (by simp[e])
   obtain⟨y,hy⟩:=hob;have hbb:b'≠b:=by
    rintro rfl
    rw[h6]at hy;simp at hy;exact hsd hy.1.symm
   refine⟨?_,rfl⟩;show(if _ then _ else _)=_;rw[if_neg (fun hn=>hbb hn.1)];simp[hl,hsd]
  ·have hsd:s≠s0:=fun e=>hs 1 (by simp[e])
   simp[G',Gh.cut,hl,hsd]
 have hmem:Mem Γ G' w:=by
  refine⟨fun s z=>?_,fun b' o l hl=>?_,fun b' l hl=>?_,hm.st,hm.fr,hm.sz,hm.bk⟩
  ·show(if _ then _ else _:Value).oneCell'=true
   split
   ·split
    ·rfl
    ·exact hm.one _ _
   ·exact hm.one _ _
  ·change(if _ then _ else _)=_ at hl
   split at hl
   ·rename_i hn;rw[hn.1];exact hblk
   ·cases hg:G.lb b' o with
    |none=>simp[hg]at hl
    |some x=>exact hm.lb b' o x hg
  ·cases hg:G.ow b' with
   |none=>simp[G',Gh.cut,hg]at hl
   |some x=>exact hm.ow b' x hg
 refine⟨G',vF hrep (by simp) hkeep hmem ?_ ?_⟩
 ·intro s hs
  have hne1:s≠d:=by rintro rfl;simp[Wr.find]at hs
  have hne0:s≠s0:=by rintro rfl;simp[Wr.find,hne.symm]at hs
  exact⟨fun n hn=>by simp at hn;rcases hn with h|h;exact hne1 h.1;exact hne0 h.1,by rw[Jg];simp[hne1.symm]⟩
 ·intro s t' hs
  by_cases hsd:s=d
  ·subst hsd
   simp[Wr.find]at hs;subst hs;have hlen:(xs.take h).length=h:=by simp;omega
   simp only[Top]at e3;have hkc:∀ys:List T,xH ys→ ∀n,xH (ys.take n):=by
    intro ys
    induction ys with
    |nil=>intro _ n;simp[xH,xW]
    |cons y ys ih=>intro hy n;cases n with
     |zero=>simp[xH,xW]
     |succ n=>exact⟨hy.1,ih hy.2 n⟩
   refine⟨?_,?_,by simp only[Top];exact hkc xs e3 h⟩
   ·rw[Jg]
    simp[hrep.size,hd,mkV,G',Gh.cut,v]
   ·simp only[R]
    refine .inr ⟨b,cap',cs,e,by rw[hlen];simp[G',Gh.cut,v],h2,by omega,by omega,by have:=Kg k hc2;omega,gow b _ h6,fun o ho1 ho2=>?_,?_⟩
    ·rw[hlen]at ho1
     show(if _ then _ else _)=_;rw[if_pos ⟨rfl,ho1,ho2⟩]
    ·refine zJn _ [] 0 b 0 fun i x hx=>?_
     rw[H3]at hx;split at hx
     ·rename_i hi
      obtain⟨g1,g2,g3⟩:=jJ xs [] 0 b 0 k i x h8 hx;rw[Jf]at g1 g3 ⊢
      refine⟨?_,g2,kX (mv i hi) x (yY.mono (fun _ _=>False.elim) _ (uL xs e3 i x hx)) g3⟩;refine zGG x [i] [i] b _ (fun z=>by simp[G',Gh.cut]) (fun z=>by simp[G',Gh.cut]) (fun b' o z hl=>⟨glb _ _ _ _ hl ?_,rfl⟩) g1
      rintro⟨rfl,ho1,ho2⟩
      have:=hgone o false z i ho1 ho2 hl;omega
     ·cases hx
  ·have h9:s=s0∧t'=.any:=by
    simp only[Wr.find]at hs;rw[if_neg (fun h=>hsd h.symm)]at hs;split at hs
    ·rename_i h;simp at hs;exact⟨h.symm,hs.symm⟩
    ·cases hs
   obtain⟨rfl,rfl⟩:=h9;refine⟨?_,by simp only[R],by simp[Top]⟩;rw[Jg];simp only[Ne.symm hsd,if_false,mkV];rw[e1,xP rfl];simp[G',Gh.cut,hsd]
theorem zRb{G:Gh}{tmps:Array Value}{w:World}(hrep:Rep Γ E G tmps w)(hd:d<Γ.N){s0 k:Nat}(hs0:E s0=some (.sl k []))(hne:s0≠d)(a:Option Addr):
  ∃G',Rep Γ (E.app [(d,some (.sl k [])),(s0,some .any)] [(d,0),(s0,1)]) G' (tmps.setIfInBounds d (.slice a 0 0)) w:=by
 obtain⟨e1,_,_⟩:=hrep.ent s0 _ hs0;refine⟨G.put d (fun _=>.slice a 0 0),?_⟩;have hk:qP [(d,0),(s0,1)] G w (G.put d fun _=>.slice a 0 0) w:=by have h0:=G.put_keep (w:=w) (w':=w) rfl d (fun _=>.slice a 0 0);refine⟨fun s p ho=>h0.hd s p (fun n hn=>ho n (by simp at hn ⊢;exact .inl hn)),fun s p ho=>h0.ad s p (fun n hn=>ho n (by simp at hn ⊢;exact .inl hn)),fun b o f s p h1 h2 h3=>h0.lb b o f s p h1 h2 (fun n hn=>h3 n (by simp at hn ⊢;exact .inl hn)),fun b s p h1 h3=>h0.ow b s p h1 (fun n hn=>h3 n (by simp at hn ⊢;exact .inl hn)),h0.blk⟩
 refine vF hrep (by simp) hk (hrep.mem.put rfl d _ (fun _=>rfl)) ?_ ?_
 ·intro s hs
  have hne1:s≠d:=by rintro rfl;simp[Wr.find]at hs
  have hne0:s≠s0:=by rintro rfl;simp[Wr.find,hne.symm]at hs
  exact⟨fun n hn=>by simp at hn;rcases hn with h|h;exact hne1 h.1;exact hne0 h.1,by rw[Jg];simp[hne1.symm]⟩
 ·intro s t' hs
  by_cases hsd:s=d
  ·subst hsd
   simp[Wr.find]at hs;subst hs;refine⟨by rw[Jg];simp[hrep.size,hd,mkV,Gh.put],by simp only[R];exact .inl ⟨trivial,a,by simp[Gh.put]⟩,by simp[Top,xH,xW]⟩
  ·have h9:s=s0∧t'=.any:=by
    simp only[Wr.find]at hs;rw[if_neg (fun h=>hsd h.symm)]at hs;split at hs
    ·rename_i h;simp at hs;exact⟨h.symm,hs.symm⟩
    ·cases hs
   obtain⟨rfl,rfl⟩:=h9;refine⟨?_,by simp only[R],by simp[Top]⟩;rw[Jg];simp only[Ne.symm hsd,if_false,mkV];rw[e1,xP rfl];simp[Gh.put,hsd]
end
section
variable {P:Program}{Γ:Ctx}{pn:jO}{E E':Env}{Q:Exit→Env→Prop}{d:Nat}{x y:Operand}{ty:TypeId}{ps:String}{af:Array Edge}{gd:Option (Nat×Bool)}
theorem zVk{α:Type}{t e:TypeId}{ti:TypeInfo}{s0 k:Nat}{f:α→T}{xs ys:List α}{mx:Option Operand}{h:Int}{u:T}(ht:ElT P t e ti k u)(hv:yB xs 0 h=some ys)(h0:E s0=some (L k f xs))(hy:opT E y=some (I h))(hmx:mx=none∨ ∃z,mx=some z∧opT E z=some (I h))(sd:(J7 d Γ.N&&(s0 != d))=true):
  Ok P Γ ⟨some d,.slice t (.tmp s0) none (some y) mx,ty,ps,af,gd⟩ E (E.app [(d,some (L k f ys)),(s0,some .any)] [(d,0),(s0,1)]):=by
 obtain⟨_,h0',hle,rfl⟩:=sO hv;simp only[J4]at sd;have hne:s0≠d:=by simpa using sd.2
 obtain⟨n,rfl⟩:∃n:Nat,h=n:=⟨h.toNat,by omega⟩;have hn:n≤xs.length:=by omega
 intro S;refine wN.value rfl fun a w G hrep=>?_
 obtain⟨e1,e2,_⟩:=hrep.ent s0 _ h0;have hy1:=(wO hrep hy).1;have hev:a.eval (.tmp s0)=G.hd s0 []:=by rw[wK e1,xP rfl]
 have hun:=ht.un;have hin:=ht.info;have hsz:=ht.size;have hmap:List.map f ((xs.drop (0:Int).toNat).take ((n:Int).toNat-(0:Int).toNat))=(xs.map f).take n:=by simp[Qq]
 rw[show L k f ((xs.drop (0:Int).toNat).take ((n:Int).toNat-(0:Int).toNat))=.sl k ((xs.map f).take n)by simp only[L,hmap]];have e2':=e2;simp only[R]at e2;rcases e2 with⟨hnil,ad,h1⟩|⟨b,cap,cs,e',h1,h2,h3,h4,h5,h6,h7,h8⟩
 ·have hxs:xs=[]:=by simpa using hnil
  subst hxs;simp at hn;subst hn;obtain⟨G',hG'⟩:=zRb hrep (yJ sd.1) (k:=k) (by rw[h0];rfl) hne ad;refine⟨_,w,?_,G',by simpa using hG'⟩;rcases hmx with rfl|⟨z,rfl,hz⟩
  ·simp[execOp,Instr.sliceAt,Instr.slice,run_underlying hun,hev,h1,hy1,sizeOf,typeInfo,hin,Instr.sliceBounds,Instr.sliceBound,asIntOf]
  ·have hz1:=(wO hrep hz).1
   simp[execOp,Instr.sliceAt,Instr.slice,run_underlying hun,hev,h1,hy1,hz1,sizeOf,typeInfo,hin,Instr.sliceBounds,Instr.sliceBound,asIntOf]
 ·rw[Jc]at h1 h3
  have hnc:n≤cap:=by omega
  have hcz:cap=0→n=0:=by omega
  rcases hmx with rfl|⟨z,rfl,hz⟩
  ·obtain⟨G',hG'⟩:=zNZ hrep (yJ sd.1) h0 hne ht.pos (by rw[Jc];exact h1) h2 (by rw[Jc];exact h3) h4 h5 h6 h7 h8 (h:=n) (cap':=cap) (by simpa using hn) hnc (Jp _)
   refine⟨_,w,?_,G',hG'⟩;simp[execOp,Instr.sliceAt,Instr.slice,run_underlying hun,hev,h1,hy1,sizeOf,typeInfo,hin,Instr.sliceBounds,Instr.sliceBound,asIntOf,hnc,uM]
  ·have hz1:=(wO hrep hz).1
   obtain⟨G',hG'⟩:=zNZ hrep (yJ sd.1) h0 hne ht.pos (by rw[Jc];exact h1) h2 (by rw[Jc];exact h3) h4 h5 h6 h7 h8 (h:=n) (cap':=n) (by simpa using hn) (Jp _) hnc;refine⟨_,w,?_,G',hG'⟩;simp[execOp,Instr.sliceAt,Instr.slice,run_underlying hun,hev,h1,hy1,hz1,sizeOf,typeInfo,hin,Instr.sliceBounds,Instr.sliceBound,asIntOf,hnc,uM]
end
end Go.Ab

namespace Go.Ab
open Go
section
variable {P:Program}{Γ:Ctx}{pn:jO}{E E':Env}{Q:Exit→Env→Prop}{d:Nat}{x y:Operand}{ty:TypeId}{ps:String}{af:Array Edge}{gd:Option (Nat×Bool)}{ops:Array Oper}{os:List Oper}
theorem zPk{P:Program}{w:World}{t e:TypeId}{a:Option Addr}{n c:Nat}(m:Nat)(h:P.underlying t=some (.slice e)):(Op.equalIn (m+1) t (.slice a n c) (.slice none 0 0)).run P w=.ok a.isNone w:=by simp only[Op.equalIn,Sem.run_bind,run_underlying h];cases a<;>rfl
theorem RW.isnil{α:Type}{xt yt e:TypeId}{r k:Nat}{q:List Nat}{f:α→T}{xs:List α}{u:T}(hu:P.underlying xt=some (.slice e))(hx:tH E x=some (r,q,u))(hsl:u=.ro (L k f xs)∨u=L k f xs)(sd:J7 d Γ.N=true)(hp:pn.ok (some d)=true)
  (h:∀b,(b=true→xs=[])→RW P Γ pn ops os (E.app [(d,some (B b))] [(d,0)]) Q):RW P Γ pn ops (⟨some d,.binOp .eql xt x (.const (.slice none 0 0)) yt,ty,ps,af,none⟩::os) E Q:=by
 intro a w Q' hs hpa hQ;obtain⟨S,hS,hdf,G,hrep⟩:=id hs;have hus:u.single=true:=by rcases hsl with rfl|rfl<;>rfl
 obtain⟨h1,h2⟩:=qY hrep hx hus;obtain⟨ad,n,c,h3,h4⟩:∃ad n c,a.eval x=.slice ad n c∧(ad.isNone=true→xs=[]):=by
  rcases hsl with rfl|rfl
  ·obtain⟨ad,c,g1,_,_,g2⟩:=zCI h1
   refine⟨ad,_,c,by rw[h2,g1],fun hn=>?_⟩;apply Classical.byContradiction;intro hne;obtain⟨b,o',_,_,_,rfl,_⟩:=g2 (by simpa using hne);simp at hn
  ·simp only[R]at h1
   rcases h1 with⟨g1,ad,g2⟩|⟨b,cap,cs,e',g1,_⟩
   ·exact⟨ad,0,0,by rw[h2,g2],fun _=>by simpa using g1⟩
   ·exact⟨_,_,_,by rw[h2,g1],fun hn=>by simp at hn⟩
 have hrun:(execOp a.eval ⟨some d,.binOp .eql xt x (.const (.slice none 0 0)) yt,ty,ps,af,none⟩).run P w=.ok (.value (.bool ad.isNone)) w:=by have h5:(Op.equalIn 10000 xt (.slice ad n c) (.slice none 0 0)).run P w=.ok ad.isNone w:=zPk 9999 hu;have h6:a.eval (.const (.slice none 0 0))=.slice none 0 0:=rfl;simp[execOp,h3,h6,eqGuard,binOp,zKL,h5]
 simp only[wpL,Region.wanted,if_true];refine .inl ?_;unfold Oper.wp;rw[hrun,Oper.upon_value];have hrep':=vJ hrep rfl (yJ sd) (fun _=>.bool ad.isNone) (fun _=>rfl) (B ad.isNone) (.bool ad.isNone) (by simp[mkV,Gh.put]) (by simp[R,Gh.put]) (by simp[Top]);refine h ad.isNone h4 _ w Q' ⟨S,hS,hdf,_,hrep'⟩ ?_ hQ;refine hpa.frame hp fun s hs'=>?_
 have:d≠s:=fun e=>hs' (by rw[e])
 simp[Act.put,H1 this]
theorem zKP{t e:TypeId}(hu:P.underlying t=some (.slice e))(hx:opT E x=some (.lit (.slice none 0 0)))(sd:J7 d Γ.N=true):Ok P Γ ⟨some d,.call { callee:=.builtin .len,args:=#[x],argTypes:=#[t] },ty,ps,af,gd⟩ E (E.app [(d,some (I 0))] [(d,0)]):=by
 intro S;refine zAJ (.int .i64 0) rfl rfl (yJ sd) fun a w G hrep=>?_
 have h1:=(wO hrep hx).1;simp[execOp,resolve,invoke,builtin,h1,Builtin.len_,run_underlying hu,goInt]
theorem zKQ{t e:TypeId}(hu:P.underlying t=some (.slice e))(hx:opT E x=some (.lit (.slice none 0 0)))(sd:J7 d Γ.N=true):Ok P Γ ⟨some d,.call { callee:=.builtin .cap,args:=#[x],argTypes:=#[t] },ty,ps,af,gd⟩ E (E.app [(d,some (I 0))] [(d,0)]):=by
 intro S;refine zAJ (.int .i64 0) rfl rfl (yJ sd) fun a w G hrep=>?_
 have h1:=(wO hrep hx).1;simp[execOp,resolve,invoke,builtin,h1,Builtin.cap_,run_underlying hu,goInt]
theorem zTQ{t e:TypeId}{ti:TypeInfo}{u:T}{k:Nat}(ht:ElT P t e ti k u)(hx:opT E x=some (.lit (.slice none 0 0)))(hy:opT E y=some (I 0))(sd:J7 d Γ.N=true):Ok P Γ ⟨some d,.slice t x none (some y) none,ty,ps,af,gd⟩ E (E.app [(d,some (.sl k []))] [(d,0)]):=by
 intro S;refine wN.value rfl fun a w G hrep=>?_
 have h1:=(wO hrep hx).1;have h2:=(wO hrep hy).1;refine⟨.slice none 0 0,w,?_,_,vJ hrep rfl (yJ sd) (fun _=>.slice none 0 0) (fun _=>rfl) (.sl k []) (.slice none 0 0) (by simp[mkV,Gh.put]) (by simp[R,Gh.put]) (by simp[Top,xH,xW])⟩;simp[execOp,Instr.sliceAt,Instr.slice,run_underlying ht.un,h1,h2,sizeOf,typeInfo,ht.info,Instr.sliceBounds,Instr.sliceBound,asIntOf]
theorem zM.nil(s k:Nat)(hs:E s=some (.lit (.slice none 0 0))):zM Γ E (E.app [(s,some (.sl k []))] [(s,0)]):=by
 rintro a w ⟨S,hS,hdf,G,hrep⟩
 refine⟨S,hS,hdf,G,?_⟩;have hk:qP [(s,0)] G w G w:=⟨fun _ _ _=>rfl,fun _ _ _=>rfl,fun _ _ _ _ _ _ h _=>⟨h,rfl⟩,fun _ _ _ h _=>h,fun b cs e h=>⟨cs,h,rfl⟩⟩;refine vF hrep rfl hk hrep.mem (fun s' hs'=>⟨fun n hn=>?_,rfl⟩) fun s' t hs'=>?_
 ·simp at hn
  simp[Wr.find,hn.1]at hs'
 ·simp only[Wr.find]at hs'
  split at hs'
  ·rename_i e;subst e
   simp at hs';subst hs';obtain⟨h1,h2,_⟩:=hrep.ent s _ hs;simp only[R]at h2;exact⟨by rw[h1];rfl,by simp only[R];exact .inl ⟨trivial,none,h2⟩,by simp[Top,xH,xW]⟩
  ·cases hs'
theorem zJ1{src dst:TypeId}{ds:TypeDesc}{k k':IntKind}{n:Int}(hs:P.underlying src=some ds)(ht:P.underlying dst=some (.int k'))(hx:opT E x=some (IK k n))(sd:J7 d Γ.N=true):
  Ok P Γ ⟨some d,.convert src dst x,ty,ps,af,gd⟩ E (E.app [(d,some (IK k' (k'.wrap n)))] [(d,0)]):=fun _=>zT9 src dst ds x k k' n rfl rfl (yJ sd) hs ht hx
theorem zWa{k:IntKind}{m n:Int}{xt yt:TypeId}(hx:opT E x=some (IK k m))(hy:opT E y=some (IK k n))(sd:J7 d Γ.N=true):Ok P Γ ⟨some d,.binOp .add xt x y yt,ty,ps,af,gd⟩ E (E.app [(d,some (IK k (k.wrap (m+n))))] [(d,0)]):=
 fun _=>sB .add xt yt x y k m n _ rfl rfl (yJ sd) hx hy rfl
theorem zWb{k:IntKind}{m n:Int}{xt yt:TypeId}(hx:opT E x=some (IK k m))(hy:opT E y=some (IK k n))(sd:J7 d Γ.N=true):Ok P Γ ⟨some d,.binOp .mul xt x y yt,ty,ps,af,gd⟩ E (E.app [(d,some (IK k (k.wrap (m*n))))] [(d,0)]):=
 fun _=>sB .mul xt yt x y k m n _ rfl rfl (yJ sd) hx hy rfl
theorem zRc{k:IntKind}{m n:Int}{xt yt:TypeId}(hx:opT E x=some (IK k m))(hy:opT E y=some (IK k n))(sd:J7 d Γ.N=true):Ok P Γ ⟨some d,.binOp .gtr xt x y yt,ty,ps,af,gd⟩ E (E.app [(d,some (B (decide (m> n))))] [(d,0)]):=
 fun _=>sB .gtr xt yt x y k m n _ rfl rfl (yJ sd) hx hy rfl
def zGc(k:IntKind)(m n:Int):Int:=k.wrap ((BitVec.ofInt k.bits m &&& BitVec.ofInt k.bits n).toNat:Int)
theorem zWc{k:IntKind}{m n:Int}{xt yt:TypeId}(hx:opT E x=some (IK k m))(hy:opT E y=some (IK k n))(sd:J7 d Γ.N=true):Ok P Γ ⟨some d,.binOp .and xt x y yt,ty,ps,af,gd⟩ E (E.app [(d,some (IK k (zGc k m n)))] [(d,0)]):=by
 intro S;refine zAJ (.int k (zGc k m n)) rfl rfl (yJ sd) fun a w G hrep=>?_
 have h1:=(wO hrep hx).1;have h2:=(wO hrep hy).1;simp[execOp,h1,h2,eqGuard,binOp,Op.intBits,zGc]
theorem zWd{k k':IntKind}{m n:Int}{xt yt:TypeId}(hn:0≤n)(hx:opT E x=some (IK k m))(hy:opT E y=some (IK k' n))(sd:J7 d Γ.N=true):Ok P Γ ⟨some d,.binOp .shr xt x y yt,ty,ps,af,gd⟩ E (E.app [(d,some (IK k (m.fdiv (2 ^ (min n.toNat k.bits)))))] [(d,0)]):=by
 intro S;refine zAJ (.int k (m.fdiv (2 ^ (min n.toNat k.bits)))) rfl rfl (yJ sd) fun a w G hrep=>?_
 have h1:=(wO hrep hx).1;have h2:=(wO hrep hy).1;have h3:¬n<0:=by omega
 simp[execOp,h1,h2,eqGuard,binOp,Op.shift,h3]
end
end Go.Ab

namespace Go.Ab
open Go
structure zRd (P:Program) (f:Field) (i:Nat):Prop where
 name:f.name≠ "_"
 off:f.offset=i
 ty:P.underlying f.type=some (.int .i64)
class zTR (P:Program) (t:TypeId):Prop where
 h:∃f0 f1 f2 f3:Field,P.underlying t=some (.struct #[f0,f1,f2,f3])∧zRd P f0 0∧zRd P f1 1∧zRd P f2 2∧zRd P f3 3
 st:P.stoodInHeld t=false
 gd:P.eqGuardType P.depth t=false
theorem zEr{P:Program}{w:World}{f:Field}{i:Nat}(h:zRd P f i)(cs:Array Value)(v:Value)(hv:cs[i]? =some v):(part f.type cs f.offset).run P w=.ok v w:=by simp[part,jL h.ty,zES,h.off,hv]
theorem zRe{P:Program}{w:World}{t:TypeId}(h:zTR P t)(a b c d a' b' c' d':Int)(m:Nat):
  (Op.equalIn (m+2) t (.agg #[.int .i64 a,.int .i64 b,.int .i64 c,.int .i64 d]) (.agg #[.int .i64 a',.int .i64 b',.int .i64 c',.int .i64 d'])).run P w=.ok (a==a'&&(b==b'&&(c==c'&&d==d'))) w:=by
 obtain⟨f0,f1,f2,f3,h1,g0,g1,g2,g3⟩:=h.h;have k0:=fun(x y:Int)=>zGl (P:=P) (w:=w) (a:=x) (b:=y) m g0.ty
 have k1:=fun(x y:Int)=>zGl (P:=P) (w:=w) (a:=x) (b:=y) m g1.ty
 have k2:=fun(x y:Int)=>zGl (P:=P) (w:=w) (a:=x) (b:=y) m g2.ty
 have k3:=fun(x y:Int)=>zGl (P:=P) (w:=w) (a:=x) (b:=y) m g3.ty
 have hst:=h.st;rw[Op.equalIn];simp only[Sem.run_bind,run_underlying h1];have q0:=fun(a b c d:Int)=>zEr (w:=w) g0 #[.int .i64 a,.int .i64 b,.int .i64 c,.int .i64 d] (.int .i64 a) rfl
 have q1:=fun(a b c d:Int)=>zEr (w:=w) g1 #[.int .i64 a,.int .i64 b,.int .i64 c,.int .i64 d] (.int .i64 b) rfl
 have q2:=fun(a b c d:Int)=>zEr (w:=w) g2 #[.int .i64 a,.int .i64 b,.int .i64 c,.int .i64 d] (.int .i64 c) rfl
 have q3:=fun(a b c d:Int)=>zEr (w:=w) g3 #[.int .i64 a,.int .i64 b,.int .i64 c,.int .i64 d] (.int .i64 d) rfl
 by_cases e0:a=a'<;>by_cases e1:b=b'<;>by_cases e2:c=c'<;>by_cases e3:d=d'<;>
  simp[hst,g0.name,g1.name,g2.name,g3.name,q0,q1,q2,q3,k0,k1,k2,k3,e0,e1,e2,e3]
section
variable {P:Program}{Γ:Ctx}{E E':Env}{d:Nat}{x y:Operand}{ty:TypeId}{ps:String}{af:Array Edge}{gd:Option (Nat×Bool)}
theorem zWe{t t':TypeId}{s s':Nat}{a b c e a' b' c' e':Int}(h:zTR P t)(hx:E s=some (.agg [I a,I b,I c,I e]))(hy:E s'=some (.agg [I a',I b',I c',I e']))(sd:J7 d Γ.N=true):
  Ok P Γ ⟨some d,.binOp .eql t (.tmp s) (.tmp s') t',ty,ps,af,gd⟩ E (E.app [(d,some (B (a==a'&&(b==b'&&(c==c'&&e==e')))))] [(d,0)]):=by
 intro S;refine zAJ _ rfl rfl (yJ sd) fun A w G hrep=>?_
 obtain⟨h1,h2,_⟩:=hrep.ent s _ hx;obtain⟨h3,h4,_⟩:=hrep.ent s' _ hy;simp only[R,RF]at h2 h4;have e1:A.eval (.tmp s)=.agg #[.int .i64 a,.int .i64 b,.int .i64 c,.int .i64 e]:=by rw[wK h1];simp[mkV,yF,vals,h2]
 have e2:A.eval (.tmp s')=.agg #[.int .i64 a',.int .i64 b',.int .i64 c',.int .i64 e']:=by rw[wK h3];simp[mkV,yF,vals,h4]
 have h5:(Op.equalIn 10000 t (.agg #[.int .i64 a,.int .i64 b,.int .i64 c,.int .i64 e]) (.agg #[.int .i64 a',.int .i64 b',.int .i64 c',.int .i64 e'])).run P w=_:=zRe (w:=w) h a b c e a' b' c' e' 9998;have hg:=h.gd;simp[execOp,e1,e2,eqGuard,binOp,zKL,h5,hg]
end
end Go.Ab

namespace Go.Ab
open Go
abbrev vI(n:Int):Value:=.int .i64 n
section
variable {Γ:Ctx}{E:Env}
theorem zKR{G:Gh}{tmps:Array Value}{w w':World}(hrep:Rep Γ E G tmps w){s0:Nat}{xs us:List Int}(hs0:E s0=some (L 1 I xs))(hlen:us.length=xs.length)
  {b cap:Nat}{cs cs':Array Value}{e:TypeId}(h1:G.hd s0 []=.slice (some ⟨b,0,none⟩) xs.length cap)(h2:w.heap[b]? =some (.cells cs e (0,0)))(h3:xs.length≤cap)(h4:cap≤maxLen)(h5:cap*1≤cs.size)(h6:G.ow b=some (s0,[]))
  (h7:∀o,xs.length*1≤o→o<cap*1→G.lb b o=some (true,s0,[]))(h8:RL Γ.St G w s0 (xs.map I) [] 0 b 0 1)
  (k1:w'.heap[b]? =some (.cells cs' e (0,0)))(k2:cs'.size=cs.size)(k3:∀b',b'≠b→w'.heap[b']? =w.heap[b']?)(k4:w'.heap.size=w.heap.size)(ko:w'.os=w.os)(kq:w'.output=w.output)(k5:∀(i:Nat) u,us[i]? =some u→cs'[i]? =some (vI u)):
  ∃G',Rep Γ (E.app [(s0,some (L 1 I us))] [(s0,1)]) G' tmps w':=by
 have hm:=hrep.mem;obtain⟨e1,_,_⟩:=hrep.ent s0 _ hs0;have hblk:=hm.ow b _ h6
 let G':Gh:={ G with hd:=fun s z=>if s=s0 then(match z with
  | [i]=>(match us[i]? with
   |some u=>vI u
   |none=>G.hd s0 z)
  |_=>G.hd s0 z)else G.hd s z }
 have hB:Blk w w':=by
  intro b' cs2 e2 hb
  by_cases hbb:b'=b
  ·subst hbb
   rw[h2]at hb;simp at hb;obtain⟨rfl,rfl⟩:=hb;exact⟨cs',k1,k2⟩
  ·exact⟨cs2,by rw[k3 b' hbb];exact hb,rfl⟩
 have hkeep:qP [(s0,1)] G w G' w':=by
  refine⟨fun s p ho=>?_,fun _ _ _=>rfl,fun b' o f s p hob hl hs=>⟨hl,?_⟩,fun _ _ _ hl _=>hl,hB⟩
  ·by_cases h:s=s0
   ·subst h
    have:p=[]:=Kb (by have:=ho 1 (by simp);omega);subst this;simp[G']
   ·simp[G',h]
  ·have hsd:s≠s0:=fun e=>hs 1 (by simp[e])
   obtain⟨y,hy⟩:=hob;have hbb:b'≠b:=by
    rintro rfl
    rw[h6]at hy;simp at hy;exact hsd hy.1.symm
   simp[yP,World.cell?,k3 b' hbb]
 have hmem:Mem Γ G' w':=by
  refine⟨fun s z=>?_,fun b' o l hl=>?_,fun b' l hl=>?_,fun b' x hx=>?_,fun b' h h'=>?_,by rw[k4];exact hm.sz,hm.bk.trans hB ko kq⟩
  ·show(if _ then _ else _:Value).oneCell'=true
   split
   ·split
    ·split
     ·rfl
     ·exact hm.one _ _
    ·exact hm.one _ _
   ·exact hm.one _ _
  ·have:=hm.lb b' o l hl;exact⟨by rw[k4];exact this.1,this.2⟩
  ·have:=hm.ow b' l hl;exact⟨by rw[k4];exact this.1,this.2⟩
  ·have:b'≠b:=by rintro rfl;rw[hblk.2.2]at hx;cases hx
   rw[k3 b' this];exact hm.st b' x hx
  ·have:b'≠b:=by
    rintro rfl
    rcases hblk.2.1 with h0|h0
    ·omega
    ·exact h' h0
   rw[k3 b' this];exact hm.fr b' h h'
 refine⟨G',vF hrep rfl hkeep hmem ?_ ?_⟩
 ·intro s hs
  rw[tR]at hs;split at hs
  ·cases hs
  ·rename_i hne
   exact⟨fun n hn=>hne (by simp at hn;exact hn.1.symm),rfl⟩
 ·intro s t' hs
  rw[tR]at hs;split at hs
  ·rename_i he;subst he
   simp at hs;subst hs;refine⟨by rw[e1];simp[mkV,G'],?_,by simp only[Top];exact zDE zNW us⟩;simp only[R];refine .inr ⟨b,cap,cs',e,by simp[G',h1,hlen],k1,by simp[hlen];exact h3,h4,by omega,h6,fun o ho1 ho2=>h7 o (by simpa[hlen]using ho1) ho2,?_⟩;refine zJn _ [] 0 b 0 fun i x hx=>?_
   rw[K0,Lf]at hx;obtain⟨u,hu,rfl⟩:=hx;have hi:=(Jb.1 hu).1;obtain⟨g1,g2,_⟩:=jJ _ [] 0 b 0 1 i (I xs[i]) h8 (by simp[show i<xs.length by omega]);simp only[Jf,Qp,Loc]at g1 ⊢
   refine⟨⟨g1.1,g1.2.1,?_⟩,rfl,by simp[R,G',hu]⟩;have:=k5 i u hu;simp[yP,World.cell?,k1,this,G',hu]
  ·cases hs
def zFN(P:Program)(Γ:Ctx)(E:Env)(y:Operand)(ys:List Int):Prop:=∀(a:Act)(w:World)(G:Gh),Rep Γ E G a.tmps w→ ∃xa c,a.eval y=.slice xa ys.length c∧
 ∀(n:Nat),n≤ys.length→(Builtin.firstCells 1 n (.slice xa ys.length c)).run P w=.ok ((ys.take n).map vI).toArray w
theorem zBQ{P:Program}{w:World}{b o:Nat}{cs:Array Value}{e:TypeId}{fr:Nat×Nat}(hb:w.heap[b]? =some (.cells cs e fr))(ys:List Int)(hv:∀(i:Nat) u,ys[i]? =some u→cs[o+i]? =some (vI u))(n:Nat)(hn:n≤ys.length)(len cap:Nat):
  (Builtin.firstCells 1 n (.slice (some ⟨b,o,none⟩) len cap)).run P w=.ok ((ys.take n).map vI).toArray w:=by
 refine run_firstCells_some (P:=P) w 1 n ⟨b,o,none⟩ len cap _ (by simp;omega) fun j v hj=>?_
 rw[K0,Lf]at hj;obtain⟨u,hu,rfl⟩:=hj;rw[H3]at hu;split at hu
 ·rw[uM]
  have:=hv j u hu;simp[World.cell?,hb,this]
 ·cases hu
theorem zCn{P:Program}{w:World}{a:Option Addr}{c:Nat}:(Builtin.firstCells 1 0 (.slice a 0 c)).run P w=.ok #[] w:=by cases a<;>simp[Builtin.firstCells,loadCells,loadCellsFrom]
theorem zFN.ro{P:Program}{y:Operand}{ys:List Int}{r:Nat}{q:List Nat}(h:tH E y=some (r,q,.ro (L 1 I ys))):zFN P Γ E y ys:=fun a w G hrep=>by
 obtain⟨h1,h2⟩:=qY hrep h rfl;obtain⟨xa,c,g1,_,_,g2⟩:=zCI h1;rw[Jc]at g1;refine⟨xa,c,by rw[h2,g1],fun n hn=>?_⟩
 by_cases hy:ys=[]
 ·subst hy
  simp at hn;subst hn;simpa using zCn
 ·obtain⟨b,o,cs,e,fr,rfl,g3,g4⟩:=g2 (by simpa using hy)
  refine zBQ (hrep.mem.st b _ g3) ys (fun i u hu=>?_) n hn _ _;have:=zGi _ cs o 1 i (I u) g4 (by simp[hu]);simp only[RoC,Qp]at this;exact this.1
theorem zOa{G:Gh}{w:World}{s b:Nat}{q:List Nat}{cs:Array Value}{e:TypeId}{xs:List Int}{St:Stb}(h2:w.heap[b]? =some (.cells cs e (0,0)))(h8:RL St G w s (xs.map I) q 0 b 0 1)(i:Nat)(u:Int)(hu:xs[i]? =some u):cs[i]? =some (vI u):=by obtain⟨g1,_,g3⟩:=jJ _ q 0 b 0 1 i (I u) h8 (by simp[hu]);simp only[Loc,R,Jf,Qp]at g1 g3;have:=g1.2.2;simp only[yP,World.cell?,h2]at this;simpa[g3]using this
theorem zFN.sub{P:Program}{s r:Nat}{q:List Nat}{tr:T}{xs ys:List Int}{l h:Int}(hs:E s=some (.sub r q 1 l.toNat h.toNat))(hr:E r=some tr)(hg:tr.get q.reverse=some (L 1 I xs))(hv:yB xs l h=some ys):zFN P Γ E (.tmp s) ys:=fun a w G hrep=>by
 obtain⟨k1,k2,k3,rfl⟩:=sO hv;obtain⟨e1,e2,_⟩:=hrep.ent s _ hs;obtain⟨_,e4,_⟩:=hrep.ent r _ hr;simp only[R]at e2;have h5:=(zA5 q.reverse tr _ [] e4 hg).1;simp only[rp,Km,J9,R]at h5;have hlen:((xs.drop l.toNat).take (h.toNat-l.toNat)).length=h.toNat-l.toNat:=by simp;omega
 rw[hlen];have hev:a.eval (.tmp s)=G.hd s []:=by rw[wK e1,xP rfl]
 rcases h5 with⟨g1,ad,g2⟩|⟨b,cap,cs,e,g1,g2,g3,_,_,_,_,g8⟩
 ·have hy:xs=[]:=by simpa using g1
  subst hy;have hl0:l.toNat=0:=by simp at k3;omega
  have hh0:h.toNat=0:=by simp at k3;omega
  refine⟨ad,0,by rw[hev,e2,g2,hl0,hh0];simp[zAT],fun n hn=>?_⟩;simp[hh0]at hn;subst hn;rw[hl0,hh0];simpa using zCn
 ·rw[Jc]at g1 g3
  refine⟨if cap=l.toNat then some ⟨b,0,none⟩else some ⟨b,l.toNat,none⟩,cap-l.toNat,by rw[hev,e2,g1];simp only[zAT,Hj,uM,Jf,Qp],fun n hn=>?_⟩;split
  ·have:n=0:=by omega
   subst this;simp[Builtin.firstCells,loadCells,loadCellsFrom]
  ·refine zBQ g2 _ (fun i u hu=>?_) n (by rw[hlen];exact hn) _ _
   rw[H3]at hu;split at hu
   ·rw[Ko]at hu
    exact zOa g2 g8 _ u hu
   ·cases hu
def zCo(Γ:Ctx)(E:Env)(x:Operand)(s0 lo hi:Nat):Prop:=∀(a:Act)(w:World)(G:Gh),Rep Γ E G a.tmps w→a.eval x=zAT (G.hd s0 []) 1 lo hi
theorem zCo.slot{s0:Nat}{xs:List Int}(h:E s0=some (L 1 I xs)):zCo Γ E (.tmp s0) s0 0 xs.length:=fun a w G hrep=>by obtain⟨e1,e2,_⟩:=hrep.ent s0 _ h;obtain⟨ad,c,g⟩:=zJh e2;rw[Jc]at g;rw[wK e1,xP rfl,g];simp[zAT];intro;cases ad<;>simp[Addr.add]
theorem zCo.same{s s0:Nat}{xs:List Int}(hs:E s=some (.same s0 []))(h:E s0=some (L 1 I xs)):zCo Γ E (.tmp s) s0 0 xs.length:=fun a w G hrep=>by obtain⟨e1,e2,_⟩:=hrep.ent s _ hs;have:=zCo.slot h a w G hrep;obtain⟨e3,_,_⟩:=hrep.ent s0 _ h;simp only[R]at e2;rw[wK e3,xP rfl]at this;rw[wK e1,xP rfl,e2];exact this
theorem zCo.sub{s s0 lo hi:Nat}(hs:E s=some (.sub s0 [] 1 lo hi)):zCo Γ E (.tmp s) s0 lo hi:=fun a w G hrep=>by obtain⟨e1,e2,_⟩:=hrep.ent s _ hs;simp only[R]at e2;rw[wK e1,xP rfl,e2]
end
theorem zPl{α:Type}{xs ys:List α}{l h:Int}(hv:yB xs l h=some ys):l.toNat≤h.toNat:=by have:=sO hv;omega
theorem zPm{α:Type}{xs ys:List α}{l h:Int}(hv:yB xs l h=some ys):h.toNat≤xs.length:=by have:=sO hv;omega
theorem zOb{α:Type}(l z:List α)(lo i:Nat)(hlo:lo+z.length≤l.length):(l.take lo++z++l.drop (lo+z.length))[i]? =if i<lo then l[i]? else if i<lo+z.length then z[i-lo]? else l[i]?:=by
 have hm:min lo l.length=lo:=by omega
 by_cases c1:i<lo
 ·rw[if_pos c1,Ja,Jm (by simp;omega),H3,if_pos c1]
 ·rw[if_neg c1]
  by_cases c2:i<lo+z.length
  ·rw[if_pos c2,Ja,J8 (by simp;omega),Ka,hm,Jm (by omega)]
  ·rw[if_neg c2,Ja,J8 (by simp;omega),Ka,hm,J8 (by omega),Ko]
   congr 1;omega
def xQ(xs:List Int)(lo:Nat)(zs:List Int):List Int:=xs.take lo++zs++xs.drop (lo+zs.length)
theorem zJ2{P:Program}{Γ:Ctx}{E:Env}{d s0 lo hi:Nat}{x y:Operand}{ty:TypeId}{ps:String}{af:Array Edge}{gd:Option (Nat×Bool)}{t t2 e:TypeId}{ti:TypeInfo}{u:T}{xs ys:List Int}(ht:ElT P t e ti 1 u)(h0:E s0=some (L 1 I xs))(hx:∀S,zCo (Γ.at S) E x s0 lo hi)(hy:∀S,zFN P (Γ.at S) E y ys)(h1:lo≤hi)(h2:hi≤xs.length)(sd:(J7 d Γ.N&&(s0 != d))=true):
  Ok P Γ ⟨some d,.call { callee:=.builtin .copy,args:=#[x,y],argTypes:=#[t,t2] },ty,ps,af,gd⟩ E ((E.app [(s0,some (L 1 I (xQ xs lo (ys.take (hi-lo)))))] [(s0,1)]).app [(d,some (I ((min ys.length (hi-lo):Nat):Int)))] [(d,0)]):=by
 simp only[J4]at sd;have hne:s0≠d:=by simpa using sd.2
 intro S;refine wN.value rfl fun a w G hrep=>?_
 obtain⟨e1,e2,_⟩:=hrep.ent s0 _ h0;obtain⟨xa,c,g1,g2⟩:=hy S a w G hrep;have g3:=hx S a w G hrep;have hmin:min ys.length (hi-lo)≤ys.length:=by omega
 have g4:=g2 _ hmin;have htk:ys.take (hi-lo)=ys.take (min ys.length (hi-lo)):=by rw[List.take_eq_take_iff];omega
 rw[htk]
 generalize hn:min ys.length (hi-lo)=n at*
 have hzl:(ys.take n).length=n:=by simp;omega
 have hlen:(xQ xs lo (ys.take n)).length=xs.length:=by simp[xQ,hzl];omega
 have key:∃w',(Builtin.copy_ #[t,t2] ty #[a.eval x,a.eval y]).run P w=.ok (goInt n) w'∧ ∃G',Rep (Γ.at S) (E.app [(s0,some (L 1 I (xQ xs lo (ys.take n))))] [(s0,1)]) G' a.tmps w':=by
  have e2':=e2;simp only[R]at e2;rcases e2 with⟨k1,ad,k2⟩|⟨b,cap,cs,e',k1,k2,k3,k4,k5,k6,k7,k8⟩
  ·have hxs:xs=[]:=by simpa using k1
   subst hxs;simp at h2;subst h2;have hn0:n=0:=by omega
   subst hn0;have hlo:lo=0:=by omega
   subst hlo;refine⟨w,?_,G,?_⟩
   ·rw[g3,k2,g1]
    cases ad<;>cases xa<;>simp[zAT,Builtin.copy_,run_underlying ht.un,Builtin.lenOf,sizeOf,typeInfo,ht.info,Builtin.firstCells,loadCells,loadCellsFrom,storeCells]
   ·refine vF hrep rfl ⟨fun _ _ _=>rfl,fun _ _ _=>rfl,fun _ _ _ _ _ _ h _=>⟨h,rfl⟩,fun _ _ _ h _=>h,fun b cs e h=>⟨cs,h,rfl⟩⟩ hrep.mem (fun s hs=>⟨fun n hn=>by simp at hn;simp[Wr.find,hn.1]at hs,rfl⟩) fun s t' hs=>?_
    rw[tR]at hs;split at hs
    ·rename_i he;subst he
     simp at hs;subst hs;simpa[xQ]using hrep.ent s0 _ h0
    ·cases hs
  ·rw[Jc]at k1 k3 k7
   have hsz:cap≤cs.size:=by omega
   have hst:=run_storeCells_at P b lo e' ((ys.take n).map vI) 0 cs w k2 (by simp;omega) (by intro v hv;obtain⟨u,_,rfl⟩:=Jt.1 hv;rfl);simp only[U8,Jc]at hst
   generalize hw':w.setRow b (cs.toList.take lo++(ys.take n).map vI++cs.toList.drop (lo+(ys.take n).length)).toArray=w' at hst
   have hcl:cs.toList.length=cs.size:=Kf ..
   by_cases hcap:cap=lo
   ·have hn0:n=0:=by omega
    subst hn0;refine⟨w,?_,G,?_⟩
    ·rw[g3,k1,g1]
     have g5:(Builtin.firstCells 1 0 (.slice xa ys.length c)).run P w=.ok #[] w:=by simpa using g4
     simp[zAT,Builtin.copy_,run_underlying ht.un,Builtin.lenOf,sizeOf,typeInfo,ht.info,ht.size,show hi-lo=0 by omega,g5,storeCells,hcap]
    ·refine vF hrep rfl ⟨fun _ _ _=>rfl,fun _ _ _=>rfl,fun _ _ _ _ _ _ h _=>⟨h,rfl⟩,fun _ _ _ h _=>h,fun b cs e h=>⟨cs,h,rfl⟩⟩ hrep.mem (fun s hs=>⟨fun n hn=>by simp at hn;simp[Wr.find,hn.1]at hs,rfl⟩) fun s t' hs=>?_
     rw[tR]at hs;split at hs
     ·rename_i he;subst he
      simp at hs;subst hs;simpa[xQ]using hrep.ent s0 _ h0
     ·cases hs
   ·refine⟨w',?_,zKR hrep h0 hlen k1 k2 k3 k4 k5 k6 k7 k8 (by rw[←hw'];exact setRow_heap w b cs _ e' _ k2) ?_ (fun b' h=>by rw[←hw'];exact setRow_other w b b' _ h) (by rw[←hw'];exact size_setRow w b _) (by rw[←hw'];rfl) (by rw[←hw'];rfl) fun i v hv=>?_⟩
    ·rw[g3,k1,g1]
     have h9:Nat.min ys.length (hi-lo)=n:=hn;simp only[zAT,hcap,if_false,Hj,uM,Jf,Qp];simp only[Builtin.copy_];rw[Qq]at hst;simp[run_underlying ht.un,Builtin.lenOf,sizeOf,typeInfo,ht.info,ht.size,h9,g4,hst]
    ·simp[hzl];omega
    ·rw[xQ,zOb _ _ _ _ (by rw[hzl];omega)]at hv
     have h11:lo+((ys.take n).map vI).length≤cs.toList.length:=by simp;omega
     have h10:=zOb cs.toList ((ys.take n).map vI) lo i h11;rw[Jc]at h10;rw[List.getElem?_toArray,h10];have hor:=fun i u hu=>zOa k2 k8 i u hu
     by_cases c1:i<lo
     ·rw[if_pos c1]at hv ⊢
      simpa using hor i v hv
     ·rw[if_neg c1]at hv ⊢
      by_cases c2:i<lo+(ys.take n).length
      ·rw[if_pos c2]at hv ⊢
       rw[K0,hv];rfl
      ·rw[if_neg c2]at hv ⊢
       simpa using hor i v hv
 obtain⟨w',hrun,G',hG'⟩:=key;refine⟨_,w',?_,_,vJ hG' rfl (yJ sd.1) (fun _=>vI n) (fun _=>rfl) (I n) (vI n) (by simp[mkV,Gh.put]) (by simp[R,Gh.put]) (by simp[Top])⟩;simp[execOp,resolve,invoke,builtin,hrun,goInt]
end Go.Ab

namespace Go.Ab
open Go
theorem zIA{G G':Gh}{s d:Nat}(hd:∀z,G'.hd d z=G.hd s z):(xs:List T)→yR xs=true→ ∀(j:Nat),qW G' d (cpF s xs [] j) [] j=qW G s xs [] j
 | [],_,_=>by simp only[cpF,qW]
 |x::xs,h,j=>by
  simp only[yR,J4]at h;simp only[cpF,qW];have hnt:∀ys,x≠.tup ys:=by rintro ys rfl;simp[T.okTup]at h
  have h1:=zAn (G:=G) (G':=G') (s:=s) (d:=d) x [j] [j] hnt (fun z=>hd _);have h2:∀ys,cpT s x [j]≠.tup ys:=by intro ys;cases x<;>simp[cpT]
  rw[kD _ _ _ _ h2]at h1;rw[h1,zIA hd xs h.2 (j+1)]
section
variable {P:Program}{Γ:Ctx}{E E':Env}{d:Nat}{x y:Operand}{ty:TypeId}{ps:String}{af:Array Edge}{gd:Option (Nat×Bool)}
theorem zVl{s:Nat}{ts:List T}(hx:E s=some (.tup ts))(sd:(J7 d Γ.N&&yR ts&&(s != d)&&zJe [(d,0)] (cpF s ts [] 0))=true):Ok P Γ ⟨some d,.move (.tmp s),ty,ps,af,gd⟩ E (E.app [(d,some (.tup (cpF s ts [] 0)))] [(d,0)]):=by
 simp only[J4]at sd;obtain⟨⟨⟨s1,s2⟩,s3⟩,s4⟩:=sd;have hne:s≠d:=by simpa using s3
 intro S;refine wN.value rfl fun a w G hrep=>?_
 obtain⟨h1,h2,_⟩:=hrep.ent s _ hx;simp only[R]at h2;have hk:=G.put_keep (w:=w) (w':=w) rfl d (fun z=>G.hd s z);have hz:∀z,(G.put d (fun z=>G.hd s z)).hd d z=G.hd s z:=fun z=>by rw[Gh.put_self]
 have htop:∀(xs:List T)(j:Nat),vL (cpF s xs [] j):=by
  intro xs
  induction xs with
  |nil=>intro j;simp only[cpF,vL]
  |cons x xs ih=>intro j;simp only[cpF,vL];exact⟨qL s x _,ih _⟩
 refine⟨mkV G s (.tup ts) [],w,?_,_,vJ hrep rfl (yJ s1) (fun z=>G.hd s z) (fun z=>hrep.mem.one _ _) _ _ (by simp only[mkV];rw[zIA hz ts s2 0])
  (by simp only[R];exact zJf (fun p=>G.put_other _ p hne) ts [] [] 0 (fun z=>hz _) (xW.mono (fun r p hr=>⟨hk.hd r p hr,hk.ad r p hr⟩) _ (zG2 _ (htop ts 0) s4)) h2) (by simp only[Top];exact htop ts 0)⟩
 simp[execOp,wK h1]
end
end Go.Ab

namespace Go.Ab
open Go
end Go.Ab

namespace Go.Ab
open Go
section
variable {P:Program}{Γ:Ctx}{E:Env}{d:Nat}{x:Operand}{ty:TypeId}{ps:String}{af:Array Edge}{gd:Option (Nat×Bool)}
class zTS (P:Program) (t:TypeId) (e:outParam TypeId) (ti:outParam TypeInfo) (n:outParam Nat) (k:outParam Nat):Prop where
 un:P.underlying t=some (.array n e)
 info:P.info? e=some ti
 size:ti.size=k
theorem zVm{t e:TypeId}{ti:TypeInfo}{n k r:Nat}{q:List Nat}{xs:List T}{u:T}(i:Nat)(ht:zTS P t e ti n k)(hx:tH E x=some (r,q,.ptr (.agg xs)))(hu:xs[i]? =some u)(hoff:T.sizes (xs.take i)=i*k)(sd:(J7 d Γ.N&&J7 i n)=true):
  Ok P Γ ⟨some d,.indexAddr t x (.const (.int .i64 i)),ty,ps,af,gd⟩ E (E.app [(d,some (.addr r (i::0::q)))] [(d,0)]):=by
 simp only[J4]at sd;have hin:=yJ sd.2;intro S;refine wN.value rfl fun a w G hrep=>?_
 obtain⟨g1,g2⟩:=qY hrep hx rfl;simp only[R]at g1;obtain⟨b,cs,e',g4,_,_,_,g5,_⟩:=g1;simp only[Loc]at g5;have g6:=zBZ xs (0::q) 0 b 0 i u g5.2 hu;simp only[Jf]at g6;have g3:a.eval (.const (.int .i64 i))=.int .i64 i:=rfl;refine⟨.pointer (some (G.ad r (i::0::q))),w,?_,_,vJ hrep rfl (yJ sd.1) (fun _=>.pointer (some (G.ad r (i::0::q)))) (fun _=>rfl) _ _ (by simp[mkV,Gh.put]) (by simp[R,Gh.put]) (by simp[Top])⟩;have hlt:(i:Int)<(n:Int):=by omega
 have h0:(0:Int)≤i:=by omega
 have g7:=zB0 g6;have hin2:i<n:=hin;simp[execOp,Instr.indexAt,g3,g2,g4,asIntOf,run_underlying ht.un,h0,hin2,sizeOf,typeInfo,ht.info,ht.size,uM,tV,g7,hoff]
end
end Go.Ab
namespace Go.Ab
open Go
theorem zAA{E:Env}{ds r s:Nat}{q:List Nat}{tr u t:T}(h:E s=some t)(hne:(Jbl ds s||Jbl r s)=false:=by rfl)(hb:t.okB [(ds,1),(r,q.length+1)]=true:=by rfl):opT (vY E ds r q tr u) (.tmp s)=some t:=by
 have h1:ds≠s:=by rintro rfl;simp at hne
 have h2:r≠s:=by rintro rfl;simp at hne
 simp[opT,vY,Env.app,Wr.find,h1,h2,h,hb]
end Go.Ab
namespace Go.Ab
open Go
section
variable {P:Program}{Γ:Ctx}{pn:jO}{E E':Env}{Q Q1:Exit→Env→Prop}{c c1 c2:Code}{ops:Array Oper}{o:Oper}{os:List Oper}{id:Nat}
theorem sR(h:RW P Γ pn ops ops.toList E (wB P Γ pn c Q)):CW P Γ pn (.seq (.region id ops false) c) E Q:=CW.seq (CW.region h)
theorem rN(h:CW P Γ pn c E Q):RW P Γ pn ops [] E (wB P Γ pn c Q):=RW.nil h
theorem oP(h:Ok P Γ o E E')(k:RW P Γ pn ops os E' Q)(hg:o.guard=none:=by rfl)(hp:pn.ok o.dst=true:=by rfl):RW P Γ pn ops (o::os) E Q:=RW.op h k hg hp
def zWf(ops:List Oper):List (List Nat):=(ops.foldl (fun(acc:Array (List Nat)) o=>acc.push ((zBe o).foldl (fun l m=>m::(acc.getD m [])++l) [])) #[]).toList
theorem CW.lp{σ ρ:Type}(body:σ→Option (σ⊕ρ))(en:σ→Env)(Q1:ρ→Exit→Env→Prop){s:σ}{r:ρ}(hg:zM Γ E (en s))(h:∀s x,body s=some x→CW P Γ pn c (en s) (vT Γ en Q1 x))(hr:zI body s=some r)(hq:∀e E',Q1 r e E'→Q e E'):CW P Γ pn (.loop c) E Q:=
 (CW.mono (CW.loop body en Q1 h hr) hq).ghost hg
end
end Go.Ab

namespace Go.Ab
open Go Go.ChangeShapes
abbrev zKS(w:World):Stb:=fun b=>w.heap[b]?
theorem zPn{w:World}{a:Addr}{n:Nat}{cs:List Value}(h:w.cells? 0 a n=some cs):cs.length=n∧ ∀(i:Nat) v,cs[i]? =some v→w.cell? (a.add i)=some v:=by
 unfold World.cells? at h;rw[if_pos (Kk _)]at h;refine⟨by simpa using mapM_some_length h,fun i v hv=>?_⟩;have hi:i<n:=by have:=(Jb.1 hv).1;have h2:=mapM_some_length h;rw[Kt]at h2;omega
 rw[←hv];exact mapM_some_get h i i (by simp[hi])
theorem zOc{w:World}{a:Addr}{v:Value}(h:w.cell? a=some v):a.spot=none∧ ∃c e fr,w.heap[a.block]? =some (.cells c e fr)∧c[a.off]? =some v:=by
 simp only[World.cell?]at h;split at h
 ·rename_i c e fr hb
  split at h
  ·cases h
  ·rename_i hs
   exact⟨by cases hq:a.spot with|none=>rfl|some _=>rw[hq]at hs;simp at hs,c,e,fr,hb,h⟩
 ·cases h
theorem zKT{b o m:Nat}:(Addr.mk b o none).add m=⟨b,o+m,none⟩:=by
 unfold Addr.add;split
 ·rename_i h;subst h;rfl
 ·rfl
theorem zFO{α:Type}{Q:Nat→α→Prop}:∀(n:Nat),(∀i,i<n→ ∃x,Q i x)→ ∃xs:List α,xs.length=n∧ ∀i x,xs[i]? =some x→Q i x
 |0,_=>⟨[],rfl,fun i x h=>by simp at h⟩
 |n+1,h=>by
  obtain⟨xs,h1,h2⟩:=zFO n fun i hi=>h i (by omega)
  obtain⟨y,hy⟩:=h n (by omega);refine⟨xs++[y],by simp[h1],fun i x hx=>?_⟩;rw[L4]at hx;split at hx
  ·exact h2 i x hx
  ·rename_i hge
   have:i-xs.length=0:=by have:=(Jb.1 hx).1;simpa using this
   rw[this]at hx;simp at hx;subst hx
   rwa [show i=n from by omega]
theorem zOd{St:Stb}:(xs:List T)→ ∀(cs:Array Value)(o k:Nat),(∀i x,xs[i]? =some x→RoC St x cs (o+i*k))→RoL St xs cs o k
 | [],_,_,_,_=>by simp only[RoL]
 |x::xs,cs,o,k,h=>by
  simp only[RoL];refine⟨by simpa using h 0 x rfl,zOd xs cs (o+k) k fun i y hy=>?_⟩;have:=h (i+1) y (by simpa using hy)
  rwa [show o+k+i*k=o+(i+1)*k from by rw[Jy];omega]
section
variable {P:Program}
def RdT(P:Program)(t:TypeId)(k:Nat){α:Type}(f:α→T)(V:α→Prop):Prop:=
 ∀{H:Type}(enc:TypeId×Value→H)(w:World)(fuel:Nat)(cs:List Value)(x:DataW H×List MemPlace),DataW.trod enc P w 0 (fun _=>true) true fuel t cs=some x→
  cs.length=k→ ∃d,V d∧ ∀(A:Array Value)(o:Nat),(∀(i:Nat) v,cs[i]? =some v→A[o+i]? =some v)→RoC (zKS w) (f d) A o
theorem zWg{t:TypeId}{q:IntKind}(hu:P.underlying t=some (.int q)):RdT P t 1 (IK q) (fun n=>(Lit.int q n).wf=true):=by intro H enc w fuel cs x h _;obtain⟨n,rfl,_,hw⟩:=DataW.trod_int hu h;exact⟨n,hw,fun A o hA=>by simp only[RoC];exact⟨by simpa using hA 0 _ rfl,rfl⟩⟩
theorem zWh{α:Type}{f:α→T}{V:α→Prop}{t e:TypeId}{k:Nat}(hu:P.underlying t=some (.slice e))(hk:P.cellsOf e=k)(hk0:0<k)(h:RdT P e k f V):
  RdT P t 1 (L k f) (fun xs=>xs.length≤maxLen∧ ∀x∈xs,V x):=by
 intro H enc w fuel cs x hx _;rcases DataW.trod_slice hu hx with⟨rfl,_⟩|⟨a,len,cap,elems,rest,n,rfl,rfl,_,_,hle,hcap,hel,hget,_⟩
 ·refine⟨[],⟨by simp,by simp⟩,fun A o hA=>?_⟩
  simp only[RoC,Lw,Jw];exact⟨none,0,by simpa using hA 0 _ rfl,Jp _,by simp[maxLen],fun h=>absurd rfl h⟩
 ·subst hk
  have key:∀i,i<len→ ∃y,V y∧ ∃cs':List Value,cs'.length=P.cellsOf e∧(∀(j:Nat) v,cs'[j]? =some v→w.cell? ((a.add (i*P.cellsOf e)).add j)=some v)∧
    ∀(A:Array Value)(o:Nat),(∀(j:Nat) v,cs'[j]? =some v→A[o+j]? =some v)→RoC (zKS w) (f y) A o:=by
   intro i hi;have h1:=hget i hi;rw[J3 (by omega)]at h1;obtain⟨cs',h2,h3⟩:=Option.bind_eq_some_iff.1 h1;obtain⟨h4,h5⟩:=zPn h2;obtain⟨y,h6,h7⟩:=h enc w n cs' _ h3 h4;exact⟨y,h6,cs',h4,h5,h7⟩
  obtain⟨xs,hxl,hxs⟩:=zFO len key;refine⟨xs,⟨by omega,fun y hy=>?_⟩,fun A o hA=>?_⟩
  ·obtain⟨i,hi,rfl⟩:=G3.1 hy
   exact(hxs i _ (J3 hi)).1
  ·simp only[RoC,Jc,hxl]
   refine⟨some a,cap,by simpa using hA 0 _ rfl,hle,hcap,fun hne=>?_⟩;have hpos:0<xs.length:=by
    cases xs with
    |nil=>simp at hne
    |cons _ _=>simp
   obtain⟨_,cs0,g1,g2,_⟩:=hxs 0 _ (J3 hpos);have hz:a.add (0*P.cellsOf e)=a:=by simp[Addr.add]
   have g3:=g2 0 cs0[0] (J3 (by omega));rw[hz,show a.add 0=a from by simp[Addr.add]]at g3;obtain⟨hsp,c,e',fr,hb,_⟩:=zOc g3;obtain⟨b,off,sp⟩:=a;simp only at hsp hb;subst hsp;refine⟨b,off,c,e',fr,rfl,hb,zOd _ _ _ _ fun i y hy=>?_⟩;rw[K0,Lf]at hy;obtain⟨z,hz1,rfl⟩:=hy;obtain⟨_,cs',g1',g2',g4⟩:=hxs i z hz1;refine g4 c _ fun j v hv=>?_
   have:=g2' j v hv;rw[zKT,zKT]at this;obtain⟨_,c2,e2,fr2,hb2,hv2⟩:=zOc this;simp only at hb2 hv2;rw[hb]at hb2;cases hb2;exact hv2
theorem zJ3{H:Type}{enc:TypeId×Value→H}{w:World}{t:TypeId}{fs:Array Field}{fuel:Nat}{cs:List Value}{x:DataW H×List MemPlace}(hu:P.underlying t=some (.struct fs))(h:DataW.trod enc P w 0 (fun _=>true) true fuel t cs=some x)
  {i j k:Nat}{f:Field}(hf:fs[i]? =some f)(hj:f.offset=j)(hk:P.cellsOf f.type=k):∃n y,DataW.trod enc P w 0 (fun _=>true) true n f.type ((cs.drop j).take k)=some y:=by
 obtain⟨xs,n,_,_,_,hlen,hget⟩:=DataW.trod_struct hu h;have hi:i<xs.length:=by rw[hlen];exact(Ki.1 hf).1
 have:=hget i f hf;rw[hj,hk,J3 hi]at this;exact⟨n,_,this⟩
end
def zPo(v:Value):Value:=if v.oneCell' then v else .bool false
theorem zKU(v:Value):(zPo v).oneCell'=true:=by unfold zPo;split;assumption;rfl
theorem zJ4{v:Value}(h:v.oneCell'=true):zPo v=v:=by simp[zPo,h]
def hd0(vs:Array Value)(s:Nat)(p:List Nat):Value:=
 match vs[s]?,p with
 |some (.agg cs),[j]=>zPo (cs[j]?.getD (.bool false))
 |some v,[]=>zPo v
 |_,_=>.bool false
def G0(vs:Array Value):Gh:={ hd:=hd0 vs,ad:=fun _ _=>default,lb:=fun _ _=>none,ow:=fun _=>none }
theorem zZy(w:World)(vs:Array Value):Mem ⟨zKS w,fun _=>False,w,0⟩ (G0 vs) w where
 one s p:=by
  simp only[G0,hd0];split
  ·exact zKU _
  ·exact zKU _
  ·rfl
 lb b o l h:=by simp[G0]at h
 ow b l h:=by simp[G0]at h
 st b x h:=h
 fr b _ _:=rfl
 sz:=Jp _
 bk:=⟨fun b cs e h=>⟨cs,h,rfl⟩,rfl,rfl⟩
def RdA(P:Program)(t:TypeId){α:Type}(u:α→T)(V:α→Prop):Prop:=
 ∀{H:Type}(enc:TypeId×Value→H)(w:World)(base fuel:Nat)(v:Value)(x:DataW H×List MemPlace),DataW.trod enc P w 0 (fun _=>true) true fuel t v.cells.toList=some x→
  Value.okWide P w .any base t v→ ∃d,V d∧ ∀(vs:Array Value)(s:Nat),vs[s]? =some v→some v=some (mkV (G0 vs) s (u d) [])∧R (zKS w) (G0 vs) w s (u d) []
def RdC(P:Program)(t:TypeId){α:Type}(u:α→T)(V:α→Prop):Prop:=
 ∀{H:Type}(enc:TypeId×Value→H)(w:World)(fuel:Nat)(c:Value)(x:DataW H×List MemPlace),DataW.trod enc P w 0 (fun _=>true) true fuel t [c]=some x→
  ∃d,V d∧c.oneCell'=true∧ ∀(G:Gh)(s:Nat)(p:List Nat),G.hd s p=c→vals G s (u d) p=[c]∧R (zKS w) G w s (u d) p
section
variable {P:Program}
theorem zXF{α:Type}{f:α→T}{V:α→Prop}{t:TypeId}(h:RdT P t 1 f V)(h1:∀{H:Type}(enc:TypeId×Value→H)(w:World)(fuel:Nat)(c:Value)(x:DataW H×List MemPlace),DataW.trod enc P w 0 (fun _=>true) true fuel t [c]=some x→c.oneCell'=true):
  RdC P t (fun x=>T.ro (f x)) V:=by
 intro H enc w fuel c x hx;obtain⟨d,g1,g2⟩:=h enc w fuel [c] x hx rfl;refine⟨d,g1,h1 enc w fuel c x hx,fun G s p hp=>⟨by simp only[vals,hp],?_⟩⟩;simp only[R,hp];exact g2 _ _ fun i v hv=>by
  cases i with
  |zero=>simpa using hv
  |succ i=>simp at hv
theorem zWi{α:Type}{f:α→T}{V:α→Prop}{t e:TypeId}{k:Nat}(hu:P.underlying t=some (.slice e))(hk:P.cellsOf e=k)(hk0:0<k)(h:RdT P e k f V):RdC P t (fun xs=>T.ro (L k f xs)) (fun xs=>xs.length≤maxLen∧ ∀x∈xs,V x):=
 zXF (zWh hu hk hk0 h) fun enc w fuel c x hx=>by
  rcases DataW.trod_slice hu hx with⟨h1,_⟩|⟨a,len,cap,_,_,_,_,h1,_⟩<;>
  ·simp only[Jc1.injEq,and_true]at h1
   subst h1;rfl
theorem zId{w:World}{base:Nat}{t:TypeId}{fs:Array Field}{v:Value}(hu:P.underlying t=some (.struct fs))(h:Value.okWide P w .any base t v):∃cs,v=.agg cs∧cs.size=P.cellsOf t:=by simp only[Value.okWide,hu]at h;obtain⟨cs,h1,h2,_⟩:=h;exact⟨cs,h1,h2⟩
theorem zXG{α β γ δ:Type}{ua:α→T}{ub:β→T}{uc:γ→T}{Va:α→Prop}{Vb:β→Prop}{Vc:γ→Prop}{t:TypeId}{f0 f1 f2:Field}(mk:α→β→γ→δ){u:δ→T}{V:δ→Prop}
  (hu:P.underlying t=some (.struct #[f0,f1,f2]))(hc:P.cellsOf t=3)(h0:f0.offset=0∧P.cellsOf f0.type=1)(h1:f1.offset=1∧P.cellsOf f1.type=1)(h2:f2.offset=2∧P.cellsOf f2.type=1)
  (ra:RdC P f0.type ua Va)(rb:RdC P f1.type ub Vb)(rc:RdC P f2.type uc Vc)(hmk:∀a b c,u (mk a b c)=T.agg [ua a,ub b,uc c])(hV:∀a b c,Va a→Vb b→Vc c→V (mk a b c)):RdA P t u V:=by
 intro H enc w base fuel v x hx hok;obtain⟨cs,rfl,hsz⟩:=zId hu hok;obtain⟨l,rfl⟩:∃l:List Value,cs=l.toArray:=⟨cs.toList,by simp⟩;rw[hc,Jc3]at hsz;obtain⟨c0,c1,c2,rfl⟩:∃a b c,l=[a,b,c]:=by
  match l,hsz with
  | [a,b,c],_=>exact⟨a,b,c,rfl⟩
 simp only[Value.cells]at hx;obtain⟨n0,y0,g0⟩:=zJ3 hu hx (i:=0) rfl h0.1 h0.2;obtain⟨n1,y1,g1⟩:=zJ3 hu hx (i:=1) rfl h1.1 h1.2;obtain⟨n2,y2,g2⟩:=zJ3 hu hx (i:=2) rfl h2.1 h2.2;simp only[List.drop_succ_cons,G4,K9,K6]at g0 g1 g2;obtain⟨a,a1,a2,a3⟩:=ra enc w n0 c0 _ g0;obtain⟨b,b1,b2,b3⟩:=rb enc w n1 c1 _ g1;obtain⟨c,e1,e2,e3⟩:=rc enc w n2 c2 _ g2;refine⟨mk a b c,hV a b c a1 b1 e1,fun vs s hvs=>?_⟩;have k0:(G0 vs).hd s [0]=c0:=by simp[G0,hd0,hvs,zJ4 a2]
 have k1:(G0 vs).hd s [1]=c1:=by simp[G0,hd0,hvs,zJ4 b2]
 have k2:(G0 vs).hd s [2]=c2:=by simp[G0,hd0,hvs,zJ4 e2]
 rw[hmk];simp only[mkV,yF,(a3 _ _ _ k0).1,(b3 _ _ _ k1).1,(e3 _ _ _ k2).1,Jq,Ji,R,RF];exact⟨trivial,(a3 _ _ _ k0).2,(b3 _ _ _ k1).2,(e3 _ _ _ k2).2,trivial⟩
end
theorem FnC.top{P:Program}{f:FuncId}{us:List T}(h:FnC P f us [B true] []){w:World}{vs:Array Value}(hsz:vs.size=us.length)
  (ha:∀(i:Nat) u,us[i]? =some u→vs[i]? =some (mkV (G0 vs) i u [])∧R (zKS w) (G0 vs) w i u []):
  Calls P f vs w fun e w'=>e=.returned (.bool true)∧w'.os=w.os∧w'.output=w.output∧w.heap.size≤w'.heap.size∧ ∀b,b<w.heap.size→w'.heap[b]? =w.heap[b]?:=by
 refine(h (zKS w) (fun _=>False) w (G0 vs) vs hsz (fun i u hu=>?_) (zZy w vs)).mono fun e w'=>?_
 ·obtain⟨h1,h2⟩:=ha i u hu
  refine⟨?_,h2⟩;rw[h1]
 ·rintro⟨S',G',nd,_,he,hm,hnd,hr,_,_⟩
  match nd,hnd with
  | [(s,p,t)],hnd=>
   simp only[Ju,Lw,Jc1.injEq,and_true]at hnd;subst hnd;have:=(hr (s,p,B true) (by simp)).1;simp only[R]at this;exact⟨by rw[he];simp only[zK5,tZ,this],hm.bk.os,hm.bk.out,hm.sz,fun b hb=>hm.fr b hb (fun h=>h)⟩
theorem zDv{H:Type}{enc:TypeId×Value→H}{P:Program}(hl:laidOutB P=true){W W':World}{sp:Nat→Bool}:∀{ts:List TypeId}{vs:List Value}{ds:List (DataW H)}{ps:List MemPlace},(∀t∈ts,P.readableRec t=true∧t<P.types.size)→
  DataW.TrodAll enc P W 0 (fun _=>true) true ts vs ds ps→(∀p∈ps,W.sameAt W' p)→(∀p∈ps,sp p.block=true)→DataW.TrodAll enc P W' 0 sp true ts vs ds ps
 | [],[],[],_,_,h,_,_=>h
 |t::ts,v::vs,d::ds,ps,hr,h,h1,h2=>by
  obtain⟨p,q,g1,g2,rfl⟩:=h;exact⟨p,q,Go.WideElems.Trod_stays hl (hr t (by simp)).1 (hr t (by simp)).2 g1 (fun x hx=>h1 x (by simp[hx])) (fun x hx=>h2 x (by simp[hx])),
   zDv hl (fun t' ht'=>hr t' (by simp[ht'])) g2 (fun x hx=>h1 x (by simp[hx])) (fun x hx=>h2 x (by simp[hx])),rfl⟩
 | [],_::_,_,_,_,h,_,_| [],[],_::_,_,_,h,_,_|_::_,[],_,_,_,h,_,_|_::_,_::_,[],_,_,h,_,_=>h.elim
theorem zM9{C:Checked}{os:Os}(own:ownKnob C.prog.godebug=none)(started:os.Started){f:FuncId}{fn:Func}(noInit:C.prog.inits.idxOf? f=none)(hfn:C.prog.funcs[f]? =some fn){H:Type}{enc:TypeId×Value→H}{s:ChangeSpec}{conds:List PathCond}{apart fresh handsOn again:Bool}
  (witness:∃(w:World)(tape:Tape)(i:Input),w.os=os∧(w.forCall tape i).Shaped C.prog∧i.vars=[]∧Input.okWide C.prog (w.forCall tape i) .any w.heap.size f i∧
   s.pre6 enc C.prog fn conds apart (w.forCall tape i).memory i.args∧Assume.holds {} C.prog (lone (Frame.enter C.prog f i.args .normal) [] (w.forCall tape i)))
  (hs:∀(l:List (DataW H)),l.length=fn.params.size→(s.fn H l).results=[.lit (.bool true)]∧(s.fn H l).args=l∧(s.fn H l).vars=[])(hvars:s.vars=[]){tb:TypeId}(hrt:fn.resultTypes= #[tb])(hb:C.prog.underlying tb=some .bool)
  (laid:laidOutB C.prog=true)(hread:fn.params.toList.all (fun t=>C.prog.readableRec t&&decide (t<C.prog.types.size))=true)
  (law:∀(W:World)(base:Nat)(args:Array Value)(ds:List (DataW H))(p:List MemPlace),(∀(j:Nat) t v,fn.params[j]? =some t→args[j]? =some v→Value.okWide C.prog W .any base t v)→
   DataW.TrodAll enc C.prog W 0 (fun _=>true) true fn.params.toList args.toList ds p→
   ∃us:List T,args.size=us.length∧FnC C.prog f us [B true] []∧ ∀(i:Nat) u,us[i]? =some u→args[i]? =some (mkV (G0 args) i u [])∧R (zKS W) (G0 args) W i u []):
  ReturnsInHanded {} C os f .any (s.pre6 enc C.prog fn conds apart) (s.post enc C.prog fn apart fresh handsOn again):=by
 refine returnsInHanded_of_change (C:=C) own started noInit hfn witness ?_;intro W base args ds gs before hval hW _ _;have hW':=hW;obtain⟨p,q,hA,hV,hbq,hfz,hnd⟩:=hW;obtain⟨us,h1,h2,h3⟩:=law W base args ds p hval hA;have hl:ds.length=fn.params.size:=by
  have:∀{ts:List TypeId}{vs:List Value}{ds:List (DataW H)}{p:List MemPlace},DataW.TrodAll enc C.prog W 0 (fun _=>true) true ts vs ds p→ds.length=ts.length:=by
   intro ts
   induction ts with
   |nil=>intro vs ds p h;cases vs<;>cases ds<;>first|rfl|exact h.elim
   |cons t ts ih=>intro vs ds p h;cases vs<;>cases ds<;>first|exact h.elim|(obtain⟨_,_,_,g,_⟩:=h;simp[ih g])
  simpa using this hA
 rw[hvars]at hV;have hq:gs=[]∧q=[]:=by
  cases gs with
  |nil=>exact⟨rfl,hV⟩
  |cons _ _=>exact hV.elim
 obtain⟨rfl,rfl⟩:=hq;have hlt:=hW'.lt;refine(h2.top h1 h3).mono fun e w' ⟨he,ho,hq,hsz,hh⟩=>⟨_,he,?_⟩
 have hsame:∀p∈before,W.sameAt w' p:=fun p hp=>by
  have:=hlt p hp;cases p with
  |cell b off=>simp only[World.sameAt,World.cell?,hh b this]
  |map b=>exact hh b this
 obtain⟨k1,k2,k3⟩:=hs ds hl;have hbp:before=p:=by simpa using hbq
 subst hbp;have hrd:∀t∈fn.params.toList,C.prog.readableRec t=true∧t<C.prog.types.size:=fun t ht=>by have:=Kh.1 hread t ht;simpa using this
 have hres:∀(b:Nat)(sp:Nat→Bool)(hd:Bool),DataW.TrodAll enc C.prog w' b sp hd fn.resultTypes.toList ((Value.bool true).resultList fn.resultTypes.size) (s.fn H (ds++[])).results []:=fun b sp hd=>by rw[hrt,J9,k1];exact⟨[],[],⟨1,by simp[DataW.trod,hb,Value.cells]⟩,⟨rfl,rfl⟩⟩
 have hargs:∀sp:Nat→Bool,(∀p∈before,sp p.block=true)→DataW.TrodAll enc C.prog w' 0 sp true fn.params.toList args.toList (s.fn H (ds++[])).args before:=fun sp hsp=>by rw[J9,k2];exact zDv laid hrd hA hsame hsp
 have hvrs:∀sp:Nat→Bool,DataW.TrodVars enc C.prog w' sp s.vars (s.fn H (ds++[])).vars []:=fun sp=>by rw[hvars,J9,k3];rfl
 have hold:∀p∈before,(fun b=>decide (b<W.heap.size)) p.block=true:=fun p hp=>by simpa using hlt p hp
 have hfr:∀p∈before,∀o,w'.frozen? ⟨p.block,o,none⟩=W.frozen? ⟨p.block,o,none⟩:=fun p hp o=>by simp only[World.frozen?,hh _ (hlt p hp)]
 refine⟨ds,[],before,[],before,[],hW',hres _ _ _,hargs _ hold,hvrs _,⟨ho,hq,fun i hi=>?_⟩,fun _=>⟨fun j t r hj hr=>?_,_,_,([]++before)++[],⟨[]++before,[],trodAll_append (hargs _ (fun _ _=>rfl)) (hres _ _ _),hvrs _,rfl,fun b off hp=>?_,fun ha=>?_⟩,fun p hp _=>?_⟩⟩
 ·rw[hh i hi]
  cases hx:W.heap[i]? with
  |none=>rfl
  |some o=>cases o<;>simp
 ·rw[hrt]at hj hr
  match j,hj,hr with
  |0,hj,hr=>
   simp[Value.resultList]at hj hr;subst hj;subst hr;simp[Value.okWide,hb,Cell.okWide,Cell.ok]
 ·have hp':MemPlace.cell b off∈before:=by simpa using hp
  exact(hfr _ hp' off).trans (hfz b off hp')
 ·have:=hnd ha
  simpa using this
 ·simpa using hp
end Go.Ab

namespace Go.Ab
open Go
def jG(hs:List Nat)(E:Env):Prop:=∀s,hs.contains s=true→ ∃t,E s=some t∧zAN t=true
def zWj(hs:List Nat)(z:Nat×Option T):Bool:=!hs.contains z.1||match z.2 with
 |some t=>zAN t
 |none=>false
def wrS(hs:List Nat)(X:Stp):Bool:=X.l.all fun y=>y.1.all (zWj hs)
theorem zKV{s:Nat}{x:Option T}:∀{wr:Wr},wr.find s=some x→(s,x)∈wr
 | [],h=>by simp[Wr.find]at h
 |(k,y)::wr,h=>by
  simp only[Wr.find]at h;split at h
  ·rename_i e;subst e;simp at h;subst h;simp
  ·exact H5 _ (zKV h)
theorem jG.apps{hs:List Nat}:∀(l:zEm)(E:Env),jG hs E→(l.all fun y=>y.1.all (zWj hs))=true→jG hs (E.apps l)
 | [],_,h,_=>h
 |x::l,E,h,hw=>by
  simp only[Jbt,J4]at hw;refine jG.apps l (E.app x.1 x.2) (fun s hs'=>?_) hw.2;obtain⟨t,he,ht⟩:=h s hs';unfold Env.app;cases hf:x.1.find s with
  |some y=>
   have h1:=Kh.1 hw.1 _ (zKV hf);simp only[zWj,hs',Ky,Bool.false_or]at h1;cases y with
   |none=>simp at h1
   |some u=>exact⟨u,rfl,h1⟩
  |none=>simp only[he];exact⟨t,by simp[(uW ht x.2).1],ht⟩
theorem jG.runD{hs:List Nat}:∀(l:List (Bool×Stp))(E:Env),jG hs E→(∀y∈l,wrS hs y.2=true)→jG hs (runD E l)
 | [],_,h,_=>h
 |(b,X)::l,E,h,hw=>by
  simp only[Go.Ab.runD];refine jG.runD l _ ?_ fun y hy=>hw y (by simp[hy])
  cases b with
  |true=>exact jG.apps X.l E h (hw (true,X) (by simp))
  |false=>exact h
section
variable {P:Program}{Γ:Ctx}{pn:jO}{E E':Env}{Q:Exit→Env→Prop}{ops:Array Oper}{o:Oper}{os:List Oper}{id:Nat}{wr:Wr}{chg:Chg}{hs:List Nat}
def zHa(P:Program)(Γ:Ctx)(pn:jO)(ops:Array Oper)(o:Oper)(E E':Env):Prop:=
 ∀(a:Act)(w:World)(K:Act→World→Prop)(Q:Exit→Act→World→Prop),pn.Hold a→qX Γ E a w→(∀a' w',qX Γ E' a' w'→(∀s,o.dst≠some s→a'.tmps[s]? =a.tmps[s]?)→K a' w')→
  if Region.wanted o (yielded ops a.tmps)then o.wp P a w K Q∨(o.asks P a w∧LetsOut Q)else K (a.put o.dst undef) w
def vM(P:Program)(Γ:Ctx)(pn:jO)(hs:List Nat)(ops:Array Oper):List Oper→List Stp→Prop
 | [],[]=>True
 |o::os,X::Xs=>(∀E:Env,E.Has X.rd→jG hs E→zHa P Γ pn ops o E (E.apps X.l))∧vM P Γ pn hs ops os Xs
 |_,_=>False
theorem vM.get:∀(os:List Oper)(Xs:List Stp),vM P Γ pn hs ops os Xs→os.length=Xs.length∧ ∀(i:Nat)(o:Oper)(X:Stp),os[i]? =some o→Xs[i]? =some X→ ∀E:Env,E.Has X.rd→jG hs E→zHa P Γ pn ops o E (E.apps X.l)
 | [],[],_=>⟨rfl,fun i o X h=>by simp at h⟩
 |o::os,X::Xs,h=>by
  obtain⟨h1,h2⟩:=vM.get os Xs h.2;refine⟨by simp[h1],fun i o' X' ho hX=>?_⟩;cases i with
  |zero=>simp at ho hX;subst ho hX;exact h.1
  |succ i=>exact h2 i o' X' (by simpa using ho) (by simpa using hX)
 | [],_::_,h=>by simp[vM]at h
 |_::_,[],h=>by simp[vM]at h
theorem vM.snoc{X:Stp}:∀(os:List Oper)(Xs:List Stp),vM P Γ pn hs ops os Xs→(∀E:Env,E.Has X.rd→jG hs E→zHa P Γ pn ops o E (E.apps X.l))→vM P Γ pn hs ops (os++[o]) (Xs++[X])
 | [],[],_,h=>⟨h,trivial⟩
 |_::os,_::Xs,h1,h=>⟨h1.1,vM.snoc os Xs h1.2 h⟩
 | [],_::_,h,_=>by simp[vM]at h
 |_::_,[],h,_=>by simp[vM]at h
theorem sP.snoc{X:Stp}:∀(Xs:List Stp)(E:Env),sP E Xs→(runD E (Xs.map fun y=>(true,y))).Has X.rd→sP E (Xs++[X])
 | [],_,_,h=>⟨by simpa[runD]using h,trivial⟩
 |_::Xs,_,h1,h=>⟨h1.1,sP.snoc Xs _ h1.2 (by simpa[runD]using h)⟩
theorem zJ5{E0:Env}{hs0:List Nat}{Xs:List Stp}{an:List (List Nat)}{Q':Exit→Act→World→Prop}(hf:zA9 0 ops.toList=true)(ha:zAb an an ops.toList=true)(hp:jP Xs 0 an Xs=true)
  (hst:vM P Γ pn hs0 ops ops.toList Xs)(hI:jG hs0 E0)(hw:Xs.all (wrS hs0)=true)(hh:sP E0 Xs)(hpn:ops.toList.all (fun o=>pn.ok o.dst)=true)(hQ:∀a' w',qX Γ (runD E0 (Xs.map fun y=>(true,y))) a' w'→pn.Hold a'→Q' .normal a' w'):
  ∀(fuel:Nat)(L:List Bool)(a:Act)(w:World),L.length=ops.size→L.count false=fuel→zQP ops L→qX Γ (runD E0 (L.zip Xs)) a w→pn.Hold a→wpAny P .any ops Q' fuel L.toArray a w:=by
 obtain⟨hlen,hstep⟩:=vM.get _ _ hst;have hlen':Xs.length=ops.size:=by rw[←hlen];simp
 intro fuel
 induction fuel with
 |zero=>
  intro L a w hL hcnt hcl hs hpa;have hall:∀b∈L,b=true:=fun b hb=>by
   cases b with
   |true=>rfl
   |false=>exact absurd hb (Jb6.1 hcnt)
  have hLt:L=J1 ops.size true:=by rw[←hL];exact List.eq_replicate_iff.2 ⟨rfl,hall⟩
  refine⟨?_,?_⟩
  ·apply List.eq_nil_iff_forall_not_mem.2
   intro j hj;obtain⟨h1,o,ho,_⟩:=mem_ready.1 hj;have hlt:=(Ki.1 ho).1;rw[hLt]at h1;simp[hlt]at h1
  ·refine hQ a w ?_ hpa
   have:L.zip Xs=Xs.map fun y=>(true,y):=by
    rw[hLt,←hlen']
    clear hs hL hLt hall hcnt hcl hst hw hh hp hlen hlen' hstep hQ
    induction Xs with
    |nil=>rfl
    |cons X Xs ih=>simp[Jo,ih]
   rw[this]at hs;exact hs
 |succ fuel ih=>
  intro L a w hL hcnt hcl hs hpa;refine⟨fun hr=>?_,fun i hi=>?_⟩
  ·
   exfalso
   have hex:∃m:Nat,L[m]? =some false:=by
    have:false∈L:=by apply Classical.byContradiction;intro h;rw[Jb6.2 h]at hcnt;omega
    exact Jaj.1 this
   obtain⟨m,hm,hmin⟩:=zBd hex;have hmlt:=(Jb.1 hm).1;have hom:ops[m]? =some ops[m]:=by simp[hL▸hmlt]
   have:m∈Region.ready .any ops L.toArray:=by
    refine mem_ready.2 ⟨by simp[K5,hm],ops[m],hom,fun e he hb=>?_⟩;have hpm:e.on∈zBe ops[m]:=by simp only[zBe,Jt,Jbx];exact⟨e,⟨by simpa using he,hb⟩,rfl⟩
    have hlt:=zGk ops.toList 0 m _ hf (by rw[K7];exact hom) _ hpm;rw[Jf]at hlt;cases hL1:L[e.on]? with
    |none=>rw[Qw]at hL1;omega
    |some b=>
     cases b with
     |false=>exact absurd hL1 (hmin _ hlt)
     |true=>simp[K5,hL1]
   rw[hr]at this;cases this
  ·obtain⟨h1,o,ho,hall⟩:=mem_ready.1 hi
   have hlt:=(Ki.1 ho).1;have hLi:L[i]? =some false:=by
    cases hb:L[i]? with
    |none=>rw[Qw]at hb;omega
    |some b=>simp[K5,hb]at h1;rw[h1]
   have hpr:∀m∈zBe o,L[m]? =some true:=by
    intro m hm;simp only[zBe,Jt,Jbx]at hm;obtain⟨e,⟨he,hb⟩,rfl⟩:=hm;have:=hall e (by simpa using he) hb;cases hL1:L[e.on]? with
    |none=>simp[K5,hL1]at this
    |some b=>simp[K5,hL1]at this;rw[this]
   have hanc:=zGS hf ha hcl i i (Jp _) o ho hpr;have hXi:Xs[i]? =some Xs[i]:=by simp[hlen'▸hlt]
   generalize hXe:Xs[i]=X at hXi
   have hlate:∀(j:Nat)(Y:Stp),Xs[j]? =some Y→i<j→L[j]? =some true→X.apart Y=true:=by
    intro j Y hY hij hj;rcases zFe Xs Xs 0 an j Y hp hY i X (by omega) hXi with h|h
    ·have hjlt:=(Jb.1 hY).1
     have hoj:ops[j]? =some ops[j]:=by simp[hlen'▸hjlt]
     have:=zGS hf ha hcl j j (Jp _) _ hoj (hcl j _ hoj hj) i h;rw[hLi]at this;cases this
    ·exact h
   have hearly:∀(j:Nat)(Y:Stp),Xs[j]? =some Y→j<i→L[j]? =some false→Y.apart X=true:=by
    intro j Y hY hij hj;rcases zFe Xs Xs 0 an i X hp hXi j Y (by omega) hY with h|h
    ·rw[hanc j h]at hj;cases hj
    ·exact h
   have hpre:∀y∈(L.take i).zip (Xs.take i),∃j:Nat,j<i∧L[j]? =some y.1∧Xs[j]? =some y.2:=by
    intro y hy;obtain⟨j,g1,g2⟩:=zJy hy;rw[H3]at g1 g2;split at g1
    ·rename_i hlt';simp[hlt']at g2;exact⟨j,hlt',g1,g2⟩
    ·cases g1
   have hpost:∀y∈(L.drop (i+1)).zip (Xs.drop (i+1)),∃j:Nat,i<j∧L[j]? =some y.1∧Xs[j]? =some y.2:=by intro y hy;obtain⟨j,g1,g2⟩:=zJy hy;rw[Ko]at g1 g2;exact⟨i+1+j,by omega,g1,g2⟩
   have hsp:=zI6 hLi hXi;have hhas:(runD E0 (L.zip Xs)).Has X.rd:=by
    rw[hsp,kF];simp only[runD,Ga,if_false];have h0:=sP.get Xs E0 hh i X hXi;refine h0.of fun s t hst hs0=>?_
    have hsm:s∈X.rd.map (·.1):=Jt.2 ⟨_,hst,rfl⟩;refine zI5 _ _ (fun y hy hb=>?_) ?_
    ·obtain⟨j,g1,g2,g3⟩:=hpost y hy
     have:=Stp.apart_spec (hlate j y.2 g3 g1 (by rw[g2,hb]));exact⟨fun hs'=>this.2.2.1 s hs' hsm,fun z hz=>this.2.2.2 _ hst z hz⟩
    ·have hmp:((L.take i).zip (Xs.take i)).map (fun y=>(true,y.2))=(Xs.take i).map fun y=>(true,y):=by
      have hl2:(L.take i).length=(Xs.take i).length:=by simp;omega
      rw[show(fun y:Bool×Stp=>(true,y.2))=(fun y=>(true,y))∘Prod.snd from rfl,←Jbp,List.map_snd_zip (by omega)]
     refine zI4 _ E0 E0 (fun y hy hb hs'=>?_) (fun _ h=>h) t (by rw[hmp];exact hs0);obtain⟨j,g1,g2,g3⟩:=hpre y hy;have:=Stp.apart_spec (hearly j y.2 g3 g1 (by rw[g2,hb]));exact this.2.1 s hs' hsm
   have hnext:runD E0 ((L.set i true).zip Xs)=(runD E0 (L.zip Xs)).apps X.l:=by
    have hLs:(L.set i true)[i]? =some true:=by simp[hL▸hlt]
    rw[zI6 hLs hXi,hsp,kF,kF];simp only[runD,if_true,Ga,if_false,List.take_set_of_le (Jp i),List.drop_set_of_lt (Nat.lt_succ_self i)];refine zFd _ X _ fun y hy hb=>?_
    obtain⟨j,g1,g2,g3⟩:=hpost y hy;exact(Stp.apart_spec (hlate j y.2 g3 g1 (by rw[g2,hb]))).1
   have hstp:=hstep i o X (by rw[K7];exact ho) hXi _ hhas (jG.runD (L.zip Xs) E0 hI fun y hy=>Kh.1 hw _ (by obtain⟨j,_,g⟩:=zJy hy;exact Kd g));unfold wpOp;simp only[ho];refine hstp a w _ Q' hpa hs fun a' w' hs' hfr=>?_
   rw[List.setIfInBounds_toArray];have hok:pn.ok o.dst=true:=Kh.1 hpn o (Kd (by rw[K7];exact ho));refine ih (L.set i true) a' w' (by simp[hL]) (by have:=zPj hLi;omega) ?_ (by rw[hnext];exact hs') (hpa.frame hok hfr);intro k ok hk hkt m hm
   by_cases hki:k=i
   ·subst hki
    rw[ho]at hk;simp at hk;subst hk;rw[Jc4];split
    ·split
     ·rfl
     ·omega
    ·exact hpr m hm
   ·rw[Jad (Ne.symm hki)]at hkt
    rw[Jc4];split
    ·split
     ·rfl
     ·omega
    ·exact hcl k ok hk hkt m hm
theorem CW.drawnI{hs0:List Nat}{id:Nat}{E:Env}{Q:Exit→Env→Prop}(Xs:List Stp)(an:List (List Nat))(hm:P.follows .mixedOrders=true)(hst:vM P Γ pn hs0 ops ops.toList Xs)(hI:jG hs0 E)(hw:Xs.all (wrS hs0)=true)(hh:sP E Xs)
  (hQ:Q .normal (runD E (Xs.map fun y=>(true,y))))(hf:zA9 0 ops.toList=true:=by rfl)(ha:zAb an an ops.toList=true:=by rfl)(hp:jP Xs 0 an Xs=true:=by rfl)
  (hpn:ops.toList.all (fun o=>pn.ok o.dst)=true:=by rfl):CW P Γ pn (.region id ops true) E Q:=by
 intro a w Q' hs hpa hQ';refine wp_region_any hm ?_;have hs':qX Γ E a { w with drawn:=w.drawn+1 }:=by obtain⟨S,hS,hdf,G,hr⟩:=hs;exact⟨S,hS,hdf,G,hr.heap rfl⟩
 have:=zJ5 (P:=P) (Γ:=Γ) (pn:=pn) (E0:=E) (Q':=Q') hf ha hp hst hI hw hh hpn (fun a' w' h1 h2=>hQ' _ _ _ _ hQ h1 h2) ops.size (J1 ops.size false) a { w with drawn:=w.drawn+1 } (by simp) (by simp)
  (fun i o ho hi=>by
   rw[Kr]at hi;split at hi<;>cases hi) (by
   have:runD E ((J1 ops.size false).zip Xs)=E:=by
    generalize ops.size=n
    clear hst hI hw hh hQ hf ha hp hs'
    induction n generalizing Xs with
    |zero=>simp[runD]
    |succ n ih=>
     cases Xs with
     |nil=>simp[runD]
     |cons X Xs=>simpa[Jo,runD]using ih Xs
   rw[this];exact hs') hpa
 simpa using this
def DK(P:Program)(Γ:Ctx)(pn:jO)(ops:Array Oper)(id:Nat)(hs:List Nat)(E0:Env)(Q:Exit→Env→Prop)(os:List Oper)(E:Env)(acc:List Stp):Prop:=
 ∀don,don++os=ops.toList→vM P Γ pn hs ops don acc.reverse→sP E0 acc.reverse→E=runD E0 (acc.reverse.map fun y=>(true,y))→CW P Γ pn (.region id ops true) E0 Q
variable {E0:Env}{acc:List Stp}
theorem CW.dk(h:DK P Γ pn ops id [] E Q ops.toList E []):CW P Γ pn (.region id ops true) E Q:=h [] rfl trivial trivial rfl
theorem CW.dkS(hs:List Nat)(h:DK P Γ pn ops id hs E Q ops.toList E []):CW P Γ pn (.region id ops true) E Q:=h [] rfl trivial trivial rfl
theorem dGP(rd:List (Nat×T))(l:zEm)(hrd:E.Has rd)(hst:∀E':Env,E'.Has rd→jG hs E'→zHa P Γ pn ops o E' (E'.apps l))(k:DK P Γ pn ops id hs E0 Q os (E.apps l) (⟨rd,l⟩::acc)):DK P Γ pn ops id hs E0 Q (o::os) E acc:=by
 intro don hd hso hh hE;subst hE;have hr:=fun X=>H0 (a:=X) (as:=acc)
 refine k (don++[o]) (by simp[hd]) ?_ ?_ ?_
 ·rw[hr];exact vM.snoc don _ hso hst
 ·rw[hr];exact sP.snoc _ _ hh hrd
 ·rw[hr,Ks,kF];rfl
theorem dGS(rd:List (Nat×T))(l:zEm)(hrd:E.Has rd)(hst:∀E':Env,E'.Has rd→jG hs E'→zW P Γ ops o E' (E'.apps l))(k:DK P Γ pn ops id hs E0 Q os (E.apps l) (⟨rd,l⟩::acc)):DK P Γ pn ops id hs E0 Q (o::os) E acc:=
 dGP rd l hrd (fun E' h h' a w K Q _=>hst E' h h' a w K Q) k
theorem dG(rd:List (Nat×T))(l:zEm)(hrd:E.Has rd)(hst:∀E':Env,E'.Has rd→zW P Γ ops o E' (E'.apps l))(k:DK P Γ pn ops id hs E0 Q os (E.apps l) (⟨rd,l⟩::acc)):DK P Γ pn ops id hs E0 Q (o::os) E acc:=
 dGS rd l hrd (fun E' h _=>hst E' h) k
def zRf(hs:List Nat)(E:Env):Bool:=hs.all fun s=>match E s with
 |some t=>zAN t
 |none=>false
theorem zRg(h:zRf hs E=true):jG hs E:=by
 intro s hs';have h1:=Kh.1 h s (by simpa using hs');cases he:E s with
 |none=>simp[he]at h1
 |some t=>exact⟨t,rfl,by simpa[he]using h1⟩
theorem dN(an:List (List Nat))(hm:P.follows .mixedOrders=true)(hQ:Q .normal E)(hf:zA9 0 ops.toList=true:=by rfl)(ha:zAb an an ops.toList=true:=by rfl)(hp:jP acc.reverse 0 an acc.reverse=true:=by rfl)
  (hpn:ops.toList.all (fun o=>pn.ok o.dst)=true:=by rfl)(hh0:zRf hs E0=true:=by rfl)(hw:acc.reverse.all (wrS hs)=true:=by rfl):DK P Γ pn ops id hs E0 Q [] E acc:=by
 intro don hd hst hh hE;subst hE;refine CW.drawnI acc.reverse an hm ?_ (zRg hh0) hw hh hQ hf ha hp hpn;rw[←hd,J9];exact hst
end
end Go.Ab
