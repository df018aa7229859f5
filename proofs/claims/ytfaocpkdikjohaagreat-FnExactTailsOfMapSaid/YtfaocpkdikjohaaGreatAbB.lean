/- The program's TailsOfMap returns what the reference's returns,for all arguments;no conditions. -/
import Derived.Test.YtfaocpkdikjohaaGreatAbA
import Derived.Laws.CopyRow
import Derived.ProofKit
open List renaming replicate→J1,getElem?_eq_getElem→J3,length_append→J5,length_cons→J6,getElem?_append_right→J8,append_nil→J9,append_assoc→Ja,getElem?_eq_some_iff→Jb,mem_cons→Jc,length_map→Jd,nil_append→Ji,mem_append→Jj,range→Jl,getElem?_append_left→Jm,cons_append→Jp,replicate_succ→Jq,mem_map→Js,length_nil→Ju,map_cons→Jv,getElem?_map→K1,length_take→K3,take_zero→K7,take_succ_cons→Kb,eq_nil_of_length_eq_zero→Kd,mem_of_getElem?→Kh,all_eq_true→Ki,getElem?_drop→Ko,reverse_reverse→Ks,getElem?_replicate→Kw,map_append→Kx,length_range→Ky,getElem?_append→L5,range'→Lb,reverse_nil→Lg,nodup_cons→Lj,set_cons_succ→Lm,flatMap_cons→Ln,range_eq_range'→Ls,singleton_append→Lw,map_nil→Ly,contains_eq_mem→H0,reverse_cons→H2,getElem?_take→H5,mem_cons_of_mem→H7,mem_iff_getElem→Ga,drop_zero→Gb,getElem?_set_self→Uu,getElem?_cons_succ→Uy,cons→Qs,map_take→Qu,getElem?_eq_none_iff→Ja0,getD→Ja8,getElem?_set_ne→Jak,find?_cons_of_neg→Jan,mem_iff_getElem?→Jaq,getLast?_append→Jaz,dropLast_concat→Jb0,map_set→Jb8,find?_eq_none→Jb9,count_eq_zero→Jbb,map_map→Jbs,all_cons→Jbx,mem_filter→Jc1,size_toArray→Jc6,getElem?_set→Jc7,map_drop→Jd2,set_set→Jdb,range'_succ→Jdc
open Bool renaming and_eq_true→J4,not_true→Ka,and_self→Kz,not_eq_true'→Gd,false_eq_true→Gk
open Nat renaming blt→J7,zero_add→Jg,lt_or_ge→Jk,le_refl→Jo,succ_mul→Jy,mul_le_mul_right→Kl,zero_le→Kn,le_trans→L9,mul_comm→H4,div_add_mod→Ha,div_lt_iff_lt_mul→Hp,add_zero→Hy,mod_lt→Gm,sub_zero→Ud,mul_one→Qt,beq→Jbo
open Array renaming getElem?_setIfInBounds→Jf,getD_eq_getD_getElem?→K8,getElem?_toList→K9,length_toList→Kk,getElem?_eq_some_iff→Km,getElem?_setIfInBounds_ne→H3,replicate→Qo,getElem?_append→Jao
open Int renaming emod_eq_of_lt→Kj,add_emod_right→Us
open Option renaming some→L8,map_eq_some_iff→Lf,map_some→Hk,getD_some→Ql,map_eq_none_iff→Ja1
open Prod renaming mk→Jb2
open Option renaming some→ja,none→jb
open Bool renaming true→jc,false→jd
namespace Go.Ab
open Go
mutual
def clo(E:Env):T→T
 |.agg ts=>.agg (zAY E ts)
 |.lit v=>.lit v
 |.ro u=>.ro u
 |.same r q=>match qF E 4 r q with
  |some (_,_,.ro u)=>.ro u
  |some (_,_,.lit v)=>.lit v
  |some (_,_,t)=>if t.single then .ro (strip t)else .any
  |none=>.any
 |.sub r q k lo hi=>match qF E 4 r q with
  |some (_,_,.sl k' xs)=>if k=k'∧lo≤hi∧hi≤xs.length then .ro (.sl k (((wV xs).drop lo).take (hi-lo)))else .any
  |_=>.any
 |.sl k xs=>.ro (strip (.sl k xs))
 |.ptr t=>.ro (strip (.ptr t))
 |.any|.addr _ _|.tup _=>.any
def zAY(E:Env):List T→List T
 | []=>[]
 |x::xs=>clo E x::zAY E xs
end
mutual
def sF(E:Env)(rs:List Nat)(s:Nat):T→Bool
 |.agg ts=>zA1 E rs s ts
 |.same r q|.sub r q _ _ _=>match qF E 4 r q with
  |some (r',_,_)=> !rs.contains r'
  |none=>jc
 |.sl _ _|.ptr _=> !rs.contains s
 |.lit _|.ro _|.any|.addr _ _=>jc
 |.tup _=>jd
def zA1(E:Env)(rs:List Nat)(s:Nat):List T→Bool
 | []=>jc
 |x::xs=>sF E rs s x&&zA1 E rs s xs
end
theorem zUG{St:Stb}{k:Nat}{xs:List T}{v:Value}{lo hi:Nat}(h:RoC St (.sl k xs) #[v] 0)(h1:lo≤hi)(h2:hi≤xs.length):RoC St (.sl k ((xs.drop lo).take (hi-lo))) #[zBg v k lo hi] 0:=by
 simp only[RoC]at h ⊢
 obtain⟨a',c,g4,g5,g6,g7⟩:=h;have hv:v=.slice a' xs.length c:=by simpa using g4
 subst hv;have gj:((xs.drop lo).take (hi-lo)).length=hi-lo:=by simp;omega
 refine⟨if c=lo then a' else a'.map (·.add (lo*k)),c-lo,by rw[gj];simp[zBg],by omega,by omega,?_⟩;intro gf;have eO:xs≠[]:=by rintro rfl;simp at gf
 obtain⟨b,o',cs',e',fr,rfl,h3,h4⟩:=g7 eO;have gG:c≠lo:=by rintro rfl;apply gf;apply Kd;omega
 exact⟨b,o'+lo*k,cs',e',fr,by simp[gG,uO],h3,zGS _ _ _ _ _ (zGR _ _ _ _ _ h4)⟩
section
variable {Γ:Ctx}{E:Env}{G Gc:Gh}{a:Act}{w:World}{Sc:Stb}{rs:List Nat}{s i:Nat} (g9:Rep Γ E G a.tmps w) (eh:∀b x,Γ.St b=ja x→Sc b=ja x) (ey:∀r,r∉rs→ ∀b,(∃y,G.ow b=ja (r,y))→Sc b=w.heap[b]?) (gC:∀z,Gc.hd i z=G.hd s z)
 include g9 eh ey gC
mutual
theorem zWl:(t:T)→ ∀(p:List Nat),sF E rs s t=jc→R Γ.St G w s t p→R Sc Gc w i (clo E t) p
 |.agg ts,p,h,hr=>by simp only[sF,clo,R]at h hr ⊢;exact zR1 ts p 0 h hr
 |.tup _,_,h,_=>by simp[sF]at h
 |.lit v,p,_,hr=>by simp only[clo,R]at hr ⊢;rw[gC];exact hr
 |.ro u,p,_,hr=>by simp only[clo,R]at hr ⊢;rw[gC];exact tW eh u _ _ hr
 |.any,_,_,_|.addr _ _,_,_,_=>by simp only[clo,R]
 |.sl k xs,p,h,hr=>by simp only[sF,Gd,H0,decide_eq_false_iff_not]at h;have:=zKX (fun s p=>g9.mem.one s p) eh (ey s h) (.sl k xs) p rfl hr;simp only[clo,R];rw[gC];exact this
 |.ptr t,p,h,hr=>by simp only[sF,Gd,H0,decide_eq_false_iff_not]at h;have:=zKX (fun s p=>g9.mem.one s p) eh (ey s h) (.ptr t) p rfl hr;simp only[clo,R];rw[gC];exact this
 |.same r q,p,h,hr=>by
  simp only[sF,clo,R]at h hr ⊢
  cases hf:qF E 4 r q with
  |none=>simp only[R]
  |some x=>
   obtain⟨r',q',t⟩:=x;simp only[hf,Gd,H0,decide_eq_false_iff_not]at h;obtain⟨h1,h2,_⟩:=zCV g9 4 r q r' q' t hf;have h3:Gc.hd i p=G.hd r' q':=by rw[gC,hr,h2]
   by_cases hs:t.single=jc
   ·have h4:=zKX (fun s p=>g9.mem.one s p) eh (ey r' h) t q' hs h1
    cases t with
    |ro u=>simp only[R]at h1 ⊢;rw[h3];exact tW eh u _ _ h1
    |lit v=>simp only[R]at h1 ⊢;rw[h3];exact h1
    |agg _=>simp[T.single]at hs
    |tup _=>simp[T.single]at hs
    |_=>simp only[hs,if_true,R];rw[h3];exact h4
   ·cases t<;>simp[T.single]at hs<;>simp[T.single,R]
 |.sub r q k lo hi,p,h,hr=>by
  simp only[sF,clo,R]at h hr ⊢
  cases hf:qF E 4 r q with
  |none=>simp only[R]
  |some x=>
   obtain⟨r',q',t⟩:=x;simp only[hf,Gd,H0,decide_eq_false_iff_not]at h;obtain⟨h1,h2,_⟩:=zCV g9 4 r q r' q' t hf;cases t with
   |sl k' xs=>
    simp only[];split
    ·rename_i hc
     obtain⟨rfl,p8,cQ⟩:=hc;have h4:=zKX (fun s p=>g9.mem.one s p) eh (ey r' h) (.sl k xs) q' rfl h1;simp only[strip]at h4;simp only[R];rw[gC,hr,h2];exact zUG h4 p8 (by rw[kC];exact cQ)
    ·simp only[R]
   |_=>simp only[R]
theorem zR1:(ts:List T)→ ∀(p:List Nat)(j:Nat),zA1 E rs s ts=jc→RF Γ.St G w s ts p j→RF Sc Gc w i (zAY E ts) p j
 | [],_,_,_,_=>by have _:=g9;have _:=eh;have _:=ey;have _:=gC;simp only[zAY,RF]
 |x::xs,p,j,h,hr=>by
  simp only[zA1,J4,zAY,RF]at h hr ⊢
  exact⟨zWl x _ h.1 hr.1,zR1 xs p (j+1) h.2 hr.2⟩
end
end
section
variable {E:Env}{G Gc:Gh}{rs:List Nat}{s i:Nat}
theorem zHh(t:T)(h:t.single=jc):(clo E t).single=jc:=by cases t<;>simp[T.single]at h<;>simp only[clo]<;>first|rfl|(split<;>first|rfl|(split<;>rfl))
mutual
theorem zR2(gC:∀z,Gc.hd i z=G.hd s z):(t:T)→ ∀(p:List Nat),sF E rs s t=jc→vals Gc i (clo E t) p=vals G s t p
 |.agg ts,p,h=>by simp only[sF,clo,vals]at h ⊢;exact zFr gC ts p 0 h
 |.tup _,_,h=>by simp[sF]at h
 |.lit _,p,_|.ro _,p,_|.any,p,_|.addr _ _,p,_|.sl _ _,p,_|.ptr _,p,_|.same _ _,p,_|.sub _ _ _ _ _,p,_=>by
  have h1:∀u:T,u.single=jc→vals Gc i u p=[G.hd s p]:=fun u hu=>by cases u<;>simp[T.single]at hu<;>simp[vals,gC]
  rw[h1 _ (zHh _ rfl)];simp[vals]
theorem zFr(gC:∀z,Gc.hd i z=G.hd s z):(ts:List T)→ ∀(p:List Nat)(j:Nat),zA1 E rs s ts=jc→yF Gc i (zAY E ts) p j=yF G s ts p j
 | [],_,_,_=>by simp only[zAY,yF]
 |x::xs,p,j,h=>by simp only[zA1,J4]at h;simp only[zAY,yF];rw[zR2 gC x _ h.1,zFr gC xs p _ h.2]
end
theorem zJF(gC:∀z,Gc.hd i z=G.hd s z)(t:T)(h:sF E rs s t=jc):mkV Gc i (clo E t) []=mkV G s t []:=by
 cases t with
 |agg ts=>simp only[sF]at h;simp only[clo,mkV,zFr gC ts [] 0 h]
 |tup _=>simp[sF]at h
 |_=>rw[xV (zHh _ rfl),xV rfl,gC]
end
end Go.Ab

namespace Go.Ab
open Go
abbrev Rw:=List (Nat×Nat×T)
def rwI(rw:Rw)(s:Nat):Option Nat:=(rw.find? fun x=>x.2.1==s).map (·.1)
def rwS(rw:Rw)(i:Nat):Option Nat:=(rw.find? fun x=>x.1==i).map (·.2.1)
theorem zCu:(rw:Rw)→(rw.map (·.2.1)).Nodup→ ∀{i s:Nat}{u:T},(i,s,u)∈rw→rwI rw s=ja i
 | [],_,_,_,_,h=>by simp at h
 |(i0,s0,u0)::rw,hn,i,s,u,h=>by
  simp only[Jv,Lj,Js]at hn;rcases Jc.1 h with h|h
  ·simp at h;obtain⟨rfl,rfl,rfl⟩:=h;simp[rwI]
  ·have gf:s0≠s:=fun e=>hn.1 ⟨_,h,e.symm⟩
   have:=zCu rw hn.2 h;simp only[rwI]at this ⊢
   rw[Jan (by simpa using gf)];exact this
theorem zKY:(rw:Rw)→(rw.map (·.1)).Nodup→ ∀{i s:Nat}{u:T},(i,s,u)∈rw→rwS rw i=ja s
 | [],_,_,_,_,h=>by simp at h
 |(i0,s0,u0)::rw,hn,i,s,u,h=>by
  simp only[Jv,Lj,Js]at hn;rcases Jc.1 h with h|h
  ·simp at h;obtain⟨rfl,rfl,rfl⟩:=h;simp[rwS]
  ·have gf:i0≠i:=fun e=>hn.1 ⟨_,h,e.symm⟩
   have:=zKY rw hn.2 h;simp only[rwS]at this ⊢
   rw[Jan (by simpa using gf)];exact this
theorem zKZ{rw:Rw}{s:Nat}(h:s∉rw.map (·.2.1)):rwI rw s=jb:=by simp only[rwI,Ja1,Jb9];intro x hx;simp only[beq_iff_eq];exact fun e=>h (Js.2 ⟨x,hx,e⟩)
theorem zR3{rw:Rw}{i:Nat}(h:∀x∈rw,x.1≠i):rwS rw i=jb:=by simp only[rwS,Ja1,Jb9];intro x hx;simpa using h x hx
theorem zO7{rw:Rw}{s i:Nat}(h:rwI rw s=ja i):s∈rw.map (·.2.1):=by simp only[rwI,Lf]at h;obtain⟨x,hx,_⟩:=h;have h1:=List.mem_of_find?_eq_some hx;have h2:=List.find?_some hx;exact Js.2 ⟨x,h1,by simpa using h2⟩
abbrev Nd:=List (Nat×List Nat×T)
def zR4(nd:Nd)(k s:Nat):Option (Nat×List Nat):=
 match nd with
 | []=>jb
 |x::r=>if x.1=s then ja (k,x.2.1)else zR4 r (k+1) s
def ndB(d:Nat)(nd:Nd)(s:Nat)(z:List Nat):Option (Nat×List Nat):=
 match nd with
 | [x]=>if x.1=s∧x.2.1<:+z then ja (d,z.take (z.length-x.2.1.length))else jb
 |nd=>match zR4 nd 0 s with
  |some (k,q)=>if q<:+z then ja (d,z.take (z.length-q.length)++[k])else jb
  |none=>jb
theorem zIP:(nd:Nd)→(nd.map (·.1)).Nodup→ ∀{k k0:Nat}{x:Nat×List Nat×T},nd[k]? =ja x→zR4 nd k0 x.1=ja (k0+k,x.2.1)
 | [],_,_,_,_,h=>by simp at h
 |y::nd,hn,k,k0,x,h=>by
  simp only[Jv,Lj,Js]at hn;cases k with
  |zero=>simp at h;subst h;simp[zR4]
  |succ k=>
   simp only[Uy]at h;have gf:y.1≠x.1:=fun e=>hn.1 ⟨x,Kh h,e.symm⟩
   simp only[zR4,gf,if_false];rw[zIP nd hn.2 h]
   congr 2;omega
def zR5(G:Gh)(nd:Nd)(z:List Nat):Value:=
 match nd with
 | [x]=>G.hd x.1 (z++x.2.1)
 |nd=>match z.getLast? with
  |some k=>(match nd[k]? with
   |some x=>G.hd x.1 (z.dropLast++x.2.1)
   |none=>.bool jd)
  |none=>.bool jd
def zUH(G:Gh)(nd:Nd)(z:List Nat):Addr:=
 match nd with
 | [x]=>G.ad x.1 (z++x.2.1)
 |nd=>match z.getLast? with
  |some k=>(match nd[k]? with
   |some x=>G.ad x.1 (z.dropLast++x.2.1)
   |none=>default)
  |none=>default
def Gh.arg(G:Gh)(a:Act)(xs:List Operand)(rw:Rw):Gh where
 hd i z:=match xs[i]? with
  |some (.tmp s)=>G.hd s z
  |some x=>jP (a.eval x)
  |none=>.bool jd
 ad i z:=match xs[i]? with
  |some (.tmp s)=>G.ad s z
  |_=>default
 lb b o:=match G.lb b o with
  |some (f,s,z)=>(match rwI rw s,G.ow b with
   |some i,ja (s',_)=>if s'=s then ja (f,i,z)else jb
   |_,_=>jb)
  |none=>jb
 ow b:=match G.ow b with
  |some (s,z)=>(match rwI rw s with
   |some i=>ja (i,z)
   |none=>jb)
  |none=>jb
def zAF(G:Gh)(rw:Rw)(b:Nat):Prop:=∃s z,G.ow b=ja (s,z)∧s∈rw.map (·.2.1)
def zD6(d:Nat)(rw:Rw)(nd:Nd)(s:Nat)(z:List Nat):Option (Nat×List Nat):=
 match rwS rw s with
 |some s'=>ja (s',z)
 |none=>ndB d nd s z
open Classical in
noncomputable def Gh.back (G G':Gh) (n0 d:Nat) (rw:Rw) (nd:Nd):Gh where
 hd s z:=if s=d then zR5 G' nd z else match rwI rw s with
  |some i=>G'.hd i z
  |none=>G.hd s z
 ad s z:=if s=d then zUH G' nd z else match rwI rw s with
  |some i=>if z=[]then G.ad s z else G'.ad i z
  |none=>G.ad s z
 lb b o:=if zAF G rw b∨n0≤b then(match G'.lb b o with
  |some (f,s,z)=>(match zD6 d rw nd s z with
   |some (s',z')=>ja (f,s',z')
   |none=>jb)
  |none=>jb)else G.lb b o
 ow b:=if zAF G rw b∨n0≤b then(match G'.ow b with
  |some (s,z)=>zD6 d rw nd s z
  |none=>jb)else G.ow b
def zNb(res:List T):T:=match res with
 | [u]=>u
 |us=>.tup us
def cWr(d:Nat)(res:List T)(rw:Rw):Wr:=(d,ja (zNb res))::rw.map fun x=>(x.2.1,ja x.2.2)
def cLv(t:T):Nat:=if t.single then 1 else 0
def vZ(d:Nat)(rw:Rw):Chg:=(d,0)::rw.map fun x=>(x.2.1,cLv x.2.2)
theorem zHi{d:Nat}{rw:Rw}{x:Nat×Nat×T}(h:x∈rw):(x.2.1,cLv x.2.2)∈vZ d rw:=H7 _ (Js.2 ⟨x,h,rfl⟩)
theorem zO8{Gn G':Gh}{d:Nat}:(nd:Nd)→ ∀(j:Nat),(∀k x,nd[k]? =ja x→ ∀z,Gn.hd d (z++[j+k])=G'.hd x.1 (z++x.2.1))→qZ Gn d (nd.map (·.2.2)) [] j=nd.map fun x=>sC G' x.1 x.2.2 x.2.1
 | [],_,_=>by simp[qZ]
 |x::nd,j,h=>by
  have ih:=zO8 (Gn:=Gn) (G':=G') (d:=d) nd (j+1) (fun k y hy z=>by rw[show j+1+k=j+(k+1)from by omega];exact h (k+1) y (by simpa using hy) z)
  simp only[Jv,qZ,ih];rw[zBC x.2.2 x.2.1 [j] (by simpa using h 0 x (by simp))]
theorem zR6{d:Nat}{res:List T}{rw:Rw}{s:Nat}{x:Option T}(h:(cWr d res rw).find s=ja x):(s=d∧x=ja (zNb res))∨(s≠d∧ ∃i u,(i,s,u)∈rw∧x=ja u):=by
 simp only[cWr,Wr.find]at h;split at h
 ·rename_i he;simp at h;exact .inl ⟨he.symm,h.symm⟩
 ·rename_i gf
  refine .inr ⟨fun e=>gf e.symm,?_⟩
  clear gf
  induction rw with
  |nil=>simp[Wr.find]at h
  |cons y rw ih=>
   simp only[Jv,Wr.find]at h;split at h
   ·rename_i he;simp at h;subst he;exact⟨y.1,y.2.2,by simp,h.symm⟩
   ·obtain⟨i,u,h1,h2⟩:=ih h;exact⟨i,u,by simp[h1],h2⟩
theorem zR7{d:Nat}{res:List T}{rw:Rw}{s:Nat}(h:(cWr d res rw).find s=jb):s≠d∧s∉rw.map (·.2.1):=by
 simp only[cWr,Wr.find]at h;split at h
 ·cases h
 ·rename_i gf
  refine⟨fun e=>gf e.symm,?_⟩
  clear gf
  induction rw with
  |nil=>simp
  |cons y rw ih=>
   simp only[Jv,Wr.find]at h;split at h
   ·cases h
   ·rename_i he
    simp only[Jv,Jc,not_or];exact⟨fun e=>he e.symm,ih h⟩
def aft(S Sc S':Stb):Stb:=fun b=>match Sc b with
 |none=>S' b
 |some _=>S b
theorem Rep.up{Γ:Ctx}{E:Env}{G:Gh}{tmps tmps':Array Value}{w w':World}{G':Gh}{wr:Wr}{chg:Chg}{S:Stb}(h:Rep Γ E G tmps w)(hS:∀b x,Γ.St b=ja x→S b=ja x)
  (gS:tmps'.size=tmps.size)(hk:qU chg G w G' w')(gx:Mem (Γ.at S) G' w')
  (gH:∀s,wr.find s=jb→(∀n,(s,n)∉chg)∧tmps'[s]? =tmps[s]?)
  (eB:∀s t,wr.find s=ja (ja t)→Ent (Γ.at S) G' w' tmps'[s]? s t):Rep (Γ.at S) (E.app wr chg) G' tmps' w' where
 size:=by rw[gS];exact h.size
 mem:=gx
 ent s t hs:=by
  unfold Env.app at hs;cases hf:wr.find s with
  |some x=>
   rw[hf]at hs;simp at hs;subst hs;exact eB s t hf
  |none=>
   rw[hf]at hs;simp at hs;cases he:E s with
   |none=>simp[he]at hs
   |some u=>
    simp[he]at hs;obtain⟨gE,rfl⟩:=hs;rw[(gH s hf).2];obtain⟨e1,e2,e3⟩:=Ent.keep hk (gH s hf).1 gE (h.ent s u he);exact⟨e1,zJE hS u [] e2,e3⟩
section
variable {P:Program}{Γ:Ctx}{E:Env}{d:Nat}
theorem zHj{G:Gh}{a:Act}{w:World}(g9:Rep Γ E G a.tmps w)(hd:d<Γ.N){Sc:Stb}{rw:Rw}(hS1:∀b x,Sc b=ja x→w.heap[b]? =ja x∧ ¬zAF G rw b)(hS0:∀b x,Γ.St b=ja x→Sc b=ja x){f:FuncId}{us res:List T}
  (hc:FnC P f us res (rw.map fun x=>(x.1,x.2.2))){xs:List Operand}(gj:xs.length=us.length)
  (gc:∀(i:Nat) u,us[i]? =ja u→(∃x,xs[i]? =ja x∧a.eval x=mkV (G.arg a xs rw) i u []∧R Sc (G.arg a xs rw) w i u []))
  (hn1:(d::rw.map (·.2.1)).Nodup)(bG:(rw.map (·.1)).Nodup)(eT:∀x∈rw,xs[x.1]? =ja (.tmp x.2.1))
  (gm:∀u∈res,yD u∧u.okTup=jc∧ ∀(S':Stb)(G:Gh)(w:World)(s:Nat)(p:List Nat),(∀b x,Sc b=ja x→S' b=ja x)→R S' G w s u p→R (aft Γ.St Sc S') G w s u p)
  (aL:∀x∈rw,yD x.2.2∧(∀(S':Stb)(G:Gh)(w:World)(s:Nat)(p:List Nat),(∀b x,Sc b=ja x→S' b=ja x)→R S' G w s x.2.2 p→R (aft Γ.St Sc S') G w s x.2.2 p)∧ ∃u,E x.2.1=ja u∧x.2.2.single=u.single∧us[x.1]? =ja u):
  Calls P f (xs.map a.eval).toArray w fun e w'=> ∃v,e=.returned v∧ ∃S G',zDu Γ.St S Γ.W Γ.w0.heap.size∧qU (vZ d rw) G w G' w'∧Rep (Γ.at S) (E.app (cWr d res rw) (vZ d rw)) G' (a.tmps.setIfInBounds d v) w':=by
 have hm:=g9.mem;have mR:=Lj.1 hn1;have hmc:Mem ⟨Sc,zAF G rw,w,0⟩ (G.arg a xs rw) w:=by
  have gB:∀b,zAF G rw b→Sc b=jb:=fun b h=>by
   cases hs:Sc b with
   |none=>rfl
   |some x=>exact absurd h (hS1 b x hs).2
  refine⟨fun i z=>?_,fun b o l hl=>?_,fun b l hl=>?_,fun b x hx=>(hS1 b x hx).1,fun b _ _=>rfl,Jo _,⟨fun b cs e h=>⟨cs,h,rfl⟩,rfl,rfl⟩⟩
  ·simp only[Gh.arg]
   split
   ·exact hm.one _ _
   ·exact zBj _
   ·rfl
  ·simp only[Gh.arg]at hl
   split at hl
   ·rename_i f' s z hg
    split at hl
    ·rename_i i s' y hi ho
     split at hl
     ·rename_i he;subst he
      have hL:zAF G rw b:=⟨s',y,ho,zO7 hi⟩;exact⟨(hm.lb b o _ hg).1,.inr hL,gB b hL⟩
     ·cases hl
    ·cases hl
   ·cases hl
  ·simp only[Gh.arg]at hl
   split at hl
   ·rename_i s z hg
    split at hl
    ·rename_i i hi
     have hL:zAF G rw b:=⟨s,z,hg,zO7 hi⟩;exact⟨(hm.ow b _ hg).1,.inr hL,gB b hL⟩
    ·cases hl
   ·cases hl
 have gr:=hc Sc (zAF G rw) w (G.arg a xs rw) (xs.map a.eval).toArray (by simp[gj]) (fun i u hu=>by obtain⟨x,h1,h2,h3⟩:=gc i u hu;exact⟨by simp[h1,h2],h3⟩) hmc
 refine gr.mono ?_
 rintro e w' ⟨S',G',nd,ee,rfl,gT,cK,cL,ml,aK⟩
 have fN:∀b x,Γ.St b=ja x→aft Γ.St Sc S' b=ja x:=fun b x hx=>by simp only[aft,hS0 b x hx,hx]
 have dc:zDu Γ.St (aft Γ.St Sc S') Γ.W Γ.w0.heap.size:=⟨fN,fun b hb eI=>by
  simp only[aft]at eI;split at eI
  ·rename_i hs
   rcases ee.nw b hs eI with h|⟨s,z,h,_⟩
   ·exact .inl (by have:=hm.sz;omega)
   ·exact(hm.ow b _ h).2.1
  ·exact absurd hb eI⟩
 refine⟨_,rfl,aft Γ.St Sc S',G.back G' w.heap.size d rw nd,dc,?_⟩;have bS:∀b,b<w.heap.size→ ¬zAF G rw b→w'.heap[b]? =w.heap[b]?:=gT.fr;have gv:w.heap.size≤w'.heap.size:=gT.sz;have gK:Blk w w':=gT.bk.blk
 generalize hGn:G.back G' w.heap.size d rw nd=Gn
 have ghdd:∀z,Gn.hd d z=zR5 G' nd z:=fun z=>by rw[←hGn];simp[Gh.back]
 have gadd:∀z,Gn.ad d z=zUH G' nd z:=fun z=>by rw[←hGn];simp[Gh.back]
 have ghd0:∀s z,s≠d→s∉rw.map (·.2.1)→Gn.hd s z=G.hd s z:=fun s z h1 h2=>by rw[←hGn];simp[Gh.back,h1,zKZ h2]
 have gad0:∀s z,s≠d→s∉rw.map (·.2.1)→Gn.ad s z=G.ad s z:=fun s z h1 h2=>by rw[←hGn];simp[Gh.back,h1,zKZ h2]
 have f9:∀i s u,(i,s,u)∈rw→s≠d:=fun i s u h e=>mR.1 (e▸Js.2 ⟨_,h,rfl⟩)
 have ghdr:∀i s u z,(i,s,u)∈rw→Gn.hd s z=G'.hd i z:=fun i s u z h=>by rw[←hGn];simp[Gh.back,f9 i s u h,zCu rw mR.2 h]
 have gadr:∀i s u z,(i,s,u)∈rw→z≠[]→Gn.ad s z=G'.ad i z:=fun i s u z h h0=>by rw[←hGn];simp[Gh.back,f9 i s u h,zCu rw mR.2 h,h0]
 have gadr0:∀i s u,(i,s,u)∈rw→Gn.ad s []=G.ad s []:=fun i s u h=>by rw[←hGn];simp[Gh.back,f9 i s u h,zCu rw mR.2 h]
 have glb0:∀b o l,¬zAF G rw b→G.lb b o=ja l→Gn.lb b o=ja l:=fun b o l h1 h2=>by have:=(hm.lb b o _ h2).1;rw[←hGn];simp only[Gh.back];rw[if_neg (by rintro(h|h);exact h1 h;omega)];exact h2
 have gow0:∀b l,¬zAF G rw b→G.ow b=ja l→Gn.ow b=ja l:=fun b l h1 h2=>by have:=(hm.ow b _ h2).1;rw[←hGn];simp only[Gh.back];rw[if_neg (by rintro(h|h);exact h1 h;omega)];exact h2
 have gJ:∀b o l,G'.lb b o=ja l→zAF G rw b∨w.heap.size≤b:=fun b o l h=>(gT.lb b o l h).2.1.symm
 have bO:∀b l,G'.ow b=ja l→zAF G rw b∨w.heap.size≤b:=fun b l h=>(gT.ow b l h).2.1.symm
 have glb1:∀b o fl s z s' z',G'.lb b o=ja (fl,s,z)→zD6 d rw nd s z=ja (s',z')→Gn.lb b o=ja (fl,s',z'):=fun b o fl s z s' z' h1 h2=>by rw[←hGn];simp only[Gh.back];rw[if_pos (gJ b o _ h1),h1];simp[h2]
 have gow1:∀b s z l,G'.ow b=ja (s,z)→zD6 d rw nd s z=ja l→Gn.ow b=ja l:=fun b s z l h1 h2=>by rw[←hGn];simp only[Gh.back];rw[if_pos (bO b _ h1),h1];simp[h2]
 have dS:∀i s u z,(i,s,u)∈rw→zD6 d rw nd i z=ja (s,z):=fun i s u z h=>by simp[zD6,zKY rw bG h]
 have gz:∀x∈rw,x.1<us.length:=fun x hx=>by have:=(Jb.1 (eT x hx)).1;omega
 have hbn:∀x∈nd,∀z,zD6 d rw nd x.1 z=ndB d nd x.1 z:=fun x hx z=>by have h1:=(cL x hx).2;have h2:rwS rw x.1=jb:=zR3 (fun y hy e=>by have:=gz y hy;omega);simp[zD6,h2]
 have b9:∀(k:Nat) x,nd[k]? =ja x→ ∃tgt,(nd.length=1→tgt=[])∧(nd.length≠1→tgt=[k])∧(∀z,Gn.hd d (z++tgt)=G'.hd x.1 (z++x.2.1))∧(∀z,Gn.ad d (z++tgt)=G'.ad x.1 (z++x.2.1))∧ ∀z,zD6 d rw nd x.1 (z++x.2.1)=ja (d,z++tgt):=by
  intro k x hk;have tf:=Kh hk
  match nd,hk,ml,hbn x tf,ghdd,gadd with
  | [y],hk,ml,hb,ghdd,gadd=>
   have hkx:y=x:=by
    cases k with
    |zero=>simpa using hk
    |succ k=>simp at hk
   subst hkx;exact⟨[],fun _=>rfl,fun h=>absurd rfl h,fun z=>by rw[ghdd];simp[zR5],fun z=>by rw[gadd];simp[zUH],fun z=>by rw[hb];simp[ndB]⟩
  | [],hk,_,_,_,_=>simp at hk
  |y1::y2::r,hk,ml,hb,ghdd,gadd=>
   refine⟨[k],fun h=>by simp at h,fun _=>rfl,fun z=>by rw[ghdd];simp only[zR5,Jaz,Jb0];simp[hk],fun z=>by rw[gadd];simp only[zUH,Jaz,Jb0];simp[hk],fun z=>?_⟩;rw[hb];have:=zIP (y1::y2::r) ml (k0:=0) hk;rw[Jg]at this;simp only[ndB,this];simp
 have mI:∀(k:Nat) x,nd[k]? =ja x→ ∀tgt,(∀z,Gn.hd d (z++tgt)=G'.hd x.1 (z++x.2.1))→(∀z,Gn.ad d (z++tgt)=G'.ad x.1 (z++x.2.1))→(∀z,zD6 d rw nd x.1 (z++x.2.1)=ja (d,z++tgt))→R (aft Γ.St Sc S') Gn w' d x.2.2 tgt:=by intro k x hk tgt h1 h2 h3;have tf:=Kh hk;obtain⟨c1,c2,c3⟩:=gm x.2.2 (by rw[←cK];exact Js.2 ⟨x,tf,rfl⟩);refine zAf (G:=G') (w:=w') (s:=x.1) (p:=x.2.1) ⟨⟨h1,fun z _=>h2 z,fun b o f' z _ _ hl=>⟨glb1 b o f' _ _ _ _ hl (h3 z),rfl⟩,fun b z _ hl=>gow1 b _ _ _ hl (h3 z),fun b cs e h=>⟨cs,h,rfl⟩⟩,fun b o _ hl=>⟨glb1 b o jc _ _ _ _ hl (by simpa using h3 []),rfl⟩,fun b hl=>gow1 b _ _ _ hl (by simpa using h3 [])⟩ _ (xE.mono (fun _ _=>False.elim) _ c1) (c3 _ _ _ _ _ ee.le (cL x tf).1)
 have gA:qU (vZ d rw) G w Gn w':=by
  have gF:∀s,(∀n,(s,n)∉vZ d rw)→s≠d∧s∉rw.map (·.2.1):=fun s h=>⟨fun e=>h 0 (by simp[vZ,e]),fun hm=>by obtain⟨x,hx,rfl⟩:=Js.1 hm;exact h _ (zHi hx)⟩
  have pP:∀b s y,G.ow b=ja (s,y)→s∉rw.map (·.2.1)→ ¬zAF G rw b:=by
   rintro b s y h1 h2 ⟨s',z',h3,h4⟩
   rw[h1]at h3;simp at h3;exact h2 (h3.1▸h4)
  refine⟨fun s p h=>?_,fun s p h=>?_,fun b o fl s p ei h1 h2=>?_,fun b s p h1 h2=>?_,gK⟩
  ·have h1:s≠d:=fun e=>absurd (h 0 (by simp[vZ,e])) (by simp)
   by_cases h2:s∈rw.map (·.2.1)
   ·
    obtain⟨x,hx,rfl⟩:=Js.1 h2;have hc:=h _ (zHi hx);have c2:x.2.2.single=jc:=by
     cases cQ:x.2.2.single with
     |true=>rfl
     |false=>simp[cLv,cQ]at hc
    have h3:p=[]:=Kd (by simp only[cLv,c2,if_true]at hc;omega);subst h3;obtain⟨_,_,u,c4,c5,c6⟩:=aL x hx;rw[c2]at c5;have c5:=c5.symm;obtain⟨_,u0,e1,e2⟩:=aK x.1 x.2.2 (Js.2 ⟨x,hx,rfl⟩);rw[c6]at e1;simp at e1;subst e1;rw[xV c2,xV c5]at e2;rw[ghdr x.1 x.2.1 x.2.2 [] hx,e2];simp[Gh.arg,eT x hx]
   ·exact ghd0 s p h1 h2
  ·have h1:s≠d:=fun e=>absurd (h 0 (by simp[vZ,e])) (by simp)
   by_cases h2:s∈rw.map (·.2.1)
   ·obtain⟨x,hx,rfl⟩:=Js.1 h2
    have hc:=h _ (zHi hx);have h3:p=[]:=Kd (by have:cLv x.2.2≤1:=(by unfold cLv;split<;>omega);omega);subst h3;exact gadr0 x.1 x.2.1 x.2.2 hx
   ·exact gad0 s p h1 h2
  ·obtain⟨h3,h4⟩:=gF s h2
   obtain⟨y,hy⟩:=ei;have h5:=pP b s y hy h4;exact⟨glb0 b o _ h5 h1,by simp[yS,World.cell?,bS b (hm.lb b o _ h1).1 h5]⟩
  ·obtain⟨h3,h4⟩:=gF s h2
   exact gow0 b _ (pP b s p h1 h4) h1
 have gx:Mem (Γ.at (aft Γ.St Sc S')) Gn w':=by
  have gE:∀b,b<w'.heap.size∧(w.heap.size≤b∨zAF G rw b)∧S' b=jb→zCm (Γ.at (aft Γ.St Sc S')) w' b:=fun b ⟨hb,h,gI⟩=>by
   have tk:Sc b=jb:=by
    cases hs:Sc b with
    |none=>rfl
    |some x=>rw[ee.le b x hs]at gI;cases gI
   refine⟨hb,?_,by simp only[aft,tk];exact gI⟩;rcases h with h|⟨s,z,h1,_⟩
   ·exact .inl (by have:=hm.sz;show Γ.w0.heap.size≤b;omega)
   ·exact(hm.ow b _ h1).2.1
  have gH:∀b,¬(zAF G rw b∨w.heap.size≤b)→zCm Γ w b→zCm (Γ.at (aft Γ.St Sc S')) w' b:=fun b h ⟨h1,h2,h3⟩=>by
   refine⟨by omega,h2,?_⟩;simp only[aft];split
   ·rename_i hs
    cases gI:S' b with
    |none=>rfl
    |some x=>
     rcases ee.nw b hs (by rw[gI];simp)with h4|h4
     ·exact absurd (.inr h4) h
     ·exact absurd (.inl h4) h
   ·exact h3
  refine⟨fun s z=>?_,fun b o l hl=>?_,fun b l hl=>?_,fun b x hx=>?_,fun b(h1:b<Γ.w0.heap.size) h2=>?_,L9 hm.sz gv,hm.bk.trans gK gT.bk.os gT.bk.out⟩
  ·by_cases h1:s=d
   ·subst h1
    rw[ghdd];unfold zR5;split
    ·exact gT.one _ _
    ·split
     ·split
      ·exact gT.one _ _
      ·rfl
     ·rfl
   ·by_cases h2:s∈rw.map (·.2.1)
    ·obtain⟨x,hx,rfl⟩:=Js.1 h2
     rw[ghdr x.1 x.2.1 x.2.2 z hx];exact gT.one _ _
    ·rw[ghd0 s z h1 h2];exact hm.one _ _
  ·rw[←hGn]at hl
   simp only[Gh.back]at hl;split at hl
   ·rename_i pW
    split at hl
    ·rename_i hg
     exact gE b (gT.lb b o _ hg)
    ·cases hl
   ·rename_i pW
    exact gH b pW (hm.lb b o l hl)
  ·rw[←hGn]at hl
   simp only[Gh.back]at hl;split at hl
   ·rename_i pW
    split at hl
    ·rename_i hg
     exact gE b (gT.ow b _ hg)
    ·cases hl
   ·rename_i pW
    exact gH b pW (hm.ow b l hl)
  ·simp only[aft]at hx
   split at hx
   ·exact gT.st b x hx
   have h1:=hm.st b x hx;have h2:=(Km.1 h1).1;have h3:¬zAF G rw b:=by
    rintro⟨s,z,h4,_⟩
    rw[(hm.ow b _ h4).2.2]at hx;cases hx
   rw[bS b h2 h3];exact h1
  ·have h3:¬zAF G rw b:=by
    rintro⟨s,z,h4,_⟩
    rcases(hm.ow b _ h4).2.1 with h5|h5
    ·omega
    ·exact h2 h5
   rw[bS b (by have:=hm.sz;omega) h3];exact hm.fr b h1 h2
 have iy:nd.length=res.length:=by rw[←cK];simp
 refine⟨gA,g9.up fN (by simp) gA gx ?_ ?_⟩
 ·intro s hs
  obtain⟨h1,h2⟩:=zR7 hs;refine⟨fun n hn=>?_,by rw[Jf];simp[Ne.symm h1]⟩;simp only[vZ,Jc,Jb2.injEq,Js]at hn;rcases hn with⟨e,_⟩|⟨x,hx,e,_⟩
  ·exact h1 e
  ·exact h2 (Js.2 ⟨x,hx,e⟩)
 ·intro s t hs
  rcases zR6 hs with⟨rfl,ht⟩|⟨gf,i,u,cS,ht⟩
  ·simp at ht
   subst ht;rw[Jf];simp only[g9.size,hd,if_true];have py:res=nd.map (·.2.2):=cK.symm
   by_cases hl:nd.length=1
   ·obtain⟨x,hx⟩:∃x,nd=[x]:=List.length_eq_one_iff.1 hl
    obtain⟨tgt,t1,_,t3,t4,t5⟩:=b9 0 x (by simp[hx]);obtain rfl:=t1 hl;have hr:=mI 0 x (by simp[hx]) [] t3 t4 t5;obtain⟨c1,c2,_⟩:=gm x.2.2 (by rw[py,hx];simp);have fk:zNb res=x.2.2:=by rw[py,hx];rfl
    have gR:∀ys,x.2.2≠.tup ys:=fun ys e=>by rw[e]at c2;simp[T.okTup]at c2
    rw[fk];refine⟨?_,hr,Top.of_clean _ c1⟩;rw[kH Gn s _ [] gR,zBC x.2.2 x.2.1 [] t3,hx];rfl
   ·have fk:zNb res=.tup res:=by
     rw[iy]at hl
     match res,hl with
     | [],_=>rfl
     | [u],hl=>simp at hl
     |_::_::_,_=>rfl
    rw[fk];have gC:∀k x,nd[k]? =ja x→ ∀z,Gn.hd s (z++[0+k])=G'.hd x.1 (z++x.2.1):=fun k x hk z=>by obtain⟨tgt,_,t2,t3,_,_⟩:=b9 k x hk;rw[t2 hl]at t3;rw[Jg];exact t3 z
    refine⟨?_,?_,?_⟩
    ·have hv:=zO8 (Gn:=Gn) (G':=G') (d:=s) nd 0 gC
     rw[cK]at hv;simp only[mkV,hv];unfold zKU;split
     ·simp at hl
     ·rfl
    ·simp only[R]
     rw[py];refine zOx _ [] 0 (fun k u hu=>?_);rw[K1]at hu;cases hk:nd[k]? with
     |none=>simp[hk]at hu
     |some x=>
      simp[hk]at hu;subst hu;obtain⟨tgt,_,t2,t3,t4,t5⟩:=b9 k x hk;rw[t2 hl]at t3 t4 t5;rw[Jg];exact mI k x hk [k] t3 t4 t5
    ·simp only[Top]
     refine vP.of_clean _ ?_;have:∀us:List T,(∀u∈us,yD u)→xJ us:=by
      intro us
      induction us with
      |nil=>intro _;trivial
      |cons u us ih=>intro h;exact⟨h u (by simp),ih fun v hv=>h v (by simp[hv])⟩
     exact this res fun u hu=>(gm u hu).1
  ·simp at ht
   subst ht;obtain⟨c1,c3,u0,c4,_,c6⟩:=aL _ cS;obtain⟨r1,u1,e1,e2⟩:=aK i t (Js.2 ⟨_,cS,rfl⟩);simp only at c4 c6;rw[c6]at e1;simp at e1;subst e1;refine⟨?_,?_,Top.of_clean _ c1⟩
   ·rw[Jf]
    simp only[Ne.symm gf,if_false];have dA:=eT _ cS;simp only at dA;have m1:mkV Gn s t []=mkV G' i t []:=zFi t [] [] (fun z=>by rw[J9];exact ghdr i s t z cS);have m2:mkV (G.arg a xs rw) i u0 []=mkV G s u0 []:=zFi u0 [] [] (fun z=>by simp[Gh.arg,dA]);rw[(g9.ent s u0 c4).1,m1,e2,m2]
   ·refine zAf (G:=G') (w:=w') (s:=i) (p:=[]) ⟨⟨fun z=>by rw[J9];exact ghdr i s t z cS,fun z hz=>by rw[J9];exact gadr i s t z cS hz,fun b o f' z _ _ hl=>?_,fun b z _ hl=>?_,fun b cs e h=>⟨cs,h,rfl⟩⟩,fun b o _ hl=>⟨glb1 b o jc _ _ _ _ hl (dS i s t [] cS),rfl⟩,fun b hl=>gow1 b _ _ _ hl (dS i s t [] cS)⟩ t (xE.mono (fun _ _=>False.elim) _ c1) (c3 _ _ _ _ _ ee.le r1)
    ·rw[J9]at hl ⊢;exact⟨glb1 b o f' _ _ _ _ hl (dS i s t z cS),rfl⟩
    ·rw[J9]at hl ⊢;exact gow1 b _ _ _ hl (dS i s t z cS)
end
end Go.Ab

namespace Go.Ab
open Go
def zIQ(E:Env)(rs:List Nat)(x:Operand)(t:T):Bool:=
 match x with
 |.tmp s=>sF E rs s t
 |_=>jc
def zCe(E:Env)(rw:Rw)(i:Nat)(x:Operand)(u:T):Prop:=
 (∃s u',x=.tmp s∧(i,s,u')∈rw∧E s=ja u∧yD u∧u.okTup=jc∧wQ u=jc)∨(∃t,opT E x=ja t∧clo E t=u∧zIQ E (rw.map (·.2.1)) x t=jc)
def xW(E:Env)(rw:Rw):Nat→List Operand→List T→Prop
 |_,[],[]=>True
 |i,x::xs,u::us=>zCe E rw i x u∧xW E rw (i+1) xs us
 |_,_,_=>False
theorem xW.length{E:Env}{rw:Rw}:(xs:List Operand)→(us:List T)→ ∀i,xW E rw i xs us→xs.length=us.length
 | [],[],_,_=>rfl
 |_::xs,_::us,i,h=>by simp[xW.length xs us (i+1) h.2]
 | [],_::_,_,h=>by simp[xW]at h
 |_::_,[],_,h=>by simp[xW]at h
theorem xW.get{E:Env}{rw:Rw}:(xs:List Operand)→(us:List T)→ ∀i,xW E rw i xs us→ ∀(j:Nat) u,us[j]? =ja u→ ∃x,xs[j]? =ja x∧zCe E rw (i+j) x u
 | [],[],_,_,_,_,h=>by simp at h
 |x::xs,v::us,i,h,j,u,hj=>by
  cases j with
  |zero=>simp at hj;subst hj;exact⟨x,by simp,h.1⟩
  |succ j=>
   obtain⟨y,h1,h2⟩:=xW.get xs us (i+1) h.2 j u (by simpa using hj);exact⟨y,by simpa using h1,by rwa [show i+(j+1)=i+1+j from by omega]⟩
 | [],_::_,_,h,_,_,_=>by simp[xW]at h
 |_::_,[],_,h,_,_,_=>by simp[xW]at h
structure zHk (E:Env) (d:Nat) (xs:List Operand) (us:List T) (rw:Rw):Prop where
 nodup:(d::rw.map (·.2.1)).Nodup
 nodup2:(rw.map (·.1)).Nodup
 at_:∀x∈rw,xs[x.1]? =ja (.tmp x.2.1)
 tree:∀x∈rw,yD x.2.2∧wQ x.2.2=jc∧ ∃u,E x.2.1=ja u∧x.2.2.single=u.single∧us[x.1]? =ja u
theorem zHk.nil{E:Env}{d:Nat}{xs:List Operand}{us:List T}:zHk E d xs us []:=⟨by simp,by simp,fun _ h=>by simp at h,fun _ h=>by simp at h⟩
theorem zHk.one{E:Env}{d i s:Nat}{u u':T}{xs:List Operand}{us:List T}(h1:d≠s)(h2:xs[i]? =ja (.tmp s))(h3:yD u')(h4:u'.single=jc)(h5:wQ u'=jc)(h6:E s=ja u)(h7:u.single=jc)(h8:us[i]? =ja u):
  zHk E d xs us [(i,s,u')]:=⟨by simpa using h1,by simp,fun x h=>by simp at h;subst h;exact h2,fun x h=>by simp at h;subst h;exact⟨h3,h5,u,h6,by rw[h4,h7],h8⟩⟩
theorem zHk.one'{E:Env}{d i s:Nat}{u u':T}{xs:List Operand}{us:List T}(h1:d≠s)(h2:xs[i]? =ja (.tmp s))(h3:yD u')(h4:u'.single=u.single)(h5:wQ u'=jc)(h6:E s=ja u)(h8:us[i]? =ja u):
  zHk E d xs us [(i,s,u')]:=⟨by simpa using h1,by simp,fun x h=>by simp at h;subst h;exact h2,fun x h=>by simp at h;subst h;exact⟨h3,h5,u,h6,h4,h8⟩⟩
section
variable {P:Program}{Γ:Ctx}{E:Env}{o:Oper}{d:Nat}
theorem zUI{G:Gh}{a:Act}{w:World}(g9:Rep Γ E G a.tmps w){rw:Rw}{xs:List Operand}{us:List T}(hr:zHk E d xs us rw){Sc:Stb}(eh:∀b x,Γ.St b=ja x→Sc b=ja x)
  (ey:∀r,r∉rw.map (·.2.1)→ ∀b,(∃y,G.ow b=ja (r,y))→Sc b=w.heap[b]?){i:Nat}{x:Operand}{u:T}(hx:xs[i]? =ja x)(hu:us[i]? =ja u)(h:zCe E rw i x u):
  a.eval x=mkV (G.arg a xs rw) i u []∧R Sc (G.arg a xs rw) w i u []:=by
 rcases h with⟨s,u',rfl,h1,h2,h3,h4,h5⟩|⟨t,h1,rfl,h3⟩
 ·obtain⟨e1,e2,_⟩:=g9.ent s u h2
  have gC:∀z,(G.arg a xs rw).hd i z=G.hd s z:=fun z=>by simp[Gh.arg,hx]
  have fb:∀z,(G.arg a xs rw).ad i z=G.ad s z:=fun z=>by simp[Gh.arg,hx]
  have hi:=zCu rw (Lj.1 hr.nodup).2 h1;refine⟨by rw[wK e1,zFi (G:=G) (G':=G.arg a xs rw) (s:=s) (s':=i) u [] [] (fun z=>gC _)],?_⟩;refine zPQ u [] h5 (zAf (St:=Γ.St) (G:=G) (w:=w) (s:=s) (p:=[]) ⟨⟨fun z=>by simp[gC],fun z _=>by simp[fb],fun b o' f' z _ ei hl=>?_,fun b z _ hl=>?_,fun b cs e h=>⟨cs,h,rfl⟩⟩,fun b o' ei hl=>?_,fun b hl=>?_⟩ u (xE.mono (fun _ _=>False.elim) _ h3) e2)
  ·obtain⟨y,hy⟩:=ei
   exact⟨by simp[Gh.arg,hl,hi,hy],rfl⟩
  ·simp[Gh.arg,hl,hi]
  ·obtain⟨y,hy⟩:=ei
   exact⟨by simp[Gh.arg,hl,hi,hy],rfl⟩
  ·simp[Gh.arg,hl,hi]
 ·cases x with
  |tmp s=>
   have gC:∀z,(G.arg a xs rw).hd i z=G.hd s z:=fun z=>by simp[Gh.arg,hx]
   obtain⟨e1,e2,_⟩:=g9.ent s t h1;simp only[zIQ]at h3;exact⟨by rw[wK e1,zJF gC t h3],zWl g9 eh ey gC t [] h3 e2⟩
  |const v=>
   simp only[opT]at h1;split at h1
   ·rename_i gp
    simp at h1;subst h1;have gC:(G.arg a xs rw).hd i []=v:=by simp[Gh.arg,hx,Act.eval,zAh gp]
    exact⟨by simp[clo,mkV,gC,Act.eval],by simp[clo,R,gC]⟩
   ·cases h1
  |func f=>
   simp only[opT]at h1;simp at h1;subst h1;have gC:(G.arg a xs rw).hd i []=.func (.func f) #[] #[]:=by simp[Gh.arg,hx,Act.eval,jP,Value.oneCell']
   exact⟨by simp[clo,mkV,gC,Act.eval],by simp[clo,R,gC]⟩
  |global g=>simp[opT]at h1
theorem zDb{E:Env}:(t:T)→t.flat=jc→(∀rs s,sF E rs s t=jc)∧clo E t=t
 |.lit _,_|.ro _,_=>by simp[sF,clo]
 |.agg ts,h=>by simp only[T.flat]at h;have:=go ts h;simp only[sF,clo];exact⟨this.1,by rw[this.2]⟩
 |.any,h|.same _ _,h|.addr _ _,h|.sub _ _ _ _ _,h|.sl _ _,h|.ptr _,h|.tup _,h=>by simp[T.flat]at h
where go:(ts:List T)→zAb ts=jc→(∀rs s,zA1 E rs s ts=jc)∧zAY E ts=ts
 | [],_=>by simp[zA1,zAY]
 |x::xs,h=>by simp only[zAb,J4]at h;simp only[zA1,zAY,J4];exact⟨fun rs s=>⟨(zDb x h.1).1 rs s,(go xs h.2).1 rs s⟩,by rw[(zDb x h.1).2,(go xs h.2).2]⟩
theorem zCv{a:Act}{w:World}{K:Act→World→Prop}{Q:Exit→Act→World→Prop}{f:FuncId}{xf:Operand}{xs:List Operand}{ats:Array TypeId}(ho:o.op=.call { callee:=.value xf,args:=xs.toArray,argTypes:=ats })(gk:o.dst=ja d)
  (gr:∀args w,(callFunc f args).run P w=.ok (.enter f args) w)(hf:a.eval xf=.func (.func f) #[] #[])
  (h:Calls P f (xs.map a.eval).toArray w fun e w'=> ∃v,e=.returned v∧K (a.put (ja d) v) w'):o.wp P a w K Q:=by
 have gy:(execOp a.eval o).run P w=.ok (.enter f (xs.map a.eval).toArray) w:=by simp[execOp,ho,resolve,hf,Deferred.ofValue,invoke,gr]
 unfold Oper.wp;rw[gy,Oper.upon_enter];refine h.mono ?_
 rintro e w' ⟨v,rfl,h2⟩
 rw[gk];exact h2
theorem zHl{G:Gh}{a:Act}{w:World}(g9:Rep Γ E G a.tmps w)(hd:d<Γ.N)(f:FuncId)(xs:List Operand)(us res:List T)(rw:Rw)
  (hc:FnC P f us res (rw.map fun x=>(x.1,x.2.2)))(gc:xW E rw 0 xs us)(hr:zHk E d xs us rw)(gm:xJ res∧yU res=jc∧vT res=jc):
  Calls P f (xs.map a.eval).toArray w fun e w'=> ∃v,e=.returned v∧ ∃S G',zDu Γ.St S Γ.W Γ.w0.heap.size∧qU (vZ d rw) G w G' w'∧Rep (Γ.at S) (E.app (cWr d res rw) (vZ d rw)) G' (a.tmps.setIfInBounds d v) w':=by
 classical
 have hm:=g9.mem
 let Sc:Stb:=fun b=>if zAF G rw b then jb else w.heap[b]?
 have eh:∀b x,Γ.St b=ja x→Sc b=ja x:=fun b x hx=>by
  have h3:¬zAF G rw b:=by
   rintro⟨s,z,h4,_⟩
   rw[(hm.ow b _ h4).2.2]at hx;cases hx
  simp only[Sc,h3,if_false];exact hm.st b x hx
 have ey:∀r,r∉rw.map (·.2.1)→ ∀b,(∃y,G.ow b=ja (r,y))→Sc b=w.heap[b]?:=fun r hr' b ⟨y,hy⟩=>by
  have h3:¬zAF G rw b:=by
   rintro⟨s,z,h4,h5⟩
   rw[hy]at h4;simp at h4;exact hr' (h4.1▸h5)
  simp only[Sc,h3,if_false]
 have ef:∀(us:List T),xJ us∧yU us=jc∧vT us=jc→ ∀u∈us,yD u∧u.okTup=jc∧wQ u=jc:=by
  intro us
  induction us with
  |nil=>intro _ u hu;simp at hu
  |cons v us ih=>
   intro⟨h1,h2,h3⟩ u hu;simp only[yU,vT,J4]at h2 h3;rcases Jc.1 hu with rfl|hu
   ·exact⟨h1.1,h2.1,h3.1⟩
   ·exact ih ⟨h1.2,h2.2,h3.2⟩ u hu
 exact zHj g9 hd (Sc:=Sc) (rw:=rw) (fun b x hx=>by
   simp only[Sc]at hx;split at hx
   ·cases hx
   ·rename_i h;exact⟨hx,h⟩) eh hc (xW.length xs us 0 gc) (fun i u hu=>by
   obtain⟨x,h1,h2⟩:=xW.get xs us 0 gc i u hu;rw[Jg]at h2;exact⟨x,h1,zUI g9 hr eh ey h1 hu h2⟩) hr.nodup hr.nodup2 hr.at_
  (fun u hu=>⟨(ef res gm u hu).1,(ef res gm u hu).2.1,fun S' G w s p _ h=>zPQ u p (ef res gm u hu).2.2 h⟩)
  (fun x hx=>by obtain⟨h1,h3,h4⟩:=hr.tree x hx;exact⟨h1,fun S' G w s p _ h=>zPQ _ p h3 h,h4⟩)
theorem zJG(f:FuncId)(xf:Operand)(xs:List Operand)(ats:Array TypeId)(us res:List T)(rw:Rw)(ho:o.op=.call { callee:=.value xf,args:=xs.toArray,argTypes:=ats })(gk:o.dst=ja d)(hd:d<Γ.N)
  (gr:∀args w,(callFunc f args).run P w=.ok (.enter f args) w)(hf:opT E xf=ja (.lit (.func (.func f) #[] #[])))
  (hc:FnC P f us res (rw.map fun x=>(x.1,x.2.2)))(gc:xW E rw 0 xs us)(hr:zHk E d xs us rw)(gm:xJ res∧yU res=jc∧vT res=jc):
  wN P Γ o E (E.app (cWr d res rw) (vZ d rw)):=by
 intro a w K Q ⟨gQ,G,g9⟩ hK;refine zCv ho gk gr (wO g9 hf).1 ?_;refine(zHl g9 hd f xs us res rw hc gc hr gm).mono ?_
 rintro e w' ⟨v,rfl,S,G',hS,_,gn⟩
 exact⟨v,rfl,hK _ _ ⟨S,hS,gQ,G',gn⟩⟩
theorem zLa(f:FuncId)(xf:Operand)(xs:List Operand)(ats:Array TypeId)(us res:List T)(i ds r:Nat)(q:List Nat)(tr u u':T)(ho:o.op=.call { callee:=.value xf,args:=xs.toArray,argTypes:=ats })(gk:o.dst=ja d)(hd:d<Γ.N)
  (gr:∀args w,(callFunc f args).run P w=.ok (.enter f args) w)(hf:opT E xf=ja (.lit (.func (.func f) #[] #[])))
  (hs:E ds=ja (.same r q))(hr:E r=ja tr)(hq:tr.get q.reverse=ja u)(hu:u.single=jc)(eK:yD u)(gX:ds≠r)(iQ:d≠r)(gE:tr.okB [(ds,1),(r,q.length+1)]=jc)(cQ:xS tr=jc)
  (E1 E2:Env)(t9:E1=E.app [(ds,ja u),(r,ja (if q=[]then .same ds []else tr.set q.reverse .any))] [(ds,1),(r,q.length+1)])(gO:E2=E1.app (cWr d res [(i,ds,u')]) (vZ d [(i,ds,u')]))
  (hc:FnC P f us res [(i,u')])(gc:xW E1 [(i,ds,u')] 0 xs us)(cS:zHk E1 d xs us [(i,ds,u')])(gm:xJ res∧yU res=jc∧vT res=jc)
  (tr2 v0:T)(cJ:E2 r=ja tr2)(ib:tr2.get q.reverse=ja v0)(az:v0.single=jc)(pe:E2 ds=ja u')(eA:yD u')(b8:u'.single=jc)(pM:tr2.okB [(r,q.length+1),(ds,1)]=jc)(hc3:xS tr2=jc)(ir:u'.okB [(r,q.length+1),(ds,1)]=jc)(hc4:xS u'=jc):
  wN P Γ o E (E2.app [(r,ja (tr2.set q.reverse u')),(ds,ja (.same r q))] [(r,q.length+1),(ds,1)]):=by
 have p5:cLv u'=1:=by simp[cLv,b8]
 intro a w K Q ⟨gQ,G,g9⟩ hK;refine zCv ho gk gr (wO g9 hf).1 ?_;have gM:G.hd ds []=G.hd r q:=by have:=(g9.ent ds _ hs).2.1;simpa only[R]using this
 obtain⟨cI,pU⟩:=zDP g9 ds [] r q (.same r q) tr u (.same r q) hs rfl rfl gM hr hq hu eK gX (by simp[T.okB,kG,gX]) (by simpa using gE) rfl cQ;have j9:E.app [(ds,ja ((T.same r q).set [].reverse u)),(r,ja (if q=[]then .same ds []else tr.set q.reverse .any))] [(ds,([]:List Nat).length+1),(r,q.length+1)]=E1:=by rw[t9];rfl
 rw[j9]at cI;refine(zHl cI hd f xs us res [(i,ds,u')] hc gc cS gm).mono ?_
 rintro e w' ⟨v,rfl,S,G',hS,hk,gn⟩
 rw[←gO]at gn;have iR:d≠ds:=by have:=cS.nodup;simpa using this
 have h1:G'.hd r q=(G.tr ds [] r q).hd r q:=hk.hd r q (fun n hn=>by simp[vZ,p5]at hn;rcases hn with⟨e,_⟩|⟨e,_⟩;exact absurd e.symm iQ;exact absurd e.symm gX);have h2:G'.hd ds []=(G.tr ds [] r q).hd ds []:=hk.hd ds [] (fun n hn=>by simp[vZ,p5]at hn;rcases hn with⟨e,_⟩|h;exact absurd e.symm iR;simp[h]);have cc:G'.hd r q=G'.hd ds []:=by rw[h1,h2,pU r q (fun h=>gX h.1.symm),pU ds [] (fun h=>h.2.2 rfl),gM]
 obtain⟨cH,_⟩:=zDP gn r q ds [] tr2 u' u' v0 cJ ib az cc pe rfl b8 eA (Ne.symm gX) (by simpa using pM) (by simpa using ir) hc3 hc4;refine⟨v,rfl,hK _ _ ⟨S,hS,gQ,G'.tr r q ds [],?_⟩⟩;have hw:(if([]:List Nat)=[]then T.same r q else u'.set ([]:List Nat).reverse .any)=T.same r q:=if_pos rfl;rw[hw]at cH;exact cH
theorem zR8(f:FuncId)(xf:Operand)(xs:List Operand)(ats:Array TypeId)(us res:List T)(ho:o.op=.call { callee:=.value xf,args:=xs.toArray,argTypes:=ats })(gk:o.dst=ja d)(hd:d<Γ.N)
  (gr:∀args w,(callFunc f args).run P w=.ok (.enter f args) w)(hf:opT E xf=ja (.lit (.func (.func f) #[] #[])))
  (hc:FnC P f us res [])(gj:xs.length=us.length)(gc:∀(i:Nat) u,us[i]? =ja u→ ∃x,xs[i]? =ja x∧opT E x=ja u∧u.flat=jc)(gm:xJ res∧yU res=jc):
  wN P Γ o E (E.app (cWr d res []) (vZ d [])):=by
 intro a w K Q ⟨gQ,G,g9⟩ hK;have hm:=g9.mem;refine zCv ho gk gr (wO g9 hf).1 ?_;have pP:∀b,¬zAF G [] b:=by rintro b ⟨s,z,_,h⟩;simp at h
 have ef:∀(us:List T),xJ us∧yU us=jc→ ∀u∈us,yD u∧u.okTup=jc:=by
  intro us
  induction us with
  |nil=>intro _ u hu;simp at hu
  |cons v us ih=>
   intro⟨h1,h2⟩ u hu;simp only[yU,J4]at h2;rcases Jc.1 hu with rfl|hu
   ·exact⟨h1.1,h2.1⟩
   ·exact ih ⟨h1.2,h2.2⟩ u hu
 have:=zHj g9 hd (Sc:=Γ.St) (rw:=[]) (fun b x hx=>⟨hm.st b x hx,pP b⟩) (fun _ _ h=>h) hc gj (fun i u hu=>by
   obtain⟨x,h1,h2,h3⟩:=gc i u hu;refine⟨x,h1,?_⟩;have de:=zDb (E:=E) u h3;cases x with
   |tmp s=>
    have gC:∀z,(G.arg a xs []).hd i z=G.hd s z:=fun z=>by simp[Gh.arg,h1]
    obtain⟨e1,e2,_⟩:=g9.ent s u h2;refine⟨?_,zJA u [] [] h3 (fun z=>by simp[gC]) e2⟩;have:=zJF (E:=E) gC u (de.1 [] s);rw[de.2]at this;rw[wK e1,this]
   |const v=>
    simp only[opT]at h2;split at h2
    ·rename_i gp
     simp at h2;subst h2;have gC:(G.arg a xs []).hd i []=v:=by simp[Gh.arg,h1,Act.eval,zAh gp]
     exact⟨by simp[mkV,gC,Act.eval],by simp[R,gC]⟩
    ·cases h2
   |func f=>
    simp only[opT]at h2;simp at h2;subst h2;have gC:(G.arg a xs []).hd i []=.func (.func f) #[] #[]:=by simp[Gh.arg,h1,Act.eval,jP,Value.oneCell']
    exact⟨by simp[mkV,gC,Act.eval],by simp[R,gC]⟩
   |global g=>simp[opT]at h2) (by simp) (by simp) (fun x h=>by simp at h)
  (fun u hu=>⟨(ef res gm u hu).1,(ef res gm u hu).2,fun S' G w s p hS h=>by
   have:aft Γ.St Γ.St S'=S':=funext fun b=>by
    simp only[aft];cases hb:Γ.St b with
    |none=>rfl
    |some x=>exact(hS b x hb).symm
   rw[this];exact h⟩) (fun x h=>by simp at h)
 refine this.mono ?_
 rintro e w' ⟨v,rfl,S,G',hS,_,gn⟩
 exact⟨v,rfl,hK _ _ ⟨S,hS,gQ,G',gn⟩⟩
end
end Go.Ab

namespace Go.Ab
open Go
def yW:List (Nat×T)→Env
 | [],_=>jb
 |(k,t)::l,s=>if k=s then ja t else yW l s
def Env.Has(E:Env):List (Nat×T)→Prop
 | []=>True
 |(s,t)::l=>E s=ja t∧E.Has l
theorem Env.Has.le{E:Env}:{l:List (Nat×T)}→E.Has l→ ∀s t,yW l s=ja t→E s=ja t
 | [],_,s,t,h=>by simp[yW]at h
 |(k,u)::l,hh,s,t,h=>by
  simp only[yW]at h;split at h
  ·rename_i e
   subst e;rw[hh.1];exact h
  ·exact hh.2.le s t h
theorem Sim.weaken{Γ:Ctx}{E E':Env}{a:Act}{w:World}(h:Sim Γ E a w)(p6:∀s t,E' s=ja t→E s=ja t):Sim Γ E' a w:=by obtain⟨h1,G,h2⟩:=h;exact⟨h1,G,⟨h2.size,fun s t hs=>h2.ent s t (p6 s t hs),h2.mem⟩⟩
theorem jA.weaken{Γ:Ctx}{E E':Env}{a:Act}{w:World}(h:jA Γ E a w)(p6:∀s t,E' s=ja t→E s=ja t):jA Γ E' a w:=by obtain⟨S,h1,h2⟩:=h;exact⟨S,h1,h2.weaken p6⟩
abbrev jR:=List (Nat×Value)
def jR.Hold(pn:jR)(a:Act):Prop:=∀x∈pn,a.tmps[x.1]? =ja x.2
def jR.ok(pn:jR)(d:Option Nat):Bool:=match d with
 |none=>jc
 |some d=>pn.all fun x=>x.1 != d
theorem Oper.wp_frame{P:Program}{o:Oper}{a:Act}{w:World}{K:Act→World→Prop}{Q:Exit→Act→World→Prop}(h:o.wp P a w K Q):
  o.wp P a w (fun a' w'=>K a' w'∧ ∀s,o.dst≠ja s→a'.tmps[s]? =a.tmps[s]?) Q:=by
 have key:∀(v:Value)(ds:List Deferred),∀s,o.dst≠ja s→(({ a with defers:=ds }:Act).put o.dst v).tmps[s]? =a.tmps[s]?:=by
  intro v ds s hs;cases hd:o.dst with
  |none=>rfl
  |some d=>
   have:d≠s:=fun e=>hs (by rw[hd,e])
   simp[Act.put,H3 this]
 have key0:∀(v:Value),∀s,o.dst≠ja s→(a.put o.dst v).tmps[s]? =a.tmps[s]?:=fun v=>key v a.defers
 unfold Oper.wp at*
 generalize (execOp a.eval o).run P w=r at*
 cases r with
 |ok n w'=>
  cases n<;>simp only[Oper.upon]at h ⊢
  case value v=>exact⟨h,key0 v⟩
  case skip=>exact⟨h,key0 _⟩
  case defer d=>exact⟨h,key _ _⟩
  case enter f args=>
   refine Calls.mono h ?_;intro e w'' he;cases e with
   |returned v=>exact⟨he,key0 v⟩
   |panicked c=>exact he
   |outgrown=>exact he
  case row row args=>
   refine Rows.mono h ?_;intro v w'' he;exact⟨he,key0 v⟩
 |halt x w'=>cases x<;>simp only[Oper.upon]at h ⊢ <;>exact h
theorem jR.Hold.frame{pn:jR}{a a':Act}{d:Option Nat}(h:pn.Hold a)(gE:pn.ok d=jc)(hf:∀s,d≠ja s→a'.tmps[s]? =a.tmps[s]?):pn.Hold a':=by
 intro x hx;rw[hf x.1 ?_]
 ·exact h x hx
 ·rintro rfl
  have:=Ki.1 gE x hx;simp at this
section
variable (P:Program) (Γ:Ctx) (pn:jR)
def CW(c:Code)(E:Env)(Q:Exit→Env→Prop):Prop:=
 ∀(a:Act)(w:World)(Q':Exit→Act→World→Prop),jA Γ E a w→pn.Hold a→(∀e E' a' w',Q e E'→jA Γ E' a' w'→pn.Hold a'→Q' e a' w')→c.wp P Q' a w
def zY(ops:Array Oper)(o:Oper)(E E':Env):Prop:=
 ∀(a:Act)(w:World)(K:Act→World→Prop)(Q:Exit→Act→World→Prop),jA Γ E a w→(∀a' w',jA Γ E' a' w'→(∀s,o.dst≠ja s→a'.tmps[s]? =a.tmps[s]?)→K a' w')→
  if Region.wanted o (yielded ops a.tmps)then o.wp P a w K Q∨(o.asks P a w∧LetsOut Q)else K (a.put o.dst undef) w
def wpL(ops:Array Oper)(Q:Exit→Act→World→Prop):List Oper→Act→World→Prop
 | [],a,w=>Q .normal a w
 |o::os,a,w=>if Region.wanted o (yielded ops a.tmps)then o.wp P a w (wpL ops Q os) Q∨(o.asks P a w∧LetsOut Q)else wpL ops Q os (a.put o.dst undef) w
def RW(ops:Array Oper)(os:List Oper)(E:Env)(Q:Exit→Env→Prop):Prop:=
 ∀(a:Act)(w:World)(Q':Exit→Act→World→Prop),jA Γ E a w→pn.Hold a→(∀e E' a' w',Q e E'→jA Γ E' a' w'→pn.Hold a'→Q' e a' w')→wpL P ops Q' os a w
end
section
variable {P:Program}{Γ:Ctx}{pn:jR}{E E':Env}{Q Q1:Exit→Env→Prop}{c c1 c2:Code}{ops:Array Oper}{o:Oper}{os:List Oper}{d:Nat}
theorem zJH{Q':Exit→Act→World→Prop}:∀(os:List Oper)(n:Nat)(a:Act)(w:World),ops.toList.drop n=os→wpL P ops Q' os a w→wpOps P ops Q' (Lb n os.length) a w
 | [],n,a,w,_,h=>by simpa[wpOps,wpL]using h
 |o::os,n,a,w,hd,h=>by
  have ho:ops[n]? =ja o:=by have:=congrArg (·[0]?) hd;simpa[Ko]using this
  have me:ops.toList.drop (n+1)=os:=by have:=congrArg List.tail hd;simpa[List.tail_drop]using this
  simp only[J6,Jdc,wpOps,ho];simp only[wpL]at h;split
  ·rename_i hw
   simp only[hw,if_true]at h;exact h.imp (Oper.wp_mono fun a w=>zJH os (n+1) a w me) id
  ·rename_i hw
   simp only[hw]at h;exact zJH os (n+1) _ w me h
theorem CW.region{id:Nat}(h:RW P Γ pn ops ops.toList E Q):CW P Γ pn (.region id ops jd) E Q:=by intro a w Q' hs hp hQ;refine wp_region ?_;have:=zJH (P:=P) ops.toList 0 a w (by simp) (h a w Q' hs hp hQ);simpa[Ls]using this
theorem RW.nil(h:Q .normal E):RW P Γ pn ops [] E Q:=fun a w Q' hs hp hQ=>by simp only[wpL];exact hQ _ _ _ _ h hs hp
theorem RW.cons(h1:zY P Γ ops o E E')(h3:RW P Γ pn ops os E' Q)(h2:pn.ok o.dst=jc:=by rfl):RW P Γ pn ops (o::os) E Q:=by
 intro a w Q' hs hp hQ;simp only[wpL];have:=h1 a w (wpL P ops Q' os) Q' hs fun a' w' gI hf=>h3 a' w' Q' gI (hp.frame h2 hf) hQ
 exact this
theorem zY.op(h:∀S,wN P (Γ.at S) o E E')(hg:o.guard=jb:=by rfl):zY P Γ ops o E E':=by
 intro a w K Q hs hK;have hw:Region.wanted o (yielded ops a.tmps)=jc:=by simp[Region.wanted,hg]
 rw[if_pos hw];refine .inl ?_;obtain⟨S,hS,hs⟩:=hs;have:=Oper.wp_frame (h S a w (fun a' w'=>jA Γ E' a' w') Q hs fun a' w' h=>h.up hS);exact Oper.wp_mono (fun a' w' h=>hK a' w' h.1 h.2) this
theorem zHm{a:Act}{w:World}(hs:jA Γ E a w){g s:Nat}{b:Bool}(gu:(ops[g]?).bind (·.dst)=ja s)(h:E s=ja (.lit (.bool b))):yielded ops a.tmps g=ja b:=by obtain⟨_,_,_,G,hr⟩:=hs;obtain⟨h1,h2,_⟩:=hr.ent s _ h;simp only[R]at h2;simp[yielded,gu,h1,mkV,h2]
theorem zY.guard(g:Nat)(b:Bool)(s:Nat)(h:∀S,wN P (Γ.at S) o E E')(hg:o.guard=ja (g,b):=by rfl)(gu:(ops[g]?).bind (·.dst)=ja s:=by rfl)(hb:E s=ja (.lit (.bool b)):=by rfl):zY P Γ ops o E E':=by
 intro a w K Q hs hK;have hw:Region.wanted o (yielded ops a.tmps)=jc:=by simp[Region.wanted,hg,zHm hs gu hb]
 rw[if_pos hw];refine .inl ?_;obtain⟨S,hS,hs⟩:=hs;have:=Oper.wp_frame (h S a w (fun a' w'=>jA Γ E' a' w') Q hs fun a' w' h=>h.up hS);exact Oper.wp_mono (fun a' w' h=>hK a' w' h.1 h.2) this
def zO(Γ:Ctx)(E E':Env):Prop:=∀(a:Act)(w:World),jA Γ E a w→jA Γ E' a w
theorem zO.refl:zO Γ E E:=fun _ _ h=>h
theorem zO.trans{E1 E2 E3:Env}(h:zO Γ E1 E2)(h':zO Γ E2 E3):zO Γ E1 E3:=fun a w hs=>h' a w (h a w hs)
theorem zO.has{l:List (Nat×T)}(h:E.Has l):zO Γ E (yW l):=fun _ _ hs=>hs.weaken h.le
theorem CW.ghost(h1:zO Γ E E')(h:CW P Γ pn c E' Q):CW P Γ pn c E Q:=fun a w Q' hs=>h a w Q' (h1 a w hs)
theorem RW.ghost(h1:zO Γ E E')(h:RW P Γ pn ops os E' Q):RW P Γ pn ops os E Q:=fun a w Q' hs=>h a w Q' (h1 a w hs)
theorem CW.to(l:List (Nat×T))(h1:E.Has l)(h:CW P Γ pn c (yW l) Q):CW P Γ pn c E Q:=h.ghost (.has h1)
theorem CW.mono(h:CW P Γ pn c E Q1)(hq:∀e E',Q1 e E'→Q e E'):CW P Γ pn c E Q:=fun a w Q' hs hp hQ=>h a w Q' hs hp fun e E' a' w' h1=>hQ e E' a' w' (hq e E' h1)
theorem CW.skip(h:Q .normal E):CW P Γ pn .skip E Q:=fun _ _ _ hs hp hQ=>wp_skip (hQ _ _ _ _ h hs hp)
theorem CW.ret(h:Q .ret E):CW P Γ pn .ret E Q:=fun _ _ _ hs hp hQ=>wp_ret (hQ _ _ _ _ h hs hp)
theorem CW.exit{id:Nat}(h:Q (.exit id) E):CW P Γ pn (.exit id) E Q:=fun _ _ _ hs hp hQ=>wp_exit (hQ _ _ _ _ h hs hp)
def xT(P:Program)(Γ:Ctx)(pn:jR)(c:Code)(Q:Exit→Env→Prop):Exit→Env→Prop
 |.normal,E=>CW P Γ pn c E Q
 |e,E=>Q e E
theorem CW.seq(h:CW P Γ pn c1 E (xT P Γ pn c2 Q)):CW P Γ pn (.seq c1 c2) E Q:=by
 intro a w Q' hs hp hQ;refine wp_seq (h a w _ hs hp fun e E' a' w' h1 gI fp=>?_);cases e with
 |normal=>exact h1 a' w' Q' gI fp hQ
 |_=>exact hQ _ _ _ _ h1 gI fp
theorem CW.cond{x:Operand}(b:Bool)(hb:opT E x=ja (.lit (.bool b)))(ht:b=jc→CW P Γ pn c1 E Q)(hf:b=jd→CW P Γ pn c2 E Q):CW P Γ pn (.cond x c1 c2) E Q:=by intro a w Q' hs hp hQ;obtain⟨_,_,_,G,hr⟩:=id hs;refine wp_cond_split (wO hr hb).1 (fun h=>ht h a w Q' hs hp hQ) (fun h=>hf h a w Q' hs hp hQ)
def xY(id:Nat)(Q:Exit→Env→Prop):Exit→Env→Prop
 |.exit id',E=>if id'=id then Q .normal E else Q (.exit id') E
 |e,E=>Q e E
theorem CW.block{id:Nat}(h:CW P Γ pn c E (xY id Q)):CW P Γ pn (.block id c) E Q:=by
 intro a w Q' hs hp hQ;refine wp_block (h a w _ hs hp fun e E' a' w' h1 gI fp=>?_);cases e with
 |exit id'=>
  simp only[xY]at h1;simp only[Exit.inBlock];split
  ·rename_i e;rw[if_pos e]at h1;exact hQ _ _ _ _ h1 gI fp
  ·rename_i e;rw[if_neg e]at h1;exact hQ _ _ _ _ h1 gI fp
 |_=>exact hQ _ _ _ _ h1 gI fp
end
def jI{σ ρ:Type}(body:σ→Option (σ⊕ρ)):Nat→σ→Option ρ
 |0,_=>jb
 |n+1,s=>match body s with
  |none=>jb
  |some (.inl s')=>jI body n s'
  |some (.inr r)=>ja r
theorem zDT{σ ρ:Type}{body:σ→Option (σ⊕ρ)}{r:ρ}:∀{n m:Nat}{s:σ},jI body n s=ja r→n≤m→jI body m s=ja r
 |0,_,_,h,_=>by simp[jI]at h
 |n+1,0,_,_,hm=>by omega
 |n+1,m+1,s,h,hm=>by
  simp only[jI]at h ⊢
  cases hb:body s with
  |none=>simp[hb]at h
  |some x=>
   cases x with
   |inl s'=>simp only[hb]at h ⊢;exact zDT h (by omega)
   |inr r'=>simpa[hb]using h
open Classical in
noncomputable def zH {σ ρ:Type} (body:σ→Option (σ⊕ρ)) (s:σ):Option ρ:=
 if h:∃(n:Nat)(r:ρ),jI body n s=ja r then ja h.choose_spec.choose else jb
theorem zDU{σ ρ:Type}{body:σ→Option (σ⊕ρ)}{s:σ}{r:ρ}:zH body s=ja r↔ ∃n,jI body n s=ja r:=by
 unfold zH;constructor
 ·intro h
  split at h
  ·rename_i he
   simp at h;exact⟨he.choose,by rw[←h];exact he.choose_spec.choose_spec⟩
  ·cases h
 ·rintro⟨n,hn⟩
  have he:∃(n:Nat)(r:ρ),jI body n s=ja r:=⟨n,r,hn⟩;rw[dif_pos he];have h1:=he.choose_spec.choose_spec;have h2:=zDT h1 (Nat.le_max_left he.choose n);have h3:=zDT hn (Nat.le_max_right he.choose n);rw[h2]at h3;exact h3
theorem wA{σ ρ:Type}(body:σ→Option (σ⊕ρ))(s:σ):zH body s=match body s with
  |none=>jb
  |some (.inl s')=>zH body s'
  |some (.inr r)=>ja r:=by
 apply Option.ext;intro r;rw[zDU];cases hb:body s with
 |none=>
  simp only[reduceCtorEq,iff_false]
  rintro⟨n,hn⟩
  cases n<;>simp[jI,hb]at hn
 |some x=>
  cases x with
  |inl s'=>
   simp only[];rw[zDU];constructor
   ·rintro⟨n,hn⟩
    cases n with
    |zero=>simp[jI]at hn
    |succ n=>exact⟨n,by simpa[jI,hb]using hn⟩
   ·rintro⟨n,hn⟩
    exact⟨n+1,by simpa[jI,hb]using hn⟩
  |inr r'=>
   simp only[L8.injEq];constructor
   ·rintro⟨n,hn⟩
    cases n with
    |zero=>simp[jI]at hn
    |succ n=>simpa[jI,hb]using hn
   ·rintro rfl
    exact⟨1,by simp[jI,hb]⟩
section
variable {P:Program}{Γ:Ctx}{pn:jR}{E:Env}{Q:Exit→Env→Prop}{c:Code}
def vC{σ ρ:Type}(Γ:Ctx)(en:σ→Env)(Q:ρ→Exit→Env→Prop)(x:σ⊕ρ):Exit→Env→Prop:=fun e E'=>
 match x with
 |.inl s'=>e=.normal∧zO Γ E' (en s')
 |.inr r=>e≠.normal∧Q r e E'
theorem zBq{p:Nat→Prop}(h:∃m,p m):∃m,p m∧ ∀k,k<m→ ¬p k:=by
 refine Classical.byContradiction fun hn=>?_
 have key:∀n,∀k,k<n→ ¬p k:=by
  intro n
  induction n with
  |zero=>intro k hk;omega
  |succ n ih=>
   intro k hk hp;rcases Jk k n with h1|h1
   ·exact ih k h1 hp
   ·have:k=n:=by omega
    subst this;exact hn ⟨k,hp,ih⟩
 obtain⟨m,hm⟩:=h;exact key (m+1) m (by omega) hm
theorem CW.loop{σ ρ:Type}(body:σ→Option (σ⊕ρ))(en:σ→Env)(Q:ρ→Exit→Env→Prop)(h:∀s x,body s=ja x→CW P Γ pn c (en s) (vC Γ en Q x)){s:σ}{r:ρ}(hr:zH body s=ja r):
  CW P Γ pn (.loop c) (en s) (Q r):=by
 classical
 intro a w Q' hs hp hQ
 let p:Act→World→Nat→Prop:=fun a w m=> ∃s,jI body m s=ja r∧jA Γ (en s) a w∧pn.Hold a
 let μ:Act→World→Nat:=fun a w=>if h:∃m,p a w m then(zBq h).choose else 0
 obtain⟨n,hn⟩:=zDU.1 hr;refine wp_loop (fun a w=> ∃m,p a w m) μ ⟨n,s,hn,hs,hp⟩ ?_;intro a w cN;have hμ:μ a w=(zBq cN).choose:=dif_pos cN;obtain⟨s,h1,h2,h3⟩:=(zBq cN).choose_spec.1;have eF:=(zBq cN).choose_spec.2;rw[←hμ]at h1;cases hm:μ a w with
 |zero=>rw[hm]at h1;simp[jI]at h1
 |succ k=>
  rw[hm]at h1;simp only[jI]at h1;cases hb:body s with
  |none=>simp[hb]at h1
  |some x=>
   refine h s x hb a w _ h2 h3 fun e E' a' w' hq gI fp=>?_
   cases x with
   |inl s'=>
    simp only[hb]at h1;obtain⟨rfl,hg⟩:=hq;have tq:p a' w' k:=⟨s',h1,hg a' w' gI,fp⟩;refine⟨⟨k,tq⟩,?_⟩;have mp:∃m,p a' w' m:=⟨k,tq⟩;have hμ':μ a' w'=(zBq mp).choose:=dif_pos mp;rw[hμ'];rcases Jk (zBq mp).choose (k+1)with h4|h4
    ·exact h4
    ·exact absurd tq ((zBq mp).choose_spec.2 k (by omega))
   |inr r'=>
    simp only[hb]at h1;have:r'=r:=by simpa using h1
    subst this;obtain⟨gf,hq⟩:=hq;have:=hQ e E' a' w' hq gI fp;cases e with
    |normal=>exact absurd rfl gf
    |_=>exact this
end
end Go.Ab

namespace Go.Ab
open Go
abbrev Nds:=List (Nat×List Nat×T)
def ROk(P:Program)(E:Env):ResultVar→(Nat×List Nat×T)→Prop
 |.tmp s,x=>x.1=s∧x.2.1=[]∧E s=ja x.2.2∧x.2.2.okTup=jc
 |.cell a T,x=>x.1=a∧x.2.1=[0]∧E a=ja (.ptr x.2.2)∧ ∃ds ti,P.underlying T=ja ds∧P.info? T=ja ti∧zFj ds= !x.2.2.single∧ti.size=x.2.2.size
def zPR(P:Program)(E:Env):List ResultVar→Nds→Prop
 | [],[]=>True
 |x::xs,y::ys=>ROk P E x y∧zPR P E xs ys
 |_,_=>False
def LOk(E:Env)(us:List T):List (Nat×T)→Prop
 | []=>True
 |(i,u')::l=>(E i=ja u'∧ ∃u,us[i]? =ja u)∧LOk E us l
def zYK(P:Program)(rs:Array ResultVar)(us res:List T)(rws:List (Nat×T)):Exit→Env→Prop:=fun e E=>
 (e=.ret∨e=.normal)∧ ∃nd:Nds,zPR P E rs.toList nd∧nd.map (·.2.2)=res∧(∀x∈nd,us.length≤x.1)∧(nd.map (·.1)).Nodup∧LOk E us rws
def zCw(v:Nat→Value)(is:List Nat):jR:=is.map fun i=>(i,v i)
def zI5:Nat→List T→List (Nat×T)
 |_,[]=>[]
 |i,u::us=>(i,u)::zI5 (i+1) us
theorem zLb:∀(us:List T)(i s:Nat)(t:T),yW (zI5 i us) s=ja t→i≤s∧us[s-i]? =ja t
 | [],i,s,t,h=>by simp[zI5,yW]at h
 |u::us,i,s,t,h=>by
  simp only[zI5,yW]at h;split at h
  ·rename_i e;subst e;simpa using h
  ·rename_i e
   obtain⟨h1,h2⟩:=zLb us (i+1) s t h;refine⟨by omega,?_⟩;have:s-i=(s-(i+1))+1:=by omega
   rw[this];simpa using h2
def zR9(tmps:Array Value):ResultVar→Sem Value
 |.tmp t=>pure (tmps.getD t undef)
 |.cell a t=>do loadVar t (←asAddr (tmps.getD a undef))
theorem zNc(fn:Func)(tmps:Array Value):results fn tmps=(do
  let vs ←fn.results.mapM (zR9 tmps)
  pure (if h:vs.size=1 then vs[0]else .tuple vs)):=rfl
theorem vP.get:(xs:List T)→vP xs→ ∀(i:Nat)(x:T),xs[i]? =ja x→Top x
 | [],_,i,x,h=>by simp at h
 |y::ys,ht,i,x,h=>by
  simp only[vP]at ht;cases i with
  |zero=>simp at h;subst h;exact ht.1
  |succ i=>exact vP.get ys ht.2 i x (by simpa using h)
theorem LOk.get{E:Env}{us:List T}:(l:List (Nat×T))→LOk E us l→ ∀i u',(i,u')∈l→E i=ja u'∧ ∃u,us[i]? =ja u
 | [],_,_,_,h=>by simp at h
 |x::l,h,i,u',hm=>by
  rcases Jc.1 hm with rfl|hm
  ·exact h.1
  ·exact LOk.get l h.2 i u' hm
theorem yAB{P:Program}{Γ:Ctx}{E:Env}{G:Gh}{tmps:Array Value}{w:World}(g9:Rep Γ E G tmps w)(x:ResultVar)(s:Nat)(q:List Nat)(t:T)(h:ROk P E x (s,q,t)):
  (zR9 tmps x).run P w=.ok (sC G s t q) w∧R Γ.St G w s t q:=by
 cases x with
 |tmp s'=>
  obtain⟨h0,ah,h1,h2⟩:=h;dsimp only at h0 ah h1 h2;subst h0 ah;obtain⟨g1,g2,_⟩:=g9.ent _ _ h1;have gR:∀xs,t≠.tup xs:=by rintro xs rfl;simp[T.okTup]at h2
  refine⟨?_,g2⟩;rw[←kH G s t [] gR];simp[zR9,K8,g1]
 |cell a T'=>
  obtain⟨h0,ah,h1,ds,ti,h2,h3,h4,h5⟩:=h;dsimp only at h0 ah h1 h4 h5;subst h0 ah;obtain⟨g1,g2,_⟩:=g9.ent _ _ h1;simp only[R]at g2;obtain⟨b,cs,e,k1,k2,k3,k4,k5,k6⟩:=g2;refine⟨?_,k6⟩;rw[xV rfl,k1]at g1;have h6:=zGd (w:=w) h2 h3 k5 h4 h5;simp[zR9,K8,g1,asAddr,h6]
theorem zGk{P:Program}{Γ:Ctx}{E:Env}{G:Gh}{tmps:Array Value}{w:World}(g9:Rep Γ E G tmps w):(rs:List ResultVar)→(nd:Nds)→zPR P E rs nd→
  (rs.mapM (zR9 tmps)).run P w=.ok (nd.map fun x=>sC G x.1 x.2.2 x.2.1) w∧ ∀x∈nd,R Γ.St G w x.1 x.2.2 x.2.1
 | [],[],_=>by simp
 |x::xs,y::ys,h=>by
  obtain⟨h1,h2⟩:=zGk g9 xs ys h.2;obtain⟨h3,h4⟩:=yAB g9 x y.1 y.2.1 y.2.2 h.1;refine⟨?_,?_⟩
  ·simp[List.mapM_cons,h3,h1]
  ·intro z hz
   rcases Jc.1 hz with rfl|hz
   ·exact h4
   ·exact h2 z hz
 | [],_::_,h=>by simp[zPR]at h
 |_::_,[],h=>by simp[zPR]at h
theorem FnC.of_body{P:Program}{f:FuncId}{fn:Func}{c:Code}{us res:List T}{rws:List (Nat×T)}(hf:P.funcs[f]? =ja fn)(hb:fn.body=ja c)(hn:us.length≤fn.ntmps)(ht:vP us)(hr:rws.all (fun x=>decide (x.1<us.length))=jc)
  (h:∀(Γ:Ctx)(v:Nat→Value),Γ.N=fn.ntmps→CW P Γ (zCw v (rws.map (·.1))) c (yW (zI5 0 us)) (zYK P fn.results us res rws)):FnC P f us res rws:=by
 intro St W w G vs p9 gc gx
 let Γ:Ctx:=⟨St,W,w,fn.ntmps⟩
 let v:Nat→Value:=fun i=>vs.getD i undef
 have hm:Mem Γ G w:=⟨gx.one,gx.lb,gx.ow,gx.st,gx.fr,gx.sz,gx.bk⟩;have gv:(vs++Qo (fn.ntmps-vs.size) undef).size=fn.ntmps:=by simp;omega
 have be:Sim Γ (yW (zI5 0 us)) { tmps:=vs++Qo (fn.ntmps-vs.size) undef,defers:=[] } w:=by refine⟨rfl,G,gv,?_,hm⟩;intro s t hs;obtain⟨_,h2⟩:=zLb us 0 s t hs;simp only[Ud]at h2;obtain⟨h3,h4⟩:=gc s t h2;have gz:s<vs.size:=(Km.1 h3).1;exact⟨by simp[Jao,gz];exact(Km.1 h3).2,h4,vP.get us ht s t h2⟩
 have im:(zCw v (rws.map (·.1))).Hold { tmps:=vs++Qo (fn.ntmps-vs.size) undef,defers:=[] }:=by
  intro x hx;simp only[zCw,Js]at hx;obtain⟨i,⟨y,hy,rfl⟩,rfl⟩:=hx;have h1:=Ki.1 hr y hy;simp at h1;have h2:y.1<vs.size:=by omega
  simp[Jao,h2,v]
 refine calls_of_wp hf hb (h Γ v rfl _ _ _ (.of be) im ?_)
 rintro e E' a' w' ⟨he,nd,h1,h2,h3,h4,h5⟩ ⟨S',ee,gQ,G',g9⟩ hp
 obtain⟨g1,g2⟩:=zGk g9 _ _ h1;have gm:(results fn a'.tmps).run P w'=.ok (zKU G' nd) w':=by
  rw[zNc,Array.mapM_eq_mapM_toList];simp only[Sem.run_bind,Sem.run_map,g1];cases nd with
  |nil=>simp[zKU]
  |cons y ys=>
   cases ys with
   |nil=>simp[zKU]
   |cons z zs=>simp[zKU]
 have gT:Mem ⟨S',W,w,0⟩ G' w':=⟨g9.mem.one,g9.mem.lb,g9.mem.ow,g9.mem.st,g9.mem.fr,g9.mem.sz,g9.mem.bk⟩;have bU:bodyPost P fn (fun e w'=> ∃(S':Stb)(G':Gh)(nd:List (Nat×List Nat×T)),zDu St S' W w.heap.size∧e=.returned (zKU G' nd)∧Mem ⟨S',W,w,0⟩ G' w'∧nd.map (·.2.2)=res∧
   (∀x∈nd,R S' G' w' x.1 x.2.2 x.2.1∧us.length≤x.1)∧(nd.map (·.1)).Nodup∧
   ∀i u',(i,u')∈rws→R S' G' w' i u' []∧ ∃u,us[i]? =ja u∧mkV G' i u' []=mkV G i u []) .ret a' w':=by
  refine⟨gQ,_,gm,S',G',nd,ee,rfl,gT,h2,fun x hx=>⟨g2 x hx,h3 x hx⟩,h4,?_⟩;intro i u' hiu;obtain⟨k1,u,k3⟩:=LOk.get _ h5 i u' hiu;obtain⟨k5,k6,_⟩:=g9.ent i u' k1;refine⟨k6,u,k3,?_⟩;have k7:=hp (i,v i) (by simp only[zCw,Js];exact⟨i,⟨(i,u'),hiu,rfl⟩,rfl⟩);have k8:=(gc i u k3).1;rw[k5]at k7;simp[v,K8,k8]at k7;exact k7
 rcases he with rfl|rfl<;>exact bU
end Go.Ab

namespace Go.Ab
open Go
mutual
def vW:T→T
 |.sl k xs=>.ro (strip (.sl k xs))
 |.ptr t=>.ro (strip (.ptr t))
 |.agg xs=>.agg (uD xs)
 |.tup xs=>.tup (uD xs)
 |.any=>.any
 |.lit v=>.lit v
 |.ro t=>.ro t
 |.same r p=>.same r p
 |.addr r p=>.addr r p
 |.sub r p k lo hi=>.sub r p k lo hi
def uD:List T→List T
 | []=>[]
 |x::xs=>vW x::uD xs
end
mutual
theorem zRA(G:Gh)(s:Nat):(t:T)→ ∀p,vals G s (vW t) p=vals G s t p
 |.agg xs,p=>by simp only[vW,vals];exact zDc G s xs p 0
 |.sl _ _,_|.ptr _,_|.tup _,_|.any,_|.lit _,_|.ro _,_|.same _ _,_|.addr _ _,_|.sub _ _ _ _ _,_=>by simp only[vW,vals]
theorem zDc(G:Gh)(s:Nat):(xs:List T)→ ∀p j,yF G s (uD xs) p j=yF G s xs p j
 | [],_,_=>by simp only[uD]
 |x::xs,p,j=>by simp only[uD,yF,zRA G s x,zDc G s xs]
end
theorem zRB(G:Gh)(s:Nat)(t:T)(p:List Nat):sC G s (vW t) p=sC G s t p:=by cases t<;>simp only[vW,sC,zDc]
theorem zLc(G:Gh)(s:Nat):(xs:List T)→ ∀p j,qZ G s (uD xs) p j=qZ G s xs p j
 | [],_,_=>by simp only[uD]
 |x::xs,p,j=>by simp only[uD,qZ,zRB,zLc G s xs]
theorem zUJ(G:Gh)(s:Nat)(t:T)(p:List Nat):mkV G s (vW t) p=mkV G s t p:=by cases t<;>simp only[vW,mkV,zDc,zLc]
mutual
theorem zLd:(t:T)→Top t→Top (vW t)
 |.agg xs,h|.tup xs,h=>by simp only[vW,Top]at h ⊢;exact zIR xs h
 |.sl _ _,_|.ptr _,_|.any,_|.lit _,_|.ro _,_|.same _ _,_|.addr _ _,_|.sub _ _ _ _ _,_=>by simp only[vW,Top]
theorem zIR:(xs:List T)→vP xs→vP (uD xs)
 | [],_=>by simp only[uD,vP]
 |x::xs,h=>by simp only[uD,vP]at h ⊢;exact⟨zLd x h.1,zIR xs h.2⟩
end
section
variable {St Sc:Stb}{G G':Gh}{w:World}{s:Nat} (gp:∀s p,(G.hd s p).oneCell'=jc) (eh:∀b x,St b=ja x→Sc b=ja x) (ey:∀b,(∃y,G.ow b=ja (s,y))→Sc b=w.heap[b]?) (gC:∀s z,G'.hd s z=G.hd s z) (fb:∀s z,G'.ad s z=G.ad s z)
 include gp eh ey gC fb
mutual
theorem zWm:(t:T)→ ∀(p:List Nat),R St G w s t p→R Sc G' w s (vW t) p
 |.agg xs,p,hr|.tup xs,p,hr=>by simp only[vW,R]at hr ⊢;exact zRC xs p 0 hr
 |.sl k xs,p,hr=>by have:=zKX gp eh ey (.sl k xs) p rfl hr;simp only[vW,R,gC];exact this
 |.ptr t,p,hr=>by have:=zKX gp eh ey (.ptr t) p rfl hr;simp only[vW,R,gC];exact this
 |.ro u,p,hr=>by simp only[vW,R,gC]at hr ⊢;exact tW eh u _ _ hr
 |.any,_,_=>by simp only[vW,R]
 |.lit _,_,hr|.same _ _,_,hr|.sub _ _ _ _ _,_,hr=>by simp only[vW,R,gC]at hr ⊢;exact hr
 |.addr _ _,_,hr=>by simp only[vW,R,gC,fb]at hr ⊢;exact hr
theorem zRC:(xs:List T)→ ∀(p:List Nat)(j:Nat),RF St G w s xs p j→RF Sc G' w s (uD xs) p j
 | [],_,_,_=>by have _:=gp;have _:=eh;have _:=ey;have _:=gC;have _:=fb;simp only[uD,RF]
 |x::xs,p,j,hr=>by simp only[uD,RF]at hr ⊢;exact⟨zWm x _ hr.1,zRC xs p (j+1) hr.2⟩
end
end
theorem zO.freeze{Γ:Ctx}{E:Env}(s:Nat)(t:T)(hs:E s=ja t):zO Γ E (E.app [(s,ja (vW t))] [(s,1)]):=by
 classical
 rintro a w ⟨S,hS,gQ,G,g9⟩
 have hm:=g9.mem
 let own:Nat→Prop:=fun b=> ∃y,G.ow b=ja (s,y)
 let Sc:Stb:=fun b=>if own b then w.heap[b]? else S b
 let G':Gh:={ hd:=G.hd,ad:=G.ad,lb:=fun b o=>if own b then jb else G.lb b o,ow:=fun b=>if own b then jb else G.ow b }
 have fN:∀b x,S b=ja x→Sc b=ja x:=fun b x hx=>by
  have:¬own b:=by
   rintro⟨y,hy⟩
   have:=(hm.ow b _ hy).2.2;rw[show S b=jb from this]at hx;cases hx
  simp only[Sc,this,if_false];exact hx
 have dc:zDu S Sc Γ.W Γ.w0.heap.size:=⟨fN,fun b hb eI=>by
  by_cases h:own b
  ·obtain⟨y,hy⟩:=h
   exact(hm.ow b _ hy).2.1
  ·simp only[Sc,h,if_false]at eI
   exact absurd hb eI⟩
 have gx:Mem ((Γ.at S).at Sc) G' w:=by
  refine⟨hm.one,fun b o l hl=>?_,fun b l hl=>?_,fun b x hx=>?_,hm.fr,hm.sz,hm.bk⟩
  ·by_cases h:own b
   ·simp only[G',h,if_true]at hl;cases hl
   ·simp only[G',h,if_false]at hl
    have:=hm.lb b o l hl;exact⟨this.1,this.2.1,by simp only[Sc,h,if_false];exact this.2.2⟩
  ·by_cases h:own b
   ·simp only[G',h,if_true]at hl;cases hl
   ·simp only[G',h,if_false]at hl
    have:=hm.ow b l hl;exact⟨this.1,this.2.1,by simp only[Sc,h,if_false];exact this.2.2⟩
  ·by_cases h:own b
   ·simp only[Sc,h,if_true]at hx;exact hx
   ·simp only[Sc,h,if_false]at hx;exact hm.st b x hx
 have gA:qU [(s,1)] G w G' w:=by
  have bF:∀b s0 y,G.ow b=ja (s0,y)→(∀n,(s0,n)∉([(s,1)]:Chg))→ ¬own b:=by
   rintro b s0 y h1 h2 ⟨y',h3⟩
   rw[h1]at h3;simp at h3;exact h2 1 (by simp[h3.1])
  refine⟨fun _ _ _=>rfl,fun _ _ _=>rfl,fun b o f s0 p ⟨y,hy⟩ h1 h2=>?_,fun b s0 p h1 h2=>?_,fun b cs e h=>⟨cs,h,rfl⟩⟩
  ·have:=bF b s0 y hy h2
   refine⟨?_,rfl⟩;simp only[G',this,if_false];exact h1
  ·have:=bF b s0 p h1 h2
   simp only[G',this,if_false];exact h1
 obtain⟨e1,e2,e3⟩:=g9.ent s t hs;refine⟨Sc,hS.trans dc,gQ,G',g9.up fN rfl gA gx (fun s0 h0=>⟨fun n hn=>?_,rfl⟩) (fun s0 t0 h0=>?_)⟩
 ·rw[tV]at h0
  simp at hn;simp[hn.1]at h0
 ·rw[tV]at h0
  split at h0
  ·rename_i he;subst he
   simp at h0;subst h0;have hR:=zWm (G':=G') hm.one fN (fun b hb=>by simp only[Sc];rw[if_pos hb]) (fun _ _=>rfl) (fun _ _=>rfl) t [] e2;refine⟨?_,hR,zLd t e3⟩;rw[e1];have h1:mkV G' s (vW t) []=mkV G s (vW t) []:=zFi _ _ _ (fun _=>rfl);rw[h1,zUJ]
  ·cases h0
end Go.Ab

namespace Go.Ab
open Go
abbrev zE3:=List (Wr×Chg)
def Env.apps(E:Env)(l:zE3):Env:=l.foldl (fun E x=>E.app x.1 x.2) E
structure Stp where
 rd:List (Nat×T)
 l:zE3
def sG(wr:Wr):List Nat:=wr.map (·.1)
def Stp.slots(X:Stp):List Nat:=X.l.flatMap fun x=>sG x.1
def oOk(chg:Chg):Option T→Bool
 |none=>jc
 |some t=>t.okB chg
def zNd(chg:Chg)(wr:Wr):Bool:=wr.all fun x=>oOk chg x.2
def zPS(a b:List Nat):Bool:=a.all fun x=> !b.contains x
def zFs(a b:zE3):Bool:=a.all fun x=>b.all fun y=>zPS (sG x.1) (sG y.1)&&zNd y.2 x.1&&zNd x.2 y.1
def Stp.apart(a b:Stp):Bool:=zFs a.l b.l&&zPS a.slots (b.rd.map (·.1))&&zPS b.slots (a.rd.map (·.1))&&a.rd.all fun x=>b.l.all fun y=>x.2.okB y.2
theorem zFt{wr:Wr}{s:Nat}(h:s∉sG wr):wr.find s=jb:=by
 induction wr with
 |nil=>rfl
 |cons x wr ih=>
  simp only[sG,Jv,Jc,not_or]at h;simp only[Wr.find,Ne.symm h.1,if_false];exact ih h.2
theorem zIS{wr:Wr}{s:Nat}{x:Option T}(h:wr.find s=ja x):s∈sG wr∧ ∃y∈wr,y.2=x:=by
 induction wr with
 |nil=>simp[Wr.find]at h
 |cons y wr ih=>
  simp only[Wr.find]at h;split at h
  ·rename_i e
   simp at h;exact⟨by simp[sG,e],y,by simp,h⟩
  ·obtain⟨h1,z,h2,h3⟩:=ih h
   exact⟨by simp only[sG,Jv,Jc];exact .inr h1,z,by simp[h2],h3⟩
theorem zHn{a b:List Nat}(h:zPS a b=jc){s:Nat}(hs:s∈a):s∉b:=by have:=Ki.1 h s hs;simpa using this
theorem zRD(E:Env)(w1 w2:Wr)(c1 c2:Chg)(h:zPS (sG w1) (sG w2)=jc)(h1:zNd c2 w1=jc)(h2:zNd c1 w2=jc):
  (E.app w1 c1).app w2 c2=(E.app w2 c2).app w1 c1:=by
 funext s
 have ok:∀{c:Chg}{w:Wr}{s:Nat}{x:Option T},zNd c w=jc→w.find s=ja x→(match x with|some t=>if t.okB c then ja t else jb|none=>jb)=x:=by
  intro c w s x hw hf;obtain⟨_,y,hy,rfl⟩:=zIS hf;have:=Ki.1 hw y hy;cases hy2:y.2 with
  |none=>rfl
  |some t=>rw[hy2]at this;simp only[oOk]at this;simp[this]
 unfold Env.app;cases hf1:w1.find s with
 |some x=>
  have:=zFt (zHn h (zIS hf1).1);simp only[this];exact ok h1 hf1
 |none=>
  cases dP:w2.find s with
  |some y=>simp only;exact(ok h2 dP).symm
  |none=>
   simp only
   cases E s with
   |none=>rfl
   |some t=>by_cases k1:t.okB c1=jc<;>by_cases k2:t.okB c2=jc<;>simp[k1,k2]
theorem zD7(w:Wr)(c:Chg):∀(l:zE3)(E:Env),(∀y∈l,zPS (sG w) (sG y.1)=jc∧zNd y.2 w=jc∧zNd c y.1=jc)→(E.app w c).apps l=(E.apps l).app w c
 | [],E,_=>rfl
 |y::l,E,h=>by obtain⟨h1,h2,h3⟩:=h y (by simp);show((E.app w c).app y.1 y.2).apps l=_;rw[zRD E w y.1 c y.2 h1 h2 h3];exact zD7 w c l _ (fun z hz=>h z (by simp[hz]))
theorem zIT:∀(l1 l2:zE3)(E:Env),zFs l1 l2=jc→(E.apps l1).apps l2=(E.apps l2).apps l1
 | [],l2,E,_=>rfl
 |x::l1,l2,E,h=>by
  simp only[zFs,Jbx,J4]at h;show((E.app x.1 x.2).apps l1).apps l2=((E.apps l2).app x.1 x.2).apps l1;rw[zIT l1 l2 _ (by simp only[zFs];exact h.2),zD7 x.1 x.2 l2 E (fun y hy=>by have:=Ki.1 h.1 y hy;simp only[J4]at this;exact⟨this.1.1,this.1.2,this.2⟩)]
def runD:Env→List (Bool×Stp)→Env
 |E,[]=>E
 |E,(b,X)::l=>runD (if b then E.apps X.l else E) l
theorem kJ:∀(l1 l2:List (Bool×Stp))(E:Env),runD E (l1++l2)=runD (runD E l1) l2
 | [],_,_=>rfl
 |(b,X)::l1,l2,E=>by simp only[Jp,runD];exact kJ l1 l2 _
theorem zFu:∀(l:List (Bool×Stp))(X:Stp)(E:Env),(∀y∈l,y.1=jc→zFs X.l y.2.l=jc)→runD (E.apps X.l) l=(runD E l).apps X.l
 | [],_,_,_=>rfl
 |(b,Y)::l,X,E,h=>by
  simp only[runD];cases b with
  |false=>exact zFu l X E (fun y hy=>h y (by simp[hy]))
  |true=>
   have:=h (jc,Y) (by simp) rfl;simp only[if_true];rw[zIT X.l Y.l E this];exact zFu l X _ (fun y hy=>h y (by simp[hy]))
theorem zHo{s:Nat}:∀(l:zE3)(E:Env),s∉l.flatMap (fun x=>sG x.1)→ ∀t,(E.apps l) s=ja t→E s=ja t
 | [],_,_,_,h=>h
 |x::l,E,hs,t,h=>by
  simp only[Ln,Jj,not_or]at hs;have:=zHo l (E.app x.1 x.2) hs.2 t h;unfold Env.app at this;rw[zFt hs.1]at this;simp only[]at this;cases he:E s with
  |none=>simp[he]at this
  |some u=>simp[he]at this;rw[this.2]
theorem zIU{s:Nat}{t:T}:∀(l:zE3)(E:Env),s∉l.flatMap (fun x=>sG x.1)→(∀y∈l,t.okB y.2=jc)→E s=ja t→(E.apps l) s=ja t
 | [],_,_,_,h=>h
 |x::l,E,hs,gE,h=>by simp only[Ln,Jj,not_or]at hs;refine zIU l (E.app x.1 x.2) hs.2 (fun y hy=>gE y (by simp[hy])) ?_;unfold Env.app;rw[zFt hs.1];simp[h,gE x (by simp)]
theorem zIV{s:Nat}:∀(l:zE3)(E1 E2:Env),(∀t,E2 s=ja t→E1 s=ja t)→ ∀t,(E2.apps l) s=ja t→(E1.apps l) s=ja t
 | [],_,_,h,t,ht=>h t ht
 |x::l,E1,E2,h,t,ht=>by
  refine zIV l (E1.app x.1 x.2) (E2.app x.1 x.2) (fun u hu=>?_) t ht;unfold Env.app at hu ⊢
  cases hf:x.1.find s with
  |some y=>simpa[hf]using hu
  |none=>
   simp only[hf]at hu ⊢
   cases he:E2 s with
   |none=>simp[he]at hu
   |some v=>rw[h v he];simpa[he]using hu
theorem zIW{s:Nat}:∀(l:List (Bool×Stp))(E1 E2:Env),(∀y∈l,y.1=jd→s∉y.2.slots)→(∀t,E2 s=ja t→E1 s=ja t)→
  ∀t,runD E2 (l.map fun y=>(jc,y.2)) s=ja t→runD E1 l s=ja t
 | [],_,_,_,h,t,ht=>h t ht
 |(b,X)::l,E1,E2,hl,h,t,ht=>by
  simp only[Jv,runD,if_true]at ht ⊢
  refine zIW l _ _ (fun y hy=>hl y (by simp[hy])) (fun u hu=>?_) t ht;cases b with
  |true=>exact zIV X.l E1 E2 h u hu
  |false=>exact h u (zHo X.l E2 (hl (jd,X) (by simp) rfl) u hu)
theorem zIX{s:Nat}{t:T}:∀(l:List (Bool×Stp))(E:Env),(∀y∈l,y.1=jc→s∉y.2.slots∧ ∀z∈y.2.l,t.okB z.2=jc)→E s=ja t→runD E l s=ja t
 | [],_,_,h=>h
 |(b,X)::l,E,hl,h=>by
  simp only[runD];refine zIX l _ (fun y hy=>hl y (by simp[hy])) ?_;cases b with
  |false=>exact h
  |true=>obtain⟨h1,h2⟩:=hl (jc,X) (by simp) rfl;exact zIU X.l E h1 h2 h
theorem Env.Has.of{E E':Env}:{l:List (Nat×T)}→E.Has l→(∀s t,(s,t)∈l→E s=ja t→E' s=ja t)→E'.Has l
 | [],_,_=>trivial
 |(s,t)::l,h,h'=>⟨h' s t (by simp) h.1,Env.Has.of h.2 fun s t hm=>h' s t (by simp[hm])⟩
end Go.Ab

namespace Go.Ab
open Go
def zBr(o:Oper):List Nat:=(o.after.toList.filter (Region.binds .any)).map (·.on)
def zAK:Nat→List Oper→Bool
 |_,[]=>jc
 |i,o::os=>((zBr o).all fun m=>decide (m<i))&&zAK (i+1) os
def zAj(an:List (List Nat)):List (List Nat)→List Oper→Bool
 | [],_=>jc
 |_::_,[]=>jd
 |l::ls,o::os=>(l.all fun k=>(zBr o).contains k||(zBr o).any fun m=>(an.getD m []).contains k)&&zAj an ls os
def jS(Xs:List Stp):Nat→List (List Nat)→List Stp→Bool
 |_,_,[]=>jc
 |j,an,Y::Ys=>((Jl j).all fun i=>(an.headD []).contains i||match Xs[i]? with
   |some X=>X.apart Y
   |none=>jc)&&jS Xs (j+1) an.tail Ys
theorem zG6:∀(os:List Oper)(i0 j:Nat)(o:Oper),zAK i0 os=jc→os[j]? =ja o→ ∀m∈zBr o,m<i0+j
 | [],_,j,_,_,h=>by simp at h
 |x::os,i0,j,o,hf,h=>by
  simp only[zAK,J4]at hf;cases j with
  |zero=>
   simp at h;subst h;intro m hm;simpa using Ki.1 hf.1 m hm
  |succ j=>
   intro m hm;have:=zG6 os (i0+1) j o hf.2 (by simpa using h) m hm;omega
theorem zJI(an:List (List Nat)):∀(ls:List (List Nat))(os:List Oper)(j:Nat)(l:List Nat),zAj an ls os=jc→ls[j]? =ja l→ ∃o,os[j]? =ja o∧ ∀k∈l,k∈zBr o∨ ∃m∈zBr o,k∈an.getD m []
 | [],_,j,_,_,h=>by simp at h
 |_::_,[],_,_,h,_=>by simp[zAj]at h
 |x::ls,o::os,j,l,ha,h=>by
  simp only[zAj,J4]at ha;cases j with
  |zero=>
   simp at h;subst h;refine⟨o,by simp,fun k hk=>?_⟩;have:=Ki.1 ha.1 k hk;simpa using this
  |succ j=>
   obtain⟨o',h1,h2⟩:=zJI an ls os j l ha.2 (by simpa using h);exact⟨o',by simpa using h1,h2⟩
theorem zFv(Xs:List Stp):∀(Ys:List Stp)(j0:Nat)(an:List (List Nat))(j:Nat)(Y:Stp),jS Xs j0 an Ys=jc→Ys[j]? =ja Y→ ∀i X,i<j0+j→Xs[i]? =ja X→i∈an.getD j []∨X.apart Y=jc
 | [],_,_,j,_,_,h=>by simp at h
 |Z::Ys,j0,an,j,Y,hp,h=>by
  simp only[jS,J4]at hp;intro i X hi hX;cases j with
  |zero=>
   simp at h;subst h;have:=Ki.1 hp.1 i (by simpa using hi);simp only[hX,Bool.or_eq_true,H0,decide_eq_true_eq]at this;rcases this with h|h
   ·left
    cases an with
    |nil=>simp at h
    |cons l an=>simpa using h
   ·exact .inr h
  |succ j=>
   rcases zFv Xs Ys (j0+1) an.tail j Y hp.2 (by simpa using h) i X (by omega) hX with h|h
   ·left
    cases an with
    |nil=>simp at h
    |cons l an=>simpa using h
   ·exact .inr h
section
variable {P:Program}{Γ:Ctx}{pn:jR}{ops:Array Oper}
def zRE(ops:Array Oper)(L:List Bool):Prop:=∀(i:Nat)(o:Oper),ops[i]? =ja o→L[i]? =ja jc→ ∀m∈zBr o,L[m]? =ja jc
theorem zHp{L:List Bool}{an:List (List Nat)}(hf:zAK 0 ops.toList=jc)(ha:zAj an an ops.toList=jc)(hc:zRE ops L):
  ∀(n i:Nat),i≤n→ ∀o,ops[i]? =ja o→(∀m∈zBr o,L[m]? =ja jc)→ ∀k∈an.getD i [],L[k]? =ja jc:=by
 intro n
 induction n with
 |zero=>
  intro i hi o ho hp k hk;have iI:i=0:=by omega
  subst iI;cases hl:an[0]? with
  |none=>simp[Ja8,hl]at hk
  |some l=>
   obtain⟨o',h1,h2⟩:=zJI an an ops.toList 0 l ha hl;rw[K9,ho]at h1;simp at h1;subst h1;simp only[Ja8,hl,Ql]at hk;rcases h2 k hk with h|⟨m,h,_⟩
   ·exact hp k h
   ·have:=zG6 ops.toList 0 0 o hf (by rw[K9];exact ho) m h
    omega
 |succ n ih=>
  intro i hi o ho hp k hk;cases hl:an[i]? with
  |none=>simp[Ja8,hl]at hk
  |some l=>
   obtain⟨o',h1,h2⟩:=zJI an an ops.toList i l ha hl;rw[K9,ho]at h1;simp at h1;subst h1;simp only[Ja8,hl,Ql]at hk;rcases h2 k hk with h|⟨m,h,hkm⟩
   ·exact hp k h
   ·have gz:=zG6 ops.toList 0 i o hf (by rw[K9];exact ho) m h
    have hLm:=hp m h;cases tw:ops[m]? with
    |none=>
     have h4:=(Km.1 ho).1;have:=Array.getElem?_eq_none_iff.1 tw;omega
    |some om=>exact ih m (by omega) om tw (hc m om tw hLm) k hkm
theorem zIY{L:List Bool}{Xs:List Stp}{i:Nat}{b:Bool}{X:Stp}(hL:L[i]? =ja b)(hX:Xs[i]? =ja X):L.zip Xs=(L.take i).zip (Xs.take i)++(b,X)::(L.drop (i+1)).zip (Xs.drop (i+1)):=by
 have h1:L=L.take i++b::L.drop (i+1):=by obtain⟨h,rfl⟩:=Jb.1 hL;simp
 have h2:Xs=Xs.take i++X::Xs.drop (i+1):=by obtain⟨h,rfl⟩:=Jb.1 hX;simp
 have h3:(L.take i).length=(Xs.take i).length:=by have:=(Jb.1 hL).1;have:=(Jb.1 hX).1;simp;omega
 conv=>lhs;rw[h1,h2]
 rw[List.zip_append h3,List.zip_cons_cons]
theorem zJJ{L:List Bool}{Xs:List Stp}{y:Bool×Stp}(h:y∈L.zip Xs):∃j:Nat,L[j]? =ja y.1∧Xs[j]? =ja y.2:=by obtain⟨j,hj⟩:=Jaq.1 h;rw[List.getElem?_zip_eq_some]at hj;exact⟨j,hj⟩
def sU:Env→List Stp→Prop
 |_,[]=>True
 |E,X::Xs=>E.Has X.rd∧sU (E.apps X.l) Xs
theorem sU.get:∀(Xs:List Stp)(E:Env),sU E Xs→ ∀(i:Nat)(X:Stp),Xs[i]? =ja X→(runD E ((Xs.take i).map fun y=>(jc,y))).Has X.rd
 | [],_,_,i,_,h=>by simp at h
 |Y::Xs,E,hh,i,X,h=>by
  cases i with
  |zero=>simp at h;subst h;simpa[runD]using hh.1
  |succ i=>
   have:=sU.get Xs _ hh.2 i X (by simpa using h);simpa[runD]using this
theorem Stp.apart_spec{a b:Stp}(h:a.apart b=jc):zFs a.l b.l=jc∧(∀s∈a.slots,s∉b.rd.map (·.1))∧(∀s∈b.slots,s∉a.rd.map (·.1))∧ ∀x∈a.rd,∀y∈b.l,x.2.okB y.2=jc:=by simp only[Stp.apart,J4]at h;refine⟨h.1.1.1,fun s hs=>zHn h.1.1.2 hs,fun s hs=>zHn h.1.2 hs,fun x hx y hy=>?_⟩;exact Ki.1 (Ki.1 h.2 x hx) y hy
theorem zPT{L:List Bool}:∀{i:Nat},L[i]? =ja jd→(L.set i jc).count jd+1=L.count jd:=by
 induction L with
 |nil=>intro i h;simp at h
 |cons b L ih=>
  intro i h;cases i with
  |zero=>simp at h;subst h;simp
  |succ i=>
   have:=ih (i:=i) (by simpa using h);simp only[Lm,List.count_cons];omega
mutual
theorem zO9:(t:T)→t.okB []=jc
 |.same _ _|.addr _ _|.sub _ _ _ _ _=>by simp[T.okB,kG]
 |.agg xs|.tup xs=>by simp only[T.okB];exact zLe xs
 |.any|.lit _|.ro _|.sl _ _|.ptr _=>by simp only[T.okB]
theorem zLe:(xs:List T)→zJz [] xs=jc
 | []=>by simp only[zJz]
 |x::xs=>by simp only[zJz,zO9 x,zLe xs,Kz]
end
theorem Rep.heap{E:Env}{G:Gh}{tmps:Array Value}{w w':World}(h:Rep Γ E G tmps w)(hw:w'.heap=w.heap)(ho:w'.os=w.os:=by rfl)(hq:w'.output=w.output:=by rfl):Rep Γ E G tmps w' where
 size:=h.size
 ent s t hs:=Ent.keep (chg:=[]) ⟨fun _ _ _=>rfl,fun _ _ _=>rfl,fun b o f s p _ h _=>⟨h,by simp[yS,World.cell?,hw]⟩,fun _ _ _ h _=>h,fun b cs e h=>⟨cs,by rw[hw];exact h,rfl⟩⟩ (fun _ h=>by simp at h) (zO9 t) (h.ent s t hs)
 mem:=by
  have hm:=h.mem;exact⟨hm.one,fun b o l hl=>by have:=hm.lb b o l hl;exact⟨by rw[hw];exact this.1,this.2⟩,fun b l hl=>by have:=hm.ow b l hl;exact⟨by rw[hw];exact this.1,this.2⟩,
   fun b x hx=>by rw[hw];exact hm.st b x hx,fun b h1 h2=>by rw[hw];exact hm.fr b h1 h2,by rw[hw];exact hm.sz,hm.bk.trans (fun b cs e hb=>⟨cs,by rw[hw];exact hb,rfl⟩) ho hq⟩
end
end Go.Ab

namespace Go.Ab
open Go
abbrev I(n:Int):T:=.lit (.int .i64 n)
abbrev B(b:Bool):T:=.lit (.bool b)
abbrev L{α:Type}(k:Nat)(f:α→T)(xs:List α):T:=.sl k (xs.map f)
theorem zQ{P:Program}{t:TypeId}{ti:TypeInfo}(h:P.types[t]? =ja ti):P.info? t=ja ti:=by
 have h':=(Km.1 h).1;simp[Tables.info?,h]
 try omega
def Ok(P:Program)(Γ:Ctx)(o:Oper)(E E':Env):Prop:=∀S,wN P (Γ.at S) o E E'
section
variable {P:Program}{Γ:Ctx}{pn:jR}{ops:Array Oper}{o:Oper}{os:List Oper}{E E':Env}{Q:Exit→Env→Prop}{d:Nat}
theorem RW.op(h:Ok P Γ o E E')(k:RW P Γ pn ops os E' Q)(hg:o.guard=jb:=by rfl)(hp:pn.ok o.dst=jc:=by rfl):RW P Γ pn ops (o::os) E Q:=RW.cons (zY.op h hg) k hp
def neD(x:Operand)(d:Nat):Bool:=match x with
 |.tmp s=>s != d
 |_=>jc
theorem zE4{x:Operand}{d:Nat}(h:neD x d=jc):∀s,x=.tmp s→s≠d:=by rintro s rfl;simpa[neD]using h
theorem zBs{t:T}(h:t.okTup=jc):∀xs,t≠.tup xs:=by rintro xs rfl;simp[T.okTup]at h
abbrev mvB(Γ:Ctx)(x:Operand)(t:T)(d:Nat):Bool:=J7 d Γ.N&&t.okTup&&neD x d&&T.okB [(d,0)] (tJ x t)
section
variable {x y:Operand}{t:T}{ty:TypeId}{ps:String}{af:Array Edge}{gd:Option (Nat×Bool)}
theorem yK{a b:Nat}(h:J7 a b=jc):a<b:=by simpa[Nat.blt_eq]using h
theorem zNe(hx:opT E x=ja t)(sd:mvB Γ x t d=jc):Ok P Γ ⟨ja d,.move x,ty,ps,af,gd⟩ E (E.app [(d,ja (tJ x t))] [(d,0)]):=by simp only[mvB,J4]at sd;exact fun S=>zOs x t (.inl rfl) rfl (yK sd.1.1.1) hx (zBs sd.1.1.2) (zE4 sd.1.2) sd.2
theorem zUK(hx:opT E x=ja t)(sd:mvB Γ x t d=jc):Ok P Γ ⟨ja d,.assign x,ty,ps,af,gd⟩ E (E.app [(d,ja (tJ x t))] [(d,0)]):=by simp only[mvB,J4]at sd;exact fun S=>zOs x t (.inr rfl) rfl (yK sd.1.1.1) hx (zBs sd.1.1.2) (zE4 sd.1.2) sd.2
def inR(n:Int):Bool:=decide (-9223372036854775808≤n)&&decide (n≤9223372036854775807)
theorem zCx{n:Int}(h:inR n=jc):IntKind.i64.wrap n=n:=by
 simp only[inR,J4,decide_eq_true_eq]at h;have hb:IntKind.i64.bits=64:=rfl;have hs:IntKind.i64.signed=jc:=rfl;simp only[IntKind.wrap,hb,hs,Bool.true_and]
 by_cases h0:0≤n
 ·have:n%2 ^ 64=n:=Kj h0 (by omega)
  rw[this];have h1:¬(n≥2 ^ (64-1)):=by omega
  simp;omega
 ·have:n%2 ^ 64=n+2 ^ 64:=by
   rw[←Us,Kj (by omega) (by omega)]
  rw[this];have h1:(n+2 ^ 64:Int)≥2 ^ (64-1):=by omega
  simp;omega
def rng(n:Int):Option Int:=if inR n then ja n else jb
theorem zCy{n m:Int}(h:rng n=ja m):m=n∧inR n=jc:=by
 unfold rng at h;split at h
 ·simp at h;exact⟨h.symm,by assumption⟩
 ·cases h
theorem qK{m n c:Int}{xt yt:TypeId}(hv:rng (m+n)=ja c)(hx:opT E x=ja (I m))(hy:opT E y=ja (I n))(sd:J7 d Γ.N=jc):Ok P Γ ⟨ja d,.binOp .add xt x y yt,ty,ps,af,gd⟩ E (E.app [(d,ja (I c))] [(d,0)]):=by obtain⟨rfl,h⟩:=zCy hv;exact fun S=>sE .add xt yt x y .i64 m n _ rfl rfl (yK sd) hx hy (by simp only[zJ1,zCx h])
theorem zLf{m n:Int}{xt yt:TypeId}(hx:opT E x=ja (I m))(hy:opT E y=ja (I n))(sd:J7 d Γ.N=jc):Ok P Γ ⟨ja d,.binOp .lss xt x y yt,ty,ps,af,gd⟩ E (E.app [(d,ja (B (decide (m<n))))] [(d,0)]):=
 fun _S=>sE .lss xt yt x y .i64 m n _ rfl rfl (yK sd) hx hy rfl
theorem zCf(k:Nat)(sd:J7 d Γ.N=jc):Ok P Γ ⟨ja d,.assign (.const (.slice jb 0 0)),ty,ps,af,gd⟩ E (E.app [(d,ja (.sl k []))] [(d,0)]):=
 fun _=>zKK k _ (.inr rfl) rfl rfl (yK sd)
def yY(n:Int):Option Nat:=if 0≤n∧n≤68719476736 then ja n.toNat else jb
theorem zHq{n:Int}{m:Nat}(h:yY n=ja m):n=(m:Int)∧m≤68719476736:=by
 unfold yY at h;split at h
 ·simp at h;omega
 ·cases h
class ElT (P:Program) (t:TypeId) (e:outParam TypeId) (ti:outParam TypeInfo) (k:outParam Nat) (u:outParam T):Prop where
 un:P.underlying t=ja (.slice e)
 info:P.info? e=ja ti
 zero:∃z,ti.zero=ja z∧tM u=z.cells.toList
 size:ti.size=k
 pos:0<k
 zok:u.zOk=jc
 us:u.size=k
 bytes:ti.bytes≤2048
theorem zXh{t e:TypeId}{ti:TypeInfo}{k:Nat}{u:T}{n m:Nat}{a b:Int}(ht:ElT P t e ti k u)(hn:yY a=ja n)(hx:opT E x=ja (I a))(hm:yY b=ja m)(hy:opT E y=ja (I b))(cX:n≤m)(sd:J7 d Γ.N=jc):
  Ok P Γ ⟨ja d,.makeSlice t x y,ty,ps,af,gd⟩ E (E.app [(d,ja (.sl k (J1 n u)))] [(d,0)]):=by
 obtain⟨rfl,h1⟩:=zHq hn;obtain⟨rfl,h2⟩:=zHq hm;obtain⟨z,hz,hv⟩:=ht.zero;exact fun S=>zUE t e ti z u k x y n m .i64 .i64 rfl rfl (yK sd) ht.un ht.info hz ht.size ht.pos ht.zok hv ht.us (L9 ht.bytes (by decide)) hx hy cX h2
end
end
end Go.Ab

namespace Go.Ab
open Go
def ixO{α:Type}(xs:List α)(i:Int):Option α:=if 0≤i then xs[i.toNat]? else jb
theorem uQ{α:Type}{xs:List α}{i:Int}{v:α}(h:ixO xs i=ja v):0≤i∧xs[i.toNat]? =ja v:=by
 unfold ixO at h;split at h
 ·exact⟨by assumption,h⟩
 ·cases h
def zAk:T→Bool
 |.same _ _=>jd
 |_=>jc
theorem tQ{E:Env}{s r:Nat}{q:List Nat}{t u:T}(h1:E s=ja (.same r q))(h2:E r=ja t)(h3:t.get q.reverse=ja u)(h4:zAk u=jc):tK E (.tmp s)=ja (r,q,u):=by
 have hg:∀t:T,t.get []=ja t:=fun t=>by cases t<;>rfl
 cases u<;>simp[zAk]at h4<;>simp[tK,qF,h1,h2,h3,hg]
theorem wH{E:Env}{s:Nat}{t:T}(h1:E s=ja t)(h4:zAk t=jc):tK E (.tmp s)=ja (s,[],t):=by
 have hg:∀t:T,t.get []=ja t:=fun t=>by cases t<;>rfl
 cases t<;>simp[zAk]at h4<;>simp[tK,qF,h1,hg]
section
variable {P:Program}{Γ:Ctx}{E:Env}{d:Nat}{x y:Operand}{ty:TypeId}{ps:String}{af:Array Edge}{gd:Option (Nat×Bool)}
class zBH (P:Program) (t:TypeId) (e:outParam TypeId) (ti:outParam TypeInfo) (k:outParam Nat):Prop where
 un:P.underlying t=ja (.slice e)
 info:P.info? e=ja ti
 size:ti.size=k
theorem zFw{α:Type}{t e:TypeId}{ti:TypeInfo}{r k:Nat}{q:List Nat}{f:α→T}{xs:List α}{v:α}{i:Int}(ht:zBH P t e ti k)(hv:ixO xs i=ja v)(hx:tK E x=ja (r,q,L k f xs))(hy:opT E y=ja (I i))(sd:J7 d Γ.N=jc):
  Ok P Γ ⟨ja d,.indexAddr t x y,ty,ps,af,gd⟩ E (E.app [(d,ja (.addr r (i.toNat::q)))] [(d,0)]):=by
 obtain⟨h1,h2⟩:=uQ hv;exact fun S=>zRn x y t e ti r q k _ .i64 i rfl rfl (yK sd) ht.un ht.info ht.size hx hy h1 (by simpa using(Jb.1 h2).1)
theorem zBt{α:Type}{t e:TypeId}{ti:TypeInfo}{r k:Nat}{q:List Nat}{f:α→T}{xs:List α}{v:α}{i:Int}(ht:zBH P t e ti k)(hv:ixO xs i=ja v)(hx:tK E x=ja (r,q,.ro (L k f xs)))(hy:opT E y=ja (I i))(sd:J7 d Γ.N=jc):
  Ok P Γ ⟨ja d,.indexAddr t x y,ty,ps,af,gd⟩ E (E.app [(d,ja (.ro (.ptr (f v))))] [(d,0)]):=by
 obtain⟨h1,h2⟩:=uQ hv;exact fun S=>zRo x y t e ti r q k _ .i64 i _ rfl rfl (yK sd) ht.un ht.info ht.size hx hy h1 (by simp[h2])
theorem zRF{α:Type}{t e:TypeId}{r k:Nat}{q:List Nat}{f:α→T}{xs:List α}(hu:P.underlying t=ja (.slice e))(hx:tK E x=ja (r,q,L k f xs))(sd:J7 d Γ.N=jc):
  Ok P Γ ⟨ja d,.call { callee:=.builtin .len,args:=#[x],argTypes:=#[t] },ty,ps,af,gd⟩ E (E.app [(d,ja (I xs.length))] [(d,0)]):=
 fun _=>zRm x t _ r q (L k f xs) xs.length rfl rfl (yK sd) hu hx (by simp[zKE]) rfl
theorem zRG{α:Type}{t e:TypeId}{r k:Nat}{q:List Nat}{f:α→T}{xs:List α}(hu:P.underlying t=ja (.slice e))(hx:tK E x=ja (r,q,.ro (L k f xs)))(sd:J7 d Γ.N=jc):
  Ok P Γ ⟨ja d,.call { callee:=.builtin .len,args:=#[x],argTypes:=#[t] },ty,ps,af,gd⟩ E (E.app [(d,ja (I xs.length))] [(d,0)]):=
 fun _=>zRm x t _ r q (.ro (L k f xs)) xs.length rfl rfl (yK sd) hu hx (by simp[zKE]) rfl
structure zUL (P:Program) (t:TypeId) (u:T):Prop where
 h:∃ds ti,P.underlying t=ja ds∧P.info? t=ja ti∧zFj ds= !u.single∧ti.size=u.size
theorem zYL{t:TypeId}{u:T}(ht:zUL P t u)(hx:opT E x=ja (.ro (.ptr u)))(sd:J7 d Γ.N=jc):Ok P Γ ⟨ja d,.load t x,ty,ps,af,gd⟩ E (E.app [(d,ja (roT u))] [(d,0)]):=by obtain⟨ds,ti,h1,h2,h3,h4⟩:=ht.h;exact fun S=>zMW x t ds ti u rfl rfl (yK sd) h1 h2 h3 h4 hx
theorem zE5{t:TypeId}{u tr:T}{r:Nat}{q:List Nat}(ht:zUL P t u)(hx:opT E x=ja (.addr r q))(hr:E r=ja tr)(hg:tr.get q.reverse=ja u)(sd:(J7 d Γ.N&&tr.locd q.reverse&&(r != d)&&T.okB [(d,0)] (cpT r u q))=jc):
  Ok P Γ ⟨ja d,.load t x,ty,ps,af,gd⟩ E (E.app [(d,ja (cpT r u q))] [(d,0)]):=by
 obtain⟨ds,ti,h1,h2,h3,h4⟩:=ht.h;simp only[J4]at sd;exact fun S=>zUD x t ds ti r q tr u rfl rfl (yK sd.1.1.1) h1 h2 h3 h4 hx hr hg sd.1.1.2 (by simpa using sd.1.2) sd.2
end
end Go.Ab

namespace Go.Ab
open Go
section
variable {P:Program}{Γ:Ctx}{E:Env}{x:Operand}{ty:TypeId}{ps:String}{af:Array Edge}{gd:Option (Nat×Bool)}
theorem yB1{t:TypeId}{ti:TypeInfo}{r s:Nat}{q:List Nat}{tr tr' u0:T}{v:Value}(hi:P.info? t=ja ti)(gv:ti.size=1)(hx:opT E x=ja (.addr r q))(hr:E r=ja tr)(hg:tr.get q.reverse=ja u0)(gw:tr.set q.reverse (.lit v)=tr')(hy:E s=ja (.lit v))
  (sd:(tr.single&&tr.locd q.reverse&&vE (.lit v) u0&&(r != s))=jc):Ok P Γ ⟨jb,.store t x (.tmp s),ty,ps,af,gd⟩ E (E.app [(r,ja tr')] [(r,q.length)]):=by
 simp only[J4]at sd;subst gw;intro S;have:=zKO (P:=P) (Γ:=Γ.at S) (E:=E) (o:=⟨jb,.store t x (.tmp s),ty,ps,af,gd⟩) t ti x (.tmp s) r q tr u0 (.slot s (.lit v)) rfl rfl hi (by rw[gv];rfl) (by omega) hx hr sd.1.1.1 hg sd.1.1.2 sd.1.2 (.slot s _)
  ⟨fun s' t' h=>by simp at h;obtain⟨rfl,rfl⟩:=h;exact⟨hy,by simp[yD,xE],rfl⟩,fun u h=>by simp at h,by simp[xZ,sO]⟩
 exact this
theorem zYM{t:TypeId}{ti:TypeInfo}{r:Nat}{q:List Nat}{tr tr' u0:T}{v:Value}(hi:P.info? t=ja ti)(gv:ti.size=1)(hx:opT E x=ja (.addr r q))(hr:E r=ja tr)(hg:tr.get q.reverse=ja u0)(gw:tr.set q.reverse (.lit v)=tr')
  (sd:(tr.single&&tr.locd q.reverse&&vE (.lit v) u0&&(T.lit v).zOk)=jc)(hz:tM (.lit v)=v.cells.toList):Ok P Γ ⟨jb,.store t x (.const v),ty,ps,af,gd⟩ E (E.app [(r,ja tr')] [(r,q.length)]):=by
 simp only[J4]at sd;subst gw;intro S;have:=zKO (P:=P) (Γ:=Γ.at S) (E:=E) (o:=⟨jb,.store t x (.const v),ty,ps,af,gd⟩) t ti x (.const v) r q tr u0 (.zero (.lit v)) rfl rfl hi (by rw[gv];rfl) (by omega) hx hr sd.1.1.1 hg sd.1.1.2 sd.1.2 (.zero v _ hz)
  ⟨fun s' t' h=>by simp at h,fun u h=>by simp at h;subst h;exact sd.2,by simp[xZ]⟩
 exact this
end
end Go.Ab

namespace Go.Ab
open Go
theorem zO.tr{Γ:Ctx}{E:Env}(d r:Nat)(u:T)(hd:E d=ja (.same r []))(hr:E r=ja u)(eK:yD u)(sd:(u.single&&xS u&&u.okB [(d,1),(r,1)]&&(d != r))=jc):
  zO Γ E (E.app [(d,ja u),(r,ja (.same d []))] [(d,1),(r,1)]):=by
 simp only[J4]at sd
 rintro a w ⟨S,hS,hs⟩
 have gf:d≠r:=by simpa using sd.2
 have hg:∀t:T,t.get []=ja t:=fun t=>by cases t<;>rfl
 have:=zNa hs d [] r [] (.same r []) u u hd rfl hr (hg u) sd.1.1.1 eK gf (by simp[T.okB,kG]) sd.1.2 rfl sd.1.1.2;exact⟨S,hS,this⟩
theorem zDV{α:Type}{f:α→T}(hf:∀x,yD (f x)):(xs:List α)→xJ (xs.map f)
 | []=>trivial
 |x::xs=>⟨hf x,zDV hf xs⟩
theorem zOA{α:Type}{f:α→T}{k:Nat}{xs:List α}(hf:∀x,yD (f x)):yD (L k f xs):=by simp only[yD,xE];exact zDV hf xs
theorem zOB(n:Int):yD (I n):=by simp[yD,xE]
theorem zUM(b:Bool):yD (B b):=by simp[yD,xE]
end Go.Ab

namespace Go.Ab
open Go
section
variable {P:Program}{Γ:Ctx}{E:Env}{d:Nat}{x y:Operand}{ty:TypeId}{ps:String}{af:Array Edge}{gd:Option (Nat×Bool)}{m n c:Int}{xt yt:TypeId}
theorem zGl(hv:rng (m-n)=ja c)(hx:opT E x=ja (I m))(hy:opT E y=ja (I n))(sd:J7 d Γ.N=jc):Ok P Γ ⟨ja d,.binOp .sub xt x y yt,ty,ps,af,gd⟩ E (E.app [(d,ja (I c))] [(d,0)]):=by obtain⟨rfl,h⟩:=zCy hv;exact fun _=>sE .sub xt yt x y .i64 m n _ rfl rfl (yK sd) hx hy (by simp only[zJ1,zCx h])
theorem zRH(hv:rng (m*n)=ja c)(hx:opT E x=ja (I m))(hy:opT E y=ja (I n))(sd:J7 d Γ.N=jc):Ok P Γ ⟨ja d,.binOp .mul xt x y yt,ty,ps,af,gd⟩ E (E.app [(d,ja (I c))] [(d,0)]):=by obtain⟨rfl,h⟩:=zCy hv;exact fun _=>sE .mul xt yt x y .i64 m n _ rfl rfl (yK sd) hx hy (by simp only[zJ1,zCx h])
def uM(m n:Int):Option Int:=if n=0 then jb else rng (m.tdiv n)
def vS(m n:Int):Option Int:=if n=0 then jb else ja (m.tmod n)
theorem zYN(hv:uM m n=ja c)(hx:opT E x=ja (I m))(hy:opT E y=ja (I n))(sd:J7 d Γ.N=jc):Ok P Γ ⟨ja d,.binOp .quo xt x y yt,ty,ps,af,gd⟩ E (E.app [(d,ja (I c))] [(d,0)]):=by
 unfold uM at hv;split at hv
 ·cases hv
 ·rename_i h0
  obtain⟨rfl,h⟩:=zCy hv;exact fun _=>sE .quo xt yt x y .i64 m n _ rfl rfl (yK sd) hx hy (by simp only[zJ1,h0,if_false,zCx h])
theorem zWn(hv:vS m n=ja c)(hx:opT E x=ja (I m))(hy:opT E y=ja (I n))(sd:J7 d Γ.N=jc):Ok P Γ ⟨ja d,.binOp .rem xt x y yt,ty,ps,af,gd⟩ E (E.app [(d,ja (I c))] [(d,0)]):=by
 unfold vS at hv;split at hv
 ·cases hv
 ·rename_i h0
  simp at hv;subst hv;exact fun _=>sE .rem xt yt x y .i64 m n _ rfl rfl (yK sd) hx hy (by simp only[zJ1,h0,if_false])
theorem zRI(hx:opT E x=ja (I m))(hy:opT E y=ja (I n))(sd:J7 d Γ.N=jc):Ok P Γ ⟨ja d,.binOp .leq xt x y yt,ty,ps,af,gd⟩ E (E.app [(d,ja (B (decide (m≤n))))] [(d,0)]):=
 fun _=>sE .leq xt yt x y .i64 m n _ rfl rfl (yK sd) hx hy rfl
theorem zRJ(hx:opT E x=ja (I m))(hy:opT E y=ja (I n))(sd:J7 d Γ.N=jc):Ok P Γ ⟨ja d,.binOp .gtr xt x y yt,ty,ps,af,gd⟩ E (E.app [(d,ja (B (decide (m> n))))] [(d,0)]):=
 fun _=>sE .gtr xt yt x y .i64 m n _ rfl rfl (yK sd) hx hy rfl
theorem zOC(hx:opT E x=ja (I m))(hy:opT E y=ja (I n))(sd:J7 d Γ.N=jc):Ok P Γ ⟨ja d,.binOp .geq xt x y yt,ty,ps,af,gd⟩ E (E.app [(d,ja (B (decide (m≥n))))] [(d,0)]):=
 fun _=>sE .geq xt yt x y .i64 m n _ rfl rfl (yK sd) hx hy rfl
theorem zLg(hx:opT E x=ja (I m))(hy:opT E y=ja (I n))(sd:J7 d Γ.N=jc):Ok P Γ ⟨ja d,.binOp .eql xt x y yt,ty,ps,af,gd⟩ E (E.app [(d,ja (B (m==n)))] [(d,0)]):=
 fun _=>sE .eql xt yt x y .i64 m n _ rfl rfl (yK sd) hx hy rfl
theorem zRK(hx:opT E x=ja (I m))(hy:opT E y=ja (I n))(sd:J7 d Γ.N=jc):Ok P Γ ⟨ja d,.binOp .neq xt x y yt,ty,ps,af,gd⟩ E (E.app [(d,ja (B (m != n)))] [(d,0)]):=
 fun _=>sE .neq xt yt x y .i64 m n _ rfl rfl (yK sd) hx hy rfl
theorem zYO{b:Bool}(hx:opT E x=ja (B b))(sd:J7 d Γ.N=jc):Ok P Γ ⟨ja d,.unOp .not xt x,ty,ps,af,gd⟩ E (E.app [(d,ja (B (!b)))] [(d,0)]):=
 fun _=>zXc xt x b rfl rfl (yK sd) hx
theorem zWo(hv:rng (0-n)=ja c)(hx:opT E x=ja (I n))(sd:J7 d Γ.N=jc):Ok P Γ ⟨ja d,.unOp .neg xt x,ty,ps,af,gd⟩ E (E.app [(d,ja (I c))] [(d,0)]):=by
 obtain⟨rfl,h⟩:=zCy hv;have:=fun S=>zXd (P:=P) (Γ:=Γ.at S) (E:=E) (o:=⟨ja d,.unOp .neg xt x,ty,ps,af,gd⟩) xt x .i64 n rfl rfl (yK sd) hx
 rw[zCx h]at this;exact this
end
end Go.Ab

namespace Go.Ab
open Go
section
variable {P:Program}{Γ:Ctx}{E:Env}{d:Nat}{x y:Operand}{ty:TypeId}{ps:String}{af:Array Edge}{gd:Option (Nat×Bool)}
class zHr (P:Program) (t:TypeId) (u:outParam T):Prop where
 h:∃ti z,P.info? t=ja ti∧ti.zero=ja z∧u.zOk=jc∧tM u=z.cells.toList∧z.cells.size=u.size
theorem zJK{t:TypeId}{u:T}(ht:zHr P t u)(sd:J7 d Γ.N=jc):Ok P Γ ⟨ja d,.alloc t,ty,ps,af,gd⟩ E (E.app [(d,ja (.ptr u))] [(d,0)]):=by obtain⟨ti,z,h1,h2,h3,h4,h5⟩:=ht.h;exact fun S=>zRw t ti z u rfl rfl (yK sd) h1 h2 h3 h4 h5
theorem zWp{s i:Nat}{ts:List T}{t:T}(hs:E s=ja (.tup ts))(hi:ts[i]? =ja t)(sd:(J7 d Γ.N&&t.okTup&&(s != d)&&T.okB [(d,0)] (cpT s t [i]))=jc):
  Ok P Γ ⟨ja d,.extract (.tmp s) i,ty,ps,af,gd⟩ E (E.app [(d,ja (cpT s t [i]))] [(d,0)]):=by
 simp only[J4]at sd;exact fun S=>zMX s i ts t rfl rfl (yK sd.1.1.1) hs hi (zBs sd.1.1.2) (by simpa using sd.1.2) sd.2
theorem zDW{t:T}(hx:opT E x=ja t)(hp:zGe E x=jc)(sd:mvB Γ x t d=jc):Ok P Γ ⟨ja d,.nilCheck x,ty,ps,af,gd⟩ E (E.app [(d,ja (tJ x t))] [(d,0)]):=by simp only[mvB,J4]at sd;exact fun S=>zXe x t rfl rfl (yK sd.1.1.1) hx hp (zBs sd.1.1.2) (zE4 sd.1.2) sd.2
theorem zNf{c:Operand}{b:Bool}{t:T}(hc:opT E c=ja (B b))(hx:opT E (if b then x else y)=ja t)(sd:mvB Γ (if b then x else y) t d=jc):Ok P Γ ⟨ja d,.pick c x y,ty,ps,af,gd⟩ E (E.app [(d,ja (tJ (if b then x else y) t))] [(d,0)]):=by simp only[mvB,J4]at sd;exact fun S=>zUA c x y b t rfl rfl (yK sd.1.1.1) hc hx (zBs sd.1.1.2) (zE4 sd.1.2) sd.2
theorem zWq{t:TypeId}{s:Nat}{u:T}(hs:E s=ja u)(hu:yD u)(sd:(J7 d Γ.N&&u.okTup&&(s != d))=jc):
  Ok P Γ ⟨ja d,.box t (.tmp s),ty,ps,af,gd⟩ E (E.app ((d,ja (.ptr u))::pWr d [.slot s u] 0) ((d,0)::sP [.slot s u])):=by
 simp only[J4]at sd;have gf:s≠d:=by simpa using sd.2
 refine fun S=>zXg t (.tmp s) (.slot s u) rfl rfl (yK sd.1.1) (.slot s u) ⟨fun s' t' h=>by simp at h;obtain⟨rfl,rfl⟩:=h;exact⟨hs,hu,sd.1.2⟩,fun u h=>by simp at h,?_⟩
 simp only[xZ];split<;>simp[Ne.symm gf]
end
end Go.Ab

namespace Go.Ab
open Go
def xK{α:Type}(xs ys:List α):Option (List α):=if xs.length+ys.length≤68719476736 then ja (xs++ys)else jb
theorem zFx{α:Type}{xs ys zs:List α}(h:xK xs ys=ja zs):zs=xs++ys∧xs.length+ys.length≤68719476736:=by
 unfold xK at h;split at h
 ·simp at h;exact⟨h.symm,by assumption⟩
 ·cases h
section
variable {P:Program}{Γ:Ctx}{E:Env}{d:Nat}{x y:Operand}{ty:TypeId}{ps:String}{af:Array Edge}{gd:Option (Nat×Bool)}
theorem ElT.zsize{t e:TypeId}{ti:TypeInfo}{k:Nat}{u:T}(h:ElT P t e ti k u):∃z,ti.zero=ja z∧z.cells.size=k:=by obtain⟨z,h1,h2⟩:=h.zero;exact⟨z,h1,by rw[←Kk,←h2,wW u h.zok,h.us]⟩
theorem kW{α:Type}{t e:TypeId}{ti:TypeInfo}{k:Nat}{u:T}{f:α→T}{xs ys zs:List α}{s0 s1:Nat}(ht:ElT P t e ti k u)(hv:xK xs ys=ja zs)(h0:E s0=ja (L k f xs))(h1:E s1=ja (L k f ys))(sd:(J7 d Γ.N&&(s0 != d)&&(s1 != d)&&(s1 != s0))=jc):
  Ok P Γ ⟨ja d,.call { callee:=.builtin .append,args:=#[.tmp s0,.tmp s1],argTypes:=#[t,t] },ty,ps,af,gd⟩ E (E.app [(d,ja (L k f zs)),(s0,ja .any),(s1,ja .any)] [(d,0),(s0,1),(s1,1)]):=by
 obtain⟨rfl,hl⟩:=zFx hv;obtain⟨z,hz,fx⟩:=ht.zsize;simp only[J4]at sd;intro S;have:=zJB (P:=P) (Γ:=Γ.at S) (E:=E) (o:=⟨ja d,.call { callee:=.builtin .append,args:=#[.tmp s0,.tmp s1],argTypes:=#[t,t] },ty,ps,af,gd⟩) t e ti z k s0 s1 (xs.map f) (ys.map f) rfl rfl (yK sd.1.1.1) ht.un ht.info hz ht.size ht.pos fx ht.bytes h0 h1
  (by simpa using sd.1.1.2) (by simpa using sd.1.2) (by simpa using sd.2) (by simpa using hl)
 rw[←Kx]at this;exact this
theorem zIZ{α:Type}{f:α→T}(hf:∀x,(f x).flat=jc):(xs:List α)→zAb (xs.map f)=jc
 | []=>rfl
 |x::xs=>by simp only[Jv,zAb,hf x,zIZ hf xs,Kz]
theorem zJL{α:Type}{t e:TypeId}{ti:TypeInfo}{k r:Nat}{q:List Nat}{u:T}{f:α→T}{xs ys zs:List α}{s0:Nat}(ht:ElT P t e ti k u)(hf:∀x,(f x).flat=jc)(hv:xK xs ys=ja zs)(h0:E s0=ja (L k f xs))(h1:tK E y=ja (r,q,L k f ys))(sd:(J7 d Γ.N&&(s0 != d))=jc):
  Ok P Γ ⟨ja d,.call { callee:=.builtin .append,args:=#[.tmp s0,y],argTypes:=#[t,t] },ty,ps,af,gd⟩ E (E.app [(d,ja (L k f zs)),(s0,ja .any)] [(d,0),(s0,1)]):=by
 obtain⟨rfl,hl⟩:=zFx hv;obtain⟨z,hz,fx⟩:=ht.zsize;simp only[J4]at sd;intro S;have:=zJC (P:=P) (Γ:=Γ.at S) (E:=E) (o:=⟨ja d,.call { callee:=.builtin .append,args:=#[.tmp s0,y],argTypes:=#[t,t] },ty,ps,af,gd⟩) t e ti z k s0 y r q (xs.map f) (ys.map f) rfl rfl (yK sd.1) ht.un ht.info hz ht.size ht.pos fx ht.bytes h0 h1 (zIZ hf ys)
  (by simpa using sd.2) (by simpa using hl)
 rw[←Kx]at this;exact this
end
end Go.Ab

namespace Go.Ab
open Go
abbrev IK(k:IntKind)(n:Int):T:=.lit (.int k n)
abbrev Str(s:ByteArray):T:=.lit (.string s)
abbrev Pt{α:Type}(f:α→T)(x:α):T:=.ptr (f x)
abbrev Ro{α:Type}(f:α→T)(x:α):T:=.ro (f x)
abbrev A2{α:Type}(f:α→T)(x:α×α):T:=.agg [f x.1,f x.2]
theorem bd{α β:Type}{o:Option α}{f:α→Option β}{r:β}(h:o.bind f=ja r):∃v,o=ja v∧f v=ja r:=by
 cases o with
 |none=>simp at h
 |some v=>exact⟨v,rfl,by simpa using h⟩
theorem cT{α:Type}{b:Bool}{x y:α}{z:α}(hc:b=jc)(h:cond b x y=z):x=z:=by subst hc;exact h
theorem cF{α:Type}{b:Bool}{x y:α}{z:α}(hc:b=jd)(h:cond b x y=z):y=z:=by subst hc;exact h
theorem sI{α:Type}{x y:α}(h:ja x=ja y):x=y:=L8.inj h
section
variable {P:Program}{Γ:Ctx}{pn:jR}{E E':Env}{Q:Exit→Env→Prop}{c:Code}{id id':Nat}
theorem nA(h:CW P Γ pn c E Q):xT P Γ pn c Q .normal E:=h
theorem xA(h:Q (.exit id) E):xT P Γ pn c Q (.exit id) E:=h
theorem rA(h:Q .ret E):xT P Γ pn c Q .ret E:=h
theorem nB(h:Q .normal E):xY id Q .normal E:=h
theorem rB(h:Q .ret E):xY id Q .ret E:=h
theorem xB(h:Q .normal E):xY id Q (.exit id) E:=by simp only[xY,if_true];exact h
theorem neX:Exit.exit id≠.normal:=by intro h;cases h
theorem neR:Exit.ret≠.normal:=by intro h;cases h
theorem RW.cases{ops:Array Oper}{os:List Oper}(s:Nat)(b:Bool)(hb:E s=ja (B b))(ht:b=jc→RW P Γ pn ops os (E.app [(s,ja (B jc))] []) Q)(hf:b=jd→RW P Γ pn ops os (E.app [(s,ja (B jd))] []) Q):RW P Γ pn ops os E Q:=by
 have key:∀c:Bool,b=c→zO Γ E (E.app [(s,ja (B c))] []):=by
  rintro c rfl a w hs
  refine hs.weaken fun s' t h=>?_
  by_cases e:s=s'
  ·subst e
   simp[Env.app,Wr.find]at h;subst h;exact hb
  ·simp only[Env.app,Wr.find,e,if_false]at h
   cases he:E s' with
   |none=>simp[he]at h
   |some t'=>simp[he]at h;rw[h.2]
 cases hc:b with
 |true=>exact(ht hc).ghost (key jc hc)
 |false=>exact(hf hc).ghost (key jd hc)
end
theorem zU{α:Type}{k:Nat}{f:α→T}{xs:List α}{i:Int}{v:α}{p:List Nat}{u:T}(h:ixO xs i=ja v)(hr:(f v).get p=ja u):(L k f xs).get (i.toNat::p)=ja u:=by simp[T.get,(uQ h).2,hr]
theorem xG{t u:T}{p:List Nat}(h:t.get p=ja u):(T.ptr t).get (0::p)=ja u:=h
theorem xC{xs:List T}{x u:T}{j:Nat}{p:List Nat}(hj:xs[j]? =ja x)(h:x.get p=ja u):(T.agg xs).get (j::p)=ja u:=by simp[T.get,hj,h]
theorem kK{α:Type}{k:Nat}{f:α→T}{xs:List α}{i:Int}{v w:α}{p:List Nat}{u:T}(h:ixO xs i=ja v)(hr:(f v).set p u=f w):(L k f xs).set (i.toNat::p) u=L k f (xs.set i.toNat w):=by simp[L,T.set,(uQ h).2,hr,Jb8]
theorem zAZ{t u t':T}{p:List Nat}(h:t.set p u=t'):(T.ptr t).set (0::p) u=T.ptr t':=by simp[T.set,h]
theorem zFy{xs:List T}{x u x':T}{j:Nat}{p:List Nat}(hj:xs[j]? =ja x)(h:x.set p u=x'):(T.agg xs).set (j::p) u=.agg (xs.set j x'):=by simp[T.set,hj,h]
class Enc {α:Type} (f:α→T):Prop where
 clean:∀x,yD (f x)
 rofree:∀x,wQ (f x)=jc
 strip:∀x,strip (f x)=f x
 okTup:∀x,(f x).okTup=jc
 rook:∀x,zFp (f x)=jc
theorem zDX{α:Type}{f:α→T}(h:∀x,wQ (f x)=jc):(xs:List α)→vT (xs.map f)=jc
 | []=>rfl
 |x::xs=>by simp only[Jv,vT,h x,zDX h xs,Kz]
theorem zHs{α:Type}{f:α→T}(h:∀x,zFp (f x)=jc):(xs:List α)→zBo (xs.map f)=jc
 | []=>rfl
 |x::xs=>by simp only[Jv,zBo,h x,zHs h xs,Kz]
theorem tZ{α:Type}{f g:α→T}(h:∀x,strip (f x)=g x):(xs:List α)→wV (xs.map f)=xs.map g
 | []=>rfl
 |x::xs=>by simp only[Jv,wV,h x,tZ h xs]
instance:Enc I:=⟨zOB,fun _=>rfl,fun _=>rfl,fun _=>rfl,fun _=>rfl⟩
instance:Enc B:=⟨zUM,fun _=>rfl,fun _=>rfl,fun _=>rfl,fun _=>rfl⟩
instance{k:IntKind}:Enc (IK k):=⟨fun _=>by simp[yD,xE],fun _=>rfl,fun _=>rfl,fun _=>rfl,fun _=>rfl⟩
instance:Enc Str:=⟨fun _=>by simp[yD,xE],fun _=>rfl,fun _=>rfl,fun _=>rfl,fun _=>rfl⟩
instance{α:Type}{k:Nat}{f:α→T}[h:Enc f]:Enc (L k f):=
 ⟨fun _=>zOA h.clean,fun xs=>by simp only[wQ];exact zDX h.rofree xs,fun xs=>by simp only[L,strip,tZ h.strip xs],fun _=>rfl,fun xs=>by simp only[zFp,zHs h.rook xs]⟩
instance{α:Type}{f:α→T}[h:Enc f]:Enc (A2 f):=
 ⟨fun x=>by simp only[yD,xE,wB];exact⟨h.clean _,h.clean _,trivial⟩,fun x=>by simp only[wQ,vT,h.rofree,Kz],fun x=>by simp only[A2,strip,wV,h.strip],
  fun x=>by simp only[T.okTup,yU,h.okTup,Kz],fun x=>by simp only[zFp,zBo,h.rook,Kz]⟩
instance{α:Type}{f:α→T}[h:Enc f]:Enc (Pt f):=
 ⟨fun x=>by simp only[yD,xE];exact h.clean x,fun x=>by simp only[wQ,h.rofree],fun x=>by simp only[Pt,strip,h.strip],fun _=>rfl,fun x=>by simp only[zFp,h.rook]⟩
class uR {α:Type} (f g:α→T):Prop where
 h:∀x,strip (f x)=g x
instance{α:Type}{f:α→T}[h:Enc f]:uR f f:=⟨h.strip⟩
instance{α:Type}{k:Nat}{f g:α→T}[h:uR f g]:uR (L k f) (L k g):=⟨fun xs=>by simp only[L,strip,tZ h.h xs]⟩
instance{α:Type}{k:Nat}{g:α→T}:uR (Ro (L k g)) (L k g):=⟨fun _=>rfl⟩
instance{α:Type}{g:α→T}:uR (Ro (Pt g)) (Pt g):=⟨fun _=>rfl⟩
theorem stA{xs ys:List T}(h:wV xs=ys):strip (.agg xs)=.agg ys:=by simp only[strip,h]
theorem stC{x y:T}{xs ys:List T}(h:strip x=y)(h2:wV xs=ys):wV (x::xs)=y::ys:=by simp only[wV,h,h2]
section
variable {E:Env}{rw:Rw}{i s r:Nat}{q:List Nat}{x:Operand}
theorem zCk{α:Type}{k:Nat}{f g:α→T}{xs:List α}(h:uR f g):clo E (L k f xs)=.ro (L k g xs):=by simp only[clo,L,strip,tZ h.h xs]
theorem zRL{t u:T}(h:strip t=u):clo E (.ptr t)=.ro (.ptr u):=by simp only[clo,strip,h]
theorem zDd{tr u:T}(hr:E r=ja tr)(hg:tr.get q.reverse=ja u)(h4:zAk u=jc):qF E 4 r q=ja (r,q,u):=by cases u<;>simp[zAk]at h4<;>simp[qF,hr,hg]
theorem zBa{α:Type}{k:Nat}{f g:α→T}{xs:List α}{tr:T}(hr:E r=ja tr)(hg:tr.get q.reverse=ja (L k f xs))(h:uR f g):clo E (.same r q)=.ro (L k g xs):=by simp only[clo,zDd hr hg rfl,T.single,if_true,L,strip,tZ h.h xs]
theorem zYP{t u tr:T}(hr:E r=ja tr)(hg:tr.get q.reverse=ja (.ptr t))(h:strip t=u):clo E (.same r q)=.ro (.ptr u):=by simp only[clo,zDd hr hg rfl,T.single,if_true,strip,h]
theorem zXi{α:Type}{k l h:Nat}{f g:α→T}{xs:List α}{tr:T}(hr:E r=ja tr)(hg:tr.get q.reverse=ja (L k f xs))(hs:uR f g)(h1:l≤h)(h2:h≤xs.length):clo E (.sub r q k l h)=.ro (L k g ((xs.drop l).take (h-l))):=by simp only[clo,zDd hr hg rfl,L,tZ hs.h xs,Jd,h1,h2,and_self,if_true,Jd2,Qu]
theorem zE6{xs ys:List T}(h:zAY E xs=ys):clo E (.agg xs)=.agg ys:=by simp only[clo,h]
theorem zFz:zAY E []=[]:=rfl
theorem jT{x y:T}{xs ys:List T}(h:clo E x=y)(h2:zAY E xs=ys):zAY E (x::xs)=y::ys:=by simp only[zAY,h,h2]
mutual
theorem zJa(s:Nat):(t:T)→t.okTup=jc→sF E [] s t=jc
 |.agg xs,h=>by simp only[sF,T.okTup]at h ⊢;exact zHt s xs h
 |.tup _,h=>by simp[T.okTup]at h
 |.same r q,_|.sub r q _ _ _,_=>by simp only[sF];cases qF E 4 r q<;>simp
 |.sl _ _,_|.ptr _,_=>by simp[sF]
 |.lit _,_|.ro _,_|.any,_|.addr _ _,_=>by simp only[sF]
theorem zHt(s:Nat):(xs:List T)→yU xs=jc→zA1 E [] s xs=jc
 | [],_=>rfl
 |x::xs,h=>by simp only[yU,J4]at h;simp only[zA1,zJa s x h.1,zHt s xs h.2,Kz]
end
theorem agC{u:T}(t:T)(h:opT E x=ja t)(h1:clo E t=u)(h2:t.okTup=jc):zCe E [] i x u:=.inr ⟨t,h,h1,by
 cases x with
 |tmp s=>exact zJa s t h2
 |_=>rfl⟩
end
section
variable {P:Program}{Γ:Ctx}{E:Env}{d:Nat}{x y:Operand}{ty:TypeId}{ps:String}{af:Array Edge}{gd:Option (Nat×Bool)}
abbrev qL(res:List T):Prop:=xJ res∧yU res=jc∧vT res=jc
theorem sQ:qL []:=⟨trivial,rfl,rfl⟩
theorem kL{α:Type}{f:α→T}{x:α}{ts:List T}(h:Enc f)(h2:qL ts):qL (f x::ts):=
 ⟨⟨h.clean x,h2.1⟩,by simp only[yU,h.okTup,h2.2.1,Kz],by simp only[vT,h.rofree,h2.2.2,Kz]⟩
abbrev kX(P:Program)(f:FuncId):Prop:=∀args w,(callFunc f args).run P w=.ok (.enter f args) w
theorem tR{f:FuncId}{xs:List Operand}{ats:Array TypeId}{us res:List T}(gr:kX P f)(hc:FnC P f us res [])(gc:xW E [] 0 xs us)(gm:qL res)(sd:J7 d Γ.N=jc):
  Ok P Γ ⟨ja d,.call { callee:=.value (.func f),args:=xs.toArray,argTypes:=ats },ty,ps,af,gd⟩ E (E.app (cWr d res []) (vZ d [])):=
 fun _S=>zJG f (.func f) xs ats us res [] rfl rfl (yK sd) gr rfl hc gc .nil gm
theorem zUN{f:FuncId}{xs:List Operand}{ats:Array TypeId}{us res:List T}(gr:kX P f)(hc:FnC P f us res [])(gj:xs.length=us.length)(gc:∀(i:Nat) u,us[i]? =ja u→ ∃x,xs[i]? =ja x∧opT E x=ja u∧u.flat=jc)(gm:xJ res∧yU res=jc)(sd:J7 d Γ.N=jc):
  Ok P Γ ⟨ja d,.call { callee:=.value (.func f),args:=xs.toArray,argTypes:=ats },ty,ps,af,gd⟩ E (E.app (cWr d res []) (vZ d [])):=
 fun _S=>zR8 f (.func f) xs ats us res rfl rfl (yK sd) gr rfl hc gj gc gm
class sM (P:Program) (S:TypeId) (j:Nat) (off:outParam Nat):Prop where
 h:∃fs f fi,P.underlying S=ja (.struct fs)∧fs[j]? =ja f∧P.info? f.type=ja fi∧fi.size≠0∧off=f.offset
theorem zXj{S:TypeId}{j off r:Nat}{q:List Nat}{xs:List T}{u:T}(ht:sM P S j off)(hx:tK E x=ja (r,q,.ptr (.agg xs)))(hu:xs[j]? =ja u)(gF:T.sizes (xs.take j)=off)(sd:J7 d Γ.N=jc):
  Ok P Γ ⟨ja d,.fieldAddr S x j,ty,ps,af,gd⟩ E (E.app [(d,ja (.addr r (j::0::q)))] [(d,0)]):=by
 obtain⟨fs,f,fi,h1,h2,h3,h4,h5⟩:=ht.h;exact fun _=>zYH x S fs f fi j r q xs u rfl rfl (yK sd) h1 h2 h3 h4 hx hu (by rw[gF,h5])
theorem zCg{S:TypeId}{j off r:Nat}{q:List Nat}{t:T}{xs:List T}{u:T}(ht:sM P S j off)(hx:opT E x=ja (.addr r q))(hr:E r=ja t)(hg:t.get q.reverse=ja (.agg xs))(hu:xs[j]? =ja u)(gF:T.sizes (xs.take j)=off)(sd:(J7 d Γ.N&&t.locd q.reverse)=jc):
  Ok P Γ ⟨ja d,.fieldAddr S x j,ty,ps,af,gd⟩ E (E.app [(d,ja (.addr r (j::q)))] [(d,0)]):=by
 obtain⟨fs,f,fi,h1,h2,h3,h4,h5⟩:=ht.h;simp only[J4]at sd;exact fun _=>zMU x S fs f fi j r q t xs u rfl rfl (yK sd.1) h1 h2 h3 h4 hx hr hg sd.2 hu (by rw[gF,h5])
theorem zRM{S:TypeId}{j off:Nat}{xs:List T}{u:T}(ht:sM P S j off)(hx:opT E x=ja (.ro (.ptr (.agg xs))))(hu:xs[j]? =ja u)(gF:T.sizes (xs.take j)=off)(sd:J7 d Γ.N=jc):
  Ok P Γ ⟨ja d,.fieldAddr S x j,ty,ps,af,gd⟩ E (E.app [(d,ja (.ro (.ptr u)))] [(d,0)]):=by
 obtain⟨fs,f,fi,h1,h2,h3,h4,h5⟩:=ht.h;exact fun _=>zRp x S fs f fi j xs u rfl rfl (yK sd) h1 h2 h3 h4 hx hu (by rw[gF,h5])
def yA{α:Type}(xs:List α)(l h:Int):Option (List α):=if 0≤l∧l≤h∧h≤(xs.length:Int)then ja ((xs.drop l.toNat).take (h.toNat-l.toNat))else jb
theorem zCz{α:Type}{t e:TypeId}{ti:TypeInfo}{r k:Nat}{q:List Nat}{f:α→T}{xs ys:List α}{lo hi:Option Operand}{l h:Int}(ht:zBH P t e ti k)(hv:yA xs l h=ja ys)(hx:tK E x=ja (r,q,.ro (L k f xs)))(eG:zBE E lo 0 l.toNat)(ft:zBE E hi xs.length h.toNat)(sd:J7 d Γ.N=jc):
  Ok P Γ ⟨ja d,.slice t x lo hi jb,ty,ps,af,gd⟩ E (E.app [(d,ja (.ro (L k f ys)))] [(d,0)]):=by
 unfold yA at hv;split at hv
 ·rename_i hc
  simp at hv;subst hv;intro S;have:=zKI (P:=P) (Γ:=Γ.at S) (E:=E) (o:=⟨ja d,.slice t x lo hi jb,ty,ps,af,gd⟩) x lo hi t e ti r q k (xs.map f) l.toNat h.toNat rfl rfl (yK sd) ht.un ht.info ht.size hx eG (by simpa using ft) (by omega) (by simp;omega);simpa[L,Jd2,Qu]using this
 ·cases hv
theorem zRN{α:Type}{t e:TypeId}{ti:TypeInfo}{r k:Nat}{q:List Nat}{f:α→T}{xs ys:List α}{lo hi:Option Operand}{l h:Int}(ht:zBH P t e ti k)(hv:yA xs l h=ja ys)(hx:tK E x=ja (r,q,L k f xs))(eG:zBE E lo 0 l.toNat)(ft:zBE E hi xs.length h.toNat)(sd:(J7 d Γ.N&&(r != d))=jc):
  Ok P Γ ⟨ja d,.slice t x lo hi jb,ty,ps,af,gd⟩ E (E.app [(d,ja (.sub r q k l.toNat h.toNat))] [(d,0)]):=by
 unfold yA at hv;simp only[J4]at sd;split at hv
 ·rename_i hc
  intro S;exact zJ3 (P:=P) (Γ:=Γ.at S) (E:=E) (o:=⟨ja d,.slice t x lo hi jb,ty,ps,af,gd⟩) x lo hi t e ti r q k (xs.map f) l.toNat h.toNat rfl rfl (yK sd.1) ht.un ht.info ht.size hx eG (by simpa using ft) (by omega) (by simp;omega) (by simpa using sd.2)
 ·cases hv
end
end Go.Ab

namespace Go.Ab
open Go
theorem zB{t:T}(h:yD t):yD t:=h
theorem zM{α:Type}{f:α→T}{k:Nat}{xs:List α}(hf:∀x,yD (f x)):yD (L k f xs):=zOA hf
theorem wI{t:T}(h:yD t):yD (.ptr t):=by simpa only[yD,xE]using h
theorem yL{xs:List T}(h:xJ xs):yD (.agg xs):=by simpa only[yD,xE]using h
section
variable {P:Program}{Γ:Ctx}{pn:jR}{E E':Env}{Q:Exit→Env→Prop}{c c1 c2:Code}{x:Operand}
theorem CW.condT(hx:opT E x=ja (B jc))(h:CW P Γ pn c1 E Q):CW P Γ pn (.cond x c1 c2) E Q:=CW.cond jc hx (fun _=>h) (fun h=>by cases h)
theorem CW.condF(hx:opT E x=ja (B jd))(h:CW P Γ pn c2 E Q):CW P Γ pn (.cond x c1 c2) E Q:=CW.cond jd hx (fun h=>by cases h) (fun _=>h)
theorem CW.casesB(b:Bool)(ht:b=jc→CW P Γ pn c E Q)(hf:b=jd→CW P Γ pn c E Q):CW P Γ pn c E Q:=by
 cases h:b with
 |true=>exact ht h
 |false=>exact hf h
theorem sH{wr:Wr}{chg:Chg}{s:Nat}{t:T}(h:E s=ja t)(hf:wr.find s=jb:=by rfl)(hb:t.okB chg=jc:=by rfl):E.app wr chg s=ja t:=by simp[Env.app,hf,h,hb]
theorem zY.gh{ops:Array Oper}{o:Oper}{E1:Env}(hg:zO Γ E E1)(h:zY P Γ ops o E1 E'):zY P Γ ops o E E':=fun a w K Q hs hK=>h a w K Q (hg a w hs) hK
theorem zHu{t:T}(h:opT E x=ja (.ro (.ptr t))):zGe E x=jc:=by simp[zGe,h]
theorem zJb{r:Nat}{q:List Nat}{t:T}(h:tK E x=ja (r,q,.ptr t)):zGe E x=jc:=by
 unfold zGe;split
 ·rfl
 ·rfl
 ·simp[h]
end
theorem zLh{E:Env}{n:Nat}:zBE E jb n (n:Int).toNat:=by simp[zBE]
theorem zOD{E:Env}:zBE E jb 0 (0:Int).toNat:=by simp[zBE]
theorem zE7{E:Env}{x:Operand}{n:Int}{d:Nat}(h0:0≤n)(h:opT E x=ja (I n)):zBE E (ja x) d n.toNat:=⟨.i64,by rw[h];simp;omega⟩
theorem sS{α:Type}{xs ys:List α}{l h:Int}(hv:yA xs l h=ja ys):0≤l∧l≤h∧h≤xs.length∧ys=(xs.drop l.toNat).take (h.toNat-l.toNat):=by
 unfold yA at hv;split at hv
 ·rename_i hc;simp at hv;exact⟨hc.1,hc.2.1,hc.2.2,hv.symm⟩
 ·cases hv
theorem sV{α:Type}{xs ys:List α}{l h:Int}(hv:yA xs l h=ja ys):0≤l:=(sS hv).1
theorem zAr{α:Type}{xs ys:List α}{l h:Int}(hv:yA xs l h=ja ys):0≤h:=by have:=sS hv;omega
theorem zUO{E:Env}{r k:Nat}{q:List Nat}{α:Type}{l h:Int}{f g:α→T}{xs ys:List α}{tr:T}(hr:E r=ja tr)(hg:tr.get q.reverse=ja (L k f xs))(hs:uR f g)(hv:yA xs l h=ja ys):
  clo E (.sub r q k l.toNat h.toNat)=.ro (L k g ys):=by
 obtain⟨h1,h2,h3,rfl⟩:=sS hv;exact zXi hr hg hs (by omega) (by omega)
section
variable {P:Program}{Γ:Ctx}{E E':Env}{d:Nat}{x y:Operand}{ty:TypeId}{ps:String}{af:Array Edge}{gd:Option (Nat×Bool)}
theorem zF0{o:Oper}{e b:Bool}{d:Nat}{wr:Wr}{chg:Chg}(he:e=b)(h:Ok P Γ o E (E.app ((d,ja (B e))::wr) chg)):Ok P Γ o E (E.app ((d,ja (B b))::wr) chg):=he▸h
theorem zYQ{t:TypeId}{u tr t0:T}{r:Nat}{q:List Nat}(ht:zUL P t u)(hx:tK E x=ja (r,q,.ptr t0))(hr:E r=ja tr)(hg:tr.get (0::q).reverse=ja u)(sd:(J7 d Γ.N&&tr.locd (0::q).reverse&&(r != d)&&T.okB [(d,0)] (cpT r u (0::q)))=jc):
  Ok P Γ ⟨ja d,.load t x,ty,ps,af,gd⟩ E (E.app [(d,ja (cpT r u (0::q)))] [(d,0)]):=by
 obtain⟨ds,ti,h1,h2,h3,h4⟩:=ht.h;simp only[J4]at sd;exact fun S=>zKF x t ds ti r (0::q) tr u rfl rfl (yK sd.1.1.1) h1 h2 h3 h4 (zAI.ptr hx) hr hg sd.1.1.2 (by simpa using sd.1.2) sd.2
theorem zWr{t:TypeId}{ti:TypeInfo}{r s:Nat}{q:List Nat}{tr tr' u0 u:T}(hi:P.info? t=ja ti)(gv:(ti.size==u.size&&J7 0 ti.size)=jc)(hx:∀S,zAI (Γ.at S) E x r q)(hr:E r=ja tr)(hg:tr.get q.reverse=ja u0)(gw:tr.set q.reverse u=tr')(hy:E s=ja u)(hu:yD u)
  (sd:(tr.single&&tr.locd q.reverse&&vE u u0&&(r != s)&&u.okTup)=jc):Ok P Γ ⟨jb,.store t x (.tmp s),ty,ps,af,gd⟩ E (E.app ((r,ja tr')::sWr r q (.slot s u)) ((r,q.length)::sP [.slot s u])):=by
 simp only[J4]at sd gv;subst gw;intro S;refine zFo (P:=P) (Γ:=Γ.at S) (E:=E) (o:=⟨jb,.store t x (.tmp s),ty,ps,af,gd⟩) t ti x (.tmp s) r q tr u0 (.slot s u) rfl rfl hi (by simpa[yV.tree]using gv.1) (yK gv.2) (hx S) hr sd.1.1.1.1 hg sd.1.1.1.2 sd.1.1.2 (.slot s _)
  ⟨fun s' t' h=>by simp at h;obtain⟨rfl,rfl⟩:=h;exact⟨hy,hu,sd.2⟩,fun u h=>by simp at h,?_⟩
 have:r≠s:=by simpa using sd.1.2
 simp only[xZ];split<;>simp[this]
theorem zDY{t:TypeId}{ti:TypeInfo}{r s:Nat}{q:List Nat}{tr tr' u0 u:T}(hi:P.info? t=ja ti)(gv:(ti.size==u.size&&J7 0 ti.size)=jc)(hx:opT E x=ja (.addr r q))(hr:E r=ja tr)(hg:tr.get q.reverse=ja u0)(gw:tr.set q.reverse u=tr')(hy:E s=ja u)(hu:yD u)
  (sd:(tr.single&&tr.locd q.reverse&&vE u u0&&(r != s)&&u.okTup)=jc):Ok P Γ ⟨jb,.store t x (.tmp s),ty,ps,af,gd⟩ E (E.app ((r,ja tr')::sWr r q (.slot s u)) ((r,q.length)::sP [.slot s u])):=
 zWr hi gv (fun _=>zAI.addr hx) hr hg gw hy hu sd
theorem uE{t:TypeId}{ti:TypeInfo}{r s:Nat}{q:List Nat}{tr tr' u0 u t0:T}(hi:P.info? t=ja ti)(gv:(ti.size==u.size&&J7 0 ti.size)=jc)(hx:tK E x=ja (r,q,.ptr t0))(hr:E r=ja tr)(hg:tr.get (0::q).reverse=ja u0)(gw:tr.set (0::q).reverse u=tr')(hy:E s=ja u)(hu:yD u)
  (sd:(tr.single&&tr.locd (0::q).reverse&&vE u u0&&(r != s)&&u.okTup)=jc):Ok P Γ ⟨jb,.store t x (.tmp s),ty,ps,af,gd⟩ E (E.app ((r,ja tr')::sWr r (0::q) (.slot s u)) ((r,(0::q).length)::sP [.slot s u])):=
 zWr hi gv (fun _=>zAI.ptr hx) hr hg gw hy hu sd
theorem zXk{t:TypeId}{ti:TypeInfo}{r:Nat}{q:List Nat}{tr tr' u0 u:T}{v:Value}(hi:P.info? t=ja ti)(gv:(ti.size==u.size&&J7 0 ti.size)=jc)(hx:∀S,zAI (Γ.at S) E x r q)(hr:E r=ja tr)(hg:tr.get q.reverse=ja u0)(gw:tr.set q.reverse u=tr')
  (sd:(tr.single&&tr.locd q.reverse&&vE u u0&&u.zOk)=jc)(hz:tM u=v.cells.toList):Ok P Γ ⟨jb,.store t x (.const v),ty,ps,af,gd⟩ E (E.app [(r,ja tr')] [(r,q.length)]):=by
 simp only[J4]at sd gv;subst gw;intro S;have:=zFo (P:=P) (Γ:=Γ.at S) (E:=E) (o:=⟨jb,.store t x (.const v),ty,ps,af,gd⟩) t ti x (.const v) r q tr u0 (.zero u) rfl rfl hi (by simpa[yV.tree]using gv.1) (yK gv.2) (hx S) hr sd.1.1.1 hg sd.1.1.2 sd.1.2 (.zero v _ hz)
  ⟨fun s' t' h=>by simp at h,fun u h=>by simp at h;subst h;exact sd.2,by simp[xZ]⟩
 exact this
theorem zF1{t:TypeId}{ti:TypeInfo}{r:Nat}{q:List Nat}{tr tr' u0 u:T}{v:Value}(hi:P.info? t=ja ti)(gv:(ti.size==u.size&&J7 0 ti.size)=jc)(hx:opT E x=ja (.addr r q))(hr:E r=ja tr)(hg:tr.get q.reverse=ja u0)(gw:tr.set q.reverse u=tr')
  (sd:(tr.single&&tr.locd q.reverse&&vE u u0&&u.zOk)=jc)(hz:tM u=v.cells.toList):Ok P Γ ⟨jb,.store t x (.const v),ty,ps,af,gd⟩ E (E.app [(r,ja tr')] [(r,q.length)]):=
 zXk hi gv (fun _=>zAI.addr hx) hr hg gw sd hz
theorem zHv{G:Gh}{s:Nat}:(xs:List T)→yU xs=jc→ ∀(p:List Nat)(i j:Nat)(u:T),xs[j]? =ja u→ ∃l1 l2,yF G s xs p i=l1++vals G s u ((i+j)::p)++l2∧l1.length=T.sizes (xs.take j)
 | [],_,_,_,_,_,h=>by simp at h
 |x::xs,ht,p,i,j,u,h=>by
  simp only[yU,J4]at ht;cases j with
  |zero=>simp at h;subst h;exact⟨[],yF G s xs p (i+1),by simp[yF],by simp[T.sizes]⟩
  |succ j=>
   obtain⟨l1,l2,h1,h2⟩:=zHv xs ht.2 p (i+1) j u (by simpa using h);refine⟨vals G s x (i::p)++l1,l2,by rw[yF,h1,show i+(j+1)=i+1+j from by omega];simp[Ja],?_⟩;rw[J5,wT x _ (by rintro ys rfl;simp[T.okTup]at ht),h2,Kb,T.sizes]
theorem zYR{S:TypeId}{j off s:Nat}{xs:List T}{u:T}(ht:sM P S j off)(hv:∃ds ti fs f,P.underlying S=ja (.struct fs)∧fs[j]? =ja f∧P.underlying f.type=ja ds∧P.info? f.type=ja ti∧zFj ds= !u.single∧ti.size=u.size)(hx:E s=ja (.agg xs))(hu:xs[j]? =ja u)(gF:T.sizes (xs.take j)=off)
  (sd:(J7 d Γ.N&&yU xs&&u.okTup&&(s != d)&&T.okB [(d,0)] (cpT s u [j]))=jc):
  Ok P Γ ⟨ja d,.field S (.tmp s) j,ty,ps,af,gd⟩ E (E.app [(d,ja (cpT s u [j]))] [(d,0)]):=by
 obtain⟨fs,f,fi,h1,h2,h3,h4,h5⟩:=ht.h;obtain⟨ds,ti,fs',f',g1,g2,g3,g4,g5,g6⟩:=hv;simp only[J4]at sd;rw[h1]at g1;simp at g1;subst g1;rw[h2]at g2;simp at g2;subst g2;rw[h3]at g4;simp at g4;subst g4;intro S';refine wN.value rfl fun a w G g9=>?_
 obtain⟨k1,k2,_⟩:=g9.ent s _ hx;simp only[R]at k2;have k3:=zAV xs [] 0 j u k2 hu;simp only[Jg]at k3;have gf:s≠d:=by simpa using sd.1.2
 have gR:∀ys,u≠.tup ys:=zBs sd.1.1.2;have hk:=G.put_keep (w:=w) (w':=w) rfl d (fun z=>G.hd s (z++[j]));have hz:∀z,(G.put d (fun z=>G.hd s (z++[j]))).hd d (z++[])=G.hd s (z++[j]):=fun z=>by rw[Gh.put_self,J9]
 refine⟨sC G s u [j],w,?_,_,vN g9 rfl (yK sd.1.1.1.1) (fun z=>G.hd s (z++[j])) (fun z=>g9.mem.one _ _) _ _ (zAy u [j] [] gR hz).symm
  (zDJ (fun p=>G.put_other _ p gf) u [j] [] hz gR (hk.keepR (zAg _ (qQ s u [j]) sd.2)) k3) (qQ s u [j])⟩
 obtain⟨l1,l2,e1,e2⟩:=zHv (G:=G) (s:=s) xs sd.1.1.1.2 [] 0 j u hu;simp only[Jg]at e1;have e3:l1.length=f.offset:=by rw[e2,gF,h5]
 have e4:=wT (G:=G) (s:=s) u [j] gR;have aU:(part f.type (yF G s xs [] 0).toArray f.offset).run P w=.ok (sC G s u [j]) w:=by
  rw[e1];cases u with
  |agg ys=>
   simp[T.single]at g5;simp only[vals,T.size]at e4 g6 ⊢
   simp[part,jO g3,g5,sizeOf,typeInfo,h3,sC];rw[←e3,g6,←e4];simp
  |tup ys=>exact absurd rfl (gR ys)
  |_=>
   simp[T.single]at g5;simp[part,jO g3,g5,sC,vals,←e3]
 simp[execOp,wK k1,mkV,Instr.field,run_underlying h1,h2,asAgg,aU]
theorem zDe{α:Type}{t e:TypeId}{ti:TypeInfo}{k:Nat}{u:T}{n:Nat}{a:Int}{f:α→T}{z:α}(ht:ElT P t e ti k u)(hz:f z=u)(hn:yY a=ja n)(hx:opT E x=ja (I a))(hy:opT E y=ja (I a))(sd:J7 d Γ.N=jc):
  Ok P Γ ⟨ja d,.makeSlice t x y,ty,ps,af,gd⟩ E (E.app [(d,ja (L k f (J1 n z)))] [(d,0)]):=by
 have:=zXh (P:=P) (Γ:=Γ) (E:=E) (d:=d) (ty:=ty) (ps:=ps) (af:=af) (gd:=gd) ht hn hx hn hy (Jo _) sd;rw[←hz]at this;simpa[L]using this
theorem zE8{t e:TypeId}{ti:TypeInfo}{k:Nat}{u:T}(ht:ElT P t e ti k u)(sd:J7 d Γ.N=jc):Ok P Γ ⟨ja d,.buildSlice t 0 #[],ty,ps,af,gd⟩ E (E.app [(d,ja (.sl k []))] [(d,0)]):=
 fun _=>zGY t e ti k rfl rfl (yK sd) ht.un ht.info
theorem zLi(t:TypeId)(x y:Value):Op.equal t x y=Op.equalIn (9999+1) t x y:=rfl
theorem zG7{P:Program}{w:World}{t:TypeId}{k:IntKind}{a b:Int}(n:Nat)(h:P.underlying t=ja (.int k)):(Op.equalIn (n+1) t (.int k a) (.int k b)).run P w=.ok (a==b) w:=by simp only[Op.equalIn,Sem.run_bind,run_underlying h];simp
end
end Go.Ab

namespace Go.Ab
open Go
def zBI:List Nat→Bool
 | []=>jc
 |x::xs=> !xs.contains x&&zBI xs
theorem zF2:{l:List Nat}→zBI l=jc→l.Nodup
 | [],_=>by simp
 |x::xs,h=>by simp only[zBI,J4,Gd,H0,decide_eq_false_iff_not]at h;exact Lj.2 ⟨h.1,zF2 h.2⟩
def zBJ(E:Env):List yV→Prop
 | []=>True
 |.slot s t::l=>(E s=ja t∧yD t∧t.okTup=jc)∧zBJ E l
 |.zero u::l=>u.zOk=jc∧zBJ E l
theorem zBJ.get{E:Env}:(l:List yV)→zBJ E l→(∀s t,yV.slot s t∈l→E s=ja t∧yD t∧t.okTup=jc)∧ ∀u,yV.zero u∈l→u.zOk=jc
 | [],_=>⟨fun _ _ h=>by simp at h,fun _ h=>by simp at h⟩
 |.slot s t::l,h=>by
  obtain⟨h1,h2⟩:=zBJ.get l h.2;exact⟨fun s' t' hm=>by
   rcases Jc.1 hm with e|hm
   ·cases e;exact h.1
   ·exact h1 s' t' hm,fun u hm=>by
   rcases Jc.1 hm with e|hm
   ·cases e
   ·exact h2 u hm⟩
 |.zero u::l,h=>by
  obtain⟨h1,h2⟩:=zBJ.get l h.2;exact⟨fun s' t' hm=>by
   rcases Jc.1 hm with e|hm
   ·cases e
   ·exact h1 s' t' hm,fun u' hm=>by
   rcases Jc.1 hm with e|hm
   ·cases e;exact h.1
   ·exact h2 u' hm⟩
section
variable {E:Env}
theorem pkN:zBJ E []:=trivial
theorem pkS{s:Nat}{t:T}{l:List yV}(h:E s=ja t)(hc:yD t)(h3:t.okTup=jc)(hl:zBJ E l):zBJ E (.slot s t::l):=⟨⟨h,hc,h3⟩,hl⟩
theorem pkZ{u:T}{l:List yV}(h:u.zOk=jc)(hl:zBJ E l):zBJ E (.zero u::l):=⟨h,hl⟩
theorem zBJ.parts{d:Nat}{l:List yV}(h:zBJ E l)(hn:zBI (d::xZ l)=jc):tP E d l:=⟨(zBJ.get l h).1,(zBJ.get l h).2,zF2 hn⟩
def zCl(E:Env)(zs:List T)(ps:List yV):List (Nat×Operand)→List (Nat×yV)→Prop
 | [],[]=>True
 |x::xs,q::qs=>(x.1=q.1∧kV E x.2 q.2∧ps[q.1]? =ja q.2∧ ∃u,zs[q.1]? =ja u∧u.size=q.2.tree.size)∧zCl E zs ps xs qs
 |_,_=>False
theorem bqN{zs:List T}{ps:List yV}:zCl E zs ps [] []:=trivial
theorem bqC{zs:List T}{ps:List yV}{i:Nat}{x:Operand}{q:yV}{xs:List (Nat×Operand)}{qs:List (Nat×yV)}(h:kV E x q)(hl:zCl E zs ps xs qs)(h1:ps[i]? =ja q:=by rfl)(h2:∃u,zs[i]? =ja u∧u.size=q.tree.size:=by exact⟨_,rfl,rfl⟩):zCl E zs ps ((i,x)::xs) ((i,q)::qs):=⟨⟨rfl,h,h1,h2⟩,hl⟩
theorem zCl.ix{zs:List T}{ps:List yV}:(pl:List (Nat×Operand))→(qs:List (Nat×yV))→zCl E zs ps pl qs→pl.map (·.1)=qs.map (·.1)
 | [],[],_=>rfl
 |x::xs,q::qs,h=>by simp[h.1.1,zCl.ix xs qs h.2]
 | [],_::_,h=>by simp[zCl]at h
 |_::_,[],h=>by simp[zCl]at h
theorem zCl.get{zs:List T}{ps:List yV}:(pl:List (Nat×Operand))→(qs:List (Nat×yV))→zCl E zs ps pl qs→ ∀(j:Nat)(x:Nat×Operand)(q:Nat×yV),pl[j]? =ja x→qs[j]? =ja q→kV E x.2 q.2∧q.2∈ps∧ ∃u,zs[q.1]? =ja u∧u.size=q.2.tree.size
 | [],[],_,j,_,_,h,_=>by simp at h
 |x::xs,q::qs,h,j,x',q',h1,h2=>by
  cases j with
  |zero=>simp at h1 h2;subst h1;subst h2;exact⟨h.1.2.1,Kh h.1.2.2.1,h.1.2.2.2⟩
  |succ j=>exact zCl.get xs qs h.2 j x' q' (by simpa using h1) (by simpa using h2)
 | [],_::_,h,_,_,_,_,_=>by simp[zCl]at h
 |_::_,[],h,_,_,_,_,_=>by simp[zCl]at h
end
class zHw (P:Program) (t:TypeId) (zs:outParam (List T)):Prop where
 h:∃(place:Nat→Option (Nat×Nat))(z:Value),(∀parts,P.built t parts=Instr.fill place z.cells parts)∧sD zs=z.cells.toList∧zAi zs=jc∧ ∀i u,zs[i]? =ja u→place i=ja (T.sizes (zs.take i),u.size)
section
variable {P:Program}{Γ:Ctx}{E E':Env}{d:Nat}{x y:Operand}{ty:TypeId}{ps:String}{af:Array Edge}{gd:Option (Nat×Bool)}
theorem jC{t:TypeId}{zs:List T}{pa:Array (Nat×Operand)}(hb:zHw P t zs)(pl:List (Nat×Operand))(qs:List (Nat×yV))(pp:List yV)(gE:zBJ E pp)(hq:zCl E zs pp pl qs)(sd:(J7 d Γ.N&&zBI (d::xZ pp))=jc)
  (fT:pa=pl.toArray:=by rfl)(hH:qs.foldl (fun ps q=>ps.set q.1 q.2) (zs.map yV.zero)=pp:=by rfl):Ok P Γ ⟨ja d,.build t pa,ty,ps,af,gd⟩ E (E.app ((d,ja (.agg (pp.map yV.tree)))::pWr d pp 0) ((d,0)::sP pp)):=by
 obtain⟨place,z,h1,h2,h3,h4⟩:=hb.h;simp only[J4]at sd;subst fT;exact fun S=>zRx t place z zs pl qs pp rfl rfl (yK sd.1) h1 h2 h3 h4 hH (gE.parts sd.2) (zCl.ix _ _ hq) (zCl.get _ _ hq)
def zLj(k:Nat):List yV→Bool
 | []=>jc
 |p::l=>(p.tree.size==k)&&zLj k l
theorem zLk{k:Nat}:(l:List yV)→zLj k l=jc→ ∀p∈l,p.tree.size=k
 | [],_,_,h=>by simp at h
 |p::l,h,q,hm=>by
  simp only[zLj,J4,beq_iff_eq]at h;rcases Jc.1 hm with rfl|hm
  ·exact h.1
  ·exact zLk l h.2 q hm
theorem zBu{α:Type}{t e:TypeId}{ti:TypeInfo}{k n:Nat}{u:T}{pa:Array (Nat×Operand)}(ht:ElT P t e ti k u)(xs:List Operand)(pp:List yV)(ys:List α)(f:α→T)(hx:uK E xs pp)(gE:zBJ E pp)
  (sd:(J7 d Γ.N&&zBI (d::xZ pp)&&zLj k pp&&J7 0 n&&Nat.ble (n*k) 65536)=jc)(hn:xs.length=n)(fT:pa=((xs.zipIdx 0).map fun x=>(x.2,x.1)).toArray:=by rfl)(hy:pp.map yV.tree=ys.map f:=by rfl):
  Ok P Γ ⟨ja d,.buildSlice t n pa,ty,ps,af,gd⟩ E (E.app ((d,ja (L k f ys))::pWr d pp 0) ((d,0)::sP pp)):=by
 obtain⟨z,hz,_⟩:=ht.zero;simp only[J4]at sd;subst fT;intro S;have p6:n*k≤65536:=by simpa[Nat.ble_eq]using sd.2
 have:=zI3 (P:=P) (Γ:=Γ.at S) (E:=E) (o:=⟨ja d,.buildSlice t n ((xs.zipIdx 0).map fun x=>(x.2,x.1)).toArray,ty,ps,af,gd⟩) t e ti z k n xs pp rfl rfl (yK sd.1.1.1.1) ht.un ht.info hz ht.size ht.pos hn (yK sd.1.2) (by omega) hx (gE.parts sd.1.1.1.2) (zLk pp sd.1.1.2);rw[hy]at this;exact this
theorem zLl{α:Type}{f g:α→T}(h:∀y,roT (g y)=f y):(ys:List α)→roT.roTs (ys.map g)=ys.map f
 | []=>rfl
 |y::ys=>by simp only[Jv,roT.roTs,h y,zLl h ys]
theorem zDZ{α:Type}{t e:TypeId}{ti:TypeInfo}{k r:Nat}{q:List Nat}{u:T}{f g:α→T}{xs ys zs:List α}{s0:Nat}(ht:ElT P t e ti k u)(dg:∀y,roT (g y)=f y)(gv:∀y,(g y).size=k)(hg:Enc g)(hv:xK xs ys=ja zs)(h0:E s0=ja (L k f xs))(h1:tK E y=ja (r,q,.ro (L k g ys)))(sd:(J7 d Γ.N&&(s0 != d))=jc):
  Ok P Γ ⟨ja d,.call { callee:=.builtin .append,args:=#[.tmp s0,y],argTypes:=#[t,t] },ty,ps,af,gd⟩ E (E.app [(d,ja (L k f zs)),(s0,ja .any)] [(d,0),(s0,1)]):=by
 obtain⟨rfl,hl⟩:=zFx hv;obtain⟨z,hz,fx⟩:=ht.zsize;simp only[J4]at sd;intro S;have:=zJD (P:=P) (Γ:=Γ.at S) (E:=E) (o:=⟨ja d,.call { callee:=.builtin .append,args:=#[.tmp s0,y],argTypes:=#[t,t] },ty,ps,af,gd⟩) t e ti z k s0 y r q (xs.map f) (ys.map g) rfl rfl (yK sd.1) ht.un ht.info hz ht.size ht.pos fx ht.bytes h0 h1 (zHs hg.rook ys)
  (by intro v hv;obtain⟨y,_,rfl⟩:=Js.1 hv;exact gv y) (by simpa using sd.2) (by simpa using hl)
 rw[zLl dg,←Kx]at this;exact this
def vL{α:Type}(xs:List α)(m:Int)(z:α):Option (List α):=if 0≤m∧xs.length+m.toNat≤68719476736 then ja (xs++J1 m.toNat z)else jb
theorem zXl{α:Type}{t t2 e:TypeId}{k2:IntKind}{ti:TypeInfo}{k:Nat}{u:T}{f:α→T}{z:α}{xs zs:List α}{s0:Nat}{m:Int}(ht:ElT P t e ti k u)(aH:P.underlying t2=ja (.int k2))(hz:f z=u)(hv:vL xs m z=ja zs)(h0:E s0=ja (L k f xs))(h1:opT E y=ja (I m))(sd:(J7 d Γ.N&&(s0 != d))=jc):
  Ok P Γ ⟨ja d,.call { callee:=.builtin .append,args:=#[.tmp s0,y],argTypes:=#[t,t2] },ty,ps,af,gd⟩ E (E.app [(d,ja (L k f zs)),(s0,ja .any)] [(d,0),(s0,1)]):=by
 unfold vL at hv;split at hv
 ·rename_i hc
  simp at hv;subst hv;obtain⟨zv,mV,eS⟩:=ht.zero;simp only[J4]at sd;obtain⟨n,rfl⟩:∃n:Nat,m=n:=⟨m.toNat,by omega⟩;intro S;have:=zHg (P:=P) (Γ:=Γ.at S) (E:=E) (o:=⟨ja d,.call { callee:=.builtin .append,args:=#[.tmp s0,y],argTypes:=#[t,t2] },ty,ps,af,gd⟩) t t2 e k2 ti zv u k s0 y .i64 n (xs.map f) rfl rfl (yK sd.1) ht.un aH ht.info mV ht.size ht.pos ht.bytes ht.zok eS ht.us h0 h1
   (by simpa using sd.2) (by simp at hc ⊢;omega)
  have e:xs.map f++J1 n u=(xs++J1 n z).map f:=by simp[hz]
  rw[e]at this;have h2:((n:Int)).toNat=n:=by simp
  rw[h2];exact this
 ·cases hv
end
section
variable {Γ:Ctx}{E:Env}
theorem zO.trq(d r:Nat)(q:List Nat){tr u tr':T}(hd:E d=ja (.same r q))(hr:E r=ja tr)(hg:tr.get q.reverse=ja u)(eK:yD u)(sd:(u.single&&xS tr&&tr.okB [(d,1),(r,q.length+1)]&&(d != r))=jc)(gw:(if q=[]then .same d []else tr.set q.reverse .any)=tr':=by rfl):
  zO Γ E (E.app [(d,ja u),(r,ja tr')] [(d,1),(r,q.length+1)]):=by
 simp only[J4]at sd
 rintro a w ⟨S,hS,hs⟩
 have gf:d≠r:=by simpa using sd.2
 have:=zNa hs d [] r q (.same r q) tr u hd rfl hr hg sd.1.1.1 eK gf (by simp[T.okB,kG,gf]) sd.1.2 rfl sd.1.1.2;subst gw;exact⟨S,hS,this⟩
theorem zO.trf(d:Nat)(g:List Nat)(r:Nat)(q:List Nat)(td tr:T){u td' tr':T}(hd:E d=ja td)(mo:td.get g.reverse=ja (.same r q))(hr:E r=ja tr)(hg:tr.get q.reverse=ja u)(gw:td.set g.reverse u=td')(eK:yD u)
  (sd:(u.single&&xS td&&xS tr&&td.okB [(d,g.length+1),(r,q.length+1)]&&tr.okB [(d,g.length+1),(r,q.length+1)]&&(d != r))=jc)(fP:(if q=[]then .same d g else tr.set q.reverse .any)=tr':=by rfl):
  zO Γ E (E.app [(d,ja td'),(r,ja tr')] [(d,g.length+1),(r,q.length+1)]):=by
 simp only[J4]at sd
 rintro a w ⟨S,hS,hs⟩
 have gf:d≠r:=by simpa using sd.2
 have:=zNa hs d g r q td tr u hd mo hr hg sd.1.1.1.1.1 eK gf sd.1.1.2 sd.1.2 sd.1.1.1.1.2 sd.1.1.1.2;subst gw fP;exact⟨S,hS,this⟩
theorem zO.frz{α:Type}(s:Nat){k:Nat}{f g:α→T}(xs:List α)(hs:E s=ja (L k f xs))(h:uR f g):zO Γ E (E.app [(s,ja (.ro (L k g xs)))] [(s,1)]):=by have:=zO.freeze (Γ:=Γ) s _ hs;simp only[vW,strip,tZ h.h xs]at this;exact this
theorem zO.res(d r:Nat)(q:List Nat)(tr:T){u:T}(hd:E d=ja (.same r q))(hr:E r=ja tr)(hg:tr.get q.reverse=ja (.ro u)):zO Γ E (E.app [(d,ja (.ro u))] []):=by
 rintro a w ⟨S,hS,gQ,G,g9⟩
 refine⟨S,hS,gQ,G,?_⟩;have hk:qU [] G w G w:=⟨fun _ _ _=>rfl,fun _ _ _=>rfl,fun _ _ _ _ _ _ h _=>⟨h,rfl⟩,fun _ _ _ h _=>h,fun b cs e h=>⟨cs,h,rfl⟩⟩;refine vH g9 rfl hk g9.mem (fun s _=>⟨fun n hn=>by simp at hn,rfl⟩) fun s t hs=>?_
 simp only[Wr.find]at hs;split at hs
 ·rename_i e;subst e
  simp at hs;subst hs;obtain⟨h1,h2,_⟩:=g9.ent d _ hd;obtain⟨_,h4,_⟩:=g9.ent r _ hr;simp only[R]at h2;have h5:=(zAx q.reverse tr _ [] h4 hg).1;simp only[rp,Ks,J9,R]at h5;exact⟨by rw[h1];rfl,by simp only[R];rw[h2];exact h5,by simp[Top]⟩
 ·cases hs
end
theorem zJM:(p:List Nat)→ ∀(t u0 a:T),t.get p=ja u0→(t.set p a).get p=ja a
 | [],t,_,a,_=>by cases t<;>cases a<;>rfl
 |i::p,t,u0,a,h=>by
  cases t with
  |sl k xs|agg xs|tup xs=>
   simp only[T.get,T.set]at h ⊢
   cases hx:xs[i]? with
   |none=>rw[hx]at h;cases h
   |some x=>
    rw[hx]at h;have hi:=(Jb.1 hx).1;simp only[];simp only[T.get,Uu hi];exact zJM p x u0 a h
  |ptr t=>
   simp only[T.get,T.set]at h ⊢
   split at h
   ·rename_i e;subst e;simp only[if_true,T.get];exact zJM p t u0 a h
   ·cases h
  |_=>simp[T.get]at h
theorem set_set:(p:List Nat)→ ∀(t u0 a b:T),t.get p=ja u0→(t.set p a).set p b=t.set p b
 | [],t,_,a,_,_=>by cases t<;>cases a<;>rfl
 |i::p,t,u0,a,b,h=>by
  cases t with
  |sl k xs|agg xs|tup xs=>
   simp only[T.get,T.set]at h ⊢
   cases hx:xs[i]? with
   |none=>rw[hx]at h;cases h
   |some x=>
    rw[hx]at h;have hi:=(Jb.1 hx).1;simp only[];simp only[T.set,Uu hi,Jdb,set_set p x u0 a b h]
  |ptr t=>
   simp only[T.get,T.set]at h ⊢
   split at h
   ·rename_i e;subst e;simp only[if_true,T.set,set_set p t u0 a b h]
   ·cases h
  |_=>simp[T.get]at h
def zAl:T→Bool
 |.sl _ _|.ptr _=>jc
 |_=>jd
theorem zRO{t:T}(h:zAl t=jc)(p:List Nat){u:T}(hp:p≠[]):zAl (t.set p u)=jc:=by
 cases p with
 |nil=>exact absurd rfl hp
 |cons i p=>cases t<;>simp[zAl]at h<;>simp only[T.set]<;>split<;>rfl
theorem tA{t:T}(h:zAl t=jc)(chg:Chg):t.okB chg=jc∧xS t=jc∧t.single=jc:=by cases t<;>simp[zAl]at h<;>simp[T.okB,xS,T.single]
section
variable {P:Program}{Γ:Ctx}{E E':Env}{d:Nat}{ty:TypeId}{ps:String}{af:Array Edge}{gd:Option (Nat×Bool)}
theorem agM{E:Env}{rw:Rw}{i:Nat}{x:Operand}{u:T}(t:T)(h:opT E x=ja t)(h1:clo E t=u)(h2:zIQ E (rw.map (·.2.1)) x t=jc):zCe E rw i x u:=.inr ⟨t,h,h1,h2⟩
theorem zBK{E:Env}{rw:Rw}{i s:Nat}{u u':T}(h:E s=ja u)(hc:yD u)(hr:wQ u=jc)(hs:u.okTup=jc:=by rfl)(hm:(i,s,u')∈rw:=by exact List.mem_singleton.2 rfl):zCe E rw i (.tmp s) u:=.inl ⟨s,u',rfl,hm,h,hc,hs,hr⟩
abbrev vU(E:Env)(ds r:Nat)(q:List Nat)(tr u:T):Env:=E.app [(ds,ja u),(r,ja (if q=[]then .same ds []else tr.set q.reverse .any))] [(ds,1),(r,q.length+1)]
theorem zBL{f:FuncId}{xs:List Operand}{ats:Array TypeId}{us res:List T}{tr u u' tr':T}(i ds r:Nat)(q:List Nat)(gr:kX P f)(hc:FnC P f us res [(i,u')])(hs:E ds=ja (.same r q))(hr:E r=ja tr)(hq:tr.get q.reverse=ja u)
  (eK:yD u)(eA:yD u')(_:wQ u=jc)(cV:wQ u'=jc)(gc:xW (vU E ds r q tr u) [(i,ds,u')] 0 xs us)(gm:qL res)(gw:tr.set q.reverse u'=tr')
  (sd:(J7 d Γ.N&&(d != ds)&&(d != r)&&(ds != r)&&zAl u&&zAl u'&&zAl tr)=jc)(hx:xs[i]? =ja (.tmp ds))(hu:us[i]? =ja u):
  Ok P Γ ⟨ja d,.call { callee:=.value (.func f),args:=xs.toArray,argTypes:=ats },ty,ps,af,gd⟩ E ((((vU E ds r q tr u).app (cWr d res [(i,ds,u')]) (vZ d [(i,ds,u')]))).app [(r,ja tr'),(ds,ja (.same r q))] [(r,q.length+1),(ds,1)]):=by
 simp only[J4]at sd;obtain⟨⟨⟨⟨⟨⟨s1,s2⟩,s3⟩,s4⟩,s5⟩,s6⟩,s7⟩:=sd;have d1:d≠ds:=by simpa using s2
 have d2:d≠r:=by simpa using s3
 have d3:ds≠r:=by simpa using s4
 obtain⟨u1,u2,u3⟩:=tA s5 [];obtain⟨v1,v2,v3⟩:=tA s6 [];have p5:cLv u'=1:=by simp[cLv,v3]
 subst gw;intro S
 by_cases tn:q=[]
 ·subst tn
  have htu:tr=u:=by
   have:tr.get []=ja tr:=by cases tr<;>rfl
   simp only[Lg]at hq;rw[this]at hq;exact L8.inj hq
  subst htu;have mG:∀a b:T,a.set [] b=b:=fun a b=>by cases a<;>rfl
  have t9:(vU E ds r [] tr tr) ds=ja tr:=by simp[vU,Env.app,Wr.find]
  have pZ:((vU E ds r [] tr tr).app (cWr d res [(i,ds,u')]) (vZ d [(i,ds,u')])) r=ja (.same ds []):=by
   have h1:(vU E ds r [] tr tr) r=ja (.same ds []):=by simp[vU,Env.app,Wr.find,d3]
   have h2:(cWr d res [(i,ds,u')]).find r=jb:=by simp[cWr,Wr.find,d2,d3]
   have h3:(T.same ds []).okB (vZ d [(i,ds,u')])=jc:=by simp[T.okB,kG,vZ,d1,p5]
   simp only[Env.app,h2,h1,h3,if_true]
  have m6:((vU E ds r [] tr tr).app (cWr d res [(i,ds,u')]) (vZ d [(i,ds,u')])) ds=ja u':=by simp[Env.app,Wr.find,cWr,d1]
  have:=zLa (P:=P) (Γ:=Γ.at S) (E:=E) (o:=⟨ja d,.call { callee:=.value (.func f),args:=xs.toArray,argTypes:=ats },ty,ps,af,gd⟩) f (.func f) xs ats us res i ds r [] tr tr u' rfl rfl (yK s1) gr rfl hs hr hq u3 eK d3 d2 (tA s7 _).1 (tA s7 []).2.1
   (vU E ds r [] tr tr) _ rfl rfl hc gc (.one d1 hx eA v3 cV t9 u3 hu) gm (.same ds []) (.same ds []) pZ rfl rfl m6 eA v3 (by simp[T.okB,kG]) rfl (tA s6 _).1 v2
  rw[Lg,mG]at this ⊢
  exact this
 ·have ia:q.reverse≠[]:=by simpa using tn
  have t9:(vU E ds r q tr u) ds=ja u:=by simp[vU,Env.app,Wr.find]
  have j5:=zRO s7 q.reverse (u:=.any) ia;have pZ:((vU E ds r q tr u).app (cWr d res [(i,ds,u')]) (vZ d [(i,ds,u')])) r=ja (tr.set q.reverse .any):=by
   have h1:(vU E ds r q tr u) r=ja (tr.set q.reverse .any):=by simp[vU,Env.app,Wr.find,d3,tn]
   have h2:(cWr d res [(i,ds,u')]).find r=jb:=by simp[cWr,Wr.find,d2,d3]
   simp[Env.app,h2,h1,(tA j5 _).1]
  have m6:((vU E ds r q tr u).app (cWr d res [(i,ds,u')]) (vZ d [(i,ds,u')])) ds=ja u':=by simp[Env.app,Wr.find,cWr,d1]
  have:=zLa (P:=P) (Γ:=Γ.at S) (E:=E) (o:=⟨ja d,.call { callee:=.value (.func f),args:=xs.toArray,argTypes:=ats },ty,ps,af,gd⟩) f (.func f) xs ats us res i ds r q tr u u' rfl rfl (yK s1) gr rfl hs hr hq u3 eK d3 d2 (tA s7 _).1 (tA s7 []).2.1
   (vU E ds r q tr u) _ rfl rfl hc gc (.one d1 hx eA v3 cV t9 u3 hu) gm (tr.set q.reverse .any) .any pZ (zJM _ _ _ _ hq) rfl m6 eA v3 (tA j5 _).1 (tA j5 []).2.1 (tA s6 _).1 v2
  rw[set_set _ _ _ _ _ hq]at this;exact this
theorem zG8{f:FuncId}{xs:List Operand}{ats:Array TypeId}{us res:List T}{xf:Operand}(hf:opT E xf=ja (.lit (.func (.func f) #[] #[])))(gr:kX P f)(hc:FnC P f us res [])(gc:xW E [] 0 xs us)(gm:qL res)(sd:J7 d Γ.N=jc):
  Ok P Γ ⟨ja d,.call { callee:=.value xf,args:=xs.toArray,argTypes:=ats },ty,ps,af,gd⟩ E (E.app (cWr d res []) (vZ d [])):=
 fun _=>zJG f xf xs ats us res [] rfl rfl (yK sd) gr hf hc gc .nil gm
def zC0(E:Env):List Operand→List T→Prop
 | [],[]=>True
 |x::xs,u::us=>(opT E x=ja u∧u.flat=jc)∧zC0 E xs us
 |_,_=>False
theorem afN:zC0 E [] []:=trivial
theorem afC{x:Operand}{xs:List Operand}{u:T}{us:List T}(h:opT E x=ja u)(h1:u.flat=jc)(h2:zC0 E xs us):zC0 E (x::xs) (u::us):=⟨⟨h,h1⟩,h2⟩
theorem zC0.get:(xs:List Operand)→(us:List T)→zC0 E xs us→ ∀(i:Nat) u,us[i]? =ja u→ ∃x,xs[i]? =ja x∧opT E x=ja u∧u.flat=jc
 | [],[],_,i,u,h=>by simp at h
 |x::xs,v::us,h,i,u,hi=>by
  cases i with
  |zero=>simp at hi;subst hi;exact⟨x,by simp,h.1⟩
  |succ i=>obtain⟨y,h1,h2⟩:=zC0.get xs us h.2 i u (by simpa using hi);exact⟨y,by simpa using h1,h2⟩
 | [],_::_,h,_,_,_=>by simp[zC0]at h
 |_::_,[],h,_,_,_=>by simp[zC0]at h
theorem kD{f:FuncId}{xs:List Operand}{ats:Array TypeId}{us res:List T}(gr:kX P f)(hc:FnC P f us res [])(ha:zC0 E xs us)(gj:xs.length=us.length)(gm:xJ res)(gW:yU res=jc)(sd:J7 d Γ.N=jc):
  Ok P Γ ⟨ja d,.call { callee:=.value (.func f),args:=xs.toArray,argTypes:=ats },ty,ps,af,gd⟩ E (E.app (cWr d res []) (vZ d [])):=
 zUN gr hc gj (zC0.get _ _ ha) ⟨gm,gW⟩ sd
end
noncomputable def zD8 {α:Type} (g:Nat→Option α):Option α:=
 open Classical in if h:∃r,∃n,∀m,n≤m→g m=ja r then ja h.choose else jb
theorem jU{α:Type}{g:Nat→Option α}{r:α}(h:zD8 g=ja r):∃n,g n=ja r:=by
 unfold zD8 at h;split at h
 ·rename_i he
  simp at h;obtain⟨n,hn⟩:=he.choose_spec;exact⟨n,by rw[←h];exact hn n (Jo _)⟩
 ·cases h
theorem zBv{α:Type}{g:Nat→Option α}{r:α}(n:Nat)(h:∀m,n≤m→g m=ja r):zD8 g=ja r:=by have he:∃r,∃n,∀m,n≤m→g m=ja r:=⟨r,n,h⟩;unfold zD8;rw[dif_pos he];obtain⟨n',hn'⟩:=he.choose_spec;have h1:=h (max n n') (by omega);have h2:=hn' (max n n') (by omega);rw[h1]at h2;exact h2.symm
end Go.Ab

namespace Go.Ab
open Go
section
variable {P:Program}{Γ:Ctx}{ops:Array Oper}{o:Oper}{E:Env}
theorem zY.skipW{d:Nat}(hd:o.dst=ja d)(sd:J7 d Γ.N=jc)(hw:∀(a:Act)(w:World),jA Γ E a w→Region.wanted o (yielded ops a.tmps)=jd):zY P Γ ops o E (E.app [(d,ja (.tup []))] [(d,0)]):=by
 intro a w K Q hs hK;rw[if_neg (by simp[hw a w hs])];obtain⟨S,hS,gQ,G,g9⟩:=hs;refine hK _ _ ⟨S,hS,by rw[hd];exact gQ,G.put d (fun _=>.bool jd),?_⟩ ?_
 ·rw[hd]
  have hu:(Value.bool jd).oneCell'=jc:=rfl;refine vH g9 (by simp[Act.put]) (G.put_keep rfl d _) (g9.mem.put rfl d _ fun _=>hu) ?_ ?_
  ·intro s hs
   rw[tV]at hs;split at hs
   ·cases hs
   ·rename_i gf
    refine⟨fun n hn=>gf (by simp at hn;exact hn.1.symm),?_⟩;simp[Act.put,H3 gf]
  ·intro s t' hs
   rw[tV]at hs;split at hs
   ·rename_i e;subst e
    simp at hs;subst hs;have gv:=g9.size;have gz:=yK sd;refine⟨?_,by simp[R,RF],by simp[Top,vP]⟩;have:d<a.tmps.size:=by rw[gv];exact gz
    simp[Act.put,mkV,qZ,undef,this]
   ·cases hs
 ·intro s hs
  rw[hd]at hs ⊢
  have:d≠s:=fun e=>hs (by rw[e])
  simp[Act.put,H3 this]
theorem zY.skip2{d:Nat}(g:Nat)(b b':Bool)(s:Nat)(hd:o.dst=ja d)(sd:J7 d Γ.N=jc)(fX:(b==b')=jd)(hg:o.guard=ja (g,b))(gu:(ops[g]?).bind (·.dst)=ja s)(hb:E s=ja (.lit (.bool b'))):
  zY P Γ ops o E (E.app [(d,ja (.tup []))] [(d,0)]):=.skipW hd sd fun a w hs=>by
 simp only[Region.wanted,hg,zHm hs gu hb];cases b<;>cases b'<;>simp_all
theorem zY.skip3{d:Nat}(g:Nat)(b:Bool)(s:Nat)(hd:o.dst=ja d)(sd:J7 d Γ.N=jc)(hg:o.guard=ja (g,b))(gu:(ops[g]?).bind (·.dst)=ja s)(hb:E s=ja (.tup [])):
  zY P Γ ops o E (E.app [(d,ja (.tup []))] [(d,0)]):=.skipW hd sd fun a w hs=>by
 obtain⟨_,_,_,G,hr⟩:=hs;obtain⟨h1,_,_⟩:=hr.ent s _ hb;simp only[Region.wanted,hg,yielded,gu,Option.bind_some,h1,mkV,qZ];rfl
theorem zY.opE{E1 E':Env}(h:Ok P Γ o E E1)(e:E1=E')(hg:o.guard=jb:=by rfl):zY P Γ ops o E E':=e▸zY.op h hg
theorem zY.guardE{E1 E':Env}(g:Nat)(b:Bool)(s:Nat)(h:Ok P Γ o E E1)(hg:o.guard=ja (g,b))(gu:(ops[g]?).bind (·.dst)=ja s)(hb:E s=ja (.lit (.bool b)))(e:E1=E'):zY P Γ ops o E E':=e▸zY.guard g b s h hg gu hb
end
def uH(Γ:Ctx)(P:Program)(rs:Array ResultVar)(us res:List T)(rws:List (Nat×T)):Exit→Env→Prop:=fun e E=> ∃E',zO Γ E E'∧zYK P rs us res rws e E'
theorem FnC.of_bodyG{P:Program}{f:FuncId}{fn:Func}{c:Code}{us res:List T}{rws:List (Nat×T)}(hf:P.funcs[f]? =ja fn)(hb:fn.body=ja c)(hn:us.length≤fn.ntmps)(ht:vP us)(hr:rws.all (fun x=>decide (x.1<us.length))=jc)
  (h:∀(Γ:Ctx)(v:Nat→Value),Γ.N=fn.ntmps→CW P Γ (zCw v (rws.map (·.1))) c (yW (zI5 0 us)) (uH Γ P fn.results us res rws)):FnC P f us res rws:=by
 refine FnC.of_body hf hb hn ht hr fun Γ v hN=>?_
 intro a w Q' hs hp hQ;refine h Γ v hN a w Q' hs hp ?_
 rintro e E a' w' ⟨E',hg,hq⟩ gI fp
 exact hQ e E' a' w' hq (hg a' w' gI) fp
def zUP(t:T):Prop:=yD t∧wQ t=jc∧strip t=t∧t.okTup=jc∧zFp t=jc
def zRP:List T→Prop
 | []=>True
 |x::xs=>zUP x∧zRP xs
theorem Enc.t{α:Type}{f:α→T}(h:Enc f)(x:α):zUP (f x):=⟨h.clean x,h.rofree x,h.strip x,h.okTup x,h.rook x⟩
theorem Enc.of{α:Type}{f:α→T}(h:∀x,zUP (f x)):Enc f:=⟨fun x=>(h x).1,fun x=>(h x).2.1,fun x=>(h x).2.2.1,fun x=>(h x).2.2.2.1,fun x=>(h x).2.2.2.2⟩
theorem zNg{xs:List T}(h:zRP xs):zUP (.agg xs):=by
 have key:∀xs:List T,zRP xs→xJ xs∧vT xs=jc∧wV xs=xs∧yU xs=jc∧zBo xs=jc:=by
  intro xs
  induction xs with
  |nil=>intro _;exact⟨trivial,rfl,rfl,rfl,rfl⟩
  |cons x xs ih=>
   rintro⟨⟨h1,h2,h3,h4,h5⟩,h⟩
   obtain⟨g1,g2,g3,g4,g5⟩:=ih h;exact⟨⟨h1,g1⟩,by simp only[vT,h2,g2,Kz],by simp only[wV,h3,g3],by simp only[yU,h4,g4,Kz],by simp only[zBo,h5,g5,Kz]⟩
 obtain⟨g1,g2,g3,g4,g5⟩:=key xs h;exact⟨yL g1,by simp only[wQ,g2],by simp only[strip,g3],by simp only[T.okTup,g4],by simp only[zFp,g5]⟩
end Go.Ab

namespace Go.Ab
open Go
section
variable {Γ:Ctx}{E:Env}{d:Nat}
def Gh.cut(G:Gh)(d s0 b lo hi:Nat)(v:Value):Gh where
 hd s z:=if s=d then(if z=[]then v else G.hd s0 z)else G.hd s z
 ad s z:=if s=d then G.ad s0 z else G.ad s z
 lb b' o:=if b'=b∧lo≤o∧o<hi then ja (jc,d,[])else match G.lb b' o with
  |some (f,s,z)=>if s=s0 then ja (f,d,z)else ja (f,s,z)
  |none=>jb
 ow b':=match G.ow b' with
  |some (s,z)=>if s=s0 then ja (d,z)else ja (s,z)
  |none=>jb
theorem zOE{G:Gh}{tmps:Array Value}{w:World}(g9:Rep Γ E G tmps w)(hd:d<Γ.N){s0 k h cap':Nat}{xs:List T}(eE:E s0=ja (.sl k xs))(gf:s0≠d)(hk:0<k)
  {b cap:Nat}{cs:Array Value}{e:TypeId}(h1:G.hd s0 []=.slice (ja ⟨b,0,jb⟩) xs.length cap)(h2:w.heap[b]? =ja (.cells cs e (0,0)))(_h3:xs.length≤cap)(h4:cap≤maxLen)(h5:cap*k≤cs.size)(h6:G.ow b=ja (s0,[]))
  (h7:∀o,xs.length*k≤o→o<cap*k→G.lb b o=ja (jc,s0,[]))(h8:RL Γ.St G w s0 xs [] 0 b 0 k)(hh:h≤xs.length)(hc:h≤cap')(cQ:cap'≤cap):
  ∃G',Rep Γ (E.app [(d,ja (.sl k (xs.take h))),(s0,ja .any)] [(d,0),(s0,1)]) G' (tmps.setIfInBounds d (.slice (ja ⟨b,0,jb⟩) h cap')) w:=by
 have hm:=g9.mem;obtain⟨e1,_,e3⟩:=g9.ent s0 _ eE
 let v:Value:=.slice (ja ⟨b,0,jb⟩) h cap'
 let G':=G.cut d s0 b (h*k) (cap'*k) v
 have gK:=hm.ow b _ h6;have mP:∀o f z i,h*k≤o→o<cap'*k→G.lb b o=ja (f,s0,z++[i])→h≤i:=by
  intro o f z i ma pN hl
  by_cases ho:o<xs.length*k
  ·have hj:o/k<xs.length:=(Hp hk).2 ho
   obtain⟨g1,g2,_⟩:=jM xs [] 0 b 0 k (o/k) xs[o/k] h8 (by simp[hj]);obtain⟨y,hy⟩:=zJ6 xs[o/k] _ b _ (o%k) g1 (by rw[g2];exact Gm _ hk);rw[Jg,Jg,H4,Ha,hl]at hy;simp only[L8.injEq,Jb2.injEq]at hy;have:=hy.2.2;have hi:i=o/k:=by have:=congrArg List.getLast? this;simpa using this
   rw[hi];exact(Nat.le_div_iff_mul_le hk).2 ma
  ·have:=h7 o (by omega) (by have:=Kl k cQ;omega)
   rw[hl]at this;simp at this
 have glb:∀b' o f z,G.lb b' o=ja (f,s0,z)→ ¬(b'=b∧h*k≤o∧o<cap'*k)→G'.lb b' o=ja (f,d,z):=fun b' o f z hl hn=>by show(if _ then _ else _)=_;rw[if_neg hn];simp[hl]
 have gow:∀b' z,G.ow b'=ja (s0,z)→G'.ow b'=ja (d,z):=fun b' z hl=>by simp[G',Gh.cut,hl]
 have mv:∀i,i<h→zII G w G' w s0 [i] d [i]:=fun i hi=>by
  have hn:∀b' o f z,G.lb b' o=ja (f,s0,z++[i])→ ¬(b'=b∧h*k≤o∧o<cap'*k):=by
   rintro b' o f z hl ⟨rfl,ma,pN⟩
   have:=mP o f z i ma pN hl;omega
  refine⟨⟨fun z=>by simp[G',Gh.cut],fun z _=>by simp[G',Gh.cut],fun b' o f z _ _ hl=>⟨glb _ _ _ _ hl (hn _ _ _ _ hl),rfl⟩,fun b' z _ hl=>gow _ _ hl,fun b' cs' e' hb=>⟨cs',hb,rfl⟩⟩,fun b' o _ hl=>⟨glb _ _ _ _ hl (hn b' o jc [] (by simpa using hl)),rfl⟩,fun b' hl=>gow _ _ hl⟩
 have gA:qU [(d,0),(s0,1)] G w G' w:=by
  refine⟨fun s p ho=>?_,fun s p ho=>?_,fun b' o f s p ei hl hs=>?_,fun b' s p hl hs=>?_,fun b' cs' e' hb=>⟨cs',hb,rfl⟩⟩
  ·have:s≠d:=fun e=>absurd (ho 0 (by simp[e])) (by simp)
   simp[G',Gh.cut,this]
  ·have:s≠d:=fun e=>absurd (ho 0 (by simp[e])) (by simp)
   simp[G',Gh.cut,this]
  ·have f9:s≠s0:=fun e=>hs 1 (by simp[e])
   obtain⟨y,hy⟩:=ei;have fX:b'≠b:=by
    rintro rfl
    rw[h6]at hy;simp at hy;exact f9 hy.1.symm
   refine⟨?_,rfl⟩;show(if _ then _ else _)=_;rw[if_neg (fun hn=>fX hn.1)];simp[hl,f9]
  ·have f9:s≠s0:=fun e=>hs 1 (by simp[e])
   simp[G',Gh.cut,hl,f9]
 have gx:Mem Γ G' w:=by
  refine⟨fun s z=>?_,fun b' o l hl=>?_,fun b' l hl=>?_,hm.st,hm.fr,hm.sz,hm.bk⟩
  ·show(if _ then _ else _:Value).oneCell'=jc
   split
   ·split
    ·rfl
    ·exact hm.one _ _
   ·exact hm.one _ _
  ·change(if _ then _ else _)=_ at hl
   split at hl
   ·rename_i hn;rw[hn.1];exact gK
   ·cases hg:G.lb b' o with
    |none=>simp[hg]at hl
    |some x=>exact hm.lb b' o x hg
  ·cases hg:G.ow b' with
   |none=>simp[G',Gh.cut,hg]at hl
   |some x=>exact hm.ow b' x hg
 refine⟨G',vH g9 (by simp) gA gx ?_ ?_⟩
 ·intro s hs
  have pR:s≠d:=by rintro rfl;simp[Wr.find]at hs
  have cY:s≠s0:=by rintro rfl;simp[Wr.find,gf.symm]at hs
  exact⟨fun n hn=>by simp at hn;rcases hn with h|h;exact pR h.1;exact cY h.1,by rw[Jf];simp[pR.symm]⟩
 ·intro s t' hs
  by_cases f9:s=d
  ·subst f9
   simp[Wr.find]at hs;subst hs;have gj:(xs.take h).length=h:=by simp;omega
   simp only[Top]at e3;have hkc:∀ys:List T,xJ ys→ ∀n,xJ (ys.take n):=by
    intro ys
    induction ys with
    |nil=>intro _ n;simp[xJ,wB]
    |cons y ys ih=>intro hy n;cases n with
     |zero=>simp[xJ,wB]
     |succ n=>exact⟨hy.1,ih hy.2 n⟩
   refine⟨?_,?_,by simp only[Top];exact hkc xs e3 h⟩
   ·rw[Jf]
    simp[g9.size,hd,mkV,G',Gh.cut,v]
   ·simp only[R]
    refine .inr ⟨b,cap',cs,e,by rw[gj];simp[G',Gh.cut,v],h2,by omega,by omega,by have:=Kl k cQ;omega,gow b _ h6,fun o ma pN=>?_,?_⟩
    ·rw[gj]at ma
     show(if _ then _ else _)=_;rw[if_pos ⟨rfl,ma,pN⟩]
    ·refine zJ8 _ [] 0 b 0 fun i x hx=>?_
     rw[H5]at hx;split at hx
     ·rename_i hi
      obtain⟨g1,g2,g3⟩:=jM xs [] 0 b 0 k i x h8 hx;rw[Jg]at g1 g3 ⊢
      refine⟨?_,g2,zAf (mv i hi) x (xE.mono (fun _ _=>False.elim) _ (uN xs e3 i x hx)) g3⟩;refine zHb x [i] [i] b _ (fun z=>by simp[G',Gh.cut]) (fun z=>by simp[G',Gh.cut]) (fun b' o z hl=>⟨glb _ _ _ _ hl ?_,rfl⟩) g1
      rintro⟨rfl,ma,pN⟩
      have:=mP o jd z i ma pN hl;omega
     ·cases hx
  ·have h9:s=s0∧t'=.any:=by
    simp only[Wr.find]at hs;rw[if_neg (fun h=>f9 h.symm)]at hs;split at hs
    ·rename_i h;simp at hs;exact⟨h.symm,hs.symm⟩
    ·cases hs
   obtain⟨rfl,rfl⟩:=h9;refine⟨?_,by simp only[R],by simp[Top]⟩;rw[Jf];simp only[Ne.symm f9,if_false,mkV];rw[e1,xV rfl];simp[G',Gh.cut,f9]
theorem zRQ{G:Gh}{tmps:Array Value}{w:World}(g9:Rep Γ E G tmps w)(hd:d<Γ.N){s0 k:Nat}(eE:E s0=ja (.sl k []))(gf:s0≠d)(a:Option Addr):
  ∃G',Rep Γ (E.app [(d,ja (.sl k [])),(s0,ja .any)] [(d,0),(s0,1)]) G' (tmps.setIfInBounds d (.slice a 0 0)) w:=by
 obtain⟨e1,_,_⟩:=g9.ent s0 _ eE;refine⟨G.put d (fun _=>.slice a 0 0),?_⟩;have hk:qU [(d,0),(s0,1)] G w (G.put d fun _=>.slice a 0 0) w:=by have h0:=G.put_keep (w:=w) (w':=w) rfl d (fun _=>.slice a 0 0);refine⟨fun s p ho=>h0.hd s p (fun n hn=>ho n (by simp at hn ⊢;exact .inl hn)),fun s p ho=>h0.ad s p (fun n hn=>ho n (by simp at hn ⊢;exact .inl hn)),fun b o f s p h1 h2 h3=>h0.lb b o f s p h1 h2 (fun n hn=>h3 n (by simp at hn ⊢;exact .inl hn)),fun b s p h1 h3=>h0.ow b s p h1 (fun n hn=>h3 n (by simp at hn ⊢;exact .inl hn)),h0.blk⟩
 refine vH g9 (by simp) hk (g9.mem.put rfl d _ (fun _=>rfl)) ?_ ?_
 ·intro s hs
  have pR:s≠d:=by rintro rfl;simp[Wr.find]at hs
  have cY:s≠s0:=by rintro rfl;simp[Wr.find,gf.symm]at hs
  exact⟨fun n hn=>by simp at hn;rcases hn with h|h;exact pR h.1;exact cY h.1,by rw[Jf];simp[pR.symm]⟩
 ·intro s t' hs
  by_cases f9:s=d
  ·subst f9
   simp[Wr.find]at hs;subst hs;refine⟨by rw[Jf];simp[g9.size,hd,mkV,Gh.put],by simp only[R];exact .inl ⟨trivial,a,by simp[Gh.put]⟩,by simp[Top,xJ,wB]⟩
  ·have h9:s=s0∧t'=.any:=by
    simp only[Wr.find]at hs;rw[if_neg (fun h=>f9 h.symm)]at hs;split at hs
    ·rename_i h;simp at hs;exact⟨h.symm,hs.symm⟩
    ·cases hs
   obtain⟨rfl,rfl⟩:=h9;refine⟨?_,by simp only[R],by simp[Top]⟩;rw[Jf];simp only[Ne.symm f9,if_false,mkV];rw[e1,xV rfl];simp[Gh.put,f9]
end
section
variable {P:Program}{Γ:Ctx}{pn:jR}{E E':Env}{Q:Exit→Env→Prop}{d:Nat}{x y:Operand}{ty:TypeId}{ps:String}{af:Array Edge}{gd:Option (Nat×Bool)}
theorem zWs{α:Type}{t e:TypeId}{ti:TypeInfo}{s0 k:Nat}{f:α→T}{xs ys:List α}{mx:Option Operand}{h:Int}{u:T}(ht:ElT P t e ti k u)(hv:yA xs 0 h=ja ys)(h0:E s0=ja (L k f xs))(hy:opT E y=ja (I h))(hmx:mx=jb∨ ∃z,mx=ja z∧opT E z=ja (I h))(sd:(J7 d Γ.N&&(s0 != d))=jc):
  Ok P Γ ⟨ja d,.slice t (.tmp s0) jb (ja y) mx,ty,ps,af,gd⟩ E (E.app [(d,ja (L k f ys)),(s0,ja .any)] [(d,0),(s0,1)]):=by
 obtain⟨_,ah,p6,rfl⟩:=sS hv;simp only[J4]at sd;have gf:s0≠d:=by simpa using sd.2
 obtain⟨n,rfl⟩:∃n:Nat,h=n:=⟨h.toNat,by omega⟩;have hn:n≤xs.length:=by omega
 intro S;refine wN.value rfl fun a w G g9=>?_
 obtain⟨e1,e2,_⟩:=g9.ent s0 _ h0;have fy:=(wO g9 hy).1;have bV:a.eval (.tmp s0)=G.hd s0 []:=by rw[wK e1,xV rfl]
 have m8:=ht.un;have gJ:=ht.info;have gv:=ht.size;have bI:List.map f ((xs.drop (0:Int).toNat).take ((n:Int).toNat-(0:Int).toNat))=(xs.map f).take n:=by simp[Qu]
 rw[show L k f ((xs.drop (0:Int).toNat).take ((n:Int).toNat-(0:Int).toNat))=.sl k ((xs.map f).take n)by simp only[L,bI]];have e2':=e2;simp only[R]at e2;rcases e2 with⟨fH,ad,h1⟩|⟨b,cap,cs,e',h1,h2,h3,h4,h5,h6,h7,h8⟩
 ·have eT:xs=[]:=by simpa using fH
  subst eT;simp at hn;subst hn;obtain⟨G',gn⟩:=zRQ g9 (yK sd.1) (k:=k) (by rw[h0];rfl) gf ad;refine⟨_,w,?_,G',by simpa using gn⟩;rcases hmx with rfl|⟨z,rfl,hz⟩
  ·simp[execOp,Instr.sliceAt,Instr.slice,run_underlying m8,bV,h1,fy,sizeOf,typeInfo,gJ,Instr.sliceBounds,Instr.sliceBound,asIntOf]
  ·have mV:=(wO g9 hz).1
   simp[execOp,Instr.sliceAt,Instr.slice,run_underlying m8,bV,h1,fy,mV,sizeOf,typeInfo,gJ,Instr.sliceBounds,Instr.sliceBound,asIntOf]
 ·rw[Jd]at h1 h3
  have fK:n≤cap:=by omega
  have cO:cap=0→n=0:=by omega
  rcases hmx with rfl|⟨z,rfl,hz⟩
  ·obtain⟨G',gn⟩:=zOE g9 (yK sd.1) h0 gf ht.pos (by rw[Jd];exact h1) h2 (by rw[Jd];exact h3) h4 h5 h6 h7 h8 (h:=n) (cap':=cap) (by simpa using hn) fK (Jo _)
   refine⟨_,w,?_,G',gn⟩;simp[execOp,Instr.sliceAt,Instr.slice,run_underlying m8,bV,h1,fy,sizeOf,typeInfo,gJ,Instr.sliceBounds,Instr.sliceBound,asIntOf,fK,uO]
  ·have mV:=(wO g9 hz).1
   obtain⟨G',gn⟩:=zOE g9 (yK sd.1) h0 gf ht.pos (by rw[Jd];exact h1) h2 (by rw[Jd];exact h3) h4 h5 h6 h7 h8 (h:=n) (cap':=n) (by simpa using hn) (Jo _) fK;refine⟨_,w,?_,G',gn⟩;simp[execOp,Instr.sliceAt,Instr.slice,run_underlying m8,bV,h1,fy,mV,sizeOf,typeInfo,gJ,Instr.sliceBounds,Instr.sliceBound,asIntOf,fK,uO]
end
end Go.Ab

namespace Go.Ab
open Go
section
variable {P:Program}{Γ:Ctx}{pn:jR}{E E':Env}{Q:Exit→Env→Prop}{d:Nat}{x y:Operand}{ty:TypeId}{ps:String}{af:Array Edge}{gd:Option (Nat×Bool)}{ops:Array Oper}{os:List Oper}
theorem zPU{P:Program}{w:World}{t e:TypeId}{a:Option Addr}{n c:Nat}(m:Nat)(h:P.underlying t=ja (.slice e)):(Op.equalIn (m+1) t (.slice a n c) (.slice jb 0 0)).run P w=.ok a.isNone w:=by simp only[Op.equalIn,Sem.run_bind,run_underlying h];cases a<;>rfl
theorem RW.isnil{α:Type}{xt yt e:TypeId}{r k:Nat}{q:List Nat}{f:α→T}{xs:List α}{u:T}(hu:P.underlying xt=ja (.slice e))(hx:tK E x=ja (r,q,u))(pb:u=.ro (L k f xs)∨u=L k f xs)(sd:J7 d Γ.N=jc)(hp:pn.ok (ja d)=jc)
  (h:∀b,(b=jc→xs=[])→RW P Γ pn ops os (E.app [(d,ja (B b))] [(d,0)]) Q):RW P Γ pn ops (⟨ja d,.binOp .eql xt x (.const (.slice jb 0 0)) yt,ty,ps,af,jb⟩::os) E Q:=by
 intro a w Q' hs fT hQ;obtain⟨S,hS,gQ,G,g9⟩:=id hs;have ff:u.single=jc:=by rcases pb with rfl|rfl<;>rfl
 obtain⟨h1,h2⟩:=jB g9 hx ff;obtain⟨ad,n,c,h3,h4⟩:∃ad n c,a.eval x=.slice ad n c∧(ad.isNone=jc→xs=[]):=by
  rcases pb with rfl|rfl
  ·obtain⟨ad,c,g1,_,_,g2⟩:=zCW h1
   refine⟨ad,_,c,by rw[h2,g1],fun hn=>?_⟩;apply Classical.byContradiction;intro gf;obtain⟨b,o',_,_,_,rfl,_⟩:=g2 (by simpa using gf);simp at hn
  ·simp only[R]at h1
   rcases h1 with⟨g1,ad,g2⟩|⟨b,cap,cs,e',g1,_⟩
   ·exact⟨ad,0,0,by rw[h2,g2],fun _=>by simpa using g1⟩
   ·exact⟨_,_,_,by rw[h2,g1],fun hn=>by simp at hn⟩
 have gy:(execOp a.eval ⟨ja d,.binOp .eql xt x (.const (.slice jb 0 0)) yt,ty,ps,af,jb⟩).run P w=.ok (.value (.bool ad.isNone)) w:=by have h5:(Op.equalIn 10000 xt (.slice ad n c) (.slice jb 0 0)).run P w=.ok ad.isNone w:=zPU 9999 hu;have h6:a.eval (.const (.slice jb 0 0))=.slice jb 0 0:=rfl;simp[execOp,h3,h6,eqGuard,binOp,zLi,h5]
 simp only[wpL,Region.wanted,if_true];refine .inl ?_;unfold Oper.wp;rw[gy,Oper.upon_value];have fR:=vN g9 rfl (yK sd) (fun _=>.bool ad.isNone) (fun _=>rfl) (B ad.isNone) (.bool ad.isNone) (by simp[mkV,Gh.put]) (by simp[R,Gh.put]) (by simp[Top]);refine h ad.isNone h4 _ w Q' ⟨S,hS,gQ,_,fR⟩ ?_ hQ;refine fT.frame hp fun s gI=>?_
 have:d≠s:=fun e=>gI (by rw[e])
 simp[Act.put,H3 this]
theorem zLm{t e:TypeId}(hu:P.underlying t=ja (.slice e))(hx:opT E x=ja (.lit (.slice jb 0 0)))(sd:J7 d Γ.N=jc):Ok P Γ ⟨ja d,.call { callee:=.builtin .len,args:=#[x],argTypes:=#[t] },ty,ps,af,gd⟩ E (E.app [(d,ja (I 0))] [(d,0)]):=by
 intro S;refine zAW (.int .i64 0) rfl rfl (yK sd) fun a w G g9=>?_
 have h1:=(wO g9 hx).1;simp[execOp,resolve,invoke,builtin,h1,Builtin.len_,run_underlying hu,goInt]
theorem zLn{t e:TypeId}(hu:P.underlying t=ja (.slice e))(hx:opT E x=ja (.lit (.slice jb 0 0)))(sd:J7 d Γ.N=jc):Ok P Γ ⟨ja d,.call { callee:=.builtin .cap,args:=#[x],argTypes:=#[t] },ty,ps,af,gd⟩ E (E.app [(d,ja (I 0))] [(d,0)]):=by
 intro S;refine zAW (.int .i64 0) rfl rfl (yK sd) fun a w G g9=>?_
 have h1:=(wO g9 hx).1;simp[execOp,resolve,invoke,builtin,h1,Builtin.cap_,run_underlying hu,goInt]
theorem zUQ{t e:TypeId}{ti:TypeInfo}{u:T}{k:Nat}(ht:ElT P t e ti k u)(hx:opT E x=ja (.lit (.slice jb 0 0)))(hy:opT E y=ja (I 0))(sd:J7 d Γ.N=jc):Ok P Γ ⟨ja d,.slice t x jb (ja y) jb,ty,ps,af,gd⟩ E (E.app [(d,ja (.sl k []))] [(d,0)]):=by
 intro S;refine wN.value rfl fun a w G g9=>?_
 have h1:=(wO g9 hx).1;have h2:=(wO g9 hy).1;refine⟨.slice jb 0 0,w,?_,_,vN g9 rfl (yK sd) (fun _=>.slice jb 0 0) (fun _=>rfl) (.sl k []) (.slice jb 0 0) (by simp[mkV,Gh.put]) (by simp[R,Gh.put]) (by simp[Top,xJ,wB])⟩;simp[execOp,Instr.sliceAt,Instr.slice,run_underlying ht.un,h1,h2,sizeOf,typeInfo,ht.info,Instr.sliceBounds,Instr.sliceBound,asIntOf]
theorem zO.nil(s k:Nat)(hs:E s=ja (.lit (.slice jb 0 0))):zO Γ E (E.app [(s,ja (.sl k []))] [(s,0)]):=by
 rintro a w ⟨S,hS,gQ,G,g9⟩
 refine⟨S,hS,gQ,G,?_⟩;have hk:qU [(s,0)] G w G w:=⟨fun _ _ _=>rfl,fun _ _ _=>rfl,fun _ _ _ _ _ _ h _=>⟨h,rfl⟩,fun _ _ _ h _=>h,fun b cs e h=>⟨cs,h,rfl⟩⟩;refine vH g9 rfl hk g9.mem (fun s' gI=>⟨fun n hn=>?_,rfl⟩) fun s' t gI=>?_
 ·simp at hn
  simp[Wr.find,hn.1]at gI
 ·simp only[Wr.find]at gI
  split at gI
  ·rename_i e;subst e
   simp at gI;subst gI;obtain⟨h1,h2,_⟩:=g9.ent s _ hs;simp only[R]at h2;exact⟨by rw[h1];rfl,by simp only[R];exact .inl ⟨trivial,jb,h2⟩,by simp[Top,xJ,wB]⟩
  ·cases gI
theorem zJN{src dst:TypeId}{ds:TypeDesc}{k k':IntKind}{n:Int}(hs:P.underlying src=ja ds)(ht:P.underlying dst=ja (.int k'))(hx:opT E x=ja (IK k n))(sd:J7 d Γ.N=jc):
  Ok P Γ ⟨ja d,.convert src dst x,ty,ps,af,gd⟩ E (E.app [(d,ja (IK k' (k'.wrap n)))] [(d,0)]):=fun _=>zU9 src dst ds x k k' n rfl rfl (yK sd) hs ht hx
theorem zXm{k:IntKind}{m n:Int}{xt yt:TypeId}(hx:opT E x=ja (IK k m))(hy:opT E y=ja (IK k n))(sd:J7 d Γ.N=jc):Ok P Γ ⟨ja d,.binOp .add xt x y yt,ty,ps,af,gd⟩ E (E.app [(d,ja (IK k (k.wrap (m+n))))] [(d,0)]):=
 fun _=>sE .add xt yt x y k m n _ rfl rfl (yK sd) hx hy rfl
theorem zXn{k:IntKind}{m n:Int}{xt yt:TypeId}(hx:opT E x=ja (IK k m))(hy:opT E y=ja (IK k n))(sd:J7 d Γ.N=jc):Ok P Γ ⟨ja d,.binOp .mul xt x y yt,ty,ps,af,gd⟩ E (E.app [(d,ja (IK k (k.wrap (m*n))))] [(d,0)]):=
 fun _=>sE .mul xt yt x y k m n _ rfl rfl (yK sd) hx hy rfl
theorem zRR{k:IntKind}{m n:Int}{xt yt:TypeId}(hx:opT E x=ja (IK k m))(hy:opT E y=ja (IK k n))(sd:J7 d Γ.N=jc):Ok P Γ ⟨ja d,.binOp .gtr xt x y yt,ty,ps,af,gd⟩ E (E.app [(d,ja (B (decide (m> n))))] [(d,0)]):=
 fun _=>sE .gtr xt yt x y k m n _ rfl rfl (yK sd) hx hy rfl
def zGy(k:IntKind)(m n:Int):Int:=k.wrap ((BitVec.ofInt k.bits m &&& BitVec.ofInt k.bits n).toNat:Int)
theorem zXo{k:IntKind}{m n:Int}{xt yt:TypeId}(hx:opT E x=ja (IK k m))(hy:opT E y=ja (IK k n))(sd:J7 d Γ.N=jc):Ok P Γ ⟨ja d,.binOp .and xt x y yt,ty,ps,af,gd⟩ E (E.app [(d,ja (IK k (zGy k m n)))] [(d,0)]):=by
 intro S;refine zAW (.int k (zGy k m n)) rfl rfl (yK sd) fun a w G g9=>?_
 have h1:=(wO g9 hx).1;have h2:=(wO g9 hy).1;simp[execOp,h1,h2,eqGuard,binOp,Op.intBits,zGy]
theorem zXp{k k':IntKind}{m n:Int}{xt yt:TypeId}(hn:0≤n)(hx:opT E x=ja (IK k m))(hy:opT E y=ja (IK k' n))(sd:J7 d Γ.N=jc):Ok P Γ ⟨ja d,.binOp .shr xt x y yt,ty,ps,af,gd⟩ E (E.app [(d,ja (IK k (m.fdiv (2 ^ (min n.toNat k.bits)))))] [(d,0)]):=by
 intro S;refine zAW (.int k (m.fdiv (2 ^ (min n.toNat k.bits)))) rfl rfl (yK sd) fun a w G g9=>?_
 have h1:=(wO g9 hx).1;have h2:=(wO g9 hy).1;have h3:¬n<0:=by omega
 simp[execOp,h1,h2,eqGuard,binOp,Op.shift,h3]
end
end Go.Ab

namespace Go.Ab
open Go
structure zRS (P:Program) (f:Field) (i:Nat):Prop where
 name:f.name≠ "_"
 off:f.offset=i
 ty:P.underlying f.type=ja (.int .i64)
class zUR (P:Program) (t:TypeId):Prop where
 h:∃f0 f1 f2 f3:Field,P.underlying t=ja (.struct #[f0,f1,f2,f3])∧zRS P f0 0∧zRS P f1 1∧zRS P f2 2∧zRS P f3 3
 st:P.stoodInHeld t=jd
 gd:P.eqGuardType P.depth t=jd
theorem zE9{P:Program}{w:World}{f:Field}{i:Nat}(h:zRS P f i)(cs:Array Value)(v:Value)(hv:cs[i]? =ja v):(part f.type cs f.offset).run P w=.ok v w:=by simp[part,jO h.ty,zFj,h.off,hv]
theorem zRT{P:Program}{w:World}{t:TypeId}(h:zUR P t)(a b c d a' b' c' d':Int)(m:Nat):
  (Op.equalIn (m+2) t (.agg #[.int .i64 a,.int .i64 b,.int .i64 c,.int .i64 d]) (.agg #[.int .i64 a',.int .i64 b',.int .i64 c',.int .i64 d'])).run P w=.ok (a==a'&&(b==b'&&(c==c'&&d==d'))) w:=by
 obtain⟨f0,f1,f2,f3,h1,g0,g1,g2,g3⟩:=h.h;have k0:=fun(x y:Int)=>zG7 (P:=P) (w:=w) (a:=x) (b:=y) m g0.ty
 have k1:=fun(x y:Int)=>zG7 (P:=P) (w:=w) (a:=x) (b:=y) m g1.ty
 have k2:=fun(x y:Int)=>zG7 (P:=P) (w:=w) (a:=x) (b:=y) m g2.ty
 have k3:=fun(x y:Int)=>zG7 (P:=P) (w:=w) (a:=x) (b:=y) m g3.ty
 have gB:=h.st;rw[Op.equalIn];simp only[Sem.run_bind,run_underlying h1];have q0:=fun(a b c d:Int)=>zE9 (w:=w) g0 #[.int .i64 a,.int .i64 b,.int .i64 c,.int .i64 d] (.int .i64 a) rfl
 have q1:=fun(a b c d:Int)=>zE9 (w:=w) g1 #[.int .i64 a,.int .i64 b,.int .i64 c,.int .i64 d] (.int .i64 b) rfl
 have q2:=fun(a b c d:Int)=>zE9 (w:=w) g2 #[.int .i64 a,.int .i64 b,.int .i64 c,.int .i64 d] (.int .i64 c) rfl
 have q3:=fun(a b c d:Int)=>zE9 (w:=w) g3 #[.int .i64 a,.int .i64 b,.int .i64 c,.int .i64 d] (.int .i64 d) rfl
 by_cases e0:a=a'<;>by_cases e1:b=b'<;>by_cases e2:c=c'<;>by_cases e3:d=d'<;>
  simp[gB,g0.name,g1.name,g2.name,g3.name,q0,q1,q2,q3,k0,k1,k2,k3,e0,e1,e2,e3]
section
variable {P:Program}{Γ:Ctx}{E E':Env}{d:Nat}{x y:Operand}{ty:TypeId}{ps:String}{af:Array Edge}{gd:Option (Nat×Bool)}
theorem zXq{t t':TypeId}{s s':Nat}{a b c e a' b' c' e':Int}(h:zUR P t)(hx:E s=ja (.agg [I a,I b,I c,I e]))(hy:E s'=ja (.agg [I a',I b',I c',I e']))(sd:J7 d Γ.N=jc):
  Ok P Γ ⟨ja d,.binOp .eql t (.tmp s) (.tmp s') t',ty,ps,af,gd⟩ E (E.app [(d,ja (B (a==a'&&(b==b'&&(c==c'&&e==e')))))] [(d,0)]):=by
 intro S;refine zAW _ rfl rfl (yK sd) fun A w G g9=>?_
 obtain⟨h1,h2,_⟩:=g9.ent s _ hx;obtain⟨h3,h4,_⟩:=g9.ent s' _ hy;simp only[R,RF]at h2 h4;have e1:A.eval (.tmp s)=.agg #[.int .i64 a,.int .i64 b,.int .i64 c,.int .i64 e]:=by rw[wK h1];simp[mkV,yF,vals,h2]
 have e2:A.eval (.tmp s')=.agg #[.int .i64 a',.int .i64 b',.int .i64 c',.int .i64 e']:=by rw[wK h3];simp[mkV,yF,vals,h4]
 have h5:(Op.equalIn 10000 t (.agg #[.int .i64 a,.int .i64 b,.int .i64 c,.int .i64 e]) (.agg #[.int .i64 a',.int .i64 b',.int .i64 c',.int .i64 e'])).run P w=_:=zRT (w:=w) h a b c e a' b' c' e' 9998;have hg:=h.gd;simp[execOp,e1,e2,eqGuard,binOp,zLi,h5,hg]
end
end Go.Ab

namespace Go.Ab
open Go
abbrev vI(n:Int):Value:=.int .i64 n
section
variable {Γ:Ctx}{E:Env}
theorem zLo{G:Gh}{tmps:Array Value}{w w':World}(g9:Rep Γ E G tmps w){s0:Nat}{xs us:List Int}(eE:E s0=ja (L 1 I xs))(gj:us.length=xs.length)
  {b cap:Nat}{cs cs':Array Value}{e:TypeId}(h1:G.hd s0 []=.slice (ja ⟨b,0,jb⟩) xs.length cap)(h2:w.heap[b]? =ja (.cells cs e (0,0)))(h3:xs.length≤cap)(h4:cap≤maxLen)(h5:cap*1≤cs.size)(h6:G.ow b=ja (s0,[]))
  (h7:∀o,xs.length*1≤o→o<cap*1→G.lb b o=ja (jc,s0,[]))(h8:RL Γ.St G w s0 (xs.map I) [] 0 b 0 1)
  (k1:w'.heap[b]? =ja (.cells cs' e (0,0)))(k2:cs'.size=cs.size)(k3:∀b',b'≠b→w'.heap[b']? =w.heap[b']?)(k4:w'.heap.size=w.heap.size)(ko:w'.os=w.os)(kq:w'.output=w.output)(k5:∀(i:Nat) u,us[i]? =ja u→cs'[i]? =ja (vI u)):
  ∃G',Rep Γ (E.app [(s0,ja (L 1 I us))] [(s0,1)]) G' tmps w':=by
 have hm:=g9.mem;obtain⟨e1,_,_⟩:=g9.ent s0 _ eE;have gK:=hm.ow b _ h6
 let G':Gh:={ G with hd:=fun s z=>if s=s0 then(match z with
  | [i]=>(match us[i]? with
   |some u=>vI u
   |none=>G.hd s0 z)
  |_=>G.hd s0 z)else G.hd s z }
 have hB:Blk w w':=by
  intro b' cs2 e2 hb
  by_cases fX:b'=b
  ·subst fX
   rw[h2]at hb;simp at hb;obtain⟨rfl,rfl⟩:=hb;exact⟨cs',k1,k2⟩
  ·exact⟨cs2,by rw[k3 b' fX];exact hb,rfl⟩
 have gA:qU [(s0,1)] G w G' w':=by
  refine⟨fun s p ho=>?_,fun _ _ _=>rfl,fun b' o f s p ei hl hs=>⟨hl,?_⟩,fun _ _ _ hl _=>hl,hB⟩
  ·by_cases h:s=s0
   ·subst h
    have:p=[]:=Kd (by have:=ho 1 (by simp);omega);subst this;simp[G']
   ·simp[G',h]
  ·have f9:s≠s0:=fun e=>hs 1 (by simp[e])
   obtain⟨y,hy⟩:=ei;have fX:b'≠b:=by
    rintro rfl
    rw[h6]at hy;simp at hy;exact f9 hy.1.symm
   simp[yS,World.cell?,k3 b' fX]
 have gx:Mem Γ G' w':=by
  refine⟨fun s z=>?_,fun b' o l hl=>?_,fun b' l hl=>?_,fun b' x hx=>?_,fun b' h h'=>?_,by rw[k4];exact hm.sz,hm.bk.trans hB ko kq⟩
  ·show(if _ then _ else _:Value).oneCell'=jc
   split
   ·split
    ·split
     ·rfl
     ·exact hm.one _ _
    ·exact hm.one _ _
   ·exact hm.one _ _
  ·have:=hm.lb b' o l hl;exact⟨by rw[k4];exact this.1,this.2⟩
  ·have:=hm.ow b' l hl;exact⟨by rw[k4];exact this.1,this.2⟩
  ·have:b'≠b:=by rintro rfl;rw[gK.2.2]at hx;cases hx
   rw[k3 b' this];exact hm.st b' x hx
  ·have:b'≠b:=by
    rintro rfl
    rcases gK.2.1 with h0|h0
    ·omega
    ·exact h' h0
   rw[k3 b' this];exact hm.fr b' h h'
 refine⟨G',vH g9 rfl gA gx ?_ ?_⟩
 ·intro s hs
  rw[tV]at hs;split at hs
  ·cases hs
  ·rename_i gf
   exact⟨fun n hn=>gf (by simp at hn;exact hn.1.symm),rfl⟩
 ·intro s t' hs
  rw[tV]at hs;split at hs
  ·rename_i he;subst he
   simp at hs;subst hs;refine⟨by rw[e1];simp[mkV,G'],?_,by simp only[Top];exact zDV zOB us⟩;simp only[R];refine .inr ⟨b,cap,cs',e,by simp[G',h1,gj],k1,by simp[gj];exact h3,h4,by omega,h6,fun o ma pN=>h7 o (by simpa[gj]using ma) pN,?_⟩;refine zJ8 _ [] 0 b 0 fun i x hx=>?_
   rw[K1,Lf]at hx;obtain⟨u,hu,rfl⟩:=hx;have hi:=(Jb.1 hu).1;obtain⟨g1,g2,_⟩:=jM _ [] 0 b 0 1 i (I xs[i]) h8 (by simp[show i<xs.length by omega]);simp only[Jg,Qt,Loc]at g1 ⊢
   refine⟨⟨g1.1,g1.2.1,?_⟩,rfl,by simp[R,G',hu]⟩;have:=k5 i u hu;simp[yS,World.cell?,k1,this,G',hu]
  ·cases hs
def zGm(P:Program)(Γ:Ctx)(E:Env)(y:Operand)(ys:List Int):Prop:=∀(a:Act)(w:World)(G:Gh),Rep Γ E G a.tmps w→ ∃xa c,a.eval y=.slice xa ys.length c∧
 ∀(n:Nat),n≤ys.length→(Builtin.firstCells 1 n (.slice xa ys.length c)).run P w=.ok ((ys.take n).map vI).toArray w
theorem zCh{P:Program}{w:World}{b o:Nat}{cs:Array Value}{e:TypeId}{fr:Nat×Nat}(hb:w.heap[b]? =ja (.cells cs e fr))(ys:List Int)(hv:∀(i:Nat) u,ys[i]? =ja u→cs[o+i]? =ja (vI u))(n:Nat)(hn:n≤ys.length)(len cap:Nat):
  (Builtin.firstCells 1 n (.slice (ja ⟨b,o,jb⟩) len cap)).run P w=.ok ((ys.take n).map vI).toArray w:=by
 refine run_firstCells_some (P:=P) w 1 n ⟨b,o,jb⟩ len cap _ (by simp;omega) fun j v hj=>?_
 rw[K1,Lf]at hj;obtain⟨u,hu,rfl⟩:=hj;rw[H5]at hu;split at hu
 ·rw[uO]
  have:=hv j u hu;simp[World.cell?,hb,this]
 ·cases hu
theorem zC1{P:Program}{w:World}{a:Option Addr}{c:Nat}:(Builtin.firstCells 1 0 (.slice a 0 c)).run P w=.ok #[] w:=by cases a<;>simp[Builtin.firstCells,loadCells,loadCellsFrom]
theorem zGm.ro{P:Program}{y:Operand}{ys:List Int}{r:Nat}{q:List Nat}(h:tK E y=ja (r,q,.ro (L 1 I ys))):zGm P Γ E y ys:=fun a w G g9=>by
 obtain⟨h1,h2⟩:=jB g9 h rfl;obtain⟨xa,c,g1,_,_,g2⟩:=zCW h1;rw[Jd]at g1;refine⟨xa,c,by rw[h2,g1],fun n hn=>?_⟩
 by_cases hy:ys=[]
 ·subst hy
  simp at hn;subst hn;simpa using zC1
 ·obtain⟨b,o,cs,e,fr,rfl,g3,g4⟩:=g2 (by simpa using hy)
  refine zCh (g9.mem.st b _ g3) ys (fun i u hu=>?_) n hn _ _;have:=zG4 _ cs o 1 i (I u) g4 (by simp[hu]);simp only[RoC,Qt]at this;exact this.1
theorem zOF{G:Gh}{w:World}{s b:Nat}{q:List Nat}{cs:Array Value}{e:TypeId}{xs:List Int}{St:Stb}(h2:w.heap[b]? =ja (.cells cs e (0,0)))(h8:RL St G w s (xs.map I) q 0 b 0 1)(i:Nat)(u:Int)(hu:xs[i]? =ja u):cs[i]? =ja (vI u):=by obtain⟨g1,_,g3⟩:=jM _ q 0 b 0 1 i (I u) h8 (by simp[hu]);simp only[Loc,R,Jg,Qt]at g1 g3;have:=g1.2.2;simp only[yS,World.cell?,h2]at this;simpa[g3]using this
theorem zGm.sub{P:Program}{s r:Nat}{q:List Nat}{tr:T}{xs ys:List Int}{l h:Int}(hs:E s=ja (.sub r q 1 l.toNat h.toNat))(hr:E r=ja tr)(hg:tr.get q.reverse=ja (L 1 I xs))(hv:yA xs l h=ja ys):zGm P Γ E (.tmp s) ys:=fun a w G g9=>by
 obtain⟨k1,k2,k3,rfl⟩:=sS hv;obtain⟨e1,e2,_⟩:=g9.ent s _ hs;obtain⟨_,e4,_⟩:=g9.ent r _ hr;simp only[R]at e2;have h5:=(zAx q.reverse tr _ [] e4 hg).1;simp only[rp,Ks,J9,R]at h5;have gj:((xs.drop l.toNat).take (h.toNat-l.toNat)).length=h.toNat-l.toNat:=by simp;omega
 rw[gj];have bV:a.eval (.tmp s)=G.hd s []:=by rw[wK e1,xV rfl]
 rcases h5 with⟨g1,ad,g2⟩|⟨b,cap,cs,e,g1,g2,g3,_,_,_,_,g8⟩
 ·have hy:xs=[]:=by simpa using g1
  subst hy;have hl0:l.toNat=0:=by simp at k3;omega
  have bR:h.toNat=0:=by simp at k3;omega
  refine⟨ad,0,by rw[bV,e2,g2,hl0,bR];simp[zBg],fun n hn=>?_⟩;simp[bR]at hn;subst hn;rw[hl0,bR];simpa using zC1
 ·rw[Jd]at g1 g3
  refine⟨if cap=l.toNat then ja ⟨b,0,jb⟩else ja ⟨b,l.toNat,jb⟩,cap-l.toNat,by rw[bV,e2,g1];simp only[zBg,Hk,uO,Jg,Qt],fun n hn=>?_⟩;split
  ·have:n=0:=by omega
   subst this;simp[Builtin.firstCells,loadCells,loadCellsFrom]
  ·refine zCh g2 _ (fun i u hu=>?_) n (by rw[gj];exact hn) _ _
   rw[H5]at hu;split at hu
   ·rw[Ko]at hu
    exact zOF g2 g8 _ u hu
   ·cases hu
def zC2(Γ:Ctx)(E:Env)(x:Operand)(s0 lo hi:Nat):Prop:=∀(a:Act)(w:World)(G:Gh),Rep Γ E G a.tmps w→a.eval x=zBg (G.hd s0 []) 1 lo hi
theorem zC2.slot{s0:Nat}{xs:List Int}(h:E s0=ja (L 1 I xs)):zC2 Γ E (.tmp s0) s0 0 xs.length:=fun a w G g9=>by obtain⟨e1,e2,_⟩:=g9.ent s0 _ h;obtain⟨ad,c,g⟩:=zJ2 e2;rw[Jd]at g;rw[wK e1,xV rfl,g];simp[zBg];intro;cases ad<;>simp[Addr.add]
theorem zC2.same{s s0:Nat}{xs:List Int}(hs:E s=ja (.same s0 []))(h:E s0=ja (L 1 I xs)):zC2 Γ E (.tmp s) s0 0 xs.length:=fun a w G g9=>by obtain⟨e1,e2,_⟩:=g9.ent s _ hs;have:=zC2.slot h a w G g9;obtain⟨e3,_,_⟩:=g9.ent s0 _ h;simp only[R]at e2;rw[wK e3,xV rfl]at this;rw[wK e1,xV rfl,e2];exact this
theorem zC2.sub{s s0 lo hi:Nat}(hs:E s=ja (.sub s0 [] 1 lo hi)):zC2 Γ E (.tmp s) s0 lo hi:=fun a w G g9=>by obtain⟨e1,e2,_⟩:=g9.ent s _ hs;simp only[R]at e2;rw[wK e1,xV rfl,e2]
end
theorem zPV{α:Type}{xs ys:List α}{l h:Int}(hv:yA xs l h=ja ys):l.toNat≤h.toNat:=by have:=sS hv;omega
theorem zPW{α:Type}{xs ys:List α}{l h:Int}(hv:yA xs l h=ja ys):h.toNat≤xs.length:=by have:=sS hv;omega
theorem zOG{α:Type}(l z:List α)(lo i:Nat)(eG:lo+z.length≤l.length):(l.take lo++z++l.drop (lo+z.length))[i]? =if i<lo then l[i]? else if i<lo+z.length then z[i-lo]? else l[i]?:=by
 have hm:min lo l.length=lo:=by omega
 by_cases c1:i<lo
 ·rw[if_pos c1,Ja,Jm (by simp;omega),H5,if_pos c1]
 ·rw[if_neg c1]
  by_cases c2:i<lo+z.length
  ·rw[if_pos c2,Ja,J8 (by simp;omega),K3,hm,Jm (by omega)]
  ·rw[if_neg c2,Ja,J8 (by simp;omega),K3,hm,J8 (by omega),Ko]
   congr 1;omega
def xX(xs:List Int)(lo:Nat)(zs:List Int):List Int:=xs.take lo++zs++xs.drop (lo+zs.length)
theorem zJO{P:Program}{Γ:Ctx}{E:Env}{d s0 lo hi:Nat}{x y:Operand}{ty:TypeId}{ps:String}{af:Array Edge}{gd:Option (Nat×Bool)}{t t2 e:TypeId}{ti:TypeInfo}{u:T}{xs ys:List Int}(ht:ElT P t e ti 1 u)(h0:E s0=ja (L 1 I xs))(hx:∀S,zC2 (Γ.at S) E x s0 lo hi)(hy:∀S,zGm P (Γ.at S) E y ys)(h1:lo≤hi)(h2:hi≤xs.length)(sd:(J7 d Γ.N&&(s0 != d))=jc):
  Ok P Γ ⟨ja d,.call { callee:=.builtin .copy,args:=#[x,y],argTypes:=#[t,t2] },ty,ps,af,gd⟩ E ((E.app [(s0,ja (L 1 I (xX xs lo (ys.take (hi-lo)))))] [(s0,1)]).app [(d,ja (I ((min ys.length (hi-lo):Nat):Int)))] [(d,0)]):=by
 simp only[J4]at sd;have gf:s0≠d:=by simpa using sd.2
 intro S;refine wN.value rfl fun a w G g9=>?_
 obtain⟨e1,e2,_⟩:=g9.ent s0 _ h0;obtain⟨xa,c,g1,g2⟩:=hy S a w G g9;have g3:=hx S a w G g9;have eF:min ys.length (hi-lo)≤ys.length:=by omega
 have g4:=g2 _ eF;have ex:ys.take (hi-lo)=ys.take (min ys.length (hi-lo)):=by rw[List.take_eq_take_iff];omega
 rw[ex]
 generalize hn:min ys.length (hi-lo)=n at*
 have m7:(ys.take n).length=n:=by simp;omega
 have gj:(xX xs lo (ys.take n)).length=xs.length:=by simp[xX,m7];omega
 have key:∃w',(Builtin.copy_ #[t,t2] ty #[a.eval x,a.eval y]).run P w=.ok (goInt n) w'∧ ∃G',Rep (Γ.at S) (E.app [(s0,ja (L 1 I (xX xs lo (ys.take n))))] [(s0,1)]) G' a.tmps w':=by
  have e2':=e2;simp only[R]at e2;rcases e2 with⟨k1,ad,k2⟩|⟨b,cap,cs,e',k1,k2,k3,k4,k5,k6,k7,k8⟩
  ·have eT:xs=[]:=by simpa using k1
   subst eT;simp at h2;subst h2;have aY:n=0:=by omega
   subst aY;have eG:lo=0:=by omega
   subst eG;refine⟨w,?_,G,?_⟩
   ·rw[g3,k2,g1]
    cases ad<;>cases xa<;>simp[zBg,Builtin.copy_,run_underlying ht.un,Builtin.lenOf,sizeOf,typeInfo,ht.info,Builtin.firstCells,loadCells,loadCellsFrom,storeCells]
   ·refine vH g9 rfl ⟨fun _ _ _=>rfl,fun _ _ _=>rfl,fun _ _ _ _ _ _ h _=>⟨h,rfl⟩,fun _ _ _ h _=>h,fun b cs e h=>⟨cs,h,rfl⟩⟩ g9.mem (fun s hs=>⟨fun n hn=>by simp at hn;simp[Wr.find,hn.1]at hs,rfl⟩) fun s t' hs=>?_
    rw[tV]at hs;split at hs
    ·rename_i he;subst he
     simp at hs;subst hs;simpa[xX]using g9.ent s0 _ h0
    ·cases hs
  ·rw[Jd]at k1 k3 k7
   have gv:cap≤cs.size:=by omega
   have gB:=run_storeCells_at P b lo e' ((ys.take n).map vI) 0 cs w k2 (by simp;omega) (by intro v hv;obtain⟨u,_,rfl⟩:=Js.1 hv;rfl);simp only[Hy,Jd]at gB
   generalize eC:w.setRow b (cs.toList.take lo++(ys.take n).map vI++cs.toList.drop (lo+(ys.take n).length)).toArray=w' at gB
   have gG:cs.toList.length=cs.size:=Kk ..
   by_cases mu:cap=lo
   ·have aY:n=0:=by omega
    subst aY;refine⟨w,?_,G,?_⟩
    ·rw[g3,k1,g1]
     have g5:(Builtin.firstCells 1 0 (.slice xa ys.length c)).run P w=.ok #[] w:=by simpa using g4
     simp[zBg,Builtin.copy_,run_underlying ht.un,Builtin.lenOf,sizeOf,typeInfo,ht.info,ht.size,show hi-lo=0 by omega,g5,storeCells,mu]
    ·refine vH g9 rfl ⟨fun _ _ _=>rfl,fun _ _ _=>rfl,fun _ _ _ _ _ _ h _=>⟨h,rfl⟩,fun _ _ _ h _=>h,fun b cs e h=>⟨cs,h,rfl⟩⟩ g9.mem (fun s hs=>⟨fun n hn=>by simp at hn;simp[Wr.find,hn.1]at hs,rfl⟩) fun s t' hs=>?_
     rw[tV]at hs;split at hs
     ·rename_i he;subst he
      simp at hs;subst hs;simpa[xX]using g9.ent s0 _ h0
     ·cases hs
   ·refine⟨w',?_,zLo g9 h0 gj k1 k2 k3 k4 k5 k6 k7 k8 (by rw[←eC];exact setRow_heap w b cs _ e' _ k2) ?_ (fun b' h=>by rw[←eC];exact setRow_other w b b' _ h) (by rw[←eC];exact size_setRow w b _) (by rw[←eC];rfl) (by rw[←eC];rfl) fun i v hv=>?_⟩
    ·rw[g3,k1,g1]
     have h9:Nat.min ys.length (hi-lo)=n:=hn;simp only[zBg,mu,if_false,Hk,uO,Jg,Qt];simp only[Builtin.copy_];rw[Qu]at gB;simp[run_underlying ht.un,Builtin.lenOf,sizeOf,typeInfo,ht.info,ht.size,h9,g4,gB]
    ·simp[m7];omega
    ·rw[xX,zOG _ _ _ _ (by rw[m7];omega)]at hv
     have h11:lo+((ys.take n).map vI).length≤cs.toList.length:=by simp;omega
     have h10:=zOG cs.toList ((ys.take n).map vI) lo i h11;rw[Jd]at h10;rw[List.getElem?_toArray,h10];have pL:=fun i u hu=>zOF k2 k8 i u hu
     by_cases c1:i<lo
     ·rw[if_pos c1]at hv ⊢
      simpa using pL i v hv
     ·rw[if_neg c1]at hv ⊢
      by_cases c2:i<lo+(ys.take n).length
      ·rw[if_pos c2]at hv ⊢
       rw[K1,hv];rfl
      ·rw[if_neg c2]at hv ⊢
       simpa using pL i v hv
 obtain⟨w',gy,G',gn⟩:=key;refine⟨_,w',?_,_,vN gn rfl (yK sd.1) (fun _=>vI n) (fun _=>rfl) (I n) (vI n) (by simp[mkV,Gh.put]) (by simp[R,Gh.put]) (by simp[Top])⟩;simp[execOp,resolve,invoke,builtin,gy,goInt]
end Go.Ab

namespace Go.Ab
open Go
theorem zJc{G G':Gh}{s d:Nat}(hd:∀z,G'.hd d z=G.hd s z):(xs:List T)→yU xs=jc→ ∀(j:Nat),qZ G' d (cpF s xs [] j) [] j=qZ G s xs [] j
 | [],_,_=>by simp only[cpF,qZ]
 |x::xs,h,j=>by
  simp only[yU,J4]at h;simp only[cpF,qZ];have gR:∀ys,x≠.tup ys:=by rintro ys rfl;simp[T.okTup]at h
  have h1:=zAy (G:=G) (G':=G') (s:=s) (d:=d) x [j] [j] gR (fun z=>hd _);have h2:∀ys,cpT s x [j]≠.tup ys:=by intro ys;cases x<;>simp[cpT]
  rw[kH _ _ _ _ h2]at h1;rw[h1,zJc hd xs h.2 (j+1)]
section
variable {P:Program}{Γ:Ctx}{E E':Env}{d:Nat}{x y:Operand}{ty:TypeId}{ps:String}{af:Array Edge}{gd:Option (Nat×Bool)}
theorem zWt{s:Nat}{ts:List T}(hx:E s=ja (.tup ts))(sd:(J7 d Γ.N&&yU ts&&(s != d)&&zJz [(d,0)] (cpF s ts [] 0))=jc):Ok P Γ ⟨ja d,.move (.tmp s),ty,ps,af,gd⟩ E (E.app [(d,ja (.tup (cpF s ts [] 0)))] [(d,0)]):=by
 simp only[J4]at sd;obtain⟨⟨⟨s1,s2⟩,s3⟩,s4⟩:=sd;have gf:s≠d:=by simpa using s3
 intro S;refine wN.value rfl fun a w G g9=>?_
 obtain⟨h1,h2,_⟩:=g9.ent s _ hx;simp only[R]at h2;have hk:=G.put_keep (w:=w) (w':=w) rfl d (fun z=>G.hd s z);have hz:∀z,(G.put d (fun z=>G.hd s z)).hd d z=G.hd s z:=fun z=>by rw[Gh.put_self]
 have aD:∀(xs:List T)(j:Nat),vP (cpF s xs [] j):=by
  intro xs
  induction xs with
  |nil=>intro j;simp only[cpF,vP]
  |cons x xs ih=>intro j;simp only[cpF,vP];exact⟨qQ s x _,ih _⟩
 refine⟨mkV G s (.tup ts) [],w,?_,_,vN g9 rfl (yK s1) (fun z=>G.hd s z) (fun z=>g9.mem.one _ _) _ _ (by simp only[mkV];rw[zJc hz ts s2 0])
  (by simp only[R];exact zJ0 (fun p=>G.put_other _ p gf) ts [] [] 0 (fun z=>hz _) (wB.mono (fun r p hr=>⟨hk.hd r p hr,hk.ad r p hr⟩) _ (zGO _ (aD ts 0) s4)) h2) (by simp only[Top];exact aD ts 0)⟩
 simp[execOp,wK h1]
end
end Go.Ab

namespace Go.Ab
open Go
section
variable (ds r:Nat)
inductive zJP:Env→List (Nat×List Nat)→Env→Prop where
 |nil (E:Env):zJP E [] E
 |cons {E E':Env}{l:List (Nat×List Nat)} (j:Nat) (q:List Nat) (td td' tr tr' u:T) (hd:E ds=ja td) (hg:td.get [j]=ja (.same r q)) (hr:E r=ja tr) (hp:tr.get q.reverse=ja u) (eK:yD u)
   (bf:td.set [j] u=td') (pe:tr.set q.reverse .any=tr') (sd:(u.single&&td.okB [(ds,2),(r,q.length+1)]&&tr.okB [(ds,2),(r,q.length+1)]&&xS td&&xS tr&&(ds != r)&& !q.isEmpty)=jc)
   (h:zJP (E.app [(ds,ja td'),(r,ja tr')] [(ds,2),(r,q.length+1)]) l E'):zJP E ((j,q)::l) E'
inductive zEA:Env→List (Nat×List Nat)→Env→Prop where
 |nil (E:Env):zEA E [] E
 |cons {E E':Env}{l:List (Nat×List Nat)} (j:Nat) (q:List Nat) (td td' tr tr' u v0:T) (hd:E ds=ja td) (hg:td.get [j]=ja u) (hr:E r=ja tr) (hp:tr.get q.reverse=ja v0) (eK:yD u)
   (bf:td.set [j] .any=td') (pe:tr.set q.reverse u=tr') (sd:(u.single&&v0.single&&td.okB [(r,q.length+1),(ds,2)]&&tr.okB [(r,q.length+1),(ds,2)]&&xS td&&xS tr&&(ds != r)&& !q.isEmpty)=jc)
   (h:zEA (E.app [(r,ja tr'),(ds,ja td')] [(r,q.length+1),(ds,2)]) l E'):zEA E ((j,q)::l) E'
end
theorem zOH{g z:List Nat}(h:g<:+z)(hn:z≠g):g.length<z.length:=by
 have h1:=h.length_le;rcases Jk g.length z.length with h2|h2
 ·exact h2
 ·exact absurd (h.eq_of_length (by omega)).symm hn
theorem zJP.rep{Γ:Ctx}{tmps:Array Value}{w:World}{ds r:Nat}{E E':Env}{l:List (Nat×List Nat)}(h:zJP ds r E l E'):∀{G:Gh},Rep Γ E G tmps w→
  ∃G',Rep Γ E' G' tmps w∧(∀z,G'.hd r z=G.hd r z)∧(∀j,G'.hd ds [j]=G.hd ds [j])∧ ∀x∈l,G.hd ds [x.1]=G.hd r x.2:=by
 induction h with
 |nil E=>intro G hr;exact⟨G,hr,fun _=>rfl,fun _=>rfl,fun x hx=>by simp at hx⟩
 |cons j q td td' tr tr' u hd hg hr hp eK bf pe sd _ ih=>
  intro G g9;simp only[J4]at sd;obtain⟨⟨⟨⟨⟨⟨s1,s2⟩,s3⟩,s4⟩,s5⟩,s6⟩,s7⟩:=sd;have gf:ds≠r:=by simpa using s6
  have hq:q≠[]:=by rintro rfl;simp at s7
  have gM:G.hd ds [j]=G.hd r q:=by have:=(zAx [j] td _ [] (g9.ent ds td hd).2.1 hg).1;simpa[rp,R]using this
  obtain⟨h1,h2⟩:=zDP g9 ds [j] r q td tr u (.same r q) hd (by simpa using hg) rfl gM hr hp s1 eK gf (by simpa using s2) (by simpa using s3) s4 s5;rw[if_neg hq,show([j]:List Nat).reverse=[j]from rfl,bf,pe]at h1;obtain⟨G',g1,g2,g3,g4⟩:=ih (by simpa using h1);have e1:∀z,(G.tr ds [j] r q).hd r z=G.hd r z:=fun z=>h2 r z (fun h=>gf h.1.symm)
  have e2:∀i,(G.tr ds [j] r q).hd ds [i]=G.hd ds [i]:=fun i=>h2 ds [i] (fun h=>by have:=zOH h.2.1 h.2.2;simp at this)
  refine⟨G',g1,fun z=>by rw[g2,e1],fun i=>by rw[g3,e2],fun x hx=>?_⟩;rcases Jc.1 hx with rfl|hx
  ·exact gM
  ·have:=g4 x hx
   rw[e1,e2]at this;exact this
theorem zEA.rep{Γ:Ctx}{tmps:Array Value}{w:World}{ds r:Nat}{E E':Env}{l:List (Nat×List Nat)}(m:Nat)(h:zEA ds r E l E'):(∀x∈l,x.2.length=m)→ ∀{G:Gh},Rep Γ E G tmps w→(∀x∈l,G.hd ds [x.1]=G.hd r x.2)→ ∃G',Rep Γ E' G' tmps w:=by
 induction h with
 |nil E=>intro _ G hr _;exact⟨G,hr⟩
 | @cons E E' l j q td td' tr tr' u v0 hd hg hr hp eK bf pe sd _ ih=>
  intro hm G g9 tj;simp only[J4]at sd;obtain⟨⟨⟨⟨⟨⟨⟨s1,s1'⟩,s2⟩,s3⟩,s4⟩,s5⟩,s6⟩,s7⟩:=sd;have gf:ds≠r:=by simpa using s6
  have hq:q≠[]:=by rintro rfl;simp at s7
  obtain⟨h1,h2⟩:=zDP g9 r q ds [j] tr td u v0 hr hp s1' (tj (j,q) (by simp)).symm hd (by simpa using hg) s1 eK (Ne.symm gf) (by simpa using s3) (by simpa using s2) s5 s4;rw[if_neg (by simp),show([j]:List Nat).reverse=[j]from rfl,bf,pe]at h1;refine ih (fun x hx=>hm x (by simp[hx])) (by simpa using h1) fun x hx=>?_
  have e1:∀z,(G.tr r q ds [j]).hd ds z=G.hd ds z:=fun z=>h2 ds z (fun h=>gf h.1)
  by_cases hz:q<:+x.2∧x.2≠q
  ·have h3:=zOH hz.1 hz.2
   rw[hm x (by simp[hx]),hm (j,q) (by simp)]at h3;omega
  ·have e2:(G.tr r q ds [j]).hd r x.2=G.hd r x.2:=h2 r x.2 (fun h=>hz h.2)
   rw[e1,e2];exact tj x (by simp[hx])
theorem zGn{G G':Gh}{s:Nat}:(xs ys:List T)→(∀x∈xs,x.single=jc)→(∀x∈ys,x.single=jc)→xs.length=ys.length→ ∀(j:Nat),yF G s xs [] j=yF G' s ys [] j→ ∀i,i<xs.length→G.hd s [j+i]=G'.hd s [j+i]
 | [],_,_,_,_,_,_,i,hi=>by simp at hi
 |x::xs,[],_,_,hl,_,_,_,_=>by simp at hl
 |x::xs,y::ys,h1,h2,hl,j,h,i,hi=>by
  have v1:∀(G:Gh)(t:T)(p:List Nat),t.single=jc→vals G s t p=[G.hd s p]:=fun G t p ht=>by cases t<;>simp[T.single]at ht<;>simp[vals]
  simp only[yF,v1 G x _ (h1 x (by simp)),v1 G' y _ (h2 y (by simp)),Lw,Qs.injEq]at h;cases i with
  |zero=>exact h.1
  |succ i=>
   have:=zGn xs ys (fun z hz=>h1 z (by simp[hz])) (fun z hz=>h2 z (by simp[hz])) (by simpa using hl) (j+1) h.2 i (by simpa using hi);rw[show j+(i+1)=j+1+i by omega];exact this
def zBM:List T→Bool
 | []=>jc
 |x::xs=>x.single&&zBM xs
theorem zEa:{xs:List T}→zBM xs=jc→ ∀x∈xs,x.single=jc
 | [],_,_,h=>by simp at h
 |x::xs,h,y,hy=>by
  simp only[zBM,J4]at h;rcases Jc.1 hy with rfl|hy
  ·exact h.1
  ·exact zEa h.2 y hy
theorem zUS{P:Program}{Γ:Ctx}{E E1 E3:Env}{d:Nat}{ty:TypeId}{ps:String}{af:Array Edge}{gd:Option (Nat×Bool)}{f:FuncId}{xs:List Operand}{ats:Array TypeId}{us res:List T}{ts ts':List T}(i ds r:Nat)(l:List (Nat×List Nat))(m:Nat)(gr:kX P f)(hc:FnC P f us res [(i,.agg ts')])
  (gJ:zJP ds r E l E1)(hs:E1 ds=ja (.agg ts))(eA:yD (.agg ts'))(cV:wQ (.agg ts')=jc)(gc:xW E1 [(i,ds,.agg ts')] 0 xs us)(gm:qL res)
  (bC:zEA ds r (E1.app (cWr d res [(i,ds,.agg ts')]) (vZ d [(i,ds,.agg ts')])) l E3)
  (sd:(J7 d Γ.N&&(d != ds)&&(d != r)&&(ds != r)&&zBM ts&&zBM ts'&&(ts.length==ts'.length)&&(l.all fun x=>x.2.length==m&&J7 x.1 ts.length))=jc)(hx:xs[i]? =ja (.tmp ds))(hu:us[i]? =ja (.agg ts)):
  Ok P Γ ⟨ja d,.call { callee:=.value (.func f),args:=xs.toArray,argTypes:=ats },ty,ps,af,gd⟩ E E3:=by
 simp only[J4]at sd;obtain⟨⟨⟨⟨⟨⟨⟨s1,s2⟩,s3⟩,s4⟩,s5⟩,s6⟩,s7⟩,s8⟩:=sd;have d1:d≠ds:=by simpa using s2
 have d2:d≠r:=by simpa using s3
 have d3:ds≠r:=by simpa using s4
 have gj:ts.length=ts'.length:=by simpa using s7
 have hl:∀x∈l,x.2.length=m∧x.1<ts.length:=fun x hx=>by have:=Ki.1 s8 x hx;simp only[J4,beq_iff_eq]at this;exact⟨this.1,yK this.2⟩
 intro S a w K Q ⟨gQ,G,g9⟩ hK;refine zCv (xf:=.func f) rfl rfl gr rfl ?_;obtain⟨G1,g1,g2,g3,g4⟩:=gJ.rep g9;refine(zHl g1 (yK s1) f xs us res [(i,ds,.agg ts')] hc gc (zHk.one' (u:=.agg ts) d1 hx eA rfl cV hs hu) gm).mono ?_
 rintro e w' ⟨v,rfl,S',G',hS,hk,gn⟩
 have gO:(E1.app (cWr d res [(i,ds,.agg ts')]) (vZ d [(i,ds,.agg ts')])) ds=ja (.agg ts'):=by simp[Env.app,Wr.find,cWr,d1]
 have hv:mkV G' ds (.agg ts') []=mkV G1 ds (.agg ts) []:=by have a1:=(gn.ent ds _ gO).1;have a2:=(g1.ent ds _ hs).1;rw[Jf]at a1;simp only[d1,if_false]at a1;rw[a2]at a1;exact(L8.inj a1).symm
 simp only[mkV,Value.agg.injEq]at hv;have eW:yF G' ds ts' [] 0=yF G1 ds ts [] 0:=by simpa using congrArg Array.toList hv
 have bQ:=zGn ts' ts (zEa s6) (zEa s5) gj.symm 0 eW;obtain⟨G3,hG3⟩:=bC.rep m (fun x hx=>(hl x hx).1) gn fun x hx=>by have h1:=bQ x.1 (by have:=(hl x hx).2;omega);rw[Jg]at h1;have h2:G'.hd r x.2=G1.hd r x.2:=hk.hd r x.2 (fun n hn=>by simp[vZ]at hn;rcases hn with⟨e,_⟩|⟨e,_⟩;exact absurd e.symm d2;exact absurd e.symm d3);rw[h1,h2,g2,g3];exact g4 x hx
 exact⟨v,rfl,hK _ _ ⟨S',hS,gQ,G3,hG3⟩⟩
end Go.Ab

namespace Go.Ab
open Go
section
variable {P:Program}{Γ:Ctx}{E:Env}{d:Nat}{x:Operand}{ty:TypeId}{ps:String}{af:Array Edge}{gd:Option (Nat×Bool)}
class zUT (P:Program) (t:TypeId) (e:outParam TypeId) (ti:outParam TypeInfo) (n:outParam Nat) (k:outParam Nat):Prop where
 un:P.underlying t=ja (.array n e)
 info:P.info? e=ja ti
 size:ti.size=k
theorem zWu{t e:TypeId}{ti:TypeInfo}{n k r:Nat}{q:List Nat}{xs:List T}{u:T}(i:Nat)(ht:zUT P t e ti n k)(hx:tK E x=ja (r,q,.ptr (.agg xs)))(hu:xs[i]? =ja u)(gF:T.sizes (xs.take i)=i*k)(sd:(J7 d Γ.N&&J7 i n)=jc):
  Ok P Γ ⟨ja d,.indexAddr t x (.const (.int .i64 i)),ty,ps,af,gd⟩ E (E.app [(d,ja (.addr r (i::0::q)))] [(d,0)]):=by
 simp only[J4]at sd;have gJ:=yK sd.2;intro S;refine wN.value rfl fun a w G g9=>?_
 obtain⟨g1,g2⟩:=jB g9 hx rfl;simp only[R]at g1;obtain⟨b,cs,e',g4,_,_,_,g5,_⟩:=g1;simp only[Loc]at g5;have g6:=zCn xs (0::q) 0 b 0 i u g5.2 hu;simp only[Jg]at g6;have g3:a.eval (.const (.int .i64 i))=.int .i64 i:=rfl;refine⟨.pointer (ja (G.ad r (i::0::q))),w,?_,_,vN g9 rfl (yK sd.1) (fun _=>.pointer (ja (G.ad r (i::0::q)))) (fun _=>rfl) _ _ (by simp[mkV,Gh.put]) (by simp[R,Gh.put]) (by simp[Top])⟩;have gz:(i:Int)<(n:Int):=by omega
 have h0:(0:Int)≤i:=by omega
 have g7:=zBD g6;have bO:i<n:=gJ;simp[execOp,Instr.indexAt,g3,g2,g4,asIntOf,run_underlying ht.un,h0,bO,sizeOf,typeInfo,ht.info,ht.size,uO,tY,g7,gF]
end
end Go.Ab
namespace Go.Ab
open Go
theorem zAL{E:Env}{ds r s:Nat}{q:List Nat}{tr u t:T}(h:E s=ja t)(gf:(Jbo ds s||Jbo r s)=jd:=by rfl)(hb:t.okB [(ds,1),(r,q.length+1)]=jc:=by rfl):opT (vU E ds r q tr u) (.tmp s)=ja t:=by
 have h1:ds≠s:=by rintro rfl;simp at gf
 have h2:r≠s:=by rintro rfl;simp at gf
 simp[opT,vU,Env.app,Wr.find,h1,h2,h,hb]
end Go.Ab
namespace Go.Ab
open Go
section
variable {P:Program}{Γ:Ctx}{pn:jR}{E E':Env}{Q Q1:Exit→Env→Prop}{c c1 c2:Code}{ops:Array Oper}{o:Oper}{os:List Oper}{id:Nat}
theorem sR(h:RW P Γ pn ops ops.toList E (xT P Γ pn c Q)):CW P Γ pn (.seq (.region id ops jd) c) E Q:=CW.seq (CW.region h)
theorem rN(h:CW P Γ pn c E Q):RW P Γ pn ops [] E (xT P Γ pn c Q):=RW.nil h
theorem oP(h:Ok P Γ o E E')(k:RW P Γ pn ops os E' Q)(hg:o.guard=jb:=by rfl)(hp:pn.ok o.dst=jc:=by rfl):RW P Γ pn ops (o::os) E Q:=RW.op h k hg hp
def zXr(ops:List Oper):List (List Nat):=(ops.foldl (fun(acc:Array (List Nat)) o=>acc.push ((zBr o).foldl (fun l m=>m::(acc.getD m [])++l) [])) #[]).toList
theorem CW.lp{σ ρ:Type}(body:σ→Option (σ⊕ρ))(en:σ→Env)(Q1:ρ→Exit→Env→Prop){s:σ}{r:ρ}(hg:zO Γ E (en s))(h:∀s x,body s=ja x→CW P Γ pn c (en s) (vC Γ en Q1 x))(hr:zH body s=ja r)(hq:∀e E',Q1 r e E'→Q e E'):CW P Γ pn (.loop c) E Q:=
 (CW.mono (CW.loop body en Q1 h hr) hq).ghost hg
end
end Go.Ab

namespace Go.Ab
open Go Go.ChangeShapes
abbrev zLp(w:World):Stb:=fun b=>w.heap[b]?
theorem zPX{w:World}{a:Addr}{n:Nat}{cs:List Value}(h:w.cells? 0 a n=ja cs):cs.length=n∧ ∀(i:Nat) v,cs[i]? =ja v→w.cell? (a.add i)=ja v:=by
 unfold World.cells? at h;rw[if_pos (Kn _)]at h;refine⟨by simpa using mapM_some_length h,fun i v hv=>?_⟩;have hi:i<n:=by have:=(Jb.1 hv).1;have h2:=mapM_some_length h;rw[Ky]at h2;omega
 rw[←hv];exact mapM_some_get h i i (by simp[hi])
theorem zOI{w:World}{a:Addr}{v:Value}(h:w.cell? a=ja v):a.spot=jb∧ ∃c e fr,w.heap[a.block]? =ja (.cells c e fr)∧c[a.off]? =ja v:=by
 simp only[World.cell?]at h;split at h
 ·rename_i c e fr hb
  split at h
  ·cases h
  ·rename_i hs
   exact⟨by cases hq:a.spot with|none=>rfl|some _=>rw[hq]at hs;simp at hs,c,e,fr,hb,h⟩
 ·cases h
theorem zLq{b o m:Nat}:(Addr.mk b o jb).add m=⟨b,o+m,jb⟩:=by
 unfold Addr.add;split
 ·rename_i h;subst h;rfl
 ·rfl
theorem zGo{α:Type}{Q:Nat→α→Prop}:∀(n:Nat),(∀i,i<n→ ∃x,Q i x)→ ∃xs:List α,xs.length=n∧ ∀i x,xs[i]? =ja x→Q i x
 |0,_=>⟨[],rfl,fun i x h=>by simp at h⟩
 |n+1,h=>by
  obtain⟨xs,h1,h2⟩:=zGo n fun i hi=>h i (by omega)
  obtain⟨y,hy⟩:=h n (by omega);refine⟨xs++[y],by simp[h1],fun i x hx=>?_⟩;rw[L5]at hx;split at hx
  ·exact h2 i x hx
  ·rename_i hge
   have:i-xs.length=0:=by have:=(Jb.1 hx).1;simpa using this
   rw[this]at hx;simp at hx;subst hx
   rwa [show i=n from by omega]
theorem zOJ{St:Stb}:(xs:List T)→ ∀(cs:Array Value)(o k:Nat),(∀i x,xs[i]? =ja x→RoC St x cs (o+i*k))→RoL St xs cs o k
 | [],_,_,_,_=>by simp only[RoL]
 |x::xs,cs,o,k,h=>by
  simp only[RoL];refine⟨by simpa using h 0 x rfl,zOJ xs cs (o+k) k fun i y hy=>?_⟩;have:=h (i+1) y (by simpa using hy)
  rwa [show o+k+i*k=o+(i+1)*k from by rw[Jy];omega]
section
variable {P:Program}
def RdT(P:Program)(t:TypeId)(k:Nat){α:Type}(f:α→T)(V:α→Prop):Prop:=
 ∀{H:Type}(enc:TypeId×Value→H)(w:World)(fuel:Nat)(cs:List Value)(x:DataW H×List MemPlace),DataW.trod enc P w 0 (fun _=>jc) jc fuel t cs=ja x→
  cs.length=k→ ∃d,V d∧ ∀(A:Array Value)(o:Nat),(∀(i:Nat) v,cs[i]? =ja v→A[o+i]? =ja v)→RoC (zLp w) (f d) A o
theorem zXs{t:TypeId}{q:IntKind}(hu:P.underlying t=ja (.int q)):RdT P t 1 (IK q) (fun n=>(Lit.int q n).wf=jc):=by intro H enc w fuel cs x h _;obtain⟨n,rfl,_,hw⟩:=DataW.trod_int hu h;exact⟨n,hw,fun A o hA=>by simp only[RoC];exact⟨by simpa using hA 0 _ rfl,rfl⟩⟩
theorem zXt{α:Type}{f:α→T}{V:α→Prop}{t e:TypeId}{k:Nat}(hu:P.underlying t=ja (.slice e))(hk:P.cellsOf e=k)(fh:0<k)(h:RdT P e k f V):
  RdT P t 1 (L k f) (fun xs=>xs.length≤maxLen∧ ∀x∈xs,V x):=by
 intro H enc w fuel cs x hx _;rcases DataW.trod_slice hu hx with⟨rfl,_⟩|⟨a,len,cap,elems,rest,n,rfl,rfl,_,_,p6,mu,a9,ef,_⟩
 ·refine⟨[],⟨by simp,by simp⟩,fun A o hA=>?_⟩
  simp only[RoC,Ly,Ju];exact⟨jb,0,by simpa using hA 0 _ rfl,Jo _,by simp[maxLen],fun h=>absurd rfl h⟩
 ·subst hk
  have key:∀i,i<len→ ∃y,V y∧ ∃cs':List Value,cs'.length=P.cellsOf e∧(∀(j:Nat) v,cs'[j]? =ja v→w.cell? ((a.add (i*P.cellsOf e)).add j)=ja v)∧
    ∀(A:Array Value)(o:Nat),(∀(j:Nat) v,cs'[j]? =ja v→A[o+j]? =ja v)→RoC (zLp w) (f y) A o:=by
   intro i hi;have h1:=ef i hi;rw[J3 (by omega)]at h1;obtain⟨cs',h2,h3⟩:=Option.bind_eq_some_iff.1 h1;obtain⟨h4,h5⟩:=zPX h2;obtain⟨y,h6,h7⟩:=h enc w n cs' _ h3 h4;exact⟨y,h6,cs',h4,h5,h7⟩
  obtain⟨xs,hxl,eT⟩:=zGo len key;refine⟨xs,⟨by omega,fun y hy=>?_⟩,fun A o hA=>?_⟩
  ·obtain⟨i,hi,rfl⟩:=Ga.1 hy
   exact(eT i _ (J3 hi)).1
  ·simp only[RoC,Jd,hxl]
   refine⟨ja a,cap,by simpa using hA 0 _ rfl,p6,mu,fun gf=>?_⟩;have cW:0<xs.length:=by
    cases xs with
    |nil=>simp at gf
    |cons _ _=>simp
   obtain⟨_,cs0,g1,g2,_⟩:=eT 0 _ (J3 cW);have hz:a.add (0*P.cellsOf e)=a:=by simp[Addr.add]
   have g3:=g2 0 cs0[0] (J3 (by omega));rw[hz,show a.add 0=a from by simp[Addr.add]]at g3;obtain⟨bc,c,e',fr,hb,_⟩:=zOI g3;obtain⟨b,off,sp⟩:=a;simp only at bc hb;subst bc;refine⟨b,off,c,e',fr,rfl,hb,zOJ _ _ _ _ fun i y hy=>?_⟩;rw[K1,Lf]at hy;obtain⟨z,mV,rfl⟩:=hy;obtain⟨_,cs',g1',g2',g4⟩:=eT i z mV;refine g4 c _ fun j v hv=>?_
   have:=g2' j v hv;rw[zLq,zLq]at this;obtain⟨_,c2,e2,fr2,pX,eW⟩:=zOI this;simp only at pX eW;rw[hb]at pX;cases pX;exact eW
theorem zJQ{H:Type}{enc:TypeId×Value→H}{w:World}{t:TypeId}{fs:Array Field}{fuel:Nat}{cs:List Value}{x:DataW H×List MemPlace}(hu:P.underlying t=ja (.struct fs))(h:DataW.trod enc P w 0 (fun _=>jc) jc fuel t cs=ja x)
  {i j k:Nat}{f:Field}(hf:fs[i]? =ja f)(hj:f.offset=j)(hk:P.cellsOf f.type=k):∃n y,DataW.trod enc P w 0 (fun _=>jc) jc n f.type ((cs.drop j).take k)=ja y:=by
 obtain⟨xs,n,_,_,_,gj,ef⟩:=DataW.trod_struct hu h;have hi:i<xs.length:=by rw[gj];exact(Km.1 hf).1
 have:=ef i f hf;rw[hj,hk,J3 hi]at this;exact⟨n,_,this⟩
end
def zPY(v:Value):Value:=if v.oneCell' then v else .bool jd
theorem zLr(v:Value):(zPY v).oneCell'=jc:=by unfold zPY;split;assumption;rfl
theorem zJR{v:Value}(h:v.oneCell'=jc):zPY v=v:=by simp[zPY,h]
def hd0(vs:Array Value)(s:Nat)(p:List Nat):Value:=
 match vs[s]?,p with
 |some (.agg cs),[j]=>zPY (cs[j]?.getD (.bool jd))
 |some v,[]=>zPY v
 |_,_=>.bool jd
def G0(vs:Array Value):Gh:={ hd:=hd0 vs,ad:=fun _ _=>default,lb:=fun _ _=>jb,ow:=fun _=>jb }
theorem yAC(w:World)(vs:Array Value):Mem ⟨zLp w,fun _=>False,w,0⟩ (G0 vs) w where
 one s p:=by
  simp only[G0,hd0];split
  ·exact zLr _
  ·exact zLr _
  ·rfl
 lb b o l h:=by simp[G0]at h
 ow b l h:=by simp[G0]at h
 st b x h:=h
 fr b _ _:=rfl
 sz:=Jo _
 bk:=⟨fun b cs e h=>⟨cs,h,rfl⟩,rfl,rfl⟩
def RdA(P:Program)(t:TypeId){α:Type}(u:α→T)(V:α→Prop):Prop:=
 ∀{H:Type}(enc:TypeId×Value→H)(w:World)(base fuel:Nat)(v:Value)(x:DataW H×List MemPlace),DataW.trod enc P w 0 (fun _=>jc) jc fuel t v.cells.toList=ja x→
  Value.okWide P w .any base t v→ ∃d,V d∧ ∀(vs:Array Value)(s:Nat),vs[s]? =ja v→ja v=ja (mkV (G0 vs) s (u d) [])∧R (zLp w) (G0 vs) w s (u d) []
def RdC(P:Program)(t:TypeId){α:Type}(u:α→T)(V:α→Prop):Prop:=
 ∀{H:Type}(enc:TypeId×Value→H)(w:World)(fuel:Nat)(c:Value)(x:DataW H×List MemPlace),DataW.trod enc P w 0 (fun _=>jc) jc fuel t [c]=ja x→
  ∃d,V d∧c.oneCell'=jc∧ ∀(G:Gh)(s:Nat)(p:List Nat),G.hd s p=c→vals G s (u d) p=[c]∧R (zLp w) G w s (u d) p
section
variable {P:Program}
theorem zXu{t:TypeId}{q:IntKind}(hu:P.underlying t=ja (.int q)):RdC P t (IK q) (fun n=>(Lit.int q n).wf=jc):=by intro H enc w fuel c x h;obtain⟨n,h1,_,hw⟩:=DataW.trod_int hu h;simp only[Qs.injEq,and_true]at h1;subst h1;exact⟨n,hw,rfl,fun G s p hp=>⟨by simp only[vals,hp],by simp only[R,hp]⟩⟩
theorem zYS{α:Type}{f:α→T}{V:α→Prop}{t:TypeId}(h:RdT P t 1 f V)(h1:∀{H:Type}(enc:TypeId×Value→H)(w:World)(fuel:Nat)(c:Value)(x:DataW H×List MemPlace),DataW.trod enc P w 0 (fun _=>jc) jc fuel t [c]=ja x→c.oneCell'=jc):
  RdC P t (fun x=>T.ro (f x)) V:=by
 intro H enc w fuel c x hx;obtain⟨d,g1,g2⟩:=h enc w fuel [c] x hx rfl;refine⟨d,g1,h1 enc w fuel c x hx,fun G s p hp=>⟨by simp only[vals,hp],?_⟩⟩;simp only[R,hp];exact g2 _ _ fun i v hv=>by
  cases i with
  |zero=>simpa using hv
  |succ i=>simp at hv
theorem zXv{α:Type}{f:α→T}{V:α→Prop}{t e:TypeId}{k:Nat}(hu:P.underlying t=ja (.slice e))(hk:P.cellsOf e=k)(fh:0<k)(h:RdT P e k f V):RdC P t (fun xs=>T.ro (L k f xs)) (fun xs=>xs.length≤maxLen∧ ∀x∈xs,V x):=
 zYS (zXt hu hk fh h) fun enc w fuel c x hx=>by
  rcases DataW.trod_slice hu hx with⟨h1,_⟩|⟨a,len,cap,_,_,_,_,h1,_⟩<;>
  ·simp only[Qs.injEq,and_true]at h1
   subst h1;rfl
theorem zI6{w:World}{base:Nat}{t:TypeId}{fs:Array Field}{v:Value}(hu:P.underlying t=ja (.struct fs))(h:Value.okWide P w .any base t v):∃cs,v=.agg cs∧cs.size=P.cellsOf t:=by simp only[Value.okWide,hu]at h;obtain⟨cs,h1,h2,_⟩:=h;exact⟨cs,h1,h2⟩
theorem zWv{α β γ δ:Type}{ua:α→T}{ub:β→T}{uc:γ→T}{Va:α→Prop}{Vb:β→Prop}{Vc:γ→Prop}{t:TypeId}{f0 f1 f2:Field}(mk:α→β→γ→δ){u:δ→T}{V:δ→Prop}
  (hu:P.underlying t=ja (.struct #[f0,f1,f2]))(hc:P.cellsOf t=3)(h0:f0.offset=0∧P.cellsOf f0.type=1)(h1:f1.offset=1∧P.cellsOf f1.type=1)(h2:f2.offset=2∧P.cellsOf f2.type=1)
  (ra:RdC P f0.type ua Va)(rb:RdC P f1.type ub Vb)(rc:RdC P f2.type uc Vc)(hmk:∀a b c,u (mk a b c)=T.agg [ua a,ub b,uc c])(hV:∀a b c,Va a→Vb b→Vc c→V (mk a b c)):RdA P t u V:=by
 intro H enc w base fuel v x hx gE;obtain⟨cs,rfl,gv⟩:=zI6 hu gE;obtain⟨l,rfl⟩:∃l:List Value,cs=l.toArray:=⟨cs.toList,by simp⟩;rw[hc,Jc6]at gv;obtain⟨c0,c1,c2,rfl⟩:∃a b c,l=[a,b,c]:=by
  match l,gv with
  | [a,b,c],_=>exact⟨a,b,c,rfl⟩
 simp only[Value.cells]at hx;obtain⟨n0,y0,g0⟩:=zJQ hu hx (i:=0) rfl h0.1 h0.2;obtain⟨n1,y1,g1⟩:=zJQ hu hx (i:=1) rfl h1.1 h1.2;obtain⟨n2,y2,g2⟩:=zJQ hu hx (i:=2) rfl h2.1 h2.2;simp only[List.drop_succ_cons,Gb,Kb,K7]at g0 g1 g2;obtain⟨a,a1,a2,a3⟩:=ra enc w n0 c0 _ g0;obtain⟨b,b1,b2,b3⟩:=rb enc w n1 c1 _ g1;obtain⟨c,e1,e2,e3⟩:=rc enc w n2 c2 _ g2;refine⟨mk a b c,hV a b c a1 b1 e1,fun vs s p9=>?_⟩;have k0:(G0 vs).hd s [0]=c0:=by simp[G0,hd0,p9,zJR a2]
 have k1:(G0 vs).hd s [1]=c1:=by simp[G0,hd0,p9,zJR b2]
 have k2:(G0 vs).hd s [2]=c2:=by simp[G0,hd0,p9,zJR e2]
 rw[hmk];simp only[mkV,yF,(a3 _ _ _ k0).1,(b3 _ _ _ k1).1,(e3 _ _ _ k2).1,Jp,Ji,R,RF];exact⟨trivial,(a3 _ _ _ k0).2,(b3 _ _ _ k1).2,(e3 _ _ _ k2).2,trivial⟩
end
theorem FnC.top{P:Program}{f:FuncId}{us:List T}(h:FnC P f us [B jc] []){w:World}{vs:Array Value}(gv:vs.size=us.length)
  (ha:∀(i:Nat) u,us[i]? =ja u→vs[i]? =ja (mkV (G0 vs) i u [])∧R (zLp w) (G0 vs) w i u []):
  Calls P f vs w fun e w'=>e=.returned (.bool jc)∧w'.os=w.os∧w'.output=w.output∧w.heap.size≤w'.heap.size∧ ∀b,b<w.heap.size→w'.heap[b]? =w.heap[b]?:=by
 refine(h (zLp w) (fun _=>False) w (G0 vs) vs gv (fun i u hu=>?_) (yAC w vs)).mono fun e w'=>?_
 ·obtain⟨h1,h2⟩:=ha i u hu
  refine⟨?_,h2⟩;rw[h1]
 ·rintro⟨S',G',nd,_,he,hm,cL,hr,_,_⟩
  match nd,cL with
  | [(s,p,t)],cL=>
   simp only[Jv,Ly,Qs.injEq,and_true]at cL;subst cL;have:=(hr (s,p,B jc) (by simp)).1;simp only[R]at this;exact⟨by rw[he];simp only[zKU,sC,this],hm.bk.os,hm.bk.out,hm.sz,fun b hb=>hm.fr b hb (fun h=>h)⟩
theorem zD9{H:Type}{enc:TypeId×Value→H}{P:Program}(hl:laidOutB P=jc){W W':World}{sp:Nat→Bool}:∀{ts:List TypeId}{vs:List Value}{ds:List (DataW H)}{ps:List MemPlace},(∀t∈ts,P.readableRec t=jc∧t<P.types.size)→
  DataW.TrodAll enc P W 0 (fun _=>jc) jc ts vs ds ps→(∀p∈ps,W.sameAt W' p)→(∀p∈ps,sp p.block=jc)→DataW.TrodAll enc P W' 0 sp jc ts vs ds ps
 | [],[],[],_,_,h,_,_=>h
 |t::ts,v::vs,d::ds,ps,hr,h,h1,h2=>by
  obtain⟨p,q,g1,g2,rfl⟩:=h;exact⟨p,q,Go.WideElems.Trod_stays hl (hr t (by simp)).1 (hr t (by simp)).2 g1 (fun x hx=>h1 x (by simp[hx])) (fun x hx=>h2 x (by simp[hx])),
   zD9 hl (fun t' ht'=>hr t' (by simp[ht'])) g2 (fun x hx=>h1 x (by simp[hx])) (fun x hx=>h2 x (by simp[hx])),rfl⟩
 | [],_::_,_,_,_,h,_,_| [],[],_::_,_,_,h,_,_|_::_,[],_,_,_,h,_,_|_::_,_::_,[],_,_,h,_,_=>h.elim
theorem zNh{C:Checked}{os:Os}(own:ownKnob C.prog.godebug=jb)(started:os.Started){f:FuncId}{fn:Func}(noInit:C.prog.inits.idxOf? f=jb)(iL:C.prog.funcs[f]? =ja fn){H:Type}{enc:TypeId×Value→H}{s:ChangeSpec}{conds:List PathCond}{apart fresh handsOn again:Bool}
  (witness:∃(w:World)(tape:Tape)(i:Input),w.os=os∧(w.forCall tape i).Shaped C.prog∧i.vars=[]∧Input.okWide C.prog (w.forCall tape i) .any w.heap.size f i∧
   s.pre6 enc C.prog fn conds apart (w.forCall tape i).memory i.args∧Assume.holds {} C.prog (lone (Frame.enter C.prog f i.args .normal) [] (w.forCall tape i)))
  (hs:∀(l:List (DataW H)),l.length=fn.params.size→(s.fn H l).results=[.lit (.bool jc)]∧(s.fn H l).args=l∧(s.fn H l).vars=[])(mB:s.vars=[]){tb:TypeId}(fk:fn.resultTypes= #[tb])(hb:C.prog.underlying tb=ja .bool)
  (laid:laidOutB C.prog=jc)(aQ:fn.params.toList.all (fun t=>C.prog.readableRec t&&decide (t<C.prog.types.size))=jc)
  (law:∀(W:World)(base:Nat)(args:Array Value)(ds:List (DataW H))(p:List MemPlace),(∀(j:Nat) t v,fn.params[j]? =ja t→args[j]? =ja v→Value.okWide C.prog W .any base t v)→
   DataW.TrodAll enc C.prog W 0 (fun _=>jc) jc fn.params.toList args.toList ds p→
   ∃us:List T,args.size=us.length∧FnC C.prog f us [B jc] []∧ ∀(i:Nat) u,us[i]? =ja u→args[i]? =ja (mkV (G0 args) i u [])∧R (zLp W) (G0 args) W i u []):
  ReturnsInHanded {} C os f .any (s.pre6 enc C.prog fn conds apart) (s.post enc C.prog fn apart fresh handsOn again):=by
 refine returnsInHanded_of_change (C:=C) own started noInit iL witness ?_;intro W base args ds gs before hval hW _ _;have hW':=hW;obtain⟨p,q,hA,hV,hbq,hfz,cL⟩:=hW;obtain⟨us,h1,h2,h3⟩:=law W base args ds p hval hA;have hl:ds.length=fn.params.size:=by
  have:∀{ts:List TypeId}{vs:List Value}{ds:List (DataW H)}{p:List MemPlace},DataW.TrodAll enc C.prog W 0 (fun _=>jc) jc ts vs ds p→ds.length=ts.length:=by
   intro ts
   induction ts with
   |nil=>intro vs ds p h;cases vs<;>cases ds<;>first|rfl|exact h.elim
   |cons t ts ih=>intro vs ds p h;cases vs<;>cases ds<;>first|exact h.elim|(obtain⟨_,_,_,g,_⟩:=h;simp[ih g])
  simpa using this hA
 rw[mB]at hV;have hq:gs=[]∧q=[]:=by
  cases gs with
  |nil=>exact⟨rfl,hV⟩
  |cons _ _=>exact hV.elim
 obtain⟨rfl,rfl⟩:=hq;have gz:=hW'.lt;refine(h2.top h1 h3).mono fun e w' ⟨he,ho,hq,gv,hh⟩=>⟨_,he,?_⟩
 have gM:∀p∈before,W.sameAt w' p:=fun p hp=>by
  have:=gz p hp;cases p with
  |cell b off=>simp only[World.sameAt,World.cell?,hh b this]
  |map b=>exact hh b this
 obtain⟨k1,k2,k3⟩:=hs ds hl;have hbp:before=p:=by simpa using hbq
 subst hbp;have gD:∀t∈fn.params.toList,C.prog.readableRec t=jc∧t<C.prog.types.size:=fun t ht=>by have:=Ki.1 aQ t ht;simpa using this
 have gm:∀(b:Nat)(sp:Nat→Bool)(hd:Bool),DataW.TrodAll enc C.prog w' b sp hd fn.resultTypes.toList ((Value.bool jc).resultList fn.resultTypes.size) (s.fn H (ds++[])).results []:=fun b sp hd=>by rw[fk,J9,k1];exact⟨[],[],⟨1,by simp[DataW.trod,hb,Value.cells]⟩,⟨rfl,rfl⟩⟩
 have gc:∀sp:Nat→Bool,(∀p∈before,sp p.block=jc)→DataW.TrodAll enc C.prog w' 0 sp jc fn.params.toList args.toList (s.fn H (ds++[])).args before:=fun sp bc=>by rw[J9,k2];exact zD9 laid gD hA gM bc
 have ap:∀sp:Nat→Bool,DataW.TrodVars enc C.prog w' sp s.vars (s.fn H (ds++[])).vars []:=fun sp=>by rw[mB,J9,k3];rfl
 have gH:∀p∈before,(fun b=>decide (b<W.heap.size)) p.block=jc:=fun p hp=>by simpa using gz p hp
 have bS:∀p∈before,∀o,w'.frozen? ⟨p.block,o,jb⟩=W.frozen? ⟨p.block,o,jb⟩:=fun p hp o=>by simp only[World.frozen?,hh _ (gz p hp)]
 refine⟨ds,[],before,[],before,[],hW',gm _ _ _,gc _ gH,ap _,⟨ho,hq,fun i hi=>?_⟩,fun _=>⟨fun j t r hj hr=>?_,_,_,([]++before)++[],⟨[]++before,[],trodAll_append (gc _ (fun _ _=>rfl)) (gm _ _ _),ap _,rfl,fun b off hp=>?_,fun ha=>?_⟩,fun p hp _=>?_⟩⟩
 ·rw[hh i hi]
  cases hx:W.heap[i]? with
  |none=>rfl
  |some o=>cases o<;>simp
 ·rw[fk]at hj hr
  match j,hj,hr with
  |0,hj,hr=>
   simp[Value.resultList]at hj hr;subst hj;subst hr;simp[Value.okWide,hb,Cell.okWide,Cell.ok]
 ·have fp:MemPlace.cell b off∈before:=by simpa using hp
  exact(bS _ fp off).trans (hfz b off fp)
 ·have:=cL ha
  simpa using this
 ·simpa using hp
end Go.Ab

namespace Go.Ab
open Go
def jJ(hs:List Nat)(E:Env):Prop:=∀s,hs.contains s=jc→ ∃t,E s=ja t∧zAl t=jc
def zXw(hs:List Nat)(z:Nat×Option T):Bool:=!hs.contains z.1||match z.2 with
 |some t=>zAl t
 |none=>jd
def wrS(hs:List Nat)(X:Stp):Bool:=X.l.all fun y=>y.1.all (zXw hs)
theorem zLs{s:Nat}{x:Option T}:∀{wr:Wr},wr.find s=ja x→(s,x)∈wr
 | [],h=>by simp[Wr.find]at h
 |(k,y)::wr,h=>by
  simp only[Wr.find]at h;split at h
  ·rename_i e;subst e;simp at h;subst h;simp
  ·exact H7 _ (zLs h)
theorem jJ.apps{hs:List Nat}:∀(l:zE3)(E:Env),jJ hs E→(l.all fun y=>y.1.all (zXw hs))=jc→jJ hs (E.apps l)
 | [],_,h,_=>h
 |x::l,E,h,hw=>by
  simp only[Jbx,J4]at hw;refine jJ.apps l (E.app x.1 x.2) (fun s gI=>?_) hw.2;obtain⟨t,he,ht⟩:=h s gI;unfold Env.app;cases hf:x.1.find s with
  |some y=>
   have h1:=Ki.1 hw.1 _ (zLs hf);simp only[zXw,gI,Ka,Bool.false_or]at h1;cases y with
   |none=>simp at h1
   |some u=>exact⟨u,rfl,h1⟩
  |none=>simp only[he];exact⟨t,by simp[(tA ht x.2).1],ht⟩
theorem jJ.runD{hs:List Nat}:∀(l:List (Bool×Stp))(E:Env),jJ hs E→(∀y∈l,wrS hs y.2=jc)→jJ hs (runD E l)
 | [],_,h,_=>h
 |(b,X)::l,E,h,hw=>by
  simp only[Go.Ab.runD];refine jJ.runD l _ ?_ fun y hy=>hw y (by simp[hy])
  cases b with
  |true=>exact jJ.apps X.l E h (hw (jc,X) (by simp))
  |false=>exact h
section
variable {P:Program}{Γ:Ctx}{pn:jR}{E E':Env}{Q:Exit→Env→Prop}{ops:Array Oper}{o:Oper}{os:List Oper}{id:Nat}{wr:Wr}{chg:Chg}{hs:List Nat}
def zHx(P:Program)(Γ:Ctx)(pn:jR)(ops:Array Oper)(o:Oper)(E E':Env):Prop:=
 ∀(a:Act)(w:World)(K:Act→World→Prop)(Q:Exit→Act→World→Prop),pn.Hold a→jA Γ E a w→(∀a' w',jA Γ E' a' w'→(∀s,o.dst≠ja s→a'.tmps[s]? =a.tmps[s]?)→K a' w')→
  if Region.wanted o (yielded ops a.tmps)then o.wp P a w K Q∨(o.asks P a w∧LetsOut Q)else K (a.put o.dst undef) w
def vQ(P:Program)(Γ:Ctx)(pn:jR)(hs:List Nat)(ops:Array Oper):List Oper→List Stp→Prop
 | [],[]=>True
 |o::os,X::Xs=>(∀E:Env,E.Has X.rd→jJ hs E→zHx P Γ pn ops o E (E.apps X.l))∧vQ P Γ pn hs ops os Xs
 |_,_=>False
theorem vQ.get:∀(os:List Oper)(Xs:List Stp),vQ P Γ pn hs ops os Xs→os.length=Xs.length∧ ∀(i:Nat)(o:Oper)(X:Stp),os[i]? =ja o→Xs[i]? =ja X→ ∀E:Env,E.Has X.rd→jJ hs E→zHx P Γ pn ops o E (E.apps X.l)
 | [],[],_=>⟨rfl,fun i o X h=>by simp at h⟩
 |o::os,X::Xs,h=>by
  obtain⟨h1,h2⟩:=vQ.get os Xs h.2;refine⟨by simp[h1],fun i o' X' ho hX=>?_⟩;cases i with
  |zero=>simp at ho hX;subst ho hX;exact h.1
  |succ i=>exact h2 i o' X' (by simpa using ho) (by simpa using hX)
 | [],_::_,h=>by simp[vQ]at h
 |_::_,[],h=>by simp[vQ]at h
theorem vQ.snoc{X:Stp}:∀(os:List Oper)(Xs:List Stp),vQ P Γ pn hs ops os Xs→(∀E:Env,E.Has X.rd→jJ hs E→zHx P Γ pn ops o E (E.apps X.l))→vQ P Γ pn hs ops (os++[o]) (Xs++[X])
 | [],[],_,h=>⟨h,trivial⟩
 |_::os,_::Xs,h1,h=>⟨h1.1,vQ.snoc os Xs h1.2 h⟩
 | [],_::_,h,_=>by simp[vQ]at h
 |_::_,[],h,_=>by simp[vQ]at h
theorem sU.snoc{X:Stp}:∀(Xs:List Stp)(E:Env),sU E Xs→(runD E (Xs.map fun y=>(jc,y))).Has X.rd→sU E (Xs++[X])
 | [],_,_,h=>⟨by simpa[runD]using h,trivial⟩
 |_::Xs,_,h1,h=>⟨h1.1,sU.snoc Xs _ h1.2 (by simpa[runD]using h)⟩
theorem zJS{E0:Env}{eE:List Nat}{Xs:List Stp}{an:List (List Nat)}{Q':Exit→Act→World→Prop}(hf:zAK 0 ops.toList=jc)(ha:zAj an an ops.toList=jc)(hp:jS Xs 0 an Xs=jc)
  (gB:vQ P Γ pn eE ops ops.toList Xs)(hI:jJ eE E0)(hw:Xs.all (wrS eE)=jc)(hh:sU E0 Xs)(bA:ops.toList.all (fun o=>pn.ok o.dst)=jc)(hQ:∀a' w',jA Γ (runD E0 (Xs.map fun y=>(jc,y))) a' w'→pn.Hold a'→Q' .normal a' w'):
  ∀(fuel:Nat)(L:List Bool)(a:Act)(w:World),L.length=ops.size→L.count jd=fuel→zRE ops L→jA Γ (runD E0 (L.zip Xs)) a w→pn.Hold a→wpAny P .any ops Q' fuel L.toArray a w:=by
 obtain⟨gj,mE⟩:=vQ.get _ _ gB;have cM:Xs.length=ops.size:=by rw[←gj];simp
 intro fuel
 induction fuel with
 |zero=>
  intro L a w hL hcnt gG hs fT;have pY:∀b∈L,b=jc:=fun b hb=>by
   cases b with
   |true=>rfl
   |false=>exact absurd hb (Jbb.1 hcnt)
  have j7:L=J1 ops.size jc:=by rw[←hL];exact List.eq_replicate_iff.2 ⟨rfl,pY⟩
  refine⟨?_,?_⟩
  ·apply List.eq_nil_iff_forall_not_mem.2
   intro j hj;obtain⟨h1,o,ho,_⟩:=mem_ready.1 hj;have gz:=(Km.1 ho).1;rw[j7]at h1;simp[gz]at h1
  ·refine hQ a w ?_ fT
   have:L.zip Xs=Xs.map fun y=>(jc,y):=by
    rw[j7,←cM]
    clear hs hL j7 pY hcnt gG gB hw hh hp gj cM mE hQ
    induction Xs with
    |nil=>rfl
    |cons X Xs ih=>simp[Jq,ih]
   rw[this]at hs;exact hs
 |succ fuel ih=>
  intro L a w hL hcnt gG hs fT;refine⟨fun hr=>?_,fun i hi=>?_⟩
  ·
   exfalso
   have cN:∃m:Nat,L[m]? =ja jd:=by
    have:jd∈L:=by apply Classical.byContradiction;intro h;rw[Jbb.2 h]at hcnt;omega
    exact Jaq.1 this
   obtain⟨m,hm,eF⟩:=zBq cN;have iz:=(Jb.1 hm).1;have tw:ops[m]? =ja ops[m]:=by simp[hL▸iz]
   have:m∈Region.ready .any ops L.toArray:=by
    refine mem_ready.2 ⟨by simp[K8,hm],ops[m],tw,fun e he hb=>?_⟩;have hpm:e.on∈zBr ops[m]:=by simp only[zBr,Js,Jc1];exact⟨e,⟨by simpa using he,hb⟩,rfl⟩
    have gz:=zG6 ops.toList 0 m _ hf (by rw[K9];exact tw) _ hpm;rw[Jg]at gz;cases ae:L[e.on]? with
    |none=>rw[Ja0]at ae;omega
    |some b=>
     cases b with
     |false=>exact absurd ae (eF _ gz)
     |true=>simp[K8,ae]
   rw[hr]at this;cases this
  ·obtain⟨h1,o,ho,pY⟩:=mem_ready.1 hi
   have gz:=(Km.1 ho).1;have j8:L[i]? =ja jd:=by
    cases hb:L[i]? with
    |none=>rw[Ja0]at hb;omega
    |some b=>simp[K8,hb]at h1;rw[h1]
   have cv:∀m∈zBr o,L[m]? =ja jc:=by
    intro m hm;simp only[zBr,Js,Jc1]at hm;obtain⟨e,⟨he,hb⟩,rfl⟩:=hm;have:=pY e (by simpa using he) hb;cases ae:L[e.on]? with
    |none=>simp[K8,ae]at this
    |some b=>simp[K8,ae]at this;rw[this]
   have iY:=zHp hf ha gG i i (Jo _) o ho cv;have t8:Xs[i]? =ja Xs[i]:=by simp[cM▸gz]
   generalize hXe:Xs[i]=X at t8
   have mN:∀(j:Nat)(Y:Stp),Xs[j]? =ja Y→i<j→L[j]? =ja jc→X.apart Y=jc:=by
    intro j Y hY gP hj;rcases zFv Xs Xs 0 an j Y hp hY i X (by omega) t8 with h|h
    ·have iE:=(Jb.1 hY).1
     have hoj:ops[j]? =ja ops[j]:=by simp[cM▸iE]
     have:=zHp hf ha gG j j (Jo _) _ hoj (gG j _ hoj hj) i h;rw[j8]at this;cases this
    ·exact h
   have bW:∀(j:Nat)(Y:Stp),Xs[j]? =ja Y→j<i→L[j]? =ja jd→Y.apart X=jc:=by
    intro j Y hY gP hj;rcases zFv Xs Xs 0 an i X hp t8 j Y (by omega) hY with h|h
    ·rw[iY j h]at hj;cases hj
    ·exact h
   have cu:∀y∈(L.take i).zip (Xs.take i),∃j:Nat,j<i∧L[j]? =ja y.1∧Xs[j]? =ja y.2:=by
    intro y hy;obtain⟨j,g1,g2⟩:=zJJ hy;rw[H5]at g1 g2;split at g1
    ·rename_i mm;simp[mm]at g2;exact⟨j,mm,g1,g2⟩
    ·cases g1
   have mJ:∀y∈(L.drop (i+1)).zip (Xs.drop (i+1)),∃j:Nat,i<j∧L[j]? =ja y.1∧Xs[j]? =ja y.2:=by intro y hy;obtain⟨j,g1,g2⟩:=zJJ hy;rw[Ko]at g1 g2;exact⟨i+1+j,by omega,g1,g2⟩
   have bc:=zIY j8 t8;have iJ:(runD E0 (L.zip Xs)).Has X.rd:=by
    rw[bc,kJ];simp only[runD,Gk,if_false];have h0:=sU.get Xs E0 hh i X t8;refine h0.of fun s t gB eE=>?_
    have tj:s∈X.rd.map (·.1):=Js.2 ⟨_,gB,rfl⟩;refine zIX _ _ (fun y hy hb=>?_) ?_
    ·obtain⟨j,g1,g2,g3⟩:=mJ y hy
     have:=Stp.apart_spec (mN j y.2 g3 g1 (by rw[g2,hb]));exact⟨fun gI=>this.2.2.1 s gI tj,fun z hz=>this.2.2.2 _ gB z hz⟩
    ·have hmp:((L.take i).zip (Xs.take i)).map (fun y=>(jc,y.2))=(Xs.take i).map fun y=>(jc,y):=by
      have d8:(L.take i).length=(Xs.take i).length:=by simp;omega
      rw[show(fun y:Bool×Stp=>(jc,y.2))=(fun y=>(jc,y))∘Prod.snd from rfl,←Jbs,List.map_snd_zip (by omega)]
     refine zIW _ E0 E0 (fun y hy hb gI=>?_) (fun _ h=>h) t (by rw[hmp];exact eE);obtain⟨j,g1,g2,g3⟩:=cu y hy;have:=Stp.apart_spec (bW j y.2 g3 g1 (by rw[g2,hb]));exact this.2.1 s gI tj
   have aX:runD E0 ((L.set i jc).zip Xs)=(runD E0 (L.zip Xs)).apps X.l:=by
    have hLs:(L.set i jc)[i]? =ja jc:=by simp[hL▸gz]
    rw[zIY hLs t8,bc,kJ,kJ];simp only[runD,if_true,Gk,if_false,List.take_set_of_le (Jo i),List.drop_set_of_lt (Nat.lt_succ_self i)];refine zFu _ X _ fun y hy hb=>?_
    obtain⟨j,g1,g2,g3⟩:=mJ y hy;exact(Stp.apart_spec (mN j y.2 g3 g1 (by rw[g2,hb]))).1
   have uf:=mE i o X (by rw[K9];exact ho) t8 _ iJ (jJ.runD (L.zip Xs) E0 hI fun y hy=>Ki.1 hw _ (by obtain⟨j,_,g⟩:=zJJ hy;exact Kh g));unfold wpOp;simp only[ho];refine uf a w _ Q' fT hs fun a' w' gI bS=>?_
   rw[List.setIfInBounds_toArray];have gE:pn.ok o.dst=jc:=Ki.1 bA o (Kh (by rw[K9];exact ho));refine ih (L.set i jc) a' w' (by simp[hL]) (by have:=zPT j8;omega) ?_ (by rw[aX];exact gI) (fT.frame gE bS);intro k ok hk hkt m hm
   by_cases hki:k=i
   ·subst hki
    rw[ho]at hk;simp at hk;subst hk;rw[Jc7];split
    ·split
     ·rfl
     ·omega
    ·exact cv m hm
   ·rw[Jak (Ne.symm hki)]at hkt
    rw[Jc7];split
    ·split
     ·rfl
     ·omega
    ·exact gG k ok hk hkt m hm
theorem CW.drawnI{eE:List Nat}{id:Nat}{E:Env}{Q:Exit→Env→Prop}(Xs:List Stp)(an:List (List Nat))(hm:P.follows .mixedOrders=jc)(gB:vQ P Γ pn eE ops ops.toList Xs)(hI:jJ eE E)(hw:Xs.all (wrS eE)=jc)(hh:sU E Xs)
  (hQ:Q .normal (runD E (Xs.map fun y=>(jc,y))))(hf:zAK 0 ops.toList=jc:=by rfl)(ha:zAj an an ops.toList=jc:=by rfl)(hp:jS Xs 0 an Xs=jc:=by rfl)
  (bA:ops.toList.all (fun o=>pn.ok o.dst)=jc:=by rfl):CW P Γ pn (.region id ops jc) E Q:=by
 intro a w Q' hs fT hQ';refine wp_region_any hm ?_;have gI:jA Γ E a { w with drawn:=w.drawn+1 }:=by obtain⟨S,hS,gQ,G,hr⟩:=hs;exact⟨S,hS,gQ,G,hr.heap rfl⟩
 have:=zJS (P:=P) (Γ:=Γ) (pn:=pn) (E0:=E) (Q':=Q') hf ha hp gB hI hw hh bA (fun a' w' h1 h2=>hQ' _ _ _ _ hQ h1 h2) ops.size (J1 ops.size jd) a { w with drawn:=w.drawn+1 } (by simp) (by simp)
  (fun i o ho hi=>by
   rw[Kw]at hi;split at hi<;>cases hi) (by
   have:runD E ((J1 ops.size jd).zip Xs)=E:=by
    generalize ops.size=n
    clear gB hI hw hh hQ hf ha hp gI
    induction n generalizing Xs with
    |zero=>simp[runD]
    |succ n ih=>
     cases Xs with
     |nil=>simp[runD]
     |cons X Xs=>simpa[Jq,runD]using ih Xs
   rw[this];exact gI) fT
 simpa using this
def DK(P:Program)(Γ:Ctx)(pn:jR)(ops:Array Oper)(id:Nat)(hs:List Nat)(E0:Env)(Q:Exit→Env→Prop)(os:List Oper)(E:Env)(acc:List Stp):Prop:=
 ∀don,don++os=ops.toList→vQ P Γ pn hs ops don acc.reverse→sU E0 acc.reverse→E=runD E0 (acc.reverse.map fun y=>(jc,y))→CW P Γ pn (.region id ops jc) E0 Q
variable {E0:Env}{acc:List Stp}
theorem CW.dk(h:DK P Γ pn ops id [] E Q ops.toList E []):CW P Γ pn (.region id ops jc) E Q:=h [] rfl trivial trivial rfl
theorem CW.dkS(hs:List Nat)(h:DK P Γ pn ops id hs E Q ops.toList E []):CW P Γ pn (.region id ops jc) E Q:=h [] rfl trivial trivial rfl
theorem dGP(rd:List (Nat×T))(l:zE3)(gD:E.Has rd)(gB:∀E':Env,E'.Has rd→jJ hs E'→zHx P Γ pn ops o E' (E'.apps l))(k:DK P Γ pn ops id hs E0 Q os (E.apps l) (⟨rd,l⟩::acc)):DK P Γ pn ops id hs E0 Q (o::os) E acc:=by
 intro don hd hso hh hE;subst hE;have hr:=fun X=>H2 (a:=X) (as:=acc)
 refine k (don++[o]) (by simp[hd]) ?_ ?_ ?_
 ·rw[hr];exact vQ.snoc don _ hso gB
 ·rw[hr];exact sU.snoc _ _ hh gD
 ·rw[hr,Kx,kJ];rfl
theorem dGS(rd:List (Nat×T))(l:zE3)(gD:E.Has rd)(gB:∀E':Env,E'.Has rd→jJ hs E'→zY P Γ ops o E' (E'.apps l))(k:DK P Γ pn ops id hs E0 Q os (E.apps l) (⟨rd,l⟩::acc)):DK P Γ pn ops id hs E0 Q (o::os) E acc:=
 dGP rd l gD (fun E' h h' a w K Q _=>gB E' h h' a w K Q) k
theorem dG(rd:List (Nat×T))(l:zE3)(gD:E.Has rd)(gB:∀E':Env,E'.Has rd→zY P Γ ops o E' (E'.apps l))(k:DK P Γ pn ops id hs E0 Q os (E.apps l) (⟨rd,l⟩::acc)):DK P Γ pn ops id hs E0 Q (o::os) E acc:=
 dGS rd l gD (fun E' h _=>gB E' h) k
def zRU(hs:List Nat)(E:Env):Bool:=hs.all fun s=>match E s with
 |some t=>zAl t
 |none=>jd
theorem zRV(h:zRU hs E=jc):jJ hs E:=by
 intro s gI;have h1:=Ki.1 h s (by simpa using gI);cases he:E s with
 |none=>simp[he]at h1
 |some t=>exact⟨t,rfl,by simpa[he]using h1⟩
theorem dN(an:List (List Nat))(hm:P.follows .mixedOrders=jc)(hQ:Q .normal E)(hf:zAK 0 ops.toList=jc:=by rfl)(ha:zAj an an ops.toList=jc:=by rfl)(hp:jS acc.reverse 0 an acc.reverse=jc:=by rfl)
  (bA:ops.toList.all (fun o=>pn.ok o.dst)=jc:=by rfl)(bR:zRU hs E0=jc:=by rfl)(hw:acc.reverse.all (wrS hs)=jc:=by rfl):DK P Γ pn ops id hs E0 Q [] E acc:=by
 intro don hd gB hh hE;subst hE;refine CW.drawnI acc.reverse an hm ?_ (zRV bR) hw hh hQ hf ha hp bA;rw[←hd,J9];exact gB
end
end Go.Ab
