/- The program's DerivationKernel returns what the reference's returns,for all arguments;no conditions. -/
import Derived.Test.YtibamokcnfffhaaGreatAbA
import Derived.Laws.CopyRow
import Derived.ProofKit
open List renaming replicate→J1,getElem?_eq_getElem→J5,getElem?_eq_some_iff→J8,length_append→J9,mem_map→Ja,append_assoc→Jb,getElem?_append_right→Jd,append_nil→Je,length_map→Jf,map_cons→Jg,length_cons→Jh,getElem?_map→Jj,mem_cons→Jl,range→Jo,mem_append→Jq,eq_nil_of_length_eq_zero→Jr,all_eq_true→Ju,replicate_succ→Jz,getElem?_append→K2,nil_append→K3,getElem?_append_left→K5,nodup_cons→K7,reverse_reverse→Kc,take_zero→Kg,singleton_append→Kh,take_succ_cons→Kj,mem_of_getElem?→Kk,cons_append→Kl,length_take→Kr,flatMap_cons→Kv,mem_iff_getElem→L0,getElem?_drop→L1,contains_eq_mem→L2,getElem?_take→L6,map_append→Le,range'_succ→Lo,map_nil→Ly,length_range→Lz,reverse_nil→H5,range'→H7,getElem?_set_self→Hl,getElem?_set_ne→Hm,length_nil→G7,reverse_cons→Ga,map_take→Gd,getD→Gg,mem_filter→Gk,find?_cons_of_neg→Gz,mem_iff_getElem?→U2,mem_cons_of_mem→Ui,getLast?_append→Uj,dropLast_concat→Uk,find?_eq_none→Ut,all_cons→Q7,getElem?_cons_succ→Q9,cons→Qb,getElem?_set→Qh,drop_zero→Jaz,size_toArray→Jb5,map_drop→Jb6
open Bool renaming and_eq_true→J2,not_true→Jm,and_self→Ke,false_eq_true→La,not_eq_true'→H0,true_and→Jb7
open Nat renaming blt→J3,zero_add→J6,le_refl→Ji,zero_le→Km,succ_mul→Kz,mul_le_mul_right→L3,add_assoc→L9,le_trans→Lb,mul_one→Hu,lt_or_ge→Hv,add_zero→U1,sub_zero→Q3
open Array renaming getElem?_setIfInBounds→J7,length_toList→Jv,getD_eq_getD_getElem?→Jx,getElem?_toList→K4,getElem?_eq_some_iff→Ky,replicate→G8
open Option renaming map_eq_some_iff→Jt,map_some→Lm,some→G6,getD_some→G9,map_eq_none_iff→Gj
open Prod renaming mk→Us
open Option renaming some→aN,none→aO
open Bool renaming true→aP,false→aQ
namespace Go.Ab
open Go
abbrev Rw:=List (Nat×Nat×T)
def rwI(rw:Rw)(s:Nat):Option Nat:=(rw.find? fun x=>x.2.1==s).map (·.1)
def rwS(rw:Rw)(i:Nat):Option Nat:=(rw.find? fun x=>x.1==i).map (·.2.1)
theorem zAq:(rw:Rw)→(rw.map (·.2.1)).Nodup→ ∀{i s:Nat}{u:T},(i,s,u)∈rw→rwI rw s=aN i
 | [],_,_,_,_,h=>by simp at h
 |(i0,s0,u0)::rw,hn,i,s,u,h=>by
  simp only[Jg,K7,Ja]at hn;rcases Jl.1 h with h|h
  ·simp at h;obtain⟨rfl,rfl,rfl⟩:=h;simp[rwI]
  ·have gj:s0≠s:=fun e=>hn.1 ⟨_,h,e.symm⟩
   have:=zAq rw hn.2 h;simp only[rwI]at this ⊢
   rw[Gz (by simpa using gj)];exact this
theorem zHi:(rw:Rw)→(rw.map (·.1)).Nodup→ ∀{i s:Nat}{u:T},(i,s,u)∈rw→rwS rw i=aN s
 | [],_,_,_,_,h=>by simp at h
 |(i0,s0,u0)::rw,hn,i,s,u,h=>by
  simp only[Jg,K7,Ja]at hn;rcases Jl.1 h with h|h
  ·simp at h;obtain⟨rfl,rfl,rfl⟩:=h;simp[rwS]
  ·have gj:i0≠i:=fun e=>hn.1 ⟨_,h,e.symm⟩
   have:=zHi rw hn.2 h;simp only[rwS]at this ⊢
   rw[Gz (by simpa using gj)];exact this
theorem zHj{rw:Rw}{s:Nat}(h:s∉rw.map (·.2.1)):rwI rw s=aO:=by simp only[rwI,Gj,Ut];intro x hx;simp only[beq_iff_eq];exact fun e=>h (Ja.2 ⟨x,hx,e⟩)
theorem zLI{rw:Rw}{i:Nat}(h:∀x∈rw,x.1≠i):rwS rw i=aO:=by simp only[rwS,Gj,Ut];intro x hx;simpa using h x hx
theorem zJ7{rw:Rw}{s i:Nat}(h:rwI rw s=aN i):s∈rw.map (·.2.1):=by simp only[rwI,Jt]at h;obtain⟨x,hx,_⟩:=h;have h1:=List.mem_of_find?_eq_some hx;have h2:=List.find?_some hx;exact Ja.2 ⟨x,h1,by simpa using h2⟩
abbrev Nd:=List (Nat×List Nat×T)
def zLJ(nd:Nd)(k s:Nat):Option (Nat×List Nat):=
 match nd with
 | []=>aO
 |x::r=>if x.1=s then aN (k,x.2.1)else zLJ r (k+1) s
def ndB(d:Nat)(nd:Nd)(s:Nat)(z:List Nat):Option (Nat×List Nat):=
 match nd with
 | [x]=>if x.1=s∧x.2.1<:+z then aN (d,z.take (z.length-x.2.1.length))else aO
 |nd=>match zLJ nd 0 s with
  |some (k,q)=>if q<:+z then aN (d,z.take (z.length-q.length)++[k])else aO
  |none=>aO
theorem zFf:(nd:Nd)→(nd.map (·.1)).Nodup→ ∀{k k0:Nat}{x:Nat×List Nat×T},nd[k]? =aN x→zLJ nd k0 x.1=aN (k0+k,x.2.1)
 | [],_,_,_,_,h=>by simp at h
 |y::nd,hn,k,k0,x,h=>by
  simp only[Jg,K7,Ja]at hn;cases k with
  |zero=>simp at h;subst h;simp[zLJ]
  |succ k=>
   simp only[Q9]at h;have gj:y.1≠x.1:=fun e=>hn.1 ⟨x,Kk h,e.symm⟩
   simp only[zLJ,gj,if_false];rw[zFf nd hn.2 h]
   congr 2;omega
def zLK(G:Gh)(nd:Nd)(z:List Nat):Value:=
 match nd with
 | [x]=>G.hd x.1 (z++x.2.1)
 |nd=>match z.getLast? with
  |some k=>(match nd[k]? with
   |some x=>G.hd x.1 (z.dropLast++x.2.1)
   |none=>.bool aQ)
  |none=>.bool aQ
def zOJ(G:Gh)(nd:Nd)(z:List Nat):Addr:=
 match nd with
 | [x]=>G.ad x.1 (z++x.2.1)
 |nd=>match z.getLast? with
  |some k=>(match nd[k]? with
   |some x=>G.ad x.1 (z.dropLast++x.2.1)
   |none=>default)
  |none=>default
def Gh.arg(G:Gh)(a:Act)(xs:List Operand)(rw:Rw):Gh where
 hd i z:=match xs[i]? with
  |some (.tmp s)=>G.hd s z
  |some x=>tM (a.eval x)
  |none=>.bool aQ
 ad i z:=match xs[i]? with
  |some (.tmp s)=>G.ad s z
  |_=>default
 lb b o:=match G.lb b o with
  |some (f,s,z)=>(match rwI rw s,G.ow b with
   |some i,aN (s',_)=>if s'=s then aN (f,i,z)else aO
   |_,_=>aO)
  |none=>aO
 ow b:=match G.ow b with
  |some (s,z)=>(match rwI rw s with
   |some i=>aN (i,z)
   |none=>aO)
  |none=>aO
def qE(G:Gh)(rw:Rw)(b:Nat):Prop:=∃s z,G.ow b=aN (s,z)∧s∈rw.map (·.2.1)
def zBi(d:Nat)(rw:Rw)(nd:Nd)(s:Nat)(z:List Nat):Option (Nat×List Nat):=
 match rwS rw s with
 |some s'=>aN (s',z)
 |none=>ndB d nd s z
open Classical in
noncomputable def Gh.back (G G':Gh) (n0 d:Nat) (rw:Rw) (nd:Nd):Gh where
 hd s z:=if s=d then zLK G' nd z else match rwI rw s with
  |some i=>G'.hd i z
  |none=>G.hd s z
 ad s z:=if s=d then zOJ G' nd z else match rwI rw s with
  |some i=>if z=[]then G.ad s z else G'.ad i z
  |none=>G.ad s z
 lb b o:=if qE G rw b∨n0≤b then(match G'.lb b o with
  |some (f,s,z)=>(match zBi d rw nd s z with
   |some (s',z')=>aN (f,s',z')
   |none=>aO)
  |none=>aO)else G.lb b o
 ow b:=if qE G rw b∨n0≤b then(match G'.ow b with
  |some (s,z)=>zBi d rw nd s z
  |none=>aO)else G.ow b
def zI2(res:List T):T:=match res with
 | [u]=>u
 |us=>.tup us
def cWr(d:Nat)(res:List T)(rw:Rw):Wr:=(d,aN (zI2 res))::rw.map fun x=>(x.2.1,aN x.2.2)
def cLv(t:T):Nat:=if t.single then 1 else 0
def wC(d:Nat)(rw:Rw):Chg:=(d,0)::rw.map fun x=>(x.2.1,cLv x.2.2)
theorem zDT{d:Nat}{rw:Rw}{x:Nat×Nat×T}(h:x∈rw):(x.2.1,cLv x.2.2)∈wC d rw:=Ui _ (Ja.2 ⟨x,h,rfl⟩)
theorem zJ8{Gn G':Gh}{d:Nat}:(nd:Nd)→ ∀(j:Nat),(∀k x,nd[k]? =aN x→ ∀z,Gn.hd d (z++[j+k])=G'.hd x.1 (z++x.2.1))→sB Gn d (nd.map (·.2.2)) [] j=nd.map fun x=>vO G' x.1 x.2.2 x.2.1
 | [],_,_=>by simp[sB]
 |x::nd,j,h=>by
  have ih:=zJ8 (Gn:=Gn) (G':=G') (d:=d) nd (j+1) (fun k y hy z=>by rw[show j+1+k=j+(k+1)from by omega];exact h (k+1) y (by simpa using hy) z)
  simp only[Jg,sB,ih];rw[kE x.2.2 x.2.1 [j] (by simpa using h 0 x (by simp))]
theorem zLL{d:Nat}{res:List T}{rw:Rw}{s:Nat}{x:Option T}(h:(cWr d res rw).find s=aN x):(s=d∧x=aN (zI2 res))∨(s≠d∧ ∃i u,(i,s,u)∈rw∧x=aN u):=by
 simp only[cWr,Wr.find]at h;split at h
 ·rename_i he;simp at h;exact .inl ⟨he.symm,h.symm⟩
 ·rename_i gj
  refine .inr ⟨fun e=>gj e.symm,?_⟩
  clear gj
  induction rw with
  |nil=>simp[Wr.find]at h
  |cons y rw ih=>
   simp only[Jg,Wr.find]at h;split at h
   ·rename_i he;simp at h;subst he;exact⟨y.1,y.2.2,by simp,h.symm⟩
   ·obtain⟨i,u,h1,h2⟩:=ih h;exact⟨i,u,by simp[h1],h2⟩
theorem zLM{d:Nat}{res:List T}{rw:Rw}{s:Nat}(h:(cWr d res rw).find s=aO):s≠d∧s∉rw.map (·.2.1):=by
 simp only[cWr,Wr.find]at h;split at h
 ·cases h
 ·rename_i gj
  refine⟨fun e=>gj e.symm,?_⟩
  clear gj
  induction rw with
  |nil=>simp
  |cons y rw ih=>
   simp only[Jg,Wr.find]at h;split at h
   ·cases h
   ·rename_i he
    simp only[Jg,Jl,not_or];exact⟨fun e=>he e.symm,ih h⟩
def aft(S Sc S':Stb):Stb:=fun b=>match Sc b with
 |none=>S' b
 |some _=>S b
theorem Rep.up{Γ:Ctx}{E:Env}{G:Gh}{tmps tmps':Array Value}{w w':World}{G':Gh}{wr:Wr}{chg:Chg}{S:Stb}(h:Rep Γ E G tmps w)(hS:∀b x,Γ.St b=aN x→S b=aN x)
  (gH:tmps'.size=tmps.size)(hk:tD chg G w G' w')(gv:Mem (Γ.at S) G' w')
  (gA:∀s,wr.find s=aO→(∀n,(s,n)∉chg)∧tmps'[s]? =tmps[s]?)
  (gY:∀s t,wr.find s=aN (aN t)→Ent (Γ.at S) G' w' tmps'[s]? s t):Rep (Γ.at S) (E.app wr chg) G' tmps' w' where
 size:=by rw[gH];exact h.size
 mem:=gv
 ent s t hs:=by
  unfold Env.app at hs;cases hf:wr.find s with
  |some x=>
   rw[hf]at hs;simp at hs;subst hs;exact gY s t hf
  |none=>
   rw[hf]at hs;simp at hs;cases he:E s with
   |none=>simp[he]at hs
   |some u=>
    simp[he]at hs;obtain⟨gG,rfl⟩:=hs;rw[(gA s hf).2];obtain⟨e1,e2,e3⟩:=Ent.keep hk (gA s hf).1 gG (h.ent s u he);exact⟨e1,zGj hS u [] e2,e3⟩
section
variable {P:Program}{Γ:Ctx}{E:Env}{d:Nat}
theorem zBV{G:Gh}{a:Act}{w:World}(g9:Rep Γ E G a.tmps w)(hd:d<Γ.N){Sc:Stb}{rw:Rw}(hS1:∀b x,Sc b=aN x→w.heap[b]? =aN x∧ ¬qE G rw b)(hS0:∀b x,Γ.St b=aN x→Sc b=aN x){f:FuncId}{us res:List T}
  (hc:FnC P f us res (rw.map fun x=>(x.1,x.2.2))){xs:List Operand}(gg:xs.length=us.length)
  (gc:∀(i:Nat) u,us[i]? =aN u→(∃x,xs[i]? =aN x∧a.eval x=mkV (G.arg a xs rw) i u []∧R Sc (G.arg a xs rw) w i u []))
  (hn1:(d::rw.map (·.2.1)).Nodup)(hn2:(rw.map (·.1)).Nodup)(ef:∀x∈rw,xs[x.1]? =aN (.tmp x.2.1))
  (gk:∀u∈res,zO u∧u.okTup=aP∧ ∀(S':Stb)(G:Gh)(w:World)(s:Nat)(p:List Nat),(∀b x,Sc b=aN x→S' b=aN x)→R S' G w s u p→R (aft Γ.St Sc S') G w s u p)
  (mS:∀x∈rw,zO x.2.2∧(∀(S':Stb)(G:Gh)(w:World)(s:Nat)(p:List Nat),(∀b x,Sc b=aN x→S' b=aN x)→R S' G w s x.2.2 p→R (aft Γ.St Sc S') G w s x.2.2 p)∧ ∃u,E x.2.1=aN u∧x.2.2.single=u.single∧us[x.1]? =aN u):
  Calls P f (xs.map a.eval).toArray w fun e w'=> ∃v,e=.returned v∧ ∃S G',zBp Γ.St S Γ.W Γ.w0.heap.size∧tD (wC d rw) G w G' w'∧Rep (Γ.at S) (E.app (cWr d res rw) (wC d rw)) G' (a.tmps.setIfInBounds d v) w':=by
 have hm:=g9.mem;have cY:=K7.1 hn1;have hmc:Mem ⟨Sc,qE G rw,w,0⟩ (G.arg a xs rw) w:=by
  have gD:∀b,qE G rw b→Sc b=aO:=fun b h=>by
   cases hs:Sc b with
   |none=>rfl
   |some x=>exact absurd h (hS1 b x hs).2
  refine⟨fun i z=>?_,fun b o l hl=>?_,fun b l hl=>?_,fun b x hx=>(hS1 b x hx).1,fun b _ _=>rfl,Ji _,⟨fun b cs e h=>⟨cs,h,rfl⟩,rfl,rfl⟩⟩
  ·simp only[Gh.arg]
   split
   ·exact hm.one _ _
   ·exact jL _
   ·rfl
  ·simp only[Gh.arg]at hl
   split at hl
   ·rename_i f' s z hg
    split at hl
    ·rename_i i s' y hi ho
     split at hl
     ·rename_i he;subst he
      have hL:qE G rw b:=⟨s',y,ho,zJ7 hi⟩;exact⟨(hm.lb b o _ hg).1,.inr hL,gD b hL⟩
     ·cases hl
    ·cases hl
   ·cases hl
  ·simp only[Gh.arg]at hl
   split at hl
   ·rename_i s z hg
    split at hl
    ·rename_i i hi
     have hL:qE G rw b:=⟨s,z,hg,zJ7 hi⟩;exact⟨(hm.ow b _ hg).1,.inr hL,gD b hL⟩
    ·cases hl
   ·cases hl
 have gm:=hc Sc (qE G rw) w (G.arg a xs rw) (xs.map a.eval).toArray (by simp[gg]) (fun i u hu=>by obtain⟨x,h1,h2,h3⟩:=gc i u hu;exact⟨by simp[h1,h2],h3⟩) hmc
 refine gm.mono ?_
 rintro e w' ⟨S',G',nd,gP,rfl,gx,fd,cx,cw,mR⟩
 have cj:∀b x,Γ.St b=aN x→aft Γ.St Sc S' b=aN x:=fun b x hx=>by simp only[aft,hS0 b x hx,hx]
 have ap:zBp Γ.St (aft Γ.St Sc S') Γ.W Γ.w0.heap.size:=⟨cj,fun b hb eI=>by
  simp only[aft]at eI;split at eI
  ·rename_i hs
   rcases gP.nw b hs eI with h|⟨s,z,h,_⟩
   ·exact .inl (by have:=hm.sz;omega)
   ·exact(hm.ow b _ h).2.1
  ·exact absurd hb eI⟩
 refine⟨_,rfl,aft Γ.St Sc S',G.back G' w.heap.size d rw nd,ap,?_⟩;have cB:∀b,b<w.heap.size→ ¬qE G rw b→w'.heap[b]? =w.heap[b]?:=gx.fr;have gu:w.heap.size≤w'.heap.size:=gx.sz;have gC:Blk w w':=gx.bk.blk
 generalize hGn:G.back G' w.heap.size d rw nd=Gn
 have ghdd:∀z,Gn.hd d z=zLK G' nd z:=fun z=>by rw[←hGn];simp[Gh.back]
 have gadd:∀z,Gn.ad d z=zOJ G' nd z:=fun z=>by rw[←hGn];simp[Gh.back]
 have ghd0:∀s z,s≠d→s∉rw.map (·.2.1)→Gn.hd s z=G.hd s z:=fun s z h1 h2=>by rw[←hGn];simp[Gh.back,h1,zHj h2]
 have gad0:∀s z,s≠d→s∉rw.map (·.2.1)→Gn.ad s z=G.ad s z:=fun s z h1 h2=>by rw[←hGn];simp[Gh.back,h1,zHj h2]
 have hH:∀i s u,(i,s,u)∈rw→s≠d:=fun i s u h e=>cY.1 (e▸Ja.2 ⟨_,h,rfl⟩)
 have ghdr:∀i s u z,(i,s,u)∈rw→Gn.hd s z=G'.hd i z:=fun i s u z h=>by rw[←hGn];simp[Gh.back,hH i s u h,zAq rw cY.2 h]
 have gadr:∀i s u z,(i,s,u)∈rw→z≠[]→Gn.ad s z=G'.ad i z:=fun i s u z h h0=>by rw[←hGn];simp[Gh.back,hH i s u h,zAq rw cY.2 h,h0]
 have gadr0:∀i s u,(i,s,u)∈rw→Gn.ad s []=G.ad s []:=fun i s u h=>by rw[←hGn];simp[Gh.back,hH i s u h,zAq rw cY.2 h]
 have glb0:∀b o l,¬qE G rw b→G.lb b o=aN l→Gn.lb b o=aN l:=fun b o l h1 h2=>by have:=(hm.lb b o _ h2).1;rw[←hGn];simp only[Gh.back];rw[if_neg (by rintro(h|h);exact h1 h;omega)];exact h2
 have gow0:∀b l,¬qE G rw b→G.ow b=aN l→Gn.ow b=aN l:=fun b l h1 h2=>by have:=(hm.ow b _ h2).1;rw[←hGn];simp only[Gh.back];rw[if_neg (by rintro(h|h);exact h1 h;omega)];exact h2
 have gV:∀b o l,G'.lb b o=aN l→qE G rw b∨w.heap.size≤b:=fun b o l h=>(gx.lb b o l h).2.1.symm
 have pN:∀b l,G'.ow b=aN l→qE G rw b∨w.heap.size≤b:=fun b l h=>(gx.ow b l h).2.1.symm
 have glb1:∀b o fl s z s' z',G'.lb b o=aN (fl,s,z)→zBi d rw nd s z=aN (s',z')→Gn.lb b o=aN (fl,s',z'):=fun b o fl s z s' z' h1 h2=>by rw[←hGn];simp only[Gh.back];rw[if_pos (gV b o _ h1),h1];simp[h2]
 have gow1:∀b s z l,G'.ow b=aN (s,z)→zBi d rw nd s z=aN l→Gn.ow b=aN l:=fun b s z l h1 h2=>by rw[←hGn];simp only[Gh.back];rw[if_pos (pN b _ h1),h1];simp[h2]
 have bR:∀i s u z,(i,s,u)∈rw→zBi d rw nd i z=aN (s,z):=fun i s u z h=>by simp[zBi,zHi rw hn2 h]
 have gI:∀x∈rw,x.1<us.length:=fun x hx=>by have:=(J8.1 (ef x hx)).1;omega
 have hbn:∀x∈nd,∀z,zBi d rw nd x.1 z=ndB d nd x.1 z:=fun x hx z=>by have h1:=(cx x hx).2;have h2:rwS rw x.1=aO:=zLI (fun y hy e=>by have:=gI y hy;omega);simp[zBi,h2]
 have pf:∀(k:Nat) x,nd[k]? =aN x→ ∃tgt,(nd.length=1→tgt=[])∧(nd.length≠1→tgt=[k])∧(∀z,Gn.hd d (z++tgt)=G'.hd x.1 (z++x.2.1))∧(∀z,Gn.ad d (z++tgt)=G'.ad x.1 (z++x.2.1))∧ ∀z,zBi d rw nd x.1 (z++x.2.1)=aN (d,z++tgt):=by
  intro k x hk;have ma:=Kk hk
  match nd,hk,cw,hbn x ma,ghdd,gadd with
  | [y],hk,cw,hb,ghdd,gadd=>
   have hkx:y=x:=by
    cases k with
    |zero=>simpa using hk
    |succ k=>simp at hk
   subst hkx;exact⟨[],fun _=>rfl,fun h=>absurd rfl h,fun z=>by rw[ghdd];simp[zLK],fun z=>by rw[gadd];simp[zOJ],fun z=>by rw[hb];simp[ndB]⟩
  | [],hk,_,_,_,_=>simp at hk
  |y1::y2::r,hk,cw,hb,ghdd,gadd=>
   refine⟨[k],fun h=>by simp at h,fun _=>rfl,fun z=>by rw[ghdd];simp only[zLK,Uj,Uk];simp[hk],fun z=>by rw[gadd];simp only[zOJ,Uj,Uk];simp[hk],fun z=>?_⟩;rw[hb];have:=zFf (y1::y2::r) cw (k0:=0) hk;rw[J6]at this;simp only[ndB,this];simp
 have cO:∀(k:Nat) x,nd[k]? =aN x→ ∀tgt,(∀z,Gn.hd d (z++tgt)=G'.hd x.1 (z++x.2.1))→(∀z,Gn.ad d (z++tgt)=G'.ad x.1 (z++x.2.1))→(∀z,zBi d rw nd x.1 (z++x.2.1)=aN (d,z++tgt))→R (aft Γ.St Sc S') Gn w' d x.2.2 tgt:=by intro k x hk tgt h1 h2 h3;have ma:=Kk hk;obtain⟨c1,c2,c3⟩:=gk x.2.2 (by rw[←fd];exact Ja.2 ⟨x,ma,rfl⟩);refine tU (G:=G') (w:=w') (s:=x.1) (p:=x.2.1) ⟨⟨h1,fun z _=>h2 z,fun b o f' z _ _ hl=>⟨glb1 b o f' _ _ _ _ hl (h3 z),rfl⟩,fun b z _ hl=>gow1 b _ _ _ hl (h3 z),fun b cs e h=>⟨cs,h,rfl⟩⟩,fun b o _ hl=>⟨glb1 b o aP _ _ _ _ hl (by simpa using h3 []),rfl⟩,fun b hl=>gow1 b _ _ _ hl (by simpa using h3 [])⟩ _ (yD.mono (fun _ _=>False.elim) _ c1) (c3 _ _ _ _ _ gP.le (cx x ma).1)
 have gw:tD (wC d rw) G w Gn w':=by
  have gB:∀s,(∀n,(s,n)∉wC d rw)→s≠d∧s∉rw.map (·.2.1):=fun s h=>⟨fun e=>h 0 (by simp[wC,e]),fun hm=>by obtain⟨x,hx,rfl⟩:=Ja.1 hm;exact h _ (zDT hx)⟩
  have fm:∀b s y,G.ow b=aN (s,y)→s∉rw.map (·.2.1)→ ¬qE G rw b:=by
   rintro b s y h1 h2 ⟨s',z',h3,h4⟩
   rw[h1]at h3;simp at h3;exact h2 (h3.1▸h4)
  refine⟨fun s p h=>?_,fun s p h=>?_,fun b o fl s p gO h1 h2=>?_,fun b s p h1 h2=>?_,gC⟩
  ·have h1:s≠d:=fun e=>absurd (h 0 (by simp[wC,e])) (by simp)
   by_cases h2:s∈rw.map (·.2.1)
   ·
    obtain⟨x,hx,rfl⟩:=Ja.1 h2;have hc:=h _ (zDT hx);have c2:x.2.2.single=aP:=by
     cases eH:x.2.2.single with
     |true=>rfl
     |false=>simp[cLv,eH]at hc
    have h3:p=[]:=Jr (by simp only[cLv,c2,if_true]at hc;omega);subst h3;obtain⟨_,_,u,c4,c5,c6⟩:=mS x hx;rw[c2]at c5;have c5:=c5.symm;obtain⟨_,u0,e1,e2⟩:=mR x.1 x.2.2 (Ja.2 ⟨x,hx,rfl⟩);rw[c6]at e1;simp at e1;subst e1;rw[yE c2,yE c5]at e2;rw[ghdr x.1 x.2.1 x.2.2 [] hx,e2];simp[Gh.arg,ef x hx]
   ·exact ghd0 s p h1 h2
  ·have h1:s≠d:=fun e=>absurd (h 0 (by simp[wC,e])) (by simp)
   by_cases h2:s∈rw.map (·.2.1)
   ·obtain⟨x,hx,rfl⟩:=Ja.1 h2
    have hc:=h _ (zDT hx);have h3:p=[]:=Jr (by have:cLv x.2.2≤1:=(by unfold cLv;split<;>omega);omega);subst h3;exact gadr0 x.1 x.2.1 x.2.2 hx
   ·exact gad0 s p h1 h2
  ·obtain⟨h3,h4⟩:=gB s h2
   obtain⟨y,hy⟩:=gO;have h5:=fm b s y hy h4;exact⟨glb0 b o _ h5 h1,by simp[yA,World.cell?,cB b (hm.lb b o _ h1).1 h5]⟩
  ·obtain⟨h3,h4⟩:=gB s h2
   exact gow0 b _ (fm b s p h1 h4) h1
 have gv:Mem (Γ.at (aft Γ.St Sc S')) Gn w':=by
  have gG:∀b,b<w'.heap.size∧(w.heap.size≤b∨qE G rw b)∧S' b=aO→zAi (Γ.at (aft Γ.St Sc S')) w' b:=fun b ⟨hb,h,gE⟩=>by
   have hsc:Sc b=aO:=by
    cases hs:Sc b with
    |none=>rfl
    |some x=>rw[gP.le b x hs]at gE;cases gE
   refine⟨hb,?_,by simp only[aft,hsc];exact gE⟩;rcases h with h|⟨s,z,h1,_⟩
   ·exact .inl (by have:=hm.sz;show Γ.w0.heap.size≤b;omega)
   ·exact(hm.ow b _ h1).2.1
  have gA:∀b,¬(qE G rw b∨w.heap.size≤b)→zAi Γ w b→zAi (Γ.at (aft Γ.St Sc S')) w' b:=fun b h ⟨h1,h2,h3⟩=>by
   refine⟨by omega,h2,?_⟩;simp only[aft];split
   ·rename_i hs
    cases gE:S' b with
    |none=>rfl
    |some x=>
     rcases gP.nw b hs (by rw[gE];simp)with h4|h4
     ·exact absurd (.inr h4) h
     ·exact absurd (.inl h4) h
   ·exact h3
  refine⟨fun s z=>?_,fun b o l hl=>?_,fun b l hl=>?_,fun b x hx=>?_,fun b(h1:b<Γ.w0.heap.size) h2=>?_,Lb hm.sz gu,hm.bk.trans gC gx.bk.os gx.bk.out⟩
  ·by_cases h1:s=d
   ·subst h1
    rw[ghdd];unfold zLK;split
    ·exact gx.one _ _
    ·split
     ·split
      ·exact gx.one _ _
      ·rfl
     ·rfl
   ·by_cases h2:s∈rw.map (·.2.1)
    ·obtain⟨x,hx,rfl⟩:=Ja.1 h2
     rw[ghdr x.1 x.2.1 x.2.2 z hx];exact gx.one _ _
    ·rw[ghd0 s z h1 h2];exact hm.one _ _
  ·rw[←hGn]at hl
   simp only[Gh.back]at hl;split at hl
   ·rename_i cE
    split at hl
    ·rename_i hg
     exact gG b (gx.lb b o _ hg)
    ·cases hl
   ·rename_i cE
    exact gA b cE (hm.lb b o l hl)
  ·rw[←hGn]at hl
   simp only[Gh.back]at hl;split at hl
   ·rename_i cE
    split at hl
    ·rename_i hg
     exact gG b (gx.ow b _ hg)
    ·cases hl
   ·rename_i cE
    exact gA b cE (hm.ow b l hl)
  ·simp only[aft]at hx
   split at hx
   ·exact gx.st b x hx
   have h1:=hm.st b x hx;have h2:=(Ky.1 h1).1;have h3:¬qE G rw b:=by
    rintro⟨s,z,h4,_⟩
    rw[(hm.ow b _ h4).2.2]at hx;cases hx
   rw[cB b h2 h3];exact h1
  ·have h3:¬qE G rw b:=by
    rintro⟨s,z,h4,_⟩
    rcases(hm.ow b _ h4).2.1 with h5|h5
    ·omega
    ·exact h2 h5
   rw[cB b (by have:=hm.sz;omega) h3];exact hm.fr b h1 h2
 have ah:nd.length=res.length:=by rw[←fd];simp
 refine⟨gw,g9.up cj (by simp) gw gv ?_ ?_⟩
 ·intro s hs
  obtain⟨h1,h2⟩:=zLM hs;refine⟨fun n hn=>?_,by rw[J7];simp[Ne.symm h1]⟩;simp only[wC,Jl,Us.injEq,Ja]at hn;rcases hn with⟨e,_⟩|⟨x,hx,e,_⟩
  ·exact h1 e
  ·exact h2 (Ja.2 ⟨x,hx,e⟩)
 ·intro s t hs
  rcases zLL hs with⟨rfl,ht⟩|⟨gj,i,u,fh,ht⟩
  ·simp at ht
   subst ht;rw[J7];simp only[g9.size,hd,if_true];have fK:res=nd.map (·.2.2):=fd.symm
   by_cases hl:nd.length=1
   ·obtain⟨x,hx⟩:∃x,nd=[x]:=List.length_eq_one_iff.1 hl
    obtain⟨tgt,t1,_,t3,t4,t5⟩:=pf 0 x (by simp[hx]);obtain rfl:=t1 hl;have hr:=cO 0 x (by simp[hx]) [] t3 t4 t5;obtain⟨c1,c2,_⟩:=gk x.2.2 (by rw[fK,hx];simp);have eR:zI2 res=x.2.2:=by rw[fK,hx];rfl
    have gR:∀ys,x.2.2≠.tup ys:=fun ys e=>by rw[e]at c2;simp[T.okTup]at c2
    rw[eR];refine⟨?_,hr,Top.of_clean _ c1⟩;rw[sC Gn s _ [] gR,kE x.2.2 x.2.1 [] t3,hx];rfl
   ·have eR:zI2 res=.tup res:=by
     rw[ah]at hl
     match res,hl with
     | [],_=>rfl
     | [u],hl=>simp at hl
     |_::_::_,_=>rfl
    rw[eR];have gF:∀k x,nd[k]? =aN x→ ∀z,Gn.hd s (z++[0+k])=G'.hd x.1 (z++x.2.1):=fun k x hk z=>by obtain⟨tgt,_,t2,t3,_,_⟩:=pf k x hk;rw[t2 hl]at t3;rw[J6];exact t3 z
    refine⟨?_,?_,?_⟩
    ·have hv:=zJ8 (Gn:=Gn) (G':=G') (d:=s) nd 0 gF
     rw[fd]at hv;simp only[mkV,hv];unfold zHe;split
     ·simp at hl
     ·rfl
    ·simp only[R]
     rw[fK];refine zJw _ [] 0 (fun k u hu=>?_);rw[Jj]at hu;cases hk:nd[k]? with
     |none=>simp[hk]at hu
     |some x=>
      simp[hk]at hu;subst hu;obtain⟨tgt,_,t2,t3,t4,t5⟩:=pf k x hk;rw[t2 hl]at t3 t4 t5;rw[J6];exact cO k x hk [k] t3 t4 t5
    ·simp only[Top]
     refine wL.of_clean _ ?_;have:∀us:List T,(∀u∈us,zO u)→yB us:=by
      intro us
      induction us with
      |nil=>intro _;trivial
      |cons u us ih=>intro h;exact⟨h u (by simp),ih fun v hv=>h v (by simp[hv])⟩
     exact this res fun u hu=>(gk u hu).1
  ·simp at ht
   subst ht;obtain⟨c1,c3,u0,c4,_,c6⟩:=mS _ fh;obtain⟨r1,u1,e1,e2⟩:=mR i t (Ja.2 ⟨_,fh,rfl⟩);simp only at c4 c6;rw[c6]at e1;simp at e1;subst e1;refine⟨?_,?_,Top.of_clean _ c1⟩
   ·rw[J7]
    simp only[Ne.symm gj,if_false];have bA:=ef _ fh;simp only at bA;have m1:mkV Gn s t []=mkV G' i t []:=zC1 t [] [] (fun z=>by rw[Je];exact ghdr i s t z fh);have m2:mkV (G.arg a xs rw) i u0 []=mkV G s u0 []:=zC1 u0 [] [] (fun z=>by simp[Gh.arg,bA]);rw[(g9.ent s u0 c4).1,m1,e2,m2]
   ·refine tU (G:=G') (w:=w') (s:=i) (p:=[]) ⟨⟨fun z=>by rw[Je];exact ghdr i s t z fh,fun z hz=>by rw[Je];exact gadr i s t z fh hz,fun b o f' z _ _ hl=>?_,fun b z _ hl=>?_,fun b cs e h=>⟨cs,h,rfl⟩⟩,fun b o _ hl=>⟨glb1 b o aP _ _ _ _ hl (bR i s t [] fh),rfl⟩,fun b hl=>gow1 b _ _ _ hl (bR i s t [] fh)⟩ t (yD.mono (fun _ _=>False.elim) _ c1) (c3 _ _ _ _ _ gP.le r1)
    ·rw[Je]at hl ⊢;exact⟨glb1 b o f' _ _ _ _ hl (bR i s t z fh),rfl⟩
    ·rw[Je]at hl ⊢;exact gow1 b _ _ _ hl (bR i s t z fh)
end
end Go.Ab

namespace Go.Ab
open Go
def zJ9(E:Env)(rs:List Nat)(x:Operand)(t:T):Bool:=
 match x with
 |.tmp s=>uH E rs s t
 |_=>aP
def zAa(E:Env)(rw:Rw)(i:Nat)(x:Operand)(u:T):Prop:=
 (∃s u',x=.tmp s∧(i,s,u')∈rw∧E s=aN u∧zO u∧u.okTup=aP∧xK u=aP)∨(∃t,opT E x=aN t∧clo E t=u∧zJ9 E (rw.map (·.2.1)) x t=aP)
def yN(E:Env)(rw:Rw):Nat→List Operand→List T→Prop
 |_,[],[]=>True
 |i,x::xs,u::us=>zAa E rw i x u∧yN E rw (i+1) xs us
 |_,_,_=>False
theorem yN.length{E:Env}{rw:Rw}:(xs:List Operand)→(us:List T)→ ∀i,yN E rw i xs us→xs.length=us.length
 | [],[],_,_=>rfl
 |_::xs,_::us,i,h=>by simp[yN.length xs us (i+1) h.2]
 | [],_::_,_,h=>by simp[yN]at h
 |_::_,[],_,h=>by simp[yN]at h
theorem yN.get{E:Env}{rw:Rw}:(xs:List Operand)→(us:List T)→ ∀i,yN E rw i xs us→ ∀(j:Nat) u,us[j]? =aN u→ ∃x,xs[j]? =aN x∧zAa E rw (i+j) x u
 | [],[],_,_,_,_,h=>by simp at h
 |x::xs,v::us,i,h,j,u,hj=>by
  cases j with
  |zero=>simp at hj;subst hj;exact⟨x,by simp,h.1⟩
  |succ j=>
   obtain⟨y,h1,h2⟩:=yN.get xs us (i+1) h.2 j u (by simpa using hj);exact⟨y,by simpa using h1,by rwa [show i+(j+1)=i+1+j from by omega]⟩
 | [],_::_,_,h,_,_,_=>by simp[yN]at h
 |_::_,[],_,h,_,_,_=>by grind
structure zDq (E:Env) (d:Nat) (xs:List Operand) (us:List T) (rw:Rw):Prop where
 nodup:(d::rw.map (·.2.1)).Nodup
 nodup2:(rw.map (·.1)).Nodup
 at_:∀x∈rw,xs[x.1]? =aN (.tmp x.2.1)
 tree:∀x∈rw,zO x.2.2∧xK x.2.2=aP∧ ∃u,E x.2.1=aN u∧x.2.2.single=u.single∧us[x.1]? =aN u
theorem zDq.nil{E:Env}{d:Nat}{xs:List Operand}{us:List T}:zDq E d xs us []:=⟨by simp,by simp,by simp,by simp⟩
theorem zDq.one{E:Env}{d i s:Nat}{u u':T}{xs:List Operand}{us:List T}(h1:d≠s)(h2:xs[i]? =aN (.tmp s))(h3:zO u')(h4:u'.single=aP)(h5:xK u'=aP)(h6:E s=aN u)(h7:u.single=aP)(h8:us[i]? =aN u):
  zDq E d xs us [(i,s,u')]:=⟨by grind,by simp,by grind,by grind⟩
theorem zDq.one'{E:Env}{d i s:Nat}{u u':T}{xs:List Operand}{us:List T}(h1:d≠s)(h2:xs[i]? =aN (.tmp s))(h3:zO u')(h4:u'.single=u.single)(h5:xK u'=aP)(h6:E s=aN u)(h8:us[i]? =aN u):
  zDq E d xs us [(i,s,u')]:=⟨by grind,by simp,by grind,by grind⟩
section
variable {P:Program}{Γ:Ctx}{E:Env}{o:Oper}{d:Nat}
theorem zJA{G:Gh}{a:Act}{w:World}(g9:Rep Γ E G a.tmps w){rw:Rw}{xs:List Operand}{us:List T}(hr:zDq E d xs us rw){Sc:Stb}(er:∀b x,Γ.St b=aN x→Sc b=aN x)
  (es:∀r,r∉rw.map (·.2.1)→ ∀b,(∃y,G.ow b=aN (r,y))→Sc b=w.heap[b]?){i:Nat}{x:Operand}{u:T}(hx:xs[i]? =aN x)(hu:us[i]? =aN u)(h:zAa E rw i x u):
  a.eval x=mkV (G.arg a xs rw) i u []∧R Sc (G.arg a xs rw) w i u []:=by
 rcases h with⟨s,u',rfl,h1,h2,h3,h4,h5⟩|⟨t,h1,rfl,h3⟩
 ·obtain⟨e1,e2,_⟩:=g9.ent s u h2
  have gF:∀z,(G.arg a xs rw).hd i z=G.hd s z:=by grind[Gh.arg]
  have p7:∀z,(G.arg a xs rw).ad i z=G.ad s z:=by grind[Gh.arg]
  have hi:=zAq rw (K7.1 hr.nodup).2 h1;refine⟨by grind[yX,zC1],?_⟩;refine zI1 u [] h5 (tU (St:=Γ.St) (G:=G) (w:=w) (s:=s) (p:=[]) ⟨⟨by grind,by grind,fun b o' f' z _ gO hl=>?_,fun b z _ hl=>?_,fun b cs e h=>⟨cs,h,rfl⟩⟩,fun b o' gO hl=>?_,fun b hl=>?_⟩ u (by grind[yD.mono]) e2)
  ·obtain⟨y,hy⟩:=gO
   exact⟨by grind[Gh.arg],rfl⟩
  ·grind[Gh.arg]
  ·obtain⟨y,hy⟩:=gO
   exact⟨by grind[Gh.arg],rfl⟩
  grind[Gh.arg]
 ·cases x with
  |tmp s=>
   have gF:∀z,(G.arg a xs rw).hd i z=G.hd s z:=by grind[Gh.arg]
   obtain⟨e1,e2,_⟩:=g9.ent s t h1
   grind[zJ9,yX,zGk,zPW]
  |const v=>
   simp only[opT]at h1;split at h1
   ·rename_i gz
    simp at h1;subst h1;have gF:(G.arg a xs rw).hd i []=v:=by grind[Gh.arg,Act.eval,tW]
    exact⟨by grind[clo,mkV,Act.eval],by simp[clo,R,gF]⟩
   ·cases h1
  |func f=>
   simp only[opT]at h1;simp at h1;subst h1;have gF:(G.arg a xs rw).hd i []=.func (.func f) #[] #[]:=by grind[Gh.arg,Act.eval,tM,Value.oneCell']
   exact⟨by grind[clo,mkV,Act.eval],by simp[clo,R,gF]⟩
  |global g=>grind[opT]
theorem zAN{E:Env}:(t:T)→t.flat=aP→(∀rs s,uH E rs s t=aP)∧clo E t=t
 |.lit _,_|.ro _,_=>by simp[uH,clo]
 |.agg ts,h=>by
  simp only[T.flat]at h;have:=go ts h
  grind[uH,clo]
 |.any,h|.same _ _,h|.addr _ _,h|.sub _ _ _ _ _,h|.sl _ _,h|.ptr _,h|.tup _,h=>by grind[T.flat]
where go:(ts:List T)→sP ts=aP→(∀rs s,qD E rs s ts=aP)∧kJ E ts=ts
 | [],_=>by simp[qD,kJ]
 |x::xs,h=>by simp only[sP,J2]at h;simp only[qD,kJ,J2];exact⟨fun rs s=>⟨(zAN x h.1).1 rs s,(go xs h.2).1 rs s⟩,by rw[(zAN x h.1).2,(go xs h.2).2]⟩
theorem zAr{a:Act}{w:World}{K:Act→World→Prop}{Q:Exit→Act→World→Prop}{f:FuncId}{xf:Operand}{xs:List Operand}{ats:Array TypeId}(ho:o.op=.call { callee:=.value xf,args:=xs.toArray,argTypes:=ats })(gf:o.dst=aN d)
  (gm:∀args w,(callFunc f args).run P w=.ok (.enter f args) w)(hf:a.eval xf=.func (.func f) #[] #[])
  (h:Calls P f (xs.map a.eval).toArray w fun e w'=> ∃v,e=.returned v∧K (a.put (aN d) v) w'):o.wp P a w K Q:=by
 have gr:(execOp a.eval o).run P w=.ok (.enter f (xs.map a.eval).toArray) w:=by simp[execOp,ho,resolve,hf,Deferred.ofValue,invoke,gm]
 unfold Oper.wp;rw[gr,Oper.upon_enter];refine h.mono ?_
 grind
theorem zDU{G:Gh}{a:Act}{w:World}(g9:Rep Γ E G a.tmps w)(hd:d<Γ.N)(f:FuncId)(xs:List Operand)(us res:List T)(rw:Rw)
  (hc:FnC P f us res (rw.map fun x=>(x.1,x.2.2)))(gc:yN E rw 0 xs us)(hr:zDq E d xs us rw)(gk:yB res∧zV res=aP∧xQ res=aP):
  Calls P f (xs.map a.eval).toArray w fun e w'=> ∃v,e=.returned v∧ ∃S G',zBp Γ.St S Γ.W Γ.w0.heap.size∧tD (wC d rw) G w G' w'∧Rep (Γ.at S) (E.app (cWr d res rw) (wC d rw)) G' (a.tmps.setIfInBounds d v) w':=by
 classical
 have hm:=g9.mem
 let Sc:Stb:=fun b=>if qE G rw b then aO else w.heap[b]?
 have er:∀b x,Γ.St b=aN x→Sc b=aN x:=fun b x hx=>by
  have h3:¬qE G rw b:=by
   rintro⟨s,z,h4,_⟩
   rw[(hm.ow b _ h4).2.2]at hx;cases hx
  simp only[Sc,h3,if_false];exact hm.st b x hx
 have es:∀r,r∉rw.map (·.2.1)→ ∀b,(∃y,G.ow b=aN (r,y))→Sc b=w.heap[b]?:=fun r bG b ⟨y,hy⟩=>by
  have h3:¬qE G rw b:=by
   rintro⟨s,z,h4,h5⟩
   grind
  grind
 have eY:∀(us:List T),yB us∧zV us=aP∧xQ us=aP→ ∀u∈us,zO u∧u.okTup=aP∧xK u=aP:=by
  intro us
  induction us with
  |nil=>simp
  |cons v us ih=>
   intro⟨h1,h2,h3⟩ u hu;simp only[zV,xQ,J2]at h2 h3;rcases Jl.1 hu with rfl|hu
   ·exact⟨h1.1,h2.1,h3.1⟩
   ·exact ih ⟨h1.2,h2.2,h3.2⟩ u hu
 exact zBV g9 hd (Sc:=Sc) (rw:=rw) (by grind) er hc (yN.length xs us 0 gc) (fun i u hu=>by
   obtain⟨x,h1,h2⟩:=yN.get xs us 0 gc i u hu;rw[J6]at h2
   grind[zJA]) hr.nodup hr.nodup2 hr.at_
  (by grind[zI1])
  (fun x hx=>by
   obtain⟨h1,h3,h4⟩:=hr.tree x hx
   grind[zI1])
theorem zJB(f:FuncId)(xf:Operand)(xs:List Operand)(ats:Array TypeId)(us res:List T)(rw:Rw)(ho:o.op=.call { callee:=.value xf,args:=xs.toArray,argTypes:=ats })(gf:o.dst=aN d)(hd:d<Γ.N)
  (gm:∀args w,(callFunc f args).run P w=.ok (.enter f args) w)(hf:opT E xf=aN (.lit (.func (.func f) #[] #[])))
  (hc:FnC P f us res (rw.map fun x=>(x.1,x.2.2)))(gc:yN E rw 0 xs us)(hr:zDq E d xs us rw)(gk:yB res∧zV res=aP∧xQ res=aP):
  yW P Γ o E (E.app (cWr d res rw) (wC d rw)):=by
 intro a w K Q ⟨gM,G,g9⟩ hK;refine zAr ho gf gm (xC g9 hf).1 ?_;refine(zDU g9 hd f xs us res rw hc gc hr gk).mono ?_
 rintro e w' ⟨v,rfl,S,G',hS,_,gl⟩
 exact⟨v,rfl,hK _ _ ⟨S,hS,gM,G',gl⟩⟩
theorem zHk(f:FuncId)(xf:Operand)(xs:List Operand)(ats:Array TypeId)(us res:List T)(i ds r:Nat)(q:List Nat)(tr u u':T)(ho:o.op=.call { callee:=.value xf,args:=xs.toArray,argTypes:=ats })(gf:o.dst=aN d)(hd:d<Γ.N)
  (gm:∀args w,(callFunc f args).run P w=.ok (.enter f args) w)(hf:opT E xf=aN (.lit (.func (.func f) #[] #[])))
  (hs:E ds=aN (.same r q))(hr:E r=aN tr)(hq:tr.get q.reverse=aN u)(hu:u.single=aP)(hF:zO u)(gQ:ds≠r)(hdr2:d≠r)(gG:tr.okB [(ds,1),(r,q.length+1)]=aP)(eH:yP tr=aP)
  (E1 E2:Env)(m0:E1=E.app [(ds,aN u),(r,aN (if q=[]then .same ds []else tr.set q.reverse .any))] [(ds,1),(r,q.length+1)])(aL:E2=E1.app (cWr d res [(i,ds,u')]) (wC d [(i,ds,u')]))
  (hc:FnC P f us res [(i,u')])(gc:yN E1 [(i,ds,u')] 0 xs us)(fh:zDq E1 d xs us [(i,ds,u')])(gk:yB res∧zV res=aP∧xQ res=aP)
  (tr2 v0:T)(e6:E2 r=aN tr2)(hq2:tr2.get q.reverse=aN v0)(mJ:v0.single=aP)(pk:E2 ds=aN u')(hZ:zO u')(t8:u'.single=aP)(cv:tr2.okB [(r,q.length+1),(ds,1)]=aP)(hc3:yP tr2=aP)(hok3:u'.okB [(r,q.length+1),(ds,1)]=aP)(hc4:yP u'=aP):
  yW P Γ o E (E2.app [(r,aN (tr2.set q.reverse u')),(ds,aN (.same r q))] [(r,q.length+1),(ds,1)]):=by
 have ai:cLv u'=1:=by grind[cLv]
 intro a w K Q ⟨gM,G,g9⟩ hK;refine zAr ho gf gm (xC g9 hf).1 ?_;have gK:G.hd ds []=G.hd r q:=by have:=(g9.ent ds _ hs).2.1;simpa only[R]using this
 obtain⟨fb,am⟩:=zBy g9 ds [] r q (.same r q) tr u (.same r q) hs rfl rfl gK hr hq hu hF gQ (by grind[T.okB,zBe]) (by omega) rfl eH;have aM:E.app [(ds,aN ((T.same r q).set [].reverse u)),(r,aN (if q=[]then .same ds []else tr.set q.reverse .any))] [(ds,([]:List Nat).length+1),(r,q.length+1)]=E1:=by rw[m0];rfl
 rw[aM]at fb;refine(zDU fb hd f xs us res [(i,ds,u')] hc gc fh gk).mono ?_
 rintro e w' ⟨v,rfl,S,G',hS,hk,gl⟩
 rw[←aL]at gl;have hdds:d≠ds:=by have:=fh.nodup;grind
 have h1:G'.hd r q=(G.tr ds [] r q).hd r q:=hk.hd r q (fun n hn=>by grind[wC]);have h2:G'.hd ds []=(G.tr ds [] r q).hd ds []:=hk.hd ds [] (fun n hn=>by grind[wC]);have eQ:G'.hd r q=G'.hd ds []:=by grind
 obtain⟨fa,_⟩:=zBy gl r q ds [] tr2 u' u' v0 e6 hq2 mJ eQ pk rfl t8 hZ (Ne.symm gQ) (by omega) (by omega) hc3 hc4;refine⟨v,rfl,hK _ _ ⟨S,hS,gM,G'.tr r q ds [],?_⟩⟩;have hw:(if([]:List Nat)=[]then T.same r q else u'.set ([]:List Nat).reverse .any)=T.same r q:=if_pos rfl;rw[hw]at fa;exact fa
theorem zLN(f:FuncId)(xf:Operand)(xs:List Operand)(ats:Array TypeId)(us res:List T)(ho:o.op=.call { callee:=.value xf,args:=xs.toArray,argTypes:=ats })(gf:o.dst=aN d)(hd:d<Γ.N)
  (gm:∀args w,(callFunc f args).run P w=.ok (.enter f args) w)(hf:opT E xf=aN (.lit (.func (.func f) #[] #[])))
  (hc:FnC P f us res [])(gg:xs.length=us.length)(gc:∀(i:Nat) u,us[i]? =aN u→ ∃x,xs[i]? =aN x∧opT E x=aN u∧u.flat=aP)(gk:yB res∧zV res=aP):
  yW P Γ o E (E.app (cWr d res []) (wC d [])):=by
 intro a w K Q ⟨gM,G,g9⟩ hK;have hm:=g9.mem;refine zAr ho gf gm (xC g9 hf).1 ?_;have fm:∀b,¬qE G [] b:=by rintro b ⟨s,z,_,h⟩;simp at h
 have eY:∀(us:List T),yB us∧zV us=aP→ ∀u∈us,zO u∧u.okTup=aP:=by
  intro us
  induction us with
  |nil=>simp
  |cons v us ih=>
   intro⟨h1,h2⟩ u hu;simp only[zV,J2]at h2;rcases Jl.1 hu with rfl|hu
   ·exact⟨h1.1,h2.1⟩
   ·exact ih ⟨h1.2,h2.2⟩ u hu
 have:=zBV g9 hd (Sc:=Γ.St) (rw:=[]) (fun b x hx=>⟨hm.st b x hx,fm b⟩) (fun _ _ h=>h) hc gg (fun i u hu=>by
   obtain⟨x,h1,h2,h3⟩:=gc i u hu;refine⟨x,h1,?_⟩;have pQ:=zAN (E:=E) u h3;cases x with
   |tmp s=>
    have gF:∀z,(G.arg a xs []).hd i z=G.hd s z:=by grind[Gh.arg]
    obtain⟨e1,e2,_⟩:=g9.ent s u h2;refine⟨?_,by grind[zGf]⟩;have:=zGk (E:=E) gF u (pQ.1 [] s)
    grind[yX]
   |const v=>
    simp only[opT]at h2;split at h2
    ·rename_i gz
     simp at h2;subst h2;have gF:(G.arg a xs []).hd i []=v:=by grind[Gh.arg,Act.eval,tW]
     exact⟨by grind[mkV,Act.eval],by simp[R,gF]⟩
    ·cases h2
   |func f=>
    simp only[opT]at h2;simp at h2;subst h2;have gF:(G.arg a xs []).hd i []=.func (.func f) #[] #[]:=by grind[Gh.arg,Act.eval,tM,Value.oneCell']
    exact⟨by grind[mkV,Act.eval],by simp[R,gF]⟩
   |global g=>grind[opT]) (by simp) (by simp) (by simp)
  (fun u hu=>⟨by grind,by grind,fun S' G w s p hS h=>by
   have:aft Γ.St Γ.St S'=S':=funext (by grind[aft])
   grind⟩) (by simp)
 refine this.mono ?_
 rintro e w' ⟨v,rfl,S,G',hS,_,gl⟩
 exact⟨v,rfl,hK _ _ ⟨S,hS,gM,G',gl⟩⟩
end
end Go.Ab

namespace Go.Ab
open Go
def yZ:List (Nat×T)→Env
 | [],_=>aO
 |(k,t)::l,s=>if k=s then aN t else yZ l s
def Env.Has(E:Env):List (Nat×T)→Prop
 | []=>True
 |(s,t)::l=>E s=aN t∧E.Has l
theorem Env.Has.le{E:Env}:{l:List (Nat×T)}→E.Has l→ ∀s t,yZ l s=aN t→E s=aN t
 | [],_,s,t,h=>by grind[yZ]
 |(k,u)::l,hh,s,t,h=>by
  simp only[yZ]at h;split at h
  ·rename_i e
   subst e;rw[hh.1];exact h
  ·exact hh.2.le s t h
theorem Sim.weaken{Γ:Ctx}{E E':Env}{a:Act}{w:World}(h:Sim Γ E a w)(fp:∀s t,E' s=aN t→E s=aN t):Sim Γ E' a w:=by obtain⟨h1,G,h2⟩:=h;exact⟨h1,G,⟨h2.size,fun s t hs=>h2.ent s t (fp s t hs),h2.mem⟩⟩
theorem tL.weaken{Γ:Ctx}{E E':Env}{a:Act}{w:World}(h:tL Γ E a w)(fp:∀s t,E' s=aN t→E s=aN t):tL Γ E' a w:=by obtain⟨S,h1,h2⟩:=h;exact⟨S,h1,h2.weaken fp⟩
abbrev tE:=List (Nat×Value)
def tE.Hold(pn:tE)(a:Act):Prop:=∀x∈pn,a.tmps[x.1]? =aN x.2
def tE.ok(pn:tE)(d:Option Nat):Bool:=match d with
 |none=>aP
 |some d=>pn.all fun x=>x.1 != d
theorem Oper.wp_frame{P:Program}{o:Oper}{a:Act}{w:World}{K:Act→World→Prop}{Q:Exit→Act→World→Prop}(h:o.wp P a w K Q):
  o.wp P a w (fun a' w'=>K a' w'∧ ∀s,o.dst≠aN s→a'.tmps[s]? =a.tmps[s]?) Q:=by
 have key:∀(v:Value)(ds:List Deferred),∀s,o.dst≠aN s→(({ a with defers:=ds }:Act).put o.dst v).tmps[s]? =a.tmps[s]?:=by
  intro v ds s hs;cases hd:o.dst with
  |none=>rfl
  |some d=>
   grind[Act.put]
 have key0:∀(v:Value),∀s,o.dst≠aN s→(a.put o.dst v).tmps[s]? =a.tmps[s]?:=fun v=>key v a.defers
 unfold Oper.wp at*
 generalize (execOp a.eval o).run P w=r at*
 cases r with
 |ok n w'=>
  cases n<;>simp only[Oper.upon]at h ⊢
  all_goals grind
 |halt x w'=>cases x<;>simp only[Oper.upon]at h ⊢ <;>exact h
theorem tE.Hold.frame{pn:tE}{a a':Act}{d:Option Nat}(h:pn.Hold a)(gG:pn.ok d=aP)(hf:∀s,d≠aN s→a'.tmps[s]? =a.tmps[s]?):pn.Hold a':=by
 intro x hx;rw[hf x.1 ?_]
 ·exact h x hx
 ·rintro rfl
  have:=Ju.1 gG x hx
  grind
section
variable (P:Program) (Γ:Ctx) (pn:tE)
def CW(c:Code)(E:Env)(Q:Exit→Env→Prop):Prop:=
 ∀(a:Act)(w:World)(Q':Exit→Act→World→Prop),tL Γ E a w→pn.Hold a→(∀e E' a' w',Q e E'→tL Γ E' a' w'→pn.Hold a'→Q' e a' w')→c.wp P Q' a w
def zR(ops:Array Oper)(o:Oper)(E E':Env):Prop:=
 ∀(a:Act)(w:World)(K:Act→World→Prop)(Q:Exit→Act→World→Prop),tL Γ E a w→(∀a' w',tL Γ E' a' w'→(∀s,o.dst≠aN s→a'.tmps[s]? =a.tmps[s]?)→K a' w')→
  if Region.wanted o (yielded ops a.tmps)then o.wp P a w K Q∨(o.asks P a w∧LetsOut Q)else K (a.put o.dst undef) w
def wpL(ops:Array Oper)(Q:Exit→Act→World→Prop):List Oper→Act→World→Prop
 | [],a,w=>Q .normal a w
 |o::os,a,w=>if Region.wanted o (yielded ops a.tmps)then o.wp P a w (wpL ops Q os) Q∨(o.asks P a w∧LetsOut Q)else wpL ops Q os (a.put o.dst undef) w
def RW(ops:Array Oper)(os:List Oper)(E:Env)(Q:Exit→Env→Prop):Prop:=
 ∀(a:Act)(w:World)(Q':Exit→Act→World→Prop),tL Γ E a w→pn.Hold a→(∀e E' a' w',Q e E'→tL Γ E' a' w'→pn.Hold a'→Q' e a' w')→wpL P ops Q' os a w
end
section
variable {P:Program}{Γ:Ctx}{pn:tE}{E E':Env}{Q Q1:Exit→Env→Prop}{c c1 c2:Code}{ops:Array Oper}{o:Oper}{os:List Oper}{d:Nat}
theorem zGl{Q':Exit→Act→World→Prop}:∀(os:List Oper)(n:Nat)(a:Act)(w:World),ops.toList.drop n=os→wpL P ops Q' os a w→wpOps P ops Q' (H7 n os.length) a w
 | [],n,a,w,_,h=>by simpa[wpOps,wpL]using h
 |o::os,n,a,w,hd,h=>by
  have ho:ops[n]? =aN o:=by
   have:=congrArg (·[0]?) hd
   grind
  have cZ:ops.toList.drop (n+1)=os:=by
   have:=congrArg List.tail hd
   grind[List.tail_drop]
  simp only[Jh,Lo,wpOps,ho];simp only[wpL]at h;split
  ·rename_i hw
   simp only[hw,if_true]at h;exact h.imp (Oper.wp_mono fun a w=>zGl os (n+1) a w cZ) id
  ·rename_i hw
   simp only[hw]at h;exact zGl os (n+1) _ w cZ h
theorem CW.region{id:Nat}(h:RW P Γ pn ops ops.toList E Q):CW P Γ pn (.region id ops aQ) E Q:=by
 intro a w Q' hs hp hQ;refine wp_region ?_;have:=zGl (P:=P) ops.toList 0 a w (by simp) (h a w Q' hs hp hQ)
 grind[List.range_eq_range']
theorem RW.nil(h:Q .normal E):RW P Γ pn ops [] E Q:=fun a w Q' hs hp hQ=>by
 simp only[wpL]
 grind
theorem RW.cons(h1:zR P Γ ops o E E')(h3:RW P Γ pn ops os E' Q)(h2:pn.ok o.dst=aP:=by rfl):RW P Γ pn ops (o::os) E Q:=by
 intro a w Q' hs hp hQ;simp only[wpL];have:=h1 a w (wpL P ops Q' os) Q' hs fun a' w' gE hf=>h3 a' w' Q' gE (hp.frame h2 hf) hQ
 exact this
theorem zR.op(h:∀S,yW P (Γ.at S) o E E')(hg:o.guard=aO:=by rfl):zR P Γ ops o E E':=by
 intro a w K Q hs hK;have hw:Region.wanted o (yielded ops a.tmps)=aP:=by simp[Region.wanted,hg]
 rw[if_pos hw];refine .inl ?_;obtain⟨S,hS,hs⟩:=hs;have:=Oper.wp_frame (h S a w (fun a' w'=>tL Γ E' a' w') Q hs fun a' w' h=>h.up hS)
 grind[Oper.wp_mono]
theorem zDV{a:Act}{w:World}(hs:tL Γ E a w){g s:Nat}{b:Bool}(gn:(ops[g]?).bind (·.dst)=aN s)(h:E s=aN (.lit (.bool b))):yielded ops a.tmps g=aN b:=by
 obtain⟨_,_,_,G,hr⟩:=hs;obtain⟨h1,h2,_⟩:=hr.ent s _ h;simp only[R]at h2
 grind[yielded,mkV]
theorem zR.guard(g:Nat)(b:Bool)(s:Nat)(h:∀S,yW P (Γ.at S) o E E')(hg:o.guard=aN (g,b):=by rfl)(gn:(ops[g]?).bind (·.dst)=aN s:=by rfl)(hb:E s=aN (.lit (.bool b)):=by rfl):zR P Γ ops o E E':=by
 intro a w K Q hs hK;have hw:Region.wanted o (yielded ops a.tmps)=aP:=by grind[Region.wanted,zDV]
 rw[if_pos hw];refine .inl ?_;obtain⟨S,hS,hs⟩:=hs;have:=Oper.wp_frame (h S a w (fun a' w'=>tL Γ E' a' w') Q hs fun a' w' h=>h.up hS)
 grind[Oper.wp_mono]
def zF(Γ:Ctx)(E E':Env):Prop:=∀(a:Act)(w:World),tL Γ E a w→tL Γ E' a w
theorem zF.refl:zF Γ E E:=fun _ _ h=>h
theorem zF.trans{E1 E2 E3:Env}(h:zF Γ E1 E2)(h':zF Γ E2 E3):zF Γ E1 E3:=fun a w hs=>h' a w (h a w hs)
theorem zF.has{l:List (Nat×T)}(h:E.Has l):zF Γ E (yZ l):=fun _ _ hs=>hs.weaken h.le
theorem CW.ghost(h1:zF Γ E E')(h:CW P Γ pn c E' Q):CW P Γ pn c E Q:=fun a w Q' hs=>h a w Q' (h1 a w hs)
theorem RW.ghost(h1:zF Γ E E')(h:RW P Γ pn ops os E' Q):RW P Γ pn ops os E Q:=fun a w Q' hs=>h a w Q' (h1 a w hs)
theorem CW.to(l:List (Nat×T))(h1:E.Has l)(h:CW P Γ pn c (yZ l) Q):CW P Γ pn c E Q:=h.ghost (.has h1)
theorem CW.mono(h:CW P Γ pn c E Q1)(hq:∀e E',Q1 e E'→Q e E'):CW P Γ pn c E Q:=fun a w Q' hs hp hQ=>h a w Q' hs hp (by grind)
theorem CW.skip(h:Q .normal E):CW P Γ pn .skip E Q:=fun _ _ _ hs hp hQ=>by grind[wp_skip]
theorem CW.ret(h:Q .ret E):CW P Γ pn .ret E Q:=fun _ _ _ hs hp hQ=>by grind[wp_ret]
theorem CW.exit{id:Nat}(h:Q (.exit id) E):CW P Γ pn (.exit id) E Q:=fun _ _ _ hs hp hQ=>by grind[wp_exit]
def xV(P:Program)(Γ:Ctx)(pn:tE)(c:Code)(Q:Exit→Env→Prop):Exit→Env→Prop
 |.normal,E=>CW P Γ pn c E Q
 |e,E=>Q e E
theorem CW.seq(h:CW P Γ pn c1 E (xV P Γ pn c2 Q)):CW P Γ pn (.seq c1 c2) E Q:=by
 intro a w Q' hs hp hQ;refine wp_seq (h a w _ hs hp fun e E' a' w' h1 gE fj=>?_);cases e with
 |normal=>exact h1 a' w' Q' gE fj hQ
 |_=>exact hQ _ _ _ _ h1 gE fj
theorem CW.cond{x:Operand}(b:Bool)(hb:opT E x=aN (.lit (.bool b)))(ht:b=aP→CW P Γ pn c1 E Q)(hf:b=aQ→CW P Γ pn c2 E Q):CW P Γ pn (.cond x c1 c2) E Q:=by intro a w Q' hs hp hQ;obtain⟨_,_,_,G,hr⟩:=id hs;refine wp_cond_split (xC hr hb).1 (fun h=>ht h a w Q' hs hp hQ) (fun h=>hf h a w Q' hs hp hQ)
def xW(id:Nat)(Q:Exit→Env→Prop):Exit→Env→Prop
 |.exit id',E=>if id'=id then Q .normal E else Q (.exit id') E
 |e,E=>Q e E
theorem CW.block{id:Nat}(h:CW P Γ pn c E (xW id Q)):CW P Γ pn (.block id c) E Q:=by
 intro a w Q' hs hp hQ;refine wp_block (h a w _ hs hp fun e E' a' w' h1 gE fj=>?_);cases e with
 |exit id'=>
  simp only[xW]at h1;simp only[Exit.inBlock]
  grind
 |_=>exact hQ _ _ _ _ h1 gE fj
end
def tG{σ ρ:Type}(body:σ→Option (σ⊕ρ)):Nat→σ→Option ρ
 |0,_=>aO
 |n+1,s=>match body s with
  |none=>aO
  |some (.inl s')=>tG body n s'
  |some (.inr r)=>aN r
theorem zDW{σ ρ:Type}{body:σ→Option (σ⊕ρ)}{r:ρ}:∀{n m:Nat}{s:σ},tG body n s=aN r→n≤m→tG body m s=aN r
 |0,_,_,h,_=>by grind[tG]
 |n+1,0,_,_,hm=>by omega
 |n+1,m+1,s,h,hm=>by
  simp only[tG]at h ⊢
  cases hb:body s with
  |none=>grind
  |some x=>
   cases x with
   |inl s'=>simp only[hb]at h ⊢;exact zDW h (by omega)
   |inr r'=>grind
open Classical in
noncomputable def zG {σ ρ:Type} (body:σ→Option (σ⊕ρ)) (s:σ):Option ρ:=
 if h:∃(n:Nat)(r:ρ),tG body n s=aN r then aN h.choose_spec.choose else aO
theorem zB2{σ ρ:Type}{body:σ→Option (σ⊕ρ)}{s:σ}{r:ρ}:zG body s=aN r↔ ∃n,tG body n s=aN r:=by
 unfold zG;constructor
 ·intro h
  split at h
  all_goals grind
 ·rintro⟨n,hn⟩
  have he:∃(n:Nat)(r:ρ),tG body n s=aN r:=⟨n,r,hn⟩;rw[dif_pos he]
  grind[zDW]
theorem yU{σ ρ:Type}(body:σ→Option (σ⊕ρ))(s:σ):zG body s=match body s with
  |none=>aO
  |some (.inl s')=>zG body s'
  |some (.inr r)=>aN r:=by
 apply Option.ext;intro r;rw[zB2];cases hb:body s with
 |none=>
  simp only[reduceCtorEq,iff_false]
  rintro⟨n,hn⟩
  cases n<;>simp[tG,hb]at hn
 |some x=>
  cases x with
  |inl s'=>
   simp only[];rw[zB2];constructor
   ·rintro⟨n,hn⟩
    cases n with
    |zero=>grind[tG]
    |succ n=>grind[tG]
   ·rintro⟨n,hn⟩
    exact⟨n+1,by grind[tG]⟩
  |inr r'=>
   simp only[G6.injEq];constructor
   ·rintro⟨n,hn⟩
    cases n with
    |zero=>grind[tG]
    |succ n=>grind[tG]
   ·rintro rfl
    exact⟨1,by simp[tG,hb]⟩
section
variable {P:Program}{Γ:Ctx}{pn:tE}{E:Env}{Q:Exit→Env→Prop}{c:Code}
def uA{σ ρ:Type}(Γ:Ctx)(en:σ→Env)(Q:ρ→Exit→Env→Prop)(x:σ⊕ρ):Exit→Env→Prop:=fun e E'=>
 match x with
 |.inl s'=>e=.normal∧zF Γ E' (en s')
 |.inr r=>e≠.normal∧Q r e E'
theorem zFg{p:Nat→Prop}(h:∃m,p m):∃m,p m∧ ∀k,k<m→ ¬p k:=by
 refine Classical.byContradiction fun hn=>?_
 have key:∀n,∀k,k<n→ ¬p k:=by
  intro n
  induction n with
  |zero=>simp
  |succ n ih=>
   grind
 grind
theorem CW.loop{σ ρ:Type}(body:σ→Option (σ⊕ρ))(en:σ→Env)(Q:ρ→Exit→Env→Prop)(h:∀s x,body s=aN x→CW P Γ pn c (en s) (uA Γ en Q x)){s:σ}{r:ρ}(hr:zG body s=aN r):
  CW P Γ pn (.loop c) (en s) (Q r):=by
 classical
 intro a w Q' hs hp hQ
 let p:Act→World→Nat→Prop:=fun a w m=> ∃s,tG body m s=aN r∧tL Γ (en s) a w∧pn.Hold a
 let μ:Act→World→Nat:=fun a w=>if h:∃m,p a w m then(zFg h).choose else 0
 obtain⟨n,hn⟩:=zB2.1 hr;refine wp_loop (fun a w=> ∃m,p a w m) μ (by grind) ?_;intro a w mp;have hμ:μ a w=(zFg mp).choose:=dif_pos mp;obtain⟨s,h1,h2,h3⟩:=(zFg mp).choose_spec.1;have cy:=(zFg mp).choose_spec.2;rw[←hμ]at h1;cases hm:μ a w with
 |zero=>grind[tG]
 |succ k=>
  rw[hm]at h1;simp only[tG]at h1;cases hb:body s with
  |none=>grind
  |some x=>
   refine h s x hb a w _ h2 h3 fun e E' a' w' hq gE fj=>?_
   cases x with
   |inl s'=>
    simp only[hb]at h1;obtain⟨rfl,hg⟩:=hq;have hp2:p a' w' k:=⟨s',h1,hg a' w' gE,fj⟩;refine⟨⟨k,hp2⟩,?_⟩;have hex':∃m,p a' w' m:=⟨k,hp2⟩
    grind
   |inr r'=>
    simp only[hb]at h1;have:r'=r:=by grind
    subst this;obtain⟨gj,hq⟩:=hq;have:=hQ e E' a' w' hq gE fj;cases e with
    |normal=>grind
    |_=>exact this
end
end Go.Ab

namespace Go.Ab
open Go
abbrev Nds:=List (Nat×List Nat×T)
def ROk(P:Program)(E:Env):ResultVar→(Nat×List Nat×T)→Prop
 |.tmp s,x=>x.1=s∧x.2.1=[]∧E s=aN x.2.2∧x.2.2.okTup=aP
 |.cell a T,x=>x.1=a∧x.2.1=[0]∧E a=aN (.ptr x.2.2)∧ ∃ds ti,P.underlying T=aN ds∧P.info? T=aN ti∧zC2 ds= !x.2.2.single∧ti.size=x.2.2.size
def zK5(P:Program)(E:Env):List ResultVar→Nds→Prop
 | [],[]=>True
 |x::xs,y::ys=>ROk P E x y∧zK5 P E xs ys
 |_,_=>False
def LOk(E:Env)(us:List T):List (Nat×T)→Prop
 | []=>True
 |(i,u')::l=>(E i=aN u'∧ ∃u,us[i]? =aN u)∧LOk E us l
def zRL(P:Program)(rs:Array ResultVar)(us res:List T)(rws:List (Nat×T)):Exit→Env→Prop:=fun e E=>
 (e=.ret∨e=.normal)∧ ∃nd:Nds,zK5 P E rs.toList nd∧nd.map (·.2.2)=res∧(∀x∈nd,us.length≤x.1)∧(nd.map (·.1)).Nodup∧LOk E us rws
def zAs(v:Nat→Value)(is:List Nat):tE:=is.map fun i=>(i,v i)
def zEL:Nat→List T→List (Nat×T)
 |_,[]=>[]
 |i,u::us=>(i,u)::zEL (i+1) us
theorem zHl:∀(us:List T)(i s:Nat)(t:T),yZ (zEL i us) s=aN t→i≤s∧us[s-i]? =aN t
 | [],i,s,t,h=>by grind[zEL,yZ]
 |u::us,i,s,t,h=>by
  simp only[zEL,yZ]at h;split at h
  ·grind
  ·rename_i e
   obtain⟨h1,h2⟩:=zHl us (i+1) s t h
   grind
def zLO(tmps:Array Value):ResultVar→Sem Value
 |.tmp t=>pure (tmps.getD t undef)
 |.cell a t=>do loadVar t (←asAddr (tmps.getD a undef))
theorem zI3(fn:Func)(tmps:Array Value):results fn tmps=(do
  let vs ←fn.results.mapM (zLO tmps)
  pure (if h:vs.size=1 then vs[0]else .tuple vs)):=rfl
theorem wL.get:(xs:List T)→wL xs→ ∀(i:Nat)(x:T),xs[i]? =aN x→Top x
 | [],_,i,x,h=>by simp at h
 |y::ys,ht,i,x,h=>by
  simp only[wL]at ht;cases i with
  |zero=>simp at h;subst h;exact ht.1
  |succ i=>exact wL.get ys ht.2 i x (by simpa using h)
theorem LOk.get{E:Env}{us:List T}:(l:List (Nat×T))→LOk E us l→ ∀i u',(i,u')∈l→E i=aN u'∧ ∃u,us[i]? =aN u
 | [],_,_,_,h=>by simp at h
 |x::l,h,i,u',hm=>by
  rcases Jl.1 hm with rfl|hm
  ·exact h.1
  ·exact LOk.get l h.2 i u' hm
theorem zTy{P:Program}{Γ:Ctx}{E:Env}{G:Gh}{tmps:Array Value}{w:World}(g9:Rep Γ E G tmps w)(x:ResultVar)(s:Nat)(q:List Nat)(t:T)(h:ROk P E x (s,q,t)):
  (zLO tmps x).run P w=.ok (vO G s t q) w∧R Γ.St G w s t q:=by
 cases x with
 |tmp s'=>
  obtain⟨h0,fu,h1,h2⟩:=h;dsimp only at h0 fu h1 h2;subst h0 fu;obtain⟨g1,g2,_⟩:=g9.ent _ _ h1;have gR:∀xs,t≠.tup xs:=by rintro xs rfl;grind[T.okTup]
  refine⟨?_,g2⟩;rw[←sC G s t [] gR];simp[zLO,Jx,g1]
 |cell a T'=>
  obtain⟨h0,fu,h1,ds,ti,h2,h3,h4,h5⟩:=h;dsimp only at h0 fu h1 h4 h5;subst h0 fu;obtain⟨g1,g2,_⟩:=g9.ent _ _ h1;simp only[R]at g2;obtain⟨b,cs,e,k1,k2,k3,k4,k5,k6⟩:=g2;refine⟨?_,k6⟩;rw[yE rfl,k1]at g1;have h6:=zCZ (w:=w) h2 h3 k5 h4 h5;simp[zLO,Jx,g1,asAddr,h6]
theorem zDg{P:Program}{Γ:Ctx}{E:Env}{G:Gh}{tmps:Array Value}{w:World}(g9:Rep Γ E G tmps w):(rs:List ResultVar)→(nd:Nds)→zK5 P E rs nd→
  (rs.mapM (zLO tmps)).run P w=.ok (nd.map fun x=>vO G x.1 x.2.2 x.2.1) w∧ ∀x∈nd,R Γ.St G w x.1 x.2.2 x.2.1
 | [],[],_=>by simp
 |x::xs,y::ys,h=>by
  obtain⟨h1,h2⟩:=zDg g9 xs ys h.2;obtain⟨h3,h4⟩:=zTy g9 x y.1 y.2.1 y.2.2 h.1
  simp_all
 | [],_::_,h=>by simp[zK5]at h
 |_::_,[],h=>by simp[zK5]at h
theorem FnC.of_body{P:Program}{f:FuncId}{fn:Func}{c:Code}{us res:List T}{rws:List (Nat×T)}(hf:P.funcs[f]? =aN fn)(hb:fn.body=aN c)(hn:us.length≤fn.ntmps)(ht:wL us)(hr:rws.all (fun x=>decide (x.1<us.length))=aP)
  (h:∀(Γ:Ctx)(v:Nat→Value),Γ.N=fn.ntmps→CW P Γ (zAs v (rws.map (·.1))) c (yZ (zEL 0 us)) (zRL P fn.results us res rws)):FnC P f us res rws:=by
 intro St W w G vs eJ gc gv
 let Γ:Ctx:=⟨St,W,w,fn.ntmps⟩
 let v:Nat→Value:=fun i=>vs.getD i undef
 have hm:Mem Γ G w:=⟨gv.one,gv.lb,gv.ow,gv.st,gv.fr,gv.sz,gv.bk⟩;have gu:(vs++G8 (fn.ntmps-vs.size) undef).size=fn.ntmps:=by simp;omega
 have pj:Sim Γ (yZ (zEL 0 us)) { tmps:=vs++G8 (fn.ntmps-vs.size) undef,defers:=[] } w:=by
  refine⟨rfl,G,gu,?_,hm⟩;intro s t hs;obtain⟨_,h2⟩:=zHl us 0 s t hs;simp only[Q3]at h2;obtain⟨h3,h4⟩:=gc s t h2;have gI:s<vs.size:=by grind
  exact⟨by grind,h4,wL.get us ht s t h2⟩
 have a9:(zAs v (rws.map (·.1))).Hold { tmps:=vs++G8 (fn.ntmps-vs.size) undef,defers:=[] }:=by
  intro x hx;simp only[zAs,Ja]at hx;obtain⟨i,⟨y,hy,rfl⟩,rfl⟩:=hx;have h1:=Ju.1 hr y hy;simp at h1;have h2:y.1<vs.size:=by omega
  simp[Array.getElem?_append,h2,v]
 refine calls_of_wp hf hb (h Γ v rfl _ _ _ (.of pj) a9 ?_)
 rintro e E' a' w' ⟨he,nd,h1,h2,h3,h4,h5⟩ ⟨S',gP,gM,G',g9⟩ hp
 obtain⟨g1,g2⟩:=zDg g9 _ _ h1;have gk:(results fn a'.tmps).run P w'=.ok (zHe G' nd) w':=by
  rw[zI3,Array.mapM_eq_mapM_toList];simp only[Sem.run_bind,Sem.run_map,g1];cases nd with
  |nil=>simp[zHe]
  |cons y ys=>
   cases ys with
   |nil=>simp[zHe]
   |cons z zs=>simp[zHe]
 have gx:Mem ⟨S',W,w,0⟩ G' w':=⟨g9.mem.one,g9.mem.lb,g9.mem.ow,g9.mem.st,g9.mem.fr,g9.mem.sz,g9.mem.bk⟩;have aw:bodyPost P fn (fun e w'=> ∃(S':Stb)(G':Gh)(nd:List (Nat×List Nat×T)),zBp St S' W w.heap.size∧e=.returned (zHe G' nd)∧Mem ⟨S',W,w,0⟩ G' w'∧nd.map (·.2.2)=res∧
   (∀x∈nd,R S' G' w' x.1 x.2.2 x.2.1∧us.length≤x.1)∧(nd.map (·.1)).Nodup∧
   ∀i u',(i,u')∈rws→R S' G' w' i u' []∧ ∃u,us[i]? =aN u∧mkV G' i u' []=mkV G i u []) .ret a' w':=by
  refine⟨gM,_,gk,S',G',nd,gP,rfl,gx,h2,by grind,h4,?_⟩;intro i u' hiu;obtain⟨k1,u,k3⟩:=LOk.get _ h5 i u' hiu;obtain⟨k5,k6,_⟩:=g9.ent i u' k1;refine⟨k6,u,k3,?_⟩;have k7:=hp (i,v i) (by simp only[zAs,Ja];grind);have k8:=(gc i u k3).1;rw[k5]at k7;simp[v,Jx,k8]at k7;exact k7
 rcases he with rfl|rfl<;>exact aw
end Go.Ab

namespace Go.Ab
open Go
mutual
def uQ:T→T
 |.sl k xs=>.ro (strip (.sl k xs))
 |.ptr t=>.ro (strip (.ptr t))
 |.agg xs=>.agg (tH xs)
 |.tup xs=>.tup (tH xs)
 |.any=>.any
 |.lit v=>.lit v
 |.ro t=>.ro t
 |.same r p=>.same r p
 |.addr r p=>.addr r p
 |.sub r p k lo hi=>.sub r p k lo hi
def tH:List T→List T
 | []=>[]
 |x::xs=>uQ x::tH xs
end
mutual
theorem zLP(G:Gh)(s:Nat):(t:T)→ ∀p,vals G s (uQ t) p=vals G s t p
 |.agg xs,p=>by simp only[uQ,vals];exact zAO G s xs p 0
 |.sl _ _,_|.ptr _,_|.tup _,_|.any,_|.lit _,_|.ro _,_|.same _ _,_|.addr _ _,_|.sub _ _ _ _ _,_=>by rfl
theorem zAO(G:Gh)(s:Nat):(xs:List T)→ ∀p j,zP G s (tH xs) p j=zP G s xs p j
 | [],_,_=>by rfl
 |x::xs,p,j=>by simp only[tH,zP,zLP G s x,zAO G s xs]
end
theorem zLQ(G:Gh)(s:Nat)(t:T)(p:List Nat):vO G s (uQ t) p=vO G s t p:=by cases t<;>simp only[uQ,vO,zAO]
theorem zHm(G:Gh)(s:Nat):(xs:List T)→ ∀p j,sB G s (tH xs) p j=sB G s xs p j
 | [],_,_=>by rfl
 |x::xs,p,j=>by simp only[tH,sB,zLQ,zHm G s xs]
theorem zOK(G:Gh)(s:Nat)(t:T)(p:List Nat):mkV G s (uQ t) p=mkV G s t p:=by cases t<;>simp only[uQ,mkV,zAO,zHm]
mutual
theorem zHn:(t:T)→Top t→Top (uQ t)
 |.agg xs,h|.tup xs,h=>by simp only[uQ,Top]at h ⊢;exact zFh xs h
 |.sl _ _,_|.ptr _,_|.any,_|.lit _,_|.ro _,_|.same _ _,_|.addr _ _,_|.sub _ _ _ _ _,_=>by simp only[uQ,Top]
theorem zFh:(xs:List T)→wL xs→wL (tH xs)
 | [],_=>by grind[tH]
 |x::xs,h=>by simp only[tH,wL]at h ⊢;exact⟨zHn x h.1,zFh xs h.2⟩
end
section
variable {St Sc:Stb}{G G':Gh}{w:World}{s:Nat} (gz:∀s p,(G.hd s p).oneCell'=aP) (er:∀b x,St b=aN x→Sc b=aN x) (es:∀b,(∃y,G.ow b=aN (s,y))→Sc b=w.heap[b]?) (gF:∀s z,G'.hd s z=G.hd s z) (p7:∀s z,G'.ad s z=G.ad s z)
 include gz er es gF p7
mutual
theorem zPX:(t:T)→ ∀(p:List Nat),R St G w s t p→R Sc G' w s (uQ t) p
 |.agg xs,p,hr|.tup xs,p,hr=>by simp only[uQ,R]at hr ⊢;exact zLR xs p 0 hr
 |.sl k xs,p,hr=>by have:=zHh gz er es (.sl k xs) p rfl hr;simp only[uQ,R,gF];exact this
 |.ptr t,p,hr=>by have:=zHh gz er es (.ptr t) p rfl hr;simp only[uQ,R,gF];exact this
 |.ro u,p,hr=>by simp only[uQ,R,gF]at hr ⊢;grind[vS]
 |.any,_,_=>by simp only[uQ,R]
 |.lit _,_,hr|.same _ _,_,hr|.sub _ _ _ _ _,_,hr=>by simp only[uQ,R,gF]at hr ⊢;exact hr
 |.addr _ _,_,hr=>by simp only[uQ,R,gF,p7]at hr ⊢;exact hr
theorem zLR:(xs:List T)→ ∀(p:List Nat)(j:Nat),RF St G w s xs p j→RF Sc G' w s (tH xs) p j
 | [],_,_,_=>by have _:=gz;have _:=er;have _:=es;have _:=gF;have _:=p7;simp only[tH,RF]
 |x::xs,p,j,hr=>by simp only[tH,RF]at hr ⊢;exact⟨zPX x _ hr.1,zLR xs p (j+1) hr.2⟩
end
end
theorem zF.freeze{Γ:Ctx}{E:Env}(s:Nat)(t:T)(hs:E s=aN t):zF Γ E (E.app [(s,aN (uQ t))] [(s,1)]):=by
 classical
 rintro a w ⟨S,hS,gM,G,g9⟩
 have hm:=g9.mem
 let own:Nat→Prop:=fun b=> ∃y,G.ow b=aN (s,y)
 let Sc:Stb:=fun b=>if own b then w.heap[b]? else S b
 let G':Gh:={ hd:=G.hd,ad:=G.ad,lb:=fun b o=>if own b then aO else G.lb b o,ow:=fun b=>if own b then aO else G.ow b }
 have cj:∀b x,S b=aN x→Sc b=aN x:=fun b x hx=>by
  have:¬own b:=by
   rintro⟨y,hy⟩
   have:=(hm.ow b _ hy).2.2
   grind
  grind
 have ap:zBp S Sc Γ.W Γ.w0.heap.size:=⟨cj,fun b hb eI=>by
  by_cases h:own b
  ·obtain⟨y,hy⟩:=h
   exact(hm.ow b _ hy).2.1
  grind⟩
 have gv:Mem ((Γ.at S).at Sc) G' w:=by
  refine⟨hm.one,fun b o l hl=>?_,fun b l hl=>?_,fun b x hx=>?_,hm.fr,hm.sz,hm.bk⟩
  ·by_cases h:own b
   ·grind
   ·simp only[G',h,if_false]at hl
    have:=hm.lb b o l hl;exact⟨this.1,this.2.1,by simp only[Sc,h,if_false];exact this.2.2⟩
  ·by_cases h:own b
   ·grind
   ·simp only[G',h,if_false]at hl
    have:=hm.ow b l hl;exact⟨this.1,this.2.1,by simp only[Sc,h,if_false];exact this.2.2⟩
  ·by_cases h:own b
   ·grind
   ·simp only[Sc,h,if_false]at hx;exact hm.st b x hx
 have gw:tD [(s,1)] G w G' w:=by
  have hno:∀b s0 y,G.ow b=aN (s0,y)→(∀n,(s0,n)∉([(s,1)]:Chg))→ ¬own b:=by grind
  refine⟨fun _ _ _=>rfl,fun _ _ _=>rfl,by grind,by grind,fun b cs e h=>⟨cs,h,rfl⟩⟩
  all_goals grind
 obtain⟨e1,e2,e3⟩:=g9.ent s t hs;refine⟨Sc,hS.trans ap,gM,G',g9.up cj rfl gw gv (fun s0 h0=>⟨fun n hn=>?_,rfl⟩) (fun s0 t0 h0=>?_)⟩
 ·grind[uG]
 ·rw[uG]at h0
  split at h0
  ·rename_i he;subst he
   simp at h0;subst h0;have hR:=zPX (G':=G') hm.one cj (fun b hb=>by grind) (fun _ _=>rfl) (fun _ _=>rfl) t [] e2;refine⟨?_,hR,zHn t e3⟩;rw[e1];have h1:mkV G' s (uQ t) []=mkV G s (uQ t) []:=zC1 _ _ _ (fun _=>rfl);rw[h1,zOK]
  ·cases h0
end Go.Ab

namespace Go.Ab
open Go
abbrev zDr:=List (Wr×Chg)
def Env.apps(E:Env)(l:zDr):Env:=l.foldl (fun E x=>E.app x.1 x.2) E
structure Stp where
 rd:List (Nat×T)
 l:zDr
def vW(wr:Wr):List Nat:=wr.map (·.1)
def Stp.slots(X:Stp):List Nat:=X.l.flatMap fun x=>vW x.1
def oOk(chg:Chg):Option T→Bool
 |none=>aP
 |some t=>t.okB chg
def zI4(chg:Chg)(wr:Wr):Bool:=wr.all fun x=>oOk chg x.2
def zK6(a b:List Nat):Bool:=a.all fun x=> !b.contains x
def zCA(a b:zDr):Bool:=a.all fun x=>b.all fun y=>zK6 (vW x.1) (vW y.1)&&zI4 y.2 x.1&&zI4 x.2 y.1
def Stp.apart(a b:Stp):Bool:=zCA a.l b.l&&zK6 a.slots (b.rd.map (·.1))&&zK6 b.slots (a.rd.map (·.1))&&a.rd.all fun x=>b.l.all fun y=>x.2.okB y.2
theorem zCB{wr:Wr}{s:Nat}(h:s∉vW wr):wr.find s=aO:=by
 induction wr with
 |nil=>rfl
 |cons x wr ih=>
  simp only[vW,Jg,Jl,not_or]at h;simp only[Wr.find,Ne.symm h.1,if_false];exact ih h.2
theorem zFi{wr:Wr}{s:Nat}{x:Option T}(h:wr.find s=aN x):s∈vW wr∧ ∃y∈wr,y.2=x:=by
 induction wr with
 |nil=>grind[Wr.find]
 |cons y wr ih=>
  grind[Wr.find,vW]
theorem zDX{a b:List Nat}(h:zK6 a b=aP){s:Nat}(hs:s∈a):s∉b:=by
 have:=Ju.1 h s hs
 grind
theorem zLS(E:Env)(w1 w2:Wr)(c1 c2:Chg)(h:zK6 (vW w1) (vW w2)=aP)(h1:zI4 c2 w1=aP)(h2:zI4 c1 w2=aP):
  (E.app w1 c1).app w2 c2=(E.app w2 c2).app w1 c1:=by
 funext s
 have ok:∀{c:Chg}{w:Wr}{s:Nat}{x:Option T},zI4 c w=aP→w.find s=aN x→(match x with|some t=>if t.okB c then aN t else aO|none=>aO)=x:=by
  intro c w s x hw hf;obtain⟨_,y,hy,rfl⟩:=zFi hf;have:=Ju.1 hw y hy
  grind[oOk]
 unfold Env.app;cases hf1:w1.find s with
 |some x=>
  grind[zCB,zDX,zFi]
 |none=>
  grind
theorem zBj(w:Wr)(c:Chg):∀(l:zDr)(E:Env),(∀y∈l,zK6 (vW w) (vW y.1)=aP∧zI4 y.2 w=aP∧zI4 c y.1=aP)→(E.app w c).apps l=(E.apps l).app w c
 | [],E,_=>rfl
 |y::l,E,h=>by obtain⟨h1,h2,h3⟩:=h y (by simp);show((E.app w c).app y.1 y.2).apps l=_;rw[zLS E w y.1 c y.2 h1 h2 h3];exact zBj w c l _ (by grind)
theorem zFj:∀(l1 l2:zDr)(E:Env),zCA l1 l2=aP→(E.apps l1).apps l2=(E.apps l2).apps l1
 | [],l2,E,_=>rfl
 |x::l1,l2,E,h=>by simp only[zCA,Q7,J2]at h;show((E.app x.1 x.2).apps l1).apps l2=((E.apps l2).app x.1 x.2).apps l1;rw[zFj l1 l2 _ (by grind[zCA]),zBj x.1 x.2 l2 E (by grind)]
def runD:Env→List (Bool×Stp)→Env
 |E,[]=>E
 |E,(b,X)::l=>runD (if b then E.apps X.l else E) l
theorem sE:∀(l1 l2:List (Bool×Stp))(E:Env),runD E (l1++l2)=runD (runD E l1) l2
 | [],_,_=>rfl
 |(b,X)::l1,l2,E=>by simp only[Kl,runD];exact sE l1 l2 _
theorem zCC:∀(l:List (Bool×Stp))(X:Stp)(E:Env),(∀y∈l,y.1=aP→zCA X.l y.2.l=aP)→runD (E.apps X.l) l=(runD E l).apps X.l
 | [],_,_,_=>rfl
 |(b,Y)::l,X,E,h=>by
  simp only[runD];cases b with
  |false=>exact zCC l X E (by grind)
  |true=>
   have:=h (aP,Y) (by simp) rfl;simp only[if_true];rw[zFj X.l Y.l E this];exact zCC l X _ (by grind)
theorem zDY{s:Nat}:∀(l:zDr)(E:Env),s∉l.flatMap (fun x=>vW x.1)→ ∀t,(E.apps l) s=aN t→E s=aN t
 | [],_,_,_,h=>h
 |x::l,E,hs,t,h=>by
  simp only[Kv,Jq,not_or]at hs;have:=zDY l (E.app x.1 x.2) hs.2 t h
  grind[Env.app,zCB]
theorem zFk{s:Nat}{t:T}:∀(l:zDr)(E:Env),s∉l.flatMap (fun x=>vW x.1)→(∀y∈l,t.okB y.2=aP)→E s=aN t→(E.apps l) s=aN t
 | [],_,_,_,h=>h
 |x::l,E,hs,gG,h=>by
  simp only[Kv,Jq,not_or]at hs;refine zFk l (E.app x.1 x.2) hs.2 (by grind) ?_
  grind[Env.app,zCB]
theorem zFl{s:Nat}:∀(l:zDr)(E1 E2:Env),(∀t,E2 s=aN t→E1 s=aN t)→ ∀t,(E2.apps l) s=aN t→(E1.apps l) s=aN t
 | [],_,_,h,t,ht=>h t ht
 |x::l,E1,E2,h,t,ht=>by
  refine zFl l (E1.app x.1 x.2) (E2.app x.1 x.2) (fun u hu=>?_) t ht
  grind[Env.app]
theorem zFm{s:Nat}:∀(l:List (Bool×Stp))(E1 E2:Env),(∀y∈l,y.1=aQ→s∉y.2.slots)→(∀t,E2 s=aN t→E1 s=aN t)→
  ∀t,runD E2 (l.map fun y=>(aP,y.2)) s=aN t→runD E1 l s=aN t
 | [],_,_,_,h,t,ht=>h t ht
 |(b,X)::l,E1,E2,hl,h,t,ht=>by
  simp only[Jg,runD,if_true]at ht ⊢
  refine zFm l _ _ (by grind) (fun u hu=>?_) t ht;cases b with
  |true=>grind[zFl]
  |false=>exact h u (zDY X.l E2 (hl (aQ,X) (by simp) rfl) u hu)
theorem zFn{s:Nat}{t:T}:∀(l:List (Bool×Stp))(E:Env),(∀y∈l,y.1=aP→s∉y.2.slots∧ ∀z∈y.2.l,t.okB z.2=aP)→E s=aN t→runD E l s=aN t
 | [],_,_,h=>h
 |(b,X)::l,E,hl,h=>by
  simp only[runD];refine zFn l _ (fun y hy=>hl y (by simp[hy])) ?_;cases b with
  |false=>exact h
  |true=>obtain⟨h1,h2⟩:=hl (aP,X) (by simp) rfl;exact zFk X.l E h1 h2 h
theorem Env.Has.of{E E':Env}:{l:List (Nat×T)}→E.Has l→(∀s t,(s,t)∈l→E s=aN t→E' s=aN t)→E'.Has l
 | [],_,_=>trivial
 |(s,t)::l,h,h'=>⟨h' s t (by simp) h.1,Env.Has.of h.2 fun s t hm=>h' s t (by simp[hm])⟩
end Go.Ab

namespace Go.Ab
open Go
def jS(o:Oper):List Nat:=(o.after.toList.filter (Region.binds .any)).map (·.on)
def qU:Nat→List Oper→Bool
 |_,[]=>aP
 |i,o::os=>((jS o).all fun m=>decide (m<i))&&qU (i+1) os
def sS(an:List (List Nat)):List (List Nat)→List Oper→Bool
 | [],_=>aP
 |_::_,[]=>aQ
 |l::ls,o::os=>(l.all fun k=>(jS o).contains k||(jS o).any fun m=>(an.getD m []).contains k)&&sS an ls os
def tO(Xs:List Stp):Nat→List (List Nat)→List Stp→Bool
 |_,_,[]=>aP
 |j,an,Y::Ys=>((Jo j).all fun i=>(an.headD []).contains i||match Xs[i]? with
   |some X=>X.apart Y
   |none=>aP)&&tO Xs (j+1) an.tail Ys
theorem zDz:∀(os:List Oper)(i0 j:Nat)(o:Oper),qU i0 os=aP→os[j]? =aN o→ ∀m∈jS o,m<i0+j
 | [],_,j,_,_,h=>by simp at h
 |x::os,i0,j,o,hf,h=>by
  simp only[qU,J2]at hf;cases j with
  |zero=>
   grind
  |succ j=>
   intro m hm;have:=zDz os (i0+1) j o hf.2 (by grind) m hm;omega
theorem zGm(an:List (List Nat)):∀(ls:List (List Nat))(os:List Oper)(j:Nat)(l:List Nat),sS an ls os=aP→ls[j]? =aN l→ ∃o,os[j]? =aN o∧ ∀k∈l,k∈jS o∨ ∃m∈jS o,k∈an.getD m []
 | [],_,j,_,_,h=>by simp at h
 |_::_,[],_,_,h,_=>by grind[sS]
 |x::ls,o::os,j,l,ha,h=>by
  simp only[sS,J2]at ha;cases j with
  |zero=>
   simp_all
  |succ j=>
   obtain⟨o',h1,h2⟩:=zGm an ls os j l ha.2 (by grind)
   grind
theorem zCD(Xs:List Stp):∀(Ys:List Stp)(j0:Nat)(an:List (List Nat))(j:Nat)(Y:Stp),tO Xs j0 an Ys=aP→Ys[j]? =aN Y→ ∀i X,i<j0+j→Xs[i]? =aN X→i∈an.getD j []∨X.apart Y=aP
 | [],_,_,j,_,_,h=>by simp at h
 |Z::Ys,j0,an,j,Y,hp,h=>by
  simp only[tO,J2]at hp;intro i X hi hX;cases j with
  |zero=>
   simp at h;subst h;have:=Ju.1 hp.1 i (by grind);simp only[hX,Bool.or_eq_true,L2,decide_eq_true_eq]at this;rcases this with h|h
   ·left
    cases an with
    |nil=>simp at h
    |cons l an=>grind
   grind
  |succ j=>
   rcases zCD Xs Ys (j0+1) an.tail j Y hp.2 (by grind) i X (by omega) hX with h|h
   all_goals grind
section
variable {P:Program}{Γ:Ctx}{pn:tE}{ops:Array Oper}
def zLT(ops:Array Oper)(L:List Bool):Prop:=∀(i:Nat)(o:Oper),ops[i]? =aN o→L[i]? =aN aP→ ∀m∈jS o,L[m]? =aN aP
theorem zDZ{L:List Bool}{an:List (List Nat)}(hf:qU 0 ops.toList=aP)(ha:sS an an ops.toList=aP)(hc:zLT ops L):
  ∀(n i:Nat),i≤n→ ∀o,ops[i]? =aN o→(∀m∈jS o,L[m]? =aN aP)→ ∀k∈an.getD i [],L[k]? =aN aP:=by
 intro n
 induction n with
 |zero=>
  intro i hi o ho hp k hk;have al:i=0:=by omega
  subst al;cases hl:an[0]? with
  |none=>grind
  |some l=>
   obtain⟨o',h1,h2⟩:=zGm an an ops.toList 0 l ha hl;rw[K4,ho]at h1;simp at h1;subst h1;simp only[Gg,hl,G9]at hk;rcases h2 k hk with h|⟨m,h,_⟩
   ·grind
   ·have:=zDz ops.toList 0 0 o hf (by grind) m h
    omega
 |succ n ih=>
  intro i hi o ho hp k hk;cases hl:an[i]? with
  |none=>grind
  |some l=>
   obtain⟨o',h1,h2⟩:=zGm an an ops.toList i l ha hl;rw[K4,ho]at h1;simp at h1;subst h1;simp only[Gg,hl,G9]at hk;rcases h2 k hk with h|⟨m,h,hkm⟩
   ·grind
   ·have gI:=zDz ops.toList 0 i o hf (by grind) m h
    have hLm:=hp m h;cases bJ:ops[m]? with
    |none=>
     grind
    |some om=>exact ih m (by omega) om bJ (hc m om bJ hLm) k hkm
theorem zFo{L:List Bool}{Xs:List Stp}{i:Nat}{b:Bool}{X:Stp}(hL:L[i]? =aN b)(hX:Xs[i]? =aN X):L.zip Xs=(L.take i).zip (Xs.take i)++(b,X)::(L.drop (i+1)).zip (Xs.drop (i+1)):=by
 have h1:L=L.take i++b::L.drop (i+1):=by obtain⟨h,rfl⟩:=J8.1 hL;simp
 have h2:Xs=Xs.take i++X::Xs.drop (i+1):=by obtain⟨h,rfl⟩:=J8.1 hX;simp
 grind[List.zip_cons_cons]
theorem zGn{L:List Bool}{Xs:List Stp}{y:Bool×Stp}(h:y∈L.zip Xs):∃j:Nat,L[j]? =aN y.1∧Xs[j]? =aN y.2:=by grind[U2,List.getElem?_zip_eq_some]
def vX:Env→List Stp→Prop
 |_,[]=>True
 |E,X::Xs=>E.Has X.rd∧vX (E.apps X.l) Xs
theorem vX.get:∀(Xs:List Stp)(E:Env),vX E Xs→ ∀(i:Nat)(X:Stp),Xs[i]? =aN X→(runD E ((Xs.take i).map fun y=>(aP,y))).Has X.rd
 | [],_,_,i,_,h=>by simp at h
 |Y::Xs,E,hh,i,X,h=>by
  cases i with
  |zero=>simp at h;subst h;simpa[runD]using hh.1
  |succ i=>
   have:=vX.get Xs _ hh.2 i X (by grind)
   grind[runD]
theorem Stp.apart_spec{a b:Stp}(h:a.apart b=aP):zCA a.l b.l=aP∧(∀s∈a.slots,s∉b.rd.map (·.1))∧(∀s∈b.slots,s∉a.rd.map (·.1))∧ ∀x∈a.rd,∀y∈b.l,x.2.okB y.2=aP:=by simp only[Stp.apart,J2]at h;refine⟨h.1.1.1,by grind[zDX],by grind[zDX],fun x hx y hy=>?_⟩;exact Ju.1 (Ju.1 h.2 x hx) y hy
mutual
theorem zD0:(t:T)→t.okB []=aP
 |.same _ _|.addr _ _|.sub _ _ _ _ _=>by rfl
 |.agg xs|.tup xs=>by simp only[T.okB];exact zHo xs
 |.any|.lit _|.ro _|.sl _ _|.ptr _=>by rfl
theorem zHo:(xs:List T)→zGN [] xs=aP
 | []=>by rfl
 |x::xs=>by simp only[zGN,zD0 x,zHo xs,Ke]
end
theorem Rep.heap{E:Env}{G:Gh}{tmps:Array Value}{w w':World}(h:Rep Γ E G tmps w)(hw:w'.heap=w.heap)(ho:w'.os=w.os:=by rfl)(hq:w'.output=w.output:=by rfl):Rep Γ E G tmps w' where
 size:=h.size
 ent s t hs:=Ent.keep (chg:=[]) ⟨fun _ _ _=>rfl,fun _ _ _=>rfl,by grind[yA,World.cell?],fun _ _ _ h _=>h,fun b cs e h=>⟨cs,by grind,rfl⟩⟩ (by simp) (zD0 t) (h.ent s t hs)
 mem:=by
  have hm:=h.mem;exact⟨hm.one,fun b o l hl=>by have:=hm.lb b o l hl;exact⟨by rw[hw];exact this.1,this.2⟩,fun b l hl=>by have:=hm.ow b l hl;exact⟨by rw[hw];exact this.1,this.2⟩,
   fun b x hx=>by rw[hw];exact hm.st b x hx,fun b h1 h2=>by rw[hw];exact hm.fr b h1 h2,by rw[hw];exact hm.sz,hm.bk.trans (fun b cs e hb=>⟨cs,by grind,rfl⟩) ho hq⟩
end
end Go.Ab

namespace Go.Ab
open Go
abbrev I(n:Int):T:=.lit (.int .i64 n)
abbrev B(b:Bool):T:=.lit (.bool b)
abbrev L{α:Type}(k:Nat)(f:α→T)(xs:List α):T:=.sl k (xs.map f)
theorem zN{P:Program}{t:TypeId}{ti:TypeInfo}(h:P.types[t]? =aN ti):P.info? t=aN ti:=by grind[Tables.info?]
def Ok(P:Program)(Γ:Ctx)(o:Oper)(E E':Env):Prop:=∀S,yW P (Γ.at S) o E E'
section
variable {P:Program}{Γ:Ctx}{pn:tE}{ops:Array Oper}{o:Oper}{os:List Oper}{E E':Env}{Q:Exit→Env→Prop}{d:Nat}
theorem RW.op(h:Ok P Γ o E E')(k:RW P Γ pn ops os E' Q)(hg:o.guard=aO:=by rfl)(hp:pn.ok o.dst=aP:=by rfl):RW P Γ pn ops (o::os) E Q:=RW.cons (zR.op h hg) k hp
def neD(x:Operand)(d:Nat):Bool:=match x with
 |.tmp s=>s != d
 |_=>aP
theorem zBW{x:Operand}{d:Nat}(h:neD x d=aP):∀s,x=.tmp s→s≠d:=by rintro s rfl;grind[neD]
theorem jT{t:T}(h:t.okTup=aP):∀xs,t≠.tup xs:=by rintro xs rfl;grind[T.okTup]
abbrev mvB(Γ:Ctx)(x:Operand)(t:T)(d:Nat):Bool:=J3 d Γ.N&&t.okTup&&neD x d&&T.okB [(d,0)] (vE x t)
section
variable {x y:Operand}{t:T}{ty:TypeId}{ps:String}{af:Array Edge}{gd:Option (Nat×Bool)}
theorem zT{a b:Nat}(h:J3 a b=aP):a<b:=by grind[Nat.blt_eq]
theorem zK7(hx:opT E x=aN t)(sd:mvB Γ x t d=aP):Ok P Γ ⟨aN d,.move x,ty,ps,af,gd⟩ E (E.app [(d,aN (vE x t))] [(d,0)]):=by simp only[mvB,J2]at sd;exact fun S=>zJu x t (.inl rfl) rfl (zT sd.1.1.1) hx (jT sd.1.1.2) (zBW sd.1.2) sd.2
theorem zOL(hx:opT E x=aN t)(sd:mvB Γ x t d=aP):Ok P Γ ⟨aN d,.assign x,ty,ps,af,gd⟩ E (E.app [(d,aN (vE x t))] [(d,0)]):=by simp only[mvB,J2]at sd;exact fun S=>zJu x t (.inr rfl) rfl (zT sd.1.1.1) hx (jT sd.1.1.2) (zBW sd.1.2) sd.2
def inR(n:Int):Bool:=decide (-9223372036854775808≤n)&&decide (n≤9223372036854775807)
theorem zAt{n:Int}(h:inR n=aP):IntKind.i64.wrap n=n:=by
 simp only[inR,J2,decide_eq_true_eq]at h;have hb:IntKind.i64.bits=64:=rfl;have hs:IntKind.i64.signed=aP:=rfl;simp only[IntKind.wrap,hb,hs,Jb7]
 grind
def rng(n:Int):Option Int:=if inR n then aN n else aO
theorem zAu{n m:Int}(h:rng n=aN m):m=n∧inR n=aP:=by grind[rng]
theorem zLU{m n c:Int}{xt yt:TypeId}(hv:rng (m+n)=aN c)(hx:opT E x=aN (I m))(hy:opT E y=aN (I n))(sd:J3 d Γ.N=aP):Ok P Γ ⟨aN d,.binOp .add xt x y yt,ty,ps,af,gd⟩ E (E.app [(d,aN (I c))] [(d,0)]):=by obtain⟨rfl,h⟩:=zAu hv;exact fun S=>vN .add xt yt x y .i64 m n _ rfl rfl (zT sd) hx hy (by grind[zFW,zAt])
theorem zPY{m n:Int}{xt yt:TypeId}(hx:opT E x=aN (I m))(hy:opT E y=aN (I n))(sd:J3 d Γ.N=aP):Ok P Γ ⟨aN d,.binOp .lss xt x y yt,ty,ps,af,gd⟩ E (E.app [(d,aN (B (decide (m<n))))] [(d,0)]):=
 fun _S=>vN .lss xt yt x y .i64 m n _ rfl rfl (zT sd) hx hy rfl
theorem vT(k:Nat)(sd:J3 d Γ.N=aP):Ok P Γ ⟨aN d,.assign (.const (.slice aO 0 0)),ty,ps,af,gd⟩ E (E.app [(d,aN (.sl k []))] [(d,0)]):=
 fun _=>zGU k _ (.inr rfl) rfl rfl (zT sd)
def yT(n:Int):Option Nat:=if 0≤n∧n≤68719476736 then aN n.toNat else aO
theorem zEa{n:Int}{m:Nat}(h:yT n=aN m):n=(m:Int)∧m≤68719476736:=by grind[yT]
class ElT (P:Program) (t:TypeId) (e:outParam TypeId) (ti:outParam TypeInfo) (k:outParam Nat) (u:outParam T):Prop where
 un:P.underlying t=aN (.slice e)
 info:P.info? e=aN ti
 zero:∃z,ti.zero=aN z∧vQ u=z.cells.toList
 size:ti.size=k
 pos:0<k
 zok:u.zOk=aP
 us:u.size=k
 bytes:ti.bytes≤2048
theorem zLV{t e:TypeId}{ti:TypeInfo}{k:Nat}{u:T}{n m:Nat}{a b:Int}(ht:ElT P t e ti k u)(hn:yT a=aN n)(hx:opT E x=aN (I a))(hm:yT b=aN m)(hy:opT E y=aN (I b))(fx:n≤m)(sd:J3 d Γ.N=aP):
  Ok P Γ ⟨aN d,.makeSlice t x y,ty,ps,af,gd⟩ E (E.app [(d,aN (.sl k (J1 n u)))] [(d,0)]):=by
 obtain⟨rfl,h1⟩:=zEa hn;obtain⟨rfl,h2⟩:=zEa hm;obtain⟨z,hz,hv⟩:=ht.zero;exact fun S=>zOG t e ti z u k x y n m .i64 .i64 rfl rfl (zT sd) ht.un ht.info hz ht.size ht.pos ht.zok hv ht.us (Lb ht.bytes (by decide)) hx hy fx h2
end
end
end Go.Ab

namespace Go.Ab
open Go
def ixO{α:Type}(xs:List α)(i:Int):Option α:=if 0≤i then xs[i.toNat]? else aO
theorem jU{α:Type}{xs:List α}{i:Int}{v:α}(h:ixO xs i=aN v):0≤i∧xs[i.toNat]? =aN v:=by grind[ixO]
def qV:T→Bool
 |.same _ _=>aQ
 |_=>aP
theorem uI{E:Env}{s r:Nat}{q:List Nat}{t u:T}(h1:E s=aN (.same r q))(h2:E r=aN t)(h3:t.get q.reverse=aN u)(h4:qV u=aP):vK E (.tmp s)=aN (r,q,u):=by
 have hg:∀t:T,t.get []=aN t:=fun t=>by rfl
 grind[qV,vK,uP]
theorem wI{E:Env}{s:Nat}{t:T}(h1:E s=aN t)(h4:qV t=aP):vK E (.tmp s)=aN (s,[],t):=by
 have hg:∀t:T,t.get []=aN t:=fun t=>by rfl
 grind[qV,vK,uP]
section
variable {P:Program}{Γ:Ctx}{E:Env}{d:Nat}{x y:Operand}{ty:TypeId}{ps:String}{af:Array Edge}{gd:Option (Nat×Bool)}
class zB3 (P:Program) (t:TypeId) (e:outParam TypeId) (ti:outParam TypeInfo) (k:outParam Nat):Prop where
 un:P.underlying t=aN (.slice e)
 info:P.info? e=aN ti
 size:ti.size=k
theorem zEb{α:Type}{t e:TypeId}{ti:TypeInfo}{r k:Nat}{q:List Nat}{f:α→T}{xs:List α}{v:α}{i:Int}(ht:zB3 P t e ti k)(hv:ixO xs i=aN v)(hx:vK E x=aN (r,q,L k f xs))(hy:opT E y=aN (I i))(sd:J3 d Γ.N=aP):
  Ok P Γ ⟨aN d,.indexAddr t x y,ty,ps,af,gd⟩ E (E.app [(d,aN (.addr r (i.toNat::q)))] [(d,0)]):=by
 obtain⟨h1,h2⟩:=jU hv;exact fun S=>zRH x y t e ti r q k _ .i64 i rfl rfl (zT sd) ht.un ht.info ht.size hx hy h1 (by grind)
theorem qW{α:Type}{t e:TypeId}{ti:TypeInfo}{r k:Nat}{q:List Nat}{f:α→T}{xs:List α}{v:α}{i:Int}(ht:zB3 P t e ti k)(hv:ixO xs i=aN v)(hx:vK E x=aN (r,q,.ro (L k f xs)))(hy:opT E y=aN (I i))(sd:J3 d Γ.N=aP):
  Ok P Γ ⟨aN d,.indexAddr t x y,ty,ps,af,gd⟩ E (E.app [(d,aN (.ro (.ptr (f v))))] [(d,0)]):=by
 obtain⟨h1,h2⟩:=jU hv;exact fun S=>zL2 x y t e ti r q k _ .i64 i _ rfl rfl (zT sd) ht.un ht.info ht.size hx hy h1 (by simp[h2])
theorem zPZ{α:Type}{t e:TypeId}{r k:Nat}{q:List Nat}{f:α→T}{xs:List α}(hu:P.underlying t=aN (.slice e))(hx:vK E x=aN (r,q,L k f xs))(sd:J3 d Γ.N=aP):
  Ok P Γ ⟨aN d,.call { callee:=.builtin .len,args:=#[x],argTypes:=#[t] },ty,ps,af,gd⟩ E (E.app [(d,aN (I xs.length))] [(d,0)]):=
 fun _=>zL1 x t _ r q (L k f xs) xs.length rfl rfl (zT sd) hu hx (by simp[zGO]) rfl
theorem zLW{α:Type}{t e:TypeId}{r k:Nat}{q:List Nat}{f:α→T}{xs:List α}(hu:P.underlying t=aN (.slice e))(hx:vK E x=aN (r,q,.ro (L k f xs)))(sd:J3 d Γ.N=aP):
  Ok P Γ ⟨aN d,.call { callee:=.builtin .len,args:=#[x],argTypes:=#[t] },ty,ps,af,gd⟩ E (E.app [(d,aN (I xs.length))] [(d,0)]):=
 fun _=>zL1 x t _ r q (.ro (L k f xs)) xs.length rfl rfl (zT sd) hu hx (by simp[zGO]) rfl
structure zLX (P:Program) (t:TypeId) (u:T):Prop where
 h:∃ds ti,P.underlying t=aN ds∧P.info? t=aN ti∧zC2 ds= !u.single∧ti.size=u.size
theorem zRM{t:TypeId}{u:T}(ht:zLX P t u)(hx:opT E x=aN (.ro (.ptr u)))(sd:J3 d Γ.N=aP):Ok P Γ ⟨aN d,.load t x,ty,ps,af,gd⟩ E (E.app [(d,aN (roT u))] [(d,0)]):=by obtain⟨ds,ti,h1,h2,h3,h4⟩:=ht.h;exact fun S=>zIw x t ds ti u rfl rfl (zT sd) h1 h2 h3 h4 hx
theorem zEM{t:TypeId}{u tr:T}{r:Nat}{q:List Nat}(ht:zLX P t u)(hx:opT E x=aN (.addr r q))(hr:E r=aN tr)(hg:tr.get q.reverse=aN u)(sd:(J3 d Γ.N&&tr.locd q.reverse&&(r != d)&&T.okB [(d,0)] (cpT r u q))=aP):
  Ok P Γ ⟨aN d,.load t x,ty,ps,af,gd⟩ E (E.app [(d,aN (cpT r u q))] [(d,0)]):=by
 obtain⟨ds,ti,h1,h2,h3,h4⟩:=ht.h;simp only[J2]at sd;exact fun S=>zOF x t ds ti r q tr u rfl rfl (zT sd.1.1.1) h1 h2 h3 h4 hx hr hg sd.1.1.2 (by grind) sd.2
end
end Go.Ab

namespace Go.Ab
open Go
section
variable {P:Program}{Γ:Ctx}{E:Env}{x:Operand}{ty:TypeId}{ps:String}{af:Array Edge}{gd:Option (Nat×Bool)}
theorem zUf{t:TypeId}{ti:TypeInfo}{r s:Nat}{q:List Nat}{tr tr' u0:T}{v:Value}(hi:P.info? t=aN ti)(gu:ti.size=1)(hx:opT E x=aN (.addr r q))(hr:E r=aN tr)(hg:tr.get q.reverse=aN u0)(gp:tr.set q.reverse (.lit v)=tr')(hy:E s=aN (.lit v))
  (sd:(tr.single&&tr.locd q.reverse&&wT (.lit v) u0&&(r != s))=aP):Ok P Γ ⟨aO,.store t x (.tmp s),ty,ps,af,gd⟩ E (E.app [(r,aN tr')] [(r,q.length)]):=by
 simp only[J2]at sd;subst gp;intro S;have:=zGY (P:=P) (Γ:=Γ.at S) (E:=E) (o:=⟨aO,.store t x (.tmp s),ty,ps,af,gd⟩) t ti x (.tmp s) r q tr u0 (.slot s (.lit v)) rfl rfl hi (by rw[gu];rfl) (by omega) hx hr sd.1.1.1 hg sd.1.1.2 sd.1.2 (.slot s _)
  ⟨fun s' t' h=>by simp at h;obtain⟨rfl,rfl⟩:=h;exact⟨hy,by simp[zO,yD],rfl⟩,by simp,by simp[yM,vP]⟩
 exact this
theorem zRN{t:TypeId}{ti:TypeInfo}{r:Nat}{q:List Nat}{tr tr' u0:T}{v:Value}(hi:P.info? t=aN ti)(gu:ti.size=1)(hx:opT E x=aN (.addr r q))(hr:E r=aN tr)(hg:tr.get q.reverse=aN u0)(gp:tr.set q.reverse (.lit v)=tr')
  (sd:(tr.single&&tr.locd q.reverse&&wT (.lit v) u0&&(T.lit v).zOk)=aP)(hz:vQ (.lit v)=v.cells.toList):Ok P Γ ⟨aO,.store t x (.const v),ty,ps,af,gd⟩ E (E.app [(r,aN tr')] [(r,q.length)]):=by
 simp only[J2]at sd;subst gp;intro S;have:=zGY (P:=P) (Γ:=Γ.at S) (E:=E) (o:=⟨aO,.store t x (.const v),ty,ps,af,gd⟩) t ti x (.const v) r q tr u0 (.zero (.lit v)) rfl rfl hi (by rw[gu];rfl) (by omega) hx hr sd.1.1.1 hg sd.1.1.2 sd.1.2 (.zero v _ hz)
  ⟨by simp,by grind,by simp[yM]⟩
 exact this
end
end Go.Ab

namespace Go.Ab
open Go
theorem zF.tr{Γ:Ctx}{E:Env}(d r:Nat)(u:T)(hd:E d=aN (.same r []))(hr:E r=aN u)(hF:zO u)(sd:(u.single&&yP u&&u.okB [(d,1),(r,1)]&&(d != r))=aP):
  zF Γ E (E.app [(d,aN u),(r,aN (.same d []))] [(d,1),(r,1)]):=by
 simp only[J2]at sd
 rintro a w ⟨S,hS,hs⟩
 have gj:d≠r:=by grind
 have hg:∀t:T,t.get []=aN t:=fun t=>by rfl
 have:=zI0 hs d [] r [] (.same r []) u u hd rfl hr (hg u) sd.1.1.1 hF gj (by simp[T.okB,zBe]) sd.1.2 rfl sd.1.1.2;exact⟨S,hS,this⟩
theorem tP{α:Type}{f:α→T}(hf:∀x,zO (f x)):(xs:List α)→yB (xs.map f)
 | []=>trivial
 |x::xs=>⟨hf x,tP hf xs⟩
theorem zJC{α:Type}{f:α→T}{k:Nat}{xs:List α}(hf:∀x,zO (f x)):zO (L k f xs):=by simp only[zO,yD];grind[tP]
theorem zJD(n:Int):zO (I n):=by simp[zO,yD]
theorem zOM(b:Bool):zO (B b):=by simp[zO,yD]
end Go.Ab

namespace Go.Ab
open Go
section
variable {P:Program}{Γ:Ctx}{E:Env}{d:Nat}{x y:Operand}{ty:TypeId}{ps:String}{af:Array Edge}{gd:Option (Nat×Bool)}{m n c:Int}{xt yt:TypeId}
theorem zLY(hv:rng (m-n)=aN c)(hx:opT E x=aN (I m))(hy:opT E y=aN (I n))(sd:J3 d Γ.N=aP):Ok P Γ ⟨aN d,.binOp .sub xt x y yt,ty,ps,af,gd⟩ E (E.app [(d,aN (I c))] [(d,0)]):=by obtain⟨rfl,h⟩:=zAu hv;exact fun _=>vN .sub xt yt x y .i64 m n _ rfl rfl (zT sd) hx hy (by grind[zFW,zAt])
theorem zQa(hv:rng (m*n)=aN c)(hx:opT E x=aN (I m))(hy:opT E y=aN (I n))(sd:J3 d Γ.N=aP):Ok P Γ ⟨aN d,.binOp .mul xt x y yt,ty,ps,af,gd⟩ E (E.app [(d,aN (I c))] [(d,0)]):=by obtain⟨rfl,h⟩:=zAu hv;exact fun _=>vN .mul xt yt x y .i64 m n _ rfl rfl (zT sd) hx hy (by grind[zFW,zAt])
def tQ(m n:Int):Option Int:=if n=0 then aO else rng (m.tdiv n)
def vU(m n:Int):Option Int:=if n=0 then aO else aN (m.tmod n)
theorem zQb(hv:tQ m n=aN c)(hx:opT E x=aN (I m))(hy:opT E y=aN (I n))(sd:J3 d Γ.N=aP):Ok P Γ ⟨aN d,.binOp .quo xt x y yt,ty,ps,af,gd⟩ E (E.app [(d,aN (I c))] [(d,0)]):=by
 unfold tQ at hv;split at hv
 ·cases hv
 ·rename_i h0
  obtain⟨rfl,h⟩:=zAu hv;exact fun _=>vN .quo xt yt x y .i64 m n _ rfl rfl (zT sd) hx hy (by simp only[zFW,h0,if_false,zAt h])
theorem zQc(hv:vU m n=aN c)(hx:opT E x=aN (I m))(hy:opT E y=aN (I n))(sd:J3 d Γ.N=aP):Ok P Γ ⟨aN d,.binOp .rem xt x y yt,ty,ps,af,gd⟩ E (E.app [(d,aN (I c))] [(d,0)]):=by
 unfold vU at hv;split at hv
 ·cases hv
 ·rename_i h0
  simp at hv;subst hv;exact fun _=>vN .rem xt yt x y .i64 m n _ rfl rfl (zT sd) hx hy (by simp only[zFW,h0,if_false])
theorem zRO(hx:opT E x=aN (I m))(hy:opT E y=aN (I n))(sd:J3 d Γ.N=aP):Ok P Γ ⟨aN d,.binOp .leq xt x y yt,ty,ps,af,gd⟩ E (E.app [(d,aN (B (decide (m≤n))))] [(d,0)]):=
 fun _=>vN .leq xt yt x y .i64 m n _ rfl rfl (zT sd) hx hy rfl
theorem zLZ(hx:opT E x=aN (I m))(hy:opT E y=aN (I n))(sd:J3 d Γ.N=aP):Ok P Γ ⟨aN d,.binOp .gtr xt x y yt,ty,ps,af,gd⟩ E (E.app [(d,aN (B (decide (m> n))))] [(d,0)]):=
 fun _=>vN .gtr xt yt x y .i64 m n _ rfl rfl (zT sd) hx hy rfl
theorem zQd(hx:opT E x=aN (I m))(hy:opT E y=aN (I n))(sd:J3 d Γ.N=aP):Ok P Γ ⟨aN d,.binOp .geq xt x y yt,ty,ps,af,gd⟩ E (E.app [(d,aN (B (decide (m≥n))))] [(d,0)]):=
 fun _=>vN .geq xt yt x y .i64 m n _ rfl rfl (zT sd) hx hy rfl
theorem zQe(hx:opT E x=aN (I m))(hy:opT E y=aN (I n))(sd:J3 d Γ.N=aP):Ok P Γ ⟨aN d,.binOp .eql xt x y yt,ty,ps,af,gd⟩ E (E.app [(d,aN (B (m==n)))] [(d,0)]):=
 fun _=>vN .eql xt yt x y .i64 m n _ rfl rfl (zT sd) hx hy rfl
theorem zJE(hx:opT E x=aN (I m))(hy:opT E y=aN (I n))(sd:J3 d Γ.N=aP):Ok P Γ ⟨aN d,.binOp .neq xt x y yt,ty,ps,af,gd⟩ E (E.app [(d,aN (B (m != n)))] [(d,0)]):=
 fun _=>vN .neq xt yt x y .i64 m n _ rfl rfl (zT sd) hx hy rfl
theorem jV{b:Bool}(hx:opT E x=aN (B b))(sd:J3 d Γ.N=aP):Ok P Γ ⟨aN d,.unOp .not xt x,ty,ps,af,gd⟩ E (E.app [(d,aN (B (!b)))] [(d,0)]):=
 fun _=>zQ9 xt x b rfl rfl (zT sd) hx
theorem zQf(hv:rng (0-n)=aN c)(hx:opT E x=aN (I n))(sd:J3 d Γ.N=aP):Ok P Γ ⟨aN d,.unOp .neg xt x,ty,ps,af,gd⟩ E (E.app [(d,aN (I c))] [(d,0)]):=by
 obtain⟨rfl,h⟩:=zAu hv;have:=fun S=>zQA (P:=P) (Γ:=Γ.at S) (E:=E) (o:=⟨aN d,.unOp .neg xt x,ty,ps,af,gd⟩) xt x .i64 n rfl rfl (zT sd) hx
 rw[zAt h]at this;exact this
end
end Go.Ab

namespace Go.Ab
open Go
section
variable {P:Program}{Γ:Ctx}{E:Env}{d:Nat}{x y:Operand}{ty:TypeId}{ps:String}{af:Array Edge}{gd:Option (Nat×Bool)}
class zI5 (P:Program) (t:TypeId) (u:outParam T):Prop where
 h:∃ti z,P.info? t=aN ti∧ti.zero=aN z∧u.zOk=aP∧vQ u=z.cells.toList∧z.cells.size=u.size
theorem zJF{t:TypeId}{u:T}(ht:zI5 P t u)(sd:J3 d Γ.N=aP):Ok P Γ ⟨aN d,.alloc t,ty,ps,af,gd⟩ E (E.app [(d,aN (.ptr u))] [(d,0)]):=by obtain⟨ti,z,h1,h2,h3,h4,h5⟩:=ht.h;exact fun S=>zLB t ti z u rfl rfl (zT sd) h1 h2 h3 h4 h5
theorem zMa{s i:Nat}{ts:List T}{t:T}(hs:E s=aN (.tup ts))(hi:ts[i]? =aN t)(sd:(J3 d Γ.N&&t.okTup&&(s != d)&&T.okB [(d,0)] (cpT s t [i]))=aP):
  Ok P Γ ⟨aN d,.extract (.tmp s) i,ty,ps,af,gd⟩ E (E.app [(d,aN (cpT s t [i]))] [(d,0)]):=by
 simp only[J2]at sd;exact fun S=>zIx s i ts t rfl rfl (zT sd.1.1.1) hs hi (jT sd.1.1.2) (by grind) sd.2
theorem tR{t:T}(hx:opT E x=aN t)(hp:zDa E x=aP)(sd:mvB Γ x t d=aP):Ok P Γ ⟨aN d,.nilCheck x,ty,ps,af,gd⟩ E (E.app [(d,aN (vE x t))] [(d,0)]):=by simp only[mvB,J2]at sd;exact fun S=>zQB x t rfl rfl (zT sd.1.1.1) hx hp (jT sd.1.1.2) (zBW sd.1.2) sd.2
theorem zI6{c:Operand}{b:Bool}{t:T}(hc:opT E c=aN (B b))(hx:opT E (if b then x else y)=aN t)(sd:mvB Γ (if b then x else y) t d=aP):Ok P Γ ⟨aN d,.pick c x y,ty,ps,af,gd⟩ E (E.app [(d,aN (vE (if b then x else y) t))] [(d,0)]):=by simp only[mvB,J2]at sd;exact fun S=>zOC c x y b t rfl rfl (zT sd.1.1.1) hc hx (jT sd.1.1.2) (zBW sd.1.2) sd.2
theorem zMb{t:TypeId}{s:Nat}{u:T}(hs:E s=aN u)(hu:zO u)(sd:(J3 d Γ.N&&u.okTup&&(s != d))=aP):
  Ok P Γ ⟨aN d,.box t (.tmp s),ty,ps,af,gd⟩ E (E.app ((d,aN (.ptr u))::pWr d [.slot s u] 0) ((d,0)::vR [.slot s u])):=by
 simp only[J2]at sd;have gj:s≠d:=by grind
 refine fun S=>zQD t (.tmp s) (.slot s u) rfl rfl (zT sd.1.1) (.slot s u) ⟨by grind,by simp,?_⟩
 simp only[yM]
 grind
end
end Go.Ab

namespace Go.Ab
open Go
def xR{α:Type}(xs ys:List α):Option (List α):=if xs.length+ys.length≤68719476736 then aN (xs++ys)else aO
theorem zCE{α:Type}{xs ys zs:List α}(h:xR xs ys=aN zs):zs=xs++ys∧xs.length+ys.length≤68719476736:=by grind[xR]
section
variable {P:Program}{Γ:Ctx}{E:Env}{d:Nat}{x y:Operand}{ty:TypeId}{ps:String}{af:Array Edge}{gd:Option (Nat×Bool)}
theorem ElT.zsize{t e:TypeId}{ti:TypeInfo}{k:Nat}{u:T}(h:ElT P t e ti k u):∃z,ti.zero=aN z∧z.cells.size=k:=by obtain⟨z,h1,h2⟩:=h.zero;exact⟨z,h1,by rw[←Jv,←h2,xP u h.zok,h.us]⟩
theorem zCF{α:Type}{t e:TypeId}{ti:TypeInfo}{k:Nat}{u:T}{f:α→T}{xs ys zs:List α}{s0 s1:Nat}(ht:ElT P t e ti k u)(hv:xR xs ys=aN zs)(h0:E s0=aN (L k f xs))(h1:E s1=aN (L k f ys))(sd:(J3 d Γ.N&&(s0 != d)&&(s1 != d)&&(s1 != s0))=aP):
  Ok P Γ ⟨aN d,.call { callee:=.builtin .append,args:=#[.tmp s0,.tmp s1],argTypes:=#[t,t] },ty,ps,af,gd⟩ E (E.app [(d,aN (L k f zs)),(s0,aN .any),(s1,aN .any)] [(d,0),(s0,1),(s1,1)]):=by
 obtain⟨rfl,hl⟩:=zCE hv;obtain⟨z,hz,eP⟩:=ht.zsize;simp only[J2]at sd;intro S;have:=zGg (P:=P) (Γ:=Γ.at S) (E:=E) (o:=⟨aN d,.call { callee:=.builtin .append,args:=#[.tmp s0,.tmp s1],argTypes:=#[t,t] },ty,ps,af,gd⟩) t e ti z k s0 s1 (xs.map f) (ys.map f) rfl rfl (zT sd.1.1.1) ht.un ht.info hz ht.size ht.pos eP ht.bytes h0 h1
  (by grind) (by grind) (by grind) (by grind)
 rw[←Le]at this;exact this
theorem zFp{α:Type}{f:α→T}(hf:∀x,(f x).flat=aP):(xs:List α)→sP (xs.map f)=aP
 | []=>rfl
 |x::xs=>by simp only[Jg,sP,hf x,zFp hf xs,Ke]
theorem zCG{α:Type}{t e:TypeId}{ti:TypeInfo}{k r:Nat}{q:List Nat}{u:T}{f:α→T}{xs ys zs:List α}{s0:Nat}(ht:ElT P t e ti k u)(hf:∀x,(f x).flat=aP)(hv:xR xs ys=aN zs)(h0:E s0=aN (L k f xs))(h1:vK E y=aN (r,q,L k f ys))(sd:(J3 d Γ.N&&(s0 != d))=aP):
  Ok P Γ ⟨aN d,.call { callee:=.builtin .append,args:=#[.tmp s0,y],argTypes:=#[t,t] },ty,ps,af,gd⟩ E (E.app [(d,aN (L k f zs)),(s0,aN .any)] [(d,0),(s0,1)]):=by
 obtain⟨rfl,hl⟩:=zCE hv;obtain⟨z,hz,eP⟩:=ht.zsize;simp only[J2]at sd;intro S;have:=zGh (P:=P) (Γ:=Γ.at S) (E:=E) (o:=⟨aN d,.call { callee:=.builtin .append,args:=#[.tmp s0,y],argTypes:=#[t,t] },ty,ps,af,gd⟩) t e ti z k s0 y r q (xs.map f) (ys.map f) rfl rfl (zT sd.1) ht.un ht.info hz ht.size ht.pos eP ht.bytes h0 h1 (zFp hf ys)
  (by grind) (by grind)
 rw[←Le]at this;exact this
end
end Go.Ab

namespace Go.Ab
open Go
abbrev IK(k:IntKind)(n:Int):T:=.lit (.int k n)
abbrev Str(s:ByteArray):T:=.lit (.string s)
abbrev Pt{α:Type}(f:α→T)(x:α):T:=.ptr (f x)
abbrev Ro{α:Type}(f:α→T)(x:α):T:=.ro (f x)
abbrev A2{α:Type}(f:α→T)(x:α×α):T:=.agg [f x.1,f x.2]
theorem bd{α β:Type}{o:Option α}{f:α→Option β}{r:β}(h:o.bind f=aN r):∃v,o=aN v∧f v=aN r:=by
 cases o with
 |none=>simp at h
 |some v=>grind
theorem cT{α:Type}{b:Bool}{x y:α}{z:α}(hc:b=aP)(h:cond b x y=z):x=z:=by grind
theorem cF{α:Type}{b:Bool}{x y:α}{z:α}(hc:b=aQ)(h:cond b x y=z):y=z:=by grind
theorem sI{α:Type}{x y:α}(h:aN x=aN y):x=y:=G6.inj h
section
variable {P:Program}{Γ:Ctx}{pn:tE}{E E':Env}{Q:Exit→Env→Prop}{c:Code}{id id':Nat}
theorem nA(h:CW P Γ pn c E Q):xV P Γ pn c Q .normal E:=h
theorem xA(h:Q (.exit id) E):xV P Γ pn c Q (.exit id) E:=h
theorem rA(h:Q .ret E):xV P Γ pn c Q .ret E:=h
theorem nB(h:Q .normal E):xW id Q .normal E:=h
theorem rB(h:Q .ret E):xW id Q .ret E:=h
theorem xB(h:Q .normal E):xW id Q (.exit id) E:=by simp only[xW,if_true];exact h
theorem neX:Exit.exit id≠.normal:=by simp
theorem neR:Exit.ret≠.normal:=by simp
theorem RW.cases{ops:Array Oper}{os:List Oper}(s:Nat)(b:Bool)(hb:E s=aN (B b))(ht:b=aP→RW P Γ pn ops os (E.app [(s,aN (B aP))] []) Q)(hf:b=aQ→RW P Γ pn ops os (E.app [(s,aN (B aQ))] []) Q):RW P Γ pn ops os E Q:=by
 have key:∀c:Bool,b=c→zF Γ E (E.app [(s,aN (B c))] []):=by
  rintro c rfl a w hs
  refine hs.weaken fun s' t h=>?_
  by_cases e:s=s'
  ·grind[Env.app,Wr.find]
  ·simp only[Env.app,Wr.find,e,if_false]at h
   grind
 cases hc:b with
 |true=>grind[ghost]
 |false=>grind[ghost]
end
theorem zJ{α:Type}{k:Nat}{f:α→T}{xs:List α}{i:Int}{v:α}{p:List Nat}{u:T}(h:ixO xs i=aN v)(hr:(f v).get p=aN u):(L k f xs).get (i.toNat::p)=aN u:=by simp[T.get,(jU h).2,hr]
theorem yK{t u:T}{p:List Nat}(h:t.get p=aN u):(T.ptr t).get (0::p)=aN u:=h
theorem yL{xs:List T}{x u:T}{j:Nat}{p:List Nat}(hj:xs[j]? =aN x)(h:x.get p=aN u):(T.agg xs).get (j::p)=aN u:=by grind[T.get]
theorem zDs{α:Type}{k:Nat}{f:α→T}{xs:List α}{i:Int}{v w:α}{p:List Nat}{u:T}(h:ixO xs i=aN v)(hr:(f v).set p u=f w):(L k f xs).set (i.toNat::p) u=L k f (xs.set i.toNat w):=by simp[L,T.set,(jU h).2,hr,List.map_set]
theorem zB4{t u t':T}{p:List Nat}(h:t.set p u=t'):(T.ptr t).set (0::p) u=T.ptr t':=by simp[T.set,h]
theorem zON{xs:List T}{x u x':T}{j:Nat}{p:List Nat}(hj:xs[j]? =aN x)(h:x.set p u=x'):(T.agg xs).set (j::p) u=.agg (xs.set j x'):=by grind[T.set]
class Enc {α:Type} (f:α→T):Prop where
 clean:∀x,zO (f x)
 rofree:∀x,xK (f x)=aP
 strip:∀x,strip (f x)=f x
 okTup:∀x,(f x).okTup=aP
 rook:∀x,zC7 (f x)=aP
theorem zEc{α:Type}{f:α→T}(h:∀x,xK (f x)=aP):(xs:List α)→xQ (xs.map f)=aP
 | []=>rfl
 |x::xs=>by simp only[Jg,xQ,h x,zEc h xs,Ke]
theorem zEd{α:Type}{f:α→T}(h:∀x,zC7 (f x)=aP):(xs:List α)→jQ (xs.map f)=aP
 | []=>rfl
 |x::xs=>by simp only[Jg,jQ,h x,zEd h xs,Ke]
theorem vY{α:Type}{f g:α→T}(h:∀x,strip (f x)=g x):(xs:List α)→wF (xs.map f)=xs.map g
 | []=>rfl
 |x::xs=>by simp only[Jg,wF,h x,vY h xs]
instance:Enc I:=⟨zJD,fun _=>rfl,fun _=>rfl,fun _=>rfl,fun _=>rfl⟩
instance:Enc B:=⟨zOM,fun _=>rfl,fun _=>rfl,fun _=>rfl,fun _=>rfl⟩
instance{k:IntKind}:Enc (IK k):=⟨fun _=>by simp[zO,yD],fun _=>rfl,fun _=>rfl,fun _=>rfl,fun _=>rfl⟩
instance:Enc Str:=⟨fun _=>by simp[zO,yD],fun _=>rfl,fun _=>rfl,fun _=>rfl,fun _=>rfl⟩
instance{α:Type}{k:Nat}{f:α→T}[h:Enc f]:Enc (L k f):=
 ⟨fun _=>zJC h.clean,fun xs=>by simp only[xK];exact zEc h.rofree xs,fun xs=>by simp only[L,strip,vY h.strip xs],fun _=>rfl,fun xs=>by simp only[zC7,zEd h.rook xs]⟩
instance{α:Type}{f:α→T}[h:Enc f]:Enc (A2 f):=
 ⟨fun x=>by simp only[zO,yD,yQ];exact⟨h.clean _,h.clean _,trivial⟩,fun x=>by simp only[xK,xQ,h.rofree,Ke],fun x=>by simp only[A2,strip,wF,h.strip],
  fun x=>by simp only[T.okTup,zV,h.okTup,Ke],fun x=>by simp only[zC7,jQ,h.rook,Ke]⟩
instance{α:Type}{f:α→T}[h:Enc f]:Enc (Pt f):=
 ⟨fun x=>by simp only[zO,yD];exact h.clean x,fun x=>by simp only[xK,h.rofree],fun x=>by simp only[Pt,strip,h.strip],fun _=>rfl,fun x=>by simp only[zC7,h.rook]⟩
class wQ {α:Type} (f g:α→T):Prop where
 h:∀x,strip (f x)=g x
instance{α:Type}{f:α→T}[h:Enc f]:wQ f f:=⟨h.strip⟩
instance{α:Type}{k:Nat}{f g:α→T}[h:wQ f g]:wQ (L k f) (L k g):=⟨fun xs=>by simp only[L,strip,vY h.h xs]⟩
instance{α:Type}{k:Nat}{g:α→T}:wQ (Ro (L k g)) (L k g):=⟨fun _=>rfl⟩
instance{α:Type}{g:α→T}:wQ (Ro (Pt g)) (Pt g):=⟨fun _=>rfl⟩
theorem stA{xs ys:List T}(h:wF xs=ys):strip (.agg xs)=.agg ys:=by grind[strip]
theorem stC{x y:T}{xs ys:List T}(h:strip x=y)(h2:wF xs=ys):wF (x::xs)=y::ys:=by grind[wF]
section
variable {E:Env}{rw:Rw}{i s r:Nat}{q:List Nat}{x:Operand}
theorem zBX{α:Type}{k:Nat}{f g:α→T}{xs:List α}(h:wQ f g):clo E (L k f xs)=.ro (L k g xs):=by simp only[clo,L,strip,vY h.h xs]
theorem zOO{t u:T}(h:strip t=u):clo E (.ptr t)=.ro (.ptr u):=by grind[clo,strip]
theorem zCH{tr u:T}(hr:E r=aN tr)(hg:tr.get q.reverse=aN u)(h4:qV u=aP):uP E 4 r q=aN (r,q,u):=by grind[qV,uP]
theorem sK{α:Type}{k:Nat}{f g:α→T}{xs:List α}{tr:T}(hr:E r=aN tr)(hg:tr.get q.reverse=aN (L k f xs))(h:wQ f g):clo E (.same r q)=.ro (L k g xs):=by simp only[clo,zCH hr hg rfl,T.single,if_true,L,strip,vY h.h xs]
theorem zRP{t u tr:T}(hr:E r=aN tr)(hg:tr.get q.reverse=aN (.ptr t))(h:strip t=u):clo E (.same r q)=.ro (.ptr u):=by simp only[clo,zCH hr hg rfl,T.single,if_true,strip,h]
theorem zQE{α:Type}{k l h:Nat}{f g:α→T}{xs:List α}{tr:T}(hr:E r=aN tr)(hg:tr.get q.reverse=aN (L k f xs))(hs:wQ f g)(h1:l≤h)(h2:h≤xs.length):clo E (.sub r q k l h)=.ro (L k g ((xs.drop l).take (h-l))):=by simp only[clo,zCH hr hg rfl,L,vY hs.h xs,Jf,h1,h2,and_self,if_true,Jb6,Gd]
theorem zGo{xs ys:List T}(h:kJ E xs=ys):clo E (.agg xs)=.agg ys:=by grind[clo]
theorem zGp:kJ E []=[]:=rfl
theorem sL{x y:T}{xs ys:List T}(h:clo E x=y)(h2:kJ E xs=ys):kJ E (x::xs)=y::ys:=by grind[kJ]
mutual
theorem zFq(s:Nat):(t:T)→t.okTup=aP→uH E [] s t=aP
 |.agg xs,h=>by simp only[uH,T.okTup]at h ⊢;exact zEe s xs h
 |.tup _,h=>by grind[T.okTup]
 |.same r q,_|.sub r q _ _ _,_=>by grind[uH]
 |.sl _ _,_|.ptr _,_=>by rfl
 |.lit _,_|.ro _,_|.any,_|.addr _ _,_=>by rfl
theorem zEe(s:Nat):(xs:List T)→zV xs=aP→qD E [] s xs=aP
 | [],_=>rfl
 |x::xs,h=>by simp only[zV,J2]at h;simp only[qD,zFq s x h.1,zEe s xs h.2,Ke]
end
theorem agC{u:T}(t:T)(h:opT E x=aN t)(h1:clo E t=u)(h2:t.okTup=aP):zAa E [] i x u:=.inr ⟨t,h,h1,by
 cases x with
 |tmp s=>exact zFq s t h2
 |_=>rfl⟩
end
section
variable {P:Program}{Γ:Ctx}{E:Env}{d:Nat}{x y:Operand}{ty:TypeId}{ps:String}{af:Array Edge}{gd:Option (Nat×Bool)}
abbrev sF(res:List T):Prop:=yB res∧zV res=aP∧xQ res=aP
theorem xX:sF []:=⟨trivial,rfl,rfl⟩
theorem xY{α:Type}{f:α→T}{x:α}{ts:List T}(h:Enc f)(h2:sF ts):sF (f x::ts):=
 ⟨⟨h.clean x,h2.1⟩,by simp only[zV,h.okTup,h2.2.1,Ke],by simp only[xQ,h.rofree,h2.2.2,Ke]⟩
abbrev qF(P:Program)(f:FuncId):Prop:=∀args w,(callFunc f args).run P w=.ok (.enter f args) w
theorem yR{f:FuncId}{xs:List Operand}{ats:Array TypeId}{us res:List T}(gm:qF P f)(hc:FnC P f us res [])(gc:yN E [] 0 xs us)(gk:sF res)(sd:J3 d Γ.N=aP):
  Ok P Γ ⟨aN d,.call { callee:=.value (.func f),args:=xs.toArray,argTypes:=ats },ty,ps,af,gd⟩ E (E.app (cWr d res []) (wC d [])):=
 fun _S=>zJB f (.func f) xs ats us res [] rfl rfl (zT sd) gm rfl hc gc .nil gk
theorem zOP{f:FuncId}{xs:List Operand}{ats:Array TypeId}{us res:List T}(gm:qF P f)(hc:FnC P f us res [])(gg:xs.length=us.length)(gc:∀(i:Nat) u,us[i]? =aN u→ ∃x,xs[i]? =aN x∧opT E x=aN u∧u.flat=aP)(gk:yB res∧zV res=aP)(sd:J3 d Γ.N=aP):
  Ok P Γ ⟨aN d,.call { callee:=.value (.func f),args:=xs.toArray,argTypes:=ats },ty,ps,af,gd⟩ E (E.app (cWr d res []) (wC d [])):=
 fun _S=>zLN f (.func f) xs ats us res rfl rfl (zT sd) gm rfl hc gg gc gk
class sT (P:Program) (S:TypeId) (j:Nat) (off:outParam Nat):Prop where
 h:∃fs f fi,P.underlying S=aN (.struct fs)∧fs[j]? =aN f∧P.info? f.type=aN fi∧fi.size≠0∧off=f.offset
theorem zOQ{S:TypeId}{j off r:Nat}{q:List Nat}{xs:List T}{u:T}(ht:sT P S j off)(hx:vK E x=aN (r,q,.ptr (.agg xs)))(hu:xs[j]? =aN u)(gB:T.sizes (xs.take j)=off)(sd:J3 d Γ.N=aP):
  Ok P Γ ⟨aN d,.fieldAddr S x j,ty,ps,af,gd⟩ E (E.app [(d,aN (.addr r (j::0::q)))] [(d,0)]):=by
 obtain⟨fs,f,fi,h1,h2,h3,h4,h5⟩:=ht.h;exact fun _=>zRI x S fs f fi j r q xs u rfl rfl (zT sd) h1 h2 h3 h4 hx hu (by omega)
theorem zJG{S:TypeId}{j off:Nat}{xs:List T}{u:T}(ht:sT P S j off)(hx:opT E x=aN (.ro (.ptr (.agg xs))))(hu:xs[j]? =aN u)(gB:T.sizes (xs.take j)=off)(sd:J3 d Γ.N=aP):
  Ok P Γ ⟨aN d,.fieldAddr S x j,ty,ps,af,gd⟩ E (E.app [(d,aN (.ro (.ptr u)))] [(d,0)]):=by
 obtain⟨fs,f,fi,h1,h2,h3,h4,h5⟩:=ht.h;exact fun _=>zL3 x S fs f fi j xs u rfl rfl (zT sd) h1 h2 h3 h4 hx hu (by omega)
def yF{α:Type}(xs:List α)(l h:Int):Option (List α):=if 0≤l∧l≤h∧h≤(xs.length:Int)then aN ((xs.drop l.toNat).take (h.toNat-l.toNat))else aO
theorem zRQ{α:Type}{t e:TypeId}{ti:TypeInfo}{r k:Nat}{q:List Nat}{f:α→T}{xs ys:List α}{lo hi:Option Operand}{l h:Int}(ht:zB3 P t e ti k)(hv:yF xs l h=aN ys)(hx:vK E x=aN (r,q,.ro (L k f xs)))(eo:kF E lo 0 l.toNat)(eF:kF E hi xs.length h.toNat)(sd:J3 d Γ.N=aP):
  Ok P Γ ⟨aN d,.slice t x lo hi aO,ty,ps,af,gd⟩ E (E.app [(d,aN (.ro (L k f ys)))] [(d,0)]):=by
 unfold yF at hv;split at hv
 ·rename_i hc
  simp at hv;subst hv;intro S;have:=zGS (P:=P) (Γ:=Γ.at S) (E:=E) (o:=⟨aN d,.slice t x lo hi aO,ty,ps,af,gd⟩) x lo hi t e ti r q k (xs.map f) l.toNat h.toNat rfl rfl (zT sd) ht.un ht.info ht.size hx eo (by grind) (by omega) (by simp;omega);simpa[L,Jb6,Gd]using this
 ·cases hv
theorem zMc{α:Type}{t e:TypeId}{ti:TypeInfo}{r k:Nat}{q:List Nat}{f:α→T}{xs ys:List α}{lo hi:Option Operand}{l h:Int}(ht:zB3 P t e ti k)(hv:yF xs l h=aN ys)(hx:vK E x=aN (r,q,L k f xs))(eo:kF E lo 0 l.toNat)(eF:kF E hi xs.length h.toNat)(sd:(J3 d Γ.N&&(r != d))=aP):
  Ok P Γ ⟨aN d,.slice t x lo hi aO,ty,ps,af,gd⟩ E (E.app [(d,aN (.sub r q k l.toNat h.toNat))] [(d,0)]):=by
 unfold yF at hv;simp only[J2]at sd;split at hv
 ·rename_i hc
  intro S;exact zGa (P:=P) (Γ:=Γ.at S) (E:=E) (o:=⟨aN d,.slice t x lo hi aO,ty,ps,af,gd⟩) x lo hi t e ti r q k (xs.map f) l.toNat h.toNat rfl rfl (zT sd.1) ht.un ht.info ht.size hx eo (by grind) (by omega) (by simp;omega) (by grind)
 ·cases hv
end
end Go.Ab

namespace Go.Ab
open Go
theorem zE{t:T}(h:zO t):zO t:=h
theorem zM{α:Type}{f:α→T}{k:Nat}{xs:List α}(hf:∀x,zO (f x)):zO (L k f xs):=zJC hf
theorem qG{t:T}(h:zO t):zO (.ptr t):=by simpa only[zO,yD]using h
theorem uF{xs:List T}(h:yB xs):zO (.agg xs):=by simpa only[zO,yD]using h
section
variable {P:Program}{Γ:Ctx}{pn:tE}{E E':Env}{Q:Exit→Env→Prop}{c c1 c2:Code}{x:Operand}
theorem CW.condT(hx:opT E x=aN (B aP))(h:CW P Γ pn c1 E Q):CW P Γ pn (.cond x c1 c2) E Q:=by grind[CW.cond]
theorem CW.condF(hx:opT E x=aN (B aQ))(h:CW P Γ pn c2 E Q):CW P Γ pn (.cond x c1 c2) E Q:=by grind[CW.cond]
theorem CW.casesB(b:Bool)(ht:b=aP→CW P Γ pn c E Q)(hf:b=aQ→CW P Γ pn c E Q):CW P Γ pn c E Q:=by grind
theorem tI{wr:Wr}{chg:Chg}{s:Nat}{t:T}(h:E s=aN t)(hf:wr.find s=aO:=by rfl)(hb:t.okB chg=aP:=by rfl):E.app wr chg s=aN t:=by grind[Env.app]
theorem zR.gh{ops:Array Oper}{o:Oper}{E1:Env}(hg:zF Γ E E1)(h:zR P Γ ops o E1 E'):zR P Γ ops o E E':=fun a w K Q hs hK=>h a w K Q (hg a w hs) hK
theorem zAv{t:T}(h:opT E x=aN (.ro (.ptr t))):zDa E x=aP:=by simp[zDa,h]
theorem zAP{r:Nat}{q:List Nat}{t:T}(h:vK E x=aN (r,q,.ptr t)):zDa E x=aP:=by grind[zDa]
end
theorem zRR{E:Env}{n:Nat}:kF E aO n (n:Int).toNat:=by simp[kF]
theorem zRS{E:Env}:kF E aO 0 (0:Int).toNat:=by simp[kF]
theorem zQF{E:Env}{x:Operand}{n:Int}{d:Nat}(h0:0≤n)(h:opT E x=aN (I n)):kF E (aN x) d n.toNat:=⟨.i64,by grind⟩
theorem wW{α:Type}{xs ys:List α}{l h:Int}(hv:yF xs l h=aN ys):0≤l∧l≤h∧h≤xs.length∧ys=(xs.drop l.toNat).take (h.toNat-l.toNat):=by grind[yF]
theorem zFr{α:Type}{xs ys:List α}{l h:Int}(hv:yF xs l h=aN ys):0≤l:=(wW hv).1
theorem zFs{α:Type}{xs ys:List α}{l h:Int}(hv:yF xs l h=aN ys):0≤h:=by have:=wW hv;omega
theorem zOR{E:Env}{r k:Nat}{q:List Nat}{α:Type}{l h:Int}{f g:α→T}{xs ys:List α}{tr:T}(hr:E r=aN tr)(hg:tr.get q.reverse=aN (L k f xs))(hs:wQ f g)(hv:yF xs l h=aN ys):
  clo E (.sub r q k l.toNat h.toNat)=.ro (L k g ys):=by
 obtain⟨h1,h2,h3,rfl⟩:=wW hv
 grind[zQE]
section
variable {P:Program}{Γ:Ctx}{E E':Env}{d:Nat}{x y:Operand}{ty:TypeId}{ps:String}{af:Array Edge}{gd:Option (Nat×Bool)}
theorem kK{o:Oper}{e b:Bool}{d:Nat}{wr:Wr}{chg:Chg}(he:e=b)(h:Ok P Γ o E (E.app ((d,aN (B e))::wr) chg)):Ok P Γ o E (E.app ((d,aN (B b))::wr) chg):=he▸h
theorem zRT{t:TypeId}{u tr t0:T}{r:Nat}{q:List Nat}(ht:zLX P t u)(hx:vK E x=aN (r,q,.ptr t0))(hr:E r=aN tr)(hg:tr.get (0::q).reverse=aN u)(sd:(J3 d Γ.N&&tr.locd (0::q).reverse&&(r != d)&&T.okB [(d,0)] (cpT r u (0::q)))=aP):
  Ok P Γ ⟨aN d,.load t x,ty,ps,af,gd⟩ E (E.app [(d,aN (cpT r u (0::q)))] [(d,0)]):=by
 obtain⟨ds,ti,h1,h2,h3,h4⟩:=ht.h;simp only[J2]at sd;exact fun S=>zGP x t ds ti r (0::q) tr u rfl rfl (zT sd.1.1.1) h1 h2 h3 h4 (kZ.ptr hx) hr hg sd.1.1.2 (by grind) sd.2
theorem zQg{t:TypeId}{ti:TypeInfo}{r s:Nat}{q:List Nat}{tr tr' u0 u:T}(hi:P.info? t=aN ti)(gu:(ti.size==u.size&&J3 0 ti.size)=aP)(hx:∀S,kZ (Γ.at S) E x r q)(hr:E r=aN tr)(hg:tr.get q.reverse=aN u0)(gp:tr.set q.reverse u=tr')(hy:E s=aN u)(hu:zO u)
  (sd:(tr.single&&tr.locd q.reverse&&wT u u0&&(r != s)&&u.okTup)=aP):Ok P Γ ⟨aO,.store t x (.tmp s),ty,ps,af,gd⟩ E (E.app ((r,aN tr')::sWr r q (.slot s u)) ((r,q.length)::vR [.slot s u])):=by
 simp only[J2]at sd gu;subst gp;intro S;refine zFc (P:=P) (Γ:=Γ.at S) (E:=E) (o:=⟨aO,.store t x (.tmp s),ty,ps,af,gd⟩) t ti x (.tmp s) r q tr u0 (.slot s u) rfl rfl hi (by grind[zY.tree]) (zT gu.2) (hx S) hr sd.1.1.1.1 hg sd.1.1.1.2 sd.1.1.2 (.slot s _)
  ⟨by grind,by simp,?_⟩
 grind[yM]
theorem zMd{t:TypeId}{ti:TypeInfo}{r s:Nat}{q:List Nat}{tr tr' u0 u:T}(hi:P.info? t=aN ti)(gu:(ti.size==u.size&&J3 0 ti.size)=aP)(hx:opT E x=aN (.addr r q))(hr:E r=aN tr)(hg:tr.get q.reverse=aN u0)(gp:tr.set q.reverse u=tr')(hy:E s=aN u)(hu:zO u)
  (sd:(tr.single&&tr.locd q.reverse&&wT u u0&&(r != s)&&u.okTup)=aP):Ok P Γ ⟨aO,.store t x (.tmp s),ty,ps,af,gd⟩ E (E.app ((r,aN tr')::sWr r q (.slot s u)) ((r,q.length)::vR [.slot s u])):=
 zQg hi gu (fun _=>kZ.addr hx) hr hg gp hy hu sd
theorem zJH{t:TypeId}{ti:TypeInfo}{r s:Nat}{q:List Nat}{tr tr' u0 u t0:T}(hi:P.info? t=aN ti)(gu:(ti.size==u.size&&J3 0 ti.size)=aP)(hx:vK E x=aN (r,q,.ptr t0))(hr:E r=aN tr)(hg:tr.get (0::q).reverse=aN u0)(gp:tr.set (0::q).reverse u=tr')(hy:E s=aN u)(hu:zO u)
  (sd:(tr.single&&tr.locd (0::q).reverse&&wT u u0&&(r != s)&&u.okTup)=aP):Ok P Γ ⟨aO,.store t x (.tmp s),ty,ps,af,gd⟩ E (E.app ((r,aN tr')::sWr r (0::q) (.slot s u)) ((r,(0::q).length)::vR [.slot s u])):=
 zQg hi gu (fun _=>kZ.ptr hx) hr hg gp hy hu sd
theorem zEf{G:Gh}{s:Nat}:(xs:List T)→zV xs=aP→ ∀(p:List Nat)(i j:Nat)(u:T),xs[j]? =aN u→ ∃l1 l2,zP G s xs p i=l1++vals G s u ((i+j)::p)++l2∧l1.length=T.sizes (xs.take j)
 | [],_,_,_,_,_,h=>by simp at h
 |x::xs,ht,p,i,j,u,h=>by
  simp only[zV,J2]at ht;cases j with
  |zero=>simp at h;subst h;exact⟨[],zP G s xs p (i+1),by rfl,by rfl⟩
  |succ j=>
   obtain⟨l1,l2,h1,h2⟩:=zEf xs ht.2 p (i+1) j u (by grind);refine⟨vals G s x (i::p)++l1,l2,by rw[zP,h1,show i+(j+1)=i+1+j from by omega];simp,?_⟩;rw[J9,xL x _ (by rintro ys rfl;grind[T.okTup]),h2,Kj,T.sizes]
theorem zMe{S:TypeId}{j off s:Nat}{xs:List T}{u:T}(ht:sT P S j off)(hv:∃ds ti fs f,P.underlying S=aN (.struct fs)∧fs[j]? =aN f∧P.underlying f.type=aN ds∧P.info? f.type=aN ti∧zC2 ds= !u.single∧ti.size=u.size)(hx:E s=aN (.agg xs))(hu:xs[j]? =aN u)(gB:T.sizes (xs.take j)=off)
  (sd:(J3 d Γ.N&&zV xs&&u.okTup&&(s != d)&&T.okB [(d,0)] (cpT s u [j]))=aP):
  Ok P Γ ⟨aN d,.field S (.tmp s) j,ty,ps,af,gd⟩ E (E.app [(d,aN (cpT s u [j]))] [(d,0)]):=by
 obtain⟨fs,f,fi,h1,h2,h3,h4,h5⟩:=ht.h;obtain⟨ds,ti,fs',f',g1,g2,g3,g4,g5,g6⟩:=hv;simp only[J2]at sd;rw[h1]at g1;simp at g1;subst g1;rw[h2]at g2;simp at g2;subst g2;rw[h3]at g4;simp at g4;subst g4;intro S';refine yW.value rfl fun a w G g9=>?_
 obtain⟨k1,k2,_⟩:=g9.ent s _ hx;simp only[R]at k2;have k3:=jA xs [] 0 j u k2 hu;simp only[J6]at k3;have gj:s≠d:=by grind
 have gR:∀ys,u≠.tup ys:=jT sd.1.1.2;have hk:=G.put_keep (w:=w) (w':=w) rfl d (fun z=>G.hd s (z++[j]));have hz:∀z,(G.put d (fun z=>G.hd s (z++[j]))).hd d (z++[])=G.hd s (z++[j]):=by grind[Gh.put_self]
 refine⟨vO G s u [j],w,?_,_,xM g9 rfl (zT sd.1.1.1.1) (fun z=>G.hd s (z++[j])) (fun z=>g9.mem.one _ _) _ _ (by grind[sZ])
  (zBq (fun p=>G.put_other _ p gj) u [j] [] hz gR (hk.keepR (by grind[qQ,uN])) k3) (uN s u [j])⟩
 obtain⟨l1,l2,e1,e2⟩:=zEf (G:=G) (s:=s) xs sd.1.1.1.2 [] 0 j u hu;simp only[J6]at e1;have e3:l1.length=f.offset:=by omega
 have e4:=xL (G:=G) (s:=s) u [j] gR;have mZ:(part f.type (zP G s xs [] 0).toArray f.offset).run P w=.ok (vO G s u [j]) w:=by
  rw[e1];cases u with
  |agg ys=>
   simp[T.single]at g5;simp only[vals,T.size]at e4 g6 ⊢
   simp[part,uR g3,g5,sizeOf,typeInfo,h3,vO]
   grind
  |tup ys=>grind
  |_=>
   simp[T.single]at g5;simp[part,uR g3,g5,vO,vals,←e3]
 simp[execOp,yX k1,mkV,Instr.field,run_underlying h1,h2,asAgg,mZ]
theorem zBY{α:Type}{t e:TypeId}{ti:TypeInfo}{k:Nat}{u:T}{n:Nat}{a:Int}{f:α→T}{z:α}(ht:ElT P t e ti k u)(hz:f z=u)(hn:yT a=aN n)(hx:opT E x=aN (I a))(hy:opT E y=aN (I a))(sd:J3 d Γ.N=aP):
  Ok P Γ ⟨aN d,.makeSlice t x y,ty,ps,af,gd⟩ E (E.app [(d,aN (L k f (J1 n z)))] [(d,0)]):=by
 have:=zLV (P:=P) (Γ:=Γ) (E:=E) (d:=d) (ty:=ty) (ps:=ps) (af:=af) (gd:=gd) ht hn hx hn hy (Ji _) sd;rw[←hz]at this;simpa[L]using this
theorem zHp{t e:TypeId}{ti:TypeInfo}{k:Nat}{u:T}(ht:ElT P t e ti k u)(sd:J3 d Γ.N=aP):Ok P Γ ⟨aN d,.buildSlice t 0 #[],ty,ps,af,gd⟩ E (E.app [(d,aN (.sl k []))] [(d,0)]):=
 fun _=>zDJ t e ti k rfl rfl (zT sd) ht.un ht.info
theorem zEg(t:TypeId)(x y:Value):Op.equal t x y=Op.equalIn (9999+1) t x y:=rfl
theorem zD1{P:Program}{w:World}{t:TypeId}{k:IntKind}{a b:Int}(n:Nat)(h:P.underlying t=aN (.int k)):(Op.equalIn (n+1) t (.int k a) (.int k b)).run P w=.ok (a==b) w:=by simp only[Op.equalIn,Sem.run_bind,run_underlying h];simp
end
end Go.Ab

namespace Go.Ab
open Go
def kL:List Nat→Bool
 | []=>aP
 |x::xs=> !xs.contains x&&kL xs
theorem zCI:{l:List Nat}→kL l=aP→l.Nodup
 | [],_=>by simp
 |x::xs,h=>by simp only[kL,J2,H0,L2,decide_eq_false_iff_not]at h;exact K7.2 ⟨h.1,zCI h.2⟩
def kM(E:Env):List zY→Prop
 | []=>True
 |.slot s t::l=>(E s=aN t∧zO t∧t.okTup=aP)∧kM E l
 |.zero u::l=>u.zOk=aP∧kM E l
theorem kM.get{E:Env}:(l:List zY)→kM E l→(∀s t,zY.slot s t∈l→E s=aN t∧zO t∧t.okTup=aP)∧ ∀u,zY.zero u∈l→u.zOk=aP
 | [],_=>⟨fun _ _ h=>by simp at h,fun _ h=>by simp at h⟩
 |.slot s t::l,h=>by
  obtain⟨h1,h2⟩:=kM.get l h.2;exact⟨fun s' t' hm=>by
   rcases Jl.1 hm with e|hm
   ·cases e;exact h.1
   ·exact h1 s' t' hm,fun u hm=>by
   rcases Jl.1 hm with e|hm
   ·cases e
   ·exact h2 u hm⟩
 |.zero u::l,h=>by
  obtain⟨h1,h2⟩:=kM.get l h.2;exact⟨fun s' t' hm=>by
   rcases Jl.1 hm with e|hm
   ·cases e
   ·exact h1 s' t' hm,fun u' hm=>by
   rcases Jl.1 hm with e|hm
   ·cases e;exact h.1
   ·exact h2 u' hm⟩
section
variable {E:Env}
theorem pkN:kM E []:=trivial
theorem pkS{s:Nat}{t:T}{l:List zY}(h:E s=aN t)(hc:zO t)(h3:t.okTup=aP)(hl:kM E l):kM E (.slot s t::l):=⟨⟨h,hc,h3⟩,hl⟩
theorem pkZ{u:T}{l:List zY}(h:u.zOk=aP)(hl:kM E l):kM E (.zero u::l):=⟨h,hl⟩
theorem kM.parts{d:Nat}{l:List zY}(h:kM E l)(hn:kL (d::yM l)=aP):vG E d l:=⟨(kM.get l h).1,(kM.get l h).2,zCI hn⟩
def zAg(E:Env)(zs:List T)(ps:List zY):List (Nat×Operand)→List (Nat×zY)→Prop
 | [],[]=>True
 |x::xs,q::qs=>(x.1=q.1∧sJ E x.2 q.2∧ps[q.1]? =aN q.2∧ ∃u,zs[q.1]? =aN u∧u.size=q.2.tree.size)∧zAg E zs ps xs qs
 |_,_=>False
theorem bqN{zs:List T}{ps:List zY}:zAg E zs ps [] []:=trivial
theorem bqC{zs:List T}{ps:List zY}{i:Nat}{x:Operand}{q:zY}{xs:List (Nat×Operand)}{qs:List (Nat×zY)}(h:sJ E x q)(hl:zAg E zs ps xs qs)(h1:ps[i]? =aN q:=by rfl)(h2:∃u,zs[i]? =aN u∧u.size=q.tree.size:=by exact⟨_,rfl,rfl⟩):zAg E zs ps ((i,x)::xs) ((i,q)::qs):=⟨⟨rfl,h,h1,h2⟩,hl⟩
theorem zAg.ix{zs:List T}{ps:List zY}:(pl:List (Nat×Operand))→(qs:List (Nat×zY))→zAg E zs ps pl qs→pl.map (·.1)=qs.map (·.1)
 | [],[],_=>rfl
 |x::xs,q::qs,h=>by simp[h.1.1,zAg.ix xs qs h.2]
 | [],_::_,h=>by simp[zAg]at h
 |_::_,[],h=>by simp[zAg]at h
theorem zAg.get{zs:List T}{ps:List zY}:(pl:List (Nat×Operand))→(qs:List (Nat×zY))→zAg E zs ps pl qs→ ∀(j:Nat)(x:Nat×Operand)(q:Nat×zY),pl[j]? =aN x→qs[j]? =aN q→sJ E x.2 q.2∧q.2∈ps∧ ∃u,zs[q.1]? =aN u∧u.size=q.2.tree.size
 | [],[],_,j,_,_,h,_=>by simp at h
 |x::xs,q::qs,h,j,x',q',h1,h2=>by
  cases j with
  |zero=>simp at h1 h2;subst h1;subst h2;exact⟨h.1.2.1,Kk h.1.2.2.1,h.1.2.2.2⟩
  |succ j=>exact zAg.get xs qs h.2 j x' q' (by simpa using h1) (by simpa using h2)
 | [],_::_,h,_,_,_,_,_=>by simp[zAg]at h
 |_::_,[],h,_,_,_,_,_=>by simp[zAg]at h
end
class zK8 (P:Program) (t:TypeId) (zs:outParam (List T)):Prop where
 h:∃(place:Nat→Option (Nat×Nat))(z:Value),(∀parts,P.built t parts=Instr.fill place z.cells parts)∧uE zs=z.cells.toList∧sQ zs=aP∧ ∀i u,zs[i]? =aN u→place i=aN (T.sizes (zs.take i),u.size)
section
variable {P:Program}{Γ:Ctx}{E E':Env}{d:Nat}{x y:Operand}{ty:TypeId}{ps:String}{af:Array Edge}{gd:Option (Nat×Bool)}
theorem zJI{t:TypeId}{zs:List T}{pa:Array (Nat×Operand)}(hb:zK8 P t zs)(pl:List (Nat×Operand))(qs:List (Nat×zY))(pp:List zY)(gG:kM E pp)(hq:zAg E zs pp pl qs)(sd:(J3 d Γ.N&&kL (d::yM pp))=aP)
  (eV:pa=pl.toArray:=by rfl)(gN:qs.foldl (fun ps q=>ps.set q.1 q.2) (zs.map zY.zero)=pp:=by rfl):Ok P Γ ⟨aN d,.build t pa,ty,ps,af,gd⟩ E (E.app ((d,aN (.agg (pp.map zY.tree)))::pWr d pp 0) ((d,0)::vR pp)):=by
 obtain⟨place,z,h1,h2,h3,h4⟩:=hb.h;simp only[J2]at sd;subst eV;exact fun S=>zLC t place z zs pl qs pp rfl rfl (zT sd.1) h1 h2 h3 h4 gN (gG.parts sd.2) (zAg.ix _ _ hq) (zAg.get _ _ hq)
def zHq(k:Nat):List zY→Bool
 | []=>aP
 |p::l=>(p.tree.size==k)&&zHq k l
theorem zHr{k:Nat}:(l:List zY)→zHq k l=aP→ ∀p∈l,p.tree.size=k
 | [],_,_,h=>by simp at h
 |p::l,h,q,hm=>by
  simp only[zHq,J2,beq_iff_eq]at h;rcases Jl.1 hm with rfl|hm
  ·exact h.1
  ·exact zHr l h.2 q hm
theorem zDt{α:Type}{t e:TypeId}{ti:TypeInfo}{k n:Nat}{u:T}{pa:Array (Nat×Operand)}(ht:ElT P t e ti k u)(xs:List Operand)(pp:List zY)(ys:List α)(f:α→T)(hx:wP E xs pp)(gG:kM E pp)
  (sd:(J3 d Γ.N&&kL (d::yM pp)&&zHq k pp&&J3 0 n&&Nat.ble (n*k) 65536)=aP)(hn:xs.length=n)(eV:pa=((xs.zipIdx 0).map fun x=>(x.2,x.1)).toArray:=by rfl)(hy:pp.map zY.tree=ys.map f:=by rfl):
  Ok P Γ ⟨aN d,.buildSlice t n pa,ty,ps,af,gd⟩ E (E.app ((d,aN (L k f ys))::pWr d pp 0) ((d,0)::vR pp)):=by
 obtain⟨z,hz,_⟩:=ht.zero;simp only[J2]at sd;subst eV;intro S;have fp:n*k≤65536:=by simpa[Nat.ble_eq]using sd.2
 have:=zEK (P:=P) (Γ:=Γ.at S) (E:=E) (o:=⟨aN d,.buildSlice t n ((xs.zipIdx 0).map fun x=>(x.2,x.1)).toArray,ty,ps,af,gd⟩) t e ti z k n xs pp rfl rfl (zT sd.1.1.1.1) ht.un ht.info hz ht.size ht.pos hn (zT sd.1.2) (by omega) hx (gG.parts sd.1.1.1.2) (zHr pp sd.1.1.2);rw[hy]at this;exact this
theorem zHs{α:Type}{f g:α→T}(h:∀y,roT (g y)=f y):(ys:List α)→roT.roTs (ys.map g)=ys.map f
 | []=>rfl
 |y::ys=>by simp only[Jg,roT.roTs,h y,zHs h ys]
theorem zGq{α:Type}{t e:TypeId}{ti:TypeInfo}{k r:Nat}{q:List Nat}{u:T}{f g:α→T}{xs ys zs:List α}{s0:Nat}(ht:ElT P t e ti k u)(bp:∀y,roT (g y)=f y)(gu:∀y,(g y).size=k)(hg:Enc g)(hv:xR xs ys=aN zs)(h0:E s0=aN (L k f xs))(h1:vK E y=aN (r,q,.ro (L k g ys)))(sd:(J3 d Γ.N&&(s0 != d))=aP):
  Ok P Γ ⟨aN d,.call { callee:=.builtin .append,args:=#[.tmp s0,y],argTypes:=#[t,t] },ty,ps,af,gd⟩ E (E.app [(d,aN (L k f zs)),(s0,aN .any)] [(d,0),(s0,1)]):=by
 obtain⟨rfl,hl⟩:=zCE hv;obtain⟨z,hz,eP⟩:=ht.zsize;simp only[J2]at sd;intro S;have:=zGi (P:=P) (Γ:=Γ.at S) (E:=E) (o:=⟨aN d,.call { callee:=.builtin .append,args:=#[.tmp s0,y],argTypes:=#[t,t] },ty,ps,af,gd⟩) t e ti z k s0 y r q (xs.map f) (ys.map g) rfl rfl (zT sd.1) ht.un ht.info hz ht.size ht.pos eP ht.bytes h0 h1 (zEd hg.rook ys)
  (by intro v hv;obtain⟨y,_,rfl⟩:=Ja.1 hv;exact gu y) (by simpa using sd.2) (by simpa using hl)
 rw[zHs bp,←Le]at this;exact this
def uW{α:Type}(xs:List α)(m:Int)(z:α):Option (List α):=if 0≤m∧xs.length+m.toNat≤68719476736 then aN (xs++J1 m.toNat z)else aO
theorem zQG{α:Type}{t t2 e:TypeId}{k2:IntKind}{ti:TypeInfo}{k:Nat}{u:T}{f:α→T}{z:α}{xs zs:List α}{s0:Nat}{m:Int}(ht:ElT P t e ti k u)(mO:P.underlying t2=aN (.int k2))(hz:f z=u)(hv:uW xs m z=aN zs)(h0:E s0=aN (L k f xs))(h1:opT E y=aN (I m))(sd:(J3 d Γ.N&&(s0 != d))=aP):
  Ok P Γ ⟨aN d,.call { callee:=.builtin .append,args:=#[.tmp s0,y],argTypes:=#[t,t2] },ty,ps,af,gd⟩ E (E.app [(d,aN (L k f zs)),(s0,aN .any)] [(d,0),(s0,1)]):=by
 unfold uW at hv;split at hv
 ·rename_i hc
  simp at hv;subst hv;obtain⟨zv,p9,bV⟩:=ht.zero;simp only[J2]at sd;obtain⟨n,rfl⟩:∃n:Nat,m=n:=⟨m.toNat,by omega⟩;intro S;have:=zDQ (P:=P) (Γ:=Γ.at S) (E:=E) (o:=⟨aN d,.call { callee:=.builtin .append,args:=#[.tmp s0,y],argTypes:=#[t,t2] },ty,ps,af,gd⟩) t t2 e k2 ti zv u k s0 y .i64 n (xs.map f) rfl rfl (zT sd.1) ht.un mO ht.info p9 ht.size ht.pos ht.bytes ht.zok bV ht.us h0 h1
   (by simpa using sd.2) (by simp at hc ⊢;omega)
  have e:xs.map f++J1 n u=(xs++J1 n z).map f:=by simp[hz]
  rw[e]at this;have h2:((n:Int)).toNat=n:=by simp
  rw[h2];exact this
 ·cases hv
end
section
variable {Γ:Ctx}{E:Env}
theorem zF.trq(d r:Nat)(q:List Nat){tr u tr':T}(hd:E d=aN (.same r q))(hr:E r=aN tr)(hg:tr.get q.reverse=aN u)(hF:zO u)(sd:(u.single&&yP tr&&tr.okB [(d,1),(r,q.length+1)]&&(d != r))=aP)(gp:(if q=[]then .same d []else tr.set q.reverse .any)=tr':=by rfl):
  zF Γ E (E.app [(d,aN u),(r,aN tr')] [(d,1),(r,q.length+1)]):=by
 simp only[J2]at sd
 rintro a w ⟨S,hS,hs⟩
 have gj:d≠r:=by simpa using sd.2
 have:=zI0 hs d [] r q (.same r q) tr u hd rfl hr hg sd.1.1.1 hF gj (by simp[T.okB,zBe,gj]) sd.1.2 rfl sd.1.1.2;subst gp;exact⟨S,hS,this⟩
theorem zF.trf(d:Nat)(g:List Nat)(r:Nat)(q:List Nat)(td tr:T){u td' tr':T}(hd:E d=aN td)(bl:td.get g.reverse=aN (.same r q))(hr:E r=aN tr)(hg:tr.get q.reverse=aN u)(gp:td.set g.reverse u=td')(hF:zO u)
  (sd:(u.single&&yP td&&yP tr&&td.okB [(d,g.length+1),(r,q.length+1)]&&tr.okB [(d,g.length+1),(r,q.length+1)]&&(d != r))=aP)(ec:(if q=[]then .same d g else tr.set q.reverse .any)=tr':=by rfl):
  zF Γ E (E.app [(d,aN td'),(r,aN tr')] [(d,g.length+1),(r,q.length+1)]):=by
 simp only[J2]at sd
 rintro a w ⟨S,hS,hs⟩
 have gj:d≠r:=by simpa using sd.2
 have:=zI0 hs d g r q td tr u hd bl hr hg sd.1.1.1.1.1 hF gj sd.1.1.2 sd.1.2 sd.1.1.1.1.2 sd.1.1.1.2;subst gp ec;exact⟨S,hS,this⟩
theorem zF.frz{α:Type}(s:Nat){k:Nat}{f g:α→T}(xs:List α)(hs:E s=aN (L k f xs))(h:wQ f g):zF Γ E (E.app [(s,aN (.ro (L k g xs)))] [(s,1)]):=by have:=zF.freeze (Γ:=Γ) s _ hs;simp only[uQ,strip,vY h.h xs]at this;exact this
theorem zF.res(d r:Nat)(q:List Nat)(tr:T){u:T}(hd:E d=aN (.same r q))(hr:E r=aN tr)(hg:tr.get q.reverse=aN (.ro u)):zF Γ E (E.app [(d,aN (.ro u))] []):=by
 rintro a w ⟨S,hS,gM,G,g9⟩
 refine⟨S,hS,gM,G,?_⟩;have hk:tD [] G w G w:=⟨fun _ _ _=>rfl,fun _ _ _=>rfl,fun _ _ _ _ _ _ h _=>⟨h,rfl⟩,fun _ _ _ h _=>h,fun b cs e h=>⟨cs,h,rfl⟩⟩;refine xS g9 rfl hk g9.mem (fun s _=>⟨fun n hn=>by simp at hn,rfl⟩) fun s t hs=>?_
 simp only[Wr.find]at hs;split at hs
 ·rename_i e;subst e
  simp at hs;subst hs;obtain⟨h1,h2,_⟩:=g9.ent d _ hd;obtain⟨_,h4,_⟩:=g9.ent r _ hr;simp only[R]at h2;have h5:=(kY q.reverse tr _ [] h4 hg).1;simp only[rp,Kc,Je,R]at h5;exact⟨by rw[h1];rfl,by simp only[R];rw[h2];exact h5,by simp[Top]⟩
 ·cases hs
end
theorem zGr:(p:List Nat)→ ∀(t u0 a:T),t.get p=aN u0→(t.set p a).get p=aN a
 | [],t,_,a,_=>by cases t<;>cases a<;>rfl
 |i::p,t,u0,a,h=>by
  cases t with
  |sl k xs|agg xs|tup xs=>
   simp only[T.get,T.set]at h ⊢
   cases hx:xs[i]? with
   |none=>rw[hx]at h;cases h
   |some x=>
    rw[hx]at h;have hi:=(J8.1 hx).1;simp only[];simp only[T.get,Hl hi];exact zGr p x u0 a h
  |ptr t=>
   simp only[T.get,T.set]at h ⊢
   split at h
   ·rename_i e;subst e;simp only[if_true,T.get];exact zGr p t u0 a h
   ·cases h
  |_=>simp[T.get]at h
theorem set_set:(p:List Nat)→ ∀(t u0 a b:T),t.get p=aN u0→(t.set p a).set p b=t.set p b
 | [],t,_,a,_,_=>by cases t<;>cases a<;>rfl
 |i::p,t,u0,a,b,h=>by
  cases t with
  |sl k xs|agg xs|tup xs=>
   simp only[T.get,T.set]at h ⊢
   cases hx:xs[i]? with
   |none=>rw[hx]at h;cases h
   |some x=>
    rw[hx]at h;have hi:=(J8.1 hx).1;simp only[];simp only[T.set,Hl hi,List.set_set,set_set p x u0 a b h]
  |ptr t=>
   simp only[T.get,T.set]at h ⊢
   split at h
   ·rename_i e;subst e;simp only[if_true,T.set,set_set p t u0 a b h]
   ·cases h
  |_=>simp[T.get]at h
def qN:T→Bool
 |.sl _ _|.ptr _=>aP
 |_=>aQ
theorem zMf{t:T}(h:qN t=aP)(p:List Nat){u:T}(hp:p≠[]):qN (t.set p u)=aP:=by
 cases p with
 |nil=>exact absurd rfl hp
 |cons i p=>cases t<;>simp[qN]at h<;>simp only[T.set]<;>split<;>rfl
theorem wZ{t:T}(h:qN t=aP)(chg:Chg):t.okB chg=aP∧yP t=aP∧t.single=aP:=by cases t<;>simp[qN]at h<;>simp[T.okB,yP,T.single]
section
variable {P:Program}{Γ:Ctx}{E E':Env}{d:Nat}{ty:TypeId}{ps:String}{af:Array Edge}{gd:Option (Nat×Bool)}
theorem agM{E:Env}{rw:Rw}{i:Nat}{x:Operand}{u:T}(t:T)(h:opT E x=aN t)(h1:clo E t=u)(h2:zJ9 E (rw.map (·.2.1)) x t=aP):zAa E rw i x u:=.inr ⟨t,h,h1,h2⟩
theorem zEN{E:Env}{rw:Rw}{i s:Nat}{u u':T}(h:E s=aN u)(hc:zO u)(hr:xK u=aP)(hs:u.okTup=aP:=by rfl)(hm:(i,s,u')∈rw:=by exact List.mem_singleton.2 rfl):zAa E rw i (.tmp s) u:=.inl ⟨s,u',rfl,hm,h,hc,hs,hr⟩
abbrev wD(E:Env)(ds r:Nat)(q:List Nat)(tr u:T):Env:=E.app [(ds,aN u),(r,aN (if q=[]then .same ds []else tr.set q.reverse .any))] [(ds,1),(r,q.length+1)]
theorem zAQ{f:FuncId}{xs:List Operand}{ats:Array TypeId}{us res:List T}{tr u u' tr':T}(i ds r:Nat)(q:List Nat)(gm:qF P f)(hc:FnC P f us res [(i,u')])(hs:E ds=aN (.same r q))(hr:E r=aN tr)(hq:tr.get q.reverse=aN u)
  (hF:zO u)(hZ:zO u')(_:xK u=aP)(cr:xK u'=aP)(gc:yN (wD E ds r q tr u) [(i,ds,u')] 0 xs us)(gk:sF res)(gp:tr.set q.reverse u'=tr')
  (sd:(J3 d Γ.N&&(d != ds)&&(d != r)&&(ds != r)&&qN u&&qN u'&&qN tr)=aP)(hx:xs[i]? =aN (.tmp ds))(hu:us[i]? =aN u):
  Ok P Γ ⟨aN d,.call { callee:=.value (.func f),args:=xs.toArray,argTypes:=ats },ty,ps,af,gd⟩ E ((((wD E ds r q tr u).app (cWr d res [(i,ds,u')]) (wC d [(i,ds,u')]))).app [(r,aN tr'),(ds,aN (.same r q))] [(r,q.length+1),(ds,1)]):=by
 simp only[J2]at sd;obtain⟨⟨⟨⟨⟨⟨s1,s2⟩,s3⟩,s4⟩,s5⟩,s6⟩,s7⟩:=sd;have d1:d≠ds:=by simpa using s2
 have d2:d≠r:=by simpa using s3
 have d3:ds≠r:=by simpa using s4
 obtain⟨u1,u2,u3⟩:=wZ s5 [];obtain⟨v1,v2,v3⟩:=wZ s6 [];have ai:cLv u'=1:=by simp[cLv,v3]
 subst gp;intro S
 by_cases mh:q=[]
 ·subst mh
  have htu:tr=u:=by
   have:tr.get []=aN tr:=by cases tr<;>rfl
   simp only[H5]at hq;rw[this]at hq;exact G6.inj hq
  subst htu;have cN:∀a b:T,a.set [] b=b:=fun a b=>by cases a<;>rfl
  have m0:(wD E ds r [] tr tr) ds=aN tr:=by simp[wD,Env.app,Wr.find]
  have c7:((wD E ds r [] tr tr).app (cWr d res [(i,ds,u')]) (wC d [(i,ds,u')])) r=aN (.same ds []):=by
   have h1:(wD E ds r [] tr tr) r=aN (.same ds []):=by simp[wD,Env.app,Wr.find,d3]
   have h2:(cWr d res [(i,ds,u')]).find r=aO:=by simp[cWr,Wr.find,d2,d3]
   have h3:(T.same ds []).okB (wC d [(i,ds,u')])=aP:=by simp[T.okB,zBe,wC,d1,ai]
   simp only[Env.app,h2,h1,h3,if_true]
  have c8:((wD E ds r [] tr tr).app (cWr d res [(i,ds,u')]) (wC d [(i,ds,u')])) ds=aN u':=by simp[Env.app,Wr.find,cWr,d1]
  have:=zHk (P:=P) (Γ:=Γ.at S) (E:=E) (o:=⟨aN d,.call { callee:=.value (.func f),args:=xs.toArray,argTypes:=ats },ty,ps,af,gd⟩) f (.func f) xs ats us res i ds r [] tr tr u' rfl rfl (zT s1) gm rfl hs hr hq u3 hF d3 d2 (wZ s7 _).1 (wZ s7 []).2.1
   (wD E ds r [] tr tr) _ rfl rfl hc gc (.one d1 hx hZ v3 cr m0 u3 hu) gk (.same ds []) (.same ds []) c7 rfl rfl c8 hZ v3 (by simp[T.okB,zBe]) rfl (wZ s6 _).1 v2
  rw[H5,cN]at this ⊢
  exact this
 ·have tx:q.reverse≠[]:=by simpa using mh
  have m0:(wD E ds r q tr u) ds=aN u:=by simp[wD,Env.app,Wr.find]
  have aH:=zMf s7 q.reverse (u:=.any) tx;have c7:((wD E ds r q tr u).app (cWr d res [(i,ds,u')]) (wC d [(i,ds,u')])) r=aN (tr.set q.reverse .any):=by
   have h1:(wD E ds r q tr u) r=aN (tr.set q.reverse .any):=by simp[wD,Env.app,Wr.find,d3,mh]
   have h2:(cWr d res [(i,ds,u')]).find r=aO:=by simp[cWr,Wr.find,d2,d3]
   simp[Env.app,h2,h1,(wZ aH _).1]
  have c8:((wD E ds r q tr u).app (cWr d res [(i,ds,u')]) (wC d [(i,ds,u')])) ds=aN u':=by simp[Env.app,Wr.find,cWr,d1]
  have:=zHk (P:=P) (Γ:=Γ.at S) (E:=E) (o:=⟨aN d,.call { callee:=.value (.func f),args:=xs.toArray,argTypes:=ats },ty,ps,af,gd⟩) f (.func f) xs ats us res i ds r q tr u u' rfl rfl (zT s1) gm rfl hs hr hq u3 hF d3 d2 (wZ s7 _).1 (wZ s7 []).2.1
   (wD E ds r q tr u) _ rfl rfl hc gc (.one d1 hx hZ v3 cr m0 u3 hu) gk (tr.set q.reverse .any) .any c7 (zGr _ _ _ _ hq) rfl c8 hZ v3 (wZ aH _).1 (wZ aH []).2.1 (wZ s6 _).1 v2
  rw[set_set _ _ _ _ _ hq]at this;exact this
theorem zOS{f:FuncId}{xs:List Operand}{ats:Array TypeId}{us res:List T}{xf:Operand}(hf:opT E xf=aN (.lit (.func (.func f) #[] #[])))(gm:qF P f)(hc:FnC P f us res [])(gc:yN E [] 0 xs us)(gk:sF res)(sd:J3 d Γ.N=aP):
  Ok P Γ ⟨aN d,.call { callee:=.value xf,args:=xs.toArray,argTypes:=ats },ty,ps,af,gd⟩ E (E.app (cWr d res []) (wC d [])):=
 fun _=>zJB f xf xs ats us res [] rfl rfl (zT sd) gm hf hc gc .nil gk
def zAw(E:Env):List Operand→List T→Prop
 | [],[]=>True
 |x::xs,u::us=>(opT E x=aN u∧u.flat=aP)∧zAw E xs us
 |_,_=>False
theorem afN:zAw E [] []:=trivial
theorem afC{x:Operand}{xs:List Operand}{u:T}{us:List T}(h:opT E x=aN u)(h1:u.flat=aP)(h2:zAw E xs us):zAw E (x::xs) (u::us):=⟨⟨h,h1⟩,h2⟩
theorem zAw.get:(xs:List Operand)→(us:List T)→zAw E xs us→ ∀(i:Nat) u,us[i]? =aN u→ ∃x,xs[i]? =aN x∧opT E x=aN u∧u.flat=aP
 | [],[],_,i,u,h=>by simp at h
 |x::xs,v::us,h,i,u,hi=>by
  cases i with
  |zero=>simp at hi;subst hi;exact⟨x,by simp,h.1⟩
  |succ i=>obtain⟨y,h1,h2⟩:=zAw.get xs us h.2 i u (by simpa using hi);exact⟨y,by simpa using h1,h2⟩
 | [],_::_,h,_,_,_=>by simp[zAw]at h
 |_::_,[],h,_,_,_=>by simp[zAw]at h
theorem tZ{f:FuncId}{xs:List Operand}{ats:Array TypeId}{us res:List T}(gm:qF P f)(hc:FnC P f us res [])(ha:zAw E xs us)(gg:xs.length=us.length)(gk:yB res)(gT:zV res=aP)(sd:J3 d Γ.N=aP):
  Ok P Γ ⟨aN d,.call { callee:=.value (.func f),args:=xs.toArray,argTypes:=ats },ty,ps,af,gd⟩ E (E.app (cWr d res []) (wC d [])):=
 zOP gm hc gg (zAw.get _ _ ha) ⟨gk,gT⟩ sd
end
noncomputable def zBZ {α:Type} (g:Nat→Option α):Option α:=
 open Classical in if h:∃r,∃n,∀m,n≤m→g m=aN r then aN h.choose else aO
theorem qH{α:Type}{g:Nat→Option α}{r:α}(h:zBZ g=aN r):∃n,g n=aN r:=by
 unfold zBZ at h;split at h
 ·rename_i he
  simp at h;obtain⟨n,hn⟩:=he.choose_spec;exact⟨n,by rw[←h];exact hn n (Ji _)⟩
 ·cases h
theorem zAx{α:Type}{g:Nat→Option α}{r:α}(n:Nat)(h:∀m,n≤m→g m=aN r):zBZ g=aN r:=by have he:∃r,∃n,∀m,n≤m→g m=aN r:=⟨r,n,h⟩;unfold zBZ;rw[dif_pos he];obtain⟨n',hn'⟩:=he.choose_spec;have h1:=h (max n n') (by omega);have h2:=hn' (max n n') (by omega);rw[h1]at h2;exact h2.symm
end Go.Ab

namespace Go.Ab
open Go
section
variable {P:Program}{Γ:Ctx}{ops:Array Oper}{o:Oper}{E:Env}
theorem zR.skipW{d:Nat}(hd:o.dst=aN d)(sd:J3 d Γ.N=aP)(hw:∀(a:Act)(w:World),tL Γ E a w→Region.wanted o (yielded ops a.tmps)=aQ):zR P Γ ops o E (E.app [(d,aN (.tup []))] [(d,0)]):=by
 intro a w K Q hs hK;rw[if_neg (by grind)];obtain⟨S,hS,gM,G,g9⟩:=hs;refine hK _ _ ⟨S,hS,by rw[hd];exact gM,G.put d (fun _=>.bool aQ),?_⟩ ?_
 ·rw[hd]
  have hu:(Value.bool aQ).oneCell'=aP:=rfl;refine xS g9 (by simp[Act.put]) (G.put_keep rfl d _) (g9.mem.put rfl d _ fun _=>hu) ?_ ?_
  ·grind[uG,Act.put]
  ·intro s t' hs
   rw[uG]at hs;split at hs
   ·rename_i e;subst e
    simp at hs;subst hs;have gu:=g9.size;have gI:=zT sd;refine⟨?_,by simp[R,RF],by simp[Top,wL]⟩
    grind[Act.put,mkV,sB,undef]
   ·cases hs
 grind[Act.put]
theorem zR.skip2{d:Nat}(g:Nat)(b b':Bool)(s:Nat)(hd:o.dst=aN d)(sd:J3 d Γ.N=aP)(fZ:(b==b')=aQ)(hg:o.guard=aN (g,b))(gn:(ops[g]?).bind (·.dst)=aN s)(hb:E s=aN (.lit (.bool b'))):
  zR P Γ ops o E (E.app [(d,aN (.tup []))] [(d,0)]):=.skipW hd sd fun a w hs=>by
 simp only[Region.wanted,hg,zDV hs gn hb]
 grind
theorem zR.skip3{d:Nat}(g:Nat)(b:Bool)(s:Nat)(hd:o.dst=aN d)(sd:J3 d Γ.N=aP)(hg:o.guard=aN (g,b))(gn:(ops[g]?).bind (·.dst)=aN s)(hb:E s=aN (.tup [])):
  zR P Γ ops o E (E.app [(d,aN (.tup []))] [(d,0)]):=.skipW hd sd fun a w hs=>by
 obtain⟨_,_,_,G,hr⟩:=hs;obtain⟨h1,_,_⟩:=hr.ent s _ hb
 grind[Region.wanted,yielded,mkV]
theorem zR.opE{E1 E':Env}(h:Ok P Γ o E E1)(e:E1=E')(hg:o.guard=aO:=by rfl):zR P Γ ops o E E':=e▸zR.op h hg
theorem zR.guardE{E1 E':Env}(g:Nat)(b:Bool)(s:Nat)(h:Ok P Γ o E E1)(hg:o.guard=aN (g,b))(gn:(ops[g]?).bind (·.dst)=aN s)(hb:E s=aN (.lit (.bool b)))(e:E1=E'):zR P Γ ops o E E':=e▸zR.guard g b s h hg gn hb
end
def uJ(Γ:Ctx)(P:Program)(rs:Array ResultVar)(us res:List T)(rws:List (Nat×T)):Exit→Env→Prop:=fun e E=> ∃E',zF Γ E E'∧zRL P rs us res rws e E'
theorem FnC.of_bodyG{P:Program}{f:FuncId}{fn:Func}{c:Code}{us res:List T}{rws:List (Nat×T)}(hf:P.funcs[f]? =aN fn)(hb:fn.body=aN c)(hn:us.length≤fn.ntmps)(ht:wL us)(hr:rws.all (fun x=>decide (x.1<us.length))=aP)
  (h:∀(Γ:Ctx)(v:Nat→Value),Γ.N=fn.ntmps→CW P Γ (zAs v (rws.map (·.1))) c (yZ (zEL 0 us)) (uJ Γ P fn.results us res rws)):FnC P f us res rws:=by
 refine FnC.of_body hf hb hn ht hr fun Γ v hN=>?_
 intro a w Q' hs hp hQ;refine h Γ v hN a w Q' hs hp ?_
 rintro e E a' w' ⟨E',hg,hq⟩ gE fj
 exact hQ e E' a' w' hq (hg a' w' gE) fj
def zOT(t:T):Prop:=zO t∧xK t=aP∧strip t=t∧t.okTup=aP∧zC7 t=aP
def zMg:List T→Prop
 | []=>True
 |x::xs=>zOT x∧zMg xs
theorem Enc.t{α:Type}{f:α→T}(h:Enc f)(x:α):zOT (f x):=⟨h.clean x,h.rofree x,h.strip x,h.okTup x,h.rook x⟩
theorem Enc.of{α:Type}{f:α→T}(h:∀x,zOT (f x)):Enc f:=⟨fun x=>(h x).1,fun x=>(h x).2.1,fun x=>(h x).2.2.1,fun x=>(h x).2.2.2.1,fun x=>(h x).2.2.2.2⟩
theorem zMh{xs:List T}(h:zMg xs):zOT (.agg xs):=by
 have key:∀xs:List T,zMg xs→yB xs∧xQ xs=aP∧wF xs=xs∧zV xs=aP∧jQ xs=aP:=by
  intro xs
  induction xs with
  |nil=>intro _;exact⟨trivial,rfl,rfl,rfl,rfl⟩
  |cons x xs ih=>
   rintro⟨⟨h1,h2,h3,h4,h5⟩,h⟩
   obtain⟨g1,g2,g3,g4,g5⟩:=ih h;exact⟨⟨h1,g1⟩,by grind[xQ],by grind[wF],by grind[zV],by grind[jQ]⟩
 obtain⟨g1,g2,g3,g4,g5⟩:=key xs h;exact⟨uF g1,by grind[xK],by grind[strip],by grind[T.okTup],by grind[zC7]⟩
end Go.Ab

namespace Go.Ab
open Go
section
variable {Γ:Ctx}{E:Env}{d:Nat}
def Gh.cut(G:Gh)(d s0 b lo hi:Nat)(v:Value):Gh where
 hd s z:=if s=d then(if z=[]then v else G.hd s0 z)else G.hd s z
 ad s z:=if s=d then G.ad s0 z else G.ad s z
 lb b' o:=if b'=b∧lo≤o∧o<hi then aN (aP,d,[])else match G.lb b' o with
  |some (f,s,z)=>if s=s0 then aN (f,d,z)else aN (f,s,z)
  |none=>aO
 ow b':=match G.ow b' with
  |some (s,z)=>if s=s0 then aN (d,z)else aN (s,z)
  |none=>aO
theorem zJJ{G:Gh}{tmps:Array Value}{w:World}(g9:Rep Γ E G tmps w)(hd:d<Γ.N){s0 k h cap':Nat}{xs:List T}(gU:E s0=aN (.sl k xs))(gj:s0≠d)(hk:0<k)
  {b o0 cap:Nat}{cs:Array Value}{e:TypeId}(h1:G.hd s0 []=.slice (aN ⟨b,o0,aO⟩) xs.length cap)(h2:w.heap[b]? =aN (.cells cs e (0,0)))(_h3:xs.length≤cap)(h4:cap≤maxLen)(h5:o0+cap*k≤cs.size)(h6:G.ow b=aN (s0,[]))
  (h7:∀o,o0+xs.length*k≤o→o<o0+cap*k→G.lb b o=aN (aP,s0,[]))(h8:RL Γ.St G w s0 xs [] 0 b o0 k)(hh:h≤xs.length)(hc:h≤cap')(eH:cap'≤cap):
  ∃G',Rep Γ (E.app [(d,aN (.sl k (xs.take h))),(s0,aN .any)] [(d,0),(s0,1)]) G' (tmps.setIfInBounds d (.slice (aN ⟨b,o0,aO⟩) h cap')) w:=by
 have hm:=g9.mem;obtain⟨e1,_,e3⟩:=g9.ent s0 _ gU
 let v:Value:=.slice (aN ⟨b,o0,aO⟩) h cap'
 let G':=G.cut d s0 b (o0+h*k) (o0+cap'*k) v
 have gC:=hm.ow b _ h6;have cX:∀o f z i,o0+h*k≤o→o<o0+cap'*k→G.lb b o=aN (f,s0,z++[i])→h≤i:=by
  intro o f z i fk fc hl;obtain⟨o,rfl⟩:∃o',o=o0+o':=⟨o-o0,by have:o0≤o0+h*k:=Nat.le_add_right _ _;omega⟩
  replace fk:h*k≤o:=by omega
  by_cases ho:o<xs.length*k
  ·have hj:o/k<xs.length:=(Nat.div_lt_iff_lt_mul hk).2 ho
   obtain⟨g1,g2,_⟩:=uD xs [] 0 b o0 k (o/k) xs[o/k] h8 (by simp[hj]);obtain⟨y,hy⟩:=zGd xs[o/k] _ b _ (o%k) g1 (by rw[g2];exact Nat.mod_lt _ hk);rw[J6,L9,Nat.mul_comm,Nat.div_add_mod,hl]at hy;simp only[G6.injEq,Us.injEq]at hy;have:=hy.2.2;have hi:i=o/k:=by have:=congrArg List.getLast? this;simpa using this
   rw[hi];exact(Nat.le_div_iff_mul_le hk).2 fk
  ·have:=h7 (o0+o) (by omega) (by have:=L3 k eH;omega)
   rw[hl]at this;simp at this
 have glb:∀b' o f z,G.lb b' o=aN (f,s0,z)→ ¬(b'=b∧o0+h*k≤o∧o<o0+cap'*k)→G'.lb b' o=aN (f,d,z):=fun b' o f z hl hn=>by show(if _ then _ else _)=_;rw[if_neg hn];simp[hl]
 have gow:∀b' z,G.ow b'=aN (s0,z)→G'.ow b'=aN (d,z):=fun b' z hl=>by simp[G',Gh.cut,hl]
 have mv:∀i,i<h→zD9 G w G' w s0 [i] d [i]:=fun i hi=>by
  have hn:∀b' o f z,G.lb b' o=aN (f,s0,z++[i])→ ¬(b'=b∧o0+h*k≤o∧o<o0+cap'*k):=by
   rintro b' o f z hl ⟨rfl,fk,fc⟩
   have:=cX o f z i fk fc hl;omega
  refine⟨⟨fun z=>by simp[G',Gh.cut],fun z _=>by simp[G',Gh.cut],fun b' o f z _ _ hl=>⟨glb _ _ _ _ hl (hn _ _ _ _ hl),rfl⟩,fun b' z _ hl=>gow _ _ hl,fun b' cs' e' hb=>⟨cs',hb,rfl⟩⟩,fun b' o _ hl=>⟨glb _ _ _ _ hl (hn b' o aP [] (by simpa using hl)),rfl⟩,fun b' hl=>gow _ _ hl⟩
 have gw:tD [(d,0),(s0,1)] G w G' w:=by
  refine⟨fun s p ho=>?_,fun s p ho=>?_,fun b' o f s p gO hl hs=>?_,fun b' s p hl hs=>?_,fun b' cs' e' hb=>⟨cs',hb,rfl⟩⟩
  ·have:s≠d:=fun e=>absurd (ho 0 (by simp[e])) (by simp)
   simp[G',Gh.cut,this]
  ·have:s≠d:=fun e=>absurd (ho 0 (by simp[e])) (by simp)
   simp[G',Gh.cut,this]
  ·have hH:s≠s0:=fun e=>hs 1 (by simp[e])
   obtain⟨y,hy⟩:=gO;have fZ:b'≠b:=by
    rintro rfl
    rw[h6]at hy;simp at hy;exact hH hy.1.symm
   refine⟨?_,rfl⟩;show(if _ then _ else _)=_;rw[if_neg (fun hn=>fZ hn.1)];simp[hl,hH]
  ·have hH:s≠s0:=fun e=>hs 1 (by simp[e])
   simp[G',Gh.cut,hl,hH]
 have gv:Mem Γ G' w:=by
  refine⟨fun s z=>?_,fun b' o l hl=>?_,fun b' l hl=>?_,hm.st,hm.fr,hm.sz,hm.bk⟩
  ·show(if _ then _ else _:Value).oneCell'=aP
   split
   ·split
    ·rfl
    ·exact hm.one _ _
   ·exact hm.one _ _
  ·change(if _ then _ else _)=_ at hl
   split at hl
   ·rename_i hn;rw[hn.1];exact gC
   ·cases hg:G.lb b' o with
    |none=>simp[hg]at hl
    |some x=>exact hm.lb b' o x hg
  ·cases hg:G.ow b' with
   |none=>simp[G',Gh.cut,hg]at hl
   |some x=>exact hm.ow b' x hg
 refine⟨G',xS g9 (by simp) gw gv ?_ ?_⟩
 ·intro s hs
  have eD:s≠d:=by rintro rfl;simp[Wr.find]at hs
  have eE:s≠s0:=by rintro rfl;simp[Wr.find,gj.symm]at hs
  exact⟨fun n hn=>by simp at hn;rcases hn with h|h;exact eD h.1;exact eE h.1,by rw[J7];simp[eD.symm]⟩
 ·intro s t' hs
  by_cases hH:s=d
  ·subst hH
   simp[Wr.find]at hs;subst hs;have gg:(xs.take h).length=h:=by simp;omega
   simp only[Top]at e3;have ak:∀ys:List T,yB ys→ ∀n,yB (ys.take n):=by
    intro ys
    induction ys with
    |nil=>intro _ n;simp[yB,yQ]
    |cons y ys ih=>intro hy n;cases n with
     |zero=>simp[yB,yQ]
     |succ n=>exact⟨hy.1,ih hy.2 n⟩
   refine⟨?_,?_,by simp only[Top];exact ak xs e3 h⟩
   ·rw[J7]
    simp[g9.size,hd,mkV,G',Gh.cut,v]
   ·simp only[R]
    refine .inr ⟨b,o0,cap',cs,e,by rw[gg];simp[G',Gh.cut,v],h2,by omega,by omega,by have:=L3 k eH;omega,gow b _ h6,fun o fk fc=>?_,?_⟩
    ·rw[gg]at fk
     show(if _ then _ else _)=_;rw[if_pos ⟨rfl,fk,fc⟩]
    ·refine zBz _ [] 0 b o0 fun i x hx=>?_
     rw[L6]at hx;split at hx
     ·rename_i hi
      obtain⟨g1,g2,g3⟩:=uD xs [] 0 b o0 k i x h8 hx;rw[J6]at g1 g3 ⊢
      refine⟨?_,g2,tU (mv i hi) x (yD.mono (fun _ _=>False.elim) _ (wH xs e3 i x hx)) g3⟩;refine zBQ x [i] [i] b _ (fun z=>by simp[G',Gh.cut]) (fun z=>by simp[G',Gh.cut]) (fun b' o z hl=>⟨glb _ _ _ _ hl ?_,rfl⟩) g1
      rintro⟨rfl,fk,fc⟩
      have:=cX o aQ z i fk fc hl;omega
     ·cases hx
  ·have h9:s=s0∧t'=.any:=by
    simp only[Wr.find]at hs;rw[if_neg (fun h=>hH h.symm)]at hs;split at hs
    ·rename_i h;simp at hs;exact⟨h.symm,hs.symm⟩
    ·cases hs
   obtain⟨rfl,rfl⟩:=h9;refine⟨?_,by simp only[R],by simp[Top]⟩;rw[J7];simp only[Ne.symm hH,if_false,mkV];rw[e1,yE rfl];simp[G',Gh.cut,hH]
theorem zHt{G:Gh}{tmps:Array Value}{w:World}(g9:Rep Γ E G tmps w)(hd:d<Γ.N){s0 k:Nat}(gU:E s0=aN (.sl k []))(gj:s0≠d)(a:Option Addr):
  ∃G',Rep Γ (E.app [(d,aN (.sl k [])),(s0,aN .any)] [(d,0),(s0,1)]) G' (tmps.setIfInBounds d (.slice a 0 0)) w:=by
 obtain⟨e1,_,_⟩:=g9.ent s0 _ gU;refine⟨G.put d (fun _=>.slice a 0 0),?_⟩;have hk:tD [(d,0),(s0,1)] G w (G.put d fun _=>.slice a 0 0) w:=by have h0:=G.put_keep (w:=w) (w':=w) rfl d (fun _=>.slice a 0 0);refine⟨fun s p ho=>h0.hd s p (fun n hn=>ho n (by simp at hn ⊢;exact .inl hn)),fun s p ho=>h0.ad s p (fun n hn=>ho n (by simp at hn ⊢;exact .inl hn)),fun b o f s p h1 h2 h3=>h0.lb b o f s p h1 h2 (fun n hn=>h3 n (by simp at hn ⊢;exact .inl hn)),fun b s p h1 h3=>h0.ow b s p h1 (fun n hn=>h3 n (by simp at hn ⊢;exact .inl hn)),h0.blk⟩
 refine xS g9 (by simp) hk (g9.mem.put rfl d _ (fun _=>rfl)) ?_ ?_
 ·intro s hs
  have eD:s≠d:=by rintro rfl;simp[Wr.find]at hs
  have eE:s≠s0:=by rintro rfl;simp[Wr.find,gj.symm]at hs
  exact⟨fun n hn=>by simp at hn;rcases hn with h|h;exact eD h.1;exact eE h.1,by rw[J7];simp[eD.symm]⟩
 ·intro s t' hs
  by_cases hH:s=d
  ·subst hH
   simp[Wr.find]at hs;subst hs;refine⟨by rw[J7];simp[g9.size,hd,mkV,Gh.put],by simp only[R];exact .inl ⟨trivial,a,by simp[Gh.put]⟩,by simp[Top,yB,yQ]⟩
  ·have h9:s=s0∧t'=.any:=by
    simp only[Wr.find]at hs;rw[if_neg (fun h=>hH h.symm)]at hs;split at hs
    ·rename_i h;simp at hs;exact⟨h.symm,hs.symm⟩
    ·cases hs
   obtain⟨rfl,rfl⟩:=h9;refine⟨?_,by simp only[R],by simp[Top]⟩;rw[J7];simp only[Ne.symm hH,if_false,mkV];rw[e1,yE rfl];simp[Gh.put,hH]
end
section
variable {P:Program}{Γ:Ctx}{pn:tE}{E E':Env}{Q:Exit→Env→Prop}{d:Nat}{x y:Operand}{ty:TypeId}{ps:String}{af:Array Edge}{gd:Option (Nat×Bool)}
theorem zQh{α:Type}{t e:TypeId}{ti:TypeInfo}{s0 k:Nat}{f:α→T}{xs ys:List α}{mx:Option Operand}{h:Int}{u:T}(ht:ElT P t e ti k u)(hv:yF xs 0 h=aN ys)(h0:E s0=aN (L k f xs))(hy:opT E y=aN (I h))(hmx:mx=aO∨ ∃z,mx=aN z∧opT E z=aN (I h))(sd:(J3 d Γ.N&&(s0 != d))=aP):
  Ok P Γ ⟨aN d,.slice t (.tmp s0) aO (aN y) mx,ty,ps,af,gd⟩ E (E.app [(d,aN (L k f ys)),(s0,aN .any)] [(d,0),(s0,1)]):=by
 obtain⟨_,fu,fp,rfl⟩:=wW hv;simp only[J2]at sd;have gj:s0≠d:=by simpa using sd.2
 obtain⟨n,rfl⟩:∃n:Nat,h=n:=⟨h.toNat,by omega⟩;have hn:n≤xs.length:=by omega
 intro S;refine yW.value rfl fun a w G g9=>?_
 obtain⟨e1,e2,_⟩:=g9.ent s0 _ h0;have ff:=(xC g9 hy).1;have fA:a.eval (.tmp s0)=G.hd s0 []:=by rw[yX e1,yE rfl]
 have fw:=ht.un;have gV:=ht.info;have gu:=ht.size;have fX:List.map f ((xs.drop (0:Int).toNat).take ((n:Int).toNat-(0:Int).toNat))=(xs.map f).take n:=by simp[Gd]
 rw[show L k f ((xs.drop (0:Int).toNat).take ((n:Int).toNat-(0:Int).toNat))=.sl k ((xs.map f).take n)by simp only[L,fX]];have e2':=e2;simp only[R]at e2;rcases e2 with⟨fo,ad,h1⟩|⟨b,o0,cap,cs,e',h1,h2,h3,h4,h5,h6,h7,h8⟩
 ·have ef:xs=[]:=by simpa using fo
  subst ef;simp at hn;subst hn;obtain⟨G',gl⟩:=zHt g9 (zT sd.1) (k:=k) (by rw[h0];rfl) gj ad;refine⟨_,w,?_,G',by simpa using gl⟩;rcases hmx with rfl|⟨z,rfl,hz⟩
  ·simp[execOp,Instr.sliceAt,Instr.slice,run_underlying fw,fA,h1,ff,sizeOf,typeInfo,gV,Instr.sliceBounds,Instr.sliceBound,asIntOf]
  ·have p9:=(xC g9 hz).1
   simp[execOp,Instr.sliceAt,Instr.slice,run_underlying fw,fA,h1,ff,p9,sizeOf,typeInfo,gV,Instr.sliceBounds,Instr.sliceBound,asIntOf]
 ·rw[Jf]at h1 h3
  have ml:n≤cap:=by omega
  have hcz:cap=0→n=0:=by omega
  rcases hmx with rfl|⟨z,rfl,hz⟩
  ·obtain⟨G',gl⟩:=zJJ g9 (zT sd.1) h0 gj ht.pos (by rw[Jf];exact h1) h2 (by rw[Jf];exact h3) h4 h5 h6 h7 h8 (h:=n) (cap':=cap) (by simpa using hn) ml (Ji _)
   refine⟨_,w,?_,G',gl⟩;simp[execOp,Instr.sliceAt,Instr.slice,run_underlying fw,fA,h1,ff,sizeOf,typeInfo,gV,Instr.sliceBounds,Instr.sliceBound,asIntOf,ml,wO]
  ·have p9:=(xC g9 hz).1
   obtain⟨G',gl⟩:=zJJ g9 (zT sd.1) h0 gj ht.pos (by rw[Jf];exact h1) h2 (by rw[Jf];exact h3) h4 h5 h6 h7 h8 (h:=n) (cap':=n) (by simpa using hn) (Ji _) ml;refine⟨_,w,?_,G',gl⟩;simp[execOp,Instr.sliceAt,Instr.slice,run_underlying fw,fA,h1,ff,p9,sizeOf,typeInfo,gV,Instr.sliceBounds,Instr.sliceBound,asIntOf,ml,wO]
end
end Go.Ab

namespace Go.Ab
open Go
section
variable {P:Program}{Γ:Ctx}{pn:tE}{E E':Env}{Q:Exit→Env→Prop}{d:Nat}{x y:Operand}{ty:TypeId}{ps:String}{af:Array Edge}{gd:Option (Nat×Bool)}{ops:Array Oper}{os:List Oper}
theorem zFt{P:Program}{w:World}{t e:TypeId}{a:Option Addr}{n c:Nat}(m:Nat)(h:P.underlying t=aN (.slice e)):(Op.equalIn (m+1) t (.slice a n c) (.slice aO 0 0)).run P w=.ok a.isNone w:=by simp only[Op.equalIn,Sem.run_bind,run_underlying h];cases a<;>rfl
theorem RW.isnil{α:Type}{xt yt e:TypeId}{r k:Nat}{q:List Nat}{f:α→T}{xs:List α}{u:T}(hu:P.underlying xt=aN (.slice e))(hx:vK E x=aN (r,q,u))(cM:u=.ro (L k f xs)∨u=L k f xs)(sd:J3 d Γ.N=aP)(hp:pn.ok (aN d)=aP)
  (h:∀b,(b=aP→xs=[])→RW P Γ pn ops os (E.app [(d,aN (B b))] [(d,0)]) Q):RW P Γ pn ops (⟨aN d,.binOp .eql xt x (.const (.slice aO 0 0)) yt,ty,ps,af,aO⟩::os) E Q:=by
 intro a w Q' hs eV hQ;obtain⟨S,hS,gM,G,g9⟩:=id hs;have eL:u.single=aP:=by rcases cM with rfl|rfl<;>rfl
 obtain⟨h1,h2⟩:=uV g9 hx eL;obtain⟨ad,n,c,h3,h4⟩:∃ad n c,a.eval x=.slice ad n c∧(ad.isNone=aP→xs=[]):=by
  rcases cM with rfl|rfl
  ·obtain⟨ad,c,g1,_,_,g2⟩:=zAI h1
   refine⟨ad,_,c,by rw[h2,g1],fun hn=>?_⟩;apply Classical.byContradiction;intro gj;obtain⟨b,o',_,_,_,rfl,_⟩:=g2 (by simpa using gj);simp at hn
  ·simp only[R]at h1
   rcases h1 with⟨g1,ad,g2⟩|⟨b,_,cap,cs,e',g1,_⟩
   ·exact⟨ad,0,0,by rw[h2,g2],fun _=>by simpa using g1⟩
   ·exact⟨_,_,_,by rw[h2,g1],fun hn=>by simp at hn⟩
 have gr:(execOp a.eval ⟨aN d,.binOp .eql xt x (.const (.slice aO 0 0)) yt,ty,ps,af,aO⟩).run P w=.ok (.value (.bool ad.isNone)) w:=by have h5:(Op.equalIn 10000 xt (.slice ad n c) (.slice aO 0 0)).run P w=.ok ad.isNone w:=zFt 9999 hu;have h6:a.eval (.const (.slice aO 0 0))=.slice aO 0 0:=rfl;simp[execOp,h3,h6,eqGuard,binOp,zEg,h5]
 simp only[wpL,Region.wanted,if_true];refine .inl ?_;unfold Oper.wp;rw[gr,Oper.upon_value];have eB:=xM g9 rfl (zT sd) (fun _=>.bool ad.isNone) (fun _=>rfl) (B ad.isNone) (.bool ad.isNone) (by simp[mkV,Gh.put]) (by simp[R,Gh.put]) (by simp[Top]);refine h ad.isNone h4 _ w Q' ⟨S,hS,gM,_,eB⟩ ?_ hQ;refine eV.frame hp fun s gE=>?_
 have:d≠s:=fun e=>gE (by rw[e])
 simp[Act.put,Array.getElem?_setIfInBounds_ne this]
theorem zHu{t e:TypeId}(hu:P.underlying t=aN (.slice e))(hx:opT E x=aN (.lit (.slice aO 0 0)))(sd:J3 d Γ.N=aP):Ok P Γ ⟨aN d,.call { callee:=.builtin .len,args:=#[x],argTypes:=#[t] },ty,ps,af,gd⟩ E (E.app [(d,aN (I 0))] [(d,0)]):=by
 intro S;refine qA (.int .i64 0) rfl rfl (zT sd) fun a w G g9=>?_
 have h1:=(xC g9 hx).1;simp[execOp,resolve,invoke,builtin,h1,Builtin.len_,run_underlying hu,goInt]
theorem zHv{t e:TypeId}(hu:P.underlying t=aN (.slice e))(hx:opT E x=aN (.lit (.slice aO 0 0)))(sd:J3 d Γ.N=aP):Ok P Γ ⟨aN d,.call { callee:=.builtin .cap,args:=#[x],argTypes:=#[t] },ty,ps,af,gd⟩ E (E.app [(d,aN (I 0))] [(d,0)]):=by
 intro S;refine qA (.int .i64 0) rfl rfl (zT sd) fun a w G g9=>?_
 have h1:=(xC g9 hx).1;simp[execOp,resolve,invoke,builtin,h1,Builtin.cap_,run_underlying hu,goInt]
theorem zOU{t e:TypeId}{ti:TypeInfo}{u:T}{k:Nat}(ht:ElT P t e ti k u)(hx:opT E x=aN (.lit (.slice aO 0 0)))(hy:opT E y=aN (I 0))(sd:J3 d Γ.N=aP):Ok P Γ ⟨aN d,.slice t x aO (aN y) aO,ty,ps,af,gd⟩ E (E.app [(d,aN (.sl k []))] [(d,0)]):=by
 intro S;refine yW.value rfl fun a w G g9=>?_
 have h1:=(xC g9 hx).1;have h2:=(xC g9 hy).1;refine⟨.slice aO 0 0,w,?_,_,xM g9 rfl (zT sd) (fun _=>.slice aO 0 0) (fun _=>rfl) (.sl k []) (.slice aO 0 0) (by simp[mkV,Gh.put]) (by simp[R,Gh.put]) (by simp[Top,yB,yQ])⟩;simp[execOp,Instr.sliceAt,Instr.slice,run_underlying ht.un,h1,h2,sizeOf,typeInfo,ht.info,Instr.sliceBounds,Instr.sliceBound,asIntOf]
theorem zF.nil(s k:Nat)(hs:E s=aN (.lit (.slice aO 0 0))):zF Γ E (E.app [(s,aN (.sl k []))] [(s,0)]):=by
 rintro a w ⟨S,hS,gM,G,g9⟩
 refine⟨S,hS,gM,G,?_⟩;have hk:tD [(s,0)] G w G w:=⟨fun _ _ _=>rfl,fun _ _ _=>rfl,fun _ _ _ _ _ _ h _=>⟨h,rfl⟩,fun _ _ _ h _=>h,fun b cs e h=>⟨cs,h,rfl⟩⟩;refine xS g9 rfl hk g9.mem (fun s' gE=>⟨fun n hn=>?_,rfl⟩) fun s' t gE=>?_
 ·simp at hn
  simp[Wr.find,hn.1]at gE
 ·simp only[Wr.find]at gE
  split at gE
  ·rename_i e;subst e
   simp at gE;subst gE;obtain⟨h1,h2,_⟩:=g9.ent s _ hs;simp only[R]at h2;exact⟨by rw[h1];rfl,by simp only[R];exact .inl ⟨trivial,aO,h2⟩,by simp[Top,yB,yQ]⟩
  ·cases gE
theorem zGs{src dst:TypeId}{ds:TypeDesc}{k k':IntKind}{n:Int}(hs:P.underlying src=aN ds)(ht:P.underlying dst=aN (.int k'))(hx:opT E x=aN (IK k n))(sd:J3 d Γ.N=aP):
  Ok P Γ ⟨aN d,.convert src dst x,ty,ps,af,gd⟩ E (E.app [(d,aN (IK k' (k'.wrap n)))] [(d,0)]):=fun _=>zOB src dst ds x k k' n rfl rfl (zT sd) hs ht hx
theorem zQH{k:IntKind}{m n:Int}{xt yt:TypeId}(hx:opT E x=aN (IK k m))(hy:opT E y=aN (IK k n))(sd:J3 d Γ.N=aP):Ok P Γ ⟨aN d,.binOp .add xt x y yt,ty,ps,af,gd⟩ E (E.app [(d,aN (IK k (k.wrap (m+n))))] [(d,0)]):=
 fun _=>vN .add xt yt x y k m n _ rfl rfl (zT sd) hx hy rfl
theorem zQI{k:IntKind}{m n:Int}{xt yt:TypeId}(hx:opT E x=aN (IK k m))(hy:opT E y=aN (IK k n))(sd:J3 d Γ.N=aP):Ok P Γ ⟨aN d,.binOp .mul xt x y yt,ty,ps,af,gd⟩ E (E.app [(d,aN (IK k (k.wrap (m*n))))] [(d,0)]):=
 fun _=>vN .mul xt yt x y k m n _ rfl rfl (zT sd) hx hy rfl
theorem zMi{k:IntKind}{m n:Int}{xt yt:TypeId}(hx:opT E x=aN (IK k m))(hy:opT E y=aN (IK k n))(sd:J3 d Γ.N=aP):Ok P Γ ⟨aN d,.binOp .gtr xt x y yt,ty,ps,af,gd⟩ E (E.app [(d,aN (B (decide (m> n))))] [(d,0)]):=
 fun _=>vN .gtr xt yt x y k m n _ rfl rfl (zT sd) hx hy rfl
def zDu(k:IntKind)(m n:Int):Int:=k.wrap ((BitVec.ofInt k.bits m &&& BitVec.ofInt k.bits n).toNat:Int)
theorem zQJ{k:IntKind}{m n:Int}{xt yt:TypeId}(hx:opT E x=aN (IK k m))(hy:opT E y=aN (IK k n))(sd:J3 d Γ.N=aP):Ok P Γ ⟨aN d,.binOp .and xt x y yt,ty,ps,af,gd⟩ E (E.app [(d,aN (IK k (zDu k m n)))] [(d,0)]):=by
 intro S;refine qA (.int k (zDu k m n)) rfl rfl (zT sd) fun a w G g9=>?_
 have h1:=(xC g9 hx).1;have h2:=(xC g9 hy).1;simp[execOp,h1,h2,eqGuard,binOp,Op.intBits,zDu]
theorem zQK{k k':IntKind}{m n:Int}{xt yt:TypeId}(hn:0≤n)(hx:opT E x=aN (IK k m))(hy:opT E y=aN (IK k' n))(sd:J3 d Γ.N=aP):Ok P Γ ⟨aN d,.binOp .shr xt x y yt,ty,ps,af,gd⟩ E (E.app [(d,aN (IK k (m.fdiv (2 ^ (min n.toNat k.bits)))))] [(d,0)]):=by
 intro S;refine qA (.int k (m.fdiv (2 ^ (min n.toNat k.bits)))) rfl rfl (zT sd) fun a w G g9=>?_
 have h1:=(xC g9 hx).1;have h2:=(xC g9 hy).1;have h3:¬n<0:=by omega
 simp[execOp,h1,h2,eqGuard,binOp,Op.shift,h3]
end
end Go.Ab

namespace Go.Ab
open Go
structure zMj (P:Program) (f:Field) (i:Nat):Prop where
 name:f.name≠ "_"
 off:f.offset=i
 ty:P.underlying f.type=aN (.int .i64)
class zOV (P:Program) (t:TypeId):Prop where
 h:∃f0 f1 f2 f3:Field,P.underlying t=aN (.struct #[f0,f1,f2,f3])∧zMj P f0 0∧zMj P f1 1∧zMj P f2 2∧zMj P f3 3
 st:P.stoodInHeld t=aQ
 gd:P.eqGuardType P.depth t=aQ
theorem zCa{P:Program}{w:World}{f:Field}{i:Nat}(h:zMj P f i)(cs:Array Value)(v:Value)(hv:cs[i]? =aN v):(part f.type cs f.offset).run P w=.ok v w:=by simp[part,uR h.ty,zC2,h.off,hv]
theorem zMk{P:Program}{w:World}{t:TypeId}(h:zOV P t)(a b c d a' b' c' d':Int)(m:Nat):
  (Op.equalIn (m+2) t (.agg #[.int .i64 a,.int .i64 b,.int .i64 c,.int .i64 d]) (.agg #[.int .i64 a',.int .i64 b',.int .i64 c',.int .i64 d'])).run P w=.ok (a==a'&&(b==b'&&(c==c'&&d==d'))) w:=by
 obtain⟨f0,f1,f2,f3,h1,g0,g1,g2,g3⟩:=h.h;have k0:=fun(x y:Int)=>zD1 (P:=P) (w:=w) (a:=x) (b:=y) m g0.ty
 have k1:=fun(x y:Int)=>zD1 (P:=P) (w:=w) (a:=x) (b:=y) m g1.ty
 have k2:=fun(x y:Int)=>zD1 (P:=P) (w:=w) (a:=x) (b:=y) m g2.ty
 have k3:=fun(x y:Int)=>zD1 (P:=P) (w:=w) (a:=x) (b:=y) m g3.ty
 have gD:=h.st;rw[Op.equalIn];simp only[Sem.run_bind,run_underlying h1];have q0:=fun(a b c d:Int)=>zCa (w:=w) g0 #[.int .i64 a,.int .i64 b,.int .i64 c,.int .i64 d] (.int .i64 a) rfl
 have q1:=fun(a b c d:Int)=>zCa (w:=w) g1 #[.int .i64 a,.int .i64 b,.int .i64 c,.int .i64 d] (.int .i64 b) rfl
 have q2:=fun(a b c d:Int)=>zCa (w:=w) g2 #[.int .i64 a,.int .i64 b,.int .i64 c,.int .i64 d] (.int .i64 c) rfl
 have q3:=fun(a b c d:Int)=>zCa (w:=w) g3 #[.int .i64 a,.int .i64 b,.int .i64 c,.int .i64 d] (.int .i64 d) rfl
 by_cases e0:a=a'<;>by_cases e1:b=b'<;>by_cases e2:c=c'<;>by_cases e3:d=d'<;>
  simp[gD,g0.name,g1.name,g2.name,g3.name,q0,q1,q2,q3,k0,k1,k2,k3,e0,e1,e2,e3]
section
variable {P:Program}{Γ:Ctx}{E E':Env}{d:Nat}{x y:Operand}{ty:TypeId}{ps:String}{af:Array Edge}{gd:Option (Nat×Bool)}
theorem zQL{t t':TypeId}{s s':Nat}{a b c e a' b' c' e':Int}(h:zOV P t)(hx:E s=aN (.agg [I a,I b,I c,I e]))(hy:E s'=aN (.agg [I a',I b',I c',I e']))(sd:J3 d Γ.N=aP):
  Ok P Γ ⟨aN d,.binOp .eql t (.tmp s) (.tmp s') t',ty,ps,af,gd⟩ E (E.app [(d,aN (B (a==a'&&(b==b'&&(c==c'&&e==e')))))] [(d,0)]):=by
 intro S;refine qA _ rfl rfl (zT sd) fun A w G g9=>?_
 obtain⟨h1,h2,_⟩:=g9.ent s _ hx;obtain⟨h3,h4,_⟩:=g9.ent s' _ hy;simp only[R,RF]at h2 h4;have e1:A.eval (.tmp s)=.agg #[.int .i64 a,.int .i64 b,.int .i64 c,.int .i64 e]:=by rw[yX h1];simp[mkV,zP,vals,h2]
 have e2:A.eval (.tmp s')=.agg #[.int .i64 a',.int .i64 b',.int .i64 c',.int .i64 e']:=by rw[yX h3];simp[mkV,zP,vals,h4]
 have h5:(Op.equalIn 10000 t (.agg #[.int .i64 a,.int .i64 b,.int .i64 c,.int .i64 e]) (.agg #[.int .i64 a',.int .i64 b',.int .i64 c',.int .i64 e'])).run P w=_:=zMk (w:=w) h a b c e a' b' c' e' 9998;have hg:=h.gd;simp[execOp,e1,e2,eqGuard,binOp,zEg,h5,hg]
end
end Go.Ab

namespace Go.Ab
open Go
abbrev vI(n:Int):Value:=.int .i64 n
section
variable {Γ:Ctx}{E:Env}
theorem zHw{G:Gh}{tmps:Array Value}{w w':World}(g9:Rep Γ E G tmps w){s0:Nat}{xs us:List Int}(gU:E s0=aN (L 1 I xs))(gg:us.length=xs.length)
  {b o0 cap:Nat}{cs cs':Array Value}{e:TypeId}(h1:G.hd s0 []=.slice (aN ⟨b,o0,aO⟩) xs.length cap)(h2:w.heap[b]? =aN (.cells cs e (0,0)))(h3:xs.length≤cap)(h4:cap≤maxLen)(h5:o0+cap*1≤cs.size)(h6:G.ow b=aN (s0,[]))
  (h7:∀o,o0+xs.length*1≤o→o<o0+cap*1→G.lb b o=aN (aP,s0,[]))(h8:RL Γ.St G w s0 (xs.map I) [] 0 b o0 1)
  (k1:w'.heap[b]? =aN (.cells cs' e (0,0)))(k2:cs'.size=cs.size)(k3:∀b',b'≠b→w'.heap[b']? =w.heap[b']?)(k4:w'.heap.size=w.heap.size)(ko:w'.os=w.os)(kq:w'.output=w.output)(k5:∀(i:Nat) u,us[i]? =aN u→cs'[o0+i]? =aN (vI u)):
  ∃G',Rep Γ (E.app [(s0,aN (L 1 I us))] [(s0,1)]) G' tmps w':=by
 have hm:=g9.mem;obtain⟨e1,_,_⟩:=g9.ent s0 _ gU;have gC:=hm.ow b _ h6
 let G':Gh:={ G with hd:=fun s z=>if s=s0 then(match z with
  | [i]=>(match us[i]? with
   |some u=>vI u
   |none=>G.hd s0 z)
  |_=>G.hd s0 z)else G.hd s z }
 have hB:Blk w w':=by
  intro b' cs2 e2 hb
  by_cases fZ:b'=b
  ·subst fZ
   rw[h2]at hb;simp at hb;obtain⟨rfl,rfl⟩:=hb;exact⟨cs',k1,k2⟩
  ·exact⟨cs2,by rw[k3 b' fZ];exact hb,rfl⟩
 have gw:tD [(s0,1)] G w G' w':=by
  refine⟨fun s p ho=>?_,fun _ _ _=>rfl,fun b' o f s p gO hl hs=>⟨hl,?_⟩,fun _ _ _ hl _=>hl,hB⟩
  ·by_cases h:s=s0
   ·subst h
    have:p=[]:=Jr (by have:=ho 1 (by simp);omega);subst this;simp[G']
   ·simp[G',h]
  ·have hH:s≠s0:=fun e=>hs 1 (by simp[e])
   obtain⟨y,hy⟩:=gO;have fZ:b'≠b:=by
    rintro rfl
    rw[h6]at hy;simp at hy;exact hH hy.1.symm
   simp[yA,World.cell?,k3 b' fZ]
 have gv:Mem Γ G' w':=by
  refine⟨fun s z=>?_,fun b' o l hl=>?_,fun b' l hl=>?_,fun b' x hx=>?_,fun b' h h'=>?_,by rw[k4];exact hm.sz,hm.bk.trans hB ko kq⟩
  ·show(if _ then _ else _:Value).oneCell'=aP
   split
   ·split
    ·split
     ·rfl
     ·exact hm.one _ _
    ·exact hm.one _ _
   ·exact hm.one _ _
  ·have:=hm.lb b' o l hl;exact⟨by rw[k4];exact this.1,this.2⟩
  ·have:=hm.ow b' l hl;exact⟨by rw[k4];exact this.1,this.2⟩
  ·have:b'≠b:=by rintro rfl;rw[gC.2.2]at hx;cases hx
   rw[k3 b' this];exact hm.st b' x hx
  ·have:b'≠b:=by
    rintro rfl
    rcases gC.2.1 with h0|h0
    ·omega
    ·exact h' h0
   rw[k3 b' this];exact hm.fr b' h h'
 refine⟨G',xS g9 rfl gw gv ?_ ?_⟩
 ·intro s hs
  rw[uG]at hs;split at hs
  ·cases hs
  ·rename_i gj
   exact⟨fun n hn=>gj (by simp at hn;exact hn.1.symm),rfl⟩
 ·intro s t' hs
  rw[uG]at hs;split at hs
  ·rename_i he;subst he
   simp at hs;subst hs;refine⟨by rw[e1];simp[mkV,G'],?_,by simp only[Top];exact tP zJD us⟩;simp only[R];refine .inr ⟨b,o0,cap,cs',e,by simp[G',h1,gg],k1,by simp[gg];exact h3,h4,by omega,h6,fun o fk fc=>h7 o (by simpa[gg]using fk) fc,?_⟩;refine zBz _ [] 0 b o0 fun i x hx=>?_
   rw[Jj,Jt]at hx;obtain⟨u,hu,rfl⟩:=hx;have hi:=(J8.1 hu).1;obtain⟨g1,g2,_⟩:=uD _ [] 0 b o0 1 i (I xs[i]) h8 (by simp[show i<xs.length by omega]);simp only[J6,Hu,Loc]at g1 ⊢
   refine⟨⟨g1.1,g1.2.1,?_⟩,rfl,by simp[R,G',hu]⟩;have:=k5 i u hu;simp[yA,World.cell?,k1,this,G',hu]
  ·cases hs
def zEh(P:Program)(Γ:Ctx)(E:Env)(y:Operand)(ys:List Int):Prop:=∀(a:Act)(w:World)(G:Gh),Rep Γ E G a.tmps w→ ∃xa c,a.eval y=.slice xa ys.length c∧
 ∀(n:Nat),n≤ys.length→(Builtin.firstCells 1 n (.slice xa ys.length c)).run P w=.ok ((ys.take n).map vI).toArray w
theorem zAb{P:Program}{w:World}{b o:Nat}{cs:Array Value}{e:TypeId}{fr:Nat×Nat}(hb:w.heap[b]? =aN (.cells cs e fr))(ys:List Int)(hv:∀(i:Nat) u,ys[i]? =aN u→cs[o+i]? =aN (vI u))(n:Nat)(hn:n≤ys.length)(len cap:Nat):
  (Builtin.firstCells 1 n (.slice (aN ⟨b,o,aO⟩) len cap)).run P w=.ok ((ys.take n).map vI).toArray w:=by
 refine run_firstCells_some (P:=P) w 1 n ⟨b,o,aO⟩ len cap _ (by simp;omega) fun j v hj=>?_
 rw[Jj,Jt]at hj;obtain⟨u,hu,rfl⟩:=hj;rw[L6]at hu;split at hu
 ·rw[wO]
  have:=hv j u hu;simp[World.cell?,hb,this]
 ·cases hu
theorem zAy{P:Program}{w:World}{a:Option Addr}{c:Nat}:(Builtin.firstCells 1 0 (.slice a 0 c)).run P w=.ok #[] w:=by cases a<;>simp[Builtin.firstCells,loadCells,loadCellsFrom]
theorem zEh.ro{P:Program}{y:Operand}{ys:List Int}{r:Nat}{q:List Nat}(h:vK E y=aN (r,q,.ro (L 1 I ys))):zEh P Γ E y ys:=fun a w G g9=>by
 obtain⟨h1,h2⟩:=uV g9 h rfl;obtain⟨xa,c,g1,_,_,g2⟩:=zAI h1;rw[Jf]at g1;refine⟨xa,c,by rw[h2,g1],fun n hn=>?_⟩
 by_cases hy:ys=[]
 ·subst hy
  simp at hn;subst hn;simpa using zAy
 ·obtain⟨b,o,cs,e,fr,rfl,g3,g4⟩:=g2 (by simpa using hy)
  refine zAb (g9.mem.st b _ g3) ys (fun i u hu=>?_) n hn _ _;have:=zDw _ cs o 1 i (I u) g4 (by simp[hu]);simp only[RoC,Hu]at this;exact this.1
theorem zJK{G:Gh}{w:World}{s b o0:Nat}{q:List Nat}{cs:Array Value}{e:TypeId}{xs:List Int}{St:Stb}(h2:w.heap[b]? =aN (.cells cs e (0,0)))(h8:RL St G w s (xs.map I) q 0 b o0 1)(i:Nat)(u:Int)(hu:xs[i]? =aN u):cs[o0+i]? =aN (vI u):=by obtain⟨g1,_,g3⟩:=uD _ q 0 b o0 1 i (I u) h8 (by simp[hu]);simp only[Loc,R,J6,Hu]at g1 g3;have:=g1.2.2;simp only[yA,World.cell?,h2]at this;simpa[g3]using this
theorem zEh.sub{P:Program}{s r:Nat}{q:List Nat}{tr:T}{xs ys:List Int}{l h:Int}(hs:E s=aN (.sub r q 1 l.toNat h.toNat))(hr:E r=aN tr)(hg:tr.get q.reverse=aN (L 1 I xs))(hv:yF xs l h=aN ys):zEh P Γ E (.tmp s) ys:=fun a w G g9=>by
 obtain⟨k1,k2,k3,rfl⟩:=wW hv;obtain⟨e1,e2,_⟩:=g9.ent s _ hs;obtain⟨_,e4,_⟩:=g9.ent r _ hr;simp only[R]at e2;have h5:=(kY q.reverse tr _ [] e4 hg).1;simp only[rp,Kc,Je,R]at h5;have gg:((xs.drop l.toNat).take (h.toNat-l.toNat)).length=h.toNat-l.toNat:=by simp;omega
 rw[gg];have fA:a.eval (.tmp s)=G.hd s []:=by rw[yX e1,yE rfl]
 rcases h5 with⟨g1,ad,g2⟩|⟨b,o0,cap,cs,e,g1,g2,g3,_,_,_,_,g8⟩
 ·have hy:xs=[]:=by simpa using g1
  subst hy;have hl0:l.toNat=0:=by simp at k3;omega
  have mo:h.toNat=0:=by simp at k3;omega
  refine⟨ad,0,by rw[fA,e2,g2,hl0,mo];simp[jI],fun n hn=>?_⟩;simp[mo]at hn;subst hn;rw[hl0,mo];simpa using zAy
 ·rw[Jf]at g1 g3
  refine⟨if cap=l.toNat then aN ⟨b,o0,aO⟩else aN ⟨b,o0+l.toNat,aO⟩,cap-l.toNat,by rw[fA,e2,g1];simp only[jI,Lm,wO,Hu],fun n hn=>?_⟩;split
  ·have:n=0:=by omega
   subst this;simp[Builtin.firstCells,loadCells,loadCellsFrom]
  ·refine zAb g2 _ (fun i u hu=>?_) n (by rw[gg];exact hn) _ _
   rw[L6]at hu;split at hu
   ·rw[L1]at hu
    rw[L9];exact zJK g2 g8 _ u hu
   ·cases hu
def zBk(Γ:Ctx)(E:Env)(x:Operand)(s0 lo hi:Nat):Prop:=∀(a:Act)(w:World)(G:Gh),Rep Γ E G a.tmps w→a.eval x=jI (G.hd s0 []) 1 lo hi
theorem zBk.slot{s0:Nat}{xs:List Int}(h:E s0=aN (L 1 I xs)):zBk Γ E (.tmp s0) s0 0 xs.length:=fun a w G g9=>by obtain⟨e1,e2,_⟩:=g9.ent s0 _ h;obtain⟨ad,c,g⟩:=zFX e2;rw[Jf]at g;rw[yX e1,yE rfl,g];simp[jI];intro;cases ad<;>simp[Addr.add]
theorem zBk.same{s s0:Nat}{xs:List Int}(hs:E s=aN (.same s0 []))(h:E s0=aN (L 1 I xs)):zBk Γ E (.tmp s) s0 0 xs.length:=fun a w G g9=>by obtain⟨e1,e2,_⟩:=g9.ent s _ hs;have:=zBk.slot h a w G g9;obtain⟨e3,_,_⟩:=g9.ent s0 _ h;simp only[R]at e2;rw[yX e3,yE rfl]at this;rw[yX e1,yE rfl,e2];exact this
theorem zBk.sub{s s0 lo hi:Nat}(hs:E s=aN (.sub s0 [] 1 lo hi)):zBk Γ E (.tmp s) s0 lo hi:=fun a w G g9=>by obtain⟨e1,e2,_⟩:=g9.ent s _ hs;simp only[R]at e2;rw[yX e1,yE rfl,e2]
end
theorem zK9{α:Type}{xs ys:List α}{l h:Int}(hv:yF xs l h=aN ys):l.toNat≤h.toNat:=by have:=wW hv;omega
theorem zKA{α:Type}{xs ys:List α}{l h:Int}(hv:yF xs l h=aN ys):h.toNat≤xs.length:=by have:=wW hv;omega
theorem zJL{α:Type}(l z:List α)(lo i:Nat)(eo:lo+z.length≤l.length):(l.take lo++z++l.drop (lo+z.length))[i]? =if i<lo then l[i]? else if i<lo+z.length then z[i-lo]? else l[i]?:=by
 have hm:min lo l.length=lo:=by omega
 by_cases c1:i<lo
 ·rw[if_pos c1,Jb,K5 (by simp;omega),L6,if_pos c1]
 ·rw[if_neg c1]
  by_cases c2:i<lo+z.length
  ·rw[if_pos c2,Jb,Jd (by simp;omega),Kr,hm,K5 (by omega)]
  ·rw[if_neg c2,Jb,Jd (by simp;omega),Kr,hm,Jd (by omega),L1]
   congr 1;omega
def vV(xs:List Int)(lo:Nat)(zs:List Int):List Int:=xs.take lo++zs++xs.drop (lo+zs.length)
theorem zJM{P:Program}{Γ:Ctx}{E:Env}{d s0 lo hi:Nat}{x y:Operand}{ty:TypeId}{ps:String}{af:Array Edge}{gd:Option (Nat×Bool)}{t t2 e:TypeId}{ti:TypeInfo}{u:T}{xs ys:List Int}(ht:ElT P t e ti 1 u)(h0:E s0=aN (L 1 I xs))(hx:∀S,zBk (Γ.at S) E x s0 lo hi)(hy:∀S,zEh P (Γ.at S) E y ys)(h1:lo≤hi)(h2:hi≤xs.length)(sd:(J3 d Γ.N&&(s0 != d))=aP):
  Ok P Γ ⟨aN d,.call { callee:=.builtin .copy,args:=#[x,y],argTypes:=#[t,t2] },ty,ps,af,gd⟩ E ((E.app [(s0,aN (L 1 I (vV xs lo (ys.take (hi-lo)))))] [(s0,1)]).app [(d,aN (I ((min ys.length (hi-lo):Nat):Int)))] [(d,0)]):=by
 simp only[J2]at sd;have gj:s0≠d:=by simpa using sd.2
 intro S;refine yW.value rfl fun a w G g9=>?_
 obtain⟨e1,e2,_⟩:=g9.ent s0 _ h0;obtain⟨xa,c,g1,g2⟩:=hy S a w G g9;have g3:=hx S a w G g9;have cy:min ys.length (hi-lo)≤ys.length:=by omega
 have g4:=g2 _ cy;have htk:ys.take (hi-lo)=ys.take (min ys.length (hi-lo)):=by rw[List.take_eq_take_iff];omega
 rw[htk]
 generalize hn:min ys.length (hi-lo)=n at*
 have cc:(ys.take n).length=n:=by simp;omega
 have gg:(vV xs lo (ys.take n)).length=xs.length:=by simp[vV,cc];omega
 have key:∃w',(Builtin.copy_ #[t,t2] ty #[a.eval x,a.eval y]).run P w=.ok (goInt n) w'∧ ∃G',Rep (Γ.at S) (E.app [(s0,aN (L 1 I (vV xs lo (ys.take n))))] [(s0,1)]) G' a.tmps w':=by
  have e2':=e2;simp only[R]at e2;rcases e2 with⟨k1,ad,k2⟩|⟨b,o0,cap,cs,e',k1,k2,k3,k4,k5,k6,k7,k8⟩
  ·have ef:xs=[]:=by simpa using k1
   subst ef;simp at h2;subst h2;have b9:n=0:=by omega
   subst b9;have eo:lo=0:=by omega
   subst eo;refine⟨w,?_,G,?_⟩
   ·rw[g3,k2,g1]
    cases ad<;>cases xa<;>simp[jI,Builtin.copy_,run_underlying ht.un,Builtin.lenOf,sizeOf,typeInfo,ht.info,Builtin.firstCells,loadCells,loadCellsFrom,storeCells]
   ·refine xS g9 rfl ⟨fun _ _ _=>rfl,fun _ _ _=>rfl,fun _ _ _ _ _ _ h _=>⟨h,rfl⟩,fun _ _ _ h _=>h,fun b cs e h=>⟨cs,h,rfl⟩⟩ g9.mem (fun s hs=>⟨fun n hn=>by simp at hn;simp[Wr.find,hn.1]at hs,rfl⟩) fun s t' hs=>?_
    rw[uG]at hs;split at hs
    ·rename_i he;subst he
     simp at hs;subst hs;simpa[vV]using g9.ent s0 _ h0
    ·cases hs
  ·rw[Jf]at k1 k3 k7
   have gu:o0+cap≤cs.size:=by omega
   have gD:=run_storeCells_at P b (o0+lo) e' ((ys.take n).map vI) 0 cs w k2 (by simp;omega) (by intro v hv;obtain⟨u,_,rfl⟩:=Ja.1 hv;rfl);simp only[U1,Jf]at gD
   generalize hJ:w.setRow b (cs.toList.take (o0+lo)++(ys.take n).map vI++cs.toList.drop (o0+lo+(ys.take n).length)).toArray=w' at gD
   have gJ:cs.toList.length=cs.size:=Jv ..
   by_cases cD:cap=lo
   ·have b9:n=0:=by omega
    subst b9;refine⟨w,?_,G,?_⟩
    ·rw[g3,k1,g1]
     have g5:(Builtin.firstCells 1 0 (.slice xa ys.length c)).run P w=.ok #[] w:=by simpa using g4
     simp[jI,Builtin.copy_,run_underlying ht.un,Builtin.lenOf,sizeOf,typeInfo,ht.info,ht.size,show hi-lo=0 by omega,g5,storeCells,cD]
    ·refine xS g9 rfl ⟨fun _ _ _=>rfl,fun _ _ _=>rfl,fun _ _ _ _ _ _ h _=>⟨h,rfl⟩,fun _ _ _ h _=>h,fun b cs e h=>⟨cs,h,rfl⟩⟩ g9.mem (fun s hs=>⟨fun n hn=>by simp at hn;simp[Wr.find,hn.1]at hs,rfl⟩) fun s t' hs=>?_
     rw[uG]at hs;split at hs
     ·rename_i he;subst he
      simp at hs;subst hs;simpa[vV]using g9.ent s0 _ h0
     ·cases hs
   ·refine⟨w',?_,zHw g9 h0 gg k1 k2 k3 k4 k5 k6 k7 k8 (by rw[←hJ];exact setRow_heap w b cs _ e' _ k2) ?_ (fun b' h=>by rw[←hJ];exact setRow_other w b b' _ h) (by rw[←hJ];exact size_setRow w b _) (by rw[←hJ];rfl) (by rw[←hJ];rfl) fun i v hv=>?_⟩
    ·rw[g3,k1,g1]
     have h9:Nat.min ys.length (hi-lo)=n:=hn;simp only[jI,cD,if_false,Lm,wO,Hu];simp only[Builtin.copy_];rw[Gd]at gD;simp[run_underlying ht.un,Builtin.lenOf,sizeOf,typeInfo,ht.info,ht.size,h9,g4,gD]
    ·simp[cc];omega
    ·rw[vV,zJL _ _ _ _ (by rw[cc];omega)]at hv
     have h11:o0+lo+((ys.take n).map vI).length≤cs.toList.length:=by simp;omega
     have h10:=zJL cs.toList ((ys.take n).map vI) (o0+lo) (o0+i) h11;rw[Jf]at h10;rw[List.getElem?_toArray,h10];have eM:=fun i u hu=>zJK k2 k8 i u hu
     by_cases c1:i<lo
     ·rw[if_pos c1]at hv
      rw[if_pos (by omega)];simpa using eM i v hv
     ·rw[if_neg c1]at hv
      rw[if_neg (by omega)]
      by_cases c2:i<lo+(ys.take n).length
      ·rw[if_pos c2]at hv
       rw[if_pos (by omega),show o0+i-(o0+lo)=i-lo from by omega];rw[Jj,hv];rfl
      ·rw[if_neg c2]at hv
       rw[if_neg (by omega)];simpa using eM i v hv
 obtain⟨w',gr,G',gl⟩:=key;refine⟨_,w',?_,_,xM gl rfl (zT sd.1) (fun _=>vI n) (fun _=>rfl) (I n) (vI n) (by simp[mkV,Gh.put]) (by simp[R,Gh.put]) (by simp[Top])⟩;simp[execOp,resolve,invoke,builtin,gr,goInt]
end Go.Ab

namespace Go.Ab
open Go
theorem zFu{G G':Gh}{s d:Nat}(hd:∀z,G'.hd d z=G.hd s z):(xs:List T)→zV xs=aP→ ∀(j:Nat),sB G' d (cpF s xs [] j) [] j=sB G s xs [] j
 | [],_,_=>by rfl
 |x::xs,h,j=>by
  simp only[zV,J2]at h;simp only[cpF,sB];have gR:∀ys,x≠.tup ys:=by rintro ys rfl;grind[T.okTup]
  have h1:=sZ (G:=G) (G':=G') (s:=s) (d:=d) x [j] [j] gR (fun z=>hd _);have h2:∀ys,cpT s x [j]≠.tup ys:=by intro ys;cases x<;>simp[cpT]
  rw[sC _ _ _ _ h2]at h1;rw[h1,zFu hd xs h.2 (j+1)]
section
variable {P:Program}{Γ:Ctx}{E E':Env}{d:Nat}{x y:Operand}{ty:TypeId}{ps:String}{af:Array Edge}{gd:Option (Nat×Bool)}
theorem zMl{s:Nat}{ts:List T}(hx:E s=aN (.tup ts))(sd:(J3 d Γ.N&&zV ts&&(s != d)&&zGN [(d,0)] (cpF s ts [] 0))=aP):Ok P Γ ⟨aN d,.move (.tmp s),ty,ps,af,gd⟩ E (E.app [(d,aN (.tup (cpF s ts [] 0)))] [(d,0)]):=by
 simp only[J2]at sd;obtain⟨⟨⟨s1,s2⟩,s3⟩,s4⟩:=sd;have gj:s≠d:=by grind
 intro S;refine yW.value rfl fun a w G g9=>?_
 obtain⟨h1,h2,_⟩:=g9.ent s _ hx;simp only[R]at h2;have hk:=G.put_keep (w:=w) (w':=w) rfl d (fun z=>G.hd s z);have hz:∀z,(G.put d (fun z=>G.hd s z)).hd d z=G.hd s z:=by grind[Gh.put_self]
 have ck:∀(xs:List T)(j:Nat),wL (cpF s xs [] j):=by
  intro xs
  induction xs with
  |nil=>intro j;simp only[cpF,wL]
  |cons x xs ih=>intro j;simp only[cpF,wL];grind[uN]
 refine⟨mkV G s (.tup ts) [],w,?_,_,xM g9 rfl (zT s1) (fun z=>G.hd s z) (fun z=>g9.mem.one _ _) _ _ (by grind[mkV,zFu])
  (by simp only[R];exact zFV (fun p=>G.put_other _ p gj) ts [] [] 0 (fun z=>hz _) (yQ.mono (fun r p hr=>⟨hk.hd r p hr,hk.ad r p hr⟩) _ (by grind[zDB])) h2) (by simp only[Top];grind)⟩
 simp[execOp,yX h1]
end
end Go.Ab

namespace Go.Ab
open Go
section
variable (ds r:Nat)
inductive zKB:Env→List (Nat×List Nat)→Env→Prop where
 |nil (E:Env):zKB E [] E
 |cons {E E':Env}{l:List (Nat×List Nat)} (j:Nat) (q:List Nat) (td td' tr tr' u:T) (hd:E ds=aN td) (hg:td.get [j]=aN (.same r q)) (hr:E r=aN tr) (hp:tr.get q.reverse=aN u) (hF:zO u)
   (pm:td.set [j] u=td') (pk:tr.set q.reverse .any=tr') (sd:(u.single&&td.okB [(ds,2),(r,q.length+1)]&&tr.okB [(ds,2),(r,q.length+1)]&&yP td&&yP tr&&(ds != r)&& !q.isEmpty)=aP)
   (h:zKB (E.app [(ds,aN td'),(r,aN tr')] [(ds,2),(r,q.length+1)]) l E'):zKB E ((j,q)::l) E'
inductive zFv:Env→List (Nat×List Nat)→Env→Prop where
 |nil (E:Env):zFv E [] E
 |cons {E E':Env}{l:List (Nat×List Nat)} (j:Nat) (q:List Nat) (td td' tr tr' u v0:T) (hd:E ds=aN td) (hg:td.get [j]=aN u) (hr:E r=aN tr) (hp:tr.get q.reverse=aN v0) (hF:zO u)
   (pm:td.set [j] .any=td') (pk:tr.set q.reverse u=tr') (sd:(u.single&&v0.single&&td.okB [(r,q.length+1),(ds,2)]&&tr.okB [(r,q.length+1),(ds,2)]&&yP td&&yP tr&&(ds != r)&& !q.isEmpty)=aP)
   (h:zFv (E.app [(r,aN tr'),(ds,aN td')] [(r,q.length+1),(ds,2)]) l E'):zFv E ((j,q)::l) E'
end
theorem zOW{g z:List Nat}(h:g<:+z)(hn:z≠g):g.length<z.length:=by
 have h1:=h.length_le;rcases Hv g.length z.length with h2|h2
 ·exact h2
 ·exact absurd (h.eq_of_length (by omega)).symm hn
theorem zKB.rep{Γ:Ctx}{tmps:Array Value}{w:World}{ds r:Nat}{E E':Env}{l:List (Nat×List Nat)}(h:zKB ds r E l E'):∀{G:Gh},Rep Γ E G tmps w→
  ∃G',Rep Γ E' G' tmps w∧(∀z,G'.hd r z=G.hd r z)∧(∀j,G'.hd ds [j]=G.hd ds [j])∧ ∀x∈l,G.hd ds [x.1]=G.hd r x.2:=by
 induction h with
 |nil E=>intro G hr;exact⟨G,hr,fun _=>rfl,fun _=>rfl,by simp⟩
 |cons j q td td' tr tr' u hd hg hr hp hF pm pk sd _ ih=>
  intro G g9;simp only[J2]at sd;obtain⟨⟨⟨⟨⟨⟨s1,s2⟩,s3⟩,s4⟩,s5⟩,s6⟩,s7⟩:=sd;have gj:ds≠r:=by grind
  have hq:q≠[]:=by grind
  have gK:G.hd ds [j]=G.hd r q:=by have:=(kY [j] td _ [] (g9.ent ds td hd).2.1 hg).1;simpa[rp,R]using this
  obtain⟨h1,h2⟩:=zBy g9 ds [j] r q td tr u (.same r q) hd (by grind) rfl gK hr hp s1 hF gj (by omega) (by omega) s4 s5;rw[if_neg hq,show([j]:List Nat).reverse=[j]from rfl,pm,pk]at h1;obtain⟨G',g1,g2,g3,g4⟩:=ih (by omega)
  grind
theorem zFv.rep{Γ:Ctx}{tmps:Array Value}{w:World}{ds r:Nat}{E E':Env}{l:List (Nat×List Nat)}(m:Nat)(h:zFv ds r E l E'):(∀x∈l,x.2.length=m)→ ∀{G:Gh},Rep Γ E G tmps w→(∀x∈l,G.hd ds [x.1]=G.hd r x.2)→ ∃G',Rep Γ E' G' tmps w:=by
 induction h with
 |nil E=>grind
 | @cons E E' l j q td td' tr tr' u v0 hd hg hr hp hF pm pk sd _ ih=>
  intro hm G g9 tf;simp only[J2]at sd;obtain⟨⟨⟨⟨⟨⟨⟨s1,s1'⟩,s2⟩,s3⟩,s4⟩,s5⟩,s6⟩,s7⟩:=sd;have gj:ds≠r:=by grind
  have hq:q≠[]:=by grind
  obtain⟨h1,h2⟩:=zBy g9 r q ds [j] tr td u v0 hr hp s1' (tf (j,q) (by simp)).symm hd (by grind) s1 hF (Ne.symm gj) (by omega) (by omega) s5 s4;rw[if_neg (by simp),show([j]:List Nat).reverse=[j]from rfl,pm,pk]at h1;refine ih (by grind) (by omega) fun x hx=>?_
  have e1:∀z,(G.tr r q ds [j]).hd ds z=G.hd ds z:=by grind
  by_cases hz:q<:+x.2∧x.2≠q
  ·have h3:=zOW hz.1 hz.2
   rw[hm x (by simp[hx]),hm (j,q) (by simp)]at h3;omega
  grind
theorem zDh{G G':Gh}{s:Nat}:(xs ys:List T)→(∀x∈xs,x.single=aP)→(∀x∈ys,x.single=aP)→xs.length=ys.length→ ∀(j:Nat),zP G s xs [] j=zP G' s ys [] j→ ∀i,i<xs.length→G.hd s [j+i]=G'.hd s [j+i]
 | [],_,_,_,_,_,_,i,hi=>by simp at hi
 |x::xs,[],_,_,hl,_,_,_,_=>by simp at hl
 |x::xs,y::ys,h1,h2,hl,j,h,i,hi=>by
  have v1:∀(G:Gh)(t:T)(p:List Nat),t.single=aP→vals G s t p=[G.hd s p]:=fun G t p ht=>by cases t<;>simp[T.single]at ht<;>simp[vals]
  simp only[zP,v1 G x _ (h1 x (by simp)),v1 G' y _ (h2 y (by simp)),Kh,Qb.injEq]at h;cases i with
  |zero=>exact h.1
  |succ i=>
   have:=zDh xs ys (by grind) (by grind) (by grind) (j+1) h.2 i (by grind)
   grind
def wR:List T→Bool
 | []=>aP
 |x::xs=>x.single&&wR xs
theorem zB5:{xs:List T}→wR xs=aP→ ∀x∈xs,x.single=aP
 | [],_,_,h=>by simp at h
 |x::xs,h,y,hy=>by
  simp only[wR,J2]at h;rcases Jl.1 hy with rfl|hy
  ·exact h.1
  ·exact zB5 h.2 y hy
theorem zJN{P:Program}{Γ:Ctx}{E E1 E3:Env}{d:Nat}{ty:TypeId}{ps:String}{af:Array Edge}{gd:Option (Nat×Bool)}{f:FuncId}{xs:List Operand}{ats:Array TypeId}{us res:List T}{ts ts':List T}(i ds r:Nat)(l:List (Nat×List Nat))(m:Nat)(gm:qF P f)(hc:FnC P f us res [(i,.agg ts')])
  (gV:zKB ds r E l E1)(hs:E1 ds=aN (.agg ts))(hZ:zO (.agg ts'))(cr:xK (.agg ts')=aP)(gc:yN E1 [(i,ds,.agg ts')] 0 xs us)(gk:sF res)
  (ab:zFv ds r (E1.app (cWr d res [(i,ds,.agg ts')]) (wC d [(i,ds,.agg ts')])) l E3)
  (sd:(J3 d Γ.N&&(d != ds)&&(d != r)&&(ds != r)&&wR ts&&wR ts'&&(ts.length==ts'.length)&&(l.all fun x=>x.2.length==m&&J3 x.1 ts.length))=aP)(hx:xs[i]? =aN (.tmp ds))(hu:us[i]? =aN (.agg ts)):
  Ok P Γ ⟨aN d,.call { callee:=.value (.func f),args:=xs.toArray,argTypes:=ats },ty,ps,af,gd⟩ E E3:=by
 simp only[J2]at sd;obtain⟨⟨⟨⟨⟨⟨⟨s1,s2⟩,s3⟩,s4⟩,s5⟩,s6⟩,s7⟩,s8⟩:=sd;have d1:d≠ds:=by grind
 have d2:d≠r:=by grind
 have d3:ds≠r:=by grind
 have gg:ts.length=ts'.length:=by grind
 have hl:∀x∈l,x.2.length=m∧x.1<ts.length:=fun x hx=>by
  have:=Ju.1 s8 x hx
  simp_all
 intro S a w K Q ⟨gM,G,g9⟩ hK;refine zAr (xf:=.func f) rfl rfl gm rfl ?_;obtain⟨G1,g1,g2,g3,g4⟩:=gV.rep g9;refine(zDU g1 (zT s1) f xs us res [(i,ds,.agg ts')] hc gc (zDq.one' (u:=.agg ts) d1 hx hZ rfl cr hs hu) gk).mono ?_
 rintro e w' ⟨v,rfl,S',G',hS,hk,gl⟩
 have aL:(E1.app (cWr d res [(i,ds,.agg ts')]) (wC d [(i,ds,.agg ts')])) ds=aN (.agg ts'):=by grind[Env.app,Wr.find,cWr]
 have hv:mkV G' ds (.agg ts') []=mkV G1 ds (.agg ts) []:=by
  have a1:=(gl.ent ds _ aL).1;have a2:=(g1.ent ds _ hs).1
  grind
 simp only[mkV,Value.agg.injEq]at hv;have eh:zP G' ds ts' [] 0=zP G1 ds ts [] 0:=by grind
 have pP:=zDh ts' ts (zB5 s6) (zB5 s5) gg.symm 0 eh;obtain⟨G3,hG3⟩:=ab.rep m (by grind) gl fun x hx=>by
  have h1:=pP x.1 (by grind);rw[J6]at h1;have h2:G'.hd r x.2=G1.hd r x.2:=hk.hd r x.2 (fun n hn=>by grind[wC])
  grind
 exact⟨v,rfl,hK _ _ ⟨S',hS,gM,G3,hG3⟩⟩
end Go.Ab

namespace Go.Ab
open Go
section
variable {P:Program}{Γ:Ctx}{E:Env}{d:Nat}{x:Operand}{ty:TypeId}{ps:String}{af:Array Edge}{gd:Option (Nat×Bool)}
class zOX (P:Program) (t:TypeId) (e:outParam TypeId) (ti:outParam TypeInfo) (n:outParam Nat) (k:outParam Nat):Prop where
 un:P.underlying t=aN (.array n e)
 info:P.info? e=aN ti
 size:ti.size=k
theorem zJO{t e:TypeId}{ti:TypeInfo}{n k r:Nat}{q:List Nat}{xs:List T}{u:T}(i:Nat)(ht:zOX P t e ti n k)(hx:vK E x=aN (r,q,.ptr (.agg xs)))(hu:xs[i]? =aN u)(gB:T.sizes (xs.take i)=i*k)(sd:(J3 d Γ.N&&J3 i n)=aP):
  Ok P Γ ⟨aN d,.indexAddr t x (.const (.int .i64 i)),ty,ps,af,gd⟩ E (E.app [(d,aN (.addr r (i::0::q)))] [(d,0)]):=by
 simp only[J2]at sd;have gV:=zT sd.2;intro S;refine yW.value rfl fun a w G g9=>?_
 obtain⟨g1,g2⟩:=uV g9 hx rfl;simp only[R]at g1;obtain⟨b,cs,e',g4,_,_,_,g5,_⟩:=g1;simp only[Loc]at g5;have g6:=zBN xs (0::q) 0 b 0 i u g5.2 hu;simp only[J6]at g6;have g3:a.eval (.const (.int .i64 i))=.int .i64 i:=rfl;refine⟨.pointer (aN (G.ad r (i::0::q))),w,?_,_,xM g9 rfl (zT sd.1) (fun _=>.pointer (aN (G.ad r (i::0::q)))) (fun _=>rfl) _ _ (by simp[mkV,Gh.put]) (by simp[R,Gh.put]) (by simp[Top])⟩;have gI:(i:Int)<(n:Int):=by omega
 have h0:(0:Int)≤i:=by omega
 have g7:=zBs g6;have pN:i<n:=gV;simp[execOp,Instr.indexAt,g3,g2,g4,asIntOf,run_underlying ht.un,h0,pN,sizeOf,typeInfo,ht.info,ht.size,wO,wX,g7,gB]
end
end Go.Ab
namespace Go.Ab
open Go
theorem zRU{E:Env}{ds r s:Nat}{q:List Nat}{tr u t:T}(h:E s=aN t)(gj:(Nat.beq ds s||Nat.beq r s)=aQ:=by rfl)(hb:t.okB [(ds,1),(r,q.length+1)]=aP:=by rfl):opT (wD E ds r q tr u) (.tmp s)=aN t:=by
 have h1:ds≠s:=by rintro rfl;simp at gj
 have h2:r≠s:=by rintro rfl;simp at gj
 simp[opT,wD,Env.app,Wr.find,h1,h2,h,hb]
end Go.Ab
namespace Go.Ab
open Go
section
variable {P:Program}{Γ:Ctx}{pn:tE}{E E':Env}{Q Q1:Exit→Env→Prop}{c c1 c2:Code}{ops:Array Oper}{o:Oper}{os:List Oper}{id:Nat}
theorem sR(h:RW P Γ pn ops ops.toList E (xV P Γ pn c Q)):CW P Γ pn (.seq (.region id ops aQ) c) E Q:=CW.seq (CW.region h)
theorem rN(h:CW P Γ pn c E Q):RW P Γ pn ops [] E (xV P Γ pn c Q):=RW.nil h
theorem oP(h:Ok P Γ o E E')(k:RW P Γ pn ops os E' Q)(hg:o.guard=aO:=by rfl)(hp:pn.ok o.dst=aP:=by rfl):RW P Γ pn ops (o::os) E Q:=RW.op h k hg hp
def zQM(ops:List Oper):List (List Nat):=(ops.foldl (fun(acc:Array (List Nat)) o=>acc.push ((jS o).foldl (fun l m=>m::(acc.getD m [])++l) [])) #[]).toList
theorem CW.lp{σ ρ:Type}(body:σ→Option (σ⊕ρ))(en:σ→Env)(Q1:ρ→Exit→Env→Prop){s:σ}{r:ρ}(hg:zF Γ E (en s))(h:∀s x,body s=aN x→CW P Γ pn c (en s) (uA Γ en Q1 x))(hr:zG body s=aN r)(hq:∀e E',Q1 r e E'→Q e E'):CW P Γ pn (.loop c) E Q:=
 (CW.mono (CW.loop body en Q1 h hr) hq).ghost hg
end
end Go.Ab

namespace Go.Ab
open Go Go.ChangeShapes
abbrev zHx(w:World):Stb:=fun b=>w.heap[b]?
theorem zKC{w:World}{a:Addr}{n:Nat}{cs:List Value}(h:w.cells? 0 a n=aN cs):cs.length=n∧ ∀(i:Nat) v,cs[i]? =aN v→w.cell? (a.add i)=aN v:=by
 unfold World.cells? at h;rw[if_pos (Km _)]at h;refine⟨by simpa using mapM_some_length h,fun i v hv=>?_⟩;have hi:i<n:=by have:=(J8.1 hv).1;have h2:=mapM_some_length h;rw[Lz]at h2;omega
 rw[←hv];exact mapM_some_get h i i (by simp[hi])
theorem zJP{w:World}{a:Addr}{v:Value}(h:w.cell? a=aN v):a.spot=aO∧ ∃c e fr,w.heap[a.block]? =aN (.cells c e fr)∧c[a.off]? =aN v:=by
 simp only[World.cell?]at h;split at h
 ·rename_i c e fr hb
  split at h
  ·cases h
  ·rename_i hs
   exact⟨by cases hq:a.spot with|none=>rfl|some _=>rw[hq]at hs;simp at hs,c,e,fr,hb,h⟩
 ·cases h
theorem zHy{b o m:Nat}:(Addr.mk b o aO).add m=⟨b,o+m,aO⟩:=by
 unfold Addr.add;split
 ·rename_i h;subst h;rfl
 ·rfl
theorem zDi{α:Type}{Q:Nat→α→Prop}:∀(n:Nat),(∀i,i<n→ ∃x,Q i x)→ ∃xs:List α,xs.length=n∧ ∀i x,xs[i]? =aN x→Q i x
 |0,_=>⟨[],rfl,fun i x h=>by simp at h⟩
 |n+1,h=>by
  obtain⟨xs,h1,h2⟩:=zDi n fun i hi=>h i (by omega)
  obtain⟨y,hy⟩:=h n (by omega);refine⟨xs++[y],by simp[h1],fun i x hx=>?_⟩;rw[K2]at hx;split at hx
  ·exact h2 i x hx
  ·rename_i hge
   have:i-xs.length=0:=by have:=(J8.1 hx).1;simpa using this
   rw[this]at hx;simp at hx;subst hx
   rwa [show i=n from by omega]
theorem zJQ{St:Stb}:(xs:List T)→ ∀(cs:Array Value)(o k:Nat),(∀i x,xs[i]? =aN x→RoC St x cs (o+i*k))→RoL St xs cs o k
 | [],_,_,_,_=>by simp only[RoL]
 |x::xs,cs,o,k,h=>by
  simp only[RoL];refine⟨by simpa using h 0 x rfl,zJQ xs cs (o+k) k fun i y hy=>?_⟩;have:=h (i+1) y (by simpa using hy)
  rwa [show o+k+i*k=o+(i+1)*k from by rw[Kz];omega]
section
variable {P:Program}
def RdT(P:Program)(t:TypeId)(k:Nat){α:Type}(f:α→T)(V:α→Prop):Prop:=
 ∀{H:Type}(enc:TypeId×Value→H)(w:World)(fuel:Nat)(cs:List Value)(x:DataW H×List MemPlace),DataW.trod enc P w 0 (fun _=>aP) aP fuel t cs=aN x→
  cs.length=k→ ∃d,V d∧ ∀(A:Array Value)(o:Nat),(∀(i:Nat) v,cs[i]? =aN v→A[o+i]? =aN v)→RoC (zHx w) (f d) A o
theorem zQN{t:TypeId}{q:IntKind}(hu:P.underlying t=aN (.int q)):RdT P t 1 (IK q) (fun n=>(Lit.int q n).wf=aP):=by intro H enc w fuel cs x h _;obtain⟨n,rfl,_,hw⟩:=DataW.trod_int hu h;exact⟨n,hw,fun A o hA=>by simp only[RoC];exact⟨by simpa using hA 0 _ rfl,rfl⟩⟩
theorem zQO{α:Type}{f:α→T}{V:α→Prop}{t e:TypeId}{k:Nat}(hu:P.underlying t=aN (.slice e))(hk:P.cellsOf e=k)(ei:0<k)(h:RdT P e k f V):
  RdT P t 1 (L k f) (fun xs=>xs.length≤maxLen∧ ∀x∈xs,V x):=by
 intro H enc w fuel cs x hx _;rcases DataW.trod_slice hu hx with⟨rfl,_⟩|⟨a,len,cap,elems,rest,n,rfl,rfl,_,_,fp,cD,bO,eY,_⟩
 ·refine⟨[],⟨by simp,by simp⟩,fun A o hA=>?_⟩
  simp only[RoC,Ly,G7];exact⟨aO,0,by simpa using hA 0 _ rfl,Ji _,by simp[maxLen],fun h=>absurd rfl h⟩
 ·subst hk
  have key:∀i,i<len→ ∃y,V y∧ ∃cs':List Value,cs'.length=P.cellsOf e∧(∀(j:Nat) v,cs'[j]? =aN v→w.cell? ((a.add (i*P.cellsOf e)).add j)=aN v)∧
    ∀(A:Array Value)(o:Nat),(∀(j:Nat) v,cs'[j]? =aN v→A[o+j]? =aN v)→RoC (zHx w) (f y) A o:=by
   intro i hi;have h1:=eY i hi;rw[J5 (by omega)]at h1;obtain⟨cs',h2,h3⟩:=Option.bind_eq_some_iff.1 h1;obtain⟨h4,h5⟩:=zKC h2;obtain⟨y,h6,h7⟩:=h enc w n cs' _ h3 h4;exact⟨y,h6,cs',h4,h5,h7⟩
  obtain⟨xs,hxl,ef⟩:=zDi len key;refine⟨xs,⟨by omega,fun y hy=>?_⟩,fun A o hA=>?_⟩
  ·obtain⟨i,hi,rfl⟩:=L0.1 hy
   exact(ef i _ (J5 hi)).1
  ·simp only[RoC,Jf,hxl]
   refine⟨aN a,cap,by simpa using hA 0 _ rfl,fp,cD,fun gj=>?_⟩;have pC:0<xs.length:=by
    cases xs with
    |nil=>simp at gj
    |cons _ _=>simp
   obtain⟨_,cs0,g1,g2,_⟩:=ef 0 _ (J5 pC);have hz:a.add (0*P.cellsOf e)=a:=by simp[Addr.add]
   have g3:=g2 0 cs0[0] (J5 (by omega));rw[hz,show a.add 0=a from by simp[Addr.add]]at g3;obtain⟨pi,c,e',fr,hb,_⟩:=zJP g3;obtain⟨b,off,sp⟩:=a;simp only at pi hb;subst pi;refine⟨b,off,c,e',fr,rfl,hb,zJQ _ _ _ _ fun i y hy=>?_⟩;rw[Jj,Jt]at hy;obtain⟨z,p9,rfl⟩:=hy;obtain⟨_,cs',g1',g2',g4⟩:=ef i z p9;refine g4 c _ fun j v hv=>?_
   have:=g2' j v hv;rw[zHy,zHy]at this;obtain⟨_,c2,e2,fr2,bu,eh⟩:=zJP this;simp only at bu eh;rw[hb]at bu;cases bu;exact eh
theorem zGt{H:Type}{enc:TypeId×Value→H}{w:World}{t:TypeId}{fs:Array Field}{fuel:Nat}{cs:List Value}{x:DataW H×List MemPlace}(hu:P.underlying t=aN (.struct fs))(h:DataW.trod enc P w 0 (fun _=>aP) aP fuel t cs=aN x)
  {i j k:Nat}{f:Field}(hf:fs[i]? =aN f)(hj:f.offset=j)(hk:P.cellsOf f.type=k):∃n y,DataW.trod enc P w 0 (fun _=>aP) aP n f.type ((cs.drop j).take k)=aN y:=by
 obtain⟨xs,n,_,_,_,gg,eY⟩:=DataW.trod_struct hu h;have hi:i<xs.length:=by rw[gg];exact(Ky.1 hf).1
 have:=eY i f hf;rw[hj,hk,J5 hi]at this;exact⟨n,_,this⟩
end
def zKD(v:Value):Value:=if v.oneCell' then v else .bool aQ
theorem zHz(v:Value):(zKD v).oneCell'=aP:=by unfold zKD;split;assumption;rfl
theorem zGu{v:Value}(h:v.oneCell'=aP):zKD v=v:=by simp[zKD,h]
def hd0(vs:Array Value)(s:Nat)(p:List Nat):Value:=
 match vs[s]?,p with
 |some (.agg cs),[j]=>zKD (cs[j]?.getD (.bool aQ))
 |some v,[]=>zKD v
 |_,_=>.bool aQ
def G0(vs:Array Value):Gh:={ hd:=hd0 vs,ad:=fun _ _=>default,lb:=fun _ _=>aO,ow:=fun _=>aO }
theorem zTz(w:World)(vs:Array Value):Mem ⟨zHx w,fun _=>False,w,0⟩ (G0 vs) w where
 one s p:=by
  simp only[G0,hd0];split
  ·exact zHz _
  ·exact zHz _
  ·rfl
 lb b o l h:=by simp[G0]at h
 ow b l h:=by simp[G0]at h
 st b x h:=h
 fr b _ _:=rfl
 sz:=Ji _
 bk:=⟨fun b cs e h=>⟨cs,h,rfl⟩,rfl,rfl⟩
def RdA(P:Program)(t:TypeId){α:Type}(u:α→T)(V:α→Prop):Prop:=
 ∀{H:Type}(enc:TypeId×Value→H)(w:World)(base fuel:Nat)(v:Value)(x:DataW H×List MemPlace),DataW.trod enc P w 0 (fun _=>aP) aP fuel t v.cells.toList=aN x→
  Value.okWide P w .any base t v→ ∃d,V d∧ ∀(vs:Array Value)(s:Nat),vs[s]? =aN v→aN v=aN (mkV (G0 vs) s (u d) [])∧R (zHx w) (G0 vs) w s (u d) []
def RdC(P:Program)(t:TypeId){α:Type}(u:α→T)(V:α→Prop):Prop:=
 ∀{H:Type}(enc:TypeId×Value→H)(w:World)(fuel:Nat)(c:Value)(x:DataW H×List MemPlace),DataW.trod enc P w 0 (fun _=>aP) aP fuel t [c]=aN x→
  ∃d,V d∧c.oneCell'=aP∧ ∀(G:Gh)(s:Nat)(p:List Nat),G.hd s p=c→vals G s (u d) p=[c]∧R (zHx w) G w s (u d) p
section
variable {P:Program}
theorem zQP{t:TypeId}{q:IntKind}(hu:P.underlying t=aN (.int q)):RdC P t (IK q) (fun n=>(Lit.int q n).wf=aP):=by intro H enc w fuel c x h;obtain⟨n,h1,_,hw⟩:=DataW.trod_int hu h;simp only[Qb.injEq,and_true]at h1;subst h1;exact⟨n,hw,rfl,fun G s p hp=>⟨by simp only[vals,hp],by simp only[R,hp]⟩⟩
theorem zRV{α:Type}{f:α→T}{V:α→Prop}{t:TypeId}(h:RdT P t 1 f V)(h1:∀{H:Type}(enc:TypeId×Value→H)(w:World)(fuel:Nat)(c:Value)(x:DataW H×List MemPlace),DataW.trod enc P w 0 (fun _=>aP) aP fuel t [c]=aN x→c.oneCell'=aP):
  RdC P t (fun x=>T.ro (f x)) V:=by
 intro H enc w fuel c x hx;obtain⟨d,g1,g2⟩:=h enc w fuel [c] x hx rfl;refine⟨d,g1,h1 enc w fuel c x hx,fun G s p hp=>⟨by simp only[vals,hp],?_⟩⟩;simp only[R,hp];exact g2 _ _ fun i v hv=>by
  cases i with
  |zero=>simpa using hv
  |succ i=>simp at hv
theorem zOY{α:Type}{f:α→T}{V:α→Prop}{t e:TypeId}{k:Nat}(hu:P.underlying t=aN (.slice e))(hk:P.cellsOf e=k)(ei:0<k)(h:RdT P e k f V):RdC P t (fun xs=>T.ro (L k f xs)) (fun xs=>xs.length≤maxLen∧ ∀x∈xs,V x):=
 zRV (zQO hu hk ei h) fun enc w fuel c x hx=>by
  rcases DataW.trod_slice hu hx with⟨h1,_⟩|⟨a,len,cap,_,_,_,_,h1,_⟩<;>
  ·simp only[Qb.injEq,and_true]at h1
   subst h1;rfl
theorem zOZ{α:Type}{u:α→T}{V:α→Prop}{t:TypeId}(hs:∀x,(u x).single=aP∧ ∀G s,mkV G s (u x) []=G.hd s [])(h:RdC P t u V)
  (hv:∀{w:World}{base:Nat}{v:Value},Value.okWide P w .any base t v→v.oneCell'=aP):RdA P t u V:=by
 intro H enc w base fuel v x hx gG;have h1:v.cells.toList=[v]:=by have:=hv gG;cases v<;>simp_all [Value.oneCell',Value.cells]
 rw[h1]at hx;obtain⟨d,g1,g2,g3⟩:=h enc w fuel v x hx;refine⟨d,g1,fun vs s eJ=>?_⟩;have gF:(G0 vs).hd s []=v:=by simp only[G0,hd0,eJ];cases v<;>first|rfl|simp[Value.oneCell']at g2
 exact⟨by rw[(hs d).2,gF],(g3 _ _ _ gF).2⟩
theorem zEO{w:World}{base:Nat}{t:TypeId}{fs:Array Field}{v:Value}(hu:P.underlying t=aN (.struct fs))(h:Value.okWide P w .any base t v):∃cs,v=.agg cs∧cs.size=P.cellsOf t:=by simp only[Value.okWide,hu]at h;obtain⟨cs,h1,h2,_⟩:=h;exact⟨cs,h1,h2⟩
theorem zQi{α β γ δ:Type}{ua:α→T}{ub:β→T}{uc:γ→T}{Va:α→Prop}{Vb:β→Prop}{Vc:γ→Prop}{t:TypeId}{f0 f1 f2:Field}(mk:α→β→γ→δ){u:δ→T}{V:δ→Prop}
  (hu:P.underlying t=aN (.struct #[f0,f1,f2]))(hc:P.cellsOf t=3)(h0:f0.offset=0∧P.cellsOf f0.type=1)(h1:f1.offset=1∧P.cellsOf f1.type=1)(h2:f2.offset=2∧P.cellsOf f2.type=1)
  (ra:RdC P f0.type ua Va)(rb:RdC P f1.type ub Vb)(rc:RdC P f2.type uc Vc)(hmk:∀a b c,u (mk a b c)=T.agg [ua a,ub b,uc c])(hV:∀a b c,Va a→Vb b→Vc c→V (mk a b c)):RdA P t u V:=by
 intro H enc w base fuel v x hx gG;obtain⟨cs,rfl,gu⟩:=zEO hu gG;obtain⟨l,rfl⟩:∃l:List Value,cs=l.toArray:=⟨cs.toList,by simp⟩;rw[hc,Jb5]at gu;obtain⟨c0,c1,c2,rfl⟩:∃a b c,l=[a,b,c]:=by
  match l,gu with
  | [a,b,c],_=>exact⟨a,b,c,rfl⟩
 simp only[Value.cells]at hx;obtain⟨n0,y0,g0⟩:=zGt hu hx (i:=0) rfl h0.1 h0.2;obtain⟨n1,y1,g1⟩:=zGt hu hx (i:=1) rfl h1.1 h1.2;obtain⟨n2,y2,g2⟩:=zGt hu hx (i:=2) rfl h2.1 h2.2;simp only[List.drop_succ_cons,Jaz,Kj,Kg]at g0 g1 g2;obtain⟨a,a1,a2,a3⟩:=ra enc w n0 c0 _ g0;obtain⟨b,b1,b2,b3⟩:=rb enc w n1 c1 _ g1;obtain⟨c,e1,e2,e3⟩:=rc enc w n2 c2 _ g2;refine⟨mk a b c,hV a b c a1 b1 e1,fun vs s eJ=>?_⟩;have k0:(G0 vs).hd s [0]=c0:=by simp[G0,hd0,eJ,zGu a2]
 have k1:(G0 vs).hd s [1]=c1:=by simp[G0,hd0,eJ,zGu b2]
 have k2:(G0 vs).hd s [2]=c2:=by simp[G0,hd0,eJ,zGu e2]
 rw[hmk];simp only[mkV,zP,(a3 _ _ _ k0).1,(b3 _ _ _ k1).1,(e3 _ _ _ k2).1,Kl,K3,R,RF];exact⟨trivial,(a3 _ _ _ k0).2,(b3 _ _ _ k1).2,(e3 _ _ _ k2).2,trivial⟩
end
theorem FnC.top{P:Program}{f:FuncId}{us:List T}(h:FnC P f us [B aP] []){w:World}{vs:Array Value}(gu:vs.size=us.length)
  (ha:∀(i:Nat) u,us[i]? =aN u→vs[i]? =aN (mkV (G0 vs) i u [])∧R (zHx w) (G0 vs) w i u []):
  Calls P f vs w fun e w'=>e=.returned (.bool aP)∧w'.os=w.os∧w'.output=w.output∧w.heap.size≤w'.heap.size∧ ∀b,b<w.heap.size→w'.heap[b]? =w.heap[b]?:=by
 refine(h (zHx w) (fun _=>False) w (G0 vs) vs gu (fun i u hu=>?_) (zTz w vs)).mono fun e w'=>?_
 ·obtain⟨h1,h2⟩:=ha i u hu
  refine⟨?_,h2⟩;rw[h1]
 ·rintro⟨S',G',nd,_,he,hm,cx,hr,_,_⟩
  match nd,cx with
  | [(s,p,t)],cx=>
   simp only[Jg,Ly,Qb.injEq,and_true]at cx;subst cx;have:=(hr (s,p,B aP) (by simp)).1;simp only[R]at this;exact⟨by rw[he];simp only[zHe,vO,this],hm.bk.os,hm.bk.out,hm.sz,fun b hb=>hm.fr b hb (fun h=>h)⟩
theorem zBl{H:Type}{enc:TypeId×Value→H}{P:Program}(hl:laidOutB P=aP){W W':World}{sp:Nat→Bool}:∀{ts:List TypeId}{vs:List Value}{ds:List (DataW H)}{ps:List MemPlace},(∀t∈ts,P.readableRec t=aP∧t<P.types.size)→
  DataW.TrodAll enc P W 0 (fun _=>aP) aP ts vs ds ps→(∀p∈ps,W.sameAt W' p)→(∀p∈ps,sp p.block=aP)→DataW.TrodAll enc P W' 0 sp aP ts vs ds ps
 | [],[],[],_,_,h,_,_=>h
 |t::ts,v::vs,d::ds,ps,hr,h,h1,h2=>by
  obtain⟨p,q,g1,g2,rfl⟩:=h;exact⟨p,q,Go.WideElems.Trod_stays hl (hr t (by simp)).1 (hr t (by simp)).2 g1 (fun x hx=>h1 x (by simp[hx])) (fun x hx=>h2 x (by simp[hx])),
   zBl hl (fun t' mP=>hr t' (by simp[mP])) g2 (fun x hx=>h1 x (by simp[hx])) (fun x hx=>h2 x (by simp[hx])),rfl⟩
 | [],_::_,_,_,_,h,_,_| [],[],_::_,_,_,h,_,_|_::_,[],_,_,_,h,_,_|_::_,_::_,[],_,_,h,_,_=>h.elim
theorem zI7{C:Checked}{os:Os}(own:ownKnob C.prog.godebug=aO)(started:os.Started){f:FuncId}{fn:Func}(noInit:C.prog.inits.idxOf? f=aO)(hfn:C.prog.funcs[f]? =aN fn){H:Type}{enc:TypeId×Value→H}{s:ChangeSpec}{conds:List PathCond}{apart fresh handsOn again:Bool}
  (witness:∃(w:World)(tape:Tape)(i:Input),w.os=os∧(w.forCall tape i).Shaped C.prog∧i.vars=[]∧Input.okWide C.prog (w.forCall tape i) .any w.heap.size f i∧
   s.pre6 enc C.prog fn conds apart (w.forCall tape i).memory i.args∧Assume.holds {} C.prog (lone (Frame.enter C.prog f i.args .normal) [] (w.forCall tape i)))
  (hs:∀(l:List (DataW H)),l.length=fn.params.size→(s.fn H l).results=[.lit (.bool aP)]∧(s.fn H l).args=l∧(s.fn H l).vars=[])(cI:s.vars=[]){tb:TypeId}(eR:fn.resultTypes= #[tb])(hb:C.prog.underlying tb=aN .bool)
  (laid:laidOutB C.prog=aP)(mV:fn.params.toList.all (fun t=>C.prog.readableRec t&&decide (t<C.prog.types.size))=aP)
  (law:∀(W:World)(base:Nat)(args:Array Value)(ds:List (DataW H))(p:List MemPlace),(∀(j:Nat) t v,fn.params[j]? =aN t→args[j]? =aN v→Value.okWide C.prog W .any base t v)→
   DataW.TrodAll enc C.prog W 0 (fun _=>aP) aP fn.params.toList args.toList ds p→
   ∃us:List T,args.size=us.length∧FnC C.prog f us [B aP] []∧ ∀(i:Nat) u,us[i]? =aN u→args[i]? =aN (mkV (G0 args) i u [])∧R (zHx W) (G0 args) W i u []):
  ReturnsInHanded {} C os f .any (s.pre6 enc C.prog fn conds apart) (s.post enc C.prog fn apart fresh handsOn again):=by
 refine returnsInHanded_of_change (C:=C) own started noInit hfn witness ?_;intro W base args ds gs before hval hW _ _;have pZ:=hW;obtain⟨p,q,hA,hV,hbq,hfz,cx⟩:=hW;obtain⟨us,h1,h2,h3⟩:=law W base args ds p hval hA;have hl:ds.length=fn.params.size:=by
  have:∀{ts:List TypeId}{vs:List Value}{ds:List (DataW H)}{p:List MemPlace},DataW.TrodAll enc C.prog W 0 (fun _=>aP) aP ts vs ds p→ds.length=ts.length:=by
   intro ts
   induction ts with
   |nil=>intro vs ds p h;cases vs<;>cases ds<;>first|rfl|exact h.elim
   |cons t ts ih=>intro vs ds p h;cases vs<;>cases ds<;>first|exact h.elim|(obtain⟨_,_,_,g,_⟩:=h;simp[ih g])
  simpa using this hA
 rw[cI]at hV;have hq:gs=[]∧q=[]:=by
  cases gs with
  |nil=>exact⟨rfl,hV⟩
  |cons _ _=>exact hV.elim
 obtain⟨rfl,rfl⟩:=hq;have gI:=pZ.lt;refine(h2.top h1 h3).mono fun e w' ⟨he,ho,hq,gu,hh⟩=>⟨_,he,?_⟩
 have gK:∀p∈before,W.sameAt w' p:=fun p hp=>by
  have:=gI p hp;cases p with
  |cell b off=>simp only[World.sameAt,World.cell?,hh b this]
  |map b=>exact hh b this
 obtain⟨k1,k2,k3⟩:=hs ds hl;have hbp:before=p:=by simpa using hbq
 subst hbp;have gy:∀t∈fn.params.toList,C.prog.readableRec t=aP∧t<C.prog.types.size:=fun t ht=>by have:=Ju.1 mV t ht;simpa using this
 have gk:∀(b:Nat)(sp:Nat→Bool)(hd:Bool),DataW.TrodAll enc C.prog w' b sp hd fn.resultTypes.toList ((Value.bool aP).resultList fn.resultTypes.size) (s.fn H (ds++[])).results []:=fun b sp hd=>by rw[eR,Je,k1];exact⟨[],[],⟨1,by simp[DataW.trod,hb,Value.cells]⟩,⟨rfl,rfl⟩⟩
 have gc:∀sp:Nat→Bool,(∀p∈before,sp p.block=aP)→DataW.TrodAll enc C.prog w' 0 sp aP fn.params.toList args.toList (s.fn H (ds++[])).args before:=fun sp pi=>by rw[Je,k2];exact zBl laid gy hA gK pi
 have mB:∀sp:Nat→Bool,DataW.TrodVars enc C.prog w' sp s.vars (s.fn H (ds++[])).vars []:=fun sp=>by rw[cI,Je,k3];rfl
 have gA:∀p∈before,(fun b=>decide (b<W.heap.size)) p.block=aP:=fun p hp=>by simpa using gI p hp
 have cB:∀p∈before,∀o,w'.frozen? ⟨p.block,o,aO⟩=W.frozen? ⟨p.block,o,aO⟩:=fun p hp o=>by simp only[World.frozen?,hh _ (gI p hp)]
 refine⟨ds,[],before,[],before,[],pZ,gk _ _ _,gc _ gA,mB _,⟨ho,hq,fun i hi=>?_⟩,fun _=>⟨fun j t r hj hr=>?_,_,_,([]++before)++[],⟨[]++before,[],trodAll_append (gc _ (fun _ _=>rfl)) (gk _ _ _),mB _,rfl,fun b off hp=>?_,fun ha=>?_⟩,fun p hp _=>?_⟩⟩
 ·rw[hh i hi]
  cases hx:W.heap[i]? with
  |none=>rfl
  |some o=>cases o<;>simp
 ·rw[eR]at hj hr
  match j,hj,hr with
  |0,hj,hr=>
   simp[Value.resultList]at hj hr;subst hj;subst hr;simp[Value.okWide,hb,Cell.okWide,Cell.ok]
 ·have fj:MemPlace.cell b off∈before:=by simpa using hp
  exact(cB _ fj off).trans (hfz b off fj)
 ·have:=cx ha
  simpa using this
 ·simpa using hp
end Go.Ab

namespace Go.Ab
open Go
def tJ(hs:List Nat)(E:Env):Prop:=∀s,hs.contains s=aP→ ∃t,E s=aN t∧qN t=aP
def zQQ(hs:List Nat)(z:Nat×Option T):Bool:=!hs.contains z.1||match z.2 with
 |some t=>qN t
 |none=>aQ
def wrS(hs:List Nat)(X:Stp):Bool:=X.l.all fun y=>y.1.all (zQQ hs)
theorem zH0{s:Nat}{x:Option T}:∀{wr:Wr},wr.find s=aN x→(s,x)∈wr
 | [],h=>by grind[Wr.find]
 |(k,y)::wr,h=>by
  simp only[Wr.find]at h;split at h
  ·grind
  ·exact Ui _ (zH0 h)
theorem tJ.apps{hs:List Nat}:∀(l:zDr)(E:Env),tJ hs E→(l.all fun y=>y.1.all (zQQ hs))=aP→tJ hs (E.apps l)
 | [],_,h,_=>h
 |x::l,E,h,hw=>by
  simp only[Q7,J2]at hw;refine tJ.apps l (E.app x.1 x.2) (fun s gE=>?_) hw.2;obtain⟨t,he,ht⟩:=h s gE;unfold Env.app;cases hf:x.1.find s with
  |some y=>
   have h1:=Ju.1 hw.1 _ (zH0 hf);simp only[zQQ,gE,Jm,Bool.false_or]at h1
   grind
  |none=>grind[wZ]
theorem tJ.runD{hs:List Nat}:∀(l:List (Bool×Stp))(E:Env),tJ hs E→(∀y∈l,wrS hs y.2=aP)→tJ hs (runD E l)
 | [],_,h,_=>h
 |(b,X)::l,E,h,hw=>by
  simp only[Go.Ab.runD];refine tJ.runD l _ ?_ fun y hy=>hw y (by simp[hy])
  cases b with
  |true=>exact tJ.apps X.l E h (hw (aP,X) (by simp))
  |false=>exact h
section
variable {P:Program}{Γ:Ctx}{pn:tE}{E E':Env}{Q:Exit→Env→Prop}{ops:Array Oper}{o:Oper}{os:List Oper}{id:Nat}{wr:Wr}{chg:Chg}{hs:List Nat}
def zJR(P:Program)(Γ:Ctx)(pn:tE)(ops:Array Oper)(o:Oper)(E E':Env):Prop:=
 ∀(a:Act)(w:World)(K:Act→World→Prop)(Q:Exit→Act→World→Prop),pn.Hold a→tL Γ E a w→(∀a' w',tL Γ E' a' w'→(∀s,o.dst≠aN s→a'.tmps[s]? =a.tmps[s]?)→K a' w')→
  if Region.wanted o (yielded ops a.tmps)then o.wp P a w K Q∨(o.asks P a w∧LetsOut Q)else K (a.put o.dst undef) w
def xT(P:Program)(Γ:Ctx)(pn:tE)(hs:List Nat)(ops:Array Oper):List Oper→List Stp→Prop
 | [],[]=>True
 |o::os,X::Xs=>(∀E:Env,E.Has X.rd→tJ hs E→zJR P Γ pn ops o E (E.apps X.l))∧xT P Γ pn hs ops os Xs
 |_,_=>False
theorem xT.get:∀(os:List Oper)(Xs:List Stp),xT P Γ pn hs ops os Xs→os.length=Xs.length∧ ∀(i:Nat)(o:Oper)(X:Stp),os[i]? =aN o→Xs[i]? =aN X→ ∀E:Env,E.Has X.rd→tJ hs E→zJR P Γ pn ops o E (E.apps X.l)
 | [],[],_=>by simp
 |o::os,X::Xs,h=>by
  obtain⟨h1,h2⟩:=xT.get os Xs h.2;refine⟨by simp[h1],fun i o' X' ho hX=>?_⟩;cases i with
  |zero=>simp at ho hX;subst ho hX;exact h.1
  |succ i=>exact h2 i o' X' (by simpa using ho) (by simpa using hX)
 | [],_::_,h=>by simp[xT]at h
 |_::_,[],h=>by simp[xT]at h
theorem xT.snoc{X:Stp}:∀(os:List Oper)(Xs:List Stp),xT P Γ pn hs ops os Xs→(∀E:Env,E.Has X.rd→tJ hs E→zJR P Γ pn ops o E (E.apps X.l))→xT P Γ pn hs ops (os++[o]) (Xs++[X])
 | [],[],_,h=>⟨h,trivial⟩
 |_::os,_::Xs,h1,h=>⟨h1.1,xT.snoc os Xs h1.2 h⟩
 | [],_::_,h,_=>by simp[xT]at h
 |_::_,[],h,_=>by simp[xT]at h
theorem vX.snoc{X:Stp}:∀(Xs:List Stp)(E:Env),vX E Xs→(runD E (Xs.map fun y=>(aP,y))).Has X.rd→vX E (Xs++[X])
 | [],_,_,h=>⟨by grind[runD],trivial⟩
 |_::Xs,_,h1,h=>⟨h1.1,vX.snoc Xs _ h1.2 (by simpa[runD]using h)⟩
theorem zGv{E0:Env}{gU:List Nat}{Xs:List Stp}{an:List (List Nat)}{Q':Exit→Act→World→Prop}(hf:qU 0 ops.toList=aP)(ha:sS an an ops.toList=aP)(hp:tO Xs 0 an Xs=aP)
  (gD:xT P Γ pn gU ops ops.toList Xs)(hI:tJ gU E0)(hw:Xs.all (wrS gU)=aP)(hh:vX E0 Xs)(mX:ops.toList.all (fun o=>pn.ok o.dst)=aP)(hQ:∀a' w',tL Γ (runD E0 (Xs.map fun y=>(aP,y))) a' w'→pn.Hold a'→Q' .normal a' w'):
  ∀(fuel:Nat)(L:List Bool)(a:Act)(w:World),L.length=ops.size→L.count aQ=fuel→zLT ops L→tL Γ (runD E0 (L.zip Xs)) a w→pn.Hold a→wpAny P .any ops Q' fuel L.toArray a w:=by
 obtain⟨gg,f8⟩:=xT.get _ _ gD;have cW:Xs.length=ops.size:=by grind
 intro fuel
 induction fuel with
 |zero=>
  intro L a w hL hcnt gJ hs eV;have cG:∀b∈L,b=aP:=by grind
  have aK:L=J1 ops.size aP:=by rw[←hL];exact List.eq_replicate_iff.2 ⟨rfl,cG⟩
  refine⟨?_,?_⟩
  ·apply List.eq_nil_iff_forall_not_mem.2
   intro j hj;obtain⟨h1,o,ho,_⟩:=mem_ready.1 hj;have gI:=(Ky.1 ho).1;rw[aK]at h1;simp[gI]at h1
  ·refine hQ a w ?_ eV
   have:L.zip Xs=Xs.map fun y=>(aP,y):=by
    rw[aK,←cW]
    clear hs hL aK cG hcnt gJ gD hw hh hp gg cW f8 hQ
    induction Xs with
    |nil=>rfl
    |cons X Xs ih=>simp[Jz,ih]
   grind
 |succ fuel ih=>
  intro L a w hL hcnt gJ hs eV;refine⟨fun hr=>?_,fun i hi=>?_⟩
  ·
   exfalso
   have mp:∃m:Nat,L[m]? =aN aQ:=by
    have:aQ∈L:=by grind
    grind[U2]
   obtain⟨m,hm,cy⟩:=zFg mp;have hmlt:=(J8.1 hm).1;have bJ:ops[m]? =aN ops[m]:=by simp
   have:m∈Region.ready .any ops L.toArray:=by
    refine mem_ready.2 ⟨by simp_all,ops[m],bJ,fun e he hb=>?_⟩;have hpm:e.on∈jS ops[m]:=by
     simp only[jS,Ja,Gk]
     grind
    have gI:=zDz ops.toList 0 m _ hf (by simp) _ hpm;rw[J6]at gI;cases hL1:L[e.on]? with
    |none=>grind
    |some b=>
     cases b with
     |false=>grind
     |true=>simp_all
   grind
  ·obtain⟨h1,o,ho,cG⟩:=mem_ready.1 hi
   have gI:=(Ky.1 ho).1;have hLi:L[i]? =aN aQ:=by simp_all
   have ee:∀m∈jS o,L[m]? =aN aP:=by
    intro m hm;simp only[jS,Ja,Gk]at hm;obtain⟨e,⟨he,hb⟩,rfl⟩:=hm;have:=cG e (by grind) hb;cases hL1:L[e.on]? with
    |none=>grind
    |some b=>simp_all
   have hanc:=zDZ hf ha gJ i i (Ji _) o ho ee;have mq:Xs[i]? =aN Xs[i]:=by simp
   generalize hXe:Xs[i]=X at mq
   have bh:∀(j:Nat)(Y:Stp),Xs[j]? =aN Y→i<j→L[j]? =aN aP→X.apart Y=aP:=by
    intro j Y hY hij hj;rcases zCD Xs Xs 0 an j Y hp hY i X (by omega) mq with h|h
    ·have hjlt:=(J8.1 hY).1
     have hoj:ops[j]? =aN ops[j]:=by simp
     have:=zDZ hf ha gJ j j (Ji _) _ hoj (gJ j _ hoj hj) i h
     grind
    ·exact h
   have pR:∀(j:Nat)(Y:Stp),Xs[j]? =aN Y→j<i→L[j]? =aN aQ→Y.apart X=aP:=by grind[zCD]
   have mW:∀y∈(L.take i).zip (Xs.take i),∃j:Nat,j<i∧L[j]? =aN y.1∧Xs[j]? =aN y.2:=by
    intro y hy;obtain⟨j,g1,g2⟩:=zGn hy;rw[L6]at g1 g2
    grind
   have cQ:∀y∈(L.drop (i+1)).zip (Xs.drop (i+1)),∃j:Nat,i<j∧L[j]? =aN y.1∧Xs[j]? =aN y.2:=by
    intro y hy;obtain⟨j,g1,g2⟩:=zGn hy;rw[L1]at g1 g2
    grind
   have pi:=zFo hLi mq;have ao:(runD E0 (L.zip Xs)).Has X.rd:=by
    rw[pi,sE];simp only[runD,La,if_false];have h0:=vX.get Xs E0 hh i X mq;refine h0.of fun s t gD gU=>?_
    have tf:s∈X.rd.map (·.1):=by grind
    refine zFn _ _ (fun y hy hb=>?_) ?_
    ·obtain⟨j,g1,g2,g3⟩:=cQ y hy
     have:=Stp.apart_spec (bh j y.2 g3 g1 (by rw[g2,hb]));exact⟨by grind,by grind⟩
    ·have hmp:((L.take i).zip (Xs.take i)).map (fun y=>(aP,y.2))=(Xs.take i).map fun y=>(aP,y):=by
      have hl2:(L.take i).length=(Xs.take i).length:=by simp;omega
      rw[show(fun y:Bool×Stp=>(aP,y.2))=(fun y=>(aP,y))∘Prod.snd from rfl,←List.map_map,List.map_snd_zip (by omega)]
     refine zFm _ E0 E0 (fun y hy hb gE=>?_) (fun _ h=>h) t (by grind);obtain⟨j,g1,g2,g3⟩:=mW y hy;have:=Stp.apart_spec (pR j y.2 g3 g1 (by rw[g2,hb]))
     grind
   have hnext:runD E0 ((L.set i aP).zip Xs)=(runD E0 (L.zip Xs)).apps X.l:=by
    have hLs:(L.set i aP)[i]? =aN aP:=by grind
    rw[zFo hLs mq,pi,sE,sE];simp only[runD,if_true,La,if_false,List.take_set_of_le (Ji i),List.drop_set_of_lt (Nat.lt_succ_self i)];refine zCC _ X _ fun y hy hb=>?_
    obtain⟨j,g1,g2,g3⟩:=cQ y hy;exact(Stp.apart_spec (by grind)).1
   have tc:=f8 i o X (by grind) mq _ ao (tJ.runD (L.zip Xs) E0 hI fun y hy=>Ju.1 hw _ (by obtain⟨j,_,g⟩:=zGn hy;grind));unfold wpOp;simp only[ho];refine tc a w _ Q' eV hs fun a' w' gE cB=>?_
   rw[List.setIfInBounds_toArray];have gG:pn.ok o.dst=aP:=by grind
   refine ih (L.set i aP) a' w' (by simp[hL]) (by grind) ?_ (by grind) (eV.frame gG cB);intro k ok hk hkt m hm
   by_cases hki:k=i
   ·subst hki
    rw[ho]at hk;simp at hk;subst hk;rw[Qh];split
    ·grind
    grind
   ·rw[Hm (Ne.symm hki)]at hkt
    rw[Qh];split
    ·grind
    ·exact gJ k ok hk hkt m hm
theorem CW.drawnI{gU:List Nat}{id:Nat}{E:Env}{Q:Exit→Env→Prop}(Xs:List Stp)(an:List (List Nat))(hm:P.follows .mixedOrders=aP)(gD:xT P Γ pn gU ops ops.toList Xs)(hI:tJ gU E)(hw:Xs.all (wrS gU)=aP)(hh:vX E Xs)
  (hQ:Q .normal (runD E (Xs.map fun y=>(aP,y))))(hf:qU 0 ops.toList=aP:=by rfl)(ha:sS an an ops.toList=aP:=by rfl)(hp:tO Xs 0 an Xs=aP:=by rfl)
  (mX:ops.toList.all (fun o=>pn.ok o.dst)=aP:=by rfl):CW P Γ pn (.region id ops aP) E Q:=by
 intro a w Q' hs eV hQ';refine wp_region_any hm ?_;have gE:tL Γ E a { w with drawn:=w.drawn+1 }:=by obtain⟨S,hS,gM,G,hr⟩:=hs;exact⟨S,hS,gM,G,hr.heap rfl⟩
 have:=zGv (P:=P) (Γ:=Γ) (pn:=pn) (E0:=E) (Q':=Q') hf ha hp gD hI hw hh mX (by grind) ops.size (J1 ops.size aQ) a { w with drawn:=w.drawn+1 } (by simp) (by simp)
  (fun i o ho hi=>by
   grind) (by
   have:runD E ((J1 ops.size aQ).zip Xs)=E:=by
    generalize ops.size=n
    clear gD hI hw hh hQ hf ha hp gE
    induction n generalizing Xs with
    |zero=>simp[runD]
    |succ n ih=>
     cases Xs with
     |nil=>simp[runD]
     |cons X Xs=>simpa[Jz,runD]using ih Xs
   grind) eV
 grind
def DK(P:Program)(Γ:Ctx)(pn:tE)(ops:Array Oper)(id:Nat)(hs:List Nat)(E0:Env)(Q:Exit→Env→Prop)(os:List Oper)(E:Env)(acc:List Stp):Prop:=
 ∀don,don++os=ops.toList→xT P Γ pn hs ops don acc.reverse→vX E0 acc.reverse→E=runD E0 (acc.reverse.map fun y=>(aP,y))→CW P Γ pn (.region id ops aP) E0 Q
variable {E0:Env}{acc:List Stp}
theorem CW.dk(h:DK P Γ pn ops id [] E Q ops.toList E []):CW P Γ pn (.region id ops aP) E Q:=h [] rfl trivial trivial rfl
theorem dGP(rd:List (Nat×T))(l:zDr)(gy:E.Has rd)(gD:∀E':Env,E'.Has rd→tJ hs E'→zJR P Γ pn ops o E' (E'.apps l))(k:DK P Γ pn ops id hs E0 Q os (E.apps l) (⟨rd,l⟩::acc)):DK P Γ pn ops id hs E0 Q (o::os) E acc:=by
 intro don hd hso hh hE;subst hE;have hr:=fun X=>Ga (a:=X) (as:=acc)
 refine k (don++[o]) (by simp[hd]) ?_ ?_ ?_
 ·grind[xT.snoc]
 ·grind[vX.snoc]
 ·rw[hr,Le,sE];rfl
theorem dGS(rd:List (Nat×T))(l:zDr)(gy:E.Has rd)(gD:∀E':Env,E'.Has rd→tJ hs E'→zR P Γ ops o E' (E'.apps l))(k:DK P Γ pn ops id hs E0 Q os (E.apps l) (⟨rd,l⟩::acc)):DK P Γ pn ops id hs E0 Q (o::os) E acc:=
 dGP rd l gy (fun E' h h' a w K Q _=>gD E' h h' a w K Q) k
theorem dG(rd:List (Nat×T))(l:zDr)(gy:E.Has rd)(gD:∀E':Env,E'.Has rd→zR P Γ ops o E' (E'.apps l))(k:DK P Γ pn ops id hs E0 Q os (E.apps l) (⟨rd,l⟩::acc)):DK P Γ pn ops id hs E0 Q (o::os) E acc:=
 by grind[dGS]
def zMm(hs:List Nat)(E:Env):Bool:=hs.all fun s=>match E s with
 |some t=>qN t
 |none=>aQ
theorem zMn(h:zMm hs E=aP):tJ hs E:=by
 intro s gE;have h1:=Ju.1 h s (by grind)
 grind
theorem dN(an:List (List Nat))(hm:P.follows .mixedOrders=aP)(hQ:Q .normal E)(hf:qU 0 ops.toList=aP:=by rfl)(ha:sS an an ops.toList=aP:=by rfl)(hp:tO acc.reverse 0 an acc.reverse=aP:=by rfl)
  (mX:ops.toList.all (fun o=>pn.ok o.dst)=aP:=by rfl)(mo:zMm hs E0=aP:=by rfl)(hw:acc.reverse.all (wrS hs)=aP:=by rfl):DK P Γ pn ops id hs E0 Q [] E acc:=by
 intro don hd gD hh hE
 grind[CW.drawnI,zMn]
end
end Go.Ab
