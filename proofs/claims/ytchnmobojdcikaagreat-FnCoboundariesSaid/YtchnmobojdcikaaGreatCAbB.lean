/- x -/
import Derived.Test.YtchnmobojdcikaaGreatCAbA
import Derived.Laws.CopyRow
import Derived.ProofKit
open List renaming replicate→J1,getElem?_eq_getElem→J5,append_nil→J9,length_append→Ja,getElem?_append_right→Jb,getElem?_eq_some_iff→Je,append_assoc→Jh,range→Ji,mem_map→Jj,map_cons→Jl,getElem?_map→Jn,length_map→Jo,mem_cons→Jp,mem_iff_getElem→Jt,nil_append→Ju,replicate_succ→Jv,mem_append→Jw,eq_nil_of_length_eq_zero→Jy,reverse_reverse→K0,length_cons→K2,all_eq_true→K4,getElem?_append_left→K5,cons_append→K9,getElem?_append→Kf,length_take→Kn,nodup_cons→Kr,take_succ_cons→Ky,mem_of_getElem?→Ld,flatMap_cons→Lg,getElem?_drop→Lh,map_append→Lp,contains_eq_mem→Lr,getElem?_take→H1,reverse_nil→Ha,reverse_cons→Hb,length_range→Hj,map_take→Gx,all_cons→Gy,range'→U0,map_nil→U2,length_nil→U5,map_map→Ud,find?_cons_of_neg→Uj,mem_iff_getElem?→Un,mem_cons_of_mem→Ut,getLast?_append→Uu,dropLast_concat→Uw,getElem?_set_self→Q7,find?_eq_none→Q8,mem_filter→Qs,cons→Qt,map_drop→Qw,getElem?_set→Qx,range_eq_range'→Ja0,getElem?_cons_succ→Ja6,getD→Jaf,range'_succ→Jao,map_set→Jap
open Bool renaming and_eq_true→J3,not_true→J7,not_false→Kc,and_self→L7,false_eq_true→H2,not_eq_true'→G4
open Nat renaming blt→J4,zero_add→J8,le_refl→Jf,zero_le→Kb,mul_le_mul_right→Kj,succ_mul→L5,add_assoc→Lx,le_trans→Hf,beq→G7,mul_one→Gd,sub_zero→Gw,ble→Ul,add_zero→Qm
open Array renaming getElem?_setIfInBounds→Jc,length_toList→Ka,getD_eq_getD_getElem?→Kd,getElem?_toList→Ki,getElem?_eq_some_iff→Hn,replicate→U7
open Option renaming map_eq_some_iff→Ke,some→Km,map_some→He,getD_some→G5,map_eq_none_iff→Uc,bind_eq_some_iff→Ug
open Prod renaming mk→Uq
open Option renaming some→iz,none→iA
open Bool renaming true→iB,false→iC
namespace Go.Ab
open Go
abbrev Rw:=List (Nat×Nat×T)
def rwI(rw:Rw)(s:Nat):Option Nat:=(rw.find? fun x=>x.2.1==s).map (·.1)
def rwS(rw:Rw)(i:Nat):Option Nat:=(rw.find? fun x=>x.1==i).map (·.2.1)
theorem zCU:(rw:Rw)→(rw.map (·.2.1)).Nodup→ ∀{i s:Nat}{u:T},(i,s,u)∈rw→rwI rw s=iz i
 | [],_,_,_,_,h=>by simp at h
 |(i0,s0,u0)::rw,hn,i,s,u,h=>by
  simp only[Jl,Kr,Jj]at hn;rcases Jp.1 h with h|h
  ·simp at h;obtain⟨rfl,rfl,rfl⟩:=h;simp[rwI]
  ·have gf:s0≠s:=fun e=>hn.1 ⟨_,h,e.symm⟩
   have:=zCU rw hn.2 h;simp only[rwI]at this ⊢
   rw[Uj (by simpa using gf)];exact this
theorem zLb:(rw:Rw)→(rw.map (·.1)).Nodup→ ∀{i s:Nat}{u:T},(i,s,u)∈rw→rwS rw i=iz s
 | [],_,_,_,_,h=>by simp at h
 |(i0,s0,u0)::rw,hn,i,s,u,h=>by
  simp only[Jl,Kr,Jj]at hn;rcases Jp.1 h with h|h
  ·simp at h;obtain⟨rfl,rfl,rfl⟩:=h;simp[rwS]
  ·have gf:i0≠i:=fun e=>hn.1 ⟨_,h,e.symm⟩
   have:=zLb rw hn.2 h;simp only[rwS]at this ⊢
   rw[Uj (by simpa using gf)];exact this
theorem zLc{rw:Rw}{s:Nat}(h:s∉rw.map (·.2.1)):rwI rw s=iA:=by simp only[rwI,Uc,Q8];intro x hx;simp only[beq_iff_eq];exact fun e=>h (Jj.2 ⟨x,hx,e⟩)
theorem zR2{rw:Rw}{i:Nat}(h:∀x∈rw,x.1≠i):rwS rw i=iA:=by simp only[rwS,Uc,Q8];intro x hx;simpa using h x hx
theorem zOE{rw:Rw}{s i:Nat}(h:rwI rw s=iz i):s∈rw.map (·.2.1):=by simp only[rwI,Ke]at h;obtain⟨x,hx,_⟩:=h;have h1:=List.mem_of_find?_eq_some hx;have h2:=List.find?_some hx;exact Jj.2 ⟨x,h1,by simpa using h2⟩
abbrev Nd:=List (Nat×List Nat×T)
def zR3(nd:Nd)(k s:Nat):Option (Nat×List Nat):=
 match nd with
 | []=>iA
 |x::r=>if x.1=s then iz (k,x.2.1)else zR3 r (k+1) s
def ndB(d:Nat)(nd:Nd)(s:Nat)(z:List Nat):Option (Nat×List Nat):=
 match nd with
 | [x]=>if x.1=s∧x.2.1<:+z then iz (d,z.take (z.length-x.2.1.length))else iA
 |nd=>match zR3 nd 0 s with
  |some (k,q)=>if q<:+z then iz (d,z.take (z.length-q.length)++[k])else iA
  |none=>iA
theorem zIV:(nd:Nd)→(nd.map (·.1)).Nodup→ ∀{k k0:Nat}{x:Nat×List Nat×T},nd[k]? =iz x→zR3 nd k0 x.1=iz (k0+k,x.2.1)
 | [],_,_,_,_,h=>by simp at h
 |y::nd,hn,k,k0,x,h=>by
  simp only[Jl,Kr,Jj]at hn;cases k with
  |zero=>simp at h;subst h;simp[zR3]
  |succ k=>
   simp only[Ja6]at h;have gf:y.1≠x.1:=fun e=>hn.1 ⟨x,Ld h,e.symm⟩
   simp only[zR3,gf,if_false];rw[zIV nd hn.2 h]
   congr 2;omega
def zR4(G:Gh)(nd:Nd)(z:List Nat):Value:=
 match nd with
 | [x]=>G.hd x.1 (z++x.2.1)
 |nd=>match z.getLast? with
  |some k=>(match nd[k]? with
   |some x=>G.hd x.1 (z.dropLast++x.2.1)
   |none=>.bool iC)
  |none=>.bool iC
def zVm(G:Gh)(nd:Nd)(z:List Nat):Addr:=
 match nd with
 | [x]=>G.ad x.1 (z++x.2.1)
 |nd=>match z.getLast? with
  |some k=>(match nd[k]? with
   |some x=>G.ad x.1 (z.dropLast++x.2.1)
   |none=>default)
  |none=>default
def Gh.arg(G:Gh)(a:Act)(xs:List Operand)(rw:Rw):Gh where
 hd i z:=match xs[i]? with
  |some (.tmp s)=>G.hd s z
  |some x=>kS (a.eval x)
  |none=>.bool iC
 ad i z:=match xs[i]? with
  |some (.tmp s)=>G.ad s z
  |_=>default
 lb b o:=match G.lb b o with
  |some (f,s,z)=>(match rwI rw s,G.ow b with
   |some i,iz (s',_)=>if s'=s then iz (f,i,z)else iA
   |_,_=>iA)
  |none=>iA
 ow b:=match G.ow b with
  |some (s,z)=>(match rwI rw s with
   |some i=>iz (i,z)
   |none=>iA)
  |none=>iA
def zBz(G:Gh)(rw:Rw)(b:Nat):Prop:=∃s z,G.ow b=iz (s,z)∧s∈rw.map (·.2.1)
def zDZ(d:Nat)(rw:Rw)(nd:Nd)(s:Nat)(z:List Nat):Option (Nat×List Nat):=
 match rwS rw s with
 |some s'=>iz (s',z)
 |none=>ndB d nd s z
open Classical in
noncomputable def Gh.back (G G':Gh) (n0 d:Nat) (rw:Rw) (nd:Nd):Gh where
 hd s z:=if s=d then zR4 G' nd z else match rwI rw s with
  |some i=>G'.hd i z
  |none=>G.hd s z
 ad s z:=if s=d then zVm G' nd z else match rwI rw s with
  |some i=>if z=[]then G.ad s z else G'.ad i z
  |none=>G.ad s z
 lb b o:=if zBz G rw b∨n0≤b then(match G'.lb b o with
  |some (f,s,z)=>(match zDZ d rw nd s z with
   |some (s',z')=>iz (f,s',z')
   |none=>iA)
  |none=>iA)else G.lb b o
 ow b:=if zBz G rw b∨n0≤b then(match G'.ow b with
  |some (s,z)=>zDZ d rw nd s z
  |none=>iA)else G.ow b
def zDR(res:List T):T:=match res with
 | [u]=>u
 |us=>.tup us
def cWr(d:Nat)(res:List T)(rw:Rw):Wr:=(d,iz (zDR res))::rw.map fun x=>(x.2.1,iz x.2.2)
def cLv(t:T):Nat:=if t.single then 1 else 0
def vK(d:Nat)(rw:Rw):Chg:=(d,0)::rw.map fun x=>(x.2.1,cLv x.2.2)
theorem zHt{d:Nat}{rw:Rw}{x:Nat×Nat×T}(h:x∈rw):(x.2.1,cLv x.2.2)∈vK d rw:=Ut _ (Jj.2 ⟨x,h,rfl⟩)
theorem zOF{Gn G':Gh}{d:Nat}:(nd:Nd)→ ∀(j:Nat),(∀k x,nd[k]? =iz x→ ∀z,Gn.hd d (z++[j+k])=G'.hd x.1 (z++x.2.1))→zAx Gn d (nd.map (·.2.2)) [] j=nd.map fun x=>sK G' x.1 x.2.2 x.2.1
 | [],_,_=>by simp[zAx]
 |x::nd,j,h=>by
  have ih:=zOF (Gn:=Gn) (G':=G') (d:=d) nd (j+1) (fun k y hy z=>by rw[show j+1+k=j+(k+1)from by omega];exact h (k+1) y (by simpa using hy) z)
  simp only[Jl,zAx,ih];rw[zCn x.2.2 x.2.1 [j] (by simpa using h 0 x (by simp))]
theorem zR5{d:Nat}{res:List T}{rw:Rw}{s:Nat}{x:Option T}(h:(cWr d res rw).find s=iz x):(s=d∧x=iz (zDR res))∨(s≠d∧ ∃i u,(i,s,u)∈rw∧x=iz u):=by
 simp only[cWr,Wr.find]at h;split at h
 ·rename_i he;simp at h;exact .inl ⟨he.symm,h.symm⟩
 ·rename_i gf
  refine .inr ⟨fun e=>gf e.symm,?_⟩
  clear gf
  induction rw with
  |nil=>simp[Wr.find]at h
  |cons y rw ih=>
   simp only[Jl,Wr.find]at h;split at h
   ·rename_i he;simp at h;subst he;exact⟨y.1,y.2.2,by simp,h.symm⟩
   ·obtain⟨i,u,h1,h2⟩:=ih h;exact⟨i,u,by simp[h1],h2⟩
theorem zR6{d:Nat}{res:List T}{rw:Rw}{s:Nat}(h:(cWr d res rw).find s=iA):s≠d∧s∉rw.map (·.2.1):=by
 simp only[cWr,Wr.find]at h;split at h
 ·cases h
 ·rename_i gf
  refine⟨fun e=>gf e.symm,?_⟩
  clear gf
  induction rw with
  |nil=>simp
  |cons y rw ih=>
   simp only[Jl,Wr.find]at h;split at h
   ·cases h
   ·rename_i he
    simp only[Jl,Jp,not_or];exact⟨fun e=>he e.symm,ih h⟩
def aft(S Sc S':Stb):Stb:=fun b=>match Sc b with
 |none=>S' b
 |some _=>S b
theorem Rep.up{Γ:Ctx}{E:Env}{G:Gh}{tmps tmps':Array Value}{w w':World}{G':Gh}{wr:Wr}{chg:Chg}{S:Stb}(h:Rep Γ E G tmps w)(hS:∀b x,Γ.St b=iz x→S b=iz x)
  (gQ:tmps'.size=tmps.size)(hk:jS chg G w G' w')(gu:Mem (Γ.at S) G' w')
  (gJ:∀s,wr.find s=iA→(∀n,(s,n)∉chg)∧tmps'[s]? =tmps[s]?)
  (ey:∀s t,wr.find s=iz (iz t)→Ent (Γ.at S) G' w' tmps'[s]? s t):Rep (Γ.at S) (E.app wr chg) G' tmps' w' where
 size:=by rw[gQ];exact h.size
 mem:=gu
 ent s t hs:=by
  unfold Env.app at hs;cases hf:wr.find s with
  |some x=>
   rw[hf]at hs;simp at hs;subst hs;exact ey s t hf
  |none=>
   rw[hf]at hs;simp at hs;cases he:E s with
   |none=>simp[he]at hs
   |some u=>
    simp[he]at hs;obtain⟨gB,rfl⟩:=hs;rw[(gJ s hf).2];obtain⟨e1,e2,e3⟩:=Ent.keep hk (gJ s hf).1 gB (h.ent s u he);exact⟨e1,zJY hS u [] e2,e3⟩
section
variable {P:Program}{Γ:Ctx}{E:Env}{d:Nat}
theorem zHu{G:Gh}{a:Act}{w:World}(gc:Rep Γ E G a.tmps w)(hd:d<Γ.N){Sc:Stb}{rw:Rw}(hS1:∀b x,Sc b=iz x→w.heap[b]? =iz x∧ ¬zBz G rw b)(hS0:∀b x,Γ.St b=iz x→Sc b=iz x){f:FuncId}{us res:List T}
  (hc:FnC P f us res (rw.map fun x=>(x.1,x.2.2))){xs:List Operand}(gm:xs.length=us.length)
  (gk:∀(i:Nat) u,us[i]? =iz u→(∃x,xs[i]? =iz x∧a.eval x=mkV (G.arg a xs rw) i u []∧R Sc (G.arg a xs rw) w i u []))
  (hn1:(d::rw.map (·.2.1)).Nodup)(tj:(rw.map (·.1)).Nodup)(eY:∀x∈rw,xs[x.1]? =iz (.tmp x.2.1))
  (gA:∀u∈res,zW u∧u.okTup=iB∧ ∀(S':Stb)(G:Gh)(w:World)(s:Nat)(p:List Nat),(∀b x,Sc b=iz x→S' b=iz x)→R S' G w s u p→R (aft Γ.St Sc S') G w s u p)
  (bQ:∀x∈rw,zW x.2.2∧(∀(S':Stb)(G:Gh)(w:World)(s:Nat)(p:List Nat),(∀b x,Sc b=iz x→S' b=iz x)→R S' G w s x.2.2 p→R (aft Γ.St Sc S') G w s x.2.2 p)∧ ∃u,E x.2.1=iz u∧x.2.2.single=u.single∧us[x.1]? =iz u):
  Calls P f (xs.map a.eval).toArray w fun e w'=> ∃v,e=.returned v∧ ∃S G',zDQ Γ.St S Γ.W Γ.w0.heap.size∧jS (vK d rw) G w G' w'∧Rep (Γ.at S) (E.app (cWr d res rw) (vK d rw)) G' (a.tmps.setIfInBounds d v) w':=by
 have hm:=gc.mem;have pz:=Kr.1 hn1;have hmc:Mem ⟨Sc,zBz G rw,w,0⟩ (G.arg a xs rw) w:=by
  have gN:∀b,zBz G rw b→Sc b=iA:=fun b h=>by
   cases hs:Sc b with
   |none=>rfl
   |some x=>exact absurd h (hS1 b x hs).2
  refine⟨fun i z=>?_,fun b o l hl=>?_,fun b l hl=>?_,fun b x hx=>(hS1 b x hx).1,fun b _ _=>rfl,Jf _,⟨fun b cs e h=>⟨cs,h,rfl⟩,rfl,rfl⟩⟩
  ·simp only[Gh.arg]
   split
   ·exact hm.one _ _
   ·exact zBN _
   ·rfl
  ·simp only[Gh.arg]at hl
   split at hl
   ·rename_i f' s z hg
    split at hl
    ·rename_i i s' y hi ho
     split at hl
     ·rename_i he;subst he
      have hL:zBz G rw b:=⟨s',y,ho,zOE hi⟩;exact⟨(hm.lb b o _ hg).1,.inr hL,gN b hL⟩
     ·cases hl
    ·cases hl
   ·cases hl
  ·simp only[Gh.arg]at hl
   split at hl
   ·rename_i s z hg
    split at hl
    ·rename_i i hi
     have hL:zBz G rw b:=⟨s,z,hg,zOE hi⟩;exact⟨(hm.ow b _ hg).1,.inr hL,gN b hL⟩
    ·cases hl
   ·cases hl
 have gv:=hc Sc (zBz G rw) w (G.arg a xs rw) (xs.map a.eval).toArray (by simp[gm]) (fun i u hu=>by obtain⟨x,h1,h2,h3⟩:=gk i u hu;exact⟨by simp[h1,h2],h3⟩) hmc
 refine gv.mono ?_
 rintro e w' ⟨S',G',nd,gX,rfl,gF,fQ,fw,po,bP⟩
 have fb:∀b x,Γ.St b=iz x→aft Γ.St Sc S' b=iz x:=fun b x hx=>by simp only[aft,hS0 b x hx,hx]
 have ab:zDQ Γ.St (aft Γ.St Sc S') Γ.W Γ.w0.heap.size:=⟨fb,fun b hb eG=>by
  simp only[aft]at eG;split at eG
  ·rename_i hs
   rcases gX.nw b hs eG with h|⟨s,z,h,_⟩
   ·exact .inl (by have:=hm.sz;omega)
   ·exact(hm.ow b _ h).2.1
  ·exact absurd hb eG⟩
 refine⟨_,rfl,aft Γ.St Sc S',G.back G' w.heap.size d rw nd,ab,?_⟩;have mD:∀b,b<w.heap.size→ ¬zBz G rw b→w'.heap[b]? =w.heap[b]?:=gF.fr;have gC:w.heap.size≤w'.heap.size:=gF.sz;have gO:Blk w w':=gF.bk.blk
 generalize hGn:G.back G' w.heap.size d rw nd=Gn
 have ghdd:∀z,Gn.hd d z=zR4 G' nd z:=fun z=>by rw[←hGn];simp[Gh.back]
 have gadd:∀z,Gn.ad d z=zVm G' nd z:=fun z=>by rw[←hGn];simp[Gh.back]
 have ghd0:∀s z,s≠d→s∉rw.map (·.2.1)→Gn.hd s z=G.hd s z:=fun s z h1 h2=>by rw[←hGn];simp[Gh.back,h1,zLc h2]
 have gad0:∀s z,s≠d→s∉rw.map (·.2.1)→Gn.ad s z=G.ad s z:=fun s z h1 h2=>by rw[←hGn];simp[Gh.back,h1,zLc h2]
 have eM:∀i s u,(i,s,u)∈rw→s≠d:=fun i s u h e=>pz.1 (e▸Jj.2 ⟨_,h,rfl⟩)
 have ghdr:∀i s u z,(i,s,u)∈rw→Gn.hd s z=G'.hd i z:=fun i s u z h=>by rw[←hGn];simp[Gh.back,eM i s u h,zCU rw pz.2 h]
 have gadr:∀i s u z,(i,s,u)∈rw→z≠[]→Gn.ad s z=G'.ad i z:=fun i s u z h h0=>by rw[←hGn];simp[Gh.back,eM i s u h,zCU rw pz.2 h,h0]
 have gadr0:∀i s u,(i,s,u)∈rw→Gn.ad s []=G.ad s []:=fun i s u h=>by rw[←hGn];simp[Gh.back,eM i s u h,zCU rw pz.2 h]
 have glb0:∀b o l,¬zBz G rw b→G.lb b o=iz l→Gn.lb b o=iz l:=fun b o l h1 h2=>by have:=(hm.lb b o _ h2).1;rw[←hGn];simp only[Gh.back];rw[if_neg (by rintro(h|h);exact h1 h;omega)];exact h2
 have gow0:∀b l,¬zBz G rw b→G.ow b=iz l→Gn.ow b=iz l:=fun b l h1 h2=>by have:=(hm.ow b _ h2).1;rw[←hGn];simp only[Gh.back];rw[if_neg (by rintro(h|h);exact h1 h;omega)];exact h2
 have gU:∀b o l,G'.lb b o=iz l→zBz G rw b∨w.heap.size≤b:=fun b o l h=>(gF.lb b o l h).2.1.symm
 have mB:∀b l,G'.ow b=iz l→zBz G rw b∨w.heap.size≤b:=fun b l h=>(gF.ow b l h).2.1.symm
 have glb1:∀b o fl s z s' z',G'.lb b o=iz (fl,s,z)→zDZ d rw nd s z=iz (s',z')→Gn.lb b o=iz (fl,s',z'):=fun b o fl s z s' z' h1 h2=>by rw[←hGn];simp only[Gh.back];rw[if_pos (gU b o _ h1),h1];simp[h2]
 have gow1:∀b s z l,G'.ow b=iz (s,z)→zDZ d rw nd s z=iz l→Gn.ow b=iz l:=fun b s z l h1 h2=>by rw[←hGn];simp only[Gh.back];rw[if_pos (mB b _ h1),h1];simp[h2]
 have aR:∀i s u z,(i,s,u)∈rw→zDZ d rw nd i z=iz (s,z):=fun i s u z h=>by simp[zDZ,zLb rw tj h]
 have gH:∀x∈rw,x.1<us.length:=fun x hx=>by have:=(Je.1 (eY x hx)).1;omega
 have hbn:∀x∈nd,∀z,zDZ d rw nd x.1 z=ndB d nd x.1 z:=fun x hx z=>by have h1:=(fw x hx).2;have h2:rwS rw x.1=iA:=zR2 (fun y hy e=>by have:=gH y hy;omega);simp[zDZ,h2]
 have mh:∀(k:Nat) x,nd[k]? =iz x→ ∃tgt,(nd.length=1→tgt=[])∧(nd.length≠1→tgt=[k])∧(∀z,Gn.hd d (z++tgt)=G'.hd x.1 (z++x.2.1))∧(∀z,Gn.ad d (z++tgt)=G'.ad x.1 (z++x.2.1))∧ ∀z,zDZ d rw nd x.1 (z++x.2.1)=iz (d,z++tgt):=by
  intro k x hk;have mT:=Ld hk
  match nd,hk,po,hbn x mT,ghdd,gadd with
  | [y],hk,po,hb,ghdd,gadd=>
   have hkx:y=x:=by
    cases k with
    |zero=>simpa using hk
    |succ k=>simp at hk
   subst hkx;exact⟨[],fun _=>rfl,fun h=>absurd rfl h,fun z=>by rw[ghdd];simp[zR4],fun z=>by rw[gadd];simp[zVm],fun z=>by rw[hb];simp[ndB]⟩
  | [],hk,_,_,_,_=>simp at hk
  |y1::y2::r,hk,po,hb,ghdd,gadd=>
   refine⟨[k],fun h=>by simp at h,fun _=>rfl,fun z=>by rw[ghdd];simp only[zR4,Uu,Uw];simp[hk],fun z=>by rw[gadd];simp only[zVm,Uu,Uw];simp[hk],fun z=>?_⟩;rw[hb];have:=zIV (y1::y2::r) po (k0:=0) hk;rw[J8]at this;simp only[ndB,this];simp
 have pP:∀(k:Nat) x,nd[k]? =iz x→ ∀tgt,(∀z,Gn.hd d (z++tgt)=G'.hd x.1 (z++x.2.1))→(∀z,Gn.ad d (z++tgt)=G'.ad x.1 (z++x.2.1))→(∀z,zDZ d rw nd x.1 (z++x.2.1)=iz (d,z++tgt))→R (aft Γ.St Sc S') Gn w' d x.2.2 tgt:=by intro k x hk tgt h1 h2 h3;have mT:=Ld hk;obtain⟨c1,c2,c3⟩:=gA x.2.2 (by rw[←fQ];exact Jj.2 ⟨x,mT,rfl⟩);refine zAQ (G:=G') (w:=w') (s:=x.1) (p:=x.2.1) ⟨⟨h1,fun z _=>h2 z,fun b o f' z _ _ hl=>⟨glb1 b o f' _ _ _ _ hl (h3 z),rfl⟩,fun b z _ hl=>gow1 b _ _ _ hl (h3 z),fun b cs e h=>⟨cs,h,rfl⟩⟩,fun b o _ hl=>⟨glb1 b o iB _ _ _ _ hl (by simpa using h3 []),rfl⟩,fun b hl=>gow1 b _ _ _ hl (by simpa using h3 [])⟩ _ (yN.mono (fun _ _=>False.elim) _ c1) (c3 _ _ _ _ _ gX.le (fw x mT).1)
 have gx:jS (vK d rw) G w Gn w':=by
  have gG:∀s,(∀n,(s,n)∉vK d rw)→s≠d∧s∉rw.map (·.2.1):=fun s h=>⟨fun e=>h 0 (by simp[vK,e]),fun hm=>by obtain⟨x,hx,rfl⟩:=Jj.1 hm;exact h _ (zHt hx)⟩
  have cJ:∀b s y,G.ow b=iz (s,y)→s∉rw.map (·.2.1)→ ¬zBz G rw b:=by
   rintro b s y h1 h2 ⟨s',z',h3,h4⟩
   rw[h1]at h3;simp at h3;exact h2 (h3.1▸h4)
  refine⟨fun s p h=>?_,fun s p h=>?_,fun b o fl s p hH h1 h2=>?_,fun b s p h1 h2=>?_,gO⟩
  ·have h1:s≠d:=fun e=>absurd (h 0 (by simp[vK,e])) (by simp)
   by_cases h2:s∈rw.map (·.2.1)
   ·
    obtain⟨x,hx,rfl⟩:=Jj.1 h2;have hc:=h _ (zHt hx);have c2:x.2.2.single=iB:=by
     cases fm:x.2.2.single with
     |true=>rfl
     |false=>simp[cLv,fm]at hc
    have h3:p=[]:=Jy (by simp only[cLv,c2,if_true]at hc;omega);subst h3;obtain⟨_,_,u,c4,c5,c6⟩:=bQ x hx;rw[c2]at c5;have c5:=c5.symm;obtain⟨_,u0,e1,e2⟩:=bP x.1 x.2.2 (Jj.2 ⟨x,hx,rfl⟩);rw[c6]at e1;simp at e1;subst e1;rw[xJ c2,xJ c5]at e2;rw[ghdr x.1 x.2.1 x.2.2 [] hx,e2];simp[Gh.arg,eY x hx]
   ·exact ghd0 s p h1 h2
  ·have h1:s≠d:=fun e=>absurd (h 0 (by simp[vK,e])) (by simp)
   by_cases h2:s∈rw.map (·.2.1)
   ·obtain⟨x,hx,rfl⟩:=Jj.1 h2
    have hc:=h _ (zHt hx);have h3:p=[]:=Jy (by have:cLv x.2.2≤1:=(by unfold cLv;split<;>omega);omega);subst h3;exact gadr0 x.1 x.2.1 x.2.2 hx
   ·exact gad0 s p h1 h2
  ·obtain⟨h3,h4⟩:=gG s h2
   obtain⟨y,hy⟩:=hH;have h5:=cJ b s y hy h4;exact⟨glb0 b o _ h5 h1,by simp[yJ,World.cell?,mD b (hm.lb b o _ h1).1 h5]⟩
  ·obtain⟨h3,h4⟩:=gG s h2
   exact gow0 b _ (cJ b s p h1 h4) h1
 have gu:Mem (Γ.at (aft Γ.St Sc S')) Gn w':=by
  have gB:∀b,b<w'.heap.size∧(w.heap.size≤b∨zBz G rw b)∧S' b=iA→zCL (Γ.at (aft Γ.St Sc S')) w' b:=fun b ⟨hb,h,gS⟩=>by
   have mZ:Sc b=iA:=by
    cases hs:Sc b with
    |none=>rfl
    |some x=>rw[gX.le b x hs]at gS;cases gS
   refine⟨hb,?_,by simp only[aft,mZ];exact gS⟩;rcases h with h|⟨s,z,h1,_⟩
   ·exact .inl (by have:=hm.sz;show Γ.w0.heap.size≤b;omega)
   ·exact(hm.ow b _ h1).2.1
  have gJ:∀b,¬(zBz G rw b∨w.heap.size≤b)→zCL Γ w b→zCL (Γ.at (aft Γ.St Sc S')) w' b:=fun b h ⟨h1,h2,h3⟩=>by
   refine⟨by omega,h2,?_⟩;simp only[aft];split
   ·rename_i hs
    cases gS:S' b with
    |none=>rfl
    |some x=>
     rcases gX.nw b hs (by rw[gS];simp)with h4|h4
     ·exact absurd (.inr h4) h
     ·exact absurd (.inl h4) h
   ·exact h3
  refine⟨fun s z=>?_,fun b o l hl=>?_,fun b l hl=>?_,fun b x hx=>?_,fun b(h1:b<Γ.w0.heap.size) h2=>?_,Hf hm.sz gC,hm.bk.trans gO gF.bk.os gF.bk.out⟩
  ·by_cases h1:s=d
   ·subst h1
    rw[ghdd];unfold zR4;split
    ·exact gF.one _ _
    ·split
     ·split
      ·exact gF.one _ _
      ·rfl
     ·rfl
   ·by_cases h2:s∈rw.map (·.2.1)
    ·obtain⟨x,hx,rfl⟩:=Jj.1 h2
     rw[ghdr x.1 x.2.1 x.2.2 z hx];exact gF.one _ _
    ·rw[ghd0 s z h1 h2];exact hm.one _ _
  ·rw[←hGn]at hl
   simp only[Gh.back]at hl;split at hl
   ·rename_i pD
    split at hl
    ·rename_i hg
     exact gB b (gF.lb b o _ hg)
    ·cases hl
   ·rename_i pD
    exact gJ b pD (hm.lb b o l hl)
  ·rw[←hGn]at hl
   simp only[Gh.back]at hl;split at hl
   ·rename_i pD
    split at hl
    ·rename_i hg
     exact gB b (gF.ow b _ hg)
    ·cases hl
   ·rename_i pD
    exact gJ b pD (hm.ow b l hl)
  ·simp only[aft]at hx
   split at hx
   ·exact gF.st b x hx
   have h1:=hm.st b x hx;have h2:=(Hn.1 h1).1;have h3:¬zBz G rw b:=by
    rintro⟨s,z,h4,_⟩
    rw[(hm.ow b _ h4).2.2]at hx;cases hx
   rw[mD b h2 h3];exact h1
  ·have h3:¬zBz G rw b:=by
    rintro⟨s,z,h4,_⟩
    rcases(hm.ow b _ h4).2.1 with h5|h5
    ·omega
    ·exact h2 h5
   rw[mD b (by have:=hm.sz;omega) h3];exact hm.fr b h1 h2
 have dZ:nd.length=res.length:=by rw[←fQ];simp
 refine⟨gx,gc.up fb (by simp) gx gu ?_ ?_⟩
 ·intro s hs
  obtain⟨h1,h2⟩:=zR6 hs;refine⟨fun n hn=>?_,by rw[Jc];simp[Ne.symm h1]⟩;simp only[vK,Jp,Uq.injEq,Jj]at hn;rcases hn with⟨e,_⟩|⟨x,hx,e,_⟩
  ·exact h1 e
  ·exact h2 (Jj.2 ⟨x,hx,e⟩)
 ·intro s t hs
  rcases zR5 hs with⟨rfl,ht⟩|⟨gf,i,u,fV,ht⟩
  ·simp at ht
   subst ht;rw[Jc];simp only[gc.size,hd,if_true];have cB:res=nd.map (·.2.2):=fQ.symm
   by_cases hl:nd.length=1
   ·obtain⟨x,hx⟩:∃x,nd=[x]:=List.length_eq_one_iff.1 hl
    obtain⟨tgt,t1,_,t3,t4,t5⟩:=mh 0 x (by simp[hx]);obtain rfl:=t1 hl;have hr:=pP 0 x (by simp[hx]) [] t3 t4 t5;obtain⟨c1,c2,_⟩:=gA x.2.2 (by rw[cB,hx];simp);have eU:zDR res=x.2.2:=by rw[cB,hx];rfl
    have ee:∀ys,x.2.2≠.tup ys:=fun ys e=>by rw[e]at c2;simp[T.okTup]at c2
    rw[eU];refine⟨?_,hr,Top.of_clean _ c1⟩;rw[zAy Gn s _ [] ee,zCn x.2.2 x.2.1 [] t3,hx];rfl
   ·have eU:zDR res=.tup res:=by
     rw[dZ]at hl
     match res,hl with
     | [],_=>rfl
     | [u],hl=>simp at hl
     |_::_::_,_=>rfl
    rw[eU];have gL:∀k x,nd[k]? =iz x→ ∀z,Gn.hd s (z++[0+k])=G'.hd x.1 (z++x.2.1):=fun k x hk z=>by obtain⟨tgt,_,t2,t3,_,_⟩:=mh k x hk;rw[t2 hl]at t3;rw[J8];exact t3 z
    refine⟨?_,?_,?_⟩
    ·have hv:=zOF (Gn:=Gn) (G':=G') (d:=s) nd 0 gL
     rw[fQ]at hv;simp only[mkV,hv];unfold zKX;split
     ·simp at hl
     ·rfl
    ·simp only[R]
     rw[cB];refine zO4 _ [] 0 (fun k u hu=>?_);rw[Jn]at hu;cases hk:nd[k]? with
     |none=>simp[hk]at hu
     |some x=>
      simp[hk]at hu;subst hu;obtain⟨tgt,_,t2,t3,t4,t5⟩:=mh k x hk;rw[t2 hl]at t3 t4 t5;rw[J8];exact pP k x hk [k] t3 t4 t5
    ·simp only[Top]
     refine uI.of_clean _ ?_;have:∀us:List T,(∀u∈us,zW u)→yU us:=by
      intro us
      induction us with
      |nil=>intro _;trivial
      |cons u us ih=>intro h;exact⟨h u (by simp),ih fun v hv=>h v (by simp[hv])⟩
     exact this res fun u hu=>(gA u hu).1
  ·simp at ht
   subst ht;obtain⟨c1,c3,u0,c4,_,c6⟩:=bQ _ fV;obtain⟨r1,u1,e1,e2⟩:=bP i t (Jj.2 ⟨_,fV,rfl⟩);simp only at c4 c6;rw[c6]at e1;simp at e1;subst e1;refine⟨?_,?_,Top.of_clean _ c1⟩
   ·rw[Jc]
    simp only[Ne.symm gf,if_false];have aB:=eY _ fV;simp only at aB;have m1:mkV Gn s t []=mkV G' i t []:=zFz t [] [] (fun z=>by rw[J9];exact ghdr i s t z fV);have m2:mkV (G.arg a xs rw) i u0 []=mkV G s u0 []:=zFz u0 [] [] (fun z=>by simp[Gh.arg,aB]);rw[(gc.ent s u0 c4).1,m1,e2,m2]
   ·refine zAQ (G:=G') (w:=w') (s:=i) (p:=[]) ⟨⟨fun z=>by rw[J9];exact ghdr i s t z fV,fun z hz=>by rw[J9];exact gadr i s t z fV hz,fun b o f' z _ _ hl=>?_,fun b z _ hl=>?_,fun b cs e h=>⟨cs,h,rfl⟩⟩,fun b o _ hl=>⟨glb1 b o iB _ _ _ _ hl (aR i s t [] fV),rfl⟩,fun b hl=>gow1 b _ _ _ hl (aR i s t [] fV)⟩ t (yN.mono (fun _ _=>False.elim) _ c1) (c3 _ _ _ _ _ gX.le r1)
    ·rw[J9]at hl ⊢;exact⟨glb1 b o f' _ _ _ _ hl (aR i s t z fV),rfl⟩
    ·rw[J9]at hl ⊢;exact gow1 b _ _ _ hl (aR i s t z fV)
end
end Go.Ab

namespace Go.Ab
open Go
def zIW(E:Env)(rs:List Nat)(x:Operand)(t:T):Bool:=
 match x with
 |.tmp s=>sX E rs s t
 |_=>iB
def zCC(E:Env)(rw:Rw)(i:Nat)(x:Operand)(u:T):Prop:=
 (∃s u',x=.tmp s∧(i,s,u')∈rw∧E s=iz u∧zW u∧u.okTup=iB∧wY u=iB)∨(∃t,opT E x=iz t∧clo E t=u∧zIW E (rw.map (·.2.1)) x t=iB)
def xS(E:Env)(rw:Rw):Nat→List Operand→List T→Prop
 |_,[],[]=>True
 |i,x::xs,u::us=>zCC E rw i x u∧xS E rw (i+1) xs us
 |_,_,_=>False
theorem xS.length{E:Env}{rw:Rw}:(xs:List Operand)→(us:List T)→ ∀i,xS E rw i xs us→xs.length=us.length
 | [],[],_,_=>rfl
 |_::xs,_::us,i,h=>by simp[xS.length xs us (i+1) h.2]
 | [],_::_,_,h=>by simp[xS]at h
 |_::_,[],_,h=>by simp[xS]at h
theorem xS.get{E:Env}{rw:Rw}:(xs:List Operand)→(us:List T)→ ∀i,xS E rw i xs us→ ∀(j:Nat) u,us[j]? =iz u→ ∃x,xs[j]? =iz x∧zCC E rw (i+j) x u
 | [],[],_,_,_,_,h=>by simp at h
 |x::xs,v::us,i,h,j,u,hj=>by
  cases j with
  |zero=>simp at hj;subst hj;exact⟨x,by simp,h.1⟩
  |succ j=>
   obtain⟨y,h1,h2⟩:=xS.get xs us (i+1) h.2 j u (by simpa using hj);exact⟨y,by simpa using h1,by rwa [show i+(j+1)=i+1+j from by omega]⟩
 | [],_::_,_,h,_,_,_=>by simp[xS]at h
 |_::_,[],_,h,_,_,_=>by grind
structure zLd (E:Env) (d:Nat) (xs:List Operand) (us:List T) (rw:Rw):Prop where
 nodup:(d::rw.map (·.2.1)).Nodup
 nodup2:(rw.map (·.1)).Nodup
 at_:∀x∈rw,xs[x.1]? =iz (.tmp x.2.1)
 tree:∀x∈rw,zW x.2.2∧wY x.2.2=iB∧ ∃u,E x.2.1=iz u∧x.2.2.single=u.single∧us[x.1]? =iz u
theorem zLd.nil{E:Env}{d:Nat}{xs:List Operand}{us:List T}:zLd E d xs us []:=⟨by simp,by simp,by simp,by simp⟩
theorem zLd.one{E:Env}{d i s:Nat}{u u':T}{xs:List Operand}{us:List T}(h1:d≠s)(h2:xs[i]? =iz (.tmp s))(h3:zW u')(h4:u'.single=iB)(h5:wY u'=iB)(h6:E s=iz u)(h7:u.single=iB)(h8:us[i]? =iz u):
  zLd E d xs us [(i,s,u')]:=⟨by grind,by simp,by grind,by grind⟩
section
variable {P:Program}{Γ:Ctx}{E:Env}{o:Oper}{d:Nat}
theorem zVn{G:Gh}{a:Act}{w:World}(gc:Rep Γ E G a.tmps w){rw:Rw}{xs:List Operand}{us:List T}(hr:zLd E d xs us rw){Sc:Stb}(ek:∀b x,Γ.St b=iz x→Sc b=iz x)
  (ep:∀r,r∉rw.map (·.2.1)→ ∀b,(∃y,G.ow b=iz (r,y))→Sc b=w.heap[b]?){i:Nat}{x:Operand}{u:T}(hx:xs[i]? =iz x)(hu:us[i]? =iz u)(h:zCC E rw i x u):
  a.eval x=mkV (G.arg a xs rw) i u []∧R Sc (G.arg a xs rw) w i u []:=by
 rcases h with⟨s,u',rfl,h1,h2,h3,h4,h5⟩|⟨t,h1,rfl,h3⟩
 ·obtain⟨e1,e2,_⟩:=gc.ent s u h2
  have gL:∀z,(G.arg a xs rw).hd i z=G.hd s z:=by grind[Gh.arg]
  have eW:∀z,(G.arg a xs rw).ad i z=G.ad s z:=by grind[Gh.arg]
  have hi:=zCU rw (Kr.1 hr.nodup).2 h1;refine⟨by grind[xP,zFz],?_⟩;refine zPW u [] h5 (zAQ (St:=Γ.St) (G:=G) (w:=w) (s:=s) (p:=[]) ⟨⟨by grind,by grind,fun b o' f' z _ hH hl=>?_,fun b z _ hl=>?_,fun b cs e h=>⟨cs,h,rfl⟩⟩,fun b o' hH hl=>?_,fun b hl=>?_⟩ u (by grind[yN.mono]) e2)
  ·obtain⟨y,hy⟩:=hH
   exact⟨by grind[Gh.arg],rfl⟩
  ·grind[Gh.arg]
  ·obtain⟨y,hy⟩:=hH
   exact⟨by grind[Gh.arg],rfl⟩
  grind[Gh.arg]
 ·cases x with
  |tmp s=>
   have gL:∀z,(G.arg a xs rw).hd i z=G.hd s z:=by grind[Gh.arg]
   obtain⟨e1,e2,_⟩:=gc.ent s t h1
   grind[zIW,xP,zJZ,zX6]
  |const v=>
   simp only[opT]at h1;split at h1
   ·rename_i gn
    simp at h1;subst h1;have gL:(G.arg a xs rw).hd i []=v:=by grind[Gh.arg,Act.eval,zAS]
    exact⟨by grind[clo,mkV,Act.eval],by simp[clo,R,gL]⟩
   ·cases h1
  |func f=>
   simp only[opT]at h1;simp at h1;subst h1;have gL:(G.arg a xs rw).hd i []=.func (.func f) #[] #[]:=by grind[Gh.arg,Act.eval,kS,Value.oneCell']
   exact⟨by grind[clo,mkV,Act.eval],by simp[clo,R,gL]⟩
  |global g=>grind[opT]
theorem zD7{E:Env}:(t:T)→t.flat=iB→(∀rs s,sX E rs s t=iB)∧clo E t=t
 |.lit _,_|.ro _,_=>by simp[sX,clo]
 |.agg ts,h=>by
  simp only[T.flat]at h;have:=go ts h
  grind[sX,clo]
 |.any,h|.same _ _,h|.addr _ _,h|.sub _ _ _ _ _,h|.sl _ _,h|.ptr _,h|.tup _,h=>by grind[T.flat]
where go:(ts:List T)→zAN ts=iB→(∀rs s,zBj E rs s ts=iB)∧zBU E ts=ts
 | [],_=>by simp[zBj,zBU]
 |x::xs,h=>by simp only[zAN,J3]at h;simp only[zBj,zBU,J3];exact⟨fun rs s=>⟨(zD7 x h.1).1 rs s,(go xs h.2).1 rs s⟩,by rw[(zD7 x h.1).2,(go xs h.2).2]⟩
theorem zEN{a:Act}{w:World}{K:Act→World→Prop}{Q:Exit→Act→World→Prop}{f:FuncId}{xf:Operand}{xs:List Operand}{ats:Array TypeId}(ho:o.op=.call { callee:=.value xf,args:=xs.toArray,argTypes:=ats })(gj:o.dst=iz d)
  (gv:∀args w,(callFunc f args).run P w=.ok (.enter f args) w)(hf:a.eval xf=.func (.func f) #[] #[])
  (h:Calls P f (xs.map a.eval).toArray w fun e w'=> ∃v,e=.returned v∧K (a.put (iz d) v) w'):o.wp P a w K Q:=by
 have gz:(execOp a.eval o).run P w=.ok (.enter f (xs.map a.eval).toArray) w:=by simp[execOp,ho,resolve,hf,Deferred.ofValue,invoke,gv]
 unfold Oper.wp;rw[gz,Oper.upon_enter];refine h.mono ?_
 grind
theorem zLe{G:Gh}{a:Act}{w:World}(gc:Rep Γ E G a.tmps w)(hd:d<Γ.N)(f:FuncId)(xs:List Operand)(us res:List T)(rw:Rw)
  (hc:FnC P f us res (rw.map fun x=>(x.1,x.2.2)))(gk:xS E rw 0 xs us)(hr:zLd E d xs us rw)(gA:yU res∧yK res=iB∧uG res=iB):
  Calls P f (xs.map a.eval).toArray w fun e w'=> ∃v,e=.returned v∧ ∃S G',zDQ Γ.St S Γ.W Γ.w0.heap.size∧jS (vK d rw) G w G' w'∧Rep (Γ.at S) (E.app (cWr d res rw) (vK d rw)) G' (a.tmps.setIfInBounds d v) w':=by
 classical
 have hm:=gc.mem
 let Sc:Stb:=fun b=>if zBz G rw b then iA else w.heap[b]?
 have ek:∀b x,Γ.St b=iz x→Sc b=iz x:=fun b x hx=>by
  have h3:¬zBz G rw b:=by
   rintro⟨s,z,h4,_⟩
   rw[(hm.ow b _ h4).2.2]at hx;cases hx
  simp only[Sc,h3,if_false];exact hm.st b x hx
 have ep:∀r,r∉rw.map (·.2.1)→ ∀b,(∃y,G.ow b=iz (r,y))→Sc b=w.heap[b]?:=fun r hr' b ⟨y,hy⟩=>by
  have h3:¬zBz G rw b:=by
   rintro⟨s,z,h4,h5⟩
   grind
  grind
 have pu:∀(us:List T),yU us∧yK us=iB∧uG us=iB→ ∀u∈us,zW u∧u.okTup=iB∧wY u=iB:=by
  intro us
  induction us with
  |nil=>simp
  |cons v us ih=>
   intro⟨h1,h2,h3⟩ u hu;simp only[yK,uG,J3]at h2 h3;rcases Jp.1 hu with rfl|hu
   ·exact⟨h1.1,h2.1,h3.1⟩
   ·exact ih ⟨h1.2,h2.2,h3.2⟩ u hu
 exact zHu gc hd (Sc:=Sc) (rw:=rw) (by grind) ek hc (xS.length xs us 0 gk) (fun i u hu=>by
   obtain⟨x,h1,h2⟩:=xS.get xs us 0 gk i u hu;rw[J8]at h2
   grind[zVn]) hr.nodup hr.nodup2 hr.at_
  (by grind[zPW])
  (fun x hx=>by
   obtain⟨h1,h3,h4⟩:=hr.tree x hx
   grind[zPW])
theorem zOG(f:FuncId)(xf:Operand)(xs:List Operand)(ats:Array TypeId)(us res:List T)(rw:Rw)(ho:o.op=.call { callee:=.value xf,args:=xs.toArray,argTypes:=ats })(gj:o.dst=iz d)(hd:d<Γ.N)
  (gv:∀args w,(callFunc f args).run P w=.ok (.enter f args) w)(hf:opT E xf=iz (.lit (.func (.func f) #[] #[])))
  (hc:FnC P f us res (rw.map fun x=>(x.1,x.2.2)))(gk:xS E rw 0 xs us)(hr:zLd E d xs us rw)(gA:yU res∧yK res=iB∧uG res=iB):
  xW P Γ o E (E.app (cWr d res rw) (vK d rw)):=by
 intro a w K Q ⟨gZ,G,gc⟩ hK;refine zEN ho gj gv (yT gc hf).1 ?_;refine(zLe gc hd f xs us res rw hc gk hr gA).mono ?_
 rintro e w' ⟨v,rfl,S,G',hS,_,gp⟩
 exact⟨v,rfl,hK _ _ ⟨S,hS,gZ,G',gp⟩⟩
theorem zLf(f:FuncId)(xf:Operand)(xs:List Operand)(ats:Array TypeId)(us res:List T)(i ds r:Nat)(q:List Nat)(tr u u':T)(ho:o.op=.call { callee:=.value xf,args:=xs.toArray,argTypes:=ats })(gj:o.dst=iz d)(hd:d<Γ.N)
  (gv:∀args w,(callFunc f args).run P w=.ok (.enter f args) w)(hf:opT E xf=iz (.lit (.func (.func f) #[] #[])))
  (hs:E ds=iz (.same r q))(hr:E r=iz tr)(hq:tr.get q.reverse=iz u)(hu:u.single=iB)(eZ:zW u)(gY:ds≠r)(hdr2:d≠r)(gB:tr.okB [(ds,1),(r,q.length+1)]=iB)(fm:wC tr=iB)
  (E1 E2:Env)(mN:E1=E.app [(ds,iz u),(r,iz (if q=[]then .same ds []else tr.set q.reverse .any))] [(ds,1),(r,q.length+1)])(hE2:E2=E1.app (cWr d res [(i,ds,u')]) (vK d [(i,ds,u')]))
  (hc:FnC P f us res [(i,u')])(gk:xS E1 [(i,ds,u')] 0 xs us)(fV:zLd E1 d xs us [(i,ds,u')])(gA:yU res∧yK res=iB∧uG res=iB)
  (tr2 v0:T)(gE:E2 r=iz tr2)(dH:tr2.get q.reverse=iz v0)(bH:v0.single=iB)(pf:E2 ds=iz u')(eP:zW u')(mX:u'.single=iB)(pk:tr2.okB [(r,q.length+1),(ds,1)]=iB)(hc3:wC tr2=iB)(hok3:u'.okB [(r,q.length+1),(ds,1)]=iB)(hc4:wC u'=iB):
  xW P Γ o E (E2.app [(r,iz (tr2.set q.reverse u')),(ds,iz (.same r q))] [(r,q.length+1),(ds,1)]):=by
 have mu:cLv u'=1:=by grind[cLv]
 intro a w K Q ⟨gZ,G,gc⟩ hK;refine zEN ho gj gv (yT gc hf).1 ?_;have eg:G.hd ds []=G.hd r q:=by have:=(gc.ent ds _ hs).2.1;simpa only[R]using this
 obtain⟨fP,ui⟩:=zHl gc ds [] r q (.same r q) tr u (.same r q) hs rfl rfl eg hr hq hu eZ gY (by grind[T.okB,zAM]) (by omega) rfl fm;have iy:E.app [(ds,iz ((T.same r q).set [].reverse u)),(r,iz (if q=[]then .same ds []else tr.set q.reverse .any))] [(ds,([]:List Nat).length+1),(r,q.length+1)]=E1:=by rw[mN];rfl
 rw[iy]at fP;refine(zLe fP hd f xs us res [(i,ds,u')] hc gk fV gA).mono ?_
 rintro e w' ⟨v,rfl,S,G',hS,hk,gp⟩
 rw[←hE2]at gp;have hdds:d≠ds:=by have:=fV.nodup;grind
 have h1:G'.hd r q=(G.tr ds [] r q).hd r q:=hk.hd r q (fun n hn=>by grind[vK]);have h2:G'.hd ds []=(G.tr ds [] r q).hd ds []:=hk.hd ds [] (fun n hn=>by grind[vK]);have fD:G'.hd r q=G'.hd ds []:=by grind
 obtain⟨fO,_⟩:=zHl gp r q ds [] tr2 u' u' v0 gE dH bH fD pf rfl mX eP (Ne.symm gY) (by omega) (by omega) hc3 hc4;refine⟨v,rfl,hK _ _ ⟨S,hS,gZ,G'.tr r q ds [],?_⟩⟩;have hw:(if([]:List Nat)=[]then T.same r q else u'.set ([]:List Nat).reverse .any)=T.same r q:=if_pos rfl;rw[hw]at fO;exact fO
theorem zR7(f:FuncId)(xf:Operand)(xs:List Operand)(ats:Array TypeId)(us res:List T)(ho:o.op=.call { callee:=.value xf,args:=xs.toArray,argTypes:=ats })(gj:o.dst=iz d)(hd:d<Γ.N)
  (gv:∀args w,(callFunc f args).run P w=.ok (.enter f args) w)(hf:opT E xf=iz (.lit (.func (.func f) #[] #[])))
  (hc:FnC P f us res [])(gm:xs.length=us.length)(gk:∀(i:Nat) u,us[i]? =iz u→ ∃x,xs[i]? =iz x∧opT E x=iz u∧u.flat=iB)(gA:yU res∧yK res=iB):
  xW P Γ o E (E.app (cWr d res []) (vK d [])):=by
 intro a w K Q ⟨gZ,G,gc⟩ hK;have hm:=gc.mem;refine zEN ho gj gv (yT gc hf).1 ?_;have cJ:∀b,¬zBz G [] b:=by rintro b ⟨s,z,_,h⟩;simp at h
 have pu:∀(us:List T),yU us∧yK us=iB→ ∀u∈us,zW u∧u.okTup=iB:=by
  intro us
  induction us with
  |nil=>simp
  |cons v us ih=>
   intro⟨h1,h2⟩ u hu;simp only[yK,J3]at h2;rcases Jp.1 hu with rfl|hu
   ·exact⟨h1.1,h2.1⟩
   ·exact ih ⟨h1.2,h2.2⟩ u hu
 have:=zHu gc hd (Sc:=Γ.St) (rw:=[]) (fun b x hx=>⟨hm.st b x hx,cJ b⟩) (fun _ _ h=>h) hc gm (fun i u hu=>by
   obtain⟨x,h1,h2,h3⟩:=gk i u hu;refine⟨x,h1,?_⟩;have ac:=zD7 (E:=E) u h3;cases x with
   |tmp s=>
    have gL:∀z,(G.arg a xs []).hd i z=G.hd s z:=by grind[Gh.arg]
    obtain⟨e1,e2,_⟩:=gc.ent s u h2;refine⟨?_,by grind[zJU]⟩;have:=zJZ (E:=E) gL u (ac.1 [] s)
    grind[xP]
   |const v=>
    simp only[opT]at h2;split at h2
    ·rename_i gn
     simp at h2;subst h2;have gL:(G.arg a xs []).hd i []=v:=by grind[Gh.arg,Act.eval,zAS]
     exact⟨by grind[mkV,Act.eval],by simp[R,gL]⟩
    ·cases h2
   |func f=>
    simp only[opT]at h2;simp at h2;subst h2;have gL:(G.arg a xs []).hd i []=.func (.func f) #[] #[]:=by grind[Gh.arg,Act.eval,kS,Value.oneCell']
    exact⟨by grind[mkV,Act.eval],by simp[R,gL]⟩
   |global g=>grind[opT]) (by simp) (by simp) (by simp)
  (fun u hu=>⟨by grind,by grind,fun S' G w s p hS h=>by
   have:aft Γ.St Γ.St S'=S':=funext (by grind[aft])
   grind⟩) (by simp)
 refine this.mono ?_
 rintro e w' ⟨v,rfl,S,G',hS,_,gp⟩
 exact⟨v,rfl,hK _ _ ⟨S,hS,gZ,G',gp⟩⟩
end
end Go.Ab

namespace Go.Ab
open Go
def wZ:List (Nat×T)→Env
 | [],_=>iA
 |(k,t)::l,s=>if k=s then iz t else wZ l s
def Env.Has(E:Env):List (Nat×T)→Prop
 | []=>True
 |(s,t)::l=>E s=iz t∧E.Has l
theorem Env.Has.le{E:Env}:{l:List (Nat×T)}→E.Has l→ ∀s t,wZ l s=iz t→E s=iz t
 | [],_,s,t,h=>by grind[wZ]
 |(k,u)::l,hh,s,t,h=>by
  simp only[wZ]at h;split at h
  ·rename_i e
   subst e;rw[hh.1];exact h
  ·exact hh.2.le s t h
theorem Sim.weaken{Γ:Ctx}{E E':Env}{a:Act}{w:World}(h:Sim Γ E a w)(eK:∀s t,E' s=iz t→E s=iz t):Sim Γ E' a w:=by obtain⟨h1,G,h2⟩:=h;exact⟨h1,G,⟨h2.size,fun s t hs=>h2.ent s t (eK s t hs),h2.mem⟩⟩
theorem kQ.weaken{Γ:Ctx}{E E':Env}{a:Act}{w:World}(h:kQ Γ E a w)(eK:∀s t,E' s=iz t→E s=iz t):kQ Γ E' a w:=by obtain⟨S,h1,h2⟩:=h;exact⟨S,h1,h2.weaken eK⟩
abbrev jT:=List (Nat×Value)
def jT.Hold(pn:jT)(a:Act):Prop:=∀x∈pn,a.tmps[x.1]? =iz x.2
def jT.ok(pn:jT)(d:Option Nat):Bool:=match d with
 |none=>iB
 |some d=>pn.all fun x=>x.1 != d
theorem Oper.wp_frame{P:Program}{o:Oper}{a:Act}{w:World}{K:Act→World→Prop}{Q:Exit→Act→World→Prop}(h:o.wp P a w K Q):
  o.wp P a w (fun a' w'=>K a' w'∧ ∀s,o.dst≠iz s→a'.tmps[s]? =a.tmps[s]?) Q:=by
 have key:∀(v:Value)(ds:List Deferred),∀s,o.dst≠iz s→(({ a with defers:=ds }:Act).put o.dst v).tmps[s]? =a.tmps[s]?:=by
  intro v ds s hs;cases hd:o.dst with
  |none=>rfl
  |some d=>
   grind[Act.put]
 have key0:∀(v:Value),∀s,o.dst≠iz s→(a.put o.dst v).tmps[s]? =a.tmps[s]?:=fun v=>key v a.defers
 unfold Oper.wp at*
 generalize (execOp a.eval o).run P w=r at*
 cases r with
 |ok n w'=>
  cases n<;>simp only[Oper.upon]at h ⊢
  all_goals grind
 |halt x w'=>cases x<;>simp only[Oper.upon]at h ⊢ <;>exact h
theorem jT.Hold.frame{pn:jT}{a a':Act}{d:Option Nat}(h:pn.Hold a)(gB:pn.ok d=iB)(hf:∀s,d≠iz s→a'.tmps[s]? =a.tmps[s]?):pn.Hold a':=by
 intro x hx;rw[hf x.1 ?_]
 ·exact h x hx
 ·rintro rfl
  have:=K4.1 gB x hx
  grind
section
variable (P:Program) (Γ:Ctx) (pn:jT)
def CW(c:Code)(E:Env)(Q:Exit→Env→Prop):Prop:=
 ∀(a:Act)(w:World)(Q':Exit→Act→World→Prop),kQ Γ E a w→pn.Hold a→(∀e E' a' w',Q e E'→kQ Γ E' a' w'→pn.Hold a'→Q' e a' w')→c.wp P Q' a w
def yS(ops:Array Oper)(o:Oper)(E E':Env):Prop:=
 ∀(a:Act)(w:World)(K:Act→World→Prop)(Q:Exit→Act→World→Prop),kQ Γ E a w→(∀a' w',kQ Γ E' a' w'→(∀s,o.dst≠iz s→a'.tmps[s]? =a.tmps[s]?)→K a' w')→
  if Region.wanted o (yielded ops a.tmps)then o.wp P a w K Q∨(o.asks P a w∧LetsOut Q)else K (a.put o.dst undef) w
def wpL(ops:Array Oper)(Q:Exit→Act→World→Prop):List Oper→Act→World→Prop
 | [],a,w=>Q .normal a w
 |o::os,a,w=>if Region.wanted o (yielded ops a.tmps)then o.wp P a w (wpL ops Q os) Q∨(o.asks P a w∧LetsOut Q)else wpL ops Q os (a.put o.dst undef) w
def RW(ops:Array Oper)(os:List Oper)(E:Env)(Q:Exit→Env→Prop):Prop:=
 ∀(a:Act)(w:World)(Q':Exit→Act→World→Prop),kQ Γ E a w→pn.Hold a→(∀e E' a' w',Q e E'→kQ Γ E' a' w'→pn.Hold a'→Q' e a' w')→wpL P ops Q' os a w
end
section
variable {P:Program}{Γ:Ctx}{pn:jT}{E E':Env}{Q Q1:Exit→Env→Prop}{c c1 c2:Code}{ops:Array Oper}{o:Oper}{os:List Oper}{d:Nat}
theorem zKa{Q':Exit→Act→World→Prop}:∀(os:List Oper)(n:Nat)(a:Act)(w:World),ops.toList.drop n=os→wpL P ops Q' os a w→wpOps P ops Q' (U0 n os.length) a w
 | [],n,a,w,_,h=>by simpa[wpOps,wpL]using h
 |o::os,n,a,w,hd,h=>by
  have ho:ops[n]? =iz o:=by
   have:=congrArg (·[0]?) hd
   grind
  have pW:ops.toList.drop (n+1)=os:=by
   have:=congrArg List.tail hd
   grind[List.tail_drop]
  simp only[K2,Jao,wpOps,ho];simp only[wpL]at h;split
  ·rename_i hw
   simp only[hw,if_true]at h;exact h.imp (Oper.wp_mono fun a w=>zKa os (n+1) a w pW) id
  ·rename_i hw
   simp only[hw]at h;exact zKa os (n+1) _ w pW h
theorem CW.region{id:Nat}(h:RW P Γ pn ops ops.toList E Q):CW P Γ pn (.region id ops iC) E Q:=by
 intro a w Q' hs hp hQ;refine wp_region ?_;have:=zKa (P:=P) ops.toList 0 a w (by simp) (h a w Q' hs hp hQ)
 grind[Ja0]
theorem RW.nil(h:Q .normal E):RW P Γ pn ops [] E Q:=fun a w Q' hs hp hQ=>by
 simp only[wpL]
 grind
theorem RW.cons(h1:yS P Γ ops o E E')(h3:RW P Γ pn ops os E' Q)(h2:pn.ok o.dst=iB:=by rfl):RW P Γ pn ops (o::os) E Q:=by
 intro a w Q' hs hp hQ;simp only[wpL];have:=h1 a w (wpL P ops Q' os) Q' hs fun a' w' gS hf=>h3 a' w' Q' gS (hp.frame h2 hf) hQ
 exact this
theorem yS.op(h:∀S,xW P (Γ.at S) o E E')(hg:o.guard=iA:=by rfl):yS P Γ ops o E E':=by
 intro a w K Q hs hK;have hw:Region.wanted o (yielded ops a.tmps)=iB:=by simp[Region.wanted,hg]
 rw[if_pos hw];refine .inl ?_;obtain⟨S,hS,hs⟩:=hs;have:=Oper.wp_frame (h S a w (fun a' w'=>kQ Γ E' a' w') Q hs fun a' w' h=>h.up hS)
 grind[Oper.wp_mono]
theorem zHv{a:Act}{w:World}(hs:kQ Γ E a w){g s:Nat}{b:Bool}(gP:(ops[g]?).bind (·.dst)=iz s)(h:E s=iz (.lit (.bool b))):yielded ops a.tmps g=iz b:=by
 obtain⟨_,_,_,G,hr⟩:=hs;obtain⟨h1,h2,_⟩:=hr.ent s _ h;simp only[R]at h2
 grind[yielded,mkV]
theorem yS.guard(g:Nat)(b:Bool)(s:Nat)(h:∀S,xW P (Γ.at S) o E E')(hg:o.guard=iz (g,b):=by rfl)(gP:(ops[g]?).bind (·.dst)=iz s:=by rfl)(hb:E s=iz (.lit (.bool b)):=by rfl):yS P Γ ops o E E':=by
 intro a w K Q hs hK;have hw:Region.wanted o (yielded ops a.tmps)=iB:=by grind[Region.wanted,zHv]
 rw[if_pos hw];refine .inl ?_;obtain⟨S,hS,hs⟩:=hs;have:=Oper.wp_frame (h S a w (fun a' w'=>kQ Γ E' a' w') Q hs fun a' w' h=>h.up hS)
 grind[Oper.wp_mono]
def zP(Γ:Ctx)(E E':Env):Prop:=∀(a:Act)(w:World),kQ Γ E a w→kQ Γ E' a w
theorem zP.refl:zP Γ E E:=fun _ _ h=>h
theorem zP.trans{E1 E2 E3:Env}(h:zP Γ E1 E2)(h':zP Γ E2 E3):zP Γ E1 E3:=fun a w hs=>h' a w (h a w hs)
theorem zP.has{l:List (Nat×T)}(h:E.Has l):zP Γ E (wZ l):=fun _ _ hs=>hs.weaken h.le
theorem CW.ghost(h1:zP Γ E E')(h:CW P Γ pn c E' Q):CW P Γ pn c E Q:=fun a w Q' hs=>h a w Q' (h1 a w hs)
theorem RW.ghost(h1:zP Γ E E')(h:RW P Γ pn ops os E' Q):RW P Γ pn ops os E Q:=fun a w Q' hs=>h a w Q' (h1 a w hs)
theorem CW.to(l:List (Nat×T))(h1:E.Has l)(h:CW P Γ pn c (wZ l) Q):CW P Γ pn c E Q:=h.ghost (.has h1)
theorem CW.mono(h:CW P Γ pn c E Q1)(hq:∀e E',Q1 e E'→Q e E'):CW P Γ pn c E Q:=fun a w Q' hs hp hQ=>h a w Q' hs hp (by grind)
theorem CW.skip(h:Q .normal E):CW P Γ pn .skip E Q:=fun _ _ _ hs hp hQ=>by grind[wp_skip]
theorem CW.ret(h:Q .ret E):CW P Γ pn .ret E Q:=fun _ _ _ hs hp hQ=>by grind[wp_ret]
theorem CW.exit{id:Nat}(h:Q (.exit id) E):CW P Γ pn (.exit id) E Q:=fun _ _ _ hs hp hQ=>by grind[wp_exit]
def zV(P:Program)(Γ:Ctx)(pn:jT)(c:Code)(Q:Exit→Env→Prop):Exit→Env→Prop
 |.normal,E=>CW P Γ pn c E Q
 |e,E=>Q e E
theorem CW.seq(h:CW P Γ pn c1 E (zV P Γ pn c2 Q)):CW P Γ pn (.seq c1 c2) E Q:=by
 intro a w Q' hs hp hQ;refine wp_seq (h a w _ hs hp fun e E' a' w' h1 gS fY=>?_);cases e with
 |normal=>exact h1 a' w' Q' gS fY hQ
 |_=>exact hQ _ _ _ _ h1 gS fY
theorem CW.cond{x:Operand}(b:Bool)(hb:opT E x=iz (.lit (.bool b)))(ht:b=iB→CW P Γ pn c1 E Q)(hf:b=iC→CW P Γ pn c2 E Q):CW P Γ pn (.cond x c1 c2) E Q:=by intro a w Q' hs hp hQ;obtain⟨_,_,_,G,hr⟩:=id hs;refine wp_cond_split (yT hr hb).1 (fun h=>ht h a w Q' hs hp hQ) (fun h=>hf h a w Q' hs hp hQ)
def yA(id:Nat)(Q:Exit→Env→Prop):Exit→Env→Prop
 |.exit id',E=>if id'=id then Q .normal E else Q (.exit id') E
 |e,E=>Q e E
theorem CW.block{id:Nat}(h:CW P Γ pn c E (yA id Q)):CW P Γ pn (.block id c) E Q:=by
 intro a w Q' hs hp hQ;refine wp_block (h a w _ hs hp fun e E' a' w' h1 gS fY=>?_);cases e with
 |exit id'=>
  simp only[yA]at h1;simp only[Exit.inBlock]
  grind
 |_=>exact hQ _ _ _ _ h1 gS fY
end
def xE{σ ρ:Type}(body:σ→Option (σ⊕ρ)):Nat→σ→Option ρ
 |0,_=>iA
 |n+1,s=>match body s with
  |none=>iA
  |some (.inl s')=>xE body n s'
  |some (.inr r)=>iz r
theorem zHw{σ ρ:Type}{body:σ→Option (σ⊕ρ)}{r:ρ}:∀{n m:Nat}{s:σ},xE body n s=iz r→n≤m→xE body m s=iz r
 |0,_,_,h,_=>by grind[xE]
 |n+1,0,_,_,hm=>by omega
 |n+1,m+1,s,h,hm=>by
  simp only[xE]at h ⊢
  cases hb:body s with
  |none=>grind
  |some x=>
   cases x with
   |inl s'=>simp only[hb]at h ⊢;exact zHw h (by omega)
   |inr r'=>grind
open Classical in
noncomputable def zG {σ ρ:Type} (body:σ→Option (σ⊕ρ)) (s:σ):Option ρ:=
 if h:∃(n:Nat)(r:ρ),xE body n s=iz r then iz h.choose_spec.choose else iA
theorem zCr{σ ρ:Type}{body:σ→Option (σ⊕ρ)}{s:σ}{r:ρ}:zG body s=iz r↔ ∃n,xE body n s=iz r:=by
 unfold zG;constructor
 ·intro h
  split at h
  all_goals grind
 ·rintro⟨n,hn⟩
  have he:∃(n:Nat)(r:ρ),xE body n s=iz r:=⟨n,r,hn⟩;rw[dif_pos he]
  grind[zHw]
theorem yV{σ ρ:Type}(body:σ→Option (σ⊕ρ))(s:σ):zG body s=match body s with
  |none=>iA
  |some (.inl s')=>zG body s'
  |some (.inr r)=>iz r:=by
 apply Option.ext;intro r;rw[zCr];cases hb:body s with
 |none=>
  simp only[reduceCtorEq,iff_false]
  rintro⟨n,hn⟩
  cases n<;>simp[xE,hb]at hn
 |some x=>
  cases x with
  |inl s'=>
   simp only[];rw[zCr];constructor
   ·rintro⟨n,hn⟩
    cases n with
    |zero=>grind[xE]
    |succ n=>grind[xE]
   ·rintro⟨n,hn⟩
    exact⟨n+1,by grind[xE]⟩
  |inr r'=>
   simp only[Km.injEq];constructor
   ·rintro⟨n,hn⟩
    cases n with
    |zero=>grind[xE]
    |succ n=>grind[xE]
   ·rintro rfl
    exact⟨1,by simp[xE,hb]⟩
section
variable {P:Program}{Γ:Ctx}{pn:jT}{E:Env}{Q:Exit→Env→Prop}{c:Code}
def yW{σ ρ:Type}(Γ:Ctx)(en:σ→Env)(Q:ρ→Exit→Env→Prop)(x:σ⊕ρ):Exit→Env→Prop:=fun e E'=>
 match x with
 |.inl s'=>e=.normal∧zP Γ E' (en s')
 |.inr r=>e≠.normal∧Q r e E'
theorem zEa{p:Nat→Prop}(h:∃m,p m):∃m,p m∧ ∀k,k<m→ ¬p k:=by
 refine Classical.byContradiction fun hn=>?_
 have key:∀n,∀k,k<n→ ¬p k:=by
  intro n
  induction n with
  |zero=>simp
  |succ n ih=>
   grind
 grind
theorem CW.loop{σ ρ:Type}(body:σ→Option (σ⊕ρ))(en:σ→Env)(Q:ρ→Exit→Env→Prop)(h:∀s x,body s=iz x→CW P Γ pn c (en s) (yW Γ en Q x)){s:σ}{r:ρ}(hr:zG body s=iz r):
  CW P Γ pn (.loop c) (en s) (Q r):=by
 classical
 intro a w Q' hs hp hQ
 let p:Act→World→Nat→Prop:=fun a w m=> ∃s,xE body m s=iz r∧kQ Γ (en s) a w∧pn.Hold a
 let μ:Act→World→Nat:=fun a w=>if h:∃m,p a w m then(zEa h).choose else 0
 obtain⟨n,hn⟩:=zCr.1 hr;refine wp_loop (fun a w=> ∃m,p a w m) μ (by grind) ?_;intro a w bp;have hμ:μ a w=(zEa bp).choose:=dif_pos bp;obtain⟨s,h1,h2,h3⟩:=(zEa bp).choose_spec.1;have eR:=(zEa bp).choose_spec.2;rw[←hμ]at h1;cases hm:μ a w with
 |zero=>grind[xE]
 |succ k=>
  rw[hm]at h1;simp only[xE]at h1;cases hb:body s with
  |none=>grind
  |some x=>
   refine h s x hb a w _ h2 h3 fun e E' a' w' hq gS fY=>?_
   cases x with
   |inl s'=>
    simp only[hb]at h1;obtain⟨rfl,hg⟩:=hq;have hp2:p a' w' k:=⟨s',h1,hg a' w' gS,fY⟩;refine⟨⟨k,hp2⟩,?_⟩;have hex':∃m,p a' w' m:=⟨k,hp2⟩
    grind
   |inr r'=>
    simp only[hb]at h1;have:r'=r:=by grind
    subst this;obtain⟨gf,hq⟩:=hq;have:=hQ e E' a' w' hq gS fY;cases e with
    |normal=>grind
    |_=>exact this
end
end Go.Ab

namespace Go.Ab
open Go
abbrev Nds:=List (Nat×List Nat×T)
def ROk(P:Program)(E:Env):ResultVar→(Nat×List Nat×T)→Prop
 |.tmp s,x=>x.1=s∧x.2.1=[]∧E s=iz x.2.2∧x.2.2.okTup=iB
 |.cell a T,x=>x.1=a∧x.2.1=[0]∧E a=iz (.ptr x.2.2)∧ ∃ds ti,P.underlying T=iz ds∧P.info? T=iz ti∧zF0 ds= !x.2.2.single∧ti.size=x.2.2.size
def zG5(P:Program)(E:Env):List ResultVar→Nds→Prop
 | [],[]=>True
 |x::xs,y::ys=>ROk P E x y∧zG5 P E xs ys
 |_,_=>False
def LOk(E:Env)(us:List T):List (Nat×T)→Prop
 | []=>True
 |(i,u')::l=>(E i=iz u'∧ ∃u,us[i]? =iz u)∧LOk E us l
def yAt(P:Program)(rs:Array ResultVar)(us res:List T)(rws:List (Nat×T)):Exit→Env→Prop:=fun e E=>
 (e=.ret∨e=.normal)∧ ∃nd:Nds,zG5 P E rs.toList nd∧nd.map (·.2.2)=res∧(∀x∈nd,us.length≤x.1)∧(nd.map (·.1)).Nodup∧LOk E us rws
def zCV(v:Nat→Value)(is:List Nat):jT:=is.map fun i=>(i,v i)
def zI9:Nat→List T→List (Nat×T)
 |_,[]=>[]
 |i,u::us=>(i,u)::zI9 (i+1) us
theorem zLg:∀(us:List T)(i s:Nat)(t:T),wZ (zI9 i us) s=iz t→i≤s∧us[s-i]? =iz t
 | [],i,s,t,h=>by grind[zI9,wZ]
 |u::us,i,s,t,h=>by
  simp only[zI9,wZ]at h;split at h
  ·grind
  ·rename_i e
   obtain⟨h1,h2⟩:=zLg us (i+1) s t h
   grind
def zR8(tmps:Array Value):ResultVar→Sem Value
 |.tmp t=>pure (tmps.getD t undef)
 |.cell a t=>do loadVar t (←asAddr (tmps.getD a undef))
theorem zMU(fn:Func)(tmps:Array Value):results fn tmps=(do
  let vs ←fn.results.mapM (zR8 tmps)
  pure (if h:vs.size=1 then vs[0]else .tuple vs)):=rfl
theorem uI.get:(xs:List T)→uI xs→ ∀(i:Nat)(x:T),xs[i]? =iz x→Top x
 | [],_,i,x,h=>by simp at h
 |y::ys,ht,i,x,h=>by
  simp only[uI]at ht;cases i with
  |zero=>simp at h;subst h;exact ht.1
  |succ i=>exact uI.get ys ht.2 i x (by simpa using h)
theorem LOk.get{E:Env}{us:List T}:(l:List (Nat×T))→LOk E us l→ ∀i u',(i,u')∈l→E i=iz u'∧ ∃u,us[i]? =iz u
 | [],_,_,_,h=>by simp at h
 |x::l,h,i,u',hm=>by
  rcases Jp.1 hm with rfl|hm
  ·exact h.1
  ·exact LOk.get l h.2 i u' hm
theorem yCj{P:Program}{Γ:Ctx}{E:Env}{G:Gh}{tmps:Array Value}{w:World}(gc:Rep Γ E G tmps w)(x:ResultVar)(s:Nat)(q:List Nat)(t:T)(h:ROk P E x (s,q,t)):
  (zR8 tmps x).run P w=.ok (sK G s t q) w∧R Γ.St G w s t q:=by
 cases x with
 |tmp s'=>
  obtain⟨h0,bv,h1,h2⟩:=h;dsimp only at h0 bv h1 h2;subst h0 bv;obtain⟨g1,g2,_⟩:=gc.ent _ _ h1;have ee:∀xs,t≠.tup xs:=by rintro xs rfl;grind[T.okTup]
  refine⟨?_,g2⟩;rw[←zAy G s t [] ee];simp[zR8,Kd,g1]
 |cell a T'=>
  obtain⟨h0,bv,h1,ds,ti,h2,h3,h4,h5⟩:=h;dsimp only at h0 bv h1 h4 h5;subst h0 bv;obtain⟨g1,g2,_⟩:=gc.ent _ _ h1;simp only[R]at g2;obtain⟨b,cs,e,k1,k2,k3,k4,k5,k6⟩:=g2;refine⟨?_,k6⟩;rw[xJ rfl,k1]at g1;have h6:=zGh (w:=w) h2 h3 k5 h4 h5;simp[zR8,Kd,g1,asAddr,h6]
theorem zGo{P:Program}{Γ:Ctx}{E:Env}{G:Gh}{tmps:Array Value}{w:World}(gc:Rep Γ E G tmps w):(rs:List ResultVar)→(nd:Nds)→zG5 P E rs nd→
  (rs.mapM (zR8 tmps)).run P w=.ok (nd.map fun x=>sK G x.1 x.2.2 x.2.1) w∧ ∀x∈nd,R Γ.St G w x.1 x.2.2 x.2.1
 | [],[],_=>by simp
 |x::xs,y::ys,h=>by
  obtain⟨h1,h2⟩:=zGo gc xs ys h.2;obtain⟨h3,h4⟩:=yCj gc x y.1 y.2.1 y.2.2 h.1
  simp_all
 | [],_::_,h=>by simp[zG5]at h
 |_::_,[],h=>by simp[zG5]at h
theorem FnC.of_body{P:Program}{f:FuncId}{fn:Func}{c:Code}{us res:List T}{rws:List (Nat×T)}(hf:P.funcs[f]? =iz fn)(hb:fn.body=iz c)(hn:us.length≤fn.ntmps)(ht:uI us)(hr:rws.all (fun x=>decide (x.1<us.length))=iB)
  (h:∀(Γ:Ctx)(v:Nat→Value),Γ.N=fn.ntmps→CW P Γ (zCV v (rws.map (·.1))) c (wZ (zI9 0 us)) (yAt P fn.results us res rws)):FnC P f us res rws:=by
 intro St W w G vs pe gk gu
 let Γ:Ctx:=⟨St,W,w,fn.ntmps⟩
 let v:Nat→Value:=fun i=>vs.getD i undef
 have hm:Mem Γ G w:=⟨gu.one,gu.lb,gu.ow,gu.st,gu.fr,gu.sz,gu.bk⟩;have gC:(vs++U7 (fn.ntmps-vs.size) undef).size=fn.ntmps:=by simp;omega
 have dl:Sim Γ (wZ (zI9 0 us)) { tmps:=vs++U7 (fn.ntmps-vs.size) undef,defers:=[] } w:=by
  refine⟨rfl,G,gC,?_,hm⟩;intro s t hs;obtain⟨_,h2⟩:=zLg us 0 s t hs;simp only[Gw]at h2;obtain⟨h3,h4⟩:=gk s t h2;have gH:s<vs.size:=by grind
  exact⟨by grind,h4,uI.get us ht s t h2⟩
 have dR:(zCV v (rws.map (·.1))).Hold { tmps:=vs++U7 (fn.ntmps-vs.size) undef,defers:=[] }:=by
  intro x hx;simp only[zCV,Jj]at hx;obtain⟨i,⟨y,hy,rfl⟩,rfl⟩:=hx;have h1:=K4.1 hr y hy;simp at h1;have h2:y.1<vs.size:=by omega
  simp[Array.getElem?_append,h2,v]
 refine calls_of_wp hf hb (h Γ v rfl _ _ _ (.of dl) dR ?_)
 rintro e E' a' w' ⟨he,nd,h1,h2,h3,h4,h5⟩ ⟨S',gX,gZ,G',gc⟩ hp
 obtain⟨g1,g2⟩:=zGo gc _ _ h1;have gA:(results fn a'.tmps).run P w'=.ok (zKX G' nd) w':=by
  rw[zMU,Array.mapM_eq_mapM_toList];simp only[Sem.run_bind,Sem.run_map,g1];cases nd with
  |nil=>simp[zKX]
  |cons y ys=>
   cases ys with
   |nil=>simp[zKX]
   |cons z zs=>simp[zKX]
 have gF:Mem ⟨S',W,w,0⟩ G' w':=⟨gc.mem.one,gc.mem.lb,gc.mem.ow,gc.mem.st,gc.mem.fr,gc.mem.sz,gc.mem.bk⟩;have mE:bodyPost P fn (fun e w'=> ∃(S':Stb)(G':Gh)(nd:List (Nat×List Nat×T)),zDQ St S' W w.heap.size∧e=.returned (zKX G' nd)∧Mem ⟨S',W,w,0⟩ G' w'∧nd.map (·.2.2)=res∧
   (∀x∈nd,R S' G' w' x.1 x.2.2 x.2.1∧us.length≤x.1)∧(nd.map (·.1)).Nodup∧
   ∀i u',(i,u')∈rws→R S' G' w' i u' []∧ ∃u,us[i]? =iz u∧mkV G' i u' []=mkV G i u []) .ret a' w':=by
  refine⟨gZ,_,gA,S',G',nd,gX,rfl,gF,h2,by grind,h4,?_⟩;intro i u' hiu;obtain⟨k1,u,k3⟩:=LOk.get _ h5 i u' hiu;obtain⟨k5,k6,_⟩:=gc.ent i u' k1;refine⟨k6,u,k3,?_⟩;have k7:=hp (i,v i) (by simp only[zCV,Jj];grind);have k8:=(gk i u k3).1;rw[k5]at k7;simp[v,Kd,k8]at k7;exact k7
 rcases he with rfl|rfl<;>exact mE
end Go.Ab

namespace Go.Ab
open Go
mutual
def vV:T→T
 |.sl k xs=>.ro (strip (.sl k xs))
 |.ptr t=>.ro (strip (.ptr t))
 |.agg xs=>.agg (uN xs)
 |.tup xs=>.tup (uN xs)
 |.any=>.any
 |.lit v=>.lit v
 |.ro t=>.ro t
 |.same r p=>.same r p
 |.addr r p=>.addr r p
 |.sub r p k lo hi=>.sub r p k lo hi
def uN:List T→List T
 | []=>[]
 |x::xs=>vV x::uN xs
end
mutual
theorem zR9(G:Gh)(s:Nat):(t:T)→ ∀p,vals G s (vV t) p=vals G s t p
 |.agg xs,p=>by simp only[vV,vals];exact zD8 G s xs p 0
 |.sl _ _,_|.ptr _,_|.tup _,_|.any,_|.lit _,_|.ro _,_|.same _ _,_|.addr _ _,_|.sub _ _ _ _ _,_=>by rfl
theorem zD8(G:Gh)(s:Nat):(xs:List T)→ ∀p j,yF G s (uN xs) p j=yF G s xs p j
 | [],_,_=>by rfl
 |x::xs,p,j=>by simp only[uN,yF,zR9 G s x,zD8 G s xs]
end
theorem zRA(G:Gh)(s:Nat)(t:T)(p:List Nat):sK G s (vV t) p=sK G s t p:=by cases t<;>simp only[vV,sK,zD8]
theorem zLh(G:Gh)(s:Nat):(xs:List T)→ ∀p j,zAx G s (uN xs) p j=zAx G s xs p j
 | [],_,_=>by rfl
 |x::xs,p,j=>by simp only[uN,zAx,zRA,zLh G s xs]
theorem zVo(G:Gh)(s:Nat)(t:T)(p:List Nat):mkV G s (vV t) p=mkV G s t p:=by cases t<;>simp only[vV,mkV,zD8,zLh]
mutual
theorem zLi:(t:T)→Top t→Top (vV t)
 |.agg xs,h|.tup xs,h=>by simp only[vV,Top]at h ⊢;exact zIX xs h
 |.sl _ _,_|.ptr _,_|.any,_|.lit _,_|.ro _,_|.same _ _,_|.addr _ _,_|.sub _ _ _ _ _,_=>by simp only[vV,Top]
theorem zIX:(xs:List T)→uI xs→uI (uN xs)
 | [],_=>by grind[uN]
 |x::xs,h=>by simp only[uN,uI]at h ⊢;exact⟨zLi x h.1,zIX xs h.2⟩
end
section
variable {St Sc:Stb}{G G':Gh}{w:World}{s:Nat} (gn:∀s p,(G.hd s p).oneCell'=iB) (ek:∀b x,St b=iz x→Sc b=iz x) (ep:∀b,(∃y,G.ow b=iz (s,y))→Sc b=w.heap[b]?) (gL:∀s z,G'.hd s z=G.hd s z) (eW:∀s z,G'.ad s z=G.ad s z)
 include gn ek ep gL eW
mutual
theorem zX7:(t:T)→ ∀(p:List Nat),R St G w s t p→R Sc G' w s (vV t) p
 |.agg xs,p,hr|.tup xs,p,hr=>by simp only[vV,R]at hr ⊢;exact zRB xs p 0 hr
 |.sl k xs,p,hr=>by have:=zLa gn ek ep (.sl k xs) p rfl hr;simp only[vV,R,gL];exact this
 |.ptr t,p,hr=>by have:=zLa gn ek ep (.ptr t) p rfl hr;simp only[vV,R,gL];exact this
 |.ro u,p,hr=>by simp only[vV,R,gL]at hr ⊢;grind[uX]
 |.any,_,_=>by simp only[vV,R]
 |.lit _,_,hr|.same _ _,_,hr|.sub _ _ _ _ _,_,hr=>by simp only[vV,R,gL]at hr ⊢;exact hr
 |.addr _ _,_,hr=>by simp only[vV,R,gL,eW]at hr ⊢;exact hr
theorem zRB:(xs:List T)→ ∀(p:List Nat)(j:Nat),RF St G w s xs p j→RF Sc G' w s (uN xs) p j
 | [],_,_,_=>by have _:=gn;have _:=ek;have _:=ep;have _:=gL;have _:=eW;simp only[uN,RF]
 |x::xs,p,j,hr=>by simp only[uN,RF]at hr ⊢;exact⟨zX7 x _ hr.1,zRB xs p (j+1) hr.2⟩
end
end
theorem zP.freeze{Γ:Ctx}{E:Env}(s:Nat)(t:T)(hs:E s=iz t):zP Γ E (E.app [(s,iz (vV t))] [(s,1)]):=by
 classical
 rintro a w ⟨S,hS,gZ,G,gc⟩
 have hm:=gc.mem
 let own:Nat→Prop:=fun b=> ∃y,G.ow b=iz (s,y)
 let Sc:Stb:=fun b=>if own b then w.heap[b]? else S b
 let G':Gh:={ hd:=G.hd,ad:=G.ad,lb:=fun b o=>if own b then iA else G.lb b o,ow:=fun b=>if own b then iA else G.ow b }
 have fb:∀b x,S b=iz x→Sc b=iz x:=fun b x hx=>by
  have:¬own b:=by
   rintro⟨y,hy⟩
   have:=(hm.ow b _ hy).2.2
   grind
  grind
 have ab:zDQ S Sc Γ.W Γ.w0.heap.size:=⟨fb,fun b hb eG=>by
  by_cases h:own b
  ·obtain⟨y,hy⟩:=h
   exact(hm.ow b _ hy).2.1
  grind⟩
 have gu:Mem ((Γ.at S).at Sc) G' w:=by
  refine⟨hm.one,fun b o l hl=>?_,fun b l hl=>?_,fun b x hx=>?_,hm.fr,hm.sz,hm.bk⟩
  ·by_cases h:own b
   ·grind
   ·simp only[G',h,if_false]at hl
    have:=hm.lb b o l hl;exact⟨this.1,this.2.1,by simp only[Sc,h,if_false];exact this.2.2⟩
  ·by_cases h:own b
   ·grind
   ·simp only[G',h,if_false]at hl
    have:=hm.ow b l hl;exact⟨this.1,this.2.1,by simp only[Sc,h,if_false];exact this.2.2⟩
  ·by_cases h:own b
   ·grind
   ·simp only[Sc,h,if_false]at hx;exact hm.st b x hx
 have gx:jS [(s,1)] G w G' w:=by
  have dW:∀b s0 y,G.ow b=iz (s0,y)→(∀n,(s0,n)∉([(s,1)]:Chg))→ ¬own b:=by grind
  refine⟨fun _ _ _=>rfl,fun _ _ _=>rfl,by grind,by grind,fun b cs e h=>⟨cs,h,rfl⟩⟩
  all_goals grind
 obtain⟨e1,e2,e3⟩:=gc.ent s t hs;refine⟨Sc,hS.trans ab,gZ,G',gc.up fb rfl gx gu (fun s0 h0=>⟨fun n hn=>?_,rfl⟩) (fun s0 t0 h0=>?_)⟩
 ·grind[tU]
 ·rw[tU]at h0
  split at h0
  ·rename_i he;subst he
   simp at h0;subst h0;have hR:=zX7 (G':=G') hm.one fb (fun b hb=>by grind) (fun _ _=>rfl) (fun _ _=>rfl) t [] e2;refine⟨?_,hR,zLi t e3⟩;rw[e1];have h1:mkV G' s (vV t) []=mkV G s (vV t) []:=zFz _ _ _ (fun _=>rfl);rw[h1,zVo]
  ·cases h0
end Go.Ab

namespace Go.Ab
open Go
abbrev zCW:=List (Wr×Chg)
def Env.apps(E:Env)(l:zCW):Env:=l.foldl (fun E x=>E.app x.1 x.2) E
structure Stp where
 rd:List (Nat×T)
 l:zCW
def sO(wr:Wr):List Nat:=wr.map (·.1)
def Stp.slots(X:Stp):List Nat:=X.l.flatMap fun x=>sO x.1
def oOk(chg:Chg):Option T→Bool
 |none=>iB
 |some t=>t.okB chg
def zMV(chg:Chg)(wr:Wr):Bool:=wr.all fun x=>oOk chg x.2
def zPX(a b:List Nat):Bool:=a.all fun x=> !b.contains x
def zF8(a b:zCW):Bool:=a.all fun x=>b.all fun y=>zPX (sO x.1) (sO y.1)&&zMV y.2 x.1&&zMV x.2 y.1
def Stp.apart(a b:Stp):Bool:=zF8 a.l b.l&&zPX a.slots (b.rd.map (·.1))&&zPX b.slots (a.rd.map (·.1))&&a.rd.all fun x=>b.l.all fun y=>x.2.okB y.2
theorem zF9{wr:Wr}{s:Nat}(h:s∉sO wr):wr.find s=iA:=by
 induction wr with
 |nil=>rfl
 |cons x wr ih=>
  simp only[sO,Jl,Jp,not_or]at h;simp only[Wr.find,Ne.symm h.1,if_false];exact ih h.2
theorem zIY{wr:Wr}{s:Nat}{x:Option T}(h:wr.find s=iz x):s∈sO wr∧ ∃y∈wr,y.2=x:=by
 induction wr with
 |nil=>grind[Wr.find]
 |cons y wr ih=>
  grind[Wr.find,sO]
theorem zHx{a b:List Nat}(h:zPX a b=iB){s:Nat}(hs:s∈a):s∉b:=by
 have:=K4.1 h s hs
 grind
theorem zRC(E:Env)(w1 w2:Wr)(c1 c2:Chg)(h:zPX (sO w1) (sO w2)=iB)(h1:zMV c2 w1=iB)(h2:zMV c1 w2=iB):
  (E.app w1 c1).app w2 c2=(E.app w2 c2).app w1 c1:=by
 funext s
 have ok:∀{c:Chg}{w:Wr}{s:Nat}{x:Option T},zMV c w=iB→w.find s=iz x→(match x with|some t=>if t.okB c then iz t else iA|none=>iA)=x:=by
  intro c w s x hw hf;obtain⟨_,y,hy,rfl⟩:=zIY hf;have:=K4.1 hw y hy
  grind[oOk]
 unfold Env.app;cases hf1:w1.find s with
 |some x=>
  grind[zF9,zHx,zIY]
 |none=>
  grind
theorem zEb(w:Wr)(c:Chg):∀(l:zCW)(E:Env),(∀y∈l,zPX (sO w) (sO y.1)=iB∧zMV y.2 w=iB∧zMV c y.1=iB)→(E.app w c).apps l=(E.apps l).app w c
 | [],E,_=>rfl
 |y::l,E,h=>by obtain⟨h1,h2,h3⟩:=h y (by simp);show((E.app w c).app y.1 y.2).apps l=_;rw[zRC E w y.1 c y.2 h1 h2 h3];exact zEb w c l _ (by grind)
theorem zIZ:∀(l1 l2:zCW)(E:Env),zF8 l1 l2=iB→(E.apps l1).apps l2=(E.apps l2).apps l1
 | [],l2,E,_=>rfl
 |x::l1,l2,E,h=>by simp only[zF8,Gy,J3]at h;show((E.app x.1 x.2).apps l1).apps l2=((E.apps l2).app x.1 x.2).apps l1;rw[zIZ l1 l2 _ (by grind[zF8]),zEb x.1 x.2 l2 E (by grind)]
def runD:Env→List (Bool×Stp)→Env
 |E,[]=>E
 |E,(b,X)::l=>runD (if b then E.apps X.l else E) l
theorem zA1:∀(l1 l2:List (Bool×Stp))(E:Env),runD E (l1++l2)=runD (runD E l1) l2
 | [],_,_=>rfl
 |(b,X)::l1,l2,E=>by simp only[K9,runD];exact zA1 l1 l2 _
theorem zFA:∀(l:List (Bool×Stp))(X:Stp)(E:Env),(∀y∈l,y.1=iB→zF8 X.l y.2.l=iB)→runD (E.apps X.l) l=(runD E l).apps X.l
 | [],_,_,_=>rfl
 |(b,Y)::l,X,E,h=>by
  simp only[runD];cases b with
  |false=>exact zFA l X E (by grind)
  |true=>
   have:=h (iB,Y) (by simp) rfl;simp only[if_true];rw[zIZ X.l Y.l E this];exact zFA l X _ (by grind)
theorem zHy{s:Nat}:∀(l:zCW)(E:Env),s∉l.flatMap (fun x=>sO x.1)→ ∀t,(E.apps l) s=iz t→E s=iz t
 | [],_,_,_,h=>h
 |x::l,E,hs,t,h=>by
  simp only[Lg,Jw,not_or]at hs;have:=zHy l (E.app x.1 x.2) hs.2 t h
  grind[Env.app,zF9]
theorem zJa{s:Nat}{t:T}:∀(l:zCW)(E:Env),s∉l.flatMap (fun x=>sO x.1)→(∀y∈l,t.okB y.2=iB)→E s=iz t→(E.apps l) s=iz t
 | [],_,_,_,h=>h
 |x::l,E,hs,gB,h=>by
  simp only[Lg,Jw,not_or]at hs;refine zJa l (E.app x.1 x.2) hs.2 (by grind) ?_
  grind[Env.app,zF9]
theorem zJb{s:Nat}:∀(l:zCW)(E1 E2:Env),(∀t,E2 s=iz t→E1 s=iz t)→ ∀t,(E2.apps l) s=iz t→(E1.apps l) s=iz t
 | [],_,_,h,t,ht=>h t ht
 |x::l,E1,E2,h,t,ht=>by
  refine zJb l (E1.app x.1 x.2) (E2.app x.1 x.2) (fun u hu=>?_) t ht
  grind[Env.app]
theorem zJc{s:Nat}:∀(l:List (Bool×Stp))(E1 E2:Env),(∀y∈l,y.1=iC→s∉y.2.slots)→(∀t,E2 s=iz t→E1 s=iz t)→
  ∀t,runD E2 (l.map fun y=>(iB,y.2)) s=iz t→runD E1 l s=iz t
 | [],_,_,_,h,t,ht=>h t ht
 |(b,X)::l,E1,E2,hl,h,t,ht=>by
  simp only[Jl,runD,if_true]at ht ⊢
  refine zJc l _ _ (by grind) (fun u hu=>?_) t ht;cases b with
  |true=>grind[zJb]
  |false=>exact h u (zHy X.l E2 (hl (iC,X) (by simp) rfl) u hu)
theorem zJd{s:Nat}{t:T}:∀(l:List (Bool×Stp))(E:Env),(∀y∈l,y.1=iB→s∉y.2.slots∧ ∀z∈y.2.l,t.okB z.2=iB)→E s=iz t→runD E l s=iz t
 | [],_,_,h=>h
 |(b,X)::l,E,hl,h=>by
  simp only[runD];refine zJd l _ (fun y hy=>hl y (by simp[hy])) ?_;cases b with
  |false=>exact h
  |true=>obtain⟨h1,h2⟩:=hl (iB,X) (by simp) rfl;exact zJa X.l E h1 h2 h
theorem Env.Has.of{E E':Env}:{l:List (Nat×T)}→E.Has l→(∀s t,(s,t)∈l→E s=iz t→E' s=iz t)→E'.Has l
 | [],_,_=>trivial
 |(s,t)::l,h,h'=>⟨h' s t (by simp) h.1,Env.Has.of h.2 fun s t hm=>h' s t (by simp[hm])⟩
end Go.Ab

namespace Go.Ab
open Go
def zBV(o:Oper):List Nat:=(o.after.toList.filter (Region.binds .any)).map (·.on)
def zB5:Nat→List Oper→Bool
 |_,[]=>iB
 |i,o::os=>((zBV o).all fun m=>decide (m<i))&&zB5 (i+1) os
def zAU(an:List (List Nat)):List (List Nat)→List Oper→Bool
 | [],_=>iB
 |_::_,[]=>iC
 |l::ls,o::os=>(l.all fun k=>(zBV o).contains k||(zBV o).any fun m=>(an.getD m []).contains k)&&zAU an ls os
def kW(Xs:List Stp):Nat→List (List Nat)→List Stp→Bool
 |_,_,[]=>iB
 |j,an,Y::Ys=>((Ji j).all fun i=>(an.headD []).contains i||match Xs[i]? with
   |some X=>X.apart Y
   |none=>iB)&&kW Xs (j+1) an.tail Ys
theorem zGF:∀(os:List Oper)(i0 j:Nat)(o:Oper),zB5 i0 os=iB→os[j]? =iz o→ ∀m∈zBV o,m<i0+j
 | [],_,j,_,_,h=>by simp at h
 |x::os,i0,j,o,hf,h=>by
  simp only[zB5,J3]at hf;cases j with
  |zero=>
   grind
  |succ j=>
   intro m hm;have:=zGF os (i0+1) j o hf.2 (by grind) m hm;omega
theorem zKb(an:List (List Nat)):∀(ls:List (List Nat))(os:List Oper)(j:Nat)(l:List Nat),zAU an ls os=iB→ls[j]? =iz l→ ∃o,os[j]? =iz o∧ ∀k∈l,k∈zBV o∨ ∃m∈zBV o,k∈an.getD m []
 | [],_,j,_,_,h=>by simp at h
 |_::_,[],_,_,h,_=>by grind[zAU]
 |x::ls,o::os,j,l,ha,h=>by
  simp only[zAU,J3]at ha;cases j with
  |zero=>
   simp_all
  |succ j=>
   obtain⟨o',h1,h2⟩:=zKb an ls os j l ha.2 (by grind)
   grind
theorem zFB(Xs:List Stp):∀(Ys:List Stp)(j0:Nat)(an:List (List Nat))(j:Nat)(Y:Stp),kW Xs j0 an Ys=iB→Ys[j]? =iz Y→ ∀i X,i<j0+j→Xs[i]? =iz X→i∈an.getD j []∨X.apart Y=iB
 | [],_,_,j,_,_,h=>by simp at h
 |Z::Ys,j0,an,j,Y,hp,h=>by
  simp only[kW,J3]at hp;intro i X hi hX;cases j with
  |zero=>
   simp at h;subst h;have:=K4.1 hp.1 i (by grind);simp only[hX,Bool.or_eq_true,Lr,decide_eq_true_eq]at this;rcases this with h|h
   ·left
    cases an with
    |nil=>simp at h
    |cons l an=>grind
   grind
  |succ j=>
   rcases zFB Xs Ys (j0+1) an.tail j Y hp.2 (by grind) i X (by omega) hX with h|h
   all_goals grind
section
variable {P:Program}{Γ:Ctx}{pn:jT}{ops:Array Oper}
def zRD(ops:Array Oper)(L:List Bool):Prop:=∀(i:Nat)(o:Oper),ops[i]? =iz o→L[i]? =iz iB→ ∀m∈zBV o,L[m]? =iz iB
theorem zHz{L:List Bool}{an:List (List Nat)}(hf:zB5 0 ops.toList=iB)(ha:zAU an an ops.toList=iB)(hc:zRD ops L):
  ∀(n i:Nat),i≤n→ ∀o,ops[i]? =iz o→(∀m∈zBV o,L[m]? =iz iB)→ ∀k∈an.getD i [],L[k]? =iz iB:=by
 intro n
 induction n with
 |zero=>
  intro i hi o ho hp k hk;have uh:i=0:=by omega
  subst uh;cases hl:an[0]? with
  |none=>grind
  |some l=>
   obtain⟨o',h1,h2⟩:=zKb an an ops.toList 0 l ha hl;rw[Ki,ho]at h1;simp at h1;subst h1;simp only[Jaf,hl,G5]at hk;rcases h2 k hk with h|⟨m,h,_⟩
   ·grind
   ·have:=zGF ops.toList 0 0 o hf (by grind) m h
    omega
 |succ n ih=>
  intro i hi o ho hp k hk;cases hl:an[i]? with
  |none=>grind
  |some l=>
   obtain⟨o',h1,h2⟩:=zKb an an ops.toList i l ha hl;rw[Ki,ho]at h1;simp at h1;subst h1;simp only[Jaf,hl,G5]at hk;rcases h2 k hk with h|⟨m,h,hkm⟩
   ·grind
   ·have gH:=zGF ops.toList 0 i o hf (by grind) m h
    have hLm:=hp m h;cases aI:ops[m]? with
    |none=>
     grind
    |some om=>exact ih m (by omega) om aI (hc m om aI hLm) k hkm
theorem zJe{L:List Bool}{Xs:List Stp}{i:Nat}{b:Bool}{X:Stp}(hL:L[i]? =iz b)(hX:Xs[i]? =iz X):L.zip Xs=(L.take i).zip (Xs.take i)++(b,X)::(L.drop (i+1)).zip (Xs.drop (i+1)):=by
 have h1:L=L.take i++b::L.drop (i+1):=by obtain⟨h,rfl⟩:=Je.1 hL;simp
 have h2:Xs=Xs.take i++X::Xs.drop (i+1):=by obtain⟨h,rfl⟩:=Je.1 hX;simp
 grind[List.zip_cons_cons]
theorem zKc{L:List Bool}{Xs:List Stp}{y:Bool×Stp}(h:y∈L.zip Xs):∃j:Nat,L[j]? =iz y.1∧Xs[j]? =iz y.2:=by grind[Un,List.getElem?_zip_eq_some]
def sP:Env→List Stp→Prop
 |_,[]=>True
 |E,X::Xs=>E.Has X.rd∧sP (E.apps X.l) Xs
theorem sP.get:∀(Xs:List Stp)(E:Env),sP E Xs→ ∀(i:Nat)(X:Stp),Xs[i]? =iz X→(runD E ((Xs.take i).map fun y=>(iB,y))).Has X.rd
 | [],_,_,i,_,h=>by simp at h
 |Y::Xs,E,hh,i,X,h=>by
  cases i with
  |zero=>simp at h;subst h;simpa[runD]using hh.1
  |succ i=>
   have:=sP.get Xs _ hh.2 i X (by grind)
   grind[runD]
theorem Stp.apart_spec{a b:Stp}(h:a.apart b=iB):zF8 a.l b.l=iB∧(∀s∈a.slots,s∉b.rd.map (·.1))∧(∀s∈b.slots,s∉a.rd.map (·.1))∧ ∀x∈a.rd,∀y∈b.l,x.2.okB y.2=iB:=by simp only[Stp.apart,J3]at h;refine⟨h.1.1.1,by grind[zHx],by grind[zHx],fun x hx y hy=>?_⟩;exact K4.1 (K4.1 h.2 x hx) y hy
mutual
theorem zOH:(t:T)→t.okB []=iB
 |.same _ _|.addr _ _|.sub _ _ _ _ _=>by rfl
 |.agg xs|.tup xs=>by simp only[T.okB];exact zLj xs
 |.any|.lit _|.ro _|.sl _ _|.ptr _=>by rfl
theorem zLj:(xs:List T)→zKH [] xs=iB
 | []=>by rfl
 |x::xs=>by simp only[zKH,zOH x,zLj xs,L7]
end
theorem Rep.heap{E:Env}{G:Gh}{tmps:Array Value}{w w':World}(h:Rep Γ E G tmps w)(hw:w'.heap=w.heap)(ho:w'.os=w.os:=by rfl)(hq:w'.output=w.output:=by rfl):Rep Γ E G tmps w' where
 size:=h.size
 ent s t hs:=Ent.keep (chg:=[]) ⟨fun _ _ _=>rfl,fun _ _ _=>rfl,by grind[yJ,World.cell?],fun _ _ _ h _=>h,fun b cs e h=>⟨cs,by grind,rfl⟩⟩ (by simp) (zOH t) (h.ent s t hs)
 mem:=by
  have hm:=h.mem;exact⟨hm.one,fun b o l hl=>by have:=hm.lb b o l hl;exact⟨by rw[hw];exact this.1,this.2⟩,fun b l hl=>by have:=hm.ow b l hl;exact⟨by rw[hw];exact this.1,this.2⟩,
   fun b x hx=>by rw[hw];exact hm.st b x hx,fun b h1 h2=>by rw[hw];exact hm.fr b h1 h2,by rw[hw];exact hm.sz,hm.bk.trans (fun b cs e hb=>⟨cs,by grind,rfl⟩) ho hq⟩
end
end Go.Ab

namespace Go.Ab
open Go
abbrev I(n:Int):T:=.lit (.int .i64 n)
abbrev B(b:Bool):T:=.lit (.bool b)
abbrev L{α:Type}(k:Nat)(f:α→T)(xs:List α):T:=.sl k (xs.map f)
theorem zM{P:Program}{t:TypeId}{ti:TypeInfo}(h:P.types[t]? =iz ti):P.info? t=iz ti:=by grind[Tables.info?]
def Ok(P:Program)(Γ:Ctx)(o:Oper)(E E':Env):Prop:=∀S,xW P (Γ.at S) o E E'
section
variable {P:Program}{Γ:Ctx}{pn:jT}{ops:Array Oper}{o:Oper}{os:List Oper}{E E':Env}{Q:Exit→Env→Prop}{d:Nat}
theorem RW.op(h:Ok P Γ o E E')(k:RW P Γ pn ops os E' Q)(hg:o.guard=iA:=by rfl)(hp:pn.ok o.dst=iB:=by rfl):RW P Γ pn ops (o::os) E Q:=RW.cons (yS.op h hg) k hp
def neD(x:Operand)(d:Nat):Bool:=match x with
 |.tmp s=>s != d
 |_=>iB
theorem zEO{x:Operand}{d:Nat}(h:neD x d=iB):∀s,x=.tmp s→s≠d:=by rintro s rfl;grind[neD]
theorem zBW{t:T}(h:t.okTup=iB):∀xs,t≠.tup xs:=by rintro xs rfl;grind[T.okTup]
abbrev mvB(Γ:Ctx)(x:Operand)(t:T)(d:Nat):Bool:=J4 d Γ.N&&t.okTup&&neD x d&&T.okB [(d,0)] (uU x t)
section
variable {x y:Operand}{t:T}{ty:TypeId}{ps:String}{af:Array Edge}{gd:Option (Nat×Bool)}
theorem zZ{a b:Nat}(h:J4 a b=iB):a<b:=by grind[Nat.blt_eq]
theorem zMW(hx:opT E x=iz t)(sd:mvB Γ x t d=iB):Ok P Γ ⟨iz d,.move x,ty,ps,af,gd⟩ E (E.app [(d,iz (uU x t))] [(d,0)]):=by simp only[mvB,J3]at sd;exact fun S=>zOz x t (.inl rfl) rfl (zZ sd.1.1.1) hx (zBW sd.1.1.2) (zEO sd.1.2) sd.2
theorem zVp(hx:opT E x=iz t)(sd:mvB Γ x t d=iB):Ok P Γ ⟨iz d,.assign x,ty,ps,af,gd⟩ E (E.app [(d,iz (uU x t))] [(d,0)]):=by simp only[mvB,J3]at sd;exact fun S=>zOz x t (.inr rfl) rfl (zZ sd.1.1.1) hx (zBW sd.1.1.2) (zEO sd.1.2) sd.2
def inR(n:Int):Bool:=decide (-9223372036854775808≤n)&&decide (n≤9223372036854775807)
theorem zBX{n:Int}(h:inR n=iB):IntKind.i64.wrap n=n:=by
 simp only[inR,J3,decide_eq_true_eq]at h;have hb:IntKind.i64.bits=64:=rfl;have hs:IntKind.i64.signed=iB:=rfl;simp only[IntKind.wrap,hb,hs,Bool.true_and]
 grind
def rng(n:Int):Option Int:=if inR n then iz n else iA
theorem zCX{n m:Int}(h:rng n=iz m):m=n∧inR n=iB:=by grind[rng]
theorem zRE{m n c:Int}{xt yt:TypeId}(hv:rng (m+n)=iz c)(hx:opT E x=iz (I m))(hy:opT E y=iz (I n))(sd:J4 d Γ.N=iB):Ok P Γ ⟨iz d,.binOp .add xt x y yt,ty,ps,af,gd⟩ E (E.app [(d,iz (I c))] [(d,0)]):=by obtain⟨rfl,h⟩:=zCX hv;exact fun S=>uE .add xt yt x y .i64 m n _ rfl rfl (zZ sd) hx hy (by grind[zJM,zBX])
theorem zX8{m n:Int}{xt yt:TypeId}(hx:opT E x=iz (I m))(hy:opT E y=iz (I n))(sd:J4 d Γ.N=iB):Ok P Γ ⟨iz d,.binOp .lss xt x y yt,ty,ps,af,gd⟩ E (E.app [(d,iz (B (decide (m<n))))] [(d,0)]):=
 fun _S=>uE .lss xt yt x y .i64 m n _ rfl rfl (zZ sd) hx hy rfl
theorem zJf(k:Nat)(sd:J4 d Γ.N=iB):Ok P Γ ⟨iz d,.assign (.const (.slice iA 0 0)),ty,ps,af,gd⟩ E (E.app [(d,iz (.sl k []))] [(d,0)]):=
 fun _=>zKO k _ (.inr rfl) rfl rfl (zZ sd)
def yB(n:Int):Option Nat:=if 0≤n∧n≤68719476736 then iz n.toNat else iA
theorem zH0{n:Int}{m:Nat}(h:yB n=iz m):n=(m:Int)∧m≤68719476736:=by grind[yB]
class ElT (P:Program) (t:TypeId) (e:outParam TypeId) (ti:outParam TypeInfo) (k:outParam Nat) (u:outParam T):Prop where
 un:P.underlying t=iz (.slice e)
 info:P.info? e=iz ti
 zero:∃z,ti.zero=iz z∧sE u=z.cells.toList
 size:ti.size=k
 pos:0<k
 zok:u.zOk=iB
 us:u.size=k
 bytes:ti.bytes≤2048
theorem zYy{t e:TypeId}{ti:TypeInfo}{k:Nat}{u:T}{n m:Nat}{a b:Int}(ht:ElT P t e ti k u)(hn:yB a=iz n)(hx:opT E x=iz (I a))(hm:yB b=iz m)(hy:opT E y=iz (I b))(co:n≤m)(sd:J4 d Γ.N=iB):
  Ok P Γ ⟨iz d,.makeSlice t x y,ty,ps,af,gd⟩ E (E.app [(d,iz (.sl k (J1 n u)))] [(d,0)]):=by
 obtain⟨rfl,h1⟩:=zH0 hn;obtain⟨rfl,h2⟩:=zH0 hm;obtain⟨z,hz,hv⟩:=ht.zero;exact fun S=>zVj t e ti z u k x y n m .i64 .i64 rfl rfl (zZ sd) ht.un ht.info hz ht.size ht.pos ht.zok hv ht.us (Hf ht.bytes (by decide)) hx hy co h2
end
end
end Go.Ab

namespace Go.Ab
open Go
def ixO{α:Type}(xs:List α)(i:Int):Option α:=if 0≤i then xs[i.toNat]? else iA
theorem uY{α:Type}{xs:List α}{i:Int}{v:α}(h:ixO xs i=iz v):0≤i∧xs[i.toNat]? =iz v:=by grind[ixO]
def zAV:T→Bool
 |.same _ _=>iC
 |_=>iB
theorem zBY{E:Env}{s r:Nat}{q:List Nat}{t u:T}(h1:E s=iz (.same r q))(h2:E r=iz t)(h3:t.get q.reverse=iz u)(h4:zAV u=iB):tL E (.tmp s)=iz (r,q,u):=by
 have hg:∀t:T,t.get []=iz t:=fun t=>by rfl
 grind[zAV,tL,qP]
theorem zB0{E:Env}{s:Nat}{t:T}(h1:E s=iz t)(h4:zAV t=iB):tL E (.tmp s)=iz (s,[],t):=by
 have hg:∀t:T,t.get []=iz t:=fun t=>by rfl
 grind[zAV,tL,qP]
section
variable {P:Program}{Γ:Ctx}{E:Env}{d:Nat}{x y:Operand}{ty:TypeId}{ps:String}{af:Array Edge}{gd:Option (Nat×Bool)}
class zBZ (P:Program) (t:TypeId) (e:outParam TypeId) (ti:outParam TypeInfo) (k:outParam Nat):Prop where
 un:P.underlying t=iz (.slice e)
 info:P.info? e=iz ti
 size:ti.size=k
theorem yAu{α:Type}{t e:TypeId}{ti:TypeInfo}{r k:Nat}{q:List Nat}{f:α→T}{xs:List α}{v:α}{i:Int}(ht:zBZ P t e ti k)(hv:ixO xs i=iz v)(hx:tL E x=iz (r,q,L k f xs))(hy:opT E y=iz (I i))(sd:J4 d Γ.N=iB):
  Ok P Γ ⟨iz d,.indexAddr t x y,ty,ps,af,gd⟩ E (E.app [(d,iz (.addr r (i.toNat::q)))] [(d,0)]):=by
 obtain⟨h1,h2⟩:=uY hv;exact fun S=>zX3 x y t e ti r q k _ .i64 i rfl rfl (zZ sd) ht.un ht.info ht.size hx hy h1 (by grind)
theorem zX9{α:Type}{t e:TypeId}{ti:TypeInfo}{r k:Nat}{q:List Nat}{f:α→T}{xs:List α}{v:α}{i:Int}(ht:zBZ P t e ti k)(hv:ixO xs i=iz v)(hx:tL E x=iz (r,q,.ro (L k f xs)))(hy:opT E y=iz (I i))(sd:J4 d Γ.N=iB):
  Ok P Γ ⟨iz d,.indexAddr t x y,ty,ps,af,gd⟩ E (E.app [(d,iz (.ro (.ptr (f v))))] [(d,0)]):=by
 obtain⟨h1,h2⟩:=uY hv;exact fun S=>zRl x y t e ti r q k _ .i64 i _ rfl rfl (zZ sd) ht.un ht.info ht.size hx hy h1 (by simp[h2])
theorem zXA{α:Type}{t e:TypeId}{r k:Nat}{q:List Nat}{f:α→T}{xs:List α}(hu:P.underlying t=iz (.slice e))(hx:tL E x=iz (r,q,L k f xs))(sd:J4 d Γ.N=iB):
  Ok P Γ ⟨iz d,.call { callee:=.builtin .len,args:=#[x],argTypes:=#[t] },ty,ps,af,gd⟩ E (E.app [(d,iz (I xs.length))] [(d,0)]):=
 fun _=>zRk x t _ r q (L k f xs) xs.length rfl rfl (zZ sd) hu hx (by simp[zKI]) rfl
theorem zRF{α:Type}{t e:TypeId}{r k:Nat}{q:List Nat}{f:α→T}{xs:List α}(hu:P.underlying t=iz (.slice e))(hx:tL E x=iz (r,q,.ro (L k f xs)))(sd:J4 d Γ.N=iB):
  Ok P Γ ⟨iz d,.call { callee:=.builtin .len,args:=#[x],argTypes:=#[t] },ty,ps,af,gd⟩ E (E.app [(d,iz (I xs.length))] [(d,0)]):=
 fun _=>zRk x t _ r q (.ro (L k f xs)) xs.length rfl rfl (zZ sd) hu hx (by simp[zKI]) rfl
structure zVq (P:Program) (t:TypeId) (u:T):Prop where
 h:∃ds ti,P.underlying t=iz ds∧P.info? t=iz ti∧zF0 ds= !u.single∧ti.size=u.size
theorem yAv{t:TypeId}{u:T}(ht:zVq P t u)(hx:opT E x=iz (.ro (.ptr u)))(sd:J4 d Γ.N=iB):Ok P Γ ⟨iz d,.load t x,ty,ps,af,gd⟩ E (E.app [(d,iz (roT u))] [(d,0)]):=by obtain⟨ds,ti,h1,h2,h3,h4⟩:=ht.h;exact fun S=>zMP x t ds ti u rfl rfl (zZ sd) h1 h2 h3 h4 hx
theorem yAw{t:TypeId}{u tr:T}{r:Nat}{q:List Nat}(ht:zVq P t u)(hx:opT E x=iz (.addr r q))(hr:E r=iz tr)(hg:tr.get q.reverse=iz u)(sd:(J4 d Γ.N&&tr.locd q.reverse&&(r != d)&&T.okB [(d,0)] (cpT r u q))=iB):
  Ok P Γ ⟨iz d,.load t x,ty,ps,af,gd⟩ E (E.app [(d,iz (cpT r u q))] [(d,0)]):=by
 obtain⟨ds,ti,h1,h2,h3,h4⟩:=ht.h;simp only[J3]at sd;exact fun S=>zVi x t ds ti r q tr u rfl rfl (zZ sd.1.1.1) h1 h2 h3 h4 hx hr hg sd.1.1.2 (by grind) sd.2
end
end Go.Ab

namespace Go.Ab
open Go
section
variable {P:Program}{Γ:Ctx}{E:Env}{x:Operand}{ty:TypeId}{ps:String}{af:Array Edge}{gd:Option (Nat×Bool)}
theorem yAx{t:TypeId}{ti:TypeInfo}{r:Nat}{q:List Nat}{tr tr' u0:T}{v:Value}(hi:P.info? t=iz ti)(gC:ti.size=1)(hx:opT E x=iz (.addr r q))(hr:E r=iz tr)(hg:tr.get q.reverse=iz u0)(gy:tr.set q.reverse (.lit v)=tr')
  (sd:(tr.single&&tr.locd q.reverse&&vS (.lit v) u0&&(T.lit v).zOk)=iB)(hz:sE (.lit v)=v.cells.toList):Ok P Γ ⟨iA,.store t x (.const v),ty,ps,af,gd⟩ E (E.app [(r,iz tr')] [(r,q.length)]):=by
 simp only[J3]at sd;subst gy;intro S;have:=zRx (P:=P) (Γ:=Γ.at S) (E:=E) (o:=⟨iA,.store t x (.const v),ty,ps,af,gd⟩) t ti x (.const v) r q tr u0 (.zero (.lit v)) rfl rfl hi (by rw[gC];rfl) (by omega) hx hr sd.1.1.1 hg sd.1.1.2 sd.1.2 (.zero v _ hz)
  ⟨by simp,by grind,by simp[xI]⟩
 exact this
end
end Go.Ab

namespace Go.Ab
open Go
theorem zP.tr{Γ:Ctx}{E:Env}(d r:Nat)(u:T)(hd:E d=iz (.same r []))(hr:E r=iz u)(eZ:zW u)(sd:(u.single&&wC u&&u.okB [(d,1),(r,1)]&&(d != r))=iB):
  zP Γ E (E.app [(d,iz u),(r,iz (.same d []))] [(d,1),(r,1)]):=by
 simp only[J3]at sd
 rintro a w ⟨S,hS,hs⟩
 have gf:d≠r:=by grind
 have hg:∀t:T,t.get []=iz t:=fun t=>by rfl
 have:=zMT hs d [] r [] (.same r []) u u hd rfl hr (hg u) sd.1.1.1 eZ gf (by simp[T.okB,zAM]) sd.1.2 rfl sd.1.1.2;exact⟨S,hS,this⟩
theorem zEq{α:Type}{f:α→T}(hf:∀x,zW (f x)):(xs:List α)→yU (xs.map f)
 | []=>trivial
 |x::xs=>⟨hf x,zEq hf xs⟩
theorem zOI{α:Type}{f:α→T}{k:Nat}{xs:List α}(hf:∀x,zW (f x)):zW (L k f xs):=by simp only[zW,yN];grind[zEq]
theorem zOJ(n:Int):zW (I n):=by simp[zW,yN]
theorem zVr(b:Bool):zW (B b):=by simp[zW,yN]
end Go.Ab

namespace Go.Ab
open Go
section
variable {P:Program}{Γ:Ctx}{E:Env}{d:Nat}{x y:Operand}{ty:TypeId}{ps:String}{af:Array Edge}{gd:Option (Nat×Bool)}{m n c:Int}{xt yt:TypeId}
theorem zXB(hv:rng (m-n)=iz c)(hx:opT E x=iz (I m))(hy:opT E y=iz (I n))(sd:J4 d Γ.N=iB):Ok P Γ ⟨iz d,.binOp .sub xt x y yt,ty,ps,af,gd⟩ E (E.app [(d,iz (I c))] [(d,0)]):=by obtain⟨rfl,h⟩:=zCX hv;exact fun _=>uE .sub xt yt x y .i64 m n _ rfl rfl (zZ sd) hx hy (by grind[zJM,zBX])
theorem yAy(hv:rng (m*n)=iz c)(hx:opT E x=iz (I m))(hy:opT E y=iz (I n))(sd:J4 d Γ.N=iB):Ok P Γ ⟨iz d,.binOp .mul xt x y yt,ty,ps,af,gd⟩ E (E.app [(d,iz (I c))] [(d,0)]):=by obtain⟨rfl,h⟩:=zCX hv;exact fun _=>uE .mul xt yt x y .i64 m n _ rfl rfl (zZ sd) hx hy (by grind[zJM,zBX])
def xN(m n:Int):Option Int:=if n=0 then iA else rng (m.tdiv n)
def yP(m n:Int):Option Int:=if n=0 then iA else iz (m.tmod n)
theorem yAz(hv:xN m n=iz c)(hx:opT E x=iz (I m))(hy:opT E y=iz (I n))(sd:J4 d Γ.N=iB):Ok P Γ ⟨iz d,.binOp .quo xt x y yt,ty,ps,af,gd⟩ E (E.app [(d,iz (I c))] [(d,0)]):=by
 unfold xN at hv;split at hv
 ·cases hv
 ·rename_i h0
  obtain⟨rfl,h⟩:=zCX hv;exact fun _=>uE .quo xt yt x y .i64 m n _ rfl rfl (zZ sd) hx hy (by simp only[zJM,h0,if_false,zBX h])
theorem yA0(hv:yP m n=iz c)(hx:opT E x=iz (I m))(hy:opT E y=iz (I n))(sd:J4 d Γ.N=iB):Ok P Γ ⟨iz d,.binOp .rem xt x y yt,ty,ps,af,gd⟩ E (E.app [(d,iz (I c))] [(d,0)]):=by
 unfold yP at hv;split at hv
 ·cases hv
 ·rename_i h0
  simp at hv;subst hv;exact fun _=>uE .rem xt yt x y .i64 m n _ rfl rfl (zZ sd) hx hy (by simp only[zJM,h0,if_false])
theorem yA1(hx:opT E x=iz (I m))(hy:opT E y=iz (I n))(sd:J4 d Γ.N=iB):Ok P Γ ⟨iz d,.binOp .leq xt x y yt,ty,ps,af,gd⟩ E (E.app [(d,iz (B (decide (m≤n))))] [(d,0)]):=
 fun _=>uE .leq xt yt x y .i64 m n _ rfl rfl (zZ sd) hx hy rfl
theorem zXC(hx:opT E x=iz (I m))(hy:opT E y=iz (I n))(sd:J4 d Γ.N=iB):Ok P Γ ⟨iz d,.binOp .gtr xt x y yt,ty,ps,af,gd⟩ E (E.app [(d,iz (B (decide (m> n))))] [(d,0)]):=
 fun _=>uE .gtr xt yt x y .i64 m n _ rfl rfl (zZ sd) hx hy rfl
theorem yA2(hx:opT E x=iz (I m))(hy:opT E y=iz (I n))(sd:J4 d Γ.N=iB):Ok P Γ ⟨iz d,.binOp .geq xt x y yt,ty,ps,af,gd⟩ E (E.app [(d,iz (B (decide (m≥n))))] [(d,0)]):=
 fun _=>uE .geq xt yt x y .i64 m n _ rfl rfl (zZ sd) hx hy rfl
theorem yA3(hx:opT E x=iz (I m))(hy:opT E y=iz (I n))(sd:J4 d Γ.N=iB):Ok P Γ ⟨iz d,.binOp .eql xt x y yt,ty,ps,af,gd⟩ E (E.app [(d,iz (B (m==n)))] [(d,0)]):=
 fun _=>uE .eql xt yt x y .i64 m n _ rfl rfl (zZ sd) hx hy rfl
theorem zRG(hx:opT E x=iz (I m))(hy:opT E y=iz (I n))(sd:J4 d Γ.N=iB):Ok P Γ ⟨iz d,.binOp .neq xt x y yt,ty,ps,af,gd⟩ E (E.app [(d,iz (B (m != n)))] [(d,0)]):=
 fun _=>uE .neq xt yt x y .i64 m n _ rfl rfl (zZ sd) hx hy rfl
theorem zCa{b:Bool}(hx:opT E x=iz (B b))(sd:J4 d Γ.N=iB):Ok P Γ ⟨iz d,.unOp .not xt x,ty,ps,af,gd⟩ E (E.app [(d,iz (B (!b)))] [(d,0)]):=
 fun _=>zYt xt x b rfl rfl (zZ sd) hx
theorem zXD(hv:rng (0-n)=iz c)(hx:opT E x=iz (I n))(sd:J4 d Γ.N=iB):Ok P Γ ⟨iz d,.unOp .neg xt x,ty,ps,af,gd⟩ E (E.app [(d,iz (I c))] [(d,0)]):=by
 obtain⟨rfl,h⟩:=zCX hv;have:=fun S=>zYu (P:=P) (Γ:=Γ.at S) (E:=E) (o:=⟨iz d,.unOp .neg xt x,ty,ps,af,gd⟩) xt x .i64 n rfl rfl (zZ sd) hx
 rw[zBX h]at this;exact this
end
end Go.Ab

namespace Go.Ab
open Go
section
variable {P:Program}{Γ:Ctx}{E:Env}{d:Nat}{x y:Operand}{ty:TypeId}{ps:String}{af:Array Edge}{gd:Option (Nat×Bool)}
class zKd (P:Program) (t:TypeId) (u:outParam T):Prop where
 h:∃ti z,P.info? t=iz ti∧ti.zero=iz z∧u.zOk=iB∧sE u=z.cells.toList∧z.cells.size=u.size
theorem zOK{t:TypeId}{u:T}(ht:zKd P t u)(sd:J4 d Γ.N=iB):Ok P Γ ⟨iz d,.alloc t,ty,ps,af,gd⟩ E (E.app [(d,iz (.ptr u))] [(d,0)]):=by obtain⟨ti,z,h1,h2,h3,h4,h5⟩:=ht.h;exact fun S=>zRu t ti z u rfl rfl (zZ sd) h1 h2 h3 h4 h5
theorem zXE{s i:Nat}{ts:List T}{t:T}(hs:E s=iz (.tup ts))(hi:ts[i]? =iz t)(sd:(J4 d Γ.N&&t.okTup&&(s != d)&&T.okB [(d,0)] (cpT s t [i]))=iB):
  Ok P Γ ⟨iz d,.extract (.tmp s) i,ty,ps,af,gd⟩ E (E.app [(d,iz (cpT s t [i]))] [(d,0)]):=by
 simp only[J3]at sd;exact fun S=>zMQ s i ts t rfl rfl (zZ sd.1.1.1) hs hi (zBW sd.1.1.2) (by grind) sd.2
theorem zBk{t:T}(hx:opT E x=iz t)(hp:zGi E x=iB)(sd:mvB Γ x t d=iB):Ok P Γ ⟨iz d,.nilCheck x,ty,ps,af,gd⟩ E (E.app [(d,iz (uU x t))] [(d,0)]):=by simp only[mvB,J3]at sd;exact fun S=>zYv x t rfl rfl (zZ sd.1.1.1) hx hp (zBW sd.1.1.2) (zEO sd.1.2) sd.2
theorem zMX{c:Operand}{b:Bool}{t:T}(hc:opT E c=iz (B b))(hx:opT E (if b then x else y)=iz t)(sd:mvB Γ (if b then x else y) t d=iB):Ok P Γ ⟨iz d,.pick c x y,ty,ps,af,gd⟩ E (E.app [(d,iz (uU (if b then x else y) t))] [(d,0)]):=by simp only[mvB,J3]at sd;exact fun S=>zVg c x y b t rfl rfl (zZ sd.1.1.1) hc hx (zBW sd.1.1.2) (zEO sd.1.2) sd.2
theorem zXF{t:TypeId}{s:Nat}{u:T}(hs:E s=iz u)(hu:zW u)(sd:(J4 d Γ.N&&u.okTup&&(s != d))=iB):
  Ok P Γ ⟨iz d,.box t (.tmp s),ty,ps,af,gd⟩ E (E.app ((d,iz (.ptr u))::pWr d [.slot s u] 0) ((d,0)::sL [.slot s u])):=by
 simp only[J3]at sd;have gf:s≠d:=by grind
 refine fun S=>zYx t (.tmp s) (.slot s u) rfl rfl (zZ sd.1.1) (.slot s u) ⟨by grind,by simp,?_⟩
 simp only[xI]
 grind
end
end Go.Ab

namespace Go.Ab
open Go
def yG{α:Type}(xs ys:List α):Option (List α):=if xs.length+ys.length≤68719476736 then iz (xs++ys)else iA
theorem zFC{α:Type}{xs ys zs:List α}(h:yG xs ys=iz zs):zs=xs++ys∧xs.length+ys.length≤68719476736:=by grind[yG]
section
variable {P:Program}{Γ:Ctx}{E:Env}{d:Nat}{x y:Operand}{ty:TypeId}{ps:String}{af:Array Edge}{gd:Option (Nat×Bool)}
theorem ElT.zsize{t e:TypeId}{ti:TypeInfo}{k:Nat}{u:T}(h:ElT P t e ti k u):∃z,ti.zero=iz z∧z.cells.size=k:=by obtain⟨z,h1,h2⟩:=h.zero;exact⟨z,h1,by rw[←Ka,←h2,vH u h.zok,h.us]⟩
theorem zYz{α:Type}{t e:TypeId}{ti:TypeInfo}{k:Nat}{u:T}{f:α→T}{xs ys zs:List α}{s0 s1:Nat}(ht:ElT P t e ti k u)(hv:yG xs ys=iz zs)(h0:E s0=iz (L k f xs))(h1:E s1=iz (L k f ys))(sd:(J4 d Γ.N&&(s0 != d)&&(s1 != d)&&(s1 != s0))=iB):
  Ok P Γ ⟨iz d,.call { callee:=.builtin .append,args:=#[.tmp s0,.tmp s1],argTypes:=#[t,t] },ty,ps,af,gd⟩ E (E.app [(d,iz (L k f zs)),(s0,iz .any),(s1,iz .any)] [(d,0),(s0,1),(s1,1)]):=by
 obtain⟨rfl,hl⟩:=zFC hv;obtain⟨z,hz,fA⟩:=ht.zsize;simp only[J3]at sd;intro S;have:=zJV (P:=P) (Γ:=Γ.at S) (E:=E) (o:=⟨iz d,.call { callee:=.builtin .append,args:=#[.tmp s0,.tmp s1],argTypes:=#[t,t] },ty,ps,af,gd⟩) t e ti z k s0 s1 (xs.map f) (ys.map f) rfl rfl (zZ sd.1.1.1) ht.un ht.info hz ht.size ht.pos fA ht.bytes h0 h1
  (by grind) (by grind) (by grind) (by grind)
 rw[←Lp]at this;exact this
theorem zJg{α:Type}{f:α→T}(hf:∀x,(f x).flat=iB):(xs:List α)→zAN (xs.map f)=iB
 | []=>rfl
 |x::xs=>by simp only[Jl,zAN,hf x,zJg hf xs,L7]
theorem zY0{α:Type}{t e:TypeId}{ti:TypeInfo}{k r:Nat}{q:List Nat}{u:T}{f:α→T}{xs ys zs:List α}{s0:Nat}(ht:ElT P t e ti k u)(hf:∀x,(f x).flat=iB)(hv:yG xs ys=iz zs)(h0:E s0=iz (L k f xs))(h1:tL E y=iz (r,q,L k f ys))(sd:(J4 d Γ.N&&(s0 != d))=iB):
  Ok P Γ ⟨iz d,.call { callee:=.builtin .append,args:=#[.tmp s0,y],argTypes:=#[t,t] },ty,ps,af,gd⟩ E (E.app [(d,iz (L k f zs)),(s0,iz .any)] [(d,0),(s0,1)]):=by
 obtain⟨rfl,hl⟩:=zFC hv;obtain⟨z,hz,fA⟩:=ht.zsize;simp only[J3]at sd;intro S;have:=zJW (P:=P) (Γ:=Γ.at S) (E:=E) (o:=⟨iz d,.call { callee:=.builtin .append,args:=#[.tmp s0,y],argTypes:=#[t,t] },ty,ps,af,gd⟩) t e ti z k s0 y r q (xs.map f) (ys.map f) rfl rfl (zZ sd.1) ht.un ht.info hz ht.size ht.pos fA ht.bytes h0 h1 (zJg hf ys)
  (by grind) (by grind)
 rw[←Lp]at this;exact this
end
end Go.Ab

namespace Go.Ab
open Go
abbrev IK(k:IntKind)(n:Int):T:=.lit (.int k n)
abbrev Str(s:ByteArray):T:=.lit (.string s)
abbrev Pt{α:Type}(f:α→T)(x:α):T:=.ptr (f x)
abbrev Ro{α:Type}(f:α→T)(x:α):T:=.ro (f x)
abbrev A2{α:Type}(f:α→T)(x:α×α):T:=.agg [f x.1,f x.2]
theorem bd{α β:Type}{o:Option α}{f:α→Option β}{r:β}(h:o.bind f=iz r):∃v,o=iz v∧f v=iz r:=by
 cases o with
 |none=>simp at h
 |some v=>grind
theorem cT{α:Type}{b:Bool}{x y:α}{z:α}(hc:b=iB)(h:cond b x y=z):x=z:=by grind
theorem cF{α:Type}{b:Bool}{x y:α}{z:α}(hc:b=iC)(h:cond b x y=z):y=z:=by grind
theorem sI{α:Type}{x y:α}(h:iz x=iz y):x=y:=Km.inj h
section
variable {P:Program}{Γ:Ctx}{pn:jT}{E E':Env}{Q:Exit→Env→Prop}{c:Code}{id id':Nat}
theorem nA(h:CW P Γ pn c E Q):zV P Γ pn c Q .normal E:=h
theorem xA(h:Q (.exit id) E):zV P Γ pn c Q (.exit id) E:=h
theorem rA(h:Q .ret E):zV P Γ pn c Q .ret E:=h
theorem nB(h:Q .normal E):yA id Q .normal E:=h
theorem rB(h:Q .ret E):yA id Q .ret E:=h
theorem xB(h:Q .normal E):yA id Q (.exit id) E:=by simp only[yA,if_true];exact h
theorem neX:Exit.exit id≠.normal:=by simp
theorem neR:Exit.ret≠.normal:=by simp
theorem RW.cases{ops:Array Oper}{os:List Oper}(s:Nat)(b:Bool)(hb:E s=iz (B b))(ht:b=iB→RW P Γ pn ops os (E.app [(s,iz (B iB))] []) Q)(hf:b=iC→RW P Γ pn ops os (E.app [(s,iz (B iC))] []) Q):RW P Γ pn ops os E Q:=by
 have key:∀c:Bool,b=c→zP Γ E (E.app [(s,iz (B c))] []):=by
  rintro c rfl a w hs
  refine hs.weaken fun s' t h=>?_
  by_cases e:s=s'
  ·grind[Env.app,Wr.find]
  ·simp only[Env.app,Wr.find,e,if_false]at h
   grind
 cases hc:b with
 |true=>grind[ghost]
 |false=>grind[ghost]
end
theorem zU{α:Type}{k:Nat}{f:α→T}{xs:List α}{i:Int}{v:α}{p:List Nat}{u:T}(h:ixO xs i=iz v)(hr:(f v).get p=iz u):(L k f xs).get (i.toNat::p)=iz u:=by simp[T.get,(uY h).2,hr]
theorem wF{t u:T}{p:List Nat}(h:t.get p=iz u):(T.ptr t).get (0::p)=iz u:=h
theorem wG{xs:List T}{x u:T}{j:Nat}{p:List Nat}(hj:xs[j]? =iz x)(h:x.get p=iz u):(T.agg xs).get (j::p)=iz u:=by grind[T.get]
theorem zG6{α:Type}{k:Nat}{f:α→T}{xs:List α}{i:Int}{v w:α}{p:List Nat}{u:T}(h:ixO xs i=iz v)(hr:(f v).set p u=f w):(L k f xs).set (i.toNat::p) u=L k f (xs.set i.toNat w):=by simp[L,T.set,(uY h).2,hr,Jap]
theorem zDS{t u t':T}{p:List Nat}(h:t.set p u=t'):(T.ptr t).set (0::p) u=T.ptr t':=by simp[T.set,h]
class Enc {α:Type} (f:α→T):Prop where
 clean:∀x,zW (f x)
 rofree:∀x,wY (f x)=iB
 strip:∀x,strip (f x)=f x
 okTup:∀x,(f x).okTup=iB
 rook:∀x,zF5 (f x)=iB
theorem zH1{α:Type}{f:α→T}(h:∀x,wY (f x)=iB):(xs:List α)→uG (xs.map f)=iB
 | []=>rfl
 |x::xs=>by simp only[Jl,uG,h x,zH1 h xs,L7]
theorem zH2{α:Type}{f:α→T}(h:∀x,zF5 (f x)=iB):(xs:List α)→zBS (xs.map f)=iB
 | []=>rfl
 |x::xs=>by simp only[Jl,zBS,h x,zH2 h xs,L7]
theorem uZ{α:Type}{f g:α→T}(h:∀x,strip (f x)=g x):(xs:List α)→wO (xs.map f)=xs.map g
 | []=>rfl
 |x::xs=>by simp only[Jl,wO,h x,uZ h xs]
instance:Enc I:=⟨zOJ,fun _=>rfl,fun _=>rfl,fun _=>rfl,fun _=>rfl⟩
instance:Enc B:=⟨zVr,fun _=>rfl,fun _=>rfl,fun _=>rfl,fun _=>rfl⟩
instance{k:IntKind}:Enc (IK k):=⟨fun _=>by simp[zW,yN],fun _=>rfl,fun _=>rfl,fun _=>rfl,fun _=>rfl⟩
instance:Enc Str:=⟨fun _=>by simp[zW,yN],fun _=>rfl,fun _=>rfl,fun _=>rfl,fun _=>rfl⟩
instance{α:Type}{k:Nat}{f:α→T}[h:Enc f]:Enc (L k f):=
 ⟨fun _=>zOI h.clean,fun xs=>by simp only[wY];exact zH1 h.rofree xs,fun xs=>by simp only[L,strip,uZ h.strip xs],fun _=>rfl,fun xs=>by simp only[zF5,zH2 h.rook xs]⟩
instance{α:Type}{f:α→T}[h:Enc f]:Enc (A2 f):=
 ⟨fun x=>by simp only[zW,yN,xH];exact⟨h.clean _,h.clean _,trivial⟩,fun x=>by simp only[wY,uG,h.rofree,L7],fun x=>by simp only[A2,strip,wO,h.strip],
  fun x=>by simp only[T.okTup,yK,h.okTup,L7],fun x=>by simp only[zF5,zBS,h.rook,L7]⟩
instance{α:Type}{f:α→T}[h:Enc f]:Enc (Pt f):=
 ⟨fun x=>by simp only[zW,yN];exact h.clean x,fun x=>by simp only[wY,h.rofree],fun x=>by simp only[Pt,strip,h.strip],fun _=>rfl,fun x=>by simp only[zF5,h.rook]⟩
class uH {α:Type} (f g:α→T):Prop where
 h:∀x,strip (f x)=g x
instance{α:Type}{f:α→T}[h:Enc f]:uH f f:=⟨h.strip⟩
instance{α:Type}{k:Nat}{f g:α→T}[h:uH f g]:uH (L k f) (L k g):=⟨fun xs=>by simp only[L,strip,uZ h.h xs]⟩
instance{α:Type}{k:Nat}{g:α→T}:uH (Ro (L k g)) (L k g):=⟨fun _=>rfl⟩
instance{α:Type}{g:α→T}:uH (Ro (Pt g)) (Pt g):=⟨fun _=>rfl⟩
theorem stA{xs ys:List T}(h:wO xs=ys):strip (.agg xs)=.agg ys:=by grind[strip]
theorem stC{x y:T}{xs ys:List T}(h:strip x=y)(h2:wO xs=ys):wO (x::xs)=y::ys:=by grind[wO]
section
variable {E:Env}{rw:Rw}{i s r:Nat}{q:List Nat}{x:Operand}
theorem zPY{α:Type}{k:Nat}{f g:α→T}{xs:List α}(h:uH f g):clo E (L k f xs)=.ro (L k g xs):=by simp only[clo,L,strip,uZ h.h xs]
theorem yCk{t u:T}(h:strip t=u):clo E (.ptr t)=.ro (.ptr u):=by grind[clo,strip]
theorem zFD{tr u:T}(hr:E r=iz tr)(hg:tr.get q.reverse=iz u)(h4:zAV u=iB):qP E 4 r q=iz (r,q,u):=by grind[zAV,qP]
theorem zMY{α:Type}{k:Nat}{f g:α→T}{xs:List α}{tr:T}(hr:E r=iz tr)(hg:tr.get q.reverse=iz (L k f xs))(h:uH f g):clo E (.same r q)=.ro (L k g xs):=by simp only[clo,zFD hr hg rfl,T.single,if_true,L,strip,uZ h.h xs]
theorem zY1{α:Type}{k l h:Nat}{f g:α→T}{xs:List α}{tr:T}(hr:E r=iz tr)(hg:tr.get q.reverse=iz (L k f xs))(hs:uH f g)(h1:l≤h)(h2:h≤xs.length):clo E (.sub r q k l h)=.ro (L k g ((xs.drop l).take (h-l))):=by simp only[clo,zFD hr hg rfl,L,uZ hs.h xs,Jo,h1,h2,and_self,if_true,Qw,Gx]
theorem zY2{xs ys:List T}(h:zBU E xs=ys):clo E (.agg xs)=.agg ys:=by grind[clo]
theorem yA4:zBU E []=[]:=rfl
theorem zRH{x y:T}{xs ys:List T}(h:clo E x=y)(h2:zBU E xs=ys):zBU E (x::xs)=y::ys:=by grind[zBU]
mutual
theorem zJh(s:Nat):(t:T)→t.okTup=iB→sX E [] s t=iB
 |.agg xs,h=>by simp only[sX,T.okTup]at h ⊢;exact zH3 s xs h
 |.tup _,h=>by grind[T.okTup]
 |.same r q,_|.sub r q _ _ _,_=>by grind[sX]
 |.sl _ _,_|.ptr _,_=>by rfl
 |.lit _,_|.ro _,_|.any,_|.addr _ _,_=>by rfl
theorem zH3(s:Nat):(xs:List T)→yK xs=iB→zBj E [] s xs=iB
 | [],_=>rfl
 |x::xs,h=>by simp only[yK,J3]at h;simp only[zBj,zJh s x h.1,zH3 s xs h.2,L7]
end
theorem agC{u:T}(t:T)(h:opT E x=iz t)(h1:clo E t=u)(h2:t.okTup=iB):zCC E [] i x u:=.inr ⟨t,h,h1,by
 cases x with
 |tmp s=>exact zJh s t h2
 |_=>rfl⟩
end
section
variable {P:Program}{Γ:Ctx}{E:Env}{d:Nat}{x y:Operand}{ty:TypeId}{ps:String}{af:Array Edge}{gd:Option (Nat×Bool)}
abbrev zCD(res:List T):Prop:=yU res∧yK res=iB∧uG res=iB
theorem zEr:zCD []:=⟨trivial,rfl,rfl⟩
theorem zFE{α:Type}{f:α→T}{x:α}{ts:List T}(h:Enc f)(h2:zCD ts):zCD (f x::ts):=
 ⟨⟨h.clean x,h2.1⟩,by simp only[yK,h.okTup,h2.2.1,L7],by simp only[uG,h.rofree,h2.2.2,L7]⟩
abbrev zBl(P:Program)(f:FuncId):Prop:=∀args w,(callFunc f args).run P w=.ok (.enter f args) w
theorem zAD{f:FuncId}{xs:List Operand}{ats:Array TypeId}{us res:List T}(gv:zBl P f)(hc:FnC P f us res [])(gk:xS E [] 0 xs us)(gA:zCD res)(sd:J4 d Γ.N=iB):
  Ok P Γ ⟨iz d,.call { callee:=.value (.func f),args:=xs.toArray,argTypes:=ats },ty,ps,af,gd⟩ E (E.app (cWr d res []) (vK d [])):=
 fun _S=>zOG f (.func f) xs ats us res [] rfl rfl (zZ sd) gv rfl hc gk .nil gA
theorem zVs{f:FuncId}{xs:List Operand}{ats:Array TypeId}{us res:List T}(gv:zBl P f)(hc:FnC P f us res [])(gm:xs.length=us.length)(gk:∀(i:Nat) u,us[i]? =iz u→ ∃x,xs[i]? =iz x∧opT E x=iz u∧u.flat=iB)(gA:yU res∧yK res=iB)(sd:J4 d Γ.N=iB):
  Ok P Γ ⟨iz d,.call { callee:=.value (.func f),args:=xs.toArray,argTypes:=ats },ty,ps,af,gd⟩ E (E.app (cWr d res []) (vK d [])):=
 fun _S=>zR7 f (.func f) xs ats us res rfl rfl (zZ sd) gv rfl hc gm gk gA
class qR (P:Program) (S:TypeId) (j:Nat) (off:outParam Nat):Prop where
 h:∃fs f fi,P.underlying S=iz (.struct fs)∧fs[j]? =iz f∧P.info? f.type=iz fi∧fi.size≠0∧off=f.offset
theorem zY3{S:TypeId}{j off r:Nat}{q:List Nat}{xs:List T}{u:T}(ht:qR P S j off)(hx:tL E x=iz (r,q,.ptr (.agg xs)))(hu:xs[j]? =iz u)(gG:T.sizes (xs.take j)=off)(sd:J4 d Γ.N=iB):
  Ok P Γ ⟨iz d,.fieldAddr S x j,ty,ps,af,gd⟩ E (E.app [(d,iz (.addr r (j::0::q)))] [(d,0)]):=by
 obtain⟨fs,f,fi,h1,h2,h3,h4,h5⟩:=ht.h;exact fun _=>yAq x S fs f fi j r q xs u rfl rfl (zZ sd) h1 h2 h3 h4 hx hu (by omega)
theorem yA5{S:TypeId}{j off r:Nat}{q:List Nat}{t:T}{xs:List T}{u:T}(ht:qR P S j off)(hx:opT E x=iz (.addr r q))(hr:E r=iz t)(hg:t.get q.reverse=iz (.agg xs))(hu:xs[j]? =iz u)(gG:T.sizes (xs.take j)=off)(sd:(J4 d Γ.N&&t.locd q.reverse)=iB):
  Ok P Γ ⟨iz d,.fieldAddr S x j,ty,ps,af,gd⟩ E (E.app [(d,iz (.addr r (j::q)))] [(d,0)]):=by
 obtain⟨fs,f,fi,h1,h2,h3,h4,h5⟩:=ht.h;simp only[J3]at sd;exact fun _=>zMN x S fs f fi j r q t xs u rfl rfl (zZ sd.1) h1 h2 h3 h4 hx hr hg sd.2 hu (by omega)
theorem zRI{S:TypeId}{j off:Nat}{xs:List T}{u:T}(ht:qR P S j off)(hx:opT E x=iz (.ro (.ptr (.agg xs))))(hu:xs[j]? =iz u)(gG:T.sizes (xs.take j)=off)(sd:J4 d Γ.N=iB):
  Ok P Γ ⟨iz d,.fieldAddr S x j,ty,ps,af,gd⟩ E (E.app [(d,iz (.ro (.ptr u)))] [(d,0)]):=by
 obtain⟨fs,f,fi,h1,h2,h3,h4,h5⟩:=ht.h;exact fun _=>zRm x S fs f fi j xs u rfl rfl (zZ sd) h1 h2 h3 h4 hx hu (by omega)
def zO{α:Type}(xs:List α)(l h:Int):Option (List α):=if 0≤l∧l≤h∧h≤(xs.length:Int)then iz ((xs.drop l.toNat).take (h.toNat-l.toNat))else iA
theorem yA6{α:Type}{t e:TypeId}{ti:TypeInfo}{r k:Nat}{q:List Nat}{f:α→T}{xs ys:List α}{lo hi:Option Operand}{l h:Int}(ht:zBZ P t e ti k)(hv:zO xs l h=iz ys)(hx:tL E x=iz (r,q,.ro (L k f xs)))(gW:zAz E lo 0 l.toNat)(ej:zAz E hi xs.length h.toNat)(sd:J4 d Γ.N=iB):
  Ok P Γ ⟨iz d,.slice t x lo hi iA,ty,ps,af,gd⟩ E (E.app [(d,iz (.ro (L k f ys)))] [(d,0)]):=by
 unfold zO at hv;split at hv
 ·rename_i hc
  simp at hv;subst hv;intro S;have:=zKM (P:=P) (Γ:=Γ.at S) (E:=E) (o:=⟨iz d,.slice t x lo hi iA,ty,ps,af,gd⟩) x lo hi t e ti r q k (xs.map f) l.toNat h.toNat rfl rfl (zZ sd) ht.un ht.info ht.size hx gW (by grind) (by omega) (by simp;omega);simpa[L,Qw,Gx]using this
 ·cases hv
theorem zLk{α:Type}{t e:TypeId}{ti:TypeInfo}{r k:Nat}{q:List Nat}{f:α→T}{xs ys:List α}{lo hi:Option Operand}{l h:Int}(ht:zBZ P t e ti k)(hv:zO xs l h=iz ys)(hx:tL E x=iz (r,q,L k f xs))(gW:zAz E lo 0 l.toNat)(ej:zAz E hi xs.length h.toNat)(sd:(J4 d Γ.N&&(r != d))=iB):
  Ok P Γ ⟨iz d,.slice t x lo hi iA,ty,ps,af,gd⟩ E (E.app [(d,iz (.sub r q k l.toNat h.toNat))] [(d,0)]):=by
 unfold zO at hv;simp only[J3]at sd;split at hv
 ·rename_i hc
  intro S;exact zJN (P:=P) (Γ:=Γ.at S) (E:=E) (o:=⟨iz d,.slice t x lo hi iA,ty,ps,af,gd⟩) x lo hi t e ti r q k (xs.map f) l.toNat h.toNat rfl rfl (zZ sd.1) ht.un ht.info ht.size hx gW (by grind) (by omega) (by simp;omega) (by grind)
 ·cases hv
end
end Go.Ab

namespace Go.Ab
open Go
theorem tV{t:T}(h:zW t):zW t:=h
theorem tQ{α:Type}{f:α→T}{k:Nat}{xs:List α}(hf:∀x,zW (f x)):zW (L k f xs):=zOI hf
theorem zRJ{t:T}(h:zW t):zW (.ptr t):=by simpa only[zW,yN]using h
theorem zKe{xs:List T}(h:yU xs):zW (.agg xs):=by simpa only[zW,yN]using h
section
variable {P:Program}{Γ:Ctx}{pn:jT}{E E':Env}{Q:Exit→Env→Prop}{c c1 c2:Code}{x:Operand}
theorem CW.condT(hx:opT E x=iz (B iB))(h:CW P Γ pn c1 E Q):CW P Γ pn (.cond x c1 c2) E Q:=by grind[CW.cond]
theorem CW.condF(hx:opT E x=iz (B iC))(h:CW P Γ pn c2 E Q):CW P Γ pn (.cond x c1 c2) E Q:=by grind[CW.cond]
theorem CW.casesB(b:Bool)(ht:b=iB→CW P Γ pn c E Q)(hf:b=iC→CW P Γ pn c E Q):CW P Γ pn c E Q:=by grind
theorem yA7{wr:Wr}{chg:Chg}{s:Nat}{t:T}(h:E s=iz t)(hf:wr.find s=iA:=by rfl)(hb:t.okB chg=iB:=by rfl):E.app wr chg s=iz t:=by grind[Env.app]
theorem yS.gh{ops:Array Oper}{o:Oper}{E1:Env}(hg:zP Γ E E1)(h:yS P Γ ops o E1 E'):yS P Γ ops o E E':=fun a w K Q hs hK=>h a w K Q (hg a w hs) hK
theorem zEP{t:T}(h:opT E x=iz (.ro (.ptr t))):zGi E x=iB:=by simp[zGi,h]
theorem zD9{r:Nat}{q:List Nat}{t:T}(h:tL E x=iz (r,q,.ptr t)):zGi E x=iB:=by grind[zGi]
end
theorem zY4{E:Env}{n:Nat}:zAz E iA n (n:Int).toNat:=by simp[zAz]
theorem zXG{E:Env}:zAz E iA 0 (0:Int).toNat:=by simp[zAz]
theorem zRK{E:Env}{x:Operand}{n:Int}{d:Nat}(h0:0≤n)(h:opT E x=iz (I n)):zAz E (iz x) d n.toNat:=⟨.i64,by grind⟩
theorem sM{α:Type}{xs ys:List α}{l h:Int}(hv:zO xs l h=iz ys):0≤l∧l≤h∧h≤xs.length∧ys=(xs.drop l.toNat).take (h.toNat-l.toNat):=by grind[zO]
theorem zFF{α:Type}{xs ys:List α}{l h:Int}(hv:zO xs l h=iz ys):0≤l:=(sM hv).1
theorem zFG{α:Type}{xs ys:List α}{l h:Int}(hv:zO xs l h=iz ys):0≤h:=by have:=sM hv;omega
theorem zKf{E:Env}{r k:Nat}{q:List Nat}{α:Type}{l h:Int}{f g:α→T}{xs ys:List α}{tr:T}(hr:E r=iz tr)(hg:tr.get q.reverse=iz (L k f xs))(hs:uH f g)(hv:zO xs l h=iz ys):
  clo E (.sub r q k l.toNat h.toNat)=.ro (L k g ys):=by
 obtain⟨h1,h2,h3,rfl⟩:=sM hv
 grind[zY1]
section
variable {P:Program}{Γ:Ctx}{E E':Env}{d:Nat}{x y:Operand}{ty:TypeId}{ps:String}{af:Array Edge}{gd:Option (Nat×Bool)}
theorem zCs{o:Oper}{e b:Bool}{d:Nat}{wr:Wr}{chg:Chg}(he:e=b)(h:Ok P Γ o E (E.app ((d,iz (B e))::wr) chg)):Ok P Γ o E (E.app ((d,iz (B b))::wr) chg):=he▸h
theorem yA8{t:TypeId}{u tr t0:T}{r:Nat}{q:List Nat}(ht:zVq P t u)(hx:tL E x=iz (r,q,.ptr t0))(hr:E r=iz tr)(hg:tr.get (0::q).reverse=iz u)(sd:(J4 d Γ.N&&tr.locd (0::q).reverse&&(r != d)&&T.okB [(d,0)] (cpT r u (0::q)))=iB):
  Ok P Γ ⟨iz d,.load t x,ty,ps,af,gd⟩ E (E.app [(d,iz (cpT r u (0::q)))] [(d,0)]):=by
 obtain⟨ds,ti,h1,h2,h3,h4⟩:=ht.h;simp only[J3]at sd;exact fun S=>zKJ x t ds ti r (0::q) tr u rfl rfl (zZ sd.1.1.1) h1 h2 h3 h4 (zCB.ptr hx) hr hg sd.1.1.2 (by grind) sd.2
theorem zXH{t:TypeId}{ti:TypeInfo}{r s:Nat}{q:List Nat}{tr tr' u0 u:T}(hi:P.info? t=iz ti)(gC:(ti.size==u.size&&J4 0 ti.size)=iB)(hx:∀S,zCB (Γ.at S) E x r q)(hr:E r=iz tr)(hg:tr.get q.reverse=iz u0)(gy:tr.set q.reverse u=tr')(hy:E s=iz u)(hu:zW u)
  (sd:(tr.single&&tr.locd q.reverse&&vS u u0&&(r != s)&&u.okTup)=iB):Ok P Γ ⟨iA,.store t x (.tmp s),ty,ps,af,gd⟩ E (E.app ((r,iz tr')::sWr r q (.slot s u)) ((r,q.length)::sL [.slot s u])):=by
 simp only[J3]at sd gC;subst gy;intro S;refine zIS (P:=P) (Γ:=Γ.at S) (E:=E) (o:=⟨iA,.store t x (.tmp s),ty,ps,af,gd⟩) t ti x (.tmp s) r q tr u0 (.slot s u) rfl rfl hi (by grind[yL.tree]) (zZ gC.2) (hx S) hr sd.1.1.1.1 hg sd.1.1.1.2 sd.1.1.2 (.slot s _)
  ⟨by grind,by simp,?_⟩
 grind[xI]
theorem zPZ{t:TypeId}{ti:TypeInfo}{r s:Nat}{q:List Nat}{tr tr' u0 u:T}(hi:P.info? t=iz ti)(gC:(ti.size==u.size&&J4 0 ti.size)=iB)(hx:opT E x=iz (.addr r q))(hr:E r=iz tr)(hg:tr.get q.reverse=iz u0)(gy:tr.set q.reverse u=tr')(hy:E s=iz u)(hu:zW u)
  (sd:(tr.single&&tr.locd q.reverse&&vS u u0&&(r != s)&&u.okTup)=iB):Ok P Γ ⟨iA,.store t x (.tmp s),ty,ps,af,gd⟩ E (E.app ((r,iz tr')::sWr r q (.slot s u)) ((r,q.length)::sL [.slot s u])):=
 zXH hi gC (fun _=>zCB.addr hx) hr hg gy hy hu sd
theorem zXI{t:TypeId}{ti:TypeInfo}{r s:Nat}{q:List Nat}{tr tr' u0 u t0:T}(hi:P.info? t=iz ti)(gC:(ti.size==u.size&&J4 0 ti.size)=iB)(hx:tL E x=iz (r,q,.ptr t0))(hr:E r=iz tr)(hg:tr.get (0::q).reverse=iz u0)(gy:tr.set (0::q).reverse u=tr')(hy:E s=iz u)(hu:zW u)
  (sd:(tr.single&&tr.locd (0::q).reverse&&vS u u0&&(r != s)&&u.okTup)=iB):Ok P Γ ⟨iA,.store t x (.tmp s),ty,ps,af,gd⟩ E (E.app ((r,iz tr')::sWr r (0::q) (.slot s u)) ((r,(0::q).length)::sL [.slot s u])):=
 zXH hi gC (fun _=>zCB.ptr hx) hr hg gy hy hu sd
theorem zH4{G:Gh}{s:Nat}:(xs:List T)→yK xs=iB→ ∀(p:List Nat)(i j:Nat)(u:T),xs[j]? =iz u→ ∃l1 l2,yF G s xs p i=l1++vals G s u ((i+j)::p)++l2∧l1.length=T.sizes (xs.take j)
 | [],_,_,_,_,_,h=>by simp at h
 |x::xs,ht,p,i,j,u,h=>by
  simp only[yK,J3]at ht;cases j with
  |zero=>simp at h;subst h;exact⟨[],yF G s xs p (i+1),by rfl,by rfl⟩
  |succ j=>
   obtain⟨l1,l2,h1,h2⟩:=zH4 xs ht.2 p (i+1) j u (by grind);refine⟨vals G s x (i::p)++l1,l2,by rw[yF,h1,show i+(j+1)=i+1+j from by omega];simp,?_⟩;rw[Ja,wX x _ (by rintro ys rfl;grind[T.okTup]),h2,Ky,T.sizes]
theorem zRL{S:TypeId}{j off s:Nat}{xs:List T}{u:T}(ht:qR P S j off)(hv:∃ds ti fs f,P.underlying S=iz (.struct fs)∧fs[j]? =iz f∧P.underlying f.type=iz ds∧P.info? f.type=iz ti∧zF0 ds= !u.single∧ti.size=u.size)(hx:E s=iz (.agg xs))(hu:xs[j]? =iz u)(gG:T.sizes (xs.take j)=off)
  (sd:(J4 d Γ.N&&yK xs&&u.okTup&&(s != d)&&T.okB [(d,0)] (cpT s u [j]))=iB):
  Ok P Γ ⟨iz d,.field S (.tmp s) j,ty,ps,af,gd⟩ E (E.app [(d,iz (cpT s u [j]))] [(d,0)]):=by
 obtain⟨fs,f,fi,h1,h2,h3,h4,h5⟩:=ht.h;obtain⟨ds,ti,fs',f',g1,g2,g3,g4,g5,g6⟩:=hv;simp only[J3]at sd;rw[h1]at g1;simp at g1;subst g1;rw[h2]at g2;simp at g2;subst g2;rw[h3]at g4;simp at g4;subst g4;intro S';refine xW.value rfl fun a w G gc=>?_
 obtain⟨k1,k2,_⟩:=gc.ent s _ hx;simp only[R]at k2;have k3:=zBF xs [] 0 j u k2 hu;simp only[J8]at k3;have gf:s≠d:=by grind
 have ee:∀ys,u≠.tup ys:=zBW sd.1.1.2;have hk:=G.put_keep (w:=w) (w':=w) rfl d (fun z=>G.hd s (z++[j]));have hz:∀z,(G.put d (fun z=>G.hd s (z++[j]))).hd d (z++[])=G.hd s (z++[j]):=by grind[Gh.put_self]
 refine⟨sK G s u [j],w,?_,_,vB gc rfl (zZ sd.1.1.1.1) (fun z=>G.hd s (z++[j])) (fun z=>gc.mem.one _ _) _ _ (by grind[zBh])
  (zEh (fun p=>G.put_other _ p gf) u [j] [] hz ee (hk.keepR (by grind[zAR,qL])) k3) (qL s u [j])⟩
 obtain⟨l1,l2,e1,e2⟩:=zH4 (G:=G) (s:=s) xs sd.1.1.1.2 [] 0 j u hu;simp only[J8]at e1;have e3:l1.length=f.offset:=by omega
 have e4:=wX (G:=G) (s:=s) u [j] ee;have tc:(part f.type (yF G s xs [] 0).toArray f.offset).run P w=.ok (sK G s u [j]) w:=by
  rw[e1];cases u with
  |agg ys=>
   simp[T.single]at g5;simp only[vals,T.size]at e4 g6 ⊢
   simp[part,kR g3,g5,sizeOf,typeInfo,h3,sK]
   grind
  |tup ys=>grind
  |_=>
   simp[T.single]at g5;simp[part,kR g3,g5,sK,vals,←e3]
 simp[execOp,xP k1,mkV,Instr.field,run_underlying h1,h2,asAgg,tc]
theorem zOL{α:Type}{t e:TypeId}{ti:TypeInfo}{k:Nat}{u:T}{n:Nat}{a:Int}{f:α→T}{z:α}(ht:ElT P t e ti k u)(hz:f z=u)(hn:yB a=iz n)(hx:opT E x=iz (I a))(hy:opT E y=iz (I a))(sd:J4 d Γ.N=iB):
  Ok P Γ ⟨iz d,.makeSlice t x y,ty,ps,af,gd⟩ E (E.app [(d,iz (L k f (J1 n z)))] [(d,0)]):=by
 have:=zYy (P:=P) (Γ:=Γ) (E:=E) (d:=d) (ty:=ty) (ps:=ps) (af:=af) (gd:=gd) ht hn hx hn hy (Jf _) sd;rw[←hz]at this;simpa[L]using this
theorem zXJ{t e:TypeId}{ti:TypeInfo}{k:Nat}{u:T}(ht:ElT P t e ti k u)(sd:J4 d Γ.N=iB):Ok P Γ ⟨iz d,.buildSlice t 0 #[],ty,ps,af,gd⟩ E (E.app [(d,iz (.sl k []))] [(d,0)]):=
 fun _=>zHi t e ti k rfl rfl (zZ sd) ht.un ht.info
theorem zY5{t:TypeId}{s:ByteArray}(hu:P.underlying t=iz .string)(hx:opT E x=iz (Str s))(sd:J4 d Γ.N=iB):
  Ok P Γ ⟨iz d,.call { callee:=.builtin .len,args:=#[x],argTypes:=#[t] },ty,ps,af,gd⟩ E (E.app [(d,iz (I s.size))] [(d,0)]):=by
 intro S;refine tO (.int .i64 s.size) rfl rfl (zZ sd) fun a w G gc=>?_
 have h1:=(yT gc hx).1;simp[execOp,resolve,invoke,builtin,h1,Builtin.len_,run_underlying hu,goInt]
theorem zRM{t e:TypeId}{s r k l h:Nat}{q:List Nat}{α:Type}{f:α→T}{xs:List α}{tr:T}(hu:P.underlying t=iz (.slice e))(hx:E s=iz (.sub r q k l h))(hr:E r=iz tr)(hg:tr.get q.reverse=iz (L k f xs))(sd:J4 d Γ.N=iB):
  Ok P Γ ⟨iz d,.call { callee:=.builtin .len,args:=#[.tmp s],argTypes:=#[t] },ty,ps,af,gd⟩ E (E.app [(d,iz (I ((h-l:Nat):Int)))] [(d,0)]):=by
 intro S;refine tO (.int .i64 ((h-l:Nat):Int)) rfl rfl (zZ sd) fun a w G gc=>?_
 obtain⟨h1,h2,_⟩:=gc.ent s _ hx;obtain⟨_,h4,_⟩:=gc.ent r _ hr;simp only[R]at h2;have h5:=(zAL q.reverse tr _ [] h4 hg).1;simp only[rp,K0,J9]at h5;obtain⟨a',c,h6⟩:=zGC h5;rw[h6]at h2;simp[execOp,resolve,invoke,builtin,xP h1,mkV,h2,zBf,Builtin.len_,run_underlying hu,goInt]
theorem zVt{P:Program}{w:World}{t:TypeId}{a b:Bool}(n:Nat)(h:P.underlying t=iz .bool):(Op.equalIn (n+1) t (.bool a) (.bool b)).run P w=.ok (a==b) w:=by simp only[Op.equalIn,Sem.run_bind,run_underlying h];rfl
theorem zH5(t:TypeId)(x y:Value):Op.equal t x y=Op.equalIn (9999+1) t x y:=rfl
theorem zY6{a b:Bool}{xt yt:TypeId}(hu:P.underlying xt=iz .bool)(hx:opT E x=iz (B a))(hy:opT E y=iz (B b))(sd:J4 d Γ.N=iB):Ok P Γ ⟨iz d,.binOp .eql xt x y yt,ty,ps,af,gd⟩ E (E.app [(d,iz (B (a==b)))] [(d,0)]):=by
 intro S;refine tO _ rfl rfl (zZ sd) fun c w G gc=>?_
 have h1:=(yT gc hx).1;have h2:=(yT gc hy).1;have h3:=zVt (P:=P) (w:=w) (a:=a) (b:=b) 9999 hu;simp[execOp,h1,h2,eqGuard,binOp,zH5,h3]
theorem zGG{P:Program}{w:World}{t:TypeId}{k:IntKind}{a b:Int}(n:Nat)(h:P.underlying t=iz (.int k)):(Op.equalIn (n+1) t (.int k a) (.int k b)).run P w=.ok (a==b) w:=by simp only[Op.equalIn,Sem.run_bind,run_underlying h];simp
end
end Go.Ab

namespace Go.Ab
open Go
def zBH:List Nat→Bool
 | []=>iB
 |x::xs=> !xs.contains x&&zBH xs
theorem zDA:{l:List Nat}→zBH l=iB→l.Nodup
 | [],_=>by simp
 |x::xs,h=>by simp only[zBH,J3,G4,Lr,decide_eq_false_iff_not]at h;exact Kr.2 ⟨h.1,zDA h.2⟩
def zCt(E:Env):List yL→Prop
 | []=>True
 |.slot s t::l=>(E s=iz t∧zW t∧t.okTup=iB)∧zCt E l
 |.zero u::l=>u.zOk=iB∧zCt E l
theorem zCt.get{E:Env}:(l:List yL)→zCt E l→(∀s t,yL.slot s t∈l→E s=iz t∧zW t∧t.okTup=iB)∧ ∀u,yL.zero u∈l→u.zOk=iB
 | [],_=>⟨fun _ _ h=>by simp at h,fun _ h=>by simp at h⟩
 |.slot s t::l,h=>by
  obtain⟨h1,h2⟩:=zCt.get l h.2;exact⟨fun s' t' hm=>by
   rcases Jp.1 hm with e|hm
   ·cases e;exact h.1
   ·exact h1 s' t' hm,fun u hm=>by
   rcases Jp.1 hm with e|hm
   ·cases e
   ·exact h2 u hm⟩
 |.zero u::l,h=>by
  obtain⟨h1,h2⟩:=zCt.get l h.2;exact⟨fun s' t' hm=>by
   rcases Jp.1 hm with e|hm
   ·cases e
   ·exact h1 s' t' hm,fun u' hm=>by
   rcases Jp.1 hm with e|hm
   ·cases e;exact h.1
   ·exact h2 u' hm⟩
section
variable {E:Env}
theorem pkN:zCt E []:=trivial
theorem pkS{s:Nat}{t:T}{l:List yL}(h:E s=iz t)(hc:zW t)(h3:t.okTup=iB)(hl:zCt E l):zCt E (.slot s t::l):=⟨⟨h,hc,h3⟩,hl⟩
theorem pkZ{u:T}{l:List yL}(h:u.zOk=iB)(hl:zCt E l):zCt E (.zero u::l):=⟨h,hl⟩
theorem zCt.parts{d:Nat}{l:List yL}(h:zCt E l)(hn:zBH (d::xI l)=iB):tP E d l:=⟨(zCt.get l h).1,(zCt.get l h).2,zDA hn⟩
def zCJ(E:Env)(zs:List T)(ps:List yL):List (Nat×Operand)→List (Nat×yL)→Prop
 | [],[]=>True
 |x::xs,q::qs=>(x.1=q.1∧zAC E x.2 q.2∧ps[q.1]? =iz q.2∧ ∃u,zs[q.1]? =iz u∧u.size=q.2.tree.size)∧zCJ E zs ps xs qs
 |_,_=>False
theorem bqN{zs:List T}{ps:List yL}:zCJ E zs ps [] []:=trivial
theorem bqC{zs:List T}{ps:List yL}{i:Nat}{x:Operand}{q:yL}{xs:List (Nat×Operand)}{qs:List (Nat×yL)}(h:zAC E x q)(hl:zCJ E zs ps xs qs)(h1:ps[i]? =iz q:=by rfl)(h2:∃u,zs[i]? =iz u∧u.size=q.tree.size:=by exact⟨_,rfl,rfl⟩):zCJ E zs ps ((i,x)::xs) ((i,q)::qs):=⟨⟨rfl,h,h1,h2⟩,hl⟩
theorem zCJ.ix{zs:List T}{ps:List yL}:(pl:List (Nat×Operand))→(qs:List (Nat×yL))→zCJ E zs ps pl qs→pl.map (·.1)=qs.map (·.1)
 | [],[],_=>rfl
 |x::xs,q::qs,h=>by simp[h.1.1,zCJ.ix xs qs h.2]
 | [],_::_,h=>by simp[zCJ]at h
 |_::_,[],h=>by simp[zCJ]at h
theorem zCJ.get{zs:List T}{ps:List yL}:(pl:List (Nat×Operand))→(qs:List (Nat×yL))→zCJ E zs ps pl qs→ ∀(j:Nat)(x:Nat×Operand)(q:Nat×yL),pl[j]? =iz x→qs[j]? =iz q→zAC E x.2 q.2∧q.2∈ps∧ ∃u,zs[q.1]? =iz u∧u.size=q.2.tree.size
 | [],[],_,j,_,_,h,_=>by simp at h
 |x::xs,q::qs,h,j,x',q',h1,h2=>by
  cases j with
  |zero=>simp at h1 h2;subst h1;subst h2;exact⟨h.1.2.1,Ld h.1.2.2.1,h.1.2.2.2⟩
  |succ j=>exact zCJ.get xs qs h.2 j x' q' (by simpa using h1) (by simpa using h2)
 | [],_::_,h,_,_,_,_,_=>by simp[zCJ]at h
 |_::_,[],h,_,_,_,_,_=>by simp[zCJ]at h
end
class zG7 (P:Program) (t:TypeId) (zs:outParam (List T)):Prop where
 h:∃(place:Nat→Option (Nat×Nat))(z:Value),(∀parts,P.built t parts=Instr.fill place z.cells parts)∧qB zs=z.cells.toList∧zAT zs=iB∧ ∀i u,zs[i]? =iz u→place i=iz (T.sizes (zs.take i),u.size)
section
variable {P:Program}{Γ:Ctx}{E E':Env}{d:Nat}{x y:Operand}{ty:TypeId}{ps:String}{af:Array Edge}{gd:Option (Nat×Bool)}
theorem zVu{t:TypeId}{zs:List T}{pa:Array (Nat×Operand)}(hb:zG7 P t zs)(pl:List (Nat×Operand))(qs:List (Nat×yL))(pp:List yL)(gB:zCt E pp)(hq:zCJ E zs pp pl qs)(sd:(J4 d Γ.N&&zBH (d::xI pp))=iB)
  (fg:pa=pl.toArray:=by rfl)(gI:qs.foldl (fun ps q=>ps.set q.1 q.2) (zs.map yL.zero)=pp:=by rfl):Ok P Γ ⟨iz d,.build t pa,ty,ps,af,gd⟩ E (E.app ((d,iz (.agg (pp.map yL.tree)))::pWr d pp 0) ((d,0)::sL pp)):=by
 obtain⟨place,z,h1,h2,h3,h4⟩:=hb.h;simp only[J3]at sd;subst fg;exact fun S=>zRv t place z zs pl qs pp rfl rfl (zZ sd.1) h1 h2 h3 h4 gI (gB.parts sd.2) (zCJ.ix _ _ hq) (zCJ.get _ _ hq)
def zLl(k:Nat):List yL→Bool
 | []=>iB
 |p::l=>(p.tree.size==k)&&zLl k l
theorem zLm{k:Nat}:(l:List yL)→zLl k l=iB→ ∀p∈l,p.tree.size=k
 | [],_,_,h=>by simp at h
 |p::l,h,q,hm=>by
  simp only[zLl,J3,beq_iff_eq]at h;rcases Jp.1 hm with rfl|hm
  ·exact h.1
  ·exact zLm l h.2 q hm
theorem yCl{α:Type}{t e:TypeId}{ti:TypeInfo}{k n:Nat}{u:T}{pa:Array (Nat×Operand)}(ht:ElT P t e ti k u)(xs:List Operand)(pp:List yL)(ys:List α)(f:α→T)(hx:uF E xs pp)(gB:zCt E pp)
  (sd:(J4 d Γ.N&&zBH (d::xI pp)&&zLl k pp&&J4 0 n&&Ul (n*k) 65536)=iB)(hn:xs.length=n)(fg:pa=((xs.zipIdx 0).map fun x=>(x.2,x.1)).toArray:=by rfl)(hy:pp.map yL.tree=ys.map f:=by rfl):
  Ok P Γ ⟨iz d,.buildSlice t n pa,ty,ps,af,gd⟩ E (E.app ((d,iz (L k f ys))::pWr d pp 0) ((d,0)::sL pp)):=by
 obtain⟨z,hz,_⟩:=ht.zero;simp only[J3]at sd;subst fg;intro S;have eK:n*k≤65536:=by simpa[Nat.ble_eq]using sd.2
 have:=zI7 (P:=P) (Γ:=Γ.at S) (E:=E) (o:=⟨iz d,.buildSlice t n ((xs.zipIdx 0).map fun x=>(x.2,x.1)).toArray,ty,ps,af,gd⟩) t e ti z k n xs pp rfl rfl (zZ sd.1.1.1.1) ht.un ht.info hz ht.size ht.pos hn (zZ sd.1.2) (by omega) hx (gB.parts sd.1.1.1.2) (zLm pp sd.1.1.2);rw[hy]at this;exact this
theorem zLn{α:Type}{f g:α→T}(h:∀y,roT (g y)=f y):(ys:List α)→roT.roTs (ys.map g)=ys.map f
 | []=>rfl
 |y::ys=>by simp only[Jl,roT.roTs,h y,zLn h ys]
theorem zMZ{α:Type}{t e:TypeId}{ti:TypeInfo}{k r:Nat}{q:List Nat}{u:T}{f g:α→T}{xs ys zs:List α}{s0:Nat}(ht:ElT P t e ti k u)(ah:∀y,roT (g y)=f y)(gC:∀y,(g y).size=k)(hg:Enc g)(hv:yG xs ys=iz zs)(h0:E s0=iz (L k f xs))(h1:tL E y=iz (r,q,.ro (L k g ys)))(sd:(J4 d Γ.N&&(s0 != d))=iB):
  Ok P Γ ⟨iz d,.call { callee:=.builtin .append,args:=#[.tmp s0,y],argTypes:=#[t,t] },ty,ps,af,gd⟩ E (E.app [(d,iz (L k f zs)),(s0,iz .any)] [(d,0),(s0,1)]):=by
 obtain⟨rfl,hl⟩:=zFC hv;obtain⟨z,hz,fA⟩:=ht.zsize;simp only[J3]at sd;intro S;have:=zJX (P:=P) (Γ:=Γ.at S) (E:=E) (o:=⟨iz d,.call { callee:=.builtin .append,args:=#[.tmp s0,y],argTypes:=#[t,t] },ty,ps,af,gd⟩) t e ti z k s0 y r q (xs.map f) (ys.map g) rfl rfl (zZ sd.1) ht.un ht.info hz ht.size ht.pos fA ht.bytes h0 h1 (zH2 hg.rook ys)
  (by intro v hv;obtain⟨y,_,rfl⟩:=Jj.1 hv;exact gC y) (by simpa using sd.2) (by simpa using hl)
 rw[zLn ah,←Lp]at this;exact this
def yO{α:Type}(xs:List α)(m:Int)(z:α):Option (List α):=if 0≤m∧xs.length+m.toNat≤68719476736 then iz (xs++J1 m.toNat z)else iA
theorem zNa{α:Type}{t t2 e:TypeId}{k2:IntKind}{ti:TypeInfo}{k:Nat}{u:T}{f:α→T}{z:α}{xs zs:List α}{s0:Nat}{m:Int}(ht:ElT P t e ti k u)(cu:P.underlying t2=iz (.int k2))(hz:f z=u)(hv:yO xs m z=iz zs)(h0:E s0=iz (L k f xs))(h1:opT E y=iz (I m))(sd:(J4 d Γ.N&&(s0 != d))=iB):
  Ok P Γ ⟨iz d,.call { callee:=.builtin .append,args:=#[.tmp s0,y],argTypes:=#[t,t2] },ty,ps,af,gd⟩ E (E.app [(d,iz (L k f zs)),(s0,iz .any)] [(d,0),(s0,1)]):=by
 unfold yO at hv;split at hv
 ·rename_i hc
  simp at hv;subst hv;obtain⟨zv,ma,fC⟩:=ht.zero;simp only[J3]at sd;obtain⟨n,rfl⟩:∃n:Nat,m=n:=⟨m.toNat,by omega⟩;intro S;have:=zHr (P:=P) (Γ:=Γ.at S) (E:=E) (o:=⟨iz d,.call { callee:=.builtin .append,args:=#[.tmp s0,y],argTypes:=#[t,t2] },ty,ps,af,gd⟩) t t2 e k2 ti zv u k s0 y .i64 n (xs.map f) rfl rfl (zZ sd.1) ht.un cu ht.info ma ht.size ht.pos ht.bytes ht.zok fC ht.us h0 h1
   (by simpa using sd.2) (by simp at hc ⊢;omega)
  have e:xs.map f++J1 n u=(xs++J1 n z).map f:=by simp[hz]
  rw[e]at this;have h2:((n:Int)).toNat=n:=by simp
  rw[h2];exact this
 ·cases hv
end
section
variable {Γ:Ctx}{E:Env}
theorem zP.trq(d r:Nat)(q:List Nat){tr u tr':T}(hd:E d=iz (.same r q))(hr:E r=iz tr)(hg:tr.get q.reverse=iz u)(eZ:zW u)(sd:(u.single&&wC tr&&tr.okB [(d,1),(r,q.length+1)]&&(d != r))=iB)(gy:(if q=[]then .same d []else tr.set q.reverse .any)=tr':=by rfl):
  zP Γ E (E.app [(d,iz u),(r,iz tr')] [(d,1),(r,q.length+1)]):=by
 simp only[J3]at sd
 rintro a w ⟨S,hS,hs⟩
 have gf:d≠r:=by simpa using sd.2
 have:=zMT hs d [] r q (.same r q) tr u hd rfl hr hg sd.1.1.1 eZ gf (by simp[T.okB,zAM,gf]) sd.1.2 rfl sd.1.1.2;subst gy;exact⟨S,hS,this⟩
theorem zP.trf(d:Nat)(g:List Nat)(r:Nat)(q:List Nat)(td tr:T){u td' tr':T}(hd:E d=iz td)(px:td.get g.reverse=iz (.same r q))(hr:E r=iz tr)(hg:tr.get q.reverse=iz u)(gy:td.set g.reverse u=td')(eZ:zW u)
  (sd:(u.single&&wC td&&wC tr&&td.okB [(d,g.length+1),(r,q.length+1)]&&tr.okB [(d,g.length+1),(r,q.length+1)]&&(d != r))=iB)(cx:(if q=[]then .same d g else tr.set q.reverse .any)=tr':=by rfl):
  zP Γ E (E.app [(d,iz td'),(r,iz tr')] [(d,g.length+1),(r,q.length+1)]):=by
 simp only[J3]at sd
 rintro a w ⟨S,hS,hs⟩
 have gf:d≠r:=by simpa using sd.2
 have:=zMT hs d g r q td tr u hd px hr hg sd.1.1.1.1.1 eZ gf sd.1.1.2 sd.1.2 sd.1.1.1.1.2 sd.1.1.1.2;subst gy cx;exact⟨S,hS,this⟩
theorem zP.frz{α:Type}(s:Nat){k:Nat}{f g:α→T}(xs:List α)(hs:E s=iz (L k f xs))(h:uH f g):zP Γ E (E.app [(s,iz (.ro (L k g xs)))] [(s,1)]):=by have:=zP.freeze (Γ:=Γ) s _ hs;simp only[vV,strip,uZ h.h xs]at this;exact this
theorem zP.res(d r:Nat)(q:List Nat)(tr:T){u:T}(hd:E d=iz (.same r q))(hr:E r=iz tr)(hg:tr.get q.reverse=iz (.ro u)):zP Γ E (E.app [(d,iz (.ro u))] []):=by
 rintro a w ⟨S,hS,gZ,G,gc⟩
 refine⟨S,hS,gZ,G,?_⟩;have hk:jS [] G w G w:=⟨fun _ _ _=>rfl,fun _ _ _=>rfl,fun _ _ _ _ _ _ h _=>⟨h,rfl⟩,fun _ _ _ h _=>h,fun b cs e h=>⟨cs,h,rfl⟩⟩;refine vJ gc rfl hk gc.mem (fun s _=>⟨fun n hn=>by simp at hn,rfl⟩) fun s t hs=>?_
 simp only[Wr.find]at hs;split at hs
 ·rename_i e;subst e
  simp at hs;subst hs;obtain⟨h1,h2,_⟩:=gc.ent d _ hd;obtain⟨_,h4,_⟩:=gc.ent r _ hr;simp only[R]at h2;have h5:=(zAL q.reverse tr _ [] h4 hg).1;simp only[rp,K0,J9,R]at h5;exact⟨by rw[h1];rfl,by simp only[R];rw[h2];exact h5,by simp[Top]⟩
 ·cases hs
end
theorem zKg:(p:List Nat)→ ∀(t u0 a:T),t.get p=iz u0→(t.set p a).get p=iz a
 | [],t,_,a,_=>by cases t<;>cases a<;>rfl
 |i::p,t,u0,a,h=>by
  cases t with
  |sl k xs|agg xs|tup xs=>
   simp only[T.get,T.set]at h ⊢
   cases hx:xs[i]? with
   |none=>rw[hx]at h;cases h
   |some x=>
    rw[hx]at h;have hi:=(Je.1 hx).1;simp only[];simp only[T.get,Q7 hi];exact zKg p x u0 a h
  |ptr t=>
   simp only[T.get,T.set]at h ⊢
   split at h
   ·rename_i e;subst e;simp only[if_true,T.get];exact zKg p t u0 a h
   ·cases h
  |_=>simp[T.get]at h
theorem set_set:(p:List Nat)→ ∀(t u0 a b:T),t.get p=iz u0→(t.set p a).set p b=t.set p b
 | [],t,_,a,_,_=>by cases t<;>cases a<;>rfl
 |i::p,t,u0,a,b,h=>by
  cases t with
  |sl k xs|agg xs|tup xs=>
   simp only[T.get,T.set]at h ⊢
   cases hx:xs[i]? with
   |none=>rw[hx]at h;cases h
   |some x=>
    rw[hx]at h;have hi:=(Je.1 hx).1;simp only[];simp only[T.set,Q7 hi,List.set_set,set_set p x u0 a b h]
  |ptr t=>
   simp only[T.get,T.set]at h ⊢
   split at h
   ·rename_i e;subst e;simp only[if_true,T.set,set_set p t u0 a b h]
   ·cases h
  |_=>simp[T.get]at h
def jU:T→Bool
 |.sl _ _|.ptr _=>iB
 |_=>iC
theorem zRN{t:T}(h:jU t=iB)(p:List Nat){u:T}(hp:p≠[]):jU (t.set p u)=iB:=by
 cases p with
 |nil=>exact absurd rfl hp
 |cons i p=>cases t<;>simp[jU]at h<;>simp only[T.set]<;>split<;>rfl
theorem uV{t:T}(h:jU t=iB)(chg:Chg):t.okB chg=iB∧wC t=iB∧t.single=iB:=by cases t<;>simp[jU]at h<;>simp[T.okB,wC,T.single]
section
variable {P:Program}{Γ:Ctx}{E E':Env}{d:Nat}{ty:TypeId}{ps:String}{af:Array Edge}{gd:Option (Nat×Bool)}
theorem agM{E:Env}{rw:Rw}{i:Nat}{x:Operand}{u:T}(t:T)(h:opT E x=iz t)(h1:clo E t=u)(h2:zIW E (rw.map (·.2.1)) x t=iB):zCC E rw i x u:=.inr ⟨t,h,h1,h2⟩
theorem zVv{E:Env}{rw:Rw}{i s:Nat}{u u':T}(h:E s=iz u)(hc:zW u)(hr:wY u=iB)(hs:u.okTup=iB:=by rfl)(hm:(i,s,u')∈rw:=by exact List.mem_singleton.2 rfl):zCC E rw i (.tmp s) u:=.inl ⟨s,u',rfl,hm,h,hc,hs,hr⟩
abbrev wR(E:Env)(ds r:Nat)(q:List Nat)(tr u:T):Env:=E.app [(ds,iz u),(r,iz (if q=[]then .same ds []else tr.set q.reverse .any))] [(ds,1),(r,q.length+1)]
theorem zKh{f:FuncId}{xs:List Operand}{ats:Array TypeId}{us res:List T}{tr u u' tr':T}(i ds r:Nat)(q:List Nat)(gv:zBl P f)(hc:FnC P f us res [(i,u')])(hs:E ds=iz (.same r q))(hr:E r=iz tr)(hq:tr.get q.reverse=iz u)
  (eZ:zW u)(eP:zW u')(_:wY u=iB)(bT:wY u'=iB)(gk:xS (wR E ds r q tr u) [(i,ds,u')] 0 xs us)(gA:zCD res)(gy:tr.set q.reverse u'=tr')
  (sd:(J4 d Γ.N&&(d != ds)&&(d != r)&&(ds != r)&&jU u&&jU u'&&jU tr)=iB)(hx:xs[i]? =iz (.tmp ds))(hu:us[i]? =iz u):
  Ok P Γ ⟨iz d,.call { callee:=.value (.func f),args:=xs.toArray,argTypes:=ats },ty,ps,af,gd⟩ E ((((wR E ds r q tr u).app (cWr d res [(i,ds,u')]) (vK d [(i,ds,u')]))).app [(r,iz tr'),(ds,iz (.same r q))] [(r,q.length+1),(ds,1)]):=by
 simp only[J3]at sd;obtain⟨⟨⟨⟨⟨⟨s1,s2⟩,s3⟩,s4⟩,s5⟩,s6⟩,s7⟩:=sd;have d1:d≠ds:=by simpa using s2
 have d2:d≠r:=by simpa using s3
 have d3:ds≠r:=by simpa using s4
 obtain⟨u1,u2,u3⟩:=uV s5 [];obtain⟨v1,v2,v3⟩:=uV s6 [];have mu:cLv u'=1:=by simp[cLv,v3]
 subst gy;intro S
 by_cases be:q=[]
 ·subst be
  have htu:tr=u:=by
   have:tr.get []=iz tr:=by cases tr<;>rfl
   simp only[Ha]at hq;rw[this]at hq;exact Km.inj hq
  subst htu;have pN:∀a b:T,a.set [] b=b:=fun a b=>by cases a<;>rfl
  have mN:(wR E ds r [] tr tr) ds=iz tr:=by simp[wR,Env.app,Wr.find]
  have cY:((wR E ds r [] tr tr).app (cWr d res [(i,ds,u')]) (vK d [(i,ds,u')])) r=iz (.same ds []):=by
   have h1:(wR E ds r [] tr tr) r=iz (.same ds []):=by simp[wR,Env.app,Wr.find,d3]
   have h2:(cWr d res [(i,ds,u')]).find r=iA:=by simp[cWr,Wr.find,d2,d3]
   have h3:(T.same ds []).okB (vK d [(i,ds,u')])=iB:=by simp[T.okB,zAM,vK,d1,mu]
   simp only[Env.app,h2,h1,h3,if_true]
  have cZ:((wR E ds r [] tr tr).app (cWr d res [(i,ds,u')]) (vK d [(i,ds,u')])) ds=iz u':=by simp[Env.app,Wr.find,cWr,d1]
  have:=zLf (P:=P) (Γ:=Γ.at S) (E:=E) (o:=⟨iz d,.call { callee:=.value (.func f),args:=xs.toArray,argTypes:=ats },ty,ps,af,gd⟩) f (.func f) xs ats us res i ds r [] tr tr u' rfl rfl (zZ s1) gv rfl hs hr hq u3 eZ d3 d2 (uV s7 _).1 (uV s7 []).2.1
   (wR E ds r [] tr tr) _ rfl rfl hc gk (.one d1 hx eP v3 bT mN u3 hu) gA (.same ds []) (.same ds []) cY rfl rfl cZ eP v3 (by simp[T.okB,zAM]) rfl (uV s6 _).1 v2
  rw[Ha,pN]at this ⊢
  exact this
 ·have dF:q.reverse≠[]:=by simpa using be
  have mN:(wR E ds r q tr u) ds=iz u:=by simp[wR,Env.app,Wr.find]
  have iv:=zRN s7 q.reverse (u:=.any) dF;have cY:((wR E ds r q tr u).app (cWr d res [(i,ds,u')]) (vK d [(i,ds,u')])) r=iz (tr.set q.reverse .any):=by
   have h1:(wR E ds r q tr u) r=iz (tr.set q.reverse .any):=by simp[wR,Env.app,Wr.find,d3,be]
   have h2:(cWr d res [(i,ds,u')]).find r=iA:=by simp[cWr,Wr.find,d2,d3]
   simp[Env.app,h2,h1,(uV iv _).1]
  have cZ:((wR E ds r q tr u).app (cWr d res [(i,ds,u')]) (vK d [(i,ds,u')])) ds=iz u':=by simp[Env.app,Wr.find,cWr,d1]
  have:=zLf (P:=P) (Γ:=Γ.at S) (E:=E) (o:=⟨iz d,.call { callee:=.value (.func f),args:=xs.toArray,argTypes:=ats },ty,ps,af,gd⟩) f (.func f) xs ats us res i ds r q tr u u' rfl rfl (zZ s1) gv rfl hs hr hq u3 eZ d3 d2 (uV s7 _).1 (uV s7 []).2.1
   (wR E ds r q tr u) _ rfl rfl hc gk (.one d1 hx eP v3 bT mN u3 hu) gA (tr.set q.reverse .any) .any cY (zKg _ _ _ _ hq) rfl cZ eP v3 (uV iv _).1 (uV iv []).2.1 (uV s6 _).1 v2
  rw[set_set _ _ _ _ _ hq]at this;exact this
theorem zVw{f:FuncId}{xs:List Operand}{ats:Array TypeId}{us res:List T}{xf:Operand}(hf:opT E xf=iz (.lit (.func (.func f) #[] #[])))(gv:zBl P f)(hc:FnC P f us res [])(gk:xS E [] 0 xs us)(gA:zCD res)(sd:J4 d Γ.N=iB):
  Ok P Γ ⟨iz d,.call { callee:=.value xf,args:=xs.toArray,argTypes:=ats },ty,ps,af,gd⟩ E (E.app (cWr d res []) (vK d [])):=
 fun _=>zOG f xf xs ats us res [] rfl rfl (zZ sd) gv hf hc gk .nil gA
def zEs(E:Env):List Operand→List T→Prop
 | [],[]=>True
 |x::xs,u::us=>(opT E x=iz u∧u.flat=iB)∧zEs E xs us
 |_,_=>False
theorem afN:zEs E [] []:=trivial
theorem afC{x:Operand}{xs:List Operand}{u:T}{us:List T}(h:opT E x=iz u)(h1:u.flat=iB)(h2:zEs E xs us):zEs E (x::xs) (u::us):=⟨⟨h,h1⟩,h2⟩
theorem zEs.get:(xs:List Operand)→(us:List T)→zEs E xs us→ ∀(i:Nat) u,us[i]? =iz u→ ∃x,xs[i]? =iz x∧opT E x=iz u∧u.flat=iB
 | [],[],_,i,u,h=>by simp at h
 |x::xs,v::us,h,i,u,hi=>by
  cases i with
  |zero=>simp at hi;subst hi;exact⟨x,by simp,h.1⟩
  |succ i=>obtain⟨y,h1,h2⟩:=zEs.get xs us h.2 i u (by simpa using hi);exact⟨y,by simpa using h1,h2⟩
 | [],_::_,h,_,_,_=>by simp[zEs]at h
 |_::_,[],h,_,_,_=>by simp[zEs]at h
theorem zOM{f:FuncId}{xs:List Operand}{ats:Array TypeId}{us res:List T}(gv:zBl P f)(hc:FnC P f us res [])(ha:zEs E xs us)(gm:xs.length=us.length)(gA:yU res)(fN:yK res=iB)(sd:J4 d Γ.N=iB):
  Ok P Γ ⟨iz d,.call { callee:=.value (.func f),args:=xs.toArray,argTypes:=ats },ty,ps,af,gd⟩ E (E.app (cWr d res []) (vK d [])):=
 zVs gv hc gm (zEs.get _ _ ha) ⟨gA,fN⟩ sd
end
noncomputable def zCE {α:Type} (g:Nat→Option α):Option α:=
 open Classical in if h:∃r,∃n,∀m,n≤m→g m=iz r then iz h.choose else iA
theorem qS{α:Type}{g:Nat→Option α}{r:α}(h:zCE g=iz r):∃n,g n=iz r:=by
 unfold zCE at h;split at h
 ·rename_i he
  simp at h;obtain⟨n,hn⟩:=he.choose_spec;exact⟨n,by rw[←h];exact hn n (Jf _)⟩
 ·cases h
theorem zBm{α:Type}{g:Nat→Option α}{r:α}(n:Nat)(h:∀m,n≤m→g m=iz r):zCE g=iz r:=by have he:∃r,∃n,∀m,n≤m→g m=iz r:=⟨r,n,h⟩;unfold zCE;rw[dif_pos he];obtain⟨n',hn'⟩:=he.choose_spec;have h1:=h (max n n') (by omega);have h2:=hn' (max n n') (by omega);rw[h1]at h2;exact h2.symm
end Go.Ab

namespace Go.Ab
open Go
section
variable {P:Program}{Γ:Ctx}{ops:Array Oper}{o:Oper}{E:Env}
theorem yS.skipW{d:Nat}(hd:o.dst=iz d)(sd:J4 d Γ.N=iB)(hw:∀(a:Act)(w:World),kQ Γ E a w→Region.wanted o (yielded ops a.tmps)=iC):yS P Γ ops o E (E.app [(d,iz (.tup []))] [(d,0)]):=by
 intro a w K Q hs hK;rw[if_neg (by grind)];obtain⟨S,hS,gZ,G,gc⟩:=hs;refine hK _ _ ⟨S,hS,by rw[hd];exact gZ,G.put d (fun _=>.bool iC),?_⟩ ?_
 ·rw[hd]
  have hu:(Value.bool iC).oneCell'=iB:=rfl;refine vJ gc (by simp[Act.put]) (G.put_keep rfl d _) (gc.mem.put rfl d _ fun _=>hu) ?_ ?_
  ·grind[tU,Act.put]
  ·intro s t' hs
   rw[tU]at hs;split at hs
   ·rename_i e;subst e
    simp at hs;subst hs;have gC:=gc.size;have gH:=zZ sd;refine⟨?_,by simp[R,RF],by simp[Top,uI]⟩
    grind[Act.put,mkV,zAx,undef]
   ·cases hs
 grind[Act.put]
theorem yS.skip2{d:Nat}(g:Nat)(b b':Bool)(s:Nat)(hd:o.dst=iz d)(sd:J4 d Γ.N=iB)(fy:(b==b')=iC)(hg:o.guard=iz (g,b))(gP:(ops[g]?).bind (·.dst)=iz s)(hb:E s=iz (.lit (.bool b'))):
  yS P Γ ops o E (E.app [(d,iz (.tup []))] [(d,0)]):=.skipW hd sd fun a w hs=>by
 simp only[Region.wanted,hg,zHv hs gP hb]
 grind
theorem yS.skip3{d:Nat}(g:Nat)(b:Bool)(s:Nat)(hd:o.dst=iz d)(sd:J4 d Γ.N=iB)(hg:o.guard=iz (g,b))(gP:(ops[g]?).bind (·.dst)=iz s)(hb:E s=iz (.tup [])):
  yS P Γ ops o E (E.app [(d,iz (.tup []))] [(d,0)]):=.skipW hd sd fun a w hs=>by
 obtain⟨_,_,_,G,hr⟩:=hs;obtain⟨h1,_,_⟩:=hr.ent s _ hb
 grind[Region.wanted,yielded,mkV]
theorem yS.opE{E1 E':Env}(h:Ok P Γ o E E1)(e:E1=E')(hg:o.guard=iA:=by rfl):yS P Γ ops o E E':=e▸yS.op h hg
theorem yS.guardE{E1 E':Env}(g:Nat)(b:Bool)(s:Nat)(h:Ok P Γ o E E1)(hg:o.guard=iz (g,b))(gP:(ops[g]?).bind (·.dst)=iz s)(hb:E s=iz (.lit (.bool b)))(e:E1=E'):yS P Γ ops o E E':=e▸yS.guard g b s h hg gP hb
end
def xK(Γ:Ctx)(P:Program)(rs:Array ResultVar)(us res:List T)(rws:List (Nat×T)):Exit→Env→Prop:=fun e E=> ∃E',zP Γ E E'∧yAt P rs us res rws e E'
theorem FnC.of_bodyG{P:Program}{f:FuncId}{fn:Func}{c:Code}{us res:List T}{rws:List (Nat×T)}(hf:P.funcs[f]? =iz fn)(hb:fn.body=iz c)(hn:us.length≤fn.ntmps)(ht:uI us)(hr:rws.all (fun x=>decide (x.1<us.length))=iB)
  (h:∀(Γ:Ctx)(v:Nat→Value),Γ.N=fn.ntmps→CW P Γ (zCV v (rws.map (·.1))) c (wZ (zI9 0 us)) (xK Γ P fn.results us res rws)):FnC P f us res rws:=by
 refine FnC.of_body hf hb hn ht hr fun Γ v hN=>?_
 intro a w Q' hs hp hQ;refine h Γ v hN a w Q' hs hp ?_
 rintro e E a' w' ⟨E',hg,hq⟩ gS fY
 exact hQ e E' a' w' hq (hg a' w' gS) fY
def zVx(t:T):Prop:=zW t∧wY t=iB∧strip t=t∧t.okTup=iB∧zF5 t=iB
def zRO:List T→Prop
 | []=>True
 |x::xs=>zVx x∧zRO xs
theorem Enc.t{α:Type}{f:α→T}(h:Enc f)(x:α):zVx (f x):=⟨h.clean x,h.rofree x,h.strip x,h.okTup x,h.rook x⟩
theorem Enc.of{α:Type}{f:α→T}(h:∀x,zVx (f x)):Enc f:=⟨fun x=>(h x).1,fun x=>(h x).2.1,fun x=>(h x).2.2.1,fun x=>(h x).2.2.2.1,fun x=>(h x).2.2.2.2⟩
theorem zRP{xs:List T}(h:zRO xs):zVx (.agg xs):=by
 have key:∀xs:List T,zRO xs→yU xs∧uG xs=iB∧wO xs=xs∧yK xs=iB∧zBS xs=iB:=by
  intro xs
  induction xs with
  |nil=>intro _;exact⟨trivial,rfl,rfl,rfl,rfl⟩
  |cons x xs ih=>
   rintro⟨⟨h1,h2,h3,h4,h5⟩,h⟩
   obtain⟨g1,g2,g3,g4,g5⟩:=ih h;exact⟨⟨h1,g1⟩,by grind[uG],by grind[wO],by grind[yK],by grind[zBS]⟩
 obtain⟨g1,g2,g3,g4,g5⟩:=key xs h;exact⟨zKe g1,by grind[wY],by grind[strip],by grind[T.okTup],by grind[zF5]⟩
end Go.Ab

namespace Go.Ab
open Go
section
variable {Γ:Ctx}{E:Env}{d:Nat}
def Gh.cut(G:Gh)(d s0 b lo hi:Nat)(v:Value):Gh where
 hd s z:=if s=d then(if z=[]then v else G.hd s0 z)else G.hd s z
 ad s z:=if s=d then G.ad s0 z else G.ad s z
 lb b' o:=if b'=b∧lo≤o∧o<hi then iz (iB,d,[])else match G.lb b' o with
  |some (f,s,z)=>if s=s0 then iz (f,d,z)else iz (f,s,z)
  |none=>iA
 ow b':=match G.ow b' with
  |some (s,z)=>if s=s0 then iz (d,z)else iz (s,z)
  |none=>iA
theorem zON{G:Gh}{tmps:Array Value}{w:World}(gc:Rep Γ E G tmps w)(hd:d<Γ.N){s0 k h cap':Nat}{xs:List T}(eC:E s0=iz (.sl k xs))(gf:s0≠d)(hk:0<k)
  {b o0 cap:Nat}{cs:Array Value}{e:TypeId}(h1:G.hd s0 []=.slice (iz ⟨b,o0,iA⟩) xs.length cap)(h2:w.heap[b]? =iz (.cells cs e (0,0)))(_h3:xs.length≤cap)(h4:cap≤maxLen)(h5:o0+cap*k≤cs.size)(h6:G.ow b=iz (s0,[]))
  (h7:∀o,o0+xs.length*k≤o→o<o0+cap*k→G.lb b o=iz (iB,s0,[]))(h8:RL Γ.St G w s0 xs [] 0 b o0 k)(hh:h≤xs.length)(hc:h≤cap')(fm:cap'≤cap):
  ∃G',Rep Γ (E.app [(d,iz (.sl k (xs.take h))),(s0,iz .any)] [(d,0),(s0,1)]) G' (tmps.setIfInBounds d (.slice (iz ⟨b,o0,iA⟩) h cap')) w:=by
 have hm:=gc.mem;obtain⟨e1,_,e3⟩:=gc.ent s0 _ eC
 let v:Value:=.slice (iz ⟨b,o0,iA⟩) h cap'
 let G':=G.cut d s0 b (o0+h*k) (o0+cap'*k) v
 have gO:=hm.ow b _ h6;have pV:∀o f z i,o0+h*k≤o→o<o0+cap'*k→G.lb b o=iz (f,s0,z++[i])→h≤i:=by
  intro o f z i cI cH hl;obtain⟨o,rfl⟩:∃o',o=o0+o':=⟨o-o0,by have:o0≤o0+h*k:=Nat.le_add_right _ _;omega⟩
  replace cI:h*k≤o:=by omega
  by_cases ho:o<xs.length*k
  ·have hj:o/k<xs.length:=(Nat.div_lt_iff_lt_mul hk).2 ho
   obtain⟨g1,g2,_⟩:=kN xs [] 0 b o0 k (o/k) xs[o/k] h8 (by simp[hj]);obtain⟨y,hy⟩:=zJQ xs[o/k] _ b _ (o%k) g1 (by rw[g2];exact Nat.mod_lt _ hk);rw[J8,Lx,Nat.mul_comm,Nat.div_add_mod,hl]at hy;simp only[Km.injEq,Uq.injEq]at hy;have:=hy.2.2;have hi:i=o/k:=by have:=congrArg List.getLast? this;simpa using this
   rw[hi];exact(Nat.le_div_iff_mul_le hk).2 cI
  ·have:=h7 (o0+o) (by omega) (by have:=Kj k fm;omega)
   rw[hl]at this;simp at this
 have glb:∀b' o f z,G.lb b' o=iz (f,s0,z)→ ¬(b'=b∧o0+h*k≤o∧o<o0+cap'*k)→G'.lb b' o=iz (f,d,z):=fun b' o f z hl hn=>by show(if _ then _ else _)=_;rw[if_neg hn];simp[hl]
 have gow:∀b' z,G.ow b'=iz (s0,z)→G'.ow b'=iz (d,z):=fun b' z hl=>by simp[G',Gh.cut,hl]
 have mv:∀i,i<h→zIN G w G' w s0 [i] d [i]:=fun i hi=>by
  have hn:∀b' o f z,G.lb b' o=iz (f,s0,z++[i])→ ¬(b'=b∧o0+h*k≤o∧o<o0+cap'*k):=by
   rintro b' o f z hl ⟨rfl,cI,cH⟩
   have:=pV o f z i cI cH hl;omega
  refine⟨⟨fun z=>by simp[G',Gh.cut],fun z _=>by simp[G',Gh.cut],fun b' o f z _ _ hl=>⟨glb _ _ _ _ hl (hn _ _ _ _ hl),rfl⟩,fun b' z _ hl=>gow _ _ hl,fun b' cs' e' hb=>⟨cs',hb,rfl⟩⟩,fun b' o _ hl=>⟨glb _ _ _ _ hl (hn b' o iB [] (by simpa using hl)),rfl⟩,fun b' hl=>gow _ _ hl⟩
 have gx:jS [(d,0),(s0,1)] G w G' w:=by
  refine⟨fun s p ho=>?_,fun s p ho=>?_,fun b' o f s p hH hl hs=>?_,fun b' s p hl hs=>?_,fun b' cs' e' hb=>⟨cs',hb,rfl⟩⟩
  ·have:s≠d:=fun e=>absurd (ho 0 (by simp[e])) (by simp)
   simp[G',Gh.cut,this]
  ·have:s≠d:=fun e=>absurd (ho 0 (by simp[e])) (by simp)
   simp[G',Gh.cut,this]
  ·have eM:s≠s0:=fun e=>hs 1 (by simp[e])
   obtain⟨y,hy⟩:=hH;have fy:b'≠b:=by
    rintro rfl
    rw[h6]at hy;simp at hy;exact eM hy.1.symm
   refine⟨?_,rfl⟩;show(if _ then _ else _)=_;rw[if_neg (fun hn=>fy hn.1)];simp[hl,eM]
  ·have eM:s≠s0:=fun e=>hs 1 (by simp[e])
   simp[G',Gh.cut,hl,eM]
 have gu:Mem Γ G' w:=by
  refine⟨fun s z=>?_,fun b' o l hl=>?_,fun b' l hl=>?_,hm.st,hm.fr,hm.sz,hm.bk⟩
  ·show(if _ then _ else _:Value).oneCell'=iB
   split
   ·split
    ·rfl
    ·exact hm.one _ _
   ·exact hm.one _ _
  ·change(if _ then _ else _)=_ at hl
   split at hl
   ·rename_i hn;rw[hn.1];exact gO
   ·cases hg:G.lb b' o with
    |none=>simp[hg]at hl
    |some x=>exact hm.lb b' o x hg
  ·cases hg:G.ow b' with
   |none=>simp[G',Gh.cut,hg]at hl
   |some x=>exact hm.ow b' x hg
 refine⟨G',vJ gc (by simp) gx gu ?_ ?_⟩
 ·intro s hs
  have cN:s≠d:=by rintro rfl;simp[Wr.find]at hs
  have fZ:s≠s0:=by rintro rfl;simp[Wr.find,gf.symm]at hs
  exact⟨fun n hn=>by simp at hn;rcases hn with h|h;exact cN h.1;exact fZ h.1,by rw[Jc];simp[cN.symm]⟩
 ·intro s t' hs
  by_cases eM:s=d
  ·subst eM
   simp[Wr.find]at hs;subst hs;have gm:(xs.take h).length=h:=by simp;omega
   simp only[Top]at e3;have hkc:∀ys:List T,yU ys→ ∀n,yU (ys.take n):=by
    intro ys
    induction ys with
    |nil=>intro _ n;simp[yU,xH]
    |cons y ys ih=>intro hy n;cases n with
     |zero=>simp[yU,xH]
     |succ n=>exact⟨hy.1,ih hy.2 n⟩
   refine⟨?_,?_,by simp only[Top];exact hkc xs e3 h⟩
   ·rw[Jc]
    simp[gc.size,hd,mkV,G',Gh.cut,v]
   ·simp only[R]
    refine .inr ⟨b,o0,cap',cs,e,by rw[gm];simp[G',Gh.cut,v],h2,by omega,by omega,by have:=Kj k fm;omega,gow b _ h6,fun o cI cH=>?_,?_⟩
    ·rw[gm]at cI
     show(if _ then _ else _)=_;rw[if_pos ⟨rfl,cI,cH⟩]
    ·refine zJS _ [] 0 b o0 fun i x hx=>?_
     rw[H1]at hx;split at hx
     ·rename_i hi
      obtain⟨g1,g2,g3⟩:=kN xs [] 0 b o0 k i x h8 hx;rw[J8]at g1 g3 ⊢
      refine⟨?_,g2,zAQ (mv i hi) x (yN.mono (fun _ _=>False.elim) _ (uK xs e3 i x hx)) g3⟩;refine zHm x [i] [i] b _ (fun z=>by simp[G',Gh.cut]) (fun z=>by simp[G',Gh.cut]) (fun b' o z hl=>⟨glb _ _ _ _ hl ?_,rfl⟩) g1
      rintro⟨rfl,cI,cH⟩
      have:=pV o iC z i cI cH hl;omega
     ·cases hx
  ·have h9:s=s0∧t'=.any:=by
    simp only[Wr.find]at hs;rw[if_neg (fun h=>eM h.symm)]at hs;split at hs
    ·rename_i h;simp at hs;exact⟨h.symm,hs.symm⟩
    ·cases hs
   obtain⟨rfl,rfl⟩:=h9;refine⟨?_,by simp only[R],by simp[Top]⟩;rw[Jc];simp only[Ne.symm eM,if_false,mkV];rw[e1,xJ rfl];simp[G',Gh.cut,eM]
theorem zRQ{G:Gh}{tmps:Array Value}{w:World}(gc:Rep Γ E G tmps w)(hd:d<Γ.N){s0 k:Nat}(eC:E s0=iz (.sl k []))(gf:s0≠d)(a:Option Addr):
  ∃G',Rep Γ (E.app [(d,iz (.sl k [])),(s0,iz .any)] [(d,0),(s0,1)]) G' (tmps.setIfInBounds d (.slice a 0 0)) w:=by
 obtain⟨e1,_,_⟩:=gc.ent s0 _ eC;refine⟨G.put d (fun _=>.slice a 0 0),?_⟩;have hk:jS [(d,0),(s0,1)] G w (G.put d fun _=>.slice a 0 0) w:=by have h0:=G.put_keep (w:=w) (w':=w) rfl d (fun _=>.slice a 0 0);refine⟨fun s p ho=>h0.hd s p (fun n hn=>ho n (by simp at hn ⊢;exact .inl hn)),fun s p ho=>h0.ad s p (fun n hn=>ho n (by simp at hn ⊢;exact .inl hn)),fun b o f s p h1 h2 h3=>h0.lb b o f s p h1 h2 (fun n hn=>h3 n (by simp at hn ⊢;exact .inl hn)),fun b s p h1 h3=>h0.ow b s p h1 (fun n hn=>h3 n (by simp at hn ⊢;exact .inl hn)),h0.blk⟩
 refine vJ gc (by simp) hk (gc.mem.put rfl d _ (fun _=>rfl)) ?_ ?_
 ·intro s hs
  have cN:s≠d:=by rintro rfl;simp[Wr.find]at hs
  have fZ:s≠s0:=by rintro rfl;simp[Wr.find,gf.symm]at hs
  exact⟨fun n hn=>by simp at hn;rcases hn with h|h;exact cN h.1;exact fZ h.1,by rw[Jc];simp[cN.symm]⟩
 ·intro s t' hs
  by_cases eM:s=d
  ·subst eM
   simp[Wr.find]at hs;subst hs;refine⟨by rw[Jc];simp[gc.size,hd,mkV,Gh.put],by simp only[R];exact .inl ⟨trivial,a,by simp[Gh.put]⟩,by simp[Top,yU,xH]⟩
  ·have h9:s=s0∧t'=.any:=by
    simp only[Wr.find]at hs;rw[if_neg (fun h=>eM h.symm)]at hs;split at hs
    ·rename_i h;simp at hs;exact⟨h.symm,hs.symm⟩
    ·cases hs
   obtain⟨rfl,rfl⟩:=h9;refine⟨?_,by simp only[R],by simp[Top]⟩;rw[Jc];simp only[Ne.symm eM,if_false,mkV];rw[e1,xJ rfl];simp[Gh.put,eM]
end
section
variable {P:Program}{Γ:Ctx}{pn:jT}{E E':Env}{Q:Exit→Env→Prop}{d:Nat}{x y:Operand}{ty:TypeId}{ps:String}{af:Array Edge}{gd:Option (Nat×Bool)}
theorem zXK{α:Type}{t e:TypeId}{ti:TypeInfo}{s0 k:Nat}{f:α→T}{xs ys:List α}{mx:Option Operand}{h:Int}{u:T}(ht:ElT P t e ti k u)(hv:zO xs 0 h=iz ys)(h0:E s0=iz (L k f xs))(hy:opT E y=iz (I h))(hmx:mx=iA∨ ∃z,mx=iz z∧opT E z=iz (I h))(sd:(J4 d Γ.N&&(s0 != d))=iB):
  Ok P Γ ⟨iz d,.slice t (.tmp s0) iA (iz y) mx,ty,ps,af,gd⟩ E (E.app [(d,iz (L k f ys)),(s0,iz .any)] [(d,0),(s0,1)]):=by
 obtain⟨_,bv,eK,rfl⟩:=sM hv;simp only[J3]at sd;have gf:s0≠d:=by simpa using sd.2
 obtain⟨n,rfl⟩:∃n:Nat,h=n:=⟨h.toNat,by omega⟩;have hn:n≤xs.length:=by omega
 intro S;refine xW.value rfl fun a w G gc=>?_
 obtain⟨e1,e2,_⟩:=gc.ent s0 _ h0;have fq:=(yT gc hy).1;have mF:a.eval (.tmp s0)=G.hd s0 []:=by rw[xP e1,xJ rfl]
 have pj:=ht.un;have gU:=ht.info;have gC:=ht.size;have ms:List.map f ((xs.drop (0:Int).toNat).take ((n:Int).toNat-(0:Int).toNat))=(xs.map f).take n:=by simp[Gx]
 rw[show L k f ((xs.drop (0:Int).toNat).take ((n:Int).toNat-(0:Int).toNat))=.sl k ((xs.map f).take n)by simp only[L,ms]];have e2':=e2;simp only[R]at e2;rcases e2 with⟨th,ad,h1⟩|⟨b,o0,cap,cs,e',h1,h2,h3,h4,h5,h6,h7,h8⟩
 ·have eY:xs=[]:=by simpa using th
  subst eY;simp at hn;subst hn;obtain⟨G',gp⟩:=zRQ gc (zZ sd.1) (k:=k) (by rw[h0];rfl) gf ad;refine⟨_,w,?_,G',by simpa using gp⟩;rcases hmx with rfl|⟨z,rfl,hz⟩
  ·simp[execOp,Instr.sliceAt,Instr.slice,run_underlying pj,mF,h1,fq,sizeOf,typeInfo,gU,Instr.sliceBounds,Instr.sliceBound,asIntOf]
  ·have ma:=(yT gc hz).1
   simp[execOp,Instr.sliceAt,Instr.slice,run_underlying pj,mF,h1,fq,ma,sizeOf,typeInfo,gU,Instr.sliceBounds,Instr.sliceBound,asIntOf]
 ·rw[Jo]at h1 h3
  have cP:n≤cap:=by omega
  have fx:cap=0→n=0:=by omega
  rcases hmx with rfl|⟨z,rfl,hz⟩
  ·obtain⟨G',gp⟩:=zON gc (zZ sd.1) h0 gf ht.pos (by rw[Jo];exact h1) h2 (by rw[Jo];exact h3) h4 h5 h6 h7 h8 (h:=n) (cap':=cap) (by simpa using hn) cP (Jf _)
   refine⟨_,w,?_,G',gp⟩;simp[execOp,Instr.sliceAt,Instr.slice,run_underlying pj,mF,h1,fq,sizeOf,typeInfo,gU,Instr.sliceBounds,Instr.sliceBound,asIntOf,cP,vW]
  ·have ma:=(yT gc hz).1
   obtain⟨G',gp⟩:=zON gc (zZ sd.1) h0 gf ht.pos (by rw[Jo];exact h1) h2 (by rw[Jo];exact h3) h4 h5 h6 h7 h8 (h:=n) (cap':=n) (by simpa using hn) (Jf _) cP;refine⟨_,w,?_,G',gp⟩;simp[execOp,Instr.sliceAt,Instr.slice,run_underlying pj,mF,h1,fq,ma,sizeOf,typeInfo,gU,Instr.sliceBounds,Instr.sliceBound,asIntOf,cP,vW]
end
end Go.Ab

namespace Go.Ab
open Go
section
variable {P:Program}{Γ:Ctx}{pn:jT}{E E':Env}{Q:Exit→Env→Prop}{d:Nat}{x y:Operand}{ty:TypeId}{ps:String}{af:Array Edge}{gd:Option (Nat×Bool)}{ops:Array Oper}{os:List Oper}
theorem zQa{P:Program}{w:World}{t e:TypeId}{a:Option Addr}{n c:Nat}(m:Nat)(h:P.underlying t=iz (.slice e)):(Op.equalIn (m+1) t (.slice a n c) (.slice iA 0 0)).run P w=.ok a.isNone w:=by simp only[Op.equalIn,Sem.run_bind,run_underlying h];cases a<;>rfl
theorem RW.isnil{α:Type}{xt yt e:TypeId}{r k:Nat}{q:List Nat}{f:α→T}{xs:List α}{u:T}(hu:P.underlying xt=iz (.slice e))(hx:tL E x=iz (r,q,u))(fU:u=.ro (L k f xs)∨u=L k f xs)(sd:J4 d Γ.N=iB)(hp:pn.ok (iz d)=iB)
  (h:∀b,(b=iB→xs=[])→RW P Γ pn ops os (E.app [(d,iz (B b))] [(d,0)]) Q):RW P Γ pn ops (⟨iz d,.binOp .eql xt x (.const (.slice iA 0 0)) yt,ty,ps,af,iA⟩::os) E Q:=by
 intro a w Q' hs fg hQ;obtain⟨S,hS,gZ,G,gc⟩:=id hs;have ft:u.single=iB:=by rcases fU with rfl|rfl<;>rfl
 obtain⟨h1,h2⟩:=qQ gc hx ft;obtain⟨ad,n,c,h3,h4⟩:∃ad n c,a.eval x=.slice ad n c∧(ad.isNone=iB→xs=[]):=by
  rcases fU with rfl|rfl
  ·obtain⟨ad,c,g1,_,_,g2⟩:=zD3 h1
   refine⟨ad,_,c,by rw[h2,g1],fun hn=>?_⟩;apply Classical.byContradiction;intro gf;obtain⟨b,o',_,_,_,rfl,_⟩:=g2 (by simpa using gf);simp at hn
  ·simp only[R]at h1
   rcases h1 with⟨g1,ad,g2⟩|⟨b,_,cap,cs,e',g1,_⟩
   ·exact⟨ad,0,0,by rw[h2,g2],fun _=>by simpa using g1⟩
   ·exact⟨_,_,_,by rw[h2,g1],fun hn=>by simp at hn⟩
 have gz:(execOp a.eval ⟨iz d,.binOp .eql xt x (.const (.slice iA 0 0)) yt,ty,ps,af,iA⟩).run P w=.ok (.value (.bool ad.isNone)) w:=by have h5:(Op.equalIn 10000 xt (.slice ad n c) (.slice iA 0 0)).run P w=.ok ad.isNone w:=zQa 9999 hu;have h6:a.eval (.const (.slice iA 0 0))=.slice iA 0 0:=rfl;simp[execOp,h3,h6,eqGuard,binOp,zH5,h5]
 simp only[wpL,Region.wanted,if_true];refine .inl ?_;unfold Oper.wp;rw[gz,Oper.upon_value];have fe:=vB gc rfl (zZ sd) (fun _=>.bool ad.isNone) (fun _=>rfl) (B ad.isNone) (.bool ad.isNone) (by simp[mkV,Gh.put]) (by simp[R,Gh.put]) (by simp[Top]);refine h ad.isNone h4 _ w Q' ⟨S,hS,gZ,_,fe⟩ ?_ hQ;refine fg.frame hp fun s gS=>?_
 have:d≠s:=fun e=>gS (by rw[e])
 simp[Act.put,Array.getElem?_setIfInBounds_ne this]
theorem zLo{t e:TypeId}(hu:P.underlying t=iz (.slice e))(hx:opT E x=iz (.lit (.slice iA 0 0)))(sd:J4 d Γ.N=iB):Ok P Γ ⟨iz d,.call { callee:=.builtin .len,args:=#[x],argTypes:=#[t] },ty,ps,af,gd⟩ E (E.app [(d,iz (I 0))] [(d,0)]):=by
 intro S;refine tO (.int .i64 0) rfl rfl (zZ sd) fun a w G gc=>?_
 have h1:=(yT gc hx).1;simp[execOp,resolve,invoke,builtin,h1,Builtin.len_,run_underlying hu,goInt]
theorem zLp{t e:TypeId}(hu:P.underlying t=iz (.slice e))(hx:opT E x=iz (.lit (.slice iA 0 0)))(sd:J4 d Γ.N=iB):Ok P Γ ⟨iz d,.call { callee:=.builtin .cap,args:=#[x],argTypes:=#[t] },ty,ps,af,gd⟩ E (E.app [(d,iz (I 0))] [(d,0)]):=by
 intro S;refine tO (.int .i64 0) rfl rfl (zZ sd) fun a w G gc=>?_
 have h1:=(yT gc hx).1;simp[execOp,resolve,invoke,builtin,h1,Builtin.cap_,run_underlying hu,goInt]
theorem zVy{t e:TypeId}{ti:TypeInfo}{u:T}{k:Nat}(ht:ElT P t e ti k u)(hx:opT E x=iz (.lit (.slice iA 0 0)))(hy:opT E y=iz (I 0))(sd:J4 d Γ.N=iB):Ok P Γ ⟨iz d,.slice t x iA (iz y) iA,ty,ps,af,gd⟩ E (E.app [(d,iz (.sl k []))] [(d,0)]):=by
 intro S;refine xW.value rfl fun a w G gc=>?_
 have h1:=(yT gc hx).1;have h2:=(yT gc hy).1;refine⟨.slice iA 0 0,w,?_,_,vB gc rfl (zZ sd) (fun _=>.slice iA 0 0) (fun _=>rfl) (.sl k []) (.slice iA 0 0) (by simp[mkV,Gh.put]) (by simp[R,Gh.put]) (by simp[Top,yU,xH])⟩;simp[execOp,Instr.sliceAt,Instr.slice,run_underlying ht.un,h1,h2,sizeOf,typeInfo,ht.info,Instr.sliceBounds,Instr.sliceBound,asIntOf]
theorem zP.nil(s k:Nat)(hs:E s=iz (.lit (.slice iA 0 0))):zP Γ E (E.app [(s,iz (.sl k []))] [(s,0)]):=by
 rintro a w ⟨S,hS,gZ,G,gc⟩
 refine⟨S,hS,gZ,G,?_⟩;have hk:jS [(s,0)] G w G w:=⟨fun _ _ _=>rfl,fun _ _ _=>rfl,fun _ _ _ _ _ _ h _=>⟨h,rfl⟩,fun _ _ _ h _=>h,fun b cs e h=>⟨cs,h,rfl⟩⟩;refine vJ gc rfl hk gc.mem (fun s' gS=>⟨fun n hn=>?_,rfl⟩) fun s' t gS=>?_
 ·simp at hn
  simp[Wr.find,hn.1]at gS
 ·simp only[Wr.find]at gS
  split at gS
  ·rename_i e;subst e
   simp at gS;subst gS;obtain⟨h1,h2,_⟩:=gc.ent s _ hs;simp only[R]at h2;exact⟨by rw[h1];rfl,by simp only[R];exact .inl ⟨trivial,iA,h2⟩,by simp[Top,yU,xH]⟩
  ·cases gS
theorem zGH{src dst:TypeId}{ds:TypeDesc}{k k':IntKind}{n:Int}(hs:P.underlying src=iz ds)(ht:P.underlying dst=iz (.int k'))(hx:opT E x=iz (IK k n))(sd:J4 d Γ.N=iB):
  Ok P Γ ⟨iz d,.convert src dst x,ty,ps,af,gd⟩ E (E.app [(d,iz (IK k' (k'.wrap n)))] [(d,0)]):=fun _=>zVf src dst ds x k k' n rfl rfl (zZ sd) hs ht hx
theorem zY7{k:IntKind}{m n:Int}{xt yt:TypeId}(hx:opT E x=iz (IK k m))(hy:opT E y=iz (IK k n))(sd:J4 d Γ.N=iB):Ok P Γ ⟨iz d,.binOp .add xt x y yt,ty,ps,af,gd⟩ E (E.app [(d,iz (IK k (k.wrap (m+n))))] [(d,0)]):=
 fun _=>uE .add xt yt x y k m n _ rfl rfl (zZ sd) hx hy rfl
theorem zY8{k:IntKind}{m n:Int}{xt yt:TypeId}(hx:opT E x=iz (IK k m))(hy:opT E y=iz (IK k n))(sd:J4 d Γ.N=iB):Ok P Γ ⟨iz d,.binOp .mul xt x y yt,ty,ps,af,gd⟩ E (E.app [(d,iz (IK k (k.wrap (m*n))))] [(d,0)]):=
 fun _=>uE .mul xt yt x y k m n _ rfl rfl (zZ sd) hx hy rfl
theorem zY9{k:IntKind}{m n:Int}{xt yt:TypeId}(hx:opT E x=iz (IK k m))(hy:opT E y=iz (IK k n))(sd:J4 d Γ.N=iB):Ok P Γ ⟨iz d,.binOp .sub xt x y yt,ty,ps,af,gd⟩ E (E.app [(d,iz (IK k (k.wrap (m-n))))] [(d,0)]):=
 fun _=>uE .sub xt yt x y k m n _ rfl rfl (zZ sd) hx hy rfl
theorem zNb{k:IntKind}{m n:Int}{xt yt:TypeId}(hx:opT E x=iz (IK k m))(hy:opT E y=iz (IK k n))(sd:J4 d Γ.N=iB):Ok P Γ ⟨iz d,.binOp .gtr xt x y yt,ty,ps,af,gd⟩ E (E.app [(d,iz (B (decide (m> n))))] [(d,0)]):=
 fun _=>uE .gtr xt yt x y k m n _ rfl rfl (zZ sd) hx hy rfl
theorem zYA{k:IntKind}{m n:Int}{xt yt:TypeId}(hx:opT E x=iz (IK k m))(hy:opT E y=iz (IK k n))(sd:J4 d Γ.N=iB):Ok P Γ ⟨iz d,.binOp .eql xt x y yt,ty,ps,af,gd⟩ E (E.app [(d,iz (B (m==n)))] [(d,0)]):=
 fun _=>uE .eql xt yt x y k m n _ rfl rfl (zZ sd) hx hy rfl
theorem zYB{k:IntKind}{m n:Int}{xt yt:TypeId}(hx:opT E x=iz (IK k m))(hy:opT E y=iz (IK k n))(sd:J4 d Γ.N=iB):Ok P Γ ⟨iz d,.binOp .lss xt x y yt,ty,ps,af,gd⟩ E (E.app [(d,iz (B (decide (m<n))))] [(d,0)]):=
 fun _=>uE .lss xt yt x y k m n _ rfl rfl (zZ sd) hx hy rfl
def zG8(k:IntKind)(m n:Int):Int:=k.wrap ((BitVec.ofInt k.bits m &&& BitVec.ofInt k.bits n).toNat:Int)
theorem zYC{k:IntKind}{m n:Int}{xt yt:TypeId}(hx:opT E x=iz (IK k m))(hy:opT E y=iz (IK k n))(sd:J4 d Γ.N=iB):Ok P Γ ⟨iz d,.binOp .and xt x y yt,ty,ps,af,gd⟩ E (E.app [(d,iz (IK k (zG8 k m n)))] [(d,0)]):=by
 intro S;refine tO (.int k (zG8 k m n)) rfl rfl (zZ sd) fun a w G gc=>?_
 have h1:=(yT gc hx).1;have h2:=(yT gc hy).1;simp[execOp,h1,h2,eqGuard,binOp,Op.intBits,zG8]
theorem zYD{k k':IntKind}{m n:Int}{xt yt:TypeId}(hn:0≤n)(hx:opT E x=iz (IK k m))(hy:opT E y=iz (IK k' n))(sd:J4 d Γ.N=iB):Ok P Γ ⟨iz d,.binOp .shr xt x y yt,ty,ps,af,gd⟩ E (E.app [(d,iz (IK k (m.fdiv (2 ^ (min n.toNat k.bits)))))] [(d,0)]):=by
 intro S;refine tO (.int k (m.fdiv (2 ^ (min n.toNat k.bits)))) rfl rfl (zZ sd) fun a w G gc=>?_
 have h1:=(yT gc hx).1;have h2:=(yT gc hy).1;have h3:¬n<0:=by omega
 simp[execOp,h1,h2,eqGuard,binOp,Op.shift,h3]
end
end Go.Ab

namespace Go.Ab
open Go
structure zRR (P:Program) (f:Field) (i:Nat):Prop where
 name:f.name≠ "_"
 off:f.offset=i
 ty:P.underlying f.type=iz (.int .i64)
class zVz (P:Program) (t:TypeId):Prop where
 h:∃f0 f1 f2 f3:Field,P.underlying t=iz (.struct #[f0,f1,f2,f3])∧zRR P f0 0∧zRR P f1 1∧zRR P f2 2∧zRR P f3 3
 st:P.stoodInHeld t=iC
 gd:P.eqGuardType P.depth t=iC
theorem zEQ{P:Program}{w:World}{f:Field}{i:Nat}(h:zRR P f i)(cs:Array Value)(v:Value)(hv:cs[i]? =iz v):(part f.type cs f.offset).run P w=.ok v w:=by simp[part,kR h.ty,zF0,h.off,hv]
theorem zRS{P:Program}{w:World}{t:TypeId}(h:zVz P t)(a b c d a' b' c' d':Int)(m:Nat):
  (Op.equalIn (m+2) t (.agg #[.int .i64 a,.int .i64 b,.int .i64 c,.int .i64 d]) (.agg #[.int .i64 a',.int .i64 b',.int .i64 c',.int .i64 d'])).run P w=.ok (a==a'&&(b==b'&&(c==c'&&d==d'))) w:=by
 obtain⟨f0,f1,f2,f3,h1,g0,g1,g2,g3⟩:=h.h;have k0:=fun(x y:Int)=>zGG (P:=P) (w:=w) (a:=x) (b:=y) m g0.ty
 have k1:=fun(x y:Int)=>zGG (P:=P) (w:=w) (a:=x) (b:=y) m g1.ty
 have k2:=fun(x y:Int)=>zGG (P:=P) (w:=w) (a:=x) (b:=y) m g2.ty
 have k3:=fun(x y:Int)=>zGG (P:=P) (w:=w) (a:=x) (b:=y) m g3.ty
 have gN:=h.st;rw[Op.equalIn];simp only[Sem.run_bind,run_underlying h1];have q0:=fun(a b c d:Int)=>zEQ (w:=w) g0 #[.int .i64 a,.int .i64 b,.int .i64 c,.int .i64 d] (.int .i64 a) rfl
 have q1:=fun(a b c d:Int)=>zEQ (w:=w) g1 #[.int .i64 a,.int .i64 b,.int .i64 c,.int .i64 d] (.int .i64 b) rfl
 have q2:=fun(a b c d:Int)=>zEQ (w:=w) g2 #[.int .i64 a,.int .i64 b,.int .i64 c,.int .i64 d] (.int .i64 c) rfl
 have q3:=fun(a b c d:Int)=>zEQ (w:=w) g3 #[.int .i64 a,.int .i64 b,.int .i64 c,.int .i64 d] (.int .i64 d) rfl
 by_cases e0:a=a'<;>by_cases e1:b=b'<;>by_cases e2:c=c'<;>by_cases e3:d=d'<;>
  simp[gN,g0.name,g1.name,g2.name,g3.name,q0,q1,q2,q3,k0,k1,k2,k3,e0,e1,e2,e3]
section
variable {P:Program}{Γ:Ctx}{E E':Env}{d:Nat}{x y:Operand}{ty:TypeId}{ps:String}{af:Array Edge}{gd:Option (Nat×Bool)}
theorem zYE{t t':TypeId}{s s':Nat}{a b c e a' b' c' e':Int}(h:zVz P t)(hx:E s=iz (.agg [I a,I b,I c,I e]))(hy:E s'=iz (.agg [I a',I b',I c',I e']))(sd:J4 d Γ.N=iB):
  Ok P Γ ⟨iz d,.binOp .eql t (.tmp s) (.tmp s') t',ty,ps,af,gd⟩ E (E.app [(d,iz (B (a==a'&&(b==b'&&(c==c'&&e==e')))))] [(d,0)]):=by
 intro S;refine tO _ rfl rfl (zZ sd) fun A w G gc=>?_
 obtain⟨h1,h2,_⟩:=gc.ent s _ hx;obtain⟨h3,h4,_⟩:=gc.ent s' _ hy;simp only[R,RF]at h2 h4;have e1:A.eval (.tmp s)=.agg #[.int .i64 a,.int .i64 b,.int .i64 c,.int .i64 e]:=by rw[xP h1];simp[mkV,yF,vals,h2]
 have e2:A.eval (.tmp s')=.agg #[.int .i64 a',.int .i64 b',.int .i64 c',.int .i64 e']:=by rw[xP h3];simp[mkV,yF,vals,h4]
 have h5:(Op.equalIn 10000 t (.agg #[.int .i64 a,.int .i64 b,.int .i64 c,.int .i64 e]) (.agg #[.int .i64 a',.int .i64 b',.int .i64 c',.int .i64 e'])).run P w=_:=zRS (w:=w) h a b c e a' b' c' e' 9998;have hg:=h.gd;simp[execOp,e1,e2,eqGuard,binOp,zH5,h5,hg]
end
end Go.Ab

namespace Go.Ab
open Go
abbrev vI(n:Int):Value:=.int .i64 n
section
variable {Γ:Ctx}{E:Env}
theorem zLq{G:Gh}{tmps:Array Value}{w w':World}(gc:Rep Γ E G tmps w){s0:Nat}{xs us:List Int}(eC:E s0=iz (L 1 I xs))(gm:us.length=xs.length)
  {b o0 cap:Nat}{cs cs':Array Value}{e:TypeId}(h1:G.hd s0 []=.slice (iz ⟨b,o0,iA⟩) xs.length cap)(h2:w.heap[b]? =iz (.cells cs e (0,0)))(h3:xs.length≤cap)(h4:cap≤maxLen)(h5:o0+cap*1≤cs.size)(h6:G.ow b=iz (s0,[]))
  (h7:∀o,o0+xs.length*1≤o→o<o0+cap*1→G.lb b o=iz (iB,s0,[]))(h8:RL Γ.St G w s0 (xs.map I) [] 0 b o0 1)
  (k1:w'.heap[b]? =iz (.cells cs' e (0,0)))(k2:cs'.size=cs.size)(k3:∀b',b'≠b→w'.heap[b']? =w.heap[b']?)(k4:w'.heap.size=w.heap.size)(ko:w'.os=w.os)(kq:w'.output=w.output)(k5:∀(i:Nat) u,us[i]? =iz u→cs'[o0+i]? =iz (vI u)):
  ∃G',Rep Γ (E.app [(s0,iz (L 1 I us))] [(s0,1)]) G' tmps w':=by
 have hm:=gc.mem;obtain⟨e1,_,_⟩:=gc.ent s0 _ eC;have gO:=hm.ow b _ h6
 let G':Gh:={ G with hd:=fun s z=>if s=s0 then(match z with
  | [i]=>(match us[i]? with
   |some u=>vI u
   |none=>G.hd s0 z)
  |_=>G.hd s0 z)else G.hd s z }
 have hB:Blk w w':=by
  intro b' cs2 e2 hb
  by_cases fy:b'=b
  ·subst fy
   rw[h2]at hb;simp at hb;obtain⟨rfl,rfl⟩:=hb;exact⟨cs',k1,k2⟩
  ·exact⟨cs2,by rw[k3 b' fy];exact hb,rfl⟩
 have gx:jS [(s0,1)] G w G' w':=by
  refine⟨fun s p ho=>?_,fun _ _ _=>rfl,fun b' o f s p hH hl hs=>⟨hl,?_⟩,fun _ _ _ hl _=>hl,hB⟩
  ·by_cases h:s=s0
   ·subst h
    have:p=[]:=Jy (by have:=ho 1 (by simp);omega);subst this;simp[G']
   ·simp[G',h]
  ·have eM:s≠s0:=fun e=>hs 1 (by simp[e])
   obtain⟨y,hy⟩:=hH;have fy:b'≠b:=by
    rintro rfl
    rw[h6]at hy;simp at hy;exact eM hy.1.symm
   simp[yJ,World.cell?,k3 b' fy]
 have gu:Mem Γ G' w':=by
  refine⟨fun s z=>?_,fun b' o l hl=>?_,fun b' l hl=>?_,fun b' x hx=>?_,fun b' h h'=>?_,by rw[k4];exact hm.sz,hm.bk.trans hB ko kq⟩
  ·show(if _ then _ else _:Value).oneCell'=iB
   split
   ·split
    ·split
     ·rfl
     ·exact hm.one _ _
    ·exact hm.one _ _
   ·exact hm.one _ _
  ·have:=hm.lb b' o l hl;exact⟨by rw[k4];exact this.1,this.2⟩
  ·have:=hm.ow b' l hl;exact⟨by rw[k4];exact this.1,this.2⟩
  ·have:b'≠b:=by rintro rfl;rw[gO.2.2]at hx;cases hx
   rw[k3 b' this];exact hm.st b' x hx
  ·have:b'≠b:=by
    rintro rfl
    rcases gO.2.1 with h0|h0
    ·omega
    ·exact h' h0
   rw[k3 b' this];exact hm.fr b' h h'
 refine⟨G',vJ gc rfl gx gu ?_ ?_⟩
 ·intro s hs
  rw[tU]at hs;split at hs
  ·cases hs
  ·rename_i gf
   exact⟨fun n hn=>gf (by simp at hn;exact hn.1.symm),rfl⟩
 ·intro s t' hs
  rw[tU]at hs;split at hs
  ·rename_i he;subst he
   simp at hs;subst hs;refine⟨by rw[e1];simp[mkV,G'],?_,by simp only[Top];exact zEq zOJ us⟩;simp only[R];refine .inr ⟨b,o0,cap,cs',e,by simp[G',h1,gm],k1,by simp[gm];exact h3,h4,by omega,h6,fun o cI cH=>h7 o (by simpa[gm]using cI) cH,?_⟩;refine zJS _ [] 0 b o0 fun i x hx=>?_
   rw[Jn,Ke]at hx;obtain⟨u,hu,rfl⟩:=hx;have hi:=(Je.1 hu).1;obtain⟨g1,g2,_⟩:=kN _ [] 0 b o0 1 i (I xs[i]) h8 (by simp[show i<xs.length by omega]);simp only[J8,Gd,Loc]at g1 ⊢
   refine⟨⟨g1.1,g1.2.1,?_⟩,rfl,by simp[R,G',hu]⟩;have:=k5 i u hu;simp[yJ,World.cell?,k1,this,G',hu]
  ·cases hs
def zGp(P:Program)(Γ:Ctx)(E:Env)(y:Operand)(ys:List Int):Prop:=∀(a:Act)(w:World)(G:Gh),Rep Γ E G a.tmps w→ ∃xa c,a.eval y=.slice xa ys.length c∧
 ∀(n:Nat),n≤ys.length→(Builtin.firstCells 1 n (.slice xa ys.length c)).run P w=.ok ((ys.take n).map vI).toArray w
theorem zCF{P:Program}{w:World}{b o:Nat}{cs:Array Value}{e:TypeId}{fr:Nat×Nat}(hb:w.heap[b]? =iz (.cells cs e fr))(ys:List Int)(hv:∀(i:Nat) u,ys[i]? =iz u→cs[o+i]? =iz (vI u))(n:Nat)(hn:n≤ys.length)(len cap:Nat):
  (Builtin.firstCells 1 n (.slice (iz ⟨b,o,iA⟩) len cap)).run P w=.ok ((ys.take n).map vI).toArray w:=by
 refine run_firstCells_some (P:=P) w 1 n ⟨b,o,iA⟩ len cap _ (by simp;omega) fun j v hj=>?_
 rw[Jn,Ke]at hj;obtain⟨u,hu,rfl⟩:=hj;rw[H1]at hu;split at hu
 ·rw[vW]
  have:=hv j u hu;simp[World.cell?,hb,this]
 ·cases hu
theorem zCY{P:Program}{w:World}{a:Option Addr}{c:Nat}:(Builtin.firstCells 1 0 (.slice a 0 c)).run P w=.ok #[] w:=by cases a<;>simp[Builtin.firstCells,loadCells,loadCellsFrom]
theorem zGp.ro{P:Program}{y:Operand}{ys:List Int}{r:Nat}{q:List Nat}(h:tL E y=iz (r,q,.ro (L 1 I ys))):zGp P Γ E y ys:=fun a w G gc=>by
 obtain⟨h1,h2⟩:=qQ gc h rfl;obtain⟨xa,c,g1,_,_,g2⟩:=zD3 h1;rw[Jo]at g1;refine⟨xa,c,by rw[h2,g1],fun n hn=>?_⟩
 by_cases hy:ys=[]
 ·subst hy
  simp at hn;subst hn;simpa using zCY
 ·obtain⟨b,o,cs,e,fr,rfl,g3,g4⟩:=g2 (by simpa using hy)
  refine zCF (gc.mem.st b _ g3) ys (fun i u hu=>?_) n hn _ _;have:=zGD _ cs o 1 i (I u) g4 (by simp[hu]);simp only[RoC,Gd]at this;exact this.1
theorem zOO{G:Gh}{w:World}{s b o0:Nat}{q:List Nat}{cs:Array Value}{e:TypeId}{xs:List Int}{St:Stb}(h2:w.heap[b]? =iz (.cells cs e (0,0)))(h8:RL St G w s (xs.map I) q 0 b o0 1)(i:Nat)(u:Int)(hu:xs[i]? =iz u):cs[o0+i]? =iz (vI u):=by obtain⟨g1,_,g3⟩:=kN _ q 0 b o0 1 i (I u) h8 (by simp[hu]);simp only[Loc,R,J8,Gd]at g1 g3;have:=g1.2.2;simp only[yJ,World.cell?,h2]at this;simpa[g3]using this
theorem zGp.sub{P:Program}{s r:Nat}{q:List Nat}{tr:T}{xs ys:List Int}{l h:Int}(hs:E s=iz (.sub r q 1 l.toNat h.toNat))(hr:E r=iz tr)(hg:tr.get q.reverse=iz (L 1 I xs))(hv:zO xs l h=iz ys):zGp P Γ E (.tmp s) ys:=fun a w G gc=>by
 obtain⟨k1,k2,k3,rfl⟩:=sM hv;obtain⟨e1,e2,_⟩:=gc.ent s _ hs;obtain⟨_,e4,_⟩:=gc.ent r _ hr;simp only[R]at e2;have h5:=(zAL q.reverse tr _ [] e4 hg).1;simp only[rp,K0,J9,R]at h5;have gm:((xs.drop l.toNat).take (h.toNat-l.toNat)).length=h.toNat-l.toNat:=by simp;omega
 rw[gm];have mF:a.eval (.tmp s)=G.hd s []:=by rw[xP e1,xJ rfl]
 rcases h5 with⟨g1,ad,g2⟩|⟨b,o0,cap,cs,e,g1,g2,g3,_,_,_,_,g8⟩
 ·have hy:xs=[]:=by simpa using g1
  subst hy;have hl0:l.toNat=0:=by simp at k3;omega
  have bo:h.toNat=0:=by simp at k3;omega
  refine⟨ad,0,by rw[mF,e2,g2,hl0,bo];simp[zBf],fun n hn=>?_⟩;simp[bo]at hn;subst hn;rw[hl0,bo];simpa using zCY
 ·rw[Jo]at g1 g3
  refine⟨if cap=l.toNat then iz ⟨b,o0,iA⟩else iz ⟨b,o0+l.toNat,iA⟩,cap-l.toNat,by rw[mF,e2,g1];simp only[zBf,He,vW,Gd],fun n hn=>?_⟩;split
  ·have:n=0:=by omega
   subst this;simp[Builtin.firstCells,loadCells,loadCellsFrom]
  ·refine zCF g2 _ (fun i u hu=>?_) n (by rw[gm];exact hn) _ _
   rw[H1]at hu;split at hu
   ·rw[Lh]at hu
    rw[Lx];exact zOO g2 g8 _ u hu
   ·cases hu
def zCZ(Γ:Ctx)(E:Env)(x:Operand)(s0 lo hi:Nat):Prop:=∀(a:Act)(w:World)(G:Gh),Rep Γ E G a.tmps w→a.eval x=zBf (G.hd s0 []) 1 lo hi
theorem zCZ.slot{s0:Nat}{xs:List Int}(h:E s0=iz (L 1 I xs)):zCZ Γ E (.tmp s0) s0 0 xs.length:=fun a w G gc=>by obtain⟨e1,e2,_⟩:=gc.ent s0 _ h;obtain⟨ad,c,g⟩:=zGC e2;rw[Jo]at g;rw[xP e1,xJ rfl,g];simp[zBf];intro;cases ad<;>simp[Addr.add]
theorem zCZ.same{s s0:Nat}{xs:List Int}(hs:E s=iz (.same s0 []))(h:E s0=iz (L 1 I xs)):zCZ Γ E (.tmp s) s0 0 xs.length:=fun a w G gc=>by obtain⟨e1,e2,_⟩:=gc.ent s _ hs;have:=zCZ.slot h a w G gc;obtain⟨e3,_,_⟩:=gc.ent s0 _ h;simp only[R]at e2;rw[xP e3,xJ rfl]at this;rw[xP e1,xJ rfl,e2];exact this
theorem zCZ.sub{s s0 lo hi:Nat}(hs:E s=iz (.sub s0 [] 1 lo hi)):zCZ Γ E (.tmp s) s0 lo hi:=fun a w G gc=>by obtain⟨e1,e2,_⟩:=gc.ent s _ hs;simp only[R]at e2;rw[xP e1,xJ rfl,e2]
end
theorem zQb{α:Type}{xs ys:List α}{l h:Int}(hv:zO xs l h=iz ys):l.toNat≤h.toNat:=by have:=sM hv;omega
theorem zQc{α:Type}{xs ys:List α}{l h:Int}(hv:zO xs l h=iz ys):h.toNat≤xs.length:=by have:=sM hv;omega
theorem zOP{α:Type}(l z:List α)(lo i:Nat)(gW:lo+z.length≤l.length):(l.take lo++z++l.drop (lo+z.length))[i]? =if i<lo then l[i]? else if i<lo+z.length then z[i-lo]? else l[i]?:=by
 have hm:min lo l.length=lo:=by omega
 by_cases c1:i<lo
 ·rw[if_pos c1,Jh,K5 (by simp;omega),H1,if_pos c1]
 ·rw[if_neg c1]
  by_cases c2:i<lo+z.length
  ·rw[if_pos c2,Jh,Jb (by simp;omega),Kn,hm,K5 (by omega)]
  ·rw[if_neg c2,Jh,Jb (by simp;omega),Kn,hm,Jb (by omega),Lh]
   congr 1;omega
def vF(xs:List Int)(lo:Nat)(zs:List Int):List Int:=xs.take lo++zs++xs.drop (lo+zs.length)
theorem zKi{P:Program}{Γ:Ctx}{E:Env}{d s0 lo hi:Nat}{x y:Operand}{ty:TypeId}{ps:String}{af:Array Edge}{gd:Option (Nat×Bool)}{t t2 e:TypeId}{ti:TypeInfo}{u:T}{xs ys:List Int}(ht:ElT P t e ti 1 u)(h0:E s0=iz (L 1 I xs))(hx:∀S,zCZ (Γ.at S) E x s0 lo hi)(hy:∀S,zGp P (Γ.at S) E y ys)(h1:lo≤hi)(h2:hi≤xs.length)(sd:(J4 d Γ.N&&(s0 != d))=iB):
  Ok P Γ ⟨iz d,.call { callee:=.builtin .copy,args:=#[x,y],argTypes:=#[t,t2] },ty,ps,af,gd⟩ E ((E.app [(s0,iz (L 1 I (vF xs lo (ys.take (hi-lo)))))] [(s0,1)]).app [(d,iz (I ((min ys.length (hi-lo):Nat):Int)))] [(d,0)]):=by
 simp only[J3]at sd;have gf:s0≠d:=by simpa using sd.2
 intro S;refine xW.value rfl fun a w G gc=>?_
 obtain⟨e1,e2,_⟩:=gc.ent s0 _ h0;obtain⟨xa,c,g1,g2⟩:=hy S a w G gc;have g3:=hx S a w G gc;have eR:min ys.length (hi-lo)≤ys.length:=by omega
 have g4:=g2 _ eR;have eB:ys.take (hi-lo)=ys.take (min ys.length (hi-lo)):=by rw[List.take_eq_take_iff];omega
 rw[eB]
 generalize hn:min ys.length (hi-lo)=n at*
 have pF:(ys.take n).length=n:=by simp;omega
 have gm:(vF xs lo (ys.take n)).length=xs.length:=by simp[vF,pF];omega
 have key:∃w',(Builtin.copy_ #[t,t2] ty #[a.eval x,a.eval y]).run P w=.ok (goInt n) w'∧ ∃G',Rep (Γ.at S) (E.app [(s0,iz (L 1 I (vF xs lo (ys.take n))))] [(s0,1)]) G' a.tmps w':=by
  have e2':=e2;simp only[R]at e2;rcases e2 with⟨k1,ad,k2⟩|⟨b,o0,cap,cs,e',k1,k2,k3,k4,k5,k6,k7,k8⟩
  ·have eY:xs=[]:=by simpa using k1
   subst eY;simp at h2;subst h2;have tk:n=0:=by omega
   subst tk;have gW:lo=0:=by omega
   subst gW;refine⟨w,?_,G,?_⟩
   ·rw[g3,k2,g1]
    cases ad<;>cases xa<;>simp[zBf,Builtin.copy_,run_underlying ht.un,Builtin.lenOf,sizeOf,typeInfo,ht.info,Builtin.firstCells,loadCells,loadCellsFrom,storeCells]
   ·refine vJ gc rfl ⟨fun _ _ _=>rfl,fun _ _ _=>rfl,fun _ _ _ _ _ _ h _=>⟨h,rfl⟩,fun _ _ _ h _=>h,fun b cs e h=>⟨cs,h,rfl⟩⟩ gc.mem (fun s hs=>⟨fun n hn=>by simp at hn;simp[Wr.find,hn.1]at hs,rfl⟩) fun s t' hs=>?_
    rw[tU]at hs;split at hs
    ·rename_i he;subst he
     simp at hs;subst hs;simpa[vF]using gc.ent s0 _ h0
    ·cases hs
  ·rw[Jo]at k1 k3 k7
   have gC:o0+cap≤cs.size:=by omega
   have gN:=run_storeCells_at P b (o0+lo) e' ((ys.take n).map vI) 0 cs w k2 (by simp;omega) (by intro v hv;obtain⟨u,_,rfl⟩:=Jj.1 hv;rfl);simp only[Qm,Jo]at gN
   generalize hw':w.setRow b (cs.toList.take (o0+lo)++(ys.take n).map vI++cs.toList.drop (o0+lo+(ys.take n).length)).toArray=w' at gN
   have gD:cs.toList.length=cs.size:=Ka ..
   by_cases ci:cap=lo
   ·have tk:n=0:=by omega
    subst tk;refine⟨w,?_,G,?_⟩
    ·rw[g3,k1,g1]
     have g5:(Builtin.firstCells 1 0 (.slice xa ys.length c)).run P w=.ok #[] w:=by simpa using g4
     simp[zBf,Builtin.copy_,run_underlying ht.un,Builtin.lenOf,sizeOf,typeInfo,ht.info,ht.size,show hi-lo=0 by omega,g5,storeCells,ci]
    ·refine vJ gc rfl ⟨fun _ _ _=>rfl,fun _ _ _=>rfl,fun _ _ _ _ _ _ h _=>⟨h,rfl⟩,fun _ _ _ h _=>h,fun b cs e h=>⟨cs,h,rfl⟩⟩ gc.mem (fun s hs=>⟨fun n hn=>by simp at hn;simp[Wr.find,hn.1]at hs,rfl⟩) fun s t' hs=>?_
     rw[tU]at hs;split at hs
     ·rename_i he;subst he
      simp at hs;subst hs;simpa[vF]using gc.ent s0 _ h0
     ·cases hs
   ·refine⟨w',?_,zLq gc h0 gm k1 k2 k3 k4 k5 k6 k7 k8 (by rw[←hw'];exact setRow_heap w b cs _ e' _ k2) ?_ (fun b' h=>by rw[←hw'];exact setRow_other w b b' _ h) (by rw[←hw'];exact size_setRow w b _) (by rw[←hw'];rfl) (by rw[←hw'];rfl) fun i v hv=>?_⟩
    ·rw[g3,k1,g1]
     have h9:Nat.min ys.length (hi-lo)=n:=hn;simp only[zBf,ci,if_false,He,vW,Gd];simp only[Builtin.copy_];rw[Gx]at gN;simp[run_underlying ht.un,Builtin.lenOf,sizeOf,typeInfo,ht.info,ht.size,h9,g4,gN]
    ·simp[pF];omega
    ·rw[vF,zOP _ _ _ _ (by rw[pF];omega)]at hv
     have h11:o0+lo+((ys.take n).map vI).length≤cs.toList.length:=by simp;omega
     have h10:=zOP cs.toList ((ys.take n).map vI) (o0+lo) (o0+i) h11;rw[Jo]at h10;rw[List.getElem?_toArray,h10];have pg:=fun i u hu=>zOO k2 k8 i u hu
     by_cases c1:i<lo
     ·rw[if_pos c1]at hv
      rw[if_pos (by omega)];simpa using pg i v hv
     ·rw[if_neg c1]at hv
      rw[if_neg (by omega)]
      by_cases c2:i<lo+(ys.take n).length
      ·rw[if_pos c2]at hv
       rw[if_pos (by omega),show o0+i-(o0+lo)=i-lo from by omega];rw[Jn,hv];rfl
      ·rw[if_neg c2]at hv
       rw[if_neg (by omega)];simpa using pg i v hv
 obtain⟨w',gz,G',gp⟩:=key;refine⟨_,w',?_,_,vB gp rfl (zZ sd.1) (fun _=>vI n) (fun _=>rfl) (I n) (vI n) (by simp[mkV,Gh.put]) (by simp[R,Gh.put]) (by simp[Top])⟩;simp[execOp,resolve,invoke,builtin,gz,goInt]
end Go.Ab

namespace Go.Ab
open Go
theorem zJi{G G':Gh}{s d:Nat}(hd:∀z,G'.hd d z=G.hd s z):(xs:List T)→yK xs=iB→ ∀(j:Nat),zAx G' d (cpF s xs [] j) [] j=zAx G s xs [] j
 | [],_,_=>by rfl
 |x::xs,h,j=>by
  simp only[yK,J3]at h;simp only[cpF,zAx];have ee:∀ys,x≠.tup ys:=by rintro ys rfl;grind[T.okTup]
  have h1:=zBh (G:=G) (G':=G') (s:=s) (d:=d) x [j] [j] ee (fun z=>hd _);have h2:∀ys,cpT s x [j]≠.tup ys:=by intro ys;cases x<;>simp[cpT]
  rw[zAy _ _ _ _ h2]at h1;rw[h1,zJi hd xs h.2 (j+1)]
section
variable {P:Program}{Γ:Ctx}{E E':Env}{d:Nat}{x y:Operand}{ty:TypeId}{ps:String}{af:Array Edge}{gd:Option (Nat×Bool)}
theorem zXL{s:Nat}{ts:List T}(hx:E s=iz (.tup ts))(sd:(J4 d Γ.N&&yK ts&&(s != d)&&zKH [(d,0)] (cpF s ts [] 0))=iB):Ok P Γ ⟨iz d,.move (.tmp s),ty,ps,af,gd⟩ E (E.app [(d,iz (.tup (cpF s ts [] 0)))] [(d,0)]):=by
 simp only[J3]at sd;obtain⟨⟨⟨s1,s2⟩,s3⟩,s4⟩:=sd;have gf:s≠d:=by grind
 intro S;refine xW.value rfl fun a w G gc=>?_
 obtain⟨h1,h2,_⟩:=gc.ent s _ hx;simp only[R]at h2;have hk:=G.put_keep (w:=w) (w':=w) rfl d (fun z=>G.hd s z);have hz:∀z,(G.put d (fun z=>G.hd s z)).hd d z=G.hd s z:=by grind[Gh.put_self]
 have htop:∀(xs:List T)(j:Nat),uI (cpF s xs [] j):=by
  intro xs
  induction xs with
  |nil=>intro j;simp only[cpF,uI]
  |cons x xs ih=>intro j;simp only[cpF,uI];grind[qL]
 refine⟨mkV G s (.tup ts) [],w,?_,_,vB gc rfl (zZ s1) (fun z=>G.hd s z) (fun z=>gc.mem.one _ _) _ _ (by grind[mkV,zJi])
  (by simp only[R];exact zJL (fun p=>G.put_other _ p gf) ts [] [] 0 (fun z=>hz _) (xH.mono (fun r p hr=>⟨hk.hd r p hr,hk.ad r p hr⟩) _ (by grind[zGZ])) h2) (by simp only[Top];grind)⟩
 simp[execOp,xP h1]
end
end Go.Ab

namespace Go.Ab
open Go
end Go.Ab

namespace Go.Ab
open Go
section
variable {P:Program}{Γ:Ctx}{E:Env}{d:Nat}{x:Operand}{ty:TypeId}{ps:String}{af:Array Edge}{gd:Option (Nat×Bool)}
class zV0 (P:Program) (t:TypeId) (e:outParam TypeId) (ti:outParam TypeInfo) (n:outParam Nat) (k:outParam Nat):Prop where
 un:P.underlying t=iz (.array n e)
 info:P.info? e=iz ti
 size:ti.size=k
theorem zOQ{t e:TypeId}{ti:TypeInfo}{n k r:Nat}{q:List Nat}{xs:List T}{u:T}(i:Nat)(ht:zV0 P t e ti n k)(hx:tL E x=iz (r,q,.ptr (.agg xs)))(hu:xs[i]? =iz u)(gG:T.sizes (xs.take i)=i*k)(sd:(J4 d Γ.N&&J4 i n)=iB):
  Ok P Γ ⟨iz d,.indexAddr t x (.const (.int .i64 i)),ty,ps,af,gd⟩ E (E.app [(d,iz (.addr r (i::0::q)))] [(d,0)]):=by
 simp only[J3]at sd;have gU:=zZ sd.2;intro S;refine xW.value rfl fun a w G gc=>?_
 obtain⟨g1,g2⟩:=qQ gc hx rfl;simp only[R]at g1;obtain⟨b,cs,e',g4,_,_,_,g5,_⟩:=g1;simp only[Loc]at g5;have g6:=zCM xs (0::q) 0 b 0 i u g5.2 hu;simp only[J8]at g6;have g3:a.eval (.const (.int .i64 i))=.int .i64 i:=rfl;refine⟨.pointer (iz (G.ad r (i::0::q))),w,?_,_,vB gc rfl (zZ sd.1) (fun _=>.pointer (iz (G.ad r (i::0::q)))) (fun _=>rfl) _ _ (by simp[mkV,Gh.put]) (by simp[R,Gh.put]) (by simp[Top])⟩;have gH:(i:Int)<(n:Int):=by omega
 have h0:(0:Int)≤i:=by omega
 have g7:=zCo g6;have mB:i<n:=gU;simp[execOp,Instr.indexAt,g3,g2,g4,asIntOf,run_underlying ht.un,h0,mB,sizeOf,typeInfo,ht.info,ht.size,vW,tY,g7,gG]
end
end Go.Ab
namespace Go.Ab
open Go
theorem zH6{E:Env}{ds r s:Nat}{q:List Nat}{tr u t:T}(h:E s=iz t)(gf:(G7 ds s||G7 r s)=iC:=by rfl)(hb:t.okB [(ds,1),(r,q.length+1)]=iB:=by rfl):opT (wR E ds r q tr u) (.tmp s)=iz t:=by
 have h1:ds≠s:=by rintro rfl;simp at gf
 have h2:r≠s:=by rintro rfl;simp at gf
 simp[opT,wR,Env.app,Wr.find,h1,h2,h,hb]
end Go.Ab
namespace Go.Ab
open Go
section
variable {P:Program}{Γ:Ctx}{pn:jT}{E E':Env}{Q Q1:Exit→Env→Prop}{c c1 c2:Code}{ops:Array Oper}{o:Oper}{os:List Oper}{id:Nat}
theorem sR(h:RW P Γ pn ops ops.toList E (zV P Γ pn c Q)):CW P Γ pn (.seq (.region id ops iC) c) E Q:=CW.seq (CW.region h)
theorem rN(h:CW P Γ pn c E Q):RW P Γ pn ops [] E (zV P Γ pn c Q):=RW.nil h
theorem oP(h:Ok P Γ o E E')(k:RW P Γ pn ops os E' Q)(hg:o.guard=iA:=by rfl)(hp:pn.ok o.dst=iB:=by rfl):RW P Γ pn ops (o::os) E Q:=RW.op h k hg hp
def zYF(ops:List Oper):List (List Nat):=(ops.foldl (fun(acc:Array (List Nat)) o=>acc.push ((zBV o).foldl (fun l m=>m::(acc.getD m [])++l) [])) #[]).toList
theorem CW.lp{σ ρ:Type}(body:σ→Option (σ⊕ρ))(en:σ→Env)(Q1:ρ→Exit→Env→Prop){s:σ}{r:ρ}(hg:zP Γ E (en s))(h:∀s x,body s=iz x→CW P Γ pn c (en s) (yW Γ en Q1 x))(hr:zG body s=iz r)(hq:∀e E',Q1 r e E'→Q e E'):CW P Γ pn (.loop c) E Q:=
 (CW.mono (CW.loop body en Q1 h hr) hq).ghost hg
end
end Go.Ab

namespace Go.Ab
open Go Go.ChangeShapes
abbrev zLr(w:World):Stb:=fun b=>w.heap[b]?
theorem zQd{w:World}{a:Addr}{n:Nat}{cs:List Value}(h:w.cells? 0 a n=iz cs):cs.length=n∧ ∀(i:Nat) v,cs[i]? =iz v→w.cell? (a.add i)=iz v:=by
 unfold World.cells? at h;rw[if_pos (Kb _)]at h;refine⟨by simpa using mapM_some_length h,fun i v hv=>?_⟩;have hi:i<n:=by have:=(Je.1 hv).1;have h2:=mapM_some_length h;rw[Hj]at h2;omega
 rw[←hv];exact mapM_some_get h i i (by simp[hi])
theorem zOR{w:World}{a:Addr}{v:Value}(h:w.cell? a=iz v):a.spot=iA∧ ∃c e fr,w.heap[a.block]? =iz (.cells c e fr)∧c[a.off]? =iz v:=by
 simp only[World.cell?]at h;split at h
 ·rename_i c e fr hb
  split at h
  ·cases h
  ·rename_i hs
   exact⟨by cases hq:a.spot with|none=>rfl|some _=>rw[hq]at hs;simp at hs,c,e,fr,hb,h⟩
 ·cases h
theorem zLs{b o m:Nat}:(Addr.mk b o iA).add m=⟨b,o+m,iA⟩:=by
 unfold Addr.add;split
 ·rename_i h;subst h;rfl
 ·rfl
theorem zGq{α:Type}{Q:Nat→α→Prop}:∀(n:Nat),(∀i,i<n→ ∃x,Q i x)→ ∃xs:List α,xs.length=n∧ ∀i x,xs[i]? =iz x→Q i x
 |0,_=>⟨[],rfl,fun i x h=>by simp at h⟩
 |n+1,h=>by
  obtain⟨xs,h1,h2⟩:=zGq n fun i hi=>h i (by omega)
  obtain⟨y,hy⟩:=h n (by omega);refine⟨xs++[y],by simp[h1],fun i x hx=>?_⟩;rw[Kf]at hx;split at hx
  ·exact h2 i x hx
  ·rename_i hge
   have:i-xs.length=0:=by have:=(Je.1 hx).1;simpa using this
   rw[this]at hx;simp at hx;subst hx
   rwa [show i=n from by omega]
theorem zOS{St:Stb}:(xs:List T)→ ∀(cs:Array Value)(o k:Nat),(∀i x,xs[i]? =iz x→RoC St x cs (o+i*k))→RoL St xs cs o k
 | [],_,_,_,_=>by simp only[RoL]
 |x::xs,cs,o,k,h=>by
  simp only[RoL];refine⟨by simpa using h 0 x rfl,zOS xs cs (o+k) k fun i y hy=>?_⟩;have:=h (i+1) y (by simpa using hy)
  rwa [show o+k+i*k=o+(i+1)*k from by rw[L5];omega]
section
variable {P:Program}
def RdT(P:Program)(t:TypeId)(k:Nat){α:Type}(f:α→T)(V:α→Prop):Prop:=
 ∀{H:Type}(enc:TypeId×Value→H)(w:World)(fuel:Nat)(cs:List Value)(x:DataW H×List MemPlace),DataW.trod enc P w 0 (fun _=>iB) iB fuel t cs=iz x→
  cs.length=k→ ∃d,V d∧ ∀(A:Array Value)(o:Nat),(∀(i:Nat) v,cs[i]? =iz v→A[o+i]? =iz v)→RoC (zLr w) (f d) A o
theorem zYG{t:TypeId}{q:IntKind}(hu:P.underlying t=iz (.int q)):RdT P t 1 (IK q) (fun n=>(Lit.int q n).wf=iB):=by intro H enc w fuel cs x h _;obtain⟨n,rfl,_,hw⟩:=DataW.trod_int hu h;exact⟨n,hw,fun A o hA=>by simp only[RoC];exact⟨by simpa using hA 0 _ rfl,rfl⟩⟩
theorem yCm{α:Type}{f:α→T}{V:α→Prop}{t e:TypeId}{k:Nat}(hu:P.underlying t=iz (.slice e))(hk:P.cellsOf e=k)(eD:0<k)(h:RdT P e k f V):
  RdT P t 1 (L k f) (fun xs=>xs.length≤maxLen∧ ∀x∈xs,V x):=by
 intro H enc w fuel cs x hx _;rcases DataW.trod_slice hu hx with⟨rfl,_⟩|⟨a,len,cap,elems,rest,n,rfl,rfl,_,_,eK,ci,aO,pu,_⟩
 ·refine⟨[],⟨by simp,by simp⟩,fun A o hA=>?_⟩
  simp only[RoC,U2,U5];exact⟨iA,0,by simpa using hA 0 _ rfl,Jf _,by simp[maxLen],fun h=>absurd rfl h⟩
 ·subst hk
  have key:∀i,i<len→ ∃y,V y∧ ∃cs':List Value,cs'.length=P.cellsOf e∧(∀(j:Nat) v,cs'[j]? =iz v→w.cell? ((a.add (i*P.cellsOf e)).add j)=iz v)∧
    ∀(A:Array Value)(o:Nat),(∀(j:Nat) v,cs'[j]? =iz v→A[o+j]? =iz v)→RoC (zLr w) (f y) A o:=by
   intro i hi;have h1:=pu i hi;rw[J5 (by omega)]at h1;obtain⟨cs',h2,h3⟩:=Ug.1 h1;obtain⟨h4,h5⟩:=zQd h2;obtain⟨y,h6,h7⟩:=h enc w n cs' _ h3 h4;exact⟨y,h6,cs',h4,h5,h7⟩
  obtain⟨xs,pc,eY⟩:=zGq len key;refine⟨xs,⟨by omega,fun y hy=>?_⟩,fun A o hA=>?_⟩
  ·obtain⟨i,hi,rfl⟩:=Jt.1 hy
   exact(eY i _ (J5 hi)).1
  ·simp only[RoC,Jo,pc]
   refine⟨iz a,cap,by simpa using hA 0 _ rfl,eK,ci,fun gf=>?_⟩;have cD:0<xs.length:=by
    cases xs with
    |nil=>simp at gf
    |cons _ _=>simp
   obtain⟨_,cs0,g1,g2,_⟩:=eY 0 _ (J5 cD);have hz:a.add (0*P.cellsOf e)=a:=by simp[Addr.add]
   have g3:=g2 0 cs0[0] (J5 (by omega));rw[hz,show a.add 0=a from by simp[Addr.add]]at g3;obtain⟨fM,c,e',fr,hb,_⟩:=zOR g3;obtain⟨b,off,sp⟩:=a;simp only at fM hb;subst fM;refine⟨b,off,c,e',fr,rfl,hb,zOS _ _ _ _ fun i y hy=>?_⟩;rw[Jn,Ke]at hy;obtain⟨z,ma,rfl⟩:=hy;obtain⟨_,cs',g1',g2',g4⟩:=eY i z ma;refine g4 c _ fun j v hv=>?_
   have:=g2' j v hv;rw[zLs,zLs]at this;obtain⟨_,c2,e2,fr2,av,pi⟩:=zOR this;simp only at av pi;rw[hb]at av;cases av;exact pi
end
def zV1(v:Value):Value:=if v.oneCell' then v else .bool iC
theorem zLt(v:Value):(zV1 v).oneCell'=iB:=by unfold zV1;split;assumption;rfl
def hd0(vs:Array Value)(s:Nat)(p:List Nat):Value:=
 match vs[s]?,p with
 |some (.agg cs),[j]=>zV1 (cs[j]?.getD (.bool iC))
 |some v,[]=>zV1 v
 |_,_=>.bool iC
def G0(vs:Array Value):Gh:={ hd:=hd0 vs,ad:=fun _ _=>default,lb:=fun _ _=>iA,ow:=fun _=>iA }
theorem yCn(w:World)(vs:Array Value):Mem ⟨zLr w,fun _=>False,w,0⟩ (G0 vs) w where
 one s p:=by
  simp only[G0,hd0];split
  ·exact zLt _
  ·exact zLt _
  ·rfl
 lb b o l h:=by simp[G0]at h
 ow b l h:=by simp[G0]at h
 st b x h:=h
 fr b _ _:=rfl
 sz:=Jf _
 bk:=⟨fun b cs e h=>⟨cs,h,rfl⟩,rfl,rfl⟩
def RdA(P:Program)(t:TypeId){α:Type}(u:α→T)(V:α→Prop):Prop:=
 ∀{H:Type}(enc:TypeId×Value→H)(w:World)(base fuel:Nat)(v:Value)(x:DataW H×List MemPlace),DataW.trod enc P w 0 (fun _=>iB) iB fuel t v.cells.toList=iz x→
  Value.okWide P w .any base t v→ ∃d,V d∧ ∀(vs:Array Value)(s:Nat),vs[s]? =iz v→iz v=iz (mkV (G0 vs) s (u d) [])∧R (zLr w) (G0 vs) w s (u d) []
def RdC(P:Program)(t:TypeId){α:Type}(u:α→T)(V:α→Prop):Prop:=
 ∀{H:Type}(enc:TypeId×Value→H)(w:World)(fuel:Nat)(c:Value)(x:DataW H×List MemPlace),DataW.trod enc P w 0 (fun _=>iB) iB fuel t [c]=iz x→
  ∃d,V d∧c.oneCell'=iB∧ ∀(G:Gh)(s:Nat)(p:List Nat),G.hd s p=c→vals G s (u d) p=[c]∧R (zLr w) G w s (u d) p
section
variable {P:Program}
theorem yA9{α:Type}{f:α→T}{V:α→Prop}{t:TypeId}(h:RdT P t 1 f V)(h1:∀{H:Type}(enc:TypeId×Value→H)(w:World)(fuel:Nat)(c:Value)(x:DataW H×List MemPlace),DataW.trod enc P w 0 (fun _=>iB) iB fuel t [c]=iz x→c.oneCell'=iB):
  RdC P t (fun x=>T.ro (f x)) V:=by
 intro H enc w fuel c x hx;obtain⟨d,g1,g2⟩:=h enc w fuel [c] x hx rfl;refine⟨d,g1,h1 enc w fuel c x hx,fun G s p hp=>⟨by simp only[vals,hp],?_⟩⟩;simp only[R,hp];exact g2 _ _ fun i v hv=>by
  cases i with
  |zero=>simpa using hv
  |succ i=>simp at hv
theorem yCo{α:Type}{f:α→T}{V:α→Prop}{t e:TypeId}{k:Nat}(hu:P.underlying t=iz (.slice e))(hk:P.cellsOf e=k)(eD:0<k)(h:RdT P e k f V):RdC P t (fun xs=>T.ro (L k f xs)) (fun xs=>xs.length≤maxLen∧ ∀x∈xs,V x):=
 yA9 (yCm hu hk eD h) fun enc w fuel c x hx=>by
  rcases DataW.trod_slice hu hx with⟨h1,_⟩|⟨a,len,cap,_,_,_,_,h1,_⟩<;>
  ·simp only[Qt.injEq,and_true]at h1
   subst h1;rfl
theorem zV2{α:Type}{u:α→T}{V:α→Prop}{t:TypeId}(hs:∀x,(u x).single=iB∧ ∀G s,mkV G s (u x) []=G.hd s [])(h:RdC P t u V)
  (hv:∀{w:World}{base:Nat}{v:Value},Value.okWide P w .any base t v→v.oneCell'=iB):RdA P t u V:=by
 intro H enc w base fuel v x hx gB;have h1:v.cells.toList=[v]:=by have:=hv gB;cases v<;>simp_all [Value.oneCell',Value.cells]
 rw[h1]at hx;obtain⟨d,g1,g2,g3⟩:=h enc w fuel v x hx;refine⟨d,g1,fun vs s pe=>?_⟩;have gL:(G0 vs).hd s []=v:=by simp only[G0,hd0,pe];cases v<;>first|rfl|simp[Value.oneCell']at g2
 exact⟨by rw[(hs d).2,gL],(g3 _ _ _ gL).2⟩
end
theorem FnC.top{P:Program}{f:FuncId}{us:List T}(h:FnC P f us [B iB] []){w:World}{vs:Array Value}(gC:vs.size=us.length)
  (ha:∀(i:Nat) u,us[i]? =iz u→vs[i]? =iz (mkV (G0 vs) i u [])∧R (zLr w) (G0 vs) w i u []):
  Calls P f vs w fun e w'=>e=.returned (.bool iB)∧w'.os=w.os∧w'.output=w.output∧w.heap.size≤w'.heap.size∧ ∀b,b<w.heap.size→w'.heap[b]? =w.heap[b]?:=by
 refine(h (zLr w) (fun _=>False) w (G0 vs) vs gC (fun i u hu=>?_) (yCn w vs)).mono fun e w'=>?_
 ·obtain⟨h1,h2⟩:=ha i u hu
  refine⟨?_,h2⟩;rw[h1]
 ·rintro⟨S',G',nd,_,he,hm,fw,hr,_,_⟩
  match nd,fw with
  | [(s,p,t)],fw=>
   simp only[Jl,U2,Qt.injEq,and_true]at fw;subst fw;have:=(hr (s,p,B iB) (by simp)).1;simp only[R]at this;exact⟨by rw[he];simp only[zKX,sK,this],hm.bk.os,hm.bk.out,hm.sz,fun b hb=>hm.fr b hb (fun h=>h)⟩
theorem zEc{H:Type}{enc:TypeId×Value→H}{P:Program}(hl:laidOutB P=iB){W W':World}{sp:Nat→Bool}:∀{ts:List TypeId}{vs:List Value}{ds:List (DataW H)}{ps:List MemPlace},(∀t∈ts,P.readableRec t=iB∧t<P.types.size)→
  DataW.TrodAll enc P W 0 (fun _=>iB) iB ts vs ds ps→(∀p∈ps,W.sameAt W' p)→(∀p∈ps,sp p.block=iB)→DataW.TrodAll enc P W' 0 sp iB ts vs ds ps
 | [],[],[],_,_,h,_,_=>h
 |t::ts,v::vs,d::ds,ps,hr,h,h1,h2=>by
  obtain⟨p,q,g1,g2,rfl⟩:=h;exact⟨p,q,Go.WideElems.Trod_stays hl (hr t (by simp)).1 (hr t (by simp)).2 g1 (fun x hx=>h1 x (by simp[hx])) (fun x hx=>h2 x (by simp[hx])),
   zEc hl (fun t' cv=>hr t' (by simp[cv])) g2 (fun x hx=>h1 x (by simp[hx])) (fun x hx=>h2 x (by simp[hx])),rfl⟩
 | [],_::_,_,_,_,h,_,_| [],[],_::_,_,_,h,_,_|_::_,[],_,_,_,h,_,_|_::_,_::_,[],_,_,h,_,_=>h.elim
theorem zNc{C:Checked}{os:Os}(own:ownKnob C.prog.godebug=iA)(started:os.Started){f:FuncId}{fn:Func}(noInit:C.prog.inits.idxOf? f=iA)(uo:C.prog.funcs[f]? =iz fn){H:Type}{enc:TypeId×Value→H}{s:ChangeSpec}{conds:List PathCond}{apart fresh handsOn again:Bool}
  (witness:∃(w:World)(tape:Tape)(i:Input),w.os=os∧(w.forCall tape i).Shaped C.prog∧i.vars=[]∧Input.okWide C.prog (w.forCall tape i) .any w.heap.size f i∧
   s.pre6 enc C.prog fn conds apart (w.forCall tape i).memory i.args∧Assume.holds {} C.prog (lone (Frame.enter C.prog f i.args .normal) [] (w.forCall tape i)))
  (hs:∀(l:List (DataW H)),l.length=fn.params.size→(s.fn H l).results=[.lit (.bool iB)]∧(s.fn H l).args=l∧(s.fn H l).vars=[])(pG:s.vars=[]){tb:TypeId}(eU:fn.resultTypes= #[tb])(hb:C.prog.underlying tb=iz .bool)
  (laid:laidOutB C.prog=iB)(bU:fn.params.toList.all (fun t=>C.prog.readableRec t&&decide (t<C.prog.types.size))=iB)
  (law:∀(W:World)(base:Nat)(args:Array Value)(ds:List (DataW H))(p:List MemPlace),(∀(j:Nat) t v,fn.params[j]? =iz t→args[j]? =iz v→Value.okWide C.prog W .any base t v)→
   DataW.TrodAll enc C.prog W 0 (fun _=>iB) iB fn.params.toList args.toList ds p→
   ∃us:List T,args.size=us.length∧FnC C.prog f us [B iB] []∧ ∀(i:Nat) u,us[i]? =iz u→args[i]? =iz (mkV (G0 args) i u [])∧R (zLr W) (G0 args) W i u []):
  ReturnsInHanded {} C os f .any (s.pre6 enc C.prog fn conds apart) (s.post enc C.prog fn apart fresh handsOn again):=by
 refine returnsInHanded_of_change (C:=C) own started noInit uo witness ?_;intro W base args ds gs before hval hW _ _;have hW':=hW;obtain⟨p,q,hA,hV,hbq,hfz,fw⟩:=hW;obtain⟨us,h1,h2,h3⟩:=law W base args ds p hval hA;have hl:ds.length=fn.params.size:=by
  have:∀{ts:List TypeId}{vs:List Value}{ds:List (DataW H)}{p:List MemPlace},DataW.TrodAll enc C.prog W 0 (fun _=>iB) iB ts vs ds p→ds.length=ts.length:=by
   intro ts
   induction ts with
   |nil=>intro vs ds p h;cases vs<;>cases ds<;>first|rfl|exact h.elim
   |cons t ts ih=>intro vs ds p h;cases vs<;>cases ds<;>first|exact h.elim|(obtain⟨_,_,_,g,_⟩:=h;simp[ih g])
  simpa using this hA
 rw[pG]at hV;have hq:gs=[]∧q=[]:=by
  cases gs with
  |nil=>exact⟨rfl,hV⟩
  |cons _ _=>exact hV.elim
 obtain⟨rfl,rfl⟩:=hq;have gH:=hW'.lt;refine(h2.top h1 h3).mono fun e w' ⟨he,ho,hq,gC,hh⟩=>⟨_,he,?_⟩
 have eg:∀p∈before,W.sameAt w' p:=fun p hp=>by
  have:=gH p hp;cases p with
  |cell b off=>simp only[World.sameAt,World.cell?,hh b this]
  |map b=>exact hh b this
 obtain⟨k1,k2,k3⟩:=hs ds hl;have hbp:before=p:=by simpa using hbq
 subst hbp;have gM:∀t∈fn.params.toList,C.prog.readableRec t=iB∧t<C.prog.types.size:=fun t ht=>by have:=K4.1 bU t ht;simpa using this
 have gA:∀(b:Nat)(sp:Nat→Bool)(hd:Bool),DataW.TrodAll enc C.prog w' b sp hd fn.resultTypes.toList ((Value.bool iB).resultList fn.resultTypes.size) (s.fn H (ds++[])).results []:=fun b sp hd=>by rw[eU,J9,k1];exact⟨[],[],⟨1,by simp[DataW.trod,hb,Value.cells]⟩,⟨rfl,rfl⟩⟩
 have gk:∀sp:Nat→Bool,(∀p∈before,sp p.block=iB)→DataW.TrodAll enc C.prog w' 0 sp iB fn.params.toList args.toList (s.fn H (ds++[])).args before:=fun sp fM=>by rw[J9,k2];exact zEc laid gM hA eg fM
 have bD:∀sp:Nat→Bool,DataW.TrodVars enc C.prog w' sp s.vars (s.fn H (ds++[])).vars []:=fun sp=>by rw[pG,J9,k3];rfl
 have gJ:∀p∈before,(fun b=>decide (b<W.heap.size)) p.block=iB:=fun p hp=>by simpa using gH p hp
 have mD:∀p∈before,∀o,w'.frozen? ⟨p.block,o,iA⟩=W.frozen? ⟨p.block,o,iA⟩:=fun p hp o=>by simp only[World.frozen?,hh _ (gH p hp)]
 refine⟨ds,[],before,[],before,[],hW',gA _ _ _,gk _ gJ,bD _,⟨ho,hq,fun i hi=>?_⟩,fun _=>⟨fun j t r hj hr=>?_,_,_,([]++before)++[],⟨[]++before,[],trodAll_append (gk _ (fun _ _=>rfl)) (gA _ _ _),bD _,rfl,fun b off hp=>?_,fun ha=>?_⟩,fun p hp _=>?_⟩⟩
 ·rw[hh i hi]
  cases hx:W.heap[i]? with
  |none=>rfl
  |some o=>cases o<;>simp
 ·rw[eU]at hj hr
  match j,hj,hr with
  |0,hj,hr=>
   simp[Value.resultList]at hj hr;subst hj;subst hr;simp[Value.okWide,hb,Cell.okWide,Cell.ok]
 ·have fY:MemPlace.cell b off∈before:=by simpa using hp
  exact(mD _ fY off).trans (hfz b off fY)
 ·have:=fw ha
  simpa using this
 ·simpa using hp
end Go.Ab

namespace Go.Ab
open Go
def kL(hs:List Nat)(E:Env):Prop:=∀s,hs.contains s=iB→ ∃t,E s=iz t∧jU t=iB
def zYH(hs:List Nat)(z:Nat×Option T):Bool:=!hs.contains z.1||match z.2 with
 |some t=>jU t
 |none=>iC
def wrS(hs:List Nat)(X:Stp):Bool:=X.l.all fun y=>y.1.all (zYH hs)
theorem zLu{s:Nat}{x:Option T}:∀{wr:Wr},wr.find s=iz x→(s,x)∈wr
 | [],h=>by grind[Wr.find]
 |(k,y)::wr,h=>by
  simp only[Wr.find]at h;split at h
  ·grind
  ·exact Ut _ (zLu h)
theorem kL.apps{hs:List Nat}:∀(l:zCW)(E:Env),kL hs E→(l.all fun y=>y.1.all (zYH hs))=iB→kL hs (E.apps l)
 | [],_,h,_=>h
 |x::l,E,h,hw=>by
  simp only[Gy,J3]at hw;refine kL.apps l (E.app x.1 x.2) (fun s gS=>?_) hw.2;obtain⟨t,he,ht⟩:=h s gS;unfold Env.app;cases hf:x.1.find s with
  |some y=>
   have h1:=K4.1 hw.1 _ (zLu hf);simp only[zYH,gS,J7,Bool.false_or]at h1
   grind
  |none=>grind[uV]
theorem kL.runD{hs:List Nat}:∀(l:List (Bool×Stp))(E:Env),kL hs E→(∀y∈l,wrS hs y.2=iB)→kL hs (runD E l)
 | [],_,h,_=>h
 |(b,X)::l,E,h,hw=>by
  simp only[Go.Ab.runD];refine kL.runD l _ ?_ fun y hy=>hw y (by simp[hy])
  cases b with
  |true=>exact kL.apps X.l E h (hw (iB,X) (by simp))
  |false=>exact h
section
variable {P:Program}{Γ:Ctx}{pn:jT}{E E':Env}{Q:Exit→Env→Prop}{ops:Array Oper}{o:Oper}{os:List Oper}{id:Nat}{wr:Wr}{chg:Chg}{hs:List Nat}
def zOT(P:Program)(Γ:Ctx)(pn:jT)(ops:Array Oper)(o:Oper)(E E':Env):Prop:=
 ∀(a:Act)(w:World)(K:Act→World→Prop)(Q:Exit→Act→World→Prop),pn.Hold a→kQ Γ E a w→(∀a' w',kQ Γ E' a' w'→(∀s,o.dst≠iz s→a'.tmps[s]? =a.tmps[s]?)→K a' w')→
  if Region.wanted o (yielded ops a.tmps)then o.wp P a w K Q∨(o.asks P a w∧LetsOut Q)else K (a.put o.dst undef) w
def vL(P:Program)(Γ:Ctx)(pn:jT)(hs:List Nat)(ops:Array Oper):List Oper→List Stp→Prop
 | [],[]=>True
 |o::os,X::Xs=>(∀E:Env,E.Has X.rd→kL hs E→zOT P Γ pn ops o E (E.apps X.l))∧vL P Γ pn hs ops os Xs
 |_,_=>False
theorem vL.get:∀(os:List Oper)(Xs:List Stp),vL P Γ pn hs ops os Xs→os.length=Xs.length∧ ∀(i:Nat)(o:Oper)(X:Stp),os[i]? =iz o→Xs[i]? =iz X→ ∀E:Env,E.Has X.rd→kL hs E→zOT P Γ pn ops o E (E.apps X.l)
 | [],[],_=>by simp
 |o::os,X::Xs,h=>by
  obtain⟨h1,h2⟩:=vL.get os Xs h.2;refine⟨by simp[h1],fun i o' X' ho hX=>?_⟩;cases i with
  |zero=>simp at ho hX;subst ho hX;exact h.1
  |succ i=>exact h2 i o' X' (by simpa using ho) (by simpa using hX)
 | [],_::_,h=>by simp[vL]at h
 |_::_,[],h=>by simp[vL]at h
theorem vL.snoc{X:Stp}:∀(os:List Oper)(Xs:List Stp),vL P Γ pn hs ops os Xs→(∀E:Env,E.Has X.rd→kL hs E→zOT P Γ pn ops o E (E.apps X.l))→vL P Γ pn hs ops (os++[o]) (Xs++[X])
 | [],[],_,h=>⟨h,trivial⟩
 |_::os,_::Xs,h1,h=>⟨h1.1,vL.snoc os Xs h1.2 h⟩
 | [],_::_,h,_=>by simp[vL]at h
 |_::_,[],h,_=>by simp[vL]at h
theorem sP.snoc{X:Stp}:∀(Xs:List Stp)(E:Env),sP E Xs→(runD E (Xs.map fun y=>(iB,y))).Has X.rd→sP E (Xs++[X])
 | [],_,_,h=>⟨by grind[runD],trivial⟩
 |_::Xs,_,h1,h=>⟨h1.1,sP.snoc Xs _ h1.2 (by simpa[runD]using h)⟩
theorem zKj{E0:Env}{eC:List Nat}{Xs:List Stp}{an:List (List Nat)}{Q':Exit→Act→World→Prop}(hf:zB5 0 ops.toList=iB)(ha:zAU an an ops.toList=iB)(hp:kW Xs 0 an Xs=iB)
  (gN:vL P Γ pn eC ops ops.toList Xs)(hI:kL eC E0)(hw:Xs.all (wrS eC)=iB)(hh:sP E0 Xs)(bZ:ops.toList.all (fun o=>pn.ok o.dst)=iB)(hQ:∀a' w',kQ Γ (runD E0 (Xs.map fun y=>(iB,y))) a' w'→pn.Hold a'→Q' .normal a' w'):
  ∀(fuel:Nat)(L:List Bool)(a:Act)(w:World),L.length=ops.size→L.count iC=fuel→zRD ops L→kQ Γ (runD E0 (L.zip Xs)) a w→pn.Hold a→wpAny P .any ops Q' fuel L.toArray a w:=by
 obtain⟨gm,pL⟩:=vL.get _ _ gN;have pU:Xs.length=ops.size:=by grind
 intro fuel
 induction fuel with
 |zero=>
  intro L a w hL hcnt gD hs fg;have fp:∀b∈L,b=iB:=by grind
  have iw:L=J1 ops.size iB:=by rw[←hL];exact List.eq_replicate_iff.2 ⟨rfl,fp⟩
  refine⟨?_,?_⟩
  ·apply List.eq_nil_iff_forall_not_mem.2
   intro j hj;obtain⟨h1,o,ho,_⟩:=mem_ready.1 hj;have gH:=(Hn.1 ho).1;rw[iw]at h1;simp[gH]at h1
  ·refine hQ a w ?_ fg
   have:L.zip Xs=Xs.map fun y=>(iB,y):=by
    rw[iw,←pU]
    clear hs hL iw fp hcnt gD gN hw hh hp gm pU pL hQ
    induction Xs with
    |nil=>rfl
    |cons X Xs ih=>simp[Jv,ih]
   grind
 |succ fuel ih=>
  intro L a w hL hcnt gD hs fg;refine⟨fun hr=>?_,fun i hi=>?_⟩
  ·
   exfalso
   have bp:∃m:Nat,L[m]? =iz iC:=by
    have:iC∈L:=by grind
    grind[Un]
   obtain⟨m,hm,eR⟩:=zEa bp;have hmlt:=(Je.1 hm).1;have aI:ops[m]? =iz ops[m]:=by simp
   have:m∈Region.ready .any ops L.toArray:=by
    refine mem_ready.2 ⟨by simp_all,ops[m],aI,fun e he hb=>?_⟩;have hpm:e.on∈zBV ops[m]:=by
     simp only[zBV,Jj,Qs]
     grind
    have gH:=zGF ops.toList 0 m _ hf (by simp) _ hpm;rw[J8]at gH;cases hL1:L[e.on]? with
    |none=>grind
    |some b=>
     cases b with
     |false=>grind
     |true=>simp_all
   grind
  ·obtain⟨h1,o,ho,fp⟩:=mem_ready.1 hi
   have gH:=(Hn.1 ho).1;have hLi:L[i]? =iz iC:=by simp_all
   have fX:∀m∈zBV o,L[m]? =iz iB:=by
    intro m hm;simp only[zBV,Jj,Qs]at hm;obtain⟨e,⟨he,hb⟩,rfl⟩:=hm;have:=fp e (by grind) hb;cases hL1:L[e.on]? with
    |none=>grind
    |some b=>simp_all
   have hanc:=zHz hf ha gD i i (Jf _) o ho fX;have br:Xs[i]? =iz Xs[i]:=by simp
   generalize hXe:Xs[i]=X at br
   have tx:∀(j:Nat)(Y:Stp),Xs[j]? =iz Y→i<j→L[j]? =iz iB→X.apart Y=iB:=by
    intro j Y hY gV hj;rcases zFB Xs Xs 0 an j Y hp hY i X (by omega) br with h|h
    ·have hjlt:=(Je.1 hY).1
     have dT:ops[j]? =iz ops[j]:=by simp
     have:=zHz hf ha gD j j (Jf _) _ dT (gD j _ dT hj) i h
     grind
    ·exact h
   have mG:∀(j:Nat)(Y:Stp),Xs[j]? =iz Y→j<i→L[j]? =iz iC→Y.apart X=iB:=by grind[zFB]
   have cC:∀y∈(L.take i).zip (Xs.take i),∃j:Nat,j<i∧L[j]? =iz y.1∧Xs[j]? =iz y.2:=by
    intro y hy;obtain⟨j,g1,g2⟩:=zKc hy;rw[H1]at g1 g2
    grind
   have pQ:∀y∈(L.drop (i+1)).zip (Xs.drop (i+1)),∃j:Nat,i<j∧L[j]? =iz y.1∧Xs[j]? =iz y.2:=by
    intro y hy;obtain⟨j,g1,g2⟩:=zKc hy;rw[Lh]at g1 g2
    grind
   have fM:=zJe hLi br;have uj:(runD E0 (L.zip Xs)).Has X.rd:=by
    rw[fM,zA1];simp only[runD,H2,if_false];have h0:=sP.get Xs E0 hh i X br;refine h0.of fun s t gN eC=>?_
    have hsm:s∈X.rd.map (·.1):=by grind
    refine zJd _ _ (fun y hy hb=>?_) ?_
    ·obtain⟨j,g1,g2,g3⟩:=pQ y hy
     have:=Stp.apart_spec (tx j y.2 g3 g1 (by rw[g2,hb]));exact⟨by grind,by grind⟩
    ·have hmp:((L.take i).zip (Xs.take i)).map (fun y=>(iB,y.2))=(Xs.take i).map fun y=>(iB,y):=by
      have ue:(L.take i).length=(Xs.take i).length:=by simp;omega
      rw[show(fun y:Bool×Stp=>(iB,y.2))=(fun y=>(iB,y))∘Prod.snd from rfl,←Ud,List.map_snd_zip (by omega)]
     refine zJc _ E0 E0 (fun y hy hb gS=>?_) (fun _ h=>h) t (by grind);obtain⟨j,g1,g2,g3⟩:=cC y hy;have:=Stp.apart_spec (mG j y.2 g3 g1 (by rw[g2,hb]))
     grind
   have hnext:runD E0 ((L.set i iB).zip Xs)=(runD E0 (L.zip Xs)).apps X.l:=by
    have hLs:(L.set i iB)[i]? =iz iB:=by grind
    rw[zJe hLs br,fM,zA1,zA1];simp only[runD,if_true,H2,if_false,List.take_set_of_le (Jf i),List.drop_set_of_lt (Nat.lt_succ_self i)];refine zFA _ X _ fun y hy hb=>?_
    obtain⟨j,g1,g2,g3⟩:=pQ y hy;exact(Stp.apart_spec (by grind)).1
   have di:=pL i o X (by grind) br _ uj (kL.runD (L.zip Xs) E0 hI fun y hy=>K4.1 hw _ (by obtain⟨j,_,g⟩:=zKc hy;grind));unfold wpOp;simp only[ho];refine di a w _ Q' fg hs fun a' w' gS mD=>?_
   rw[List.setIfInBounds_toArray];have gB:pn.ok o.dst=iB:=by grind
   refine ih (L.set i iB) a' w' (by simp[hL]) (by grind) ?_ (by grind) (fg.frame gB mD);intro k ok hk hkt m hm
   by_cases hki:k=i
   ·subst hki
    rw[ho]at hk;simp at hk;subst hk;rw[Qx];split
    ·grind
    grind
   ·rw[List.getElem?_set_ne (Ne.symm hki)]at hkt
    rw[Qx];split
    ·grind
    ·exact gD k ok hk hkt m hm
theorem CW.drawnI{eC:List Nat}{id:Nat}{E:Env}{Q:Exit→Env→Prop}(Xs:List Stp)(an:List (List Nat))(hm:P.follows .mixedOrders=iB)(gN:vL P Γ pn eC ops ops.toList Xs)(hI:kL eC E)(hw:Xs.all (wrS eC)=iB)(hh:sP E Xs)
  (hQ:Q .normal (runD E (Xs.map fun y=>(iB,y))))(hf:zB5 0 ops.toList=iB:=by rfl)(ha:zAU an an ops.toList=iB:=by rfl)(hp:kW Xs 0 an Xs=iB:=by rfl)
  (bZ:ops.toList.all (fun o=>pn.ok o.dst)=iB:=by rfl):CW P Γ pn (.region id ops iB) E Q:=by
 intro a w Q' hs fg hQ';refine wp_region_any hm ?_;have gS:kQ Γ E a { w with drawn:=w.drawn+1 }:=by obtain⟨S,hS,gZ,G,hr⟩:=hs;exact⟨S,hS,gZ,G,hr.heap rfl⟩
 have:=zKj (P:=P) (Γ:=Γ) (pn:=pn) (E0:=E) (Q':=Q') hf ha hp gN hI hw hh bZ (by grind) ops.size (J1 ops.size iC) a { w with drawn:=w.drawn+1 } (by simp) (by simp)
  (fun i o ho hi=>by
   grind) (by
   have:runD E ((J1 ops.size iC).zip Xs)=E:=by
    generalize ops.size=n
    clear gN hI hw hh hQ hf ha hp gS
    induction n generalizing Xs with
    |zero=>simp[runD]
    |succ n ih=>
     cases Xs with
     |nil=>simp[runD]
     |cons X Xs=>simpa[Jv,runD]using ih Xs
   grind) fg
 grind
def DK(P:Program)(Γ:Ctx)(pn:jT)(ops:Array Oper)(id:Nat)(hs:List Nat)(E0:Env)(Q:Exit→Env→Prop)(os:List Oper)(E:Env)(acc:List Stp):Prop:=
 ∀don,don++os=ops.toList→vL P Γ pn hs ops don acc.reverse→sP E0 acc.reverse→E=runD E0 (acc.reverse.map fun y=>(iB,y))→CW P Γ pn (.region id ops iB) E0 Q
variable {E0:Env}{acc:List Stp}
theorem CW.dk(h:DK P Γ pn ops id [] E Q ops.toList E []):CW P Γ pn (.region id ops iB) E Q:=h [] rfl trivial trivial rfl
theorem CW.dkS(hs:List Nat)(h:DK P Γ pn ops id hs E Q ops.toList E []):CW P Γ pn (.region id ops iB) E Q:=h [] rfl trivial trivial rfl
theorem dGP(rd:List (Nat×T))(l:zCW)(gM:E.Has rd)(gN:∀E':Env,E'.Has rd→kL hs E'→zOT P Γ pn ops o E' (E'.apps l))(k:DK P Γ pn ops id hs E0 Q os (E.apps l) (⟨rd,l⟩::acc)):DK P Γ pn ops id hs E0 Q (o::os) E acc:=by
 intro don hd hso hh hE;subst hE;have hr:=fun X=>Hb (a:=X) (as:=acc)
 refine k (don++[o]) (by simp[hd]) ?_ ?_ ?_
 ·grind[vL.snoc]
 ·grind[sP.snoc]
 ·rw[hr,Lp,zA1];rfl
theorem dGS(rd:List (Nat×T))(l:zCW)(gM:E.Has rd)(gN:∀E':Env,E'.Has rd→kL hs E'→yS P Γ ops o E' (E'.apps l))(k:DK P Γ pn ops id hs E0 Q os (E.apps l) (⟨rd,l⟩::acc)):DK P Γ pn ops id hs E0 Q (o::os) E acc:=
 dGP rd l gM (fun E' h h' a w K Q _=>gN E' h h' a w K Q) k
theorem dG(rd:List (Nat×T))(l:zCW)(gM:E.Has rd)(gN:∀E':Env,E'.Has rd→yS P Γ ops o E' (E'.apps l))(k:DK P Γ pn ops id hs E0 Q os (E.apps l) (⟨rd,l⟩::acc)):DK P Γ pn ops id hs E0 Q (o::os) E acc:=
 by grind[dGS]
def zRT(hs:List Nat)(E:Env):Bool:=hs.all fun s=>match E s with
 |some t=>jU t
 |none=>iC
theorem zRU(h:zRT hs E=iB):kL hs E:=by
 intro s gS;have h1:=K4.1 h s (by grind)
 grind
theorem dN(an:List (List Nat))(hm:P.follows .mixedOrders=iB)(hQ:Q .normal E)(hf:zB5 0 ops.toList=iB:=by rfl)(ha:zAU an an ops.toList=iB:=by rfl)(hp:kW acc.reverse 0 an acc.reverse=iB:=by rfl)
  (bZ:ops.toList.all (fun o=>pn.ok o.dst)=iB:=by rfl)(bo:zRT hs E0=iB:=by rfl)(hw:acc.reverse.all (wrS hs)=iB:=by rfl):DK P Γ pn ops id hs E0 Q [] E acc:=by
 intro don hd gN hh hE
 grind[CW.drawnI,zRU]
end
end Go.Ab

namespace Go.Ab
open Go
section
variable {P:Program}{Γ:Ctx}{pn:jT}{E E':Env}{Q:Exit→Env→Prop}{ops:Array Oper}{o:Oper}{os:List Oper}{id d:Nat}{wr:Wr}{chg:Chg}{hs:List Nat}{E0:Env}{acc:List Stp}{x y:Operand}{ty:TypeId}{ps:String}{af:Array Edge}{gd:Option (Nat×Bool)}
class zG9 (P:Program) (t:TypeId) (e:outParam TypeId):Prop where
 h:P.underlying t=iz (.slice e)
class zA2 (P:Program) (t:TypeId) (b:outParam Bool) (n:outParam Nat):Prop where
 h:∀u:T,u.single=b→u.size=n→zVq P t u
theorem hE{rd:List (Nat×T)}{s:Nat}{t:T}(h:E.Has rd)(hr:wZ rd s=iz t):E s=iz t:=h.le s t hr
theorem hO{rd:List (Nat×T)}{t:T}(h:E.Has rd)(hr:opT (wZ rd) x=iz t):opT E x=iz t:=by
 cases x<;>simp only[opT]at hr ⊢
 ·exact h.le _ _ hr
 all_goals exact hr
mutual
def zEt:T→Bool
 |.ro _|.lit _|.any=>iB
 |.agg xs|.tup xs=>zGI xs
 |.ptr t=>zEt t
 |.sl _ []=>iB
 |_=>iC
def zGI:List T→Bool
 | []=>iB
 |x::xs=>zEt x&&zGI xs
end
mutual
theorem zDB:{t:T}→zEt t=iB→zW t
 |.ro _,_|.lit _,_|.any,_=>by simp[zW,yN]
 |.agg xs,h|.tup xs,h=>by simp only[zEt]at h;simpa only[zW,yN]using zH7 h
 |.ptr t,h=>by simp only[zEt]at h;exact zRJ (zDB h)
 |.sl _ [],_=>by simp[zW,yN,xH]
 |.sl _ (_::_),h=>by simp[zEt]at h
 |.same _ _,h|.addr _ _,h|.sub _ _ _ _ _,h=>by simp[zEt]at h
theorem zH7:{xs:List T}→zGI xs=iB→yU xs
 | [],_=>trivial
 |x::xs,h=>by simp only[zGI,J3]at h;exact⟨zDB h.1,zH7 h.2⟩
end
theorem yAA{α:Type}{t e:TypeId}{ti:TypeInfo}{r k:Nat}{q:List Nat}{f:α→T}{xs:List α}{v:α}{i:Int}[ht:zBZ P t e ti k](hx:tL E x=iz (r,q,L k f xs))(hy:opT E y=iz (I i))(hv:ixO xs i=iz v)(sd:J4 d Γ.N=iB):
  Ok P Γ ⟨iz d,.indexAddr t x y,ty,ps,af,gd⟩ E (E.app [(d,iz (.addr r (i.toNat::q)))] [(d,0)]):=yAu ht hv hx hy sd
theorem yAB{α:Type}{t e:TypeId}{ti:TypeInfo}{r k:Nat}{q:List Nat}{f:α→T}{xs:List α}{v:α}{i:Int}[ht:zBZ P t e ti k](hx:tL E x=iz (r,q,.ro (L k f xs)))(hy:opT E y=iz (I i))(hv:ixO xs i=iz v)(sd:J4 d Γ.N=iB):
  Ok P Γ ⟨iz d,.indexAddr t x y,ty,ps,af,gd⟩ E (E.app [(d,iz (.ro (.ptr (f v))))] [(d,0)]):=zX9 ht hv hx hy sd
theorem zOU{t:TypeId}{u:T}{b:Bool}{n:Nat}[i:zA2 P t b n](hx:opT E x=iz (.ro (.ptr u)))(h1:u.single=b)(h2:u.size=n)(sd:J4 d Γ.N=iB):Ok P Γ ⟨iz d,.load t x,ty,ps,af,gd⟩ E (E.app [(d,iz (roT u))] [(d,0)]):=yAv (i.h u h1 h2) hx sd
theorem zRV{t:TypeId}{u tr:T}{r:Nat}{q:List Nat}{b:Bool}{n:Nat}[i:zA2 P t b n](hx:opT E x=iz (.addr r q))(hr:E r=iz tr)(hg:tr.get q.reverse=iz u)(h1:u.single=b)(h2:u.size=n)(sd:(J4 d Γ.N&&tr.locd q.reverse&&(r != d)&&T.okB [(d,0)] (cpT r u q))=iB):
  Ok P Γ ⟨iz d,.load t x,ty,ps,af,gd⟩ E (E.app [(d,iz (cpT r u q))] [(d,0)]):=yAw (i.h u h1 h2) hx hr hg sd
theorem zRW{t:TypeId}{u tr t0:T}{r:Nat}{q:List Nat}{b:Bool}{n:Nat}[i:zA2 P t b n](hx:tL E x=iz (r,q,.ptr t0))(hr:E r=iz tr)(hg:tr.get (0::q).reverse=iz u)(h1:u.single=b)(h2:u.size=n)(sd:(J4 d Γ.N&&tr.locd (0::q).reverse&&(r != d)&&T.okB [(d,0)] (cpT r u (0::q)))=iB):
  Ok P Γ ⟨iz d,.load t x,ty,ps,af,gd⟩ E (E.app [(d,iz (cpT r u (0::q)))] [(d,0)]):=yA8 (i.h u h1 h2) hx hr hg sd
theorem zXM{α:Type}{t e:TypeId}{r k:Nat}{q:List Nat}{f:α→T}{xs:List α}[i:zG9 P t e](hx:tL E x=iz (r,q,L k f xs))(sd:J4 d Γ.N=iB):
  Ok P Γ ⟨iz d,.call { callee:=.builtin .len,args:=#[x],argTypes:=#[t] },ty,ps,af,gd⟩ E (E.app [(d,iz (I (xs.length:Int)))] [(d,0)]):=zXA i.h hx sd
theorem zNd{α:Type}{t e:TypeId}{r k:Nat}{q:List Nat}{f:α→T}{xs:List α}[i:zG9 P t e](hx:tL E x=iz (r,q,.ro (L k f xs)))(sd:J4 d Γ.N=iB):
  Ok P Γ ⟨iz d,.call { callee:=.builtin .len,args:=#[x],argTypes:=#[t] },ty,ps,af,gd⟩ E (E.app [(d,iz (I (xs.length:Int)))] [(d,0)]):=zRF i.h hx sd
theorem uA(k:RW P Γ pn ops os (E.app wr chg) Q)(h:Ok P Γ o E (E.app wr chg):=by exact zMW rfl rfl)(hg:o.guard=iA:=by rfl)(hp:pn.ok o.dst=iB:=by rfl):RW P Γ pn ops (o::os) E Q:=oP h k hg hp
theorem zYI{g s:Nat}{b:Bool}(k:RW P Γ pn ops os (E.app wr chg) Q)(hg:o.guard=iz (g,b):=by rfl)(gP:(ops[g]?).bind (·.dst)=iz s:=by rfl)(hb:E s=iz (.lit (.bool b)):=by rfl)(h:Ok P Γ o E (E.app wr chg):=by exact zMW rfl rfl)(hp:pn.ok o.dst=iB:=by rfl):RW P Γ pn ops (o::os) E Q:=RW.cons (yS.guard g b s h hg gP hb) k hp
theorem jV(k:RW P Γ pn ops os (E.app wr chg) Q)(h:Ok P Γ o E (E.app wr chg):=by exact zVp rfl rfl)(hg:o.guard=iA:=by rfl)(hp:pn.ok o.dst=iB:=by rfl):RW P Γ pn ops (o::os) E Q:=oP h k hg hp
theorem zOV(k:RW P Γ pn ops os (E.app wr chg) Q)(h:Ok P Γ o E (E.app wr chg):=by exact zOU rfl rfl rfl rfl)(hg:o.guard=iA:=by rfl)(hp:pn.ok o.dst=iB:=by rfl):RW P Γ pn ops (o::os) E Q:=oP h k hg hp
theorem zXN(k:RW P Γ pn ops os (E.app wr chg) Q)(h:Ok P Γ o E (E.app wr chg):=by exact yAB (by first|exact zB0 rfl rfl|exact zBY rfl rfl (by first|rfl|exact zU (by assumption) rfl|exact zU (by assumption) (zU (by assumption) rfl)|exact wG rfl (zU (by assumption) rfl)|exact wF (zU (by assumption) rfl)|exact wF (wG rfl (zU (by assumption) rfl))|exact wF (wG rfl (zU (by assumption) (zU (by assumption) rfl)))) rfl) rfl (by assumption) rfl)(hg:o.guard=iA:=by rfl)(hp:pn.ok o.dst=iB:=by rfl):RW P Γ pn ops (o::os) E Q:=oP h k hg hp
theorem zKk(k:RW P Γ pn ops os (E.app wr chg) Q)(h:Ok P Γ o E (E.app wr chg):=by exact zNd (by first|exact zB0 rfl rfl|exact zBY rfl rfl (by first|rfl|exact zU (by assumption) rfl|exact zU (by assumption) (zU (by assumption) rfl)|exact wG rfl (zU (by assumption) rfl)|exact wF (zU (by assumption) rfl)|exact wF (wG rfl (zU (by assumption) rfl))|exact wF (wG rfl (zU (by assumption) (zU (by assumption) rfl)))) rfl) rfl)(hg:o.guard=iA:=by rfl)(hp:pn.ok o.dst=iB:=by rfl):RW P Γ pn ops (o::os) E Q:=oP h k hg hp
theorem zLv(k:RW P Γ pn ops os (E.app wr chg) Q)(h:Ok P Γ o E (E.app wr chg):=by exact zRE (by assumption) rfl rfl rfl)(hg:o.guard=iA:=by rfl)(hp:pn.ok o.dst=iB:=by rfl):RW P Γ pn ops (o::os) E Q:=oP h k hg hp
theorem zGr(k:RW P Γ pn ops os (E.app wr chg) Q)(h:Ok P Γ o E (E.app wr chg):=by exact zX8 rfl rfl rfl)(hg:o.guard=iA:=by rfl)(hp:pn.ok o.dst=iB:=by rfl):RW P Γ pn ops (o::os) E Q:=oP h k hg hp
theorem zKl(k:RW P Γ pn ops os (E.app wr chg) Q)(h:Ok P Γ o E (E.app wr chg):=by exact zMX rfl rfl rfl)(hg:o.guard=iA:=by rfl)(hp:pn.ok o.dst=iB:=by rfl):RW P Γ pn ops (o::os) E Q:=oP h k hg hp
theorem yCp(k:RW P Γ pn ops os (E.app wr chg) Q)(h:Ok P Γ o E (E.app wr chg):=by exact zY3 inferInstance (by first|exact zB0 rfl rfl|exact zBY rfl rfl (by first|rfl|exact zU (by assumption) rfl|exact zU (by assumption) (zU (by assumption) rfl)|exact wG rfl (zU (by assumption) rfl)|exact wF (zU (by assumption) rfl)|exact wF (wG rfl (zU (by assumption) rfl))|exact wF (wG rfl (zU (by assumption) (zU (by assumption) rfl)))) rfl) rfl rfl rfl)(hg:o.guard=iA:=by rfl)(hp:pn.ok o.dst=iB:=by rfl):RW P Γ pn ops (o::os) E Q:=oP h k hg hp
theorem yAC(k:RW P Γ pn ops os (E.app wr chg) Q)(h:Ok P Γ o E (E.app wr chg):=by first|exact zRV rfl rfl rfl rfl rfl rfl|exact zRV rfl rfl (by first|rfl|exact zU (by assumption) rfl|exact zU (by assumption) (zU (by assumption) rfl)|exact wG rfl (zU (by assumption) rfl)|exact wF (zU (by assumption) rfl)|exact wF (wG rfl (zU (by assumption) rfl))|exact wF (wG rfl (zU (by assumption) (zU (by assumption) rfl)))) (by rfl) (by rfl) (by rfl))(hg:o.guard=iA:=by rfl)(hp:pn.ok o.dst=iB:=by rfl):RW P Γ pn ops (o::os) E Q:=oP h k hg hp
theorem yAD(k:RW P Γ pn ops os (E.app wr chg) Q)(h:Ok P Γ o E (E.app wr chg):=by first|exact zRW (by first|exact zB0 rfl rfl|exact zBY rfl rfl (by first|rfl|exact zU (by assumption) rfl|exact zU (by assumption) (zU (by assumption) rfl)|exact wG rfl (zU (by assumption) rfl)|exact wF (zU (by assumption) rfl)|exact wF (wG rfl (zU (by assumption) rfl))|exact wF (wG rfl (zU (by assumption) (zU (by assumption) rfl)))) rfl) rfl rfl rfl rfl rfl|exact zRW (by first|exact zB0 rfl rfl|exact zBY rfl rfl (by first|rfl|exact zU (by assumption) rfl|exact zU (by assumption) (zU (by assumption) rfl)|exact wG rfl (zU (by assumption) rfl)|exact wF (zU (by assumption) rfl)|exact wF (wG rfl (zU (by assumption) rfl))|exact wF (wG rfl (zU (by assumption) (zU (by assumption) rfl)))) rfl) rfl (by first|rfl|exact zU (by assumption) rfl|exact zU (by assumption) (zU (by assumption) rfl)|exact wG rfl (zU (by assumption) rfl)|exact wF (zU (by assumption) rfl)|exact wF (wG rfl (zU (by assumption) rfl))|exact wF (wG rfl (zU (by assumption) (zU (by assumption) rfl)))) (by rfl) (by rfl) (by rfl))(hg:o.guard=iA:=by rfl)(hp:pn.ok o.dst=iB:=by rfl):RW P Γ pn ops (o::os) E Q:=oP h k hg hp
theorem zXO(k:RW P Γ pn ops os (E.app wr chg) Q)(h:Ok P Γ o E (E.app wr chg):=by exact zXB (by assumption) rfl rfl rfl)(hg:o.guard=iA:=by rfl)(hp:pn.ok o.dst=iB:=by rfl):RW P Γ pn ops (o::os) E Q:=oP h k hg hp
theorem yAE(k:RW P Γ pn ops os (E.app wr chg) Q)(h:Ok P Γ o E (E.app wr chg):=by exact zCa rfl rfl)(hg:o.guard=iA:=by rfl)(hp:pn.ok o.dst=iB:=by rfl):RW P Γ pn ops (o::os) E Q:=oP h k hg hp
theorem yAF{g s:Nat}{b:Bool}(k:RW P Γ pn ops os (E.app wr chg) Q)(hg:o.guard=iz (g,b):=by rfl)(gP:(ops[g]?).bind (·.dst)=iz s:=by rfl)(hb:E s=iz (.lit (.bool b)):=by rfl)(h:Ok P Γ o E (E.app wr chg):=by exact zCa rfl rfl)(hp:pn.ok o.dst=iB:=by rfl):RW P Γ pn ops (o::os) E Q:=RW.cons (yS.guard g b s h hg gP hb) k hp
theorem yAG(k:RW P Γ pn ops os (E.app wr chg) Q)(h:Ok P Γ o E (E.app wr chg):=by exact zRG rfl rfl rfl)(hg:o.guard=iA:=by rfl)(hp:pn.ok o.dst=iB:=by rfl):RW P Γ pn ops (o::os) E Q:=oP h k hg hp
theorem yAH(k:RW P Γ pn ops os (E.app wr chg) Q)(h:Ok P Γ o E (E.app wr chg):=by exact zXC rfl rfl rfl)(hg:o.guard=iA:=by rfl)(hp:pn.ok o.dst=iB:=by rfl):RW P Γ pn ops (o::os) E Q:=oP h k hg hp
theorem zXP(k:RW P Γ pn ops os (E.app wr chg) Q)(h:Ok P Γ o E (E.app wr chg):=by exact zRI inferInstance rfl rfl rfl rfl)(hg:o.guard=iA:=by rfl)(hp:pn.ok o.dst=iB:=by rfl):RW P Γ pn ops (o::os) E Q:=oP h k hg hp
theorem zRX(k:RW P Γ pn ops os (E.app wr chg) Q)(h:Ok P Γ o E (E.app wr chg):=by first|exact zBk rfl (zEP rfl) rfl|exact zBk rfl (isPtr_addr rfl) rfl|exact zBk rfl (zD9 (by first|exact zB0 rfl rfl|exact zBY rfl rfl (by first|rfl|exact zU (by assumption) rfl|exact zU (by assumption) (zU (by assumption) rfl)|exact wG rfl (zU (by assumption) rfl)|exact wF (zU (by assumption) rfl)|exact wF (wG rfl (zU (by assumption) rfl))|exact wF (wG rfl (zU (by assumption) (zU (by assumption) rfl)))) rfl)) rfl)(hg:o.guard=iA:=by rfl)(hp:pn.ok o.dst=iB:=by rfl):RW P Γ pn ops (o::os) E Q:=oP h k hg hp
theorem yCq(k:RW P Γ pn ops os (E.app wr chg) Q)(h:Ok P Γ o E (E.app wr chg):=by exact yAA (by first|exact zB0 rfl rfl|exact zBY rfl rfl (by first|rfl|exact zU (by assumption) rfl|exact zU (by assumption) (zU (by assumption) rfl)|exact wG rfl (zU (by assumption) rfl)|exact wF (zU (by assumption) rfl)|exact wF (wG rfl (zU (by assumption) rfl))|exact wF (wG rfl (zU (by assumption) (zU (by assumption) rfl)))) rfl) rfl (by assumption) rfl)(hg:o.guard=iA:=by rfl)(hp:pn.ok o.dst=iB:=by rfl):RW P Γ pn ops (o::os) E Q:=oP h k hg hp
theorem yAI(k:RW P Γ pn ops os (E.app wr chg) Q)(h:Ok P Γ o E (E.app wr chg):=by exact zXM (by first|exact zB0 rfl rfl|exact zBY rfl rfl (by first|rfl|exact zU (by assumption) rfl|exact zU (by assumption) (zU (by assumption) rfl)|exact wG rfl (zU (by assumption) rfl)|exact wF (zU (by assumption) rfl)|exact wF (wG rfl (zU (by assumption) rfl))|exact wF (wG rfl (zU (by assumption) (zU (by assumption) rfl)))) rfl) rfl)(hg:o.guard=iA:=by rfl)(hp:pn.ok o.dst=iB:=by rfl):RW P Γ pn ops (o::os) E Q:=oP h k hg hp
theorem zV3(k:RW P Γ pn ops os (E.app wr chg) Q)(h:Ok P Γ o E (E.app wr chg):=by exact zOK inferInstance rfl)(hg:o.guard=iA:=by rfl)(hp:pn.ok o.dst=iB:=by rfl):RW P Γ pn ops (o::os) E Q:=oP h k hg hp
theorem zXQ(k:RW P Γ pn ops os (E.app wr chg) Q)(h:Ok P Γ o E (E.app wr chg):=by exact zXE rfl rfl rfl)(hg:o.guard=iA:=by rfl)(hp:pn.ok o.dst=iB:=by rfl):RW P Γ pn ops (o::os) E Q:=oP h k hg hp
theorem yAJ(k:RW P Γ pn ops os (E.app wr chg) Q)(h:Ok P Γ o E (E.app wr chg):=by exact zXF rfl (zDB rfl) rfl)(hg:o.guard=iA:=by rfl)(hp:pn.ok o.dst=iB:=by rfl):RW P Γ pn ops (o::os) E Q:=oP h k hg hp
theorem yAK(k:RW P Γ pn ops os (E.app wr chg) Q)(h:Ok P Γ o E (E.app wr chg):=by exact zXL rfl rfl)(hg:o.guard=iA:=by rfl)(hp:pn.ok o.dst=iB:=by rfl):RW P Γ pn ops (o::os) E Q:=oP h k hg hp
theorem qC(rd:List (Nat×T))(k:DK P Γ pn ops id hs E0 Q os (E.app wr chg) (⟨rd,[(wr,chg)]⟩::acc))(gM:E.Has rd:=by repeat (first|exact trivial|refine⟨rfl,?_⟩))(h:∀E':Env,E'.Has rd→Ok P Γ o E' (E'.app wr chg):=by intro E' h;exact zMW (hO h rfl) rfl)(hg:o.guard=iA:=by rfl):DK P Γ pn ops id hs E0 Q (o::os) E acc:=dG rd [(wr,chg)] gM (fun E' h'=>yS.op (h E' h') hg) k
theorem zNe{g s:Nat}{b:Bool}(rd:List (Nat×T))(k:DK P Γ pn ops id hs E0 Q os (E.app wr chg) (⟨rd,[(wr,chg)]⟩::acc))(gM:E.Has rd:=by repeat (first|exact trivial|refine⟨rfl,?_⟩))(hg:o.guard=iz (g,b):=by rfl)(gP:(ops[g]?).bind (·.dst)=iz s:=by rfl)(hb:wZ rd s=iz (.lit (.bool b)):=by rfl)(h:∀E':Env,E'.Has rd→Ok P Γ o E' (E'.app wr chg):=by intro E' h;exact zMW (hO h rfl) rfl):DK P Γ pn ops id hs E0 Q (o::os) E acc:=dG rd [(wr,chg)] gM (fun E' h'=>yS.guard g b s (h E' h') hg gP (hE h' hb)) k
theorem yAL(rd:List (Nat×T))(k:DK P Γ pn ops id hs E0 Q os (E.app wr chg) (⟨rd,[(wr,chg)]⟩::acc))(gM:E.Has rd:=by repeat (first|exact trivial|refine⟨rfl,?_⟩))(h:∀E':Env,E'.Has rd→Ok P Γ o E' (E'.app wr chg):=by intro E' h;exact zVp (hO h rfl) rfl)(hg:o.guard=iA:=by rfl):DK P Γ pn ops id hs E0 Q (o::os) E acc:=dG rd [(wr,chg)] gM (fun E' h'=>yS.op (h E' h') hg) k
theorem zOW(rd:List (Nat×T))(k:DK P Γ pn ops id hs E0 Q os (E.app wr chg) (⟨rd,[(wr,chg)]⟩::acc))(gM:E.Has rd:=by repeat (first|exact trivial|refine⟨rfl,?_⟩))(h:∀E':Env,E'.Has rd→Ok P Γ o E' (E'.app wr chg):=by intro E' h;exact zOU (hO h rfl) rfl rfl rfl)(hg:o.guard=iA:=by rfl):DK P Γ pn ops id hs E0 Q (o::os) E acc:=dG rd [(wr,chg)] gM (fun E' h'=>yS.op (h E' h') hg) k
theorem zH8{g s:Nat}{b:Bool}(rd:List (Nat×T))(k:DK P Γ pn ops id hs E0 Q os (E.app wr chg) (⟨rd,[(wr,chg)]⟩::acc))(gM:E.Has rd:=by repeat (first|exact trivial|refine⟨rfl,?_⟩))(hg:o.guard=iz (g,b):=by rfl)(gP:(ops[g]?).bind (·.dst)=iz s:=by rfl)(hb:wZ rd s=iz (.lit (.bool b)):=by rfl)(h:∀E':Env,E'.Has rd→Ok P Γ o E' (E'.app wr chg):=by intro E' h;exact zOU (hO h rfl) rfl rfl rfl):DK P Γ pn ops id hs E0 Q (o::os) E acc:=dG rd [(wr,chg)] gM (fun E' h'=>yS.guard g b s (h E' h') hg gP (hE h' hb)) k
theorem zYJ(rd:List (Nat×T))(k:DK P Γ pn ops id hs E0 Q os (E.app wr chg) (⟨rd,[(wr,chg)]⟩::acc))(gM:E.Has rd:=by repeat (first|exact trivial|refine⟨rfl,?_⟩))(h:∀E':Env,E'.Has rd→Ok P Γ o E' (E'.app wr chg):=by intro E' h;exact zNd (by first|exact zB0 (hE h rfl) rfl|exact zBY (hE h rfl) (hE h rfl) (by first|rfl|exact zU (by assumption) rfl|exact zU (by assumption) (zU (by assumption) rfl)|exact wG rfl (zU (by assumption) rfl)|exact wF (zU (by assumption) rfl)|exact wF (wG rfl (zU (by assumption) rfl))|exact wF (wG rfl (zU (by assumption) (zU (by assumption) rfl)))) rfl) rfl)(hg:o.guard=iA:=by rfl):DK P Γ pn ops id hs E0 Q (o::os) E acc:=dG rd [(wr,chg)] gM (fun E' h'=>yS.op (h E' h') hg) k
theorem zRY{g s:Nat}{b:Bool}(rd:List (Nat×T))(k:DK P Γ pn ops id hs E0 Q os (E.app wr chg) (⟨rd,[(wr,chg)]⟩::acc))(gM:E.Has rd:=by repeat (first|exact trivial|refine⟨rfl,?_⟩))(hg:o.guard=iz (g,b):=by rfl)(gP:(ops[g]?).bind (·.dst)=iz s:=by rfl)(hb:wZ rd s=iz (.lit (.bool b)):=by rfl)(h:∀E':Env,E'.Has rd→Ok P Γ o E' (E'.app wr chg):=by intro E' h;exact zNd (by first|exact zB0 (hE h rfl) rfl|exact zBY (hE h rfl) (hE h rfl) (by first|rfl|exact zU (by assumption) rfl|exact zU (by assumption) (zU (by assumption) rfl)|exact wG rfl (zU (by assumption) rfl)|exact wF (zU (by assumption) rfl)|exact wF (wG rfl (zU (by assumption) rfl))|exact wF (wG rfl (zU (by assumption) (zU (by assumption) rfl)))) rfl) rfl):DK P Γ pn ops id hs E0 Q (o::os) E acc:=dG rd [(wr,chg)] gM (fun E' h'=>yS.guard g b s (h E' h') hg gP (hE h' hb)) k
theorem yAM(rd:List (Nat×T))(k:DK P Γ pn ops id hs E0 Q os (E.app wr chg) (⟨rd,[(wr,chg)]⟩::acc))(gM:E.Has rd:=by repeat (first|exact trivial|refine⟨rfl,?_⟩))(h:∀E':Env,E'.Has rd→Ok P Γ o E' (E'.app wr chg):=by intro E' h;exact zRE (by assumption) (hO h rfl) (hO h rfl) rfl)(hg:o.guard=iA:=by rfl):DK P Γ pn ops id hs E0 Q (o::os) E acc:=dG rd [(wr,chg)] gM (fun E' h'=>yS.op (h E' h') hg) k
theorem zAE(rd:List (Nat×T))(k:DK P Γ pn ops id hs E0 Q os (E.app wr chg) (⟨rd,[(wr,chg)]⟩::acc))(gM:E.Has rd:=by repeat (first|exact trivial|refine⟨rfl,?_⟩))(h:∀E':Env,E'.Has rd→Ok P Γ o E' (E'.app wr chg):=by intro E' h;exact zMX (hO h rfl) (hO h rfl) rfl)(hg:o.guard=iA:=by rfl):DK P Γ pn ops id hs E0 Q (o::os) E acc:=dG rd [(wr,chg)] gM (fun E' h'=>yS.op (h E' h') hg) k
theorem zRZ(rd:List (Nat×T))(k:DK P Γ pn ops id hs E0 Q os (E.app wr chg) (⟨rd,[(wr,chg)]⟩::acc))(gM:E.Has rd:=by repeat (first|exact trivial|refine⟨rfl,?_⟩))(h:∀E':Env,E'.Has rd→Ok P Γ o E' (E'.app wr chg):=by intro E' h;exact zY3 inferInstance (by first|exact zB0 (hE h rfl) rfl|exact zBY (hE h rfl) (hE h rfl) (by first|rfl|exact zU (by assumption) rfl|exact zU (by assumption) (zU (by assumption) rfl)|exact wG rfl (zU (by assumption) rfl)|exact wF (zU (by assumption) rfl)|exact wF (wG rfl (zU (by assumption) rfl))|exact wF (wG rfl (zU (by assumption) (zU (by assumption) rfl)))) rfl) rfl rfl rfl)(hg:o.guard=iA:=by rfl):DK P Γ pn ops id hs E0 Q (o::os) E acc:=dG rd [(wr,chg)] gM (fun E' h'=>yS.op (h E' h') hg) k
theorem zLw(rd:List (Nat×T))(k:DK P Γ pn ops id hs E0 Q os (E.app wr chg) (⟨rd,[(wr,chg)]⟩::acc))(gM:E.Has rd:=by repeat (first|exact trivial|refine⟨rfl,?_⟩))(h:∀E':Env,E'.Has rd→Ok P Γ o E' (E'.app wr chg):=by intro E' h;first|exact zRV (hO h rfl) (hE h rfl) rfl rfl rfl rfl|exact zRV (hO h rfl) (hE h rfl) (by first|rfl|exact zU (by assumption) rfl|exact zU (by assumption) (zU (by assumption) rfl)|exact wG rfl (zU (by assumption) rfl)|exact wF (zU (by assumption) rfl)|exact wF (wG rfl (zU (by assumption) rfl))|exact wF (wG rfl (zU (by assumption) (zU (by assumption) rfl)))) (by rfl) (by rfl) (by rfl))(hg:o.guard=iA:=by rfl):DK P Γ pn ops id hs E0 Q (o::os) E acc:=dG rd [(wr,chg)] gM (fun E' h'=>yS.op (h E' h') hg) k
theorem yAN(rd:List (Nat×T))(k:DK P Γ pn ops id hs E0 Q os (E.app wr chg) (⟨rd,[(wr,chg)]⟩::acc))(gM:E.Has rd:=by repeat (first|exact trivial|refine⟨rfl,?_⟩))(h:∀E':Env,E'.Has rd→Ok P Γ o E' (E'.app wr chg):=by intro E' h;exact zCa (hO h rfl) rfl)(hg:o.guard=iA:=by rfl):DK P Γ pn ops id hs E0 Q (o::os) E acc:=dG rd [(wr,chg)] gM (fun E' h'=>yS.op (h E' h') hg) k
theorem yAO{g s:Nat}{b:Bool}(rd:List (Nat×T))(k:DK P Γ pn ops id hs E0 Q os (E.app wr chg) (⟨rd,[(wr,chg)]⟩::acc))(gM:E.Has rd:=by repeat (first|exact trivial|refine⟨rfl,?_⟩))(hg:o.guard=iz (g,b):=by rfl)(gP:(ops[g]?).bind (·.dst)=iz s:=by rfl)(hb:wZ rd s=iz (.lit (.bool b)):=by rfl)(h:∀E':Env,E'.Has rd→Ok P Γ o E' (E'.app wr chg):=by intro E' h;exact zRG (hO h rfl) (hO h rfl) rfl):DK P Γ pn ops id hs E0 Q (o::os) E acc:=dG rd [(wr,chg)] gM (fun E' h'=>yS.guard g b s (h E' h') hg gP (hE h' hb)) k
theorem zH9{g s:Nat}{b:Bool}(rd:List (Nat×T))(k:DK P Γ pn ops id hs E0 Q os (E.app wr chg) (⟨rd,[(wr,chg)]⟩::acc))(gM:E.Has rd:=by repeat (first|exact trivial|refine⟨rfl,?_⟩))(hg:o.guard=iz (g,b):=by rfl)(gP:(ops[g]?).bind (·.dst)=iz s:=by rfl)(hb:wZ rd s=iz (.lit (.bool b)):=by rfl)(h:∀E':Env,E'.Has rd→Ok P Γ o E' (E'.app wr chg):=by intro E' h;exact zRI inferInstance (hO h rfl) rfl rfl rfl):DK P Γ pn ops id hs E0 Q (o::os) E acc:=dG rd [(wr,chg)] gM (fun E' h'=>yS.guard g b s (h E' h') hg gP (hE h' hb)) k
theorem zKm(rd:List (Nat×T))(k:DK P Γ pn ops id hs E0 Q os (E.app wr chg) (⟨rd,[(wr,chg)]⟩::acc))(gM:E.Has rd:=by repeat (first|exact trivial|refine⟨rfl,?_⟩))(h:∀E':Env,E'.Has rd→Ok P Γ o E' (E'.app wr chg):=by intro E' h;first|exact zBk (hO h rfl) (zEP (hO h rfl)) rfl|exact zBk (hO h rfl) (isPtr_addr (hO h rfl)) rfl|exact zBk (hO h rfl) (zD9 (by first|exact zB0 (hE h rfl) rfl|exact zBY (hE h rfl) (hE h rfl) (by first|rfl|exact zU (by assumption) rfl|exact zU (by assumption) (zU (by assumption) rfl)|exact wG rfl (zU (by assumption) rfl)|exact wF (zU (by assumption) rfl)|exact wF (wG rfl (zU (by assumption) rfl))|exact wF (wG rfl (zU (by assumption) (zU (by assumption) rfl)))) rfl)) rfl)(hg:o.guard=iA:=by rfl):DK P Γ pn ops id hs E0 Q (o::os) E acc:=dG rd [(wr,chg)] gM (fun E' h'=>yS.op (h E' h') hg) k
theorem zEu{g s:Nat}{b:Bool}(rd:List (Nat×T))(k:DK P Γ pn ops id hs E0 Q os (E.app wr chg) (⟨rd,[(wr,chg)]⟩::acc))(gM:E.Has rd:=by repeat (first|exact trivial|refine⟨rfl,?_⟩))(hg:o.guard=iz (g,b):=by rfl)(gP:(ops[g]?).bind (·.dst)=iz s:=by rfl)(hb:wZ rd s=iz (.lit (.bool b)):=by rfl)(h:∀E':Env,E'.Has rd→Ok P Γ o E' (E'.app wr chg):=by intro E' h;first|exact zBk (hO h rfl) (zEP (hO h rfl)) rfl|exact zBk (hO h rfl) (isPtr_addr (hO h rfl)) rfl|exact zBk (hO h rfl) (zD9 (by first|exact zB0 (hE h rfl) rfl|exact zBY (hE h rfl) (hE h rfl) (by first|rfl|exact zU (by assumption) rfl|exact zU (by assumption) (zU (by assumption) rfl)|exact wG rfl (zU (by assumption) rfl)|exact wF (zU (by assumption) rfl)|exact wF (wG rfl (zU (by assumption) rfl))|exact wF (wG rfl (zU (by assumption) (zU (by assumption) rfl)))) rfl)) rfl):DK P Γ pn ops id hs E0 Q (o::os) E acc:=dG rd [(wr,chg)] gM (fun E' h'=>yS.guard g b s (h E' h') hg gP (hE h' hb)) k
theorem yCr(rd:List (Nat×T))(k:DK P Γ pn ops id hs E0 Q os (E.app wr chg) (⟨rd,[(wr,chg)]⟩::acc))(gM:E.Has rd:=by repeat (first|exact trivial|refine⟨rfl,?_⟩))(h:∀E':Env,E'.Has rd→Ok P Γ o E' (E'.app wr chg):=by intro E' h;exact yAA (by first|exact zB0 (hE h rfl) rfl|exact zBY (hE h rfl) (hE h rfl) (by first|rfl|exact zU (by assumption) rfl|exact zU (by assumption) (zU (by assumption) rfl)|exact wG rfl (zU (by assumption) rfl)|exact wF (zU (by assumption) rfl)|exact wF (wG rfl (zU (by assumption) rfl))|exact wF (wG rfl (zU (by assumption) (zU (by assumption) rfl)))) rfl) (hO h rfl) (by assumption) rfl)(hg:o.guard=iA:=by rfl):DK P Γ pn ops id hs E0 Q (o::os) E acc:=dG rd [(wr,chg)] gM (fun E' h'=>yS.op (h E' h') hg) k
theorem yAP(rd:List (Nat×T))(k:DK P Γ pn ops id hs E0 Q os (E.app wr chg) (⟨rd,[(wr,chg)]⟩::acc))(gM:E.Has rd:=by repeat (first|exact trivial|refine⟨rfl,?_⟩))(h:∀E':Env,E'.Has rd→Ok P Γ o E' (E'.app wr chg):=by intro E' h;exact zXM (by first|exact zB0 (hE h rfl) rfl|exact zBY (hE h rfl) (hE h rfl) (by first|rfl|exact zU (by assumption) rfl|exact zU (by assumption) (zU (by assumption) rfl)|exact wG rfl (zU (by assumption) rfl)|exact wF (zU (by assumption) rfl)|exact wF (wG rfl (zU (by assumption) rfl))|exact wF (wG rfl (zU (by assumption) (zU (by assumption) rfl)))) rfl) rfl)(hg:o.guard=iA:=by rfl):DK P Γ pn ops id hs E0 Q (o::os) E acc:=dG rd [(wr,chg)] gM (fun E' h'=>yS.op (h E' h') hg) k
theorem zXR(rd:List (Nat×T))(k:DK P Γ pn ops id hs E0 Q os (E.app wr chg) (⟨rd,[(wr,chg)]⟩::acc))(gM:E.Has rd:=by repeat (first|exact trivial|refine⟨rfl,?_⟩))(h:∀E':Env,E'.Has rd→Ok P Γ o E' (E'.app wr chg):=by intro E' h;exact zXD (by assumption) (hO h rfl) rfl)(hg:o.guard=iA:=by rfl):DK P Γ pn ops id hs E0 Q (o::os) E acc:=dG rd [(wr,chg)] gM (fun E' h'=>yS.op (h E' h') hg) k
theorem cA{f:FuncId}{xs:List Operand}{ats:Array TypeId}{us res:List T}(gv:zBl P f)(hc:FnC P f us res [])(k:RW P Γ pn ops os (E.app (cWr d res []) (vK d [])) Q)(gk:xS E [] 0 xs us:=by repeat (first|exact trivial|refine⟨agC _ rfl (by first|rfl|exact zPY inferInstance|exact zMY rfl (by first|rfl|exact zU (by assumption) rfl|exact zU (by assumption) (zU (by assumption) rfl)|exact wG rfl (zU (by assumption) rfl)|exact wF (zU (by assumption) rfl)|exact wF (wG rfl (zU (by assumption) rfl))|exact wF (wG rfl (zU (by assumption) (zU (by assumption) rfl)))) inferInstance|exact cloSR rfl (by first|rfl|exact zU (by assumption) rfl|exact zU (by assumption) (zU (by assumption) rfl)|exact wG rfl (zU (by assumption) rfl)|exact wF (zU (by assumption) rfl)|exact wF (wG rfl (zU (by assumption) rfl))|exact wF (wG rfl (zU (by assumption) (zU (by assumption) rfl))))) rfl,?_⟩))(gA:zCD res:=by repeat (first|exact zEr|refine zFE inferInstance ?_))(sd:J4 d Γ.N=iB:=by rfl)(hg:gd=iA:=by rfl)(hp:pn.ok (iz d)=iB:=by rfl):
  RW P Γ pn ops (⟨iz d,.call { callee:=.value (.func f),args:=xs.toArray,argTypes:=ats },ty,ps,af,gd⟩::os) E Q:=oP (zAD gv hc gk gA sd) k hg hp
theorem dC{f:FuncId}{xs:List Operand}{ats:Array TypeId}{us res:List T}(rd:List (Nat×T))(gv:zBl P f)(hc:FnC P f us res [])(k:DK P Γ pn ops id hs E0 Q os (E.app (cWr d res []) (vK d [])) (⟨rd,[(cWr d res [],vK d [])]⟩::acc))(gM:E.Has rd:=by repeat (first|exact trivial|refine⟨rfl,?_⟩))(gk:∀E':Env,E'.Has rd→xS E' [] 0 xs us:=by intro E' h;repeat (first|exact trivial|refine⟨agC _ (hO h rfl) (by first|rfl|exact zPY inferInstance|exact zMY (hE h rfl) (by first|rfl|exact zU (by assumption) rfl|exact zU (by assumption) (zU (by assumption) rfl)|exact wG rfl (zU (by assumption) rfl)|exact wF (zU (by assumption) rfl)|exact wF (wG rfl (zU (by assumption) rfl))|exact wF (wG rfl (zU (by assumption) (zU (by assumption) rfl)))) inferInstance|exact cloSR (hE h rfl) (by first|rfl|exact zU (by assumption) rfl|exact zU (by assumption) (zU (by assumption) rfl)|exact wG rfl (zU (by assumption) rfl)|exact wF (zU (by assumption) rfl)|exact wF (wG rfl (zU (by assumption) rfl))|exact wF (wG rfl (zU (by assumption) (zU (by assumption) rfl))))) rfl,?_⟩))(gA:zCD res:=by repeat (first|exact zEr|refine zFE inferInstance ?_))(sd:J4 d Γ.N=iB:=by rfl)(hg:gd=iA:=by rfl):
  DK P Γ pn ops id hs E0 Q (⟨iz d,.call { callee:=.value (.func f),args:=xs.toArray,argTypes:=ats },ty,ps,af,gd⟩::os) E acc:=
 dG rd [(cWr d res [],vK d [])] gM (fun E' h'=>yS.op (zAD gv hc (gk E' h') gA sd) hg) k
theorem sk2{g s:Nat}{b b':Bool}(k:RW P Γ pn ops os (E.app [(d,iz (.tup []))] [(d,0)]) Q)(hd:o.dst=iz d:=by rfl)(hg:o.guard=iz (g,b):=by rfl)(gP:(ops[g]?).bind (·.dst)=iz s:=by rfl)(hb:E s=iz (.lit (.bool b')):=by rfl)(fy:(b==b')=iC:=by rfl)(sd:J4 d Γ.N=iB:=by rfl)(hp:pn.ok o.dst=iB:=by rfl):
  RW P Γ pn ops (o::os) E Q:=RW.cons (yS.skip2 g b b' s hd sd fy hg gP hb) k hp
theorem sk3{g s:Nat}{b:Bool}(k:RW P Γ pn ops os (E.app [(d,iz (.tup []))] [(d,0)]) Q)(hd:o.dst=iz d:=by rfl)(hg:o.guard=iz (g,b):=by rfl)(gP:(ops[g]?).bind (·.dst)=iz s:=by rfl)(hb:E s=iz (.tup []):=by rfl)(sd:J4 d Γ.N=iB:=by rfl)(hp:pn.ok o.dst=iB:=by rfl):
  RW P Γ pn ops (o::os) E Q:=RW.cons (yS.skip3 g b s hd sd hg gP hb) k hp
theorem vM{g s:Nat}{b b':Bool}(k:DK P Γ pn ops id hs E0 Q os (E.app [(d,iz (.tup []))] [(d,0)]) (⟨[(s,.lit (.bool b'))],[([(d,iz (.tup []))],[(d,0)])]⟩::acc))(hd:o.dst=iz d:=by rfl)(hg:o.guard=iz (g,b):=by rfl)(gP:(ops[g]?).bind (·.dst)=iz s:=by rfl)(hb:E s=iz (.lit (.bool b')):=by rfl)(fy:(b==b')=iC:=by rfl)(sd:J4 d Γ.N=iB:=by rfl):
  DK P Γ pn ops id hs E0 Q (o::os) E acc:=dG [(s,.lit (.bool b'))] [([(d,iz (.tup []))],[(d,0)])] ⟨hb,trivial⟩ (fun _E' h=>yS.skip2 g b b' s hd sd fy hg gP h.1) k
theorem yCs{g s:Nat}{b:Bool}(k:DK P Γ pn ops id hs E0 Q os (E.app [(d,iz (.tup []))] [(d,0)]) (⟨[(s,.tup [])],[([(d,iz (.tup []))],[(d,0)])]⟩::acc))(hd:o.dst=iz d:=by rfl)(hg:o.guard=iz (g,b):=by rfl)(gP:(ops[g]?).bind (·.dst)=iz s:=by rfl)(hb:E s=iz (.tup []):=by rfl)(sd:J4 d Γ.N=iB:=by rfl):
  DK P Γ pn ops id hs E0 Q (o::os) E acc:=dG [(s,.tup [])] [([(d,iz (.tup []))],[(d,0)])] ⟨hb,trivial⟩ (fun _E' h=>yS.skip3 g b s hd sd hg gP h.1) k
theorem dNA(hm:P.follows .mixedOrders=iB)(hQ:Q .normal E)(hf:zB5 0 ops.toList=iB:=by rfl)(ha:zAU (zYF ops.toList) (zYF ops.toList) ops.toList=iB:=by rfl)(hp:kW acc.reverse 0 (zYF ops.toList) acc.reverse=iB:=by rfl)
  (bZ:ops.toList.all (fun o=>pn.ok o.dst)=iB:=by rfl)(bo:zRT hs E0=iB:=by rfl)(hw:acc.reverse.all (wrS hs)=iB:=by rfl):DK P Γ pn ops id hs E0 Q [] E acc:=dN _ hm hQ hf ha hp bZ bo hw
theorem cn{c1 c2:Code}{α:Type}{b:Bool}{u v z:α}(h:cond b u v=z)(ht:b=iB→u=z→CW P Γ pn c1 E Q)(hf:b=iC→v=z→CW P Γ pn c2 E Q)(hb:opT E x=iz (.lit (.bool b)):=by rfl):CW P Γ pn (.cond x c1 c2) E Q:=
 CW.cond b hb (fun hc=>ht hc (cT hc h)) fun hc=>hf hc (cF hc h)
theorem fB{f:FuncId}{fn:Func}{c:Code}{us res:List T}{rws:List (Nat×T)}(hf:P.funcs[f]? =iz fn)(h:∀(St:Stb)(W:Nat→Prop)(w0:World)(v:Nat→Value),CW P ⟨St,W,w0,fn.ntmps⟩ (zCV v (rws.map (·.1))) c (wZ (zI9 0 us)) (xK ⟨St,W,w0,fn.ntmps⟩ P fn.results us res rws))(hb:fn.body=iz c:=by rfl)(hn:us.length≤fn.ntmps:=by exact Nat.le_of_ble_eq_true rfl)
  (ht:uI us:=by repeat (first|exact trivial|refine⟨by first|exact Top.of_clean _ (Enc.clean _)|simp[Top,uI],?_⟩))(hr:rws.all (fun x=>decide (x.1<us.length))=iB:=by rfl):FnC P f us res rws:=
 FnC.of_bodyG hf hb hn ht hr (by rintro⟨St,W,w0,N⟩ v hN;subst hN;exact h St W w0 v)
def zDa:List ResultVar→Option (List Nat)
 | []=>iz []
 |.tmp s::l=>(zDa l).map (s::·)
 |.cell _ _::_=>iA
theorem zJj:∀(rs:List ResultVar)(ss:List Nat)(res:List T),zDa rs=iz ss→ss.map E=res.map iz→res.all T.okTup=iB→ ∃nd:Nds,zG5 P E rs nd∧nd.map (·.2.2)=res∧nd.map (·.1)=ss
 | [],ss,res,h,hE,_=>by
  simp[zDa]at h;subst h;cases res with
  |nil=>exact⟨[],trivial,rfl,rfl⟩
  |cons _ _=>simp at hE
 |.tmp s::rs,ss,res,h,hE,ht=>by
  simp only[zDa,Ke]at h;obtain⟨ss',h,rfl⟩:=h;cases res with
  |nil=>simp at hE
  |cons t res=>
   simp only[Jl,Qt.injEq]at hE;simp only[Gy,J3]at ht;obtain⟨nd,h1,h2,h3⟩:=zJj rs ss' res h hE.2 ht.2;exact⟨(s,[],t)::nd,⟨⟨rfl,rfl,hE.1,ht.1⟩,h1⟩,by simp[h2],by simp[h3]⟩
 |.cell _ _::_,_,_,h,_,_=>by simp[zDa]at h
theorem rT{rs:Array ResultVar}{us res:List T}{rws:List (Nat×T)}{e:Exit}{ss:List Nat}(hs:zDa rs.toList=iz ss:=by rfl)(hE:ss.map E=res.map iz:=by rfl)(ht:res.all T.okTup=iB:=by rfl)(hl:ss.all (fun s=>Ul us.length s)=iB:=by rfl)(hn:zBH ss=iB:=by rfl)
  (hw:LOk E us rws:=by repeat (first|exact trivial|refine⟨⟨rfl,_,rfl⟩,?_⟩))(he:e=.ret∨e=.normal:=by first|exact .inl rfl|exact .inr rfl):xK Γ P rs us res rws e E:=by
 obtain⟨nd,h1,h2,h3⟩:=zJj (P:=P) rs.toList ss res hs hE ht;refine⟨E,zP.refl,he,nd,h1,h2,fun x hx=>?_,by rw[h3];exact zDA hn,hw⟩;have:x.1∈ss:=by rw[←h3];exact Jj.2 ⟨x,hx,rfl⟩
 exact Nat.le_of_ble_eq_true (K4.1 hl _ this)
theorem eN{σ ρ:Type}{en:σ→Env}{Q1:ρ→Exit→Env→Prop}{y:σ}{x:σ⊕ρ}(h:iz (Sum.inl y)=iz x)(q:zP Γ E (en y):=by exact .has (by repeat (first|exact trivial|refine⟨rfl,?_⟩))):yW Γ en Q1 x .normal E:=by obtain rfl:=sI h;exact⟨rfl,q⟩
theorem rTg{rs:Array ResultVar}{us res:List T}{rws:List (Nat×T)}{e:Exit}(hg:zP Γ E E')(h:xK Γ P rs us res rws e E'):xK Γ P rs us res rws e E:=by obtain⟨E2,h1,h2⟩:=h;exact⟨E2,hg.trans h1,h2⟩
theorem eX{σ ρ:Type}{en:σ→Env}{Q1:ρ→Exit→Env→Prop}{y:ρ}{x:σ⊕ρ}{e:Exit}(h:iz (Sum.inr y)=iz x)(q:Q1 y e E:=by first|exact⟨rfl,.has (by repeat (first|exact trivial|refine⟨rfl,?_⟩))⟩|exact⟨rfl,rT⟩)(gf:e≠.normal:=by first|exact neX|exact neR):yW Γ en Q1 x e E:=by obtain rfl:=sI h;exact⟨gf,q⟩
end
end Go.Ab

namespace Go.Ab
open Go
section
variable {Γ:Ctx}{E:Env}
theorem zP.frzG(s:Nat)(t:T){t':T}(hs:E s=iz t)(h:vV t=t'):zP Γ E (E.app [(s,iz t')] [(s,1)]):=h▸zP.freeze s t hs
theorem fzO{α:Type}{k:Nat}{f g:α→T}{xs:List α}(h:uH f g):vV (L k f xs)=.ro (L k g xs):=by simp only[vV,strip,uZ h.h xs]
theorem fzA{xs ys:List T}(h:uN xs=ys):vV (.agg xs)=.agg ys:=by grind[vV]
theorem fzC{x y:T}{xs ys:List T}(h:vV x=y)(h2:uN xs=ys):uN (x::xs)=y::ys:=by grind[uN]
end
end Go.Ab
namespace Go.Ab
open Go
theorem zOX{α:Type}{k:Nat}{f:α→T}{xs:List α}{i j:Int}{a b:α}{X:T}(hi:ixO xs i=iz a)(hj:ixO xs j=iz b)(gf:(i != j)=iB):
  (if[i.toNat]=[]then X else(L k f xs).set [i.toNat].reverse T.any).get [j.toNat].reverse=iz (f b):=by
 have h1:=(uY hi);have h2:=(uY hj);have h3:i≠j:=by grind
 have h4:i.toNat≠j.toNat:=by omega
 simp only[List.cons_ne_nil,if_false,Hb,Ha,Ju]
 grind[T.set,T.get]
theorem zSa{E:Env}{rs:List Nat}{s r:Nat}{q:List Nat}{tr u:T}(hr:E r=iz tr)(hg:tr.get q.reverse=iz u)(h4:zAV u=iB)(hn:rs.contains r=iC):zIW E rs (.tmp s) (.same r q)=iB:=by simp only[zIW,sX,zFD hr hg h4,hn,Kc]
end Go.Ab
