/- x -/
import Derived.Test.YtcjmcjcfehbboaaGreatQAbA
import Derived.Laws.CopyRow
import Derived.ProofKit
open List renaming replicate→J1,getElem?_eq_getElem→J4,length_append→J8,getElem?_eq_some_iff→Ja,getElem?_append_right→Je,mem_map→Jh,append_assoc→Ji,length_map→Jj,append_nil→Jk,map_cons→Jm,eq_nil_of_length_eq_zero→Jn,getElem?_map→Jp,all_eq_true→Jr,mem_cons→Js,range→Ju,length_cons→Jx,nil_append→Jy,mem_append→K4,getElem?_append_left→K9,getElem?_append→Kb,reverse_reverse→Ki,nodup_cons→Kj,replicate_succ→Ks,mem_of_getElem?→Kx,getElem?_drop→Ky,take_succ_cons→L4,map_append→L7,flatMap_cons→La,contains_eq_mem→Lg,length_nil→Li,getElem?_take→Ln,reverse_nil→H7,length_range→H8,range'_succ→Hi,reverse_cons→Hy,cons_append→G5,range'→Ga,length_take→Ge,map_take→U8,getD→Uc,find?_cons_of_neg→Ur,mem_iff_getElem?→Uu,getLast?_append→Q2,dropLast_concat→Q3,all_cons→Q4,map_set→Qk,find?_eq_none→Ql,cons→Qm,map_nil→Ja9,getElem?_set_self→Jaa,mem_iff_getElem→Jah,getElem?_set_ne→Jaj,mem_filter→Jap,getElem?_cons_succ→Jaq,map_map→Jau,map_drop→Jb2,getElem?_set→Jb3
open Bool renaming and_eq_true→J3,not_false→K2,and_self→Ll,false_eq_true→Lx,not_eq_true'→Hz
open Nat renaming blt→J5,le_refl→J7,zero_add→Jc,zero_le→Jw,le_trans→Ko,mul_le_mul_right→Lh,add_assoc→Lu,succ_mul→Ly,beq→Lz,mul_one→Gw,ble→Ut,add_zero→Jan
open Array renaming getElem?_setIfInBounds→J6,getElem?_toList→K6,length_toList→K8,getD_eq_getD_getElem?→Ka,getElem?_eq_some_iff→Kt,replicate→U5
open Option renaming map_eq_some_iff→K7,getD_some→Kr,some→Ls,map_some→Ua,map_eq_none_iff→Uh
open Prod renaming mk→Q6
open Option renaming some→jq,none→jr
open Bool renaming true→js,false→jt
namespace Go.Ab
open Go
abbrev Rw:=List (Nat×Nat×T)
def rwI(rw:Rw)(s:Nat):Option Nat:=(rw.find? fun x=>x.2.1==s).map (·.1)
def rwS(rw:Rw)(i:Nat):Option Nat:=(rw.find? fun x=>x.1==i).map (·.2.1)
theorem zC4:(rw:Rw)→(rw.map (·.2.1)).Nodup→ ∀{i s:Nat}{u:T},(i,s,u)∈rw→rwI rw s=jq i
 | [],_,_,_,_,h=>by simp at h
 |(i0,s0,u0)::rw,hn,i,s,u,h=>by
  simp only[Jm,Kj,Jh]at hn;rcases Js.1 h with h|h
  ·simp at h;obtain⟨rfl,rfl,rfl⟩:=h;simp[rwI]
  ·have gf:s0≠s:=fun e=>hn.1 ⟨_,h,e.symm⟩
   have:=zC4 rw hn.2 h;simp only[rwI]at this ⊢
   rw[Ur (by simpa using gf)];exact this
theorem zKq:(rw:Rw)→(rw.map (·.1)).Nodup→ ∀{i s:Nat}{u:T},(i,s,u)∈rw→rwS rw i=jq s
 | [],_,_,_,_,h=>by simp at h
 |(i0,s0,u0)::rw,hn,i,s,u,h=>by
  simp only[Jm,Kj,Jh]at hn;rcases Js.1 h with h|h
  ·simp at h;obtain⟨rfl,rfl,rfl⟩:=h;simp[rwS]
  ·have gf:i0≠i:=fun e=>hn.1 ⟨_,h,e.symm⟩
   have:=zKq rw hn.2 h;simp only[rwS]at this ⊢
   rw[Ur (by simpa using gf)];exact this
theorem zKr{rw:Rw}{s:Nat}(h:s∉rw.map (·.2.1)):rwI rw s=jr:=by simp only[rwI,Uh,Ql];intro x hx;simp only[beq_iff_eq];exact fun e=>h (Jh.2 ⟨x,hx,e⟩)
theorem zQB{rw:Rw}{i:Nat}(h:∀x∈rw,x.1≠i):rwS rw i=jr:=by simp only[rwS,Uh,Ql];intro x hx;simpa using h x hx
theorem zN7{rw:Rw}{s i:Nat}(h:rwI rw s=jq i):s∈rw.map (·.2.1):=by simp only[rwI,K7]at h;obtain⟨x,hx,_⟩:=h;have h1:=List.mem_of_find?_eq_some hx;have h2:=List.find?_some hx;exact Jh.2 ⟨x,h1,by simpa using h2⟩
abbrev Nd:=List (Nat×List Nat×T)
def zQC(nd:Nd)(k s:Nat):Option (Nat×List Nat):=
 match nd with
 | []=>jr
 |x::r=>if x.1=s then jq (k,x.2.1)else zQC r (k+1) s
def ndB(d:Nat)(nd:Nd)(s:Nat)(z:List Nat):Option (Nat×List Nat):=
 match nd with
 | [x]=>if x.1=s∧x.2.1<:+z then jq (d,z.take (z.length-x.2.1.length))else jr
 |nd=>match zQC nd 0 s with
  |some (k,q)=>if q<:+z then jq (d,z.take (z.length-q.length)++[k])else jr
  |none=>jr
theorem zHP:(nd:Nd)→(nd.map (·.1)).Nodup→ ∀{k k0:Nat}{x:Nat×List Nat×T},nd[k]? =jq x→zQC nd k0 x.1=jq (k0+k,x.2.1)
 | [],_,_,_,_,h=>by simp at h
 |y::nd,hn,k,k0,x,h=>by
  simp only[Jm,Kj,Jh]at hn;cases k with
  |zero=>simp at h;subst h;simp[zQC]
  |succ k=>
   simp only[Jaq]at h;have gf:y.1≠x.1:=fun e=>hn.1 ⟨x,Kx h,e.symm⟩
   simp only[zQC,gf,if_false];rw[zHP nd hn.2 h]
   congr 2;omega
def zQD(G:Gh)(nd:Nd)(z:List Nat):Value:=
 match nd with
 | [x]=>G.hd x.1 (z++x.2.1)
 |nd=>match z.getLast? with
  |some k=>(match nd[k]? with
   |some x=>G.hd x.1 (z.dropLast++x.2.1)
   |none=>.bool jt)
  |none=>.bool jt
def zTK(G:Gh)(nd:Nd)(z:List Nat):Addr:=
 match nd with
 | [x]=>G.ad x.1 (z++x.2.1)
 |nd=>match z.getLast? with
  |some k=>(match nd[k]? with
   |some x=>G.ad x.1 (z.dropLast++x.2.1)
   |none=>default)
  |none=>default
def Gh.arg(G:Gh)(a:Act)(xs:List Operand)(rw:Rw):Gh where
 hd i z:=match xs[i]? with
  |some (.tmp s)=>G.hd s z
  |some x=>kO (a.eval x)
  |none=>.bool jt
 ad i z:=match xs[i]? with
  |some (.tmp s)=>G.ad s z
  |_=>default
 lb b o:=match G.lb b o with
  |some (f,s,z)=>(match rwI rw s,G.ow b with
   |some i,jq (s',_)=>if s'=s then jq (f,i,z)else jr
   |_,_=>jr)
  |none=>jr
 ow b:=match G.ow b with
  |some (s,z)=>(match rwI rw s with
   |some i=>jq (i,z)
   |none=>jr)
  |none=>jr
def zBj(G:Gh)(rw:Rw)(b:Nat):Prop:=∃s z,G.ow b=jq (s,z)∧s∈rw.map (·.2.1)
def zD5(d:Nat)(rw:Rw)(nd:Nd)(s:Nat)(z:List Nat):Option (Nat×List Nat):=
 match rwS rw s with
 |some s'=>jq (s',z)
 |none=>ndB d nd s z
open Classical in
noncomputable def Gh.back (G G':Gh) (n0 d:Nat) (rw:Rw) (nd:Nd):Gh where
 hd s z:=if s=d then zQD G' nd z else match rwI rw s with
  |some i=>G'.hd i z
  |none=>G.hd s z
 ad s z:=if s=d then zTK G' nd z else match rwI rw s with
  |some i=>if z=[]then G.ad s z else G'.ad i z
  |none=>G.ad s z
 lb b o:=if zBj G rw b∨n0≤b then(match G'.lb b o with
  |some (f,s,z)=>(match zD5 d rw nd s z with
   |some (s',z')=>jq (f,s',z')
   |none=>jr)
  |none=>jr)else G.lb b o
 ow b:=if zBj G rw b∨n0≤b then(match G'.ow b with
  |some (s,z)=>zD5 d rw nd s z
  |none=>jr)else G.ow b
def zDL(res:List T):T:=match res with
 | [u]=>u
 |us=>.tup us
def cWr(d:Nat)(res:List T)(rw:Rw):Wr:=(d,jq (zDL res))::rw.map fun x=>(x.2.1,jq x.2.2)
def cLv(t:T):Nat:=if t.single then 1 else 0
def vP(d:Nat)(rw:Rw):Chg:=(d,0)::rw.map fun x=>(x.2.1,cLv x.2.2)
theorem zG4{d:Nat}{rw:Rw}{x:Nat×Nat×T}(h:x∈rw):(x.2.1,cLv x.2.2)∈vP d rw:=List.mem_cons_of_mem _ (Jh.2 ⟨x,h,rfl⟩)
theorem zN8{Gn G':Gh}{d:Nat}:(nd:Nd)→ ∀(j:Nat),(∀k x,nd[k]? =jq x→ ∀z,Gn.hd d (z++[j+k])=G'.hd x.1 (z++x.2.1))→kM Gn d (nd.map (·.2.2)) [] j=nd.map fun x=>sC G' x.1 x.2.2 x.2.1
 | [],_,_=>by simp[kM]
 |x::nd,j,h=>by
  have ih:=zN8 (Gn:=Gn) (G':=G') (d:=d) nd (j+1) (fun k y hy z=>by rw[show j+1+k=j+(k+1)from by omega];exact h (k+1) y (by simpa using hy) z)
  simp only[Jm,kM,ih];rw[zBT x.2.2 x.2.1 [j] (by simpa using h 0 x (by simp))]
theorem zQE{d:Nat}{res:List T}{rw:Rw}{s:Nat}{x:Option T}(h:(cWr d res rw).find s=jq x):(s=d∧x=jq (zDL res))∨(s≠d∧ ∃i u,(i,s,u)∈rw∧x=jq u):=by
 simp only[cWr,Wr.find]at h;split at h
 ·rename_i he;simp at h;exact .inl ⟨he.symm,h.symm⟩
 ·rename_i gf
  refine .inr ⟨fun e=>gf e.symm,?_⟩
  clear gf
  induction rw with
  |nil=>simp[Wr.find]at h
  |cons y rw ih=>
   simp only[Jm,Wr.find]at h;split at h
   ·rename_i he;simp at h;subst he;exact⟨y.1,y.2.2,by simp,h.symm⟩
   ·obtain⟨i,u,h1,h2⟩:=ih h;exact⟨i,u,by simp[h1],h2⟩
theorem zQF{d:Nat}{res:List T}{rw:Rw}{s:Nat}(h:(cWr d res rw).find s=jr):s≠d∧s∉rw.map (·.2.1):=by
 simp only[cWr,Wr.find]at h;split at h
 ·cases h
 ·rename_i gf
  refine⟨fun e=>gf e.symm,?_⟩
  clear gf
  induction rw with
  |nil=>simp
  |cons y rw ih=>
   simp only[Jm,Wr.find]at h;split at h
   ·cases h
   ·rename_i he
    simp only[Jm,Js,not_or];exact⟨fun e=>he e.symm,ih h⟩
def aft(S Sc S':Stb):Stb:=fun b=>match Sc b with
 |none=>S' b
 |some _=>S b
theorem Rep.up{Γ:Ctx}{E:Env}{G:Gh}{tmps tmps':Array Value}{w w':World}{G':Gh}{wr:Wr}{chg:Chg}{S:Stb}(h:Rep Γ E G tmps w)(hS:∀b x,Γ.St b=jq x→S b=jq x)
  (gL:tmps'.size=tmps.size)(hk:sG chg G w G' w')(gz:Mem (Γ.at S) G' w')
  (gp:∀s,wr.find s=jr→(∀n,(s,n)∉chg)∧tmps'[s]? =tmps[s]?)
  (gQ:∀s t,wr.find s=jq (jq t)→Ent (Γ.at S) G' w' tmps'[s]? s t):Rep (Γ.at S) (E.app wr chg) G' tmps' w' where
 size:=by rw[gL];exact h.size
 mem:=gz
 ent s t hs:=by
  unfold Env.app at hs;cases hf:wr.find s with
  |some x=>
   rw[hf]at hs;simp at hs;subst hs;exact gQ s t hf
  |none=>
   rw[hf]at hs;simp at hs;cases he:E s with
   |none=>simp[he]at hs
   |some u=>
    simp[he]at hs;obtain⟨gD,rfl⟩:=hs;rw[(gp s hf).2];obtain⟨e1,e2,e3⟩:=Ent.keep hk (gp s hf).1 gD (h.ent s u he);exact⟨e1,zJe hS u [] e2,e3⟩
section
variable {P:Program}{Γ:Ctx}{E:Env}{d:Nat}
theorem zG5{G:Gh}{a:Act}{w:World}(gc:Rep Γ E G a.tmps w)(hd:d<Γ.N){Sc:Stb}{rw:Rw}(hS1:∀b x,Sc b=jq x→w.heap[b]? =jq x∧ ¬zBj G rw b)(hS0:∀b x,Γ.St b=jq x→Sc b=jq x){f:FuncId}{us res:List T}
  (hc:FnC P f us res (rw.map fun x=>(x.1,x.2.2))){xs:List Operand}(gv:xs.length=us.length)
  (gj:∀(i:Nat) u,us[i]? =jq u→(∃x,xs[i]? =jq x∧a.eval x=mkV (G.arg a xs rw) i u []∧R Sc (G.arg a xs rw) w i u []))
  (hn1:(d::rw.map (·.2.1)).Nodup)(bp:(rw.map (·.1)).Nodup)(eE:∀x∈rw,xs[x.1]? =jq (.tmp x.2.1))
  (gy:∀u∈res,zZ u∧u.okTup=js∧ ∀(S':Stb)(G:Gh)(w:World)(s:Nat)(p:List Nat),(∀b x,Sc b=jq x→S' b=jq x)→R S' G w s u p→R (aft Γ.St Sc S') G w s u p)
  (ap:∀x∈rw,zZ x.2.2∧(∀(S':Stb)(G:Gh)(w:World)(s:Nat)(p:List Nat),(∀b x,Sc b=jq x→S' b=jq x)→R S' G w s x.2.2 p→R (aft Γ.St Sc S') G w s x.2.2 p)∧ ∃u,E x.2.1=jq u∧x.2.2.single=u.single∧us[x.1]? =jq u):
  Calls P f (xs.map a.eval).toArray w fun e w'=> ∃v,e=.returned v∧ ∃S G',zDy Γ.St S Γ.W Γ.w0.heap.size∧sG (vP d rw) G w G' w'∧Rep (Γ.at S) (E.app (cWr d res rw) (vP d rw)) G' (a.tmps.setIfInBounds d v) w':=by
 have hm:=gc.mem;have mw:=Kj.1 hn1;have hmc:Mem ⟨Sc,zBj G rw,w,0⟩ (G.arg a xs rw) w:=by
  have gH:∀b,zBj G rw b→Sc b=jr:=fun b h=>by
   cases hs:Sc b with
   |none=>rfl
   |some x=>exact absurd h (hS1 b x hs).2
  refine⟨fun i z=>?_,fun b o l hl=>?_,fun b l hl=>?_,fun b x hx=>(hS1 b x hx).1,fun b _ _=>rfl,J7 _,⟨fun b cs e h=>⟨cs,h,rfl⟩,rfl,rfl⟩⟩
  ·simp only[Gh.arg]
   split
   ·exact hm.one _ _
   ·exact zB6 _
   ·rfl
  ·simp only[Gh.arg]at hl
   split at hl
   ·rename_i f' s z hg
    split at hl
    ·rename_i i s' y hi ho
     split at hl
     ·rename_i he;subst he
      have hL:zBj G rw b:=⟨s',y,ho,zN7 hi⟩;exact⟨(hm.lb b o _ hg).1,.inr hL,gH b hL⟩
     ·cases hl
    ·cases hl
   ·cases hl
  ·simp only[Gh.arg]at hl
   split at hl
   ·rename_i s z hg
    split at hl
    ·rename_i i hi
     have hL:zBj G rw b:=⟨s,z,hg,zN7 hi⟩;exact⟨(hm.ow b _ hg).1,.inr hL,gH b hL⟩
    ·cases hl
   ·cases hl
 have gr:=hc Sc (zBj G rw) w (G.arg a xs rw) (xs.map a.eval).toArray (by simp[gv]) (fun i u hu=>by obtain⟨x,h1,h2,h3⟩:=gj i u hu;exact⟨by simp[h1,h2],h3⟩) hmc
 refine gr.mono ?_
 rintro e w' ⟨S',G',nd,gS,rfl,gM,fO,pN,pM,ao⟩
 have eH:∀b x,Γ.St b=jq x→aft Γ.St Sc S' b=jq x:=fun b x hx=>by simp only[aft,hS0 b x hx,hx]
 have aQ:zDy Γ.St (aft Γ.St Sc S') Γ.W Γ.w0.heap.size:=⟨eH,fun b hb eh=>by
  simp only[aft]at eh;split at eh
  ·rename_i hs
   rcases gS.nw b hs eh with h|⟨s,z,h,_⟩
   ·exact .inl (by have:=hm.sz;omega)
   ·exact(hm.ow b _ h).2.1
  ·exact absurd hb eh⟩
 refine⟨_,rfl,aft Γ.St Sc S',G.back G' w.heap.size d rw nd,aQ,?_⟩;have pz:∀b,b<w.heap.size→ ¬zBj G rw b→w'.heap[b]? =w.heap[b]?:=gM.fr;have gu:w.heap.size≤w'.heap.size:=gM.sz;have gA:Blk w w':=gM.bk.blk
 generalize hGn:G.back G' w.heap.size d rw nd=Gn
 have ghdd:∀z,Gn.hd d z=zQD G' nd z:=fun z=>by rw[←hGn];simp[Gh.back]
 have gadd:∀z,Gn.ad d z=zTK G' nd z:=fun z=>by rw[←hGn];simp[Gh.back]
 have ghd0:∀s z,s≠d→s∉rw.map (·.2.1)→Gn.hd s z=G.hd s z:=fun s z h1 h2=>by rw[←hGn];simp[Gh.back,h1,zKr h2]
 have gad0:∀s z,s≠d→s∉rw.map (·.2.1)→Gn.ad s z=G.ad s z:=fun s z h1 h2=>by rw[←hGn];simp[Gh.back,h1,zKr h2]
 have ek:∀i s u,(i,s,u)∈rw→s≠d:=fun i s u h e=>mw.1 (e▸Jh.2 ⟨_,h,rfl⟩)
 have ghdr:∀i s u z,(i,s,u)∈rw→Gn.hd s z=G'.hd i z:=fun i s u z h=>by rw[←hGn];simp[Gh.back,ek i s u h,zC4 rw mw.2 h]
 have gadr:∀i s u z,(i,s,u)∈rw→z≠[]→Gn.ad s z=G'.ad i z:=fun i s u z h h0=>by rw[←hGn];simp[Gh.back,ek i s u h,zC4 rw mw.2 h,h0]
 have gadr0:∀i s u,(i,s,u)∈rw→Gn.ad s []=G.ad s []:=fun i s u h=>by rw[←hGn];simp[Gh.back,ek i s u h,zC4 rw mw.2 h]
 have glb0:∀b o l,¬zBj G rw b→G.lb b o=jq l→Gn.lb b o=jq l:=fun b o l h1 h2=>by have:=(hm.lb b o _ h2).1;rw[←hGn];simp only[Gh.back];rw[if_neg (by rintro(h|h);exact h1 h;omega)];exact h2
 have gow0:∀b l,¬zBj G rw b→G.ow b=jq l→Gn.ow b=jq l:=fun b l h1 h2=>by have:=(hm.ow b _ h2).1;rw[←hGn];simp only[Gh.back];rw[if_neg (by rintro(h|h);exact h1 h;omega)];exact h2
 have gR:∀b o l,G'.lb b o=jq l→zBj G rw b∨w.heap.size≤b:=fun b o l h=>(gM.lb b o l h).2.1.symm
 have iT:∀b l,G'.ow b=jq l→zBj G rw b∨w.heap.size≤b:=fun b l h=>(gM.ow b l h).2.1.symm
 have glb1:∀b o fl s z s' z',G'.lb b o=jq (fl,s,z)→zD5 d rw nd s z=jq (s',z')→Gn.lb b o=jq (fl,s',z'):=fun b o fl s z s' z' h1 h2=>by rw[←hGn];simp only[Gh.back];rw[if_pos (gR b o _ h1),h1];simp[h2]
 have gow1:∀b s z l,G'.ow b=jq (s,z)→zD5 d rw nd s z=jq l→Gn.ow b=jq l:=fun b s z l h1 h2=>by rw[←hGn];simp only[Gh.back];rw[if_pos (iT b _ h1),h1];simp[h2]
 have dA:∀i s u z,(i,s,u)∈rw→zD5 d rw nd i z=jq (s,z):=fun i s u z h=>by simp[zD5,zKq rw bp h]
 have gE:∀x∈rw,x.1<us.length:=fun x hx=>by have:=(Ja.1 (eE x hx)).1;omega
 have hbn:∀x∈nd,∀z,zD5 d rw nd x.1 z=ndB d nd x.1 z:=fun x hx z=>by have h1:=(pN x hx).2;have h2:rwS rw x.1=jr:=zQB (fun y hy e=>by have:=gE y hy;omega);simp[zD5,h2]
 have mM:∀(k:Nat) x,nd[k]? =jq x→ ∃tgt,(nd.length=1→tgt=[])∧(nd.length≠1→tgt=[k])∧(∀z,Gn.hd d (z++tgt)=G'.hd x.1 (z++x.2.1))∧(∀z,Gn.ad d (z++tgt)=G'.ad x.1 (z++x.2.1))∧ ∀z,zD5 d rw nd x.1 (z++x.2.1)=jq (d,z++tgt):=by
  intro k x hk;have bP:=Kx hk
  match nd,hk,pM,hbn x bP,ghdd,gadd with
  | [y],hk,pM,hb,ghdd,gadd=>
   have iR:y=x:=by
    cases k with
    |zero=>simpa using hk
    |succ k=>simp at hk
   subst iR;exact⟨[],fun _=>rfl,fun h=>absurd rfl h,fun z=>by rw[ghdd];simp[zQD],fun z=>by rw[gadd];simp[zTK],fun z=>by rw[hb];simp[ndB]⟩
  | [],hk,_,_,_,_=>simp at hk
  |y1::y2::r,hk,pM,hb,ghdd,gadd=>
   refine⟨[k],fun h=>by simp at h,fun _=>rfl,fun z=>by rw[ghdd];simp only[zQD,Q2,Q3];simp[hk],fun z=>by rw[gadd];simp only[zTK,Q2,Q3];simp[hk],fun z=>?_⟩;rw[hb];have:=zHP (y1::y2::r) pM (k0:=0) hk;rw[Jc]at this;simp only[ndB,this];simp
 have mg:∀(k:Nat) x,nd[k]? =jq x→ ∀tgt,(∀z,Gn.hd d (z++tgt)=G'.hd x.1 (z++x.2.1))→(∀z,Gn.ad d (z++tgt)=G'.ad x.1 (z++x.2.1))→(∀z,zD5 d rw nd x.1 (z++x.2.1)=jq (d,z++tgt))→R (aft Γ.St Sc S') Gn w' d x.2.2 tgt:=by intro k x hk tgt h1 h2 h3;have bP:=Kx hk;obtain⟨c1,c2,c3⟩:=gy x.2.2 (by rw[←fO];exact Jh.2 ⟨x,bP,rfl⟩);refine zAn (G:=G') (w:=w') (s:=x.1) (p:=x.2.1) ⟨⟨h1,fun z _=>h2 z,fun b o f' z _ _ hl=>⟨glb1 b o f' _ _ _ _ hl (h3 z),rfl⟩,fun b z _ hl=>gow1 b _ _ _ hl (h3 z),fun b cs e h=>⟨cs,h,rfl⟩,by intros;assumption⟩,fun b o _ hl=>⟨glb1 b o js _ _ _ _ hl (by simpa using h3 []),rfl⟩,fun b hl=>gow1 b _ _ _ hl (by simpa using h3 [])⟩ _ (xC.mono (fun _ _=>False.elim) _ c1) (c3 _ _ _ _ _ gS.le (pN x bP).1)
 have gw:sG (vP d rw) G w Gn w':=by
  have gC:∀s,(∀n,(s,n)∉vP d rw)→s≠d∧s∉rw.map (·.2.1):=fun s h=>⟨fun e=>h 0 (by simp[vP,e]),fun hm=>by obtain⟨x,hx,rfl⟩:=Jh.1 hm;exact h _ (zG4 hx)⟩
  have pL:∀b s y,G.ow b=jq (s,y)→s∉rw.map (·.2.1)→ ¬zBj G rw b:=by
   rintro b s y h1 h2 ⟨s',z',h3,h4⟩
   rw[h1]at h3;simp at h3;exact h2 (h3.1▸h4)
  refine⟨fun s p h=>?_,fun s p h=>?_,fun b o fl s p gP h1 h2=>?_,fun b s p h1 h2=>?_,gA,fun b s p ms c h1 h2 hb=>by rw[pz b (hm.ow b _ h1).1 (pL b s p h1 (gC s h2).2)];exact hb⟩
  ·have h1:s≠d:=fun e=>absurd (h 0 (by simp[vP,e])) (by simp)
   by_cases h2:s∈rw.map (·.2.1)
   ·
    obtain⟨x,hx,rfl⟩:=Jh.1 h2;have hc:=h _ (zG4 hx);have c2:x.2.2.single=js:=by
     cases pm:x.2.2.single with
     |true=>rfl
     |false=>simp[cLv,pm]at hc
    have h3:p=[]:=Jn (by simp only[cLv,c2,if_true]at hc;omega);subst h3;obtain⟨_,_,u,c4,c5,c6⟩:=ap x hx;rw[c2]at c5;have c5:=c5.symm;obtain⟨_,u0,e1,e2⟩:=ao x.1 x.2.2 (Jh.2 ⟨x,hx,rfl⟩);rw[c6]at e1;simp at e1;subst e1;rw[xF c2,xF c5]at e2;rw[ghdr x.1 x.2.1 x.2.2 [] hx,e2];simp[Gh.arg,eE x hx]
   ·exact ghd0 s p h1 h2
  ·have h1:s≠d:=fun e=>absurd (h 0 (by simp[vP,e])) (by simp)
   by_cases h2:s∈rw.map (·.2.1)
   ·obtain⟨x,hx,rfl⟩:=Jh.1 h2
    have hc:=h _ (zG4 hx);have h3:p=[]:=Jn (by have:cLv x.2.2≤1:=(by unfold cLv;split<;>omega);omega);subst h3;exact gadr0 x.1 x.2.1 x.2.2 hx
   ·exact gad0 s p h1 h2
  ·obtain⟨h3,h4⟩:=gC s h2
   obtain⟨y,hy⟩:=gP;have h5:=pL b s y hy h4;exact⟨glb0 b o _ h5 h1,by simp[yQ,World.cell?,pz b (hm.lb b o _ h1).1 h5]⟩
  ·obtain⟨h3,h4⟩:=gC s h2
   exact gow0 b _ (pL b s p h1 h4) h1
 have gz:Mem (Γ.at (aft Γ.St Sc S')) Gn w':=by
  have gD:∀b,b<w'.heap.size∧(w.heap.size≤b∨zBj G rw b)∧S' b=jr→zBp (Γ.at (aft Γ.St Sc S')) w' b:=fun b ⟨hb,h,gG⟩=>by
   have bS:Sc b=jr:=by
    cases hs:Sc b with
    |none=>rfl
    |some x=>rw[gS.le b x hs]at gG;cases gG
   refine⟨hb,?_,by simp only[aft,bS];exact gG⟩;rcases h with h|⟨s,z,h1,_⟩
   ·exact .inl (by have:=hm.sz;show Γ.w0.heap.size≤b;omega)
   ·exact(hm.ow b _ h1).2.1
  have gp:∀b,¬(zBj G rw b∨w.heap.size≤b)→zBp Γ w b→zBp (Γ.at (aft Γ.St Sc S')) w' b:=fun b h ⟨h1,h2,h3⟩=>by
   refine⟨by omega,h2,?_⟩;simp only[aft];split
   ·rename_i hs
    cases gG:S' b with
    |none=>rfl
    |some x=>
     rcases gS.nw b hs (by rw[gG];simp)with h4|h4
     ·exact absurd (.inr h4) h
     ·exact absurd (.inl h4) h
   ·exact h3
  refine⟨fun s z=>?_,fun b o l hl=>?_,fun b l hl=>?_,fun b x hx=>?_,fun b(h1:b<Γ.w0.heap.size) h2=>?_,Ko hm.sz gu,hm.bk.trans gA gM.bk.os gM.bk.out⟩
  ·by_cases h1:s=d
   ·subst h1
    rw[ghdd];unfold zQD;split
    ·exact gM.one _ _
    ·split
     ·split
      ·exact gM.one _ _
      ·rfl
     ·rfl
   ·by_cases h2:s∈rw.map (·.2.1)
    ·obtain⟨x,hx,rfl⟩:=Jh.1 h2
     rw[ghdr x.1 x.2.1 x.2.2 z hx];exact gM.one _ _
    ·rw[ghd0 s z h1 h2];exact hm.one _ _
  ·rw[←hGn]at hl
   simp only[Gh.back]at hl;split at hl
   ·rename_i ci
    split at hl
    ·rename_i hg
     exact gD b (gM.lb b o _ hg)
    ·cases hl
   ·rename_i ci
    exact gp b ci (hm.lb b o l hl)
  ·rw[←hGn]at hl
   simp only[Gh.back]at hl;split at hl
   ·rename_i ci
    split at hl
    ·rename_i hg
     exact gD b (gM.ow b _ hg)
    ·cases hl
   ·rename_i ci
    exact gp b ci (hm.ow b l hl)
  ·simp only[aft]at hx
   split at hx
   ·exact gM.st b x hx
   have h1:=hm.st b x hx;have h2:=(Kt.1 h1).1;have h3:¬zBj G rw b:=by
    rintro⟨s,z,h4,_⟩
    rw[(hm.ow b _ h4).2.2]at hx;cases hx
   rw[pz b h2 h3];exact h1
  ·have h3:¬zBj G rw b:=by
    rintro⟨s,z,h4,_⟩
    rcases(hm.ow b _ h4).2.1 with h5|h5
    ·omega
    ·exact h2 h5
   rw[pz b (by have:=hm.sz;omega) h3];exact hm.fr b h1 h2
 have iJ:nd.length=res.length:=by rw[←fO];simp
 refine⟨gw,gc.up eH (by simp) gw gz ?_ ?_⟩
 ·intro s hs
  obtain⟨h1,h2⟩:=zQF hs;refine⟨fun n hn=>?_,by rw[J6];simp[Ne.symm h1]⟩;simp only[vP,Js,Q6.injEq,Jh]at hn;rcases hn with⟨e,_⟩|⟨x,hx,e,_⟩
  ·exact h1 e
  ·exact h2 (Jh.2 ⟨x,hx,e⟩)
 ·intro s t hs
  rcases zQE hs with⟨rfl,ht⟩|⟨gf,i,u,fY,ht⟩
  ·simp at ht
   subst ht;rw[J6];simp only[gc.size,hd,if_true];have cJ:res=nd.map (·.2.2):=fO.symm
   by_cases hl:nd.length=1
   ·obtain⟨x,hx⟩:∃x,nd=[x]:=List.length_eq_one_iff.1 hl
    obtain⟨tgt,t1,_,t3,t4,t5⟩:=mM 0 x (by simp[hx]);obtain rfl:=t1 hl;have hr:=mg 0 x (by simp[hx]) [] t3 t4 t5;obtain⟨c1,c2,_⟩:=gy x.2.2 (by rw[cJ,hx];simp);have eJ:zDL res=x.2.2:=by rw[cJ,hx];rfl
    have gU:∀ys,x.2.2≠.tup ys:=fun ys e=>by rw[e]at c2;simp[T.okTup]at c2
    rw[eJ];refine⟨?_,hr,Top.of_clean _ c1⟩;rw[zAw Gn s _ [] gU,zBT x.2.2 x.2.1 [] t3,hx];rfl
   ·have eJ:zDL res=.tup res:=by
     rw[iJ]at hl
     match res,hl with
     | [],_=>rfl
     | [u],hl=>simp at hl
     |_::_::_,_=>rfl
    rw[eJ];have gF:∀k x,nd[k]? =jq x→ ∀z,Gn.hd s (z++[0+k])=G'.hd x.1 (z++x.2.1):=fun k x hk z=>by obtain⟨tgt,_,t2,t3,_,_⟩:=mM k x hk;rw[t2 hl]at t3;rw[Jc];exact t3 z
    refine⟨?_,?_,?_⟩
    ·have hv:=zN8 (Gn:=Gn) (G':=G') (d:=s) nd 0 gF
     rw[fO]at hv;simp only[mkV,hv];unfold zKl;split
     ·simp at hl
     ·rfl
    ·simp only[R]
     rw[cJ];refine zNx _ [] 0 (fun k u hu=>?_);rw[Jp]at hu;cases hk:nd[k]? with
     |none=>simp[hk]at hu
     |some x=>
      simp[hk]at hu;subst hu;obtain⟨tgt,_,t2,t3,t4,t5⟩:=mM k x hk;rw[t2 hl]at t3 t4 t5;rw[Jc];exact mg k x hk [k] t3 t4 t5
    ·simp only[Top]
     refine vV.of_clean _ ?_;have:∀us:List T,(∀u∈us,zZ u)→xE us:=by
      intro us
      induction us with
      |nil=>intro _;trivial
      |cons u us ih=>intro h;exact⟨h u (by simp),ih fun v hv=>h v (by simp[hv])⟩
     exact this res fun u hu=>(gy u hu).1
  ·simp at ht
   subst ht;obtain⟨c1,c3,u0,c4,_,c6⟩:=ap _ fY;obtain⟨r1,u1,e1,e2⟩:=ao i t (Jh.2 ⟨_,fY,rfl⟩);simp only at c4 c6;rw[c6]at e1;simp at e1;subst e1;refine⟨?_,?_,Top.of_clean _ c1⟩
   ·rw[J6]
    simp only[Ne.symm gf,if_false];have hxi:=eE _ fY;simp only at hxi;have m1:mkV Gn s t []=mkV G' i t []:=zEN t [] [] (fun z=>by rw[Jk];exact ghdr i s t z fY);have m2:mkV (G.arg a xs rw) i u0 []=mkV G s u0 []:=zEN u0 [] [] (fun z=>by simp[Gh.arg,hxi]);rw[(gc.ent s u0 c4).1,m1,e2,m2]
   ·refine zAn (G:=G') (w:=w') (s:=i) (p:=[]) ⟨⟨fun z=>by rw[Jk];exact ghdr i s t z fY,fun z hz=>by rw[Jk];exact gadr i s t z fY hz,fun b o f' z _ _ hl=>?_,fun b z _ hl=>?_,fun b cs e h=>⟨cs,h,rfl⟩,by intros;assumption⟩,fun b o _ hl=>⟨glb1 b o js _ _ _ _ hl (dA i s t [] fY),rfl⟩,fun b hl=>gow1 b _ _ _ hl (dA i s t [] fY)⟩ t (xC.mono (fun _ _=>False.elim) _ c1) (c3 _ _ _ _ _ gS.le r1)
    ·rw[Jk]at hl ⊢;exact⟨glb1 b o f' _ _ _ _ hl (dA i s t z fY),rfl⟩
    ·rw[Jk]at hl ⊢;exact gow1 b _ _ _ hl (dA i s t z fY)
end
end Go.Ab

namespace Go.Ab
open Go
def zHQ(E:Env)(rs:List Nat)(x:Operand)(t:T):Bool:=
 match x with
 |.tmp s=>qA E rs s t
 |_=>js
def zBD(E:Env)(rw:Rw)(i:Nat)(x:Operand)(u:T):Prop:=
 (∃s u',x=.tmp s∧(i,s,u')∈rw∧E s=jq u∧zZ u∧u.okTup=js∧vG u=js)∨(∃t,opT E x=jq t∧clo E t=u∧zHQ E (rw.map (·.2.1)) x t=js)
def wD(E:Env)(rw:Rw):Nat→List Operand→List T→Prop
 |_,[],[]=>True
 |i,x::xs,u::us=>zBD E rw i x u∧wD E rw (i+1) xs us
 |_,_,_=>False
theorem wD.length{E:Env}{rw:Rw}:(xs:List Operand)→(us:List T)→ ∀i,wD E rw i xs us→xs.length=us.length
 | [],[],_,_=>rfl
 |_::xs,_::us,i,h=>by simp[wD.length xs us (i+1) h.2]
 | [],_::_,_,h=>by simp[wD]at h
 |_::_,[],_,h=>by simp[wD]at h
theorem wD.get{E:Env}{rw:Rw}:(xs:List Operand)→(us:List T)→ ∀i,wD E rw i xs us→ ∀(j:Nat) u,us[j]? =jq u→ ∃x,xs[j]? =jq x∧zBD E rw (i+j) x u
 | [],[],_,_,_,_,h=>by simp at h
 |x::xs,v::us,i,h,j,u,hj=>by
  cases j with
  |zero=>simp at hj;subst hj;exact⟨x,by simp,h.1⟩
  |succ j=>
   obtain⟨y,h1,h2⟩:=wD.get xs us (i+1) h.2 j u (by simpa using hj);exact⟨y,by simpa using h1,by rwa [show i+(j+1)=i+1+j from by omega]⟩
 | [],_::_,_,h,_,_,_=>by simp[wD]at h
 |_::_,[],_,h,_,_,_=>by grind
structure zKs (E:Env) (d:Nat) (xs:List Operand) (us:List T) (rw:Rw):Prop where
 nodup:(d::rw.map (·.2.1)).Nodup
 nodup2:(rw.map (·.1)).Nodup
 at_:∀x∈rw,xs[x.1]? =jq (.tmp x.2.1)
 tree:∀x∈rw,zZ x.2.2∧vG x.2.2=js∧ ∃u,E x.2.1=jq u∧x.2.2.single=u.single∧us[x.1]? =jq u
theorem zKs.nil{E:Env}{d:Nat}{xs:List Operand}{us:List T}:zKs E d xs us []:=⟨by simp,by simp,by simp,by simp⟩
theorem zKs.one{E:Env}{d i s:Nat}{u u':T}{xs:List Operand}{us:List T}(h1:d≠s)(h2:xs[i]? =jq (.tmp s))(h3:zZ u')(h4:u'.single=js)(h5:vG u'=js)(h6:E s=jq u)(h7:u.single=js)(h8:us[i]? =jq u):
  zKs E d xs us [(i,s,u')]:=⟨by grind,by simp,by grind,by grind⟩
section
variable {P:Program}{Γ:Ctx}{E:Env}{o:Oper}{d:Nat}
theorem zTL{G:Gh}{a:Act}{w:World}(gc:Rep Γ E G a.tmps w){rw:Rw}{xs:List Operand}{us:List T}(hr:zKs E d xs us rw){Sc:Stb}(ee:∀b x,Γ.St b=jq x→Sc b=jq x)
  (ef:∀r,r∉rw.map (·.2.1)→ ∀b,(∃y,G.ow b=jq (r,y))→Sc b=w.heap[b]?){i:Nat}{x:Operand}{u:T}(hx:xs[i]? =jq x)(hu:us[i]? =jq u)(h:zBD E rw i x u):
  a.eval x=mkV (G.arg a xs rw) i u []∧R Sc (G.arg a xs rw) w i u []:=by
 rcases h with⟨s,u',rfl,h1,h2,h3,h4,h5⟩|⟨t,h1,rfl,h3⟩
 ·obtain⟨e1,e2,_⟩:=gc.ent s u h2
  have gF:∀z,(G.arg a xs rw).hd i z=G.hd s z:=by grind[Gh.arg]
  have fb:∀z,(G.arg a xs rw).ad i z=G.ad s z:=by grind[Gh.arg]
  have hi:=zC4 rw (Kj.1 hr.nodup).2 h1;refine⟨by grind[wG,zEN],?_⟩;refine zON u [] h5 (zAn (St:=Γ.St) (G:=G) (w:=w) (s:=s) (p:=[]) ⟨⟨by grind,by grind,fun b o' f' z _ gP hl=>?_,fun b z _ hl=>?_,fun b cs e h=>⟨cs,h,rfl⟩,by intros;assumption⟩,fun b o' gP hl=>?_,fun b hl=>?_⟩ u (by grind[xC.mono]) e2)
  ·obtain⟨y,hy⟩:=gP
   exact⟨by grind[Gh.arg],rfl⟩
  ·grind[Gh.arg]
  ·obtain⟨y,hy⟩:=gP
   exact⟨by grind[Gh.arg],rfl⟩
  grind[Gh.arg]
 ·cases x with
  |tmp s=>
   have gF:∀z,(G.arg a xs rw).hd i z=G.hd s z:=by grind[Gh.arg]
   obtain⟨e1,e2,_⟩:=gc.ent s t h1
   grind[zHQ,wG,zJf,zWl]
  |const v=>
   simp only[opT]at h1;split at h1
   ·rename_i gn
    simp at h1;subst h1;have gF:(G.arg a xs rw).hd i []=v:=by grind[Gh.arg,Act.eval,zAL]
    exact⟨by grind[clo,mkV,Act.eval],by simp[clo,R,gF]⟩
   ·cases h1
  |func f=>
   simp only[opT]at h1;simp at h1;subst h1;have gF:(G.arg a xs rw).hd i []=.func (.func f) #[] #[]:=by grind[Gh.arg,Act.eval,kO,Value.oneCell']
   exact⟨by grind[clo,mkV,Act.eval],by simp[clo,R,gF]⟩
  |global g=>grind[opT]
theorem zDf{E:Env}:(t:T)→t.flat=js→(∀rs s,qA E rs s t=js)∧clo E t=t
 |.lit _,_|.ro _,_=>by simp[qA,clo]
 |.agg ts,h=>by
  simp only[T.flat]at h;have:=go ts h
  grind[qA,clo]
 |.any,h|.same _ _,h|.addr _ _,h|.sub _ _ _ _ _,h|.sl _ _,h|.ptr _,h|.mp _ _,h|.tup _,h=>by grind[T.flat]
where go:(ts:List T)→zAG ts=js→(∀rs s,zAX E rs s ts=js)∧zBC E ts=ts
 | [],_=>by simp[zAX,zBC]
 |x::xs,h=>by simp only[zAG,J3]at h;simp only[zAX,zBC,J3];exact⟨fun rs s=>⟨(zDf x h.1).1 rs s,(go xs h.2).1 rs s⟩,by rw[(zDf x h.1).2,(go xs h.2).2]⟩
theorem zC5{a:Act}{w:World}{K:Act→World→Prop}{Q:Exit→Act→World→Prop}{f:FuncId}{xf:Operand}{xs:List Operand}{ats:Array TypeId}(ho:o.op=.call { callee:=.value xf,args:=xs.toArray,argTypes:=ats })(gg:o.dst=jq d)
  (gr:∀args w,(callFunc f args).run P w=.ok (.enter f args) w)(hf:a.eval xf=.func (.func f) #[] #[])
  (h:Calls P f (xs.map a.eval).toArray w fun e w'=> ∃v,e=.returned v∧K (a.put (jq d) v) w'):o.wp P a w K Q:=by
 have gx:(execOp a.eval o).run P w=.ok (.enter f (xs.map a.eval).toArray) w:=by simp[execOp,ho,resolve,hf,Deferred.ofValue,invoke,gr]
 unfold Oper.wp;rw[gx,Oper.upon_enter];refine h.mono ?_
 grind
theorem zKt{G:Gh}{a:Act}{w:World}(gc:Rep Γ E G a.tmps w)(hd:d<Γ.N)(f:FuncId)(xs:List Operand)(us res:List T)(rw:Rw)
  (hc:FnC P f us res (rw.map fun x=>(x.1,x.2.2)))(gj:wD E rw 0 xs us)(hr:zKs E d xs us rw)(gy:xE res∧yU res=js∧uM res=js):
  Calls P f (xs.map a.eval).toArray w fun e w'=> ∃v,e=.returned v∧ ∃S G',zDy Γ.St S Γ.W Γ.w0.heap.size∧sG (vP d rw) G w G' w'∧Rep (Γ.at S) (E.app (cWr d res rw) (vP d rw)) G' (a.tmps.setIfInBounds d v) w':=by
 classical
 have hm:=gc.mem
 let Sc:Stb:=fun b=>if zBj G rw b then jr else w.heap[b]?
 have ee:∀b x,Γ.St b=jq x→Sc b=jq x:=fun b x hx=>by
  have h3:¬zBj G rw b:=by
   rintro⟨s,z,h4,_⟩
   rw[(hm.ow b _ h4).2.2]at hx;cases hx
  simp only[Sc,h3,if_false];exact hm.st b x hx
 have ef:∀r,r∉rw.map (·.2.1)→ ∀b,(∃y,G.ow b=jq (r,y))→Sc b=w.heap[b]?:=fun r dn b ⟨y,hy⟩=>by
  have h3:¬zBj G rw b:=by
   rintro⟨s,z,h4,h5⟩
   grind
  grind
 have pP:∀(us:List T),xE us∧yU us=js∧uM us=js→ ∀u∈us,zZ u∧u.okTup=js∧vG u=js:=by
  intro us
  induction us with
  |nil=>simp
  |cons v us ih=>
   intro⟨h1,h2,h3⟩ u hu;simp only[yU,uM,J3]at h2 h3;rcases Js.1 hu with rfl|hu
   ·exact⟨h1.1,h2.1,h3.1⟩
   ·exact ih ⟨h1.2,h2.2,h3.2⟩ u hu
 exact zG5 gc hd (Sc:=Sc) (rw:=rw) (by grind) ee hc (wD.length xs us 0 gj) (fun i u hu=>by
   obtain⟨x,h1,h2⟩:=wD.get xs us 0 gj i u hu;rw[Jc]at h2
   grind[zTL]) hr.nodup hr.nodup2 hr.at_
  (by grind[zON])
  (fun x hx=>by
   obtain⟨h1,h3,h4⟩:=hr.tree x hx
   grind[zON])
theorem zJg(f:FuncId)(xf:Operand)(xs:List Operand)(ats:Array TypeId)(us res:List T)(rw:Rw)(ho:o.op=.call { callee:=.value xf,args:=xs.toArray,argTypes:=ats })(gg:o.dst=jq d)(hd:d<Γ.N)
  (gr:∀args w,(callFunc f args).run P w=.ok (.enter f args) w)(hf:opT E xf=jq (.lit (.func (.func f) #[] #[])))
  (hc:FnC P f us res (rw.map fun x=>(x.1,x.2.2)))(gj:wD E rw 0 xs us)(hr:zKs E d xs us rw)(gy:xE res∧yU res=js∧uM res=js):
  wC P Γ o E (E.app (cWr d res rw) (vP d rw)):=by
 intro a w K Q ⟨gJ,G,gc⟩ hK;refine zC5 ho gg gr (xD gc hf).1 ?_;refine(zKt gc hd f xs us res rw hc gj hr gy).mono ?_
 rintro e w' ⟨v,rfl,S,G',hS,_,gk⟩
 exact⟨v,rfl,hK _ _ ⟨S,hS,gJ,G',gk⟩⟩
theorem zKu(f:FuncId)(xf:Operand)(xs:List Operand)(ats:Array TypeId)(us res:List T)(i ds r:Nat)(q:List Nat)(tr u u':T)(ho:o.op=.call { callee:=.value xf,args:=xs.toArray,argTypes:=ats })(gg:o.dst=jq d)(hd:d<Γ.N)
  (gr:∀args w,(callFunc f args).run P w=.ok (.enter f args) w)(hf:opT E xf=jq (.lit (.func (.func f) #[] #[])))
  (hs:E ds=jq (.same r q))(hr:E r=jq tr)(hq:tr.get q.reverse=jq u)(hu:u.single=js)(ez:zZ u)(gT:ds≠r)(hdr2:d≠r)(gD:tr.okB [(ds,1),(r,q.length+1)]=js)(pm:wL tr=js)
  (E1 E2:Env)(bI:E1=E.app [(ds,jq u),(r,jq (if q=[]then .same ds []else tr.set q.reverse .any))] [(ds,1),(r,q.length+1)])(hE2:E2=E1.app (cWr d res [(i,ds,u')]) (vP d [(i,ds,u')]))
  (hc:FnC P f us res [(i,u')])(gj:wD E1 [(i,ds,u')] 0 xs us)(fY:zKs E1 d xs us [(i,ds,u')])(gy:xE res∧yU res=js∧uM res=js)
  (tr2 v0:T)(gI:E2 r=jq tr2)(iy:tr2.get q.reverse=jq v0)(ag:v0.single=js)(mb:E2 ds=jq u')(ej:zZ u')(bQ:u'.single=js)(pK:tr2.okB [(r,q.length+1),(ds,1)]=js)(hc3:wL tr2=js)(hok3:u'.okB [(r,q.length+1),(ds,1)]=js)(hc4:wL u'=js):
  wC P Γ o E (E2.app [(r,jq (tr2.set q.reverse u')),(ds,jq (.same r q))] [(r,q.length+1),(ds,1)]):=by
 have bq:cLv u'=1:=by grind[cLv]
 intro a w K Q ⟨gJ,G,gc⟩ hK;refine zC5 ho gg gr (xD gc hf).1 ?_;have gZ:G.hd ds []=G.hd r q:=by have:=(gc.ent ds _ hs).2.1;simpa only[R]using this
 obtain⟨fM,iV⟩:=zGx gc ds [] r q (.same r q) tr u (.same r q) hs rfl rfl gZ hr hq hu ez gT (by grind[T.okB,zAF]) (by omega) rfl pm;have jo:E.app [(ds,jq ((T.same r q).set [].reverse u)),(r,jq (if q=[]then .same ds []else tr.set q.reverse .any))] [(ds,([]:List Nat).length+1),(r,q.length+1)]=E1:=by rw[bI];rfl
 rw[jo]at fM;refine(zKt fM hd f xs us res [(i,ds,u')] hc gj fY gy).mono ?_
 rintro e w' ⟨v,rfl,S,G',hS,hk,gk⟩
 rw[←hE2]at gk;have hdds:d≠ds:=by have:=fY.nodup;grind
 have h1:G'.hd r q=(G.tr ds [] r q).hd r q:=hk.hd r q (fun n hn=>by grind[vP]);have h2:G'.hd ds []=(G.tr ds [] r q).hd ds []:=hk.hd ds [] (fun n hn=>by grind[vP]);have fq:G'.hd r q=G'.hd ds []:=by grind
 obtain⟨fL,_⟩:=zGx gk r q ds [] tr2 u' u' v0 gI iy ag fq mb rfl bQ ej (Ne.symm gT) (by omega) (by omega) hc3 hc4;refine⟨v,rfl,hK _ _ ⟨S,hS,gJ,G'.tr r q ds [],?_⟩⟩;have hw:(if([]:List Nat)=[]then T.same r q else u'.set ([]:List Nat).reverse .any)=T.same r q:=if_pos rfl;rw[hw]at fL;exact fL
theorem zQG(f:FuncId)(xf:Operand)(xs:List Operand)(ats:Array TypeId)(us res:List T)(ho:o.op=.call { callee:=.value xf,args:=xs.toArray,argTypes:=ats })(gg:o.dst=jq d)(hd:d<Γ.N)
  (gr:∀args w,(callFunc f args).run P w=.ok (.enter f args) w)(hf:opT E xf=jq (.lit (.func (.func f) #[] #[])))
  (hc:FnC P f us res [])(gv:xs.length=us.length)(gj:∀(i:Nat) u,us[i]? =jq u→ ∃x,xs[i]? =jq x∧opT E x=jq u∧u.flat=js)(gy:xE res∧yU res=js):
  wC P Γ o E (E.app (cWr d res []) (vP d [])):=by
 intro a w K Q ⟨gJ,G,gc⟩ hK;have hm:=gc.mem;refine zC5 ho gg gr (xD gc hf).1 ?_;have pL:∀b,¬zBj G [] b:=by rintro b ⟨s,z,_,h⟩;simp at h
 have pP:∀(us:List T),xE us∧yU us=js→ ∀u∈us,zZ u∧u.okTup=js:=by
  intro us
  induction us with
  |nil=>simp
  |cons v us ih=>
   intro⟨h1,h2⟩ u hu;simp only[yU,J3]at h2;rcases Js.1 hu with rfl|hu
   ·exact⟨h1.1,h2.1⟩
   ·exact ih ⟨h1.2,h2.2⟩ u hu
 have:=zG5 gc hd (Sc:=Γ.St) (rw:=[]) (fun b x hx=>⟨hm.st b x hx,pL b⟩) (fun _ _ h=>h) hc gv (fun i u hu=>by
   obtain⟨x,h1,h2,h3⟩:=gj i u hu;refine⟨x,h1,?_⟩;have iZ:=zDf (E:=E) u h3;cases x with
   |tmp s=>
    have gF:∀z,(G.arg a xs []).hd i z=G.hd s z:=by grind[Gh.arg]
    obtain⟨e1,e2,_⟩:=gc.ent s u h2;refine⟨?_,by grind[zJa]⟩;have:=zJf (E:=E) gF u (iZ.1 [] s)
    grind[wG]
   |const v=>
    simp only[opT]at h2;split at h2
    ·rename_i gn
     simp at h2;subst h2;have gF:(G.arg a xs []).hd i []=v:=by grind[Gh.arg,Act.eval,zAL]
     exact⟨by grind[mkV,Act.eval],by simp[R,gF]⟩
    ·cases h2
   |func f=>
    simp only[opT]at h2;simp at h2;subst h2;have gF:(G.arg a xs []).hd i []=.func (.func f) #[] #[]:=by grind[Gh.arg,Act.eval,kO,Value.oneCell']
    exact⟨by grind[mkV,Act.eval],by simp[R,gF]⟩
   |global g=>grind[opT]) (by simp) (by simp) (by simp)
  (fun u hu=>⟨by grind,by grind,fun S' G w s p hS h=>by
   have:aft Γ.St Γ.St S'=S':=funext (by grind[aft])
   grind⟩) (by simp)
 refine this.mono ?_
 rintro e w' ⟨v,rfl,S,G',hS,_,gk⟩
 exact⟨v,rfl,hK _ _ ⟨S,hS,gJ,G',gk⟩⟩
end
end Go.Ab

namespace Go.Ab
open Go
def xK:List (Nat×T)→Env
 | [],_=>jr
 |(k,t)::l,s=>if k=s then jq t else xK l s
def Env.Has(E:Env):List (Nat×T)→Prop
 | []=>True
 |(s,t)::l=>E s=jq t∧E.Has l
theorem Env.Has.le{E:Env}:{l:List (Nat×T)}→E.Has l→ ∀s t,xK l s=jq t→E s=jq t
 | [],_,s,t,h=>by grind[xK]
 |(k,u)::l,hh,s,t,h=>by
  simp only[xK]at h;split at h
  ·rename_i e
   subst e;rw[hh.1];exact h
  ·exact hh.2.le s t h
theorem Sim.weaken{Γ:Ctx}{E E':Env}{a:Act}{w:World}(h:Sim Γ E a w)(eY:∀s t,E' s=jq t→E s=jq t):Sim Γ E' a w:=by obtain⟨h1,G,h2⟩:=h;exact⟨h1,G,⟨h2.size,fun s t hs=>h2.ent s t (eY s t hs),h2.mem⟩⟩
theorem jW.weaken{Γ:Ctx}{E E':Env}{a:Act}{w:World}(h:jW Γ E a w)(eY:∀s t,E' s=jq t→E s=jq t):jW Γ E' a w:=by obtain⟨S,h1,h2⟩:=h;exact⟨S,h1,h2.weaken eY⟩
abbrev sJ:=List (Nat×Value)
def sJ.Hold(pn:sJ)(a:Act):Prop:=∀x∈pn,a.tmps[x.1]? =jq x.2
def sJ.ok(pn:sJ)(d:Option Nat):Bool:=match d with
 |none=>js
 |some d=>pn.all fun x=>x.1 != d
theorem Oper.wp_frame{P:Program}{o:Oper}{a:Act}{w:World}{K:Act→World→Prop}{Q:Exit→Act→World→Prop}(h:o.wp P a w K Q):
  o.wp P a w (fun a' w'=>K a' w'∧ ∀s,o.dst≠jq s→a'.tmps[s]? =a.tmps[s]?) Q:=by
 have key:∀(v:Value)(ds:List Deferred),∀s,o.dst≠jq s→(({ a with defers:=ds }:Act).put o.dst v).tmps[s]? =a.tmps[s]?:=by
  intro v ds s hs;cases hd:o.dst with
  |none=>rfl
  |some d=>
   grind[Act.put]
 have key0:∀(v:Value),∀s,o.dst≠jq s→(a.put o.dst v).tmps[s]? =a.tmps[s]?:=fun v=>key v a.defers
 unfold Oper.wp at*
 generalize (execOp a.eval o).run P w=r at*
 cases r with
 |ok n w'=>
  cases n<;>simp only[Oper.upon]at h ⊢
  all_goals grind
 |halt x w'=>cases x<;>simp only[Oper.upon]at h ⊢ <;>exact h
theorem sJ.Hold.frame{pn:sJ}{a a':Act}{d:Option Nat}(h:pn.Hold a)(gD:pn.ok d=js)(hf:∀s,d≠jq s→a'.tmps[s]? =a.tmps[s]?):pn.Hold a':=by
 intro x hx;rw[hf x.1 ?_]
 ·exact h x hx
 ·rintro rfl
  have:=Jr.1 gD x hx
  grind
section
variable (P:Program) (Γ:Ctx) (pn:sJ)
def CW(c:Code)(E:Env)(Q:Exit→Env→Prop):Prop:=
 ∀(a:Act)(w:World)(Q':Exit→Act→World→Prop),jW Γ E a w→pn.Hold a→(∀e E' a' w',Q e E'→jW Γ E' a' w'→pn.Hold a'→Q' e a' w')→c.wp P Q' a w
def yT(ops:Array Oper)(o:Oper)(E E':Env):Prop:=
 ∀(a:Act)(w:World)(K:Act→World→Prop)(Q:Exit→Act→World→Prop),jW Γ E a w→(∀a' w',jW Γ E' a' w'→(∀s,o.dst≠jq s→a'.tmps[s]? =a.tmps[s]?)→K a' w')→
  if Region.wanted o (yielded ops a.tmps)then o.wp P a w K Q∨(o.asks P a w∧LetsOut Q)else K (a.put o.dst undef) w
def wpL(ops:Array Oper)(Q:Exit→Act→World→Prop):List Oper→Act→World→Prop
 | [],a,w=>Q .normal a w
 |o::os,a,w=>if Region.wanted o (yielded ops a.tmps)then o.wp P a w (wpL ops Q os) Q∨(o.asks P a w∧LetsOut Q)else wpL ops Q os (a.put o.dst undef) w
def RW(ops:Array Oper)(os:List Oper)(E:Env)(Q:Exit→Env→Prop):Prop:=
 ∀(a:Act)(w:World)(Q':Exit→Act→World→Prop),jW Γ E a w→pn.Hold a→(∀e E' a' w',Q e E'→jW Γ E' a' w'→pn.Hold a'→Q' e a' w')→wpL P ops Q' os a w
end
section
variable {P:Program}{Γ:Ctx}{pn:sJ}{E E':Env}{Q Q1:Exit→Env→Prop}{c c1 c2:Code}{ops:Array Oper}{o:Oper}{os:List Oper}{d:Nat}
theorem zJh{Q':Exit→Act→World→Prop}:∀(os:List Oper)(n:Nat)(a:Act)(w:World),ops.toList.drop n=os→wpL P ops Q' os a w→wpOps P ops Q' (Ga n os.length) a w
 | [],n,a,w,_,h=>by simpa[wpOps,wpL]using h
 |o::os,n,a,w,hd,h=>by
  have ho:ops[n]? =jq o:=by
   have:=congrArg (·[0]?) hd
   grind
  have my:ops.toList.drop (n+1)=os:=by
   have:=congrArg List.tail hd
   grind[List.tail_drop]
  simp only[Jx,Hi,wpOps,ho];simp only[wpL]at h;split
  ·rename_i hw
   simp only[hw,if_true]at h;exact h.imp (Oper.wp_mono fun a w=>zJh os (n+1) a w my) id
  ·rename_i hw
   simp only[hw]at h;exact zJh os (n+1) _ w my h
theorem CW.region{id:Nat}(h:RW P Γ pn ops ops.toList E Q):CW P Γ pn (.region id ops jt) E Q:=by
 intro a w Q' hs hp hQ;refine wp_region ?_;have:=zJh (P:=P) ops.toList 0 a w (by simp) (h a w Q' hs hp hQ)
 grind[List.range_eq_range']
theorem RW.nil(h:Q .normal E):RW P Γ pn ops [] E Q:=fun a w Q' hs hp hQ=>by
 simp only[wpL]
 grind
theorem RW.cons(h1:yT P Γ ops o E E')(h3:RW P Γ pn ops os E' Q)(h2:pn.ok o.dst=js:=by rfl):RW P Γ pn ops (o::os) E Q:=by
 intro a w Q' hs hp hQ;simp only[wpL];have:=h1 a w (wpL P ops Q' os) Q' hs fun a' w' gG hf=>h3 a' w' Q' gG (hp.frame h2 hf) hQ
 exact this
theorem yT.op(h:∀S,wC P (Γ.at S) o E E')(hg:o.guard=jr:=by rfl):yT P Γ ops o E E':=by
 intro a w K Q hs hK;have hw:Region.wanted o (yielded ops a.tmps)=js:=by simp[Region.wanted,hg]
 rw[if_pos hw];refine .inl ?_;obtain⟨S,hS,hs⟩:=hs;have:=Oper.wp_frame (h S a w (fun a' w'=>jW Γ E' a' w') Q hs fun a' w' h=>h.up hS)
 grind[Oper.wp_mono]
theorem zG6{a:Act}{w:World}(hs:jW Γ E a w){g s:Nat}{b:Bool}(gW:(ops[g]?).bind (·.dst)=jq s)(h:E s=jq (.lit (.bool b))):yielded ops a.tmps g=jq b:=by
 obtain⟨_,_,_,G,hr⟩:=hs;obtain⟨h1,h2,_⟩:=hr.ent s _ h;simp only[R]at h2
 grind[yielded,mkV]
theorem yT.guard(g:Nat)(b:Bool)(s:Nat)(h:∀S,wC P (Γ.at S) o E E')(hg:o.guard=jq (g,b):=by rfl)(gW:(ops[g]?).bind (·.dst)=jq s:=by rfl)(hb:E s=jq (.lit (.bool b)):=by rfl):yT P Γ ops o E E':=by
 intro a w K Q hs hK;have hw:Region.wanted o (yielded ops a.tmps)=js:=by grind[Region.wanted,zG6]
 rw[if_pos hw];refine .inl ?_;obtain⟨S,hS,hs⟩:=hs;have:=Oper.wp_frame (h S a w (fun a' w'=>jW Γ E' a' w') Q hs fun a' w' h=>h.up hS)
 grind[Oper.wp_mono]
def zE(Γ:Ctx)(E E':Env):Prop:=∀(a:Act)(w:World),jW Γ E a w→jW Γ E' a w
theorem zE.refl:zE Γ E E:=fun _ _ h=>h
theorem zE.trans{E1 E2 E3:Env}(h:zE Γ E1 E2)(h':zE Γ E2 E3):zE Γ E1 E3:=fun a w hs=>h' a w (h a w hs)
theorem zE.has{l:List (Nat×T)}(h:E.Has l):zE Γ E (xK l):=fun _ _ hs=>hs.weaken h.le
theorem CW.ghost(h1:zE Γ E E')(h:CW P Γ pn c E' Q):CW P Γ pn c E Q:=fun a w Q' hs=>h a w Q' (h1 a w hs)
theorem RW.ghost(h1:zE Γ E E')(h:RW P Γ pn ops os E' Q):RW P Γ pn ops os E Q:=fun a w Q' hs=>h a w Q' (h1 a w hs)
theorem CW.to(l:List (Nat×T))(h1:E.Has l)(h:CW P Γ pn c (xK l) Q):CW P Γ pn c E Q:=h.ghost (.has h1)
theorem CW.mono(h:CW P Γ pn c E Q1)(hq:∀e E',Q1 e E'→Q e E'):CW P Γ pn c E Q:=fun a w Q' hs hp hQ=>h a w Q' hs hp (by grind)
theorem CW.skip(h:Q .normal E):CW P Γ pn .skip E Q:=fun _ _ _ hs hp hQ=>by grind[wp_skip]
theorem CW.ret(h:Q .ret E):CW P Γ pn .ret E Q:=fun _ _ _ hs hp hQ=>by grind[wp_ret]
theorem CW.exit{id:Nat}(h:Q (.exit id) E):CW P Γ pn (.exit id) E Q:=fun _ _ _ hs hp hQ=>by grind[wp_exit]
def yL(P:Program)(Γ:Ctx)(pn:sJ)(c:Code)(Q:Exit→Env→Prop):Exit→Env→Prop
 |.normal,E=>CW P Γ pn c E Q
 |e,E=>Q e E
theorem CW.seq(h:CW P Γ pn c1 E (yL P Γ pn c2 Q)):CW P Γ pn (.seq c1 c2) E Q:=by
 intro a w Q' hs hp hQ;refine wp_seq (h a w _ hs hp fun e E' a' w' h1 gG cb=>?_);cases e with
 |normal=>exact h1 a' w' Q' gG cb hQ
 |_=>exact hQ _ _ _ _ h1 gG cb
theorem CW.cond{x:Operand}(b:Bool)(hb:opT E x=jq (.lit (.bool b)))(ht:b=js→CW P Γ pn c1 E Q)(hf:b=jt→CW P Γ pn c2 E Q):CW P Γ pn (.cond x c1 c2) E Q:=by intro a w Q' hs hp hQ;obtain⟨_,_,_,G,hr⟩:=id hs;refine wp_cond_split (xD hr hb).1 (fun h=>ht h a w Q' hs hp hQ) (fun h=>hf h a w Q' hs hp hQ)
def yM(id:Nat)(Q:Exit→Env→Prop):Exit→Env→Prop
 |.exit id',E=>if id'=id then Q .normal E else Q (.exit id') E
 |e,E=>Q e E
theorem CW.block{id:Nat}(h:CW P Γ pn c E (yM id Q)):CW P Γ pn (.block id c) E Q:=by
 intro a w Q' hs hp hQ;refine wp_block (h a w _ hs hp fun e E' a' w' h1 gG cb=>?_);cases e with
 |exit id'=>
  simp only[yM]at h1;simp only[Exit.inBlock]
  grind
 |_=>exact hQ _ _ _ _ h1 gG cb
end
def xP{σ ρ:Type}(body:σ→Option (σ⊕ρ)):Nat→σ→Option ρ
 |0,_=>jr
 |n+1,s=>match body s with
  |none=>jr
  |some (.inl s')=>xP body n s'
  |some (.inr r)=>jq r
theorem zG7{σ ρ:Type}{body:σ→Option (σ⊕ρ)}{r:ρ}:∀{n m:Nat}{s:σ},xP body n s=jq r→n≤m→xP body m s=jq r
 |0,_,_,h,_=>by grind[xP]
 |n+1,0,_,_,hm=>by omega
 |n+1,m+1,s,h,hm=>by
  simp only[xP]at h ⊢
  cases hb:body s with
  |none=>grind
  |some x=>
   cases x with
   |inl s'=>simp only[hb]at h ⊢;exact zG7 h (by omega)
   |inr r'=>grind
open Classical in
noncomputable def zC {σ ρ:Type} (body:σ→Option (σ⊕ρ)) (s:σ):Option ρ:=
 if h:∃(n:Nat)(r:ρ),xP body n s=jq r then jq h.choose_spec.choose else jr
theorem zBW{σ ρ:Type}{body:σ→Option (σ⊕ρ)}{s:σ}{r:ρ}:zC body s=jq r↔ ∃n,xP body n s=jq r:=by
 unfold zC;constructor
 ·intro h
  split at h
  all_goals grind
 ·rintro⟨n,hn⟩
  have he:∃(n:Nat)(r:ρ),xP body n s=jq r:=⟨n,r,hn⟩;rw[dif_pos he]
  grind[zG7]
theorem yP{σ ρ:Type}(body:σ→Option (σ⊕ρ))(s:σ):zC body s=match body s with
  |none=>jr
  |some (.inl s')=>zC body s'
  |some (.inr r)=>jq r:=by
 apply Option.ext;intro r;rw[zBW];cases hb:body s with
 |none=>
  simp only[reduceCtorEq,iff_false]
  rintro⟨n,hn⟩
  cases n<;>simp[xP,hb]at hn
 |some x=>
  cases x with
  |inl s'=>
   simp only[];rw[zBW];constructor
   ·rintro⟨n,hn⟩
    cases n with
    |zero=>grind[xP]
    |succ n=>grind[xP]
   ·rintro⟨n,hn⟩
    exact⟨n+1,by grind[xP]⟩
  |inr r'=>
   simp only[Ls.injEq];constructor
   ·rintro⟨n,hn⟩
    cases n with
    |zero=>grind[xP]
    |succ n=>grind[xP]
   ·rintro rfl
    exact⟨1,by simp[xP,hb]⟩
section
variable {P:Program}{Γ:Ctx}{pn:sJ}{E:Env}{Q:Exit→Env→Prop}{c:Code}
def xQ{σ ρ:Type}(Γ:Ctx)(en:σ→Env)(Q:ρ→Exit→Env→Prop)(x:σ⊕ρ):Exit→Env→Prop:=fun e E'=>
 match x with
 |.inl s'=>e=.normal∧zE Γ E' (en s')
 |.inr r=>e≠.normal∧Q r e E'
theorem zCq{p:Nat→Prop}(h:∃m,p m):∃m,p m∧ ∀k,k<m→ ¬p k:=by
 refine Classical.byContradiction fun hn=>?_
 have key:∀n,∀k,k<n→ ¬p k:=by
  intro n
  induction n with
  |zero=>simp
  |succ n ih=>
   grind
 grind
theorem CW.loop{σ ρ:Type}(body:σ→Option (σ⊕ρ))(en:σ→Env)(Q:ρ→Exit→Env→Prop)(h:∀s x,body s=jq x→CW P Γ pn c (en s) (xQ Γ en Q x)){s:σ}{r:ρ}(hr:zC body s=jq r):
  CW P Γ pn (.loop c) (en s) (Q r):=by
 classical
 intro a w Q' hs hp hQ
 let p:Act→World→Nat→Prop:=fun a w m=> ∃s,xP body m s=jq r∧jW Γ (en s) a w∧pn.Hold a
 let μ:Act→World→Nat:=fun a w=>if h:∃m,p a w m then(zCq h).choose else 0
 obtain⟨n,hn⟩:=zBW.1 hr;refine wp_loop (fun a w=> ∃m,p a w m) μ (by grind) ?_;intro a w te;have hμ:μ a w=(zCq te).choose:=dif_pos te;obtain⟨s,h1,h2,h3⟩:=(zCq te).choose_spec.1;have eF:=(zCq te).choose_spec.2;rw[←hμ]at h1;cases hm:μ a w with
 |zero=>grind[xP]
 |succ k=>
  rw[hm]at h1;simp only[xP]at h1;cases hb:body s with
  |none=>grind
  |some x=>
   refine h s x hb a w _ h2 h3 fun e E' a' w' hq gG cb=>?_
   cases x with
   |inl s'=>
    simp only[hb]at h1;obtain⟨rfl,hg⟩:=hq;have hp2:p a' w' k:=⟨s',h1,hg a' w' gG,cb⟩;refine⟨⟨k,hp2⟩,?_⟩;have hex':∃m,p a' w' m:=⟨k,hp2⟩
    grind
   |inr r'=>
    simp only[hb]at h1;have:r'=r:=by grind
    subst this;obtain⟨gf,hq⟩:=hq;have:=hQ e E' a' w' hq gG cb;cases e with
    |normal=>grind
    |_=>exact this
end
end Go.Ab

namespace Go.Ab
open Go
abbrev Nds:=List (Nat×List Nat×T)
def ROk(P:Program)(E:Env):ResultVar→(Nat×List Nat×T)→Prop
 |.tmp s,x=>x.1=s∧x.2.1=[]∧E s=jq x.2.2∧x.2.2.okTup=js
 |.cell a T,x=>x.1=a∧x.2.1=[0]∧E a=jq (.ptr x.2.2)∧ ∃ds ti,P.underlying T=jq ds∧P.info? T=jq ti∧zGm ds= !x.2.2.single∧ti.size=x.2.2.size
def zFI(P:Program)(E:Env):List ResultVar→Nds→Prop
 | [],[]=>True
 |x::xs,y::ys=>ROk P E x y∧zFI P E xs ys
 |_,_=>False
def LOk(E:Env)(us:List T):List (Nat×T)→Prop
 | []=>True
 |(i,u')::l=>(E i=jq u'∧ ∃u,us[i]? =jq u)∧LOk E us l
def zYM(P:Program)(rs:Array ResultVar)(us res:List T)(rws:List (Nat×T)):Exit→Env→Prop:=fun e E=>
 (e=.ret∨e=.normal)∧ ∃nd:Nds,zFI P E rs.toList nd∧nd.map (·.2.2)=res∧(∀x∈nd,us.length≤x.1)∧(nd.map (·.1)).Nodup∧LOk E us rws
def zC6(v:Nat→Value)(is:List Nat):sJ:=is.map fun i=>(i,v i)
def zH6:Nat→List T→List (Nat×T)
 |_,[]=>[]
 |i,u::us=>(i,u)::zH6 (i+1) us
theorem zKv:∀(us:List T)(i s:Nat)(t:T),xK (zH6 i us) s=jq t→i≤s∧us[s-i]? =jq t
 | [],i,s,t,h=>by grind[zH6,xK]
 |u::us,i,s,t,h=>by
  simp only[zH6,xK]at h;split at h
  ·grind
  ·rename_i e
   obtain⟨h1,h2⟩:=zKv us (i+1) s t h
   grind
def zQH(tmps:Array Value):ResultVar→Sem Value
 |.tmp t=>pure (tmps.getD t undef)
 |.cell a t=>do loadVar t (←asAddr (tmps.getD a undef))
theorem zLY(fn:Func)(tmps:Array Value):results fn tmps=(do
  let vs ←fn.results.mapM (zQH tmps)
  pure (if h:vs.size=1 then vs[0]else .tuple vs)):=rfl
theorem vV.get:(xs:List T)→vV xs→ ∀(i:Nat)(x:T),xs[i]? =jq x→Top x
 | [],_,i,x,h=>by simp at h
 |y::ys,ht,i,x,h=>by
  simp only[vV]at ht;cases i with
  |zero=>simp at h;subst h;exact ht.1
  |succ i=>exact vV.get ys ht.2 i x (by simpa using h)
theorem LOk.get{E:Env}{us:List T}:(l:List (Nat×T))→LOk E us l→ ∀i u',(i,u')∈l→E i=jq u'∧ ∃u,us[i]? =jq u
 | [],_,_,_,h=>by simp at h
 |x::l,h,i,u',hm=>by
  rcases Js.1 hm with rfl|hm
  ·exact h.1
  ·exact LOk.get l h.2 i u' hm
theorem yBc{P:Program}{Γ:Ctx}{E:Env}{G:Gh}{tmps:Array Value}{w:World}(gc:Rep Γ E G tmps w)(x:ResultVar)(s:Nat)(q:List Nat)(t:T)(h:ROk P E x (s,q,t)):
  (zQH tmps x).run P w=.ok (sC G s t q) w∧R Γ.St G w s t q:=by
 cases x with
 |tmp s'=>
  obtain⟨h0,ck,h1,h2⟩:=h;dsimp only at h0 ck h1 h2;subst h0 ck;obtain⟨g1,g2,_⟩:=gc.ent _ _ h1;have gU:∀xs,t≠.tup xs:=by rintro xs rfl;grind[T.okTup]
  refine⟨?_,g2⟩;rw[←zAw G s t [] gU];simp[zQH,Ka,g1]
 |cell a T'=>
  obtain⟨h0,ck,h1,ds,ti,h2,h3,h4,h5⟩:=h;dsimp only at h0 ck h1 h4 h5;subst h0 ck;obtain⟨g1,g2,_⟩:=gc.ent _ _ h1;simp only[R]at g2;obtain⟨b,cs,e,k1,k2,k3,k4,k5,k6⟩:=g2;refine⟨?_,k6⟩;rw[xF rfl,k1]at g1;have h6:=zFv (w:=w) h2 h3 k5 h4 h5;simp[zQH,Ka,g1,asAddr,h6]
theorem zF2{P:Program}{Γ:Ctx}{E:Env}{G:Gh}{tmps:Array Value}{w:World}(gc:Rep Γ E G tmps w):(rs:List ResultVar)→(nd:Nds)→zFI P E rs nd→
  (rs.mapM (zQH tmps)).run P w=.ok (nd.map fun x=>sC G x.1 x.2.2 x.2.1) w∧ ∀x∈nd,R Γ.St G w x.1 x.2.2 x.2.1
 | [],[],_=>by simp
 |x::xs,y::ys,h=>by
  obtain⟨h1,h2⟩:=zF2 gc xs ys h.2;obtain⟨h3,h4⟩:=yBc gc x y.1 y.2.1 y.2.2 h.1
  simp_all
 | [],_::_,h=>by simp[zFI]at h
 |_::_,[],h=>by simp[zFI]at h
theorem FnC.of_body{P:Program}{f:FuncId}{fn:Func}{c:Code}{us res:List T}{rws:List (Nat×T)}(hf:P.funcs[f]? =jq fn)(hb:fn.body=jq c)(hn:us.length≤fn.ntmps)(ht:vV us)(hr:rws.all (fun x=>decide (x.1<us.length))=js)
  (h:∀(Γ:Ctx)(v:Nat→Value),Γ.N=fn.ntmps→CW P Γ (zC6 v (rws.map (·.1))) c (xK (zH6 0 us)) (zYM P fn.results us res rws)):FnC P f us res rws:=by
 intro St W w G vs pu gj gz
 let Γ:Ctx:=⟨St,W,w,fn.ntmps⟩
 let v:Nat→Value:=fun i=>vs.getD i undef
 have hm:Mem Γ G w:=⟨gz.one,gz.lb,gz.ow,gz.st,gz.fr,gz.sz,gz.bk⟩;have gu:(vs++U5 (fn.ntmps-vs.size) undef).size=fn.ntmps:=by simp;omega
 have mQ:Sim Γ (xK (zH6 0 us)) { tmps:=vs++U5 (fn.ntmps-vs.size) undef,defers:=[] } w:=by
  refine⟨rfl,G,gu,?_,hm⟩;intro s t hs;obtain⟨_,h2⟩:=zKv us 0 s t hs;simp only[Nat.sub_zero]at h2;obtain⟨h3,h4⟩:=gj s t h2;have gE:s<vs.size:=by grind
  exact⟨by grind,h4,vV.get us ht s t h2⟩
 have iC:(zC6 v (rws.map (·.1))).Hold { tmps:=vs++U5 (fn.ntmps-vs.size) undef,defers:=[] }:=by
  intro x hx;simp only[zC6,Jh]at hx;obtain⟨i,⟨y,hy,rfl⟩,rfl⟩:=hx;have h1:=Jr.1 hr y hy;simp at h1;have h2:y.1<vs.size:=by omega
  simp[Array.getElem?_append,h2,v]
 refine calls_of_wp hf hb (h Γ v rfl _ _ _ (.of mQ) iC ?_)
 rintro e E' a' w' ⟨he,nd,h1,h2,h3,h4,h5⟩ ⟨S',gS,gJ,G',gc⟩ hp
 obtain⟨g1,g2⟩:=zF2 gc _ _ h1;have gy:(results fn a'.tmps).run P w'=.ok (zKl G' nd) w':=by
  rw[zLY,Array.mapM_eq_mapM_toList];simp only[Sem.run_bind,Sem.run_map,g1];cases nd with
  |nil=>simp[zKl]
  |cons y ys=>
   cases ys with
   |nil=>simp[zKl]
   |cons z zs=>simp[zKl]
 have gM:Mem ⟨S',W,w,0⟩ G' w':=⟨gc.mem.one,gc.mem.lb,gc.mem.ow,gc.mem.st,gc.mem.fr,gc.mem.sz,gc.mem.bk⟩;have bx:bodyPost P fn (fun e w'=> ∃(S':Stb)(G':Gh)(nd:List (Nat×List Nat×T)),zDy St S' W w.heap.size∧e=.returned (zKl G' nd)∧Mem ⟨S',W,w,0⟩ G' w'∧nd.map (·.2.2)=res∧
   (∀x∈nd,R S' G' w' x.1 x.2.2 x.2.1∧us.length≤x.1)∧(nd.map (·.1)).Nodup∧
   ∀i u',(i,u')∈rws→R S' G' w' i u' []∧ ∃u,us[i]? =jq u∧mkV G' i u' []=mkV G i u []) .ret a' w':=by
  refine⟨gJ,_,gy,S',G',nd,gS,rfl,gM,h2,by grind,h4,?_⟩;intro i u' hiu;obtain⟨k1,u,k3⟩:=LOk.get _ h5 i u' hiu;obtain⟨k5,k6,_⟩:=gc.ent i u' k1;refine⟨k6,u,k3,?_⟩;have k7:=hp (i,v i) (by simp only[zC6,Jh];grind);have k8:=(gj i u k3).1;rw[k5]at k7;simp[v,Ka,k8]at k7;exact k7
 rcases he with rfl|rfl<;>exact bx
end Go.Ab

namespace Go.Ab
open Go
mutual
def vQ:T→T
 |.sl k xs=>.ro (strip (.sl k xs))
 |.ptr t=>.ro (strip (.ptr t))
 |.agg xs=>.agg (uI xs)
 |.tup xs=>.tup (uI xs)
 |.any=>.any
 |.lit v=>.lit v
 |.ro t=>.ro t
 |.same r p=>.same r p
 |.addr r p=>.addr r p
 |.sub r p k lo hi=>.sub r p k lo hi
 |.mp _ _=>.any
def uI:List T→List T
 | []=>[]
 |x::xs=>vQ x::uI xs
end
mutual
theorem zQI(G:Gh)(s:Nat):(t:T)→ ∀p,vals G s (vQ t) p=vals G s t p
 |.agg xs,p=>by simp only[vQ,vals];exact zDg G s xs p 0
 |.sl _ _,_|.ptr _,_|.mp _ _,_|.tup _,_|.any,_|.lit _,_|.ro _,_|.same _ _,_|.addr _ _,_|.sub _ _ _ _ _,_=>by rfl
theorem zDg(G:Gh)(s:Nat):(xs:List T)→ ∀p j,yJ G s (uI xs) p j=yJ G s xs p j
 | [],_,_=>by rfl
 |x::xs,p,j=>by simp only[uI,yJ,zQI G s x,zDg G s xs]
end
theorem zQJ(G:Gh)(s:Nat)(t:T)(p:List Nat):sC G s (vQ t) p=sC G s t p:=by cases t<;>simp only[vQ,sC,zDg]
theorem zKw(G:Gh)(s:Nat):(xs:List T)→ ∀p j,kM G s (uI xs) p j=kM G s xs p j
 | [],_,_=>by rfl
 |x::xs,p,j=>by simp only[uI,kM,zQJ,zKw G s xs]
theorem zTM(G:Gh)(s:Nat)(t:T)(p:List Nat):mkV G s (vQ t) p=mkV G s t p:=by cases t<;>simp only[vQ,mkV,zDg,zKw]
mutual
theorem zKx:(t:T)→Top t→Top (vQ t)
 |.agg xs,h|.tup xs,h=>by simp only[vQ,Top]at h ⊢;exact zHR xs h
 |.sl _ _,_|.ptr _,_|.mp _ _,_|.any,_|.lit _,_|.ro _,_|.same _ _,_|.addr _ _,_|.sub _ _ _ _ _,_=>by simp only[vQ,Top]
theorem zHR:(xs:List T)→vV xs→vV (uI xs)
 | [],_=>by grind[uI]
 |x::xs,h=>by simp only[uI,vV]at h ⊢;exact⟨zKx x h.1,zHR xs h.2⟩
end
section
variable {St Sc:Stb}{G G':Gh}{w:World}{s:Nat} (gn:∀s p,(G.hd s p).oneCell'=js) (ee:∀b x,St b=jq x→Sc b=jq x) (ef:∀b,(∃y,G.ow b=jq (s,y))→Sc b=w.heap[b]?) (gF:∀s z,G'.hd s z=G.hd s z) (fb:∀s z,G'.ad s z=G.ad s z)
 include gn ee ef gF fb
mutual
theorem zWm:(t:T)→ ∀(p:List Nat),R St G w s t p→R Sc G' w s (vQ t) p
 |.agg xs,p,hr|.tup xs,p,hr=>by simp only[vQ,R]at hr ⊢;exact zQK xs p 0 hr
 |.sl k xs,p,hr=>by have:=zKp gn ee ef (.sl k xs) p rfl hr;simp only[vQ,R,gF];exact this
 |.ptr t,p,hr=>by have:=zKp gn ee ef (.ptr t) p rfl hr;simp only[vQ,R,gF];exact this
 |.ro u,p,hr=>by simp only[vQ,R,gF]at hr ⊢;grind[uN]
 |.mp _ _,_,_=>by simp only[vQ,R]
 |.any,_,_=>by simp only[vQ,R]
 |.lit _,_,hr|.same _ _,_,hr|.sub _ _ _ _ _,_,hr=>by simp only[vQ,R,gF]at hr ⊢;exact hr
 |.addr _ _,_,hr=>by simp only[vQ,R,gF,fb]at hr ⊢;exact hr
theorem zQK:(xs:List T)→ ∀(p:List Nat)(j:Nat),RF St G w s xs p j→RF Sc G' w s (uI xs) p j
 | [],_,_,_=>by have _:=gn;have _:=ee;have _:=ef;have _:=gF;have _:=fb;simp only[uI,RF]
 |x::xs,p,j,hr=>by simp only[uI,RF]at hr ⊢;exact⟨zWm x _ hr.1,zQK xs p (j+1) hr.2⟩
end
end
theorem zE.freeze{Γ:Ctx}{E:Env}(s:Nat)(t:T)(hs:E s=jq t):zE Γ E (E.app [(s,jq (vQ t))] [(s,1)]):=by
 classical
 rintro a w ⟨S,hS,gJ,G,gc⟩
 have hm:=gc.mem
 let own:Nat→Prop:=fun b=> ∃y,G.ow b=jq (s,y)
 let Sc:Stb:=fun b=>if own b then w.heap[b]? else S b
 let G':Gh:={ hd:=G.hd,ad:=G.ad,lb:=fun b o=>if own b then jr else G.lb b o,ow:=fun b=>if own b then jr else G.ow b }
 have eH:∀b x,S b=jq x→Sc b=jq x:=fun b x hx=>by
  have:¬own b:=by
   rintro⟨y,hy⟩
   have:=(hm.ow b _ hy).2.2
   grind
  grind
 have aQ:zDy S Sc Γ.W Γ.w0.heap.size:=⟨eH,fun b hb eh=>by
  by_cases h:own b
  ·obtain⟨y,hy⟩:=h
   exact(hm.ow b _ hy).2.1
  grind⟩
 have gz:Mem ((Γ.at S).at Sc) G' w:=by
  refine⟨hm.one,fun b o l hl=>?_,fun b l hl=>?_,fun b x hx=>?_,hm.fr,hm.sz,hm.bk⟩
  ·by_cases h:own b
   ·grind
   ·simp only[G',h,if_false]at hl
    have:=hm.lb b o l hl;exact⟨this.1,this.2.1,by simp only[Sc,h,if_false];exact this.2.2⟩
  ·by_cases h:own b
   ·grind
   ·simp only[G',h,if_false]at hl
    have:=hm.ow b l hl;exact⟨this.1,this.2.1,by simp only[Sc,h,if_false];exact this.2.2⟩
  ·by_cases h:own b
   ·grind
   ·simp only[Sc,h,if_false]at hx;exact hm.st b x hx
 have gw:sG [(s,1)] G w G' w:=by
  have aE:∀b s0 y,G.ow b=jq (s0,y)→(∀n,(s0,n)∉([(s,1)]:Chg))→ ¬own b:=by grind
  refine⟨fun _ _ _=>rfl,fun _ _ _=>rfl,by grind,by grind,fun b cs e h=>⟨cs,h,rfl⟩,by intros;assumption⟩
  all_goals grind
 obtain⟨e1,e2,e3⟩:=gc.ent s t hs;refine⟨Sc,hS.trans aQ,gJ,G',gc.up eH rfl gw gz (fun s0 h0=>⟨fun n hn=>?_,rfl⟩) (fun s0 t0 h0=>?_)⟩
 ·grind[uL]
 ·rw[uL]at h0
  split at h0
  ·rename_i he;subst he
   simp at h0;subst h0;have hR:=zWm (G':=G') hm.one eH (fun b hb=>by grind) (fun _ _=>rfl) (fun _ _=>rfl) t [] e2;refine⟨?_,hR,zKx t e3⟩;rw[e1];have h1:mkV G' s (vQ t) []=mkV G s (vQ t) []:=zEN _ _ _ (fun _=>rfl);rw[h1,zTM]
  ·cases h0
end Go.Ab

namespace Go.Ab
open Go
abbrev zBE:=List (Wr×Chg)
def Env.apps(E:Env)(l:zBE):Env:=l.foldl (fun E x=>E.app x.1 x.2) E
structure Stp where
 rd:List (Nat×T)
 l:zBE
def sQ(wr:Wr):List Nat:=wr.map (·.1)
def Stp.slots(X:Stp):List Nat:=X.l.flatMap fun x=>sQ x.1
def oOk(chg:Chg):Option T→Bool
 |none=>js
 |some t=>t.okB chg
def zLZ(chg:Chg)(wr:Wr):Bool:=wr.all fun x=>oOk chg x.2
def zOO(a b:List Nat):Bool:=a.all fun x=> !b.contains x
def zEV(a b:zBE):Bool:=a.all fun x=>b.all fun y=>zOO (sQ x.1) (sQ y.1)&&zLZ y.2 x.1&&zLZ x.2 y.1
def Stp.apart(a b:Stp):Bool:=zEV a.l b.l&&zOO a.slots (b.rd.map (·.1))&&zOO b.slots (a.rd.map (·.1))&&a.rd.all fun x=>b.l.all fun y=>x.2.okB y.2
theorem zEW{wr:Wr}{s:Nat}(h:s∉sQ wr):wr.find s=jr:=by
 induction wr with
 |nil=>rfl
 |cons x wr ih=>
  simp only[sQ,Jm,Js,not_or]at h;simp only[Wr.find,Ne.symm h.1,if_false];exact ih h.2
theorem zHS{wr:Wr}{s:Nat}{x:Option T}(h:wr.find s=jq x):s∈sQ wr∧ ∃y∈wr,y.2=x:=by
 induction wr with
 |nil=>grind[Wr.find]
 |cons y wr ih=>
  grind[Wr.find,sQ]
theorem zG8{a b:List Nat}(h:zOO a b=js){s:Nat}(hs:s∈a):s∉b:=by
 have:=Jr.1 h s hs
 grind
theorem zQL(E:Env)(w1 w2:Wr)(c1 c2:Chg)(h:zOO (sQ w1) (sQ w2)=js)(h1:zLZ c2 w1=js)(h2:zLZ c1 w2=js):
  (E.app w1 c1).app w2 c2=(E.app w2 c2).app w1 c1:=by
 funext s
 have ok:∀{c:Chg}{w:Wr}{s:Nat}{x:Option T},zLZ c w=js→w.find s=jq x→(match x with|some t=>if t.okB c then jq t else jr|none=>jr)=x:=by
  intro c w s x hw hf;obtain⟨_,y,hy,rfl⟩:=zHS hf;have:=Jr.1 hw y hy
  grind[oOk]
 unfold Env.app;cases hf1:w1.find s with
 |some x=>
  grind[zEW,zG8,zHS]
 |none=>
  grind
theorem zD6(w:Wr)(c:Chg):∀(l:zBE)(E:Env),(∀y∈l,zOO (sQ w) (sQ y.1)=js∧zLZ y.2 w=js∧zLZ c y.1=js)→(E.app w c).apps l=(E.apps l).app w c
 | [],E,_=>rfl
 |y::l,E,h=>by obtain⟨h1,h2,h3⟩:=h y (by simp);show((E.app w c).app y.1 y.2).apps l=_;rw[zQL E w y.1 c y.2 h1 h2 h3];exact zD6 w c l _ (by grind)
theorem zHT:∀(l1 l2:zBE)(E:Env),zEV l1 l2=js→(E.apps l1).apps l2=(E.apps l2).apps l1
 | [],l2,E,_=>rfl
 |x::l1,l2,E,h=>by simp only[zEV,Q4,J3]at h;show((E.app x.1 x.2).apps l1).apps l2=((E.apps l2).app x.1 x.2).apps l1;rw[zHT l1 l2 _ (by grind[zEV]),zD6 x.1 x.2 l2 E (by grind)]
def runD:Env→List (Bool×Stp)→Env
 |E,[]=>E
 |E,(b,X)::l=>runD (if b then E.apps X.l else E) l
theorem zAz:∀(l1 l2:List (Bool×Stp))(E:Env),runD E (l1++l2)=runD (runD E l1) l2
 | [],_,_=>rfl
 |(b,X)::l1,l2,E=>by simp only[G5,runD];exact zAz l1 l2 _
theorem zEX:∀(l:List (Bool×Stp))(X:Stp)(E:Env),(∀y∈l,y.1=js→zEV X.l y.2.l=js)→runD (E.apps X.l) l=(runD E l).apps X.l
 | [],_,_,_=>rfl
 |(b,Y)::l,X,E,h=>by
  simp only[runD];cases b with
  |false=>exact zEX l X E (by grind)
  |true=>
   have:=h (js,Y) (by simp) rfl;simp only[if_true];rw[zHT X.l Y.l E this];exact zEX l X _ (by grind)
theorem zG9{s:Nat}:∀(l:zBE)(E:Env),s∉l.flatMap (fun x=>sQ x.1)→ ∀t,(E.apps l) s=jq t→E s=jq t
 | [],_,_,_,h=>h
 |x::l,E,hs,t,h=>by
  simp only[La,K4,not_or]at hs;have:=zG9 l (E.app x.1 x.2) hs.2 t h
  grind[Env.app,zEW]
theorem zHU{s:Nat}{t:T}:∀(l:zBE)(E:Env),s∉l.flatMap (fun x=>sQ x.1)→(∀y∈l,t.okB y.2=js)→E s=jq t→(E.apps l) s=jq t
 | [],_,_,_,h=>h
 |x::l,E,hs,gD,h=>by
  simp only[La,K4,not_or]at hs;refine zHU l (E.app x.1 x.2) hs.2 (by grind) ?_
  grind[Env.app,zEW]
theorem zHV{s:Nat}:∀(l:zBE)(E1 E2:Env),(∀t,E2 s=jq t→E1 s=jq t)→ ∀t,(E2.apps l) s=jq t→(E1.apps l) s=jq t
 | [],_,_,h,t,ht=>h t ht
 |x::l,E1,E2,h,t,ht=>by
  refine zHV l (E1.app x.1 x.2) (E2.app x.1 x.2) (fun u hu=>?_) t ht
  grind[Env.app]
theorem zHW{s:Nat}:∀(l:List (Bool×Stp))(E1 E2:Env),(∀y∈l,y.1=jt→s∉y.2.slots)→(∀t,E2 s=jq t→E1 s=jq t)→
  ∀t,runD E2 (l.map fun y=>(js,y.2)) s=jq t→runD E1 l s=jq t
 | [],_,_,_,h,t,ht=>h t ht
 |(b,X)::l,E1,E2,hl,h,t,ht=>by
  simp only[Jm,runD,if_true]at ht ⊢
  refine zHW l _ _ (by grind) (fun u hu=>?_) t ht;cases b with
  |true=>grind[zHV]
  |false=>exact h u (zG9 X.l E2 (hl (jt,X) (by simp) rfl) u hu)
theorem zHX{s:Nat}{t:T}:∀(l:List (Bool×Stp))(E:Env),(∀y∈l,y.1=js→s∉y.2.slots∧ ∀z∈y.2.l,t.okB z.2=js)→E s=jq t→runD E l s=jq t
 | [],_,_,h=>h
 |(b,X)::l,E,hl,h=>by
  simp only[runD];refine zHX l _ (fun y hy=>hl y (by simp[hy])) ?_;cases b with
  |false=>exact h
  |true=>obtain⟨h1,h2⟩:=hl (js,X) (by simp) rfl;exact zHU X.l E h1 h2 h
theorem Env.Has.of{E E':Env}:{l:List (Nat×T)}→E.Has l→(∀s t,(s,t)∈l→E s=jq t→E' s=jq t)→E'.Has l
 | [],_,_=>trivial
 |(s,t)::l,h,h'=>⟨h' s t (by simp) h.1,Env.Has.of h.2 fun s t hm=>h' s t (by simp[hm])⟩
end Go.Ab

namespace Go.Ab
open Go
def zBF(o:Oper):List Nat:=(o.after.toList.filter (Region.binds .any)).map (·.on)
def zBt:Nat→List Oper→Bool
 |_,[]=>js
 |i,o::os=>((zBF o).all fun m=>decide (m<i))&&zBt (i+1) os
def zAN(an:List (List Nat)):List (List Nat)→List Oper→Bool
 | [],_=>js
 |_::_,[]=>jt
 |l::ls,o::os=>(l.all fun k=>(zBF o).contains k||(zBF o).any fun m=>(an.getD m []).contains k)&&zAN an ls os
def kS(Xs:List Stp):Nat→List (List Nat)→List Stp→Bool
 |_,_,[]=>js
 |j,an,Y::Ys=>((Ju j).all fun i=>(an.headD []).contains i||match Xs[i]? with
   |some X=>X.apart Y
   |none=>js)&&kS Xs (j+1) an.tail Ys
theorem zFQ:∀(os:List Oper)(i0 j:Nat)(o:Oper),zBt i0 os=js→os[j]? =jq o→ ∀m∈zBF o,m<i0+j
 | [],_,j,_,_,h=>by simp at h
 |x::os,i0,j,o,hf,h=>by
  simp only[zBt,J3]at hf;cases j with
  |zero=>
   grind
  |succ j=>
   intro m hm;have:=zFQ os (i0+1) j o hf.2 (by grind) m hm;omega
theorem zJi(an:List (List Nat)):∀(ls:List (List Nat))(os:List Oper)(j:Nat)(l:List Nat),zAN an ls os=js→ls[j]? =jq l→ ∃o,os[j]? =jq o∧ ∀k∈l,k∈zBF o∨ ∃m∈zBF o,k∈an.getD m []
 | [],_,j,_,_,h=>by simp at h
 |_::_,[],_,_,h,_=>by grind[zAN]
 |x::ls,o::os,j,l,ha,h=>by
  simp only[zAN,J3]at ha;cases j with
  |zero=>
   simp_all
  |succ j=>
   obtain⟨o',h1,h2⟩:=zJi an ls os j l ha.2 (by grind)
   grind
theorem zEY(Xs:List Stp):∀(Ys:List Stp)(j0:Nat)(an:List (List Nat))(j:Nat)(Y:Stp),kS Xs j0 an Ys=js→Ys[j]? =jq Y→ ∀i X,i<j0+j→Xs[i]? =jq X→i∈an.getD j []∨X.apart Y=js
 | [],_,_,j,_,_,h=>by simp at h
 |Z::Ys,j0,an,j,Y,hp,h=>by
  simp only[kS,J3]at hp;intro i X hi hX;cases j with
  |zero=>
   simp at h;subst h;have:=Jr.1 hp.1 i (by grind);simp only[hX,Bool.or_eq_true,Lg,decide_eq_true_eq]at this;rcases this with h|h
   ·left
    cases an with
    |nil=>simp at h
    |cons l an=>grind
   grind
  |succ j=>
   rcases zEY Xs Ys (j0+1) an.tail j Y hp.2 (by grind) i X (by omega) hX with h|h
   all_goals grind
section
variable {P:Program}{Γ:Ctx}{pn:sJ}{ops:Array Oper}
def zQM(ops:Array Oper)(L:List Bool):Prop:=∀(i:Nat)(o:Oper),ops[i]? =jq o→L[i]? =jq js→ ∀m∈zBF o,L[m]? =jq js
theorem zGA{L:List Bool}{an:List (List Nat)}(hf:zBt 0 ops.toList=js)(ha:zAN an an ops.toList=js)(hc:zQM ops L):
  ∀(n i:Nat),i≤n→ ∀o,ops[i]? =jq o→(∀m∈zBF o,L[m]? =jq js)→ ∀k∈an.getD i [],L[k]? =jq js:=by
 intro n
 induction n with
 |zero=>
  intro i hi o ho hp k hk;have iU:i=0:=by omega
  subst iU;cases hl:an[0]? with
  |none=>grind
  |some l=>
   obtain⟨o',h1,h2⟩:=zJi an an ops.toList 0 l ha hl;rw[K6,ho]at h1;simp at h1;subst h1;simp only[Uc,hl,Kr]at hk;rcases h2 k hk with h|⟨m,h,_⟩
   ·grind
   ·have:=zFQ ops.toList 0 0 o hf (by grind) m h
    omega
 |succ n ih=>
  intro i hi o ho hp k hk;cases hl:an[i]? with
  |none=>grind
  |some l=>
   obtain⟨o',h1,h2⟩:=zJi an an ops.toList i l ha hl;rw[K6,ho]at h1;simp at h1;subst h1;simp only[Uc,hl,Kr]at hk;rcases h2 k hk with h|⟨m,h,hkm⟩
   ·grind
   ·have gE:=zFQ ops.toList 0 i o hf (by grind) m h
    have hLm:=hp m h;cases du:ops[m]? with
    |none=>
     grind
    |some om=>exact ih m (by omega) om du (hc m om du hLm) k hkm
theorem zHY{L:List Bool}{Xs:List Stp}{i:Nat}{b:Bool}{X:Stp}(hL:L[i]? =jq b)(hX:Xs[i]? =jq X):L.zip Xs=(L.take i).zip (Xs.take i)++(b,X)::(L.drop (i+1)).zip (Xs.drop (i+1)):=by
 have h1:L=L.take i++b::L.drop (i+1):=by obtain⟨h,rfl⟩:=Ja.1 hL;simp
 have h2:Xs=Xs.take i++X::Xs.drop (i+1):=by obtain⟨h,rfl⟩:=Ja.1 hX;simp
 grind[List.zip_cons_cons]
theorem zJj{L:List Bool}{Xs:List Stp}{y:Bool×Stp}(h:y∈L.zip Xs):∃j:Nat,L[j]? =jq y.1∧Xs[j]? =jq y.2:=by grind[Uu,List.getElem?_zip_eq_some]
def sS:Env→List Stp→Prop
 |_,[]=>True
 |E,X::Xs=>E.Has X.rd∧sS (E.apps X.l) Xs
theorem sS.get:∀(Xs:List Stp)(E:Env),sS E Xs→ ∀(i:Nat)(X:Stp),Xs[i]? =jq X→(runD E ((Xs.take i).map fun y=>(js,y))).Has X.rd
 | [],_,_,i,_,h=>by simp at h
 |Y::Xs,E,hh,i,X,h=>by
  cases i with
  |zero=>simp at h;subst h;simpa[runD]using hh.1
  |succ i=>
   have:=sS.get Xs _ hh.2 i X (by grind)
   grind[runD]
theorem Stp.apart_spec{a b:Stp}(h:a.apart b=js):zEV a.l b.l=js∧(∀s∈a.slots,s∉b.rd.map (·.1))∧(∀s∈b.slots,s∉a.rd.map (·.1))∧ ∀x∈a.rd,∀y∈b.l,x.2.okB y.2=js:=by simp only[Stp.apart,J3]at h;refine⟨h.1.1.1,by grind[zG8],by grind[zG8],fun x hx y hy=>?_⟩;exact Jr.1 (Jr.1 h.2 x hx) y hy
mutual
theorem zFR:(t:T)→t.okB []=js
 |.same _ _|.addr _ _|.sub _ _ _ _ _=>by rfl
 |.agg xs|.tup xs=>by simp only[T.okB];exact zKy xs
 |.any|.lit _|.ro _|.sl _ _|.ptr _|.mp _ _=>by rfl
theorem zKy:(xs:List T)→zJV [] xs=js
 | []=>by rfl
 |x::xs=>by simp only[zJV,zFR x,zKy xs,Ll]
end
theorem Rep.heap{E:Env}{G:Gh}{tmps:Array Value}{w w':World}(h:Rep Γ E G tmps w)(hw:w'.heap=w.heap)(ho:w'.os=w.os:=by rfl)(hq:w'.output=w.output:=by rfl):Rep Γ E G tmps w' where
 size:=h.size
 ent s t hs:=Ent.keep (chg:=[]) ⟨fun _ _ _=>rfl,fun _ _ _=>rfl,by grind[yQ,World.cell?],fun _ _ _ h _=>h,fun b cs e h=>⟨cs,by grind,rfl⟩,fun b _ _ ms c _ _ h=>by grind⟩ (by simp) (zFR t) (h.ent s t hs)
 mem:=by
  have hm:=h.mem;exact⟨hm.one,fun b o l hl=>by have:=hm.lb b o l hl;exact⟨by rw[hw];exact this.1,this.2⟩,fun b l hl=>by have:=hm.ow b l hl;exact⟨by rw[hw];exact this.1,this.2⟩,
   fun b x hx=>by rw[hw];exact hm.st b x hx,fun b h1 h2=>by rw[hw];exact hm.fr b h1 h2,by rw[hw];exact hm.sz,hm.bk.trans (fun b cs e hb=>⟨cs,by grind,rfl⟩) ho hq⟩
end
end Go.Ab

namespace Go.Ab
open Go
abbrev I(n:Int):T:=.lit (.int .i64 n)
abbrev B(b:Bool):T:=.lit (.bool b)
abbrev L{α:Type}(k:Nat)(f:α→T)(xs:List α):T:=.sl k (xs.map f)
theorem zP{P:Program}{t:TypeId}{ti:TypeInfo}(h:P.types[t]? =jq ti):P.info? t=jq ti:=by grind[Tables.info?]
def Ok(P:Program)(Γ:Ctx)(o:Oper)(E E':Env):Prop:=∀S,wC P (Γ.at S) o E E'
section
variable {P:Program}{Γ:Ctx}{pn:sJ}{ops:Array Oper}{o:Oper}{os:List Oper}{E E':Env}{Q:Exit→Env→Prop}{d:Nat}
theorem RW.op(h:Ok P Γ o E E')(k:RW P Γ pn ops os E' Q)(hg:o.guard=jr:=by rfl)(hp:pn.ok o.dst=js:=by rfl):RW P Γ pn ops (o::os) E Q:=RW.cons (yT.op h hg) k hp
def neD(x:Operand)(d:Nat):Bool:=match x with
 |.tmp s=>s != d
 |_=>js
theorem zEr{x:Operand}{d:Nat}(h:neD x d=js):∀s,x=.tmp s→s≠d:=by rintro s rfl;grind[neD]
theorem zBG{t:T}(h:t.okTup=js):∀xs,t≠.tup xs:=by rintro xs rfl;grind[T.okTup]
abbrev mvB(Γ:Ctx)(x:Operand)(t:T)(d:Nat):Bool:=J5 d Γ.N&&t.okTup&&neD x d&&T.okB [(d,0)] (uY x t)
section
variable {x y:Operand}{t:T}{ty:TypeId}{ps:String}{af:Array Edge}{gd:Option (Nat×Bool)}
theorem yE{a b:Nat}(h:J5 a b=js):a<b:=by grind[Nat.blt_eq]
theorem zMa(hx:opT E x=jq t)(sd:mvB Γ x t d=js):Ok P Γ ⟨jq d,.move x,ty,ps,af,gd⟩ E (E.app [(d,jq (uY x t))] [(d,0)]):=by simp only[mvB,J3]at sd;exact fun S=>zNu x t (.inl rfl) rfl (yE sd.1.1.1) hx (zBG sd.1.1.2) (zEr sd.1.2) sd.2
theorem zTN(hx:opT E x=jq t)(sd:mvB Γ x t d=js):Ok P Γ ⟨jq d,.assign x,ty,ps,af,gd⟩ E (E.app [(d,jq (uY x t))] [(d,0)]):=by simp only[mvB,J3]at sd;exact fun S=>zNu x t (.inr rfl) rfl (yE sd.1.1.1) hx (zBG sd.1.1.2) (zEr sd.1.2) sd.2
def inR(n:Int):Bool:=decide (-9223372036854775808≤n)&&decide (n≤9223372036854775807)
theorem zBH{n:Int}(h:inR n=js):IntKind.i64.wrap n=n:=by
 simp only[inR,J3,decide_eq_true_eq]at h;have hb:IntKind.i64.bits=64:=rfl;have hs:IntKind.i64.signed=js:=rfl;simp only[IntKind.wrap,hb,hs,Bool.true_and]
 grind
def rng(n:Int):Option Int:=if inR n then jq n else jr
theorem zC7{n m:Int}(h:rng n=jq m):m=n∧inR n=js:=by grind[rng]
theorem zQN{m n c:Int}{xt yt:TypeId}(hv:rng (m+n)=jq c)(hx:opT E x=jq (I m))(hy:opT E y=jq (I n))(sd:J5 d Γ.N=js):Ok P Γ ⟨jq d,.binOp .add xt x y yt,ty,ps,af,gd⟩ E (E.app [(d,jq (I c))] [(d,0)]):=by obtain⟨rfl,h⟩:=zC7 hv;exact fun S=>uF .add xt yt x y .i64 m n _ rfl rfl (yE sd) hx hy (by grind[zIR,zBH])
theorem zWn{m n:Int}{xt yt:TypeId}(hx:opT E x=jq (I m))(hy:opT E y=jq (I n))(sd:J5 d Γ.N=js):Ok P Γ ⟨jq d,.binOp .lss xt x y yt,ty,ps,af,gd⟩ E (E.app [(d,jq (B (decide (m<n))))] [(d,0)]):=
 fun _S=>uF .lss xt yt x y .i64 m n _ rfl rfl (yE sd) hx hy rfl
theorem zAH(k:Nat)(sd:J5 d Γ.N=js):Ok P Γ ⟨jq d,.assign (.const (.slice jr 0 0)),ty,ps,af,gd⟩ E (E.app [(d,jq (.sl k []))] [(d,0)]):=
 fun _=>zKc k _ (.inr rfl) rfl rfl (yE sd)
def yH(n:Int):Option Nat:=if 0≤n∧n≤68719476736 then jq n.toNat else jr
theorem zGB{n:Int}{m:Nat}(h:yH n=jq m):n=(m:Int)∧m≤68719476736:=by grind[yH]
class ElT (P:Program) (t:TypeId) (e:outParam TypeId) (ti:outParam TypeInfo) (k:outParam Nat) (u:outParam T):Prop where
 un:P.underlying t=jq (.slice e)
 info:P.info? e=jq ti
 zero:∃z,ti.zero=jq z∧tQ u=z.cells.toList
 size:ti.size=k
 pos:0<k
 zok:u.zOk=js
 us:u.size=k
 bytes:ti.bytes≤2048
theorem zQO{t e:TypeId}{ti:TypeInfo}{k:Nat}{u:T}{n m:Nat}{a b:Int}(ht:ElT P t e ti k u)(hn:yH a=jq n)(hx:opT E x=jq (I a))(hm:yH b=jq m)(hy:opT E y=jq (I b))(cu:n≤m)(sd:J5 d Γ.N=js):
  Ok P Γ ⟨jq d,.makeSlice t x y,ty,ps,af,gd⟩ E (E.app [(d,jq (.sl k (J1 n u)))] [(d,0)]):=by
 obtain⟨rfl,h1⟩:=zGB hn;obtain⟨rfl,h2⟩:=zGB hm;obtain⟨z,hz,hv⟩:=ht.zero;exact fun S=>zTH t e ti z u k x y n m .i64 .i64 rfl rfl (yE sd) ht.un ht.info hz ht.size ht.pos ht.zok hv ht.us (Ko ht.bytes (by decide)) hx hy cu h2
end
end
end Go.Ab

namespace Go.Ab
open Go
def ixO{α:Type}(xs:List α)(i:Int):Option α:=if 0≤i then xs[i.toNat]? else jr
theorem uA{α:Type}{xs:List α}{i:Int}{v:α}(h:ixO xs i=jq v):0≤i∧xs[i.toNat]? =jq v:=by grind[ixO]
def zAO:T→Bool
 |.same _ _=>jt
 |_=>js
theorem kG{E:Env}{s r:Nat}{q:List Nat}{t u:T}(h1:E s=jq (.same r q))(h2:E r=jq t)(h3:t.get q.reverse=jq u)(h4:zAO u=js):uJ E (.tmp s)=jq (r,q,u):=by
 have hg:∀t:T,t.get []=jq t:=fun t=>by rfl
 grind[zAO,uJ,qU]
theorem wU{E:Env}{s:Nat}{t:T}(h1:E s=jq t)(h4:zAO t=js):uJ E (.tmp s)=jq (s,[],t):=by
 have hg:∀t:T,t.get []=jq t:=fun t=>by rfl
 grind[zAO,uJ,qU]
section
variable {P:Program}{Γ:Ctx}{E:Env}{d:Nat}{x y:Operand}{ty:TypeId}{ps:String}{af:Array Edge}{gd:Option (Nat×Bool)}
class zBk (P:Program) (t:TypeId) (e:outParam TypeId) (ti:outParam TypeInfo) (k:outParam Nat):Prop where
 un:P.underlying t=jq (.slice e)
 info:P.info? e=jq ti
 size:ti.size=k
theorem zYN{α:Type}{t e:TypeId}{ti:TypeInfo}{r k:Nat}{q:List Nat}{f:α→T}{xs:List α}{v:α}{i:Int}(ht:zBk P t e ti k)(hv:ixO xs i=jq v)(hx:uJ E x=jq (r,q,L k f xs))(hy:opT E y=jq (I i))(sd:J5 d Γ.N=js):
  Ok P Γ ⟨jq d,.indexAddr t x y,ty,ps,af,gd⟩ E (E.app [(d,jq (.addr r (i.toNat::q)))] [(d,0)]):=by
 obtain⟨h1,h2⟩:=uA hv;exact fun S=>zQu x y t e ti r q k _ .i64 i rfl rfl (yE sd) ht.un ht.info ht.size hx hy h1 (by grind)
theorem zWo{α:Type}{t e:TypeId}{ti:TypeInfo}{r k:Nat}{q:List Nat}{f:α→T}{xs:List α}{v:α}{i:Int}(ht:zBk P t e ti k)(hv:ixO xs i=jq v)(hx:uJ E x=jq (r,q,.ro (L k f xs)))(hy:opT E y=jq (I i))(sd:J5 d Γ.N=js):
  Ok P Γ ⟨jq d,.indexAddr t x y,ty,ps,af,gd⟩ E (E.app [(d,jq (.ro (.ptr (f v))))] [(d,0)]):=by
 obtain⟨h1,h2⟩:=uA hv;exact fun S=>zQv x y t e ti r q k _ .i64 i _ rfl rfl (yE sd) ht.un ht.info ht.size hx hy h1 (by simp[h2])
theorem zWp{α:Type}{t e:TypeId}{r k:Nat}{q:List Nat}{f:α→T}{xs:List α}(hu:P.underlying t=jq (.slice e))(hx:uJ E x=jq (r,q,L k f xs))(sd:J5 d Γ.N=js):
  Ok P Γ ⟨jq d,.call { callee:=.builtin .len,args:=#[x],argTypes:=#[t] },ty,ps,af,gd⟩ E (E.app [(d,jq (I xs.length))] [(d,0)]):=
 fun _=>zQt x t _ r q (L k f xs) xs.length rfl rfl (yE sd) hu hx (by simp[zJW]) rfl
theorem zQP{α:Type}{t e:TypeId}{r k:Nat}{q:List Nat}{f:α→T}{xs:List α}(hu:P.underlying t=jq (.slice e))(hx:uJ E x=jq (r,q,.ro (L k f xs)))(sd:J5 d Γ.N=js):
  Ok P Γ ⟨jq d,.call { callee:=.builtin .len,args:=#[x],argTypes:=#[t] },ty,ps,af,gd⟩ E (E.app [(d,jq (I xs.length))] [(d,0)]):=
 fun _=>zQt x t _ r q (.ro (L k f xs)) xs.length rfl rfl (yE sd) hu hx (by simp[zJW]) rfl
structure zQQ (P:Program) (t:TypeId) (u:T):Prop where
 h:∃ds ti,P.underlying t=jq ds∧P.info? t=jq ti∧zGm ds= !u.single∧ti.size=u.size
theorem zYO{t:TypeId}{u:T}(ht:zQQ P t u)(hx:opT E x=jq (.ro (.ptr u)))(sd:J5 d Γ.N=js):Ok P Γ ⟨jq d,.load t x,ty,ps,af,gd⟩ E (E.app [(d,jq (roT u))] [(d,0)]):=by obtain⟨ds,ti,h1,h2,h3,h4⟩:=ht.h;exact fun S=>zLT x t ds ti u rfl rfl (yE sd) h1 h2 h3 h4 hx
theorem yBd{t:TypeId}{u tr:T}{r:Nat}{q:List Nat}(ht:zQQ P t u)(hx:opT E x=jq (.addr r q))(hr:E r=jq tr)(hg:tr.get q.reverse=jq u)(sd:(J5 d Γ.N&&tr.locd q.reverse&&(r != d)&&T.okB [(d,0)] (cpT r u q))=js):
  Ok P Γ ⟨jq d,.load t x,ty,ps,af,gd⟩ E (E.app [(d,jq (cpT r u q))] [(d,0)]):=by
 obtain⟨ds,ti,h1,h2,h3,h4⟩:=ht.h;simp only[J3]at sd;exact fun S=>zTG x t ds ti r q tr u rfl rfl (yE sd.1.1.1) h1 h2 h3 h4 hx hr hg sd.1.1.2 (by grind) sd.2
end
end Go.Ab

namespace Go.Ab
open Go
section
variable {P:Program}{Γ:Ctx}{E:Env}{x:Operand}{ty:TypeId}{ps:String}{af:Array Edge}{gd:Option (Nat×Bool)}
theorem yCi{t:TypeId}{ti:TypeInfo}{r s:Nat}{q:List Nat}{tr tr' u0:T}{v:Value}(hi:P.info? t=jq ti)(gu:ti.size=1)(hx:opT E x=jq (.addr r q))(hr:E r=jq tr)(hg:tr.get q.reverse=jq u0)(gm:tr.set q.reverse (.lit v)=tr')(hy:E s=jq (.lit v))
  (sd:(tr.single&&tr.locd q.reverse&&vB (.lit v) u0&&(r != s))=js):Ok P Γ ⟨jr,.store t x (.tmp s),ty,ps,af,gd⟩ E (E.app [(r,jq tr')] [(r,q.length)]):=by
 simp only[J3]at sd;subst gm;intro S;have:=zKf (P:=P) (Γ:=Γ.at S) (E:=E) (o:=⟨jr,.store t x (.tmp s),ty,ps,af,gd⟩) t ti x (.tmp s) r q tr u0 (.slot s (.lit v)) rfl rfl hi (by rw[gu];rfl) (by omega) hx hr sd.1.1.1 hg sd.1.1.2 sd.1.2 (.slot s _)
  ⟨fun s' t' h=>by simp at h;obtain⟨rfl,rfl⟩:=h;exact⟨hy,by simp[zZ,xC],rfl⟩,by simp,by simp[xT,sH]⟩
 exact this
theorem zYP{t:TypeId}{ti:TypeInfo}{r:Nat}{q:List Nat}{tr tr' u0:T}{v:Value}(hi:P.info? t=jq ti)(gu:ti.size=1)(hx:opT E x=jq (.addr r q))(hr:E r=jq tr)(hg:tr.get q.reverse=jq u0)(gm:tr.set q.reverse (.lit v)=tr')
  (sd:(tr.single&&tr.locd q.reverse&&vB (.lit v) u0&&(T.lit v).zOk)=js)(hz:tQ (.lit v)=v.cells.toList):Ok P Γ ⟨jr,.store t x (.const v),ty,ps,af,gd⟩ E (E.app [(r,jq tr')] [(r,q.length)]):=by
 simp only[J3]at sd;subst gm;intro S;have:=zKf (P:=P) (Γ:=Γ.at S) (E:=E) (o:=⟨jr,.store t x (.const v),ty,ps,af,gd⟩) t ti x (.const v) r q tr u0 (.zero (.lit v)) rfl rfl hi (by rw[gu];rfl) (by omega) hx hr sd.1.1.1 hg sd.1.1.2 sd.1.2 (.zero v _ hz)
  ⟨by simp,by grind,by simp[xT]⟩
 exact this
end
end Go.Ab

namespace Go.Ab
open Go
theorem zE.tr{Γ:Ctx}{E:Env}(d r:Nat)(u:T)(hd:E d=jq (.same r []))(hr:E r=jq u)(ez:zZ u)(sd:(u.single&&wL u&&u.okB [(d,1),(r,1)]&&(d != r))=js):
  zE Γ E (E.app [(d,jq u),(r,jq (.same d []))] [(d,1),(r,1)]):=by
 simp only[J3]at sd
 rintro a w ⟨S,hS,hs⟩
 have gf:d≠r:=by grind
 have hg:∀t:T,t.get []=jq t:=fun t=>by rfl
 have:=zLX hs d [] r [] (.same r []) u u hd rfl hr (hg u) sd.1.1.1 ez gf (by simp[T.okB,zAF]) sd.1.2 rfl sd.1.1.2;exact⟨S,hS,this⟩
theorem kT{α:Type}{f:α→T}(hf:∀x,zZ (f x)):(xs:List α)→xE (xs.map f)
 | []=>trivial
 |x::xs=>⟨hf x,kT hf xs⟩
theorem zN9{α:Type}{f:α→T}{k:Nat}{xs:List α}(hf:∀x,zZ (f x)):zZ (L k f xs):=by simp only[zZ,xC];grind[kT]
theorem zNA(n:Int):zZ (I n):=by simp[zZ,xC]
theorem zTO(b:Bool):zZ (B b):=by simp[zZ,xC]
end Go.Ab

namespace Go.Ab
open Go
section
variable {P:Program}{Γ:Ctx}{E:Env}{d:Nat}{x y:Operand}{ty:TypeId}{ps:String}{af:Array Edge}{gd:Option (Nat×Bool)}{m n c:Int}{xt yt:TypeId}
theorem zHZ(hv:rng (m-n)=jq c)(hx:opT E x=jq (I m))(hy:opT E y=jq (I n))(sd:J5 d Γ.N=js):Ok P Γ ⟨jq d,.binOp .sub xt x y yt,ty,ps,af,gd⟩ E (E.app [(d,jq (I c))] [(d,0)]):=by obtain⟨rfl,h⟩:=zC7 hv;exact fun _=>uF .sub xt yt x y .i64 m n _ rfl rfl (yE sd) hx hy (by grind[zIR,zBH])
theorem zWq(hv:rng (m*n)=jq c)(hx:opT E x=jq (I m))(hy:opT E y=jq (I n))(sd:J5 d Γ.N=js):Ok P Γ ⟨jq d,.binOp .mul xt x y yt,ty,ps,af,gd⟩ E (E.app [(d,jq (I c))] [(d,0)]):=by obtain⟨rfl,h⟩:=zC7 hv;exact fun _=>uF .mul xt yt x y .i64 m n _ rfl rfl (yE sd) hx hy (by grind[zIR,zBH])
def wF(m n:Int):Option Int:=if n=0 then jr else rng (m.tdiv n)
def xN(m n:Int):Option Int:=if n=0 then jr else jq (m.tmod n)
theorem zYQ(hv:wF m n=jq c)(hx:opT E x=jq (I m))(hy:opT E y=jq (I n))(sd:J5 d Γ.N=js):Ok P Γ ⟨jq d,.binOp .quo xt x y yt,ty,ps,af,gd⟩ E (E.app [(d,jq (I c))] [(d,0)]):=by
 unfold wF at hv;split at hv
 ·cases hv
 ·rename_i h0
  obtain⟨rfl,h⟩:=zC7 hv;exact fun _=>uF .quo xt yt x y .i64 m n _ rfl rfl (yE sd) hx hy (by simp only[zIR,h0,if_false,zBH h])
theorem zYR(hv:xN m n=jq c)(hx:opT E x=jq (I m))(hy:opT E y=jq (I n))(sd:J5 d Γ.N=js):Ok P Γ ⟨jq d,.binOp .rem xt x y yt,ty,ps,af,gd⟩ E (E.app [(d,jq (I c))] [(d,0)]):=by
 unfold xN at hv;split at hv
 ·cases hv
 ·rename_i h0
  simp at hv;subst hv;exact fun _=>uF .rem xt yt x y .i64 m n _ rfl rfl (yE sd) hx hy (by simp only[zIR,h0,if_false])
theorem zWr(hx:opT E x=jq (I m))(hy:opT E y=jq (I n))(sd:J5 d Γ.N=js):Ok P Γ ⟨jq d,.binOp .leq xt x y yt,ty,ps,af,gd⟩ E (E.app [(d,jq (B (decide (m≤n))))] [(d,0)]):=
 fun _=>uF .leq xt yt x y .i64 m n _ rfl rfl (yE sd) hx hy rfl
theorem zWs(hx:opT E x=jq (I m))(hy:opT E y=jq (I n))(sd:J5 d Γ.N=js):Ok P Γ ⟨jq d,.binOp .gtr xt x y yt,ty,ps,af,gd⟩ E (E.app [(d,jq (B (decide (m> n))))] [(d,0)]):=
 fun _=>uF .gtr xt yt x y .i64 m n _ rfl rfl (yE sd) hx hy rfl
theorem zYS(hx:opT E x=jq (I m))(hy:opT E y=jq (I n))(sd:J5 d Γ.N=js):Ok P Γ ⟨jq d,.binOp .geq xt x y yt,ty,ps,af,gd⟩ E (E.app [(d,jq (B (decide (m≥n))))] [(d,0)]):=
 fun _=>uF .geq xt yt x y .i64 m n _ rfl rfl (yE sd) hx hy rfl
theorem zNB(hx:opT E x=jq (I m))(hy:opT E y=jq (I n))(sd:J5 d Γ.N=js):Ok P Γ ⟨jq d,.binOp .eql xt x y yt,ty,ps,af,gd⟩ E (E.app [(d,jq (B (m==n)))] [(d,0)]):=
 fun _=>uF .eql xt yt x y .i64 m n _ rfl rfl (yE sd) hx hy rfl
theorem zWt(hx:opT E x=jq (I m))(hy:opT E y=jq (I n))(sd:J5 d Γ.N=js):Ok P Γ ⟨jq d,.binOp .neq xt x y yt,ty,ps,af,gd⟩ E (E.app [(d,jq (B (m != n)))] [(d,0)]):=
 fun _=>uF .neq xt yt x y .i64 m n _ rfl rfl (yE sd) hx hy rfl
theorem zWu{b:Bool}(hx:opT E x=jq (B b))(sd:J5 d Γ.N=js):Ok P Γ ⟨jq d,.unOp .not xt x,ty,ps,af,gd⟩ E (E.app [(d,jq (B (!b)))] [(d,0)]):=
 fun _=>zWY xt x b rfl rfl (yE sd) hx
theorem zWv(hv:rng (0-n)=jq c)(hx:opT E x=jq (I n))(sd:J5 d Γ.N=js):Ok P Γ ⟨jq d,.unOp .neg xt x,ty,ps,af,gd⟩ E (E.app [(d,jq (I c))] [(d,0)]):=by
 obtain⟨rfl,h⟩:=zC7 hv;have:=fun S=>zWZ (P:=P) (Γ:=Γ.at S) (E:=E) (o:=⟨jq d,.unOp .neg xt x,ty,ps,af,gd⟩) xt x .i64 n rfl rfl (yE sd) hx
 rw[zBH h]at this;exact this
end
end Go.Ab

namespace Go.Ab
open Go
section
variable {P:Program}{Γ:Ctx}{E:Env}{d:Nat}{x y:Operand}{ty:TypeId}{ps:String}{af:Array Edge}{gd:Option (Nat×Bool)}
class zJk (P:Program) (t:TypeId) (u:outParam T):Prop where
 h:∃ti z,P.info? t=jq ti∧ti.zero=jq z∧u.zOk=js∧tQ u=z.cells.toList∧z.cells.size=u.size
theorem zJl{t:TypeId}{u:T}(ht:zJk P t u)(sd:J5 d Γ.N=js):Ok P Γ ⟨jq d,.alloc t,ty,ps,af,gd⟩ E (E.app [(d,jq (.ptr u))] [(d,0)]):=by obtain⟨ti,z,h1,h2,h3,h4,h5⟩:=ht.h;exact fun S=>zQ4 t ti z u rfl rfl (yE sd) h1 h2 h3 h4 h5
theorem zWw{s i:Nat}{ts:List T}{t:T}(hs:E s=jq (.tup ts))(hi:ts[i]? =jq t)(sd:(J5 d Γ.N&&t.okTup&&(s != d)&&T.okB [(d,0)] (cpT s t [i]))=js):
  Ok P Γ ⟨jq d,.extract (.tmp s) i,ty,ps,af,gd⟩ E (E.app [(d,jq (cpT s t [i]))] [(d,0)]):=by
 simp only[J3]at sd;exact fun S=>zLU s i ts t rfl rfl (yE sd.1.1.1) hs hi (zBG sd.1.1.2) (by grind) sd.2
theorem zC8{t:T}(hx:opT E x=jq t)(hp:zFw E x=js)(sd:mvB Γ x t d=js):Ok P Γ ⟨jq d,.nilCheck x,ty,ps,af,gd⟩ E (E.app [(d,jq (uY x t))] [(d,0)]):=by simp only[mvB,J3]at sd;exact fun S=>zXa x t rfl rfl (yE sd.1.1.1) hx hp (zBG sd.1.1.2) (zEr sd.1.2) sd.2
theorem zMb{c:Operand}{b:Bool}{t:T}(hc:opT E c=jq (B b))(hx:opT E (if b then x else y)=jq t)(sd:mvB Γ (if b then x else y) t d=js):Ok P Γ ⟨jq d,.pick c x y,ty,ps,af,gd⟩ E (E.app [(d,jq (uY (if b then x else y) t))] [(d,0)]):=by simp only[mvB,J3]at sd;exact fun S=>zTD c x y b t rfl rfl (yE sd.1.1.1) hc hx (zBG sd.1.1.2) (zEr sd.1.2) sd.2
theorem zWx{t:TypeId}{s:Nat}{u:T}(hs:E s=jq u)(hu:zZ u)(sd:(J5 d Γ.N&&u.okTup&&(s != d))=js):
  Ok P Γ ⟨jq d,.box t (.tmp s),ty,ps,af,gd⟩ E (E.app ((d,jq (.ptr u))::pWr d [.slot s u] 0) ((d,0)::sD [.slot s u])):=by
 simp only[J3]at sd;have gf:s≠d:=by grind
 refine fun S=>zXc t (.tmp s) (.slot s u) rfl rfl (yE sd.1.1) (.slot s u) ⟨by grind,by simp,?_⟩
 simp only[xT]
 grind
end
end Go.Ab

namespace Go.Ab
open Go
def yC{α:Type}(xs ys:List α):Option (List α):=if xs.length+ys.length≤68719476736 then jq (xs++ys)else jr
theorem zEZ{α:Type}{xs ys zs:List α}(h:yC xs ys=jq zs):zs=xs++ys∧xs.length+ys.length≤68719476736:=by grind[yC]
section
variable {P:Program}{Γ:Ctx}{E:Env}{d:Nat}{x y:Operand}{ty:TypeId}{ps:String}{af:Array Edge}{gd:Option (Nat×Bool)}
theorem ElT.zsize{t e:TypeId}{ti:TypeInfo}{k:Nat}{u:T}(h:ElT P t e ti k u):∃z,ti.zero=jq z∧z.cells.size=k:=by obtain⟨z,h1,h2⟩:=h.zero;exact⟨z,h1,by rw[←K8,←h2,vM u h.zok,h.us]⟩
theorem qV{α:Type}{t e:TypeId}{ti:TypeInfo}{k:Nat}{u:T}{f:α→T}{xs ys zs:List α}{s0 s1:Nat}(ht:ElT P t e ti k u)(hv:yC xs ys=jq zs)(h0:E s0=jq (L k f xs))(h1:E s1=jq (L k f ys))(sd:(J5 d Γ.N&&(s0 != d)&&(s1 != d)&&(s1 != s0))=js):
  Ok P Γ ⟨jq d,.call { callee:=.builtin .append,args:=#[.tmp s0,.tmp s1],argTypes:=#[t,t] },ty,ps,af,gd⟩ E (E.app [(d,jq (L k f zs)),(s0,jq .any),(s1,jq .any)] [(d,0),(s0,1),(s1,1)]):=by
 obtain⟨rfl,hl⟩:=zEZ hv;obtain⟨z,hz,fm⟩:=ht.zsize;simp only[J3]at sd;intro S;have:=zJb (P:=P) (Γ:=Γ.at S) (E:=E) (o:=⟨jq d,.call { callee:=.builtin .append,args:=#[.tmp s0,.tmp s1],argTypes:=#[t,t] },ty,ps,af,gd⟩) t e ti z k s0 s1 (xs.map f) (ys.map f) rfl rfl (yE sd.1.1.1) ht.un ht.info hz ht.size ht.pos fm ht.bytes h0 h1
  (by grind) (by grind) (by grind) (by grind)
 rw[←L7]at this;exact this
theorem zIa{α:Type}{f:α→T}(hf:∀x,(f x).flat=js):(xs:List α)→zAG (xs.map f)=js
 | []=>rfl
 |x::xs=>by simp only[Jm,zAG,hf x,zIa hf xs,Ll]
theorem zDM{α:Type}{t e:TypeId}{ti:TypeInfo}{k r:Nat}{q:List Nat}{u:T}{f:α→T}{xs ys zs:List α}{s0:Nat}(ht:ElT P t e ti k u)(hf:∀x,(f x).flat=js)(hv:yC xs ys=jq zs)(h0:E s0=jq (L k f xs))(h1:uJ E y=jq (r,q,L k f ys))(sd:(J5 d Γ.N&&(s0 != d))=js):
  Ok P Γ ⟨jq d,.call { callee:=.builtin .append,args:=#[.tmp s0,y],argTypes:=#[t,t] },ty,ps,af,gd⟩ E (E.app [(d,jq (L k f zs)),(s0,jq .any)] [(d,0),(s0,1)]):=by
 obtain⟨rfl,hl⟩:=zEZ hv;obtain⟨z,hz,fm⟩:=ht.zsize;simp only[J3]at sd;intro S;have:=zJc (P:=P) (Γ:=Γ.at S) (E:=E) (o:=⟨jq d,.call { callee:=.builtin .append,args:=#[.tmp s0,y],argTypes:=#[t,t] },ty,ps,af,gd⟩) t e ti z k s0 y r q (xs.map f) (ys.map f) rfl rfl (yE sd.1) ht.un ht.info hz ht.size ht.pos fm ht.bytes h0 h1 (zIa hf ys)
  (by grind) (by grind)
 rw[←L7]at this;exact this
end
end Go.Ab

namespace Go.Ab
open Go
abbrev IK(k:IntKind)(n:Int):T:=.lit (.int k n)
abbrev Str(s:ByteArray):T:=.lit (.string s)
abbrev Pt{α:Type}(f:α→T)(x:α):T:=.ptr (f x)
abbrev Ro{α:Type}(f:α→T)(x:α):T:=.ro (f x)
theorem bd{α β:Type}{o:Option α}{f:α→Option β}{r:β}(h:o.bind f=jq r):∃v,o=jq v∧f v=jq r:=by
 cases o with
 |none=>simp at h
 |some v=>grind
theorem cT{α:Type}{b:Bool}{x y:α}{z:α}(hc:b=js)(h:cond b x y=z):x=z:=by grind
theorem cF{α:Type}{b:Bool}{x y:α}{z:α}(hc:b=jt)(h:cond b x y=z):y=z:=by grind
theorem sI{α:Type}{x y:α}(h:jq x=jq y):x=y:=Ls.inj h
section
variable {P:Program}{Γ:Ctx}{pn:sJ}{E E':Env}{Q:Exit→Env→Prop}{c:Code}{id id':Nat}
theorem nA(h:CW P Γ pn c E Q):yL P Γ pn c Q .normal E:=h
theorem xA(h:Q (.exit id) E):yL P Γ pn c Q (.exit id) E:=h
theorem rA(h:Q .ret E):yL P Γ pn c Q .ret E:=h
theorem nB(h:Q .normal E):yM id Q .normal E:=h
theorem rB(h:Q .ret E):yM id Q .ret E:=h
theorem xB(h:Q .normal E):yM id Q (.exit id) E:=by simp only[yM,if_true];exact h
theorem neX:Exit.exit id≠.normal:=by simp
theorem neR:Exit.ret≠.normal:=by simp
theorem RW.cases{ops:Array Oper}{os:List Oper}(s:Nat)(b:Bool)(hb:E s=jq (B b))(ht:b=js→RW P Γ pn ops os (E.app [(s,jq (B js))] []) Q)(hf:b=jt→RW P Γ pn ops os (E.app [(s,jq (B jt))] []) Q):RW P Γ pn ops os E Q:=by
 have key:∀c:Bool,b=c→zE Γ E (E.app [(s,jq (B c))] []):=by
  rintro c rfl a w hs
  refine hs.weaken fun s' t h=>?_
  by_cases e:s=s'
  ·grind[Env.app,Wr.find]
  ·simp only[Env.app,Wr.find,e,if_false]at h
   grind
 cases hc:b with
 |true=>grind[ghost]
 |false=>grind[ghost]
end
theorem zV{α:Type}{k:Nat}{f:α→T}{xs:List α}{i:Int}{v:α}{p:List Nat}{u:T}(h:ixO xs i=jq v)(hr:(f v).get p=jq u):(L k f xs).get (i.toNat::p)=jq u:=by simp[T.get,(uA h).2,hr]
theorem xZ{t u:T}{p:List Nat}(h:t.get p=jq u):(T.ptr t).get (0::p)=jq u:=h
theorem wA{xs:List T}{x u:T}{j:Nat}{p:List Nat}(hj:xs[j]? =jq x)(h:x.get p=jq u):(T.agg xs).get (j::p)=jq u:=by grind[T.get]
theorem zFa{α:Type}{k:Nat}{f:α→T}{xs:List α}{i:Int}{v w:α}{p:List Nat}{u:T}(h:ixO xs i=jq v)(hr:(f v).set p u=f w):(L k f xs).set (i.toNat::p) u=L k f (xs.set i.toNat w):=by simp[L,T.set,(uA h).2,hr,Qk]
theorem zC9{t u t':T}{p:List Nat}(h:t.set p u=t'):(T.ptr t).set (0::p) u=T.ptr t':=by simp[T.set,h]
theorem zOP{xs:List T}{x u x':T}{j:Nat}{p:List Nat}(hj:xs[j]? =jq x)(h:x.set p u=x'):(T.agg xs).set (j::p) u=.agg (xs.set j x'):=by grind[T.set]
class Enc {α:Type} (f:α→T):Prop where
 clean:∀x,zZ (f x)
 rofree:∀x,vG (f x)=js
 strip:∀x,strip (f x)=f x
 okTup:∀x,(f x).okTup=js
 rook:∀x,zFH (f x)=js
theorem zGC{α:Type}{f:α→T}(h:∀x,vG (f x)=js):(xs:List α)→uM (xs.map f)=js
 | []=>rfl
 |x::xs=>by simp only[Jm,uM,h x,zGC h xs,Ll]
theorem zGD{α:Type}{f:α→T}(h:∀x,zFH (f x)=js):(xs:List α)→zCp (xs.map f)=js
 | []=>rfl
 |x::xs=>by simp only[Jm,zCp,h x,zGD h xs,Ll]
theorem tD{α:Type}{f g:α→T}(h:∀x,strip (f x)=g x):(xs:List α)→wX (xs.map f)=xs.map g
 | []=>rfl
 |x::xs=>by simp only[Jm,wX,h x,tD h xs]
instance:Enc I:=⟨zNA,fun _=>rfl,fun _=>rfl,fun _=>rfl,fun _=>rfl⟩
instance:Enc B:=⟨zTO,fun _=>rfl,fun _=>rfl,fun _=>rfl,fun _=>rfl⟩
instance{k:IntKind}:Enc (IK k):=⟨fun _=>by simp[zZ,xC],fun _=>rfl,fun _=>rfl,fun _=>rfl,fun _=>rfl⟩
instance:Enc Str:=⟨fun _=>by simp[zZ,xC],fun _=>rfl,fun _=>rfl,fun _=>rfl,fun _=>rfl⟩
instance{α:Type}{k:Nat}{f:α→T}[h:Enc f]:Enc (L k f):=
 ⟨fun _=>zN9 h.clean,fun xs=>by simp only[vG];exact zGC h.rofree xs,fun xs=>by simp only[L,strip,tD h.strip xs],fun _=>rfl,fun xs=>by simp only[zFH,zGD h.rook xs]⟩
instance{α:Type}{f:α→T}[h:Enc f]:Enc (Pt f):=
 ⟨fun x=>by simp only[zZ,xC];exact h.clean x,fun x=>by simp only[vG,h.rofree],fun x=>by simp only[Pt,strip,h.strip],fun _=>rfl,fun x=>by simp only[zFH,h.rook]⟩
class xL {α:Type} (f g:α→T):Prop where
 h:∀x,strip (f x)=g x
instance{α:Type}{f:α→T}[h:Enc f]:xL f f:=⟨h.strip⟩
instance{α:Type}{k:Nat}{f g:α→T}[h:xL f g]:xL (L k f) (L k g):=⟨fun xs=>by simp only[L,strip,tD h.h xs]⟩
instance{α:Type}{k:Nat}{g:α→T}:xL (Ro (L k g)) (L k g):=⟨fun _=>rfl⟩
instance{α:Type}{g:α→T}:xL (Ro (Pt g)) (Pt g):=⟨fun _=>rfl⟩
theorem stA{xs ys:List T}(h:wX xs=ys):strip (.agg xs)=.agg ys:=by grind[strip]
theorem stC{x y:T}{xs ys:List T}(h:strip x=y)(h2:wX xs=ys):wX (x::xs)=y::ys:=by grind[wX]
section
variable {E:Env}{rw:Rw}{i s r:Nat}{q:List Nat}{x:Operand}
theorem zOQ{α:Type}{k:Nat}{f g:α→T}{xs:List α}(h:xL f g):clo E (L k f xs)=.ro (L k g xs):=by simp only[clo,L,strip,tD h.h xs]
theorem zFJ{t u:T}(h:strip t=u):clo E (.ptr t)=.ro (.ptr u):=by grind[clo,strip]
theorem zDh{tr u:T}(hr:E r=jq tr)(hg:tr.get q.reverse=jq u)(h4:zAO u=js):qU E 4 r q=jq (r,q,u):=by grind[zAO,qU]
theorem zBl{α:Type}{k:Nat}{f g:α→T}{xs:List α}{tr:T}(hr:E r=jq tr)(hg:tr.get q.reverse=jq (L k f xs))(h:xL f g):clo E (.same r q)=.ro (L k g xs):=by simp only[clo,zDh hr hg rfl,T.single,if_true,L,strip,tD h.h xs]
theorem zIb{t u tr:T}(hr:E r=jq tr)(hg:tr.get q.reverse=jq (.ptr t))(h:strip t=u):clo E (.same r q)=.ro (.ptr u):=by simp only[clo,zDh hr hg rfl,T.single,if_true,strip,h]
theorem zXd{α:Type}{k l h:Nat}{f g:α→T}{xs:List α}{tr:T}(hr:E r=jq tr)(hg:tr.get q.reverse=jq (L k f xs))(hs:xL f g)(h1:l≤h)(h2:h≤xs.length):clo E (.sub r q k l h)=.ro (L k g ((xs.drop l).take (h-l))):=by simp only[clo,zDh hr hg rfl,L,tD hs.h xs,Jj,h1,h2,and_self,if_true,Jb2,U8]
theorem zYT{xs ys:List T}(h:zBC E xs=ys):clo E (.agg xs)=.agg ys:=by grind[clo]
theorem yBe:zBC E []=[]:=rfl
theorem zYU{x y:T}{xs ys:List T}(h:clo E x=y)(h2:zBC E xs=ys):zBC E (x::xs)=y::ys:=by grind[zBC]
mutual
theorem zIc(s:Nat):(t:T)→t.okTup=js→qA E [] s t=js
 |.agg xs,h=>by simp only[qA,T.okTup]at h ⊢;exact zGE s xs h
 |.tup _,h=>by grind[T.okTup]
 |.same r q,_|.sub r q _ _ _,_=>by grind[qA]
 |.sl _ _,_|.ptr _,_|.mp _ _,_=>by rfl
 |.lit _,_|.ro _,_|.any,_|.addr _ _,_=>by rfl
theorem zGE(s:Nat):(xs:List T)→yU xs=js→zAX E [] s xs=js
 | [],_=>rfl
 |x::xs,h=>by simp only[yU,J3]at h;simp only[zAX,zIc s x h.1,zGE s xs h.2,Ll]
end
theorem agC{u:T}(t:T)(h:opT E x=jq t)(h1:clo E t=u)(h2:t.okTup=js):zBD E [] i x u:=.inr ⟨t,h,h1,by
 cases x with
 |tmp s=>exact zIc s t h2
 |_=>rfl⟩
end
section
variable {P:Program}{Γ:Ctx}{E:Env}{d:Nat}{x y:Operand}{ty:TypeId}{ps:String}{af:Array Edge}{gd:Option (Nat×Bool)}
abbrev zCr(res:List T):Prop:=xE res∧yU res=js∧uM res=js
theorem kH:zCr []:=⟨trivial,rfl,rfl⟩
theorem zA0{α:Type}{f:α→T}{x:α}{ts:List T}(h:Enc f)(h2:zCr ts):zCr (f x::ts):=
 ⟨⟨h.clean x,h2.1⟩,by simp only[yU,h.okTup,h2.2.1,Ll],by simp only[uM,h.rofree,h2.2.2,Ll]⟩
abbrev zA7(P:Program)(f:FuncId):Prop:=∀args w,(callFunc f args).run P w=.ok (.enter f args) w
theorem sK{f:FuncId}{xs:List Operand}{ats:Array TypeId}{us res:List T}(gr:zA7 P f)(hc:FnC P f us res [])(gj:wD E [] 0 xs us)(gy:zCr res)(sd:J5 d Γ.N=js):
  Ok P Γ ⟨jq d,.call { callee:=.value (.func f),args:=xs.toArray,argTypes:=ats },ty,ps,af,gd⟩ E (E.app (cWr d res []) (vP d [])):=
 fun _S=>zJg f (.func f) xs ats us res [] rfl rfl (yE sd) gr rfl hc gj .nil gy
theorem zTP{f:FuncId}{xs:List Operand}{ats:Array TypeId}{us res:List T}(gr:zA7 P f)(hc:FnC P f us res [])(gv:xs.length=us.length)(gj:∀(i:Nat) u,us[i]? =jq u→ ∃x,xs[i]? =jq x∧opT E x=jq u∧u.flat=js)(gy:xE res∧yU res=js)(sd:J5 d Γ.N=js):
  Ok P Γ ⟨jq d,.call { callee:=.value (.func f),args:=xs.toArray,argTypes:=ats },ty,ps,af,gd⟩ E (E.app (cWr d res []) (vP d [])):=
 fun _S=>zQG f (.func f) xs ats us res rfl rfl (yE sd) gr rfl hc gv gj gy
class qW (P:Program) (S:TypeId) (j:Nat) (off:outParam Nat):Prop where
 h:∃fs f fi,P.underlying S=jq (.struct fs)∧fs[j]? =jq f∧P.info? f.type=jq fi∧fi.size≠0∧off=f.offset
theorem zXe{S:TypeId}{j off r:Nat}{q:List Nat}{xs:List T}{u:T}(ht:qW P S j off)(hx:uJ E x=jq (r,q,.ptr (.agg xs)))(hu:xs[j]? =jq u)(gC:T.sizes (xs.take j)=off)(sd:J5 d Γ.N=js):
  Ok P Γ ⟨jq d,.fieldAddr S x j,ty,ps,af,gd⟩ E (E.app [(d,jq (.addr r (j::0::q)))] [(d,0)]):=by
 obtain⟨fs,f,fi,h1,h2,h3,h4,h5⟩:=ht.h;exact fun _=>zYJ x S fs f fi j r q xs u rfl rfl (yE sd) h1 h2 h3 h4 hx hu (by omega)
theorem zYV{S:TypeId}{j off r:Nat}{q:List Nat}{t:T}{xs:List T}{u:T}(ht:qW P S j off)(hx:opT E x=jq (.addr r q))(hr:E r=jq t)(hg:t.get q.reverse=jq (.agg xs))(hu:xs[j]? =jq u)(gC:T.sizes (xs.take j)=off)(sd:(J5 d Γ.N&&t.locd q.reverse)=js):
  Ok P Γ ⟨jq d,.fieldAddr S x j,ty,ps,af,gd⟩ E (E.app [(d,jq (.addr r (j::q)))] [(d,0)]):=by
 obtain⟨fs,f,fi,h1,h2,h3,h4,h5⟩:=ht.h;simp only[J3]at sd;exact fun _=>zLS x S fs f fi j r q t xs u rfl rfl (yE sd.1) h1 h2 h3 h4 hx hr hg sd.2 hu (by omega)
theorem zQR{S:TypeId}{j off:Nat}{xs:List T}{u:T}(ht:qW P S j off)(hx:opT E x=jq (.ro (.ptr (.agg xs))))(hu:xs[j]? =jq u)(gC:T.sizes (xs.take j)=off)(sd:J5 d Γ.N=js):
  Ok P Γ ⟨jq d,.fieldAddr S x j,ty,ps,af,gd⟩ E (E.app [(d,jq (.ro (.ptr u)))] [(d,0)]):=by
 obtain⟨fs,f,fi,h1,h2,h3,h4,h5⟩:=ht.h;exact fun _=>zQw x S fs f fi j xs u rfl rfl (yE sd) h1 h2 h3 h4 hx hu (by omega)
def zQ{α:Type}(xs:List α)(l h:Int):Option (List α):=if 0≤l∧l≤h∧h≤(xs.length:Int)then jq ((xs.drop l.toNat).take (h.toNat-l.toNat))else jr
theorem zWy{α:Type}{t e:TypeId}{ti:TypeInfo}{r k:Nat}{q:List Nat}{f:α→T}{xs ys:List α}{lo hi:Option Operand}{l h:Int}(ht:zBk P t e ti k)(hv:zQ xs l h=jq ys)(hx:uJ E x=jq (r,q,.ro (L k f xs)))(gV:zAx E lo 0 l.toNat)(eb:zAx E hi xs.length h.toNat)(sd:J5 d Γ.N=js):
  Ok P Γ ⟨jq d,.slice t x lo hi jr,ty,ps,af,gd⟩ E (E.app [(d,jq (.ro (L k f ys)))] [(d,0)]):=by
 unfold zQ at hv;split at hv
 ·rename_i hc
  simp at hv;subst hv;intro S;have:=zKa (P:=P) (Γ:=Γ.at S) (E:=E) (o:=⟨jq d,.slice t x lo hi jr,ty,ps,af,gd⟩) x lo hi t e ti r q k (xs.map f) l.toNat h.toNat rfl rfl (yE sd) ht.un ht.info ht.size hx gV (by grind) (by omega) (by simp;omega);simpa[L,Jb2,U8]using this
 ·cases hv
theorem zQS{α:Type}{t e:TypeId}{ti:TypeInfo}{r k:Nat}{q:List Nat}{f:α→T}{xs ys:List α}{lo hi:Option Operand}{l h:Int}(ht:zBk P t e ti k)(hv:zQ xs l h=jq ys)(hx:uJ E x=jq (r,q,L k f xs))(gV:zAx E lo 0 l.toNat)(eb:zAx E hi xs.length h.toNat)(sd:(J5 d Γ.N&&(r != d))=js):
  Ok P Γ ⟨jq d,.slice t x lo hi jr,ty,ps,af,gd⟩ E (E.app [(d,jq (.sub r q k l.toNat h.toNat))] [(d,0)]):=by
 unfold zQ at hv;simp only[J3]at sd;split at hv
 ·rename_i hc
  intro S;exact zIU (P:=P) (Γ:=Γ.at S) (E:=E) (o:=⟨jq d,.slice t x lo hi jr,ty,ps,af,gd⟩) x lo hi t e ti r q k (xs.map f) l.toNat h.toNat rfl rfl (yE sd.1) ht.un ht.info ht.size hx gV (by grind) (by omega) (by simp;omega) (by grind)
 ·cases hv
end
end Go.Ab

namespace Go.Ab
open Go
theorem zB{t:T}(h:zZ t):zZ t:=h
theorem zG{α:Type}{f:α→T}{k:Nat}{xs:List α}(hf:∀x,zZ (f x)):zZ (L k f xs):=zN9 hf
theorem yA{t:T}(h:zZ t):zZ (.ptr t):=by simpa only[zZ,xC]using h
theorem zR{xs:List T}(h:xE xs):zZ (.agg xs):=by simpa only[zZ,xC]using h
section
variable {P:Program}{Γ:Ctx}{pn:sJ}{E E':Env}{Q:Exit→Env→Prop}{c c1 c2:Code}{x:Operand}
theorem CW.condT(hx:opT E x=jq (B js))(h:CW P Γ pn c1 E Q):CW P Γ pn (.cond x c1 c2) E Q:=by grind[CW.cond]
theorem CW.condF(hx:opT E x=jq (B jt))(h:CW P Γ pn c2 E Q):CW P Γ pn (.cond x c1 c2) E Q:=by grind[CW.cond]
theorem CW.casesB(b:Bool)(ht:b=js→CW P Γ pn c E Q)(hf:b=jt→CW P Γ pn c E Q):CW P Γ pn c E Q:=by grind
theorem qM{wr:Wr}{chg:Chg}{s:Nat}{t:T}(h:E s=jq t)(hf:wr.find s=jr:=by rfl)(hb:t.okB chg=js:=by rfl):E.app wr chg s=jq t:=by grind[Env.app]
theorem yT.gh{ops:Array Oper}{o:Oper}{E1:Env}(hg:zE Γ E E1)(h:yT P Γ ops o E1 E'):yT P Γ ops o E E':=fun a w K Q hs hK=>h a w K Q (hg a w hs) hK
theorem zGF{t:T}(h:opT E x=jq (.ro (.ptr t))):zFw E x=js:=by simp[zFw,h]
theorem zFb{r:Nat}{q:List Nat}{t:T}(h:uJ E x=jq (r,q,.ptr t)):zFw E x=js:=by grind[zFw]
end
theorem zXf{E:Env}{n:Nat}:zAx E jr n (n:Int).toNat:=by simp[zAx]
theorem zYW{E:Env}:zAx E jr 0 (0:Int).toNat:=by simp[zAx]
theorem zTQ{E:Env}{x:Operand}{n:Int}{d:Nat}(h0:0≤n)(h:opT E x=jq (I n)):zAx E (jq x) d n.toNat:=⟨.i64,by grind⟩
theorem uO{α:Type}{xs ys:List α}{l h:Int}(hv:zQ xs l h=jq ys):0≤l∧l≤h∧h≤xs.length∧ys=(xs.drop l.toNat).take (h.toNat-l.toNat):=by grind[zQ]
theorem zFc{α:Type}{xs ys:List α}{l h:Int}(hv:zQ xs l h=jq ys):0≤l:=(uO hv).1
theorem zId{α:Type}{xs ys:List α}{l h:Int}(hv:zQ xs l h=jq ys):0≤h:=by have:=uO hv;omega
theorem zTR{E:Env}{r k:Nat}{q:List Nat}{α:Type}{l h:Int}{f g:α→T}{xs ys:List α}{tr:T}(hr:E r=jq tr)(hg:tr.get q.reverse=jq (L k f xs))(hs:xL f g)(hv:zQ xs l h=jq ys):
  clo E (.sub r q k l.toNat h.toNat)=.ro (L k g ys):=by
 obtain⟨h1,h2,h3,rfl⟩:=uO hv
 grind[zXd]
section
variable {P:Program}{Γ:Ctx}{E E':Env}{d:Nat}{x y:Operand}{ty:TypeId}{ps:String}{af:Array Edge}{gd:Option (Nat×Bool)}
theorem zQT{o:Oper}{e b:Bool}{d:Nat}{wr:Wr}{chg:Chg}(he:e=b)(h:Ok P Γ o E (E.app ((d,jq (B e))::wr) chg)):Ok P Γ o E (E.app ((d,jq (B b))::wr) chg):=he▸h
theorem zYX{t:TypeId}{u tr t0:T}{r:Nat}{q:List Nat}(ht:zQQ P t u)(hx:uJ E x=jq (r,q,.ptr t0))(hr:E r=jq tr)(hg:tr.get (0::q).reverse=jq u)(sd:(J5 d Γ.N&&tr.locd (0::q).reverse&&(r != d)&&T.okB [(d,0)] (cpT r u (0::q)))=js):
  Ok P Γ ⟨jq d,.load t x,ty,ps,af,gd⟩ E (E.app [(d,jq (cpT r u (0::q)))] [(d,0)]):=by
 obtain⟨ds,ti,h1,h2,h3,h4⟩:=ht.h;simp only[J3]at sd;exact fun S=>zJX x t ds ti r (0::q) tr u rfl rfl (yE sd.1.1.1) h1 h2 h3 h4 (zBr.ptr hx) hr hg sd.1.1.2 (by grind) sd.2
theorem zWz{t:TypeId}{ti:TypeInfo}{r s:Nat}{q:List Nat}{tr tr' u0 u:T}(hi:P.info? t=jq ti)(gu:(ti.size==u.size&&J5 0 ti.size)=js)(hx:∀S,zBr (Γ.at S) E x r q)(hr:E r=jq tr)(hg:tr.get q.reverse=jq u0)(gm:tr.set q.reverse u=tr')(hy:E s=jq u)(hu:zZ u)
  (sd:(tr.single&&tr.locd q.reverse&&vB u u0&&(r != s)&&u.okTup)=js):Ok P Γ ⟨jr,.store t x (.tmp s),ty,ps,af,gd⟩ E (E.app ((r,jq tr')::sWr r q (.slot s u)) ((r,q.length)::sD [.slot s u])):=by
 simp only[J3]at sd gu;subst gm;intro S;refine zES (P:=P) (Γ:=Γ.at S) (E:=E) (o:=⟨jr,.store t x (.tmp s),ty,ps,af,gd⟩) t ti x (.tmp s) r q tr u0 (.slot s u) rfl rfl hi (by grind[yW.tree]) (yE gu.2) (hx S) hr sd.1.1.1.1 hg sd.1.1.1.2 sd.1.1.2 (.slot s _)
  ⟨by grind,by simp,?_⟩
 grind[xT]
theorem zBX{t:TypeId}{ti:TypeInfo}{r s:Nat}{q:List Nat}{tr tr' u0 u:T}(hi:P.info? t=jq ti)(gu:(ti.size==u.size&&J5 0 ti.size)=js)(hx:opT E x=jq (.addr r q))(hr:E r=jq tr)(hg:tr.get q.reverse=jq u0)(gm:tr.set q.reverse u=tr')(hy:E s=jq u)(hu:zZ u)
  (sd:(tr.single&&tr.locd q.reverse&&vB u u0&&(r != s)&&u.okTup)=js):Ok P Γ ⟨jr,.store t x (.tmp s),ty,ps,af,gd⟩ E (E.app ((r,jq tr')::sWr r q (.slot s u)) ((r,q.length)::sD [.slot s u])):=
 zWz hi gu (fun _=>zBr.addr hx) hr hg gm hy hu sd
theorem uB{t:TypeId}{ti:TypeInfo}{r s:Nat}{q:List Nat}{tr tr' u0 u t0:T}(hi:P.info? t=jq ti)(gu:(ti.size==u.size&&J5 0 ti.size)=js)(hx:uJ E x=jq (r,q,.ptr t0))(hr:E r=jq tr)(hg:tr.get (0::q).reverse=jq u0)(gm:tr.set (0::q).reverse u=tr')(hy:E s=jq u)(hu:zZ u)
  (sd:(tr.single&&tr.locd (0::q).reverse&&vB u u0&&(r != s)&&u.okTup)=js):Ok P Γ ⟨jr,.store t x (.tmp s),ty,ps,af,gd⟩ E (E.app ((r,jq tr')::sWr r (0::q) (.slot s u)) ((r,(0::q).length)::sD [.slot s u])):=
 zWz hi gu (fun _=>zBr.ptr hx) hr hg gm hy hu sd
theorem zXg{t:TypeId}{ti:TypeInfo}{r:Nat}{q:List Nat}{tr tr' u0 u:T}{v:Value}(hi:P.info? t=jq ti)(gu:(ti.size==u.size&&J5 0 ti.size)=js)(hx:∀S,zBr (Γ.at S) E x r q)(hr:E r=jq tr)(hg:tr.get q.reverse=jq u0)(gm:tr.set q.reverse u=tr')
  (sd:(tr.single&&tr.locd q.reverse&&vB u u0&&u.zOk)=js)(hz:tQ u=v.cells.toList):Ok P Γ ⟨jr,.store t x (.const v),ty,ps,af,gd⟩ E (E.app [(r,jq tr')] [(r,q.length)]):=by
 simp only[J3]at sd gu;subst gm;intro S;have:=zES (P:=P) (Γ:=Γ.at S) (E:=E) (o:=⟨jr,.store t x (.const v),ty,ps,af,gd⟩) t ti x (.const v) r q tr u0 (.zero u) rfl rfl hi (by grind[yW.tree]) (yE gu.2) (hx S) hr sd.1.1.1 hg sd.1.1.2 sd.1.2 (.zero v _ hz)
  ⟨by simp,by grind,by simp[xT]⟩
 exact this
theorem zXh{t:TypeId}{ti:TypeInfo}{r:Nat}{q:List Nat}{tr tr' u0 u:T}{v:Value}(hi:P.info? t=jq ti)(gu:(ti.size==u.size&&J5 0 ti.size)=js)(hx:opT E x=jq (.addr r q))(hr:E r=jq tr)(hg:tr.get q.reverse=jq u0)(gm:tr.set q.reverse u=tr')
  (sd:(tr.single&&tr.locd q.reverse&&vB u u0&&u.zOk)=js)(hz:tQ u=v.cells.toList):Ok P Γ ⟨jr,.store t x (.const v),ty,ps,af,gd⟩ E (E.app [(r,jq tr')] [(r,q.length)]):=
 by grind[zXg,zBr.addr]
theorem zGG{G:Gh}{s:Nat}:(xs:List T)→yU xs=js→ ∀(p:List Nat)(i j:Nat)(u:T),xs[j]? =jq u→ ∃l1 l2,yJ G s xs p i=l1++vals G s u ((i+j)::p)++l2∧l1.length=T.sizes (xs.take j)
 | [],_,_,_,_,_,h=>by simp at h
 |x::xs,ht,p,i,j,u,h=>by
  simp only[yU,J3]at ht;cases j with
  |zero=>simp at h;subst h;exact⟨[],yJ G s xs p (i+1),by rfl,by rfl⟩
  |succ j=>
   obtain⟨l1,l2,h1,h2⟩:=zGG xs ht.2 p (i+1) j u (by grind);refine⟨vals G s x (i::p)++l1,l2,by rw[yJ,h1,show i+(j+1)=i+1+j from by omega];simp,?_⟩;rw[J8,vF x _ (by rintro ys rfl;grind[T.okTup]),h2,L4,T.sizes]
theorem zYY{S:TypeId}{j off s:Nat}{xs:List T}{u:T}(ht:qW P S j off)(hv:∃ds ti fs f,P.underlying S=jq (.struct fs)∧fs[j]? =jq f∧P.underlying f.type=jq ds∧P.info? f.type=jq ti∧zGm ds= !u.single∧ti.size=u.size)(hx:E s=jq (.agg xs))(hu:xs[j]? =jq u)(gC:T.sizes (xs.take j)=off)
  (sd:(J5 d Γ.N&&yU xs&&u.okTup&&(s != d)&&T.okB [(d,0)] (cpT s u [j]))=js):
  Ok P Γ ⟨jq d,.field S (.tmp s) j,ty,ps,af,gd⟩ E (E.app [(d,jq (cpT s u [j]))] [(d,0)]):=by
 obtain⟨fs,f,fi,h1,h2,h3,h4,h5⟩:=ht.h;obtain⟨ds,ti,fs',f',g1,g2,g3,g4,g5,g6⟩:=hv;simp only[J3]at sd;rw[h1]at g1;simp at g1;subst g1;rw[h2]at g2;simp at g2;subst g2;rw[h3]at g4;simp at g4;subst g4;intro S';refine wC.value rfl fun a w G gc=>?_
 obtain⟨k1,k2,_⟩:=gc.ent s _ hx;simp only[R]at k2;have k3:=zBy xs [] 0 j u k2 hu;simp only[Jc]at k3;have gf:s≠d:=by grind
 have gU:∀ys,u≠.tup ys:=zBG sd.1.1.2;have hk:=G.put_keep (w:=w) (w':=w) rfl d (fun z=>G.hd s (z++[j]));have hz:∀z,(G.put d (fun z=>G.hd s (z++[j]))).hd d (z++[])=G.hd s (z++[j]):=by grind[Gh.put_self]
 refine⟨sC G s u [j],w,?_,_,vH gc rfl (yE sd.1.1.1.1) (fun z=>G.hd s (z++[j])) (fun z=>gc.mem.one _ _) _ _ (by grind[zAV])
  (zDB (fun p=>G.put_other _ p gf) u [j] [] hz gU (hk.keepR (by grind[zAK,qR])) k3) (qR s u [j])⟩
 obtain⟨l1,l2,e1,e2⟩:=zGG (G:=G) (s:=s) xs sd.1.1.1.2 [] 0 j u hu;simp only[Jc]at e1;have e3:l1.length=f.offset:=by omega
 have e4:=vF (G:=G) (s:=s) u [j] gU;have aA:(part f.type (yJ G s xs [] 0).toArray f.offset).run P w=.ok (sC G s u [j]) w:=by
  rw[e1];cases u with
  |agg ys=>
   simp[T.single]at g5;simp only[vals,T.size]at e4 g6 ⊢
   simp[part,kN g3,g5,sizeOf,typeInfo,h3,sC]
   grind
  |tup ys=>grind
  |_=>
   simp[T.single]at g5;simp[part,kN g3,g5,sC,vals,←e3]
 simp[execOp,wG k1,mkV,Instr.field,run_underlying h1,h2,asAgg,aA]
theorem zBY{α:Type}{t e:TypeId}{ti:TypeInfo}{k:Nat}{u:T}{n:Nat}{a:Int}{f:α→T}{z:α}(ht:ElT P t e ti k u)(hz:f z=u)(hn:yH a=jq n)(hx:opT E x=jq (I a))(hy:opT E y=jq (I a))(sd:J5 d Γ.N=js):
  Ok P Γ ⟨jq d,.makeSlice t x y,ty,ps,af,gd⟩ E (E.app [(d,jq (L k f (J1 n z)))] [(d,0)]):=by
 have:=zQO (P:=P) (Γ:=Γ) (E:=E) (d:=d) (ty:=ty) (ps:=ps) (af:=af) (gd:=gd) ht hn hx hn hy (J7 _) sd;rw[←hz]at this;simpa[L]using this
theorem zKz{t e:TypeId}{ti:TypeInfo}{k:Nat}{u:T}(ht:ElT P t e ti k u)(sd:J5 d Γ.N=js):Ok P Γ ⟨jq d,.buildSlice t 0 #[],ty,ps,af,gd⟩ E (E.app [(d,jq (.sl k []))] [(d,0)]):=
 fun _=>zGu t e ti k rfl rfl (yE sd) ht.un ht.info
theorem zXi{t:TypeId}{s:ByteArray}(hu:P.underlying t=jq .string)(hx:opT E x=jq (Str s))(sd:J5 d Γ.N=js):
  Ok P Γ ⟨jq d,.call { callee:=.builtin .len,args:=#[x],argTypes:=#[t] },ty,ps,af,gd⟩ E (E.app [(d,jq (I s.size))] [(d,0)]):=by
 intro S;refine tX (.int .i64 s.size) rfl rfl (yE sd) fun a w G gc=>?_
 have h1:=(xD gc hx).1;simp[execOp,resolve,invoke,builtin,h1,Builtin.len_,run_underlying hu,goInt]
theorem zK0(t:TypeId)(x y:Value):Op.equal t x y=Op.equalIn (9999+1) t x y:=rfl
end
end Go.Ab

namespace Go.Ab
open Go
def zB0:List Nat→Bool
 | []=>js
 |x::xs=> !xs.contains x&&zB0 xs
theorem zDi:{l:List Nat}→zB0 l=js→l.Nodup
 | [],_=>by simp
 |x::xs,h=>by simp only[zB0,J3,Hz,Lg,decide_eq_false_iff_not]at h;exact Kj.2 ⟨h.1,zDi h.2⟩
def zBZ(E:Env):List yW→Prop
 | []=>True
 |.slot s t::l=>(E s=jq t∧zZ t∧t.okTup=js)∧zBZ E l
 |.zero u::l=>u.zOk=js∧zBZ E l
theorem zBZ.get{E:Env}:(l:List yW)→zBZ E l→(∀s t,yW.slot s t∈l→E s=jq t∧zZ t∧t.okTup=js)∧ ∀u,yW.zero u∈l→u.zOk=js
 | [],_=>⟨fun _ _ h=>by simp at h,fun _ h=>by simp at h⟩
 |.slot s t::l,h=>by
  obtain⟨h1,h2⟩:=zBZ.get l h.2;exact⟨fun s' t' hm=>by
   rcases Js.1 hm with e|hm
   ·cases e;exact h.1
   ·exact h1 s' t' hm,fun u hm=>by
   rcases Js.1 hm with e|hm
   ·cases e
   ·exact h2 u hm⟩
 |.zero u::l,h=>by
  obtain⟨h1,h2⟩:=zBZ.get l h.2;exact⟨fun s' t' hm=>by
   rcases Js.1 hm with e|hm
   ·cases e
   ·exact h1 s' t' hm,fun u' hm=>by
   rcases Js.1 hm with e|hm
   ·cases e;exact h.1
   ·exact h2 u' hm⟩
section
variable {E:Env}
theorem pkN:zBZ E []:=trivial
theorem pkS{s:Nat}{t:T}{l:List yW}(h:E s=jq t)(hc:zZ t)(h3:t.okTup=js)(hl:zBZ E l):zBZ E (.slot s t::l):=⟨⟨h,hc,h3⟩,hl⟩
theorem pkZ{u:T}{l:List yW}(h:u.zOk=js)(hl:zBZ E l):zBZ E (.zero u::l):=⟨h,hl⟩
theorem zBZ.parts{d:Nat}{l:List yW}(h:zBZ E l)(hn:zB0 (d::xT l)=js):tJ E d l:=⟨(zBZ.get l h).1,(zBZ.get l h).2,zDi hn⟩
def zCu(E:Env)(zs:List T)(ps:List yW):List (Nat×Operand)→List (Nat×yW)→Prop
 | [],[]=>True
 |x::xs,q::qs=>(x.1=q.1∧zA6 E x.2 q.2∧ps[q.1]? =jq q.2∧ ∃u,zs[q.1]? =jq u∧u.size=q.2.tree.size)∧zCu E zs ps xs qs
 |_,_=>False
theorem bqN{zs:List T}{ps:List yW}:zCu E zs ps [] []:=trivial
theorem bqC{zs:List T}{ps:List yW}{i:Nat}{x:Operand}{q:yW}{xs:List (Nat×Operand)}{qs:List (Nat×yW)}(h:zA6 E x q)(hl:zCu E zs ps xs qs)(h1:ps[i]? =jq q:=by rfl)(h2:∃u,zs[i]? =jq u∧u.size=q.tree.size:=by exact⟨_,rfl,rfl⟩):zCu E zs ps ((i,x)::xs) ((i,q)::qs):=⟨⟨rfl,h,h1,h2⟩,hl⟩
theorem zCu.ix{zs:List T}{ps:List yW}:(pl:List (Nat×Operand))→(qs:List (Nat×yW))→zCu E zs ps pl qs→pl.map (·.1)=qs.map (·.1)
 | [],[],_=>rfl
 |x::xs,q::qs,h=>by simp[h.1.1,zCu.ix xs qs h.2]
 | [],_::_,h=>by simp[zCu]at h
 |_::_,[],h=>by simp[zCu]at h
theorem zCu.get{zs:List T}{ps:List yW}:(pl:List (Nat×Operand))→(qs:List (Nat×yW))→zCu E zs ps pl qs→ ∀(j:Nat)(x:Nat×Operand)(q:Nat×yW),pl[j]? =jq x→qs[j]? =jq q→zA6 E x.2 q.2∧q.2∈ps∧ ∃u,zs[q.1]? =jq u∧u.size=q.2.tree.size
 | [],[],_,j,_,_,h,_=>by simp at h
 |x::xs,q::qs,h,j,x',q',h1,h2=>by
  cases j with
  |zero=>simp at h1 h2;subst h1;subst h2;exact⟨h.1.2.1,Kx h.1.2.2.1,h.1.2.2.2⟩
  |succ j=>exact zCu.get xs qs h.2 j x' q' (by simpa using h1) (by simpa using h2)
 | [],_::_,h,_,_,_,_,_=>by simp[zCu]at h
 |_::_,[],h,_,_,_,_,_=>by simp[zCu]at h
end
class zGH (P:Program) (t:TypeId) (zs:outParam (List T)):Prop where
 h:∃(place:Nat→Option (Nat×Nat))(z:Value),(∀parts,P.built t parts=Instr.fill place z.cells parts)∧qE zs=z.cells.toList∧zAM zs=js∧ ∀i u,zs[i]? =jq u→place i=jq (T.sizes (zs.take i),u.size)
section
variable {P:Program}{Γ:Ctx}{E E':Env}{d:Nat}{x y:Operand}{ty:TypeId}{ps:String}{af:Array Edge}{gd:Option (Nat×Bool)}
theorem zCa{t:TypeId}{zs:List T}{pa:Array (Nat×Operand)}(hb:zGH P t zs)(pl:List (Nat×Operand))(qs:List (Nat×yW))(pp:List yW)(gD:zBZ E pp)(hq:zCu E zs pp pl qs)(sd:(J5 d Γ.N&&zB0 (d::xT pp))=js)
  (fC:pa=pl.toArray:=by rfl)(gO:qs.foldl (fun ps q=>ps.set q.1 q.2) (zs.map yW.zero)=pp:=by rfl):Ok P Γ ⟨jq d,.build t pa,ty,ps,af,gd⟩ E (E.app ((d,jq (.agg (pp.map yW.tree)))::pWr d pp 0) ((d,0)::sD pp)):=by
 obtain⟨place,z,h1,h2,h3,h4⟩:=hb.h;simp only[J3]at sd;subst fC;exact fun S=>zQ5 t place z zs pl qs pp rfl rfl (yE sd.1) h1 h2 h3 h4 gO (gD.parts sd.2) (zCu.ix _ _ hq) (zCu.get _ _ hq)
def zK1(k:Nat):List yW→Bool
 | []=>js
 |p::l=>(p.tree.size==k)&&zK1 k l
theorem zK2{k:Nat}:(l:List yW)→zK1 k l=js→ ∀p∈l,p.tree.size=k
 | [],_,_,h=>by simp at h
 |p::l,h,q,hm=>by
  simp only[zK1,J3,beq_iff_eq]at h;rcases Js.1 hm with rfl|hm
  ·exact h.1
  ·exact zK2 l h.2 q hm
theorem qX{α:Type}{t e:TypeId}{ti:TypeInfo}{k n:Nat}{u:T}{pa:Array (Nat×Operand)}(ht:ElT P t e ti k u)(xs:List Operand)(pp:List yW)(ys:List α)(f:α→T)(hx:uH E xs pp)(gD:zBZ E pp)
  (sd:(J5 d Γ.N&&zB0 (d::xT pp)&&zK1 k pp&&J5 0 n&&Ut (n*k) 65536)=js)(hn:xs.length=n)(fC:pa=((xs.zipIdx 0).map fun x=>(x.2,x.1)).toArray:=by rfl)(hy:pp.map yW.tree=ys.map f:=by rfl):
  Ok P Γ ⟨jq d,.buildSlice t n pa,ty,ps,af,gd⟩ E (E.app ((d,jq (L k f ys))::pWr d pp 0) ((d,0)::sD pp)):=by
 obtain⟨z,hz,_⟩:=ht.zero;simp only[J3]at sd;subst fC;intro S;have eY:n*k≤65536:=by simpa[Nat.ble_eq]using sd.2
 have:=zH5 (P:=P) (Γ:=Γ.at S) (E:=E) (o:=⟨jq d,.buildSlice t n ((xs.zipIdx 0).map fun x=>(x.2,x.1)).toArray,ty,ps,af,gd⟩) t e ti z k n xs pp rfl rfl (yE sd.1.1.1.1) ht.un ht.info hz ht.size ht.pos hn (yE sd.1.2) (by omega) hx (gD.parts sd.1.1.1.2) (zK2 pp sd.1.1.2);rw[hy]at this;exact this
theorem zK3{α:Type}{f g:α→T}(h:∀y,roT (g y)=f y):(ys:List α)→roT.roTs (ys.map g)=ys.map f
 | []=>rfl
 |y::ys=>by simp only[Jm,roT.roTs,h y,zK3 h ys]
theorem zDN{α:Type}{t e:TypeId}{ti:TypeInfo}{k r:Nat}{q:List Nat}{u:T}{f g:α→T}{xs ys zs:List α}{s0:Nat}(ht:ElT P t e ti k u)(aT:∀y,roT (g y)=f y)(gu:∀y,(g y).size=k)(hg:Enc g)(hv:yC xs ys=jq zs)(h0:E s0=jq (L k f xs))(h1:uJ E y=jq (r,q,.ro (L k g ys)))(sd:(J5 d Γ.N&&(s0 != d))=js):
  Ok P Γ ⟨jq d,.call { callee:=.builtin .append,args:=#[.tmp s0,y],argTypes:=#[t,t] },ty,ps,af,gd⟩ E (E.app [(d,jq (L k f zs)),(s0,jq .any)] [(d,0),(s0,1)]):=by
 obtain⟨rfl,hl⟩:=zEZ hv;obtain⟨z,hz,fm⟩:=ht.zsize;simp only[J3]at sd;intro S;have:=zJd (P:=P) (Γ:=Γ.at S) (E:=E) (o:=⟨jq d,.call { callee:=.builtin .append,args:=#[.tmp s0,y],argTypes:=#[t,t] },ty,ps,af,gd⟩) t e ti z k s0 y r q (xs.map f) (ys.map g) rfl rfl (yE sd.1) ht.un ht.info hz ht.size ht.pos fm ht.bytes h0 h1 (zGD hg.rook ys)
  (by intro v hv;obtain⟨y,_,rfl⟩:=Jh.1 hv;exact gu y) (by simpa using sd.2) (by simpa using hl)
 rw[zK3 aT,←L7]at this;exact this
def xR{α:Type}(xs:List α)(m:Int)(z:α):Option (List α):=if 0≤m∧xs.length+m.toNat≤68719476736 then jq (xs++J1 m.toNat z)else jr
theorem zQU{α:Type}{t t2 e:TypeId}{k2:IntKind}{ti:TypeInfo}{k:Nat}{u:T}{f:α→T}{z:α}{xs zs:List α}{s0:Nat}{m:Int}(ht:ElT P t e ti k u)(cE:P.underlying t2=jq (.int k2))(hz:f z=u)(hv:xR xs m z=jq zs)(h0:E s0=jq (L k f xs))(h1:opT E y=jq (I m))(sd:(J5 d Γ.N&&(s0 != d))=js):
  Ok P Γ ⟨jq d,.call { callee:=.builtin .append,args:=#[.tmp s0,y],argTypes:=#[t,t2] },ty,ps,af,gd⟩ E (E.app [(d,jq (L k f zs)),(s0,jq .any)] [(d,0),(s0,1)]):=by
 unfold xR at hv;split at hv
 ·rename_i hc
  simp at hv;subst hv;obtain⟨zv,mC,dF⟩:=ht.zero;simp only[J3]at sd;obtain⟨n,rfl⟩:∃n:Nat,m=n:=⟨m.toNat,by omega⟩;intro S;have:=zG2 (P:=P) (Γ:=Γ.at S) (E:=E) (o:=⟨jq d,.call { callee:=.builtin .append,args:=#[.tmp s0,y],argTypes:=#[t,t2] },ty,ps,af,gd⟩) t t2 e k2 ti zv u k s0 y .i64 n (xs.map f) rfl rfl (yE sd.1) ht.un cE ht.info mC ht.size ht.pos ht.bytes ht.zok dF ht.us h0 h1
   (by simpa using sd.2) (by simp at hc ⊢;omega)
  have e:xs.map f++J1 n u=(xs++J1 n z).map f:=by simp[hz]
  rw[e]at this;have h2:((n:Int)).toNat=n:=by simp
  rw[h2];exact this
 ·cases hv
end
section
variable {Γ:Ctx}{E:Env}
theorem zE.trq(d r:Nat)(q:List Nat){tr u tr':T}(hd:E d=jq (.same r q))(hr:E r=jq tr)(hg:tr.get q.reverse=jq u)(ez:zZ u)(sd:(u.single&&wL tr&&tr.okB [(d,1),(r,q.length+1)]&&(d != r))=js)(gm:(if q=[]then .same d []else tr.set q.reverse .any)=tr':=by rfl):
  zE Γ E (E.app [(d,jq u),(r,jq tr')] [(d,1),(r,q.length+1)]):=by
 simp only[J3]at sd
 rintro a w ⟨S,hS,hs⟩
 have gf:d≠r:=by simpa using sd.2
 have:=zLX hs d [] r q (.same r q) tr u hd rfl hr hg sd.1.1.1 ez gf (by simp[T.okB,zAF,gf]) sd.1.2 rfl sd.1.1.2;subst gm;exact⟨S,hS,this⟩
theorem zE.trf(d:Nat)(g:List Nat)(r:Nat)(q:List Nat)(td tr:T){u td' tr':T}(hd:E d=jq td)(pQ:td.get g.reverse=jq (.same r q))(hr:E r=jq tr)(hg:tr.get q.reverse=jq u)(gm:td.set g.reverse u=td')(ez:zZ u)
  (sd:(u.single&&wL td&&wL tr&&td.okB [(d,g.length+1),(r,q.length+1)]&&tr.okB [(d,g.length+1),(r,q.length+1)]&&(d != r))=js)(cG:(if q=[]then .same d g else tr.set q.reverse .any)=tr':=by rfl):
  zE Γ E (E.app [(d,jq td'),(r,jq tr')] [(d,g.length+1),(r,q.length+1)]):=by
 simp only[J3]at sd
 rintro a w ⟨S,hS,hs⟩
 have gf:d≠r:=by simpa using sd.2
 have:=zLX hs d g r q td tr u hd pQ hr hg sd.1.1.1.1.1 ez gf sd.1.1.2 sd.1.2 sd.1.1.1.1.2 sd.1.1.1.2;subst gm cG;exact⟨S,hS,this⟩
theorem zE.frz{α:Type}(s:Nat){k:Nat}{f g:α→T}(xs:List α)(hs:E s=jq (L k f xs))(h:xL f g):zE Γ E (E.app [(s,jq (.ro (L k g xs)))] [(s,1)]):=by have:=zE.freeze (Γ:=Γ) s _ hs;simp only[vQ,strip,tD h.h xs]at this;exact this
theorem zE.res(d r:Nat)(q:List Nat)(tr:T){u:T}(hd:E d=jq (.same r q))(hr:E r=jq tr)(hg:tr.get q.reverse=jq (.ro u)):zE Γ E (E.app [(d,jq (.ro u))] []):=by
 rintro a w ⟨S,hS,gJ,G,gc⟩
 refine⟨S,hS,gJ,G,?_⟩;have hk:sG [] G w G w:=⟨fun _ _ _=>rfl,fun _ _ _=>rfl,fun _ _ _ _ _ _ h _=>⟨h,rfl⟩,fun _ _ _ h _=>h,fun b cs e h=>⟨cs,h,rfl⟩,by intros;assumption⟩;refine wQ gc rfl hk gc.mem (fun s _=>⟨fun n hn=>by simp at hn,rfl⟩) fun s t hs=>?_
 simp only[Wr.find]at hs;split at hs
 ·rename_i e;subst e
  simp at hs;subst hs;obtain⟨h1,h2,_⟩:=gc.ent d _ hd;obtain⟨_,h4,_⟩:=gc.ent r _ hr;simp only[R]at h2;have h5:=(zBo q.reverse tr _ [] h4 hg).1;simp only[rp,Ki,Jk,R]at h5;exact⟨by rw[h1];rfl,by simp only[R];rw[h2];exact h5,by simp[Top]⟩
 ·cases hs
end
theorem zJm:(p:List Nat)→ ∀(t u0 a:T),t.get p=jq u0→(t.set p a).get p=jq a
 | [],t,_,a,_=>by cases t<;>cases a<;>rfl
 |i::p,t,u0,a,h=>by
  cases t with
  |sl k xs|agg xs|tup xs=>
   simp only[T.get,T.set]at h ⊢
   cases hx:xs[i]? with
   |none=>rw[hx]at h;cases h
   |some x=>
    rw[hx]at h;have hi:=(Ja.1 hx).1;simp only[];simp only[T.get,Jaa hi];exact zJm p x u0 a h
  |ptr t=>
   simp only[T.get,T.set]at h ⊢
   split at h
   ·rename_i e;subst e;simp only[if_true,T.get];exact zJm p t u0 a h
   ·cases h
  |_=>simp[T.get]at h
theorem set_set:(p:List Nat)→ ∀(t u0 a b:T),t.get p=jq u0→(t.set p a).set p b=t.set p b
 | [],t,_,a,_,_=>by cases t<;>cases a<;>rfl
 |i::p,t,u0,a,b,h=>by
  cases t with
  |sl k xs|agg xs|tup xs=>
   simp only[T.get,T.set]at h ⊢
   cases hx:xs[i]? with
   |none=>rw[hx]at h;cases h
   |some x=>
    rw[hx]at h;have hi:=(Ja.1 hx).1;simp only[];simp only[T.set,Jaa hi,List.set_set,set_set p x u0 a b h]
  |ptr t=>
   simp only[T.get,T.set]at h ⊢
   split at h
   ·rename_i e;subst e;simp only[if_true,T.set,set_set p t u0 a b h]
   ·cases h
  |_=>simp[T.get]at h
def jT:T→Bool
 |.sl _ _|.ptr _=>js
 |_=>jt
theorem zQV{t:T}(h:jT t=js)(p:List Nat){u:T}(hp:p≠[]):jT (t.set p u)=js:=by
 cases p with
 |nil=>exact absurd rfl hp
 |cons i p=>cases t<;>simp[jT]at h<;>simp only[T.set]<;>split<;>rfl
theorem tA{t:T}(h:jT t=js)(chg:Chg):t.okB chg=js∧wL t=js∧t.single=js:=by cases t<;>simp[jT]at h<;>simp[T.okB,wL,T.single]
section
variable {P:Program}{Γ:Ctx}{E E':Env}{d:Nat}{ty:TypeId}{ps:String}{af:Array Edge}{gd:Option (Nat×Bool)}
theorem agM{E:Env}{rw:Rw}{i:Nat}{x:Operand}{u:T}(t:T)(h:opT E x=jq t)(h1:clo E t=u)(h2:zHQ E (rw.map (·.2.1)) x t=js):zBD E rw i x u:=.inr ⟨t,h,h1,h2⟩
theorem zFd{E:Env}{rw:Rw}{i s:Nat}{u u':T}(h:E s=jq u)(hc:zZ u)(hr:vG u=js)(hs:u.okTup=js:=by rfl)(hm:(i,s,u')∈rw:=by exact List.mem_singleton.2 rfl):zBD E rw i (.tmp s) u:=.inl ⟨s,u',rfl,hm,h,hc,hs,hr⟩
abbrev vC(E:Env)(ds r:Nat)(q:List Nat)(tr u:T):Env:=E.app [(ds,jq u),(r,jq (if q=[]then .same ds []else tr.set q.reverse .any))] [(ds,1),(r,q.length+1)]
theorem zFS{f:FuncId}{xs:List Operand}{ats:Array TypeId}{us res:List T}{tr u u' tr':T}(i ds r:Nat)(q:List Nat)(gr:zA7 P f)(hc:FnC P f us res [(i,u')])(hs:E ds=jq (.same r q))(hr:E r=jq tr)(hq:tr.get q.reverse=jq u)
  (ez:zZ u)(ej:zZ u')(_:vG u=js)(mR:vG u'=js)(gj:wD (vC E ds r q tr u) [(i,ds,u')] 0 xs us)(gy:zCr res)(gm:tr.set q.reverse u'=tr')
  (sd:(J5 d Γ.N&&(d != ds)&&(d != r)&&(ds != r)&&jT u&&jT u'&&jT tr)=js)(hx:xs[i]? =jq (.tmp ds))(hu:us[i]? =jq u):
  Ok P Γ ⟨jq d,.call { callee:=.value (.func f),args:=xs.toArray,argTypes:=ats },ty,ps,af,gd⟩ E ((((vC E ds r q tr u).app (cWr d res [(i,ds,u')]) (vP d [(i,ds,u')]))).app [(r,jq tr'),(ds,jq (.same r q))] [(r,q.length+1),(ds,1)]):=by
 simp only[J3]at sd;obtain⟨⟨⟨⟨⟨⟨s1,s2⟩,s3⟩,s4⟩,s5⟩,s6⟩,s7⟩:=sd;have d1:d≠ds:=by simpa using s2
 have d2:d≠r:=by simpa using s3
 have d3:ds≠r:=by simpa using s4
 obtain⟨u1,u2,u3⟩:=tA s5 [];obtain⟨v1,v2,v3⟩:=tA s6 [];have bq:cLv u'=1:=by simp[cLv,v3]
 subst gm;intro S
 by_cases bU:q=[]
 ·subst bU
  have htu:tr=u:=by
   have:tr.get []=jq tr:=by cases tr<;>rfl
   simp only[H7]at hq;rw[this]at hq;exact Ls.inj hq
  subst htu;have ma:∀a b:T,a.set [] b=b:=fun a b=>by cases a<;>rfl
  have bI:(vC E ds r [] tr tr) ds=jq tr:=by simp[vC,Env.app,Wr.find]
  have po:((vC E ds r [] tr tr).app (cWr d res [(i,ds,u')]) (vP d [(i,ds,u')])) r=jq (.same ds []):=by
   have h1:(vC E ds r [] tr tr) r=jq (.same ds []):=by simp[vC,Env.app,Wr.find,d3]
   have h2:(cWr d res [(i,ds,u')]).find r=jr:=by simp[cWr,Wr.find,d2,d3]
   have h3:(T.same ds []).okB (vP d [(i,ds,u')])=js:=by simp[T.okB,zAF,vP,d1,bq]
   simp only[Env.app,h2,h1,h3,if_true]
  have pq:((vC E ds r [] tr tr).app (cWr d res [(i,ds,u')]) (vP d [(i,ds,u')])) ds=jq u':=by simp[Env.app,Wr.find,cWr,d1]
  have:=zKu (P:=P) (Γ:=Γ.at S) (E:=E) (o:=⟨jq d,.call { callee:=.value (.func f),args:=xs.toArray,argTypes:=ats },ty,ps,af,gd⟩) f (.func f) xs ats us res i ds r [] tr tr u' rfl rfl (yE s1) gr rfl hs hr hq u3 ez d3 d2 (tA s7 _).1 (tA s7 []).2.1
   (vC E ds r [] tr tr) _ rfl rfl hc gj (.one d1 hx ej v3 mR bI u3 hu) gy (.same ds []) (.same ds []) po rfl rfl pq ej v3 (by simp[T.okB,zAF]) rfl (tA s6 _).1 v2
  rw[H7,ma]at this ⊢
  exact this
 ·have iw:q.reverse≠[]:=by simpa using bU
  have bI:(vC E ds r q tr u) ds=jq u:=by simp[vC,Env.app,Wr.find]
  have jk:=zQV s7 q.reverse (u:=.any) iw;have po:((vC E ds r q tr u).app (cWr d res [(i,ds,u')]) (vP d [(i,ds,u')])) r=jq (tr.set q.reverse .any):=by
   have h1:(vC E ds r q tr u) r=jq (tr.set q.reverse .any):=by simp[vC,Env.app,Wr.find,d3,bU]
   have h2:(cWr d res [(i,ds,u')]).find r=jr:=by simp[cWr,Wr.find,d2,d3]
   simp[Env.app,h2,h1,(tA jk _).1]
  have pq:((vC E ds r q tr u).app (cWr d res [(i,ds,u')]) (vP d [(i,ds,u')])) ds=jq u':=by simp[Env.app,Wr.find,cWr,d1]
  have:=zKu (P:=P) (Γ:=Γ.at S) (E:=E) (o:=⟨jq d,.call { callee:=.value (.func f),args:=xs.toArray,argTypes:=ats },ty,ps,af,gd⟩) f (.func f) xs ats us res i ds r q tr u u' rfl rfl (yE s1) gr rfl hs hr hq u3 ez d3 d2 (tA s7 _).1 (tA s7 []).2.1
   (vC E ds r q tr u) _ rfl rfl hc gj (.one d1 hx ej v3 mR bI u3 hu) gy (tr.set q.reverse .any) .any po (zJm _ _ _ _ hq) rfl pq ej v3 (tA jk _).1 (tA jk []).2.1 (tA s6 _).1 v2
  rw[set_set _ _ _ _ _ hq]at this;exact this
theorem zFT{f:FuncId}{xs:List Operand}{ats:Array TypeId}{us res:List T}{xf:Operand}(hf:opT E xf=jq (.lit (.func (.func f) #[] #[])))(gr:zA7 P f)(hc:FnC P f us res [])(gj:wD E [] 0 xs us)(gy:zCr res)(sd:J5 d Γ.N=js):
  Ok P Γ ⟨jq d,.call { callee:=.value xf,args:=xs.toArray,argTypes:=ats },ty,ps,af,gd⟩ E (E.app (cWr d res []) (vP d [])):=
 fun _=>zJg f xf xs ats us res [] rfl rfl (yE sd) gr hf hc gj .nil gy
def zDO(E:Env):List Operand→List T→Prop
 | [],[]=>True
 |x::xs,u::us=>(opT E x=jq u∧u.flat=js)∧zDO E xs us
 |_,_=>False
theorem afN:zDO E [] []:=trivial
theorem afC{x:Operand}{xs:List Operand}{u:T}{us:List T}(h:opT E x=jq u)(h1:u.flat=js)(h2:zDO E xs us):zDO E (x::xs) (u::us):=⟨⟨h,h1⟩,h2⟩
theorem zDO.get:(xs:List Operand)→(us:List T)→zDO E xs us→ ∀(i:Nat) u,us[i]? =jq u→ ∃x,xs[i]? =jq x∧opT E x=jq u∧u.flat=js
 | [],[],_,i,u,h=>by simp at h
 |x::xs,v::us,h,i,u,hi=>by
  cases i with
  |zero=>simp at hi;subst hi;exact⟨x,by simp,h.1⟩
  |succ i=>obtain⟨y,h1,h2⟩:=zDO.get xs us h.2 i u (by simpa using hi);exact⟨y,by simpa using h1,h2⟩
 | [],_::_,h,_,_,_=>by simp[zDO]at h
 |_::_,[],h,_,_,_=>by simp[zDO]at h
theorem zNC{f:FuncId}{xs:List Operand}{ats:Array TypeId}{us res:List T}(gr:zA7 P f)(hc:FnC P f us res [])(ha:zDO E xs us)(gv:xs.length=us.length)(gy:xE res)(eK:yU res=js)(sd:J5 d Γ.N=js):
  Ok P Γ ⟨jq d,.call { callee:=.value (.func f),args:=xs.toArray,argTypes:=ats },ty,ps,af,gd⟩ E (E.app (cWr d res []) (vP d [])):=
 zTP gr hc gv (zDO.get _ _ ha) ⟨gy,eK⟩ sd
end
noncomputable def zD7 {α:Type} (g:Nat→Option α):Option α:=
 open Classical in if h:∃r,∃n,∀m,n≤m→g m=jq r then jq h.choose else jr
theorem zAY{α:Type}{g:Nat→Option α}{r:α}(h:zD7 g=jq r):∃n,g n=jq r:=by
 unfold zD7 at h;split at h
 ·rename_i he
  simp at h;obtain⟨n,hn⟩:=he.choose_spec;exact⟨n,by rw[←h];exact hn n (J7 _)⟩
 ·cases h
theorem zCA{α:Type}{g:Nat→Option α}{r:α}(n:Nat)(h:∀m,n≤m→g m=jq r):zD7 g=jq r:=by have he:∃r,∃n,∀m,n≤m→g m=jq r:=⟨r,n,h⟩;unfold zD7;rw[dif_pos he];obtain⟨n',hn'⟩:=he.choose_spec;have h1:=h (max n n') (by omega);have h2:=hn' (max n n') (by omega);rw[h1]at h2;exact h2.symm
end Go.Ab

namespace Go.Ab
open Go
section
variable {P:Program}{Γ:Ctx}{ops:Array Oper}{o:Oper}{E:Env}
theorem yT.skipW{d:Nat}(hd:o.dst=jq d)(sd:J5 d Γ.N=js)(hw:∀(a:Act)(w:World),jW Γ E a w→Region.wanted o (yielded ops a.tmps)=jt):yT P Γ ops o E (E.app [(d,jq (.tup []))] [(d,0)]):=by
 intro a w K Q hs hK;rw[if_neg (by grind)];obtain⟨S,hS,gJ,G,gc⟩:=hs;refine hK _ _ ⟨S,hS,by rw[hd];exact gJ,G.put d (fun _=>.bool jt),?_⟩ ?_
 ·rw[hd]
  have hu:(Value.bool jt).oneCell'=js:=rfl;refine wQ gc (by simp[Act.put]) (G.put_keep rfl d _) (gc.mem.put rfl d _ fun _=>hu) ?_ ?_
  ·grind[uL,Act.put]
  ·intro s t' hs
   rw[uL]at hs;split at hs
   ·rename_i e;subst e
    simp at hs;subst hs;have gu:=gc.size;have gE:=yE sd;refine⟨?_,by simp[R,RF],by simp[Top,vV]⟩
    grind[Act.put,mkV,kM,undef]
   ·cases hs
 grind[Act.put]
theorem yT.skip2{d:Nat}(g:Nat)(b b':Bool)(s:Nat)(hd:o.dst=jq d)(sd:J5 d Γ.N=js)(fa:(b==b')=jt)(hg:o.guard=jq (g,b))(gW:(ops[g]?).bind (·.dst)=jq s)(hb:E s=jq (.lit (.bool b'))):
  yT P Γ ops o E (E.app [(d,jq (.tup []))] [(d,0)]):=.skipW hd sd fun a w hs=>by
 simp only[Region.wanted,hg,zG6 hs gW hb]
 grind
theorem yT.skip3{d:Nat}(g:Nat)(b:Bool)(s:Nat)(hd:o.dst=jq d)(sd:J5 d Γ.N=js)(hg:o.guard=jq (g,b))(gW:(ops[g]?).bind (·.dst)=jq s)(hb:E s=jq (.tup [])):
  yT P Γ ops o E (E.app [(d,jq (.tup []))] [(d,0)]):=.skipW hd sd fun a w hs=>by
 obtain⟨_,_,_,G,hr⟩:=hs;obtain⟨h1,_,_⟩:=hr.ent s _ hb
 grind[Region.wanted,yielded,mkV]
theorem yT.opE{E1 E':Env}(h:Ok P Γ o E E1)(e:E1=E')(hg:o.guard=jr:=by rfl):yT P Γ ops o E E':=e▸yT.op h hg
end
def wE(Γ:Ctx)(P:Program)(rs:Array ResultVar)(us res:List T)(rws:List (Nat×T)):Exit→Env→Prop:=fun e E=> ∃E',zE Γ E E'∧zYM P rs us res rws e E'
theorem FnC.of_bodyG{P:Program}{f:FuncId}{fn:Func}{c:Code}{us res:List T}{rws:List (Nat×T)}(hf:P.funcs[f]? =jq fn)(hb:fn.body=jq c)(hn:us.length≤fn.ntmps)(ht:vV us)(hr:rws.all (fun x=>decide (x.1<us.length))=js)
  (h:∀(Γ:Ctx)(v:Nat→Value),Γ.N=fn.ntmps→CW P Γ (zC6 v (rws.map (·.1))) c (xK (zH6 0 us)) (wE Γ P fn.results us res rws)):FnC P f us res rws:=by
 refine FnC.of_body hf hb hn ht hr fun Γ v hN=>?_
 intro a w Q' hs hp hQ;refine h Γ v hN a w Q' hs hp ?_
 rintro e E a' w' ⟨E',hg,hq⟩ gG cb
 exact hQ e E' a' w' hq (hg a' w' gG) cb
def zTS(t:T):Prop:=zZ t∧vG t=js∧strip t=t∧t.okTup=js∧zFH t=js
def zQW:List T→Prop
 | []=>True
 |x::xs=>zTS x∧zQW xs
theorem Enc.t{α:Type}{f:α→T}(h:Enc f)(x:α):zTS (f x):=⟨h.clean x,h.rofree x,h.strip x,h.okTup x,h.rook x⟩
theorem Enc.of{α:Type}{f:α→T}(h:∀x,zTS (f x)):Enc f:=⟨fun x=>(h x).1,fun x=>(h x).2.1,fun x=>(h x).2.2.1,fun x=>(h x).2.2.2.1,fun x=>(h x).2.2.2.2⟩
theorem zK4{xs:List T}(h:zQW xs):zTS (.agg xs):=by
 have key:∀xs:List T,zQW xs→xE xs∧uM xs=js∧wX xs=xs∧yU xs=js∧zCp xs=js:=by
  intro xs
  induction xs with
  |nil=>intro _;exact⟨trivial,rfl,rfl,rfl,rfl⟩
  |cons x xs ih=>
   rintro⟨⟨h1,h2,h3,h4,h5⟩,h⟩
   obtain⟨g1,g2,g3,g4,g5⟩:=ih h;exact⟨⟨h1,g1⟩,by grind[uM],by grind[wX],by grind[yU],by grind[zCp]⟩
 obtain⟨g1,g2,g3,g4,g5⟩:=key xs h;exact⟨zR g1,by grind[vG],by grind[strip],by grind[T.okTup],by grind[zFH]⟩
end Go.Ab

namespace Go.Ab
open Go
section
variable {Γ:Ctx}{E:Env}{d:Nat}
def Gh.cut(G:Gh)(d s0 b lo hi:Nat)(v:Value):Gh where
 hd s z:=if s=d then(if z=[]then v else G.hd s0 z)else G.hd s z
 ad s z:=if s=d then G.ad s0 z else G.ad s z
 lb b' o:=if b'=b∧lo≤o∧o<hi then jq (js,d,[])else match G.lb b' o with
  |some (f,s,z)=>if s=s0 then jq (f,d,z)else jq (f,s,z)
  |none=>jr
 ow b':=match G.ow b' with
  |some (s,z)=>if s=s0 then jq (d,z)else jq (s,z)
  |none=>jr
theorem zND{G:Gh}{tmps:Array Value}{w:World}(gc:Rep Γ E G tmps w)(hd:d<Γ.N){s0 k h cap':Nat}{xs:List T}(hZ:E s0=jq (.sl k xs))(gf:s0≠d)(hk:0<k)
  {b o0 cap:Nat}{cs:Array Value}{e:TypeId}(h1:G.hd s0 []=.slice (jq ⟨b,o0,jr⟩) xs.length cap)(h2:w.heap[b]? =jq (.cells cs e (0,0)))(_h3:xs.length≤cap)(h4:cap≤maxLen)(h5:o0+cap*k≤cs.size)(h6:G.ow b=jq (s0,[]))
  (h7:∀o,o0+xs.length*k≤o→o<o0+cap*k→G.lb b o=jq (js,s0,[]))(h8:RL Γ.St G w s0 xs [] 0 b o0 k)(hh:h≤xs.length)(hc:h≤cap')(pm:cap'≤cap):
  ∃G',Rep Γ (E.app [(d,jq (.sl k (xs.take h))),(s0,jq .any)] [(d,0),(s0,1)]) G' (tmps.setIfInBounds d (.slice (jq ⟨b,o0,jr⟩) h cap')) w:=by
 have hm:=gc.mem;obtain⟨e1,_,e3⟩:=gc.ent s0 _ hZ
 let v:Value:=.slice (jq ⟨b,o0,jr⟩) h cap'
 let G':=G.cut d s0 b (o0+h*k) (o0+cap'*k) v
 have gA:=hm.ow b _ h6;have mu:∀o f z i,o0+h*k≤o→o<o0+cap'*k→G.lb b o=jq (f,s0,z++[i])→h≤i:=by
  intro o f z i ch fN hl;obtain⟨o,rfl⟩:∃o',o=o0+o':=⟨o-o0,by have:o0≤o0+h*k:=Nat.le_add_right _ _;omega⟩
  replace ch:h*k≤o:=by omega
  by_cases ho:o<xs.length*k
  ·have hj:o/k<xs.length:=(Nat.div_lt_iff_lt_mul hk).2 ho
   obtain⟨g1,g2,_⟩:=qC xs [] 0 b o0 k (o/k) xs[o/k] h8 (by simp[hj]);obtain⟨y,hy⟩:=zIX xs[o/k] _ b _ (o%k) g1 (by rw[g2];exact Nat.mod_lt _ hk);rw[Jc,Lu,Nat.mul_comm,Nat.div_add_mod,hl]at hy;simp only[Ls.injEq,Q6.injEq]at hy;have:=hy.2.2;have hi:i=o/k:=by have:=congrArg List.getLast? this;simpa using this
   rw[hi];exact(Nat.le_div_iff_mul_le hk).2 ch
  ·have:=h7 (o0+o) (by omega) (by have:=Lh k pm;omega)
   rw[hl]at this;simp at this
 have glb:∀b' o f z,G.lb b' o=jq (f,s0,z)→ ¬(b'=b∧o0+h*k≤o∧o<o0+cap'*k)→G'.lb b' o=jq (f,d,z):=fun b' o f z hl hn=>by show(if _ then _ else _)=_;rw[if_neg hn];simp[hl]
 have gow:∀b' z,G.ow b'=jq (s0,z)→G'.ow b'=jq (d,z):=fun b' z hl=>by simp[G',Gh.cut,hl]
 have mv:∀i,i<h→zGj G w G' w s0 [i] d [i]:=fun i hi=>by
  have hn:∀b' o f z,G.lb b' o=jq (f,s0,z++[i])→ ¬(b'=b∧o0+h*k≤o∧o<o0+cap'*k):=by
   rintro b' o f z hl ⟨rfl,ch,fN⟩
   have:=mu o f z i ch fN hl;omega
  refine⟨⟨fun z=>by simp[G',Gh.cut],fun z _=>by simp[G',Gh.cut],fun b' o f z _ _ hl=>⟨glb _ _ _ _ hl (hn _ _ _ _ hl),rfl⟩,fun b' z _ hl=>gow _ _ hl,fun b' cs' e' hb=>⟨cs',hb,rfl⟩,by intros;assumption⟩,fun b' o _ hl=>⟨glb _ _ _ _ hl (hn b' o js [] (by simpa using hl)),rfl⟩,fun b' hl=>gow _ _ hl⟩
 have gw:sG [(d,0),(s0,1)] G w G' w:=by
  refine⟨fun s p ho=>?_,fun s p ho=>?_,fun b' o f s p gP hl hs=>?_,fun b' s p hl hs=>?_,fun b' cs' e' hb=>⟨cs',hb,rfl⟩,by intros;assumption⟩
  ·have:s≠d:=fun e=>absurd (ho 0 (by simp[e])) (by simp)
   simp[G',Gh.cut,this]
  ·have:s≠d:=fun e=>absurd (ho 0 (by simp[e])) (by simp)
   simp[G',Gh.cut,this]
  ·have ek:s≠s0:=fun e=>hs 1 (by simp[e])
   obtain⟨y,hy⟩:=gP;have fa:b'≠b:=by
    rintro rfl
    rw[h6]at hy;simp at hy;exact ek hy.1.symm
   refine⟨?_,rfl⟩;show(if _ then _ else _)=_;rw[if_neg (fun hn=>fa hn.1)];simp[hl,ek]
  ·have ek:s≠s0:=fun e=>hs 1 (by simp[e])
   simp[G',Gh.cut,hl,ek]
 have gz:Mem Γ G' w:=by
  refine⟨fun s z=>?_,fun b' o l hl=>?_,fun b' l hl=>?_,hm.st,hm.fr,hm.sz,hm.bk⟩
  ·show(if _ then _ else _:Value).oneCell'=js
   split
   ·split
    ·rfl
    ·exact hm.one _ _
   ·exact hm.one _ _
  ·change(if _ then _ else _)=_ at hl
   split at hl
   ·rename_i hn;rw[hn.1];exact gA
   ·cases hg:G.lb b' o with
    |none=>simp[hg]at hl
    |some x=>exact hm.lb b' o x hg
  ·cases hg:G.ow b' with
   |none=>simp[G',Gh.cut,hg]at hl
   |some x=>exact hm.ow b' x hg
 refine⟨G',wQ gc (by simp) gw gz ?_ ?_⟩
 ·intro s hs
  have eU:s≠d:=by rintro rfl;simp[Wr.find]at hs
  have eV:s≠s0:=by rintro rfl;simp[Wr.find,gf.symm]at hs
  exact⟨fun n hn=>by simp at hn;rcases hn with h|h;exact eU h.1;exact eV h.1,by rw[J6];simp[eU.symm]⟩
 ·intro s t' hs
  by_cases ek:s=d
  ·subst ek
   simp[Wr.find]at hs;subst hs;have gv:(xs.take h).length=h:=by simp;omega
   simp only[Top]at e3;have iS:∀ys:List T,xE ys→ ∀n,xE (ys.take n):=by
    intro ys
    induction ys with
    |nil=>intro _ n;simp[xE,xX]
    |cons y ys ih=>intro hy n;cases n with
     |zero=>simp[xE,xX]
     |succ n=>exact⟨hy.1,ih hy.2 n⟩
   refine⟨?_,?_,by simp only[Top];exact iS xs e3 h⟩
   ·rw[J6]
    simp[gc.size,hd,mkV,G',Gh.cut,v]
   ·simp only[R]
    refine .inr ⟨b,o0,cap',cs,e,by rw[gv];simp[G',Gh.cut,v],h2,by omega,by omega,by have:=Lh k pm;omega,gow b _ h6,fun o ch fN=>?_,?_⟩
    ·rw[gv]at ch
     show(if _ then _ else _)=_;rw[if_pos ⟨rfl,ch,fN⟩]
    ·refine zDH _ [] 0 b o0 fun i x hx=>?_
     rw[Ln]at hx;split at hx
     ·rename_i hi
      obtain⟨g1,g2,g3⟩:=qC xs [] 0 b o0 k i x h8 hx;rw[Jc]at g1 g3 ⊢
      refine⟨?_,g2,zAn (mv i hi) x (xC.mono (fun _ _=>False.elim) _ (vZ xs e3 i x hx)) g3⟩;refine zEm x [i] [i] b _ (fun z=>by simp[G',Gh.cut]) (fun z=>by simp[G',Gh.cut]) (fun b' o z hl=>⟨glb _ _ _ _ hl ?_,rfl⟩) g1
      rintro⟨rfl,ch,fN⟩
      have:=mu o jt z i ch fN hl;omega
     ·cases hx
  ·have h9:s=s0∧t'=.any:=by
    simp only[Wr.find]at hs;rw[if_neg (fun h=>ek h.symm)]at hs;split at hs
    ·rename_i h;simp at hs;exact⟨h.symm,hs.symm⟩
    ·cases hs
   obtain⟨rfl,rfl⟩:=h9;refine⟨?_,by simp only[R],by simp[Top]⟩;rw[J6];simp only[Ne.symm ek,if_false,mkV];rw[e1,xF rfl];simp[G',Gh.cut,ek]
theorem zK5{G:Gh}{tmps:Array Value}{w:World}(gc:Rep Γ E G tmps w)(hd:d<Γ.N){s0 k:Nat}(hZ:E s0=jq (.sl k []))(gf:s0≠d)(a:Option Addr):
  ∃G',Rep Γ (E.app [(d,jq (.sl k [])),(s0,jq .any)] [(d,0),(s0,1)]) G' (tmps.setIfInBounds d (.slice a 0 0)) w:=by
 obtain⟨e1,_,_⟩:=gc.ent s0 _ hZ;refine⟨G.put d (fun _=>.slice a 0 0),?_⟩;have hk:sG [(d,0),(s0,1)] G w (G.put d fun _=>.slice a 0 0) w:=by have h0:=G.put_keep (w:=w) (w':=w) rfl d (fun _=>.slice a 0 0);refine⟨fun s p ho=>h0.hd s p (fun n hn=>ho n (by simp at hn ⊢;exact .inl hn)),fun s p ho=>h0.ad s p (fun n hn=>ho n (by simp at hn ⊢;exact .inl hn)),fun b o f s p h1 h2 h3=>h0.lb b o f s p h1 h2 (fun n hn=>h3 n (by simp at hn ⊢;exact .inl hn)),fun b s p h1 h3=>h0.ow b s p h1 (fun n hn=>h3 n (by simp at hn ⊢;exact .inl hn)),h0.blk,by intros;assumption⟩
 refine wQ gc (by simp) hk (gc.mem.put rfl d _ (fun _=>rfl)) ?_ ?_
 ·intro s hs
  have eU:s≠d:=by rintro rfl;simp[Wr.find]at hs
  have eV:s≠s0:=by rintro rfl;simp[Wr.find,gf.symm]at hs
  exact⟨fun n hn=>by simp at hn;rcases hn with h|h;exact eU h.1;exact eV h.1,by rw[J6];simp[eU.symm]⟩
 ·intro s t' hs
  by_cases ek:s=d
  ·subst ek
   simp[Wr.find]at hs;subst hs;refine⟨by rw[J6];simp[gc.size,hd,mkV,Gh.put],by simp only[R];exact .inl ⟨trivial,a,by simp[Gh.put]⟩,by simp[Top,xE,xX]⟩
  ·have h9:s=s0∧t'=.any:=by
    simp only[Wr.find]at hs;rw[if_neg (fun h=>ek h.symm)]at hs;split at hs
    ·rename_i h;simp at hs;exact⟨h.symm,hs.symm⟩
    ·cases hs
   obtain⟨rfl,rfl⟩:=h9;refine⟨?_,by simp only[R],by simp[Top]⟩;rw[J6];simp only[Ne.symm ek,if_false,mkV];rw[e1,xF rfl];simp[Gh.put,ek]
end
section
variable {P:Program}{Γ:Ctx}{pn:sJ}{E E':Env}{Q:Exit→Env→Prop}{d:Nat}{x y:Operand}{ty:TypeId}{ps:String}{af:Array Edge}{gd:Option (Nat×Bool)}
theorem zQX{α:Type}{t e:TypeId}{ti:TypeInfo}{s0 k:Nat}{f:α→T}{xs ys:List α}{mx:Option Operand}{h:Int}{u:T}(ht:ElT P t e ti k u)(hv:zQ xs 0 h=jq ys)(h0:E s0=jq (L k f xs))(hy:opT E y=jq (I h))(dv:mx=jr∨ ∃z,mx=jq z∧opT E z=jq (I h))(sd:(J5 d Γ.N&&(s0 != d))=js):
  Ok P Γ ⟨jq d,.slice t (.tmp s0) jr (jq y) mx,ty,ps,af,gd⟩ E (E.app [(d,jq (L k f ys)),(s0,jq .any)] [(d,0),(s0,1)]):=by
 obtain⟨_,ck,eY,rfl⟩:=uO hv;simp only[J3]at sd;have gf:s0≠d:=by simpa using sd.2
 obtain⟨n,rfl⟩:∃n:Nat,h=n:=⟨h.toNat,by omega⟩;have hn:n≤xs.length:=by omega
 intro S;refine wC.value rfl fun a w G gc=>?_
 obtain⟨e1,e2,_⟩:=gc.ent s0 _ h0;have fc:=(xD gc hy).1;have eM:a.eval (.tmp s0)=G.hd s0 []:=by rw[wG e1,xF rfl]
 have cm:=ht.un;have gR:=ht.info;have gu:=ht.size;have pe:List.map f ((xs.drop (0:Int).toNat).take ((n:Int).toNat-(0:Int).toNat))=(xs.map f).take n:=by simp[U8]
 rw[show L k f ((xs.drop (0:Int).toNat).take ((n:Int).toNat-(0:Int).toNat))=.sl k ((xs.map f).take n)by simp only[L,pe]];have e2':=e2;simp only[R]at e2;rcases e2 with⟨bo,ad,h1⟩|⟨b,o0,cap,cs,e',h1,h2,h3,h4,h5,h6,h7,h8⟩
 ·have eE:xs=[]:=by simpa using bo
  subst eE;simp at hn;subst hn;obtain⟨G',gk⟩:=zK5 gc (yE sd.1) (k:=k) (by rw[h0];rfl) gf ad;refine⟨_,w,?_,G',by simpa using gk⟩;rcases dv with rfl|⟨z,rfl,hz⟩
  ·simp[execOp,Instr.sliceAt,Instr.slice,run_underlying cm,eM,h1,fc,sizeOf,typeInfo,gR,Instr.sliceBounds,Instr.sliceBound,asIntOf]
  ·have mC:=(xD gc hz).1
   simp[execOp,Instr.sliceAt,Instr.slice,run_underlying cm,eM,h1,fc,mC,sizeOf,typeInfo,gR,Instr.sliceBounds,Instr.sliceBound,asIntOf]
 ·rw[Jj]at h1 h3
  have bX:n≤cap:=by omega
  have hcz:cap=0→n=0:=by omega
  rcases dv with rfl|⟨z,rfl,hz⟩
  ·obtain⟨G',gk⟩:=zND gc (yE sd.1) h0 gf ht.pos (by rw[Jj];exact h1) h2 (by rw[Jj];exact h3) h4 h5 h6 h7 h8 (h:=n) (cap':=cap) (by simpa using hn) bX (J7 _)
   refine⟨_,w,?_,G',gk⟩;simp[execOp,Instr.sliceAt,Instr.slice,run_underlying cm,eM,h1,fc,sizeOf,typeInfo,gR,Instr.sliceBounds,Instr.sliceBound,asIntOf,bX,uG]
  ·have mC:=(xD gc hz).1
   obtain⟨G',gk⟩:=zND gc (yE sd.1) h0 gf ht.pos (by rw[Jj];exact h1) h2 (by rw[Jj];exact h3) h4 h5 h6 h7 h8 (h:=n) (cap':=n) (by simpa using hn) (J7 _) bX;refine⟨_,w,?_,G',gk⟩;simp[execOp,Instr.sliceAt,Instr.slice,run_underlying cm,eM,h1,fc,mC,sizeOf,typeInfo,gR,Instr.sliceBounds,Instr.sliceBound,asIntOf,bX,uG]
end
end Go.Ab

namespace Go.Ab
open Go
section
variable {P:Program}{Γ:Ctx}{pn:sJ}{E E':Env}{Q:Exit→Env→Prop}{d:Nat}{x y:Operand}{ty:TypeId}{ps:String}{af:Array Edge}{gd:Option (Nat×Bool)}{ops:Array Oper}{os:List Oper}
theorem zIe{P:Program}{w:World}{t e:TypeId}{a:Option Addr}{n c:Nat}(m:Nat)(h:P.underlying t=jq (.slice e)):(Op.equalIn (m+1) t (.slice a n c) (.slice jr 0 0)).run P w=.ok a.isNone w:=by simp only[Op.equalIn,Sem.run_bind,run_underlying h];cases a<;>rfl
theorem RW.isnil{α:Type}{xt yt e:TypeId}{r k:Nat}{q:List Nat}{f:α→T}{xs:List α}{u:T}(hu:P.underlying xt=jq (.slice e))(hx:uJ E x=jq (r,q,u))(ct:u=.ro (L k f xs)∨u=L k f xs)(sd:J5 d Γ.N=js)(hp:pn.ok (jq d)=js)
  (h:∀b,(b=js→xs=[])→RW P Γ pn ops os (E.app [(d,jq (B b))] [(d,0)]) Q):RW P Γ pn ops (⟨jq d,.binOp .eql xt x (.const (.slice jr 0 0)) yt,ty,ps,af,jr⟩::os) E Q:=by
 intro a w Q' hs fC hQ;obtain⟨S,hS,gJ,G,gc⟩:=id hs;have fd:u.single=js:=by rcases ct with rfl|rfl<;>rfl
 obtain⟨h1,h2⟩:=qD gc hx fd;obtain⟨ad,n,c,h3,h4⟩:∃ad n c,a.eval x=.slice ad n c∧(ad.isNone=js→xs=[]):=by
  rcases ct with rfl|rfl
  ·obtain⟨ad,c,g1,_,_,g2⟩:=zDb h1
   refine⟨ad,_,c,by rw[h2,g1],fun hn=>?_⟩;apply Classical.byContradiction;intro gf;obtain⟨b,o',_,_,_,rfl,_⟩:=g2 (by simpa using gf);simp at hn
  ·simp only[R]at h1
   rcases h1 with⟨g1,ad,g2⟩|⟨b,_,cap,cs,e',g1,_⟩
   ·exact⟨ad,0,0,by rw[h2,g2],fun _=>by simpa using g1⟩
   ·exact⟨_,_,_,by rw[h2,g1],fun hn=>by simp at hn⟩
 have gx:(execOp a.eval ⟨jq d,.binOp .eql xt x (.const (.slice jr 0 0)) yt,ty,ps,af,jr⟩).run P w=.ok (.value (.bool ad.isNone)) w:=by have h5:(Op.equalIn 10000 xt (.slice ad n c) (.slice jr 0 0)).run P w=.ok ad.isNone w:=zIe 9999 hu;have h6:a.eval (.const (.slice jr 0 0))=.slice jr 0 0:=rfl;simp[execOp,h3,h6,eqGuard,binOp,zK0,h5]
 simp only[wpL,Region.wanted,if_true];refine .inl ?_;unfold Oper.wp;rw[gx,Oper.upon_value];have eS:=vH gc rfl (yE sd) (fun _=>.bool ad.isNone) (fun _=>rfl) (B ad.isNone) (.bool ad.isNone) (by simp[mkV,Gh.put]) (by simp[R,Gh.put]) (by simp[Top]);refine h ad.isNone h4 _ w Q' ⟨S,hS,gJ,_,eS⟩ ?_ hQ;refine fC.frame hp fun s gG=>?_
 have:d≠s:=fun e=>gG (by rw[e])
 simp[Act.put,Array.getElem?_setIfInBounds_ne this]
theorem zK6{t e:TypeId}(hu:P.underlying t=jq (.slice e))(hx:opT E x=jq (.lit (.slice jr 0 0)))(sd:J5 d Γ.N=js):Ok P Γ ⟨jq d,.call { callee:=.builtin .len,args:=#[x],argTypes:=#[t] },ty,ps,af,gd⟩ E (E.app [(d,jq (I 0))] [(d,0)]):=by
 intro S;refine tX (.int .i64 0) rfl rfl (yE sd) fun a w G gc=>?_
 have h1:=(xD gc hx).1;simp[execOp,resolve,invoke,builtin,h1,Builtin.len_,run_underlying hu,goInt]
theorem zK7{t e:TypeId}(hu:P.underlying t=jq (.slice e))(hx:opT E x=jq (.lit (.slice jr 0 0)))(sd:J5 d Γ.N=js):Ok P Γ ⟨jq d,.call { callee:=.builtin .cap,args:=#[x],argTypes:=#[t] },ty,ps,af,gd⟩ E (E.app [(d,jq (I 0))] [(d,0)]):=by
 intro S;refine tX (.int .i64 0) rfl rfl (yE sd) fun a w G gc=>?_
 have h1:=(xD gc hx).1;simp[execOp,resolve,invoke,builtin,h1,Builtin.cap_,run_underlying hu,goInt]
theorem zTT{t e:TypeId}{ti:TypeInfo}{u:T}{k:Nat}(ht:ElT P t e ti k u)(hx:opT E x=jq (.lit (.slice jr 0 0)))(hy:opT E y=jq (I 0))(sd:J5 d Γ.N=js):Ok P Γ ⟨jq d,.slice t x jr (jq y) jr,ty,ps,af,gd⟩ E (E.app [(d,jq (.sl k []))] [(d,0)]):=by
 intro S;refine wC.value rfl fun a w G gc=>?_
 have h1:=(xD gc hx).1;have h2:=(xD gc hy).1;refine⟨.slice jr 0 0,w,?_,_,vH gc rfl (yE sd) (fun _=>.slice jr 0 0) (fun _=>rfl) (.sl k []) (.slice jr 0 0) (by simp[mkV,Gh.put]) (by simp[R,Gh.put]) (by simp[Top,xE,xX])⟩;simp[execOp,Instr.sliceAt,Instr.slice,run_underlying ht.un,h1,h2,sizeOf,typeInfo,ht.info,Instr.sliceBounds,Instr.sliceBound,asIntOf]
theorem zE.nil(s k:Nat)(hs:E s=jq (.lit (.slice jr 0 0))):zE Γ E (E.app [(s,jq (.sl k []))] [(s,0)]):=by
 rintro a w ⟨S,hS,gJ,G,gc⟩
 refine⟨S,hS,gJ,G,?_⟩;have hk:sG [(s,0)] G w G w:=⟨fun _ _ _=>rfl,fun _ _ _=>rfl,fun _ _ _ _ _ _ h _=>⟨h,rfl⟩,fun _ _ _ h _=>h,fun b cs e h=>⟨cs,h,rfl⟩,by intros;assumption⟩;refine wQ gc rfl hk gc.mem (fun s' gG=>⟨fun n hn=>?_,rfl⟩) fun s' t gG=>?_
 ·simp at hn
  simp[Wr.find,hn.1]at gG
 ·simp only[Wr.find]at gG
  split at gG
  ·rename_i e;subst e
   simp at gG;subst gG;obtain⟨h1,h2,_⟩:=gc.ent s _ hs;simp only[R]at h2;exact⟨by rw[h1];rfl,by simp only[R];exact .inl ⟨trivial,jr,h2⟩,by simp[Top,xE,xX]⟩
  ·cases gG
theorem zFU{src dst:TypeId}{ds:TypeDesc}{k k':IntKind}{n:Int}(hs:P.underlying src=jq ds)(ht:P.underlying dst=jq (.int k'))(hx:opT E x=jq (IK k n))(sd:J5 d Γ.N=js):
  Ok P Γ ⟨jq d,.convert src dst x,ty,ps,af,gd⟩ E (E.app [(d,jq (IK k' (k'.wrap n)))] [(d,0)]):=fun _=>zTC src dst ds x k k' n rfl rfl (yE sd) hs ht hx
theorem zXj{k:IntKind}{m n:Int}{xt yt:TypeId}(hx:opT E x=jq (IK k m))(hy:opT E y=jq (IK k n))(sd:J5 d Γ.N=js):Ok P Γ ⟨jq d,.binOp .add xt x y yt,ty,ps,af,gd⟩ E (E.app [(d,jq (IK k (k.wrap (m+n))))] [(d,0)]):=
 fun _=>uF .add xt yt x y k m n _ rfl rfl (yE sd) hx hy rfl
theorem zXk{k:IntKind}{m n:Int}{xt yt:TypeId}(hx:opT E x=jq (IK k m))(hy:opT E y=jq (IK k n))(sd:J5 d Γ.N=js):Ok P Γ ⟨jq d,.binOp .mul xt x y yt,ty,ps,af,gd⟩ E (E.app [(d,jq (IK k (k.wrap (m*n))))] [(d,0)]):=
 fun _=>uF .mul xt yt x y k m n _ rfl rfl (yE sd) hx hy rfl
theorem zXl{k:IntKind}{m n:Int}{xt yt:TypeId}(hx:opT E x=jq (IK k m))(hy:opT E y=jq (IK k n))(sd:J5 d Γ.N=js):Ok P Γ ⟨jq d,.binOp .sub xt x y yt,ty,ps,af,gd⟩ E (E.app [(d,jq (IK k (k.wrap (m-n))))] [(d,0)]):=
 fun _=>uF .sub xt yt x y k m n _ rfl rfl (yE sd) hx hy rfl
theorem zMc{k:IntKind}{m n:Int}{xt yt:TypeId}(hx:opT E x=jq (IK k m))(hy:opT E y=jq (IK k n))(sd:J5 d Γ.N=js):Ok P Γ ⟨jq d,.binOp .gtr xt x y yt,ty,ps,af,gd⟩ E (E.app [(d,jq (B (decide (m> n))))] [(d,0)]):=
 fun _=>uF .gtr xt yt x y k m n _ rfl rfl (yE sd) hx hy rfl
theorem zXm{k:IntKind}{m n:Int}{xt yt:TypeId}(hx:opT E x=jq (IK k m))(hy:opT E y=jq (IK k n))(sd:J5 d Γ.N=js):Ok P Γ ⟨jq d,.binOp .eql xt x y yt,ty,ps,af,gd⟩ E (E.app [(d,jq (B (m==n)))] [(d,0)]):=
 fun _=>uF .eql xt yt x y k m n _ rfl rfl (yE sd) hx hy rfl
theorem zXn{k:IntKind}{m n:Int}{xt yt:TypeId}(hx:opT E x=jq (IK k m))(hy:opT E y=jq (IK k n))(sd:J5 d Γ.N=js):Ok P Γ ⟨jq d,.binOp .lss xt x y yt,ty,ps,af,gd⟩ E (E.app [(d,jq (B (decide (m<n))))] [(d,0)]):=
 fun _=>uF .lss xt yt x y k m n _ rfl rfl (yE sd) hx hy rfl
def zFK(k:IntKind)(m n:Int):Int:=k.wrap ((BitVec.ofInt k.bits m &&& BitVec.ofInt k.bits n).toNat:Int)
theorem zXo{k:IntKind}{m n:Int}{xt yt:TypeId}(hx:opT E x=jq (IK k m))(hy:opT E y=jq (IK k n))(sd:J5 d Γ.N=js):Ok P Γ ⟨jq d,.binOp .and xt x y yt,ty,ps,af,gd⟩ E (E.app [(d,jq (IK k (zFK k m n)))] [(d,0)]):=by
 intro S;refine tX (.int k (zFK k m n)) rfl rfl (yE sd) fun a w G gc=>?_
 have h1:=(xD gc hx).1;have h2:=(xD gc hy).1;simp[execOp,h1,h2,eqGuard,binOp,Op.intBits,zFK]
theorem zXp{k k':IntKind}{m n:Int}{xt yt:TypeId}(hn:0≤n)(hx:opT E x=jq (IK k m))(hy:opT E y=jq (IK k' n))(sd:J5 d Γ.N=js):Ok P Γ ⟨jq d,.binOp .shr xt x y yt,ty,ps,af,gd⟩ E (E.app [(d,jq (IK k (m.fdiv (2 ^ (min n.toNat k.bits)))))] [(d,0)]):=by
 intro S;refine tX (.int k (m.fdiv (2 ^ (min n.toNat k.bits)))) rfl rfl (yE sd) fun a w G gc=>?_
 have h1:=(xD gc hx).1;have h2:=(xD gc hy).1;have h3:¬n<0:=by omega
 simp[execOp,h1,h2,eqGuard,binOp,Op.shift,h3]
end
end Go.Ab

namespace Go.Ab
open Go
end Go.Ab

namespace Go.Ab
open Go
abbrev vI(n:Int):Value:=.int .i64 n
section
variable {Γ:Ctx}{E:Env}
theorem zK8{G:Gh}{tmps:Array Value}{w w':World}(gc:Rep Γ E G tmps w){s0:Nat}{xs us:List Int}(hZ:E s0=jq (L 1 I xs))(gv:us.length=xs.length)
  {b o0 cap:Nat}{cs cs':Array Value}{e:TypeId}(h1:G.hd s0 []=.slice (jq ⟨b,o0,jr⟩) xs.length cap)(h2:w.heap[b]? =jq (.cells cs e (0,0)))(h3:xs.length≤cap)(h4:cap≤maxLen)(h5:o0+cap*1≤cs.size)(h6:G.ow b=jq (s0,[]))
  (h7:∀o,o0+xs.length*1≤o→o<o0+cap*1→G.lb b o=jq (js,s0,[]))(h8:RL Γ.St G w s0 (xs.map I) [] 0 b o0 1)
  (k1:w'.heap[b]? =jq (.cells cs' e (0,0)))(k2:cs'.size=cs.size)(k3:∀b',b'≠b→w'.heap[b']? =w.heap[b']?)(k4:w'.heap.size=w.heap.size)(ko:w'.os=w.os)(kq:w'.output=w.output)(k5:∀(i:Nat) u,us[i]? =jq u→cs'[o0+i]? =jq (vI u)):
  ∃G',Rep Γ (E.app [(s0,jq (L 1 I us))] [(s0,1)]) G' tmps w':=by
 have hm:=gc.mem;obtain⟨e1,_,_⟩:=gc.ent s0 _ hZ;have gA:=hm.ow b _ h6
 let G':Gh:={ G with hd:=fun s z=>if s=s0 then(match z with
  | [i]=>(match us[i]? with
   |some u=>vI u
   |none=>G.hd s0 z)
  |_=>G.hd s0 z)else G.hd s z }
 have hB:Blk w w':=by
  intro b' cs2 e2 hb
  by_cases fa:b'=b
  ·subst fa
   rw[h2]at hb;simp at hb;obtain⟨rfl,rfl⟩:=hb;exact⟨cs',k1,k2⟩
  ·exact⟨cs2,by rw[k3 b' fa];exact hb,rfl⟩
 have gw:sG [(s0,1)] G w G' w':=by
  refine⟨fun s p ho=>?_,fun _ _ _=>rfl,fun b' o f s p gP hl hs=>⟨hl,?_⟩,fun _ _ _ hl _=>hl,hB,fun b' _ _ ms c _ _ hb=>by
   by_cases fa:b'=b
   ·subst fa;rw[h2]at hb;cases hb
   ·rw[k3 b' fa];exact hb⟩
  ·by_cases h:s=s0
   ·subst h
    have:p=[]:=Jn (by have:=ho 1 (by simp);omega);subst this;simp[G']
   ·simp[G',h]
  ·have ek:s≠s0:=fun e=>hs 1 (by simp[e])
   obtain⟨y,hy⟩:=gP;have fa:b'≠b:=by
    rintro rfl
    rw[h6]at hy;simp at hy;exact ek hy.1.symm
   simp[yQ,World.cell?,k3 b' fa]
 have gz:Mem Γ G' w':=by
  refine⟨fun s z=>?_,fun b' o l hl=>?_,fun b' l hl=>?_,fun b' x hx=>?_,fun b' h h'=>?_,by rw[k4];exact hm.sz,hm.bk.trans hB ko kq⟩
  ·show(if _ then _ else _:Value).oneCell'=js
   split
   ·split
    ·split
     ·rfl
     ·exact hm.one _ _
    ·exact hm.one _ _
   ·exact hm.one _ _
  ·have:=hm.lb b' o l hl;exact⟨by rw[k4];exact this.1,this.2⟩
  ·have:=hm.ow b' l hl;exact⟨by rw[k4];exact this.1,this.2⟩
  ·have:b'≠b:=by rintro rfl;rw[gA.2.2]at hx;cases hx
   rw[k3 b' this];exact hm.st b' x hx
  ·have:b'≠b:=by
    rintro rfl
    rcases gA.2.1 with h0|h0
    ·omega
    ·exact h' h0
   rw[k3 b' this];exact hm.fr b' h h'
 refine⟨G',wQ gc rfl gw gz ?_ ?_⟩
 ·intro s hs
  rw[uL]at hs;split at hs
  ·cases hs
  ·rename_i gf
   exact⟨fun n hn=>gf (by simp at hn;exact hn.1.symm),rfl⟩
 ·intro s t' hs
  rw[uL]at hs;split at hs
  ·rename_i he;subst he
   simp at hs;subst hs;refine⟨by rw[e1];simp[mkV,G'],?_,by simp only[Top];exact kT zNA us⟩;simp only[R];refine .inr ⟨b,o0,cap,cs',e,by simp[G',h1,gv],k1,by simp[gv];exact h3,h4,by omega,h6,fun o ch fN=>h7 o (by simpa[gv]using ch) fN,?_⟩;refine zDH _ [] 0 b o0 fun i x hx=>?_
   rw[Jp,K7]at hx;obtain⟨u,hu,rfl⟩:=hx;have hi:=(Ja.1 hu).1;obtain⟨g1,g2,_⟩:=qC _ [] 0 b o0 1 i (I xs[i]) h8 (by simp[show i<xs.length by omega]);simp only[Jc,Gw,Loc]at g1 ⊢
   refine⟨⟨g1.1,g1.2.1,?_⟩,rfl,by simp[R,G',hu]⟩;have:=k5 i u hu;simp[yQ,World.cell?,k1,this,G',hu]
  ·cases hs
def zF3(P:Program)(Γ:Ctx)(E:Env)(y:Operand)(ys:List Int):Prop:=∀(a:Act)(w:World)(G:Gh),Rep Γ E G a.tmps w→ ∃xa c,a.eval y=.slice xa ys.length c∧
 ∀(n:Nat),n≤ys.length→(Builtin.firstCells 1 n (.slice xa ys.length c)).run P w=.ok ((ys.take n).map vI).toArray w
theorem zCs{P:Program}{w:World}{b o:Nat}{cs:Array Value}{e:TypeId}{fr:Nat×Nat}(hb:w.heap[b]? =jq (.cells cs e fr))(ys:List Int)(hv:∀(i:Nat) u,ys[i]? =jq u→cs[o+i]? =jq (vI u))(n:Nat)(hn:n≤ys.length)(len cap:Nat):
  (Builtin.firstCells 1 n (.slice (jq ⟨b,o,jr⟩) len cap)).run P w=.ok ((ys.take n).map vI).toArray w:=by
 refine run_firstCells_some (P:=P) w 1 n ⟨b,o,jr⟩ len cap _ (by simp;omega) fun j v hj=>?_
 rw[Jp,K7]at hj;obtain⟨u,hu,rfl⟩:=hj;rw[Ln]at hu;split at hu
 ·rw[uG]
  have:=hv j u hu;simp[World.cell?,hb,this]
 ·cases hu
theorem zCB{P:Program}{w:World}{a:Option Addr}{c:Nat}:(Builtin.firstCells 1 0 (.slice a 0 c)).run P w=.ok #[] w:=by cases a<;>simp[Builtin.firstCells,loadCells,loadCellsFrom]
theorem zF3.ro{P:Program}{y:Operand}{ys:List Int}{r:Nat}{q:List Nat}(h:uJ E y=jq (r,q,.ro (L 1 I ys))):zF3 P Γ E y ys:=fun a w G gc=>by
 obtain⟨h1,h2⟩:=qD gc h rfl;obtain⟨xa,c,g1,_,_,g2⟩:=zDb h1;rw[Jj]at g1;refine⟨xa,c,by rw[h2,g1],fun n hn=>?_⟩
 by_cases hy:ys=[]
 ·subst hy
  simp at hn;subst hn;simpa using zCB
 ·obtain⟨b,o,cs,e,fr,rfl,g3,g4⟩:=g2 (by simpa using hy)
  refine zCs (gc.mem.st b _ g3) ys (fun i u hu=>?_) n hn _ _;have:=zFO _ cs o 1 i (I u) g4 (by simp[hu]);simp only[RoC,Gw]at this;exact this.1
theorem zNE{G:Gh}{w:World}{s b o0:Nat}{q:List Nat}{cs:Array Value}{e:TypeId}{xs:List Int}{St:Stb}(h2:w.heap[b]? =jq (.cells cs e (0,0)))(h8:RL St G w s (xs.map I) q 0 b o0 1)(i:Nat)(u:Int)(hu:xs[i]? =jq u):cs[o0+i]? =jq (vI u):=by obtain⟨g1,_,g3⟩:=qC _ q 0 b o0 1 i (I u) h8 (by simp[hu]);simp only[Loc,R,Jc,Gw]at g1 g3;have:=g1.2.2;simp only[yQ,World.cell?,h2]at this;simpa[g3]using this
theorem zF3.sub{P:Program}{s r:Nat}{q:List Nat}{tr:T}{xs ys:List Int}{l h:Int}(hs:E s=jq (.sub r q 1 l.toNat h.toNat))(hr:E r=jq tr)(hg:tr.get q.reverse=jq (L 1 I xs))(hv:zQ xs l h=jq ys):zF3 P Γ E (.tmp s) ys:=fun a w G gc=>by
 obtain⟨k1,k2,k3,rfl⟩:=uO hv;obtain⟨e1,e2,_⟩:=gc.ent s _ hs;obtain⟨_,e4,_⟩:=gc.ent r _ hr;simp only[R]at e2;have h5:=(zBo q.reverse tr _ [] e4 hg).1;simp only[rp,Ki,Jk,R]at h5;have gv:((xs.drop l.toNat).take (h.toNat-l.toNat)).length=h.toNat-l.toNat:=by simp;omega
 rw[gv];have eM:a.eval (.tmp s)=G.hd s []:=by rw[wG e1,xF rfl]
 rcases h5 with⟨g1,ad,g2⟩|⟨b,o0,cap,cs,e,g1,g2,g3,_,_,_,_,g8⟩
 ·have hy:xs=[]:=by simpa using g1
  subst hy;have hl0:l.toNat=0:=by simp at k3;omega
  have tc:h.toNat=0:=by simp at k3;omega
  refine⟨ad,0,by rw[eM,e2,g2,hl0,tc];simp[zB4],fun n hn=>?_⟩;simp[tc]at hn;subst hn;rw[hl0,tc];simpa using zCB
 ·rw[Jj]at g1 g3
  refine⟨if cap=l.toNat then jq ⟨b,o0,jr⟩else jq ⟨b,o0+l.toNat,jr⟩,cap-l.toNat,by rw[eM,e2,g1];simp only[zB4,Ua,uG,Gw],fun n hn=>?_⟩;split
  ·have:n=0:=by omega
   subst this;simp[Builtin.firstCells,loadCells,loadCellsFrom]
  ·refine zCs g2 _ (fun i u hu=>?_) n (by rw[gv];exact hn) _ _
   rw[Ln]at hu;split at hu
   ·rw[Ky]at hu
    rw[Lu];exact zNE g2 g8 _ u hu
   ·cases hu
def zCC(Γ:Ctx)(E:Env)(x:Operand)(s0 lo hi:Nat):Prop:=∀(a:Act)(w:World)(G:Gh),Rep Γ E G a.tmps w→a.eval x=zB4 (G.hd s0 []) 1 lo hi
theorem zCC.slot{s0:Nat}{xs:List Int}(h:E s0=jq (L 1 I xs)):zCC Γ E (.tmp s0) s0 0 xs.length:=fun a w G gc=>by obtain⟨e1,e2,_⟩:=gc.ent s0 _ h;obtain⟨ad,c,g⟩:=zIS e2;rw[Jj]at g;rw[wG e1,xF rfl,g];simp[zB4];intro;cases ad<;>simp[Addr.add]
theorem zCC.same{s s0:Nat}{xs:List Int}(hs:E s=jq (.same s0 []))(h:E s0=jq (L 1 I xs)):zCC Γ E (.tmp s) s0 0 xs.length:=fun a w G gc=>by obtain⟨e1,e2,_⟩:=gc.ent s _ hs;have:=zCC.slot h a w G gc;obtain⟨e3,_,_⟩:=gc.ent s0 _ h;simp only[R]at e2;rw[wG e3,xF rfl]at this;rw[wG e1,xF rfl,e2];exact this
theorem zCC.sub{s s0 lo hi:Nat}(hs:E s=jq (.sub s0 [] 1 lo hi)):zCC Γ E (.tmp s) s0 lo hi:=fun a w G gc=>by obtain⟨e1,e2,_⟩:=gc.ent s _ hs;simp only[R]at e2;rw[wG e1,xF rfl,e2]
end
theorem zOR{α:Type}{xs ys:List α}{l h:Int}(hv:zQ xs l h=jq ys):l.toNat≤h.toNat:=by have:=uO hv;omega
theorem zOS{α:Type}{xs ys:List α}{l h:Int}(hv:zQ xs l h=jq ys):h.toNat≤xs.length:=by have:=uO hv;omega
theorem zNF{α:Type}(l z:List α)(lo i:Nat)(gV:lo+z.length≤l.length):(l.take lo++z++l.drop (lo+z.length))[i]? =if i<lo then l[i]? else if i<lo+z.length then z[i-lo]? else l[i]?:=by
 have hm:min lo l.length=lo:=by omega
 by_cases c1:i<lo
 ·rw[if_pos c1,Ji,K9 (by simp;omega),Ln,if_pos c1]
 ·rw[if_neg c1]
  by_cases c2:i<lo+z.length
  ·rw[if_pos c2,Ji,Je (by simp;omega),Ge,hm,K9 (by omega)]
  ·rw[if_neg c2,Ji,Je (by simp;omega),Ge,hm,Je (by omega),Ky]
   congr 1;omega
def uW(xs:List Int)(lo:Nat)(zs:List Int):List Int:=xs.take lo++zs++xs.drop (lo+zs.length)
theorem zJn{P:Program}{Γ:Ctx}{E:Env}{d s0 lo hi:Nat}{x y:Operand}{ty:TypeId}{ps:String}{af:Array Edge}{gd:Option (Nat×Bool)}{t t2 e:TypeId}{ti:TypeInfo}{u:T}{xs ys:List Int}(ht:ElT P t e ti 1 u)(h0:E s0=jq (L 1 I xs))(hx:∀S,zCC (Γ.at S) E x s0 lo hi)(hy:∀S,zF3 P (Γ.at S) E y ys)(h1:lo≤hi)(h2:hi≤xs.length)(sd:(J5 d Γ.N&&(s0 != d))=js):
  Ok P Γ ⟨jq d,.call { callee:=.builtin .copy,args:=#[x,y],argTypes:=#[t,t2] },ty,ps,af,gd⟩ E ((E.app [(s0,jq (L 1 I (uW xs lo (ys.take (hi-lo)))))] [(s0,1)]).app [(d,jq (I ((min ys.length (hi-lo):Nat):Int)))] [(d,0)]):=by
 simp only[J3]at sd;have gf:s0≠d:=by simpa using sd.2
 intro S;refine wC.value rfl fun a w G gc=>?_
 obtain⟨e1,e2,_⟩:=gc.ent s0 _ h0;obtain⟨xa,c,g1,g2⟩:=hy S a w G gc;have g3:=hx S a w G gc;have eF:min ys.length (hi-lo)≤ys.length:=by omega
 have g4:=g2 _ eF;have fX:ys.take (hi-lo)=ys.take (min ys.length (hi-lo)):=by rw[List.take_eq_take_iff];omega
 rw[fX]
 generalize hn:min ys.length (hi-lo)=n at*
 have pA:(ys.take n).length=n:=by simp;omega
 have gv:(uW xs lo (ys.take n)).length=xs.length:=by simp[uW,pA];omega
 have key:∃w',(Builtin.copy_ #[t,t2] ty #[a.eval x,a.eval y]).run P w=.ok (goInt n) w'∧ ∃G',Rep (Γ.at S) (E.app [(s0,jq (L 1 I (uW xs lo (ys.take n))))] [(s0,1)]) G' a.tmps w':=by
  have e2':=e2;simp only[R]at e2;rcases e2 with⟨k1,ad,k2⟩|⟨b,o0,cap,cs,e',k1,k2,k3,k4,k5,k6,k7,k8⟩
  ·have eE:xs=[]:=by simpa using k1
   subst eE;simp at h2;subst h2;have aG:n=0:=by omega
   subst aG;have gV:lo=0:=by omega
   subst gV;refine⟨w,?_,G,?_⟩
   ·rw[g3,k2,g1]
    cases ad<;>cases xa<;>simp[zB4,Builtin.copy_,run_underlying ht.un,Builtin.lenOf,sizeOf,typeInfo,ht.info,Builtin.firstCells,loadCells,loadCellsFrom,storeCells]
   ·refine wQ gc rfl ⟨fun _ _ _=>rfl,fun _ _ _=>rfl,fun _ _ _ _ _ _ h _=>⟨h,rfl⟩,fun _ _ _ h _=>h,fun b cs e h=>⟨cs,h,rfl⟩,by intros;assumption⟩ gc.mem (fun s hs=>⟨fun n hn=>by simp at hn;simp[Wr.find,hn.1]at hs,rfl⟩) fun s t' hs=>?_
    rw[uL]at hs;split at hs
    ·rename_i he;subst he
     simp at hs;subst hs;simpa[uW]using gc.ent s0 _ h0
    ·cases hs
  ·rw[Jj]at k1 k3 k7
   have gu:o0+cap≤cs.size:=by omega
   have gH:=run_storeCells_at P b (o0+lo) e' ((ys.take n).map vI) 0 cs w k2 (by simp;omega) (by intro v hv;obtain⟨u,_,rfl⟩:=Jh.1 hv;rfl);simp only[Jan,Jj]at gH
   generalize gY:w.setRow b (cs.toList.take (o0+lo)++(ys.take n).map vI++cs.toList.drop (o0+lo+(ys.take n).length)).toArray=w' at gH
   have gK:cs.toList.length=cs.size:=K8 ..
   by_cases pT:cap=lo
   ·have aG:n=0:=by omega
    subst aG;refine⟨w,?_,G,?_⟩
    ·rw[g3,k1,g1]
     have g5:(Builtin.firstCells 1 0 (.slice xa ys.length c)).run P w=.ok #[] w:=by simpa using g4
     simp[zB4,Builtin.copy_,run_underlying ht.un,Builtin.lenOf,sizeOf,typeInfo,ht.info,ht.size,show hi-lo=0 by omega,g5,storeCells,pT]
    ·refine wQ gc rfl ⟨fun _ _ _=>rfl,fun _ _ _=>rfl,fun _ _ _ _ _ _ h _=>⟨h,rfl⟩,fun _ _ _ h _=>h,fun b cs e h=>⟨cs,h,rfl⟩,by intros;assumption⟩ gc.mem (fun s hs=>⟨fun n hn=>by simp at hn;simp[Wr.find,hn.1]at hs,rfl⟩) fun s t' hs=>?_
     rw[uL]at hs;split at hs
     ·rename_i he;subst he
      simp at hs;subst hs;simpa[uW]using gc.ent s0 _ h0
     ·cases hs
   ·refine⟨w',?_,zK8 gc h0 gv k1 k2 k3 k4 k5 k6 k7 k8 (by rw[←gY];exact setRow_heap w b cs _ e' _ k2) ?_ (fun b' h=>by rw[←gY];exact setRow_other w b b' _ h) (by rw[←gY];exact size_setRow w b _) (by rw[←gY];rfl) (by rw[←gY];rfl) fun i v hv=>?_⟩
    ·rw[g3,k1,g1]
     have h9:Nat.min ys.length (hi-lo)=n:=hn;simp only[zB4,pT,if_false,Ua,uG,Gw];simp only[Builtin.copy_];rw[U8]at gH;simp[run_underlying ht.un,Builtin.lenOf,sizeOf,typeInfo,ht.info,ht.size,h9,g4,gH]
    ·simp[pA];omega
    ·rw[uW,zNF _ _ _ _ (by rw[pA];omega)]at hv
     have h11:o0+lo+((ys.take n).map vI).length≤cs.toList.length:=by simp;omega
     have h10:=zNF cs.toList ((ys.take n).map vI) (o0+lo) (o0+i) h11;rw[Jj]at h10;rw[List.getElem?_toArray,h10];have fg:=fun i u hu=>zNE k2 k8 i u hu
     by_cases c1:i<lo
     ·rw[if_pos c1]at hv
      rw[if_pos (by omega)];simpa using fg i v hv
     ·rw[if_neg c1]at hv
      rw[if_neg (by omega)]
      by_cases c2:i<lo+(ys.take n).length
      ·rw[if_pos c2]at hv
       rw[if_pos (by omega),show o0+i-(o0+lo)=i-lo from by omega];rw[Jp,hv];rfl
      ·rw[if_neg c2]at hv
       rw[if_neg (by omega)];simpa using fg i v hv
 obtain⟨w',gx,G',gk⟩:=key;refine⟨_,w',?_,_,vH gk rfl (yE sd.1) (fun _=>vI n) (fun _=>rfl) (I n) (vI n) (by simp[mkV,Gh.put]) (by simp[R,Gh.put]) (by simp[Top])⟩;simp[execOp,resolve,invoke,builtin,gx,goInt]
end Go.Ab

namespace Go.Ab
open Go
theorem zIf{G G':Gh}{s d:Nat}(hd:∀z,G'.hd d z=G.hd s z):(xs:List T)→yU xs=js→ ∀(j:Nat),kM G' d (cpF s xs [] j) [] j=kM G s xs [] j
 | [],_,_=>by rfl
 |x::xs,h,j=>by
  simp only[yU,J3]at h;simp only[cpF,kM];have gU:∀ys,x≠.tup ys:=by rintro ys rfl;grind[T.okTup]
  have h1:=zAV (G:=G) (G':=G') (s:=s) (d:=d) x [j] [j] gU (fun z=>hd _);have h2:∀ys,cpT s x [j]≠.tup ys:=by intro ys;cases x<;>simp[cpT]
  rw[zAw _ _ _ _ h2]at h1;rw[h1,zIf hd xs h.2 (j+1)]
section
variable {P:Program}{Γ:Ctx}{E E':Env}{d:Nat}{x y:Operand}{ty:TypeId}{ps:String}{af:Array Edge}{gd:Option (Nat×Bool)}
theorem zW0{s:Nat}{ts:List T}(hx:E s=jq (.tup ts))(sd:(J5 d Γ.N&&yU ts&&(s != d)&&zJV [(d,0)] (cpF s ts [] 0))=js):Ok P Γ ⟨jq d,.move (.tmp s),ty,ps,af,gd⟩ E (E.app [(d,jq (.tup (cpF s ts [] 0)))] [(d,0)]):=by
 simp only[J3]at sd;obtain⟨⟨⟨s1,s2⟩,s3⟩,s4⟩:=sd;have gf:s≠d:=by grind
 intro S;refine wC.value rfl fun a w G gc=>?_
 obtain⟨h1,h2,_⟩:=gc.ent s _ hx;simp only[R]at h2;have hk:=G.put_keep (w:=w) (w':=w) rfl d (fun z=>G.hd s z);have hz:∀z,(G.put d (fun z=>G.hd s z)).hd d z=G.hd s z:=by grind[Gh.put_self]
 have pG:∀(xs:List T)(j:Nat),vV (cpF s xs [] j):=by
  intro xs
  induction xs with
  |nil=>intro j;simp only[cpF,vV]
  |cons x xs ih=>intro j;simp only[cpF,vV];grind[qR]
 refine⟨mkV G s (.tup ts) [],w,?_,_,vH gc rfl (yE s1) (fun z=>G.hd s z) (fun z=>gc.mem.one _ _) _ _ (by grind[mkV,zIf])
  (by simp only[R];exact zIQ (fun p=>G.put_other _ p gf) ts [] [] 0 (fun z=>hz _) (xX.mono (fun r p hr=>⟨hk.hd r p hr,hk.ad r p hr⟩) _ (by grind[zGk])) h2) (by simp only[Top];grind)⟩
 simp[execOp,wG h1]
end
end Go.Ab

namespace Go.Ab
open Go
end Go.Ab

namespace Go.Ab
open Go
end Go.Ab
namespace Go.Ab
open Go
theorem zBI{E:Env}{ds r s:Nat}{q:List Nat}{tr u t:T}(h:E s=jq t)(gf:(Lz ds s||Lz r s)=jt:=by rfl)(hb:t.okB [(ds,1),(r,q.length+1)]=js:=by rfl):opT (vC E ds r q tr u) (.tmp s)=jq t:=by
 have h1:ds≠s:=by rintro rfl;simp at gf
 have h2:r≠s:=by rintro rfl;simp at gf
 simp[opT,vC,Env.app,Wr.find,h1,h2,h,hb]
end Go.Ab
namespace Go.Ab
open Go
section
variable {P:Program}{Γ:Ctx}{pn:sJ}{E E':Env}{Q Q1:Exit→Env→Prop}{c c1 c2:Code}{ops:Array Oper}{o:Oper}{os:List Oper}{id:Nat}
theorem sR(h:RW P Γ pn ops ops.toList E (yL P Γ pn c Q)):CW P Γ pn (.seq (.region id ops jt) c) E Q:=CW.seq (CW.region h)
theorem rN(h:CW P Γ pn c E Q):RW P Γ pn ops [] E (yL P Γ pn c Q):=RW.nil h
theorem oP(h:Ok P Γ o E E')(k:RW P Γ pn ops os E' Q)(hg:o.guard=jr:=by rfl)(hp:pn.ok o.dst=js:=by rfl):RW P Γ pn ops (o::os) E Q:=RW.op h k hg hp
def zXq(ops:List Oper):List (List Nat):=(ops.foldl (fun(acc:Array (List Nat)) o=>acc.push ((zBF o).foldl (fun l m=>m::(acc.getD m [])++l) [])) #[]).toList
theorem CW.lp{σ ρ:Type}(body:σ→Option (σ⊕ρ))(en:σ→Env)(Q1:ρ→Exit→Env→Prop){s:σ}{r:ρ}(hg:zE Γ E (en s))(h:∀s x,body s=jq x→CW P Γ pn c (en s) (xQ Γ en Q1 x))(hr:zC body s=jq r)(hq:∀e E',Q1 r e E'→Q e E'):CW P Γ pn (.loop c) E Q:=
 (CW.mono (CW.loop body en Q1 h hr) hq).ghost hg
end
end Go.Ab

namespace Go.Ab
open Go Go.ChangeShapes
abbrev zK9(w:World):Stb:=fun b=>w.heap[b]?
theorem zOT{w:World}{a:Addr}{n:Nat}{cs:List Value}(h:w.cells? 0 a n=jq cs):cs.length=n∧ ∀(i:Nat) v,cs[i]? =jq v→w.cell? (a.add i)=jq v:=by
 unfold World.cells? at h;rw[if_pos (Jw _)]at h;refine⟨by simpa using mapM_some_length h,fun i v hv=>?_⟩;have hi:i<n:=by have:=(Ja.1 hv).1;have h2:=mapM_some_length h;rw[H8]at h2;omega
 rw[←hv];exact mapM_some_get h i i (by simp[hi])
theorem zNG{w:World}{a:Addr}{v:Value}(h:w.cell? a=jq v):a.spot=jr∧ ∃c e fr,w.heap[a.block]? =jq (.cells c e fr)∧c[a.off]? =jq v:=by
 simp only[World.cell?]at h;split at h
 ·rename_i c e fr hb
  split at h
  ·cases h
  ·rename_i hs
   exact⟨by cases hq:a.spot with|none=>rfl|some _=>rw[hq]at hs;simp at hs,c,e,fr,hb,h⟩
 ·cases h
theorem zKA{b o m:Nat}:(Addr.mk b o jr).add m=⟨b,o+m,jr⟩:=by
 unfold Addr.add;split
 ·rename_i h;subst h;rfl
 ·rfl
theorem zF4{α:Type}{Q:Nat→α→Prop}:∀(n:Nat),(∀i,i<n→ ∃x,Q i x)→ ∃xs:List α,xs.length=n∧ ∀i x,xs[i]? =jq x→Q i x
 |0,_=>⟨[],rfl,fun i x h=>by simp at h⟩
 |n+1,h=>by
  obtain⟨xs,h1,h2⟩:=zF4 n fun i hi=>h i (by omega)
  obtain⟨y,hy⟩:=h n (by omega);refine⟨xs++[y],by simp[h1],fun i x hx=>?_⟩;rw[Kb]at hx;split at hx
  ·exact h2 i x hx
  ·rename_i hge
   have:i-xs.length=0:=by have:=(Ja.1 hx).1;simpa using this
   rw[this]at hx;simp at hx;subst hx
   rwa [show i=n from by omega]
theorem zNH{St:Stb}:(xs:List T)→ ∀(cs:Array Value)(o k:Nat),(∀i x,xs[i]? =jq x→RoC St x cs (o+i*k))→RoL St xs cs o k
 | [],_,_,_,_=>by simp only[RoL]
 |x::xs,cs,o,k,h=>by
  simp only[RoL];refine⟨by simpa using h 0 x rfl,zNH xs cs (o+k) k fun i y hy=>?_⟩;have:=h (i+1) y (by simpa using hy)
  rwa [show o+k+i*k=o+(i+1)*k from by rw[Ly];omega]
section
variable {P:Program}
def RdT(P:Program)(t:TypeId)(k:Nat){α:Type}(f:α→T)(V:α→Prop):Prop:=
 ∀{H:Type}(enc:TypeId×Value→H)(w:World)(fuel:Nat)(cs:List Value)(x:DataW H×List MemPlace),DataW.trod enc P w 0 (fun _=>js) js fuel t cs=jq x→
  cs.length=k→ ∃d,V d∧ ∀(A:Array Value)(o:Nat),(∀(i:Nat) v,cs[i]? =jq v→A[o+i]? =jq v)→RoC (zK9 w) (f d) A o
theorem zXr{t:TypeId}{q:IntKind}(hu:P.underlying t=jq (.int q)):RdT P t 1 (IK q) (fun n=>(Lit.int q n).wf=js):=by intro H enc w fuel cs x h _;obtain⟨n,rfl,_,hw⟩:=DataW.trod_int hu h;exact⟨n,hw,fun A o hA=>by simp only[RoC];exact⟨by simpa using hA 0 _ rfl,rfl⟩⟩
theorem yBf{α:Type}{f:α→T}{V:α→Prop}{t e:TypeId}{k:Nat}(hu:P.underlying t=jq (.slice e))(hk:P.cellsOf e=k)(eA:0<k)(h:RdT P e k f V):
  RdT P t 1 (L k f) (fun xs=>xs.length≤maxLen∧ ∀x∈xs,V x):=by
 intro H enc w fuel cs x hx _;rcases DataW.trod_slice hu hx with⟨rfl,_⟩|⟨a,len,cap,elems,rest,n,rfl,rfl,_,_,eY,pT,hel,pP,_⟩
 ·refine⟨[],⟨by simp,by simp⟩,fun A o hA=>?_⟩
  simp only[RoC,Ja9,Li];exact⟨jr,0,by simpa using hA 0 _ rfl,J7 _,by simp[maxLen],fun h=>absurd rfl h⟩
 ·subst hk
  have key:∀i,i<len→ ∃y,V y∧ ∃cs':List Value,cs'.length=P.cellsOf e∧(∀(j:Nat) v,cs'[j]? =jq v→w.cell? ((a.add (i*P.cellsOf e)).add j)=jq v)∧
    ∀(A:Array Value)(o:Nat),(∀(j:Nat) v,cs'[j]? =jq v→A[o+j]? =jq v)→RoC (zK9 w) (f y) A o:=by
   intro i hi;have h1:=pP i hi;rw[J4 (by omega)]at h1;obtain⟨cs',h2,h3⟩:=Option.bind_eq_some_iff.1 h1;obtain⟨h4,h5⟩:=zOT h2;obtain⟨y,h6,h7⟩:=h enc w n cs' _ h3 h4;exact⟨y,h6,cs',h4,h5,h7⟩
  obtain⟨xs,mE,eE⟩:=zF4 len key;refine⟨xs,⟨by omega,fun y hy=>?_⟩,fun A o hA=>?_⟩
  ·obtain⟨i,hi,rfl⟩:=Jah.1 hy
   exact(eE i _ (J4 hi)).1
  ·simp only[RoC,Jj,mE]
   refine⟨jq a,cap,by simpa using hA 0 _ rfl,eY,pT,fun gf=>?_⟩;have bh:0<xs.length:=by
    cases xs with
    |nil=>simp at gf
    |cons _ _=>simp
   obtain⟨_,cs0,g1,g2,_⟩:=eE 0 _ (J4 bh);have hz:a.add (0*P.cellsOf e)=a:=by simp[Addr.add]
   have g3:=g2 0 cs0[0] (J4 (by omega));rw[hz,show a.add 0=a from by simp[Addr.add]]at g3;obtain⟨mP,c,e',fr,hb,_⟩:=zNG g3;obtain⟨b,off,sp⟩:=a;simp only at mP hb;subst mP;refine⟨b,off,c,e',fr,rfl,hb,zNH _ _ _ _ fun i y hy=>?_⟩;rw[Jp,K7]at hy;obtain⟨z,mC,rfl⟩:=hy;obtain⟨_,cs',g1',g2',g4⟩:=eE i z mC;refine g4 c _ fun j v hv=>?_
   have:=g2' j v hv;rw[zKA,zKA]at this;obtain⟨_,c2,e2,fr2,mB,fJ⟩:=zNG this;simp only at mB fJ;rw[hb]at mB;cases mB;exact fJ
end
def zTU(v:Value):Value:=if v.oneCell' then v else .bool jt
theorem zKB(v:Value):(zTU v).oneCell'=js:=by unfold zTU;split;assumption;rfl
def hd0(vs:Array Value)(s:Nat)(p:List Nat):Value:=
 match vs[s]?,p with
 |some (.agg cs),[j]=>zTU (cs[j]?.getD (.bool jt))
 |some v,[]=>zTU v
 |_,_=>.bool jt
def G0(vs:Array Value):Gh:={ hd:=hd0 vs,ad:=fun _ _=>default,lb:=fun _ _=>jr,ow:=fun _=>jr }
theorem yBg(w:World)(vs:Array Value):Mem ⟨zK9 w,fun _=>False,w,0⟩ (G0 vs) w where
 one s p:=by
  simp only[G0,hd0];split
  ·exact zKB _
  ·exact zKB _
  ·rfl
 lb b o l h:=by simp[G0]at h
 ow b l h:=by simp[G0]at h
 st b x h:=h
 fr b _ _:=rfl
 sz:=J7 _
 bk:=⟨fun b cs e h=>⟨cs,h,rfl⟩,rfl,rfl⟩
def RdA(P:Program)(t:TypeId){α:Type}(u:α→T)(V:α→Prop):Prop:=
 ∀{H:Type}(enc:TypeId×Value→H)(w:World)(base fuel:Nat)(v:Value)(x:DataW H×List MemPlace),DataW.trod enc P w 0 (fun _=>js) js fuel t v.cells.toList=jq x→
  Value.okWide P w .any base t v→ ∃d,V d∧ ∀(vs:Array Value)(s:Nat),vs[s]? =jq v→jq v=jq (mkV (G0 vs) s (u d) [])∧R (zK9 w) (G0 vs) w s (u d) []
def RdC(P:Program)(t:TypeId){α:Type}(u:α→T)(V:α→Prop):Prop:=
 ∀{H:Type}(enc:TypeId×Value→H)(w:World)(fuel:Nat)(c:Value)(x:DataW H×List MemPlace),DataW.trod enc P w 0 (fun _=>js) js fuel t [c]=jq x→
  ∃d,V d∧c.oneCell'=js∧ ∀(G:Gh)(s:Nat)(p:List Nat),G.hd s p=c→vals G s (u d) p=[c]∧R (zK9 w) G w s (u d) p
section
variable {P:Program}
theorem zYZ{α:Type}{f:α→T}{V:α→Prop}{t:TypeId}(h:RdT P t 1 f V)(h1:∀{H:Type}(enc:TypeId×Value→H)(w:World)(fuel:Nat)(c:Value)(x:DataW H×List MemPlace),DataW.trod enc P w 0 (fun _=>js) js fuel t [c]=jq x→c.oneCell'=js):
  RdC P t (fun x=>T.ro (f x)) V:=by
 intro H enc w fuel c x hx;obtain⟨d,g1,g2⟩:=h enc w fuel [c] x hx rfl;refine⟨d,g1,h1 enc w fuel c x hx,fun G s p hp=>⟨by simp only[vals,hp],?_⟩⟩;simp only[R,hp];exact g2 _ _ fun i v hv=>by
  cases i with
  |zero=>simpa using hv
  |succ i=>simp at hv
theorem yBh{α:Type}{f:α→T}{V:α→Prop}{t e:TypeId}{k:Nat}(hu:P.underlying t=jq (.slice e))(hk:P.cellsOf e=k)(eA:0<k)(h:RdT P e k f V):RdC P t (fun xs=>T.ro (L k f xs)) (fun xs=>xs.length≤maxLen∧ ∀x∈xs,V x):=
 zYZ (yBf hu hk eA h) fun enc w fuel c x hx=>by
  rcases DataW.trod_slice hu hx with⟨h1,_⟩|⟨a,len,cap,_,_,_,_,h1,_⟩<;>
  ·simp only[Qm.injEq,and_true]at h1
   subst h1;rfl
theorem zTV{α:Type}{u:α→T}{V:α→Prop}{t:TypeId}(hs:∀x,(u x).single=js∧ ∀G s,mkV G s (u x) []=G.hd s [])(h:RdC P t u V)
  (hv:∀{w:World}{base:Nat}{v:Value},Value.okWide P w .any base t v→v.oneCell'=js):RdA P t u V:=by
 intro H enc w base fuel v x hx gD;have h1:v.cells.toList=[v]:=by have:=hv gD;cases v<;>simp_all [Value.oneCell',Value.cells]
 rw[h1]at hx;obtain⟨d,g1,g2,g3⟩:=h enc w fuel v x hx;refine⟨d,g1,fun vs s pu=>?_⟩;have gF:(G0 vs).hd s []=v:=by simp only[G0,hd0,pu];cases v<;>first|rfl|simp[Value.oneCell']at g2
 exact⟨by rw[(hs d).2,gF],(g3 _ _ _ gF).2⟩
end
theorem FnC.top{P:Program}{f:FuncId}{us:List T}(h:FnC P f us [B js] []){w:World}{vs:Array Value}(gu:vs.size=us.length)
  (ha:∀(i:Nat) u,us[i]? =jq u→vs[i]? =jq (mkV (G0 vs) i u [])∧R (zK9 w) (G0 vs) w i u []):
  Calls P f vs w fun e w'=>e=.returned (.bool js)∧w'.os=w.os∧w'.output=w.output∧w.heap.size≤w'.heap.size∧ ∀b,b<w.heap.size→w'.heap[b]? =w.heap[b]?:=by
 refine(h (zK9 w) (fun _=>False) w (G0 vs) vs gu (fun i u hu=>?_) (yBg w vs)).mono fun e w'=>?_
 ·obtain⟨h1,h2⟩:=ha i u hu
  refine⟨?_,h2⟩;rw[h1]
 ·rintro⟨S',G',nd,_,he,hm,pN,hr,_,_⟩
  match nd,pN with
  | [(s,p,t)],pN=>
   simp only[Jm,Ja9,Qm.injEq,and_true]at pN;subst pN;have:=(hr (s,p,B js) (by simp)).1;simp only[R]at this;exact⟨by rw[he];simp only[zKl,sC,this],hm.bk.os,hm.bk.out,hm.sz,fun b hb=>hm.fr b hb (fun h=>h)⟩
theorem zD8{H:Type}{enc:TypeId×Value→H}{P:Program}(hl:laidOutB P=js){W W':World}{sp:Nat→Bool}:∀{ts:List TypeId}{vs:List Value}{ds:List (DataW H)}{ps:List MemPlace},(∀t∈ts,P.readableRec t=js∧t<P.types.size)→
  DataW.TrodAll enc P W 0 (fun _=>js) js ts vs ds ps→(∀p∈ps,W.sameAt W' p)→(∀p∈ps,sp p.block=js)→DataW.TrodAll enc P W' 0 sp js ts vs ds ps
 | [],[],[],_,_,h,_,_=>h
 |t::ts,v::vs,d::ds,ps,hr,h,h1,h2=>by
  obtain⟨p,q,g1,g2,rfl⟩:=h;exact⟨p,q,Go.WideElems.Trod_stays hl (hr t (by simp)).1 (hr t (by simp)).2 g1 (fun x hx=>h1 x (by simp[hx])) (fun x hx=>h2 x (by simp[hx])),
   zD8 hl (fun t' pH=>hr t' (by simp[pH])) g2 (fun x hx=>h1 x (by simp[hx])) (fun x hx=>h2 x (by simp[hx])),rfl⟩
 | [],_::_,_,_,_,h,_,_| [],[],_::_,_,_,h,_,_|_::_,[],_,_,_,h,_,_|_::_,_::_,[],_,_,h,_,_=>h.elim
theorem zMd{C:Checked}{os:Os}(own:ownKnob C.prog.godebug=jr)(started:os.Started){f:FuncId}{fn:Func}(noInit:C.prog.inits.idxOf? f=jr)(hfn:C.prog.funcs[f]? =jq fn){H:Type}{enc:TypeId×Value→H}{s:ChangeSpec}{conds:List PathCond}{apart fresh handsOn again:Bool}
  (witness:∃(w:World)(tape:Tape)(i:Input),w.os=os∧(w.forCall tape i).Shaped C.prog∧i.vars=[]∧Input.okWide C.prog (w.forCall tape i) .any w.heap.size f i∧
   s.pre6 enc C.prog fn conds apart (w.forCall tape i).memory i.args∧Assume.holds {} C.prog (lone (Frame.enter C.prog f i.args .normal) [] (w.forCall tape i)))
  (hs:∀(l:List (DataW H)),l.length=fn.params.size→(s.fn H l).results=[.lit (.bool js)]∧(s.fn H l).args=l∧(s.fn H l).vars=[])(pW:s.vars=[]){tb:TypeId}(eJ:fn.resultTypes= #[tb])(hb:C.prog.underlying tb=jq .bool)
  (laid:laidOutB C.prog=js)(au:fn.params.toList.all (fun t=>C.prog.readableRec t&&decide (t<C.prog.types.size))=js)
  (law:∀(W:World)(base:Nat)(args:Array Value)(ds:List (DataW H))(p:List MemPlace),(∀(j:Nat) t v,fn.params[j]? =jq t→args[j]? =jq v→Value.okWide C.prog W .any base t v)→
   DataW.TrodAll enc C.prog W 0 (fun _=>js) js fn.params.toList args.toList ds p→
   ∃us:List T,args.size=us.length∧FnC C.prog f us [B js] []∧ ∀(i:Nat) u,us[i]? =jq u→args[i]? =jq (mkV (G0 args) i u [])∧R (zK9 W) (G0 args) W i u []):
  ReturnsInHanded {} C os f .any (s.pre6 enc C.prog fn conds apart) (s.post enc C.prog fn apart fresh handsOn again):=by
 refine returnsInHanded_of_change (C:=C) own started noInit hfn witness ?_;intro W base args ds gs before hval hW _ _;have bH:=hW;obtain⟨p,q,hA,hV,hbq,hfz,pN⟩:=hW;obtain⟨us,h1,h2,h3⟩:=law W base args ds p hval hA;have hl:ds.length=fn.params.size:=by
  have:∀{ts:List TypeId}{vs:List Value}{ds:List (DataW H)}{p:List MemPlace},DataW.TrodAll enc C.prog W 0 (fun _=>js) js ts vs ds p→ds.length=ts.length:=by
   intro ts
   induction ts with
   |nil=>intro vs ds p h;cases vs<;>cases ds<;>first|rfl|exact h.elim
   |cons t ts ih=>intro vs ds p h;cases vs<;>cases ds<;>first|exact h.elim|(obtain⟨_,_,_,g,_⟩:=h;simp[ih g])
  simpa using this hA
 rw[pW]at hV;have hq:gs=[]∧q=[]:=by
  cases gs with
  |nil=>exact⟨rfl,hV⟩
  |cons _ _=>exact hV.elim
 obtain⟨rfl,rfl⟩:=hq;have gE:=bH.lt;refine(h2.top h1 h3).mono fun e w' ⟨he,ho,hq,gu,hh⟩=>⟨_,he,?_⟩
 have gZ:∀p∈before,W.sameAt w' p:=fun p hp=>by
  have:=gE p hp;cases p with
  |cell b off=>simp only[World.sameAt,World.cell?,hh b this]
  |map b=>exact hh b this
 obtain⟨k1,k2,k3⟩:=hs ds hl;have hbp:before=p:=by simpa using hbq
 subst hbp;have gB:∀t∈fn.params.toList,C.prog.readableRec t=js∧t<C.prog.types.size:=fun t ht=>by have:=Jr.1 au t ht;simpa using this
 have gy:∀(b:Nat)(sp:Nat→Bool)(hd:Bool),DataW.TrodAll enc C.prog w' b sp hd fn.resultTypes.toList ((Value.bool js).resultList fn.resultTypes.size) (s.fn H (ds++[])).results []:=fun b sp hd=>by rw[eJ,Jk,k1];exact⟨[],[],⟨1,by simp[DataW.trod,hb,Value.cells]⟩,⟨rfl,rfl⟩⟩
 have gj:∀sp:Nat→Bool,(∀p∈before,sp p.block=js)→DataW.TrodAll enc C.prog w' 0 sp js fn.params.toList args.toList (s.fn H (ds++[])).args before:=fun sp mP=>by rw[Jk,k2];exact zD8 laid gB hA gZ mP
 have tw:∀sp:Nat→Bool,DataW.TrodVars enc C.prog w' sp s.vars (s.fn H (ds++[])).vars []:=fun sp=>by rw[pW,Jk,k3];rfl
 have gp:∀p∈before,(fun b=>decide (b<W.heap.size)) p.block=js:=fun p hp=>by simpa using gE p hp
 have pz:∀p∈before,∀o,w'.frozen? ⟨p.block,o,jr⟩=W.frozen? ⟨p.block,o,jr⟩:=fun p hp o=>by simp only[World.frozen?,hh _ (gE p hp)]
 refine⟨ds,[],before,[],before,[],bH,gy _ _ _,gj _ gp,tw _,⟨ho,hq,fun i hi=>?_⟩,fun _=>⟨fun j t r hj hr=>?_,_,_,([]++before)++[],⟨[]++before,[],trodAll_append (gj _ (fun _ _=>rfl)) (gy _ _ _),tw _,rfl,fun b off hp=>?_,fun ha=>?_⟩,fun p hp _=>?_⟩⟩
 ·rw[hh i hi]
  cases hx:W.heap[i]? with
  |none=>rfl
  |some o=>cases o<;>simp
 ·rw[eJ]at hj hr
  match j,hj,hr with
  |0,hj,hr=>
   simp[Value.resultList]at hj hr;subst hj;subst hr;simp[Value.okWide,hb,Cell.okWide,Cell.ok]
 ·have cb:MemPlace.cell b off∈before:=by simpa using hp
  exact(pz _ cb off).trans (hfz b off cb)
 ·have:=pN ha
  simpa using this
 ·simpa using hp
end Go.Ab

namespace Go.Ab
open Go
def zA1(hs:List Nat)(E:Env):Prop:=∀s,hs.contains s=js→ ∃t,E s=jq t∧jT t=js
def lsS(s:Nat):zBE→Bool→Bool
 | [],b=>b
 |y::l,b=>lsS s l (match y.1.find s with
  |some (jq t)=>jT t
  |some jr=>jt
  |none=>b)
def wrS(hs:List Nat)(X:Stp):Bool:=hs.all fun s=>lsS s X.l js
theorem zQY{s:Nat}:∀(l:zBE)(E:Env)(b:Bool),(b=js→ ∃t,E s=jq t∧jT t=js)→lsS s l b=js→ ∃t,(E.apps l) s=jq t∧jT t=js
 | [],_,_,h,hw=>h hw
 |x::l,E,b,h,hw=>by
  simp only[lsS]at hw;refine zQY l (E.app x.1 x.2) _ (fun hb=>?_) hw;unfold Env.app;cases hf:x.1.find s with
  |some y=>cases y<;>simp_all
  |none=>
   rw[hf]at hb;obtain⟨t,he,ht⟩:=h hb
   grind[tA]
theorem zA1.apps{hs:List Nat}(l:zBE)(E:Env)(h:zA1 hs E)(hw:(hs.all fun s=>lsS s l js)=js):zA1 hs (E.apps l):=fun s gG=>
 zQY l E js (fun _=>h s gG) (Jr.1 hw s (by grind))
theorem zA1.runD{hs:List Nat}:∀(l:List (Bool×Stp))(E:Env),zA1 hs E→(∀y∈l,wrS hs y.2=js)→zA1 hs (runD E l)
 | [],_,h,_=>h
 |(b,X)::l,E,h,hw=>by
  simp only[Go.Ab.runD];refine zA1.runD l _ ?_ fun y hy=>hw y (by simp[hy])
  cases b with
  |true=>exact zA1.apps X.l E h (hw (js,X) (by simp))
  |false=>exact h
section
variable {P:Program}{Γ:Ctx}{pn:sJ}{E E':Env}{Q:Exit→Env→Prop}{ops:Array Oper}{o:Oper}{os:List Oper}{id:Nat}{wr:Wr}{chg:Chg}{hs:List Nat}
def zGI(P:Program)(Γ:Ctx)(pn:sJ)(ops:Array Oper)(o:Oper)(E E':Env):Prop:=
 ∀(a:Act)(w:World)(K:Act→World→Prop)(Q:Exit→Act→World→Prop),pn.Hold a→jW Γ E a w→(∀a' w',jW Γ E' a' w'→(∀s,o.dst≠jq s→a'.tmps[s]? =a.tmps[s]?)→K a' w')→
  if Region.wanted o (yielded ops a.tmps)then o.wp P a w K Q∨(o.asks P a w∧LetsOut Q)else K (a.put o.dst undef) w
def vR(P:Program)(Γ:Ctx)(pn:sJ)(hs:List Nat)(ops:Array Oper):List Oper→List Stp→Prop
 | [],[]=>True
 |o::os,X::Xs=>(∀E:Env,E.Has X.rd→zA1 hs E→zGI P Γ pn ops o E (E.apps X.l))∧vR P Γ pn hs ops os Xs
 |_,_=>False
theorem vR.get:∀(os:List Oper)(Xs:List Stp),vR P Γ pn hs ops os Xs→os.length=Xs.length∧ ∀(i:Nat)(o:Oper)(X:Stp),os[i]? =jq o→Xs[i]? =jq X→ ∀E:Env,E.Has X.rd→zA1 hs E→zGI P Γ pn ops o E (E.apps X.l)
 | [],[],_=>by simp
 |o::os,X::Xs,h=>by
  obtain⟨h1,h2⟩:=vR.get os Xs h.2;refine⟨by simp[h1],fun i o' X' ho hX=>?_⟩;cases i with
  |zero=>simp at ho hX;subst ho hX;exact h.1
  |succ i=>exact h2 i o' X' (by simpa using ho) (by simpa using hX)
 | [],_::_,h=>by simp[vR]at h
 |_::_,[],h=>by simp[vR]at h
theorem vR.snoc{X:Stp}:∀(os:List Oper)(Xs:List Stp),vR P Γ pn hs ops os Xs→(∀E:Env,E.Has X.rd→zA1 hs E→zGI P Γ pn ops o E (E.apps X.l))→vR P Γ pn hs ops (os++[o]) (Xs++[X])
 | [],[],_,h=>⟨h,trivial⟩
 |_::os,_::Xs,h1,h=>⟨h1.1,vR.snoc os Xs h1.2 h⟩
 | [],_::_,h,_=>by simp[vR]at h
 |_::_,[],h,_=>by simp[vR]at h
theorem sS.snoc{X:Stp}:∀(Xs:List Stp)(E:Env),sS E Xs→(runD E (Xs.map fun y=>(js,y))).Has X.rd→sS E (Xs++[X])
 | [],_,_,h=>⟨by grind[runD],trivial⟩
 |_::Xs,_,h1,h=>⟨h1.1,sS.snoc Xs _ h1.2 (by simpa[runD]using h)⟩
theorem zJo{E0:Env}{hZ:List Nat}{Xs:List Stp}{an:List (List Nat)}{Q':Exit→Act→World→Prop}(hf:zBt 0 ops.toList=js)(ha:zAN an an ops.toList=js)(hp:kS Xs 0 an Xs=js)
  (gH:vR P Γ pn hZ ops ops.toList Xs)(hI:zA1 hZ E0)(hw:Xs.all (wrS hZ)=js)(hh:sS E0 Xs)(ax:ops.toList.all (fun o=>pn.ok o.dst)=js)(hQ:∀a' w',jW Γ (runD E0 (Xs.map fun y=>(js,y))) a' w'→pn.Hold a'→Q' .normal a' w'):
  ∀(fuel:Nat)(L:List Bool)(a:Act)(w:World),L.length=ops.size→L.count jt=fuel→zQM ops L→jW Γ (runD E0 (L.zip Xs)) a w→pn.Hold a→wpAny P .any ops Q' fuel L.toArray a w:=by
 obtain⟨gv,fK⟩:=vR.get _ _ gH;have mo:Xs.length=ops.size:=by grind
 intro fuel
 induction fuel with
 |zero=>
  intro L a w hL hcnt gK hs fC;have cj:∀b∈L,b=js:=by grind
  have jn:L=J1 ops.size js:=by rw[←hL];exact List.eq_replicate_iff.2 ⟨rfl,cj⟩
  refine⟨?_,?_⟩
  ·apply List.eq_nil_iff_forall_not_mem.2
   intro j hj;obtain⟨h1,o,ho,_⟩:=mem_ready.1 hj;have gE:=(Kt.1 ho).1;rw[jn]at h1;simp[gE]at h1
  ·refine hQ a w ?_ fC
   have:L.zip Xs=Xs.map fun y=>(js,y):=by
    rw[jn,←mo]
    clear hs hL jn cj hcnt gK gH hw hh hp gv mo fK hQ
    induction Xs with
    |nil=>rfl
    |cons X Xs ih=>simp[Ks,ih]
   grind
 |succ fuel ih=>
  intro L a w hL hcnt gK hs fC;refine⟨fun hr=>?_,fun i hi=>?_⟩
  ·
   exfalso
   have te:∃m:Nat,L[m]? =jq jt:=by
    have:jt∈L:=by grind
    grind[Uu]
   obtain⟨m,hm,eF⟩:=zCq te;have hmlt:=(Ja.1 hm).1;have du:ops[m]? =jq ops[m]:=by simp
   have:m∈Region.ready .any ops L.toArray:=by
    refine mem_ready.2 ⟨by simp_all,ops[m],du,fun e he hb=>?_⟩;have ay:e.on∈zBF ops[m]:=by
     simp only[zBF,Jh,Jap]
     grind
    have gE:=zFQ ops.toList 0 m _ hf (by simp) _ ay;rw[Jc]at gE;cases hL1:L[e.on]? with
    |none=>grind
    |some b=>
     cases b with
     |false=>grind
     |true=>simp_all
   grind
  ·obtain⟨h1,o,ho,cj⟩:=mem_ready.1 hi
   have gE:=(Kt.1 ho).1;have hLi:L[i]? =jq jt:=by simp_all
   have ff:∀m∈zBF o,L[m]? =jq js:=by
    intro m hm;simp only[zBF,Jh,Jap]at hm;obtain⟨e,⟨he,hb⟩,rfl⟩:=hm;have:=cj e (by grind) hb;cases hL1:L[e.on]? with
    |none=>grind
    |some b=>simp_all
   have hanc:=zGA hf ha gK i i (J7 _) o ho ff;have tg:Xs[i]? =jq Xs[i]:=by simp
   generalize hXe:Xs[i]=X at tg
   have aL:∀(j:Nat)(Y:Stp),Xs[j]? =jq Y→i<j→L[j]? =jq js→X.apart Y=js:=by
    intro j Y hY ea hj;rcases zEY Xs Xs 0 an j Y hp hY i X (by omega) tg with h|h
    ·have hjlt:=(Ja.1 hY).1
     have hoj:ops[j]? =jq ops[j]:=by simp
     have:=zGA hf ha gK j j (J7 _) _ hoj (gK j _ hoj hj) i h
     grind
    ·exact h
   have bz:∀(j:Nat)(Y:Stp),Xs[j]? =jq Y→j<i→L[j]? =jq jt→Y.apart X=js:=by grind[zEY]
   have iz:∀y∈(L.take i).zip (Xs.take i),∃j:Nat,j<i∧L[j]? =jq y.1∧Xs[j]? =jq y.2:=by
    intro y hy;obtain⟨j,g1,g2⟩:=zJj hy;rw[Ln]at g1 g2
    grind
   have mh:∀y∈(L.drop (i+1)).zip (Xs.drop (i+1)),∃j:Nat,i<j∧L[j]? =jq y.1∧Xs[j]? =jq y.2:=by
    intro y hy;obtain⟨j,g1,g2⟩:=zJj hy;rw[Ky]at g1 g2
    grind
   have mP:=zHY hLi tg;have iW:(runD E0 (L.zip Xs)).Has X.rd:=by
    rw[mP,zAz];simp only[runD,Lx,if_false];have h0:=sS.get Xs E0 hh i X tg;refine h0.of fun s t gH hZ=>?_
    have hsm:s∈X.rd.map (·.1):=by grind
    refine zHX _ _ (fun y hy hb=>?_) ?_
    ·obtain⟨j,g1,g2,g3⟩:=mh y hy
     have:=Stp.apart_spec (aL j y.2 g3 g1 (by rw[g2,hb]));exact⟨by grind,by grind⟩
    ·have mn:((L.take i).zip (Xs.take i)).map (fun y=>(js,y.2))=(Xs.take i).map fun y=>(js,y):=by
      have hl2:(L.take i).length=(Xs.take i).length:=by simp;omega
      rw[show(fun y:Bool×Stp=>(js,y.2))=(fun y=>(js,y))∘Prod.snd from rfl,←Jau,List.map_snd_zip (by omega)]
     refine zHW _ E0 E0 (fun y hy hb gG=>?_) (fun _ h=>h) t (by grind);obtain⟨j,g1,g2,g3⟩:=iz y hy;have:=Stp.apart_spec (bz j y.2 g3 g1 (by rw[g2,hb]))
     grind
   have hnext:runD E0 ((L.set i js).zip Xs)=(runD E0 (L.zip Xs)).apps X.l:=by
    have hLs:(L.set i js)[i]? =jq js:=by grind
    rw[zHY hLs tg,mP,zAz,zAz];simp only[runD,if_true,Lx,if_false,List.take_set_of_le (J7 i),List.drop_set_of_lt (Nat.lt_succ_self i)];refine zEX _ X _ fun y hy hb=>?_
    obtain⟨j,g1,g2,g3⟩:=mh y hy;exact(Stp.apart_spec (by grind)).1
   have uo:=fK i o X (by grind) tg _ iW (zA1.runD (L.zip Xs) E0 hI fun y hy=>Jr.1 hw _ (by obtain⟨j,_,g⟩:=zJj hy;grind));unfold wpOp;simp only[ho];refine uo a w _ Q' fC hs fun a' w' gG pz=>?_
   rw[List.setIfInBounds_toArray];have gD:pn.ok o.dst=js:=by grind
   refine ih (L.set i js) a' w' (by simp[hL]) (by grind) ?_ (by grind) (fC.frame gD pz);intro k ok hk hkt m hm
   by_cases hki:k=i
   ·subst hki
    rw[ho]at hk;simp at hk;subst hk;rw[Jb3];split
    ·grind
    grind
   ·rw[Jaj (Ne.symm hki)]at hkt
    rw[Jb3];split
    ·grind
    ·exact gK k ok hk hkt m hm
theorem CW.drawnI{hZ:List Nat}{id:Nat}{E:Env}{Q:Exit→Env→Prop}(Xs:List Stp)(an:List (List Nat))(hm:P.follows .mixedOrders=js)(gH:vR P Γ pn hZ ops ops.toList Xs)(hI:zA1 hZ E)(hw:Xs.all (wrS hZ)=js)(hh:sS E Xs)
  (hQ:Q .normal (runD E (Xs.map fun y=>(js,y))))(hf:zBt 0 ops.toList=js:=by rfl)(ha:zAN an an ops.toList=js:=by rfl)(hp:kS Xs 0 an Xs=js:=by rfl)
  (ax:ops.toList.all (fun o=>pn.ok o.dst)=js:=by rfl):CW P Γ pn (.region id ops js) E Q:=by
 intro a w Q' hs fC hQ';refine wp_region_any hm ?_;have gG:jW Γ E a { w with drawn:=w.drawn+1 }:=by obtain⟨S,hS,gJ,G,hr⟩:=hs;exact⟨S,hS,gJ,G,hr.heap rfl⟩
 have:=zJo (P:=P) (Γ:=Γ) (pn:=pn) (E0:=E) (Q':=Q') hf ha hp gH hI hw hh ax (by grind) ops.size (J1 ops.size jt) a { w with drawn:=w.drawn+1 } (by simp) (by simp)
  (fun i o ho hi=>by
   grind) (by
   have:runD E ((J1 ops.size jt).zip Xs)=E:=by
    generalize ops.size=n
    clear gH hI hw hh hQ hf ha hp gG
    induction n generalizing Xs with
    |zero=>simp[runD]
    |succ n ih=>
     cases Xs with
     |nil=>simp[runD]
     |cons X Xs=>simpa[Ks,runD]using ih Xs
   grind) fC
 grind
def DK(P:Program)(Γ:Ctx)(pn:sJ)(ops:Array Oper)(id:Nat)(hs:List Nat)(E0:Env)(Q:Exit→Env→Prop)(os:List Oper)(E:Env)(acc:List Stp):Prop:=
 ∀don,don++os=ops.toList→vR P Γ pn hs ops don acc.reverse→sS E0 acc.reverse→E=runD E0 (acc.reverse.map fun y=>(js,y))→CW P Γ pn (.region id ops js) E0 Q
variable {E0:Env}{acc:List Stp}
theorem CW.dk(h:DK P Γ pn ops id [] E Q ops.toList E []):CW P Γ pn (.region id ops js) E Q:=h [] rfl trivial trivial rfl
theorem CW.dkS(hs:List Nat)(h:DK P Γ pn ops id hs E Q ops.toList E []):CW P Γ pn (.region id ops js) E Q:=h [] rfl trivial trivial rfl
theorem dGP(rd:List (Nat×T))(l:zBE)(gB:E.Has rd)(gH:∀E':Env,E'.Has rd→zA1 hs E'→zGI P Γ pn ops o E' (E'.apps l))(k:DK P Γ pn ops id hs E0 Q os (E.apps l) (⟨rd,l⟩::acc)):DK P Γ pn ops id hs E0 Q (o::os) E acc:=by
 intro don hd hso hh hE;subst hE;have hr:=fun X=>Hy (a:=X) (as:=acc)
 refine k (don++[o]) (by simp[hd]) ?_ ?_ ?_
 ·grind[vR.snoc]
 ·grind[sS.snoc]
 ·rw[hr,L7,zAz];rfl
theorem dGS(rd:List (Nat×T))(l:zBE)(gB:E.Has rd)(gH:∀E':Env,E'.Has rd→zA1 hs E'→yT P Γ ops o E' (E'.apps l))(k:DK P Γ pn ops id hs E0 Q os (E.apps l) (⟨rd,l⟩::acc)):DK P Γ pn ops id hs E0 Q (o::os) E acc:=
 dGP rd l gB (fun E' h h' a w K Q _=>gH E' h h' a w K Q) k
theorem dG(rd:List (Nat×T))(l:zBE)(gB:E.Has rd)(gH:∀E':Env,E'.Has rd→yT P Γ ops o E' (E'.apps l))(k:DK P Γ pn ops id hs E0 Q os (E.apps l) (⟨rd,l⟩::acc)):DK P Γ pn ops id hs E0 Q (o::os) E acc:=
 by grind[dGS]
def zQZ(hs:List Nat)(E:Env):Bool:=hs.all fun s=>match E s with
 |some t=>jT t
 |none=>jt
theorem zRa(h:zQZ hs E=js):zA1 hs E:=by
 intro s gG;have h1:=Jr.1 h s (by grind)
 grind
theorem dN(an:List (List Nat))(hm:P.follows .mixedOrders=js)(hQ:Q .normal E)(hf:zBt 0 ops.toList=js:=by rfl)(ha:zAN an an ops.toList=js:=by rfl)(hp:kS acc.reverse 0 an acc.reverse=js:=by rfl)
  (ax:ops.toList.all (fun o=>pn.ok o.dst)=js:=by rfl)(tc:zQZ hs E0=js:=by rfl)(hw:acc.reverse.all (wrS hs)=js:=by rfl):DK P Γ pn ops id hs E0 Q [] E acc:=by
 intro don hd gH hh hE
 grind[CW.drawnI,zRa]
end
end Go.Ab

namespace Go.Ab
open Go
section
variable {P:Program}{Γ:Ctx}{pn:sJ}{E E':Env}{Q:Exit→Env→Prop}{ops:Array Oper}{o:Oper}{os:List Oper}{id d:Nat}{wr:Wr}{chg:Chg}{hs:List Nat}{E0:Env}{acc:List Stp}{x y:Operand}{ty:TypeId}{ps:String}{af:Array Edge}{gd:Option (Nat×Bool)}
class zEs (P:Program) (t:TypeId) (e:outParam TypeId):Prop where
 h:P.underlying t=jq (.slice e)
class jU (P:Program) (t:TypeId) (b:outParam Bool) (n:outParam Nat):Prop where
 h:∀u:T,u.single=b→u.size=n→zQQ P t u
theorem hE{rd:List (Nat×T)}{s:Nat}{t:T}(h:E.Has rd)(hr:xK rd s=jq t):E s=jq t:=h.le s t hr
theorem hO{rd:List (Nat×T)}{t:T}(h:E.Has rd)(hr:opT (xK rd) x=jq t):opT E x=jq t:=by
 cases x<;>simp only[opT]at hr ⊢
 ·exact h.le _ _ hr
 all_goals exact hr
mutual
def zDP:T→Bool
 |.ro _|.lit _|.any=>js
 |.agg xs|.tup xs=>zFV xs
 |.ptr t=>zDP t
 |.sl _ []=>js
 |_=>jt
def zFV:List T→Bool
 | []=>js
 |x::xs=>zDP x&&zFV xs
end
mutual
theorem zDj:{t:T}→zDP t=js→zZ t
 |.ro _,_|.lit _,_|.any,_=>by simp[zZ,xC]
 |.agg xs,h|.tup xs,h=>by simp only[zDP]at h;simpa only[zZ,xC]using zGJ h
 |.ptr t,h=>by simp only[zDP]at h;exact yA (zDj h)
 |.sl _ [],_=>by simp[zZ,xC,xX]
 |.sl _ (_::_),h=>by simp[zDP]at h
 |.same _ _,h|.addr _ _,h|.sub _ _ _ _ _,h=>by simp[zDP]at h
theorem zGJ:{xs:List T}→zFV xs=js→xE xs
 | [],_=>trivial
 |x::xs,h=>by simp only[zFV,J3]at h;exact⟨zDj h.1,zGJ h.2⟩
end
theorem zZa{α:Type}{t e:TypeId}{ti:TypeInfo}{r k:Nat}{q:List Nat}{f:α→T}{xs:List α}{v:α}{i:Int}[ht:zBk P t e ti k](hx:uJ E x=jq (r,q,L k f xs))(hy:opT E y=jq (I i))(hv:ixO xs i=jq v)(sd:J5 d Γ.N=js):
  Ok P Γ ⟨jq d,.indexAddr t x y,ty,ps,af,gd⟩ E (E.app [(d,jq (.addr r (i.toNat::q)))] [(d,0)]):=zYN ht hv hx hy sd
theorem zRb{α:Type}{t e:TypeId}{ti:TypeInfo}{r k:Nat}{q:List Nat}{f:α→T}{xs:List α}{v:α}{i:Int}[ht:zBk P t e ti k](hx:uJ E x=jq (r,q,.ro (L k f xs)))(hy:opT E y=jq (I i))(hv:ixO xs i=jq v)(sd:J5 d Γ.N=js):
  Ok P Γ ⟨jq d,.indexAddr t x y,ty,ps,af,gd⟩ E (E.app [(d,jq (.ro (.ptr (f v))))] [(d,0)]):=zWo ht hv hx hy sd
theorem zNI{t:TypeId}{u:T}{b:Bool}{n:Nat}[i:jU P t b n](hx:opT E x=jq (.ro (.ptr u)))(h1:u.single=b)(h2:u.size=n)(sd:J5 d Γ.N=js):Ok P Γ ⟨jq d,.load t x,ty,ps,af,gd⟩ E (E.app [(d,jq (roT u))] [(d,0)]):=zYO (i.h u h1 h2) hx sd
theorem zRc{t:TypeId}{u tr:T}{r:Nat}{q:List Nat}{b:Bool}{n:Nat}[i:jU P t b n](hx:opT E x=jq (.addr r q))(hr:E r=jq tr)(hg:tr.get q.reverse=jq u)(h1:u.single=b)(h2:u.size=n)(sd:(J5 d Γ.N&&tr.locd q.reverse&&(r != d)&&T.okB [(d,0)] (cpT r u q))=js):
  Ok P Γ ⟨jq d,.load t x,ty,ps,af,gd⟩ E (E.app [(d,jq (cpT r u q))] [(d,0)]):=yBd (i.h u h1 h2) hx hr hg sd
theorem zKC{t:TypeId}{u tr t0:T}{r:Nat}{q:List Nat}{b:Bool}{n:Nat}[i:jU P t b n](hx:uJ E x=jq (r,q,.ptr t0))(hr:E r=jq tr)(hg:tr.get (0::q).reverse=jq u)(h1:u.single=b)(h2:u.size=n)(sd:(J5 d Γ.N&&tr.locd (0::q).reverse&&(r != d)&&T.okB [(d,0)] (cpT r u (0::q)))=js):
  Ok P Γ ⟨jq d,.load t x,ty,ps,af,gd⟩ E (E.app [(d,jq (cpT r u (0::q)))] [(d,0)]):=zYX (i.h u h1 h2) hx hr hg sd
theorem zW1{α:Type}{t e:TypeId}{r k:Nat}{q:List Nat}{f:α→T}{xs:List α}[i:zEs P t e](hx:uJ E x=jq (r,q,L k f xs))(sd:J5 d Γ.N=js):
  Ok P Γ ⟨jq d,.call { callee:=.builtin .len,args:=#[x],argTypes:=#[t] },ty,ps,af,gd⟩ E (E.app [(d,jq (I (xs.length:Int)))] [(d,0)]):=zWp i.h hx sd
theorem zMe{α:Type}{t e:TypeId}{r k:Nat}{q:List Nat}{f:α→T}{xs:List α}[i:zEs P t e](hx:uJ E x=jq (r,q,.ro (L k f xs)))(sd:J5 d Γ.N=js):
  Ok P Γ ⟨jq d,.call { callee:=.builtin .len,args:=#[x],argTypes:=#[t] },ty,ps,af,gd⟩ E (E.app [(d,jq (I (xs.length:Int)))] [(d,0)]):=zQP i.h hx sd
theorem zL(k:RW P Γ pn ops os (E.app wr chg) Q)(h:Ok P Γ o E (E.app wr chg):=by exact zMa rfl rfl)(hg:o.guard=jr:=by rfl)(hp:pn.ok o.dst=js:=by rfl):RW P Γ pn ops (o::os) E Q:=oP h k hg hp
theorem yBi{g s:Nat}{b:Bool}(k:RW P Γ pn ops os (E.app wr chg) Q)(hg:o.guard=jq (g,b):=by rfl)(gW:(ops[g]?).bind (·.dst)=jq s:=by rfl)(hb:E s=jq (.lit (.bool b)):=by rfl)(h:Ok P Γ o E (E.app wr chg):=by exact zMa rfl rfl)(hp:pn.ok o.dst=js:=by rfl):RW P Γ pn ops (o::os) E Q:=RW.cons (yT.guard g b s h hg gW hb) k hp
theorem yX(k:RW P Γ pn ops os (E.app wr chg) Q)(h:Ok P Γ o E (E.app wr chg):=by exact zTN rfl rfl)(hg:o.guard=jr:=by rfl)(hp:pn.ok o.dst=js:=by rfl):RW P Γ pn ops (o::os) E Q:=oP h k hg hp
theorem kJ(k:RW P Γ pn ops os (E.app wr chg) Q)(h:Ok P Γ o E (E.app wr chg):=by exact zNI rfl rfl rfl rfl)(hg:o.guard=jr:=by rfl)(hp:pn.ok o.dst=js:=by rfl):RW P Γ pn ops (o::os) E Q:=oP h k hg hp
theorem zCD(k:RW P Γ pn ops os (E.app wr chg) Q)(h:Ok P Γ o E (E.app wr chg):=by exact zRb (by first|exact wU rfl rfl|exact kG rfl rfl (by first|rfl|exact zV (by assumption) rfl|exact zV (by assumption) (zV (by assumption) rfl)|exact wA rfl (zV (by assumption) rfl)|exact xZ (zV (by assumption) rfl)|exact xZ (wA rfl (zV (by assumption) rfl))|exact xZ (wA rfl (zV (by assumption) (zV (by assumption) rfl)))) rfl) rfl (by assumption) rfl)(hg:o.guard=jr:=by rfl)(hp:pn.ok o.dst=js:=by rfl):RW P Γ pn ops (o::os) E Q:=oP h k hg hp
theorem qF(k:RW P Γ pn ops os (E.app wr chg) Q)(h:Ok P Γ o E (E.app wr chg):=by exact zMe (by first|exact wU rfl rfl|exact kG rfl rfl (by first|rfl|exact zV (by assumption) rfl|exact zV (by assumption) (zV (by assumption) rfl)|exact wA rfl (zV (by assumption) rfl)|exact xZ (zV (by assumption) rfl)|exact xZ (wA rfl (zV (by assumption) rfl))|exact xZ (wA rfl (zV (by assumption) (zV (by assumption) rfl)))) rfl) rfl)(hg:o.guard=jr:=by rfl)(hp:pn.ok o.dst=js:=by rfl):RW P Γ pn ops (o::os) E Q:=oP h k hg hp
theorem wN(k:RW P Γ pn ops os (E.app wr chg) Q)(h:Ok P Γ o E (E.app wr chg):=by exact zQN (by assumption) rfl rfl rfl)(hg:o.guard=jr:=by rfl)(hp:pn.ok o.dst=js:=by rfl):RW P Γ pn ops (o::os) E Q:=oP h k hg hp
theorem sL(k:RW P Γ pn ops os (E.app wr chg) Q)(h:Ok P Γ o E (E.app wr chg):=by exact zWn rfl rfl rfl)(hg:o.guard=jr:=by rfl)(hp:pn.ok o.dst=js:=by rfl):RW P Γ pn ops (o::os) E Q:=oP h k hg hp
theorem zRd(k:RW P Γ pn ops os (E.app wr chg) Q)(h:Ok P Γ o E (E.app wr chg):=by exact zMb rfl rfl rfl)(hg:o.guard=jr:=by rfl)(hp:pn.ok o.dst=js:=by rfl):RW P Γ pn ops (o::os) E Q:=oP h k hg hp
theorem kU(k:RW P Γ pn ops os (E.app wr chg) Q)(h:Ok P Γ o E (E.app wr chg):=by exact zXe inferInstance (by first|exact wU rfl rfl|exact kG rfl rfl (by first|rfl|exact zV (by assumption) rfl|exact zV (by assumption) (zV (by assumption) rfl)|exact wA rfl (zV (by assumption) rfl)|exact xZ (zV (by assumption) rfl)|exact xZ (wA rfl (zV (by assumption) rfl))|exact xZ (wA rfl (zV (by assumption) (zV (by assumption) rfl)))) rfl) rfl rfl rfl)(hg:o.guard=jr:=by rfl)(hp:pn.ok o.dst=js:=by rfl):RW P Γ pn ops (o::os) E Q:=oP h k hg hp
theorem tK(k:RW P Γ pn ops os (E.app wr chg) Q)(h:Ok P Γ o E (E.app wr chg):=by first|exact zRc rfl rfl rfl rfl rfl rfl|exact zRc rfl rfl (by first|rfl|exact zV (by assumption) rfl|exact zV (by assumption) (zV (by assumption) rfl)|exact wA rfl (zV (by assumption) rfl)|exact xZ (zV (by assumption) rfl)|exact xZ (wA rfl (zV (by assumption) rfl))|exact xZ (wA rfl (zV (by assumption) (zV (by assumption) rfl)))) (by rfl) (by rfl) (by rfl))(hg:o.guard=jr:=by rfl)(hp:pn.ok o.dst=js:=by rfl):RW P Γ pn ops (o::os) E Q:=oP h k hg hp
theorem zBu(k:RW P Γ pn ops os (E.app wr chg) Q)(h:Ok P Γ o E (E.app wr chg):=by first|exact zKC (by first|exact wU rfl rfl|exact kG rfl rfl (by first|rfl|exact zV (by assumption) rfl|exact zV (by assumption) (zV (by assumption) rfl)|exact wA rfl (zV (by assumption) rfl)|exact xZ (zV (by assumption) rfl)|exact xZ (wA rfl (zV (by assumption) rfl))|exact xZ (wA rfl (zV (by assumption) (zV (by assumption) rfl)))) rfl) rfl rfl rfl rfl rfl|exact zKC (by first|exact wU rfl rfl|exact kG rfl rfl (by first|rfl|exact zV (by assumption) rfl|exact zV (by assumption) (zV (by assumption) rfl)|exact wA rfl (zV (by assumption) rfl)|exact xZ (zV (by assumption) rfl)|exact xZ (wA rfl (zV (by assumption) rfl))|exact xZ (wA rfl (zV (by assumption) (zV (by assumption) rfl)))) rfl) rfl (by first|rfl|exact zV (by assumption) rfl|exact zV (by assumption) (zV (by assumption) rfl)|exact wA rfl (zV (by assumption) rfl)|exact xZ (zV (by assumption) rfl)|exact xZ (wA rfl (zV (by assumption) rfl))|exact xZ (wA rfl (zV (by assumption) (zV (by assumption) rfl)))) (by rfl) (by rfl) (by rfl))(hg:o.guard=jr:=by rfl)(hp:pn.ok o.dst=js:=by rfl):RW P Γ pn ops (o::os) E Q:=oP h k hg hp
theorem zEt(k:RW P Γ pn ops os (E.app wr chg) Q)(h:Ok P Γ o E (E.app wr chg):=by exact zHZ (by assumption) rfl rfl rfl)(hg:o.guard=jr:=by rfl)(hp:pn.ok o.dst=js:=by rfl):RW P Γ pn ops (o::os) E Q:=oP h k hg hp
theorem zZb(k:RW P Γ pn ops os (E.app wr chg) Q)(h:Ok P Γ o E (E.app wr chg):=by exact zWu rfl rfl)(hg:o.guard=jr:=by rfl)(hp:pn.ok o.dst=js:=by rfl):RW P Γ pn ops (o::os) E Q:=oP h k hg hp
theorem zCE(k:RW P Γ pn ops os (E.app wr chg) Q)(h:Ok P Γ o E (E.app wr chg):=by exact zNB rfl rfl rfl)(hg:o.guard=jr:=by rfl)(hp:pn.ok o.dst=js:=by rfl):RW P Γ pn ops (o::os) E Q:=oP h k hg hp
theorem zKD(k:RW P Γ pn ops os (E.app wr chg) Q)(h:Ok P Γ o E (E.app wr chg):=by exact zWs rfl rfl rfl)(hg:o.guard=jr:=by rfl)(hp:pn.ok o.dst=js:=by rfl):RW P Γ pn ops (o::os) E Q:=oP h k hg hp
theorem zEu(k:RW P Γ pn ops os (E.app wr chg) Q)(h:Ok P Γ o E (E.app wr chg):=by exact zWr rfl rfl rfl)(hg:o.guard=jr:=by rfl)(hp:pn.ok o.dst=js:=by rfl):RW P Γ pn ops (o::os) E Q:=oP h k hg hp
theorem zGK(k:RW P Γ pn ops os (E.app wr chg) Q)(h:Ok P Γ o E (E.app wr chg):=by exact zQR inferInstance rfl rfl rfl rfl)(hg:o.guard=jr:=by rfl)(hp:pn.ok o.dst=js:=by rfl):RW P Γ pn ops (o::os) E Q:=oP h k hg hp
theorem zAZ(k:RW P Γ pn ops os (E.app wr chg) Q)(h:Ok P Γ o E (E.app wr chg):=by first|exact zC8 rfl (zGF rfl) rfl|exact zC8 rfl (isPtr_addr rfl) rfl|exact zC8 rfl (zFb (by first|exact wU rfl rfl|exact kG rfl rfl (by first|rfl|exact zV (by assumption) rfl|exact zV (by assumption) (zV (by assumption) rfl)|exact wA rfl (zV (by assumption) rfl)|exact xZ (zV (by assumption) rfl)|exact xZ (wA rfl (zV (by assumption) rfl))|exact xZ (wA rfl (zV (by assumption) (zV (by assumption) rfl)))) rfl)) rfl)(hg:o.guard=jr:=by rfl)(hp:pn.ok o.dst=js:=by rfl):RW P Γ pn ops (o::os) E Q:=oP h k hg hp
theorem zCb(k:RW P Γ pn ops os (E.app wr chg) Q)(h:Ok P Γ o E (E.app wr chg):=by exact zZa (by first|exact wU rfl rfl|exact kG rfl rfl (by first|rfl|exact zV (by assumption) rfl|exact zV (by assumption) (zV (by assumption) rfl)|exact wA rfl (zV (by assumption) rfl)|exact xZ (zV (by assumption) rfl)|exact xZ (wA rfl (zV (by assumption) rfl))|exact xZ (wA rfl (zV (by assumption) (zV (by assumption) rfl)))) rfl) rfl (by assumption) rfl)(hg:o.guard=jr:=by rfl)(hp:pn.ok o.dst=js:=by rfl):RW P Γ pn ops (o::os) E Q:=oP h k hg hp
theorem zAI(k:RW P Γ pn ops os (E.app wr chg) Q)(h:Ok P Γ o E (E.app wr chg):=by exact zW1 (by first|exact wU rfl rfl|exact kG rfl rfl (by first|rfl|exact zV (by assumption) rfl|exact zV (by assumption) (zV (by assumption) rfl)|exact wA rfl (zV (by assumption) rfl)|exact xZ (zV (by assumption) rfl)|exact xZ (wA rfl (zV (by assumption) rfl))|exact xZ (wA rfl (zV (by assumption) (zV (by assumption) rfl)))) rfl) rfl)(hg:o.guard=jr:=by rfl)(hp:pn.ok o.dst=js:=by rfl):RW P Γ pn ops (o::os) E Q:=oP h k hg hp
theorem zGL(k:RW P Γ pn ops os (E.app wr chg) Q)(h:Ok P Γ o E (E.app wr chg):=by exact zWq (by assumption) rfl rfl rfl)(hg:o.guard=jr:=by rfl)(hp:pn.ok o.dst=js:=by rfl):RW P Γ pn ops (o::os) E Q:=oP h k hg hp
theorem uP(k:RW P Γ pn ops os (E.app wr chg) Q)(h:Ok P Γ o E (E.app wr chg):=by exact zJl inferInstance rfl)(hg:o.guard=jr:=by rfl)(hp:pn.ok o.dst=js:=by rfl):RW P Γ pn ops (o::os) E Q:=oP h k hg hp
theorem zAJ(k:RW P Γ pn ops os (E.app wr chg) Q)(h:Ok P Γ o E (E.app wr chg):=by exact zWw rfl rfl rfl)(hg:o.guard=jr:=by rfl)(hp:pn.ok o.dst=js:=by rfl):RW P Γ pn ops (o::os) E Q:=oP h k hg hp
theorem zW2(k:RW P Γ pn ops os (E.app wr chg) Q)(h:Ok P Γ o E (E.app wr chg):=by exact zWx rfl (zDj rfl) rfl)(hg:o.guard=jr:=by rfl)(hp:pn.ok o.dst=js:=by rfl):RW P Γ pn ops (o::os) E Q:=oP h k hg hp
theorem zF5(k:RW P Γ pn ops os (E.app wr chg) Q)(h:Ok P Γ o E (E.app wr chg):=by exact zW0 rfl rfl)(hg:o.guard=jr:=by rfl)(hp:pn.ok o.dst=js:=by rfl):RW P Γ pn ops (o::os) E Q:=oP h k hg hp
theorem uQ(rd:List (Nat×T))(k:DK P Γ pn ops id hs E0 Q os (E.app wr chg) (⟨rd,[(wr,chg)]⟩::acc))(gB:E.Has rd:=by repeat (first|exact trivial|refine⟨rfl,?_⟩))(h:∀E':Env,E'.Has rd→Ok P Γ o E' (E'.app wr chg):=by intro E' h;exact zMa (hO h rfl) rfl)(hg:o.guard=jr:=by rfl):DK P Γ pn ops id hs E0 Q (o::os) E acc:=dG rd [(wr,chg)] gB (fun E' h'=>yT.op (h E' h') hg) k
theorem zXs{g s:Nat}{b:Bool}(rd:List (Nat×T))(k:DK P Γ pn ops id hs E0 Q os (E.app wr chg) (⟨rd,[(wr,chg)]⟩::acc))(gB:E.Has rd:=by repeat (first|exact trivial|refine⟨rfl,?_⟩))(hg:o.guard=jq (g,b):=by rfl)(gW:(ops[g]?).bind (·.dst)=jq s:=by rfl)(hb:xK rd s=jq (.lit (.bool b)):=by rfl)(h:∀E':Env,E'.Has rd→Ok P Γ o E' (E'.app wr chg):=by intro E' h;exact zMa (hO h rfl) rfl):DK P Γ pn ops id hs E0 Q (o::os) E acc:=dG rd [(wr,chg)] gB (fun E' h'=>yT.guard g b s (h E' h') hg gW (hE h' hb)) k
theorem zFe(rd:List (Nat×T))(k:DK P Γ pn ops id hs E0 Q os (E.app wr chg) (⟨rd,[(wr,chg)]⟩::acc))(gB:E.Has rd:=by repeat (first|exact trivial|refine⟨rfl,?_⟩))(h:∀E':Env,E'.Has rd→Ok P Γ o E' (E'.app wr chg):=by intro E' h;exact zTN (hO h rfl) rfl)(hg:o.guard=jr:=by rfl):DK P Γ pn ops id hs E0 Q (o::os) E acc:=dG rd [(wr,chg)] gB (fun E' h'=>yT.op (h E' h') hg) k
theorem zBJ(rd:List (Nat×T))(k:DK P Γ pn ops id hs E0 Q os (E.app wr chg) (⟨rd,[(wr,chg)]⟩::acc))(gB:E.Has rd:=by repeat (first|exact trivial|refine⟨rfl,?_⟩))(h:∀E':Env,E'.Has rd→Ok P Γ o E' (E'.app wr chg):=by intro E' h;exact zNI (hO h rfl) rfl rfl rfl)(hg:o.guard=jr:=by rfl):DK P Γ pn ops id hs E0 Q (o::os) E acc:=dG rd [(wr,chg)] gB (fun E' h'=>yT.op (h E' h') hg) k
theorem zW3{g s:Nat}{b:Bool}(rd:List (Nat×T))(k:DK P Γ pn ops id hs E0 Q os (E.app wr chg) (⟨rd,[(wr,chg)]⟩::acc))(gB:E.Has rd:=by repeat (first|exact trivial|refine⟨rfl,?_⟩))(hg:o.guard=jq (g,b):=by rfl)(gW:(ops[g]?).bind (·.dst)=jq s:=by rfl)(hb:xK rd s=jq (.lit (.bool b)):=by rfl)(h:∀E':Env,E'.Has rd→Ok P Γ o E' (E'.app wr chg):=by intro E' h;exact zNI (hO h rfl) rfl rfl rfl):DK P Γ pn ops id hs E0 Q (o::os) E acc:=dG rd [(wr,chg)] gB (fun E' h'=>yT.guard g b s (h E' h') hg gW (hE h' hb)) k
theorem zIg(rd:List (Nat×T))(k:DK P Γ pn ops id hs E0 Q os (E.app wr chg) (⟨rd,[(wr,chg)]⟩::acc))(gB:E.Has rd:=by repeat (first|exact trivial|refine⟨rfl,?_⟩))(h:∀E':Env,E'.Has rd→Ok P Γ o E' (E'.app wr chg):=by intro E' h;exact zRb (by first|exact wU (hE h rfl) rfl|exact kG (hE h rfl) (hE h rfl) (by first|rfl|exact zV (by assumption) rfl|exact zV (by assumption) (zV (by assumption) rfl)|exact wA rfl (zV (by assumption) rfl)|exact xZ (zV (by assumption) rfl)|exact xZ (wA rfl (zV (by assumption) rfl))|exact xZ (wA rfl (zV (by assumption) (zV (by assumption) rfl)))) rfl) (hO h rfl) (by assumption) rfl)(hg:o.guard=jr:=by rfl):DK P Γ pn ops id hs E0 Q (o::os) E acc:=dG rd [(wr,chg)] gB (fun E' h'=>yT.op (h E' h') hg) k
theorem zW4{g s:Nat}{b:Bool}(rd:List (Nat×T))(k:DK P Γ pn ops id hs E0 Q os (E.app wr chg) (⟨rd,[(wr,chg)]⟩::acc))(gB:E.Has rd:=by repeat (first|exact trivial|refine⟨rfl,?_⟩))(hg:o.guard=jq (g,b):=by rfl)(gW:(ops[g]?).bind (·.dst)=jq s:=by rfl)(hb:xK rd s=jq (.lit (.bool b)):=by rfl)(h:∀E':Env,E'.Has rd→Ok P Γ o E' (E'.app wr chg):=by intro E' h;exact zRb (by first|exact wU (hE h rfl) rfl|exact kG (hE h rfl) (hE h rfl) (by first|rfl|exact zV (by assumption) rfl|exact zV (by assumption) (zV (by assumption) rfl)|exact wA rfl (zV (by assumption) rfl)|exact xZ (zV (by assumption) rfl)|exact xZ (wA rfl (zV (by assumption) rfl))|exact xZ (wA rfl (zV (by assumption) (zV (by assumption) rfl)))) rfl) (hO h rfl) (by assumption) rfl):DK P Γ pn ops id hs E0 Q (o::os) E acc:=dG rd [(wr,chg)] gB (fun E' h'=>yT.guard g b s (h E' h') hg gW (hE h' hb)) k
theorem zXt(rd:List (Nat×T))(k:DK P Γ pn ops id hs E0 Q os (E.app wr chg) (⟨rd,[(wr,chg)]⟩::acc))(gB:E.Has rd:=by repeat (first|exact trivial|refine⟨rfl,?_⟩))(h:∀E':Env,E'.Has rd→Ok P Γ o E' (E'.app wr chg):=by intro E' h;exact zMe (by first|exact wU (hE h rfl) rfl|exact kG (hE h rfl) (hE h rfl) (by first|rfl|exact zV (by assumption) rfl|exact zV (by assumption) (zV (by assumption) rfl)|exact wA rfl (zV (by assumption) rfl)|exact xZ (zV (by assumption) rfl)|exact xZ (wA rfl (zV (by assumption) rfl))|exact xZ (wA rfl (zV (by assumption) (zV (by assumption) rfl)))) rfl) rfl)(hg:o.guard=jr:=by rfl):DK P Γ pn ops id hs E0 Q (o::os) E acc:=dG rd [(wr,chg)] gB (fun E' h'=>yT.op (h E' h') hg) k
theorem zXu{g s:Nat}{b:Bool}(rd:List (Nat×T))(k:DK P Γ pn ops id hs E0 Q os (E.app wr chg) (⟨rd,[(wr,chg)]⟩::acc))(gB:E.Has rd:=by repeat (first|exact trivial|refine⟨rfl,?_⟩))(hg:o.guard=jq (g,b):=by rfl)(gW:(ops[g]?).bind (·.dst)=jq s:=by rfl)(hb:xK rd s=jq (.lit (.bool b)):=by rfl)(h:∀E':Env,E'.Has rd→Ok P Γ o E' (E'.app wr chg):=by intro E' h;exact zMe (by first|exact wU (hE h rfl) rfl|exact kG (hE h rfl) (hE h rfl) (by first|rfl|exact zV (by assumption) rfl|exact zV (by assumption) (zV (by assumption) rfl)|exact wA rfl (zV (by assumption) rfl)|exact xZ (zV (by assumption) rfl)|exact xZ (wA rfl (zV (by assumption) rfl))|exact xZ (wA rfl (zV (by assumption) (zV (by assumption) rfl)))) rfl) rfl):DK P Γ pn ops id hs E0 Q (o::os) E acc:=dG rd [(wr,chg)] gB (fun E' h'=>yT.guard g b s (h E' h') hg gW (hE h' hb)) k
theorem zIh(rd:List (Nat×T))(k:DK P Γ pn ops id hs E0 Q os (E.app wr chg) (⟨rd,[(wr,chg)]⟩::acc))(gB:E.Has rd:=by repeat (first|exact trivial|refine⟨rfl,?_⟩))(h:∀E':Env,E'.Has rd→Ok P Γ o E' (E'.app wr chg):=by intro E' h;exact zQN (by assumption) (hO h rfl) (hO h rfl) rfl)(hg:o.guard=jr:=by rfl):DK P Γ pn ops id hs E0 Q (o::os) E acc:=dG rd [(wr,chg)] gB (fun E' h'=>yT.op (h E' h') hg) k
theorem zRe(rd:List (Nat×T))(k:DK P Γ pn ops id hs E0 Q os (E.app wr chg) (⟨rd,[(wr,chg)]⟩::acc))(gB:E.Has rd:=by repeat (first|exact trivial|refine⟨rfl,?_⟩))(h:∀E':Env,E'.Has rd→Ok P Γ o E' (E'.app wr chg):=by intro E' h;exact zMb (hO h rfl) (hO h rfl) rfl)(hg:o.guard=jr:=by rfl):DK P Γ pn ops id hs E0 Q (o::os) E acc:=dG rd [(wr,chg)] gB (fun E' h'=>yT.op (h E' h') hg) k
theorem zGM(rd:List (Nat×T))(k:DK P Γ pn ops id hs E0 Q os (E.app wr chg) (⟨rd,[(wr,chg)]⟩::acc))(gB:E.Has rd:=by repeat (first|exact trivial|refine⟨rfl,?_⟩))(h:∀E':Env,E'.Has rd→Ok P Γ o E' (E'.app wr chg):=by intro E' h;exact zXe inferInstance (by first|exact wU (hE h rfl) rfl|exact kG (hE h rfl) (hE h rfl) (by first|rfl|exact zV (by assumption) rfl|exact zV (by assumption) (zV (by assumption) rfl)|exact wA rfl (zV (by assumption) rfl)|exact xZ (zV (by assumption) rfl)|exact xZ (wA rfl (zV (by assumption) rfl))|exact xZ (wA rfl (zV (by assumption) (zV (by assumption) rfl)))) rfl) rfl rfl rfl)(hg:o.guard=jr:=by rfl):DK P Γ pn ops id hs E0 Q (o::os) E acc:=dG rd [(wr,chg)] gB (fun E' h'=>yT.op (h E' h') hg) k
theorem zH7(rd:List (Nat×T))(k:DK P Γ pn ops id hs E0 Q os (E.app wr chg) (⟨rd,[(wr,chg)]⟩::acc))(gB:E.Has rd:=by repeat (first|exact trivial|refine⟨rfl,?_⟩))(h:∀E':Env,E'.Has rd→Ok P Γ o E' (E'.app wr chg):=by intro E' h;first|exact zRc (hO h rfl) (hE h rfl) rfl rfl rfl rfl|exact zRc (hO h rfl) (hE h rfl) (by first|rfl|exact zV (by assumption) rfl|exact zV (by assumption) (zV (by assumption) rfl)|exact wA rfl (zV (by assumption) rfl)|exact xZ (zV (by assumption) rfl)|exact xZ (wA rfl (zV (by assumption) rfl))|exact xZ (wA rfl (zV (by assumption) (zV (by assumption) rfl)))) (by rfl) (by rfl) (by rfl))(hg:o.guard=jr:=by rfl):DK P Γ pn ops id hs E0 Q (o::os) E acc:=dG rd [(wr,chg)] gB (fun E' h'=>yT.op (h E' h') hg) k
theorem zIi(rd:List (Nat×T))(k:DK P Γ pn ops id hs E0 Q os (E.app wr chg) (⟨rd,[(wr,chg)]⟩::acc))(gB:E.Has rd:=by repeat (first|exact trivial|refine⟨rfl,?_⟩))(h:∀E':Env,E'.Has rd→Ok P Γ o E' (E'.app wr chg):=by intro E' h;first|exact zKC (by first|exact wU (hE h rfl) rfl|exact kG (hE h rfl) (hE h rfl) (by first|rfl|exact zV (by assumption) rfl|exact zV (by assumption) (zV (by assumption) rfl)|exact wA rfl (zV (by assumption) rfl)|exact xZ (zV (by assumption) rfl)|exact xZ (wA rfl (zV (by assumption) rfl))|exact xZ (wA rfl (zV (by assumption) (zV (by assumption) rfl)))) rfl) (hE h rfl) rfl rfl rfl rfl|exact zKC (by first|exact wU (hE h rfl) rfl|exact kG (hE h rfl) (hE h rfl) (by first|rfl|exact zV (by assumption) rfl|exact zV (by assumption) (zV (by assumption) rfl)|exact wA rfl (zV (by assumption) rfl)|exact xZ (zV (by assumption) rfl)|exact xZ (wA rfl (zV (by assumption) rfl))|exact xZ (wA rfl (zV (by assumption) (zV (by assumption) rfl)))) rfl) (hE h rfl) (by first|rfl|exact zV (by assumption) rfl|exact zV (by assumption) (zV (by assumption) rfl)|exact wA rfl (zV (by assumption) rfl)|exact xZ (zV (by assumption) rfl)|exact xZ (wA rfl (zV (by assumption) rfl))|exact xZ (wA rfl (zV (by assumption) (zV (by assumption) rfl)))) (by rfl) (by rfl) (by rfl))(hg:o.guard=jr:=by rfl):DK P Γ pn ops id hs E0 Q (o::os) E acc:=dG rd [(wr,chg)] gB (fun E' h'=>yT.op (h E' h') hg) k
theorem zW5(rd:List (Nat×T))(k:DK P Γ pn ops id hs E0 Q os (E.app wr chg) (⟨rd,[(wr,chg)]⟩::acc))(gB:E.Has rd:=by repeat (first|exact trivial|refine⟨rfl,?_⟩))(h:∀E':Env,E'.Has rd→Ok P Γ o E' (E'.app wr chg):=by intro E' h;exact zHZ (by assumption) (hO h rfl) (hO h rfl) rfl)(hg:o.guard=jr:=by rfl):DK P Γ pn ops id hs E0 Q (o::os) E acc:=dG rd [(wr,chg)] gB (fun E' h'=>yT.op (h E' h') hg) k
theorem zZc{g s:Nat}{b:Bool}(rd:List (Nat×T))(k:DK P Γ pn ops id hs E0 Q os (E.app wr chg) (⟨rd,[(wr,chg)]⟩::acc))(gB:E.Has rd:=by repeat (first|exact trivial|refine⟨rfl,?_⟩))(hg:o.guard=jq (g,b):=by rfl)(gW:(ops[g]?).bind (·.dst)=jq s:=by rfl)(hb:xK rd s=jq (.lit (.bool b)):=by rfl)(h:∀E':Env,E'.Has rd→Ok P Γ o E' (E'.app wr chg):=by intro E' h;exact zHZ (by assumption) (hO h rfl) (hO h rfl) rfl):DK P Γ pn ops id hs E0 Q (o::os) E acc:=dG rd [(wr,chg)] gB (fun E' h'=>yT.guard g b s (h E' h') hg gW (hE h' hb)) k
theorem zZd{g s:Nat}{b:Bool}(rd:List (Nat×T))(k:DK P Γ pn ops id hs E0 Q os (E.app wr chg) (⟨rd,[(wr,chg)]⟩::acc))(gB:E.Has rd:=by repeat (first|exact trivial|refine⟨rfl,?_⟩))(hg:o.guard=jq (g,b):=by rfl)(gW:(ops[g]?).bind (·.dst)=jq s:=by rfl)(hb:xK rd s=jq (.lit (.bool b)):=by rfl)(h:∀E':Env,E'.Has rd→Ok P Γ o E' (E'.app wr chg):=by intro E' h;exact zWt (hO h rfl) (hO h rfl) rfl):DK P Γ pn ops id hs E0 Q (o::os) E acc:=dG rd [(wr,chg)] gB (fun E' h'=>yT.guard g b s (h E' h') hg gW (hE h' hb)) k
theorem zKE(rd:List (Nat×T))(k:DK P Γ pn ops id hs E0 Q os (E.app wr chg) (⟨rd,[(wr,chg)]⟩::acc))(gB:E.Has rd:=by repeat (first|exact trivial|refine⟨rfl,?_⟩))(h:∀E':Env,E'.Has rd→Ok P Γ o E' (E'.app wr chg):=by intro E' h;exact zQR inferInstance (hO h rfl) rfl rfl rfl)(hg:o.guard=jr:=by rfl):DK P Γ pn ops id hs E0 Q (o::os) E acc:=dG rd [(wr,chg)] gB (fun E' h'=>yT.op (h E' h') hg) k
theorem zCF(rd:List (Nat×T))(k:DK P Γ pn ops id hs E0 Q os (E.app wr chg) (⟨rd,[(wr,chg)]⟩::acc))(gB:E.Has rd:=by repeat (first|exact trivial|refine⟨rfl,?_⟩))(h:∀E':Env,E'.Has rd→Ok P Γ o E' (E'.app wr chg):=by intro E' h;first|exact zC8 (hO h rfl) (zGF (hO h rfl)) rfl|exact zC8 (hO h rfl) (isPtr_addr (hO h rfl)) rfl|exact zC8 (hO h rfl) (zFb (by first|exact wU (hE h rfl) rfl|exact kG (hE h rfl) (hE h rfl) (by first|rfl|exact zV (by assumption) rfl|exact zV (by assumption) (zV (by assumption) rfl)|exact wA rfl (zV (by assumption) rfl)|exact xZ (zV (by assumption) rfl)|exact xZ (wA rfl (zV (by assumption) rfl))|exact xZ (wA rfl (zV (by assumption) (zV (by assumption) rfl)))) rfl)) rfl)(hg:o.guard=jr:=by rfl):DK P Γ pn ops id hs E0 Q (o::os) E acc:=dG rd [(wr,chg)] gB (fun E' h'=>yT.op (h E' h') hg) k
theorem yBj(rd:List (Nat×T))(k:DK P Γ pn ops id hs E0 Q os (E.app wr chg) (⟨rd,[(wr,chg)]⟩::acc))(gB:E.Has rd:=by repeat (first|exact trivial|refine⟨rfl,?_⟩))(h:∀E':Env,E'.Has rd→Ok P Γ o E' (E'.app wr chg):=by intro E' h;exact zZa (by first|exact wU (hE h rfl) rfl|exact kG (hE h rfl) (hE h rfl) (by first|rfl|exact zV (by assumption) rfl|exact zV (by assumption) (zV (by assumption) rfl)|exact wA rfl (zV (by assumption) rfl)|exact xZ (zV (by assumption) rfl)|exact xZ (wA rfl (zV (by assumption) rfl))|exact xZ (wA rfl (zV (by assumption) (zV (by assumption) rfl)))) rfl) (hO h rfl) (by assumption) rfl)(hg:o.guard=jr:=by rfl):DK P Γ pn ops id hs E0 Q (o::os) E acc:=dG rd [(wr,chg)] gB (fun E' h'=>yT.op (h E' h') hg) k
theorem zZe(rd:List (Nat×T))(k:DK P Γ pn ops id hs E0 Q os (E.app wr chg) (⟨rd,[(wr,chg)]⟩::acc))(gB:E.Has rd:=by repeat (first|exact trivial|refine⟨rfl,?_⟩))(h:∀E':Env,E'.Has rd→Ok P Γ o E' (E'.app wr chg):=by intro E' h;exact zW1 (by first|exact wU (hE h rfl) rfl|exact kG (hE h rfl) (hE h rfl) (by first|rfl|exact zV (by assumption) rfl|exact zV (by assumption) (zV (by assumption) rfl)|exact wA rfl (zV (by assumption) rfl)|exact xZ (zV (by assumption) rfl)|exact xZ (wA rfl (zV (by assumption) rfl))|exact xZ (wA rfl (zV (by assumption) (zV (by assumption) rfl)))) rfl) rfl)(hg:o.guard=jr:=by rfl):DK P Γ pn ops id hs E0 Q (o::os) E acc:=dG rd [(wr,chg)] gB (fun E' h'=>yT.op (h E' h') hg) k
theorem zZf(rd:List (Nat×T))(k:DK P Γ pn ops id hs E0 Q os (E.app wr chg) (⟨rd,[(wr,chg)]⟩::acc))(gB:E.Has rd:=by repeat (first|exact trivial|refine⟨rfl,?_⟩))(h:∀E':Env,E'.Has rd→Ok P Γ o E' (E'.app wr chg):=by intro E' h;exact zWv (by assumption) (hO h rfl) rfl)(hg:o.guard=jr:=by rfl):DK P Γ pn ops id hs E0 Q (o::os) E acc:=dG rd [(wr,chg)] gB (fun E' h'=>yT.op (h E' h') hg) k
theorem zTW(rd:List (Nat×T))(k:DK P Γ pn ops id hs E0 Q os (E.app wr chg) (⟨rd,[(wr,chg)]⟩::acc))(gB:E.Has rd:=by repeat (first|exact trivial|refine⟨rfl,?_⟩))(h:∀E':Env,E'.Has rd→Ok P Γ o E' (E'.app wr chg):=by intro E' h;exact zJl inferInstance rfl)(hg:o.guard=jr:=by rfl):DK P Γ pn ops id hs E0 Q (o::os) E acc:=dG rd [(wr,chg)] gB (fun E' h'=>yT.op (h E' h') hg) k
theorem cA{f:FuncId}{xs:List Operand}{ats:Array TypeId}{us res:List T}(gr:zA7 P f)(hc:FnC P f us res [])(k:RW P Γ pn ops os (E.app (cWr d res []) (vP d [])) Q)(gj:wD E [] 0 xs us:=by repeat (first|exact trivial|refine⟨agC _ rfl (by first|rfl|exact zOQ inferInstance|exact zBl rfl (by first|rfl|exact zV (by assumption) rfl|exact zV (by assumption) (zV (by assumption) rfl)|exact wA rfl (zV (by assumption) rfl)|exact xZ (zV (by assumption) rfl)|exact xZ (wA rfl (zV (by assumption) rfl))|exact xZ (wA rfl (zV (by assumption) (zV (by assumption) rfl)))) inferInstance|exact cloSR rfl (by first|rfl|exact zV (by assumption) rfl|exact zV (by assumption) (zV (by assumption) rfl)|exact wA rfl (zV (by assumption) rfl)|exact xZ (zV (by assumption) rfl)|exact xZ (wA rfl (zV (by assumption) rfl))|exact xZ (wA rfl (zV (by assumption) (zV (by assumption) rfl))))) rfl,?_⟩))(gy:zCr res:=by repeat (first|exact kH|refine zA0 inferInstance ?_))(sd:J5 d Γ.N=js:=by rfl)(hg:gd=jr:=by rfl)(hp:pn.ok (jq d)=js:=by rfl):
  RW P Γ pn ops (⟨jq d,.call { callee:=.value (.func f),args:=xs.toArray,argTypes:=ats },ty,ps,af,gd⟩::os) E Q:=oP (sK gr hc gj gy sd) k hg hp
theorem dC{f:FuncId}{xs:List Operand}{ats:Array TypeId}{us res:List T}(rd:List (Nat×T))(gr:zA7 P f)(hc:FnC P f us res [])(k:DK P Γ pn ops id hs E0 Q os (E.app (cWr d res []) (vP d [])) (⟨rd,[(cWr d res [],vP d [])]⟩::acc))(gB:E.Has rd:=by repeat (first|exact trivial|refine⟨rfl,?_⟩))(gj:∀E':Env,E'.Has rd→wD E' [] 0 xs us:=by intro E' h;repeat (first|exact trivial|refine⟨agC _ (hO h rfl) (by first|rfl|exact zOQ inferInstance|exact zBl (hE h rfl) (by first|rfl|exact zV (by assumption) rfl|exact zV (by assumption) (zV (by assumption) rfl)|exact wA rfl (zV (by assumption) rfl)|exact xZ (zV (by assumption) rfl)|exact xZ (wA rfl (zV (by assumption) rfl))|exact xZ (wA rfl (zV (by assumption) (zV (by assumption) rfl)))) inferInstance|exact cloSR (hE h rfl) (by first|rfl|exact zV (by assumption) rfl|exact zV (by assumption) (zV (by assumption) rfl)|exact wA rfl (zV (by assumption) rfl)|exact xZ (zV (by assumption) rfl)|exact xZ (wA rfl (zV (by assumption) rfl))|exact xZ (wA rfl (zV (by assumption) (zV (by assumption) rfl))))) rfl,?_⟩))(gy:zCr res:=by repeat (first|exact kH|refine zA0 inferInstance ?_))(sd:J5 d Γ.N=js:=by rfl)(hg:gd=jr:=by rfl):
  DK P Γ pn ops id hs E0 Q (⟨jq d,.call { callee:=.value (.func f),args:=xs.toArray,argTypes:=ats },ty,ps,af,gd⟩::os) E acc:=
 dG rd [(cWr d res [],vP d [])] gB (fun E' h'=>yT.op (sK gr hc (gj E' h') gy sd) hg) k
theorem sk2{g s:Nat}{b b':Bool}(k:RW P Γ pn ops os (E.app [(d,jq (.tup []))] [(d,0)]) Q)(hd:o.dst=jq d:=by rfl)(hg:o.guard=jq (g,b):=by rfl)(gW:(ops[g]?).bind (·.dst)=jq s:=by rfl)(hb:E s=jq (.lit (.bool b')):=by rfl)(fa:(b==b')=jt:=by rfl)(sd:J5 d Γ.N=js:=by rfl)(hp:pn.ok o.dst=js:=by rfl):
  RW P Γ pn ops (o::os) E Q:=RW.cons (yT.skip2 g b b' s hd sd fa hg gW hb) k hp
theorem sk3{g s:Nat}{b:Bool}(k:RW P Γ pn ops os (E.app [(d,jq (.tup []))] [(d,0)]) Q)(hd:o.dst=jq d:=by rfl)(hg:o.guard=jq (g,b):=by rfl)(gW:(ops[g]?).bind (·.dst)=jq s:=by rfl)(hb:E s=jq (.tup []):=by rfl)(sd:J5 d Γ.N=js:=by rfl)(hp:pn.ok o.dst=js:=by rfl):
  RW P Γ pn ops (o::os) E Q:=RW.cons (yT.skip3 g b s hd sd hg gW hb) k hp
theorem zGN{g s:Nat}{b b':Bool}(k:DK P Γ pn ops id hs E0 Q os (E.app [(d,jq (.tup []))] [(d,0)]) (⟨[(s,.lit (.bool b'))],[([(d,jq (.tup []))],[(d,0)])]⟩::acc))(hd:o.dst=jq d:=by rfl)(hg:o.guard=jq (g,b):=by rfl)(gW:(ops[g]?).bind (·.dst)=jq s:=by rfl)(hb:E s=jq (.lit (.bool b')):=by rfl)(fa:(b==b')=jt:=by rfl)(sd:J5 d Γ.N=js:=by rfl):
  DK P Γ pn ops id hs E0 Q (o::os) E acc:=dG [(s,.lit (.bool b'))] [([(d,jq (.tup []))],[(d,0)])] ⟨hb,trivial⟩ (fun _E' h=>yT.skip2 g b b' s hd sd fa hg gW h.1) k
theorem yBk{g s:Nat}{b:Bool}(k:DK P Γ pn ops id hs E0 Q os (E.app [(d,jq (.tup []))] [(d,0)]) (⟨[(s,.tup [])],[([(d,jq (.tup []))],[(d,0)])]⟩::acc))(hd:o.dst=jq d:=by rfl)(hg:o.guard=jq (g,b):=by rfl)(gW:(ops[g]?).bind (·.dst)=jq s:=by rfl)(hb:E s=jq (.tup []):=by rfl)(sd:J5 d Γ.N=js:=by rfl):
  DK P Γ pn ops id hs E0 Q (o::os) E acc:=dG [(s,.tup [])] [([(d,jq (.tup []))],[(d,0)])] ⟨hb,trivial⟩ (fun _E' h=>yT.skip3 g b s hd sd hg gW h.1) k
theorem dNA(hm:P.follows .mixedOrders=js)(hQ:Q .normal E)(hf:zBt 0 ops.toList=js:=by rfl)(ha:zAN (zXq ops.toList) (zXq ops.toList) ops.toList=js:=by rfl)(hp:kS acc.reverse 0 (zXq ops.toList) acc.reverse=js:=by rfl)
  (ax:ops.toList.all (fun o=>pn.ok o.dst)=js:=by rfl)(tc:zQZ hs E0=js:=by rfl)(hw:acc.reverse.all (wrS hs)=js:=by rfl):DK P Γ pn ops id hs E0 Q [] E acc:=dN _ hm hQ hf ha hp ax tc hw
theorem cn{c1 c2:Code}{α:Type}{b:Bool}{u v z:α}(h:cond b u v=z)(ht:b=js→u=z→CW P Γ pn c1 E Q)(hf:b=jt→v=z→CW P Γ pn c2 E Q)(hb:opT E x=jq (.lit (.bool b)):=by rfl):CW P Γ pn (.cond x c1 c2) E Q:=
 CW.cond b hb (fun hc=>ht hc (cT hc h)) fun hc=>hf hc (cF hc h)
theorem fB{f:FuncId}{fn:Func}{c:Code}{us res:List T}{rws:List (Nat×T)}(hf:P.funcs[f]? =jq fn)(h:∀(St:Stb)(W:Nat→Prop)(w0:World)(v:Nat→Value),CW P ⟨St,W,w0,fn.ntmps⟩ (zC6 v (rws.map (·.1))) c (xK (zH6 0 us)) (wE ⟨St,W,w0,fn.ntmps⟩ P fn.results us res rws))(hb:fn.body=jq c:=by rfl)(hn:us.length≤fn.ntmps:=by exact Nat.le_of_ble_eq_true rfl)
  (ht:vV us:=by repeat (first|exact trivial|refine⟨by first|exact Top.of_clean _ (Enc.clean _)|simp[Top,vV],?_⟩))(hr:rws.all (fun x=>decide (x.1<us.length))=js:=by rfl):FnC P f us res rws:=
 FnC.of_bodyG hf hb hn ht hr (by rintro⟨St,W,w0,N⟩ v hN;subst hN;exact h St W w0 v)
def zCc:List ResultVar→Option (List Nat)
 | []=>jq []
 |.tmp s::l=>(zCc l).map (s::·)
 |.cell _ _::_=>jr
theorem zIj:∀(rs:List ResultVar)(ss:List Nat)(res:List T),zCc rs=jq ss→ss.map E=res.map jq→res.all T.okTup=js→ ∃nd:Nds,zFI P E rs nd∧nd.map (·.2.2)=res∧nd.map (·.1)=ss
 | [],ss,res,h,hE,_=>by
  simp[zCc]at h;subst h;cases res with
  |nil=>exact⟨[],trivial,rfl,rfl⟩
  |cons _ _=>simp at hE
 |.tmp s::rs,ss,res,h,hE,ht=>by
  simp only[zCc,K7]at h;obtain⟨ss',h,rfl⟩:=h;cases res with
  |nil=>simp at hE
  |cons t res=>
   simp only[Jm,Qm.injEq]at hE;simp only[Q4,J3]at ht;obtain⟨nd,h1,h2,h3⟩:=zIj rs ss' res h hE.2 ht.2;exact⟨(s,[],t)::nd,⟨⟨rfl,rfl,hE.1,ht.1⟩,h1⟩,by simp[h2],by simp[h3]⟩
 |.cell _ _::_,_,_,h,_,_=>by simp[zCc]at h
theorem rT{rs:Array ResultVar}{us res:List T}{rws:List (Nat×T)}{e:Exit}{ss:List Nat}(hs:zCc rs.toList=jq ss:=by rfl)(hE:ss.map E=res.map jq:=by rfl)(ht:res.all T.okTup=js:=by rfl)(hl:ss.all (fun s=>Ut us.length s)=js:=by rfl)(hn:zB0 ss=js:=by rfl)
  (hw:LOk E us rws:=by repeat (first|exact trivial|refine⟨⟨rfl,_,rfl⟩,?_⟩))(he:e=.ret∨e=.normal:=by first|exact .inl rfl|exact .inr rfl):wE Γ P rs us res rws e E:=by
 obtain⟨nd,h1,h2,h3⟩:=zIj (P:=P) rs.toList ss res hs hE ht;refine⟨E,zE.refl,he,nd,h1,h2,fun x hx=>?_,by rw[h3];exact zDi hn,hw⟩;have:x.1∈ss:=by rw[←h3];exact Jh.2 ⟨x,hx,rfl⟩
 exact Nat.le_of_ble_eq_true (Jr.1 hl _ this)
theorem eN{σ ρ:Type}{en:σ→Env}{Q1:ρ→Exit→Env→Prop}{y:σ}{x:σ⊕ρ}(h:jq (Sum.inl y)=jq x)(q:zE Γ E (en y):=by exact .has (by repeat (first|exact trivial|refine⟨rfl,?_⟩))):xQ Γ en Q1 x .normal E:=by obtain rfl:=sI h;exact⟨rfl,q⟩
theorem rTg{rs:Array ResultVar}{us res:List T}{rws:List (Nat×T)}{e:Exit}(hg:zE Γ E E')(h:wE Γ P rs us res rws e E'):wE Γ P rs us res rws e E:=by obtain⟨E2,h1,h2⟩:=h;exact⟨E2,hg.trans h1,h2⟩
theorem eX{σ ρ:Type}{en:σ→Env}{Q1:ρ→Exit→Env→Prop}{y:ρ}{x:σ⊕ρ}{e:Exit}(h:jq (Sum.inr y)=jq x)(q:Q1 y e E:=by first|exact⟨rfl,.has (by repeat (first|exact trivial|refine⟨rfl,?_⟩))⟩|exact⟨rfl,rT⟩)(gf:e≠.normal:=by first|exact neX|exact neR):xQ Γ en Q1 x e E:=by obtain rfl:=sI h;exact⟨gf,q⟩
end
end Go.Ab

namespace Go.Ab
open Go
section
variable {Γ:Ctx}{E:Env}
theorem zE.frzG(s:Nat)(t:T){t':T}(hs:E s=jq t)(h:vQ t=t'):zE Γ E (E.app [(s,jq t')] [(s,1)]):=h▸zE.freeze s t hs
theorem fzO{α:Type}{k:Nat}{f g:α→T}{xs:List α}(h:xL f g):vQ (L k f xs)=.ro (L k g xs):=by simp only[vQ,strip,tD h.h xs]
theorem fzP{t u:T}(h:strip t=u):vQ (.ptr t)=.ro (.ptr u):=by grind[vQ,strip]
theorem fzA{xs ys:List T}(h:uI xs=ys):vQ (.agg xs)=.agg ys:=by grind[vQ]
theorem fzN:uI []=[]:=rfl
theorem fzC{x y:T}{xs ys:List T}(h:vQ x=y)(h2:uI xs=ys):uI (x::xs)=y::ys:=by grind[uI]
end
end Go.Ab
namespace Go.Ab
open Go
theorem zNJ{α:Type}{k:Nat}{f:α→T}{xs:List α}{i j:Int}{a b:α}{X:T}(hi:ixO xs i=jq a)(hj:ixO xs j=jq b)(gf:(i != j)=js):
  (if[i.toNat]=[]then X else(L k f xs).set [i.toNat].reverse T.any).get [j.toNat].reverse=jq (f b):=by
 have h1:=(uA hi);have h2:=(uA hj);have h3:i≠j:=by grind
 have h4:i.toNat≠j.toNat:=by omega
 simp only[List.cons_ne_nil,if_false,Hy,H7,Jy]
 grind[T.set,T.get]
theorem zZg{E:Env}{wr:Wr}{chg:Chg}{s:Nat}{t:T}(h:E s=jq t)(hf:wr.find s=jr:=by rfl)(hb:t.okB chg=js:=by rfl):opT (E.app wr chg) (.tmp s)=jq t:=qM h hf hb
theorem zJp{E:Env}{rs:List Nat}{s r:Nat}{q:List Nat}{tr u:T}(hr:E r=jq tr)(hg:tr.get q.reverse=jq u)(h4:zAO u=js)(hn:rs.contains r=jt):zHQ E rs (.tmp s) (.same r q)=js:=by simp only[zHQ,qA,zDh hr hg h4,hn,K2]
end Go.Ab
