/- x -/
import Derived.Test.YtchnmobojdcikaaGreatAbA
import Derived.Laws.CopyRow
import Derived.ProofKit
open List renaming replicate→J1,getElem?_eq_getElem→J6,length_append→J7,getElem?_eq_some_iff→J9,mem_map→Je,getElem?_append_right→Jf,length_map→Jg,append_nil→Jh,append_assoc→Ji,length_cons→Jj,map_cons→Jl,getElem?_map→Jm,range→Jn,mem_cons→Jq,mem_append→Jv,eq_nil_of_length_eq_zero→Jz,all_eq_true→K3,nil_append→K6,mem_iff_getElem→K8,getElem?_append→Kd,getElem?_append_left→Kg,reverse_reverse→Ki,nodup_cons→Km,replicate_succ→Kt,length_take→L5,mem_of_getElem?→L7,getElem?_drop→La,take_succ_cons→Lj,flatMap_cons→Ln,contains_eq_mem→Lr,getElem?_take→Ly,map_append→H1,reverse_nil→H8,range'_succ→Hi,cons_append→Hv,map_nil→Hw,reverse_cons→Hy,length_range→Hz,range'→G7,getElem?_set_self→Gj,mem_filter→Gm,all_cons→Gw,getElem?_set_ne→U2,length_nil→U5,map_take→Ua,getD→Ud,find?_cons_of_neg→Ut,mem_iff_getElem?→Uy,mem_cons_of_mem→Q5,getLast?_append→Q6,dropLast_concat→Q7,map_set→Qk,find?_eq_none→Ql,getElem?_set→Ja7,cons→Jaj,getElem?_cons_succ→Jan,map_drop→Jay
open Bool renaming and_eq_true→J2,not_true→J3,not_false→Jo,and_self→Kx,false_eq_true→Lz,not_eq_true'→G1
open Nat renaming blt→J5,zero_add→Ja,le_refl→Jd,zero_le→Kc,mul_le_mul_right→Kz,succ_mul→L8,add_assoc→Ll,le_trans→Ht,beq→G3,mul_one→Gu,sub_zero→Uv,mul_comm→Uw,ble→Ux,add_zero→Jam
open Array renaming getElem?_setIfInBounds→Jc,length_toList→K7,getD_eq_getD_getElem?→Ka,getElem?_toList→Kf,getElem?_eq_some_iff→Hl,replicate→U7
open Option renaming map_eq_some_iff→K0,some→Lh,getD_some→H7,map_some→Hh,map_eq_none_iff→Uf,bind_eq_some_iff→Uk
open Prod renaming mk→Qj
open Option renaming some→dS,none→dT
open Bool renaming true→dU,false→dV
namespace Go.Ab
open Go
abbrev Rw:=List (Nat×Nat×T)
def rwI(rw:Rw)(s:Nat):Option Nat:=(rw.find? fun x=>x.2.1==s).map (·.1)
def rwS(rw:Rw)(i:Nat):Option Nat:=(rw.find? fun x=>x.1==i).map (·.2.1)
theorem zCI:(rw:Rw)→(rw.map (·.2.1)).Nodup→ ∀{i s:Nat}{u:T},(i,s,u)∈rw→rwI rw s=dS i
 | [],_,_,_,_,h=>by simp at h
 |(i0,s0,u0)::rw,hn,i,s,u,h=>by
  simp only[Jl,Km,Je]at hn;rcases Jq.1 h with h|h
  ·simp at h;obtain⟨rfl,rfl,rfl⟩:=h;simp[rwI]
  ·have gc:s0≠s:=fun e=>hn.1 ⟨_,h,e.symm⟩
   have:=zCI rw hn.2 h;simp only[rwI]at this ⊢
   rw[Ut (by simpa using gc)];exact this
theorem zLs:(rw:Rw)→(rw.map (·.1)).Nodup→ ∀{i s:Nat}{u:T},(i,s,u)∈rw→rwS rw i=dS s
 | [],_,_,_,_,h=>by simp at h
 |(i0,s0,u0)::rw,hn,i,s,u,h=>by
  simp only[Jl,Km,Je]at hn;rcases Jq.1 h with h|h
  ·simp at h;obtain⟨rfl,rfl,rfl⟩:=h;simp[rwS]
  ·have gc:i0≠i:=fun e=>hn.1 ⟨_,h,e.symm⟩
   have:=zLs rw hn.2 h;simp only[rwS]at this ⊢
   rw[Ut (by simpa using gc)];exact this
theorem zLt{rw:Rw}{s:Nat}(h:s∉rw.map (·.2.1)):rwI rw s=dT:=by simp only[rwI,Uf,Ql];intro x hx;simp only[beq_iff_eq];exact fun e=>h (Je.2 ⟨x,hx,e⟩)
theorem zRI{rw:Rw}{i:Nat}(h:∀x∈rw,x.1≠i):rwS rw i=dT:=by simp only[rwS,Uf,Ql];intro x hx;simpa using h x hx
theorem zOS{rw:Rw}{s i:Nat}(h:rwI rw s=dS i):s∈rw.map (·.2.1):=by simp only[rwI,K0]at h;obtain⟨x,hx,_⟩:=h;have h1:=List.mem_of_find?_eq_some hx;have h2:=List.find?_some hx;exact Je.2 ⟨x,h1,by simpa using h2⟩
abbrev Nd:=List (Nat×List Nat×T)
def zRJ(nd:Nd)(k s:Nat):Option (Nat×List Nat):=
 match nd with
 | []=>dT
 |x::r=>if x.1=s then dS (k,x.2.1)else zRJ r (k+1) s
def ndB(d:Nat)(nd:Nd)(s:Nat)(z:List Nat):Option (Nat×List Nat):=
 match nd with
 | [x]=>if x.1=s∧x.2.1<:+z then dS (d,z.take (z.length-x.2.1.length))else dT
 |nd=>match zRJ nd 0 s with
  |some (k,q)=>if q<:+z then dS (d,z.take (z.length-q.length)++[k])else dT
  |none=>dT
theorem zIP:(nd:Nd)→(nd.map (·.1)).Nodup→ ∀{k k0:Nat}{x:Nat×List Nat×T},nd[k]? =dS x→zRJ nd k0 x.1=dS (k0+k,x.2.1)
 | [],_,_,_,_,h=>by simp at h
 |y::nd,hn,k,k0,x,h=>by
  simp only[Jl,Km,Je]at hn;cases k with
  |zero=>simp at h;subst h;simp[zRJ]
  |succ k=>
   simp only[Jan]at h;have gc:y.1≠x.1:=fun e=>hn.1 ⟨x,L7 h,e.symm⟩
   simp only[zRJ,gc,if_false];rw[zIP nd hn.2 h]
   congr 2;omega
def zRK(G:Gh)(nd:Nd)(z:List Nat):Value:=
 match nd with
 | [x]=>G.hd x.1 (z++x.2.1)
 |nd=>match z.getLast? with
  |some k=>(match nd[k]? with
   |some x=>G.hd x.1 (z.dropLast++x.2.1)
   |none=>.bool dV)
  |none=>.bool dV
def zVo(G:Gh)(nd:Nd)(z:List Nat):Addr:=
 match nd with
 | [x]=>G.ad x.1 (z++x.2.1)
 |nd=>match z.getLast? with
  |some k=>(match nd[k]? with
   |some x=>G.ad x.1 (z.dropLast++x.2.1)
   |none=>default)
  |none=>default
def Gh.arg(G:Gh)(a:Act)(xs:List Operand)(rw:Rw):Gh where
 hd i z:=match xs[i]? with
  |some (.tmp s)=>G.hd s z
  |some x=>jZ (a.eval x)
  |none=>.bool dV
 ad i z:=match xs[i]? with
  |some (.tmp s)=>G.ad s z
  |_=>default
 lb b o:=match G.lb b o with
  |some (f,s,z)=>(match rwI rw s,G.ow b with
   |some i,dS (s',_)=>if s'=s then dS (f,i,z)else dT
   |_,_=>dT)
  |none=>dT
 ow b:=match G.ow b with
  |some (s,z)=>(match rwI rw s with
   |some i=>dS (i,z)
   |none=>dT)
  |none=>dT
def zAS(G:Gh)(rw:Rw)(b:Nat):Prop:=∃s z,G.ow b=dS (s,z)∧s∈rw.map (·.2.1)
def zDP(d:Nat)(rw:Rw)(nd:Nd)(s:Nat)(z:List Nat):Option (Nat×List Nat):=
 match rwS rw s with
 |some s'=>dS (s',z)
 |none=>ndB d nd s z
open Classical in
noncomputable def Gh.back (G G':Gh) (n0 d:Nat) (rw:Rw) (nd:Nd):Gh where
 hd s z:=if s=d then zRK G' nd z else match rwI rw s with
  |some i=>G'.hd i z
  |none=>G.hd s z
 ad s z:=if s=d then zVo G' nd z else match rwI rw s with
  |some i=>if z=[]then G.ad s z else G'.ad i z
  |none=>G.ad s z
 lb b o:=if zAS G rw b∨n0≤b then(match G'.lb b o with
  |some (f,s,z)=>(match zDP d rw nd s z with
   |some (s',z')=>dS (f,s',z')
   |none=>dT)
  |none=>dT)else G.lb b o
 ow b:=if zAS G rw b∨n0≤b then(match G'.ow b with
  |some (s,z)=>zDP d rw nd s z
  |none=>dT)else G.ow b
def zCJ(res:List T):T:=match res with
 | [u]=>u
 |us=>.tup us
def cWr(d:Nat)(res:List T)(rw:Rw):Wr:=(d,dS (zCJ res))::rw.map fun x=>(x.2.1,dS x.2.2)
def cLv(t:T):Nat:=if t.single then 1 else 0
def wS(d:Nat)(rw:Rw):Chg:=(d,0)::rw.map fun x=>(x.2.1,cLv x.2.2)
theorem zHp{d:Nat}{rw:Rw}{x:Nat×Nat×T}(h:x∈rw):(x.2.1,cLv x.2.2)∈wS d rw:=Q5 _ (Je.2 ⟨x,h,rfl⟩)
theorem zOT{Gn G':Gh}{d:Nat}:(nd:Nd)→ ∀(j:Nat),(∀k x,nd[k]? =dS x→ ∀z,Gn.hd d (z++[j+k])=G'.hd x.1 (z++x.2.1))→zAm Gn d (nd.map (·.2.2)) [] j=nd.map fun x=>tQ G' x.1 x.2.2 x.2.1
 | [],_,_=>by simp[zAm]
 |x::nd,j,h=>by
  have ih:=zOT (Gn:=Gn) (G':=G') (d:=d) nd (j+1) (fun k y hy z=>by rw[show j+1+k=j+(k+1)from by omega];exact h (k+1) y (by simpa using hy) z)
  simp only[Jl,zAm,ih];rw[zCf x.2.2 x.2.1 [j] (by simpa using h 0 x (by simp))]
theorem zRL{d:Nat}{res:List T}{rw:Rw}{s:Nat}{x:Option T}(h:(cWr d res rw).find s=dS x):(s=d∧x=dS (zCJ res))∨(s≠d∧ ∃i u,(i,s,u)∈rw∧x=dS u):=by
 simp only[cWr,Wr.find]at h;split at h
 ·rename_i he;simp at h;exact .inl ⟨he.symm,h.symm⟩
 ·rename_i gc
  refine .inr ⟨fun e=>gc e.symm,?_⟩
  clear gc
  induction rw with
  |nil=>simp[Wr.find]at h
  |cons y rw ih=>
   simp only[Jl,Wr.find]at h;split at h
   ·rename_i he;simp at h;subst he;exact⟨y.1,y.2.2,by simp,h.symm⟩
   ·obtain⟨i,u,h1,h2⟩:=ih h;exact⟨i,u,by simp[h1],h2⟩
theorem zRM{d:Nat}{res:List T}{rw:Rw}{s:Nat}(h:(cWr d res rw).find s=dT):s≠d∧s∉rw.map (·.2.1):=by
 simp only[cWr,Wr.find]at h;split at h
 ·cases h
 ·rename_i gc
  refine⟨fun e=>gc e.symm,?_⟩
  clear gc
  induction rw with
  |nil=>simp
  |cons y rw ih=>
   simp only[Jl,Wr.find]at h;split at h
   ·cases h
   ·rename_i he
    simp only[Jl,Jq,not_or];exact⟨fun e=>he e.symm,ih h⟩
def aft(S Sc S':Stb):Stb:=fun b=>match Sc b with
 |none=>S' b
 |some _=>S b
theorem Rep.up{Γ:Ctx}{E:Env}{G:Gh}{tmps tmps':Array Value}{w w':World}{G':Gh}{wr:Wr}{chg:Chg}{S:Stb}(h:Rep Γ E G tmps w)(hS:∀b x,Γ.St b=dS x→S b=dS x)
  (gQ:tmps'.size=tmps.size)(hk:qN chg G w G' w')(gu:Mem (Γ.at S) G' w')
  (gF:∀s,wr.find s=dT→(∀n,(s,n)∉chg)∧tmps'[s]? =tmps[s]?)
  (eg:∀s t,wr.find s=dS (dS t)→Ent (Γ.at S) G' w' tmps'[s]? s t):Rep (Γ.at S) (E.app wr chg) G' tmps' w' where
 size:=by rw[gQ];exact h.size
 mem:=gu
 ent s t hs:=by
  unfold Env.app at hs;cases hf:wr.find s with
  |some x=>
   rw[hf]at hs;simp at hs;subst hs;exact eg s t hf
  |none=>
   rw[hf]at hs;simp at hs;cases he:E s with
   |none=>simp[he]at hs
   |some u=>
    simp[he]at hs;obtain⟨gP,rfl⟩:=hs;rw[(gF s hf).2];obtain⟨e1,e2,e3⟩:=Ent.keep hk (gF s hf).1 gP (h.ent s u he);exact⟨e1,zKc hS u [] e2,e3⟩
section
variable {P:Program}{Γ:Ctx}{E:Env}{d:Nat}
theorem zED{G:Gh}{a:Act}{w:World}(g9:Rep Γ E G a.tmps w)(hd:d<Γ.N){Sc:Stb}{rw:Rw}(hS1:∀b x,Sc b=dS x→w.heap[b]? =dS x∧ ¬zAS G rw b)(hS0:∀b x,Γ.St b=dS x→Sc b=dS x){f:FuncId}{us res:List T}
  (hc:FnC P f us res (rw.map fun x=>(x.1,x.2.2))){xs:List Operand}(gk:xs.length=us.length)
  (gj:∀(i:Nat) u,us[i]? =dS u→(∃x,xs[i]? =dS x∧a.eval x=mkV (G.arg a xs rw) i u []∧R Sc (G.arg a xs rw) w i u []))
  (hn1:(d::rw.map (·.2.1)).Nodup)(hn2:(rw.map (·.1)).Nodup)(ek:∀x∈rw,xs[x.1]? =dS (.tmp x.2.1))
  (gw:∀u∈res,zQ u∧u.okTup=dU∧ ∀(S':Stb)(G:Gh)(w:World)(s:Nat)(p:List Nat),(∀b x,Sc b=dS x→S' b=dS x)→R S' G w s u p→R (aft Γ.St Sc S') G w s u p)
  (bo:∀x∈rw,zQ x.2.2∧(∀(S':Stb)(G:Gh)(w:World)(s:Nat)(p:List Nat),(∀b x,Sc b=dS x→S' b=dS x)→R S' G w s x.2.2 p→R (aft Γ.St Sc S') G w s x.2.2 p)∧ ∃u,E x.2.1=dS u∧x.2.2.single=u.single∧us[x.1]? =dS u):
  Calls P f (xs.map a.eval).toArray w fun e w'=> ∃v,e=.returned v∧ ∃S G',zDE Γ.St S Γ.W Γ.w0.heap.size∧qN (wS d rw) G w G' w'∧Rep (Γ.at S) (E.app (cWr d res rw) (wS d rw)) G' (a.tmps.setIfInBounds d v) w':=by
 have hm:=g9.mem;have c7:=Km.1 hn1;have hmc:Mem ⟨Sc,zAS G rw,w,0⟩ (G.arg a xs rw) w:=by
  have gJ:∀b,zAS G rw b→Sc b=dT:=fun b h=>by
   cases hs:Sc b with
   |none=>rfl
   |some x=>exact absurd h (hS1 b x hs).2
  refine⟨fun i z=>?_,fun b o l hl=>?_,fun b l hl=>?_,fun b x hx=>(hS1 b x hx).1,fun b _ _=>rfl,Jd _,⟨fun b cs e h=>⟨cs,h,rfl⟩,rfl,rfl⟩⟩
  ·simp only[Gh.arg]
   split
   ·exact hm.one _ _
   ·exact zBE _
   ·rfl
  ·simp only[Gh.arg]at hl
   split at hl
   ·rename_i f' s z hg
    split at hl
    ·rename_i i s' y hi ho
     split at hl
     ·rename_i he;subst he
      have hL:zAS G rw b:=⟨s',y,ho,zOS hi⟩;exact⟨(hm.lb b o _ hg).1,.inr hL,gJ b hL⟩
     ·cases hl
    ·cases hl
   ·cases hl
  ·simp only[Gh.arg]at hl
   split at hl
   ·rename_i s z hg
    split at hl
    ·rename_i i hi
     have hL:zAS G rw b:=⟨s,z,hg,zOS hi⟩;exact⟨(hm.ow b _ hg).1,.inr hL,gJ b hL⟩
    ·cases hl
   ·cases hl
 have gn:=hc Sc (zAS G rw) w (G.arg a xs rw) (xs.map a.eval).toArray (by simp[gk]) (fun i u hu=>by obtain⟨x,h1,h2,h3⟩:=gj i u hu;exact⟨by simp[h1,h2],h3⟩) hmc
 refine gn.mono ?_
 rintro e w' ⟨S',G',nd,gV,rfl,gD,fM,eO,p7,bn⟩
 have fb:∀b x,Γ.St b=dS x→aft Γ.St Sc S' b=dS x:=fun b x hx=>by simp only[aft,hS0 b x hx,hx]
 have bM:zDE Γ.St (aft Γ.St Sc S') Γ.W Γ.w0.heap.size:=⟨fb,fun b hb eL=>by
  simp only[aft]at eL;split at eL
  ·rename_i hs
   rcases gV.nw b hs eL with h|⟨s,z,h,_⟩
   ·exact .inl (by have:=hm.sz;omega)
   ·exact(hm.ow b _ h).2.1
  ·exact absurd hb eL⟩
 refine⟨_,rfl,aft Γ.St Sc S',G.back G' w.heap.size d rw nd,bM,?_⟩;have p9:∀b,b<w.heap.size→ ¬zAS G rw b→w'.heap[b]? =w.heap[b]?:=gD.fr;have gv:w.heap.size≤w'.heap.size:=gD.sz;have gL:Blk w w':=gD.bk.blk
 generalize hGn:G.back G' w.heap.size d rw nd=Gn
 have ghdd:∀z,Gn.hd d z=zRK G' nd z:=fun z=>by rw[←hGn];simp[Gh.back]
 have gadd:∀z,Gn.ad d z=zVo G' nd z:=fun z=>by rw[←hGn];simp[Gh.back]
 have ghd0:∀s z,s≠d→s∉rw.map (·.2.1)→Gn.hd s z=G.hd s z:=fun s z h1 h2=>by rw[←hGn];simp[Gh.back,h1,zLt h2]
 have gad0:∀s z,s≠d→s∉rw.map (·.2.1)→Gn.ad s z=G.ad s z:=fun s z h1 h2=>by rw[←hGn];simp[Gh.back,h1,zLt h2]
 have ep:∀i s u,(i,s,u)∈rw→s≠d:=fun i s u h e=>c7.1 (e▸Je.2 ⟨_,h,rfl⟩)
 have ghdr:∀i s u z,(i,s,u)∈rw→Gn.hd s z=G'.hd i z:=fun i s u z h=>by rw[←hGn];simp[Gh.back,ep i s u h,zCI rw c7.2 h]
 have gadr:∀i s u z,(i,s,u)∈rw→z≠[]→Gn.ad s z=G'.ad i z:=fun i s u z h h0=>by rw[←hGn];simp[Gh.back,ep i s u h,zCI rw c7.2 h,h0]
 have gadr0:∀i s u,(i,s,u)∈rw→Gn.ad s []=G.ad s []:=fun i s u h=>by rw[←hGn];simp[Gh.back,ep i s u h,zCI rw c7.2 h]
 have glb0:∀b o l,¬zAS G rw b→G.lb b o=dS l→Gn.lb b o=dS l:=fun b o l h1 h2=>by have:=(hm.lb b o _ h2).1;rw[←hGn];simp only[Gh.back];rw[if_neg (by rintro(h|h);exact h1 h;omega)];exact h2
 have gow0:∀b l,¬zAS G rw b→G.ow b=dS l→Gn.ow b=dS l:=fun b l h1 h2=>by have:=(hm.ow b _ h2).1;rw[←hGn];simp only[Gh.back];rw[if_neg (by rintro(h|h);exact h1 h;omega)];exact h2
 have gN:∀b o l,G'.lb b o=dS l→zAS G rw b∨w.heap.size≤b:=fun b o l h=>(gD.lb b o l h).2.1.symm
 have mg:∀b l,G'.ow b=dS l→zAS G rw b∨w.heap.size≤b:=fun b l h=>(gD.ow b l h).2.1.symm
 have glb1:∀b o fl s z s' z',G'.lb b o=dS (fl,s,z)→zDP d rw nd s z=dS (s',z')→Gn.lb b o=dS (fl,s',z'):=fun b o fl s z s' z' h1 h2=>by rw[←hGn];simp only[Gh.back];rw[if_pos (gN b o _ h1),h1];simp[h2]
 have gow1:∀b s z l,G'.ow b=dS (s,z)→zDP d rw nd s z=dS l→Gn.ow b=dS l:=fun b s z l h1 h2=>by rw[←hGn];simp only[Gh.back];rw[if_pos (mg b _ h1),h1];simp[h2]
 have ab:∀i s u z,(i,s,u)∈rw→zDP d rw nd i z=dS (s,z):=fun i s u z h=>by simp[zDP,zLs rw hn2 h]
 have gE:∀x∈rw,x.1<us.length:=fun x hx=>by have:=(J9.1 (ek x hx)).1;omega
 have hbn:∀x∈nd,∀z,zDP d rw nd x.1 z=ndB d nd x.1 z:=fun x hx z=>by have h1:=(eO x hx).2;have h2:rwS rw x.1=dT:=zRI (fun y hy e=>by have:=gE y hy;omega);simp[zDP,h2]
 have pQ:∀(k:Nat) x,nd[k]? =dS x→ ∃tgt,(nd.length=1→tgt=[])∧(nd.length≠1→tgt=[k])∧(∀z,Gn.hd d (z++tgt)=G'.hd x.1 (z++x.2.1))∧(∀z,Gn.ad d (z++tgt)=G'.ad x.1 (z++x.2.1))∧ ∀z,zDP d rw nd x.1 (z++x.2.1)=dS (d,z++tgt):=by
  intro k x hk;have mD:=L7 hk
  match nd,hk,p7,hbn x mD,ghdd,gadd with
  | [y],hk,p7,hb,ghdd,gadd=>
   have hkx:y=x:=by
    cases k with
    |zero=>simpa using hk
    |succ k=>simp at hk
   subst hkx;exact⟨[],fun _=>rfl,fun h=>absurd rfl h,fun z=>by rw[ghdd];simp[zRK],fun z=>by rw[gadd];simp[zVo],fun z=>by rw[hb];simp[ndB]⟩
  | [],hk,_,_,_,_=>simp at hk
  |y1::y2::r,hk,p7,hb,ghdd,gadd=>
   refine⟨[k],fun h=>by simp at h,fun _=>rfl,fun z=>by rw[ghdd];simp only[zRK,Q6,Q7];simp[hk],fun z=>by rw[gadd];simp only[zVo,Q6,Q7];simp[hk],fun z=>?_⟩;rw[hb];have:=zIP (y1::y2::r) p7 (k0:=0) hk;rw[Ja]at this;simp only[ndB,this];simp
 have po:∀(k:Nat) x,nd[k]? =dS x→ ∀tgt,(∀z,Gn.hd d (z++tgt)=G'.hd x.1 (z++x.2.1))→(∀z,Gn.ad d (z++tgt)=G'.ad x.1 (z++x.2.1))→(∀z,zDP d rw nd x.1 (z++x.2.1)=dS (d,z++tgt))→R (aft Γ.St Sc S') Gn w' d x.2.2 tgt:=by intro k x hk tgt h1 h2 h3;have mD:=L7 hk;obtain⟨c1,c2,c3⟩:=gw x.2.2 (by rw[←fM];exact Je.2 ⟨x,mD,rfl⟩);refine zAa (G:=G') (w:=w') (s:=x.1) (p:=x.2.1) ⟨⟨h1,fun z _=>h2 z,fun b o f' z _ _ hl=>⟨glb1 b o f' _ _ _ _ hl (h3 z),rfl⟩,fun b z _ hl=>gow1 b _ _ _ hl (h3 z),fun b cs e h=>⟨cs,h,rfl⟩⟩,fun b o _ hl=>⟨glb1 b o dU _ _ _ _ hl (by simpa using h3 []),rfl⟩,fun b hl=>gow1 b _ _ _ hl (by simpa using h3 [])⟩ _ (yN.mono (fun _ _=>False.elim) _ c1) (c3 _ _ _ _ _ gV.le (eO x mD).1)
 have gy:qN (wS d rw) G w Gn w':=by
  have gK:∀s,(∀n,(s,n)∉wS d rw)→s≠d∧s∉rw.map (·.2.1):=fun s h=>⟨fun e=>h 0 (by simp[wS,e]),fun hm=>by obtain⟨x,hx,rfl⟩:=Je.1 hm;exact h _ (zHp hx)⟩
  have fN:∀b s y,G.ow b=dS (s,y)→s∉rw.map (·.2.1)→ ¬zAS G rw b:=by
   rintro b s y h1 h2 ⟨s',z',h3,h4⟩
   rw[h1]at h3;simp at h3;exact h2 (h3.1▸h4)
  refine⟨fun s p h=>?_,fun s p h=>?_,fun b o fl s p gU h1 h2=>?_,fun b s p h1 h2=>?_,gL⟩
  ·have h1:s≠d:=fun e=>absurd (h 0 (by simp[wS,e])) (by simp)
   by_cases h2:s∈rw.map (·.2.1)
   ·
    obtain⟨x,hx,rfl⟩:=Je.1 h2;have hc:=h _ (zHp hx);have c2:x.2.2.single=dU:=by
     cases fj:x.2.2.single with
     |true=>rfl
     |false=>simp[cLv,fj]at hc
    have h3:p=[]:=Jz (by simp only[cLv,c2,if_true]at hc;omega);subst h3;obtain⟨_,_,u,c4,c5,c6⟩:=bo x hx;rw[c2]at c5;have c5:=c5.symm;obtain⟨_,u0,e1,e2⟩:=bn x.1 x.2.2 (Je.2 ⟨x,hx,rfl⟩);rw[c6]at e1;simp at e1;subst e1;rw[yR c2,yR c5]at e2;rw[ghdr x.1 x.2.1 x.2.2 [] hx,e2];simp[Gh.arg,ek x hx]
   ·exact ghd0 s p h1 h2
  ·have h1:s≠d:=fun e=>absurd (h 0 (by simp[wS,e])) (by simp)
   by_cases h2:s∈rw.map (·.2.1)
   ·obtain⟨x,hx,rfl⟩:=Je.1 h2
    have hc:=h _ (zHp hx);have h3:p=[]:=Jz (by have:cLv x.2.2≤1:=(by unfold cLv;split<;>omega);omega);subst h3;exact gadr0 x.1 x.2.1 x.2.2 hx
   ·exact gad0 s p h1 h2
  ·obtain⟨h3,h4⟩:=gK s h2
   obtain⟨y,hy⟩:=gU;have h5:=fN b s y hy h4;exact⟨glb0 b o _ h5 h1,by simp[yH,World.cell?,p9 b (hm.lb b o _ h1).1 h5]⟩
  ·obtain⟨h3,h4⟩:=gK s h2
   exact gow0 b _ (fN b s p h1 h4) h1
 have gu:Mem (Γ.at (aft Γ.St Sc S')) Gn w':=by
  have gP:∀b,b<w'.heap.size∧(w.heap.size≤b∨zAS G rw b)∧S' b=dT→zCA (Γ.at (aft Γ.St Sc S')) w' b:=fun b ⟨hb,h,gM⟩=>by
   have mI:Sc b=dT:=by
    cases hs:Sc b with
    |none=>rfl
    |some x=>rw[gV.le b x hs]at gM;cases gM
   refine⟨hb,?_,by simp only[aft,mI];exact gM⟩;rcases h with h|⟨s,z,h1,_⟩
   ·exact .inl (by have:=hm.sz;show Γ.w0.heap.size≤b;omega)
   ·exact(hm.ow b _ h1).2.1
  have gF:∀b,¬(zAS G rw b∨w.heap.size≤b)→zCA Γ w b→zCA (Γ.at (aft Γ.St Sc S')) w' b:=fun b h ⟨h1,h2,h3⟩=>by
   refine⟨by omega,h2,?_⟩;simp only[aft];split
   ·rename_i hs
    cases gM:S' b with
    |none=>rfl
    |some x=>
     rcases gV.nw b hs (by rw[gM];simp)with h4|h4
     ·exact absurd (.inr h4) h
     ·exact absurd (.inl h4) h
   ·exact h3
  refine⟨fun s z=>?_,fun b o l hl=>?_,fun b l hl=>?_,fun b x hx=>?_,fun b(h1:b<Γ.w0.heap.size) h2=>?_,Ht hm.sz gv,hm.bk.trans gL gD.bk.os gD.bk.out⟩
  ·by_cases h1:s=d
   ·subst h1
    rw[ghdd];unfold zRK;split
    ·exact gD.one _ _
    ·split
     ·split
      ·exact gD.one _ _
      ·rfl
     ·rfl
   ·by_cases h2:s∈rw.map (·.2.1)
    ·obtain⟨x,hx,rfl⟩:=Je.1 h2
     rw[ghdr x.1 x.2.1 x.2.2 z hx];exact gD.one _ _
    ·rw[ghd0 s z h1 h2];exact hm.one _ _
  ·rw[←hGn]at hl
   simp only[Gh.back]at hl;split at hl
   ·rename_i pc
    split at hl
    ·rename_i hg
     exact gP b (gD.lb b o _ hg)
    ·cases hl
   ·rename_i pc
    exact gF b pc (hm.lb b o l hl)
  ·rw[←hGn]at hl
   simp only[Gh.back]at hl;split at hl
   ·rename_i pc
    split at hl
    ·rename_i hg
     exact gP b (gD.ow b _ hg)
    ·cases hl
   ·rename_i pc
    exact gF b pc (hm.ow b l hl)
  ·simp only[aft]at hx
   split at hx
   ·exact gD.st b x hx
   have h1:=hm.st b x hx;have h2:=(Hl.1 h1).1;have h3:¬zAS G rw b:=by
    rintro⟨s,z,h4,_⟩
    rw[(hm.ow b _ h4).2.2]at hx;cases hx
   rw[p9 b h2 h3];exact h1
  ·have h3:¬zAS G rw b:=by
    rintro⟨s,z,h4,_⟩
    rcases(hm.ow b _ h4).2.1 with h5|h5
    ·omega
    ·exact h2 h5
   rw[p9 b (by have:=hm.sz;omega) h3];exact hm.fr b h1 h2
 have d7:nd.length=res.length:=by rw[←fM];simp
 refine⟨gy,g9.up fb (by simp) gy gu ?_ ?_⟩
 ·intro s hs
  obtain⟨h1,h2⟩:=zRM hs;refine⟨fun n hn=>?_,by rw[Jc];simp[Ne.symm h1]⟩;simp only[wS,Jq,Qj.injEq,Je]at hn;rcases hn with⟨e,_⟩|⟨x,hx,e,_⟩
  ·exact h1 e
  ·exact h2 (Je.2 ⟨x,hx,e⟩)
 ·intro s t hs
  rcases zRL hs with⟨rfl,ht⟩|⟨gc,i,u,fS,ht⟩
  ·simp at ht
   subst ht;rw[Jc];simp only[g9.size,hd,if_true];have ct:res=nd.map (·.2.2):=fM.symm
   by_cases hl:nd.length=1
   ·obtain⟨x,hx⟩:∃x,nd=[x]:=List.length_eq_one_iff.1 hl
    obtain⟨tgt,t1,_,t3,t4,t5⟩:=pQ 0 x (by simp[hx]);obtain rfl:=t1 hl;have hr:=po 0 x (by simp[hx]) [] t3 t4 t5;obtain⟨c1,c2,_⟩:=gw x.2.2 (by rw[ct,hx];simp);have eV:zCJ res=x.2.2:=by rw[ct,hx];rfl
    have gX:∀ys,x.2.2≠.tup ys:=fun ys e=>by rw[e]at c2;simp[T.okTup]at c2
    rw[eV];refine⟨?_,hr,Top.of_clean _ c1⟩;rw[zAn Gn s _ [] gX,zCf x.2.2 x.2.1 [] t3,hx];rfl
   ·have eV:zCJ res=.tup res:=by
     rw[d7]at hl
     match res,hl with
     | [],_=>rfl
     | [u],hl=>simp at hl
     |_::_::_,_=>rfl
    rw[eV];have gG:∀k x,nd[k]? =dS x→ ∀z,Gn.hd s (z++[0+k])=G'.hd x.1 (z++x.2.1):=fun k x hk z=>by obtain⟨tgt,_,t2,t3,_,_⟩:=pQ k x hk;rw[t2 hl]at t3;rw[Ja];exact t3 z
    refine⟨?_,?_,?_⟩
    ·have hv:=zOT (Gn:=Gn) (G':=G') (d:=s) nd 0 gG
     rw[fM]at hv;simp only[mkV,hv];unfold zLo;split
     ·simp at hl
     ·rfl
    ·simp only[R]
     rw[ct];refine zOH _ [] 0 (fun k u hu=>?_);rw[Jm]at hu;cases hk:nd[k]? with
     |none=>simp[hk]at hu
     |some x=>
      simp[hk]at hu;subst hu;obtain⟨tgt,_,t2,t3,t4,t5⟩:=pQ k x hk;rw[t2 hl]at t3 t4 t5;rw[Ja];exact po k x hk [k] t3 t4 t5
    ·simp only[Top]
     refine uB.of_clean _ ?_;have:∀us:List T,(∀u∈us,zQ u)→yK us:=by
      intro us
      induction us with
      |nil=>intro _;trivial
      |cons u us ih=>intro h;exact⟨h u (by simp),ih fun v hv=>h v (by simp[hv])⟩
     exact this res fun u hu=>(gw u hu).1
  ·simp at ht
   subst ht;obtain⟨c1,c3,u0,c4,_,c6⟩:=bo _ fS;obtain⟨r1,u1,e1,e2⟩:=bn i t (Je.2 ⟨_,fS,rfl⟩);simp only at c4 c6;rw[c6]at e1;simp at e1;subst e1;refine⟨?_,?_,Top.of_clean _ c1⟩
   ·rw[Jc]
    simp only[Ne.symm gc,if_false];have ta:=ek _ fS;simp only at ta;have m1:mkV Gn s t []=mkV G' i t []:=zFp t [] [] (fun z=>by rw[Jh];exact ghdr i s t z fS);have m2:mkV (G.arg a xs rw) i u0 []=mkV G s u0 []:=zFp u0 [] [] (fun z=>by simp[Gh.arg,ta]);rw[(g9.ent s u0 c4).1,m1,e2,m2]
   ·refine zAa (G:=G') (w:=w') (s:=i) (p:=[]) ⟨⟨fun z=>by rw[Jh];exact ghdr i s t z fS,fun z hz=>by rw[Jh];exact gadr i s t z fS hz,fun b o f' z _ _ hl=>?_,fun b z _ hl=>?_,fun b cs e h=>⟨cs,h,rfl⟩⟩,fun b o _ hl=>⟨glb1 b o dU _ _ _ _ hl (ab i s t [] fS),rfl⟩,fun b hl=>gow1 b _ _ _ hl (ab i s t [] fS)⟩ t (yN.mono (fun _ _=>False.elim) _ c1) (c3 _ _ _ _ _ gV.le r1)
    ·rw[Jh]at hl ⊢;exact⟨glb1 b o f' _ _ _ _ hl (ab i s t z fS),rfl⟩
    ·rw[Jh]at hl ⊢;exact gow1 b _ _ _ hl (ab i s t z fS)
end
end Go.Ab

namespace Go.Ab
open Go
def zIQ(E:Env)(rs:List Nat)(x:Operand)(t:T):Bool:=
 match x with
 |.tmp s=>sJ E rs s t
 |_=>dU
def zBM(E:Env)(rw:Rw)(i:Nat)(x:Operand)(u:T):Prop:=
 (∃s u',x=.tmp s∧(i,s,u')∈rw∧E s=dS u∧zQ u∧u.okTup=dU∧wK u=dU)∨(∃t,opT E x=dS t∧clo E t=u∧zIQ E (rw.map (·.2.1)) x t=dU)
def xG(E:Env)(rw:Rw):Nat→List Operand→List T→Prop
 |_,[],[]=>True
 |i,x::xs,u::us=>zBM E rw i x u∧xG E rw (i+1) xs us
 |_,_,_=>False
theorem xG.length{E:Env}{rw:Rw}:(xs:List Operand)→(us:List T)→ ∀i,xG E rw i xs us→xs.length=us.length
 | [],[],_,_=>rfl
 |_::xs,_::us,i,h=>by simp[xG.length xs us (i+1) h.2]
 | [],_::_,_,h=>by simp[xG]at h
 |_::_,[],_,h=>by simp[xG]at h
theorem xG.get{E:Env}{rw:Rw}:(xs:List Operand)→(us:List T)→ ∀i,xG E rw i xs us→ ∀(j:Nat) u,us[j]? =dS u→ ∃x,xs[j]? =dS x∧zBM E rw (i+j) x u
 | [],[],_,_,_,_,h=>by simp at h
 |x::xs,v::us,i,h,j,u,hj=>by
  cases j with
  |zero=>simp at hj;subst hj;exact⟨x,by simp,h.1⟩
  |succ j=>
   obtain⟨y,h1,h2⟩:=xG.get xs us (i+1) h.2 j u (by simpa using hj);exact⟨y,by simpa using h1,by rwa [show i+(j+1)=i+1+j from by omega]⟩
 | [],_::_,_,h,_,_,_=>by simp[xG]at h
 |_::_,[],_,h,_,_,_=>by grind
structure zKe (E:Env) (d:Nat) (xs:List Operand) (us:List T) (rw:Rw):Prop where
 nodup:(d::rw.map (·.2.1)).Nodup
 nodup2:(rw.map (·.1)).Nodup
 at_:∀x∈rw,xs[x.1]? =dS (.tmp x.2.1)
 tree:∀x∈rw,zQ x.2.2∧wK x.2.2=dU∧ ∃u,E x.2.1=dS u∧x.2.2.single=u.single∧us[x.1]? =dS u
theorem zKe.nil{E:Env}{d:Nat}{xs:List Operand}{us:List T}:zKe E d xs us []:=⟨by simp,by simp,by simp,by simp⟩
theorem zKe.one{E:Env}{d i s:Nat}{u u':T}{xs:List Operand}{us:List T}(h1:d≠s)(h2:xs[i]? =dS (.tmp s))(h3:zQ u')(h4:u'.single=dU)(h5:wK u'=dU)(h6:E s=dS u)(h7:u.single=dU)(h8:us[i]? =dS u):
  zKe E d xs us [(i,s,u')]:=⟨by grind,by simp,by grind,by grind⟩
section
variable {P:Program}{Γ:Ctx}{E:Env}{o:Oper}{d:Nat}
theorem zOU{G:Gh}{a:Act}{w:World}(g9:Rep Γ E G a.tmps w){rw:Rw}{xs:List Operand}{us:List T}(hr:zKe E d xs us rw){Sc:Stb}(eb:∀b x,Γ.St b=dS x→Sc b=dS x)
  (ee:∀r,r∉rw.map (·.2.1)→ ∀b,(∃y,G.ow b=dS (r,y))→Sc b=w.heap[b]?){i:Nat}{x:Operand}{u:T}(hx:xs[i]? =dS x)(hu:us[i]? =dS u)(h:zBM E rw i x u):
  a.eval x=mkV (G.arg a xs rw) i u []∧R Sc (G.arg a xs rw) w i u []:=by
 rcases h with⟨s,u',rfl,h1,h2,h3,h4,h5⟩|⟨t,h1,rfl,h3⟩
 ·obtain⟨e1,e2,_⟩:=g9.ent s u h2
  have gG:∀z,(G.arg a xs rw).hd i z=G.hd s z:=by grind[Gh.arg]
  have fm:∀z,(G.arg a xs rw).ad i z=G.ad s z:=by grind[Gh.arg]
  have hi:=zCI rw (Km.1 hr.nodup).2 h1;refine⟨by grind[xK,zFp],?_⟩;refine zNr u [] h5 (zAa (St:=Γ.St) (G:=G) (w:=w) (s:=s) (p:=[]) ⟨⟨by grind,by grind,fun b o' f' z _ gU hl=>?_,fun b z _ hl=>?_,fun b cs e h=>⟨cs,h,rfl⟩⟩,fun b o' gU hl=>?_,fun b hl=>?_⟩ u (by grind[yN.mono]) e2)
  ·obtain⟨y,hy⟩:=gU
   exact⟨by grind[Gh.arg],rfl⟩
  ·grind[Gh.arg]
  ·obtain⟨y,hy⟩:=gU
   exact⟨by grind[Gh.arg],rfl⟩
  grind[Gh.arg]
 ·cases x with
  |tmp s=>
   have gG:∀z,(G.arg a xs rw).hd i z=G.hd s z:=by grind[Gh.arg]
   obtain⟨e1,e2,_⟩:=g9.ent s t h1
   grind[zIQ,xK,zKd,zXy]
  |const v=>
   simp only[opT]at h1;split at h1
   ·rename_i gp
    simp at h1;subst h1;have gG:(G.arg a xs rw).hd i []=v:=by grind[Gh.arg,Act.eval,zAc]
    exact⟨by grind[clo,mkV,Act.eval],by simp[clo,R,gG]⟩
   ·cases h1
  |func f=>
   simp only[opT]at h1;simp at h1;subst h1;have gG:(G.arg a xs rw).hd i []=.func (.func f) #[] #[]:=by grind[Gh.arg,Act.eval,jZ,Value.oneCell']
   exact⟨by grind[clo,mkV,Act.eval],by simp[clo,R,gG]⟩
  |global g=>grind[opT]
theorem zDq{E:Env}:(t:T)→t.flat=dU→(∀rs s,sJ E rs s t=dU)∧clo E t=t
 |.lit _,_|.ro _,_=>by simp[sJ,clo]
 |.agg ts,h=>by
  simp only[T.flat]at h;have:=go ts h
  grind[sJ,clo]
 |.any,h|.same _ _,h|.addr _ _,h|.sub _ _ _ _ _,h|.sl _ _,h|.ptr _,h|.tup _,h=>by grind[T.flat]
where go:(ts:List T)→zA8 ts=dU→(∀rs s,zAR E rs s ts=dU)∧zBL E ts=ts
 | [],_=>by simp[zAR,zBL]
 |x::xs,h=>by simp only[zA8,J2]at h;simp only[zAR,zBL,J2];exact⟨fun rs s=>⟨(zDq x h.1).1 rs s,(go xs h.2).1 rs s⟩,by rw[(zDq x h.1).2,(go xs h.2).2]⟩
theorem zCK{a:Act}{w:World}{K:Act→World→Prop}{Q:Exit→Act→World→Prop}{f:FuncId}{xf:Operand}{xs:List Operand}{ats:Array TypeId}(ho:o.op=.call { callee:=.value xf,args:=xs.toArray,argTypes:=ats })(gf:o.dst=dS d)
  (gn:∀args w,(callFunc f args).run P w=.ok (.enter f args) w)(hf:a.eval xf=.func (.func f) #[] #[])
  (h:Calls P f (xs.map a.eval).toArray w fun e w'=> ∃v,e=.returned v∧K (a.put (dS d) v) w'):o.wp P a w K Q:=by
 have gA:(execOp a.eval o).run P w=.ok (.enter f (xs.map a.eval).toArray) w:=by simp[execOp,ho,resolve,hf,Deferred.ofValue,invoke,gn]
 unfold Oper.wp;rw[gA,Oper.upon_enter];refine h.mono ?_
 grind
theorem zLu{G:Gh}{a:Act}{w:World}(g9:Rep Γ E G a.tmps w)(hd:d<Γ.N)(f:FuncId)(xs:List Operand)(us res:List T)(rw:Rw)
  (hc:FnC P f us res (rw.map fun x=>(x.1,x.2.2)))(gj:xG E rw 0 xs us)(hr:zKe E d xs us rw)(gw:yK res∧yE res=dU∧vB res=dU):
  Calls P f (xs.map a.eval).toArray w fun e w'=> ∃v,e=.returned v∧ ∃S G',zDE Γ.St S Γ.W Γ.w0.heap.size∧qN (wS d rw) G w G' w'∧Rep (Γ.at S) (E.app (cWr d res rw) (wS d rw)) G' (a.tmps.setIfInBounds d v) w':=by
 classical
 have hm:=g9.mem
 let Sc:Stb:=fun b=>if zAS G rw b then dT else w.heap[b]?
 have eb:∀b x,Γ.St b=dS x→Sc b=dS x:=fun b x hx=>by
  have h3:¬zAS G rw b:=by
   rintro⟨s,z,h4,_⟩
   rw[(hm.ow b _ h4).2.2]at hx;cases hx
  simp only[Sc,h3,if_false];exact hm.st b x hx
 have ee:∀r,r∉rw.map (·.2.1)→ ∀b,(∃y,G.ow b=dS (r,y))→Sc b=w.heap[b]?:=fun r pq b ⟨y,hy⟩=>by
  have h3:¬zAS G rw b:=by
   rintro⟨s,z,h4,h5⟩
   grind
  grind
 have cE:∀(us:List T),yK us∧yE us=dU∧vB us=dU→ ∀u∈us,zQ u∧u.okTup=dU∧wK u=dU:=by
  intro us
  induction us with
  |nil=>simp
  |cons v us ih=>
   intro⟨h1,h2,h3⟩ u hu;simp only[yE,vB,J2]at h2 h3;rcases Jq.1 hu with rfl|hu
   ·exact⟨h1.1,h2.1,h3.1⟩
   ·exact ih ⟨h1.2,h2.2,h3.2⟩ u hu
 exact zED g9 hd (Sc:=Sc) (rw:=rw) (by grind) eb hc (xG.length xs us 0 gj) (fun i u hu=>by
   obtain⟨x,h1,h2⟩:=xG.get xs us 0 gj i u hu;rw[Ja]at h2
   grind[zOU]) hr.nodup hr.nodup2 hr.at_
  (by grind[zNr])
  (fun x hx=>by
   obtain⟨h1,h3,h4⟩:=hr.tree x hx
   grind[zNr])
theorem zOV(f:FuncId)(xf:Operand)(xs:List Operand)(ats:Array TypeId)(us res:List T)(rw:Rw)(ho:o.op=.call { callee:=.value xf,args:=xs.toArray,argTypes:=ats })(gf:o.dst=dS d)(hd:d<Γ.N)
  (gn:∀args w,(callFunc f args).run P w=.ok (.enter f args) w)(hf:opT E xf=dS (.lit (.func (.func f) #[] #[])))
  (hc:FnC P f us res (rw.map fun x=>(x.1,x.2.2)))(gj:xG E rw 0 xs us)(hr:zKe E d xs us rw)(gw:yK res∧yE res=dU∧vB res=dU):
  xM P Γ o E (E.app (cWr d res rw) (wS d rw)):=by
 intro a w K Q ⟨gR,G,g9⟩ hK;refine zCK ho gf gn (yP g9 hf).1 ?_;refine(zLu g9 hd f xs us res rw hc gj hr gw).mono ?_
 rintro e w' ⟨v,rfl,S,G',hS,_,gm⟩
 exact⟨v,rfl,hK _ _ ⟨S,hS,gR,G',gm⟩⟩
theorem zLv(f:FuncId)(xf:Operand)(xs:List Operand)(ats:Array TypeId)(us res:List T)(i ds r:Nat)(q:List Nat)(tr u u':T)(ho:o.op=.call { callee:=.value xf,args:=xs.toArray,argTypes:=ats })(gf:o.dst=dS d)(hd:d<Γ.N)
  (gn:∀args w,(callFunc f args).run P w=.ok (.enter f args) w)(hf:opT E xf=dS (.lit (.func (.func f) #[] #[])))
  (hs:E ds=dS (.same r q))(hr:E r=dS tr)(hq:tr.get q.reverse=dS u)(hu:u.single=dU)(eH:zQ u)(gW:ds≠r)(hdr2:d≠r)(gP:tr.okB [(ds,1),(r,q.length+1)]=dU)(fj:xU tr=dU)
  (E1 E2:Env)(mw:E1=E.app [(ds,dS u),(r,dS (if q=[]then .same ds []else tr.set q.reverse .any))] [(ds,1),(r,q.length+1)])(hE2:E2=E1.app (cWr d res [(i,ds,u')]) (wS d [(i,ds,u')]))
  (hc:FnC P f us res [(i,u')])(gj:xG E1 [(i,ds,u')] 0 xs us)(fS:zKe E1 d xs us [(i,ds,u')])(gw:yK res∧yE res=dU∧vB res=dU)
  (tr2 v0:T)(gz:E2 r=dS tr2)(aQ:tr2.get q.reverse=dS v0)(bc:v0.single=dU)(pj:E2 ds=dS u')(eD:zQ u')(av:u'.single=dU)(p6:tr2.okB [(r,q.length+1),(ds,1)]=dU)(hc3:xU tr2=dU)(hok3:u'.okB [(r,q.length+1),(ds,1)]=dU)(hc4:xU u'=dU):
  xM P Γ o E (E2.app [(r,dS (tr2.set q.reverse u')),(ds,dS (.same r q))] [(r,q.length+1),(ds,1)]):=by
 have d9:cLv u'=1:=by grind[cLv]
 intro a w K Q ⟨gR,G,g9⟩ hK;refine zCK ho gf gn (yP g9 hf).1 ?_;have hZ:G.hd ds []=G.hd r q:=by have:=(g9.ent ds _ hs).2.1;simpa only[R]using this
 obtain⟨fK,dj⟩:=zHi g9 ds [] r q (.same r q) tr u (.same r q) hs rfl rfl hZ hr hq hu eH gW (by grind[T.okB,zA7]) (by omega) rfl fj;have dR:E.app [(ds,dS ((T.same r q).set [].reverse u)),(r,dS (if q=[]then .same ds []else tr.set q.reverse .any))] [(ds,([]:List Nat).length+1),(r,q.length+1)]=E1:=by rw[mw];rfl
 rw[dR]at fK;refine(zLu fK hd f xs us res [(i,ds,u')] hc gj fS gw).mono ?_
 rintro e w' ⟨v,rfl,S,G',hS,hk,gm⟩
 rw[←hE2]at gm;have hdds:d≠ds:=by have:=fS.nodup;grind
 have h1:G'.hd r q=(G.tr ds [] r q).hd r q:=hk.hd r q (fun n hn=>by grind[wS]);have h2:G'.hd ds []=(G.tr ds [] r q).hd ds []:=hk.hd ds [] (fun n hn=>by grind[wS]);have fy:G'.hd r q=G'.hd ds []:=by grind
 obtain⟨fJ,_⟩:=zHi gm r q ds [] tr2 u' u' v0 gz aQ bc fy pj rfl av eD (Ne.symm gW) (by omega) (by omega) hc3 hc4;refine⟨v,rfl,hK _ _ ⟨S,hS,gR,G'.tr r q ds [],?_⟩⟩;have hw:(if([]:List Nat)=[]then T.same r q else u'.set ([]:List Nat).reverse .any)=T.same r q:=if_pos rfl;rw[hw]at fJ;exact fJ
theorem zRN(f:FuncId)(xf:Operand)(xs:List Operand)(ats:Array TypeId)(us res:List T)(ho:o.op=.call { callee:=.value xf,args:=xs.toArray,argTypes:=ats })(gf:o.dst=dS d)(hd:d<Γ.N)
  (gn:∀args w,(callFunc f args).run P w=.ok (.enter f args) w)(hf:opT E xf=dS (.lit (.func (.func f) #[] #[])))
  (hc:FnC P f us res [])(gk:xs.length=us.length)(gj:∀(i:Nat) u,us[i]? =dS u→ ∃x,xs[i]? =dS x∧opT E x=dS u∧u.flat=dU)(gw:yK res∧yE res=dU):
  xM P Γ o E (E.app (cWr d res []) (wS d [])):=by
 intro a w K Q ⟨gR,G,g9⟩ hK;have hm:=g9.mem;refine zCK ho gf gn (yP g9 hf).1 ?_;have fN:∀b,¬zAS G [] b:=by rintro b ⟨s,z,_,h⟩;simp at h
 have cE:∀(us:List T),yK us∧yE us=dU→ ∀u∈us,zQ u∧u.okTup=dU:=by
  intro us
  induction us with
  |nil=>simp
  |cons v us ih=>
   intro⟨h1,h2⟩ u hu;simp only[yE,J2]at h2;rcases Jq.1 hu with rfl|hu
   ·exact⟨h1.1,h2.1⟩
   ·exact ih ⟨h1.2,h2.2⟩ u hu
 have:=zED g9 hd (Sc:=Γ.St) (rw:=[]) (fun b x hx=>⟨hm.st b x hx,fN b⟩) (fun _ _ h=>h) hc gk (fun i u hu=>by
   obtain⟨x,h1,h2,h3⟩:=gj i u hu;refine⟨x,h1,?_⟩;have mh:=zDq (E:=E) u h3;cases x with
   |tmp s=>
    have gG:∀z,(G.arg a xs []).hd i z=G.hd s z:=by grind[Gh.arg]
    obtain⟨e1,e2,_⟩:=g9.ent s u h2;refine⟨?_,by grind[zJY]⟩;have:=zKd (E:=E) gG u (mh.1 [] s)
    grind[xK]
   |const v=>
    simp only[opT]at h2;split at h2
    ·rename_i gp
     simp at h2;subst h2;have gG:(G.arg a xs []).hd i []=v:=by grind[Gh.arg,Act.eval,zAc]
     exact⟨by grind[mkV,Act.eval],by simp[R,gG]⟩
    ·cases h2
   |func f=>
    simp only[opT]at h2;simp at h2;subst h2;have gG:(G.arg a xs []).hd i []=.func (.func f) #[] #[]:=by grind[Gh.arg,Act.eval,jZ,Value.oneCell']
    exact⟨by grind[mkV,Act.eval],by simp[R,gG]⟩
   |global g=>grind[opT]) (by simp) (by simp) (by simp)
  (fun u hu=>⟨by grind,by grind,fun S' G w s p hS h=>by
   have:aft Γ.St Γ.St S'=S':=funext (by grind[aft])
   grind⟩) (by simp)
 refine this.mono ?_
 rintro e w' ⟨v,rfl,S,G',hS,_,gm⟩
 exact⟨v,rfl,hK _ _ ⟨S,hS,gR,G',gm⟩⟩
end
end Go.Ab

namespace Go.Ab
open Go
def wT:List (Nat×T)→Env
 | [],_=>dT
 |(k,t)::l,s=>if k=s then dS t else wT l s
def Env.Has(E:Env):List (Nat×T)→Prop
 | []=>True
 |(s,t)::l=>E s=dS t∧E.Has l
theorem Env.Has.le{E:Env}:{l:List (Nat×T)}→E.Has l→ ∀s t,wT l s=dS t→E s=dS t
 | [],_,s,t,h=>by grind[wT]
 |(k,u)::l,hh,s,t,h=>by
  simp only[wT]at h;split at h
  ·rename_i e
   subst e;rw[hh.1];exact h
  ·exact hh.2.le s t h
theorem Sim.weaken{Γ:Ctx}{E E':Env}{a:Act}{w:World}(h:Sim Γ E a w)(eJ:∀s t,E' s=dS t→E s=dS t):Sim Γ E' a w:=by obtain⟨h1,G,h2⟩:=h;exact⟨h1,G,⟨h2.size,fun s t hs=>h2.ent s t (eJ s t hs),h2.mem⟩⟩
theorem jY.weaken{Γ:Ctx}{E E':Env}{a:Act}{w:World}(h:jY Γ E a w)(eJ:∀s t,E' s=dS t→E s=dS t):jY Γ E' a w:=by obtain⟨S,h1,h2⟩:=h;exact⟨S,h1,h2.weaken eJ⟩
abbrev tT:=List (Nat×Value)
def tT.Hold(pn:tT)(a:Act):Prop:=∀x∈pn,a.tmps[x.1]? =dS x.2
def tT.ok(pn:tT)(d:Option Nat):Bool:=match d with
 |none=>dU
 |some d=>pn.all fun x=>x.1 != d
theorem Oper.wp_frame{P:Program}{o:Oper}{a:Act}{w:World}{K:Act→World→Prop}{Q:Exit→Act→World→Prop}(h:o.wp P a w K Q):
  o.wp P a w (fun a' w'=>K a' w'∧ ∀s,o.dst≠dS s→a'.tmps[s]? =a.tmps[s]?) Q:=by
 have key:∀(v:Value)(ds:List Deferred),∀s,o.dst≠dS s→(({ a with defers:=ds }:Act).put o.dst v).tmps[s]? =a.tmps[s]?:=by
  intro v ds s hs;cases hd:o.dst with
  |none=>rfl
  |some d=>
   grind[Act.put]
 have key0:∀(v:Value),∀s,o.dst≠dS s→(a.put o.dst v).tmps[s]? =a.tmps[s]?:=fun v=>key v a.defers
 unfold Oper.wp at*
 generalize (execOp a.eval o).run P w=r at*
 cases r with
 |ok n w'=>
  cases n<;>simp only[Oper.upon]at h ⊢
  all_goals grind
 |halt x w'=>cases x<;>simp only[Oper.upon]at h ⊢ <;>exact h
theorem tT.Hold.frame{pn:tT}{a a':Act}{d:Option Nat}(h:pn.Hold a)(gP:pn.ok d=dU)(hf:∀s,d≠dS s→a'.tmps[s]? =a.tmps[s]?):pn.Hold a':=by
 intro x hx;rw[hf x.1 ?_]
 ·exact h x hx
 ·rintro rfl
  have:=K3.1 gP x hx
  grind
section
variable (P:Program) (Γ:Ctx) (pn:tT)
def CW(c:Code)(E:Env)(Q:Exit→Env→Prop):Prop:=
 ∀(a:Act)(w:World)(Q':Exit→Act→World→Prop),jY Γ E a w→pn.Hold a→(∀e E' a' w',Q e E'→jY Γ E' a' w'→pn.Hold a'→Q' e a' w')→c.wp P Q' a w
def yQ(ops:Array Oper)(o:Oper)(E E':Env):Prop:=
 ∀(a:Act)(w:World)(K:Act→World→Prop)(Q:Exit→Act→World→Prop),jY Γ E a w→(∀a' w',jY Γ E' a' w'→(∀s,o.dst≠dS s→a'.tmps[s]? =a.tmps[s]?)→K a' w')→
  if Region.wanted o (yielded ops a.tmps)then o.wp P a w K Q∨(o.asks P a w∧LetsOut Q)else K (a.put o.dst undef) w
def wpL(ops:Array Oper)(Q:Exit→Act→World→Prop):List Oper→Act→World→Prop
 | [],a,w=>Q .normal a w
 |o::os,a,w=>if Region.wanted o (yielded ops a.tmps)then o.wp P a w (wpL ops Q os) Q∨(o.asks P a w∧LetsOut Q)else wpL ops Q os (a.put o.dst undef) w
def RW(ops:Array Oper)(os:List Oper)(E:Env)(Q:Exit→Env→Prop):Prop:=
 ∀(a:Act)(w:World)(Q':Exit→Act→World→Prop),jY Γ E a w→pn.Hold a→(∀e E' a' w',Q e E'→jY Γ E' a' w'→pn.Hold a'→Q' e a' w')→wpL P ops Q' os a w
end
section
variable {P:Program}{Γ:Ctx}{pn:tT}{E E':Env}{Q Q1:Exit→Env→Prop}{c c1 c2:Code}{ops:Array Oper}{o:Oper}{os:List Oper}{d:Nat}
theorem zKf{Q':Exit→Act→World→Prop}:∀(os:List Oper)(n:Nat)(a:Act)(w:World),ops.toList.drop n=os→wpL P ops Q' os a w→wpOps P ops Q' (G7 n os.length) a w
 | [],n,a,w,_,h=>by simpa[wpOps,wpL]using h
 |o::os,n,a,w,hd,h=>by
  have ho:ops[n]? =dS o:=by
   have:=congrArg (·[0]?) hd
   grind
  have pF:ops.toList.drop (n+1)=os:=by
   have:=congrArg List.tail hd
   grind[List.tail_drop]
  simp only[Jj,Hi,wpOps,ho];simp only[wpL]at h;split
  ·rename_i hw
   simp only[hw,if_true]at h;exact h.imp (Oper.wp_mono fun a w=>zKf os (n+1) a w pF) id
  ·rename_i hw
   simp only[hw]at h;exact zKf os (n+1) _ w pF h
theorem CW.region{id:Nat}(h:RW P Γ pn ops ops.toList E Q):CW P Γ pn (.region id ops dV) E Q:=by
 intro a w Q' hs hp hQ;refine wp_region ?_;have:=zKf (P:=P) ops.toList 0 a w (by simp) (h a w Q' hs hp hQ)
 grind[List.range_eq_range']
theorem RW.nil(h:Q .normal E):RW P Γ pn ops [] E Q:=fun a w Q' hs hp hQ=>by
 simp only[wpL]
 grind
theorem RW.cons(h1:yQ P Γ ops o E E')(h3:RW P Γ pn ops os E' Q)(h2:pn.ok o.dst=dU:=by rfl):RW P Γ pn ops (o::os) E Q:=by
 intro a w Q' hs hp hQ;simp only[wpL];have:=h1 a w (wpL P ops Q' os) Q' hs fun a' w' gM hf=>h3 a' w' Q' gM (hp.frame h2 hf) hQ
 exact this
theorem yQ.op(h:∀S,xM P (Γ.at S) o E E')(hg:o.guard=dT:=by rfl):yQ P Γ ops o E E':=by
 intro a w K Q hs hK;have hw:Region.wanted o (yielded ops a.tmps)=dU:=by simp[Region.wanted,hg]
 rw[if_pos hw];refine .inl ?_;obtain⟨S,hS,hs⟩:=hs;have:=Oper.wp_frame (h S a w (fun a' w'=>jY Γ E' a' w') Q hs fun a' w' h=>h.up hS)
 grind[Oper.wp_mono]
theorem zHq{a:Act}{w:World}(hs:jY Γ E a w){g s:Nat}{b:Bool}(gO:(ops[g]?).bind (·.dst)=dS s)(h:E s=dS (.lit (.bool b))):yielded ops a.tmps g=dS b:=by
 obtain⟨_,_,_,G,hr⟩:=hs;obtain⟨h1,h2,_⟩:=hr.ent s _ h;simp only[R]at h2
 grind[yielded,mkV]
theorem yQ.guard(g:Nat)(b:Bool)(s:Nat)(h:∀S,xM P (Γ.at S) o E E')(hg:o.guard=dS (g,b):=by rfl)(gO:(ops[g]?).bind (·.dst)=dS s:=by rfl)(hb:E s=dS (.lit (.bool b)):=by rfl):yQ P Γ ops o E E':=by
 intro a w K Q hs hK;have hw:Region.wanted o (yielded ops a.tmps)=dU:=by grind[Region.wanted,zHq]
 rw[if_pos hw];refine .inl ?_;obtain⟨S,hS,hs⟩:=hs;have:=Oper.wp_frame (h S a w (fun a' w'=>jY Γ E' a' w') Q hs fun a' w' h=>h.up hS)
 grind[Oper.wp_mono]
def zK(Γ:Ctx)(E E':Env):Prop:=∀(a:Act)(w:World),jY Γ E a w→jY Γ E' a w
theorem zK.refl:zK Γ E E:=fun _ _ h=>h
theorem zK.trans{E1 E2 E3:Env}(h:zK Γ E1 E2)(h':zK Γ E2 E3):zK Γ E1 E3:=fun a w hs=>h' a w (h a w hs)
theorem zK.has{l:List (Nat×T)}(h:E.Has l):zK Γ E (wT l):=fun _ _ hs=>hs.weaken h.le
theorem CW.ghost(h1:zK Γ E E')(h:CW P Γ pn c E' Q):CW P Γ pn c E Q:=fun a w Q' hs=>h a w Q' (h1 a w hs)
theorem RW.ghost(h1:zK Γ E E')(h:RW P Γ pn ops os E' Q):RW P Γ pn ops os E Q:=fun a w Q' hs=>h a w Q' (h1 a w hs)
theorem CW.to(l:List (Nat×T))(h1:E.Has l)(h:CW P Γ pn c (wT l) Q):CW P Γ pn c E Q:=h.ghost (.has h1)
theorem CW.mono(h:CW P Γ pn c E Q1)(hq:∀e E',Q1 e E'→Q e E'):CW P Γ pn c E Q:=fun a w Q' hs hp hQ=>h a w Q' hs hp (by grind)
theorem CW.skip(h:Q .normal E):CW P Γ pn .skip E Q:=fun _ _ _ hs hp hQ=>by grind[wp_skip]
theorem CW.ret(h:Q .ret E):CW P Γ pn .ret E Q:=fun _ _ _ hs hp hQ=>by grind[wp_ret]
theorem CW.exit{id:Nat}(h:Q (.exit id) E):CW P Γ pn (.exit id) E Q:=fun _ _ _ hs hp hQ=>by grind[wp_exit]
def zU(P:Program)(Γ:Ctx)(pn:tT)(c:Code)(Q:Exit→Env→Prop):Exit→Env→Prop
 |.normal,E=>CW P Γ pn c E Q
 |e,E=>Q e E
theorem CW.seq(h:CW P Γ pn c1 E (zU P Γ pn c2 Q)):CW P Γ pn (.seq c1 c2) E Q:=by
 intro a w Q' hs hp hQ;refine wp_seq (h a w _ hs hp fun e E' a' w' h1 gM fT=>?_);cases e with
 |normal=>exact h1 a' w' Q' gM fT hQ
 |_=>exact hQ _ _ _ _ h1 gM fT
theorem CW.cond{x:Operand}(b:Bool)(hb:opT E x=dS (.lit (.bool b)))(ht:b=dU→CW P Γ pn c1 E Q)(hf:b=dV→CW P Γ pn c2 E Q):CW P Γ pn (.cond x c1 c2) E Q:=by intro a w Q' hs hp hQ;obtain⟨_,_,_,G,hr⟩:=id hs;refine wp_cond_split (yP hr hb).1 (fun h=>ht h a w Q' hs hp hQ) (fun h=>hf h a w Q' hs hp hQ)
def zY(id:Nat)(Q:Exit→Env→Prop):Exit→Env→Prop
 |.exit id',E=>if id'=id then Q .normal E else Q (.exit id') E
 |e,E=>Q e E
theorem CW.block{id:Nat}(h:CW P Γ pn c E (zY id Q)):CW P Γ pn (.block id c) E Q:=by
 intro a w Q' hs hp hQ;refine wp_block (h a w _ hs hp fun e E' a' w' h1 gM fT=>?_);cases e with
 |exit id'=>
  simp only[zY]at h1;simp only[Exit.inBlock]
  grind
 |_=>exact hQ _ _ _ _ h1 gM fT
end
def yY{σ ρ:Type}(body:σ→Option (σ⊕ρ)):Nat→σ→Option ρ
 |0,_=>dT
 |n+1,s=>match body s with
  |none=>dT
  |some (.inl s')=>yY body n s'
  |some (.inr r)=>dS r
theorem zHr{σ ρ:Type}{body:σ→Option (σ⊕ρ)}{r:ρ}:∀{n m:Nat}{s:σ},yY body n s=dS r→n≤m→yY body m s=dS r
 |0,_,_,h,_=>by grind[yY]
 |n+1,0,_,_,hm=>by omega
 |n+1,m+1,s,h,hm=>by
  simp only[yY]at h ⊢
  cases hb:body s with
  |none=>grind
  |some x=>
   cases x with
   |inl s'=>simp only[hb]at h ⊢;exact zHr h (by omega)
   |inr r'=>grind
open Classical in
noncomputable def zE {σ ρ:Type} (body:σ→Option (σ⊕ρ)) (s:σ):Option ρ:=
 if h:∃(n:Nat)(r:ρ),yY body n s=dS r then dS h.choose_spec.choose else dT
theorem zCi{σ ρ:Type}{body:σ→Option (σ⊕ρ)}{s:σ}{r:ρ}:zE body s=dS r↔ ∃n,yY body n s=dS r:=by
 unfold zE;constructor
 ·intro h
  split at h
  all_goals grind
 ·rintro⟨n,hn⟩
  have he:∃(n:Nat)(r:ρ),yY body n s=dS r:=⟨n,r,hn⟩;rw[dif_pos he]
  grind[zHr]
theorem yG{σ ρ:Type}(body:σ→Option (σ⊕ρ))(s:σ):zE body s=match body s with
  |none=>dT
  |some (.inl s')=>zE body s'
  |some (.inr r)=>dS r:=by
 apply Option.ext;intro r;rw[zCi];cases hb:body s with
 |none=>
  simp only[reduceCtorEq,iff_false]
  rintro⟨n,hn⟩
  cases n<;>simp[yY,hb]at hn
 |some x=>
  cases x with
  |inl s'=>
   simp only[];rw[zCi];constructor
   ·rintro⟨n,hn⟩
    cases n with
    |zero=>grind[yY]
    |succ n=>grind[yY]
   ·rintro⟨n,hn⟩
    exact⟨n+1,by grind[yY]⟩
  |inr r'=>
   simp only[Lh.injEq];constructor
   ·rintro⟨n,hn⟩
    cases n with
    |zero=>grind[yY]
    |succ n=>grind[yY]
   ·rintro rfl
    exact⟨1,by simp[yY,hb]⟩
section
variable {P:Program}{Γ:Ctx}{pn:tT}{E:Env}{Q:Exit→Env→Prop}{c:Code}
def yO{σ ρ:Type}(Γ:Ctx)(en:σ→Env)(Q:ρ→Exit→Env→Prop)(x:σ⊕ρ):Exit→Env→Prop:=fun e E'=>
 match x with
 |.inl s'=>e=.normal∧zK Γ E' (en s')
 |.inr r=>e≠.normal∧Q r e E'
theorem zDQ{p:Nat→Prop}(h:∃m,p m):∃m,p m∧ ∀k,k<m→ ¬p k:=by
 refine Classical.byContradiction fun hn=>?_
 have key:∀n,∀k,k<n→ ¬p k:=by
  intro n
  induction n with
  |zero=>simp
  |succ n ih=>
   grind
 grind
theorem CW.loop{σ ρ:Type}(body:σ→Option (σ⊕ρ))(en:σ→Env)(Q:ρ→Exit→Env→Prop)(h:∀s x,body s=dS x→CW P Γ pn c (en s) (yO Γ en Q x)){s:σ}{r:ρ}(hr:zE body s=dS r):
  CW P Γ pn (.loop c) (en s) (Q r):=by
 classical
 intro a w Q' hs hp hQ
 let p:Act→World→Nat→Prop:=fun a w m=> ∃s,yY body m s=dS r∧jY Γ (en s) a w∧pn.Hold a
 let μ:Act→World→Nat:=fun a w=>if h:∃m,p a w m then(zDQ h).choose else 0
 obtain⟨n,hn⟩:=zCi.1 hr;refine wp_loop (fun a w=> ∃m,p a w m) μ (by grind) ?_;intro a w pE;have hμ:μ a w=(zDQ pE).choose:=dif_pos pE;obtain⟨s,h1,h2,h3⟩:=(zDQ pE).choose_spec.1;have eQ:=(zDQ pE).choose_spec.2;rw[←hμ]at h1;cases hm:μ a w with
 |zero=>grind[yY]
 |succ k=>
  rw[hm]at h1;simp only[yY]at h1;cases hb:body s with
  |none=>grind
  |some x=>
   refine h s x hb a w _ h2 h3 fun e E' a' w' hq gM fT=>?_
   cases x with
   |inl s'=>
    simp only[hb]at h1;obtain⟨rfl,hg⟩:=hq;have hp2:p a' w' k:=⟨s',h1,hg a' w' gM,fT⟩;refine⟨⟨k,hp2⟩,?_⟩;have hex':∃m,p a' w' m:=⟨k,hp2⟩
    grind
   |inr r'=>
    simp only[hb]at h1;have:r'=r:=by grind
    subst this;obtain⟨gc,hq⟩:=hq;have:=hQ e E' a' w' hq gM fT;cases e with
    |normal=>grind
    |_=>exact this
end
end Go.Ab

namespace Go.Ab
open Go
abbrev Nds:=List (Nat×List Nat×T)
def ROk(P:Program)(E:Env):ResultVar→(Nat×List Nat×T)→Prop
 |.tmp s,x=>x.1=s∧x.2.1=[]∧E s=dS x.2.2∧x.2.2.okTup=dU
 |.cell a T,x=>x.1=a∧x.2.1=[0]∧E a=dS (.ptr x.2.2)∧ ∃ds ti,P.underlying T=dS ds∧P.info? T=dS ti∧zFq ds= !x.2.2.single∧ti.size=x.2.2.size
def zGw(P:Program)(E:Env):List ResultVar→Nds→Prop
 | [],[]=>True
 |x::xs,y::ys=>ROk P E x y∧zGw P E xs ys
 |_,_=>False
def LOk(E:Env)(us:List T):List (Nat×T)→Prop
 | []=>True
 |(i,u')::l=>(E i=dS u'∧ ∃u,us[i]? =dS u)∧LOk E us l
def yAp(P:Program)(rs:Array ResultVar)(us res:List T)(rws:List (Nat×T)):Exit→Env→Prop:=fun e E=>
 (e=.ret∨e=.normal)∧ ∃nd:Nds,zGw P E rs.toList nd∧nd.map (·.2.2)=res∧(∀x∈nd,us.length≤x.1)∧(nd.map (·.1)).Nodup∧LOk E us rws
def zCL(v:Nat→Value)(is:List Nat):tT:=is.map fun i=>(i,v i)
def zI4:Nat→List T→List (Nat×T)
 |_,[]=>[]
 |i,u::us=>(i,u)::zI4 (i+1) us
theorem zLw:∀(us:List T)(i s:Nat)(t:T),wT (zI4 i us) s=dS t→i≤s∧us[s-i]? =dS t
 | [],i,s,t,h=>by grind[zI4,wT]
 |u::us,i,s,t,h=>by
  simp only[zI4,wT]at h;split at h
  ·grind
  ·rename_i e
   obtain⟨h1,h2⟩:=zLw us (i+1) s t h
   grind
def zRO(tmps:Array Value):ResultVar→Sem Value
 |.tmp t=>pure (tmps.getD t undef)
 |.cell a t=>do loadVar t (←asAddr (tmps.getD a undef))
theorem zNs(fn:Func)(tmps:Array Value):results fn tmps=(do
  let vs ←fn.results.mapM (zRO tmps)
  pure (if h:vs.size=1 then vs[0]else .tuple vs)):=rfl
theorem uB.get:(xs:List T)→uB xs→ ∀(i:Nat)(x:T),xs[i]? =dS x→Top x
 | [],_,i,x,h=>by simp at h
 |y::ys,ht,i,x,h=>by
  simp only[uB]at ht;cases i with
  |zero=>simp at h;subst h;exact ht.1
  |succ i=>exact uB.get ys ht.2 i x (by simpa using h)
theorem LOk.get{E:Env}{us:List T}:(l:List (Nat×T))→LOk E us l→ ∀i u',(i,u')∈l→E i=dS u'∧ ∃u,us[i]? =dS u
 | [],_,_,_,h=>by simp at h
 |x::l,h,i,u',hm=>by
  rcases Jq.1 hm with rfl|hm
  ·exact h.1
  ·exact LOk.get l h.2 i u' hm
theorem yCb{P:Program}{Γ:Ctx}{E:Env}{G:Gh}{tmps:Array Value}{w:World}(g9:Rep Γ E G tmps w)(x:ResultVar)(s:Nat)(q:List Nat)(t:T)(h:ROk P E x (s,q,t)):
  (zRO tmps x).run P w=.ok (tQ G s t q) w∧R Γ.St G w s t q:=by
 cases x with
 |tmp s'=>
  obtain⟨h0,fX,h1,h2⟩:=h;dsimp only at h0 fX h1 h2;subst h0 fX;obtain⟨g1,g2,_⟩:=g9.ent _ _ h1;have gX:∀xs,t≠.tup xs:=by rintro xs rfl;grind[T.okTup]
  refine⟨?_,g2⟩;rw[←zAn G s t [] gX];simp[zRO,Ka,g1]
 |cell a T'=>
  obtain⟨h0,fX,h1,ds,ti,h2,h3,h4,h5⟩:=h;dsimp only at h0 fX h1 h4 h5;subst h0 fX;obtain⟨g1,g2,_⟩:=g9.ent _ _ h1;simp only[R]at g2;obtain⟨b,cs,e,k1,k2,k3,k4,k5,k6⟩:=g2;refine⟨?_,k6⟩;rw[yR rfl,k1]at g1;have h6:=zGa (w:=w) h2 h3 k5 h4 h5;simp[zRO,Ka,g1,asAddr,h6]
theorem zGh{P:Program}{Γ:Ctx}{E:Env}{G:Gh}{tmps:Array Value}{w:World}(g9:Rep Γ E G tmps w):(rs:List ResultVar)→(nd:Nds)→zGw P E rs nd→
  (rs.mapM (zRO tmps)).run P w=.ok (nd.map fun x=>tQ G x.1 x.2.2 x.2.1) w∧ ∀x∈nd,R Γ.St G w x.1 x.2.2 x.2.1
 | [],[],_=>by simp
 |x::xs,y::ys,h=>by
  obtain⟨h1,h2⟩:=zGh g9 xs ys h.2;obtain⟨h3,h4⟩:=yCb g9 x y.1 y.2.1 y.2.2 h.1
  simp_all
 | [],_::_,h=>by simp[zGw]at h
 |_::_,[],h=>by simp[zGw]at h
theorem FnC.of_body{P:Program}{f:FuncId}{fn:Func}{c:Code}{us res:List T}{rws:List (Nat×T)}(hf:P.funcs[f]? =dS fn)(hb:fn.body=dS c)(hn:us.length≤fn.ntmps)(ht:uB us)(hr:rws.all (fun x=>decide (x.1<us.length))=dU)
  (h:∀(Γ:Ctx)(v:Nat→Value),Γ.N=fn.ntmps→CW P Γ (zCL v (rws.map (·.1))) c (wT (zI4 0 us)) (yAp P fn.results us res rws)):FnC P f us res rws:=by
 intro St W w G vs cP gj gu
 let Γ:Ctx:=⟨St,W,w,fn.ntmps⟩
 let v:Nat→Value:=fun i=>vs.getD i undef
 have hm:Mem Γ G w:=⟨gu.one,gu.lb,gu.ow,gu.st,gu.fr,gu.sz,gu.bk⟩;have gv:(vs++U7 (fn.ntmps-vs.size) undef).size=fn.ntmps:=by simp;omega
 have pT:Sim Γ (wT (zI4 0 us)) { tmps:=vs++U7 (fn.ntmps-vs.size) undef,defers:=[] } w:=by
  refine⟨rfl,G,gv,?_,hm⟩;intro s t hs;obtain⟨_,h2⟩:=zLw us 0 s t hs;simp only[Uv]at h2;obtain⟨h3,h4⟩:=gj s t h2;have gE:s<vs.size:=by grind
  exact⟨by grind,h4,uB.get us ht s t h2⟩
 have aV:(zCL v (rws.map (·.1))).Hold { tmps:=vs++U7 (fn.ntmps-vs.size) undef,defers:=[] }:=by
  intro x hx;simp only[zCL,Je]at hx;obtain⟨i,⟨y,hy,rfl⟩,rfl⟩:=hx;have h1:=K3.1 hr y hy;simp at h1;have h2:y.1<vs.size:=by omega
  simp[Array.getElem?_append,h2,v]
 refine calls_of_wp hf hb (h Γ v rfl _ _ _ (.of pT) aV ?_)
 rintro e E' a' w' ⟨he,nd,h1,h2,h3,h4,h5⟩ ⟨S',gV,gR,G',g9⟩ hp
 obtain⟨g1,g2⟩:=zGh g9 _ _ h1;have gw:(results fn a'.tmps).run P w'=.ok (zLo G' nd) w':=by
  rw[zNs,Array.mapM_eq_mapM_toList];simp only[Sem.run_bind,Sem.run_map,g1];cases nd with
  |nil=>simp[zLo]
  |cons y ys=>
   cases ys with
   |nil=>simp[zLo]
   |cons z zs=>simp[zLo]
 have gD:Mem ⟨S',W,w,0⟩ G' w':=⟨g9.mem.one,g9.mem.lb,g9.mem.ow,g9.mem.st,g9.mem.fr,g9.mem.sz,g9.mem.bk⟩;have mi:bodyPost P fn (fun e w'=> ∃(S':Stb)(G':Gh)(nd:List (Nat×List Nat×T)),zDE St S' W w.heap.size∧e=.returned (zLo G' nd)∧Mem ⟨S',W,w,0⟩ G' w'∧nd.map (·.2.2)=res∧
   (∀x∈nd,R S' G' w' x.1 x.2.2 x.2.1∧us.length≤x.1)∧(nd.map (·.1)).Nodup∧
   ∀i u',(i,u')∈rws→R S' G' w' i u' []∧ ∃u,us[i]? =dS u∧mkV G' i u' []=mkV G i u []) .ret a' w':=by
  refine⟨gR,_,gw,S',G',nd,gV,rfl,gD,h2,by grind,h4,?_⟩;intro i u' hiu;obtain⟨k1,u,k3⟩:=LOk.get _ h5 i u' hiu;obtain⟨k5,k6,_⟩:=g9.ent i u' k1;refine⟨k6,u,k3,?_⟩;have k7:=hp (i,v i) (by simp only[zCL,Je];grind);have k8:=(gj i u k3).1;rw[k5]at k7;simp[v,Ka,k8]at k7;exact k7
 rcases he with rfl|rfl<;>exact mi
end Go.Ab

namespace Go.Ab
open Go
mutual
def vG:T→T
 |.sl k xs=>.ro (strip (.sl k xs))
 |.ptr t=>.ro (strip (.ptr t))
 |.agg xs=>.agg (uH xs)
 |.tup xs=>.tup (uH xs)
 |.any=>.any
 |.lit v=>.lit v
 |.ro t=>.ro t
 |.same r p=>.same r p
 |.addr r p=>.addr r p
 |.sub r p k lo hi=>.sub r p k lo hi
def uH:List T→List T
 | []=>[]
 |x::xs=>vG x::uH xs
end
mutual
theorem zRP(G:Gh)(s:Nat):(t:T)→ ∀p,vals G s (vG t) p=vals G s t p
 |.agg xs,p=>by simp only[vG,vals];exact zDr G s xs p 0
 |.sl _ _,_|.ptr _,_|.tup _,_|.any,_|.lit _,_|.ro _,_|.same _ _,_|.addr _ _,_|.sub _ _ _ _ _,_=>by rfl
theorem zDr(G:Gh)(s:Nat):(xs:List T)→ ∀p j,yA G s (uH xs) p j=yA G s xs p j
 | [],_,_=>by rfl
 |x::xs,p,j=>by simp only[uH,yA,zRP G s x,zDr G s xs]
end
theorem zRQ(G:Gh)(s:Nat)(t:T)(p:List Nat):tQ G s (vG t) p=tQ G s t p:=by cases t<;>simp only[vG,tQ,zDr]
theorem zLx(G:Gh)(s:Nat):(xs:List T)→ ∀p j,zAm G s (uH xs) p j=zAm G s xs p j
 | [],_,_=>by rfl
 |x::xs,p,j=>by simp only[uH,zAm,zRQ,zLx G s xs]
theorem zVp(G:Gh)(s:Nat)(t:T)(p:List Nat):mkV G s (vG t) p=mkV G s t p:=by cases t<;>simp only[vG,mkV,zDr,zLx]
mutual
theorem zLy:(t:T)→Top t→Top (vG t)
 |.agg xs,h|.tup xs,h=>by simp only[vG,Top]at h ⊢;exact zIR xs h
 |.sl _ _,_|.ptr _,_|.any,_|.lit _,_|.ro _,_|.same _ _,_|.addr _ _,_|.sub _ _ _ _ _,_=>by simp only[vG,Top]
theorem zIR:(xs:List T)→uB xs→uB (uH xs)
 | [],_=>by grind[uH]
 |x::xs,h=>by simp only[uH,uB]at h ⊢;exact⟨zLy x h.1,zIR xs h.2⟩
end
section
variable {St Sc:Stb}{G G':Gh}{w:World}{s:Nat} (gp:∀s p,(G.hd s p).oneCell'=dU) (eb:∀b x,St b=dS x→Sc b=dS x) (ee:∀b,(∃y,G.ow b=dS (s,y))→Sc b=w.heap[b]?) (gG:∀s z,G'.hd s z=G.hd s z) (fm:∀s z,G'.ad s z=G.ad s z)
 include gp eb ee gG fm
mutual
theorem zXz:(t:T)→ ∀(p:List Nat),R St G w s t p→R Sc G' w s (vG t) p
 |.agg xs,p,hr|.tup xs,p,hr=>by simp only[vG,R]at hr ⊢;exact zRR xs p 0 hr
 |.sl k xs,p,hr=>by have:=zLr gp eb ee (.sl k xs) p rfl hr;simp only[vG,R,gG];exact this
 |.ptr t,p,hr=>by have:=zLr gp eb ee (.ptr t) p rfl hr;simp only[vG,R,gG];exact this
 |.ro u,p,hr=>by simp only[vG,R,gG]at hr ⊢;grind[uG]
 |.any,_,_=>by simp only[vG,R]
 |.lit _,_,hr|.same _ _,_,hr|.sub _ _ _ _ _,_,hr=>by simp only[vG,R,gG]at hr ⊢;exact hr
 |.addr _ _,_,hr=>by simp only[vG,R,gG,fm]at hr ⊢;exact hr
theorem zRR:(xs:List T)→ ∀(p:List Nat)(j:Nat),RF St G w s xs p j→RF Sc G' w s (uH xs) p j
 | [],_,_,_=>by have _:=gp;have _:=eb;have _:=ee;have _:=gG;have _:=fm;simp only[uH,RF]
 |x::xs,p,j,hr=>by simp only[uH,RF]at hr ⊢;exact⟨zXz x _ hr.1,zRR xs p (j+1) hr.2⟩
end
end
theorem zK.freeze{Γ:Ctx}{E:Env}(s:Nat)(t:T)(hs:E s=dS t):zK Γ E (E.app [(s,dS (vG t))] [(s,1)]):=by
 classical
 rintro a w ⟨S,hS,gR,G,g9⟩
 have hm:=g9.mem
 let own:Nat→Prop:=fun b=> ∃y,G.ow b=dS (s,y)
 let Sc:Stb:=fun b=>if own b then w.heap[b]? else S b
 let G':Gh:={ hd:=G.hd,ad:=G.ad,lb:=fun b o=>if own b then dT else G.lb b o,ow:=fun b=>if own b then dT else G.ow b }
 have fb:∀b x,S b=dS x→Sc b=dS x:=fun b x hx=>by
  have:¬own b:=by
   rintro⟨y,hy⟩
   have:=(hm.ow b _ hy).2.2
   grind
  grind
 have bM:zDE S Sc Γ.W Γ.w0.heap.size:=⟨fb,fun b hb eL=>by
  by_cases h:own b
  ·obtain⟨y,hy⟩:=h
   exact(hm.ow b _ hy).2.1
  grind⟩
 have gu:Mem ((Γ.at S).at Sc) G' w:=by
  refine⟨hm.one,fun b o l hl=>?_,fun b l hl=>?_,fun b x hx=>?_,hm.fr,hm.sz,hm.bk⟩
  ·by_cases h:own b
   ·grind
   ·simp only[G',h,if_false]at hl
    have:=hm.lb b o l hl;exact⟨this.1,this.2.1,by simp only[Sc,h,if_false];exact this.2.2⟩
  ·by_cases h:own b
   ·grind
   ·simp only[G',h,if_false]at hl
    have:=hm.ow b l hl;exact⟨this.1,this.2.1,by simp only[Sc,h,if_false];exact this.2.2⟩
  ·by_cases h:own b
   ·grind
   ·simp only[Sc,h,if_false]at hx;exact hm.st b x hx
 have gy:qN [(s,1)] G w G' w:=by
  have d5:∀b s0 y,G.ow b=dS (s0,y)→(∀n,(s0,n)∉([(s,1)]:Chg))→ ¬own b:=by grind
  refine⟨fun _ _ _=>rfl,fun _ _ _=>rfl,by grind,by grind,fun b cs e h=>⟨cs,h,rfl⟩⟩
  all_goals grind
 obtain⟨e1,e2,e3⟩:=g9.ent s t hs;refine⟨Sc,hS.trans bM,gR,G',g9.up fb rfl gy gu (fun s0 h0=>⟨fun n hn=>?_,rfl⟩) (fun s0 t0 h0=>?_)⟩
 ·grind[tG]
 ·rw[tG]at h0
  split at h0
  ·rename_i he;subst he
   simp at h0;subst h0;have hR:=zXz (G':=G') hm.one fb (fun b hb=>by grind) (fun _ _=>rfl) (fun _ _=>rfl) t [] e2;refine⟨?_,hR,zLy t e3⟩;rw[e1];have h1:mkV G' s (vG t) []=mkV G s (vG t) []:=zFp _ _ _ (fun _=>rfl);rw[h1,zVp]
  ·cases h0
end Go.Ab

namespace Go.Ab
open Go
abbrev zCM:=List (Wr×Chg)
def Env.apps(E:Env)(l:zCM):Env:=l.foldl (fun E x=>E.app x.1 x.2) E
structure Stp where
 rd:List (Nat×T)
 l:zCM
def sC(wr:Wr):List Nat:=wr.map (·.1)
def Stp.slots(X:Stp):List Nat:=X.l.flatMap fun x=>sC x.1
def oOk(chg:Chg):Option T→Bool
 |none=>dU
 |some t=>t.okB chg
def zNt(chg:Chg)(wr:Wr):Bool:=wr.all fun x=>oOk chg x.2
def zQg(a b:List Nat):Bool:=a.all fun x=> !b.contains x
def zFy(a b:zCM):Bool:=a.all fun x=>b.all fun y=>zQg (sC x.1) (sC y.1)&&zNt y.2 x.1&&zNt x.2 y.1
def Stp.apart(a b:Stp):Bool:=zFy a.l b.l&&zQg a.slots (b.rd.map (·.1))&&zQg b.slots (a.rd.map (·.1))&&a.rd.all fun x=>b.l.all fun y=>x.2.okB y.2
theorem zFz{wr:Wr}{s:Nat}(h:s∉sC wr):wr.find s=dT:=by
 induction wr with
 |nil=>rfl
 |cons x wr ih=>
  simp only[sC,Jl,Jq,not_or]at h;simp only[Wr.find,Ne.symm h.1,if_false];exact ih h.2
theorem zIS{wr:Wr}{s:Nat}{x:Option T}(h:wr.find s=dS x):s∈sC wr∧ ∃y∈wr,y.2=x:=by
 induction wr with
 |nil=>grind[Wr.find]
 |cons y wr ih=>
  grind[Wr.find,sC]
theorem zHs{a b:List Nat}(h:zQg a b=dU){s:Nat}(hs:s∈a):s∉b:=by
 have:=K3.1 h s hs
 grind
theorem zRS(E:Env)(w1 w2:Wr)(c1 c2:Chg)(h:zQg (sC w1) (sC w2)=dU)(h1:zNt c2 w1=dU)(h2:zNt c1 w2=dU):
  (E.app w1 c1).app w2 c2=(E.app w2 c2).app w1 c1:=by
 funext s
 have ok:∀{c:Chg}{w:Wr}{s:Nat}{x:Option T},zNt c w=dU→w.find s=dS x→(match x with|some t=>if t.okB c then dS t else dT|none=>dT)=x:=by
  intro c w s x hw hf;obtain⟨_,y,hy,rfl⟩:=zIS hf;have:=K3.1 hw y hy
  grind[oOk]
 unfold Env.app;cases hf1:w1.find s with
 |some x=>
  grind[zFz,zHs,zIS]
 |none=>
  grind
theorem zDR(w:Wr)(c:Chg):∀(l:zCM)(E:Env),(∀y∈l,zQg (sC w) (sC y.1)=dU∧zNt y.2 w=dU∧zNt c y.1=dU)→(E.app w c).apps l=(E.apps l).app w c
 | [],E,_=>rfl
 |y::l,E,h=>by obtain⟨h1,h2,h3⟩:=h y (by simp);show((E.app w c).app y.1 y.2).apps l=_;rw[zRS E w y.1 c y.2 h1 h2 h3];exact zDR w c l _ (by grind)
theorem zIT:∀(l1 l2:zCM)(E:Env),zFy l1 l2=dU→(E.apps l1).apps l2=(E.apps l2).apps l1
 | [],l2,E,_=>rfl
 |x::l1,l2,E,h=>by simp only[zFy,Gw,J2]at h;show((E.app x.1 x.2).apps l1).apps l2=((E.apps l2).app x.1 x.2).apps l1;rw[zIT l1 l2 _ (by grind[zFy]),zDR x.1 x.2 l2 E (by grind)]
def runD:Env→List (Bool×Stp)→Env
 |E,[]=>E
 |E,(b,X)::l=>runD (if b then E.apps X.l else E) l
theorem zAq:∀(l1 l2:List (Bool×Stp))(E:Env),runD E (l1++l2)=runD (runD E l1) l2
 | [],_,_=>rfl
 |(b,X)::l1,l2,E=>by simp only[Hv,runD];exact zAq l1 l2 _
theorem zF0:∀(l:List (Bool×Stp))(X:Stp)(E:Env),(∀y∈l,y.1=dU→zFy X.l y.2.l=dU)→runD (E.apps X.l) l=(runD E l).apps X.l
 | [],_,_,_=>rfl
 |(b,Y)::l,X,E,h=>by
  simp only[runD];cases b with
  |false=>exact zF0 l X E (by grind)
  |true=>
   have:=h (dU,Y) (by simp) rfl;simp only[if_true];rw[zIT X.l Y.l E this];exact zF0 l X _ (by grind)
theorem zHt{s:Nat}:∀(l:zCM)(E:Env),s∉l.flatMap (fun x=>sC x.1)→ ∀t,(E.apps l) s=dS t→E s=dS t
 | [],_,_,_,h=>h
 |x::l,E,hs,t,h=>by
  simp only[Ln,Jv,not_or]at hs;have:=zHt l (E.app x.1 x.2) hs.2 t h
  grind[Env.app,zFz]
theorem zIU{s:Nat}{t:T}:∀(l:zCM)(E:Env),s∉l.flatMap (fun x=>sC x.1)→(∀y∈l,t.okB y.2=dU)→E s=dS t→(E.apps l) s=dS t
 | [],_,_,_,h=>h
 |x::l,E,hs,gP,h=>by
  simp only[Ln,Jv,not_or]at hs;refine zIU l (E.app x.1 x.2) hs.2 (by grind) ?_
  grind[Env.app,zFz]
theorem zIV{s:Nat}:∀(l:zCM)(E1 E2:Env),(∀t,E2 s=dS t→E1 s=dS t)→ ∀t,(E2.apps l) s=dS t→(E1.apps l) s=dS t
 | [],_,_,h,t,ht=>h t ht
 |x::l,E1,E2,h,t,ht=>by
  refine zIV l (E1.app x.1 x.2) (E2.app x.1 x.2) (fun u hu=>?_) t ht
  grind[Env.app]
theorem zIW{s:Nat}:∀(l:List (Bool×Stp))(E1 E2:Env),(∀y∈l,y.1=dV→s∉y.2.slots)→(∀t,E2 s=dS t→E1 s=dS t)→
  ∀t,runD E2 (l.map fun y=>(dU,y.2)) s=dS t→runD E1 l s=dS t
 | [],_,_,_,h,t,ht=>h t ht
 |(b,X)::l,E1,E2,hl,h,t,ht=>by
  simp only[Jl,runD,if_true]at ht ⊢
  refine zIW l _ _ (by grind) (fun u hu=>?_) t ht;cases b with
  |true=>grind[zIV]
  |false=>exact h u (zHt X.l E2 (hl (dV,X) (by simp) rfl) u hu)
theorem zIX{s:Nat}{t:T}:∀(l:List (Bool×Stp))(E:Env),(∀y∈l,y.1=dU→s∉y.2.slots∧ ∀z∈y.2.l,t.okB z.2=dU)→E s=dS t→runD E l s=dS t
 | [],_,_,h=>h
 |(b,X)::l,E,hl,h=>by
  simp only[runD];refine zIX l _ (fun y hy=>hl y (by simp[hy])) ?_;cases b with
  |false=>exact h
  |true=>obtain⟨h1,h2⟩:=hl (dU,X) (by simp) rfl;exact zIU X.l E h1 h2 h
theorem Env.Has.of{E E':Env}:{l:List (Nat×T)}→E.Has l→(∀s t,(s,t)∈l→E s=dS t→E' s=dS t)→E'.Has l
 | [],_,_=>trivial
 |(s,t)::l,h,h'=>⟨h' s t (by simp) h.1,Env.Has.of h.2 fun s t hm=>h' s t (by simp[hm])⟩
end Go.Ab

namespace Go.Ab
open Go
def zBN(o:Oper):List Nat:=(o.after.toList.filter (Region.binds .any)).map (·.on)
def zBr:Nat→List Oper→Bool
 |_,[]=>dU
 |i,o::os=>((zBN o).all fun m=>decide (m<i))&&zBr (i+1) os
def zAC(an:List (List Nat)):List (List Nat)→List Oper→Bool
 | [],_=>dU
 |_::_,[]=>dV
 |l::ls,o::os=>(l.all fun k=>(zBN o).contains k||(zBN o).any fun m=>(an.getD m []).contains k)&&zAC an ls os
def kE(Xs:List Stp):Nat→List (List Nat)→List Stp→Bool
 |_,_,[]=>dU
 |j,an,Y::Ys=>((Jn j).all fun i=>(an.headD []).contains i||match Xs[i]? with
   |some X=>X.apart Y
   |none=>dU)&&kE Xs (j+1) an.tail Ys
theorem zGD:∀(os:List Oper)(i0 j:Nat)(o:Oper),zBr i0 os=dU→os[j]? =dS o→ ∀m∈zBN o,m<i0+j
 | [],_,j,_,_,h=>by simp at h
 |x::os,i0,j,o,hf,h=>by
  simp only[zBr,J2]at hf;cases j with
  |zero=>
   grind
  |succ j=>
   intro m hm;have:=zGD os (i0+1) j o hf.2 (by grind) m hm;omega
theorem zKg(an:List (List Nat)):∀(ls:List (List Nat))(os:List Oper)(j:Nat)(l:List Nat),zAC an ls os=dU→ls[j]? =dS l→ ∃o,os[j]? =dS o∧ ∀k∈l,k∈zBN o∨ ∃m∈zBN o,k∈an.getD m []
 | [],_,j,_,_,h=>by simp at h
 |_::_,[],_,_,h,_=>by grind[zAC]
 |x::ls,o::os,j,l,ha,h=>by
  simp only[zAC,J2]at ha;cases j with
  |zero=>
   simp_all
  |succ j=>
   obtain⟨o',h1,h2⟩:=zKg an ls os j l ha.2 (by grind)
   grind
theorem zF1(Xs:List Stp):∀(Ys:List Stp)(j0:Nat)(an:List (List Nat))(j:Nat)(Y:Stp),kE Xs j0 an Ys=dU→Ys[j]? =dS Y→ ∀i X,i<j0+j→Xs[i]? =dS X→i∈an.getD j []∨X.apart Y=dU
 | [],_,_,j,_,_,h=>by simp at h
 |Z::Ys,j0,an,j,Y,hp,h=>by
  simp only[kE,J2]at hp;intro i X hi hX;cases j with
  |zero=>
   simp at h;subst h;have:=K3.1 hp.1 i (by grind);simp only[hX,Bool.or_eq_true,Lr,decide_eq_true_eq]at this;rcases this with h|h
   ·left
    cases an with
    |nil=>simp at h
    |cons l an=>grind
   grind
  |succ j=>
   rcases zF1 Xs Ys (j0+1) an.tail j Y hp.2 (by grind) i X (by omega) hX with h|h
   all_goals grind
section
variable {P:Program}{Γ:Ctx}{pn:tT}{ops:Array Oper}
def zRT(ops:Array Oper)(L:List Bool):Prop:=∀(i:Nat)(o:Oper),ops[i]? =dS o→L[i]? =dS dU→ ∀m∈zBN o,L[m]? =dS dU
theorem zHu{L:List Bool}{an:List (List Nat)}(hf:zBr 0 ops.toList=dU)(ha:zAC an an ops.toList=dU)(hc:zRT ops L):
  ∀(n i:Nat),i≤n→ ∀o,ops[i]? =dS o→(∀m∈zBN o,L[m]? =dS dU)→ ∀k∈an.getD i [],L[k]? =dS dU:=by
 intro n
 induction n with
 |zero=>
  intro i hi o ho hp k hk;have di:i=0:=by omega
  subst di;cases hl:an[0]? with
  |none=>grind
  |some l=>
   obtain⟨o',h1,h2⟩:=zKg an an ops.toList 0 l ha hl;rw[Kf,ho]at h1;simp at h1;subst h1;simp only[Ud,hl,H7]at hk;rcases h2 k hk with h|⟨m,h,_⟩
   ·grind
   ·have:=zGD ops.toList 0 0 o hf (by grind) m h
    omega
 |succ n ih=>
  intro i hi o ho hp k hk;cases hl:an[i]? with
  |none=>grind
  |some l=>
   obtain⟨o',h1,h2⟩:=zKg an an ops.toList i l ha hl;rw[Kf,ho]at h1;simp at h1;subst h1;simp only[Ud,hl,H7]at hk;rcases h2 k hk with h|⟨m,h,hkm⟩
   ·grind
   ·have gE:=zGD ops.toList 0 i o hf (by grind) m h
    have hLm:=hp m h;cases tp:ops[m]? with
    |none=>
     grind
    |some om=>exact ih m (by omega) om tp (hc m om tp hLm) k hkm
theorem zIY{L:List Bool}{Xs:List Stp}{i:Nat}{b:Bool}{X:Stp}(hL:L[i]? =dS b)(hX:Xs[i]? =dS X):L.zip Xs=(L.take i).zip (Xs.take i)++(b,X)::(L.drop (i+1)).zip (Xs.drop (i+1)):=by
 have h1:L=L.take i++b::L.drop (i+1):=by obtain⟨h,rfl⟩:=J9.1 hL;simp
 have h2:Xs=Xs.take i++X::Xs.drop (i+1):=by obtain⟨h,rfl⟩:=J9.1 hX;simp
 grind[List.zip_cons_cons]
theorem zKh{L:List Bool}{Xs:List Stp}{y:Bool×Stp}(h:y∈L.zip Xs):∃j:Nat,L[j]? =dS y.1∧Xs[j]? =dS y.2:=by grind[Uy,List.getElem?_zip_eq_some]
def sD:Env→List Stp→Prop
 |_,[]=>True
 |E,X::Xs=>E.Has X.rd∧sD (E.apps X.l) Xs
theorem sD.get:∀(Xs:List Stp)(E:Env),sD E Xs→ ∀(i:Nat)(X:Stp),Xs[i]? =dS X→(runD E ((Xs.take i).map fun y=>(dU,y))).Has X.rd
 | [],_,_,i,_,h=>by simp at h
 |Y::Xs,E,hh,i,X,h=>by
  cases i with
  |zero=>simp at h;subst h;simpa[runD]using hh.1
  |succ i=>
   have:=sD.get Xs _ hh.2 i X (by grind)
   grind[runD]
theorem Stp.apart_spec{a b:Stp}(h:a.apart b=dU):zFy a.l b.l=dU∧(∀s∈a.slots,s∉b.rd.map (·.1))∧(∀s∈b.slots,s∉a.rd.map (·.1))∧ ∀x∈a.rd,∀y∈b.l,x.2.okB y.2=dU:=by simp only[Stp.apart,J2]at h;refine⟨h.1.1.1,by grind[zHs],by grind[zHs],fun x hx y hy=>?_⟩;exact K3.1 (K3.1 h.2 x hx) y hy
mutual
theorem zGE:(t:T)→t.okB []=dU
 |.same _ _|.addr _ _|.sub _ _ _ _ _=>by rfl
 |.agg xs|.tup xs=>by simp only[T.okB];exact zLz xs
 |.any|.lit _|.ro _|.sl _ _|.ptr _=>by rfl
theorem zLz:(xs:List T)→zKX [] xs=dU
 | []=>by rfl
 |x::xs=>by simp only[zKX,zGE x,zLz xs,Kx]
end
theorem Rep.heap{E:Env}{G:Gh}{tmps:Array Value}{w w':World}(h:Rep Γ E G tmps w)(hw:w'.heap=w.heap)(ho:w'.os=w.os:=by rfl)(hq:w'.output=w.output:=by rfl):Rep Γ E G tmps w' where
 size:=h.size
 ent s t hs:=Ent.keep (chg:=[]) ⟨fun _ _ _=>rfl,fun _ _ _=>rfl,by grind[yH,World.cell?],fun _ _ _ h _=>h,fun b cs e h=>⟨cs,by grind,rfl⟩⟩ (by simp) (zGE t) (h.ent s t hs)
 mem:=by
  have hm:=h.mem;exact⟨hm.one,fun b o l hl=>by have:=hm.lb b o l hl;exact⟨by rw[hw];exact this.1,this.2⟩,fun b l hl=>by have:=hm.ow b l hl;exact⟨by rw[hw];exact this.1,this.2⟩,
   fun b x hx=>by rw[hw];exact hm.st b x hx,fun b h1 h2=>by rw[hw];exact hm.fr b h1 h2,by rw[hw];exact hm.sz,hm.bk.trans (fun b cs e hb=>⟨cs,by grind,rfl⟩) ho hq⟩
end
end Go.Ab

namespace Go.Ab
open Go
abbrev I(n:Int):T:=.lit (.int .i64 n)
abbrev B(b:Bool):T:=.lit (.bool b)
abbrev L{α:Type}(k:Nat)(f:α→T)(xs:List α):T:=.sl k (xs.map f)
theorem zM{P:Program}{t:TypeId}{ti:TypeInfo}(h:P.types[t]? =dS ti):P.info? t=dS ti:=by grind[Tables.info?]
def Ok(P:Program)(Γ:Ctx)(o:Oper)(E E':Env):Prop:=∀S,xM P (Γ.at S) o E E'
section
variable {P:Program}{Γ:Ctx}{pn:tT}{ops:Array Oper}{o:Oper}{os:List Oper}{E E':Env}{Q:Exit→Env→Prop}{d:Nat}
theorem RW.op(h:Ok P Γ o E E')(k:RW P Γ pn ops os E' Q)(hg:o.guard=dT:=by rfl)(hp:pn.ok o.dst=dU:=by rfl):RW P Γ pn ops (o::os) E Q:=RW.cons (yQ.op h hg) k hp
def neD(x:Operand)(d:Nat):Bool:=match x with
 |.tmp s=>s != d
 |_=>dU
theorem zEE{x:Operand}{d:Nat}(h:neD x d=dU):∀s,x=.tmp s→s≠d:=by rintro s rfl;grind[neD]
theorem zBO{t:T}(h:t.okTup=dU):∀xs,t≠.tup xs:=by rintro xs rfl;grind[T.okTup]
abbrev mvB(Γ:Ctx)(x:Operand)(t:T)(d:Nat):Bool:=J5 d Γ.N&&t.okTup&&neD x d&&T.okB [(d,0)] (uQ x t)
section
variable {x y:Operand}{t:T}{ty:TypeId}{ps:String}{af:Array Edge}{gd:Option (Nat×Bool)}
theorem zW{a b:Nat}(h:J5 a b=dU):a<b:=by grind[Nat.blt_eq]
theorem zNu(hx:opT E x=dS t)(sd:mvB Γ x t d=dU):Ok P Γ ⟨dS d,.move x,ty,ps,af,gd⟩ E (E.app [(d,dS (uQ x t))] [(d,0)]):=by simp only[mvB,J2]at sd;exact fun S=>zOE x t (.inl rfl) rfl (zW sd.1.1.1) hx (zBO sd.1.1.2) (zEE sd.1.2) sd.2
theorem zVq(hx:opT E x=dS t)(sd:mvB Γ x t d=dU):Ok P Γ ⟨dS d,.assign x,ty,ps,af,gd⟩ E (E.app [(d,dS (uQ x t))] [(d,0)]):=by simp only[mvB,J2]at sd;exact fun S=>zOE x t (.inr rfl) rfl (zW sd.1.1.1) hx (zBO sd.1.1.2) (zEE sd.1.2) sd.2
def inR(n:Int):Bool:=decide (-9223372036854775808≤n)&&decide (n≤9223372036854775807)
theorem zAT{n:Int}(h:inR n=dU):IntKind.i64.wrap n=n:=by
 simp only[inR,J2,decide_eq_true_eq]at h;have hb:IntKind.i64.bits=64:=rfl;have hs:IntKind.i64.signed=dU:=rfl;simp only[IntKind.wrap,hb,hs,Bool.true_and]
 grind
def rng(n:Int):Option Int:=if inR n then dS n else dT
theorem zCN{n m:Int}(h:rng n=dS m):m=n∧inR n=dU:=by grind[rng]
theorem zRU{m n c:Int}{xt yt:TypeId}(hv:rng (m+n)=dS c)(hx:opT E x=dS (I m))(hy:opT E y=dS (I n))(sd:J5 d Γ.N=dU):Ok P Γ ⟨dS d,.binOp .add xt x y yt,ty,ps,af,gd⟩ E (E.app [(d,dS (I c))] [(d,0)]):=by obtain⟨rfl,h⟩:=zCN hv;exact fun S=>vX .add xt yt x y .i64 m n _ rfl rfl (zW sd) hx hy (by grind[zJQ,zAT])
theorem zX0{m n:Int}{xt yt:TypeId}(hx:opT E x=dS (I m))(hy:opT E y=dS (I n))(sd:J5 d Γ.N=dU):Ok P Γ ⟨dS d,.binOp .lss xt x y yt,ty,ps,af,gd⟩ E (E.app [(d,dS (B (decide (m<n))))] [(d,0)]):=
 fun _S=>vX .lss xt yt x y .i64 m n _ rfl rfl (zW sd) hx hy rfl
theorem zA9(k:Nat)(sd:J5 d Γ.N=dU):Ok P Γ ⟨dS d,.assign (.const (.slice dT 0 0)),ty,ps,af,gd⟩ E (E.app [(d,dS (.sl k []))] [(d,0)]):=
 fun _=>zLe k _ (.inr rfl) rfl rfl (zW sd)
def zV(n:Int):Option Nat:=if 0≤n∧n≤68719476736 then dS n.toNat else dT
theorem zHv{n:Int}{m:Nat}(h:zV n=dS m):n=(m:Int)∧m≤68719476736:=by grind[zV]
class ElT (P:Program) (t:TypeId) (e:outParam TypeId) (ti:outParam TypeInfo) (k:outParam Nat) (u:outParam T):Prop where
 un:P.underlying t=dS (.slice e)
 info:P.info? e=dS ti
 zero:∃z,ti.zero=dS z∧tL u=z.cells.toList
 size:ti.size=k
 pos:0<k
 zok:u.zOk=dU
 us:u.size=k
 bytes:ti.bytes≤2048
theorem zRV{t e:TypeId}{ti:TypeInfo}{k:Nat}{u:T}{n m:Nat}{a b:Int}(ht:ElT P t e ti k u)(hn:zV a=dS n)(hx:opT E x=dS (I a))(hm:zV b=dS m)(hy:opT E y=dS (I b))(c0:n≤m)(sd:J5 d Γ.N=dU):
  Ok P Γ ⟨dS d,.makeSlice t x y,ty,ps,af,gd⟩ E (E.app [(d,dS (.sl k (J1 n u)))] [(d,0)]):=by
 obtain⟨rfl,h1⟩:=zHv hn;obtain⟨rfl,h2⟩:=zHv hm;obtain⟨z,hz,hv⟩:=ht.zero;exact fun S=>zVl t e ti z u k x y n m .i64 .i64 rfl rfl (zW sd) ht.un ht.info hz ht.size ht.pos ht.zok hv ht.us (Ht ht.bytes (by decide)) hx hy c0 h2
end
end
end Go.Ab

namespace Go.Ab
open Go
def ixO{α:Type}(xs:List α)(i:Int):Option α:=if 0≤i then xs[i.toNat]? else dT
theorem vD{α:Type}{xs:List α}{i:Int}{v:α}(h:ixO xs i=dS v):0≤i∧xs[i.toNat]? =dS v:=by grind[ixO]
def zAD:T→Bool
 |.same _ _=>dV
 |_=>dU
theorem zAE{E:Env}{s r:Nat}{q:List Nat}{t u:T}(h1:E s=dS (.same r q))(h2:E r=dS t)(h3:t.get q.reverse=dS u)(h4:zAD u=dU):uT E (.tmp s)=dS (r,q,u):=by
 have hg:∀t:T,t.get []=dS t:=fun t=>by rfl
 grind[zAD,uT,qA]
theorem jO{E:Env}{s:Nat}{t:T}(h1:E s=dS t)(h4:zAD t=dU):uT E (.tmp s)=dS (s,[],t):=by
 have hg:∀t:T,t.get []=dS t:=fun t=>by rfl
 grind[zAD,uT,qA]
section
variable {P:Program}{Γ:Ctx}{E:Env}{d:Nat}{x y:Operand}{ty:TypeId}{ps:String}{af:Array Edge}{gd:Option (Nat×Bool)}
class zBk (P:Program) (t:TypeId) (e:outParam TypeId) (ti:outParam TypeInfo) (k:outParam Nat):Prop where
 un:P.underlying t=dS (.slice e)
 info:P.info? e=dS ti
 size:ti.size=k
theorem yAq{α:Type}{t e:TypeId}{ti:TypeInfo}{r k:Nat}{q:List Nat}{f:α→T}{xs:List α}{v:α}{i:Int}(ht:zBk P t e ti k)(hv:ixO xs i=dS v)(hx:uT E x=dS (r,q,L k f xs))(hy:opT E y=dS (I i))(sd:J5 d Γ.N=dU):
  Ok P Γ ⟨dS d,.indexAddr t x y,ty,ps,af,gd⟩ E (E.app [(d,dS (.addr r (i.toNat::q)))] [(d,0)]):=by
 obtain⟨h1,h2⟩:=vD hv;exact fun S=>zR1 x y t e ti r q k _ .i64 i rfl rfl (zW sd) ht.un ht.info ht.size hx hy h1 (by grind)
theorem zX1{α:Type}{t e:TypeId}{ti:TypeInfo}{r k:Nat}{q:List Nat}{f:α→T}{xs:List α}{v:α}{i:Int}(ht:zBk P t e ti k)(hv:ixO xs i=dS v)(hx:uT E x=dS (r,q,.ro (L k f xs)))(hy:opT E y=dS (I i))(sd:J5 d Γ.N=dU):
  Ok P Γ ⟨dS d,.indexAddr t x y,ty,ps,af,gd⟩ E (E.app [(d,dS (.ro (.ptr (f v))))] [(d,0)]):=by
 obtain⟨h1,h2⟩:=vD hv;exact fun S=>zR2 x y t e ti r q k _ .i64 i _ rfl rfl (zW sd) ht.un ht.info ht.size hx hy h1 (by simp[h2])
theorem zX2{α:Type}{t e:TypeId}{r k:Nat}{q:List Nat}{f:α→T}{xs:List α}(hu:P.underlying t=dS (.slice e))(hx:uT E x=dS (r,q,L k f xs))(sd:J5 d Γ.N=dU):
  Ok P Γ ⟨dS d,.call { callee:=.builtin .len,args:=#[x],argTypes:=#[t] },ty,ps,af,gd⟩ E (E.app [(d,dS (I xs.length))] [(d,0)]):=
 fun _=>zR0 x t _ r q (L k f xs) xs.length rfl rfl (zW sd) hu hx (by simp[zKY]) rfl
theorem zRW{α:Type}{t e:TypeId}{r k:Nat}{q:List Nat}{f:α→T}{xs:List α}(hu:P.underlying t=dS (.slice e))(hx:uT E x=dS (r,q,.ro (L k f xs)))(sd:J5 d Γ.N=dU):
  Ok P Γ ⟨dS d,.call { callee:=.builtin .len,args:=#[x],argTypes:=#[t] },ty,ps,af,gd⟩ E (E.app [(d,dS (I xs.length))] [(d,0)]):=
 fun _=>zR0 x t _ r q (.ro (L k f xs)) xs.length rfl rfl (zW sd) hu hx (by simp[zKY]) rfl
structure zRX (P:Program) (t:TypeId) (u:T):Prop where
 h:∃ds ti,P.underlying t=dS ds∧P.info? t=dS ti∧zFq ds= !u.single∧ti.size=u.size
theorem yAr{t:TypeId}{u:T}(ht:zRX P t u)(hx:opT E x=dS (.ro (.ptr u)))(sd:J5 d Γ.N=dU):Ok P Γ ⟨dS d,.load t x,ty,ps,af,gd⟩ E (E.app [(d,dS (roT u))] [(d,0)]):=by obtain⟨ds,ti,h1,h2,h3,h4⟩:=ht.h;exact fun S=>zNm x t ds ti u rfl rfl (zW sd) h1 h2 h3 h4 hx
theorem yAs{t:TypeId}{u tr:T}{r:Nat}{q:List Nat}(ht:zRX P t u)(hx:opT E x=dS (.addr r q))(hr:E r=dS tr)(hg:tr.get q.reverse=dS u)(sd:(J5 d Γ.N&&tr.locd q.reverse&&(r != d)&&T.okB [(d,0)] (cpT r u q))=dU):
  Ok P Γ ⟨dS d,.load t x,ty,ps,af,gd⟩ E (E.app [(d,dS (cpT r u q))] [(d,0)]):=by
 obtain⟨ds,ti,h1,h2,h3,h4⟩:=ht.h;simp only[J2]at sd;exact fun S=>zVk x t ds ti r q tr u rfl rfl (zW sd.1.1.1) h1 h2 h3 h4 hx hr hg sd.1.1.2 (by grind) sd.2
end
end Go.Ab

namespace Go.Ab
open Go
section
variable {P:Program}{Γ:Ctx}{E:Env}{x:Operand}{ty:TypeId}{ps:String}{af:Array Edge}{gd:Option (Nat×Bool)}
theorem yDd{t:TypeId}{ti:TypeInfo}{r s:Nat}{q:List Nat}{tr tr' u0:T}{v:Value}(hi:P.info? t=dS ti)(gv:ti.size=1)(hx:opT E x=dS (.addr r q))(hr:E r=dS tr)(hg:tr.get q.reverse=dS u0)(gx:tr.set q.reverse (.lit v)=tr')(hy:E s=dS (.lit v))
  (sd:(tr.single&&tr.locd q.reverse&&wX (.lit v) u0&&(r != s))=dU):Ok P Γ ⟨dT,.store t x (.tmp s),ty,ps,af,gd⟩ E (E.app [(r,dS tr')] [(r,q.length)]):=by
 simp only[J2]at sd;subst gx;intro S;have:=zLi (P:=P) (Γ:=Γ.at S) (E:=E) (o:=⟨dT,.store t x (.tmp s),ty,ps,af,gd⟩) t ti x (.tmp s) r q tr u0 (.slot s (.lit v)) rfl rfl hi (by rw[gv];rfl) (by omega) hx hr sd.1.1.1 hg sd.1.1.2 sd.1.2 (.slot s _)
  ⟨fun s' t' h=>by simp at h;obtain⟨rfl,rfl⟩:=h;exact⟨hy,by simp[zQ,yN],rfl⟩,by simp,by simp[xE,tR]⟩
 exact this
theorem yAt{t:TypeId}{ti:TypeInfo}{r:Nat}{q:List Nat}{tr tr' u0:T}{v:Value}(hi:P.info? t=dS ti)(gv:ti.size=1)(hx:opT E x=dS (.addr r q))(hr:E r=dS tr)(hg:tr.get q.reverse=dS u0)(gx:tr.set q.reverse (.lit v)=tr')
  (sd:(tr.single&&tr.locd q.reverse&&wX (.lit v) u0&&(T.lit v).zOk)=dU)(hz:tL (.lit v)=v.cells.toList):Ok P Γ ⟨dT,.store t x (.const v),ty,ps,af,gd⟩ E (E.app [(r,dS tr')] [(r,q.length)]):=by
 simp only[J2]at sd;subst gx;intro S;have:=zLi (P:=P) (Γ:=Γ.at S) (E:=E) (o:=⟨dT,.store t x (.const v),ty,ps,af,gd⟩) t ti x (.const v) r q tr u0 (.zero (.lit v)) rfl rfl hi (by rw[gv];rfl) (by omega) hx hr sd.1.1.1 hg sd.1.1.2 sd.1.2 (.zero v _ hz)
  ⟨by simp,by grind,by simp[xE]⟩
 exact this
end
end Go.Ab

namespace Go.Ab
open Go
theorem zK.tr{Γ:Ctx}{E:Env}(d r:Nat)(u:T)(hd:E d=dS (.same r []))(hr:E r=dS u)(eH:zQ u)(sd:(u.single&&xU u&&u.okB [(d,1),(r,1)]&&(d != r))=dU):
  zK Γ E (E.app [(d,dS u),(r,dS (.same d []))] [(d,1),(r,1)]):=by
 simp only[J2]at sd
 rintro a w ⟨S,hS,hs⟩
 have gc:d≠r:=by grind
 have hg:∀t:T,t.get []=dS t:=fun t=>by rfl
 have:=zNq hs d [] r [] (.same r []) u u hd rfl hr (hg u) sd.1.1.1 eH gc (by simp[T.okB,zA7]) sd.1.2 rfl sd.1.1.2;exact⟨S,hS,this⟩
theorem kF{α:Type}{f:α→T}(hf:∀x,zQ (f x)):(xs:List α)→yK (xs.map f)
 | []=>trivial
 |x::xs=>⟨hf x,kF hf xs⟩
theorem zOW{α:Type}{f:α→T}{k:Nat}{xs:List α}(hf:∀x,zQ (f x)):zQ (L k f xs):=by simp only[zQ,yN];grind[kF]
theorem zOX(n:Int):zQ (I n):=by simp[zQ,yN]
theorem zVr(b:Bool):zQ (B b):=by simp[zQ,yN]
end Go.Ab

namespace Go.Ab
open Go
section
variable {P:Program}{Γ:Ctx}{E:Env}{d:Nat}{x y:Operand}{ty:TypeId}{ps:String}{af:Array Edge}{gd:Option (Nat×Bool)}{m n c:Int}{xt yt:TypeId}
theorem zX3(hv:rng (m-n)=dS c)(hx:opT E x=dS (I m))(hy:opT E y=dS (I n))(sd:J5 d Γ.N=dU):Ok P Γ ⟨dS d,.binOp .sub xt x y yt,ty,ps,af,gd⟩ E (E.app [(d,dS (I c))] [(d,0)]):=by obtain⟨rfl,h⟩:=zCN hv;exact fun _=>vX .sub xt yt x y .i64 m n _ rfl rfl (zW sd) hx hy (by grind[zJQ,zAT])
theorem yAu(hv:rng (m*n)=dS c)(hx:opT E x=dS (I m))(hy:opT E y=dS (I n))(sd:J5 d Γ.N=dU):Ok P Γ ⟨dS d,.binOp .mul xt x y yt,ty,ps,af,gd⟩ E (E.app [(d,dS (I c))] [(d,0)]):=by obtain⟨rfl,h⟩:=zCN hv;exact fun _=>vX .mul xt yt x y .i64 m n _ rfl rfl (zW sd) hx hy (by grind[zJQ,zAT])
def xC(m n:Int):Option Int:=if n=0 then dT else rng (m.tdiv n)
def yL(m n:Int):Option Int:=if n=0 then dT else dS (m.tmod n)
theorem yAv(hv:xC m n=dS c)(hx:opT E x=dS (I m))(hy:opT E y=dS (I n))(sd:J5 d Γ.N=dU):Ok P Γ ⟨dS d,.binOp .quo xt x y yt,ty,ps,af,gd⟩ E (E.app [(d,dS (I c))] [(d,0)]):=by
 unfold xC at hv;split at hv
 ·cases hv
 ·rename_i h0
  obtain⟨rfl,h⟩:=zCN hv;exact fun _=>vX .quo xt yt x y .i64 m n _ rfl rfl (zW sd) hx hy (by simp only[zJQ,h0,if_false,zAT h])
theorem yAw(hv:yL m n=dS c)(hx:opT E x=dS (I m))(hy:opT E y=dS (I n))(sd:J5 d Γ.N=dU):Ok P Γ ⟨dS d,.binOp .rem xt x y yt,ty,ps,af,gd⟩ E (E.app [(d,dS (I c))] [(d,0)]):=by
 unfold yL at hv;split at hv
 ·cases hv
 ·rename_i h0
  simp at hv;subst hv;exact fun _=>vX .rem xt yt x y .i64 m n _ rfl rfl (zW sd) hx hy (by simp only[zJQ,h0,if_false])
theorem yAx(hx:opT E x=dS (I m))(hy:opT E y=dS (I n))(sd:J5 d Γ.N=dU):Ok P Γ ⟨dS d,.binOp .leq xt x y yt,ty,ps,af,gd⟩ E (E.app [(d,dS (B (decide (m≤n))))] [(d,0)]):=
 fun _=>vX .leq xt yt x y .i64 m n _ rfl rfl (zW sd) hx hy rfl
theorem zX4(hx:opT E x=dS (I m))(hy:opT E y=dS (I n))(sd:J5 d Γ.N=dU):Ok P Γ ⟨dS d,.binOp .gtr xt x y yt,ty,ps,af,gd⟩ E (E.app [(d,dS (B (decide (m> n))))] [(d,0)]):=
 fun _=>vX .gtr xt yt x y .i64 m n _ rfl rfl (zW sd) hx hy rfl
theorem yAy(hx:opT E x=dS (I m))(hy:opT E y=dS (I n))(sd:J5 d Γ.N=dU):Ok P Γ ⟨dS d,.binOp .geq xt x y yt,ty,ps,af,gd⟩ E (E.app [(d,dS (B (decide (m≥n))))] [(d,0)]):=
 fun _=>vX .geq xt yt x y .i64 m n _ rfl rfl (zW sd) hx hy rfl
theorem yAz(hx:opT E x=dS (I m))(hy:opT E y=dS (I n))(sd:J5 d Γ.N=dU):Ok P Γ ⟨dS d,.binOp .eql xt x y yt,ty,ps,af,gd⟩ E (E.app [(d,dS (B (m==n)))] [(d,0)]):=
 fun _=>vX .eql xt yt x y .i64 m n _ rfl rfl (zW sd) hx hy rfl
theorem zRY(hx:opT E x=dS (I m))(hy:opT E y=dS (I n))(sd:J5 d Γ.N=dU):Ok P Γ ⟨dS d,.binOp .neq xt x y yt,ty,ps,af,gd⟩ E (E.app [(d,dS (B (m != n)))] [(d,0)]):=
 fun _=>vX .neq xt yt x y .i64 m n _ rfl rfl (zW sd) hx hy rfl
theorem zBP{b:Bool}(hx:opT E x=dS (B b))(sd:J5 d Γ.N=dU):Ok P Γ ⟨dS d,.unOp .not xt x,ty,ps,af,gd⟩ E (E.app [(d,dS (B (!b)))] [(d,0)]):=
 fun _=>zYk xt x b rfl rfl (zW sd) hx
theorem zX5(hv:rng (0-n)=dS c)(hx:opT E x=dS (I n))(sd:J5 d Γ.N=dU):Ok P Γ ⟨dS d,.unOp .neg xt x,ty,ps,af,gd⟩ E (E.app [(d,dS (I c))] [(d,0)]):=by
 obtain⟨rfl,h⟩:=zCN hv;have:=fun S=>zYl (P:=P) (Γ:=Γ.at S) (E:=E) (o:=⟨dS d,.unOp .neg xt x,ty,ps,af,gd⟩) xt x .i64 n rfl rfl (zW sd) hx
 rw[zAT h]at this;exact this
end
end Go.Ab

namespace Go.Ab
open Go
section
variable {P:Program}{Γ:Ctx}{E:Env}{d:Nat}{x y:Operand}{ty:TypeId}{ps:String}{af:Array Edge}{gd:Option (Nat×Bool)}
class zKi (P:Program) (t:TypeId) (u:outParam T):Prop where
 h:∃ti z,P.info? t=dS ti∧ti.zero=dS z∧u.zOk=dU∧tL u=z.cells.toList∧z.cells.size=u.size
theorem zOY{t:TypeId}{u:T}(ht:zKi P t u)(sd:J5 d Γ.N=dU):Ok P Γ ⟨dS d,.alloc t,ty,ps,af,gd⟩ E (E.app [(d,dS (.ptr u))] [(d,0)]):=by obtain⟨ti,z,h1,h2,h3,h4,h5⟩:=ht.h;exact fun S=>zRB t ti z u rfl rfl (zW sd) h1 h2 h3 h4 h5
theorem zX6{s i:Nat}{ts:List T}{t:T}(hs:E s=dS (.tup ts))(hi:ts[i]? =dS t)(sd:(J5 d Γ.N&&t.okTup&&(s != d)&&T.okB [(d,0)] (cpT s t [i]))=dU):
  Ok P Γ ⟨dS d,.extract (.tmp s) i,ty,ps,af,gd⟩ E (E.app [(d,dS (cpT s t [i]))] [(d,0)]):=by
 simp only[J2]at sd;exact fun S=>zNn s i ts t rfl rfl (zW sd.1.1.1) hs hi (zBO sd.1.1.2) (by grind) sd.2
theorem zAU{t:T}(hx:opT E x=dS t)(hp:zGb E x=dU)(sd:mvB Γ x t d=dU):Ok P Γ ⟨dS d,.nilCheck x,ty,ps,af,gd⟩ E (E.app [(d,dS (uQ x t))] [(d,0)]):=by simp only[mvB,J2]at sd;exact fun S=>zYm x t rfl rfl (zW sd.1.1.1) hx hp (zBO sd.1.1.2) (zEE sd.1.2) sd.2
theorem zNv{c:Operand}{b:Bool}{t:T}(hc:opT E c=dS (B b))(hx:opT E (if b then x else y)=dS t)(sd:mvB Γ (if b then x else y) t d=dU):Ok P Γ ⟨dS d,.pick c x y,ty,ps,af,gd⟩ E (E.app [(d,dS (uQ (if b then x else y) t))] [(d,0)]):=by simp only[mvB,J2]at sd;exact fun S=>zVi c x y b t rfl rfl (zW sd.1.1.1) hc hx (zBO sd.1.1.2) (zEE sd.1.2) sd.2
theorem zX7{t:TypeId}{s:Nat}{u:T}(hs:E s=dS u)(hu:zQ u)(sd:(J5 d Γ.N&&u.okTup&&(s != d))=dU):
  Ok P Γ ⟨dS d,.box t (.tmp s),ty,ps,af,gd⟩ E (E.app ((d,dS (.ptr u))::pWr d [.slot s u] 0) ((d,0)::tO [.slot s u])):=by
 simp only[J2]at sd;have gc:s≠d:=by grind
 refine fun S=>zYo t (.tmp s) (.slot s u) rfl rfl (zW sd.1.1) (.slot s u) ⟨by grind,by simp,?_⟩
 simp only[xE]
 grind
end
end Go.Ab

namespace Go.Ab
open Go
def zX{α:Type}(xs ys:List α):Option (List α):=if xs.length+ys.length≤68719476736 then dS (xs++ys)else dT
theorem zF2{α:Type}{xs ys zs:List α}(h:zX xs ys=dS zs):zs=xs++ys∧xs.length+ys.length≤68719476736:=by grind[zX]
section
variable {P:Program}{Γ:Ctx}{E:Env}{d:Nat}{x y:Operand}{ty:TypeId}{ps:String}{af:Array Edge}{gd:Option (Nat×Bool)}
theorem ElT.zsize{t e:TypeId}{ti:TypeInfo}{k:Nat}{u:T}(h:ElT P t e ti k u):∃z,ti.zero=dS z∧z.cells.size=k:=by obtain⟨z,h1,h2⟩:=h.zero;exact⟨z,h1,by rw[←K7,←h2,vA u h.zok,h.us]⟩
theorem zYp{α:Type}{t e:TypeId}{ti:TypeInfo}{k:Nat}{u:T}{f:α→T}{xs ys zs:List α}{s0 s1:Nat}(ht:ElT P t e ti k u)(hv:zX xs ys=dS zs)(h0:E s0=dS (L k f xs))(h1:E s1=dS (L k f ys))(sd:(J5 d Γ.N&&(s0 != d)&&(s1 != d)&&(s1 != s0))=dU):
  Ok P Γ ⟨dS d,.call { callee:=.builtin .append,args:=#[.tmp s0,.tmp s1],argTypes:=#[t,t] },ty,ps,af,gd⟩ E (E.app [(d,dS (L k f zs)),(s0,dS .any),(s1,dS .any)] [(d,0),(s0,1),(s1,1)]):=by
 obtain⟨rfl,hl⟩:=zF2 hv;obtain⟨z,hz,fw⟩:=ht.zsize;simp only[J2]at sd;intro S;have:=zJZ (P:=P) (Γ:=Γ.at S) (E:=E) (o:=⟨dS d,.call { callee:=.builtin .append,args:=#[.tmp s0,.tmp s1],argTypes:=#[t,t] },ty,ps,af,gd⟩) t e ti z k s0 s1 (xs.map f) (ys.map f) rfl rfl (zW sd.1.1.1) ht.un ht.info hz ht.size ht.pos fw ht.bytes h0 h1
  (by grind) (by grind) (by grind) (by grind)
 rw[←H1]at this;exact this
theorem zIZ{α:Type}{f:α→T}(hf:∀x,(f x).flat=dU):(xs:List α)→zA8 (xs.map f)=dU
 | []=>rfl
 |x::xs=>by simp only[Jl,zA8,hf x,zIZ hf xs,Kx]
theorem zYq{α:Type}{t e:TypeId}{ti:TypeInfo}{k r:Nat}{q:List Nat}{u:T}{f:α→T}{xs ys zs:List α}{s0:Nat}(ht:ElT P t e ti k u)(hf:∀x,(f x).flat=dU)(hv:zX xs ys=dS zs)(h0:E s0=dS (L k f xs))(h1:uT E y=dS (r,q,L k f ys))(sd:(J5 d Γ.N&&(s0 != d))=dU):
  Ok P Γ ⟨dS d,.call { callee:=.builtin .append,args:=#[.tmp s0,y],argTypes:=#[t,t] },ty,ps,af,gd⟩ E (E.app [(d,dS (L k f zs)),(s0,dS .any)] [(d,0),(s0,1)]):=by
 obtain⟨rfl,hl⟩:=zF2 hv;obtain⟨z,hz,fw⟩:=ht.zsize;simp only[J2]at sd;intro S;have:=zKa (P:=P) (Γ:=Γ.at S) (E:=E) (o:=⟨dS d,.call { callee:=.builtin .append,args:=#[.tmp s0,y],argTypes:=#[t,t] },ty,ps,af,gd⟩) t e ti z k s0 y r q (xs.map f) (ys.map f) rfl rfl (zW sd.1) ht.un ht.info hz ht.size ht.pos fw ht.bytes h0 h1 (zIZ hf ys)
  (by grind) (by grind)
 rw[←H1]at this;exact this
end
end Go.Ab

namespace Go.Ab
open Go
abbrev IK(k:IntKind)(n:Int):T:=.lit (.int k n)
abbrev Str(s:ByteArray):T:=.lit (.string s)
abbrev Pt{α:Type}(f:α→T)(x:α):T:=.ptr (f x)
abbrev Ro{α:Type}(f:α→T)(x:α):T:=.ro (f x)
abbrev A2{α:Type}(f:α→T)(x:α×α):T:=.agg [f x.1,f x.2]
theorem bd{α β:Type}{o:Option α}{f:α→Option β}{r:β}(h:o.bind f=dS r):∃v,o=dS v∧f v=dS r:=by
 cases o with
 |none=>simp at h
 |some v=>grind
theorem cT{α:Type}{b:Bool}{x y:α}{z:α}(hc:b=dU)(h:cond b x y=z):x=z:=by grind
theorem cF{α:Type}{b:Bool}{x y:α}{z:α}(hc:b=dV)(h:cond b x y=z):y=z:=by grind
theorem sI{α:Type}{x y:α}(h:dS x=dS y):x=y:=Lh.inj h
section
variable {P:Program}{Γ:Ctx}{pn:tT}{E E':Env}{Q:Exit→Env→Prop}{c:Code}{id id':Nat}
theorem nA(h:CW P Γ pn c E Q):zU P Γ pn c Q .normal E:=h
theorem xA(h:Q (.exit id) E):zU P Γ pn c Q (.exit id) E:=h
theorem rA(h:Q .ret E):zU P Γ pn c Q .ret E:=h
theorem nB(h:Q .normal E):zY id Q .normal E:=h
theorem rB(h:Q .ret E):zY id Q .ret E:=h
theorem xB(h:Q .normal E):zY id Q (.exit id) E:=by simp only[zY,if_true];exact h
theorem neX:Exit.exit id≠.normal:=by simp
theorem neR:Exit.ret≠.normal:=by simp
theorem RW.cases{ops:Array Oper}{os:List Oper}(s:Nat)(b:Bool)(hb:E s=dS (B b))(ht:b=dU→RW P Γ pn ops os (E.app [(s,dS (B dU))] []) Q)(hf:b=dV→RW P Γ pn ops os (E.app [(s,dS (B dV))] []) Q):RW P Γ pn ops os E Q:=by
 have key:∀c:Bool,b=c→zK Γ E (E.app [(s,dS (B c))] []):=by
  rintro c rfl a w hs
  refine hs.weaken fun s' t h=>?_
  by_cases e:s=s'
  ·grind[Env.app,Wr.find]
  ·simp only[Env.app,Wr.find,e,if_false]at h
   grind
 cases hc:b with
 |true=>grind[ghost]
 |false=>grind[ghost]
end
theorem zO{α:Type}{k:Nat}{f:α→T}{xs:List α}{i:Int}{v:α}{p:List Nat}{u:T}(h:ixO xs i=dS v)(hr:(f v).get p=dS u):(L k f xs).get (i.toNat::p)=dS u:=by simp[T.get,(vD h).2,hr]
theorem xH{t u:T}{p:List Nat}(h:t.get p=dS u):(T.ptr t).get (0::p)=dS u:=h
theorem xI{xs:List T}{x u:T}{j:Nat}{p:List Nat}(hj:xs[j]? =dS x)(h:x.get p=dS u):(T.agg xs).get (j::p)=dS u:=by grind[T.get]
theorem zGx{α:Type}{k:Nat}{f:α→T}{xs:List α}{i:Int}{v w:α}{p:List Nat}{u:T}(h:ixO xs i=dS v)(hr:(f v).set p u=f w):(L k f xs).set (i.toNat::p) u=L k f (xs.set i.toNat w):=by simp[L,T.set,(vD h).2,hr,Qk]
theorem zDF{t u t':T}{p:List Nat}(h:t.set p u=t'):(T.ptr t).set (0::p) u=T.ptr t':=by simp[T.set,h]
class Enc {α:Type} (f:α→T):Prop where
 clean:∀x,zQ (f x)
 rofree:∀x,wK (f x)=dU
 strip:∀x,strip (f x)=f x
 okTup:∀x,(f x).okTup=dU
 rook:∀x,zFv (f x)=dU
theorem zHw{α:Type}{f:α→T}(h:∀x,wK (f x)=dU):(xs:List α)→vB (xs.map f)=dU
 | []=>rfl
 |x::xs=>by simp only[Jl,vB,h x,zHw h xs,Kx]
theorem zHx{α:Type}{f:α→T}(h:∀x,zFv (f x)=dU):(xs:List α)→zBJ (xs.map f)=dU
 | []=>rfl
 |x::xs=>by simp only[Jl,zBJ,h x,zHx h xs,Kx]
theorem uU{α:Type}{f g:α→T}(h:∀x,strip (f x)=g x):(xs:List α)→wB (xs.map f)=xs.map g
 | []=>rfl
 |x::xs=>by simp only[Jl,wB,h x,uU h xs]
instance:Enc I:=⟨zOX,fun _=>rfl,fun _=>rfl,fun _=>rfl,fun _=>rfl⟩
instance:Enc B:=⟨zVr,fun _=>rfl,fun _=>rfl,fun _=>rfl,fun _=>rfl⟩
instance{k:IntKind}:Enc (IK k):=⟨fun _=>by simp[zQ,yN],fun _=>rfl,fun _=>rfl,fun _=>rfl,fun _=>rfl⟩
instance:Enc Str:=⟨fun _=>by simp[zQ,yN],fun _=>rfl,fun _=>rfl,fun _=>rfl,fun _=>rfl⟩
instance{α:Type}{k:Nat}{f:α→T}[h:Enc f]:Enc (L k f):=
 ⟨fun _=>zOW h.clean,fun xs=>by simp only[wK];exact zHw h.rofree xs,fun xs=>by simp only[L,strip,uU h.strip xs],fun _=>rfl,fun xs=>by simp only[zFv,zHx h.rook xs]⟩
instance{α:Type}{f:α→T}[h:Enc f]:Enc (A2 f):=
 ⟨fun x=>by simp only[zQ,yN,xF];exact⟨h.clean _,h.clean _,trivial⟩,fun x=>by simp only[wK,vB,h.rofree,Kx],fun x=>by simp only[A2,strip,wB,h.strip],
  fun x=>by simp only[T.okTup,yE,h.okTup,Kx],fun x=>by simp only[zFv,zBJ,h.rook,Kx]⟩
instance{α:Type}{f:α→T}[h:Enc f]:Enc (Pt f):=
 ⟨fun x=>by simp only[zQ,yN];exact h.clean x,fun x=>by simp only[wK,h.rofree],fun x=>by simp only[Pt,strip,h.strip],fun _=>rfl,fun x=>by simp only[zFv,h.rook]⟩
class vQ {α:Type} (f g:α→T):Prop where
 h:∀x,strip (f x)=g x
instance{α:Type}{f:α→T}[h:Enc f]:vQ f f:=⟨h.strip⟩
instance{α:Type}{k:Nat}{f g:α→T}[h:vQ f g]:vQ (L k f) (L k g):=⟨fun xs=>by simp only[L,strip,uU h.h xs]⟩
instance{α:Type}{k:Nat}{g:α→T}:vQ (Ro (L k g)) (L k g):=⟨fun _=>rfl⟩
instance{α:Type}{g:α→T}:vQ (Ro (Pt g)) (Pt g):=⟨fun _=>rfl⟩
theorem stA{xs ys:List T}(h:wB xs=ys):strip (.agg xs)=.agg ys:=by grind[strip]
theorem stC{x y:T}{xs ys:List T}(h:strip x=y)(h2:wB xs=ys):wB (x::xs)=y::ys:=by grind[wB]
section
variable {E:Env}{rw:Rw}{i s r:Nat}{q:List Nat}{x:Operand}
theorem zQh{α:Type}{k:Nat}{f g:α→T}{xs:List α}(h:vQ f g):clo E (L k f xs)=.ro (L k g xs):=by simp only[clo,L,strip,uU h.h xs]
theorem zRZ{t u:T}(h:strip t=u):clo E (.ptr t)=.ro (.ptr u):=by grind[clo,strip]
theorem zDs{tr u:T}(hr:E r=dS tr)(hg:tr.get q.reverse=dS u)(h4:zAD u=dU):qA E 4 r q=dS (r,q,u):=by grind[zAD,qA]
theorem zNw{α:Type}{k:Nat}{f g:α→T}{xs:List α}{tr:T}(hr:E r=dS tr)(hg:tr.get q.reverse=dS (L k f xs))(h:vQ f g):clo E (.same r q)=.ro (L k g xs):=by simp only[clo,zDs hr hg rfl,T.single,if_true,L,strip,uU h.h xs]
theorem zX8{t u tr:T}(hr:E r=dS tr)(hg:tr.get q.reverse=dS (.ptr t))(h:strip t=u):clo E (.same r q)=.ro (.ptr u):=by simp only[clo,zDs hr hg rfl,T.single,if_true,strip,h]
theorem zYr{α:Type}{k l h:Nat}{f g:α→T}{xs:List α}{tr:T}(hr:E r=dS tr)(hg:tr.get q.reverse=dS (L k f xs))(hs:vQ f g)(h1:l≤h)(h2:h≤xs.length):clo E (.sub r q k l h)=.ro (L k g ((xs.drop l).take (h-l))):=by simp only[clo,zDs hr hg rfl,L,uU hs.h xs,Jg,h1,h2,and_self,if_true,Jay,Ua]
theorem zYs{xs ys:List T}(h:zBL E xs=ys):clo E (.agg xs)=.agg ys:=by grind[clo]
theorem yA0:zBL E []=[]:=rfl
theorem zSa{x y:T}{xs ys:List T}(h:clo E x=y)(h2:zBL E xs=ys):zBL E (x::xs)=y::ys:=by grind[zBL]
mutual
theorem zJa(s:Nat):(t:T)→t.okTup=dU→sJ E [] s t=dU
 |.agg xs,h=>by simp only[sJ,T.okTup]at h ⊢;exact zHy s xs h
 |.tup _,h=>by grind[T.okTup]
 |.same r q,_|.sub r q _ _ _,_=>by grind[sJ]
 |.sl _ _,_|.ptr _,_=>by rfl
 |.lit _,_|.ro _,_|.any,_|.addr _ _,_=>by rfl
theorem zHy(s:Nat):(xs:List T)→yE xs=dU→zAR E [] s xs=dU
 | [],_=>rfl
 |x::xs,h=>by simp only[yE,J2]at h;simp only[zAR,zJa s x h.1,zHy s xs h.2,Kx]
end
theorem agC{u:T}(t:T)(h:opT E x=dS t)(h1:clo E t=u)(h2:t.okTup=dU):zBM E [] i x u:=.inr ⟨t,h,h1,by
 cases x with
 |tmp s=>exact zJa s t h2
 |_=>rfl⟩
end
section
variable {P:Program}{Γ:Ctx}{E:Env}{d:Nat}{x y:Operand}{ty:TypeId}{ps:String}{af:Array Edge}{gd:Option (Nat×Bool)}
abbrev zBQ(res:List T):Prop:=yK res∧yE res=dU∧vB res=dU
theorem zBz:zBQ []:=⟨trivial,rfl,rfl⟩
theorem zCj{α:Type}{f:α→T}{x:α}{ts:List T}(h:Enc f)(h2:zBQ ts):zBQ (f x::ts):=
 ⟨⟨h.clean x,h2.1⟩,by simp only[yE,h.okTup,h2.2.1,Kx],by simp only[vB,h.rofree,h2.2.2,Kx]⟩
abbrev kG(P:Program)(f:FuncId):Prop:=∀args w,(callFunc f args).run P w=.ok (.enter f args) w
theorem tU{f:FuncId}{xs:List Operand}{ats:Array TypeId}{us res:List T}(gn:kG P f)(hc:FnC P f us res [])(gj:xG E [] 0 xs us)(gw:zBQ res)(sd:J5 d Γ.N=dU):
  Ok P Γ ⟨dS d,.call { callee:=.value (.func f),args:=xs.toArray,argTypes:=ats },ty,ps,af,gd⟩ E (E.app (cWr d res []) (wS d [])):=
 fun _S=>zOV f (.func f) xs ats us res [] rfl rfl (zW sd) gn rfl hc gj .nil gw
theorem zVs{f:FuncId}{xs:List Operand}{ats:Array TypeId}{us res:List T}(gn:kG P f)(hc:FnC P f us res [])(gk:xs.length=us.length)(gj:∀(i:Nat) u,us[i]? =dS u→ ∃x,xs[i]? =dS x∧opT E x=dS u∧u.flat=dU)(gw:yK res∧yE res=dU)(sd:J5 d Γ.N=dU):
  Ok P Γ ⟨dS d,.call { callee:=.value (.func f),args:=xs.toArray,argTypes:=ats },ty,ps,af,gd⟩ E (E.app (cWr d res []) (wS d [])):=
 fun _S=>zRN f (.func f) xs ats us res rfl rfl (zW sd) gn rfl hc gk gj gw
class qP (P:Program) (S:TypeId) (j:Nat) (off:outParam Nat):Prop where
 h:∃fs f fi,P.underlying S=dS (.struct fs)∧fs[j]? =dS f∧P.info? f.type=dS fi∧fi.size≠0∧off=f.offset
theorem zYt{S:TypeId}{j off r:Nat}{q:List Nat}{xs:List T}{u:T}(ht:qP P S j off)(hx:uT E x=dS (r,q,.ptr (.agg xs)))(hu:xs[j]? =dS u)(gK:T.sizes (xs.take j)=off)(sd:J5 d Γ.N=dU):
  Ok P Γ ⟨dS d,.fieldAddr S x j,ty,ps,af,gd⟩ E (E.app [(d,dS (.addr r (j::0::q)))] [(d,0)]):=by
 obtain⟨fs,f,fi,h1,h2,h3,h4,h5⟩:=ht.h;exact fun _=>yAm x S fs f fi j r q xs u rfl rfl (zW sd) h1 h2 h3 h4 hx hu (by omega)
theorem zSb{S:TypeId}{j off:Nat}{xs:List T}{u:T}(ht:qP P S j off)(hx:opT E x=dS (.ro (.ptr (.agg xs))))(hu:xs[j]? =dS u)(gK:T.sizes (xs.take j)=off)(sd:J5 d Γ.N=dU):
  Ok P Γ ⟨dS d,.fieldAddr S x j,ty,ps,af,gd⟩ E (E.app [(d,dS (.ro (.ptr u)))] [(d,0)]):=by
 obtain⟨fs,f,fi,h1,h2,h3,h4,h5⟩:=ht.h;exact fun _=>zR3 x S fs f fi j xs u rfl rfl (zW sd) h1 h2 h3 h4 hx hu (by omega)
def zL{α:Type}(xs:List α)(l h:Int):Option (List α):=if 0≤l∧l≤h∧h≤(xs.length:Int)then dS ((xs.drop l.toNat).take (h.toNat-l.toNat))else dT
theorem yA1{α:Type}{t e:TypeId}{ti:TypeInfo}{r k:Nat}{q:List Nat}{f:α→T}{xs ys:List α}{lo hi:Option Operand}{l h:Int}(ht:zBk P t e ti k)(hv:zL xs l h=dS ys)(hx:uT E x=dS (r,q,.ro (L k f xs)))(gY:zAo E lo 0 l.toNat)(ea:zAo E hi xs.length h.toNat)(sd:J5 d Γ.N=dU):
  Ok P Γ ⟨dS d,.slice t x lo hi dT,ty,ps,af,gd⟩ E (E.app [(d,dS (.ro (L k f ys)))] [(d,0)]):=by
 unfold zL at hv;split at hv
 ·rename_i hc
  simp at hv;subst hv;intro S;have:=zLc (P:=P) (Γ:=Γ.at S) (E:=E) (o:=⟨dS d,.slice t x lo hi dT,ty,ps,af,gd⟩) x lo hi t e ti r q k (xs.map f) l.toNat h.toNat rfl rfl (zW sd) ht.un ht.info ht.size hx gY (by grind) (by omega) (by simp;omega);simpa[L,Jay,Ua]using this
 ·cases hv
theorem zL0{α:Type}{t e:TypeId}{ti:TypeInfo}{r k:Nat}{q:List Nat}{f:α→T}{xs ys:List α}{lo hi:Option Operand}{l h:Int}(ht:zBk P t e ti k)(hv:zL xs l h=dS ys)(hx:uT E x=dS (r,q,L k f xs))(gY:zAo E lo 0 l.toNat)(ea:zAo E hi xs.length h.toNat)(sd:(J5 d Γ.N&&(r != d))=dU):
  Ok P Γ ⟨dS d,.slice t x lo hi dT,ty,ps,af,gd⟩ E (E.app [(d,dS (.sub r q k l.toNat h.toNat))] [(d,0)]):=by
 unfold zL at hv;simp only[J2]at sd;split at hv
 ·rename_i hc
  intro S;exact zJT (P:=P) (Γ:=Γ.at S) (E:=E) (o:=⟨dS d,.slice t x lo hi dT,ty,ps,af,gd⟩) x lo hi t e ti r q k (xs.map f) l.toNat h.toNat rfl rfl (zW sd.1) ht.un ht.info ht.size hx gY (by grind) (by omega) (by simp;omega) (by grind)
 ·cases hv
end
end Go.Ab

namespace Go.Ab
open Go
theorem wL{t:T}(h:zQ t):zQ t:=h
theorem vE{α:Type}{f:α→T}{k:Nat}{xs:List α}(hf:∀x,zQ (f x)):zQ (L k f xs):=zOW hf
theorem zF3{t:T}(h:zQ t):zQ (.ptr t):=by simpa only[zQ,yN]using h
theorem zCO{xs:List T}(h:yK xs):zQ (.agg xs):=by simpa only[zQ,yN]using h
section
variable {P:Program}{Γ:Ctx}{pn:tT}{E E':Env}{Q:Exit→Env→Prop}{c c1 c2:Code}{x:Operand}
theorem CW.condT(hx:opT E x=dS (B dU))(h:CW P Γ pn c1 E Q):CW P Γ pn (.cond x c1 c2) E Q:=by grind[CW.cond]
theorem CW.condF(hx:opT E x=dS (B dV))(h:CW P Γ pn c2 E Q):CW P Γ pn (.cond x c1 c2) E Q:=by grind[CW.cond]
theorem CW.casesB(b:Bool)(ht:b=dU→CW P Γ pn c E Q)(hf:b=dV→CW P Γ pn c E Q):CW P Γ pn c E Q:=by grind
theorem zX9{wr:Wr}{chg:Chg}{s:Nat}{t:T}(h:E s=dS t)(hf:wr.find s=dT:=by rfl)(hb:t.okB chg=dU:=by rfl):E.app wr chg s=dS t:=by grind[Env.app]
theorem yQ.gh{ops:Array Oper}{o:Oper}{E1:Env}(hg:zK Γ E E1)(h:yQ P Γ ops o E1 E'):yQ P Γ ops o E E':=fun a w K Q hs hK=>h a w K Q (hg a w hs) hK
theorem zEF{t:T}(h:opT E x=dS (.ro (.ptr t))):zGb E x=dU:=by simp[zGb,h]
theorem zDt{r:Nat}{q:List Nat}{t:T}(h:uT E x=dS (r,q,.ptr t)):zGb E x=dU:=by grind[zGb]
end
theorem zYu{E:Env}{n:Nat}:zAo E dT n (n:Int).toNat:=by simp[zAo]
theorem zXA{E:Env}:zAo E dT 0 (0:Int).toNat:=by simp[zAo]
theorem zSc{E:Env}{x:Operand}{n:Int}{d:Nat}(h0:0≤n)(h:opT E x=dS (I n)):zAo E (dS x) d n.toNat:=⟨.i64,by grind⟩
theorem uI{α:Type}{xs ys:List α}{l h:Int}(hv:zL xs l h=dS ys):0≤l∧l≤h∧h≤xs.length∧ys=(xs.drop l.toNat).take (h.toNat-l.toNat):=by grind[zL]
theorem zF4{α:Type}{xs ys:List α}{l h:Int}(hv:zL xs l h=dS ys):0≤l:=(uI hv).1
theorem zF5{α:Type}{xs ys:List α}{l h:Int}(hv:zL xs l h=dS ys):0≤h:=by have:=uI hv;omega
theorem zKj{E:Env}{r k:Nat}{q:List Nat}{α:Type}{l h:Int}{f g:α→T}{xs ys:List α}{tr:T}(hr:E r=dS tr)(hg:tr.get q.reverse=dS (L k f xs))(hs:vQ f g)(hv:zL xs l h=dS ys):
  clo E (.sub r q k l.toNat h.toNat)=.ro (L k g ys):=by
 obtain⟨h1,h2,h3,rfl⟩:=uI hv
 grind[zYr]
section
variable {P:Program}{Γ:Ctx}{E E':Env}{d:Nat}{x y:Operand}{ty:TypeId}{ps:String}{af:Array Edge}{gd:Option (Nat×Bool)}
theorem zCk{o:Oper}{e b:Bool}{d:Nat}{wr:Wr}{chg:Chg}(he:e=b)(h:Ok P Γ o E (E.app ((d,dS (B e))::wr) chg)):Ok P Γ o E (E.app ((d,dS (B b))::wr) chg):=he▸h
theorem yA2{t:TypeId}{u tr t0:T}{r:Nat}{q:List Nat}(ht:zRX P t u)(hx:uT E x=dS (r,q,.ptr t0))(hr:E r=dS tr)(hg:tr.get (0::q).reverse=dS u)(sd:(J5 d Γ.N&&tr.locd (0::q).reverse&&(r != d)&&T.okB [(d,0)] (cpT r u (0::q)))=dU):
  Ok P Γ ⟨dS d,.load t x,ty,ps,af,gd⟩ E (E.app [(d,dS (cpT r u (0::q)))] [(d,0)]):=by
 obtain⟨ds,ti,h1,h2,h3,h4⟩:=ht.h;simp only[J2]at sd;exact fun S=>zKZ x t ds ti r (0::q) tr u rfl rfl (zW sd.1.1.1) h1 h2 h3 h4 (zC4.ptr hx) hr hg sd.1.1.2 (by grind) sd.2
theorem zXB{t:TypeId}{ti:TypeInfo}{r s:Nat}{q:List Nat}{tr tr' u0 u:T}(hi:P.info? t=dS ti)(gv:(ti.size==u.size&&J5 0 ti.size)=dU)(hx:∀S,zC4 (Γ.at S) E x r q)(hr:E r=dS tr)(hg:tr.get q.reverse=dS u0)(gx:tr.set q.reverse u=tr')(hy:E s=dS u)(hu:zQ u)
  (sd:(tr.single&&tr.locd q.reverse&&wX u u0&&(r != s)&&u.okTup)=dU):Ok P Γ ⟨dT,.store t x (.tmp s),ty,ps,af,gd⟩ E (E.app ((r,dS tr')::sWr r q (.slot s u)) ((r,q.length)::tO [.slot s u])):=by
 simp only[J2]at sd gv;subst gx;intro S;refine zIM (P:=P) (Γ:=Γ.at S) (E:=E) (o:=⟨dT,.store t x (.tmp s),ty,ps,af,gd⟩) t ti x (.tmp s) r q tr u0 (.slot s u) rfl rfl hi (by grind[yI.tree]) (zW gv.2) (hx S) hr sd.1.1.1.1 hg sd.1.1.1.2 sd.1.1.2 (.slot s _)
  ⟨by grind,by simp,?_⟩
 grind[xE]
theorem zNx{t:TypeId}{ti:TypeInfo}{r s:Nat}{q:List Nat}{tr tr' u0 u:T}(hi:P.info? t=dS ti)(gv:(ti.size==u.size&&J5 0 ti.size)=dU)(hx:opT E x=dS (.addr r q))(hr:E r=dS tr)(hg:tr.get q.reverse=dS u0)(gx:tr.set q.reverse u=tr')(hy:E s=dS u)(hu:zQ u)
  (sd:(tr.single&&tr.locd q.reverse&&wX u u0&&(r != s)&&u.okTup)=dU):Ok P Γ ⟨dT,.store t x (.tmp s),ty,ps,af,gd⟩ E (E.app ((r,dS tr')::sWr r q (.slot s u)) ((r,q.length)::tO [.slot s u])):=
 zXB hi gv (fun _=>zC4.addr hx) hr hg gx hy hu sd
theorem zXC{t:TypeId}{ti:TypeInfo}{r s:Nat}{q:List Nat}{tr tr' u0 u t0:T}(hi:P.info? t=dS ti)(gv:(ti.size==u.size&&J5 0 ti.size)=dU)(hx:uT E x=dS (r,q,.ptr t0))(hr:E r=dS tr)(hg:tr.get (0::q).reverse=dS u0)(gx:tr.set (0::q).reverse u=tr')(hy:E s=dS u)(hu:zQ u)
  (sd:(tr.single&&tr.locd (0::q).reverse&&wX u u0&&(r != s)&&u.okTup)=dU):Ok P Γ ⟨dT,.store t x (.tmp s),ty,ps,af,gd⟩ E (E.app ((r,dS tr')::sWr r (0::q) (.slot s u)) ((r,(0::q).length)::tO [.slot s u])):=
 zXB hi gv (fun _=>zC4.ptr hx) hr hg gx hy hu sd
theorem zHz{G:Gh}{s:Nat}:(xs:List T)→yE xs=dU→ ∀(p:List Nat)(i j:Nat)(u:T),xs[j]? =dS u→ ∃l1 l2,yA G s xs p i=l1++vals G s u ((i+j)::p)++l2∧l1.length=T.sizes (xs.take j)
 | [],_,_,_,_,_,h=>by simp at h
 |x::xs,ht,p,i,j,u,h=>by
  simp only[yE,J2]at ht;cases j with
  |zero=>simp at h;subst h;exact⟨[],yA G s xs p (i+1),by rfl,by rfl⟩
  |succ j=>
   obtain⟨l1,l2,h1,h2⟩:=zHz xs ht.2 p (i+1) j u (by grind);refine⟨vals G s x (i::p)++l1,l2,by rw[yA,h1,show i+(j+1)=i+1+j from by omega];simp,?_⟩;rw[J7,wR x _ (by rintro ys rfl;grind[T.okTup]),h2,Lj,T.sizes]
theorem zSd{S:TypeId}{j off s:Nat}{xs:List T}{u:T}(ht:qP P S j off)(hv:∃ds ti fs f,P.underlying S=dS (.struct fs)∧fs[j]? =dS f∧P.underlying f.type=dS ds∧P.info? f.type=dS ti∧zFq ds= !u.single∧ti.size=u.size)(hx:E s=dS (.agg xs))(hu:xs[j]? =dS u)(gK:T.sizes (xs.take j)=off)
  (sd:(J5 d Γ.N&&yE xs&&u.okTup&&(s != d)&&T.okB [(d,0)] (cpT s u [j]))=dU):
  Ok P Γ ⟨dS d,.field S (.tmp s) j,ty,ps,af,gd⟩ E (E.app [(d,dS (cpT s u [j]))] [(d,0)]):=by
 obtain⟨fs,f,fi,h1,h2,h3,h4,h5⟩:=ht.h;obtain⟨ds,ti,fs',f',g1,g2,g3,g4,g5,g6⟩:=hv;simp only[J2]at sd;rw[h1]at g1;simp at g1;subst g1;rw[h2]at g2;simp at g2;subst g2;rw[h3]at g4;simp at g4;subst g4;intro S';refine xM.value rfl fun a w G g9=>?_
 obtain⟨k1,k2,_⟩:=g9.ent s _ hx;simp only[R]at k2;have k3:=zBx xs [] 0 j u k2 hu;simp only[Ja]at k3;have gc:s≠d:=by grind
 have gX:∀ys,u≠.tup ys:=zBO sd.1.1.2;have hk:=G.put_keep (w:=w) (w':=w) rfl d (fun z=>G.hd s (z++[j]));have hz:∀z,(G.put d (fun z=>G.hd s (z++[j]))).hd d (z++[])=G.hd s (z++[j]):=by grind[Gh.put_self]
 refine⟨tQ G s u [j],w,?_,_,wI g9 rfl (zW sd.1.1.1.1) (fun z=>G.hd s (z++[j])) (fun z=>g9.mem.one _ _) _ _ (by grind[zAP])
  (zDY (fun p=>G.put_other _ p gc) u [j] [] hz gX (hk.keepR (by grind[zBo,sV])) k3) (sV s u [j])⟩
 obtain⟨l1,l2,e1,e2⟩:=zHz (G:=G) (s:=s) xs sd.1.1.1.2 [] 0 j u hu;simp only[Ja]at e1;have e3:l1.length=f.offset:=by omega
 have e4:=wR (G:=G) (s:=s) u [j] gX;have bB:(part f.type (yA G s xs [] 0).toArray f.offset).run P w=.ok (tQ G s u [j]) w:=by
  rw[e1];cases u with
  |agg ys=>
   simp[T.single]at g5;simp only[vals,T.size]at e4 g6 ⊢
   simp[part,qK g3,g5,sizeOf,typeInfo,h3,tQ]
   grind
  |tup ys=>grind
  |_=>
   simp[T.single]at g5;simp[part,qK g3,g5,tQ,vals,←e3]
 simp[execOp,xK k1,mkV,Instr.field,run_underlying h1,h2,asAgg,bB]
theorem zKk{α:Type}{t e:TypeId}{ti:TypeInfo}{k:Nat}{u:T}{n:Nat}{a:Int}{f:α→T}{z:α}(ht:ElT P t e ti k u)(hz:f z=u)(hn:zV a=dS n)(hx:opT E x=dS (I a))(hy:opT E y=dS (I a))(sd:J5 d Γ.N=dU):
  Ok P Γ ⟨dS d,.makeSlice t x y,ty,ps,af,gd⟩ E (E.app [(d,dS (L k f (J1 n z)))] [(d,0)]):=by
 have:=zRV (P:=P) (Γ:=Γ) (E:=E) (d:=d) (ty:=ty) (ps:=ps) (af:=af) (gd:=gd) ht hn hx hn hy (Jd _) sd;rw[←hz]at this;simpa[L]using this
theorem zSe{t e:TypeId}{ti:TypeInfo}{k:Nat}{u:T}(ht:ElT P t e ti k u)(sd:J5 d Γ.N=dU):Ok P Γ ⟨dS d,.buildSlice t 0 #[],ty,ps,af,gd⟩ E (E.app [(d,dS (.sl k []))] [(d,0)]):=
 fun _=>zHf t e ti k rfl rfl (zW sd) ht.un ht.info
theorem zYv{t:TypeId}{s:ByteArray}(hu:P.underlying t=dS .string)(hx:opT E x=dS (Str s))(sd:J5 d Γ.N=dU):
  Ok P Γ ⟨dS d,.call { callee:=.builtin .len,args:=#[x],argTypes:=#[t] },ty,ps,af,gd⟩ E (E.app [(d,dS (I s.size))] [(d,0)]):=by
 intro S;refine uN (.int .i64 s.size) rfl rfl (zW sd) fun a w G g9=>?_
 have h1:=(yP g9 hx).1;simp[execOp,resolve,invoke,builtin,h1,Builtin.len_,run_underlying hu,goInt]
theorem zSf{t e:TypeId}{s r k l h:Nat}{q:List Nat}{α:Type}{f:α→T}{xs:List α}{tr:T}(hu:P.underlying t=dS (.slice e))(hx:E s=dS (.sub r q k l h))(hr:E r=dS tr)(hg:tr.get q.reverse=dS (L k f xs))(sd:J5 d Γ.N=dU):
  Ok P Γ ⟨dS d,.call { callee:=.builtin .len,args:=#[.tmp s],argTypes:=#[t] },ty,ps,af,gd⟩ E (E.app [(d,dS (I ((h-l:Nat):Int)))] [(d,0)]):=by
 intro S;refine uN (.int .i64 ((h-l:Nat):Int)) rfl rfl (zW sd) fun a w G g9=>?_
 obtain⟨h1,h2,_⟩:=g9.ent s _ hx;obtain⟨_,h4,_⟩:=g9.ent r _ hr;simp only[R]at h2;have h5:=(zBD q.reverse tr _ [] h4 hg).1;simp only[rp,Ki,Jh]at h5;obtain⟨a',c,h6⟩:=zG9 h5;rw[h6]at h2;simp[execOp,resolve,invoke,builtin,xK h1,mkV,h2,zAN,Builtin.len_,run_underlying hu,goInt]
theorem zOZ{P:Program}{w:World}{t:TypeId}{a b:Bool}(n:Nat)(h:P.underlying t=dS .bool):(Op.equalIn (n+1) t (.bool a) (.bool b)).run P w=.ok (a==b) w:=by simp only[Op.equalIn,Sem.run_bind,run_underlying h];rfl
theorem zCP(t:TypeId)(x y:Value):Op.equal t x y=Op.equalIn (9999+1) t x y:=rfl
theorem zYw{a b:Bool}{xt yt:TypeId}(hu:P.underlying xt=dS .bool)(hx:opT E x=dS (B a))(hy:opT E y=dS (B b))(sd:J5 d Γ.N=dU):Ok P Γ ⟨dS d,.binOp .eql xt x y yt,ty,ps,af,gd⟩ E (E.app [(d,dS (B (a==b)))] [(d,0)]):=by
 intro S;refine uN _ rfl rfl (zW sd) fun c w G g9=>?_
 have h1:=(yP g9 hx).1;have h2:=(yP g9 hy).1;have h3:=zOZ (P:=P) (w:=w) (a:=a) (b:=b) 9999 hu;simp[execOp,h1,h2,eqGuard,binOp,zCP,h3]
theorem zYx{a b:Bool}{xt yt:TypeId}(hu:P.underlying xt=dS .bool)(hx:opT E x=dS (B a))(hy:opT E y=dS (B b))(sd:J5 d Γ.N=dU):Ok P Γ ⟨dS d,.binOp .neq xt x y yt,ty,ps,af,gd⟩ E (E.app [(d,dS (B (a != b)))] [(d,0)]):=by
 intro S;refine uN _ rfl rfl (zW sd) fun c w G g9=>?_
 have h1:=(yP g9 hx).1;have h2:=(yP g9 hy).1;have h3:=zOZ (P:=P) (w:=w) (a:=a) (b:=b) 9999 hu;simp[execOp,h1,h2,eqGuard,binOp,zCP,h3,bne]
theorem zGF{P:Program}{w:World}{t:TypeId}{k:IntKind}{a b:Int}(n:Nat)(h:P.underlying t=dS (.int k)):(Op.equalIn (n+1) t (.int k a) (.int k b)).run P w=.ok (a==b) w:=by simp only[Op.equalIn,Sem.run_bind,run_underlying h];simp
end
end Go.Ab

namespace Go.Ab
open Go
def zB0:List Nat→Bool
 | []=>dU
 |x::xs=> !xs.contains x&&zB0 xs
theorem zDu:{l:List Nat}→zB0 l=dU→l.Nodup
 | [],_=>by simp
 |x::xs,h=>by simp only[zB0,J2,G1,Lr,decide_eq_false_iff_not]at h;exact Km.2 ⟨h.1,zDu h.2⟩
def zCl(E:Env):List yI→Prop
 | []=>True
 |.slot s t::l=>(E s=dS t∧zQ t∧t.okTup=dU)∧zCl E l
 |.zero u::l=>u.zOk=dU∧zCl E l
theorem zCl.get{E:Env}:(l:List yI)→zCl E l→(∀s t,yI.slot s t∈l→E s=dS t∧zQ t∧t.okTup=dU)∧ ∀u,yI.zero u∈l→u.zOk=dU
 | [],_=>⟨fun _ _ h=>by simp at h,fun _ h=>by simp at h⟩
 |.slot s t::l,h=>by
  obtain⟨h1,h2⟩:=zCl.get l h.2;exact⟨fun s' t' hm=>by
   rcases Jq.1 hm with e|hm
   ·cases e;exact h.1
   ·exact h1 s' t' hm,fun u hm=>by
   rcases Jq.1 hm with e|hm
   ·cases e
   ·exact h2 u hm⟩
 |.zero u::l,h=>by
  obtain⟨h1,h2⟩:=zCl.get l h.2;exact⟨fun s' t' hm=>by
   rcases Jq.1 hm with e|hm
   ·cases e
   ·exact h1 s' t' hm,fun u' hm=>by
   rcases Jq.1 hm with e|hm
   ·cases e;exact h.1
   ·exact h2 u' hm⟩
section
variable {E:Env}
theorem pkN:zCl E []:=trivial
theorem pkS{s:Nat}{t:T}{l:List yI}(h:E s=dS t)(hc:zQ t)(h3:t.okTup=dU)(hl:zCl E l):zCl E (.slot s t::l):=⟨⟨h,hc,h3⟩,hl⟩
theorem pkZ{u:T}{l:List yI}(h:u.zOk=dU)(hl:zCl E l):zCl E (.zero u::l):=⟨h,hl⟩
theorem zCl.parts{d:Nat}{l:List yI}(h:zCl E l)(hn:zB0 (d::xE l)=dU):tD E d l:=⟨(zCl.get l h).1,(zCl.get l h).2,zDu hn⟩
def zC7(E:Env)(zs:List T)(ps:List yI):List (Nat×Operand)→List (Nat×yI)→Prop
 | [],[]=>True
 |x::xs,q::qs=>(x.1=q.1∧zAy E x.2 q.2∧ps[q.1]? =dS q.2∧ ∃u,zs[q.1]? =dS u∧u.size=q.2.tree.size)∧zC7 E zs ps xs qs
 |_,_=>False
theorem bqN{zs:List T}{ps:List yI}:zC7 E zs ps [] []:=trivial
theorem bqC{zs:List T}{ps:List yI}{i:Nat}{x:Operand}{q:yI}{xs:List (Nat×Operand)}{qs:List (Nat×yI)}(h:zAy E x q)(hl:zC7 E zs ps xs qs)(h1:ps[i]? =dS q:=by rfl)(h2:∃u,zs[i]? =dS u∧u.size=q.tree.size:=by exact⟨_,rfl,rfl⟩):zC7 E zs ps ((i,x)::xs) ((i,q)::qs):=⟨⟨rfl,h,h1,h2⟩,hl⟩
theorem zC7.ix{zs:List T}{ps:List yI}:(pl:List (Nat×Operand))→(qs:List (Nat×yI))→zC7 E zs ps pl qs→pl.map (·.1)=qs.map (·.1)
 | [],[],_=>rfl
 |x::xs,q::qs,h=>by simp[h.1.1,zC7.ix xs qs h.2]
 | [],_::_,h=>by simp[zC7]at h
 |_::_,[],h=>by simp[zC7]at h
theorem zC7.get{zs:List T}{ps:List yI}:(pl:List (Nat×Operand))→(qs:List (Nat×yI))→zC7 E zs ps pl qs→ ∀(j:Nat)(x:Nat×Operand)(q:Nat×yI),pl[j]? =dS x→qs[j]? =dS q→zAy E x.2 q.2∧q.2∈ps∧ ∃u,zs[q.1]? =dS u∧u.size=q.2.tree.size
 | [],[],_,j,_,_,h,_=>by simp at h
 |x::xs,q::qs,h,j,x',q',h1,h2=>by
  cases j with
  |zero=>simp at h1 h2;subst h1;subst h2;exact⟨h.1.2.1,L7 h.1.2.2.1,h.1.2.2.2⟩
  |succ j=>exact zC7.get xs qs h.2 j x' q' (by simpa using h1) (by simpa using h2)
 | [],_::_,h,_,_,_,_,_=>by simp[zC7]at h
 |_::_,[],h,_,_,_,_,_=>by simp[zC7]at h
end
class zGy (P:Program) (t:TypeId) (zs:outParam (List T)):Prop where
 h:∃(place:Nat→Option (Nat×Nat))(z:Value),(∀parts,P.built t parts=Instr.fill place z.cells parts)∧sM zs=z.cells.toList∧zAB zs=dU∧ ∀i u,zs[i]? =dS u→place i=dS (T.sizes (zs.take i),u.size)
section
variable {P:Program}{Γ:Ctx}{E E':Env}{d:Nat}{x y:Operand}{ty:TypeId}{ps:String}{af:Array Edge}{gd:Option (Nat×Bool)}
theorem zVt{t:TypeId}{zs:List T}{pa:Array (Nat×Operand)}(hb:zGy P t zs)(pl:List (Nat×Operand))(qs:List (Nat×yI))(pp:List yI)(gP:zCl E pp)(hq:zC7 E zs pp pl qs)(sd:(J5 d Γ.N&&zB0 (d::xE pp))=dU)
  (fA:pa=pl.toArray:=by rfl)(gT:qs.foldl (fun ps q=>ps.set q.1 q.2) (zs.map yI.zero)=pp:=by rfl):Ok P Γ ⟨dS d,.build t pa,ty,ps,af,gd⟩ E (E.app ((d,dS (.agg (pp.map yI.tree)))::pWr d pp 0) ((d,0)::tO pp)):=by
 obtain⟨place,z,h1,h2,h3,h4⟩:=hb.h;simp only[J2]at sd;subst fA;exact fun S=>zRC t place z zs pl qs pp rfl rfl (zW sd.1) h1 h2 h3 h4 gT (gP.parts sd.2) (zC7.ix _ _ hq) (zC7.get _ _ hq)
def zL1(k:Nat):List yI→Bool
 | []=>dU
 |p::l=>(p.tree.size==k)&&zL1 k l
theorem zL2{k:Nat}:(l:List yI)→zL1 k l=dU→ ∀p∈l,p.tree.size=k
 | [],_,_,h=>by simp at h
 |p::l,h,q,hm=>by
  simp only[zL1,J2,beq_iff_eq]at h;rcases Jq.1 hm with rfl|hm
  ·exact h.1
  ·exact zL2 l h.2 q hm
theorem yA3{α:Type}{t e:TypeId}{ti:TypeInfo}{k n:Nat}{u:T}{pa:Array (Nat×Operand)}(ht:ElT P t e ti k u)(xs:List Operand)(pp:List yI)(ys:List α)(f:α→T)(hx:vY E xs pp)(gP:zCl E pp)
  (sd:(J5 d Γ.N&&zB0 (d::xE pp)&&zL1 k pp&&J5 0 n&&Ux (n*k) 65536)=dU)(hn:xs.length=n)(fA:pa=((xs.zipIdx 0).map fun x=>(x.2,x.1)).toArray:=by rfl)(hy:pp.map yI.tree=ys.map f:=by rfl):
  Ok P Γ ⟨dS d,.buildSlice t n pa,ty,ps,af,gd⟩ E (E.app ((d,dS (L k f ys))::pWr d pp 0) ((d,0)::tO pp)):=by
 obtain⟨z,hz,_⟩:=ht.zero;simp only[J2]at sd;subst fA;intro S;have eJ:n*k≤65536:=by simpa[Nat.ble_eq]using sd.2
 have:=zI3 (P:=P) (Γ:=Γ.at S) (E:=E) (o:=⟨dS d,.buildSlice t n ((xs.zipIdx 0).map fun x=>(x.2,x.1)).toArray,ty,ps,af,gd⟩) t e ti z k n xs pp rfl rfl (zW sd.1.1.1.1) ht.un ht.info hz ht.size ht.pos hn (zW sd.1.2) (by omega) hx (gP.parts sd.1.1.1.2) (zL2 pp sd.1.1.2);rw[hy]at this;exact this
theorem zL3{α:Type}{f g:α→T}(h:∀y,roT (g y)=f y):(ys:List α)→roT.roTs (ys.map g)=ys.map f
 | []=>rfl
 |y::ys=>by simp only[Jl,roT.roTs,h y,zL3 h ys]
theorem zKl{α:Type}{t e:TypeId}{ti:TypeInfo}{k r:Nat}{q:List Nat}{u:T}{f g:α→T}{xs ys zs:List α}{s0:Nat}(ht:ElT P t e ti k u)(bP:∀y,roT (g y)=f y)(gv:∀y,(g y).size=k)(hg:Enc g)(hv:zX xs ys=dS zs)(h0:E s0=dS (L k f xs))(h1:uT E y=dS (r,q,.ro (L k g ys)))(sd:(J5 d Γ.N&&(s0 != d))=dU):
  Ok P Γ ⟨dS d,.call { callee:=.builtin .append,args:=#[.tmp s0,y],argTypes:=#[t,t] },ty,ps,af,gd⟩ E (E.app [(d,dS (L k f zs)),(s0,dS .any)] [(d,0),(s0,1)]):=by
 obtain⟨rfl,hl⟩:=zF2 hv;obtain⟨z,hz,fw⟩:=ht.zsize;simp only[J2]at sd;intro S;have:=zKb (P:=P) (Γ:=Γ.at S) (E:=E) (o:=⟨dS d,.call { callee:=.builtin .append,args:=#[.tmp s0,y],argTypes:=#[t,t] },ty,ps,af,gd⟩) t e ti z k s0 y r q (xs.map f) (ys.map g) rfl rfl (zW sd.1) ht.un ht.info hz ht.size ht.pos fw ht.bytes h0 h1 (zHx hg.rook ys)
  (by intro v hv;obtain⟨y,_,rfl⟩:=Je.1 hv;exact gv y) (by simpa using sd.2) (by simpa using hl)
 rw[zL3 bP,←H1]at this;exact this
def yM{α:Type}(xs:List α)(m:Int)(z:α):Option (List α):=if 0≤m∧xs.length+m.toNat≤68719476736 then dS (xs++J1 m.toNat z)else dT
theorem zNy{α:Type}{t t2 e:TypeId}{k2:IntKind}{ti:TypeInfo}{k:Nat}{u:T}{f:α→T}{z:α}{xs zs:List α}{s0:Nat}{m:Int}(ht:ElT P t e ti k u)(ci:P.underlying t2=dS (.int k2))(hz:f z=u)(hv:yM xs m z=dS zs)(h0:E s0=dS (L k f xs))(h1:opT E y=dS (I m))(sd:(J5 d Γ.N&&(s0 != d))=dU):
  Ok P Γ ⟨dS d,.call { callee:=.builtin .append,args:=#[.tmp s0,y],argTypes:=#[t,t2] },ty,ps,af,gd⟩ E (E.app [(d,dS (L k f zs)),(s0,dS .any)] [(d,0),(s0,1)]):=by
 unfold yM at hv;split at hv
 ·rename_i hc
  simp at hv;subst hv;obtain⟨zv,pI,ai⟩:=ht.zero;simp only[J2]at sd;obtain⟨n,rfl⟩:∃n:Nat,m=n:=⟨m.toNat,by omega⟩;intro S;have:=zHn (P:=P) (Γ:=Γ.at S) (E:=E) (o:=⟨dS d,.call { callee:=.builtin .append,args:=#[.tmp s0,y],argTypes:=#[t,t2] },ty,ps,af,gd⟩) t t2 e k2 ti zv u k s0 y .i64 n (xs.map f) rfl rfl (zW sd.1) ht.un ci ht.info pI ht.size ht.pos ht.bytes ht.zok ai ht.us h0 h1
   (by simpa using sd.2) (by simp at hc ⊢;omega)
  have e:xs.map f++J1 n u=(xs++J1 n z).map f:=by simp[hz]
  rw[e]at this;have h2:((n:Int)).toNat=n:=by simp
  rw[h2];exact this
 ·cases hv
end
section
variable {Γ:Ctx}{E:Env}
theorem zK.trq(d r:Nat)(q:List Nat){tr u tr':T}(hd:E d=dS (.same r q))(hr:E r=dS tr)(hg:tr.get q.reverse=dS u)(eH:zQ u)(sd:(u.single&&xU tr&&tr.okB [(d,1),(r,q.length+1)]&&(d != r))=dU)(gx:(if q=[]then .same d []else tr.set q.reverse .any)=tr':=by rfl):
  zK Γ E (E.app [(d,dS u),(r,dS tr')] [(d,1),(r,q.length+1)]):=by
 simp only[J2]at sd
 rintro a w ⟨S,hS,hs⟩
 have gc:d≠r:=by simpa using sd.2
 have:=zNq hs d [] r q (.same r q) tr u hd rfl hr hg sd.1.1.1 eH gc (by simp[T.okB,zA7,gc]) sd.1.2 rfl sd.1.1.2;subst gx;exact⟨S,hS,this⟩
theorem zK.trf(d:Nat)(g:List Nat)(r:Nat)(q:List Nat)(td tr:T){u td' tr':T}(hd:E d=dS td)(dp:td.get g.reverse=dS (.same r q))(hr:E r=dS tr)(hg:tr.get q.reverse=dS u)(gx:td.set g.reverse u=td')(eH:zQ u)
  (sd:(u.single&&xU td&&xU tr&&td.okB [(d,g.length+1),(r,q.length+1)]&&tr.okB [(d,g.length+1),(r,q.length+1)]&&(d != r))=dU)(ck:(if q=[]then .same d g else tr.set q.reverse .any)=tr':=by rfl):
  zK Γ E (E.app [(d,dS td'),(r,dS tr')] [(d,g.length+1),(r,q.length+1)]):=by
 simp only[J2]at sd
 rintro a w ⟨S,hS,hs⟩
 have gc:d≠r:=by simpa using sd.2
 have:=zNq hs d g r q td tr u hd dp hr hg sd.1.1.1.1.1 eH gc sd.1.1.2 sd.1.2 sd.1.1.1.1.2 sd.1.1.1.2;subst gx ck;exact⟨S,hS,this⟩
theorem zK.frz{α:Type}(s:Nat){k:Nat}{f g:α→T}(xs:List α)(hs:E s=dS (L k f xs))(h:vQ f g):zK Γ E (E.app [(s,dS (.ro (L k g xs)))] [(s,1)]):=by have:=zK.freeze (Γ:=Γ) s _ hs;simp only[vG,strip,uU h.h xs]at this;exact this
theorem zK.res(d r:Nat)(q:List Nat)(tr:T){u:T}(hd:E d=dS (.same r q))(hr:E r=dS tr)(hg:tr.get q.reverse=dS (.ro u)):zK Γ E (E.app [(d,dS (.ro u))] []):=by
 rintro a w ⟨S,hS,gR,G,g9⟩
 refine⟨S,hS,gR,G,?_⟩;have hk:qN [] G w G w:=⟨fun _ _ _=>rfl,fun _ _ _=>rfl,fun _ _ _ _ _ _ h _=>⟨h,rfl⟩,fun _ _ _ h _=>h,fun b cs e h=>⟨cs,h,rfl⟩⟩;refine wW g9 rfl hk g9.mem (fun s _=>⟨fun n hn=>by simp at hn,rfl⟩) fun s t hs=>?_
 simp only[Wr.find]at hs;split at hs
 ·rename_i e;subst e
  simp at hs;subst hs;obtain⟨h1,h2,_⟩:=g9.ent d _ hd;obtain⟨_,h4,_⟩:=g9.ent r _ hr;simp only[R]at h2;have h5:=(zBD q.reverse tr _ [] h4 hg).1;simp only[rp,Ki,Jh,R]at h5;exact⟨by rw[h1];rfl,by simp only[R];rw[h2];exact h5,by simp[Top]⟩
 ·cases hs
end
theorem zKm:(p:List Nat)→ ∀(t u0 a:T),t.get p=dS u0→(t.set p a).get p=dS a
 | [],t,_,a,_=>by cases t<;>cases a<;>rfl
 |i::p,t,u0,a,h=>by
  cases t with
  |sl k xs|agg xs|tup xs=>
   simp only[T.get,T.set]at h ⊢
   cases hx:xs[i]? with
   |none=>rw[hx]at h;cases h
   |some x=>
    rw[hx]at h;have hi:=(J9.1 hx).1;simp only[];simp only[T.get,Gj hi];exact zKm p x u0 a h
  |ptr t=>
   simp only[T.get,T.set]at h ⊢
   split at h
   ·rename_i e;subst e;simp only[if_true,T.get];exact zKm p t u0 a h
   ·cases h
  |_=>simp[T.get]at h
theorem set_set:(p:List Nat)→ ∀(t u0 a b:T),t.get p=dS u0→(t.set p a).set p b=t.set p b
 | [],t,_,a,_,_=>by cases t<;>cases a<;>rfl
 |i::p,t,u0,a,b,h=>by
  cases t with
  |sl k xs|agg xs|tup xs=>
   simp only[T.get,T.set]at h ⊢
   cases hx:xs[i]? with
   |none=>rw[hx]at h;cases h
   |some x=>
    rw[hx]at h;have hi:=(J9.1 hx).1;simp only[];simp only[T.set,Gj hi,List.set_set,set_set p x u0 a b h]
  |ptr t=>
   simp only[T.get,T.set]at h ⊢
   split at h
   ·rename_i e;subst e;simp only[if_true,T.set,set_set p t u0 a b h]
   ·cases h
  |_=>simp[T.get]at h
def qO:T→Bool
 |.sl _ _|.ptr _=>dU
 |_=>dV
theorem zSg{t:T}(h:qO t=dU)(p:List Nat){u:T}(hp:p≠[]):qO (t.set p u)=dU:=by
 cases p with
 |nil=>exact absurd rfl hp
 |cons i p=>cases t<;>simp[qO]at h<;>simp only[T.set]<;>split<;>rfl
theorem uR{t:T}(h:qO t=dU)(chg:Chg):t.okB chg=dU∧xU t=dU∧t.single=dU:=by cases t<;>simp[qO]at h<;>simp[T.okB,xU,T.single]
section
variable {P:Program}{Γ:Ctx}{E E':Env}{d:Nat}{ty:TypeId}{ps:String}{af:Array Edge}{gd:Option (Nat×Bool)}
theorem agM{E:Env}{rw:Rw}{i:Nat}{x:Operand}{u:T}(t:T)(h:opT E x=dS t)(h1:clo E t=u)(h2:zIQ E (rw.map (·.2.1)) x t=dU):zBM E rw i x u:=.inr ⟨t,h,h1,h2⟩
theorem zVu{E:Env}{rw:Rw}{i s:Nat}{u u':T}(h:E s=dS u)(hc:zQ u)(hr:wK u=dU)(hs:u.okTup=dU:=by rfl)(hm:(i,s,u')∈rw:=by exact List.mem_singleton.2 rfl):zBM E rw i (.tmp s) u:=.inl ⟨s,u',rfl,hm,h,hc,hs,hr⟩
abbrev wH(E:Env)(ds r:Nat)(q:List Nat)(tr u:T):Env:=E.app [(ds,dS u),(r,dS (if q=[]then .same ds []else tr.set q.reverse .any))] [(ds,1),(r,q.length+1)]
theorem zKn{f:FuncId}{xs:List Operand}{ats:Array TypeId}{us res:List T}{tr u u' tr':T}(i ds r:Nat)(q:List Nat)(gn:kG P f)(hc:FnC P f us res [(i,u')])(hs:E ds=dS (.same r q))(hr:E r=dS tr)(hq:tr.get q.reverse=dS u)
  (eH:zQ u)(eD:zQ u')(_:wK u=dU)(br:wK u'=dU)(gj:xG (wH E ds r q tr u) [(i,ds,u')] 0 xs us)(gw:zBQ res)(gx:tr.set q.reverse u'=tr')
  (sd:(J5 d Γ.N&&(d != ds)&&(d != r)&&(ds != r)&&qO u&&qO u'&&qO tr)=dU)(hx:xs[i]? =dS (.tmp ds))(hu:us[i]? =dS u):
  Ok P Γ ⟨dS d,.call { callee:=.value (.func f),args:=xs.toArray,argTypes:=ats },ty,ps,af,gd⟩ E ((((wH E ds r q tr u).app (cWr d res [(i,ds,u')]) (wS d [(i,ds,u')]))).app [(r,dS tr'),(ds,dS (.same r q))] [(r,q.length+1),(ds,1)]):=by
 simp only[J2]at sd;obtain⟨⟨⟨⟨⟨⟨s1,s2⟩,s3⟩,s4⟩,s5⟩,s6⟩,s7⟩:=sd;have d1:d≠ds:=by simpa using s2
 have d2:d≠r:=by simpa using s3
 have d3:ds≠r:=by simpa using s4
 obtain⟨u1,u2,u3⟩:=uR s5 [];obtain⟨v1,v2,v3⟩:=uR s6 [];have d9:cLv u'=1:=by simp[cLv,v3]
 subst gx;intro S
 by_cases mK:q=[]
 ·subst mK
  have htu:tr=u:=by
   have:tr.get []=dS tr:=by cases tr<;>rfl
   simp only[H8]at hq;rw[this]at hq;exact Lh.inj hq
  subst htu;have pi:∀a b:T,a.set [] b=b:=fun a b=>by cases a<;>rfl
  have mw:(wH E ds r [] tr tr) ds=dS tr:=by simp[wH,Env.app,Wr.find]
  have cI:((wH E ds r [] tr tr).app (cWr d res [(i,ds,u')]) (wS d [(i,ds,u')])) r=dS (.same ds []):=by
   have h1:(wH E ds r [] tr tr) r=dS (.same ds []):=by simp[wH,Env.app,Wr.find,d3]
   have h2:(cWr d res [(i,ds,u')]).find r=dT:=by simp[cWr,Wr.find,d2,d3]
   have h3:(T.same ds []).okB (wS d [(i,ds,u')])=dU:=by simp[T.okB,zA7,wS,d1,d9]
   simp only[Env.app,h2,h1,h3,if_true]
  have cJ:((wH E ds r [] tr tr).app (cWr d res [(i,ds,u')]) (wS d [(i,ds,u')])) ds=dS u':=by simp[Env.app,Wr.find,cWr,d1]
  have:=zLv (P:=P) (Γ:=Γ.at S) (E:=E) (o:=⟨dS d,.call { callee:=.value (.func f),args:=xs.toArray,argTypes:=ats },ty,ps,af,gd⟩) f (.func f) xs ats us res i ds r [] tr tr u' rfl rfl (zW s1) gn rfl hs hr hq u3 eH d3 d2 (uR s7 _).1 (uR s7 []).2.1
   (wH E ds r [] tr tr) _ rfl rfl hc gj (.one d1 hx eD v3 br mw u3 hu) gw (.same ds []) (.same ds []) cI rfl rfl cJ eD v3 (by simp[T.okB,zA7]) rfl (uR s6 _).1 v2
  rw[H8,pi]at this ⊢
  exact this
 ·have aP:q.reverse≠[]:=by simpa using mK
  have mw:(wH E ds r q tr u) ds=dS u:=by simp[wH,Env.app,Wr.find]
  have dK:=zSg s7 q.reverse (u:=.any) aP;have cI:((wH E ds r q tr u).app (cWr d res [(i,ds,u')]) (wS d [(i,ds,u')])) r=dS (tr.set q.reverse .any):=by
   have h1:(wH E ds r q tr u) r=dS (tr.set q.reverse .any):=by simp[wH,Env.app,Wr.find,d3,mK]
   have h2:(cWr d res [(i,ds,u')]).find r=dT:=by simp[cWr,Wr.find,d2,d3]
   simp[Env.app,h2,h1,(uR dK _).1]
  have cJ:((wH E ds r q tr u).app (cWr d res [(i,ds,u')]) (wS d [(i,ds,u')])) ds=dS u':=by simp[Env.app,Wr.find,cWr,d1]
  have:=zLv (P:=P) (Γ:=Γ.at S) (E:=E) (o:=⟨dS d,.call { callee:=.value (.func f),args:=xs.toArray,argTypes:=ats },ty,ps,af,gd⟩) f (.func f) xs ats us res i ds r q tr u u' rfl rfl (zW s1) gn rfl hs hr hq u3 eH d3 d2 (uR s7 _).1 (uR s7 []).2.1
   (wH E ds r q tr u) _ rfl rfl hc gj (.one d1 hx eD v3 br mw u3 hu) gw (tr.set q.reverse .any) .any cI (zKm _ _ _ _ hq) rfl cJ eD v3 (uR dK _).1 (uR dK []).2.1 (uR s6 _).1 v2
  rw[set_set _ _ _ _ _ hq]at this;exact this
theorem zVv{f:FuncId}{xs:List Operand}{ats:Array TypeId}{us res:List T}{xf:Operand}(hf:opT E xf=dS (.lit (.func (.func f) #[] #[])))(gn:kG P f)(hc:FnC P f us res [])(gj:xG E [] 0 xs us)(gw:zBQ res)(sd:J5 d Γ.N=dU):
  Ok P Γ ⟨dS d,.call { callee:=.value xf,args:=xs.toArray,argTypes:=ats },ty,ps,af,gd⟩ E (E.app (cWr d res []) (wS d [])):=
 fun _=>zOV f xf xs ats us res [] rfl rfl (zW sd) gn hf hc gj .nil gw
def zEk(E:Env):List Operand→List T→Prop
 | [],[]=>True
 |x::xs,u::us=>(opT E x=dS u∧u.flat=dU)∧zEk E xs us
 |_,_=>False
theorem afN:zEk E [] []:=trivial
theorem afC{x:Operand}{xs:List Operand}{u:T}{us:List T}(h:opT E x=dS u)(h1:u.flat=dU)(h2:zEk E xs us):zEk E (x::xs) (u::us):=⟨⟨h,h1⟩,h2⟩
theorem zEk.get:(xs:List Operand)→(us:List T)→zEk E xs us→ ∀(i:Nat) u,us[i]? =dS u→ ∃x,xs[i]? =dS x∧opT E x=dS u∧u.flat=dU
 | [],[],_,i,u,h=>by simp at h
 |x::xs,v::us,h,i,u,hi=>by
  cases i with
  |zero=>simp at hi;subst hi;exact⟨x,by simp,h.1⟩
  |succ i=>obtain⟨y,h1,h2⟩:=zEk.get xs us h.2 i u (by simpa using hi);exact⟨y,by simpa using h1,h2⟩
 | [],_::_,h,_,_,_=>by simp[zEk]at h
 |_::_,[],h,_,_,_=>by simp[zEk]at h
theorem zGG{f:FuncId}{xs:List Operand}{ats:Array TypeId}{us res:List T}(gn:kG P f)(hc:FnC P f us res [])(ha:zEk E xs us)(gk:xs.length=us.length)(gw:yK res)(eW:yE res=dU)(sd:J5 d Γ.N=dU):
  Ok P Γ ⟨dS d,.call { callee:=.value (.func f),args:=xs.toArray,argTypes:=ats },ty,ps,af,gd⟩ E (E.app (cWr d res []) (wS d [])):=
 zVs gn hc gk (zEk.get _ _ ha) ⟨gw,eW⟩ sd
end
noncomputable def zCQ {α:Type} (g:Nat→Option α):Option α:=
 open Classical in if h:∃r,∃n,∀m,n≤m→g m=dS r then dS h.choose else dT
theorem kH{α:Type}{g:Nat→Option α}{r:α}(h:zCQ g=dS r):∃n,g n=dS r:=by
 unfold zCQ at h;split at h
 ·rename_i he
  simp at h;obtain⟨n,hn⟩:=he.choose_spec;exact⟨n,by rw[←h];exact hn n (Jd _)⟩
 ·cases h
theorem zBR{α:Type}{g:Nat→Option α}{r:α}(n:Nat)(h:∀m,n≤m→g m=dS r):zCQ g=dS r:=by have he:∃r,∃n,∀m,n≤m→g m=dS r:=⟨r,n,h⟩;unfold zCQ;rw[dif_pos he];obtain⟨n',hn'⟩:=he.choose_spec;have h1:=h (max n n') (by omega);have h2:=hn' (max n n') (by omega);rw[h1]at h2;exact h2.symm
end Go.Ab

namespace Go.Ab
open Go
section
variable {P:Program}{Γ:Ctx}{ops:Array Oper}{o:Oper}{E:Env}
theorem yQ.skipW{d:Nat}(hd:o.dst=dS d)(sd:J5 d Γ.N=dU)(hw:∀(a:Act)(w:World),jY Γ E a w→Region.wanted o (yielded ops a.tmps)=dV):yQ P Γ ops o E (E.app [(d,dS (.tup []))] [(d,0)]):=by
 intro a w K Q hs hK;rw[if_neg (by grind)];obtain⟨S,hS,gR,G,g9⟩:=hs;refine hK _ _ ⟨S,hS,by rw[hd];exact gR,G.put d (fun _=>.bool dV),?_⟩ ?_
 ·rw[hd]
  have hu:(Value.bool dV).oneCell'=dU:=rfl;refine wW g9 (by simp[Act.put]) (G.put_keep rfl d _) (g9.mem.put rfl d _ fun _=>hu) ?_ ?_
  ·grind[tG,Act.put]
  ·intro s t' hs
   rw[tG]at hs;split at hs
   ·rename_i e;subst e
    simp at hs;subst hs;have gv:=g9.size;have gE:=zW sd;refine⟨?_,by simp[R,RF],by simp[Top,uB]⟩
    grind[Act.put,mkV,zAm,undef]
   ·cases hs
 grind[Act.put]
theorem yQ.skip2{d:Nat}(g:Nat)(b b':Bool)(s:Nat)(hd:o.dst=dS d)(sd:J5 d Γ.N=dU)(cH:(b==b')=dV)(hg:o.guard=dS (g,b))(gO:(ops[g]?).bind (·.dst)=dS s)(hb:E s=dS (.lit (.bool b'))):
  yQ P Γ ops o E (E.app [(d,dS (.tup []))] [(d,0)]):=.skipW hd sd fun a w hs=>by
 simp only[Region.wanted,hg,zHq hs gO hb]
 grind
theorem yQ.skip3{d:Nat}(g:Nat)(b:Bool)(s:Nat)(hd:o.dst=dS d)(sd:J5 d Γ.N=dU)(hg:o.guard=dS (g,b))(gO:(ops[g]?).bind (·.dst)=dS s)(hb:E s=dS (.tup [])):
  yQ P Γ ops o E (E.app [(d,dS (.tup []))] [(d,0)]):=.skipW hd sd fun a w hs=>by
 obtain⟨_,_,_,G,hr⟩:=hs;obtain⟨h1,_,_⟩:=hr.ent s _ hb
 grind[Region.wanted,yielded,mkV]
theorem yQ.opE{E1 E':Env}(h:Ok P Γ o E E1)(e:E1=E')(hg:o.guard=dT:=by rfl):yQ P Γ ops o E E':=e▸yQ.op h hg
theorem yQ.guardE{E1 E':Env}(g:Nat)(b:Bool)(s:Nat)(h:Ok P Γ o E E1)(hg:o.guard=dS (g,b))(gO:(ops[g]?).bind (·.dst)=dS s)(hb:E s=dS (.lit (.bool b)))(e:E1=E'):yQ P Γ ops o E E':=e▸yQ.guard g b s h hg gO hb
end
def yZ(Γ:Ctx)(P:Program)(rs:Array ResultVar)(us res:List T)(rws:List (Nat×T)):Exit→Env→Prop:=fun e E=> ∃E',zK Γ E E'∧yAp P rs us res rws e E'
theorem FnC.of_bodyG{P:Program}{f:FuncId}{fn:Func}{c:Code}{us res:List T}{rws:List (Nat×T)}(hf:P.funcs[f]? =dS fn)(hb:fn.body=dS c)(hn:us.length≤fn.ntmps)(ht:uB us)(hr:rws.all (fun x=>decide (x.1<us.length))=dU)
  (h:∀(Γ:Ctx)(v:Nat→Value),Γ.N=fn.ntmps→CW P Γ (zCL v (rws.map (·.1))) c (wT (zI4 0 us)) (yZ Γ P fn.results us res rws)):FnC P f us res rws:=by
 refine FnC.of_body hf hb hn ht hr fun Γ v hN=>?_
 intro a w Q' hs hp hQ;refine h Γ v hN a w Q' hs hp ?_
 rintro e E a' w' ⟨E',hg,hq⟩ gM fT
 exact hQ e E' a' w' hq (hg a' w' gM) fT
def zVw(t:T):Prop:=zQ t∧wK t=dU∧strip t=t∧t.okTup=dU∧zFv t=dU
def zSh:List T→Prop
 | []=>True
 |x::xs=>zVw x∧zSh xs
theorem Enc.t{α:Type}{f:α→T}(h:Enc f)(x:α):zVw (f x):=⟨h.clean x,h.rofree x,h.strip x,h.okTup x,h.rook x⟩
theorem Enc.of{α:Type}{f:α→T}(h:∀x,zVw (f x)):Enc f:=⟨fun x=>(h x).1,fun x=>(h x).2.1,fun x=>(h x).2.2.1,fun x=>(h x).2.2.2.1,fun x=>(h x).2.2.2.2⟩
theorem zSi{xs:List T}(h:zSh xs):zVw (.agg xs):=by
 have key:∀xs:List T,zSh xs→yK xs∧vB xs=dU∧wB xs=xs∧yE xs=dU∧zBJ xs=dU:=by
  intro xs
  induction xs with
  |nil=>intro _;exact⟨trivial,rfl,rfl,rfl,rfl⟩
  |cons x xs ih=>
   rintro⟨⟨h1,h2,h3,h4,h5⟩,h⟩
   obtain⟨g1,g2,g3,g4,g5⟩:=ih h;exact⟨⟨h1,g1⟩,by grind[vB],by grind[wB],by grind[yE],by grind[zBJ]⟩
 obtain⟨g1,g2,g3,g4,g5⟩:=key xs h;exact⟨zCO g1,by grind[wK],by grind[strip],by grind[T.okTup],by grind[zFv]⟩
end Go.Ab

namespace Go.Ab
open Go
section
variable {Γ:Ctx}{E:Env}{d:Nat}
def Gh.cut(G:Gh)(d s0 b lo hi:Nat)(v:Value):Gh where
 hd s z:=if s=d then(if z=[]then v else G.hd s0 z)else G.hd s z
 ad s z:=if s=d then G.ad s0 z else G.ad s z
 lb b' o:=if b'=b∧lo≤o∧o<hi then dS (dU,d,[])else match G.lb b' o with
  |some (f,s,z)=>if s=s0 then dS (f,d,z)else dS (f,s,z)
  |none=>dT
 ow b':=match G.ow b' with
  |some (s,z)=>if s=s0 then dS (d,z)else dS (s,z)
  |none=>dT
theorem zPa{G:Gh}{tmps:Array Value}{w:World}(g9:Rep Γ E G tmps w)(hd:d<Γ.N){s0 k h cap':Nat}{xs:List T}(e6:E s0=dS (.sl k xs))(gc:s0≠d)(hk:0<k)
  {b o0 cap:Nat}{cs:Array Value}{e:TypeId}(h1:G.hd s0 []=.slice (dS ⟨b,o0,dT⟩) xs.length cap)(h2:w.heap[b]? =dS (.cells cs e (0,0)))(_h3:xs.length≤cap)(h4:cap≤maxLen)(h5:o0+cap*k≤cs.size)(h6:G.ow b=dS (s0,[]))
  (h7:∀o,o0+xs.length*k≤o→o<o0+cap*k→G.lb b o=dS (dU,s0,[]))(h8:RL Γ.St G w s0 xs [] 0 b o0 k)(hh:h≤xs.length)(hc:h≤cap')(fj:cap'≤cap):
  ∃G',Rep Γ (E.app [(d,dS (.sl k (xs.take h))),(s0,dS .any)] [(d,0),(s0,1)]) G' (tmps.setIfInBounds d (.slice (dS ⟨b,o0,dT⟩) h cap')) w:=by
 have hm:=g9.mem;obtain⟨e1,_,e3⟩:=g9.ent s0 _ e6
 let v:Value:=.slice (dS ⟨b,o0,dT⟩) h cap'
 let G':=G.cut d s0 b (o0+h*k) (o0+cap'*k) v
 have gL:=hm.ow b _ h6;have pD:∀o f z i,o0+h*k≤o→o<o0+cap'*k→G.lb b o=dS (f,s0,z++[i])→h≤i:=by
  intro o f z i fU fL hl;obtain⟨o,rfl⟩:∃o',o=o0+o':=⟨o-o0,by have:o0≤o0+h*k:=Nat.le_add_right _ _;omega⟩
  replace fU:h*k≤o:=by omega
  by_cases ho:o<xs.length*k
  ·have hj:o/k<xs.length:=(Nat.div_lt_iff_lt_mul hk).2 ho
   obtain⟨g1,g2,_⟩:=sL xs [] 0 b o0 k (o/k) xs[o/k] h8 (by simp[hj]);obtain⟨y,hy⟩:=zJW xs[o/k] _ b _ (o%k) g1 (by rw[g2];exact Nat.mod_lt _ hk);rw[Ja,Ll,Uw,Nat.div_add_mod,hl]at hy;simp only[Lh.injEq,Qj.injEq]at hy;have:=hy.2.2;have hi:i=o/k:=by have:=congrArg List.getLast? this;simpa using this
   rw[hi];exact(Nat.le_div_iff_mul_le hk).2 fU
  ·have:=h7 (o0+o) (by omega) (by have:=Kz k fj;omega)
   rw[hl]at this;simp at this
 have glb:∀b' o f z,G.lb b' o=dS (f,s0,z)→ ¬(b'=b∧o0+h*k≤o∧o<o0+cap'*k)→G'.lb b' o=dS (f,d,z):=fun b' o f z hl hn=>by show(if _ then _ else _)=_;rw[if_neg hn];simp[hl]
 have gow:∀b' z,G.ow b'=dS (s0,z)→G'.ow b'=dS (d,z):=fun b' z hl=>by simp[G',Gh.cut,hl]
 have mv:∀i,i<h→zGV G w G' w s0 [i] d [i]:=fun i hi=>by
  have hn:∀b' o f z,G.lb b' o=dS (f,s0,z++[i])→ ¬(b'=b∧o0+h*k≤o∧o<o0+cap'*k):=by
   rintro b' o f z hl ⟨rfl,fU,fL⟩
   have:=pD o f z i fU fL hl;omega
  refine⟨⟨fun z=>by simp[G',Gh.cut],fun z _=>by simp[G',Gh.cut],fun b' o f z _ _ hl=>⟨glb _ _ _ _ hl (hn _ _ _ _ hl),rfl⟩,fun b' z _ hl=>gow _ _ hl,fun b' cs' e' hb=>⟨cs',hb,rfl⟩⟩,fun b' o _ hl=>⟨glb _ _ _ _ hl (hn b' o dU [] (by simpa using hl)),rfl⟩,fun b' hl=>gow _ _ hl⟩
 have gy:qN [(d,0),(s0,1)] G w G' w:=by
  refine⟨fun s p ho=>?_,fun s p ho=>?_,fun b' o f s p gU hl hs=>?_,fun b' s p hl hs=>?_,fun b' cs' e' hb=>⟨cs',hb,rfl⟩⟩
  ·have:s≠d:=fun e=>absurd (ho 0 (by simp[e])) (by simp)
   simp[G',Gh.cut,this]
  ·have:s≠d:=fun e=>absurd (ho 0 (by simp[e])) (by simp)
   simp[G',Gh.cut,this]
  ·have ep:s≠s0:=fun e=>hs 1 (by simp[e])
   obtain⟨y,hy⟩:=gU;have cH:b'≠b:=by
    rintro rfl
    rw[h6]at hy;simp at hy;exact ep hy.1.symm
   refine⟨?_,rfl⟩;show(if _ then _ else _)=_;rw[if_neg (fun hn=>cH hn.1)];simp[hl,ep]
  ·have ep:s≠s0:=fun e=>hs 1 (by simp[e])
   simp[G',Gh.cut,hl,ep]
 have gu:Mem Γ G' w:=by
  refine⟨fun s z=>?_,fun b' o l hl=>?_,fun b' l hl=>?_,hm.st,hm.fr,hm.sz,hm.bk⟩
  ·show(if _ then _ else _:Value).oneCell'=dU
   split
   ·split
    ·rfl
    ·exact hm.one _ _
   ·exact hm.one _ _
  ·change(if _ then _ else _)=_ at hl
   split at hl
   ·rename_i hn;rw[hn.1];exact gL
   ·cases hg:G.lb b' o with
    |none=>simp[hg]at hl
    |some x=>exact hm.lb b' o x hg
  ·cases hg:G.ow b' with
   |none=>simp[G',Gh.cut,hg]at hl
   |some x=>exact hm.ow b' x hg
 refine⟨G',wW g9 (by simp) gy gu ?_ ?_⟩
 ·intro s hs
  have fe:s≠d:=by rintro rfl;simp[Wr.find]at hs
  have ff:s≠s0:=by rintro rfl;simp[Wr.find,gc.symm]at hs
  exact⟨fun n hn=>by simp at hn;rcases hn with h|h;exact fe h.1;exact ff h.1,by rw[Jc];simp[fe.symm]⟩
 ·intro s t' hs
  by_cases ep:s=d
  ·subst ep
   simp[Wr.find]at hs;subst hs;have gk:(xs.take h).length=h:=by simp;omega
   simp only[Top]at e3;have dh:∀ys:List T,yK ys→ ∀n,yK (ys.take n):=by
    intro ys
    induction ys with
    |nil=>intro _ n;simp[yK,xF]
    |cons y ys ih=>intro hy n;cases n with
     |zero=>simp[yK,xF]
     |succ n=>exact⟨hy.1,ih hy.2 n⟩
   refine⟨?_,?_,by simp only[Top];exact dh xs e3 h⟩
   ·rw[Jc]
    simp[g9.size,hd,mkV,G',Gh.cut,v]
   ·simp only[R]
    refine .inr ⟨b,o0,cap',cs,e,by rw[gk];simp[G',Gh.cut,v],h2,by omega,by omega,by have:=Kz k fj;omega,gow b _ h6,fun o fU fL=>?_,?_⟩
    ·rw[gk]at fU
     show(if _ then _ else _)=_;rw[if_pos ⟨rfl,fU,fL⟩]
    ·refine zEg _ [] 0 b o0 fun i x hx=>?_
     rw[Ly]at hx;split at hx
     ·rename_i hi
      obtain⟨g1,g2,g3⟩:=sL xs [] 0 b o0 k i x h8 hx;rw[Ja]at g1 g3 ⊢
      refine⟨?_,g2,zAa (mv i hi) x (yN.mono (fun _ _=>False.elim) _ (vR xs e3 i x hx)) g3⟩;refine zE8 x [i] [i] b _ (fun z=>by simp[G',Gh.cut]) (fun z=>by simp[G',Gh.cut]) (fun b' o z hl=>⟨glb _ _ _ _ hl ?_,rfl⟩) g1
      rintro⟨rfl,fU,fL⟩
      have:=pD o dV z i fU fL hl;omega
     ·cases hx
  ·have h9:s=s0∧t'=.any:=by
    simp only[Wr.find]at hs;rw[if_neg (fun h=>ep h.symm)]at hs;split at hs
    ·rename_i h;simp at hs;exact⟨h.symm,hs.symm⟩
    ·cases hs
   obtain⟨rfl,rfl⟩:=h9;refine⟨?_,by simp only[R],by simp[Top]⟩;rw[Jc];simp only[Ne.symm ep,if_false,mkV];rw[e1,yR rfl];simp[G',Gh.cut,ep]
theorem zL4{G:Gh}{tmps:Array Value}{w:World}(g9:Rep Γ E G tmps w)(hd:d<Γ.N){s0 k:Nat}(e6:E s0=dS (.sl k []))(gc:s0≠d)(a:Option Addr):
  ∃G',Rep Γ (E.app [(d,dS (.sl k [])),(s0,dS .any)] [(d,0),(s0,1)]) G' (tmps.setIfInBounds d (.slice a 0 0)) w:=by
 obtain⟨e1,_,_⟩:=g9.ent s0 _ e6;refine⟨G.put d (fun _=>.slice a 0 0),?_⟩;have hk:qN [(d,0),(s0,1)] G w (G.put d fun _=>.slice a 0 0) w:=by have h0:=G.put_keep (w:=w) (w':=w) rfl d (fun _=>.slice a 0 0);refine⟨fun s p ho=>h0.hd s p (fun n hn=>ho n (by simp at hn ⊢;exact .inl hn)),fun s p ho=>h0.ad s p (fun n hn=>ho n (by simp at hn ⊢;exact .inl hn)),fun b o f s p h1 h2 h3=>h0.lb b o f s p h1 h2 (fun n hn=>h3 n (by simp at hn ⊢;exact .inl hn)),fun b s p h1 h3=>h0.ow b s p h1 (fun n hn=>h3 n (by simp at hn ⊢;exact .inl hn)),h0.blk⟩
 refine wW g9 (by simp) hk (g9.mem.put rfl d _ (fun _=>rfl)) ?_ ?_
 ·intro s hs
  have fe:s≠d:=by rintro rfl;simp[Wr.find]at hs
  have ff:s≠s0:=by rintro rfl;simp[Wr.find,gc.symm]at hs
  exact⟨fun n hn=>by simp at hn;rcases hn with h|h;exact fe h.1;exact ff h.1,by rw[Jc];simp[fe.symm]⟩
 ·intro s t' hs
  by_cases ep:s=d
  ·subst ep
   simp[Wr.find]at hs;subst hs;refine⟨by rw[Jc];simp[g9.size,hd,mkV,Gh.put],by simp only[R];exact .inl ⟨trivial,a,by simp[Gh.put]⟩,by simp[Top,yK,xF]⟩
  ·have h9:s=s0∧t'=.any:=by
    simp only[Wr.find]at hs;rw[if_neg (fun h=>ep h.symm)]at hs;split at hs
    ·rename_i h;simp at hs;exact⟨h.symm,hs.symm⟩
    ·cases hs
   obtain⟨rfl,rfl⟩:=h9;refine⟨?_,by simp only[R],by simp[Top]⟩;rw[Jc];simp only[Ne.symm ep,if_false,mkV];rw[e1,yR rfl];simp[Gh.put,ep]
end
section
variable {P:Program}{Γ:Ctx}{pn:tT}{E E':Env}{Q:Exit→Env→Prop}{d:Nat}{x y:Operand}{ty:TypeId}{ps:String}{af:Array Edge}{gd:Option (Nat×Bool)}
theorem zSj{α:Type}{t e:TypeId}{ti:TypeInfo}{s0 k:Nat}{f:α→T}{xs ys:List α}{mx:Option Operand}{h:Int}{u:T}(ht:ElT P t e ti k u)(hv:zL xs 0 h=dS ys)(h0:E s0=dS (L k f xs))(hy:opT E y=dS (I h))(tq:mx=dT∨ ∃z,mx=dS z∧opT E z=dS (I h))(sd:(J5 d Γ.N&&(s0 != d))=dU):
  Ok P Γ ⟨dS d,.slice t (.tmp s0) dT (dS y) mx,ty,ps,af,gd⟩ E (E.app [(d,dS (L k f ys)),(s0,dS .any)] [(d,0),(s0,1)]):=by
 obtain⟨_,fX,eJ,rfl⟩:=uI hv;simp only[J2]at sd;have gc:s0≠d:=by simpa using sd.2
 obtain⟨n,rfl⟩:∃n:Nat,h=n:=⟨h.toNat,by omega⟩;have hn:n≤xs.length:=by omega
 intro S;refine xM.value rfl fun a w G g9=>?_
 obtain⟨e1,e2,_⟩:=g9.ent s0 _ h0;have fP:=(yP g9 hy).1;have fa:a.eval (.tmp s0)=G.hd s0 []:=by rw[xK e1,yR rfl]
 have fY:=ht.un;have gN:=ht.info;have gv:=ht.size;have cz:List.map f ((xs.drop (0:Int).toNat).take ((n:Int).toNat-(0:Int).toNat))=(xs.map f).take n:=by simp[Ua]
 rw[show L k f ((xs.drop (0:Int).toNat).take ((n:Int).toNat-(0:Int).toNat))=.sl k ((xs.map f).take n)by simp only[L,cz]];have e2':=e2;simp only[R]at e2;rcases e2 with⟨m8,ad,h1⟩|⟨b,o0,cap,cs,e',h1,h2,h3,h4,h5,h6,h7,h8⟩
 ·have ek:xs=[]:=by simpa using m8
  subst ek;simp at hn;subst hn;obtain⟨G',gm⟩:=zL4 g9 (zW sd.1) (k:=k) (by rw[h0];rfl) gc ad;refine⟨_,w,?_,G',by simpa using gm⟩;rcases tq with rfl|⟨z,rfl,hz⟩
  ·simp[execOp,Instr.sliceAt,Instr.slice,run_underlying fY,fa,h1,fP,sizeOf,typeInfo,gN,Instr.sliceBounds,Instr.sliceBound,asIntOf]
  ·have pI:=(yP g9 hz).1
   simp[execOp,Instr.sliceAt,Instr.slice,run_underlying fY,fa,h1,fP,pI,sizeOf,typeInfo,gN,Instr.sliceBounds,Instr.sliceBound,asIntOf]
 ·rw[Jg]at h1 h3
  have mN:n≤cap:=by omega
  have hcz:cap=0→n=0:=by omega
  rcases tq with rfl|⟨z,rfl,hz⟩
  ·obtain⟨G',gm⟩:=zPa g9 (zW sd.1) h0 gc ht.pos (by rw[Jg];exact h1) h2 (by rw[Jg];exact h3) h4 h5 h6 h7 h8 (h:=n) (cap':=cap) (by simpa using hn) mN (Jd _)
   refine⟨_,w,?_,G',gm⟩;simp[execOp,Instr.sliceAt,Instr.slice,run_underlying fY,fa,h1,fP,sizeOf,typeInfo,gN,Instr.sliceBounds,Instr.sliceBound,asIntOf,mN,vJ]
  ·have pI:=(yP g9 hz).1
   obtain⟨G',gm⟩:=zPa g9 (zW sd.1) h0 gc ht.pos (by rw[Jg];exact h1) h2 (by rw[Jg];exact h3) h4 h5 h6 h7 h8 (h:=n) (cap':=n) (by simpa using hn) (Jd _) mN;refine⟨_,w,?_,G',gm⟩;simp[execOp,Instr.sliceAt,Instr.slice,run_underlying fY,fa,h1,fP,pI,sizeOf,typeInfo,gN,Instr.sliceBounds,Instr.sliceBound,asIntOf,mN,vJ]
end
end Go.Ab

namespace Go.Ab
open Go
section
variable {P:Program}{Γ:Ctx}{pn:tT}{E E':Env}{Q:Exit→Env→Prop}{d:Nat}{x y:Operand}{ty:TypeId}{ps:String}{af:Array Edge}{gd:Option (Nat×Bool)}{ops:Array Oper}{os:List Oper}
theorem zJb{P:Program}{w:World}{t e:TypeId}{a:Option Addr}{n c:Nat}(m:Nat)(h:P.underlying t=dS (.slice e)):(Op.equalIn (m+1) t (.slice a n c) (.slice dT 0 0)).run P w=.ok a.isNone w:=by simp only[Op.equalIn,Sem.run_bind,run_underlying h];cases a<;>rfl
theorem RW.isnil{α:Type}{xt yt e:TypeId}{r k:Nat}{q:List Nat}{f:α→T}{xs:List α}{u:T}(hu:P.underlying xt=dS (.slice e))(hx:uT E x=dS (r,q,u))(fZ:u=.ro (L k f xs)∨u=L k f xs)(sd:J5 d Γ.N=dU)(hp:pn.ok (dS d)=dU)
  (h:∀b,(b=dU→xs=[])→RW P Γ pn ops os (E.app [(d,dS (B b))] [(d,0)]) Q):RW P Γ pn ops (⟨dS d,.binOp .eql xt x (.const (.slice dT 0 0)) yt,ty,ps,af,dT⟩::os) E Q:=by
 intro a w Q' hs fA hQ;obtain⟨S,hS,gR,G,g9⟩:=id hs;have fo:u.single=dU:=by rcases fZ with rfl|rfl<;>rfl
 obtain⟨h1,h2⟩:=qB g9 hx fo;obtain⟨ad,n,c,h3,h4⟩:∃ad n c,a.eval x=.slice ad n c∧(ad.isNone=dU→xs=[]):=by
  rcases fZ with rfl|rfl
  ·obtain⟨ad,c,g1,_,_,g2⟩:=zDm h1
   refine⟨ad,_,c,by rw[h2,g1],fun hn=>?_⟩;apply Classical.byContradiction;intro gc;obtain⟨b,o',_,_,_,rfl,_⟩:=g2 (by simpa using gc);simp at hn
  ·simp only[R]at h1
   rcases h1 with⟨g1,ad,g2⟩|⟨b,_,cap,cs,e',g1,_⟩
   ·exact⟨ad,0,0,by rw[h2,g2],fun _=>by simpa using g1⟩
   ·exact⟨_,_,_,by rw[h2,g1],fun hn=>by simp at hn⟩
 have gA:(execOp a.eval ⟨dS d,.binOp .eql xt x (.const (.slice dT 0 0)) yt,ty,ps,af,dT⟩).run P w=.ok (.value (.bool ad.isNone)) w:=by have h5:(Op.equalIn 10000 xt (.slice ad n c) (.slice dT 0 0)).run P w=.ok ad.isNone w:=zJb 9999 hu;have h6:a.eval (.const (.slice dT 0 0))=.slice dT 0 0:=rfl;simp[execOp,h3,h6,eqGuard,binOp,zCP,h5]
 simp only[wpL,Region.wanted,if_true];refine .inl ?_;unfold Oper.wp;rw[gA,Oper.upon_value];have fc:=wI g9 rfl (zW sd) (fun _=>.bool ad.isNone) (fun _=>rfl) (B ad.isNone) (.bool ad.isNone) (by simp[mkV,Gh.put]) (by simp[R,Gh.put]) (by simp[Top]);refine h ad.isNone h4 _ w Q' ⟨S,hS,gR,_,fc⟩ ?_ hQ;refine fA.frame hp fun s gM=>?_
 have:d≠s:=fun e=>gM (by rw[e])
 simp[Act.put,Array.getElem?_setIfInBounds_ne this]
theorem zL5{t e:TypeId}(hu:P.underlying t=dS (.slice e))(hx:opT E x=dS (.lit (.slice dT 0 0)))(sd:J5 d Γ.N=dU):Ok P Γ ⟨dS d,.call { callee:=.builtin .len,args:=#[x],argTypes:=#[t] },ty,ps,af,gd⟩ E (E.app [(d,dS (I 0))] [(d,0)]):=by
 intro S;refine uN (.int .i64 0) rfl rfl (zW sd) fun a w G g9=>?_
 have h1:=(yP g9 hx).1;simp[execOp,resolve,invoke,builtin,h1,Builtin.len_,run_underlying hu,goInt]
theorem zL6{t e:TypeId}(hu:P.underlying t=dS (.slice e))(hx:opT E x=dS (.lit (.slice dT 0 0)))(sd:J5 d Γ.N=dU):Ok P Γ ⟨dS d,.call { callee:=.builtin .cap,args:=#[x],argTypes:=#[t] },ty,ps,af,gd⟩ E (E.app [(d,dS (I 0))] [(d,0)]):=by
 intro S;refine uN (.int .i64 0) rfl rfl (zW sd) fun a w G g9=>?_
 have h1:=(yP g9 hx).1;simp[execOp,resolve,invoke,builtin,h1,Builtin.cap_,run_underlying hu,goInt]
theorem zVx{t e:TypeId}{ti:TypeInfo}{u:T}{k:Nat}(ht:ElT P t e ti k u)(hx:opT E x=dS (.lit (.slice dT 0 0)))(hy:opT E y=dS (I 0))(sd:J5 d Γ.N=dU):Ok P Γ ⟨dS d,.slice t x dT (dS y) dT,ty,ps,af,gd⟩ E (E.app [(d,dS (.sl k []))] [(d,0)]):=by
 intro S;refine xM.value rfl fun a w G g9=>?_
 have h1:=(yP g9 hx).1;have h2:=(yP g9 hy).1;refine⟨.slice dT 0 0,w,?_,_,wI g9 rfl (zW sd) (fun _=>.slice dT 0 0) (fun _=>rfl) (.sl k []) (.slice dT 0 0) (by simp[mkV,Gh.put]) (by simp[R,Gh.put]) (by simp[Top,yK,xF])⟩;simp[execOp,Instr.sliceAt,Instr.slice,run_underlying ht.un,h1,h2,sizeOf,typeInfo,ht.info,Instr.sliceBounds,Instr.sliceBound,asIntOf]
theorem zK.nil(s k:Nat)(hs:E s=dS (.lit (.slice dT 0 0))):zK Γ E (E.app [(s,dS (.sl k []))] [(s,0)]):=by
 rintro a w ⟨S,hS,gR,G,g9⟩
 refine⟨S,hS,gR,G,?_⟩;have hk:qN [(s,0)] G w G w:=⟨fun _ _ _=>rfl,fun _ _ _=>rfl,fun _ _ _ _ _ _ h _=>⟨h,rfl⟩,fun _ _ _ h _=>h,fun b cs e h=>⟨cs,h,rfl⟩⟩;refine wW g9 rfl hk g9.mem (fun s' gM=>⟨fun n hn=>?_,rfl⟩) fun s' t gM=>?_
 ·simp at hn
  simp[Wr.find,hn.1]at gM
 ·simp only[Wr.find]at gM
  split at gM
  ·rename_i e;subst e
   simp at gM;subst gM;obtain⟨h1,h2,_⟩:=g9.ent s _ hs;simp only[R]at h2;exact⟨by rw[h1];rfl,by simp only[R];exact .inl ⟨trivial,dT,h2⟩,by simp[Top,yK,xF]⟩
  ·cases gM
theorem zGH{src dst:TypeId}{ds:TypeDesc}{k k':IntKind}{n:Int}(hs:P.underlying src=dS ds)(ht:P.underlying dst=dS (.int k'))(hx:opT E x=dS (IK k n))(sd:J5 d Γ.N=dU):
  Ok P Γ ⟨dS d,.convert src dst x,ty,ps,af,gd⟩ E (E.app [(d,dS (IK k' (k'.wrap n)))] [(d,0)]):=fun _=>zVh src dst ds x k k' n rfl rfl (zW sd) hs ht hx
theorem zYy{k:IntKind}{m n:Int}{xt yt:TypeId}(hx:opT E x=dS (IK k m))(hy:opT E y=dS (IK k n))(sd:J5 d Γ.N=dU):Ok P Γ ⟨dS d,.binOp .add xt x y yt,ty,ps,af,gd⟩ E (E.app [(d,dS (IK k (k.wrap (m+n))))] [(d,0)]):=
 fun _=>vX .add xt yt x y k m n _ rfl rfl (zW sd) hx hy rfl
theorem zYz{k:IntKind}{m n:Int}{xt yt:TypeId}(hx:opT E x=dS (IK k m))(hy:opT E y=dS (IK k n))(sd:J5 d Γ.N=dU):Ok P Γ ⟨dS d,.binOp .mul xt x y yt,ty,ps,af,gd⟩ E (E.app [(d,dS (IK k (k.wrap (m*n))))] [(d,0)]):=
 fun _=>vX .mul xt yt x y k m n _ rfl rfl (zW sd) hx hy rfl
theorem zY0{k:IntKind}{m n:Int}{xt yt:TypeId}(hx:opT E x=dS (IK k m))(hy:opT E y=dS (IK k n))(sd:J5 d Γ.N=dU):Ok P Γ ⟨dS d,.binOp .sub xt x y yt,ty,ps,af,gd⟩ E (E.app [(d,dS (IK k (k.wrap (m-n))))] [(d,0)]):=
 fun _=>vX .sub xt yt x y k m n _ rfl rfl (zW sd) hx hy rfl
theorem zNz{k:IntKind}{m n:Int}{xt yt:TypeId}(hx:opT E x=dS (IK k m))(hy:opT E y=dS (IK k n))(sd:J5 d Γ.N=dU):Ok P Γ ⟨dS d,.binOp .gtr xt x y yt,ty,ps,af,gd⟩ E (E.app [(d,dS (B (decide (m> n))))] [(d,0)]):=
 fun _=>vX .gtr xt yt x y k m n _ rfl rfl (zW sd) hx hy rfl
theorem zY1{k:IntKind}{m n:Int}{xt yt:TypeId}(hx:opT E x=dS (IK k m))(hy:opT E y=dS (IK k n))(sd:J5 d Γ.N=dU):Ok P Γ ⟨dS d,.binOp .eql xt x y yt,ty,ps,af,gd⟩ E (E.app [(d,dS (B (m==n)))] [(d,0)]):=
 fun _=>vX .eql xt yt x y k m n _ rfl rfl (zW sd) hx hy rfl
theorem zY2{k:IntKind}{m n:Int}{xt yt:TypeId}(hx:opT E x=dS (IK k m))(hy:opT E y=dS (IK k n))(sd:J5 d Γ.N=dU):Ok P Γ ⟨dS d,.binOp .lss xt x y yt,ty,ps,af,gd⟩ E (E.app [(d,dS (B (decide (m<n))))] [(d,0)]):=
 fun _=>vX .lss xt yt x y k m n _ rfl rfl (zW sd) hx hy rfl
def zC8(k:IntKind)(m n:Int):Int:=k.wrap ((BitVec.ofInt k.bits m &&& BitVec.ofInt k.bits n).toNat:Int)
theorem zY3{k:IntKind}{m n:Int}{xt yt:TypeId}(hx:opT E x=dS (IK k m))(hy:opT E y=dS (IK k n))(sd:J5 d Γ.N=dU):Ok P Γ ⟨dS d,.binOp .and xt x y yt,ty,ps,af,gd⟩ E (E.app [(d,dS (IK k (zC8 k m n)))] [(d,0)]):=by
 intro S;refine uN (.int k (zC8 k m n)) rfl rfl (zW sd) fun a w G g9=>?_
 have h1:=(yP g9 hx).1;have h2:=(yP g9 hy).1;simp[execOp,h1,h2,eqGuard,binOp,Op.intBits,zC8]
theorem zY4{k k':IntKind}{m n:Int}{xt yt:TypeId}(hn:0≤n)(hx:opT E x=dS (IK k m))(hy:opT E y=dS (IK k' n))(sd:J5 d Γ.N=dU):Ok P Γ ⟨dS d,.binOp .shr xt x y yt,ty,ps,af,gd⟩ E (E.app [(d,dS (IK k (m.fdiv (2 ^ (min n.toNat k.bits)))))] [(d,0)]):=by
 intro S;refine uN (.int k (m.fdiv (2 ^ (min n.toNat k.bits)))) rfl rfl (zW sd) fun a w G g9=>?_
 have h1:=(yP g9 hx).1;have h2:=(yP g9 hy).1;have h3:¬n<0:=by omega
 simp[execOp,h1,h2,eqGuard,binOp,Op.shift,h3]
end
end Go.Ab

namespace Go.Ab
open Go
structure zSk (P:Program) (f:Field) (i:Nat):Prop where
 name:f.name≠ "_"
 off:f.offset=i
 ty:P.underlying f.type=dS (.int .i64)
class zVy (P:Program) (t:TypeId):Prop where
 h:∃f0 f1 f2 f3:Field,P.underlying t=dS (.struct #[f0,f1,f2,f3])∧zSk P f0 0∧zSk P f1 1∧zSk P f2 2∧zSk P f3 3
 st:P.stoodInHeld t=dV
 gd:P.eqGuardType P.depth t=dV
theorem zEG{P:Program}{w:World}{f:Field}{i:Nat}(h:zSk P f i)(cs:Array Value)(v:Value)(hv:cs[i]? =dS v):(part f.type cs f.offset).run P w=.ok v w:=by simp[part,qK h.ty,zFq,h.off,hv]
theorem zSl{P:Program}{w:World}{t:TypeId}(h:zVy P t)(a b c d a' b' c' d':Int)(m:Nat):
  (Op.equalIn (m+2) t (.agg #[.int .i64 a,.int .i64 b,.int .i64 c,.int .i64 d]) (.agg #[.int .i64 a',.int .i64 b',.int .i64 c',.int .i64 d'])).run P w=.ok (a==a'&&(b==b'&&(c==c'&&d==d'))) w:=by
 obtain⟨f0,f1,f2,f3,h1,g0,g1,g2,g3⟩:=h.h;have k0:=fun(x y:Int)=>zGF (P:=P) (w:=w) (a:=x) (b:=y) m g0.ty
 have k1:=fun(x y:Int)=>zGF (P:=P) (w:=w) (a:=x) (b:=y) m g1.ty
 have k2:=fun(x y:Int)=>zGF (P:=P) (w:=w) (a:=x) (b:=y) m g2.ty
 have k3:=fun(x y:Int)=>zGF (P:=P) (w:=w) (a:=x) (b:=y) m g3.ty
 have gJ:=h.st;rw[Op.equalIn];simp only[Sem.run_bind,run_underlying h1];have q0:=fun(a b c d:Int)=>zEG (w:=w) g0 #[.int .i64 a,.int .i64 b,.int .i64 c,.int .i64 d] (.int .i64 a) rfl
 have q1:=fun(a b c d:Int)=>zEG (w:=w) g1 #[.int .i64 a,.int .i64 b,.int .i64 c,.int .i64 d] (.int .i64 b) rfl
 have q2:=fun(a b c d:Int)=>zEG (w:=w) g2 #[.int .i64 a,.int .i64 b,.int .i64 c,.int .i64 d] (.int .i64 c) rfl
 have q3:=fun(a b c d:Int)=>zEG (w:=w) g3 #[.int .i64 a,.int .i64 b,.int .i64 c,.int .i64 d] (.int .i64 d) rfl
 by_cases e0:a=a'<;>by_cases e1:b=b'<;>by_cases e2:c=c'<;>by_cases e3:d=d'<;>
  simp[gJ,g0.name,g1.name,g2.name,g3.name,q0,q1,q2,q3,k0,k1,k2,k3,e0,e1,e2,e3]
section
variable {P:Program}{Γ:Ctx}{E E':Env}{d:Nat}{x y:Operand}{ty:TypeId}{ps:String}{af:Array Edge}{gd:Option (Nat×Bool)}
theorem zY5{t t':TypeId}{s s':Nat}{a b c e a' b' c' e':Int}(h:zVy P t)(hx:E s=dS (.agg [I a,I b,I c,I e]))(hy:E s'=dS (.agg [I a',I b',I c',I e']))(sd:J5 d Γ.N=dU):
  Ok P Γ ⟨dS d,.binOp .eql t (.tmp s) (.tmp s') t',ty,ps,af,gd⟩ E (E.app [(d,dS (B (a==a'&&(b==b'&&(c==c'&&e==e')))))] [(d,0)]):=by
 intro S;refine uN _ rfl rfl (zW sd) fun A w G g9=>?_
 obtain⟨h1,h2,_⟩:=g9.ent s _ hx;obtain⟨h3,h4,_⟩:=g9.ent s' _ hy;simp only[R,RF]at h2 h4;have e1:A.eval (.tmp s)=.agg #[.int .i64 a,.int .i64 b,.int .i64 c,.int .i64 e]:=by rw[xK h1];simp[mkV,yA,vals,h2]
 have e2:A.eval (.tmp s')=.agg #[.int .i64 a',.int .i64 b',.int .i64 c',.int .i64 e']:=by rw[xK h3];simp[mkV,yA,vals,h4]
 have h5:(Op.equalIn 10000 t (.agg #[.int .i64 a,.int .i64 b,.int .i64 c,.int .i64 e]) (.agg #[.int .i64 a',.int .i64 b',.int .i64 c',.int .i64 e'])).run P w=_:=zSl (w:=w) h a b c e a' b' c' e' 9998;have hg:=h.gd;simp[execOp,e1,e2,eqGuard,binOp,zCP,h5,hg]
end
end Go.Ab

namespace Go.Ab
open Go
abbrev vI(n:Int):Value:=.int .i64 n
section
variable {Γ:Ctx}{E:Env}
theorem zL7{G:Gh}{tmps:Array Value}{w w':World}(g9:Rep Γ E G tmps w){s0:Nat}{xs us:List Int}(e6:E s0=dS (L 1 I xs))(gk:us.length=xs.length)
  {b o0 cap:Nat}{cs cs':Array Value}{e:TypeId}(h1:G.hd s0 []=.slice (dS ⟨b,o0,dT⟩) xs.length cap)(h2:w.heap[b]? =dS (.cells cs e (0,0)))(h3:xs.length≤cap)(h4:cap≤maxLen)(h5:o0+cap*1≤cs.size)(h6:G.ow b=dS (s0,[]))
  (h7:∀o,o0+xs.length*1≤o→o<o0+cap*1→G.lb b o=dS (dU,s0,[]))(h8:RL Γ.St G w s0 (xs.map I) [] 0 b o0 1)
  (k1:w'.heap[b]? =dS (.cells cs' e (0,0)))(k2:cs'.size=cs.size)(k3:∀b',b'≠b→w'.heap[b']? =w.heap[b']?)(k4:w'.heap.size=w.heap.size)(ko:w'.os=w.os)(kq:w'.output=w.output)(k5:∀(i:Nat) u,us[i]? =dS u→cs'[o0+i]? =dS (vI u)):
  ∃G',Rep Γ (E.app [(s0,dS (L 1 I us))] [(s0,1)]) G' tmps w':=by
 have hm:=g9.mem;obtain⟨e1,_,_⟩:=g9.ent s0 _ e6;have gL:=hm.ow b _ h6
 let G':Gh:={ G with hd:=fun s z=>if s=s0 then(match z with
  | [i]=>(match us[i]? with
   |some u=>vI u
   |none=>G.hd s0 z)
  |_=>G.hd s0 z)else G.hd s z }
 have hB:Blk w w':=by
  intro b' cs2 e2 hb
  by_cases cH:b'=b
  ·subst cH
   rw[h2]at hb;simp at hb;obtain⟨rfl,rfl⟩:=hb;exact⟨cs',k1,k2⟩
  ·exact⟨cs2,by rw[k3 b' cH];exact hb,rfl⟩
 have gy:qN [(s0,1)] G w G' w':=by
  refine⟨fun s p ho=>?_,fun _ _ _=>rfl,fun b' o f s p gU hl hs=>⟨hl,?_⟩,fun _ _ _ hl _=>hl,hB⟩
  ·by_cases h:s=s0
   ·subst h
    have:p=[]:=Jz (by have:=ho 1 (by simp);omega);subst this;simp[G']
   ·simp[G',h]
  ·have ep:s≠s0:=fun e=>hs 1 (by simp[e])
   obtain⟨y,hy⟩:=gU;have cH:b'≠b:=by
    rintro rfl
    rw[h6]at hy;simp at hy;exact ep hy.1.symm
   simp[yH,World.cell?,k3 b' cH]
 have gu:Mem Γ G' w':=by
  refine⟨fun s z=>?_,fun b' o l hl=>?_,fun b' l hl=>?_,fun b' x hx=>?_,fun b' h h'=>?_,by rw[k4];exact hm.sz,hm.bk.trans hB ko kq⟩
  ·show(if _ then _ else _:Value).oneCell'=dU
   split
   ·split
    ·split
     ·rfl
     ·exact hm.one _ _
    ·exact hm.one _ _
   ·exact hm.one _ _
  ·have:=hm.lb b' o l hl;exact⟨by rw[k4];exact this.1,this.2⟩
  ·have:=hm.ow b' l hl;exact⟨by rw[k4];exact this.1,this.2⟩
  ·have:b'≠b:=by rintro rfl;rw[gL.2.2]at hx;cases hx
   rw[k3 b' this];exact hm.st b' x hx
  ·have:b'≠b:=by
    rintro rfl
    rcases gL.2.1 with h0|h0
    ·omega
    ·exact h' h0
   rw[k3 b' this];exact hm.fr b' h h'
 refine⟨G',wW g9 rfl gy gu ?_ ?_⟩
 ·intro s hs
  rw[tG]at hs;split at hs
  ·cases hs
  ·rename_i gc
   exact⟨fun n hn=>gc (by simp at hn;exact hn.1.symm),rfl⟩
 ·intro s t' hs
  rw[tG]at hs;split at hs
  ·rename_i he;subst he
   simp at hs;subst hs;refine⟨by rw[e1];simp[mkV,G'],?_,by simp only[Top];exact kF zOX us⟩;simp only[R];refine .inr ⟨b,o0,cap,cs',e,by simp[G',h1,gk],k1,by simp[gk];exact h3,h4,by omega,h6,fun o fU fL=>h7 o (by simpa[gk]using fU) fL,?_⟩;refine zEg _ [] 0 b o0 fun i x hx=>?_
   rw[Jm,K0]at hx;obtain⟨u,hu,rfl⟩:=hx;have hi:=(J9.1 hu).1;obtain⟨g1,g2,_⟩:=sL _ [] 0 b o0 1 i (I xs[i]) h8 (by simp[show i<xs.length by omega]);simp only[Ja,Gu,Loc]at g1 ⊢
   refine⟨⟨g1.1,g1.2.1,?_⟩,rfl,by simp[R,G',hu]⟩;have:=k5 i u hu;simp[yH,World.cell?,k1,this,G',hu]
  ·cases hs
def zGi(P:Program)(Γ:Ctx)(E:Env)(y:Operand)(ys:List Int):Prop:=∀(a:Act)(w:World)(G:Gh),Rep Γ E G a.tmps w→ ∃xa c,a.eval y=.slice xa ys.length c∧
 ∀(n:Nat),n≤ys.length→(Builtin.firstCells 1 n (.slice xa ys.length c)).run P w=.ok ((ys.take n).map vI).toArray w
theorem zC5{P:Program}{w:World}{b o:Nat}{cs:Array Value}{e:TypeId}{fr:Nat×Nat}(hb:w.heap[b]? =dS (.cells cs e fr))(ys:List Int)(hv:∀(i:Nat) u,ys[i]? =dS u→cs[o+i]? =dS (vI u))(n:Nat)(hn:n≤ys.length)(len cap:Nat):
  (Builtin.firstCells 1 n (.slice (dS ⟨b,o,dT⟩) len cap)).run P w=.ok ((ys.take n).map vI).toArray w:=by
 refine run_firstCells_some (P:=P) w 1 n ⟨b,o,dT⟩ len cap _ (by simp;omega) fun j v hj=>?_
 rw[Jm,K0]at hj;obtain⟨u,hu,rfl⟩:=hj;rw[Ly]at hu;split at hu
 ·rw[vJ]
  have:=hv j u hu;simp[World.cell?,hb,this]
 ·cases hu
theorem zCR{P:Program}{w:World}{a:Option Addr}{c:Nat}:(Builtin.firstCells 1 0 (.slice a 0 c)).run P w=.ok #[] w:=by cases a<;>simp[Builtin.firstCells,loadCells,loadCellsFrom]
theorem zGi.ro{P:Program}{y:Operand}{ys:List Int}{r:Nat}{q:List Nat}(h:uT E y=dS (r,q,.ro (L 1 I ys))):zGi P Γ E y ys:=fun a w G g9=>by
 obtain⟨h1,h2⟩:=qB g9 h rfl;obtain⟨xa,c,g1,_,_,g2⟩:=zDm h1;rw[Jg]at g1;refine⟨xa,c,by rw[h2,g1],fun n hn=>?_⟩
 by_cases hy:ys=[]
 ·subst hy
  simp at hn;subst hn;simpa using zCR
 ·obtain⟨b,o,cs,e,fr,rfl,g3,g4⟩:=g2 (by simpa using hy)
  refine zC5 (g9.mem.st b _ g3) ys (fun i u hu=>?_) n hn _ _;have:=zGA _ cs o 1 i (I u) g4 (by simp[hu]);simp only[RoC,Gu]at this;exact this.1
theorem zPb{G:Gh}{w:World}{s b o0:Nat}{q:List Nat}{cs:Array Value}{e:TypeId}{xs:List Int}{St:Stb}(h2:w.heap[b]? =dS (.cells cs e (0,0)))(h8:RL St G w s (xs.map I) q 0 b o0 1)(i:Nat)(u:Int)(hu:xs[i]? =dS u):cs[o0+i]? =dS (vI u):=by obtain⟨g1,_,g3⟩:=sL _ q 0 b o0 1 i (I u) h8 (by simp[hu]);simp only[Loc,R,Ja,Gu]at g1 g3;have:=g1.2.2;simp only[yH,World.cell?,h2]at this;simpa[g3]using this
theorem zGi.sub{P:Program}{s r:Nat}{q:List Nat}{tr:T}{xs ys:List Int}{l h:Int}(hs:E s=dS (.sub r q 1 l.toNat h.toNat))(hr:E r=dS tr)(hg:tr.get q.reverse=dS (L 1 I xs))(hv:zL xs l h=dS ys):zGi P Γ E (.tmp s) ys:=fun a w G g9=>by
 obtain⟨k1,k2,k3,rfl⟩:=uI hv;obtain⟨e1,e2,_⟩:=g9.ent s _ hs;obtain⟨_,e4,_⟩:=g9.ent r _ hr;simp only[R]at e2;have h5:=(zBD q.reverse tr _ [] e4 hg).1;simp only[rp,Ki,Jh,R]at h5;have gk:((xs.drop l.toNat).take (h.toNat-l.toNat)).length=h.toNat-l.toNat:=by simp;omega
 rw[gk];have fa:a.eval (.tmp s)=G.hd s []:=by rw[xK e1,yR rfl]
 rcases h5 with⟨g1,ad,g2⟩|⟨b,o0,cap,cs,e,g1,g2,g3,_,_,_,_,g8⟩
 ·have hy:xs=[]:=by simpa using g1
  subst hy;have hl0:l.toNat=0:=by simp at k3;omega
  have mQ:h.toNat=0:=by simp at k3;omega
  refine⟨ad,0,by rw[fa,e2,g2,hl0,mQ];simp[zAN],fun n hn=>?_⟩;simp[mQ]at hn;subst hn;rw[hl0,mQ];simpa using zCR
 ·rw[Jg]at g1 g3
  refine⟨if cap=l.toNat then dS ⟨b,o0,dT⟩else dS ⟨b,o0+l.toNat,dT⟩,cap-l.toNat,by rw[fa,e2,g1];simp only[zAN,Hh,vJ,Gu],fun n hn=>?_⟩;split
  ·have:n=0:=by omega
   subst this;simp[Builtin.firstCells,loadCells,loadCellsFrom]
  ·refine zC5 g2 _ (fun i u hu=>?_) n (by rw[gk];exact hn) _ _
   rw[Ly]at hu;split at hu
   ·rw[La]at hu
    rw[Ll];exact zPb g2 g8 _ u hu
   ·cases hu
def zCS(Γ:Ctx)(E:Env)(x:Operand)(s0 lo hi:Nat):Prop:=∀(a:Act)(w:World)(G:Gh),Rep Γ E G a.tmps w→a.eval x=zAN (G.hd s0 []) 1 lo hi
theorem zCS.slot{s0:Nat}{xs:List Int}(h:E s0=dS (L 1 I xs)):zCS Γ E (.tmp s0) s0 0 xs.length:=fun a w G g9=>by obtain⟨e1,e2,_⟩:=g9.ent s0 _ h;obtain⟨ad,c,g⟩:=zG9 e2;rw[Jg]at g;rw[xK e1,yR rfl,g];simp[zAN];intro;cases ad<;>simp[Addr.add]
theorem zCS.same{s s0:Nat}{xs:List Int}(hs:E s=dS (.same s0 []))(h:E s0=dS (L 1 I xs)):zCS Γ E (.tmp s) s0 0 xs.length:=fun a w G g9=>by obtain⟨e1,e2,_⟩:=g9.ent s _ hs;have:=zCS.slot h a w G g9;obtain⟨e3,_,_⟩:=g9.ent s0 _ h;simp only[R]at e2;rw[xK e3,yR rfl]at this;rw[xK e1,yR rfl,e2];exact this
theorem zCS.sub{s s0 lo hi:Nat}(hs:E s=dS (.sub s0 [] 1 lo hi)):zCS Γ E (.tmp s) s0 lo hi:=fun a w G g9=>by obtain⟨e1,e2,_⟩:=g9.ent s _ hs;simp only[R]at e2;rw[xK e1,yR rfl,e2]
end
theorem zQi{α:Type}{xs ys:List α}{l h:Int}(hv:zL xs l h=dS ys):l.toNat≤h.toNat:=by have:=uI hv;omega
theorem zQj{α:Type}{xs ys:List α}{l h:Int}(hv:zL xs l h=dS ys):h.toNat≤xs.length:=by have:=uI hv;omega
theorem zPc{α:Type}(l z:List α)(lo i:Nat)(gY:lo+z.length≤l.length):(l.take lo++z++l.drop (lo+z.length))[i]? =if i<lo then l[i]? else if i<lo+z.length then z[i-lo]? else l[i]?:=by
 have hm:min lo l.length=lo:=by omega
 by_cases c1:i<lo
 ·rw[if_pos c1,Ji,Kg (by simp;omega),Ly,if_pos c1]
 ·rw[if_neg c1]
  by_cases c2:i<lo+z.length
  ·rw[if_pos c2,Ji,Jf (by simp;omega),L5,hm,Kg (by omega)]
  ·rw[if_neg c2,Ji,Jf (by simp;omega),L5,hm,Jf (by omega),La]
   congr 1;omega
def uC(xs:List Int)(lo:Nat)(zs:List Int):List Int:=xs.take lo++zs++xs.drop (lo+zs.length)
theorem zKo{P:Program}{Γ:Ctx}{E:Env}{d s0 lo hi:Nat}{x y:Operand}{ty:TypeId}{ps:String}{af:Array Edge}{gd:Option (Nat×Bool)}{t t2 e:TypeId}{ti:TypeInfo}{u:T}{xs ys:List Int}(ht:ElT P t e ti 1 u)(h0:E s0=dS (L 1 I xs))(hx:∀S,zCS (Γ.at S) E x s0 lo hi)(hy:∀S,zGi P (Γ.at S) E y ys)(h1:lo≤hi)(h2:hi≤xs.length)(sd:(J5 d Γ.N&&(s0 != d))=dU):
  Ok P Γ ⟨dS d,.call { callee:=.builtin .copy,args:=#[x,y],argTypes:=#[t,t2] },ty,ps,af,gd⟩ E ((E.app [(s0,dS (L 1 I (uC xs lo (ys.take (hi-lo)))))] [(s0,1)]).app [(d,dS (I ((min ys.length (hi-lo):Nat):Int)))] [(d,0)]):=by
 simp only[J2]at sd;have gc:s0≠d:=by simpa using sd.2
 intro S;refine xM.value rfl fun a w G g9=>?_
 obtain⟨e1,e2,_⟩:=g9.ent s0 _ h0;obtain⟨xa,c,g1,g2⟩:=hy S a w G g9;have g3:=hx S a w G g9;have eQ:min ys.length (hi-lo)≤ys.length:=by omega
 have g4:=g2 _ eQ;have fR:ys.take (hi-lo)=ys.take (min ys.length (hi-lo)):=by rw[List.take_eq_take_iff];omega
 rw[fR]
 generalize hn:min ys.length (hi-lo)=n at*
 have cV:(ys.take n).length=n:=by simp;omega
 have gk:(uC xs lo (ys.take n)).length=xs.length:=by simp[uC,cV];omega
 have key:∃w',(Builtin.copy_ #[t,t2] ty #[a.eval x,a.eval y]).run P w=.ok (goInt n) w'∧ ∃G',Rep (Γ.at S) (E.app [(s0,dS (L 1 I (uC xs lo (ys.take n))))] [(s0,1)]) G' a.tmps w':=by
  have e2':=e2;simp only[R]at e2;rcases e2 with⟨k1,ad,k2⟩|⟨b,o0,cap,cs,e',k1,k2,k3,k4,k5,k6,k7,k8⟩
  ·have ek:xs=[]:=by simpa using k1
   subst ek;simp at h2;subst h2;have m9:n=0:=by omega
   subst m9;have gY:lo=0:=by omega
   subst gY;refine⟨w,?_,G,?_⟩
   ·rw[g3,k2,g1]
    cases ad<;>cases xa<;>simp[zAN,Builtin.copy_,run_underlying ht.un,Builtin.lenOf,sizeOf,typeInfo,ht.info,Builtin.firstCells,loadCells,loadCellsFrom,storeCells]
   ·refine wW g9 rfl ⟨fun _ _ _=>rfl,fun _ _ _=>rfl,fun _ _ _ _ _ _ h _=>⟨h,rfl⟩,fun _ _ _ h _=>h,fun b cs e h=>⟨cs,h,rfl⟩⟩ g9.mem (fun s hs=>⟨fun n hn=>by simp at hn;simp[Wr.find,hn.1]at hs,rfl⟩) fun s t' hs=>?_
    rw[tG]at hs;split at hs
    ·rename_i he;subst he
     simp at hs;subst hs;simpa[uC]using g9.ent s0 _ h0
    ·cases hs
  ·rw[Jg]at k1 k3 k7
   have gv:o0+cap≤cs.size:=by omega
   have gJ:=run_storeCells_at P b (o0+lo) e' ((ys.take n).map vI) 0 cs w k2 (by simp;omega) (by intro v hv;obtain⟨u,_,rfl⟩:=Je.1 hv;rfl);simp only[Jam,Jg]at gJ
   generalize eC:w.setRow b (cs.toList.take (o0+lo)++(ys.take n).map vI++cs.toList.drop (o0+lo+(ys.take n).length)).toArray=w' at gJ
   have gI:cs.toList.length=cs.size:=K7 ..
   by_cases fW:cap=lo
   ·have m9:n=0:=by omega
    subst m9;refine⟨w,?_,G,?_⟩
    ·rw[g3,k1,g1]
     have g5:(Builtin.firstCells 1 0 (.slice xa ys.length c)).run P w=.ok #[] w:=by simpa using g4
     simp[zAN,Builtin.copy_,run_underlying ht.un,Builtin.lenOf,sizeOf,typeInfo,ht.info,ht.size,show hi-lo=0 by omega,g5,storeCells,fW]
    ·refine wW g9 rfl ⟨fun _ _ _=>rfl,fun _ _ _=>rfl,fun _ _ _ _ _ _ h _=>⟨h,rfl⟩,fun _ _ _ h _=>h,fun b cs e h=>⟨cs,h,rfl⟩⟩ g9.mem (fun s hs=>⟨fun n hn=>by simp at hn;simp[Wr.find,hn.1]at hs,rfl⟩) fun s t' hs=>?_
     rw[tG]at hs;split at hs
     ·rename_i he;subst he
      simp at hs;subst hs;simpa[uC]using g9.ent s0 _ h0
     ·cases hs
   ·refine⟨w',?_,zL7 g9 h0 gk k1 k2 k3 k4 k5 k6 k7 k8 (by rw[←eC];exact setRow_heap w b cs _ e' _ k2) ?_ (fun b' h=>by rw[←eC];exact setRow_other w b b' _ h) (by rw[←eC];exact size_setRow w b _) (by rw[←eC];rfl) (by rw[←eC];rfl) fun i v hv=>?_⟩
    ·rw[g3,k1,g1]
     have h9:Nat.min ys.length (hi-lo)=n:=hn;simp only[zAN,fW,if_false,Hh,vJ,Gu];simp only[Builtin.copy_];rw[Ua]at gJ;simp[run_underlying ht.un,Builtin.lenOf,sizeOf,typeInfo,ht.info,ht.size,h9,g4,gJ]
    ·simp[cV];omega
    ·rw[uC,zPc _ _ _ _ (by rw[cV];omega)]at hv
     have h11:o0+lo+((ys.take n).map vI).length≤cs.toList.length:=by simp;omega
     have h10:=zPc cs.toList ((ys.take n).map vI) (o0+lo) (o0+i) h11;rw[Jg]at h10;rw[List.getElem?_toArray,h10];have fq:=fun i u hu=>zPb k2 k8 i u hu
     by_cases c1:i<lo
     ·rw[if_pos c1]at hv
      rw[if_pos (by omega)];simpa using fq i v hv
     ·rw[if_neg c1]at hv
      rw[if_neg (by omega)]
      by_cases c2:i<lo+(ys.take n).length
      ·rw[if_pos c2]at hv
       rw[if_pos (by omega),show o0+i-(o0+lo)=i-lo from by omega];rw[Jm,hv];rfl
      ·rw[if_neg c2]at hv
       rw[if_neg (by omega)];simpa using fq i v hv
 obtain⟨w',gA,G',gm⟩:=key;refine⟨_,w',?_,_,wI gm rfl (zW sd.1) (fun _=>vI n) (fun _=>rfl) (I n) (vI n) (by simp[mkV,Gh.put]) (by simp[R,Gh.put]) (by simp[Top])⟩;simp[execOp,resolve,invoke,builtin,gA,goInt]
end Go.Ab

namespace Go.Ab
open Go
theorem zJc{G G':Gh}{s d:Nat}(hd:∀z,G'.hd d z=G.hd s z):(xs:List T)→yE xs=dU→ ∀(j:Nat),zAm G' d (cpF s xs [] j) [] j=zAm G s xs [] j
 | [],_,_=>by rfl
 |x::xs,h,j=>by
  simp only[yE,J2]at h;simp only[cpF,zAm];have gX:∀ys,x≠.tup ys:=by rintro ys rfl;grind[T.okTup]
  have h1:=zAP (G:=G) (G':=G') (s:=s) (d:=d) x [j] [j] gX (fun z=>hd _);have h2:∀ys,cpT s x [j]≠.tup ys:=by intro ys;cases x<;>simp[cpT]
  rw[zAn _ _ _ _ h2]at h1;rw[h1,zJc hd xs h.2 (j+1)]
section
variable {P:Program}{Γ:Ctx}{E E':Env}{d:Nat}{x y:Operand}{ty:TypeId}{ps:String}{af:Array Edge}{gd:Option (Nat×Bool)}
theorem zXD{s:Nat}{ts:List T}(hx:E s=dS (.tup ts))(sd:(J5 d Γ.N&&yE ts&&(s != d)&&zKX [(d,0)] (cpF s ts [] 0))=dU):Ok P Γ ⟨dS d,.move (.tmp s),ty,ps,af,gd⟩ E (E.app [(d,dS (.tup (cpF s ts [] 0)))] [(d,0)]):=by
 simp only[J2]at sd;obtain⟨⟨⟨s1,s2⟩,s3⟩,s4⟩:=sd;have gc:s≠d:=by grind
 intro S;refine xM.value rfl fun a w G g9=>?_
 obtain⟨h1,h2,_⟩:=g9.ent s _ hx;simp only[R]at h2;have hk:=G.put_keep (w:=w) (w':=w) rfl d (fun z=>G.hd s z);have hz:∀z,(G.put d (fun z=>G.hd s z)).hd d z=G.hd s z:=by grind[Gh.put_self]
 have cX:∀(xs:List T)(j:Nat),uB (cpF s xs [] j):=by
  intro xs
  induction xs with
  |nil=>intro j;simp only[cpF,uB]
  |cons x xs ih=>intro j;simp only[cpF,uB];grind[sV]
 refine⟨mkV G s (.tup ts) [],w,?_,_,wI g9 rfl (zW s1) (fun z=>G.hd s z) (fun z=>g9.mem.one _ _) _ _ (by grind[mkV,zJc])
  (by simp only[R];exact zJP (fun p=>G.put_other _ p gc) ts [] [] 0 (fun z=>hz _) (xF.mono (fun r p hr=>⟨hk.hd r p hr,hk.ad r p hr⟩) _ (by grind[zGX])) h2) (by simp only[Top];grind)⟩
 simp[execOp,xK h1]
end
end Go.Ab

namespace Go.Ab
open Go
def tM:List T→Bool
 | []=>dU
 |x::xs=>x.single&&tM xs
end Go.Ab

namespace Go.Ab
open Go
section
variable {P:Program}{Γ:Ctx}{E:Env}{d:Nat}{x:Operand}{ty:TypeId}{ps:String}{af:Array Edge}{gd:Option (Nat×Bool)}
class zVz (P:Program) (t:TypeId) (e:outParam TypeId) (ti:outParam TypeInfo) (n:outParam Nat) (k:outParam Nat):Prop where
 un:P.underlying t=dS (.array n e)
 info:P.info? e=dS ti
 size:ti.size=k
theorem zPd{t e:TypeId}{ti:TypeInfo}{n k r:Nat}{q:List Nat}{xs:List T}{u:T}(i:Nat)(ht:zVz P t e ti n k)(hx:uT E x=dS (r,q,.ptr (.agg xs)))(hu:xs[i]? =dS u)(gK:T.sizes (xs.take i)=i*k)(sd:(J5 d Γ.N&&J5 i n)=dU):
  Ok P Γ ⟨dS d,.indexAddr t x (.const (.int .i64 i)),ty,ps,af,gd⟩ E (E.app [(d,dS (.addr r (i::0::q)))] [(d,0)]):=by
 simp only[J2]at sd;have gN:=zW sd.2;intro S;refine xM.value rfl fun a w G g9=>?_
 obtain⟨g1,g2⟩:=qB g9 hx rfl;simp only[R]at g1;obtain⟨b,cs,e',g4,_,_,_,g5,_⟩:=g1;simp only[Loc]at g5;have g6:=zE5 xs (0::q) 0 b 0 i u g5.2 hu;simp only[Ja]at g6;have g3:a.eval (.const (.int .i64 i))=.int .i64 i:=rfl;refine⟨.pointer (dS (G.ad r (i::0::q))),w,?_,_,wI g9 rfl (zW sd.1) (fun _=>.pointer (dS (G.ad r (i::0::q)))) (fun _=>rfl) _ _ (by simp[mkV,Gh.put]) (by simp[R,Gh.put]) (by simp[Top])⟩;have gE:(i:Int)<(n:Int):=by omega
 have h0:(0:Int)≤i:=by omega
 have g7:=zEa g6;have mg:i<n:=gN;simp[execOp,Instr.indexAt,g3,g2,g4,asIntOf,run_underlying ht.un,h0,mg,sizeOf,typeInfo,ht.info,ht.size,vJ,uO,g7,gK]
end
end Go.Ab
namespace Go.Ab
open Go
theorem zH0{E:Env}{ds r s:Nat}{q:List Nat}{tr u t:T}(h:E s=dS t)(gc:(G3 ds s||G3 r s)=dV:=by rfl)(hb:t.okB [(ds,1),(r,q.length+1)]=dU:=by rfl):opT (wH E ds r q tr u) (.tmp s)=dS t:=by
 have h1:ds≠s:=by rintro rfl;simp at gc
 have h2:r≠s:=by rintro rfl;simp at gc
 simp[opT,wH,Env.app,Wr.find,h1,h2,h,hb]
end Go.Ab
namespace Go.Ab
open Go
section
variable {P:Program}{Γ:Ctx}{pn:tT}{E E':Env}{Q Q1:Exit→Env→Prop}{c c1 c2:Code}{ops:Array Oper}{o:Oper}{os:List Oper}{id:Nat}
theorem sR(h:RW P Γ pn ops ops.toList E (zU P Γ pn c Q)):CW P Γ pn (.seq (.region id ops dV) c) E Q:=CW.seq (CW.region h)
theorem rN(h:CW P Γ pn c E Q):RW P Γ pn ops [] E (zU P Γ pn c Q):=RW.nil h
theorem oP(h:Ok P Γ o E E')(k:RW P Γ pn ops os E' Q)(hg:o.guard=dT:=by rfl)(hp:pn.ok o.dst=dU:=by rfl):RW P Γ pn ops (o::os) E Q:=RW.op h k hg hp
def zY6(ops:List Oper):List (List Nat):=(ops.foldl (fun(acc:Array (List Nat)) o=>acc.push ((zBN o).foldl (fun l m=>m::(acc.getD m [])++l) [])) #[]).toList
theorem CW.lp{σ ρ:Type}(body:σ→Option (σ⊕ρ))(en:σ→Env)(Q1:ρ→Exit→Env→Prop){s:σ}{r:ρ}(hg:zK Γ E (en s))(h:∀s x,body s=dS x→CW P Γ pn c (en s) (yO Γ en Q1 x))(hr:zE body s=dS r)(hq:∀e E',Q1 r e E'→Q e E'):CW P Γ pn (.loop c) E Q:=
 (CW.mono (CW.loop body en Q1 h hr) hq).ghost hg
end
end Go.Ab

namespace Go.Ab
open Go Go.ChangeShapes
abbrev zL8(w:World):Stb:=fun b=>w.heap[b]?
theorem zQk{w:World}{a:Addr}{n:Nat}{cs:List Value}(h:w.cells? 0 a n=dS cs):cs.length=n∧ ∀(i:Nat) v,cs[i]? =dS v→w.cell? (a.add i)=dS v:=by
 unfold World.cells? at h;rw[if_pos (Kc _)]at h;refine⟨by simpa using mapM_some_length h,fun i v hv=>?_⟩;have hi:i<n:=by have:=(J9.1 hv).1;have h2:=mapM_some_length h;rw[Hz]at h2;omega
 rw[←hv];exact mapM_some_get h i i (by simp[hi])
theorem zPe{w:World}{a:Addr}{v:Value}(h:w.cell? a=dS v):a.spot=dT∧ ∃c e fr,w.heap[a.block]? =dS (.cells c e fr)∧c[a.off]? =dS v:=by
 simp only[World.cell?]at h;split at h
 ·rename_i c e fr hb
  split at h
  ·cases h
  ·rename_i hs
   exact⟨by cases hq:a.spot with|none=>rfl|some _=>rw[hq]at hs;simp at hs,c,e,fr,hb,h⟩
 ·cases h
theorem zL9{b o m:Nat}:(Addr.mk b o dT).add m=⟨b,o+m,dT⟩:=by
 unfold Addr.add;split
 ·rename_i h;subst h;rfl
 ·rfl
theorem zGj{α:Type}{Q:Nat→α→Prop}:∀(n:Nat),(∀i,i<n→ ∃x,Q i x)→ ∃xs:List α,xs.length=n∧ ∀i x,xs[i]? =dS x→Q i x
 |0,_=>⟨[],rfl,fun i x h=>by simp at h⟩
 |n+1,h=>by
  obtain⟨xs,h1,h2⟩:=zGj n fun i hi=>h i (by omega)
  obtain⟨y,hy⟩:=h n (by omega);refine⟨xs++[y],by simp[h1],fun i x hx=>?_⟩;rw[Kd]at hx;split at hx
  ·exact h2 i x hx
  ·rename_i hge
   have:i-xs.length=0:=by have:=(J9.1 hx).1;simpa using this
   rw[this]at hx;simp at hx;subst hx
   rwa [show i=n from by omega]
theorem zPf{St:Stb}:(xs:List T)→ ∀(cs:Array Value)(o k:Nat),(∀i x,xs[i]? =dS x→RoC St x cs (o+i*k))→RoL St xs cs o k
 | [],_,_,_,_=>by simp only[RoL]
 |x::xs,cs,o,k,h=>by
  simp only[RoL];refine⟨by simpa using h 0 x rfl,zPf xs cs (o+k) k fun i y hy=>?_⟩;have:=h (i+1) y (by simpa using hy)
  rwa [show o+k+i*k=o+(i+1)*k from by rw[L8];omega]
section
variable {P:Program}
def RdT(P:Program)(t:TypeId)(k:Nat){α:Type}(f:α→T)(V:α→Prop):Prop:=
 ∀{H:Type}(enc:TypeId×Value→H)(w:World)(fuel:Nat)(cs:List Value)(x:DataW H×List MemPlace),DataW.trod enc P w 0 (fun _=>dU) dU fuel t cs=dS x→
  cs.length=k→ ∃d,V d∧ ∀(A:Array Value)(o:Nat),(∀(i:Nat) v,cs[i]? =dS v→A[o+i]? =dS v)→RoC (zL8 w) (f d) A o
theorem zH1{t:TypeId}{q:IntKind}(hu:P.underlying t=dS (.int q)):RdT P t 1 (IK q) (fun n=>(Lit.int q n).wf=dU):=by intro H enc w fuel cs x h _;obtain⟨n,rfl,_,hw⟩:=DataW.trod_int hu h;exact⟨n,hw,fun A o hA=>by simp only[RoC];exact⟨by simpa using hA 0 _ rfl,rfl⟩⟩
theorem yCc{α:Type}{f:α→T}{V:α→Prop}{t e:TypeId}{k:Nat}(hu:P.underlying t=dS (.slice e))(hk:P.cellsOf e=k)(eB:0<k)(h:RdT P e k f V):
  RdT P t 1 (L k f) (fun xs=>xs.length≤maxLen∧ ∀x∈xs,V x):=by
 intro H enc w fuel cs x hx _;rcases DataW.trod_slice hu hx with⟨rfl,_⟩|⟨a,len,cap,elems,rest,n,rfl,rfl,_,_,eJ,fW,a7,cE,_⟩
 ·refine⟨[],⟨by simp,by simp⟩,fun A o hA=>?_⟩
  simp only[RoC,Hw,U5];exact⟨dT,0,by simpa using hA 0 _ rfl,Jd _,by simp[maxLen],fun h=>absurd rfl h⟩
 ·subst hk
  have key:∀i,i<len→ ∃y,V y∧ ∃cs':List Value,cs'.length=P.cellsOf e∧(∀(j:Nat) v,cs'[j]? =dS v→w.cell? ((a.add (i*P.cellsOf e)).add j)=dS v)∧
    ∀(A:Array Value)(o:Nat),(∀(j:Nat) v,cs'[j]? =dS v→A[o+j]? =dS v)→RoC (zL8 w) (f y) A o:=by
   intro i hi;have h1:=cE i hi;rw[J6 (by omega)]at h1;obtain⟨cs',h2,h3⟩:=Uk.1 h1;obtain⟨h4,h5⟩:=zQk h2;obtain⟨y,h6,h7⟩:=h enc w n cs' _ h3 h4;exact⟨y,h6,cs',h4,h5,h7⟩
  obtain⟨xs,mE,ek⟩:=zGj len key;refine⟨xs,⟨by omega,fun y hy=>?_⟩,fun A o hA=>?_⟩
  ·obtain⟨i,hi,rfl⟩:=K8.1 hy
   exact(ek i _ (J6 hi)).1
  ·simp only[RoC,Jg,mE]
   refine⟨dS a,cap,by simpa using hA 0 _ rfl,eJ,fW,fun gc=>?_⟩;have pY:0<xs.length:=by
    cases xs with
    |nil=>simp at gc
    |cons _ _=>simp
   obtain⟨_,cs0,g1,g2,_⟩:=ek 0 _ (J6 pY);have hz:a.add (0*P.cellsOf e)=a:=by simp[Addr.add]
   have g3:=g2 0 cs0[0] (J6 (by omega));rw[hz,show a.add 0=a from by simp[Addr.add]]at g3;obtain⟨cj,c,e',fr,hb,_⟩:=zPe g3;obtain⟨b,off,sp⟩:=a;simp only at cj hb;subst cj;refine⟨b,off,c,e',fr,rfl,hb,zPf _ _ _ _ fun i y hy=>?_⟩;rw[Jm,K0]at hy;obtain⟨z,pI,rfl⟩:=hy;obtain⟨_,cs',g1',g2',g4⟩:=ek i z pI;refine g4 c _ fun j v hv=>?_
   have:=g2' j v hv;rw[zL9,zL9]at this;obtain⟨_,c2,e2,fr2,bW,ch⟩:=zPe this;simp only at bW ch;rw[hb]at bW;cases bW;exact ch
end
def zV0(v:Value):Value:=if v.oneCell' then v else .bool dV
theorem zLA(v:Value):(zV0 v).oneCell'=dU:=by unfold zV0;split;assumption;rfl
def hd0(vs:Array Value)(s:Nat)(p:List Nat):Value:=
 match vs[s]?,p with
 |some (.agg cs),[j]=>zV0 (cs[j]?.getD (.bool dV))
 |some v,[]=>zV0 v
 |_,_=>.bool dV
def G0(vs:Array Value):Gh:={ hd:=hd0 vs,ad:=fun _ _=>default,lb:=fun _ _=>dT,ow:=fun _=>dT }
theorem yCd(w:World)(vs:Array Value):Mem ⟨zL8 w,fun _=>False,w,0⟩ (G0 vs) w where
 one s p:=by
  simp only[G0,hd0];split
  ·exact zLA _
  ·exact zLA _
  ·rfl
 lb b o l h:=by simp[G0]at h
 ow b l h:=by simp[G0]at h
 st b x h:=h
 fr b _ _:=rfl
 sz:=Jd _
 bk:=⟨fun b cs e h=>⟨cs,h,rfl⟩,rfl,rfl⟩
def RdA(P:Program)(t:TypeId){α:Type}(u:α→T)(V:α→Prop):Prop:=
 ∀{H:Type}(enc:TypeId×Value→H)(w:World)(base fuel:Nat)(v:Value)(x:DataW H×List MemPlace),DataW.trod enc P w 0 (fun _=>dU) dU fuel t v.cells.toList=dS x→
  Value.okWide P w .any base t v→ ∃d,V d∧ ∀(vs:Array Value)(s:Nat),vs[s]? =dS v→dS v=dS (mkV (G0 vs) s (u d) [])∧R (zL8 w) (G0 vs) w s (u d) []
def RdC(P:Program)(t:TypeId){α:Type}(u:α→T)(V:α→Prop):Prop:=
 ∀{H:Type}(enc:TypeId×Value→H)(w:World)(fuel:Nat)(c:Value)(x:DataW H×List MemPlace),DataW.trod enc P w 0 (fun _=>dU) dU fuel t [c]=dS x→
  ∃d,V d∧c.oneCell'=dU∧ ∀(G:Gh)(s:Nat)(p:List Nat),G.hd s p=c→vals G s (u d) p=[c]∧R (zL8 w) G w s (u d) p
section
variable {P:Program}
theorem yA4{α:Type}{f:α→T}{V:α→Prop}{t:TypeId}(h:RdT P t 1 f V)(h1:∀{H:Type}(enc:TypeId×Value→H)(w:World)(fuel:Nat)(c:Value)(x:DataW H×List MemPlace),DataW.trod enc P w 0 (fun _=>dU) dU fuel t [c]=dS x→c.oneCell'=dU):
  RdC P t (fun x=>T.ro (f x)) V:=by
 intro H enc w fuel c x hx;obtain⟨d,g1,g2⟩:=h enc w fuel [c] x hx rfl;refine⟨d,g1,h1 enc w fuel c x hx,fun G s p hp=>⟨by simp only[vals,hp],?_⟩⟩;simp only[R,hp];exact g2 _ _ fun i v hv=>by
  cases i with
  |zero=>simpa using hv
  |succ i=>simp at hv
theorem yCe{α:Type}{f:α→T}{V:α→Prop}{t e:TypeId}{k:Nat}(hu:P.underlying t=dS (.slice e))(hk:P.cellsOf e=k)(eB:0<k)(h:RdT P e k f V):RdC P t (fun xs=>T.ro (L k f xs)) (fun xs=>xs.length≤maxLen∧ ∀x∈xs,V x):=
 yA4 (yCc hu hk eB h) fun enc w fuel c x hx=>by
  rcases DataW.trod_slice hu hx with⟨h1,_⟩|⟨a,len,cap,_,_,_,_,h1,_⟩<;>
  ·simp only[Jaj.injEq,and_true]at h1
   subst h1;rfl
theorem zV1{α:Type}{u:α→T}{V:α→Prop}{t:TypeId}(hs:∀x,(u x).single=dU∧ ∀G s,mkV G s (u x) []=G.hd s [])(h:RdC P t u V)
  (hv:∀{w:World}{base:Nat}{v:Value},Value.okWide P w .any base t v→v.oneCell'=dU):RdA P t u V:=by
 intro H enc w base fuel v x hx gP;have h1:v.cells.toList=[v]:=by have:=hv gP;cases v<;>simp_all [Value.oneCell',Value.cells]
 rw[h1]at hx;obtain⟨d,g1,g2,g3⟩:=h enc w fuel v x hx;refine⟨d,g1,fun vs s cP=>?_⟩;have gG:(G0 vs).hd s []=v:=by simp only[G0,hd0,cP];cases v<;>first|rfl|simp[Value.oneCell']at g2
 exact⟨by rw[(hs d).2,gG],(g3 _ _ _ gG).2⟩
end
theorem FnC.top{P:Program}{f:FuncId}{us:List T}(h:FnC P f us [B dU] []){w:World}{vs:Array Value}(gv:vs.size=us.length)
  (ha:∀(i:Nat) u,us[i]? =dS u→vs[i]? =dS (mkV (G0 vs) i u [])∧R (zL8 w) (G0 vs) w i u []):
  Calls P f vs w fun e w'=>e=.returned (.bool dU)∧w'.os=w.os∧w'.output=w.output∧w.heap.size≤w'.heap.size∧ ∀b,b<w.heap.size→w'.heap[b]? =w.heap[b]?:=by
 refine(h (zL8 w) (fun _=>False) w (G0 vs) vs gv (fun i u hu=>?_) (yCd w vs)).mono fun e w'=>?_
 ·obtain⟨h1,h2⟩:=ha i u hu
  refine⟨?_,h2⟩;rw[h1]
 ·rintro⟨S',G',nd,_,he,hm,eO,hr,_,_⟩
  match nd,eO with
  | [(s,p,t)],eO=>
   simp only[Jl,Hw,Jaj.injEq,and_true]at eO;subst eO;have:=(hr (s,p,B dU) (by simp)).1;simp only[R]at this;exact⟨by rw[he];simp only[zLo,tQ,this],hm.bk.os,hm.bk.out,hm.sz,fun b hb=>hm.fr b hb (fun h=>h)⟩
theorem zDS{H:Type}{enc:TypeId×Value→H}{P:Program}(hl:laidOutB P=dU){W W':World}{sp:Nat→Bool}:∀{ts:List TypeId}{vs:List Value}{ds:List (DataW H)}{ps:List MemPlace},(∀t∈ts,P.readableRec t=dU∧t<P.types.size)→
  DataW.TrodAll enc P W 0 (fun _=>dU) dU ts vs ds ps→(∀p∈ps,W.sameAt W' p)→(∀p∈ps,sp p.block=dU)→DataW.TrodAll enc P W' 0 sp dU ts vs ds ps
 | [],[],[],_,_,h,_,_=>h
 |t::ts,v::vs,d::ds,ps,hr,h,h1,h2=>by
  obtain⟨p,q,g1,g2,rfl⟩:=h;exact⟨p,q,Go.WideElems.Trod_stays hl (hr t (by simp)).1 (hr t (by simp)).2 g1 (fun x hx=>h1 x (by simp[hx])) (fun x hx=>h2 x (by simp[hx])),
   zDS hl (fun t' fx=>hr t' (by simp[fx])) g2 (fun x hx=>h1 x (by simp[hx])) (fun x hx=>h2 x (by simp[hx])),rfl⟩
 | [],_::_,_,_,_,h,_,_| [],[],_::_,_,_,h,_,_|_::_,[],_,_,_,h,_,_|_::_,_::_,[],_,_,h,_,_=>h.elim
theorem zAV{C:Checked}{os:Os}(own:ownKnob C.prog.godebug=dT)(started:os.Started){f:FuncId}{fn:Func}(noInit:C.prog.inits.idxOf? f=dT)(hfn:C.prog.funcs[f]? =dS fn){H:Type}{enc:TypeId×Value→H}{s:ChangeSpec}{conds:List PathCond}{apart fresh handsOn again:Bool}
  (witness:∃(w:World)(tape:Tape)(i:Input),w.os=os∧(w.forCall tape i).Shaped C.prog∧i.vars=[]∧Input.okWide C.prog (w.forCall tape i) .any w.heap.size f i∧
   s.pre6 enc C.prog fn conds apart (w.forCall tape i).memory i.args∧Assume.holds {} C.prog (lone (Frame.enter C.prog f i.args .normal) [] (w.forCall tape i)))
  (hs:∀(l:List (DataW H)),l.length=fn.params.size→(s.fn H l).results=[.lit (.bool dU)]∧(s.fn H l).args=l∧(s.fn H l).vars=[])(pf:s.vars=[]){tb:TypeId}(eV:fn.resultTypes= #[tb])(hb:C.prog.underlying tb=dS .bool)
  (laid:laidOutB C.prog=dU)(bt:fn.params.toList.all (fun t=>C.prog.readableRec t&&decide (t<C.prog.types.size))=dU)
  (law:∀(W:World)(base:Nat)(args:Array Value)(ds:List (DataW H))(p:List MemPlace),(∀(j:Nat) t v,fn.params[j]? =dS t→args[j]? =dS v→Value.okWide C.prog W .any base t v)→
   DataW.TrodAll enc C.prog W 0 (fun _=>dU) dU fn.params.toList args.toList ds p→
   ∃us:List T,args.size=us.length∧FnC C.prog f us [B dU] []∧ ∀(i:Nat) u,us[i]? =dS u→args[i]? =dS (mkV (G0 args) i u [])∧R (zL8 W) (G0 args) W i u []):
  ReturnsInHanded {} C os f .any (s.pre6 enc C.prog fn conds apart) (s.post enc C.prog fn apart fresh handsOn again):=by
 refine returnsInHanded_of_change (C:=C) own started noInit hfn witness ?_;intro W base args ds gs before hval hW _ _;have mu:=hW;obtain⟨p,q,hA,hV,hbq,hfz,eO⟩:=hW;obtain⟨us,h1,h2,h3⟩:=law W base args ds p hval hA;have hl:ds.length=fn.params.size:=by
  have:∀{ts:List TypeId}{vs:List Value}{ds:List (DataW H)}{p:List MemPlace},DataW.TrodAll enc C.prog W 0 (fun _=>dU) dU ts vs ds p→ds.length=ts.length:=by
   intro ts
   induction ts with
   |nil=>intro vs ds p h;cases vs<;>cases ds<;>first|rfl|exact h.elim
   |cons t ts ih=>intro vs ds p h;cases vs<;>cases ds<;>first|exact h.elim|(obtain⟨_,_,_,g,_⟩:=h;simp[ih g])
  simpa using this hA
 rw[pf]at hV;have hq:gs=[]∧q=[]:=by
  cases gs with
  |nil=>exact⟨rfl,hV⟩
  |cons _ _=>exact hV.elim
 obtain⟨rfl,rfl⟩:=hq;have gE:=mu.lt;refine(h2.top h1 h3).mono fun e w' ⟨he,ho,hq,gv,hh⟩=>⟨_,he,?_⟩
 have hZ:∀p∈before,W.sameAt w' p:=fun p hp=>by
  have:=gE p hp;cases p with
  |cell b off=>simp only[World.sameAt,World.cell?,hh b this]
  |map b=>exact hh b this
 obtain⟨k1,k2,k3⟩:=hs ds hl;have hbp:before=p:=by simpa using hbq
 subst hbp;have gH:∀t∈fn.params.toList,C.prog.readableRec t=dU∧t<C.prog.types.size:=fun t ht=>by have:=K3.1 bt t ht;simpa using this
 have gw:∀(b:Nat)(sp:Nat→Bool)(hd:Bool),DataW.TrodAll enc C.prog w' b sp hd fn.resultTypes.toList ((Value.bool dU).resultList fn.resultTypes.size) (s.fn H (ds++[])).results []:=fun b sp hd=>by rw[eV,Jh,k1];exact⟨[],[],⟨1,by simp[DataW.trod,hb,Value.cells]⟩,⟨rfl,rfl⟩⟩
 have gj:∀sp:Nat→Bool,(∀p∈before,sp p.block=dU)→DataW.TrodAll enc C.prog w' 0 sp dU fn.params.toList args.toList (s.fn H (ds++[])).args before:=fun sp cj=>by rw[Jh,k2];exact zDS laid gH hA hZ cj
 have b7:∀sp:Nat→Bool,DataW.TrodVars enc C.prog w' sp s.vars (s.fn H (ds++[])).vars []:=fun sp=>by rw[pf,Jh,k3];rfl
 have gF:∀p∈before,(fun b=>decide (b<W.heap.size)) p.block=dU:=fun p hp=>by simpa using gE p hp
 have p9:∀p∈before,∀o,w'.frozen? ⟨p.block,o,dT⟩=W.frozen? ⟨p.block,o,dT⟩:=fun p hp o=>by simp only[World.frozen?,hh _ (gE p hp)]
 refine⟨ds,[],before,[],before,[],mu,gw _ _ _,gj _ gF,b7 _,⟨ho,hq,fun i hi=>?_⟩,fun _=>⟨fun j t r hj hr=>?_,_,_,([]++before)++[],⟨[]++before,[],trodAll_append (gj _ (fun _ _=>rfl)) (gw _ _ _),b7 _,rfl,fun b off hp=>?_,fun ha=>?_⟩,fun p hp _=>?_⟩⟩
 ·rw[hh i hi]
  cases hx:W.heap[i]? with
  |none=>rfl
  |some o=>cases o<;>simp
 ·rw[eV]at hj hr
  match j,hj,hr with
  |0,hj,hr=>
   simp[Value.resultList]at hj hr;subst hj;subst hr;simp[Value.okWide,hb,Cell.okWide,Cell.ok]
 ·have fT:MemPlace.cell b off∈before:=by simpa using hp
  exact(p9 _ fT off).trans (hfz b off fT)
 ·have:=eO ha
  simpa using this
 ·simpa using hp
end Go.Ab

namespace Go.Ab
open Go
def jS(hs:List Nat)(E:Env):Prop:=∀s,hs.contains s=dU→ ∃t,E s=dS t∧qO t=dU
def zY7(hs:List Nat)(z:Nat×Option T):Bool:=!hs.contains z.1||match z.2 with
 |some t=>qO t
 |none=>dV
def wrS(hs:List Nat)(X:Stp):Bool:=X.l.all fun y=>y.1.all (zY7 hs)
theorem zLB{s:Nat}{x:Option T}:∀{wr:Wr},wr.find s=dS x→(s,x)∈wr
 | [],h=>by grind[Wr.find]
 |(k,y)::wr,h=>by
  simp only[Wr.find]at h;split at h
  ·grind
  ·exact Q5 _ (zLB h)
theorem jS.apps{hs:List Nat}:∀(l:zCM)(E:Env),jS hs E→(l.all fun y=>y.1.all (zY7 hs))=dU→jS hs (E.apps l)
 | [],_,h,_=>h
 |x::l,E,h,hw=>by
  simp only[Gw,J2]at hw;refine jS.apps l (E.app x.1 x.2) (fun s gM=>?_) hw.2;obtain⟨t,he,ht⟩:=h s gM;unfold Env.app;cases hf:x.1.find s with
  |some y=>
   have h1:=K3.1 hw.1 _ (zLB hf);simp only[zY7,gM,J3,Bool.false_or]at h1
   grind
  |none=>grind[uR]
theorem jS.runD{hs:List Nat}:∀(l:List (Bool×Stp))(E:Env),jS hs E→(∀y∈l,wrS hs y.2=dU)→jS hs (runD E l)
 | [],_,h,_=>h
 |(b,X)::l,E,h,hw=>by
  simp only[Go.Ab.runD];refine jS.runD l _ ?_ fun y hy=>hw y (by simp[hy])
  cases b with
  |true=>exact jS.apps X.l E h (hw (dU,X) (by simp))
  |false=>exact h
section
variable {P:Program}{Γ:Ctx}{pn:tT}{E E':Env}{Q:Exit→Env→Prop}{ops:Array Oper}{o:Oper}{os:List Oper}{id:Nat}{wr:Wr}{chg:Chg}{hs:List Nat}
def zPg(P:Program)(Γ:Ctx)(pn:tT)(ops:Array Oper)(o:Oper)(E E':Env):Prop:=
 ∀(a:Act)(w:World)(K:Act→World→Prop)(Q:Exit→Act→World→Prop),pn.Hold a→jY Γ E a w→(∀a' w',jY Γ E' a' w'→(∀s,o.dst≠dS s→a'.tmps[s]? =a.tmps[s]?)→K a' w')→
  if Region.wanted o (yielded ops a.tmps)then o.wp P a w K Q∨(o.asks P a w∧LetsOut Q)else K (a.put o.dst undef) w
def vF(P:Program)(Γ:Ctx)(pn:tT)(hs:List Nat)(ops:Array Oper):List Oper→List Stp→Prop
 | [],[]=>True
 |o::os,X::Xs=>(∀E:Env,E.Has X.rd→jS hs E→zPg P Γ pn ops o E (E.apps X.l))∧vF P Γ pn hs ops os Xs
 |_,_=>False
theorem vF.get:∀(os:List Oper)(Xs:List Stp),vF P Γ pn hs ops os Xs→os.length=Xs.length∧ ∀(i:Nat)(o:Oper)(X:Stp),os[i]? =dS o→Xs[i]? =dS X→ ∀E:Env,E.Has X.rd→jS hs E→zPg P Γ pn ops o E (E.apps X.l)
 | [],[],_=>by simp
 |o::os,X::Xs,h=>by
  obtain⟨h1,h2⟩:=vF.get os Xs h.2;refine⟨by simp[h1],fun i o' X' ho hX=>?_⟩;cases i with
  |zero=>simp at ho hX;subst ho hX;exact h.1
  |succ i=>exact h2 i o' X' (by simpa using ho) (by simpa using hX)
 | [],_::_,h=>by simp[vF]at h
 |_::_,[],h=>by simp[vF]at h
theorem vF.snoc{X:Stp}:∀(os:List Oper)(Xs:List Stp),vF P Γ pn hs ops os Xs→(∀E:Env,E.Has X.rd→jS hs E→zPg P Γ pn ops o E (E.apps X.l))→vF P Γ pn hs ops (os++[o]) (Xs++[X])
 | [],[],_,h=>⟨h,trivial⟩
 |_::os,_::Xs,h1,h=>⟨h1.1,vF.snoc os Xs h1.2 h⟩
 | [],_::_,h,_=>by simp[vF]at h
 |_::_,[],h,_=>by simp[vF]at h
theorem sD.snoc{X:Stp}:∀(Xs:List Stp)(E:Env),sD E Xs→(runD E (Xs.map fun y=>(dU,y))).Has X.rd→sD E (Xs++[X])
 | [],_,_,h=>⟨by grind[runD],trivial⟩
 |_::Xs,_,h1,h=>⟨h1.1,sD.snoc Xs _ h1.2 (by simpa[runD]using h)⟩
theorem zKp{E0:Env}{e6:List Nat}{Xs:List Stp}{an:List (List Nat)}{Q':Exit→Act→World→Prop}(hf:zBr 0 ops.toList=dU)(ha:zAC an an ops.toList=dU)(hp:kE Xs 0 an Xs=dU)
  (gJ:vF P Γ pn e6 ops ops.toList Xs)(hI:jS e6 E0)(hw:Xs.all (wrS e6)=dU)(hh:sD E0 Xs)(bz:ops.toList.all (fun o=>pn.ok o.dst)=dU)(hQ:∀a' w',jY Γ (runD E0 (Xs.map fun y=>(dU,y))) a' w'→pn.Hold a'→Q' .normal a' w'):
  ∀(fuel:Nat)(L:List Bool)(a:Act)(w:World),L.length=ops.size→L.count dV=fuel→zRT ops L→jY Γ (runD E0 (L.zip Xs)) a w→pn.Hold a→wpAny P .any ops Q' fuel L.toArray a w:=by
 obtain⟨gk,eA⟩:=vF.get _ _ gJ;have pB:Xs.length=ops.size:=by grind
 intro fuel
 induction fuel with
 |zero=>
  intro L a w hL hcnt gI hs fA;have pd:∀b∈L,b=dU:=by grind
  have dO:L=J1 ops.size dU:=by rw[←hL];exact List.eq_replicate_iff.2 ⟨rfl,pd⟩
  refine⟨?_,?_⟩
  ·apply List.eq_nil_iff_forall_not_mem.2
   intro j hj;obtain⟨h1,o,ho,_⟩:=mem_ready.1 hj;have gE:=(Hl.1 ho).1;rw[dO]at h1;simp[gE]at h1
  ·refine hQ a w ?_ fA
   have:L.zip Xs=Xs.map fun y=>(dU,y):=by
    rw[dO,←pB]
    clear hs hL dO pd hcnt gI gJ hw hh hp gk pB eA hQ
    induction Xs with
    |nil=>rfl
    |cons X Xs ih=>simp[Kt,ih]
   grind
 |succ fuel ih=>
  intro L a w hL hcnt gI hs fA;refine⟨fun hr=>?_,fun i hi=>?_⟩
  ·
   exfalso
   have pE:∃m:Nat,L[m]? =dS dV:=by
    have:dV∈L:=by grind
    grind[Uy]
   obtain⟨m,hm,eQ⟩:=zDQ pE;have hmlt:=(J9.1 hm).1;have tp:ops[m]? =dS ops[m]:=by simp
   have:m∈Region.ready .any ops L.toArray:=by
    refine mem_ready.2 ⟨by simp_all,ops[m],tp,fun e he hb=>?_⟩;have hpm:e.on∈zBN ops[m]:=by
     simp only[zBN,Je,Gm]
     grind
    have gE:=zGD ops.toList 0 m _ hf (by simp) _ hpm;rw[Ja]at gE;cases hL1:L[e.on]? with
    |none=>grind
    |some b=>
     cases b with
     |false=>grind
     |true=>simp_all
   grind
  ·obtain⟨h1,o,ho,pd⟩:=mem_ready.1 hi
   have gE:=(Hl.1 ho).1;have hLi:L[i]? =dS dV:=by simp_all
   have eI:∀m∈zBN o,L[m]? =dS dU:=by
    intro m hm;simp only[zBN,Je,Gm]at hm;obtain⟨e,⟨he,hb⟩,rfl⟩:=hm;have:=pd e (by grind) hb;cases hL1:L[e.on]? with
    |none=>grind
    |some b=>simp_all
   have hanc:=zHu hf ha gI i i (Jd _) o ho eI;have mR:Xs[i]? =dS Xs[i]:=by simp
   generalize hXe:Xs[i]=X at mR
   have bK:∀(j:Nat)(Y:Stp),Xs[j]? =dS Y→i<j→L[j]? =dS dU→X.apart Y=dU:=by
    intro j Y hY e7 hj;rcases zF1 Xs Xs 0 an j Y hp hY i X (by omega) mR with h|h
    ·have hjlt:=(J9.1 hY).1
     have aX:ops[j]? =dS ops[j]:=by simp
     have:=zHu hf ha gI j j (Jd _) _ aX (gI j _ aX hj) i h
     grind
    ·exact h
   have mj:∀(j:Nat)(Y:Stp),Xs[j]? =dS Y→j<i→L[j]? =dS dV→Y.apart X=dU:=by grind[zF1]
   have bx:∀y∈(L.take i).zip (Xs.take i),∃j:Nat,j<i∧L[j]? =dS y.1∧Xs[j]? =dS y.2:=by
    intro y hy;obtain⟨j,g1,g2⟩:=zKh hy;rw[Ly]at g1 g2
    grind
   have pu:∀y∈(L.drop (i+1)).zip (Xs.drop (i+1)),∃j:Nat,i<j∧L[j]? =dS y.1∧Xs[j]? =dS y.2:=by
    intro y hy;obtain⟨j,g1,g2⟩:=zKh hy;rw[La]at g1 g2
    grind
   have cj:=zIY hLi mR;have dl:(runD E0 (L.zip Xs)).Has X.rd:=by
    rw[cj,zAq];simp only[runD,Lz,if_false];have h0:=sD.get Xs E0 hh i X mR;refine h0.of fun s t gJ e6=>?_
    have hsm:s∈X.rd.map (·.1):=by grind
    refine zIX _ _ (fun y hy hb=>?_) ?_
    ·obtain⟨j,g1,g2,g3⟩:=pu y hy
     have:=Stp.apart_spec (bK j y.2 g3 g1 (by rw[g2,hb]));exact⟨by grind,by grind⟩
    ·have hmp:((L.take i).zip (Xs.take i)).map (fun y=>(dU,y.2))=(Xs.take i).map fun y=>(dU,y):=by
      have df:(L.take i).length=(Xs.take i).length:=by simp;omega
      rw[show(fun y:Bool×Stp=>(dU,y.2))=(fun y=>(dU,y))∘Prod.snd from rfl,←List.map_map,List.map_snd_zip (by omega)]
     refine zIW _ E0 E0 (fun y hy hb gM=>?_) (fun _ h=>h) t (by grind);obtain⟨j,g1,g2,g3⟩:=bx y hy;have:=Stp.apart_spec (mj j y.2 g3 g1 (by rw[g2,hb]))
     grind
   have hnext:runD E0 ((L.set i dU).zip Xs)=(runD E0 (L.zip Xs)).apps X.l:=by
    have hLs:(L.set i dU)[i]? =dS dU:=by grind
    rw[zIY hLs mR,cj,zAq,zAq];simp only[runD,if_true,Lz,if_false,List.take_set_of_le (Jd i),List.drop_set_of_lt (Nat.lt_succ_self i)];refine zF0 _ X _ fun y hy hb=>?_
    obtain⟨j,g1,g2,g3⟩:=pu y hy;exact(Stp.apart_spec (by grind)).1
   have ax:=eA i o X (by grind) mR _ dl (jS.runD (L.zip Xs) E0 hI fun y hy=>K3.1 hw _ (by obtain⟨j,_,g⟩:=zKh hy;grind));unfold wpOp;simp only[ho];refine ax a w _ Q' fA hs fun a' w' gM p9=>?_
   rw[List.setIfInBounds_toArray];have gP:pn.ok o.dst=dU:=by grind
   refine ih (L.set i dU) a' w' (by simp[hL]) (by grind) ?_ (by grind) (fA.frame gP p9);intro k ok hk hkt m hm
   by_cases hki:k=i
   ·subst hki
    rw[ho]at hk;simp at hk;subst hk;rw[Ja7];split
    ·grind
    grind
   ·rw[U2 (Ne.symm hki)]at hkt
    rw[Ja7];split
    ·grind
    ·exact gI k ok hk hkt m hm
theorem CW.drawnI{e6:List Nat}{id:Nat}{E:Env}{Q:Exit→Env→Prop}(Xs:List Stp)(an:List (List Nat))(hm:P.follows .mixedOrders=dU)(gJ:vF P Γ pn e6 ops ops.toList Xs)(hI:jS e6 E)(hw:Xs.all (wrS e6)=dU)(hh:sD E Xs)
  (hQ:Q .normal (runD E (Xs.map fun y=>(dU,y))))(hf:zBr 0 ops.toList=dU:=by rfl)(ha:zAC an an ops.toList=dU:=by rfl)(hp:kE Xs 0 an Xs=dU:=by rfl)
  (bz:ops.toList.all (fun o=>pn.ok o.dst)=dU:=by rfl):CW P Γ pn (.region id ops dU) E Q:=by
 intro a w Q' hs fA hQ';refine wp_region_any hm ?_;have gM:jY Γ E a { w with drawn:=w.drawn+1 }:=by obtain⟨S,hS,gR,G,hr⟩:=hs;exact⟨S,hS,gR,G,hr.heap rfl⟩
 have:=zKp (P:=P) (Γ:=Γ) (pn:=pn) (E0:=E) (Q':=Q') hf ha hp gJ hI hw hh bz (by grind) ops.size (J1 ops.size dV) a { w with drawn:=w.drawn+1 } (by simp) (by simp)
  (fun i o ho hi=>by
   grind) (by
   have:runD E ((J1 ops.size dV).zip Xs)=E:=by
    generalize ops.size=n
    clear gJ hI hw hh hQ hf ha hp gM
    induction n generalizing Xs with
    |zero=>simp[runD]
    |succ n ih=>
     cases Xs with
     |nil=>simp[runD]
     |cons X Xs=>simpa[Kt,runD]using ih Xs
   grind) fA
 grind
def DK(P:Program)(Γ:Ctx)(pn:tT)(ops:Array Oper)(id:Nat)(hs:List Nat)(E0:Env)(Q:Exit→Env→Prop)(os:List Oper)(E:Env)(acc:List Stp):Prop:=
 ∀don,don++os=ops.toList→vF P Γ pn hs ops don acc.reverse→sD E0 acc.reverse→E=runD E0 (acc.reverse.map fun y=>(dU,y))→CW P Γ pn (.region id ops dU) E0 Q
variable {E0:Env}{acc:List Stp}
theorem CW.dk(h:DK P Γ pn ops id [] E Q ops.toList E []):CW P Γ pn (.region id ops dU) E Q:=h [] rfl trivial trivial rfl
theorem CW.dkS(hs:List Nat)(h:DK P Γ pn ops id hs E Q ops.toList E []):CW P Γ pn (.region id ops dU) E Q:=h [] rfl trivial trivial rfl
theorem dGP(rd:List (Nat×T))(l:zCM)(gH:E.Has rd)(gJ:∀E':Env,E'.Has rd→jS hs E'→zPg P Γ pn ops o E' (E'.apps l))(k:DK P Γ pn ops id hs E0 Q os (E.apps l) (⟨rd,l⟩::acc)):DK P Γ pn ops id hs E0 Q (o::os) E acc:=by
 intro don hd hso hh hE;subst hE;have hr:=fun X=>Hy (a:=X) (as:=acc)
 refine k (don++[o]) (by simp[hd]) ?_ ?_ ?_
 ·grind[vF.snoc]
 ·grind[sD.snoc]
 ·rw[hr,H1,zAq];rfl
theorem dGS(rd:List (Nat×T))(l:zCM)(gH:E.Has rd)(gJ:∀E':Env,E'.Has rd→jS hs E'→yQ P Γ ops o E' (E'.apps l))(k:DK P Γ pn ops id hs E0 Q os (E.apps l) (⟨rd,l⟩::acc)):DK P Γ pn ops id hs E0 Q (o::os) E acc:=
 dGP rd l gH (fun E' h h' a w K Q _=>gJ E' h h' a w K Q) k
theorem dG(rd:List (Nat×T))(l:zCM)(gH:E.Has rd)(gJ:∀E':Env,E'.Has rd→yQ P Γ ops o E' (E'.apps l))(k:DK P Γ pn ops id hs E0 Q os (E.apps l) (⟨rd,l⟩::acc)):DK P Γ pn ops id hs E0 Q (o::os) E acc:=
 by grind[dGS]
def zSm(hs:List Nat)(E:Env):Bool:=hs.all fun s=>match E s with
 |some t=>qO t
 |none=>dV
theorem zSn(h:zSm hs E=dU):jS hs E:=by
 intro s gM;have h1:=K3.1 h s (by grind)
 grind
theorem dN(an:List (List Nat))(hm:P.follows .mixedOrders=dU)(hQ:Q .normal E)(hf:zBr 0 ops.toList=dU:=by rfl)(ha:zAC an an ops.toList=dU:=by rfl)(hp:kE acc.reverse 0 an acc.reverse=dU:=by rfl)
  (bz:ops.toList.all (fun o=>pn.ok o.dst)=dU:=by rfl)(mQ:zSm hs E0=dU:=by rfl)(hw:acc.reverse.all (wrS hs)=dU:=by rfl):DK P Γ pn ops id hs E0 Q [] E acc:=by
 intro don hd gJ hh hE
 grind[CW.drawnI,zSn]
end
end Go.Ab

namespace Go.Ab
open Go
section
variable {P:Program}{Γ:Ctx}{pn:tT}{E E':Env}{Q:Exit→Env→Prop}{ops:Array Oper}{o:Oper}{os:List Oper}{id d:Nat}{wr:Wr}{chg:Chg}{hs:List Nat}{E0:Env}{acc:List Stp}{x y:Operand}{ty:TypeId}{ps:String}{af:Array Edge}{gd:Option (Nat×Bool)}
class zF6 (P:Program) (t:TypeId) (e:outParam TypeId):Prop where
 h:P.underlying t=dS (.slice e)
class jP (P:Program) (t:TypeId) (b:outParam Bool) (n:outParam Nat):Prop where
 h:∀u:T,u.single=b→u.size=n→zRX P t u
theorem hE{rd:List (Nat×T)}{s:Nat}{t:T}(h:E.Has rd)(hr:wT rd s=dS t):E s=dS t:=h.le s t hr
theorem hO{rd:List (Nat×T)}{t:T}(h:E.Has rd)(hr:opT (wT rd) x=dS t):opT E x=dS t:=by
 cases x<;>simp only[opT]at hr ⊢
 ·exact h.le _ _ hr
 all_goals exact hr
mutual
def zEl:T→Bool
 |.ro _|.lit _|.any=>dU
 |.agg xs|.tup xs=>zGI xs
 |.ptr t=>zEl t
 |.sl _ []=>dU
 |_=>dV
def zGI:List T→Bool
 | []=>dU
 |x::xs=>zEl x&&zGI xs
end
mutual
theorem zDv:{t:T}→zEl t=dU→zQ t
 |.ro _,_|.lit _,_|.any,_=>by simp[zQ,yN]
 |.agg xs,h|.tup xs,h=>by simp only[zEl]at h;simpa only[zQ,yN]using zH2 h
 |.ptr t,h=>by simp only[zEl]at h;exact zF3 (zDv h)
 |.sl _ [],_=>by simp[zQ,yN,xF]
 |.sl _ (_::_),h=>by simp[zEl]at h
 |.same _ _,h|.addr _ _,h|.sub _ _ _ _ _,h=>by simp[zEl]at h
theorem zH2:{xs:List T}→zGI xs=dU→yK xs
 | [],_=>trivial
 |x::xs,h=>by simp only[zGI,J2]at h;exact⟨zDv h.1,zH2 h.2⟩
end
theorem yA5{α:Type}{t e:TypeId}{ti:TypeInfo}{r k:Nat}{q:List Nat}{f:α→T}{xs:List α}{v:α}{i:Int}[ht:zBk P t e ti k](hx:uT E x=dS (r,q,L k f xs))(hy:opT E y=dS (I i))(hv:ixO xs i=dS v)(sd:J5 d Γ.N=dU):
  Ok P Γ ⟨dS d,.indexAddr t x y,ty,ps,af,gd⟩ E (E.app [(d,dS (.addr r (i.toNat::q)))] [(d,0)]):=yAq ht hv hx hy sd
theorem yA6{α:Type}{t e:TypeId}{ti:TypeInfo}{r k:Nat}{q:List Nat}{f:α→T}{xs:List α}{v:α}{i:Int}[ht:zBk P t e ti k](hx:uT E x=dS (r,q,.ro (L k f xs)))(hy:opT E y=dS (I i))(hv:ixO xs i=dS v)(sd:J5 d Γ.N=dU):
  Ok P Γ ⟨dS d,.indexAddr t x y,ty,ps,af,gd⟩ E (E.app [(d,dS (.ro (.ptr (f v))))] [(d,0)]):=zX1 ht hv hx hy sd
theorem zPh{t:TypeId}{u:T}{b:Bool}{n:Nat}[i:jP P t b n](hx:opT E x=dS (.ro (.ptr u)))(h1:u.single=b)(h2:u.size=n)(sd:J5 d Γ.N=dU):Ok P Γ ⟨dS d,.load t x,ty,ps,af,gd⟩ E (E.app [(d,dS (roT u))] [(d,0)]):=yAr (i.h u h1 h2) hx sd
theorem zSo{t:TypeId}{u tr:T}{r:Nat}{q:List Nat}{b:Bool}{n:Nat}[i:jP P t b n](hx:opT E x=dS (.addr r q))(hr:E r=dS tr)(hg:tr.get q.reverse=dS u)(h1:u.single=b)(h2:u.size=n)(sd:(J5 d Γ.N&&tr.locd q.reverse&&(r != d)&&T.okB [(d,0)] (cpT r u q))=dU):
  Ok P Γ ⟨dS d,.load t x,ty,ps,af,gd⟩ E (E.app [(d,dS (cpT r u q))] [(d,0)]):=yAs (i.h u h1 h2) hx hr hg sd
theorem zH3{t:TypeId}{u tr t0:T}{r:Nat}{q:List Nat}{b:Bool}{n:Nat}[i:jP P t b n](hx:uT E x=dS (r,q,.ptr t0))(hr:E r=dS tr)(hg:tr.get (0::q).reverse=dS u)(h1:u.single=b)(h2:u.size=n)(sd:(J5 d Γ.N&&tr.locd (0::q).reverse&&(r != d)&&T.okB [(d,0)] (cpT r u (0::q)))=dU):
  Ok P Γ ⟨dS d,.load t x,ty,ps,af,gd⟩ E (E.app [(d,dS (cpT r u (0::q)))] [(d,0)]):=yA2 (i.h u h1 h2) hx hr hg sd
theorem zXE{α:Type}{t e:TypeId}{r k:Nat}{q:List Nat}{f:α→T}{xs:List α}[i:zF6 P t e](hx:uT E x=dS (r,q,L k f xs))(sd:J5 d Γ.N=dU):
  Ok P Γ ⟨dS d,.call { callee:=.builtin .len,args:=#[x],argTypes:=#[t] },ty,ps,af,gd⟩ E (E.app [(d,dS (I (xs.length:Int)))] [(d,0)]):=zX2 i.h hx sd
theorem zN0{α:Type}{t e:TypeId}{r k:Nat}{q:List Nat}{f:α→T}{xs:List α}[i:zF6 P t e](hx:uT E x=dS (r,q,.ro (L k f xs)))(sd:J5 d Γ.N=dU):
  Ok P Γ ⟨dS d,.call { callee:=.builtin .len,args:=#[x],argTypes:=#[t] },ty,ps,af,gd⟩ E (E.app [(d,dS (I (xs.length:Int)))] [(d,0)]):=zRW i.h hx sd
theorem xZ(k:RW P Γ pn ops os (E.app wr chg) Q)(h:Ok P Γ o E (E.app wr chg):=by exact zNu rfl rfl)(hg:o.guard=dT:=by rfl)(hp:pn.ok o.dst=dU:=by rfl):RW P Γ pn ops (o::os) E Q:=oP h k hg hp
theorem zV2{g s:Nat}{b:Bool}(k:RW P Γ pn ops os (E.app wr chg) Q)(hg:o.guard=dS (g,b):=by rfl)(gO:(ops[g]?).bind (·.dst)=dS s:=by rfl)(hb:E s=dS (.lit (.bool b)):=by rfl)(h:Ok P Γ o E (E.app wr chg):=by exact zNu rfl rfl)(hp:pn.ok o.dst=dU:=by rfl):RW P Γ pn ops (o::os) E Q:=RW.cons (yQ.guard g b s h hg gO hb) k hp
theorem uD(k:RW P Γ pn ops os (E.app wr chg) Q)(h:Ok P Γ o E (E.app wr chg):=by exact zVq rfl rfl)(hg:o.guard=dT:=by rfl)(hp:pn.ok o.dst=dU:=by rfl):RW P Γ pn ops (o::os) E Q:=oP h k hg hp
theorem zLC(k:RW P Γ pn ops os (E.app wr chg) Q)(h:Ok P Γ o E (E.app wr chg):=by exact zPh rfl rfl rfl rfl)(hg:o.guard=dT:=by rfl)(hp:pn.ok o.dst=dU:=by rfl):RW P Γ pn ops (o::os) E Q:=oP h k hg hp
theorem zSp(k:RW P Γ pn ops os (E.app wr chg) Q)(h:Ok P Γ o E (E.app wr chg):=by exact yA6 (by first|exact jO rfl rfl|exact zAE rfl rfl (by first|rfl|exact zO (by assumption) rfl|exact zO (by assumption) (zO (by assumption) rfl)|exact xI rfl (zO (by assumption) rfl)|exact xH (zO (by assumption) rfl)|exact xH (xI rfl (zO (by assumption) rfl))|exact xH (xI rfl (zO (by assumption) (zO (by assumption) rfl)))) rfl) rfl (by assumption) rfl)(hg:o.guard=dT:=by rfl)(hp:pn.ok o.dst=dU:=by rfl):RW P Γ pn ops (o::os) E Q:=oP h k hg hp
theorem zH4(k:RW P Γ pn ops os (E.app wr chg) Q)(h:Ok P Γ o E (E.app wr chg):=by exact zN0 (by first|exact jO rfl rfl|exact zAE rfl rfl (by first|rfl|exact zO (by assumption) rfl|exact zO (by assumption) (zO (by assumption) rfl)|exact xI rfl (zO (by assumption) rfl)|exact xH (zO (by assumption) rfl)|exact xH (xI rfl (zO (by assumption) rfl))|exact xH (xI rfl (zO (by assumption) (zO (by assumption) rfl)))) rfl) rfl)(hg:o.guard=dT:=by rfl)(hp:pn.ok o.dst=dU:=by rfl):RW P Γ pn ops (o::os) E Q:=oP h k hg hp
theorem zH5(k:RW P Γ pn ops os (E.app wr chg) Q)(h:Ok P Γ o E (E.app wr chg):=by exact zRU (by assumption) rfl rfl rfl)(hg:o.guard=dT:=by rfl)(hp:pn.ok o.dst=dU:=by rfl):RW P Γ pn ops (o::os) E Q:=oP h k hg hp
theorem zEH(k:RW P Γ pn ops os (E.app wr chg) Q)(h:Ok P Γ o E (E.app wr chg):=by exact zX0 rfl rfl rfl)(hg:o.guard=dT:=by rfl)(hp:pn.ok o.dst=dU:=by rfl):RW P Γ pn ops (o::os) E Q:=oP h k hg hp
theorem zF7(k:RW P Γ pn ops os (E.app wr chg) Q)(h:Ok P Γ o E (E.app wr chg):=by exact zNv rfl rfl rfl)(hg:o.guard=dT:=by rfl)(hp:pn.ok o.dst=dU:=by rfl):RW P Γ pn ops (o::os) E Q:=oP h k hg hp
theorem yCf(k:RW P Γ pn ops os (E.app wr chg) Q)(h:Ok P Γ o E (E.app wr chg):=by exact zYt inferInstance (by first|exact jO rfl rfl|exact zAE rfl rfl (by first|rfl|exact zO (by assumption) rfl|exact zO (by assumption) (zO (by assumption) rfl)|exact xI rfl (zO (by assumption) rfl)|exact xH (zO (by assumption) rfl)|exact xH (xI rfl (zO (by assumption) rfl))|exact xH (xI rfl (zO (by assumption) (zO (by assumption) rfl)))) rfl) rfl rfl rfl)(hg:o.guard=dT:=by rfl)(hp:pn.ok o.dst=dU:=by rfl):RW P Γ pn ops (o::os) E Q:=oP h k hg hp
theorem yA7(k:RW P Γ pn ops os (E.app wr chg) Q)(h:Ok P Γ o E (E.app wr chg):=by first|exact zSo rfl rfl rfl rfl rfl rfl|exact zSo rfl rfl (by first|rfl|exact zO (by assumption) rfl|exact zO (by assumption) (zO (by assumption) rfl)|exact xI rfl (zO (by assumption) rfl)|exact xH (zO (by assumption) rfl)|exact xH (xI rfl (zO (by assumption) rfl))|exact xH (xI rfl (zO (by assumption) (zO (by assumption) rfl)))) (by rfl) (by rfl) (by rfl))(hg:o.guard=dT:=by rfl)(hp:pn.ok o.dst=dU:=by rfl):RW P Γ pn ops (o::os) E Q:=oP h k hg hp
theorem zJd(k:RW P Γ pn ops os (E.app wr chg) Q)(h:Ok P Γ o E (E.app wr chg):=by first|exact zH3 (by first|exact jO rfl rfl|exact zAE rfl rfl (by first|rfl|exact zO (by assumption) rfl|exact zO (by assumption) (zO (by assumption) rfl)|exact xI rfl (zO (by assumption) rfl)|exact xH (zO (by assumption) rfl)|exact xH (xI rfl (zO (by assumption) rfl))|exact xH (xI rfl (zO (by assumption) (zO (by assumption) rfl)))) rfl) rfl rfl rfl rfl rfl|exact zH3 (by first|exact jO rfl rfl|exact zAE rfl rfl (by first|rfl|exact zO (by assumption) rfl|exact zO (by assumption) (zO (by assumption) rfl)|exact xI rfl (zO (by assumption) rfl)|exact xH (zO (by assumption) rfl)|exact xH (xI rfl (zO (by assumption) rfl))|exact xH (xI rfl (zO (by assumption) (zO (by assumption) rfl)))) rfl) rfl (by first|rfl|exact zO (by assumption) rfl|exact zO (by assumption) (zO (by assumption) rfl)|exact xI rfl (zO (by assumption) rfl)|exact xH (zO (by assumption) rfl)|exact xH (xI rfl (zO (by assumption) rfl))|exact xH (xI rfl (zO (by assumption) (zO (by assumption) rfl)))) (by rfl) (by rfl) (by rfl))(hg:o.guard=dT:=by rfl)(hp:pn.ok o.dst=dU:=by rfl):RW P Γ pn ops (o::os) E Q:=oP h k hg hp
theorem yA8{g s:Nat}{b:Bool}(k:RW P Γ pn ops os (E.app wr chg) Q)(hg:o.guard=dS (g,b):=by rfl)(gO:(ops[g]?).bind (·.dst)=dS s:=by rfl)(hb:E s=dS (.lit (.bool b)):=by rfl)(h:Ok P Γ o E (E.app wr chg):=by first|exact zH3 (by first|exact jO rfl rfl|exact zAE rfl rfl (by first|rfl|exact zO (by assumption) rfl|exact zO (by assumption) (zO (by assumption) rfl)|exact xI rfl (zO (by assumption) rfl)|exact xH (zO (by assumption) rfl)|exact xH (xI rfl (zO (by assumption) rfl))|exact xH (xI rfl (zO (by assumption) (zO (by assumption) rfl)))) rfl) rfl rfl rfl rfl rfl|exact zH3 (by first|exact jO rfl rfl|exact zAE rfl rfl (by first|rfl|exact zO (by assumption) rfl|exact zO (by assumption) (zO (by assumption) rfl)|exact xI rfl (zO (by assumption) rfl)|exact xH (zO (by assumption) rfl)|exact xH (xI rfl (zO (by assumption) rfl))|exact xH (xI rfl (zO (by assumption) (zO (by assumption) rfl)))) rfl) rfl (by first|rfl|exact zO (by assumption) rfl|exact zO (by assumption) (zO (by assumption) rfl)|exact xI rfl (zO (by assumption) rfl)|exact xH (zO (by assumption) rfl)|exact xH (xI rfl (zO (by assumption) rfl))|exact xH (xI rfl (zO (by assumption) (zO (by assumption) rfl)))) (by rfl) (by rfl) (by rfl))(hp:pn.ok o.dst=dU:=by rfl):RW P Γ pn ops (o::os) E Q:=RW.cons (yQ.guard g b s h hg gO hb) k hp
theorem zXF(k:RW P Γ pn ops os (E.app wr chg) Q)(h:Ok P Γ o E (E.app wr chg):=by exact zX3 (by assumption) rfl rfl rfl)(hg:o.guard=dT:=by rfl)(hp:pn.ok o.dst=dU:=by rfl):RW P Γ pn ops (o::os) E Q:=oP h k hg hp
theorem zXG(k:RW P Γ pn ops os (E.app wr chg) Q)(h:Ok P Γ o E (E.app wr chg):=by exact zBP rfl rfl)(hg:o.guard=dT:=by rfl)(hp:pn.ok o.dst=dU:=by rfl):RW P Γ pn ops (o::os) E Q:=oP h k hg hp
theorem zXH{g s:Nat}{b:Bool}(k:RW P Γ pn ops os (E.app wr chg) Q)(hg:o.guard=dS (g,b):=by rfl)(gO:(ops[g]?).bind (·.dst)=dS s:=by rfl)(hb:E s=dS (.lit (.bool b)):=by rfl)(h:Ok P Γ o E (E.app wr chg):=by exact zBP rfl rfl)(hp:pn.ok o.dst=dU:=by rfl):RW P Γ pn ops (o::os) E Q:=RW.cons (yQ.guard g b s h hg gO hb) k hp
theorem zSq(k:RW P Γ pn ops os (E.app wr chg) Q)(h:Ok P Γ o E (E.app wr chg):=by exact zRY rfl rfl rfl)(hg:o.guard=dT:=by rfl)(hp:pn.ok o.dst=dU:=by rfl):RW P Γ pn ops (o::os) E Q:=oP h k hg hp
theorem zXI(k:RW P Γ pn ops os (E.app wr chg) Q)(h:Ok P Γ o E (E.app wr chg):=by exact zX4 rfl rfl rfl)(hg:o.guard=dT:=by rfl)(hp:pn.ok o.dst=dU:=by rfl):RW P Γ pn ops (o::os) E Q:=oP h k hg hp
theorem zXJ(k:RW P Γ pn ops os (E.app wr chg) Q)(h:Ok P Γ o E (E.app wr chg):=by exact zSb inferInstance rfl rfl rfl rfl)(hg:o.guard=dT:=by rfl)(hp:pn.ok o.dst=dU:=by rfl):RW P Γ pn ops (o::os) E Q:=oP h k hg hp
theorem zSr(k:RW P Γ pn ops os (E.app wr chg) Q)(h:Ok P Γ o E (E.app wr chg):=by first|exact zAU rfl (zEF rfl) rfl|exact zAU rfl (isPtr_addr rfl) rfl|exact zAU rfl (zDt (by first|exact jO rfl rfl|exact zAE rfl rfl (by first|rfl|exact zO (by assumption) rfl|exact zO (by assumption) (zO (by assumption) rfl)|exact xI rfl (zO (by assumption) rfl)|exact xH (zO (by assumption) rfl)|exact xH (xI rfl (zO (by assumption) rfl))|exact xH (xI rfl (zO (by assumption) (zO (by assumption) rfl)))) rfl)) rfl)(hg:o.guard=dT:=by rfl)(hp:pn.ok o.dst=dU:=by rfl):RW P Γ pn ops (o::os) E Q:=oP h k hg hp
theorem yCg(k:RW P Γ pn ops os (E.app wr chg) Q)(h:Ok P Γ o E (E.app wr chg):=by exact yA5 (by first|exact jO rfl rfl|exact zAE rfl rfl (by first|rfl|exact zO (by assumption) rfl|exact zO (by assumption) (zO (by assumption) rfl)|exact xI rfl (zO (by assumption) rfl)|exact xH (zO (by assumption) rfl)|exact xH (xI rfl (zO (by assumption) rfl))|exact xH (xI rfl (zO (by assumption) (zO (by assumption) rfl)))) rfl) rfl (by assumption) rfl)(hg:o.guard=dT:=by rfl)(hp:pn.ok o.dst=dU:=by rfl):RW P Γ pn ops (o::os) E Q:=oP h k hg hp
theorem yA9(k:RW P Γ pn ops os (E.app wr chg) Q)(h:Ok P Γ o E (E.app wr chg):=by exact zXE (by first|exact jO rfl rfl|exact zAE rfl rfl (by first|rfl|exact zO (by assumption) rfl|exact zO (by assumption) (zO (by assumption) rfl)|exact xI rfl (zO (by assumption) rfl)|exact xH (zO (by assumption) rfl)|exact xH (xI rfl (zO (by assumption) rfl))|exact xH (xI rfl (zO (by assumption) (zO (by assumption) rfl)))) rfl) rfl)(hg:o.guard=dT:=by rfl)(hp:pn.ok o.dst=dU:=by rfl):RW P Γ pn ops (o::os) E Q:=oP h k hg hp
theorem zV3(k:RW P Γ pn ops os (E.app wr chg) Q)(h:Ok P Γ o E (E.app wr chg):=by exact zOY inferInstance rfl)(hg:o.guard=dT:=by rfl)(hp:pn.ok o.dst=dU:=by rfl):RW P Γ pn ops (o::os) E Q:=oP h k hg hp
theorem zXK(k:RW P Γ pn ops os (E.app wr chg) Q)(h:Ok P Γ o E (E.app wr chg):=by exact zX6 rfl rfl rfl)(hg:o.guard=dT:=by rfl)(hp:pn.ok o.dst=dU:=by rfl):RW P Γ pn ops (o::os) E Q:=oP h k hg hp
theorem zJe(k:RW P Γ pn ops os (E.app wr chg) Q)(h:Ok P Γ o E (E.app wr chg):=by exact zX7 rfl (zDv rfl) rfl)(hg:o.guard=dT:=by rfl)(hp:pn.ok o.dst=dU:=by rfl):RW P Γ pn ops (o::os) E Q:=oP h k hg hp
theorem yAA(k:RW P Γ pn ops os (E.app wr chg) Q)(h:Ok P Γ o E (E.app wr chg):=by exact zXD rfl rfl)(hg:o.guard=dT:=by rfl)(hp:pn.ok o.dst=dU:=by rfl):RW P Γ pn ops (o::os) E Q:=oP h k hg hp
theorem tV(rd:List (Nat×T))(k:DK P Γ pn ops id hs E0 Q os (E.app wr chg) (⟨rd,[(wr,chg)]⟩::acc))(gH:E.Has rd:=by repeat (first|exact trivial|refine⟨rfl,?_⟩))(h:∀E':Env,E'.Has rd→Ok P Γ o E' (E'.app wr chg):=by intro E' h;exact zNu (hO h rfl) rfl)(hg:o.guard=dT:=by rfl):DK P Γ pn ops id hs E0 Q (o::os) E acc:=dG rd [(wr,chg)] gH (fun E' h'=>yQ.op (h E' h') hg) k
theorem zN1{g s:Nat}{b:Bool}(rd:List (Nat×T))(k:DK P Γ pn ops id hs E0 Q os (E.app wr chg) (⟨rd,[(wr,chg)]⟩::acc))(gH:E.Has rd:=by repeat (first|exact trivial|refine⟨rfl,?_⟩))(hg:o.guard=dS (g,b):=by rfl)(gO:(ops[g]?).bind (·.dst)=dS s:=by rfl)(hb:wT rd s=dS (.lit (.bool b)):=by rfl)(h:∀E':Env,E'.Has rd→Ok P Γ o E' (E'.app wr chg):=by intro E' h;exact zNu (hO h rfl) rfl):DK P Γ pn ops id hs E0 Q (o::os) E acc:=dG rd [(wr,chg)] gH (fun E' h'=>yQ.guard g b s (h E' h') hg gO (hE h' hb)) k
theorem zV4(rd:List (Nat×T))(k:DK P Γ pn ops id hs E0 Q os (E.app wr chg) (⟨rd,[(wr,chg)]⟩::acc))(gH:E.Has rd:=by repeat (first|exact trivial|refine⟨rfl,?_⟩))(h:∀E':Env,E'.Has rd→Ok P Γ o E' (E'.app wr chg):=by intro E' h;exact zVq (hO h rfl) rfl)(hg:o.guard=dT:=by rfl):DK P Γ pn ops id hs E0 Q (o::os) E acc:=dG rd [(wr,chg)] gH (fun E' h'=>yQ.op (h E' h') hg) k
theorem zPi(rd:List (Nat×T))(k:DK P Γ pn ops id hs E0 Q os (E.app wr chg) (⟨rd,[(wr,chg)]⟩::acc))(gH:E.Has rd:=by repeat (first|exact trivial|refine⟨rfl,?_⟩))(h:∀E':Env,E'.Has rd→Ok P Γ o E' (E'.app wr chg):=by intro E' h;exact zPh (hO h rfl) rfl rfl rfl)(hg:o.guard=dT:=by rfl):DK P Γ pn ops id hs E0 Q (o::os) E acc:=dG rd [(wr,chg)] gH (fun E' h'=>yQ.op (h E' h') hg) k
theorem zH6{g s:Nat}{b:Bool}(rd:List (Nat×T))(k:DK P Γ pn ops id hs E0 Q os (E.app wr chg) (⟨rd,[(wr,chg)]⟩::acc))(gH:E.Has rd:=by repeat (first|exact trivial|refine⟨rfl,?_⟩))(hg:o.guard=dS (g,b):=by rfl)(gO:(ops[g]?).bind (·.dst)=dS s:=by rfl)(hb:wT rd s=dS (.lit (.bool b)):=by rfl)(h:∀E':Env,E'.Has rd→Ok P Γ o E' (E'.app wr chg):=by intro E' h;exact zPh (hO h rfl) rfl rfl rfl):DK P Γ pn ops id hs E0 Q (o::os) E acc:=dG rd [(wr,chg)] gH (fun E' h'=>yQ.guard g b s (h E' h') hg gO (hE h' hb)) k
theorem zY8(rd:List (Nat×T))(k:DK P Γ pn ops id hs E0 Q os (E.app wr chg) (⟨rd,[(wr,chg)]⟩::acc))(gH:E.Has rd:=by repeat (first|exact trivial|refine⟨rfl,?_⟩))(h:∀E':Env,E'.Has rd→Ok P Γ o E' (E'.app wr chg):=by intro E' h;exact zN0 (by first|exact jO (hE h rfl) rfl|exact zAE (hE h rfl) (hE h rfl) (by first|rfl|exact zO (by assumption) rfl|exact zO (by assumption) (zO (by assumption) rfl)|exact xI rfl (zO (by assumption) rfl)|exact xH (zO (by assumption) rfl)|exact xH (xI rfl (zO (by assumption) rfl))|exact xH (xI rfl (zO (by assumption) (zO (by assumption) rfl)))) rfl) rfl)(hg:o.guard=dT:=by rfl):DK P Γ pn ops id hs E0 Q (o::os) E acc:=dG rd [(wr,chg)] gH (fun E' h'=>yQ.op (h E' h') hg) k
theorem zSs{g s:Nat}{b:Bool}(rd:List (Nat×T))(k:DK P Γ pn ops id hs E0 Q os (E.app wr chg) (⟨rd,[(wr,chg)]⟩::acc))(gH:E.Has rd:=by repeat (first|exact trivial|refine⟨rfl,?_⟩))(hg:o.guard=dS (g,b):=by rfl)(gO:(ops[g]?).bind (·.dst)=dS s:=by rfl)(hb:wT rd s=dS (.lit (.bool b)):=by rfl)(h:∀E':Env,E'.Has rd→Ok P Γ o E' (E'.app wr chg):=by intro E' h;exact zN0 (by first|exact jO (hE h rfl) rfl|exact zAE (hE h rfl) (hE h rfl) (by first|rfl|exact zO (by assumption) rfl|exact zO (by assumption) (zO (by assumption) rfl)|exact xI rfl (zO (by assumption) rfl)|exact xH (zO (by assumption) rfl)|exact xH (xI rfl (zO (by assumption) rfl))|exact xH (xI rfl (zO (by assumption) (zO (by assumption) rfl)))) rfl) rfl):DK P Γ pn ops id hs E0 Q (o::os) E acc:=dG rd [(wr,chg)] gH (fun E' h'=>yQ.guard g b s (h E' h') hg gO (hE h' hb)) k
theorem yAB(rd:List (Nat×T))(k:DK P Γ pn ops id hs E0 Q os (E.app wr chg) (⟨rd,[(wr,chg)]⟩::acc))(gH:E.Has rd:=by repeat (first|exact trivial|refine⟨rfl,?_⟩))(h:∀E':Env,E'.Has rd→Ok P Γ o E' (E'.app wr chg):=by intro E' h;exact zRU (by assumption) (hO h rfl) (hO h rfl) rfl)(hg:o.guard=dT:=by rfl):DK P Γ pn ops id hs E0 Q (o::os) E acc:=dG rd [(wr,chg)] gH (fun E' h'=>yQ.op (h E' h') hg) k
theorem zAz(rd:List (Nat×T))(k:DK P Γ pn ops id hs E0 Q os (E.app wr chg) (⟨rd,[(wr,chg)]⟩::acc))(gH:E.Has rd:=by repeat (first|exact trivial|refine⟨rfl,?_⟩))(h:∀E':Env,E'.Has rd→Ok P Γ o E' (E'.app wr chg):=by intro E' h;exact zNv (hO h rfl) (hO h rfl) rfl)(hg:o.guard=dT:=by rfl):DK P Γ pn ops id hs E0 Q (o::os) E acc:=dG rd [(wr,chg)] gH (fun E' h'=>yQ.op (h E' h') hg) k
theorem zQl(rd:List (Nat×T))(k:DK P Γ pn ops id hs E0 Q os (E.app wr chg) (⟨rd,[(wr,chg)]⟩::acc))(gH:E.Has rd:=by repeat (first|exact trivial|refine⟨rfl,?_⟩))(h:∀E':Env,E'.Has rd→Ok P Γ o E' (E'.app wr chg):=by intro E' h;exact zYt inferInstance (by first|exact jO (hE h rfl) rfl|exact zAE (hE h rfl) (hE h rfl) (by first|rfl|exact zO (by assumption) rfl|exact zO (by assumption) (zO (by assumption) rfl)|exact xI rfl (zO (by assumption) rfl)|exact xH (zO (by assumption) rfl)|exact xH (xI rfl (zO (by assumption) rfl))|exact xH (xI rfl (zO (by assumption) (zO (by assumption) rfl)))) rfl) rfl rfl rfl)(hg:o.guard=dT:=by rfl):DK P Γ pn ops id hs E0 Q (o::os) E acc:=dG rd [(wr,chg)] gH (fun E' h'=>yQ.op (h E' h') hg) k
theorem zKq(rd:List (Nat×T))(k:DK P Γ pn ops id hs E0 Q os (E.app wr chg) (⟨rd,[(wr,chg)]⟩::acc))(gH:E.Has rd:=by repeat (first|exact trivial|refine⟨rfl,?_⟩))(h:∀E':Env,E'.Has rd→Ok P Γ o E' (E'.app wr chg):=by intro E' h;first|exact zSo (hO h rfl) (hE h rfl) rfl rfl rfl rfl|exact zSo (hO h rfl) (hE h rfl) (by first|rfl|exact zO (by assumption) rfl|exact zO (by assumption) (zO (by assumption) rfl)|exact xI rfl (zO (by assumption) rfl)|exact xH (zO (by assumption) rfl)|exact xH (xI rfl (zO (by assumption) rfl))|exact xH (xI rfl (zO (by assumption) (zO (by assumption) rfl)))) (by rfl) (by rfl) (by rfl))(hg:o.guard=dT:=by rfl):DK P Γ pn ops id hs E0 Q (o::os) E acc:=dG rd [(wr,chg)] gH (fun E' h'=>yQ.op (h E' h') hg) k
theorem yAC(rd:List (Nat×T))(k:DK P Γ pn ops id hs E0 Q os (E.app wr chg) (⟨rd,[(wr,chg)]⟩::acc))(gH:E.Has rd:=by repeat (first|exact trivial|refine⟨rfl,?_⟩))(h:∀E':Env,E'.Has rd→Ok P Γ o E' (E'.app wr chg):=by intro E' h;first|exact zH3 (by first|exact jO (hE h rfl) rfl|exact zAE (hE h rfl) (hE h rfl) (by first|rfl|exact zO (by assumption) rfl|exact zO (by assumption) (zO (by assumption) rfl)|exact xI rfl (zO (by assumption) rfl)|exact xH (zO (by assumption) rfl)|exact xH (xI rfl (zO (by assumption) rfl))|exact xH (xI rfl (zO (by assumption) (zO (by assumption) rfl)))) rfl) (hE h rfl) rfl rfl rfl rfl|exact zH3 (by first|exact jO (hE h rfl) rfl|exact zAE (hE h rfl) (hE h rfl) (by first|rfl|exact zO (by assumption) rfl|exact zO (by assumption) (zO (by assumption) rfl)|exact xI rfl (zO (by assumption) rfl)|exact xH (zO (by assumption) rfl)|exact xH (xI rfl (zO (by assumption) rfl))|exact xH (xI rfl (zO (by assumption) (zO (by assumption) rfl)))) rfl) (hE h rfl) (by first|rfl|exact zO (by assumption) rfl|exact zO (by assumption) (zO (by assumption) rfl)|exact xI rfl (zO (by assumption) rfl)|exact xH (zO (by assumption) rfl)|exact xH (xI rfl (zO (by assumption) rfl))|exact xH (xI rfl (zO (by assumption) (zO (by assumption) rfl)))) (by rfl) (by rfl) (by rfl))(hg:o.guard=dT:=by rfl):DK P Γ pn ops id hs E0 Q (o::os) E acc:=dG rd [(wr,chg)] gH (fun E' h'=>yQ.op (h E' h') hg) k
theorem yAD(rd:List (Nat×T))(k:DK P Γ pn ops id hs E0 Q os (E.app wr chg) (⟨rd,[(wr,chg)]⟩::acc))(gH:E.Has rd:=by repeat (first|exact trivial|refine⟨rfl,?_⟩))(h:∀E':Env,E'.Has rd→Ok P Γ o E' (E'.app wr chg):=by intro E' h;exact zBP (hO h rfl) rfl)(hg:o.guard=dT:=by rfl):DK P Γ pn ops id hs E0 Q (o::os) E acc:=dG rd [(wr,chg)] gH (fun E' h'=>yQ.op (h E' h') hg) k
theorem yAE{g s:Nat}{b:Bool}(rd:List (Nat×T))(k:DK P Γ pn ops id hs E0 Q os (E.app wr chg) (⟨rd,[(wr,chg)]⟩::acc))(gH:E.Has rd:=by repeat (first|exact trivial|refine⟨rfl,?_⟩))(hg:o.guard=dS (g,b):=by rfl)(gO:(ops[g]?).bind (·.dst)=dS s:=by rfl)(hb:wT rd s=dS (.lit (.bool b)):=by rfl)(h:∀E':Env,E'.Has rd→Ok P Γ o E' (E'.app wr chg):=by intro E' h;exact zRY (hO h rfl) (hO h rfl) rfl):DK P Γ pn ops id hs E0 Q (o::os) E acc:=dG rd [(wr,chg)] gH (fun E' h'=>yQ.guard g b s (h E' h') hg gO (hE h' hb)) k
theorem zH7{g s:Nat}{b:Bool}(rd:List (Nat×T))(k:DK P Γ pn ops id hs E0 Q os (E.app wr chg) (⟨rd,[(wr,chg)]⟩::acc))(gH:E.Has rd:=by repeat (first|exact trivial|refine⟨rfl,?_⟩))(hg:o.guard=dS (g,b):=by rfl)(gO:(ops[g]?).bind (·.dst)=dS s:=by rfl)(hb:wT rd s=dS (.lit (.bool b)):=by rfl)(h:∀E':Env,E'.Has rd→Ok P Γ o E' (E'.app wr chg):=by intro E' h;exact zSb inferInstance (hO h rfl) rfl rfl rfl):DK P Γ pn ops id hs E0 Q (o::os) E acc:=dG rd [(wr,chg)] gH (fun E' h'=>yQ.guard g b s (h E' h') hg gO (hE h' hb)) k
theorem zKr(rd:List (Nat×T))(k:DK P Γ pn ops id hs E0 Q os (E.app wr chg) (⟨rd,[(wr,chg)]⟩::acc))(gH:E.Has rd:=by repeat (first|exact trivial|refine⟨rfl,?_⟩))(h:∀E':Env,E'.Has rd→Ok P Γ o E' (E'.app wr chg):=by intro E' h;first|exact zAU (hO h rfl) (zEF (hO h rfl)) rfl|exact zAU (hO h rfl) (isPtr_addr (hO h rfl)) rfl|exact zAU (hO h rfl) (zDt (by first|exact jO (hE h rfl) rfl|exact zAE (hE h rfl) (hE h rfl) (by first|rfl|exact zO (by assumption) rfl|exact zO (by assumption) (zO (by assumption) rfl)|exact xI rfl (zO (by assumption) rfl)|exact xH (zO (by assumption) rfl)|exact xH (xI rfl (zO (by assumption) rfl))|exact xH (xI rfl (zO (by assumption) (zO (by assumption) rfl)))) rfl)) rfl)(hg:o.guard=dT:=by rfl):DK P Γ pn ops id hs E0 Q (o::os) E acc:=dG rd [(wr,chg)] gH (fun E' h'=>yQ.op (h E' h') hg) k
theorem zEm{g s:Nat}{b:Bool}(rd:List (Nat×T))(k:DK P Γ pn ops id hs E0 Q os (E.app wr chg) (⟨rd,[(wr,chg)]⟩::acc))(gH:E.Has rd:=by repeat (first|exact trivial|refine⟨rfl,?_⟩))(hg:o.guard=dS (g,b):=by rfl)(gO:(ops[g]?).bind (·.dst)=dS s:=by rfl)(hb:wT rd s=dS (.lit (.bool b)):=by rfl)(h:∀E':Env,E'.Has rd→Ok P Γ o E' (E'.app wr chg):=by intro E' h;first|exact zAU (hO h rfl) (zEF (hO h rfl)) rfl|exact zAU (hO h rfl) (isPtr_addr (hO h rfl)) rfl|exact zAU (hO h rfl) (zDt (by first|exact jO (hE h rfl) rfl|exact zAE (hE h rfl) (hE h rfl) (by first|rfl|exact zO (by assumption) rfl|exact zO (by assumption) (zO (by assumption) rfl)|exact xI rfl (zO (by assumption) rfl)|exact xH (zO (by assumption) rfl)|exact xH (xI rfl (zO (by assumption) rfl))|exact xH (xI rfl (zO (by assumption) (zO (by assumption) rfl)))) rfl)) rfl):DK P Γ pn ops id hs E0 Q (o::os) E acc:=dG rd [(wr,chg)] gH (fun E' h'=>yQ.guard g b s (h E' h') hg gO (hE h' hb)) k
theorem yCh(rd:List (Nat×T))(k:DK P Γ pn ops id hs E0 Q os (E.app wr chg) (⟨rd,[(wr,chg)]⟩::acc))(gH:E.Has rd:=by repeat (first|exact trivial|refine⟨rfl,?_⟩))(h:∀E':Env,E'.Has rd→Ok P Γ o E' (E'.app wr chg):=by intro E' h;exact yA5 (by first|exact jO (hE h rfl) rfl|exact zAE (hE h rfl) (hE h rfl) (by first|rfl|exact zO (by assumption) rfl|exact zO (by assumption) (zO (by assumption) rfl)|exact xI rfl (zO (by assumption) rfl)|exact xH (zO (by assumption) rfl)|exact xH (xI rfl (zO (by assumption) rfl))|exact xH (xI rfl (zO (by assumption) (zO (by assumption) rfl)))) rfl) (hO h rfl) (by assumption) rfl)(hg:o.guard=dT:=by rfl):DK P Γ pn ops id hs E0 Q (o::os) E acc:=dG rd [(wr,chg)] gH (fun E' h'=>yQ.op (h E' h') hg) k
theorem yAF(rd:List (Nat×T))(k:DK P Γ pn ops id hs E0 Q os (E.app wr chg) (⟨rd,[(wr,chg)]⟩::acc))(gH:E.Has rd:=by repeat (first|exact trivial|refine⟨rfl,?_⟩))(h:∀E':Env,E'.Has rd→Ok P Γ o E' (E'.app wr chg):=by intro E' h;exact zXE (by first|exact jO (hE h rfl) rfl|exact zAE (hE h rfl) (hE h rfl) (by first|rfl|exact zO (by assumption) rfl|exact zO (by assumption) (zO (by assumption) rfl)|exact xI rfl (zO (by assumption) rfl)|exact xH (zO (by assumption) rfl)|exact xH (xI rfl (zO (by assumption) rfl))|exact xH (xI rfl (zO (by assumption) (zO (by assumption) rfl)))) rfl) rfl)(hg:o.guard=dT:=by rfl):DK P Γ pn ops id hs E0 Q (o::os) E acc:=dG rd [(wr,chg)] gH (fun E' h'=>yQ.op (h E' h') hg) k
theorem zXL(rd:List (Nat×T))(k:DK P Γ pn ops id hs E0 Q os (E.app wr chg) (⟨rd,[(wr,chg)]⟩::acc))(gH:E.Has rd:=by repeat (first|exact trivial|refine⟨rfl,?_⟩))(h:∀E':Env,E'.Has rd→Ok P Γ o E' (E'.app wr chg):=by intro E' h;exact zX5 (by assumption) (hO h rfl) rfl)(hg:o.guard=dT:=by rfl):DK P Γ pn ops id hs E0 Q (o::os) E acc:=dG rd [(wr,chg)] gH (fun E' h'=>yQ.op (h E' h') hg) k
theorem cA{f:FuncId}{xs:List Operand}{ats:Array TypeId}{us res:List T}(gn:kG P f)(hc:FnC P f us res [])(k:RW P Γ pn ops os (E.app (cWr d res []) (wS d [])) Q)(gj:xG E [] 0 xs us:=by repeat (first|exact trivial|refine⟨agC _ rfl (by first|rfl|exact zQh inferInstance|exact zNw rfl (by first|rfl|exact zO (by assumption) rfl|exact zO (by assumption) (zO (by assumption) rfl)|exact xI rfl (zO (by assumption) rfl)|exact xH (zO (by assumption) rfl)|exact xH (xI rfl (zO (by assumption) rfl))|exact xH (xI rfl (zO (by assumption) (zO (by assumption) rfl)))) inferInstance|exact cloSR rfl (by first|rfl|exact zO (by assumption) rfl|exact zO (by assumption) (zO (by assumption) rfl)|exact xI rfl (zO (by assumption) rfl)|exact xH (zO (by assumption) rfl)|exact xH (xI rfl (zO (by assumption) rfl))|exact xH (xI rfl (zO (by assumption) (zO (by assumption) rfl))))) rfl,?_⟩))(gw:zBQ res:=by repeat (first|exact zBz|refine zCj inferInstance ?_))(sd:J5 d Γ.N=dU:=by rfl)(hg:gd=dT:=by rfl)(hp:pn.ok (dS d)=dU:=by rfl):
  RW P Γ pn ops (⟨dS d,.call { callee:=.value (.func f),args:=xs.toArray,argTypes:=ats },ty,ps,af,gd⟩::os) E Q:=oP (tU gn hc gj gw sd) k hg hp
theorem dC{f:FuncId}{xs:List Operand}{ats:Array TypeId}{us res:List T}(rd:List (Nat×T))(gn:kG P f)(hc:FnC P f us res [])(k:DK P Γ pn ops id hs E0 Q os (E.app (cWr d res []) (wS d [])) (⟨rd,[(cWr d res [],wS d [])]⟩::acc))(gH:E.Has rd:=by repeat (first|exact trivial|refine⟨rfl,?_⟩))(gj:∀E':Env,E'.Has rd→xG E' [] 0 xs us:=by intro E' h;repeat (first|exact trivial|refine⟨agC _ (hO h rfl) (by first|rfl|exact zQh inferInstance|exact zNw (hE h rfl) (by first|rfl|exact zO (by assumption) rfl|exact zO (by assumption) (zO (by assumption) rfl)|exact xI rfl (zO (by assumption) rfl)|exact xH (zO (by assumption) rfl)|exact xH (xI rfl (zO (by assumption) rfl))|exact xH (xI rfl (zO (by assumption) (zO (by assumption) rfl)))) inferInstance|exact cloSR (hE h rfl) (by first|rfl|exact zO (by assumption) rfl|exact zO (by assumption) (zO (by assumption) rfl)|exact xI rfl (zO (by assumption) rfl)|exact xH (zO (by assumption) rfl)|exact xH (xI rfl (zO (by assumption) rfl))|exact xH (xI rfl (zO (by assumption) (zO (by assumption) rfl))))) rfl,?_⟩))(gw:zBQ res:=by repeat (first|exact zBz|refine zCj inferInstance ?_))(sd:J5 d Γ.N=dU:=by rfl)(hg:gd=dT:=by rfl):
  DK P Γ pn ops id hs E0 Q (⟨dS d,.call { callee:=.value (.func f),args:=xs.toArray,argTypes:=ats },ty,ps,af,gd⟩::os) E acc:=
 dG rd [(cWr d res [],wS d [])] gH (fun E' h'=>yQ.op (tU gn hc (gj E' h') gw sd) hg) k
theorem sk2{g s:Nat}{b b':Bool}(k:RW P Γ pn ops os (E.app [(d,dS (.tup []))] [(d,0)]) Q)(hd:o.dst=dS d:=by rfl)(hg:o.guard=dS (g,b):=by rfl)(gO:(ops[g]?).bind (·.dst)=dS s:=by rfl)(hb:E s=dS (.lit (.bool b')):=by rfl)(cH:(b==b')=dV:=by rfl)(sd:J5 d Γ.N=dU:=by rfl)(hp:pn.ok o.dst=dU:=by rfl):
  RW P Γ pn ops (o::os) E Q:=RW.cons (yQ.skip2 g b b' s hd sd cH hg gO hb) k hp
theorem sk3{g s:Nat}{b:Bool}(k:RW P Γ pn ops os (E.app [(d,dS (.tup []))] [(d,0)]) Q)(hd:o.dst=dS d:=by rfl)(hg:o.guard=dS (g,b):=by rfl)(gO:(ops[g]?).bind (·.dst)=dS s:=by rfl)(hb:E s=dS (.tup []):=by rfl)(sd:J5 d Γ.N=dU:=by rfl)(hp:pn.ok o.dst=dU:=by rfl):
  RW P Γ pn ops (o::os) E Q:=RW.cons (yQ.skip3 g b s hd sd hg gO hb) k hp
theorem vH{g s:Nat}{b b':Bool}(k:DK P Γ pn ops id hs E0 Q os (E.app [(d,dS (.tup []))] [(d,0)]) (⟨[(s,.lit (.bool b'))],[([(d,dS (.tup []))],[(d,0)])]⟩::acc))(hd:o.dst=dS d:=by rfl)(hg:o.guard=dS (g,b):=by rfl)(gO:(ops[g]?).bind (·.dst)=dS s:=by rfl)(hb:E s=dS (.lit (.bool b')):=by rfl)(cH:(b==b')=dV:=by rfl)(sd:J5 d Γ.N=dU:=by rfl):
  DK P Γ pn ops id hs E0 Q (o::os) E acc:=dG [(s,.lit (.bool b'))] [([(d,dS (.tup []))],[(d,0)])] ⟨hb,trivial⟩ (fun _E' h=>yQ.skip2 g b b' s hd sd cH hg gO h.1) k
theorem yCi{g s:Nat}{b:Bool}(k:DK P Γ pn ops id hs E0 Q os (E.app [(d,dS (.tup []))] [(d,0)]) (⟨[(s,.tup [])],[([(d,dS (.tup []))],[(d,0)])]⟩::acc))(hd:o.dst=dS d:=by rfl)(hg:o.guard=dS (g,b):=by rfl)(gO:(ops[g]?).bind (·.dst)=dS s:=by rfl)(hb:E s=dS (.tup []):=by rfl)(sd:J5 d Γ.N=dU:=by rfl):
  DK P Γ pn ops id hs E0 Q (o::os) E acc:=dG [(s,.tup [])] [([(d,dS (.tup []))],[(d,0)])] ⟨hb,trivial⟩ (fun _E' h=>yQ.skip3 g b s hd sd hg gO h.1) k
theorem dNA(hm:P.follows .mixedOrders=dU)(hQ:Q .normal E)(hf:zBr 0 ops.toList=dU:=by rfl)(ha:zAC (zY6 ops.toList) (zY6 ops.toList) ops.toList=dU:=by rfl)(hp:kE acc.reverse 0 (zY6 ops.toList) acc.reverse=dU:=by rfl)
  (bz:ops.toList.all (fun o=>pn.ok o.dst)=dU:=by rfl)(mQ:zSm hs E0=dU:=by rfl)(hw:acc.reverse.all (wrS hs)=dU:=by rfl):DK P Γ pn ops id hs E0 Q [] E acc:=dN _ hm hQ hf ha hp bz mQ hw
theorem cn{c1 c2:Code}{α:Type}{b:Bool}{u v z:α}(h:cond b u v=z)(ht:b=dU→u=z→CW P Γ pn c1 E Q)(hf:b=dV→v=z→CW P Γ pn c2 E Q)(hb:opT E x=dS (.lit (.bool b)):=by rfl):CW P Γ pn (.cond x c1 c2) E Q:=
 CW.cond b hb (fun hc=>ht hc (cT hc h)) fun hc=>hf hc (cF hc h)
theorem fB{f:FuncId}{fn:Func}{c:Code}{us res:List T}{rws:List (Nat×T)}(hf:P.funcs[f]? =dS fn)(h:∀(St:Stb)(W:Nat→Prop)(w0:World)(v:Nat→Value),CW P ⟨St,W,w0,fn.ntmps⟩ (zCL v (rws.map (·.1))) c (wT (zI4 0 us)) (yZ ⟨St,W,w0,fn.ntmps⟩ P fn.results us res rws))(hb:fn.body=dS c:=by rfl)(hn:us.length≤fn.ntmps:=by exact Nat.le_of_ble_eq_true rfl)
  (ht:uB us:=by repeat (first|exact trivial|refine⟨by first|exact Top.of_clean _ (Enc.clean _)|simp[Top,uB],?_⟩))(hr:rws.all (fun x=>decide (x.1<us.length))=dU:=by rfl):FnC P f us res rws:=
 FnC.of_bodyG hf hb hn ht hr (by rintro⟨St,W,w0,N⟩ v hN;subst hN;exact h St W w0 v)
def zCT:List ResultVar→Option (List Nat)
 | []=>dS []
 |.tmp s::l=>(zCT l).map (s::·)
 |.cell _ _::_=>dT
theorem zJf:∀(rs:List ResultVar)(ss:List Nat)(res:List T),zCT rs=dS ss→ss.map E=res.map dS→res.all T.okTup=dU→ ∃nd:Nds,zGw P E rs nd∧nd.map (·.2.2)=res∧nd.map (·.1)=ss
 | [],ss,res,h,hE,_=>by
  simp[zCT]at h;subst h;cases res with
  |nil=>exact⟨[],trivial,rfl,rfl⟩
  |cons _ _=>simp at hE
 |.tmp s::rs,ss,res,h,hE,ht=>by
  simp only[zCT,K0]at h;obtain⟨ss',h,rfl⟩:=h;cases res with
  |nil=>simp at hE
  |cons t res=>
   simp only[Jl,Jaj.injEq]at hE;simp only[Gw,J2]at ht;obtain⟨nd,h1,h2,h3⟩:=zJf rs ss' res h hE.2 ht.2;exact⟨(s,[],t)::nd,⟨⟨rfl,rfl,hE.1,ht.1⟩,h1⟩,by simp[h2],by simp[h3]⟩
 |.cell _ _::_,_,_,h,_,_=>by simp[zCT]at h
theorem rT{rs:Array ResultVar}{us res:List T}{rws:List (Nat×T)}{e:Exit}{ss:List Nat}(hs:zCT rs.toList=dS ss:=by rfl)(hE:ss.map E=res.map dS:=by rfl)(ht:res.all T.okTup=dU:=by rfl)(hl:ss.all (fun s=>Ux us.length s)=dU:=by rfl)(hn:zB0 ss=dU:=by rfl)
  (hw:LOk E us rws:=by repeat (first|exact trivial|refine⟨⟨rfl,_,rfl⟩,?_⟩))(he:e=.ret∨e=.normal:=by first|exact .inl rfl|exact .inr rfl):yZ Γ P rs us res rws e E:=by
 obtain⟨nd,h1,h2,h3⟩:=zJf (P:=P) rs.toList ss res hs hE ht;refine⟨E,zK.refl,he,nd,h1,h2,fun x hx=>?_,by rw[h3];exact zDu hn,hw⟩;have:x.1∈ss:=by rw[←h3];exact Je.2 ⟨x,hx,rfl⟩
 exact Nat.le_of_ble_eq_true (K3.1 hl _ this)
theorem eN{σ ρ:Type}{en:σ→Env}{Q1:ρ→Exit→Env→Prop}{y:σ}{x:σ⊕ρ}(h:dS (Sum.inl y)=dS x)(q:zK Γ E (en y):=by exact .has (by repeat (first|exact trivial|refine⟨rfl,?_⟩))):yO Γ en Q1 x .normal E:=by obtain rfl:=sI h;exact⟨rfl,q⟩
theorem rTg{rs:Array ResultVar}{us res:List T}{rws:List (Nat×T)}{e:Exit}(hg:zK Γ E E')(h:yZ Γ P rs us res rws e E'):yZ Γ P rs us res rws e E:=by obtain⟨E2,h1,h2⟩:=h;exact⟨E2,hg.trans h1,h2⟩
theorem eX{σ ρ:Type}{en:σ→Env}{Q1:ρ→Exit→Env→Prop}{y:ρ}{x:σ⊕ρ}{e:Exit}(h:dS (Sum.inr y)=dS x)(q:Q1 y e E:=by first|exact⟨rfl,.has (by repeat (first|exact trivial|refine⟨rfl,?_⟩))⟩|exact⟨rfl,rT⟩)(gc:e≠.normal:=by first|exact neX|exact neR):yO Γ en Q1 x e E:=by obtain rfl:=sI h;exact⟨gc,q⟩
end
end Go.Ab

namespace Go.Ab
open Go
section
variable {Γ:Ctx}{E:Env}
theorem zK.frzG(s:Nat)(t:T){t':T}(hs:E s=dS t)(h:vG t=t'):zK Γ E (E.app [(s,dS t')] [(s,1)]):=h▸zK.freeze s t hs
theorem fzO{α:Type}{k:Nat}{f g:α→T}{xs:List α}(h:vQ f g):vG (L k f xs)=.ro (L k g xs):=by simp only[vG,strip,uU h.h xs]
theorem fzP{t u:T}(h:strip t=u):vG (.ptr t)=.ro (.ptr u):=by grind[vG,strip]
theorem fzA{xs ys:List T}(h:uH xs=ys):vG (.agg xs)=.agg ys:=by grind[vG]
theorem fzC{x y:T}{xs ys:List T}(h:vG x=y)(h2:uH xs=ys):uH (x::xs)=y::ys:=by grind[uH]
end
end Go.Ab
namespace Go.Ab
open Go
theorem zPj{α:Type}{k:Nat}{f:α→T}{xs:List α}{i j:Int}{a b:α}{X:T}(hi:ixO xs i=dS a)(hj:ixO xs j=dS b)(gc:(i != j)=dU):
  (if[i.toNat]=[]then X else(L k f xs).set [i.toNat].reverse T.any).get [j.toNat].reverse=dS (f b):=by
 have h1:=(vD hi);have h2:=(vD hj);have h3:i≠j:=by grind
 have h4:i.toNat≠j.toNat:=by omega
 simp only[List.cons_ne_nil,if_false,Hy,H8,K6]
 grind[T.set,T.get]
theorem zSt{E:Env}{wr:Wr}{chg:Chg}{s:Nat}{t:T}(h:E s=dS t)(hf:wr.find s=dT:=by rfl)(hb:t.okB chg=dU:=by rfl):opT (E.app wr chg) (.tmp s)=dS t:=zX9 h hf hb
theorem zSu{E:Env}{rs:List Nat}{s r:Nat}{q:List Nat}{tr u:T}(hr:E r=dS tr)(hg:tr.get q.reverse=dS u)(h4:zAD u=dU)(hn:rs.contains r=dV):zIQ E rs (.tmp s) (.same r q)=dU:=by simp only[zIQ,sJ,zDs hr hg h4,hn,Jo]
end Go.Ab
