/- x -/
import Derived.Test.YtmgckbgmmpemgaaGreatSAbA
import Derived.Laws.CopyRow
import Derived.ProofKit
open Bool renaming and_eq_true→J1,not_true→Jg,and_self→Kr,false_eq_true→Ln,not_eq_true'→Hc
open List renaming replicate→J2,getElem?_eq_getElem→J5,getElem?_eq_some_iff→J9,append_nil→Ja,mem_map→Jb,getElem?_append_right→Jc,append_assoc→Jd,map_cons→Jh,length_append→Ji,mem_cons→Jj,length_map→Jn,range→Jq,getElem?_map→Jr,eq_nil_of_length_eq_zero→Js,all_eq_true→Jy,length_cons→K5,getElem?_append→K8,nil_append→K9,mem_append→Ka,reverse_reverse→Kf,mem_iff_getElem→Kh,length_take→Kj,nodup_cons→Kk,replicate_succ→Km,take_succ_cons→Kw,singleton_append→Kx,mem_of_getElem?→Ky,getElem?_append_left→L1,getElem?_drop→L6,cons_append→L7,flatMap_cons→L8,take_zero→Lb,contains_eq_mem→Ld,getElem?_take→Li,map_append→H6,reverse_nil→He,map_take→Hw,map_nil→G4,length_nil→G5,reverse_cons→G8,length_range→Ga,range'→Gg,find?_cons_of_neg→Gv,mem_iff_getElem?→Gy,mem_cons_of_mem→U9,getLast?_append→Ua,dropLast_concat→Ub,getElem?_set_self→Ui,find?_eq_none→Uj,all_cons→Ux,getElem?_cons_succ→Uy,cons→Q0,size_toArray→Q5,map_drop→Q6,getElem?_set→Q7,range'_succ→Q9,mem_filter→Qd,drop_zero→Qh,getD→Ql,map_map→Qv
open Nat renaming blt→J3,zero_add→J6,le_refl→Jf,lt_or_ge→Jt,zero_le→K6,succ_mul→La,mul_le_mul_right→Le,add_assoc→Lf,le_trans→Lh,mul_one→Hi,add_zero→Gx,sub_zero→Ut,beq→Qc
open Array renaming getElem?_setIfInBounds→J8,length_toList→K0,getD_eq_getD_getElem?→K1,getElem?_toList→Kb,getElem?_eq_some_iff→L9,replicate→G6
open Option renaming map_eq_some_iff→Kg,some→H8,map_some→Ge,map_eq_none_iff→Gj,bind_eq_some_iff→Gl,getD_some→Us
open Prod renaming mk→Q2
open Option renaming some→VU,none→VV
open Bool renaming true→VW,false→VX
namespace Go.Ab
open Go
abbrev Rw:=List (Nat×Nat×T)
def rwI(rw:Rw)(s:Nat):Option Nat:=(rw.find? fun x=>x.2.1==s).map (·.1)
def rwS(rw:Rw)(i:Nat):Option Nat:=(rw.find? fun x=>x.1==i).map (·.2.1)
theorem zCE:(rw:Rw)→(rw.map (·.2.1)).Nodup→ ∀{i s:Nat}{u:T},(i,s,u)∈rw→rwI rw s=VU i
 | [],_,_,_,_,h=>by simp at h
 |(i0,s0,u0)::rw,hn,i,s,u,h=>by
  simp only[Jh,Kk,Jb]at hn;rcases Jj.1 h with h|h
  ·simp at h;obtain⟨rfl,rfl,rfl⟩:=h;simp[rwI]
  ·have gk:s0≠s:=fun e=>hn.1 ⟨_,h,e.symm⟩
   have:=zCE rw hn.2 h;simp only[rwI]at this ⊢
   rw[Gv (by simpa using gk)];exact this
theorem zJE:(rw:Rw)→(rw.map (·.1)).Nodup→ ∀{i s:Nat}{u:T},(i,s,u)∈rw→rwS rw i=VU s
 | [],_,_,_,_,h=>by simp at h
 |(i0,s0,u0)::rw,hn,i,s,u,h=>by
  simp only[Jh,Kk,Jb]at hn;rcases Jj.1 h with h|h
  ·simp at h;obtain⟨rfl,rfl,rfl⟩:=h;simp[rwS]
  ·have gk:i0≠i:=fun e=>hn.1 ⟨_,h,e.symm⟩
   have:=zJE rw hn.2 h;simp only[rwS]at this ⊢
   rw[Gv (by simpa using gk)];exact this
theorem zJF{rw:Rw}{s:Nat}(h:s∉rw.map (·.2.1)):rwI rw s=VV:=by simp only[rwI,Gj,Uj];intro x hx;simp only[beq_iff_eq];exact fun e=>h (Jb.2 ⟨x,hx,e⟩)
theorem zOA{rw:Rw}{i:Nat}(h:∀x∈rw,x.1≠i):rwS rw i=VV:=by simp only[rwS,Gj,Uj];intro x hx;simpa using h x hx
theorem zMn{rw:Rw}{s i:Nat}(h:rwI rw s=VU i):s∈rw.map (·.2.1):=by simp only[rwI,Kg]at h;obtain⟨x,hx,_⟩:=h;have h1:=List.mem_of_find?_eq_some hx;have h2:=List.find?_some hx;exact Jb.2 ⟨x,h1,by simpa using h2⟩
abbrev Nd:=List (Nat×List Nat×T)
def zOB(nd:Nd)(k s:Nat):Option (Nat×List Nat):=
 match nd with
 | []=>VV
 |x::r=>if x.1=s then VU (k,x.2.1)else zOB r (k+1) s
def ndB(d:Nat)(nd:Nd)(s:Nat)(z:List Nat):Option (Nat×List Nat):=
 match nd with
 | [x]=>if x.1=s∧x.2.1<:+z then VU (d,z.take (z.length-x.2.1.length))else VV
 |nd=>match zOB nd 0 s with
  |some (k,q)=>if q<:+z then VU (d,z.take (z.length-q.length)++[k])else VV
  |none=>VV
theorem zHJ:(nd:Nd)→(nd.map (·.1)).Nodup→ ∀{k k0:Nat}{x:Nat×List Nat×T},nd[k]? =VU x→zOB nd k0 x.1=VU (k0+k,x.2.1)
 | [],_,_,_,_,h=>by simp at h
 |y::nd,hn,k,k0,x,h=>by
  simp only[Jh,Kk,Jb]at hn;cases k with
  |zero=>simp at h;subst h;simp[zOB]
  |succ k=>
   simp only[Uy]at h;have gk:y.1≠x.1:=fun e=>hn.1 ⟨x,Ky h,e.symm⟩
   simp only[zOB,gk,if_false];rw[zHJ nd hn.2 h]
   congr 2;omega
def zOC(G:Gh)(nd:Nd)(z:List Nat):Value:=
 match nd with
 | [x]=>G.hd x.1 (z++x.2.1)
 |nd=>match z.getLast? with
  |some k=>(match nd[k]? with
   |some x=>G.hd x.1 (z.dropLast++x.2.1)
   |none=>.bool VX)
  |none=>.bool VX
def zRx(G:Gh)(nd:Nd)(z:List Nat):Addr:=
 match nd with
 | [x]=>G.ad x.1 (z++x.2.1)
 |nd=>match z.getLast? with
  |some k=>(match nd[k]? with
   |some x=>G.ad x.1 (z.dropLast++x.2.1)
   |none=>default)
  |none=>default
def Gh.arg(G:Gh)(a:Act)(xs:List Operand)(rw:Rw):Gh where
 hd i z:=match xs[i]? with
  |some (.tmp s)=>G.hd s z
  |some x=>zAj (a.eval x)
  |none=>.bool VX
 ad i z:=match xs[i]? with
  |some (.tmp s)=>G.ad s z
  |_=>default
 lb b o:=match G.lb b o with
  |some (f,s,z)=>(match rwI rw s,G.ow b with
   |some i,VU (s',_)=>if s'=s then VU (f,i,z)else VV
   |_,_=>VV)
  |none=>VV
 ow b:=match G.ow b with
  |some (s,z)=>(match rwI rw s with
   |some i=>VU (i,z)
   |none=>VV)
  |none=>VV
def zBo(G:Gh)(rw:Rw)(b:Nat):Prop:=∃s z,G.ow b=VU (s,z)∧s∈rw.map (·.2.1)
def zD1(d:Nat)(rw:Rw)(nd:Nd)(s:Nat)(z:List Nat):Option (Nat×List Nat):=
 match rwS rw s with
 |some s'=>VU (s',z)
 |none=>ndB d nd s z
open Classical in
noncomputable def Gh.back (G G':Gh) (n0 d:Nat) (rw:Rw) (nd:Nd):Gh where
 hd s z:=if s=d then zOC G' nd z else match rwI rw s with
  |some i=>G'.hd i z
  |none=>G.hd s z
 ad s z:=if s=d then zRx G' nd z else match rwI rw s with
  |some i=>if z=[]then G.ad s z else G'.ad i z
  |none=>G.ad s z
 lb b o:=if zBo G rw b∨n0≤b then(match G'.lb b o with
  |some (f,s,z)=>(match zD1 d rw nd s z with
   |some (s',z')=>VU (f,s',z')
   |none=>VV)
  |none=>VV)else G.lb b o
 ow b:=if zBo G rw b∨n0≤b then(match G'.ow b with
  |some (s,z)=>zD1 d rw nd s z
  |none=>VV)else G.ow b
def zDM(res:List T):T:=match res with
 | [u]=>u
 |us=>.tup us
def cWr(d:Nat)(res:List T)(rw:Rw):Wr:=(d,VU (zDM res))::rw.map fun x=>(x.2.1,VU x.2.2)
def cLv(t:T):Nat:=if t.single then 1 else 0
def uO(d:Nat)(rw:Rw):Chg:=(d,0)::rw.map fun x=>(x.2.1,cLv x.2.2)
theorem zG3{d:Nat}{rw:Rw}{x:Nat×Nat×T}(h:x∈rw):(x.2.1,cLv x.2.2)∈uO d rw:=U9 _ (Jb.2 ⟨x,h,rfl⟩)
theorem zMo{Gn G':Gh}{d:Nat}:(nd:Nd)→ ∀(j:Nat),(∀k x,nd[k]? =VU x→ ∀z,Gn.hd d (z++[j+k])=G'.hd x.1 (z++x.2.1))→zA8 Gn d (nd.map (·.2.2)) [] j=nd.map fun x=>qH G' x.1 x.2.2 x.2.1
 | [],_,_=>by simp[zA8]
 |x::nd,j,h=>by
  have ih:=zMo (Gn:=Gn) (G':=G') (d:=d) nd (j+1) (fun k y hy z=>by rw[show j+1+k=j+(k+1)from by omega];exact h (k+1) y (by simpa using hy) z)
  simp only[Jh,zA8,ih];rw[zBV x.2.2 x.2.1 [j] (by simpa using h 0 x (by simp))]
theorem zOD{d:Nat}{res:List T}{rw:Rw}{s:Nat}{x:Option T}(h:(cWr d res rw).find s=VU x):(s=d∧x=VU (zDM res))∨(s≠d∧ ∃i u,(i,s,u)∈rw∧x=VU u):=by
 simp only[cWr,Wr.find]at h;split at h
 ·rename_i he;simp at h;exact .inl ⟨he.symm,h.symm⟩
 ·rename_i gk
  refine .inr ⟨fun e=>gk e.symm,?_⟩
  clear gk
  induction rw with
  |nil=>simp[Wr.find]at h
  |cons y rw ih=>
   simp only[Jh,Wr.find]at h;split at h
   ·rename_i he;simp at h;subst he;exact⟨y.1,y.2.2,by simp,h.symm⟩
   ·obtain⟨i,u,h1,h2⟩:=ih h;exact⟨i,u,by simp[h1],h2⟩
theorem zOE{d:Nat}{res:List T}{rw:Rw}{s:Nat}(h:(cWr d res rw).find s=VV):s≠d∧s∉rw.map (·.2.1):=by
 simp only[cWr,Wr.find]at h;split at h
 ·cases h
 ·rename_i gk
  refine⟨fun e=>gk e.symm,?_⟩
  clear gk
  induction rw with
  |nil=>simp
  |cons y rw ih=>
   simp only[Jh,Wr.find]at h;split at h
   ·cases h
   ·rename_i he
    simp only[Jh,Jj,not_or];exact⟨fun e=>he e.symm,ih h⟩
def aft(S Sc S':Stb):Stb:=fun b=>match Sc b with
 |none=>S' b
 |some _=>S b
theorem Rep.up{Γ:Ctx}{E:Env}{G:Gh}{tmps tmps':Array Value}{w w':World}{G':Gh}{wr:Wr}{chg:Chg}{S:Stb}(h:Rep Γ E G tmps w)(hS:∀b x,Γ.St b=VU x→S b=VU x)
  (gL:tmps'.size=tmps.size)(hk:zAF chg G w G' w')(gE:Mem (Γ.at S) G' w')
  (gB:∀s,wr.find s=VV→(∀n,(s,n)∉chg)∧tmps'[s]? =tmps[s]?)
  (eb:∀s t,wr.find s=VU (VU t)→Ent (Γ.at S) G' w' tmps'[s]? s t):Rep (Γ.at S) (E.app wr chg) G' tmps' w' where
 size:=by rw[gL];exact h.size
 mem:=gE
 ent s t hs:=by
  unfold Env.app at hs;cases hf:wr.find s with
  |some x=>
   rw[hf]at hs;simp at hs;subst hs;exact eb s t hf
  |none=>
   rw[hf]at hs;simp at hs;cases he:E s with
   |none=>simp[he]at hs
   |some u=>
    simp[he]at hs;obtain⟨gM,rfl⟩:=hs;rw[(gB s hf).2];obtain⟨e1,e2,e3⟩:=Ent.keep hk (gB s hf).1 gM (h.ent s u he);exact⟨e1,zIO hS u [] e2,e3⟩
section
variable {P:Program}{Γ:Ctx}{E:Env}{d:Nat}
theorem zG4{G:Gh}{a:Act}{w:World}(gc:Rep Γ E G a.tmps w)(hd:d<Γ.N){Sc:Stb}{rw:Rw}(hS1:∀b x,Sc b=VU x→w.heap[b]? =VU x∧ ¬zBo G rw b)(hS0:∀b x,Γ.St b=VU x→Sc b=VU x){f:FuncId}{us res:List T}
  (hc:FnC P f us res (rw.map fun x=>(x.1,x.2.2))){xs:List Operand}(gm:xs.length=us.length)
  (gn:∀(i:Nat) u,us[i]? =VU u→(∃x,xs[i]? =VU x∧a.eval x=mkV (G.arg a xs rw) i u []∧R Sc (G.arg a xs rw) w i u []))
  (hn1:(d::rw.map (·.2.1)).Nodup)(Vs:(rw.map (·.1)).Nodup)(eH:∀x∈rw,xs[x.1]? =VU (.tmp x.2.1))
  (gu:∀u∈res,zW u∧u.okTup=VW∧ ∀(S':Stb)(G:Gh)(w:World)(s:Nat)(p:List Nat),(∀b x,Sc b=VU x→S' b=VU x)→R S' G w s u p→R (aft Γ.St Sc S') G w s u p)
  (ap:∀x∈rw,zW x.2.2∧(∀(S':Stb)(G:Gh)(w:World)(s:Nat)(p:List Nat),(∀b x,Sc b=VU x→S' b=VU x)→R S' G w s x.2.2 p→R (aft Γ.St Sc S') G w s x.2.2 p)∧ ∃u,E x.2.1=VU u∧x.2.2.single=u.single∧us[x.1]? =VU u):
  Calls P f (xs.map a.eval).toArray w fun e w'=> ∃v,e=.returned v∧ ∃S G',zDC Γ.St S Γ.W Γ.w0.heap.size∧zAF (uO d rw) G w G' w'∧Rep (Γ.at S) (E.app (cWr d res rw) (uO d rw)) G' (a.tmps.setIfInBounds d v) w':=by
 have hm:=gc.mem;have mf:=Kk.1 hn1;have hmc:Mem ⟨Sc,zBo G rw,w,0⟩ (G.arg a xs rw) w:=by
  have gJ:∀b,zBo G rw b→Sc b=VV:=fun b h=>by
   cases hs:Sc b with
   |none=>rfl
   |some x=>exact absurd h (hS1 b x hs).2
  refine⟨fun i z=>?_,fun b o l hl=>?_,fun b l hl=>?_,fun b x hx=>(hS1 b x hx).1,fun b _ _=>rfl,Jf _,⟨fun b cs e h=>⟨cs,h,rfl⟩,rfl,rfl⟩⟩
  ·simp only[Gh.arg]
   split
   ·exact hm.one _ _
   ·exact zBA _
   ·rfl
  ·simp only[Gh.arg]at hl
   split at hl
   ·rename_i f' s z hg
    split at hl
    ·rename_i i s' y hi ho
     split at hl
     ·rename_i he;subst he
      have hL:zBo G rw b:=⟨s',y,ho,zMn hi⟩;exact⟨(hm.lb b o _ hg).1,.inr hL,gJ b hL⟩
     ·cases hl
    ·cases hl
   ·cases hl
  ·simp only[Gh.arg]at hl
   split at hl
   ·rename_i s z hg
    split at hl
    ·rename_i i hi
     have hL:zBo G rw b:=⟨s,z,hg,zMn hi⟩;exact⟨(hm.ow b _ hg).1,.inr hL,gJ b hL⟩
    ·cases hl
   ·cases hl
 have gr:=hc Sc (zBo G rw) w (G.arg a xs rw) (xs.map a.eval).toArray (by simp[gm]) (fun i u hu=>by obtain⟨x,h1,h2,h3⟩:=gn i u hu;exact⟨by simp[h1,h2],h3⟩) hmc
 refine gr.mono ?_
 rintro e w' ⟨S',G',nd,gT,rfl,gC,fI,pD,pC,ao⟩
 have fR:∀b x,Γ.St b=VU x→aft Γ.St Sc S' b=VU x:=fun b x hx=>by simp only[aft,hS0 b x hx,hx]
 have VA:zDC Γ.St (aft Γ.St Sc S') Γ.W Γ.w0.heap.size:=⟨fR,fun b hb ff=>by
  simp only[aft]at ff;split at ff
  ·rename_i hs
   rcases gT.nw b hs ff with h|⟨s,z,h,_⟩
   ·exact .inl (by have:=hm.sz;omega)
   ·exact(hm.ow b _ h).2.1
  ·exact absurd hb ff⟩
 refine⟨_,rfl,aft Γ.St Sc S',G.back G' w.heap.size d rw nd,VA,?_⟩;have me:∀b,b<w.heap.size→ ¬zBo G rw b→w'.heap[b]? =w.heap[b]?:=gC.fr;have gv:w.heap.size≤w'.heap.size:=gC.sz;have gH:Blk w w':=gC.bk.blk
 generalize hGn:G.back G' w.heap.size d rw nd=Gn
 have ghdd:∀z,Gn.hd d z=zOC G' nd z:=fun z=>by rw[←hGn];simp[Gh.back]
 have gadd:∀z,Gn.ad d z=zRx G' nd z:=fun z=>by rw[←hGn];simp[Gh.back]
 have ghd0:∀s z,s≠d→s∉rw.map (·.2.1)→Gn.hd s z=G.hd s z:=fun s z h1 h2=>by rw[←hGn];simp[Gh.back,h1,zJF h2]
 have gad0:∀s z,s≠d→s∉rw.map (·.2.1)→Gn.ad s z=G.ad s z:=fun s z h1 h2=>by rw[←hGn];simp[Gh.back,h1,zJF h2]
 have ex:∀i s u,(i,s,u)∈rw→s≠d:=fun i s u h e=>mf.1 (e▸Jb.2 ⟨_,h,rfl⟩)
 have ghdr:∀i s u z,(i,s,u)∈rw→Gn.hd s z=G'.hd i z:=fun i s u z h=>by rw[←hGn];simp[Gh.back,ex i s u h,zCE rw mf.2 h]
 have gadr:∀i s u z,(i,s,u)∈rw→z≠[]→Gn.ad s z=G'.ad i z:=fun i s u z h h0=>by rw[←hGn];simp[Gh.back,ex i s u h,zCE rw mf.2 h,h0]
 have gadr0:∀i s u,(i,s,u)∈rw→Gn.ad s []=G.ad s []:=fun i s u h=>by rw[←hGn];simp[Gh.back,ex i s u h,zCE rw mf.2 h]
 have glb0:∀b o l,¬zBo G rw b→G.lb b o=VU l→Gn.lb b o=VU l:=fun b o l h1 h2=>by have:=(hm.lb b o _ h2).1;rw[←hGn];simp only[Gh.back];rw[if_neg (by rintro(h|h);exact h1 h;omega)];exact h2
 have gow0:∀b l,¬zBo G rw b→G.ow b=VU l→Gn.ow b=VU l:=fun b l h1 h2=>by have:=(hm.ow b _ h2).1;rw[←hGn];simp only[Gh.back];rw[if_neg (by rintro(h|h);exact h1 h;omega)];exact h2
 have ej:∀b o l,G'.lb b o=VU l→zBo G rw b∨w.heap.size≤b:=fun b o l h=>(gC.lb b o l h).2.1.symm
 have pF:∀b l,G'.ow b=VU l→zBo G rw b∨w.heap.size≤b:=fun b l h=>(gC.ow b l h).2.1.symm
 have glb1:∀b o fl s z s' z',G'.lb b o=VU (fl,s,z)→zD1 d rw nd s z=VU (s',z')→Gn.lb b o=VU (fl,s',z'):=fun b o fl s z s' z' h1 h2=>by rw[←hGn];simp only[Gh.back];rw[if_pos (ej b o _ h1),h1];simp[h2]
 have gow1:∀b s z l,G'.ow b=VU (s,z)→zD1 d rw nd s z=VU l→Gn.ow b=VU l:=fun b s z l h1 h2=>by rw[←hGn];simp only[Gh.back];rw[if_pos (pF b _ h1),h1];simp[h2]
 have dW:∀i s u z,(i,s,u)∈rw→zD1 d rw nd i z=VU (s,z):=fun i s u z h=>by simp[zD1,zJE rw Vs h]
 have gI:∀x∈rw,x.1<us.length:=fun x hx=>by have:=(J9.1 (eH x hx)).1;omega
 have hbn:∀x∈nd,∀z,zD1 d rw nd x.1 z=ndB d nd x.1 z:=fun x hx z=>by have h1:=(pD x hx).2;have h2:rwS rw x.1=VV:=zOA (fun y hy e=>by have:=gI y hy;omega);simp[zD1,h2]
 have mF:∀(k:Nat) x,nd[k]? =VU x→ ∃tgt,(nd.length=1→tgt=[])∧(nd.length≠1→tgt=[k])∧(∀z,Gn.hd d (z++tgt)=G'.hd x.1 (z++x.2.1))∧(∀z,Gn.ad d (z++tgt)=G'.ad x.1 (z++x.2.1))∧ ∀z,zD1 d rw nd x.1 (z++x.2.1)=VU (d,z++tgt):=by
  intro k x hk;have bC:=Ky hk
  match nd,hk,pC,hbn x bC,ghdd,gadd with
  | [y],hk,pC,hb,ghdd,gadd=>
   have hkx:y=x:=by
    cases k with
    |zero=>simpa using hk
    |succ k=>simp at hk
   subst hkx;exact⟨[],fun _=>rfl,fun h=>absurd rfl h,fun z=>by rw[ghdd];simp[zOC],fun z=>by rw[gadd];simp[zRx],fun z=>by rw[hb];simp[ndB]⟩
  | [],hk,_,_,_,_=>simp at hk
  |y1::y2::r,hk,pC,hb,ghdd,gadd=>
   refine⟨[k],fun h=>by simp at h,fun _=>rfl,fun z=>by rw[ghdd];simp only[zOC,Ua,Ub];simp[hk],fun z=>by rw[gadd];simp only[zRx,Ua,Ub];simp[hk],fun z=>?_⟩;rw[hb];have:=zHJ (y1::y2::r) pC (k0:=0) hk;rw[J6]at this;simp only[ndB,this];simp
 have pW:∀(k:Nat) x,nd[k]? =VU x→ ∀tgt,(∀z,Gn.hd d (z++tgt)=G'.hd x.1 (z++x.2.1))→(∀z,Gn.ad d (z++tgt)=G'.ad x.1 (z++x.2.1))→(∀z,zD1 d rw nd x.1 (z++x.2.1)=VU (d,z++tgt))→R (aft Γ.St Sc S') Gn w' d x.2.2 tgt:=by intro k x hk tgt h1 h2 h3;have bC:=Ky hk;obtain⟨c1,c2,c3⟩:=gu x.2.2 (by rw[←fI];exact Jb.2 ⟨x,bC,rfl⟩);refine zAU (G:=G') (w:=w') (s:=x.1) (p:=x.2.1) ⟨⟨h1,fun z _=>h2 z,fun b o f' z _ _ hl=>⟨glb1 b o f' _ _ _ _ hl (h3 z),rfl⟩,fun b z _ hl=>gow1 b _ _ _ hl (h3 z),fun b cs e h=>⟨cs,h,rfl⟩,by intros;assumption⟩,fun b o _ hl=>⟨glb1 b o VW _ _ _ _ hl (by simpa using h3 []),rfl⟩,fun b hl=>gow1 b _ _ _ hl (by simpa using h3 [])⟩ _ (xE.mono (fun _ _=>False.elim) _ c1) (c3 _ _ _ _ _ gT.le (pD x bC).1)
 have gy:zAF (uO d rw) G w Gn w':=by
  have gD:∀s,(∀n,(s,n)∉uO d rw)→s≠d∧s∉rw.map (·.2.1):=fun s h=>⟨fun e=>h 0 (by simp[uO,e]),fun hm=>by obtain⟨x,hx,rfl⟩:=Jb.1 hm;exact h _ (zG3 hx)⟩
  have cb:∀b s y,G.ow b=VU (s,y)→s∉rw.map (·.2.1)→ ¬zBo G rw b:=by
   rintro b s y h1 h2 ⟨s',z',h3,h4⟩
   rw[h1]at h3;simp at h3;exact h2 (h3.1▸h4)
  refine⟨fun s p h=>?_,fun s p h=>?_,fun b o fl s p gS h1 h2=>?_,fun b s p h1 h2=>?_,gH,fun b s p ms c h1 h2 hb=>by rw[me b (hm.ow b _ h1).1 (cb b s p h1 (gD s h2).2)];exact hb⟩
  ·have h1:s≠d:=fun e=>absurd (h 0 (by simp[uO,e])) (by simp)
   by_cases h2:s∈rw.map (·.2.1)
   ·
    obtain⟨x,hx,rfl⟩:=Jb.1 h2;have hc:=h _ (zG3 hx);have c2:x.2.2.single=VW:=by
     cases eP:x.2.2.single with
     |true=>rfl
     |false=>simp[cLv,eP]at hc
    have h3:p=[]:=Js (by simp only[cLv,c2,if_true]at hc;omega);subst h3;obtain⟨_,_,u,c4,c5,c6⟩:=ap x hx;rw[c2]at c5;have c5:=c5.symm;obtain⟨_,u0,e1,e2⟩:=ao x.1 x.2.2 (Jb.2 ⟨x,hx,rfl⟩);rw[c6]at e1;simp at e1;subst e1;rw[xY c2,xY c5]at e2;rw[ghdr x.1 x.2.1 x.2.2 [] hx,e2];simp[Gh.arg,eH x hx]
   ·exact ghd0 s p h1 h2
  ·have h1:s≠d:=fun e=>absurd (h 0 (by simp[uO,e])) (by simp)
   by_cases h2:s∈rw.map (·.2.1)
   ·obtain⟨x,hx,rfl⟩:=Jb.1 h2
    have hc:=h _ (zG3 hx);have h3:p=[]:=Js (by have:cLv x.2.2≤1:=(by unfold cLv;split<;>omega);omega);subst h3;exact gadr0 x.1 x.2.1 x.2.2 hx
   ·exact gad0 s p h1 h2
  ·obtain⟨h3,h4⟩:=gD s h2
   obtain⟨y,hy⟩:=gS;have h5:=cb b s y hy h4;exact⟨glb0 b o _ h5 h1,by simp[yX,World.cell?,me b (hm.lb b o _ h1).1 h5]⟩
  ·obtain⟨h3,h4⟩:=gD s h2
   exact gow0 b _ (cb b s p h1 h4) h1
 have gE:Mem (Γ.at (aft Γ.St Sc S')) Gn w':=by
  have gM:∀b,b<w'.heap.size∧(w.heap.size≤b∨zBo G rw b)∧S' b=VV→zC4 (Γ.at (aft Γ.St Sc S')) w' b:=fun b ⟨hb,h,gQ⟩=>by
   have bE:Sc b=VV:=by
    cases hs:Sc b with
    |none=>rfl
    |some x=>rw[gT.le b x hs]at gQ;cases gQ
   refine⟨hb,?_,by simp only[aft,bE];exact gQ⟩;rcases h with h|⟨s,z,h1,_⟩
   ·exact .inl (by have:=hm.sz;show Γ.w0.heap.size≤b;omega)
   ·exact(hm.ow b _ h1).2.1
  have gB:∀b,¬(zBo G rw b∨w.heap.size≤b)→zC4 Γ w b→zC4 (Γ.at (aft Γ.St Sc S')) w' b:=fun b h ⟨h1,h2,h3⟩=>by
   refine⟨by omega,h2,?_⟩;simp only[aft];split
   ·rename_i hs
    cases gQ:S' b with
    |none=>rfl
    |some x=>
     rcases gT.nw b hs (by rw[gQ];simp)with h4|h4
     ·exact absurd (.inr h4) h
     ·exact absurd (.inl h4) h
   ·exact h3
  refine⟨fun s z=>?_,fun b o l hl=>?_,fun b l hl=>?_,fun b x hx=>?_,fun b(h1:b<Γ.w0.heap.size) h2=>?_,Lh hm.sz gv,hm.bk.trans gH gC.bk.os gC.bk.out⟩
  ·by_cases h1:s=d
   ·subst h1
    rw[ghdd];unfold zOC;split
    ·exact gC.one _ _
    ·split
     ·split
      ·exact gC.one _ _
      ·rfl
     ·rfl
   ·by_cases h2:s∈rw.map (·.2.1)
    ·obtain⟨x,hx,rfl⟩:=Jb.1 h2
     rw[ghdr x.1 x.2.1 x.2.2 z hx];exact gC.one _ _
    ·rw[ghd0 s z h1 h2];exact hm.one _ _
  ·rw[←hGn]at hl
   simp only[Gh.back]at hl;split at hl
   ·rename_i pI
    split at hl
    ·rename_i hg
     exact gM b (gC.lb b o _ hg)
    ·cases hl
   ·rename_i pI
    exact gB b pI (hm.lb b o l hl)
  ·rw[←hGn]at hl
   simp only[Gh.back]at hl;split at hl
   ·rename_i pI
    split at hl
    ·rename_i hg
     exact gM b (gC.ow b _ hg)
    ·cases hl
   ·rename_i pI
    exact gB b pI (hm.ow b l hl)
  ·simp only[aft]at hx
   split at hx
   ·exact gC.st b x hx
   have h1:=hm.st b x hx;have h2:=(L9.1 h1).1;have h3:¬zBo G rw b:=by
    rintro⟨s,z,h4,_⟩
    rw[(hm.ow b _ h4).2.2]at hx;cases hx
   rw[me b h2 h3];exact h1
  ·have h3:¬zBo G rw b:=by
    rintro⟨s,z,h4,_⟩
    rcases(hm.ow b _ h4).2.1 with h5|h5
    ·omega
    ·exact h2 h5
   rw[me b (by have:=hm.sz;omega) h3];exact hm.fr b h1 h2
 have Vr:nd.length=res.length:=by rw[←fI];simp
 refine⟨gy,gc.up fR (by simp) gy gE ?_ ?_⟩
 ·intro s hs
  obtain⟨h1,h2⟩:=zOE hs;refine⟨fun n hn=>?_,by rw[J8];simp[Ne.symm h1]⟩;simp only[uO,Jj,Q2.injEq,Jb]at hn;rcases hn with⟨e,_⟩|⟨x,hx,e,_⟩
  ·exact h1 e
  ·exact h2 (Jb.2 ⟨x,hx,e⟩)
 ·intro s t hs
  rcases zOD hs with⟨rfl,ht⟩|⟨gk,i,u,fT,ht⟩
  ·simp at ht
   subst ht;rw[J8];simp only[gc.size,hd,if_true];have cw:res=nd.map (·.2.2):=fI.symm
   by_cases hl:nd.length=1
   ·obtain⟨x,hx⟩:∃x,nd=[x]:=List.length_eq_one_iff.1 hl
    obtain⟨tgt,t1,_,t3,t4,t5⟩:=mF 0 x (by simp[hx]);obtain rfl:=t1 hl;have hr:=pW 0 x (by simp[hx]) [] t3 t4 t5;obtain⟨c1,c2,_⟩:=gu x.2.2 (by rw[cw,hx];simp);have eC:zDM res=x.2.2:=by rw[cw,hx];rfl
    have gV:∀ys,x.2.2≠.tup ys:=fun ys e=>by rw[e]at c2;simp[T.okTup]at c2
    rw[eC];refine⟨?_,hr,Top.of_clean _ c1⟩;rw[zA9 Gn s _ [] gV,zBV x.2.2 x.2.1 [] t3,hx];rfl
   ·have eC:zDM res=.tup res:=by
     rw[Vr]at hl
     match res,hl with
     | [],_=>rfl
     | [u],hl=>simp at hl
     |_::_::_,_=>rfl
    rw[eC];have gN:∀k x,nd[k]? =VU x→ ∀z,Gn.hd s (z++[0+k])=G'.hd x.1 (z++x.2.1):=fun k x hk z=>by obtain⟨tgt,_,t2,t3,_,_⟩:=mF k x hk;rw[t2 hl]at t3;rw[J6];exact t3 z
    refine⟨?_,?_,?_⟩
    ·have hv:=zMo (Gn:=Gn) (G':=G') (d:=s) nd 0 gN
     rw[fI]at hv;simp only[mkV,hv];unfold zJ9;split
     ·simp at hl
     ·rfl
    ·simp only[R]
     rw[cw];refine zMc _ [] 0 (fun k u hu=>?_);rw[Jr]at hu;cases hk:nd[k]? with
     |none=>simp[hk]at hu
     |some x=>
      simp[hk]at hu;subst hu;obtain⟨tgt,_,t2,t3,t4,t5⟩:=mF k x hk;rw[t2 hl]at t3 t4 t5;rw[J6];exact pW k x hk [k] t3 t4 t5
    ·simp only[Top]
     refine tA.of_clean _ ?_;have:∀us:List T,(∀u∈us,zW u)→xH us:=by
      intro us
      induction us with
      |nil=>intro _;trivial
      |cons u us ih=>intro h;exact⟨h u (by simp),ih fun v hv=>h v (by simp[hv])⟩
     exact this res fun u hu=>(gu u hu).1
  ·simp at ht
   subst ht;obtain⟨c1,c3,u0,c4,_,c6⟩:=ap _ fT;obtain⟨r1,u1,e1,e2⟩:=ao i t (Jb.2 ⟨_,fT,rfl⟩);simp only at c4 c6;rw[c6]at e1;simp at e1;subst e1;refine⟨?_,?_,Top.of_clean _ c1⟩
   ·rw[J8]
    simp only[Ne.symm gk,if_false];have hxi:=eH _ fT;simp only at hxi;have m1:mkV Gn s t []=mkV G' i t []:=zET t [] [] (fun z=>by rw[Ja];exact ghdr i s t z fT);have m2:mkV (G.arg a xs rw) i u0 []=mkV G s u0 []:=zET u0 [] [] (fun z=>by simp[Gh.arg,hxi]);rw[(gc.ent s u0 c4).1,m1,e2,m2]
   ·refine zAU (G:=G') (w:=w') (s:=i) (p:=[]) ⟨⟨fun z=>by rw[Ja];exact ghdr i s t z fT,fun z hz=>by rw[Ja];exact gadr i s t z fT hz,fun b o f' z _ _ hl=>?_,fun b z _ hl=>?_,fun b cs e h=>⟨cs,h,rfl⟩,by intros;assumption⟩,fun b o _ hl=>⟨glb1 b o VW _ _ _ _ hl (dW i s t [] fT),rfl⟩,fun b hl=>gow1 b _ _ _ hl (dW i s t [] fT)⟩ t (xE.mono (fun _ _=>False.elim) _ c1) (c3 _ _ _ _ _ gT.le r1)
    ·rw[Ja]at hl ⊢;exact⟨glb1 b o f' _ _ _ _ hl (dW i s t z fT),rfl⟩
    ·rw[Ja]at hl ⊢;exact gow1 b _ _ _ hl (dW i s t z fT)
end
end Go.Ab

namespace Go.Ab
open Go
def zOF(E:Env)(rs:List Nat)(x:Operand)(t:T):Bool:=
 match x with
 |.tmp s=>jQ E rs s t
 |_=>VW
def zCt(E:Env)(rw:Rw)(i:Nat)(x:Operand)(u:T):Prop:=
 (∃s u',x=.tmp s∧(i,s,u')∈rw∧E s=VU u∧zW u∧u.okTup=VW∧uM u=VW)∨(∃t,opT E x=VU t∧clo E t=u∧zOF E (rw.map (·.2.1)) x t=VW)
def vX(E:Env)(rw:Rw):Nat→List Operand→List T→Prop
 |_,[],[]=>True
 |i,x::xs,u::us=>zCt E rw i x u∧vX E rw (i+1) xs us
 |_,_,_=>False
theorem vX.length{E:Env}{rw:Rw}:(xs:List Operand)→(us:List T)→ ∀i,vX E rw i xs us→xs.length=us.length
 | [],[],_,_=>rfl
 |_::xs,_::us,i,h=>by simp[vX.length xs us (i+1) h.2]
 | [],_::_,_,h=>by simp[vX]at h
 |_::_,[],_,h=>by simp[vX]at h
theorem vX.get{E:Env}{rw:Rw}:(xs:List Operand)→(us:List T)→ ∀i,vX E rw i xs us→ ∀(j:Nat) u,us[j]? =VU u→ ∃x,xs[j]? =VU x∧zCt E rw (i+j) x u
 | [],[],_,_,_,_,h=>by simp at h
 |x::xs,v::us,i,h,j,u,hj=>by
  cases j with
  |zero=>simp at hj;subst hj;exact⟨x,by simp,h.1⟩
  |succ j=>
   obtain⟨y,h1,h2⟩:=vX.get xs us (i+1) h.2 j u (by simpa using hj);exact⟨y,by simpa using h1,by rwa [show i+(j+1)=i+1+j from by omega]⟩
 | [],_::_,_,h,_,_,_=>by simp[vX]at h
 |_::_,[],_,h,_,_,_=>by grind
structure zG5 (E:Env) (d:Nat) (xs:List Operand) (us:List T) (rw:Rw):Prop where
 nodup:(d::rw.map (·.2.1)).Nodup
 nodup2:(rw.map (·.1)).Nodup
 at_:∀x∈rw,xs[x.1]? =VU (.tmp x.2.1)
 tree:∀x∈rw,zW x.2.2∧uM x.2.2=VW∧ ∃u,E x.2.1=VU u∧x.2.2.single=u.single∧us[x.1]? =VU u
theorem zG5.nil{E:Env}{d:Nat}{xs:List Operand}{us:List T}:zG5 E d xs us []:=⟨by simp,by simp,by simp,by simp⟩
theorem zG5.one{E:Env}{d i s:Nat}{u u':T}{xs:List Operand}{us:List T}(h1:d≠s)(h2:xs[i]? =VU (.tmp s))(h3:zW u')(h4:u'.single=VW)(h5:uM u'=VW)(h6:E s=VU u)(h7:u.single=VW)(h8:us[i]? =VU u):
  zG5 E d xs us [(i,s,u')]:=⟨by grind,by simp,by grind,by grind⟩
theorem zG5.one'{E:Env}{d i s:Nat}{u u':T}{xs:List Operand}{us:List T}(h1:d≠s)(h2:xs[i]? =VU (.tmp s))(h3:zW u')(h4:u'.single=u.single)(h5:uM u'=VW)(h6:E s=VU u)(h8:us[i]? =VU u):
  zG5 E d xs us [(i,s,u')]:=⟨by grind,by simp,by grind,by grind⟩
section
variable {P:Program}{Γ:Ctx}{E:Env}{o:Oper}{d:Nat}
theorem zRy{G:Gh}{a:Act}{w:World}(gc:Rep Γ E G a.tmps w){rw:Rw}{xs:List Operand}{us:List T}(hr:zG5 E d xs us rw){Sc:Stb}(eF:∀b x,Γ.St b=VU x→Sc b=VU x)
  (eG:∀r,r∉rw.map (·.2.1)→ ∀b,(∃y,G.ow b=VU (r,y))→Sc b=w.heap[b]?){i:Nat}{x:Operand}{u:T}(hx:xs[i]? =VU x)(hu:us[i]? =VU u)(h:zCt E rw i x u):
  a.eval x=mkV (G.arg a xs rw) i u []∧R Sc (G.arg a xs rw) w i u []:=by
 rcases h with⟨s,u',rfl,h1,h2,h3,h4,h5⟩|⟨t,h1,rfl,h3⟩
 ·obtain⟨e1,e2,_⟩:=gc.ent s u h2
  have gN:∀z,(G.arg a xs rw).hd i z=G.hd s z:=by grind[Gh.arg]
  have mj:∀z,(G.arg a xs rw).ad i z=G.ad s z:=by grind[Gh.arg]
  have hi:=zCE rw (Kk.1 hr.nodup).2 h1;refine⟨by grind[wL,zET],?_⟩;refine zNw u [] h5 (zAU (St:=Γ.St) (G:=G) (w:=w) (s:=s) (p:=[]) ⟨⟨by grind,by grind,fun b o' f' z _ gS hl=>?_,fun b z _ hl=>?_,fun b cs e h=>⟨cs,h,rfl⟩,by intros;assumption⟩,fun b o' gS hl=>?_,fun b hl=>?_⟩ u (by grind[xE.mono]) e2)
  ·obtain⟨y,hy⟩:=gS
   exact⟨by grind[Gh.arg],rfl⟩
  ·grind[Gh.arg]
  ·obtain⟨y,hy⟩:=gS
   exact⟨by grind[Gh.arg],rfl⟩
  grind[Gh.arg]
 ·cases x with
  |tmp s=>
   have gN:∀z,(G.arg a xs rw).hd i z=G.hd s z:=by grind[Gh.arg]
   obtain⟨e1,e2,_⟩:=gc.ent s t h1
   grind[zOF,wL,zIP,zTc]
  |const v=>
   simp only[opT]at h1;split at h1
   ·rename_i gA
    simp at h1;subst h1;have gN:(G.arg a xs rw).hd i []=v:=by grind[Gh.arg,Act.eval,zAV]
    exact⟨by grind[clo,mkV,Act.eval],by simp[clo,R,gN]⟩
   ·cases h1
  |func f=>
   simp only[opT]at h1;simp at h1;subst h1;have gN:(G.arg a xs rw).hd i []=.func (.func f) #[] #[]:=by grind[Gh.arg,Act.eval,zAj,Value.oneCell']
   exact⟨by grind[clo,mkV,Act.eval],by simp[clo,R,gN]⟩
  |global g=>grind[opT]
theorem zDa{E:Env}:(t:T)→t.flat=VW→(∀rs s,jQ E rs s t=VW)∧clo E t=t
 |.lit _,_|.ro _,_=>by simp[jQ,clo]
 |.agg ts,h=>by
  simp only[T.flat]at h;have:=go ts h
  grind[jQ,clo]
 |.any,h|.same _ _,h|.addr _ _,h|.sub _ _ _ _ _,h|.sl _ _,h|.ptr _,h|.mp _ _,h|.tup _,h=>by grind[T.flat]
where go:(ts:List T)→zAP ts=VW→(∀rs s,zBk E rs s ts=VW)∧zCa E ts=ts
 | [],_=>by simp[zBk,zCa]
 |x::xs,h=>by simp only[zAP,J1]at h;simp only[zBk,zCa,J1];exact⟨fun rs s=>⟨(zDa x h.1).1 rs s,(go xs h.2).1 rs s⟩,by rw[(zDa x h.1).2,(go xs h.2).2]⟩
theorem zBH{a:Act}{w:World}{K:Act→World→Prop}{Q:Exit→Act→World→Prop}{f:FuncId}{xf:Operand}{xs:List Operand}{ats:Array TypeId}(ho:o.op=.call { callee:=.value xf,args:=xs.toArray,argTypes:=ats })(gg:o.dst=VU d)
  (gr:∀args w,(callFunc f args).run P w=.ok (.enter f args) w)(hf:a.eval xf=.func (.func f) #[] #[])
  (h:Calls P f (xs.map a.eval).toArray w fun e w'=> ∃v,e=.returned v∧K (a.put (VU d) v) w'):o.wp P a w K Q:=by
 have gw:(execOp a.eval o).run P w=.ok (.enter f (xs.map a.eval).toArray) w:=by simp[execOp,ho,resolve,hf,Deferred.ofValue,invoke,gr]
 unfold Oper.wp;rw[gw,Oper.upon_enter];refine h.mono ?_
 grind
theorem zG6{G:Gh}{a:Act}{w:World}(gc:Rep Γ E G a.tmps w)(hd:d<Γ.N)(f:FuncId)(xs:List Operand)(us res:List T)(rw:Rw)
  (hc:FnC P f us res (rw.map fun x=>(x.1,x.2.2)))(gn:vX E rw 0 xs us)(hr:zG5 E d xs us rw)(gu:xH res∧yN res=VW∧tF res=VW):
  Calls P f (xs.map a.eval).toArray w fun e w'=> ∃v,e=.returned v∧ ∃S G',zDC Γ.St S Γ.W Γ.w0.heap.size∧zAF (uO d rw) G w G' w'∧Rep (Γ.at S) (E.app (cWr d res rw) (uO d rw)) G' (a.tmps.setIfInBounds d v) w':=by
 classical
 have hm:=gc.mem
 let Sc:Stb:=fun b=>if zBo G rw b then VV else w.heap[b]?
 have eF:∀b x,Γ.St b=VU x→Sc b=VU x:=fun b x hx=>by
  have h3:¬zBo G rw b:=by
   rintro⟨s,z,h4,_⟩
   rw[(hm.ow b _ h4).2.2]at hx;cases hx
  simp only[Sc,h3,if_false];exact hm.st b x hx
 have eG:∀r,r∉rw.map (·.2.1)→ ∀b,(∃y,G.ow b=VU (r,y))→Sc b=w.heap[b]?:=fun r hr' b ⟨y,hy⟩=>by
  have h3:¬zBo G rw b:=by
   rintro⟨s,z,h4,h5⟩
   grind
  grind
 have fX:∀(us:List T),xH us∧yN us=VW∧tF us=VW→ ∀u∈us,zW u∧u.okTup=VW∧uM u=VW:=by
  intro us
  induction us with
  |nil=>simp
  |cons v us ih=>
   intro⟨h1,h2,h3⟩ u hu;simp only[yN,tF,J1]at h2 h3;rcases Jj.1 hu with rfl|hu
   ·exact⟨h1.1,h2.1,h3.1⟩
   ·exact ih ⟨h1.2,h2.2,h3.2⟩ u hu
 exact zG4 gc hd (Sc:=Sc) (rw:=rw) (by grind) eF hc (vX.length xs us 0 gn) (fun i u hu=>by
   obtain⟨x,h1,h2⟩:=vX.get xs us 0 gn i u hu;rw[J6]at h2
   grind[zRy]) hr.nodup hr.nodup2 hr.at_
  (by grind[zNw])
  (fun x hx=>by
   obtain⟨h1,h3,h4⟩:=hr.tree x hx
   grind[zNw])
theorem zMp(f:FuncId)(xf:Operand)(xs:List Operand)(ats:Array TypeId)(us res:List T)(rw:Rw)(ho:o.op=.call { callee:=.value xf,args:=xs.toArray,argTypes:=ats })(gg:o.dst=VU d)(hd:d<Γ.N)
  (gr:∀args w,(callFunc f args).run P w=.ok (.enter f args) w)(hf:opT E xf=VU (.lit (.func (.func f) #[] #[])))
  (hc:FnC P f us res (rw.map fun x=>(x.1,x.2.2)))(gn:vX E rw 0 xs us)(hr:zG5 E d xs us rw)(gu:xH res∧yN res=VW∧tF res=VW):
  wP P Γ o E (E.app (cWr d res rw) (uO d rw)):=by
 intro a w K Q ⟨gY,G,gc⟩ hK;refine zBH ho gg gr (wI gc hf).1 ?_;refine(zG6 gc hd f xs us res rw hc gn hr gu).mono ?_
 rintro e w' ⟨v,rfl,S,G',hS,_,gp⟩
 exact⟨v,rfl,hK _ _ ⟨S,hS,gY,G',gp⟩⟩
theorem zJG(f:FuncId)(xf:Operand)(xs:List Operand)(ats:Array TypeId)(us res:List T)(i ds r:Nat)(q:List Nat)(tr u u':T)(ho:o.op=.call { callee:=.value xf,args:=xs.toArray,argTypes:=ats })(gg:o.dst=VU d)(hd:d<Γ.N)
  (gr:∀args w,(callFunc f args).run P w=.ok (.enter f args) w)(hf:opT E xf=VU (.lit (.func (.func f) #[] #[])))
  (hs:E ds=VU (.same r q))(hr:E r=VU tr)(hq:tr.get q.reverse=VU u)(hu:u.single=VW)(ea:zW u)(gU:ds≠r)(hdr2:d≠r)(gM:tr.okB [(ds,1),(r,q.length+1)]=VW)(eP:wZ tr=VW)
  (E1 E2:Env)(bw:E1=E.app [(ds,VU u),(r,VU (if q=[]then .same ds []else tr.set q.reverse .any))] [(ds,1),(r,q.length+1)])(VS:E2=E1.app (cWr d res [(i,ds,u')]) (uO d [(i,ds,u')]))
  (hc:FnC P f us res [(i,u')])(gn:vX E1 [(i,ds,u')] 0 xs us)(fT:zG5 E1 d xs us [(i,ds,u')])(gu:xH res∧yN res=VW∧tF res=VW)
  (tr2 v0:T)(eT:E2 r=VU tr2)(Vh:tr2.get q.reverse=VU v0)(ae:v0.single=VW)(pu:E2 ds=VU u')(hZ:zW u')(iz:u'.single=VW)(pB:tr2.okB [(r,q.length+1),(ds,1)]=VW)(hc3:wZ tr2=VW)(hok3:u'.okB [(r,q.length+1),(ds,1)]=VW)(hc4:wZ u'=VW):
  wP P Γ o E (E2.app [(r,VU (tr2.set q.reverse u')),(ds,VU (.same r q))] [(r,q.length+1),(ds,1)]):=by
 have Vt:cLv u'=1:=by grind[cLv]
 intro a w K Q ⟨gY,G,gc⟩ hK;refine zBH ho gg gr (wI gc hf).1 ?_;have gO:G.hd ds []=G.hd r q:=by have:=(gc.ent ds _ hs).2.1;simpa only[R]using this
 obtain⟨fH,Vy⟩:=zDJ gc ds [] r q (.same r q) tr u (.same r q) hs rfl rfl gO hr hq hu ea gU (by grind[T.okB,zBg]) (by omega) rfl eP;have VT:E.app [(ds,VU ((T.same r q).set [].reverse u)),(r,VU (if q=[]then .same ds []else tr.set q.reverse .any))] [(ds,([]:List Nat).length+1),(r,q.length+1)]=E1:=by rw[bw];rfl
 rw[VT]at fH;refine(zG6 fH hd f xs us res [(i,ds,u')] hc gn fT gu).mono ?_
 rintro e w' ⟨v,rfl,S,G',hS,hk,gp⟩
 rw[←VS]at gp;have hdds:d≠ds:=by have:=fT.nodup;grind
 have h1:G'.hd r q=(G.tr ds [] r q).hd r q:=hk.hd r q (fun n hn=>by grind[uO]);have h2:G'.hd ds []=(G.tr ds [] r q).hd ds []:=hk.hd ds [] (fun n hn=>by grind[uO]);have fq:G'.hd r q=G'.hd ds []:=by grind
 obtain⟨fF,_⟩:=zDJ gp r q ds [] tr2 u' u' v0 eT Vh ae fq pu rfl iz hZ (Ne.symm gU) (by omega) (by omega) hc3 hc4;refine⟨v,rfl,hK _ _ ⟨S,hS,gY,G'.tr r q ds [],?_⟩⟩;have hw:(if([]:List Nat)=[]then T.same r q else u'.set ([]:List Nat).reverse .any)=T.same r q:=if_pos rfl;rw[hw]at fF;exact fF
theorem zOG(f:FuncId)(xf:Operand)(xs:List Operand)(ats:Array TypeId)(us res:List T)(ho:o.op=.call { callee:=.value xf,args:=xs.toArray,argTypes:=ats })(gg:o.dst=VU d)(hd:d<Γ.N)
  (gr:∀args w,(callFunc f args).run P w=.ok (.enter f args) w)(hf:opT E xf=VU (.lit (.func (.func f) #[] #[])))
  (hc:FnC P f us res [])(gm:xs.length=us.length)(gn:∀(i:Nat) u,us[i]? =VU u→ ∃x,xs[i]? =VU x∧opT E x=VU u∧u.flat=VW)(gu:xH res∧yN res=VW):
  wP P Γ o E (E.app (cWr d res []) (uO d [])):=by
 intro a w K Q ⟨gY,G,gc⟩ hK;have hm:=gc.mem;refine zBH ho gg gr (wI gc hf).1 ?_;have cb:∀b,¬zBo G [] b:=by rintro b ⟨s,z,_,h⟩;simp at h
 have fX:∀(us:List T),xH us∧yN us=VW→ ∀u∈us,zW u∧u.okTup=VW:=by
  intro us
  induction us with
  |nil=>simp
  |cons v us ih=>
   intro⟨h1,h2⟩ u hu;simp only[yN,J1]at h2;rcases Jj.1 hu with rfl|hu
   ·exact⟨h1.1,h2.1⟩
   ·exact ih ⟨h1.2,h2.2⟩ u hu
 have:=zG4 gc hd (Sc:=Γ.St) (rw:=[]) (fun b x hx=>⟨hm.st b x hx,cb b⟩) (fun _ _ h=>h) hc gm (fun i u hu=>by
   obtain⟨x,h1,h2,h3⟩:=gn i u hu;refine⟨x,h1,?_⟩;have VD:=zDa (E:=E) u h3;cases x with
   |tmp s=>
    have gN:∀z,(G.arg a xs []).hd i z=G.hd s z:=by grind[Gh.arg]
    obtain⟨e1,e2,_⟩:=gc.ent s u h2;refine⟨?_,by grind[zIK]⟩;have:=zIP (E:=E) gN u (VD.1 [] s)
    grind[wL]
   |const v=>
    simp only[opT]at h2;split at h2
    ·rename_i gA
     simp at h2;subst h2;have gN:(G.arg a xs []).hd i []=v:=by grind[Gh.arg,Act.eval,zAV]
     exact⟨by grind[mkV,Act.eval],by simp[R,gN]⟩
    ·cases h2
   |func f=>
    simp only[opT]at h2;simp at h2;subst h2;have gN:(G.arg a xs []).hd i []=.func (.func f) #[] #[]:=by grind[Gh.arg,Act.eval,zAj,Value.oneCell']
    exact⟨by grind[mkV,Act.eval],by simp[R,gN]⟩
   |global g=>grind[opT]) (by simp) (by simp) (by simp)
  (fun u hu=>⟨by grind,by grind,fun S' G w s p hS h=>by
   have:aft Γ.St Γ.St S'=S':=funext (by grind[aft])
   grind⟩) (by simp)
 refine this.mono ?_
 rintro e w' ⟨v,rfl,S,G',hS,_,gp⟩
 exact⟨v,rfl,hK _ _ ⟨S,hS,gY,G',gp⟩⟩
end
end Go.Ab

namespace Go.Ab
open Go
def xF:List (Nat×T)→Env
 | [],_=>VV
 |(k,t)::l,s=>if k=s then VU t else xF l s
def Env.Has(E:Env):List (Nat×T)→Prop
 | []=>True
 |(s,t)::l=>E s=VU t∧E.Has l
theorem Env.Has.le{E:Env}:{l:List (Nat×T)}→E.Has l→ ∀s t,xF l s=VU t→E s=VU t
 | [],_,s,t,h=>by grind[xF]
 |(k,u)::l,hh,s,t,h=>by
  simp only[xF]at h;split at h
  ·rename_i e
   subst e;rw[hh.1];exact h
  ·exact hh.2.le s t h
theorem Sim.weaken{Γ:Ctx}{E E':Env}{a:Act}{w:World}(h:Sim Γ E a w)(pe:∀s t,E' s=VU t→E s=VU t):Sim Γ E' a w:=by obtain⟨h1,G,h2⟩:=h;exact⟨h1,G,⟨h2.size,fun s t hs=>h2.ent s t (pe s t hs),h2.mem⟩⟩
theorem zAh.weaken{Γ:Ctx}{E E':Env}{a:Act}{w:World}(h:zAh Γ E a w)(pe:∀s t,E' s=VU t→E s=VU t):zAh Γ E' a w:=by obtain⟨S,h1,h2⟩:=h;exact⟨S,h1,h2.weaken pe⟩
abbrev kI:=List (Nat×Value)
def kI.Hold(pn:kI)(a:Act):Prop:=∀x∈pn,a.tmps[x.1]? =VU x.2
def kI.ok(pn:kI)(d:Option Nat):Bool:=match d with
 |none=>VW
 |some d=>pn.all fun x=>x.1 != d
theorem Oper.wp_frame{P:Program}{o:Oper}{a:Act}{w:World}{K:Act→World→Prop}{Q:Exit→Act→World→Prop}(h:o.wp P a w K Q):
  o.wp P a w (fun a' w'=>K a' w'∧ ∀s,o.dst≠VU s→a'.tmps[s]? =a.tmps[s]?) Q:=by
 have key:∀(v:Value)(ds:List Deferred),∀s,o.dst≠VU s→(({ a with defers:=ds }:Act).put o.dst v).tmps[s]? =a.tmps[s]?:=by
  intro v ds s hs;cases hd:o.dst with
  |none=>rfl
  |some d=>
   grind[Act.put]
 have key0:∀(v:Value),∀s,o.dst≠VU s→(a.put o.dst v).tmps[s]? =a.tmps[s]?:=fun v=>key v a.defers
 unfold Oper.wp at*
 generalize (execOp a.eval o).run P w=r at*
 cases r with
 |ok n w'=>
  cases n<;>simp only[Oper.upon]at h ⊢
  all_goals grind
 |halt x w'=>cases x<;>simp only[Oper.upon]at h ⊢ <;>exact h
theorem kI.Hold.frame{pn:kI}{a a':Act}{d:Option Nat}(h:pn.Hold a)(gM:pn.ok d=VW)(hf:∀s,d≠VU s→a'.tmps[s]? =a.tmps[s]?):pn.Hold a':=by
 intro x hx;rw[hf x.1 ?_]
 ·exact h x hx
 ·rintro rfl
  have:=Jy.1 gM x hx
  grind
section
variable (P:Program) (Γ:Ctx) (pn:kI)
def CW(c:Code)(E:Env)(Q:Exit→Env→Prop):Prop:=
 ∀(a:Act)(w:World)(Q':Exit→Act→World→Prop),zAh Γ E a w→pn.Hold a→(∀e E' a' w',Q e E'→zAh Γ E' a' w'→pn.Hold a'→Q' e a' w')→c.wp P Q' a w
def zV(ops:Array Oper)(o:Oper)(E E':Env):Prop:=
 ∀(a:Act)(w:World)(K:Act→World→Prop)(Q:Exit→Act→World→Prop),zAh Γ E a w→(∀a' w',zAh Γ E' a' w'→(∀s,o.dst≠VU s→a'.tmps[s]? =a.tmps[s]?)→K a' w')→
  if Region.wanted o (yielded ops a.tmps)then o.wp P a w K Q∨(o.asks P a w∧LetsOut Q)else K (a.put o.dst undef) w
def wpL(ops:Array Oper)(Q:Exit→Act→World→Prop):List Oper→Act→World→Prop
 | [],a,w=>Q .normal a w
 |o::os,a,w=>if Region.wanted o (yielded ops a.tmps)then o.wp P a w (wpL ops Q os) Q∨(o.asks P a w∧LetsOut Q)else wpL ops Q os (a.put o.dst undef) w
def RW(ops:Array Oper)(os:List Oper)(E:Env)(Q:Exit→Env→Prop):Prop:=
 ∀(a:Act)(w:World)(Q':Exit→Act→World→Prop),zAh Γ E a w→pn.Hold a→(∀e E' a' w',Q e E'→zAh Γ E' a' w'→pn.Hold a'→Q' e a' w')→wpL P ops Q' os a w
end
section
variable {P:Program}{Γ:Ctx}{pn:kI}{E E':Env}{Q Q1:Exit→Env→Prop}{c c1 c2:Code}{ops:Array Oper}{o:Oper}{os:List Oper}{d:Nat}
theorem zIQ{Q':Exit→Act→World→Prop}:∀(os:List Oper)(n:Nat)(a:Act)(w:World),ops.toList.drop n=os→wpL P ops Q' os a w→wpOps P ops Q' (Gg n os.length) a w
 | [],n,a,w,_,h=>by simpa[wpOps,wpL]using h
 |o::os,n,a,w,hd,h=>by
  have ho:ops[n]? =VU o:=by
   have:=congrArg (·[0]?) hd
   grind
  have mg:ops.toList.drop (n+1)=os:=by
   have:=congrArg List.tail hd
   grind[List.tail_drop]
  simp only[K5,Q9,wpOps,ho];simp only[wpL]at h;split
  ·rename_i hw
   simp only[hw,if_true]at h;exact h.imp (Oper.wp_mono fun a w=>zIQ os (n+1) a w mg) id
  ·rename_i hw
   simp only[hw]at h;exact zIQ os (n+1) _ w mg h
theorem CW.region{id:Nat}(h:RW P Γ pn ops ops.toList E Q):CW P Γ pn (.region id ops VX) E Q:=by
 intro a w Q' hs hp hQ;refine wp_region ?_;have:=zIQ (P:=P) ops.toList 0 a w (by simp) (h a w Q' hs hp hQ)
 grind[List.range_eq_range']
theorem RW.nil(h:Q .normal E):RW P Γ pn ops [] E Q:=fun a w Q' hs hp hQ=>by
 simp only[wpL]
 grind
theorem RW.cons(h1:zV P Γ ops o E E')(h3:RW P Γ pn ops os E' Q)(h2:pn.ok o.dst=VW:=by rfl):RW P Γ pn ops (o::os) E Q:=by
 intro a w Q' hs hp hQ;simp only[wpL];have:=h1 a w (wpL P ops Q' os) Q' hs fun a' w' gQ hf=>h3 a' w' Q' gQ (hp.frame h2 hf) hQ
 exact this
theorem zV.op(h:∀S,wP P (Γ.at S) o E E')(hg:o.guard=VV:=by rfl):zV P Γ ops o E E':=by
 intro a w K Q hs hK;have hw:Region.wanted o (yielded ops a.tmps)=VW:=by simp[Region.wanted,hg]
 rw[if_pos hw];refine .inl ?_;obtain⟨S,hS,hs⟩:=hs;have:=Oper.wp_frame (h S a w (fun a' w'=>zAh Γ E' a' w') Q hs fun a' w' h=>h.up hS)
 grind[Oper.wp_mono]
theorem zG7{a:Act}{w:World}(hs:zAh Γ E a w){g s:Nat}{b:Bool}(gG:(ops[g]?).bind (·.dst)=VU s)(h:E s=VU (.lit (.bool b))):yielded ops a.tmps g=VU b:=by
 obtain⟨_,_,_,G,hr⟩:=hs;obtain⟨h1,h2,_⟩:=hr.ent s _ h;simp only[R]at h2
 grind[yielded,mkV]
theorem zV.guard(g:Nat)(b:Bool)(s:Nat)(h:∀S,wP P (Γ.at S) o E E')(hg:o.guard=VU (g,b):=by rfl)(gG:(ops[g]?).bind (·.dst)=VU s:=by rfl)(hb:E s=VU (.lit (.bool b)):=by rfl):zV P Γ ops o E E':=by
 intro a w K Q hs hK;have hw:Region.wanted o (yielded ops a.tmps)=VW:=by grind[Region.wanted,zG7]
 rw[if_pos hw];refine .inl ?_;obtain⟨S,hS,hs⟩:=hs;have:=Oper.wp_frame (h S a w (fun a' w'=>zAh Γ E' a' w') Q hs fun a' w' h=>h.up hS)
 grind[Oper.wp_mono]
def zN(Γ:Ctx)(E E':Env):Prop:=∀(a:Act)(w:World),zAh Γ E a w→zAh Γ E' a w
theorem zN.refl:zN Γ E E:=fun _ _ h=>h
theorem zN.trans{E1 E2 E3:Env}(h:zN Γ E1 E2)(h':zN Γ E2 E3):zN Γ E1 E3:=fun a w hs=>h' a w (h a w hs)
theorem zN.has{l:List (Nat×T)}(h:E.Has l):zN Γ E (xF l):=fun _ _ hs=>hs.weaken h.le
theorem CW.ghost(h1:zN Γ E E')(h:CW P Γ pn c E' Q):CW P Γ pn c E Q:=fun a w Q' hs=>h a w Q' (h1 a w hs)
theorem RW.ghost(h1:zN Γ E E')(h:RW P Γ pn ops os E' Q):RW P Γ pn ops os E Q:=fun a w Q' hs=>h a w Q' (h1 a w hs)
theorem CW.to(l:List (Nat×T))(h1:E.Has l)(h:CW P Γ pn c (xF l) Q):CW P Γ pn c E Q:=h.ghost (.has h1)
theorem CW.mono(h:CW P Γ pn c E Q1)(hq:∀e E',Q1 e E'→Q e E'):CW P Γ pn c E Q:=fun a w Q' hs hp hQ=>h a w Q' hs hp (by grind)
theorem CW.skip(h:Q .normal E):CW P Γ pn .skip E Q:=fun _ _ _ hs hp hQ=>by grind[wp_skip]
theorem CW.ret(h:Q .ret E):CW P Γ pn .ret E Q:=fun _ _ _ hs hp hQ=>by grind[wp_ret]
theorem CW.exit{id:Nat}(h:Q (.exit id) E):CW P Γ pn (.exit id) E Q:=fun _ _ _ hs hp hQ=>by grind[wp_exit]
def yM(P:Program)(Γ:Ctx)(pn:kI)(c:Code)(Q:Exit→Env→Prop):Exit→Env→Prop
 |.normal,E=>CW P Γ pn c E Q
 |e,E=>Q e E
theorem CW.seq(h:CW P Γ pn c1 E (yM P Γ pn c2 Q)):CW P Γ pn (.seq c1 c2) E Q:=by
 intro a w Q' hs hp hQ;refine wp_seq (h a w _ hs hp fun e E' a' w' h1 gQ fV=>?_);cases e with
 |normal=>exact h1 a' w' Q' gQ fV hQ
 |_=>exact hQ _ _ _ _ h1 gQ fV
theorem CW.cond{x:Operand}(b:Bool)(hb:opT E x=VU (.lit (.bool b)))(ht:b=VW→CW P Γ pn c1 E Q)(hf:b=VX→CW P Γ pn c2 E Q):CW P Γ pn (.cond x c1 c2) E Q:=by intro a w Q' hs hp hQ;obtain⟨_,_,_,G,hr⟩:=id hs;refine wp_cond_split (wI hr hb).1 (fun h=>ht h a w Q' hs hp hQ) (fun h=>hf h a w Q' hs hp hQ)
def yJ(id:Nat)(Q:Exit→Env→Prop):Exit→Env→Prop
 |.exit id',E=>if id'=id then Q .normal E else Q (.exit id') E
 |e,E=>Q e E
theorem CW.block{id:Nat}(h:CW P Γ pn c E (yJ id Q)):CW P Γ pn (.block id c) E Q:=by
 intro a w Q' hs hp hQ;refine wp_block (h a w _ hs hp fun e E' a' w' h1 gQ fV=>?_);cases e with
 |exit id'=>
  simp only[yJ]at h1;simp only[Exit.inBlock]
  grind
 |_=>exact hQ _ _ _ _ h1 gQ fV
end
def yZ{σ ρ:Type}(body:σ→Option (σ⊕ρ)):Nat→σ→Option ρ
 |0,_=>VV
 |n+1,s=>match body s with
  |none=>VV
  |some (.inl s')=>yZ body n s'
  |some (.inr r)=>VU r
theorem zG8{σ ρ:Type}{body:σ→Option (σ⊕ρ)}{r:ρ}:∀{n m:Nat}{s:σ},yZ body n s=VU r→n≤m→yZ body m s=VU r
 |0,_,_,h,_=>by grind[yZ]
 |n+1,0,_,_,hm=>by omega
 |n+1,m+1,s,h,hm=>by
  simp only[yZ]at h ⊢
  cases hb:body s with
  |none=>grind
  |some x=>
   cases x with
   |inl s'=>simp only[hb]at h ⊢;exact zG8 h (by omega)
   |inr r'=>grind
open Classical in
noncomputable def zI {σ ρ:Type} (body:σ→Option (σ⊕ρ)) (s:σ):Option ρ:=
 if h:∃(n:Nat)(r:ρ),yZ body n s=VU r then VU h.choose_spec.choose else VV
theorem zCb{σ ρ:Type}{body:σ→Option (σ⊕ρ)}{s:σ}{r:ρ}:zI body s=VU r↔ ∃n,yZ body n s=VU r:=by
 unfold zI;constructor
 ·intro h
  split at h
  all_goals grind
 ·rintro⟨n,hn⟩
  have he:∃(n:Nat)(r:ρ),yZ body n s=VU r:=⟨n,r,hn⟩;rw[dif_pos he]
  grind[zG8]
theorem xW{σ ρ:Type}(body:σ→Option (σ⊕ρ))(s:σ):zI body s=match body s with
  |none=>VV
  |some (.inl s')=>zI body s'
  |some (.inr r)=>VU r:=by
 apply Option.ext;intro r;rw[zCb];cases hb:body s with
 |none=>
  simp only[reduceCtorEq,iff_false]
  rintro⟨n,hn⟩
  cases n<;>simp[yZ,hb]at hn
 |some x=>
  cases x with
  |inl s'=>
   simp only[];rw[zCb];constructor
   ·rintro⟨n,hn⟩
    cases n with
    |zero=>grind[yZ]
    |succ n=>grind[yZ]
   ·rintro⟨n,hn⟩
    exact⟨n+1,by grind[yZ]⟩
  |inr r'=>
   simp only[H8.injEq];constructor
   ·rintro⟨n,hn⟩
    cases n with
    |zero=>grind[yZ]
    |succ n=>grind[yZ]
   ·rintro rfl
    exact⟨1,by simp[yZ,hb]⟩
section
variable {P:Program}{Γ:Ctx}{pn:kI}{E:Env}{Q:Exit→Env→Prop}{c:Code}
def wN{σ ρ:Type}(Γ:Ctx)(en:σ→Env)(Q:ρ→Exit→Env→Prop)(x:σ⊕ρ):Exit→Env→Prop:=fun e E'=>
 match x with
 |.inl s'=>e=.normal∧zN Γ E' (en s')
 |.inr r=>e≠.normal∧Q r e E'
theorem zEv{p:Nat→Prop}(h:∃m,p m):∃m,p m∧ ∀k,k<m→ ¬p k:=by
 refine Classical.byContradiction fun hn=>?_
 have key:∀n,∀k,k<n→ ¬p k:=by
  intro n
  induction n with
  |zero=>simp
  |succ n ih=>
   grind
 grind
theorem CW.loop{σ ρ:Type}(body:σ→Option (σ⊕ρ))(en:σ→Env)(Q:ρ→Exit→Env→Prop)(h:∀s x,body s=VU x→CW P Γ pn c (en s) (wN Γ en Q x)){s:σ}{r:ρ}(hr:zI body s=VU r):
  CW P Γ pn (.loop c) (en s) (Q r):=by
 classical
 intro a w Q' hs hp hQ
 let p:Act→World→Nat→Prop:=fun a w m=> ∃s,yZ body m s=VU r∧zAh Γ (en s) a w∧pn.Hold a
 let μ:Act→World→Nat:=fun a w=>if h:∃m,p a w m then(zEv h).choose else 0
 obtain⟨n,hn⟩:=zCb.1 hr;refine wp_loop (fun a w=> ∃m,p a w m) μ (by grind) ?_;intro a w bN;have hμ:μ a w=(zEv bN).choose:=dif_pos bN;obtain⟨s,h1,h2,h3⟩:=(zEv bN).choose_spec.1;have fb:=(zEv bN).choose_spec.2;rw[←hμ]at h1;cases hm:μ a w with
 |zero=>grind[yZ]
 |succ k=>
  rw[hm]at h1;simp only[yZ]at h1;cases hb:body s with
  |none=>grind
  |some x=>
   refine h s x hb a w _ h2 h3 fun e E' a' w' hq gQ fV=>?_
   cases x with
   |inl s'=>
    simp only[hb]at h1;obtain⟨rfl,hg⟩:=hq;have hp2:p a' w' k:=⟨s',h1,hg a' w' gQ,fV⟩;refine⟨⟨k,hp2⟩,?_⟩;have hex':∃m,p a' w' m:=⟨k,hp2⟩
    grind
   |inr r'=>
    simp only[hb]at h1;have:r'=r:=by grind
    subst this;obtain⟨gk,hq⟩:=hq;have:=hQ e E' a' w' hq gQ fV;cases e with
    |normal=>grind
    |_=>exact this
end
end Go.Ab

namespace Go.Ab
open Go
abbrev Nds:=List (Nat×List Nat×T)
def ROk(P:Program)(E:Env):ResultVar→(Nat×List Nat×T)→Prop
 |.tmp s,x=>x.1=s∧x.2.1=[]∧E s=VU x.2.2∧x.2.2.okTup=VW
 |.cell a T,x=>x.1=a∧x.2.1=[0]∧E a=VU (.ptr x.2.2)∧ ∃ds ti,P.underlying T=VU ds∧P.info? T=VU ti∧zEU ds= !x.2.2.single∧ti.size=x.2.2.size
def zNx(P:Program)(E:Env):List ResultVar→Nds→Prop
 | [],[]=>True
 |x::xs,y::ys=>ROk P E x y∧zNx P E xs ys
 |_,_=>False
def LOk(E:Env)(us:List T):List (Nat×T)→Prop
 | []=>True
 |(i,u')::l=>(E i=VU u'∧ ∃u,us[i]? =VU u)∧LOk E us l
def zVq(P:Program)(rs:Array ResultVar)(us res:List T)(rws:List (Nat×T)):Exit→Env→Prop:=fun e E=>
 (e=.ret∨e=.normal)∧ ∃nd:Nds,zNx P E rs.toList nd∧nd.map (·.2.2)=res∧(∀x∈nd,us.length≤x.1)∧(nd.map (·.1)).Nodup∧LOk E us rws
def zCc(v:Nat→Value)(is:List Nat):kI:=is.map fun i=>(i,v i)
def zG9:Nat→List T→List (Nat×T)
 |_,[]=>[]
 |i,u::us=>(i,u)::zG9 (i+1) us
theorem zJH:∀(us:List T)(i s:Nat)(t:T),xF (zG9 i us) s=VU t→i≤s∧us[s-i]? =VU t
 | [],i,s,t,h=>by grind[zG9,xF]
 |u::us,i,s,t,h=>by
  simp only[zG9,xF]at h;split at h
  ·grind
  ·rename_i e
   obtain⟨h1,h2⟩:=zJH us (i+1) s t h
   grind
def zOH(tmps:Array Value):ResultVar→Sem Value
 |.tmp t=>pure (tmps.getD t undef)
 |.cell a t=>do loadVar t (←asAddr (tmps.getD a undef))
theorem zLd(fn:Func)(tmps:Array Value):results fn tmps=(do
  let vs ←fn.results.mapM (zOH tmps)
  pure (if h:vs.size=1 then vs[0]else .tuple vs)):=rfl
theorem tA.get:(xs:List T)→tA xs→ ∀(i:Nat)(x:T),xs[i]? =VU x→Top x
 | [],_,i,x,h=>by simp at h
 |y::ys,ht,i,x,h=>by
  simp only[tA]at ht;cases i with
  |zero=>simp at h;subst h;exact ht.1
  |succ i=>exact tA.get ys ht.2 i x (by simpa using h)
theorem LOk.get{E:Env}{us:List T}:(l:List (Nat×T))→LOk E us l→ ∀i u',(i,u')∈l→E i=VU u'∧ ∃u,us[i]? =VU u
 | [],_,_,_,h=>by simp at h
 |x::l,h,i,u',hm=>by
  rcases Jj.1 hm with rfl|hm
  ·exact h.1
  ·exact LOk.get l h.2 i u' hm
theorem zWD{P:Program}{Γ:Ctx}{E:Env}{G:Gh}{tmps:Array Value}{w:World}(gc:Rep Γ E G tmps w)(x:ResultVar)(s:Nat)(q:List Nat)(t:T)(h:ROk P E x (s,q,t)):
  (zOH tmps x).run P w=.ok (qH G s t q) w∧R Γ.St G w s t q:=by
 cases x with
 |tmp s'=>
  obtain⟨h0,bQ,h1,h2⟩:=h;dsimp only at h0 bQ h1 h2;subst h0 bQ;obtain⟨g1,g2,_⟩:=gc.ent _ _ h1;have gV:∀xs,t≠.tup xs:=by rintro xs rfl;grind[T.okTup]
  refine⟨?_,g2⟩;rw[←zA9 G s t [] gV];simp[zOH,K1,g1]
 |cell a T'=>
  obtain⟨h0,bQ,h1,ds,ti,h2,h3,h4,h5⟩:=h;dsimp only at h0 bQ h1 h4 h5;subst h0 bQ;obtain⟨g1,g2,_⟩:=gc.ent _ _ h1;simp only[R]at g2;obtain⟨b,cs,e,k1,k2,k3,k4,k5,k6⟩:=g2;refine⟨?_,k6⟩;rw[xY rfl,k1]at g1;have h6:=zF4 (w:=w) h2 h3 k5 h4 h5;simp[zOH,K1,g1,asAddr,h6]
theorem zFC{P:Program}{Γ:Ctx}{E:Env}{G:Gh}{tmps:Array Value}{w:World}(gc:Rep Γ E G tmps w):(rs:List ResultVar)→(nd:Nds)→zNx P E rs nd→
  (rs.mapM (zOH tmps)).run P w=.ok (nd.map fun x=>qH G x.1 x.2.2 x.2.1) w∧ ∀x∈nd,R Γ.St G w x.1 x.2.2 x.2.1
 | [],[],_=>by simp
 |x::xs,y::ys,h=>by
  obtain⟨h1,h2⟩:=zFC gc xs ys h.2;obtain⟨h3,h4⟩:=zWD gc x y.1 y.2.1 y.2.2 h.1
  simp_all
 | [],_::_,h=>by simp[zNx]at h
 |_::_,[],h=>by simp[zNx]at h
theorem FnC.of_body{P:Program}{f:FuncId}{fn:Func}{c:Code}{us res:List T}{rws:List (Nat×T)}(hf:P.funcs[f]? =VU fn)(hb:fn.body=VU c)(hn:us.length≤fn.ntmps)(ht:tA us)(hr:rws.all (fun x=>decide (x.1<us.length))=VW)
  (h:∀(Γ:Ctx)(v:Nat→Value),Γ.N=fn.ntmps→CW P Γ (zCc v (rws.map (·.1))) c (xF (zG9 0 us)) (zVq P fn.results us res rws)):FnC P f us res rws:=by
 intro St W w G vs fY gn gE
 let Γ:Ctx:=⟨St,W,w,fn.ntmps⟩
 let v:Nat→Value:=fun i=>vs.getD i undef
 have hm:Mem Γ G w:=⟨gE.one,gE.lb,gE.ow,gE.st,gE.fr,gE.sz,gE.bk⟩;have gv:(vs++G6 (fn.ntmps-vs.size) undef).size=fn.ntmps:=by simp;omega
 have iE:Sim Γ (xF (zG9 0 us)) { tmps:=vs++G6 (fn.ntmps-vs.size) undef,defers:=[] } w:=by
  refine⟨rfl,G,gv,?_,hm⟩;intro s t hs;obtain⟨_,h2⟩:=zJH us 0 s t hs;simp only[Ut]at h2;obtain⟨h3,h4⟩:=gn s t h2;have gI:s<vs.size:=by grind
  exact⟨by grind,h4,tA.get us ht s t h2⟩
 have Vl:(zCc v (rws.map (·.1))).Hold { tmps:=vs++G6 (fn.ntmps-vs.size) undef,defers:=[] }:=by
  intro x hx;simp only[zCc,Jb]at hx;obtain⟨i,⟨y,hy,rfl⟩,rfl⟩:=hx;have h1:=Jy.1 hr y hy;simp at h1;have h2:y.1<vs.size:=by omega
  simp[Array.getElem?_append,h2,v]
 refine calls_of_wp hf hb (h Γ v rfl _ _ _ (.of iE) Vl ?_)
 rintro e E' a' w' ⟨he,nd,h1,h2,h3,h4,h5⟩ ⟨S',gT,gY,G',gc⟩ hp
 obtain⟨g1,g2⟩:=zFC gc _ _ h1;have gu:(results fn a'.tmps).run P w'=.ok (zJ9 G' nd) w':=by
  rw[zLd,Array.mapM_eq_mapM_toList];simp only[Sem.run_bind,Sem.run_map,g1];cases nd with
  |nil=>simp[zJ9]
  |cons y ys=>
   cases ys with
   |nil=>simp[zJ9]
   |cons z zs=>simp[zJ9]
 have gC:Mem ⟨S',W,w,0⟩ G' w':=⟨gc.mem.one,gc.mem.lb,gc.mem.ow,gc.mem.st,gc.mem.fr,gc.mem.sz,gc.mem.bk⟩;have bn:bodyPost P fn (fun e w'=> ∃(S':Stb)(G':Gh)(nd:List (Nat×List Nat×T)),zDC St S' W w.heap.size∧e=.returned (zJ9 G' nd)∧Mem ⟨S',W,w,0⟩ G' w'∧nd.map (·.2.2)=res∧
   (∀x∈nd,R S' G' w' x.1 x.2.2 x.2.1∧us.length≤x.1)∧(nd.map (·.1)).Nodup∧
   ∀i u',(i,u')∈rws→R S' G' w' i u' []∧ ∃u,us[i]? =VU u∧mkV G' i u' []=mkV G i u []) .ret a' w':=by
  refine⟨gY,_,gu,S',G',nd,gT,rfl,gC,h2,by grind,h4,?_⟩;intro i u' hiu;obtain⟨k1,u,k3⟩:=LOk.get _ h5 i u' hiu;obtain⟨k5,k6,_⟩:=gc.ent i u' k1;refine⟨k6,u,k3,?_⟩;have k7:=hp (i,v i) (by simp only[zCc,Jb];grind);have k8:=(gn i u k3).1;rw[k5]at k7;simp[v,K1,k8]at k7;exact k7
 rcases he with rfl|rfl<;>exact bn
end Go.Ab

namespace Go.Ab
open Go
mutual
def kJ:T→T
 |.sl k xs=>.ro (strip (.sl k xs))
 |.ptr t=>.ro (strip (.ptr t))
 |.agg xs=>.agg (zAc xs)
 |.tup xs=>.tup (zAc xs)
 |.any=>.any
 |.lit v=>.lit v
 |.ro t=>.ro t
 |.same r p=>.same r p
 |.addr r p=>.addr r p
 |.sub r p k lo hi=>.sub r p k lo hi
 |.mp _ _=>.any
def zAc:List T→List T
 | []=>[]
 |x::xs=>kJ x::zAc xs
end
mutual
theorem zOI(G:Gh)(s:Nat):(t:T)→ ∀p,vals G s (kJ t) p=vals G s t p
 |.agg xs,p=>by simp only[kJ,vals];exact zDb G s xs p 0
 |.sl _ _,_|.ptr _,_|.mp _ _,_|.tup _,_|.any,_|.lit _,_|.ro _,_|.same _ _,_|.addr _ _,_|.sub _ _ _ _ _,_=>by rfl
theorem zDb(G:Gh)(s:Nat):(xs:List T)→ ∀p j,yD G s (zAc xs) p j=yD G s xs p j
 | [],_,_=>by rfl
 |x::xs,p,j=>by simp only[zAc,yD,zOI G s x,zDb G s xs]
end
theorem zOJ(G:Gh)(s:Nat)(t:T)(p:List Nat):qH G s (kJ t) p=qH G s t p:=by cases t<;>simp only[kJ,qH,zDb]
theorem zJI(G:Gh)(s:Nat):(xs:List T)→ ∀p j,zA8 G s (zAc xs) p j=zA8 G s xs p j
 | [],_,_=>by rfl
 |x::xs,p,j=>by simp only[zAc,zA8,zOJ,zJI G s xs]
theorem zRz(G:Gh)(s:Nat)(t:T)(p:List Nat):mkV G s (kJ t) p=mkV G s t p:=by cases t<;>simp only[kJ,mkV,zDb,zJI]
mutual
theorem zJJ:(t:T)→Top t→Top (kJ t)
 |.agg xs,h|.tup xs,h=>by simp only[kJ,Top]at h ⊢;exact zHK xs h
 |.sl _ _,_|.ptr _,_|.mp _ _,_|.any,_|.lit _,_|.ro _,_|.same _ _,_|.addr _ _,_|.sub _ _ _ _ _,_=>by simp only[kJ,Top]
theorem zHK:(xs:List T)→tA xs→tA (zAc xs)
 | [],_=>by grind[zAc]
 |x::xs,h=>by simp only[zAc,tA]at h ⊢;exact⟨zJJ x h.1,zHK xs h.2⟩
end
section
variable {St Sc:Stb}{G G':Gh}{w:World}{s:Nat} (gA:∀s p,(G.hd s p).oneCell'=VW) (eF:∀b x,St b=VU x→Sc b=VU x) (eG:∀b,(∃y,G.ow b=VU (s,y))→Sc b=w.heap[b]?) (gN:∀s z,G'.hd s z=G.hd s z) (mj:∀s z,G'.ad s z=G.ad s z)
 include gA eF eG gN mj
mutual
theorem zTd:(t:T)→ ∀(p:List Nat),R St G w s t p→R Sc G' w s (kJ t) p
 |.agg xs,p,hr|.tup xs,p,hr=>by simp only[kJ,R]at hr ⊢;exact zOK xs p 0 hr
 |.sl k xs,p,hr=>by have:=zJD gA eF eG (.sl k xs) p rfl hr;simp only[kJ,R,gN];exact this
 |.ptr t,p,hr=>by have:=zJD gA eF eG (.ptr t) p rfl hr;simp only[kJ,R,gN];exact this
 |.ro u,p,hr=>by simp only[kJ,R,gN]at hr ⊢;grind[qK]
 |.mp _ _,_,_=>by simp only[kJ,R]
 |.any,_,_=>by simp only[kJ,R]
 |.lit _,_,hr|.same _ _,_,hr|.sub _ _ _ _ _,_,hr=>by simp only[kJ,R,gN]at hr ⊢;exact hr
 |.addr _ _,_,hr=>by simp only[kJ,R,gN,mj]at hr ⊢;exact hr
theorem zOK:(xs:List T)→ ∀(p:List Nat)(j:Nat),RF St G w s xs p j→RF Sc G' w s (zAc xs) p j
 | [],_,_,_=>by have _:=gA;have _:=eF;have _:=eG;have _:=gN;have _:=mj;simp only[zAc,RF]
 |x::xs,p,j,hr=>by simp only[zAc,RF]at hr ⊢;exact⟨zTd x _ hr.1,zOK xs p (j+1) hr.2⟩
end
end
theorem zN.freeze{Γ:Ctx}{E:Env}(s:Nat)(t:T)(hs:E s=VU t):zN Γ E (E.app [(s,VU (kJ t))] [(s,1)]):=by
 classical
 rintro a w ⟨S,hS,gY,G,gc⟩
 have hm:=gc.mem
 let own:Nat→Prop:=fun b=> ∃y,G.ow b=VU (s,y)
 let Sc:Stb:=fun b=>if own b then w.heap[b]? else S b
 let G':Gh:={ hd:=G.hd,ad:=G.ad,lb:=fun b o=>if own b then VV else G.lb b o,ow:=fun b=>if own b then VV else G.ow b }
 have fR:∀b x,S b=VU x→Sc b=VU x:=fun b x hx=>by
  have:¬own b:=by
   rintro⟨y,hy⟩
   have:=(hm.ow b _ hy).2.2
   grind
  grind
 have VA:zDC S Sc Γ.W Γ.w0.heap.size:=⟨fR,fun b hb ff=>by
  by_cases h:own b
  ·obtain⟨y,hy⟩:=h
   exact(hm.ow b _ hy).2.1
  grind⟩
 have gE:Mem ((Γ.at S).at Sc) G' w:=by
  refine⟨hm.one,fun b o l hl=>?_,fun b l hl=>?_,fun b x hx=>?_,hm.fr,hm.sz,hm.bk⟩
  ·by_cases h:own b
   ·grind
   ·simp only[G',h,if_false]at hl
    have:=hm.lb b o l hl;exact⟨this.1,this.2.1,by simp only[Sc,h,if_false];exact this.2.2⟩
  ·by_cases h:own b
   ·grind
   ·simp only[G',h,if_false]at hl
    have:=hm.ow b l hl;exact⟨this.1,this.2.1,by simp only[Sc,h,if_false];exact this.2.2⟩
  ·by_cases h:own b
   ·grind
   ·simp only[Sc,h,if_false]at hx;exact hm.st b x hx
 have gy:zAF [(s,1)] G w G' w:=by
  have hno:∀b s0 y,G.ow b=VU (s0,y)→(∀n,(s0,n)∉([(s,1)]:Chg))→ ¬own b:=by grind
  refine⟨fun _ _ _=>rfl,fun _ _ _=>rfl,by grind,by grind,fun b cs e h=>⟨cs,h,rfl⟩,by intros;assumption⟩
  all_goals grind
 obtain⟨e1,e2,e3⟩:=gc.ent s t hs;refine⟨Sc,hS.trans VA,gY,G',gc.up fR rfl gy gE (fun s0 h0=>⟨fun n hn=>?_,rfl⟩) (fun s0 t0 h0=>?_)⟩
 ·grind[jP]
 ·rw[jP]at h0
  split at h0
  ·rename_i he;subst he
   simp at h0;subst h0;have hR:=zTd (G':=G') hm.one fR (fun b hb=>by grind) (fun _ _=>rfl) (fun _ _=>rfl) t [] e2;refine⟨?_,hR,zJJ t e3⟩;rw[e1];have h1:mkV G' s (kJ t) []=mkV G s (kJ t) []:=zET _ _ _ (fun _=>rfl);rw[h1,zRz]
  ·cases h0
end Go.Ab

namespace Go.Ab
open Go
abbrev zCF:=List (Wr×Chg)
def Env.apps(E:Env)(l:zCF):Env:=l.foldl (fun E x=>E.app x.1 x.2) E
structure Stp where
 rd:List (Nat×T)
 l:zCF
def qR(wr:Wr):List Nat:=wr.map (·.1)
def Stp.slots(X:Stp):List Nat:=X.l.flatMap fun x=>qR x.1
def oOk(chg:Chg):Option T→Bool
 |none=>VW
 |some t=>t.okB chg
def zLe(chg:Chg)(wr:Wr):Bool:=wr.all fun x=>oOk chg x.2
def zNy(a b:List Nat):Bool:=a.all fun x=> !b.contains x
def zFd(a b:zCF):Bool:=a.all fun x=>b.all fun y=>zNy (qR x.1) (qR y.1)&&zLe y.2 x.1&&zLe x.2 y.1
def Stp.apart(a b:Stp):Bool:=zFd a.l b.l&&zNy a.slots (b.rd.map (·.1))&&zNy b.slots (a.rd.map (·.1))&&a.rd.all fun x=>b.l.all fun y=>x.2.okB y.2
theorem zFe{wr:Wr}{s:Nat}(h:s∉qR wr):wr.find s=VV:=by
 induction wr with
 |nil=>rfl
 |cons x wr ih=>
  simp only[qR,Jh,Jj,not_or]at h;simp only[Wr.find,Ne.symm h.1,if_false];exact ih h.2
theorem zHL{wr:Wr}{s:Nat}{x:Option T}(h:wr.find s=VU x):s∈qR wr∧ ∃y∈wr,y.2=x:=by
 induction wr with
 |nil=>grind[Wr.find]
 |cons y wr ih=>
  grind[Wr.find,qR]
theorem zGA{a b:List Nat}(h:zNy a b=VW){s:Nat}(hs:s∈a):s∉b:=by
 have:=Jy.1 h s hs
 grind
theorem zOL(E:Env)(w1 w2:Wr)(c1 c2:Chg)(h:zNy (qR w1) (qR w2)=VW)(h1:zLe c2 w1=VW)(h2:zLe c1 w2=VW):
  (E.app w1 c1).app w2 c2=(E.app w2 c2).app w1 c1:=by
 funext s
 have ok:∀{c:Chg}{w:Wr}{s:Nat}{x:Option T},zLe c w=VW→w.find s=VU x→(match x with|some t=>if t.okB c then VU t else VV|none=>VV)=x:=by
  intro c w s x hw hf;obtain⟨_,y,hy,rfl⟩:=zHL hf;have:=Jy.1 hw y hy
  grind[oOk]
 unfold Env.app;cases hf1:w1.find s with
 |some x=>
  grind[zFe,zGA,zHL]
 |none=>
  grind
theorem zD2(w:Wr)(c:Chg):∀(l:zCF)(E:Env),(∀y∈l,zNy (qR w) (qR y.1)=VW∧zLe y.2 w=VW∧zLe c y.1=VW)→(E.app w c).apps l=(E.apps l).app w c
 | [],E,_=>rfl
 |y::l,E,h=>by obtain⟨h1,h2,h3⟩:=h y (by simp);show((E.app w c).app y.1 y.2).apps l=_;rw[zOL E w y.1 c y.2 h1 h2 h3];exact zD2 w c l _ (by grind)
theorem zHM:∀(l1 l2:zCF)(E:Env),zFd l1 l2=VW→(E.apps l1).apps l2=(E.apps l2).apps l1
 | [],l2,E,_=>rfl
 |x::l1,l2,E,h=>by simp only[zFd,Ux,J1]at h;show((E.app x.1 x.2).apps l1).apps l2=((E.apps l2).app x.1 x.2).apps l1;rw[zHM l1 l2 _ (by grind[zFd]),zD2 x.1 x.2 l2 E (by grind)]
def runD:Env→List (Bool×Stp)→Env
 |E,[]=>E
 |E,(b,X)::l=>runD (if b then E.apps X.l else E) l
theorem zAB:∀(l1 l2:List (Bool×Stp))(E:Env),runD E (l1++l2)=runD (runD E l1) l2
 | [],_,_=>rfl
 |(b,X)::l1,l2,E=>by simp only[L7,runD];exact zAB l1 l2 _
theorem zFf:∀(l:List (Bool×Stp))(X:Stp)(E:Env),(∀y∈l,y.1=VW→zFd X.l y.2.l=VW)→runD (E.apps X.l) l=(runD E l).apps X.l
 | [],_,_,_=>rfl
 |(b,Y)::l,X,E,h=>by
  simp only[runD];cases b with
  |false=>exact zFf l X E (by grind)
  |true=>
   have:=h (VW,Y) (by simp) rfl;simp only[if_true];rw[zHM X.l Y.l E this];exact zFf l X _ (by grind)
theorem zGB{s:Nat}:∀(l:zCF)(E:Env),s∉l.flatMap (fun x=>qR x.1)→ ∀t,(E.apps l) s=VU t→E s=VU t
 | [],_,_,_,h=>h
 |x::l,E,hs,t,h=>by
  simp only[L8,Ka,not_or]at hs;have:=zGB l (E.app x.1 x.2) hs.2 t h
  grind[Env.app,zFe]
theorem zHN{s:Nat}{t:T}:∀(l:zCF)(E:Env),s∉l.flatMap (fun x=>qR x.1)→(∀y∈l,t.okB y.2=VW)→E s=VU t→(E.apps l) s=VU t
 | [],_,_,_,h=>h
 |x::l,E,hs,gM,h=>by
  simp only[L8,Ka,not_or]at hs;refine zHN l (E.app x.1 x.2) hs.2 (by grind) ?_
  grind[Env.app,zFe]
theorem zHO{s:Nat}:∀(l:zCF)(E1 E2:Env),(∀t,E2 s=VU t→E1 s=VU t)→ ∀t,(E2.apps l) s=VU t→(E1.apps l) s=VU t
 | [],_,_,h,t,ht=>h t ht
 |x::l,E1,E2,h,t,ht=>by
  refine zHO l (E1.app x.1 x.2) (E2.app x.1 x.2) (fun u hu=>?_) t ht
  grind[Env.app]
theorem zHP{s:Nat}:∀(l:List (Bool×Stp))(E1 E2:Env),(∀y∈l,y.1=VX→s∉y.2.slots)→(∀t,E2 s=VU t→E1 s=VU t)→
  ∀t,runD E2 (l.map fun y=>(VW,y.2)) s=VU t→runD E1 l s=VU t
 | [],_,_,_,h,t,ht=>h t ht
 |(b,X)::l,E1,E2,hl,h,t,ht=>by
  simp only[Jh,runD,if_true]at ht ⊢
  refine zHP l _ _ (by grind) (fun u hu=>?_) t ht;cases b with
  |true=>grind[zHO]
  |false=>exact h u (zGB X.l E2 (hl (VX,X) (by simp) rfl) u hu)
theorem zHQ{s:Nat}{t:T}:∀(l:List (Bool×Stp))(E:Env),(∀y∈l,y.1=VW→s∉y.2.slots∧ ∀z∈y.2.l,t.okB z.2=VW)→E s=VU t→runD E l s=VU t
 | [],_,_,h=>h
 |(b,X)::l,E,hl,h=>by
  simp only[runD];refine zHQ l _ (fun y hy=>hl y (by simp[hy])) ?_;cases b with
  |false=>exact h
  |true=>obtain⟨h1,h2⟩:=hl (VW,X) (by simp) rfl;exact zHN X.l E h1 h2 h
theorem Env.Has.of{E E':Env}:{l:List (Nat×T)}→E.Has l→(∀s t,(s,t)∈l→E s=VU t→E' s=VU t)→E'.Has l
 | [],_,_=>trivial
 |(s,t)::l,h,h'=>⟨h' s t (by simp) h.1,Env.Has.of h.2 fun s t hm=>h' s t (by simp[hm])⟩
end Go.Ab

namespace Go.Ab
open Go
def zBI(o:Oper):List Nat:=(o.after.toList.filter (Region.binds .any)).map (·.on)
def zBw:Nat→List Oper→Bool
 |_,[]=>VW
 |i,o::os=>((zBI o).all fun m=>decide (m<i))&&zBw (i+1) os
def zAX(an:List (List Nat)):List (List Nat)→List Oper→Bool
 | [],_=>VW
 |_::_,[]=>VX
 |l::ls,o::os=>(l.all fun k=>(zBI o).contains k||(zBI o).any fun m=>(an.getD m []).contains k)&&zAX an ls os
def zAl(Xs:List Stp):Nat→List (List Nat)→List Stp→Bool
 |_,_,[]=>VW
 |j,an,Y::Ys=>((Jq j).all fun i=>(an.headD []).contains i||match Xs[i]? with
   |some X=>X.apart Y
   |none=>VW)&&zAl Xs (j+1) an.tail Ys
theorem zFW:∀(os:List Oper)(i0 j:Nat)(o:Oper),zBw i0 os=VW→os[j]? =VU o→ ∀m∈zBI o,m<i0+j
 | [],_,j,_,_,h=>by simp at h
 |x::os,i0,j,o,hf,h=>by
  simp only[zBw,J1]at hf;cases j with
  |zero=>
   grind
  |succ j=>
   intro m hm;have:=zFW os (i0+1) j o hf.2 (by grind) m hm;omega
theorem zIR(an:List (List Nat)):∀(ls:List (List Nat))(os:List Oper)(j:Nat)(l:List Nat),zAX an ls os=VW→ls[j]? =VU l→ ∃o,os[j]? =VU o∧ ∀k∈l,k∈zBI o∨ ∃m∈zBI o,k∈an.getD m []
 | [],_,j,_,_,h=>by simp at h
 |_::_,[],_,_,h,_=>by grind[zAX]
 |x::ls,o::os,j,l,ha,h=>by
  simp only[zAX,J1]at ha;cases j with
  |zero=>
   simp_all
  |succ j=>
   obtain⟨o',h1,h2⟩:=zIR an ls os j l ha.2 (by grind)
   grind
theorem zFg(Xs:List Stp):∀(Ys:List Stp)(j0:Nat)(an:List (List Nat))(j:Nat)(Y:Stp),zAl Xs j0 an Ys=VW→Ys[j]? =VU Y→ ∀i X,i<j0+j→Xs[i]? =VU X→i∈an.getD j []∨X.apart Y=VW
 | [],_,_,j,_,_,h=>by simp at h
 |Z::Ys,j0,an,j,Y,hp,h=>by
  simp only[zAl,J1]at hp;intro i X hi hX;cases j with
  |zero=>
   simp at h;subst h;have:=Jy.1 hp.1 i (by grind);simp only[hX,Bool.or_eq_true,Ld,decide_eq_true_eq]at this;rcases this with h|h
   ·left
    cases an with
    |nil=>simp at h
    |cons l an=>grind
   grind
  |succ j=>
   rcases zFg Xs Ys (j0+1) an.tail j Y hp.2 (by grind) i X (by omega) hX with h|h
   all_goals grind
section
variable {P:Program}{Γ:Ctx}{pn:kI}{ops:Array Oper}
def zOM(ops:Array Oper)(L:List Bool):Prop:=∀(i:Nat)(o:Oper),ops[i]? =VU o→L[i]? =VU VW→ ∀m∈zBI o,L[m]? =VU VW
theorem zGC{L:List Bool}{an:List (List Nat)}(hf:zBw 0 ops.toList=VW)(ha:zAX an an ops.toList=VW)(hc:zOM ops L):
  ∀(n i:Nat),i≤n→ ∀o,ops[i]? =VU o→(∀m∈zBI o,L[m]? =VU VW)→ ∀k∈an.getD i [],L[k]? =VU VW:=by
 intro n
 induction n with
 |zero=>
  intro i hi o ho hp k hk;have Vx:i=0:=by omega
  subst Vx;cases hl:an[0]? with
  |none=>grind
  |some l=>
   obtain⟨o',h1,h2⟩:=zIR an an ops.toList 0 l ha hl;rw[Kb,ho]at h1;simp at h1;subst h1;simp only[Ql,hl,Us]at hk;rcases h2 k hk with h|⟨m,h,_⟩
   ·grind
   ·have:=zFW ops.toList 0 0 o hf (by grind) m h
    omega
 |succ n ih=>
  intro i hi o ho hp k hk;cases hl:an[i]? with
  |none=>grind
  |some l=>
   obtain⟨o',h1,h2⟩:=zIR an an ops.toList i l ha hl;rw[Kb,ho]at h1;simp at h1;subst h1;simp only[Ql,hl,Us]at hk;rcases h2 k hk with h|⟨m,h,hkm⟩
   ·grind
   ·have gI:=zFW ops.toList 0 i o hf (by grind) m h
    have hLm:=hp m h;cases dR:ops[m]? with
    |none=>
     grind
    |some om=>exact ih m (by omega) om dR (hc m om dR hLm) k hkm
theorem zHR{L:List Bool}{Xs:List Stp}{i:Nat}{b:Bool}{X:Stp}(hL:L[i]? =VU b)(hX:Xs[i]? =VU X):L.zip Xs=(L.take i).zip (Xs.take i)++(b,X)::(L.drop (i+1)).zip (Xs.drop (i+1)):=by
 have h1:L=L.take i++b::L.drop (i+1):=by obtain⟨h,rfl⟩:=J9.1 hL;simp
 have h2:Xs=Xs.take i++X::Xs.drop (i+1):=by obtain⟨h,rfl⟩:=J9.1 hX;simp
 grind[List.zip_cons_cons]
theorem zIS{L:List Bool}{Xs:List Stp}{y:Bool×Stp}(h:y∈L.zip Xs):∃j:Nat,L[j]? =VU y.1∧Xs[j]? =VU y.2:=by grind[Gy,List.getElem?_zip_eq_some]
def qS:Env→List Stp→Prop
 |_,[]=>True
 |E,X::Xs=>E.Has X.rd∧qS (E.apps X.l) Xs
theorem qS.get:∀(Xs:List Stp)(E:Env),qS E Xs→ ∀(i:Nat)(X:Stp),Xs[i]? =VU X→(runD E ((Xs.take i).map fun y=>(VW,y))).Has X.rd
 | [],_,_,i,_,h=>by simp at h
 |Y::Xs,E,hh,i,X,h=>by
  cases i with
  |zero=>simp at h;subst h;simpa[runD]using hh.1
  |succ i=>
   have:=qS.get Xs _ hh.2 i X (by grind)
   grind[runD]
theorem Stp.apart_spec{a b:Stp}(h:a.apart b=VW):zFd a.l b.l=VW∧(∀s∈a.slots,s∉b.rd.map (·.1))∧(∀s∈b.slots,s∉a.rd.map (·.1))∧ ∀x∈a.rd,∀y∈b.l,x.2.okB y.2=VW:=by simp only[Stp.apart,J1]at h;refine⟨h.1.1.1,by grind[zGA],by grind[zGA],fun x hx y hy=>?_⟩;exact Jy.1 (Jy.1 h.2 x hx) y hy
mutual
theorem zMq:(t:T)→t.okB []=VW
 |.same _ _|.addr _ _|.sub _ _ _ _ _=>by rfl
 |.agg xs|.tup xs=>by simp only[T.okB];exact zJK xs
 |.any|.lit _|.ro _|.sl _ _|.ptr _|.mp _ _=>by rfl
theorem zJK:(xs:List T)→zGi [] xs=VW
 | []=>by rfl
 |x::xs=>by simp only[zGi,zMq x,zJK xs,Kr]
end
theorem Rep.heap{E:Env}{G:Gh}{tmps:Array Value}{w w':World}(h:Rep Γ E G tmps w)(hw:w'.heap=w.heap)(ho:w'.os=w.os:=by rfl)(hq:w'.output=w.output:=by rfl):Rep Γ E G tmps w' where
 size:=h.size
 ent s t hs:=Ent.keep (chg:=[]) ⟨fun _ _ _=>rfl,fun _ _ _=>rfl,by grind[yX,World.cell?],fun _ _ _ h _=>h,fun b cs e h=>⟨cs,by grind,rfl⟩,fun b _ _ ms c _ _ h=>by grind⟩ (by simp) (zMq t) (h.ent s t hs)
 mem:=by
  have hm:=h.mem;exact⟨hm.one,fun b o l hl=>by have:=hm.lb b o l hl;exact⟨by rw[hw];exact this.1,this.2⟩,fun b l hl=>by have:=hm.ow b l hl;exact⟨by rw[hw];exact this.1,this.2⟩,
   fun b x hx=>by rw[hw];exact hm.st b x hx,fun b h1 h2=>by rw[hw];exact hm.fr b h1 h2,by rw[hw];exact hm.sz,hm.bk.trans (fun b cs e hb=>⟨cs,by grind,rfl⟩) ho hq⟩
end
end Go.Ab

namespace Go.Ab
open Go
abbrev I(n:Int):T:=.lit (.int .i64 n)
abbrev B(b:Bool):T:=.lit (.bool b)
abbrev L{α:Type}(k:Nat)(f:α→T)(xs:List α):T:=.sl k (xs.map f)
theorem zU{P:Program}{t:TypeId}{ti:TypeInfo}(h:P.types[t]? =VU ti):P.info? t=VU ti:=by grind[Tables.info?]
def Ok(P:Program)(Γ:Ctx)(o:Oper)(E E':Env):Prop:=∀S,wP P (Γ.at S) o E E'
section
variable {P:Program}{Γ:Ctx}{pn:kI}{ops:Array Oper}{o:Oper}{os:List Oper}{E E':Env}{Q:Exit→Env→Prop}{d:Nat}
theorem RW.op(h:Ok P Γ o E E')(k:RW P Γ pn ops os E' Q)(hg:o.guard=VV:=by rfl)(hp:pn.ok o.dst=VW:=by rfl):RW P Γ pn ops (o::os) E Q:=RW.cons (zV.op h hg) k hp
def neD(x:Operand)(d:Nat):Bool:=match x with
 |.tmp s=>s != d
 |_=>VW
theorem zEw{x:Operand}{d:Nat}(h:neD x d=VW):∀s,x=.tmp s→s≠d:=by rintro s rfl;grind[neD]
theorem zBJ{t:T}(h:t.okTup=VW):∀xs,t≠.tup xs:=by rintro xs rfl;grind[T.okTup]
abbrev mvB(Γ:Ctx)(x:Operand)(t:T)(d:Nat):Bool:=J3 d Γ.N&&t.okTup&&neD x d&&T.okB [(d,0)] (tV x t)
section
variable {x y:Operand}{t:T}{ty:TypeId}{ps:String}{af:Array Edge}{gd:Option (Nat×Bool)}
theorem yF{a b:Nat}(h:J3 a b=VW):a<b:=by grind[Nat.blt_eq]
theorem zLf(hx:opT E x=VU t)(sd:mvB Γ x t d=VW):Ok P Γ ⟨VU d,.move x,ty,ps,af,gd⟩ E (E.app [(d,VU (tV x t))] [(d,0)]):=by simp only[mvB,J1]at sd;exact fun S=>zLY x t (.inl rfl) rfl (yF sd.1.1.1) hx (zBJ sd.1.1.2) (zEw sd.1.2) sd.2
theorem zR0(hx:opT E x=VU t)(sd:mvB Γ x t d=VW):Ok P Γ ⟨VU d,.assign x,ty,ps,af,gd⟩ E (E.app [(d,VU (tV x t))] [(d,0)]):=by simp only[mvB,J1]at sd;exact fun S=>zLY x t (.inr rfl) rfl (yF sd.1.1.1) hx (zBJ sd.1.1.2) (zEw sd.1.2) sd.2
def inR(n:Int):Bool:=decide (-9223372036854775808≤n)&&decide (n≤9223372036854775807)
theorem zCG{n:Int}(h:inR n=VW):IntKind.i64.wrap n=n:=by
 simp only[inR,J1,decide_eq_true_eq]at h;have hb:IntKind.i64.bits=64:=rfl;have hs:IntKind.i64.signed=VW:=rfl;simp only[IntKind.wrap,hb,hs,Bool.true_and]
 grind
def rng(n:Int):Option Int:=if inR n then VU n else VV
theorem zCH{n m:Int}(h:rng n=VU m):m=n∧inR n=VW:=by grind[rng]
theorem zON{m n c:Int}{xt yt:TypeId}(hv:rng (m+n)=VU c)(hx:opT E x=VU (I m))(hy:opT E y=VU (I n))(sd:J3 d Γ.N=VW):Ok P Γ ⟨VU d,.binOp .add xt x y yt,ty,ps,af,gd⟩ E (E.app [(d,VU (I c))] [(d,0)]):=by obtain⟨rfl,h⟩:=zCH hv;exact fun S=>tT .add xt yt x y .i64 m n _ rfl rfl (yF sd) hx hy (by grind[zIC,zCG])
theorem zHS{m n:Int}{xt yt:TypeId}(hx:opT E x=VU (I m))(hy:opT E y=VU (I n))(sd:J3 d Γ.N=VW):Ok P Γ ⟨VU d,.binOp .lss xt x y yt,ty,ps,af,gd⟩ E (E.app [(d,VU (B (decide (m<n))))] [(d,0)]):=
 fun _S=>tT .lss xt yt x y .i64 m n _ rfl rfl (yF sd) hx hy rfl
theorem zAQ(k:Nat)(sd:J3 d Γ.N=VW):Ok P Γ ⟨VU d,.assign (.const (.slice VV 0 0)),ty,ps,af,gd⟩ E (E.app [(d,VU (.sl k []))] [(d,0)]):=
 fun _=>zJ0 k _ (.inr rfl) rfl rfl (yF sd)
def yW(n:Int):Option Nat:=if 0≤n∧n≤68719476736 then VU n.toNat else VV
theorem zGD{n:Int}{m:Nat}(h:yW n=VU m):n=(m:Int)∧m≤68719476736:=by grind[yW]
class ElT (P:Program) (t:TypeId) (e:outParam TypeId) (ti:outParam TypeInfo) (k:outParam Nat) (u:outParam T):Prop where
 un:P.underlying t=VU (.slice e)
 info:P.info? e=VU ti
 zero:∃z,ti.zero=VU z∧sG u=z.cells.toList
 size:ti.size=k
 pos:0<k
 zok:u.zOk=VW
 us:u.size=k
 bytes:ti.bytes≤2048
theorem zTH{t e:TypeId}{ti:TypeInfo}{k:Nat}{u:T}{n m:Nat}{a b:Int}(ht:ElT P t e ti k u)(hn:yW a=VU n)(hx:opT E x=VU (I a))(hm:yW b=VU m)(hy:opT E y=VU (I b))(ca:n≤m)(sd:J3 d Γ.N=VW):
  Ok P Γ ⟨VU d,.makeSlice t x y,ty,ps,af,gd⟩ E (E.app [(d,VU (.sl k (J2 n u)))] [(d,0)]):=by
 obtain⟨rfl,h1⟩:=zGD hn;obtain⟨rfl,h2⟩:=zGD hm;obtain⟨z,hz,hv⟩:=ht.zero;exact fun S=>zRu t e ti z u k x y n m .i64 .i64 rfl rfl (yF sd) ht.un ht.info hz ht.size ht.pos ht.zok hv ht.us (Lh ht.bytes (by decide)) hx hy ca h2
end
end
end Go.Ab

namespace Go.Ab
open Go
def ixO{α:Type}(xs:List α)(i:Int):Option α:=if 0≤i then xs[i.toNat]? else VV
theorem tW{α:Type}{xs:List α}{i:Int}{v:α}(h:ixO xs i=VU v):0≤i∧xs[i.toNat]? =VU v:=by grind[ixO]
def zBx:T→Bool
 |.same _ _=>VX
 |_=>VW
theorem kA{E:Env}{s r:Nat}{q:List Nat}{t u:T}(h1:E s=VU (.same r q))(h2:E r=VU t)(h3:t.get q.reverse=VU u)(h4:zBx u=VW):sD E (.tmp s)=VU (r,q,u):=by
 have hg:∀t:T,t.get []=VU t:=fun t=>by rfl
 grind[zBx,sD,jZ]
theorem tS{E:Env}{s:Nat}{t:T}(h1:E s=VU t)(h4:zBx t=VW):sD E (.tmp s)=VU (s,[],t):=by
 have hg:∀t:T,t.get []=VU t:=fun t=>by rfl
 grind[zBx,sD,jZ]
section
variable {P:Program}{Γ:Ctx}{E:Env}{d:Nat}{x y:Operand}{ty:TypeId}{ps:String}{af:Array Edge}{gd:Option (Nat×Bool)}
class zBK (P:Program) (t:TypeId) (e:outParam TypeId) (ti:outParam TypeInfo) (k:outParam Nat):Prop where
 un:P.underlying t=VU (.slice e)
 info:P.info? e=VU ti
 size:ti.size=k
theorem zVr{α:Type}{t e:TypeId}{ti:TypeInfo}{r k:Nat}{q:List Nat}{f:α→T}{xs:List α}{v:α}{i:Int}(ht:zBK P t e ti k)(hv:ixO xs i=VU v)(hx:sD E x=VU (r,q,L k f xs))(hy:opT E y=VU (I i))(sd:J3 d Γ.N=VW):
  Ok P Γ ⟨VU d,.indexAddr t x y,ty,ps,af,gd⟩ E (E.app [(d,VU (.addr r (i.toNat::q)))] [(d,0)]):=by
 obtain⟨h1,h2⟩:=tW hv;exact fun S=>zOt x y t e ti r q k _ .i64 i rfl rfl (yF sd) ht.un ht.info ht.size hx hy h1 (by grind)
theorem zGE{α:Type}{t e:TypeId}{ti:TypeInfo}{r k:Nat}{q:List Nat}{f:α→T}{xs:List α}{v:α}{i:Int}(ht:zBK P t e ti k)(hv:ixO xs i=VU v)(hx:sD E x=VU (r,q,.ro (L k f xs)))(hy:opT E y=VU (I i))(sd:J3 d Γ.N=VW):
  Ok P Γ ⟨VU d,.indexAddr t x y,ty,ps,af,gd⟩ E (E.app [(d,VU (.ro (.ptr (f v))))] [(d,0)]):=by
 obtain⟨h1,h2⟩:=tW hv;exact fun S=>zOu x y t e ti r q k _ .i64 i _ rfl rfl (yF sd) ht.un ht.info ht.size hx hy h1 (by simp[h2])
theorem zTe{α:Type}{t e:TypeId}{r k:Nat}{q:List Nat}{f:α→T}{xs:List α}(hu:P.underlying t=VU (.slice e))(hx:sD E x=VU (r,q,L k f xs))(sd:J3 d Γ.N=VW):
  Ok P Γ ⟨VU d,.call { callee:=.builtin .len,args:=#[x],argTypes:=#[t] },ty,ps,af,gd⟩ E (E.app [(d,VU (I xs.length))] [(d,0)]):=
 fun _=>zOs x t _ r q (L k f xs) xs.length rfl rfl (yF sd) hu hx (by simp[zJu]) rfl
theorem zOO{α:Type}{t e:TypeId}{r k:Nat}{q:List Nat}{f:α→T}{xs:List α}(hu:P.underlying t=VU (.slice e))(hx:sD E x=VU (r,q,.ro (L k f xs)))(sd:J3 d Γ.N=VW):
  Ok P Γ ⟨VU d,.call { callee:=.builtin .len,args:=#[x],argTypes:=#[t] },ty,ps,af,gd⟩ E (E.app [(d,VU (I xs.length))] [(d,0)]):=
 fun _=>zOs x t _ r q (.ro (L k f xs)) xs.length rfl rfl (yF sd) hu hx (by simp[zJu]) rfl
structure zOP (P:Program) (t:TypeId) (u:T):Prop where
 h:∃ds ti,P.underlying t=VU ds∧P.info? t=VU ti∧zEU ds= !u.single∧ti.size=u.size
theorem zVs{t:TypeId}{u:T}(ht:zOP P t u)(hx:opT E x=VU (.ro (.ptr u)))(sd:J3 d Γ.N=VW):Ok P Γ ⟨VU d,.load t x,ty,ps,af,gd⟩ E (E.app [(d,VU (roT u))] [(d,0)]):=by obtain⟨ds,ti,h1,h2,h3,h4⟩:=ht.h;exact fun S=>zKY x t ds ti u rfl rfl (yF sd) h1 h2 h3 h4 hx
theorem zVt{t:TypeId}{u tr:T}{r:Nat}{q:List Nat}(ht:zOP P t u)(hx:opT E x=VU (.addr r q))(hr:E r=VU tr)(hg:tr.get q.reverse=VU u)(sd:(J3 d Γ.N&&tr.locd q.reverse&&(r != d)&&T.okB [(d,0)] (cpT r u q))=VW):
  Ok P Γ ⟨VU d,.load t x,ty,ps,af,gd⟩ E (E.app [(d,VU (cpT r u q))] [(d,0)]):=by
 obtain⟨ds,ti,h1,h2,h3,h4⟩:=ht.h;simp only[J1]at sd;exact fun S=>zRt x t ds ti r q tr u rfl rfl (yF sd.1.1.1) h1 h2 h3 h4 hx hr hg sd.1.1.2 (by grind) sd.2
end
end Go.Ab

namespace Go.Ab
open Go
section
variable {P:Program}{Γ:Ctx}{E:Env}{x:Operand}{ty:TypeId}{ps:String}{af:Array Edge}{gd:Option (Nat×Bool)}
theorem zXx{t:TypeId}{ti:TypeInfo}{r s:Nat}{q:List Nat}{tr tr' u0:T}{v:Value}(hi:P.info? t=VU ti)(gv:ti.size=1)(hx:opT E x=VU (.addr r q))(hr:E r=VU tr)(hg:tr.get q.reverse=VU u0)(gz:tr.set q.reverse (.lit v)=tr')(hy:E s=VU (.lit v))
  (sd:(tr.single&&tr.locd q.reverse&&uU (.lit v) u0&&(r != s))=VW):Ok P Γ ⟨VV,.store t x (.tmp s),ty,ps,af,gd⟩ E (E.app [(r,VU tr')] [(r,q.length)]):=by
 simp only[J1]at sd;subst gz;intro S;have:=zJ3 (P:=P) (Γ:=Γ.at S) (E:=E) (o:=⟨VV,.store t x (.tmp s),ty,ps,af,gd⟩) t ti x (.tmp s) r q tr u0 (.slot s (.lit v)) rfl rfl hi (by rw[gv];rfl) (by omega) hx hr sd.1.1.1 hg sd.1.1.2 sd.1.2 (.slot s _)
  ⟨fun s' t' h=>by simp at h;obtain⟨rfl,rfl⟩:=h;exact⟨hy,by simp[zW,xE],rfl⟩,by simp,by simp[xU,qI]⟩
 exact this
theorem zVu{t:TypeId}{ti:TypeInfo}{r:Nat}{q:List Nat}{tr tr' u0:T}{v:Value}(hi:P.info? t=VU ti)(gv:ti.size=1)(hx:opT E x=VU (.addr r q))(hr:E r=VU tr)(hg:tr.get q.reverse=VU u0)(gz:tr.set q.reverse (.lit v)=tr')
  (sd:(tr.single&&tr.locd q.reverse&&uU (.lit v) u0&&(T.lit v).zOk)=VW)(hz:sG (.lit v)=v.cells.toList):Ok P Γ ⟨VV,.store t x (.const v),ty,ps,af,gd⟩ E (E.app [(r,VU tr')] [(r,q.length)]):=by
 simp only[J1]at sd;subst gz;intro S;have:=zJ3 (P:=P) (Γ:=Γ.at S) (E:=E) (o:=⟨VV,.store t x (.const v),ty,ps,af,gd⟩) t ti x (.const v) r q tr u0 (.zero (.lit v)) rfl rfl hi (by rw[gv];rfl) (by omega) hx hr sd.1.1.1 hg sd.1.1.2 sd.1.2 (.zero v _ hz)
  ⟨by simp,by grind,by simp[xU]⟩
 exact this
end
end Go.Ab

namespace Go.Ab
open Go
theorem zN.tr{Γ:Ctx}{E:Env}(d r:Nat)(u:T)(hd:E d=VU (.same r []))(hr:E r=VU u)(ea:zW u)(sd:(u.single&&wZ u&&u.okB [(d,1),(r,1)]&&(d != r))=VW):
  zN Γ E (E.app [(d,VU u),(r,VU (.same d []))] [(d,1),(r,1)]):=by
 simp only[J1]at sd
 rintro a w ⟨S,hS,hs⟩
 have gk:d≠r:=by grind
 have hg:∀t:T,t.get []=VU t:=fun t=>by rfl
 have:=zLc hs d [] r [] (.same r []) u u hd rfl hr (hg u) sd.1.1.1 ea gk (by simp[T.okB,zBg]) sd.1.2 rfl sd.1.1.2;exact⟨S,hS,this⟩
theorem zDN{α:Type}{f:α→T}(hf:∀x,zW (f x)):(xs:List α)→xH (xs.map f)
 | []=>trivial
 |x::xs=>⟨hf x,zDN hf xs⟩
theorem zMr{α:Type}{f:α→T}{k:Nat}{xs:List α}(hf:∀x,zW (f x)):zW (L k f xs):=by simp only[zW,xE];grind[zDN]
theorem zMs(n:Int):zW (I n):=by simp[zW,xE]
theorem zR1(b:Bool):zW (B b):=by simp[zW,xE]
end Go.Ab

namespace Go.Ab
open Go
section
variable {P:Program}{Γ:Ctx}{E:Env}{d:Nat}{x y:Operand}{ty:TypeId}{ps:String}{af:Array Edge}{gd:Option (Nat×Bool)}{m n c:Int}{xt yt:TypeId}
theorem zMt(hv:rng (m-n)=VU c)(hx:opT E x=VU (I m))(hy:opT E y=VU (I n))(sd:J3 d Γ.N=VW):Ok P Γ ⟨VU d,.binOp .sub xt x y yt,ty,ps,af,gd⟩ E (E.app [(d,VU (I c))] [(d,0)]):=by obtain⟨rfl,h⟩:=zCH hv;exact fun _=>tT .sub xt yt x y .i64 m n _ rfl rfl (yF sd) hx hy (by grind[zIC,zCG])
theorem zTf(hv:rng (m*n)=VU c)(hx:opT E x=VU (I m))(hy:opT E y=VU (I n))(sd:J3 d Γ.N=VW):Ok P Γ ⟨VU d,.binOp .mul xt x y yt,ty,ps,af,gd⟩ E (E.app [(d,VU (I c))] [(d,0)]):=by obtain⟨rfl,h⟩:=zCH hv;exact fun _=>tT .mul xt yt x y .i64 m n _ rfl rfl (yF sd) hx hy (by grind[zIC,zCG])
def yQ(m n:Int):Option Int:=if n=0 then VV else rng (m.tdiv n)
def vN(m n:Int):Option Int:=if n=0 then VV else VU (m.tmod n)
theorem zTg(hv:yQ m n=VU c)(hx:opT E x=VU (I m))(hy:opT E y=VU (I n))(sd:J3 d Γ.N=VW):Ok P Γ ⟨VU d,.binOp .quo xt x y yt,ty,ps,af,gd⟩ E (E.app [(d,VU (I c))] [(d,0)]):=by
 unfold yQ at hv;split at hv
 ·cases hv
 ·rename_i h0
  obtain⟨rfl,h⟩:=zCH hv;exact fun _=>tT .quo xt yt x y .i64 m n _ rfl rfl (yF sd) hx hy (by simp only[zIC,h0,if_false,zCG h])
theorem zOQ(hv:vN m n=VU c)(hx:opT E x=VU (I m))(hy:opT E y=VU (I n))(sd:J3 d Γ.N=VW):Ok P Γ ⟨VU d,.binOp .rem xt x y yt,ty,ps,af,gd⟩ E (E.app [(d,VU (I c))] [(d,0)]):=by
 unfold vN at hv;split at hv
 ·cases hv
 ·rename_i h0
  simp at hv;subst hv;exact fun _=>tT .rem xt yt x y .i64 m n _ rfl rfl (yF sd) hx hy (by simp only[zIC,h0,if_false])
theorem zD3(hx:opT E x=VU (I m))(hy:opT E y=VU (I n))(sd:J3 d Γ.N=VW):Ok P Γ ⟨VU d,.binOp .leq xt x y yt,ty,ps,af,gd⟩ E (E.app [(d,VU (B (decide (m≤n))))] [(d,0)]):=
 fun _=>tT .leq xt yt x y .i64 m n _ rfl rfl (yF sd) hx hy rfl
theorem uF(hx:opT E x=VU (I m))(hy:opT E y=VU (I n))(sd:J3 d Γ.N=VW):Ok P Γ ⟨VU d,.binOp .gtr xt x y yt,ty,ps,af,gd⟩ E (E.app [(d,VU (B (decide (m> n))))] [(d,0)]):=
 fun _=>tT .gtr xt yt x y .i64 m n _ rfl rfl (yF sd) hx hy rfl
theorem zTh(hx:opT E x=VU (I m))(hy:opT E y=VU (I n))(sd:J3 d Γ.N=VW):Ok P Γ ⟨VU d,.binOp .geq xt x y yt,ty,ps,af,gd⟩ E (E.app [(d,VU (B (decide (m≥n))))] [(d,0)]):=
 fun _=>tT .geq xt yt x y .i64 m n _ rfl rfl (yF sd) hx hy rfl
theorem zOR(hx:opT E x=VU (I m))(hy:opT E y=VU (I n))(sd:J3 d Γ.N=VW):Ok P Γ ⟨VU d,.binOp .eql xt x y yt,ty,ps,af,gd⟩ E (E.app [(d,VU (B (m==n)))] [(d,0)]):=
 fun _=>tT .eql xt yt x y .i64 m n _ rfl rfl (yF sd) hx hy rfl
theorem zMu(hx:opT E x=VU (I m))(hy:opT E y=VU (I n))(sd:J3 d Γ.N=VW):Ok P Γ ⟨VU d,.binOp .neq xt x y yt,ty,ps,af,gd⟩ E (E.app [(d,VU (B (m != n)))] [(d,0)]):=
 fun _=>tT .neq xt yt x y .i64 m n _ rfl rfl (yF sd) hx hy rfl
theorem zAR{b:Bool}(hx:opT E x=VU (B b))(sd:J3 d Γ.N=VW):Ok P Γ ⟨VU d,.unOp .not xt x,ty,ps,af,gd⟩ E (E.app [(d,VU (B (!b)))] [(d,0)]):=
 fun _=>zTC xt x b rfl rfl (yF sd) hx
theorem zVv(hv:rng (0-n)=VU c)(hx:opT E x=VU (I n))(sd:J3 d Γ.N=VW):Ok P Γ ⟨VU d,.unOp .neg xt x,ty,ps,af,gd⟩ E (E.app [(d,VU (I c))] [(d,0)]):=by
 obtain⟨rfl,h⟩:=zCH hv;have:=fun S=>zTD (P:=P) (Γ:=Γ.at S) (E:=E) (o:=⟨VU d,.unOp .neg xt x,ty,ps,af,gd⟩) xt x .i64 n rfl rfl (yF sd) hx
 rw[zCG h]at this;exact this
end
end Go.Ab

namespace Go.Ab
open Go
section
variable {P:Program}{Γ:Ctx}{E:Env}{d:Nat}{x y:Operand}{ty:TypeId}{ps:String}{af:Array Edge}{gd:Option (Nat×Bool)}
class zIT (P:Program) (t:TypeId) (u:outParam T):Prop where
 h:∃ti z,P.info? t=VU ti∧ti.zero=VU z∧u.zOk=VW∧sG u=z.cells.toList∧z.cells.size=u.size
theorem zMv{t:TypeId}{u:T}(ht:zIT P t u)(sd:J3 d Γ.N=VW):Ok P Γ ⟨VU d,.alloc t,ty,ps,af,gd⟩ E (E.app [(d,VU (.ptr u))] [(d,0)]):=by obtain⟨ti,z,h1,h2,h3,h4,h5⟩:=ht.h;exact fun S=>zO3 t ti z u rfl rfl (yF sd) h1 h2 h3 h4 h5
theorem zOS{s i:Nat}{ts:List T}{t:T}(hs:E s=VU (.tup ts))(hi:ts[i]? =VU t)(sd:(J3 d Γ.N&&t.okTup&&(s != d)&&T.okB [(d,0)] (cpT s t [i]))=VW):
  Ok P Γ ⟨VU d,.extract (.tmp s) i,ty,ps,af,gd⟩ E (E.app [(d,VU (cpT s t [i]))] [(d,0)]):=by
 simp only[J1]at sd;exact fun S=>zKZ s i ts t rfl rfl (yF sd.1.1.1) hs hi (zBJ sd.1.1.2) (by grind) sd.2
theorem zB4{t:T}(hx:opT E x=VU t)(hp:zF5 E x=VW)(sd:mvB Γ x t d=VW):Ok P Γ ⟨VU d,.nilCheck x,ty,ps,af,gd⟩ E (E.app [(d,VU (tV x t))] [(d,0)]):=by simp only[mvB,J1]at sd;exact fun S=>zTE x t rfl rfl (yF sd.1.1.1) hx hp (zBJ sd.1.1.2) (zEw sd.1.2) sd.2
theorem zLg{c:Operand}{b:Bool}{t:T}(hc:opT E c=VU (B b))(hx:opT E (if b then x else y)=VU t)(sd:mvB Γ (if b then x else y) t d=VW):Ok P Γ ⟨VU d,.pick c x y,ty,ps,af,gd⟩ E (E.app [(d,VU (tV (if b then x else y) t))] [(d,0)]):=by simp only[mvB,J1]at sd;exact fun S=>zRq c x y b t rfl rfl (yF sd.1.1.1) hc hx (zBJ sd.1.1.2) (zEw sd.1.2) sd.2
theorem zTi{t:TypeId}{s:Nat}{u:T}(hs:E s=VU u)(hu:zW u)(sd:(J3 d Γ.N&&u.okTup&&(s != d))=VW):
  Ok P Γ ⟨VU d,.box t (.tmp s),ty,ps,af,gd⟩ E (E.app ((d,VU (.ptr u))::pWr d [.slot s u] 0) ((d,0)::qJ [.slot s u])):=by
 simp only[J1]at sd;have gk:s≠d:=by grind
 refine fun S=>zTG t (.tmp s) (.slot s u) rfl rfl (yF sd.1.1) (.slot s u) ⟨by grind,by simp,?_⟩
 simp only[xU]
 grind
end
end Go.Ab

namespace Go.Ab
open Go
def xC{α:Type}(xs ys:List α):Option (List α):=if xs.length+ys.length≤68719476736 then VU (xs++ys)else VV
theorem zFh{α:Type}{xs ys zs:List α}(h:xC xs ys=VU zs):zs=xs++ys∧xs.length+ys.length≤68719476736:=by grind[xC]
section
variable {P:Program}{Γ:Ctx}{E:Env}{d:Nat}{x y:Operand}{ty:TypeId}{ps:String}{af:Array Edge}{gd:Option (Nat×Bool)}
theorem ElT.zsize{t e:TypeId}{ti:TypeInfo}{k:Nat}{u:T}(h:ElT P t e ti k u):∃z,ti.zero=VU z∧z.cells.size=k:=by obtain⟨z,h1,h2⟩:=h.zero;exact⟨z,h1,by rw[←K0,←h2,uH u h.zok,h.us]⟩
theorem zIU{α:Type}{t e:TypeId}{ti:TypeInfo}{k:Nat}{u:T}{f:α→T}{xs ys zs:List α}{s0 s1:Nat}(ht:ElT P t e ti k u)(hv:xC xs ys=VU zs)(h0:E s0=VU (L k f xs))(h1:E s1=VU (L k f ys))(sd:(J3 d Γ.N&&(s0 != d)&&(s1 != d)&&(s1 != s0))=VW):
  Ok P Γ ⟨VU d,.call { callee:=.builtin .append,args:=#[.tmp s0,.tmp s1],argTypes:=#[t,t] },ty,ps,af,gd⟩ E (E.app [(d,VU (L k f zs)),(s0,VU .any),(s1,VU .any)] [(d,0),(s0,1),(s1,1)]):=by
 obtain⟨rfl,hl⟩:=zFh hv;obtain⟨z,hz,fm⟩:=ht.zsize;simp only[J1]at sd;intro S;have:=zIL (P:=P) (Γ:=Γ.at S) (E:=E) (o:=⟨VU d,.call { callee:=.builtin .append,args:=#[.tmp s0,.tmp s1],argTypes:=#[t,t] },ty,ps,af,gd⟩) t e ti z k s0 s1 (xs.map f) (ys.map f) rfl rfl (yF sd.1.1.1) ht.un ht.info hz ht.size ht.pos fm ht.bytes h0 h1
  (by grind) (by grind) (by grind) (by grind)
 rw[←H6]at this;exact this
theorem zHT{α:Type}{f:α→T}(hf:∀x,(f x).flat=VW):(xs:List α)→zAP (xs.map f)=VW
 | []=>rfl
 |x::xs=>by simp only[Jh,zAP,hf x,zHT hf xs,Kr]
theorem zCd{α:Type}{t e:TypeId}{ti:TypeInfo}{k r:Nat}{q:List Nat}{u:T}{f:α→T}{xs ys zs:List α}{s0:Nat}(ht:ElT P t e ti k u)(hf:∀x,(f x).flat=VW)(hv:xC xs ys=VU zs)(h0:E s0=VU (L k f xs))(h1:sD E y=VU (r,q,L k f ys))(sd:(J3 d Γ.N&&(s0 != d))=VW):
  Ok P Γ ⟨VU d,.call { callee:=.builtin .append,args:=#[.tmp s0,y],argTypes:=#[t,t] },ty,ps,af,gd⟩ E (E.app [(d,VU (L k f zs)),(s0,VU .any)] [(d,0),(s0,1)]):=by
 obtain⟨rfl,hl⟩:=zFh hv;obtain⟨z,hz,fm⟩:=ht.zsize;simp only[J1]at sd;intro S;have:=zIM (P:=P) (Γ:=Γ.at S) (E:=E) (o:=⟨VU d,.call { callee:=.builtin .append,args:=#[.tmp s0,y],argTypes:=#[t,t] },ty,ps,af,gd⟩) t e ti z k s0 y r q (xs.map f) (ys.map f) rfl rfl (yF sd.1) ht.un ht.info hz ht.size ht.pos fm ht.bytes h0 h1 (zHT hf ys)
  (by grind) (by grind)
 rw[←H6]at this;exact this
end
end Go.Ab

namespace Go.Ab
open Go
abbrev IK(k:IntKind)(n:Int):T:=.lit (.int k n)
abbrev Str(s:ByteArray):T:=.lit (.string s)
abbrev Pt{α:Type}(f:α→T)(x:α):T:=.ptr (f x)
abbrev Ro{α:Type}(f:α→T)(x:α):T:=.ro (f x)
abbrev A2{α:Type}(f:α→T)(x:α×α):T:=.agg [f x.1,f x.2]
theorem bd{α β:Type}{o:Option α}{f:α→Option β}{r:β}(h:o.bind f=VU r):∃v,o=VU v∧f v=VU r:=by
 cases o with
 |none=>simp at h
 |some v=>grind
theorem cT{α:Type}{b:Bool}{x y:α}{z:α}(hc:b=VW)(h:cond b x y=z):x=z:=by grind
theorem cF{α:Type}{b:Bool}{x y:α}{z:α}(hc:b=VX)(h:cond b x y=z):y=z:=by grind
theorem sI{α:Type}{x y:α}(h:VU x=VU y):x=y:=H8.inj h
section
variable {P:Program}{Γ:Ctx}{pn:kI}{E E':Env}{Q:Exit→Env→Prop}{c:Code}{id id':Nat}
theorem nA(h:CW P Γ pn c E Q):yM P Γ pn c Q .normal E:=h
theorem xA(h:Q (.exit id) E):yM P Γ pn c Q (.exit id) E:=h
theorem rA(h:Q .ret E):yM P Γ pn c Q .ret E:=h
theorem nB(h:Q .normal E):yJ id Q .normal E:=h
theorem rB(h:Q .ret E):yJ id Q .ret E:=h
theorem xB(h:Q .normal E):yJ id Q (.exit id) E:=by simp only[yJ,if_true];exact h
theorem xO(gk:Qc id' id=VX)(h:Q (.exit id') E):yJ id Q (.exit id') E:=by
 have:id'≠id:=fun e=>by simp_all
 simp only[yJ,this,if_false];exact h
theorem neX:Exit.exit id≠.normal:=by simp
theorem neR:Exit.ret≠.normal:=by simp
theorem RW.cases{ops:Array Oper}{os:List Oper}(s:Nat)(b:Bool)(hb:E s=VU (B b))(ht:b=VW→RW P Γ pn ops os (E.app [(s,VU (B VW))] []) Q)(hf:b=VX→RW P Γ pn ops os (E.app [(s,VU (B VX))] []) Q):RW P Γ pn ops os E Q:=by
 have key:∀c:Bool,b=c→zN Γ E (E.app [(s,VU (B c))] []):=by
  rintro c rfl a w hs
  refine hs.weaken fun s' t h=>?_
  by_cases e:s=s'
  ·grind[Env.app,Wr.find]
  ·simp only[Env.app,Wr.find,e,if_false]at h
   grind
 cases hc:b with
 |true=>grind[ghost]
 |false=>grind[ghost]
end
theorem zQ{α:Type}{k:Nat}{f:α→T}{xs:List α}{i:Int}{v:α}{p:List Nat}{u:T}(h:ixO xs i=VU v)(hr:(f v).get p=VU u):(L k f xs).get (i.toNat::p)=VU u:=by simp[T.get,(tW h).2,hr]
theorem wE{t u:T}{p:List Nat}(h:t.get p=VU u):(T.ptr t).get (0::p)=VU u:=h
theorem wF{xs:List T}{x u:T}{j:Nat}{p:List Nat}(hj:xs[j]? =VU x)(h:x.get p=VU u):(T.agg xs).get (j::p)=VU u:=by grind[T.get]
theorem zFi{α:Type}{k:Nat}{f:α→T}{xs:List α}{i:Int}{v w:α}{p:List Nat}{u:T}(h:ixO xs i=VU v)(hr:(f v).set p u=f w):(L k f xs).set (i.toNat::p) u=L k f (xs.set i.toNat w):=by simp[L,T.set,(tW h).2,hr,List.map_set]
theorem zDo{t u t':T}{p:List Nat}(h:t.set p u=t'):(T.ptr t).set (0::p) u=T.ptr t':=by simp[T.set,h]
class Enc {α:Type} (f:α→T):Prop where
 clean:∀x,zW (f x)
 rofree:∀x,uM (f x)=VW
 strip:∀x,strip (f x)=f x
 okTup:∀x,(f x).okTup=VW
 rook:∀x,zFa (f x)=VW
theorem zGF{α:Type}{f:α→T}(h:∀x,uM (f x)=VW):(xs:List α)→tF (xs.map f)=VW
 | []=>rfl
 |x::xs=>by simp only[Jh,tF,h x,zGF h xs,Kr]
theorem zGG{α:Type}{f:α→T}(h:∀x,zFa (f x)=VW):(xs:List α)→zBF (xs.map f)=VW
 | []=>rfl
 |x::xs=>by simp only[Jh,zBF,h x,zGG h xs,Kr]
theorem qT{α:Type}{f g:α→T}(h:∀x,strip (f x)=g x):(xs:List α)→tQ (xs.map f)=xs.map g
 | []=>rfl
 |x::xs=>by simp only[Jh,tQ,h x,qT h xs]
instance:Enc I:=⟨zMs,fun _=>rfl,fun _=>rfl,fun _=>rfl,fun _=>rfl⟩
instance:Enc B:=⟨zR1,fun _=>rfl,fun _=>rfl,fun _=>rfl,fun _=>rfl⟩
instance{k:IntKind}:Enc (IK k):=⟨fun _=>by simp[zW,xE],fun _=>rfl,fun _=>rfl,fun _=>rfl,fun _=>rfl⟩
instance:Enc Str:=⟨fun _=>by simp[zW,xE],fun _=>rfl,fun _=>rfl,fun _=>rfl,fun _=>rfl⟩
instance{α:Type}{k:Nat}{f:α→T}[h:Enc f]:Enc (L k f):=
 ⟨fun _=>zMr h.clean,fun xs=>by simp only[uM];exact zGF h.rofree xs,fun xs=>by simp only[L,strip,qT h.strip xs],fun _=>rfl,fun xs=>by simp only[zFa,zGG h.rook xs]⟩
instance{α:Type}{f:α→T}[h:Enc f]:Enc (A2 f):=
 ⟨fun x=>by simp only[zW,xE,xZ];exact⟨h.clean _,h.clean _,trivial⟩,fun x=>by simp only[uM,tF,h.rofree,Kr],fun x=>by simp only[A2,strip,tQ,h.strip],
  fun x=>by simp only[T.okTup,yN,h.okTup,Kr],fun x=>by simp only[zFa,zBF,h.rook,Kr]⟩
instance{α:Type}{f:α→T}[h:Enc f]:Enc (Pt f):=
 ⟨fun x=>by simp only[zW,xE];exact h.clean x,fun x=>by simp only[uM,h.rofree],fun x=>by simp only[Pt,strip,h.strip],fun _=>rfl,fun x=>by simp only[zFa,h.rook]⟩
class tM {α:Type} (f g:α→T):Prop where
 h:∀x,strip (f x)=g x
instance{α:Type}{f:α→T}[h:Enc f]:tM f f:=⟨h.strip⟩
instance{α:Type}{k:Nat}{f g:α→T}[h:tM f g]:tM (L k f) (L k g):=⟨fun xs=>by simp only[L,strip,qT h.h xs]⟩
instance{α:Type}{k:Nat}{g:α→T}:tM (Ro (L k g)) (L k g):=⟨fun _=>rfl⟩
instance{α:Type}{g:α→T}:tM (Ro (Pt g)) (Pt g):=⟨fun _=>rfl⟩
theorem stA{xs ys:List T}(h:tQ xs=ys):strip (.agg xs)=.agg ys:=by grind[strip]
section
variable {E:Env}{rw:Rw}{i s r:Nat}{q:List Nat}{x:Operand}
theorem zDO{α:Type}{k:Nat}{f g:α→T}{xs:List α}(h:tM f g):clo E (L k f xs)=.ro (L k g xs):=by simp only[clo,L,strip,qT h.h xs]
theorem zTI{t u:T}(h:strip t=u):clo E (.ptr t)=.ro (.ptr u):=by grind[clo,strip]
theorem zHU{tr u:T}(hr:E r=VU tr)(hg:tr.get q.reverse=VU u)(h4:zBx u=VW):jZ E 4 r q=VU (r,q,u):=by grind[zBx,jZ]
theorem wX{α:Type}{k:Nat}{f g:α→T}{xs:List α}{tr:T}(hr:E r=VU tr)(hg:tr.get q.reverse=VU (L k f xs))(h:tM f g):clo E (.same r q)=.ro (L k g xs):=by simp only[clo,zHU hr hg rfl,T.single,if_true,L,strip,qT h.h xs]
theorem zTJ{α:Type}{k l h:Nat}{f g:α→T}{xs:List α}{tr:T}(hr:E r=VU tr)(hg:tr.get q.reverse=VU (L k f xs))(hs:tM f g)(h1:l≤h)(h2:h≤xs.length):clo E (.sub r q k l h)=.ro (L k g ((xs.drop l).take (h-l))):=by simp only[clo,zHU hr hg rfl,L,qT hs.h xs,Jn,h1,h2,and_self,if_true,Q6,Hw]
theorem vV{xs ys:List T}(h:zCa E xs=ys):clo E (.agg xs)=.agg ys:=by grind[clo]
theorem vW:zCa E []=[]:=rfl
theorem yA{x y:T}{xs ys:List T}(h:clo E x=y)(h2:zCa E xs=ys):zCa E (x::xs)=y::ys:=by grind[zCa]
mutual
theorem zHV(s:Nat):(t:T)→t.okTup=VW→jQ E [] s t=VW
 |.agg xs,h=>by simp only[jQ,T.okTup]at h ⊢;exact zGH s xs h
 |.tup _,h=>by grind[T.okTup]
 |.same r q,_|.sub r q _ _ _,_=>by grind[jQ]
 |.sl _ _,_|.ptr _,_|.mp _ _,_=>by rfl
 |.lit _,_|.ro _,_|.any,_|.addr _ _,_=>by rfl
theorem zGH(s:Nat):(xs:List T)→yN xs=VW→zBk E [] s xs=VW
 | [],_=>rfl
 |x::xs,h=>by simp only[yN,J1]at h;simp only[zBk,zHV s x h.1,zGH s xs h.2,Kr]
end
theorem agC{u:T}(t:T)(h:opT E x=VU t)(h1:clo E t=u)(h2:t.okTup=VW):zCt E [] i x u:=.inr ⟨t,h,h1,by
 cases x with
 |tmp s=>exact zHV s t h2
 |_=>rfl⟩
end
section
variable {P:Program}{Γ:Ctx}{E:Env}{d:Nat}{x y:Operand}{ty:TypeId}{ps:String}{af:Array Edge}{gd:Option (Nat×Bool)}
abbrev zCu(res:List T):Prop:=xH res∧yN res=VW∧tF res=VW
theorem zY:zCu []:=⟨trivial,rfl,rfl⟩
theorem yI{α:Type}{f:α→T}{x:α}{ts:List T}(h:Enc f)(h2:zCu ts):zCu (f x::ts):=
 ⟨⟨h.clean x,h2.1⟩,by simp only[yN,h.okTup,h2.2.1,Kr],by simp only[tF,h.rofree,h2.2.2,Kr]⟩
abbrev zAI(P:Program)(f:FuncId):Prop:=∀args w,(callFunc f args).run P w=.ok (.enter f args) w
theorem vU{f:FuncId}{xs:List Operand}{ats:Array TypeId}{us res:List T}(gr:zAI P f)(hc:FnC P f us res [])(gn:vX E [] 0 xs us)(gu:zCu res)(sd:J3 d Γ.N=VW):
  Ok P Γ ⟨VU d,.call { callee:=.value (.func f),args:=xs.toArray,argTypes:=ats },ty,ps,af,gd⟩ E (E.app (cWr d res []) (uO d [])):=
 fun _S=>zMp f (.func f) xs ats us res [] rfl rfl (yF sd) gr rfl hc gn .nil gu
theorem zR2{f:FuncId}{xs:List Operand}{ats:Array TypeId}{us res:List T}(gr:zAI P f)(hc:FnC P f us res [])(gm:xs.length=us.length)(gn:∀(i:Nat) u,us[i]? =VU u→ ∃x,xs[i]? =VU x∧opT E x=VU u∧u.flat=VW)(gu:xH res∧yN res=VW)(sd:J3 d Γ.N=VW):
  Ok P Γ ⟨VU d,.call { callee:=.value (.func f),args:=xs.toArray,argTypes:=ats },ty,ps,af,gd⟩ E (E.app (cWr d res []) (uO d [])):=
 fun _S=>zOG f (.func f) xs ats us res rfl rfl (yF sd) gr rfl hc gm gn gu
class zAY (P:Program) (S:TypeId) (j:Nat) (off:outParam Nat):Prop where
 h:∃fs f fi,P.underlying S=VU (.struct fs)∧fs[j]? =VU f∧P.info? f.type=VU fi∧fi.size≠0∧off=f.offset
theorem zTK{S:TypeId}{j off r:Nat}{q:List Nat}{xs:List T}{u:T}(ht:zAY P S j off)(hx:sD E x=VU (r,q,.ptr (.agg xs)))(hu:xs[j]? =VU u)(gD:T.sizes (xs.take j)=off)(sd:J3 d Γ.N=VW):
  Ok P Γ ⟨VU d,.fieldAddr S x j,ty,ps,af,gd⟩ E (E.app [(d,VU (.addr r (j::0::q)))] [(d,0)]):=by
 obtain⟨fs,f,fi,h1,h2,h3,h4,h5⟩:=ht.h;exact fun _=>zVn x S fs f fi j r q xs u rfl rfl (yF sd) h1 h2 h3 h4 hx hu (by omega)
theorem zVw{S:TypeId}{j off r:Nat}{q:List Nat}{t:T}{xs:List T}{u:T}(ht:zAY P S j off)(hx:opT E x=VU (.addr r q))(hr:E r=VU t)(hg:t.get q.reverse=VU (.agg xs))(hu:xs[j]? =VU u)(gD:T.sizes (xs.take j)=off)(sd:(J3 d Γ.N&&t.locd q.reverse)=VW):
  Ok P Γ ⟨VU d,.fieldAddr S x j,ty,ps,af,gd⟩ E (E.app [(d,VU (.addr r (j::q)))] [(d,0)]):=by
 obtain⟨fs,f,fi,h1,h2,h3,h4,h5⟩:=ht.h;simp only[J1]at sd;exact fun _=>zKW x S fs f fi j r q t xs u rfl rfl (yF sd.1) h1 h2 h3 h4 hx hr hg sd.2 hu (by omega)
theorem zMw{S:TypeId}{j off:Nat}{xs:List T}{u:T}(ht:zAY P S j off)(hx:opT E x=VU (.ro (.ptr (.agg xs))))(hu:xs[j]? =VU u)(gD:T.sizes (xs.take j)=off)(sd:J3 d Γ.N=VW):
  Ok P Γ ⟨VU d,.fieldAddr S x j,ty,ps,af,gd⟩ E (E.app [(d,VU (.ro (.ptr u)))] [(d,0)]):=by
 obtain⟨fs,f,fi,h1,h2,h3,h4,h5⟩:=ht.h;exact fun _=>zOv x S fs f fi j xs u rfl rfl (yF sd) h1 h2 h3 h4 hx hu (by omega)
def yG{α:Type}(xs:List α)(l h:Int):Option (List α):=if 0≤l∧l≤h∧h≤(xs.length:Int)then VU ((xs.drop l.toNat).take (h.toNat-l.toNat))else VV
theorem zVx{α:Type}{t e:TypeId}{ti:TypeInfo}{r k:Nat}{q:List Nat}{f:α→T}{xs ys:List α}{lo hi:Option Operand}{l h:Int}(ht:zBK P t e ti k)(hv:yG xs l h=VU ys)(hx:sD E x=VU (r,q,.ro (L k f xs)))(ev:zBX E lo 0 l.toNat)(fd:zBX E hi xs.length h.toNat)(sd:J3 d Γ.N=VW):
  Ok P Γ ⟨VU d,.slice t x lo hi VV,ty,ps,af,gd⟩ E (E.app [(d,VU (.ro (L k f ys)))] [(d,0)]):=by
 unfold yG at hv;split at hv
 ·rename_i hc
  simp at hv;subst hv;intro S;have:=zJy (P:=P) (Γ:=Γ.at S) (E:=E) (o:=⟨VU d,.slice t x lo hi VV,ty,ps,af,gd⟩) x lo hi t e ti r q k (xs.map f) l.toNat h.toNat rfl rfl (yF sd) ht.un ht.info ht.size hx ev (by grind) (by omega) (by simp;omega);simpa[L,Q6,Hw]using this
 ·cases hv
theorem zOT{α:Type}{t e:TypeId}{ti:TypeInfo}{r k:Nat}{q:List Nat}{f:α→T}{xs ys:List α}{lo hi:Option Operand}{l h:Int}(ht:zBK P t e ti k)(hv:yG xs l h=VU ys)(hx:sD E x=VU (r,q,L k f xs))(ev:zBX E lo 0 l.toNat)(fd:zBX E hi xs.length h.toNat)(sd:(J3 d Γ.N&&(r != d))=VW):
  Ok P Γ ⟨VU d,.slice t x lo hi VV,ty,ps,af,gd⟩ E (E.app [(d,VU (.sub r q k l.toNat h.toNat))] [(d,0)]):=by
 unfold yG at hv;simp only[J1]at sd;split at hv
 ·rename_i hc
  intro S;exact zIE (P:=P) (Γ:=Γ.at S) (E:=E) (o:=⟨VU d,.slice t x lo hi VV,ty,ps,af,gd⟩) x lo hi t e ti r q k (xs.map f) l.toNat h.toNat rfl rfl (yF sd.1) ht.un ht.info ht.size hx ev (by grind) (by omega) (by simp;omega) (by grind)
 ·cases hv
end
end Go.Ab

namespace Go.Ab
open Go
theorem zC{t:T}(h:zW t):zW t:=h
theorem zE{α:Type}{f:α→T}{k:Nat}{xs:List α}(hf:∀x,zW (f x)):zW (L k f xs):=zMr hf
theorem zOU{t:T}(h:zW t):zW (.ptr t):=by simpa only[zW,xE]using h
theorem vC{xs:List T}(h:xH xs):zW (.agg xs):=by simpa only[zW,xE]using h
section
variable {P:Program}{Γ:Ctx}{pn:kI}{E E':Env}{Q:Exit→Env→Prop}{c c1 c2:Code}{x:Operand}
theorem CW.condT(hx:opT E x=VU (B VW))(h:CW P Γ pn c1 E Q):CW P Γ pn (.cond x c1 c2) E Q:=by grind[CW.cond]
theorem CW.condF(hx:opT E x=VU (B VX))(h:CW P Γ pn c2 E Q):CW P Γ pn (.cond x c1 c2) E Q:=by grind[CW.cond]
theorem CW.casesB(b:Bool)(ht:b=VW→CW P Γ pn c E Q)(hf:b=VX→CW P Γ pn c E Q):CW P Γ pn c E Q:=by grind
theorem zOV{wr:Wr}{chg:Chg}{s:Nat}{t:T}(h:E s=VU t)(hf:wr.find s=VV:=by rfl)(hb:t.okB chg=VW:=by rfl):E.app wr chg s=VU t:=by grind[Env.app]
theorem zV.gh{ops:Array Oper}{o:Oper}{E1:Env}(hg:zN Γ E E1)(h:zV P Γ ops o E1 E'):zV P Γ ops o E E':=fun a w K Q hs hK=>h a w K Q (hg a w hs) hK
theorem zEx{t:T}(h:opT E x=VU (.ro (.ptr t))):zF5 E x=VW:=by simp[zF5,h]
theorem zFj{r:Nat}{q:List Nat}{t:T}(h:sD E x=VU (r,q,.ptr t)):zF5 E x=VW:=by grind[zF5]
end
theorem zVy{E:Env}{n:Nat}:zBX E VV n (n:Int).toNat:=by simp[zBX]
theorem zVz{E:Env}:zBX E VV 0 (0:Int).toNat:=by simp[zBX]
theorem zTL{E:Env}{x:Operand}{n:Int}{d:Nat}(h0:0≤n)(h:opT E x=VU (I n)):zBX E (VU x) d n.toNat:=⟨.i64,by grind⟩
theorem qL{α:Type}{xs ys:List α}{l h:Int}(hv:yG xs l h=VU ys):0≤l∧l≤h∧h≤xs.length∧ys=(xs.drop l.toNat).take (h.toNat-l.toNat):=by grind[yG]
theorem zHW{α:Type}{xs ys:List α}{l h:Int}(hv:yG xs l h=VU ys):0≤l:=(qL hv).1
theorem zHX{α:Type}{xs ys:List α}{l h:Int}(hv:yG xs l h=VU ys):0≤h:=by have:=qL hv;omega
theorem zR3{E:Env}{r k:Nat}{q:List Nat}{α:Type}{l h:Int}{f g:α→T}{xs ys:List α}{tr:T}(hr:E r=VU tr)(hg:tr.get q.reverse=VU (L k f xs))(hs:tM f g)(hv:yG xs l h=VU ys):
  clo E (.sub r q k l.toNat h.toNat)=.ro (L k g ys):=by
 obtain⟨h1,h2,h3,rfl⟩:=qL hv
 grind[zTJ]
section
variable {P:Program}{Γ:Ctx}{E E':Env}{d:Nat}{x y:Operand}{ty:TypeId}{ps:String}{af:Array Edge}{gd:Option (Nat×Bool)}
theorem xD{o:Oper}{e b:Bool}{d:Nat}{wr:Wr}{chg:Chg}(he:e=b)(h:Ok P Γ o E (E.app ((d,VU (B e))::wr) chg)):Ok P Γ o E (E.app ((d,VU (B b))::wr) chg):=he▸h
theorem zV0{t:TypeId}{u tr t0:T}{r:Nat}{q:List Nat}(ht:zOP P t u)(hx:sD E x=VU (r,q,.ptr t0))(hr:E r=VU tr)(hg:tr.get (0::q).reverse=VU u)(sd:(J3 d Γ.N&&tr.locd (0::q).reverse&&(r != d)&&T.okB [(d,0)] (cpT r u (0::q)))=VW):
  Ok P Γ ⟨VU d,.load t x,ty,ps,af,gd⟩ E (E.app [(d,VU (cpT r u (0::q)))] [(d,0)]):=by
 obtain⟨ds,ti,h1,h2,h3,h4⟩:=ht.h;simp only[J1]at sd;exact fun S=>zJv x t ds ti r (0::q) tr u rfl rfl (yF sd.1.1.1) h1 h2 h3 h4 (zBu.ptr hx) hr hg sd.1.1.2 (by grind) sd.2
theorem zTj{t:TypeId}{ti:TypeInfo}{r s:Nat}{q:List Nat}{tr tr' u0 u:T}(hi:P.info? t=VU ti)(gv:(ti.size==u.size&&J3 0 ti.size)=VW)(hx:∀S,zBu (Γ.at S) E x r q)(hr:E r=VU tr)(hg:tr.get q.reverse=VU u0)(gz:tr.set q.reverse u=tr')(hy:E s=VU u)(hu:zW u)
  (sd:(tr.single&&tr.locd q.reverse&&uU u u0&&(r != s)&&u.okTup)=VW):Ok P Γ ⟨VV,.store t x (.tmp s),ty,ps,af,gd⟩ E (E.app ((r,VU tr')::sWr r q (.slot s u)) ((r,q.length)::qJ [.slot s u])):=by
 simp only[J1]at sd gv;subst gz;intro S;refine zEZ (P:=P) (Γ:=Γ.at S) (E:=E) (o:=⟨VV,.store t x (.tmp s),ty,ps,af,gd⟩) t ti x (.tmp s) r q tr u0 (.slot s u) rfl rfl hi (by grind[yR.tree]) (yF gv.2) (hx S) hr sd.1.1.1.1 hg sd.1.1.1.2 sd.1.1.2 (.slot s _)
  ⟨by grind,by simp,?_⟩
 grind[xU]
theorem zR4{t:TypeId}{ti:TypeInfo}{r s:Nat}{q:List Nat}{tr tr' u0 u:T}(hi:P.info? t=VU ti)(gv:(ti.size==u.size&&J3 0 ti.size)=VW)(hx:opT E x=VU (.addr r q))(hr:E r=VU tr)(hg:tr.get q.reverse=VU u0)(gz:tr.set q.reverse u=tr')(hy:E s=VU u)(hu:zW u)
  (sd:(tr.single&&tr.locd q.reverse&&uU u u0&&(r != s)&&u.okTup)=VW):Ok P Γ ⟨VV,.store t x (.tmp s),ty,ps,af,gd⟩ E (E.app ((r,VU tr')::sWr r q (.slot s u)) ((r,q.length)::qJ [.slot s u])):=
 zTj hi gv (fun _=>zBu.addr hx) hr hg gz hy hu sd
theorem zHY{t:TypeId}{ti:TypeInfo}{r s:Nat}{q:List Nat}{tr tr' u0 u t0:T}(hi:P.info? t=VU ti)(gv:(ti.size==u.size&&J3 0 ti.size)=VW)(hx:sD E x=VU (r,q,.ptr t0))(hr:E r=VU tr)(hg:tr.get (0::q).reverse=VU u0)(gz:tr.set (0::q).reverse u=tr')(hy:E s=VU u)(hu:zW u)
  (sd:(tr.single&&tr.locd (0::q).reverse&&uU u u0&&(r != s)&&u.okTup)=VW):Ok P Γ ⟨VV,.store t x (.tmp s),ty,ps,af,gd⟩ E (E.app ((r,VU tr')::sWr r (0::q) (.slot s u)) ((r,(0::q).length)::qJ [.slot s u])):=
 zTj hi gv (fun _=>zBu.ptr hx) hr hg gz hy hu sd
theorem zTM{t:TypeId}{ti:TypeInfo}{r:Nat}{q:List Nat}{tr tr' u0 u:T}{v:Value}(hi:P.info? t=VU ti)(gv:(ti.size==u.size&&J3 0 ti.size)=VW)(hx:∀S,zBu (Γ.at S) E x r q)(hr:E r=VU tr)(hg:tr.get q.reverse=VU u0)(gz:tr.set q.reverse u=tr')
  (sd:(tr.single&&tr.locd q.reverse&&uU u u0&&u.zOk)=VW)(hz:sG u=v.cells.toList):Ok P Γ ⟨VV,.store t x (.const v),ty,ps,af,gd⟩ E (E.app [(r,VU tr')] [(r,q.length)]):=by
 simp only[J1]at sd gv;subst gz;intro S;have:=zEZ (P:=P) (Γ:=Γ.at S) (E:=E) (o:=⟨VV,.store t x (.const v),ty,ps,af,gd⟩) t ti x (.const v) r q tr u0 (.zero u) rfl rfl hi (by grind[yR.tree]) (yF gv.2) (hx S) hr sd.1.1.1 hg sd.1.1.2 sd.1.2 (.zero v _ hz)
  ⟨by simp,by grind,by simp[xU]⟩
 exact this
theorem zTN{t:TypeId}{ti:TypeInfo}{r:Nat}{q:List Nat}{tr tr' u0 u:T}{v:Value}(hi:P.info? t=VU ti)(gv:(ti.size==u.size&&J3 0 ti.size)=VW)(hx:opT E x=VU (.addr r q))(hr:E r=VU tr)(hg:tr.get q.reverse=VU u0)(gz:tr.set q.reverse u=tr')
  (sd:(tr.single&&tr.locd q.reverse&&uU u u0&&u.zOk)=VW)(hz:sG u=v.cells.toList):Ok P Γ ⟨VV,.store t x (.const v),ty,ps,af,gd⟩ E (E.app [(r,VU tr')] [(r,q.length)]):=
 by grind[zTM,zBu.addr]
theorem zGI{G:Gh}{s:Nat}:(xs:List T)→yN xs=VW→ ∀(p:List Nat)(i j:Nat)(u:T),xs[j]? =VU u→ ∃l1 l2,yD G s xs p i=l1++vals G s u ((i+j)::p)++l2∧l1.length=T.sizes (xs.take j)
 | [],_,_,_,_,_,h=>by simp at h
 |x::xs,ht,p,i,j,u,h=>by
  simp only[yN,J1]at ht;cases j with
  |zero=>simp at h;subst h;exact⟨[],yD G s xs p (i+1),by rfl,by rfl⟩
  |succ j=>
   obtain⟨l1,l2,h1,h2⟩:=zGI xs ht.2 p (i+1) j u (by grind);refine⟨vals G s x (i::p)++l1,l2,by rw[yD,h1,show i+(j+1)=i+1+j from by omega];simp,?_⟩;rw[Ji,uA x _ (by rintro ys rfl;grind[T.okTup]),h2,Kw,T.sizes]
theorem zOW{S:TypeId}{j off s:Nat}{xs:List T}{u:T}(ht:zAY P S j off)(hv:∃ds ti fs f,P.underlying S=VU (.struct fs)∧fs[j]? =VU f∧P.underlying f.type=VU ds∧P.info? f.type=VU ti∧zEU ds= !u.single∧ti.size=u.size)(hx:E s=VU (.agg xs))(hu:xs[j]? =VU u)(gD:T.sizes (xs.take j)=off)
  (sd:(J3 d Γ.N&&yN xs&&u.okTup&&(s != d)&&T.okB [(d,0)] (cpT s u [j]))=VW):
  Ok P Γ ⟨VU d,.field S (.tmp s) j,ty,ps,af,gd⟩ E (E.app [(d,VU (cpT s u [j]))] [(d,0)]):=by
 obtain⟨fs,f,fi,h1,h2,h3,h4,h5⟩:=ht.h;obtain⟨ds,ti,fs',f',g1,g2,g3,g4,g5,g6⟩:=hv;simp only[J1]at sd;rw[h1]at g1;simp at g1;subst g1;rw[h2]at g2;simp at g2;subst g2;rw[h3]at g4;simp at g4;subst g4;intro S';refine wP.value rfl fun a w G gc=>?_
 obtain⟨k1,k2,_⟩:=gc.ent s _ hx;simp only[R]at k2;have k3:=zB1 xs [] 0 j u k2 hu;simp only[J6]at k3;have gk:s≠d:=by grind
 have gV:∀ys,u≠.tup ys:=zBJ sd.1.1.2;have hk:=G.put_keep (w:=w) (w':=w) rfl d (fun z=>G.hd s (z++[j]));have hz:∀z,(G.put d (fun z=>G.hd s (z++[j]))).hd d (z++[])=G.hd s (z++[j]):=by grind[Gh.put_self]
 refine⟨qH G s u [j],w,?_,_,uG gc rfl (yF sd.1.1.1.1) (fun z=>G.hd s (z++[j])) (fun z=>gc.mem.one _ _) _ _ (by grind[zBh])
  (zDD (fun p=>G.put_other _ p gk) u [j] [] hz gV (hk.keepR (by grind[zBs,jS])) k3) (jS s u [j])⟩
 obtain⟨l1,l2,e1,e2⟩:=zGI (G:=G) (s:=s) xs sd.1.1.1.2 [] 0 j u hu;simp only[J6]at e1;have e3:l1.length=f.offset:=by omega
 have e4:=uA (G:=G) (s:=s) u [j] gV;have df:(part f.type (yD G s xs [] 0).toArray f.offset).run P w=.ok (qH G s u [j]) w:=by
  rw[e1];cases u with
  |agg ys=>
   simp[T.single]at g5;simp only[vals,T.size]at e4 g6 ⊢
   simp[part,zAi g3,g5,sizeOf,typeInfo,h3,qH]
   grind
  |tup ys=>grind
  |_=>
   simp[T.single]at g5;simp[part,zAi g3,g5,qH,vals,←e3]
 simp[execOp,wL k1,mkV,Instr.field,run_underlying h1,h2,asAgg,df]
theorem zIV{α:Type}{t e:TypeId}{ti:TypeInfo}{k:Nat}{u:T}{n:Nat}{a:Int}{f:α→T}{z:α}(ht:ElT P t e ti k u)(hz:f z=u)(hn:yW a=VU n)(hx:opT E x=VU (I a))(hy:opT E y=VU (I a))(sd:J3 d Γ.N=VW):
  Ok P Γ ⟨VU d,.makeSlice t x y,ty,ps,af,gd⟩ E (E.app [(d,VU (L k f (J2 n z)))] [(d,0)]):=by
 have:=zTH (P:=P) (Γ:=Γ) (E:=E) (d:=d) (ty:=ty) (ps:=ps) (af:=af) (gd:=gd) ht hn hx hn hy (Jf _) sd;rw[←hz]at this;simpa[L]using this
theorem zGJ{t e:TypeId}{ti:TypeInfo}{k:Nat}{u:T}(ht:ElT P t e ti k u)(sd:J3 d Γ.N=VW):Ok P Γ ⟨VU d,.buildSlice t 0 #[],ty,ps,af,gd⟩ E (E.app [(d,VU (.sl k []))] [(d,0)]):=
 fun _=>zGs t e ti k rfl rfl (yF sd) ht.un ht.info
theorem zJL(t:TypeId)(x y:Value):Op.equal t x y=Op.equalIn (9999+1) t x y:=rfl
theorem zFX{P:Program}{w:World}{t:TypeId}{k:IntKind}{a b:Int}(n:Nat)(h:P.underlying t=VU (.int k)):(Op.equalIn (n+1) t (.int k a) (.int k b)).run P w=.ok (a==b) w:=by simp only[Op.equalIn,Sem.run_bind,run_underlying h];simp
end
end Go.Ab

namespace Go.Ab
open Go
def zCe:List Nat→Bool
 | []=>VW
 |x::xs=> !xs.contains x&&zCe xs
theorem zFk:{l:List Nat}→zCe l=VW→l.Nodup
 | [],_=>by simp
 |x::xs,h=>by simp only[zCe,J1,Hc,Ld,decide_eq_false_iff_not]at h;exact Kk.2 ⟨h.1,zFk h.2⟩
def zCf(E:Env):List yR→Prop
 | []=>True
 |.slot s t::l=>(E s=VU t∧zW t∧t.okTup=VW)∧zCf E l
 |.zero u::l=>u.zOk=VW∧zCf E l
theorem zCf.get{E:Env}:(l:List yR)→zCf E l→(∀s t,yR.slot s t∈l→E s=VU t∧zW t∧t.okTup=VW)∧ ∀u,yR.zero u∈l→u.zOk=VW
 | [],_=>⟨fun _ _ h=>by simp at h,fun _ h=>by simp at h⟩
 |.slot s t::l,h=>by
  obtain⟨h1,h2⟩:=zCf.get l h.2;exact⟨fun s' t' hm=>by
   rcases Jj.1 hm with e|hm
   ·cases e;exact h.1
   ·exact h1 s' t' hm,fun u hm=>by
   rcases Jj.1 hm with e|hm
   ·cases e
   ·exact h2 u hm⟩
 |.zero u::l,h=>by
  obtain⟨h1,h2⟩:=zCf.get l h.2;exact⟨fun s' t' hm=>by
   rcases Jj.1 hm with e|hm
   ·cases e
   ·exact h1 s' t' hm,fun u' hm=>by
   rcases Jj.1 hm with e|hm
   ·cases e;exact h.1
   ·exact h2 u' hm⟩
section
variable {E:Env}
theorem pkN:zCf E []:=trivial
theorem pkS{s:Nat}{t:T}{l:List yR}(h:E s=VU t)(hc:zW t)(h3:t.okTup=VW)(hl:zCf E l):zCf E (.slot s t::l):=⟨⟨h,hc,h3⟩,hl⟩
theorem pkZ{u:T}{l:List yR}(h:u.zOk=VW)(hl:zCf E l):zCf E (.zero u::l):=⟨h,hl⟩
theorem zCf.parts{d:Nat}{l:List yR}(h:zCf E l)(hn:zCe (d::xU l)=VW):sJ E d l:=⟨(zCf.get l h).1,(zCf.get l h).2,zFk hn⟩
def zCz(E:Env)(zs:List T)(ps:List yR):List (Nat×Operand)→List (Nat×yR)→Prop
 | [],[]=>True
 |x::xs,q::qs=>(x.1=q.1∧zAH E x.2 q.2∧ps[q.1]? =VU q.2∧ ∃u,zs[q.1]? =VU u∧u.size=q.2.tree.size)∧zCz E zs ps xs qs
 |_,_=>False
theorem bqN{zs:List T}{ps:List yR}:zCz E zs ps [] []:=trivial
theorem bqC{zs:List T}{ps:List yR}{i:Nat}{x:Operand}{q:yR}{xs:List (Nat×Operand)}{qs:List (Nat×yR)}(h:zAH E x q)(hl:zCz E zs ps xs qs)(h1:ps[i]? =VU q:=by rfl)(h2:∃u,zs[i]? =VU u∧u.size=q.tree.size:=by exact⟨_,rfl,rfl⟩):zCz E zs ps ((i,x)::xs) ((i,q)::qs):=⟨⟨rfl,h,h1,h2⟩,hl⟩
theorem zCz.ix{zs:List T}{ps:List yR}:(pl:List (Nat×Operand))→(qs:List (Nat×yR))→zCz E zs ps pl qs→pl.map (·.1)=qs.map (·.1)
 | [],[],_=>rfl
 |x::xs,q::qs,h=>by simp[h.1.1,zCz.ix xs qs h.2]
 | [],_::_,h=>by simp[zCz]at h
 |_::_,[],h=>by simp[zCz]at h
theorem zCz.get{zs:List T}{ps:List yR}:(pl:List (Nat×Operand))→(qs:List (Nat×yR))→zCz E zs ps pl qs→ ∀(j:Nat)(x:Nat×Operand)(q:Nat×yR),pl[j]? =VU x→qs[j]? =VU q→zAH E x.2 q.2∧q.2∈ps∧ ∃u,zs[q.1]? =VU u∧u.size=q.2.tree.size
 | [],[],_,j,_,_,h,_=>by simp at h
 |x::xs,q::qs,h,j,x',q',h1,h2=>by
  cases j with
  |zero=>simp at h1 h2;subst h1;subst h2;exact⟨h.1.2.1,Ky h.1.2.2.1,h.1.2.2.2⟩
  |succ j=>exact zCz.get xs qs h.2 j x' q' (by simpa using h1) (by simpa using h2)
 | [],_::_,h,_,_,_,_,_=>by simp[zCz]at h
 |_::_,[],h,_,_,_,_,_=>by simp[zCz]at h
end
class zNz (P:Program) (t:TypeId) (zs:outParam (List T)):Prop where
 h:∃(place:Nat→Option (Nat×Nat))(z:Value),(∀parts,P.built t parts=Instr.fill place z.cells parts)∧jN zs=z.cells.toList∧zAW zs=VW∧ ∀i u,zs[i]? =VU u→place i=VU (T.sizes (zs.take i),u.size)
section
variable {P:Program}{Γ:Ctx}{E E':Env}{d:Nat}{x y:Operand}{ty:TypeId}{ps:String}{af:Array Edge}{gd:Option (Nat×Bool)}
theorem zMx{t:TypeId}{zs:List T}{pa:Array (Nat×Operand)}(hb:zNz P t zs)(pl:List (Nat×Operand))(qs:List (Nat×yR))(pp:List yR)(gM:zCf E pp)(hq:zCz E zs pp pl qs)(sd:(J3 d Γ.N&&zCe (d::xU pp))=VW)
  (fx:pa=pl.toArray:=by rfl)(gR:qs.foldl (fun ps q=>ps.set q.1 q.2) (zs.map yR.zero)=pp:=by rfl):Ok P Γ ⟨VU d,.build t pa,ty,ps,af,gd⟩ E (E.app ((d,VU (.agg (pp.map yR.tree)))::pWr d pp 0) ((d,0)::qJ pp)):=by
 obtain⟨place,z,h1,h2,h3,h4⟩:=hb.h;simp only[J1]at sd;subst fx;exact fun S=>zO4 t place z zs pl qs pp rfl rfl (yF sd.1) h1 h2 h3 h4 gR (gM.parts sd.2) (zCz.ix _ _ hq) (zCz.get _ _ hq)
def zJM(k:Nat):List yR→Bool
 | []=>VW
 |p::l=>(p.tree.size==k)&&zJM k l
theorem zJN{k:Nat}:(l:List yR)→zJM k l=VW→ ∀p∈l,p.tree.size=k
 | [],_,_,h=>by simp at h
 |p::l,h,q,hm=>by
  simp only[zJM,J1,beq_iff_eq]at h;rcases Jj.1 hm with rfl|hm
  ·exact h.1
  ·exact zJN l h.2 q hm
theorem zFl{α:Type}{t e:TypeId}{ti:TypeInfo}{k n:Nat}{u:T}{pa:Array (Nat×Operand)}(ht:ElT P t e ti k u)(xs:List Operand)(pp:List yR)(ys:List α)(f:α→T)(hx:tE E xs pp)(gM:zCf E pp)
  (sd:(J3 d Γ.N&&zCe (d::xU pp)&&zJM k pp&&J3 0 n&&Nat.ble (n*k) 65536)=VW)(hn:xs.length=n)(fx:pa=((xs.zipIdx 0).map fun x=>(x.2,x.1)).toArray:=by rfl)(hy:pp.map yR.tree=ys.map f:=by rfl):
  Ok P Γ ⟨VU d,.buildSlice t n pa,ty,ps,af,gd⟩ E (E.app ((d,VU (L k f ys))::pWr d pp 0) ((d,0)::qJ pp)):=by
 obtain⟨z,hz,_⟩:=ht.zero;simp only[J1]at sd;subst fx;intro S;have pe:n*k≤65536:=by simpa[Nat.ble_eq]using sd.2
 have:=zHu (P:=P) (Γ:=Γ.at S) (E:=E) (o:=⟨VU d,.buildSlice t n ((xs.zipIdx 0).map fun x=>(x.2,x.1)).toArray,ty,ps,af,gd⟩) t e ti z k n xs pp rfl rfl (yF sd.1.1.1.1) ht.un ht.info hz ht.size ht.pos hn (yF sd.1.2) (by omega) hx (gM.parts sd.1.1.1.2) (zJN pp sd.1.1.2);rw[hy]at this;exact this
theorem zJO{α:Type}{f g:α→T}(h:∀y,roT (g y)=f y):(ys:List α)→roT.roTs (ys.map g)=ys.map f
 | []=>rfl
 |y::ys=>by simp only[Jh,roT.roTs,h y,zJO h ys]
theorem zLh{α:Type}{t e:TypeId}{ti:TypeInfo}{k r:Nat}{q:List Nat}{u:T}{f g:α→T}{xs ys zs:List α}{s0:Nat}(ht:ElT P t e ti k u)(dx:∀y,roT (g y)=f y)(gv:∀y,(g y).size=k)(hg:Enc g)(hv:xC xs ys=VU zs)(h0:E s0=VU (L k f xs))(h1:sD E y=VU (r,q,.ro (L k g ys)))(sd:(J3 d Γ.N&&(s0 != d))=VW):
  Ok P Γ ⟨VU d,.call { callee:=.builtin .append,args:=#[.tmp s0,y],argTypes:=#[t,t] },ty,ps,af,gd⟩ E (E.app [(d,VU (L k f zs)),(s0,VU .any)] [(d,0),(s0,1)]):=by
 obtain⟨rfl,hl⟩:=zFh hv;obtain⟨z,hz,fm⟩:=ht.zsize;simp only[J1]at sd;intro S;have:=zIN (P:=P) (Γ:=Γ.at S) (E:=E) (o:=⟨VU d,.call { callee:=.builtin .append,args:=#[.tmp s0,y],argTypes:=#[t,t] },ty,ps,af,gd⟩) t e ti z k s0 y r q (xs.map f) (ys.map g) rfl rfl (yF sd.1) ht.un ht.info hz ht.size ht.pos fm ht.bytes h0 h1 (zGG hg.rook ys)
  (by intro v hv;obtain⟨y,_,rfl⟩:=Jb.1 hv;exact gv y) (by simpa using sd.2) (by simpa using hl)
 rw[zJO dx,←H6]at this;exact this
def wV{α:Type}(xs:List α)(m:Int)(z:α):Option (List α):=if 0≤m∧xs.length+m.toNat≤68719476736 then VU (xs++J2 m.toNat z)else VV
theorem zTO{α:Type}{t t2 e:TypeId}{k2:IntKind}{ti:TypeInfo}{k:Nat}{u:T}{f:α→T}{z:α}{xs zs:List α}{s0:Nat}{m:Int}(ht:ElT P t e ti k u)(ak:P.underlying t2=VU (.int k2))(hz:f z=u)(hv:wV xs m z=VU zs)(h0:E s0=VU (L k f xs))(h1:opT E y=VU (I m))(sd:(J3 d Γ.N&&(s0 != d))=VW):
  Ok P Γ ⟨VU d,.call { callee:=.builtin .append,args:=#[.tmp s0,y],argTypes:=#[t,t2] },ty,ps,af,gd⟩ E (E.app [(d,VU (L k f zs)),(s0,VU .any)] [(d,0),(s0,1)]):=by
 unfold wV at hv;split at hv
 ·rename_i hc
  simp at hv;subst hv;obtain⟨zv,mm,dZ⟩:=ht.zero;simp only[J1]at sd;obtain⟨n,rfl⟩:∃n:Nat,m=n:=⟨m.toNat,by omega⟩;intro S;have:=zG0 (P:=P) (Γ:=Γ.at S) (E:=E) (o:=⟨VU d,.call { callee:=.builtin .append,args:=#[.tmp s0,y],argTypes:=#[t,t2] },ty,ps,af,gd⟩) t t2 e k2 ti zv u k s0 y .i64 n (xs.map f) rfl rfl (yF sd.1) ht.un ak ht.info mm ht.size ht.pos ht.bytes ht.zok dZ ht.us h0 h1
   (by simpa using sd.2) (by simp at hc ⊢;omega)
  have e:xs.map f++J2 n u=(xs++J2 n z).map f:=by simp[hz]
  rw[e]at this;have h2:((n:Int)).toNat=n:=by simp
  rw[h2];exact this
 ·cases hv
end
section
variable {Γ:Ctx}{E:Env}
theorem zN.trq(d r:Nat)(q:List Nat){tr u tr':T}(hd:E d=VU (.same r q))(hr:E r=VU tr)(hg:tr.get q.reverse=VU u)(ea:zW u)(sd:(u.single&&wZ tr&&tr.okB [(d,1),(r,q.length+1)]&&(d != r))=VW)(gz:(if q=[]then .same d []else tr.set q.reverse .any)=tr':=by rfl):
  zN Γ E (E.app [(d,VU u),(r,VU tr')] [(d,1),(r,q.length+1)]):=by
 simp only[J1]at sd
 rintro a w ⟨S,hS,hs⟩
 have gk:d≠r:=by simpa using sd.2
 have:=zLc hs d [] r q (.same r q) tr u hd rfl hr hg sd.1.1.1 ea gk (by simp[T.okB,zBg,gk]) sd.1.2 rfl sd.1.1.2;subst gz;exact⟨S,hS,this⟩
theorem zN.trf(d:Nat)(g:List Nat)(r:Nat)(q:List Nat)(td tr:T){u td' tr':T}(hd:E d=VU td)(VC:td.get g.reverse=VU (.same r q))(hr:E r=VU tr)(hg:tr.get q.reverse=VU u)(gz:td.set g.reverse u=td')(ea:zW u)
  (sd:(u.single&&wZ td&&wZ tr&&td.okB [(d,g.length+1),(r,q.length+1)]&&tr.okB [(d,g.length+1),(r,q.length+1)]&&(d != r))=VW)(cu:(if q=[]then .same d g else tr.set q.reverse .any)=tr':=by rfl):
  zN Γ E (E.app [(d,VU td'),(r,VU tr')] [(d,g.length+1),(r,q.length+1)]):=by
 simp only[J1]at sd
 rintro a w ⟨S,hS,hs⟩
 have gk:d≠r:=by simpa using sd.2
 have:=zLc hs d g r q td tr u hd VC hr hg sd.1.1.1.1.1 ea gk sd.1.1.2 sd.1.2 sd.1.1.1.1.2 sd.1.1.1.2;subst gz cu;exact⟨S,hS,this⟩
theorem zN.frz{α:Type}(s:Nat){k:Nat}{f g:α→T}(xs:List α)(hs:E s=VU (L k f xs))(h:tM f g):zN Γ E (E.app [(s,VU (.ro (L k g xs)))] [(s,1)]):=by have:=zN.freeze (Γ:=Γ) s _ hs;simp only[kJ,strip,qT h.h xs]at this;exact this
theorem zN.res(d r:Nat)(q:List Nat)(tr:T){u:T}(hd:E d=VU (.same r q))(hr:E r=VU tr)(hg:tr.get q.reverse=VU (.ro u)):zN Γ E (E.app [(d,VU (.ro u))] []):=by
 rintro a w ⟨S,hS,gY,G,gc⟩
 refine⟨S,hS,gY,G,?_⟩;have hk:zAF [] G w G w:=⟨fun _ _ _=>rfl,fun _ _ _=>rfl,fun _ _ _ _ _ _ h _=>⟨h,rfl⟩,fun _ _ _ h _=>h,fun b cs e h=>⟨cs,h,rfl⟩,by intros;assumption⟩;refine tK gc rfl hk gc.mem (fun s _=>⟨fun n hn=>by simp at hn,rfl⟩) fun s t hs=>?_
 simp only[Wr.find]at hs;split at hs
 ·rename_i e;subst e
  simp at hs;subst hs;obtain⟨h1,h2,_⟩:=gc.ent d _ hd;obtain⟨_,h4,_⟩:=gc.ent r _ hr;simp only[R]at h2;have h5:=(zB8 q.reverse tr _ [] h4 hg).1;simp only[rp,Kf,Ja,R]at h5;exact⟨by rw[h1];rfl,by simp only[R];rw[h2];exact h5,by simp[Top]⟩
 ·cases hs
end
theorem zIW:(p:List Nat)→ ∀(t u0 a:T),t.get p=VU u0→(t.set p a).get p=VU a
 | [],t,_,a,_=>by cases t<;>cases a<;>rfl
 |i::p,t,u0,a,h=>by
  cases t with
  |sl k xs|agg xs|tup xs=>
   simp only[T.get,T.set]at h ⊢
   cases hx:xs[i]? with
   |none=>rw[hx]at h;cases h
   |some x=>
    rw[hx]at h;have hi:=(J9.1 hx).1;simp only[];simp only[T.get,Ui hi];exact zIW p x u0 a h
  |ptr t=>
   simp only[T.get,T.set]at h ⊢
   split at h
   ·rename_i e;subst e;simp only[if_true,T.get];exact zIW p t u0 a h
   ·cases h
  |_=>simp[T.get]at h
theorem set_set:(p:List Nat)→ ∀(t u0 a b:T),t.get p=VU u0→(t.set p a).set p b=t.set p b
 | [],t,_,a,_,_=>by cases t<;>cases a<;>rfl
 |i::p,t,u0,a,b,h=>by
  cases t with
  |sl k xs|agg xs|tup xs=>
   simp only[T.get,T.set]at h ⊢
   cases hx:xs[i]? with
   |none=>rw[hx]at h;cases h
   |some x=>
    rw[hx]at h;have hi:=(J9.1 hx).1;simp only[];simp only[T.set,Ui hi,List.set_set,set_set p x u0 a b h]
  |ptr t=>
   simp only[T.get,T.set]at h ⊢
   split at h
   ·rename_i e;subst e;simp only[if_true,T.set,set_set p t u0 a b h]
   ·cases h
  |_=>simp[T.get]at h
def zBp:T→Bool
 |.sl _ _|.ptr _=>VW
 |_=>VX
theorem zOX{t:T}(h:zBp t=VW)(p:List Nat){u:T}(hp:p≠[]):zBp (t.set p u)=VW:=by
 cases p with
 |nil=>exact absurd rfl hp
 |cons i p=>cases t<;>simp[zBp]at h<;>simp only[T.set]<;>split<;>rfl
theorem tU{t:T}(h:zBp t=VW)(chg:Chg):t.okB chg=VW∧wZ t=VW∧t.single=VW:=by cases t<;>simp[zBp]at h<;>simp[T.okB,wZ,T.single]
section
variable {P:Program}{Γ:Ctx}{E E':Env}{d:Nat}{ty:TypeId}{ps:String}{af:Array Edge}{gd:Option (Nat×Bool)}
theorem agM{E:Env}{rw:Rw}{i:Nat}{x:Operand}{u:T}(t:T)(h:opT E x=VU t)(h1:clo E t=u)(h2:zOF E (rw.map (·.2.1)) x t=VW):zCt E rw i x u:=.inr ⟨t,h,h1,h2⟩
theorem yO{E:Env}{rw:Rw}{i s:Nat}{u u':T}(h:E s=VU u)(hc:zW u)(hr:uM u=VW)(hs:u.okTup=VW:=by rfl)(hm:(i,s,u')∈rw:=by exact List.mem_singleton.2 rfl):zCt E rw i (.tmp s) u:=.inl ⟨s,u',rfl,hm,h,hc,hs,hr⟩
abbrev uP(E:Env)(ds r:Nat)(q:List Nat)(tr u:T):Env:=E.app [(ds,VU u),(r,VU (if q=[]then .same ds []else tr.set q.reverse .any))] [(ds,1),(r,q.length+1)]
theorem zM{f:FuncId}{xs:List Operand}{ats:Array TypeId}{us res:List T}{tr u u' tr':T}(i ds r:Nat)(q:List Nat)(gr:zAI P f)(hc:FnC P f us res [(i,u')])(hs:E ds=VU (.same r q))(hr:E r=VU tr)(hq:tr.get q.reverse=VU u)
  (ea:zW u)(hZ:zW u')(_:uM u=VW)(py:uM u'=VW)(gn:vX (uP E ds r q tr u) [(i,ds,u')] 0 xs us)(gu:zCu res)(gz:tr.set q.reverse u'=tr')
  (sd:(J3 d Γ.N&&(d != ds)&&(d != r)&&(ds != r)&&zBp u&&zBp u'&&zBp tr)=VW)(hx:xs[i]? =VU (.tmp ds))(hu:us[i]? =VU u):
  Ok P Γ ⟨VU d,.call { callee:=.value (.func f),args:=xs.toArray,argTypes:=ats },ty,ps,af,gd⟩ E ((((uP E ds r q tr u).app (cWr d res [(i,ds,u')]) (uO d [(i,ds,u')]))).app [(r,VU tr'),(ds,VU (.same r q))] [(r,q.length+1),(ds,1)]):=by
 simp only[J1]at sd;obtain⟨⟨⟨⟨⟨⟨s1,s2⟩,s3⟩,s4⟩,s5⟩,s6⟩,s7⟩:=sd;have d1:d≠ds:=by simpa using s2
 have d2:d≠r:=by simpa using s3
 have d3:ds≠r:=by simpa using s4
 obtain⟨u1,u2,u3⟩:=tU s5 [];obtain⟨v1,v2,v3⟩:=tU s6 [];have Vt:cLv u'=1:=by simp[cLv,v3]
 subst gz;intro S
 by_cases bG:q=[]
 ·subst bG
  have htu:tr=u:=by
   have:tr.get []=VU tr:=by cases tr<;>rfl
   simp only[He]at hq;rw[this]at hq;exact H8.inj hq
  subst htu;have pU:∀a b:T,a.set [] b=b:=fun a b=>by cases a<;>rfl
  have bw:(uP E ds r [] tr tr) ds=VU tr:=by simp[uP,Env.app,Wr.find]
  have pg:((uP E ds r [] tr tr).app (cWr d res [(i,ds,u')]) (uO d [(i,ds,u')])) r=VU (.same ds []):=by
   have h1:(uP E ds r [] tr tr) r=VU (.same ds []):=by simp[uP,Env.app,Wr.find,d3]
   have h2:(cWr d res [(i,ds,u')]).find r=VV:=by simp[cWr,Wr.find,d2,d3]
   have h3:(T.same ds []).okB (uO d [(i,ds,u')])=VW:=by simp[T.okB,zBg,uO,d1,Vt]
   simp only[Env.app,h2,h1,h3,if_true]
  have ph:((uP E ds r [] tr tr).app (cWr d res [(i,ds,u')]) (uO d [(i,ds,u')])) ds=VU u':=by simp[Env.app,Wr.find,cWr,d1]
  have:=zJG (P:=P) (Γ:=Γ.at S) (E:=E) (o:=⟨VU d,.call { callee:=.value (.func f),args:=xs.toArray,argTypes:=ats },ty,ps,af,gd⟩) f (.func f) xs ats us res i ds r [] tr tr u' rfl rfl (yF s1) gr rfl hs hr hq u3 ea d3 d2 (tU s7 _).1 (tU s7 []).2.1
   (uP E ds r [] tr tr) _ rfl rfl hc gn (.one d1 hx hZ v3 py bw u3 hu) gu (.same ds []) (.same ds []) pg rfl rfl ph hZ v3 (by simp[T.okB,zBg]) rfl (tU s6 _).1 v2
  rw[He,pU]at this ⊢
  exact this
 ·have Vg:q.reverse≠[]:=by simpa using bG
  have bw:(uP E ds r q tr u) ds=VU u:=by simp[uP,Env.app,Wr.find]
  have VQ:=zOX s7 q.reverse (u:=.any) Vg;have pg:((uP E ds r q tr u).app (cWr d res [(i,ds,u')]) (uO d [(i,ds,u')])) r=VU (tr.set q.reverse .any):=by
   have h1:(uP E ds r q tr u) r=VU (tr.set q.reverse .any):=by simp[uP,Env.app,Wr.find,d3,bG]
   have h2:(cWr d res [(i,ds,u')]).find r=VV:=by simp[cWr,Wr.find,d2,d3]
   simp[Env.app,h2,h1,(tU VQ _).1]
  have ph:((uP E ds r q tr u).app (cWr d res [(i,ds,u')]) (uO d [(i,ds,u')])) ds=VU u':=by simp[Env.app,Wr.find,cWr,d1]
  have:=zJG (P:=P) (Γ:=Γ.at S) (E:=E) (o:=⟨VU d,.call { callee:=.value (.func f),args:=xs.toArray,argTypes:=ats },ty,ps,af,gd⟩) f (.func f) xs ats us res i ds r q tr u u' rfl rfl (yF s1) gr rfl hs hr hq u3 ea d3 d2 (tU s7 _).1 (tU s7 []).2.1
   (uP E ds r q tr u) _ rfl rfl hc gn (.one d1 hx hZ v3 py bw u3 hu) gu (tr.set q.reverse .any) .any pg (zIW _ _ _ _ hq) rfl ph hZ v3 (tU VQ _).1 (tU VQ []).2.1 (tU s6 _).1 v2
  rw[set_set _ _ _ _ _ hq]at this;exact this
theorem vA{f:FuncId}{xs:List Operand}{ats:Array TypeId}{us res:List T}{xf:Operand}(hf:opT E xf=VU (.lit (.func (.func f) #[] #[])))(gr:zAI P f)(hc:FnC P f us res [])(gn:vX E [] 0 xs us)(gu:zCu res)(sd:J3 d Γ.N=VW):
  Ok P Γ ⟨VU d,.call { callee:=.value xf,args:=xs.toArray,argTypes:=ats },ty,ps,af,gd⟩ E (E.app (cWr d res []) (uO d [])):=
 fun _=>zMp f xf xs ats us res [] rfl rfl (yF sd) gr hf hc gn .nil gu
def zDP(E:Env):List Operand→List T→Prop
 | [],[]=>True
 |x::xs,u::us=>(opT E x=VU u∧u.flat=VW)∧zDP E xs us
 |_,_=>False
theorem afN:zDP E [] []:=trivial
theorem afC{x:Operand}{xs:List Operand}{u:T}{us:List T}(h:opT E x=VU u)(h1:u.flat=VW)(h2:zDP E xs us):zDP E (x::xs) (u::us):=⟨⟨h,h1⟩,h2⟩
theorem zDP.get:(xs:List Operand)→(us:List T)→zDP E xs us→ ∀(i:Nat) u,us[i]? =VU u→ ∃x,xs[i]? =VU x∧opT E x=VU u∧u.flat=VW
 | [],[],_,i,u,h=>by simp at h
 |x::xs,v::us,h,i,u,hi=>by
  cases i with
  |zero=>simp at hi;subst hi;exact⟨x,by simp,h.1⟩
  |succ i=>obtain⟨y,h1,h2⟩:=zDP.get xs us h.2 i u (by simpa using hi);exact⟨y,by simpa using h1,h2⟩
 | [],_::_,h,_,_,_=>by simp[zDP]at h
 |_::_,[],h,_,_,_=>by simp[zDP]at h
theorem zDc{f:FuncId}{xs:List Operand}{ats:Array TypeId}{us res:List T}(gr:zAI P f)(hc:FnC P f us res [])(ha:zDP E xs us)(gm:xs.length=us.length)(gu:xH res)(eD:yN res=VW)(sd:J3 d Γ.N=VW):
  Ok P Γ ⟨VU d,.call { callee:=.value (.func f),args:=xs.toArray,argTypes:=ats },ty,ps,af,gd⟩ E (E.app (cWr d res []) (uO d [])):=
 zR2 gr hc gm (zDP.get _ _ ha) ⟨gu,eD⟩ sd
end
noncomputable def zD4 {α:Type} (g:Nat→Option α):Option α:=
 open Classical in if h:∃r,∃n,∀m,n≤m→g m=VU r then VU h.choose else VV
theorem zAm{α:Type}{g:Nat→Option α}{r:α}(h:zD4 g=VU r):∃n,g n=VU r:=by
 unfold zD4 at h;split at h
 ·rename_i he
  simp at h;obtain⟨n,hn⟩:=he.choose_spec;exact⟨n,by rw[←h];exact hn n (Jf _)⟩
 ·cases h
theorem zBL{α:Type}{g:Nat→Option α}{r:α}(n:Nat)(h:∀m,n≤m→g m=VU r):zD4 g=VU r:=by have he:∃r,∃n,∀m,n≤m→g m=VU r:=⟨r,n,h⟩;unfold zD4;rw[dif_pos he];obtain⟨n',hn'⟩:=he.choose_spec;have h1:=h (max n n') (by omega);have h2:=hn' (max n n') (by omega);rw[h1]at h2;exact h2.symm
end Go.Ab

namespace Go.Ab
open Go
section
variable {P:Program}{Γ:Ctx}{ops:Array Oper}{o:Oper}{E:Env}
theorem zV.skipW{d:Nat}(hd:o.dst=VU d)(sd:J3 d Γ.N=VW)(hw:∀(a:Act)(w:World),zAh Γ E a w→Region.wanted o (yielded ops a.tmps)=VX):zV P Γ ops o E (E.app [(d,VU (.tup []))] [(d,0)]):=by
 intro a w K Q hs hK;rw[if_neg (by grind)];obtain⟨S,hS,gY,G,gc⟩:=hs;refine hK _ _ ⟨S,hS,by rw[hd];exact gY,G.put d (fun _=>.bool VX),?_⟩ ?_
 ·rw[hd]
  have hu:(Value.bool VX).oneCell'=VW:=rfl;refine tK gc (by simp[Act.put]) (G.put_keep rfl d _) (gc.mem.put rfl d _ fun _=>hu) ?_ ?_
  ·grind[jP,Act.put]
  ·intro s t' hs
   rw[jP]at hs;split at hs
   ·rename_i e;subst e
    simp at hs;subst hs;have gv:=gc.size;have gI:=yF sd;refine⟨?_,by simp[R,RF],by simp[Top,tA]⟩
    grind[Act.put,mkV,zA8,undef]
   ·cases hs
 grind[Act.put]
theorem zV.skip2{d:Nat}(g:Nat)(b b':Bool)(s:Nat)(hd:o.dst=VU d)(sd:J3 d Γ.N=VW)(fJ:(b==b')=VX)(hg:o.guard=VU (g,b))(gG:(ops[g]?).bind (·.dst)=VU s)(hb:E s=VU (.lit (.bool b'))):
  zV P Γ ops o E (E.app [(d,VU (.tup []))] [(d,0)]):=.skipW hd sd fun a w hs=>by
 simp only[Region.wanted,hg,zG7 hs gG hb]
 grind
theorem zV.skip3{d:Nat}(g:Nat)(b:Bool)(s:Nat)(hd:o.dst=VU d)(sd:J3 d Γ.N=VW)(hg:o.guard=VU (g,b))(gG:(ops[g]?).bind (·.dst)=VU s)(hb:E s=VU (.tup [])):
  zV P Γ ops o E (E.app [(d,VU (.tup []))] [(d,0)]):=.skipW hd sd fun a w hs=>by
 obtain⟨_,_,_,G,hr⟩:=hs;obtain⟨h1,_,_⟩:=hr.ent s _ hb
 grind[Region.wanted,yielded,mkV]
theorem zV.opE{E1 E':Env}(h:Ok P Γ o E E1)(e:E1=E')(hg:o.guard=VV:=by rfl):zV P Γ ops o E E':=e▸zV.op h hg
theorem zV.guardE{E1 E':Env}(g:Nat)(b:Bool)(s:Nat)(h:Ok P Γ o E E1)(hg:o.guard=VU (g,b))(gG:(ops[g]?).bind (·.dst)=VU s)(hb:E s=VU (.lit (.bool b)))(e:E1=E'):zV P Γ ops o E E':=e▸zV.guard g b s h hg gG hb
end
def vO(Γ:Ctx)(P:Program)(rs:Array ResultVar)(us res:List T)(rws:List (Nat×T)):Exit→Env→Prop:=fun e E=> ∃E',zN Γ E E'∧zVq P rs us res rws e E'
theorem FnC.of_bodyG{P:Program}{f:FuncId}{fn:Func}{c:Code}{us res:List T}{rws:List (Nat×T)}(hf:P.funcs[f]? =VU fn)(hb:fn.body=VU c)(hn:us.length≤fn.ntmps)(ht:tA us)(hr:rws.all (fun x=>decide (x.1<us.length))=VW)
  (h:∀(Γ:Ctx)(v:Nat→Value),Γ.N=fn.ntmps→CW P Γ (zCc v (rws.map (·.1))) c (xF (zG9 0 us)) (vO Γ P fn.results us res rws)):FnC P f us res rws:=by
 refine FnC.of_body hf hb hn ht hr fun Γ v hN=>?_
 intro a w Q' hs hp hQ;refine h Γ v hN a w Q' hs hp ?_
 rintro e E a' w' ⟨E',hg,hq⟩ gQ fV
 exact hQ e E' a' w' hq (hg a' w' gQ) fV
def zR5(t:T):Prop:=zW t∧uM t=VW∧strip t=t∧t.okTup=VW∧zFa t=VW
def zOY:List T→Prop
 | []=>True
 |x::xs=>zR5 x∧zOY xs
theorem Enc.t{α:Type}{f:α→T}(h:Enc f)(x:α):zR5 (f x):=⟨h.clean x,h.rofree x,h.strip x,h.okTup x,h.rook x⟩
theorem Enc.of{α:Type}{f:α→T}(h:∀x,zR5 (f x)):Enc f:=⟨fun x=>(h x).1,fun x=>(h x).2.1,fun x=>(h x).2.2.1,fun x=>(h x).2.2.2.1,fun x=>(h x).2.2.2.2⟩
theorem zR6{xs:List T}(h:zOY xs):zR5 (.agg xs):=by
 have key:∀xs:List T,zOY xs→xH xs∧tF xs=VW∧tQ xs=xs∧yN xs=VW∧zBF xs=VW:=by
  intro xs
  induction xs with
  |nil=>intro _;exact⟨trivial,rfl,rfl,rfl,rfl⟩
  |cons x xs ih=>
   rintro⟨⟨h1,h2,h3,h4,h5⟩,h⟩
   obtain⟨g1,g2,g3,g4,g5⟩:=ih h;exact⟨⟨h1,g1⟩,by grind[tF],by grind[tQ],by grind[yN],by grind[zBF]⟩
 obtain⟨g1,g2,g3,g4,g5⟩:=key xs h;exact⟨vC g1,by grind[uM],by grind[strip],by grind[T.okTup],by grind[zFa]⟩
end Go.Ab

namespace Go.Ab
open Go
section
variable {Γ:Ctx}{E:Env}{d:Nat}
def Gh.cut(G:Gh)(d s0 b lo hi:Nat)(v:Value):Gh where
 hd s z:=if s=d then(if z=[]then v else G.hd s0 z)else G.hd s z
 ad s z:=if s=d then G.ad s0 z else G.ad s z
 lb b' o:=if b'=b∧lo≤o∧o<hi then VU (VW,d,[])else match G.lb b' o with
  |some (f,s,z)=>if s=s0 then VU (f,d,z)else VU (f,s,z)
  |none=>VV
 ow b':=match G.ow b' with
  |some (s,z)=>if s=s0 then VU (d,z)else VU (s,z)
  |none=>VV
theorem zMy{G:Gh}{tmps:Array Value}{w:World}(gc:Rep Γ E G tmps w)(hd:d<Γ.N){s0 k h cap':Nat}{xs:List T}(ef:E s0=VU (.sl k xs))(gk:s0≠d)(hk:0<k)
  {b o0 cap:Nat}{cs:Array Value}{e:TypeId}(h1:G.hd s0 []=.slice (VU ⟨b,o0,VV⟩) xs.length cap)(h2:w.heap[b]? =VU (.cells cs e (0,0)))(_h3:xs.length≤cap)(h4:cap≤maxLen)(h5:o0+cap*k≤cs.size)(h6:G.ow b=VU (s0,[]))
  (h7:∀o,o0+xs.length*k≤o→o<o0+cap*k→G.lb b o=VU (VW,s0,[]))(h8:RL Γ.St G w s0 xs [] 0 b o0 k)(hh:h≤xs.length)(hc:h≤cap')(eP:cap'≤cap):
  ∃G',Rep Γ (E.app [(d,VU (.sl k (xs.take h))),(s0,VU .any)] [(d,0),(s0,1)]) G' (tmps.setIfInBounds d (.slice (VU ⟨b,o0,VV⟩) h cap')) w:=by
 have hm:=gc.mem;obtain⟨e1,_,e3⟩:=gc.ent s0 _ ef
 let v:Value:=.slice (VU ⟨b,o0,VV⟩) h cap'
 let G':=G.cut d s0 b (o0+h*k) (o0+cap'*k) v
 have gH:=hm.ow b _ h6;have md:∀o f z i,o0+h*k≤o→o<o0+cap'*k→G.lb b o=VU (f,s0,z++[i])→h≤i:=by
  intro o f z i cY cX hl;obtain⟨o,rfl⟩:∃o',o=o0+o':=⟨o-o0,by have:o0≤o0+h*k:=Nat.le_add_right _ _;omega⟩
  replace cY:h*k≤o:=by omega
  by_cases ho:o<xs.length*k
  ·have hj:o/k<xs.length:=(Nat.div_lt_iff_lt_mul hk).2 ho
   obtain⟨g1,g2,_⟩:=zAf xs [] 0 b o0 k (o/k) xs[o/k] h8 (by simp[hj]);obtain⟨y,hy⟩:=zIH xs[o/k] _ b _ (o%k) g1 (by rw[g2];exact Nat.mod_lt _ hk);rw[J6,Lf,Nat.mul_comm,Nat.div_add_mod,hl]at hy;simp only[H8.injEq,Q2.injEq]at hy;have:=hy.2.2;have hi:i=o/k:=by have:=congrArg List.getLast? this;simpa using this
   rw[hi];exact(Nat.le_div_iff_mul_le hk).2 cY
  ·have:=h7 (o0+o) (by omega) (by have:=Le k eP;omega)
   rw[hl]at this;simp at this
 have glb:∀b' o f z,G.lb b' o=VU (f,s0,z)→ ¬(b'=b∧o0+h*k≤o∧o<o0+cap'*k)→G'.lb b' o=VU (f,d,z):=fun b' o f z hl hn=>by show(if _ then _ else _)=_;rw[if_neg hn];simp[hl]
 have gow:∀b' z,G.ow b'=VU (s0,z)→G'.ow b'=VU (d,z):=fun b' z hl=>by simp[G',Gh.cut,hl]
 have mv:∀i,i<h→zHC G w G' w s0 [i] d [i]:=fun i hi=>by
  have hn:∀b' o f z,G.lb b' o=VU (f,s0,z++[i])→ ¬(b'=b∧o0+h*k≤o∧o<o0+cap'*k):=by
   rintro b' o f z hl ⟨rfl,cY,cX⟩
   have:=md o f z i cY cX hl;omega
  refine⟨⟨fun z=>by simp[G',Gh.cut],fun z _=>by simp[G',Gh.cut],fun b' o f z _ _ hl=>⟨glb _ _ _ _ hl (hn _ _ _ _ hl),rfl⟩,fun b' z _ hl=>gow _ _ hl,fun b' cs' e' hb=>⟨cs',hb,rfl⟩,by intros;assumption⟩,fun b' o _ hl=>⟨glb _ _ _ _ hl (hn b' o VW [] (by simpa using hl)),rfl⟩,fun b' hl=>gow _ _ hl⟩
 have gy:zAF [(d,0),(s0,1)] G w G' w:=by
  refine⟨fun s p ho=>?_,fun s p ho=>?_,fun b' o f s p gS hl hs=>?_,fun b' s p hl hs=>?_,fun b' cs' e' hb=>⟨cs',hb,rfl⟩,by intros;assumption⟩
  ·have:s≠d:=fun e=>absurd (ho 0 (by simp[e])) (by simp)
   simp[G',Gh.cut,this]
  ·have:s≠d:=fun e=>absurd (ho 0 (by simp[e])) (by simp)
   simp[G',Gh.cut,this]
  ·have ex:s≠s0:=fun e=>hs 1 (by simp[e])
   obtain⟨y,hy⟩:=gS;have fJ:b'≠b:=by
    rintro rfl
    rw[h6]at hy;simp at hy;exact ex hy.1.symm
   refine⟨?_,rfl⟩;show(if _ then _ else _)=_;rw[if_neg (fun hn=>fJ hn.1)];simp[hl,ex]
  ·have ex:s≠s0:=fun e=>hs 1 (by simp[e])
   simp[G',Gh.cut,hl,ex]
 have gE:Mem Γ G' w:=by
  refine⟨fun s z=>?_,fun b' o l hl=>?_,fun b' l hl=>?_,hm.st,hm.fr,hm.sz,hm.bk⟩
  ·show(if _ then _ else _:Value).oneCell'=VW
   split
   ·split
    ·rfl
    ·exact hm.one _ _
   ·exact hm.one _ _
  ·change(if _ then _ else _)=_ at hl
   split at hl
   ·rename_i hn;rw[hn.1];exact gH
   ·cases hg:G.lb b' o with
    |none=>simp[hg]at hl
    |some x=>exact hm.lb b' o x hg
  ·cases hg:G.ow b' with
   |none=>simp[G',Gh.cut,hg]at hl
   |some x=>exact hm.ow b' x hg
 refine⟨G',tK gc (by simp) gy gE ?_ ?_⟩
 ·intro s hs
  have pb:s≠d:=by rintro rfl;simp[Wr.find]at hs
  have fW:s≠s0:=by rintro rfl;simp[Wr.find,gk.symm]at hs
  exact⟨fun n hn=>by simp at hn;rcases hn with h|h;exact pb h.1;exact fW h.1,by rw[J8];simp[pb.symm]⟩
 ·intro s t' hs
  by_cases ex:s=d
  ·subst ex
   simp[Wr.find]at hs;subst hs;have gm:(xs.take h).length=h:=by simp;omega
   simp only[Top]at e3;have hkc:∀ys:List T,xH ys→ ∀n,xH (ys.take n):=by
    intro ys
    induction ys with
    |nil=>intro _ n;simp[xH,xZ]
    |cons y ys ih=>intro hy n;cases n with
     |zero=>simp[xH,xZ]
     |succ n=>exact⟨hy.1,ih hy.2 n⟩
   refine⟨?_,?_,by simp only[Top];exact hkc xs e3 h⟩
   ·rw[J8]
    simp[gc.size,hd,mkV,G',Gh.cut,v]
   ·simp only[R]
    refine .inr ⟨b,o0,cap',cs,e,by rw[gm];simp[G',Gh.cut,v],h2,by omega,by omega,by have:=Le k eP;omega,gow b _ h6,fun o cY cX=>?_,?_⟩
    ·rw[gm]at cY
     show(if _ then _ else _)=_;rw[if_pos ⟨rfl,cY,cX⟩]
    ·refine zII _ [] 0 b o0 fun i x hx=>?_
     rw[Li]at hx;split at hx
     ·rename_i hi
      obtain⟨g1,g2,g3⟩:=zAf xs [] 0 b o0 k i x h8 hx;rw[J6]at g1 g3 ⊢
      refine⟨?_,g2,zAU (mv i hi) x (xE.mono (fun _ _=>False.elim) _ (tI xs e3 i x hx)) g3⟩;refine zGv x [i] [i] b _ (fun z=>by simp[G',Gh.cut]) (fun z=>by simp[G',Gh.cut]) (fun b' o z hl=>⟨glb _ _ _ _ hl ?_,rfl⟩) g1
      rintro⟨rfl,cY,cX⟩
      have:=md o VX z i cY cX hl;omega
     ·cases hx
  ·have h9:s=s0∧t'=.any:=by
    simp only[Wr.find]at hs;rw[if_neg (fun h=>ex h.symm)]at hs;split at hs
    ·rename_i h;simp at hs;exact⟨h.symm,hs.symm⟩
    ·cases hs
   obtain⟨rfl,rfl⟩:=h9;refine⟨?_,by simp only[R],by simp[Top]⟩;rw[J8];simp only[Ne.symm ex,if_false,mkV];rw[e1,xY rfl];simp[G',Gh.cut,ex]
theorem zOZ{G:Gh}{tmps:Array Value}{w:World}(gc:Rep Γ E G tmps w)(hd:d<Γ.N){s0 k:Nat}(ef:E s0=VU (.sl k []))(gk:s0≠d)(a:Option Addr):
  ∃G',Rep Γ (E.app [(d,VU (.sl k [])),(s0,VU .any)] [(d,0),(s0,1)]) G' (tmps.setIfInBounds d (.slice a 0 0)) w:=by
 obtain⟨e1,_,_⟩:=gc.ent s0 _ ef;refine⟨G.put d (fun _=>.slice a 0 0),?_⟩;have hk:zAF [(d,0),(s0,1)] G w (G.put d fun _=>.slice a 0 0) w:=by have h0:=G.put_keep (w:=w) (w':=w) rfl d (fun _=>.slice a 0 0);refine⟨fun s p ho=>h0.hd s p (fun n hn=>ho n (by simp at hn ⊢;exact .inl hn)),fun s p ho=>h0.ad s p (fun n hn=>ho n (by simp at hn ⊢;exact .inl hn)),fun b o f s p h1 h2 h3=>h0.lb b o f s p h1 h2 (fun n hn=>h3 n (by simp at hn ⊢;exact .inl hn)),fun b s p h1 h3=>h0.ow b s p h1 (fun n hn=>h3 n (by simp at hn ⊢;exact .inl hn)),h0.blk,by intros;assumption⟩
 refine tK gc (by simp) hk (gc.mem.put rfl d _ (fun _=>rfl)) ?_ ?_
 ·intro s hs
  have pb:s≠d:=by rintro rfl;simp[Wr.find]at hs
  have fW:s≠s0:=by rintro rfl;simp[Wr.find,gk.symm]at hs
  exact⟨fun n hn=>by simp at hn;rcases hn with h|h;exact pb h.1;exact fW h.1,by rw[J8];simp[pb.symm]⟩
 ·intro s t' hs
  by_cases ex:s=d
  ·subst ex
   simp[Wr.find]at hs;subst hs;refine⟨by rw[J8];simp[gc.size,hd,mkV,Gh.put],by simp only[R];exact .inl ⟨trivial,a,by simp[Gh.put]⟩,by simp[Top,xH,xZ]⟩
  ·have h9:s=s0∧t'=.any:=by
    simp only[Wr.find]at hs;rw[if_neg (fun h=>ex h.symm)]at hs;split at hs
    ·rename_i h;simp at hs;exact⟨h.symm,hs.symm⟩
    ·cases hs
   obtain⟨rfl,rfl⟩:=h9;refine⟨?_,by simp only[R],by simp[Top]⟩;rw[J8];simp only[Ne.symm ex,if_false,mkV];rw[e1,xY rfl];simp[Gh.put,ex]
end
section
variable {P:Program}{Γ:Ctx}{pn:kI}{E E':Env}{Q:Exit→Env→Prop}{d:Nat}{x y:Operand}{ty:TypeId}{ps:String}{af:Array Edge}{gd:Option (Nat×Bool)}
theorem zV1{α:Type}{t e:TypeId}{ti:TypeInfo}{s0 k:Nat}{f:α→T}{xs ys:List α}{mx:Option Operand}{h:Int}{u:T}(ht:ElT P t e ti k u)(hv:yG xs 0 h=VU ys)(h0:E s0=VU (L k f xs))(hy:opT E y=VU (I h))(hmx:mx=VV∨ ∃z,mx=VU z∧opT E z=VU (I h))(sd:(J3 d Γ.N&&(s0 != d))=VW):
  Ok P Γ ⟨VU d,.slice t (.tmp s0) VV (VU y) mx,ty,ps,af,gd⟩ E (E.app [(d,VU (L k f ys)),(s0,VU .any)] [(d,0),(s0,1)]):=by
 obtain⟨_,bQ,pe,rfl⟩:=qL hv;simp only[J1]at sd;have gk:s0≠d:=by simpa using sd.2
 obtain⟨n,rfl⟩:∃n:Nat,h=n:=⟨h.toNat,by omega⟩;have hn:n≤xs.length:=by omega
 intro S;refine wP.value rfl fun a w G gc=>?_
 obtain⟨e1,e2,_⟩:=gc.ent s0 _ h0;have dI:=(wI gc hy).1;have bo:a.eval (.tmp s0)=G.hd s0 []:=by rw[wL e1,xY rfl]
 have po:=ht.un;have ej:=ht.info;have gv:=ht.size;have bf:List.map f ((xs.drop (0:Int).toNat).take ((n:Int).toNat-(0:Int).toNat))=(xs.map f).take n:=by simp[Hw]
 rw[show L k f ((xs.drop (0:Int).toNat).take ((n:Int).toNat-(0:Int).toNat))=.sl k ((xs.map f).take n)by simp only[L,bf]];have e2':=e2;simp only[R]at e2;rcases e2 with⟨Vp,ad,h1⟩|⟨b,o0,cap,cs,e',h1,h2,h3,h4,h5,h6,h7,h8⟩
 ·have eH:xs=[]:=by simpa using Vp
  subst eH;simp at hn;subst hn;obtain⟨G',gp⟩:=zOZ gc (yF sd.1) (k:=k) (by rw[h0];rfl) gk ad;refine⟨_,w,?_,G',by simpa using gp⟩;rcases hmx with rfl|⟨z,rfl,hz⟩
  ·simp[execOp,Instr.sliceAt,Instr.slice,run_underlying po,bo,h1,dI,sizeOf,typeInfo,ej,Instr.sliceBounds,Instr.sliceBound,asIntOf]
  ·have mm:=(wI gc hz).1
   simp[execOp,Instr.sliceAt,Instr.slice,run_underlying po,bo,h1,dI,mm,sizeOf,typeInfo,ej,Instr.sliceBounds,Instr.sliceBound,asIntOf]
 ·rw[Jn]at h1 h3
  have di:n≤cap:=by omega
  have hcz:cap=0→n=0:=by omega
  rcases hmx with rfl|⟨z,rfl,hz⟩
  ·obtain⟨G',gp⟩:=zMy gc (yF sd.1) h0 gk ht.pos (by rw[Jn];exact h1) h2 (by rw[Jn];exact h3) h4 h5 h6 h7 h8 (h:=n) (cap':=cap) (by simpa using hn) di (Jf _)
   refine⟨_,w,?_,G',gp⟩;simp[execOp,Instr.sliceAt,Instr.slice,run_underlying po,bo,h1,dI,sizeOf,typeInfo,ej,Instr.sliceBounds,Instr.sliceBound,asIntOf,di,tL]
  ·have mm:=(wI gc hz).1
   obtain⟨G',gp⟩:=zMy gc (yF sd.1) h0 gk ht.pos (by rw[Jn];exact h1) h2 (by rw[Jn];exact h3) h4 h5 h6 h7 h8 (h:=n) (cap':=n) (by simpa using hn) (Jf _) di;refine⟨_,w,?_,G',gp⟩;simp[execOp,Instr.sliceAt,Instr.slice,run_underlying po,bo,h1,dI,mm,sizeOf,typeInfo,ej,Instr.sliceBounds,Instr.sliceBound,asIntOf,di,tL]
end
end Go.Ab

namespace Go.Ab
open Go
section
variable {P:Program}{Γ:Ctx}{pn:kI}{E E':Env}{Q:Exit→Env→Prop}{d:Nat}{x y:Operand}{ty:TypeId}{ps:String}{af:Array Edge}{gd:Option (Nat×Bool)}{ops:Array Oper}{os:List Oper}
theorem zN0{P:Program}{w:World}{t e:TypeId}{a:Option Addr}{n c:Nat}(m:Nat)(h:P.underlying t=VU (.slice e)):(Op.equalIn (m+1) t (.slice a n c) (.slice VV 0 0)).run P w=.ok a.isNone w:=by simp only[Op.equalIn,Sem.run_bind,run_underlying h];cases a<;>rfl
theorem RW.isnil{α:Type}{xt yt e:TypeId}{r k:Nat}{q:List Nat}{f:α→T}{xs:List α}{u:T}(hu:P.underlying xt=VU (.slice e))(hx:sD E x=VU (r,q,u))(mJ:u=.ro (L k f xs)∨u=L k f xs)(sd:J3 d Γ.N=VW)(hp:pn.ok (VU d)=VW)
  (h:∀b,(b=VW→xs=[])→RW P Γ pn ops os (E.app [(d,VU (B b))] [(d,0)]) Q):RW P Γ pn ops (⟨VU d,.binOp .eql xt x (.const (.slice VV 0 0)) yt,ty,ps,af,VV⟩::os) E Q:=by
 intro a w Q' hs fx hQ;obtain⟨S,hS,gY,G,gc⟩:=id hs;have fj:u.single=VW:=by rcases mJ with rfl|rfl<;>rfl
 obtain⟨h1,h2⟩:=kK gc hx fj;obtain⟨ad,n,c,h3,h4⟩:∃ad n c,a.eval x=.slice ad n c∧(ad.isNone=VW→xs=[]):=by
  rcases mJ with rfl|rfl
  ·obtain⟨ad,c,g1,_,_,g2⟩:=zCV h1
   refine⟨ad,_,c,by rw[h2,g1],fun hn=>?_⟩;apply Classical.byContradiction;intro gk;obtain⟨b,o',_,_,_,rfl,_⟩:=g2 (by simpa using gk);simp at hn
  ·simp only[R]at h1
   rcases h1 with⟨g1,ad,g2⟩|⟨b,_,cap,cs,e',g1,_⟩
   ·exact⟨ad,0,0,by rw[h2,g2],fun _=>by simpa using g1⟩
   ·exact⟨_,_,_,by rw[h2,g1],fun hn=>by simp at hn⟩
 have gw:(execOp a.eval ⟨VU d,.binOp .eql xt x (.const (.slice VV 0 0)) yt,ty,ps,af,VV⟩).run P w=.ok (.value (.bool ad.isNone)) w:=by have h5:(Op.equalIn 10000 xt (.slice ad n c) (.slice VV 0 0)).run P w=.ok ad.isNone w:=zN0 9999 hu;have h6:a.eval (.const (.slice VV 0 0))=.slice VV 0 0:=rfl;simp[execOp,h3,h6,eqGuard,binOp,zJL,h5]
 simp only[wpL,Region.wanted,if_true];refine .inl ?_;unfold Oper.wp;rw[gw,Oper.upon_value];have eS:=uG gc rfl (yF sd) (fun _=>.bool ad.isNone) (fun _=>rfl) (B ad.isNone) (.bool ad.isNone) (by simp[mkV,Gh.put]) (by simp[R,Gh.put]) (by simp[Top]);refine h ad.isNone h4 _ w Q' ⟨S,hS,gY,_,eS⟩ ?_ hQ;refine fx.frame hp fun s gQ=>?_
 have:d≠s:=fun e=>gQ (by rw[e])
 simp[Act.put,Array.getElem?_setIfInBounds_ne this]
theorem zJP{t e:TypeId}(hu:P.underlying t=VU (.slice e))(hx:opT E x=VU (.lit (.slice VV 0 0)))(sd:J3 d Γ.N=VW):Ok P Γ ⟨VU d,.call { callee:=.builtin .len,args:=#[x],argTypes:=#[t] },ty,ps,af,gd⟩ E (E.app [(d,VU (I 0))] [(d,0)]):=by
 intro S;refine zAG (.int .i64 0) rfl rfl (yF sd) fun a w G gc=>?_
 have h1:=(wI gc hx).1;simp[execOp,resolve,invoke,builtin,h1,Builtin.len_,run_underlying hu,goInt]
theorem zJQ{t e:TypeId}(hu:P.underlying t=VU (.slice e))(hx:opT E x=VU (.lit (.slice VV 0 0)))(sd:J3 d Γ.N=VW):Ok P Γ ⟨VU d,.call { callee:=.builtin .cap,args:=#[x],argTypes:=#[t] },ty,ps,af,gd⟩ E (E.app [(d,VU (I 0))] [(d,0)]):=by
 intro S;refine zAG (.int .i64 0) rfl rfl (yF sd) fun a w G gc=>?_
 have h1:=(wI gc hx).1;simp[execOp,resolve,invoke,builtin,h1,Builtin.cap_,run_underlying hu,goInt]
theorem zR7{t e:TypeId}{ti:TypeInfo}{u:T}{k:Nat}(ht:ElT P t e ti k u)(hx:opT E x=VU (.lit (.slice VV 0 0)))(hy:opT E y=VU (I 0))(sd:J3 d Γ.N=VW):Ok P Γ ⟨VU d,.slice t x VV (VU y) VV,ty,ps,af,gd⟩ E (E.app [(d,VU (.sl k []))] [(d,0)]):=by
 intro S;refine wP.value rfl fun a w G gc=>?_
 have h1:=(wI gc hx).1;have h2:=(wI gc hy).1;refine⟨.slice VV 0 0,w,?_,_,uG gc rfl (yF sd) (fun _=>.slice VV 0 0) (fun _=>rfl) (.sl k []) (.slice VV 0 0) (by simp[mkV,Gh.put]) (by simp[R,Gh.put]) (by simp[Top,xH,xZ])⟩;simp[execOp,Instr.sliceAt,Instr.slice,run_underlying ht.un,h1,h2,sizeOf,typeInfo,ht.info,Instr.sliceBounds,Instr.sliceBound,asIntOf]
theorem zN.nil(s k:Nat)(hs:E s=VU (.lit (.slice VV 0 0))):zN Γ E (E.app [(s,VU (.sl k []))] [(s,0)]):=by
 rintro a w ⟨S,hS,gY,G,gc⟩
 refine⟨S,hS,gY,G,?_⟩;have hk:zAF [(s,0)] G w G w:=⟨fun _ _ _=>rfl,fun _ _ _=>rfl,fun _ _ _ _ _ _ h _=>⟨h,rfl⟩,fun _ _ _ h _=>h,fun b cs e h=>⟨cs,h,rfl⟩,by intros;assumption⟩;refine tK gc rfl hk gc.mem (fun s' gQ=>⟨fun n hn=>?_,rfl⟩) fun s' t gQ=>?_
 ·simp at hn
  simp[Wr.find,hn.1]at gQ
 ·simp only[Wr.find]at gQ
  split at gQ
  ·rename_i e;subst e
   simp at gQ;subst gQ;obtain⟨h1,h2,_⟩:=gc.ent s _ hs;simp only[R]at h2;exact⟨by rw[h1];rfl,by simp only[R];exact .inl ⟨trivial,VV,h2⟩,by simp[Top,xH,xZ]⟩
  ·cases gQ
theorem uC{src dst:TypeId}{ds:TypeDesc}{k k':IntKind}{n:Int}(hs:P.underlying src=VU ds)(ht:P.underlying dst=VU (.int k'))(hx:opT E x=VU (IK k n))(sd:J3 d Γ.N=VW):
  Ok P Γ ⟨VU d,.convert src dst x,ty,ps,af,gd⟩ E (E.app [(d,VU (IK k' (k'.wrap n)))] [(d,0)]):=fun _=>zRp src dst ds x k k' n rfl rfl (yF sd) hs ht hx
theorem zTP{k:IntKind}{m n:Int}{xt yt:TypeId}(hx:opT E x=VU (IK k m))(hy:opT E y=VU (IK k n))(sd:J3 d Γ.N=VW):Ok P Γ ⟨VU d,.binOp .add xt x y yt,ty,ps,af,gd⟩ E (E.app [(d,VU (IK k (k.wrap (m+n))))] [(d,0)]):=
 fun _=>tT .add xt yt x y k m n _ rfl rfl (yF sd) hx hy rfl
theorem zTQ{k:IntKind}{m n:Int}{xt yt:TypeId}(hx:opT E x=VU (IK k m))(hy:opT E y=VU (IK k n))(sd:J3 d Γ.N=VW):Ok P Γ ⟨VU d,.binOp .mul xt x y yt,ty,ps,af,gd⟩ E (E.app [(d,VU (IK k (k.wrap (m*n))))] [(d,0)]):=
 fun _=>tT .mul xt yt x y k m n _ rfl rfl (yF sd) hx hy rfl
theorem zTR{k:IntKind}{m n:Int}{xt yt:TypeId}(hx:opT E x=VU (IK k m))(hy:opT E y=VU (IK k n))(sd:J3 d Γ.N=VW):Ok P Γ ⟨VU d,.binOp .sub xt x y yt,ty,ps,af,gd⟩ E (E.app [(d,VU (IK k (k.wrap (m-n))))] [(d,0)]):=
 fun _=>tT .sub xt yt x y k m n _ rfl rfl (yF sd) hx hy rfl
theorem zPa{k:IntKind}{m n:Int}{xt yt:TypeId}(hx:opT E x=VU (IK k m))(hy:opT E y=VU (IK k n))(sd:J3 d Γ.N=VW):Ok P Γ ⟨VU d,.binOp .gtr xt x y yt,ty,ps,af,gd⟩ E (E.app [(d,VU (B (decide (m> n))))] [(d,0)]):=
 fun _=>tT .gtr xt yt x y k m n _ rfl rfl (yF sd) hx hy rfl
def zFP(k:IntKind)(m n:Int):Int:=k.wrap ((BitVec.ofInt k.bits m &&& BitVec.ofInt k.bits n).toNat:Int)
theorem zTS{k:IntKind}{m n:Int}{xt yt:TypeId}(hx:opT E x=VU (IK k m))(hy:opT E y=VU (IK k n))(sd:J3 d Γ.N=VW):Ok P Γ ⟨VU d,.binOp .and xt x y yt,ty,ps,af,gd⟩ E (E.app [(d,VU (IK k (zFP k m n)))] [(d,0)]):=by
 intro S;refine zAG (.int k (zFP k m n)) rfl rfl (yF sd) fun a w G gc=>?_
 have h1:=(wI gc hx).1;have h2:=(wI gc hy).1;simp[execOp,h1,h2,eqGuard,binOp,Op.intBits,zFP]
theorem zCg{k k':IntKind}{m n:Int}{xt yt:TypeId}(hn:0≤n)(hx:opT E x=VU (IK k m))(hy:opT E y=VU (IK k' n))(sd:J3 d Γ.N=VW):Ok P Γ ⟨VU d,.binOp .shr xt x y yt,ty,ps,af,gd⟩ E (E.app [(d,VU (IK k (m.fdiv (2 ^ (min n.toNat k.bits)))))] [(d,0)]):=by
 intro S;refine zAG (.int k (m.fdiv (2 ^ (min n.toNat k.bits)))) rfl rfl (yF sd) fun a w G gc=>?_
 have h1:=(wI gc hx).1;have h2:=(wI gc hy).1;have h3:¬n<0:=by omega
 simp[execOp,h1,h2,eqGuard,binOp,Op.shift,h3]
end
end Go.Ab

namespace Go.Ab
open Go
structure zPb (P:Program) (f:Field) (i:Nat):Prop where
 name:f.name≠ "_"
 off:f.offset=i
 ty:P.underlying f.type=VU (.int .i64)
class zR8 (P:Program) (t:TypeId):Prop where
 h:∃f0 f1 f2 f3:Field,P.underlying t=VU (.struct #[f0,f1,f2,f3])∧zPb P f0 0∧zPb P f1 1∧zPb P f2 2∧zPb P f3 3
 st:P.stoodInHeld t=VX
 gd:P.eqGuardType P.depth t=VX
theorem zEy{P:Program}{w:World}{f:Field}{i:Nat}(h:zPb P f i)(cs:Array Value)(v:Value)(hv:cs[i]? =VU v):(part f.type cs f.offset).run P w=.ok v w:=by simp[part,zAi h.ty,zEU,h.off,hv]
theorem zPc{P:Program}{w:World}{t:TypeId}(h:zR8 P t)(a b c d a' b' c' d':Int)(m:Nat):
  (Op.equalIn (m+2) t (.agg #[.int .i64 a,.int .i64 b,.int .i64 c,.int .i64 d]) (.agg #[.int .i64 a',.int .i64 b',.int .i64 c',.int .i64 d'])).run P w=.ok (a==a'&&(b==b'&&(c==c'&&d==d'))) w:=by
 obtain⟨f0,f1,f2,f3,h1,g0,g1,g2,g3⟩:=h.h;have k0:=fun(x y:Int)=>zFX (P:=P) (w:=w) (a:=x) (b:=y) m g0.ty
 have k1:=fun(x y:Int)=>zFX (P:=P) (w:=w) (a:=x) (b:=y) m g1.ty
 have k2:=fun(x y:Int)=>zFX (P:=P) (w:=w) (a:=x) (b:=y) m g2.ty
 have k3:=fun(x y:Int)=>zFX (P:=P) (w:=w) (a:=x) (b:=y) m g3.ty
 have gJ:=h.st;rw[Op.equalIn];simp only[Sem.run_bind,run_underlying h1];have q0:=fun(a b c d:Int)=>zEy (w:=w) g0 #[.int .i64 a,.int .i64 b,.int .i64 c,.int .i64 d] (.int .i64 a) rfl
 have q1:=fun(a b c d:Int)=>zEy (w:=w) g1 #[.int .i64 a,.int .i64 b,.int .i64 c,.int .i64 d] (.int .i64 b) rfl
 have q2:=fun(a b c d:Int)=>zEy (w:=w) g2 #[.int .i64 a,.int .i64 b,.int .i64 c,.int .i64 d] (.int .i64 c) rfl
 have q3:=fun(a b c d:Int)=>zEy (w:=w) g3 #[.int .i64 a,.int .i64 b,.int .i64 c,.int .i64 d] (.int .i64 d) rfl
 by_cases e0:a=a'<;>by_cases e1:b=b'<;>by_cases e2:c=c'<;>by_cases e3:d=d'<;>
  simp[gJ,g0.name,g1.name,g2.name,g3.name,q0,q1,q2,q3,k0,k1,k2,k3,e0,e1,e2,e3]
section
variable {P:Program}{Γ:Ctx}{E E':Env}{d:Nat}{x y:Operand}{ty:TypeId}{ps:String}{af:Array Edge}{gd:Option (Nat×Bool)}
theorem zTT{t t':TypeId}{s s':Nat}{a b c e a' b' c' e':Int}(h:zR8 P t)(hx:E s=VU (.agg [I a,I b,I c,I e]))(hy:E s'=VU (.agg [I a',I b',I c',I e']))(sd:J3 d Γ.N=VW):
  Ok P Γ ⟨VU d,.binOp .eql t (.tmp s) (.tmp s') t',ty,ps,af,gd⟩ E (E.app [(d,VU (B (a==a'&&(b==b'&&(c==c'&&e==e')))))] [(d,0)]):=by
 intro S;refine zAG _ rfl rfl (yF sd) fun A w G gc=>?_
 obtain⟨h1,h2,_⟩:=gc.ent s _ hx;obtain⟨h3,h4,_⟩:=gc.ent s' _ hy;simp only[R,RF]at h2 h4;have e1:A.eval (.tmp s)=.agg #[.int .i64 a,.int .i64 b,.int .i64 c,.int .i64 e]:=by rw[wL h1];simp[mkV,yD,vals,h2]
 have e2:A.eval (.tmp s')=.agg #[.int .i64 a',.int .i64 b',.int .i64 c',.int .i64 e']:=by rw[wL h3];simp[mkV,yD,vals,h4]
 have h5:(Op.equalIn 10000 t (.agg #[.int .i64 a,.int .i64 b,.int .i64 c,.int .i64 e]) (.agg #[.int .i64 a',.int .i64 b',.int .i64 c',.int .i64 e'])).run P w=_:=zPc (w:=w) h a b c e a' b' c' e' 9998;have hg:=h.gd;simp[execOp,e1,e2,eqGuard,binOp,zJL,h5,hg]
end
end Go.Ab

namespace Go.Ab
open Go
abbrev vI(n:Int):Value:=.int .i64 n
section
variable {Γ:Ctx}{E:Env}
theorem zJR{G:Gh}{tmps:Array Value}{w w':World}(gc:Rep Γ E G tmps w){s0:Nat}{xs us:List Int}(ef:E s0=VU (L 1 I xs))(gm:us.length=xs.length)
  {b o0 cap:Nat}{cs cs':Array Value}{e:TypeId}(h1:G.hd s0 []=.slice (VU ⟨b,o0,VV⟩) xs.length cap)(h2:w.heap[b]? =VU (.cells cs e (0,0)))(h3:xs.length≤cap)(h4:cap≤maxLen)(h5:o0+cap*1≤cs.size)(h6:G.ow b=VU (s0,[]))
  (h7:∀o,o0+xs.length*1≤o→o<o0+cap*1→G.lb b o=VU (VW,s0,[]))(h8:RL Γ.St G w s0 (xs.map I) [] 0 b o0 1)
  (k1:w'.heap[b]? =VU (.cells cs' e (0,0)))(k2:cs'.size=cs.size)(k3:∀b',b'≠b→w'.heap[b']? =w.heap[b']?)(k4:w'.heap.size=w.heap.size)(ko:w'.os=w.os)(kq:w'.output=w.output)(k5:∀(i:Nat) u,us[i]? =VU u→cs'[o0+i]? =VU (vI u)):
  ∃G',Rep Γ (E.app [(s0,VU (L 1 I us))] [(s0,1)]) G' tmps w':=by
 have hm:=gc.mem;obtain⟨e1,_,_⟩:=gc.ent s0 _ ef;have gH:=hm.ow b _ h6
 let G':Gh:={ G with hd:=fun s z=>if s=s0 then(match z with
  | [i]=>(match us[i]? with
   |some u=>vI u
   |none=>G.hd s0 z)
  |_=>G.hd s0 z)else G.hd s z }
 have hB:Blk w w':=by
  intro b' cs2 e2 hb
  by_cases fJ:b'=b
  ·subst fJ
   rw[h2]at hb;simp at hb;obtain⟨rfl,rfl⟩:=hb;exact⟨cs',k1,k2⟩
  ·exact⟨cs2,by rw[k3 b' fJ];exact hb,rfl⟩
 have gy:zAF [(s0,1)] G w G' w':=by
  refine⟨fun s p ho=>?_,fun _ _ _=>rfl,fun b' o f s p gS hl hs=>⟨hl,?_⟩,fun _ _ _ hl _=>hl,hB,fun b' _ _ ms c _ _ hb=>by
   by_cases fJ:b'=b
   ·subst fJ;rw[h2]at hb;cases hb
   ·rw[k3 b' fJ];exact hb⟩
  ·by_cases h:s=s0
   ·subst h
    have:p=[]:=Js (by have:=ho 1 (by simp);omega);subst this;simp[G']
   ·simp[G',h]
  ·have ex:s≠s0:=fun e=>hs 1 (by simp[e])
   obtain⟨y,hy⟩:=gS;have fJ:b'≠b:=by
    rintro rfl
    rw[h6]at hy;simp at hy;exact ex hy.1.symm
   simp[yX,World.cell?,k3 b' fJ]
 have gE:Mem Γ G' w':=by
  refine⟨fun s z=>?_,fun b' o l hl=>?_,fun b' l hl=>?_,fun b' x hx=>?_,fun b' h h'=>?_,by rw[k4];exact hm.sz,hm.bk.trans hB ko kq⟩
  ·show(if _ then _ else _:Value).oneCell'=VW
   split
   ·split
    ·split
     ·rfl
     ·exact hm.one _ _
    ·exact hm.one _ _
   ·exact hm.one _ _
  ·have:=hm.lb b' o l hl;exact⟨by rw[k4];exact this.1,this.2⟩
  ·have:=hm.ow b' l hl;exact⟨by rw[k4];exact this.1,this.2⟩
  ·have:b'≠b:=by rintro rfl;rw[gH.2.2]at hx;cases hx
   rw[k3 b' this];exact hm.st b' x hx
  ·have:b'≠b:=by
    rintro rfl
    rcases gH.2.1 with h0|h0
    ·omega
    ·exact h' h0
   rw[k3 b' this];exact hm.fr b' h h'
 refine⟨G',tK gc rfl gy gE ?_ ?_⟩
 ·intro s hs
  rw[jP]at hs;split at hs
  ·cases hs
  ·rename_i gk
   exact⟨fun n hn=>gk (by simp at hn;exact hn.1.symm),rfl⟩
 ·intro s t' hs
  rw[jP]at hs;split at hs
  ·rename_i he;subst he
   simp at hs;subst hs;refine⟨by rw[e1];simp[mkV,G'],?_,by simp only[Top];exact zDN zMs us⟩;simp only[R];refine .inr ⟨b,o0,cap,cs',e,by simp[G',h1,gm],k1,by simp[gm];exact h3,h4,by omega,h6,fun o cY cX=>h7 o (by simpa[gm]using cY) cX,?_⟩;refine zII _ [] 0 b o0 fun i x hx=>?_
   rw[Jr,Kg]at hx;obtain⟨u,hu,rfl⟩:=hx;have hi:=(J9.1 hu).1;obtain⟨g1,g2,_⟩:=zAf _ [] 0 b o0 1 i (I xs[i]) h8 (by simp[show i<xs.length by omega]);simp only[J6,Hi,Loc]at g1 ⊢
   refine⟨⟨g1.1,g1.2.1,?_⟩,rfl,by simp[R,G',hu]⟩;have:=k5 i u hu;simp[yX,World.cell?,k1,this,G',hu]
  ·cases hs
def zGK(P:Program)(Γ:Ctx)(E:Env)(y:Operand)(ys:List Int):Prop:=∀(a:Act)(w:World)(G:Gh),Rep Γ E G a.tmps w→ ∃xa c,a.eval y=.slice xa ys.length c∧
 ∀(n:Nat),n≤ys.length→(Builtin.firstCells 1 n (.slice xa ys.length c)).run P w=.ok ((ys.take n).map vI).toArray w
theorem zCv{P:Program}{w:World}{b o:Nat}{cs:Array Value}{e:TypeId}{fr:Nat×Nat}(hb:w.heap[b]? =VU (.cells cs e fr))(ys:List Int)(hv:∀(i:Nat) u,ys[i]? =VU u→cs[o+i]? =VU (vI u))(n:Nat)(hn:n≤ys.length)(len cap:Nat):
  (Builtin.firstCells 1 n (.slice (VU ⟨b,o,VV⟩) len cap)).run P w=.ok ((ys.take n).map vI).toArray w:=by
 refine run_firstCells_some (P:=P) w 1 n ⟨b,o,VV⟩ len cap _ (by simp;omega) fun j v hj=>?_
 rw[Jr,Kg]at hj;obtain⟨u,hu,rfl⟩:=hj;rw[Li]at hu;split at hu
 ·rw[tL]
  have:=hv j u hu;simp[World.cell?,hb,this]
 ·cases hu
theorem zCI{P:Program}{w:World}{a:Option Addr}{c:Nat}:(Builtin.firstCells 1 0 (.slice a 0 c)).run P w=.ok #[] w:=by cases a<;>simp[Builtin.firstCells,loadCells,loadCellsFrom]
theorem zGK.ro{P:Program}{y:Operand}{ys:List Int}{r:Nat}{q:List Nat}(h:sD E y=VU (r,q,.ro (L 1 I ys))):zGK P Γ E y ys:=fun a w G gc=>by
 obtain⟨h1,h2⟩:=kK gc h rfl;obtain⟨xa,c,g1,_,_,g2⟩:=zCV h1;rw[Jn]at g1;refine⟨xa,c,by rw[h2,g1],fun n hn=>?_⟩
 by_cases hy:ys=[]
 ·subst hy
  simp at hn;subst hn;simpa using zCI
 ·obtain⟨b,o,cs,e,fr,rfl,g3,g4⟩:=g2 (by simpa using hy)
  refine zCv (gc.mem.st b _ g3) ys (fun i u hu=>?_) n hn _ _;have:=zFT _ cs o 1 i (I u) g4 (by simp[hu]);simp only[RoC,Hi]at this;exact this.1
theorem zMz{G:Gh}{w:World}{s b o0:Nat}{q:List Nat}{cs:Array Value}{e:TypeId}{xs:List Int}{St:Stb}(h2:w.heap[b]? =VU (.cells cs e (0,0)))(h8:RL St G w s (xs.map I) q 0 b o0 1)(i:Nat)(u:Int)(hu:xs[i]? =VU u):cs[o0+i]? =VU (vI u):=by obtain⟨g1,_,g3⟩:=zAf _ q 0 b o0 1 i (I u) h8 (by simp[hu]);simp only[Loc,R,J6,Hi]at g1 g3;have:=g1.2.2;simp only[yX,World.cell?,h2]at this;simpa[g3]using this
theorem zGK.sub{P:Program}{s r:Nat}{q:List Nat}{tr:T}{xs ys:List Int}{l h:Int}(hs:E s=VU (.sub r q 1 l.toNat h.toNat))(hr:E r=VU tr)(hg:tr.get q.reverse=VU (L 1 I xs))(hv:yG xs l h=VU ys):zGK P Γ E (.tmp s) ys:=fun a w G gc=>by
 obtain⟨k1,k2,k3,rfl⟩:=qL hv;obtain⟨e1,e2,_⟩:=gc.ent s _ hs;obtain⟨_,e4,_⟩:=gc.ent r _ hr;simp only[R]at e2;have h5:=(zB8 q.reverse tr _ [] e4 hg).1;simp only[rp,Kf,Ja,R]at h5;have gm:((xs.drop l.toNat).take (h.toNat-l.toNat)).length=h.toNat-l.toNat:=by simp;omega
 rw[gm];have bo:a.eval (.tmp s)=G.hd s []:=by rw[wL e1,xY rfl]
 rcases h5 with⟨g1,ad,g2⟩|⟨b,o0,cap,cs,e,g1,g2,g3,_,_,_,_,g8⟩
 ·have hy:xs=[]:=by simpa using g1
  subst hy;have hl0:l.toNat=0:=by simp at k3;omega
  have bM:h.toNat=0:=by simp at k3;omega
  refine⟨ad,0,by rw[bo,e2,g2,hl0,bM];simp[zB6],fun n hn=>?_⟩;simp[bM]at hn;subst hn;rw[hl0,bM];simpa using zCI
 ·rw[Jn]at g1 g3
  refine⟨if cap=l.toNat then VU ⟨b,o0,VV⟩else VU ⟨b,o0+l.toNat,VV⟩,cap-l.toNat,by rw[bo,e2,g1];simp only[zB6,Ge,tL,Hi],fun n hn=>?_⟩;split
  ·have:n=0:=by omega
   subst this;simp[Builtin.firstCells,loadCells,loadCellsFrom]
  ·refine zCv g2 _ (fun i u hu=>?_) n (by rw[gm];exact hn) _ _
   rw[Li]at hu;split at hu
   ·rw[L6]at hu
    rw[Lf];exact zMz g2 g8 _ u hu
   ·cases hu
def zD5(Γ:Ctx)(E:Env)(x:Operand)(s0 lo hi:Nat):Prop:=∀(a:Act)(w:World)(G:Gh),Rep Γ E G a.tmps w→a.eval x=zB6 (G.hd s0 []) 1 lo hi
theorem zD5.slot{s0:Nat}{xs:List Int}(h:E s0=VU (L 1 I xs)):zD5 Γ E (.tmp s0) s0 0 xs.length:=fun a w G gc=>by obtain⟨e1,e2,_⟩:=gc.ent s0 _ h;obtain⟨ad,c,g⟩:=zID e2;rw[Jn]at g;rw[wL e1,xY rfl,g];simp[zB6];intro;cases ad<;>simp[Addr.add]
theorem zD5.same{s s0:Nat}{xs:List Int}(hs:E s=VU (.same s0 []))(h:E s0=VU (L 1 I xs)):zD5 Γ E (.tmp s) s0 0 xs.length:=fun a w G gc=>by obtain⟨e1,e2,_⟩:=gc.ent s _ hs;have:=zD5.slot h a w G gc;obtain⟨e3,_,_⟩:=gc.ent s0 _ h;simp only[R]at e2;rw[wL e3,xY rfl]at this;rw[wL e1,xY rfl,e2];exact this
theorem zD5.sub{s s0 lo hi:Nat}(hs:E s=VU (.sub s0 [] 1 lo hi)):zD5 Γ E (.tmp s) s0 lo hi:=fun a w G gc=>by obtain⟨e1,e2,_⟩:=gc.ent s _ hs;simp only[R]at e2;rw[wL e1,xY rfl,e2]
end
theorem zN1{α:Type}{xs ys:List α}{l h:Int}(hv:yG xs l h=VU ys):l.toNat≤h.toNat:=by have:=qL hv;omega
theorem zN2{α:Type}{xs ys:List α}{l h:Int}(hv:yG xs l h=VU ys):h.toNat≤xs.length:=by have:=qL hv;omega
theorem zM0{α:Type}(l z:List α)(lo i:Nat)(ev:lo+z.length≤l.length):(l.take lo++z++l.drop (lo+z.length))[i]? =if i<lo then l[i]? else if i<lo+z.length then z[i-lo]? else l[i]?:=by
 have hm:min lo l.length=lo:=by omega
 by_cases c1:i<lo
 ·rw[if_pos c1,Jd,L1 (by simp;omega),Li,if_pos c1]
 ·rw[if_neg c1]
  by_cases c2:i<lo+z.length
  ·rw[if_pos c2,Jd,Jc (by simp;omega),Kj,hm,L1 (by omega)]
  ·rw[if_neg c2,Jd,Jc (by simp;omega),Kj,hm,Jc (by omega),L6]
   congr 1;omega
def qM(xs:List Int)(lo:Nat)(zs:List Int):List Int:=xs.take lo++zs++xs.drop (lo+zs.length)
theorem zM1{P:Program}{Γ:Ctx}{E:Env}{d s0 lo hi:Nat}{x y:Operand}{ty:TypeId}{ps:String}{af:Array Edge}{gd:Option (Nat×Bool)}{t t2 e:TypeId}{ti:TypeInfo}{u:T}{xs ys:List Int}(ht:ElT P t e ti 1 u)(h0:E s0=VU (L 1 I xs))(hx:∀S,zD5 (Γ.at S) E x s0 lo hi)(hy:∀S,zGK P (Γ.at S) E y ys)(h1:lo≤hi)(h2:hi≤xs.length)(sd:(J3 d Γ.N&&(s0 != d))=VW):
  Ok P Γ ⟨VU d,.call { callee:=.builtin .copy,args:=#[x,y],argTypes:=#[t,t2] },ty,ps,af,gd⟩ E ((E.app [(s0,VU (L 1 I (qM xs lo (ys.take (hi-lo)))))] [(s0,1)]).app [(d,VU (I ((min ys.length (hi-lo):Nat):Int)))] [(d,0)]):=by
 simp only[J1]at sd;have gk:s0≠d:=by simpa using sd.2
 intro S;refine wP.value rfl fun a w G gc=>?_
 obtain⟨e1,e2,_⟩:=gc.ent s0 _ h0;obtain⟨xa,c,g1,g2⟩:=hy S a w G gc;have g3:=hx S a w G gc;have fb:min ys.length (hi-lo)≤ys.length:=by omega
 have g4:=g2 _ fb;have fS:ys.take (hi-lo)=ys.take (min ys.length (hi-lo)):=by rw[List.take_eq_take_iff];omega
 rw[fS]
 generalize hn:min ys.length (hi-lo)=n at*
 have dF:(ys.take n).length=n:=by simp;omega
 have gm:(qM xs lo (ys.take n)).length=xs.length:=by simp[qM,dF];omega
 have key:∃w',(Builtin.copy_ #[t,t2] ty #[a.eval x,a.eval y]).run P w=.ok (goInt n) w'∧ ∃G',Rep (Γ.at S) (E.app [(s0,VU (L 1 I (qM xs lo (ys.take n))))] [(s0,1)]) G' a.tmps w':=by
  have e2':=e2;simp only[R]at e2;rcases e2 with⟨k1,ad,k2⟩|⟨b,o0,cap,cs,e',k1,k2,k3,k4,k5,k6,k7,k8⟩
  ·have eH:xs=[]:=by simpa using k1
   subst eH;simp at h2;subst h2;have dj:n=0:=by omega
   subst dj;have ev:lo=0:=by omega
   subst ev;refine⟨w,?_,G,?_⟩
   ·rw[g3,k2,g1]
    cases ad<;>cases xa<;>simp[zB6,Builtin.copy_,run_underlying ht.un,Builtin.lenOf,sizeOf,typeInfo,ht.info,Builtin.firstCells,loadCells,loadCellsFrom,storeCells]
   ·refine tK gc rfl ⟨fun _ _ _=>rfl,fun _ _ _=>rfl,fun _ _ _ _ _ _ h _=>⟨h,rfl⟩,fun _ _ _ h _=>h,fun b cs e h=>⟨cs,h,rfl⟩,by intros;assumption⟩ gc.mem (fun s hs=>⟨fun n hn=>by simp at hn;simp[Wr.find,hn.1]at hs,rfl⟩) fun s t' hs=>?_
    rw[jP]at hs;split at hs
    ·rename_i he;subst he
     simp at hs;subst hs;simpa[qM]using gc.ent s0 _ h0
    ·cases hs
  ·rw[Jn]at k1 k3 k7
   have gv:o0+cap≤cs.size:=by omega
   have gJ:=run_storeCells_at P b (o0+lo) e' ((ys.take n).map vI) 0 cs w k2 (by simp;omega) (by intro v hv;obtain⟨u,_,rfl⟩:=Jb.1 hv;rfl);simp only[Gx,Jn]at gJ
   generalize hw':w.setRow b (cs.toList.take (o0+lo)++(ys.take n).map vI++cs.toList.drop (o0+lo+(ys.take n).length)).toArray=w' at gJ
   have gK:cs.toList.length=cs.size:=K0 ..
   by_cases pH:cap=lo
   ·have dj:n=0:=by omega
    subst dj;refine⟨w,?_,G,?_⟩
    ·rw[g3,k1,g1]
     have g5:(Builtin.firstCells 1 0 (.slice xa ys.length c)).run P w=.ok #[] w:=by simpa using g4
     simp[zB6,Builtin.copy_,run_underlying ht.un,Builtin.lenOf,sizeOf,typeInfo,ht.info,ht.size,show hi-lo=0 by omega,g5,storeCells,pH]
    ·refine tK gc rfl ⟨fun _ _ _=>rfl,fun _ _ _=>rfl,fun _ _ _ _ _ _ h _=>⟨h,rfl⟩,fun _ _ _ h _=>h,fun b cs e h=>⟨cs,h,rfl⟩,by intros;assumption⟩ gc.mem (fun s hs=>⟨fun n hn=>by simp at hn;simp[Wr.find,hn.1]at hs,rfl⟩) fun s t' hs=>?_
     rw[jP]at hs;split at hs
     ·rename_i he;subst he
      simp at hs;subst hs;simpa[qM]using gc.ent s0 _ h0
     ·cases hs
   ·refine⟨w',?_,zJR gc h0 gm k1 k2 k3 k4 k5 k6 k7 k8 (by rw[←hw'];exact setRow_heap w b cs _ e' _ k2) ?_ (fun b' h=>by rw[←hw'];exact setRow_other w b b' _ h) (by rw[←hw'];exact size_setRow w b _) (by rw[←hw'];rfl) (by rw[←hw'];rfl) fun i v hv=>?_⟩
    ·rw[g3,k1,g1]
     have h9:Nat.min ys.length (hi-lo)=n:=hn;simp only[zB6,pH,if_false,Ge,tL,Hi];simp only[Builtin.copy_];rw[Hw]at gJ;simp[run_underlying ht.un,Builtin.lenOf,sizeOf,typeInfo,ht.info,ht.size,h9,g4,gJ]
    ·simp[dF];omega
    ·rw[qM,zM0 _ _ _ _ (by rw[dF];omega)]at hv
     have h11:o0+lo+((ys.take n).map vI).length≤cs.toList.length:=by simp;omega
     have h10:=zM0 cs.toList ((ys.take n).map vI) (o0+lo) (o0+i) h11;rw[Jn]at h10;rw[List.getElem?_toArray,h10];have pj:=fun i u hu=>zMz k2 k8 i u hu
     by_cases c1:i<lo
     ·rw[if_pos c1]at hv
      rw[if_pos (by omega)];simpa using pj i v hv
     ·rw[if_neg c1]at hv
      rw[if_neg (by omega)]
      by_cases c2:i<lo+(ys.take n).length
      ·rw[if_pos c2]at hv
       rw[if_pos (by omega),show o0+i-(o0+lo)=i-lo from by omega];rw[Jr,hv];rfl
      ·rw[if_neg c2]at hv
       rw[if_neg (by omega)];simpa using pj i v hv
 obtain⟨w',gw,G',gp⟩:=key;refine⟨_,w',?_,_,uG gp rfl (yF sd.1) (fun _=>vI n) (fun _=>rfl) (I n) (vI n) (by simp[mkV,Gh.put]) (by simp[R,Gh.put]) (by simp[Top])⟩;simp[execOp,resolve,invoke,builtin,gw,goInt]
end Go.Ab

namespace Go.Ab
open Go
theorem zHZ{G G':Gh}{s d:Nat}(hd:∀z,G'.hd d z=G.hd s z):(xs:List T)→yN xs=VW→ ∀(j:Nat),zA8 G' d (cpF s xs [] j) [] j=zA8 G s xs [] j
 | [],_,_=>by rfl
 |x::xs,h,j=>by
  simp only[yN,J1]at h;simp only[cpF,zA8];have gV:∀ys,x≠.tup ys:=by rintro ys rfl;grind[T.okTup]
  have h1:=zBh (G:=G) (G':=G') (s:=s) (d:=d) x [j] [j] gV (fun z=>hd _);have h2:∀ys,cpT s x [j]≠.tup ys:=by intro ys;cases x<;>simp[cpT]
  rw[zA9 _ _ _ _ h2]at h1;rw[h1,zHZ hd xs h.2 (j+1)]
section
variable {P:Program}{Γ:Ctx}{E E':Env}{d:Nat}{x y:Operand}{ty:TypeId}{ps:String}{af:Array Edge}{gd:Option (Nat×Bool)}
theorem zPd{s:Nat}{ts:List T}(hx:E s=VU (.tup ts))(sd:(J3 d Γ.N&&yN ts&&(s != d)&&zGi [(d,0)] (cpF s ts [] 0))=VW):Ok P Γ ⟨VU d,.move (.tmp s),ty,ps,af,gd⟩ E (E.app [(d,VU (.tup (cpF s ts [] 0)))] [(d,0)]):=by
 simp only[J1]at sd;obtain⟨⟨⟨s1,s2⟩,s3⟩,s4⟩:=sd;have gk:s≠d:=by grind
 intro S;refine wP.value rfl fun a w G gc=>?_
 obtain⟨h1,h2,_⟩:=gc.ent s _ hx;simp only[R]at h2;have hk:=G.put_keep (w:=w) (w':=w) rfl d (fun z=>G.hd s z);have hz:∀z,(G.put d (fun z=>G.hd s z)).hd d z=G.hd s z:=by grind[Gh.put_self]
 have htop:∀(xs:List T)(j:Nat),tA (cpF s xs [] j):=by
  intro xs
  induction xs with
  |nil=>intro j;simp only[cpF,tA]
  |cons x xs ih=>intro j;simp only[cpF,tA];grind[jS]
 refine⟨mkV G s (.tup ts) [],w,?_,_,uG gc rfl (yF s1) (fun z=>G.hd s z) (fun z=>gc.mem.one _ _) _ _ (by grind[mkV,zHZ])
  (by simp only[R];exact zIB (fun p=>G.put_other _ p gk) ts [] [] 0 (fun z=>hz _) (xZ.mono (fun r p hr=>⟨hk.hd r p hr,hk.ad r p hr⟩) _ (by grind[zGj])) h2) (by simp only[Top];grind)⟩
 simp[execOp,wL h1]
end
end Go.Ab

namespace Go.Ab
open Go
section
variable (ds r:Nat)
inductive zN3:Env→List (Nat×List Nat)→Env→Prop where
 |nil (E:Env):zN3 E [] E
 |cons {E E':Env}{l:List (Nat×List Nat)} (j:Nat) (q:List Nat) (td td' tr tr' u:T) (hd:E ds=VU td) (hg:td.get [j]=VU (.same r q)) (hr:E r=VU tr) (hp:tr.get q.reverse=VU u) (ea:zW u)
   (mK:td.set [j] u=td') (pu:tr.set q.reverse .any=tr') (sd:(u.single&&td.okB [(ds,2),(r,q.length+1)]&&tr.okB [(ds,2),(r,q.length+1)]&&wZ td&&wZ tr&&(ds != r)&& !q.isEmpty)=VW)
   (h:zN3 (E.app [(ds,VU td'),(r,VU tr')] [(ds,2),(r,q.length+1)]) l E'):zN3 E ((j,q)::l) E'
inductive zIa:Env→List (Nat×List Nat)→Env→Prop where
 |nil (E:Env):zIa E [] E
 |cons {E E':Env}{l:List (Nat×List Nat)} (j:Nat) (q:List Nat) (td td' tr tr' u v0:T) (hd:E ds=VU td) (hg:td.get [j]=VU u) (hr:E r=VU tr) (hp:tr.get q.reverse=VU v0) (ea:zW u)
   (mK:td.set [j] .any=td') (pu:tr.set q.reverse u=tr') (sd:(u.single&&v0.single&&td.okB [(r,q.length+1),(ds,2)]&&tr.okB [(r,q.length+1),(ds,2)]&&wZ td&&wZ tr&&(ds != r)&& !q.isEmpty)=VW)
   (h:zIa (E.app [(r,VU tr'),(ds,VU td')] [(r,q.length+1),(ds,2)]) l E'):zIa E ((j,q)::l) E'
end
theorem zR9{g z:List Nat}(h:g<:+z)(hn:z≠g):g.length<z.length:=by
 have h1:=h.length_le;rcases Jt g.length z.length with h2|h2
 ·exact h2
 ·exact absurd (h.eq_of_length (by omega)).symm hn
theorem zN3.rep{Γ:Ctx}{tmps:Array Value}{w:World}{ds r:Nat}{E E':Env}{l:List (Nat×List Nat)}(h:zN3 ds r E l E'):∀{G:Gh},Rep Γ E G tmps w→
  ∃G',Rep Γ E' G' tmps w∧(∀z,G'.hd r z=G.hd r z)∧(∀j,G'.hd ds [j]=G.hd ds [j])∧ ∀x∈l,G.hd ds [x.1]=G.hd r x.2:=by
 induction h with
 |nil E=>intro G hr;exact⟨G,hr,fun _=>rfl,fun _=>rfl,by simp⟩
 |cons j q td td' tr tr' u hd hg hr hp ea mK pu sd _ ih=>
  intro G gc;simp only[J1]at sd;obtain⟨⟨⟨⟨⟨⟨s1,s2⟩,s3⟩,s4⟩,s5⟩,s6⟩,s7⟩:=sd;have gk:ds≠r:=by grind
  have hq:q≠[]:=by grind
  have gO:G.hd ds [j]=G.hd r q:=by have:=(zB8 [j] td _ [] (gc.ent ds td hd).2.1 hg).1;simpa[rp,R]using this
  obtain⟨h1,h2⟩:=zDJ gc ds [j] r q td tr u (.same r q) hd (by grind) rfl gO hr hp s1 ea gk (by omega) (by omega) s4 s5;rw[if_neg hq,show([j]:List Nat).reverse=[j]from rfl,mK,pu]at h1;obtain⟨G',g1,g2,g3,g4⟩:=ih (by omega)
  grind
theorem zIa.rep{Γ:Ctx}{tmps:Array Value}{w:World}{ds r:Nat}{E E':Env}{l:List (Nat×List Nat)}(m:Nat)(h:zIa ds r E l E'):(∀x∈l,x.2.length=m)→ ∀{G:Gh},Rep Γ E G tmps w→(∀x∈l,G.hd ds [x.1]=G.hd r x.2)→ ∃G',Rep Γ E' G' tmps w:=by
 induction h with
 |nil E=>grind
 | @cons E E' l j q td td' tr tr' u v0 hd hg hr hp ea mK pu sd _ ih=>
  intro hm G gc iD;simp only[J1]at sd;obtain⟨⟨⟨⟨⟨⟨⟨s1,s1'⟩,s2⟩,s3⟩,s4⟩,s5⟩,s6⟩,s7⟩:=sd;have gk:ds≠r:=by grind
  have hq:q≠[]:=by grind
  obtain⟨h1,h2⟩:=zDJ gc r q ds [j] tr td u v0 hr hp s1' (iD (j,q) (by simp)).symm hd (by grind) s1 ea (Ne.symm gk) (by omega) (by omega) s5 s4;rw[if_neg (by simp),show([j]:List Nat).reverse=[j]from rfl,mK,pu]at h1;refine ih (by grind) (by omega) fun x hx=>?_
  have e1:∀z,(G.tr r q ds [j]).hd ds z=G.hd ds z:=by grind
  by_cases hz:q<:+x.2∧x.2≠q
  ·have h3:=zR9 hz.1 hz.2
   rw[hm x (by simp[hx]),hm (j,q) (by simp)]at h3;omega
  grind
theorem zFD{G G':Gh}{s:Nat}:(xs ys:List T)→(∀x∈xs,x.single=VW)→(∀x∈ys,x.single=VW)→xs.length=ys.length→ ∀(j:Nat),yD G s xs [] j=yD G' s ys [] j→ ∀i,i<xs.length→G.hd s [j+i]=G'.hd s [j+i]
 | [],_,_,_,_,_,_,i,hi=>by simp at hi
 |x::xs,[],_,_,hl,_,_,_,_=>by simp at hl
 |x::xs,y::ys,h1,h2,hl,j,h,i,hi=>by
  have v1:∀(G:Gh)(t:T)(p:List Nat),t.single=VW→vals G s t p=[G.hd s p]:=fun G t p ht=>by cases t<;>simp[T.single]at ht<;>simp[vals]
  simp only[yD,v1 G x _ (h1 x (by simp)),v1 G' y _ (h2 y (by simp)),Kx,Q0.injEq]at h;cases i with
  |zero=>exact h.1
  |succ i=>
   have:=zFD xs ys (by grind) (by grind) (by grind) (j+1) h.2 i (by grind)
   grind
def zEz:List T→Bool
 | []=>VW
 |x::xs=>x.single&&zEz xs
theorem zDQ:{xs:List T}→zEz xs=VW→ ∀x∈xs,x.single=VW
 | [],_,_,h=>by simp at h
 |x::xs,h,y,hy=>by
  simp only[zEz,J1]at h;rcases Jj.1 hy with rfl|hy
  ·exact h.1
  ·exact zDQ h.2 y hy
theorem zM2{P:Program}{Γ:Ctx}{E E1 E3:Env}{d:Nat}{ty:TypeId}{ps:String}{af:Array Edge}{gd:Option (Nat×Bool)}{f:FuncId}{xs:List Operand}{ats:Array TypeId}{us res:List T}{ts ts':List T}(i ds r:Nat)(l:List (Nat×List Nat))(m:Nat)(gr:zAI P f)(hc:FnC P f us res [(i,.agg ts')])
  (ej:zN3 ds r E l E1)(hs:E1 ds=VU (.agg ts))(hZ:zW (.agg ts'))(py:uM (.agg ts')=VW)(gn:vX E1 [(i,ds,.agg ts')] 0 xs us)(gu:zCu res)
  (Vm:zIa ds r (E1.app (cWr d res [(i,ds,.agg ts')]) (uO d [(i,ds,.agg ts')])) l E3)
  (sd:(J3 d Γ.N&&(d != ds)&&(d != r)&&(ds != r)&&zEz ts&&zEz ts'&&(ts.length==ts'.length)&&(l.all fun x=>x.2.length==m&&J3 x.1 ts.length))=VW)(hx:xs[i]? =VU (.tmp ds))(hu:us[i]? =VU (.agg ts)):
  Ok P Γ ⟨VU d,.call { callee:=.value (.func f),args:=xs.toArray,argTypes:=ats },ty,ps,af,gd⟩ E E3:=by
 simp only[J1]at sd;obtain⟨⟨⟨⟨⟨⟨⟨s1,s2⟩,s3⟩,s4⟩,s5⟩,s6⟩,s7⟩,s8⟩:=sd;have d1:d≠ds:=by grind
 have d2:d≠r:=by grind
 have d3:ds≠r:=by grind
 have gm:ts.length=ts'.length:=by grind
 have hl:∀x∈l,x.2.length=m∧x.1<ts.length:=fun x hx=>by
  have:=Jy.1 s8 x hx
  simp_all
 intro S a w K Q ⟨gY,G,gc⟩ hK;refine zBH (xf:=.func f) rfl rfl gr rfl ?_;obtain⟨G1,g1,g2,g3,g4⟩:=ej.rep gc;refine(zG6 g1 (yF s1) f xs us res [(i,ds,.agg ts')] hc gn (zG5.one' (u:=.agg ts) d1 hx hZ rfl py hs hu) gu).mono ?_
 rintro e w' ⟨v,rfl,S',G',hS,hk,gp⟩
 have VS:(E1.app (cWr d res [(i,ds,.agg ts')]) (uO d [(i,ds,.agg ts')])) ds=VU (.agg ts'):=by grind[Env.app,Wr.find,cWr]
 have hv:mkV G' ds (.agg ts') []=mkV G1 ds (.agg ts) []:=by
  have a1:=(gp.ent ds _ VS).1;have a2:=(g1.ent ds _ hs).1
  grind
 simp only[mkV,Value.agg.injEq]at hv;have eg:yD G' ds ts' [] 0=yD G1 ds ts [] 0:=by grind
 have bm:=zFD ts' ts (zDQ s6) (zDQ s5) gm.symm 0 eg;obtain⟨G3,hG3⟩:=Vm.rep m (by grind) gp fun x hx=>by
  have h1:=bm x.1 (by grind);rw[J6]at h1;have h2:G'.hd r x.2=G1.hd r x.2:=hk.hd r x.2 (fun n hn=>by grind[uO])
  grind
 exact⟨v,rfl,hK _ _ ⟨S',hS,gY,G3,hG3⟩⟩
end Go.Ab

namespace Go.Ab
open Go
section
variable {P:Program}{Γ:Ctx}{E:Env}{d:Nat}{x:Operand}{ty:TypeId}{ps:String}{af:Array Edge}{gd:Option (Nat×Bool)}
class zPe (P:Program) (t:TypeId) (e:outParam TypeId) (ti:outParam TypeInfo) (n:outParam Nat) (k:outParam Nat):Prop where
 un:P.underlying t=VU (.array n e)
 info:P.info? e=VU ti
 size:ti.size=k
theorem zM3{t e:TypeId}{ti:TypeInfo}{n k r:Nat}{q:List Nat}{xs:List T}{u:T}(i:Nat)(ht:zPe P t e ti n k)(hx:sD E x=VU (r,q,.ptr (.agg xs)))(hu:xs[i]? =VU u)(gD:T.sizes (xs.take i)=i*k)(sd:(J3 d Γ.N&&J3 i n)=VW):
  Ok P Γ ⟨VU d,.indexAddr t x (.const (.int .i64 i)),ty,ps,af,gd⟩ E (E.app [(d,VU (.addr r (i::0::q)))] [(d,0)]):=by
 simp only[J1]at sd;have ej:=yF sd.2;intro S;refine wP.value rfl fun a w G gc=>?_
 obtain⟨g1,g2⟩:=kK gc hx rfl;simp only[R]at g1;obtain⟨b,cs,e',g4,_,_,_,g5,_⟩:=g1;simp only[Loc]at g5;have g6:=zC5 xs (0::q) 0 b 0 i u g5.2 hu;simp only[J6]at g6;have g3:a.eval (.const (.int .i64 i))=.int .i64 i:=rfl;refine⟨.pointer (VU (G.ad r (i::0::q))),w,?_,_,uG gc rfl (yF sd.1) (fun _=>.pointer (VU (G.ad r (i::0::q)))) (fun _=>rfl) _ _ (by simp[mkV,Gh.put]) (by simp[R,Gh.put]) (by simp[Top])⟩;have gI:(i:Int)<(n:Int):=by omega
 have h0:(0:Int)≤i:=by omega
 have g7:=zBW g6;have pF:i<n:=ej;simp[execOp,Instr.indexAt,g3,g2,g4,asIntOf,run_underlying ht.un,h0,pF,sizeOf,typeInfo,ht.info,ht.size,tL,sQ,g7,gD]
end
end Go.Ab
namespace Go.Ab
open Go
theorem zV2{E:Env}{ds r s:Nat}{q:List Nat}{tr u t:T}(h:E s=VU t)(gk:(Qc ds s||Qc r s)=VX:=by rfl)(hb:t.okB [(ds,1),(r,q.length+1)]=VW:=by rfl):opT (uP E ds r q tr u) (.tmp s)=VU t:=by
 have h1:ds≠s:=by rintro rfl;simp at gk
 have h2:r≠s:=by rintro rfl;simp at gk
 simp[opT,uP,Env.app,Wr.find,h1,h2,h,hb]
end Go.Ab
namespace Go.Ab
open Go
section
variable {P:Program}{Γ:Ctx}{pn:kI}{E E':Env}{Q Q1:Exit→Env→Prop}{c c1 c2:Code}{ops:Array Oper}{o:Oper}{os:List Oper}{id:Nat}
theorem sR(h:RW P Γ pn ops ops.toList E (yM P Γ pn c Q)):CW P Γ pn (.seq (.region id ops VX) c) E Q:=CW.seq (CW.region h)
theorem rN(h:CW P Γ pn c E Q):RW P Γ pn ops [] E (yM P Γ pn c Q):=RW.nil h
theorem oP(h:Ok P Γ o E E')(k:RW P Γ pn ops os E' Q)(hg:o.guard=VV:=by rfl)(hp:pn.ok o.dst=VW:=by rfl):RW P Γ pn ops (o::os) E Q:=RW.op h k hg hp
def zTU(ops:List Oper):List (List Nat):=(ops.foldl (fun(acc:Array (List Nat)) o=>acc.push ((zBI o).foldl (fun l m=>m::(acc.getD m [])++l) [])) #[]).toList
theorem CW.lp{σ ρ:Type}(body:σ→Option (σ⊕ρ))(en:σ→Env)(Q1:ρ→Exit→Env→Prop){s:σ}{r:ρ}(hg:zN Γ E (en s))(h:∀s x,body s=VU x→CW P Γ pn c (en s) (wN Γ en Q1 x))(hr:zI body s=VU r)(hq:∀e E',Q1 r e E'→Q e E'):CW P Γ pn (.loop c) E Q:=
 (CW.mono (CW.loop body en Q1 h hr) hq).ghost hg
end
end Go.Ab

namespace Go.Ab
open Go Go.ChangeShapes
abbrev zJS(w:World):Stb:=fun b=>w.heap[b]?
theorem zN4{w:World}{a:Addr}{n:Nat}{cs:List Value}(h:w.cells? 0 a n=VU cs):cs.length=n∧ ∀(i:Nat) v,cs[i]? =VU v→w.cell? (a.add i)=VU v:=by
 unfold World.cells? at h;rw[if_pos (K6 _)]at h;refine⟨by simpa using mapM_some_length h,fun i v hv=>?_⟩;have hi:i<n:=by have:=(J9.1 hv).1;have h2:=mapM_some_length h;rw[Ga]at h2;omega
 rw[←hv];exact mapM_some_get h i i (by simp[hi])
theorem zM4{w:World}{a:Addr}{v:Value}(h:w.cell? a=VU v):a.spot=VV∧ ∃c e fr,w.heap[a.block]? =VU (.cells c e fr)∧c[a.off]? =VU v:=by
 simp only[World.cell?]at h;split at h
 ·rename_i c e fr hb
  split at h
  ·cases h
  ·rename_i hs
   exact⟨by cases hq:a.spot with|none=>rfl|some _=>rw[hq]at hs;simp at hs,c,e,fr,hb,h⟩
 ·cases h
theorem zJT{b o m:Nat}:(Addr.mk b o VV).add m=⟨b,o+m,VV⟩:=by
 unfold Addr.add;split
 ·rename_i h;subst h;rfl
 ·rfl
theorem zFE{α:Type}{Q:Nat→α→Prop}:∀(n:Nat),(∀i,i<n→ ∃x,Q i x)→ ∃xs:List α,xs.length=n∧ ∀i x,xs[i]? =VU x→Q i x
 |0,_=>⟨[],rfl,fun i x h=>by simp at h⟩
 |n+1,h=>by
  obtain⟨xs,h1,h2⟩:=zFE n fun i hi=>h i (by omega)
  obtain⟨y,hy⟩:=h n (by omega);refine⟨xs++[y],by simp[h1],fun i x hx=>?_⟩;rw[K8]at hx;split at hx
  ·exact h2 i x hx
  ·rename_i hge
   have:i-xs.length=0:=by have:=(J9.1 hx).1;simpa using this
   rw[this]at hx;simp at hx;subst hx
   rwa [show i=n from by omega]
theorem zM5{St:Stb}:(xs:List T)→ ∀(cs:Array Value)(o k:Nat),(∀i x,xs[i]? =VU x→RoC St x cs (o+i*k))→RoL St xs cs o k
 | [],_,_,_,_=>by simp only[RoL]
 |x::xs,cs,o,k,h=>by
  simp only[RoL];refine⟨by simpa using h 0 x rfl,zM5 xs cs (o+k) k fun i y hy=>?_⟩;have:=h (i+1) y (by simpa using hy)
  rwa [show o+k+i*k=o+(i+1)*k from by rw[La];omega]
section
variable {P:Program}
def RdT(P:Program)(t:TypeId)(k:Nat){α:Type}(f:α→T)(V:α→Prop):Prop:=
 ∀{H:Type}(enc:TypeId×Value→H)(w:World)(fuel:Nat)(cs:List Value)(x:DataW H×List MemPlace),DataW.trod enc P w 0 (fun _=>VW) VW fuel t cs=VU x→
  cs.length=k→ ∃d,V d∧ ∀(A:Array Value)(o:Nat),(∀(i:Nat) v,cs[i]? =VU v→A[o+i]? =VU v)→RoC (zJS w) (f d) A o
theorem zTV{t:TypeId}{q:IntKind}(hu:P.underlying t=VU (.int q)):RdT P t 1 (IK q) (fun n=>(Lit.int q n).wf=VW):=by intro H enc w fuel cs x h _;obtain⟨n,rfl,_,hw⟩:=DataW.trod_int hu h;exact⟨n,hw,fun A o hA=>by simp only[RoC];exact⟨by simpa using hA 0 _ rfl,rfl⟩⟩
theorem zTW{α:Type}{f:α→T}{V:α→Prop}{t e:TypeId}{k:Nat}(hu:P.underlying t=VU (.slice e))(hk:P.cellsOf e=k)(eO:0<k)(h:RdT P e k f V):
  RdT P t 1 (L k f) (fun xs=>xs.length≤maxLen∧ ∀x∈xs,V x):=by
 intro H enc w fuel cs x hx _;rcases DataW.trod_slice hu hx with⟨rfl,_⟩|⟨a,len,cap,elems,rest,n,rfl,rfl,_,_,pe,pH,hel,fX,_⟩
 ·refine⟨[],⟨by simp,by simp⟩,fun A o hA=>?_⟩
  simp only[RoC,G4,G5];exact⟨VV,0,by simpa using hA 0 _ rfl,Jf _,by simp[maxLen],fun h=>absurd rfl h⟩
 ·subst hk
  have key:∀i,i<len→ ∃y,V y∧ ∃cs':List Value,cs'.length=P.cellsOf e∧(∀(j:Nat) v,cs'[j]? =VU v→w.cell? ((a.add (i*P.cellsOf e)).add j)=VU v)∧
    ∀(A:Array Value)(o:Nat),(∀(j:Nat) v,cs'[j]? =VU v→A[o+j]? =VU v)→RoC (zJS w) (f y) A o:=by
   intro i hi;have h1:=fX i hi;rw[J5 (by omega)]at h1;obtain⟨cs',h2,h3⟩:=Gl.1 h1;obtain⟨h4,h5⟩:=zN4 h2;obtain⟨y,h6,h7⟩:=h enc w n cs' _ h3 h4;exact⟨y,h6,cs',h4,h5,h7⟩
  obtain⟨xs,hxl,eH⟩:=zFE len key;refine⟨xs,⟨by omega,fun y hy=>?_⟩,fun A o hA=>?_⟩
  ·obtain⟨i,hi,rfl⟩:=Kh.1 hy
   exact(eH i _ (J5 hi)).1
  ·simp only[RoC,Jn,hxl]
   refine⟨VU a,cap,by simpa using hA 0 _ rfl,pe,pH,fun gk=>?_⟩;have mZ:0<xs.length:=by
    cases xs with
    |nil=>simp at gk
    |cons _ _=>simp
   obtain⟨_,cs0,g1,g2,_⟩:=eH 0 _ (J5 mZ);have hz:a.add (0*P.cellsOf e)=a:=by simp[Addr.add]
   have g3:=g2 0 cs0[0] (J5 (by omega));rw[hz,show a.add 0=a from by simp[Addr.add]]at g3;obtain⟨pq,c,e',fr,hb,_⟩:=zM4 g3;obtain⟨b,off,sp⟩:=a;simp only at pq hb;subst pq;refine⟨b,off,c,e',fr,rfl,hb,zM5 _ _ _ _ fun i y hy=>?_⟩;rw[Jr,Kg]at hy;obtain⟨z,mm,rfl⟩:=hy;obtain⟨_,cs',g1',g2',g4⟩:=eH i z mm;refine g4 c _ fun j v hv=>?_
   have:=g2' j v hv;rw[zJT,zJT]at this;obtain⟨_,c2,e2,fr2,dD,eg⟩:=zM4 this;simp only at dD eg;rw[hb]at dD;cases dD;exact eg
theorem zIX{H:Type}{enc:TypeId×Value→H}{w:World}{t:TypeId}{fs:Array Field}{fuel:Nat}{cs:List Value}{x:DataW H×List MemPlace}(hu:P.underlying t=VU (.struct fs))(h:DataW.trod enc P w 0 (fun _=>VW) VW fuel t cs=VU x)
  {i j k:Nat}{f:Field}(hf:fs[i]? =VU f)(hj:f.offset=j)(hk:P.cellsOf f.type=k):∃n y,DataW.trod enc P w 0 (fun _=>VW) VW n f.type ((cs.drop j).take k)=VU y:=by
 obtain⟨xs,n,_,_,_,gm,fX⟩:=DataW.trod_struct hu h;have hi:i<xs.length:=by rw[gm];exact(L9.1 hf).1
 have:=fX i f hf;rw[hj,hk,J5 hi]at this;exact⟨n,_,this⟩
end
def zN5(v:Value):Value:=if v.oneCell' then v else .bool VX
theorem zJU(v:Value):(zN5 v).oneCell'=VW:=by unfold zN5;split;assumption;rfl
theorem zIY{v:Value}(h:v.oneCell'=VW):zN5 v=v:=by simp[zN5,h]
def hd0(vs:Array Value)(s:Nat)(p:List Nat):Value:=
 match vs[s]?,p with
 |some (.agg cs),[j]=>zN5 (cs[j]?.getD (.bool VX))
 |some v,[]=>zN5 v
 |_,_=>.bool VX
def G0(vs:Array Value):Gh:={ hd:=hd0 vs,ad:=fun _ _=>default,lb:=fun _ _=>VV,ow:=fun _=>VV }
theorem zWE(w:World)(vs:Array Value):Mem ⟨zJS w,fun _=>False,w,0⟩ (G0 vs) w where
 one s p:=by
  simp only[G0,hd0];split
  ·exact zJU _
  ·exact zJU _
  ·rfl
 lb b o l h:=by simp[G0]at h
 ow b l h:=by simp[G0]at h
 st b x h:=h
 fr b _ _:=rfl
 sz:=Jf _
 bk:=⟨fun b cs e h=>⟨cs,h,rfl⟩,rfl,rfl⟩
def RdA(P:Program)(t:TypeId){α:Type}(u:α→T)(V:α→Prop):Prop:=
 ∀{H:Type}(enc:TypeId×Value→H)(w:World)(base fuel:Nat)(v:Value)(x:DataW H×List MemPlace),DataW.trod enc P w 0 (fun _=>VW) VW fuel t v.cells.toList=VU x→
  Value.okWide P w .any base t v→ ∃d,V d∧ ∀(vs:Array Value)(s:Nat),vs[s]? =VU v→VU v=VU (mkV (G0 vs) s (u d) [])∧R (zJS w) (G0 vs) w s (u d) []
def RdC(P:Program)(t:TypeId){α:Type}(u:α→T)(V:α→Prop):Prop:=
 ∀{H:Type}(enc:TypeId×Value→H)(w:World)(fuel:Nat)(c:Value)(x:DataW H×List MemPlace),DataW.trod enc P w 0 (fun _=>VW) VW fuel t [c]=VU x→
  ∃d,V d∧c.oneCell'=VW∧ ∀(G:Gh)(s:Nat)(p:List Nat),G.hd s p=c→vals G s (u d) p=[c]∧R (zJS w) G w s (u d) p
section
variable {P:Program}
theorem zTX{t:TypeId}{q:IntKind}(hu:P.underlying t=VU (.int q)):RdC P t (IK q) (fun n=>(Lit.int q n).wf=VW):=by intro H enc w fuel c x h;obtain⟨n,h1,_,hw⟩:=DataW.trod_int hu h;simp only[Q0.injEq,and_true]at h1;subst h1;exact⟨n,hw,rfl,fun G s p hp=>⟨by simp only[vals,hp],by simp only[R,hp]⟩⟩
theorem zV3{α:Type}{f:α→T}{V:α→Prop}{t:TypeId}(h:RdT P t 1 f V)(h1:∀{H:Type}(enc:TypeId×Value→H)(w:World)(fuel:Nat)(c:Value)(x:DataW H×List MemPlace),DataW.trod enc P w 0 (fun _=>VW) VW fuel t [c]=VU x→c.oneCell'=VW):
  RdC P t (fun x=>T.ro (f x)) V:=by
 intro H enc w fuel c x hx;obtain⟨d,g1,g2⟩:=h enc w fuel [c] x hx rfl;refine⟨d,g1,h1 enc w fuel c x hx,fun G s p hp=>⟨by simp only[vals,hp],?_⟩⟩;simp only[R,hp];exact g2 _ _ fun i v hv=>by
  cases i with
  |zero=>simpa using hv
  |succ i=>simp at hv
theorem zTY{α:Type}{f:α→T}{V:α→Prop}{t e:TypeId}{k:Nat}(hu:P.underlying t=VU (.slice e))(hk:P.cellsOf e=k)(eO:0<k)(h:RdT P e k f V):RdC P t (fun xs=>T.ro (L k f xs)) (fun xs=>xs.length≤maxLen∧ ∀x∈xs,V x):=
 zV3 (zTW hu hk eO h) fun enc w fuel c x hx=>by
  rcases DataW.trod_slice hu hx with⟨h1,_⟩|⟨a,len,cap,_,_,_,_,h1,_⟩<;>
  ·simp only[Q0.injEq,and_true]at h1
   subst h1;rfl
theorem zHw{w:World}{base:Nat}{t:TypeId}{fs:Array Field}{v:Value}(hu:P.underlying t=VU (.struct fs))(h:Value.okWide P w .any base t v):∃cs,v=.agg cs∧cs.size=P.cellsOf t:=by simp only[Value.okWide,hu]at h;obtain⟨cs,h1,h2,_⟩:=h;exact⟨cs,h1,h2⟩
theorem zTk{α β γ δ:Type}{ua:α→T}{ub:β→T}{uc:γ→T}{Va:α→Prop}{Vb:β→Prop}{Vc:γ→Prop}{t:TypeId}{f0 f1 f2:Field}(mk:α→β→γ→δ){u:δ→T}{V:δ→Prop}
  (hu:P.underlying t=VU (.struct #[f0,f1,f2]))(hc:P.cellsOf t=3)(h0:f0.offset=0∧P.cellsOf f0.type=1)(h1:f1.offset=1∧P.cellsOf f1.type=1)(h2:f2.offset=2∧P.cellsOf f2.type=1)
  (ra:RdC P f0.type ua Va)(rb:RdC P f1.type ub Vb)(rc:RdC P f2.type uc Vc)(hmk:∀a b c,u (mk a b c)=T.agg [ua a,ub b,uc c])(hV:∀a b c,Va a→Vb b→Vc c→V (mk a b c)):RdA P t u V:=by
 intro H enc w base fuel v x hx gM;obtain⟨cs,rfl,gv⟩:=zHw hu gM;obtain⟨l,rfl⟩:∃l:List Value,cs=l.toArray:=⟨cs.toList,by simp⟩;rw[hc,Q5]at gv;obtain⟨c0,c1,c2,rfl⟩:∃a b c,l=[a,b,c]:=by
  match l,gv with
  | [a,b,c],_=>exact⟨a,b,c,rfl⟩
 simp only[Value.cells]at hx;obtain⟨n0,y0,g0⟩:=zIX hu hx (i:=0) rfl h0.1 h0.2;obtain⟨n1,y1,g1⟩:=zIX hu hx (i:=1) rfl h1.1 h1.2;obtain⟨n2,y2,g2⟩:=zIX hu hx (i:=2) rfl h2.1 h2.2;simp only[List.drop_succ_cons,Qh,Kw,Lb]at g0 g1 g2;obtain⟨a,a1,a2,a3⟩:=ra enc w n0 c0 _ g0;obtain⟨b,b1,b2,b3⟩:=rb enc w n1 c1 _ g1;obtain⟨c,e1,e2,e3⟩:=rc enc w n2 c2 _ g2;refine⟨mk a b c,hV a b c a1 b1 e1,fun vs s fY=>?_⟩;have k0:(G0 vs).hd s [0]=c0:=by simp[G0,hd0,fY,zIY a2]
 have k1:(G0 vs).hd s [1]=c1:=by simp[G0,hd0,fY,zIY b2]
 have k2:(G0 vs).hd s [2]=c2:=by simp[G0,hd0,fY,zIY e2]
 rw[hmk];simp only[mkV,yD,(a3 _ _ _ k0).1,(b3 _ _ _ k1).1,(e3 _ _ _ k2).1,L7,K9,R,RF];exact⟨trivial,(a3 _ _ _ k0).2,(b3 _ _ _ k1).2,(e3 _ _ _ k2).2,trivial⟩
end
theorem FnC.top{P:Program}{f:FuncId}{us:List T}(h:FnC P f us [B VW] []){w:World}{vs:Array Value}(gv:vs.size=us.length)
  (ha:∀(i:Nat) u,us[i]? =VU u→vs[i]? =VU (mkV (G0 vs) i u [])∧R (zJS w) (G0 vs) w i u []):
  Calls P f vs w fun e w'=>e=.returned (.bool VW)∧w'.os=w.os∧w'.output=w.output∧w.heap.size≤w'.heap.size∧ ∀b,b<w.heap.size→w'.heap[b]? =w.heap[b]?:=by
 refine(h (zJS w) (fun _=>False) w (G0 vs) vs gv (fun i u hu=>?_) (zWE w vs)).mono fun e w'=>?_
 ·obtain⟨h1,h2⟩:=ha i u hu
  refine⟨?_,h2⟩;rw[h1]
 ·rintro⟨S',G',nd,_,he,hm,pD,hr,_,_⟩
  match nd,pD with
  | [(s,p,t)],pD=>
   simp only[Jh,G4,Q0.injEq,and_true]at pD;subst pD;have:=(hr (s,p,B VW) (by simp)).1;simp only[R]at this;exact⟨by rw[he];simp only[zJ9,qH,this],hm.bk.os,hm.bk.out,hm.sz,fun b hb=>hm.fr b hb (fun h=>h)⟩
theorem zD6{H:Type}{enc:TypeId×Value→H}{P:Program}(hl:laidOutB P=VW){W W':World}{sp:Nat→Bool}:∀{ts:List TypeId}{vs:List Value}{ds:List (DataW H)}{ps:List MemPlace},(∀t∈ts,P.readableRec t=VW∧t<P.types.size)→
  DataW.TrodAll enc P W 0 (fun _=>VW) VW ts vs ds ps→(∀p∈ps,W.sameAt W' p)→(∀p∈ps,sp p.block=VW)→DataW.TrodAll enc P W' 0 sp VW ts vs ds ps
 | [],[],[],_,_,h,_,_=>h
 |t::ts,v::vs,d::ds,ps,hr,h,h1,h2=>by
  obtain⟨p,q,g1,g2,rfl⟩:=h;exact⟨p,q,Go.WideElems.Trod_stays hl (hr t (by simp)).1 (hr t (by simp)).2 g1 (fun x hx=>h1 x (by simp[hx])) (fun x hx=>h2 x (by simp[hx])),
   zD6 hl (fun t' ht'=>hr t' (by simp[ht'])) g2 (fun x hx=>h1 x (by simp[hx])) (fun x hx=>h2 x (by simp[hx])),rfl⟩
 | [],_::_,_,_,_,h,_,_| [],[],_::_,_,_,h,_,_|_::_,[],_,_,_,h,_,_|_::_,_::_,[],_,_,h,_,_=>h.elim
theorem zLi{C:Checked}{os:Os}(own:ownKnob C.prog.godebug=VV)(started:os.Started){f:FuncId}{fn:Func}(noInit:C.prog.inits.idxOf? f=VV)(hfn:C.prog.funcs[f]? =VU fn){H:Type}{enc:TypeId×Value→H}{s:ChangeSpec}{conds:List PathCond}{apart fresh handsOn again:Bool}
  (witness:∃(w:World)(tape:Tape)(i:Input),w.os=os∧(w.forCall tape i).Shaped C.prog∧i.vars=[]∧Input.okWide C.prog (w.forCall tape i) .any w.heap.size f i∧
   s.pre6 enc C.prog fn conds apart (w.forCall tape i).memory i.args∧Assume.holds {} C.prog (lone (Frame.enter C.prog f i.args .normal) [] (w.forCall tape i)))
  (hs:∀(l:List (DataW H)),l.length=fn.params.size→(s.fn H l).results=[.lit (.bool VW)]∧(s.fn H l).args=l∧(s.fn H l).vars=[])(pL:s.vars=[]){tb:TypeId}(eC:fn.resultTypes= #[tb])(hb:C.prog.underlying tb=VU .bool)
  (laid:laidOutB C.prog=VW)(au:fn.params.toList.all (fun t=>C.prog.readableRec t&&decide (t<C.prog.types.size))=VW)
  (law:∀(W:World)(base:Nat)(args:Array Value)(ds:List (DataW H))(p:List MemPlace),(∀(j:Nat) t v,fn.params[j]? =VU t→args[j]? =VU v→Value.okWide C.prog W .any base t v)→
   DataW.TrodAll enc C.prog W 0 (fun _=>VW) VW fn.params.toList args.toList ds p→
   ∃us:List T,args.size=us.length∧FnC C.prog f us [B VW] []∧ ∀(i:Nat) u,us[i]? =VU u→args[i]? =VU (mkV (G0 args) i u [])∧R (zJS W) (G0 args) W i u []):
  ReturnsInHanded {} C os f .any (s.pre6 enc C.prog fn conds apart) (s.post enc C.prog fn apart fresh handsOn again):=by
 refine returnsInHanded_of_change (C:=C) own started noInit hfn witness ?_;intro W base args ds gs before hval hW _ _;have hW':=hW;obtain⟨p,q,hA,hV,hbq,hfz,pD⟩:=hW;obtain⟨us,h1,h2,h3⟩:=law W base args ds p hval hA;have hl:ds.length=fn.params.size:=by
  have:∀{ts:List TypeId}{vs:List Value}{ds:List (DataW H)}{p:List MemPlace},DataW.TrodAll enc C.prog W 0 (fun _=>VW) VW ts vs ds p→ds.length=ts.length:=by
   intro ts
   induction ts with
   |nil=>intro vs ds p h;cases vs<;>cases ds<;>first|rfl|exact h.elim
   |cons t ts ih=>intro vs ds p h;cases vs<;>cases ds<;>first|exact h.elim|(obtain⟨_,_,_,g,_⟩:=h;simp[ih g])
  simpa using this hA
 rw[pL]at hV;have hq:gs=[]∧q=[]:=by
  cases gs with
  |nil=>exact⟨rfl,hV⟩
  |cons _ _=>exact hV.elim
 obtain⟨rfl,rfl⟩:=hq;have gI:=hW'.lt;refine(h2.top h1 h3).mono fun e w' ⟨he,ho,hq,gv,hh⟩=>⟨_,he,?_⟩
 have gO:∀p∈before,W.sameAt w' p:=fun p hp=>by
  have:=gI p hp;cases p with
  |cell b off=>simp only[World.sameAt,World.cell?,hh b this]
  |map b=>exact hh b this
 obtain⟨k1,k2,k3⟩:=hs ds hl;have hbp:before=p:=by simpa using hbq
 subst hbp;have gx:∀t∈fn.params.toList,C.prog.readableRec t=VW∧t<C.prog.types.size:=fun t ht=>by have:=Jy.1 au t ht;simpa using this
 have gu:∀(b:Nat)(sp:Nat→Bool)(hd:Bool),DataW.TrodAll enc C.prog w' b sp hd fn.resultTypes.toList ((Value.bool VW).resultList fn.resultTypes.size) (s.fn H (ds++[])).results []:=fun b sp hd=>by rw[eC,Ja,k1];exact⟨[],[],⟨1,by simp[DataW.trod,hb,Value.cells]⟩,⟨rfl,rfl⟩⟩
 have gn:∀sp:Nat→Bool,(∀p∈before,sp p.block=VW)→DataW.TrodAll enc C.prog w' 0 sp VW fn.params.toList args.toList (s.fn H (ds++[])).args before:=fun sp pq=>by rw[Ja,k2];exact zD6 laid gx hA gO pq
 have bU:∀sp:Nat→Bool,DataW.TrodVars enc C.prog w' sp s.vars (s.fn H (ds++[])).vars []:=fun sp=>by rw[pL,Ja,k3];rfl
 have gB:∀p∈before,(fun b=>decide (b<W.heap.size)) p.block=VW:=fun p hp=>by simpa using gI p hp
 have me:∀p∈before,∀o,w'.frozen? ⟨p.block,o,VV⟩=W.frozen? ⟨p.block,o,VV⟩:=fun p hp o=>by simp only[World.frozen?,hh _ (gI p hp)]
 refine⟨ds,[],before,[],before,[],hW',gu _ _ _,gn _ gB,bU _,⟨ho,hq,fun i hi=>?_⟩,fun _=>⟨fun j t r hj hr=>?_,_,_,([]++before)++[],⟨[]++before,[],trodAll_append (gn _ (fun _ _=>rfl)) (gu _ _ _),bU _,rfl,fun b off hp=>?_,fun ha=>?_⟩,fun p hp _=>?_⟩⟩
 ·rw[hh i hi]
  cases hx:W.heap[i]? with
  |none=>rfl
  |some o=>cases o<;>simp
 ·rw[eC]at hj hr
  match j,hj,hr with
  |0,hj,hr=>
   simp[Value.resultList]at hj hr;subst hj;subst hr;simp[Value.okWide,hb,Cell.okWide,Cell.ok]
 ·have fV:MemPlace.cell b off∈before:=by simpa using hp
  exact(me _ fV off).trans (hfz b off fV)
 ·have:=pD ha
  simpa using this
 ·simpa using hp
end Go.Ab

namespace Go.Ab
open Go
def zAd(hs:List Nat)(E:Env):Prop:=∀s,hs.contains s=VW→ ∃t,E s=VU t∧zBp t=VW
def zTZ(hs:List Nat)(z:Nat×Option T):Bool:=!hs.contains z.1||match z.2 with
 |some t=>zBp t
 |none=>VX
def wrS(hs:List Nat)(X:Stp):Bool:=X.l.all fun y=>y.1.all (zTZ hs)
theorem zJV{s:Nat}{x:Option T}:∀{wr:Wr},wr.find s=VU x→(s,x)∈wr
 | [],h=>by grind[Wr.find]
 |(k,y)::wr,h=>by
  simp only[Wr.find]at h;split at h
  ·grind
  ·exact U9 _ (zJV h)
theorem zAd.apps{hs:List Nat}:∀(l:zCF)(E:Env),zAd hs E→(l.all fun y=>y.1.all (zTZ hs))=VW→zAd hs (E.apps l)
 | [],_,h,_=>h
 |x::l,E,h,hw=>by
  simp only[Ux,J1]at hw;refine zAd.apps l (E.app x.1 x.2) (fun s gQ=>?_) hw.2;obtain⟨t,he,ht⟩:=h s gQ;unfold Env.app;cases hf:x.1.find s with
  |some y=>
   have h1:=Jy.1 hw.1 _ (zJV hf);simp only[zTZ,gQ,Jg,Bool.false_or]at h1
   grind
  |none=>grind[tU]
theorem zAd.runD{hs:List Nat}:∀(l:List (Bool×Stp))(E:Env),zAd hs E→(∀y∈l,wrS hs y.2=VW)→zAd hs (runD E l)
 | [],_,h,_=>h
 |(b,X)::l,E,h,hw=>by
  simp only[Go.Ab.runD];refine zAd.runD l _ ?_ fun y hy=>hw y (by simp[hy])
  cases b with
  |true=>exact zAd.apps X.l E h (hw (VW,X) (by simp))
  |false=>exact h
section
variable {P:Program}{Γ:Ctx}{pn:kI}{E E':Env}{Q:Exit→Env→Prop}{ops:Array Oper}{o:Oper}{os:List Oper}{id:Nat}{wr:Wr}{chg:Chg}{hs:List Nat}
def zM6(P:Program)(Γ:Ctx)(pn:kI)(ops:Array Oper)(o:Oper)(E E':Env):Prop:=
 ∀(a:Act)(w:World)(K:Act→World→Prop)(Q:Exit→Act→World→Prop),pn.Hold a→zAh Γ E a w→(∀a' w',zAh Γ E' a' w'→(∀s,o.dst≠VU s→a'.tmps[s]? =a.tmps[s]?)→K a' w')→
  if Region.wanted o (yielded ops a.tmps)then o.wp P a w K Q∨(o.asks P a w∧LetsOut Q)else K (a.put o.dst undef) w
def uI(P:Program)(Γ:Ctx)(pn:kI)(hs:List Nat)(ops:Array Oper):List Oper→List Stp→Prop
 | [],[]=>True
 |o::os,X::Xs=>(∀E:Env,E.Has X.rd→zAd hs E→zM6 P Γ pn ops o E (E.apps X.l))∧uI P Γ pn hs ops os Xs
 |_,_=>False
theorem uI.get:∀(os:List Oper)(Xs:List Stp),uI P Γ pn hs ops os Xs→os.length=Xs.length∧ ∀(i:Nat)(o:Oper)(X:Stp),os[i]? =VU o→Xs[i]? =VU X→ ∀E:Env,E.Has X.rd→zAd hs E→zM6 P Γ pn ops o E (E.apps X.l)
 | [],[],_=>by simp
 |o::os,X::Xs,h=>by
  obtain⟨h1,h2⟩:=uI.get os Xs h.2;refine⟨by simp[h1],fun i o' X' ho hX=>?_⟩;cases i with
  |zero=>simp at ho hX;subst ho hX;exact h.1
  |succ i=>exact h2 i o' X' (by simpa using ho) (by simpa using hX)
 | [],_::_,h=>by simp[uI]at h
 |_::_,[],h=>by simp[uI]at h
theorem uI.snoc{X:Stp}:∀(os:List Oper)(Xs:List Stp),uI P Γ pn hs ops os Xs→(∀E:Env,E.Has X.rd→zAd hs E→zM6 P Γ pn ops o E (E.apps X.l))→uI P Γ pn hs ops (os++[o]) (Xs++[X])
 | [],[],_,h=>⟨h,trivial⟩
 |_::os,_::Xs,h1,h=>⟨h1.1,uI.snoc os Xs h1.2 h⟩
 | [],_::_,h,_=>by simp[uI]at h
 |_::_,[],h,_=>by simp[uI]at h
theorem qS.snoc{X:Stp}:∀(Xs:List Stp)(E:Env),qS E Xs→(runD E (Xs.map fun y=>(VW,y))).Has X.rd→qS E (Xs++[X])
 | [],_,_,h=>⟨by grind[runD],trivial⟩
 |_::Xs,_,h1,h=>⟨h1.1,qS.snoc Xs _ h1.2 (by simpa[runD]using h)⟩
theorem zIZ{E0:Env}{ef:List Nat}{Xs:List Stp}{an:List (List Nat)}{Q':Exit→Act→World→Prop}(hf:zBw 0 ops.toList=VW)(ha:zAX an an ops.toList=VW)(hp:zAl Xs 0 an Xs=VW)
  (gJ:uI P Γ pn ef ops ops.toList Xs)(hI:zAd ef E0)(hw:Xs.all (wrS ef)=VW)(hh:qS E0 Xs)(dc:ops.toList.all (fun o=>pn.ok o.dst)=VW)(hQ:∀a' w',zAh Γ (runD E0 (Xs.map fun y=>(VW,y))) a' w'→pn.Hold a'→Q' .normal a' w'):
  ∀(fuel:Nat)(L:List Bool)(a:Act)(w:World),L.length=ops.size→L.count VX=fuel→zOM ops L→zAh Γ (runD E0 (L.zip Xs)) a w→pn.Hold a→wpAny P .any ops Q' fuel L.toArray a w:=by
 obtain⟨gm,pS⟩:=uI.get _ _ gJ;have mc:Xs.length=ops.size:=by grind
 intro fuel
 induction fuel with
 |zero=>
  intro L a w hL hcnt gK hs fx;have pJ:∀b∈L,b=VW:=by grind
  have VR:L=J2 ops.size VW:=by rw[←hL];exact List.eq_replicate_iff.2 ⟨rfl,pJ⟩
  refine⟨?_,?_⟩
  ·apply List.eq_nil_iff_forall_not_mem.2
   intro j hj;obtain⟨h1,o,ho,_⟩:=mem_ready.1 hj;have gI:=(L9.1 ho).1;rw[VR]at h1;simp[gI]at h1
  ·refine hQ a w ?_ fx
   have:L.zip Xs=Xs.map fun y=>(VW,y):=by
    rw[VR,←mc]
    clear hs hL VR pJ hcnt gK gJ hw hh hp gm mc pS hQ
    induction Xs with
    |nil=>rfl
    |cons X Xs ih=>simp[Km,ih]
   grind
 |succ fuel ih=>
  intro L a w hL hcnt gK hs fx;refine⟨fun hr=>?_,fun i hi=>?_⟩
  ·
   exfalso
   have bN:∃m:Nat,L[m]? =VU VX:=by
    have:VX∈L:=by grind
    grind[Gy]
   obtain⟨m,hm,fb⟩:=zEv bN;have hmlt:=(J9.1 hm).1;have dR:ops[m]? =VU ops[m]:=by simp
   have:m∈Region.ready .any ops L.toArray:=by
    refine mem_ready.2 ⟨by simp_all,ops[m],dR,fun e he hb=>?_⟩;have hpm:e.on∈zBI ops[m]:=by
     simp only[zBI,Jb,Qd]
     grind
    have gI:=zFW ops.toList 0 m _ hf (by simp) _ hpm;rw[J6]at gI;cases hL1:L[e.on]? with
    |none=>grind
    |some b=>
     cases b with
     |false=>grind
     |true=>simp_all
   grind
  ·obtain⟨h1,o,ho,pJ⟩:=mem_ready.1 hi
   have gI:=(L9.1 ho).1;have hLi:L[i]? =VU VX:=by simp_all
   have cU:∀m∈zBI o,L[m]? =VU VW:=by
    intro m hm;simp only[zBI,Jb,Qd]at hm;obtain⟨e,⟨he,hb⟩,rfl⟩:=hm;have:=pJ e (by grind) hb;cases hL1:L[e.on]? with
    |none=>grind
    |some b=>simp_all
   have hanc:=zGC hf ha gK i i (Jf _) o ho cU;have bO:Xs[i]? =VU Xs[i]:=by simp
   generalize hXe:Xs[i]=X at bO
   have dr:∀(j:Nat)(Y:Stp),Xs[j]? =VU Y→i<j→L[j]? =VU VW→X.apart Y=VW:=by
    intro j Y hY hij hj;rcases zFg Xs Xs 0 an j Y hp hY i X (by omega) bO with h|h
    ·have hjlt:=(J9.1 hY).1
     have hoj:ops[j]? =VU ops[j]:=by simp
     have:=zGC hf ha gK j j (Jf _) _ hoj (gK j _ hoj hj) i h
     grind
    ·exact h
   have bp:∀(j:Nat)(Y:Stp),Xs[j]? =VU Y→j<i→L[j]? =VU VX→Y.apart X=VW:=by grind[zFg]
   have db:∀y∈(L.take i).zip (Xs.take i),∃j:Nat,j<i∧L[j]? =VU y.1∧Xs[j]? =VU y.2:=by
    intro y hy;obtain⟨j,g1,g2⟩:=zIS hy;rw[Li]at g1 g2
    grind
   have pX:∀y∈(L.drop (i+1)).zip (Xs.drop (i+1)),∃j:Nat,i<j∧L[j]? =VU y.1∧Xs[j]? =VU y.2:=by
    intro y hy;obtain⟨j,g1,g2⟩:=zIS hy;rw[L6]at g1 g2
    grind
   have pq:=zHR hLi bO;have Vz:(runD E0 (L.zip Xs)).Has X.rd:=by
    rw[pq,zAB];simp only[runD,Ln,if_false];have h0:=qS.get Xs E0 hh i X bO;refine h0.of fun s t gJ ef=>?_
    have iD:s∈X.rd.map (·.1):=by grind
    refine zHQ _ _ (fun y hy hb=>?_) ?_
    ·obtain⟨j,g1,g2,g3⟩:=pX y hy
     have:=Stp.apart_spec (dr j y.2 g3 g1 (by rw[g2,hb]));exact⟨by grind,by grind⟩
    ·have mb:((L.take i).zip (Xs.take i)).map (fun y=>(VW,y.2))=(Xs.take i).map fun y=>(VW,y):=by
      have Vv:(L.take i).length=(Xs.take i).length:=by simp;omega
      rw[show(fun y:Bool×Stp=>(VW,y.2))=(fun y=>(VW,y))∘Prod.snd from rfl,←Qv,List.map_snd_zip (by omega)]
     refine zHP _ E0 E0 (fun y hy hb gQ=>?_) (fun _ h=>h) t (by grind);obtain⟨j,g1,g2,g3⟩:=db y hy;have:=Stp.apart_spec (bp j y.2 g3 g1 (by rw[g2,hb]))
     grind
   have hnext:runD E0 ((L.set i VW).zip Xs)=(runD E0 (L.zip Xs)).apps X.l:=by
    have hLs:(L.set i VW)[i]? =VU VW:=by grind
    rw[zHR hLs bO,pq,zAB,zAB];simp only[runD,if_true,Ln,if_false,List.take_set_of_le (Jf i),List.drop_set_of_lt (Nat.lt_succ_self i)];refine zFf _ X _ fun y hy hb=>?_
    obtain⟨j,g1,g2,g3⟩:=pX y hy;exact(Stp.apart_spec (by grind)).1
   have iB:=pS i o X (by grind) bO _ Vz (zAd.runD (L.zip Xs) E0 hI fun y hy=>Jy.1 hw _ (by obtain⟨j,_,g⟩:=zIS hy;grind));unfold wpOp;simp only[ho];refine iB a w _ Q' fx hs fun a' w' gQ me=>?_
   rw[List.setIfInBounds_toArray];have gM:pn.ok o.dst=VW:=by grind
   refine ih (L.set i VW) a' w' (by simp[hL]) (by grind) ?_ (by grind) (fx.frame gM me);intro k ok hk hkt m hm
   by_cases hki:k=i
   ·subst hki
    rw[ho]at hk;simp at hk;subst hk;rw[Q7];split
    ·grind
    grind
   ·rw[List.getElem?_set_ne (Ne.symm hki)]at hkt
    rw[Q7];split
    ·grind
    ·exact gK k ok hk hkt m hm
theorem CW.drawnI{ef:List Nat}{id:Nat}{E:Env}{Q:Exit→Env→Prop}(Xs:List Stp)(an:List (List Nat))(hm:P.follows .mixedOrders=VW)(gJ:uI P Γ pn ef ops ops.toList Xs)(hI:zAd ef E)(hw:Xs.all (wrS ef)=VW)(hh:qS E Xs)
  (hQ:Q .normal (runD E (Xs.map fun y=>(VW,y))))(hf:zBw 0 ops.toList=VW:=by rfl)(ha:zAX an an ops.toList=VW:=by rfl)(hp:zAl Xs 0 an Xs=VW:=by rfl)
  (dc:ops.toList.all (fun o=>pn.ok o.dst)=VW:=by rfl):CW P Γ pn (.region id ops VW) E Q:=by
 intro a w Q' hs fx hQ';refine wp_region_any hm ?_;have gQ:zAh Γ E a { w with drawn:=w.drawn+1 }:=by obtain⟨S,hS,gY,G,hr⟩:=hs;exact⟨S,hS,gY,G,hr.heap rfl⟩
 have:=zIZ (P:=P) (Γ:=Γ) (pn:=pn) (E0:=E) (Q':=Q') hf ha hp gJ hI hw hh dc (by grind) ops.size (J2 ops.size VX) a { w with drawn:=w.drawn+1 } (by simp) (by simp)
  (fun i o ho hi=>by
   grind) (by
   have:runD E ((J2 ops.size VX).zip Xs)=E:=by
    generalize ops.size=n
    clear gJ hI hw hh hQ hf ha hp gQ
    induction n generalizing Xs with
    |zero=>simp[runD]
    |succ n ih=>
     cases Xs with
     |nil=>simp[runD]
     |cons X Xs=>simpa[Km,runD]using ih Xs
   grind) fx
 grind
def DK(P:Program)(Γ:Ctx)(pn:kI)(ops:Array Oper)(id:Nat)(hs:List Nat)(E0:Env)(Q:Exit→Env→Prop)(os:List Oper)(E:Env)(acc:List Stp):Prop:=
 ∀don,don++os=ops.toList→uI P Γ pn hs ops don acc.reverse→qS E0 acc.reverse→E=runD E0 (acc.reverse.map fun y=>(VW,y))→CW P Γ pn (.region id ops VW) E0 Q
variable {E0:Env}{acc:List Stp}
theorem CW.dk(h:DK P Γ pn ops id [] E Q ops.toList E []):CW P Γ pn (.region id ops VW) E Q:=h [] rfl trivial trivial rfl
theorem CW.dkS(hs:List Nat)(h:DK P Γ pn ops id hs E Q ops.toList E []):CW P Γ pn (.region id ops VW) E Q:=h [] rfl trivial trivial rfl
theorem dGP(rd:List (Nat×T))(l:zCF)(gx:E.Has rd)(gJ:∀E':Env,E'.Has rd→zAd hs E'→zM6 P Γ pn ops o E' (E'.apps l))(k:DK P Γ pn ops id hs E0 Q os (E.apps l) (⟨rd,l⟩::acc)):DK P Γ pn ops id hs E0 Q (o::os) E acc:=by
 intro don hd hso hh hE;subst hE;have hr:=fun X=>G8 (a:=X) (as:=acc)
 refine k (don++[o]) (by simp[hd]) ?_ ?_ ?_
 ·grind[uI.snoc]
 ·grind[qS.snoc]
 ·rw[hr,H6,zAB];rfl
theorem dGS(rd:List (Nat×T))(l:zCF)(gx:E.Has rd)(gJ:∀E':Env,E'.Has rd→zAd hs E'→zV P Γ ops o E' (E'.apps l))(k:DK P Γ pn ops id hs E0 Q os (E.apps l) (⟨rd,l⟩::acc)):DK P Γ pn ops id hs E0 Q (o::os) E acc:=
 dGP rd l gx (fun E' h h' a w K Q _=>gJ E' h h' a w K Q) k
theorem dG(rd:List (Nat×T))(l:zCF)(gx:E.Has rd)(gJ:∀E':Env,E'.Has rd→zV P Γ ops o E' (E'.apps l))(k:DK P Γ pn ops id hs E0 Q os (E.apps l) (⟨rd,l⟩::acc)):DK P Γ pn ops id hs E0 Q (o::os) E acc:=
 by grind[dGS]
def zPf(hs:List Nat)(E:Env):Bool:=hs.all fun s=>match E s with
 |some t=>zBp t
 |none=>VX
theorem zPg(h:zPf hs E=VW):zAd hs E:=by
 intro s gQ;have h1:=Jy.1 h s (by grind)
 grind
theorem dN(an:List (List Nat))(hm:P.follows .mixedOrders=VW)(hQ:Q .normal E)(hf:zBw 0 ops.toList=VW:=by rfl)(ha:zAX an an ops.toList=VW:=by rfl)(hp:zAl acc.reverse 0 an acc.reverse=VW:=by rfl)
  (dc:ops.toList.all (fun o=>pn.ok o.dst)=VW:=by rfl)(bM:zPf hs E0=VW:=by rfl)(hw:acc.reverse.all (wrS hs)=VW:=by rfl):DK P Γ pn ops id hs E0 Q [] E acc:=by
 intro don hd gJ hh hE
 grind[CW.drawnI,zPg]
end
end Go.Ab
