/- The program's ComplementAt returns what the reference's returns,for all arguments;no conditions. -/
import Derived.Test.YtibamokcnfffhaaGreatAbA
import Derived.Laws.CopyRow
import Derived.ProofKit
open List renaming replicate→J1,getElem?_eq_getElem→J5,length_append→J7,append_assoc→J9,getElem?_append_right→Ja,mem_map→Je,append_nil→Jf,getElem?_eq_some_iff→Jg,length_map→Jj,range→Jk,length_cons→Jl,map_cons→Jn,getElem?_map→Jo,mem_cons→Jp,mem_append→Jt,eq_nil_of_length_eq_zero→Ju,getElem?_append_left→Jv,nil_append→Jw,all_eq_true→K0,mem_iff_getElem→K1,replicate_succ→K6,getElem?_append→K8,take_succ_cons→Ke,reverse_reverse→Kf,nodup_cons→Ki,take_zero→Ko,singleton_append→Kt,mem_of_getElem?→Kw,cons_append→Kz,length_take→L6,flatMap_cons→La,map_append→Ld,contains_eq_mem→Lg,getElem?_take→Lm,getElem?_drop→Ln,range'_succ→He,length_nil→Hu,reverse_nil→Hw,range'→Hy,map_nil→U0,reverse_cons→U6,length_range→U7,map_take→Ua,getD→Ud,map_map→Uh,find?_cons_of_neg→Ut,mem_iff_getElem?→Uv,mem_cons_of_mem→Q8,getLast?_append→Q9,dropLast_concat→Qa,find?_eq_none→Qj,drop_zero→Qk,cons→Ql,all_cons→Ja2,mem_filter→Ja6,getElem?_cons_succ→Ja8,getElem?_set_self→Jab,size_toArray→Jae,getElem?_set→Jaf,getElem?_set_ne→Jb4,map_drop→Jcg
open Bool renaming and_eq_true→J2,not_true→Jc,and_self→Kr,false_eq_true→Lu,not_eq_true'→Hp,true_and→Jch
open Nat renaming blt→J4,zero_add→J6,le_refl→Jh,lt_or_ge→Kb,zero_le→Kn,mul_le_mul_right→Lh,le_trans→Lv,add_assoc→H0,succ_mul→H3,mul_one→Gt,ble→Qx,add_zero→Qy,sub_zero→Jc3
open Array renaming getElem?_setIfInBounds→J8,length_toList→K3,getD_eq_getD_getElem?→K4,getElem?_toList→Kc,getElem?_eq_some_iff→Le,replicate→U5
open Option renaming map_eq_some_iff→Jz,map_some→Hc,some→U4,map_eq_none_iff→Ug,getD_some→Qw
open Prod renaming mk→Qh
open Option renaming some→ud,none→ue
open Bool renaming true→uf,false→ug
namespace Go.Ab
open Go
abbrev Rw:=List (Nat×Nat×T)
def rwI(rw:Rw)(s:Nat):Option Nat:=(rw.find? fun x=>x.2.1==s).map (·.1)
def rwS(rw:Rw)(i:Nat):Option Nat:=(rw.find? fun x=>x.1==i).map (·.2.1)
theorem zBz:(rw:Rw)→(rw.map (·.2.1)).Nodup→ ∀{i s:Nat}{u:T},(i,s,u)∈rw→rwI rw s=ud i
 | [],_,_,_,_,h=>by simp at h
 |(i0,s0,u0)::rw,hn,i,s,u,h=>by
  simp only[Jn,Ki,Je]at hn;rcases Jp.1 h with h|h
  ·simp at h;obtain⟨rfl,rfl,rfl⟩:=h;simp[rwI]
  ·have gj:s0≠s:=fun e=>hn.1 ⟨_,h,e.symm⟩
   have:=zBz rw hn.2 h;simp only[rwI]at this ⊢
   rw[Ut (by simpa using gj)];exact this
theorem zJc:(rw:Rw)→(rw.map (·.1)).Nodup→ ∀{i s:Nat}{u:T},(i,s,u)∈rw→rwS rw i=ud s
 | [],_,_,_,_,h=>by simp at h
 |(i0,s0,u0)::rw,hn,i,s,u,h=>by
  simp only[Jn,Ki,Je]at hn;rcases Jp.1 h with h|h
  ·simp at h;obtain⟨rfl,rfl,rfl⟩:=h;simp[rwS]
  ·have gj:i0≠i:=fun e=>hn.1 ⟨_,h,e.symm⟩
   have:=zJc rw hn.2 h;simp only[rwS]at this ⊢
   rw[Ut (by simpa using gj)];exact this
theorem zJd{rw:Rw}{s:Nat}(h:s∉rw.map (·.2.1)):rwI rw s=ue:=by simp only[rwI,Ug,Qj];intro x hx;simp only[beq_iff_eq];exact fun e=>h (Je.2 ⟨x,hx,e⟩)
theorem zOA{rw:Rw}{i:Nat}(h:∀x∈rw,x.1≠i):rwS rw i=ue:=by simp only[rwS,Ug,Qj];intro x hx;simpa using h x hx
theorem zMl{rw:Rw}{s i:Nat}(h:rwI rw s=ud i):s∈rw.map (·.2.1):=by simp only[rwI,Jz]at h;obtain⟨x,hx,_⟩:=h;have h1:=List.mem_of_find?_eq_some hx;have h2:=List.find?_some hx;exact Je.2 ⟨x,h1,by simpa using h2⟩
abbrev Nd:=List (Nat×List Nat×T)
def zOB(nd:Nd)(k s:Nat):Option (Nat×List Nat):=
 match nd with
 | []=>ue
 |x::r=>if x.1=s then ud (k,x.2.1)else zOB r (k+1) s
def ndB(d:Nat)(nd:Nd)(s:Nat)(z:List Nat):Option (Nat×List Nat):=
 match nd with
 | [x]=>if x.1=s∧x.2.1<:+z then ud (d,z.take (z.length-x.2.1.length))else ue
 |nd=>match zOB nd 0 s with
  |some (k,q)=>if q<:+z then ud (d,z.take (z.length-q.length)++[k])else ue
  |none=>ue
theorem zGR:(nd:Nd)→(nd.map (·.1)).Nodup→ ∀{k k0:Nat}{x:Nat×List Nat×T},nd[k]? =ud x→zOB nd k0 x.1=ud (k0+k,x.2.1)
 | [],_,_,_,_,h=>by simp at h
 |y::nd,hn,k,k0,x,h=>by
  simp only[Jn,Ki,Je]at hn;cases k with
  |zero=>simp at h;subst h;simp[zOB]
  |succ k=>
   simp only[Ja8]at h;have gj:y.1≠x.1:=fun e=>hn.1 ⟨x,Kw h,e.symm⟩
   simp only[zOB,gj,if_false];rw[zGR nd hn.2 h]
   congr 2;omega
def zOC(G:Gh)(nd:Nd)(z:List Nat):Value:=
 match nd with
 | [x]=>G.hd x.1 (z++x.2.1)
 |nd=>match z.getLast? with
  |some k=>(match nd[k]? with
   |some x=>G.hd x.1 (z.dropLast++x.2.1)
   |none=>.bool ug)
  |none=>.bool ug
def zRP(G:Gh)(nd:Nd)(z:List Nat):Addr:=
 match nd with
 | [x]=>G.ad x.1 (z++x.2.1)
 |nd=>match z.getLast? with
  |some k=>(match nd[k]? with
   |some x=>G.ad x.1 (z.dropLast++x.2.1)
   |none=>default)
  |none=>default
def Gh.arg(G:Gh)(a:Act)(xs:List Operand)(rw:Rw):Gh where
 hd i z:=match xs[i]? with
  |some (.tmp s)=>G.hd s z
  |some x=>qE (a.eval x)
  |none=>.bool ug
 ad i z:=match xs[i]? with
  |some (.tmp s)=>G.ad s z
  |_=>default
 lb b o:=match G.lb b o with
  |some (f,s,z)=>(match rwI rw s,G.ow b with
   |some i,ud (s',_)=>if s'=s then ud (f,i,z)else ue
   |_,_=>ue)
  |none=>ue
 ow b:=match G.ow b with
  |some (s,z)=>(match rwI rw s with
   |some i=>ud (i,z)
   |none=>ue)
  |none=>ue
def kY(G:Gh)(rw:Rw)(b:Nat):Prop:=∃s z,G.ow b=ud (s,z)∧s∈rw.map (·.2.1)
def zCw(d:Nat)(rw:Rw)(nd:Nd)(s:Nat)(z:List Nat):Option (Nat×List Nat):=
 match rwS rw s with
 |some s'=>ud (s',z)
 |none=>ndB d nd s z
open Classical in
noncomputable def Gh.back (G G':Gh) (n0 d:Nat) (rw:Rw) (nd:Nd):Gh where
 hd s z:=if s=d then zOC G' nd z else match rwI rw s with
  |some i=>G'.hd i z
  |none=>G.hd s z
 ad s z:=if s=d then zRP G' nd z else match rwI rw s with
  |some i=>if z=[]then G.ad s z else G'.ad i z
  |none=>G.ad s z
 lb b o:=if kY G rw b∨n0≤b then(match G'.lb b o with
  |some (f,s,z)=>(match zCw d rw nd s z with
   |some (s',z')=>ud (f,s',z')
   |none=>ue)
  |none=>ue)else G.lb b o
 ow b:=if kY G rw b∨n0≤b then(match G'.ow b with
  |some (s,z)=>zCw d rw nd s z
  |none=>ue)else G.ow b
def zKI(res:List T):T:=match res with
 | [u]=>u
 |us=>.tup us
def cWr(d:Nat)(res:List T)(rw:Rw):Wr:=(d,ud (zKI res))::rw.map fun x=>(x.2.1,ud x.2.2)
def cLv(t:T):Nat:=if t.single then 1 else 0
def vJ(d:Nat)(rw:Rw):Chg:=(d,0)::rw.map fun x=>(x.2.1,cLv x.2.2)
theorem zFz{d:Nat}{rw:Rw}{x:Nat×Nat×T}(h:x∈rw):(x.2.1,cLv x.2.2)∈vJ d rw:=Q8 _ (Je.2 ⟨x,h,rfl⟩)
theorem zMm{Gn G':Gh}{d:Nat}:(nd:Nd)→ ∀(j:Nat),(∀k x,nd[k]? =ud x→ ∀z,Gn.hd d (z++[j+k])=G'.hd x.1 (z++x.2.1))→qX Gn d (nd.map (·.2.2)) [] j=nd.map fun x=>tG G' x.1 x.2.2 x.2.1
 | [],_,_=>by simp[qX]
 |x::nd,j,h=>by
  have ih:=zMm (Gn:=Gn) (G':=G') (d:=d) nd (j+1) (fun k y hy z=>by rw[show j+1+k=j+(k+1)from by omega];exact h (k+1) y (by simpa using hy) z)
  simp only[Jn,qX,ih];rw[zAI x.2.2 x.2.1 [j] (by simpa using h 0 x (by simp))]
theorem zOD{d:Nat}{res:List T}{rw:Rw}{s:Nat}{x:Option T}(h:(cWr d res rw).find s=ud x):(s=d∧x=ud (zKI res))∨(s≠d∧ ∃i u,(i,s,u)∈rw∧x=ud u):=by
 simp only[cWr,Wr.find]at h;split at h
 ·rename_i he;simp at h;exact .inl ⟨he.symm,h.symm⟩
 ·rename_i gj
  refine .inr ⟨fun e=>gj e.symm,?_⟩
  clear gj
  induction rw with
  |nil=>simp[Wr.find]at h
  |cons y rw ih=>
   simp only[Jn,Wr.find]at h;split at h
   ·rename_i he;simp at h;subst he;exact⟨y.1,y.2.2,by simp,h.symm⟩
   ·obtain⟨i,u,h1,h2⟩:=ih h;exact⟨i,u,by simp[h1],h2⟩
theorem zOE{d:Nat}{res:List T}{rw:Rw}{s:Nat}(h:(cWr d res rw).find s=ue):s≠d∧s∉rw.map (·.2.1):=by
 simp only[cWr,Wr.find]at h;split at h
 ·cases h
 ·rename_i gj
  refine⟨fun e=>gj e.symm,?_⟩
  clear gj
  induction rw with
  |nil=>simp
  |cons y rw ih=>
   simp only[Jn,Wr.find]at h;split at h
   ·cases h
   ·rename_i he
    simp only[Jn,Jp,not_or];exact⟨fun e=>he e.symm,ih h⟩
def aft(S Sc S':Stb):Stb:=fun b=>match Sc b with
 |none=>S' b
 |some _=>S b
theorem Rep.up{Γ:Ctx}{E:Env}{G:Gh}{tmps tmps':Array Value}{w w':World}{G':Gh}{wr:Wr}{chg:Chg}{S:Stb}(h:Rep Γ E G tmps w)(hS:∀b x,Γ.St b=ud x→S b=ud x)
  (gL:tmps'.size=tmps.size)(hk:sE chg G w G' w')(gx:Mem (Γ.at S) G' w')
  (gC:∀s,wr.find s=ue→(∀n,(s,n)∉chg)∧tmps'[s]? =tmps[s]?)
  (ec:∀s t,wr.find s=ud (ud t)→Ent (Γ.at S) G' w' tmps'[s]? s t):Rep (Γ.at S) (E.app wr chg) G' tmps' w' where
 size:=by rw[gL];exact h.size
 mem:=gx
 ent s t hs:=by
  unfold Env.app at hs;cases hf:wr.find s with
  |some x=>
   rw[hf]at hs;simp at hs;subst hs;exact ec s t hf
  |none=>
   rw[hf]at hs;simp at hs;cases he:E s with
   |none=>simp[he]at hs
   |some u=>
    simp[he]at hs;obtain⟨gG,rfl⟩:=hs;rw[(gC s hf).2];obtain⟨e1,e2,e3⟩:=Ent.keep hk (gC s hf).1 gG (h.ent s u he);exact⟨e1,zHV hS u [] e2,e3⟩
section
variable {P:Program}{Γ:Ctx}{E:Env}{d:Nat}
theorem zF0{G:Gh}{a:Act}{w:World}(g9:Rep Γ E G a.tmps w)(hd:d<Γ.N){Sc:Stb}{rw:Rw}(hS1:∀b x,Sc b=ud x→w.heap[b]? =ud x∧ ¬kY G rw b)(hS0:∀b x,Γ.St b=ud x→Sc b=ud x){f:FuncId}{us res:List T}
  (hc:FnC P f us res (rw.map fun x=>(x.1,x.2.2))){xs:List Operand}(gg:xs.length=us.length)
  (gc:∀(i:Nat) u,us[i]? =ud u→(∃x,xs[i]? =ud x∧a.eval x=mkV (G.arg a xs rw) i u []∧R Sc (G.arg a xs rw) w i u []))
  (hn1:(d::rw.map (·.2.1)).Nodup)(hn2:(rw.map (·.1)).Nodup)(gX:∀x∈rw,xs[x.1]? =ud (.tmp x.2.1))
  (gk:∀u∈res,zS u∧u.okTup=uf∧ ∀(S':Stb)(G:Gh)(w:World)(s:Nat)(p:List Nat),(∀b x,Sc b=ud x→S' b=ud x)→R S' G w s u p→R (aft Γ.St Sc S') G w s u p)
  (bP:∀x∈rw,zS x.2.2∧(∀(S':Stb)(G:Gh)(w:World)(s:Nat)(p:List Nat),(∀b x,Sc b=ud x→S' b=ud x)→R S' G w s x.2.2 p→R (aft Γ.St Sc S') G w s x.2.2 p)∧ ∃u,E x.2.1=ud u∧x.2.2.single=u.single∧us[x.1]? =ud u):
  Calls P f (xs.map a.eval).toArray w fun e w'=> ∃v,e=.returned v∧ ∃S G',zCn Γ.St S Γ.W Γ.w0.heap.size∧sE (vJ d rw) G w G' w'∧Rep (Γ.at S) (E.app (cWr d res rw) (vJ d rw)) G' (a.tmps.setIfInBounds d v) w':=by
 have hm:=g9.mem;have pL:=Ki.1 hn1;have hmc:Mem ⟨Sc,kY G rw,w,0⟩ (G.arg a xs rw) w:=by
  have gF:∀b,kY G rw b→Sc b=ue:=fun b h=>by
   cases hs:Sc b with
   |none=>rfl
   |some x=>exact absurd h (hS1 b x hs).2
  refine⟨fun i z=>?_,fun b o l hl=>?_,fun b l hl=>?_,fun b x hx=>(hS1 b x hx).1,fun b _ _=>rfl,Jh _,⟨fun b cs e h=>⟨cs,h,rfl⟩,rfl,rfl⟩⟩
  ·simp only[Gh.arg]
   split
   ·exact hm.one _ _
   ·exact zAz _
   ·rfl
  ·simp only[Gh.arg]at hl
   split at hl
   ·rename_i f' s z hg
    split at hl
    ·rename_i i s' y hi ho
     split at hl
     ·rename_i he;subst he
      have hL:kY G rw b:=⟨s',y,ho,zMl hi⟩;exact⟨(hm.lb b o _ hg).1,.inr hL,gF b hL⟩
     ·cases hl
    ·cases hl
   ·cases hl
  ·simp only[Gh.arg]at hl
   split at hl
   ·rename_i s z hg
    split at hl
    ·rename_i i hi
     have hL:kY G rw b:=⟨s,z,hg,zMl hi⟩;exact⟨(hm.ow b _ hg).1,.inr hL,gF b hL⟩
    ·cases hl
   ·cases hl
 have gr:=hc Sc (kY G rw) w (G.arg a xs rw) (xs.map a.eval).toArray (by simp[gg]) (fun i u hu=>by obtain⟨x,h1,h2,h3⟩:=gc i u hu;exact⟨by simp[h1,h2],h3⟩) hmc
 refine gr.mono ?_
 rintro e w' ⟨S',G',nd,gU,rfl,gz,fJ,pd,pc,bO⟩
 have fS:∀b x,Γ.St b=ud x→aft Γ.St Sc S' b=ud x:=fun b x hx=>by simp only[aft,hS0 b x hx,hx]
 have tg:zCn Γ.St (aft Γ.St Sc S') Γ.W Γ.w0.heap.size:=⟨fS,fun b hb eC=>by
  simp only[aft]at eC;split at eC
  ·rename_i hs
   rcases gU.nw b hs eC with h|⟨s,z,h,_⟩
   ·exact .inl (by have:=hm.sz;omega)
   ·exact(hm.ow b _ h).2.1
  ·exact absurd hb eC⟩
 refine⟨_,rfl,aft Γ.St Sc S',G.back G' w.heap.size d rw nd,tg,?_⟩;have pi:∀b,b<w.heap.size→ ¬kY G rw b→w'.heap[b]? =w.heap[b]?:=gz.fr;have gw:w.heap.size≤w'.heap.size:=gz.sz;have gE:Blk w w':=gz.bk.blk
 generalize hGn:G.back G' w.heap.size d rw nd=Gn
 have ghdd:∀z,Gn.hd d z=zOC G' nd z:=fun z=>by rw[←hGn];simp[Gh.back]
 have gadd:∀z,Gn.ad d z=zRP G' nd z:=fun z=>by rw[←hGn];simp[Gh.back]
 have ghd0:∀s z,s≠d→s∉rw.map (·.2.1)→Gn.hd s z=G.hd s z:=fun s z h1 h2=>by rw[←hGn];simp[Gh.back,h1,zJd h2]
 have gad0:∀s z,s≠d→s∉rw.map (·.2.1)→Gn.ad s z=G.ad s z:=fun s z h1 h2=>by rw[←hGn];simp[Gh.back,h1,zJd h2]
 have eg:∀i s u,(i,s,u)∈rw→s≠d:=fun i s u h e=>pL.1 (e▸Je.2 ⟨_,h,rfl⟩)
 have ghdr:∀i s u z,(i,s,u)∈rw→Gn.hd s z=G'.hd i z:=fun i s u z h=>by rw[←hGn];simp[Gh.back,eg i s u h,zBz rw pL.2 h]
 have gadr:∀i s u z,(i,s,u)∈rw→z≠[]→Gn.ad s z=G'.ad i z:=fun i s u z h h0=>by rw[←hGn];simp[Gh.back,eg i s u h,zBz rw pL.2 h,h0]
 have gadr0:∀i s u,(i,s,u)∈rw→Gn.ad s []=G.ad s []:=fun i s u h=>by rw[←hGn];simp[Gh.back,eg i s u h,zBz rw pL.2 h]
 have glb0:∀b o l,¬kY G rw b→G.lb b o=ud l→Gn.lb b o=ud l:=fun b o l h1 h2=>by have:=(hm.lb b o _ h2).1;rw[←hGn];simp only[Gh.back];rw[if_neg (by rintro(h|h);exact h1 h;omega)];exact h2
 have gow0:∀b l,¬kY G rw b→G.ow b=ud l→Gn.ow b=ud l:=fun b l h1 h2=>by have:=(hm.ow b _ h2).1;rw[←hGn];simp only[Gh.back];rw[if_neg (by rintro(h|h);exact h1 h;omega)];exact h2
 have gW:∀b o l,G'.lb b o=ud l→kY G rw b∨w.heap.size≤b:=fun b o l h=>(gz.lb b o l h).2.1.symm
 have mE:∀b l,G'.ow b=ud l→kY G rw b∨w.heap.size≤b:=fun b l h=>(gz.ow b l h).2.1.symm
 have glb1:∀b o fl s z s' z',G'.lb b o=ud (fl,s,z)→zCw d rw nd s z=ud (s',z')→Gn.lb b o=ud (fl,s',z'):=fun b o fl s z s' z' h1 h2=>by rw[←hGn];simp only[Gh.back];rw[if_pos (gW b o _ h1),h1];simp[h2]
 have gow1:∀b s z l,G'.ow b=ud (s,z)→zCw d rw nd s z=ud l→Gn.ow b=ud l:=fun b s z l h1 h2=>by rw[←hGn];simp only[Gh.back];rw[if_pos (mE b _ h1),h1];simp[h2]
 have aB:∀i s u z,(i,s,u)∈rw→zCw d rw nd i z=ud (s,z):=fun i s u z h=>by simp[zCw,zJc rw hn2 h]
 have gT:∀x∈rw,x.1<us.length:=fun x hx=>by have:=(Jg.1 (gX x hx)).1;omega
 have hbn:∀x∈nd,∀z,zCw d rw nd x.1 z=ndB d nd x.1 z:=fun x hx z=>by have h1:=(pd x hx).2;have h2:rwS rw x.1=ue:=zOA (fun y hy e=>by have:=gT y hy;omega);simp[zCw,h2]
 have pY:∀(k:Nat) x,nd[k]? =ud x→ ∃tgt,(nd.length=1→tgt=[])∧(nd.length≠1→tgt=[k])∧(∀z,Gn.hd d (z++tgt)=G'.hd x.1 (z++x.2.1))∧(∀z,Gn.ad d (z++tgt)=G'.ad x.1 (z++x.2.1))∧ ∀z,zCw d rw nd x.1 (z++x.2.1)=ud (d,z++tgt):=by
  intro k x hk;have mX:=Kw hk
  match nd,hk,pc,hbn x mX,ghdd,gadd with
  | [y],hk,pc,hb,ghdd,gadd=>
   have hkx:y=x:=by
    cases k with
    |zero=>simpa using hk
    |succ k=>simp at hk
   subst hkx;exact⟨[],fun _=>rfl,fun h=>absurd rfl h,fun z=>by rw[ghdd];simp[zOC],fun z=>by rw[gadd];simp[zRP],fun z=>by rw[hb];simp[ndB]⟩
  | [],hk,_,_,_,_=>simp at hk
  |y1::y2::r,hk,pc,hb,ghdd,gadd=>
   refine⟨[k],fun h=>by simp at h,fun _=>rfl,fun z=>by rw[ghdd];simp only[zOC,Q9,Qa];simp[hk],fun z=>by rw[gadd];simp only[zRP,Q9,Qa];simp[hk],fun z=>?_⟩;rw[hb];have:=zGR (y1::y2::r) pc (k0:=0) hk;rw[J6]at this;simp only[ndB,this];simp
 have pB:∀(k:Nat) x,nd[k]? =ud x→ ∀tgt,(∀z,Gn.hd d (z++tgt)=G'.hd x.1 (z++x.2.1))→(∀z,Gn.ad d (z++tgt)=G'.ad x.1 (z++x.2.1))→(∀z,zCw d rw nd x.1 (z++x.2.1)=ud (d,z++tgt))→R (aft Γ.St Sc S') Gn w' d x.2.2 tgt:=by intro k x hk tgt h1 h2 h3;have mX:=Kw hk;obtain⟨c1,c2,c3⟩:=gk x.2.2 (by rw[←fJ];exact Je.2 ⟨x,mX,rfl⟩);refine qP (G:=G') (w:=w') (s:=x.1) (p:=x.2.1) ⟨⟨h1,fun z _=>h2 z,fun b o f' z _ _ hl=>⟨glb1 b o f' _ _ _ _ hl (h3 z),rfl⟩,fun b z _ hl=>gow1 b _ _ _ hl (h3 z),fun b cs e h=>⟨cs,h,rfl⟩⟩,fun b o _ hl=>⟨glb1 b o uf _ _ _ _ hl (by simpa using h3 []),rfl⟩,fun b hl=>gow1 b _ _ _ hl (by simpa using h3 [])⟩ _ (yM.mono (fun _ _=>False.elim) _ c1) (c3 _ _ _ _ _ gU.le (pd x mX).1)
 have gv:sE (vJ d rw) G w Gn w':=by
  have gB:∀s,(∀n,(s,n)∉vJ d rw)→s≠d∧s∉rw.map (·.2.1):=fun s h=>⟨fun e=>h 0 (by simp[vJ,e]),fun hm=>by obtain⟨x,hx,rfl⟩:=Je.1 hm;exact h _ (zFz hx)⟩
  have cB:∀b s y,G.ow b=ud (s,y)→s∉rw.map (·.2.1)→ ¬kY G rw b:=by
   rintro b s y h1 h2 ⟨s',z',h3,h4⟩
   rw[h1]at h3;simp at h3;exact h2 (h3.1▸h4)
  refine⟨fun s p h=>?_,fun s p h=>?_,fun b o fl s p gS h1 h2=>?_,fun b s p h1 h2=>?_,gE⟩
  ·have h1:s≠d:=fun e=>absurd (h 0 (by simp[vJ,e])) (by simp)
   by_cases h2:s∈rw.map (·.2.1)
   ·
    obtain⟨x,hx,rfl⟩:=Je.1 h2;have hc:=h _ (zFz hx);have c2:x.2.2.single=uf:=by
     cases fb:x.2.2.single with
     |true=>rfl
     |false=>simp[cLv,fb]at hc
    have h3:p=[]:=Ju (by simp only[cLv,c2,if_true]at hc;omega);subst h3;obtain⟨_,_,u,c4,c5,c6⟩:=bP x hx;rw[c2]at c5;have c5:=c5.symm;obtain⟨_,u0,e1,e2⟩:=bO x.1 x.2.2 (Je.2 ⟨x,hx,rfl⟩);rw[c6]at e1;simp at e1;subst e1;rw[yU c2,yU c5]at e2;rw[ghdr x.1 x.2.1 x.2.2 [] hx,e2];simp[Gh.arg,gX x hx]
   ·exact ghd0 s p h1 h2
  ·have h1:s≠d:=fun e=>absurd (h 0 (by simp[vJ,e])) (by simp)
   by_cases h2:s∈rw.map (·.2.1)
   ·obtain⟨x,hx,rfl⟩:=Je.1 h2
    have hc:=h _ (zFz hx);have h3:p=[]:=Ju (by have:cLv x.2.2≤1:=(by unfold cLv;split<;>omega);omega);subst h3;exact gadr0 x.1 x.2.1 x.2.2 hx
   ·exact gad0 s p h1 h2
  ·obtain⟨h3,h4⟩:=gB s h2
   obtain⟨y,hy⟩:=gS;have h5:=cB b s y hy h4;exact⟨glb0 b o _ h5 h1,by simp[yE,World.cell?,pi b (hm.lb b o _ h1).1 h5]⟩
  ·obtain⟨h3,h4⟩:=gB s h2
   exact gow0 b _ (cB b s p h1 h4) h1
 have gx:Mem (Γ.at (aft Γ.St Sc S')) Gn w':=by
  have gG:∀b,b<w'.heap.size∧(w.heap.size≤b∨kY G rw b)∧S' b=ue→zBq (Γ.at (aft Γ.St Sc S')) w' b:=fun b ⟨hb,h,gH⟩=>by
   have hsc:Sc b=ue:=by
    cases hs:Sc b with
    |none=>rfl
    |some x=>rw[gU.le b x hs]at gH;cases gH
   refine⟨hb,?_,by simp only[aft,hsc];exact gH⟩;rcases h with h|⟨s,z,h1,_⟩
   ·exact .inl (by have:=hm.sz;show Γ.w0.heap.size≤b;omega)
   ·exact(hm.ow b _ h1).2.1
  have gC:∀b,¬(kY G rw b∨w.heap.size≤b)→zBq Γ w b→zBq (Γ.at (aft Γ.St Sc S')) w' b:=fun b h ⟨h1,h2,h3⟩=>by
   refine⟨by omega,h2,?_⟩;simp only[aft];split
   ·rename_i hs
    cases gH:S' b with
    |none=>rfl
    |some x=>
     rcases gU.nw b hs (by rw[gH];simp)with h4|h4
     ·exact absurd (.inr h4) h
     ·exact absurd (.inl h4) h
   ·exact h3
  refine⟨fun s z=>?_,fun b o l hl=>?_,fun b l hl=>?_,fun b x hx=>?_,fun b(h1:b<Γ.w0.heap.size) h2=>?_,Lv hm.sz gw,hm.bk.trans gE gz.bk.os gz.bk.out⟩
  ·by_cases h1:s=d
   ·subst h1
    rw[ghdd];unfold zOC;split
    ·exact gz.one _ _
    ·split
     ·split
      ·exact gz.one _ _
      ·rfl
     ·rfl
   ·by_cases h2:s∈rw.map (·.2.1)
    ·obtain⟨x,hx,rfl⟩:=Je.1 h2
     rw[ghdr x.1 x.2.1 x.2.2 z hx];exact gz.one _ _
    ·rw[ghd0 s z h1 h2];exact hm.one _ _
  ·rw[←hGn]at hl
   simp only[Gh.back]at hl;split at hl
   ·rename_i pm
    split at hl
    ·rename_i hg
     exact gG b (gz.lb b o _ hg)
    ·cases hl
   ·rename_i pm
    exact gC b pm (hm.lb b o l hl)
  ·rw[←hGn]at hl
   simp only[Gh.back]at hl;split at hl
   ·rename_i pm
    split at hl
    ·rename_i hg
     exact gG b (gz.ow b _ hg)
    ·cases hl
   ·rename_i pm
    exact gC b pm (hm.ow b l hl)
  ·simp only[aft]at hx
   split at hx
   ·exact gz.st b x hx
   have h1:=hm.st b x hx;have h2:=(Le.1 h1).1;have h3:¬kY G rw b:=by
    rintro⟨s,z,h4,_⟩
    rw[(hm.ow b _ h4).2.2]at hx;cases hx
   rw[pi b h2 h3];exact h1
  ·have h3:¬kY G rw b:=by
    rintro⟨s,z,h4,_⟩
    rcases(hm.ow b _ h4).2.1 with h5|h5
    ·omega
    ·exact h2 h5
   rw[pi b (by have:=hm.sz;omega) h3];exact hm.fr b h1 h2
 have dy:nd.length=res.length:=by rw[←fJ];simp
 refine⟨gv,g9.up fS (by simp) gv gx ?_ ?_⟩
 ·intro s hs
  obtain⟨h1,h2⟩:=zOE hs;refine⟨fun n hn=>?_,by rw[J8];simp[Ne.symm h1]⟩;simp only[vJ,Jp,Qh.injEq,Je]at hn;rcases hn with⟨e,_⟩|⟨x,hx,e,_⟩
  ·exact h1 e
  ·exact h2 (Je.2 ⟨x,hx,e⟩)
 ·intro s t hs
  rcases zOD hs with⟨rfl,ht⟩|⟨gj,i,u,fT,ht⟩
  ·simp at ht
   subst ht;rw[J8];simp only[g9.size,hd,if_true];have cu:res=nd.map (·.2.2):=fJ.symm
   by_cases hl:nd.length=1
   ·obtain⟨x,hx⟩:∃x,nd=[x]:=List.length_eq_one_iff.1 hl
    obtain⟨tgt,t1,_,t3,t4,t5⟩:=pY 0 x (by simp[hx]);obtain rfl:=t1 hl;have hr:=pB 0 x (by simp[hx]) [] t3 t4 t5;obtain⟨c1,c2,_⟩:=gk x.2.2 (by rw[cu,hx];simp);have fp:zKI res=x.2.2:=by rw[cu,hx];rfl
    have gV:∀ys,x.2.2≠.tup ys:=fun ys e=>by rw[e]at c2;simp[T.okTup]at c2
    rw[fp];refine⟨?_,hr,Top.of_clean _ c1⟩;rw[qY Gn s _ [] gV,zAI x.2.2 x.2.1 [] t3,hx];rfl
   ·have fp:zKI res=.tup res:=by
     rw[dy]at hl
     match res,hl with
     | [],_=>rfl
     | [u],hl=>simp at hl
     |_::_::_,_=>rfl
    rw[fp];have gD:∀k x,nd[k]? =ud x→ ∀z,Gn.hd s (z++[0+k])=G'.hd x.1 (z++x.2.1):=fun k x hk z=>by obtain⟨tgt,_,t2,t3,_,_⟩:=pY k x hk;rw[t2 hl]at t3;rw[J6];exact t3 z
    refine⟨?_,?_,?_⟩
    ·have hv:=zMm (Gn:=Gn) (G':=G') (d:=s) nd 0 gD
     rw[fJ]at hv;simp only[mkV,hv];unfold zIY;split
     ·simp at hl
     ·rfl
    ·simp only[R]
     rw[cu];refine zMb _ [] 0 (fun k u hu=>?_);rw[Jo]at hu;cases hk:nd[k]? with
     |none=>simp[hk]at hu
     |some x=>
      simp[hk]at hu;subst hu;obtain⟨tgt,_,t2,t3,t4,t5⟩:=pY k x hk;rw[t2 hl]at t3 t4 t5;rw[J6];exact pB k x hk [k] t3 t4 t5
    ·simp only[Top]
     refine vK.of_clean _ ?_;have:∀us:List T,(∀u∈us,zS u)→yP us:=by
      intro us
      induction us with
      |nil=>intro _;trivial
      |cons u us ih=>intro h;exact⟨h u (by simp),ih fun v hv=>h v (by simp[hv])⟩
     exact this res fun u hu=>(gk u hu).1
  ·simp at ht
   subst ht;obtain⟨c1,c3,u0,c4,_,c6⟩:=bP _ fT;obtain⟨r1,u1,e1,e2⟩:=bO i t (Je.2 ⟨_,fT,rfl⟩);simp only at c4 c6;rw[c6]at e1;simp at e1;subst e1;refine⟨?_,?_,Top.of_clean _ c1⟩
   ·rw[J8]
    simp only[Ne.symm gj,if_false];have ac:=gX _ fT;simp only at ac;have m1:mkV Gn s t []=mkV G' i t []:=zDL t [] [] (fun z=>by rw[Jf];exact ghdr i s t z fT);have m2:mkV (G.arg a xs rw) i u0 []=mkV G s u0 []:=zDL u0 [] [] (fun z=>by simp[Gh.arg,ac]);rw[(g9.ent s u0 c4).1,m1,e2,m2]
   ·refine qP (G:=G') (w:=w') (s:=i) (p:=[]) ⟨⟨fun z=>by rw[Jf];exact ghdr i s t z fT,fun z hz=>by rw[Jf];exact gadr i s t z fT hz,fun b o f' z _ _ hl=>?_,fun b z _ hl=>?_,fun b cs e h=>⟨cs,h,rfl⟩⟩,fun b o _ hl=>⟨glb1 b o uf _ _ _ _ hl (aB i s t [] fT),rfl⟩,fun b hl=>gow1 b _ _ _ hl (aB i s t [] fT)⟩ t (yM.mono (fun _ _=>False.elim) _ c1) (c3 _ _ _ _ _ gU.le r1)
    ·rw[Jf]at hl ⊢;exact⟨glb1 b o f' _ _ _ _ hl (aB i s t z fT),rfl⟩
    ·rw[Jf]at hl ⊢;exact gow1 b _ _ _ hl (aB i s t z fT)
end
end Go.Ab

namespace Go.Ab
open Go
def zMn(E:Env)(rs:List Nat)(x:Operand)(t:T):Bool:=
 match x with
 |.tmp s=>tV E rs s t
 |_=>uf
def zBd(E:Env)(rw:Rw)(i:Nat)(x:Operand)(u:T):Prop:=
 (∃s u',x=.tmp s∧(i,s,u')∈rw∧E s=ud u∧zS u∧u.okTup=uf∧wG u=uf)∨(∃t,opT E x=ud t∧clo E t=u∧zMn E (rw.map (·.2.1)) x t=uf)
def xN(E:Env)(rw:Rw):Nat→List Operand→List T→Prop
 |_,[],[]=>True
 |i,x::xs,u::us=>zBd E rw i x u∧xN E rw (i+1) xs us
 |_,_,_=>False
theorem xN.length{E:Env}{rw:Rw}:(xs:List Operand)→(us:List T)→ ∀i,xN E rw i xs us→xs.length=us.length
 | [],[],_,_=>rfl
 |_::xs,_::us,i,h=>by simp[xN.length xs us (i+1) h.2]
 | [],_::_,_,h=>by simp[xN]at h
 |_::_,[],_,h=>by simp[xN]at h
theorem xN.get{E:Env}{rw:Rw}:(xs:List Operand)→(us:List T)→ ∀i,xN E rw i xs us→ ∀(j:Nat) u,us[j]? =ud u→ ∃x,xs[j]? =ud x∧zBd E rw (i+j) x u
 | [],[],_,_,_,_,h=>by simp at h
 |x::xs,v::us,i,h,j,u,hj=>by
  cases j with
  |zero=>simp at hj;subst hj;exact⟨x,by simp,h.1⟩
  |succ j=>
   obtain⟨y,h1,h2⟩:=xN.get xs us (i+1) h.2 j u (by simpa using hj);exact⟨y,by simpa using h1,by rwa [show i+(j+1)=i+1+j from by omega]⟩
 | [],_::_,_,h,_,_,_=>by simp[xN]at h
 |_::_,[],_,h,_,_,_=>by grind
structure zF1 (E:Env) (d:Nat) (xs:List Operand) (us:List T) (rw:Rw):Prop where
 nodup:(d::rw.map (·.2.1)).Nodup
 nodup2:(rw.map (·.1)).Nodup
 at_:∀x∈rw,xs[x.1]? =ud (.tmp x.2.1)
 tree:∀x∈rw,zS x.2.2∧wG x.2.2=uf∧ ∃u,E x.2.1=ud u∧x.2.2.single=u.single∧us[x.1]? =ud u
theorem zF1.nil{E:Env}{d:Nat}{xs:List Operand}{us:List T}:zF1 E d xs us []:=⟨by simp,by simp,by simp,by simp⟩
theorem zF1.one{E:Env}{d i s:Nat}{u u':T}{xs:List Operand}{us:List T}(h1:d≠s)(h2:xs[i]? =ud (.tmp s))(h3:zS u')(h4:u'.single=uf)(h5:wG u'=uf)(h6:E s=ud u)(h7:u.single=uf)(h8:us[i]? =ud u):
  zF1 E d xs us [(i,s,u')]:=⟨by grind,by simp,by grind,by grind⟩
theorem zF1.one'{E:Env}{d i s:Nat}{u u':T}{xs:List Operand}{us:List T}(h1:d≠s)(h2:xs[i]? =ud (.tmp s))(h3:zS u')(h4:u'.single=u.single)(h5:wG u'=uf)(h6:E s=ud u)(h8:us[i]? =ud u):
  zF1 E d xs us [(i,s,u')]:=⟨by grind,by simp,by grind,by grind⟩
section
variable {P:Program}{Γ:Ctx}{E:Env}{o:Oper}{d:Nat}
theorem zRQ{G:Gh}{a:Act}{w:World}(g9:Rep Γ E G a.tmps w){rw:Rw}{xs:List Operand}{us:List T}(hr:zF1 E d xs us rw){Sc:Stb}(hH:∀b x,Γ.St b=ud x→Sc b=ud x)
  (hJ:∀r,r∉rw.map (·.2.1)→ ∀b,(∃y,G.ow b=ud (r,y))→Sc b=w.heap[b]?){i:Nat}{x:Operand}{u:T}(hx:xs[i]? =ud x)(hu:us[i]? =ud u)(h:zBd E rw i x u):
  a.eval x=mkV (G.arg a xs rw) i u []∧R Sc (G.arg a xs rw) w i u []:=by
 rcases h with⟨s,u',rfl,h1,h2,h3,h4,h5⟩|⟨t,h1,rfl,h3⟩
 ·obtain⟨e1,e2,_⟩:=g9.ent s u h2
  have gD:∀z,(G.arg a xs rw).hd i z=G.hd s z:=by grind[Gh.arg]
  have fd:∀z,(G.arg a xs rw).ad i z=G.ad s z:=by grind[Gh.arg]
  have hi:=zBz rw (Ki.1 hr.nodup).2 h1;refine⟨by grind[xQ,zDL],?_⟩;refine zNk u [] h5 (qP (St:=Γ.St) (G:=G) (w:=w) (s:=s) (p:=[]) ⟨⟨by grind,by grind,fun b o' f' z _ gS hl=>?_,fun b z _ hl=>?_,fun b cs e h=>⟨cs,h,rfl⟩⟩,fun b o' gS hl=>?_,fun b hl=>?_⟩ u (by grind[yM.mono]) e2)
  ·obtain⟨y,hy⟩:=gS
   exact⟨by grind[Gh.arg],rfl⟩
  ·grind[Gh.arg]
  ·obtain⟨y,hy⟩:=gS
   exact⟨by grind[Gh.arg],rfl⟩
  grind[Gh.arg]
 ·cases x with
  |tmp s=>
   have gD:∀z,(G.arg a xs rw).hd i z=G.hd s z:=by grind[Gh.arg]
   obtain⟨e1,e2,_⟩:=g9.ent s t h1
   grind[zMn,xQ,zHW,zTp]
  |const v=>
   simp only[opT]at h1;split at h1
   ·rename_i gu
    simp at h1;subst h1;have gD:(G.arg a xs rw).hd i []=v:=by grind[Gh.arg,Act.eval,jR]
    exact⟨by grind[clo,mkV,Act.eval],by simp[clo,R,gD]⟩
   ·cases h1
  |func f=>
   simp only[opT]at h1;simp at h1;subst h1;have gD:(G.arg a xs rw).hd i []=.func (.func f) #[] #[]:=by grind[Gh.arg,Act.eval,qE,Value.oneCell']
   exact⟨by grind[clo,mkV,Act.eval],by simp[clo,R,gD]⟩
  |global g=>grind[opT]
theorem zBX{E:Env}:(t:T)→t.flat=uf→(∀rs s,tV E rs s t=uf)∧clo E t=t
 |.lit _,_|.ro _,_=>by simp[tV,clo]
 |.agg ts,h=>by
  simp only[T.flat]at h;have:=go ts h
  grind[tV,clo]
 |.any,h|.same _ _,h|.addr _ _,h|.sub _ _ _ _ _,h|.sl _ _,h|.ptr _,h|.tup _,h=>by grind[T.flat]
where go:(ts:List T)→jM ts=uf→(∀rs s,kN E rs s ts=uf)∧zAN E ts=ts
 | [],_=>by simp[kN,zAN]
 |x::xs,h=>by simp only[jM,J2]at h;simp only[kN,zAN,J2];exact⟨fun rs s=>⟨(zBX x h.1).1 rs s,(go xs h.2).1 rs s⟩,by rw[(zBX x h.1).2,(go xs h.2).2]⟩
theorem zB0{a:Act}{w:World}{K:Act→World→Prop}{Q:Exit→Act→World→Prop}{f:FuncId}{xf:Operand}{xs:List Operand}{ats:Array TypeId}(ho:o.op=.call { callee:=.value xf,args:=xs.toArray,argTypes:=ats })(gf:o.dst=ud d)
  (gr:∀args w,(callFunc f args).run P w=.ok (.enter f args) w)(hf:a.eval xf=.func (.func f) #[] #[])
  (h:Calls P f (xs.map a.eval).toArray w fun e w'=> ∃v,e=.returned v∧K (a.put (ud d) v) w'):o.wp P a w K Q:=by
 have gy:(execOp a.eval o).run P w=.ok (.enter f (xs.map a.eval).toArray) w:=by simp[execOp,ho,resolve,hf,Deferred.ofValue,invoke,gr]
 unfold Oper.wp;rw[gy,Oper.upon_enter];refine h.mono ?_
 grind
theorem zF2{G:Gh}{a:Act}{w:World}(g9:Rep Γ E G a.tmps w)(hd:d<Γ.N)(f:FuncId)(xs:List Operand)(us res:List T)(rw:Rw)
  (hc:FnC P f us res (rw.map fun x=>(x.1,x.2.2)))(gc:xN E rw 0 xs us)(hr:zF1 E d xs us rw)(gk:yP res∧yG res=uf∧vO res=uf):
  Calls P f (xs.map a.eval).toArray w fun e w'=> ∃v,e=.returned v∧ ∃S G',zCn Γ.St S Γ.W Γ.w0.heap.size∧sE (vJ d rw) G w G' w'∧Rep (Γ.at S) (E.app (cWr d res rw) (vJ d rw)) G' (a.tmps.setIfInBounds d v) w':=by
 classical
 have hm:=g9.mem
 let Sc:Stb:=fun b=>if kY G rw b then ue else w.heap[b]?
 have hH:∀b x,Γ.St b=ud x→Sc b=ud x:=fun b x hx=>by
  have h3:¬kY G rw b:=by
   rintro⟨s,z,h4,_⟩
   rw[(hm.ow b _ h4).2.2]at hx;cases hx
  simp only[Sc,h3,if_false];exact hm.st b x hx
 have hJ:∀r,r∉rw.map (·.2.1)→ ∀b,(∃y,G.ow b=ud (r,y))→Sc b=w.heap[b]?:=fun r ak b ⟨y,hy⟩=>by
  have h3:¬kY G rw b:=by
   rintro⟨s,z,h4,h5⟩
   grind
  grind
 have fy:∀(us:List T),yP us∧yG us=uf∧vO us=uf→ ∀u∈us,zS u∧u.okTup=uf∧wG u=uf:=by
  intro us
  induction us with
  |nil=>simp
  |cons v us ih=>
   intro⟨h1,h2,h3⟩ u hu;simp only[yG,vO,J2]at h2 h3;rcases Jp.1 hu with rfl|hu
   ·exact⟨h1.1,h2.1,h3.1⟩
   ·exact ih ⟨h1.2,h2.2,h3.2⟩ u hu
 exact zF0 g9 hd (Sc:=Sc) (rw:=rw) (by grind) hH hc (xN.length xs us 0 gc) (fun i u hu=>by
   obtain⟨x,h1,h2⟩:=xN.get xs us 0 gc i u hu;rw[J6]at h2
   grind[zRQ]) hr.nodup hr.nodup2 hr.at_
  (by grind[zNk])
  (fun x hx=>by
   obtain⟨h1,h3,h4⟩:=hr.tree x hx
   grind[zNk])
theorem zMo(f:FuncId)(xf:Operand)(xs:List Operand)(ats:Array TypeId)(us res:List T)(rw:Rw)(ho:o.op=.call { callee:=.value xf,args:=xs.toArray,argTypes:=ats })(gf:o.dst=ud d)(hd:d<Γ.N)
  (gr:∀args w,(callFunc f args).run P w=.ok (.enter f args) w)(hf:opT E xf=ud (.lit (.func (.func f) #[] #[])))
  (hc:FnC P f us res (rw.map fun x=>(x.1,x.2.2)))(gc:xN E rw 0 xs us)(hr:zF1 E d xs us rw)(gk:yP res∧yG res=uf∧vO res=uf):
  xT P Γ o E (E.app (cWr d res rw) (vJ d rw)):=by
 intro a w K Q ⟨gP,G,g9⟩ hK;refine zB0 ho gf gr (xX g9 hf).1 ?_;refine(zF2 g9 hd f xs us res rw hc gc hr gk).mono ?_
 rintro e w' ⟨v,rfl,S,G',hS,_,gm⟩
 exact⟨v,rfl,hK _ _ ⟨S,hS,gP,G',gm⟩⟩
theorem zJe(f:FuncId)(xf:Operand)(xs:List Operand)(ats:Array TypeId)(us res:List T)(i ds r:Nat)(q:List Nat)(tr u u':T)(ho:o.op=.call { callee:=.value xf,args:=xs.toArray,argTypes:=ats })(gf:o.dst=ud d)(hd:d<Γ.N)
  (gr:∀args w,(callFunc f args).run P w=.ok (.enter f args) w)(hf:opT E xf=ud (.lit (.func (.func f) #[] #[])))
  (hs:E ds=ud (.same r q))(hr:E r=ud tr)(hq:tr.get q.reverse=ud u)(hu:u.single=uf)(ef:zS u)(gM:ds≠r)(hdr2:d≠r)(gG:tr.okB [(ds,1),(r,q.length+1)]=uf)(fb:xJ tr=uf)
  (E1 E2:Env)(mQ:E1=E.app [(ds,ud u),(r,ud (if q=[]then .same ds []else tr.set q.reverse .any))] [(ds,1),(r,q.length+1)])(u8:E2=E1.app (cWr d res [(i,ds,u')]) (vJ d [(i,ds,u')]))
  (hc:FnC P f us res [(i,u')])(gc:xN E1 [(i,ds,u')] 0 xs us)(fT:zF1 E1 d xs us [(i,ds,u')])(gk:yP res∧yG res=uf∧vO res=uf)
  (tr2 v0:T)(gR:E2 r=ud tr2)(hq2:tr2.get q.reverse=ud v0)(bH:v0.single=uf)(ma:E2 ds=ud u')(el:zS u')(b8:u'.single=uf)(pb:tr2.okB [(r,q.length+1),(ds,1)]=uf)(hc3:xJ tr2=uf)(hok3:u'.okB [(r,q.length+1),(ds,1)]=uf)(hc4:xJ u'=uf):
  xT P Γ o E (E2.app [(r,ud (tr2.set q.reverse u')),(ds,ud (.same r q))] [(r,q.length+1),(ds,1)]):=by
 have mB:cLv u'=1:=by grind[cLv]
 intro a w K Q ⟨gP,G,g9⟩ hK;refine zB0 ho gf gr (xX g9 hf).1 ?_;have gN:G.hd ds []=G.hd r q:=by have:=(g9.ent ds _ hs).2.1;simpa only[R]using this
 obtain⟨fH,dF⟩:=zCE g9 ds [] r q (.same r q) tr u (.same r q) hs rfl rfl gN hr hq hu ef gM (by grind[T.okB,zCs]) (by omega) rfl fb;have u9:E.app [(ds,ud ((T.same r q).set [].reverse u)),(r,ud (if q=[]then .same ds []else tr.set q.reverse .any))] [(ds,([]:List Nat).length+1),(r,q.length+1)]=E1:=by rw[mQ];rfl
 rw[u9]at fH;refine(zF2 fH hd f xs us res [(i,ds,u')] hc gc fT gk).mono ?_
 rintro e w' ⟨v,rfl,S,G',hS,hk,gm⟩
 rw[←u8]at gm;have hdds:d≠ds:=by have:=fT.nodup;grind
 have h1:G'.hd r q=(G.tr ds [] r q).hd r q:=hk.hd r q (fun n hn=>by grind[vJ]);have h2:G'.hd ds []=(G.tr ds [] r q).hd ds []:=hk.hd ds [] (fun n hn=>by grind[vJ]);have fo:G'.hd r q=G'.hd ds []:=by grind
 obtain⟨fF,_⟩:=zCE gm r q ds [] tr2 u' u' v0 gR hq2 bH fo ma rfl b8 el (Ne.symm gM) (by omega) (by omega) hc3 hc4;refine⟨v,rfl,hK _ _ ⟨S,hS,gP,G'.tr r q ds [],?_⟩⟩;have hw:(if([]:List Nat)=[]then T.same r q else u'.set ([]:List Nat).reverse .any)=T.same r q:=if_pos rfl;rw[hw]at fF;exact fF
theorem zOF(f:FuncId)(xf:Operand)(xs:List Operand)(ats:Array TypeId)(us res:List T)(ho:o.op=.call { callee:=.value xf,args:=xs.toArray,argTypes:=ats })(gf:o.dst=ud d)(hd:d<Γ.N)
  (gr:∀args w,(callFunc f args).run P w=.ok (.enter f args) w)(hf:opT E xf=ud (.lit (.func (.func f) #[] #[])))
  (hc:FnC P f us res [])(gg:xs.length=us.length)(gc:∀(i:Nat) u,us[i]? =ud u→ ∃x,xs[i]? =ud x∧opT E x=ud u∧u.flat=uf)(gk:yP res∧yG res=uf):
  xT P Γ o E (E.app (cWr d res []) (vJ d [])):=by
 intro a w K Q ⟨gP,G,g9⟩ hK;have hm:=g9.mem;refine zB0 ho gf gr (xX g9 hf).1 ?_;have cB:∀b,¬kY G [] b:=by rintro b ⟨s,z,_,h⟩;simp at h
 have fy:∀(us:List T),yP us∧yG us=uf→ ∀u∈us,zS u∧u.okTup=uf:=by
  intro us
  induction us with
  |nil=>simp
  |cons v us ih=>
   intro⟨h1,h2⟩ u hu;simp only[yG,J2]at h2;rcases Jp.1 hu with rfl|hu
   ·exact⟨h1.1,h2.1⟩
   ·exact ih ⟨h1.2,h2.2⟩ u hu
 have:=zF0 g9 hd (Sc:=Γ.St) (rw:=[]) (fun b x hx=>⟨hm.st b x hx,cB b⟩) (fun _ _ h=>h) hc gg (fun i u hu=>by
   obtain⟨x,h1,h2,h3⟩:=gc i u hu;refine⟨x,h1,?_⟩;have dJ:=zBX (E:=E) u h3;cases x with
   |tmp s=>
    have gD:∀z,(G.arg a xs []).hd i z=G.hd s z:=by grind[Gh.arg]
    obtain⟨e1,e2,_⟩:=g9.ent s u h2;refine⟨?_,by grind[zHR]⟩;have:=zHW (E:=E) gD u (dJ.1 [] s)
    grind[xQ]
   |const v=>
    simp only[opT]at h2;split at h2
    ·rename_i gu
     simp at h2;subst h2;have gD:(G.arg a xs []).hd i []=v:=by grind[Gh.arg,Act.eval,jR]
     exact⟨by grind[mkV,Act.eval],by simp[R,gD]⟩
    ·cases h2
   |func f=>
    simp only[opT]at h2;simp at h2;subst h2;have gD:(G.arg a xs []).hd i []=.func (.func f) #[] #[]:=by grind[Gh.arg,Act.eval,qE,Value.oneCell']
    exact⟨by grind[mkV,Act.eval],by simp[R,gD]⟩
   |global g=>grind[opT]) (by simp) (by simp) (by simp)
  (fun u hu=>⟨by grind,by grind,fun S' G w s p hS h=>by
   have:aft Γ.St Γ.St S'=S':=funext (by grind[aft])
   grind⟩) (by simp)
 refine this.mono ?_
 rintro e w' ⟨v,rfl,S,G',hS,_,gm⟩
 exact⟨v,rfl,hK _ _ ⟨S,hS,gP,G',gm⟩⟩
end
end Go.Ab

namespace Go.Ab
open Go
def xR:List (Nat×T)→Env
 | [],_=>ue
 |(k,t)::l,s=>if k=s then ud t else xR l s
def Env.Has(E:Env):List (Nat×T)→Prop
 | []=>True
 |(s,t)::l=>E s=ud t∧E.Has l
theorem Env.Has.le{E:Env}:{l:List (Nat×T)}→E.Has l→ ∀s t,xR l s=ud t→E s=ud t
 | [],_,s,t,h=>by grind[xR]
 |(k,u)::l,hh,s,t,h=>by
  simp only[xR]at h;split at h
  ·rename_i e
   subst e;rw[hh.1];exact h
  ·exact hh.2.le s t h
theorem Sim.weaken{Γ:Ctx}{E E':Env}{a:Act}{w:World}(h:Sim Γ E a w)(fK:∀s t,E' s=ud t→E s=ud t):Sim Γ E' a w:=by obtain⟨h1,G,h2⟩:=h;exact⟨h1,G,⟨h2.size,fun s t hs=>h2.ent s t (fK s t hs),h2.mem⟩⟩
theorem qD.weaken{Γ:Ctx}{E E':Env}{a:Act}{w:World}(h:qD Γ E a w)(fK:∀s t,E' s=ud t→E s=ud t):qD Γ E' a w:=by obtain⟨S,h1,h2⟩:=h;exact⟨S,h1,h2.weaken fK⟩
abbrev qG:=List (Nat×Value)
def qG.Hold(pn:qG)(a:Act):Prop:=∀x∈pn,a.tmps[x.1]? =ud x.2
def qG.ok(pn:qG)(d:Option Nat):Bool:=match d with
 |none=>uf
 |some d=>pn.all fun x=>x.1 != d
theorem Oper.wp_frame{P:Program}{o:Oper}{a:Act}{w:World}{K:Act→World→Prop}{Q:Exit→Act→World→Prop}(h:o.wp P a w K Q):
  o.wp P a w (fun a' w'=>K a' w'∧ ∀s,o.dst≠ud s→a'.tmps[s]? =a.tmps[s]?) Q:=by
 have key:∀(v:Value)(ds:List Deferred),∀s,o.dst≠ud s→(({ a with defers:=ds }:Act).put o.dst v).tmps[s]? =a.tmps[s]?:=by
  intro v ds s hs;cases hd:o.dst with
  |none=>rfl
  |some d=>
   grind[Act.put]
 have key0:∀(v:Value),∀s,o.dst≠ud s→(a.put o.dst v).tmps[s]? =a.tmps[s]?:=fun v=>key v a.defers
 unfold Oper.wp at*
 generalize (execOp a.eval o).run P w=r at*
 cases r with
 |ok n w'=>
  cases n<;>simp only[Oper.upon]at h ⊢
  all_goals grind
 |halt x w'=>cases x<;>simp only[Oper.upon]at h ⊢ <;>exact h
theorem qG.Hold.frame{pn:qG}{a a':Act}{d:Option Nat}(h:pn.Hold a)(gG:pn.ok d=uf)(hf:∀s,d≠ud s→a'.tmps[s]? =a.tmps[s]?):pn.Hold a':=by
 intro x hx;rw[hf x.1 ?_]
 ·exact h x hx
 ·rintro rfl
  have:=K0.1 gG x hx
  grind
section
variable (P:Program) (Γ:Ctx) (pn:qG)
def CW(c:Code)(E:Env)(Q:Exit→Env→Prop):Prop:=
 ∀(a:Act)(w:World)(Q':Exit→Act→World→Prop),qD Γ E a w→pn.Hold a→(∀e E' a' w',Q e E'→qD Γ E' a' w'→pn.Hold a'→Q' e a' w')→c.wp P Q' a w
def zQ(ops:Array Oper)(o:Oper)(E E':Env):Prop:=
 ∀(a:Act)(w:World)(K:Act→World→Prop)(Q:Exit→Act→World→Prop),qD Γ E a w→(∀a' w',qD Γ E' a' w'→(∀s,o.dst≠ud s→a'.tmps[s]? =a.tmps[s]?)→K a' w')→
  if Region.wanted o (yielded ops a.tmps)then o.wp P a w K Q∨(o.asks P a w∧LetsOut Q)else K (a.put o.dst undef) w
def wpL(ops:Array Oper)(Q:Exit→Act→World→Prop):List Oper→Act→World→Prop
 | [],a,w=>Q .normal a w
 |o::os,a,w=>if Region.wanted o (yielded ops a.tmps)then o.wp P a w (wpL ops Q os) Q∨(o.asks P a w∧LetsOut Q)else wpL ops Q os (a.put o.dst undef) w
def RW(ops:Array Oper)(os:List Oper)(E:Env)(Q:Exit→Env→Prop):Prop:=
 ∀(a:Act)(w:World)(Q':Exit→Act→World→Prop),qD Γ E a w→pn.Hold a→(∀e E' a' w',Q e E'→qD Γ E' a' w'→pn.Hold a'→Q' e a' w')→wpL P ops Q' os a w
end
section
variable {P:Program}{Γ:Ctx}{pn:qG}{E E':Env}{Q Q1:Exit→Env→Prop}{c c1 c2:Code}{ops:Array Oper}{o:Oper}{os:List Oper}{d:Nat}
theorem zHX{Q':Exit→Act→World→Prop}:∀(os:List Oper)(n:Nat)(a:Act)(w:World),ops.toList.drop n=os→wpL P ops Q' os a w→wpOps P ops Q' (Hy n os.length) a w
 | [],n,a,w,_,h=>by simpa[wpOps,wpL]using h
 |o::os,n,a,w,hd,h=>by
  have ho:ops[n]? =ud o:=by
   have:=congrArg (·[0]?) hd
   grind
  have cU:ops.toList.drop (n+1)=os:=by
   have:=congrArg List.tail hd
   grind[List.tail_drop]
  simp only[Jl,He,wpOps,ho];simp only[wpL]at h;split
  ·rename_i hw
   simp only[hw,if_true]at h;exact h.imp (Oper.wp_mono fun a w=>zHX os (n+1) a w cU) id
  ·rename_i hw
   simp only[hw]at h;exact zHX os (n+1) _ w cU h
theorem CW.region{id:Nat}(h:RW P Γ pn ops ops.toList E Q):CW P Γ pn (.region id ops ug) E Q:=by
 intro a w Q' hs hp hQ;refine wp_region ?_;have:=zHX (P:=P) ops.toList 0 a w (by simp) (h a w Q' hs hp hQ)
 grind[List.range_eq_range']
theorem RW.nil(h:Q .normal E):RW P Γ pn ops [] E Q:=fun a w Q' hs hp hQ=>by
 simp only[wpL]
 grind
theorem RW.cons(h1:zQ P Γ ops o E E')(h3:RW P Γ pn ops os E' Q)(h2:pn.ok o.dst=uf:=by rfl):RW P Γ pn ops (o::os) E Q:=by
 intro a w Q' hs hp hQ;simp only[wpL];have:=h1 a w (wpL P ops Q' os) Q' hs fun a' w' gH hf=>h3 a' w' Q' gH (hp.frame h2 hf) hQ
 exact this
theorem zQ.op(h:∀S,xT P (Γ.at S) o E E')(hg:o.guard=ue:=by rfl):zQ P Γ ops o E E':=by
 intro a w K Q hs hK;have hw:Region.wanted o (yielded ops a.tmps)=uf:=by simp[Region.wanted,hg]
 rw[if_pos hw];refine .inl ?_;obtain⟨S,hS,hs⟩:=hs;have:=Oper.wp_frame (h S a w (fun a' w'=>qD Γ E' a' w') Q hs fun a' w' h=>h.up hS)
 grind[Oper.wp_mono]
theorem zF3{a:Act}{w:World}(hs:qD Γ E a w){g s:Nat}{b:Bool}(gp:(ops[g]?).bind (·.dst)=ud s)(h:E s=ud (.lit (.bool b))):yielded ops a.tmps g=ud b:=by
 obtain⟨_,_,_,G,hr⟩:=hs;obtain⟨h1,h2,_⟩:=hr.ent s _ h;simp only[R]at h2
 grind[yielded,mkV]
theorem zQ.guard(g:Nat)(b:Bool)(s:Nat)(h:∀S,xT P (Γ.at S) o E E')(hg:o.guard=ud (g,b):=by rfl)(gp:(ops[g]?).bind (·.dst)=ud s:=by rfl)(hb:E s=ud (.lit (.bool b)):=by rfl):zQ P Γ ops o E E':=by
 intro a w K Q hs hK;have hw:Region.wanted o (yielded ops a.tmps)=uf:=by grind[Region.wanted,zF3]
 rw[if_pos hw];refine .inl ?_;obtain⟨S,hS,hs⟩:=hs;have:=Oper.wp_frame (h S a w (fun a' w'=>qD Γ E' a' w') Q hs fun a' w' h=>h.up hS)
 grind[Oper.wp_mono]
def zG(Γ:Ctx)(E E':Env):Prop:=∀(a:Act)(w:World),qD Γ E a w→qD Γ E' a w
theorem zG.refl:zG Γ E E:=fun _ _ h=>h
theorem zG.trans{E1 E2 E3:Env}(h:zG Γ E1 E2)(h':zG Γ E2 E3):zG Γ E1 E3:=fun a w hs=>h' a w (h a w hs)
theorem zG.has{l:List (Nat×T)}(h:E.Has l):zG Γ E (xR l):=fun _ _ hs=>hs.weaken h.le
theorem CW.ghost(h1:zG Γ E E')(h:CW P Γ pn c E' Q):CW P Γ pn c E Q:=fun a w Q' hs=>h a w Q' (h1 a w hs)
theorem RW.ghost(h1:zG Γ E E')(h:RW P Γ pn ops os E' Q):RW P Γ pn ops os E Q:=fun a w Q' hs=>h a w Q' (h1 a w hs)
theorem CW.to(l:List (Nat×T))(h1:E.Has l)(h:CW P Γ pn c (xR l) Q):CW P Γ pn c E Q:=h.ghost (.has h1)
theorem CW.mono(h:CW P Γ pn c E Q1)(hq:∀e E',Q1 e E'→Q e E'):CW P Γ pn c E Q:=fun a w Q' hs hp hQ=>h a w Q' hs hp (by grind)
theorem CW.skip(h:Q .normal E):CW P Γ pn .skip E Q:=fun _ _ _ hs hp hQ=>by grind[wp_skip]
theorem CW.ret(h:Q .ret E):CW P Γ pn .ret E Q:=fun _ _ _ hs hp hQ=>by grind[wp_ret]
theorem CW.exit{id:Nat}(h:Q (.exit id) E):CW P Γ pn (.exit id) E Q:=fun _ _ _ hs hp hQ=>by grind[wp_exit]
def xY(P:Program)(Γ:Ctx)(pn:qG)(c:Code)(Q:Exit→Env→Prop):Exit→Env→Prop
 |.normal,E=>CW P Γ pn c E Q
 |e,E=>Q e E
theorem CW.seq(h:CW P Γ pn c1 E (xY P Γ pn c2 Q)):CW P Γ pn (.seq c1 c2) E Q:=by
 intro a w Q' hs hp hQ;refine wp_seq (h a w _ hs hp fun e E' a' w' h1 gH fX=>?_);cases e with
 |normal=>exact h1 a' w' Q' gH fX hQ
 |_=>exact hQ _ _ _ _ h1 gH fX
theorem CW.cond{x:Operand}(b:Bool)(hb:opT E x=ud (.lit (.bool b)))(ht:b=uf→CW P Γ pn c1 E Q)(hf:b=ug→CW P Γ pn c2 E Q):CW P Γ pn (.cond x c1 c2) E Q:=by intro a w Q' hs hp hQ;obtain⟨_,_,_,G,hr⟩:=id hs;refine wp_cond_split (xX hr hb).1 (fun h=>ht h a w Q' hs hp hQ) (fun h=>hf h a w Q' hs hp hQ)
def xZ(id:Nat)(Q:Exit→Env→Prop):Exit→Env→Prop
 |.exit id',E=>if id'=id then Q .normal E else Q (.exit id') E
 |e,E=>Q e E
theorem CW.block{id:Nat}(h:CW P Γ pn c E (xZ id Q)):CW P Γ pn (.block id c) E Q:=by
 intro a w Q' hs hp hQ;refine wp_block (h a w _ hs hp fun e E' a' w' h1 gH fX=>?_);cases e with
 |exit id'=>
  simp only[xZ]at h1;simp only[Exit.inBlock]
  grind
 |_=>exact hQ _ _ _ _ h1 gH fX
end
def sZ{σ ρ:Type}(body:σ→Option (σ⊕ρ)):Nat→σ→Option ρ
 |0,_=>ue
 |n+1,s=>match body s with
  |none=>ue
  |some (.inl s')=>sZ body n s'
  |some (.inr r)=>ud r
theorem zF4{σ ρ:Type}{body:σ→Option (σ⊕ρ)}{r:ρ}:∀{n m:Nat}{s:σ},sZ body n s=ud r→n≤m→sZ body m s=ud r
 |0,_,_,h,_=>by grind[sZ]
 |n+1,0,_,_,hm=>by omega
 |n+1,m+1,s,h,hm=>by
  simp only[sZ]at h ⊢
  cases hb:body s with
  |none=>grind
  |some x=>
   cases x with
   |inl s'=>simp only[hb]at h ⊢;exact zF4 h (by omega)
   |inr r'=>grind
open Classical in
noncomputable def zI {σ ρ:Type} (body:σ→Option (σ⊕ρ)) (s:σ):Option ρ:=
 if h:∃(n:Nat)(r:ρ),sZ body n s=ud r then ud h.choose_spec.choose else ue
theorem zCJ{σ ρ:Type}{body:σ→Option (σ⊕ρ)}{s:σ}{r:ρ}:zI body s=ud r↔ ∃n,sZ body n s=ud r:=by
 unfold zI;constructor
 ·intro h
  split at h
  all_goals grind
 ·rintro⟨n,hn⟩
  have he:∃(n:Nat)(r:ρ),sZ body n s=ud r:=⟨n,r,hn⟩;rw[dif_pos he]
  grind[zF4]
theorem xK{σ ρ:Type}(body:σ→Option (σ⊕ρ))(s:σ):zI body s=match body s with
  |none=>ue
  |some (.inl s')=>zI body s'
  |some (.inr r)=>ud r:=by
 apply Option.ext;intro r;rw[zCJ];cases hb:body s with
 |none=>
  simp only[reduceCtorEq,iff_false]
  rintro⟨n,hn⟩
  cases n<;>simp[sZ,hb]at hn
 |some x=>
  cases x with
  |inl s'=>
   simp only[];rw[zCJ];constructor
   ·rintro⟨n,hn⟩
    cases n with
    |zero=>grind[sZ]
    |succ n=>grind[sZ]
   ·rintro⟨n,hn⟩
    exact⟨n+1,by grind[sZ]⟩
  |inr r'=>
   simp only[U4.injEq];constructor
   ·rintro⟨n,hn⟩
    cases n with
    |zero=>grind[sZ]
    |succ n=>grind[sZ]
   ·rintro rfl
    exact⟨1,by simp[sZ,hb]⟩
section
variable {P:Program}{Γ:Ctx}{pn:qG}{E:Env}{Q:Exit→Env→Prop}{c:Code}
def vQ{σ ρ:Type}(Γ:Ctx)(en:σ→Env)(Q:ρ→Exit→Env→Prop)(x:σ⊕ρ):Exit→Env→Prop:=fun e E'=>
 match x with
 |.inl s'=>e=.normal∧zG Γ E' (en s')
 |.inr r=>e≠.normal∧Q r e E'
theorem zGS{p:Nat→Prop}(h:∃m,p m):∃m,p m∧ ∀k,k<m→ ¬p k:=by
 refine Classical.byContradiction fun hn=>?_
 have key:∀n,∀k,k<n→ ¬p k:=by
  intro n
  induction n with
  |zero=>simp
  |succ n ih=>
   grind
 grind
theorem CW.loop{σ ρ:Type}(body:σ→Option (σ⊕ρ))(en:σ→Env)(Q:ρ→Exit→Env→Prop)(h:∀s x,body s=ud x→CW P Γ pn c (en s) (vQ Γ en Q x)){s:σ}{r:ρ}(hr:zI body s=ud r):
  CW P Γ pn (.loop c) (en s) (Q r):=by
 classical
 intro a w Q' hs hp hQ
 let p:Act→World→Nat→Prop:=fun a w m=> ∃s,sZ body m s=ud r∧qD Γ (en s) a w∧pn.Hold a
 let μ:Act→World→Nat:=fun a w=>if h:∃m,p a w m then(zGS h).choose else 0
 obtain⟨n,hn⟩:=zCJ.1 hr;refine wp_loop (fun a w=> ∃m,p a w m) μ (by grind) ?_;intro a w bp;have hμ:μ a w=(zGS bp).choose:=dif_pos bp;obtain⟨s,h1,h2,h3⟩:=(zGS bp).choose_spec.1;have pf:=(zGS bp).choose_spec.2;rw[←hμ]at h1;cases hm:μ a w with
 |zero=>grind[sZ]
 |succ k=>
  rw[hm]at h1;simp only[sZ]at h1;cases hb:body s with
  |none=>grind
  |some x=>
   refine h s x hb a w _ h2 h3 fun e E' a' w' hq gH fX=>?_
   cases x with
   |inl s'=>
    simp only[hb]at h1;obtain⟨rfl,hg⟩:=hq;have hp2:p a' w' k:=⟨s',h1,hg a' w' gH,fX⟩;refine⟨⟨k,hp2⟩,?_⟩;have hex':∃m,p a' w' m:=⟨k,hp2⟩
    grind
   |inr r'=>
    simp only[hb]at h1;have:r'=r:=by grind
    subst this;obtain⟨gj,hq⟩:=hq;have:=hQ e E' a' w' hq gH fX;cases e with
    |normal=>grind
    |_=>exact this
end
end Go.Ab

namespace Go.Ab
open Go
abbrev Nds:=List (Nat×List Nat×T)
def ROk(P:Program)(E:Env):ResultVar→(Nat×List Nat×T)→Prop
 |.tmp s,x=>x.1=s∧x.2.1=[]∧E s=ud x.2.2∧x.2.2.okTup=uf
 |.cell a T,x=>x.1=a∧x.2.1=[0]∧E a=ud (.ptr x.2.2)∧ ∃ds ti,P.underlying T=ud ds∧P.info? T=ud ti∧zDM ds= !x.2.2.single∧ti.size=x.2.2.size
def zNl(P:Program)(E:Env):List ResultVar→Nds→Prop
 | [],[]=>True
 |x::xs,y::ys=>ROk P E x y∧zNl P E xs ys
 |_,_=>False
def LOk(E:Env)(us:List T):List (Nat×T)→Prop
 | []=>True
 |(i,u')::l=>(E i=ud u'∧ ∃u,us[i]? =ud u)∧LOk E us l
def zVi(P:Program)(rs:Array ResultVar)(us res:List T)(rws:List (Nat×T)):Exit→Env→Prop:=fun e E=>
 (e=.ret∨e=.normal)∧ ∃nd:Nds,zNl P E rs.toList nd∧nd.map (·.2.2)=res∧(∀x∈nd,us.length≤x.1)∧(nd.map (·.1)).Nodup∧LOk E us rws
def zB1(v:Nat→Value)(is:List Nat):qG:=is.map fun i=>(i,v i)
def zGA:Nat→List T→List (Nat×T)
 |_,[]=>[]
 |i,u::us=>(i,u)::zGA (i+1) us
theorem zJf:∀(us:List T)(i s:Nat)(t:T),xR (zGA i us) s=ud t→i≤s∧us[s-i]? =ud t
 | [],i,s,t,h=>by grind[zGA,xR]
 |u::us,i,s,t,h=>by
  simp only[zGA,xR]at h;split at h
  ·grind
  ·rename_i e
   obtain⟨h1,h2⟩:=zJf us (i+1) s t h
   grind
def zOG(tmps:Array Value):ResultVar→Sem Value
 |.tmp t=>pure (tmps.getD t undef)
 |.cell a t=>do loadVar t (←asAddr (tmps.getD a undef))
theorem zKJ(fn:Func)(tmps:Array Value):results fn tmps=(do
  let vs ←fn.results.mapM (zOG tmps)
  pure (if h:vs.size=1 then vs[0]else .tuple vs)):=rfl
theorem vK.get:(xs:List T)→vK xs→ ∀(i:Nat)(x:T),xs[i]? =ud x→Top x
 | [],_,i,x,h=>by simp at h
 |y::ys,ht,i,x,h=>by
  simp only[vK]at ht;cases i with
  |zero=>simp at h;subst h;exact ht.1
  |succ i=>exact vK.get ys ht.2 i x (by simpa using h)
theorem LOk.get{E:Env}{us:List T}:(l:List (Nat×T))→LOk E us l→ ∀i u',(i,u')∈l→E i=ud u'∧ ∃u,us[i]? =ud u
 | [],_,_,_,h=>by simp at h
 |x::l,h,i,u',hm=>by
  rcases Jp.1 hm with rfl|hm
  ·exact h.1
  ·exact LOk.get l h.2 i u' hm
theorem zWX{P:Program}{Γ:Ctx}{E:Env}{G:Gh}{tmps:Array Value}{w:World}(g9:Rep Γ E G tmps w)(x:ResultVar)(s:Nat)(q:List Nat)(t:T)(h:ROk P E x (s,q,t)):
  (zOG tmps x).run P w=.ok (tG G s t q) w∧R Γ.St G w s t q:=by
 cases x with
 |tmp s'=>
  obtain⟨h0,c8,h1,h2⟩:=h;dsimp only at h0 c8 h1 h2;subst h0 c8;obtain⟨g1,g2,_⟩:=g9.ent _ _ h1;have gV:∀xs,t≠.tup xs:=by rintro xs rfl;grind[T.okTup]
  refine⟨?_,g2⟩;rw[←qY G s t [] gV];simp[zOG,K4,g1]
 |cell a T'=>
  obtain⟨h0,c8,h1,ds,ti,h2,h3,h4,h5⟩:=h;dsimp only at h0 c8 h1 h4 h5;subst h0 c8;obtain⟨g1,g2,_⟩:=g9.ent _ _ h1;simp only[R]at g2;obtain⟨b,cs,e,k1,k2,k3,k4,k5,k6⟩:=g2;refine⟨?_,k6⟩;rw[yU rfl,k1]at g1;have h6:=zEx (w:=w) h2 h3 k5 h4 h5;simp[zOG,K4,g1,asAddr,h6]
theorem zE4{P:Program}{Γ:Ctx}{E:Env}{G:Gh}{tmps:Array Value}{w:World}(g9:Rep Γ E G tmps w):(rs:List ResultVar)→(nd:Nds)→zNl P E rs nd→
  (rs.mapM (zOG tmps)).run P w=.ok (nd.map fun x=>tG G x.1 x.2.2 x.2.1) w∧ ∀x∈nd,R Γ.St G w x.1 x.2.2 x.2.1
 | [],[],_=>by simp
 |x::xs,y::ys,h=>by
  obtain⟨h1,h2⟩:=zE4 g9 xs ys h.2;obtain⟨h3,h4⟩:=zWX g9 x y.1 y.2.1 y.2.2 h.1
  simp_all
 | [],_::_,h=>by simp[zNl]at h
 |_::_,[],h=>by simp[zNl]at h
theorem FnC.of_body{P:Program}{f:FuncId}{fn:Func}{c:Code}{us res:List T}{rws:List (Nat×T)}(hf:P.funcs[f]? =ud fn)(hb:fn.body=ud c)(hn:us.length≤fn.ntmps)(ht:vK us)(hr:rws.all (fun x=>decide (x.1<us.length))=uf)
  (h:∀(Γ:Ctx)(v:Nat→Value),Γ.N=fn.ntmps→CW P Γ (zB1 v (rws.map (·.1))) c (xR (zGA 0 us)) (zVi P fn.results us res rws)):FnC P f us res rws:=by
 intro St W w G vs ca gc gx
 let Γ:Ctx:=⟨St,W,w,fn.ntmps⟩
 let v:Nat→Value:=fun i=>vs.getD i undef
 have hm:Mem Γ G w:=⟨gx.one,gx.lb,gx.ow,gx.st,gx.fr,gx.sz,gx.bk⟩;have gw:(vs++U5 (fn.ntmps-vs.size) undef).size=fn.ntmps:=by simp;omega
 have aW:Sim Γ (xR (zGA 0 us)) { tmps:=vs++U5 (fn.ntmps-vs.size) undef,defers:=[] } w:=by
  refine⟨rfl,G,gw,?_,hm⟩;intro s t hs;obtain⟨_,h2⟩:=zJf us 0 s t hs;simp only[Jc3]at h2;obtain⟨h3,h4⟩:=gc s t h2;have gT:s<vs.size:=by grind
  exact⟨by grind,h4,vK.get us ht s t h2⟩
 have dq:(zB1 v (rws.map (·.1))).Hold { tmps:=vs++U5 (fn.ntmps-vs.size) undef,defers:=[] }:=by
  intro x hx;simp only[zB1,Je]at hx;obtain⟨i,⟨y,hy,rfl⟩,rfl⟩:=hx;have h1:=K0.1 hr y hy;simp at h1;have h2:y.1<vs.size:=by omega
  simp[Array.getElem?_append,h2,v]
 refine calls_of_wp hf hb (h Γ v rfl _ _ _ (.of aW) dq ?_)
 rintro e E' a' w' ⟨he,nd,h1,h2,h3,h4,h5⟩ ⟨S',gU,gP,G',g9⟩ hp
 obtain⟨g1,g2⟩:=zE4 g9 _ _ h1;have gk:(results fn a'.tmps).run P w'=.ok (zIY G' nd) w':=by
  rw[zKJ,Array.mapM_eq_mapM_toList];simp only[Sem.run_bind,Sem.run_map,g1];cases nd with
  |nil=>simp[zIY]
  |cons y ys=>
   cases ys with
   |nil=>simp[zIY]
   |cons z zs=>simp[zIY]
 have gz:Mem ⟨S',W,w,0⟩ G' w':=⟨g9.mem.one,g9.mem.lb,g9.mem.ow,g9.mem.st,g9.mem.fr,g9.mem.sz,g9.mem.bk⟩;have dL:bodyPost P fn (fun e w'=> ∃(S':Stb)(G':Gh)(nd:List (Nat×List Nat×T)),zCn St S' W w.heap.size∧e=.returned (zIY G' nd)∧Mem ⟨S',W,w,0⟩ G' w'∧nd.map (·.2.2)=res∧
   (∀x∈nd,R S' G' w' x.1 x.2.2 x.2.1∧us.length≤x.1)∧(nd.map (·.1)).Nodup∧
   ∀i u',(i,u')∈rws→R S' G' w' i u' []∧ ∃u,us[i]? =ud u∧mkV G' i u' []=mkV G i u []) .ret a' w':=by
  refine⟨gP,_,gk,S',G',nd,gU,rfl,gz,h2,by grind,h4,?_⟩;intro i u' hiu;obtain⟨k1,u,k3⟩:=LOk.get _ h5 i u' hiu;obtain⟨k5,k6,_⟩:=g9.ent i u' k1;refine⟨k6,u,k3,?_⟩;have k7:=hp (i,v i) (by simp only[zB1,Je];grind);have k8:=(gc i u k3).1;rw[k5]at k7;simp[v,K4,k8]at k7;exact k7
 rcases he with rfl|rfl<;>exact dL
end Go.Ab

namespace Go.Ab
open Go
mutual
def wZ:T→T
 |.sl k xs=>.ro (strip (.sl k xs))
 |.ptr t=>.ro (strip (.ptr t))
 |.agg xs=>.agg (vR xs)
 |.tup xs=>.tup (vR xs)
 |.any=>.any
 |.lit v=>.lit v
 |.ro t=>.ro t
 |.same r p=>.same r p
 |.addr r p=>.addr r p
 |.sub r p k lo hi=>.sub r p k lo hi
def vR:List T→List T
 | []=>[]
 |x::xs=>wZ x::vR xs
end
mutual
theorem zOH(G:Gh)(s:Nat):(t:T)→ ∀p,vals G s (wZ t) p=vals G s t p
 |.agg xs,p=>by simp only[wZ,vals];exact zBY G s xs p 0
 |.sl _ _,_|.ptr _,_|.tup _,_|.any,_|.lit _,_|.ro _,_|.same _ _,_|.addr _ _,_|.sub _ _ _ _ _,_=>by rfl
theorem zBY(G:Gh)(s:Nat):(xs:List T)→ ∀p j,zW G s (vR xs) p j=zW G s xs p j
 | [],_,_=>by rfl
 |x::xs,p,j=>by simp only[vR,zW,zOH G s x,zBY G s xs]
end
theorem zOI(G:Gh)(s:Nat)(t:T)(p:List Nat):tG G s (wZ t) p=tG G s t p:=by cases t<;>simp only[wZ,tG,zBY]
theorem zJg(G:Gh)(s:Nat):(xs:List T)→ ∀p j,qX G s (vR xs) p j=qX G s xs p j
 | [],_,_=>by rfl
 |x::xs,p,j=>by simp only[vR,qX,zOI,zJg G s xs]
theorem zRR(G:Gh)(s:Nat)(t:T)(p:List Nat):mkV G s (wZ t) p=mkV G s t p:=by cases t<;>simp only[wZ,mkV,zBY,zJg]
mutual
theorem zJh:(t:T)→Top t→Top (wZ t)
 |.agg xs,h|.tup xs,h=>by simp only[wZ,Top]at h ⊢;exact zGT xs h
 |.sl _ _,_|.ptr _,_|.any,_|.lit _,_|.ro _,_|.same _ _,_|.addr _ _,_|.sub _ _ _ _ _,_=>by simp only[wZ,Top]
theorem zGT:(xs:List T)→vK xs→vK (vR xs)
 | [],_=>by grind[vR]
 |x::xs,h=>by simp only[vR,vK]at h ⊢;exact⟨zJh x h.1,zGT xs h.2⟩
end
section
variable {St Sc:Stb}{G G':Gh}{w:World}{s:Nat} (gu:∀s p,(G.hd s p).oneCell'=uf) (hH:∀b x,St b=ud x→Sc b=ud x) (hJ:∀b,(∃y,G.ow b=ud (s,y))→Sc b=w.heap[b]?) (gD:∀s z,G'.hd s z=G.hd s z) (fd:∀s z,G'.ad s z=G.ad s z)
 include gu hH hJ gD fd
mutual
theorem zTq:(t:T)→ ∀(p:List Nat),R St G w s t p→R Sc G' w s (wZ t) p
 |.agg xs,p,hr|.tup xs,p,hr=>by simp only[wZ,R]at hr ⊢;exact zOJ xs p 0 hr
 |.sl k xs,p,hr=>by have:=zJb gu hH hJ (.sl k xs) p rfl hr;simp only[wZ,R,gD];exact this
 |.ptr t,p,hr=>by have:=zJb gu hH hJ (.ptr t) p rfl hr;simp only[wZ,R,gD];exact this
 |.ro u,p,hr=>by simp only[wZ,R,gD]at hr ⊢;grind[uU]
 |.any,_,_=>by simp only[wZ,R]
 |.lit _,_,hr|.same _ _,_,hr|.sub _ _ _ _ _,_,hr=>by simp only[wZ,R,gD]at hr ⊢;exact hr
 |.addr _ _,_,hr=>by simp only[wZ,R,gD,fd]at hr ⊢;exact hr
theorem zOJ:(xs:List T)→ ∀(p:List Nat)(j:Nat),RF St G w s xs p j→RF Sc G' w s (vR xs) p j
 | [],_,_,_=>by have _:=gu;have _:=hH;have _:=hJ;have _:=gD;have _:=fd;simp only[vR,RF]
 |x::xs,p,j,hr=>by simp only[vR,RF]at hr ⊢;exact⟨zTq x _ hr.1,zOJ xs p (j+1) hr.2⟩
end
end
theorem zG.freeze{Γ:Ctx}{E:Env}(s:Nat)(t:T)(hs:E s=ud t):zG Γ E (E.app [(s,ud (wZ t))] [(s,1)]):=by
 classical
 rintro a w ⟨S,hS,gP,G,g9⟩
 have hm:=g9.mem
 let own:Nat→Prop:=fun b=> ∃y,G.ow b=ud (s,y)
 let Sc:Stb:=fun b=>if own b then w.heap[b]? else S b
 let G':Gh:={ hd:=G.hd,ad:=G.ad,lb:=fun b o=>if own b then ue else G.lb b o,ow:=fun b=>if own b then ue else G.ow b }
 have fS:∀b x,S b=ud x→Sc b=ud x:=fun b x hx=>by
  have:¬own b:=by
   rintro⟨y,hy⟩
   have:=(hm.ow b _ hy).2.2
   grind
  grind
 have tg:zCn S Sc Γ.W Γ.w0.heap.size:=⟨fS,fun b hb eC=>by
  by_cases h:own b
  ·obtain⟨y,hy⟩:=h
   exact(hm.ow b _ hy).2.1
  grind⟩
 have gx:Mem ((Γ.at S).at Sc) G' w:=by
  refine⟨hm.one,fun b o l hl=>?_,fun b l hl=>?_,fun b x hx=>?_,hm.fr,hm.sz,hm.bk⟩
  ·by_cases h:own b
   ·grind
   ·simp only[G',h,if_false]at hl
    have:=hm.lb b o l hl;exact⟨this.1,this.2.1,by simp only[Sc,h,if_false];exact this.2.2⟩
  ·by_cases h:own b
   ·grind
   ·simp only[G',h,if_false]at hl
    have:=hm.ow b l hl;exact⟨this.1,this.2.1,by simp only[Sc,h,if_false];exact this.2.2⟩
  ·by_cases h:own b
   ·grind
   ·simp only[Sc,h,if_false]at hx;exact hm.st b x hx
 have gv:sE [(s,1)] G w G' w:=by
  have dw:∀b s0 y,G.ow b=ud (s0,y)→(∀n,(s0,n)∉([(s,1)]:Chg))→ ¬own b:=by grind
  refine⟨fun _ _ _=>rfl,fun _ _ _=>rfl,by grind,by grind,fun b cs e h=>⟨cs,h,rfl⟩⟩
  all_goals grind
 obtain⟨e1,e2,e3⟩:=g9.ent s t hs;refine⟨Sc,hS.trans tg,gP,G',g9.up fS rfl gv gx (fun s0 h0=>⟨fun n hn=>?_,rfl⟩) (fun s0 t0 h0=>?_)⟩
 ·grind[uR]
 ·rw[uR]at h0
  split at h0
  ·rename_i he;subst he
   simp at h0;subst h0;have hR:=zTq (G':=G') hm.one fS (fun b hb=>by grind) (fun _ _=>rfl) (fun _ _=>rfl) t [] e2;refine⟨?_,hR,zJh t e3⟩;rw[e1];have h1:mkV G' s (wZ t) []=mkV G s (wZ t) []:=zDL _ _ _ (fun _=>rfl);rw[h1,zRR]
  ·cases h0
end Go.Ab

namespace Go.Ab
open Go
abbrev zEL:=List (Wr×Chg)
def Env.apps(E:Env)(l:zEL):Env:=l.foldl (fun E x=>E.app x.1 x.2) E
structure Stp where
 rd:List (Nat×T)
 l:zEL
def tN(wr:Wr):List Nat:=wr.map (·.1)
def Stp.slots(X:Stp):List Nat:=X.l.flatMap fun x=>tN x.1
def oOk(chg:Chg):Option T→Bool
 |none=>uf
 |some t=>t.okB chg
def zKK(chg:Chg)(wr:Wr):Bool:=wr.all fun x=>oOk chg x.2
def zNm(a b:List Nat):Bool:=a.all fun x=> !b.contains x
def zDV(a b:zEL):Bool:=a.all fun x=>b.all fun y=>zNm (tN x.1) (tN y.1)&&zKK y.2 x.1&&zKK x.2 y.1
def Stp.apart(a b:Stp):Bool:=zDV a.l b.l&&zNm a.slots (b.rd.map (·.1))&&zNm b.slots (a.rd.map (·.1))&&a.rd.all fun x=>b.l.all fun y=>x.2.okB y.2
theorem zDW{wr:Wr}{s:Nat}(h:s∉tN wr):wr.find s=ue:=by
 induction wr with
 |nil=>rfl
 |cons x wr ih=>
  simp only[tN,Jn,Jp,not_or]at h;simp only[Wr.find,Ne.symm h.1,if_false];exact ih h.2
theorem zGU{wr:Wr}{s:Nat}{x:Option T}(h:wr.find s=ud x):s∈tN wr∧ ∃y∈wr,y.2=x:=by
 induction wr with
 |nil=>grind[Wr.find]
 |cons y wr ih=>
  grind[Wr.find,tN]
theorem zF5{a b:List Nat}(h:zNm a b=uf){s:Nat}(hs:s∈a):s∉b:=by
 have:=K0.1 h s hs
 grind
theorem zOK(E:Env)(w1 w2:Wr)(c1 c2:Chg)(h:zNm (tN w1) (tN w2)=uf)(h1:zKK c2 w1=uf)(h2:zKK c1 w2=uf):
  (E.app w1 c1).app w2 c2=(E.app w2 c2).app w1 c1:=by
 funext s
 have ok:∀{c:Chg}{w:Wr}{s:Nat}{x:Option T},zKK c w=uf→w.find s=ud x→(match x with|some t=>if t.okB c then ud t else ue|none=>ue)=x:=by
  intro c w s x hw hf;obtain⟨_,y,hy,rfl⟩:=zGU hf;have:=K0.1 hw y hy
  grind[oOk]
 unfold Env.app;cases hf1:w1.find s with
 |some x=>
  grind[zDW,zF5,zGU]
 |none=>
  grind
theorem zCx(w:Wr)(c:Chg):∀(l:zEL)(E:Env),(∀y∈l,zNm (tN w) (tN y.1)=uf∧zKK y.2 w=uf∧zKK c y.1=uf)→(E.app w c).apps l=(E.apps l).app w c
 | [],E,_=>rfl
 |y::l,E,h=>by obtain⟨h1,h2,h3⟩:=h y (by simp);show((E.app w c).app y.1 y.2).apps l=_;rw[zOK E w y.1 c y.2 h1 h2 h3];exact zCx w c l _ (by grind)
theorem zGV:∀(l1 l2:zEL)(E:Env),zDV l1 l2=uf→(E.apps l1).apps l2=(E.apps l2).apps l1
 | [],l2,E,_=>rfl
 |x::l1,l2,E,h=>by simp only[zDV,Ja2,J2]at h;show((E.app x.1 x.2).apps l1).apps l2=((E.apps l2).app x.1 x.2).apps l1;rw[zGV l1 l2 _ (by grind[zDV]),zCx x.1 x.2 l2 E (by grind)]
def runD:Env→List (Bool×Stp)→Env
 |E,[]=>E
 |E,(b,X)::l=>runD (if b then E.apps X.l else E) l
theorem jA:∀(l1 l2:List (Bool×Stp))(E:Env),runD E (l1++l2)=runD (runD E l1) l2
 | [],_,_=>rfl
 |(b,X)::l1,l2,E=>by simp only[Kz,runD];exact jA l1 l2 _
theorem zDX:∀(l:List (Bool×Stp))(X:Stp)(E:Env),(∀y∈l,y.1=uf→zDV X.l y.2.l=uf)→runD (E.apps X.l) l=(runD E l).apps X.l
 | [],_,_,_=>rfl
 |(b,Y)::l,X,E,h=>by
  simp only[runD];cases b with
  |false=>exact zDX l X E (by grind)
  |true=>
   have:=h (uf,Y) (by simp) rfl;simp only[if_true];rw[zGV X.l Y.l E this];exact zDX l X _ (by grind)
theorem zF6{s:Nat}:∀(l:zEL)(E:Env),s∉l.flatMap (fun x=>tN x.1)→ ∀t,(E.apps l) s=ud t→E s=ud t
 | [],_,_,_,h=>h
 |x::l,E,hs,t,h=>by
  simp only[La,Jt,not_or]at hs;have:=zF6 l (E.app x.1 x.2) hs.2 t h
  grind[Env.app,zDW]
theorem zGW{s:Nat}{t:T}:∀(l:zEL)(E:Env),s∉l.flatMap (fun x=>tN x.1)→(∀y∈l,t.okB y.2=uf)→E s=ud t→(E.apps l) s=ud t
 | [],_,_,_,h=>h
 |x::l,E,hs,gG,h=>by
  simp only[La,Jt,not_or]at hs;refine zGW l (E.app x.1 x.2) hs.2 (by grind) ?_
  grind[Env.app,zDW]
theorem zGX{s:Nat}:∀(l:zEL)(E1 E2:Env),(∀t,E2 s=ud t→E1 s=ud t)→ ∀t,(E2.apps l) s=ud t→(E1.apps l) s=ud t
 | [],_,_,h,t,ht=>h t ht
 |x::l,E1,E2,h,t,ht=>by
  refine zGX l (E1.app x.1 x.2) (E2.app x.1 x.2) (fun u hu=>?_) t ht
  grind[Env.app]
theorem zGY{s:Nat}:∀(l:List (Bool×Stp))(E1 E2:Env),(∀y∈l,y.1=ug→s∉y.2.slots)→(∀t,E2 s=ud t→E1 s=ud t)→
  ∀t,runD E2 (l.map fun y=>(uf,y.2)) s=ud t→runD E1 l s=ud t
 | [],_,_,_,h,t,ht=>h t ht
 |(b,X)::l,E1,E2,hl,h,t,ht=>by
  simp only[Jn,runD,if_true]at ht ⊢
  refine zGY l _ _ (by grind) (fun u hu=>?_) t ht;cases b with
  |true=>grind[zGX]
  |false=>exact h u (zF6 X.l E2 (hl (ug,X) (by simp) rfl) u hu)
theorem zGZ{s:Nat}{t:T}:∀(l:List (Bool×Stp))(E:Env),(∀y∈l,y.1=uf→s∉y.2.slots∧ ∀z∈y.2.l,t.okB z.2=uf)→E s=ud t→runD E l s=ud t
 | [],_,_,h=>h
 |(b,X)::l,E,hl,h=>by
  simp only[runD];refine zGZ l _ (fun y hy=>hl y (by simp[hy])) ?_;cases b with
  |false=>exact h
  |true=>obtain⟨h1,h2⟩:=hl (uf,X) (by simp) rfl;exact zGW X.l E h1 h2 h
theorem Env.Has.of{E E':Env}:{l:List (Nat×T)}→E.Has l→(∀s t,(s,t)∈l→E s=ud t→E' s=ud t)→E'.Has l
 | [],_,_=>trivial
 |(s,t)::l,h,h'=>⟨h' s t (by simp) h.1,Env.Has.of h.2 fun s t hm=>h' s t (by simp[hm])⟩
end Go.Ab

namespace Go.Ab
open Go
def zA6(o:Oper):List Nat:=(o.after.toList.filter (Region.binds .any)).map (·.on)
def zAf:Nat→List Oper→Bool
 |_,[]=>uf
 |i,o::os=>((zA6 o).all fun m=>decide (m<i))&&zAf (i+1) os
def jT(an:List (List Nat)):List (List Nat)→List Oper→Bool
 | [],_=>uf
 |_::_,[]=>ug
 |l::ls,o::os=>(l.all fun k=>(zA6 o).contains k||(zA6 o).any fun m=>(an.getD m []).contains k)&&jT an ls os
def qH(Xs:List Stp):Nat→List (List Nat)→List Stp→Bool
 |_,_,[]=>uf
 |j,an,Y::Ys=>((Jk j).all fun i=>(an.headD []).contains i||match Xs[i]? with
   |some X=>X.apart Y
   |none=>uf)&&qH Xs (j+1) an.tail Ys
theorem zES:∀(os:List Oper)(i0 j:Nat)(o:Oper),zAf i0 os=uf→os[j]? =ud o→ ∀m∈zA6 o,m<i0+j
 | [],_,j,_,_,h=>by simp at h
 |x::os,i0,j,o,hf,h=>by
  simp only[zAf,J2]at hf;cases j with
  |zero=>
   grind
  |succ j=>
   intro m hm;have:=zES os (i0+1) j o hf.2 (by grind) m hm;omega
theorem zHY(an:List (List Nat)):∀(ls:List (List Nat))(os:List Oper)(j:Nat)(l:List Nat),jT an ls os=uf→ls[j]? =ud l→ ∃o,os[j]? =ud o∧ ∀k∈l,k∈zA6 o∨ ∃m∈zA6 o,k∈an.getD m []
 | [],_,j,_,_,h=>by simp at h
 |_::_,[],_,_,h,_=>by grind[jT]
 |x::ls,o::os,j,l,ha,h=>by
  simp only[jT,J2]at ha;cases j with
  |zero=>
   simp_all
  |succ j=>
   obtain⟨o',h1,h2⟩:=zHY an ls os j l ha.2 (by grind)
   grind
theorem zDY(Xs:List Stp):∀(Ys:List Stp)(j0:Nat)(an:List (List Nat))(j:Nat)(Y:Stp),qH Xs j0 an Ys=uf→Ys[j]? =ud Y→ ∀i X,i<j0+j→Xs[i]? =ud X→i∈an.getD j []∨X.apart Y=uf
 | [],_,_,j,_,_,h=>by simp at h
 |Z::Ys,j0,an,j,Y,hp,h=>by
  simp only[qH,J2]at hp;intro i X hi hX;cases j with
  |zero=>
   simp at h;subst h;have:=K0.1 hp.1 i (by grind);simp only[hX,Bool.or_eq_true,Lg,decide_eq_true_eq]at this;rcases this with h|h
   ·left
    cases an with
    |nil=>simp at h
    |cons l an=>grind
   grind
  |succ j=>
   rcases zDY Xs Ys (j0+1) an.tail j Y hp.2 (by grind) i X (by omega) hX with h|h
   all_goals grind
section
variable {P:Program}{Γ:Ctx}{pn:qG}{ops:Array Oper}
def zOL(ops:Array Oper)(L:List Bool):Prop:=∀(i:Nat)(o:Oper),ops[i]? =ud o→L[i]? =ud uf→ ∀m∈zA6 o,L[m]? =ud uf
theorem zF7{L:List Bool}{an:List (List Nat)}(hf:zAf 0 ops.toList=uf)(ha:jT an an ops.toList=uf)(hc:zOL ops L):
  ∀(n i:Nat),i≤n→ ∀o,ops[i]? =ud o→(∀m∈zA6 o,L[m]? =ud uf)→ ∀k∈an.getD i [],L[k]? =ud uf:=by
 intro n
 induction n with
 |zero=>
  intro i hi o ho hp k hk;have dE:i=0:=by omega
  subst dE;cases hl:an[0]? with
  |none=>grind
  |some l=>
   obtain⟨o',h1,h2⟩:=zHY an an ops.toList 0 l ha hl;rw[Kc,ho]at h1;simp at h1;subst h1;simp only[Ud,hl,Qw]at hk;rcases h2 k hk with h|⟨m,h,_⟩
   ·grind
   ·have:=zES ops.toList 0 0 o hf (by grind) m h
    omega
 |succ n ih=>
  intro i hi o ho hp k hk;cases hl:an[i]? with
  |none=>grind
  |some l=>
   obtain⟨o',h1,h2⟩:=zHY an an ops.toList i l ha hl;rw[Kc,ho]at h1;simp at h1;subst h1;simp only[Ud,hl,Qw]at hk;rcases h2 k hk with h|⟨m,h,hkm⟩
   ·grind
   ·have gT:=zES ops.toList 0 i o hf (by grind) m h
    have hLm:=hp m h;cases ap:ops[m]? with
    |none=>
     grind
    |some om=>exact ih m (by omega) om ap (hc m om ap hLm) k hkm
theorem zHa{L:List Bool}{Xs:List Stp}{i:Nat}{b:Bool}{X:Stp}(hL:L[i]? =ud b)(hX:Xs[i]? =ud X):L.zip Xs=(L.take i).zip (Xs.take i)++(b,X)::(L.drop (i+1)).zip (Xs.drop (i+1)):=by
 have h1:L=L.take i++b::L.drop (i+1):=by obtain⟨h,rfl⟩:=Jg.1 hL;simp
 have h2:Xs=Xs.take i++X::Xs.drop (i+1):=by obtain⟨h,rfl⟩:=Jg.1 hX;simp
 grind[List.zip_cons_cons]
theorem zHZ{L:List Bool}{Xs:List Stp}{y:Bool×Stp}(h:y∈L.zip Xs):∃j:Nat,L[j]? =ud y.1∧Xs[j]? =ud y.2:=by grind[Uv,List.getElem?_zip_eq_some]
def tO:Env→List Stp→Prop
 |_,[]=>True
 |E,X::Xs=>E.Has X.rd∧tO (E.apps X.l) Xs
theorem tO.get:∀(Xs:List Stp)(E:Env),tO E Xs→ ∀(i:Nat)(X:Stp),Xs[i]? =ud X→(runD E ((Xs.take i).map fun y=>(uf,y))).Has X.rd
 | [],_,_,i,_,h=>by simp at h
 |Y::Xs,E,hh,i,X,h=>by
  cases i with
  |zero=>simp at h;subst h;simpa[runD]using hh.1
  |succ i=>
   have:=tO.get Xs _ hh.2 i X (by grind)
   grind[runD]
theorem Stp.apart_spec{a b:Stp}(h:a.apart b=uf):zDV a.l b.l=uf∧(∀s∈a.slots,s∉b.rd.map (·.1))∧(∀s∈b.slots,s∉a.rd.map (·.1))∧ ∀x∈a.rd,∀y∈b.l,x.2.okB y.2=uf:=by simp only[Stp.apart,J2]at h;refine⟨h.1.1.1,by grind[zF5],by grind[zF5],fun x hx y hy=>?_⟩;exact K0.1 (K0.1 h.2 x hx) y hy
mutual
theorem zET:(t:T)→t.okB []=uf
 |.same _ _|.addr _ _|.sub _ _ _ _ _=>by rfl
 |.agg xs|.tup xs=>by simp only[T.okB];exact zJi xs
 |.any|.lit _|.ro _|.sl _ _|.ptr _=>by rfl
theorem zJi:(xs:List T)→zIH [] xs=uf
 | []=>by rfl
 |x::xs=>by simp only[zIH,zET x,zJi xs,Kr]
end
theorem Rep.heap{E:Env}{G:Gh}{tmps:Array Value}{w w':World}(h:Rep Γ E G tmps w)(hw:w'.heap=w.heap)(ho:w'.os=w.os:=by rfl)(hq:w'.output=w.output:=by rfl):Rep Γ E G tmps w' where
 size:=h.size
 ent s t hs:=Ent.keep (chg:=[]) ⟨fun _ _ _=>rfl,fun _ _ _=>rfl,by grind[yE,World.cell?],fun _ _ _ h _=>h,fun b cs e h=>⟨cs,by grind,rfl⟩⟩ (by simp) (zET t) (h.ent s t hs)
 mem:=by
  have hm:=h.mem;exact⟨hm.one,fun b o l hl=>by have:=hm.lb b o l hl;exact⟨by rw[hw];exact this.1,this.2⟩,fun b l hl=>by have:=hm.ow b l hl;exact⟨by rw[hw];exact this.1,this.2⟩,
   fun b x hx=>by rw[hw];exact hm.st b x hx,fun b h1 h2=>by rw[hw];exact hm.fr b h1 h2,by rw[hw];exact hm.sz,hm.bk.trans (fun b cs e hb=>⟨cs,by grind,rfl⟩) ho hq⟩
end
end Go.Ab

namespace Go.Ab
open Go
abbrev I(n:Int):T:=.lit (.int .i64 n)
abbrev B(b:Bool):T:=.lit (.bool b)
abbrev L{α:Type}(k:Nat)(f:α→T)(xs:List α):T:=.sl k (xs.map f)
theorem zO{P:Program}{t:TypeId}{ti:TypeInfo}(h:P.types[t]? =ud ti):P.info? t=ud ti:=by grind[Tables.info?]
def Ok(P:Program)(Γ:Ctx)(o:Oper)(E E':Env):Prop:=∀S,xT P (Γ.at S) o E E'
section
variable {P:Program}{Γ:Ctx}{pn:qG}{ops:Array Oper}{o:Oper}{os:List Oper}{E E':Env}{Q:Exit→Env→Prop}{d:Nat}
theorem RW.op(h:Ok P Γ o E E')(k:RW P Γ pn ops os E' Q)(hg:o.guard=ue:=by rfl)(hp:pn.ok o.dst=uf:=by rfl):RW P Γ pn ops (o::os) E Q:=RW.cons (zQ.op h hg) k hp
def neD(x:Operand)(d:Nat):Bool:=match x with
 |.tmp s=>s != d
 |_=>uf
theorem zDq{x:Operand}{d:Nat}(h:neD x d=uf):∀s,x=.tmp s→s≠d:=by rintro s rfl;grind[neD]
theorem zA7{t:T}(h:t.okTup=uf):∀xs,t≠.tup xs:=by rintro xs rfl;grind[T.okTup]
abbrev mvB(Γ:Ctx)(x:Operand)(t:T)(d:Nat):Bool:=J4 d Γ.N&&t.okTup&&neD x d&&T.okB [(d,0)] (uJ x t)
section
variable {x y:Operand}{t:T}{ty:TypeId}{ps:String}{af:Array Edge}{gd:Option (Nat×Bool)}
theorem zX{a b:Nat}(h:J4 a b=uf):a<b:=by grind[Nat.blt_eq]
theorem zNn(hx:opT E x=ud t)(sd:mvB Γ x t d=uf):Ok P Γ ⟨ud d,.move x,ty,ps,af,gd⟩ E (E.app [(d,ud (uJ x t))] [(d,0)]):=by simp only[mvB,J2]at sd;exact fun S=>zLY x t (.inl rfl) rfl (zX sd.1.1.1) hx (zA7 sd.1.1.2) (zDq sd.1.2) sd.2
theorem zRS(hx:opT E x=ud t)(sd:mvB Γ x t d=uf):Ok P Γ ⟨ud d,.assign x,ty,ps,af,gd⟩ E (E.app [(d,ud (uJ x t))] [(d,0)]):=by simp only[mvB,J2]at sd;exact fun S=>zLY x t (.inr rfl) rfl (zX sd.1.1.1) hx (zA7 sd.1.1.2) (zDq sd.1.2) sd.2
def inR(n:Int):Bool:=decide (-9223372036854775808≤n)&&decide (n≤9223372036854775807)
theorem zB2{n:Int}(h:inR n=uf):IntKind.i64.wrap n=n:=by
 simp only[inR,J2,decide_eq_true_eq]at h;have hb:IntKind.i64.bits=64:=rfl;have hs:IntKind.i64.signed=uf:=rfl;simp only[IntKind.wrap,hb,hs,Jch]
 grind
def rng(n:Int):Option Int:=if inR n then ud n else ue
theorem zB3{n m:Int}(h:rng n=ud m):m=n∧inR n=uf:=by grind[rng]
theorem zB4{m n c:Int}{xt yt:TypeId}(hv:rng (m+n)=ud c)(hx:opT E x=ud (I m))(hy:opT E y=ud (I n))(sd:J4 d Γ.N=uf):Ok P Γ ⟨ud d,.binOp .add xt x y yt,ty,ps,af,gd⟩ E (E.app [(d,ud (I c))] [(d,0)]):=by obtain⟨rfl,h⟩:=zB3 hv;exact fun S=>tE .add xt yt x y .i64 m n _ rfl rfl (zX sd) hx hy (by grind[zHI,zB2])
theorem zTr{m n:Int}{xt yt:TypeId}(hx:opT E x=ud (I m))(hy:opT E y=ud (I n))(sd:J4 d Γ.N=uf):Ok P Γ ⟨ud d,.binOp .lss xt x y yt,ty,ps,af,gd⟩ E (E.app [(d,ud (B (decide (m<n))))] [(d,0)]):=
 fun _S=>tE .lss xt yt x y .i64 m n _ rfl rfl (zX sd) hx hy rfl
theorem wT(k:Nat)(sd:J4 d Γ.N=uf):Ok P Γ ⟨ud d,.assign (.const (.slice ue 0 0)),ty,ps,af,gd⟩ E (E.app [(d,ud (.sl k []))] [(d,0)]):=
 fun _=>zIO k _ (.inr rfl) rfl rfl (zX sd)
def yT(n:Int):Option Nat:=if 0≤n∧n≤68719476736 then ud n.toNat else ue
theorem zF8{n:Int}{m:Nat}(h:yT n=ud m):n=(m:Int)∧m≤68719476736:=by grind[yT]
class ElT (P:Program) (t:TypeId) (e:outParam TypeId) (ti:outParam TypeInfo) (k:outParam Nat) (u:outParam T):Prop where
 un:P.underlying t=ud (.slice e)
 info:P.info? e=ud ti
 zero:∃z,ti.zero=ud z∧uT u=z.cells.toList
 size:ti.size=k
 pos:0<k
 zok:u.zOk=uf
 us:u.size=k
 bytes:ti.bytes≤2048
theorem zOM{t e:TypeId}{ti:TypeInfo}{k:Nat}{u:T}{n m:Nat}{a b:Int}(ht:ElT P t e ti k u)(hn:yT a=ud n)(hx:opT E x=ud (I a))(hm:yT b=ud m)(hy:opT E y=ud (I b))(cc:n≤m)(sd:J4 d Γ.N=uf):
  Ok P Γ ⟨ud d,.makeSlice t x y,ty,ps,af,gd⟩ E (E.app [(d,ud (.sl k (J1 n u)))] [(d,0)]):=by
 obtain⟨rfl,h1⟩:=zF8 hn;obtain⟨rfl,h2⟩:=zF8 hm;obtain⟨z,hz,hv⟩:=ht.zero;exact fun S=>zRM t e ti z u k x y n m .i64 .i64 rfl rfl (zX sd) ht.un ht.info hz ht.size ht.pos ht.zok hv ht.us (Lv ht.bytes (by decide)) hx hy cc h2
end
end
end Go.Ab

namespace Go.Ab
open Go
def ixO{α:Type}(xs:List α)(i:Int):Option α:=if 0≤i then xs[i.toNat]? else ue
theorem zA8{α:Type}{xs:List α}{i:Int}{v:α}(h:ixO xs i=ud v):0≤i∧xs[i.toNat]? =ud v:=by grind[ixO]
def zAg:T→Bool
 |.same _ _=>ug
 |_=>uf
theorem tC{E:Env}{s r:Nat}{q:List Nat}{t u:T}(h1:E s=ud (.same r q))(h2:E r=ud t)(h3:t.get q.reverse=ud u)(h4:zAg u=uf):uS E (.tmp s)=ud (r,q,u):=by
 have hg:∀t:T,t.get []=ud t:=fun t=>by rfl
 grind[zAg,uS,sF]
theorem xS{E:Env}{s:Nat}{t:T}(h1:E s=ud t)(h4:zAg t=uf):uS E (.tmp s)=ud (s,[],t):=by
 have hg:∀t:T,t.get []=ud t:=fun t=>by rfl
 grind[zAg,uS,sF]
section
variable {P:Program}{Γ:Ctx}{E:Env}{d:Nat}{x y:Operand}{ty:TypeId}{ps:String}{af:Array Edge}{gd:Option (Nat×Bool)}
class zCK (P:Program) (t:TypeId) (e:outParam TypeId) (ti:outParam TypeInfo) (k:outParam Nat):Prop where
 un:P.underlying t=ud (.slice e)
 info:P.info? e=ud ti
 size:ti.size=k
theorem zDZ{α:Type}{t e:TypeId}{ti:TypeInfo}{r k:Nat}{q:List Nat}{f:α→T}{xs:List α}{v:α}{i:Int}(ht:zCK P t e ti k)(hv:ixO xs i=ud v)(hx:uS E x=ud (r,q,L k f xs))(hy:opT E y=ud (I i))(sd:J4 d Γ.N=uf):
  Ok P Γ ⟨ud d,.indexAddr t x y,ty,ps,af,gd⟩ E (E.app [(d,ud (.addr r (i.toNat::q)))] [(d,0)]):=by
 obtain⟨h1,h2⟩:=zA8 hv;exact fun S=>zVe x y t e ti r q k _ .i64 i rfl rfl (zX sd) ht.un ht.info ht.size hx hy h1 (by grind)
theorem qA{α:Type}{t e:TypeId}{ti:TypeInfo}{r k:Nat}{q:List Nat}{f:α→T}{xs:List α}{v:α}{i:Int}(ht:zCK P t e ti k)(hv:ixO xs i=ud v)(hx:uS E x=ud (r,q,.ro (L k f xs)))(hy:opT E y=ud (I i))(sd:J4 d Γ.N=uf):
  Ok P Γ ⟨ud d,.indexAddr t x y,ty,ps,af,gd⟩ E (E.app [(d,ud (.ro (.ptr (f v))))] [(d,0)]):=by
 obtain⟨h1,h2⟩:=zA8 hv;exact fun S=>zOu x y t e ti r q k _ .i64 i _ rfl rfl (zX sd) ht.un ht.info ht.size hx hy h1 (by simp[h2])
theorem zTs{α:Type}{t e:TypeId}{r k:Nat}{q:List Nat}{f:α→T}{xs:List α}(hu:P.underlying t=ud (.slice e))(hx:uS E x=ud (r,q,L k f xs))(sd:J4 d Γ.N=uf):
  Ok P Γ ⟨ud d,.call { callee:=.builtin .len,args:=#[x],argTypes:=#[t] },ty,ps,af,gd⟩ E (E.app [(d,ud (I xs.length))] [(d,0)]):=
 fun _=>zOt x t _ r q (L k f xs) xs.length rfl rfl (zX sd) hu hx (by simp[zII]) rfl
theorem zON{α:Type}{t e:TypeId}{r k:Nat}{q:List Nat}{f:α→T}{xs:List α}(hu:P.underlying t=ud (.slice e))(hx:uS E x=ud (r,q,.ro (L k f xs)))(sd:J4 d Γ.N=uf):
  Ok P Γ ⟨ud d,.call { callee:=.builtin .len,args:=#[x],argTypes:=#[t] },ty,ps,af,gd⟩ E (E.app [(d,ud (I xs.length))] [(d,0)]):=
 fun _=>zOt x t _ r q (.ro (L k f xs)) xs.length rfl rfl (zX sd) hu hx (by simp[zII]) rfl
structure zOO (P:Program) (t:TypeId) (u:T):Prop where
 h:∃ds ti,P.underlying t=ud ds∧P.info? t=ud ti∧zDM ds= !u.single∧ti.size=u.size
theorem zVj{t:TypeId}{u:T}(ht:zOO P t u)(hx:opT E x=ud (.ro (.ptr u)))(sd:J4 d Γ.N=uf):Ok P Γ ⟨ud d,.load t x,ty,ps,af,gd⟩ E (E.app [(d,ud (roT u))] [(d,0)]):=by obtain⟨ds,ti,h1,h2,h3,h4⟩:=ht.h;exact fun S=>zKD x t ds ti u rfl rfl (zX sd) h1 h2 h3 h4 hx
theorem zEM{t:TypeId}{u tr:T}{r:Nat}{q:List Nat}(ht:zOO P t u)(hx:opT E x=ud (.addr r q))(hr:E r=ud tr)(hg:tr.get q.reverse=ud u)(sd:(J4 d Γ.N&&tr.locd q.reverse&&(r != d)&&T.okB [(d,0)] (cpT r u q))=uf):
  Ok P Γ ⟨ud d,.load t x,ty,ps,af,gd⟩ E (E.app [(d,ud (cpT r u q))] [(d,0)]):=by
 obtain⟨ds,ti,h1,h2,h3,h4⟩:=ht.h;simp only[J2]at sd;exact fun S=>zRL x t ds ti r q tr u rfl rfl (zX sd.1.1.1) h1 h2 h3 h4 hx hr hg sd.1.1.2 (by grind) sd.2
end
end Go.Ab

namespace Go.Ab
open Go
section
variable {P:Program}{Γ:Ctx}{E:Env}{x:Operand}{ty:TypeId}{ps:String}{af:Array Edge}{gd:Option (Nat×Bool)}
theorem zXW{t:TypeId}{ti:TypeInfo}{r s:Nat}{q:List Nat}{tr tr' u0:T}{v:Value}(hi:P.info? t=ud ti)(gw:ti.size=1)(hx:opT E x=ud (.addr r q))(hr:E r=ud tr)(hg:tr.get q.reverse=ud u0)(gn:tr.set q.reverse (.lit v)=tr')(hy:E s=ud (.lit v))
  (sd:(tr.single&&tr.locd q.reverse&&vG (.lit v) u0&&(r != s))=uf):Ok P Γ ⟨ue,.store t x (.tmp s),ty,ps,af,gd⟩ E (E.app [(r,ud tr')] [(r,q.length)]):=by
 simp only[J2]at sd;subst gn;intro S;have:=zIS (P:=P) (Γ:=Γ.at S) (E:=E) (o:=⟨ue,.store t x (.tmp s),ty,ps,af,gd⟩) t ti x (.tmp s) r q tr u0 (.slot s (.lit v)) rfl rfl hi (by rw[gw];rfl) (by omega) hx hr sd.1.1.1 hg sd.1.1.2 sd.1.2 (.slot s _)
  ⟨fun s' t' h=>by simp at h;obtain⟨rfl,rfl⟩:=h;exact⟨hy,by simp[zS,yM],rfl⟩,by simp,by simp[xD,tH]⟩
 exact this
theorem zVk{t:TypeId}{ti:TypeInfo}{r:Nat}{q:List Nat}{tr tr' u0:T}{v:Value}(hi:P.info? t=ud ti)(gw:ti.size=1)(hx:opT E x=ud (.addr r q))(hr:E r=ud tr)(hg:tr.get q.reverse=ud u0)(gn:tr.set q.reverse (.lit v)=tr')
  (sd:(tr.single&&tr.locd q.reverse&&vG (.lit v) u0&&(T.lit v).zOk)=uf)(hz:uT (.lit v)=v.cells.toList):Ok P Γ ⟨ue,.store t x (.const v),ty,ps,af,gd⟩ E (E.app [(r,ud tr')] [(r,q.length)]):=by
 simp only[J2]at sd;subst gn;intro S;have:=zIS (P:=P) (Γ:=Γ.at S) (E:=E) (o:=⟨ue,.store t x (.const v),ty,ps,af,gd⟩) t ti x (.const v) r q tr u0 (.zero (.lit v)) rfl rfl hi (by rw[gw];rfl) (by omega) hx hr sd.1.1.1 hg sd.1.1.2 sd.1.2 (.zero v _ hz)
  ⟨by simp,by grind,by simp[xD]⟩
 exact this
end
end Go.Ab

namespace Go.Ab
open Go
theorem zG.tr{Γ:Ctx}{E:Env}(d r:Nat)(u:T)(hd:E d=ud (.same r []))(hr:E r=ud u)(ef:zS u)(sd:(u.single&&xJ u&&u.okB [(d,1),(r,1)]&&(d != r))=uf):
  zG Γ E (E.app [(d,ud u),(r,ud (.same d []))] [(d,1),(r,1)]):=by
 simp only[J2]at sd
 rintro a w ⟨S,hS,hs⟩
 have gj:d≠r:=by grind
 have hg:∀t:T,t.get []=ud t:=fun t=>by rfl
 have:=zKH hs d [] r [] (.same r []) u u hd rfl hr (hg u) sd.1.1.1 ef gj (by simp[T.okB,zCs]) sd.1.2 rfl sd.1.1.2;exact⟨S,hS,this⟩
theorem qI{α:Type}{f:α→T}(hf:∀x,zS (f x)):(xs:List α)→yP (xs.map f)
 | []=>trivial
 |x::xs=>⟨hf x,qI hf xs⟩
theorem zMp{α:Type}{f:α→T}{k:Nat}{xs:List α}(hf:∀x,zS (f x)):zS (L k f xs):=by simp only[zS,yM];grind[qI]
theorem zMq(n:Int):zS (I n):=by simp[zS,yM]
theorem zRT(b:Bool):zS (B b):=by simp[zS,yM]
end Go.Ab

namespace Go.Ab
open Go
section
variable {P:Program}{Γ:Ctx}{E:Env}{d:Nat}{x y:Operand}{ty:TypeId}{ps:String}{af:Array Edge}{gd:Option (Nat×Bool)}{m n c:Int}{xt yt:TypeId}
theorem zOP(hv:rng (m-n)=ud c)(hx:opT E x=ud (I m))(hy:opT E y=ud (I n))(sd:J4 d Γ.N=uf):Ok P Γ ⟨ud d,.binOp .sub xt x y yt,ty,ps,af,gd⟩ E (E.app [(d,ud (I c))] [(d,0)]):=by obtain⟨rfl,h⟩:=zB3 hv;exact fun _=>tE .sub xt yt x y .i64 m n _ rfl rfl (zX sd) hx hy (by grind[zHI,zB2])
theorem zVl(hv:rng (m*n)=ud c)(hx:opT E x=ud (I m))(hy:opT E y=ud (I n))(sd:J4 d Γ.N=uf):Ok P Γ ⟨ud d,.binOp .mul xt x y yt,ty,ps,af,gd⟩ E (E.app [(d,ud (I c))] [(d,0)]):=by obtain⟨rfl,h⟩:=zB3 hv;exact fun _=>tE .mul xt yt x y .i64 m n _ rfl rfl (zX sd) hx hy (by grind[zHI,zB2])
def tD(m n:Int):Option Int:=if n=0 then ue else rng (m.tdiv n)
def uK(m n:Int):Option Int:=if n=0 then ue else ud (m.tmod n)
theorem zVm(hv:tD m n=ud c)(hx:opT E x=ud (I m))(hy:opT E y=ud (I n))(sd:J4 d Γ.N=uf):Ok P Γ ⟨ud d,.binOp .quo xt x y yt,ty,ps,af,gd⟩ E (E.app [(d,ud (I c))] [(d,0)]):=by
 unfold tD at hv;split at hv
 ·cases hv
 ·rename_i h0
  obtain⟨rfl,h⟩:=zB3 hv;exact fun _=>tE .quo xt yt x y .i64 m n _ rfl rfl (zX sd) hx hy (by simp only[zHI,h0,if_false,zB2 h])
theorem zVn(hv:uK m n=ud c)(hx:opT E x=ud (I m))(hy:opT E y=ud (I n))(sd:J4 d Γ.N=uf):Ok P Γ ⟨ud d,.binOp .rem xt x y yt,ty,ps,af,gd⟩ E (E.app [(d,ud (I c))] [(d,0)]):=by
 unfold uK at hv;split at hv
 ·cases hv
 ·rename_i h0
  simp at hv;subst hv;exact fun _=>tE .rem xt yt x y .i64 m n _ rfl rfl (zX sd) hx hy (by simp only[zHI,h0,if_false])
theorem zVo(hx:opT E x=ud (I m))(hy:opT E y=ud (I n))(sd:J4 d Γ.N=uf):Ok P Γ ⟨ud d,.binOp .leq xt x y yt,ty,ps,af,gd⟩ E (E.app [(d,ud (B (decide (m≤n))))] [(d,0)]):=
 fun _=>tE .leq xt yt x y .i64 m n _ rfl rfl (zX sd) hx hy rfl
theorem zOQ(hx:opT E x=ud (I m))(hy:opT E y=ud (I n))(sd:J4 d Γ.N=uf):Ok P Γ ⟨ud d,.binOp .gtr xt x y yt,ty,ps,af,gd⟩ E (E.app [(d,ud (B (decide (m> n))))] [(d,0)]):=
 fun _=>tE .gtr xt yt x y .i64 m n _ rfl rfl (zX sd) hx hy rfl
theorem zTt(hx:opT E x=ud (I m))(hy:opT E y=ud (I n))(sd:J4 d Γ.N=uf):Ok P Γ ⟨ud d,.binOp .geq xt x y yt,ty,ps,af,gd⟩ E (E.app [(d,ud (B (decide (m≥n))))] [(d,0)]):=
 fun _=>tE .geq xt yt x y .i64 m n _ rfl rfl (zX sd) hx hy rfl
theorem zTu(hx:opT E x=ud (I m))(hy:opT E y=ud (I n))(sd:J4 d Γ.N=uf):Ok P Γ ⟨ud d,.binOp .eql xt x y yt,ty,ps,af,gd⟩ E (E.app [(d,ud (B (m==n)))] [(d,0)]):=
 fun _=>tE .eql xt yt x y .i64 m n _ rfl rfl (zX sd) hx hy rfl
theorem zMr(hx:opT E x=ud (I m))(hy:opT E y=ud (I n))(sd:J4 d Γ.N=uf):Ok P Γ ⟨ud d,.binOp .neq xt x y yt,ty,ps,af,gd⟩ E (E.app [(d,ud (B (m != n)))] [(d,0)]):=
 fun _=>tE .neq xt yt x y .i64 m n _ rfl rfl (zX sd) hx hy rfl
theorem zA9{b:Bool}(hx:opT E x=ud (B b))(sd:J4 d Γ.N=uf):Ok P Γ ⟨ud d,.unOp .not xt x,ty,ps,af,gd⟩ E (E.app [(d,ud (B (!b)))] [(d,0)]):=
 fun _=>zTP xt x b rfl rfl (zX sd) hx
theorem zVp(hv:rng (0-n)=ud c)(hx:opT E x=ud (I n))(sd:J4 d Γ.N=uf):Ok P Γ ⟨ud d,.unOp .neg xt x,ty,ps,af,gd⟩ E (E.app [(d,ud (I c))] [(d,0)]):=by
 obtain⟨rfl,h⟩:=zB3 hv;have:=fun S=>zTQ (P:=P) (Γ:=Γ.at S) (E:=E) (o:=⟨ud d,.unOp .neg xt x,ty,ps,af,gd⟩) xt x .i64 n rfl rfl (zX sd) hx
 rw[zB2 h]at this;exact this
end
end Go.Ab

namespace Go.Ab
open Go
section
variable {P:Program}{Γ:Ctx}{E:Env}{d:Nat}{x y:Operand}{ty:TypeId}{ps:String}{af:Array Edge}{gd:Option (Nat×Bool)}
class zJj (P:Program) (t:TypeId) (u:outParam T):Prop where
 h:∃ti z,P.info? t=ud ti∧ti.zero=ud z∧u.zOk=uf∧uT u=z.cells.toList∧z.cells.size=u.size
theorem zIa{t:TypeId}{u:T}(ht:zJj P t u)(sd:J4 d Γ.N=uf):Ok P Γ ⟨ud d,.alloc t,ty,ps,af,gd⟩ E (E.app [(d,ud (.ptr u))] [(d,0)]):=by obtain⟨ti,z,h1,h2,h3,h4,h5⟩:=ht.h;exact fun S=>zO3 t ti z u rfl rfl (zX sd) h1 h2 h3 h4 h5
theorem zOR{s i:Nat}{ts:List T}{t:T}(hs:E s=ud (.tup ts))(hi:ts[i]? =ud t)(sd:(J4 d Γ.N&&t.okTup&&(s != d)&&T.okB [(d,0)] (cpT s t [i]))=uf):
  Ok P Γ ⟨ud d,.extract (.tmp s) i,ty,ps,af,gd⟩ E (E.app [(d,ud (cpT s t [i]))] [(d,0)]):=by
 simp only[J2]at sd;exact fun S=>zKE s i ts t rfl rfl (zX sd.1.1.1) hs hi (zA7 sd.1.1.2) (by grind) sd.2
theorem qJ{t:T}(hx:opT E x=ud t)(hp:zEy E x=uf)(sd:mvB Γ x t d=uf):Ok P Γ ⟨ud d,.nilCheck x,ty,ps,af,gd⟩ E (E.app [(d,ud (uJ x t))] [(d,0)]):=by simp only[mvB,J2]at sd;exact fun S=>zTR x t rfl rfl (zX sd.1.1.1) hx hp (zA7 sd.1.1.2) (zDq sd.1.2) sd.2
theorem zKL{c:Operand}{b:Bool}{t:T}(hc:opT E c=ud (B b))(hx:opT E (if b then x else y)=ud t)(sd:mvB Γ (if b then x else y) t d=uf):Ok P Γ ⟨ud d,.pick c x y,ty,ps,af,gd⟩ E (E.app [(d,ud (uJ (if b then x else y) t))] [(d,0)]):=by simp only[mvB,J2]at sd;exact fun S=>zRI c x y b t rfl rfl (zX sd.1.1.1) hc hx (zA7 sd.1.1.2) (zDq sd.1.2) sd.2
theorem zOS{t:TypeId}{s:Nat}{u:T}(hs:E s=ud u)(hu:zS u)(sd:(J4 d Γ.N&&u.okTup&&(s != d))=uf):
  Ok P Γ ⟨ud d,.box t (.tmp s),ty,ps,af,gd⟩ E (E.app ((d,ud (.ptr u))::pWr d [.slot s u] 0) ((d,0)::tI [.slot s u])):=by
 simp only[J2]at sd;have gj:s≠d:=by grind
 refine fun S=>zTT t (.tmp s) (.slot s u) rfl rfl (zX sd.1.1) (.slot s u) ⟨by grind,by simp,?_⟩
 simp only[xD]
 grind
end
end Go.Ab

namespace Go.Ab
open Go
def xM{α:Type}(xs ys:List α):Option (List α):=if xs.length+ys.length≤68719476736 then ud (xs++ys)else ue
theorem zEa{α:Type}{xs ys zs:List α}(h:xM xs ys=ud zs):zs=xs++ys∧xs.length+ys.length≤68719476736:=by grind[xM]
section
variable {P:Program}{Γ:Ctx}{E:Env}{d:Nat}{x y:Operand}{ty:TypeId}{ps:String}{af:Array Edge}{gd:Option (Nat×Bool)}
theorem ElT.zsize{t e:TypeId}{ti:TypeInfo}{k:Nat}{u:T}(h:ElT P t e ti k u):∃z,ti.zero=ud z∧z.cells.size=k:=by obtain⟨z,h1,h2⟩:=h.zero;exact⟨z,h1,by rw[←K3,←h2,wV u h.zok,h.us]⟩
theorem zAo{α:Type}{t e:TypeId}{ti:TypeInfo}{k:Nat}{u:T}{f:α→T}{xs ys zs:List α}{s0 s1:Nat}(ht:ElT P t e ti k u)(hv:xM xs ys=ud zs)(h0:E s0=ud (L k f xs))(h1:E s1=ud (L k f ys))(sd:(J4 d Γ.N&&(s0 != d)&&(s1 != d)&&(s1 != s0))=uf):
  Ok P Γ ⟨ud d,.call { callee:=.builtin .append,args:=#[.tmp s0,.tmp s1],argTypes:=#[t,t] },ty,ps,af,gd⟩ E (E.app [(d,ud (L k f zs)),(s0,ud .any),(s1,ud .any)] [(d,0),(s0,1),(s1,1)]):=by
 obtain⟨rfl,hl⟩:=zEa hv;obtain⟨z,hz,fh⟩:=ht.zsize;simp only[J2]at sd;intro S;have:=zHS (P:=P) (Γ:=Γ.at S) (E:=E) (o:=⟨ud d,.call { callee:=.builtin .append,args:=#[.tmp s0,.tmp s1],argTypes:=#[t,t] },ty,ps,af,gd⟩) t e ti z k s0 s1 (xs.map f) (ys.map f) rfl rfl (zX sd.1.1.1) ht.un ht.info hz ht.size ht.pos fh ht.bytes h0 h1
  (by grind) (by grind) (by grind) (by grind)
 rw[←Ld]at this;exact this
theorem zHb{α:Type}{f:α→T}(hf:∀x,(f x).flat=uf):(xs:List α)→jM (xs.map f)=uf
 | []=>rfl
 |x::xs=>by simp only[Jn,jM,hf x,zHb hf xs,Kr]
theorem zF9{α:Type}{t e:TypeId}{ti:TypeInfo}{k r:Nat}{q:List Nat}{u:T}{f:α→T}{xs ys zs:List α}{s0:Nat}(ht:ElT P t e ti k u)(hf:∀x,(f x).flat=uf)(hv:xM xs ys=ud zs)(h0:E s0=ud (L k f xs))(h1:uS E y=ud (r,q,L k f ys))(sd:(J4 d Γ.N&&(s0 != d))=uf):
  Ok P Γ ⟨ud d,.call { callee:=.builtin .append,args:=#[.tmp s0,y],argTypes:=#[t,t] },ty,ps,af,gd⟩ E (E.app [(d,ud (L k f zs)),(s0,ud .any)] [(d,0),(s0,1)]):=by
 obtain⟨rfl,hl⟩:=zEa hv;obtain⟨z,hz,fh⟩:=ht.zsize;simp only[J2]at sd;intro S;have:=zHT (P:=P) (Γ:=Γ.at S) (E:=E) (o:=⟨ud d,.call { callee:=.builtin .append,args:=#[.tmp s0,y],argTypes:=#[t,t] },ty,ps,af,gd⟩) t e ti z k s0 y r q (xs.map f) (ys.map f) rfl rfl (zX sd.1) ht.un ht.info hz ht.size ht.pos fh ht.bytes h0 h1 (zHb hf ys)
  (by grind) (by grind)
 rw[←Ld]at this;exact this
end
end Go.Ab

namespace Go.Ab
open Go
abbrev IK(k:IntKind)(n:Int):T:=.lit (.int k n)
abbrev Str(s:ByteArray):T:=.lit (.string s)
abbrev Pt{α:Type}(f:α→T)(x:α):T:=.ptr (f x)
abbrev Ro{α:Type}(f:α→T)(x:α):T:=.ro (f x)
abbrev A2{α:Type}(f:α→T)(x:α×α):T:=.agg [f x.1,f x.2]
theorem bd{α β:Type}{o:Option α}{f:α→Option β}{r:β}(h:o.bind f=ud r):∃v,o=ud v∧f v=ud r:=by
 cases o with
 |none=>simp at h
 |some v=>grind
theorem cT{α:Type}{b:Bool}{x y:α}{z:α}(hc:b=uf)(h:cond b x y=z):x=z:=by grind
theorem cF{α:Type}{b:Bool}{x y:α}{z:α}(hc:b=ug)(h:cond b x y=z):y=z:=by grind
theorem sI{α:Type}{x y:α}(h:ud x=ud y):x=y:=U4.inj h
section
variable {P:Program}{Γ:Ctx}{pn:qG}{E E':Env}{Q:Exit→Env→Prop}{c:Code}{id id':Nat}
theorem nA(h:CW P Γ pn c E Q):xY P Γ pn c Q .normal E:=h
theorem xA(h:Q (.exit id) E):xY P Γ pn c Q (.exit id) E:=h
theorem rA(h:Q .ret E):xY P Γ pn c Q .ret E:=h
theorem nB(h:Q .normal E):xZ id Q .normal E:=h
theorem rB(h:Q .ret E):xZ id Q .ret E:=h
theorem xB(h:Q .normal E):xZ id Q (.exit id) E:=by simp only[xZ,if_true];exact h
theorem neX:Exit.exit id≠.normal:=by simp
theorem neR:Exit.ret≠.normal:=by simp
theorem RW.cases{ops:Array Oper}{os:List Oper}(s:Nat)(b:Bool)(hb:E s=ud (B b))(ht:b=uf→RW P Γ pn ops os (E.app [(s,ud (B uf))] []) Q)(hf:b=ug→RW P Γ pn ops os (E.app [(s,ud (B ug))] []) Q):RW P Γ pn ops os E Q:=by
 have key:∀c:Bool,b=c→zG Γ E (E.app [(s,ud (B c))] []):=by
  rintro c rfl a w hs
  refine hs.weaken fun s' t h=>?_
  by_cases e:s=s'
  ·grind[Env.app,Wr.find]
  ·simp only[Env.app,Wr.find,e,if_false]at h
   grind
 cases hc:b with
 |true=>grind[ghost]
 |false=>grind[ghost]
end
theorem zN{α:Type}{k:Nat}{f:α→T}{xs:List α}{i:Int}{v:α}{p:List Nat}{u:T}(h:ixO xs i=ud v)(hr:(f v).get p=ud u):(L k f xs).get (i.toNat::p)=ud u:=by simp[T.get,(zA8 h).2,hr]
theorem yQ{t u:T}{p:List Nat}(h:t.get p=ud u):(T.ptr t).get (0::p)=ud u:=h
theorem yR{xs:List T}{x u:T}{j:Nat}{p:List Nat}(hj:xs[j]? =ud x)(h:x.get p=ud u):(T.agg xs).get (j::p)=ud u:=by grind[T.get]
theorem zBn{α:Type}{k:Nat}{f:α→T}{xs:List α}{i:Int}{v w:α}{p:List Nat}{u:T}(h:ixO xs i=ud v)(hr:(f v).set p u=f w):(L k f xs).set (i.toNat::p) u=L k f (xs.set i.toNat w):=by simp[L,T.set,(zA8 h).2,hr,List.map_set]
theorem zBo{t u t':T}{p:List Nat}(h:t.set p u=t'):(T.ptr t).set (0::p) u=T.ptr t':=by simp[T.set,h]
theorem zKM{xs:List T}{x u x':T}{j:Nat}{p:List Nat}(hj:xs[j]? =ud x)(h:x.set p u=x'):(T.agg xs).set (j::p) u=.agg (xs.set j x'):=by grind[T.set]
class Enc {α:Type} (f:α→T):Prop where
 clean:∀x,zS (f x)
 rofree:∀x,wG (f x)=uf
 strip:∀x,strip (f x)=f x
 okTup:∀x,(f x).okTup=uf
 rook:∀x,zDS (f x)=uf
theorem zFA{α:Type}{f:α→T}(h:∀x,wG (f x)=uf):(xs:List α)→vO (xs.map f)=uf
 | []=>rfl
 |x::xs=>by simp only[Jn,vO,h x,zFA h xs,Kr]
theorem zFB{α:Type}{f:α→T}(h:∀x,zDS (f x)=uf):(xs:List α)→zA4 (xs.map f)=uf
 | []=>rfl
 |x::xs=>by simp only[Jn,zA4,h x,zFB h xs,Kr]
theorem uY{α:Type}{f g:α→T}(h:∀x,strip (f x)=g x):(xs:List α)→wC (xs.map f)=xs.map g
 | []=>rfl
 |x::xs=>by simp only[Jn,wC,h x,uY h xs]
instance:Enc I:=⟨zMq,fun _=>rfl,fun _=>rfl,fun _=>rfl,fun _=>rfl⟩
instance:Enc B:=⟨zRT,fun _=>rfl,fun _=>rfl,fun _=>rfl,fun _=>rfl⟩
instance{k:IntKind}:Enc (IK k):=⟨fun _=>by simp[zS,yM],fun _=>rfl,fun _=>rfl,fun _=>rfl,fun _=>rfl⟩
instance:Enc Str:=⟨fun _=>by simp[zS,yM],fun _=>rfl,fun _=>rfl,fun _=>rfl,fun _=>rfl⟩
instance{α:Type}{k:Nat}{f:α→T}[h:Enc f]:Enc (L k f):=
 ⟨fun _=>zMp h.clean,fun xs=>by simp only[wG];exact zFA h.rofree xs,fun xs=>by simp only[L,strip,uY h.strip xs],fun _=>rfl,fun xs=>by simp only[zDS,zFB h.rook xs]⟩
instance{α:Type}{f:α→T}[h:Enc f]:Enc (A2 f):=
 ⟨fun x=>by simp only[zS,yM,xG];exact⟨h.clean _,h.clean _,trivial⟩,fun x=>by simp only[wG,vO,h.rofree,Kr],fun x=>by simp only[A2,strip,wC,h.strip],
  fun x=>by simp only[T.okTup,yG,h.okTup,Kr],fun x=>by simp only[zDS,zA4,h.rook,Kr]⟩
instance{α:Type}{f:α→T}[h:Enc f]:Enc (Pt f):=
 ⟨fun x=>by simp only[zS,yM];exact h.clean x,fun x=>by simp only[wG,h.rofree],fun x=>by simp only[Pt,strip,h.strip],fun _=>rfl,fun x=>by simp only[zDS,h.rook]⟩
class wW {α:Type} (f g:α→T):Prop where
 h:∀x,strip (f x)=g x
instance{α:Type}{f:α→T}[h:Enc f]:wW f f:=⟨h.strip⟩
instance{α:Type}{k:Nat}{f g:α→T}[h:wW f g]:wW (L k f) (L k g):=⟨fun xs=>by simp only[L,strip,uY h.h xs]⟩
instance{α:Type}{k:Nat}{g:α→T}:wW (Ro (L k g)) (L k g):=⟨fun _=>rfl⟩
instance{α:Type}{g:α→T}:wW (Ro (Pt g)) (Pt g):=⟨fun _=>rfl⟩
theorem stA{xs ys:List T}(h:wC xs=ys):strip (.agg xs)=.agg ys:=by grind[strip]
theorem stC{x y:T}{xs ys:List T}(h:strip x=y)(h2:wC xs=ys):wC (x::xs)=y::ys:=by grind[wC]
section
variable {E:Env}{rw:Rw}{i s r:Nat}{q:List Nat}{x:Operand}
theorem sT{α:Type}{k:Nat}{f g:α→T}{xs:List α}(h:wW f g):clo E (L k f xs)=.ro (L k g xs):=by simp only[clo,L,strip,uY h.h xs]
theorem zDr{t u:T}(h:strip t=u):clo E (.ptr t)=.ro (.ptr u):=by grind[clo,strip]
theorem zEb{tr u:T}(hr:E r=ud tr)(hg:tr.get q.reverse=ud u)(h4:zAg u=uf):sF E 4 r q=ud (r,q,u):=by grind[zAg,sF]
theorem uV{α:Type}{k:Nat}{f g:α→T}{xs:List α}{tr:T}(hr:E r=ud tr)(hg:tr.get q.reverse=ud (L k f xs))(h:wW f g):clo E (.same r q)=.ro (L k g xs):=by simp only[clo,zEb hr hg rfl,T.single,if_true,L,strip,uY h.h xs]
theorem zVq{t u tr:T}(hr:E r=ud tr)(hg:tr.get q.reverse=ud (.ptr t))(h:strip t=u):clo E (.same r q)=.ro (.ptr u):=by simp only[clo,zEb hr hg rfl,T.single,if_true,strip,h]
theorem zTU{α:Type}{k l h:Nat}{f g:α→T}{xs:List α}{tr:T}(hr:E r=ud tr)(hg:tr.get q.reverse=ud (L k f xs))(hs:wW f g)(h1:l≤h)(h2:h≤xs.length):clo E (.sub r q k l h)=.ro (L k g ((xs.drop l).take (h-l))):=by simp only[clo,zEb hr hg rfl,L,uY hs.h xs,Jj,h1,h2,and_self,if_true,Jcg,Ua]
theorem zAp{xs ys:List T}(h:zAN E xs=ys):clo E (.agg xs)=.agg ys:=by grind[clo]
theorem zAq:zAN E []=[]:=rfl
theorem vE{x y:T}{xs ys:List T}(h:clo E x=y)(h2:zAN E xs=ys):zAN E (x::xs)=y::ys:=by grind[zAN]
mutual
theorem zHc(s:Nat):(t:T)→t.okTup=uf→tV E [] s t=uf
 |.agg xs,h=>by simp only[tV,T.okTup]at h ⊢;exact zFC s xs h
 |.tup _,h=>by grind[T.okTup]
 |.same r q,_|.sub r q _ _ _,_=>by grind[tV]
 |.sl _ _,_|.ptr _,_=>by rfl
 |.lit _,_|.ro _,_|.any,_|.addr _ _,_=>by rfl
theorem zFC(s:Nat):(xs:List T)→yG xs=uf→kN E [] s xs=uf
 | [],_=>rfl
 |x::xs,h=>by simp only[yG,J2]at h;simp only[kN,zHc s x h.1,zFC s xs h.2,Kr]
end
theorem agC{u:T}(t:T)(h:opT E x=ud t)(h1:clo E t=u)(h2:t.okTup=uf):zBd E [] i x u:=.inr ⟨t,h,h1,by
 cases x with
 |tmp s=>exact zHc s t h2
 |_=>rfl⟩
end
section
variable {P:Program}{Γ:Ctx}{E:Env}{d:Nat}{x y:Operand}{ty:TypeId}{ps:String}{af:Array Edge}{gd:Option (Nat×Bool)}
abbrev jN(res:List T):Prop:=yP res∧yG res=uf∧vO res=uf
theorem xV:jN []:=⟨trivial,rfl,rfl⟩
theorem xW{α:Type}{f:α→T}{x:α}{ts:List T}(h:Enc f)(h2:jN ts):jN (f x::ts):=
 ⟨⟨h.clean x,h2.1⟩,by simp only[yG,h.okTup,h2.2.1,Kr],by simp only[vO,h.rofree,h2.2.2,Kr]⟩
abbrev zAr(P:Program)(f:FuncId):Prop:=∀args w,(callFunc f args).run P w=.ok (.enter f args) w
theorem yH{f:FuncId}{xs:List Operand}{ats:Array TypeId}{us res:List T}(gr:zAr P f)(hc:FnC P f us res [])(gc:xN E [] 0 xs us)(gk:jN res)(sd:J4 d Γ.N=uf):
  Ok P Γ ⟨ud d,.call { callee:=.value (.func f),args:=xs.toArray,argTypes:=ats },ty,ps,af,gd⟩ E (E.app (cWr d res []) (vJ d [])):=
 fun _S=>zMo f (.func f) xs ats us res [] rfl rfl (zX sd) gr rfl hc gc .nil gk
theorem zRU{f:FuncId}{xs:List Operand}{ats:Array TypeId}{us res:List T}(gr:zAr P f)(hc:FnC P f us res [])(gg:xs.length=us.length)(gc:∀(i:Nat) u,us[i]? =ud u→ ∃x,xs[i]? =ud x∧opT E x=ud u∧u.flat=uf)(gk:yP res∧yG res=uf)(sd:J4 d Γ.N=uf):
  Ok P Γ ⟨ud d,.call { callee:=.value (.func f),args:=xs.toArray,argTypes:=ats },ty,ps,af,gd⟩ E (E.app (cWr d res []) (vJ d [])):=
 fun _S=>zOF f (.func f) xs ats us res rfl rfl (zX sd) gr rfl hc gg gc gk
class sG (P:Program) (S:TypeId) (j:Nat) (off:outParam Nat):Prop where
 h:∃fs f fi,P.underlying S=ud (.struct fs)∧fs[j]? =ud f∧P.info? f.type=ud fi∧fi.size≠0∧off=f.offset
theorem zRV{S:TypeId}{j off r:Nat}{q:List Nat}{xs:List T}{u:T}(ht:sG P S j off)(hx:uS E x=ud (r,q,.ptr (.agg xs)))(hu:xs[j]? =ud u)(gB:T.sizes (xs.take j)=off)(sd:J4 d Γ.N=uf):
  Ok P Γ ⟨ud d,.fieldAddr S x j,ty,ps,af,gd⟩ E (E.app [(d,ud (.addr r (j::0::q)))] [(d,0)]):=by
 obtain⟨fs,f,fi,h1,h2,h3,h4,h5⟩:=ht.h;exact fun _=>zVf x S fs f fi j r q xs u rfl rfl (zX sd) h1 h2 h3 h4 hx hu (by omega)
theorem zDs{S:TypeId}{j off r:Nat}{q:List Nat}{t:T}{xs:List T}{u:T}(ht:sG P S j off)(hx:opT E x=ud (.addr r q))(hr:E r=ud t)(hg:t.get q.reverse=ud (.agg xs))(hu:xs[j]? =ud u)(gB:T.sizes (xs.take j)=off)(sd:(J4 d Γ.N&&t.locd q.reverse)=uf):
  Ok P Γ ⟨ud d,.fieldAddr S x j,ty,ps,af,gd⟩ E (E.app [(d,ud (.addr r (j::q)))] [(d,0)]):=by
 obtain⟨fs,f,fi,h1,h2,h3,h4,h5⟩:=ht.h;simp only[J2]at sd;exact fun _=>zKC x S fs f fi j r q t xs u rfl rfl (zX sd.1) h1 h2 h3 h4 hx hr hg sd.2 hu (by omega)
theorem zMs{S:TypeId}{j off:Nat}{xs:List T}{u:T}(ht:sG P S j off)(hx:opT E x=ud (.ro (.ptr (.agg xs))))(hu:xs[j]? =ud u)(gB:T.sizes (xs.take j)=off)(sd:J4 d Γ.N=uf):
  Ok P Γ ⟨ud d,.fieldAddr S x j,ty,ps,af,gd⟩ E (E.app [(d,ud (.ro (.ptr u)))] [(d,0)]):=by
 obtain⟨fs,f,fi,h1,h2,h3,h4,h5⟩:=ht.h;exact fun _=>zOv x S fs f fi j xs u rfl rfl (zX sd) h1 h2 h3 h4 hx hu (by omega)
def yB{α:Type}(xs:List α)(l h:Int):Option (List α):=if 0≤l∧l≤h∧h≤(xs.length:Int)then ud ((xs.drop l.toNat).take (h.toNat-l.toNat))else ue
theorem zVr{α:Type}{t e:TypeId}{ti:TypeInfo}{r k:Nat}{q:List Nat}{f:α→T}{xs ys:List α}{lo hi:Option Operand}{l h:Int}(ht:zCK P t e ti k)(hv:yB xs l h=ud ys)(hx:uS E x=ud (r,q,.ro (L k f xs)))(eL:zAK E lo 0 l.toNat)(f9:zAK E hi xs.length h.toNat)(sd:J4 d Γ.N=uf):
  Ok P Γ ⟨ud d,.slice t x lo hi ue,ty,ps,af,gd⟩ E (E.app [(d,ud (.ro (L k f ys)))] [(d,0)]):=by
 unfold yB at hv;split at hv
 ·rename_i hc
  simp at hv;subst hv;intro S;have:=zIM (P:=P) (Γ:=Γ.at S) (E:=E) (o:=⟨ud d,.slice t x lo hi ue,ty,ps,af,gd⟩) x lo hi t e ti r q k (xs.map f) l.toNat h.toNat rfl rfl (zX sd) ht.un ht.info ht.size hx eL (by grind) (by omega) (by simp;omega);simpa[L,Jcg,Ua]using this
 ·cases hv
theorem zOT{α:Type}{t e:TypeId}{ti:TypeInfo}{r k:Nat}{q:List Nat}{f:α→T}{xs ys:List α}{lo hi:Option Operand}{l h:Int}(ht:zCK P t e ti k)(hv:yB xs l h=ud ys)(hx:uS E x=ud (r,q,L k f xs))(eL:zAK E lo 0 l.toNat)(f9:zAK E hi xs.length h.toNat)(sd:(J4 d Γ.N&&(r != d))=uf):
  Ok P Γ ⟨ud d,.slice t x lo hi ue,ty,ps,af,gd⟩ E (E.app [(d,ud (.sub r q k l.toNat h.toNat))] [(d,0)]):=by
 unfold yB at hv;simp only[J2]at sd;split at hv
 ·rename_i hc
  intro S;exact zHL (P:=P) (Γ:=Γ.at S) (E:=E) (o:=⟨ud d,.slice t x lo hi ue,ty,ps,af,gd⟩) x lo hi t e ti r q k (xs.map f) l.toNat h.toNat rfl rfl (zX sd.1) ht.un ht.info ht.size hx eL (by grind) (by omega) (by simp;omega) (by grind)
 ·cases hv
end
end Go.Ab

namespace Go.Ab
open Go
theorem zB{t:T}(h:zS t):zS t:=h
theorem zH{α:Type}{f:α→T}{k:Nat}{xs:List α}(hf:∀x,zS (f x)):zS (L k f xs):=zMp hf
theorem kO{t:T}(h:zS t):zS (.ptr t):=by simpa only[zS,yM]using h
theorem yX{xs:List T}(h:yP xs):zS (.agg xs):=by simpa only[zS,yM]using h
section
variable {P:Program}{Γ:Ctx}{pn:qG}{E E':Env}{Q:Exit→Env→Prop}{c c1 c2:Code}{x:Operand}
theorem CW.condT(hx:opT E x=ud (B uf))(h:CW P Γ pn c1 E Q):CW P Γ pn (.cond x c1 c2) E Q:=by grind[CW.cond]
theorem CW.condF(hx:opT E x=ud (B ug))(h:CW P Γ pn c2 E Q):CW P Γ pn (.cond x c1 c2) E Q:=by grind[CW.cond]
theorem CW.casesB(b:Bool)(ht:b=uf→CW P Γ pn c E Q)(hf:b=ug→CW P Γ pn c E Q):CW P Γ pn c E Q:=by grind
theorem tJ{wr:Wr}{chg:Chg}{s:Nat}{t:T}(h:E s=ud t)(hf:wr.find s=ue:=by rfl)(hb:t.okB chg=uf:=by rfl):E.app wr chg s=ud t:=by grind[Env.app]
theorem zQ.gh{ops:Array Oper}{o:Oper}{E1:Env}(hg:zG Γ E E1)(h:zQ P Γ ops o E1 E'):zQ P Γ ops o E E':=fun a w K Q hs hK=>h a w K Q (hg a w hs) hK
theorem zB5{t:T}(h:opT E x=ud (.ro (.ptr t))):zEy E x=uf:=by simp[zEy,h]
theorem zBZ{r:Nat}{q:List Nat}{t:T}(h:uS E x=ud (r,q,.ptr t)):zEy E x=uf:=by grind[zEy]
end
theorem zVs{E:Env}{n:Nat}:zAK E ue n (n:Int).toNat:=by simp[zAK]
theorem zVt{E:Env}:zAK E ue 0 (0:Int).toNat:=by simp[zAK]
theorem zTV{E:Env}{x:Operand}{n:Int}{d:Nat}(h0:0≤n)(h:opT E x=ud (I n)):zAK E (ud x) d n.toNat:=⟨.i64,by grind⟩
theorem vU{α:Type}{xs ys:List α}{l h:Int}(hv:yB xs l h=ud ys):0≤l∧l≤h∧h≤xs.length∧ys=(xs.drop l.toNat).take (h.toNat-l.toNat):=by grind[yB]
theorem zHd{α:Type}{xs ys:List α}{l h:Int}(hv:yB xs l h=ud ys):0≤l:=(vU hv).1
theorem zHe{α:Type}{xs ys:List α}{l h:Int}(hv:yB xs l h=ud ys):0≤h:=by have:=vU hv;omega
theorem zRW{E:Env}{r k:Nat}{q:List Nat}{α:Type}{l h:Int}{f g:α→T}{xs ys:List α}{tr:T}(hr:E r=ud tr)(hg:tr.get q.reverse=ud (L k f xs))(hs:wW f g)(hv:yB xs l h=ud ys):
  clo E (.sub r q k l.toNat h.toNat)=.ro (L k g ys):=by
 obtain⟨h1,h2,h3,rfl⟩:=vU hv
 grind[zTU]
section
variable {P:Program}{Γ:Ctx}{E E':Env}{d:Nat}{x y:Operand}{ty:TypeId}{ps:String}{af:Array Edge}{gd:Option (Nat×Bool)}
theorem zAO{o:Oper}{e b:Bool}{d:Nat}{wr:Wr}{chg:Chg}(he:e=b)(h:Ok P Γ o E (E.app ((d,ud (B e))::wr) chg)):Ok P Γ o E (E.app ((d,ud (B b))::wr) chg):=he▸h
theorem zVu{t:TypeId}{u tr t0:T}{r:Nat}{q:List Nat}(ht:zOO P t u)(hx:uS E x=ud (r,q,.ptr t0))(hr:E r=ud tr)(hg:tr.get (0::q).reverse=ud u)(sd:(J4 d Γ.N&&tr.locd (0::q).reverse&&(r != d)&&T.okB [(d,0)] (cpT r u (0::q)))=uf):
  Ok P Γ ⟨ud d,.load t x,ty,ps,af,gd⟩ E (E.app [(d,ud (cpT r u (0::q)))] [(d,0)]):=by
 obtain⟨ds,ti,h1,h2,h3,h4⟩:=ht.h;simp only[J2]at sd;exact fun S=>zIJ x t ds ti r (0::q) tr u rfl rfl (zX sd.1.1.1) h1 h2 h3 h4 (zAd.ptr hx) hr hg sd.1.1.2 (by grind) sd.2
theorem zTv{t:TypeId}{ti:TypeInfo}{r s:Nat}{q:List Nat}{tr tr' u0 u:T}(hi:P.info? t=ud ti)(gw:(ti.size==u.size&&J4 0 ti.size)=uf)(hx:∀S,zAd (Γ.at S) E x r q)(hr:E r=ud tr)(hg:tr.get q.reverse=ud u0)(gn:tr.set q.reverse u=tr')(hy:E s=ud u)(hu:zS u)
  (sd:(tr.single&&tr.locd q.reverse&&vG u u0&&(r != s)&&u.okTup)=uf):Ok P Γ ⟨ue,.store t x (.tmp s),ty,ps,af,gd⟩ E (E.app ((r,ud tr')::sWr r q (.slot s u)) ((r,q.length)::tI [.slot s u])):=by
 simp only[J2]at sd gw;subst gn;intro S;refine zDR (P:=P) (Γ:=Γ.at S) (E:=E) (o:=⟨ue,.store t x (.tmp s),ty,ps,af,gd⟩) t ti x (.tmp s) r q tr u0 (.slot s u) rfl rfl hi (by grind[yI.tree]) (zX gw.2) (hx S) hr sd.1.1.1.1 hg sd.1.1.1.2 sd.1.1.2 (.slot s _)
  ⟨by grind,by simp,?_⟩
 grind[xD]
theorem zKN{t:TypeId}{ti:TypeInfo}{r s:Nat}{q:List Nat}{tr tr' u0 u:T}(hi:P.info? t=ud ti)(gw:(ti.size==u.size&&J4 0 ti.size)=uf)(hx:opT E x=ud (.addr r q))(hr:E r=ud tr)(hg:tr.get q.reverse=ud u0)(gn:tr.set q.reverse u=tr')(hy:E s=ud u)(hu:zS u)
  (sd:(tr.single&&tr.locd q.reverse&&vG u u0&&(r != s)&&u.okTup)=uf):Ok P Γ ⟨ue,.store t x (.tmp s),ty,ps,af,gd⟩ E (E.app ((r,ud tr')::sWr r q (.slot s u)) ((r,q.length)::tI [.slot s u])):=
 zTv hi gw (fun _=>zAd.addr hx) hr hg gn hy hu sd
theorem vZ{t:TypeId}{ti:TypeInfo}{r s:Nat}{q:List Nat}{tr tr' u0 u t0:T}(hi:P.info? t=ud ti)(gw:(ti.size==u.size&&J4 0 ti.size)=uf)(hx:uS E x=ud (r,q,.ptr t0))(hr:E r=ud tr)(hg:tr.get (0::q).reverse=ud u0)(gn:tr.set (0::q).reverse u=tr')(hy:E s=ud u)(hu:zS u)
  (sd:(tr.single&&tr.locd (0::q).reverse&&vG u u0&&(r != s)&&u.okTup)=uf):Ok P Γ ⟨ue,.store t x (.tmp s),ty,ps,af,gd⟩ E (E.app ((r,ud tr')::sWr r (0::q) (.slot s u)) ((r,(0::q).length)::tI [.slot s u])):=
 zTv hi gw (fun _=>zAd.ptr hx) hr hg gn hy hu sd
theorem zTW{t:TypeId}{ti:TypeInfo}{r:Nat}{q:List Nat}{tr tr' u0 u:T}{v:Value}(hi:P.info? t=ud ti)(gw:(ti.size==u.size&&J4 0 ti.size)=uf)(hx:∀S,zAd (Γ.at S) E x r q)(hr:E r=ud tr)(hg:tr.get q.reverse=ud u0)(gn:tr.set q.reverse u=tr')
  (sd:(tr.single&&tr.locd q.reverse&&vG u u0&&u.zOk)=uf)(hz:uT u=v.cells.toList):Ok P Γ ⟨ue,.store t x (.const v),ty,ps,af,gd⟩ E (E.app [(r,ud tr')] [(r,q.length)]):=by
 simp only[J2]at sd gw;subst gn;intro S;have:=zDR (P:=P) (Γ:=Γ.at S) (E:=E) (o:=⟨ue,.store t x (.const v),ty,ps,af,gd⟩) t ti x (.const v) r q tr u0 (.zero u) rfl rfl hi (by grind[yI.tree]) (zX gw.2) (hx S) hr sd.1.1.1 hg sd.1.1.2 sd.1.2 (.zero v _ hz)
  ⟨by simp,by grind,by simp[xD]⟩
 exact this
theorem zIb{t:TypeId}{ti:TypeInfo}{r:Nat}{q:List Nat}{tr tr' u0 u:T}{v:Value}(hi:P.info? t=ud ti)(gw:(ti.size==u.size&&J4 0 ti.size)=uf)(hx:opT E x=ud (.addr r q))(hr:E r=ud tr)(hg:tr.get q.reverse=ud u0)(gn:tr.set q.reverse u=tr')
  (sd:(tr.single&&tr.locd q.reverse&&vG u u0&&u.zOk)=uf)(hz:uT u=v.cells.toList):Ok P Γ ⟨ue,.store t x (.const v),ty,ps,af,gd⟩ E (E.app [(r,ud tr')] [(r,q.length)]):=
 by grind[zTW,zAd.addr]
theorem zFD{G:Gh}{s:Nat}:(xs:List T)→yG xs=uf→ ∀(p:List Nat)(i j:Nat)(u:T),xs[j]? =ud u→ ∃l1 l2,zW G s xs p i=l1++vals G s u ((i+j)::p)++l2∧l1.length=T.sizes (xs.take j)
 | [],_,_,_,_,_,h=>by simp at h
 |x::xs,ht,p,i,j,u,h=>by
  simp only[yG,J2]at ht;cases j with
  |zero=>simp at h;subst h;exact⟨[],zW G s xs p (i+1),by rfl,by rfl⟩
  |succ j=>
   obtain⟨l1,l2,h1,h2⟩:=zFD xs ht.2 p (i+1) j u (by grind);refine⟨vals G s x (i::p)++l1,l2,by rw[zW,h1,show i+(j+1)=i+1+j from by omega];simp,?_⟩;rw[J7,wO x _ (by rintro ys rfl;grind[T.okTup]),h2,Ke,T.sizes]
theorem zOU{S:TypeId}{j off s:Nat}{xs:List T}{u:T}(ht:sG P S j off)(hv:∃ds ti fs f,P.underlying S=ud (.struct fs)∧fs[j]? =ud f∧P.underlying f.type=ud ds∧P.info? f.type=ud ti∧zDM ds= !u.single∧ti.size=u.size)(hx:E s=ud (.agg xs))(hu:xs[j]? =ud u)(gB:T.sizes (xs.take j)=off)
  (sd:(J4 d Γ.N&&yG xs&&u.okTup&&(s != d)&&T.okB [(d,0)] (cpT s u [j]))=uf):
  Ok P Γ ⟨ud d,.field S (.tmp s) j,ty,ps,af,gd⟩ E (E.app [(d,ud (cpT s u [j]))] [(d,0)]):=by
 obtain⟨fs,f,fi,h1,h2,h3,h4,h5⟩:=ht.h;obtain⟨ds,ti,fs',f',g1,g2,g3,g4,g5,g6⟩:=hv;simp only[J2]at sd;rw[h1]at g1;simp at g1;subst g1;rw[h2]at g2;simp at g2;subst g2;rw[h3]at g4;simp at g4;subst g4;intro S';refine xT.value rfl fun a w G g9=>?_
 obtain⟨k1,k2,_⟩:=g9.ent s _ hx;simp only[R]at k2;have k3:=zAm xs [] 0 j u k2 hu;simp only[J6]at k3;have gj:s≠d:=by grind
 have gV:∀ys,u≠.tup ys:=zA7 sd.1.1.2;have hk:=G.put_keep (w:=w) (w':=w) rfl d (fun z=>G.hd s (z++[j]));have hz:∀z,(G.put d (fun z=>G.hd s (z++[j]))).hd d (z++[])=G.hd s (z++[j]):=by grind[Gh.put_self]
 refine⟨tG G s u [j],w,?_,_,wP g9 rfl (zX sd.1.1.1.1) (fun z=>G.hd s (z++[j])) (fun z=>g9.mem.one _ _) _ _ (by grind[kJ])
  (zC8 (fun p=>G.put_other _ p gj) u [j] [] hz gV (hk.keepR (by grind[jQ,tY])) k3) (tY s u [j])⟩
 obtain⟨l1,l2,e1,e2⟩:=zFD (G:=G) (s:=s) xs sd.1.1.1.2 [] 0 j u hu;simp only[J6]at e1;have e3:l1.length=f.offset:=by omega
 have e4:=wO (G:=G) (s:=s) u [j] gV;have bW:(part f.type (zW G s xs [] 0).toArray f.offset).run P w=.ok (tG G s u [j]) w:=by
  rw[e1];cases u with
  |agg ys=>
   simp[T.single]at g5;simp only[vals,T.size]at e4 g6 ⊢
   simp[part,sL g3,g5,sizeOf,typeInfo,h3,tG]
   grind
  |tup ys=>grind
  |_=>
   simp[T.single]at g5;simp[part,sL g3,g5,tG,vals,←e3]
 simp[execOp,xQ k1,mkV,Instr.field,run_underlying h1,h2,asAgg,bW]
theorem zAh{α:Type}{t e:TypeId}{ti:TypeInfo}{k:Nat}{u:T}{n:Nat}{a:Int}{f:α→T}{z:α}(ht:ElT P t e ti k u)(hz:f z=u)(hn:yT a=ud n)(hx:opT E x=ud (I a))(hy:opT E y=ud (I a))(sd:J4 d Γ.N=uf):
  Ok P Γ ⟨ud d,.makeSlice t x y,ty,ps,af,gd⟩ E (E.app [(d,ud (L k f (J1 n z)))] [(d,0)]):=by
 have:=zOM (P:=P) (Γ:=Γ) (E:=E) (d:=d) (ty:=ty) (ps:=ps) (af:=af) (gd:=gd) ht hn hx hn hy (Jh _) sd;rw[←hz]at this;simpa[L]using this
theorem zJk{t e:TypeId}{ti:TypeInfo}{k:Nat}{u:T}(ht:ElT P t e ti k u)(sd:J4 d Γ.N=uf):Ok P Γ ⟨ud d,.buildSlice t 0 #[],ty,ps,af,gd⟩ E (E.app [(d,ud (.sl k []))] [(d,0)]):=
 fun _=>zFq t e ti k rfl rfl (zX sd) ht.un ht.info
theorem zFE(t:TypeId)(x y:Value):Op.equal t x y=Op.equalIn (9999+1) t x y:=rfl
theorem zEU{P:Program}{w:World}{t:TypeId}{k:IntKind}{a b:Int}(n:Nat)(h:P.underlying t=ud (.int k)):(Op.equalIn (n+1) t (.int k a) (.int k b)).run P w=.ok (a==b) w:=by simp only[Op.equalIn,Sem.run_bind,run_underlying h];simp
end
end Go.Ab

namespace Go.Ab
open Go
def zAP:List Nat→Bool
 | []=>uf
 |x::xs=> !xs.contains x&&zAP xs
theorem zEc:{l:List Nat}→zAP l=uf→l.Nodup
 | [],_=>by simp
 |x::xs,h=>by simp only[zAP,J2,Hp,Lg,decide_eq_false_iff_not]at h;exact Ki.2 ⟨h.1,zEc h.2⟩
def zAQ(E:Env):List yI→Prop
 | []=>True
 |.slot s t::l=>(E s=ud t∧zS t∧t.okTup=uf)∧zAQ E l
 |.zero u::l=>u.zOk=uf∧zAQ E l
theorem zAQ.get{E:Env}:(l:List yI)→zAQ E l→(∀s t,yI.slot s t∈l→E s=ud t∧zS t∧t.okTup=uf)∧ ∀u,yI.zero u∈l→u.zOk=uf
 | [],_=>⟨fun _ _ h=>by simp at h,fun _ h=>by simp at h⟩
 |.slot s t::l,h=>by
  obtain⟨h1,h2⟩:=zAQ.get l h.2;exact⟨fun s' t' hm=>by
   rcases Jp.1 hm with e|hm
   ·cases e;exact h.1
   ·exact h1 s' t' hm,fun u hm=>by
   rcases Jp.1 hm with e|hm
   ·cases e
   ·exact h2 u hm⟩
 |.zero u::l,h=>by
  obtain⟨h1,h2⟩:=zAQ.get l h.2;exact⟨fun s' t' hm=>by
   rcases Jp.1 hm with e|hm
   ·cases e
   ·exact h1 s' t' hm,fun u' hm=>by
   rcases Jp.1 hm with e|hm
   ·cases e;exact h.1
   ·exact h2 u' hm⟩
section
variable {E:Env}
theorem pkN:zAQ E []:=trivial
theorem pkS{s:Nat}{t:T}{l:List yI}(h:E s=ud t)(hc:zS t)(h3:t.okTup=uf)(hl:zAQ E l):zAQ E (.slot s t::l):=⟨⟨h,hc,h3⟩,hl⟩
theorem pkZ{u:T}{l:List yI}(h:u.zOk=uf)(hl:zAQ E l):zAQ E (.zero u::l):=⟨h,hl⟩
theorem zAQ.parts{d:Nat}{l:List yI}(h:zAQ E l)(hn:zAP (d::xD l)=uf):uM E d l:=⟨(zAQ.get l h).1,(zAQ.get l h).2,zEc hn⟩
def zBp(E:Env)(zs:List T)(ps:List yI):List (Nat×Operand)→List (Nat×yI)→Prop
 | [],[]=>True
 |x::xs,q::qs=>(x.1=q.1∧jI E x.2 q.2∧ps[q.1]? =ud q.2∧ ∃u,zs[q.1]? =ud u∧u.size=q.2.tree.size)∧zBp E zs ps xs qs
 |_,_=>False
theorem bqN{zs:List T}{ps:List yI}:zBp E zs ps [] []:=trivial
theorem bqC{zs:List T}{ps:List yI}{i:Nat}{x:Operand}{q:yI}{xs:List (Nat×Operand)}{qs:List (Nat×yI)}(h:jI E x q)(hl:zBp E zs ps xs qs)(h1:ps[i]? =ud q:=by rfl)(h2:∃u,zs[i]? =ud u∧u.size=q.tree.size:=by exact⟨_,rfl,rfl⟩):zBp E zs ps ((i,x)::xs) ((i,q)::qs):=⟨⟨rfl,h,h1,h2⟩,hl⟩
theorem zBp.ix{zs:List T}{ps:List yI}:(pl:List (Nat×Operand))→(qs:List (Nat×yI))→zBp E zs ps pl qs→pl.map (·.1)=qs.map (·.1)
 | [],[],_=>rfl
 |x::xs,q::qs,h=>by simp[h.1.1,zBp.ix xs qs h.2]
 | [],_::_,h=>by simp[zBp]at h
 |_::_,[],h=>by simp[zBp]at h
theorem zBp.get{zs:List T}{ps:List yI}:(pl:List (Nat×Operand))→(qs:List (Nat×yI))→zBp E zs ps pl qs→ ∀(j:Nat)(x:Nat×Operand)(q:Nat×yI),pl[j]? =ud x→qs[j]? =ud q→jI E x.2 q.2∧q.2∈ps∧ ∃u,zs[q.1]? =ud u∧u.size=q.2.tree.size
 | [],[],_,j,_,_,h,_=>by simp at h
 |x::xs,q::qs,h,j,x',q',h1,h2=>by
  cases j with
  |zero=>simp at h1 h2;subst h1;subst h2;exact⟨h.1.2.1,Kw h.1.2.2.1,h.1.2.2.2⟩
  |succ j=>exact zBp.get xs qs h.2 j x' q' (by simpa using h1) (by simpa using h2)
 | [],_::_,h,_,_,_,_,_=>by simp[zBp]at h
 |_::_,[],h,_,_,_,_,_=>by simp[zBp]at h
end
class zIc (P:Program) (t:TypeId) (zs:outParam (List T)):Prop where
 h:∃(place:Nat→Option (Nat×Nat))(z:Value),(∀parts,P.built t parts=Instr.fill place z.cells parts)∧tT zs=z.cells.toList∧jS zs=uf∧ ∀i u,zs[i]? =ud u→place i=ud (T.sizes (zs.take i),u.size)
section
variable {P:Program}{Γ:Ctx}{E E':Env}{d:Nat}{x y:Operand}{ty:TypeId}{ps:String}{af:Array Edge}{gd:Option (Nat×Bool)}
theorem jU{t:TypeId}{zs:List T}{pa:Array (Nat×Operand)}(hb:zIc P t zs)(pl:List (Nat×Operand))(qs:List (Nat×yI))(pp:List yI)(gG:zAQ E pp)(hq:zBp E zs pp pl qs)(sd:(J4 d Γ.N&&zAP (d::xD pp))=uf)
  (eZ:pa=pl.toArray:=by rfl)(gQ:qs.foldl (fun ps q=>ps.set q.1 q.2) (zs.map yI.zero)=pp:=by rfl):Ok P Γ ⟨ud d,.build t pa,ty,ps,af,gd⟩ E (E.app ((d,ud (.agg (pp.map yI.tree)))::pWr d pp 0) ((d,0)::tI pp)):=by
 obtain⟨place,z,h1,h2,h3,h4⟩:=hb.h;simp only[J2]at sd;subst eZ;exact fun S=>zO4 t place z zs pl qs pp rfl rfl (zX sd.1) h1 h2 h3 h4 gQ (gG.parts sd.2) (zBp.ix _ _ hq) (zBp.get _ _ hq)
def zJl(k:Nat):List yI→Bool
 | []=>uf
 |p::l=>(p.tree.size==k)&&zJl k l
theorem zJm{k:Nat}:(l:List yI)→zJl k l=uf→ ∀p∈l,p.tree.size=k
 | [],_,_,h=>by simp at h
 |p::l,h,q,hm=>by
  simp only[zJl,J2,beq_iff_eq]at h;rcases Jp.1 hm with rfl|hm
  ·exact h.1
  ·exact zJm l h.2 q hm
theorem zB6{α:Type}{t e:TypeId}{ti:TypeInfo}{k n:Nat}{u:T}{pa:Array (Nat×Operand)}(ht:ElT P t e ti k u)(xs:List Operand)(pp:List yI)(ys:List α)(f:α→T)(hx:vN E xs pp)(gG:zAQ E pp)
  (sd:(J4 d Γ.N&&zAP (d::xD pp)&&zJl k pp&&J4 0 n&&Qx (n*k) 65536)=uf)(hn:xs.length=n)(eZ:pa=((xs.zipIdx 0).map fun x=>(x.2,x.1)).toArray:=by rfl)(hy:pp.map yI.tree=ys.map f:=by rfl):
  Ok P Γ ⟨ud d,.buildSlice t n pa,ty,ps,af,gd⟩ E (E.app ((d,ud (L k f ys))::pWr d pp 0) ((d,0)::tI pp)):=by
 obtain⟨z,hz,_⟩:=ht.zero;simp only[J2]at sd;subst eZ;intro S;have fK:n*k≤65536:=by simpa[Nat.ble_eq]using sd.2
 have:=zG9 (P:=P) (Γ:=Γ.at S) (E:=E) (o:=⟨ud d,.buildSlice t n ((xs.zipIdx 0).map fun x=>(x.2,x.1)).toArray,ty,ps,af,gd⟩) t e ti z k n xs pp rfl rfl (zX sd.1.1.1.1) ht.un ht.info hz ht.size ht.pos hn (zX sd.1.2) (by omega) hx (gG.parts sd.1.1.1.2) (zJm pp sd.1.1.2);rw[hy]at this;exact this
theorem zJn{α:Type}{f g:α→T}(h:∀y,roT (g y)=f y):(ys:List α)→roT.roTs (ys.map g)=ys.map f
 | []=>rfl
 |y::ys=>by simp only[Jn,roT.roTs,h y,zJn h ys]
theorem zId{α:Type}{t e:TypeId}{ti:TypeInfo}{k r:Nat}{q:List Nat}{u:T}{f g:α→T}{xs ys zs:List α}{s0:Nat}(ht:ElT P t e ti k u)(tm:∀y,roT (g y)=f y)(gw:∀y,(g y).size=k)(hg:Enc g)(hv:xM xs ys=ud zs)(h0:E s0=ud (L k f xs))(h1:uS E y=ud (r,q,.ro (L k g ys)))(sd:(J4 d Γ.N&&(s0 != d))=uf):
  Ok P Γ ⟨ud d,.call { callee:=.builtin .append,args:=#[.tmp s0,y],argTypes:=#[t,t] },ty,ps,af,gd⟩ E (E.app [(d,ud (L k f zs)),(s0,ud .any)] [(d,0),(s0,1)]):=by
 obtain⟨rfl,hl⟩:=zEa hv;obtain⟨z,hz,fh⟩:=ht.zsize;simp only[J2]at sd;intro S;have:=zHU (P:=P) (Γ:=Γ.at S) (E:=E) (o:=⟨ud d,.call { callee:=.builtin .append,args:=#[.tmp s0,y],argTypes:=#[t,t] },ty,ps,af,gd⟩) t e ti z k s0 y r q (xs.map f) (ys.map g) rfl rfl (zX sd.1) ht.un ht.info hz ht.size ht.pos fh ht.bytes h0 h1 (zFB hg.rook ys)
  (by intro v hv;obtain⟨y,_,rfl⟩:=Je.1 hv;exact gw y) (by simpa using sd.2) (by simpa using hl)
 rw[zJn tm,←Ld]at this;exact this
def uE{α:Type}(xs:List α)(m:Int)(z:α):Option (List α):=if 0≤m∧xs.length+m.toNat≤68719476736 then ud (xs++J1 m.toNat z)else ue
theorem zTX{α:Type}{t t2 e:TypeId}{k2:IntKind}{ti:TypeInfo}{k:Nat}{u:T}{f:α→T}{z:α}{xs zs:List α}{s0:Nat}{m:Int}(ht:ElT P t e ti k u)(pZ:P.underlying t2=ud (.int k2))(hz:f z=u)(hv:uE xs m z=ud zs)(h0:E s0=ud (L k f xs))(h1:opT E y=ud (I m))(sd:(J4 d Γ.N&&(s0 != d))=uf):
  Ok P Γ ⟨ud d,.call { callee:=.builtin .append,args:=#[.tmp s0,y],argTypes:=#[t,t2] },ty,ps,af,gd⟩ E (E.app [(d,ud (L k f zs)),(s0,ud .any)] [(d,0),(s0,1)]):=by
 unfold uE at hv;split at hv
 ·rename_i hc
  simp at hv;subst hv;obtain⟨zv,pN,aG⟩:=ht.zero;simp only[J2]at sd;obtain⟨n,rfl⟩:∃n:Nat,m=n:=⟨m.toNat,by omega⟩;intro S;have:=zFx (P:=P) (Γ:=Γ.at S) (E:=E) (o:=⟨ud d,.call { callee:=.builtin .append,args:=#[.tmp s0,y],argTypes:=#[t,t2] },ty,ps,af,gd⟩) t t2 e k2 ti zv u k s0 y .i64 n (xs.map f) rfl rfl (zX sd.1) ht.un pZ ht.info pN ht.size ht.pos ht.bytes ht.zok aG ht.us h0 h1
   (by simpa using sd.2) (by simp at hc ⊢;omega)
  have e:xs.map f++J1 n u=(xs++J1 n z).map f:=by simp[hz]
  rw[e]at this;have h2:((n:Int)).toNat=n:=by simp
  rw[h2];exact this
 ·cases hv
end
section
variable {Γ:Ctx}{E:Env}
theorem zG.trq(d r:Nat)(q:List Nat){tr u tr':T}(hd:E d=ud (.same r q))(hr:E r=ud tr)(hg:tr.get q.reverse=ud u)(ef:zS u)(sd:(u.single&&xJ tr&&tr.okB [(d,1),(r,q.length+1)]&&(d != r))=uf)(gn:(if q=[]then .same d []else tr.set q.reverse .any)=tr':=by rfl):
  zG Γ E (E.app [(d,ud u),(r,ud tr')] [(d,1),(r,q.length+1)]):=by
 simp only[J2]at sd
 rintro a w ⟨S,hS,hs⟩
 have gj:d≠r:=by simpa using sd.2
 have:=zKH hs d [] r q (.same r q) tr u hd rfl hr hg sd.1.1.1 ef gj (by simp[T.okB,zCs,gj]) sd.1.2 rfl sd.1.1.2;subst gn;exact⟨S,hS,this⟩
theorem zG.trf(d:Nat)(g:List Nat)(r:Nat)(q:List Nat)(td tr:T){u td' tr':T}(hd:E d=ud td)(ph:td.get g.reverse=ud (.same r q))(hr:E r=ud tr)(hg:tr.get q.reverse=ud u)(gn:td.set g.reverse u=td')(ef:zS u)
  (sd:(u.single&&xJ td&&xJ tr&&td.okB [(d,g.length+1),(r,q.length+1)]&&tr.okB [(d,g.length+1),(r,q.length+1)]&&(d != r))=uf)(eu:(if q=[]then .same d g else tr.set q.reverse .any)=tr':=by rfl):
  zG Γ E (E.app [(d,ud td'),(r,ud tr')] [(d,g.length+1),(r,q.length+1)]):=by
 simp only[J2]at sd
 rintro a w ⟨S,hS,hs⟩
 have gj:d≠r:=by simpa using sd.2
 have:=zKH hs d g r q td tr u hd ph hr hg sd.1.1.1.1.1 ef gj sd.1.1.2 sd.1.2 sd.1.1.1.1.2 sd.1.1.1.2;subst gn eu;exact⟨S,hS,this⟩
theorem zG.frz{α:Type}(s:Nat){k:Nat}{f g:α→T}(xs:List α)(hs:E s=ud (L k f xs))(h:wW f g):zG Γ E (E.app [(s,ud (.ro (L k g xs)))] [(s,1)]):=by have:=zG.freeze (Γ:=Γ) s _ hs;simp only[wZ,strip,uY h.h xs]at this;exact this
theorem zG.res(d r:Nat)(q:List Nat)(tr:T){u:T}(hd:E d=ud (.same r q))(hr:E r=ud tr)(hg:tr.get q.reverse=ud (.ro u)):zG Γ E (E.app [(d,ud (.ro u))] []):=by
 rintro a w ⟨S,hS,gP,G,g9⟩
 refine⟨S,hS,gP,G,?_⟩;have hk:sE [] G w G w:=⟨fun _ _ _=>rfl,fun _ _ _=>rfl,fun _ _ _ _ _ _ h _=>⟨h,rfl⟩,fun _ _ _ h _=>h,fun b cs e h=>⟨cs,h,rfl⟩⟩;refine wR g9 rfl hk g9.mem (fun s _=>⟨fun n hn=>by simp at hn,rfl⟩) fun s t hs=>?_
 simp only[Wr.find]at hs;split at hs
 ·rename_i e;subst e
  simp at hs;subst hs;obtain⟨h1,h2,_⟩:=g9.ent d _ hd;obtain⟨_,h4,_⟩:=g9.ent r _ hr;simp only[R]at h2;have h5:=(kI q.reverse tr _ [] h4 hg).1;simp only[rp,Kf,Jf,R]at h5;exact⟨by rw[h1];rfl,by simp only[R];rw[h2];exact h5,by simp[Top]⟩
 ·cases hs
end
theorem zIe:(p:List Nat)→ ∀(t u0 a:T),t.get p=ud u0→(t.set p a).get p=ud a
 | [],t,_,a,_=>by cases t<;>cases a<;>rfl
 |i::p,t,u0,a,h=>by
  cases t with
  |sl k xs|agg xs|tup xs=>
   simp only[T.get,T.set]at h ⊢
   cases hx:xs[i]? with
   |none=>rw[hx]at h;cases h
   |some x=>
    rw[hx]at h;have hi:=(Jg.1 hx).1;simp only[];simp only[T.get,Jab hi];exact zIe p x u0 a h
  |ptr t=>
   simp only[T.get,T.set]at h ⊢
   split at h
   ·rename_i e;subst e;simp only[if_true,T.get];exact zIe p t u0 a h
   ·cases h
  |_=>simp[T.get]at h
theorem set_set:(p:List Nat)→ ∀(t u0 a b:T),t.get p=ud u0→(t.set p a).set p b=t.set p b
 | [],t,_,a,_,_=>by cases t<;>cases a<;>rfl
 |i::p,t,u0,a,b,h=>by
  cases t with
  |sl k xs|agg xs|tup xs=>
   simp only[T.get,T.set]at h ⊢
   cases hx:xs[i]? with
   |none=>rw[hx]at h;cases h
   |some x=>
    rw[hx]at h;have hi:=(Jg.1 hx).1;simp only[];simp only[T.set,Jab hi,List.set_set,set_set p x u0 a b h]
  |ptr t=>
   simp only[T.get,T.set]at h ⊢
   split at h
   ·rename_i e;subst e;simp only[if_true,T.set,set_set p t u0 a b h]
   ·cases h
  |_=>simp[T.get]at h
def kZ:T→Bool
 |.sl _ _|.ptr _=>uf
 |_=>ug
theorem zOV{t:T}(h:kZ t=uf)(p:List Nat){u:T}(hp:p≠[]):kZ (t.set p u)=uf:=by
 cases p with
 |nil=>exact absurd rfl hp
 |cons i p=>cases t<;>simp[kZ]at h<;>simp only[T.set]<;>split<;>rfl
theorem uC{t:T}(h:kZ t=uf)(chg:Chg):t.okB chg=uf∧xJ t=uf∧t.single=uf:=by cases t<;>simp[kZ]at h<;>simp[T.okB,xJ,T.single]
section
variable {P:Program}{Γ:Ctx}{E E':Env}{d:Nat}{ty:TypeId}{ps:String}{af:Array Edge}{gd:Option (Nat×Bool)}
theorem agM{E:Env}{rw:Rw}{i:Nat}{x:Operand}{u:T}(t:T)(h:opT E x=ud t)(h1:clo E t=u)(h2:zMn E (rw.map (·.2.1)) x t=uf):zBd E rw i x u:=.inr ⟨t,h,h1,h2⟩
theorem zEN{E:Env}{rw:Rw}{i s:Nat}{u u':T}(h:E s=ud u)(hc:zS u)(hr:wG u=uf)(hs:u.okTup=uf:=by rfl)(hm:(i,s,u')∈rw:=by exact List.mem_singleton.2 rfl):zBd E rw i (.tmp s) u:=.inl ⟨s,u',rfl,hm,h,hc,hs,hr⟩
abbrev vF(E:Env)(ds r:Nat)(q:List Nat)(tr u:T):Env:=E.app [(ds,ud u),(r,ud (if q=[]then .same ds []else tr.set q.reverse .any))] [(ds,1),(r,q.length+1)]
theorem zAi{f:FuncId}{xs:List Operand}{ats:Array TypeId}{us res:List T}{tr u u' tr':T}(i ds r:Nat)(q:List Nat)(gr:zAr P f)(hc:FnC P f us res [(i,u')])(hs:E ds=ud (.same r q))(hr:E r=ud tr)(hq:tr.get q.reverse=ud u)
  (ef:zS u)(el:zS u')(_:wG u=uf)(p7:wG u'=uf)(gc:xN (vF E ds r q tr u) [(i,ds,u')] 0 xs us)(gk:jN res)(gn:tr.set q.reverse u'=tr')
  (sd:(J4 d Γ.N&&(d != ds)&&(d != r)&&(ds != r)&&kZ u&&kZ u'&&kZ tr)=uf)(hx:xs[i]? =ud (.tmp ds))(hu:us[i]? =ud u):
  Ok P Γ ⟨ud d,.call { callee:=.value (.func f),args:=xs.toArray,argTypes:=ats },ty,ps,af,gd⟩ E ((((vF E ds r q tr u).app (cWr d res [(i,ds,u')]) (vJ d [(i,ds,u')]))).app [(r,ud tr'),(ds,ud (.same r q))] [(r,q.length+1),(ds,1)]):=by
 simp only[J2]at sd;obtain⟨⟨⟨⟨⟨⟨s1,s2⟩,s3⟩,s4⟩,s5⟩,s6⟩,s7⟩:=sd;have d1:d≠ds:=by simpa using s2
 have d2:d≠r:=by simpa using s3
 have d3:ds≠r:=by simpa using s4
 obtain⟨u1,u2,u3⟩:=uC s5 [];obtain⟨v1,v2,v3⟩:=uC s6 [];have mB:cLv u'=1:=by simp[cLv,v3]
 subst gn;intro S
 by_cases bc:q=[]
 ·subst bc
  have htu:tr=u:=by
   have:tr.get []=ud tr:=by cases tr<;>rfl
   simp only[Hw]at hq;rw[this]at hq;exact U4.inj hq
  subst htu;have pA:∀a b:T,a.set [] b=b:=fun a b=>by cases a<;>rfl
  have mQ:(vF E ds r [] tr tr) ds=ud tr:=by simp[vF,Env.app,Wr.find]
  have cL:((vF E ds r [] tr tr).app (cWr d res [(i,ds,u')]) (vJ d [(i,ds,u')])) r=ud (.same ds []):=by
   have h1:(vF E ds r [] tr tr) r=ud (.same ds []):=by simp[vF,Env.app,Wr.find,d3]
   have h2:(cWr d res [(i,ds,u')]).find r=ue:=by simp[cWr,Wr.find,d2,d3]
   have h3:(T.same ds []).okB (vJ d [(i,ds,u')])=uf:=by simp[T.okB,zCs,vJ,d1,mB]
   simp only[Env.app,h2,h1,h3,if_true]
  have cM:((vF E ds r [] tr tr).app (cWr d res [(i,ds,u')]) (vJ d [(i,ds,u')])) ds=ud u':=by simp[Env.app,Wr.find,cWr,d1]
  have:=zJe (P:=P) (Γ:=Γ.at S) (E:=E) (o:=⟨ud d,.call { callee:=.value (.func f),args:=xs.toArray,argTypes:=ats },ty,ps,af,gd⟩) f (.func f) xs ats us res i ds r [] tr tr u' rfl rfl (zX s1) gr rfl hs hr hq u3 ef d3 d2 (uC s7 _).1 (uC s7 []).2.1
   (vF E ds r [] tr tr) _ rfl rfl hc gc (.one d1 hx el v3 p7 mQ u3 hu) gk (.same ds []) (.same ds []) cL rfl rfl cM el v3 (by simp[T.okB,zCs]) rfl (uC s6 _).1 v2
  rw[Hw,pA]at this ⊢
  exact this
 ·have dh:q.reverse≠[]:=by simpa using bc
  have mQ:(vF E ds r q tr u) ds=ud u:=by simp[vF,Env.app,Wr.find]
  have u4:=zOV s7 q.reverse (u:=.any) dh;have cL:((vF E ds r q tr u).app (cWr d res [(i,ds,u')]) (vJ d [(i,ds,u')])) r=ud (tr.set q.reverse .any):=by
   have h1:(vF E ds r q tr u) r=ud (tr.set q.reverse .any):=by simp[vF,Env.app,Wr.find,d3,bc]
   have h2:(cWr d res [(i,ds,u')]).find r=ue:=by simp[cWr,Wr.find,d2,d3]
   simp[Env.app,h2,h1,(uC u4 _).1]
  have cM:((vF E ds r q tr u).app (cWr d res [(i,ds,u')]) (vJ d [(i,ds,u')])) ds=ud u':=by simp[Env.app,Wr.find,cWr,d1]
  have:=zJe (P:=P) (Γ:=Γ.at S) (E:=E) (o:=⟨ud d,.call { callee:=.value (.func f),args:=xs.toArray,argTypes:=ats },ty,ps,af,gd⟩) f (.func f) xs ats us res i ds r q tr u u' rfl rfl (zX s1) gr rfl hs hr hq u3 ef d3 d2 (uC s7 _).1 (uC s7 []).2.1
   (vF E ds r q tr u) _ rfl rfl hc gc (.one d1 hx el v3 p7 mQ u3 hu) gk (tr.set q.reverse .any) .any cL (zIe _ _ _ _ hq) rfl cM el v3 (uC u4 _).1 (uC u4 []).2.1 (uC s6 _).1 v2
  rw[set_set _ _ _ _ _ hq]at this;exact this
theorem zRX{f:FuncId}{xs:List Operand}{ats:Array TypeId}{us res:List T}{xf:Operand}(hf:opT E xf=ud (.lit (.func (.func f) #[] #[])))(gr:zAr P f)(hc:FnC P f us res [])(gc:xN E [] 0 xs us)(gk:jN res)(sd:J4 d Γ.N=uf):
  Ok P Γ ⟨ud d,.call { callee:=.value xf,args:=xs.toArray,argTypes:=ats },ty,ps,af,gd⟩ E (E.app (cWr d res []) (vJ d [])):=
 fun _=>zMo f xf xs ats us res [] rfl rfl (zX sd) gr hf hc gc .nil gk
def zB7(E:Env):List Operand→List T→Prop
 | [],[]=>True
 |x::xs,u::us=>(opT E x=ud u∧u.flat=uf)∧zB7 E xs us
 |_,_=>False
theorem afN:zB7 E [] []:=trivial
theorem afC{x:Operand}{xs:List Operand}{u:T}{us:List T}(h:opT E x=ud u)(h1:u.flat=uf)(h2:zB7 E xs us):zB7 E (x::xs) (u::us):=⟨⟨h,h1⟩,h2⟩
theorem zB7.get:(xs:List Operand)→(us:List T)→zB7 E xs us→ ∀(i:Nat) u,us[i]? =ud u→ ∃x,xs[i]? =ud x∧opT E x=ud u∧u.flat=uf
 | [],[],_,i,u,h=>by simp at h
 |x::xs,v::us,h,i,u,hi=>by
  cases i with
  |zero=>simp at hi;subst hi;exact⟨x,by simp,h.1⟩
  |succ i=>obtain⟨y,h1,h2⟩:=zB7.get xs us h.2 i u (by simpa using hi);exact⟨y,by simpa using h1,h2⟩
 | [],_::_,h,_,_,_=>by simp[zB7]at h
 |_::_,[],h,_,_,_=>by simp[zB7]at h
theorem uD{f:FuncId}{xs:List Operand}{ats:Array TypeId}{us res:List T}(gr:zAr P f)(hc:FnC P f us res [])(ha:zB7 E xs us)(gg:xs.length=us.length)(gk:yP res)(gY:yG res=uf)(sd:J4 d Γ.N=uf):
  Ok P Γ ⟨ud d,.call { callee:=.value (.func f),args:=xs.toArray,argTypes:=ats },ty,ps,af,gd⟩ E (E.app (cWr d res []) (vJ d [])):=
 zRU gr hc gg (zB7.get _ _ ha) ⟨gk,gY⟩ sd
end
noncomputable def zB8 {α:Type} (g:Nat→Option α):Option α:=
 open Classical in if h:∃r,∃n,∀m,n≤m→g m=ud r then ud h.choose else ue
theorem sH{α:Type}{g:Nat→Option α}{r:α}(h:zB8 g=ud r):∃n,g n=ud r:=by
 unfold zB8 at h;split at h
 ·rename_i he
  simp at h;obtain⟨n,hn⟩:=he.choose_spec;exact⟨n,by rw[←h];exact hn n (Jh _)⟩
 ·cases h
theorem kP{α:Type}{g:Nat→Option α}{r:α}(n:Nat)(h:∀m,n≤m→g m=ud r):zB8 g=ud r:=by have he:∃r,∃n,∀m,n≤m→g m=ud r:=⟨r,n,h⟩;unfold zB8;rw[dif_pos he];obtain⟨n',hn'⟩:=he.choose_spec;have h1:=h (max n n') (by omega);have h2:=hn' (max n n') (by omega);rw[h1]at h2;exact h2.symm
end Go.Ab

namespace Go.Ab
open Go
section
variable {P:Program}{Γ:Ctx}{ops:Array Oper}{o:Oper}{E:Env}
theorem zQ.skipW{d:Nat}(hd:o.dst=ud d)(sd:J4 d Γ.N=uf)(hw:∀(a:Act)(w:World),qD Γ E a w→Region.wanted o (yielded ops a.tmps)=ug):zQ P Γ ops o E (E.app [(d,ud (.tup []))] [(d,0)]):=by
 intro a w K Q hs hK;rw[if_neg (by grind)];obtain⟨S,hS,gP,G,g9⟩:=hs;refine hK _ _ ⟨S,hS,by rw[hd];exact gP,G.put d (fun _=>.bool ug),?_⟩ ?_
 ·rw[hd]
  have hu:(Value.bool ug).oneCell'=uf:=rfl;refine wR g9 (by simp[Act.put]) (G.put_keep rfl d _) (g9.mem.put rfl d _ fun _=>hu) ?_ ?_
  ·grind[uR,Act.put]
  ·intro s t' hs
   rw[uR]at hs;split at hs
   ·rename_i e;subst e
    simp at hs;subst hs;have gw:=g9.size;have gT:=zX sd;refine⟨?_,by simp[R,RF],by simp[Top,vK]⟩
    grind[Act.put,mkV,qX,undef]
   ·cases hs
 grind[Act.put]
theorem zQ.skip2{d:Nat}(g:Nat)(b b':Bool)(s:Nat)(hd:o.dst=ud d)(sd:J4 d Γ.N=uf)(fL:(b==b')=ug)(hg:o.guard=ud (g,b))(gp:(ops[g]?).bind (·.dst)=ud s)(hb:E s=ud (.lit (.bool b'))):
  zQ P Γ ops o E (E.app [(d,ud (.tup []))] [(d,0)]):=.skipW hd sd fun a w hs=>by
 simp only[Region.wanted,hg,zF3 hs gp hb]
 grind
theorem zQ.skip3{d:Nat}(g:Nat)(b:Bool)(s:Nat)(hd:o.dst=ud d)(sd:J4 d Γ.N=uf)(hg:o.guard=ud (g,b))(gp:(ops[g]?).bind (·.dst)=ud s)(hb:E s=ud (.tup [])):
  zQ P Γ ops o E (E.app [(d,ud (.tup []))] [(d,0)]):=.skipW hd sd fun a w hs=>by
 obtain⟨_,_,_,G,hr⟩:=hs;obtain⟨h1,_,_⟩:=hr.ent s _ hb
 grind[Region.wanted,yielded,mkV]
theorem zQ.opE{E1 E':Env}(h:Ok P Γ o E E1)(e:E1=E')(hg:o.guard=ue:=by rfl):zQ P Γ ops o E E':=e▸zQ.op h hg
theorem zQ.guardE{E1 E':Env}(g:Nat)(b:Bool)(s:Nat)(h:Ok P Γ o E E1)(hg:o.guard=ud (g,b))(gp:(ops[g]?).bind (·.dst)=ud s)(hb:E s=ud (.lit (.bool b)))(e:E1=E'):zQ P Γ ops o E E':=e▸zQ.guard g b s h hg gp hb
end
def uB(Γ:Ctx)(P:Program)(rs:Array ResultVar)(us res:List T)(rws:List (Nat×T)):Exit→Env→Prop:=fun e E=> ∃E',zG Γ E E'∧zVi P rs us res rws e E'
theorem FnC.of_bodyG{P:Program}{f:FuncId}{fn:Func}{c:Code}{us res:List T}{rws:List (Nat×T)}(hf:P.funcs[f]? =ud fn)(hb:fn.body=ud c)(hn:us.length≤fn.ntmps)(ht:vK us)(hr:rws.all (fun x=>decide (x.1<us.length))=uf)
  (h:∀(Γ:Ctx)(v:Nat→Value),Γ.N=fn.ntmps→CW P Γ (zB1 v (rws.map (·.1))) c (xR (zGA 0 us)) (uB Γ P fn.results us res rws)):FnC P f us res rws:=by
 refine FnC.of_body hf hb hn ht hr fun Γ v hN=>?_
 intro a w Q' hs hp hQ;refine h Γ v hN a w Q' hs hp ?_
 rintro e E a' w' ⟨E',hg,hq⟩ gH fX
 exact hQ e E' a' w' hq (hg a' w' gH) fX
def zRY(t:T):Prop:=zS t∧wG t=uf∧strip t=t∧t.okTup=uf∧zDS t=uf
def zOW:List T→Prop
 | []=>True
 |x::xs=>zRY x∧zOW xs
theorem Enc.t{α:Type}{f:α→T}(h:Enc f)(x:α):zRY (f x):=⟨h.clean x,h.rofree x,h.strip x,h.okTup x,h.rook x⟩
theorem Enc.of{α:Type}{f:α→T}(h:∀x,zRY (f x)):Enc f:=⟨fun x=>(h x).1,fun x=>(h x).2.1,fun x=>(h x).2.2.1,fun x=>(h x).2.2.2.1,fun x=>(h x).2.2.2.2⟩
theorem zNo{xs:List T}(h:zOW xs):zRY (.agg xs):=by
 have key:∀xs:List T,zOW xs→yP xs∧vO xs=uf∧wC xs=xs∧yG xs=uf∧zA4 xs=uf:=by
  intro xs
  induction xs with
  |nil=>intro _;exact⟨trivial,rfl,rfl,rfl,rfl⟩
  |cons x xs ih=>
   rintro⟨⟨h1,h2,h3,h4,h5⟩,h⟩
   obtain⟨g1,g2,g3,g4,g5⟩:=ih h;exact⟨⟨h1,g1⟩,by grind[vO],by grind[wC],by grind[yG],by grind[zA4]⟩
 obtain⟨g1,g2,g3,g4,g5⟩:=key xs h;exact⟨yX g1,by grind[wG],by grind[strip],by grind[T.okTup],by grind[zDS]⟩
end Go.Ab

namespace Go.Ab
open Go
section
variable {Γ:Ctx}{E:Env}{d:Nat}
def Gh.cut(G:Gh)(d s0 b lo hi:Nat)(v:Value):Gh where
 hd s z:=if s=d then(if z=[]then v else G.hd s0 z)else G.hd s z
 ad s z:=if s=d then G.ad s0 z else G.ad s z
 lb b' o:=if b'=b∧lo≤o∧o<hi then ud (uf,d,[])else match G.lb b' o with
  |some (f,s,z)=>if s=s0 then ud (f,d,z)else ud (f,s,z)
  |none=>ue
 ow b':=match G.ow b' with
  |some (s,z)=>if s=s0 then ud (d,z)else ud (s,z)
  |none=>ue
theorem zMt{G:Gh}{tmps:Array Value}{w:World}(g9:Rep Γ E G tmps w)(hd:d<Γ.N){s0 k h cap':Nat}{xs:List T}(gZ:E s0=ud (.sl k xs))(gj:s0≠d)(hk:0<k)
  {b o0 cap:Nat}{cs:Array Value}{e:TypeId}(h1:G.hd s0 []=.slice (ud ⟨b,o0,ue⟩) xs.length cap)(h2:w.heap[b]? =ud (.cells cs e (0,0)))(_h3:xs.length≤cap)(h4:cap≤maxLen)(h5:o0+cap*k≤cs.size)(h6:G.ow b=ud (s0,[]))
  (h7:∀o,o0+xs.length*k≤o→o<o0+cap*k→G.lb b o=ud (uf,s0,[]))(h8:RL Γ.St G w s0 xs [] 0 b o0 k)(hh:h≤xs.length)(hc:h≤cap')(fb:cap'≤cap):
  ∃G',Rep Γ (E.app [(d,ud (.sl k (xs.take h))),(s0,ud .any)] [(d,0),(s0,1)]) G' (tmps.setIfInBounds d (.slice (ud ⟨b,o0,ue⟩) h cap')) w:=by
 have hm:=g9.mem;obtain⟨e1,_,e3⟩:=g9.ent s0 _ gZ
 let v:Value:=.slice (ud ⟨b,o0,ue⟩) h cap'
 let G':=G.cut d s0 b (o0+h*k) (o0+cap'*k) v
 have gE:=hm.ow b _ h6;have pK:∀o f z i,o0+h*k≤o→o<o0+cap'*k→G.lb b o=ud (f,s0,z++[i])→h≤i:=by
  intro o f z i fY fI hl;obtain⟨o,rfl⟩:∃o',o=o0+o':=⟨o-o0,by have:o0≤o0+h*k:=Nat.le_add_right _ _;omega⟩
  replace fY:h*k≤o:=by omega
  by_cases ho:o<xs.length*k
  ·have hj:o/k<xs.length:=(Nat.div_lt_iff_lt_mul hk).2 ho
   obtain⟨g1,g2,_⟩:=tS xs [] 0 b o0 k (o/k) xs[o/k] h8 (by simp[hj]);obtain⟨y,hy⟩:=zHO xs[o/k] _ b _ (o%k) g1 (by rw[g2];exact Nat.mod_lt _ hk);rw[J6,H0,Nat.mul_comm,Nat.div_add_mod,hl]at hy;simp only[U4.injEq,Qh.injEq]at hy;have:=hy.2.2;have hi:i=o/k:=by have:=congrArg List.getLast? this;simpa using this
   rw[hi];exact(Nat.le_div_iff_mul_le hk).2 fY
  ·have:=h7 (o0+o) (by omega) (by have:=Lh k fb;omega)
   rw[hl]at this;simp at this
 have glb:∀b' o f z,G.lb b' o=ud (f,s0,z)→ ¬(b'=b∧o0+h*k≤o∧o<o0+cap'*k)→G'.lb b' o=ud (f,d,z):=fun b' o f z hl hn=>by show(if _ then _ else _)=_;rw[if_neg hn];simp[hl]
 have gow:∀b' z,G.ow b'=ud (s0,z)→G'.ow b'=ud (d,z):=fun b' z hl=>by simp[G',Gh.cut,hl]
 have mv:∀i,i<h→zFg G w G' w s0 [i] d [i]:=fun i hi=>by
  have hn:∀b' o f z,G.lb b' o=ud (f,s0,z++[i])→ ¬(b'=b∧o0+h*k≤o∧o<o0+cap'*k):=by
   rintro b' o f z hl ⟨rfl,fY,fI⟩
   have:=pK o f z i fY fI hl;omega
  refine⟨⟨fun z=>by simp[G',Gh.cut],fun z _=>by simp[G',Gh.cut],fun b' o f z _ _ hl=>⟨glb _ _ _ _ hl (hn _ _ _ _ hl),rfl⟩,fun b' z _ hl=>gow _ _ hl,fun b' cs' e' hb=>⟨cs',hb,rfl⟩⟩,fun b' o _ hl=>⟨glb _ _ _ _ hl (hn b' o uf [] (by simpa using hl)),rfl⟩,fun b' hl=>gow _ _ hl⟩
 have gv:sE [(d,0),(s0,1)] G w G' w:=by
  refine⟨fun s p ho=>?_,fun s p ho=>?_,fun b' o f s p gS hl hs=>?_,fun b' s p hl hs=>?_,fun b' cs' e' hb=>⟨cs',hb,rfl⟩⟩
  ·have:s≠d:=fun e=>absurd (ho 0 (by simp[e])) (by simp)
   simp[G',Gh.cut,this]
  ·have:s≠d:=fun e=>absurd (ho 0 (by simp[e])) (by simp)
   simp[G',Gh.cut,this]
  ·have eg:s≠s0:=fun e=>hs 1 (by simp[e])
   obtain⟨y,hy⟩:=gS;have fL:b'≠b:=by
    rintro rfl
    rw[h6]at hy;simp at hy;exact eg hy.1.symm
   refine⟨?_,rfl⟩;show(if _ then _ else _)=_;rw[if_neg (fun hn=>fL hn.1)];simp[hl,eg]
  ·have eg:s≠s0:=fun e=>hs 1 (by simp[e])
   simp[G',Gh.cut,hl,eg]
 have gx:Mem Γ G' w:=by
  refine⟨fun s z=>?_,fun b' o l hl=>?_,fun b' l hl=>?_,hm.st,hm.fr,hm.sz,hm.bk⟩
  ·show(if _ then _ else _:Value).oneCell'=uf
   split
   ·split
    ·rfl
    ·exact hm.one _ _
   ·exact hm.one _ _
  ·change(if _ then _ else _)=_ at hl
   split at hl
   ·rename_i hn;rw[hn.1];exact gE
   ·cases hg:G.lb b' o with
    |none=>simp[hg]at hl
    |some x=>exact hm.lb b' o x hg
  ·cases hg:G.ow b' with
   |none=>simp[G',Gh.cut,hg]at hl
   |some x=>exact hm.ow b' x hg
 refine⟨G',wR g9 (by simp) gv gx ?_ ?_⟩
 ·intro s hs
  have f7:s≠d:=by rintro rfl;simp[Wr.find]at hs
  have f8:s≠s0:=by rintro rfl;simp[Wr.find,gj.symm]at hs
  exact⟨fun n hn=>by simp at hn;rcases hn with h|h;exact f7 h.1;exact f8 h.1,by rw[J8];simp[f7.symm]⟩
 ·intro s t' hs
  by_cases eg:s=d
  ·subst eg
   simp[Wr.find]at hs;subst hs;have gg:(xs.take h).length=h:=by simp;omega
   simp only[Top]at e3;have dD:∀ys:List T,yP ys→ ∀n,yP (ys.take n):=by
    intro ys
    induction ys with
    |nil=>intro _ n;simp[yP,xG]
    |cons y ys ih=>intro hy n;cases n with
     |zero=>simp[yP,xG]
     |succ n=>exact⟨hy.1,ih hy.2 n⟩
   refine⟨?_,?_,by simp only[Top];exact dD xs e3 h⟩
   ·rw[J8]
    simp[g9.size,hd,mkV,G',Gh.cut,v]
   ·simp only[R]
    refine .inr ⟨b,o0,cap',cs,e,by rw[gg];simp[G',Gh.cut,v],h2,by omega,by omega,by have:=Lh k fb;omega,gow b _ h6,fun o fY fI=>?_,?_⟩
    ·rw[gg]at fY
     show(if _ then _ else _)=_;rw[if_pos ⟨rfl,fY,fI⟩]
    ·refine zCF _ [] 0 b o0 fun i x hx=>?_
     rw[Lm]at hx;split at hx
     ·rename_i hi
      obtain⟨g1,g2,g3⟩:=tS xs [] 0 b o0 k i x h8 hx;rw[J6]at g1 g3 ⊢
      refine⟨?_,g2,qP (mv i hi) x (yM.mono (fun _ _=>False.elim) _ (vH xs e3 i x hx)) g3⟩;refine zDl x [i] [i] b _ (fun z=>by simp[G',Gh.cut]) (fun z=>by simp[G',Gh.cut]) (fun b' o z hl=>⟨glb _ _ _ _ hl ?_,rfl⟩) g1
      rintro⟨rfl,fY,fI⟩
      have:=pK o ug z i fY fI hl;omega
     ·cases hx
  ·have h9:s=s0∧t'=.any:=by
    simp only[Wr.find]at hs;rw[if_neg (fun h=>eg h.symm)]at hs;split at hs
    ·rename_i h;simp at hs;exact⟨h.symm,hs.symm⟩
    ·cases hs
   obtain⟨rfl,rfl⟩:=h9;refine⟨?_,by simp only[R],by simp[Top]⟩;rw[J8];simp only[Ne.symm eg,if_false,mkV];rw[e1,yU rfl];simp[G',Gh.cut,eg]
theorem zJo{G:Gh}{tmps:Array Value}{w:World}(g9:Rep Γ E G tmps w)(hd:d<Γ.N){s0 k:Nat}(gZ:E s0=ud (.sl k []))(gj:s0≠d)(a:Option Addr):
  ∃G',Rep Γ (E.app [(d,ud (.sl k [])),(s0,ud .any)] [(d,0),(s0,1)]) G' (tmps.setIfInBounds d (.slice a 0 0)) w:=by
 obtain⟨e1,_,_⟩:=g9.ent s0 _ gZ;refine⟨G.put d (fun _=>.slice a 0 0),?_⟩;have hk:sE [(d,0),(s0,1)] G w (G.put d fun _=>.slice a 0 0) w:=by have h0:=G.put_keep (w:=w) (w':=w) rfl d (fun _=>.slice a 0 0);refine⟨fun s p ho=>h0.hd s p (fun n hn=>ho n (by simp at hn ⊢;exact .inl hn)),fun s p ho=>h0.ad s p (fun n hn=>ho n (by simp at hn ⊢;exact .inl hn)),fun b o f s p h1 h2 h3=>h0.lb b o f s p h1 h2 (fun n hn=>h3 n (by simp at hn ⊢;exact .inl hn)),fun b s p h1 h3=>h0.ow b s p h1 (fun n hn=>h3 n (by simp at hn ⊢;exact .inl hn)),h0.blk⟩
 refine wR g9 (by simp) hk (g9.mem.put rfl d _ (fun _=>rfl)) ?_ ?_
 ·intro s hs
  have f7:s≠d:=by rintro rfl;simp[Wr.find]at hs
  have f8:s≠s0:=by rintro rfl;simp[Wr.find,gj.symm]at hs
  exact⟨fun n hn=>by simp at hn;rcases hn with h|h;exact f7 h.1;exact f8 h.1,by rw[J8];simp[f7.symm]⟩
 ·intro s t' hs
  by_cases eg:s=d
  ·subst eg
   simp[Wr.find]at hs;subst hs;refine⟨by rw[J8];simp[g9.size,hd,mkV,Gh.put],by simp only[R];exact .inl ⟨trivial,a,by simp[Gh.put]⟩,by simp[Top,yP,xG]⟩
  ·have h9:s=s0∧t'=.any:=by
    simp only[Wr.find]at hs;rw[if_neg (fun h=>eg h.symm)]at hs;split at hs
    ·rename_i h;simp at hs;exact⟨h.symm,hs.symm⟩
    ·cases hs
   obtain⟨rfl,rfl⟩:=h9;refine⟨?_,by simp only[R],by simp[Top]⟩;rw[J8];simp only[Ne.symm eg,if_false,mkV];rw[e1,yU rfl];simp[Gh.put,eg]
end
section
variable {P:Program}{Γ:Ctx}{pn:qG}{E E':Env}{Q:Exit→Env→Prop}{d:Nat}{x y:Operand}{ty:TypeId}{ps:String}{af:Array Edge}{gd:Option (Nat×Bool)}
theorem zTw{α:Type}{t e:TypeId}{ti:TypeInfo}{s0 k:Nat}{f:α→T}{xs ys:List α}{mx:Option Operand}{h:Int}{u:T}(ht:ElT P t e ti k u)(hv:yB xs 0 h=ud ys)(h0:E s0=ud (L k f xs))(hy:opT E y=ud (I h))(hmx:mx=ue∨ ∃z,mx=ud z∧opT E z=ud (I h))(sd:(J4 d Γ.N&&(s0 != d))=uf):
  Ok P Γ ⟨ud d,.slice t (.tmp s0) ue (ud y) mx,ty,ps,af,gd⟩ E (E.app [(d,ud (L k f ys)),(s0,ud .any)] [(d,0),(s0,1)]):=by
 obtain⟨_,c8,fK,rfl⟩:=vU hv;simp only[J2]at sd;have gj:s0≠d:=by simpa using sd.2
 obtain⟨n,rfl⟩:∃n:Nat,h=n:=⟨h.toNat,by omega⟩;have hn:n≤xs.length:=by omega
 intro S;refine xT.value rfl fun a w G g9=>?_
 obtain⟨e1,e2,_⟩:=g9.ent s0 _ h0;have eO:=(xX g9 hy).1;have cS:a.eval (.tmp s0)=G.hd s0 []:=by rw[xQ e1,yU rfl]
 have cb:=ht.un;have gW:=ht.info;have gw:=ht.size;have cE:List.map f ((xs.drop (0:Int).toNat).take ((n:Int).toNat-(0:Int).toNat))=(xs.map f).take n:=by simp[Ua]
 rw[show L k f ((xs.drop (0:Int).toNat).take ((n:Int).toNat-(0:Int).toNat))=.sl k ((xs.map f).take n)by simp only[L,cE]];have e2':=e2;simp only[R]at e2;rcases e2 with⟨eG,ad,h1⟩|⟨b,o0,cap,cs,e',h1,h2,h3,h4,h5,h6,h7,h8⟩
 ·have gX:xs=[]:=by simpa using eG
  subst gX;simp at hn;subst hn;obtain⟨G',gm⟩:=zJo g9 (zX sd.1) (k:=k) (by rw[h0];rfl) gj ad;refine⟨_,w,?_,G',by simpa using gm⟩;rcases hmx with rfl|⟨z,rfl,hz⟩
  ·simp[execOp,Instr.sliceAt,Instr.slice,run_underlying cb,cS,h1,eO,sizeOf,typeInfo,gW,Instr.sliceBounds,Instr.sliceBound,asIntOf]
  ·have pN:=(xX g9 hz).1
   simp[execOp,Instr.sliceAt,Instr.slice,run_underlying cb,cS,h1,eO,pN,sizeOf,typeInfo,gW,Instr.sliceBounds,Instr.sliceBound,asIntOf]
 ·rw[Jj]at h1 h3
  have bh:n≤cap:=by omega
  have hcz:cap=0→n=0:=by omega
  rcases hmx with rfl|⟨z,rfl,hz⟩
  ·obtain⟨G',gm⟩:=zMt g9 (zX sd.1) h0 gj ht.pos (by rw[Jj];exact h1) h2 (by rw[Jj];exact h3) h4 h5 h6 h7 h8 (h:=n) (cap':=cap) (by simpa using hn) bh (Jh _)
   refine⟨_,w,?_,G',gm⟩;simp[execOp,Instr.sliceAt,Instr.slice,run_underlying cb,cS,h1,eO,sizeOf,typeInfo,gW,Instr.sliceBounds,Instr.sliceBound,asIntOf,bh,vM]
  ·have pN:=(xX g9 hz).1
   obtain⟨G',gm⟩:=zMt g9 (zX sd.1) h0 gj ht.pos (by rw[Jj];exact h1) h2 (by rw[Jj];exact h3) h4 h5 h6 h7 h8 (h:=n) (cap':=n) (by simpa using hn) (Jh _) bh;refine⟨_,w,?_,G',gm⟩;simp[execOp,Instr.sliceAt,Instr.slice,run_underlying cb,cS,h1,eO,pN,sizeOf,typeInfo,gW,Instr.sliceBounds,Instr.sliceBound,asIntOf,bh,vM]
end
end Go.Ab

namespace Go.Ab
open Go
section
variable {P:Program}{Γ:Ctx}{pn:qG}{E E':Env}{Q:Exit→Env→Prop}{d:Nat}{x y:Operand}{ty:TypeId}{ps:String}{af:Array Edge}{gd:Option (Nat×Bool)}{ops:Array Oper}{os:List Oper}
theorem zHf{P:Program}{w:World}{t e:TypeId}{a:Option Addr}{n c:Nat}(m:Nat)(h:P.underlying t=ud (.slice e)):(Op.equalIn (m+1) t (.slice a n c) (.slice ue 0 0)).run P w=.ok a.isNone w:=by simp only[Op.equalIn,Sem.run_bind,run_underlying h];cases a<;>rfl
theorem RW.isnil{α:Type}{xt yt e:TypeId}{r k:Nat}{q:List Nat}{f:α→T}{xs:List α}{u:T}(hu:P.underlying xt=ud (.slice e))(hx:uS E x=ud (r,q,u))(cP:u=.ro (L k f xs)∨u=L k f xs)(sd:J4 d Γ.N=uf)(hp:pn.ok (ud d)=uf)
  (h:∀b,(b=uf→xs=[])→RW P Γ pn ops os (E.app [(d,ud (B b))] [(d,0)]) Q):RW P Γ pn ops (⟨ud d,.binOp .eql xt x (.const (.slice ue 0 0)) yt,ty,ps,af,ue⟩::os) E Q:=by
 intro a w Q' hs eZ hQ;obtain⟨S,hS,gP,G,g9⟩:=id hs;have fe:u.single=uf:=by rcases cP with rfl|rfl<;>rfl
 obtain⟨h1,h2⟩:=sV g9 hx fe;obtain⟨ad,n,c,h3,h4⟩:∃ad n c,a.eval x=.slice ad n c∧(ad.isNone=uf→xs=[]):=by
  rcases cP with rfl|rfl
  ·obtain⟨ad,c,g1,_,_,g2⟩:=zBS h1
   refine⟨ad,_,c,by rw[h2,g1],fun hn=>?_⟩;apply Classical.byContradiction;intro gj;obtain⟨b,o',_,_,_,rfl,_⟩:=g2 (by simpa using gj);simp at hn
  ·simp only[R]at h1
   rcases h1 with⟨g1,ad,g2⟩|⟨b,_,cap,cs,e',g1,_⟩
   ·exact⟨ad,0,0,by rw[h2,g2],fun _=>by simpa using g1⟩
   ·exact⟨_,_,_,by rw[h2,g1],fun hn=>by simp at hn⟩
 have gy:(execOp a.eval ⟨ud d,.binOp .eql xt x (.const (.slice ue 0 0)) yt,ty,ps,af,ue⟩).run P w=.ok (.value (.bool ad.isNone)) w:=by have h5:(Op.equalIn 10000 xt (.slice ad n c) (.slice ue 0 0)).run P w=.ok ad.isNone w:=zHf 9999 hu;have h6:a.eval (.const (.slice ue 0 0))=.slice ue 0 0:=rfl;simp[execOp,h3,h6,eqGuard,binOp,zFE,h5]
 simp only[wpL,Region.wanted,if_true];refine .inl ?_;unfold Oper.wp;rw[gy,Oper.upon_value];have eV:=wP g9 rfl (zX sd) (fun _=>.bool ad.isNone) (fun _=>rfl) (B ad.isNone) (.bool ad.isNone) (by simp[mkV,Gh.put]) (by simp[R,Gh.put]) (by simp[Top]);refine h ad.isNone h4 _ w Q' ⟨S,hS,gP,_,eV⟩ ?_ hQ;refine eZ.frame hp fun s gH=>?_
 have:d≠s:=fun e=>gH (by rw[e])
 simp[Act.put,Array.getElem?_setIfInBounds_ne this]
theorem zJp{t e:TypeId}(hu:P.underlying t=ud (.slice e))(hx:opT E x=ud (.lit (.slice ue 0 0)))(sd:J4 d Γ.N=uf):Ok P Γ ⟨ud d,.call { callee:=.builtin .len,args:=#[x],argTypes:=#[t] },ty,ps,af,gd⟩ E (E.app [(d,ud (I 0))] [(d,0)]):=by
 intro S;refine kK (.int .i64 0) rfl rfl (zX sd) fun a w G g9=>?_
 have h1:=(xX g9 hx).1;simp[execOp,resolve,invoke,builtin,h1,Builtin.len_,run_underlying hu,goInt]
theorem zJq{t e:TypeId}(hu:P.underlying t=ud (.slice e))(hx:opT E x=ud (.lit (.slice ue 0 0)))(sd:J4 d Γ.N=uf):Ok P Γ ⟨ud d,.call { callee:=.builtin .cap,args:=#[x],argTypes:=#[t] },ty,ps,af,gd⟩ E (E.app [(d,ud (I 0))] [(d,0)]):=by
 intro S;refine kK (.int .i64 0) rfl rfl (zX sd) fun a w G g9=>?_
 have h1:=(xX g9 hx).1;simp[execOp,resolve,invoke,builtin,h1,Builtin.cap_,run_underlying hu,goInt]
theorem zRZ{t e:TypeId}{ti:TypeInfo}{u:T}{k:Nat}(ht:ElT P t e ti k u)(hx:opT E x=ud (.lit (.slice ue 0 0)))(hy:opT E y=ud (I 0))(sd:J4 d Γ.N=uf):Ok P Γ ⟨ud d,.slice t x ue (ud y) ue,ty,ps,af,gd⟩ E (E.app [(d,ud (.sl k []))] [(d,0)]):=by
 intro S;refine xT.value rfl fun a w G g9=>?_
 have h1:=(xX g9 hx).1;have h2:=(xX g9 hy).1;refine⟨.slice ue 0 0,w,?_,_,wP g9 rfl (zX sd) (fun _=>.slice ue 0 0) (fun _=>rfl) (.sl k []) (.slice ue 0 0) (by simp[mkV,Gh.put]) (by simp[R,Gh.put]) (by simp[Top,yP,xG])⟩;simp[execOp,Instr.sliceAt,Instr.slice,run_underlying ht.un,h1,h2,sizeOf,typeInfo,ht.info,Instr.sliceBounds,Instr.sliceBound,asIntOf]
theorem zG.nil(s k:Nat)(hs:E s=ud (.lit (.slice ue 0 0))):zG Γ E (E.app [(s,ud (.sl k []))] [(s,0)]):=by
 rintro a w ⟨S,hS,gP,G,g9⟩
 refine⟨S,hS,gP,G,?_⟩;have hk:sE [(s,0)] G w G w:=⟨fun _ _ _=>rfl,fun _ _ _=>rfl,fun _ _ _ _ _ _ h _=>⟨h,rfl⟩,fun _ _ _ h _=>h,fun b cs e h=>⟨cs,h,rfl⟩⟩;refine wR g9 rfl hk g9.mem (fun s' gH=>⟨fun n hn=>?_,rfl⟩) fun s' t gH=>?_
 ·simp at hn
  simp[Wr.find,hn.1]at gH
 ·simp only[Wr.find]at gH
  split at gH
  ·rename_i e;subst e
   simp at gH;subst gH;obtain⟨h1,h2,_⟩:=g9.ent s _ hs;simp only[R]at h2;exact⟨by rw[h1];rfl,by simp only[R];exact .inl ⟨trivial,ue,h2⟩,by simp[Top,yP,xG]⟩
  ·cases gH
theorem zIf{src dst:TypeId}{ds:TypeDesc}{k k':IntKind}{n:Int}(hs:P.underlying src=ud ds)(ht:P.underlying dst=ud (.int k'))(hx:opT E x=ud (IK k n))(sd:J4 d Γ.N=uf):
  Ok P Γ ⟨ud d,.convert src dst x,ty,ps,af,gd⟩ E (E.app [(d,ud (IK k' (k'.wrap n)))] [(d,0)]):=fun _=>zRH src dst ds x k k' n rfl rfl (zX sd) hs ht hx
theorem zTY{k:IntKind}{m n:Int}{xt yt:TypeId}(hx:opT E x=ud (IK k m))(hy:opT E y=ud (IK k n))(sd:J4 d Γ.N=uf):Ok P Γ ⟨ud d,.binOp .add xt x y yt,ty,ps,af,gd⟩ E (E.app [(d,ud (IK k (k.wrap (m+n))))] [(d,0)]):=
 fun _=>tE .add xt yt x y k m n _ rfl rfl (zX sd) hx hy rfl
theorem zTZ{k:IntKind}{m n:Int}{xt yt:TypeId}(hx:opT E x=ud (IK k m))(hy:opT E y=ud (IK k n))(sd:J4 d Γ.N=uf):Ok P Γ ⟨ud d,.binOp .mul xt x y yt,ty,ps,af,gd⟩ E (E.app [(d,ud (IK k (k.wrap (m*n))))] [(d,0)]):=
 fun _=>tE .mul xt yt x y k m n _ rfl rfl (zX sd) hx hy rfl
theorem zOX{k:IntKind}{m n:Int}{xt yt:TypeId}(hx:opT E x=ud (IK k m))(hy:opT E y=ud (IK k n))(sd:J4 d Γ.N=uf):Ok P Γ ⟨ud d,.binOp .gtr xt x y yt,ty,ps,af,gd⟩ E (E.app [(d,ud (B (decide (m> n))))] [(d,0)]):=
 fun _=>tE .gtr xt yt x y k m n _ rfl rfl (zX sd) hx hy rfl
def zEO(k:IntKind)(m n:Int):Int:=k.wrap ((BitVec.ofInt k.bits m &&& BitVec.ofInt k.bits n).toNat:Int)
theorem zUa{k:IntKind}{m n:Int}{xt yt:TypeId}(hx:opT E x=ud (IK k m))(hy:opT E y=ud (IK k n))(sd:J4 d Γ.N=uf):Ok P Γ ⟨ud d,.binOp .and xt x y yt,ty,ps,af,gd⟩ E (E.app [(d,ud (IK k (zEO k m n)))] [(d,0)]):=by
 intro S;refine kK (.int k (zEO k m n)) rfl rfl (zX sd) fun a w G g9=>?_
 have h1:=(xX g9 hx).1;have h2:=(xX g9 hy).1;simp[execOp,h1,h2,eqGuard,binOp,Op.intBits,zEO]
theorem zUb{k k':IntKind}{m n:Int}{xt yt:TypeId}(hn:0≤n)(hx:opT E x=ud (IK k m))(hy:opT E y=ud (IK k' n))(sd:J4 d Γ.N=uf):Ok P Γ ⟨ud d,.binOp .shr xt x y yt,ty,ps,af,gd⟩ E (E.app [(d,ud (IK k (m.fdiv (2 ^ (min n.toNat k.bits)))))] [(d,0)]):=by
 intro S;refine kK (.int k (m.fdiv (2 ^ (min n.toNat k.bits)))) rfl rfl (zX sd) fun a w G g9=>?_
 have h1:=(xX g9 hx).1;have h2:=(xX g9 hy).1;have h3:¬n<0:=by omega
 simp[execOp,h1,h2,eqGuard,binOp,Op.shift,h3]
end
end Go.Ab

namespace Go.Ab
open Go
structure zOY (P:Program) (f:Field) (i:Nat):Prop where
 name:f.name≠ "_"
 off:f.offset=i
 ty:P.underlying f.type=ud (.int .i64)
class zSa (P:Program) (t:TypeId):Prop where
 h:∃f0 f1 f2 f3:Field,P.underlying t=ud (.struct #[f0,f1,f2,f3])∧zOY P f0 0∧zOY P f1 1∧zOY P f2 2∧zOY P f3 3
 st:P.stoodInHeld t=ug
 gd:P.eqGuardType P.depth t=ug
theorem zDt{P:Program}{w:World}{f:Field}{i:Nat}(h:zOY P f i)(cs:Array Value)(v:Value)(hv:cs[i]? =ud v):(part f.type cs f.offset).run P w=.ok v w:=by simp[part,sL h.ty,zDM,h.off,hv]
theorem zOZ{P:Program}{w:World}{t:TypeId}(h:zSa P t)(a b c d a' b' c' d':Int)(m:Nat):
  (Op.equalIn (m+2) t (.agg #[.int .i64 a,.int .i64 b,.int .i64 c,.int .i64 d]) (.agg #[.int .i64 a',.int .i64 b',.int .i64 c',.int .i64 d'])).run P w=.ok (a==a'&&(b==b'&&(c==c'&&d==d'))) w:=by
 obtain⟨f0,f1,f2,f3,h1,g0,g1,g2,g3⟩:=h.h;have k0:=fun(x y:Int)=>zEU (P:=P) (w:=w) (a:=x) (b:=y) m g0.ty
 have k1:=fun(x y:Int)=>zEU (P:=P) (w:=w) (a:=x) (b:=y) m g1.ty
 have k2:=fun(x y:Int)=>zEU (P:=P) (w:=w) (a:=x) (b:=y) m g2.ty
 have k3:=fun(x y:Int)=>zEU (P:=P) (w:=w) (a:=x) (b:=y) m g3.ty
 have gF:=h.st;rw[Op.equalIn];simp only[Sem.run_bind,run_underlying h1];have q0:=fun(a b c d:Int)=>zDt (w:=w) g0 #[.int .i64 a,.int .i64 b,.int .i64 c,.int .i64 d] (.int .i64 a) rfl
 have q1:=fun(a b c d:Int)=>zDt (w:=w) g1 #[.int .i64 a,.int .i64 b,.int .i64 c,.int .i64 d] (.int .i64 b) rfl
 have q2:=fun(a b c d:Int)=>zDt (w:=w) g2 #[.int .i64 a,.int .i64 b,.int .i64 c,.int .i64 d] (.int .i64 c) rfl
 have q3:=fun(a b c d:Int)=>zDt (w:=w) g3 #[.int .i64 a,.int .i64 b,.int .i64 c,.int .i64 d] (.int .i64 d) rfl
 by_cases e0:a=a'<;>by_cases e1:b=b'<;>by_cases e2:c=c'<;>by_cases e3:d=d'<;>
  simp[gF,g0.name,g1.name,g2.name,g3.name,q0,q1,q2,q3,k0,k1,k2,k3,e0,e1,e2,e3]
section
variable {P:Program}{Γ:Ctx}{E E':Env}{d:Nat}{x y:Operand}{ty:TypeId}{ps:String}{af:Array Edge}{gd:Option (Nat×Bool)}
theorem zUc{t t':TypeId}{s s':Nat}{a b c e a' b' c' e':Int}(h:zSa P t)(hx:E s=ud (.agg [I a,I b,I c,I e]))(hy:E s'=ud (.agg [I a',I b',I c',I e']))(sd:J4 d Γ.N=uf):
  Ok P Γ ⟨ud d,.binOp .eql t (.tmp s) (.tmp s') t',ty,ps,af,gd⟩ E (E.app [(d,ud (B (a==a'&&(b==b'&&(c==c'&&e==e')))))] [(d,0)]):=by
 intro S;refine kK _ rfl rfl (zX sd) fun A w G g9=>?_
 obtain⟨h1,h2,_⟩:=g9.ent s _ hx;obtain⟨h3,h4,_⟩:=g9.ent s' _ hy;simp only[R,RF]at h2 h4;have e1:A.eval (.tmp s)=.agg #[.int .i64 a,.int .i64 b,.int .i64 c,.int .i64 e]:=by rw[xQ h1];simp[mkV,zW,vals,h2]
 have e2:A.eval (.tmp s')=.agg #[.int .i64 a',.int .i64 b',.int .i64 c',.int .i64 e']:=by rw[xQ h3];simp[mkV,zW,vals,h4]
 have h5:(Op.equalIn 10000 t (.agg #[.int .i64 a,.int .i64 b,.int .i64 c,.int .i64 e]) (.agg #[.int .i64 a',.int .i64 b',.int .i64 c',.int .i64 e'])).run P w=_:=zOZ (w:=w) h a b c e a' b' c' e' 9998;have hg:=h.gd;simp[execOp,e1,e2,eqGuard,binOp,zFE,h5,hg]
end
end Go.Ab

namespace Go.Ab
open Go
abbrev vI(n:Int):Value:=.int .i64 n
section
variable {Γ:Ctx}{E:Env}
theorem zJr{G:Gh}{tmps:Array Value}{w w':World}(g9:Rep Γ E G tmps w){s0:Nat}{xs us:List Int}(gZ:E s0=ud (L 1 I xs))(gg:us.length=xs.length)
  {b o0 cap:Nat}{cs cs':Array Value}{e:TypeId}(h1:G.hd s0 []=.slice (ud ⟨b,o0,ue⟩) xs.length cap)(h2:w.heap[b]? =ud (.cells cs e (0,0)))(h3:xs.length≤cap)(h4:cap≤maxLen)(h5:o0+cap*1≤cs.size)(h6:G.ow b=ud (s0,[]))
  (h7:∀o,o0+xs.length*1≤o→o<o0+cap*1→G.lb b o=ud (uf,s0,[]))(h8:RL Γ.St G w s0 (xs.map I) [] 0 b o0 1)
  (k1:w'.heap[b]? =ud (.cells cs' e (0,0)))(k2:cs'.size=cs.size)(k3:∀b',b'≠b→w'.heap[b']? =w.heap[b']?)(k4:w'.heap.size=w.heap.size)(ko:w'.os=w.os)(kq:w'.output=w.output)(k5:∀(i:Nat) u,us[i]? =ud u→cs'[o0+i]? =ud (vI u)):
  ∃G',Rep Γ (E.app [(s0,ud (L 1 I us))] [(s0,1)]) G' tmps w':=by
 have hm:=g9.mem;obtain⟨e1,_,_⟩:=g9.ent s0 _ gZ;have gE:=hm.ow b _ h6
 let G':Gh:={ G with hd:=fun s z=>if s=s0 then(match z with
  | [i]=>(match us[i]? with
   |some u=>vI u
   |none=>G.hd s0 z)
  |_=>G.hd s0 z)else G.hd s z }
 have hB:Blk w w':=by
  intro b' cs2 e2 hb
  by_cases fL:b'=b
  ·subst fL
   rw[h2]at hb;simp at hb;obtain⟨rfl,rfl⟩:=hb;exact⟨cs',k1,k2⟩
  ·exact⟨cs2,by rw[k3 b' fL];exact hb,rfl⟩
 have gv:sE [(s0,1)] G w G' w':=by
  refine⟨fun s p ho=>?_,fun _ _ _=>rfl,fun b' o f s p gS hl hs=>⟨hl,?_⟩,fun _ _ _ hl _=>hl,hB⟩
  ·by_cases h:s=s0
   ·subst h
    have:p=[]:=Ju (by have:=ho 1 (by simp);omega);subst this;simp[G']
   ·simp[G',h]
  ·have eg:s≠s0:=fun e=>hs 1 (by simp[e])
   obtain⟨y,hy⟩:=gS;have fL:b'≠b:=by
    rintro rfl
    rw[h6]at hy;simp at hy;exact eg hy.1.symm
   simp[yE,World.cell?,k3 b' fL]
 have gx:Mem Γ G' w':=by
  refine⟨fun s z=>?_,fun b' o l hl=>?_,fun b' l hl=>?_,fun b' x hx=>?_,fun b' h h'=>?_,by rw[k4];exact hm.sz,hm.bk.trans hB ko kq⟩
  ·show(if _ then _ else _:Value).oneCell'=uf
   split
   ·split
    ·split
     ·rfl
     ·exact hm.one _ _
    ·exact hm.one _ _
   ·exact hm.one _ _
  ·have:=hm.lb b' o l hl;exact⟨by rw[k4];exact this.1,this.2⟩
  ·have:=hm.ow b' l hl;exact⟨by rw[k4];exact this.1,this.2⟩
  ·have:b'≠b:=by rintro rfl;rw[gE.2.2]at hx;cases hx
   rw[k3 b' this];exact hm.st b' x hx
  ·have:b'≠b:=by
    rintro rfl
    rcases gE.2.1 with h0|h0
    ·omega
    ·exact h' h0
   rw[k3 b' this];exact hm.fr b' h h'
 refine⟨G',wR g9 rfl gv gx ?_ ?_⟩
 ·intro s hs
  rw[uR]at hs;split at hs
  ·cases hs
  ·rename_i gj
   exact⟨fun n hn=>gj (by simp at hn;exact hn.1.symm),rfl⟩
 ·intro s t' hs
  rw[uR]at hs;split at hs
  ·rename_i he;subst he
   simp at hs;subst hs;refine⟨by rw[e1];simp[mkV,G'],?_,by simp only[Top];exact qI zMq us⟩;simp only[R];refine .inr ⟨b,o0,cap,cs',e,by simp[G',h1,gg],k1,by simp[gg];exact h3,h4,by omega,h6,fun o fY fI=>h7 o (by simpa[gg]using fY) fI,?_⟩;refine zCF _ [] 0 b o0 fun i x hx=>?_
   rw[Jo,Jz]at hx;obtain⟨u,hu,rfl⟩:=hx;have hi:=(Jg.1 hu).1;obtain⟨g1,g2,_⟩:=tS _ [] 0 b o0 1 i (I xs[i]) h8 (by simp[show i<xs.length by omega]);simp only[J6,Gt,Loc]at g1 ⊢
   refine⟨⟨g1.1,g1.2.1,?_⟩,rfl,by simp[R,G',hu]⟩;have:=k5 i u hu;simp[yE,World.cell?,k1,this,G',hu]
  ·cases hs
def zFF(P:Program)(Γ:Ctx)(E:Env)(y:Operand)(ys:List Int):Prop:=∀(a:Act)(w:World)(G:Gh),Rep Γ E G a.tmps w→ ∃xa c,a.eval y=.slice xa ys.length c∧
 ∀(n:Nat),n≤ys.length→(Builtin.firstCells 1 n (.slice xa ys.length c)).run P w=.ok ((ys.take n).map vI).toArray w
theorem zBe{P:Program}{w:World}{b o:Nat}{cs:Array Value}{e:TypeId}{fr:Nat×Nat}(hb:w.heap[b]? =ud (.cells cs e fr))(ys:List Int)(hv:∀(i:Nat) u,ys[i]? =ud u→cs[o+i]? =ud (vI u))(n:Nat)(hn:n≤ys.length)(len cap:Nat):
  (Builtin.firstCells 1 n (.slice (ud ⟨b,o,ue⟩) len cap)).run P w=.ok ((ys.take n).map vI).toArray w:=by
 refine run_firstCells_some (P:=P) w 1 n ⟨b,o,ue⟩ len cap _ (by simp;omega) fun j v hj=>?_
 rw[Jo,Jz]at hj;obtain⟨u,hu,rfl⟩:=hj;rw[Lm]at hu;split at hu
 ·rw[vM]
  have:=hv j u hu;simp[World.cell?,hb,this]
 ·cases hu
theorem zB9{P:Program}{w:World}{a:Option Addr}{c:Nat}:(Builtin.firstCells 1 0 (.slice a 0 c)).run P w=.ok #[] w:=by cases a<;>simp[Builtin.firstCells,loadCells,loadCellsFrom]
theorem zFF.ro{P:Program}{y:Operand}{ys:List Int}{r:Nat}{q:List Nat}(h:uS E y=ud (r,q,.ro (L 1 I ys))):zFF P Γ E y ys:=fun a w G g9=>by
 obtain⟨h1,h2⟩:=sV g9 h rfl;obtain⟨xa,c,g1,_,_,g2⟩:=zBS h1;rw[Jj]at g1;refine⟨xa,c,by rw[h2,g1],fun n hn=>?_⟩
 by_cases hy:ys=[]
 ·subst hy
  simp at hn;subst hn;simpa using zB9
 ·obtain⟨b,o,cs,e,fr,rfl,g3,g4⟩:=g2 (by simpa using hy)
  refine zBe (g9.mem.st b _ g3) ys (fun i u hu=>?_) n hn _ _;have:=zEQ _ cs o 1 i (I u) g4 (by simp[hu]);simp only[RoC,Gt]at this;exact this.1
theorem zMu{G:Gh}{w:World}{s b o0:Nat}{q:List Nat}{cs:Array Value}{e:TypeId}{xs:List Int}{St:Stb}(h2:w.heap[b]? =ud (.cells cs e (0,0)))(h8:RL St G w s (xs.map I) q 0 b o0 1)(i:Nat)(u:Int)(hu:xs[i]? =ud u):cs[o0+i]? =ud (vI u):=by obtain⟨g1,_,g3⟩:=tS _ q 0 b o0 1 i (I u) h8 (by simp[hu]);simp only[Loc,R,J6,Gt]at g1 g3;have:=g1.2.2;simp only[yE,World.cell?,h2]at this;simpa[g3]using this
theorem zFF.sub{P:Program}{s r:Nat}{q:List Nat}{tr:T}{xs ys:List Int}{l h:Int}(hs:E s=ud (.sub r q 1 l.toNat h.toNat))(hr:E r=ud tr)(hg:tr.get q.reverse=ud (L 1 I xs))(hv:yB xs l h=ud ys):zFF P Γ E (.tmp s) ys:=fun a w G g9=>by
 obtain⟨k1,k2,k3,rfl⟩:=vU hv;obtain⟨e1,e2,_⟩:=g9.ent s _ hs;obtain⟨_,e4,_⟩:=g9.ent r _ hr;simp only[R]at e2;have h5:=(kI q.reverse tr _ [] e4 hg).1;simp only[rp,Kf,Jf,R]at h5;have gg:((xs.drop l.toNat).take (h.toNat-l.toNat)).length=h.toNat-l.toNat:=by simp;omega
 rw[gg];have cS:a.eval (.tmp s)=G.hd s []:=by rw[xQ e1,yU rfl]
 rcases h5 with⟨g1,ad,g2⟩|⟨b,o0,cap,cs,e,g1,g2,g3,_,_,_,_,g8⟩
 ·have hy:xs=[]:=by simpa using g1
  subst hy;have hl0:l.toNat=0:=by simp at k3;omega
  have bn:h.toNat=0:=by simp at k3;omega
  refine⟨ad,0,by rw[cS,e2,g2,hl0,bn];simp[zAw],fun n hn=>?_⟩;simp[bn]at hn;subst hn;rw[hl0,bn];simpa using zB9
 ·rw[Jj]at g1 g3
  refine⟨if cap=l.toNat then ud ⟨b,o0,ue⟩else ud ⟨b,o0+l.toNat,ue⟩,cap-l.toNat,by rw[cS,e2,g1];simp only[zAw,Hc,vM,Gt],fun n hn=>?_⟩;split
  ·have:n=0:=by omega
   subst this;simp[Builtin.firstCells,loadCells,loadCellsFrom]
  ·refine zBe g2 _ (fun i u hu=>?_) n (by rw[gg];exact hn) _ _
   rw[Lm]at hu;split at hu
   ·rw[Ln]at hu
    rw[H0];exact zMu g2 g8 _ u hu
   ·cases hu
def zCy(Γ:Ctx)(E:Env)(x:Operand)(s0 lo hi:Nat):Prop:=∀(a:Act)(w:World)(G:Gh),Rep Γ E G a.tmps w→a.eval x=zAw (G.hd s0 []) 1 lo hi
theorem zCy.slot{s0:Nat}{xs:List Int}(h:E s0=ud (L 1 I xs)):zCy Γ E (.tmp s0) s0 0 xs.length:=fun a w G g9=>by obtain⟨e1,e2,_⟩:=g9.ent s0 _ h;obtain⟨ad,c,g⟩:=zHJ e2;rw[Jj]at g;rw[xQ e1,yU rfl,g];simp[zAw];intro;cases ad<;>simp[Addr.add]
theorem zCy.same{s s0:Nat}{xs:List Int}(hs:E s=ud (.same s0 []))(h:E s0=ud (L 1 I xs)):zCy Γ E (.tmp s) s0 0 xs.length:=fun a w G g9=>by obtain⟨e1,e2,_⟩:=g9.ent s _ hs;have:=zCy.slot h a w G g9;obtain⟨e3,_,_⟩:=g9.ent s0 _ h;simp only[R]at e2;rw[xQ e3,yU rfl]at this;rw[xQ e1,yU rfl,e2];exact this
theorem zCy.sub{s s0 lo hi:Nat}(hs:E s=ud (.sub s0 [] 1 lo hi)):zCy Γ E (.tmp s) s0 lo hi:=fun a w G g9=>by obtain⟨e1,e2,_⟩:=g9.ent s _ hs;simp only[R]at e2;rw[xQ e1,yU rfl,e2]
end
theorem zNp{α:Type}{xs ys:List α}{l h:Int}(hv:yB xs l h=ud ys):l.toNat≤h.toNat:=by have:=vU hv;omega
theorem zNq{α:Type}{xs ys:List α}{l h:Int}(hv:yB xs l h=ud ys):h.toNat≤xs.length:=by have:=vU hv;omega
theorem zMv{α:Type}(l z:List α)(lo i:Nat)(eL:lo+z.length≤l.length):(l.take lo++z++l.drop (lo+z.length))[i]? =if i<lo then l[i]? else if i<lo+z.length then z[i-lo]? else l[i]?:=by
 have hm:min lo l.length=lo:=by omega
 by_cases c1:i<lo
 ·rw[if_pos c1,J9,Jv (by simp;omega),Lm,if_pos c1]
 ·rw[if_neg c1]
  by_cases c2:i<lo+z.length
  ·rw[if_pos c2,J9,Ja (by simp;omega),L6,hm,Jv (by omega)]
  ·rw[if_neg c2,J9,Ja (by simp;omega),L6,hm,Ja (by omega),Ln]
   congr 1;omega
def vS(xs:List Int)(lo:Nat)(zs:List Int):List Int:=xs.take lo++zs++xs.drop (lo+zs.length)
theorem zMw{P:Program}{Γ:Ctx}{E:Env}{d s0 lo hi:Nat}{x y:Operand}{ty:TypeId}{ps:String}{af:Array Edge}{gd:Option (Nat×Bool)}{t t2 e:TypeId}{ti:TypeInfo}{u:T}{xs ys:List Int}(ht:ElT P t e ti 1 u)(h0:E s0=ud (L 1 I xs))(hx:∀S,zCy (Γ.at S) E x s0 lo hi)(hy:∀S,zFF P (Γ.at S) E y ys)(h1:lo≤hi)(h2:hi≤xs.length)(sd:(J4 d Γ.N&&(s0 != d))=uf):
  Ok P Γ ⟨ud d,.call { callee:=.builtin .copy,args:=#[x,y],argTypes:=#[t,t2] },ty,ps,af,gd⟩ E ((E.app [(s0,ud (L 1 I (vS xs lo (ys.take (hi-lo)))))] [(s0,1)]).app [(d,ud (I ((min ys.length (hi-lo):Nat):Int)))] [(d,0)]):=by
 simp only[J2]at sd;have gj:s0≠d:=by simpa using sd.2
 intro S;refine xT.value rfl fun a w G g9=>?_
 obtain⟨e1,e2,_⟩:=g9.ent s0 _ h0;obtain⟨xa,c,g1,g2⟩:=hy S a w G g9;have g3:=hx S a w G g9;have pf:min ys.length (hi-lo)≤ys.length:=by omega
 have g4:=g2 _ pf;have htk:ys.take (hi-lo)=ys.take (min ys.length (hi-lo)):=by rw[List.take_eq_take_iff];omega
 rw[htk]
 generalize hn:min ys.length (hi-lo)=n at*
 have fM:(ys.take n).length=n:=by simp;omega
 have gg:(vS xs lo (ys.take n)).length=xs.length:=by simp[vS,fM];omega
 have key:∃w',(Builtin.copy_ #[t,t2] ty #[a.eval x,a.eval y]).run P w=.ok (goInt n) w'∧ ∃G',Rep (Γ.at S) (E.app [(s0,ud (L 1 I (vS xs lo (ys.take n))))] [(s0,1)]) G' a.tmps w':=by
  have e2':=e2;simp only[R]at e2;rcases e2 with⟨k1,ad,k2⟩|⟨b,o0,cap,cs,e',k1,k2,k3,k4,k5,k6,k7,k8⟩
  ·have gX:xs=[]:=by simpa using k1
   subst gX;simp at h2;subst h2;have bZ:n=0:=by omega
   subst bZ;have eL:lo=0:=by omega
   subst eL;refine⟨w,?_,G,?_⟩
   ·rw[g3,k2,g1]
    cases ad<;>cases xa<;>simp[zAw,Builtin.copy_,run_underlying ht.un,Builtin.lenOf,sizeOf,typeInfo,ht.info,Builtin.firstCells,loadCells,loadCellsFrom,storeCells]
   ·refine wR g9 rfl ⟨fun _ _ _=>rfl,fun _ _ _=>rfl,fun _ _ _ _ _ _ h _=>⟨h,rfl⟩,fun _ _ _ h _=>h,fun b cs e h=>⟨cs,h,rfl⟩⟩ g9.mem (fun s hs=>⟨fun n hn=>by simp at hn;simp[Wr.find,hn.1]at hs,rfl⟩) fun s t' hs=>?_
    rw[uR]at hs;split at hs
    ·rename_i he;subst he
     simp at hs;subst hs;simpa[vS]using g9.ent s0 _ h0
    ·cases hs
  ·rw[Jj]at k1 k3 k7
   have gw:o0+cap≤cs.size:=by omega
   have gF:=run_storeCells_at P b (o0+lo) e' ((ys.take n).map vI) 0 cs w k2 (by simp;omega) (by intro v hv;obtain⟨u,_,rfl⟩:=Je.1 hv;rfl);simp only[Qy,Jj]at gF
   generalize ej:w.setRow b (cs.toList.take (o0+lo)++(ys.take n).map vI++cs.toList.drop (o0+lo+(ys.take n).length)).toArray=w' at gF
   have gI:cs.toList.length=cs.size:=K3 ..
   by_cases pk:cap=lo
   ·have bZ:n=0:=by omega
    subst bZ;refine⟨w,?_,G,?_⟩
    ·rw[g3,k1,g1]
     have g5:(Builtin.firstCells 1 0 (.slice xa ys.length c)).run P w=.ok #[] w:=by simpa using g4
     simp[zAw,Builtin.copy_,run_underlying ht.un,Builtin.lenOf,sizeOf,typeInfo,ht.info,ht.size,show hi-lo=0 by omega,g5,storeCells,pk]
    ·refine wR g9 rfl ⟨fun _ _ _=>rfl,fun _ _ _=>rfl,fun _ _ _ _ _ _ h _=>⟨h,rfl⟩,fun _ _ _ h _=>h,fun b cs e h=>⟨cs,h,rfl⟩⟩ g9.mem (fun s hs=>⟨fun n hn=>by simp at hn;simp[Wr.find,hn.1]at hs,rfl⟩) fun s t' hs=>?_
     rw[uR]at hs;split at hs
     ·rename_i he;subst he
      simp at hs;subst hs;simpa[vS]using g9.ent s0 _ h0
     ·cases hs
   ·refine⟨w',?_,zJr g9 h0 gg k1 k2 k3 k4 k5 k6 k7 k8 (by rw[←ej];exact setRow_heap w b cs _ e' _ k2) ?_ (fun b' h=>by rw[←ej];exact setRow_other w b b' _ h) (by rw[←ej];exact size_setRow w b _) (by rw[←ej];rfl) (by rw[←ej];rfl) fun i v hv=>?_⟩
    ·rw[g3,k1,g1]
     have h9:Nat.min ys.length (hi-lo)=n:=hn;simp only[zAw,pk,if_false,Hc,vM,Gt];simp only[Builtin.copy_];rw[Ua]at gF;simp[run_underlying ht.un,Builtin.lenOf,sizeOf,typeInfo,ht.info,ht.size,h9,g4,gF]
    ·simp[fM];omega
    ·rw[vS,zMv _ _ _ _ (by rw[fM];omega)]at hv
     have h11:o0+lo+((ys.take n).map vI).length≤cs.toList.length:=by simp;omega
     have h10:=zMv cs.toList ((ys.take n).map vI) (o0+lo) (o0+i) h11;rw[Jj]at h10;rw[List.getElem?_toArray,h10];have ff:=fun i u hu=>zMu k2 k8 i u hu
     by_cases c1:i<lo
     ·rw[if_pos c1]at hv
      rw[if_pos (by omega)];simpa using ff i v hv
     ·rw[if_neg c1]at hv
      rw[if_neg (by omega)]
      by_cases c2:i<lo+(ys.take n).length
      ·rw[if_pos c2]at hv
       rw[if_pos (by omega),show o0+i-(o0+lo)=i-lo from by omega];rw[Jo,hv];rfl
      ·rw[if_neg c2]at hv
       rw[if_neg (by omega)];simpa using ff i v hv
 obtain⟨w',gy,G',gm⟩:=key;refine⟨_,w',?_,_,wP gm rfl (zX sd.1) (fun _=>vI n) (fun _=>rfl) (I n) (vI n) (by simp[mkV,Gh.put]) (by simp[R,Gh.put]) (by simp[Top])⟩;simp[execOp,resolve,invoke,builtin,gy,goInt]
end Go.Ab

namespace Go.Ab
open Go
theorem zHg{G G':Gh}{s d:Nat}(hd:∀z,G'.hd d z=G.hd s z):(xs:List T)→yG xs=uf→ ∀(j:Nat),qX G' d (cpF s xs [] j) [] j=qX G s xs [] j
 | [],_,_=>by rfl
 |x::xs,h,j=>by
  simp only[yG,J2]at h;simp only[cpF,qX];have gV:∀ys,x≠.tup ys:=by rintro ys rfl;grind[T.okTup]
  have h1:=kJ (G:=G) (G':=G') (s:=s) (d:=d) x [j] [j] gV (fun z=>hd _);have h2:∀ys,cpT s x [j]≠.tup ys:=by intro ys;cases x<;>simp[cpT]
  rw[qY _ _ _ _ h2]at h1;rw[h1,zHg hd xs h.2 (j+1)]
section
variable {P:Program}{Γ:Ctx}{E E':Env}{d:Nat}{x y:Operand}{ty:TypeId}{ps:String}{af:Array Edge}{gd:Option (Nat×Bool)}
theorem zPa{s:Nat}{ts:List T}(hx:E s=ud (.tup ts))(sd:(J4 d Γ.N&&yG ts&&(s != d)&&zIH [(d,0)] (cpF s ts [] 0))=uf):Ok P Γ ⟨ud d,.move (.tmp s),ty,ps,af,gd⟩ E (E.app [(d,ud (.tup (cpF s ts [] 0)))] [(d,0)]):=by
 simp only[J2]at sd;obtain⟨⟨⟨s1,s2⟩,s3⟩,s4⟩:=sd;have gj:s≠d:=by grind
 intro S;refine xT.value rfl fun a w G g9=>?_
 obtain⟨h1,h2,_⟩:=g9.ent s _ hx;simp only[R]at h2;have hk:=G.put_keep (w:=w) (w':=w) rfl d (fun z=>G.hd s z);have hz:∀z,(G.put d (fun z=>G.hd s z)).hd d z=G.hd s z:=by grind[Gh.put_self]
 have cZ:∀(xs:List T)(j:Nat),vK (cpF s xs [] j):=by
  intro xs
  induction xs with
  |nil=>intro j;simp only[cpF,vK]
  |cons x xs ih=>intro j;simp only[cpF,vK];grind[tY]
 refine⟨mkV G s (.tup ts) [],w,?_,_,wP g9 rfl (zX s1) (fun z=>G.hd s z) (fun z=>g9.mem.one _ _) _ _ (by grind[mkV,zHg])
  (by simp only[R];exact zHH (fun p=>G.put_other _ p gj) ts [] [] 0 (fun z=>hz _) (xG.mono (fun r p hr=>⟨hk.hd r p hr,hk.ad r p hr⟩) _ (by grind[zFh])) h2) (by simp only[Top];grind)⟩
 simp[execOp,xQ h1]
end
end Go.Ab

namespace Go.Ab
open Go
section
variable (ds r:Nat)
inductive zNr:Env→List (Nat×List Nat)→Env→Prop where
 |nil (E:Env):zNr E [] E
 |cons {E E':Env}{l:List (Nat×List Nat)} (j:Nat) (q:List Nat) (td td' tr tr' u:T) (hd:E ds=ud td) (hg:td.get [j]=ud (.same r q)) (hr:E r=ud tr) (hp:tr.get q.reverse=ud u) (ef:zS u)
   (mb:td.set [j] u=td') (ma:tr.set q.reverse .any=tr') (sd:(u.single&&td.okB [(ds,2),(r,q.length+1)]&&tr.okB [(ds,2),(r,q.length+1)]&&xJ td&&xJ tr&&(ds != r)&& !q.isEmpty)=uf)
   (h:zNr (E.app [(ds,ud td'),(r,ud tr')] [(ds,2),(r,q.length+1)]) l E'):zNr E ((j,q)::l) E'
inductive zHh:Env→List (Nat×List Nat)→Env→Prop where
 |nil (E:Env):zHh E [] E
 |cons {E E':Env}{l:List (Nat×List Nat)} (j:Nat) (q:List Nat) (td td' tr tr' u v0:T) (hd:E ds=ud td) (hg:td.get [j]=ud u) (hr:E r=ud tr) (hp:tr.get q.reverse=ud v0) (ef:zS u)
   (mb:td.set [j] .any=td') (ma:tr.set q.reverse u=tr') (sd:(u.single&&v0.single&&td.okB [(r,q.length+1),(ds,2)]&&tr.okB [(r,q.length+1),(ds,2)]&&xJ td&&xJ tr&&(ds != r)&& !q.isEmpty)=uf)
   (h:zHh (E.app [(r,ud tr'),(ds,ud td')] [(r,q.length+1),(ds,2)]) l E'):zHh E ((j,q)::l) E'
end
theorem zSb{g z:List Nat}(h:g<:+z)(hn:z≠g):g.length<z.length:=by
 have h1:=h.length_le;rcases Kb g.length z.length with h2|h2
 ·exact h2
 ·exact absurd (h.eq_of_length (by omega)).symm hn
theorem zNr.rep{Γ:Ctx}{tmps:Array Value}{w:World}{ds r:Nat}{E E':Env}{l:List (Nat×List Nat)}(h:zNr ds r E l E'):∀{G:Gh},Rep Γ E G tmps w→
  ∃G',Rep Γ E' G' tmps w∧(∀z,G'.hd r z=G.hd r z)∧(∀j,G'.hd ds [j]=G.hd ds [j])∧ ∀x∈l,G.hd ds [x.1]=G.hd r x.2:=by
 induction h with
 |nil E=>intro G hr;exact⟨G,hr,fun _=>rfl,fun _=>rfl,by simp⟩
 |cons j q td td' tr tr' u hd hg hr hp ef mb ma sd _ ih=>
  intro G g9;simp only[J2]at sd;obtain⟨⟨⟨⟨⟨⟨s1,s2⟩,s3⟩,s4⟩,s5⟩,s6⟩,s7⟩:=sd;have gj:ds≠r:=by grind
  have hq:q≠[]:=by grind
  have gN:G.hd ds [j]=G.hd r q:=by have:=(kI [j] td _ [] (g9.ent ds td hd).2.1 hg).1;simpa[rp,R]using this
  obtain⟨h1,h2⟩:=zCE g9 ds [j] r q td tr u (.same r q) hd (by grind) rfl gN hr hp s1 ef gj (by omega) (by omega) s4 s5;rw[if_neg hq,show([j]:List Nat).reverse=[j]from rfl,mb,ma]at h1;obtain⟨G',g1,g2,g3,g4⟩:=ih (by omega)
  grind
theorem zHh.rep{Γ:Ctx}{tmps:Array Value}{w:World}{ds r:Nat}{E E':Env}{l:List (Nat×List Nat)}(m:Nat)(h:zHh ds r E l E'):(∀x∈l,x.2.length=m)→ ∀{G:Gh},Rep Γ E G tmps w→(∀x∈l,G.hd ds [x.1]=G.hd r x.2)→ ∃G',Rep Γ E' G' tmps w:=by
 induction h with
 |nil E=>grind
 | @cons E E' l j q td td' tr tr' u v0 hd hg hr hp ef mb ma sd _ ih=>
  intro hm G g9 aV;simp only[J2]at sd;obtain⟨⟨⟨⟨⟨⟨⟨s1,s1'⟩,s2⟩,s3⟩,s4⟩,s5⟩,s6⟩,s7⟩:=sd;have gj:ds≠r:=by grind
  have hq:q≠[]:=by grind
  obtain⟨h1,h2⟩:=zCE g9 r q ds [j] tr td u v0 hr hp s1' (aV (j,q) (by simp)).symm hd (by grind) s1 ef (Ne.symm gj) (by omega) (by omega) s5 s4;rw[if_neg (by simp),show([j]:List Nat).reverse=[j]from rfl,mb,ma]at h1;refine ih (by grind) (by omega) fun x hx=>?_
  have e1:∀z,(G.tr r q ds [j]).hd ds z=G.hd ds z:=by grind
  by_cases hz:q<:+x.2∧x.2≠q
  ·have h3:=zSb hz.1 hz.2
   rw[hm x (by simp[hx]),hm (j,q) (by simp)]at h3;omega
  grind
theorem zE5{G G':Gh}{s:Nat}:(xs ys:List T)→(∀x∈xs,x.single=uf)→(∀x∈ys,x.single=uf)→xs.length=ys.length→ ∀(j:Nat),zW G s xs [] j=zW G' s ys [] j→ ∀i,i<xs.length→G.hd s [j+i]=G'.hd s [j+i]
 | [],_,_,_,_,_,_,i,hi=>by simp at hi
 |x::xs,[],_,_,hl,_,_,_,_=>by simp at hl
 |x::xs,y::ys,h1,h2,hl,j,h,i,hi=>by
  have v1:∀(G:Gh)(t:T)(p:List Nat),t.single=uf→vals G s t p=[G.hd s p]:=fun G t p ht=>by cases t<;>simp[T.single]at ht<;>simp[vals]
  simp only[zW,v1 G x _ (h1 x (by simp)),v1 G' y _ (h2 y (by simp)),Kt,Ql.injEq]at h;cases i with
  |zero=>exact h.1
  |succ i=>
   have:=zE5 xs ys (by grind) (by grind) (by grind) (j+1) h.2 i (by grind)
   grind
def zDu:List T→Bool
 | []=>uf
 |x::xs=>x.single&&zDu xs
theorem zCL:{xs:List T}→zDu xs=uf→ ∀x∈xs,x.single=uf
 | [],_,_,h=>by simp at h
 |x::xs,h,y,hy=>by
  simp only[zDu,J2]at h;rcases Jp.1 hy with rfl|hy
  ·exact h.1
  ·exact zCL h.2 y hy
theorem zMx{P:Program}{Γ:Ctx}{E E1 E3:Env}{d:Nat}{ty:TypeId}{ps:String}{af:Array Edge}{gd:Option (Nat×Bool)}{f:FuncId}{xs:List Operand}{ats:Array TypeId}{us res:List T}{ts ts':List T}(i ds r:Nat)(l:List (Nat×List Nat))(m:Nat)(gr:zAr P f)(hc:FnC P f us res [(i,.agg ts')])
  (gW:zNr ds r E l E1)(hs:E1 ds=ud (.agg ts))(el:zS (.agg ts'))(p7:wG (.agg ts')=uf)(gc:xN E1 [(i,ds,.agg ts')] 0 xs us)(gk:jN res)
  (dt:zHh ds r (E1.app (cWr d res [(i,ds,.agg ts')]) (vJ d [(i,ds,.agg ts')])) l E3)
  (sd:(J4 d Γ.N&&(d != ds)&&(d != r)&&(ds != r)&&zDu ts&&zDu ts'&&(ts.length==ts'.length)&&(l.all fun x=>x.2.length==m&&J4 x.1 ts.length))=uf)(hx:xs[i]? =ud (.tmp ds))(hu:us[i]? =ud (.agg ts)):
  Ok P Γ ⟨ud d,.call { callee:=.value (.func f),args:=xs.toArray,argTypes:=ats },ty,ps,af,gd⟩ E E3:=by
 simp only[J2]at sd;obtain⟨⟨⟨⟨⟨⟨⟨s1,s2⟩,s3⟩,s4⟩,s5⟩,s6⟩,s7⟩,s8⟩:=sd;have d1:d≠ds:=by grind
 have d2:d≠r:=by grind
 have d3:ds≠r:=by grind
 have gg:ts.length=ts'.length:=by grind
 have hl:∀x∈l,x.2.length=m∧x.1<ts.length:=fun x hx=>by
  have:=K0.1 s8 x hx
  simp_all
 intro S a w K Q ⟨gP,G,g9⟩ hK;refine zB0 (xf:=.func f) rfl rfl gr rfl ?_;obtain⟨G1,g1,g2,g3,g4⟩:=gW.rep g9;refine(zF2 g1 (zX s1) f xs us res [(i,ds,.agg ts')] hc gc (zF1.one' (u:=.agg ts) d1 hx el rfl p7 hs hu) gk).mono ?_
 rintro e w' ⟨v,rfl,S',G',hS,hk,gm⟩
 have u8:(E1.app (cWr d res [(i,ds,.agg ts')]) (vJ d [(i,ds,.agg ts')])) ds=ud (.agg ts'):=by grind[Env.app,Wr.find,cWr]
 have hv:mkV G' ds (.agg ts') []=mkV G1 ds (.agg ts) []:=by
  have a1:=(gm.ent ds _ u8).1;have a2:=(g1.ent ds _ hs).1
  grind
 simp only[mkV,Value.agg.injEq]at hv;have ek:zW G' ds ts' [] 0=zW G1 ds ts [] 0:=by grind
 have mF:=zE5 ts' ts (zCL s6) (zCL s5) gg.symm 0 ek;obtain⟨G3,hG3⟩:=dt.rep m (by grind) gm fun x hx=>by
  have h1:=mF x.1 (by grind);rw[J6]at h1;have h2:G'.hd r x.2=G1.hd r x.2:=hk.hd r x.2 (fun n hn=>by grind[vJ])
  grind
 exact⟨v,rfl,hK _ _ ⟨S',hS,gP,G3,hG3⟩⟩
end Go.Ab

namespace Go.Ab
open Go
section
variable {P:Program}{Γ:Ctx}{E:Env}{d:Nat}{x:Operand}{ty:TypeId}{ps:String}{af:Array Edge}{gd:Option (Nat×Bool)}
class zSc (P:Program) (t:TypeId) (e:outParam TypeId) (ti:outParam TypeInfo) (n:outParam Nat) (k:outParam Nat):Prop where
 un:P.underlying t=ud (.array n e)
 info:P.info? e=ud ti
 size:ti.size=k
theorem zMy{t e:TypeId}{ti:TypeInfo}{n k r:Nat}{q:List Nat}{xs:List T}{u:T}(i:Nat)(ht:zSc P t e ti n k)(hx:uS E x=ud (r,q,.ptr (.agg xs)))(hu:xs[i]? =ud u)(gB:T.sizes (xs.take i)=i*k)(sd:(J4 d Γ.N&&J4 i n)=uf):
  Ok P Γ ⟨ud d,.indexAddr t x (.const (.int .i64 i)),ty,ps,af,gd⟩ E (E.app [(d,ud (.addr r (i::0::q)))] [(d,0)]):=by
 simp only[J2]at sd;have gW:=zX sd.2;intro S;refine xT.value rfl fun a w G g9=>?_
 obtain⟨g1,g2⟩:=sV g9 hx rfl;simp only[R]at g1;obtain⟨b,cs,e',g4,_,_,_,g5,_⟩:=g1;simp only[Loc]at g5;have g6:=zBr xs (0::q) 0 b 0 i u g5.2 hu;simp only[J6]at g6;have g3:a.eval (.const (.int .i64 i))=.int .i64 i:=rfl;refine⟨.pointer (ud (G.ad r (i::0::q))),w,?_,_,wP g9 rfl (zX sd.1) (fun _=>.pointer (ud (G.ad r (i::0::q)))) (fun _=>rfl) _ _ (by simp[mkV,Gh.put]) (by simp[R,Gh.put]) (by simp[Top])⟩;have gT:(i:Int)<(n:Int):=by omega
 have h0:(0:Int)≤i:=by omega
 have g7:=zAJ g6;have mE:i<n:=gW;simp[execOp,Instr.indexAt,g3,g2,g4,asIntOf,run_underlying ht.un,h0,mE,sizeOf,typeInfo,ht.info,ht.size,vM,vX,g7,gB]
end
end Go.Ab
namespace Go.Ab
open Go
theorem zPb{E:Env}{ds r s:Nat}{q:List Nat}{tr u t:T}(h:E s=ud t)(gj:(Nat.beq ds s||Nat.beq r s)=ug:=by rfl)(hb:t.okB [(ds,1),(r,q.length+1)]=uf:=by rfl):opT (vF E ds r q tr u) (.tmp s)=ud t:=by
 have h1:ds≠s:=by rintro rfl;simp at gj
 have h2:r≠s:=by rintro rfl;simp at gj
 simp[opT,vF,Env.app,Wr.find,h1,h2,h,hb]
end Go.Ab
namespace Go.Ab
open Go
section
variable {P:Program}{Γ:Ctx}{pn:qG}{E E':Env}{Q Q1:Exit→Env→Prop}{c c1 c2:Code}{ops:Array Oper}{o:Oper}{os:List Oper}{id:Nat}
theorem sR(h:RW P Γ pn ops ops.toList E (xY P Γ pn c Q)):CW P Γ pn (.seq (.region id ops ug) c) E Q:=CW.seq (CW.region h)
theorem rN(h:CW P Γ pn c E Q):RW P Γ pn ops [] E (xY P Γ pn c Q):=RW.nil h
theorem oP(h:Ok P Γ o E E')(k:RW P Γ pn ops os E' Q)(hg:o.guard=ue:=by rfl)(hp:pn.ok o.dst=uf:=by rfl):RW P Γ pn ops (o::os) E Q:=RW.op h k hg hp
def zUd(ops:List Oper):List (List Nat):=(ops.foldl (fun(acc:Array (List Nat)) o=>acc.push ((zA6 o).foldl (fun l m=>m::(acc.getD m [])++l) [])) #[]).toList
theorem CW.lp{σ ρ:Type}(body:σ→Option (σ⊕ρ))(en:σ→Env)(Q1:ρ→Exit→Env→Prop){s:σ}{r:ρ}(hg:zG Γ E (en s))(h:∀s x,body s=ud x→CW P Γ pn c (en s) (vQ Γ en Q1 x))(hr:zI body s=ud r)(hq:∀e E',Q1 r e E'→Q e E'):CW P Γ pn (.loop c) E Q:=
 (CW.mono (CW.loop body en Q1 h hr) hq).ghost hg
end
end Go.Ab

namespace Go.Ab
open Go Go.ChangeShapes
abbrev zJs(w:World):Stb:=fun b=>w.heap[b]?
theorem zNs{w:World}{a:Addr}{n:Nat}{cs:List Value}(h:w.cells? 0 a n=ud cs):cs.length=n∧ ∀(i:Nat) v,cs[i]? =ud v→w.cell? (a.add i)=ud v:=by
 unfold World.cells? at h;rw[if_pos (Kn _)]at h;refine⟨by simpa using mapM_some_length h,fun i v hv=>?_⟩;have hi:i<n:=by have:=(Jg.1 hv).1;have h2:=mapM_some_length h;rw[U7]at h2;omega
 rw[←hv];exact mapM_some_get h i i (by simp[hi])
theorem zMz{w:World}{a:Addr}{v:Value}(h:w.cell? a=ud v):a.spot=ue∧ ∃c e fr,w.heap[a.block]? =ud (.cells c e fr)∧c[a.off]? =ud v:=by
 simp only[World.cell?]at h;split at h
 ·rename_i c e fr hb
  split at h
  ·cases h
  ·rename_i hs
   exact⟨by cases hq:a.spot with|none=>rfl|some _=>rw[hq]at hs;simp at hs,c,e,fr,hb,h⟩
 ·cases h
theorem zJt{b o m:Nat}:(Addr.mk b o ue).add m=⟨b,o+m,ue⟩:=by
 unfold Addr.add;split
 ·rename_i h;subst h;rfl
 ·rfl
theorem zE6{α:Type}{Q:Nat→α→Prop}:∀(n:Nat),(∀i,i<n→ ∃x,Q i x)→ ∃xs:List α,xs.length=n∧ ∀i x,xs[i]? =ud x→Q i x
 |0,_=>⟨[],rfl,fun i x h=>by simp at h⟩
 |n+1,h=>by
  obtain⟨xs,h1,h2⟩:=zE6 n fun i hi=>h i (by omega)
  obtain⟨y,hy⟩:=h n (by omega);refine⟨xs++[y],by simp[h1],fun i x hx=>?_⟩;rw[K8]at hx;split at hx
  ·exact h2 i x hx
  ·rename_i hge
   have:i-xs.length=0:=by have:=(Jg.1 hx).1;simpa using this
   rw[this]at hx;simp at hx;subst hx
   rwa [show i=n from by omega]
theorem zM0{St:Stb}:(xs:List T)→ ∀(cs:Array Value)(o k:Nat),(∀i x,xs[i]? =ud x→RoC St x cs (o+i*k))→RoL St xs cs o k
 | [],_,_,_,_=>by simp only[RoL]
 |x::xs,cs,o,k,h=>by
  simp only[RoL];refine⟨by simpa using h 0 x rfl,zM0 xs cs (o+k) k fun i y hy=>?_⟩;have:=h (i+1) y (by simpa using hy)
  rwa [show o+k+i*k=o+(i+1)*k from by rw[H3];omega]
section
variable {P:Program}
def RdT(P:Program)(t:TypeId)(k:Nat){α:Type}(f:α→T)(V:α→Prop):Prop:=
 ∀{H:Type}(enc:TypeId×Value→H)(w:World)(fuel:Nat)(cs:List Value)(x:DataW H×List MemPlace),DataW.trod enc P w 0 (fun _=>uf) uf fuel t cs=ud x→
  cs.length=k→ ∃d,V d∧ ∀(A:Array Value)(o:Nat),(∀(i:Nat) v,cs[i]? =ud v→A[o+i]? =ud v)→RoC (zJs w) (f d) A o
theorem zUe{t:TypeId}{q:IntKind}(hu:P.underlying t=ud (.int q)):RdT P t 1 (IK q) (fun n=>(Lit.int q n).wf=uf):=by intro H enc w fuel cs x h _;obtain⟨n,rfl,_,hw⟩:=DataW.trod_int hu h;exact⟨n,hw,fun A o hA=>by simp only[RoC];exact⟨by simpa using hA 0 _ rfl,rfl⟩⟩
theorem zUf{α:Type}{f:α→T}{V:α→Prop}{t e:TypeId}{k:Nat}(hu:P.underlying t=ud (.slice e))(hk:P.cellsOf e=k)(eA:0<k)(h:RdT P e k f V):
  RdT P t 1 (L k f) (fun xs=>xs.length≤maxLen∧ ∀x∈xs,V x):=by
 intro H enc w fuel cs x hx _;rcases DataW.trod_slice hu hx with⟨rfl,_⟩|⟨a,len,cap,elems,rest,n,rfl,rfl,_,_,fK,pk,az,fy,_⟩
 ·refine⟨[],⟨by simp,by simp⟩,fun A o hA=>?_⟩
  simp only[RoC,U0,Hu];exact⟨ue,0,by simpa using hA 0 _ rfl,Jh _,by simp[maxLen],fun h=>absurd rfl h⟩
 ·subst hk
  have key:∀i,i<len→ ∃y,V y∧ ∃cs':List Value,cs'.length=P.cellsOf e∧(∀(j:Nat) v,cs'[j]? =ud v→w.cell? ((a.add (i*P.cellsOf e)).add j)=ud v)∧
    ∀(A:Array Value)(o:Nat),(∀(j:Nat) v,cs'[j]? =ud v→A[o+j]? =ud v)→RoC (zJs w) (f y) A o:=by
   intro i hi;have h1:=fy i hi;rw[J5 (by omega)]at h1;obtain⟨cs',h2,h3⟩:=Option.bind_eq_some_iff.1 h1;obtain⟨h4,h5⟩:=zNs h2;obtain⟨y,h6,h7⟩:=h enc w n cs' _ h3 h4;exact⟨y,h6,cs',h4,h5,h7⟩
  obtain⟨xs,pR,gX⟩:=zE6 len key;refine⟨xs,⟨by omega,fun y hy=>?_⟩,fun A o hA=>?_⟩
  ·obtain⟨i,hi,rfl⟩:=K1.1 hy
   exact(gX i _ (J5 hi)).1
  ·simp only[RoC,Jj,pR]
   refine⟨ud a,cap,by simpa using hA 0 _ rfl,fK,pk,fun gj=>?_⟩;have mu:0<xs.length:=by
    cases xs with
    |nil=>simp at gj
    |cons _ _=>simp
   obtain⟨_,cs0,g1,g2,_⟩:=gX 0 _ (J5 mu);have hz:a.add (0*P.cellsOf e)=a:=by simp[Addr.add]
   have g3:=g2 0 cs0[0] (J5 (by omega));rw[hz,show a.add 0=a from by simp[Addr.add]]at g3;obtain⟨m9,c,e',fr,hb,_⟩:=zMz g3;obtain⟨b,off,sp⟩:=a;simp only at m9 hb;subst m9;refine⟨b,off,c,e',fr,rfl,hb,zM0 _ _ _ _ fun i y hy=>?_⟩;rw[Jo,Jz]at hy;obtain⟨z,pN,rfl⟩:=hy;obtain⟨_,cs',g1',g2',g4⟩:=gX i z pN;refine g4 c _ fun j v hv=>?_
   have:=g2' j v hv;rw[zJt,zJt]at this;obtain⟨_,c2,e2,fr2,tw,ek⟩:=zMz this;simp only at tw ek;rw[hb]at tw;cases tw;exact ek
theorem zIg{H:Type}{enc:TypeId×Value→H}{w:World}{t:TypeId}{fs:Array Field}{fuel:Nat}{cs:List Value}{x:DataW H×List MemPlace}(hu:P.underlying t=ud (.struct fs))(h:DataW.trod enc P w 0 (fun _=>uf) uf fuel t cs=ud x)
  {i j k:Nat}{f:Field}(hf:fs[i]? =ud f)(hj:f.offset=j)(hk:P.cellsOf f.type=k):∃n y,DataW.trod enc P w 0 (fun _=>uf) uf n f.type ((cs.drop j).take k)=ud y:=by
 obtain⟨xs,n,_,_,_,gg,fy⟩:=DataW.trod_struct hu h;have hi:i<xs.length:=by rw[gg];exact(Le.1 hf).1
 have:=fy i f hf;rw[hj,hk,J5 hi]at this;exact⟨n,_,this⟩
end
def zNt(v:Value):Value:=if v.oneCell' then v else .bool ug
theorem zJu(v:Value):(zNt v).oneCell'=uf:=by unfold zNt;split;assumption;rfl
theorem zIh{v:Value}(h:v.oneCell'=uf):zNt v=v:=by simp[zNt,h]
def hd0(vs:Array Value)(s:Nat)(p:List Nat):Value:=
 match vs[s]?,p with
 |some (.agg cs),[j]=>zNt (cs[j]?.getD (.bool ug))
 |some v,[]=>zNt v
 |_,_=>.bool ug
def G0(vs:Array Value):Gh:={ hd:=hd0 vs,ad:=fun _ _=>default,lb:=fun _ _=>ue,ow:=fun _=>ue }
theorem zWY(w:World)(vs:Array Value):Mem ⟨zJs w,fun _=>False,w,0⟩ (G0 vs) w where
 one s p:=by
  simp only[G0,hd0];split
  ·exact zJu _
  ·exact zJu _
  ·rfl
 lb b o l h:=by simp[G0]at h
 ow b l h:=by simp[G0]at h
 st b x h:=h
 fr b _ _:=rfl
 sz:=Jh _
 bk:=⟨fun b cs e h=>⟨cs,h,rfl⟩,rfl,rfl⟩
def RdA(P:Program)(t:TypeId){α:Type}(u:α→T)(V:α→Prop):Prop:=
 ∀{H:Type}(enc:TypeId×Value→H)(w:World)(base fuel:Nat)(v:Value)(x:DataW H×List MemPlace),DataW.trod enc P w 0 (fun _=>uf) uf fuel t v.cells.toList=ud x→
  Value.okWide P w .any base t v→ ∃d,V d∧ ∀(vs:Array Value)(s:Nat),vs[s]? =ud v→ud v=ud (mkV (G0 vs) s (u d) [])∧R (zJs w) (G0 vs) w s (u d) []
def RdC(P:Program)(t:TypeId){α:Type}(u:α→T)(V:α→Prop):Prop:=
 ∀{H:Type}(enc:TypeId×Value→H)(w:World)(fuel:Nat)(c:Value)(x:DataW H×List MemPlace),DataW.trod enc P w 0 (fun _=>uf) uf fuel t [c]=ud x→
  ∃d,V d∧c.oneCell'=uf∧ ∀(G:Gh)(s:Nat)(p:List Nat),G.hd s p=c→vals G s (u d) p=[c]∧R (zJs w) G w s (u d) p
section
variable {P:Program}
theorem zUg{t:TypeId}{q:IntKind}(hu:P.underlying t=ud (.int q)):RdC P t (IK q) (fun n=>(Lit.int q n).wf=uf):=by intro H enc w fuel c x h;obtain⟨n,h1,_,hw⟩:=DataW.trod_int hu h;simp only[Ql.injEq,and_true]at h1;subst h1;exact⟨n,hw,rfl,fun G s p hp=>⟨by simp only[vals,hp],by simp only[R,hp]⟩⟩
theorem zVv{α:Type}{f:α→T}{V:α→Prop}{t:TypeId}(h:RdT P t 1 f V)(h1:∀{H:Type}(enc:TypeId×Value→H)(w:World)(fuel:Nat)(c:Value)(x:DataW H×List MemPlace),DataW.trod enc P w 0 (fun _=>uf) uf fuel t [c]=ud x→c.oneCell'=uf):
  RdC P t (fun x=>T.ro (f x)) V:=by
 intro H enc w fuel c x hx;obtain⟨d,g1,g2⟩:=h enc w fuel [c] x hx rfl;refine⟨d,g1,h1 enc w fuel c x hx,fun G s p hp=>⟨by simp only[vals,hp],?_⟩⟩;simp only[R,hp];exact g2 _ _ fun i v hv=>by
  cases i with
  |zero=>simpa using hv
  |succ i=>simp at hv
theorem zSd{α:Type}{f:α→T}{V:α→Prop}{t e:TypeId}{k:Nat}(hu:P.underlying t=ud (.slice e))(hk:P.cellsOf e=k)(eA:0<k)(h:RdT P e k f V):RdC P t (fun xs=>T.ro (L k f xs)) (fun xs=>xs.length≤maxLen∧ ∀x∈xs,V x):=
 zVv (zUf hu hk eA h) fun enc w fuel c x hx=>by
  rcases DataW.trod_slice hu hx with⟨h1,_⟩|⟨a,len,cap,_,_,_,_,h1,_⟩<;>
  ·simp only[Ql.injEq,and_true]at h1
   subst h1;rfl
theorem zSe{α:Type}{u:α→T}{V:α→Prop}{t:TypeId}(hs:∀x,(u x).single=uf∧ ∀G s,mkV G s (u x) []=G.hd s [])(h:RdC P t u V)
  (hv:∀{w:World}{base:Nat}{v:Value},Value.okWide P w .any base t v→v.oneCell'=uf):RdA P t u V:=by
 intro H enc w base fuel v x hx gG;have h1:v.cells.toList=[v]:=by have:=hv gG;cases v<;>simp_all [Value.oneCell',Value.cells]
 rw[h1]at hx;obtain⟨d,g1,g2,g3⟩:=h enc w fuel v x hx;refine⟨d,g1,fun vs s ca=>?_⟩;have gD:(G0 vs).hd s []=v:=by simp only[G0,hd0,ca];cases v<;>first|rfl|simp[Value.oneCell']at g2
 exact⟨by rw[(hs d).2,gD],(g3 _ _ _ gD).2⟩
theorem zGB{w:World}{base:Nat}{t:TypeId}{fs:Array Field}{v:Value}(hu:P.underlying t=ud (.struct fs))(h:Value.okWide P w .any base t v):∃cs,v=.agg cs∧cs.size=P.cellsOf t:=by simp only[Value.okWide,hu]at h;obtain⟨cs,h1,h2,_⟩:=h;exact⟨cs,h1,h2⟩
theorem zTx{α β γ δ:Type}{ua:α→T}{ub:β→T}{uc:γ→T}{Va:α→Prop}{Vb:β→Prop}{Vc:γ→Prop}{t:TypeId}{f0 f1 f2:Field}(mk:α→β→γ→δ){u:δ→T}{V:δ→Prop}
  (hu:P.underlying t=ud (.struct #[f0,f1,f2]))(hc:P.cellsOf t=3)(h0:f0.offset=0∧P.cellsOf f0.type=1)(h1:f1.offset=1∧P.cellsOf f1.type=1)(h2:f2.offset=2∧P.cellsOf f2.type=1)
  (ra:RdC P f0.type ua Va)(rb:RdC P f1.type ub Vb)(rc:RdC P f2.type uc Vc)(hmk:∀a b c,u (mk a b c)=T.agg [ua a,ub b,uc c])(hV:∀a b c,Va a→Vb b→Vc c→V (mk a b c)):RdA P t u V:=by
 intro H enc w base fuel v x hx gG;obtain⟨cs,rfl,gw⟩:=zGB hu gG;obtain⟨l,rfl⟩:∃l:List Value,cs=l.toArray:=⟨cs.toList,by simp⟩;rw[hc,Jae]at gw;obtain⟨c0,c1,c2,rfl⟩:∃a b c,l=[a,b,c]:=by
  match l,gw with
  | [a,b,c],_=>exact⟨a,b,c,rfl⟩
 simp only[Value.cells]at hx;obtain⟨n0,y0,g0⟩:=zIg hu hx (i:=0) rfl h0.1 h0.2;obtain⟨n1,y1,g1⟩:=zIg hu hx (i:=1) rfl h1.1 h1.2;obtain⟨n2,y2,g2⟩:=zIg hu hx (i:=2) rfl h2.1 h2.2;simp only[List.drop_succ_cons,Qk,Ke,Ko]at g0 g1 g2;obtain⟨a,a1,a2,a3⟩:=ra enc w n0 c0 _ g0;obtain⟨b,b1,b2,b3⟩:=rb enc w n1 c1 _ g1;obtain⟨c,e1,e2,e3⟩:=rc enc w n2 c2 _ g2;refine⟨mk a b c,hV a b c a1 b1 e1,fun vs s ca=>?_⟩;have k0:(G0 vs).hd s [0]=c0:=by simp[G0,hd0,ca,zIh a2]
 have k1:(G0 vs).hd s [1]=c1:=by simp[G0,hd0,ca,zIh b2]
 have k2:(G0 vs).hd s [2]=c2:=by simp[G0,hd0,ca,zIh e2]
 rw[hmk];simp only[mkV,zW,(a3 _ _ _ k0).1,(b3 _ _ _ k1).1,(e3 _ _ _ k2).1,Kz,Jw,R,RF];exact⟨trivial,(a3 _ _ _ k0).2,(b3 _ _ _ k1).2,(e3 _ _ _ k2).2,trivial⟩
end
theorem FnC.top{P:Program}{f:FuncId}{us:List T}(h:FnC P f us [B uf] []){w:World}{vs:Array Value}(gw:vs.size=us.length)
  (ha:∀(i:Nat) u,us[i]? =ud u→vs[i]? =ud (mkV (G0 vs) i u [])∧R (zJs w) (G0 vs) w i u []):
  Calls P f vs w fun e w'=>e=.returned (.bool uf)∧w'.os=w.os∧w'.output=w.output∧w.heap.size≤w'.heap.size∧ ∀b,b<w.heap.size→w'.heap[b]? =w.heap[b]?:=by
 refine(h (zJs w) (fun _=>False) w (G0 vs) vs gw (fun i u hu=>?_) (zWY w vs)).mono fun e w'=>?_
 ·obtain⟨h1,h2⟩:=ha i u hu
  refine⟨?_,h2⟩;rw[h1]
 ·rintro⟨S',G',nd,_,he,hm,pd,hr,_,_⟩
  match nd,pd with
  | [(s,p,t)],pd=>
   simp only[Jn,U0,Ql.injEq,and_true]at pd;subst pd;have:=(hr (s,p,B uf) (by simp)).1;simp only[R]at this;exact⟨by rw[he];simp only[zIY,tG,this],hm.bk.os,hm.bk.out,hm.sz,fun b hb=>hm.fr b hb (fun h=>h)⟩
theorem zCz{H:Type}{enc:TypeId×Value→H}{P:Program}(hl:laidOutB P=uf){W W':World}{sp:Nat→Bool}:∀{ts:List TypeId}{vs:List Value}{ds:List (DataW H)}{ps:List MemPlace},(∀t∈ts,P.readableRec t=uf∧t<P.types.size)→
  DataW.TrodAll enc P W 0 (fun _=>uf) uf ts vs ds ps→(∀p∈ps,W.sameAt W' p)→(∀p∈ps,sp p.block=uf)→DataW.TrodAll enc P W' 0 sp uf ts vs ds ps
 | [],[],[],_,_,h,_,_=>h
 |t::ts,v::vs,d::ds,ps,hr,h,h1,h2=>by
  obtain⟨p,q,g1,g2,rfl⟩:=h;exact⟨p,q,Go.WideElems.Trod_stays hl (hr t (by simp)).1 (hr t (by simp)).2 g1 (fun x hx=>h1 x (by simp[hx])) (fun x hx=>h2 x (by simp[hx])),
   zCz hl (fun t' bN=>hr t' (by simp[bN])) g2 (fun x hx=>h1 x (by simp[hx])) (fun x hx=>h2 x (by simp[hx])),rfl⟩
 | [],_::_,_,_,_,h,_,_| [],[],_::_,_,_,h,_,_|_::_,[],_,_,_,h,_,_|_::_,_::_,[],_,_,h,_,_=>h.elim
theorem zKO{C:Checked}{os:Os}(own:ownKnob C.prog.godebug=ue)(started:os.Started){f:FuncId}{fn:Func}(noInit:C.prog.inits.idxOf? f=ue)(hfn:C.prog.funcs[f]? =ud fn){H:Type}{enc:TypeId×Value→H}{s:ChangeSpec}{conds:List PathCond}{apart fresh handsOn again:Bool}
  (witness:∃(w:World)(tape:Tape)(i:Input),w.os=os∧(w.forCall tape i).Shaped C.prog∧i.vars=[]∧Input.okWide C.prog (w.forCall tape i) .any w.heap.size f i∧
   s.pre6 enc C.prog fn conds apart (w.forCall tape i).memory i.args∧Assume.holds {} C.prog (lone (Frame.enter C.prog f i.args .normal) [] (w.forCall tape i)))
  (hs:∀(l:List (DataW H)),l.length=fn.params.size→(s.fn H l).results=[.lit (.bool uf)]∧(s.fn H l).args=l∧(s.fn H l).vars=[])(pu:s.vars=[]){tb:TypeId}(fp:fn.resultTypes= #[tb])(hb:C.prog.underlying tb=ud .bool)
  (laid:laidOutB C.prog=uf)(bS:fn.params.toList.all (fun t=>C.prog.readableRec t&&decide (t<C.prog.types.size))=uf)
  (law:∀(W:World)(base:Nat)(args:Array Value)(ds:List (DataW H))(p:List MemPlace),(∀(j:Nat) t v,fn.params[j]? =ud t→args[j]? =ud v→Value.okWide C.prog W .any base t v)→
   DataW.TrodAll enc C.prog W 0 (fun _=>uf) uf fn.params.toList args.toList ds p→
   ∃us:List T,args.size=us.length∧FnC C.prog f us [B uf] []∧ ∀(i:Nat) u,us[i]? =ud u→args[i]? =ud (mkV (G0 args) i u [])∧R (zJs W) (G0 args) W i u []):
  ReturnsInHanded {} C os f .any (s.pre6 enc C.prog fn conds apart) (s.post enc C.prog fn apart fresh handsOn again):=by
 refine returnsInHanded_of_change (C:=C) own started noInit hfn witness ?_;intro W base args ds gs before hval hW _ _;have mP:=hW;obtain⟨p,q,hA,hV,hbq,hfz,pd⟩:=hW;obtain⟨us,h1,h2,h3⟩:=law W base args ds p hval hA;have hl:ds.length=fn.params.size:=by
  have:∀{ts:List TypeId}{vs:List Value}{ds:List (DataW H)}{p:List MemPlace},DataW.TrodAll enc C.prog W 0 (fun _=>uf) uf ts vs ds p→ds.length=ts.length:=by
   intro ts
   induction ts with
   |nil=>intro vs ds p h;cases vs<;>cases ds<;>first|rfl|exact h.elim
   |cons t ts ih=>intro vs ds p h;cases vs<;>cases ds<;>first|exact h.elim|(obtain⟨_,_,_,g,_⟩:=h;simp[ih g])
  simpa using this hA
 rw[pu]at hV;have hq:gs=[]∧q=[]:=by
  cases gs with
  |nil=>exact⟨rfl,hV⟩
  |cons _ _=>exact hV.elim
 obtain⟨rfl,rfl⟩:=hq;have gT:=mP.lt;refine(h2.top h1 h3).mono fun e w' ⟨he,ho,hq,gw,hh⟩=>⟨_,he,?_⟩
 have gN:∀p∈before,W.sameAt w' p:=fun p hp=>by
  have:=gT p hp;cases p with
  |cell b off=>simp only[World.sameAt,World.cell?,hh b this]
  |map b=>exact hh b this
 obtain⟨k1,k2,k3⟩:=hs ds hl;have hbp:before=p:=by simpa using hbq
 subst hbp;have gA:∀t∈fn.params.toList,C.prog.readableRec t=uf∧t<C.prog.types.size:=fun t ht=>by have:=K0.1 bS t ht;simpa using this
 have gk:∀(b:Nat)(sp:Nat→Bool)(hd:Bool),DataW.TrodAll enc C.prog w' b sp hd fn.resultTypes.toList ((Value.bool uf).resultList fn.resultTypes.size) (s.fn H (ds++[])).results []:=fun b sp hd=>by rw[fp,Jf,k1];exact⟨[],[],⟨1,by simp[DataW.trod,hb,Value.cells]⟩,⟨rfl,rfl⟩⟩
 have gc:∀sp:Nat→Bool,(∀p∈before,sp p.block=uf)→DataW.TrodAll enc C.prog w' 0 sp uf fn.params.toList args.toList (s.fn H (ds++[])).args before:=fun sp m9=>by rw[Jf,k2];exact zCz laid gA hA gN m9
 have bD:∀sp:Nat→Bool,DataW.TrodVars enc C.prog w' sp s.vars (s.fn H (ds++[])).vars []:=fun sp=>by rw[pu,Jf,k3];rfl
 have gC:∀p∈before,(fun b=>decide (b<W.heap.size)) p.block=uf:=fun p hp=>by simpa using gT p hp
 have pi:∀p∈before,∀o,w'.frozen? ⟨p.block,o,ue⟩=W.frozen? ⟨p.block,o,ue⟩:=fun p hp o=>by simp only[World.frozen?,hh _ (gT p hp)]
 refine⟨ds,[],before,[],before,[],mP,gk _ _ _,gc _ gC,bD _,⟨ho,hq,fun i hi=>?_⟩,fun _=>⟨fun j t r hj hr=>?_,_,_,([]++before)++[],⟨[]++before,[],trodAll_append (gc _ (fun _ _=>rfl)) (gk _ _ _),bD _,rfl,fun b off hp=>?_,fun ha=>?_⟩,fun p hp _=>?_⟩⟩
 ·rw[hh i hi]
  cases hx:W.heap[i]? with
  |none=>rfl
  |some o=>cases o<;>simp
 ·rw[fp]at hj hr
  match j,hj,hr with
  |0,hj,hr=>
   simp[Value.resultList]at hj hr;subst hj;subst hr;simp[Value.okWide,hb,Cell.okWide,Cell.ok]
 ·have fX:MemPlace.cell b off∈before:=by simpa using hp
  exact(pi _ fX off).trans (hfz b off fX)
 ·have:=pd ha
  simpa using this
 ·simpa using hp
end Go.Ab

namespace Go.Ab
open Go
def qB(hs:List Nat)(E:Env):Prop:=∀s,hs.contains s=uf→ ∃t,E s=ud t∧kZ t=uf
def zUh(hs:List Nat)(z:Nat×Option T):Bool:=!hs.contains z.1||match z.2 with
 |some t=>kZ t
 |none=>ug
def wrS(hs:List Nat)(X:Stp):Bool:=X.l.all fun y=>y.1.all (zUh hs)
theorem zJv{s:Nat}{x:Option T}:∀{wr:Wr},wr.find s=ud x→(s,x)∈wr
 | [],h=>by grind[Wr.find]
 |(k,y)::wr,h=>by
  simp only[Wr.find]at h;split at h
  ·grind
  ·exact Q8 _ (zJv h)
theorem qB.apps{hs:List Nat}:∀(l:zEL)(E:Env),qB hs E→(l.all fun y=>y.1.all (zUh hs))=uf→qB hs (E.apps l)
 | [],_,h,_=>h
 |x::l,E,h,hw=>by
  simp only[Ja2,J2]at hw;refine qB.apps l (E.app x.1 x.2) (fun s gH=>?_) hw.2;obtain⟨t,he,ht⟩:=h s gH;unfold Env.app;cases hf:x.1.find s with
  |some y=>
   have h1:=K0.1 hw.1 _ (zJv hf);simp only[zUh,gH,Jc,Bool.false_or]at h1
   grind
  |none=>grind[uC]
theorem qB.runD{hs:List Nat}:∀(l:List (Bool×Stp))(E:Env),qB hs E→(∀y∈l,wrS hs y.2=uf)→qB hs (runD E l)
 | [],_,h,_=>h
 |(b,X)::l,E,h,hw=>by
  simp only[Go.Ab.runD];refine qB.runD l _ ?_ fun y hy=>hw y (by simp[hy])
  cases b with
  |true=>exact qB.apps X.l E h (hw (uf,X) (by simp))
  |false=>exact h
section
variable {P:Program}{Γ:Ctx}{pn:qG}{E E':Env}{Q:Exit→Env→Prop}{ops:Array Oper}{o:Oper}{os:List Oper}{id:Nat}{wr:Wr}{chg:Chg}{hs:List Nat}
def zM1(P:Program)(Γ:Ctx)(pn:qG)(ops:Array Oper)(o:Oper)(E E':Env):Prop:=
 ∀(a:Act)(w:World)(K:Act→World→Prop)(Q:Exit→Act→World→Prop),pn.Hold a→qD Γ E a w→(∀a' w',qD Γ E' a' w'→(∀s,o.dst≠ud s→a'.tmps[s]? =a.tmps[s]?)→K a' w')→
  if Region.wanted o (yielded ops a.tmps)then o.wp P a w K Q∨(o.asks P a w∧LetsOut Q)else K (a.put o.dst undef) w
def wX(P:Program)(Γ:Ctx)(pn:qG)(hs:List Nat)(ops:Array Oper):List Oper→List Stp→Prop
 | [],[]=>True
 |o::os,X::Xs=>(∀E:Env,E.Has X.rd→qB hs E→zM1 P Γ pn ops o E (E.apps X.l))∧wX P Γ pn hs ops os Xs
 |_,_=>False
theorem wX.get:∀(os:List Oper)(Xs:List Stp),wX P Γ pn hs ops os Xs→os.length=Xs.length∧ ∀(i:Nat)(o:Oper)(X:Stp),os[i]? =ud o→Xs[i]? =ud X→ ∀E:Env,E.Has X.rd→qB hs E→zM1 P Γ pn ops o E (E.apps X.l)
 | [],[],_=>by simp
 |o::os,X::Xs,h=>by
  obtain⟨h1,h2⟩:=wX.get os Xs h.2;refine⟨by simp[h1],fun i o' X' ho hX=>?_⟩;cases i with
  |zero=>simp at ho hX;subst ho hX;exact h.1
  |succ i=>exact h2 i o' X' (by simpa using ho) (by simpa using hX)
 | [],_::_,h=>by simp[wX]at h
 |_::_,[],h=>by simp[wX]at h
theorem wX.snoc{X:Stp}:∀(os:List Oper)(Xs:List Stp),wX P Γ pn hs ops os Xs→(∀E:Env,E.Has X.rd→qB hs E→zM1 P Γ pn ops o E (E.apps X.l))→wX P Γ pn hs ops (os++[o]) (Xs++[X])
 | [],[],_,h=>⟨h,trivial⟩
 |_::os,_::Xs,h1,h=>⟨h1.1,wX.snoc os Xs h1.2 h⟩
 | [],_::_,h,_=>by simp[wX]at h
 |_::_,[],h,_=>by simp[wX]at h
theorem tO.snoc{X:Stp}:∀(Xs:List Stp)(E:Env),tO E Xs→(runD E (Xs.map fun y=>(uf,y))).Has X.rd→tO E (Xs++[X])
 | [],_,_,h=>⟨by grind[runD],trivial⟩
 |_::Xs,_,h1,h=>⟨h1.1,tO.snoc Xs _ h1.2 (by simpa[runD]using h)⟩
theorem zIi{E0:Env}{gZ:List Nat}{Xs:List Stp}{an:List (List Nat)}{Q':Exit→Act→World→Prop}(hf:zAf 0 ops.toList=uf)(ha:jT an an ops.toList=uf)(hp:qH Xs 0 an Xs=uf)
  (gF:wX P Γ pn gZ ops ops.toList Xs)(hI:qB gZ E0)(hw:Xs.all (wrS gZ)=uf)(hh:tO E0 Xs)(bU:ops.toList.all (fun o=>pn.ok o.dst)=uf)(hQ:∀a' w',qD Γ (runD E0 (Xs.map fun y=>(uf,y))) a' w'→pn.Hold a'→Q' .normal a' w'):
  ∀(fuel:Nat)(L:List Bool)(a:Act)(w:World),L.length=ops.size→L.count ug=fuel→zOL ops L→qD Γ (runD E0 (L.zip Xs)) a w→pn.Hold a→wpAny P .any ops Q' fuel L.toArray a w:=by
 obtain⟨gg,fE⟩:=wX.get _ _ gF;have pJ:Xs.length=ops.size:=by grind
 intro fuel
 induction fuel with
 |zero=>
  intro L a w hL hcnt gI hs eZ;have fc:∀b∈L,b=uf:=by grind
  have u7:L=J1 ops.size uf:=by rw[←hL];exact List.eq_replicate_iff.2 ⟨rfl,fc⟩
  refine⟨?_,?_⟩
  ·apply List.eq_nil_iff_forall_not_mem.2
   intro j hj;obtain⟨h1,o,ho,_⟩:=mem_ready.1 hj;have gT:=(Le.1 ho).1;rw[u7]at h1;simp[gT]at h1
  ·refine hQ a w ?_ eZ
   have:L.zip Xs=Xs.map fun y=>(uf,y):=by
    rw[u7,←pJ]
    clear hs hL u7 fc hcnt gI gF hw hh hp gg pJ fE hQ
    induction Xs with
    |nil=>rfl
    |cons X Xs ih=>simp[K6,ih]
   grind
 |succ fuel ih=>
  intro L a w hL hcnt gI hs eZ;refine⟨fun hr=>?_,fun i hi=>?_⟩
  ·
   exfalso
   have bp:∃m:Nat,L[m]? =ud ug:=by
    have:ug∈L:=by grind
    grind[Uv]
   obtain⟨m,hm,pf⟩:=zGS bp;have hmlt:=(Jg.1 hm).1;have ap:ops[m]? =ud ops[m]:=by simp
   have:m∈Region.ready .any ops L.toArray:=by
    refine mem_ready.2 ⟨by simp_all,ops[m],ap,fun e he hb=>?_⟩;have hpm:e.on∈zA6 ops[m]:=by
     simp only[zA6,Je,Ja6]
     grind
    have gT:=zES ops.toList 0 m _ hf (by simp) _ hpm;rw[J6]at gT;cases hL1:L[e.on]? with
    |none=>grind
    |some b=>
     cases b with
     |false=>grind
     |true=>simp_all
   grind
  ·obtain⟨h1,o,ho,fc⟩:=mem_ready.1 hi
   have gT:=(Le.1 ho).1;have hLi:L[i]? =ud ug:=by simp_all
   have ei:∀m∈zA6 o,L[m]? =ud uf:=by
    intro m hm;simp only[zA6,Je,Ja6]at hm;obtain⟨e,⟨he,hb⟩,rfl⟩:=hm;have:=fc e (by grind) hb;cases hL1:L[e.on]? with
    |none=>grind
    |some b=>simp_all
   have hanc:=zF7 hf ha gI i i (Jh _) o ho ei;have br:Xs[i]? =ud Xs[i]:=by simp
   generalize hXe:Xs[i]=X at br
   have te:∀(j:Nat)(Y:Stp),Xs[j]? =ud Y→i<j→L[j]? =ud uf→X.apart Y=uf:=by
    intro j Y hY hij hj;rcases zDY Xs Xs 0 an j Y hp hY i X (by omega) br with h|h
    ·have hjlt:=(Jg.1 hY).1
     have hoj:ops[j]? =ud ops[j]:=by simp
     have:=zF7 hf ha gI j j (Jh _) _ hoj (gI j _ hoj hj) i h
     grind
    ·exact h
   have mG:∀(j:Nat)(Y:Stp),Xs[j]? =ud Y→j<i→L[j]? =ud ug→Y.apart X=uf:=by grind[zDY]
   have bT:∀y∈(L.take i).zip (Xs.take i),∃j:Nat,j<i∧L[j]? =ud y.1∧Xs[j]? =ud y.2:=by
    intro y hy;obtain⟨j,g1,g2⟩:=zHZ hy;rw[Lm]at g1 g2
    grind
   have pD:∀y∈(L.drop (i+1)).zip (Xs.drop (i+1)),∃j:Nat,i<j∧L[j]? =ud y.1∧Xs[j]? =ud y.2:=by
    intro y hy;obtain⟨j,g1,g2⟩:=zHZ hy;rw[Ln]at g1 g2
    grind
   have m9:=zHa hLi br;have dH:(runD E0 (L.zip Xs)).Has X.rd:=by
    rw[m9,jA];simp only[runD,Lu,if_false];have h0:=tO.get Xs E0 hh i X br;refine h0.of fun s t gF gZ=>?_
    have aV:s∈X.rd.map (·.1):=by grind
    refine zGZ _ _ (fun y hy hb=>?_) ?_
    ·obtain⟨j,g1,g2,g3⟩:=pD y hy
     have:=Stp.apart_spec (te j y.2 g3 g1 (by rw[g2,hb]));exact⟨by grind,by grind⟩
    ·have hmp:((L.take i).zip (Xs.take i)).map (fun y=>(uf,y.2))=(Xs.take i).map fun y=>(uf,y):=by
      have hl2:(L.take i).length=(Xs.take i).length:=by simp;omega
      rw[show(fun y:Bool×Stp=>(uf,y.2))=(fun y=>(uf,y))∘Prod.snd from rfl,←Uh,List.map_snd_zip (by omega)]
     refine zGY _ E0 E0 (fun y hy hb gH=>?_) (fun _ h=>h) t (by grind);obtain⟨j,g1,g2,g3⟩:=bT y hy;have:=Stp.apart_spec (mG j y.2 g3 g1 (by rw[g2,hb]))
     grind
   have hnext:runD E0 ((L.set i uf).zip Xs)=(runD E0 (L.zip Xs)).apps X.l:=by
    have hLs:(L.set i uf)[i]? =ud uf:=by grind
    rw[zHa hLs br,m9,jA,jA];simp only[runD,if_true,Lu,if_false,List.take_set_of_le (Jh i),List.drop_set_of_lt (Nat.lt_succ_self i)];refine zDX _ X _ fun y hy hb=>?_
    obtain⟨j,g1,g2,g3⟩:=pD y hy;exact(Stp.apart_spec (by grind)).1
   have aT:=fE i o X (by grind) br _ dH (qB.runD (L.zip Xs) E0 hI fun y hy=>K0.1 hw _ (by obtain⟨j,_,g⟩:=zHZ hy;grind));unfold wpOp;simp only[ho];refine aT a w _ Q' eZ hs fun a' w' gH pi=>?_
   rw[List.setIfInBounds_toArray];have gG:pn.ok o.dst=uf:=by grind
   refine ih (L.set i uf) a' w' (by simp[hL]) (by grind) ?_ (by grind) (eZ.frame gG pi);intro k ok hk hkt m hm
   by_cases hki:k=i
   ·subst hki
    rw[ho]at hk;simp at hk;subst hk;rw[Jaf];split
    ·grind
    grind
   ·rw[Jb4 (Ne.symm hki)]at hkt
    rw[Jaf];split
    ·grind
    ·exact gI k ok hk hkt m hm
theorem CW.drawnI{gZ:List Nat}{id:Nat}{E:Env}{Q:Exit→Env→Prop}(Xs:List Stp)(an:List (List Nat))(hm:P.follows .mixedOrders=uf)(gF:wX P Γ pn gZ ops ops.toList Xs)(hI:qB gZ E)(hw:Xs.all (wrS gZ)=uf)(hh:tO E Xs)
  (hQ:Q .normal (runD E (Xs.map fun y=>(uf,y))))(hf:zAf 0 ops.toList=uf:=by rfl)(ha:jT an an ops.toList=uf:=by rfl)(hp:qH Xs 0 an Xs=uf:=by rfl)
  (bU:ops.toList.all (fun o=>pn.ok o.dst)=uf:=by rfl):CW P Γ pn (.region id ops uf) E Q:=by
 intro a w Q' hs eZ hQ';refine wp_region_any hm ?_;have gH:qD Γ E a { w with drawn:=w.drawn+1 }:=by obtain⟨S,hS,gP,G,hr⟩:=hs;exact⟨S,hS,gP,G,hr.heap rfl⟩
 have:=zIi (P:=P) (Γ:=Γ) (pn:=pn) (E0:=E) (Q':=Q') hf ha hp gF hI hw hh bU (by grind) ops.size (J1 ops.size ug) a { w with drawn:=w.drawn+1 } (by simp) (by simp)
  (fun i o ho hi=>by
   grind) (by
   have:runD E ((J1 ops.size ug).zip Xs)=E:=by
    generalize ops.size=n
    clear gF hI hw hh hQ hf ha hp gH
    induction n generalizing Xs with
    |zero=>simp[runD]
    |succ n ih=>
     cases Xs with
     |nil=>simp[runD]
     |cons X Xs=>simpa[K6,runD]using ih Xs
   grind) eZ
 grind
def DK(P:Program)(Γ:Ctx)(pn:qG)(ops:Array Oper)(id:Nat)(hs:List Nat)(E0:Env)(Q:Exit→Env→Prop)(os:List Oper)(E:Env)(acc:List Stp):Prop:=
 ∀don,don++os=ops.toList→wX P Γ pn hs ops don acc.reverse→tO E0 acc.reverse→E=runD E0 (acc.reverse.map fun y=>(uf,y))→CW P Γ pn (.region id ops uf) E0 Q
variable {E0:Env}{acc:List Stp}
theorem CW.dk(h:DK P Γ pn ops id [] E Q ops.toList E []):CW P Γ pn (.region id ops uf) E Q:=h [] rfl trivial trivial rfl
theorem dGP(rd:List (Nat×T))(l:zEL)(gA:E.Has rd)(gF:∀E':Env,E'.Has rd→qB hs E'→zM1 P Γ pn ops o E' (E'.apps l))(k:DK P Γ pn ops id hs E0 Q os (E.apps l) (⟨rd,l⟩::acc)):DK P Γ pn ops id hs E0 Q (o::os) E acc:=by
 intro don hd hso hh hE;subst hE;have hr:=fun X=>U6 (a:=X) (as:=acc)
 refine k (don++[o]) (by simp[hd]) ?_ ?_ ?_
 ·grind[wX.snoc]
 ·grind[tO.snoc]
 ·rw[hr,Ld,jA];rfl
theorem dGS(rd:List (Nat×T))(l:zEL)(gA:E.Has rd)(gF:∀E':Env,E'.Has rd→qB hs E'→zQ P Γ ops o E' (E'.apps l))(k:DK P Γ pn ops id hs E0 Q os (E.apps l) (⟨rd,l⟩::acc)):DK P Γ pn ops id hs E0 Q (o::os) E acc:=
 dGP rd l gA (fun E' h h' a w K Q _=>gF E' h h' a w K Q) k
theorem dG(rd:List (Nat×T))(l:zEL)(gA:E.Has rd)(gF:∀E':Env,E'.Has rd→zQ P Γ ops o E' (E'.apps l))(k:DK P Γ pn ops id hs E0 Q os (E.apps l) (⟨rd,l⟩::acc)):DK P Γ pn ops id hs E0 Q (o::os) E acc:=
 by grind[dGS]
def zPc(hs:List Nat)(E:Env):Bool:=hs.all fun s=>match E s with
 |some t=>kZ t
 |none=>ug
theorem zPd(h:zPc hs E=uf):qB hs E:=by
 intro s gH;have h1:=K0.1 h s (by grind)
 grind
theorem dN(an:List (List Nat))(hm:P.follows .mixedOrders=uf)(hQ:Q .normal E)(hf:zAf 0 ops.toList=uf:=by rfl)(ha:jT an an ops.toList=uf:=by rfl)(hp:qH acc.reverse 0 an acc.reverse=uf:=by rfl)
  (bU:ops.toList.all (fun o=>pn.ok o.dst)=uf:=by rfl)(bn:zPc hs E0=uf:=by rfl)(hw:acc.reverse.all (wrS hs)=uf:=by rfl):DK P Γ pn ops id hs E0 Q [] E acc:=by
 intro don hd gF hh hE
 grind[CW.drawnI,zPd]
end
end Go.Ab
