/- x -/
import Derived.Test.YtchnmobojdcikaaGreatKAbA
import Derived.Laws.CopyRow
import Derived.ProofKit
open List renaming replicate→J1,length_append→J5,getElem?_eq_getElem→J7,mem_cons→J9,append_nil→Jb,length_cons→Jc,getElem?_append_right→Je,mem_append→Jf,append_assoc→Jg,range→Jh,mem_map→Ji,getElem?_eq_some_iff→Jo,length_map→Js,map_cons→Jt,replicate_succ→Ju,length_nil→K0,getElem?_append_left→K3,getElem?_map→K4,reverse_reverse→K5,mem_iff_getElem→K6,all_eq_true→K8,eq_nil_of_length_eq_zero→Kb,cons_append→Kd,getElem?_append→Kn,range'→Kt,nodup_cons→Kx,length_take→L4,take_succ_cons→L5,range_eq_range'→L7,mem_of_getElem?→Lj,getElem?_drop→Lm,flatMap_cons→Lq,map_append→Ls,contains_eq_mem→H0,getElem?_take→Ha,length_range→Hi,reverse_nil→Gb,map_nil→Gp,reverse_cons→Gt,map_take→U5,all_cons→U6,find?_cons_of_neg→Ul,mem_iff_getElem?→Uo,mem_cons_of_mem→Ut,map_map→Uu,getLast?_append→Uv,dropLast_concat→Uw,getElem?_set_self→Q9,find?_eq_none→Qa,getElem?_set_ne→Qs,mem_filter→Qx,getElem?_cons_succ→Qy,cons→Ja0,map_drop→Ja5,getElem?_set→Ja6,getD→Jan,range'_succ→Jav
open Bool renaming and_eq_true→J2,not_true→Ja,and_self→La,false_eq_true→Hg,not_eq_true'→G7,true_and→Jao
open Nat renaming blt→J4,zero_add→Jd,le_refl→Jk,mul_le_mul_right→Jw,succ_mul→K7,zero_le→Kf,add_assoc→H3,le_trans→Hl,div_add_mod→Gf,mul_one→Gl,mod_lt→Gz,div_lt_iff_lt_mul→U9,ble→Un,sub_zero→Qn,add_zero→Jad
open Array renaming getElem?_setIfInBounds→Jj,length_toList→Kh,getD_eq_getD_getElem?→Kj,getElem?_toList→Ks,getElem?_eq_some_iff→Ht,replicate→Ub
open Option renaming map_eq_some_iff→Kk,some→Ll,map_some→Gk,map_eq_none_iff→Ug,bind_eq_some_iff→Ui,getD_some→Ql
open Prod renaming mk→Ja1
open Option renaming some→dJ,none→dK
open Bool renaming true→dL,false→dM
namespace Go.Ab
open Go
abbrev Rw:=List (Nat×Nat×T)
def rwI(rw:Rw)(s:Nat):Option Nat:=(rw.find? fun x=>x.2.1==s).map (·.1)
def rwS(rw:Rw)(i:Nat):Option Nat:=(rw.find? fun x=>x.1==i).map (·.2.1)
theorem zCW:(rw:Rw)→(rw.map (·.2.1)).Nodup→ ∀{i s:Nat}{u:T},(i,s,u)∈rw→rwI rw s=dJ i
 | [],_,_,_,_,h=>by simp at h
 |(i0,s0,u0)::rw,hn,i,s,u,h=>by
  simp only[Jt,Kx,Ji]at hn;rcases J9.1 h with h|h
  ·simp at h;obtain⟨rfl,rfl,rfl⟩:=h;simp[rwI]
  ·have gg:s0≠s:=fun e=>hn.1 ⟨_,h,e.symm⟩
   have:=zCW rw hn.2 h;simp only[rwI]at this ⊢
   rw[Ul (by simpa using gg)];exact this
theorem zLE:(rw:Rw)→(rw.map (·.1)).Nodup→ ∀{i s:Nat}{u:T},(i,s,u)∈rw→rwS rw i=dJ s
 | [],_,_,_,_,h=>by simp at h
 |(i0,s0,u0)::rw,hn,i,s,u,h=>by
  simp only[Jt,Kx,Ji]at hn;rcases J9.1 h with h|h
  ·simp at h;obtain⟨rfl,rfl,rfl⟩:=h;simp[rwS]
  ·have gg:i0≠i:=fun e=>hn.1 ⟨_,h,e.symm⟩
   have:=zLE rw hn.2 h;simp only[rwS]at this ⊢
   rw[Ul (by simpa using gg)];exact this
theorem zLF{rw:Rw}{s:Nat}(h:s∉rw.map (·.2.1)):rwI rw s=dK:=by simp only[rwI,Ug,Qa];intro x hx;simp only[beq_iff_eq];exact fun e=>h (Ji.2 ⟨x,hx,e⟩)
theorem zSk{rw:Rw}{i:Nat}(h:∀x∈rw,x.1≠i):rwS rw i=dK:=by simp only[rwS,Ug,Qa];intro x hx;simpa using h x hx
theorem zOZ{rw:Rw}{s i:Nat}(h:rwI rw s=dJ i):s∈rw.map (·.2.1):=by simp only[rwI,Kk]at h;obtain⟨x,hx,_⟩:=h;have h1:=List.mem_of_find?_eq_some hx;have h2:=List.find?_some hx;exact Ji.2 ⟨x,h1,by simpa using h2⟩
abbrev Nd:=List (Nat×List Nat×T)
def zSl(nd:Nd)(k s:Nat):Option (Nat×List Nat):=
 match nd with
 | []=>dK
 |x::r=>if x.1=s then dJ (k,x.2.1)else zSl r (k+1) s
def ndB(d:Nat)(nd:Nd)(s:Nat)(z:List Nat):Option (Nat×List Nat):=
 match nd with
 | [x]=>if x.1=s∧x.2.1<:+z then dJ (d,z.take (z.length-x.2.1.length))else dK
 |nd=>match zSl nd 0 s with
  |some (k,q)=>if q<:+z then dJ (d,z.take (z.length-q.length)++[k])else dK
  |none=>dK
theorem zJh:(nd:Nd)→(nd.map (·.1)).Nodup→ ∀{k k0:Nat}{x:Nat×List Nat×T},nd[k]? =dJ x→zSl nd k0 x.1=dJ (k0+k,x.2.1)
 | [],_,_,_,_,h=>by simp at h
 |y::nd,hn,k,k0,x,h=>by
  simp only[Jt,Kx,Ji]at hn;cases k with
  |zero=>simp at h;subst h;simp[zSl]
  |succ k=>
   simp only[Qy]at h;have gg:y.1≠x.1:=fun e=>hn.1 ⟨x,Lj h,e.symm⟩
   simp only[zSl,gg,if_false];rw[zJh nd hn.2 h]
   congr 2;omega
def zSm(G:Gh)(nd:Nd)(z:List Nat):Value:=
 match nd with
 | [x]=>G.hd x.1 (z++x.2.1)
 |nd=>match z.getLast? with
  |some k=>(match nd[k]? with
   |some x=>G.hd x.1 (z.dropLast++x.2.1)
   |none=>.bool dM)
  |none=>.bool dM
def zWd(G:Gh)(nd:Nd)(z:List Nat):Addr:=
 match nd with
 | [x]=>G.ad x.1 (z++x.2.1)
 |nd=>match z.getLast? with
  |some k=>(match nd[k]? with
   |some x=>G.ad x.1 (z.dropLast++x.2.1)
   |none=>default)
  |none=>default
def Gh.arg(G:Gh)(a:Act)(xs:List Operand)(rw:Rw):Gh where
 hd i z:=match xs[i]? with
  |some (.tmp s)=>G.hd s z
  |some x=>kZ (a.eval x)
  |none=>.bool dM
 ad i z:=match xs[i]? with
  |some (.tmp s)=>G.ad s z
  |_=>default
 lb b o:=match G.lb b o with
  |some (f,s,z)=>(match rwI rw s,G.ow b with
   |some i,dJ (s',_)=>if s'=s then dJ (f,i,z)else dK
   |_,_=>dK)
  |none=>dK
 ow b:=match G.ow b with
  |some (s,z)=>(match rwI rw s with
   |some i=>dJ (i,z)
   |none=>dK)
  |none=>dK
def zBx(G:Gh)(rw:Rw)(b:Nat):Prop:=∃s z,G.ow b=dJ (s,z)∧s∈rw.map (·.2.1)
def zEd(d:Nat)(rw:Rw)(nd:Nd)(s:Nat)(z:List Nat):Option (Nat×List Nat):=
 match rwS rw s with
 |some s'=>dJ (s',z)
 |none=>ndB d nd s z
open Classical in
noncomputable def Gh.back (G G':Gh) (n0 d:Nat) (rw:Rw) (nd:Nd):Gh where
 hd s z:=if s=d then zSm G' nd z else match rwI rw s with
  |some i=>G'.hd i z
  |none=>G.hd s z
 ad s z:=if s=d then zWd G' nd z else match rwI rw s with
  |some i=>if z=[]then G.ad s z else G'.ad i z
  |none=>G.ad s z
 lb b o:=if zBx G rw b∨n0≤b then(match G'.lb b o with
  |some (f,s,z)=>(match zEd d rw nd s z with
   |some (s',z')=>dJ (f,s',z')
   |none=>dK)
  |none=>dK)else G.lb b o
 ow b:=if zBx G rw b∨n0≤b then(match G'.ow b with
  |some (s,z)=>zEd d rw nd s z
  |none=>dK)else G.ow b
def zCX(res:List T):T:=match res with
 | [u]=>u
 |us=>.tup us
def cWr(d:Nat)(res:List T)(rw:Rw):Wr:=(d,dJ (zCX res))::rw.map fun x=>(x.2.1,dJ x.2.2)
def cLv(t:T):Nat:=if t.single then 1 else 0
def vP(d:Nat)(rw:Rw):Chg:=(d,0)::rw.map fun x=>(x.2.1,cLv x.2.2)
theorem zHx{d:Nat}{rw:Rw}{x:Nat×Nat×T}(h:x∈rw):(x.2.1,cLv x.2.2)∈vP d rw:=Ut _ (Ji.2 ⟨x,h,rfl⟩)
theorem zPa{Gn G':Gh}{d:Nat}:(nd:Nd)→ ∀(j:Nat),(∀k x,nd[k]? =dJ x→ ∀z,Gn.hd d (z++[j+k])=G'.hd x.1 (z++x.2.1))→zA1 Gn d (nd.map (·.2.2)) [] j=nd.map fun x=>sO G' x.1 x.2.2 x.2.1
 | [],_,_=>by simp[zA1]
 |x::nd,j,h=>by
  have ih:=zPa (Gn:=Gn) (G':=G') (d:=d) nd (j+1) (fun k y hy z=>by rw[show j+1+k=j+(k+1)from by omega];exact h (k+1) y (by simpa using hy) z)
  simp only[Jt,zA1,ih];rw[zCl x.2.2 x.2.1 [j] (by simpa using h 0 x (by simp))]
theorem zSn{d:Nat}{res:List T}{rw:Rw}{s:Nat}{x:Option T}(h:(cWr d res rw).find s=dJ x):(s=d∧x=dJ (zCX res))∨(s≠d∧ ∃i u,(i,s,u)∈rw∧x=dJ u):=by
 simp only[cWr,Wr.find]at h;split at h
 ·rename_i he;simp at h;exact .inl ⟨he.symm,h.symm⟩
 ·rename_i gg
  refine .inr ⟨fun e=>gg e.symm,?_⟩
  clear gg
  induction rw with
  |nil=>simp[Wr.find]at h
  |cons y rw ih=>
   simp only[Jt,Wr.find]at h;split at h
   ·rename_i he;simp at h;subst he;exact⟨y.1,y.2.2,by simp,h.symm⟩
   ·obtain⟨i,u,h1,h2⟩:=ih h;exact⟨i,u,by simp[h1],h2⟩
theorem zSo{d:Nat}{res:List T}{rw:Rw}{s:Nat}(h:(cWr d res rw).find s=dK):s≠d∧s∉rw.map (·.2.1):=by
 simp only[cWr,Wr.find]at h;split at h
 ·cases h
 ·rename_i gg
  refine⟨fun e=>gg e.symm,?_⟩
  clear gg
  induction rw with
  |nil=>simp
  |cons y rw ih=>
   simp only[Jt,Wr.find]at h;split at h
   ·cases h
   ·rename_i he
    simp only[Jt,J9,not_or];exact⟨fun e=>he e.symm,ih h⟩
def aft(S Sc S':Stb):Stb:=fun b=>match Sc b with
 |none=>S' b
 |some _=>S b
theorem Rep.up{Γ:Ctx}{E:Env}{G:Gh}{tmps tmps':Array Value}{w w':World}{G':Gh}{wr:Wr}{chg:Chg}{S:Stb}(h:Rep Γ E G tmps w)(hS:∀b x,Γ.St b=dJ x→S b=dJ x)
  (gN:tmps'.size=tmps.size)(hk:kR chg G w G' w')(gn:Mem (Γ.at S) G' w')
  (gE:∀s,wr.find s=dK→(∀n,(s,n)∉chg)∧tmps'[s]? =tmps[s]?)
  (er:∀s t,wr.find s=dJ (dJ t)→Ent (Γ.at S) G' w' tmps'[s]? s t):Rep (Γ.at S) (E.app wr chg) G' tmps' w' where
 size:=by rw[gN];exact h.size
 mem:=gn
 ent s t hs:=by
  unfold Env.app at hs;cases hf:wr.find s with
  |some x=>
   rw[hf]at hs;simp at hs;subst hs;exact er s t hf
  |none=>
   rw[hf]at hs;simp at hs;cases he:E s with
   |none=>simp[he]at hs
   |some u=>
    simp[he]at hs;obtain⟨gz,rfl⟩:=hs;rw[(gE s hf).2];obtain⟨e1,e2,e3⟩:=Ent.keep hk (gE s hf).1 gz (h.ent s u he);exact⟨e1,zKq hS u [] e2,e3⟩
section
variable {P:Program}{Γ:Ctx}{E:Env}{d:Nat}
theorem zHy{G:Gh}{a:Act}{w:World}(g9:Rep Γ E G a.tmps w)(hd:d<Γ.N){Sc:Stb}{rw:Rw}(hS1:∀b x,Sc b=dJ x→w.heap[b]? =dJ x∧ ¬zBx G rw b)(hS0:∀b x,Γ.St b=dJ x→Sc b=dJ x){f:FuncId}{us res:List T}
  (hc:FnC P f us res (rw.map fun x=>(x.1,x.2.2))){xs:List Operand}(gf:xs.length=us.length)
  (gj:∀(i:Nat) u,us[i]? =dJ u→(∃x,xs[i]? =dJ x∧a.eval x=mkV (G.arg a xs rw) i u []∧R Sc (G.arg a xs rw) w i u []))
  (hn1:(d::rw.map (·.2.1)).Nodup)(me:(rw.map (·.1)).Nodup)(eZ:∀x∈rw,xs[x.1]? =dJ (.tmp x.2.1))
  (gx:∀u∈res,zW u∧u.okTup=dL∧ ∀(S':Stb)(G:Gh)(w:World)(s:Nat)(p:List Nat),(∀b x,Sc b=dJ x→S' b=dJ x)→R S' G w s u p→R (aft Γ.St Sc S') G w s u p)
  (bw:∀x∈rw,zW x.2.2∧(∀(S':Stb)(G:Gh)(w:World)(s:Nat)(p:List Nat),(∀b x,Sc b=dJ x→S' b=dJ x)→R S' G w s x.2.2 p→R (aft Γ.St Sc S') G w s x.2.2 p)∧ ∃u,E x.2.1=dJ u∧x.2.2.single=u.single∧us[x.1]? =dJ u):
  Calls P f (xs.map a.eval).toArray w fun e w'=> ∃v,e=.returned v∧ ∃S G',zDR Γ.St S Γ.W Γ.w0.heap.size∧kR (vP d rw) G w G' w'∧Rep (Γ.at S) (E.app (cWr d res rw) (vP d rw)) G' (a.tmps.setIfInBounds d v) w':=by
 have hm:=g9.mem;have pR:=Kx.1 hn1;have hmc:Mem ⟨Sc,zBx G rw,w,0⟩ (G.arg a xs rw) w:=by
  have gG:∀b,zBx G rw b→Sc b=dK:=fun b h=>by
   cases hs:Sc b with
   |none=>rfl
   |some x=>exact absurd h (hS1 b x hs).2
  refine⟨fun i z=>?_,fun b o l hl=>?_,fun b l hl=>?_,fun b x hx=>(hS1 b x hx).1,fun b _ _=>rfl,Jk _,⟨fun b cs e h=>⟨cs,h,rfl⟩,rfl,rfl⟩⟩
  ·simp only[Gh.arg]
   split
   ·exact hm.one _ _
   ·exact zBP _
   ·rfl
  ·simp only[Gh.arg]at hl
   split at hl
   ·rename_i f' s z hg
    split at hl
    ·rename_i i s' y hi ho
     split at hl
     ·rename_i he;subst he
      have hL:zBx G rw b:=⟨s',y,ho,zOZ hi⟩;exact⟨(hm.lb b o _ hg).1,.inr hL,gG b hL⟩
     ·cases hl
    ·cases hl
   ·cases hl
  ·simp only[Gh.arg]at hl
   split at hl
   ·rename_i s z hg
    split at hl
    ·rename_i i hi
     have hL:zBx G rw b:=⟨s,z,hg,zOZ hi⟩;exact⟨(hm.ow b _ hg).1,.inr hL,gG b hL⟩
    ·cases hl
   ·cases hl
 have gp:=hc Sc (zBx G rw) w (G.arg a xs rw) (xs.map a.eval).toArray (by simp[gf]) (fun i u hu=>by obtain⟨x,h1,h2,h3⟩:=gj i u hu;exact⟨by simp[h1,h2],h3⟩) hmc
 refine gp.mono ?_
 rintro e w' ⟨S',G',nd,gV,rfl,gC,fR,pi,ph,bv⟩
 have fd:∀b x,Γ.St b=dJ x→aft Γ.St Sc S' b=dJ x:=fun b x hx=>by simp only[aft,hS0 b x hx,hx]
 have bT:zDR Γ.St (aft Γ.St Sc S') Γ.W Γ.w0.heap.size:=⟨fd,fun b hb eE=>by
  simp only[aft]at eE;split at eE
  ·rename_i hs
   rcases gV.nw b hs eE with h|⟨s,z,h,_⟩
   ·exact .inl (by have:=hm.sz;omega)
   ·exact(hm.ow b _ h).2.1
  ·exact absurd hb eE⟩
 refine⟨_,rfl,aft Γ.St Sc S',G.back G' w.heap.size d rw nd,bT,?_⟩;have mq:∀b,b<w.heap.size→ ¬zBx G rw b→w'.heap[b]? =w.heap[b]?:=gC.fr;have gB:w.heap.size≤w'.heap.size:=gC.sz;have gK:Blk w w':=gC.bk.blk
 generalize hGn:G.back G' w.heap.size d rw nd=Gn
 have ghdd:∀z,Gn.hd d z=zSm G' nd z:=fun z=>by rw[←hGn];simp[Gh.back]
 have gadd:∀z,Gn.ad d z=zWd G' nd z:=fun z=>by rw[←hGn];simp[Gh.back]
 have ghd0:∀s z,s≠d→s∉rw.map (·.2.1)→Gn.hd s z=G.hd s z:=fun s z h1 h2=>by rw[←hGn];simp[Gh.back,h1,zLF h2]
 have gad0:∀s z,s≠d→s∉rw.map (·.2.1)→Gn.ad s z=G.ad s z:=fun s z h1 h2=>by rw[←hGn];simp[Gh.back,h1,zLF h2]
 have eO:∀i s u,(i,s,u)∈rw→s≠d:=fun i s u h e=>pR.1 (e▸Ji.2 ⟨_,h,rfl⟩)
 have ghdr:∀i s u z,(i,s,u)∈rw→Gn.hd s z=G'.hd i z:=fun i s u z h=>by rw[←hGn];simp[Gh.back,eO i s u h,zCW rw pR.2 h]
 have gadr:∀i s u z,(i,s,u)∈rw→z≠[]→Gn.ad s z=G'.ad i z:=fun i s u z h h0=>by rw[←hGn];simp[Gh.back,eO i s u h,zCW rw pR.2 h,h0]
 have gadr0:∀i s u,(i,s,u)∈rw→Gn.ad s []=G.ad s []:=fun i s u h=>by rw[←hGn];simp[Gh.back,eO i s u h,zCW rw pR.2 h]
 have glb0:∀b o l,¬zBx G rw b→G.lb b o=dJ l→Gn.lb b o=dJ l:=fun b o l h1 h2=>by have:=(hm.lb b o _ h2).1;rw[←hGn];simp only[Gh.back];rw[if_neg (by rintro(h|h);exact h1 h;omega)];exact h2
 have gow0:∀b l,¬zBx G rw b→G.ow b=dJ l→Gn.ow b=dJ l:=fun b l h1 h2=>by have:=(hm.ow b _ h2).1;rw[←hGn];simp only[Gh.back];rw[if_neg (by rintro(h|h);exact h1 h;omega)];exact h2
 have gJ:∀b o l,G'.lb b o=dJ l→zBx G rw b∨w.heap.size≤b:=fun b o l h=>(gC.lb b o l h).2.1.symm
 have mn:∀b l,G'.ow b=dJ l→zBx G rw b∨w.heap.size≤b:=fun b l h=>(gC.ow b l h).2.1.symm
 have glb1:∀b o fl s z s' z',G'.lb b o=dJ (fl,s,z)→zEd d rw nd s z=dJ (s',z')→Gn.lb b o=dJ (fl,s',z'):=fun b o fl s z s' z' h1 h2=>by rw[←hGn];simp only[Gh.back];rw[if_pos (gJ b o _ h1),h1];simp[h2]
 have gow1:∀b s z l,G'.ow b=dJ (s,z)→zEd d rw nd s z=dJ l→Gn.ow b=dJ l:=fun b s z l h1 h2=>by rw[←hGn];simp only[Gh.back];rw[if_pos (mn b _ h1),h1];simp[h2]
 have ah:∀i s u z,(i,s,u)∈rw→zEd d rw nd i z=dJ (s,z):=fun i s u z h=>by simp[zEd,zLE rw me h]
 have gF:∀x∈rw,x.1<us.length:=fun x hx=>by have:=(Jo.1 (eZ x hx)).1;omega
 have hbn:∀x∈nd,∀z,zEd d rw nd x.1 z=ndB d nd x.1 z:=fun x hx z=>by have h1:=(pi x hx).2;have h2:rwS rw x.1=dK:=zSk (fun y hy e=>by have:=gF y hy;omega);simp[zEd,h2]
 have m6:∀(k:Nat) x,nd[k]? =dJ x→ ∃tgt,(nd.length=1→tgt=[])∧(nd.length≠1→tgt=[k])∧(∀z,Gn.hd d (z++tgt)=G'.hd x.1 (z++x.2.1))∧(∀z,Gn.ad d (z++tgt)=G'.ad x.1 (z++x.2.1))∧ ∀z,zEd d rw nd x.1 (z++x.2.1)=dJ (d,z++tgt):=by
  intro k x hk;have mJ:=Lj hk
  match nd,hk,ph,hbn x mJ,ghdd,gadd with
  | [y],hk,ph,hb,ghdd,gadd=>
   have hkx:y=x:=by
    cases k with
    |zero=>simpa using hk
    |succ k=>simp at hk
   subst hkx;exact⟨[],fun _=>rfl,fun h=>absurd rfl h,fun z=>by rw[ghdd];simp[zSm],fun z=>by rw[gadd];simp[zWd],fun z=>by rw[hb];simp[ndB]⟩
  | [],hk,_,_,_,_=>simp at hk
  |y1::y2::r,hk,ph,hb,ghdd,gadd=>
   refine⟨[k],fun h=>by simp at h,fun _=>rfl,fun z=>by rw[ghdd];simp only[zSm,Uv,Uw];simp[hk],fun z=>by rw[gadd];simp only[zWd,Uv,Uw];simp[hk],fun z=>?_⟩;rw[hb];have:=zJh (y1::y2::r) ph (k0:=0) hk;rw[Jd]at this;simp only[ndB,this];simp
 have pI:∀(k:Nat) x,nd[k]? =dJ x→ ∀tgt,(∀z,Gn.hd d (z++tgt)=G'.hd x.1 (z++x.2.1))→(∀z,Gn.ad d (z++tgt)=G'.ad x.1 (z++x.2.1))→(∀z,zEd d rw nd x.1 (z++x.2.1)=dJ (d,z++tgt))→R (aft Γ.St Sc S') Gn w' d x.2.2 tgt:=by intro k x hk tgt h1 h2 h3;have mJ:=Lj hk;obtain⟨c1,c2,c3⟩:=gx x.2.2 (by rw[←fR];exact Ji.2 ⟨x,mJ,rfl⟩);refine zAS (G:=G') (w:=w') (s:=x.1) (p:=x.2.1) ⟨⟨h1,fun z _=>h2 z,fun b o f' z _ _ hl=>⟨glb1 b o f' _ _ _ _ hl (h3 z),rfl⟩,fun b z _ hl=>gow1 b _ _ _ hl (h3 z),fun b cs e h=>⟨cs,h,rfl⟩⟩,fun b o _ hl=>⟨glb1 b o dL _ _ _ _ hl (by simpa using h3 []),rfl⟩,fun b hl=>gow1 b _ _ _ hl (by simpa using h3 [])⟩ _ (yR.mono (fun _ _=>False.elim) _ c1) (c3 _ _ _ _ _ gV.le (pi x mJ).1)
 have gu:kR (vP d rw) G w Gn w':=by
  have gH:∀s,(∀n,(s,n)∉vP d rw)→s≠d∧s∉rw.map (·.2.1):=fun s h=>⟨fun e=>h 0 (by simp[vP,e]),fun hm=>by obtain⟨x,hx,rfl⟩:=Ji.1 hm;exact h _ (zHx hx)⟩
  have cG:∀b s y,G.ow b=dJ (s,y)→s∉rw.map (·.2.1)→ ¬zBx G rw b:=by
   rintro b s y h1 h2 ⟨s',z',h3,h4⟩
   rw[h1]at h3;simp at h3;exact h2 (h3.1▸h4)
  refine⟨fun s p h=>?_,fun s p h=>?_,fun b o fl s p gY h1 h2=>?_,fun b s p h1 h2=>?_,gK⟩
  ·have h1:s≠d:=fun e=>absurd (h 0 (by simp[vP,e])) (by simp)
   by_cases h2:s∈rw.map (·.2.1)
   ·
    obtain⟨x,hx,rfl⟩:=Ji.1 h2;have hc:=h _ (zHx hx);have c2:x.2.2.single=dL:=by
     cases fb:x.2.2.single with
     |true=>rfl
     |false=>simp[cLv,fb]at hc
    have h3:p=[]:=Kb (by simp only[cLv,c2,if_true]at hc;omega);subst h3;obtain⟨_,_,u,c4,c5,c6⟩:=bw x hx;rw[c2]at c5;have c5:=c5.symm;obtain⟨_,u0,e1,e2⟩:=bv x.1 x.2.2 (Ji.2 ⟨x,hx,rfl⟩);rw[c6]at e1;simp at e1;subst e1;rw[xI c2,xI c5]at e2;rw[ghdr x.1 x.2.1 x.2.2 [] hx,e2];simp[Gh.arg,eZ x hx]
   ·exact ghd0 s p h1 h2
  ·have h1:s≠d:=fun e=>absurd (h 0 (by simp[vP,e])) (by simp)
   by_cases h2:s∈rw.map (·.2.1)
   ·obtain⟨x,hx,rfl⟩:=Ji.1 h2
    have hc:=h _ (zHx hx);have h3:p=[]:=Kb (by have:cLv x.2.2≤1:=(by unfold cLv;split<;>omega);omega);subst h3;exact gadr0 x.1 x.2.1 x.2.2 hx
   ·exact gad0 s p h1 h2
  ·obtain⟨h3,h4⟩:=gH s h2
   obtain⟨y,hy⟩:=gY;have h5:=cG b s y hy h4;exact⟨glb0 b o _ h5 h1,by simp[yL,World.cell?,mq b (hm.lb b o _ h1).1 h5]⟩
  ·obtain⟨h3,h4⟩:=gH s h2
   exact gow0 b _ (cG b s p h1 h4) h1
 have gn:Mem (Γ.at (aft Γ.St Sc S')) Gn w':=by
  have gz:∀b,b<w'.heap.size∧(w.heap.size≤b∨zBx G rw b)∧S' b=dK→zCN (Γ.at (aft Γ.St Sc S')) w' b:=fun b ⟨hb,h,gQ⟩=>by
   have mO:Sc b=dK:=by
    cases hs:Sc b with
    |none=>rfl
    |some x=>rw[gV.le b x hs]at gQ;cases gQ
   refine⟨hb,?_,by simp only[aft,mO];exact gQ⟩;rcases h with h|⟨s,z,h1,_⟩
   ·exact .inl (by have:=hm.sz;show Γ.w0.heap.size≤b;omega)
   ·exact(hm.ow b _ h1).2.1
  have gE:∀b,¬(zBx G rw b∨w.heap.size≤b)→zCN Γ w b→zCN (Γ.at (aft Γ.St Sc S')) w' b:=fun b h ⟨h1,h2,h3⟩=>by
   refine⟨by omega,h2,?_⟩;simp only[aft];split
   ·rename_i hs
    cases gQ:S' b with
    |none=>rfl
    |some x=>
     rcases gV.nw b hs (by rw[gQ];simp)with h4|h4
     ·exact absurd (.inr h4) h
     ·exact absurd (.inl h4) h
   ·exact h3
  refine⟨fun s z=>?_,fun b o l hl=>?_,fun b l hl=>?_,fun b x hx=>?_,fun b(h1:b<Γ.w0.heap.size) h2=>?_,Hl hm.sz gB,hm.bk.trans gK gC.bk.os gC.bk.out⟩
  ·by_cases h1:s=d
   ·subst h1
    rw[ghdd];unfold zSm;split
    ·exact gC.one _ _
    ·split
     ·split
      ·exact gC.one _ _
      ·rfl
     ·rfl
   ·by_cases h2:s∈rw.map (·.2.1)
    ·obtain⟨x,hx,rfl⟩:=Ji.1 h2
     rw[ghdr x.1 x.2.1 x.2.2 z hx];exact gC.one _ _
    ·rw[ghd0 s z h1 h2];exact hm.one _ _
  ·rw[←hGn]at hl
   simp only[Gh.back]at hl;split at hl
   ·rename_i px
    split at hl
    ·rename_i hg
     exact gz b (gC.lb b o _ hg)
    ·cases hl
   ·rename_i px
    exact gE b px (hm.lb b o l hl)
  ·rw[←hGn]at hl
   simp only[Gh.back]at hl;split at hl
   ·rename_i px
    split at hl
    ·rename_i hg
     exact gz b (gC.ow b _ hg)
    ·cases hl
   ·rename_i px
    exact gE b px (hm.ow b l hl)
  ·simp only[aft]at hx
   split at hx
   ·exact gC.st b x hx
   have h1:=hm.st b x hx;have h2:=(Ht.1 h1).1;have h3:¬zBx G rw b:=by
    rintro⟨s,z,h4,_⟩
    rw[(hm.ow b _ h4).2.2]at hx;cases hx
   rw[mq b h2 h3];exact h1
  ·have h3:¬zBx G rw b:=by
    rintro⟨s,z,h4,_⟩
    rcases(hm.ow b _ h4).2.1 with h5|h5
    ·omega
    ·exact h2 h5
   rw[mq b (by have:=hm.sz;omega) h3];exact hm.fr b h1 h2
 have d9:nd.length=res.length:=by rw[←fR];simp
 refine⟨gu,g9.up fd (by simp) gu gn ?_ ?_⟩
 ·intro s hs
  obtain⟨h1,h2⟩:=zSo hs;refine⟨fun n hn=>?_,by rw[Jj];simp[Ne.symm h1]⟩;simp only[vP,J9,Ja1.injEq,Ji]at hn;rcases hn with⟨e,_⟩|⟨x,hx,e,_⟩
  ·exact h1 e
  ·exact h2 (Ji.2 ⟨x,hx,e⟩)
 ·intro s t hs
  rcases zSn hs with⟨rfl,ht⟩|⟨gg,i,u,fU,ht⟩
  ·simp at ht
   subst ht;rw[Jj];simp only[g9.size,hd,if_true];have cy:res=nd.map (·.2.2):=fR.symm
   by_cases hl:nd.length=1
   ·obtain⟨x,hx⟩:∃x,nd=[x]:=List.length_eq_one_iff.1 hl
    obtain⟨tgt,t1,_,t3,t4,t5⟩:=m6 0 x (by simp[hx]);obtain rfl:=t1 hl;have hr:=pI 0 x (by simp[hx]) [] t3 t4 t5;obtain⟨c1,c2,_⟩:=gx x.2.2 (by rw[cy,hx];simp);have eT:zCX res=x.2.2:=by rw[cy,hx];rfl
    have gZ:∀ys,x.2.2≠.tup ys:=fun ys e=>by rw[e]at c2;simp[T.okTup]at c2
    rw[eT];refine⟨?_,hr,Top.of_clean _ c1⟩;rw[zA2 Gn s _ [] gZ,zCl x.2.2 x.2.1 [] t3,hx];rfl
   ·have eT:zCX res=.tup res:=by
     rw[d9]at hl
     match res,hl with
     | [],_=>rfl
     | [u],hl=>simp at hl
     |_::_::_,_=>rfl
    rw[eT];have gI:∀k x,nd[k]? =dJ x→ ∀z,Gn.hd s (z++[0+k])=G'.hd x.1 (z++x.2.1):=fun k x hk z=>by obtain⟨tgt,_,t2,t3,_,_⟩:=m6 k x hk;rw[t2 hl]at t3;rw[Jd];exact t3 z
    refine⟨?_,?_,?_⟩
    ·have hv:=zPa (Gn:=Gn) (G':=G') (d:=s) nd 0 gI
     rw[fR]at hv;simp only[mkV,hv];unfold zLA;split
     ·simp at hl
     ·rfl
    ·simp only[R]
     rw[cy];refine zOP _ [] 0 (fun k u hu=>?_);rw[K4]at hu;cases hk:nd[k]? with
     |none=>simp[hk]at hu
     |some x=>
      simp[hk]at hu;subst hu;obtain⟨tgt,_,t2,t3,t4,t5⟩:=m6 k x hk;rw[t2 hl]at t3 t4 t5;rw[Jd];exact pI k x hk [k] t3 t4 t5
    ·simp only[Top]
     refine uF.of_clean _ ?_;have:∀us:List T,(∀u∈us,zW u)→yT us:=by
      intro us
      induction us with
      |nil=>intro _;trivial
      |cons u us ih=>intro h;exact⟨h u (by simp),ih fun v hv=>h v (by simp[hv])⟩
     exact this res fun u hu=>(gx u hu).1
  ·simp at ht
   subst ht;obtain⟨c1,c3,u0,c4,_,c6⟩:=bw _ fU;obtain⟨r1,u1,e1,e2⟩:=bv i t (Ji.2 ⟨_,fU,rfl⟩);simp only at c4 c6;rw[c6]at e1;simp at e1;subst e1;refine⟨?_,?_,Top.of_clean _ c1⟩
   ·rw[Jj]
    simp only[Ne.symm gg,if_false];have tk:=eZ _ fU;simp only at tk;have m1:mkV Gn s t []=mkV G' i t []:=zF7 t [] [] (fun z=>by rw[Jb];exact ghdr i s t z fU);have m2:mkV (G.arg a xs rw) i u0 []=mkV G s u0 []:=zF7 u0 [] [] (fun z=>by simp[Gh.arg,tk]);rw[(g9.ent s u0 c4).1,m1,e2,m2]
   ·refine zAS (G:=G') (w:=w') (s:=i) (p:=[]) ⟨⟨fun z=>by rw[Jb];exact ghdr i s t z fU,fun z hz=>by rw[Jb];exact gadr i s t z fU hz,fun b o f' z _ _ hl=>?_,fun b z _ hl=>?_,fun b cs e h=>⟨cs,h,rfl⟩⟩,fun b o _ hl=>⟨glb1 b o dL _ _ _ _ hl (ah i s t [] fU),rfl⟩,fun b hl=>gow1 b _ _ _ hl (ah i s t [] fU)⟩ t (yR.mono (fun _ _=>False.elim) _ c1) (c3 _ _ _ _ _ gV.le r1)
    ·rw[Jb]at hl ⊢;exact⟨glb1 b o f' _ _ _ _ hl (ah i s t z fU),rfl⟩
    ·rw[Jb]at hl ⊢;exact gow1 b _ _ _ hl (ah i s t z fU)
end
end Go.Ab

namespace Go.Ab
open Go
def zSp(E:Env)(rs:List Nat)(x:Operand)(t:T):Bool:=
 match x with
 |.tmp s=>qR E rs s t
 |_=>dL
def zCF(E:Env)(rw:Rw)(i:Nat)(x:Operand)(u:T):Prop:=
 (∃s u',x=.tmp s∧(i,s,u')∈rw∧E s=dJ u∧zW u∧u.okTup=dL∧vW u=dL)∨(∃t,opT E x=dJ t∧clo E t=u∧zSp E (rw.map (·.2.1)) x t=dL)
def wZ(E:Env)(rw:Rw):Nat→List Operand→List T→Prop
 |_,[],[]=>True
 |i,x::xs,u::us=>zCF E rw i x u∧wZ E rw (i+1) xs us
 |_,_,_=>False
theorem wZ.length{E:Env}{rw:Rw}:(xs:List Operand)→(us:List T)→ ∀i,wZ E rw i xs us→xs.length=us.length
 | [],[],_,_=>rfl
 |_::xs,_::us,i,h=>by simp[wZ.length xs us (i+1) h.2]
 | [],_::_,_,h=>by simp[wZ]at h
 |_::_,[],_,h=>by simp[wZ]at h
theorem wZ.get{E:Env}{rw:Rw}:(xs:List Operand)→(us:List T)→ ∀i,wZ E rw i xs us→ ∀(j:Nat) u,us[j]? =dJ u→ ∃x,xs[j]? =dJ x∧zCF E rw (i+j) x u
 | [],[],_,_,_,_,h=>by simp at h
 |x::xs,v::us,i,h,j,u,hj=>by
  cases j with
  |zero=>simp at hj;subst hj;exact⟨x,by simp,h.1⟩
  |succ j=>
   obtain⟨y,h1,h2⟩:=wZ.get xs us (i+1) h.2 j u (by simpa using hj);exact⟨y,by simpa using h1,by rwa [show i+(j+1)=i+1+j from by omega]⟩
 | [],_::_,_,h,_,_,_=>by simp[wZ]at h
 |_::_,[],_,h,_,_,_=>by grind
structure zLG (E:Env) (d:Nat) (xs:List Operand) (us:List T) (rw:Rw):Prop where
 nodup:(d::rw.map (·.2.1)).Nodup
 nodup2:(rw.map (·.1)).Nodup
 at_:∀x∈rw,xs[x.1]? =dJ (.tmp x.2.1)
 tree:∀x∈rw,zW x.2.2∧vW x.2.2=dL∧ ∃u,E x.2.1=dJ u∧x.2.2.single=u.single∧us[x.1]? =dJ u
theorem zLG.nil{E:Env}{d:Nat}{xs:List Operand}{us:List T}:zLG E d xs us []:=⟨by simp,by simp,by simp,by simp⟩
theorem zLG.one{E:Env}{d i s:Nat}{u u':T}{xs:List Operand}{us:List T}(h1:d≠s)(h2:xs[i]? =dJ (.tmp s))(h3:zW u')(h4:u'.single=dL)(h5:vW u'=dL)(h6:E s=dJ u)(h7:u.single=dL)(h8:us[i]? =dJ u):
  zLG E d xs us [(i,s,u')]:=⟨by grind,by simp,by grind,by grind⟩
section
variable {P:Program}{Γ:Ctx}{E:Env}{o:Oper}{d:Nat}
theorem zWe{G:Gh}{a:Act}{w:World}(g9:Rep Γ E G a.tmps w){rw:Rw}{xs:List Operand}{us:List T}(hr:zLG E d xs us rw){Sc:Stb}(ei:∀b x,Γ.St b=dJ x→Sc b=dJ x)
  (ej:∀r,r∉rw.map (·.2.1)→ ∀b,(∃y,G.ow b=dJ (r,y))→Sc b=w.heap[b]?){i:Nat}{x:Operand}{u:T}(hx:xs[i]? =dJ x)(hu:us[i]? =dJ u)(h:zCF E rw i x u):
  a.eval x=mkV (G.arg a xs rw) i u []∧R Sc (G.arg a xs rw) w i u []:=by
 rcases h with⟨s,u',rfl,h1,h2,h3,h4,h5⟩|⟨t,h1,rfl,h3⟩
 ·obtain⟨e1,e2,_⟩:=g9.ent s u h2
  have gI:∀z,(G.arg a xs rw).hd i z=G.hd s z:=by grind[Gh.arg]
  have eW:∀z,(G.arg a xs rw).ad i z=G.ad s z:=by grind[Gh.arg]
  have hi:=zCW rw (Kx.1 hr.nodup).2 h1;refine⟨by grind[xP,zF7],?_⟩;refine zQ4 u [] h5 (zAS (St:=Γ.St) (G:=G) (w:=w) (s:=s) (p:=[]) ⟨⟨by grind,by grind,fun b o' f' z _ gY hl=>?_,fun b z _ hl=>?_,fun b cs e h=>⟨cs,h,rfl⟩⟩,fun b o' gY hl=>?_,fun b hl=>?_⟩ u (by grind[yR.mono]) e2)
  ·obtain⟨y,hy⟩:=gY
   exact⟨by grind[Gh.arg],rfl⟩
  ·grind[Gh.arg]
  ·obtain⟨y,hy⟩:=gY
   exact⟨by grind[Gh.arg],rfl⟩
  grind[Gh.arg]
 ·cases x with
  |tmp s=>
   have gI:∀z,(G.arg a xs rw).hd i z=G.hd s z:=by grind[Gh.arg]
   obtain⟨e1,e2,_⟩:=g9.ent s t h1
   grind[zSp,xP,zKr,zYt]
  |const v=>
   simp only[opT]at h1;split at h1
   ·rename_i gm
    simp at h1;subst h1;have gI:(G.arg a xs rw).hd i []=v:=by grind[Gh.arg,Act.eval,zAU]
    exact⟨by grind[clo,mkV,Act.eval],by simp[clo,R,gI]⟩
   ·cases h1
  |func f=>
   simp only[opT]at h1;simp at h1;subst h1;have gI:(G.arg a xs rw).hd i []=.func (.func f) #[] #[]:=by grind[Gh.arg,Act.eval,kZ,Value.oneCell']
   exact⟨by grind[clo,mkV,Act.eval],by simp[clo,R,gI]⟩
  |global g=>grind[opT]
theorem zDB{E:Env}:(t:T)→t.flat=dL→(∀rs s,qR E rs s t=dL)∧clo E t=t
 |.lit _,_|.ro _,_=>by simp[qR,clo]
 |.agg ts,h=>by
  simp only[T.flat]at h;have:=go ts h
  grind[qR,clo]
 |.any,h|.same _ _,h|.addr _ _,h|.sub _ _ _ _ _,h|.sl _ _,h|.ptr _,h|.tup _,h=>by grind[T.flat]
where go:(ts:List T)→zAP ts=dL→(∀rs s,zBj E rs s ts=dL)∧zBW E ts=ts
 | [],_=>by simp[zBj,zBW]
 |x::xs,h=>by simp only[zAP,J2]at h;simp only[zBj,zBW,J2];exact⟨fun rs s=>⟨(zDB x h.1).1 rs s,(go xs h.2).1 rs s⟩,by rw[(zDB x h.1).2,(go xs h.2).2]⟩
theorem zCY{a:Act}{w:World}{K:Act→World→Prop}{Q:Exit→Act→World→Prop}{f:FuncId}{xf:Operand}{xs:List Operand}{ats:Array TypeId}(ho:o.op=.call { callee:=.value xf,args:=xs.toArray,argTypes:=ats })(gc:o.dst=dJ d)
  (gp:∀args w,(callFunc f args).run P w=.ok (.enter f args) w)(hf:a.eval xf=.func (.func f) #[] #[])
  (h:Calls P f (xs.map a.eval).toArray w fun e w'=> ∃v,e=.returned v∧K (a.put (dJ d) v) w'):o.wp P a w K Q:=by
 have gw:(execOp a.eval o).run P w=.ok (.enter f (xs.map a.eval).toArray) w:=by simp[execOp,ho,resolve,hf,Deferred.ofValue,invoke,gp]
 unfold Oper.wp;rw[gw,Oper.upon_enter];refine h.mono ?_
 grind
theorem zLH{G:Gh}{a:Act}{w:World}(g9:Rep Γ E G a.tmps w)(hd:d<Γ.N)(f:FuncId)(xs:List Operand)(us res:List T)(rw:Rw)
  (hc:FnC P f us res (rw.map fun x=>(x.1,x.2.2)))(gj:wZ E rw 0 xs us)(hr:zLG E d xs us rw)(gx:yT res∧yJ res=dL∧uD res=dL):
  Calls P f (xs.map a.eval).toArray w fun e w'=> ∃v,e=.returned v∧ ∃S G',zDR Γ.St S Γ.W Γ.w0.heap.size∧kR (vP d rw) G w G' w'∧Rep (Γ.at S) (E.app (cWr d res rw) (vP d rw)) G' (a.tmps.setIfInBounds d v) w':=by
 classical
 have hm:=g9.mem
 let Sc:Stb:=fun b=>if zBx G rw b then dK else w.heap[b]?
 have ei:∀b x,Γ.St b=dJ x→Sc b=dJ x:=fun b x hx=>by
  have h3:¬zBx G rw b:=by
   rintro⟨s,z,h4,_⟩
   rw[(hm.ow b _ h4).2.2]at hx;cases hx
  simp only[Sc,h3,if_false];exact hm.st b x hx
 have ej:∀r,r∉rw.map (·.2.1)→ ∀b,(∃y,G.ow b=dJ (r,y))→Sc b=w.heap[b]?:=fun r hr' b ⟨y,hy⟩=>by
  have h3:¬zBx G rw b:=by
   rintro⟨s,z,h4,h5⟩
   grind
  grind
 have cR:∀(us:List T),yT us∧yJ us=dL∧uD us=dL→ ∀u∈us,zW u∧u.okTup=dL∧vW u=dL:=by
  intro us
  induction us with
  |nil=>simp
  |cons v us ih=>
   intro⟨h1,h2,h3⟩ u hu;simp only[yJ,uD,J2]at h2 h3;rcases J9.1 hu with rfl|hu
   ·exact⟨h1.1,h2.1,h3.1⟩
   ·exact ih ⟨h1.2,h2.2,h3.2⟩ u hu
 exact zHy g9 hd (Sc:=Sc) (rw:=rw) (by grind) ei hc (wZ.length xs us 0 gj) (fun i u hu=>by
   obtain⟨x,h1,h2⟩:=wZ.get xs us 0 gj i u hu;rw[Jd]at h2
   grind[zWe]) hr.nodup hr.nodup2 hr.at_
  (by grind[zQ4])
  (fun x hx=>by
   obtain⟨h1,h3,h4⟩:=hr.tree x hx
   grind[zQ4])
theorem zPb(f:FuncId)(xf:Operand)(xs:List Operand)(ats:Array TypeId)(us res:List T)(rw:Rw)(ho:o.op=.call { callee:=.value xf,args:=xs.toArray,argTypes:=ats })(gc:o.dst=dJ d)(hd:d<Γ.N)
  (gp:∀args w,(callFunc f args).run P w=.ok (.enter f args) w)(hf:opT E xf=dJ (.lit (.func (.func f) #[] #[])))
  (hc:FnC P f us res (rw.map fun x=>(x.1,x.2.2)))(gj:wZ E rw 0 xs us)(hr:zLG E d xs us rw)(gx:yT res∧yJ res=dL∧uD res=dL):
  xT P Γ o E (E.app (cWr d res rw) (vP d rw)):=by
 intro a w K Q ⟨e6,G,g9⟩ hK;refine zCY ho gc gp (yW g9 hf).1 ?_;refine(zLH g9 hd f xs us res rw hc gj hr gx).mono ?_
 rintro e w' ⟨v,rfl,S,G',hS,_,gk⟩
 exact⟨v,rfl,hK _ _ ⟨S,hS,e6,G',gk⟩⟩
theorem zLI(f:FuncId)(xf:Operand)(xs:List Operand)(ats:Array TypeId)(us res:List T)(i ds r:Nat)(q:List Nat)(tr u u':T)(ho:o.op=.call { callee:=.value xf,args:=xs.toArray,argTypes:=ats })(gc:o.dst=dJ d)(hd:d<Γ.N)
  (gp:∀args w,(callFunc f args).run P w=.ok (.enter f args) w)(hf:opT E xf=dJ (.lit (.func (.func f) #[] #[])))
  (hs:E ds=dJ (.same r q))(hr:E r=dJ tr)(hq:tr.get q.reverse=dJ u)(hu:u.single=dL)(eP:zW u)(gW:ds≠r)(hdr2:d≠r)(gz:tr.okB [(ds,1),(r,q.length+1)]=dL)(fb:wJ tr=dL)
  (E1 E2:Env)(mD:E1=E.app [(ds,dJ u),(r,dJ (if q=[]then .same ds []else tr.set q.reverse .any))] [(ds,1),(r,q.length+1)])(gR:E2=E1.app (cWr d res [(i,ds,u')]) (vP d [(i,ds,u')]))
  (hc:FnC P f us res [(i,u')])(gj:wZ E1 [(i,ds,u')] 0 xs us)(fU:zLG E1 d xs us [(i,ds,u')])(gx:yT res∧yJ res=dL∧uD res=dL)
  (tr2 v0:T)(gy:E2 r=dJ tr2)(aQ:tr2.get q.reverse=dJ v0)(bh:v0.single=dL)(pe:E2 ds=dJ u')(eH:zW u')(mM:u'.single=dL)(pg:tr2.okB [(r,q.length+1),(ds,1)]=dL)(hc3:wJ tr2=dL)(hok3:u'.okB [(r,q.length+1),(ds,1)]=dL)(hc4:wJ u'=dL):
  xT P Γ o E (E2.app [(r,dJ (tr2.set q.reverse u')),(ds,dJ (.same r q))] [(r,q.length+1),(ds,1)]):=by
 have mg:cLv u'=1:=by grind[cLv]
 intro a w K Q ⟨e6,G,g9⟩ hK;refine zCY ho gc gp (yW g9 hf).1 ?_;have ee:G.hd ds []=G.hd r q:=by have:=(g9.ent ds _ hs).2.1;simpa only[R]using this
 obtain⟨fQ,de⟩:=zHp g9 ds [] r q (.same r q) tr u (.same r q) hs rfl rfl ee hr hq hu eP gW (by grind[T.okB,zEa]) (by omega) rfl fb;have dH:E.app [(ds,dJ ((T.same r q).set [].reverse u)),(r,dJ (if q=[]then .same ds []else tr.set q.reverse .any))] [(ds,([]:List Nat).length+1),(r,q.length+1)]=E1:=by rw[mD];rfl
 rw[dH]at fQ;refine(zLH fQ hd f xs us res [(i,ds,u')] hc gj fU gx).mono ?_
 rintro e w' ⟨v,rfl,S,G',hS,hk,gk⟩
 rw[←gR]at gk;have hdds:d≠ds:=by have:=fU.nodup;grind
 have h1:G'.hd r q=(G.tr ds [] r q).hd r q:=hk.hd r q (fun n hn=>by grind[vP]);have h2:G'.hd ds []=(G.tr ds [] r q).hd ds []:=hk.hd ds [] (fun n hn=>by grind[vP]);have fD:G'.hd r q=G'.hd ds []:=by grind
 obtain⟨fP,_⟩:=zHp gk r q ds [] tr2 u' u' v0 gy aQ bh fD pe rfl mM eH (Ne.symm gW) (by omega) (by omega) hc3 hc4;refine⟨v,rfl,hK _ _ ⟨S,hS,e6,G'.tr r q ds [],?_⟩⟩;have hw:(if([]:List Nat)=[]then T.same r q else u'.set ([]:List Nat).reverse .any)=T.same r q:=if_pos rfl;rw[hw]at fP;exact fP
theorem zSq(f:FuncId)(xf:Operand)(xs:List Operand)(ats:Array TypeId)(us res:List T)(ho:o.op=.call { callee:=.value xf,args:=xs.toArray,argTypes:=ats })(gc:o.dst=dJ d)(hd:d<Γ.N)
  (gp:∀args w,(callFunc f args).run P w=.ok (.enter f args) w)(hf:opT E xf=dJ (.lit (.func (.func f) #[] #[])))
  (hc:FnC P f us res [])(gf:xs.length=us.length)(gj:∀(i:Nat) u,us[i]? =dJ u→ ∃x,xs[i]? =dJ x∧opT E x=dJ u∧u.flat=dL)(gx:yT res∧yJ res=dL):
  xT P Γ o E (E.app (cWr d res []) (vP d [])):=by
 intro a w K Q ⟨e6,G,g9⟩ hK;have hm:=g9.mem;refine zCY ho gc gp (yW g9 hf).1 ?_;have cG:∀b,¬zBx G [] b:=by rintro b ⟨s,z,_,h⟩;simp at h
 have cR:∀(us:List T),yT us∧yJ us=dL→ ∀u∈us,zW u∧u.okTup=dL:=by
  intro us
  induction us with
  |nil=>simp
  |cons v us ih=>
   intro⟨h1,h2⟩ u hu;simp only[yJ,J2]at h2;rcases J9.1 hu with rfl|hu
   ·exact⟨h1.1,h2.1⟩
   ·exact ih ⟨h1.2,h2.2⟩ u hu
 have:=zHy g9 hd (Sc:=Γ.St) (rw:=[]) (fun b x hx=>⟨hm.st b x hx,cG b⟩) (fun _ _ h=>h) hc gf (fun i u hu=>by
   obtain⟨x,h1,h2,h3⟩:=gj i u hu;refine⟨x,h1,?_⟩;have di:=zDB (E:=E) u h3;cases x with
   |tmp s=>
    have gI:∀z,(G.arg a xs []).hd i z=G.hd s z:=by grind[Gh.arg]
    obtain⟨e1,e2,_⟩:=g9.ent s u h2;refine⟨?_,by grind[zKm]⟩;have:=zKr (E:=E) gI u (di.1 [] s)
    grind[xP]
   |const v=>
    simp only[opT]at h2;split at h2
    ·rename_i gm
     simp at h2;subst h2;have gI:(G.arg a xs []).hd i []=v:=by grind[Gh.arg,Act.eval,zAU]
     exact⟨by grind[mkV,Act.eval],by simp[R,gI]⟩
    ·cases h2
   |func f=>
    simp only[opT]at h2;simp at h2;subst h2;have gI:(G.arg a xs []).hd i []=.func (.func f) #[] #[]:=by grind[Gh.arg,Act.eval,kZ,Value.oneCell']
    exact⟨by grind[mkV,Act.eval],by simp[R,gI]⟩
   |global g=>grind[opT]) (by simp) (by simp) (by simp)
  (fun u hu=>⟨by grind,by grind,fun S' G w s p hS h=>by
   have:aft Γ.St Γ.St S'=S':=funext (by grind[aft])
   grind⟩) (by simp)
 refine this.mono ?_
 rintro e w' ⟨v,rfl,S,G',hS,_,gk⟩
 exact⟨v,rfl,hK _ _ ⟨S,hS,e6,G',gk⟩⟩
end
end Go.Ab

namespace Go.Ab
open Go
def vU:List (Nat×T)→Env
 | [],_=>dK
 |(k,t)::l,s=>if k=s then dJ t else vU l s
def Env.Has(E:Env):List (Nat×T)→Prop
 | []=>True
 |(s,t)::l=>E s=dJ t∧E.Has l
theorem Env.Has.le{E:Env}:{l:List (Nat×T)}→E.Has l→ ∀s t,vU l s=dJ t→E s=dJ t
 | [],_,s,t,h=>by grind[vU]
 |(k,u)::l,hh,s,t,h=>by
  simp only[vU]at h;split at h
  ·rename_i e
   subst e;rw[hh.1];exact h
  ·exact hh.2.le s t h
theorem Sim.weaken{Γ:Ctx}{E E':Env}{a:Act}{w:World}(h:Sim Γ E a w)(c0:∀s t,E' s=dJ t→E s=dJ t):Sim Γ E' a w:=by obtain⟨h1,G,h2⟩:=h;exact⟨h1,G,⟨h2.size,fun s t hs=>h2.ent s t (c0 s t hs),h2.mem⟩⟩
theorem kX.weaken{Γ:Ctx}{E E':Env}{a:Act}{w:World}(h:kX Γ E a w)(c0:∀s t,E' s=dJ t→E s=dJ t):kX Γ E' a w:=by obtain⟨S,h1,h2⟩:=h;exact⟨S,h1,h2.weaken c0⟩
abbrev kG:=List (Nat×Value)
def kG.Hold(pn:kG)(a:Act):Prop:=∀x∈pn,a.tmps[x.1]? =dJ x.2
def kG.ok(pn:kG)(d:Option Nat):Bool:=match d with
 |none=>dL
 |some d=>pn.all fun x=>x.1 != d
theorem Oper.wp_frame{P:Program}{o:Oper}{a:Act}{w:World}{K:Act→World→Prop}{Q:Exit→Act→World→Prop}(h:o.wp P a w K Q):
  o.wp P a w (fun a' w'=>K a' w'∧ ∀s,o.dst≠dJ s→a'.tmps[s]? =a.tmps[s]?) Q:=by
 have key:∀(v:Value)(ds:List Deferred),∀s,o.dst≠dJ s→(({ a with defers:=ds }:Act).put o.dst v).tmps[s]? =a.tmps[s]?:=by
  intro v ds s hs;cases hd:o.dst with
  |none=>rfl
  |some d=>
   grind[Act.put]
 have key0:∀(v:Value),∀s,o.dst≠dJ s→(a.put o.dst v).tmps[s]? =a.tmps[s]?:=fun v=>key v a.defers
 unfold Oper.wp at*
 generalize (execOp a.eval o).run P w=r at*
 cases r with
 |ok n w'=>
  cases n<;>simp only[Oper.upon]at h ⊢
  all_goals grind
 |halt x w'=>cases x<;>simp only[Oper.upon]at h ⊢ <;>exact h
theorem kG.Hold.frame{pn:kG}{a a':Act}{d:Option Nat}(h:pn.Hold a)(gz:pn.ok d=dL)(hf:∀s,d≠dJ s→a'.tmps[s]? =a.tmps[s]?):pn.Hold a':=by
 intro x hx;rw[hf x.1 ?_]
 ·exact h x hx
 ·rintro rfl
  have:=K8.1 gz x hx
  grind
section
variable (P:Program) (Γ:Ctx) (pn:kG)
def CW(c:Code)(E:Env)(Q:Exit→Env→Prop):Prop:=
 ∀(a:Act)(w:World)(Q':Exit→Act→World→Prop),kX Γ E a w→pn.Hold a→(∀e E' a' w',Q e E'→kX Γ E' a' w'→pn.Hold a'→Q' e a' w')→c.wp P Q' a w
def xN(ops:Array Oper)(o:Oper)(E E':Env):Prop:=
 ∀(a:Act)(w:World)(K:Act→World→Prop)(Q:Exit→Act→World→Prop),kX Γ E a w→(∀a' w',kX Γ E' a' w'→(∀s,o.dst≠dJ s→a'.tmps[s]? =a.tmps[s]?)→K a' w')→
  if Region.wanted o (yielded ops a.tmps)then o.wp P a w K Q∨(o.asks P a w∧LetsOut Q)else K (a.put o.dst undef) w
def wpL(ops:Array Oper)(Q:Exit→Act→World→Prop):List Oper→Act→World→Prop
 | [],a,w=>Q .normal a w
 |o::os,a,w=>if Region.wanted o (yielded ops a.tmps)then o.wp P a w (wpL ops Q os) Q∨(o.asks P a w∧LetsOut Q)else wpL ops Q os (a.put o.dst undef) w
def RW(ops:Array Oper)(os:List Oper)(E:Env)(Q:Exit→Env→Prop):Prop:=
 ∀(a:Act)(w:World)(Q':Exit→Act→World→Prop),kX Γ E a w→pn.Hold a→(∀e E' a' w',Q e E'→kX Γ E' a' w'→pn.Hold a'→Q' e a' w')→wpL P ops Q' os a w
end
section
variable {P:Program}{Γ:Ctx}{pn:kG}{E E':Env}{Q Q1:Exit→Env→Prop}{c c1 c2:Code}{ops:Array Oper}{o:Oper}{os:List Oper}{d:Nat}
theorem zKs{Q':Exit→Act→World→Prop}:∀(os:List Oper)(n:Nat)(a:Act)(w:World),ops.toList.drop n=os→wpL P ops Q' os a w→wpOps P ops Q' (Kt n os.length) a w
 | [],n,a,w,_,h=>by simpa[wpOps,wpL]using h
 |o::os,n,a,w,hd,h=>by
  have ho:ops[n]? =dJ o:=by
   have:=congrArg (·[0]?) hd
   grind
  have pS:ops.toList.drop (n+1)=os:=by
   have:=congrArg List.tail hd
   grind[List.tail_drop]
  simp only[Jc,Jav,wpOps,ho];simp only[wpL]at h;split
  ·rename_i hw
   simp only[hw,if_true]at h;exact h.imp (Oper.wp_mono fun a w=>zKs os (n+1) a w pS) id
  ·rename_i hw
   simp only[hw]at h;exact zKs os (n+1) _ w pS h
theorem CW.region{id:Nat}(h:RW P Γ pn ops ops.toList E Q):CW P Γ pn (.region id ops dM) E Q:=by
 intro a w Q' hs hp hQ;refine wp_region ?_;have:=zKs (P:=P) ops.toList 0 a w (by simp) (h a w Q' hs hp hQ)
 grind[L7]
theorem RW.nil(h:Q .normal E):RW P Γ pn ops [] E Q:=fun a w Q' hs hp hQ=>by
 simp only[wpL]
 grind
theorem RW.cons(h1:xN P Γ ops o E E')(h3:RW P Γ pn ops os E' Q)(h2:pn.ok o.dst=dL:=by rfl):RW P Γ pn ops (o::os) E Q:=by
 intro a w Q' hs hp hQ;simp only[wpL];have:=h1 a w (wpL P ops Q' os) Q' hs fun a' w' gQ hf=>h3 a' w' Q' gQ (hp.frame h2 hf) hQ
 exact this
theorem xN.op(h:∀S,xT P (Γ.at S) o E E')(hg:o.guard=dK:=by rfl):xN P Γ ops o E E':=by
 intro a w K Q hs hK;have hw:Region.wanted o (yielded ops a.tmps)=dL:=by simp[Region.wanted,hg]
 rw[if_pos hw];refine .inl ?_;obtain⟨S,hS,hs⟩:=hs;have:=Oper.wp_frame (h S a w (fun a' w'=>kX Γ E' a' w') Q hs fun a' w' h=>h.up hS)
 grind[Oper.wp_mono]
theorem zHz{a:Act}{w:World}(hs:kX Γ E a w){g s:Nat}{b:Bool}(gM:(ops[g]?).bind (·.dst)=dJ s)(h:E s=dJ (.lit (.bool b))):yielded ops a.tmps g=dJ b:=by
 obtain⟨_,_,_,G,hr⟩:=hs;obtain⟨h1,h2,_⟩:=hr.ent s _ h;simp only[R]at h2
 grind[yielded,mkV]
theorem xN.guard(g:Nat)(b:Bool)(s:Nat)(h:∀S,xT P (Γ.at S) o E E')(hg:o.guard=dJ (g,b):=by rfl)(gM:(ops[g]?).bind (·.dst)=dJ s:=by rfl)(hb:E s=dJ (.lit (.bool b)):=by rfl):xN P Γ ops o E E':=by
 intro a w K Q hs hK;have hw:Region.wanted o (yielded ops a.tmps)=dL:=by grind[Region.wanted,zHz]
 rw[if_pos hw];refine .inl ?_;obtain⟨S,hS,hs⟩:=hs;have:=Oper.wp_frame (h S a w (fun a' w'=>kX Γ E' a' w') Q hs fun a' w' h=>h.up hS)
 grind[Oper.wp_mono]
def zX(Γ:Ctx)(E E':Env):Prop:=∀(a:Act)(w:World),kX Γ E a w→kX Γ E' a w
theorem zX.refl:zX Γ E E:=fun _ _ h=>h
theorem zX.trans{E1 E2 E3:Env}(h:zX Γ E1 E2)(h':zX Γ E2 E3):zX Γ E1 E3:=fun a w hs=>h' a w (h a w hs)
theorem zX.has{l:List (Nat×T)}(h:E.Has l):zX Γ E (vU l):=fun _ _ hs=>hs.weaken h.le
theorem CW.ghost(h1:zX Γ E E')(h:CW P Γ pn c E' Q):CW P Γ pn c E Q:=fun a w Q' hs=>h a w Q' (h1 a w hs)
theorem RW.ghost(h1:zX Γ E E')(h:RW P Γ pn ops os E' Q):RW P Γ pn ops os E Q:=fun a w Q' hs=>h a w Q' (h1 a w hs)
theorem CW.to(l:List (Nat×T))(h1:E.Has l)(h:CW P Γ pn c (vU l) Q):CW P Γ pn c E Q:=h.ghost (.has h1)
theorem CW.mono(h:CW P Γ pn c E Q1)(hq:∀e E',Q1 e E'→Q e E'):CW P Γ pn c E Q:=fun a w Q' hs hp hQ=>h a w Q' hs hp (by grind)
theorem CW.skip(h:Q .normal E):CW P Γ pn .skip E Q:=fun _ _ _ hs hp hQ=>by grind[wp_skip]
theorem CW.ret(h:Q .ret E):CW P Γ pn .ret E Q:=fun _ _ _ hs hp hQ=>by grind[wp_ret]
theorem CW.exit{id:Nat}(h:Q (.exit id) E):CW P Γ pn (.exit id) E Q:=fun _ _ _ hs hp hQ=>by grind[wp_exit]
def yO(P:Program)(Γ:Ctx)(pn:kG)(c:Code)(Q:Exit→Env→Prop):Exit→Env→Prop
 |.normal,E=>CW P Γ pn c E Q
 |e,E=>Q e E
theorem CW.seq(h:CW P Γ pn c1 E (yO P Γ pn c2 Q)):CW P Γ pn (.seq c1 c2) E Q:=by
 intro a w Q' hs hp hQ;refine wp_seq (h a w _ hs hp fun e E' a' w' h1 gQ fX=>?_);cases e with
 |normal=>exact h1 a' w' Q' gQ fX hQ
 |_=>exact hQ _ _ _ _ h1 gQ fX
theorem CW.cond{x:Operand}(b:Bool)(hb:opT E x=dJ (.lit (.bool b)))(ht:b=dL→CW P Γ pn c1 E Q)(hf:b=dM→CW P Γ pn c2 E Q):CW P Γ pn (.cond x c1 c2) E Q:=by intro a w Q' hs hp hQ;obtain⟨_,_,_,G,hr⟩:=id hs;refine wp_cond_split (yW hr hb).1 (fun h=>ht h a w Q' hs hp hQ) (fun h=>hf h a w Q' hs hp hQ)
def yY(id:Nat)(Q:Exit→Env→Prop):Exit→Env→Prop
 |.exit id',E=>if id'=id then Q .normal E else Q (.exit id') E
 |e,E=>Q e E
theorem CW.block{id:Nat}(h:CW P Γ pn c E (yY id Q)):CW P Γ pn (.block id c) E Q:=by
 intro a w Q' hs hp hQ;refine wp_block (h a w _ hs hp fun e E' a' w' h1 gQ fX=>?_);cases e with
 |exit id'=>
  simp only[yY]at h1;simp only[Exit.inBlock]
  grind
 |_=>exact hQ _ _ _ _ h1 gQ fX
end
def xE{σ ρ:Type}(body:σ→Option (σ⊕ρ)):Nat→σ→Option ρ
 |0,_=>dK
 |n+1,s=>match body s with
  |none=>dK
  |some (.inl s')=>xE body n s'
  |some (.inr r)=>dJ r
theorem zH0{σ ρ:Type}{body:σ→Option (σ⊕ρ)}{r:ρ}:∀{n m:Nat}{s:σ},xE body n s=dJ r→n≤m→xE body m s=dJ r
 |0,_,_,h,_=>by grind[xE]
 |n+1,0,_,_,hm=>by omega
 |n+1,m+1,s,h,hm=>by
  simp only[xE]at h ⊢
  cases hb:body s with
  |none=>grind
  |some x=>
   cases x with
   |inl s'=>simp only[hb]at h ⊢;exact zH0 h (by omega)
   |inr r'=>grind
open Classical in
noncomputable def zH {σ ρ:Type} (body:σ→Option (σ⊕ρ)) (s:σ):Option ρ:=
 if h:∃(n:Nat)(r:ρ),xE body n s=dJ r then dJ h.choose_spec.choose else dK
theorem zCp{σ ρ:Type}{body:σ→Option (σ⊕ρ)}{s:σ}{r:ρ}:zH body s=dJ r↔ ∃n,xE body n s=dJ r:=by
 unfold zH;constructor
 ·intro h
  split at h
  all_goals grind
 ·rintro⟨n,hn⟩
  have he:∃(n:Nat)(r:ρ),xE body n s=dJ r:=⟨n,r,hn⟩;rw[dif_pos he]
  grind[zH0]
theorem yQ{σ ρ:Type}(body:σ→Option (σ⊕ρ))(s:σ):zH body s=match body s with
  |none=>dK
  |some (.inl s')=>zH body s'
  |some (.inr r)=>dJ r:=by
 apply Option.ext;intro r;rw[zCp];cases hb:body s with
 |none=>
  simp only[reduceCtorEq,iff_false]
  rintro⟨n,hn⟩
  cases n<;>simp[xE,hb]at hn
 |some x=>
  cases x with
  |inl s'=>
   simp only[];rw[zCp];constructor
   ·rintro⟨n,hn⟩
    cases n with
    |zero=>grind[xE]
    |succ n=>grind[xE]
   ·rintro⟨n,hn⟩
    exact⟨n+1,by grind[xE]⟩
  |inr r'=>
   simp only[Ll.injEq];constructor
   ·rintro⟨n,hn⟩
    cases n with
    |zero=>grind[xE]
    |succ n=>grind[xE]
   ·rintro rfl
    exact⟨1,by simp[xE,hb]⟩
section
variable {P:Program}{Γ:Ctx}{pn:kG}{E:Env}{Q:Exit→Env→Prop}{c:Code}
def wQ{σ ρ:Type}(Γ:Ctx)(en:σ→Env)(Q:ρ→Exit→Env→Prop)(x:σ⊕ρ):Exit→Env→Prop:=fun e E'=>
 match x with
 |.inl s'=>e=.normal∧zX Γ E' (en s')
 |.inr r=>e≠.normal∧Q r e E'
theorem zEe{p:Nat→Prop}(h:∃m,p m):∃m,p m∧ ∀k,k<m→ ¬p k:=by
 refine Classical.byContradiction fun hn=>?_
 have key:∀n,∀k,k<n→ ¬p k:=by
  intro n
  induction n with
  |zero=>simp
  |succ n ih=>
   grind
 grind
theorem CW.loop{σ ρ:Type}(body:σ→Option (σ⊕ρ))(en:σ→Env)(Q:ρ→Exit→Env→Prop)(h:∀s x,body s=dJ x→CW P Γ pn c (en s) (wQ Γ en Q x)){s:σ}{r:ρ}(hr:zH body s=dJ r):
  CW P Γ pn (.loop c) (en s) (Q r):=by
 classical
 intro a w Q' hs hp hQ
 let p:Act→World→Nat→Prop:=fun a w m=> ∃s,xE body m s=dJ r∧kX Γ (en s) a w∧pn.Hold a
 let μ:Act→World→Nat:=fun a w=>if h:∃m,p a w m then(zEe h).choose else 0
 obtain⟨n,hn⟩:=zCp.1 hr;refine wp_loop (fun a w=> ∃m,p a w m) μ (by grind) ?_;intro a w fI;have hμ:μ a w=(zEe fI).choose:=dif_pos fI;obtain⟨s,h1,h2,h3⟩:=(zEe fI).choose_spec.1;have eQ:=(zEe fI).choose_spec.2;rw[←hμ]at h1;cases hm:μ a w with
 |zero=>grind[xE]
 |succ k=>
  rw[hm]at h1;simp only[xE]at h1;cases hb:body s with
  |none=>grind
  |some x=>
   refine h s x hb a w _ h2 h3 fun e E' a' w' hq gQ fX=>?_
   cases x with
   |inl s'=>
    simp only[hb]at h1;obtain⟨rfl,hg⟩:=hq;have bF:p a' w' k:=⟨s',h1,hg a' w' gQ,fX⟩;refine⟨⟨k,bF⟩,?_⟩;have hex':∃m,p a' w' m:=⟨k,bF⟩
    grind
   |inr r'=>
    simp only[hb]at h1;have:r'=r:=by grind
    subst this;obtain⟨gg,hq⟩:=hq;have:=hQ e E' a' w' hq gQ fX;cases e with
    |normal=>grind
    |_=>exact this
end
end Go.Ab

namespace Go.Ab
open Go
abbrev Nds:=List (Nat×List Nat×T)
def ROk(P:Program)(E:Env):ResultVar→(Nat×List Nat×T)→Prop
 |.tmp s,x=>x.1=s∧x.2.1=[]∧E s=dJ x.2.2∧x.2.2.okTup=dL
 |.cell a T,x=>x.1=a∧x.2.1=[0]∧E a=dJ (.ptr x.2.2)∧ ∃ds ti,P.underlying T=dJ ds∧P.info? T=dJ ti∧zF8 ds= !x.2.2.single∧ti.size=x.2.2.size
def zGC(P:Program)(E:Env):List ResultVar→Nds→Prop
 | [],[]=>True
 |x::xs,y::ys=>ROk P E x y∧zGC P E xs ys
 |_,_=>False
def LOk(E:Env)(us:List T):List (Nat×T)→Prop
 | []=>True
 |(i,u')::l=>(E i=dJ u'∧ ∃u,us[i]? =dJ u)∧LOk E us l
def yBm(P:Program)(rs:Array ResultVar)(us res:List T)(rws:List (Nat×T)):Exit→Env→Prop:=fun e E=>
 (e=.ret∨e=.normal)∧ ∃nd:Nds,zGC P E rs.toList nd∧nd.map (·.2.2)=res∧(∀x∈nd,us.length≤x.1)∧(nd.map (·.1)).Nodup∧LOk E us rws
def zCZ(v:Nat→Value)(is:List Nat):kG:=is.map fun i=>(i,v i)
def zIH:Nat→List T→List (Nat×T)
 |_,[]=>[]
 |i,u::us=>(i,u)::zIH (i+1) us
theorem zLJ:∀(us:List T)(i s:Nat)(t:T),vU (zIH i us) s=dJ t→i≤s∧us[s-i]? =dJ t
 | [],i,s,t,h=>by grind[zIH,vU]
 |u::us,i,s,t,h=>by
  simp only[zIH,vU]at h;split at h
  ·grind
  ·rename_i e
   obtain⟨h1,h2⟩:=zLJ us (i+1) s t h
   grind
def zSr(tmps:Array Value):ResultVar→Sem Value
 |.tmp t=>pure (tmps.getD t undef)
 |.cell a t=>do loadVar t (←asAddr (tmps.getD a undef))
theorem zN8(fn:Func)(tmps:Array Value):results fn tmps=(do
  let vs ←fn.results.mapM (zSr tmps)
  pure (if h:vs.size=1 then vs[0]else .tuple vs)):=rfl
theorem uF.get:(xs:List T)→uF xs→ ∀(i:Nat)(x:T),xs[i]? =dJ x→Top x
 | [],_,i,x,h=>by simp at h
 |y::ys,ht,i,x,h=>by
  simp only[uF]at ht;cases i with
  |zero=>simp at h;subst h;exact ht.1
  |succ i=>exact uF.get ys ht.2 i x (by simpa using h)
theorem LOk.get{E:Env}{us:List T}:(l:List (Nat×T))→LOk E us l→ ∀i u',(i,u')∈l→E i=dJ u'∧ ∃u,us[i]? =dJ u
 | [],_,_,_,h=>by simp at h
 |x::l,h,i,u',hm=>by
  rcases J9.1 hm with rfl|hm
  ·exact h.1
  ·exact LOk.get l h.2 i u' hm
theorem yDy{P:Program}{Γ:Ctx}{E:Env}{G:Gh}{tmps:Array Value}{w:World}(g9:Rep Γ E G tmps w)(x:ResultVar)(s:Nat)(q:List Nat)(t:T)(h:ROk P E x (s,q,t)):
  (zSr tmps x).run P w=.ok (sO G s t q) w∧R Γ.St G w s t q:=by
 cases x with
 |tmp s'=>
  obtain⟨h0,b7,h1,h2⟩:=h;dsimp only at h0 b7 h1 h2;subst h0 b7;obtain⟨g1,g2,_⟩:=g9.ent _ _ h1;have gZ:∀xs,t≠.tup xs:=by rintro xs rfl;grind[T.okTup]
  refine⟨?_,g2⟩;rw[←zA2 G s t [] gZ];simp[zSr,Kj,g1]
 |cell a T'=>
  obtain⟨h0,b7,h1,ds,ti,h2,h3,h4,h5⟩:=h;dsimp only at h0 b7 h1 h4 h5;subst h0 b7;obtain⟨g1,g2,_⟩:=g9.ent _ _ h1;simp only[R]at g2;obtain⟨b,cs,e,k1,k2,k3,k4,k5,k6⟩:=g2;refine⟨?_,k6⟩;rw[xI rfl,k1]at g1;have h6:=zGp (w:=w) h2 h3 k5 h4 h5;simp[zSr,Kj,g1,asAddr,h6]
theorem zGw{P:Program}{Γ:Ctx}{E:Env}{G:Gh}{tmps:Array Value}{w:World}(g9:Rep Γ E G tmps w):(rs:List ResultVar)→(nd:Nds)→zGC P E rs nd→
  (rs.mapM (zSr tmps)).run P w=.ok (nd.map fun x=>sO G x.1 x.2.2 x.2.1) w∧ ∀x∈nd,R Γ.St G w x.1 x.2.2 x.2.1
 | [],[],_=>by simp
 |x::xs,y::ys,h=>by
  obtain⟨h1,h2⟩:=zGw g9 xs ys h.2;obtain⟨h3,h4⟩:=yDy g9 x y.1 y.2.1 y.2.2 h.1
  simp_all
 | [],_::_,h=>by simp[zGC]at h
 |_::_,[],h=>by simp[zGC]at h
theorem FnC.of_body{P:Program}{f:FuncId}{fn:Func}{c:Code}{us res:List T}{rws:List (Nat×T)}(hf:P.funcs[f]? =dJ fn)(hb:fn.body=dJ c)(hn:us.length≤fn.ntmps)(ht:uF us)(hr:rws.all (fun x=>decide (x.1<us.length))=dL)
  (h:∀(Γ:Ctx)(v:Nat→Value),Γ.N=fn.ntmps→CW P Γ (zCZ v (rws.map (·.1))) c (vU (zIH 0 us)) (yBm P fn.results us res rws)):FnC P f us res rws:=by
 intro St W w G vs p5 gj gn
 let Γ:Ctx:=⟨St,W,w,fn.ntmps⟩
 let v:Nat→Value:=fun i=>vs.getD i undef
 have hm:Mem Γ G w:=⟨gn.one,gn.lb,gn.ow,gn.st,gn.fr,gn.sz,gn.bk⟩;have gB:(vs++Ub (fn.ntmps-vs.size) undef).size=fn.ntmps:=by simp;omega
 have aB:Sim Γ (vU (zIH 0 us)) { tmps:=vs++Ub (fn.ntmps-vs.size) undef,defers:=[] } w:=by
  refine⟨rfl,G,gB,?_,hm⟩;intro s t hs;obtain⟨_,h2⟩:=zLJ us 0 s t hs;simp only[Qn]at h2;obtain⟨h3,h4⟩:=gj s t h2;have gF:s<vs.size:=by grind
  exact⟨by grind,h4,uF.get us ht s t h2⟩
 have aX:(zCZ v (rws.map (·.1))).Hold { tmps:=vs++Ub (fn.ntmps-vs.size) undef,defers:=[] }:=by
  intro x hx;simp only[zCZ,Ji]at hx;obtain⟨i,⟨y,hy,rfl⟩,rfl⟩:=hx;have h1:=K8.1 hr y hy;simp at h1;have h2:y.1<vs.size:=by omega
  simp[Array.getElem?_append,h2,v]
 refine calls_of_wp hf hb (h Γ v rfl _ _ _ (.of aB) aX ?_)
 rintro e E' a' w' ⟨he,nd,h1,h2,h3,h4,h5⟩ ⟨S',gV,e6,G',g9⟩ hp
 obtain⟨g1,g2⟩:=zGw g9 _ _ h1;have gx:(results fn a'.tmps).run P w'=.ok (zLA G' nd) w':=by
  rw[zN8,Array.mapM_eq_mapM_toList];simp only[Sem.run_bind,Sem.run_map,g1];cases nd with
  |nil=>simp[zLA]
  |cons y ys=>
   cases ys with
   |nil=>simp[zLA]
   |cons z zs=>simp[zLA]
 have gC:Mem ⟨S',W,w,0⟩ G' w':=⟨g9.mem.one,g9.mem.lb,g9.mem.ow,g9.mem.st,g9.mem.fr,g9.mem.sz,g9.mem.bk⟩;have mr:bodyPost P fn (fun e w'=> ∃(S':Stb)(G':Gh)(nd:List (Nat×List Nat×T)),zDR St S' W w.heap.size∧e=.returned (zLA G' nd)∧Mem ⟨S',W,w,0⟩ G' w'∧nd.map (·.2.2)=res∧
   (∀x∈nd,R S' G' w' x.1 x.2.2 x.2.1∧us.length≤x.1)∧(nd.map (·.1)).Nodup∧
   ∀i u',(i,u')∈rws→R S' G' w' i u' []∧ ∃u,us[i]? =dJ u∧mkV G' i u' []=mkV G i u []) .ret a' w':=by
  refine⟨e6,_,gx,S',G',nd,gV,rfl,gC,h2,by grind,h4,?_⟩;intro i u' hiu;obtain⟨k1,u,k3⟩:=LOk.get _ h5 i u' hiu;obtain⟨k5,k6,_⟩:=g9.ent i u' k1;refine⟨k6,u,k3,?_⟩;have k7:=hp (i,v i) (by simp only[zCZ,Ji];grind);have k8:=(gj i u k3).1;rw[k5]at k7;simp[v,Kj,k8]at k7;exact k7
 rcases he with rfl|rfl<;>exact mr
end Go.Ab

namespace Go.Ab
open Go
mutual
def vQ:T→T
 |.sl k xs=>.ro (strip (.sl k xs))
 |.ptr t=>.ro (strip (.ptr t))
 |.agg xs=>.agg (uO xs)
 |.tup xs=>.tup (uO xs)
 |.any=>.any
 |.lit v=>.lit v
 |.ro t=>.ro t
 |.same r p=>.same r p
 |.addr r p=>.addr r p
 |.sub r p k lo hi=>.sub r p k lo hi
def uO:List T→List T
 | []=>[]
 |x::xs=>vQ x::uO xs
end
mutual
theorem zSs(G:Gh)(s:Nat):(t:T)→ ∀p,vals G s (vQ t) p=vals G s t p
 |.agg xs,p=>by simp only[vQ,vals];exact zDC G s xs p 0
 |.sl _ _,_|.ptr _,_|.tup _,_|.any,_|.lit _,_|.ro _,_|.same _ _,_|.addr _ _,_|.sub _ _ _ _ _,_=>by rfl
theorem zDC(G:Gh)(s:Nat):(xs:List T)→ ∀p j,yD G s (uO xs) p j=yD G s xs p j
 | [],_,_=>by rfl
 |x::xs,p,j=>by simp only[uO,yD,zSs G s x,zDC G s xs]
end
theorem zSt(G:Gh)(s:Nat)(t:T)(p:List Nat):sO G s (vQ t) p=sO G s t p:=by cases t<;>simp only[vQ,sO,zDC]
theorem zLK(G:Gh)(s:Nat):(xs:List T)→ ∀p j,zA1 G s (uO xs) p j=zA1 G s xs p j
 | [],_,_=>by rfl
 |x::xs,p,j=>by simp only[uO,zA1,zSt,zLK G s xs]
theorem zWf(G:Gh)(s:Nat)(t:T)(p:List Nat):mkV G s (vQ t) p=mkV G s t p:=by cases t<;>simp only[vQ,mkV,zDC,zLK]
mutual
theorem zLL:(t:T)→Top t→Top (vQ t)
 |.agg xs,h|.tup xs,h=>by simp only[vQ,Top]at h ⊢;exact zJi xs h
 |.sl _ _,_|.ptr _,_|.any,_|.lit _,_|.ro _,_|.same _ _,_|.addr _ _,_|.sub _ _ _ _ _,_=>by simp only[vQ,Top]
theorem zJi:(xs:List T)→uF xs→uF (uO xs)
 | [],_=>by grind[uO]
 |x::xs,h=>by simp only[uO,uF]at h ⊢;exact⟨zLL x h.1,zJi xs h.2⟩
end
section
variable {St Sc:Stb}{G G':Gh}{w:World}{s:Nat} (gm:∀s p,(G.hd s p).oneCell'=dL) (ei:∀b x,St b=dJ x→Sc b=dJ x) (ej:∀b,(∃y,G.ow b=dJ (s,y))→Sc b=w.heap[b]?) (gI:∀s z,G'.hd s z=G.hd s z) (eW:∀s z,G'.ad s z=G.ad s z)
 include gm ei ej gI eW
mutual
theorem zYu:(t:T)→ ∀(p:List Nat),R St G w s t p→R Sc G' w s (vQ t) p
 |.agg xs,p,hr|.tup xs,p,hr=>by simp only[vQ,R]at hr ⊢;exact zSu xs p 0 hr
 |.sl k xs,p,hr=>by have:=zLD gm ei ej (.sl k xs) p rfl hr;simp only[vQ,R,gI];exact this
 |.ptr t,p,hr=>by have:=zLD gm ei ej (.ptr t) p rfl hr;simp only[vQ,R,gI];exact this
 |.ro u,p,hr=>by simp only[vQ,R,gI]at hr ⊢;grind[tF]
 |.any,_,_=>by simp only[vQ,R]
 |.lit _,_,hr|.same _ _,_,hr|.sub _ _ _ _ _,_,hr=>by simp only[vQ,R,gI]at hr ⊢;exact hr
 |.addr _ _,_,hr=>by simp only[vQ,R,gI,eW]at hr ⊢;exact hr
theorem zSu:(xs:List T)→ ∀(p:List Nat)(j:Nat),RF St G w s xs p j→RF Sc G' w s (uO xs) p j
 | [],_,_,_=>by have _:=gm;have _:=ei;have _:=ej;have _:=gI;have _:=eW;simp only[uO,RF]
 |x::xs,p,j,hr=>by simp only[uO,RF]at hr ⊢;exact⟨zYu x _ hr.1,zSu xs p (j+1) hr.2⟩
end
end
theorem zX.freeze{Γ:Ctx}{E:Env}(s:Nat)(t:T)(hs:E s=dJ t):zX Γ E (E.app [(s,dJ (vQ t))] [(s,1)]):=by
 classical
 rintro a w ⟨S,hS,e6,G,g9⟩
 have hm:=g9.mem
 let own:Nat→Prop:=fun b=> ∃y,G.ow b=dJ (s,y)
 let Sc:Stb:=fun b=>if own b then w.heap[b]? else S b
 let G':Gh:={ hd:=G.hd,ad:=G.ad,lb:=fun b o=>if own b then dK else G.lb b o,ow:=fun b=>if own b then dK else G.ow b }
 have fd:∀b x,S b=dJ x→Sc b=dJ x:=fun b x hx=>by
  have:¬own b:=by
   rintro⟨y,hy⟩
   have:=(hm.ow b _ hy).2.2
   grind
  grind
 have bT:zDR S Sc Γ.W Γ.w0.heap.size:=⟨fd,fun b hb eE=>by
  by_cases h:own b
  ·obtain⟨y,hy⟩:=h
   exact(hm.ow b _ hy).2.1
  grind⟩
 have gn:Mem ((Γ.at S).at Sc) G' w:=by
  refine⟨hm.one,fun b o l hl=>?_,fun b l hl=>?_,fun b x hx=>?_,hm.fr,hm.sz,hm.bk⟩
  ·by_cases h:own b
   ·grind
   ·simp only[G',h,if_false]at hl
    have:=hm.lb b o l hl;exact⟨this.1,this.2.1,by simp only[Sc,h,if_false];exact this.2.2⟩
  ·by_cases h:own b
   ·grind
   ·simp only[G',h,if_false]at hl
    have:=hm.ow b l hl;exact⟨this.1,this.2.1,by simp only[Sc,h,if_false];exact this.2.2⟩
  ·by_cases h:own b
   ·grind
   ·simp only[Sc,h,if_false]at hx;exact hm.st b x hx
 have gu:kR [(s,1)] G w G' w:=by
  have d6:∀b s0 y,G.ow b=dJ (s0,y)→(∀n,(s0,n)∉([(s,1)]:Chg))→ ¬own b:=by grind
  refine⟨fun _ _ _=>rfl,fun _ _ _=>rfl,by grind,by grind,fun b cs e h=>⟨cs,h,rfl⟩⟩
  all_goals grind
 obtain⟨e1,e2,e3⟩:=g9.ent s t hs;refine⟨Sc,hS.trans bT,e6,G',g9.up fd rfl gu gn (fun s0 h0=>⟨fun n hn=>?_,rfl⟩) (fun s0 t0 h0=>?_)⟩
 ·grind[tV]
 ·rw[tV]at h0
  split at h0
  ·rename_i he;subst he
   simp at h0;subst h0;have hR:=zYu (G':=G') hm.one fd (fun b hb=>by grind) (fun _ _=>rfl) (fun _ _=>rfl) t [] e2;refine⟨?_,hR,zLL t e3⟩;rw[e1];have h1:mkV G' s (vQ t) []=mkV G s (vQ t) []:=zF7 _ _ _ (fun _=>rfl);rw[h1,zWf]
  ·cases h0
end Go.Ab

namespace Go.Ab
open Go
abbrev zDS:=List (Wr×Chg)
def Env.apps(E:Env)(l:zDS):Env:=l.foldl (fun E x=>E.app x.1 x.2) E
structure Stp where
 rd:List (Nat×T)
 l:zDS
def sY(wr:Wr):List Nat:=wr.map (·.1)
def Stp.slots(X:Stp):List Nat:=X.l.flatMap fun x=>sY x.1
def oOk(chg:Chg):Option T→Bool
 |none=>dL
 |some t=>t.okB chg
def zN9(chg:Chg)(wr:Wr):Bool:=wr.all fun x=>oOk chg x.2
def zQ5(a b:List Nat):Bool:=a.all fun x=> !b.contains x
def zFG(a b:zDS):Bool:=a.all fun x=>b.all fun y=>zQ5 (sY x.1) (sY y.1)&&zN9 y.2 x.1&&zN9 x.2 y.1
def Stp.apart(a b:Stp):Bool:=zFG a.l b.l&&zQ5 a.slots (b.rd.map (·.1))&&zQ5 b.slots (a.rd.map (·.1))&&a.rd.all fun x=>b.l.all fun y=>x.2.okB y.2
theorem zFH{wr:Wr}{s:Nat}(h:s∉sY wr):wr.find s=dK:=by
 induction wr with
 |nil=>rfl
 |cons x wr ih=>
  simp only[sY,Jt,J9,not_or]at h;simp only[Wr.find,Ne.symm h.1,if_false];exact ih h.2
theorem zJj{wr:Wr}{s:Nat}{x:Option T}(h:wr.find s=dJ x):s∈sY wr∧ ∃y∈wr,y.2=x:=by
 induction wr with
 |nil=>grind[Wr.find]
 |cons y wr ih=>
  grind[Wr.find,sY]
theorem zH1{a b:List Nat}(h:zQ5 a b=dL){s:Nat}(hs:s∈a):s∉b:=by
 have:=K8.1 h s hs
 grind
theorem zSv(E:Env)(w1 w2:Wr)(c1 c2:Chg)(h:zQ5 (sY w1) (sY w2)=dL)(h1:zN9 c2 w1=dL)(h2:zN9 c1 w2=dL):
  (E.app w1 c1).app w2 c2=(E.app w2 c2).app w1 c1:=by
 funext s
 have ok:∀{c:Chg}{w:Wr}{s:Nat}{x:Option T},zN9 c w=dL→w.find s=dJ x→(match x with|some t=>if t.okB c then dJ t else dK|none=>dK)=x:=by
  intro c w s x hw hf;obtain⟨_,y,hy,rfl⟩:=zJj hf;have:=K8.1 hw y hy
  grind[oOk]
 unfold Env.app;cases hf1:w1.find s with
 |some x=>
  grind[zFH,zH1,zJj]
 |none=>
  grind
theorem zEf(w:Wr)(c:Chg):∀(l:zDS)(E:Env),(∀y∈l,zQ5 (sY w) (sY y.1)=dL∧zN9 y.2 w=dL∧zN9 c y.1=dL)→(E.app w c).apps l=(E.apps l).app w c
 | [],E,_=>rfl
 |y::l,E,h=>by obtain⟨h1,h2,h3⟩:=h y (by simp);show((E.app w c).app y.1 y.2).apps l=_;rw[zSv E w y.1 c y.2 h1 h2 h3];exact zEf w c l _ (by grind)
theorem zJk:∀(l1 l2:zDS)(E:Env),zFG l1 l2=dL→(E.apps l1).apps l2=(E.apps l2).apps l1
 | [],l2,E,_=>rfl
 |x::l1,l2,E,h=>by simp only[zFG,U6,J2]at h;show((E.app x.1 x.2).apps l1).apps l2=((E.apps l2).app x.1 x.2).apps l1;rw[zJk l1 l2 _ (by grind[zFG]),zEf x.1 x.2 l2 E (by grind)]
def runD:Env→List (Bool×Stp)→Env
 |E,[]=>E
 |E,(b,X)::l=>runD (if b then E.apps X.l else E) l
theorem zA5:∀(l1 l2:List (Bool×Stp))(E:Env),runD E (l1++l2)=runD (runD E l1) l2
 | [],_,_=>rfl
 |(b,X)::l1,l2,E=>by simp only[Kd,runD];exact zA5 l1 l2 _
theorem zFI:∀(l:List (Bool×Stp))(X:Stp)(E:Env),(∀y∈l,y.1=dL→zFG X.l y.2.l=dL)→runD (E.apps X.l) l=(runD E l).apps X.l
 | [],_,_,_=>rfl
 |(b,Y)::l,X,E,h=>by
  simp only[runD];cases b with
  |false=>exact zFI l X E (by grind)
  |true=>
   have:=h (dL,Y) (by simp) rfl;simp only[if_true];rw[zJk X.l Y.l E this];exact zFI l X _ (by grind)
theorem zH2{s:Nat}:∀(l:zDS)(E:Env),s∉l.flatMap (fun x=>sY x.1)→ ∀t,(E.apps l) s=dJ t→E s=dJ t
 | [],_,_,_,h=>h
 |x::l,E,hs,t,h=>by
  simp only[Lq,Jf,not_or]at hs;have:=zH2 l (E.app x.1 x.2) hs.2 t h
  grind[Env.app,zFH]
theorem zJl{s:Nat}{t:T}:∀(l:zDS)(E:Env),s∉l.flatMap (fun x=>sY x.1)→(∀y∈l,t.okB y.2=dL)→E s=dJ t→(E.apps l) s=dJ t
 | [],_,_,_,h=>h
 |x::l,E,hs,gz,h=>by
  simp only[Lq,Jf,not_or]at hs;refine zJl l (E.app x.1 x.2) hs.2 (by grind) ?_
  grind[Env.app,zFH]
theorem zJm{s:Nat}:∀(l:zDS)(E1 E2:Env),(∀t,E2 s=dJ t→E1 s=dJ t)→ ∀t,(E2.apps l) s=dJ t→(E1.apps l) s=dJ t
 | [],_,_,h,t,ht=>h t ht
 |x::l,E1,E2,h,t,ht=>by
  refine zJm l (E1.app x.1 x.2) (E2.app x.1 x.2) (fun u hu=>?_) t ht
  grind[Env.app]
theorem zJn{s:Nat}:∀(l:List (Bool×Stp))(E1 E2:Env),(∀y∈l,y.1=dM→s∉y.2.slots)→(∀t,E2 s=dJ t→E1 s=dJ t)→
  ∀t,runD E2 (l.map fun y=>(dL,y.2)) s=dJ t→runD E1 l s=dJ t
 | [],_,_,_,h,t,ht=>h t ht
 |(b,X)::l,E1,E2,hl,h,t,ht=>by
  simp only[Jt,runD,if_true]at ht ⊢
  refine zJn l _ _ (by grind) (fun u hu=>?_) t ht;cases b with
  |true=>grind[zJm]
  |false=>exact h u (zH2 X.l E2 (hl (dM,X) (by simp) rfl) u hu)
theorem zJo{s:Nat}{t:T}:∀(l:List (Bool×Stp))(E:Env),(∀y∈l,y.1=dL→s∉y.2.slots∧ ∀z∈y.2.l,t.okB z.2=dL)→E s=dJ t→runD E l s=dJ t
 | [],_,_,h=>h
 |(b,X)::l,E,hl,h=>by
  simp only[runD];refine zJo l _ (fun y hy=>hl y (by simp[hy])) ?_;cases b with
  |false=>exact h
  |true=>obtain⟨h1,h2⟩:=hl (dL,X) (by simp) rfl;exact zJl X.l E h1 h2 h
theorem Env.Has.of{E E':Env}:{l:List (Nat×T)}→E.Has l→(∀s t,(s,t)∈l→E s=dJ t→E' s=dJ t)→E'.Has l
 | [],_,_=>trivial
 |(s,t)::l,h,h'=>⟨h' s t (by simp) h.1,Env.Has.of h.2 fun s t hm=>h' s t (by simp[hm])⟩
end Go.Ab

namespace Go.Ab
open Go
def zBX(o:Oper):List Nat:=(o.after.toList.filter (Region.binds .any)).map (·.on)
def zB4:Nat→List Oper→Bool
 |_,[]=>dL
 |i,o::os=>((zBX o).all fun m=>decide (m<i))&&zB4 (i+1) os
def zAW(an:List (List Nat)):List (List Nat)→List Oper→Bool
 | [],_=>dL
 |_::_,[]=>dM
 |l::ls,o::os=>(l.all fun k=>(zBX o).contains k||(zBX o).any fun m=>(an.getD m []).contains k)&&zAW an ls os
def zAc(Xs:List Stp):Nat→List (List Nat)→List Stp→Bool
 |_,_,[]=>dL
 |j,an,Y::Ys=>((Jh j).all fun i=>(an.headD []).contains i||match Xs[i]? with
   |some X=>X.apart Y
   |none=>dL)&&zAc Xs (j+1) an.tail Ys
theorem zGL:∀(os:List Oper)(i0 j:Nat)(o:Oper),zB4 i0 os=dL→os[j]? =dJ o→ ∀m∈zBX o,m<i0+j
 | [],_,j,_,_,h=>by simp at h
 |x::os,i0,j,o,hf,h=>by
  simp only[zB4,J2]at hf;cases j with
  |zero=>
   grind
  |succ j=>
   intro m hm;have:=zGL os (i0+1) j o hf.2 (by grind) m hm;omega
theorem zKt(an:List (List Nat)):∀(ls:List (List Nat))(os:List Oper)(j:Nat)(l:List Nat),zAW an ls os=dL→ls[j]? =dJ l→ ∃o,os[j]? =dJ o∧ ∀k∈l,k∈zBX o∨ ∃m∈zBX o,k∈an.getD m []
 | [],_,j,_,_,h=>by simp at h
 |_::_,[],_,_,h,_=>by grind[zAW]
 |x::ls,o::os,j,l,ha,h=>by
  simp only[zAW,J2]at ha;cases j with
  |zero=>
   simp_all
  |succ j=>
   obtain⟨o',h1,h2⟩:=zKt an ls os j l ha.2 (by grind)
   grind
theorem zFJ(Xs:List Stp):∀(Ys:List Stp)(j0:Nat)(an:List (List Nat))(j:Nat)(Y:Stp),zAc Xs j0 an Ys=dL→Ys[j]? =dJ Y→ ∀i X,i<j0+j→Xs[i]? =dJ X→i∈an.getD j []∨X.apart Y=dL
 | [],_,_,j,_,_,h=>by simp at h
 |Z::Ys,j0,an,j,Y,hp,h=>by
  simp only[zAc,J2]at hp;intro i X hi hX;cases j with
  |zero=>
   simp at h;subst h;have:=K8.1 hp.1 i (by grind);simp only[hX,Bool.or_eq_true,H0,decide_eq_true_eq]at this;rcases this with h|h
   ·left
    cases an with
    |nil=>simp at h
    |cons l an=>grind
   grind
  |succ j=>
   rcases zFJ Xs Ys (j0+1) an.tail j Y hp.2 (by grind) i X (by omega) hX with h|h
   all_goals grind
section
variable {P:Program}{Γ:Ctx}{pn:kG}{ops:Array Oper}
def zSw(ops:Array Oper)(L:List Bool):Prop:=∀(i:Nat)(o:Oper),ops[i]? =dJ o→L[i]? =dJ dL→ ∀m∈zBX o,L[m]? =dJ dL
theorem zH3{L:List Bool}{an:List (List Nat)}(hf:zB4 0 ops.toList=dL)(ha:zAW an an ops.toList=dL)(hc:zSw ops L):
  ∀(n i:Nat),i≤n→ ∀o,ops[i]? =dJ o→(∀m∈zBX o,L[m]? =dJ dL)→ ∀k∈an.getD i [],L[k]? =dJ dL:=by
 intro n
 induction n with
 |zero=>
  intro i hi o ho hp k hk;have dc:i=0:=by omega
  subst dc;cases hl:an[0]? with
  |none=>grind
  |some l=>
   obtain⟨o',h1,h2⟩:=zKt an an ops.toList 0 l ha hl;rw[Ks,ho]at h1;simp at h1;subst h1;simp only[Jan,hl,Ql]at hk;rcases h2 k hk with h|⟨m,h,_⟩
   ·grind
   ·have:=zGL ops.toList 0 0 o hf (by grind) m h
    omega
 |succ n ih=>
  intro i hi o ho hp k hk;cases hl:an[i]? with
  |none=>grind
  |some l=>
   obtain⟨o',h1,h2⟩:=zKt an an ops.toList i l ha hl;rw[Ks,ho]at h1;simp at h1;subst h1;simp only[Jan,hl,Ql]at hk;rcases h2 k hk with h|⟨m,h,hkm⟩
   ·grind
   ·have gF:=zGL ops.toList 0 i o hf (by grind) m h
    have hLm:=hp m h;cases a6:ops[m]? with
    |none=>
     grind
    |some om=>exact ih m (by omega) om a6 (hc m om a6 hLm) k hkm
theorem zJp{L:List Bool}{Xs:List Stp}{i:Nat}{b:Bool}{X:Stp}(hL:L[i]? =dJ b)(hX:Xs[i]? =dJ X):L.zip Xs=(L.take i).zip (Xs.take i)++(b,X)::(L.drop (i+1)).zip (Xs.drop (i+1)):=by
 have h1:L=L.take i++b::L.drop (i+1):=by obtain⟨h,rfl⟩:=Jo.1 hL;simp
 have h2:Xs=Xs.take i++X::Xs.drop (i+1):=by obtain⟨h,rfl⟩:=Jo.1 hX;simp
 grind[List.zip_cons_cons]
theorem zKu{L:List Bool}{Xs:List Stp}{y:Bool×Stp}(h:y∈L.zip Xs):∃j:Nat,L[j]? =dJ y.1∧Xs[j]? =dJ y.2:=by grind[Uo,List.getElem?_zip_eq_some]
def sZ:Env→List Stp→Prop
 |_,[]=>True
 |E,X::Xs=>E.Has X.rd∧sZ (E.apps X.l) Xs
theorem sZ.get:∀(Xs:List Stp)(E:Env),sZ E Xs→ ∀(i:Nat)(X:Stp),Xs[i]? =dJ X→(runD E ((Xs.take i).map fun y=>(dL,y))).Has X.rd
 | [],_,_,i,_,h=>by simp at h
 |Y::Xs,E,hh,i,X,h=>by
  cases i with
  |zero=>simp at h;subst h;simpa[runD]using hh.1
  |succ i=>
   have:=sZ.get Xs _ hh.2 i X (by grind)
   grind[runD]
theorem Stp.apart_spec{a b:Stp}(h:a.apart b=dL):zFG a.l b.l=dL∧(∀s∈a.slots,s∉b.rd.map (·.1))∧(∀s∈b.slots,s∉a.rd.map (·.1))∧ ∀x∈a.rd,∀y∈b.l,x.2.okB y.2=dL:=by simp only[Stp.apart,J2]at h;refine⟨h.1.1.1,by grind[zH1],by grind[zH1],fun x hx y hy=>?_⟩;exact K8.1 (K8.1 h.2 x hx) y hy
mutual
theorem zPc:(t:T)→t.okB []=dL
 |.same _ _|.addr _ _|.sub _ _ _ _ _=>by rfl
 |.agg xs|.tup xs=>by simp only[T.okB];exact zLM xs
 |.any|.lit _|.ro _|.sl _ _|.ptr _=>by rfl
theorem zLM:(xs:List T)→zLt [] xs=dL
 | []=>by rfl
 |x::xs=>by simp only[zLt,zPc x,zLM xs,La]
end
theorem Rep.heap{E:Env}{G:Gh}{tmps:Array Value}{w w':World}(h:Rep Γ E G tmps w)(hw:w'.heap=w.heap)(ho:w'.os=w.os:=by rfl)(hq:w'.output=w.output:=by rfl):Rep Γ E G tmps w' where
 size:=h.size
 ent s t hs:=Ent.keep (chg:=[]) ⟨fun _ _ _=>rfl,fun _ _ _=>rfl,by grind[yL,World.cell?],fun _ _ _ h _=>h,fun b cs e h=>⟨cs,by grind,rfl⟩⟩ (by simp) (zPc t) (h.ent s t hs)
 mem:=by
  have hm:=h.mem;exact⟨hm.one,fun b o l hl=>by have:=hm.lb b o l hl;exact⟨by rw[hw];exact this.1,this.2⟩,fun b l hl=>by have:=hm.ow b l hl;exact⟨by rw[hw];exact this.1,this.2⟩,
   fun b x hx=>by rw[hw];exact hm.st b x hx,fun b h1 h2=>by rw[hw];exact hm.fr b h1 h2,by rw[hw];exact hm.sz,hm.bk.trans (fun b cs e hb=>⟨cs,by grind,rfl⟩) ho hq⟩
end
end Go.Ab

namespace Go.Ab
open Go
abbrev I(n:Int):T:=.lit (.int .i64 n)
abbrev B(b:Bool):T:=.lit (.bool b)
abbrev L{α:Type}(k:Nat)(f:α→T)(xs:List α):T:=.sl k (xs.map f)
theorem zO{P:Program}{t:TypeId}{ti:TypeInfo}(h:P.types[t]? =dJ ti):P.info? t=dJ ti:=by grind[Tables.info?]
def Ok(P:Program)(Γ:Ctx)(o:Oper)(E E':Env):Prop:=∀S,xT P (Γ.at S) o E E'
section
variable {P:Program}{Γ:Ctx}{pn:kG}{ops:Array Oper}{o:Oper}{os:List Oper}{E E':Env}{Q:Exit→Env→Prop}{d:Nat}
theorem RW.op(h:Ok P Γ o E E')(k:RW P Γ pn ops os E' Q)(hg:o.guard=dK:=by rfl)(hp:pn.ok o.dst=dL:=by rfl):RW P Γ pn ops (o::os) E Q:=RW.cons (xN.op h hg) k hp
def neD(x:Operand)(d:Nat):Bool:=match x with
 |.tmp s=>s != d
 |_=>dL
theorem zES{x:Operand}{d:Nat}(h:neD x d=dL):∀s,x=.tmp s→s≠d:=by rintro s rfl;grind[neD]
theorem zBY{t:T}(h:t.okTup=dL):∀xs,t≠.tup xs:=by rintro xs rfl;grind[T.okTup]
abbrev mvB(Γ:Ctx)(x:Operand)(t:T)(d:Nat):Bool:=J4 d Γ.N&&t.okTup&&neD x d&&T.okB [(d,0)] (tE x t)
section
variable {x y:Operand}{t:T}{ty:TypeId}{ps:String}{af:Array Edge}{gd:Option (Nat×Bool)}
theorem yB{a b:Nat}(h:J4 a b=dL):a<b:=by grind[Nat.blt_eq]
theorem zQ6(hx:opT E x=dJ t)(sd:mvB Γ x t d=dL):Ok P Γ ⟨dJ d,.move x,ty,ps,af,gd⟩ E (E.app [(d,dJ (tE x t))] [(d,0)]):=by simp only[mvB,J2]at sd;exact fun S=>zOL x t (.inl rfl) rfl (yB sd.1.1.1) hx (zBY sd.1.1.2) (zES sd.1.2) sd.2
theorem zWg(hx:opT E x=dJ t)(sd:mvB Γ x t d=dL):Ok P Γ ⟨dJ d,.assign x,ty,ps,af,gd⟩ E (E.app [(d,dJ (tE x t))] [(d,0)]):=by simp only[mvB,J2]at sd;exact fun S=>zOL x t (.inr rfl) rfl (yB sd.1.1.1) hx (zBY sd.1.1.2) (zES sd.1.2) sd.2
def inR(n:Int):Bool:=decide (-9223372036854775808≤n)&&decide (n≤9223372036854775807)
theorem zBZ{n:Int}(h:inR n=dL):IntKind.i64.wrap n=n:=by
 simp only[inR,J2,decide_eq_true_eq]at h;have hb:IntKind.i64.bits=64:=rfl;have hs:IntKind.i64.signed=dL:=rfl;simp only[IntKind.wrap,hb,hs,Jao]
 grind
def rng(n:Int):Option Int:=if inR n then dJ n else dK
theorem zDa{n m:Int}(h:rng n=dJ m):m=n∧inR n=dL:=by grind[rng]
theorem zSx{m n c:Int}{xt yt:TypeId}(hv:rng (m+n)=dJ c)(hx:opT E x=dJ (I m))(hy:opT E y=dJ (I n))(sd:J4 d Γ.N=dL):Ok P Γ ⟨dJ d,.binOp .add xt x y yt,ty,ps,af,gd⟩ E (E.app [(d,dJ (I c))] [(d,0)]):=by obtain⟨rfl,h⟩:=zDa hv;exact fun S=>uA .add xt yt x y .i64 m n _ rfl rfl (yB sd) hx hy (by grind[zKd,zBZ])
theorem zYv{m n:Int}{xt yt:TypeId}(hx:opT E x=dJ (I m))(hy:opT E y=dJ (I n))(sd:J4 d Γ.N=dL):Ok P Γ ⟨dJ d,.binOp .lss xt x y yt,ty,ps,af,gd⟩ E (E.app [(d,dJ (B (decide (m<n))))] [(d,0)]):=
 fun _S=>uA .lss xt yt x y .i64 m n _ rfl rfl (yB sd) hx hy rfl
theorem zPd(k:Nat)(sd:J4 d Γ.N=dL):Ok P Γ ⟨dJ d,.assign (.const (.slice dK 0 0)),ty,ps,af,gd⟩ E (E.app [(d,dJ (.sl k []))] [(d,0)]):=
 fun _=>zL0 k _ (.inr rfl) rfl rfl (yB sd)
def yG(n:Int):Option Nat:=if 0≤n∧n≤68719476736 then dJ n.toNat else dK
theorem zH4{n:Int}{m:Nat}(h:yG n=dJ m):n=(m:Int)∧m≤68719476736:=by grind[yG]
class ElT (P:Program) (t:TypeId) (e:outParam TypeId) (ti:outParam TypeInfo) (k:outParam Nat) (u:outParam T):Prop where
 un:P.underlying t=dJ (.slice e)
 info:P.info? e=dJ ti
 zero:∃z,ti.zero=dJ z∧sE u=z.cells.toList
 size:ti.size=k
 pos:0<k
 zok:u.zOk=dL
 us:u.size=k
 bytes:ti.bytes≤2048
theorem zZs{t e:TypeId}{ti:TypeInfo}{k:Nat}{u:T}{n m:Nat}{a b:Int}(ht:ElT P t e ti k u)(hn:yG a=dJ n)(hx:opT E x=dJ (I a))(hm:yG b=dJ m)(hy:opT E y=dJ (I b))(ch:n≤m)(sd:J4 d Γ.N=dL):
  Ok P Γ ⟨dJ d,.makeSlice t x y,ty,ps,af,gd⟩ E (E.app [(d,dJ (.sl k (J1 n u)))] [(d,0)]):=by
 obtain⟨rfl,h1⟩:=zH4 hn;obtain⟨rfl,h2⟩:=zH4 hm;obtain⟨z,hz,hv⟩:=ht.zero;exact fun S=>zWa t e ti z u k x y n m .i64 .i64 rfl rfl (yB sd) ht.un ht.info hz ht.size ht.pos ht.zok hv ht.us (Hl ht.bytes (by decide)) hx hy ch h2
end
end
end Go.Ab

namespace Go.Ab
open Go
def ixO{α:Type}(xs:List α)(i:Int):Option α:=if 0≤i then xs[i.toNat]? else dK
theorem zDb{α:Type}{xs:List α}{i:Int}{v:α}(h:ixO xs i=dJ v):0≤i∧xs[i.toNat]? =dJ v:=by grind[ixO]
def zB5:T→Bool
 |.same _ _=>dM
 |_=>dL
theorem zII{E:Env}{s r:Nat}{q:List Nat}{t u:T}(h1:E s=dJ (.same r q))(h2:E r=dJ t)(h3:t.get q.reverse=dJ u)(h4:zB5 u=dL):tW E (.tmp s)=dJ (r,q,u):=by
 have hg:∀t:T,t.get []=dJ t:=fun t=>by rfl
 grind[zB5,tW,jP]
theorem zET{E:Env}{s:Nat}{t:T}(h1:E s=dJ t)(h4:zB5 t=dL):tW E (.tmp s)=dJ (s,[],t):=by
 have hg:∀t:T,t.get []=dJ t:=fun t=>by rfl
 grind[zB5,tW,jP]
section
variable {P:Program}{Γ:Ctx}{E:Env}{d:Nat}{x y:Operand}{ty:TypeId}{ps:String}{af:Array Edge}{gd:Option (Nat×Bool)}
class zDT (P:Program) (t:TypeId) (e:outParam TypeId) (ti:outParam TypeInfo) (k:outParam Nat):Prop where
 un:P.underlying t=dJ (.slice e)
 info:P.info? e=dJ ti
 size:ti.size=k
theorem yDz{α:Type}{t e:TypeId}{ti:TypeInfo}{r k:Nat}{q:List Nat}{f:α→T}{xs:List α}{v:α}{i:Int}(ht:zDT P t e ti k)(hv:ixO xs i=dJ v)(hx:tW E x=dJ (r,q,L k f xs))(hy:opT E y=dJ (I i))(sd:J4 d Γ.N=dL):
  Ok P Γ ⟨dJ d,.indexAddr t x y,ty,ps,af,gd⟩ E (E.app [(d,dJ (.addr r (i.toNat::q)))] [(d,0)]):=by
 obtain⟨h1,h2⟩:=zDb hv;exact fun S=>yBi x y t e ti r q k _ .i64 i rfl rfl (yB sd) ht.un ht.info ht.size hx hy h1 (by grind)
theorem zYw{α:Type}{t e:TypeId}{ti:TypeInfo}{r k:Nat}{q:List Nat}{f:α→T}{xs:List α}{v:α}{i:Int}(ht:zDT P t e ti k)(hv:ixO xs i=dJ v)(hx:tW E x=dJ (r,q,.ro (L k f xs)))(hy:opT E y=dJ (I i))(sd:J4 d Γ.N=dL):
  Ok P Γ ⟨dJ d,.indexAddr t x y,ty,ps,af,gd⟩ E (E.app [(d,dJ (.ro (.ptr (f v))))] [(d,0)]):=by
 obtain⟨h1,h2⟩:=zDb hv;exact fun S=>zRU x y t e ti r q k _ .i64 i _ rfl rfl (yB sd) ht.un ht.info ht.size hx hy h1 (by simp[h2])
theorem zYx{α:Type}{t e:TypeId}{r k:Nat}{q:List Nat}{f:α→T}{xs:List α}(hu:P.underlying t=dJ (.slice e))(hx:tW E x=dJ (r,q,L k f xs))(sd:J4 d Γ.N=dL):
  Ok P Γ ⟨dJ d,.call { callee:=.builtin .len,args:=#[x],argTypes:=#[t] },ty,ps,af,gd⟩ E (E.app [(d,dJ (I xs.length))] [(d,0)]):=
 fun _=>zRT x t _ r q (L k f xs) xs.length rfl rfl (yB sd) hu hx (by simp[zLu]) rfl
theorem zSy{α:Type}{t e:TypeId}{r k:Nat}{q:List Nat}{f:α→T}{xs:List α}(hu:P.underlying t=dJ (.slice e))(hx:tW E x=dJ (r,q,.ro (L k f xs)))(sd:J4 d Γ.N=dL):
  Ok P Γ ⟨dJ d,.call { callee:=.builtin .len,args:=#[x],argTypes:=#[t] },ty,ps,af,gd⟩ E (E.app [(d,dJ (I xs.length))] [(d,0)]):=
 fun _=>zRT x t _ r q (.ro (L k f xs)) xs.length rfl rfl (yB sd) hu hx (by simp[zLu]) rfl
structure zWh (P:Program) (t:TypeId) (u:T):Prop where
 h:∃ds ti,P.underlying t=dJ ds∧P.info? t=dJ ti∧zF8 ds= !u.single∧ti.size=u.size
theorem yBn{t:TypeId}{u:T}(ht:zWh P t u)(hx:opT E x=dJ (.ro (.ptr u)))(sd:J4 d Γ.N=dL):Ok P Γ ⟨dJ d,.load t x,ty,ps,af,gd⟩ E (E.app [(d,dJ (roT u))] [(d,0)]):=by obtain⟨ds,ti,h1,h2,h3,h4⟩:=ht.h;exact fun S=>zN3 x t ds ti u rfl rfl (yB sd) h1 h2 h3 h4 hx
theorem yD0{t:TypeId}{u tr:T}{r:Nat}{q:List Nat}(ht:zWh P t u)(hx:opT E x=dJ (.addr r q))(hr:E r=dJ tr)(hg:tr.get q.reverse=dJ u)(sd:(J4 d Γ.N&&tr.locd q.reverse&&(r != d)&&T.okB [(d,0)] (cpT r u q))=dL):
  Ok P Γ ⟨dJ d,.load t x,ty,ps,af,gd⟩ E (E.app [(d,dJ (cpT r u q))] [(d,0)]):=by
 obtain⟨ds,ti,h1,h2,h3,h4⟩:=ht.h;simp only[J2]at sd;exact fun S=>zVZ x t ds ti r q tr u rfl rfl (yB sd.1.1.1) h1 h2 h3 h4 hx hr hg sd.1.1.2 (by grind) sd.2
end
end Go.Ab

namespace Go.Ab
open Go
section
variable {P:Program}{Γ:Ctx}{E:Env}{x:Operand}{ty:TypeId}{ps:String}{af:Array Edge}{gd:Option (Nat×Bool)}
theorem yE3{t:TypeId}{ti:TypeInfo}{r s:Nat}{q:List Nat}{tr tr' u0:T}{v:Value}(hi:P.info? t=dJ ti)(gB:ti.size=1)(hx:opT E x=dJ (.addr r q))(hr:E r=dJ tr)(hg:tr.get q.reverse=dJ u0)(gv:tr.set q.reverse (.lit v)=tr')(hy:E s=dJ (.lit v))
  (sd:(tr.single&&tr.locd q.reverse&&uG (.lit v) u0&&(r != s))=dL):Ok P Γ ⟨dK,.store t x (.tmp s),ty,ps,af,gd⟩ E (E.app [(r,dJ tr')] [(r,q.length)]):=by
 simp only[J2]at sd;subst gv;intro S;have:=zL4 (P:=P) (Γ:=Γ.at S) (E:=E) (o:=⟨dK,.store t x (.tmp s),ty,ps,af,gd⟩) t ti x (.tmp s) r q tr u0 (.slot s (.lit v)) rfl rfl hi (by rw[gB];rfl) (by omega) hx hr sd.1.1.1 hg sd.1.1.2 sd.1.2 (.slot s _)
  ⟨fun s' t' h=>by simp at h;obtain⟨rfl,rfl⟩:=h;exact⟨hy,by simp[zW,yR],rfl⟩,by simp,by simp[xF,sP]⟩
 exact this
theorem yBo{t:TypeId}{ti:TypeInfo}{r:Nat}{q:List Nat}{tr tr' u0:T}{v:Value}(hi:P.info? t=dJ ti)(gB:ti.size=1)(hx:opT E x=dJ (.addr r q))(hr:E r=dJ tr)(hg:tr.get q.reverse=dJ u0)(gv:tr.set q.reverse (.lit v)=tr')
  (sd:(tr.single&&tr.locd q.reverse&&uG (.lit v) u0&&(T.lit v).zOk)=dL)(hz:sE (.lit v)=v.cells.toList):Ok P Γ ⟨dK,.store t x (.const v),ty,ps,af,gd⟩ E (E.app [(r,dJ tr')] [(r,q.length)]):=by
 simp only[J2]at sd;subst gv;intro S;have:=zL4 (P:=P) (Γ:=Γ.at S) (E:=E) (o:=⟨dK,.store t x (.const v),ty,ps,af,gd⟩) t ti x (.const v) r q tr u0 (.zero (.lit v)) rfl rfl hi (by rw[gB];rfl) (by omega) hx hr sd.1.1.1 hg sd.1.1.2 sd.1.2 (.zero v _ hz)
  ⟨by simp,by grind,by simp[xF]⟩
 exact this
end
end Go.Ab

namespace Go.Ab
open Go
theorem zX.tr{Γ:Ctx}{E:Env}(d r:Nat)(u:T)(hd:E d=dJ (.same r []))(hr:E r=dJ u)(eP:zW u)(sd:(u.single&&wJ u&&u.okB [(d,1),(r,1)]&&(d != r))=dL):
  zX Γ E (E.app [(d,dJ u),(r,dJ (.same d []))] [(d,1),(r,1)]):=by
 simp only[J2]at sd
 rintro a w ⟨S,hS,hs⟩
 have gg:d≠r:=by grind
 have hg:∀t:T,t.get []=dJ t:=fun t=>by rfl
 have:=zN7 hs d [] r [] (.same r []) u u hd rfl hr (hg u) sd.1.1.1 eP gg (by simp[T.okB,zEa]) sd.1.2 rfl sd.1.1.2;exact⟨S,hS,this⟩
theorem zEx{α:Type}{f:α→T}(hf:∀x,zW (f x)):(xs:List α)→yT (xs.map f)
 | []=>trivial
 |x::xs=>⟨hf x,zEx hf xs⟩
theorem zPe{α:Type}{f:α→T}{k:Nat}{xs:List α}(hf:∀x,zW (f x)):zW (L k f xs):=by simp only[zW,yR];grind[zEx]
theorem zPf(n:Int):zW (I n):=by simp[zW,yR]
theorem zWi(b:Bool):zW (B b):=by simp[zW,yR]
end Go.Ab

namespace Go.Ab
open Go
section
variable {P:Program}{Γ:Ctx}{E:Env}{d:Nat}{x y:Operand}{ty:TypeId}{ps:String}{af:Array Edge}{gd:Option (Nat×Bool)}{m n c:Int}{xt yt:TypeId}
theorem zYy(hv:rng (m-n)=dJ c)(hx:opT E x=dJ (I m))(hy:opT E y=dJ (I n))(sd:J4 d Γ.N=dL):Ok P Γ ⟨dJ d,.binOp .sub xt x y yt,ty,ps,af,gd⟩ E (E.app [(d,dJ (I c))] [(d,0)]):=by obtain⟨rfl,h⟩:=zDa hv;exact fun _=>uA .sub xt yt x y .i64 m n _ rfl rfl (yB sd) hx hy (by grind[zKd,zBZ])
theorem yBp(hv:rng (m*n)=dJ c)(hx:opT E x=dJ (I m))(hy:opT E y=dJ (I n))(sd:J4 d Γ.N=dL):Ok P Γ ⟨dJ d,.binOp .mul xt x y yt,ty,ps,af,gd⟩ E (E.app [(d,dJ (I c))] [(d,0)]):=by obtain⟨rfl,h⟩:=zDa hv;exact fun _=>uA .mul xt yt x y .i64 m n _ rfl rfl (yB sd) hx hy (by grind[zKd,zBZ])
def wS(m n:Int):Option Int:=if n=0 then dK else rng (m.tdiv n)
def xR(m n:Int):Option Int:=if n=0 then dK else dJ (m.tmod n)
theorem yBq(hv:wS m n=dJ c)(hx:opT E x=dJ (I m))(hy:opT E y=dJ (I n))(sd:J4 d Γ.N=dL):Ok P Γ ⟨dJ d,.binOp .quo xt x y yt,ty,ps,af,gd⟩ E (E.app [(d,dJ (I c))] [(d,0)]):=by
 unfold wS at hv;split at hv
 ·cases hv
 ·rename_i h0
  obtain⟨rfl,h⟩:=zDa hv;exact fun _=>uA .quo xt yt x y .i64 m n _ rfl rfl (yB sd) hx hy (by simp only[zKd,h0,if_false,zBZ h])
theorem yBr(hv:xR m n=dJ c)(hx:opT E x=dJ (I m))(hy:opT E y=dJ (I n))(sd:J4 d Γ.N=dL):Ok P Γ ⟨dJ d,.binOp .rem xt x y yt,ty,ps,af,gd⟩ E (E.app [(d,dJ (I c))] [(d,0)]):=by
 unfold xR at hv;split at hv
 ·cases hv
 ·rename_i h0
  simp at hv;subst hv;exact fun _=>uA .rem xt yt x y .i64 m n _ rfl rfl (yB sd) hx hy (by simp only[zKd,h0,if_false])
theorem yBs(hx:opT E x=dJ (I m))(hy:opT E y=dJ (I n))(sd:J4 d Γ.N=dL):Ok P Γ ⟨dJ d,.binOp .leq xt x y yt,ty,ps,af,gd⟩ E (E.app [(d,dJ (B (decide (m≤n))))] [(d,0)]):=
 fun _=>uA .leq xt yt x y .i64 m n _ rfl rfl (yB sd) hx hy rfl
theorem zYz(hx:opT E x=dJ (I m))(hy:opT E y=dJ (I n))(sd:J4 d Γ.N=dL):Ok P Γ ⟨dJ d,.binOp .gtr xt x y yt,ty,ps,af,gd⟩ E (E.app [(d,dJ (B (decide (m> n))))] [(d,0)]):=
 fun _=>uA .gtr xt yt x y .i64 m n _ rfl rfl (yB sd) hx hy rfl
theorem yBt(hx:opT E x=dJ (I m))(hy:opT E y=dJ (I n))(sd:J4 d Γ.N=dL):Ok P Γ ⟨dJ d,.binOp .geq xt x y yt,ty,ps,af,gd⟩ E (E.app [(d,dJ (B (decide (m≥n))))] [(d,0)]):=
 fun _=>uA .geq xt yt x y .i64 m n _ rfl rfl (yB sd) hx hy rfl
theorem yBu(hx:opT E x=dJ (I m))(hy:opT E y=dJ (I n))(sd:J4 d Γ.N=dL):Ok P Γ ⟨dJ d,.binOp .eql xt x y yt,ty,ps,af,gd⟩ E (E.app [(d,dJ (B (m==n)))] [(d,0)]):=
 fun _=>uA .eql xt yt x y .i64 m n _ rfl rfl (yB sd) hx hy rfl
theorem zSz(hx:opT E x=dJ (I m))(hy:opT E y=dJ (I n))(sd:J4 d Γ.N=dL):Ok P Γ ⟨dJ d,.binOp .neq xt x y yt,ty,ps,af,gd⟩ E (E.app [(d,dJ (B (m != n)))] [(d,0)]):=
 fun _=>uA .neq xt yt x y .i64 m n _ rfl rfl (yB sd) hx hy rfl
theorem zCG{b:Bool}(hx:opT E x=dJ (B b))(sd:J4 d Γ.N=dL):Ok P Γ ⟨dJ d,.unOp .not xt x,ty,ps,af,gd⟩ E (E.app [(d,dJ (B (!b)))] [(d,0)]):=
 fun _=>zZn xt x b rfl rfl (yB sd) hx
theorem yBv(hv:rng (0-n)=dJ c)(hx:opT E x=dJ (I n))(sd:J4 d Γ.N=dL):Ok P Γ ⟨dJ d,.unOp .neg xt x,ty,ps,af,gd⟩ E (E.app [(d,dJ (I c))] [(d,0)]):=by
 obtain⟨rfl,h⟩:=zDa hv;have:=fun S=>zZo (P:=P) (Γ:=Γ.at S) (E:=E) (o:=⟨dJ d,.unOp .neg xt x,ty,ps,af,gd⟩) xt x .i64 n rfl rfl (yB sd) hx
 rw[zBZ h]at this;exact this
end
end Go.Ab

namespace Go.Ab
open Go
section
variable {P:Program}{Γ:Ctx}{E:Env}{d:Nat}{x y:Operand}{ty:TypeId}{ps:String}{af:Array Edge}{gd:Option (Nat×Bool)}
class zKv (P:Program) (t:TypeId) (u:outParam T):Prop where
 h:∃ti z,P.info? t=dJ ti∧ti.zero=dJ z∧u.zOk=dL∧sE u=z.cells.toList∧z.cells.size=u.size
theorem zPg{t:TypeId}{u:T}(ht:zKv P t u)(sd:J4 d Γ.N=dL):Ok P Γ ⟨dJ d,.alloc t,ty,ps,af,gd⟩ E (E.app [(d,dJ (.ptr u))] [(d,0)]):=by obtain⟨ti,z,h1,h2,h3,h4,h5⟩:=ht.h;exact fun S=>zSd t ti z u rfl rfl (yB sd) h1 h2 h3 h4 h5
theorem zY0{s i:Nat}{ts:List T}{t:T}(hs:E s=dJ (.tup ts))(hi:ts[i]? =dJ t)(sd:(J4 d Γ.N&&t.okTup&&(s != d)&&T.okB [(d,0)] (cpT s t [i]))=dL):
  Ok P Γ ⟨dJ d,.extract (.tmp s) i,ty,ps,af,gd⟩ E (E.app [(d,dJ (cpT s t [i]))] [(d,0)]):=by
 simp only[J2]at sd;exact fun S=>zN4 s i ts t rfl rfl (yB sd.1.1.1) hs hi (zBY sd.1.1.2) (by grind) sd.2
theorem zBk{t:T}(hx:opT E x=dJ t)(hp:zGq E x=dL)(sd:mvB Γ x t d=dL):Ok P Γ ⟨dJ d,.nilCheck x,ty,ps,af,gd⟩ E (E.app [(d,dJ (tE x t))] [(d,0)]):=by simp only[mvB,J2]at sd;exact fun S=>zZp x t rfl rfl (yB sd.1.1.1) hx hp (zBY sd.1.1.2) (zES sd.1.2) sd.2
theorem zNA{c:Operand}{b:Bool}{t:T}(hc:opT E c=dJ (B b))(hx:opT E (if b then x else y)=dJ t)(sd:mvB Γ (if b then x else y) t d=dL):Ok P Γ ⟨dJ d,.pick c x y,ty,ps,af,gd⟩ E (E.app [(d,dJ (tE (if b then x else y) t))] [(d,0)]):=by simp only[mvB,J2]at sd;exact fun S=>zVW c x y b t rfl rfl (yB sd.1.1.1) hc hx (zBY sd.1.1.2) (zES sd.1.2) sd.2
theorem yBw{t:TypeId}{s:Nat}{u:T}(hs:E s=dJ u)(hu:zW u)(sd:(J4 d Γ.N&&u.okTup&&(s != d))=dL):
  Ok P Γ ⟨dJ d,.box t (.tmp s),ty,ps,af,gd⟩ E (E.app ((d,dJ (.ptr u))::pWr d [.slot s u] 0) ((d,0)::sQ [.slot s u])):=by
 simp only[J2]at sd;have gg:s≠d:=by grind
 refine fun S=>zZr t (.tmp s) (.slot s u) rfl rfl (yB sd.1.1) (.slot s u) ⟨by grind,by simp,?_⟩
 simp only[xF]
 grind
end
end Go.Ab

namespace Go.Ab
open Go
def zZ{α:Type}(xs ys:List α):Option (List α):=if xs.length+ys.length≤68719476736 then dJ (xs++ys)else dK
theorem zFK{α:Type}{xs ys zs:List α}(h:zZ xs ys=dJ zs):zs=xs++ys∧xs.length+ys.length≤68719476736:=by grind[zZ]
section
variable {P:Program}{Γ:Ctx}{E:Env}{d:Nat}{x y:Operand}{ty:TypeId}{ps:String}{af:Array Edge}{gd:Option (Nat×Bool)}
theorem ElT.zsize{t e:TypeId}{ti:TypeInfo}{k:Nat}{u:T}(h:ElT P t e ti k u):∃z,ti.zero=dJ z∧z.cells.size=k:=by obtain⟨z,h1,h2⟩:=h.zero;exact⟨z,h1,by rw[←Kh,←h2,vF u h.zok,h.us]⟩
theorem zZt{α:Type}{t e:TypeId}{ti:TypeInfo}{k:Nat}{u:T}{f:α→T}{xs ys zs:List α}{s0 s1:Nat}(ht:ElT P t e ti k u)(hv:zZ xs ys=dJ zs)(h0:E s0=dJ (L k f xs))(h1:E s1=dJ (L k f ys))(sd:(J4 d Γ.N&&(s0 != d)&&(s1 != d)&&(s1 != s0))=dL):
  Ok P Γ ⟨dJ d,.call { callee:=.builtin .append,args:=#[.tmp s0,.tmp s1],argTypes:=#[t,t] },ty,ps,af,gd⟩ E (E.app [(d,dJ (L k f zs)),(s0,dJ .any),(s1,dJ .any)] [(d,0),(s0,1),(s1,1)]):=by
 obtain⟨rfl,hl⟩:=zFK hv;obtain⟨z,hz,fy⟩:=ht.zsize;simp only[J2]at sd;intro S;have:=zKn (P:=P) (Γ:=Γ.at S) (E:=E) (o:=⟨dJ d,.call { callee:=.builtin .append,args:=#[.tmp s0,.tmp s1],argTypes:=#[t,t] },ty,ps,af,gd⟩) t e ti z k s0 s1 (xs.map f) (ys.map f) rfl rfl (yB sd.1.1.1) ht.un ht.info hz ht.size ht.pos fy ht.bytes h0 h1
  (by grind) (by grind) (by grind) (by grind)
 rw[←Ls]at this;exact this
theorem zJq{α:Type}{f:α→T}(hf:∀x,(f x).flat=dL):(xs:List α)→zAP (xs.map f)=dL
 | []=>rfl
 |x::xs=>by simp only[Jt,zAP,hf x,zJq hf xs,La]
theorem zZu{α:Type}{t e:TypeId}{ti:TypeInfo}{k r:Nat}{q:List Nat}{u:T}{f:α→T}{xs ys zs:List α}{s0:Nat}(ht:ElT P t e ti k u)(hf:∀x,(f x).flat=dL)(hv:zZ xs ys=dJ zs)(h0:E s0=dJ (L k f xs))(h1:tW E y=dJ (r,q,L k f ys))(sd:(J4 d Γ.N&&(s0 != d))=dL):
  Ok P Γ ⟨dJ d,.call { callee:=.builtin .append,args:=#[.tmp s0,y],argTypes:=#[t,t] },ty,ps,af,gd⟩ E (E.app [(d,dJ (L k f zs)),(s0,dJ .any)] [(d,0),(s0,1)]):=by
 obtain⟨rfl,hl⟩:=zFK hv;obtain⟨z,hz,fy⟩:=ht.zsize;simp only[J2]at sd;intro S;have:=zKo (P:=P) (Γ:=Γ.at S) (E:=E) (o:=⟨dJ d,.call { callee:=.builtin .append,args:=#[.tmp s0,y],argTypes:=#[t,t] },ty,ps,af,gd⟩) t e ti z k s0 y r q (xs.map f) (ys.map f) rfl rfl (yB sd.1) ht.un ht.info hz ht.size ht.pos fy ht.bytes h0 h1 (zJq hf ys)
  (by grind) (by grind)
 rw[←Ls]at this;exact this
end
end Go.Ab

namespace Go.Ab
open Go
abbrev IK(k:IntKind)(n:Int):T:=.lit (.int k n)
abbrev Str(s:ByteArray):T:=.lit (.string s)
abbrev Pt{α:Type}(f:α→T)(x:α):T:=.ptr (f x)
abbrev Ro{α:Type}(f:α→T)(x:α):T:=.ro (f x)
abbrev A2{α:Type}(f:α→T)(x:α×α):T:=.agg [f x.1,f x.2]
theorem bd{α β:Type}{o:Option α}{f:α→Option β}{r:β}(h:o.bind f=dJ r):∃v,o=dJ v∧f v=dJ r:=by
 cases o with
 |none=>simp at h
 |some v=>grind
theorem cT{α:Type}{b:Bool}{x y:α}{z:α}(hc:b=dL)(h:cond b x y=z):x=z:=by grind
theorem cF{α:Type}{b:Bool}{x y:α}{z:α}(hc:b=dM)(h:cond b x y=z):y=z:=by grind
theorem sI{α:Type}{x y:α}(h:dJ x=dJ y):x=y:=Ll.inj h
section
variable {P:Program}{Γ:Ctx}{pn:kG}{E E':Env}{Q:Exit→Env→Prop}{c:Code}{id id':Nat}
theorem nA(h:CW P Γ pn c E Q):yO P Γ pn c Q .normal E:=h
theorem xA(h:Q (.exit id) E):yO P Γ pn c Q (.exit id) E:=h
theorem rA(h:Q .ret E):yO P Γ pn c Q .ret E:=h
theorem nB(h:Q .normal E):yY id Q .normal E:=h
theorem rB(h:Q .ret E):yY id Q .ret E:=h
theorem xB(h:Q .normal E):yY id Q (.exit id) E:=by simp only[yY,if_true];exact h
theorem neX:Exit.exit id≠.normal:=by simp
theorem neR:Exit.ret≠.normal:=by simp
theorem RW.cases{ops:Array Oper}{os:List Oper}(s:Nat)(b:Bool)(hb:E s=dJ (B b))(ht:b=dL→RW P Γ pn ops os (E.app [(s,dJ (B dL))] []) Q)(hf:b=dM→RW P Γ pn ops os (E.app [(s,dJ (B dM))] []) Q):RW P Γ pn ops os E Q:=by
 have key:∀c:Bool,b=c→zX Γ E (E.app [(s,dJ (B c))] []):=by
  rintro c rfl a w hs
  refine hs.weaken fun s' t h=>?_
  by_cases e:s=s'
  ·grind[Env.app,Wr.find]
  ·simp only[Env.app,Wr.find,e,if_false]at h
   grind
 cases hc:b with
 |true=>grind[ghost]
 |false=>grind[ghost]
end
theorem yU{α:Type}{k:Nat}{f:α→T}{xs:List α}{i:Int}{v:α}{p:List Nat}{u:T}(h:ixO xs i=dJ v)(hr:(f v).get p=dJ u):(L k f xs).get (i.toNat::p)=dJ u:=by simp[T.get,(zDb h).2,hr]
theorem tN{t u:T}{p:List Nat}(h:t.get p=dJ u):(T.ptr t).get (0::p)=dJ u:=h
theorem tO{xs:List T}{x u:T}{j:Nat}{p:List Nat}(hj:xs[j]? =dJ x)(h:x.get p=dJ u):(T.agg xs).get (j::p)=dJ u:=by grind[T.get]
theorem zH5{α:Type}{k:Nat}{f:α→T}{xs:List α}{i:Int}{v w:α}{p:List Nat}{u:T}(h:ixO xs i=dJ v)(hr:(f v).set p u=f w):(L k f xs).set (i.toNat::p) u=L k f (xs.set i.toNat w):=by simp[L,T.set,(zDb h).2,hr,List.map_set]
theorem zDU{t u t':T}{p:List Nat}(h:t.set p u=t'):(T.ptr t).set (0::p) u=T.ptr t':=by simp[T.set,h]
class Enc {α:Type} (f:α→T):Prop where
 clean:∀x,zW (f x)
 rofree:∀x,vW (f x)=dL
 strip:∀x,strip (f x)=f x
 okTup:∀x,(f x).okTup=dL
 rook:∀x,zFD (f x)=dL
theorem zH6{α:Type}{f:α→T}(h:∀x,vW (f x)=dL):(xs:List α)→uD (xs.map f)=dL
 | []=>rfl
 |x::xs=>by simp only[Jt,uD,h x,zH6 h xs,La]
theorem zH7{α:Type}{f:α→T}(h:∀x,zFD (f x)=dL):(xs:List α)→zBU (xs.map f)=dL
 | []=>rfl
 |x::xs=>by simp only[Jt,zBU,h x,zH7 h xs,La]
theorem tG{α:Type}{f g:α→T}(h:∀x,strip (f x)=g x):(xs:List α)→wG (xs.map f)=xs.map g
 | []=>rfl
 |x::xs=>by simp only[Jt,wG,h x,tG h xs]
instance:Enc I:=⟨zPf,fun _=>rfl,fun _=>rfl,fun _=>rfl,fun _=>rfl⟩
instance:Enc B:=⟨zWi,fun _=>rfl,fun _=>rfl,fun _=>rfl,fun _=>rfl⟩
instance{k:IntKind}:Enc (IK k):=⟨fun _=>by simp[zW,yR],fun _=>rfl,fun _=>rfl,fun _=>rfl,fun _=>rfl⟩
instance:Enc Str:=⟨fun _=>by simp[zW,yR],fun _=>rfl,fun _=>rfl,fun _=>rfl,fun _=>rfl⟩
instance{α:Type}{k:Nat}{f:α→T}[h:Enc f]:Enc (L k f):=
 ⟨fun _=>zPe h.clean,fun xs=>by simp only[vW];exact zH6 h.rofree xs,fun xs=>by simp only[L,strip,tG h.strip xs],fun _=>rfl,fun xs=>by simp only[zFD,zH7 h.rook xs]⟩
instance{α:Type}{f:α→T}[h:Enc f]:Enc (A2 f):=
 ⟨fun x=>by simp only[zW,yR,xH];exact⟨h.clean _,h.clean _,trivial⟩,fun x=>by simp only[vW,uD,h.rofree,La],fun x=>by simp only[A2,strip,wG,h.strip],
  fun x=>by simp only[T.okTup,yJ,h.okTup,La],fun x=>by simp only[zFD,zBU,h.rook,La]⟩
instance{α:Type}{f:α→T}[h:Enc f]:Enc (Pt f):=
 ⟨fun x=>by simp only[zW,yR];exact h.clean x,fun x=>by simp only[vW,h.rofree],fun x=>by simp only[Pt,strip,h.strip],fun _=>rfl,fun x=>by simp only[zFD,h.rook]⟩
class uX {α:Type} (f g:α→T):Prop where
 h:∀x,strip (f x)=g x
instance{α:Type}{f:α→T}[h:Enc f]:uX f f:=⟨h.strip⟩
instance{α:Type}{k:Nat}{f g:α→T}[h:uX f g]:uX (L k f) (L k g):=⟨fun xs=>by simp only[L,strip,tG h.h xs]⟩
instance{α:Type}{k:Nat}{g:α→T}:uX (Ro (L k g)) (L k g):=⟨fun _=>rfl⟩
instance{α:Type}{g:α→T}:uX (Ro (Pt g)) (Pt g):=⟨fun _=>rfl⟩
theorem stA{xs ys:List T}(h:wG xs=ys):strip (.agg xs)=.agg ys:=by grind[strip]
theorem stC{x y:T}{xs ys:List T}(h:strip x=y)(h2:wG xs=ys):wG (x::xs)=y::ys:=by grind[wG]
section
variable {E:Env}{rw:Rw}{i s r:Nat}{q:List Nat}{x:Operand}
theorem zS0{α:Type}{k:Nat}{f g:α→T}{xs:List α}(h:uX f g):clo E (L k f xs)=.ro (L k g xs):=by simp only[clo,L,strip,tG h.h xs]
theorem yD1{t u:T}(h:strip t=u):clo E (.ptr t)=.ro (.ptr u):=by grind[clo,strip]
theorem zJr{tr u:T}(hr:E r=dJ tr)(hg:tr.get q.reverse=dJ u)(h4:zB5 u=dL):jP E 4 r q=dJ (r,q,u):=by grind[zB5,jP]
theorem zS1{α:Type}{k:Nat}{f g:α→T}{xs:List α}{tr:T}(hr:E r=dJ tr)(hg:tr.get q.reverse=dJ (L k f xs))(h:uX f g):clo E (.same r q)=.ro (L k g xs):=by simp only[clo,zJr hr hg rfl,T.single,if_true,L,strip,tG h.h xs]
theorem zZv{α:Type}{k l h:Nat}{f g:α→T}{xs:List α}{tr:T}(hr:E r=dJ tr)(hg:tr.get q.reverse=dJ (L k f xs))(hs:uX f g)(h1:l≤h)(h2:h≤xs.length):clo E (.sub r q k l h)=.ro (L k g ((xs.drop l).take (h-l))):=by simp only[clo,zJr hr hg rfl,L,tG hs.h xs,Js,h1,h2,and_self,if_true,Ja5,U5]
theorem yBx{xs ys:List T}(h:zBW E xs=ys):clo E (.agg xs)=.agg ys:=by grind[clo]
theorem yD2:zBW E []=[]:=rfl
theorem yBy{x y:T}{xs ys:List T}(h:clo E x=y)(h2:zBW E xs=ys):zBW E (x::xs)=y::ys:=by grind[zBW]
mutual
theorem zJs(s:Nat):(t:T)→t.okTup=dL→qR E [] s t=dL
 |.agg xs,h=>by simp only[qR,T.okTup]at h ⊢;exact zH8 s xs h
 |.tup _,h=>by grind[T.okTup]
 |.same r q,_|.sub r q _ _ _,_=>by grind[qR]
 |.sl _ _,_|.ptr _,_=>by rfl
 |.lit _,_|.ro _,_|.any,_|.addr _ _,_=>by rfl
theorem zH8(s:Nat):(xs:List T)→yJ xs=dL→zBj E [] s xs=dL
 | [],_=>rfl
 |x::xs,h=>by simp only[yJ,J2]at h;simp only[zBj,zJs s x h.1,zH8 s xs h.2,La]
end
theorem agC{u:T}(t:T)(h:opT E x=dJ t)(h1:clo E t=u)(h2:t.okTup=dL):zCF E [] i x u:=.inr ⟨t,h,h1,by
 cases x with
 |tmp s=>exact zJs s t h2
 |_=>rfl⟩
end
section
variable {P:Program}{Γ:Ctx}{E:Env}{d:Nat}{x y:Operand}{ty:TypeId}{ps:String}{af:Array Edge}{gd:Option (Nat×Bool)}
abbrev zDc(res:List T):Prop:=yT res∧yJ res=dL∧uD res=dL
theorem zIJ:zDc []:=⟨trivial,rfl,rfl⟩
theorem zIK{α:Type}{f:α→T}{x:α}{ts:List T}(h:Enc f)(h2:zDc ts):zDc (f x::ts):=
 ⟨⟨h.clean x,h2.1⟩,by simp only[yJ,h.okTup,h2.2.1,La],by simp only[uD,h.rofree,h2.2.2,La]⟩
abbrev zBl(P:Program)(f:FuncId):Prop:=∀args w,(callFunc f args).run P w=.ok (.enter f args) w
theorem zCq{f:FuncId}{xs:List Operand}{ats:Array TypeId}{us res:List T}(gp:zBl P f)(hc:FnC P f us res [])(gj:wZ E [] 0 xs us)(gx:zDc res)(sd:J4 d Γ.N=dL):
  Ok P Γ ⟨dJ d,.call { callee:=.value (.func f),args:=xs.toArray,argTypes:=ats },ty,ps,af,gd⟩ E (E.app (cWr d res []) (vP d [])):=
 fun _S=>zPb f (.func f) xs ats us res [] rfl rfl (yB sd) gp rfl hc gj .nil gx
theorem zWj{f:FuncId}{xs:List Operand}{ats:Array TypeId}{us res:List T}(gp:zBl P f)(hc:FnC P f us res [])(gf:xs.length=us.length)(gj:∀(i:Nat) u,us[i]? =dJ u→ ∃x,xs[i]? =dJ x∧opT E x=dJ u∧u.flat=dL)(gx:yT res∧yJ res=dL)(sd:J4 d Γ.N=dL):
  Ok P Γ ⟨dJ d,.call { callee:=.value (.func f),args:=xs.toArray,argTypes:=ats },ty,ps,af,gd⟩ E (E.app (cWr d res []) (vP d [])):=
 fun _S=>zSq f (.func f) xs ats us res rfl rfl (yB sd) gp rfl hc gf gj gx
class jR (P:Program) (S:TypeId) (j:Nat) (off:outParam Nat):Prop where
 h:∃fs f fi,P.underlying S=dJ (.struct fs)∧fs[j]? =dJ f∧P.info? f.type=dJ fi∧fi.size≠0∧off=f.offset
theorem yD3{S:TypeId}{j off r:Nat}{q:List Nat}{xs:List T}{u:T}(ht:jR P S j off)(hx:tW E x=dJ (r,q,.ptr (.agg xs)))(hu:xs[j]? =dJ u)(gH:T.sizes (xs.take j)=off)(sd:J4 d Γ.N=dL):
  Ok P Γ ⟨dJ d,.fieldAddr S x j,ty,ps,af,gd⟩ E (E.app [(d,dJ (.addr r (j::0::q)))] [(d,0)]):=by
 obtain⟨fs,f,fi,h1,h2,h3,h4,h5⟩:=ht.h;exact fun _=>yBj x S fs f fi j r q xs u rfl rfl (yB sd) h1 h2 h3 h4 hx hu (by omega)
theorem yBz{S:TypeId}{j off r:Nat}{q:List Nat}{t:T}{xs:List T}{u:T}(ht:jR P S j off)(hx:opT E x=dJ (.addr r q))(hr:E r=dJ t)(hg:t.get q.reverse=dJ (.agg xs))(hu:xs[j]? =dJ u)(gH:T.sizes (xs.take j)=off)(sd:(J4 d Γ.N&&t.locd q.reverse)=dL):
  Ok P Γ ⟨dJ d,.fieldAddr S x j,ty,ps,af,gd⟩ E (E.app [(d,dJ (.addr r (j::q)))] [(d,0)]):=by
 obtain⟨fs,f,fi,h1,h2,h3,h4,h5⟩:=ht.h;simp only[J2]at sd;exact fun _=>zN1 x S fs f fi j r q t xs u rfl rfl (yB sd.1) h1 h2 h3 h4 hx hr hg sd.2 hu (by omega)
theorem zS2{S:TypeId}{j off:Nat}{xs:List T}{u:T}(ht:jR P S j off)(hx:opT E x=dJ (.ro (.ptr (.agg xs))))(hu:xs[j]? =dJ u)(gH:T.sizes (xs.take j)=off)(sd:J4 d Γ.N=dL):
  Ok P Γ ⟨dJ d,.fieldAddr S x j,ty,ps,af,gd⟩ E (E.app [(d,dJ (.ro (.ptr u)))] [(d,0)]):=by
 obtain⟨fs,f,fi,h1,h2,h3,h4,h5⟩:=ht.h;exact fun _=>zRV x S fs f fi j xs u rfl rfl (yB sd) h1 h2 h3 h4 hx hu (by omega)
def zQ{α:Type}(xs:List α)(l h:Int):Option (List α):=if 0≤l∧l≤h∧h≤(xs.length:Int)then dJ ((xs.drop l.toNat).take (h.toNat-l.toNat))else dK
theorem yB0{α:Type}{t e:TypeId}{ti:TypeInfo}{r k:Nat}{q:List Nat}{f:α→T}{xs ys:List α}{lo hi:Option Operand}{l h:Int}(ht:zDT P t e ti k)(hv:zQ xs l h=dJ ys)(hx:tW E x=dJ (r,q,.ro (L k f xs)))(gT:zA3 E lo 0 l.toNat)(eh:zA3 E hi xs.length h.toNat)(sd:J4 d Γ.N=dL):
  Ok P Γ ⟨dJ d,.slice t x lo hi dK,ty,ps,af,gd⟩ E (E.app [(d,dJ (.ro (L k f ys)))] [(d,0)]):=by
 unfold zQ at hv;split at hv
 ·rename_i hc
  simp at hv;subst hv;intro S;have:=zLy (P:=P) (Γ:=Γ.at S) (E:=E) (o:=⟨dJ d,.slice t x lo hi dK,ty,ps,af,gd⟩) x lo hi t e ti r q k (xs.map f) l.toNat h.toNat rfl rfl (yB sd) ht.un ht.info ht.size hx gT (by grind) (by omega) (by simp;omega);simpa[L,Ja5,U5]using this
 ·cases hv
theorem zS3{α:Type}{t e:TypeId}{ti:TypeInfo}{r k:Nat}{q:List Nat}{f:α→T}{xs ys:List α}{lo hi:Option Operand}{l h:Int}(ht:zDT P t e ti k)(hv:zQ xs l h=dJ ys)(hx:tW E x=dJ (r,q,L k f xs))(gT:zA3 E lo 0 l.toNat)(eh:zA3 E hi xs.length h.toNat)(sd:(J4 d Γ.N&&(r != d))=dL):
  Ok P Γ ⟨dJ d,.slice t x lo hi dK,ty,ps,af,gd⟩ E (E.app [(d,dJ (.sub r q k l.toNat h.toNat))] [(d,0)]):=by
 unfold zQ at hv;simp only[J2]at sd;split at hv
 ·rename_i hc
  intro S;exact zKf (P:=P) (Γ:=Γ.at S) (E:=E) (o:=⟨dJ d,.slice t x lo hi dK,ty,ps,af,gd⟩) x lo hi t e ti r q k (xs.map f) l.toNat h.toNat rfl rfl (yB sd.1) ht.un ht.info ht.size hx gT (by grind) (by omega) (by simp;omega) (by grind)
 ·cases hv
end
end Go.Ab

namespace Go.Ab
open Go
theorem zCa{t:T}(h:zW t):zW t:=h
theorem zFL{α:Type}{f:α→T}{k:Nat}{xs:List α}(hf:∀x,zW (f x)):zW (L k f xs):=zPe hf
theorem zS4{t:T}(h:zW t):zW (.ptr t):=by simpa only[zW,yR]using h
theorem zKw{xs:List T}(h:yT xs):zW (.agg xs):=by simpa only[zW,yR]using h
section
variable {P:Program}{Γ:Ctx}{pn:kG}{E E':Env}{Q:Exit→Env→Prop}{c c1 c2:Code}{x:Operand}
theorem CW.condT(hx:opT E x=dJ (B dL))(h:CW P Γ pn c1 E Q):CW P Γ pn (.cond x c1 c2) E Q:=by grind[CW.cond]
theorem CW.condF(hx:opT E x=dJ (B dM))(h:CW P Γ pn c2 E Q):CW P Γ pn (.cond x c1 c2) E Q:=by grind[CW.cond]
theorem CW.casesB(b:Bool)(ht:b=dL→CW P Γ pn c E Q)(hf:b=dM→CW P Γ pn c E Q):CW P Γ pn c E Q:=by grind
theorem yB1{wr:Wr}{chg:Chg}{s:Nat}{t:T}(h:E s=dJ t)(hf:wr.find s=dK:=by rfl)(hb:t.okB chg=dL:=by rfl):E.app wr chg s=dJ t:=by grind[Env.app]
theorem xN.gh{ops:Array Oper}{o:Oper}{E1:Env}(hg:zX Γ E E1)(h:xN P Γ ops o E1 E'):xN P Γ ops o E E':=fun a w K Q hs hK=>h a w K Q (hg a w hs) hK
theorem zEU{t:T}(h:opT E x=dJ (.ro (.ptr t))):zGq E x=dL:=by simp[zGq,h]
theorem zDD{r:Nat}{q:List Nat}{t:T}(h:tW E x=dJ (r,q,.ptr t)):zGq E x=dL:=by grind[zGq]
end
theorem yB2{E:Env}{n:Nat}:zA3 E dK n (n:Int).toNat:=by simp[zA3]
theorem yB3{E:Env}:zA3 E dK 0 (0:Int).toNat:=by simp[zA3]
theorem zZw{E:Env}{x:Operand}{n:Int}{d:Nat}(h0:0≤n)(h:opT E x=dJ (I n)):zA3 E (dJ x) d n.toNat:=⟨.i64,by grind⟩
theorem sS{α:Type}{xs ys:List α}{l h:Int}(hv:zQ xs l h=dJ ys):0≤l∧l≤h∧h≤xs.length∧ys=(xs.drop l.toNat).take (h.toNat-l.toNat):=by grind[zQ]
theorem zJt{α:Type}{xs ys:List α}{l h:Int}(hv:zQ xs l h=dJ ys):0≤l:=(sS hv).1
theorem zJu{α:Type}{xs ys:List α}{l h:Int}(hv:zQ xs l h=dJ ys):0≤h:=by have:=sS hv;omega
theorem zWk{E:Env}{r k:Nat}{q:List Nat}{α:Type}{l h:Int}{f g:α→T}{xs ys:List α}{tr:T}(hr:E r=dJ tr)(hg:tr.get q.reverse=dJ (L k f xs))(hs:uX f g)(hv:zQ xs l h=dJ ys):
  clo E (.sub r q k l.toNat h.toNat)=.ro (L k g ys):=by
 obtain⟨h1,h2,h3,rfl⟩:=sS hv
 grind[zZv]
section
variable {P:Program}{Γ:Ctx}{E E':Env}{d:Nat}{x y:Operand}{ty:TypeId}{ps:String}{af:Array Edge}{gd:Option (Nat×Bool)}
theorem zCr{o:Oper}{e b:Bool}{d:Nat}{wr:Wr}{chg:Chg}(he:e=b)(h:Ok P Γ o E (E.app ((d,dJ (B e))::wr) chg)):Ok P Γ o E (E.app ((d,dJ (B b))::wr) chg):=he▸h
theorem yB4{t:TypeId}{u tr t0:T}{r:Nat}{q:List Nat}(ht:zWh P t u)(hx:tW E x=dJ (r,q,.ptr t0))(hr:E r=dJ tr)(hg:tr.get (0::q).reverse=dJ u)(sd:(J4 d Γ.N&&tr.locd (0::q).reverse&&(r != d)&&T.okB [(d,0)] (cpT r u (0::q)))=dL):
  Ok P Γ ⟨dJ d,.load t x,ty,ps,af,gd⟩ E (E.app [(d,dJ (cpT r u (0::q)))] [(d,0)]):=by
 obtain⟨ds,ti,h1,h2,h3,h4⟩:=ht.h;simp only[J2]at sd;exact fun S=>zLv x t ds ti r (0::q) tr u rfl rfl (yB sd.1.1.1) h1 h2 h3 h4 (zCE.ptr hx) hr hg sd.1.1.2 (by grind) sd.2
theorem zY1{t:TypeId}{ti:TypeInfo}{r s:Nat}{q:List Nat}{tr tr' u0 u:T}(hi:P.info? t=dJ ti)(gB:(ti.size==u.size&&J4 0 ti.size)=dL)(hx:∀S,zCE (Γ.at S) E x r q)(hr:E r=dJ tr)(hg:tr.get q.reverse=dJ u0)(gv:tr.set q.reverse u=tr')(hy:E s=dJ u)(hu:zW u)
  (sd:(tr.single&&tr.locd q.reverse&&uG u u0&&(r != s)&&u.okTup)=dL):Ok P Γ ⟨dK,.store t x (.tmp s),ty,ps,af,gd⟩ E (E.app ((r,dJ tr')::sWr r q (.slot s u)) ((r,q.length)::sQ [.slot s u])):=by
 simp only[J2]at sd gB;subst gv;intro S;refine zJe (P:=P) (Γ:=Γ.at S) (E:=E) (o:=⟨dK,.store t x (.tmp s),ty,ps,af,gd⟩) t ti x (.tmp s) r q tr u0 (.slot s u) rfl rfl hi (by grind[yM.tree]) (yB gB.2) (hx S) hr sd.1.1.1.1 hg sd.1.1.1.2 sd.1.1.2 (.slot s _)
  ⟨by grind,by simp,?_⟩
 grind[xF]
theorem yD4{t:TypeId}{ti:TypeInfo}{r s:Nat}{q:List Nat}{tr tr' u0 u:T}(hi:P.info? t=dJ ti)(gB:(ti.size==u.size&&J4 0 ti.size)=dL)(hx:opT E x=dJ (.addr r q))(hr:E r=dJ tr)(hg:tr.get q.reverse=dJ u0)(gv:tr.set q.reverse u=tr')(hy:E s=dJ u)(hu:zW u)
  (sd:(tr.single&&tr.locd q.reverse&&uG u u0&&(r != s)&&u.okTup)=dL):Ok P Γ ⟨dK,.store t x (.tmp s),ty,ps,af,gd⟩ E (E.app ((r,dJ tr')::sWr r q (.slot s u)) ((r,q.length)::sQ [.slot s u])):=
 zY1 hi gB (fun _=>zCE.addr hx) hr hg gv hy hu sd
theorem zY2{t:TypeId}{ti:TypeInfo}{r s:Nat}{q:List Nat}{tr tr' u0 u t0:T}(hi:P.info? t=dJ ti)(gB:(ti.size==u.size&&J4 0 ti.size)=dL)(hx:tW E x=dJ (r,q,.ptr t0))(hr:E r=dJ tr)(hg:tr.get (0::q).reverse=dJ u0)(gv:tr.set (0::q).reverse u=tr')(hy:E s=dJ u)(hu:zW u)
  (sd:(tr.single&&tr.locd (0::q).reverse&&uG u u0&&(r != s)&&u.okTup)=dL):Ok P Γ ⟨dK,.store t x (.tmp s),ty,ps,af,gd⟩ E (E.app ((r,dJ tr')::sWr r (0::q) (.slot s u)) ((r,(0::q).length)::sQ [.slot s u])):=
 zY1 hi gB (fun _=>zCE.ptr hx) hr hg gv hy hu sd
theorem zH9{G:Gh}{s:Nat}:(xs:List T)→yJ xs=dL→ ∀(p:List Nat)(i j:Nat)(u:T),xs[j]? =dJ u→ ∃l1 l2,yD G s xs p i=l1++vals G s u ((i+j)::p)++l2∧l1.length=T.sizes (xs.take j)
 | [],_,_,_,_,_,h=>by simp at h
 |x::xs,ht,p,i,j,u,h=>by
  simp only[yJ,J2]at ht;cases j with
  |zero=>simp at h;subst h;exact⟨[],yD G s xs p (i+1),by rfl,by rfl⟩
  |succ j=>
   obtain⟨l1,l2,h1,h2⟩:=zH9 xs ht.2 p (i+1) j u (by grind);refine⟨vals G s x (i::p)++l1,l2,by rw[yD,h1,show i+(j+1)=i+1+j from by omega];simp,?_⟩;rw[J5,wY x _ (by rintro ys rfl;grind[T.okTup]),h2,L5,T.sizes]
theorem zS5{S:TypeId}{j off s:Nat}{xs:List T}{u:T}(ht:jR P S j off)(hv:∃ds ti fs f,P.underlying S=dJ (.struct fs)∧fs[j]? =dJ f∧P.underlying f.type=dJ ds∧P.info? f.type=dJ ti∧zF8 ds= !u.single∧ti.size=u.size)(hx:E s=dJ (.agg xs))(hu:xs[j]? =dJ u)(gH:T.sizes (xs.take j)=off)
  (sd:(J4 d Γ.N&&yJ xs&&u.okTup&&(s != d)&&T.okB [(d,0)] (cpT s u [j]))=dL):
  Ok P Γ ⟨dJ d,.field S (.tmp s) j,ty,ps,af,gd⟩ E (E.app [(d,dJ (cpT s u [j]))] [(d,0)]):=by
 obtain⟨fs,f,fi,h1,h2,h3,h4,h5⟩:=ht.h;obtain⟨ds,ti,fs',f',g1,g2,g3,g4,g5,g6⟩:=hv;simp only[J2]at sd;rw[h1]at g1;simp at g1;subst g1;rw[h2]at g2;simp at g2;subst g2;rw[h3]at g4;simp at g4;subst g4;intro S';refine xT.value rfl fun a w G g9=>?_
 obtain⟨k1,k2,_⟩:=g9.ent s _ hx;simp only[R]at k2;have k3:=zBD xs [] 0 j u k2 hu;simp only[Jd]at k3;have gg:s≠d:=by grind
 have gZ:∀ys,u≠.tup ys:=zBY sd.1.1.2;have hk:=G.put_keep (w:=w) (w':=w) rfl d (fun z=>G.hd s (z++[j]));have hz:∀z,(G.put d (fun z=>G.hd s (z++[j]))).hd d (z++[])=G.hd s (z++[j]):=by grind[Gh.put_self]
 refine⟨sO G s u [j],w,?_,_,vE g9 rfl (yB sd.1.1.1.1) (fun z=>G.hd s (z++[j])) (fun z=>g9.mem.one _ _) _ _ (by grind[zBh])
  (zEo (fun p=>G.put_other _ p gg) u [j] [] hz gZ (hk.keepR (by grind[zAT,qW])) k3) (qW s u [j])⟩
 obtain⟨l1,l2,e1,e2⟩:=zH9 (G:=G) (s:=s) xs sd.1.1.1.2 [] 0 j u hu;simp only[Jd]at e1;have e3:l1.length=f.offset:=by omega
 have e4:=wY (G:=G) (s:=s) u [j] gZ;have bE:(part f.type (yD G s xs [] 0).toArray f.offset).run P w=.ok (sO G s u [j]) w:=by
  rw[e1];cases u with
  |agg ys=>
   simp[T.single]at g5;simp only[vals,T.size]at e4 g6 ⊢
   simp[part,kY g3,g5,sizeOf,typeInfo,h3,sO]
   grind
  |tup ys=>grind
  |_=>
   simp[T.single]at g5;simp[part,kY g3,g5,sO,vals,←e3]
 simp[execOp,xP k1,mkV,Instr.field,run_underlying h1,h2,asAgg,bE]
theorem zPh{α:Type}{t e:TypeId}{ti:TypeInfo}{k:Nat}{u:T}{n:Nat}{a:Int}{f:α→T}{z:α}(ht:ElT P t e ti k u)(hz:f z=u)(hn:yG a=dJ n)(hx:opT E x=dJ (I a))(hy:opT E y=dJ (I a))(sd:J4 d Γ.N=dL):
  Ok P Γ ⟨dJ d,.makeSlice t x y,ty,ps,af,gd⟩ E (E.app [(d,dJ (L k f (J1 n z)))] [(d,0)]):=by
 have:=zZs (P:=P) (Γ:=Γ) (E:=E) (d:=d) (ty:=ty) (ps:=ps) (af:=af) (gd:=gd) ht hn hx hn hy (Jk _) sd;rw[←hz]at this;simpa[L]using this
theorem zY3{t e:TypeId}{ti:TypeInfo}{k:Nat}{u:T}(ht:ElT P t e ti k u)(sd:J4 d Γ.N=dL):Ok P Γ ⟨dJ d,.buildSlice t 0 #[],ty,ps,af,gd⟩ E (E.app [(d,dJ (.sl k []))] [(d,0)]):=
 fun _=>zHm t e ti k rfl rfl (yB sd) ht.un ht.info
theorem zZx{t:TypeId}{s:ByteArray}(hu:P.underlying t=dJ .string)(hx:opT E x=dJ (Str s))(sd:J4 d Γ.N=dL):
  Ok P Γ ⟨dJ d,.call { callee:=.builtin .len,args:=#[x],argTypes:=#[t] },ty,ps,af,gd⟩ E (E.app [(d,dJ (I s.size))] [(d,0)]):=by
 intro S;refine tQ (.int .i64 s.size) rfl rfl (yB sd) fun a w G g9=>?_
 have h1:=(yW g9 hx).1;simp[execOp,resolve,invoke,builtin,h1,Builtin.len_,run_underlying hu,goInt]
theorem zPi{P:Program}{w:World}{t:TypeId}{a b:Bool}(n:Nat)(h:P.underlying t=dJ .bool):(Op.equalIn (n+1) t (.bool a) (.bool b)).run P w=.ok (a==b) w:=by simp only[Op.equalIn,Sem.run_bind,run_underlying h];rfl
theorem zEV(t:TypeId)(x y:Value):Op.equal t x y=Op.equalIn (9999+1) t x y:=rfl
theorem zZy{a b:Bool}{xt yt:TypeId}(hu:P.underlying xt=dJ .bool)(hx:opT E x=dJ (B a))(hy:opT E y=dJ (B b))(sd:J4 d Γ.N=dL):Ok P Γ ⟨dJ d,.binOp .eql xt x y yt,ty,ps,af,gd⟩ E (E.app [(d,dJ (B (a==b)))] [(d,0)]):=by
 intro S;refine tQ _ rfl rfl (yB sd) fun c w G g9=>?_
 have h1:=(yW g9 hx).1;have h2:=(yW g9 hy).1;have h3:=zPi (P:=P) (w:=w) (a:=a) (b:=b) 9999 hu;simp[execOp,h1,h2,eqGuard,binOp,zEV,h3]
theorem zZz{a b:Bool}{xt yt:TypeId}(hu:P.underlying xt=dJ .bool)(hx:opT E x=dJ (B a))(hy:opT E y=dJ (B b))(sd:J4 d Γ.N=dL):Ok P Γ ⟨dJ d,.binOp .neq xt x y yt,ty,ps,af,gd⟩ E (E.app [(d,dJ (B (a != b)))] [(d,0)]):=by
 intro S;refine tQ _ rfl rfl (yB sd) fun c w G g9=>?_
 have h1:=(yW g9 hx).1;have h2:=(yW g9 hy).1;have h3:=zPi (P:=P) (w:=w) (a:=a) (b:=b) 9999 hu;simp[execOp,h1,h2,eqGuard,binOp,zEV,h3,bne]
theorem zGM{P:Program}{w:World}{t:TypeId}{k:IntKind}{a b:Int}(n:Nat)(h:P.underlying t=dJ (.int k)):(Op.equalIn (n+1) t (.int k a) (.int k b)).run P w=.ok (a==b) w:=by simp only[Op.equalIn,Sem.run_bind,run_underlying h];simp
end
end Go.Ab

namespace Go.Ab
open Go
def zBF:List Nat→Bool
 | []=>dL
 |x::xs=> !xs.contains x&&zBF xs
theorem zDE:{l:List Nat}→zBF l=dL→l.Nodup
 | [],_=>by simp
 |x::xs,h=>by simp only[zBF,J2,G7,H0,decide_eq_false_iff_not]at h;exact Kx.2 ⟨h.1,zDE h.2⟩
def zCs(E:Env):List yM→Prop
 | []=>True
 |.slot s t::l=>(E s=dJ t∧zW t∧t.okTup=dL)∧zCs E l
 |.zero u::l=>u.zOk=dL∧zCs E l
theorem zCs.get{E:Env}:(l:List yM)→zCs E l→(∀s t,yM.slot s t∈l→E s=dJ t∧zW t∧t.okTup=dL)∧ ∀u,yM.zero u∈l→u.zOk=dL
 | [],_=>⟨fun _ _ h=>by simp at h,fun _ h=>by simp at h⟩
 |.slot s t::l,h=>by
  obtain⟨h1,h2⟩:=zCs.get l h.2;exact⟨fun s' t' hm=>by
   rcases J9.1 hm with e|hm
   ·cases e;exact h.1
   ·exact h1 s' t' hm,fun u hm=>by
   rcases J9.1 hm with e|hm
   ·cases e
   ·exact h2 u hm⟩
 |.zero u::l,h=>by
  obtain⟨h1,h2⟩:=zCs.get l h.2;exact⟨fun s' t' hm=>by
   rcases J9.1 hm with e|hm
   ·cases e
   ·exact h1 s' t' hm,fun u' hm=>by
   rcases J9.1 hm with e|hm
   ·cases e;exact h.1
   ·exact h2 u' hm⟩
section
variable {E:Env}
theorem pkN:zCs E []:=trivial
theorem pkS{s:Nat}{t:T}{l:List yM}(h:E s=dJ t)(hc:zW t)(h3:t.okTup=dL)(hl:zCs E l):zCs E (.slot s t::l):=⟨⟨h,hc,h3⟩,hl⟩
theorem pkZ{u:T}{l:List yM}(h:u.zOk=dL)(hl:zCs E l):zCs E (.zero u::l):=⟨h,hl⟩
theorem zCs.parts{d:Nat}{l:List yM}(h:zCs E l)(hn:zBF (d::xF l)=dL):tR E d l:=⟨(zCs.get l h).1,(zCs.get l h).2,zDE hn⟩
def zCK(E:Env)(zs:List T)(ps:List yM):List (Nat×Operand)→List (Nat×yM)→Prop
 | [],[]=>True
 |x::xs,q::qs=>(x.1=q.1∧zAF E x.2 q.2∧ps[q.1]? =dJ q.2∧ ∃u,zs[q.1]? =dJ u∧u.size=q.2.tree.size)∧zCK E zs ps xs qs
 |_,_=>False
theorem bqN{zs:List T}{ps:List yM}:zCK E zs ps [] []:=trivial
theorem bqC{zs:List T}{ps:List yM}{i:Nat}{x:Operand}{q:yM}{xs:List (Nat×Operand)}{qs:List (Nat×yM)}(h:zAF E x q)(hl:zCK E zs ps xs qs)(h1:ps[i]? =dJ q:=by rfl)(h2:∃u,zs[i]? =dJ u∧u.size=q.tree.size:=by exact⟨_,rfl,rfl⟩):zCK E zs ps ((i,x)::xs) ((i,q)::qs):=⟨⟨rfl,h,h1,h2⟩,hl⟩
theorem zCK.ix{zs:List T}{ps:List yM}:(pl:List (Nat×Operand))→(qs:List (Nat×yM))→zCK E zs ps pl qs→pl.map (·.1)=qs.map (·.1)
 | [],[],_=>rfl
 |x::xs,q::qs,h=>by simp[h.1.1,zCK.ix xs qs h.2]
 | [],_::_,h=>by simp[zCK]at h
 |_::_,[],h=>by simp[zCK]at h
theorem zCK.get{zs:List T}{ps:List yM}:(pl:List (Nat×Operand))→(qs:List (Nat×yM))→zCK E zs ps pl qs→ ∀(j:Nat)(x:Nat×Operand)(q:Nat×yM),pl[j]? =dJ x→qs[j]? =dJ q→zAF E x.2 q.2∧q.2∈ps∧ ∃u,zs[q.1]? =dJ u∧u.size=q.2.tree.size
 | [],[],_,j,_,_,h,_=>by simp at h
 |x::xs,q::qs,h,j,x',q',h1,h2=>by
  cases j with
  |zero=>simp at h1 h2;subst h1;subst h2;exact⟨h.1.2.1,Lj h.1.2.2.1,h.1.2.2.2⟩
  |succ j=>exact zCK.get xs qs h.2 j x' q' (by simpa using h1) (by simpa using h2)
 | [],_::_,h,_,_,_,_,_=>by simp[zCK]at h
 |_::_,[],h,_,_,_,_,_=>by simp[zCK]at h
end
class zHA (P:Program) (t:TypeId) (zs:outParam (List T)):Prop where
 h:∃(place:Nat→Option (Nat×Nat))(z:Value),(∀parts,P.built t parts=Instr.fill place z.cells parts)∧qH zs=z.cells.toList∧zAV zs=dL∧ ∀i u,zs[i]? =dJ u→place i=dJ (T.sizes (zs.take i),u.size)
section
variable {P:Program}{Γ:Ctx}{E E':Env}{d:Nat}{x y:Operand}{ty:TypeId}{ps:String}{af:Array Edge}{gd:Option (Nat×Bool)}
theorem zWl{t:TypeId}{zs:List T}{pa:Array (Nat×Operand)}(hb:zHA P t zs)(pl:List (Nat×Operand))(qs:List (Nat×yM))(pp:List yM)(gz:zCs E pp)(hq:zCK E zs pp pl qs)(sd:(J4 d Γ.N&&zBF (d::xF pp))=dL)
  (fk:pa=pl.toArray:=by rfl)(gU:qs.foldl (fun ps q=>ps.set q.1 q.2) (zs.map yM.zero)=pp:=by rfl):Ok P Γ ⟨dJ d,.build t pa,ty,ps,af,gd⟩ E (E.app ((d,dJ (.agg (pp.map yM.tree)))::pWr d pp 0) ((d,0)::sQ pp)):=by
 obtain⟨place,z,h1,h2,h3,h4⟩:=hb.h;simp only[J2]at sd;subst fk;exact fun S=>zSe t place z zs pl qs pp rfl rfl (yB sd.1) h1 h2 h3 h4 gU (gz.parts sd.2) (zCK.ix _ _ hq) (zCK.get _ _ hq)
def zLN(k:Nat):List yM→Bool
 | []=>dL
 |p::l=>(p.tree.size==k)&&zLN k l
theorem zLO{k:Nat}:(l:List yM)→zLN k l=dL→ ∀p∈l,p.tree.size=k
 | [],_,_,h=>by simp at h
 |p::l,h,q,hm=>by
  simp only[zLN,J2,beq_iff_eq]at h;rcases J9.1 hm with rfl|hm
  ·exact h.1
  ·exact zLO l h.2 q hm
theorem yD5{α:Type}{t e:TypeId}{ti:TypeInfo}{k n:Nat}{u:T}{pa:Array (Nat×Operand)}(ht:ElT P t e ti k u)(xs:List Operand)(pp:List yM)(ys:List α)(f:α→T)(hx:uC E xs pp)(gz:zCs E pp)
  (sd:(J4 d Γ.N&&zBF (d::xF pp)&&zLN k pp&&J4 0 n&&Un (n*k) 65536)=dL)(hn:xs.length=n)(fk:pa=((xs.zipIdx 0).map fun x=>(x.2,x.1)).toArray:=by rfl)(hy:pp.map yM.tree=ys.map f:=by rfl):
  Ok P Γ ⟨dJ d,.buildSlice t n pa,ty,ps,af,gd⟩ E (E.app ((d,dJ (L k f ys))::pWr d pp 0) ((d,0)::sQ pp)):=by
 obtain⟨z,hz,_⟩:=ht.zero;simp only[J2]at sd;subst fk;intro S;have c0:n*k≤65536:=by simpa[Nat.ble_eq]using sd.2
 have:=zIF (P:=P) (Γ:=Γ.at S) (E:=E) (o:=⟨dJ d,.buildSlice t n ((xs.zipIdx 0).map fun x=>(x.2,x.1)).toArray,ty,ps,af,gd⟩) t e ti z k n xs pp rfl rfl (yB sd.1.1.1.1) ht.un ht.info hz ht.size ht.pos hn (yB sd.1.2) (by omega) hx (gz.parts sd.1.1.1.2) (zLO pp sd.1.1.2);rw[hy]at this;exact this
theorem zLP{α:Type}{f g:α→T}(h:∀y,roT (g y)=f y):(ys:List α)→roT.roTs (ys.map g)=ys.map f
 | []=>rfl
 |y::ys=>by simp only[Jt,roT.roTs,h y,zLP h ys]
theorem zNB{α:Type}{t e:TypeId}{ti:TypeInfo}{k r:Nat}{q:List Nat}{u:T}{f g:α→T}{xs ys zs:List α}{s0:Nat}(ht:ElT P t e ti k u)(bW:∀y,roT (g y)=f y)(gB:∀y,(g y).size=k)(hg:Enc g)(hv:zZ xs ys=dJ zs)(h0:E s0=dJ (L k f xs))(h1:tW E y=dJ (r,q,.ro (L k g ys)))(sd:(J4 d Γ.N&&(s0 != d))=dL):
  Ok P Γ ⟨dJ d,.call { callee:=.builtin .append,args:=#[.tmp s0,y],argTypes:=#[t,t] },ty,ps,af,gd⟩ E (E.app [(d,dJ (L k f zs)),(s0,dJ .any)] [(d,0),(s0,1)]):=by
 obtain⟨rfl,hl⟩:=zFK hv;obtain⟨z,hz,fy⟩:=ht.zsize;simp only[J2]at sd;intro S;have:=zKp (P:=P) (Γ:=Γ.at S) (E:=E) (o:=⟨dJ d,.call { callee:=.builtin .append,args:=#[.tmp s0,y],argTypes:=#[t,t] },ty,ps,af,gd⟩) t e ti z k s0 y r q (xs.map f) (ys.map g) rfl rfl (yB sd.1) ht.un ht.info hz ht.size ht.pos fy ht.bytes h0 h1 (zH7 hg.rook ys)
  (by intro v hv;obtain⟨y,_,rfl⟩:=Ji.1 hv;exact gB y) (by simpa using sd.2) (by simpa using hl)
 rw[zLP bW,←Ls]at this;exact this
def wP{α:Type}(xs:List α)(m:Int)(z:α):Option (List α):=if 0≤m∧xs.length+m.toNat≤68719476736 then dJ (xs++J1 m.toNat z)else dK
theorem zS6{α:Type}{t t2 e:TypeId}{k2:IntKind}{ti:TypeInfo}{k:Nat}{u:T}{f:α→T}{z:α}{xs zs:List α}{s0:Nat}{m:Int}(ht:ElT P t e ti k u)(cu:P.underlying t2=dJ (.int k2))(hz:f z=u)(hv:wP xs m z=dJ zs)(h0:E s0=dJ (L k f xs))(h1:opT E y=dJ (I m))(sd:(J4 d Γ.N&&(s0 != d))=dL):
  Ok P Γ ⟨dJ d,.call { callee:=.builtin .append,args:=#[.tmp s0,y],argTypes:=#[t,t2] },ty,ps,af,gd⟩ E (E.app [(d,dJ (L k f zs)),(s0,dJ .any)] [(d,0),(s0,1)]):=by
 unfold wP at hv;split at hv
 ·rename_i hc
  simp at hv;subst hv;obtain⟨zv,pV,eM⟩:=ht.zero;simp only[J2]at sd;obtain⟨n,rfl⟩:∃n:Nat,m=n:=⟨m.toNat,by omega⟩;intro S;have:=zHv (P:=P) (Γ:=Γ.at S) (E:=E) (o:=⟨dJ d,.call { callee:=.builtin .append,args:=#[.tmp s0,y],argTypes:=#[t,t2] },ty,ps,af,gd⟩) t t2 e k2 ti zv u k s0 y .i64 n (xs.map f) rfl rfl (yB sd.1) ht.un cu ht.info pV ht.size ht.pos ht.bytes ht.zok eM ht.us h0 h1
   (by simpa using sd.2) (by simp at hc ⊢;omega)
  have e:xs.map f++J1 n u=(xs++J1 n z).map f:=by simp[hz]
  rw[e]at this;have h2:((n:Int)).toNat=n:=by simp
  rw[h2];exact this
 ·cases hv
end
section
variable {Γ:Ctx}{E:Env}
theorem zX.trq(d r:Nat)(q:List Nat){tr u tr':T}(hd:E d=dJ (.same r q))(hr:E r=dJ tr)(hg:tr.get q.reverse=dJ u)(eP:zW u)(sd:(u.single&&wJ tr&&tr.okB [(d,1),(r,q.length+1)]&&(d != r))=dL)(gv:(if q=[]then .same d []else tr.set q.reverse .any)=tr':=by rfl):
  zX Γ E (E.app [(d,dJ u),(r,dJ tr')] [(d,1),(r,q.length+1)]):=by
 simp only[J2]at sd
 rintro a w ⟨S,hS,hs⟩
 have gg:d≠r:=by simpa using sd.2
 have:=zN7 hs d [] r q (.same r q) tr u hd rfl hr hg sd.1.1.1 eP gg (by simp[T.okB,zEa,gg]) sd.1.2 rfl sd.1.1.2;subst gv;exact⟨S,hS,this⟩
theorem zX.trf(d:Nat)(g:List Nat)(r:Nat)(q:List Nat)(td tr:T){u td' tr':T}(hd:E d=dJ td)(pm:td.get g.reverse=dJ (.same r q))(hr:E r=dJ tr)(hg:tr.get q.reverse=dJ u)(gv:td.set g.reverse u=td')(eP:zW u)
  (sd:(u.single&&wJ td&&wJ tr&&td.okB [(d,g.length+1),(r,q.length+1)]&&tr.okB [(d,g.length+1),(r,q.length+1)]&&(d != r))=dL)(cw:(if q=[]then .same d g else tr.set q.reverse .any)=tr':=by rfl):
  zX Γ E (E.app [(d,dJ td'),(r,dJ tr')] [(d,g.length+1),(r,q.length+1)]):=by
 simp only[J2]at sd
 rintro a w ⟨S,hS,hs⟩
 have gg:d≠r:=by simpa using sd.2
 have:=zN7 hs d g r q td tr u hd pm hr hg sd.1.1.1.1.1 eP gg sd.1.1.2 sd.1.2 sd.1.1.1.1.2 sd.1.1.1.2;subst gv cw;exact⟨S,hS,this⟩
theorem zX.frz{α:Type}(s:Nat){k:Nat}{f g:α→T}(xs:List α)(hs:E s=dJ (L k f xs))(h:uX f g):zX Γ E (E.app [(s,dJ (.ro (L k g xs)))] [(s,1)]):=by have:=zX.freeze (Γ:=Γ) s _ hs;simp only[vQ,strip,tG h.h xs]at this;exact this
theorem zX.res(d r:Nat)(q:List Nat)(tr:T){u:T}(hd:E d=dJ (.same r q))(hr:E r=dJ tr)(hg:tr.get q.reverse=dJ (.ro u)):zX Γ E (E.app [(d,dJ (.ro u))] []):=by
 rintro a w ⟨S,hS,e6,G,g9⟩
 refine⟨S,hS,e6,G,?_⟩;have hk:kR [] G w G w:=⟨fun _ _ _=>rfl,fun _ _ _=>rfl,fun _ _ _ _ _ _ h _=>⟨h,rfl⟩,fun _ _ _ h _=>h,fun b cs e h=>⟨cs,h,rfl⟩⟩;refine vV g9 rfl hk g9.mem (fun s _=>⟨fun n hn=>by simp at hn,rfl⟩) fun s t hs=>?_
 simp only[Wr.find]at hs;split at hs
 ·rename_i e;subst e
  simp at hs;subst hs;obtain⟨h1,h2,_⟩:=g9.ent d _ hd;obtain⟨_,h4,_⟩:=g9.ent r _ hr;simp only[R]at h2;have h5:=(zB1 q.reverse tr _ [] h4 hg).1;simp only[rp,K5,Jb,R]at h5;exact⟨by rw[h1];rfl,by simp only[R];rw[h2];exact h5,by simp[Top]⟩
 ·cases hs
end
theorem zKx:(p:List Nat)→ ∀(t u0 a:T),t.get p=dJ u0→(t.set p a).get p=dJ a
 | [],t,_,a,_=>by cases t<;>cases a<;>rfl
 |i::p,t,u0,a,h=>by
  cases t with
  |sl k xs|agg xs|tup xs=>
   simp only[T.get,T.set]at h ⊢
   cases hx:xs[i]? with
   |none=>rw[hx]at h;cases h
   |some x=>
    rw[hx]at h;have hi:=(Jo.1 hx).1;simp only[];simp only[T.get,Q9 hi];exact zKx p x u0 a h
  |ptr t=>
   simp only[T.get,T.set]at h ⊢
   split at h
   ·rename_i e;subst e;simp only[if_true,T.get];exact zKx p t u0 a h
   ·cases h
  |_=>simp[T.get]at h
theorem set_set:(p:List Nat)→ ∀(t u0 a b:T),t.get p=dJ u0→(t.set p a).set p b=t.set p b
 | [],t,_,a,_,_=>by cases t<;>cases a<;>rfl
 |i::p,t,u0,a,b,h=>by
  cases t with
  |sl k xs|agg xs|tup xs=>
   simp only[T.get,T.set]at h ⊢
   cases hx:xs[i]? with
   |none=>rw[hx]at h;cases h
   |some x=>
    rw[hx]at h;have hi:=(Jo.1 hx).1;simp only[];simp only[T.set,Q9 hi,List.set_set,set_set p x u0 a b h]
  |ptr t=>
   simp only[T.get,T.set]at h ⊢
   split at h
   ·rename_i e;subst e;simp only[if_true,T.set,set_set p t u0 a b h]
   ·cases h
  |_=>simp[T.get]at h
def zBy:T→Bool
 |.sl _ _|.ptr _=>dL
 |_=>dM
theorem zS7{t:T}(h:zBy t=dL)(p:List Nat){u:T}(hp:p≠[]):zBy (t.set p u)=dL:=by
 cases p with
 |nil=>exact absurd rfl hp
 |cons i p=>cases t<;>simp[zBy]at h<;>simp only[T.set]<;>split<;>rfl
theorem uY{t:T}(h:zBy t=dL)(chg:Chg):t.okB chg=dL∧wJ t=dL∧t.single=dL:=by cases t<;>simp[zBy]at h<;>simp[T.okB,wJ,T.single]
section
variable {P:Program}{Γ:Ctx}{E E':Env}{d:Nat}{ty:TypeId}{ps:String}{af:Array Edge}{gd:Option (Nat×Bool)}
theorem agM{E:Env}{rw:Rw}{i:Nat}{x:Operand}{u:T}(t:T)(h:opT E x=dJ t)(h1:clo E t=u)(h2:zSp E (rw.map (·.2.1)) x t=dL):zCF E rw i x u:=.inr ⟨t,h,h1,h2⟩
theorem yB5{E:Env}{rw:Rw}{i s:Nat}{u u':T}(h:E s=dJ u)(hc:zW u)(hr:vW u=dL)(hs:u.okTup=dL:=by rfl)(hm:(i,s,u')∈rw:=by exact List.mem_singleton.2 rfl):zCF E rw i (.tmp s) u:=.inl ⟨s,u',rfl,hm,h,hc,hs,hr⟩
abbrev vK(E:Env)(ds r:Nat)(q:List Nat)(tr u:T):Env:=E.app [(ds,dJ u),(r,dJ (if q=[]then .same ds []else tr.set q.reverse .any))] [(ds,1),(r,q.length+1)]
theorem zWm{f:FuncId}{xs:List Operand}{ats:Array TypeId}{us res:List T}{tr u u' tr':T}(i ds r:Nat)(q:List Nat)(gp:zBl P f)(hc:FnC P f us res [(i,u')])(hs:E ds=dJ (.same r q))(hr:E r=dJ tr)(hq:tr.get q.reverse=dJ u)
  (eP:zW u)(eH:zW u')(_:vW u=dL)(bz:vW u'=dL)(gj:wZ (vK E ds r q tr u) [(i,ds,u')] 0 xs us)(gx:zDc res)(gv:tr.set q.reverse u'=tr')
  (sd:(J4 d Γ.N&&(d != ds)&&(d != r)&&(ds != r)&&zBy u&&zBy u'&&zBy tr)=dL)(hx:xs[i]? =dJ (.tmp ds))(hu:us[i]? =dJ u):
  Ok P Γ ⟨dJ d,.call { callee:=.value (.func f),args:=xs.toArray,argTypes:=ats },ty,ps,af,gd⟩ E ((((vK E ds r q tr u).app (cWr d res [(i,ds,u')]) (vP d [(i,ds,u')]))).app [(r,dJ tr'),(ds,dJ (.same r q))] [(r,q.length+1),(ds,1)]):=by
 simp only[J2]at sd;obtain⟨⟨⟨⟨⟨⟨s1,s2⟩,s3⟩,s4⟩,s5⟩,s6⟩,s7⟩:=sd;have d1:d≠ds:=by simpa using s2
 have d2:d≠r:=by simpa using s3
 have d3:ds≠r:=by simpa using s4
 obtain⟨u1,u2,u3⟩:=uY s5 [];obtain⟨v1,v2,v3⟩:=uY s6 [];have mg:cLv u'=1:=by simp[cLv,v3]
 subst gv;intro S
 by_cases mR:q=[]
 ·subst mR
  have htu:tr=u:=by
   have:tr.get []=dJ tr:=by cases tr<;>rfl
   simp only[Gb]at hq;rw[this]at hq;exact Ll.inj hq
  subst htu;have pG:∀a b:T,a.set [] b=b:=fun a b=>by cases a<;>rfl
  have mD:(vK E ds r [] tr tr) ds=dJ tr:=by simp[vK,Env.app,Wr.find]
  have cW:((vK E ds r [] tr tr).app (cWr d res [(i,ds,u')]) (vP d [(i,ds,u')])) r=dJ (.same ds []):=by
   have h1:(vK E ds r [] tr tr) r=dJ (.same ds []):=by simp[vK,Env.app,Wr.find,d3]
   have h2:(cWr d res [(i,ds,u')]).find r=dK:=by simp[cWr,Wr.find,d2,d3]
   have h3:(T.same ds []).okB (vP d [(i,ds,u')])=dL:=by simp[T.okB,zEa,vP,d1,mg]
   simp only[Env.app,h2,h1,h3,if_true]
  have cX:((vK E ds r [] tr tr).app (cWr d res [(i,ds,u')]) (vP d [(i,ds,u')])) ds=dJ u':=by simp[Env.app,Wr.find,cWr,d1]
  have:=zLI (P:=P) (Γ:=Γ.at S) (E:=E) (o:=⟨dJ d,.call { callee:=.value (.func f),args:=xs.toArray,argTypes:=ats },ty,ps,af,gd⟩) f (.func f) xs ats us res i ds r [] tr tr u' rfl rfl (yB s1) gp rfl hs hr hq u3 eP d3 d2 (uY s7 _).1 (uY s7 []).2.1
   (vK E ds r [] tr tr) _ rfl rfl hc gj (.one d1 hx eH v3 bz mD u3 hu) gx (.same ds []) (.same ds []) cW rfl rfl cX eH v3 (by simp[T.okB,zEa]) rfl (uY s6 _).1 v2
  rw[Gb,pG]at this ⊢
  exact this
 ·have aP:q.reverse≠[]:=by simpa using mR
  have mD:(vK E ds r q tr u) ds=dJ u:=by simp[vK,Env.app,Wr.find]
  have dD:=zS7 s7 q.reverse (u:=.any) aP;have cW:((vK E ds r q tr u).app (cWr d res [(i,ds,u')]) (vP d [(i,ds,u')])) r=dJ (tr.set q.reverse .any):=by
   have h1:(vK E ds r q tr u) r=dJ (tr.set q.reverse .any):=by simp[vK,Env.app,Wr.find,d3,mR]
   have h2:(cWr d res [(i,ds,u')]).find r=dK:=by simp[cWr,Wr.find,d2,d3]
   simp[Env.app,h2,h1,(uY dD _).1]
  have cX:((vK E ds r q tr u).app (cWr d res [(i,ds,u')]) (vP d [(i,ds,u')])) ds=dJ u':=by simp[Env.app,Wr.find,cWr,d1]
  have:=zLI (P:=P) (Γ:=Γ.at S) (E:=E) (o:=⟨dJ d,.call { callee:=.value (.func f),args:=xs.toArray,argTypes:=ats },ty,ps,af,gd⟩) f (.func f) xs ats us res i ds r q tr u u' rfl rfl (yB s1) gp rfl hs hr hq u3 eP d3 d2 (uY s7 _).1 (uY s7 []).2.1
   (vK E ds r q tr u) _ rfl rfl hc gj (.one d1 hx eH v3 bz mD u3 hu) gx (tr.set q.reverse .any) .any cW (zKx _ _ _ _ hq) rfl cX eH v3 (uY dD _).1 (uY dD []).2.1 (uY s6 _).1 v2
  rw[set_set _ _ _ _ _ hq]at this;exact this
theorem zWn{f:FuncId}{xs:List Operand}{ats:Array TypeId}{us res:List T}{xf:Operand}(hf:opT E xf=dJ (.lit (.func (.func f) #[] #[])))(gp:zBl P f)(hc:FnC P f us res [])(gj:wZ E [] 0 xs us)(gx:zDc res)(sd:J4 d Γ.N=dL):
  Ok P Γ ⟨dJ d,.call { callee:=.value xf,args:=xs.toArray,argTypes:=ats },ty,ps,af,gd⟩ E (E.app (cWr d res []) (vP d [])):=
 fun _=>zPb f xf xs ats us res [] rfl rfl (yB sd) gp hf hc gj .nil gx
def zEy(E:Env):List Operand→List T→Prop
 | [],[]=>True
 |x::xs,u::us=>(opT E x=dJ u∧u.flat=dL)∧zEy E xs us
 |_,_=>False
theorem afN:zEy E [] []:=trivial
theorem afC{x:Operand}{xs:List Operand}{u:T}{us:List T}(h:opT E x=dJ u)(h1:u.flat=dL)(h2:zEy E xs us):zEy E (x::xs) (u::us):=⟨⟨h,h1⟩,h2⟩
theorem zEy.get:(xs:List Operand)→(us:List T)→zEy E xs us→ ∀(i:Nat) u,us[i]? =dJ u→ ∃x,xs[i]? =dJ x∧opT E x=dJ u∧u.flat=dL
 | [],[],_,i,u,h=>by simp at h
 |x::xs,v::us,h,i,u,hi=>by
  cases i with
  |zero=>simp at hi;subst hi;exact⟨x,by simp,h.1⟩
  |succ i=>obtain⟨y,h1,h2⟩:=zEy.get xs us h.2 i u (by simpa using hi);exact⟨y,by simpa using h1,h2⟩
 | [],_::_,h,_,_,_=>by simp[zEy]at h
 |_::_,[],h,_,_,_=>by simp[zEy]at h
theorem zPj{f:FuncId}{xs:List Operand}{ats:Array TypeId}{us res:List T}(gp:zBl P f)(hc:FnC P f us res [])(ha:zEy E xs us)(gf:xs.length=us.length)(gx:yT res)(eU:yJ res=dL)(sd:J4 d Γ.N=dL):
  Ok P Γ ⟨dJ d,.call { callee:=.value (.func f),args:=xs.toArray,argTypes:=ats },ty,ps,af,gd⟩ E (E.app (cWr d res []) (vP d [])):=
 zWj gp hc gf (zEy.get _ _ ha) ⟨gx,eU⟩ sd
end
noncomputable def zCH {α:Type} (g:Nat→Option α):Option α:=
 open Classical in if h:∃r,∃n,∀m,n≤m→g m=dJ r then dJ h.choose else dK
theorem jS{α:Type}{g:Nat→Option α}{r:α}(h:zCH g=dJ r):∃n,g n=dJ r:=by
 unfold zCH at h;split at h
 ·rename_i he
  simp at h;obtain⟨n,hn⟩:=he.choose_spec;exact⟨n,by rw[←h];exact hn n (Jk _)⟩
 ·cases h
theorem zBm{α:Type}{g:Nat→Option α}{r:α}(n:Nat)(h:∀m,n≤m→g m=dJ r):zCH g=dJ r:=by have he:∃r,∃n,∀m,n≤m→g m=dJ r:=⟨r,n,h⟩;unfold zCH;rw[dif_pos he];obtain⟨n',hn'⟩:=he.choose_spec;have h1:=h (max n n') (by omega);have h2:=hn' (max n n') (by omega);rw[h1]at h2;exact h2.symm
end Go.Ab

namespace Go.Ab
open Go
section
variable {P:Program}{Γ:Ctx}{ops:Array Oper}{o:Oper}{E:Env}
theorem xN.skipW{d:Nat}(hd:o.dst=dJ d)(sd:J4 d Γ.N=dL)(hw:∀(a:Act)(w:World),kX Γ E a w→Region.wanted o (yielded ops a.tmps)=dM):xN P Γ ops o E (E.app [(d,dJ (.tup []))] [(d,0)]):=by
 intro a w K Q hs hK;rw[if_neg (by grind)];obtain⟨S,hS,e6,G,g9⟩:=hs;refine hK _ _ ⟨S,hS,by rw[hd];exact e6,G.put d (fun _=>.bool dM),?_⟩ ?_
 ·rw[hd]
  have hu:(Value.bool dM).oneCell'=dL:=rfl;refine vV g9 (by simp[Act.put]) (G.put_keep rfl d _) (g9.mem.put rfl d _ fun _=>hu) ?_ ?_
  ·grind[tV,Act.put]
  ·intro s t' hs
   rw[tV]at hs;split at hs
   ·rename_i e;subst e
    simp at hs;subst hs;have gB:=g9.size;have gF:=yB sd;refine⟨?_,by simp[R,RF],by simp[Top,uF]⟩
    grind[Act.put,mkV,zA1,undef]
   ·cases hs
 grind[Act.put]
theorem xN.skip2{d:Nat}(g:Nat)(b b':Bool)(s:Nat)(hd:o.dst=dJ d)(sd:J4 d Γ.N=dL)(eC:(b==b')=dM)(hg:o.guard=dJ (g,b))(gM:(ops[g]?).bind (·.dst)=dJ s)(hb:E s=dJ (.lit (.bool b'))):
  xN P Γ ops o E (E.app [(d,dJ (.tup []))] [(d,0)]):=.skipW hd sd fun a w hs=>by
 simp only[Region.wanted,hg,zHz hs gM hb]
 grind
theorem xN.skip3{d:Nat}(g:Nat)(b:Bool)(s:Nat)(hd:o.dst=dJ d)(sd:J4 d Γ.N=dL)(hg:o.guard=dJ (g,b))(gM:(ops[g]?).bind (·.dst)=dJ s)(hb:E s=dJ (.tup [])):
  xN P Γ ops o E (E.app [(d,dJ (.tup []))] [(d,0)]):=.skipW hd sd fun a w hs=>by
 obtain⟨_,_,_,G,hr⟩:=hs;obtain⟨h1,_,_⟩:=hr.ent s _ hb
 grind[Region.wanted,yielded,mkV]
theorem xN.opE{E1 E':Env}(h:Ok P Γ o E E1)(e:E1=E')(hg:o.guard=dK:=by rfl):xN P Γ ops o E E':=e▸xN.op h hg
theorem xN.guardE{E1 E':Env}(g:Nat)(b:Bool)(s:Nat)(h:Ok P Γ o E E1)(hg:o.guard=dJ (g,b))(gM:(ops[g]?).bind (·.dst)=dJ s)(hb:E s=dJ (.lit (.bool b)))(e:E1=E'):xN P Γ ops o E E':=e▸xN.guard g b s h hg gM hb
end
def wK(Γ:Ctx)(P:Program)(rs:Array ResultVar)(us res:List T)(rws:List (Nat×T)):Exit→Env→Prop:=fun e E=> ∃E',zX Γ E E'∧yBm P rs us res rws e E'
theorem FnC.of_bodyG{P:Program}{f:FuncId}{fn:Func}{c:Code}{us res:List T}{rws:List (Nat×T)}(hf:P.funcs[f]? =dJ fn)(hb:fn.body=dJ c)(hn:us.length≤fn.ntmps)(ht:uF us)(hr:rws.all (fun x=>decide (x.1<us.length))=dL)
  (h:∀(Γ:Ctx)(v:Nat→Value),Γ.N=fn.ntmps→CW P Γ (zCZ v (rws.map (·.1))) c (vU (zIH 0 us)) (wK Γ P fn.results us res rws)):FnC P f us res rws:=by
 refine FnC.of_body hf hb hn ht hr fun Γ v hN=>?_
 intro a w Q' hs hp hQ;refine h Γ v hN a w Q' hs hp ?_
 rintro e E a' w' ⟨E',hg,hq⟩ gQ fX
 exact hQ e E' a' w' hq (hg a' w' gQ) fX
def zWo(t:T):Prop:=zW t∧vW t=dL∧strip t=t∧t.okTup=dL∧zFD t=dL
def zS8:List T→Prop
 | []=>True
 |x::xs=>zWo x∧zS8 xs
theorem Enc.t{α:Type}{f:α→T}(h:Enc f)(x:α):zWo (f x):=⟨h.clean x,h.rofree x,h.strip x,h.okTup x,h.rook x⟩
theorem Enc.of{α:Type}{f:α→T}(h:∀x,zWo (f x)):Enc f:=⟨fun x=>(h x).1,fun x=>(h x).2.1,fun x=>(h x).2.2.1,fun x=>(h x).2.2.2.1,fun x=>(h x).2.2.2.2⟩
theorem zS9{xs:List T}(h:zS8 xs):zWo (.agg xs):=by
 have key:∀xs:List T,zS8 xs→yT xs∧uD xs=dL∧wG xs=xs∧yJ xs=dL∧zBU xs=dL:=by
  intro xs
  induction xs with
  |nil=>intro _;exact⟨trivial,rfl,rfl,rfl,rfl⟩
  |cons x xs ih=>
   rintro⟨⟨h1,h2,h3,h4,h5⟩,h⟩
   obtain⟨g1,g2,g3,g4,g5⟩:=ih h;exact⟨⟨h1,g1⟩,by grind[uD],by grind[wG],by grind[yJ],by grind[zBU]⟩
 obtain⟨g1,g2,g3,g4,g5⟩:=key xs h;exact⟨zKw g1,by grind[vW],by grind[strip],by grind[T.okTup],by grind[zFD]⟩
end Go.Ab

namespace Go.Ab
open Go
section
variable {Γ:Ctx}{E:Env}{d:Nat}
def Gh.cut(G:Gh)(d s0 b lo hi:Nat)(v:Value):Gh where
 hd s z:=if s=d then(if z=[]then v else G.hd s0 z)else G.hd s z
 ad s z:=if s=d then G.ad s0 z else G.ad s z
 lb b' o:=if b'=b∧lo≤o∧o<hi then dJ (dL,d,[])else match G.lb b' o with
  |some (f,s,z)=>if s=s0 then dJ (f,d,z)else dJ (f,s,z)
  |none=>dK
 ow b':=match G.ow b' with
  |some (s,z)=>if s=s0 then dJ (d,z)else dJ (s,z)
  |none=>dK
theorem zPk{G:Gh}{tmps:Array Value}{w:World}(g9:Rep Γ E G tmps w)(hd:d<Γ.N){s0 k h cap':Nat}{xs:List T}(ey:E s0=dJ (.sl k xs))(gg:s0≠d)(hk:0<k)
  {b o0 cap:Nat}{cs:Array Value}{e:TypeId}(h1:G.hd s0 []=.slice (dJ ⟨b,o0,dK⟩) xs.length cap)(h2:w.heap[b]? =dJ (.cells cs e (0,0)))(_h3:xs.length≤cap)(h4:cap≤maxLen)(h5:o0+cap*k≤cs.size)(h6:G.ow b=dJ (s0,[]))
  (h7:∀o,o0+xs.length*k≤o→o<o0+cap*k→G.lb b o=dJ (dL,s0,[]))(h8:RL Γ.St G w s0 xs [] 0 b o0 k)(hh:h≤xs.length)(hc:h≤cap')(fb:cap'≤cap):
  ∃G',Rep Γ (E.app [(d,dJ (.sl k (xs.take h))),(s0,dJ .any)] [(d,0),(s0,1)]) G' (tmps.setIfInBounds d (.slice (dJ ⟨b,o0,dK⟩) h cap')) w:=by
 have hm:=g9.mem;obtain⟨e1,_,e3⟩:=g9.ent s0 _ ey
 let v:Value:=.slice (dJ ⟨b,o0,dK⟩) h cap'
 let G':=G.cut d s0 b (o0+h*k) (o0+cap'*k) v
 have gK:=hm.ow b _ h6;have pQ:∀o f z i,o0+h*k≤o→o<o0+cap'*k→G.lb b o=dJ (f,s0,z++[i])→h≤i:=by
  intro o f z i cE cD hl;obtain⟨o,rfl⟩:∃o',o=o0+o':=⟨o-o0,by have:o0≤o0+h*k:=Nat.le_add_right _ _;omega⟩
  replace cE:h*k≤o:=by omega
  by_cases ho:o<xs.length*k
  ·have hj:o/k<xs.length:=(U9 hk).2 ho
   obtain⟨g1,g2,_⟩:=kV xs [] 0 b o0 k (o/k) xs[o/k] h8 (by simp[hj]);obtain⟨y,hy⟩:=zKi xs[o/k] _ b _ (o%k) g1 (by rw[g2];exact Gz _ hk);rw[Jd,H3,Nat.mul_comm,Gf,hl]at hy;simp only[Ll.injEq,Ja1.injEq]at hy;have:=hy.2.2;have hi:i=o/k:=by have:=congrArg List.getLast? this;simpa using this
   rw[hi];exact(Nat.le_div_iff_mul_le hk).2 cE
  ·have:=h7 (o0+o) (by omega) (by have:=Jw k fb;omega)
   rw[hl]at this;simp at this
 have glb:∀b' o f z,G.lb b' o=dJ (f,s0,z)→ ¬(b'=b∧o0+h*k≤o∧o<o0+cap'*k)→G'.lb b' o=dJ (f,d,z):=fun b' o f z hl hn=>by show(if _ then _ else _)=_;rw[if_neg hn];simp[hl]
 have gow:∀b' z,G.ow b'=dJ (s0,z)→G'.ow b'=dJ (d,z):=fun b' z hl=>by simp[G',Gh.cut,hl]
 have mv:∀i,i<h→zIZ G w G' w s0 [i] d [i]:=fun i hi=>by
  have hn:∀b' o f z,G.lb b' o=dJ (f,s0,z++[i])→ ¬(b'=b∧o0+h*k≤o∧o<o0+cap'*k):=by
   rintro b' o f z hl ⟨rfl,cE,cD⟩
   have:=pQ o f z i cE cD hl;omega
  refine⟨⟨fun z=>by simp[G',Gh.cut],fun z _=>by simp[G',Gh.cut],fun b' o f z _ _ hl=>⟨glb _ _ _ _ hl (hn _ _ _ _ hl),rfl⟩,fun b' z _ hl=>gow _ _ hl,fun b' cs' e' hb=>⟨cs',hb,rfl⟩⟩,fun b' o _ hl=>⟨glb _ _ _ _ hl (hn b' o dL [] (by simpa using hl)),rfl⟩,fun b' hl=>gow _ _ hl⟩
 have gu:kR [(d,0),(s0,1)] G w G' w:=by
  refine⟨fun s p ho=>?_,fun s p ho=>?_,fun b' o f s p gY hl hs=>?_,fun b' s p hl hs=>?_,fun b' cs' e' hb=>⟨cs',hb,rfl⟩⟩
  ·have:s≠d:=fun e=>absurd (ho 0 (by simp[e])) (by simp)
   simp[G',Gh.cut,this]
  ·have:s≠d:=fun e=>absurd (ho 0 (by simp[e])) (by simp)
   simp[G',Gh.cut,this]
  ·have eO:s≠s0:=fun e=>hs 1 (by simp[e])
   obtain⟨y,hy⟩:=gY;have eC:b'≠b:=by
    rintro rfl
    rw[h6]at hy;simp at hy;exact eO hy.1.symm
   refine⟨?_,rfl⟩;show(if _ then _ else _)=_;rw[if_neg (fun hn=>eC hn.1)];simp[hl,eO]
  ·have eO:s≠s0:=fun e=>hs 1 (by simp[e])
   simp[G',Gh.cut,hl,eO]
 have gn:Mem Γ G' w:=by
  refine⟨fun s z=>?_,fun b' o l hl=>?_,fun b' l hl=>?_,hm.st,hm.fr,hm.sz,hm.bk⟩
  ·show(if _ then _ else _:Value).oneCell'=dL
   split
   ·split
    ·rfl
    ·exact hm.one _ _
   ·exact hm.one _ _
  ·change(if _ then _ else _)=_ at hl
   split at hl
   ·rename_i hn;rw[hn.1];exact gK
   ·cases hg:G.lb b' o with
    |none=>simp[hg]at hl
    |some x=>exact hm.lb b' o x hg
  ·cases hg:G.ow b' with
   |none=>simp[G',Gh.cut,hg]at hl
   |some x=>exact hm.ow b' x hg
 refine⟨G',vV g9 (by simp) gu gn ?_ ?_⟩
 ·intro s hs
  have cI:s≠d:=by rintro rfl;simp[Wr.find]at hs
  have fY:s≠s0:=by rintro rfl;simp[Wr.find,gg.symm]at hs
  exact⟨fun n hn=>by simp at hn;rcases hn with h|h;exact cI h.1;exact fY h.1,by rw[Jj];simp[cI.symm]⟩
 ·intro s t' hs
  by_cases eO:s=d
  ·subst eO
   simp[Wr.find]at hs;subst hs;have gf:(xs.take h).length=h:=by simp;omega
   simp only[Top]at e3;have hkc:∀ys:List T,yT ys→ ∀n,yT (ys.take n):=by
    intro ys
    induction ys with
    |nil=>intro _ n;simp[yT,xH]
    |cons y ys ih=>intro hy n;cases n with
     |zero=>simp[yT,xH]
     |succ n=>exact⟨hy.1,ih hy.2 n⟩
   refine⟨?_,?_,by simp only[Top];exact hkc xs e3 h⟩
   ·rw[Jj]
    simp[g9.size,hd,mkV,G',Gh.cut,v]
   ·simp only[R]
    refine .inr ⟨b,o0,cap',cs,e,by rw[gf];simp[G',Gh.cut,v],h2,by omega,by omega,by have:=Jw k fb;omega,gow b _ h6,fun o cE cD=>?_,?_⟩
    ·rw[gf]at cE
     show(if _ then _ else _)=_;rw[if_pos ⟨rfl,cE,cD⟩]
    ·refine zKk _ [] 0 b o0 fun i x hx=>?_
     rw[Ha]at hx;split at hx
     ·rename_i hi
      obtain⟨g1,g2,g3⟩:=kV xs [] 0 b o0 k i x h8 hx;rw[Jd]at g1 g3 ⊢
      refine⟨?_,g2,zAS (mv i hi) x (yR.mono (fun _ _=>False.elim) _ (uJ xs e3 i x hx)) g3⟩;refine zHq x [i] [i] b _ (fun z=>by simp[G',Gh.cut]) (fun z=>by simp[G',Gh.cut]) (fun b' o z hl=>⟨glb _ _ _ _ hl ?_,rfl⟩) g1
      rintro⟨rfl,cE,cD⟩
      have:=pQ o dM z i cE cD hl;omega
     ·cases hx
  ·have h9:s=s0∧t'=.any:=by
    simp only[Wr.find]at hs;rw[if_neg (fun h=>eO h.symm)]at hs;split at hs
    ·rename_i h;simp at hs;exact⟨h.symm,hs.symm⟩
    ·cases hs
   obtain⟨rfl,rfl⟩:=h9;refine⟨?_,by simp only[R],by simp[Top]⟩;rw[Jj];simp only[Ne.symm eO,if_false,mkV];rw[e1,xI rfl];simp[G',Gh.cut,eO]
theorem zSA{G:Gh}{tmps:Array Value}{w:World}(g9:Rep Γ E G tmps w)(hd:d<Γ.N){s0 k:Nat}(ey:E s0=dJ (.sl k []))(gg:s0≠d)(a:Option Addr):
  ∃G',Rep Γ (E.app [(d,dJ (.sl k [])),(s0,dJ .any)] [(d,0),(s0,1)]) G' (tmps.setIfInBounds d (.slice a 0 0)) w:=by
 obtain⟨e1,_,_⟩:=g9.ent s0 _ ey;refine⟨G.put d (fun _=>.slice a 0 0),?_⟩;have hk:kR [(d,0),(s0,1)] G w (G.put d fun _=>.slice a 0 0) w:=by have h0:=G.put_keep (w:=w) (w':=w) rfl d (fun _=>.slice a 0 0);refine⟨fun s p ho=>h0.hd s p (fun n hn=>ho n (by simp at hn ⊢;exact .inl hn)),fun s p ho=>h0.ad s p (fun n hn=>ho n (by simp at hn ⊢;exact .inl hn)),fun b o f s p h1 h2 h3=>h0.lb b o f s p h1 h2 (fun n hn=>h3 n (by simp at hn ⊢;exact .inl hn)),fun b s p h1 h3=>h0.ow b s p h1 (fun n hn=>h3 n (by simp at hn ⊢;exact .inl hn)),h0.blk⟩
 refine vV g9 (by simp) hk (g9.mem.put rfl d _ (fun _=>rfl)) ?_ ?_
 ·intro s hs
  have cI:s≠d:=by rintro rfl;simp[Wr.find]at hs
  have fY:s≠s0:=by rintro rfl;simp[Wr.find,gg.symm]at hs
  exact⟨fun n hn=>by simp at hn;rcases hn with h|h;exact cI h.1;exact fY h.1,by rw[Jj];simp[cI.symm]⟩
 ·intro s t' hs
  by_cases eO:s=d
  ·subst eO
   simp[Wr.find]at hs;subst hs;refine⟨by rw[Jj];simp[g9.size,hd,mkV,Gh.put],by simp only[R];exact .inl ⟨trivial,a,by simp[Gh.put]⟩,by simp[Top,yT,xH]⟩
  ·have h9:s=s0∧t'=.any:=by
    simp only[Wr.find]at hs;rw[if_neg (fun h=>eO h.symm)]at hs;split at hs
    ·rename_i h;simp at hs;exact⟨h.symm,hs.symm⟩
    ·cases hs
   obtain⟨rfl,rfl⟩:=h9;refine⟨?_,by simp only[R],by simp[Top]⟩;rw[Jj];simp only[Ne.symm eO,if_false,mkV];rw[e1,xI rfl];simp[Gh.put,eO]
end
section
variable {P:Program}{Γ:Ctx}{pn:kG}{E E':Env}{Q:Exit→Env→Prop}{d:Nat}{x y:Operand}{ty:TypeId}{ps:String}{af:Array Edge}{gd:Option (Nat×Bool)}
theorem yB6{α:Type}{t e:TypeId}{ti:TypeInfo}{s0 k:Nat}{f:α→T}{xs ys:List α}{mx:Option Operand}{h:Int}{u:T}(ht:ElT P t e ti k u)(hv:zQ xs 0 h=dJ ys)(h0:E s0=dJ (L k f xs))(hy:opT E y=dJ (I h))(hmx:mx=dK∨ ∃z,mx=dJ z∧opT E z=dJ (I h))(sd:(J4 d Γ.N&&(s0 != d))=dL):
  Ok P Γ ⟨dJ d,.slice t (.tmp s0) dK (dJ y) mx,ty,ps,af,gd⟩ E (E.app [(d,dJ (L k f ys)),(s0,dJ .any)] [(d,0),(s0,1)]):=by
 obtain⟨_,b7,c0,rfl⟩:=sS hv;simp only[J2]at sd;have gg:s0≠d:=by simpa using sd.2
 obtain⟨n,rfl⟩:∃n:Nat,h=n:=⟨h.toNat,by omega⟩;have hn:n≤xs.length:=by omega
 intro S;refine xT.value rfl fun a w G g9=>?_
 obtain⟨e1,e2,_⟩:=g9.ent s0 _ h0;have eY:=(yW g9 hy).1;have ms:a.eval (.tmp s0)=G.hd s0 []:=by rw[xP e1,xI rfl]
 have pd:=ht.un;have gJ:=ht.info;have gB:=ht.size;have mf:List.map f ((xs.drop (0:Int).toNat).take ((n:Int).toNat-(0:Int).toNat))=(xs.map f).take n:=by simp[U5]
 rw[show L k f ((xs.drop (0:Int).toNat).take ((n:Int).toNat-(0:Int).toNat))=.sl k ((xs.map f).take n)by simp only[L,mf]];have e2':=e2;simp only[R]at e2;rcases e2 with⟨d7,ad,h1⟩|⟨b,o0,cap,cs,e',h1,h2,h3,h4,h5,h6,h7,h8⟩
 ·have eZ:xs=[]:=by simpa using d7
  subst eZ;simp at hn;subst hn;obtain⟨G',gk⟩:=zSA g9 (yB sd.1) (k:=k) (by rw[h0];rfl) gg ad;refine⟨_,w,?_,G',by simpa using gk⟩;rcases hmx with rfl|⟨z,rfl,hz⟩
  ·simp[execOp,Instr.sliceAt,Instr.slice,run_underlying pd,ms,h1,eY,sizeOf,typeInfo,gJ,Instr.sliceBounds,Instr.sliceBound,asIntOf]
  ·have pV:=(yW g9 hz).1
   simp[execOp,Instr.sliceAt,Instr.slice,run_underlying pd,ms,h1,eY,pV,sizeOf,typeInfo,gJ,Instr.sliceBounds,Instr.sliceBound,asIntOf]
 ·rw[Js]at h1 h3
  have ck:n≤cap:=by omega
  have fS:cap=0→n=0:=by omega
  rcases hmx with rfl|⟨z,rfl,hz⟩
  ·obtain⟨G',gk⟩:=zPk g9 (yB sd.1) h0 gg ht.pos (by rw[Js];exact h1) h2 (by rw[Js];exact h3) h4 h5 h6 h7 h8 (h:=n) (cap':=cap) (by simpa using hn) ck (Jk _)
   refine⟨_,w,?_,G',gk⟩;simp[execOp,Instr.sliceAt,Instr.slice,run_underlying pd,ms,h1,eY,sizeOf,typeInfo,gJ,Instr.sliceBounds,Instr.sliceBound,asIntOf,ck,uB]
  ·have pV:=(yW g9 hz).1
   obtain⟨G',gk⟩:=zPk g9 (yB sd.1) h0 gg ht.pos (by rw[Js];exact h1) h2 (by rw[Js];exact h3) h4 h5 h6 h7 h8 (h:=n) (cap':=n) (by simpa using hn) (Jk _) ck;refine⟨_,w,?_,G',gk⟩;simp[execOp,Instr.sliceAt,Instr.slice,run_underlying pd,ms,h1,eY,pV,sizeOf,typeInfo,gJ,Instr.sliceBounds,Instr.sliceBound,asIntOf,ck,uB]
end
end Go.Ab

namespace Go.Ab
open Go
section
variable {P:Program}{Γ:Ctx}{pn:kG}{E E':Env}{Q:Exit→Env→Prop}{d:Nat}{x y:Operand}{ty:TypeId}{ps:String}{af:Array Edge}{gd:Option (Nat×Bool)}{ops:Array Oper}{os:List Oper}
theorem zQ7{P:Program}{w:World}{t e:TypeId}{a:Option Addr}{n c:Nat}(m:Nat)(h:P.underlying t=dJ (.slice e)):(Op.equalIn (m+1) t (.slice a n c) (.slice dK 0 0)).run P w=.ok a.isNone w:=by simp only[Op.equalIn,Sem.run_bind,run_underlying h];cases a<;>rfl
theorem RW.isnil{α:Type}{xt yt e:TypeId}{r k:Nat}{q:List Nat}{f:α→T}{xs:List α}{u:T}(hu:P.underlying xt=dJ (.slice e))(hx:tW E x=dJ (r,q,u))(fC:u=.ro (L k f xs)∨u=L k f xs)(sd:J4 d Γ.N=dL)(hp:pn.ok (dJ d)=dL)
  (h:∀b,(b=dL→xs=[])→RW P Γ pn ops os (E.app [(d,dJ (B b))] [(d,0)]) Q):RW P Γ pn ops (⟨dJ d,.binOp .eql xt x (.const (.slice dK 0 0)) yt,ty,ps,af,dK⟩::os) E Q:=by
 intro a w Q' hs fk hQ;obtain⟨S,hS,e6,G,g9⟩:=id hs;have fw:u.single=dL:=by rcases fC with rfl|rfl<;>rfl
 obtain⟨h1,h2⟩:=jQ g9 hx fw;obtain⟨ad,n,c,h3,h4⟩:∃ad n c,a.eval x=.slice ad n c∧(ad.isNone=dL→xs=[]):=by
  rcases fC with rfl|rfl
  ·obtain⟨ad,c,g1,_,_,g2⟩:=zD7 h1
   refine⟨ad,_,c,by rw[h2,g1],fun hn=>?_⟩;apply Classical.byContradiction;intro gg;obtain⟨b,o',_,_,_,rfl,_⟩:=g2 (by simpa using gg);simp at hn
  ·simp only[R]at h1
   rcases h1 with⟨g1,ad,g2⟩|⟨b,_,cap,cs,e',g1,_⟩
   ·exact⟨ad,0,0,by rw[h2,g2],fun _=>by simpa using g1⟩
   ·exact⟨_,_,_,by rw[h2,g1],fun hn=>by simp at hn⟩
 have gw:(execOp a.eval ⟨dJ d,.binOp .eql xt x (.const (.slice dK 0 0)) yt,ty,ps,af,dK⟩).run P w=.ok (.value (.bool ad.isNone)) w:=by have h5:(Op.equalIn 10000 xt (.slice ad n c) (.slice dK 0 0)).run P w=.ok ad.isNone w:=zQ7 9999 hu;have h6:a.eval (.const (.slice dK 0 0))=.slice dK 0 0:=rfl;simp[execOp,h3,h6,eqGuard,binOp,zEV,h5]
 simp only[wpL,Region.wanted,if_true];refine .inl ?_;unfold Oper.wp;rw[gw,Oper.upon_value];have fg:=vE g9 rfl (yB sd) (fun _=>.bool ad.isNone) (fun _=>rfl) (B ad.isNone) (.bool ad.isNone) (by simp[mkV,Gh.put]) (by simp[R,Gh.put]) (by simp[Top]);refine h ad.isNone h4 _ w Q' ⟨S,hS,e6,_,fg⟩ ?_ hQ;refine fk.frame hp fun s gQ=>?_
 have:d≠s:=fun e=>gQ (by rw[e])
 simp[Act.put,Array.getElem?_setIfInBounds_ne this]
theorem zLQ{t e:TypeId}(hu:P.underlying t=dJ (.slice e))(hx:opT E x=dJ (.lit (.slice dK 0 0)))(sd:J4 d Γ.N=dL):Ok P Γ ⟨dJ d,.call { callee:=.builtin .len,args:=#[x],argTypes:=#[t] },ty,ps,af,gd⟩ E (E.app [(d,dJ (I 0))] [(d,0)]):=by
 intro S;refine tQ (.int .i64 0) rfl rfl (yB sd) fun a w G g9=>?_
 have h1:=(yW g9 hx).1;simp[execOp,resolve,invoke,builtin,h1,Builtin.len_,run_underlying hu,goInt]
theorem zLR{t e:TypeId}(hu:P.underlying t=dJ (.slice e))(hx:opT E x=dJ (.lit (.slice dK 0 0)))(sd:J4 d Γ.N=dL):Ok P Γ ⟨dJ d,.call { callee:=.builtin .cap,args:=#[x],argTypes:=#[t] },ty,ps,af,gd⟩ E (E.app [(d,dJ (I 0))] [(d,0)]):=by
 intro S;refine tQ (.int .i64 0) rfl rfl (yB sd) fun a w G g9=>?_
 have h1:=(yW g9 hx).1;simp[execOp,resolve,invoke,builtin,h1,Builtin.cap_,run_underlying hu,goInt]
theorem zWp{t e:TypeId}{ti:TypeInfo}{u:T}{k:Nat}(ht:ElT P t e ti k u)(hx:opT E x=dJ (.lit (.slice dK 0 0)))(hy:opT E y=dJ (I 0))(sd:J4 d Γ.N=dL):Ok P Γ ⟨dJ d,.slice t x dK (dJ y) dK,ty,ps,af,gd⟩ E (E.app [(d,dJ (.sl k []))] [(d,0)]):=by
 intro S;refine xT.value rfl fun a w G g9=>?_
 have h1:=(yW g9 hx).1;have h2:=(yW g9 hy).1;refine⟨.slice dK 0 0,w,?_,_,vE g9 rfl (yB sd) (fun _=>.slice dK 0 0) (fun _=>rfl) (.sl k []) (.slice dK 0 0) (by simp[mkV,Gh.put]) (by simp[R,Gh.put]) (by simp[Top,yT,xH])⟩;simp[execOp,Instr.sliceAt,Instr.slice,run_underlying ht.un,h1,h2,sizeOf,typeInfo,ht.info,Instr.sliceBounds,Instr.sliceBound,asIntOf]
theorem zX.nil(s k:Nat)(hs:E s=dJ (.lit (.slice dK 0 0))):zX Γ E (E.app [(s,dJ (.sl k []))] [(s,0)]):=by
 rintro a w ⟨S,hS,e6,G,g9⟩
 refine⟨S,hS,e6,G,?_⟩;have hk:kR [(s,0)] G w G w:=⟨fun _ _ _=>rfl,fun _ _ _=>rfl,fun _ _ _ _ _ _ h _=>⟨h,rfl⟩,fun _ _ _ h _=>h,fun b cs e h=>⟨cs,h,rfl⟩⟩;refine vV g9 rfl hk g9.mem (fun s' gQ=>⟨fun n hn=>?_,rfl⟩) fun s' t gQ=>?_
 ·simp at hn
  simp[Wr.find,hn.1]at gQ
 ·simp only[Wr.find]at gQ
  split at gQ
  ·rename_i e;subst e
   simp at gQ;subst gQ;obtain⟨h1,h2,_⟩:=g9.ent s _ hs;simp only[R]at h2;exact⟨by rw[h1];rfl,by simp only[R];exact .inl ⟨trivial,dK,h2⟩,by simp[Top,yT,xH]⟩
  ·cases gQ
theorem zGN{src dst:TypeId}{ds:TypeDesc}{k k':IntKind}{n:Int}(hs:P.underlying src=dJ ds)(ht:P.underlying dst=dJ (.int k'))(hx:opT E x=dJ (IK k n))(sd:J4 d Γ.N=dL):
  Ok P Γ ⟨dJ d,.convert src dst x,ty,ps,af,gd⟩ E (E.app [(d,dJ (IK k' (k'.wrap n)))] [(d,0)]):=fun _=>zVV src dst ds x k k' n rfl rfl (yB sd) hs ht hx
theorem zZ0{k:IntKind}{m n:Int}{xt yt:TypeId}(hx:opT E x=dJ (IK k m))(hy:opT E y=dJ (IK k n))(sd:J4 d Γ.N=dL):Ok P Γ ⟨dJ d,.binOp .add xt x y yt,ty,ps,af,gd⟩ E (E.app [(d,dJ (IK k (k.wrap (m+n))))] [(d,0)]):=
 fun _=>uA .add xt yt x y k m n _ rfl rfl (yB sd) hx hy rfl
theorem zZ1{k:IntKind}{m n:Int}{xt yt:TypeId}(hx:opT E x=dJ (IK k m))(hy:opT E y=dJ (IK k n))(sd:J4 d Γ.N=dL):Ok P Γ ⟨dJ d,.binOp .mul xt x y yt,ty,ps,af,gd⟩ E (E.app [(d,dJ (IK k (k.wrap (m*n))))] [(d,0)]):=
 fun _=>uA .mul xt yt x y k m n _ rfl rfl (yB sd) hx hy rfl
theorem zZ2{k:IntKind}{m n:Int}{xt yt:TypeId}(hx:opT E x=dJ (IK k m))(hy:opT E y=dJ (IK k n))(sd:J4 d Γ.N=dL):Ok P Γ ⟨dJ d,.binOp .sub xt x y yt,ty,ps,af,gd⟩ E (E.app [(d,dJ (IK k (k.wrap (m-n))))] [(d,0)]):=
 fun _=>uA .sub xt yt x y k m n _ rfl rfl (yB sd) hx hy rfl
theorem zNC{k:IntKind}{m n:Int}{xt yt:TypeId}(hx:opT E x=dJ (IK k m))(hy:opT E y=dJ (IK k n))(sd:J4 d Γ.N=dL):Ok P Γ ⟨dJ d,.binOp .gtr xt x y yt,ty,ps,af,gd⟩ E (E.app [(d,dJ (B (decide (m> n))))] [(d,0)]):=
 fun _=>uA .gtr xt yt x y k m n _ rfl rfl (yB sd) hx hy rfl
theorem zZ3{k:IntKind}{m n:Int}{xt yt:TypeId}(hx:opT E x=dJ (IK k m))(hy:opT E y=dJ (IK k n))(sd:J4 d Γ.N=dL):Ok P Γ ⟨dJ d,.binOp .eql xt x y yt,ty,ps,af,gd⟩ E (E.app [(d,dJ (B (m==n)))] [(d,0)]):=
 fun _=>uA .eql xt yt x y k m n _ rfl rfl (yB sd) hx hy rfl
theorem zZ4{k:IntKind}{m n:Int}{xt yt:TypeId}(hx:opT E x=dJ (IK k m))(hy:opT E y=dJ (IK k n))(sd:J4 d Γ.N=dL):Ok P Γ ⟨dJ d,.binOp .lss xt x y yt,ty,ps,af,gd⟩ E (E.app [(d,dJ (B (decide (m<n))))] [(d,0)]):=
 fun _=>uA .lss xt yt x y k m n _ rfl rfl (yB sd) hx hy rfl
def zGD(k:IntKind)(m n:Int):Int:=k.wrap ((BitVec.ofInt k.bits m &&& BitVec.ofInt k.bits n).toNat:Int)
theorem zZ5{k:IntKind}{m n:Int}{xt yt:TypeId}(hx:opT E x=dJ (IK k m))(hy:opT E y=dJ (IK k n))(sd:J4 d Γ.N=dL):Ok P Γ ⟨dJ d,.binOp .and xt x y yt,ty,ps,af,gd⟩ E (E.app [(d,dJ (IK k (zGD k m n)))] [(d,0)]):=by
 intro S;refine tQ (.int k (zGD k m n)) rfl rfl (yB sd) fun a w G g9=>?_
 have h1:=(yW g9 hx).1;have h2:=(yW g9 hy).1;simp[execOp,h1,h2,eqGuard,binOp,Op.intBits,zGD]
theorem zZ6{k k':IntKind}{m n:Int}{xt yt:TypeId}(hn:0≤n)(hx:opT E x=dJ (IK k m))(hy:opT E y=dJ (IK k' n))(sd:J4 d Γ.N=dL):Ok P Γ ⟨dJ d,.binOp .shr xt x y yt,ty,ps,af,gd⟩ E (E.app [(d,dJ (IK k (m.fdiv (2 ^ (min n.toNat k.bits)))))] [(d,0)]):=by
 intro S;refine tQ (.int k (m.fdiv (2 ^ (min n.toNat k.bits)))) rfl rfl (yB sd) fun a w G g9=>?_
 have h1:=(yW g9 hx).1;have h2:=(yW g9 hy).1;have h3:¬n<0:=by omega
 simp[execOp,h1,h2,eqGuard,binOp,Op.shift,h3]
end
end Go.Ab

namespace Go.Ab
open Go
structure zSB (P:Program) (f:Field) (i:Nat):Prop where
 name:f.name≠ "_"
 off:f.offset=i
 ty:P.underlying f.type=dJ (.int .i64)
class zWq (P:Program) (t:TypeId):Prop where
 h:∃f0 f1 f2 f3:Field,P.underlying t=dJ (.struct #[f0,f1,f2,f3])∧zSB P f0 0∧zSB P f1 1∧zSB P f2 2∧zSB P f3 3
 st:P.stoodInHeld t=dM
 gd:P.eqGuardType P.depth t=dM
theorem zEW{P:Program}{w:World}{f:Field}{i:Nat}(h:zSB P f i)(cs:Array Value)(v:Value)(hv:cs[i]? =dJ v):(part f.type cs f.offset).run P w=.ok v w:=by simp[part,kY h.ty,zF8,h.off,hv]
theorem zSC{P:Program}{w:World}{t:TypeId}(h:zWq P t)(a b c d a' b' c' d':Int)(m:Nat):
  (Op.equalIn (m+2) t (.agg #[.int .i64 a,.int .i64 b,.int .i64 c,.int .i64 d]) (.agg #[.int .i64 a',.int .i64 b',.int .i64 c',.int .i64 d'])).run P w=.ok (a==a'&&(b==b'&&(c==c'&&d==d'))) w:=by
 obtain⟨f0,f1,f2,f3,h1,g0,g1,g2,g3⟩:=h.h;have k0:=fun(x y:Int)=>zGM (P:=P) (w:=w) (a:=x) (b:=y) m g0.ty
 have k1:=fun(x y:Int)=>zGM (P:=P) (w:=w) (a:=x) (b:=y) m g1.ty
 have k2:=fun(x y:Int)=>zGM (P:=P) (w:=w) (a:=x) (b:=y) m g2.ty
 have k3:=fun(x y:Int)=>zGM (P:=P) (w:=w) (a:=x) (b:=y) m g3.ty
 have gG:=h.st;rw[Op.equalIn];simp only[Sem.run_bind,run_underlying h1];have q0:=fun(a b c d:Int)=>zEW (w:=w) g0 #[.int .i64 a,.int .i64 b,.int .i64 c,.int .i64 d] (.int .i64 a) rfl
 have q1:=fun(a b c d:Int)=>zEW (w:=w) g1 #[.int .i64 a,.int .i64 b,.int .i64 c,.int .i64 d] (.int .i64 b) rfl
 have q2:=fun(a b c d:Int)=>zEW (w:=w) g2 #[.int .i64 a,.int .i64 b,.int .i64 c,.int .i64 d] (.int .i64 c) rfl
 have q3:=fun(a b c d:Int)=>zEW (w:=w) g3 #[.int .i64 a,.int .i64 b,.int .i64 c,.int .i64 d] (.int .i64 d) rfl
 by_cases e0:a=a'<;>by_cases e1:b=b'<;>by_cases e2:c=c'<;>by_cases e3:d=d'<;>
  simp[gG,g0.name,g1.name,g2.name,g3.name,q0,q1,q2,q3,k0,k1,k2,k3,e0,e1,e2,e3]
section
variable {P:Program}{Γ:Ctx}{E E':Env}{d:Nat}{x y:Operand}{ty:TypeId}{ps:String}{af:Array Edge}{gd:Option (Nat×Bool)}
theorem zZ7{t t':TypeId}{s s':Nat}{a b c e a' b' c' e':Int}(h:zWq P t)(hx:E s=dJ (.agg [I a,I b,I c,I e]))(hy:E s'=dJ (.agg [I a',I b',I c',I e']))(sd:J4 d Γ.N=dL):
  Ok P Γ ⟨dJ d,.binOp .eql t (.tmp s) (.tmp s') t',ty,ps,af,gd⟩ E (E.app [(d,dJ (B (a==a'&&(b==b'&&(c==c'&&e==e')))))] [(d,0)]):=by
 intro S;refine tQ _ rfl rfl (yB sd) fun A w G g9=>?_
 obtain⟨h1,h2,_⟩:=g9.ent s _ hx;obtain⟨h3,h4,_⟩:=g9.ent s' _ hy;simp only[R,RF]at h2 h4;have e1:A.eval (.tmp s)=.agg #[.int .i64 a,.int .i64 b,.int .i64 c,.int .i64 e]:=by rw[xP h1];simp[mkV,yD,vals,h2]
 have e2:A.eval (.tmp s')=.agg #[.int .i64 a',.int .i64 b',.int .i64 c',.int .i64 e']:=by rw[xP h3];simp[mkV,yD,vals,h4]
 have h5:(Op.equalIn 10000 t (.agg #[.int .i64 a,.int .i64 b,.int .i64 c,.int .i64 e]) (.agg #[.int .i64 a',.int .i64 b',.int .i64 c',.int .i64 e'])).run P w=_:=zSC (w:=w) h a b c e a' b' c' e' 9998;have hg:=h.gd;simp[execOp,e1,e2,eqGuard,binOp,zEV,h5,hg]
end
end Go.Ab

namespace Go.Ab
open Go
abbrev vI(n:Int):Value:=.int .i64 n
section
variable {Γ:Ctx}{E:Env}
theorem zLS{G:Gh}{tmps:Array Value}{w w':World}(g9:Rep Γ E G tmps w){s0:Nat}{xs us:List Int}(ey:E s0=dJ (L 1 I xs))(gf:us.length=xs.length)
  {b o0 cap:Nat}{cs cs':Array Value}{e:TypeId}(h1:G.hd s0 []=.slice (dJ ⟨b,o0,dK⟩) xs.length cap)(h2:w.heap[b]? =dJ (.cells cs e (0,0)))(h3:xs.length≤cap)(h4:cap≤maxLen)(h5:o0+cap*1≤cs.size)(h6:G.ow b=dJ (s0,[]))
  (h7:∀o,o0+xs.length*1≤o→o<o0+cap*1→G.lb b o=dJ (dL,s0,[]))(h8:RL Γ.St G w s0 (xs.map I) [] 0 b o0 1)
  (k1:w'.heap[b]? =dJ (.cells cs' e (0,0)))(k2:cs'.size=cs.size)(k3:∀b',b'≠b→w'.heap[b']? =w.heap[b']?)(k4:w'.heap.size=w.heap.size)(ko:w'.os=w.os)(kq:w'.output=w.output)(k5:∀(i:Nat) u,us[i]? =dJ u→cs'[o0+i]? =dJ (vI u)):
  ∃G',Rep Γ (E.app [(s0,dJ (L 1 I us))] [(s0,1)]) G' tmps w':=by
 have hm:=g9.mem;obtain⟨e1,_,_⟩:=g9.ent s0 _ ey;have gK:=hm.ow b _ h6
 let G':Gh:={ G with hd:=fun s z=>if s=s0 then(match z with
  | [i]=>(match us[i]? with
   |some u=>vI u
   |none=>G.hd s0 z)
  |_=>G.hd s0 z)else G.hd s z }
 have hB:Blk w w':=by
  intro b' cs2 e2 hb
  by_cases eC:b'=b
  ·subst eC
   rw[h2]at hb;simp at hb;obtain⟨rfl,rfl⟩:=hb;exact⟨cs',k1,k2⟩
  ·exact⟨cs2,by rw[k3 b' eC];exact hb,rfl⟩
 have gu:kR [(s0,1)] G w G' w':=by
  refine⟨fun s p ho=>?_,fun _ _ _=>rfl,fun b' o f s p gY hl hs=>⟨hl,?_⟩,fun _ _ _ hl _=>hl,hB⟩
  ·by_cases h:s=s0
   ·subst h
    have:p=[]:=Kb (by have:=ho 1 (by simp);omega);subst this;simp[G']
   ·simp[G',h]
  ·have eO:s≠s0:=fun e=>hs 1 (by simp[e])
   obtain⟨y,hy⟩:=gY;have eC:b'≠b:=by
    rintro rfl
    rw[h6]at hy;simp at hy;exact eO hy.1.symm
   simp[yL,World.cell?,k3 b' eC]
 have gn:Mem Γ G' w':=by
  refine⟨fun s z=>?_,fun b' o l hl=>?_,fun b' l hl=>?_,fun b' x hx=>?_,fun b' h h'=>?_,by rw[k4];exact hm.sz,hm.bk.trans hB ko kq⟩
  ·show(if _ then _ else _:Value).oneCell'=dL
   split
   ·split
    ·split
     ·rfl
     ·exact hm.one _ _
    ·exact hm.one _ _
   ·exact hm.one _ _
  ·have:=hm.lb b' o l hl;exact⟨by rw[k4];exact this.1,this.2⟩
  ·have:=hm.ow b' l hl;exact⟨by rw[k4];exact this.1,this.2⟩
  ·have:b'≠b:=by rintro rfl;rw[gK.2.2]at hx;cases hx
   rw[k3 b' this];exact hm.st b' x hx
  ·have:b'≠b:=by
    rintro rfl
    rcases gK.2.1 with h0|h0
    ·omega
    ·exact h' h0
   rw[k3 b' this];exact hm.fr b' h h'
 refine⟨G',vV g9 rfl gu gn ?_ ?_⟩
 ·intro s hs
  rw[tV]at hs;split at hs
  ·cases hs
  ·rename_i gg
   exact⟨fun n hn=>gg (by simp at hn;exact hn.1.symm),rfl⟩
 ·intro s t' hs
  rw[tV]at hs;split at hs
  ·rename_i he;subst he
   simp at hs;subst hs;refine⟨by rw[e1];simp[mkV,G'],?_,by simp only[Top];exact zEx zPf us⟩;simp only[R];refine .inr ⟨b,o0,cap,cs',e,by simp[G',h1,gf],k1,by simp[gf];exact h3,h4,by omega,h6,fun o cE cD=>h7 o (by simpa[gf]using cE) cD,?_⟩;refine zKk _ [] 0 b o0 fun i x hx=>?_
   rw[K4,Kk]at hx;obtain⟨u,hu,rfl⟩:=hx;have hi:=(Jo.1 hu).1;obtain⟨g1,g2,_⟩:=kV _ [] 0 b o0 1 i (I xs[i]) h8 (by simp[show i<xs.length by omega]);simp only[Jd,Gl,Loc]at g1 ⊢
   refine⟨⟨g1.1,g1.2.1,?_⟩,rfl,by simp[R,G',hu]⟩;have:=k5 i u hu;simp[yL,World.cell?,k1,this,G',hu]
  ·cases hs
def zHB(P:Program)(Γ:Ctx)(E:Env)(y:Operand)(ys:List Int):Prop:=∀(a:Act)(w:World)(G:Gh),Rep Γ E G a.tmps w→ ∃xa c,a.eval y=.slice xa ys.length c∧
 ∀(n:Nat),n≤ys.length→(Builtin.firstCells 1 n (.slice xa ys.length c)).run P w=.ok ((ys.take n).map vI).toArray w
theorem zCI{P:Program}{w:World}{b o:Nat}{cs:Array Value}{e:TypeId}{fr:Nat×Nat}(hb:w.heap[b]? =dJ (.cells cs e fr))(ys:List Int)(hv:∀(i:Nat) u,ys[i]? =dJ u→cs[o+i]? =dJ (vI u))(n:Nat)(hn:n≤ys.length)(len cap:Nat):
  (Builtin.firstCells 1 n (.slice (dJ ⟨b,o,dK⟩) len cap)).run P w=.ok ((ys.take n).map vI).toArray w:=by
 refine run_firstCells_some (P:=P) w 1 n ⟨b,o,dK⟩ len cap _ (by simp;omega) fun j v hj=>?_
 rw[K4,Kk]at hj;obtain⟨u,hu,rfl⟩:=hj;rw[Ha]at hu;split at hu
 ·rw[uB]
  have:=hv j u hu;simp[World.cell?,hb,this]
 ·cases hu
theorem zDd{P:Program}{w:World}{a:Option Addr}{c:Nat}:(Builtin.firstCells 1 0 (.slice a 0 c)).run P w=.ok #[] w:=by cases a<;>simp[Builtin.firstCells,loadCells,loadCellsFrom]
theorem zHB.ro{P:Program}{y:Operand}{ys:List Int}{r:Nat}{q:List Nat}(h:tW E y=dJ (r,q,.ro (L 1 I ys))):zHB P Γ E y ys:=fun a w G g9=>by
 obtain⟨h1,h2⟩:=jQ g9 h rfl;obtain⟨xa,c,g1,_,_,g2⟩:=zD7 h1;rw[Js]at g1;refine⟨xa,c,by rw[h2,g1],fun n hn=>?_⟩
 by_cases hy:ys=[]
 ·subst hy
  simp at hn;subst hn;simpa using zDd
 ·obtain⟨b,o,cs,e,fr,rfl,g3,g4⟩:=g2 (by simpa using hy)
  refine zCI (g9.mem.st b _ g3) ys (fun i u hu=>?_) n hn _ _;have:=zGJ _ cs o 1 i (I u) g4 (by simp[hu]);simp only[RoC,Gl]at this;exact this.1
theorem zPl{G:Gh}{w:World}{s b o0:Nat}{q:List Nat}{cs:Array Value}{e:TypeId}{xs:List Int}{St:Stb}(h2:w.heap[b]? =dJ (.cells cs e (0,0)))(h8:RL St G w s (xs.map I) q 0 b o0 1)(i:Nat)(u:Int)(hu:xs[i]? =dJ u):cs[o0+i]? =dJ (vI u):=by obtain⟨g1,_,g3⟩:=kV _ q 0 b o0 1 i (I u) h8 (by simp[hu]);simp only[Loc,R,Jd,Gl]at g1 g3;have:=g1.2.2;simp only[yL,World.cell?,h2]at this;simpa[g3]using this
theorem zHB.sub{P:Program}{s r:Nat}{q:List Nat}{tr:T}{xs ys:List Int}{l h:Int}(hs:E s=dJ (.sub r q 1 l.toNat h.toNat))(hr:E r=dJ tr)(hg:tr.get q.reverse=dJ (L 1 I xs))(hv:zQ xs l h=dJ ys):zHB P Γ E (.tmp s) ys:=fun a w G g9=>by
 obtain⟨k1,k2,k3,rfl⟩:=sS hv;obtain⟨e1,e2,_⟩:=g9.ent s _ hs;obtain⟨_,e4,_⟩:=g9.ent r _ hr;simp only[R]at e2;have h5:=(zB1 q.reverse tr _ [] e4 hg).1;simp only[rp,K5,Jb,R]at h5;have gf:((xs.drop l.toNat).take (h.toNat-l.toNat)).length=h.toNat-l.toNat:=by simp;omega
 rw[gf];have ms:a.eval (.tmp s)=G.hd s []:=by rw[xP e1,xI rfl]
 rcases h5 with⟨g1,ad,g2⟩|⟨b,o0,cap,cs,e,g1,g2,g3,_,_,_,_,g8⟩
 ·have hy:xs=[]:=by simpa using g1
  subst hy;have hl0:l.toNat=0:=by simp at k3;omega
  have mZ:h.toNat=0:=by simp at k3;omega
  refine⟨ad,0,by rw[ms,e2,g2,hl0,mZ];simp[zBN],fun n hn=>?_⟩;simp[mZ]at hn;subst hn;rw[hl0,mZ];simpa using zDd
 ·rw[Js]at g1 g3
  refine⟨if cap=l.toNat then dJ ⟨b,o0,dK⟩else dJ ⟨b,o0+l.toNat,dK⟩,cap-l.toNat,by rw[ms,e2,g1];simp only[zBN,Gk,uB,Gl],fun n hn=>?_⟩;split
  ·have:n=0:=by omega
   subst this;simp[Builtin.firstCells,loadCells,loadCellsFrom]
  ·refine zCI g2 _ (fun i u hu=>?_) n (by rw[gf];exact hn) _ _
   rw[Ha]at hu;split at hu
   ·rw[Lm]at hu
    rw[H3];exact zPl g2 g8 _ u hu
   ·cases hu
def zEg(Γ:Ctx)(E:Env)(x:Operand)(s0 lo hi:Nat):Prop:=∀(a:Act)(w:World)(G:Gh),Rep Γ E G a.tmps w→a.eval x=zBN (G.hd s0 []) 1 lo hi
theorem zEg.slot{s0:Nat}{xs:List Int}(h:E s0=dJ (L 1 I xs)):zEg Γ E (.tmp s0) s0 0 xs.length:=fun a w G g9=>by obtain⟨e1,e2,_⟩:=g9.ent s0 _ h;obtain⟨ad,c,g⟩:=zKe e2;rw[Js]at g;rw[xP e1,xI rfl,g];simp[zBN];intro;cases ad<;>simp[Addr.add]
theorem zEg.same{s s0:Nat}{xs:List Int}(hs:E s=dJ (.same s0 []))(h:E s0=dJ (L 1 I xs)):zEg Γ E (.tmp s) s0 0 xs.length:=fun a w G g9=>by obtain⟨e1,e2,_⟩:=g9.ent s _ hs;have:=zEg.slot h a w G g9;obtain⟨e3,_,_⟩:=g9.ent s0 _ h;simp only[R]at e2;rw[xP e3,xI rfl]at this;rw[xP e1,xI rfl,e2];exact this
theorem zEg.sub{s s0 lo hi:Nat}(hs:E s=dJ (.sub s0 [] 1 lo hi)):zEg Γ E (.tmp s) s0 lo hi:=fun a w G g9=>by obtain⟨e1,e2,_⟩:=g9.ent s _ hs;simp only[R]at e2;rw[xP e1,xI rfl,e2]
end
theorem zQ8{α:Type}{xs ys:List α}{l h:Int}(hv:zQ xs l h=dJ ys):l.toNat≤h.toNat:=by have:=sS hv;omega
theorem zQ9{α:Type}{xs ys:List α}{l h:Int}(hv:zQ xs l h=dJ ys):h.toNat≤xs.length:=by have:=sS hv;omega
theorem zPm{α:Type}(l z:List α)(lo i:Nat)(gT:lo+z.length≤l.length):(l.take lo++z++l.drop (lo+z.length))[i]? =if i<lo then l[i]? else if i<lo+z.length then z[i-lo]? else l[i]?:=by
 have hm:min lo l.length=lo:=by omega
 by_cases c1:i<lo
 ·rw[if_pos c1,Jg,K3 (by simp;omega),Ha,if_pos c1]
 ·rw[if_neg c1]
  by_cases c2:i<lo+z.length
  ·rw[if_pos c2,Jg,Je (by simp;omega),L4,hm,K3 (by omega)]
  ·rw[if_neg c2,Jg,Je (by simp;omega),L4,hm,Je (by omega),Lm]
   congr 1;omega
def wC(xs:List Int)(lo:Nat)(zs:List Int):List Int:=xs.take lo++zs++xs.drop (lo+zs.length)
theorem zPn{P:Program}{Γ:Ctx}{E:Env}{d s0 lo hi:Nat}{x y:Operand}{ty:TypeId}{ps:String}{af:Array Edge}{gd:Option (Nat×Bool)}{t t2 e:TypeId}{ti:TypeInfo}{u:T}{xs ys:List Int}(ht:ElT P t e ti 1 u)(h0:E s0=dJ (L 1 I xs))(hx:∀S,zEg (Γ.at S) E x s0 lo hi)(hy:∀S,zHB P (Γ.at S) E y ys)(h1:lo≤hi)(h2:hi≤xs.length)(sd:(J4 d Γ.N&&(s0 != d))=dL):
  Ok P Γ ⟨dJ d,.call { callee:=.builtin .copy,args:=#[x,y],argTypes:=#[t,t2] },ty,ps,af,gd⟩ E ((E.app [(s0,dJ (L 1 I (wC xs lo (ys.take (hi-lo)))))] [(s0,1)]).app [(d,dJ (I ((min ys.length (hi-lo):Nat):Int)))] [(d,0)]):=by
 simp only[J2]at sd;have gg:s0≠d:=by simpa using sd.2
 intro S;refine xT.value rfl fun a w G g9=>?_
 obtain⟨e1,e2,_⟩:=g9.ent s0 _ h0;obtain⟨xa,c,g1,g2⟩:=hy S a w G g9;have g3:=hx S a w G g9;have eQ:min ys.length (hi-lo)≤ys.length:=by omega
 have g4:=g2 _ eQ;have ex:ys.take (hi-lo)=ys.take (min ys.length (hi-lo)):=by rw[List.take_eq_take_iff];omega
 rw[ex]
 generalize hn:min ys.length (hi-lo)=n at*
 have cm:(ys.take n).length=n:=by simp;omega
 have gf:(wC xs lo (ys.take n)).length=xs.length:=by simp[wC,cm];omega
 have key:∃w',(Builtin.copy_ #[t,t2] ty #[a.eval x,a.eval y]).run P w=.ok (goInt n) w'∧ ∃G',Rep (Γ.at S) (E.app [(s0,dJ (L 1 I (wC xs lo (ys.take n))))] [(s0,1)]) G' a.tmps w':=by
  have e2':=e2;simp only[R]at e2;rcases e2 with⟨k1,ad,k2⟩|⟨b,o0,cap,cs,e',k1,k2,k3,k4,k5,k6,k7,k8⟩
  ·have eZ:xs=[]:=by simpa using k1
   subst eZ;simp at h2;subst h2;have bI:n=0:=by omega
   subst bI;have gT:lo=0:=by omega
   subst gT;refine⟨w,?_,G,?_⟩
   ·rw[g3,k2,g1]
    cases ad<;>cases xa<;>simp[zBN,Builtin.copy_,run_underlying ht.un,Builtin.lenOf,sizeOf,typeInfo,ht.info,Builtin.firstCells,loadCells,loadCellsFrom,storeCells]
   ·refine vV g9 rfl ⟨fun _ _ _=>rfl,fun _ _ _=>rfl,fun _ _ _ _ _ _ h _=>⟨h,rfl⟩,fun _ _ _ h _=>h,fun b cs e h=>⟨cs,h,rfl⟩⟩ g9.mem (fun s hs=>⟨fun n hn=>by simp at hn;simp[Wr.find,hn.1]at hs,rfl⟩) fun s t' hs=>?_
    rw[tV]at hs;split at hs
    ·rename_i he;subst he
     simp at hs;subst hs;simpa[wC]using g9.ent s0 _ h0
    ·cases hs
  ·rw[Js]at k1 k3 k7
   have gB:o0+cap≤cs.size:=by omega
   have gG:=run_storeCells_at P b (o0+lo) e' ((ys.take n).map vI) 0 cs w k2 (by simp;omega) (by intro v hv;obtain⟨u,_,rfl⟩:=Ji.1 hv;rfl);simp only[Jad,Js]at gG
   generalize ew:w.setRow b (cs.toList.take (o0+lo)++(ys.take n).map vI++cs.toList.drop (o0+lo+(ys.take n).length)).toArray=w' at gG
   have gA:cs.toList.length=cs.size:=Kh ..
   by_cases pt:cap=lo
   ·have bI:n=0:=by omega
    subst bI;refine⟨w,?_,G,?_⟩
    ·rw[g3,k1,g1]
     have g5:(Builtin.firstCells 1 0 (.slice xa ys.length c)).run P w=.ok #[] w:=by simpa using g4
     simp[zBN,Builtin.copy_,run_underlying ht.un,Builtin.lenOf,sizeOf,typeInfo,ht.info,ht.size,show hi-lo=0 by omega,g5,storeCells,pt]
    ·refine vV g9 rfl ⟨fun _ _ _=>rfl,fun _ _ _=>rfl,fun _ _ _ _ _ _ h _=>⟨h,rfl⟩,fun _ _ _ h _=>h,fun b cs e h=>⟨cs,h,rfl⟩⟩ g9.mem (fun s hs=>⟨fun n hn=>by simp at hn;simp[Wr.find,hn.1]at hs,rfl⟩) fun s t' hs=>?_
     rw[tV]at hs;split at hs
     ·rename_i he;subst he
      simp at hs;subst hs;simpa[wC]using g9.ent s0 _ h0
     ·cases hs
   ·refine⟨w',?_,zLS g9 h0 gf k1 k2 k3 k4 k5 k6 k7 k8 (by rw[←ew];exact setRow_heap w b cs _ e' _ k2) ?_ (fun b' h=>by rw[←ew];exact setRow_other w b b' _ h) (by rw[←ew];exact size_setRow w b _) (by rw[←ew];rfl) (by rw[←ew];rfl) fun i v hv=>?_⟩
    ·rw[g3,k1,g1]
     have h9:Nat.min ys.length (hi-lo)=n:=hn;simp only[zBN,pt,if_false,Gk,uB,Gl];simp only[Builtin.copy_];rw[U5]at gG;simp[run_underlying ht.un,Builtin.lenOf,sizeOf,typeInfo,ht.info,ht.size,h9,g4,gG]
    ·simp[cm];omega
    ·rw[wC,zPm _ _ _ _ (by rw[cm];omega)]at hv
     have h11:o0+lo+((ys.take n).map vI).length≤cs.toList.length:=by simp;omega
     have h10:=zPm cs.toList ((ys.take n).map vI) (o0+lo) (o0+i) h11;rw[Js]at h10;rw[List.getElem?_toArray,h10];have fF:=fun i u hu=>zPl k2 k8 i u hu
     by_cases c1:i<lo
     ·rw[if_pos c1]at hv
      rw[if_pos (by omega)];simpa using fF i v hv
     ·rw[if_neg c1]at hv
      rw[if_neg (by omega)]
      by_cases c2:i<lo+(ys.take n).length
      ·rw[if_pos c2]at hv
       rw[if_pos (by omega),show o0+i-(o0+lo)=i-lo from by omega];rw[K4,hv];rfl
      ·rw[if_neg c2]at hv
       rw[if_neg (by omega)];simpa using fF i v hv
 obtain⟨w',gw,G',gk⟩:=key;refine⟨_,w',?_,_,vE gk rfl (yB sd.1) (fun _=>vI n) (fun _=>rfl) (I n) (vI n) (by simp[mkV,Gh.put]) (by simp[R,Gh.put]) (by simp[Top])⟩;simp[execOp,resolve,invoke,builtin,gw,goInt]
end Go.Ab

namespace Go.Ab
open Go
theorem zJv{G G':Gh}{s d:Nat}(hd:∀z,G'.hd d z=G.hd s z):(xs:List T)→yJ xs=dL→ ∀(j:Nat),zA1 G' d (cpF s xs [] j) [] j=zA1 G s xs [] j
 | [],_,_=>by rfl
 |x::xs,h,j=>by
  simp only[yJ,J2]at h;simp only[cpF,zA1];have gZ:∀ys,x≠.tup ys:=by rintro ys rfl;grind[T.okTup]
  have h1:=zBh (G:=G) (G':=G') (s:=s) (d:=d) x [j] [j] gZ (fun z=>hd _);have h2:∀ys,cpT s x [j]≠.tup ys:=by intro ys;cases x<;>simp[cpT]
  rw[zA2 _ _ _ _ h2]at h1;rw[h1,zJv hd xs h.2 (j+1)]
section
variable {P:Program}{Γ:Ctx}{E E':Env}{d:Nat}{x y:Operand}{ty:TypeId}{ps:String}{af:Array Edge}{gd:Option (Nat×Bool)}
theorem zY4{s:Nat}{ts:List T}(hx:E s=dJ (.tup ts))(sd:(J4 d Γ.N&&yJ ts&&(s != d)&&zLt [(d,0)] (cpF s ts [] 0))=dL):Ok P Γ ⟨dJ d,.move (.tmp s),ty,ps,af,gd⟩ E (E.app [(d,dJ (.tup (cpF s ts [] 0)))] [(d,0)]):=by
 simp only[J2]at sd;obtain⟨⟨⟨s1,s2⟩,s3⟩,s4⟩:=sd;have gg:s≠d:=by grind
 intro S;refine xT.value rfl fun a w G g9=>?_
 obtain⟨h1,h2,_⟩:=g9.ent s _ hx;simp only[R]at h2;have hk:=G.put_keep (w:=w) (w':=w) rfl d (fun z=>G.hd s z);have hz:∀z,(G.put d (fun z=>G.hd s z)).hd d z=G.hd s z:=by grind[Gh.put_self]
 have htop:∀(xs:List T)(j:Nat),uF (cpF s xs [] j):=by
  intro xs
  induction xs with
  |nil=>intro j;simp only[cpF,uF]
  |cons x xs ih=>intro j;simp only[cpF,uF];grind[qW]
 refine⟨mkV G s (.tup ts) [],w,?_,_,vE g9 rfl (yB s1) (fun z=>G.hd s z) (fun z=>g9.mem.one _ _) _ _ (by grind[mkV,zJv])
  (by simp only[R];exact zKc (fun p=>G.put_other _ p gg) ts [] [] 0 (fun z=>hz _) (xH.mono (fun r p hr=>⟨hk.hd r p hr,hk.ad r p hr⟩) _ (by grind[zHd])) h2) (by simp only[Top];grind)⟩
 simp[execOp,xP h1]
end
end Go.Ab

namespace Go.Ab
open Go
end Go.Ab

namespace Go.Ab
open Go
section
variable {P:Program}{Γ:Ctx}{E:Env}{d:Nat}{x:Operand}{ty:TypeId}{ps:String}{af:Array Edge}{gd:Option (Nat×Bool)}
class yB7 (P:Program) (t:TypeId) (e:outParam TypeId) (ti:outParam TypeInfo) (n:outParam Nat) (k:outParam Nat):Prop where
 un:P.underlying t=dJ (.array n e)
 info:P.info? e=dJ ti
 size:ti.size=k
theorem zY5{t e:TypeId}{ti:TypeInfo}{n k r:Nat}{q:List Nat}{xs:List T}{u:T}(i:Nat)(ht:yB7 P t e ti n k)(hx:tW E x=dJ (r,q,.ptr (.agg xs)))(hu:xs[i]? =dJ u)(gH:T.sizes (xs.take i)=i*k)(sd:(J4 d Γ.N&&J4 i n)=dL):
  Ok P Γ ⟨dJ d,.indexAddr t x (.const (.int .i64 i)),ty,ps,af,gd⟩ E (E.app [(d,dJ (.addr r (i::0::q)))] [(d,0)]):=by
 simp only[J2]at sd;have gJ:=yB sd.2;intro S;refine xT.value rfl fun a w G g9=>?_
 obtain⟨g1,g2⟩:=jQ g9 hx rfl;simp only[R]at g1;obtain⟨b,cs,e',g4,_,_,_,g5,_⟩:=g1;simp only[Loc]at g5;have g6:=zCO xs (0::q) 0 b 0 i u g5.2 hu;simp only[Jd]at g6;have g3:a.eval (.const (.int .i64 i))=.int .i64 i:=rfl;refine⟨.pointer (dJ (G.ad r (i::0::q))),w,?_,_,vE g9 rfl (yB sd.1) (fun _=>.pointer (dJ (G.ad r (i::0::q)))) (fun _=>rfl) _ _ (by simp[mkV,Gh.put]) (by simp[R,Gh.put]) (by simp[Top])⟩;have gF:(i:Int)<(n:Int):=by omega
 have h0:(0:Int)≤i:=by omega
 have g7:=zCm g6;have mn:i<n:=gJ;simp[execOp,Instr.indexAt,g3,g2,g4,asIntOf,run_underlying ht.un,h0,mn,sizeOf,typeInfo,ht.info,ht.size,uB,tZ,g7,gH]
end
end Go.Ab
namespace Go.Ab
open Go
theorem yB8{E:Env}{ds r s:Nat}{q:List Nat}{tr u t:T}(h:E s=dJ t)(gg:(Nat.beq ds s||Nat.beq r s)=dM:=by rfl)(hb:t.okB [(ds,1),(r,q.length+1)]=dL:=by rfl):opT (vK E ds r q tr u) (.tmp s)=dJ t:=by
 have h1:ds≠s:=by rintro rfl;simp at gg
 have h2:r≠s:=by rintro rfl;simp at gg
 simp[opT,vK,Env.app,Wr.find,h1,h2,h,hb]
end Go.Ab
namespace Go.Ab
open Go
section
variable {P:Program}{Γ:Ctx}{pn:kG}{E E':Env}{Q Q1:Exit→Env→Prop}{c c1 c2:Code}{ops:Array Oper}{o:Oper}{os:List Oper}{id:Nat}
theorem sR(h:RW P Γ pn ops ops.toList E (yO P Γ pn c Q)):CW P Γ pn (.seq (.region id ops dM) c) E Q:=CW.seq (CW.region h)
theorem rN(h:CW P Γ pn c E Q):RW P Γ pn ops [] E (yO P Γ pn c Q):=RW.nil h
theorem oP(h:Ok P Γ o E E')(k:RW P Γ pn ops os E' Q)(hg:o.guard=dK:=by rfl)(hp:pn.ok o.dst=dL:=by rfl):RW P Γ pn ops (o::os) E Q:=RW.op h k hg hp
def zZ8(ops:List Oper):List (List Nat):=(ops.foldl (fun(acc:Array (List Nat)) o=>acc.push ((zBX o).foldl (fun l m=>m::(acc.getD m [])++l) [])) #[]).toList
theorem CW.lp{σ ρ:Type}(body:σ→Option (σ⊕ρ))(en:σ→Env)(Q1:ρ→Exit→Env→Prop){s:σ}{r:ρ}(hg:zX Γ E (en s))(h:∀s x,body s=dJ x→CW P Γ pn c (en s) (wQ Γ en Q1 x))(hr:zH body s=dJ r)(hq:∀e E',Q1 r e E'→Q e E'):CW P Γ pn (.loop c) E Q:=
 (CW.mono (CW.loop body en Q1 h hr) hq).ghost hg
end
end Go.Ab

namespace Go.Ab
open Go Go.ChangeShapes
abbrev zLT(w:World):Stb:=fun b=>w.heap[b]?
theorem zQA{w:World}{a:Addr}{n:Nat}{cs:List Value}(h:w.cells? 0 a n=dJ cs):cs.length=n∧ ∀(i:Nat) v,cs[i]? =dJ v→w.cell? (a.add i)=dJ v:=by
 unfold World.cells? at h;rw[if_pos (Kf _)]at h;refine⟨by simpa using mapM_some_length h,fun i v hv=>?_⟩;have hi:i<n:=by have:=(Jo.1 hv).1;have h2:=mapM_some_length h;rw[Hi]at h2;omega
 rw[←hv];exact mapM_some_get h i i (by simp[hi])
theorem zPo{w:World}{a:Addr}{v:Value}(h:w.cell? a=dJ v):a.spot=dK∧ ∃c e fr,w.heap[a.block]? =dJ (.cells c e fr)∧c[a.off]? =dJ v:=by
 simp only[World.cell?]at h;split at h
 ·rename_i c e fr hb
  split at h
  ·cases h
  ·rename_i hs
   exact⟨by cases hq:a.spot with|none=>rfl|some _=>rw[hq]at hs;simp at hs,c,e,fr,hb,h⟩
 ·cases h
theorem zLU{b o m:Nat}:(Addr.mk b o dK).add m=⟨b,o+m,dK⟩:=by
 unfold Addr.add;split
 ·rename_i h;subst h;rfl
 ·rfl
theorem zGx{α:Type}{Q:Nat→α→Prop}:∀(n:Nat),(∀i,i<n→ ∃x,Q i x)→ ∃xs:List α,xs.length=n∧ ∀i x,xs[i]? =dJ x→Q i x
 |0,_=>⟨[],rfl,fun i x h=>by simp at h⟩
 |n+1,h=>by
  obtain⟨xs,h1,h2⟩:=zGx n fun i hi=>h i (by omega)
  obtain⟨y,hy⟩:=h n (by omega);refine⟨xs++[y],by simp[h1],fun i x hx=>?_⟩;rw[Kn]at hx;split at hx
  ·exact h2 i x hx
  ·rename_i hge
   have:i-xs.length=0:=by have:=(Jo.1 hx).1;simpa using this
   rw[this]at hx;simp at hx;subst hx
   rwa [show i=n from by omega]
theorem zPp{St:Stb}:(xs:List T)→ ∀(cs:Array Value)(o k:Nat),(∀i x,xs[i]? =dJ x→RoC St x cs (o+i*k))→RoL St xs cs o k
 | [],_,_,_,_=>by simp only[RoL]
 |x::xs,cs,o,k,h=>by
  simp only[RoL];refine⟨by simpa using h 0 x rfl,zPp xs cs (o+k) k fun i y hy=>?_⟩;have:=h (i+1) y (by simpa using hy)
  rwa [show o+k+i*k=o+(i+1)*k from by rw[K7];omega]
section
variable {P:Program}
def RdT(P:Program)(t:TypeId)(k:Nat){α:Type}(f:α→T)(V:α→Prop):Prop:=
 ∀{H:Type}(enc:TypeId×Value→H)(w:World)(fuel:Nat)(cs:List Value)(x:DataW H×List MemPlace),DataW.trod enc P w 0 (fun _=>dL) dL fuel t cs=dJ x→
  cs.length=k→ ∃d,V d∧ ∀(A:Array Value)(o:Nat),(∀(i:Nat) v,cs[i]? =dJ v→A[o+i]? =dJ v)→RoC (zLT w) (f d) A o
theorem zSD{t:TypeId}{q:IntKind}(hu:P.underlying t=dJ (.int q)):RdT P t 1 (IK q) (fun n=>(Lit.int q n).wf=dL):=by intro H enc w fuel cs x h _;obtain⟨n,rfl,_,hw⟩:=DataW.trod_int hu h;exact⟨n,hw,fun A o hA=>by simp only[RoC];exact⟨by simpa using hA 0 _ rfl,rfl⟩⟩
theorem yD6{α:Type}{f:α→T}{V:α→Prop}{t e:TypeId}{k:Nat}(hu:P.underlying t=dJ (.slice e))(hk:P.cellsOf e=k)(eA:0<k)(h:RdT P e k f V):
  RdT P t 1 (L k f) (fun xs=>xs.length≤maxLen∧ ∀x∈xs,V x):=by
 intro H enc w fuel cs x hx _;rcases DataW.trod_slice hu hx with⟨rfl,_⟩|⟨a,len,cap,elems,rest,n,rfl,rfl,_,_,c0,pt,p9,cR,_⟩
 ·refine⟨[],⟨by simp,by simp⟩,fun A o hA=>?_⟩
  simp only[RoC,Gp,K0];exact⟨dK,0,by simpa using hA 0 _ rfl,Jk _,by simp[maxLen],fun h=>absurd rfl h⟩
 ·subst hk
  have key:∀i,i<len→ ∃y,V y∧ ∃cs':List Value,cs'.length=P.cellsOf e∧(∀(j:Nat) v,cs'[j]? =dJ v→w.cell? ((a.add (i*P.cellsOf e)).add j)=dJ v)∧
    ∀(A:Array Value)(o:Nat),(∀(j:Nat) v,cs'[j]? =dJ v→A[o+j]? =dJ v)→RoC (zLT w) (f y) A o:=by
   intro i hi;have h1:=cR i hi;rw[J7 (by omega)]at h1;obtain⟨cs',h2,h3⟩:=Ui.1 h1;obtain⟨h4,h5⟩:=zQA h2;obtain⟨y,h6,h7⟩:=h enc w n cs' _ h3 h4;exact⟨y,h6,cs',h4,h5,h7⟩
  obtain⟨xs,tj,eZ⟩:=zGx len key;refine⟨xs,⟨by omega,fun y hy=>?_⟩,fun A o hA=>?_⟩
  ·obtain⟨i,hi,rfl⟩:=K6.1 hy
   exact(eZ i _ (J7 hi)).1
  ·simp only[RoC,Js,tj]
   refine⟨dJ a,cap,by simpa using hA 0 _ rfl,c0,pt,fun gg=>?_⟩;have cz:0<xs.length:=by
    cases xs with
    |nil=>simp at gg
    |cons _ _=>simp
   obtain⟨_,cs0,g1,g2,_⟩:=eZ 0 _ (J7 cz);have hz:a.add (0*P.cellsOf e)=a:=by simp[Addr.add]
   have g3:=g2 0 cs0[0] (J7 (by omega));rw[hz,show a.add 0=a from by simp[Addr.add]]at g3;obtain⟨m9,c,e',fr,hb,_⟩:=zPo g3;obtain⟨b,off,sp⟩:=a;simp only at m9 hb;subst m9;refine⟨b,off,c,e',fr,rfl,hb,zPp _ _ _ _ fun i y hy=>?_⟩;rw[K4,Kk]at hy;obtain⟨z,pV,rfl⟩:=hy;obtain⟨_,cs',g1',g2',g4⟩:=eZ i z pV;refine g4 c _ fun j v hv=>?_
   have:=g2' j v hv;rw[zLU,zLU]at this;obtain⟨_,c2,e2,fr2,pc,pZ⟩:=zPo this;simp only at pc pZ;rw[hb]at pc;cases pc;exact pZ
end
def zWr(v:Value):Value:=if v.oneCell' then v else .bool dM
theorem zLV(v:Value):(zWr v).oneCell'=dL:=by unfold zWr;split;assumption;rfl
def hd0(vs:Array Value)(s:Nat)(p:List Nat):Value:=
 match vs[s]?,p with
 |some (.agg cs),[j]=>zWr (cs[j]?.getD (.bool dM))
 |some v,[]=>zWr v
 |_,_=>.bool dM
def G0(vs:Array Value):Gh:={ hd:=hd0 vs,ad:=fun _ _=>default,lb:=fun _ _=>dK,ow:=fun _=>dK }
theorem yD7(w:World)(vs:Array Value):Mem ⟨zLT w,fun _=>False,w,0⟩ (G0 vs) w where
 one s p:=by
  simp only[G0,hd0];split
  ·exact zLV _
  ·exact zLV _
  ·rfl
 lb b o l h:=by simp[G0]at h
 ow b l h:=by simp[G0]at h
 st b x h:=h
 fr b _ _:=rfl
 sz:=Jk _
 bk:=⟨fun b cs e h=>⟨cs,h,rfl⟩,rfl,rfl⟩
def RdA(P:Program)(t:TypeId){α:Type}(u:α→T)(V:α→Prop):Prop:=
 ∀{H:Type}(enc:TypeId×Value→H)(w:World)(base fuel:Nat)(v:Value)(x:DataW H×List MemPlace),DataW.trod enc P w 0 (fun _=>dL) dL fuel t v.cells.toList=dJ x→
  Value.okWide P w .any base t v→ ∃d,V d∧ ∀(vs:Array Value)(s:Nat),vs[s]? =dJ v→dJ v=dJ (mkV (G0 vs) s (u d) [])∧R (zLT w) (G0 vs) w s (u d) []
def RdC(P:Program)(t:TypeId){α:Type}(u:α→T)(V:α→Prop):Prop:=
 ∀{H:Type}(enc:TypeId×Value→H)(w:World)(fuel:Nat)(c:Value)(x:DataW H×List MemPlace),DataW.trod enc P w 0 (fun _=>dL) dL fuel t [c]=dJ x→
  ∃d,V d∧c.oneCell'=dL∧ ∀(G:Gh)(s:Nat)(p:List Nat),G.hd s p=c→vals G s (u d) p=[c]∧R (zLT w) G w s (u d) p
section
variable {P:Program}
theorem yB9{α:Type}{f:α→T}{V:α→Prop}{t:TypeId}(h:RdT P t 1 f V)(h1:∀{H:Type}(enc:TypeId×Value→H)(w:World)(fuel:Nat)(c:Value)(x:DataW H×List MemPlace),DataW.trod enc P w 0 (fun _=>dL) dL fuel t [c]=dJ x→c.oneCell'=dL):
  RdC P t (fun x=>T.ro (f x)) V:=by
 intro H enc w fuel c x hx;obtain⟨d,g1,g2⟩:=h enc w fuel [c] x hx rfl;refine⟨d,g1,h1 enc w fuel c x hx,fun G s p hp=>⟨by simp only[vals,hp],?_⟩⟩;simp only[R,hp];exact g2 _ _ fun i v hv=>by
  cases i with
  |zero=>simpa using hv
  |succ i=>simp at hv
theorem yD8{α:Type}{f:α→T}{V:α→Prop}{t e:TypeId}{k:Nat}(hu:P.underlying t=dJ (.slice e))(hk:P.cellsOf e=k)(eA:0<k)(h:RdT P e k f V):RdC P t (fun xs=>T.ro (L k f xs)) (fun xs=>xs.length≤maxLen∧ ∀x∈xs,V x):=
 yB9 (yD6 hu hk eA h) fun enc w fuel c x hx=>by
  rcases DataW.trod_slice hu hx with⟨h1,_⟩|⟨a,len,cap,_,_,_,_,h1,_⟩<;>
  ·simp only[Ja0.injEq,and_true]at h1
   subst h1;rfl
theorem zWs{α:Type}{u:α→T}{V:α→Prop}{t:TypeId}(hs:∀x,(u x).single=dL∧ ∀G s,mkV G s (u x) []=G.hd s [])(h:RdC P t u V)
  (hv:∀{w:World}{base:Nat}{v:Value},Value.okWide P w .any base t v→v.oneCell'=dL):RdA P t u V:=by
 intro H enc w base fuel v x hx gz;have h1:v.cells.toList=[v]:=by have:=hv gz;cases v<;>simp_all [Value.oneCell',Value.cells]
 rw[h1]at hx;obtain⟨d,g1,g2,g3⟩:=h enc w fuel v x hx;refine⟨d,g1,fun vs s p5=>?_⟩;have gI:(G0 vs).hd s []=v:=by simp only[G0,hd0,p5];cases v<;>first|rfl|simp[Value.oneCell']at g2
 exact⟨by rw[(hs d).2,gI],(g3 _ _ _ gI).2⟩
end
theorem FnC.top{P:Program}{f:FuncId}{us:List T}(h:FnC P f us [B dL] []){w:World}{vs:Array Value}(gB:vs.size=us.length)
  (ha:∀(i:Nat) u,us[i]? =dJ u→vs[i]? =dJ (mkV (G0 vs) i u [])∧R (zLT w) (G0 vs) w i u []):
  Calls P f vs w fun e w'=>e=.returned (.bool dL)∧w'.os=w.os∧w'.output=w.output∧w.heap.size≤w'.heap.size∧ ∀b,b<w.heap.size→w'.heap[b]? =w.heap[b]?:=by
 refine(h (zLT w) (fun _=>False) w (G0 vs) vs gB (fun i u hu=>?_) (yD7 w vs)).mono fun e w'=>?_
 ·obtain⟨h1,h2⟩:=ha i u hu
  refine⟨?_,h2⟩;rw[h1]
 ·rintro⟨S',G',nd,_,he,hm,pi,hr,_,_⟩
  match nd,pi with
  | [(s,p,t)],pi=>
   simp only[Jt,Gp,Ja0.injEq,and_true]at pi;subst pi;have:=(hr (s,p,B dL) (by simp)).1;simp only[R]at this;exact⟨by rw[he];simp only[zLA,sO,this],hm.bk.os,hm.bk.out,hm.sz,fun b hb=>hm.fr b hb (fun h=>h)⟩
theorem zEh{H:Type}{enc:TypeId×Value→H}{P:Program}(hl:laidOutB P=dL){W W':World}{sp:Nat→Bool}:∀{ts:List TypeId}{vs:List Value}{ds:List (DataW H)}{ps:List MemPlace},(∀t∈ts,P.readableRec t=dL∧t<P.types.size)→
  DataW.TrodAll enc P W 0 (fun _=>dL) dL ts vs ds ps→(∀p∈ps,W.sameAt W' p)→(∀p∈ps,sp p.block=dL)→DataW.TrodAll enc P W' 0 sp dL ts vs ds ps
 | [],[],[],_,_,h,_,_=>h
 |t::ts,v::vs,d::ds,ps,hr,h,h1,h2=>by
  obtain⟨p,q,g1,g2,rfl⟩:=h;exact⟨p,q,Go.WideElems.Trod_stays hl (hr t (by simp)).1 (hr t (by simp)).2 g1 (fun x hx=>h1 x (by simp[hx])) (fun x hx=>h2 x (by simp[hx])),
   zEh hl (fun t' cv=>hr t' (by simp[cv])) g2 (fun x hx=>h1 x (by simp[hx])) (fun x hx=>h2 x (by simp[hx])),rfl⟩
 | [],_::_,_,_,_,h,_,_| [],[],_::_,_,_,h,_,_|_::_,[],_,_,_,h,_,_|_::_,_::_,[],_,_,h,_,_=>h.elim
theorem zHC{C:Checked}{os:Os}(own:ownKnob C.prog.godebug=dK)(started:os.Started){f:FuncId}{fn:Func}(noInit:C.prog.inits.idxOf? f=dK)(dh:C.prog.funcs[f]? =dJ fn){H:Type}{enc:TypeId×Value→H}{s:ChangeSpec}{conds:List PathCond}{apart fresh handsOn again:Bool}
  (witness:∃(w:World)(tape:Tape)(i:Input),w.os=os∧(w.forCall tape i).Shaped C.prog∧i.vars=[]∧Input.okWide C.prog (w.forCall tape i) .any w.heap.size f i∧
   s.pre6 enc C.prog fn conds apart (w.forCall tape i).memory i.args∧Assume.holds {} C.prog (lone (Frame.enter C.prog f i.args .normal) [] (w.forCall tape i)))
  (hs:∀(l:List (DataW H)),l.length=fn.params.size→(s.fn H l).results=[.lit (.bool dL)]∧(s.fn H l).args=l∧(s.fn H l).vars=[])(pA:s.vars=[]){tb:TypeId}(eT:fn.resultTypes= #[tb])(hb:C.prog.underlying tb=dJ .bool)
  (laid:laidOutB C.prog=dL)(bA:fn.params.toList.all (fun t=>C.prog.readableRec t&&decide (t<C.prog.types.size))=dL)
  (law:∀(W:World)(base:Nat)(args:Array Value)(ds:List (DataW H))(p:List MemPlace),(∀(j:Nat) t v,fn.params[j]? =dJ t→args[j]? =dJ v→Value.okWide C.prog W .any base t v)→
   DataW.TrodAll enc C.prog W 0 (fun _=>dL) dL fn.params.toList args.toList ds p→
   ∃us:List T,args.size=us.length∧FnC C.prog f us [B dL] []∧ ∀(i:Nat) u,us[i]? =dJ u→args[i]? =dJ (mkV (G0 args) i u [])∧R (zLT W) (G0 args) W i u []):
  ReturnsInHanded {} C os f .any (s.pre6 enc C.prog fn conds apart) (s.post enc C.prog fn apart fresh handsOn again):=by
 refine returnsInHanded_of_change (C:=C) own started noInit dh witness ?_;intro W base args ds gs before hval hW _ _;have hW':=hW;obtain⟨p,q,hA,hV,hbq,hfz,pi⟩:=hW;obtain⟨us,h1,h2,h3⟩:=law W base args ds p hval hA;have hl:ds.length=fn.params.size:=by
  have:∀{ts:List TypeId}{vs:List Value}{ds:List (DataW H)}{p:List MemPlace},DataW.TrodAll enc C.prog W 0 (fun _=>dL) dL ts vs ds p→ds.length=ts.length:=by
   intro ts
   induction ts with
   |nil=>intro vs ds p h;cases vs<;>cases ds<;>first|rfl|exact h.elim
   |cons t ts ih=>intro vs ds p h;cases vs<;>cases ds<;>first|exact h.elim|(obtain⟨_,_,_,g,_⟩:=h;simp[ih g])
  simpa using this hA
 rw[pA]at hV;have hq:gs=[]∧q=[]:=by
  cases gs with
  |nil=>exact⟨rfl,hV⟩
  |cons _ _=>exact hV.elim
 obtain⟨rfl,rfl⟩:=hq;have gF:=hW'.lt;refine(h2.top h1 h3).mono fun e w' ⟨he,ho,hq,gB,hh⟩=>⟨_,he,?_⟩
 have ee:∀p∈before,W.sameAt w' p:=fun p hp=>by
  have:=gF p hp;cases p with
  |cell b off=>simp only[World.sameAt,World.cell?,hh b this]
  |map b=>exact hh b this
 obtain⟨k1,k2,k3⟩:=hs ds hl;have hbp:before=p:=by simpa using hbq
 subst hbp;have gO:∀t∈fn.params.toList,C.prog.readableRec t=dL∧t<C.prog.types.size:=fun t ht=>by have:=K8.1 bA t ht;simpa using this
 have gx:∀(b:Nat)(sp:Nat→Bool)(hd:Bool),DataW.TrodAll enc C.prog w' b sp hd fn.resultTypes.toList ((Value.bool dL).resultList fn.resultTypes.size) (s.fn H (ds++[])).results []:=fun b sp hd=>by rw[eT,Jb,k1];exact⟨[],[],⟨1,by simp[DataW.trod,hb,Value.cells]⟩,⟨rfl,rfl⟩⟩
 have gj:∀sp:Nat→Bool,(∀p∈before,sp p.block=dL)→DataW.TrodAll enc C.prog w' 0 sp dL fn.params.toList args.toList (s.fn H (ds++[])).args before:=fun sp m9=>by rw[Jb,k2];exact zEh laid gO hA ee m9
 have bg:∀sp:Nat→Bool,DataW.TrodVars enc C.prog w' sp s.vars (s.fn H (ds++[])).vars []:=fun sp=>by rw[pA,Jb,k3];rfl
 have gE:∀p∈before,(fun b=>decide (b<W.heap.size)) p.block=dL:=fun p hp=>by simpa using gF p hp
 have mq:∀p∈before,∀o,w'.frozen? ⟨p.block,o,dK⟩=W.frozen? ⟨p.block,o,dK⟩:=fun p hp o=>by simp only[World.frozen?,hh _ (gF p hp)]
 refine⟨ds,[],before,[],before,[],hW',gx _ _ _,gj _ gE,bg _,⟨ho,hq,fun i hi=>?_⟩,fun _=>⟨fun j t r hj hr=>?_,_,_,([]++before)++[],⟨[]++before,[],trodAll_append (gj _ (fun _ _=>rfl)) (gx _ _ _),bg _,rfl,fun b off hp=>?_,fun ha=>?_⟩,fun p hp _=>?_⟩⟩
 ·rw[hh i hi]
  cases hx:W.heap[i]? with
  |none=>rfl
  |some o=>cases o<;>simp
 ·rw[eT]at hj hr
  match j,hj,hr with
  |0,hj,hr=>
   simp[Value.resultList]at hj hr;subst hj;subst hr;simp[Value.okWide,hb,Cell.okWide,Cell.ok]
 ·have fX:MemPlace.cell b off∈before:=by simpa using hp
  exact(mq _ fX off).trans (hfz b off fX)
 ·have:=pi ha
  simpa using this
 ·simpa using hp
end Go.Ab

namespace Go.Ab
open Go
def kS(hs:List Nat)(E:Env):Prop:=∀s,hs.contains s=dL→ ∃t,E s=dJ t∧zBy t=dL
def zZ9(hs:List Nat)(z:Nat×Option T):Bool:=!hs.contains z.1||match z.2 with
 |some t=>zBy t
 |none=>dM
def wrS(hs:List Nat)(X:Stp):Bool:=X.l.all fun y=>y.1.all (zZ9 hs)
theorem zLW{s:Nat}{x:Option T}:∀{wr:Wr},wr.find s=dJ x→(s,x)∈wr
 | [],h=>by grind[Wr.find]
 |(k,y)::wr,h=>by
  simp only[Wr.find]at h;split at h
  ·grind
  ·exact Ut _ (zLW h)
theorem kS.apps{hs:List Nat}:∀(l:zDS)(E:Env),kS hs E→(l.all fun y=>y.1.all (zZ9 hs))=dL→kS hs (E.apps l)
 | [],_,h,_=>h
 |x::l,E,h,hw=>by
  simp only[U6,J2]at hw;refine kS.apps l (E.app x.1 x.2) (fun s gQ=>?_) hw.2;obtain⟨t,he,ht⟩:=h s gQ;unfold Env.app;cases hf:x.1.find s with
  |some y=>
   have h1:=K8.1 hw.1 _ (zLW hf);simp only[zZ9,gQ,Ja,Bool.false_or]at h1
   grind
  |none=>grind[uY]
theorem kS.runD{hs:List Nat}:∀(l:List (Bool×Stp))(E:Env),kS hs E→(∀y∈l,wrS hs y.2=dL)→kS hs (runD E l)
 | [],_,h,_=>h
 |(b,X)::l,E,h,hw=>by
  simp only[Go.Ab.runD];refine kS.runD l _ ?_ fun y hy=>hw y (by simp[hy])
  cases b with
  |true=>exact kS.apps X.l E h (hw (dL,X) (by simp))
  |false=>exact h
section
variable {P:Program}{Γ:Ctx}{pn:kG}{E E':Env}{Q:Exit→Env→Prop}{ops:Array Oper}{o:Oper}{os:List Oper}{id:Nat}{wr:Wr}{chg:Chg}{hs:List Nat}
def zPq(P:Program)(Γ:Ctx)(pn:kG)(ops:Array Oper)(o:Oper)(E E':Env):Prop:=
 ∀(a:Act)(w:World)(K:Act→World→Prop)(Q:Exit→Act→World→Prop),pn.Hold a→kX Γ E a w→(∀a' w',kX Γ E' a' w'→(∀s,o.dst≠dJ s→a'.tmps[s]? =a.tmps[s]?)→K a' w')→
  if Region.wanted o (yielded ops a.tmps)then o.wp P a w K Q∨(o.asks P a w∧LetsOut Q)else K (a.put o.dst undef) w
def vH(P:Program)(Γ:Ctx)(pn:kG)(hs:List Nat)(ops:Array Oper):List Oper→List Stp→Prop
 | [],[]=>True
 |o::os,X::Xs=>(∀E:Env,E.Has X.rd→kS hs E→zPq P Γ pn ops o E (E.apps X.l))∧vH P Γ pn hs ops os Xs
 |_,_=>False
theorem vH.get:∀(os:List Oper)(Xs:List Stp),vH P Γ pn hs ops os Xs→os.length=Xs.length∧ ∀(i:Nat)(o:Oper)(X:Stp),os[i]? =dJ o→Xs[i]? =dJ X→ ∀E:Env,E.Has X.rd→kS hs E→zPq P Γ pn ops o E (E.apps X.l)
 | [],[],_=>by simp
 |o::os,X::Xs,h=>by
  obtain⟨h1,h2⟩:=vH.get os Xs h.2;refine⟨by simp[h1],fun i o' X' ho hX=>?_⟩;cases i with
  |zero=>simp at ho hX;subst ho hX;exact h.1
  |succ i=>exact h2 i o' X' (by simpa using ho) (by simpa using hX)
 | [],_::_,h=>by simp[vH]at h
 |_::_,[],h=>by simp[vH]at h
theorem vH.snoc{X:Stp}:∀(os:List Oper)(Xs:List Stp),vH P Γ pn hs ops os Xs→(∀E:Env,E.Has X.rd→kS hs E→zPq P Γ pn ops o E (E.apps X.l))→vH P Γ pn hs ops (os++[o]) (Xs++[X])
 | [],[],_,h=>⟨h,trivial⟩
 |_::os,_::Xs,h1,h=>⟨h1.1,vH.snoc os Xs h1.2 h⟩
 | [],_::_,h,_=>by simp[vH]at h
 |_::_,[],h,_=>by simp[vH]at h
theorem sZ.snoc{X:Stp}:∀(Xs:List Stp)(E:Env),sZ E Xs→(runD E (Xs.map fun y=>(dL,y))).Has X.rd→sZ E (Xs++[X])
 | [],_,_,h=>⟨by grind[runD],trivial⟩
 |_::Xs,_,h1,h=>⟨h1.1,sZ.snoc Xs _ h1.2 (by simpa[runD]using h)⟩
theorem zKy{E0:Env}{ey:List Nat}{Xs:List Stp}{an:List (List Nat)}{Q':Exit→Act→World→Prop}(hf:zB4 0 ops.toList=dL)(ha:zAW an an ops.toList=dL)(hp:zAc Xs 0 an Xs=dL)
  (gG:vH P Γ pn ey ops ops.toList Xs)(hI:kS ey E0)(hw:Xs.all (wrS ey)=dL)(hh:sZ E0 Xs)(bC:ops.toList.all (fun o=>pn.ok o.dst)=dL)(hQ:∀a' w',kX Γ (runD E0 (Xs.map fun y=>(dL,y))) a' w'→pn.Hold a'→Q' .normal a' w'):
  ∀(fuel:Nat)(L:List Bool)(a:Act)(w:World),L.length=ops.size→L.count dM=fuel→zSw ops L→kX Γ (runD E0 (L.zip Xs)) a w→pn.Hold a→wpAny P .any ops Q' fuel L.toArray a w:=by
 obtain⟨gf,pE⟩:=vH.get _ _ gG;have pO:Xs.length=ops.size:=by grind
 intro fuel
 induction fuel with
 |zero=>
  intro L a w hL hcnt gA hs fk;have ft:∀b∈L,b=dL:=by grind
  have dF:L=J1 ops.size dL:=by rw[←hL];exact List.eq_replicate_iff.2 ⟨rfl,ft⟩
  refine⟨?_,?_⟩
  ·apply List.eq_nil_iff_forall_not_mem.2
   intro j hj;obtain⟨h1,o,ho,_⟩:=mem_ready.1 hj;have gF:=(Ht.1 ho).1;rw[dF]at h1;simp[gF]at h1
  ·refine hQ a w ?_ fk
   have:L.zip Xs=Xs.map fun y=>(dL,y):=by
    rw[dF,←pO]
    clear hs hL dF ft hcnt gA gG hw hh hp gf pO pE hQ
    induction Xs with
    |nil=>rfl
    |cons X Xs ih=>simp[Ju,ih]
   grind
 |succ fuel ih=>
  intro L a w hL hcnt gA hs fk;refine⟨fun hr=>?_,fun i hi=>?_⟩
  ·
   exfalso
   have fI:∃m:Nat,L[m]? =dJ dM:=by
    have:dM∈L:=by grind
    grind[Uo]
   obtain⟨m,hm,eQ⟩:=zEe fI;have hmlt:=(Jo.1 hm).1;have a6:ops[m]? =dJ ops[m]:=by simp
   have:m∈Region.ready .any ops L.toArray:=by
    refine mem_ready.2 ⟨by simp_all,ops[m],a6,fun e he hb=>?_⟩;have hpm:e.on∈zBX ops[m]:=by
     simp only[zBX,Ji,Qx]
     grind
    have gF:=zGL ops.toList 0 m _ hf (by simp) _ hpm;rw[Jd]at gF;cases hL1:L[e.on]? with
    |none=>grind
    |some b=>
     cases b with
     |false=>grind
     |true=>simp_all
   grind
  ·obtain⟨h1,o,ho,ft⟩:=mem_ready.1 hi
   have gF:=(Ht.1 ho).1;have hLi:L[i]? =dJ dM:=by simp_all
   have fE:∀m∈zBX o,L[m]? =dJ dL:=by
    intro m hm;simp only[zBX,Ji,Qx]at hm;obtain⟨e,⟨he,hb⟩,rfl⟩:=hm;have:=ft e (by grind) hb;cases hL1:L[e.on]? with
    |none=>grind
    |some b=>simp_all
   have hanc:=zH3 hf ha gA i i (Jk _) o ho fE;have b5:Xs[i]? =dJ Xs[i]:=by simp
   generalize hXe:Xs[i]=X at b5
   have bQ:∀(j:Nat)(Y:Stp),Xs[j]? =dJ Y→i<j→L[j]? =dJ dL→X.apart Y=dL:=by
    intro j Y hY eg hj;rcases zFJ Xs Xs 0 an j Y hp hY i X (by omega) b5 with h|h
    ·have hjlt:=(Jo.1 hY).1
     have aZ:ops[j]? =dJ ops[j]:=by simp
     have:=zH3 hf ha gA j j (Jk _) _ aZ (gA j _ aZ hj) i h
     grind
    ·exact h
   have mu:∀(j:Nat)(Y:Stp),Xs[j]? =dJ Y→j<i→L[j]? =dJ dM→Y.apart X=dL:=by grind[zFJ]
   have pf:∀y∈(L.take i).zip (Xs.take i),∃j:Nat,j<i∧L[j]? =dJ y.1∧Xs[j]? =dJ y.2:=by
    intro y hy;obtain⟨j,g1,g2⟩:=zKu hy;rw[Ha]at g1 g2
    grind
   have pK:∀y∈(L.drop (i+1)).zip (Xs.drop (i+1)),∃j:Nat,i<j∧L[j]? =dJ y.1∧Xs[j]? =dJ y.2:=by
    intro y hy;obtain⟨j,g1,g2⟩:=zKu hy;rw[Lm]at g1 g2
    grind
   have m9:=zJp hLi b5;have df:(runD E0 (L.zip Xs)).Has X.rd:=by
    rw[m9,zA5];simp only[runD,Hg,if_false];have h0:=sZ.get Xs E0 hh i X b5;refine h0.of fun s t gG ey=>?_
    have hsm:s∈X.rd.map (·.1):=by grind
    refine zJo _ _ (fun y hy hb=>?_) ?_
    ·obtain⟨j,g1,g2,g3⟩:=pK y hy
     have:=Stp.apart_spec (bQ j y.2 g3 g1 (by rw[g2,hb]));exact⟨by grind,by grind⟩
    ·have hmp:((L.take i).zip (Xs.take i)).map (fun y=>(dL,y.2))=(Xs.take i).map fun y=>(dL,y):=by
      have pP:(L.take i).length=(Xs.take i).length:=by simp;omega
      rw[show(fun y:Bool×Stp=>(dL,y.2))=(fun y=>(dL,y))∘Prod.snd from rfl,←Uu,List.map_snd_zip (by omega)]
     refine zJn _ E0 E0 (fun y hy hb gQ=>?_) (fun _ h=>h) t (by grind);obtain⟨j,g1,g2,g3⟩:=pf y hy;have:=Stp.apart_spec (mu j y.2 g3 g1 (by rw[g2,hb]))
     grind
   have hnext:runD E0 ((L.set i dL).zip Xs)=(runD E0 (L.zip Xs)).apps X.l:=by
    have hLs:(L.set i dL)[i]? =dJ dL:=by grind
    rw[zJp hLs b5,m9,zA5,zA5];simp only[runD,if_true,Hg,if_false,List.take_set_of_le (Jk i),List.drop_set_of_lt (Nat.lt_succ_self i)];refine zFI _ X _ fun y hy hb=>?_
    obtain⟨j,g1,g2,g3⟩:=pK y hy;exact(Stp.apart_spec (by grind)).1
   have az:=pE i o X (by grind) b5 _ df (kS.runD (L.zip Xs) E0 hI fun y hy=>K8.1 hw _ (by obtain⟨j,_,g⟩:=zKu hy;grind));unfold wpOp;simp only[ho];refine az a w _ Q' fk hs fun a' w' gQ mq=>?_
   rw[List.setIfInBounds_toArray];have gz:pn.ok o.dst=dL:=by grind
   refine ih (L.set i dL) a' w' (by simp[hL]) (by grind) ?_ (by grind) (fk.frame gz mq);intro k ok hk hkt m hm
   by_cases hki:k=i
   ·subst hki
    rw[ho]at hk;simp at hk;subst hk;rw[Ja6];split
    ·grind
    grind
   ·rw[Qs (Ne.symm hki)]at hkt
    rw[Ja6];split
    ·grind
    ·exact gA k ok hk hkt m hm
theorem CW.drawnI{ey:List Nat}{id:Nat}{E:Env}{Q:Exit→Env→Prop}(Xs:List Stp)(an:List (List Nat))(hm:P.follows .mixedOrders=dL)(gG:vH P Γ pn ey ops ops.toList Xs)(hI:kS ey E)(hw:Xs.all (wrS ey)=dL)(hh:sZ E Xs)
  (hQ:Q .normal (runD E (Xs.map fun y=>(dL,y))))(hf:zB4 0 ops.toList=dL:=by rfl)(ha:zAW an an ops.toList=dL:=by rfl)(hp:zAc Xs 0 an Xs=dL:=by rfl)
  (bC:ops.toList.all (fun o=>pn.ok o.dst)=dL:=by rfl):CW P Γ pn (.region id ops dL) E Q:=by
 intro a w Q' hs fk hQ';refine wp_region_any hm ?_;have gQ:kX Γ E a { w with drawn:=w.drawn+1 }:=by obtain⟨S,hS,e6,G,hr⟩:=hs;exact⟨S,hS,e6,G,hr.heap rfl⟩
 have:=zKy (P:=P) (Γ:=Γ) (pn:=pn) (E0:=E) (Q':=Q') hf ha hp gG hI hw hh bC (by grind) ops.size (J1 ops.size dM) a { w with drawn:=w.drawn+1 } (by simp) (by simp)
  (fun i o ho hi=>by
   grind) (by
   have:runD E ((J1 ops.size dM).zip Xs)=E:=by
    generalize ops.size=n
    clear gG hI hw hh hQ hf ha hp gQ
    induction n generalizing Xs with
    |zero=>simp[runD]
    |succ n ih=>
     cases Xs with
     |nil=>simp[runD]
     |cons X Xs=>simpa[Ju,runD]using ih Xs
   grind) fk
 grind
def DK(P:Program)(Γ:Ctx)(pn:kG)(ops:Array Oper)(id:Nat)(hs:List Nat)(E0:Env)(Q:Exit→Env→Prop)(os:List Oper)(E:Env)(acc:List Stp):Prop:=
 ∀don,don++os=ops.toList→vH P Γ pn hs ops don acc.reverse→sZ E0 acc.reverse→E=runD E0 (acc.reverse.map fun y=>(dL,y))→CW P Γ pn (.region id ops dL) E0 Q
variable {E0:Env}{acc:List Stp}
theorem CW.dk(h:DK P Γ pn ops id [] E Q ops.toList E []):CW P Γ pn (.region id ops dL) E Q:=h [] rfl trivial trivial rfl
theorem dGP(rd:List (Nat×T))(l:zDS)(gO:E.Has rd)(gG:∀E':Env,E'.Has rd→kS hs E'→zPq P Γ pn ops o E' (E'.apps l))(k:DK P Γ pn ops id hs E0 Q os (E.apps l) (⟨rd,l⟩::acc)):DK P Γ pn ops id hs E0 Q (o::os) E acc:=by
 intro don hd hso hh hE;subst hE;have hr:=fun X=>Gt (a:=X) (as:=acc)
 refine k (don++[o]) (by simp[hd]) ?_ ?_ ?_
 ·grind[vH.snoc]
 ·grind[sZ.snoc]
 ·rw[hr,Ls,zA5];rfl
theorem dGS(rd:List (Nat×T))(l:zDS)(gO:E.Has rd)(gG:∀E':Env,E'.Has rd→kS hs E'→xN P Γ ops o E' (E'.apps l))(k:DK P Γ pn ops id hs E0 Q os (E.apps l) (⟨rd,l⟩::acc)):DK P Γ pn ops id hs E0 Q (o::os) E acc:=
 dGP rd l gO (fun E' h h' a w K Q _=>gG E' h h' a w K Q) k
theorem dG(rd:List (Nat×T))(l:zDS)(gO:E.Has rd)(gG:∀E':Env,E'.Has rd→xN P Γ ops o E' (E'.apps l))(k:DK P Γ pn ops id hs E0 Q os (E.apps l) (⟨rd,l⟩::acc)):DK P Γ pn ops id hs E0 Q (o::os) E acc:=
 by grind[dGS]
def zSE(hs:List Nat)(E:Env):Bool:=hs.all fun s=>match E s with
 |some t=>zBy t
 |none=>dM
theorem zSF(h:zSE hs E=dL):kS hs E:=by
 intro s gQ;have h1:=K8.1 h s (by grind)
 grind
theorem dN(an:List (List Nat))(hm:P.follows .mixedOrders=dL)(hQ:Q .normal E)(hf:zB4 0 ops.toList=dL:=by rfl)(ha:zAW an an ops.toList=dL:=by rfl)(hp:zAc acc.reverse 0 an acc.reverse=dL:=by rfl)
  (bC:ops.toList.all (fun o=>pn.ok o.dst)=dL:=by rfl)(mZ:zSE hs E0=dL:=by rfl)(hw:acc.reverse.all (wrS hs)=dL:=by rfl):DK P Γ pn ops id hs E0 Q [] E acc:=by
 intro don hd gG hh hE
 grind[CW.drawnI,zSF]
end
end Go.Ab

namespace Go.Ab
open Go
section
variable {P:Program}{Γ:Ctx}{pn:kG}{E E':Env}{Q:Exit→Env→Prop}{ops:Array Oper}{o:Oper}{os:List Oper}{id d:Nat}{wr:Wr}{chg:Chg}{hs:List Nat}{E0:Env}{acc:List Stp}{x y:Operand}{ty:TypeId}{ps:String}{af:Array Edge}{gd:Option (Nat×Bool)}
class zGE (P:Program) (t:TypeId) (e:outParam TypeId):Prop where
 h:P.underlying t=dJ (.slice e)
class zA6 (P:Program) (t:TypeId) (b:outParam Bool) (n:outParam Nat):Prop where
 h:∀u:T,u.single=b→u.size=n→zWh P t u
theorem hE{rd:List (Nat×T)}{s:Nat}{t:T}(h:E.Has rd)(hr:vU rd s=dJ t):E s=dJ t:=h.le s t hr
theorem hO{rd:List (Nat×T)}{t:T}(h:E.Has rd)(hr:opT (vU rd) x=dJ t):opT E x=dJ t:=by
 cases x<;>simp only[opT]at hr ⊢
 ·exact h.le _ _ hr
 all_goals exact hr
mutual
def zEz:T→Bool
 |.ro _|.lit _|.any=>dL
 |.agg xs|.tup xs=>zGO xs
 |.ptr t=>zEz t
 |.sl _ []=>dL
 |_=>dM
def zGO:List T→Bool
 | []=>dL
 |x::xs=>zEz x&&zGO xs
end
mutual
theorem zFM:{t:T}→zEz t=dL→zW t
 |.ro _,_|.lit _,_|.any,_=>by simp[zW,yR]
 |.agg xs,h|.tup xs,h=>by simp only[zEz]at h;simpa only[zW,yR]using zHD h
 |.ptr t,h=>by simp only[zEz]at h;exact zS4 (zFM h)
 |.sl _ [],_=>by simp[zW,yR,xH]
 |.sl _ (_::_),h=>by simp[zEz]at h
 |.same _ _,h|.addr _ _,h|.sub _ _ _ _ _,h=>by simp[zEz]at h
theorem zHD:{xs:List T}→zGO xs=dL→yT xs
 | [],_=>trivial
 |x::xs,h=>by simp only[zGO,J2]at h;exact⟨zFM h.1,zHD h.2⟩
end
theorem yBA{α:Type}{t e:TypeId}{ti:TypeInfo}{r k:Nat}{q:List Nat}{f:α→T}{xs:List α}{v:α}{i:Int}[ht:zDT P t e ti k](hx:tW E x=dJ (r,q,.ro (L k f xs)))(hy:opT E y=dJ (I i))(hv:ixO xs i=dJ v)(sd:J4 d Γ.N=dL):
  Ok P Γ ⟨dJ d,.indexAddr t x y,ty,ps,af,gd⟩ E (E.app [(d,dJ (.ro (.ptr (f v))))] [(d,0)]):=zYw ht hv hx hy sd
theorem zPr{t:TypeId}{u:T}{b:Bool}{n:Nat}[i:zA6 P t b n](hx:opT E x=dJ (.ro (.ptr u)))(h1:u.single=b)(h2:u.size=n)(sd:J4 d Γ.N=dL):Ok P Γ ⟨dJ d,.load t x,ty,ps,af,gd⟩ E (E.app [(d,dJ (roT u))] [(d,0)]):=yBn (i.h u h1 h2) hx sd
theorem zZA{t:TypeId}{u tr:T}{r:Nat}{q:List Nat}{b:Bool}{n:Nat}[i:zA6 P t b n](hx:opT E x=dJ (.addr r q))(hr:E r=dJ tr)(hg:tr.get q.reverse=dJ u)(h1:u.single=b)(h2:u.size=n)(sd:(J4 d Γ.N&&tr.locd q.reverse&&(r != d)&&T.okB [(d,0)] (cpT r u q))=dL):
  Ok P Γ ⟨dJ d,.load t x,ty,ps,af,gd⟩ E (E.app [(d,dJ (cpT r u q))] [(d,0)]):=yD0 (i.h u h1 h2) hx hr hg sd
theorem yBB{t:TypeId}{u tr t0:T}{r:Nat}{q:List Nat}{b:Bool}{n:Nat}[i:zA6 P t b n](hx:tW E x=dJ (r,q,.ptr t0))(hr:E r=dJ tr)(hg:tr.get (0::q).reverse=dJ u)(h1:u.single=b)(h2:u.size=n)(sd:(J4 d Γ.N&&tr.locd (0::q).reverse&&(r != d)&&T.okB [(d,0)] (cpT r u (0::q)))=dL):
  Ok P Γ ⟨dJ d,.load t x,ty,ps,af,gd⟩ E (E.app [(d,dJ (cpT r u (0::q)))] [(d,0)]):=yB4 (i.h u h1 h2) hx hr hg sd
theorem yBC{α:Type}{t e:TypeId}{r k:Nat}{q:List Nat}{f:α→T}{xs:List α}[i:zGE P t e](hx:tW E x=dJ (r,q,L k f xs))(sd:J4 d Γ.N=dL):
  Ok P Γ ⟨dJ d,.call { callee:=.builtin .len,args:=#[x],argTypes:=#[t] },ty,ps,af,gd⟩ E (E.app [(d,dJ (I (xs.length:Int)))] [(d,0)]):=zYx i.h hx sd
theorem zSG{α:Type}{t e:TypeId}{r k:Nat}{q:List Nat}{f:α→T}{xs:List α}[i:zGE P t e](hx:tW E x=dJ (r,q,.ro (L k f xs)))(sd:J4 d Γ.N=dL):
  Ok P Γ ⟨dJ d,.call { callee:=.builtin .len,args:=#[x],argTypes:=#[t] },ty,ps,af,gd⟩ E (E.app [(d,dJ (I (xs.length:Int)))] [(d,0)]):=zSy i.h hx sd
theorem qA(k:RW P Γ pn ops os (E.app wr chg) Q)(h:Ok P Γ o E (E.app wr chg):=by exact zQ6 rfl rfl)(hg:o.guard=dK:=by rfl)(hp:pn.ok o.dst=dL:=by rfl):RW P Γ pn ops (o::os) E Q:=oP h k hg hp
theorem zZB{g s:Nat}{b:Bool}(k:RW P Γ pn ops os (E.app wr chg) Q)(hg:o.guard=dJ (g,b):=by rfl)(gM:(ops[g]?).bind (·.dst)=dJ s:=by rfl)(hb:E s=dJ (.lit (.bool b)):=by rfl)(h:Ok P Γ o E (E.app wr chg):=by exact zQ6 rfl rfl)(hp:pn.ok o.dst=dL:=by rfl):RW P Γ pn ops (o::os) E Q:=RW.cons (xN.guard g b s h hg gM hb) k hp
theorem zBG(k:RW P Γ pn ops os (E.app wr chg) Q)(h:Ok P Γ o E (E.app wr chg):=by exact zWg rfl rfl)(hg:o.guard=dK:=by rfl)(hp:pn.ok o.dst=dL:=by rfl):RW P Γ pn ops (o::os) E Q:=oP h k hg hp
theorem zPs(k:RW P Γ pn ops os (E.app wr chg) Q)(h:Ok P Γ o E (E.app wr chg):=by exact zPr rfl rfl rfl rfl)(hg:o.guard=dK:=by rfl)(hp:pn.ok o.dst=dL:=by rfl):RW P Γ pn ops (o::os) E Q:=oP h k hg hp
theorem zY6(k:RW P Γ pn ops os (E.app wr chg) Q)(h:Ok P Γ o E (E.app wr chg):=by exact yBA (by first|exact zET rfl rfl|exact zII rfl rfl (by first|rfl|exact yU (by assumption) rfl|exact yU (by assumption) (yU (by assumption) rfl)|exact tO rfl (yU (by assumption) rfl)|exact tN (yU (by assumption) rfl)|exact tN (tO rfl (yU (by assumption) rfl))|exact tN (tO rfl (yU (by assumption) (yU (by assumption) rfl)))) rfl) rfl (by assumption) rfl)(hg:o.guard=dK:=by rfl)(hp:pn.ok o.dst=dL:=by rfl):RW P Γ pn ops (o::os) E Q:=oP h k hg hp
theorem zKz(k:RW P Γ pn ops os (E.app wr chg) Q)(h:Ok P Γ o E (E.app wr chg):=by exact zSG (by first|exact zET rfl rfl|exact zII rfl rfl (by first|rfl|exact yU (by assumption) rfl|exact yU (by assumption) (yU (by assumption) rfl)|exact tO rfl (yU (by assumption) rfl)|exact tN (yU (by assumption) rfl)|exact tN (tO rfl (yU (by assumption) rfl))|exact tN (tO rfl (yU (by assumption) (yU (by assumption) rfl)))) rfl) rfl)(hg:o.guard=dK:=by rfl)(hp:pn.ok o.dst=dL:=by rfl):RW P Γ pn ops (o::os) E Q:=oP h k hg hp
theorem zY7(k:RW P Γ pn ops os (E.app wr chg) Q)(h:Ok P Γ o E (E.app wr chg):=by exact zSx (by assumption) rfl rfl rfl)(hg:o.guard=dK:=by rfl)(hp:pn.ok o.dst=dL:=by rfl):RW P Γ pn ops (o::os) E Q:=oP h k hg hp
theorem zLX(k:RW P Γ pn ops os (E.app wr chg) Q)(h:Ok P Γ o E (E.app wr chg):=by exact zYv rfl rfl rfl)(hg:o.guard=dK:=by rfl)(hp:pn.ok o.dst=dL:=by rfl):RW P Γ pn ops (o::os) E Q:=oP h k hg hp
theorem zK0(k:RW P Γ pn ops os (E.app wr chg) Q)(h:Ok P Γ o E (E.app wr chg):=by exact zNA rfl rfl rfl)(hg:o.guard=dK:=by rfl)(hp:pn.ok o.dst=dL:=by rfl):RW P Γ pn ops (o::os) E Q:=oP h k hg hp
theorem zY8(k:RW P Γ pn ops os (E.app wr chg) Q)(h:Ok P Γ o E (E.app wr chg):=by exact zYy (by assumption) rfl rfl rfl)(hg:o.guard=dK:=by rfl)(hp:pn.ok o.dst=dL:=by rfl):RW P Γ pn ops (o::os) E Q:=oP h k hg hp
theorem yBD{g s:Nat}{b:Bool}(k:RW P Γ pn ops os (E.app wr chg) Q)(hg:o.guard=dJ (g,b):=by rfl)(gM:(ops[g]?).bind (·.dst)=dJ s:=by rfl)(hb:E s=dJ (.lit (.bool b)):=by rfl)(h:Ok P Γ o E (E.app wr chg):=by exact zCG rfl rfl)(hp:pn.ok o.dst=dL:=by rfl):RW P Γ pn ops (o::os) E Q:=RW.cons (xN.guard g b s h hg gM hb) k hp
theorem yBE(k:RW P Γ pn ops os (E.app wr chg) Q)(h:Ok P Γ o E (E.app wr chg):=by exact zSz rfl rfl rfl)(hg:o.guard=dK:=by rfl)(hp:pn.ok o.dst=dL:=by rfl):RW P Γ pn ops (o::os) E Q:=oP h k hg hp
theorem yBF(k:RW P Γ pn ops os (E.app wr chg) Q)(h:Ok P Γ o E (E.app wr chg):=by exact zYz rfl rfl rfl)(hg:o.guard=dK:=by rfl)(hp:pn.ok o.dst=dL:=by rfl):RW P Γ pn ops (o::os) E Q:=oP h k hg hp
theorem zY9(k:RW P Γ pn ops os (E.app wr chg) Q)(h:Ok P Γ o E (E.app wr chg):=by exact zS2 inferInstance rfl rfl rfl rfl)(hg:o.guard=dK:=by rfl)(hp:pn.ok o.dst=dL:=by rfl):RW P Γ pn ops (o::os) E Q:=oP h k hg hp
theorem zSH(k:RW P Γ pn ops os (E.app wr chg) Q)(h:Ok P Γ o E (E.app wr chg):=by first|exact zBk rfl (zEU rfl) rfl|exact zBk rfl (isPtr_addr rfl) rfl|exact zBk rfl (zDD (by first|exact zET rfl rfl|exact zII rfl rfl (by first|rfl|exact yU (by assumption) rfl|exact yU (by assumption) (yU (by assumption) rfl)|exact tO rfl (yU (by assumption) rfl)|exact tN (yU (by assumption) rfl)|exact tN (tO rfl (yU (by assumption) rfl))|exact tN (tO rfl (yU (by assumption) (yU (by assumption) rfl)))) rfl)) rfl)(hg:o.guard=dK:=by rfl)(hp:pn.ok o.dst=dL:=by rfl):RW P Γ pn ops (o::os) E Q:=oP h k hg hp
theorem yBG(k:RW P Γ pn ops os (E.app wr chg) Q)(h:Ok P Γ o E (E.app wr chg):=by exact yBC (by first|exact zET rfl rfl|exact zII rfl rfl (by first|rfl|exact yU (by assumption) rfl|exact yU (by assumption) (yU (by assumption) rfl)|exact tO rfl (yU (by assumption) rfl)|exact tN (yU (by assumption) rfl)|exact tN (tO rfl (yU (by assumption) rfl))|exact tN (tO rfl (yU (by assumption) (yU (by assumption) rfl)))) rfl) rfl)(hg:o.guard=dK:=by rfl)(hp:pn.ok o.dst=dL:=by rfl):RW P Γ pn ops (o::os) E Q:=oP h k hg hp
theorem zWt(k:RW P Γ pn ops os (E.app wr chg) Q)(h:Ok P Γ o E (E.app wr chg):=by exact zPg inferInstance rfl)(hg:o.guard=dK:=by rfl)(hp:pn.ok o.dst=dL:=by rfl):RW P Γ pn ops (o::os) E Q:=oP h k hg hp
theorem zYA(k:RW P Γ pn ops os (E.app wr chg) Q)(h:Ok P Γ o E (E.app wr chg):=by exact zY0 rfl rfl rfl)(hg:o.guard=dK:=by rfl)(hp:pn.ok o.dst=dL:=by rfl):RW P Γ pn ops (o::os) E Q:=oP h k hg hp
theorem yBH(k:RW P Γ pn ops os (E.app wr chg) Q)(h:Ok P Γ o E (E.app wr chg):=by exact zY4 rfl rfl)(hg:o.guard=dK:=by rfl)(hp:pn.ok o.dst=dL:=by rfl):RW P Γ pn ops (o::os) E Q:=oP h k hg hp
theorem zBn(rd:List (Nat×T))(k:DK P Γ pn ops id hs E0 Q os (E.app wr chg) (⟨rd,[(wr,chg)]⟩::acc))(gO:E.Has rd:=by repeat (first|exact trivial|refine⟨rfl,?_⟩))(h:∀E':Env,E'.Has rd→Ok P Γ o E' (E'.app wr chg):=by intro E' h;exact zQ6 (hO h rfl) rfl)(hg:o.guard=dK:=by rfl):DK P Γ pn ops id hs E0 Q (o::os) E acc:=dG rd [(wr,chg)] gO (fun E' h'=>xN.op (h E' h') hg) k
theorem zND{g s:Nat}{b:Bool}(rd:List (Nat×T))(k:DK P Γ pn ops id hs E0 Q os (E.app wr chg) (⟨rd,[(wr,chg)]⟩::acc))(gO:E.Has rd:=by repeat (first|exact trivial|refine⟨rfl,?_⟩))(hg:o.guard=dJ (g,b):=by rfl)(gM:(ops[g]?).bind (·.dst)=dJ s:=by rfl)(hb:vU rd s=dJ (.lit (.bool b)):=by rfl)(h:∀E':Env,E'.Has rd→Ok P Γ o E' (E'.app wr chg):=by intro E' h;exact zQ6 (hO h rfl) rfl):DK P Γ pn ops id hs E0 Q (o::os) E acc:=dG rd [(wr,chg)] gO (fun E' h'=>xN.guard g b s (h E' h') hg gM (hE h' hb)) k
theorem yD9(rd:List (Nat×T))(k:DK P Γ pn ops id hs E0 Q os (E.app wr chg) (⟨rd,[(wr,chg)]⟩::acc))(gO:E.Has rd:=by repeat (first|exact trivial|refine⟨rfl,?_⟩))(h:∀E':Env,E'.Has rd→Ok P Γ o E' (E'.app wr chg):=by intro E' h;exact zWg (hO h rfl) rfl)(hg:o.guard=dK:=by rfl):DK P Γ pn ops id hs E0 Q (o::os) E acc:=dG rd [(wr,chg)] gO (fun E' h'=>xN.op (h E' h') hg) k
theorem zPt(rd:List (Nat×T))(k:DK P Γ pn ops id hs E0 Q os (E.app wr chg) (⟨rd,[(wr,chg)]⟩::acc))(gO:E.Has rd:=by repeat (first|exact trivial|refine⟨rfl,?_⟩))(h:∀E':Env,E'.Has rd→Ok P Γ o E' (E'.app wr chg):=by intro E' h;exact zPr (hO h rfl) rfl rfl rfl)(hg:o.guard=dK:=by rfl):DK P Γ pn ops id hs E0 Q (o::os) E acc:=dG rd [(wr,chg)] gO (fun E' h'=>xN.op (h E' h') hg) k
theorem zHE{g s:Nat}{b:Bool}(rd:List (Nat×T))(k:DK P Γ pn ops id hs E0 Q os (E.app wr chg) (⟨rd,[(wr,chg)]⟩::acc))(gO:E.Has rd:=by repeat (first|exact trivial|refine⟨rfl,?_⟩))(hg:o.guard=dJ (g,b):=by rfl)(gM:(ops[g]?).bind (·.dst)=dJ s:=by rfl)(hb:vU rd s=dJ (.lit (.bool b)):=by rfl)(h:∀E':Env,E'.Has rd→Ok P Γ o E' (E'.app wr chg):=by intro E' h;exact zPr (hO h rfl) rfl rfl rfl):DK P Γ pn ops id hs E0 Q (o::os) E acc:=dG rd [(wr,chg)] gO (fun E' h'=>xN.guard g b s (h E' h') hg gM (hE h' hb)) k
theorem zSI{g s:Nat}{b:Bool}(rd:List (Nat×T))(k:DK P Γ pn ops id hs E0 Q os (E.app wr chg) (⟨rd,[(wr,chg)]⟩::acc))(gO:E.Has rd:=by repeat (first|exact trivial|refine⟨rfl,?_⟩))(hg:o.guard=dJ (g,b):=by rfl)(gM:(ops[g]?).bind (·.dst)=dJ s:=by rfl)(hb:vU rd s=dJ (.lit (.bool b)):=by rfl)(h:∀E':Env,E'.Has rd→Ok P Γ o E' (E'.app wr chg):=by intro E' h;exact zSG (by first|exact zET (hE h rfl) rfl|exact zII (hE h rfl) (hE h rfl) (by first|rfl|exact yU (by assumption) rfl|exact yU (by assumption) (yU (by assumption) rfl)|exact tO rfl (yU (by assumption) rfl)|exact tN (yU (by assumption) rfl)|exact tN (tO rfl (yU (by assumption) rfl))|exact tN (tO rfl (yU (by assumption) (yU (by assumption) rfl)))) rfl) rfl):DK P Γ pn ops id hs E0 Q (o::os) E acc:=dG rd [(wr,chg)] gO (fun E' h'=>xN.guard g b s (h E' h') hg gM (hE h' hb)) k
theorem yBI(rd:List (Nat×T))(k:DK P Γ pn ops id hs E0 Q os (E.app wr chg) (⟨rd,[(wr,chg)]⟩::acc))(gO:E.Has rd:=by repeat (first|exact trivial|refine⟨rfl,?_⟩))(h:∀E':Env,E'.Has rd→Ok P Γ o E' (E'.app wr chg):=by intro E' h;exact zSx (by assumption) (hO h rfl) (hO h rfl) rfl)(hg:o.guard=dK:=by rfl):DK P Γ pn ops id hs E0 Q (o::os) E acc:=dG rd [(wr,chg)] gO (fun E' h'=>xN.op (h E' h') hg) k
theorem zAG(rd:List (Nat×T))(k:DK P Γ pn ops id hs E0 Q os (E.app wr chg) (⟨rd,[(wr,chg)]⟩::acc))(gO:E.Has rd:=by repeat (first|exact trivial|refine⟨rfl,?_⟩))(h:∀E':Env,E'.Has rd→Ok P Γ o E' (E'.app wr chg):=by intro E' h;exact zNA (hO h rfl) (hO h rfl) rfl)(hg:o.guard=dK:=by rfl):DK P Γ pn ops id hs E0 Q (o::os) E acc:=dG rd [(wr,chg)] gO (fun E' h'=>xN.op (h E' h') hg) k
theorem yBJ(rd:List (Nat×T))(k:DK P Γ pn ops id hs E0 Q os (E.app wr chg) (⟨rd,[(wr,chg)]⟩::acc))(gO:E.Has rd:=by repeat (first|exact trivial|refine⟨rfl,?_⟩))(h:∀E':Env,E'.Has rd→Ok P Γ o E' (E'.app wr chg):=by intro E' h;first|exact zZA (hO h rfl) (hE h rfl) rfl rfl rfl rfl|exact zZA (hO h rfl) (hE h rfl) (by first|rfl|exact yU (by assumption) rfl|exact yU (by assumption) (yU (by assumption) rfl)|exact tO rfl (yU (by assumption) rfl)|exact tN (yU (by assumption) rfl)|exact tN (tO rfl (yU (by assumption) rfl))|exact tN (tO rfl (yU (by assumption) (yU (by assumption) rfl)))) (by rfl) (by rfl) (by rfl))(hg:o.guard=dK:=by rfl):DK P Γ pn ops id hs E0 Q (o::os) E acc:=dG rd [(wr,chg)] gO (fun E' h'=>xN.op (h E' h') hg) k
theorem yBK(rd:List (Nat×T))(k:DK P Γ pn ops id hs E0 Q os (E.app wr chg) (⟨rd,[(wr,chg)]⟩::acc))(gO:E.Has rd:=by repeat (first|exact trivial|refine⟨rfl,?_⟩))(h:∀E':Env,E'.Has rd→Ok P Γ o E' (E'.app wr chg):=by intro E' h;exact zCG (hO h rfl) rfl)(hg:o.guard=dK:=by rfl):DK P Γ pn ops id hs E0 Q (o::os) E acc:=dG rd [(wr,chg)] gO (fun E' h'=>xN.op (h E' h') hg) k
theorem yBL{g s:Nat}{b:Bool}(rd:List (Nat×T))(k:DK P Γ pn ops id hs E0 Q os (E.app wr chg) (⟨rd,[(wr,chg)]⟩::acc))(gO:E.Has rd:=by repeat (first|exact trivial|refine⟨rfl,?_⟩))(hg:o.guard=dJ (g,b):=by rfl)(gM:(ops[g]?).bind (·.dst)=dJ s:=by rfl)(hb:vU rd s=dJ (.lit (.bool b)):=by rfl)(h:∀E':Env,E'.Has rd→Ok P Γ o E' (E'.app wr chg):=by intro E' h;exact zSz (hO h rfl) (hO h rfl) rfl):DK P Γ pn ops id hs E0 Q (o::os) E acc:=dG rd [(wr,chg)] gO (fun E' h'=>xN.guard g b s (h E' h') hg gM (hE h' hb)) k
theorem zHF{g s:Nat}{b:Bool}(rd:List (Nat×T))(k:DK P Γ pn ops id hs E0 Q os (E.app wr chg) (⟨rd,[(wr,chg)]⟩::acc))(gO:E.Has rd:=by repeat (first|exact trivial|refine⟨rfl,?_⟩))(hg:o.guard=dJ (g,b):=by rfl)(gM:(ops[g]?).bind (·.dst)=dJ s:=by rfl)(hb:vU rd s=dJ (.lit (.bool b)):=by rfl)(h:∀E':Env,E'.Has rd→Ok P Γ o E' (E'.app wr chg):=by intro E' h;exact zS2 inferInstance (hO h rfl) rfl rfl rfl):DK P Γ pn ops id hs E0 Q (o::os) E acc:=dG rd [(wr,chg)] gO (fun E' h'=>xN.guard g b s (h E' h') hg gM (hE h' hb)) k
theorem zK1(rd:List (Nat×T))(k:DK P Γ pn ops id hs E0 Q os (E.app wr chg) (⟨rd,[(wr,chg)]⟩::acc))(gO:E.Has rd:=by repeat (first|exact trivial|refine⟨rfl,?_⟩))(h:∀E':Env,E'.Has rd→Ok P Γ o E' (E'.app wr chg):=by intro E' h;first|exact zBk (hO h rfl) (zEU (hO h rfl)) rfl|exact zBk (hO h rfl) (isPtr_addr (hO h rfl)) rfl|exact zBk (hO h rfl) (zDD (by first|exact zET (hE h rfl) rfl|exact zII (hE h rfl) (hE h rfl) (by first|rfl|exact yU (by assumption) rfl|exact yU (by assumption) (yU (by assumption) rfl)|exact tO rfl (yU (by assumption) rfl)|exact tN (yU (by assumption) rfl)|exact tN (tO rfl (yU (by assumption) rfl))|exact tN (tO rfl (yU (by assumption) (yU (by assumption) rfl)))) rfl)) rfl)(hg:o.guard=dK:=by rfl):DK P Γ pn ops id hs E0 Q (o::os) E acc:=dG rd [(wr,chg)] gO (fun E' h'=>xN.op (h E' h') hg) k
theorem zE0{g s:Nat}{b:Bool}(rd:List (Nat×T))(k:DK P Γ pn ops id hs E0 Q os (E.app wr chg) (⟨rd,[(wr,chg)]⟩::acc))(gO:E.Has rd:=by repeat (first|exact trivial|refine⟨rfl,?_⟩))(hg:o.guard=dJ (g,b):=by rfl)(gM:(ops[g]?).bind (·.dst)=dJ s:=by rfl)(hb:vU rd s=dJ (.lit (.bool b)):=by rfl)(h:∀E':Env,E'.Has rd→Ok P Γ o E' (E'.app wr chg):=by intro E' h;first|exact zBk (hO h rfl) (zEU (hO h rfl)) rfl|exact zBk (hO h rfl) (isPtr_addr (hO h rfl)) rfl|exact zBk (hO h rfl) (zDD (by first|exact zET (hE h rfl) rfl|exact zII (hE h rfl) (hE h rfl) (by first|rfl|exact yU (by assumption) rfl|exact yU (by assumption) (yU (by assumption) rfl)|exact tO rfl (yU (by assumption) rfl)|exact tN (yU (by assumption) rfl)|exact tN (tO rfl (yU (by assumption) rfl))|exact tN (tO rfl (yU (by assumption) (yU (by assumption) rfl)))) rfl)) rfl):DK P Γ pn ops id hs E0 Q (o::os) E acc:=dG rd [(wr,chg)] gO (fun E' h'=>xN.guard g b s (h E' h') hg gM (hE h' hb)) k
theorem cA{f:FuncId}{xs:List Operand}{ats:Array TypeId}{us res:List T}(gp:zBl P f)(hc:FnC P f us res [])(k:RW P Γ pn ops os (E.app (cWr d res []) (vP d [])) Q)(gj:wZ E [] 0 xs us:=by repeat (first|exact trivial|refine⟨agC _ rfl (by first|rfl|exact zS0 inferInstance|exact zS1 rfl (by first|rfl|exact yU (by assumption) rfl|exact yU (by assumption) (yU (by assumption) rfl)|exact tO rfl (yU (by assumption) rfl)|exact tN (yU (by assumption) rfl)|exact tN (tO rfl (yU (by assumption) rfl))|exact tN (tO rfl (yU (by assumption) (yU (by assumption) rfl)))) inferInstance|exact cloSR rfl (by first|rfl|exact yU (by assumption) rfl|exact yU (by assumption) (yU (by assumption) rfl)|exact tO rfl (yU (by assumption) rfl)|exact tN (yU (by assumption) rfl)|exact tN (tO rfl (yU (by assumption) rfl))|exact tN (tO rfl (yU (by assumption) (yU (by assumption) rfl))))) rfl,?_⟩))(gx:zDc res:=by repeat (first|exact zIJ|refine zIK inferInstance ?_))(sd:J4 d Γ.N=dL:=by rfl)(hg:gd=dK:=by rfl)(hp:pn.ok (dJ d)=dL:=by rfl):
  RW P Γ pn ops (⟨dJ d,.call { callee:=.value (.func f),args:=xs.toArray,argTypes:=ats },ty,ps,af,gd⟩::os) E Q:=oP (zCq gp hc gj gx sd) k hg hp
theorem dC{f:FuncId}{xs:List Operand}{ats:Array TypeId}{us res:List T}(rd:List (Nat×T))(gp:zBl P f)(hc:FnC P f us res [])(k:DK P Γ pn ops id hs E0 Q os (E.app (cWr d res []) (vP d [])) (⟨rd,[(cWr d res [],vP d [])]⟩::acc))(gO:E.Has rd:=by repeat (first|exact trivial|refine⟨rfl,?_⟩))(gj:∀E':Env,E'.Has rd→wZ E' [] 0 xs us:=by intro E' h;repeat (first|exact trivial|refine⟨agC _ (hO h rfl) (by first|rfl|exact zS0 inferInstance|exact zS1 (hE h rfl) (by first|rfl|exact yU (by assumption) rfl|exact yU (by assumption) (yU (by assumption) rfl)|exact tO rfl (yU (by assumption) rfl)|exact tN (yU (by assumption) rfl)|exact tN (tO rfl (yU (by assumption) rfl))|exact tN (tO rfl (yU (by assumption) (yU (by assumption) rfl)))) inferInstance|exact cloSR (hE h rfl) (by first|rfl|exact yU (by assumption) rfl|exact yU (by assumption) (yU (by assumption) rfl)|exact tO rfl (yU (by assumption) rfl)|exact tN (yU (by assumption) rfl)|exact tN (tO rfl (yU (by assumption) rfl))|exact tN (tO rfl (yU (by assumption) (yU (by assumption) rfl))))) rfl,?_⟩))(gx:zDc res:=by repeat (first|exact zIJ|refine zIK inferInstance ?_))(sd:J4 d Γ.N=dL:=by rfl)(hg:gd=dK:=by rfl):
  DK P Γ pn ops id hs E0 Q (⟨dJ d,.call { callee:=.value (.func f),args:=xs.toArray,argTypes:=ats },ty,ps,af,gd⟩::os) E acc:=
 dG rd [(cWr d res [],vP d [])] gO (fun E' h'=>xN.op (zCq gp hc (gj E' h') gx sd) hg) k
theorem sk2{g s:Nat}{b b':Bool}(k:RW P Γ pn ops os (E.app [(d,dJ (.tup []))] [(d,0)]) Q)(hd:o.dst=dJ d:=by rfl)(hg:o.guard=dJ (g,b):=by rfl)(gM:(ops[g]?).bind (·.dst)=dJ s:=by rfl)(hb:E s=dJ (.lit (.bool b')):=by rfl)(eC:(b==b')=dM:=by rfl)(sd:J4 d Γ.N=dL:=by rfl)(hp:pn.ok o.dst=dL:=by rfl):
  RW P Γ pn ops (o::os) E Q:=RW.cons (xN.skip2 g b b' s hd sd eC hg gM hb) k hp
theorem sk3{g s:Nat}{b:Bool}(k:RW P Γ pn ops os (E.app [(d,dJ (.tup []))] [(d,0)]) Q)(hd:o.dst=dJ d:=by rfl)(hg:o.guard=dJ (g,b):=by rfl)(gM:(ops[g]?).bind (·.dst)=dJ s:=by rfl)(hb:E s=dJ (.tup []):=by rfl)(sd:J4 d Γ.N=dL:=by rfl)(hp:pn.ok o.dst=dL:=by rfl):
  RW P Γ pn ops (o::os) E Q:=RW.cons (xN.skip3 g b s hd sd hg gM hb) k hp
theorem vJ{g s:Nat}{b b':Bool}(k:DK P Γ pn ops id hs E0 Q os (E.app [(d,dJ (.tup []))] [(d,0)]) (⟨[(s,.lit (.bool b'))],[([(d,dJ (.tup []))],[(d,0)])]⟩::acc))(hd:o.dst=dJ d:=by rfl)(hg:o.guard=dJ (g,b):=by rfl)(gM:(ops[g]?).bind (·.dst)=dJ s:=by rfl)(hb:E s=dJ (.lit (.bool b')):=by rfl)(eC:(b==b')=dM:=by rfl)(sd:J4 d Γ.N=dL:=by rfl):
  DK P Γ pn ops id hs E0 Q (o::os) E acc:=dG [(s,.lit (.bool b'))] [([(d,dJ (.tup []))],[(d,0)])] ⟨hb,trivial⟩ (fun _E' h=>xN.skip2 g b b' s hd sd eC hg gM h.1) k
theorem yDA{g s:Nat}{b:Bool}(k:DK P Γ pn ops id hs E0 Q os (E.app [(d,dJ (.tup []))] [(d,0)]) (⟨[(s,.tup [])],[([(d,dJ (.tup []))],[(d,0)])]⟩::acc))(hd:o.dst=dJ d:=by rfl)(hg:o.guard=dJ (g,b):=by rfl)(gM:(ops[g]?).bind (·.dst)=dJ s:=by rfl)(hb:E s=dJ (.tup []):=by rfl)(sd:J4 d Γ.N=dL:=by rfl):
  DK P Γ pn ops id hs E0 Q (o::os) E acc:=dG [(s,.tup [])] [([(d,dJ (.tup []))],[(d,0)])] ⟨hb,trivial⟩ (fun _E' h=>xN.skip3 g b s hd sd hg gM h.1) k
theorem dNA(hm:P.follows .mixedOrders=dL)(hQ:Q .normal E)(hf:zB4 0 ops.toList=dL:=by rfl)(ha:zAW (zZ8 ops.toList) (zZ8 ops.toList) ops.toList=dL:=by rfl)(hp:zAc acc.reverse 0 (zZ8 ops.toList) acc.reverse=dL:=by rfl)
  (bC:ops.toList.all (fun o=>pn.ok o.dst)=dL:=by rfl)(mZ:zSE hs E0=dL:=by rfl)(hw:acc.reverse.all (wrS hs)=dL:=by rfl):DK P Γ pn ops id hs E0 Q [] E acc:=dN _ hm hQ hf ha hp bC mZ hw
theorem cn{c1 c2:Code}{α:Type}{b:Bool}{u v z:α}(h:cond b u v=z)(ht:b=dL→u=z→CW P Γ pn c1 E Q)(hf:b=dM→v=z→CW P Γ pn c2 E Q)(hb:opT E x=dJ (.lit (.bool b)):=by rfl):CW P Γ pn (.cond x c1 c2) E Q:=
 CW.cond b hb (fun hc=>ht hc (cT hc h)) fun hc=>hf hc (cF hc h)
theorem fB{f:FuncId}{fn:Func}{c:Code}{us res:List T}{rws:List (Nat×T)}(hf:P.funcs[f]? =dJ fn)(h:∀(St:Stb)(W:Nat→Prop)(w0:World)(v:Nat→Value),CW P ⟨St,W,w0,fn.ntmps⟩ (zCZ v (rws.map (·.1))) c (vU (zIH 0 us)) (wK ⟨St,W,w0,fn.ntmps⟩ P fn.results us res rws))(hb:fn.body=dJ c:=by rfl)(hn:us.length≤fn.ntmps:=by exact Nat.le_of_ble_eq_true rfl)
  (ht:uF us:=by repeat (first|exact trivial|refine⟨by first|exact Top.of_clean _ (Enc.clean _)|simp[Top,uF],?_⟩))(hr:rws.all (fun x=>decide (x.1<us.length))=dL:=by rfl):FnC P f us res rws:=
 FnC.of_bodyG hf hb hn ht hr (by rintro⟨St,W,w0,N⟩ v hN;subst hN;exact h St W w0 v)
def zDe:List ResultVar→Option (List Nat)
 | []=>dJ []
 |.tmp s::l=>(zDe l).map (s::·)
 |.cell _ _::_=>dK
theorem zJw:∀(rs:List ResultVar)(ss:List Nat)(res:List T),zDe rs=dJ ss→ss.map E=res.map dJ→res.all T.okTup=dL→ ∃nd:Nds,zGC P E rs nd∧nd.map (·.2.2)=res∧nd.map (·.1)=ss
 | [],ss,res,h,hE,_=>by
  simp[zDe]at h;subst h;cases res with
  |nil=>exact⟨[],trivial,rfl,rfl⟩
  |cons _ _=>simp at hE
 |.tmp s::rs,ss,res,h,hE,ht=>by
  simp only[zDe,Kk]at h;obtain⟨ss',h,rfl⟩:=h;cases res with
  |nil=>simp at hE
  |cons t res=>
   simp only[Jt,Ja0.injEq]at hE;simp only[U6,J2]at ht;obtain⟨nd,h1,h2,h3⟩:=zJw rs ss' res h hE.2 ht.2;exact⟨(s,[],t)::nd,⟨⟨rfl,rfl,hE.1,ht.1⟩,h1⟩,by simp[h2],by simp[h3]⟩
 |.cell _ _::_,_,_,h,_,_=>by simp[zDe]at h
theorem rT{rs:Array ResultVar}{us res:List T}{rws:List (Nat×T)}{e:Exit}{ss:List Nat}(hs:zDe rs.toList=dJ ss:=by rfl)(hE:ss.map E=res.map dJ:=by rfl)(ht:res.all T.okTup=dL:=by rfl)(hl:ss.all (fun s=>Un us.length s)=dL:=by rfl)(hn:zBF ss=dL:=by rfl)
  (hw:LOk E us rws:=by repeat (first|exact trivial|refine⟨⟨rfl,_,rfl⟩,?_⟩))(he:e=.ret∨e=.normal:=by first|exact .inl rfl|exact .inr rfl):wK Γ P rs us res rws e E:=by
 obtain⟨nd,h1,h2,h3⟩:=zJw (P:=P) rs.toList ss res hs hE ht;refine⟨E,zX.refl,he,nd,h1,h2,fun x hx=>?_,by rw[h3];exact zDE hn,hw⟩;have:x.1∈ss:=by rw[←h3];exact Ji.2 ⟨x,hx,rfl⟩
 exact Nat.le_of_ble_eq_true (K8.1 hl _ this)
theorem eN{σ ρ:Type}{en:σ→Env}{Q1:ρ→Exit→Env→Prop}{y:σ}{x:σ⊕ρ}(h:dJ (Sum.inl y)=dJ x)(q:zX Γ E (en y):=by exact .has (by repeat (first|exact trivial|refine⟨rfl,?_⟩))):wQ Γ en Q1 x .normal E:=by obtain rfl:=sI h;exact⟨rfl,q⟩
theorem rTg{rs:Array ResultVar}{us res:List T}{rws:List (Nat×T)}{e:Exit}(hg:zX Γ E E')(h:wK Γ P rs us res rws e E'):wK Γ P rs us res rws e E:=by obtain⟨E2,h1,h2⟩:=h;exact⟨E2,hg.trans h1,h2⟩
theorem eX{σ ρ:Type}{en:σ→Env}{Q1:ρ→Exit→Env→Prop}{y:ρ}{x:σ⊕ρ}{e:Exit}(h:dJ (Sum.inr y)=dJ x)(q:Q1 y e E:=by first|exact⟨rfl,.has (by repeat (first|exact trivial|refine⟨rfl,?_⟩))⟩|exact⟨rfl,rT⟩)(gg:e≠.normal:=by first|exact neX|exact neR):wQ Γ en Q1 x e E:=by obtain rfl:=sI h;exact⟨gg,q⟩
end
end Go.Ab

namespace Go.Ab
open Go
section
variable {Γ:Ctx}{E:Env}
theorem zX.frzG(s:Nat)(t:T){t':T}(hs:E s=dJ t)(h:vQ t=t'):zX Γ E (E.app [(s,dJ t')] [(s,1)]):=h▸zX.freeze s t hs
theorem fzO{α:Type}{k:Nat}{f g:α→T}{xs:List α}(h:uX f g):vQ (L k f xs)=.ro (L k g xs):=by simp only[vQ,strip,tG h.h xs]
theorem fzA{xs ys:List T}(h:uO xs=ys):vQ (.agg xs)=.agg ys:=by grind[vQ]
theorem fzC{x y:T}{xs ys:List T}(h:vQ x=y)(h2:uO xs=ys):uO (x::xs)=y::ys:=by grind[uO]
end
end Go.Ab
namespace Go.Ab
open Go
end Go.Ab

namespace Go.Ab
open Go
section
variable {P:Program}{Γ:Ctx}{pn:kG}{E E' E0:Env}{Q:Exit→Env→Prop}{ops:Array Oper}{o:Oper}{os:List Oper}{id d:Nat}{hs:List Nat}{acc:List Stp}{x y:Operand}{ty:TypeId}{ps:String}{af:Array Edge}{gd:Option (Nat×Bool)}
def zGy{α:Type}(xs:List α)(j i:Int)(a b:α):List α:=(xs.set j.toNat a).set i.toNat b
end
end Go.Ab

namespace Go.Ab
open Go Go.ChangeShapes
section
variable {P:Program}
theorem yBM{α:Type}{f:α→T}{V:α→Prop}{t e:TypeId}{k:Nat}(hu:P.underlying t=dJ (.slice e))(hk:P.cellsOf e=k)(eA:0<k)(h:RdT P e k f V):RdA P t (fun xs=>T.ro (L k f xs)) (fun xs=>xs.length≤maxLen∧ ∀x∈xs,V x):=
 zWs (fun _=>⟨rfl,fun _ _=>rfl⟩) (yD8 hu hk eA h) fun{w base v} gz=>by cases v<;>first|rfl|(simp[Value.okWide,Cell.okWide,Cell.ok,hu]at gz)
end
end Go.Ab

namespace Go.Ab
open Go
end Go.Ab

namespace Go.Ab
open Go
section
variable {St Sc:Stb}{G:Gh}{w:World}{s:Nat} (gm:∀s p,(G.hd s p).oneCell'=dL) (ei:∀b x,St b=dJ x→Sc b=dJ x) (ej:∀b y,y≠[]→G.ow b=dJ (s,y)→Sc b=w.heap[b]?)
 include gm ei ej
mutual
theorem frzI:(t:T)→ ∀(p:List Nat)(b o:Nat)(cs:Array Value)(e:TypeId)(fr:Nat×Nat),p≠[]→w.heap[b]? =dJ (.cells cs e fr)→Loc G w s t p b o→R St G w s t p→RoC Sc (strip t) cs o
 |.agg xs,p,b,o,cs,e,fr,hp,hb,hl,hr=>by simp only[Loc,R,strip,RoC]at hl hr ⊢;exact zYB xs p 0 b o cs e fr hb hl.2 hr
 |.tup _,_,_,_,_,_,_,_,_,hl,_=>by have _:=ej;simp only[Loc]at hl
 |.any,p,b,o,cs,e,fr,hp,hb,hl,hr|.same _ _,p,b,o,cs,e,fr,hp,hb,hl,hr|.addr _ _,p,b,o,cs,e,fr,hp,hb,hl,hr|.sub _ _ _ _ _,p,b,o,cs,e,fr,hp,hb,hl,hr=>by have h1:=(wT rfl hl).2.2;simp only[yL,World.cell?,hb]at h1;simp only[strip,RoC];exact⟨_,by simpa using h1,gm s p⟩
 |.lit v,p,b,o,cs,e,fr,hp,hb,hl,hr=>by
  have h1:=(wT rfl hl).2.2;simp only[yL,World.cell?,hb]at h1;simp only[strip,RoC,R]at hr ⊢
  exact⟨by rw[←hr];simpa using h1,by rw[←hr];exact gm s p⟩
 |.ro u,p,b,o,cs,e,fr,hp,hb,hl,hr=>by
  have h1:=(wT rfl hl).2.2;simp only[yL,World.cell?,hb]at h1;simp only[strip,R]at hr ⊢
  split
  ·rename_i hu
   exact kE hu (tF ei u _ _ hr) (by simpa using h1)
  ·simp only[RoC];exact⟨_,by simpa using h1,gm s p⟩
 |.sl k xs,p,b,o,cs,e,fr,hp,hb,hl,hr=>by have h1:=(wT rfl hl).2.2;simp only[yL,World.cell?,hb]at h1;exact kE rfl (zPu (.sl k xs) p hp rfl hr) (by simpa using h1)
 |.ptr t,p,b,o,cs,e,fr,hp,hb,hl,hr=>by have h1:=(wT rfl hl).2.2;simp only[yL,World.cell?,hb]at h1;exact kE rfl (zPu (.ptr t) p hp rfl hr) (by simpa using h1)
theorem zYB:(xs:List T)→ ∀(p:List Nat)(j b o:Nat)(cs:Array Value)(e:TypeId)(fr:Nat×Nat),w.heap[b]? =dJ (.cells cs e fr)→vB G w s xs p j b o→RF St G w s xs p j→RoF Sc (wG xs) cs o
 | [],_,_,_,_,_,_,_,_,_,_=>by have _:=gm;have _:=ei;have _:=ej;simp only[wG,RoF]
 |x::xs,p,j,b,o,cs,e,fr,hb,hl,hr=>by
  simp only[vB,RF,wG,RoF]at hl hr ⊢
  exact⟨frzI x _ b o cs e fr (by simp) hb hl.1 hr.1,by rw[zEw];exact zYB xs p (j+1) b _ cs e fr hb hl.2 hr.2⟩
theorem zYC:(xs:List T)→ ∀(p:List Nat)(i b o k:Nat)(cs:Array Value)(e:TypeId)(fr:Nat×Nat),w.heap[b]? =dJ (.cells cs e fr)→RL St G w s xs p i b o k→RoL Sc (wG xs) cs o k
 | [],_,_,_,_,_,_,_,_,_,_=>by have _:=gm;have _:=ei;have _:=ej;simp only[wG,RoL]
 |x::xs,p,i,b,o,k,cs,e,fr,hb,hr=>by
  simp only[RL,wG,RoL]at hr ⊢
  exact⟨frzI x _ b o cs e fr (by simp) hb hr.1.1 hr.2.1,zYC xs p (i+1) b _ k cs e fr hb hr.2.2⟩
theorem zPu:(t:T)→ ∀(p:List Nat),p≠[]→t.single=dL→R St G w s t p→RoC Sc (strip t) #[G.hd s p] 0
 |.agg _,_,_,h,_|.tup _,_,_,h,_=>by simp[T.single]at h
 |.any,p,_,_,_|.same _ _,p,_,_,_|.addr _ _,p,_,_,_|.sub _ _ _ _ _,p,_,_,_=>by simp only[strip,RoC];exact⟨_,by simp,gm s p⟩
 |.lit v,p,_,_,hr=>by simp only[strip,RoC,R]at hr ⊢;exact⟨by simp[hr],by rw[←hr];exact gm s p⟩
 |.ro u,p,_,_,hr=>by
  simp only[strip,R]at hr ⊢
  split
  ·exact tF ei u _ _ hr
  ·simp only[RoC];exact⟨_,by simp,gm s p⟩
 |.sl k xs,p,hp,_,hr=>by
  simp only[strip,R,RoC]at hr ⊢
  rw[zAx];rcases hr with⟨rfl,a,h1⟩|⟨b,o0,cap,cs,e,h1,h2,h3,h4,h5,h6,h7,h8⟩
  ·exact⟨a,0,by simp[h1],by simp,by simp[maxLen],fun h=>by simp[wG]at h⟩
  ·exact⟨dJ ⟨b,o0,dK⟩,cap,by simp[h1],h3,h4,fun _=>⟨b,o0,cs,e,(0,0),rfl,by rw[ej b _ hp h6];exact h2,zYC xs p 0 b o0 k cs e (0,0) h2 h8⟩⟩
 |.ptr t,p,hp,_,hr=>by
  simp only[strip,R,RoC]at hr ⊢
  obtain⟨b,cs,e,h1,h2,h3,h6,h4,h5⟩:=hr;exact⟨b,0,cs,e,(0,0),by simp[h1],by rw[ej b _ hp h6];exact h2,frzI t _ b 0 cs e (0,0) (by simp) h2 h4 h5⟩
end
variable {G':Gh} (gI:∀s z,G'.hd s z=G.hd s z) (eW:∀s z,G'.ad s z=G.ad s z)
 include gI eW
mutual
theorem zSJ:(t:T)→ ∀(p:List Nat),p≠[]→R St G w s t p→R Sc G' w s (vQ t) p
 |.agg xs,p,_,hr|.tup xs,p,_,hr=>by simp only[vQ,R]at hr ⊢;exact zPv xs p 0 hr
 |.sl k xs,p,hp,hr=>by have:=zPu gm ei ej (.sl k xs) p hp rfl hr;simp only[vQ,R,gI];exact this
 |.ptr t,p,hp,hr=>by have:=zPu gm ei ej (.ptr t) p hp rfl hr;simp only[vQ,R,gI];exact this
 |.ro u,p,_,hr=>by simp only[vQ,R,gI]at hr ⊢;exact tF ei u _ _ hr
 |.any,_,_,_=>by simp only[vQ,R]
 |.lit _,_,_,hr|.same _ _,_,_,hr|.sub _ _ _ _ _,_,_,hr=>by simp only[vQ,R,gI]at hr ⊢;exact hr
 |.addr _ _,_,_,hr=>by simp only[vQ,R,gI,eW]at hr ⊢;exact hr
theorem zPv:(xs:List T)→ ∀(p:List Nat)(j:Nat),RF St G w s xs p j→RF Sc G' w s (uO xs) p j
 | [],_,_,_=>by have _:=gm;have _:=ei;have _:=ej;have _:=gI;have _:=eW;simp only[uO,RF]
 |x::xs,p,j,hr=>by simp only[uO,RF]at hr ⊢;exact⟨zSJ x _ (by simp) hr.1,zPv xs p (j+1) hr.2⟩
end
end
mutual
theorem zFN:(t:T)→(vQ t).size=t.size
 |.agg xs=>by simp only[vQ,T.size];exact zHG xs
 |.tup xs=>by simp only[vQ,T.size]
 |.sl _ _|.ptr _|.any|.lit _|.ro _|.same _ _|.addr _ _|.sub _ _ _ _ _=>by simp only[vQ,T.size]
theorem zHG:(xs:List T)→T.sizes (uO xs)=T.sizes xs
 | []=>rfl
 |x::xs=>by simp only[uO,T.sizes,zFN x,zHG xs]
end
section
variable {G G':Gh}{w:World}{s:Nat} (gI:∀s z,G'.hd s z=G.hd s z) (eW:∀s z,G'.ad s z=G.ad s z)
 include gI eW
mutual
theorem zPw:(t:T)→ ∀(p:List Nat)(b o:Nat),(∀o,G'.lb b o=G.lb b o)→Loc G w s t p b o→Loc G' w s (vQ t) p b o
 |.agg xs,p,b,o,hb,h=>by simp only[vQ,Loc,eW]at h ⊢;exact⟨h.1,zLY xs p 0 b o hb h.2⟩
 |.tup _,_,_,_,_,h=>by simp only[Loc]at h
 |.sl _ _,p,b,o,hb,h|.ptr _,p,b,o,hb,h|.any,p,b,o,hb,h|.lit _,p,b,o,hb,h|.ro _,p,b,o,hb,h|.same _ _,p,b,o,hb,h|.addr _ _,p,b,o,hb,h|.sub _ _ _ _ _,p,b,o,hb,h=>by simp only[vQ,Loc,eW,gI,hb]at h ⊢;exact h
theorem zLY:(xs:List T)→ ∀(p:List Nat)(j b o:Nat),(∀o,G'.lb b o=G.lb b o)→vB G w s xs p j b o→vB G' w s (uO xs) p j b o
 | [],_,_,_,_,_,_=>by have _:=gI;have _:=eW;simp only[uO,vB]
 |x::xs,p,j,b,o,hb,h=>by simp only[uO,vB,zFN]at h ⊢;exact⟨zPw x _ b o hb h.1,zLY xs p (j+1) b _ hb h.2⟩
end
end
section
variable {φ:Nat→List Nat→Prop}
mutual
theorem zJx:(t:T)→yR φ t→yR φ (vQ t)
 |.agg xs,h|.tup xs,h=>by simp only[vQ,yR]at h ⊢;exact zHH xs h
 |.same _ _,h|.addr _ _,h|.sub _ _ _ _ _,h=>by simp only[vQ,yR]at h ⊢;exact h
 |.sl _ _,_|.ptr _,_|.any,_|.lit _,_|.ro _,_=>by simp only[vQ,yR]
theorem zHH:(xs:List T)→xH φ xs→xH φ (uO xs)
 | [],_=>by simp only[uO,xH]
 |x::xs,h=>by simp only[uO,xH]at h ⊢;exact⟨zJx x h.1,zHH xs h.2⟩
end
end
theorem zX.freezeIn{Γ:Ctx}{E:Env}(n:Nat)(s:Nat)(t:T)(hs:E s=dJ (.ptr t)):zX Γ E (E.app [(s,dJ (.ptr (vQ t)))] [(s,n)]):=by
 classical
 rintro a w ⟨S,hS,e6,G,g9⟩
 have hm:=g9.mem
 let own:Nat→Prop:=fun b=> ∃y,y≠[]∧G.ow b=dJ (s,y)
 let Sc:Stb:=fun b=>if own b then w.heap[b]? else S b
 let G':Gh:={ hd:=G.hd,ad:=G.ad,lb:=fun b o=>if own b then dK else G.lb b o,ow:=fun b=>if own b then dK else G.ow b }
 have fd:∀b x,S b=dJ x→Sc b=dJ x:=fun b x hx=>by
  have:¬own b:=by
   rintro⟨y,_,hy⟩
   have:=(hm.ow b _ hy).2.2;rw[show S b=dK from this]at hx;cases hx
  simp only[Sc,this,if_false];exact hx
 have bT:zDR S Sc Γ.W Γ.w0.heap.size:=⟨fd,fun b hb eE=>by
  by_cases h:own b
  ·obtain⟨y,_,hy⟩:=h
   exact(hm.ow b _ hy).2.1
  ·simp only[Sc,h,if_false]at eE
   exact absurd hb eE⟩
 have gn:Mem ((Γ.at S).at Sc) G' w:=by
  refine⟨hm.one,fun b o l hl=>?_,fun b l hl=>?_,fun b x hx=>?_,hm.fr,hm.sz,hm.bk⟩
  ·by_cases h:own b
   ·simp only[G',h,if_true]at hl;cases hl
   ·simp only[G',h,if_false]at hl
    have:=hm.lb b o l hl;exact⟨this.1,this.2.1,by simp only[Sc,h,if_false];exact this.2.2⟩
  ·by_cases h:own b
   ·simp only[G',h,if_true]at hl;cases hl
   ·simp only[G',h,if_false]at hl
    have:=hm.ow b l hl;exact⟨this.1,this.2.1,by simp only[Sc,h,if_false];exact this.2.2⟩
  ·by_cases h:own b
   ·simp only[Sc,h,if_true]at hx;exact hx
   ·simp only[Sc,h,if_false]at hx;exact hm.st b x hx
 have gu:kR [(s,n)] G w G' w:=by
  have d6:∀b s0 y,G.ow b=dJ (s0,y)→(∀m,(s0,m)∉([(s,n)]:Chg))→ ¬own b:=by
   rintro b s0 y h1 h2 ⟨y',_,h3⟩
   rw[h1]at h3;simp at h3;exact h2 n (by simp[h3.1])
  refine⟨fun _ _ _=>rfl,fun _ _ _=>rfl,fun b o f s0 p ⟨y,hy⟩ h1 h2=>?_,fun b s0 p h1 h2=>?_,fun b cs e h=>⟨cs,h,rfl⟩⟩
  ·have:=d6 b s0 y hy h2
   refine⟨?_,rfl⟩;simp only[G',this,if_false];exact h1
  ·have:=d6 b s0 p h1 h2
   simp only[G',this,if_false];exact h1
 obtain⟨e1,e2,e3⟩:=g9.ent s _ hs;refine⟨Sc,hS.trans bT,e6,G',g9.up fd rfl gu gn (fun s0 h0=>⟨fun n hn=>?_,rfl⟩) (fun s0 t0 h0=>?_)⟩
 ·rw[tV]at h0
  simp at hn;simp[hn.1]at h0
 ·rw[tV]at h0
  split at h0
  ·rename_i he;subst he
   simp at h0;subst h0;refine⟨?_,?_,?_⟩
   ·rw[e1]
    simp only[mkV];rfl
   ·simp only[R]at e2 ⊢
    obtain⟨b,cs,e,h1,h2,h3,h6,h4,h5⟩:=e2;have hnb:¬own b:=by
     rintro⟨y,hy,h⟩
     rw[h6]at h;simp at h;exact hy h
    refine⟨b,cs,e,h1,h2,by rw[zFN];exact h3,by simp only[G',hnb,if_false];exact h6,zPw (G:=G) (G':=G') (fun _ _=>rfl) (fun _ _=>rfl) t [0] b 0 (fun o=>by simp only[G',hnb,if_false]) h4,?_⟩;exact zSJ (G':=G') hm.one fd (fun b y hy hb=>by simp only[Sc];rw[if_pos ⟨y,hy,hb⟩]) (fun _ _=>rfl) (fun _ _=>rfl) t [0] (by simp) h5
   ·simp only[Top]at e3 ⊢
    exact zJx t e3
  ·cases h0
theorem zX.frzI(n s:Nat){Γ:Ctx}{E:Env}(t:T){t':T}(hs:E s=dJ (.ptr t))(h:vQ t=t'):zX Γ E (E.app [(s,dJ (.ptr t'))] [(s,n)]):=h▸zX.freezeIn n s t hs
theorem zX.resf{Γ:Ctx}{E:Env}(d:Nat)(g:List Nat)(r:Nat)(q:List Nat)(td tr:T){u td':T}(hd:E d=dJ td)(pm:td.get g.reverse=dJ (.same r q))(hr:E r=dJ tr)(hg:tr.get q.reverse=dJ (.ro u))(gv:td.set g.reverse (.ro u)=td')
  (sd:(wJ td&&td.okB [])=dL):zX Γ E (E.app [(d,dJ td')] [(d,g.length+1)]):=by
 simp only[J2]at sd;subst gv
 rintro a w ⟨S,hS,e6,G,g9⟩
 refine⟨S,hS,e6,G,?_⟩;have eA:kR [] G w G w:=⟨fun _ _ _=>rfl,fun _ _ _=>rfl,fun _ _ _ _ _ _ h _=>⟨h,rfl⟩,fun _ _ _ h _=>h,fun b cs e h=>⟨cs,h,rfl⟩⟩;have hk:kR [(d,g.length+1)] G w G w:=⟨fun _ _ _=>rfl,fun _ _ _=>rfl,fun _ _ _ _ _ _ h _=>⟨h,rfl⟩,fun _ _ _ h _=>h,fun b cs e h=>⟨cs,h,rfl⟩⟩;obtain⟨d1,d2,d3⟩:=g9.ent d _ hd;obtain⟨_,r2,_⟩:=g9.ent r _ hr;have fV:rp g.reverse []=g:=by simp[rp]
 have h4:=(zB1 q.reverse tr _ [] r2 hg).1;have h5:=(zB1 g.reverse td _ [] d2 pm).1;simp only[rp,K5,Jb,R]at h4 h5;refine vV g9 rfl hk g9.mem (fun s hs=>⟨fun n hn=>?_,rfl⟩) fun s t hs=>?_
 ·simp only[Wr.find]at hs
  split at hs
  ·cases hs
  ·rename_i h1
   simp at hn;exact h1 hn.1.symm
 ·simp only[Wr.find]at hs
  split at hs
  ·rename_i e;subst e
   simp at hs;subst hs;refine⟨?_,?_,zEN _ _ _ d3 (by simp[zW,yR])⟩
   ·rw[d1,zKj (G':=G) (G:=G) g.reverse td (.ro u) _ [] pm rfl rfl (fun _ _=>rfl) sd.1]
   ·refine zGo g.reverse td (.ro u) _ [] ⟨fun _ _=>rfl,fun _ _=>rfl,fun _ _ _ _ h _=>⟨h,rfl⟩,fun _ _ h _=>h,fun b cs e h=>⟨cs,h,rfl⟩⟩ d2 pm rfl (eA.keepR (zAT td d3 sd.2)) ?_ ?_
    ·rw[fV]
     intro b o h;simpa only[Loc]using h
    ·rw[fV]
     simp only[R];rw[h5];exact h4
  ·cases hs
end Go.Ab

namespace Go.Ab
open Go
end Go.Ab
