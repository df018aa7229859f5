/- The program's EquivalenceMap returns what the reference's returns,for all arguments;no conditions. -/
import Derived.Test.YtijcbaigdbgofaaGreatAbA
import Derived.Laws.CopyRow
import Derived.ProofKit
open List renaming replicate→J1,getElem?_eq_getElem→J4,length_append→Ja,append_nil→Jg,mem_map→Jh,getElem?_eq_some_iff→Jk,range→Jl,map_cons→Jm,mem_cons→Jn,getElem?_map→Jp,length_map→Jt,all_eq_true→Jw,take_zero→Jz,nil_append→K1,length_cons→K4,mem_iff_getElem→K5,reverse_reverse→Ke,replicate_succ→Km,eq_nil_of_length_eq_zero→Kn,nodup_cons→Kv,mem_append→L5,singleton_append→L9,take_succ_cons→La,mem_of_getElem?→Le,cons_append→Lg,flatMap_cons→Lp,map_append→Ls,contains_eq_mem→Lu,getElem?_drop→H0,length_nil→Ha,drop_zero→Ga,getElem?_cons_succ→Gu,map_nil→Ub,range'→Un,map_map→Uo,length_range→Up,getElem?_set_self→Uz,mem_iff_getElem?→Q3,mem_cons_of_mem→Qq,map_take→Qr,getLast?_append→Qs,dropLast_concat→Qt,cons→Ja1,all_cons→Jak,mem_filter→Jam,size_toArray→Jao,map_drop→Jap,getElem?_set→Jaq,range'_succ→Jb2,getElem?_take→Jbx,reverse_cons→Jc4,getD→Jc5,map_set→Jcc
open Bool renaming and_eq_true→J2,not_true→J9,and_self→Kj,false_eq_true→H7,not_eq_true'→G6
open Nat renaming blt→J5,zero_add→J8,lt_or_ge→Jd,le_refl→Jf,zero_le→Jy,le_trans→Lt,mul_le_mul_right→H1,sub_zero→Gb,mul_one→Gs,add_zero→Gt,ble→Jae,beq→Jaf
open Array renaming getElem?_setIfInBounds→Jc,getD_eq_getD_getElem?→K8,length_toList→Kh,getElem?_toList→Kl,getElem?_eq_some_iff→Kr,getElem?_setIfInBounds_ne→H8,replicate→Uh,getElem?_append→Q0
open Int renaming emod_eq_of_lt→Jv,add_emod_right→Ge
open Option renaming map_eq_some_iff→Kq,some→Hf,map_some→Hg,getD_some→Jad
open Prod renaming mk→Qv
open Option renaming some→dJ,none→dK
open Bool renaming true→dL,false→dM
namespace Go.Ab
open Go
abbrev Rw:=List (Nat×Nat×T)
def rwI(rw:Rw)(s:Nat):Option Nat:=(rw.find? fun x=>x.2.1==s).map (·.1)
def rwS(rw:Rw)(i:Nat):Option Nat:=(rw.find? fun x=>x.1==i).map (·.2.1)
theorem zB9:(rw:Rw)→(rw.map (·.2.1)).Nodup→ ∀{i s:Nat}{u:T},(i,s,u)∈rw→rwI rw s=dJ i
 | [],_,_,_,_,h=>by simp at h
 |(i0,s0,u0)::rw,hn,i,s,u,h=>by
  simp only[Jm,Kv,Jh]at hn;rcases Jn.1 h with h|h
  ·simp at h;obtain⟨rfl,rfl,rfl⟩:=h;simp[rwI]
  ·have gf:s0≠s:=by grind
   have:=zB9 rw hn.2 h
   grind[rwI]
theorem zJF:(rw:Rw)→(rw.map (·.1)).Nodup→ ∀{i s:Nat}{u:T},(i,s,u)∈rw→rwS rw i=dJ s
 | [],_,_,_,_,h=>by simp at h
 |(i0,s0,u0)::rw,hn,i,s,u,h=>by
  simp only[Jm,Kv,Jh]at hn;rcases Jn.1 h with h|h
  ·simp at h;obtain⟨rfl,rfl,rfl⟩:=h;simp[rwS]
  ·have gf:i0≠i:=by grind
   have:=zJF rw hn.2 h
   grind[rwS]
theorem zJG{rw:Rw}{s:Nat}(h:s∉rw.map (·.2.1)):rwI rw s=dK:=by
 simp only[rwI,Option.map_eq_none_iff,List.find?_eq_none]
 grind
theorem zPH{rw:Rw}{i:Nat}(h:∀x∈rw,x.1≠i):rwS rw i=dK:=by grind[rwS]
theorem zNg{rw:Rw}{s i:Nat}(h:rwI rw s=dJ i):s∈rw.map (·.2.1):=by grind[rwI,Kq]
abbrev Nd:=List (Nat×List Nat×T)
def zPI(nd:Nd)(k s:Nat):Option (Nat×List Nat):=
 match nd with
 | []=>dK
 |x::r=>if x.1=s then dJ (k,x.2.1)else zPI r (k+1) s
def ndB(d:Nat)(nd:Nd)(s:Nat)(z:List Nat):Option (Nat×List Nat):=
 match nd with
 | [x]=>if x.1=s∧x.2.1<:+z then dJ (d,z.take (z.length-x.2.1.length))else dK
 |nd=>match zPI nd 0 s with
  |some (k,q)=>if q<:+z then dJ (d,z.take (z.length-q.length)++[k])else dK
  |none=>dK
theorem zH6:(nd:Nd)→(nd.map (·.1)).Nodup→ ∀{k k0:Nat}{x:Nat×List Nat×T},nd[k]? =dJ x→zPI nd k0 x.1=dJ (k0+k,x.2.1)
 | [],_,_,_,_,h=>by simp at h
 |y::nd,hn,k,k0,x,h=>by
  simp only[Jm,Kv,Jh]at hn;cases k with
  |zero=>grind[zPI]
  |succ k=>
   simp only[Gu]at h;have gf:y.1≠x.1:=by grind
   simp only[zPI,gf,if_false];rw[zH6 nd hn.2 h]
   grind
def zPJ(G:Gh)(nd:Nd)(z:List Nat):Value:=
 match nd with
 | [x]=>G.hd x.1 (z++x.2.1)
 |nd=>match z.getLast? with
  |some k=>(match nd[k]? with
   |some x=>G.hd x.1 (z.dropLast++x.2.1)
   |none=>.bool dM)
  |none=>.bool dM
def zTb(G:Gh)(nd:Nd)(z:List Nat):Addr:=
 match nd with
 | [x]=>G.ad x.1 (z++x.2.1)
 |nd=>match z.getLast? with
  |some k=>(match nd[k]? with
   |some x=>G.ad x.1 (z.dropLast++x.2.1)
   |none=>default)
  |none=>default
def Gh.arg(G:Gh)(a:Act)(xs:List Operand)(rw:Rw):Gh where
 hd i z:=match xs[i]? with
  |some (.tmp s)=>G.hd s z
  |some x=>jM (a.eval x)
  |none=>.bool dM
 ad i z:=match xs[i]? with
  |some (.tmp s)=>G.ad s z
  |_=>default
 lb b o:=match G.lb b o with
  |some (f,s,z)=>(match rwI rw s,G.ow b with
   |some i,dJ (s',_)=>if s'=s then dJ (f,i,z)else dK
   |_,_=>dK)
  |none=>dK
 ow b:=match G.ow b with
  |some (s,z)=>(match rwI rw s with
   |some i=>dJ (i,z)
   |none=>dK)
  |none=>dK
def zAh(G:Gh)(rw:Rw)(b:Nat):Prop:=∃s z,G.ow b=dJ (s,z)∧s∈rw.map (·.2.1)
def zC6(d:Nat)(rw:Rw)(nd:Nd)(s:Nat)(z:List Nat):Option (Nat×List Nat):=
 match rwS rw s with
 |some s'=>dJ (s',z)
 |none=>ndB d nd s z
open Classical in
noncomputable def Gh.back (G G':Gh) (n0 d:Nat) (rw:Rw) (nd:Nd):Gh where
 hd s z:=if s=d then zPJ G' nd z else match rwI rw s with
  |some i=>G'.hd i z
  |none=>G.hd s z
 ad s z:=if s=d then zTb G' nd z else match rwI rw s with
  |some i=>if z=[]then G.ad s z else G'.ad i z
  |none=>G.ad s z
 lb b o:=if zAh G rw b∨n0≤b then(match G'.lb b o with
  |some (f,s,z)=>(match zC6 d rw nd s z with
   |some (s',z')=>dJ (f,s',z')
   |none=>dK)
  |none=>dK)else G.lb b o
 ow b:=if zAh G rw b∨n0≤b then(match G'.ow b with
  |some (s,z)=>zC6 d rw nd s z
  |none=>dK)else G.ow b
def zL4(res:List T):T:=match res with
 | [u]=>u
 |us=>.tup us
def cWr(d:Nat)(res:List T)(rw:Rw):Wr:=(d,dJ (zL4 res))::rw.map fun x=>(x.2.1,dJ x.2.2)
def cLv(t:T):Nat:=if t.single then 1 else 0
def uE(d:Nat)(rw:Rw):Chg:=(d,0)::rw.map fun x=>(x.2.1,cLv x.2.2)
theorem zFO{d:Nat}{rw:Rw}{x:Nat×Nat×T}(h:x∈rw):(x.2.1,cLv x.2.2)∈uE d rw:=Qq _ (by grind)
theorem zNh{Gn G':Gh}{d:Nat}:(nd:Nd)→ ∀(j:Nat),(∀k x,nd[k]? =dJ x→ ∀z,Gn.hd d (z++[j+k])=G'.hd x.1 (z++x.2.1))→qL Gn d (nd.map (·.2.2)) [] j=nd.map fun x=>tP G' x.1 x.2.2 x.2.1
 | [],_,_=>by simp[qL]
 |x::nd,j,h=>by
  have ih:=zNh (Gn:=Gn) (G':=G') (d:=d) nd (j+1) (fun k y hy z=>by rw[show j+1+k=j+(k+1)from by omega];exact h (k+1) y (by grind) z)
  simp only[Jm,qL,ih];rw[zAW x.2.2 x.2.1 [j] (by simpa using h 0 x (by simp))]
theorem zPK{d:Nat}{res:List T}{rw:Rw}{s:Nat}{x:Option T}(h:(cWr d res rw).find s=dJ x):(s=d∧x=dJ (zL4 res))∨(s≠d∧ ∃i u,(i,s,u)∈rw∧x=dJ u):=by
 simp only[cWr,Wr.find]at h;split at h
 ·grind
 ·rename_i gf
  refine .inr ⟨fun e=>gf e.symm,?_⟩
  clear gf
  induction rw with
  |nil=>grind[Wr.find]
  |cons y rw ih=>
   grind[Wr.find]
theorem zPL{d:Nat}{res:List T}{rw:Rw}{s:Nat}(h:(cWr d res rw).find s=dK):s≠d∧s∉rw.map (·.2.1):=by
 simp only[cWr,Wr.find]at h;split at h
 ·cases h
 ·rename_i gf
  refine⟨fun e=>gf e.symm,?_⟩
  clear gf
  induction rw with
  |nil=>simp
  |cons y rw ih=>
   simp only[Jm,Wr.find]at h
   grind
def aft(S Sc S':Stb):Stb:=fun b=>match Sc b with
 |none=>S' b
 |some _=>S b
theorem Rep.up{Γ:Ctx}{E:Env}{G:Gh}{tmps tmps':Array Value}{w w':World}{G':Gh}{wr:Wr}{chg:Chg}{S:Stb}(h:Rep Γ E G tmps w)(hS:∀b x,Γ.St b=dJ x→S b=dJ x)
  (gN:tmps'.size=tmps.size)(hk:qC chg G w G' w')(gw:Mem (Γ.at S) G' w')
  (gG:∀s,wr.find s=dK→(∀n,(s,n)∉chg)∧tmps'[s]? =tmps[s]?)
  (ep:∀s t,wr.find s=dJ (dJ t)→Ent (Γ.at S) G' w' tmps'[s]? s t):Rep (Γ.at S) (E.app wr chg) G' tmps' w' where
 size:=by rw[gN];exact h.size
 mem:=gw
 ent s t hs:=by
  unfold Env.app at hs;cases hf:wr.find s with
  |some x=>
   grind
  |none=>
   rw[hf]at hs;simp at hs;cases he:E s with
   |none=>grind
   |some u=>
    simp[he]at hs;obtain⟨gJ,rfl⟩:=hs;rw[(gG s hf).2];obtain⟨e1,e2,e3⟩:=Ent.keep hk (gG s hf).1 gJ (h.ent s u he);exact⟨e1,zID hS u [] e2,e3⟩
section
variable {P:Program}{Γ:Ctx}{E:Env}{d:Nat}
theorem zJH{G:Gh}{a:Act}{w:World}(g9:Rep Γ E G a.tmps w)(hd:d<Γ.N){Sc:Stb}{rw:Rw}(hS1:∀b x,Sc b=dJ x→w.heap[b]? =dJ x∧ ¬zAh G rw b)(hS0:∀b x,Γ.St b=dJ x→Sc b=dJ x){f:FuncId}{us res:List T}
  (hc:FnC P f us res (rw.map fun x=>(x.1,x.2.2))){xs:List Operand}(gm:xs.length=us.length)
  (gc:∀(i:Nat) u,us[i]? =dJ u→(∃x,xs[i]? =dJ x∧a.eval x=mkV (G.arg a xs rw) i u []∧R Sc (G.arg a xs rw) w i u []))
  (hn1:(d::rw.map (·.2.1)).Nodup)(hn2:(rw.map (·.1)).Nodup)(eY:∀x∈rw,xs[x.1]? =dJ (.tmp x.2.1))
  (gn:∀u∈res,zT u∧u.okTup=dL∧ ∀(S':Stb)(G:Gh)(w:World)(s:Nat)(p:List Nat),(∀b x,Sc b=dJ x→S' b=dJ x)→R S' G w s u p→R (aft Γ.St Sc S') G w s u p)
  (bB:∀x∈rw,zT x.2.2∧(∀(S':Stb)(G:Gh)(w:World)(s:Nat)(p:List Nat),(∀b x,Sc b=dJ x→S' b=dJ x)→R S' G w s x.2.2 p→R (aft Γ.St Sc S') G w s x.2.2 p)∧ ∃u,E x.2.1=dJ u∧x.2.2.single=u.single∧us[x.1]? =dJ u):
  Calls P f (xs.map a.eval).toArray w fun e w'=> ∃v,e=.returned v∧ ∃S G',zCH Γ.St S Γ.W Γ.w0.heap.size∧qC (uE d rw) G w G' w'∧Rep (Γ.at S) (E.app (cWr d res rw) (uE d rw)) G' (a.tmps.setIfInBounds d v) w':=by
 have hm:=g9.mem;have ph:=Kv.1 hn1;have hmc:Mem ⟨Sc,zAh G rw,w,0⟩ (G.arg a xs rw) w:=by
  have gL:∀b,zAh G rw b→Sc b=dK:=fun b h=>by
   cases hs:Sc b with
   |none=>rfl
   |some x=>exact absurd h (hS1 b x hs).2
  refine⟨fun i z=>?_,fun b o l hl=>?_,fun b l hl=>?_,fun b x hx=>(hS1 b x hx).1,fun b _ _=>rfl,Jf _,⟨fun b cs e h=>⟨cs,h,rfl⟩,rfl,rfl⟩⟩
  ·simp only[Gh.arg]
   split
   ·exact hm.one _ _
   ·exact zA5 _
   ·rfl
  ·simp only[Gh.arg]at hl
   split at hl
   ·rename_i f' s z hg
    split at hl
    ·rename_i i s' y hi ho
     split at hl
     ·rename_i he;subst he
      have hL:zAh G rw b:=⟨s',y,ho,zNg hi⟩;exact⟨(hm.lb b o _ hg).1,.inr hL,gL b hL⟩
     ·cases hl
    ·cases hl
   ·cases hl
  ·simp only[Gh.arg]at hl
   split at hl
   ·rename_i s z hg
    split at hl
    ·rename_i i hi
     have hL:zAh G rw b:=⟨s,z,hg,zNg hi⟩;exact⟨(hm.ow b _ hg).1,.inr hL,gL b hL⟩
    ·cases hl
   ·cases hl
 have gv:=hc Sc (zAh G rw) w (G.arg a xs rw) (xs.map a.eval).toArray (by simp[gm]) (fun i u hu=>by obtain⟨x,h1,h2,h3⟩:=gc i u hu;exact⟨by simp[h1,h2],h3⟩) hmc
 refine gv.mono ?_
 rintro e w' ⟨S',G',nd,gS,rfl,gB,fL,fW,pb,bA⟩
 have f7:∀b x,Γ.St b=dJ x→aft Γ.St Sc S' b=dJ x:=fun b x hx=>by simp only[aft,hS0 b x hx,hx]
 have bZ:zCH Γ.St (aft Γ.St Sc S') Γ.W Γ.w0.heap.size:=⟨f7,fun b hb eV=>by
  simp only[aft]at eV;split at eV
  ·rename_i hs
   rcases gS.nw b hs eV with h|⟨s,z,h,_⟩
   ·exact .inl (by have:=hm.sz;omega)
   ·exact(hm.ow b _ h).2.1
  ·exact absurd hb eV⟩
 refine⟨_,rfl,aft Γ.St Sc S',G.back G' w.heap.size d rw nd,bZ,?_⟩;have my:∀b,b<w.heap.size→ ¬zAh G rw b→w'.heap[b]? =w.heap[b]?:=gB.fr;have gy:w.heap.size≤w'.heap.size:=gB.sz;have gK:Blk w w':=gB.bk.blk
 generalize hGn:G.back G' w.heap.size d rw nd=Gn
 have ghdd:∀z,Gn.hd d z=zPJ G' nd z:=fun z=>by rw[←hGn];simp[Gh.back]
 have gadd:∀z,Gn.ad d z=zTb G' nd z:=fun z=>by rw[←hGn];simp[Gh.back]
 have ghd0:∀s z,s≠d→s∉rw.map (·.2.1)→Gn.hd s z=G.hd s z:=fun s z h1 h2=>by rw[←hGn];simp[Gh.back,h1,zJG h2]
 have gad0:∀s z,s≠d→s∉rw.map (·.2.1)→Gn.ad s z=G.ad s z:=fun s z h1 h2=>by rw[←hGn];simp[Gh.back,h1,zJG h2]
 have fP:∀i s u,(i,s,u)∈rw→s≠d:=fun i s u h e=>ph.1 (e▸Jh.2 ⟨_,h,rfl⟩)
 have ghdr:∀i s u z,(i,s,u)∈rw→Gn.hd s z=G'.hd i z:=fun i s u z h=>by rw[←hGn];simp[Gh.back,fP i s u h,zB9 rw ph.2 h]
 have gadr:∀i s u z,(i,s,u)∈rw→z≠[]→Gn.ad s z=G'.ad i z:=fun i s u z h h0=>by rw[←hGn];simp[Gh.back,fP i s u h,zB9 rw ph.2 h,h0]
 have gadr0:∀i s u,(i,s,u)∈rw→Gn.ad s []=G.ad s []:=fun i s u h=>by rw[←hGn];simp[Gh.back,fP i s u h,zB9 rw ph.2 h]
 have glb0:∀b o l,¬zAh G rw b→G.lb b o=dJ l→Gn.lb b o=dJ l:=fun b o l h1 h2=>by have:=(hm.lb b o _ h2).1;rw[←hGn];simp only[Gh.back];rw[if_neg (by rintro(h|h);exact h1 h;omega)];exact h2
 have gow0:∀b l,¬zAh G rw b→G.ow b=dJ l→Gn.ow b=dJ l:=fun b l h1 h2=>by have:=(hm.ow b _ h2).1;rw[←hGn];simp only[Gh.back];rw[if_neg (by rintro(h|h);exact h1 h;omega)];exact h2
 have hJ:∀b o l,G'.lb b o=dJ l→zAh G rw b∨w.heap.size≤b:=fun b o l h=>(gB.lb b o l h).2.1.symm
 have mw:∀b l,G'.ow b=dJ l→zAh G rw b∨w.heap.size≤b:=fun b l h=>(gB.ow b l h).2.1.symm
 have glb1:∀b o fl s z s' z',G'.lb b o=dJ (fl,s,z)→zC6 d rw nd s z=dJ (s',z')→Gn.lb b o=dJ (fl,s',z'):=fun b o fl s z s' z' h1 h2=>by rw[←hGn];simp only[Gh.back];rw[if_pos (hJ b o _ h1),h1];simp[h2]
 have gow1:∀b s z l,G'.ow b=dJ (s,z)→zC6 d rw nd s z=dJ l→Gn.ow b=dJ l:=fun b s z l h1 h2=>by rw[←hGn];simp only[Gh.back];rw[if_pos (mw b _ h1),h1];simp[h2]
 have ag:∀i s u z,(i,s,u)∈rw→zC6 d rw nd i z=dJ (s,z):=fun i s u z h=>by simp[zC6,zJF rw hn2 h]
 have gE:∀x∈rw,x.1<us.length:=fun x hx=>by have:=(Jk.1 (eY x hx)).1;omega
 have hbn:∀x∈nd,∀z,zC6 d rw nd x.1 z=ndB d nd x.1 z:=fun x hx z=>by have h1:=(fW x hx).2;have h2:rwS rw x.1=dK:=zPH (fun y hy e=>by have:=gE y hy;omega);simp[zC6,h2]
 have pY:∀(k:Nat) x,nd[k]? =dJ x→ ∃tgt,(nd.length=1→tgt=[])∧(nd.length≠1→tgt=[k])∧(∀z,Gn.hd d (z++tgt)=G'.hd x.1 (z++x.2.1))∧(∀z,Gn.ad d (z++tgt)=G'.ad x.1 (z++x.2.1))∧ ∀z,zC6 d rw nd x.1 (z++x.2.1)=dJ (d,z++tgt):=by
  intro k x hk;have mL:=Le hk
  match nd,hk,pb,hbn x mL,ghdd,gadd with
  | [y],hk,pb,hb,ghdd,gadd=>
   have hkx:y=x:=by
    cases k with
    |zero=>simpa using hk
    |succ k=>simp at hk
   subst hkx;exact⟨[],fun _=>rfl,fun h=>absurd rfl h,fun z=>by rw[ghdd];simp[zPJ],fun z=>by rw[gadd];simp[zTb],fun z=>by rw[hb];simp[ndB]⟩
  | [],hk,_,_,_,_=>simp at hk
  |y1::y2::r,hk,pb,hb,ghdd,gadd=>
   refine⟨[k],fun h=>by simp at h,fun _=>rfl,fun z=>by rw[ghdd];simp only[zPJ,Qs,Qt];simp[hk],fun z=>by rw[gadd];simp only[zTb,Qs,Qt];simp[hk],fun z=>?_⟩;rw[hb];have:=zH6 (y1::y2::r) pb (k0:=0) hk;rw[J8]at this;simp only[ndB,this];simp
 have pB:∀(k:Nat) x,nd[k]? =dJ x→ ∀tgt,(∀z,Gn.hd d (z++tgt)=G'.hd x.1 (z++x.2.1))→(∀z,Gn.ad d (z++tgt)=G'.ad x.1 (z++x.2.1))→(∀z,zC6 d rw nd x.1 (z++x.2.1)=dJ (d,z++tgt))→R (aft Γ.St Sc S') Gn w' d x.2.2 tgt:=by intro k x hk tgt h1 h2 h3;have mL:=Le hk;obtain⟨c1,c2,c3⟩:=gn x.2.2 (by rw[←fL];exact Jh.2 ⟨x,mL,rfl⟩);refine zAl (G:=G') (w:=w') (s:=x.1) (p:=x.2.1) ⟨⟨h1,fun z _=>h2 z,fun b o f' z _ _ hl=>⟨glb1 b o f' _ _ _ _ hl (h3 z),rfl⟩,fun b z _ hl=>gow1 b _ _ _ hl (h3 z),fun b cs e h=>⟨cs,h,rfl⟩⟩,fun b o _ hl=>⟨glb1 b o dL _ _ _ _ hl (by simpa using h3 []),rfl⟩,fun b hl=>gow1 b _ _ _ hl (by simpa using h3 [])⟩ _ (yT.mono (fun _ _=>False.elim) _ c1) (c3 _ _ _ _ _ gS.le (fW x mL).1)
 have gx:qC (uE d rw) G w Gn w':=by
  have gF:∀s,(∀n,(s,n)∉uE d rw)→s≠d∧s∉rw.map (·.2.1):=fun s h=>⟨fun e=>h 0 (by simp[uE,e]),fun hm=>by obtain⟨x,hx,rfl⟩:=Jh.1 hm;exact h _ (zFO hx)⟩
  have cB:∀b s y,G.ow b=dJ (s,y)→s∉rw.map (·.2.1)→ ¬zAh G rw b:=by
   rintro b s y h1 h2 ⟨s',z',h3,h4⟩
   rw[h1]at h3;simp at h3;exact h2 (h3.1▸h4)
  refine⟨fun s p h=>?_,fun s p h=>?_,fun b o fl s p gY h1 h2=>?_,fun b s p h1 h2=>?_,gK⟩
  ·have h1:s≠d:=fun e=>absurd (h 0 (by simp[uE,e])) (by simp)
   by_cases h2:s∈rw.map (·.2.1)
   ·
    obtain⟨x,hx,rfl⟩:=Jh.1 h2;have hc:=h _ (zFO hx);have c2:x.2.2.single=dL:=by
     cases eT:x.2.2.single with
     |true=>rfl
     |false=>simp[cLv,eT]at hc
    have h3:p=[]:=Kn (by simp only[cLv,c2,if_true]at hc;omega);subst h3;obtain⟨_,_,u,c4,c5,c6⟩:=bB x hx;rw[c2]at c5;have c5:=c5.symm;obtain⟨_,u0,e1,e2⟩:=bA x.1 x.2.2 (Jh.2 ⟨x,hx,rfl⟩);rw[c6]at e1;simp at e1;subst e1;rw[xJ c2,xJ c5]at e2;rw[ghdr x.1 x.2.1 x.2.2 [] hx,e2];simp[Gh.arg,eY x hx]
   ·exact ghd0 s p h1 h2
  ·have h1:s≠d:=fun e=>absurd (h 0 (by simp[uE,e])) (by simp)
   by_cases h2:s∈rw.map (·.2.1)
   ·obtain⟨x,hx,rfl⟩:=Jh.1 h2
    have hc:=h _ (zFO hx);have h3:p=[]:=Kn (by have:cLv x.2.2≤1:=(by unfold cLv;split<;>omega);omega);subst h3;exact gadr0 x.1 x.2.1 x.2.2 hx
   ·exact gad0 s p h1 h2
  ·obtain⟨h3,h4⟩:=gF s h2
   obtain⟨y,hy⟩:=gY;have h5:=cB b s y hy h4;exact⟨glb0 b o _ h5 h1,by simp[yI,World.cell?,my b (hm.lb b o _ h1).1 h5]⟩
  ·obtain⟨h3,h4⟩:=gF s h2
   exact gow0 b _ (cB b s p h1 h4) h1
 have gw:Mem (Γ.at (aft Γ.St Sc S')) Gn w':=by
  have gJ:∀b,b<w'.heap.size∧(w.heap.size≤b∨zAh G rw b)∧S' b=dK→zB0 (Γ.at (aft Γ.St Sc S')) w' b:=fun b ⟨hb,h,gP⟩=>by
   have mP:Sc b=dK:=by
    cases hs:Sc b with
    |none=>rfl
    |some x=>rw[gS.le b x hs]at gP;cases gP
   refine⟨hb,?_,by simp only[aft,mP];exact gP⟩;rcases h with h|⟨s,z,h1,_⟩
   ·exact .inl (by have:=hm.sz;show Γ.w0.heap.size≤b;omega)
   ·exact(hm.ow b _ h1).2.1
  have gG:∀b,¬(zAh G rw b∨w.heap.size≤b)→zB0 Γ w b→zB0 (Γ.at (aft Γ.St Sc S')) w' b:=fun b h ⟨h1,h2,h3⟩=>by
   refine⟨by omega,h2,?_⟩;simp only[aft];split
   ·rename_i hs
    cases gP:S' b with
    |none=>rfl
    |some x=>
     rcases gS.nw b hs (by rw[gP];simp)with h4|h4
     ·exact absurd (.inr h4) h
     ·exact absurd (.inl h4) h
   ·exact h3
  refine⟨fun s z=>?_,fun b o l hl=>?_,fun b l hl=>?_,fun b x hx=>?_,fun b(h1:b<Γ.w0.heap.size) h2=>?_,Lt hm.sz gy,hm.bk.trans gK gB.bk.os gB.bk.out⟩
  ·by_cases h1:s=d
   ·subst h1
    rw[ghdd];unfold zPJ;split
    ·exact gB.one _ _
    ·split
     ·split
      ·exact gB.one _ _
      ·rfl
     ·rfl
   ·by_cases h2:s∈rw.map (·.2.1)
    ·obtain⟨x,hx,rfl⟩:=Jh.1 h2
     rw[ghdr x.1 x.2.1 x.2.2 z hx];exact gB.one _ _
    ·rw[ghd0 s z h1 h2];exact hm.one _ _
  ·rw[←hGn]at hl
   simp only[Gh.back]at hl;split at hl
   ·rename_i pk
    split at hl
    ·rename_i hg
     exact gJ b (gB.lb b o _ hg)
    ·cases hl
   ·rename_i pk
    exact gG b pk (hm.lb b o l hl)
  ·rw[←hGn]at hl
   simp only[Gh.back]at hl;split at hl
   ·rename_i pk
    split at hl
    ·rename_i hg
     exact gJ b (gB.ow b _ hg)
    ·cases hl
   ·rename_i pk
    exact gG b pk (hm.ow b l hl)
  ·simp only[aft]at hx
   split at hx
   ·exact gB.st b x hx
   have h1:=hm.st b x hx;have h2:=(Kr.1 h1).1;have h3:¬zAh G rw b:=by
    rintro⟨s,z,h4,_⟩
    rw[(hm.ow b _ h4).2.2]at hx;cases hx
   rw[my b h2 h3];exact h1
  ·have h3:¬zAh G rw b:=by
    rintro⟨s,z,h4,_⟩
    rcases(hm.ow b _ h4).2.1 with h5|h5
    ·omega
    ·exact h2 h5
   rw[my b (by have:=hm.sz;omega) h3];exact hm.fr b h1 h2
 have dg:nd.length=res.length:=by rw[←fL];simp
 refine⟨gx,g9.up f7 (by simp) gx gw ?_ ?_⟩
 ·intro s hs
  obtain⟨h1,h2⟩:=zPL hs;refine⟨fun n hn=>?_,by rw[Jc];simp[Ne.symm h1]⟩;simp only[uE,Jn,Qv.injEq,Jh]at hn;rcases hn with⟨e,_⟩|⟨x,hx,e,_⟩
  ·exact h1 e
  ·exact h2 (Jh.2 ⟨x,hx,e⟩)
 ·intro s t hs
  rcases zPK hs with⟨rfl,ht⟩|⟨gf,i,u,fQ,ht⟩
  ·simp at ht
   subst ht;rw[Jc];simp only[g9.size,hd,if_true];have ci:res=nd.map (·.2.2):=fL.symm
   by_cases hl:nd.length=1
   ·obtain⟨x,hx⟩:∃x,nd=[x]:=List.length_eq_one_iff.1 hl
    obtain⟨tgt,t1,_,t3,t4,t5⟩:=pY 0 x (by simp[hx]);obtain rfl:=t1 hl;have hr:=pB 0 x (by simp[hx]) [] t3 t4 t5;obtain⟨c1,c2,_⟩:=gn x.2.2 (by rw[ci,hx];simp);have eC:zL4 res=x.2.2:=by rw[ci,hx];rfl
    have gW:∀ys,x.2.2≠.tup ys:=fun ys e=>by rw[e]at c2;simp[T.okTup]at c2
    rw[eC];refine⟨?_,hr,Top.of_clean _ c1⟩;rw[jL Gn s _ [] gW,zAW x.2.2 x.2.1 [] t3,hx];rfl
   ·have eC:zL4 res=.tup res:=by
     rw[dg]at hl
     match res,hl with
     | [],_=>rfl
     | [u],hl=>simp at hl
     |_::_::_,_=>rfl
    rw[eC];have gH:∀k x,nd[k]? =dJ x→ ∀z,Gn.hd s (z++[0+k])=G'.hd x.1 (z++x.2.1):=fun k x hk z=>by obtain⟨tgt,_,t2,t3,_,_⟩:=pY k x hk;rw[t2 hl]at t3;rw[J8];exact t3 z
    refine⟨?_,?_,?_⟩
    ·have hv:=zNh (Gn:=Gn) (G':=G') (d:=s) nd 0 gH
     rw[fL]at hv;simp only[mkV,hv];unfold zJB;split
     ·simp at hl
     ·rfl
    ·simp only[R]
     rw[ci];refine zMV _ [] 0 (fun k u hu=>?_);rw[Jp]at hu;cases hk:nd[k]? with
     |none=>simp[hk]at hu
     |some x=>
      simp[hk]at hu;subst hu;obtain⟨tgt,_,t2,t3,t4,t5⟩:=pY k x hk;rw[t2 hl]at t3 t4 t5;rw[J8];exact pB k x hk [k] t3 t4 t5
    ·simp only[Top]
     refine vN.of_clean _ ?_;have:∀us:List T,(∀u∈us,zT u)→xI us:=by
      intro us
      induction us with
      |nil=>intro _;trivial
      |cons u us ih=>intro h;exact⟨h u (by simp),ih fun v hv=>h v (by simp[hv])⟩
     exact this res fun u hu=>(gn u hu).1
  ·simp at ht
   subst ht;obtain⟨c1,c3,u0,c4,_,c6⟩:=bB _ fQ;obtain⟨r1,u1,e1,e2⟩:=bA i t (Jh.2 ⟨_,fQ,rfl⟩);simp only at c4 c6;rw[c6]at e1;simp at e1;subst e1;refine⟨?_,?_,Top.of_clean _ c1⟩
   ·rw[Jc]
    simp only[Ne.symm gf,if_false];have tn:=eY _ fQ;simp only at tn;have m1:mkV Gn s t []=mkV G' i t []:=zF5 t [] [] (fun z=>by rw[Jg];exact ghdr i s t z fQ);have m2:mkV (G.arg a xs rw) i u0 []=mkV G s u0 []:=zF5 u0 [] [] (fun z=>by simp[Gh.arg,tn]);rw[(g9.ent s u0 c4).1,m1,e2,m2]
   ·refine zAl (G:=G') (w:=w') (s:=i) (p:=[]) ⟨⟨fun z=>by rw[Jg];exact ghdr i s t z fQ,fun z hz=>by rw[Jg];exact gadr i s t z fQ hz,fun b o f' z _ _ hl=>?_,fun b z _ hl=>?_,fun b cs e h=>⟨cs,h,rfl⟩⟩,fun b o _ hl=>⟨glb1 b o dL _ _ _ _ hl (ag i s t [] fQ),rfl⟩,fun b hl=>gow1 b _ _ _ hl (ag i s t [] fQ)⟩ t (yT.mono (fun _ _=>False.elim) _ c1) (c3 _ _ _ _ _ gS.le r1)
    ·rw[Jg]at hl ⊢;exact⟨glb1 b o f' _ _ _ _ hl (ag i s t z fQ),rfl⟩
    ·rw[Jg]at hl ⊢;exact gow1 b _ _ _ hl (ag i s t z fQ)
end
end Go.Ab

namespace Go.Ab
open Go
def zH7(E:Env)(rs:List Nat)(x:Operand)(t:T):Bool:=
 match x with
 |.tmp s=>tZ E rs s t
 |_=>dL
def zBw(E:Env)(rw:Rw)(i:Nat)(x:Operand)(u:T):Prop:=
 (∃s u',x=.tmp s∧(i,s,u')∈rw∧E s=dJ u∧zT u∧u.okTup=dL∧wG u=dL)∨(∃t,opT E x=dJ t∧clo E t=u∧zH7 E (rw.map (·.2.1)) x t=dL)
def xG(E:Env)(rw:Rw):Nat→List Operand→List T→Prop
 |_,[],[]=>True
 |i,x::xs,u::us=>zBw E rw i x u∧xG E rw (i+1) xs us
 |_,_,_=>False
theorem xG.length{E:Env}{rw:Rw}:(xs:List Operand)→(us:List T)→ ∀i,xG E rw i xs us→xs.length=us.length
 | [],[],_,_=>rfl
 |_::xs,_::us,i,h=>by simp[xG.length xs us (i+1) h.2]
 | [],_::_,_,h=>by simp[xG]at h
 |_::_,[],_,h=>by simp[xG]at h
theorem xG.get{E:Env}{rw:Rw}:(xs:List Operand)→(us:List T)→ ∀i,xG E rw i xs us→ ∀(j:Nat) u,us[j]? =dJ u→ ∃x,xs[j]? =dJ x∧zBw E rw (i+j) x u
 | [],[],_,_,_,_,h=>by simp at h
 |x::xs,v::us,i,h,j,u,hj=>by
  cases j with
  |zero=>simp at hj;subst hj;exact⟨x,by simp,h.1⟩
  |succ j=>
   obtain⟨y,h1,h2⟩:=xG.get xs us (i+1) h.2 j u (by simpa using hj);exact⟨y,by simpa using h1,by rwa [show i+(j+1)=i+1+j from by omega]⟩
 | [],_::_,_,h,_,_,_=>by simp[xG]at h
 |_::_,[],_,h,_,_,_=>by grind
structure zFe (E:Env) (d:Nat) (xs:List Operand) (us:List T) (rw:Rw):Prop where
 nodup:(d::rw.map (·.2.1)).Nodup
 nodup2:(rw.map (·.1)).Nodup
 at_:∀x∈rw,xs[x.1]? =dJ (.tmp x.2.1)
 tree:∀x∈rw,zT x.2.2∧wG x.2.2=dL∧ ∃u,E x.2.1=dJ u∧x.2.2.single=u.single∧us[x.1]? =dJ u
theorem zFe.nil{E:Env}{d:Nat}{xs:List Operand}{us:List T}:zFe E d xs us []:=⟨by simp,by simp,by simp,by simp⟩
theorem zFe.one{E:Env}{d i s:Nat}{u u':T}{xs:List Operand}{us:List T}(h1:d≠s)(h2:xs[i]? =dJ (.tmp s))(h3:zT u')(h4:u'.single=dL)(h5:wG u'=dL)(h6:E s=dJ u)(h7:u.single=dL)(h8:us[i]? =dJ u):
  zFe E d xs us [(i,s,u')]:=⟨by grind,by simp,by grind,by grind⟩
theorem zFe.one'{E:Env}{d i s:Nat}{u u':T}{xs:List Operand}{us:List T}(h1:d≠s)(h2:xs[i]? =dJ (.tmp s))(h3:zT u')(h4:u'.single=u.single)(h5:wG u'=dL)(h6:E s=dJ u)(h8:us[i]? =dJ u):
  zFe E d xs us [(i,s,u')]:=⟨by grind,by simp,by grind,by grind⟩
section
variable {P:Program}{Γ:Ctx}{E:Env}{o:Oper}{d:Nat}
theorem zTc{G:Gh}{a:Act}{w:World}(g9:Rep Γ E G a.tmps w){rw:Rw}{xs:List Operand}{us:List T}(hr:zFe E d xs us rw){Sc:Stb}(e6:∀b x,Γ.St b=dJ x→Sc b=dJ x)
  (ek:∀r,r∉rw.map (·.2.1)→ ∀b,(∃y,G.ow b=dJ (r,y))→Sc b=w.heap[b]?){i:Nat}{x:Operand}{u:T}(hx:xs[i]? =dJ x)(hu:us[i]? =dJ u)(h:zBw E rw i x u):
  a.eval x=mkV (G.arg a xs rw) i u []∧R Sc (G.arg a xs rw) w i u []:=by
 rcases h with⟨s,u',rfl,h1,h2,h3,h4,h5⟩|⟨t,h1,rfl,h3⟩
 ·obtain⟨e1,e2,_⟩:=g9.ent s u h2
  have gH:∀z,(G.arg a xs rw).hd i z=G.hd s z:=by grind[Gh.arg]
  have fj:∀z,(G.arg a xs rw).ad i z=G.ad s z:=by grind[Gh.arg]
  have hi:=zB9 rw (Kv.1 hr.nodup).2 h1;refine⟨by grind[xT,zF5],?_⟩;refine zOj u [] h5 (zAl (St:=Γ.St) (G:=G) (w:=w) (s:=s) (p:=[]) ⟨⟨by grind,by grind,fun b o' f' z _ gY hl=>?_,fun b z _ hl=>?_,fun b cs e h=>⟨cs,h,rfl⟩⟩,fun b o' gY hl=>?_,fun b hl=>?_⟩ u (by grind[yT.mono]) e2)
  ·obtain⟨y,hy⟩:=gY
   exact⟨by grind[Gh.arg],rfl⟩
  ·grind[Gh.arg]
  ·obtain⟨y,hy⟩:=gY
   exact⟨by grind[Gh.arg],rfl⟩
  grind[Gh.arg]
 ·cases x with
  |tmp s=>
   have gH:∀z,(G.arg a xs rw).hd i z=G.hd s z:=by grind[Gh.arg]
   obtain⟨e1,e2,_⟩:=g9.ent s t h1
   grind[zH7,xT,zNf,zU3]
  |const v=>
   simp only[opT]at h1;split at h1
   ·rename_i gA
    simp at h1;subst h1;have gH:(G.arg a xs rw).hd i []=v:=by grind[Gh.arg,Act.eval,zAo]
    exact⟨by grind[clo,mkV,Act.eval],by simp[clo,R,gH]⟩
   ·cases h1
  |func f=>
   simp only[opT]at h1;simp at h1;subst h1;have gH:(G.arg a xs rw).hd i []=.func (.func f) #[] #[]:=by grind[Gh.arg,Act.eval,jM,Value.oneCell']
   exact⟨by grind[clo,mkV,Act.eval],by simp[clo,R,gH]⟩
  |global g=>grind[opT]
theorem zEj{E:Env}:(t:T)→t.flat=dL→(∀rs s,tZ E rs s t=dL)∧clo E t=t
 |.lit _,_|.ro _,_=>by simp[tZ,clo]
 |.agg ts,h=>by
  simp only[T.flat]at h;have:=go ts h
  grind[tZ,clo]
 |.any,h|.same _ _,h|.addr _ _,h|.sub _ _ _ _ _,h|.sl _ _,h|.ptr _,h|.tup _,h=>by grind[T.flat]
where go:(ts:List T)→kZ ts=dL→(∀rs s,zAa E rs s ts=dL)∧zAC E ts=ts
 | [],_=>by simp[zAa,zAC]
 |x::xs,h=>by simp only[kZ,J2]at h;simp only[zAa,zAC,J2];exact⟨fun rs s=>⟨(zEj x h.1).1 rs s,(go xs h.2).1 rs s⟩,by rw[(zEj x h.1).2,(go xs h.2).2]⟩
theorem zBA{a:Act}{w:World}{K:Act→World→Prop}{Q:Exit→Act→World→Prop}{f:FuncId}{xf:Operand}{xs:List Operand}{ats:Array TypeId}(ho:o.op=.call { callee:=.value xf,args:=xs.toArray,argTypes:=ats })(gj:o.dst=dJ d)
  (gv:∀args w,(callFunc f args).run P w=.ok (.enter f args) w)(hf:a.eval xf=.func (.func f) #[] #[])
  (h:Calls P f (xs.map a.eval).toArray w fun e w'=> ∃v,e=.returned v∧K (a.put (dJ d) v) w'):o.wp P a w K Q:=by
 have gz:(execOp a.eval o).run P w=.ok (.enter f (xs.map a.eval).toArray) w:=by simp[execOp,ho,resolve,hf,Deferred.ofValue,invoke,gv]
 unfold Oper.wp;rw[gz,Oper.upon_enter];refine h.mono ?_
 grind
theorem zD0{G:Gh}{a:Act}{w:World}(g9:Rep Γ E G a.tmps w)(hd:d<Γ.N)(f:FuncId)(xs:List Operand)(us res:List T)(rw:Rw)
  (hc:FnC P f us res (rw.map fun x=>(x.1,x.2.2)))(gc:xG E rw 0 xs us)(hr:zFe E d xs us rw)(gn:xI res∧yO res=dL∧vR res=dL):
  Calls P f (xs.map a.eval).toArray w fun e w'=> ∃v,e=.returned v∧ ∃S G',zCH Γ.St S Γ.W Γ.w0.heap.size∧qC (uE d rw) G w G' w'∧Rep (Γ.at S) (E.app (cWr d res rw) (uE d rw)) G' (a.tmps.setIfInBounds d v) w':=by
 classical
 have hm:=g9.mem
 let Sc:Stb:=fun b=>if zAh G rw b then dK else w.heap[b]?
 have e6:∀b x,Γ.St b=dJ x→Sc b=dJ x:=fun b x hx=>by
  have h3:¬zAh G rw b:=by
   rintro⟨s,z,h4,_⟩
   rw[(hm.ow b _ h4).2.2]at hx;cases hx
  simp only[Sc,h3,if_false];exact hm.st b x hx
 have ek:∀r,r∉rw.map (·.2.1)→ ∀b,(∃y,G.ow b=dJ (r,y))→Sc b=w.heap[b]?:=fun r hr' b ⟨y,hy⟩=>by
  have h3:¬zAh G rw b:=by
   rintro⟨s,z,h4,h5⟩
   grind
  grind
 have pe:∀(us:List T),xI us∧yO us=dL∧vR us=dL→ ∀u∈us,zT u∧u.okTup=dL∧wG u=dL:=by
  intro us
  induction us with
  |nil=>simp
  |cons v us ih=>
   intro⟨h1,h2,h3⟩ u hu;simp only[yO,vR,J2]at h2 h3;rcases Jn.1 hu with rfl|hu
   ·exact⟨h1.1,h2.1,h3.1⟩
   ·exact ih ⟨h1.2,h2.2,h3.2⟩ u hu
 exact zJH g9 hd (Sc:=Sc) (rw:=rw) (by grind) e6 hc (xG.length xs us 0 gc) (fun i u hu=>by
   obtain⟨x,h1,h2⟩:=xG.get xs us 0 gc i u hu;rw[J8]at h2
   grind[zTc]) hr.nodup hr.nodup2 hr.at_
  (by grind[zOj])
  (fun x hx=>by
   obtain⟨h1,h3,h4⟩:=hr.tree x hx
   grind[zOj])
theorem zNi(f:FuncId)(xf:Operand)(xs:List Operand)(ats:Array TypeId)(us res:List T)(rw:Rw)(ho:o.op=.call { callee:=.value xf,args:=xs.toArray,argTypes:=ats })(gj:o.dst=dJ d)(hd:d<Γ.N)
  (gv:∀args w,(callFunc f args).run P w=.ok (.enter f args) w)(hf:opT E xf=dJ (.lit (.func (.func f) #[] #[])))
  (hc:FnC P f us res (rw.map fun x=>(x.1,x.2.2)))(gc:xG E rw 0 xs us)(hr:zFe E d xs us rw)(gn:xI res∧yO res=dL∧vR res=dL):
  xV P Γ o E (E.app (cWr d res rw) (uE d rw)):=by
 intro a w K Q ⟨gQ,G,g9⟩ hK;refine zBA ho gj gv (xX g9 hf).1 ?_;refine(zD0 g9 hd f xs us res rw hc gc hr gn).mono ?_
 rintro e w' ⟨v,rfl,S,G',hS,_,gp⟩
 exact⟨v,rfl,hK _ _ ⟨S,hS,gQ,G',gp⟩⟩
theorem zJI(f:FuncId)(xf:Operand)(xs:List Operand)(ats:Array TypeId)(us res:List T)(i ds r:Nat)(q:List Nat)(tr u u':T)(ho:o.op=.call { callee:=.value xf,args:=xs.toArray,argTypes:=ats })(gj:o.dst=dJ d)(hd:d<Γ.N)
  (gv:∀args w,(callFunc f args).run P w=.ok (.enter f args) w)(hf:opT E xf=dJ (.lit (.func (.func f) #[] #[])))
  (hs:E ds=dJ (.same r q))(hr:E r=dJ tr)(hq:tr.get q.reverse=dJ u)(hu:u.single=dL)(e7:zT u)(gT:ds≠r)(hdr2:d≠r)(gJ:tr.okB [(ds,1),(r,q.length+1)]=dL)(eT:yP tr=dL)
  (E1 E2:Env)(tm:E1=E.app [(ds,dJ u),(r,dJ (if q=[]then .same ds []else tr.set q.reverse .any))] [(ds,1),(r,q.length+1)])(tk:E2=E1.app (cWr d res [(i,ds,u')]) (uE d [(i,ds,u')]))
  (hc:FnC P f us res [(i,u')])(gc:xG E1 [(i,ds,u')] 0 xs us)(fQ:zFe E1 d xs us [(i,ds,u')])(gn:xI res∧yO res=dL∧vR res=dL)
  (tr2 v0:T)(eK:E2 r=dJ tr2)(aZ:tr2.get q.reverse=dJ v0)(bm:v0.single=dL)(fK:E2 ds=dJ u')(ex:zT u')(br:u'.single=dL)(p9:tr2.okB [(r,q.length+1),(ds,1)]=dL)(hc3:yP tr2=dL)(hok3:u'.okB [(r,q.length+1),(ds,1)]=dL)(hc4:yP u'=dL):
  xV P Γ o E (E2.app [(r,dJ (tr2.set q.reverse u')),(ds,dJ (.same r q))] [(r,q.length+1),(ds,1)]):=by
 have bS:cLv u'=1:=by grind[cLv]
 intro a w K Q ⟨gQ,G,g9⟩ hK;refine zBA ho gj gv (xX g9 hf).1 ?_;have gO:G.hd ds []=G.hd r q:=by have:=(g9.ent ds _ hs).2.1;simpa only[R]using this
 obtain⟨pD,hhd1⟩:=zCO g9 ds [] r q (.same r q) tr u (.same r q) hs rfl rfl gO hr hq hu e7 gT (by grind[T.okB,zA3]) (by omega) rfl eT;have dI:E.app [(ds,dJ ((T.same r q).set [].reverse u)),(r,dJ (if q=[]then .same ds []else tr.set q.reverse .any))] [(ds,([]:List Nat).length+1),(r,q.length+1)]=E1:=by rw[tm];rfl
 rw[dI]at pD;refine(zD0 pD hd f xs us res [(i,ds,u')] hc gc fQ gn).mono ?_
 rintro e w' ⟨v,rfl,S,G',hS,hk,gp⟩
 rw[←tk]at gp;have hdds:d≠ds:=by have:=fQ.nodup;grind
 have h1:G'.hd r q=(G.tr ds [] r q).hd r q:=hk.hd r q (fun n hn=>by grind[uE]);have h2:G'.hd ds []=(G.tr ds [] r q).hd ds []:=hk.hd ds [] (fun n hn=>by grind[uE]);have m6:G'.hd r q=G'.hd ds []:=by grind
 obtain⟨pC,_⟩:=zCO gp r q ds [] tr2 u' u' v0 eK aZ bm m6 fK rfl br ex (Ne.symm gT) (by omega) (by omega) hc3 hc4;refine⟨v,rfl,hK _ _ ⟨S,hS,gQ,G'.tr r q ds [],?_⟩⟩;have hw:(if([]:List Nat)=[]then T.same r q else u'.set ([]:List Nat).reverse .any)=T.same r q:=if_pos rfl;rw[hw]at pC;exact pC
theorem zPM(f:FuncId)(xf:Operand)(xs:List Operand)(ats:Array TypeId)(us res:List T)(ho:o.op=.call { callee:=.value xf,args:=xs.toArray,argTypes:=ats })(gj:o.dst=dJ d)(hd:d<Γ.N)
  (gv:∀args w,(callFunc f args).run P w=.ok (.enter f args) w)(hf:opT E xf=dJ (.lit (.func (.func f) #[] #[])))
  (hc:FnC P f us res [])(gm:xs.length=us.length)(gc:∀(i:Nat) u,us[i]? =dJ u→ ∃x,xs[i]? =dJ x∧opT E x=dJ u∧u.flat=dL)(gn:xI res∧yO res=dL):
  xV P Γ o E (E.app (cWr d res []) (uE d [])):=by
 intro a w K Q ⟨gQ,G,g9⟩ hK;have hm:=g9.mem;refine zBA ho gj gv (xX g9 hf).1 ?_;have cB:∀b,¬zAh G [] b:=by rintro b ⟨s,z,_,h⟩;simp at h
 have pe:∀(us:List T),xI us∧yO us=dL→ ∀u∈us,zT u∧u.okTup=dL:=by
  intro us
  induction us with
  |nil=>simp
  |cons v us ih=>
   intro⟨h1,h2⟩ u hu;simp only[yO,J2]at h2;rcases Jn.1 hu with rfl|hu
   ·exact⟨h1.1,h2.1⟩
   ·exact ih ⟨h1.2,h2.2⟩ u hu
 have:=zJH g9 hd (Sc:=Γ.St) (rw:=[]) (fun b x hx=>⟨hm.st b x hx,cB b⟩) (fun _ _ h=>h) hc gm (fun i u hu=>by
   obtain⟨x,h1,h2,h3⟩:=gc i u hu;refine⟨x,h1,?_⟩;have hfl:=zEj (E:=E) u h3;cases x with
   |tmp s=>
    have gH:∀z,(G.arg a xs []).hd i z=G.hd s z:=by grind[Gh.arg]
    obtain⟨e1,e2,_⟩:=g9.ent s u h2;refine⟨?_,by grind[zL3]⟩;have:=zNf (E:=E) gH u (hfl.1 [] s)
    grind[xT]
   |const v=>
    simp only[opT]at h2;split at h2
    ·rename_i gA
     simp at h2;subst h2;have gH:(G.arg a xs []).hd i []=v:=by grind[Gh.arg,Act.eval,zAo]
     exact⟨by grind[mkV,Act.eval],by simp[R,gH]⟩
    ·cases h2
   |func f=>
    simp only[opT]at h2;simp at h2;subst h2;have gH:(G.arg a xs []).hd i []=.func (.func f) #[] #[]:=by grind[Gh.arg,Act.eval,jM,Value.oneCell']
    exact⟨by grind[mkV,Act.eval],by simp[R,gH]⟩
   |global g=>grind[opT]) (by simp) (by simp) (by simp)
  (fun u hu=>⟨by grind,by grind,fun S' G w s p hS h=>by
   have:aft Γ.St Γ.St S'=S':=funext (by grind[aft])
   grind⟩) (by simp)
 refine this.mono ?_
 rintro e w' ⟨v,rfl,S,G',hS,_,gp⟩
 exact⟨v,rfl,hK _ _ ⟨S,hS,gQ,G',gp⟩⟩
end
end Go.Ab

namespace Go.Ab
open Go
def xZ:List (Nat×T)→Env
 | [],_=>dK
 |(k,t)::l,s=>if k=s then dJ t else xZ l s
def Env.Has(E:Env):List (Nat×T)→Prop
 | []=>True
 |(s,t)::l=>E s=dJ t∧E.Has l
theorem Env.Has.le{E:Env}:{l:List (Nat×T)}→E.Has l→ ∀s t,xZ l s=dJ t→E s=dJ t
 | [],_,s,t,h=>by grind[xZ]
 |(k,u)::l,hh,s,t,h=>by
  simp only[xZ]at h;split at h
  ·rename_i e
   subst e;rw[hh.1];exact h
  ·exact hh.2.le s t h
theorem Sim.weaken{Γ:Ctx}{E E':Env}{a:Act}{w:World}(h:Sim Γ E a w)(eQ:∀s t,E' s=dJ t→E s=dJ t):Sim Γ E' a w:=by obtain⟨h1,G,h2⟩:=h;exact⟨h1,G,⟨h2.size,fun s t hs=>h2.ent s t (eQ s t hs),h2.mem⟩⟩
theorem qV.weaken{Γ:Ctx}{E E':Env}{a:Act}{w:World}(h:qV Γ E a w)(eQ:∀s t,E' s=dJ t→E s=dJ t):qV Γ E' a w:=by obtain⟨S,h1,h2⟩:=h;exact⟨S,h1,h2.weaken eQ⟩
abbrev jX:=List (Nat×Value)
def jX.Hold(pn:jX)(a:Act):Prop:=∀x∈pn,a.tmps[x.1]? =dJ x.2
def jX.ok(pn:jX)(d:Option Nat):Bool:=match d with
 |none=>dL
 |some d=>pn.all fun x=>x.1 != d
theorem Oper.wp_frame{P:Program}{o:Oper}{a:Act}{w:World}{K:Act→World→Prop}{Q:Exit→Act→World→Prop}(h:o.wp P a w K Q):
  o.wp P a w (fun a' w'=>K a' w'∧ ∀s,o.dst≠dJ s→a'.tmps[s]? =a.tmps[s]?) Q:=by
 have key:∀(v:Value)(ds:List Deferred),∀s,o.dst≠dJ s→(({ a with defers:=ds }:Act).put o.dst v).tmps[s]? =a.tmps[s]?:=by
  intro v ds s hs;cases hd:o.dst with
  |none=>rfl
  |some d=>
   grind[Act.put]
 have key0:∀(v:Value),∀s,o.dst≠dJ s→(a.put o.dst v).tmps[s]? =a.tmps[s]?:=fun v=>key v a.defers
 unfold Oper.wp at*
 generalize (execOp a.eval o).run P w=r at*
 cases r with
 |ok n w'=>
  cases n<;>simp only[Oper.upon]at h ⊢
  all_goals grind
 |halt x w'=>cases x<;>simp only[Oper.upon]at h ⊢ <;>exact h
theorem jX.Hold.frame{pn:jX}{a a':Act}{d:Option Nat}(h:pn.Hold a)(gJ:pn.ok d=dL)(hf:∀s,d≠dJ s→a'.tmps[s]? =a.tmps[s]?):pn.Hold a':=by
 intro x hx;rw[hf x.1 ?_]
 ·exact h x hx
 ·rintro rfl
  have:=Jw.1 gJ x hx
  grind
section
variable (P:Program) (Γ:Ctx) (pn:jX)
def CW(c:Code)(E:Env)(Q:Exit→Env→Prop):Prop:=
 ∀(a:Act)(w:World)(Q':Exit→Act→World→Prop),qV Γ E a w→pn.Hold a→(∀e E' a' w',Q e E'→qV Γ E' a' w'→pn.Hold a'→Q' e a' w')→c.wp P Q' a w
def zQ(ops:Array Oper)(o:Oper)(E E':Env):Prop:=
 ∀(a:Act)(w:World)(K:Act→World→Prop)(Q:Exit→Act→World→Prop),qV Γ E a w→(∀a' w',qV Γ E' a' w'→(∀s,o.dst≠dJ s→a'.tmps[s]? =a.tmps[s]?)→K a' w')→
  if Region.wanted o (yielded ops a.tmps)then o.wp P a w K Q∨(o.asks P a w∧LetsOut Q)else K (a.put o.dst undef) w
def wpL(ops:Array Oper)(Q:Exit→Act→World→Prop):List Oper→Act→World→Prop
 | [],a,w=>Q .normal a w
 |o::os,a,w=>if Region.wanted o (yielded ops a.tmps)then o.wp P a w (wpL ops Q os) Q∨(o.asks P a w∧LetsOut Q)else wpL ops Q os (a.put o.dst undef) w
def RW(ops:Array Oper)(os:List Oper)(E:Env)(Q:Exit→Env→Prop):Prop:=
 ∀(a:Act)(w:World)(Q':Exit→Act→World→Prop),qV Γ E a w→pn.Hold a→(∀e E' a' w',Q e E'→qV Γ E' a' w'→pn.Hold a'→Q' e a' w')→wpL P ops Q' os a w
end
section
variable {P:Program}{Γ:Ctx}{pn:jX}{E E':Env}{Q Q1:Exit→Env→Prop}{c c1 c2:Code}{ops:Array Oper}{o:Oper}{os:List Oper}{d:Nat}
theorem zIE{Q':Exit→Act→World→Prop}:∀(os:List Oper)(n:Nat)(a:Act)(w:World),ops.toList.drop n=os→wpL P ops Q' os a w→wpOps P ops Q' (Un n os.length) a w
 | [],n,a,w,_,h=>by simpa[wpOps,wpL]using h
 |o::os,n,a,w,hd,h=>by
  have ho:ops[n]? =dJ o:=by
   have:=congrArg (·[0]?) hd
   grind
  have pi:ops.toList.drop (n+1)=os:=by
   have:=congrArg List.tail hd
   grind[List.tail_drop]
  simp only[K4,Jb2,wpOps,ho];simp only[wpL]at h;split
  ·rename_i hw
   simp only[hw,if_true]at h;exact h.imp (Oper.wp_mono fun a w=>zIE os (n+1) a w pi) id
  ·rename_i hw
   simp only[hw]at h;exact zIE os (n+1) _ w pi h
theorem CW.region{id:Nat}(h:RW P Γ pn ops ops.toList E Q):CW P Γ pn (.region id ops dM) E Q:=by
 intro a w Q' hs hp hQ;refine wp_region ?_;have:=zIE (P:=P) ops.toList 0 a w (by simp) (h a w Q' hs hp hQ)
 grind[List.range_eq_range']
theorem RW.nil(h:Q .normal E):RW P Γ pn ops [] E Q:=fun a w Q' hs hp hQ=>by
 simp only[wpL]
 grind
theorem RW.cons(h1:zQ P Γ ops o E E')(h3:RW P Γ pn ops os E' Q)(h2:pn.ok o.dst=dL:=by rfl):RW P Γ pn ops (o::os) E Q:=by
 intro a w Q' hs hp hQ;simp only[wpL];have:=h1 a w (wpL P ops Q' os) Q' hs fun a' w' gP hf=>h3 a' w' Q' gP (hp.frame h2 hf) hQ
 exact this
theorem zQ.op(h:∀S,xV P (Γ.at S) o E E')(hg:o.guard=dK:=by rfl):zQ P Γ ops o E E':=by
 intro a w K Q hs hK;have hw:Region.wanted o (yielded ops a.tmps)=dL:=by simp[Region.wanted,hg]
 rw[if_pos hw];refine .inl ?_;obtain⟨S,hS,hs⟩:=hs;have:=Oper.wp_frame (h S a w (fun a' w'=>qV Γ E' a' w') Q hs fun a' w' h=>h.up hS)
 grind[Oper.wp_mono]
theorem zFP{a:Act}{w:World}(hs:qV Γ E a w){g s:Nat}{b:Bool}(gr:(ops[g]?).bind (·.dst)=dJ s)(h:E s=dJ (.lit (.bool b))):yielded ops a.tmps g=dJ b:=by
 obtain⟨_,_,_,G,hr⟩:=hs;obtain⟨h1,h2,_⟩:=hr.ent s _ h;simp only[R]at h2
 grind[yielded,mkV]
theorem zQ.guard(g:Nat)(b:Bool)(s:Nat)(h:∀S,xV P (Γ.at S) o E E')(hg:o.guard=dJ (g,b):=by rfl)(gr:(ops[g]?).bind (·.dst)=dJ s:=by rfl)(hb:E s=dJ (.lit (.bool b)):=by rfl):zQ P Γ ops o E E':=by
 intro a w K Q hs hK;have hw:Region.wanted o (yielded ops a.tmps)=dL:=by grind[Region.wanted,zFP]
 rw[if_pos hw];refine .inl ?_;obtain⟨S,hS,hs⟩:=hs;have:=Oper.wp_frame (h S a w (fun a' w'=>qV Γ E' a' w') Q hs fun a' w' h=>h.up hS)
 grind[Oper.wp_mono]
def zL(Γ:Ctx)(E E':Env):Prop:=∀(a:Act)(w:World),qV Γ E a w→qV Γ E' a w
theorem zL.refl:zL Γ E E:=fun _ _ h=>h
theorem zL.trans{E1 E2 E3:Env}(h:zL Γ E1 E2)(h':zL Γ E2 E3):zL Γ E1 E3:=fun a w hs=>h' a w (h a w hs)
theorem zL.has{l:List (Nat×T)}(h:E.Has l):zL Γ E (xZ l):=fun _ _ hs=>hs.weaken h.le
theorem CW.ghost(h1:zL Γ E E')(h:CW P Γ pn c E' Q):CW P Γ pn c E Q:=fun a w Q' hs=>h a w Q' (h1 a w hs)
theorem RW.ghost(h1:zL Γ E E')(h:RW P Γ pn ops os E' Q):RW P Γ pn ops os E Q:=fun a w Q' hs=>h a w Q' (h1 a w hs)
theorem CW.to(l:List (Nat×T))(h1:E.Has l)(h:CW P Γ pn c (xZ l) Q):CW P Γ pn c E Q:=h.ghost (.has h1)
theorem CW.mono(h:CW P Γ pn c E Q1)(hq:∀e E',Q1 e E'→Q e E'):CW P Γ pn c E Q:=fun a w Q' hs hp hQ=>h a w Q' hs hp (by grind)
theorem CW.skip(h:Q .normal E):CW P Γ pn .skip E Q:=fun _ _ _ hs hp hQ=>by grind[wp_skip]
theorem CW.ret(h:Q .ret E):CW P Γ pn .ret E Q:=fun _ _ _ hs hp hQ=>by grind[wp_ret]
theorem CW.exit{id:Nat}(h:Q (.exit id) E):CW P Γ pn (.exit id) E Q:=fun _ _ _ hs hp hQ=>by grind[wp_exit]
def xP(P:Program)(Γ:Ctx)(pn:jX)(c:Code)(Q:Exit→Env→Prop):Exit→Env→Prop
 |.normal,E=>CW P Γ pn c E Q
 |e,E=>Q e E
theorem CW.seq(h:CW P Γ pn c1 E (xP P Γ pn c2 Q)):CW P Γ pn (.seq c1 c2) E Q:=by
 intro a w Q' hs hp hQ;refine wp_seq (h a w _ hs hp fun e E' a' w' h1 gP fV=>?_);cases e with
 |normal=>exact h1 a' w' Q' gP fV hQ
 |_=>exact hQ _ _ _ _ h1 gP fV
theorem CW.cond{x:Operand}(b:Bool)(hb:opT E x=dJ (.lit (.bool b)))(ht:b=dL→CW P Γ pn c1 E Q)(hf:b=dM→CW P Γ pn c2 E Q):CW P Γ pn (.cond x c1 c2) E Q:=by intro a w Q' hs hp hQ;obtain⟨_,_,_,G,hr⟩:=id hs;refine wp_cond_split (xX hr hb).1 (fun h=>ht h a w Q' hs hp hQ) (fun h=>hf h a w Q' hs hp hQ)
def xQ(id:Nat)(Q:Exit→Env→Prop):Exit→Env→Prop
 |.exit id',E=>if id'=id then Q .normal E else Q (.exit id') E
 |e,E=>Q e E
theorem CW.block{id:Nat}(h:CW P Γ pn c E (xQ id Q)):CW P Γ pn (.block id c) E Q:=by
 intro a w Q' hs hp hQ;refine wp_block (h a w _ hs hp fun e E' a' w' h1 gP fV=>?_);cases e with
 |exit id'=>
  simp only[xQ]at h1;simp only[Exit.inBlock]
  grind
 |_=>exact hQ _ _ _ _ h1 gP fV
end
def qO{σ ρ:Type}(body:σ→Option (σ⊕ρ)):Nat→σ→Option ρ
 |0,_=>dK
 |n+1,s=>match body s with
  |none=>dK
  |some (.inl s')=>qO body n s'
  |some (.inr r)=>dJ r
theorem zFQ{σ ρ:Type}{body:σ→Option (σ⊕ρ)}{r:ρ}:∀{n m:Nat}{s:σ},qO body n s=dJ r→n≤m→qO body m s=dJ r
 |0,_,_,h,_=>by grind[qO]
 |n+1,0,_,_,hm=>by omega
 |n+1,m+1,s,h,hm=>by
  simp only[qO]at h ⊢
  cases hb:body s with
  |none=>grind
  |some x=>
   cases x with
   |inl s'=>simp only[hb]at h ⊢;exact zFQ h (by omega)
   |inr r'=>grind
open Classical in
noncomputable def zH {σ ρ:Type} (body:σ→Option (σ⊕ρ)) (s:σ):Option ρ:=
 if h:∃(n:Nat)(r:ρ),qO body n s=dJ r then dJ h.choose_spec.choose else dK
theorem zCS{σ ρ:Type}{body:σ→Option (σ⊕ρ)}{s:σ}{r:ρ}:zH body s=dJ r↔ ∃n,qO body n s=dJ r:=by
 unfold zH;constructor
 ·intro h
  split at h
  all_goals grind
 ·rintro⟨n,hn⟩
  have he:∃(n:Nat)(r:ρ),qO body n s=dJ r:=⟨n,r,hn⟩;rw[dif_pos he]
  grind[zFQ]
theorem xE{σ ρ:Type}(body:σ→Option (σ⊕ρ))(s:σ):zH body s=match body s with
  |none=>dK
  |some (.inl s')=>zH body s'
  |some (.inr r)=>dJ r:=by
 apply Option.ext;intro r;rw[zCS];cases hb:body s with
 |none=>
  simp only[reduceCtorEq,iff_false]
  rintro⟨n,hn⟩
  cases n<;>simp[qO,hb]at hn
 |some x=>
  cases x with
  |inl s'=>
   simp only[];rw[zCS];constructor
   ·rintro⟨n,hn⟩
    cases n with
    |zero=>grind[qO]
    |succ n=>grind[qO]
   ·rintro⟨n,hn⟩
    exact⟨n+1,by grind[qO]⟩
  |inr r'=>
   simp only[Hf.injEq];constructor
   ·rintro⟨n,hn⟩
    cases n with
    |zero=>grind[qO]
    |succ n=>grind[qO]
   ·rintro rfl
    exact⟨1,by simp[qO,hb]⟩
section
variable {P:Program}{Γ:Ctx}{pn:jX}{E:Env}{Q:Exit→Env→Prop}{c:Code}
def vK{σ ρ:Type}(Γ:Ctx)(en:σ→Env)(Q:ρ→Exit→Env→Prop)(x:σ⊕ρ):Exit→Env→Prop:=fun e E'=>
 match x with
 |.inl s'=>e=.normal∧zL Γ E' (en s')
 |.inr r=>e≠.normal∧Q r e E'
theorem zC7{p:Nat→Prop}(h:∃m,p m):∃m,p m∧ ∀k,k<m→ ¬p k:=by
 refine Classical.byContradiction fun hn=>?_
 have key:∀n,∀k,k<n→ ¬p k:=by
  intro n
  induction n with
  |zero=>simp
  |succ n ih=>
   grind
 grind
theorem CW.loop{σ ρ:Type}(body:σ→Option (σ⊕ρ))(en:σ→Env)(Q:ρ→Exit→Env→Prop)(h:∀s x,body s=dJ x→CW P Γ pn c (en s) (vK Γ en Q x)){s:σ}{r:ρ}(hr:zH body s=dJ r):
  CW P Γ pn (.loop c) (en s) (Q r):=by
 classical
 intro a w Q' hs hp hQ
 let p:Act→World→Nat→Prop:=fun a w m=> ∃s,qO body m s=dJ r∧qV Γ (en s) a w∧pn.Hold a
 let μ:Act→World→Nat:=fun a w=>if h:∃m,p a w m then(zC7 h).choose else 0
 obtain⟨n,hn⟩:=zCS.1 hr;refine wp_loop (fun a w=> ∃m,p a w m) μ (by grind) ?_;intro a w mX;have hμ:μ a w=(zC7 mX).choose:=dif_pos mX;obtain⟨s,h1,h2,h3⟩:=(zC7 mX).choose_spec.1;have ef:=(zC7 mX).choose_spec.2;rw[←hμ]at h1;cases hm:μ a w with
 |zero=>grind[qO]
 |succ k=>
  rw[hm]at h1;simp only[qO]at h1;cases hb:body s with
  |none=>grind
  |some x=>
   refine h s x hb a w _ h2 h3 fun e E' a' w' hq gP fV=>?_
   cases x with
   |inl s'=>
    simp only[hb]at h1;obtain⟨rfl,hg⟩:=hq;have hp2:p a' w' k:=⟨s',h1,hg a' w' gP,fV⟩;refine⟨⟨k,hp2⟩,?_⟩;have hex':∃m,p a' w' m:=⟨k,hp2⟩
    grind
   |inr r'=>
    simp only[hb]at h1;have:r'=r:=by grind
    subst this;obtain⟨gf,hq⟩:=hq;have:=hQ e E' a' w' hq gP fV;cases e with
    |normal=>grind
    |_=>exact this
end
end Go.Ab

namespace Go.Ab
open Go
abbrev Nds:=List (Nat×List Nat×T)
def ROk(P:Program)(E:Env):ResultVar→(Nat×List Nat×T)→Prop
 |.tmp s,x=>x.1=s∧x.2.1=[]∧E s=dJ x.2.2∧x.2.2.okTup=dL
 |.cell a T,x=>x.1=a∧x.2.1=[0]∧E a=dJ (.ptr x.2.2)∧ ∃ds ti,P.underlying T=dJ ds∧P.info? T=dJ ti∧zEa ds= !x.2.2.single∧ti.size=x.2.2.size
def zOl(P:Program)(E:Env):List ResultVar→Nds→Prop
 | [],[]=>True
 |x::xs,y::ys=>ROk P E x y∧zOl P E xs ys
 |_,_=>False
def LOk(E:Env)(us:List T):List (Nat×T)→Prop
 | []=>True
 |(i,u')::l=>(E i=dJ u'∧ ∃u,us[i]? =dJ u)∧LOk E us l
def zWE(P:Program)(rs:Array ResultVar)(us res:List T)(rws:List (Nat×T)):Exit→Env→Prop:=fun e E=>
 (e=.ret∨e=.normal)∧ ∃nd:Nds,zOl P E rs.toList nd∧nd.map (·.2.2)=res∧(∀x∈nd,us.length≤x.1)∧(nd.map (·.1)).Nodup∧LOk E us rws
def zBB(v:Nat→Value)(is:List Nat):jX:=is.map fun i=>(i,v i)
def zHf:Nat→List T→List (Nat×T)
 |_,[]=>[]
 |i,u::us=>(i,u)::zHf (i+1) us
theorem zJJ:∀(us:List T)(i s:Nat)(t:T),xZ (zHf i us) s=dJ t→i≤s∧us[s-i]? =dJ t
 | [],i,s,t,h=>by simp[zHf,xZ]at h
 |u::us,i,s,t,h=>by
  simp only[zHf,xZ]at h;split at h
  ·rename_i e;subst e;simpa using h
  ·rename_i e
   obtain⟨h1,h2⟩:=zJJ us (i+1) s t h;refine⟨by omega,?_⟩;have:s-i=(s-(i+1))+1:=by omega
   rw[this];simpa using h2
def zPN(tmps:Array Value):ResultVar→Sem Value
 |.tmp t=>pure (tmps.getD t undef)
 |.cell a t=>do loadVar t (←asAddr (tmps.getD a undef))
theorem zL5(fn:Func)(tmps:Array Value):results fn tmps=(do
  let vs ←fn.results.mapM (zPN tmps)
  pure (if h:vs.size=1 then vs[0]else .tuple vs)):=rfl
theorem vN.get:(xs:List T)→vN xs→ ∀(i:Nat)(x:T),xs[i]? =dJ x→Top x
 | [],_,i,x,h=>by simp at h
 |y::ys,ht,i,x,h=>by
  simp only[vN]at ht;cases i with
  |zero=>simp at h;subst h;exact ht.1
  |succ i=>exact vN.get ys ht.2 i x (by simpa using h)
theorem LOk.get{E:Env}{us:List T}:(l:List (Nat×T))→LOk E us l→ ∀i u',(i,u')∈l→E i=dJ u'∧ ∃u,us[i]? =dJ u
 | [],_,_,_,h=>by simp at h
 |x::l,h,i,u',hm=>by
  rcases Jn.1 hm with rfl|hm
  ·exact h.1
  ·exact LOk.get l h.2 i u' hm
theorem zYx{P:Program}{Γ:Ctx}{E:Env}{G:Gh}{tmps:Array Value}{w:World}(g9:Rep Γ E G tmps w)(x:ResultVar)(s:Nat)(q:List Nat)(t:T)(h:ROk P E x (s,q,t)):
  (zPN tmps x).run P w=.ok (tP G s t q) w∧R Γ.St G w s t q:=by
 cases x with
 |tmp s'=>
  obtain⟨h0,b9,h1,h2⟩:=h;dsimp only at h0 b9 h1 h2;subst h0 b9;obtain⟨g1,g2,_⟩:=g9.ent _ _ h1;have gW:∀xs,t≠.tup xs:=by rintro xs rfl;simp[T.okTup]at h2
  refine⟨?_,g2⟩;rw[←jL G s t [] gW];simp[zPN,K8,g1]
 |cell a T'=>
  obtain⟨h0,b9,h1,ds,ti,h2,h3,h4,h5⟩:=h;dsimp only at h0 b9 h1 h4 h5;subst h0 b9;obtain⟨g1,g2,_⟩:=g9.ent _ _ h1;simp only[R]at g2;obtain⟨b,cs,e,k1,k2,k3,k4,k5,k6⟩:=g2;refine⟨?_,k6⟩;rw[xJ rfl,k1]at g1;have h6:=zEG (w:=w) h2 h3 k5 h4 h5;simp[zPN,K8,g1,asAddr,h6]
theorem zEM{P:Program}{Γ:Ctx}{E:Env}{G:Gh}{tmps:Array Value}{w:World}(g9:Rep Γ E G tmps w):(rs:List ResultVar)→(nd:Nds)→zOl P E rs nd→
  (rs.mapM (zPN tmps)).run P w=.ok (nd.map fun x=>tP G x.1 x.2.2 x.2.1) w∧ ∀x∈nd,R Γ.St G w x.1 x.2.2 x.2.1
 | [],[],_=>by simp
 |x::xs,y::ys,h=>by
  obtain⟨h1,h2⟩:=zEM g9 xs ys h.2;obtain⟨h3,h4⟩:=zYx g9 x y.1 y.2.1 y.2.2 h.1;refine⟨?_,?_⟩
  ·simp[List.mapM_cons,h3,h1]
  ·intro z hz
   rcases Jn.1 hz with rfl|hz
   ·exact h4
   ·exact h2 z hz
 | [],_::_,h=>by simp[zOl]at h
 |_::_,[],h=>by simp[zOl]at h
theorem FnC.of_body{P:Program}{f:FuncId}{fn:Func}{c:Code}{us res:List T}{rws:List (Nat×T)}(hf:P.funcs[f]? =dJ fn)(hb:fn.body=dJ c)(hn:us.length≤fn.ntmps)(ht:vN us)(hr:rws.all (fun x=>decide (x.1<us.length))=dL)
  (h:∀(Γ:Ctx)(v:Nat→Value),Γ.N=fn.ntmps→CW P Γ (zBB v (rws.map (·.1))) c (xZ (zHf 0 us)) (zWE P fn.results us res rws)):FnC P f us res rws:=by
 intro St W w G vs fI gc gw
 let Γ:Ctx:=⟨St,W,w,fn.ntmps⟩
 let v:Nat→Value:=fun i=>vs.getD i undef
 have hm:Mem Γ G w:=⟨gw.one,gw.lb,gw.ow,gw.st,gw.fr,gw.sz,gw.bk⟩;have gy:(vs++Uh (fn.ntmps-vs.size) undef).size=fn.ntmps:=by simp;omega
 have aF:Sim Γ (xZ (zHf 0 us)) { tmps:=vs++Uh (fn.ntmps-vs.size) undef,defers:=[] } w:=by refine⟨rfl,G,gy,?_,hm⟩;intro s t hs;obtain⟨_,h2⟩:=zJJ us 0 s t hs;simp only[Gb]at h2;obtain⟨h3,h4⟩:=gc s t h2;have gE:s<vs.size:=(Kr.1 h3).1;exact⟨by simp[Q0,gE];exact(Kr.1 h3).2,h4,vN.get us ht s t h2⟩
 have d9:(zBB v (rws.map (·.1))).Hold { tmps:=vs++Uh (fn.ntmps-vs.size) undef,defers:=[] }:=by
  intro x hx;simp only[zBB,Jh]at hx;obtain⟨i,⟨y,hy,rfl⟩,rfl⟩:=hx;have h1:=Jw.1 hr y hy;simp at h1;have h2:y.1<vs.size:=by omega
  simp[Q0,h2,v]
 refine calls_of_wp hf hb (h Γ v rfl _ _ _ (.of aF) d9 ?_)
 rintro e E' a' w' ⟨he,nd,h1,h2,h3,h4,h5⟩ ⟨S',gS,gQ,G',g9⟩ hp
 obtain⟨g1,g2⟩:=zEM g9 _ _ h1;have gn:(results fn a'.tmps).run P w'=.ok (zJB G' nd) w':=by
  rw[zL5,Array.mapM_eq_mapM_toList];simp only[Sem.run_bind,Sem.run_map,g1];cases nd with
  |nil=>simp[zJB]
  |cons y ys=>
   cases ys with
   |nil=>simp[zJB]
   |cons z zs=>simp[zJB]
 have gB:Mem ⟨S',W,w,0⟩ G' w':=⟨g9.mem.one,g9.mem.lb,g9.mem.ow,g9.mem.st,g9.mem.fr,g9.mem.sz,g9.mem.bk⟩;have mz:bodyPost P fn (fun e w'=> ∃(S':Stb)(G':Gh)(nd:List (Nat×List Nat×T)),zCH St S' W w.heap.size∧e=.returned (zJB G' nd)∧Mem ⟨S',W,w,0⟩ G' w'∧nd.map (·.2.2)=res∧
   (∀x∈nd,R S' G' w' x.1 x.2.2 x.2.1∧us.length≤x.1)∧(nd.map (·.1)).Nodup∧
   ∀i u',(i,u')∈rws→R S' G' w' i u' []∧ ∃u,us[i]? =dJ u∧mkV G' i u' []=mkV G i u []) .ret a' w':=by
  refine⟨gQ,_,gn,S',G',nd,gS,rfl,gB,h2,fun x hx=>⟨g2 x hx,h3 x hx⟩,h4,?_⟩;intro i u' hiu;obtain⟨k1,u,k3⟩:=LOk.get _ h5 i u' hiu;obtain⟨k5,k6,_⟩:=g9.ent i u' k1;refine⟨k6,u,k3,?_⟩;have k7:=hp (i,v i) (by simp only[zBB,Jh];exact⟨i,⟨(i,u'),hiu,rfl⟩,rfl⟩);have k8:=(gc i u k3).1;rw[k5]at k7;simp[v,K8,k8]at k7;exact k7
 rcases he with rfl|rfl<;>exact mz
end Go.Ab

namespace Go.Ab
open Go
mutual
def vG:T→T
 |.sl k xs=>.ro (strip (.sl k xs))
 |.ptr t=>.ro (strip (.ptr t))
 |.agg xs=>.agg (vL xs)
 |.tup xs=>.tup (vL xs)
 |.any=>.any
 |.lit v=>.lit v
 |.ro t=>.ro t
 |.same r p=>.same r p
 |.addr r p=>.addr r p
 |.sub r p k lo hi=>.sub r p k lo hi
def vL:List T→List T
 | []=>[]
 |x::xs=>vG x::vL xs
end
mutual
theorem zPO(G:Gh)(s:Nat):(t:T)→ ∀p,vals G s (vG t) p=vals G s t p
 |.agg xs,p=>by simp only[vG,vals];exact zCj G s xs p 0
 |.sl _ _,_|.ptr _,_|.tup _,_|.any,_|.lit _,_|.ro _,_|.same _ _,_|.addr _ _,_|.sub _ _ _ _ _,_=>by simp only[vG,vals]
theorem zCj(G:Gh)(s:Nat):(xs:List T)→ ∀p j,zY G s (vL xs) p j=zY G s xs p j
 | [],_,_=>by simp only[vL]
 |x::xs,p,j=>by simp only[vL,zY,zPO G s x,zCj G s xs]
end
theorem zPP(G:Gh)(s:Nat)(t:T)(p:List Nat):tP G s (vG t) p=tP G s t p:=by cases t<;>simp only[vG,tP,zCj]
theorem zJK(G:Gh)(s:Nat):(xs:List T)→ ∀p j,qL G s (vL xs) p j=qL G s xs p j
 | [],_,_=>by simp only[vL]
 |x::xs,p,j=>by simp only[vL,qL,zPP,zJK G s xs]
theorem zTd(G:Gh)(s:Nat)(t:T)(p:List Nat):mkV G s (vG t) p=mkV G s t p:=by cases t<;>simp only[vG,mkV,zCj,zJK]
mutual
theorem zJL:(t:T)→Top t→Top (vG t)
 |.agg xs,h|.tup xs,h=>by simp only[vG,Top]at h ⊢;exact zH8 xs h
 |.sl _ _,_|.ptr _,_|.any,_|.lit _,_|.ro _,_|.same _ _,_|.addr _ _,_|.sub _ _ _ _ _,_=>by simp only[vG,Top]
theorem zH8:(xs:List T)→vN xs→vN (vL xs)
 | [],_=>by simp only[vL,vN]
 |x::xs,h=>by simp only[vL,vN]at h ⊢;exact⟨zJL x h.1,zH8 xs h.2⟩
end
section
variable {St Sc:Stb}{G G':Gh}{w:World}{s:Nat} (gA:∀s p,(G.hd s p).oneCell'=dL) (e6:∀b x,St b=dJ x→Sc b=dJ x) (ek:∀b,(∃y,G.ow b=dJ (s,y))→Sc b=w.heap[b]?) (gH:∀s z,G'.hd s z=G.hd s z) (fj:∀s z,G'.ad s z=G.ad s z)
 include gA e6 ek gH fj
mutual
theorem zU4:(t:T)→ ∀(p:List Nat),R St G w s t p→R Sc G' w s (vG t) p
 |.agg xs,p,hr|.tup xs,p,hr=>by simp only[vG,R]at hr ⊢;exact zPQ xs p 0 hr
 |.sl k xs,p,hr=>by have:=zJE gA e6 ek (.sl k xs) p rfl hr;simp only[vG,R,gH];exact this
 |.ptr t,p,hr=>by have:=zJE gA e6 ek (.ptr t) p rfl hr;simp only[vG,R,gH];exact this
 |.ro u,p,hr=>by simp only[vG,R,gH]at hr ⊢;exact uW e6 u _ _ hr
 |.any,_,_=>by simp only[vG,R]
 |.lit _,_,hr|.same _ _,_,hr|.sub _ _ _ _ _,_,hr=>by simp only[vG,R,gH]at hr ⊢;exact hr
 |.addr _ _,_,hr=>by simp only[vG,R,gH,fj]at hr ⊢;exact hr
theorem zPQ:(xs:List T)→ ∀(p:List Nat)(j:Nat),RF St G w s xs p j→RF Sc G' w s (vL xs) p j
 | [],_,_,_=>by have _:=gA;have _:=e6;have _:=ek;have _:=gH;have _:=fj;simp only[vL,RF]
 |x::xs,p,j,hr=>by simp only[vL,RF]at hr ⊢;exact⟨zU4 x _ hr.1,zPQ xs p (j+1) hr.2⟩
end
end
theorem zL.freeze{Γ:Ctx}{E:Env}(s:Nat)(t:T)(hs:E s=dJ t):zL Γ E (E.app [(s,dJ (vG t))] [(s,1)]):=by
 classical
 rintro a w ⟨S,hS,gQ,G,g9⟩
 have hm:=g9.mem
 let own:Nat→Prop:=fun b=> ∃y,G.ow b=dJ (s,y)
 let Sc:Stb:=fun b=>if own b then w.heap[b]? else S b
 let G':Gh:={ hd:=G.hd,ad:=G.ad,lb:=fun b o=>if own b then dK else G.lb b o,ow:=fun b=>if own b then dK else G.ow b }
 have f7:∀b x,S b=dJ x→Sc b=dJ x:=fun b x hx=>by
  have:¬own b:=by
   rintro⟨y,hy⟩
   have:=(hm.ow b _ hy).2.2;rw[show S b=dK from this]at hx;cases hx
  simp only[Sc,this,if_false];exact hx
 have bZ:zCH S Sc Γ.W Γ.w0.heap.size:=⟨f7,fun b hb eV=>by
  by_cases h:own b
  ·obtain⟨y,hy⟩:=h
   exact(hm.ow b _ hy).2.1
  ·simp only[Sc,h,if_false]at eV
   exact absurd hb eV⟩
 have gw:Mem ((Γ.at S).at Sc) G' w:=by
  refine⟨hm.one,fun b o l hl=>?_,fun b l hl=>?_,fun b x hx=>?_,hm.fr,hm.sz,hm.bk⟩
  ·by_cases h:own b
   ·simp only[G',h,if_true]at hl;cases hl
   ·simp only[G',h,if_false]at hl
    have:=hm.lb b o l hl;exact⟨this.1,this.2.1,by simp only[Sc,h,if_false];exact this.2.2⟩
  ·by_cases h:own b
   ·simp only[G',h,if_true]at hl;cases hl
   ·simp only[G',h,if_false]at hl
    have:=hm.ow b l hl;exact⟨this.1,this.2.1,by simp only[Sc,h,if_false];exact this.2.2⟩
  ·by_cases h:own b
   ·simp only[Sc,h,if_true]at hx;exact hx
   ·simp only[Sc,h,if_false]at hx;exact hm.st b x hx
 have gx:qC [(s,1)] G w G' w:=by
  have tz:∀b s0 y,G.ow b=dJ (s0,y)→(∀n,(s0,n)∉([(s,1)]:Chg))→ ¬own b:=by
   rintro b s0 y h1 h2 ⟨y',h3⟩
   rw[h1]at h3;simp at h3;exact h2 1 (by simp[h3.1])
  refine⟨fun _ _ _=>rfl,fun _ _ _=>rfl,fun b o f s0 p ⟨y,hy⟩ h1 h2=>?_,fun b s0 p h1 h2=>?_,fun b cs e h=>⟨cs,h,rfl⟩⟩
  ·have:=tz b s0 y hy h2
   refine⟨?_,rfl⟩;simp only[G',this,if_false];exact h1
  ·have:=tz b s0 p h1 h2
   simp only[G',this,if_false];exact h1
 obtain⟨e1,e2,e3⟩:=g9.ent s t hs;refine⟨Sc,hS.trans bZ,gQ,G',g9.up f7 rfl gx gw (fun s0 h0=>⟨fun n hn=>?_,rfl⟩) (fun s0 t0 h0=>?_)⟩
 ·rw[uT]at h0
  simp at hn;simp[hn.1]at h0
 ·rw[uT]at h0
  split at h0
  ·rename_i he;subst he
   simp at h0;subst h0;have hR:=zU4 (G':=G') hm.one f7 (fun b hb=>by simp only[Sc];rw[if_pos hb]) (fun _ _=>rfl) (fun _ _=>rfl) t [] e2;refine⟨?_,hR,zJL t e3⟩;rw[e1];have h1:mkV G' s (vG t) []=mkV G s (vG t) []:=zF5 _ _ _ (fun _=>rfl);rw[h1,zTd]
  ·cases h0
end Go.Ab

namespace Go.Ab
open Go
abbrev zEk:=List (Wr×Chg)
def Env.apps(E:Env)(l:zEk):Env:=l.foldl (fun E x=>E.app x.1 x.2) E
structure Stp where
 rd:List (Nat×T)
 l:zEk
def tJ(wr:Wr):List Nat:=wr.map (·.1)
def Stp.slots(X:Stp):List Nat:=X.l.flatMap fun x=>tJ x.1
def oOk(chg:Chg):Option T→Bool
 |none=>dL
 |some t=>t.okB chg
def zL6(chg:Chg)(wr:Wr):Bool:=wr.all fun x=>oOk chg x.2
def zOm(a b:List Nat):Bool:=a.all fun x=> !b.contains x
def zEl(a b:zEk):Bool:=a.all fun x=>b.all fun y=>zOm (tJ x.1) (tJ y.1)&&zL6 y.2 x.1&&zL6 x.2 y.1
def Stp.apart(a b:Stp):Bool:=zEl a.l b.l&&zOm a.slots (b.rd.map (·.1))&&zOm b.slots (a.rd.map (·.1))&&a.rd.all fun x=>b.l.all fun y=>x.2.okB y.2
theorem zEm{wr:Wr}{s:Nat}(h:s∉tJ wr):wr.find s=dK:=by
 induction wr with
 |nil=>rfl
 |cons x wr ih=>
  simp only[tJ,Jm,Jn,not_or]at h;simp only[Wr.find,Ne.symm h.1,if_false];exact ih h.2
theorem zH9{wr:Wr}{s:Nat}{x:Option T}(h:wr.find s=dJ x):s∈tJ wr∧ ∃y∈wr,y.2=x:=by
 induction wr with
 |nil=>simp[Wr.find]at h
 |cons y wr ih=>
  simp only[Wr.find]at h;split at h
  ·rename_i e
   simp at h;exact⟨by simp[tJ,e],y,by simp,h⟩
  ·obtain⟨h1,z,h2,h3⟩:=ih h
   exact⟨by simp only[tJ,Jm,Jn];exact .inr h1,z,by simp[h2],h3⟩
theorem zFR{a b:List Nat}(h:zOm a b=dL){s:Nat}(hs:s∈a):s∉b:=by have:=Jw.1 h s hs;simpa using this
theorem zPR(E:Env)(w1 w2:Wr)(c1 c2:Chg)(h:zOm (tJ w1) (tJ w2)=dL)(h1:zL6 c2 w1=dL)(h2:zL6 c1 w2=dL):
  (E.app w1 c1).app w2 c2=(E.app w2 c2).app w1 c1:=by
 funext s
 have ok:∀{c:Chg}{w:Wr}{s:Nat}{x:Option T},zL6 c w=dL→w.find s=dJ x→(match x with|some t=>if t.okB c then dJ t else dK|none=>dK)=x:=by
  intro c w s x hw hf;obtain⟨_,y,hy,rfl⟩:=zH9 hf;have:=Jw.1 hw y hy;cases hy2:y.2 with
  |none=>rfl
  |some t=>rw[hy2]at this;simp only[oOk]at this;simp[this]
 unfold Env.app;cases hf1:w1.find s with
 |some x=>
  have:=zEm (zFR h (zH9 hf1).1);simp only[this];exact ok h1 hf1
 |none=>
  cases hf2:w2.find s with
  |some y=>simp only;exact(ok h2 hf2).symm
  |none=>
   simp only
   cases E s with
   |none=>rfl
   |some t=>by_cases k1:t.okB c1=dL<;>by_cases k2:t.okB c2=dL<;>simp[k1,k2]
theorem zC8(w:Wr)(c:Chg):∀(l:zEk)(E:Env),(∀y∈l,zOm (tJ w) (tJ y.1)=dL∧zL6 y.2 w=dL∧zL6 c y.1=dL)→(E.app w c).apps l=(E.apps l).app w c
 | [],E,_=>rfl
 |y::l,E,h=>by obtain⟨h1,h2,h3⟩:=h y (by simp);show((E.app w c).app y.1 y.2).apps l=_;rw[zPR E w y.1 c y.2 h1 h2 h3];exact zC8 w c l _ (fun z hz=>h z (by simp[hz]))
theorem zHA:∀(l1 l2:zEk)(E:Env),zEl l1 l2=dL→(E.apps l1).apps l2=(E.apps l2).apps l1
 | [],l2,E,_=>rfl
 |x::l1,l2,E,h=>by
  simp only[zEl,Jak,J2]at h;show((E.app x.1 x.2).apps l1).apps l2=((E.apps l2).app x.1 x.2).apps l1;rw[zHA l1 l2 _ (by simp only[zEl];exact h.2),zC8 x.1 x.2 l2 E (fun y hy=>by have:=Jw.1 h.1 y hy;simp only[J2]at this;exact⟨this.1.1,this.1.2,this.2⟩)]
def runD:Env→List (Bool×Stp)→Env
 |E,[]=>E
 |E,(b,X)::l=>runD (if b then E.apps X.l else E) l
theorem jO:∀(l1 l2:List (Bool×Stp))(E:Env),runD E (l1++l2)=runD (runD E l1) l2
 | [],_,_=>rfl
 |(b,X)::l1,l2,E=>by simp only[Lg,runD];exact jO l1 l2 _
theorem zEn:∀(l:List (Bool×Stp))(X:Stp)(E:Env),(∀y∈l,y.1=dL→zEl X.l y.2.l=dL)→runD (E.apps X.l) l=(runD E l).apps X.l
 | [],_,_,_=>rfl
 |(b,Y)::l,X,E,h=>by
  simp only[runD];cases b with
  |false=>exact zEn l X E (fun y hy=>h y (by simp[hy]))
  |true=>
   have:=h (dL,Y) (by simp) rfl;simp only[if_true];rw[zHA X.l Y.l E this];exact zEn l X _ (fun y hy=>h y (by simp[hy]))
theorem zFS{s:Nat}:∀(l:zEk)(E:Env),s∉l.flatMap (fun x=>tJ x.1)→ ∀t,(E.apps l) s=dJ t→E s=dJ t
 | [],_,_,_,h=>h
 |x::l,E,hs,t,h=>by
  simp only[Lp,L5,not_or]at hs;have:=zFS l (E.app x.1 x.2) hs.2 t h;unfold Env.app at this;rw[zEm hs.1]at this;simp only[]at this;cases he:E s with
  |none=>simp[he]at this
  |some u=>simp[he]at this;rw[this.2]
theorem zHB{s:Nat}{t:T}:∀(l:zEk)(E:Env),s∉l.flatMap (fun x=>tJ x.1)→(∀y∈l,t.okB y.2=dL)→E s=dJ t→(E.apps l) s=dJ t
 | [],_,_,_,h=>h
 |x::l,E,hs,gJ,h=>by simp only[Lp,L5,not_or]at hs;refine zHB l (E.app x.1 x.2) hs.2 (fun y hy=>gJ y (by simp[hy])) ?_;unfold Env.app;rw[zEm hs.1];simp[h,gJ x (by simp)]
theorem zHC{s:Nat}:∀(l:zEk)(E1 E2:Env),(∀t,E2 s=dJ t→E1 s=dJ t)→ ∀t,(E2.apps l) s=dJ t→(E1.apps l) s=dJ t
 | [],_,_,h,t,ht=>h t ht
 |x::l,E1,E2,h,t,ht=>by
  refine zHC l (E1.app x.1 x.2) (E2.app x.1 x.2) (fun u hu=>?_) t ht;unfold Env.app at hu ⊢
  cases hf:x.1.find s with
  |some y=>simpa[hf]using hu
  |none=>
   simp only[hf]at hu ⊢
   cases he:E2 s with
   |none=>simp[he]at hu
   |some v=>rw[h v he];simpa[he]using hu
theorem zHD{s:Nat}:∀(l:List (Bool×Stp))(E1 E2:Env),(∀y∈l,y.1=dM→s∉y.2.slots)→(∀t,E2 s=dJ t→E1 s=dJ t)→
  ∀t,runD E2 (l.map fun y=>(dL,y.2)) s=dJ t→runD E1 l s=dJ t
 | [],_,_,_,h,t,ht=>h t ht
 |(b,X)::l,E1,E2,hl,h,t,ht=>by
  simp only[Jm,runD,if_true]at ht ⊢
  refine zHD l _ _ (fun y hy=>hl y (by simp[hy])) (fun u hu=>?_) t ht;cases b with
  |true=>exact zHC X.l E1 E2 h u hu
  |false=>exact h u (zFS X.l E2 (hl (dM,X) (by simp) rfl) u hu)
theorem zHE{s:Nat}{t:T}:∀(l:List (Bool×Stp))(E:Env),(∀y∈l,y.1=dL→s∉y.2.slots∧ ∀z∈y.2.l,t.okB z.2=dL)→E s=dJ t→runD E l s=dJ t
 | [],_,_,h=>h
 |(b,X)::l,E,hl,h=>by
  simp only[runD];refine zHE l _ (fun y hy=>hl y (by simp[hy])) ?_;cases b with
  |false=>exact h
  |true=>obtain⟨h1,h2⟩:=hl (dL,X) (by simp) rfl;exact zHB X.l E h1 h2 h
theorem Env.Has.of{E E':Env}:{l:List (Nat×T)}→E.Has l→(∀s t,(s,t)∈l→E s=dJ t→E' s=dJ t)→E'.Has l
 | [],_,_=>trivial
 |(s,t)::l,h,h'=>⟨h' s t (by simp) h.1,Env.Has.of h.2 fun s t hm=>h' s t (by simp[hm])⟩
end Go.Ab

namespace Go.Ab
open Go
def zAD(o:Oper):List Nat:=(o.after.toList.filter (Region.binds .any)).map (·.on)
def zAq:Nat→List Oper→Bool
 |_,[]=>dL
 |i,o::os=>((zAD o).all fun m=>decide (m<i))&&zAq (i+1) os
def kH(an:List (List Nat)):List (List Nat)→List Oper→Bool
 | [],_=>dL
 |_::_,[]=>dM
 |l::ls,o::os=>(l.all fun k=>(zAD o).contains k||(zAD o).any fun m=>(an.getD m []).contains k)&&kH an ls os
def qY(Xs:List Stp):Nat→List (List Nat)→List Stp→Bool
 |_,_,[]=>dL
 |j,an,Y::Ys=>((Jl j).all fun i=>(an.headD []).contains i||match Xs[i]? with
   |some X=>X.apart Y
   |none=>dL)&&qY Xs (j+1) an.tail Ys
theorem zFm:∀(os:List Oper)(i0 j:Nat)(o:Oper),zAq i0 os=dL→os[j]? =dJ o→ ∀m∈zAD o,m<i0+j
 | [],_,j,_,_,h=>by simp at h
 |x::os,i0,j,o,hf,h=>by
  simp only[zAq,J2]at hf;cases j with
  |zero=>
   grind
  |succ j=>
   intro m hm;have:=zFm os (i0+1) j o hf.2 (by grind) m hm;omega
theorem zIF(an:List (List Nat)):∀(ls:List (List Nat))(os:List Oper)(j:Nat)(l:List Nat),kH an ls os=dL→ls[j]? =dJ l→ ∃o,os[j]? =dJ o∧ ∀k∈l,k∈zAD o∨ ∃m∈zAD o,k∈an.getD m []
 | [],_,j,_,_,h=>by simp at h
 |_::_,[],_,_,h,_=>by grind[kH]
 |x::ls,o::os,j,l,ha,h=>by
  simp only[kH,J2]at ha;cases j with
  |zero=>
   simp_all
  |succ j=>
   obtain⟨o',h1,h2⟩:=zIF an ls os j l ha.2 (by grind)
   grind
theorem zEo(Xs:List Stp):∀(Ys:List Stp)(j0:Nat)(an:List (List Nat))(j:Nat)(Y:Stp),qY Xs j0 an Ys=dL→Ys[j]? =dJ Y→ ∀i X,i<j0+j→Xs[i]? =dJ X→i∈an.getD j []∨X.apart Y=dL
 | [],_,_,j,_,_,h=>by simp at h
 |Z::Ys,j0,an,j,Y,hp,h=>by
  simp only[qY,J2]at hp;intro i X hi hX;cases j with
  |zero=>
   simp at h;subst h;have:=Jw.1 hp.1 i (by grind);simp only[hX,Bool.or_eq_true,Lu,decide_eq_true_eq]at this;rcases this with h|h
   ·left
    cases an with
    |nil=>simp at h
    |cons l an=>grind
   grind
  |succ j=>
   rcases zEo Xs Ys (j0+1) an.tail j Y hp.2 (by grind) i X (by omega) hX with h|h
   all_goals grind
section
variable {P:Program}{Γ:Ctx}{pn:jX}{ops:Array Oper}
def zPS(ops:Array Oper)(L:List Bool):Prop:=∀(i:Nat)(o:Oper),ops[i]? =dJ o→L[i]? =dJ dL→ ∀m∈zAD o,L[m]? =dJ dL
theorem zFT{L:List Bool}{an:List (List Nat)}(hf:zAq 0 ops.toList=dL)(ha:kH an an ops.toList=dL)(hc:zPS ops L):
  ∀(n i:Nat),i≤n→ ∀o,ops[i]? =dJ o→(∀m∈zAD o,L[m]? =dJ dL)→ ∀k∈an.getD i [],L[k]? =dJ dL:=by
 intro n
 induction n with
 |zero=>
  intro i hi o ho hp k hk;have dp:i=0:=by omega
  subst dp;cases hl:an[0]? with
  |none=>grind
  |some l=>
   obtain⟨o',h1,h2⟩:=zIF an an ops.toList 0 l ha hl;rw[Kl,ho]at h1;simp at h1;subst h1;simp only[Jc5,hl,Jad]at hk;rcases h2 k hk with h|⟨m,h,_⟩
   ·grind
   ·have:=zFm ops.toList 0 0 o hf (by grind) m h
    omega
 |succ n ih=>
  intro i hi o ho hp k hk;cases hl:an[i]? with
  |none=>grind
  |some l=>
   obtain⟨o',h1,h2⟩:=zIF an an ops.toList i l ha hl;rw[Kl,ho]at h1;simp at h1;subst h1;simp only[Jc5,hl,Jad]at hk;rcases h2 k hk with h|⟨m,h,hkm⟩
   ·grind
   ·have gE:=zFm ops.toList 0 i o hf (by grind) m h
    have hLm:=hp m h;cases tw:ops[m]? with
    |none=>
     grind
    |some om=>exact ih m (by omega) om tw (hc m om tw hLm) k hkm
theorem zHF{L:List Bool}{Xs:List Stp}{i:Nat}{b:Bool}{X:Stp}(hL:L[i]? =dJ b)(hX:Xs[i]? =dJ X):L.zip Xs=(L.take i).zip (Xs.take i)++(b,X)::(L.drop (i+1)).zip (Xs.drop (i+1)):=by
 have h1:L=L.take i++b::L.drop (i+1):=by obtain⟨h,rfl⟩:=Jk.1 hL;simp
 have h2:Xs=Xs.take i++X::Xs.drop (i+1):=by obtain⟨h,rfl⟩:=Jk.1 hX;simp
 grind[List.zip_cons_cons]
theorem zIG{L:List Bool}{Xs:List Stp}{y:Bool×Stp}(h:y∈L.zip Xs):∃j:Nat,L[j]? =dJ y.1∧Xs[j]? =dJ y.2:=by grind[Q3,List.getElem?_zip_eq_some]
def tX:Env→List Stp→Prop
 |_,[]=>True
 |E,X::Xs=>E.Has X.rd∧tX (E.apps X.l) Xs
theorem tX.get:∀(Xs:List Stp)(E:Env),tX E Xs→ ∀(i:Nat)(X:Stp),Xs[i]? =dJ X→(runD E ((Xs.take i).map fun y=>(dL,y))).Has X.rd
 | [],_,_,i,_,h=>by simp at h
 |Y::Xs,E,hh,i,X,h=>by
  cases i with
  |zero=>simp at h;subst h;simpa[runD]using hh.1
  |succ i=>
   have:=tX.get Xs _ hh.2 i X (by grind)
   grind[runD]
theorem Stp.apart_spec{a b:Stp}(h:a.apart b=dL):zEl a.l b.l=dL∧(∀s∈a.slots,s∉b.rd.map (·.1))∧(∀s∈b.slots,s∉a.rd.map (·.1))∧ ∀x∈a.rd,∀y∈b.l,x.2.okB y.2=dL:=by simp only[Stp.apart,J2]at h;refine⟨h.1.1.1,by grind[zFR],by grind[zFR],fun x hx y hy=>?_⟩;exact Jw.1 (Jw.1 h.2 x hx) y hy
mutual
theorem zNj:(t:T)→t.okB []=dL
 |.same _ _|.addr _ _|.sub _ _ _ _ _=>by rfl
 |.agg xs|.tup xs=>by simp only[T.okB];exact zJM xs
 |.any|.lit _|.ro _|.sl _ _|.ptr _=>by rfl
theorem zJM:(xs:List T)→zJu [] xs=dL
 | []=>by rfl
 |x::xs=>by simp only[zJu,zNj x,zJM xs,Kj]
end
theorem Rep.heap{E:Env}{G:Gh}{tmps:Array Value}{w w':World}(h:Rep Γ E G tmps w)(hw:w'.heap=w.heap)(ho:w'.os=w.os:=by rfl)(hq:w'.output=w.output:=by rfl):Rep Γ E G tmps w' where
 size:=h.size
 ent s t hs:=Ent.keep (chg:=[]) ⟨fun _ _ _=>rfl,fun _ _ _=>rfl,by grind[yI,World.cell?],fun _ _ _ h _=>h,fun b cs e h=>⟨cs,by grind,rfl⟩⟩ (by simp) (zNj t) (h.ent s t hs)
 mem:=by
  have hm:=h.mem;exact⟨hm.one,fun b o l hl=>by have:=hm.lb b o l hl;exact⟨by rw[hw];exact this.1,this.2⟩,fun b l hl=>by have:=hm.ow b l hl;exact⟨by rw[hw];exact this.1,this.2⟩,
   fun b x hx=>by rw[hw];exact hm.st b x hx,fun b h1 h2=>by rw[hw];exact hm.fr b h1 h2,by rw[hw];exact hm.sz,hm.bk.trans (fun b cs e hb=>⟨cs,by grind,rfl⟩) ho hq⟩
end
end Go.Ab

namespace Go.Ab
open Go
abbrev I(n:Int):T:=.lit (.int .i64 n)
abbrev B(b:Bool):T:=.lit (.bool b)
abbrev L{α:Type}(k:Nat)(f:α→T)(xs:List α):T:=.sl k (xs.map f)
theorem zM{P:Program}{t:TypeId}{ti:TypeInfo}(h:P.types[t]? =dJ ti):P.info? t=dJ ti:=by
 have h':=(Kr.1 h).1;simp[Tables.info?,h]
 try omega
def Ok(P:Program)(Γ:Ctx)(o:Oper)(E E':Env):Prop:=∀S,xV P (Γ.at S) o E E'
section
variable {P:Program}{Γ:Ctx}{pn:jX}{ops:Array Oper}{o:Oper}{os:List Oper}{E E':Env}{Q:Exit→Env→Prop}{d:Nat}
theorem RW.op(h:Ok P Γ o E E')(k:RW P Γ pn ops os E' Q)(hg:o.guard=dK:=by rfl)(hp:pn.ok o.dst=dL:=by rfl):RW P Γ pn ops (o::os) E Q:=RW.cons (zQ.op h hg) k hp
def neD(x:Operand)(d:Nat):Bool:=match x with
 |.tmp s=>s != d
 |_=>dL
theorem zD1{x:Operand}{d:Nat}(h:neD x d=dL):∀s,x=.tmp s→s≠d:=by rintro s rfl;simpa[neD]using h
theorem zAE{t:T}(h:t.okTup=dL):∀xs,t≠.tup xs:=by rintro xs rfl;simp[T.okTup]at h
abbrev mvB(Γ:Ctx)(x:Operand)(t:T)(d:Nat):Bool:=J5 d Γ.N&&t.okTup&&neD x d&&T.okB [(d,0)] (uJ x t)
section
variable {x y:Operand}{t:T}{ty:TypeId}{ps:String}{af:Array Edge}{gd:Option (Nat×Bool)}
theorem yB{a b:Nat}(h:J5 a b=dL):a<b:=by simpa[Nat.blt_eq]using h
theorem zL7(hx:opT E x=dJ t)(sd:mvB Γ x t d=dL):Ok P Γ ⟨dJ d,.move x,ty,ps,af,gd⟩ E (E.app [(d,dJ (uJ x t))] [(d,0)]):=by simp only[mvB,J2]at sd;exact fun S=>zMQ x t (.inl rfl) rfl (yB sd.1.1.1) hx (zAE sd.1.1.2) (zD1 sd.1.2) sd.2
theorem zTe(hx:opT E x=dJ t)(sd:mvB Γ x t d=dL):Ok P Γ ⟨dJ d,.assign x,ty,ps,af,gd⟩ E (E.app [(d,dJ (uJ x t))] [(d,0)]):=by simp only[mvB,J2]at sd;exact fun S=>zMQ x t (.inr rfl) rfl (yB sd.1.1.1) hx (zAE sd.1.1.2) (zD1 sd.1.2) sd.2
def inR(n:Int):Bool:=decide (-9223372036854775808≤n)&&decide (n≤9223372036854775807)
theorem zBC{n:Int}(h:inR n=dL):IntKind.i64.wrap n=n:=by
 simp only[inR,J2,decide_eq_true_eq]at h;have hb:IntKind.i64.bits=64:=rfl;have hs:IntKind.i64.signed=dL:=rfl;simp only[IntKind.wrap,hb,hs,Bool.true_and]
 by_cases h0:0≤n
 ·have:n%2 ^ 64=n:=Jv h0 (by omega)
  rw[this];have h1:¬(n≥2 ^ (64-1)):=by omega
  simp;omega
 ·have:n%2 ^ 64=n+2 ^ 64:=by
   rw[←Ge,Jv (by omega) (by omega)]
  rw[this];have h1:(n+2 ^ 64:Int)≥2 ^ (64-1):=by omega
  simp;omega
def rng(n:Int):Option Int:=if inR n then dJ n else dK
theorem zBD{n m:Int}(h:rng n=dJ m):m=n∧inR n=dL:=by
 unfold rng at h;split at h
 ·simp at h;exact⟨h.symm,by assumption⟩
 ·cases h
theorem zBE{m n c:Int}{xt yt:TypeId}(hv:rng (m+n)=dJ c)(hx:opT E x=dJ (I m))(hy:opT E y=dJ (I n))(sd:J5 d Γ.N=dL):Ok P Γ ⟨dJ d,.binOp .add xt x y yt,ty,ps,af,gd⟩ E (E.app [(d,dJ (I c))] [(d,0)]):=by obtain⟨rfl,h⟩:=zBD hv;exact fun S=>tI .add xt yt x y .i64 m n _ rfl rfl (yB sd) hx hy (by simp only[zI2,zBC h])
theorem zPT{m n:Int}{xt yt:TypeId}(hx:opT E x=dJ (I m))(hy:opT E y=dJ (I n))(sd:J5 d Γ.N=dL):Ok P Γ ⟨dJ d,.binOp .lss xt x y yt,ty,ps,af,gd⟩ E (E.app [(d,dJ (B (decide (m<n))))] [(d,0)]):=
 fun _S=>tI .lss xt yt x y .i64 m n _ rfl rfl (yB sd) hx hy rfl
theorem zD2(k:Nat)(sd:J5 d Γ.N=dL):Ok P Γ ⟨dJ d,.assign (.const (.slice dK 0 0)),ty,ps,af,gd⟩ E (E.app [(d,dJ (.sl k []))] [(d,0)]):=
 fun _=>zJ1 k _ (.inr rfl) rfl rfl (yB sd)
def yV(n:Int):Option Nat:=if 0≤n∧n≤68719476736 then dJ n.toNat else dK
theorem zFU{n:Int}{m:Nat}(h:yV n=dJ m):n=(m:Int)∧m≤68719476736:=by
 unfold yV at h;split at h
 ·simp at h;omega
 ·cases h
class ElT (P:Program) (t:TypeId) (e:outParam TypeId) (ti:outParam TypeInfo) (k:outParam Nat) (u:outParam T):Prop where
 un:P.underlying t=dJ (.slice e)
 info:P.info? e=dJ ti
 zero:∃z,ti.zero=dJ z∧uV u=z.cells.toList
 size:ti.size=k
 pos:0<k
 zok:u.zOk=dL
 us:u.size=k
 bytes:ti.bytes≤2048
theorem zVq{t e:TypeId}{ti:TypeInfo}{k:Nat}{u:T}{n m:Nat}{a b:Int}(ht:ElT P t e ti k u)(hn:yV a=dJ n)(hx:opT E x=dJ (I a))(hm:yV b=dJ m)(hy:opT E y=dJ (I b))(fZ:n≤m)(sd:J5 d Γ.N=dL):
  Ok P Γ ⟨dJ d,.makeSlice t x y,ty,ps,af,gd⟩ E (E.app [(d,dJ (.sl k (J1 n u)))] [(d,0)]):=by
 obtain⟨rfl,h1⟩:=zFU hn;obtain⟨rfl,h2⟩:=zFU hm;obtain⟨z,hz,hv⟩:=ht.zero;exact fun S=>zSY t e ti z u k x y n m .i64 .i64 rfl rfl (yB sd) ht.un ht.info hz ht.size ht.pos ht.zok hv ht.us (Lt ht.bytes (by decide)) hx hy fZ h2
end
end
end Go.Ab

namespace Go.Ab
open Go
def ixO{α:Type}(xs:List α)(i:Int):Option α:=if 0≤i then xs[i.toNat]? else dK
theorem uX{α:Type}{xs:List α}{i:Int}{v:α}(h:ixO xs i=dJ v):0≤i∧xs[i.toNat]? =dJ v:=by
 unfold ixO at h;split at h
 ·exact⟨by assumption,h⟩
 ·cases h
def kI:T→Bool
 |.same _ _=>dM
 |_=>dL
theorem uK{E:Env}{s r:Nat}{q:List Nat}{t u:T}(h1:E s=dJ (.same r q))(h2:E r=dJ t)(h3:t.get q.reverse=dJ u)(h4:kI u=dL):uU E (.tmp s)=dJ (r,q,u):=by
 have hg:∀t:T,t.get []=dJ t:=fun t=>by cases t<;>rfl
 cases u<;>simp[kI]at h4<;>simp[uU,sV,h1,h2,h3,hg]
theorem wE{E:Env}{s:Nat}{t:T}(h1:E s=dJ t)(h4:kI t=dL):uU E (.tmp s)=dJ (s,[],t):=by
 have hg:∀t:T,t.get []=dJ t:=fun t=>by cases t<;>rfl
 cases t<;>simp[kI]at h4<;>simp[uU,sV,h1,hg]
section
variable {P:Program}{Γ:Ctx}{E:Env}{d:Nat}{x y:Operand}{ty:TypeId}{ps:String}{af:Array Edge}{gd:Option (Nat×Bool)}
class zBb (P:Program) (t:TypeId) (e:outParam TypeId) (ti:outParam TypeInfo) (k:outParam Nat):Prop where
 un:P.underlying t=dJ (.slice e)
 info:P.info? e=dJ ti
 size:ti.size=k
theorem zEp{α:Type}{t e:TypeId}{ti:TypeInfo}{r k:Nat}{q:List Nat}{f:α→T}{xs:List α}{v:α}{i:Int}(ht:zBb P t e ti k)(hv:ixO xs i=dJ v)(hx:uU E x=dJ (r,q,L k f xs))(hy:opT E y=dJ (I i))(sd:J5 d Γ.N=dL):
  Ok P Γ ⟨dJ d,.indexAddr t x y,ty,ps,af,gd⟩ E (E.app [(d,dJ (.addr r (i.toNat::q)))] [(d,0)]):=by
 obtain⟨h1,h2⟩:=uX hv;exact fun S=>zU0 x y t e ti r q k _ .i64 i rfl rfl (yB sd) ht.un ht.info ht.size hx hy h1 (by simpa using(Jk.1 h2).1)
theorem zNk{α:Type}{t e:TypeId}{ti:TypeInfo}{r k:Nat}{q:List Nat}{f:α→T}{xs:List α}{v:α}{i:Int}(ht:zBb P t e ti k)(hv:ixO xs i=dJ v)(hx:uU E x=dJ (r,q,.ro (L k f xs)))(hy:opT E y=dJ (I i))(sd:J5 d Γ.N=dL):
  Ok P Γ ⟨dJ d,.indexAddr t x y,ty,ps,af,gd⟩ E (E.app [(d,dJ (.ro (.ptr (f v))))] [(d,0)]):=by
 obtain⟨h1,h2⟩:=uX hv;exact fun S=>zP1 x y t e ti r q k _ .i64 i _ rfl rfl (yB sd) ht.un ht.info ht.size hx hy h1 (by simp[h2])
theorem zPU{α:Type}{t e:TypeId}{r k:Nat}{q:List Nat}{f:α→T}{xs:List α}(hu:P.underlying t=dJ (.slice e))(hx:uU E x=dJ (r,q,L k f xs))(sd:J5 d Γ.N=dL):
  Ok P Γ ⟨dJ d,.call { callee:=.builtin .len,args:=#[x],argTypes:=#[t] },ty,ps,af,gd⟩ E (E.app [(d,dJ (I xs.length))] [(d,0)]):=
 fun _=>zP0 x t _ r q (L k f xs) xs.length rfl rfl (yB sd) hu hx (by simp[zJv]) rfl
theorem zPV{α:Type}{t e:TypeId}{r k:Nat}{q:List Nat}{f:α→T}{xs:List α}(hu:P.underlying t=dJ (.slice e))(hx:uU E x=dJ (r,q,.ro (L k f xs)))(sd:J5 d Γ.N=dL):
  Ok P Γ ⟨dJ d,.call { callee:=.builtin .len,args:=#[x],argTypes:=#[t] },ty,ps,af,gd⟩ E (E.app [(d,dJ (I xs.length))] [(d,0)]):=
 fun _=>zP0 x t _ r q (.ro (L k f xs)) xs.length rfl rfl (yB sd) hu hx (by simp[zJv]) rfl
structure zTf (P:Program) (t:TypeId) (u:T):Prop where
 h:∃ds ti,P.underlying t=dJ ds∧P.info? t=dJ ti∧zEa ds= !u.single∧ti.size=u.size
theorem zWF{t:TypeId}{u:T}(ht:zTf P t u)(hx:opT E x=dJ (.ro (.ptr u)))(sd:J5 d Γ.N=dL):Ok P Γ ⟨dJ d,.load t x,ty,ps,af,gd⟩ E (E.app [(d,dJ (roT u))] [(d,0)]):=by obtain⟨ds,ti,h1,h2,h3,h4⟩:=ht.h;exact fun S=>zLy x t ds ti u rfl rfl (yB sd) h1 h2 h3 h4 hx
theorem zFf{t:TypeId}{u tr:T}{r:Nat}{q:List Nat}(ht:zTf P t u)(hx:opT E x=dJ (.addr r q))(hr:E r=dJ tr)(hg:tr.get q.reverse=dJ u)(sd:(J5 d Γ.N&&tr.locd q.reverse&&(r != d)&&T.okB [(d,0)] (cpT r u q))=dL):
  Ok P Γ ⟨dJ d,.load t x,ty,ps,af,gd⟩ E (E.app [(d,dJ (cpT r u q))] [(d,0)]):=by
 obtain⟨ds,ti,h1,h2,h3,h4⟩:=ht.h;simp only[J2]at sd;exact fun S=>zSX x t ds ti r q tr u rfl rfl (yB sd.1.1.1) h1 h2 h3 h4 hx hr hg sd.1.1.2 (by simpa using sd.1.2) sd.2
end
end Go.Ab

namespace Go.Ab
open Go
section
variable {P:Program}{Γ:Ctx}{E:Env}{x:Operand}{ty:TypeId}{ps:String}{af:Array Edge}{gd:Option (Nat×Bool)}
theorem zZk{t:TypeId}{ti:TypeInfo}{r s:Nat}{q:List Nat}{tr tr' u0:T}{v:Value}(hi:P.info? t=dJ ti)(gy:ti.size=1)(hx:opT E x=dJ (.addr r q))(hr:E r=dJ tr)(hg:tr.get q.reverse=dJ u0)(gu:tr.set q.reverse (.lit v)=tr')(hy:E s=dJ (.lit v))
  (sd:(tr.single&&tr.locd q.reverse&&wQ (.lit v) u0&&(r != s))=dL):Ok P Γ ⟨dK,.store t x (.tmp s),ty,ps,af,gd⟩ E (E.app [(r,dJ tr')] [(r,q.length)]):=by
 simp only[J2]at sd;subst gu;intro S;have:=zJ5 (P:=P) (Γ:=Γ.at S) (E:=E) (o:=⟨dK,.store t x (.tmp s),ty,ps,af,gd⟩) t ti x (.tmp s) r q tr u0 (.slot s (.lit v)) rfl rfl hi (by rw[gy];rfl) (by omega) hx hr sd.1.1.1 hg sd.1.1.2 sd.1.2 (.slot s _)
  ⟨fun s' t' h=>by simp at h;obtain⟨rfl,rfl⟩:=h;exact⟨hy,by simp[zT,yT],rfl⟩,fun u h=>by simp at h,by simp[xD,tQ]⟩
 exact this
theorem zWG{t:TypeId}{ti:TypeInfo}{r:Nat}{q:List Nat}{tr tr' u0:T}{v:Value}(hi:P.info? t=dJ ti)(gy:ti.size=1)(hx:opT E x=dJ (.addr r q))(hr:E r=dJ tr)(hg:tr.get q.reverse=dJ u0)(gu:tr.set q.reverse (.lit v)=tr')
  (sd:(tr.single&&tr.locd q.reverse&&wQ (.lit v) u0&&(T.lit v).zOk)=dL)(hz:uV (.lit v)=v.cells.toList):Ok P Γ ⟨dK,.store t x (.const v),ty,ps,af,gd⟩ E (E.app [(r,dJ tr')] [(r,q.length)]):=by
 simp only[J2]at sd;subst gu;intro S;have:=zJ5 (P:=P) (Γ:=Γ.at S) (E:=E) (o:=⟨dK,.store t x (.const v),ty,ps,af,gd⟩) t ti x (.const v) r q tr u0 (.zero (.lit v)) rfl rfl hi (by rw[gy];rfl) (by omega) hx hr sd.1.1.1 hg sd.1.1.2 sd.1.2 (.zero v _ hz)
  ⟨fun s' t' h=>by simp at h,fun u h=>by simp at h;subst h;exact sd.2,by simp[xD]⟩
 exact this
end
end Go.Ab

namespace Go.Ab
open Go
theorem zL.tr{Γ:Ctx}{E:Env}(d r:Nat)(u:T)(hd:E d=dJ (.same r []))(hr:E r=dJ u)(e7:zT u)(sd:(u.single&&yP u&&u.okB [(d,1),(r,1)]&&(d != r))=dL):
  zL Γ E (E.app [(d,dJ u),(r,dJ (.same d []))] [(d,1),(r,1)]):=by
 simp only[J2]at sd
 rintro a w ⟨S,hS,hs⟩
 have gf:d≠r:=by simpa using sd.2
 have hg:∀t:T,t.get []=dJ t:=fun t=>by cases t<;>rfl
 have:=zL2 hs d [] r [] (.same r []) u u hd rfl hr (hg u) sd.1.1.1 e7 gf (by simp[T.okB,zA3]) sd.1.2 rfl sd.1.1.2;exact⟨S,hS,this⟩
theorem zCT{α:Type}{f:α→T}(hf:∀x,zT (f x)):(xs:List α)→xI (xs.map f)
 | []=>trivial
 |x::xs=>⟨hf x,zCT hf xs⟩
theorem zNl{α:Type}{f:α→T}{k:Nat}{xs:List α}(hf:∀x,zT (f x)):zT (L k f xs):=by simp only[zT,yT];exact zCT hf xs
theorem zNm(n:Int):zT (I n):=by simp[zT,yT]
theorem zTg(b:Bool):zT (B b):=by simp[zT,yT]
end Go.Ab

namespace Go.Ab
open Go
section
variable {P:Program}{Γ:Ctx}{E:Env}{d:Nat}{x y:Operand}{ty:TypeId}{ps:String}{af:Array Edge}{gd:Option (Nat×Bool)}{m n c:Int}{xt yt:TypeId}
theorem zU5(hv:rng (m-n)=dJ c)(hx:opT E x=dJ (I m))(hy:opT E y=dJ (I n))(sd:J5 d Γ.N=dL):Ok P Γ ⟨dJ d,.binOp .sub xt x y yt,ty,ps,af,gd⟩ E (E.app [(d,dJ (I c))] [(d,0)]):=by obtain⟨rfl,h⟩:=zBD hv;exact fun _=>tI .sub xt yt x y .i64 m n _ rfl rfl (yB sd) hx hy (by simp only[zI2,zBC h])
theorem zU6(hv:rng (m*n)=dJ c)(hx:opT E x=dJ (I m))(hy:opT E y=dJ (I n))(sd:J5 d Γ.N=dL):Ok P Γ ⟨dJ d,.binOp .mul xt x y yt,ty,ps,af,gd⟩ E (E.app [(d,dJ (I c))] [(d,0)]):=by obtain⟨rfl,h⟩:=zBD hv;exact fun _=>tI .mul xt yt x y .i64 m n _ rfl rfl (yB sd) hx hy (by simp only[zI2,zBC h])
def uY(m n:Int):Option Int:=if n=0 then dK else rng (m.tdiv n)
def uC(m n:Int):Option Int:=if n=0 then dK else dJ (m.tmod n)
theorem zWH(hv:uY m n=dJ c)(hx:opT E x=dJ (I m))(hy:opT E y=dJ (I n))(sd:J5 d Γ.N=dL):Ok P Γ ⟨dJ d,.binOp .quo xt x y yt,ty,ps,af,gd⟩ E (E.app [(d,dJ (I c))] [(d,0)]):=by
 unfold uY at hv;split at hv
 ·cases hv
 ·rename_i h0
  obtain⟨rfl,h⟩:=zBD hv;exact fun _=>tI .quo xt yt x y .i64 m n _ rfl rfl (yB sd) hx hy (by simp only[zI2,h0,if_false,zBC h])
theorem zU7(hv:uC m n=dJ c)(hx:opT E x=dJ (I m))(hy:opT E y=dJ (I n))(sd:J5 d Γ.N=dL):Ok P Γ ⟨dJ d,.binOp .rem xt x y yt,ty,ps,af,gd⟩ E (E.app [(d,dJ (I c))] [(d,0)]):=by
 unfold uC at hv;split at hv
 ·cases hv
 ·rename_i h0
  simp at hv;subst hv;exact fun _=>tI .rem xt yt x y .i64 m n _ rfl rfl (yB sd) hx hy (by simp only[zI2,h0,if_false])
theorem zWI(hx:opT E x=dJ (I m))(hy:opT E y=dJ (I n))(sd:J5 d Γ.N=dL):Ok P Γ ⟨dJ d,.binOp .leq xt x y yt,ty,ps,af,gd⟩ E (E.app [(d,dJ (B (decide (m≤n))))] [(d,0)]):=
 fun _=>tI .leq xt yt x y .i64 m n _ rfl rfl (yB sd) hx hy rfl
theorem zU8(hx:opT E x=dJ (I m))(hy:opT E y=dJ (I n))(sd:J5 d Γ.N=dL):Ok P Γ ⟨dJ d,.binOp .gtr xt x y yt,ty,ps,af,gd⟩ E (E.app [(d,dJ (B (decide (m> n))))] [(d,0)]):=
 fun _=>tI .gtr xt yt x y .i64 m n _ rfl rfl (yB sd) hx hy rfl
theorem zU9(hx:opT E x=dJ (I m))(hy:opT E y=dJ (I n))(sd:J5 d Γ.N=dL):Ok P Γ ⟨dJ d,.binOp .geq xt x y yt,ty,ps,af,gd⟩ E (E.app [(d,dJ (B (decide (m≥n))))] [(d,0)]):=
 fun _=>tI .geq xt yt x y .i64 m n _ rfl rfl (yB sd) hx hy rfl
theorem zPW(hx:opT E x=dJ (I m))(hy:opT E y=dJ (I n))(sd:J5 d Γ.N=dL):Ok P Γ ⟨dJ d,.binOp .eql xt x y yt,ty,ps,af,gd⟩ E (E.app [(d,dJ (B (m==n)))] [(d,0)]):=
 fun _=>tI .eql xt yt x y .i64 m n _ rfl rfl (yB sd) hx hy rfl
theorem zNn(hx:opT E x=dJ (I m))(hy:opT E y=dJ (I n))(sd:J5 d Γ.N=dL):Ok P Γ ⟨dJ d,.binOp .neq xt x y yt,ty,ps,af,gd⟩ E (E.app [(d,dJ (B (m != n)))] [(d,0)]):=
 fun _=>tI .neq xt yt x y .i64 m n _ rfl rfl (yB sd) hx hy rfl
theorem zAF{b:Bool}(hx:opT E x=dJ (B b))(sd:J5 d Γ.N=dL):Ok P Γ ⟨dJ d,.unOp .not xt x,ty,ps,af,gd⟩ E (E.app [(d,dJ (B (!b)))] [(d,0)]):=
 fun _=>zVl xt x b rfl rfl (yB sd) hx
theorem zUA(hv:rng (0-n)=dJ c)(hx:opT E x=dJ (I n))(sd:J5 d Γ.N=dL):Ok P Γ ⟨dJ d,.unOp .neg xt x,ty,ps,af,gd⟩ E (E.app [(d,dJ (I c))] [(d,0)]):=by
 obtain⟨rfl,h⟩:=zBD hv;have:=fun S=>zVm (P:=P) (Γ:=Γ.at S) (E:=E) (o:=⟨dJ d,.unOp .neg xt x,ty,ps,af,gd⟩) xt x .i64 n rfl rfl (yB sd) hx
 rw[zBC h]at this;exact this
end
end Go.Ab

namespace Go.Ab
open Go
section
variable {P:Program}{Γ:Ctx}{E:Env}{d:Nat}{x y:Operand}{ty:TypeId}{ps:String}{af:Array Edge}{gd:Option (Nat×Bool)}
class zFV (P:Program) (t:TypeId) (u:outParam T):Prop where
 h:∃ti z,P.info? t=dJ ti∧ti.zero=dJ z∧u.zOk=dL∧uV u=z.cells.toList∧z.cells.size=u.size
theorem zIH{t:TypeId}{u:T}(ht:zFV P t u)(sd:J5 d Γ.N=dL):Ok P Γ ⟨dJ d,.alloc t,ty,ps,af,gd⟩ E (E.app [(d,dJ (.ptr u))] [(d,0)]):=by obtain⟨ti,z,h1,h2,h3,h4,h5⟩:=ht.h;exact fun S=>zPA t ti z u rfl rfl (yB sd) h1 h2 h3 h4 h5
theorem zPX{s i:Nat}{ts:List T}{t:T}(hs:E s=dJ (.tup ts))(hi:ts[i]? =dJ t)(sd:(J5 d Γ.N&&t.okTup&&(s != d)&&T.okB [(d,0)] (cpT s t [i]))=dL):
  Ok P Γ ⟨dJ d,.extract (.tmp s) i,ty,ps,af,gd⟩ E (E.app [(d,dJ (cpT s t [i]))] [(d,0)]):=by
 simp only[J2]at sd;exact fun S=>zLz s i ts t rfl rfl (yB sd.1.1.1) hs hi (zAE sd.1.1.2) (by simpa using sd.1.2) sd.2
theorem zA1{t:T}(hx:opT E x=dJ t)(hp:zH2 E x=dL)(sd:mvB Γ x t d=dL):Ok P Γ ⟨dJ d,.nilCheck x,ty,ps,af,gd⟩ E (E.app [(d,dJ (uJ x t))] [(d,0)]):=by simp only[mvB,J2]at sd;exact fun S=>zVn x t rfl rfl (yB sd.1.1.1) hx hp (zAE sd.1.1.2) (zD1 sd.1.2) sd.2
theorem zL8{c:Operand}{b:Bool}{t:T}(hc:opT E c=dJ (B b))(hx:opT E (if b then x else y)=dJ t)(sd:mvB Γ (if b then x else y) t d=dL):Ok P Γ ⟨dJ d,.pick c x y,ty,ps,af,gd⟩ E (E.app [(d,dJ (uJ (if b then x else y) t))] [(d,0)]):=by simp only[mvB,J2]at sd;exact fun S=>zSV c x y b t rfl rfl (yB sd.1.1.1) hc hx (zAE sd.1.1.2) (zD1 sd.1.2) sd.2
theorem zPY{t:TypeId}{s:Nat}{u:T}(hs:E s=dJ u)(hu:zT u)(sd:(J5 d Γ.N&&u.okTup&&(s != d))=dL):
  Ok P Γ ⟨dJ d,.box t (.tmp s),ty,ps,af,gd⟩ E (E.app ((d,dJ (.ptr u))::pWr d [.slot s u] 0) ((d,0)::tR [.slot s u])):=by
 simp only[J2]at sd;have gf:s≠d:=by simpa using sd.2
 refine fun S=>zVp t (.tmp s) (.slot s u) rfl rfl (yB sd.1.1) (.slot s u) ⟨fun s' t' h=>by simp at h;obtain⟨rfl,rfl⟩:=h;exact⟨hs,hu,sd.1.2⟩,fun u h=>by simp at h,?_⟩
 simp only[xD];split<;>simp[Ne.symm gf]
end
end Go.Ab

namespace Go.Ab
open Go
def xC{α:Type}(xs ys:List α):Option (List α):=if xs.length+ys.length≤68719476736 then dJ (xs++ys)else dK
theorem zEq{α:Type}{xs ys zs:List α}(h:xC xs ys=dJ zs):zs=xs++ys∧xs.length+ys.length≤68719476736:=by
 unfold xC at h;split at h
 ·simp at h;exact⟨h.symm,by assumption⟩
 ·cases h
section
variable {P:Program}{Γ:Ctx}{E:Env}{d:Nat}{x y:Operand}{ty:TypeId}{ps:String}{af:Array Edge}{gd:Option (Nat×Bool)}
theorem ElT.zsize{t e:TypeId}{ti:TypeInfo}{k:Nat}{u:T}(h:ElT P t e ti k u):∃z,ti.zero=dJ z∧z.cells.size=k:=by obtain⟨z,h1,h2⟩:=h.zero;exact⟨z,h1,by rw[←Kh,←h2,wO u h.zok,h.us]⟩
theorem zCU{α:Type}{t e:TypeId}{ti:TypeInfo}{k:Nat}{u:T}{f:α→T}{xs ys zs:List α}{s0 s1:Nat}(ht:ElT P t e ti k u)(hv:xC xs ys=dJ zs)(h0:E s0=dJ (L k f xs))(h1:E s1=dJ (L k f ys))(sd:(J5 d Γ.N&&(s0 != d)&&(s1 != d)&&(s1 != s0))=dL):
  Ok P Γ ⟨dJ d,.call { callee:=.builtin .append,args:=#[.tmp s0,.tmp s1],argTypes:=#[t,t] },ty,ps,af,gd⟩ E (E.app [(d,dJ (L k f zs)),(s0,dJ .any),(s1,dJ .any)] [(d,0),(s0,1),(s1,1)]):=by
 obtain⟨rfl,hl⟩:=zEq hv;obtain⟨z,hz,eH⟩:=ht.zsize;simp only[J2]at sd;intro S;have:=zIA (P:=P) (Γ:=Γ.at S) (E:=E) (o:=⟨dJ d,.call { callee:=.builtin .append,args:=#[.tmp s0,.tmp s1],argTypes:=#[t,t] },ty,ps,af,gd⟩) t e ti z k s0 s1 (xs.map f) (ys.map f) rfl rfl (yB sd.1.1.1) ht.un ht.info hz ht.size ht.pos eH ht.bytes h0 h1
  (by simpa using sd.1.1.2) (by simpa using sd.1.2) (by simpa using sd.2) (by simpa using hl)
 rw[←Ls]at this;exact this
theorem zHG{α:Type}{f:α→T}(hf:∀x,(f x).flat=dL):(xs:List α)→kZ (xs.map f)=dL
 | []=>rfl
 |x::xs=>by simp only[Jm,kZ,hf x,zHG hf xs,Kj]
theorem zVr{α:Type}{t e:TypeId}{ti:TypeInfo}{k r:Nat}{q:List Nat}{u:T}{f:α→T}{xs ys zs:List α}{s0:Nat}(ht:ElT P t e ti k u)(hf:∀x,(f x).flat=dL)(hv:xC xs ys=dJ zs)(h0:E s0=dJ (L k f xs))(h1:uU E y=dJ (r,q,L k f ys))(sd:(J5 d Γ.N&&(s0 != d))=dL):
  Ok P Γ ⟨dJ d,.call { callee:=.builtin .append,args:=#[.tmp s0,y],argTypes:=#[t,t] },ty,ps,af,gd⟩ E (E.app [(d,dJ (L k f zs)),(s0,dJ .any)] [(d,0),(s0,1)]):=by
 obtain⟨rfl,hl⟩:=zEq hv;obtain⟨z,hz,eH⟩:=ht.zsize;simp only[J2]at sd;intro S;have:=zIB (P:=P) (Γ:=Γ.at S) (E:=E) (o:=⟨dJ d,.call { callee:=.builtin .append,args:=#[.tmp s0,y],argTypes:=#[t,t] },ty,ps,af,gd⟩) t e ti z k s0 y r q (xs.map f) (ys.map f) rfl rfl (yB sd.1) ht.un ht.info hz ht.size ht.pos eH ht.bytes h0 h1 (zHG hf ys)
  (by simpa using sd.2) (by simpa using hl)
 rw[←Ls]at this;exact this
end
end Go.Ab

namespace Go.Ab
open Go
abbrev IK(k:IntKind)(n:Int):T:=.lit (.int k n)
abbrev Str(s:ByteArray):T:=.lit (.string s)
abbrev Pt{α:Type}(f:α→T)(x:α):T:=.ptr (f x)
abbrev Ro{α:Type}(f:α→T)(x:α):T:=.ro (f x)
abbrev A2{α:Type}(f:α→T)(x:α×α):T:=.agg [f x.1,f x.2]
theorem bd{α β:Type}{o:Option α}{f:α→Option β}{r:β}(h:o.bind f=dJ r):∃v,o=dJ v∧f v=dJ r:=by
 cases o with
 |none=>simp at h
 |some v=>grind
theorem cT{α:Type}{b:Bool}{x y:α}{z:α}(hc:b=dL)(h:cond b x y=z):x=z:=by grind
theorem cF{α:Type}{b:Bool}{x y:α}{z:α}(hc:b=dM)(h:cond b x y=z):y=z:=by grind
theorem sI{α:Type}{x y:α}(h:dJ x=dJ y):x=y:=Hf.inj h
section
variable {P:Program}{Γ:Ctx}{pn:jX}{E E':Env}{Q:Exit→Env→Prop}{c:Code}{id id':Nat}
theorem nA(h:CW P Γ pn c E Q):xP P Γ pn c Q .normal E:=h
theorem xA(h:Q (.exit id) E):xP P Γ pn c Q (.exit id) E:=h
theorem rA(h:Q .ret E):xP P Γ pn c Q .ret E:=h
theorem nB(h:Q .normal E):xQ id Q .normal E:=h
theorem rB(h:Q .ret E):xQ id Q .ret E:=h
theorem xB(h:Q .normal E):xQ id Q (.exit id) E:=by simp only[xQ,if_true];exact h
theorem neX:Exit.exit id≠.normal:=by simp
theorem neR:Exit.ret≠.normal:=by simp
theorem RW.cases{ops:Array Oper}{os:List Oper}(s:Nat)(b:Bool)(hb:E s=dJ (B b))(ht:b=dL→RW P Γ pn ops os (E.app [(s,dJ (B dL))] []) Q)(hf:b=dM→RW P Γ pn ops os (E.app [(s,dJ (B dM))] []) Q):RW P Γ pn ops os E Q:=by
 have key:∀c:Bool,b=c→zL Γ E (E.app [(s,dJ (B c))] []):=by
  rintro c rfl a w hs
  refine hs.weaken fun s' t h=>?_
  by_cases e:s=s'
  ·grind[Env.app,Wr.find]
  ·simp only[Env.app,Wr.find,e,if_false]at h
   grind
 cases hc:b with
 |true=>grind[ghost]
 |false=>grind[ghost]
end
theorem zN{α:Type}{k:Nat}{f:α→T}{xs:List α}{i:Int}{v:α}{p:List Nat}{u:T}(h:ixO xs i=dJ v)(hr:(f v).get p=dJ u):(L k f xs).get (i.toNat::p)=dJ u:=by simp[T.get,(uX h).2,hr]
theorem yW{t u:T}{p:List Nat}(h:t.get p=dJ u):(T.ptr t).get (0::p)=dJ u:=h
theorem yX{xs:List T}{x u:T}{j:Nat}{p:List Nat}(hj:xs[j]? =dJ x)(h:x.get p=dJ u):(T.agg xs).get (j::p)=dJ u:=by grind[T.get]
theorem zBF{α:Type}{k:Nat}{f:α→T}{xs:List α}{i:Int}{v w:α}{p:List Nat}{u:T}(h:ixO xs i=dJ v)(hr:(f v).set p u=f w):(L k f xs).set (i.toNat::p) u=L k f (xs.set i.toNat w):=by simp[L,T.set,(uX h).2,hr,Jcc]
theorem zBG{t u t':T}{p:List Nat}(h:t.set p u=t'):(T.ptr t).set (0::p) u=T.ptr t':=by simp[T.set,h]
theorem zOn{xs:List T}{x u x':T}{j:Nat}{p:List Nat}(hj:xs[j]? =dJ x)(h:x.set p u=x'):(T.agg xs).set (j::p) u=.agg (xs.set j x'):=by grind[T.set]
class Enc {α:Type} (f:α→T):Prop where
 clean:∀x,zT (f x)
 rofree:∀x,wG (f x)=dL
 strip:∀x,strip (f x)=f x
 okTup:∀x,(f x).okTup=dL
 rook:∀x,zEg (f x)=dL
theorem zFW{α:Type}{f:α→T}(h:∀x,wG (f x)=dL):(xs:List α)→vR (xs.map f)=dL
 | []=>rfl
 |x::xs=>by simp only[Jm,vR,h x,zFW h xs,Kj]
theorem zFX{α:Type}{f:α→T}(h:∀x,zEg (f x)=dL):(xs:List α)→zAA (xs.map f)=dL
 | []=>rfl
 |x::xs=>by simp only[Jm,zAA,h x,zFX h xs,Kj]
theorem tF{α:Type}{f g:α→T}(h:∀x,strip (f x)=g x):(xs:List α)→wD (xs.map f)=xs.map g
 | []=>rfl
 |x::xs=>by simp only[Jm,wD,h x,tF h xs]
instance:Enc I:=⟨zNm,fun _=>rfl,fun _=>rfl,fun _=>rfl,fun _=>rfl⟩
instance:Enc B:=⟨zTg,fun _=>rfl,fun _=>rfl,fun _=>rfl,fun _=>rfl⟩
instance{k:IntKind}:Enc (IK k):=⟨fun _=>by simp[zT,yT],fun _=>rfl,fun _=>rfl,fun _=>rfl,fun _=>rfl⟩
instance:Enc Str:=⟨fun _=>by simp[zT,yT],fun _=>rfl,fun _=>rfl,fun _=>rfl,fun _=>rfl⟩
instance{α:Type}{k:Nat}{f:α→T}[h:Enc f]:Enc (L k f):=
 ⟨fun _=>zNl h.clean,fun xs=>by simp only[wG];exact zFW h.rofree xs,fun xs=>by simp only[L,strip,tF h.strip xs],fun _=>rfl,fun xs=>by simp only[zEg,zFX h.rook xs]⟩
instance{α:Type}{f:α→T}[h:Enc f]:Enc (A2 f):=
 ⟨fun x=>by simp only[zT,yT,xL];exact⟨h.clean _,h.clean _,trivial⟩,fun x=>by simp only[wG,vR,h.rofree,Kj],fun x=>by simp only[A2,strip,wD,h.strip],
  fun x=>by simp only[T.okTup,yO,h.okTup,Kj],fun x=>by simp only[zEg,zAA,h.rook,Kj]⟩
instance{α:Type}{f:α→T}[h:Enc f]:Enc (Pt f):=
 ⟨fun x=>by simp only[zT,yT];exact h.clean x,fun x=>by simp only[wG,h.rofree],fun x=>by simp only[Pt,strip,h.strip],fun _=>rfl,fun x=>by simp only[zEg,h.rook]⟩
class uF {α:Type} (f g:α→T):Prop where
 h:∀x,strip (f x)=g x
instance{α:Type}{f:α→T}[h:Enc f]:uF f f:=⟨h.strip⟩
instance{α:Type}{k:Nat}{f g:α→T}[h:uF f g]:uF (L k f) (L k g):=⟨fun xs=>by simp only[L,strip,tF h.h xs]⟩
instance{α:Type}{k:Nat}{g:α→T}:uF (Ro (L k g)) (L k g):=⟨fun _=>rfl⟩
instance{α:Type}{g:α→T}:uF (Ro (Pt g)) (Pt g):=⟨fun _=>rfl⟩
theorem stA{xs ys:List T}(h:wD xs=ys):strip (.agg xs)=.agg ys:=by grind[strip]
theorem stC{x y:T}{xs ys:List T}(h:strip x=y)(h2:wD xs=ys):wD (x::xs)=y::ys:=by grind[wD]
section
variable {E:Env}{rw:Rw}{i s r:Nat}{q:List Nat}{x:Operand}
theorem tM{α:Type}{k:Nat}{f g:α→T}{xs:List α}(h:uF f g):clo E (L k f xs)=.ro (L k g xs):=by simp only[clo,L,strip,tF h.h xs]
theorem zHg{t u:T}(h:strip t=u):clo E (.ptr t)=.ro (.ptr u):=by grind[clo,strip]
theorem zEr{tr u:T}(hr:E r=dJ tr)(hg:tr.get q.reverse=dJ u)(h4:kI u=dL):sV E 4 r q=dJ (r,q,u):=by grind[kI,sV]
theorem wU{α:Type}{k:Nat}{f g:α→T}{xs:List α}{tr:T}(hr:E r=dJ tr)(hg:tr.get q.reverse=dJ (L k f xs))(h:uF f g):clo E (.same r q)=.ro (L k g xs):=by simp only[clo,zEr hr hg rfl,T.single,if_true,L,strip,tF h.h xs]
theorem zVs{α:Type}{k l h:Nat}{f g:α→T}{xs:List α}{tr:T}(hr:E r=dJ tr)(hg:tr.get q.reverse=dJ (L k f xs))(hs:uF f g)(h1:l≤h)(h2:h≤xs.length):clo E (.sub r q k l h)=.ro (L k g ((xs.drop l).take (h-l))):=by simp only[clo,zEr hr hg rfl,L,tF hs.h xs,Jt,h1,h2,and_self,if_true,Jap,Qr]
theorem tS{xs ys:List T}(h:zAC E xs=ys):clo E (.agg xs)=.agg ys:=by grind[clo]
theorem tT:zAC E []=[]:=rfl
theorem xF{x y:T}{xs ys:List T}(h:clo E x=y)(h2:zAC E xs=ys):zAC E (x::xs)=y::ys:=by grind[zAC]
mutual
theorem zHH(s:Nat):(t:T)→t.okTup=dL→tZ E [] s t=dL
 |.agg xs,h=>by simp only[tZ,T.okTup]at h ⊢;exact zFY s xs h
 |.tup _,h=>by grind[T.okTup]
 |.same r q,_|.sub r q _ _ _,_=>by grind[tZ]
 |.sl _ _,_|.ptr _,_=>by rfl
 |.lit _,_|.ro _,_|.any,_|.addr _ _,_=>by rfl
theorem zFY(s:Nat):(xs:List T)→yO xs=dL→zAa E [] s xs=dL
 | [],_=>rfl
 |x::xs,h=>by simp only[yO,J2]at h;simp only[zAa,zHH s x h.1,zFY s xs h.2,Kj]
end
theorem agC{u:T}(t:T)(h:opT E x=dJ t)(h1:clo E t=u)(h2:t.okTup=dL):zBw E [] i x u:=.inr ⟨t,h,h1,by
 cases x with
 |tmp s=>exact zHH s t h2
 |_=>rfl⟩
end
section
variable {P:Program}{Γ:Ctx}{E:Env}{d:Nat}{x y:Operand}{ty:TypeId}{ps:String}{af:Array Edge}{gd:Option (Nat×Bool)}
abbrev qE(res:List T):Prop:=xI res∧yO res=dL∧vR res=dL
theorem wB:qE []:=⟨trivial,rfl,rfl⟩
theorem xY{α:Type}{f:α→T}{x:α}{ts:List T}(h:Enc f)(h2:qE ts):qE (f x::ts):=
 ⟨⟨h.clean x,h2.1⟩,by simp only[yO,h.okTup,h2.2.1,Kj],by simp only[vR,h.rofree,h2.2.2,Kj]⟩
abbrev zAb(P:Program)(f:FuncId):Prop:=∀args w,(callFunc f args).run P w=.ok (.enter f args) w
theorem yQ{f:FuncId}{xs:List Operand}{ats:Array TypeId}{us res:List T}(gv:zAb P f)(hc:FnC P f us res [])(gc:xG E [] 0 xs us)(gn:qE res)(sd:J5 d Γ.N=dL):
  Ok P Γ ⟨dJ d,.call { callee:=.value (.func f),args:=xs.toArray,argTypes:=ats },ty,ps,af,gd⟩ E (E.app (cWr d res []) (uE d [])):=
 fun _S=>zNi f (.func f) xs ats us res [] rfl rfl (yB sd) gv rfl hc gc .nil gn
theorem zTh{f:FuncId}{xs:List Operand}{ats:Array TypeId}{us res:List T}(gv:zAb P f)(hc:FnC P f us res [])(gm:xs.length=us.length)(gc:∀(i:Nat) u,us[i]? =dJ u→ ∃x,xs[i]? =dJ x∧opT E x=dJ u∧u.flat=dL)(gn:xI res∧yO res=dL)(sd:J5 d Γ.N=dL):
  Ok P Γ ⟨dJ d,.call { callee:=.value (.func f),args:=xs.toArray,argTypes:=ats },ty,ps,af,gd⟩ E (E.app (cWr d res []) (uE d [])):=
 fun _S=>zPM f (.func f) xs ats us res rfl rfl (yB sd) gv rfl hc gm gc gn
class tN (P:Program) (S:TypeId) (j:Nat) (off:outParam Nat):Prop where
 h:∃fs f fi,P.underlying S=dJ (.struct fs)∧fs[j]? =dJ f∧P.info? f.type=dJ fi∧fi.size≠0∧off=f.offset
theorem zVt{S:TypeId}{j off r:Nat}{q:List Nat}{xs:List T}{u:T}(ht:tN P S j off)(hx:uU E x=dJ (r,q,.ptr (.agg xs)))(hu:xs[j]? =dJ u)(gF:T.sizes (xs.take j)=off)(sd:J5 d Γ.N=dL):
  Ok P Γ ⟨dJ d,.fieldAddr S x j,ty,ps,af,gd⟩ E (E.app [(d,dJ (.addr r (j::0::q)))] [(d,0)]):=by
 obtain⟨fs,f,fi,h1,h2,h3,h4,h5⟩:=ht.h;exact fun _=>zWB x S fs f fi j r q xs u rfl rfl (yB sd) h1 h2 h3 h4 hx hu (by omega)
theorem zD3{S:TypeId}{j off r:Nat}{q:List Nat}{t:T}{xs:List T}{u:T}(ht:tN P S j off)(hx:opT E x=dJ (.addr r q))(hr:E r=dJ t)(hg:t.get q.reverse=dJ (.agg xs))(hu:xs[j]? =dJ u)(gF:T.sizes (xs.take j)=off)(sd:(J5 d Γ.N&&t.locd q.reverse)=dL):
  Ok P Γ ⟨dJ d,.fieldAddr S x j,ty,ps,af,gd⟩ E (E.app [(d,dJ (.addr r (j::q)))] [(d,0)]):=by
 obtain⟨fs,f,fi,h1,h2,h3,h4,h5⟩:=ht.h;simp only[J2]at sd;exact fun _=>zLw x S fs f fi j r q t xs u rfl rfl (yB sd.1) h1 h2 h3 h4 hx hr hg sd.2 hu (by omega)
theorem zPZ{S:TypeId}{j off:Nat}{xs:List T}{u:T}(ht:tN P S j off)(hx:opT E x=dJ (.ro (.ptr (.agg xs))))(hu:xs[j]? =dJ u)(gF:T.sizes (xs.take j)=off)(sd:J5 d Γ.N=dL):
  Ok P Γ ⟨dJ d,.fieldAddr S x j,ty,ps,af,gd⟩ E (E.app [(d,dJ (.ro (.ptr u)))] [(d,0)]):=by
 obtain⟨fs,f,fi,h1,h2,h3,h4,h5⟩:=ht.h;exact fun _=>zP2 x S fs f fi j xs u rfl rfl (yB sd) h1 h2 h3 h4 hx hu (by omega)
def zW{α:Type}(xs:List α)(l h:Int):Option (List α):=if 0≤l∧l≤h∧h≤(xs.length:Int)then dJ ((xs.drop l.toNat).take (h.toNat-l.toNat))else dK
theorem zWJ{α:Type}{t e:TypeId}{ti:TypeInfo}{r k:Nat}{q:List Nat}{f:α→T}{xs ys:List α}{lo hi:Option Operand}{l h:Int}(ht:zBb P t e ti k)(hv:zW xs l h=dJ ys)(hx:uU E x=dJ (r,q,.ro (L k f xs)))(ej:zAY E lo 0 l.toNat)(eS:zAY E hi xs.length h.toNat)(sd:J5 d Γ.N=dL):
  Ok P Γ ⟨dJ d,.slice t x lo hi dK,ty,ps,af,gd⟩ E (E.app [(d,dJ (.ro (L k f ys)))] [(d,0)]):=by
 unfold zW at hv;split at hv
 ·rename_i hc
  simp at hv;subst hv;intro S;have:=zJz (P:=P) (Γ:=Γ.at S) (E:=E) (o:=⟨dJ d,.slice t x lo hi dK,ty,ps,af,gd⟩) x lo hi t e ti r q k (xs.map f) l.toNat h.toNat rfl rfl (yB sd) ht.un ht.info ht.size hx ej (by grind) (by omega) (by simp;omega);simpa[L,Jap,Qr]using this
 ·cases hv
theorem zJN{α:Type}{t e:TypeId}{ti:TypeInfo}{r k:Nat}{q:List Nat}{f:α→T}{xs ys:List α}{lo hi:Option Operand}{l h:Int}(ht:zBb P t e ti k)(hv:zW xs l h=dJ ys)(hx:uU E x=dJ (r,q,L k f xs))(ej:zAY E lo 0 l.toNat)(eS:zAY E hi xs.length h.toNat)(sd:(J5 d Γ.N&&(r != d))=dL):
  Ok P Γ ⟨dJ d,.slice t x lo hi dK,ty,ps,af,gd⟩ E (E.app [(d,dJ (.sub r q k l.toNat h.toNat))] [(d,0)]):=by
 unfold zW at hv;simp only[J2]at sd;split at hv
 ·rename_i hc
  intro S;exact zI3 (P:=P) (Γ:=Γ.at S) (E:=E) (o:=⟨dJ d,.slice t x lo hi dK,ty,ps,af,gd⟩) x lo hi t e ti r q k (xs.map f) l.toNat h.toNat rfl rfl (yB sd.1) ht.un ht.info ht.size hx ej (by grind) (by omega) (by simp;omega) (by grind)
 ·cases hv
end
end Go.Ab

namespace Go.Ab
open Go
theorem zB{t:T}(h:zT t):zT t:=h
theorem zF{α:Type}{f:α→T}{k:Nat}{xs:List α}(hf:∀x,zT (f x)):zT (L k f xs):=zNl hf
theorem zQa{t:T}(h:zT t):zT (.ptr t):=by simpa only[zT,yT]using h
theorem yC{xs:List T}(h:xI xs):zT (.agg xs):=by simpa only[zT,yT]using h
section
variable {P:Program}{Γ:Ctx}{pn:jX}{E E':Env}{Q:Exit→Env→Prop}{c c1 c2:Code}{x:Operand}
theorem CW.condT(hx:opT E x=dJ (B dL))(h:CW P Γ pn c1 E Q):CW P Γ pn (.cond x c1 c2) E Q:=by grind[CW.cond]
theorem CW.condF(hx:opT E x=dJ (B dM))(h:CW P Γ pn c2 E Q):CW P Γ pn (.cond x c1 c2) E Q:=by grind[CW.cond]
theorem CW.casesB(b:Bool)(ht:b=dL→CW P Γ pn c E Q)(hf:b=dM→CW P Γ pn c E Q):CW P Γ pn c E Q:=by grind
theorem zD4{wr:Wr}{chg:Chg}{s:Nat}{t:T}(h:E s=dJ t)(hf:wr.find s=dK:=by rfl)(hb:t.okB chg=dL:=by rfl):E.app wr chg s=dJ t:=by grind[Env.app]
theorem zQ.gh{ops:Array Oper}{o:Oper}{E1:Env}(hg:zL Γ E E1)(h:zQ P Γ ops o E1 E'):zQ P Γ ops o E E':=fun a w K Q hs hK=>h a w K Q (hg a w hs) hK
theorem zD5{t:T}(h:opT E x=dJ (.ro (.ptr t))):zH2 E x=dL:=by simp[zH2,h]
end
theorem zVu{E:Env}{n:Nat}:zAY E dK n (n:Int).toNat:=by simp[zAY]
theorem zUB{E:Env}:zAY E dK 0 (0:Int).toNat:=by simp[zAY]
theorem zQb{E:Env}{x:Operand}{n:Int}{d:Nat}(h0:0≤n)(h:opT E x=dJ (I n)):zAY E (dJ x) d n.toNat:=⟨.i64,by grind⟩
theorem tU{α:Type}{xs ys:List α}{l h:Int}(hv:zW xs l h=dJ ys):0≤l∧l≤h∧h≤xs.length∧ys=(xs.drop l.toNat).take (h.toNat-l.toNat):=by grind[zW]
theorem zEs{α:Type}{xs ys:List α}{l h:Int}(hv:zW xs l h=dJ ys):0≤l:=(tU hv).1
theorem zEt{α:Type}{xs ys:List α}{l h:Int}(hv:zW xs l h=dJ ys):0≤h:=by have:=tU hv;omega
theorem zII{E:Env}{r k:Nat}{q:List Nat}{α:Type}{l h:Int}{f g:α→T}{xs ys:List α}{tr:T}(hr:E r=dJ tr)(hg:tr.get q.reverse=dJ (L k f xs))(hs:uF f g)(hv:zW xs l h=dJ ys):
  clo E (.sub r q k l.toNat h.toNat)=.ro (L k g ys):=by
 obtain⟨h1,h2,h3,rfl⟩:=tU hv
 grind[zVs]
section
variable {P:Program}{Γ:Ctx}{E E':Env}{d:Nat}{x y:Operand}{ty:TypeId}{ps:String}{af:Array Edge}{gd:Option (Nat×Bool)}
theorem zBc{o:Oper}{e b:Bool}{d:Nat}{wr:Wr}{chg:Chg}(he:e=b)(h:Ok P Γ o E (E.app ((d,dJ (B e))::wr) chg)):Ok P Γ o E (E.app ((d,dJ (B b))::wr) chg):=he▸h
theorem zWK{t:TypeId}{u tr t0:T}{r:Nat}{q:List Nat}(ht:zTf P t u)(hx:uU E x=dJ (r,q,.ptr t0))(hr:E r=dJ tr)(hg:tr.get (0::q).reverse=dJ u)(sd:(J5 d Γ.N&&tr.locd (0::q).reverse&&(r != d)&&T.okB [(d,0)] (cpT r u (0::q)))=dL):
  Ok P Γ ⟨dJ d,.load t x,ty,ps,af,gd⟩ E (E.app [(d,dJ (cpT r u (0::q)))] [(d,0)]):=by
 obtain⟨ds,ti,h1,h2,h3,h4⟩:=ht.h;simp only[J2]at sd;exact fun S=>zJw x t ds ti r (0::q) tr u rfl rfl (yB sd.1.1.1) h1 h2 h3 h4 (zAn.ptr hx) hr hg sd.1.1.2 (by grind) sd.2
theorem zUC{t:TypeId}{ti:TypeInfo}{r s:Nat}{q:List Nat}{tr tr' u0 u:T}(hi:P.info? t=dJ ti)(gy:(ti.size==u.size&&J5 0 ti.size)=dL)(hx:∀S,zAn (Γ.at S) E x r q)(hr:E r=dJ tr)(hg:tr.get q.reverse=dJ u0)(gu:tr.set q.reverse u=tr')(hy:E s=dJ u)(hu:zT u)
  (sd:(tr.single&&tr.locd q.reverse&&wQ u u0&&(r != s)&&u.okTup)=dL):Ok P Γ ⟨dK,.store t x (.tmp s),ty,ps,af,gd⟩ E (E.app ((r,dJ tr')::sWr r q (.slot s u)) ((r,q.length)::tR [.slot s u])):=by
 simp only[J2]at sd gy;subst gu;intro S;refine zEf (P:=P) (Γ:=Γ.at S) (E:=E) (o:=⟨dK,.store t x (.tmp s),ty,ps,af,gd⟩) t ti x (.tmp s) r q tr u0 (.slot s u) rfl rfl hi (by grind[yK.tree]) (yB gy.2) (hx S) hr sd.1.1.1.1 hg sd.1.1.1.2 sd.1.1.2 (.slot s _)
  ⟨by grind,by simp,?_⟩
 grind[xD]
theorem zIJ{t:TypeId}{ti:TypeInfo}{r s:Nat}{q:List Nat}{tr tr' u0 u:T}(hi:P.info? t=dJ ti)(gy:(ti.size==u.size&&J5 0 ti.size)=dL)(hx:opT E x=dJ (.addr r q))(hr:E r=dJ tr)(hg:tr.get q.reverse=dJ u0)(gu:tr.set q.reverse u=tr')(hy:E s=dJ u)(hu:zT u)
  (sd:(tr.single&&tr.locd q.reverse&&wQ u u0&&(r != s)&&u.okTup)=dL):Ok P Γ ⟨dK,.store t x (.tmp s),ty,ps,af,gd⟩ E (E.app ((r,dJ tr')::sWr r q (.slot s u)) ((r,q.length)::tR [.slot s u])):=
 zUC hi gy (fun _=>zAn.addr hx) hr hg gu hy hu sd
theorem wW{t:TypeId}{ti:TypeInfo}{r s:Nat}{q:List Nat}{tr tr' u0 u t0:T}(hi:P.info? t=dJ ti)(gy:(ti.size==u.size&&J5 0 ti.size)=dL)(hx:uU E x=dJ (r,q,.ptr t0))(hr:E r=dJ tr)(hg:tr.get (0::q).reverse=dJ u0)(gu:tr.set (0::q).reverse u=tr')(hy:E s=dJ u)(hu:zT u)
  (sd:(tr.single&&tr.locd (0::q).reverse&&wQ u u0&&(r != s)&&u.okTup)=dL):Ok P Γ ⟨dK,.store t x (.tmp s),ty,ps,af,gd⟩ E (E.app ((r,dJ tr')::sWr r (0::q) (.slot s u)) ((r,(0::q).length)::tR [.slot s u])):=
 zUC hi gy (fun _=>zAn.ptr hx) hr hg gu hy hu sd
theorem zVv{t:TypeId}{ti:TypeInfo}{r:Nat}{q:List Nat}{tr tr' u0 u:T}{v:Value}(hi:P.info? t=dJ ti)(gy:(ti.size==u.size&&J5 0 ti.size)=dL)(hx:∀S,zAn (Γ.at S) E x r q)(hr:E r=dJ tr)(hg:tr.get q.reverse=dJ u0)(gu:tr.set q.reverse u=tr')
  (sd:(tr.single&&tr.locd q.reverse&&wQ u u0&&u.zOk)=dL)(hz:uV u=v.cells.toList):Ok P Γ ⟨dK,.store t x (.const v),ty,ps,af,gd⟩ E (E.app [(r,dJ tr')] [(r,q.length)]):=by
 simp only[J2]at sd gy;subst gu;intro S;have:=zEf (P:=P) (Γ:=Γ.at S) (E:=E) (o:=⟨dK,.store t x (.const v),ty,ps,af,gd⟩) t ti x (.const v) r q tr u0 (.zero u) rfl rfl hi (by grind[yK.tree]) (yB gy.2) (hx S) hr sd.1.1.1 hg sd.1.1.2 sd.1.2 (.zero v _ hz)
  ⟨by simp,by grind,by simp[xD]⟩
 exact this
theorem zL9{t:TypeId}{ti:TypeInfo}{r:Nat}{q:List Nat}{tr tr' u0 u:T}{v:Value}(hi:P.info? t=dJ ti)(gy:(ti.size==u.size&&J5 0 ti.size)=dL)(hx:opT E x=dJ (.addr r q))(hr:E r=dJ tr)(hg:tr.get q.reverse=dJ u0)(gu:tr.set q.reverse u=tr')
  (sd:(tr.single&&tr.locd q.reverse&&wQ u u0&&u.zOk)=dL)(hz:uV u=v.cells.toList):Ok P Γ ⟨dK,.store t x (.const v),ty,ps,af,gd⟩ E (E.app [(r,dJ tr')] [(r,q.length)]):=
 by grind[zVv,zAn.addr]
theorem zFZ{G:Gh}{s:Nat}:(xs:List T)→yO xs=dL→ ∀(p:List Nat)(i j:Nat)(u:T),xs[j]? =dJ u→ ∃l1 l2,zY G s xs p i=l1++vals G s u ((i+j)::p)++l2∧l1.length=T.sizes (xs.take j)
 | [],_,_,_,_,_,h=>by simp at h
 |x::xs,ht,p,i,j,u,h=>by
  simp only[yO,J2]at ht;cases j with
  |zero=>simp at h;subst h;exact⟨[],zY G s xs p (i+1),by rfl,by rfl⟩
  |succ j=>
   obtain⟨l1,l2,h1,h2⟩:=zFZ xs ht.2 p (i+1) j u (by grind);refine⟨vals G s x (i::p)++l1,l2,by rw[zY,h1,show i+(j+1)=i+1+j from by omega];simp,?_⟩;rw[Ja,wP x _ (by rintro ys rfl;grind[T.okTup]),h2,La,T.sizes]
theorem zQc{S:TypeId}{j off s:Nat}{xs:List T}{u:T}(ht:tN P S j off)(hv:∃ds ti fs f,P.underlying S=dJ (.struct fs)∧fs[j]? =dJ f∧P.underlying f.type=dJ ds∧P.info? f.type=dJ ti∧zEa ds= !u.single∧ti.size=u.size)(hx:E s=dJ (.agg xs))(hu:xs[j]? =dJ u)(gF:T.sizes (xs.take j)=off)
  (sd:(J5 d Γ.N&&yO xs&&u.okTup&&(s != d)&&T.okB [(d,0)] (cpT s u [j]))=dL):
  Ok P Γ ⟨dJ d,.field S (.tmp s) j,ty,ps,af,gd⟩ E (E.app [(d,dJ (cpT s u [j]))] [(d,0)]):=by
 obtain⟨fs,f,fi,h1,h2,h3,h4,h5⟩:=ht.h;obtain⟨ds,ti,fs',f',g1,g2,g3,g4,g5,g6⟩:=hv;simp only[J2]at sd;rw[h1]at g1;simp at g1;subst g1;rw[h2]at g2;simp at g2;subst g2;rw[h3]at g4;simp at g4;subst g4;intro S';refine xV.value rfl fun a w G g9=>?_
 obtain⟨k1,k2,_⟩:=g9.ent s _ hx;simp only[R]at k2;have k3:=zAy xs [] 0 j u k2 hu;simp only[J8]at k3;have gf:s≠d:=by grind
 have gW:∀ys,u≠.tup ys:=zAE sd.1.1.2;have hk:=G.put_keep (w:=w) (w':=w) rfl d (fun z=>G.hd s (z++[j]));have hz:∀z,(G.put d (fun z=>G.hd s (z++[j]))).hd d (z++[])=G.hd s (z++[j]):=by grind[Gh.put_self]
 refine⟨tP G s u [j],w,?_,_,wR g9 rfl (yB sd.1.1.1.1) (fun z=>G.hd s (z++[j])) (fun z=>g9.mem.one _ _) _ _ (by grind[kV])
  (zCI (fun p=>G.put_other _ p gf) u [j] [] hz gW (hk.keepR (by grind[kF,sP])) k3) (sP s u [j])⟩
 obtain⟨l1,l2,e1,e2⟩:=zFZ (G:=G) (s:=s) xs sd.1.1.1.2 [] 0 j u hu;simp only[J8]at e1;have e3:l1.length=f.offset:=by omega
 have e4:=wP (G:=G) (s:=s) u [j] gW;have bJ:(part f.type (zY G s xs [] 0).toArray f.offset).run P w=.ok (tP G s u [j]) w:=by
  rw[e1];cases u with
  |agg ys=>
   simp[T.single]at g5;simp only[vals,T.size]at e4 g6 ⊢
   simp[part,qW g3,g5,sizeOf,typeInfo,h3,tP]
   grind
  |tup ys=>grind
  |_=>
   simp[T.single]at g5;simp[part,qW g3,g5,tP,vals,←e3]
 simp[execOp,xT k1,mkV,Instr.field,run_underlying h1,h2,asAgg,bJ]
theorem zD6{α:Type}{t e:TypeId}{ti:TypeInfo}{k:Nat}{u:T}{n:Nat}{a:Int}{f:α→T}{z:α}(ht:ElT P t e ti k u)(hz:f z=u)(hn:yV a=dJ n)(hx:opT E x=dJ (I a))(hy:opT E y=dJ (I a))(sd:J5 d Γ.N=dL):
  Ok P Γ ⟨dJ d,.makeSlice t x y,ty,ps,af,gd⟩ E (E.app [(d,dJ (L k f (J1 n z)))] [(d,0)]):=by
 have:=zVq (P:=P) (Γ:=Γ) (E:=E) (d:=d) (ty:=ty) (ps:=ps) (af:=af) (gd:=gd) ht hn hx hn hy (Jf _) sd;rw[←hz]at this;simpa[L]using this
theorem zQd{t e:TypeId}{ti:TypeInfo}{k:Nat}{u:T}(ht:ElT P t e ti k u)(sd:J5 d Γ.N=dL):Ok P Γ ⟨dJ d,.buildSlice t 0 #[],ty,ps,af,gd⟩ E (E.app [(d,dJ (.sl k []))] [(d,0)]):=
 fun _=>zFE t e ti k rfl rfl (yB sd) ht.un ht.info
theorem zQe{t e:TypeId}{s r k l h:Nat}{q:List Nat}{α:Type}{f:α→T}{xs:List α}{tr:T}(hu:P.underlying t=dJ (.slice e))(hx:E s=dJ (.sub r q k l h))(hr:E r=dJ tr)(hg:tr.get q.reverse=dJ (L k f xs))(sd:J5 d Γ.N=dL):
  Ok P Γ ⟨dJ d,.call { callee:=.builtin .len,args:=#[.tmp s],argTypes:=#[t] },ty,ps,af,gd⟩ E (E.app [(d,dJ (I ((h-l:Nat):Int)))] [(d,0)]):=by
 intro S;refine kW (.int .i64 ((h-l:Nat):Int)) rfl rfl (yB sd) fun a w G g9=>?_
 obtain⟨h1,h2,_⟩:=g9.ent s _ hx;obtain⟨_,h4,_⟩:=g9.ent r _ hr;simp only[R]at h2;have h5:=(qN q.reverse tr _ [] h4 hg).1;simp only[rp,Ke,Jg]at h5;obtain⟨a',c,h6⟩:=zFj h5;rw[h6]at h2;simp[execOp,resolve,invoke,builtin,xT h1,mkV,h2,kS,Builtin.len_,run_underlying hu,goInt]
theorem zJO(t:TypeId)(x y:Value):Op.equal t x y=Op.equalIn (9999+1) t x y:=rfl
theorem zFn{P:Program}{w:World}{t:TypeId}{k:IntKind}{a b:Int}(n:Nat)(h:P.underlying t=dJ (.int k)):(Op.equalIn (n+1) t (.int k a) (.int k b)).run P w=.ok (a==b) w:=by simp only[Op.equalIn,Sem.run_bind,run_underlying h];simp
end
end Go.Ab

namespace Go.Ab
open Go
def zBd:List Nat→Bool
 | []=>dL
 |x::xs=> !xs.contains x&&zBd xs
theorem zEu:{l:List Nat}→zBd l=dL→l.Nodup
 | [],_=>by simp
 |x::xs,h=>by simp only[zBd,J2,G6,Lu,decide_eq_false_iff_not]at h;exact Kv.2 ⟨h.1,zEu h.2⟩
def zBe(E:Env):List yK→Prop
 | []=>True
 |.slot s t::l=>(E s=dJ t∧zT t∧t.okTup=dL)∧zBe E l
 |.zero u::l=>u.zOk=dL∧zBe E l
theorem zBe.get{E:Env}:(l:List yK)→zBe E l→(∀s t,yK.slot s t∈l→E s=dJ t∧zT t∧t.okTup=dL)∧ ∀u,yK.zero u∈l→u.zOk=dL
 | [],_=>by simp
 |.slot s t::l,h=>by
  obtain⟨h1,h2⟩:=zBe.get l h.2;exact⟨fun s' t' hm=>by
   rcases Jn.1 hm with e|hm
   ·cases e;exact h.1
   ·exact h1 s' t' hm,fun u hm=>by
   rcases Jn.1 hm with e|hm
   ·cases e
   ·exact h2 u hm⟩
 |.zero u::l,h=>by
  obtain⟨h1,h2⟩:=zBe.get l h.2;exact⟨fun s' t' hm=>by
   rcases Jn.1 hm with e|hm
   ·cases e
   ·exact h1 s' t' hm,fun u' hm=>by
   rcases Jn.1 hm with e|hm
   ·cases e;exact h.1
   ·exact h2 u' hm⟩
section
variable {E:Env}
theorem pkN:zBe E []:=trivial
theorem pkS{s:Nat}{t:T}{l:List yK}(h:E s=dJ t)(hc:zT t)(h3:t.okTup=dL)(hl:zBe E l):zBe E (.slot s t::l):=⟨⟨h,hc,h3⟩,hl⟩
theorem pkZ{u:T}{l:List yK}(h:u.zOk=dL)(hl:zBe E l):zBe E (.zero u::l):=⟨h,hl⟩
theorem zBe.parts{d:Nat}{l:List yK}(h:zBe E l)(hn:zBd (d::xD l)=dL):uR E d l:=⟨(zBe.get l h).1,(zBe.get l h).2,zEu hn⟩
def zCy(E:Env)(zs:List T)(ps:List yK):List (Nat×Operand)→List (Nat×yK)→Prop
 | [],[]=>True
 |x::xs,q::qs=>(x.1=q.1∧jW E x.2 q.2∧ps[q.1]? =dJ q.2∧ ∃u,zs[q.1]? =dJ u∧u.size=q.2.tree.size)∧zCy E zs ps xs qs
 |_,_=>False
theorem bqN{zs:List T}{ps:List yK}:zCy E zs ps [] []:=trivial
theorem bqC{zs:List T}{ps:List yK}{i:Nat}{x:Operand}{q:yK}{xs:List (Nat×Operand)}{qs:List (Nat×yK)}(h:jW E x q)(hl:zCy E zs ps xs qs)(h1:ps[i]? =dJ q:=by rfl)(h2:∃u,zs[i]? =dJ u∧u.size=q.tree.size:=by exact⟨_,rfl,rfl⟩):zCy E zs ps ((i,x)::xs) ((i,q)::qs):=⟨⟨rfl,h,h1,h2⟩,hl⟩
theorem zCy.ix{zs:List T}{ps:List yK}:(pl:List (Nat×Operand))→(qs:List (Nat×yK))→zCy E zs ps pl qs→pl.map (·.1)=qs.map (·.1)
 | [],[],_=>rfl
 |x::xs,q::qs,h=>by simp[h.1.1,zCy.ix xs qs h.2]
 | [],_::_,h=>by grind[zCy]
 |_::_,[],h=>by grind[zCy]
theorem zCy.get{zs:List T}{ps:List yK}:(pl:List (Nat×Operand))→(qs:List (Nat×yK))→zCy E zs ps pl qs→ ∀(j:Nat)(x:Nat×Operand)(q:Nat×yK),pl[j]? =dJ x→qs[j]? =dJ q→jW E x.2 q.2∧q.2∈ps∧ ∃u,zs[q.1]? =dJ u∧u.size=q.2.tree.size
 | [],[],_,j,_,_,h,_=>by simp at h
 |x::xs,q::qs,h,j,x',q',h1,h2=>by
  cases j with
  |zero=>simp at h1 h2;subst h1;subst h2;exact⟨h.1.2.1,Le h.1.2.2.1,h.1.2.2.2⟩
  |succ j=>exact zCy.get xs qs h.2 j x' q' (by grind) (by grind)
 | [],_::_,h,_,_,_,_,_=>by grind
 |_::_,[],h,_,_,_,_,_=>by grind
end
class zGa (P:Program) (t:TypeId) (zs:outParam (List T)):Prop where
 h:∃(place:Nat→Option (Nat×Nat))(z:Value),(∀parts,P.built t parts=Instr.fill place z.cells parts)∧sE zs=z.cells.toList∧kG zs=dL∧ ∀i u,zs[i]? =dJ u→place i=dJ (T.sizes (zs.take i),u.size)
section
variable {P:Program}{Γ:Ctx}{E E':Env}{d:Nat}{x y:Operand}{ty:TypeId}{ps:String}{af:Array Edge}{gd:Option (Nat×Bool)}
theorem tK{t:TypeId}{zs:List T}{pa:Array (Nat×Operand)}(hb:zGa P t zs)(pl:List (Nat×Operand))(qs:List (Nat×yK))(pp:List yK)(gJ:zBe E pp)(hq:zCy E zs pp pl qs)(sd:(J5 d Γ.N&&zBd (d::xD pp))=dL)
  (fc:pa=pl.toArray:=by rfl)(gR:qs.foldl (fun ps q=>ps.set q.1 q.2) (zs.map yK.zero)=pp:=by rfl):Ok P Γ ⟨dJ d,.build t pa,ty,ps,af,gd⟩ E (E.app ((d,dJ (.agg (pp.map yK.tree)))::pWr d pp 0) ((d,0)::tR pp)):=by
 obtain⟨place,z,h1,h2,h3,h4⟩:=hb.h;simp only[J2]at sd;subst fc;exact fun S=>zPB t place z zs pl qs pp rfl rfl (yB sd.1) h1 h2 h3 h4 gR (gJ.parts sd.2) (zCy.ix _ _ hq) (zCy.get _ _ hq)
def zJP(k:Nat):List yK→Bool
 | []=>dL
 |p::l=>(p.tree.size==k)&&zJP k l
theorem zJQ{k:Nat}:(l:List yK)→zJP k l=dL→ ∀p∈l,p.tree.size=k
 | [],_,_,h=>by simp at h
 |p::l,h,q,hm=>by
  simp only[zJP,J2,beq_iff_eq]at h;rcases Jn.1 hm with rfl|hm
  ·exact h.1
  ·exact zJQ l h.2 q hm
theorem zIK{α:Type}{t e:TypeId}{ti:TypeInfo}{k n:Nat}{u:T}{pa:Array (Nat×Operand)}(ht:ElT P t e ti k u)(xs:List Operand)(pp:List yK)(ys:List α)(f:α→T)(hx:vQ E xs pp)(gJ:zBe E pp)
  (sd:(J5 d Γ.N&&zBd (d::xD pp)&&zJP k pp&&J5 0 n&&Jae (n*k) 65536)=dL)(hn:xs.length=n)(fc:pa=((xs.zipIdx 0).map fun x=>(x.2,x.1)).toArray:=by rfl)(hy:pp.map yK.tree=ys.map f:=by rfl):
  Ok P Γ ⟨dJ d,.buildSlice t n pa,ty,ps,af,gd⟩ E (E.app ((d,dJ (L k f ys))::pWr d pp 0) ((d,0)::tR pp)):=by
 obtain⟨z,hz,_⟩:=ht.zero;simp only[J2]at sd;subst fc;intro S;have eQ:n*k≤65536:=by grind[Nat.ble_eq]
 have:=zHd (P:=P) (Γ:=Γ.at S) (E:=E) (o:=⟨dJ d,.buildSlice t n ((xs.zipIdx 0).map fun x=>(x.2,x.1)).toArray,ty,ps,af,gd⟩) t e ti z k n xs pp rfl rfl (yB sd.1.1.1.1) ht.un ht.info hz ht.size ht.pos hn (yB sd.1.2) (by omega) hx (gJ.parts sd.1.1.1.2) (zJQ pp sd.1.1.2)
 grind
theorem zJR{α:Type}{f g:α→T}(h:∀y,roT (g y)=f y):(ys:List α)→roT.roTs (ys.map g)=ys.map f
 | []=>rfl
 |y::ys=>by simp only[Jm,roT.roTs,h y,zJR h ys]
theorem zLA{α:Type}{t e:TypeId}{ti:TypeInfo}{k r:Nat}{q:List Nat}{u:T}{f g:α→T}{xs ys zs:List α}{s0:Nat}(ht:ElT P t e ti k u)(t8:∀y,roT (g y)=f y)(gy:∀y,(g y).size=k)(hg:Enc g)(hv:xC xs ys=dJ zs)(h0:E s0=dJ (L k f xs))(h1:uU E y=dJ (r,q,.ro (L k g ys)))(sd:(J5 d Γ.N&&(s0 != d))=dL):
  Ok P Γ ⟨dJ d,.call { callee:=.builtin .append,args:=#[.tmp s0,y],argTypes:=#[t,t] },ty,ps,af,gd⟩ E (E.app [(d,dJ (L k f zs)),(s0,dJ .any)] [(d,0),(s0,1)]):=by
 obtain⟨rfl,hl⟩:=zEq hv;obtain⟨z,hz,eH⟩:=ht.zsize;simp only[J2]at sd;intro S;have:=zIC (P:=P) (Γ:=Γ.at S) (E:=E) (o:=⟨dJ d,.call { callee:=.builtin .append,args:=#[.tmp s0,y],argTypes:=#[t,t] },ty,ps,af,gd⟩) t e ti z k s0 y r q (xs.map f) (ys.map g) rfl rfl (yB sd.1) ht.un ht.info hz ht.size ht.pos eH ht.bytes h0 h1 (zFX hg.rook ys)
  (by simp_all) (by grind) (by grind)
 rw[zJR t8,←Ls]at this;exact this
def wY{α:Type}(xs:List α)(m:Int)(z:α):Option (List α):=if 0≤m∧xs.length+m.toNat≤68719476736 then dJ (xs++J1 m.toNat z)else dK
theorem zLB{α:Type}{t t2 e:TypeId}{k2:IntKind}{ti:TypeInfo}{k:Nat}{u:T}{f:α→T}{z:α}{xs zs:List α}{s0:Nat}{m:Int}(ht:ElT P t e ti k u)(cV:P.underlying t2=dJ (.int k2))(hz:f z=u)(hv:wY xs m z=dJ zs)(h0:E s0=dJ (L k f xs))(h1:opT E y=dJ (I m))(sd:(J5 d Γ.N&&(s0 != d))=dL):
  Ok P Γ ⟨dJ d,.call { callee:=.builtin .append,args:=#[.tmp s0,y],argTypes:=#[t,t2] },ty,ps,af,gd⟩ E (E.app [(d,dJ (L k f zs)),(s0,dJ .any)] [(d,0),(s0,1)]):=by
 unfold wY at hv;split at hv
 ·rename_i hc
  simp at hv;subst hv;obtain⟨zv,pN,am⟩:=ht.zero;simp only[J2]at sd;obtain⟨n,rfl⟩:∃n:Nat,m=n:=⟨m.toNat,by omega⟩;intro S;have:=zFM (P:=P) (Γ:=Γ.at S) (E:=E) (o:=⟨dJ d,.call { callee:=.builtin .append,args:=#[.tmp s0,y],argTypes:=#[t,t2] },ty,ps,af,gd⟩) t t2 e k2 ti zv u k s0 y .i64 n (xs.map f) rfl rfl (yB sd.1) ht.un cV ht.info pN ht.size ht.pos ht.bytes ht.zok am ht.us h0 h1
   (by grind) (by grind)
  have e:xs.map f++J1 n u=(xs++J1 n z).map f:=by simp[hz]
  rw[e]at this;have h2:((n:Int)).toNat=n:=by simp
  rw[h2];exact this
 ·cases hv
end
section
variable {Γ:Ctx}{E:Env}
theorem zL.trq(d r:Nat)(q:List Nat){tr u tr':T}(hd:E d=dJ (.same r q))(hr:E r=dJ tr)(hg:tr.get q.reverse=dJ u)(e7:zT u)(sd:(u.single&&yP tr&&tr.okB [(d,1),(r,q.length+1)]&&(d != r))=dL)(gu:(if q=[]then .same d []else tr.set q.reverse .any)=tr':=by rfl):
  zL Γ E (E.app [(d,dJ u),(r,dJ tr')] [(d,1),(r,q.length+1)]):=by
 simp only[J2]at sd
 rintro a w ⟨S,hS,hs⟩
 have gf:d≠r:=by grind
 have:=zL2 hs d [] r q (.same r q) tr u hd rfl hr hg sd.1.1.1 e7 gf (by grind[T.okB,zA3]) sd.1.2 rfl sd.1.1.2;subst gu;exact⟨S,hS,this⟩
theorem zL.trf(d:Nat)(g:List Nat)(r:Nat)(q:List Nat)(td tr:T){u td' tr':T}(hd:E d=dJ td)(pf:td.get g.reverse=dJ (.same r q))(hr:E r=dJ tr)(hg:tr.get q.reverse=dJ u)(gu:td.set g.reverse u=td')(e7:zT u)
  (sd:(u.single&&yP td&&yP tr&&td.okB [(d,g.length+1),(r,q.length+1)]&&tr.okB [(d,g.length+1),(r,q.length+1)]&&(d != r))=dL)(er:(if q=[]then .same d g else tr.set q.reverse .any)=tr':=by rfl):
  zL Γ E (E.app [(d,dJ td'),(r,dJ tr')] [(d,g.length+1),(r,q.length+1)]):=by
 simp only[J2]at sd
 rintro a w ⟨S,hS,hs⟩
 have gf:d≠r:=by grind
 have:=zL2 hs d g r q td tr u hd pf hr hg sd.1.1.1.1.1 e7 gf sd.1.1.2 sd.1.2 sd.1.1.1.1.2 sd.1.1.1.2;subst gu er;exact⟨S,hS,this⟩
theorem zL.frz{α:Type}(s:Nat){k:Nat}{f g:α→T}(xs:List α)(hs:E s=dJ (L k f xs))(h:uF f g):zL Γ E (E.app [(s,dJ (.ro (L k g xs)))] [(s,1)]):=by have:=zL.freeze (Γ:=Γ) s _ hs;simp only[vG,strip,tF h.h xs]at this;exact this
theorem zL.res(d r:Nat)(q:List Nat)(tr:T){u:T}(hd:E d=dJ (.same r q))(hr:E r=dJ tr)(hg:tr.get q.reverse=dJ (.ro u)):zL Γ E (E.app [(d,dJ (.ro u))] []):=by
 rintro a w ⟨S,hS,gQ,G,g9⟩
 refine⟨S,hS,gQ,G,?_⟩;have hk:qC [] G w G w:=⟨fun _ _ _=>rfl,fun _ _ _=>rfl,by simp,fun _ _ _ h _=>h,fun b cs e h=>⟨cs,h,rfl⟩⟩;refine wX g9 rfl hk g9.mem (by simp) fun s t hs=>?_
 simp only[Wr.find]at hs;split at hs
 ·rename_i e;subst e
  simp at hs;subst hs;obtain⟨h1,h2,_⟩:=g9.ent d _ hd;obtain⟨_,h4,_⟩:=g9.ent r _ hr;simp only[R]at h2;have h5:=(qN q.reverse tr _ [] h4 hg).1;simp only[rp,Ke,Jg,R]at h5;exact⟨by rw[h1];rfl,by grind[R],by simp[Top]⟩
 ·cases hs
end
theorem zIL:(p:List Nat)→ ∀(t u0 a:T),t.get p=dJ u0→(t.set p a).get p=dJ a
 | [],t,_,a,_=>by rfl
 |i::p,t,u0,a,h=>by
  cases t with
  |sl k xs|agg xs|tup xs=>
   simp only[T.get,T.set]at h ⊢
   cases hx:xs[i]? with
   |none=>grind
   |some x=>
    rw[hx]at h;have hi:=(Jk.1 hx).1;simp only[];simp only[T.get,Uz hi];exact zIL p x u0 a h
  |ptr t=>
   simp only[T.get,T.set]at h ⊢
   split at h
   ·rename_i e;subst e;simp only[if_true,T.get];exact zIL p t u0 a h
   ·cases h
  |_=>grind[T.get]
theorem set_set:(p:List Nat)→ ∀(t u0 a b:T),t.get p=dJ u0→(t.set p a).set p b=t.set p b
 | [],t,_,a,_,_=>by rfl
 |i::p,t,u0,a,b,h=>by
  cases t with
  |sl k xs|agg xs|tup xs=>
   simp only[T.get,T.set]at h ⊢
   cases hx:xs[i]? with
   |none=>grind
   |some x=>
    rw[hx]at h;have hi:=(Jk.1 hx).1;simp only[];simp only[T.set,Uz hi,List.set_set,set_set p x u0 a b h]
  |ptr t=>
   simp only[T.get,T.set]at h ⊢
   split at h
   ·rename_i e;subst e;simp only[if_true,T.set,set_set p t u0 a b h]
   ·cases h
  |_=>rfl
def zAi:T→Bool
 |.sl _ _|.ptr _=>dL
 |_=>dM
theorem zQf{t:T}(h:zAi t=dL)(p:List Nat){u:T}(hp:p≠[]):zAi (t.set p u)=dL:=by
 cases p with
 |nil=>simp_all
 |cons i p=>cases t<;>simp[zAi]at h<;>simp only[T.set]<;>split<;>rfl
theorem sQ{t:T}(h:zAi t=dL)(chg:Chg):t.okB chg=dL∧yP t=dL∧t.single=dL:=by cases t<;>simp[zAi]at h<;>simp[T.okB,yP,T.single]
section
variable {P:Program}{Γ:Ctx}{E E':Env}{d:Nat}{ty:TypeId}{ps:String}{af:Array Edge}{gd:Option (Nat×Bool)}
theorem agM{E:Env}{rw:Rw}{i:Nat}{x:Operand}{u:T}(t:T)(h:opT E x=dJ t)(h1:clo E t=u)(h2:zH7 E (rw.map (·.2.1)) x t=dL):zBw E rw i x u:=.inr ⟨t,h,h1,h2⟩
theorem zCV{E:Env}{rw:Rw}{i s:Nat}{u u':T}(h:E s=dJ u)(hc:zT u)(hr:wG u=dL)(hs:u.okTup=dL:=by rfl)(hm:(i,s,u')∈rw:=by exact List.mem_singleton.2 rfl):zBw E rw i (.tmp s) u:=.inl ⟨s,u',rfl,hm,h,hc,hs,hr⟩
abbrev uP(E:Env)(ds r:Nat)(q:List Nat)(tr u:T):Env:=E.app [(ds,dJ u),(r,dJ (if q=[]then .same ds []else tr.set q.reverse .any))] [(ds,1),(r,q.length+1)]
theorem zAr{f:FuncId}{xs:List Operand}{ats:Array TypeId}{us res:List T}{tr u u' tr':T}(i ds r:Nat)(q:List Nat)(gv:zAb P f)(hc:FnC P f us res [(i,u')])(hs:E ds=dJ (.same r q))(hr:E r=dJ tr)(hq:tr.get q.reverse=dJ u)
  (e7:zT u)(ex:zT u')(_:wG u=dL)(fT:wG u'=dL)(gc:xG (uP E ds r q tr u) [(i,ds,u')] 0 xs us)(gn:qE res)(gu:tr.set q.reverse u'=tr')
  (sd:(J5 d Γ.N&&(d != ds)&&(d != r)&&(ds != r)&&zAi u&&zAi u'&&zAi tr)=dL)(hx:xs[i]? =dJ (.tmp ds))(hu:us[i]? =dJ u):
  Ok P Γ ⟨dJ d,.call { callee:=.value (.func f),args:=xs.toArray,argTypes:=ats },ty,ps,af,gd⟩ E ((((uP E ds r q tr u).app (cWr d res [(i,ds,u')]) (uE d [(i,ds,u')]))).app [(r,dJ tr'),(ds,dJ (.same r q))] [(r,q.length+1),(ds,1)]):=by
 simp only[J2]at sd;obtain⟨⟨⟨⟨⟨⟨s1,s2⟩,s3⟩,s4⟩,s5⟩,s6⟩,s7⟩:=sd;have d1:d≠ds:=by grind
 have d2:d≠r:=by grind
 have d3:ds≠r:=by grind
 obtain⟨u1,u2,u3⟩:=sQ s5 [];obtain⟨v1,v2,v3⟩:=sQ s6 [];have bS:cLv u'=1:=by simp[cLv,v3]
 subst gu;intro S
 by_cases bF:q=[]
 ·subst bF
  have htu:tr=u:=by
   have:tr.get []=dJ tr:=by rfl
   grind
  subst htu;have hset0:∀a b:T,a.set [] b=b:=fun a b=>by rfl
  have tm:(uP E ds r [] tr tr) ds=dJ tr:=by simp[uP,Env.app,Wr.find]
  have mF:((uP E ds r [] tr tr).app (cWr d res [(i,ds,u')]) (uE d [(i,ds,u')])) r=dJ (.same ds []):=by
   have h1:(uP E ds r [] tr tr) r=dJ (.same ds []):=by simp[uP,Env.app,Wr.find,d3]
   have h2:(cWr d res [(i,ds,u')]).find r=dK:=by grind[cWr,Wr.find]
   have h3:(T.same ds []).okB (uE d [(i,ds,u')])=dL:=by grind[T.okB,zA3,uE]
   simp only[Env.app,h2,h1,h3,if_true]
  have mG:((uP E ds r [] tr tr).app (cWr d res [(i,ds,u')]) (uE d [(i,ds,u')])) ds=dJ u':=by grind[Env.app,Wr.find,cWr]
  have:=zJI (P:=P) (Γ:=Γ.at S) (E:=E) (o:=⟨dJ d,.call { callee:=.value (.func f),args:=xs.toArray,argTypes:=ats },ty,ps,af,gd⟩) f (.func f) xs ats us res i ds r [] tr tr u' rfl rfl (yB s1) gv rfl hs hr hq u3 e7 d3 d2 (sQ s7 _).1 (sQ s7 []).2.1
   (uP E ds r [] tr tr) _ rfl rfl hc gc (.one d1 hx ex v3 fT tm u3 hu) gn (.same ds []) (.same ds []) mF rfl rfl mG ex v3 (by simp[T.okB,zA3]) rfl (sQ s6 _).1 v2
  grind
 ·have aY:q.reverse≠[]:=by simp_all
  have tm:(uP E ds r q tr u) ds=dJ u:=by simp[uP,Env.app,Wr.find]
  have hSP:=zQf s7 q.reverse (u:=.any) aY;have mF:((uP E ds r q tr u).app (cWr d res [(i,ds,u')]) (uE d [(i,ds,u')])) r=dJ (tr.set q.reverse .any):=by
   have h1:(uP E ds r q tr u) r=dJ (tr.set q.reverse .any):=by simp[uP,Env.app,Wr.find,d3,bF]
   grind[cWr,Wr.find,Env.app,sQ]
  have mG:((uP E ds r q tr u).app (cWr d res [(i,ds,u')]) (uE d [(i,ds,u')])) ds=dJ u':=by grind[Env.app,Wr.find,cWr]
  have:=zJI (P:=P) (Γ:=Γ.at S) (E:=E) (o:=⟨dJ d,.call { callee:=.value (.func f),args:=xs.toArray,argTypes:=ats },ty,ps,af,gd⟩) f (.func f) xs ats us res i ds r q tr u u' rfl rfl (yB s1) gv rfl hs hr hq u3 e7 d3 d2 (sQ s7 _).1 (sQ s7 []).2.1
   (uP E ds r q tr u) _ rfl rfl hc gc (.one d1 hx ex v3 fT tm u3 hu) gn (tr.set q.reverse .any) .any mF (zIL _ _ _ _ hq) rfl mG ex v3 (sQ hSP _).1 (sQ hSP []).2.1 (sQ s6 _).1 v2
  grind[set_set]
theorem zTi{f:FuncId}{xs:List Operand}{ats:Array TypeId}{us res:List T}{xf:Operand}(hf:opT E xf=dJ (.lit (.func (.func f) #[] #[])))(gv:zAb P f)(hc:FnC P f us res [])(gc:xG E [] 0 xs us)(gn:qE res)(sd:J5 d Γ.N=dL):
  Ok P Γ ⟨dJ d,.call { callee:=.value xf,args:=xs.toArray,argTypes:=ats },ty,ps,af,gd⟩ E (E.app (cWr d res []) (uE d [])):=
 fun _=>zNi f xf xs ats us res [] rfl rfl (yB sd) gv hf hc gc .nil gn
def zCz(E:Env):List Operand→List T→Prop
 | [],[]=>True
 |x::xs,u::us=>(opT E x=dJ u∧u.flat=dL)∧zCz E xs us
 |_,_=>False
theorem afN:zCz E [] []:=trivial
theorem afC{x:Operand}{xs:List Operand}{u:T}{us:List T}(h:opT E x=dJ u)(h1:u.flat=dL)(h2:zCz E xs us):zCz E (x::xs) (u::us):=⟨⟨h,h1⟩,h2⟩
theorem zCz.get:(xs:List Operand)→(us:List T)→zCz E xs us→ ∀(i:Nat) u,us[i]? =dJ u→ ∃x,xs[i]? =dJ x∧opT E x=dJ u∧u.flat=dL
 | [],[],_,i,u,h=>by simp at h
 |x::xs,v::us,h,i,u,hi=>by
  cases i with
  |zero=>simp at hi;subst hi;exact⟨x,by simp,h.1⟩
  |succ i=>obtain⟨y,h1,h2⟩:=zCz.get xs us h.2 i u (by grind);grind
 | [],_::_,h,_,_,_=>by grind[zCz]
 |_::_,[],h,_,_,_=>by grind
theorem qF{f:FuncId}{xs:List Operand}{ats:Array TypeId}{us res:List T}(gv:zAb P f)(hc:FnC P f us res [])(ha:zCz E xs us)(gm:xs.length=us.length)(gn:xI res)(eD:yO res=dL)(sd:J5 d Γ.N=dL):
  Ok P Γ ⟨dJ d,.call { callee:=.value (.func f),args:=xs.toArray,argTypes:=ats },ty,ps,af,gd⟩ E (E.app (cWr d res []) (uE d [])):=
 by grind[zTh,zCz.get]
end
noncomputable def zC9 {α:Type} (g:Nat→Option α):Option α:=
 open Classical in if h:∃r,∃n,∀m,n≤m→g m=dJ r then dJ h.choose else dK
theorem qZ{α:Type}{g:Nat→Option α}{r:α}(h:zC9 g=dJ r):∃n,g n=dJ r:=by
 unfold zC9 at h;split at h
 ·rename_i he
  simp at h;obtain⟨n,hn⟩:=he.choose_spec;exact⟨n,by simp_all⟩
 ·cases h
theorem zAG{α:Type}{g:Nat→Option α}{r:α}(n:Nat)(h:∀m,n≤m→g m=dJ r):zC9 g=dJ r:=by
 have he:∃r,∃n,∀m,n≤m→g m=dJ r:=⟨r,n,h⟩;unfold zC9;rw[dif_pos he];obtain⟨n',hn'⟩:=he.choose_spec;have h1:=h (max n n') (by omega)
 grind
end Go.Ab

namespace Go.Ab
open Go
section
variable {P:Program}{Γ:Ctx}{ops:Array Oper}{o:Oper}{E:Env}
theorem zQ.skipW{d:Nat}(hd:o.dst=dJ d)(sd:J5 d Γ.N=dL)(hw:∀(a:Act)(w:World),qV Γ E a w→Region.wanted o (yielded ops a.tmps)=dM):zQ P Γ ops o E (E.app [(d,dJ (.tup []))] [(d,0)]):=by
 intro a w K Q hs hK;rw[if_neg (by simp[hw a w hs])];obtain⟨S,hS,gQ,G,g9⟩:=hs;refine hK _ _ ⟨S,hS,by rw[hd];exact gQ,G.put d (fun _=>.bool dM),?_⟩ ?_
 ·rw[hd]
  have hu:(Value.bool dM).oneCell'=dL:=rfl;refine wX g9 (by simp[Act.put]) (G.put_keep rfl d _) (g9.mem.put rfl d _ fun _=>hu) ?_ ?_
  ·intro s hs
   rw[uT]at hs;split at hs
   ·cases hs
   ·rename_i gf
    refine⟨fun n hn=>gf (by simp at hn;exact hn.1.symm),?_⟩;simp[Act.put,H8 gf]
  ·intro s t' hs
   rw[uT]at hs;split at hs
   ·rename_i e;subst e
    simp at hs;subst hs;have gy:=g9.size;have gE:=yB sd;refine⟨?_,by simp[R,RF],by simp[Top,vN]⟩;have:d<a.tmps.size:=by rw[gy];exact gE
    simp[Act.put,mkV,qL,undef,this]
   ·cases hs
 ·intro s hs
  rw[hd]at hs ⊢
  have:d≠s:=fun e=>hs (by rw[e])
  simp[Act.put,H8 this]
theorem zQ.skip2{d:Nat}(g:Nat)(b b':Bool)(s:Nat)(hd:o.dst=dJ d)(sd:J5 d Γ.N=dL)(po:(b==b')=dM)(hg:o.guard=dJ (g,b))(gr:(ops[g]?).bind (·.dst)=dJ s)(hb:E s=dJ (.lit (.bool b'))):
  zQ P Γ ops o E (E.app [(d,dJ (.tup []))] [(d,0)]):=.skipW hd sd fun a w hs=>by
 simp only[Region.wanted,hg,zFP hs gr hb];cases b<;>cases b'<;>simp_all
theorem zQ.skip3{d:Nat}(g:Nat)(b:Bool)(s:Nat)(hd:o.dst=dJ d)(sd:J5 d Γ.N=dL)(hg:o.guard=dJ (g,b))(gr:(ops[g]?).bind (·.dst)=dJ s)(hb:E s=dJ (.tup [])):
  zQ P Γ ops o E (E.app [(d,dJ (.tup []))] [(d,0)]):=.skipW hd sd fun a w hs=>by
 obtain⟨_,_,_,G,hr⟩:=hs;obtain⟨h1,_,_⟩:=hr.ent s _ hb;simp only[Region.wanted,hg,yielded,gr,Option.bind_some,h1,mkV,qL];rfl
theorem zQ.opE{E1 E':Env}(h:Ok P Γ o E E1)(e:E1=E')(hg:o.guard=dK:=by rfl):zQ P Γ ops o E E':=e▸zQ.op h hg
theorem zQ.guardE{E1 E':Env}(g:Nat)(b:Bool)(s:Nat)(h:Ok P Γ o E E1)(hg:o.guard=dJ (g,b))(gr:(ops[g]?).bind (·.dst)=dJ s)(hb:E s=dJ (.lit (.bool b)))(e:E1=E'):zQ P Γ ops o E E':=e▸zQ.guard g b s h hg gr hb
end
def vT(Γ:Ctx)(P:Program)(rs:Array ResultVar)(us res:List T)(rws:List (Nat×T)):Exit→Env→Prop:=fun e E=> ∃E',zL Γ E E'∧zWE P rs us res rws e E'
theorem FnC.of_bodyG{P:Program}{f:FuncId}{fn:Func}{c:Code}{us res:List T}{rws:List (Nat×T)}(hf:P.funcs[f]? =dJ fn)(hb:fn.body=dJ c)(hn:us.length≤fn.ntmps)(ht:vN us)(hr:rws.all (fun x=>decide (x.1<us.length))=dL)
  (h:∀(Γ:Ctx)(v:Nat→Value),Γ.N=fn.ntmps→CW P Γ (zBB v (rws.map (·.1))) c (xZ (zHf 0 us)) (vT Γ P fn.results us res rws)):FnC P f us res rws:=by
 refine FnC.of_body hf hb hn ht hr fun Γ v hN=>?_
 intro a w Q' hs hp hQ;refine h Γ v hN a w Q' hs hp ?_
 rintro e E a' w' ⟨E',hg,hq⟩ gP fV
 exact hQ e E' a' w' hq (hg a' w' gP) fV
def zTj(t:T):Prop:=zT t∧wG t=dL∧strip t=t∧t.okTup=dL∧zEg t=dL
def zQg:List T→Prop
 | []=>True
 |x::xs=>zTj x∧zQg xs
theorem Enc.t{α:Type}{f:α→T}(h:Enc f)(x:α):zTj (f x):=⟨h.clean x,h.rofree x,h.strip x,h.okTup x,h.rook x⟩
theorem Enc.of{α:Type}{f:α→T}(h:∀x,zTj (f x)):Enc f:=⟨fun x=>(h x).1,fun x=>(h x).2.1,fun x=>(h x).2.2.1,fun x=>(h x).2.2.2.1,fun x=>(h x).2.2.2.2⟩
theorem zOo{xs:List T}(h:zQg xs):zTj (.agg xs):=by
 have key:∀xs:List T,zQg xs→xI xs∧vR xs=dL∧wD xs=xs∧yO xs=dL∧zAA xs=dL:=by
  intro xs
  induction xs with
  |nil=>intro _;exact⟨trivial,rfl,rfl,rfl,rfl⟩
  |cons x xs ih=>
   rintro⟨⟨h1,h2,h3,h4,h5⟩,h⟩
   obtain⟨g1,g2,g3,g4,g5⟩:=ih h;exact⟨⟨h1,g1⟩,by simp only[vR,h2,g2,Kj],by simp only[wD,h3,g3],by simp only[yO,h4,g4,Kj],by simp only[zAA,h5,g5,Kj]⟩
 obtain⟨g1,g2,g3,g4,g5⟩:=key xs h;exact⟨yC g1,by simp only[wG,g2],by simp only[strip,g3],by simp only[T.okTup,g4],by simp only[zEg,g5]⟩
end Go.Ab

namespace Go.Ab
open Go
section
variable {Γ:Ctx}{E:Env}{d:Nat}
def Gh.cut(G:Gh)(d s0 b lo hi:Nat)(v:Value):Gh where
 hd s z:=if s=d then(if z=[]then v else G.hd s0 z)else G.hd s z
 ad s z:=if s=d then G.ad s0 z else G.ad s z
 lb b' o:=if b'=b∧lo≤o∧o<hi then dJ (dL,d,[])else match G.lb b' o with
  |some (f,s,z)=>if s=s0 then dJ (f,d,z)else dJ (f,s,z)
  |none=>dK
 ow b':=match G.ow b' with
  |some (s,z)=>if s=s0 then dJ (d,z)else dJ (s,z)
  |none=>dK
theorem zNo{G:Gh}{tmps:Array Value}{w:World}(g9:Rep Γ E G tmps w)(hd:d<Γ.N){s0 k h cap':Nat}{xs:List T}(hH:E s0=dJ (.sl k xs))(gf:s0≠d)(hk:0<k)
  {b cap:Nat}{cs:Array Value}{e:TypeId}(h1:G.hd s0 []=.slice (dJ ⟨b,0,dK⟩) xs.length cap)(h2:w.heap[b]? =dJ (.cells cs e (0,0)))(_h3:xs.length≤cap)(h4:cap≤maxLen)(h5:cap*k≤cs.size)(h6:G.ow b=dJ (s0,[]))
  (h7:∀o,xs.length*k≤o→o<cap*k→G.lb b o=dJ (dL,s0,[]))(h8:RL Γ.St G w s0 xs [] 0 b 0 k)(hh:h≤xs.length)(hc:h≤cap')(eT:cap'≤cap):
  ∃G',Rep Γ (E.app [(d,dJ (.sl k (xs.take h))),(s0,dJ .any)] [(d,0),(s0,1)]) G' (tmps.setIfInBounds d (.slice (dJ ⟨b,0,dK⟩) h cap')) w:=by
 have hm:=g9.mem;obtain⟨e1,_,e3⟩:=g9.ent s0 _ hH
 let v:Value:=.slice (dJ ⟨b,0,dK⟩) h cap'
 let G':=G.cut d s0 b (h*k) (cap'*k) v
 have gK:=hm.ow b _ h6;have hgone:∀o f z i,h*k≤o→o<cap'*k→G.lb b o=dJ (f,s0,z++[i])→h≤i:=by
  intro o f z i ho1 ho2 hl
  by_cases ho:o<xs.length*k
  ·have hj:o/k<xs.length:=(Nat.div_lt_iff_lt_mul hk).2 ho
   obtain⟨g1,g2,_⟩:=qT xs [] 0 b 0 k (o/k) xs[o/k] h8 (by simp[hj]);obtain⟨y,hy⟩:=zI6 xs[o/k] _ b _ (o%k) g1 (by rw[g2];exact Nat.mod_lt _ hk);rw[J8,J8,Nat.mul_comm,Nat.div_add_mod,hl]at hy;simp only[Hf.injEq,Qv.injEq]at hy;have:=hy.2.2;have hi:i=o/k:=by simp_all
   rw[hi];exact(Nat.le_div_iff_mul_le hk).2 ho1
  ·have:=h7 o (by omega) (by have:=H1 k eT;omega)
   simp_all
 have glb:∀b' o f z,G.lb b' o=dJ (f,s0,z)→ ¬(b'=b∧h*k≤o∧o<cap'*k)→G'.lb b' o=dJ (f,d,z):=fun b' o f z hl hn=>by
  show(if _ then _ else _)=_
  grind
 have gow:∀b' z,G.ow b'=dJ (s0,z)→G'.ow b'=dJ (d,z):=by grind[Gh.cut]
 have mv:∀i,i<h→zHy G w G' w s0 [i] d [i]:=fun i hi=>by
  have hn:∀b' o f z,G.lb b' o=dJ (f,s0,z++[i])→ ¬(b'=b∧h*k≤o∧o<cap'*k):=by grind
  refine⟨⟨fun z=>by simp[G',Gh.cut],by grind[Gh.cut],by grind,by grind,fun b' cs' e' hb=>⟨cs',hb,rfl⟩⟩,fun b' o _ hl=>⟨glb _ _ _ _ hl (hn b' o dL [] (by grind)),rfl⟩,by grind⟩
 have gx:qC [(d,0),(s0,1)] G w G' w:=by
  refine⟨fun s p ho=>?_,fun s p ho=>?_,fun b' o f s p gY hl hs=>?_,fun b' s p hl hs=>?_,fun b' cs' e' hb=>⟨cs',hb,rfl⟩⟩
  ·have:s≠d:=fun e=>absurd (ho 0 (by simp[e])) (by simp)
   grind[Gh.cut]
  ·have:s≠d:=fun e=>absurd (ho 0 (by simp[e])) (by simp)
   grind[Gh.cut]
  ·have fP:s≠s0:=by grind
   obtain⟨y,hy⟩:=gY;have po:b'≠b:=by grind
   refine⟨?_,rfl⟩;show(if _ then _ else _)=_
   grind
  grind[Gh.cut]
 have gw:Mem Γ G' w:=by
  refine⟨fun s z=>?_,fun b' o l hl=>?_,fun b' l hl=>?_,hm.st,hm.fr,hm.sz,hm.bk⟩
  ·show(if _ then _ else _:Value).oneCell'=dL
   split
   ·split
    ·rfl
    ·exact hm.one _ _
   ·exact hm.one _ _
  ·change(if _ then _ else _)=_ at hl
   split at hl
   ·grind
   ·cases hg:G.lb b' o with
    |none=>grind
    |some x=>exact hm.lb b' o x hg
  ·cases hg:G.ow b' with
   |none=>grind[Gh.cut]
   |some x=>exact hm.ow b' x hg
 refine⟨G',wX g9 (by simp) gx gw ?_ ?_⟩
 ·intro s hs
  have df:s≠d:=by rintro rfl;grind[Wr.find]
  have bN:s≠s0:=by rintro rfl;grind[Wr.find]
  grind
 ·intro s t' hs
  by_cases fP:s=d
  ·subst fP
   simp[Wr.find]at hs;subst hs;have gm:(xs.take h).length=h:=by simp;omega
   simp only[Top]at e3;have hkc:∀ys:List T,xI ys→ ∀n,xI (ys.take n):=by
    intro ys
    induction ys with
    |nil=>simp
    |cons y ys ih=>intro hy n;cases n with
     |zero=>simp[xI,xL]
     |succ n=>exact⟨hy.1,ih hy.2 n⟩
   refine⟨?_,?_,by simp only[Top];grind⟩
   ·rw[Jc]
    simp[g9.size,hd,mkV,G',Gh.cut,v]
   ·simp only[R]
    refine .inr ⟨b,cap',cs,e,by grind[Gh.cut],h2,by omega,by omega,by have:=H1 k eT;omega,gow b _ h6,fun o ho1 ho2=>?_,?_⟩
    ·rw[gm]at ho1
     show(if _ then _ else _)=_
     grind
    ·refine zI8 _ [] 0 b 0 fun i x hx=>?_
     rw[Jbx]at hx;split at hx
     ·rename_i hi
      obtain⟨g1,g2,g3⟩:=qT xs [] 0 b 0 k i x h8 hx;rw[J8]at g1 g3 ⊢
      refine⟨?_,g2,zAl (mv i hi) x (yT.mono (by simp) _ (vU xs e3 i x hx)) g3⟩;refine zFH x [i] [i] b _ (fun z=>by simp[G',Gh.cut]) (by grind[Gh.cut]) (fun b' o z hl=>⟨glb _ _ _ _ hl ?_,rfl⟩) g1
      grind
     ·cases hx
  ·have h9:s=s0∧t'=.any:=by
    simp only[Wr.find]at hs
    grind
   obtain⟨rfl,rfl⟩:=h9;refine⟨?_,by simp only[R],by simp[Top]⟩;rw[Jc];simp only[Ne.symm fP,if_false,mkV];rw[e1,xJ rfl]
   grind[Gh.cut]
theorem zQh{G:Gh}{tmps:Array Value}{w:World}(g9:Rep Γ E G tmps w)(hd:d<Γ.N){s0 k:Nat}(hH:E s0=dJ (.sl k []))(gf:s0≠d)(a:Option Addr):
  ∃G',Rep Γ (E.app [(d,dJ (.sl k [])),(s0,dJ .any)] [(d,0),(s0,1)]) G' (tmps.setIfInBounds d (.slice a 0 0)) w:=by
 obtain⟨e1,_,_⟩:=g9.ent s0 _ hH;refine⟨G.put d (fun _=>.slice a 0 0),?_⟩;have hk:qC [(d,0),(s0,1)] G w (G.put d fun _=>.slice a 0 0) w:=by have h0:=G.put_keep (w:=w) (w':=w) rfl d (fun _=>.slice a 0 0);refine⟨fun s p ho=>h0.hd s p (fun n hn=>ho n (by grind)),fun s p ho=>rfl,fun b o f s p h1 h2 h3=>h0.lb b o f s p h1 h2 (by grind),fun b s p h1 h3=>h0.ow b s p h1 (by grind),h0.blk⟩
 refine wX g9 (by simp) hk (g9.mem.put rfl d _ (fun _=>rfl)) ?_ ?_
 ·intro s hs
  have df:s≠d:=by rintro rfl;grind[Wr.find]
  have bN:s≠s0:=by rintro rfl;grind[Wr.find]
  grind
 ·intro s t' hs
  by_cases fP:s=d
  ·subst fP
   simp[Wr.find]at hs;subst hs;refine⟨by rw[Jc];simp[g9.size,hd,mkV,Gh.put],by simp only[R];exact .inl ⟨trivial,a,by simp[Gh.put]⟩,by omega⟩
  ·have h9:s=s0∧t'=.any:=by
    simp only[Wr.find]at hs
    grind
   obtain⟨rfl,rfl⟩:=h9;refine⟨?_,by simp only[R],by simp[Top]⟩;rw[Jc];simp only[Ne.symm fP,if_false,mkV];rw[e1,xJ rfl]
   grind[Gh.put]
end
section
variable {P:Program}{Γ:Ctx}{pn:jX}{E E':Env}{Q:Exit→Env→Prop}{d:Nat}{x y:Operand}{ty:TypeId}{ps:String}{af:Array Edge}{gd:Option (Nat×Bool)}
theorem zUD{α:Type}{t e:TypeId}{ti:TypeInfo}{s0 k:Nat}{f:α→T}{xs ys:List α}{mx:Option Operand}{h:Int}{u:T}(ht:ElT P t e ti k u)(hv:zW xs 0 h=dJ ys)(h0:E s0=dJ (L k f xs))(hy:opT E y=dJ (I h))(hmx:mx=dK∨ ∃z,mx=dJ z∧opT E z=dJ (I h))(sd:(J5 d Γ.N&&(s0 != d))=dL):
  Ok P Γ ⟨dJ d,.slice t (.tmp s0) dK (dJ y) mx,ty,ps,af,gd⟩ E (E.app [(d,dJ (L k f ys)),(s0,dJ .any)] [(d,0),(s0,1)]):=by
 obtain⟨_,b9,eQ,rfl⟩:=tU hv;simp only[J2]at sd;have gf:s0≠d:=by grind
 obtain⟨n,rfl⟩:∃n:Nat,h=n:=⟨h.toNat,by omega⟩;have hn:n≤xs.length:=by omega
 intro S;refine xV.value rfl fun a w G g9=>?_
 obtain⟨e1,e2,_⟩:=g9.ent s0 _ h0;have cL:=(xX g9 hy).1;have mY:a.eval (.tmp s0)=G.hd s0 []:=by rw[xT e1,xJ rfl]
 have cU:=ht.un;have hJ:=ht.info;have gy:=ht.size;have bQ:List.map f ((xs.drop (0:Int).toNat).take ((n:Int).toNat-(0:Int).toNat))=(xs.map f).take n:=by simp
 rw[show L k f ((xs.drop (0:Int).toNat).take ((n:Int).toNat-(0:Int).toNat))=.sl k ((xs.map f).take n)by simp];have e2':=e2;simp only[R]at e2;rcases e2 with⟨eM,ad,h1⟩|⟨b,cap,cs,e',h1,h2,h3,h4,h5,h6,h7,h8⟩
 ·have eY:xs=[]:=by simp_all
  subst eY;simp at hn;subst hn;obtain⟨G',gp⟩:=zQh g9 (yB sd.1) (k:=k) (by grind) gf ad;refine⟨_,w,?_,G',by simpa using gp⟩;rcases hmx with rfl|⟨z,rfl,hz⟩
  ·simp[execOp,Instr.sliceAt,Instr.slice,run_underlying cU,mY,h1,cL,sizeOf,typeInfo,hJ,Instr.sliceBounds,Instr.sliceBound,asIntOf]
  ·have pN:=(xX g9 hz).1
   simp[execOp,Instr.sliceAt,Instr.slice,run_underlying cU,mY,h1,cL,pN,sizeOf,typeInfo,hJ,Instr.sliceBounds,Instr.sliceBound,asIntOf]
 ·rw[Jt]at h1 h3
  have bO:n≤cap:=by omega
  have hcz:cap=0→n=0:=by omega
  rcases hmx with rfl|⟨z,rfl,hz⟩
  ·obtain⟨G',gp⟩:=zNo g9 (yB sd.1) h0 gf ht.pos (by grind) h2 (by grind) h4 h5 h6 h7 h8 (h:=n) (cap':=cap) (by grind) bO (Jf _)
   refine⟨_,w,?_,G',gp⟩;simp[execOp,Instr.sliceAt,Instr.slice,run_underlying cU,mY,h1,cL,sizeOf,typeInfo,hJ,Instr.sliceBounds,Instr.sliceBound,asIntOf,bO,vP]
  ·have pN:=(xX g9 hz).1
   obtain⟨G',gp⟩:=zNo g9 (yB sd.1) h0 gf ht.pos (by grind) h2 (by grind) h4 h5 h6 h7 h8 (h:=n) (cap':=n) (by grind) (Jf _) bO;refine⟨_,w,?_,G',gp⟩;simp[execOp,Instr.sliceAt,Instr.slice,run_underlying cU,mY,h1,cL,pN,sizeOf,typeInfo,hJ,Instr.sliceBounds,Instr.sliceBound,asIntOf,bO,vP]
end
end Go.Ab

namespace Go.Ab
open Go
section
variable {P:Program}{Γ:Ctx}{pn:jX}{E E':Env}{Q:Exit→Env→Prop}{d:Nat}{x y:Operand}{ty:TypeId}{ps:String}{af:Array Edge}{gd:Option (Nat×Bool)}{ops:Array Oper}{os:List Oper}
theorem zOp{P:Program}{w:World}{t e:TypeId}{a:Option Addr}{n c:Nat}(m:Nat)(h:P.underlying t=dJ (.slice e)):(Op.equalIn (m+1) t (.slice a n c) (.slice dK 0 0)).run P w=.ok a.isNone w:=by simp only[Op.equalIn,Sem.run_bind,run_underlying h];cases a<;>rfl
theorem RW.isnil{α:Type}{xt yt e:TypeId}{r k:Nat}{q:List Nat}{f:α→T}{xs:List α}{u:T}(hu:P.underlying xt=dJ (.slice e))(hx:uU E x=dJ (r,q,u))(cN:u=.ro (L k f xs)∨u=L k f xs)(sd:J5 d Γ.N=dL)(hp:pn.ok (dJ d)=dL)
  (h:∀b,(b=dL→xs=[])→RW P Γ pn ops os (E.app [(d,dJ (B b))] [(d,0)]) Q):RW P Γ pn ops (⟨dJ d,.binOp .eql xt x (.const (.slice dK 0 0)) yt,ty,ps,af,dK⟩::os) E Q:=by
 intro a w Q' hs fc hQ;obtain⟨S,hS,gQ,G,g9⟩:=id hs;have ff:u.single=dL:=by rcases cN with rfl|rfl<;>rfl
 obtain⟨h1,h2⟩:=qD g9 hx ff;obtain⟨ad,n,c,h3,h4⟩:∃ad n c,a.eval x=.slice ad n c∧(ad.isNone=dL→xs=[]):=by
  rcases cN with rfl|rfl
  ·obtain⟨ad,c,g1,_,_,g2⟩:=zCe h1
   refine⟨ad,_,c,by rw[h2,g1],fun hn=>?_⟩;apply Classical.byContradiction;intro gf;obtain⟨b,o',_,_,_,rfl,_⟩:=g2 (by simpa using gf);simp at hn
  ·simp only[R]at h1
   rcases h1 with⟨g1,ad,g2⟩|⟨b,cap,cs,e',g1,_⟩
   ·exact⟨ad,0,0,by rw[h2,g2],fun _=>by simpa using g1⟩
   ·exact⟨_,_,_,by rw[h2,g1],fun hn=>by simp at hn⟩
 have gz:(execOp a.eval ⟨dJ d,.binOp .eql xt x (.const (.slice dK 0 0)) yt,ty,ps,af,dK⟩).run P w=.ok (.value (.bool ad.isNone)) w:=by have h5:(Op.equalIn 10000 xt (.slice ad n c) (.slice dK 0 0)).run P w=.ok ad.isNone w:=zOp 9999 hu;have h6:a.eval (.const (.slice dK 0 0))=.slice dK 0 0:=rfl;simp[execOp,h3,h6,eqGuard,binOp,zJO,h5]
 simp only[wpL,Region.wanted,if_true];refine .inl ?_;unfold Oper.wp;rw[gz,Oper.upon_value];have fa:=wR g9 rfl (yB sd) (fun _=>.bool ad.isNone) (fun _=>rfl) (B ad.isNone) (.bool ad.isNone) (by simp[mkV,Gh.put]) (by simp[R,Gh.put]) (by simp[Top]);refine h ad.isNone h4 _ w Q' ⟨S,hS,gQ,_,fa⟩ ?_ hQ;refine fc.frame hp fun s gP=>?_
 have:d≠s:=fun e=>gP (by rw[e])
 simp[Act.put,H8 this]
theorem zJS{t e:TypeId}(hu:P.underlying t=dJ (.slice e))(hx:opT E x=dJ (.lit (.slice dK 0 0)))(sd:J5 d Γ.N=dL):Ok P Γ ⟨dJ d,.call { callee:=.builtin .len,args:=#[x],argTypes:=#[t] },ty,ps,af,gd⟩ E (E.app [(d,dJ (I 0))] [(d,0)]):=by
 intro S;refine kW (.int .i64 0) rfl rfl (yB sd) fun a w G g9=>?_
 have h1:=(xX g9 hx).1;simp[execOp,resolve,invoke,builtin,h1,Builtin.len_,run_underlying hu,goInt]
theorem zJT{t e:TypeId}(hu:P.underlying t=dJ (.slice e))(hx:opT E x=dJ (.lit (.slice dK 0 0)))(sd:J5 d Γ.N=dL):Ok P Γ ⟨dJ d,.call { callee:=.builtin .cap,args:=#[x],argTypes:=#[t] },ty,ps,af,gd⟩ E (E.app [(d,dJ (I 0))] [(d,0)]):=by
 intro S;refine kW (.int .i64 0) rfl rfl (yB sd) fun a w G g9=>?_
 have h1:=(xX g9 hx).1;simp[execOp,resolve,invoke,builtin,h1,Builtin.cap_,run_underlying hu,goInt]
theorem zTk{t e:TypeId}{ti:TypeInfo}{u:T}{k:Nat}(ht:ElT P t e ti k u)(hx:opT E x=dJ (.lit (.slice dK 0 0)))(hy:opT E y=dJ (I 0))(sd:J5 d Γ.N=dL):Ok P Γ ⟨dJ d,.slice t x dK (dJ y) dK,ty,ps,af,gd⟩ E (E.app [(d,dJ (.sl k []))] [(d,0)]):=by
 intro S;refine xV.value rfl fun a w G g9=>?_
 have h1:=(xX g9 hx).1;have h2:=(xX g9 hy).1;refine⟨.slice dK 0 0,w,?_,_,wR g9 rfl (yB sd) (fun _=>.slice dK 0 0) (fun _=>rfl) (.sl k []) (.slice dK 0 0) (by simp[mkV,Gh.put]) (by simp[R,Gh.put]) (by simp[Top,xI,xL])⟩;simp[execOp,Instr.sliceAt,Instr.slice,run_underlying ht.un,h1,h2,sizeOf,typeInfo,ht.info,Instr.sliceBounds,Instr.sliceBound,asIntOf]
theorem zL.nil(s k:Nat)(hs:E s=dJ (.lit (.slice dK 0 0))):zL Γ E (E.app [(s,dJ (.sl k []))] [(s,0)]):=by
 rintro a w ⟨S,hS,gQ,G,g9⟩
 refine⟨S,hS,gQ,G,?_⟩;have hk:qC [(s,0)] G w G w:=⟨fun _ _ _=>rfl,fun _ _ _=>rfl,fun _ _ _ _ _ _ h _=>⟨h,rfl⟩,fun _ _ _ h _=>h,fun b cs e h=>⟨cs,h,rfl⟩⟩;refine wX g9 rfl hk g9.mem (fun s' gP=>⟨fun n hn=>?_,rfl⟩) fun s' t gP=>?_
 ·simp at hn
  simp[Wr.find,hn.1]at gP
 ·simp only[Wr.find]at gP
  split at gP
  ·rename_i e;subst e
   simp at gP;subst gP;obtain⟨h1,h2,_⟩:=g9.ent s _ hs;simp only[R]at h2;exact⟨by rw[h1];rfl,by simp only[R];exact .inl ⟨trivial,dK,h2⟩,by simp[Top,xI,xL]⟩
  ·cases gP
theorem zIM{src dst:TypeId}{ds:TypeDesc}{k k':IntKind}{n:Int}(hs:P.underlying src=dJ ds)(ht:P.underlying dst=dJ (.int k'))(hx:opT E x=dJ (IK k n))(sd:J5 d Γ.N=dL):
  Ok P Γ ⟨dJ d,.convert src dst x,ty,ps,af,gd⟩ E (E.app [(d,dJ (IK k' (k'.wrap n)))] [(d,0)]):=fun _=>zSU src dst ds x k k' n rfl rfl (yB sd) hs ht hx
theorem zVw{k:IntKind}{m n:Int}{xt yt:TypeId}(hx:opT E x=dJ (IK k m))(hy:opT E y=dJ (IK k n))(sd:J5 d Γ.N=dL):Ok P Γ ⟨dJ d,.binOp .add xt x y yt,ty,ps,af,gd⟩ E (E.app [(d,dJ (IK k (k.wrap (m+n))))] [(d,0)]):=
 fun _=>tI .add xt yt x y k m n _ rfl rfl (yB sd) hx hy rfl
theorem zVx{k:IntKind}{m n:Int}{xt yt:TypeId}(hx:opT E x=dJ (IK k m))(hy:opT E y=dJ (IK k n))(sd:J5 d Γ.N=dL):Ok P Γ ⟨dJ d,.binOp .mul xt x y yt,ty,ps,af,gd⟩ E (E.app [(d,dJ (IK k (k.wrap (m*n))))] [(d,0)]):=
 fun _=>tI .mul xt yt x y k m n _ rfl rfl (yB sd) hx hy rfl
theorem zQi{k:IntKind}{m n:Int}{xt yt:TypeId}(hx:opT E x=dJ (IK k m))(hy:opT E y=dJ (IK k n))(sd:J5 d Γ.N=dL):Ok P Γ ⟨dJ d,.binOp .gtr xt x y yt,ty,ps,af,gd⟩ E (E.app [(d,dJ (B (decide (m> n))))] [(d,0)]):=
 fun _=>tI .gtr xt yt x y k m n _ rfl rfl (yB sd) hx hy rfl
def zFg(k:IntKind)(m n:Int):Int:=k.wrap ((BitVec.ofInt k.bits m &&& BitVec.ofInt k.bits n).toNat:Int)
theorem zVy{k:IntKind}{m n:Int}{xt yt:TypeId}(hx:opT E x=dJ (IK k m))(hy:opT E y=dJ (IK k n))(sd:J5 d Γ.N=dL):Ok P Γ ⟨dJ d,.binOp .and xt x y yt,ty,ps,af,gd⟩ E (E.app [(d,dJ (IK k (zFg k m n)))] [(d,0)]):=by
 intro S;refine kW (.int k (zFg k m n)) rfl rfl (yB sd) fun a w G g9=>?_
 have h1:=(xX g9 hx).1;have h2:=(xX g9 hy).1;simp[execOp,h1,h2,eqGuard,binOp,Op.intBits,zFg]
theorem zVz{k k':IntKind}{m n:Int}{xt yt:TypeId}(hn:0≤n)(hx:opT E x=dJ (IK k m))(hy:opT E y=dJ (IK k' n))(sd:J5 d Γ.N=dL):Ok P Γ ⟨dJ d,.binOp .shr xt x y yt,ty,ps,af,gd⟩ E (E.app [(d,dJ (IK k (m.fdiv (2 ^ (min n.toNat k.bits)))))] [(d,0)]):=by
 intro S;refine kW (.int k (m.fdiv (2 ^ (min n.toNat k.bits)))) rfl rfl (yB sd) fun a w G g9=>?_
 have h1:=(xX g9 hx).1;have h2:=(xX g9 hy).1;have h3:¬n<0:=by omega
 simp[execOp,h1,h2,eqGuard,binOp,Op.shift,h3]
end
end Go.Ab

namespace Go.Ab
open Go
structure zQj (P:Program) (f:Field) (i:Nat):Prop where
 name:f.name≠ "_"
 off:f.offset=i
 ty:P.underlying f.type=dJ (.int .i64)
class zTl (P:Program) (t:TypeId):Prop where
 h:∃f0 f1 f2 f3:Field,P.underlying t=dJ (.struct #[f0,f1,f2,f3])∧zQj P f0 0∧zQj P f1 1∧zQj P f2 2∧zQj P f3 3
 st:P.stoodInHeld t=dM
 gd:P.eqGuardType P.depth t=dM
theorem zD7{P:Program}{w:World}{f:Field}{i:Nat}(h:zQj P f i)(cs:Array Value)(v:Value)(hv:cs[i]? =dJ v):(part f.type cs f.offset).run P w=.ok v w:=by simp[part,qW h.ty,zEa,h.off,hv]
theorem zQk{P:Program}{w:World}{t:TypeId}(h:zTl P t)(a b c d a' b' c' d':Int)(m:Nat):
  (Op.equalIn (m+2) t (.agg #[.int .i64 a,.int .i64 b,.int .i64 c,.int .i64 d]) (.agg #[.int .i64 a',.int .i64 b',.int .i64 c',.int .i64 d'])).run P w=.ok (a==a'&&(b==b'&&(c==c'&&d==d'))) w:=by
 obtain⟨f0,f1,f2,f3,h1,g0,g1,g2,g3⟩:=h.h;have k0:=fun(x y:Int)=>zFn (P:=P) (w:=w) (a:=x) (b:=y) m g0.ty
 have k1:=fun(x y:Int)=>zFn (P:=P) (w:=w) (a:=x) (b:=y) m g1.ty
 have k2:=fun(x y:Int)=>zFn (P:=P) (w:=w) (a:=x) (b:=y) m g2.ty
 have k3:=fun(x y:Int)=>zFn (P:=P) (w:=w) (a:=x) (b:=y) m g3.ty
 have gL:=h.st;rw[Op.equalIn];simp only[Sem.run_bind,run_underlying h1];have q0:=fun(a b c d:Int)=>zD7 (w:=w) g0 #[.int .i64 a,.int .i64 b,.int .i64 c,.int .i64 d] (.int .i64 a) rfl
 have q1:=fun(a b c d:Int)=>zD7 (w:=w) g1 #[.int .i64 a,.int .i64 b,.int .i64 c,.int .i64 d] (.int .i64 b) rfl
 have q2:=fun(a b c d:Int)=>zD7 (w:=w) g2 #[.int .i64 a,.int .i64 b,.int .i64 c,.int .i64 d] (.int .i64 c) rfl
 have q3:=fun(a b c d:Int)=>zD7 (w:=w) g3 #[.int .i64 a,.int .i64 b,.int .i64 c,.int .i64 d] (.int .i64 d) rfl
 by_cases e0:a=a'<;>by_cases e1:b=b'<;>by_cases e2:c=c'<;>by_cases e3:d=d'<;>
  simp[gL,g0.name,g1.name,g2.name,g3.name,q0,q1,q2,q3,k0,k1,k2,k3,e0,e1,e2,e3]
section
variable {P:Program}{Γ:Ctx}{E E':Env}{d:Nat}{x y:Operand}{ty:TypeId}{ps:String}{af:Array Edge}{gd:Option (Nat×Bool)}
theorem zV0{t t':TypeId}{s s':Nat}{a b c e a' b' c' e':Int}(h:zTl P t)(hx:E s=dJ (.agg [I a,I b,I c,I e]))(hy:E s'=dJ (.agg [I a',I b',I c',I e']))(sd:J5 d Γ.N=dL):
  Ok P Γ ⟨dJ d,.binOp .eql t (.tmp s) (.tmp s') t',ty,ps,af,gd⟩ E (E.app [(d,dJ (B (a==a'&&(b==b'&&(c==c'&&e==e')))))] [(d,0)]):=by
 intro S;refine kW _ rfl rfl (yB sd) fun A w G g9=>?_
 obtain⟨h1,h2,_⟩:=g9.ent s _ hx;obtain⟨h3,h4,_⟩:=g9.ent s' _ hy;simp only[R,RF]at h2 h4;have e1:A.eval (.tmp s)=.agg #[.int .i64 a,.int .i64 b,.int .i64 c,.int .i64 e]:=by rw[xT h1];simp[mkV,zY,vals,h2]
 have e2:A.eval (.tmp s')=.agg #[.int .i64 a',.int .i64 b',.int .i64 c',.int .i64 e']:=by rw[xT h3];simp[mkV,zY,vals,h4]
 have h5:(Op.equalIn 10000 t (.agg #[.int .i64 a,.int .i64 b,.int .i64 c,.int .i64 e]) (.agg #[.int .i64 a',.int .i64 b',.int .i64 c',.int .i64 e'])).run P w=_:=zQk (w:=w) h a b c e a' b' c' e' 9998;have hg:=h.gd;simp[execOp,e1,e2,eqGuard,binOp,zJO,h5,hg]
end
end Go.Ab

namespace Go.Ab
open Go
abbrev vI(n:Int):Value:=.int .i64 n
section
variable {Γ:Ctx}{E:Env}
theorem zJU{G:Gh}{tmps:Array Value}{w w':World}(g9:Rep Γ E G tmps w){s0:Nat}{xs us:List Int}(hH:E s0=dJ (L 1 I xs))(gm:us.length=xs.length)
  {b cap:Nat}{cs cs':Array Value}{e:TypeId}(h1:G.hd s0 []=.slice (dJ ⟨b,0,dK⟩) xs.length cap)(h2:w.heap[b]? =dJ (.cells cs e (0,0)))(h3:xs.length≤cap)(h4:cap≤maxLen)(h5:cap*1≤cs.size)(h6:G.ow b=dJ (s0,[]))
  (h7:∀o,xs.length*1≤o→o<cap*1→G.lb b o=dJ (dL,s0,[]))(h8:RL Γ.St G w s0 (xs.map I) [] 0 b 0 1)
  (k1:w'.heap[b]? =dJ (.cells cs' e (0,0)))(k2:cs'.size=cs.size)(k3:∀b',b'≠b→w'.heap[b']? =w.heap[b']?)(k4:w'.heap.size=w.heap.size)(ko:w'.os=w.os)(kq:w'.output=w.output)(k5:∀(i:Nat) u,us[i]? =dJ u→cs'[i]? =dJ (vI u)):
  ∃G',Rep Γ (E.app [(s0,dJ (L 1 I us))] [(s0,1)]) G' tmps w':=by
 have hm:=g9.mem;obtain⟨e1,_,_⟩:=g9.ent s0 _ hH;have gK:=hm.ow b _ h6
 let G':Gh:={ G with hd:=fun s z=>if s=s0 then(match z with
  | [i]=>(match us[i]? with
   |some u=>vI u
   |none=>G.hd s0 z)
  |_=>G.hd s0 z)else G.hd s z }
 have hB:Blk w w':=by
  intro b' cs2 e2 hb
  grind
 have gx:qC [(s0,1)] G w G' w':=by
  refine⟨fun s p ho=>?_,fun _ _ _=>rfl,fun b' o f s p gY hl hs=>⟨hl,?_⟩,fun _ _ _ hl _=>hl,hB⟩
  ·by_cases h:s=s0
   ·subst h
    have:p=[]:=Kn (by have:=ho 1 (by simp);omega)
    grind
   grind
  ·have fP:s≠s0:=by grind
   obtain⟨y,hy⟩:=gY;have po:b'≠b:=by grind
   grind[yI,World.cell?]
 have gw:Mem Γ G' w':=by
  refine⟨fun s z=>?_,fun b' o l hl=>?_,fun b' l hl=>?_,fun b' x hx=>?_,fun b' h h'=>?_,by rw[k4];exact hm.sz,hm.bk.trans hB ko kq⟩
  ·show(if _ then _ else _:Value).oneCell'=dL
   split
   ·split
    ·split
     ·rfl
     ·exact hm.one _ _
    ·exact hm.one _ _
   ·exact hm.one _ _
  ·have:=hm.lb b' o l hl;exact⟨by rw[k4];exact this.1,this.2⟩
  ·have:=hm.ow b' l hl;exact⟨by rw[k4];exact this.1,this.2⟩
  ·have:b'≠b:=by rintro rfl;rw[gK.2.2]at hx;cases hx
   rw[k3 b' this];exact hm.st b' x hx
  ·have:b'≠b:=by
    rintro rfl
    rcases gK.2.1 with h0|h0
    all_goals grind
   rw[k3 b' this];exact hm.fr b' h h'
 refine⟨G',wX g9 rfl gx gw ?_ ?_⟩
 ·intro s hs
  rw[uT]at hs
  grind
 ·intro s t' hs
  rw[uT]at hs;split at hs
  ·rename_i he;subst he
   simp at hs;subst hs;refine⟨by grind[mkV],?_,by simp only[Top];exact zCT zNm us⟩;simp only[R];refine .inr ⟨b,cap,cs',e,by grind,k1,by grind,h4,by omega,h6,by grind,?_⟩;refine zI8 _ [] 0 b 0 fun i x hx=>?_
   rw[Jp,Kq]at hx;obtain⟨u,hu,rfl⟩:=hx;have hi:=(Jk.1 hu).1;obtain⟨g1,g2,_⟩:=qT _ [] 0 b 0 1 i (I xs[i]) h8 (by simp);simp only[J8,Gs,Loc]at g1 ⊢
   refine⟨⟨g1.1,g1.2.1,?_⟩,rfl,by simp[R,G',hu]⟩
   grind[yI,World.cell?]
  ·cases hs
def zEN(P:Program)(Γ:Ctx)(E:Env)(y:Operand)(ys:List Int):Prop:=∀(a:Act)(w:World)(G:Gh),Rep Γ E G a.tmps w→ ∃xa c,a.eval y=.slice xa ys.length c∧
 ∀(n:Nat),n≤ys.length→(Builtin.firstCells 1 n (.slice xa ys.length c)).run P w=.ok ((ys.take n).map vI).toArray w
theorem zBx{P:Program}{w:World}{b o:Nat}{cs:Array Value}{e:TypeId}{fr:Nat×Nat}(hb:w.heap[b]? =dJ (.cells cs e fr))(ys:List Int)(hv:∀(i:Nat) u,ys[i]? =dJ u→cs[o+i]? =dJ (vI u))(n:Nat)(hn:n≤ys.length)(len cap:Nat):
  (Builtin.firstCells 1 n (.slice (dJ ⟨b,o,dK⟩) len cap)).run P w=.ok ((ys.take n).map vI).toArray w:=by
 refine run_firstCells_some (P:=P) w 1 n ⟨b,o,dK⟩ len cap _ (by simp;omega) fun j v hj=>?_
 rw[Jp,Kq]at hj;obtain⟨u,hu,rfl⟩:=hj
 grind[vP,World.cell?]
theorem zBH{P:Program}{w:World}{a:Option Addr}{c:Nat}:(Builtin.firstCells 1 0 (.slice a 0 c)).run P w=.ok #[] w:=by cases a<;>simp[Builtin.firstCells,loadCells,loadCellsFrom]
theorem zEN.ro{P:Program}{y:Operand}{ys:List Int}{r:Nat}{q:List Nat}(h:uU E y=dJ (r,q,.ro (L 1 I ys))):zEN P Γ E y ys:=fun a w G g9=>by
 obtain⟨h1,h2⟩:=qD g9 h rfl;obtain⟨xa,c,g1,_,_,g2⟩:=zCe h1;rw[Jt]at g1;refine⟨xa,c,by rw[h2,g1],fun n hn=>?_⟩
 by_cases hy:ys=[]
 ·grind[zBH]
 ·obtain⟨b,o,cs,e,fr,rfl,g3,g4⟩:=g2 (by grind)
  refine zBx (g9.mem.st b _ g3) ys (fun i u hu=>?_) n hn _ _;have:=zFk _ cs o 1 i (I u) g4 (by simp[hu]);simp only[RoC,Gs]at this
  grind
theorem zNp{G:Gh}{w:World}{s b:Nat}{q:List Nat}{cs:Array Value}{e:TypeId}{xs:List Int}{St:Stb}(h2:w.heap[b]? =dJ (.cells cs e (0,0)))(h8:RL St G w s (xs.map I) q 0 b 0 1)(i:Nat)(u:Int)(hu:xs[i]? =dJ u):cs[i]? =dJ (vI u):=by
 obtain⟨g1,_,g3⟩:=qT _ q 0 b 0 1 i (I u) h8 (by simp[hu]);simp only[Loc,R,J8,Gs]at g1 g3
 grind[yI,World.cell?]
theorem zEN.sub{P:Program}{s r:Nat}{q:List Nat}{tr:T}{xs ys:List Int}{l h:Int}(hs:E s=dJ (.sub r q 1 l.toNat h.toNat))(hr:E r=dJ tr)(hg:tr.get q.reverse=dJ (L 1 I xs))(hv:zW xs l h=dJ ys):zEN P Γ E (.tmp s) ys:=fun a w G g9=>by
 obtain⟨k1,k2,k3,rfl⟩:=tU hv;obtain⟨e1,e2,_⟩:=g9.ent s _ hs;obtain⟨_,e4,_⟩:=g9.ent r _ hr;simp only[R]at e2;have h5:=(qN q.reverse tr _ [] e4 hg).1;simp only[rp,Ke,Jg,R]at h5;have gm:((xs.drop l.toNat).take (h.toNat-l.toNat)).length=h.toNat-l.toNat:=by simp;omega
 rw[gm];have mY:a.eval (.tmp s)=G.hd s []:=by rw[xT e1,xJ rfl]
 rcases h5 with⟨g1,ad,g2⟩|⟨b,cap,cs,e,g1,g2,g3,_,_,_,_,g8⟩
 ·have hy:xs=[]:=by simp_all
  grind[kS,zBH]
 ·rw[Jt]at g1 g3
  refine⟨if cap=l.toNat then dJ ⟨b,0,dK⟩else dJ ⟨b,l.toNat,dK⟩,cap-l.toNat,by rw[mY,e2,g1];simp only[kS,Hg,vP,J8,Gs],fun n hn=>?_⟩;split
  ·have:n=0:=by omega
   subst this;rfl
  ·refine zBx g2 _ (fun i u hu=>?_) n (by omega) _ _
   grind[zNp]
def zBI(Γ:Ctx)(E:Env)(x:Operand)(s0 lo hi:Nat):Prop:=∀(a:Act)(w:World)(G:Gh),Rep Γ E G a.tmps w→a.eval x=kS (G.hd s0 []) 1 lo hi
theorem zBI.slot{s0:Nat}{xs:List Int}(h:E s0=dJ (L 1 I xs)):zBI Γ E (.tmp s0) s0 0 xs.length:=fun a w G g9=>by obtain⟨e1,e2,_⟩:=g9.ent s0 _ h;obtain⟨ad,c,g⟩:=zFj e2;rw[Jt]at g;rw[xT e1,xJ rfl,g];simp[kS];intro;cases ad<;>simp[Addr.add]
theorem zBI.same{s s0:Nat}{xs:List Int}(hs:E s=dJ (.same s0 []))(h:E s0=dJ (L 1 I xs)):zBI Γ E (.tmp s) s0 0 xs.length:=fun a w G g9=>by obtain⟨e1,e2,_⟩:=g9.ent s _ hs;have:=zBI.slot h a w G g9;obtain⟨e3,_,_⟩:=g9.ent s0 _ h;simp only[R]at e2;rw[xT e3,xJ rfl]at this;rw[xT e1,xJ rfl,e2];exact this
theorem zBI.sub{s s0 lo hi:Nat}(hs:E s=dJ (.sub s0 [] 1 lo hi)):zBI Γ E (.tmp s) s0 lo hi:=fun a w G g9=>by obtain⟨e1,e2,_⟩:=g9.ent s _ hs;simp only[R]at e2;rw[xT e1,xJ rfl,e2]
end
theorem zOq{α:Type}{xs ys:List α}{l h:Int}(hv:zW xs l h=dJ ys):l.toNat≤h.toNat:=by have:=tU hv;omega
theorem zOr{α:Type}{xs ys:List α}{l h:Int}(hv:zW xs l h=dJ ys):h.toNat≤xs.length:=by have:=tU hv;omega
theorem zNq{α:Type}(l z:List α)(lo i:Nat)(ej:lo+z.length≤l.length):(l.take lo++z++l.drop (lo+z.length))[i]? =if i<lo then l[i]? else if i<lo+z.length then z[i-lo]? else l[i]?:=by
 have hm:min lo l.length=lo:=by omega
 grind
def wV(xs:List Int)(lo:Nat)(zs:List Int):List Int:=xs.take lo++zs++xs.drop (lo+zs.length)
theorem zIN{P:Program}{Γ:Ctx}{E:Env}{d s0 lo hi:Nat}{x y:Operand}{ty:TypeId}{ps:String}{af:Array Edge}{gd:Option (Nat×Bool)}{t t2 e:TypeId}{ti:TypeInfo}{u:T}{xs ys:List Int}(ht:ElT P t e ti 1 u)(h0:E s0=dJ (L 1 I xs))(hx:∀S,zBI (Γ.at S) E x s0 lo hi)(hy:∀S,zEN P (Γ.at S) E y ys)(h1:lo≤hi)(h2:hi≤xs.length)(sd:(J5 d Γ.N&&(s0 != d))=dL):
  Ok P Γ ⟨dJ d,.call { callee:=.builtin .copy,args:=#[x,y],argTypes:=#[t,t2] },ty,ps,af,gd⟩ E ((E.app [(s0,dJ (L 1 I (wV xs lo (ys.take (hi-lo)))))] [(s0,1)]).app [(d,dJ (I ((min ys.length (hi-lo):Nat):Int)))] [(d,0)]):=by
 simp only[J2]at sd;have gf:s0≠d:=by grind
 intro S;refine xV.value rfl fun a w G g9=>?_
 obtain⟨e1,e2,_⟩:=g9.ent s0 _ h0;obtain⟨xa,c,g1,g2⟩:=hy S a w G g9;have g3:=hx S a w G g9;have ef:min ys.length (hi-lo)≤ys.length:=by omega
 have g4:=g2 _ ef;have fO:ys.take (hi-lo)=ys.take (min ys.length (hi-lo)):=by grind
 rw[fO]
 generalize hn:min ys.length (hi-lo)=n at*
 have bc:(ys.take n).length=n:=by simp;omega
 have gm:(wV xs lo (ys.take n)).length=xs.length:=by grind[wV]
 have key:∃w',(Builtin.copy_ #[t,t2] ty #[a.eval x,a.eval y]).run P w=.ok (goInt n) w'∧ ∃G',Rep (Γ.at S) (E.app [(s0,dJ (L 1 I (wV xs lo (ys.take n))))] [(s0,1)]) G' a.tmps w':=by
  have e2':=e2;simp only[R]at e2;rcases e2 with⟨k1,ad,k2⟩|⟨b,cap,cs,e',k1,k2,k3,k4,k5,k6,k7,k8⟩
  ·have eY:xs=[]:=by simp_all
   subst eY;simp at h2;subst h2;have bP:n=0:=by omega
   subst bP;have ej:lo=0:=by omega
   subst ej;refine⟨w,?_,G,?_⟩
   ·rw[g3,k2,g1]
    cases ad<;>cases xa<;>simp[kS,Builtin.copy_,run_underlying ht.un,Builtin.lenOf,sizeOf,typeInfo,ht.info,Builtin.firstCells,loadCells,loadCellsFrom,storeCells]
   ·refine wX g9 rfl ⟨fun _ _ _=>rfl,fun _ _ _=>rfl,by grind,fun _ _ _ h _=>h,fun b cs e h=>⟨cs,h,rfl⟩⟩ g9.mem (fun s hs=>⟨by grind[Wr.find],rfl⟩) fun s t' hs=>?_
    rw[uT]at hs;split at hs
    ·rename_i he;subst he
     simp at hs;subst hs;simpa[wV]using g9.ent s0 _ h0
    ·cases hs
  ·rw[Jt]at k1 k3 k7
   have gy:cap≤cs.size:=by omega
   have gL:=run_storeCells_at P b lo e' ((ys.take n).map vI) 0 cs w k2 (by simp;omega) (by intro v hv;obtain⟨u,_,rfl⟩:=Jh.1 hv;rfl);simp only[Gt,Jt]at gL
   generalize hw':w.setRow b (cs.toList.take lo++(ys.take n).map vI++cs.toList.drop (lo+(ys.take n).length)).toArray=w' at gL
   have gI:cs.toList.length=cs.size:=rfl
   by_cases fX:cap=lo
   ·have bP:n=0:=by omega
    subst bP;refine⟨w,?_,G,?_⟩
    ·rw[g3,k1,g1]
     have g5:(Builtin.firstCells 1 0 (.slice xa ys.length c)).run P w=.ok #[] w:=by grind
     simp[kS,Builtin.copy_,run_underlying ht.un,Builtin.lenOf,sizeOf,typeInfo,ht.info,ht.size,show hi-lo=0 by omega,g5,storeCells,fX]
    ·refine wX g9 rfl ⟨fun _ _ _=>rfl,fun _ _ _=>rfl,by grind,fun _ _ _ h _=>h,fun b cs e h=>⟨cs,h,rfl⟩⟩ g9.mem (fun s hs=>⟨by grind[Wr.find],rfl⟩) fun s t' hs=>?_
     rw[uT]at hs;split at hs
     ·rename_i he;subst he
      simp at hs;subst hs;simpa[wV]using g9.ent s0 _ h0
     ·cases hs
   ·refine⟨w',?_,zJU g9 h0 gm k1 k2 k3 k4 k5 k6 k7 k8 (by rw[←hw'];exact setRow_heap w b cs _ e' _ k2) ?_ (by grind[setRow_other]) (by grind[size_setRow]) (by rw[←hw'];rfl) (by rw[←hw'];rfl) fun i v hv=>?_⟩
    ·rw[g3,k1,g1]
     have h9:Nat.min ys.length (hi-lo)=n:=hn;simp only[kS,fX,if_false,Hg,vP,J8,Gs];simp only[Builtin.copy_];rw[Qr]at gL;simp[run_underlying ht.un,Builtin.lenOf,sizeOf,typeInfo,ht.info,ht.size,h9,g4,gL]
    ·grind
    ·rw[wV,zNq _ _ _ _ (by omega)]at hv
     have h11:lo+((ys.take n).map vI).length≤cs.toList.length:=by simp;omega
     have h10:=zNq cs.toList ((ys.take n).map vI) lo i h11;rw[Jt]at h10;rw[List.getElem?_toArray,h10];have p8:=fun i u hu=>zNp k2 k8 i u hu
     by_cases c1:i<lo
     ·grind
     ·rw[if_neg c1]at hv ⊢
      by_cases c2:i<lo+(ys.take n).length
      ·rw[if_pos c2]at hv ⊢
       rw[Jp,hv];rfl
      grind
 obtain⟨w',gz,G',gp⟩:=key;refine⟨_,w',?_,_,wR gp rfl (yB sd.1) (fun _=>vI n) (fun _=>rfl) (I n) (vI n) (by simp[mkV,Gh.put]) (by simp[R,Gh.put]) (by simp[Top])⟩;simp[execOp,resolve,invoke,builtin,gz,goInt]
end Go.Ab

namespace Go.Ab
open Go
theorem zHI{G G':Gh}{s d:Nat}(hd:∀z,G'.hd d z=G.hd s z):(xs:List T)→yO xs=dL→ ∀(j:Nat),qL G' d (cpF s xs [] j) [] j=qL G s xs [] j
 | [],_,_=>by simp only[cpF,qL]
 |x::xs,h,j=>by
  simp only[yO,J2]at h;simp only[cpF,qL];have gW:∀ys,x≠.tup ys:=by rintro ys rfl;simp[T.okTup]at h
  have h1:=kV (G:=G) (G':=G') (s:=s) (d:=d) x [j] [j] gW (fun z=>hd _);have h2:∀ys,cpT s x [j]≠.tup ys:=by intro ys;cases x<;>simp[cpT]
  rw[jL _ _ _ _ h2]at h1;rw[h1,zHI hd xs h.2 (j+1)]
section
variable {P:Program}{Γ:Ctx}{E E':Env}{d:Nat}{x y:Operand}{ty:TypeId}{ps:String}{af:Array Edge}{gd:Option (Nat×Bool)}
theorem zNr{s:Nat}{ts:List T}(hx:E s=dJ (.tup ts))(sd:(J5 d Γ.N&&yO ts&&(s != d)&&zJu [(d,0)] (cpF s ts [] 0))=dL):Ok P Γ ⟨dJ d,.move (.tmp s),ty,ps,af,gd⟩ E (E.app [(d,dJ (.tup (cpF s ts [] 0)))] [(d,0)]):=by
 simp only[J2]at sd;obtain⟨⟨⟨s1,s2⟩,s3⟩,s4⟩:=sd;have gf:s≠d:=by simpa using s3
 intro S;refine xV.value rfl fun a w G g9=>?_
 obtain⟨h1,h2,_⟩:=g9.ent s _ hx;simp only[R]at h2;have hk:=G.put_keep (w:=w) (w':=w) rfl d (fun z=>G.hd s z);have hz:∀z,(G.put d (fun z=>G.hd s z)).hd d z=G.hd s z:=fun z=>by rw[Gh.put_self]
 have bv:∀(xs:List T)(j:Nat),vN (cpF s xs [] j):=by
  intro xs
  induction xs with
  |nil=>intro j;simp only[cpF,vN]
  |cons x xs ih=>intro j;simp only[cpF,vN];exact⟨sP s x _,ih _⟩
 refine⟨mkV G s (.tup ts) [],w,?_,_,wR g9 rfl (yB s1) (fun z=>G.hd s z) (fun z=>g9.mem.one _ _) _ _ (by simp only[mkV];rw[zHI hz ts s2 0])
  (by simp only[R];exact zI1 (fun p=>G.put_other _ p gf) ts [] [] 0 (fun z=>hz _) (xL.mono (fun r p hr=>⟨hk.hd r p hr,hk.ad r p hr⟩) _ (zF4 _ (bv ts 0) s4)) h2) (by simp only[Top];exact bv ts 0)⟩
 simp[execOp,xT h1]
end
end Go.Ab

namespace Go.Ab
open Go
section
variable (ds r:Nat)
inductive zOs:Env→List (Nat×List Nat)→Env→Prop where
 |nil (E:Env):zOs E [] E
 |cons {E E':Env}{l:List (Nat×List Nat)} (j:Nat) (q:List Nat) (td td' tr tr' u:T) (hd:E ds=dJ td) (hg:td.get [j]=dJ (.same r q)) (hr:E r=dJ tr) (hp:tr.get q.reverse=dJ u) (e7:zT u)
   (fY:td.set [j] u=td') (fK:tr.set q.reverse .any=tr') (sd:(u.single&&td.okB [(ds,2),(r,q.length+1)]&&tr.okB [(ds,2),(r,q.length+1)]&&yP td&&yP tr&&(ds != r)&& !q.isEmpty)=dL)
   (h:zOs (E.app [(ds,dJ td'),(r,dJ tr')] [(ds,2),(r,q.length+1)]) l E'):zOs E ((j,q)::l) E'
inductive zHJ:Env→List (Nat×List Nat)→Env→Prop where
 |nil (E:Env):zHJ E [] E
 |cons {E E':Env}{l:List (Nat×List Nat)} (j:Nat) (q:List Nat) (td td' tr tr' u v0:T) (hd:E ds=dJ td) (hg:td.get [j]=dJ u) (hr:E r=dJ tr) (hp:tr.get q.reverse=dJ v0) (e7:zT u)
   (fY:td.set [j] .any=td') (fK:tr.set q.reverse u=tr') (sd:(u.single&&v0.single&&td.okB [(r,q.length+1),(ds,2)]&&tr.okB [(r,q.length+1),(ds,2)]&&yP td&&yP tr&&(ds != r)&& !q.isEmpty)=dL)
   (h:zHJ (E.app [(r,dJ tr'),(ds,dJ td')] [(r,q.length+1),(ds,2)]) l E'):zHJ E ((j,q)::l) E'
end
theorem zNs{g z:List Nat}(h:g<:+z)(hn:z≠g):g.length<z.length:=by
 have h1:=h.length_le;rcases Jd g.length z.length with h2|h2
 ·exact h2
 ·exact absurd (h.eq_of_length (by omega)).symm hn
theorem zOs.rep{Γ:Ctx}{tmps:Array Value}{w:World}{ds r:Nat}{E E':Env}{l:List (Nat×List Nat)}(h:zOs ds r E l E'):∀{G:Gh},Rep Γ E G tmps w→
  ∃G',Rep Γ E' G' tmps w∧(∀z,G'.hd r z=G.hd r z)∧(∀j,G'.hd ds [j]=G.hd ds [j])∧ ∀x∈l,G.hd ds [x.1]=G.hd r x.2:=by
 induction h with
 |nil E=>intro G hr;exact⟨G,hr,fun _=>rfl,fun _=>rfl,fun x hx=>by simp at hx⟩
 |cons j q td td' tr tr' u hd hg hr hp e7 fY fK sd _ ih=>
  intro G g9;simp only[J2]at sd;obtain⟨⟨⟨⟨⟨⟨s1,s2⟩,s3⟩,s4⟩,s5⟩,s6⟩,s7⟩:=sd;have gf:ds≠r:=by simpa using s6
  have hq:q≠[]:=by rintro rfl;simp at s7
  have gO:G.hd ds [j]=G.hd r q:=by have:=(qN [j] td _ [] (g9.ent ds td hd).2.1 hg).1;simpa[rp,R]using this
  obtain⟨h1,h2⟩:=zCO g9 ds [j] r q td tr u (.same r q) hd (by simpa using hg) rfl gO hr hp s1 e7 gf (by simpa using s2) (by simpa using s3) s4 s5;rw[if_neg hq,show([j]:List Nat).reverse=[j]from rfl,fY,fK]at h1;obtain⟨G',g1,g2,g3,g4⟩:=ih (by simpa using h1);have e1:∀z,(G.tr ds [j] r q).hd r z=G.hd r z:=fun z=>h2 r z (fun h=>gf h.1.symm)
  have e2:∀i,(G.tr ds [j] r q).hd ds [i]=G.hd ds [i]:=fun i=>h2 ds [i] (fun h=>by have:=zNs h.2.1 h.2.2;simp at this)
  refine⟨G',g1,fun z=>by rw[g2,e1],fun i=>by rw[g3,e2],fun x hx=>?_⟩;rcases Jn.1 hx with rfl|hx
  ·exact gO
  ·have:=g4 x hx
   rw[e1,e2]at this;exact this
theorem zHJ.rep{Γ:Ctx}{tmps:Array Value}{w:World}{ds r:Nat}{E E':Env}{l:List (Nat×List Nat)}(m:Nat)(h:zHJ ds r E l E'):(∀x∈l,x.2.length=m)→ ∀{G:Gh},Rep Γ E G tmps w→(∀x∈l,G.hd ds [x.1]=G.hd r x.2)→ ∃G',Rep Γ E' G' tmps w:=by
 induction h with
 |nil E=>intro _ G hr _;exact⟨G,hr⟩
 | @cons E E' l j q td td' tr tr' u v0 hd hg hr hp e7 fY fK sd _ ih=>
  intro hm G g9 mO;simp only[J2]at sd;obtain⟨⟨⟨⟨⟨⟨⟨s1,s1'⟩,s2⟩,s3⟩,s4⟩,s5⟩,s6⟩,s7⟩:=sd;have gf:ds≠r:=by simpa using s6
  have hq:q≠[]:=by rintro rfl;simp at s7
  obtain⟨h1,h2⟩:=zCO g9 r q ds [j] tr td u v0 hr hp s1' (mO (j,q) (by simp)).symm hd (by simpa using hg) s1 e7 (Ne.symm gf) (by simpa using s3) (by simpa using s2) s5 s4;rw[if_neg (by simp),show([j]:List Nat).reverse=[j]from rfl,fY,fK]at h1;refine ih (fun x hx=>hm x (by simp[hx])) (by simpa using h1) fun x hx=>?_
  have e1:∀z,(G.tr r q ds [j]).hd ds z=G.hd ds z:=fun z=>h2 ds z (fun h=>gf h.1)
  by_cases hz:q<:+x.2∧x.2≠q
  ·have h3:=zNs hz.1 hz.2
   rw[hm x (by simp[hx]),hm (j,q) (by simp)]at h3;omega
  ·have e2:(G.tr r q ds [j]).hd r x.2=G.hd r x.2:=h2 r x.2 (fun h=>hz h.2)
   rw[e1,e2];exact mO x (by simp[hx])
theorem zEO{G G':Gh}{s:Nat}:(xs ys:List T)→(∀x∈xs,x.single=dL)→(∀x∈ys,x.single=dL)→xs.length=ys.length→ ∀(j:Nat),zY G s xs [] j=zY G' s ys [] j→ ∀i,i<xs.length→G.hd s [j+i]=G'.hd s [j+i]
 | [],_,_,_,_,_,_,i,hi=>by simp at hi
 |x::xs,[],_,_,hl,_,_,_,_=>by simp at hl
 |x::xs,y::ys,h1,h2,hl,j,h,i,hi=>by
  have v1:∀(G:Gh)(t:T)(p:List Nat),t.single=dL→vals G s t p=[G.hd s p]:=fun G t p ht=>by cases t<;>simp[T.single]at ht<;>simp[vals]
  simp only[zY,v1 G x _ (h1 x (by simp)),v1 G' y _ (h2 y (by simp)),L9,Ja1.injEq]at h;cases i with
  |zero=>exact h.1
  |succ i=>
   have:=zEO xs ys (fun z hz=>h1 z (by simp[hz])) (fun z hz=>h2 z (by simp[hz])) (by simpa using hl) (j+1) h.2 i (by simpa using hi);rw[show j+(i+1)=j+1+i by omega];exact this
def zD8:List T→Bool
 | []=>dL
 |x::xs=>x.single&&zD8 xs
theorem zCW:{xs:List T}→zD8 xs=dL→ ∀x∈xs,x.single=dL
 | [],_,_,h=>by simp at h
 |x::xs,h,y,hy=>by
  simp only[zD8,J2]at h;rcases Jn.1 hy with rfl|hy
  ·exact h.1
  ·exact zCW h.2 y hy
theorem zFo{P:Program}{Γ:Ctx}{E E1 E3:Env}{d:Nat}{ty:TypeId}{ps:String}{af:Array Edge}{gd:Option (Nat×Bool)}{f:FuncId}{xs:List Operand}{ats:Array TypeId}{us res:List T}{ts ts':List T}(i ds r:Nat)(l:List (Nat×List Nat))(m:Nat)(gv:zAb P f)(hc:FnC P f us res [(i,.agg ts')])
  (hJ:zOs ds r E l E1)(hs:E1 ds=dJ (.agg ts))(ex:zT (.agg ts'))(fT:wG (.agg ts')=dL)(gc:xG E1 [(i,ds,.agg ts')] 0 xs us)(gn:qE res)
  (mn:zHJ ds r (E1.app (cWr d res [(i,ds,.agg ts')]) (uE d [(i,ds,.agg ts')])) l E3)
  (sd:(J5 d Γ.N&&(d != ds)&&(d != r)&&(ds != r)&&zD8 ts&&zD8 ts'&&(ts.length==ts'.length)&&(l.all fun x=>x.2.length==m&&J5 x.1 ts.length))=dL)(hx:xs[i]? =dJ (.tmp ds))(hu:us[i]? =dJ (.agg ts)):
  Ok P Γ ⟨dJ d,.call { callee:=.value (.func f),args:=xs.toArray,argTypes:=ats },ty,ps,af,gd⟩ E E3:=by
 simp only[J2]at sd;obtain⟨⟨⟨⟨⟨⟨⟨s1,s2⟩,s3⟩,s4⟩,s5⟩,s6⟩,s7⟩,s8⟩:=sd;have d1:d≠ds:=by simpa using s2
 have d2:d≠r:=by simpa using s3
 have d3:ds≠r:=by simpa using s4
 have gm:ts.length=ts'.length:=by simpa using s7
 have hl:∀x∈l,x.2.length=m∧x.1<ts.length:=fun x hx=>by have:=Jw.1 s8 x hx;simp only[J2,beq_iff_eq]at this;exact⟨this.1,yB this.2⟩
 intro S a w K Q ⟨gQ,G,g9⟩ hK;refine zBA (xf:=.func f) rfl rfl gv rfl ?_;obtain⟨G1,g1,g2,g3,g4⟩:=hJ.rep g9;refine(zD0 g1 (yB s1) f xs us res [(i,ds,.agg ts')] hc gc (zFe.one' (u:=.agg ts) d1 hx ex rfl fT hs hu) gn).mono ?_
 rintro e w' ⟨v,rfl,S',G',hS,hk,gp⟩
 have tk:(E1.app (cWr d res [(i,ds,.agg ts')]) (uE d [(i,ds,.agg ts')])) ds=dJ (.agg ts'):=by simp[Env.app,Wr.find,cWr,d1]
 have hv:mkV G' ds (.agg ts') []=mkV G1 ds (.agg ts) []:=by have a1:=(gp.ent ds _ tk).1;have a2:=(g1.ent ds _ hs).1;rw[Jc]at a1;simp only[d1,if_false]at a1;rw[a2]at a1;exact(Hf.inj a1).symm
 simp only[mkV,Value.agg.injEq]at hv;have fJ:zY G' ds ts' [] 0=zY G1 ds ts [] 0:=by simpa using congrArg Array.toList hv
 have fC:=zEO ts' ts (zCW s6) (zCW s5) gm.symm 0 fJ;obtain⟨G3,dH⟩:=mn.rep m (fun x hx=>(hl x hx).1) gp fun x hx=>by have h1:=fC x.1 (by have:=(hl x hx).2;omega);rw[J8]at h1;have h2:G'.hd r x.2=G1.hd r x.2:=hk.hd r x.2 (fun n hn=>by simp[uE]at hn;rcases hn with⟨e,_⟩|⟨e,_⟩;exact absurd e.symm d2;exact absurd e.symm d3);rw[h1,h2,g2,g3];exact g4 x hx
 exact⟨v,rfl,hK _ _ ⟨S',hS,gQ,G3,dH⟩⟩
end Go.Ab

namespace Go.Ab
open Go
section
variable {P:Program}{Γ:Ctx}{E:Env}{d:Nat}{x:Operand}{ty:TypeId}{ps:String}{af:Array Edge}{gd:Option (Nat×Bool)}
class zTm (P:Program) (t:TypeId) (e:outParam TypeId) (ti:outParam TypeInfo) (n:outParam Nat) (k:outParam Nat):Prop where
 un:P.underlying t=dJ (.array n e)
 info:P.info? e=dJ ti
 size:ti.size=k
theorem zNt{t e:TypeId}{ti:TypeInfo}{n k r:Nat}{q:List Nat}{xs:List T}{u:T}(i:Nat)(ht:zTm P t e ti n k)(hx:uU E x=dJ (r,q,.ptr (.agg xs)))(hu:xs[i]? =dJ u)(gF:T.sizes (xs.take i)=i*k)(sd:(J5 d Γ.N&&J5 i n)=dL):
  Ok P Γ ⟨dJ d,.indexAddr t x (.const (.int .i64 i)),ty,ps,af,gd⟩ E (E.app [(d,dJ (.addr r (i::0::q)))] [(d,0)]):=by
 simp only[J2]at sd;have hJ:=yB sd.2;intro S;refine xV.value rfl fun a w G g9=>?_
 obtain⟨g1,g2⟩:=qD g9 hx rfl;simp only[R]at g1;obtain⟨b,cs,e',g4,_,_,_,g5,_⟩:=g1;simp only[Loc]at g5;have g6:=zB1 xs (0::q) 0 b 0 i u g5.2 hu;simp only[J8]at g6;have g3:a.eval (.const (.int .i64 i))=.int .i64 i:=rfl;refine⟨.pointer (dJ (G.ad r (i::0::q))),w,?_,_,wR g9 rfl (yB sd.1) (fun _=>.pointer (dJ (G.ad r (i::0::q)))) (fun _=>rfl) _ _ (by simp[mkV,Gh.put]) (by simp[R,Gh.put]) (by simp[Top])⟩;have gE:(i:Int)<(n:Int):=by omega
 have h0:(0:Int)≤i:=by omega
 have g7:=zAX g6;have mw:i<n:=hJ;simp[execOp,Instr.indexAt,g3,g2,g4,asIntOf,run_underlying ht.un,h0,mw,sizeOf,typeInfo,ht.info,ht.size,vP,tE,g7,gF]
end
end Go.Ab
namespace Go.Ab
open Go
theorem zEP{E:Env}{ds r s:Nat}{q:List Nat}{tr u t:T}(h:E s=dJ t)(gf:(Jaf ds s||Jaf r s)=dM:=by rfl)(hb:t.okB [(ds,1),(r,q.length+1)]=dL:=by rfl):opT (uP E ds r q tr u) (.tmp s)=dJ t:=by
 have h1:ds≠s:=by rintro rfl;simp at gf
 have h2:r≠s:=by rintro rfl;simp at gf
 simp[opT,uP,Env.app,Wr.find,h1,h2,h,hb]
end Go.Ab
namespace Go.Ab
open Go
section
variable {P:Program}{Γ:Ctx}{pn:jX}{E E':Env}{Q Q1:Exit→Env→Prop}{c c1 c2:Code}{ops:Array Oper}{o:Oper}{os:List Oper}{id:Nat}
theorem sR(h:RW P Γ pn ops ops.toList E (xP P Γ pn c Q)):CW P Γ pn (.seq (.region id ops dM) c) E Q:=CW.seq (CW.region h)
theorem rN(h:CW P Γ pn c E Q):RW P Γ pn ops [] E (xP P Γ pn c Q):=RW.nil h
theorem oP(h:Ok P Γ o E E')(k:RW P Γ pn ops os E' Q)(hg:o.guard=dK:=by rfl)(hp:pn.ok o.dst=dL:=by rfl):RW P Γ pn ops (o::os) E Q:=RW.op h k hg hp
def zV1(ops:List Oper):List (List Nat):=(ops.foldl (fun(acc:Array (List Nat)) o=>acc.push ((zAD o).foldl (fun l m=>m::(acc.getD m [])++l) [])) #[]).toList
theorem CW.lp{σ ρ:Type}(body:σ→Option (σ⊕ρ))(en:σ→Env)(Q1:ρ→Exit→Env→Prop){s:σ}{r:ρ}(hg:zL Γ E (en s))(h:∀s x,body s=dJ x→CW P Γ pn c (en s) (vK Γ en Q1 x))(hr:zH body s=dJ r)(hq:∀e E',Q1 r e E'→Q e E'):CW P Γ pn (.loop c) E Q:=
 (CW.mono (CW.loop body en Q1 h hr) hq).ghost hg
end
end Go.Ab

namespace Go.Ab
open Go Go.ChangeShapes
abbrev zJV(w:World):Stb:=fun b=>w.heap[b]?
theorem zOt{w:World}{a:Addr}{n:Nat}{cs:List Value}(h:w.cells? 0 a n=dJ cs):cs.length=n∧ ∀(i:Nat) v,cs[i]? =dJ v→w.cell? (a.add i)=dJ v:=by
 unfold World.cells? at h;rw[if_pos (Jy _)]at h;refine⟨by simpa using mapM_some_length h,fun i v hv=>?_⟩;have hi:i<n:=by grind[mapM_some_length,Up]
 rw[←hv];exact mapM_some_get h i i (by simp[hi])
theorem zNu{w:World}{a:Addr}{v:Value}(h:w.cell? a=dJ v):a.spot=dK∧ ∃c e fr,w.heap[a.block]? =dJ (.cells c e fr)∧c[a.off]? =dJ v:=by
 simp only[World.cell?]at h;split at h
 all_goals simp_all
theorem zJW{b o m:Nat}:(Addr.mk b o dK).add m=⟨b,o+m,dK⟩:=by grind[Addr.add]
theorem zEQ{α:Type}{Q:Nat→α→Prop}:∀(n:Nat),(∀i,i<n→ ∃x,Q i x)→ ∃xs:List α,xs.length=n∧ ∀i x,xs[i]? =dJ x→Q i x
 |0,_=>by simp
 |n+1,h=>by
  obtain⟨xs,h1,h2⟩:=zEQ n fun i hi=>h i (by omega)
  obtain⟨y,hy⟩:=h n (by omega);refine⟨xs++[y],by simp[h1],fun i x hx=>?_⟩
  grind
theorem zNv{St:Stb}:(xs:List T)→ ∀(cs:Array Value)(o k:Nat),(∀i x,xs[i]? =dJ x→RoC St x cs (o+i*k))→RoL St xs cs o k
 | [],_,_,_,_=>by grind[RoL]
 |x::xs,cs,o,k,h=>by
  simp only[RoL];refine⟨by simpa using h 0 x rfl,zNv xs cs (o+k) k fun i y hy=>?_⟩;have:=h (i+1) y (by grind)
  grind
section
variable {P:Program}
def RdT(P:Program)(t:TypeId)(k:Nat){α:Type}(f:α→T)(V:α→Prop):Prop:=
 ∀{H:Type}(enc:TypeId×Value→H)(w:World)(fuel:Nat)(cs:List Value)(x:DataW H×List MemPlace),DataW.trod enc P w 0 (fun _=>dL) dL fuel t cs=dJ x→
  cs.length=k→ ∃d,V d∧ ∀(A:Array Value)(o:Nat),(∀(i:Nat) v,cs[i]? =dJ v→A[o+i]? =dJ v)→RoC (zJV w) (f d) A o
theorem zV2{t:TypeId}{q:IntKind}(hu:P.underlying t=dJ (.int q)):RdT P t 1 (IK q) (fun n=>(Lit.int q n).wf=dL):=by intro H enc w fuel cs x h _;obtain⟨n,rfl,_,hw⟩:=DataW.trod_int hu h;exact⟨n,hw,fun A o hA=>by simp only[RoC];exact⟨by simpa using hA 0 _ rfl,rfl⟩⟩
theorem zV3{α:Type}{f:α→T}{V:α→Prop}{t e:TypeId}{k:Nat}(hu:P.underlying t=dJ (.slice e))(hk:P.cellsOf e=k)(eu:0<k)(h:RdT P e k f V):
  RdT P t 1 (L k f) (fun xs=>xs.length≤maxLen∧ ∀x∈xs,V x):=by
 intro H enc w fuel cs x hx _;rcases DataW.trod_slice hu hx with⟨rfl,_⟩|⟨a,len,cap,elems,rest,n,rfl,rfl,_,_,eQ,fX,ab,pe,_⟩
 ·refine⟨[],⟨by simp,by simp⟩,fun A o hA=>?_⟩
  simp only[RoC,Ub,Ha];exact⟨dK,0,by simpa using hA 0 _ rfl,Jf _,by simp[maxLen],fun h=>absurd rfl h⟩
 ·subst hk
  have key:∀i,i<len→ ∃y,V y∧ ∃cs':List Value,cs'.length=P.cellsOf e∧(∀(j:Nat) v,cs'[j]? =dJ v→w.cell? ((a.add (i*P.cellsOf e)).add j)=dJ v)∧
    ∀(A:Array Value)(o:Nat),(∀(j:Nat) v,cs'[j]? =dJ v→A[o+j]? =dJ v)→RoC (zJV w) (f y) A o:=by
   intro i hi;have h1:=pe i hi;rw[J4 (by omega)]at h1;obtain⟨cs',h2,h3⟩:=Option.bind_eq_some_iff.1 h1;obtain⟨h4,h5⟩:=zOt h2;obtain⟨y,h6,h7⟩:=h enc w n cs' _ h3 h4;exact⟨y,h6,cs',h4,h5,h7⟩
  obtain⟨xs,cO,eY⟩:=zEQ len key;refine⟨xs,⟨by omega,fun y hy=>?_⟩,fun A o hA=>?_⟩
  ·obtain⟨i,hi,rfl⟩:=K5.1 hy
   exact(eY i _ (J4 hi)).1
  ·simp only[RoC,Jt,cO]
   refine⟨dJ a,cap,by simpa using hA 0 _ rfl,eQ,fX,fun gf=>?_⟩;have cx:0<xs.length:=by
    cases xs with
    |nil=>simp at gf
    |cons _ _=>simp
   obtain⟨_,cs0,g1,g2,_⟩:=eY 0 _ (J4 cx);have hz:a.add (0*P.cellsOf e)=a:=by simp[Addr.add]
   have g3:=g2 0 cs0[0] (J4 (by omega));rw[hz,show a.add 0=a from by simp[Addr.add]]at g3;obtain⟨cW,c,e',fr,hb,_⟩:=zNu g3;obtain⟨b,off,sp⟩:=a;simp only at cW hb;subst cW;refine⟨b,off,c,e',fr,rfl,hb,zNv _ _ _ _ fun i y hy=>?_⟩;rw[Jp,Kq]at hy;obtain⟨z,pN,rfl⟩:=hy;obtain⟨_,cs',g1',g2',g4⟩:=eY i z pN;refine g4 c _ fun j v hv=>?_
   have:=g2' j v hv;rw[zJW,zJW]at this;obtain⟨_,c2,e2,fr2,th,fJ⟩:=zNu this;simp only at th fJ;rw[hb]at th;cases th;exact fJ
theorem zIO{H:Type}{enc:TypeId×Value→H}{w:World}{t:TypeId}{fs:Array Field}{fuel:Nat}{cs:List Value}{x:DataW H×List MemPlace}(hu:P.underlying t=dJ (.struct fs))(h:DataW.trod enc P w 0 (fun _=>dL) dL fuel t cs=dJ x)
  {i j k:Nat}{f:Field}(hf:fs[i]? =dJ f)(hj:f.offset=j)(hk:P.cellsOf f.type=k):∃n y,DataW.trod enc P w 0 (fun _=>dL) dL n f.type ((cs.drop j).take k)=dJ y:=by
 obtain⟨xs,n,_,_,_,gm,pe⟩:=DataW.trod_struct hu h
 grind
end
def zOu(v:Value):Value:=if v.oneCell' then v else .bool dM
theorem zJX(v:Value):(zOu v).oneCell'=dL:=by unfold zOu;split;assumption;rfl
theorem zIP{v:Value}(h:v.oneCell'=dL):zOu v=v:=by simp[zOu,h]
def hd0(vs:Array Value)(s:Nat)(p:List Nat):Value:=
 match vs[s]?,p with
 |some (.agg cs),[j]=>zOu (cs[j]?.getD (.bool dM))
 |some v,[]=>zOu v
 |_,_=>.bool dM
def G0(vs:Array Value):Gh:={ hd:=hd0 vs,ad:=fun _ _=>default,lb:=fun _ _=>dK,ow:=fun _=>dK }
theorem zYy(w:World)(vs:Array Value):Mem ⟨zJV w,fun _=>False,w,0⟩ (G0 vs) w where
 one s p:=by
  simp only[G0,hd0];split
  ·exact zJX _
  ·exact zJX _
  ·rfl
 lb b o l h:=by grind[G0]
 ow b l h:=by grind[G0]
 st b x h:=h
 fr b _ _:=rfl
 sz:=Jf _
 bk:=⟨fun b cs e h=>⟨cs,h,rfl⟩,rfl,rfl⟩
def RdA(P:Program)(t:TypeId){α:Type}(u:α→T)(V:α→Prop):Prop:=
 ∀{H:Type}(enc:TypeId×Value→H)(w:World)(base fuel:Nat)(v:Value)(x:DataW H×List MemPlace),DataW.trod enc P w 0 (fun _=>dL) dL fuel t v.cells.toList=dJ x→
  Value.okWide P w .any base t v→ ∃d,V d∧ ∀(vs:Array Value)(s:Nat),vs[s]? =dJ v→dJ v=dJ (mkV (G0 vs) s (u d) [])∧R (zJV w) (G0 vs) w s (u d) []
def RdC(P:Program)(t:TypeId){α:Type}(u:α→T)(V:α→Prop):Prop:=
 ∀{H:Type}(enc:TypeId×Value→H)(w:World)(fuel:Nat)(c:Value)(x:DataW H×List MemPlace),DataW.trod enc P w 0 (fun _=>dL) dL fuel t [c]=dJ x→
  ∃d,V d∧c.oneCell'=dL∧ ∀(G:Gh)(s:Nat)(p:List Nat),G.hd s p=c→vals G s (u d) p=[c]∧R (zJV w) G w s (u d) p
section
variable {P:Program}
theorem zV4{t:TypeId}{q:IntKind}(hu:P.underlying t=dJ (.int q)):RdC P t (IK q) (fun n=>(Lit.int q n).wf=dL):=by intro H enc w fuel c x h;obtain⟨n,h1,_,hw⟩:=DataW.trod_int hu h;simp only[Ja1.injEq,and_true]at h1;subst h1;exact⟨n,hw,rfl,by grind[vals,R]⟩
theorem zWL{α:Type}{f:α→T}{V:α→Prop}{t:TypeId}(h:RdT P t 1 f V)(h1:∀{H:Type}(enc:TypeId×Value→H)(w:World)(fuel:Nat)(c:Value)(x:DataW H×List MemPlace),DataW.trod enc P w 0 (fun _=>dL) dL fuel t [c]=dJ x→c.oneCell'=dL):
  RdC P t (fun x=>T.ro (f x)) V:=by
 intro H enc w fuel c x hx;obtain⟨d,g1,g2⟩:=h enc w fuel [c] x hx rfl
 grind[vals,R]
theorem zTn{α:Type}{f:α→T}{V:α→Prop}{t e:TypeId}{k:Nat}(hu:P.underlying t=dJ (.slice e))(hk:P.cellsOf e=k)(eu:0<k)(h:RdT P e k f V):RdC P t (fun xs=>T.ro (L k f xs)) (fun xs=>xs.length≤maxLen∧ ∀x∈xs,V x):=
 zWL (zV3 hu hk eu h) fun enc w fuel c x hx=>by
  rcases DataW.trod_slice hu hx with⟨h1,_⟩|⟨a,len,cap,_,_,_,_,h1,_⟩<;>
  ·simp only[Ja1.injEq,and_true]at h1
   subst h1;rfl
theorem zTo{α:Type}{u:α→T}{V:α→Prop}{t:TypeId}(hs:∀x,(u x).single=dL∧ ∀G s,mkV G s (u x) []=G.hd s [])(h:RdC P t u V)
  (hv:∀{w:World}{base:Nat}{v:Value},Value.okWide P w .any base t v→v.oneCell'=dL):RdA P t u V:=by
 intro H enc w base fuel v x hx gJ;have h1:v.cells.toList=[v]:=by have:=hv gJ;cases v<;>simp_all [Value.oneCell',Value.cells]
 rw[h1]at hx;obtain⟨d,g1,g2,g3⟩:=h enc w fuel v x hx;refine⟨d,g1,fun vs s fI=>?_⟩;have gH:(G0 vs).hd s []=v:=by simp only[G0,hd0,fI];cases v<;>first|rfl|grind[Value.oneCell']
 grind
theorem zHh{w:World}{base:Nat}{t:TypeId}{fs:Array Field}{v:Value}(hu:P.underlying t=dJ (.struct fs))(h:Value.okWide P w .any base t v):∃cs,v=.agg cs∧cs.size=P.cellsOf t:=by grind[Value.okWide]
theorem zUE{α β γ δ:Type}{ua:α→T}{ub:β→T}{uc:γ→T}{Va:α→Prop}{Vb:β→Prop}{Vc:γ→Prop}{t:TypeId}{f0 f1 f2:Field}(mk:α→β→γ→δ){u:δ→T}{V:δ→Prop}
  (hu:P.underlying t=dJ (.struct #[f0,f1,f2]))(hc:P.cellsOf t=3)(h0:f0.offset=0∧P.cellsOf f0.type=1)(h1:f1.offset=1∧P.cellsOf f1.type=1)(h2:f2.offset=2∧P.cellsOf f2.type=1)
  (ra:RdC P f0.type ua Va)(rb:RdC P f1.type ub Vb)(rc:RdC P f2.type uc Vc)(hmk:∀a b c,u (mk a b c)=T.agg [ua a,ub b,uc c])(hV:∀a b c,Va a→Vb b→Vc c→V (mk a b c)):RdA P t u V:=by
 intro H enc w base fuel v x hx gJ;obtain⟨cs,rfl,gy⟩:=zHh hu gJ;obtain⟨l,rfl⟩:∃l:List Value,cs=l.toArray:=⟨cs.toList,by simp⟩;rw[hc,Jao]at gy;obtain⟨c0,c1,c2,rfl⟩:∃a b c,l=[a,b,c]:=by
  match l,gy with
  | [a,b,c],_=>simp
 simp only[Value.cells]at hx;obtain⟨n0,y0,g0⟩:=zIO hu hx (i:=0) rfl h0.1 h0.2;obtain⟨n1,y1,g1⟩:=zIO hu hx (i:=1) rfl h1.1 h1.2;obtain⟨n2,y2,g2⟩:=zIO hu hx (i:=2) rfl h2.1 h2.2;simp only[List.drop_succ_cons,Ga,La,Jz]at g0 g1 g2;obtain⟨a,a1,a2,a3⟩:=ra enc w n0 c0 _ g0;obtain⟨b,b1,b2,b3⟩:=rb enc w n1 c1 _ g1;obtain⟨c,e1,e2,e3⟩:=rc enc w n2 c2 _ g2;refine⟨mk a b c,hV a b c a1 b1 e1,fun vs s fI=>?_⟩;have k0:(G0 vs).hd s [0]=c0:=by simp[G0,hd0,fI,zIP a2]
 have k1:(G0 vs).hd s [1]=c1:=by simp[G0,hd0,fI,zIP b2]
 have k2:(G0 vs).hd s [2]=c2:=by simp[G0,hd0,fI,zIP e2]
 rw[hmk];simp only[mkV,zY,(a3 _ _ _ k0).1,(b3 _ _ _ k1).1,(e3 _ _ _ k2).1,Lg,K1,R,RF]
 simp_all
end
theorem FnC.top{P:Program}{f:FuncId}{us:List T}(h:FnC P f us [B dL] []){w:World}{vs:Array Value}(gy:vs.size=us.length)
  (ha:∀(i:Nat) u,us[i]? =dJ u→vs[i]? =dJ (mkV (G0 vs) i u [])∧R (zJV w) (G0 vs) w i u []):
  Calls P f vs w fun e w'=>e=.returned (.bool dL)∧w'.os=w.os∧w'.output=w.output∧w.heap.size≤w'.heap.size∧ ∀b,b<w.heap.size→w'.heap[b]? =w.heap[b]?:=by
 refine(h (zJV w) (fun _=>False) w (G0 vs) vs gy (fun i u hu=>?_) (zYy w vs)).mono fun e w'=>?_
 ·obtain⟨h1,h2⟩:=ha i u hu
  refine⟨?_,h2⟩;rw[h1]
 ·rintro⟨S',G',nd,_,he,hm,fW,hr,_,_⟩
  match nd,fW with
  | [(s,p,t)],fW=>
   simp only[Jm,Ub,Ja1.injEq,and_true]at fW;subst fW;have:=(hr (s,p,B dL) (by simp)).1;simp only[R]at this;exact⟨by rw[he];simp only[zJB,tP,this],hm.bk.os,hm.bk.out,hm.sz,fun b hb=>hm.fr b hb (fun h=>h)⟩
theorem zCA{H:Type}{enc:TypeId×Value→H}{P:Program}(hl:laidOutB P=dL){W W':World}{sp:Nat→Bool}:∀{ts:List TypeId}{vs:List Value}{ds:List (DataW H)}{ps:List MemPlace},(∀t∈ts,P.readableRec t=dL∧t<P.types.size)→
  DataW.TrodAll enc P W 0 (fun _=>dL) dL ts vs ds ps→(∀p∈ps,W.sameAt W' p)→(∀p∈ps,sp p.block=dL)→DataW.TrodAll enc P W' 0 sp dL ts vs ds ps
 | [],[],[],_,_,h,_,_=>h
 |t::ts,v::vs,d::ds,ps,hr,h,h1,h2=>by
  obtain⟨p,q,g1,g2,rfl⟩:=h;exact⟨p,q,by grind[Go.WideElems.Trod_stays],
   zCA hl (by grind) g2 (by grind) (by grind),rfl⟩
 | [],_::_,_,_,_,h,_,_| [],[],_::_,_,_,h,_,_|_::_,[],_,_,_,h,_,_|_::_,_::_,[],_,_,h,_,_=>h.elim
theorem zLC{C:Checked}{os:Os}(own:ownKnob C.prog.godebug=dK)(started:os.Started){f:FuncId}{fn:Func}(noInit:C.prog.inits.idxOf? f=dK)(hfn:C.prog.funcs[f]? =dJ fn){H:Type}{enc:TypeId×Value→H}{s:ChangeSpec}{conds:List PathCond}{apart fresh handsOn again:Bool}
  (witness:∃(w:World)(tape:Tape)(i:Input),w.os=os∧(w.forCall tape i).Shaped C.prog∧i.vars=[]∧Input.okWide C.prog (w.forCall tape i) .any w.heap.size f i∧
   s.pre6 enc C.prog fn conds apart (w.forCall tape i).memory i.args∧Assume.holds {} C.prog (lone (Frame.enter C.prog f i.args .normal) [] (w.forCall tape i)))
  (hs:∀(l:List (DataW H)),l.length=fn.params.size→(s.fn H l).results=[.lit (.bool dL)]∧(s.fn H l).args=l∧(s.fn H l).vars=[])(pt:s.vars=[]){tb:TypeId}(eC:fn.resultTypes= #[tb])(hb:C.prog.underlying tb=dJ .bool)
  (laid:laidOutB C.prog=dL)(hread:fn.params.toList.all (fun t=>C.prog.readableRec t&&decide (t<C.prog.types.size))=dL)
  (law:∀(W:World)(base:Nat)(args:Array Value)(ds:List (DataW H))(p:List MemPlace),(∀(j:Nat) t v,fn.params[j]? =dJ t→args[j]? =dJ v→Value.okWide C.prog W .any base t v)→
   DataW.TrodAll enc C.prog W 0 (fun _=>dL) dL fn.params.toList args.toList ds p→
   ∃us:List T,args.size=us.length∧FnC C.prog f us [B dL] []∧ ∀(i:Nat) u,us[i]? =dJ u→args[i]? =dJ (mkV (G0 args) i u [])∧R (zJV W) (G0 args) W i u []):
  ReturnsInHanded {} C os f .any (s.pre6 enc C.prog fn conds apart) (s.post enc C.prog fn apart fresh handsOn again):=by
 refine returnsInHanded_of_change (C:=C) own started noInit hfn witness ?_;intro W base args ds gs before hval hW _ _;have hW':=hW;obtain⟨p,q,hA,hV,hbq,hfz,fW⟩:=hW;obtain⟨us,h1,h2,h3⟩:=law W base args ds p hval hA;have hl:ds.length=fn.params.size:=by
  have:∀{ts:List TypeId}{vs:List Value}{ds:List (DataW H)}{p:List MemPlace},DataW.TrodAll enc C.prog W 0 (fun _=>dL) dL ts vs ds p→ds.length=ts.length:=by
   intro ts
   induction ts with
   |nil=>intro vs ds p h;cases vs<;>cases ds<;>first|rfl|exact h.elim
   |cons t ts ih=>intro vs ds p h;cases vs<;>cases ds<;>first|exact h.elim|(obtain⟨_,_,_,g,_⟩:=h;simp[ih g])
  grind
 rw[pt]at hV;have hq:gs=[]∧q=[]:=by
  cases gs with
  |nil=>exact⟨rfl,hV⟩
  |cons _ _=>exact hV.elim
 obtain⟨rfl,rfl⟩:=hq;have gE:=hW'.lt;refine(h2.top h1 h3).mono fun e w' ⟨he,ho,hq,gy,hh⟩=>⟨_,he,?_⟩
 have gO:∀p∈before,W.sameAt w' p:=fun p hp=>by
  have:=gE p hp;cases p with
  |cell b off=>simp only[World.sameAt,World.cell?,hh b this]
  |map b=>exact hh b this
 obtain⟨k1,k2,k3⟩:=hs ds hl;have hbp:before=p:=by grind
 subst hbp;have gC:∀t∈fn.params.toList,C.prog.readableRec t=dL∧t<C.prog.types.size:=by grind
 have gn:∀(b:Nat)(sp:Nat→Bool)(hd:Bool),DataW.TrodAll enc C.prog w' b sp hd fn.resultTypes.toList ((Value.bool dL).resultList fn.resultTypes.size) (s.fn H (ds++[])).results []:=fun b sp hd=>by rw[eC,Jg,k1];exact⟨[],[],⟨1,by simp[DataW.trod,hb,Value.cells]⟩,⟨rfl,rfl⟩⟩
 have gc:∀sp:Nat→Bool,(∀p∈before,sp p.block=dL)→DataW.TrodAll enc C.prog w' 0 sp dL fn.params.toList args.toList (s.fn H (ds++[])).args before:=fun sp cW=>by rw[Jg,k2];exact zCA laid gC hA gO cW
 have bi:∀sp:Nat→Bool,DataW.TrodVars enc C.prog w' sp s.vars (s.fn H (ds++[])).vars []:=fun sp=>by rw[pt,Jg,k3];rfl
 have gG:∀p∈before,(fun b=>decide (b<W.heap.size)) p.block=dL:=by grind
 have my:∀p∈before,∀o,w'.frozen? ⟨p.block,o,dK⟩=W.frozen? ⟨p.block,o,dK⟩:=fun p hp o=>by simp only[World.frozen?,hh _ (gE p hp)]
 refine⟨ds,[],before,[],before,[],hW',gn _ _ _,gc _ gG,bi _,⟨ho,hq,fun i hi=>?_⟩,fun _=>⟨fun j t r hj hr=>?_,_,_,([]++before)++[],⟨[]++before,[],trodAll_append (gc _ (fun _ _=>rfl)) (gn _ _ _),bi _,rfl,fun b off hp=>?_,fun ha=>?_⟩,fun p hp _=>?_⟩⟩
 ·rw[hh i hi]
  cases hx:W.heap[i]? with
  |none=>rfl
  |some o=>cases o<;>simp
 ·rw[eC]at hj hr
  match j,hj,hr with
  |0,hj,hr=>
   simp[Value.resultList]at hj hr;subst hj;subst hr;simp[Value.okWide,hb,Cell.okWide,Cell.ok]
 ·have fV:MemPlace.cell b off∈before:=by grind
  exact(my _ fV off).trans (hfz b off fV)
 ·grind
 grind
end Go.Ab

namespace Go.Ab
open Go
def qP(hs:List Nat)(E:Env):Prop:=∀s,hs.contains s=dL→ ∃t,E s=dJ t∧zAi t=dL
def zV5(hs:List Nat)(z:Nat×Option T):Bool:=!hs.contains z.1||match z.2 with
 |some t=>zAi t
 |none=>dM
def wrS(hs:List Nat)(X:Stp):Bool:=X.l.all fun y=>y.1.all (zV5 hs)
theorem zJY{s:Nat}{x:Option T}:∀{wr:Wr},wr.find s=dJ x→(s,x)∈wr
 | [],h=>by grind[Wr.find]
 |(k,y)::wr,h=>by
  simp only[Wr.find]at h;split at h
  ·grind
  ·exact Qq _ (zJY h)
theorem qP.apps{hs:List Nat}:∀(l:zEk)(E:Env),qP hs E→(l.all fun y=>y.1.all (zV5 hs))=dL→qP hs (E.apps l)
 | [],_,h,_=>h
 |x::l,E,h,hw=>by
  simp only[Jak,J2]at hw;refine qP.apps l (E.app x.1 x.2) (fun s gP=>?_) hw.2;obtain⟨t,he,ht⟩:=h s gP;unfold Env.app;cases hf:x.1.find s with
  |some y=>
   have h1:=Jw.1 hw.1 _ (zJY hf);simp only[zV5,gP,J9,Bool.false_or]at h1
   grind
  |none=>grind[sQ]
theorem qP.runD{hs:List Nat}:∀(l:List (Bool×Stp))(E:Env),qP hs E→(∀y∈l,wrS hs y.2=dL)→qP hs (runD E l)
 | [],_,h,_=>h
 |(b,X)::l,E,h,hw=>by
  simp only[Go.Ab.runD];refine qP.runD l _ ?_ fun y hy=>hw y (by simp[hy])
  cases b with
  |true=>exact qP.apps X.l E h (hw (dL,X) (by simp))
  |false=>exact h
section
variable {P:Program}{Γ:Ctx}{pn:jX}{E E':Env}{Q:Exit→Env→Prop}{ops:Array Oper}{o:Oper}{os:List Oper}{id:Nat}{wr:Wr}{chg:Chg}{hs:List Nat}
def zNw(P:Program)(Γ:Ctx)(pn:jX)(ops:Array Oper)(o:Oper)(E E':Env):Prop:=
 ∀(a:Act)(w:World)(K:Act→World→Prop)(Q:Exit→Act→World→Prop),pn.Hold a→qV Γ E a w→(∀a' w',qV Γ E' a' w'→(∀s,o.dst≠dJ s→a'.tmps[s]? =a.tmps[s]?)→K a' w')→
  if Region.wanted o (yielded ops a.tmps)then o.wp P a w K Q∨(o.asks P a w∧LetsOut Q)else K (a.put o.dst undef) w
def wZ(P:Program)(Γ:Ctx)(pn:jX)(hs:List Nat)(ops:Array Oper):List Oper→List Stp→Prop
 | [],[]=>True
 |o::os,X::Xs=>(∀E:Env,E.Has X.rd→qP hs E→zNw P Γ pn ops o E (E.apps X.l))∧wZ P Γ pn hs ops os Xs
 |_,_=>False
theorem wZ.get:∀(os:List Oper)(Xs:List Stp),wZ P Γ pn hs ops os Xs→os.length=Xs.length∧ ∀(i:Nat)(o:Oper)(X:Stp),os[i]? =dJ o→Xs[i]? =dJ X→ ∀E:Env,E.Has X.rd→qP hs E→zNw P Γ pn ops o E (E.apps X.l)
 | [],[],_=>by simp
 |o::os,X::Xs,h=>by
  obtain⟨h1,h2⟩:=wZ.get os Xs h.2;refine⟨by simp[h1],fun i o' X' ho hX=>?_⟩;cases i with
  |zero=>simp at ho hX;subst ho hX;exact h.1
  |succ i=>exact h2 i o' X' (by simpa using ho) (by simpa using hX)
 | [],_::_,h=>by simp[wZ]at h
 |_::_,[],h=>by simp[wZ]at h
theorem wZ.snoc{X:Stp}:∀(os:List Oper)(Xs:List Stp),wZ P Γ pn hs ops os Xs→(∀E:Env,E.Has X.rd→qP hs E→zNw P Γ pn ops o E (E.apps X.l))→wZ P Γ pn hs ops (os++[o]) (Xs++[X])
 | [],[],_,h=>⟨h,trivial⟩
 |_::os,_::Xs,h1,h=>⟨h1.1,wZ.snoc os Xs h1.2 h⟩
 | [],_::_,h,_=>by simp[wZ]at h
 |_::_,[],h,_=>by simp[wZ]at h
theorem tX.snoc{X:Stp}:∀(Xs:List Stp)(E:Env),tX E Xs→(runD E (Xs.map fun y=>(dL,y))).Has X.rd→tX E (Xs++[X])
 | [],_,_,h=>⟨by grind[runD],trivial⟩
 |_::Xs,_,h1,h=>⟨h1.1,tX.snoc Xs _ h1.2 (by simpa[runD]using h)⟩
theorem zIQ{E0:Env}{hH:List Nat}{Xs:List Stp}{an:List (List Nat)}{Q':Exit→Act→World→Prop}(hf:zAq 0 ops.toList=dL)(ha:kH an an ops.toList=dL)(hp:qY Xs 0 an Xs=dL)
  (gL:wZ P Γ pn hH ops ops.toList Xs)(hI:qP hH E0)(hw:Xs.all (wrS hH)=dL)(hh:tX E0 Xs)(bH:ops.toList.all (fun o=>pn.ok o.dst)=dL)(hQ:∀a' w',qV Γ (runD E0 (Xs.map fun y=>(dL,y))) a' w'→pn.Hold a'→Q' .normal a' w'):
  ∀(fuel:Nat)(L:List Bool)(a:Act)(w:World),L.length=ops.size→L.count dM=fuel→zPS ops L→qV Γ (runD E0 (L.zip Xs)) a w→pn.Hold a→wpAny P .any ops Q' fuel L.toArray a w:=by
 obtain⟨gm,py⟩:=wZ.get _ _ gL;have pJ:Xs.length=ops.size:=by grind
 intro fuel
 induction fuel with
 |zero=>
  intro L a w hL hcnt gI hs fc;have fe:∀b∈L,b=dL:=by grind
  have dF:L=J1 ops.size dL:=by rw[←hL];exact List.eq_replicate_iff.2 ⟨rfl,fe⟩
  refine⟨?_,?_⟩
  ·apply List.eq_nil_iff_forall_not_mem.2
   intro j hj;obtain⟨h1,o,ho,_⟩:=mem_ready.1 hj;have gE:=(Kr.1 ho).1;rw[dF]at h1;simp[gE]at h1
  ·refine hQ a w ?_ fc
   have:L.zip Xs=Xs.map fun y=>(dL,y):=by
    rw[dF,←pJ]
    clear hs hL dF fe hcnt gI gL hw hh hp gm pJ py hQ
    induction Xs with
    |nil=>rfl
    |cons X Xs ih=>simp[Km,ih]
   grind
 |succ fuel ih=>
  intro L a w hL hcnt gI hs fc;refine⟨fun hr=>?_,fun i hi=>?_⟩
  ·
   exfalso
   have mX:∃m:Nat,L[m]? =dJ dM:=by
    have:dM∈L:=by grind
    grind[Q3]
   obtain⟨m,hm,ef⟩:=zC7 mX;have hmlt:=(Jk.1 hm).1;have tw:ops[m]? =dJ ops[m]:=by simp
   have:m∈Region.ready .any ops L.toArray:=by
    refine mem_ready.2 ⟨by simp_all,ops[m],tw,fun e he hb=>?_⟩;have hpm:e.on∈zAD ops[m]:=by
     simp only[zAD,Jh,Jam]
     grind
    have gE:=zFm ops.toList 0 m _ hf (by simp) _ hpm;rw[J8]at gE;cases hL1:L[e.on]? with
    |none=>grind
    |some b=>
     cases b with
     |false=>grind
     |true=>simp_all
   grind
  ·obtain⟨h1,o,ho,fe⟩:=mem_ready.1 hi
   have gE:=(Kr.1 ho).1;have hLi:L[i]? =dJ dM:=by simp_all
   have fU:∀m∈zAD o,L[m]? =dJ dL:=by
    intro m hm;simp only[zAD,Jh,Jam]at hm;obtain⟨e,⟨he,hb⟩,rfl⟩:=hm;have:=fe e (by grind) hb;cases hL1:L[e.on]? with
    |none=>grind
    |some b=>simp_all
   have hanc:=zFT hf ha gI i i (Jf _) o ho fU;have b7:Xs[i]? =dJ Xs[i]:=by simp
   generalize hXe:Xs[i]=X at b7
   have bW:∀(j:Nat)(Y:Stp),Xs[j]? =dJ Y→i<j→L[j]? =dJ dL→X.apart Y=dL:=by
    intro j Y hY eh hj;rcases zEo Xs Xs 0 an j Y hp hY i X (by omega) b7 with h|h
    ·have hjlt:=(Jk.1 hY).1
     have hoj:ops[j]? =dJ ops[j]:=by simp
     have:=zFT hf ha gI j j (Jf _) _ hoj (gI j _ hoj hj) i h
     grind
    ·exact h
   have mA:∀(j:Nat)(Y:Stp),Xs[j]? =dJ Y→j<i→L[j]? =dJ dM→Y.apart X=dL:=by grind[zEo]
   have bG:∀y∈(L.take i).zip (Xs.take i),∃j:Nat,j<i∧L[j]? =dJ y.1∧Xs[j]? =dJ y.2:=by
    intro y hy;obtain⟨j,g1,g2⟩:=zIG hy;rw[Jbx]at g1 g2
    grind
   have pE:∀y∈(L.drop (i+1)).zip (Xs.drop (i+1)),∃j:Nat,i<j∧L[j]? =dJ y.1∧Xs[j]? =dJ y.2:=by
    intro y hy;obtain⟨j,g1,g2⟩:=zIG hy;rw[H0]at g1 g2
    grind
   have cW:=zHF hLi b7;have dq:(runD E0 (L.zip Xs)).Has X.rd:=by
    rw[cW,jO];simp only[runD,H7,if_false];have h0:=tX.get Xs E0 hh i X b7;refine h0.of fun s t gL hH=>?_
    have mO:s∈X.rd.map (·.1):=by grind
    refine zHE _ _ (fun y hy hb=>?_) ?_
    ·obtain⟨j,g1,g2,g3⟩:=pE y hy
     have:=Stp.apart_spec (bW j y.2 g3 g1 (by rw[g2,hb]));exact⟨by grind,by grind⟩
    ·have hmp:((L.take i).zip (Xs.take i)).map (fun y=>(dL,y.2))=(Xs.take i).map fun y=>(dL,y):=by
      have hl2:(L.take i).length=(Xs.take i).length:=by simp;omega
      rw[show(fun y:Bool×Stp=>(dL,y.2))=(fun y=>(dL,y))∘Prod.snd from rfl,←Uo,List.map_snd_zip (by omega)]
     refine zHD _ E0 E0 (fun y hy hb gP=>?_) (fun _ h=>h) t (by grind);obtain⟨j,g1,g2,g3⟩:=bG y hy;have:=Stp.apart_spec (mA j y.2 g3 g1 (by rw[g2,hb]))
     grind
   have hnext:runD E0 ((L.set i dL).zip Xs)=(runD E0 (L.zip Xs)).apps X.l:=by
    have hLs:(L.set i dL)[i]? =dJ dL:=by grind
    rw[zHF hLs b7,cW,jO,jO];simp only[runD,if_true,H7,if_false,List.take_set_of_le (Jf i),List.drop_set_of_lt (Nat.lt_succ_self i)];refine zEn _ X _ fun y hy hb=>?_
    obtain⟨j,g1,g2,g3⟩:=pE y hy;exact(Stp.apart_spec (by grind)).1
   have aD:=py i o X (by grind) b7 _ dq (qP.runD (L.zip Xs) E0 hI fun y hy=>Jw.1 hw _ (by obtain⟨j,_,g⟩:=zIG hy;grind));unfold wpOp;simp only[ho];refine aD a w _ Q' fc hs fun a' w' gP my=>?_
   rw[List.setIfInBounds_toArray];have gJ:pn.ok o.dst=dL:=by grind
   refine ih (L.set i dL) a' w' (by simp[hL]) (by grind) ?_ (by grind) (fc.frame gJ my);intro k ok hk hkt m hm
   by_cases hki:k=i
   ·subst hki
    rw[ho]at hk;simp at hk;subst hk;rw[Jaq];split
    ·grind
    grind
   ·rw[List.getElem?_set_ne (Ne.symm hki)]at hkt
    rw[Jaq];split
    ·grind
    ·exact gI k ok hk hkt m hm
theorem CW.drawnI{hH:List Nat}{id:Nat}{E:Env}{Q:Exit→Env→Prop}(Xs:List Stp)(an:List (List Nat))(hm:P.follows .mixedOrders=dL)(gL:wZ P Γ pn hH ops ops.toList Xs)(hI:qP hH E)(hw:Xs.all (wrS hH)=dL)(hh:tX E Xs)
  (hQ:Q .normal (runD E (Xs.map fun y=>(dL,y))))(hf:zAq 0 ops.toList=dL:=by rfl)(ha:kH an an ops.toList=dL:=by rfl)(hp:qY Xs 0 an Xs=dL:=by rfl)
  (bH:ops.toList.all (fun o=>pn.ok o.dst)=dL:=by rfl):CW P Γ pn (.region id ops dL) E Q:=by
 intro a w Q' hs fc hQ';refine wp_region_any hm ?_;have gP:qV Γ E a { w with drawn:=w.drawn+1 }:=by obtain⟨S,hS,gQ,G,hr⟩:=hs;exact⟨S,hS,gQ,G,hr.heap rfl⟩
 have:=zIQ (P:=P) (Γ:=Γ) (pn:=pn) (E0:=E) (Q':=Q') hf ha hp gL hI hw hh bH (by grind) ops.size (J1 ops.size dM) a { w with drawn:=w.drawn+1 } (by simp) (by simp)
  (fun i o ho hi=>by
   grind) (by
   have:runD E ((J1 ops.size dM).zip Xs)=E:=by
    generalize ops.size=n
    clear gL hI hw hh hQ hf ha hp gP
    induction n generalizing Xs with
    |zero=>simp[runD]
    |succ n ih=>
     cases Xs with
     |nil=>simp[runD]
     |cons X Xs=>simpa[Km,runD]using ih Xs
   grind) fc
 grind
def DK(P:Program)(Γ:Ctx)(pn:jX)(ops:Array Oper)(id:Nat)(hs:List Nat)(E0:Env)(Q:Exit→Env→Prop)(os:List Oper)(E:Env)(acc:List Stp):Prop:=
 ∀don,don++os=ops.toList→wZ P Γ pn hs ops don acc.reverse→tX E0 acc.reverse→E=runD E0 (acc.reverse.map fun y=>(dL,y))→CW P Γ pn (.region id ops dL) E0 Q
variable {E0:Env}{acc:List Stp}
theorem CW.dk(h:DK P Γ pn ops id [] E Q ops.toList E []):CW P Γ pn (.region id ops dL) E Q:=h [] rfl trivial trivial rfl
theorem CW.dkS(hs:List Nat)(h:DK P Γ pn ops id hs E Q ops.toList E []):CW P Γ pn (.region id ops dL) E Q:=h [] rfl trivial trivial rfl
theorem dGP(rd:List (Nat×T))(l:zEk)(gC:E.Has rd)(gL:∀E':Env,E'.Has rd→qP hs E'→zNw P Γ pn ops o E' (E'.apps l))(k:DK P Γ pn ops id hs E0 Q os (E.apps l) (⟨rd,l⟩::acc)):DK P Γ pn ops id hs E0 Q (o::os) E acc:=by
 intro don hd hso hh hE;subst hE;have hr:=fun X=>Jc4 (a:=X) (as:=acc)
 refine k (don++[o]) (by simp[hd]) ?_ ?_ ?_
 ·grind[wZ.snoc]
 ·grind[tX.snoc]
 ·rw[hr,Ls,jO];rfl
theorem dGS(rd:List (Nat×T))(l:zEk)(gC:E.Has rd)(gL:∀E':Env,E'.Has rd→qP hs E'→zQ P Γ ops o E' (E'.apps l))(k:DK P Γ pn ops id hs E0 Q os (E.apps l) (⟨rd,l⟩::acc)):DK P Γ pn ops id hs E0 Q (o::os) E acc:=
 dGP rd l gC (fun E' h h' a w K Q _=>gL E' h h' a w K Q) k
theorem dG(rd:List (Nat×T))(l:zEk)(gC:E.Has rd)(gL:∀E':Env,E'.Has rd→zQ P Γ ops o E' (E'.apps l))(k:DK P Γ pn ops id hs E0 Q os (E.apps l) (⟨rd,l⟩::acc)):DK P Γ pn ops id hs E0 Q (o::os) E acc:=
 by grind[dGS]
def zQl(hs:List Nat)(E:Env):Bool:=hs.all fun s=>match E s with
 |some t=>zAi t
 |none=>dM
theorem zQm(h:zQl hs E=dL):qP hs E:=by
 intro s gP;have h1:=Jw.1 h s (by grind)
 grind
theorem dN(an:List (List Nat))(hm:P.follows .mixedOrders=dL)(hQ:Q .normal E)(hf:zAq 0 ops.toList=dL:=by rfl)(ha:kH an an ops.toList=dL:=by rfl)(hp:qY acc.reverse 0 an acc.reverse=dL:=by rfl)
  (bH:ops.toList.all (fun o=>pn.ok o.dst)=dL:=by rfl)(hh0:zQl hs E0=dL:=by rfl)(hw:acc.reverse.all (wrS hs)=dL:=by rfl):DK P Γ pn ops id hs E0 Q [] E acc:=by
 intro don hd gL hh hE
 grind[CW.drawnI,zQm]
end
end Go.Ab
