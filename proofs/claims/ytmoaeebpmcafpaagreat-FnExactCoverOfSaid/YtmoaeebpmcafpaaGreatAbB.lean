/- The program's CoverOf returns what the reference's returns,for all arguments;no conditions. -/
import Derived.Test.YtmoaeebpmcafpaaGreatAbA
import Derived.Laws.CopyRow
import Derived.ProofKit
open List renaming replicate→J0,getElem?_eq_getElem→J3,length_append→J5,length_cons→J6,append_nil→Ja,mem_cons→Jc,length_map→Je,length_nil→Jg,mem_append→Jh,range→Ji,replicate_succ→Jq,map_cons→Js,mem_map→Jt,nil_append→Ju,getElem?_eq_some_iff→Jw,cons_append→Jy,getElem?_map→K4,take_zero→K5,all_eq_true→Ki,map_append→Kj,reverse_reverse→Kn,length_range→Kt,take_succ_cons→Ku,range'→Kx,nodup_cons→Le,flatMap_cons→Li,range_eq_range'→Lp,getElem?_drop→Lr,eq_nil_of_length_eq_zero→Ls,singleton_append→Lx,mem_of_getElem?→Lz,mem_cons_of_mem→H1,map_nil→He,contains_eq_mem→Hh,mem_iff_getElem→Hu,drop_zero→Hv,getElem?_take→Uq,getElem?_cons_succ→Uv,cons→Qt,getElem?_set_self→Ja9,getElem?_set_ne→Jaa,mem_iff_getElem?→Jae,map_map→Jar,getLast?_append→Jas,dropLast_concat→Jat,map_set→Jb2,reverse_cons→Jbi,map_take→Jbk,all_cons→Jbn,mem_filter→Jbq,size_toArray→Jbx,getElem?_set→Jby,drop_succ_cons→Jcp,map_drop→Jcz,getD→Jd0,range'_succ→Jd9
open Bool renaming and_eq_true→J4,not_true→Kc,and_self→Kw,false_eq_true→G6,not_eq_true'→Uc
open Nat renaming blt→J7,zero_add→Jf,lt_or_ge→Jj,le_refl→Jl,mul_le_mul_right→K7,zero_le→L7,mul_comm→H0,div_add_mod→H3,div_lt_iff_lt_mul→Hd,sub_zero→G7,add_zero→G9,mod_lt→Gd,le_trans→Gm,mul_one→Qg,ble→Jbe,beq→Jbf
open Array renaming getElem?_setIfInBounds→Jk,getElem?_toList→Kk,getD_eq_getD_getElem?→Km,length_toList→Kv,getElem?_eq_some_iff→L8,getElem?_setIfInBounds_ne→Hx,replicate→Qj,getElem?_append→Jac
open Int renaming emod_eq_of_lt→Kb,add_emod_right→Uk
open Option renaming map_eq_some_iff→L6,some→Ld,map_some→Ho,getD_some→Qi
open Prod renaming mk→Jav
open Option renaming some→iz,none→iA
open Bool renaming true→iB,false→iC
namespace Go.Ab
open Go
abbrev Rw:=List (Nat×Nat×T)
def rwI(rw:Rw)(s:Nat):Option Nat:=(rw.find? fun x=>x.2.1==s).map (·.1)
def rwS(rw:Rw)(i:Nat):Option Nat:=(rw.find? fun x=>x.1==i).map (·.2.1)
theorem zCw:(rw:Rw)→(rw.map (·.2.1)).Nodup→ ∀{i s:Nat}{u:T},(i,s,u)∈rw→rwI rw s=iz i
 | [],_,_,_,_,h=>by simp at h
 |(i0,s0,u0)::rw,hn,i,s,u,h=>by
  simp only[Js,Le,Jt]at hn;rcases Jc.1 h with h|h
  ·simp at h;obtain⟨rfl,rfl,rfl⟩:=h;simp[rwI]
  ·have gf:s0≠s:=by grind
   have:=zCw rw hn.2 h
   grind[rwI]
theorem zLh:(rw:Rw)→(rw.map (·.1)).Nodup→ ∀{i s:Nat}{u:T},(i,s,u)∈rw→rwS rw i=iz s
 | [],_,_,_,_,h=>by simp at h
 |(i0,s0,u0)::rw,hn,i,s,u,h=>by
  simp only[Js,Le,Jt]at hn;rcases Jc.1 h with h|h
  ·simp at h;obtain⟨rfl,rfl,rfl⟩:=h;simp[rwS]
  ·have gf:i0≠i:=by grind
   have:=zLh rw hn.2 h
   grind[rwS]
theorem zLi{rw:Rw}{s:Nat}(h:s∉rw.map (·.2.1)):rwI rw s=iA:=by
 simp only[rwI,Option.map_eq_none_iff,List.find?_eq_none]
 grind
theorem zRQ{rw:Rw}{i:Nat}(h:∀x∈rw,x.1≠i):rwS rw i=iA:=by grind[rwS]
theorem zOK{rw:Rw}{s i:Nat}(h:rwI rw s=iz i):s∈rw.map (·.2.1):=by grind[rwI,L6]
abbrev Nd:=List (Nat×List Nat×T)
def zRR(nd:Nd)(k s:Nat):Option (Nat×List Nat):=
 match nd with
 | []=>iA
 |x::r=>if x.1=s then iz (k,x.2.1)else zRR r (k+1) s
def ndB(d:Nat)(nd:Nd)(s:Nat)(z:List Nat):Option (Nat×List Nat):=
 match nd with
 | [x]=>if x.1=s∧x.2.1<:+z then iz (d,z.take (z.length-x.2.1.length))else iA
 |nd=>match zRR nd 0 s with
  |some (k,q)=>if q<:+z then iz (d,z.take (z.length-q.length)++[k])else iA
  |none=>iA
theorem zIK:(nd:Nd)→(nd.map (·.1)).Nodup→ ∀{k k0:Nat}{x:Nat×List Nat×T},nd[k]? =iz x→zRR nd k0 x.1=iz (k0+k,x.2.1)
 | [],_,_,_,_,h=>by simp at h
 |y::nd,hn,k,k0,x,h=>by
  simp only[Js,Le,Jt]at hn;cases k with
  |zero=>grind[zRR]
  |succ k=>
   simp only[Uv]at h;have gf:y.1≠x.1:=by grind
   simp only[zRR,gf,if_false];rw[zIK nd hn.2 h]
   grind
def zRS(G:Gh)(nd:Nd)(z:List Nat):Value:=
 match nd with
 | [x]=>G.hd x.1 (z++x.2.1)
 |nd=>match z.getLast? with
  |some k=>(match nd[k]? with
   |some x=>G.hd x.1 (z.dropLast++x.2.1)
   |none=>.bool iC)
  |none=>.bool iC
def zVs(G:Gh)(nd:Nd)(z:List Nat):Addr:=
 match nd with
 | [x]=>G.ad x.1 (z++x.2.1)
 |nd=>match z.getLast? with
  |some k=>(match nd[k]? with
   |some x=>G.ad x.1 (z.dropLast++x.2.1)
   |none=>default)
  |none=>default
def Gh.arg(G:Gh)(a:Act)(xs:List Operand)(rw:Rw):Gh where
 hd i z:=match xs[i]? with
  |some (.tmp s)=>G.hd s z
  |some x=>jV (a.eval x)
  |none=>.bool iC
 ad i z:=match xs[i]? with
  |some (.tmp s)=>G.ad s z
  |_=>default
 lb b o:=match G.lb b o with
  |some (f,s,z)=>(match rwI rw s,G.ow b with
   |some i,iz (s',_)=>if s'=s then iz (f,i,z)else iA
   |_,_=>iA)
  |none=>iA
 ow b:=match G.ow b with
  |some (s,z)=>(match rwI rw s with
   |some i=>iz (i,z)
   |none=>iA)
  |none=>iA
def zAL(G:Gh)(rw:Rw)(b:Nat):Prop:=∃s z,G.ow b=iz (s,z)∧s∈rw.map (·.2.1)
def zD1(d:Nat)(rw:Rw)(nd:Nd)(s:Nat)(z:List Nat):Option (Nat×List Nat):=
 match rwS rw s with
 |some s'=>iz (s',z)
 |none=>ndB d nd s z
open Classical in
noncomputable def Gh.back (G G':Gh) (n0 d:Nat) (rw:Rw) (nd:Nd):Gh where
 hd s z:=if s=d then zRS G' nd z else match rwI rw s with
  |some i=>G'.hd i z
  |none=>G.hd s z
 ad s z:=if s=d then zVs G' nd z else match rwI rw s with
  |some i=>if z=[]then G.ad s z else G'.ad i z
  |none=>G.ad s z
 lb b o:=if zAL G rw b∨n0≤b then(match G'.lb b o with
  |some (f,s,z)=>(match zD1 d rw nd s z with
   |some (s',z')=>iz (f,s',z')
   |none=>iA)
  |none=>iA)else G.lb b o
 ow b:=if zAL G rw b∨n0≤b then(match G'.ow b with
  |some (s,z)=>zD1 d rw nd s z
  |none=>iA)else G.ow b
def zNh(res:List T):T:=match res with
 | [u]=>u
 |us=>.tup us
def cWr(d:Nat)(res:List T)(rw:Rw):Wr:=(d,iz (zNh res))::rw.map fun x=>(x.2.1,iz x.2.2)
def cLv(t:T):Nat:=if t.single then 1 else 0
def uD(d:Nat)(rw:Rw):Chg:=(d,0)::rw.map fun x=>(x.2.1,cLv x.2.2)
theorem zGW{d:Nat}{rw:Rw}{x:Nat×Nat×T}(h:x∈rw):(x.2.1,cLv x.2.2)∈uD d rw:=H1 _ (by grind)
theorem zOL{Gn G':Gh}{d:Nat}:(nd:Nd)→ ∀(j:Nat),(∀k x,nd[k]? =iz x→ ∀z,Gn.hd d (z++[j+k])=G'.hd x.1 (z++x.2.1))→jG Gn d (nd.map (·.2.2)) [] j=nd.map fun x=>sV G' x.1 x.2.2 x.2.1
 | [],_,_=>by simp[jG]
 |x::nd,j,h=>by
  have ih:=zOL (Gn:=Gn) (G':=G') (d:=d) nd (j+1) (fun k y hy z=>by rw[show j+1+k=j+(k+1)from by omega];exact h (k+1) y (by grind) z)
  simp only[Js,jG,ih];rw[zBB x.2.2 x.2.1 [j] (by simpa using h 0 x (by simp))]
theorem zRT{d:Nat}{res:List T}{rw:Rw}{s:Nat}{x:Option T}(h:(cWr d res rw).find s=iz x):(s=d∧x=iz (zNh res))∨(s≠d∧ ∃i u,(i,s,u)∈rw∧x=iz u):=by
 simp only[cWr,Wr.find]at h;split at h
 ·grind
 ·rename_i gf
  refine .inr ⟨fun e=>gf e.symm,?_⟩
  clear gf
  induction rw with
  |nil=>grind[Wr.find]
  |cons y rw ih=>
   grind[Wr.find]
theorem zRU{d:Nat}{res:List T}{rw:Rw}{s:Nat}(h:(cWr d res rw).find s=iA):s≠d∧s∉rw.map (·.2.1):=by
 simp only[cWr,Wr.find]at h;split at h
 ·cases h
 ·rename_i gf
  refine⟨fun e=>gf e.symm,?_⟩
  clear gf
  induction rw with
  |nil=>simp
  |cons y rw ih=>
   simp only[Js,Wr.find]at h
   grind
def aft(S Sc S':Stb):Stb:=fun b=>match Sc b with
 |none=>S' b
 |some _=>S b
theorem Rep.up{Γ:Ctx}{E:Env}{G:Gh}{tmps tmps':Array Value}{w w':World}{G':Gh}{wr:Wr}{chg:Chg}{S:Stb}(h:Rep Γ E G tmps w)(hS:∀b x,Γ.St b=iz x→S b=iz x)
  (gP:tmps'.size=tmps.size)(hk:qY chg G w G' w')(gu:Mem (Γ.at S) G' w')
  (gG:∀s,wr.find s=iA→(∀n,(s,n)∉chg)∧tmps'[s]? =tmps[s]?)
  (eF:∀s t,wr.find s=iz (iz t)→Ent (Γ.at S) G' w' tmps'[s]? s t):Rep (Γ.at S) (E.app wr chg) G' tmps' w' where
 size:=by rw[gP];exact h.size
 mem:=gu
 ent s t hs:=by
  unfold Env.app at hs;cases hf:wr.find s with
  |some x=>
   grind
  |none=>
   rw[hf]at hs;simp at hs;cases he:E s with
   |none=>grind
   |some u=>
    simp[he]at hs;obtain⟨gB,rfl⟩:=hs;rw[(gG s hf).2];obtain⟨e1,e2,e3⟩:=Ent.keep hk (gG s hf).1 gB (h.ent s u he);exact⟨e1,zJK hS u [] e2,e3⟩
section
variable {P:Program}{Γ:Ctx}{E:Env}{d:Nat}
theorem zGX{G:Gh}{a:Act}{w:World}(g9:Rep Γ E G a.tmps w)(hd:d<Γ.N){Sc:Stb}{rw:Rw}(hS1:∀b x,Sc b=iz x→w.heap[b]? =iz x∧ ¬zAL G rw b)(hS0:∀b x,Γ.St b=iz x→Sc b=iz x){f:FuncId}{us res:List T}
  (hc:FnC P f us res (rw.map fun x=>(x.1,x.2.2))){xs:List Operand}(gj:xs.length=us.length)
  (gc:∀(i:Nat) u,us[i]? =iz u→(∃x,xs[i]? =iz x∧a.eval x=mkV (G.arg a xs rw) i u []∧R Sc (G.arg a xs rw) w i u []))
  (hn1:(d::rw.map (·.2.1)).Nodup)(bg:(rw.map (·.1)).Nodup)(fx:∀x∈rw,xs[x.1]? =iz (.tmp x.2.1))
  (gk:∀u∈res,yD u∧u.okTup=iB∧ ∀(S':Stb)(G:Gh)(w:World)(s:Nat)(p:List Nat),(∀b x,Sc b=iz x→S' b=iz x)→R S' G w s u p→R (aft Γ.St Sc S') G w s u p)
  (ab:∀x∈rw,yD x.2.2∧(∀(S':Stb)(G:Gh)(w:World)(s:Nat)(p:List Nat),(∀b x,Sc b=iz x→S' b=iz x)→R S' G w s x.2.2 p→R (aft Γ.St Sc S') G w s x.2.2 p)∧ ∃u,E x.2.1=iz u∧x.2.2.single=u.single∧us[x.1]? =iz u):
  Calls P f (xs.map a.eval).toArray w fun e w'=> ∃v,e=.returned v∧ ∃S G',zDs Γ.St S Γ.W Γ.w0.heap.size∧qY (uD d rw) G w G' w'∧Rep (Γ.at S) (E.app (cWr d res rw) (uD d rw)) G' (a.tmps.setIfInBounds d v) w':=by
 have hm:=g9.mem;have mz:=Le.1 hn1;have hmc:Mem ⟨Sc,zAL G rw,w,0⟩ (G.arg a xs rw) w:=by
  have gA:∀b,zAL G rw b→Sc b=iA:=fun b h=>by
   cases hs:Sc b with
   |none=>rfl
   |some x=>exact absurd h (hS1 b x hs).2
  refine⟨fun i z=>?_,fun b o l hl=>?_,fun b l hl=>?_,fun b x hx=>(hS1 b x hx).1,fun b _ _=>rfl,Jl _,⟨fun b cs e h=>⟨cs,h,rfl⟩,rfl,rfl⟩⟩
  ·simp only[Gh.arg]
   split
   ·exact hm.one _ _
   ·exact zBj _
   ·rfl
  ·simp only[Gh.arg]at hl
   split at hl
   ·rename_i f' s z hg
    split at hl
    ·rename_i i s' y hi ho
     split at hl
     ·rename_i he;subst he
      have hL:zAL G rw b:=⟨s',y,ho,zOK hi⟩;exact⟨(hm.lb b o _ hg).1,.inr hL,gA b hL⟩
     ·cases hl
    ·cases hl
   ·cases hl
  ·simp only[Gh.arg]at hl
   split at hl
   ·rename_i s z hg
    split at hl
    ·rename_i i hi
     have hL:zAL G rw b:=⟨s,z,hg,zOK hi⟩;exact⟨(hm.ow b _ hg).1,.inr hL,gA b hL⟩
    ·cases hl
   ·cases hl
 have gp:=hc Sc (zAL G rw) w (G.arg a xs rw) (xs.map a.eval).toArray (by simp[gj]) (fun i u hu=>by obtain⟨x,h1,h2,h3⟩:=gc i u hu;exact⟨by simp[h1,h2],h3⟩) hmc
 refine gp.mono ?_
 rintro e w' ⟨S',G',nd,gY,rfl,gR,cC,cQ,pZ,a9⟩
 have fC:∀b x,Γ.St b=iz x→aft Γ.St Sc S' b=iz x:=fun b x hx=>by simp only[aft,hS0 b x hx,hx]
 have aH:zDs Γ.St (aft Γ.St Sc S') Γ.W Γ.w0.heap.size:=⟨fC,fun b hb eR=>by
  simp only[aft]at eR;split at eR
  ·rename_i hs
   rcases gY.nw b hs eR with h|⟨s,z,h,_⟩
   ·exact .inl (by have:=hm.sz;omega)
   ·exact(hm.ow b _ h).2.1
  ·exact absurd hb eR⟩
 refine⟨_,rfl,aft Γ.St Sc S',G.back G' w.heap.size d rw nd,aH,?_⟩;have bv:∀b,b<w.heap.size→ ¬zAL G rw b→w'.heap[b]? =w.heap[b]?:=gR.fr;have gw:w.heap.size≤w'.heap.size:=gR.sz;have gJ:Blk w w':=gR.bk.blk
 generalize hGn:G.back G' w.heap.size d rw nd=Gn
 have ghdd:∀z,Gn.hd d z=zRS G' nd z:=fun z=>by rw[←hGn];simp[Gh.back]
 have gadd:∀z,Gn.ad d z=zVs G' nd z:=fun z=>by rw[←hGn];simp[Gh.back]
 have ghd0:∀s z,s≠d→s∉rw.map (·.2.1)→Gn.hd s z=G.hd s z:=fun s z h1 h2=>by rw[←hGn];simp[Gh.back,h1,zLi h2]
 have gad0:∀s z,s≠d→s∉rw.map (·.2.1)→Gn.ad s z=G.ad s z:=fun s z h1 h2=>by rw[←hGn];simp[Gh.back,h1,zLi h2]
 have cK:∀i s u,(i,s,u)∈rw→s≠d:=fun i s u h e=>mz.1 (e▸Jt.2 ⟨_,h,rfl⟩)
 have ghdr:∀i s u z,(i,s,u)∈rw→Gn.hd s z=G'.hd i z:=fun i s u z h=>by rw[←hGn];simp[Gh.back,cK i s u h,zCw rw mz.2 h]
 have gadr:∀i s u z,(i,s,u)∈rw→z≠[]→Gn.ad s z=G'.ad i z:=fun i s u z h h0=>by rw[←hGn];simp[Gh.back,cK i s u h,zCw rw mz.2 h,h0]
 have gadr0:∀i s u,(i,s,u)∈rw→Gn.ad s []=G.ad s []:=fun i s u h=>by rw[←hGn];simp[Gh.back,cK i s u h,zCw rw mz.2 h]
 have glb0:∀b o l,¬zAL G rw b→G.lb b o=iz l→Gn.lb b o=iz l:=fun b o l h1 h2=>by have:=(hm.lb b o _ h2).1;rw[←hGn];simp only[Gh.back];rw[if_neg (by rintro(h|h);exact h1 h;omega)];exact h2
 have gow0:∀b l,¬zAL G rw b→G.ow b=iz l→Gn.ow b=iz l:=fun b l h1 h2=>by have:=(hm.ow b _ h2).1;rw[←hGn];simp only[Gh.back];rw[if_neg (by rintro(h|h);exact h1 h;omega)];exact h2
 have gO:∀b o l,G'.lb b o=iz l→zAL G rw b∨w.heap.size≤b:=fun b o l h=>(gR.lb b o l h).2.1.symm
 have bp:∀b l,G'.ow b=iz l→zAL G rw b∨w.heap.size≤b:=fun b l h=>(gR.ow b l h).2.1.symm
 have glb1:∀b o fl s z s' z',G'.lb b o=iz (fl,s,z)→zD1 d rw nd s z=iz (s',z')→Gn.lb b o=iz (fl,s',z'):=fun b o fl s z s' z' h1 h2=>by rw[←hGn];simp only[Gh.back];rw[if_pos (gO b o _ h1),h1];simp[h2]
 have gow1:∀b s z l,G'.ow b=iz (s,z)→zD1 d rw nd s z=iz l→Gn.ow b=iz l:=fun b s z l h1 h2=>by rw[←hGn];simp only[Gh.back];rw[if_pos (bp b _ h1),h1];simp[h2]
 have dj:∀i s u z,(i,s,u)∈rw→zD1 d rw nd i z=iz (s,z):=fun i s u z h=>by simp[zD1,zLh rw bg h]
 have gE:∀x∈rw,x.1<us.length:=fun x hx=>by have:=(Jw.1 (fx x hx)).1;omega
 have hbn:∀x∈nd,∀z,zD1 d rw nd x.1 z=ndB d nd x.1 z:=fun x hx z=>by have h1:=(cQ x hx).2;have h2:rwS rw x.1=iA:=zRQ (fun y hy e=>by have:=gE y hy;omega);simp[zD1,h2]
 have mM:∀(k:Nat) x,nd[k]? =iz x→ ∃tgt,(nd.length=1→tgt=[])∧(nd.length≠1→tgt=[k])∧(∀z,Gn.hd d (z++tgt)=G'.hd x.1 (z++x.2.1))∧(∀z,Gn.ad d (z++tgt)=G'.ad x.1 (z++x.2.1))∧ ∀z,zD1 d rw nd x.1 (z++x.2.1)=iz (d,z++tgt):=by
  intro k x hk;have bJ:=Lz hk
  match nd,hk,pZ,hbn x bJ,ghdd,gadd with
  | [y],hk,pZ,hb,ghdd,gadd=>
   have hkx:y=x:=by
    cases k with
    |zero=>simpa using hk
    |succ k=>simp at hk
   subst hkx;exact⟨[],fun _=>rfl,fun h=>absurd rfl h,fun z=>by rw[ghdd];simp[zRS],fun z=>by rw[gadd];simp[zVs],fun z=>by rw[hb];simp[ndB]⟩
  | [],hk,_,_,_,_=>simp at hk
  |y1::y2::r,hk,pZ,hb,ghdd,gadd=>
   refine⟨[k],fun h=>by simp at h,fun _=>rfl,fun z=>by rw[ghdd];simp only[zRS,Jas,Jat];simp[hk],fun z=>by rw[gadd];simp only[zVs,Jas,Jat];simp[hk],fun z=>?_⟩;rw[hb];have:=zIK (y1::y2::r) pZ (k0:=0) hk;rw[Jf]at this;simp only[ndB,this];simp
 have mo:∀(k:Nat) x,nd[k]? =iz x→ ∀tgt,(∀z,Gn.hd d (z++tgt)=G'.hd x.1 (z++x.2.1))→(∀z,Gn.ad d (z++tgt)=G'.ad x.1 (z++x.2.1))→(∀z,zD1 d rw nd x.1 (z++x.2.1)=iz (d,z++tgt))→R (aft Γ.St Sc S') Gn w' d x.2.2 tgt:=by intro k x hk tgt h1 h2 h3;have bJ:=Lz hk;obtain⟨c1,c2,c3⟩:=gk x.2.2 (by rw[←cC];exact Jt.2 ⟨x,bJ,rfl⟩);refine zAl (G:=G') (w:=w') (s:=x.1) (p:=x.2.1) ⟨⟨h1,fun z _=>h2 z,fun b o f' z _ _ hl=>⟨glb1 b o f' _ _ _ _ hl (h3 z),rfl⟩,fun b z _ hl=>gow1 b _ _ _ hl (h3 z),fun b cs e h=>⟨cs,h,rfl⟩⟩,fun b o _ hl=>⟨glb1 b o iB _ _ _ _ hl (by simpa using h3 []),rfl⟩,fun b hl=>gow1 b _ _ _ hl (by simpa using h3 [])⟩ _ (xF.mono (fun _ _=>False.elim) _ c1) (c3 _ _ _ _ _ gY.le (cQ x bJ).1)
 have gx:qY (uD d rw) G w Gn w':=by
  have gF:∀s,(∀n,(s,n)∉uD d rw)→s≠d∧s∉rw.map (·.2.1):=fun s h=>⟨fun e=>h 0 (by simp[uD,e]),fun hm=>by obtain⟨x,hx,rfl⟩:=Jt.1 hm;exact h _ (zGW hx)⟩
  have pE:∀b s y,G.ow b=iz (s,y)→s∉rw.map (·.2.1)→ ¬zAL G rw b:=by
   rintro b s y h1 h2 ⟨s',z',h3,h4⟩
   rw[h1]at h3;simp at h3;exact h2 (h3.1▸h4)
  refine⟨fun s p h=>?_,fun s p h=>?_,fun b o fl s p hJ h1 h2=>?_,fun b s p h1 h2=>?_,gJ⟩
  ·have h1:s≠d:=fun e=>absurd (h 0 (by simp[uD,e])) (by simp)
   by_cases h2:s∈rw.map (·.2.1)
   ·
    obtain⟨x,hx,rfl⟩:=Jt.1 h2;have hc:=h _ (zGW hx);have c2:x.2.2.single=iB:=by
     cases cI:x.2.2.single with
     |true=>rfl
     |false=>simp[cLv,cI]at hc
    have h3:p=[]:=Ls (by simp only[cLv,c2,if_true]at hc;omega);subst h3;obtain⟨_,_,u,c4,c5,c6⟩:=ab x hx;rw[c2]at c5;have c5:=c5.symm;obtain⟨_,u0,e1,e2⟩:=a9 x.1 x.2.2 (Jt.2 ⟨x,hx,rfl⟩);rw[c6]at e1;simp at e1;subst e1;rw[xV c2,xV c5]at e2;rw[ghdr x.1 x.2.1 x.2.2 [] hx,e2];simp[Gh.arg,fx x hx]
   ·exact ghd0 s p h1 h2
  ·have h1:s≠d:=fun e=>absurd (h 0 (by simp[uD,e])) (by simp)
   by_cases h2:s∈rw.map (·.2.1)
   ·obtain⟨x,hx,rfl⟩:=Jt.1 h2
    have hc:=h _ (zGW hx);have h3:p=[]:=Ls (by have:cLv x.2.2≤1:=(by unfold cLv;split<;>omega);omega);subst h3;exact gadr0 x.1 x.2.1 x.2.2 hx
   ·exact gad0 s p h1 h2
  ·obtain⟨h3,h4⟩:=gF s h2
   obtain⟨y,hy⟩:=hJ;have h5:=pE b s y hy h4;exact⟨glb0 b o _ h5 h1,by simp[yS,World.cell?,bv b (hm.lb b o _ h1).1 h5]⟩
  ·obtain⟨h3,h4⟩:=gF s h2
   exact gow0 b _ (pE b s p h1 h4) h1
 have gu:Mem (Γ.at (aft Γ.St Sc S')) Gn w':=by
  have gB:∀b,b<w'.heap.size∧(w.heap.size≤b∨zAL G rw b)∧S' b=iA→zCn (Γ.at (aft Γ.St Sc S')) w' b:=fun b ⟨hb,h,gI⟩=>by
   have bM:Sc b=iA:=by
    cases hs:Sc b with
    |none=>rfl
    |some x=>rw[gY.le b x hs]at gI;cases gI
   refine⟨hb,?_,by simp only[aft,bM];exact gI⟩;rcases h with h|⟨s,z,h1,_⟩
   ·exact .inl (by have:=hm.sz;show Γ.w0.heap.size≤b;omega)
   ·exact(hm.ow b _ h1).2.1
  have gG:∀b,¬(zAL G rw b∨w.heap.size≤b)→zCn Γ w b→zCn (Γ.at (aft Γ.St Sc S')) w' b:=fun b h ⟨h1,h2,h3⟩=>by
   refine⟨by omega,h2,?_⟩;simp only[aft];split
   ·rename_i hs
    cases gI:S' b with
    |none=>rfl
    |some x=>
     rcases gY.nw b hs (by rw[gI];simp)with h4|h4
     ·exact absurd (.inr h4) h
     ·exact absurd (.inl h4) h
   ·exact h3
  refine⟨fun s z=>?_,fun b o l hl=>?_,fun b l hl=>?_,fun b x hx=>?_,fun b(h1:b<Γ.w0.heap.size) h2=>?_,Gm hm.sz gw,hm.bk.trans gJ gR.bk.os gR.bk.out⟩
  ·by_cases h1:s=d
   ·subst h1
    rw[ghdd];unfold zRS;split
    ·exact gR.one _ _
    ·split
     ·split
      ·exact gR.one _ _
      ·rfl
     ·rfl
   ·by_cases h2:s∈rw.map (·.2.1)
    ·obtain⟨x,hx,rfl⟩:=Jt.1 h2
     rw[ghdr x.1 x.2.1 x.2.2 z hx];exact gR.one _ _
    ·rw[ghd0 s z h1 h2];exact hm.one _ _
  ·rw[←hGn]at hl
   simp only[Gh.back]at hl;split at hl
   ·rename_i me
    split at hl
    ·rename_i hg
     exact gB b (gR.lb b o _ hg)
    ·cases hl
   ·rename_i me
    exact gG b me (hm.lb b o l hl)
  ·rw[←hGn]at hl
   simp only[Gh.back]at hl;split at hl
   ·rename_i me
    split at hl
    ·rename_i hg
     exact gB b (gR.ow b _ hg)
    ·cases hl
   ·rename_i me
    exact gG b me (hm.ow b l hl)
  ·simp only[aft]at hx
   split at hx
   ·exact gR.st b x hx
   have h1:=hm.st b x hx;have h2:=(L8.1 h1).1;have h3:¬zAL G rw b:=by
    rintro⟨s,z,h4,_⟩
    rw[(hm.ow b _ h4).2.2]at hx;cases hx
   rw[bv b h2 h3];exact h1
  ·have h3:¬zAL G rw b:=by
    rintro⟨s,z,h4,_⟩
    rcases(hm.ow b _ h4).2.1 with h5|h5
    ·omega
    ·exact h2 h5
   rw[bv b (by have:=hm.sz;omega) h3];exact hm.fr b h1 h2
 have uu:nd.length=res.length:=by rw[←cC];simp
 refine⟨gx,g9.up fC (by simp) gx gu ?_ ?_⟩
 ·intro s hs
  obtain⟨h1,h2⟩:=zRU hs;refine⟨fun n hn=>?_,by rw[Jk];simp[Ne.symm h1]⟩;simp only[uD,Jc,Jav.injEq,Jt]at hn;rcases hn with⟨e,_⟩|⟨x,hx,e,_⟩
  ·exact h1 e
  ·exact h2 (Jt.2 ⟨x,hx,e⟩)
 ·intro s t hs
  rcases zRT hs with⟨rfl,ht⟩|⟨gf,i,u,cL,ht⟩
  ·simp at ht
   subst ht;rw[Jk];simp only[g9.size,hd,if_true];have pj:res=nd.map (·.2.2):=cC.symm
   by_cases hl:nd.length=1
   ·obtain⟨x,hx⟩:∃x,nd=[x]:=List.length_eq_one_iff.1 hl
    obtain⟨tgt,t1,_,t3,t4,t5⟩:=mM 0 x (by simp[hx]);obtain rfl:=t1 hl;have hr:=mo 0 x (by simp[hx]) [] t3 t4 t5;obtain⟨c1,c2,_⟩:=gk x.2.2 (by rw[pj,hx];simp);have fa:zNh res=x.2.2:=by rw[pj,hx];rfl
    have eh:∀ys,x.2.2≠.tup ys:=fun ys e=>by rw[e]at c2;simp[T.okTup]at c2
    rw[fa];refine⟨?_,hr,Top.of_clean _ c1⟩;rw[kP Gn s _ [] eh,zBB x.2.2 x.2.1 [] t3,hx];rfl
   ·have fa:zNh res=.tup res:=by
     rw[uu]at hl
     match res,hl with
     | [],_=>rfl
     | [u],hl=>simp at hl
     |_::_::_,_=>rfl
    rw[fa];have gD:∀k x,nd[k]? =iz x→ ∀z,Gn.hd s (z++[0+k])=G'.hd x.1 (z++x.2.1):=fun k x hk z=>by obtain⟨tgt,_,t2,t3,_,_⟩:=mM k x hk;rw[t2 hl]at t3;rw[Jf];exact t3 z
    refine⟨?_,?_,?_⟩
    ·have hv:=zOL (Gn:=Gn) (G':=G') (d:=s) nd 0 gD
     rw[cC]at hv;simp only[mkV,hv];unfold zLd;split
     ·simp at hl
     ·rfl
    ·simp only[R]
     rw[pj];refine zOA _ [] 0 (fun k u hu=>?_);rw[K4]at hu;cases hk:nd[k]? with
     |none=>simp[hk]at hu
     |some x=>
      simp[hk]at hu;subst hu;obtain⟨tgt,_,t2,t3,t4,t5⟩:=mM k x hk;rw[t2 hl]at t3 t4 t5;rw[Jf];exact mo k x hk [k] t3 t4 t5
    ·simp only[Top]
     refine vQ.of_clean _ ?_;have:∀us:List T,(∀u∈us,yD u)→xX us:=by
      intro us
      induction us with
      |nil=>intro _;trivial
      |cons u us ih=>intro h;exact⟨h u (by simp),ih fun v hv=>h v (by simp[hv])⟩
     exact this res fun u hu=>(gk u hu).1
  ·simp at ht
   subst ht;obtain⟨c1,c3,u0,c4,_,c6⟩:=ab _ cL;obtain⟨r1,u1,e1,e2⟩:=a9 i t (Jt.2 ⟨_,cL,rfl⟩);simp only at c4 c6;rw[c6]at e1;simp at e1;subst e1;refine⟨?_,?_,Top.of_clean _ c1⟩
   ·rw[Jk]
    simp only[Ne.symm gf,if_false];have aW:=fx _ cL;simp only at aW;have m1:mkV Gn s t []=mkV G' i t []:=zFb t [] [] (fun z=>by rw[Ja];exact ghdr i s t z cL);have m2:mkV (G.arg a xs rw) i u0 []=mkV G s u0 []:=zFb u0 [] [] (fun z=>by simp[Gh.arg,aW]);rw[(g9.ent s u0 c4).1,m1,e2,m2]
   ·refine zAl (G:=G') (w:=w') (s:=i) (p:=[]) ⟨⟨fun z=>by rw[Ja];exact ghdr i s t z cL,fun z hz=>by rw[Ja];exact gadr i s t z cL hz,fun b o f' z _ _ hl=>?_,fun b z _ hl=>?_,fun b cs e h=>⟨cs,h,rfl⟩⟩,fun b o _ hl=>⟨glb1 b o iB _ _ _ _ hl (dj i s t [] cL),rfl⟩,fun b hl=>gow1 b _ _ _ hl (dj i s t [] cL)⟩ t (xF.mono (fun _ _=>False.elim) _ c1) (c3 _ _ _ _ _ gY.le r1)
    ·rw[Ja]at hl ⊢;exact⟨glb1 b o f' _ _ _ _ hl (dj i s t z cL),rfl⟩
    ·rw[Ja]at hl ⊢;exact gow1 b _ _ _ hl (dj i s t z cL)
end
end Go.Ab

namespace Go.Ab
open Go
def zIL(E:Env)(rs:List Nat)(x:Operand)(t:T):Bool:=
 match x with
 |.tmp s=>qH E rs s t
 |_=>iB
def zCc(E:Env)(rw:Rw)(i:Nat)(x:Operand)(u:T):Prop:=
 (∃s u',x=.tmp s∧(i,s,u')∈rw∧E s=iz u∧yD u∧u.okTup=iB∧wZ u=iB)∨(∃t,opT E x=iz t∧clo E t=u∧zIL E (rw.map (·.2.1)) x t=iB)
def wB(E:Env)(rw:Rw):Nat→List Operand→List T→Prop
 |_,[],[]=>True
 |i,x::xs,u::us=>zCc E rw i x u∧wB E rw (i+1) xs us
 |_,_,_=>False
theorem wB.length{E:Env}{rw:Rw}:(xs:List Operand)→(us:List T)→ ∀i,wB E rw i xs us→xs.length=us.length
 | [],[],_,_=>rfl
 |_::xs,_::us,i,h=>by simp[wB.length xs us (i+1) h.2]
 | [],_::_,_,h=>by simp[wB]at h
 |_::_,[],_,h=>by simp[wB]at h
theorem wB.get{E:Env}{rw:Rw}:(xs:List Operand)→(us:List T)→ ∀i,wB E rw i xs us→ ∀(j:Nat) u,us[j]? =iz u→ ∃x,xs[j]? =iz x∧zCc E rw (i+j) x u
 | [],[],_,_,_,_,h=>by simp at h
 |x::xs,v::us,i,h,j,u,hj=>by
  cases j with
  |zero=>simp at hj;subst hj;exact⟨x,by simp,h.1⟩
  |succ j=>
   obtain⟨y,h1,h2⟩:=wB.get xs us (i+1) h.2 j u (by simpa using hj);exact⟨y,by simpa using h1,by rwa [show i+(j+1)=i+1+j from by omega]⟩
 | [],_::_,_,h,_,_,_=>by simp[wB]at h
 |_::_,[],_,h,_,_,_=>by grind
structure zGY (E:Env) (d:Nat) (xs:List Operand) (us:List T) (rw:Rw):Prop where
 nodup:(d::rw.map (·.2.1)).Nodup
 nodup2:(rw.map (·.1)).Nodup
 at_:∀x∈rw,xs[x.1]? =iz (.tmp x.2.1)
 tree:∀x∈rw,yD x.2.2∧wZ x.2.2=iB∧ ∃u,E x.2.1=iz u∧x.2.2.single=u.single∧us[x.1]? =iz u
theorem zGY.nil{E:Env}{d:Nat}{xs:List Operand}{us:List T}:zGY E d xs us []:=⟨by simp,by simp,by simp,by simp⟩
theorem zGY.one{E:Env}{d i s:Nat}{u u':T}{xs:List Operand}{us:List T}(h1:d≠s)(h2:xs[i]? =iz (.tmp s))(h3:yD u')(h4:u'.single=iB)(h5:wZ u'=iB)(h6:E s=iz u)(h7:u.single=iB)(h8:us[i]? =iz u):
  zGY E d xs us [(i,s,u')]:=⟨by grind,by simp,by grind,by grind⟩
theorem zGY.one'{E:Env}{d i s:Nat}{u u':T}{xs:List Operand}{us:List T}(h1:d≠s)(h2:xs[i]? =iz (.tmp s))(h3:yD u')(h4:u'.single=u.single)(h5:wZ u'=iB)(h6:E s=iz u)(h8:us[i]? =iz u):
  zGY E d xs us [(i,s,u')]:=⟨by grind,by simp,by grind,by grind⟩
section
variable {P:Program}{Γ:Ctx}{E:Env}{o:Oper}{d:Nat}
theorem zVt{G:Gh}{a:Act}{w:World}(g9:Rep Γ E G a.tmps w){rw:Rw}{xs:List Operand}{us:List T}(hr:zGY E d xs us rw){Sc:Stb}(er:∀b x,Γ.St b=iz x→Sc b=iz x)
  (eC:∀r,r∉rw.map (·.2.1)→ ∀b,(∃y,G.ow b=iz (r,y))→Sc b=w.heap[b]?){i:Nat}{x:Operand}{u:T}(hx:xs[i]? =iz x)(hu:us[i]? =iz u)(h:zCc E rw i x u):
  a.eval x=mkV (G.arg a xs rw) i u []∧R Sc (G.arg a xs rw) w i u []:=by
 rcases h with⟨s,u',rfl,h1,h2,h3,h4,h5⟩|⟨t,h1,rfl,h3⟩
 ·obtain⟨e1,e2,_⟩:=g9.ent s u h2
  have gD:∀z,(G.arg a xs rw).hd i z=G.hd s z:=by grind[Gh.arg]
  have f9:∀z,(G.arg a xs rw).ad i z=G.ad s z:=by grind[Gh.arg]
  have hi:=zCw rw (Le.1 hr.nodup).2 h1;refine⟨by grind[wH,zFb],?_⟩;refine zQf u [] h5 (zAl (St:=Γ.St) (G:=G) (w:=w) (s:=s) (p:=[]) ⟨⟨by grind,by grind,fun b o' f' z _ hJ hl=>?_,fun b z _ hl=>?_,fun b cs e h=>⟨cs,h,rfl⟩⟩,fun b o' hJ hl=>?_,fun b hl=>?_⟩ u (by grind[xF.mono]) e2)
  ·obtain⟨y,hy⟩:=hJ
   exact⟨by grind[Gh.arg],rfl⟩
  ·grind[Gh.arg]
  ·obtain⟨y,hy⟩:=hJ
   exact⟨by grind[Gh.arg],rfl⟩
  grind[Gh.arg]
 ·cases x with
  |tmp s=>
   have gD:∀z,(G.arg a xs rw).hd i z=G.hd s z:=by grind[Gh.arg]
   obtain⟨e1,e2,_⟩:=g9.ent s t h1
   grind[zIL,wH,zJL,zWC]
  |const v=>
   simp only[opT]at h1;split at h1
   ·rename_i gr
    simp at h1;subst h1;have gD:(G.arg a xs rw).hd i []=v:=by grind[Gh.arg,Act.eval,zAn]
    exact⟨by grind[clo,mkV,Act.eval],by simp[clo,R,gD]⟩
   ·cases h1
  |func f=>
   simp only[opT]at h1;simp at h1;subst h1;have gD:(G.arg a xs rw).hd i []=.func (.func f) #[] #[]:=by grind[Gh.arg,Act.eval,jV,Value.oneCell']
   exact⟨by grind[clo,mkV,Act.eval],by simp[clo,R,gD]⟩
  |global g=>grind[opT]
theorem zDc{E:Env}:(t:T)→t.flat=iB→(∀rs s,qH E rs s t=iB)∧clo E t=t
 |.lit _,_|.ro _,_=>by simp[qH,clo]
 |.agg ts,h=>by
  simp only[T.flat]at h;have:=go ts h
  grind[qH,clo]
 |.any,h|.same _ _,h|.addr _ _,h|.sub _ _ _ _ _,h|.sl _ _,h|.ptr _,h|.tup _,h=>by grind[T.flat]
where go:(ts:List T)→zA6 ts=iB→(∀rs s,zA7 E rs s ts=iB)∧zBq E ts=ts
 | [],_=>by simp[zA7,zBq]
 |x::xs,h=>by simp only[zA6,J4]at h;simp only[zA7,zBq,J4];exact⟨fun rs s=>⟨(zDc x h.1).1 rs s,(go xs h.2).1 rs s⟩,by rw[(zDc x h.1).2,(go xs h.2).2]⟩
theorem zCx{a:Act}{w:World}{K:Act→World→Prop}{Q:Exit→Act→World→Prop}{f:FuncId}{xf:Operand}{xs:List Operand}{ats:Array TypeId}(ho:o.op=.call { callee:=.value xf,args:=xs.toArray,argTypes:=ats })(gg:o.dst=iz d)
  (gp:∀args w,(callFunc f args).run P w=.ok (.enter f args) w)(hf:a.eval xf=.func (.func f) #[] #[])
  (h:Calls P f (xs.map a.eval).toArray w fun e w'=> ∃v,e=.returned v∧K (a.put (iz d) v) w'):o.wp P a w K Q:=by
 have gy:(execOp a.eval o).run P w=.ok (.enter f (xs.map a.eval).toArray) w:=by simp[execOp,ho,resolve,hf,Deferred.ofValue,invoke,gp]
 unfold Oper.wp;rw[gy,Oper.upon_enter];refine h.mono ?_
 grind
theorem zGZ{G:Gh}{a:Act}{w:World}(g9:Rep Γ E G a.tmps w)(hd:d<Γ.N)(f:FuncId)(xs:List Operand)(us res:List T)(rw:Rw)
  (hc:FnC P f us res (rw.map fun x=>(x.1,x.2.2)))(gc:wB E rw 0 xs us)(hr:zGY E d xs us rw)(gk:xX res∧yV res=iB∧uL res=iB):
  Calls P f (xs.map a.eval).toArray w fun e w'=> ∃v,e=.returned v∧ ∃S G',zDs Γ.St S Γ.W Γ.w0.heap.size∧qY (uD d rw) G w G' w'∧Rep (Γ.at S) (E.app (cWr d res rw) (uD d rw)) G' (a.tmps.setIfInBounds d v) w':=by
 classical
 have hm:=g9.mem
 let Sc:Stb:=fun b=>if zAL G rw b then iA else w.heap[b]?
 have er:∀b x,Γ.St b=iz x→Sc b=iz x:=fun b x hx=>by
  have h3:¬zAL G rw b:=by
   rintro⟨s,z,h4,_⟩
   rw[(hm.ow b _ h4).2.2]at hx;cases hx
  simp only[Sc,h3,if_false];exact hm.st b x hx
 have eC:∀r,r∉rw.map (·.2.1)→ ∀b,(∃y,G.ow b=iz (r,y))→Sc b=w.heap[b]?:=fun r hr' b ⟨y,hy⟩=>by
  have h3:¬zAL G rw b:=by
   rintro⟨s,z,h4,h5⟩
   grind
  grind
 have eP:∀(us:List T),xX us∧yV us=iB∧uL us=iB→ ∀u∈us,yD u∧u.okTup=iB∧wZ u=iB:=by
  intro us
  induction us with
  |nil=>simp
  |cons v us ih=>
   intro⟨h1,h2,h3⟩ u hu;simp only[yV,uL,J4]at h2 h3;rcases Jc.1 hu with rfl|hu
   ·exact⟨h1.1,h2.1,h3.1⟩
   ·exact ih ⟨h1.2,h2.2,h3.2⟩ u hu
 exact zGX g9 hd (Sc:=Sc) (rw:=rw) (by grind) er hc (wB.length xs us 0 gc) (fun i u hu=>by
   obtain⟨x,h1,h2⟩:=wB.get xs us 0 gc i u hu;rw[Jf]at h2
   grind[zVt]) hr.nodup hr.nodup2 hr.at_
  (by grind[zQf])
  (fun x hx=>by
   obtain⟨h1,h3,h4⟩:=hr.tree x hx
   grind[zQf])
theorem zJM(f:FuncId)(xf:Operand)(xs:List Operand)(ats:Array TypeId)(us res:List T)(rw:Rw)(ho:o.op=.call { callee:=.value xf,args:=xs.toArray,argTypes:=ats })(gg:o.dst=iz d)(hd:d<Γ.N)
  (gp:∀args w,(callFunc f args).run P w=.ok (.enter f args) w)(hf:opT E xf=iz (.lit (.func (.func f) #[] #[])))
  (hc:FnC P f us res (rw.map fun x=>(x.1,x.2.2)))(gc:wB E rw 0 xs us)(hr:zGY E d xs us rw)(gk:xX res∧yV res=iB∧uL res=iB):
  wK P Γ o E (E.app (cWr d res rw) (uD d rw)):=by
 intro a w K Q ⟨gN,G,g9⟩ hK;refine zCx ho gg gp (wL g9 hf).1 ?_;refine(zGZ g9 hd f xs us res rw hc gc hr gk).mono ?_
 rintro e w' ⟨v,rfl,S,G',hS,_,gm⟩
 exact⟨v,rfl,hK _ _ ⟨S,hS,gN,G',gm⟩⟩
theorem zLj(f:FuncId)(xf:Operand)(xs:List Operand)(ats:Array TypeId)(us res:List T)(i ds r:Nat)(q:List Nat)(tr u u':T)(ho:o.op=.call { callee:=.value xf,args:=xs.toArray,argTypes:=ats })(gg:o.dst=iz d)(hd:d<Γ.N)
  (gp:∀args w,(callFunc f args).run P w=.ok (.enter f args) w)(hf:opT E xf=iz (.lit (.func (.func f) #[] #[])))
  (hs:E ds=iz (.same r q))(hr:E r=iz tr)(hq:tr.get q.reverse=iz u)(hu:u.single=iB)(eA:yD u)(gZ:ds≠r)(hdr2:d≠r)(gB:tr.okB [(ds,1),(r,q.length+1)]=iB)(cI:xN tr=iB)
  (E1 E2:Env)(bE:E1=E.app [(ds,iz u),(r,iz (if q=[]then .same ds []else tr.set q.reverse .any))] [(ds,1),(r,q.length+1)])(gK:E2=E1.app (cWr d res [(i,ds,u')]) (uD d [(i,ds,u')]))
  (hc:FnC P f us res [(i,u')])(gc:wB E1 [(i,ds,u')] 0 xs us)(cL:zGY E1 d xs us [(i,ds,u')])(gk:xX res∧yV res=iB∧uL res=iB)
  (tr2 v0:T)(fH:E2 r=iz tr2)(u6:tr2.get q.reverse=iz v0)(tk:v0.single=iB)(cY:E2 ds=iz u')(ej:yD u')(tp:u'.single=iB)(pY:tr2.okB [(r,q.length+1),(ds,1)]=iB)(hc3:xN tr2=iB)(hok3:u'.okB [(r,q.length+1),(ds,1)]=iB)(hc4:xN u'=iB):
  wK P Γ o E (E2.app [(r,iz (tr2.set q.reverse u')),(ds,iz (.same r q))] [(r,q.length+1),(ds,1)]):=by
 have m6:cLv u'=1:=by grind[cLv]
 intro a w K Q ⟨gN,G,g9⟩ hK;refine zCx ho gg gp (wL g9 hf).1 ?_;have gL:G.hd ds []=G.hd r q:=by have:=(g9.ent ds _ hs).2.1;simpa only[R]using this
 obtain⟨cz,bt⟩:=zDK g9 ds [] r q (.same r q) tr u (.same r q) hs rfl rfl gL hr hq hu eA gZ (by grind[T.okB,zAg]) (by omega) rfl cI;have iy:E.app [(ds,iz ((T.same r q).set [].reverse u)),(r,iz (if q=[]then .same ds []else tr.set q.reverse .any))] [(ds,([]:List Nat).length+1),(r,q.length+1)]=E1:=by rw[bE];rfl
 rw[iy]at cz;refine(zGZ cz hd f xs us res [(i,ds,u')] hc gc cL gk).mono ?_
 rintro e w' ⟨v,rfl,S,G',hS,hk,gm⟩
 rw[←gK]at gm;have hdds:d≠ds:=by have:=cL.nodup;grind
 have h1:G'.hd r q=(G.tr ds [] r q).hd r q:=hk.hd r q (fun n hn=>by grind[uD]);have h2:G'.hd ds []=(G.tr ds [] r q).hd ds []:=hk.hd ds [] (fun n hn=>by grind[uD]);have fU:G'.hd r q=G'.hd ds []:=by grind
 obtain⟨cy,_⟩:=zDK gm r q ds [] tr2 u' u' v0 fH u6 tk fU cY rfl tp ej (Ne.symm gZ) (by omega) (by omega) hc3 hc4;refine⟨v,rfl,hK _ _ ⟨S,hS,gN,G'.tr r q ds [],?_⟩⟩;have hw:(if([]:List Nat)=[]then T.same r q else u'.set ([]:List Nat).reverse .any)=T.same r q:=if_pos rfl;rw[hw]at cy;exact cy
theorem zRV(f:FuncId)(xf:Operand)(xs:List Operand)(ats:Array TypeId)(us res:List T)(ho:o.op=.call { callee:=.value xf,args:=xs.toArray,argTypes:=ats })(gg:o.dst=iz d)(hd:d<Γ.N)
  (gp:∀args w,(callFunc f args).run P w=.ok (.enter f args) w)(hf:opT E xf=iz (.lit (.func (.func f) #[] #[])))
  (hc:FnC P f us res [])(gj:xs.length=us.length)(gc:∀(i:Nat) u,us[i]? =iz u→ ∃x,xs[i]? =iz x∧opT E x=iz u∧u.flat=iB)(gk:xX res∧yV res=iB):
  wK P Γ o E (E.app (cWr d res []) (uD d [])):=by
 intro a w K Q ⟨gN,G,g9⟩ hK;have hm:=g9.mem;refine zCx ho gg gp (wL g9 hf).1 ?_;have pE:∀b,¬zAL G [] b:=by rintro b ⟨s,z,_,h⟩;simp at h
 have eP:∀(us:List T),xX us∧yV us=iB→ ∀u∈us,yD u∧u.okTup=iB:=by
  intro us
  induction us with
  |nil=>simp
  |cons v us ih=>
   intro⟨h1,h2⟩ u hu;simp only[yV,J4]at h2;rcases Jc.1 hu with rfl|hu
   ·exact⟨h1.1,h2.1⟩
   ·exact ih ⟨h1.2,h2.2⟩ u hu
 have:=zGX g9 hd (Sc:=Γ.St) (rw:=[]) (fun b x hx=>⟨hm.st b x hx,pE b⟩) (fun _ _ h=>h) hc gj (fun i u hu=>by
   obtain⟨x,h1,h2,h3⟩:=gc i u hu;refine⟨x,h1,?_⟩;have df:=zDc (E:=E) u h3;cases x with
   |tmp s=>
    have gD:∀z,(G.arg a xs []).hd i z=G.hd s z:=by grind[Gh.arg]
    obtain⟨e1,e2,_⟩:=g9.ent s u h2;refine⟨?_,by grind[zJG]⟩;have:=zJL (E:=E) gD u (df.1 [] s)
    grind[wH]
   |const v=>
    simp only[opT]at h2;split at h2
    ·rename_i gr
     simp at h2;subst h2;have gD:(G.arg a xs []).hd i []=v:=by grind[Gh.arg,Act.eval,zAn]
     exact⟨by grind[mkV,Act.eval],by simp[R,gD]⟩
    ·cases h2
   |func f=>
    simp only[opT]at h2;simp at h2;subst h2;have gD:(G.arg a xs []).hd i []=.func (.func f) #[] #[]:=by grind[Gh.arg,Act.eval,jV,Value.oneCell']
    exact⟨by grind[mkV,Act.eval],by simp[R,gD]⟩
   |global g=>grind[opT]) (by simp) (by simp) (by simp)
  (fun u hu=>⟨by grind,by grind,fun S' G w s p hS h=>by
   have:aft Γ.St Γ.St S'=S':=funext (by grind[aft])
   grind⟩) (by simp)
 refine this.mono ?_
 rintro e w' ⟨v,rfl,S,G',hS,_,gm⟩
 exact⟨v,rfl,hK _ _ ⟨S,hS,gN,G',gm⟩⟩
end
end Go.Ab

namespace Go.Ab
open Go
def xE:List (Nat×T)→Env
 | [],_=>iA
 |(k,t)::l,s=>if k=s then iz t else xE l s
def Env.Has(E:Env):List (Nat×T)→Prop
 | []=>True
 |(s,t)::l=>E s=iz t∧E.Has l
theorem Env.Has.le{E:Env}:{l:List (Nat×T)}→E.Has l→ ∀s t,xE l s=iz t→E s=iz t
 | [],_,s,t,h=>by grind[xE]
 |(k,u)::l,hh,s,t,h=>by
  simp only[xE]at h;split at h
  ·rename_i e
   subst e;rw[hh.1];exact h
  ·exact hh.2.le s t h
theorem Sim.weaken{Γ:Ctx}{E E':Env}{a:Act}{w:World}(h:Sim Γ E a w)(cS:∀s t,E' s=iz t→E s=iz t):Sim Γ E' a w:=by obtain⟨h1,G,h2⟩:=h;exact⟨h1,G,⟨h2.size,fun s t hs=>h2.ent s t (cS s t hs),h2.mem⟩⟩
theorem jH.weaken{Γ:Ctx}{E E':Env}{a:Act}{w:World}(h:jH Γ E a w)(cS:∀s t,E' s=iz t→E s=iz t):jH Γ E' a w:=by obtain⟨S,h1,h2⟩:=h;exact⟨S,h1,h2.weaken cS⟩
abbrev jX:=List (Nat×Value)
def jX.Hold(pn:jX)(a:Act):Prop:=∀x∈pn,a.tmps[x.1]? =iz x.2
def jX.ok(pn:jX)(d:Option Nat):Bool:=match d with
 |none=>iB
 |some d=>pn.all fun x=>x.1 != d
theorem Oper.wp_frame{P:Program}{o:Oper}{a:Act}{w:World}{K:Act→World→Prop}{Q:Exit→Act→World→Prop}(h:o.wp P a w K Q):
  o.wp P a w (fun a' w'=>K a' w'∧ ∀s,o.dst≠iz s→a'.tmps[s]? =a.tmps[s]?) Q:=by
 have key:∀(v:Value)(ds:List Deferred),∀s,o.dst≠iz s→(({ a with defers:=ds }:Act).put o.dst v).tmps[s]? =a.tmps[s]?:=by
  intro v ds s hs;cases hd:o.dst with
  |none=>rfl
  |some d=>
   grind[Act.put]
 have key0:∀(v:Value),∀s,o.dst≠iz s→(a.put o.dst v).tmps[s]? =a.tmps[s]?:=fun v=>key v a.defers
 unfold Oper.wp at*
 generalize (execOp a.eval o).run P w=r at*
 cases r with
 |ok n w'=>
  cases n<;>simp only[Oper.upon]at h ⊢
  all_goals grind
 |halt x w'=>cases x<;>simp only[Oper.upon]at h ⊢ <;>exact h
theorem jX.Hold.frame{pn:jX}{a a':Act}{d:Option Nat}(h:pn.Hold a)(gB:pn.ok d=iB)(hf:∀s,d≠iz s→a'.tmps[s]? =a.tmps[s]?):pn.Hold a':=by
 intro x hx;rw[hf x.1 ?_]
 ·exact h x hx
 ·rintro rfl
  have:=Ki.1 gB x hx
  grind
section
variable (P:Program) (Γ:Ctx) (pn:jX)
def CW(c:Code)(E:Env)(Q:Exit→Env→Prop):Prop:=
 ∀(a:Act)(w:World)(Q':Exit→Act→World→Prop),jH Γ E a w→pn.Hold a→(∀e E' a' w',Q e E'→jH Γ E' a' w'→pn.Hold a'→Q' e a' w')→c.wp P Q' a w
def zX(ops:Array Oper)(o:Oper)(E E':Env):Prop:=
 ∀(a:Act)(w:World)(K:Act→World→Prop)(Q:Exit→Act→World→Prop),jH Γ E a w→(∀a' w',jH Γ E' a' w'→(∀s,o.dst≠iz s→a'.tmps[s]? =a.tmps[s]?)→K a' w')→
  if Region.wanted o (yielded ops a.tmps)then o.wp P a w K Q∨(o.asks P a w∧LetsOut Q)else K (a.put o.dst undef) w
def wpL(ops:Array Oper)(Q:Exit→Act→World→Prop):List Oper→Act→World→Prop
 | [],a,w=>Q .normal a w
 |o::os,a,w=>if Region.wanted o (yielded ops a.tmps)then o.wp P a w (wpL ops Q os) Q∨(o.asks P a w∧LetsOut Q)else wpL ops Q os (a.put o.dst undef) w
def RW(ops:Array Oper)(os:List Oper)(E:Env)(Q:Exit→Env→Prop):Prop:=
 ∀(a:Act)(w:World)(Q':Exit→Act→World→Prop),jH Γ E a w→pn.Hold a→(∀e E' a' w',Q e E'→jH Γ E' a' w'→pn.Hold a'→Q' e a' w')→wpL P ops Q' os a w
end
section
variable {P:Program}{Γ:Ctx}{pn:jX}{E E':Env}{Q Q1:Exit→Env→Prop}{c c1 c2:Code}{ops:Array Oper}{o:Oper}{os:List Oper}{d:Nat}
theorem zJN{Q':Exit→Act→World→Prop}:∀(os:List Oper)(n:Nat)(a:Act)(w:World),ops.toList.drop n=os→wpL P ops Q' os a w→wpOps P ops Q' (Kx n os.length) a w
 | [],n,a,w,_,h=>by simpa[wpOps,wpL]using h
 |o::os,n,a,w,hd,h=>by
  have ho:ops[n]? =iz o:=by
   have:=congrArg (·[0]?) hd
   grind
  have mA:ops.toList.drop (n+1)=os:=by
   have:=congrArg List.tail hd
   grind[List.tail_drop]
  simp only[J6,Jd9,wpOps,ho];simp only[wpL]at h;split
  ·rename_i hw
   simp only[hw,if_true]at h;exact h.imp (Oper.wp_mono fun a w=>zJN os (n+1) a w mA) id
  ·rename_i hw
   simp only[hw]at h;exact zJN os (n+1) _ w mA h
theorem CW.region{id:Nat}(h:RW P Γ pn ops ops.toList E Q):CW P Γ pn (.region id ops iC) E Q:=by
 intro a w Q' hs hp hQ;refine wp_region ?_;have:=zJN (P:=P) ops.toList 0 a w (by simp) (h a w Q' hs hp hQ)
 grind[Lp]
theorem RW.nil(h:Q .normal E):RW P Γ pn ops [] E Q:=fun a w Q' hs hp hQ=>by
 simp only[wpL]
 grind
theorem RW.cons(h1:zX P Γ ops o E E')(h3:RW P Γ pn ops os E' Q)(h2:pn.ok o.dst=iB:=by rfl):RW P Γ pn ops (o::os) E Q:=by
 intro a w Q' hs hp hQ;simp only[wpL];have:=h1 a w (wpL P ops Q' os) Q' hs fun a' w' gI hf=>h3 a' w' Q' gI (hp.frame h2 hf) hQ
 exact this
theorem zX.op(h:∀S,wK P (Γ.at S) o E E')(hg:o.guard=iA:=by rfl):zX P Γ ops o E E':=by
 intro a w K Q hs hK;have hw:Region.wanted o (yielded ops a.tmps)=iB:=by simp[Region.wanted,hg]
 rw[if_pos hw];refine .inl ?_;obtain⟨S,hS,hs⟩:=hs;have:=Oper.wp_frame (h S a w (fun a' w'=>jH Γ E' a' w') Q hs fun a' w' h=>h.up hS)
 grind[Oper.wp_mono]
theorem zHa{a:Act}{w:World}(hs:jH Γ E a w){g s:Nat}{b:Bool}(gn:(ops[g]?).bind (·.dst)=iz s)(h:E s=iz (.lit (.bool b))):yielded ops a.tmps g=iz b:=by
 obtain⟨_,_,_,G,hr⟩:=hs;obtain⟨h1,h2,_⟩:=hr.ent s _ h;simp only[R]at h2
 grind[yielded,mkV]
theorem zX.guard(g:Nat)(b:Bool)(s:Nat)(h:∀S,wK P (Γ.at S) o E E')(hg:o.guard=iz (g,b):=by rfl)(gn:(ops[g]?).bind (·.dst)=iz s:=by rfl)(hb:E s=iz (.lit (.bool b)):=by rfl):zX P Γ ops o E E':=by
 intro a w K Q hs hK;have hw:Region.wanted o (yielded ops a.tmps)=iB:=by grind[Region.wanted,zHa]
 rw[if_pos hw];refine .inl ?_;obtain⟨S,hS,hs⟩:=hs;have:=Oper.wp_frame (h S a w (fun a' w'=>jH Γ E' a' w') Q hs fun a' w' h=>h.up hS)
 grind[Oper.wp_mono]
def zN(Γ:Ctx)(E E':Env):Prop:=∀(a:Act)(w:World),jH Γ E a w→jH Γ E' a w
theorem zN.refl:zN Γ E E:=fun _ _ h=>h
theorem zN.trans{E1 E2 E3:Env}(h:zN Γ E1 E2)(h':zN Γ E2 E3):zN Γ E1 E3:=fun a w hs=>h' a w (h a w hs)
theorem zN.has{l:List (Nat×T)}(h:E.Has l):zN Γ E (xE l):=fun _ _ hs=>hs.weaken h.le
theorem CW.ghost(h1:zN Γ E E')(h:CW P Γ pn c E' Q):CW P Γ pn c E Q:=fun a w Q' hs=>h a w Q' (h1 a w hs)
theorem RW.ghost(h1:zN Γ E E')(h:RW P Γ pn ops os E' Q):RW P Γ pn ops os E Q:=fun a w Q' hs=>h a w Q' (h1 a w hs)
theorem CW.to(l:List (Nat×T))(h1:E.Has l)(h:CW P Γ pn c (xE l) Q):CW P Γ pn c E Q:=h.ghost (.has h1)
theorem CW.mono(h:CW P Γ pn c E Q1)(hq:∀e E',Q1 e E'→Q e E'):CW P Γ pn c E Q:=fun a w Q' hs hp hQ=>h a w Q' hs hp (by grind)
theorem CW.skip(h:Q .normal E):CW P Γ pn .skip E Q:=fun _ _ _ hs hp hQ=>by grind[wp_skip]
theorem CW.ret(h:Q .ret E):CW P Γ pn .ret E Q:=fun _ _ _ hs hp hQ=>by grind[wp_ret]
theorem CW.exit{id:Nat}(h:Q (.exit id) E):CW P Γ pn (.exit id) E Q:=fun _ _ _ hs hp hQ=>by grind[wp_exit]
def wN(P:Program)(Γ:Ctx)(pn:jX)(c:Code)(Q:Exit→Env→Prop):Exit→Env→Prop
 |.normal,E=>CW P Γ pn c E Q
 |e,E=>Q e E
theorem CW.seq(h:CW P Γ pn c1 E (wN P Γ pn c2 Q)):CW P Γ pn (.seq c1 c2) E Q:=by
 intro a w Q' hs hp hQ;refine wp_seq (h a w _ hs hp fun e E' a' w' h1 gI cP=>?_);cases e with
 |normal=>exact h1 a' w' Q' gI cP hQ
 |_=>exact hQ _ _ _ _ h1 gI cP
theorem CW.cond{x:Operand}(b:Bool)(hb:opT E x=iz (.lit (.bool b)))(ht:b=iB→CW P Γ pn c1 E Q)(hf:b=iC→CW P Γ pn c2 E Q):CW P Γ pn (.cond x c1 c2) E Q:=by intro a w Q' hs hp hQ;obtain⟨_,_,_,G,hr⟩:=id hs;refine wp_cond_split (wL hr hb).1 (fun h=>ht h a w Q' hs hp hQ) (fun h=>hf h a w Q' hs hp hQ)
def wP(id:Nat)(Q:Exit→Env→Prop):Exit→Env→Prop
 |.exit id',E=>if id'=id then Q .normal E else Q (.exit id') E
 |e,E=>Q e E
theorem CW.block{id:Nat}(h:CW P Γ pn c E (wP id Q)):CW P Γ pn (.block id c) E Q:=by
 intro a w Q' hs hp hQ;refine wp_block (h a w _ hs hp fun e E' a' w' h1 gI cP=>?_);cases e with
 |exit id'=>
  simp only[wP]at h1;simp only[Exit.inBlock]
  grind
 |_=>exact hQ _ _ _ _ h1 gI cP
end
def jO{σ ρ:Type}(body:σ→Option (σ⊕ρ)):Nat→σ→Option ρ
 |0,_=>iA
 |n+1,s=>match body s with
  |none=>iA
  |some (.inl s')=>jO body n s'
  |some (.inr r)=>iz r
theorem zHb{σ ρ:Type}{body:σ→Option (σ⊕ρ)}{r:ρ}:∀{n m:Nat}{s:σ},jO body n s=iz r→n≤m→jO body m s=iz r
 |0,_,_,h,_=>by grind[jO]
 |n+1,0,_,_,hm=>by omega
 |n+1,m+1,s,h,hm=>by
  simp only[jO]at h ⊢
  cases hb:body s with
  |none=>grind
  |some x=>
   cases x with
   |inl s'=>simp only[hb]at h ⊢;exact zHb h (by omega)
   |inr r'=>grind
open Classical in
noncomputable def zH {σ ρ:Type} (body:σ→Option (σ⊕ρ)) (s:σ):Option ρ:=
 if h:∃(n:Nat)(r:ρ),jO body n s=iz r then iz h.choose_spec.choose else iA
theorem zDO{σ ρ:Type}{body:σ→Option (σ⊕ρ)}{s:σ}{r:ρ}:zH body s=iz r↔ ∃n,jO body n s=iz r:=by
 unfold zH;constructor
 ·intro h
  split at h
  all_goals grind
 ·rintro⟨n,hn⟩
  have he:∃(n:Nat)(r:ρ),jO body n s=iz r:=⟨n,r,hn⟩;rw[dif_pos he]
  grind[zHb]
theorem xL{σ ρ:Type}(body:σ→Option (σ⊕ρ))(s:σ):zH body s=match body s with
  |none=>iA
  |some (.inl s')=>zH body s'
  |some (.inr r)=>iz r:=by
 apply Option.ext;intro r;rw[zDO];cases hb:body s with
 |none=>
  simp only[reduceCtorEq,iff_false]
  rintro⟨n,hn⟩
  cases n<;>simp[jO,hb]at hn
 |some x=>
  cases x with
  |inl s'=>
   simp only[];rw[zDO];constructor
   ·rintro⟨n,hn⟩
    cases n with
    |zero=>grind[jO]
    |succ n=>grind[jO]
   ·rintro⟨n,hn⟩
    exact⟨n+1,by grind[jO]⟩
  |inr r'=>
   simp only[Ld.injEq];constructor
   ·rintro⟨n,hn⟩
    cases n with
    |zero=>grind[jO]
    |succ n=>grind[jO]
   ·rintro rfl
    exact⟨1,by simp[jO,hb]⟩
section
variable {P:Program}{Γ:Ctx}{pn:jX}{E:Env}{Q:Exit→Env→Prop}{c:Code}
def uR{σ ρ:Type}(Γ:Ctx)(en:σ→Env)(Q:ρ→Exit→Env→Prop)(x:σ⊕ρ):Exit→Env→Prop:=fun e E'=>
 match x with
 |.inl s'=>e=.normal∧zN Γ E' (en s')
 |.inr r=>e≠.normal∧Q r e E'
theorem zD2{p:Nat→Prop}(h:∃m,p m):∃m,p m∧ ∀k,k<m→ ¬p k:=by
 refine Classical.byContradiction fun hn=>?_
 have key:∀n,∀k,k<n→ ¬p k:=by
  intro n
  induction n with
  |zero=>simp
  |succ n ih=>
   grind
 grind
theorem CW.loop{σ ρ:Type}(body:σ→Option (σ⊕ρ))(en:σ→Env)(Q:ρ→Exit→Env→Prop)(h:∀s x,body s=iz x→CW P Γ pn c (en s) (uR Γ en Q x)){s:σ}{r:ρ}(hr:zH body s=iz r):
  CW P Γ pn (.loop c) (en s) (Q r):=by
 classical
 intro a w Q' hs hp hQ
 let p:Act→World→Nat→Prop:=fun a w m=> ∃s,jO body m s=iz r∧jH Γ (en s) a w∧pn.Hold a
 let μ:Act→World→Nat:=fun a w=>if h:∃m,p a w m then(zD2 h).choose else 0
 obtain⟨n,hn⟩:=zDO.1 hr;refine wp_loop (fun a w=> ∃m,p a w m) μ (by grind) ?_;intro a w cE;have hμ:μ a w=(zD2 cE).choose:=dif_pos cE;obtain⟨s,h1,h2,h3⟩:=(zD2 cE).choose_spec.1;have eH:=(zD2 cE).choose_spec.2;rw[←hμ]at h1;cases hm:μ a w with
 |zero=>grind[jO]
 |succ k=>
  rw[hm]at h1;simp only[jO]at h1;cases hb:body s with
  |none=>grind
  |some x=>
   refine h s x hb a w _ h2 h3 fun e E' a' w' hq gI cP=>?_
   cases x with
   |inl s'=>
    simp only[hb]at h1;obtain⟨rfl,hg⟩:=hq;have am:p a' w' k:=⟨s',h1,hg a' w' gI,cP⟩;refine⟨⟨k,am⟩,?_⟩;have hex':∃m,p a' w' m:=⟨k,am⟩
    grind
   |inr r'=>
    simp only[hb]at h1;have:r'=r:=by grind
    subst this;obtain⟨gf,hq⟩:=hq;have:=hQ e E' a' w' hq gI cP;cases e with
    |normal=>grind
    |_=>exact this
end
end Go.Ab

namespace Go.Ab
open Go
abbrev Nds:=List (Nat×List Nat×T)
def ROk(P:Program)(E:Env):ResultVar→(Nat×List Nat×T)→Prop
 |.tmp s,x=>x.1=s∧x.2.1=[]∧E s=iz x.2.2∧x.2.2.okTup=iB
 |.cell a T,x=>x.1=a∧x.2.1=[0]∧E a=iz (.ptr x.2.2)∧ ∃ds ti,P.underlying T=iz ds∧P.info? T=iz ti∧zFc ds= !x.2.2.single∧ti.size=x.2.2.size
def zQg(P:Program)(E:Env):List ResultVar→Nds→Prop
 | [],[]=>True
 |x::xs,y::ys=>ROk P E x y∧zQg P E xs ys
 |_,_=>False
def LOk(E:Env)(us:List T):List (Nat×T)→Prop
 | []=>True
 |(i,u')::l=>(E i=iz u'∧ ∃u,us[i]? =iz u)∧LOk E us l
def zZh(P:Program)(rs:Array ResultVar)(us res:List T)(rws:List (Nat×T)):Exit→Env→Prop:=fun e E=>
 (e=.ret∨e=.normal)∧ ∃nd:Nds,zQg P E rs.toList nd∧nd.map (·.2.2)=res∧(∀x∈nd,us.length≤x.1)∧(nd.map (·.1)).Nodup∧LOk E us rws
def zCy(v:Nat→Value)(is:List Nat):jX:=is.map fun i=>(i,v i)
def zIw:Nat→List T→List (Nat×T)
 |_,[]=>[]
 |i,u::us=>(i,u)::zIw (i+1) us
theorem zLk:∀(us:List T)(i s:Nat)(t:T),xE (zIw i us) s=iz t→i≤s∧us[s-i]? =iz t
 | [],i,s,t,h=>by simp[zIw,xE]at h
 |u::us,i,s,t,h=>by
  simp only[zIw,xE]at h;split at h
  ·rename_i e;subst e;simpa using h
  ·rename_i e
   obtain⟨h1,h2⟩:=zLk us (i+1) s t h;refine⟨by omega,?_⟩;have:s-i=(s-(i+1))+1:=by omega
   rw[this];simpa using h2
def zRW(tmps:Array Value):ResultVar→Sem Value
 |.tmp t=>pure (tmps.getD t undef)
 |.cell a t=>do loadVar t (←asAddr (tmps.getD a undef))
theorem zNi(fn:Func)(tmps:Array Value):results fn tmps=(do
  let vs ←fn.results.mapM (zRW tmps)
  pure (if h:vs.size=1 then vs[0]else .tuple vs)):=rfl
theorem vQ.get:(xs:List T)→vQ xs→ ∀(i:Nat)(x:T),xs[i]? =iz x→Top x
 | [],_,i,x,h=>by simp at h
 |y::ys,ht,i,x,h=>by
  simp only[vQ]at ht;cases i with
  |zero=>simp at h;subst h;exact ht.1
  |succ i=>exact vQ.get ys ht.2 i x (by simpa using h)
theorem LOk.get{E:Env}{us:List T}:(l:List (Nat×T))→LOk E us l→ ∀i u',(i,u')∈l→E i=iz u'∧ ∃u,us[i]? =iz u
 | [],_,_,_,h=>by simp at h
 |x::l,h,i,u',hm=>by
  rcases Jc.1 hm with rfl|hm
  ·exact h.1
  ·exact LOk.get l h.2 i u' hm
theorem yBk{P:Program}{Γ:Ctx}{E:Env}{G:Gh}{tmps:Array Value}{w:World}(g9:Rep Γ E G tmps w)(x:ResultVar)(s:Nat)(q:List Nat)(t:T)(h:ROk P E x (s,q,t)):
  (zRW tmps x).run P w=.ok (sV G s t q) w∧R Γ.St G w s t q:=by
 cases x with
 |tmp s'=>
  obtain⟨h0,bY,h1,h2⟩:=h;dsimp only at h0 bY h1 h2;subst h0 bY;obtain⟨g1,g2,_⟩:=g9.ent _ _ h1;have eh:∀xs,t≠.tup xs:=by rintro xs rfl;simp[T.okTup]at h2
  refine⟨?_,g2⟩;rw[←kP G s t [] eh];simp[zRW,Km,g1]
 |cell a T'=>
  obtain⟨h0,bY,h1,ds,ti,h2,h3,h4,h5⟩:=h;dsimp only at h0 bY h1 h4 h5;subst h0 bY;obtain⟨g1,g2,_⟩:=g9.ent _ _ h1;simp only[R]at g2;obtain⟨b,cs,e,k1,k2,k3,k4,k5,k6⟩:=g2;refine⟨?_,k6⟩;rw[xV rfl,k1]at g1;have h6:=zFO (w:=w) h2 h3 k5 h4 h5;simp[zRW,Km,g1,asAddr,h6]
theorem zFV{P:Program}{Γ:Ctx}{E:Env}{G:Gh}{tmps:Array Value}{w:World}(g9:Rep Γ E G tmps w):(rs:List ResultVar)→(nd:Nds)→zQg P E rs nd→
  (rs.mapM (zRW tmps)).run P w=.ok (nd.map fun x=>sV G x.1 x.2.2 x.2.1) w∧ ∀x∈nd,R Γ.St G w x.1 x.2.2 x.2.1
 | [],[],_=>by simp
 |x::xs,y::ys,h=>by
  obtain⟨h1,h2⟩:=zFV g9 xs ys h.2;obtain⟨h3,h4⟩:=yBk g9 x y.1 y.2.1 y.2.2 h.1;refine⟨?_,?_⟩
  ·simp[List.mapM_cons,h3,h1]
  ·intro z hz
   rcases Jc.1 hz with rfl|hz
   ·exact h4
   ·exact h2 z hz
 | [],_::_,h=>by simp[zQg]at h
 |_::_,[],h=>by simp[zQg]at h
theorem FnC.of_body{P:Program}{f:FuncId}{fn:Func}{c:Code}{us res:List T}{rws:List (Nat×T)}(hf:P.funcs[f]? =iz fn)(hb:fn.body=iz c)(hn:us.length≤fn.ntmps)(ht:vQ us)(hr:rws.all (fun x=>decide (x.1<us.length))=iB)
  (h:∀(Γ:Ctx)(v:Nat→Value),Γ.N=fn.ntmps→CW P Γ (zCy v (rws.map (·.1))) c (xE (zIw 0 us)) (zZh P fn.results us res rws)):FnC P f us res rws:=by
 intro St W w G vs cW gc gu
 let Γ:Ctx:=⟨St,W,w,fn.ntmps⟩
 let v:Nat→Value:=fun i=>vs.getD i undef
 have hm:Mem Γ G w:=⟨gu.one,gu.lb,gu.ow,gu.st,gu.fr,gu.sz,gu.bk⟩;have gw:(vs++Qj (fn.ntmps-vs.size) undef).size=fn.ntmps:=by simp;omega
 have mQ:Sim Γ (xE (zIw 0 us)) { tmps:=vs++Qj (fn.ntmps-vs.size) undef,defers:=[] } w:=by refine⟨rfl,G,gw,?_,hm⟩;intro s t hs;obtain⟨_,h2⟩:=zLk us 0 s t hs;simp only[G7]at h2;obtain⟨h3,h4⟩:=gc s t h2;have gE:s<vs.size:=(L8.1 h3).1;exact⟨by simp[Jac,gE];exact(L8.1 h3).2,h4,vQ.get us ht s t h2⟩
 have uf:(zCy v (rws.map (·.1))).Hold { tmps:=vs++Qj (fn.ntmps-vs.size) undef,defers:=[] }:=by
  intro x hx;simp only[zCy,Jt]at hx;obtain⟨i,⟨y,hy,rfl⟩,rfl⟩:=hx;have h1:=Ki.1 hr y hy;simp at h1;have h2:y.1<vs.size:=by omega
  simp[Jac,h2,v]
 refine calls_of_wp hf hb (h Γ v rfl _ _ _ (.of mQ) uf ?_)
 rintro e E' a' w' ⟨he,nd,h1,h2,h3,h4,h5⟩ ⟨S',gY,gN,G',g9⟩ hp
 obtain⟨g1,g2⟩:=zFV g9 _ _ h1;have gk:(results fn a'.tmps).run P w'=.ok (zLd G' nd) w':=by
  rw[zNi,Array.mapM_eq_mapM_toList];simp only[Sem.run_bind,Sem.run_map,g1];cases nd with
  |nil=>simp[zLd]
  |cons y ys=>
   cases ys with
   |nil=>simp[zLd]
   |cons z zs=>simp[zLd]
 have gR:Mem ⟨S',W,w,0⟩ G' w':=⟨g9.mem.one,g9.mem.lb,g9.mem.ow,g9.mem.st,g9.mem.fr,g9.mem.sz,g9.mem.bk⟩;have bw:bodyPost P fn (fun e w'=> ∃(S':Stb)(G':Gh)(nd:List (Nat×List Nat×T)),zDs St S' W w.heap.size∧e=.returned (zLd G' nd)∧Mem ⟨S',W,w,0⟩ G' w'∧nd.map (·.2.2)=res∧
   (∀x∈nd,R S' G' w' x.1 x.2.2 x.2.1∧us.length≤x.1)∧(nd.map (·.1)).Nodup∧
   ∀i u',(i,u')∈rws→R S' G' w' i u' []∧ ∃u,us[i]? =iz u∧mkV G' i u' []=mkV G i u []) .ret a' w':=by
  refine⟨gN,_,gk,S',G',nd,gY,rfl,gR,h2,fun x hx=>⟨g2 x hx,h3 x hx⟩,h4,?_⟩;intro i u' hiu;obtain⟨k1,u,k3⟩:=LOk.get _ h5 i u' hiu;obtain⟨k5,k6,_⟩:=g9.ent i u' k1;refine⟨k6,u,k3,?_⟩;have k7:=hp (i,v i) (by simp only[zCy,Jt];exact⟨i,⟨(i,u'),hiu,rfl⟩,rfl⟩);have k8:=(gc i u k3).1;rw[k5]at k7;simp[v,Km,k8]at k7;exact k7
 rcases he with rfl|rfl<;>exact bw
end Go.Ab

namespace Go.Ab
open Go
mutual
def uE:T→T
 |.sl k xs=>.ro (strip (.sl k xs))
 |.ptr t=>.ro (strip (.ptr t))
 |.agg xs=>.agg (uF xs)
 |.tup xs=>.tup (uF xs)
 |.any=>.any
 |.lit v=>.lit v
 |.ro t=>.ro t
 |.same r p=>.same r p
 |.addr r p=>.addr r p
 |.sub r p k lo hi=>.sub r p k lo hi
def uF:List T→List T
 | []=>[]
 |x::xs=>uE x::uF xs
end
mutual
theorem zRX(G:Gh)(s:Nat):(t:T)→ ∀p,vals G s (uE t) p=vals G s t p
 |.agg xs,p=>by simp only[uE,vals];exact zDd G s xs p 0
 |.sl _ _,_|.ptr _,_|.tup _,_|.any,_|.lit _,_|.ro _,_|.same _ _,_|.addr _ _,_|.sub _ _ _ _ _,_=>by simp only[uE,vals]
theorem zDd(G:Gh)(s:Nat):(xs:List T)→ ∀p j,yI G s (uF xs) p j=yI G s xs p j
 | [],_,_=>by simp only[uF]
 |x::xs,p,j=>by simp only[uF,yI,zRX G s x,zDd G s xs]
end
theorem zRY(G:Gh)(s:Nat)(t:T)(p:List Nat):sV G s (uE t) p=sV G s t p:=by cases t<;>simp only[uE,sV,zDd]
theorem zLl(G:Gh)(s:Nat):(xs:List T)→ ∀p j,jG G s (uF xs) p j=jG G s xs p j
 | [],_,_=>by simp only[uF]
 |x::xs,p,j=>by simp only[uF,jG,zRY,zLl G s xs]
theorem zVu(G:Gh)(s:Nat)(t:T)(p:List Nat):mkV G s (uE t) p=mkV G s t p:=by cases t<;>simp only[uE,mkV,zDd,zLl]
mutual
theorem zLm:(t:T)→Top t→Top (uE t)
 |.agg xs,h|.tup xs,h=>by simp only[uE,Top]at h ⊢;exact zIM xs h
 |.sl _ _,_|.ptr _,_|.any,_|.lit _,_|.ro _,_|.same _ _,_|.addr _ _,_|.sub _ _ _ _ _,_=>by simp only[uE,Top]
theorem zIM:(xs:List T)→vQ xs→vQ (uF xs)
 | [],_=>by simp only[uF,vQ]
 |x::xs,h=>by simp only[uF,vQ]at h ⊢;exact⟨zLm x h.1,zIM xs h.2⟩
end
section
variable {St Sc:Stb}{G G':Gh}{w:World}{s:Nat} (gr:∀s p,(G.hd s p).oneCell'=iB) (er:∀b x,St b=iz x→Sc b=iz x) (eC:∀b,(∃y,G.ow b=iz (s,y))→Sc b=w.heap[b]?) (gD:∀s z,G'.hd s z=G.hd s z) (f9:∀s z,G'.ad s z=G.ad s z)
 include gr er eC gD f9
mutual
theorem zWD:(t:T)→ ∀(p:List Nat),R St G w s t p→R Sc G' w s (uE t) p
 |.agg xs,p,hr|.tup xs,p,hr=>by simp only[uE,R]at hr ⊢;exact zRZ xs p 0 hr
 |.sl k xs,p,hr=>by have:=zLg gr er eC (.sl k xs) p rfl hr;simp only[uE,R,gD];exact this
 |.ptr t,p,hr=>by have:=zLg gr er eC (.ptr t) p rfl hr;simp only[uE,R,gD];exact this
 |.ro u,p,hr=>by simp only[uE,R,gD]at hr ⊢;exact sD er u _ _ hr
 |.any,_,_=>by simp only[uE,R]
 |.lit _,_,hr|.same _ _,_,hr|.sub _ _ _ _ _,_,hr=>by simp only[uE,R,gD]at hr ⊢;exact hr
 |.addr _ _,_,hr=>by simp only[uE,R,gD,f9]at hr ⊢;exact hr
theorem zRZ:(xs:List T)→ ∀(p:List Nat)(j:Nat),RF St G w s xs p j→RF Sc G' w s (uF xs) p j
 | [],_,_,_=>by have _:=gr;have _:=er;have _:=eC;have _:=gD;have _:=f9;simp only[uF,RF]
 |x::xs,p,j,hr=>by simp only[uF,RF]at hr ⊢;exact⟨zWD x _ hr.1,zRZ xs p (j+1) hr.2⟩
end
end
theorem zN.freeze{Γ:Ctx}{E:Env}(s:Nat)(t:T)(hs:E s=iz t):zN Γ E (E.app [(s,iz (uE t))] [(s,1)]):=by
 classical
 rintro a w ⟨S,hS,gN,G,g9⟩
 have hm:=g9.mem
 let own:Nat→Prop:=fun b=> ∃y,G.ow b=iz (s,y)
 let Sc:Stb:=fun b=>if own b then w.heap[b]? else S b
 let G':Gh:={ hd:=G.hd,ad:=G.ad,lb:=fun b o=>if own b then iA else G.lb b o,ow:=fun b=>if own b then iA else G.ow b }
 have fC:∀b x,S b=iz x→Sc b=iz x:=fun b x hx=>by
  have:¬own b:=by
   rintro⟨y,hy⟩
   have:=(hm.ow b _ hy).2.2;rw[show S b=iA from this]at hx;cases hx
  simp only[Sc,this,if_false];exact hx
 have aH:zDs S Sc Γ.W Γ.w0.heap.size:=⟨fC,fun b hb eR=>by
  by_cases h:own b
  ·obtain⟨y,hy⟩:=h
   exact(hm.ow b _ hy).2.1
  ·simp only[Sc,h,if_false]at eR
   exact absurd hb eR⟩
 have gu:Mem ((Γ.at S).at Sc) G' w:=by
  refine⟨hm.one,fun b o l hl=>?_,fun b l hl=>?_,fun b x hx=>?_,hm.fr,hm.sz,hm.bk⟩
  ·by_cases h:own b
   ·simp only[G',h,if_true]at hl;cases hl
   ·simp only[G',h,if_false]at hl
    have:=hm.lb b o l hl;exact⟨this.1,this.2.1,by simp only[Sc,h,if_false];exact this.2.2⟩
  ·by_cases h:own b
   ·simp only[G',h,if_true]at hl;cases hl
   ·simp only[G',h,if_false]at hl
    have:=hm.ow b l hl;exact⟨this.1,this.2.1,by simp only[Sc,h,if_false];exact this.2.2⟩
  ·by_cases h:own b
   ·simp only[Sc,h,if_true]at hx;exact hx
   ·simp only[Sc,h,if_false]at hx;exact hm.st b x hx
 have gx:qY [(s,1)] G w G' w:=by
  have dc:∀b s0 y,G.ow b=iz (s0,y)→(∀n,(s0,n)∉([(s,1)]:Chg))→ ¬own b:=by
   rintro b s0 y h1 h2 ⟨y',h3⟩
   rw[h1]at h3;simp at h3;exact h2 1 (by simp[h3.1])
  refine⟨fun _ _ _=>rfl,fun _ _ _=>rfl,fun b o f s0 p ⟨y,hy⟩ h1 h2=>?_,fun b s0 p h1 h2=>?_,fun b cs e h=>⟨cs,h,rfl⟩⟩
  ·have:=dc b s0 y hy h2
   refine⟨?_,rfl⟩;simp only[G',this,if_false];exact h1
  ·have:=dc b s0 p h1 h2
   simp only[G',this,if_false];exact h1
 obtain⟨e1,e2,e3⟩:=g9.ent s t hs;refine⟨Sc,hS.trans aH,gN,G',g9.up fC rfl gx gu (fun s0 h0=>⟨fun n hn=>?_,rfl⟩) (fun s0 t0 h0=>?_)⟩
 ·rw[sB]at h0
  simp at hn;simp[hn.1]at h0
 ·rw[sB]at h0
  split at h0
  ·rename_i he;subst he
   simp at h0;subst h0;have hR:=zWD (G':=G') hm.one fC (fun b hb=>by simp only[Sc];rw[if_pos hb]) (fun _ _=>rfl) (fun _ _=>rfl) t [] e2;refine⟨?_,hR,zLm t e3⟩;rw[e1];have h1:mkV G' s (uE t) []=mkV G s (uE t) []:=zFb _ _ _ (fun _=>rfl);rw[h1,zVu]
  ·cases h0
end Go.Ab

namespace Go.Ab
open Go
abbrev zEy:=List (Wr×Chg)
def Env.apps(E:Env)(l:zEy):Env:=l.foldl (fun E x=>E.app x.1 x.2) E
structure Stp where
 rd:List (Nat×T)
 l:zEy
def sO(wr:Wr):List Nat:=wr.map (·.1)
def Stp.slots(X:Stp):List Nat:=X.l.flatMap fun x=>sO x.1
def oOk(chg:Chg):Option T→Bool
 |none=>iB
 |some t=>t.okB chg
def zNj(chg:Chg)(wr:Wr):Bool:=wr.all fun x=>oOk chg x.2
def zQh(a b:List Nat):Bool:=a.all fun x=> !b.contains x
def zFl(a b:zEy):Bool:=a.all fun x=>b.all fun y=>zQh (sO x.1) (sO y.1)&&zNj y.2 x.1&&zNj x.2 y.1
def Stp.apart(a b:Stp):Bool:=zFl a.l b.l&&zQh a.slots (b.rd.map (·.1))&&zQh b.slots (a.rd.map (·.1))&&a.rd.all fun x=>b.l.all fun y=>x.2.okB y.2
theorem zFm{wr:Wr}{s:Nat}(h:s∉sO wr):wr.find s=iA:=by
 induction wr with
 |nil=>rfl
 |cons x wr ih=>
  simp only[sO,Js,Jc,not_or]at h;simp only[Wr.find,Ne.symm h.1,if_false];exact ih h.2
theorem zIN{wr:Wr}{s:Nat}{x:Option T}(h:wr.find s=iz x):s∈sO wr∧ ∃y∈wr,y.2=x:=by
 induction wr with
 |nil=>simp[Wr.find]at h
 |cons y wr ih=>
  simp only[Wr.find]at h;split at h
  ·rename_i e
   simp at h;exact⟨by simp[sO,e],y,by simp,h⟩
  ·obtain⟨h1,z,h2,h3⟩:=ih h
   exact⟨by simp only[sO,Js,Jc];exact .inr h1,z,by simp[h2],h3⟩
theorem zHc{a b:List Nat}(h:zQh a b=iB){s:Nat}(hs:s∈a):s∉b:=by have:=Ki.1 h s hs;simpa using this
theorem zSa(E:Env)(w1 w2:Wr)(c1 c2:Chg)(h:zQh (sO w1) (sO w2)=iB)(h1:zNj c2 w1=iB)(h2:zNj c1 w2=iB):
  (E.app w1 c1).app w2 c2=(E.app w2 c2).app w1 c1:=by
 funext s
 have ok:∀{c:Chg}{w:Wr}{s:Nat}{x:Option T},zNj c w=iB→w.find s=iz x→(match x with|some t=>if t.okB c then iz t else iA|none=>iA)=x:=by
  intro c w s x hw hf;obtain⟨_,y,hy,rfl⟩:=zIN hf;have:=Ki.1 hw y hy;cases hy2:y.2 with
  |none=>rfl
  |some t=>rw[hy2]at this;simp only[oOk]at this;simp[this]
 unfold Env.app;cases hf1:w1.find s with
 |some x=>
  have:=zFm (zHc h (zIN hf1).1);simp only[this];exact ok h1 hf1
 |none=>
  cases hf2:w2.find s with
  |some y=>simp only;exact(ok h2 hf2).symm
  |none=>
   simp only
   cases E s with
   |none=>rfl
   |some t=>by_cases k1:t.okB c1=iB<;>by_cases k2:t.okB c2=iB<;>simp[k1,k2]
theorem zD3(w:Wr)(c:Chg):∀(l:zEy)(E:Env),(∀y∈l,zQh (sO w) (sO y.1)=iB∧zNj y.2 w=iB∧zNj c y.1=iB)→(E.app w c).apps l=(E.apps l).app w c
 | [],E,_=>rfl
 |y::l,E,h=>by obtain⟨h1,h2,h3⟩:=h y (by simp);show((E.app w c).app y.1 y.2).apps l=_;rw[zSa E w y.1 c y.2 h1 h2 h3];exact zD3 w c l _ (fun z hz=>h z (by simp[hz]))
theorem zIO:∀(l1 l2:zEy)(E:Env),zFl l1 l2=iB→(E.apps l1).apps l2=(E.apps l2).apps l1
 | [],l2,E,_=>rfl
 |x::l1,l2,E,h=>by
  simp only[zFl,Jbn,J4]at h;show((E.app x.1 x.2).apps l1).apps l2=((E.apps l2).app x.1 x.2).apps l1;rw[zIO l1 l2 _ (by simp only[zFl];exact h.2),zD3 x.1 x.2 l2 E (fun y hy=>by have:=Ki.1 h.1 y hy;simp only[J4]at this;exact⟨this.1.1,this.1.2,this.2⟩)]
def runD:Env→List (Bool×Stp)→Env
 |E,[]=>E
 |E,(b,X)::l=>runD (if b then E.apps X.l else E) l
theorem kR:∀(l1 l2:List (Bool×Stp))(E:Env),runD E (l1++l2)=runD (runD E l1) l2
 | [],_,_=>rfl
 |(b,X)::l1,l2,E=>by simp only[Jy,runD];exact kR l1 l2 _
theorem zFn:∀(l:List (Bool×Stp))(X:Stp)(E:Env),(∀y∈l,y.1=iB→zFl X.l y.2.l=iB)→runD (E.apps X.l) l=(runD E l).apps X.l
 | [],_,_,_=>rfl
 |(b,Y)::l,X,E,h=>by
  simp only[runD];cases b with
  |false=>exact zFn l X E (fun y hy=>h y (by simp[hy]))
  |true=>
   have:=h (iB,Y) (by simp) rfl;simp only[if_true];rw[zIO X.l Y.l E this];exact zFn l X _ (fun y hy=>h y (by simp[hy]))
theorem zHd{s:Nat}:∀(l:zEy)(E:Env),s∉l.flatMap (fun x=>sO x.1)→ ∀t,(E.apps l) s=iz t→E s=iz t
 | [],_,_,_,h=>h
 |x::l,E,hs,t,h=>by
  simp only[Li,Jh,not_or]at hs;have:=zHd l (E.app x.1 x.2) hs.2 t h;unfold Env.app at this;rw[zFm hs.1]at this;simp only[]at this;cases he:E s with
  |none=>simp[he]at this
  |some u=>simp[he]at this;rw[this.2]
theorem zIP{s:Nat}{t:T}:∀(l:zEy)(E:Env),s∉l.flatMap (fun x=>sO x.1)→(∀y∈l,t.okB y.2=iB)→E s=iz t→(E.apps l) s=iz t
 | [],_,_,_,h=>h
 |x::l,E,hs,gB,h=>by simp only[Li,Jh,not_or]at hs;refine zIP l (E.app x.1 x.2) hs.2 (fun y hy=>gB y (by simp[hy])) ?_;unfold Env.app;rw[zFm hs.1];simp[h,gB x (by simp)]
theorem zIQ{s:Nat}:∀(l:zEy)(E1 E2:Env),(∀t,E2 s=iz t→E1 s=iz t)→ ∀t,(E2.apps l) s=iz t→(E1.apps l) s=iz t
 | [],_,_,h,t,ht=>h t ht
 |x::l,E1,E2,h,t,ht=>by
  refine zIQ l (E1.app x.1 x.2) (E2.app x.1 x.2) (fun u hu=>?_) t ht;unfold Env.app at hu ⊢
  cases hf:x.1.find s with
  |some y=>simpa[hf]using hu
  |none=>
   simp only[hf]at hu ⊢
   cases he:E2 s with
   |none=>simp[he]at hu
   |some v=>rw[h v he];simpa[he]using hu
theorem zIR{s:Nat}:∀(l:List (Bool×Stp))(E1 E2:Env),(∀y∈l,y.1=iC→s∉y.2.slots)→(∀t,E2 s=iz t→E1 s=iz t)→
  ∀t,runD E2 (l.map fun y=>(iB,y.2)) s=iz t→runD E1 l s=iz t
 | [],_,_,_,h,t,ht=>h t ht
 |(b,X)::l,E1,E2,hl,h,t,ht=>by
  simp only[Js,runD,if_true]at ht ⊢
  refine zIR l _ _ (fun y hy=>hl y (by simp[hy])) (fun u hu=>?_) t ht;cases b with
  |true=>exact zIQ X.l E1 E2 h u hu
  |false=>exact h u (zHd X.l E2 (hl (iC,X) (by simp) rfl) u hu)
theorem zIS{s:Nat}{t:T}:∀(l:List (Bool×Stp))(E:Env),(∀y∈l,y.1=iB→s∉y.2.slots∧ ∀z∈y.2.l,t.okB z.2=iB)→E s=iz t→runD E l s=iz t
 | [],_,_,h=>h
 |(b,X)::l,E,hl,h=>by
  simp only[runD];refine zIS l _ (fun y hy=>hl y (by simp[hy])) ?_;cases b with
  |false=>exact h
  |true=>obtain⟨h1,h2⟩:=hl (iB,X) (by simp) rfl;exact zIP X.l E h1 h2 h
theorem Env.Has.of{E E':Env}:{l:List (Nat×T)}→E.Has l→(∀s t,(s,t)∈l→E s=iz t→E' s=iz t)→E'.Has l
 | [],_,_=>trivial
 |(s,t)::l,h,h'=>⟨h' s t (by simp) h.1,Env.Has.of h.2 fun s t hm=>h' s t (by simp[hm])⟩
end Go.Ab

namespace Go.Ab
open Go
def zBr(o:Oper):List Nat:=(o.after.toList.filter (Region.binds .any)).map (·.on)
def zAP:Nat→List Oper→Bool
 |_,[]=>iB
 |i,o::os=>((zBr o).all fun m=>decide (m<i))&&zAP (i+1) os
def zAp(an:List (List Nat)):List (List Nat)→List Oper→Bool
 | [],_=>iB
 |_::_,[]=>iC
 |l::ls,o::os=>(l.all fun k=>(zBr o).contains k||(zBr o).any fun m=>(an.getD m []).contains k)&&zAp an ls os
def jY(Xs:List Stp):Nat→List (List Nat)→List Stp→Bool
 |_,_,[]=>iB
 |j,an,Y::Ys=>((Ji j).all fun i=>(an.headD []).contains i||match Xs[i]? with
   |some X=>X.apart Y
   |none=>iB)&&jY Xs (j+1) an.tail Ys
theorem zGt:∀(os:List Oper)(i0 j:Nat)(o:Oper),zAP i0 os=iB→os[j]? =iz o→ ∀m∈zBr o,m<i0+j
 | [],_,j,_,_,h=>by simp at h
 |x::os,i0,j,o,hf,h=>by
  simp only[zAP,J4]at hf;cases j with
  |zero=>
   grind
  |succ j=>
   intro m hm;have:=zGt os (i0+1) j o hf.2 (by grind) m hm;omega
theorem zJO(an:List (List Nat)):∀(ls:List (List Nat))(os:List Oper)(j:Nat)(l:List Nat),zAp an ls os=iB→ls[j]? =iz l→ ∃o,os[j]? =iz o∧ ∀k∈l,k∈zBr o∨ ∃m∈zBr o,k∈an.getD m []
 | [],_,j,_,_,h=>by simp at h
 |_::_,[],_,_,h,_=>by grind[zAp]
 |x::ls,o::os,j,l,ha,h=>by
  simp only[zAp,J4]at ha;cases j with
  |zero=>
   simp_all
  |succ j=>
   obtain⟨o',h1,h2⟩:=zJO an ls os j l ha.2 (by grind)
   grind
theorem zFo(Xs:List Stp):∀(Ys:List Stp)(j0:Nat)(an:List (List Nat))(j:Nat)(Y:Stp),jY Xs j0 an Ys=iB→Ys[j]? =iz Y→ ∀i X,i<j0+j→Xs[i]? =iz X→i∈an.getD j []∨X.apart Y=iB
 | [],_,_,j,_,_,h=>by simp at h
 |Z::Ys,j0,an,j,Y,hp,h=>by
  simp only[jY,J4]at hp;intro i X hi hX;cases j with
  |zero=>
   simp at h;subst h;have:=Ki.1 hp.1 i (by grind);simp only[hX,Bool.or_eq_true,Hh,decide_eq_true_eq]at this;rcases this with h|h
   ·left
    cases an with
    |nil=>simp at h
    |cons l an=>grind
   grind
  |succ j=>
   rcases zFo Xs Ys (j0+1) an.tail j Y hp.2 (by grind) i X (by omega) hX with h|h
   all_goals grind
section
variable {P:Program}{Γ:Ctx}{pn:jX}{ops:Array Oper}
def zSb(ops:Array Oper)(L:List Bool):Prop:=∀(i:Nat)(o:Oper),ops[i]? =iz o→L[i]? =iz iB→ ∀m∈zBr o,L[m]? =iz iB
theorem zHe{L:List Bool}{an:List (List Nat)}(hf:zAP 0 ops.toList=iB)(ha:zAp an an ops.toList=iB)(hc:zSb ops L):
  ∀(n i:Nat),i≤n→ ∀o,ops[i]? =iz o→(∀m∈zBr o,L[m]? =iz iB)→ ∀k∈an.getD i [],L[k]? =iz iB:=by
 intro n
 induction n with
 |zero=>
  intro i hi o ho hp k hk;have i5:i=0:=by omega
  subst i5;cases hl:an[0]? with
  |none=>grind
  |some l=>
   obtain⟨o',h1,h2⟩:=zJO an an ops.toList 0 l ha hl;rw[Kk,ho]at h1;simp at h1;subst h1;simp only[Jd0,hl,Qi]at hk;rcases h2 k hk with h|⟨m,h,_⟩
   ·grind
   ·have:=zGt ops.toList 0 0 o hf (by grind) m h
    omega
 |succ n ih=>
  intro i hi o ho hp k hk;cases hl:an[i]? with
  |none=>grind
  |some l=>
   obtain⟨o',h1,h2⟩:=zJO an an ops.toList i l ha hl;rw[Kk,ho]at h1;simp at h1;subst h1;simp only[Jd0,hl,Qi]at hk;rcases h2 k hk with h|⟨m,h,hkm⟩
   ·grind
   ·have gE:=zGt ops.toList 0 i o hf (by grind) m h
    have hLm:=hp m h;cases da:ops[m]? with
    |none=>
     grind
    |some om=>exact ih m (by omega) om da (hc m om da hLm) k hkm
theorem zIT{L:List Bool}{Xs:List Stp}{i:Nat}{b:Bool}{X:Stp}(hL:L[i]? =iz b)(hX:Xs[i]? =iz X):L.zip Xs=(L.take i).zip (Xs.take i)++(b,X)::(L.drop (i+1)).zip (Xs.drop (i+1)):=by
 have h1:L=L.take i++b::L.drop (i+1):=by obtain⟨h,rfl⟩:=Jw.1 hL;simp
 have h2:Xs=Xs.take i++X::Xs.drop (i+1):=by obtain⟨h,rfl⟩:=Jw.1 hX;simp
 grind[List.zip_cons_cons]
theorem zJP{L:List Bool}{Xs:List Stp}{y:Bool×Stp}(h:y∈L.zip Xs):∃j:Nat,L[j]? =iz y.1∧Xs[j]? =iz y.2:=by grind[Jae,List.getElem?_zip_eq_some]
def sZ:Env→List Stp→Prop
 |_,[]=>True
 |E,X::Xs=>E.Has X.rd∧sZ (E.apps X.l) Xs
theorem sZ.get:∀(Xs:List Stp)(E:Env),sZ E Xs→ ∀(i:Nat)(X:Stp),Xs[i]? =iz X→(runD E ((Xs.take i).map fun y=>(iB,y))).Has X.rd
 | [],_,_,i,_,h=>by simp at h
 |Y::Xs,E,hh,i,X,h=>by
  cases i with
  |zero=>simp at h;subst h;simpa[runD]using hh.1
  |succ i=>
   have:=sZ.get Xs _ hh.2 i X (by grind)
   grind[runD]
theorem Stp.apart_spec{a b:Stp}(h:a.apart b=iB):zFl a.l b.l=iB∧(∀s∈a.slots,s∉b.rd.map (·.1))∧(∀s∈b.slots,s∉a.rd.map (·.1))∧ ∀x∈a.rd,∀y∈b.l,x.2.okB y.2=iB:=by simp only[Stp.apart,J4]at h;refine⟨h.1.1.1,by grind[zHc],by grind[zHc],fun x hx y hy=>?_⟩;exact Ki.1 (Ki.1 h.2 x hx) y hy
mutual
theorem zOM:(t:T)→t.okB []=iB
 |.same _ _|.addr _ _|.sub _ _ _ _ _=>by rfl
 |.agg xs|.tup xs=>by simp only[T.okB];exact zLn xs
 |.any|.lit _|.ro _|.sl _ _|.ptr _=>by rfl
theorem zLn:(xs:List T)→zKM [] xs=iB
 | []=>by rfl
 |x::xs=>by simp only[zKM,zOM x,zLn xs,Kw]
end
theorem Rep.heap{E:Env}{G:Gh}{tmps:Array Value}{w w':World}(h:Rep Γ E G tmps w)(hw:w'.heap=w.heap)(ho:w'.os=w.os:=by rfl)(hq:w'.output=w.output:=by rfl):Rep Γ E G tmps w' where
 size:=h.size
 ent s t hs:=Ent.keep (chg:=[]) ⟨fun _ _ _=>rfl,fun _ _ _=>rfl,by grind[yS,World.cell?],fun _ _ _ h _=>h,fun b cs e h=>⟨cs,by grind,rfl⟩⟩ (by simp) (zOM t) (h.ent s t hs)
 mem:=by
  have hm:=h.mem;exact⟨hm.one,fun b o l hl=>by have:=hm.lb b o l hl;exact⟨by rw[hw];exact this.1,this.2⟩,fun b l hl=>by have:=hm.ow b l hl;exact⟨by rw[hw];exact this.1,this.2⟩,
   fun b x hx=>by rw[hw];exact hm.st b x hx,fun b h1 h2=>by rw[hw];exact hm.fr b h1 h2,by rw[hw];exact hm.sz,hm.bk.trans (fun b cs e hb=>⟨cs,by grind,rfl⟩) ho hq⟩
end
end Go.Ab

namespace Go.Ab
open Go
abbrev I(n:Int):T:=.lit (.int .i64 n)
abbrev B(b:Bool):T:=.lit (.bool b)
abbrev L{α:Type}(k:Nat)(f:α→T)(xs:List α):T:=.sl k (xs.map f)
theorem zT{P:Program}{t:TypeId}{ti:TypeInfo}(h:P.types[t]? =iz ti):P.info? t=iz ti:=by
 have h':=(L8.1 h).1;simp[Tables.info?,h]
 try omega
def Ok(P:Program)(Γ:Ctx)(o:Oper)(E E':Env):Prop:=∀S,wK P (Γ.at S) o E E'
section
variable {P:Program}{Γ:Ctx}{pn:jX}{ops:Array Oper}{o:Oper}{os:List Oper}{E E':Env}{Q:Exit→Env→Prop}{d:Nat}
theorem RW.op(h:Ok P Γ o E E')(k:RW P Γ pn ops os E' Q)(hg:o.guard=iA:=by rfl)(hp:pn.ok o.dst=iB:=by rfl):RW P Γ pn ops (o::os) E Q:=RW.cons (zX.op h hg) k hp
def neD(x:Operand)(d:Nat):Bool:=match x with
 |.tmp s=>s != d
 |_=>iB
theorem zEz{x:Operand}{d:Nat}(h:neD x d=iB):∀s,x=.tmp s→s≠d:=by rintro s rfl;simpa[neD]using h
theorem zBs{t:T}(h:t.okTup=iB):∀xs,t≠.tup xs:=by rintro xs rfl;simp[T.okTup]at h
abbrev mvB(Γ:Ctx)(x:Operand)(t:T)(d:Nat):Bool:=J7 d Γ.N&&t.okTup&&neD x d&&T.okB [(d,0)] (tH x t)
section
variable {x y:Operand}{t:T}{ty:TypeId}{ps:String}{af:Array Edge}{gd:Option (Nat×Bool)}
theorem yM{a b:Nat}(h:J7 a b=iB):a<b:=by simpa[Nat.blt_eq]using h
theorem zNk(hx:opT E x=iz t)(sd:mvB Γ x t d=iB):Ok P Γ ⟨iz d,.move x,ty,ps,af,gd⟩ E (E.app [(d,iz (tH x t))] [(d,0)]):=by simp only[mvB,J4]at sd;exact fun S=>zO6 x t (.inl rfl) rfl (yM sd.1.1.1) hx (zBs sd.1.1.2) (zEz sd.1.2) sd.2
theorem zVv(hx:opT E x=iz t)(sd:mvB Γ x t d=iB):Ok P Γ ⟨iz d,.assign x,ty,ps,af,gd⟩ E (E.app [(d,iz (tH x t))] [(d,0)]):=by simp only[mvB,J4]at sd;exact fun S=>zO6 x t (.inr rfl) rfl (yM sd.1.1.1) hx (zBs sd.1.1.2) (zEz sd.1.2) sd.2
def inR(n:Int):Bool:=decide (-9223372036854775808≤n)&&decide (n≤9223372036854775807)
theorem zCz{n:Int}(h:inR n=iB):IntKind.i64.wrap n=n:=by
 simp only[inR,J4,decide_eq_true_eq]at h;have hb:IntKind.i64.bits=64:=rfl;have hs:IntKind.i64.signed=iB:=rfl;simp only[IntKind.wrap,hb,hs,Bool.true_and]
 by_cases h0:0≤n
 ·have:n%2 ^ 64=n:=Kb h0 (by omega)
  rw[this];have h1:¬(n≥2 ^ (64-1)):=by omega
  simp;omega
 ·have:n%2 ^ 64=n+2 ^ 64:=by
   rw[←Uk,Kb (by omega) (by omega)]
  rw[this];have h1:(n+2 ^ 64:Int)≥2 ^ (64-1):=by omega
  simp;omega
def rng(n:Int):Option Int:=if inR n then iz n else iA
theorem zC0{n m:Int}(h:rng n=iz m):m=n∧inR n=iB:=by
 unfold rng at h;split at h
 ·simp at h;exact⟨h.symm,by assumption⟩
 ·cases h
theorem qO{m n c:Int}{xt yt:TypeId}(hv:rng (m+n)=iz c)(hx:opT E x=iz (I m))(hy:opT E y=iz (I n))(sd:J7 d Γ.N=iB):Ok P Γ ⟨iz d,.binOp .add xt x y yt,ty,ps,af,gd⟩ E (E.app [(d,iz (I c))] [(d,0)]):=by obtain⟨rfl,h⟩:=zC0 hv;exact fun S=>sN .add xt yt x y .i64 m n _ rfl rfl (yM sd) hx hy (by simp only[zJ7,zCz h])
theorem zLo{m n:Int}{xt yt:TypeId}(hx:opT E x=iz (I m))(hy:opT E y=iz (I n))(sd:J7 d Γ.N=iB):Ok P Γ ⟨iz d,.binOp .lss xt x y yt,ty,ps,af,gd⟩ E (E.app [(d,iz (B (decide (m<n))))] [(d,0)]):=
 fun _S=>sN .lss xt yt x y .i64 m n _ rfl rfl (yM sd) hx hy rfl
theorem zCd(k:Nat)(sd:J7 d Γ.N=iB):Ok P Γ ⟨iz d,.assign (.const (.slice iA 0 0)),ty,ps,af,gd⟩ E (E.app [(d,iz (.sl k []))] [(d,0)]):=
 fun _=>zKT k _ (.inr rfl) rfl rfl (yM sd)
def xH(n:Int):Option Nat:=if 0≤n∧n≤68719476736 then iz n.toNat else iA
theorem zHf{n:Int}{m:Nat}(h:xH n=iz m):n=(m:Int)∧m≤68719476736:=by
 unfold xH at h;split at h
 ·simp at h;omega
 ·cases h
class ElT (P:Program) (t:TypeId) (e:outParam TypeId) (ti:outParam TypeInfo) (k:outParam Nat) (u:outParam T):Prop where
 un:P.underlying t=iz (.slice e)
 info:P.info? e=iz ti
 zero:∃z,ti.zero=iz z∧sC u=z.cells.toList
 size:ti.size=k
 pos:0<k
 zok:u.zOk=iB
 us:u.size=k
 bytes:ti.bytes≤2048
theorem zX4{t e:TypeId}{ti:TypeInfo}{k:Nat}{u:T}{n m:Nat}{a b:Int}(ht:ElT P t e ti k u)(hn:xH a=iz n)(hx:opT E x=iz (I a))(hm:xH b=iz m)(hy:opT E y=iz (I b))(p6:n≤m)(sd:J7 d Γ.N=iB):
  Ok P Γ ⟨iz d,.makeSlice t x y,ty,ps,af,gd⟩ E (E.app [(d,iz (.sl k (J0 n u)))] [(d,0)]):=by
 obtain⟨rfl,h1⟩:=zHf hn;obtain⟨rfl,h2⟩:=zHf hm;obtain⟨z,hz,hv⟩:=ht.zero;exact fun S=>zVp t e ti z u k x y n m .i64 .i64 rfl rfl (yM sd) ht.un ht.info hz ht.size ht.pos ht.zok hv ht.us (Gm ht.bytes (by decide)) hx hy p6 h2
end
end
end Go.Ab

namespace Go.Ab
open Go
def ixO{α:Type}(xs:List α)(i:Int):Option α:=if 0≤i then xs[i.toNat]? else iA
theorem uS{α:Type}{xs:List α}{i:Int}{v:α}(h:ixO xs i=iz v):0≤i∧xs[i.toNat]? =iz v:=by
 unfold ixO at h;split at h
 ·exact⟨by assumption,h⟩
 ·cases h
def zAq:T→Bool
 |.same _ _=>iC
 |_=>iB
theorem tD{E:Env}{s r:Nat}{q:List Nat}{t u:T}(h1:E s=iz (.same r q))(h2:E r=iz t)(h3:t.get q.reverse=iz u)(h4:zAq u=iB):tS E (.tmp s)=iz (r,q,u):=by
 have hg:∀t:T,t.get []=iz t:=fun t=>by cases t<;>rfl
 cases u<;>simp[zAq]at h4<;>simp[tS,qZ,h1,h2,h3,hg]
theorem wA{E:Env}{s:Nat}{t:T}(h1:E s=iz t)(h4:zAq t=iB):tS E (.tmp s)=iz (s,[],t):=by
 have hg:∀t:T,t.get []=iz t:=fun t=>by cases t<;>rfl
 cases t<;>simp[zAq]at h4<;>simp[tS,qZ,h1,hg]
section
variable {P:Program}{Γ:Ctx}{E:Env}{d:Nat}{x y:Operand}{ty:TypeId}{ps:String}{af:Array Edge}{gd:Option (Nat×Bool)}
class zBG (P:Program) (t:TypeId) (e:outParam TypeId) (ti:outParam TypeInfo) (k:outParam Nat):Prop where
 un:P.underlying t=iz (.slice e)
 info:P.info? e=iz ti
 size:ti.size=k
theorem zFp{α:Type}{t e:TypeId}{ti:TypeInfo}{r k:Nat}{q:List Nat}{f:α→T}{xs:List α}{v:α}{i:Int}(ht:zBG P t e ti k)(hv:ixO xs i=iz v)(hx:tS E x=iz (r,q,L k f xs))(hy:opT E y=iz (I i))(sd:J7 d Γ.N=iB):
  Ok P Γ ⟨iz d,.indexAddr t x y,ty,ps,af,gd⟩ E (E.app [(d,iz (.addr r (i.toNat::q)))] [(d,0)]):=by
 obtain⟨h1,h2⟩:=uS hv;exact fun S=>zR9 x y t e ti r q k _ .i64 i rfl rfl (yM sd) ht.un ht.info ht.size hx hy h1 (by simpa using(Jw.1 h2).1)
theorem zBt{α:Type}{t e:TypeId}{ti:TypeInfo}{r k:Nat}{q:List Nat}{f:α→T}{xs:List α}{v:α}{i:Int}(ht:zBG P t e ti k)(hv:ixO xs i=iz v)(hx:tS E x=iz (r,q,.ro (L k f xs)))(hy:opT E y=iz (I i))(sd:J7 d Γ.N=iB):
  Ok P Γ ⟨iz d,.indexAddr t x y,ty,ps,af,gd⟩ E (E.app [(d,iz (.ro (.ptr (f v))))] [(d,0)]):=by
 obtain⟨h1,h2⟩:=uS hv;exact fun S=>zRA x y t e ti r q k _ .i64 i _ rfl rfl (yM sd) ht.un ht.info ht.size hx hy h1 (by simp[h2])
theorem zSc{α:Type}{t e:TypeId}{r k:Nat}{q:List Nat}{f:α→T}{xs:List α}(hu:P.underlying t=iz (.slice e))(hx:tS E x=iz (r,q,L k f xs))(sd:J7 d Γ.N=iB):
  Ok P Γ ⟨iz d,.call { callee:=.builtin .len,args:=#[x],argTypes:=#[t] },ty,ps,af,gd⟩ E (E.app [(d,iz (I xs.length))] [(d,0)]):=
 fun _=>zR8 x t _ r q (L k f xs) xs.length rfl rfl (yM sd) hu hx (by simp[zKN]) rfl
theorem zSd{α:Type}{t e:TypeId}{r k:Nat}{q:List Nat}{f:α→T}{xs:List α}(hu:P.underlying t=iz (.slice e))(hx:tS E x=iz (r,q,.ro (L k f xs)))(sd:J7 d Γ.N=iB):
  Ok P Γ ⟨iz d,.call { callee:=.builtin .len,args:=#[x],argTypes:=#[t] },ty,ps,af,gd⟩ E (E.app [(d,iz (I xs.length))] [(d,0)]):=
 fun _=>zR8 x t _ r q (.ro (L k f xs)) xs.length rfl rfl (yM sd) hu hx (by simp[zKN]) rfl
structure zVw (P:Program) (t:TypeId) (u:T):Prop where
 h:∃ds ti,P.underlying t=iz ds∧P.info? t=iz ti∧zFc ds= !u.single∧ti.size=u.size
theorem zZi{t:TypeId}{u:T}(ht:zVw P t u)(hx:opT E x=iz (.ro (.ptr u)))(sd:J7 d Γ.N=iB):Ok P Γ ⟨iz d,.load t x,ty,ps,af,gd⟩ E (E.app [(d,iz (roT u))] [(d,0)]):=by obtain⟨ds,ti,h1,h2,h3,h4⟩:=ht.h;exact fun S=>zNc x t ds ti u rfl rfl (yM sd) h1 h2 h3 h4 hx
theorem zE0{t:TypeId}{u tr:T}{r:Nat}{q:List Nat}(ht:zVw P t u)(hx:opT E x=iz (.addr r q))(hr:E r=iz tr)(hg:tr.get q.reverse=iz u)(sd:(J7 d Γ.N&&tr.locd q.reverse&&(r != d)&&T.okB [(d,0)] (cpT r u q))=iB):
  Ok P Γ ⟨iz d,.load t x,ty,ps,af,gd⟩ E (E.app [(d,iz (cpT r u q))] [(d,0)]):=by
 obtain⟨ds,ti,h1,h2,h3,h4⟩:=ht.h;simp only[J4]at sd;exact fun S=>zVo x t ds ti r q tr u rfl rfl (yM sd.1.1.1) h1 h2 h3 h4 hx hr hg sd.1.1.2 (by simpa using sd.1.2) sd.2
end
end Go.Ab

namespace Go.Ab
open Go
section
variable {P:Program}{Γ:Ctx}{E:Env}{x:Operand}{ty:TypeId}{ps:String}{af:Array Edge}{gd:Option (Nat×Bool)}
theorem yCc{t:TypeId}{ti:TypeInfo}{r s:Nat}{q:List Nat}{tr tr' u0:T}{v:Value}(hi:P.info? t=iz ti)(gw:ti.size=1)(hx:opT E x=iz (.addr r q))(hr:E r=iz tr)(hg:tr.get q.reverse=iz u0)(gv:tr.set q.reverse (.lit v)=tr')(hy:E s=iz (.lit v))
  (sd:(tr.single&&tr.locd q.reverse&&vJ (.lit v) u0&&(r != s))=iB):Ok P Γ ⟨iA,.store t x (.tmp s),ty,ps,af,gd⟩ E (E.app [(r,iz tr')] [(r,q.length)]):=by
 simp only[J4]at sd;subst gv;intro S;have:=zKX (P:=P) (Γ:=Γ.at S) (E:=E) (o:=⟨iA,.store t x (.tmp s),ty,ps,af,gd⟩) t ti x (.tmp s) r q tr u0 (.slot s (.lit v)) rfl rfl hi (by rw[gw];rfl) (by omega) hx hr sd.1.1.1 hg sd.1.1.2 sd.1.2 (.slot s _)
  ⟨fun s' t' h=>by simp at h;obtain⟨rfl,rfl⟩:=h;exact⟨hy,by simp[yD,xF],rfl⟩,fun u h=>by simp at h,by simp[xY,sW]⟩
 exact this
theorem zZj{t:TypeId}{ti:TypeInfo}{r:Nat}{q:List Nat}{tr tr' u0:T}{v:Value}(hi:P.info? t=iz ti)(gw:ti.size=1)(hx:opT E x=iz (.addr r q))(hr:E r=iz tr)(hg:tr.get q.reverse=iz u0)(gv:tr.set q.reverse (.lit v)=tr')
  (sd:(tr.single&&tr.locd q.reverse&&vJ (.lit v) u0&&(T.lit v).zOk)=iB)(hz:sC (.lit v)=v.cells.toList):Ok P Γ ⟨iA,.store t x (.const v),ty,ps,af,gd⟩ E (E.app [(r,iz tr')] [(r,q.length)]):=by
 simp only[J4]at sd;subst gv;intro S;have:=zKX (P:=P) (Γ:=Γ.at S) (E:=E) (o:=⟨iA,.store t x (.const v),ty,ps,af,gd⟩) t ti x (.const v) r q tr u0 (.zero (.lit v)) rfl rfl hi (by rw[gw];rfl) (by omega) hx hr sd.1.1.1 hg sd.1.1.2 sd.1.2 (.zero v _ hz)
  ⟨fun s' t' h=>by simp at h,fun u h=>by simp at h;subst h;exact sd.2,by simp[xY]⟩
 exact this
end
end Go.Ab

namespace Go.Ab
open Go
theorem zN.tr{Γ:Ctx}{E:Env}(d r:Nat)(u:T)(hd:E d=iz (.same r []))(hr:E r=iz u)(eA:yD u)(sd:(u.single&&xN u&&u.okB [(d,1),(r,1)]&&(d != r))=iB):
  zN Γ E (E.app [(d,iz u),(r,iz (.same d []))] [(d,1),(r,1)]):=by
 simp only[J4]at sd
 rintro a w ⟨S,hS,hs⟩
 have gf:d≠r:=by simpa using sd.2
 have hg:∀t:T,t.get []=iz t:=fun t=>by cases t<;>rfl
 have:=zNg hs d [] r [] (.same r []) u u hd rfl hr (hg u) sd.1.1.1 eA gf (by simp[T.okB,zAg]) sd.1.2 rfl sd.1.1.2;exact⟨S,hS,this⟩
theorem zDP{α:Type}{f:α→T}(hf:∀x,yD (f x)):(xs:List α)→xX (xs.map f)
 | []=>trivial
 |x::xs=>⟨hf x,zDP hf xs⟩
theorem zON{α:Type}{f:α→T}{k:Nat}{xs:List α}(hf:∀x,yD (f x)):yD (L k f xs):=by simp only[yD,xF];exact zDP hf xs
theorem zOO(n:Int):yD (I n):=by simp[yD,xF]
theorem zVx(b:Bool):yD (B b):=by simp[yD,xF]
end Go.Ab

namespace Go.Ab
open Go
section
variable {P:Program}{Γ:Ctx}{E:Env}{d:Nat}{x y:Operand}{ty:TypeId}{ps:String}{af:Array Edge}{gd:Option (Nat×Bool)}{m n c:Int}{xt yt:TypeId}
theorem zFW(hv:rng (m-n)=iz c)(hx:opT E x=iz (I m))(hy:opT E y=iz (I n))(sd:J7 d Γ.N=iB):Ok P Γ ⟨iz d,.binOp .sub xt x y yt,ty,ps,af,gd⟩ E (E.app [(d,iz (I c))] [(d,0)]):=by obtain⟨rfl,h⟩:=zC0 hv;exact fun _=>sN .sub xt yt x y .i64 m n _ rfl rfl (yM sd) hx hy (by simp only[zJ7,zCz h])
theorem zSe(hv:rng (m*n)=iz c)(hx:opT E x=iz (I m))(hy:opT E y=iz (I n))(sd:J7 d Γ.N=iB):Ok P Γ ⟨iz d,.binOp .mul xt x y yt,ty,ps,af,gd⟩ E (E.app [(d,iz (I c))] [(d,0)]):=by obtain⟨rfl,h⟩:=zC0 hv;exact fun _=>sN .mul xt yt x y .i64 m n _ rfl rfl (yM sd) hx hy (by simp only[zJ7,zCz h])
def sL(m n:Int):Option Int:=if n=0 then iA else rng (m.tdiv n)
def tT(m n:Int):Option Int:=if n=0 then iA else iz (m.tmod n)
theorem zZk(hv:sL m n=iz c)(hx:opT E x=iz (I m))(hy:opT E y=iz (I n))(sd:J7 d Γ.N=iB):Ok P Γ ⟨iz d,.binOp .quo xt x y yt,ty,ps,af,gd⟩ E (E.app [(d,iz (I c))] [(d,0)]):=by
 unfold sL at hv;split at hv
 ·cases hv
 ·rename_i h0
  obtain⟨rfl,h⟩:=zC0 hv;exact fun _=>sN .quo xt yt x y .i64 m n _ rfl rfl (yM sd) hx hy (by simp only[zJ7,h0,if_false,zCz h])
theorem zWE(hv:tT m n=iz c)(hx:opT E x=iz (I m))(hy:opT E y=iz (I n))(sd:J7 d Γ.N=iB):Ok P Γ ⟨iz d,.binOp .rem xt x y yt,ty,ps,af,gd⟩ E (E.app [(d,iz (I c))] [(d,0)]):=by
 unfold tT at hv;split at hv
 ·cases hv
 ·rename_i h0
  simp at hv;subst hv;exact fun _=>sN .rem xt yt x y .i64 m n _ rfl rfl (yM sd) hx hy (by simp only[zJ7,h0,if_false])
theorem zSf(hx:opT E x=iz (I m))(hy:opT E y=iz (I n))(sd:J7 d Γ.N=iB):Ok P Γ ⟨iz d,.binOp .leq xt x y yt,ty,ps,af,gd⟩ E (E.app [(d,iz (B (decide (m≤n))))] [(d,0)]):=
 fun _=>sN .leq xt yt x y .i64 m n _ rfl rfl (yM sd) hx hy rfl
theorem zSg(hx:opT E x=iz (I m))(hy:opT E y=iz (I n))(sd:J7 d Γ.N=iB):Ok P Γ ⟨iz d,.binOp .gtr xt x y yt,ty,ps,af,gd⟩ E (E.app [(d,iz (B (decide (m> n))))] [(d,0)]):=
 fun _=>sN .gtr xt yt x y .i64 m n _ rfl rfl (yM sd) hx hy rfl
theorem zOP(hx:opT E x=iz (I m))(hy:opT E y=iz (I n))(sd:J7 d Γ.N=iB):Ok P Γ ⟨iz d,.binOp .geq xt x y yt,ty,ps,af,gd⟩ E (E.app [(d,iz (B (decide (m≥n))))] [(d,0)]):=
 fun _=>sN .geq xt yt x y .i64 m n _ rfl rfl (yM sd) hx hy rfl
theorem zLp(hx:opT E x=iz (I m))(hy:opT E y=iz (I n))(sd:J7 d Γ.N=iB):Ok P Γ ⟨iz d,.binOp .eql xt x y yt,ty,ps,af,gd⟩ E (E.app [(d,iz (B (m==n)))] [(d,0)]):=
 fun _=>sN .eql xt yt x y .i64 m n _ rfl rfl (yM sd) hx hy rfl
theorem zOQ(hx:opT E x=iz (I m))(hy:opT E y=iz (I n))(sd:J7 d Γ.N=iB):Ok P Γ ⟨iz d,.binOp .neq xt x y yt,ty,ps,af,gd⟩ E (E.app [(d,iz (B (m != n)))] [(d,0)]):=
 fun _=>sN .neq xt yt x y .i64 m n _ rfl rfl (yM sd) hx hy rfl
theorem zOR{b:Bool}(hx:opT E x=iz (B b))(sd:J7 d Γ.N=iB):Ok P Γ ⟨iz d,.unOp .not xt x,ty,ps,af,gd⟩ E (E.app [(d,iz (B (!b)))] [(d,0)]):=
 fun _=>zXz xt x b rfl rfl (yM sd) hx
theorem zWF(hv:rng (0-n)=iz c)(hx:opT E x=iz (I n))(sd:J7 d Γ.N=iB):Ok P Γ ⟨iz d,.unOp .neg xt x,ty,ps,af,gd⟩ E (E.app [(d,iz (I c))] [(d,0)]):=by
 obtain⟨rfl,h⟩:=zC0 hv;have:=fun S=>zX0 (P:=P) (Γ:=Γ.at S) (E:=E) (o:=⟨iz d,.unOp .neg xt x,ty,ps,af,gd⟩) xt x .i64 n rfl rfl (yM sd) hx
 rw[zCz h]at this;exact this
end
end Go.Ab

namespace Go.Ab
open Go
section
variable {P:Program}{Γ:Ctx}{E:Env}{d:Nat}{x y:Operand}{ty:TypeId}{ps:String}{af:Array Edge}{gd:Option (Nat×Bool)}
class zHg (P:Program) (t:TypeId) (u:outParam T):Prop where
 h:∃ti z,P.info? t=iz ti∧ti.zero=iz z∧u.zOk=iB∧sC u=z.cells.toList∧z.cells.size=u.size
theorem zJQ{t:TypeId}{u:T}(ht:zHg P t u)(sd:J7 d Γ.N=iB):Ok P Γ ⟨iz d,.alloc t,ty,ps,af,gd⟩ E (E.app [(d,iz (.ptr u))] [(d,0)]):=by obtain⟨ti,z,h1,h2,h3,h4,h5⟩:=ht.h;exact fun S=>zRJ t ti z u rfl rfl (yM sd) h1 h2 h3 h4 h5
theorem zSh{s i:Nat}{ts:List T}{t:T}(hs:E s=iz (.tup ts))(hi:ts[i]? =iz t)(sd:(J7 d Γ.N&&t.okTup&&(s != d)&&T.okB [(d,0)] (cpT s t [i]))=iB):
  Ok P Γ ⟨iz d,.extract (.tmp s) i,ty,ps,af,gd⟩ E (E.app [(d,iz (cpT s t [i]))] [(d,0)]):=by
 simp only[J4]at sd;exact fun S=>zNd s i ts t rfl rfl (yM sd.1.1.1) hs hi (zBs sd.1.1.2) (by simpa using sd.1.2) sd.2
theorem zDQ{t:T}(hx:opT E x=iz t)(hp:zFP E x=iB)(sd:mvB Γ x t d=iB):Ok P Γ ⟨iz d,.nilCheck x,ty,ps,af,gd⟩ E (E.app [(d,iz (tH x t))] [(d,0)]):=by simp only[mvB,J4]at sd;exact fun S=>zX1 x t rfl rfl (yM sd.1.1.1) hx hp (zBs sd.1.1.2) (zEz sd.1.2) sd.2
theorem zNl{c:Operand}{b:Bool}{t:T}(hc:opT E c=iz (B b))(hx:opT E (if b then x else y)=iz t)(sd:mvB Γ (if b then x else y) t d=iB):Ok P Γ ⟨iz d,.pick c x y,ty,ps,af,gd⟩ E (E.app [(d,iz (tH (if b then x else y) t))] [(d,0)]):=by simp only[mvB,J4]at sd;exact fun S=>zVl c x y b t rfl rfl (yM sd.1.1.1) hc hx (zBs sd.1.1.2) (zEz sd.1.2) sd.2
theorem zWG{t:TypeId}{s:Nat}{u:T}(hs:E s=iz u)(hu:yD u)(sd:(J7 d Γ.N&&u.okTup&&(s != d))=iB):
  Ok P Γ ⟨iz d,.box t (.tmp s),ty,ps,af,gd⟩ E (E.app ((d,iz (.ptr u))::pWr d [.slot s u] 0) ((d,0)::sX [.slot s u])):=by
 simp only[J4]at sd;have gf:s≠d:=by simpa using sd.2
 refine fun S=>zX3 t (.tmp s) (.slot s u) rfl rfl (yM sd.1.1) (.slot s u) ⟨fun s' t' h=>by simp at h;obtain⟨rfl,rfl⟩:=h;exact⟨hs,hu,sd.1.2⟩,fun u h=>by simp at h,?_⟩
 simp only[xY];split<;>simp[Ne.symm gf]
end
end Go.Ab

namespace Go.Ab
open Go
def xI{α:Type}(xs ys:List α):Option (List α):=if xs.length+ys.length≤68719476736 then iz (xs++ys)else iA
theorem zFq{α:Type}{xs ys zs:List α}(h:xI xs ys=iz zs):zs=xs++ys∧xs.length+ys.length≤68719476736:=by
 unfold xI at h;split at h
 ·simp at h;exact⟨h.symm,by assumption⟩
 ·cases h
section
variable {P:Program}{Γ:Ctx}{E:Env}{d:Nat}{x y:Operand}{ty:TypeId}{ps:String}{af:Array Edge}{gd:Option (Nat×Bool)}
theorem ElT.zsize{t e:TypeId}{ti:TypeInfo}{k:Nat}{u:T}(h:ElT P t e ti k u):∃z,ti.zero=iz z∧z.cells.size=k:=by obtain⟨z,h1,h2⟩:=h.zero;exact⟨z,h1,by rw[←Kv,←h2,vE u h.zok,h.us]⟩
theorem zBH{α:Type}{t e:TypeId}{ti:TypeInfo}{k:Nat}{u:T}{f:α→T}{xs ys zs:List α}{s0 s1:Nat}(ht:ElT P t e ti k u)(hv:xI xs ys=iz zs)(h0:E s0=iz (L k f xs))(h1:E s1=iz (L k f ys))(sd:(J7 d Γ.N&&(s0 != d)&&(s1 != d)&&(s1 != s0))=iB):
  Ok P Γ ⟨iz d,.call { callee:=.builtin .append,args:=#[.tmp s0,.tmp s1],argTypes:=#[t,t] },ty,ps,af,gd⟩ E (E.app [(d,iz (L k f zs)),(s0,iz .any),(s1,iz .any)] [(d,0),(s0,1),(s1,1)]):=by
 obtain⟨rfl,hl⟩:=zFq hv;obtain⟨z,hz,ff⟩:=ht.zsize;simp only[J4]at sd;intro S;have:=zJH (P:=P) (Γ:=Γ.at S) (E:=E) (o:=⟨iz d,.call { callee:=.builtin .append,args:=#[.tmp s0,.tmp s1],argTypes:=#[t,t] },ty,ps,af,gd⟩) t e ti z k s0 s1 (xs.map f) (ys.map f) rfl rfl (yM sd.1.1.1) ht.un ht.info hz ht.size ht.pos ff ht.bytes h0 h1
  (by simpa using sd.1.1.2) (by simpa using sd.1.2) (by simpa using sd.2) (by simpa using hl)
 rw[←Kj]at this;exact this
theorem zIU{α:Type}{f:α→T}(hf:∀x,(f x).flat=iB):(xs:List α)→zA6 (xs.map f)=iB
 | []=>rfl
 |x::xs=>by simp only[Js,zA6,hf x,zIU hf xs,Kw]
theorem zNm{α:Type}{t e:TypeId}{ti:TypeInfo}{k r:Nat}{q:List Nat}{u:T}{f:α→T}{xs ys zs:List α}{s0:Nat}(ht:ElT P t e ti k u)(hf:∀x,(f x).flat=iB)(hv:xI xs ys=iz zs)(h0:E s0=iz (L k f xs))(h1:tS E y=iz (r,q,L k f ys))(sd:(J7 d Γ.N&&(s0 != d))=iB):
  Ok P Γ ⟨iz d,.call { callee:=.builtin .append,args:=#[.tmp s0,y],argTypes:=#[t,t] },ty,ps,af,gd⟩ E (E.app [(d,iz (L k f zs)),(s0,iz .any)] [(d,0),(s0,1)]):=by
 obtain⟨rfl,hl⟩:=zFq hv;obtain⟨z,hz,ff⟩:=ht.zsize;simp only[J4]at sd;intro S;have:=zJI (P:=P) (Γ:=Γ.at S) (E:=E) (o:=⟨iz d,.call { callee:=.builtin .append,args:=#[.tmp s0,y],argTypes:=#[t,t] },ty,ps,af,gd⟩) t e ti z k s0 y r q (xs.map f) (ys.map f) rfl rfl (yM sd.1) ht.un ht.info hz ht.size ht.pos ff ht.bytes h0 h1 (zIU hf ys)
  (by simpa using sd.2) (by simpa using hl)
 rw[←Kj]at this;exact this
end
end Go.Ab

namespace Go.Ab
open Go
abbrev IK(k:IntKind)(n:Int):T:=.lit (.int k n)
abbrev Str(s:ByteArray):T:=.lit (.string s)
abbrev Pt{α:Type}(f:α→T)(x:α):T:=.ptr (f x)
abbrev Ro{α:Type}(f:α→T)(x:α):T:=.ro (f x)
abbrev A2{α:Type}(f:α→T)(x:α×α):T:=.agg [f x.1,f x.2]
theorem bd{α β:Type}{o:Option α}{f:α→Option β}{r:β}(h:o.bind f=iz r):∃v,o=iz v∧f v=iz r:=by
 cases o with
 |none=>simp at h
 |some v=>grind
theorem cT{α:Type}{b:Bool}{x y:α}{z:α}(hc:b=iB)(h:cond b x y=z):x=z:=by grind
theorem cF{α:Type}{b:Bool}{x y:α}{z:α}(hc:b=iC)(h:cond b x y=z):y=z:=by grind
theorem sI{α:Type}{x y:α}(h:iz x=iz y):x=y:=Ld.inj h
section
variable {P:Program}{Γ:Ctx}{pn:jX}{E E':Env}{Q:Exit→Env→Prop}{c:Code}{id id':Nat}
theorem nA(h:CW P Γ pn c E Q):wN P Γ pn c Q .normal E:=h
theorem xA(h:Q (.exit id) E):wN P Γ pn c Q (.exit id) E:=h
theorem rA(h:Q .ret E):wN P Γ pn c Q .ret E:=h
theorem nB(h:Q .normal E):wP id Q .normal E:=h
theorem rB(h:Q .ret E):wP id Q .ret E:=h
theorem xB(h:Q .normal E):wP id Q (.exit id) E:=by simp only[wP,if_true];exact h
theorem neX:Exit.exit id≠.normal:=by simp
theorem neR:Exit.ret≠.normal:=by simp
theorem RW.cases{ops:Array Oper}{os:List Oper}(s:Nat)(b:Bool)(hb:E s=iz (B b))(ht:b=iB→RW P Γ pn ops os (E.app [(s,iz (B iB))] []) Q)(hf:b=iC→RW P Γ pn ops os (E.app [(s,iz (B iC))] []) Q):RW P Γ pn ops os E Q:=by
 have key:∀c:Bool,b=c→zN Γ E (E.app [(s,iz (B c))] []):=by
  rintro c rfl a w hs
  refine hs.weaken fun s' t h=>?_
  by_cases e:s=s'
  ·grind[Env.app,Wr.find]
  ·simp only[Env.app,Wr.find,e,if_false]at h
   grind
 cases hc:b with
 |true=>grind[ghost]
 |false=>grind[ghost]
end
theorem zQ{α:Type}{k:Nat}{f:α→T}{xs:List α}{i:Int}{v:α}{p:List Nat}{u:T}(h:ixO xs i=iz v)(hr:(f v).get p=iz u):(L k f xs).get (i.toNat::p)=iz u:=by simp[T.get,(uS h).2,hr]
theorem yZ{t u:T}{p:List Nat}(h:t.get p=iz u):(T.ptr t).get (0::p)=iz u:=h
theorem yU{xs:List T}{x u:T}{j:Nat}{p:List Nat}(hj:xs[j]? =iz x)(h:x.get p=iz u):(T.agg xs).get (j::p)=iz u:=by grind[T.get]
theorem zAc{α:Type}{k:Nat}{f:α→T}{xs:List α}{i:Int}{v w:α}{p:List Nat}{u:T}(h:ixO xs i=iz v)(hr:(f v).set p u=f w):(L k f xs).set (i.toNat::p) u=L k f (xs.set i.toNat w):=by simp[L,T.set,(uS h).2,hr,Jb2]
theorem zBb{t u t':T}{p:List Nat}(h:t.set p u=t'):(T.ptr t).set (0::p) u=T.ptr t':=by simp[T.set,h]
theorem zFr{xs:List T}{x u x':T}{j:Nat}{p:List Nat}(hj:xs[j]? =iz x)(h:x.set p u=x'):(T.agg xs).set (j::p) u=.agg (xs.set j x'):=by grind[T.set]
class Enc {α:Type} (f:α→T):Prop where
 clean:∀x,yD (f x)
 rofree:∀x,wZ (f x)=iB
 strip:∀x,strip (f x)=f x
 okTup:∀x,(f x).okTup=iB
 rook:∀x,zFi (f x)=iB
theorem zHh{α:Type}{f:α→T}(h:∀x,wZ (f x)=iB):(xs:List α)→uL (xs.map f)=iB
 | []=>rfl
 |x::xs=>by simp only[Js,uL,h x,zHh h xs,Kw]
theorem zHi{α:Type}{f:α→T}(h:∀x,zFi (f x)=iB):(xs:List α)→zBo (xs.map f)=iB
 | []=>rfl
 |x::xs=>by simp only[Js,zBo,h x,zHi h xs,Kw]
theorem sH{α:Type}{f g:α→T}(h:∀x,strip (f x)=g x):(xs:List α)→wV (xs.map f)=xs.map g
 | []=>rfl
 |x::xs=>by simp only[Js,wV,h x,sH h xs]
instance:Enc I:=⟨zOO,fun _=>rfl,fun _=>rfl,fun _=>rfl,fun _=>rfl⟩
instance:Enc B:=⟨zVx,fun _=>rfl,fun _=>rfl,fun _=>rfl,fun _=>rfl⟩
instance{k:IntKind}:Enc (IK k):=⟨fun _=>by simp[yD,xF],fun _=>rfl,fun _=>rfl,fun _=>rfl,fun _=>rfl⟩
instance:Enc Str:=⟨fun _=>by simp[yD,xF],fun _=>rfl,fun _=>rfl,fun _=>rfl,fun _=>rfl⟩
instance{α:Type}{k:Nat}{f:α→T}[h:Enc f]:Enc (L k f):=
 ⟨fun _=>zON h.clean,fun xs=>by simp only[wZ];exact zHh h.rofree xs,fun xs=>by simp only[L,strip,sH h.strip xs],fun _=>rfl,fun xs=>by simp only[zFi,zHi h.rook xs]⟩
instance{α:Type}{f:α→T}[h:Enc f]:Enc (A2 f):=
 ⟨fun x=>by simp only[yD,xF,wC];exact⟨h.clean _,h.clean _,trivial⟩,fun x=>by simp only[wZ,uL,h.rofree,Kw],fun x=>by simp only[A2,strip,wV,h.strip],
  fun x=>by simp only[T.okTup,yV,h.okTup,Kw],fun x=>by simp only[zFi,zBo,h.rook,Kw]⟩
instance{α:Type}{f:α→T}[h:Enc f]:Enc (Pt f):=
 ⟨fun x=>by simp only[yD,xF];exact h.clean x,fun x=>by simp only[wZ,h.rofree],fun x=>by simp only[Pt,strip,h.strip],fun _=>rfl,fun x=>by simp only[zFi,h.rook]⟩
class uU {α:Type} (f g:α→T):Prop where
 h:∀x,strip (f x)=g x
instance{α:Type}{f:α→T}[h:Enc f]:uU f f:=⟨h.strip⟩
instance{α:Type}{k:Nat}{f g:α→T}[h:uU f g]:uU (L k f) (L k g):=⟨fun xs=>by simp only[L,strip,sH h.h xs]⟩
instance{α:Type}{k:Nat}{g:α→T}:uU (Ro (L k g)) (L k g):=⟨fun _=>rfl⟩
instance{α:Type}{g:α→T}:uU (Ro (Pt g)) (Pt g):=⟨fun _=>rfl⟩
theorem stA{xs ys:List T}(h:wV xs=ys):strip (.agg xs)=.agg ys:=by grind[strip]
theorem stC{x y:T}{xs ys:List T}(h:strip x=y)(h2:wV xs=ys):wV (x::xs)=y::ys:=by grind[wV]
section
variable {E:Env}{rw:Rw}{i s r:Nat}{q:List Nat}{x:Operand}
theorem jZ{α:Type}{k:Nat}{f g:α→T}{xs:List α}(h:uU f g):clo E (L k f xs)=.ro (L k g xs):=by simp only[clo,L,strip,sH h.h xs]
theorem zSi{t u:T}(h:strip t=u):clo E (.ptr t)=.ro (.ptr u):=by grind[clo,strip]
theorem zDe{tr u:T}(hr:E r=iz tr)(hg:tr.get q.reverse=iz u)(h4:zAq u=iB):qZ E 4 r q=iz (r,q,u):=by grind[zAq,qZ]
theorem vW{α:Type}{k:Nat}{f g:α→T}{xs:List α}{tr:T}(hr:E r=iz tr)(hg:tr.get q.reverse=iz (L k f xs))(h:uU f g):clo E (.same r q)=.ro (L k g xs):=by simp only[clo,zDe hr hg rfl,T.single,if_true,L,strip,sH h.h xs]
theorem zZl{t u tr:T}(hr:E r=iz tr)(hg:tr.get q.reverse=iz (.ptr t))(h:strip t=u):clo E (.same r q)=.ro (.ptr u):=by simp only[clo,zDe hr hg rfl,T.single,if_true,strip,h]
theorem zX5{α:Type}{k l h:Nat}{f g:α→T}{xs:List α}{tr:T}(hr:E r=iz tr)(hg:tr.get q.reverse=iz (L k f xs))(hs:uU f g)(h1:l≤h)(h2:h≤xs.length):clo E (.sub r q k l h)=.ro (L k g ((xs.drop l).take (h-l))):=by simp only[clo,zDe hr hg rfl,L,sH hs.h xs,Je,h1,h2,and_self,if_true,Jcz,Jbk]
theorem kA{xs ys:List T}(h:zBq E xs=ys):clo E (.agg xs)=.agg ys:=by grind[clo]
theorem kB:zBq E []=[]:=rfl
theorem wS{x y:T}{xs ys:List T}(h:clo E x=y)(h2:zBq E xs=ys):zBq E (x::xs)=y::ys:=by grind[zBq]
mutual
theorem zIV(s:Nat):(t:T)→t.okTup=iB→qH E [] s t=iB
 |.agg xs,h=>by simp only[qH,T.okTup]at h ⊢;exact zHj s xs h
 |.tup _,h=>by grind[T.okTup]
 |.same r q,_|.sub r q _ _ _,_=>by grind[qH]
 |.sl _ _,_|.ptr _,_=>by rfl
 |.lit _,_|.ro _,_|.any,_|.addr _ _,_=>by rfl
theorem zHj(s:Nat):(xs:List T)→yV xs=iB→zA7 E [] s xs=iB
 | [],_=>rfl
 |x::xs,h=>by simp only[yV,J4]at h;simp only[zA7,zIV s x h.1,zHj s xs h.2,Kw]
end
theorem agC{u:T}(t:T)(h:opT E x=iz t)(h1:clo E t=u)(h2:t.okTup=iB):zCc E [] i x u:=.inr ⟨t,h,h1,by
 cases x with
 |tmp s=>exact zIV s t h2
 |_=>rfl⟩
end
section
variable {P:Program}{Γ:Ctx}{E:Env}{d:Nat}{x y:Operand}{ty:TypeId}{ps:String}{af:Array Edge}{gd:Option (Nat×Bool)}
abbrev kS(res:List T):Prop:=xX res∧yV res=iB∧uL res=iB
theorem uI:kS []:=⟨trivial,rfl,rfl⟩
theorem tE{α:Type}{f:α→T}{x:α}{ts:List T}(h:Enc f)(h2:kS ts):kS (f x::ts):=
 ⟨⟨h.clean x,h2.1⟩,by simp only[yV,h.okTup,h2.2.1,Kw],by simp only[uL,h.rofree,h2.2.2,Kw]⟩
abbrev zA8(P:Program)(f:FuncId):Prop:=∀args w,(callFunc f args).run P w=.ok (.enter f args) w
theorem vB{f:FuncId}{xs:List Operand}{ats:Array TypeId}{us res:List T}(gp:zA8 P f)(hc:FnC P f us res [])(gc:wB E [] 0 xs us)(gk:kS res)(sd:J7 d Γ.N=iB):
  Ok P Γ ⟨iz d,.call { callee:=.value (.func f),args:=xs.toArray,argTypes:=ats },ty,ps,af,gd⟩ E (E.app (cWr d res []) (uD d [])):=
 fun _S=>zJM f (.func f) xs ats us res [] rfl rfl (yM sd) gp rfl hc gc .nil gk
theorem zVy{f:FuncId}{xs:List Operand}{ats:Array TypeId}{us res:List T}(gp:zA8 P f)(hc:FnC P f us res [])(gj:xs.length=us.length)(gc:∀(i:Nat) u,us[i]? =iz u→ ∃x,xs[i]? =iz x∧opT E x=iz u∧u.flat=iB)(gk:xX res∧yV res=iB)(sd:J7 d Γ.N=iB):
  Ok P Γ ⟨iz d,.call { callee:=.value (.func f),args:=xs.toArray,argTypes:=ats },ty,ps,af,gd⟩ E (E.app (cWr d res []) (uD d [])):=
 fun _S=>zRV f (.func f) xs ats us res rfl rfl (yM sd) gp rfl hc gj gc gk
class qK (P:Program) (S:TypeId) (j:Nat) (off:outParam Nat):Prop where
 h:∃fs f fi,P.underlying S=iz (.struct fs)∧fs[j]? =iz f∧P.info? f.type=iz fi∧fi.size≠0∧off=f.offset
theorem zX6{S:TypeId}{j off r:Nat}{q:List Nat}{xs:List T}{u:T}(ht:qK P S j off)(hx:tS E x=iz (r,q,.ptr (.agg xs)))(hu:xs[j]? =iz u)(gF:T.sizes (xs.take j)=off)(sd:J7 d Γ.N=iB):
  Ok P Γ ⟨iz d,.fieldAddr S x j,ty,ps,af,gd⟩ E (E.app [(d,iz (.addr r (j::0::q)))] [(d,0)]):=by
 obtain⟨fs,f,fi,h1,h2,h3,h4,h5⟩:=ht.h;exact fun _=>zZe x S fs f fi j r q xs u rfl rfl (yM sd) h1 h2 h3 h4 hx hu (by omega)
theorem zCe{S:TypeId}{j off r:Nat}{q:List Nat}{t:T}{xs:List T}{u:T}(ht:qK P S j off)(hx:opT E x=iz (.addr r q))(hr:E r=iz t)(hg:t.get q.reverse=iz (.agg xs))(hu:xs[j]? =iz u)(gF:T.sizes (xs.take j)=off)(sd:(J7 d Γ.N&&t.locd q.reverse)=iB):
  Ok P Γ ⟨iz d,.fieldAddr S x j,ty,ps,af,gd⟩ E (E.app [(d,iz (.addr r (j::q)))] [(d,0)]):=by
 obtain⟨fs,f,fi,h1,h2,h3,h4,h5⟩:=ht.h;simp only[J4]at sd;exact fun _=>zNa x S fs f fi j r q t xs u rfl rfl (yM sd.1) h1 h2 h3 h4 hx hr hg sd.2 hu (by omega)
theorem zSj{S:TypeId}{j off:Nat}{xs:List T}{u:T}(ht:qK P S j off)(hx:opT E x=iz (.ro (.ptr (.agg xs))))(hu:xs[j]? =iz u)(gF:T.sizes (xs.take j)=off)(sd:J7 d Γ.N=iB):
  Ok P Γ ⟨iz d,.fieldAddr S x j,ty,ps,af,gd⟩ E (E.app [(d,iz (.ro (.ptr u)))] [(d,0)]):=by
 obtain⟨fs,f,fi,h1,h2,h3,h4,h5⟩:=ht.h;exact fun _=>zRB x S fs f fi j xs u rfl rfl (yM sd) h1 h2 h3 h4 hx hu (by omega)
def yB{α:Type}(xs:List α)(l h:Int):Option (List α):=if 0≤l∧l≤h∧h≤(xs.length:Int)then iz ((xs.drop l.toNat).take (h.toNat-l.toNat))else iA
theorem zC1{α:Type}{t e:TypeId}{ti:TypeInfo}{r k:Nat}{q:List Nat}{f:α→T}{xs ys:List α}{lo hi:Option Operand}{l h:Int}(ht:zBG P t e ti k)(hv:yB xs l h=iz ys)(hx:tS E x=iz (r,q,.ro (L k f xs)))(ex:zBD E lo 0 l.toNat)(fw:zBD E hi xs.length h.toNat)(sd:J7 d Γ.N=iB):
  Ok P Γ ⟨iz d,.slice t x lo hi iA,ty,ps,af,gd⟩ E (E.app [(d,iz (.ro (L k f ys)))] [(d,0)]):=by
 unfold yB at hv;split at hv
 ·rename_i hc
  simp at hv;subst hv;intro S;have:=zKR (P:=P) (Γ:=Γ.at S) (E:=E) (o:=⟨iz d,.slice t x lo hi iA,ty,ps,af,gd⟩) x lo hi t e ti r q k (xs.map f) l.toNat h.toNat rfl rfl (yM sd) ht.un ht.info ht.size hx ex (by grind) (by omega) (by simp;omega);simpa[L,Jcz,Jbk]using this
 ·cases hv
theorem zSk{α:Type}{t e:TypeId}{ti:TypeInfo}{r k:Nat}{q:List Nat}{f:α→T}{xs ys:List α}{lo hi:Option Operand}{l h:Int}(ht:zBG P t e ti k)(hv:yB xs l h=iz ys)(hx:tS E x=iz (r,q,L k f xs))(ex:zBD E lo 0 l.toNat)(fw:zBD E hi xs.length h.toNat)(sd:(J7 d Γ.N&&(r != d))=iB):
  Ok P Γ ⟨iz d,.slice t x lo hi iA,ty,ps,af,gd⟩ E (E.app [(d,iz (.sub r q k l.toNat h.toNat))] [(d,0)]):=by
 unfold yB at hv;simp only[J4]at sd;split at hv
 ·rename_i hc
  intro S;exact zJ9 (P:=P) (Γ:=Γ.at S) (E:=E) (o:=⟨iz d,.slice t x lo hi iA,ty,ps,af,gd⟩) x lo hi t e ti r q k (xs.map f) l.toNat h.toNat rfl rfl (yM sd.1) ht.un ht.info ht.size hx ex (by grind) (by omega) (by simp;omega) (by grind)
 ·cases hv
end
end Go.Ab

namespace Go.Ab
open Go
theorem zB{t:T}(h:yD t):yD t:=h
theorem zI{α:Type}{f:α→T}{k:Nat}{xs:List α}(hf:∀x,yD (f x)):yD (L k f xs):=zON hf
theorem wF{t:T}(h:yD t):yD (.ptr t):=by simpa only[yD,xF]using h
theorem yL{xs:List T}(h:xX xs):yD (.agg xs):=by simpa only[yD,xF]using h
section
variable {P:Program}{Γ:Ctx}{pn:jX}{E E':Env}{Q:Exit→Env→Prop}{c c1 c2:Code}{x:Operand}
theorem CW.condT(hx:opT E x=iz (B iB))(h:CW P Γ pn c1 E Q):CW P Γ pn (.cond x c1 c2) E Q:=by grind[CW.cond]
theorem CW.condF(hx:opT E x=iz (B iC))(h:CW P Γ pn c2 E Q):CW P Γ pn (.cond x c1 c2) E Q:=by grind[CW.cond]
theorem CW.casesB(b:Bool)(ht:b=iB→CW P Γ pn c E Q)(hf:b=iC→CW P Γ pn c E Q):CW P Γ pn c E Q:=by grind
theorem uA{wr:Wr}{chg:Chg}{s:Nat}{t:T}(h:E s=iz t)(hf:wr.find s=iA:=by rfl)(hb:t.okB chg=iB:=by rfl):E.app wr chg s=iz t:=by grind[Env.app]
theorem zX.gh{ops:Array Oper}{o:Oper}{E1:Env}(hg:zN Γ E E1)(h:zX P Γ ops o E1 E'):zX P Γ ops o E E':=fun a w K Q hs hK=>h a w K Q (hg a w hs) hK
theorem zHk{t:T}(h:opT E x=iz (.ro (.ptr t))):zFP E x=iB:=by simp[zFP,h]
theorem zIW{r:Nat}{q:List Nat}{t:T}(h:tS E x=iz (r,q,.ptr t)):zFP E x=iB:=by grind[zFP]
end
theorem zLq{E:Env}{n:Nat}:zBD E iA n (n:Int).toNat:=by simp[zBD]
theorem zOS{E:Env}:zBD E iA 0 (0:Int).toNat:=by simp[zBD]
theorem zE1{E:Env}{x:Operand}{n:Int}{d:Nat}(h0:0≤n)(h:opT E x=iz (I n)):zBD E (iz x) d n.toNat:=⟨.i64,by grind⟩
theorem sY{α:Type}{xs ys:List α}{l h:Int}(hv:yB xs l h=iz ys):0≤l∧l≤h∧h≤xs.length∧ys=(xs.drop l.toNat).take (h.toNat-l.toNat):=by grind[yB]
theorem qA{α:Type}{xs ys:List α}{l h:Int}(hv:yB xs l h=iz ys):0≤l:=(sY hv).1
theorem zAx{α:Type}{xs ys:List α}{l h:Int}(hv:yB xs l h=iz ys):0≤h:=by have:=sY hv;omega
theorem zVz{E:Env}{r k:Nat}{q:List Nat}{α:Type}{l h:Int}{f g:α→T}{xs ys:List α}{tr:T}(hr:E r=iz tr)(hg:tr.get q.reverse=iz (L k f xs))(hs:uU f g)(hv:yB xs l h=iz ys):
  clo E (.sub r q k l.toNat h.toNat)=.ro (L k g ys):=by
 obtain⟨h1,h2,h3,rfl⟩:=sY hv
 grind[zX5]
section
variable {P:Program}{Γ:Ctx}{E E':Env}{d:Nat}{x y:Operand}{ty:TypeId}{ps:String}{af:Array Edge}{gd:Option (Nat×Bool)}
theorem zFs{o:Oper}{e b:Bool}{d:Nat}{wr:Wr}{chg:Chg}(he:e=b)(h:Ok P Γ o E (E.app ((d,iz (B e))::wr) chg)):Ok P Γ o E (E.app ((d,iz (B b))::wr) chg):=he▸h
theorem zZm{t:TypeId}{u tr t0:T}{r:Nat}{q:List Nat}(ht:zVw P t u)(hx:tS E x=iz (r,q,.ptr t0))(hr:E r=iz tr)(hg:tr.get (0::q).reverse=iz u)(sd:(J7 d Γ.N&&tr.locd (0::q).reverse&&(r != d)&&T.okB [(d,0)] (cpT r u (0::q)))=iB):
  Ok P Γ ⟨iz d,.load t x,ty,ps,af,gd⟩ E (E.app [(d,iz (cpT r u (0::q)))] [(d,0)]):=by
 obtain⟨ds,ti,h1,h2,h3,h4⟩:=ht.h;simp only[J4]at sd;exact fun S=>zKO x t ds ti r (0::q) tr u rfl rfl (yM sd.1.1.1) h1 h2 h3 h4 (zAN.ptr hx) hr hg sd.1.1.2 (by grind) sd.2
theorem zWH{t:TypeId}{ti:TypeInfo}{r s:Nat}{q:List Nat}{tr tr' u0 u:T}(hi:P.info? t=iz ti)(gw:(ti.size==u.size&&J7 0 ti.size)=iB)(hx:∀S,zAN (Γ.at S) E x r q)(hr:E r=iz tr)(hg:tr.get q.reverse=iz u0)(gv:tr.set q.reverse u=tr')(hy:E s=iz u)(hu:yD u)
  (sd:(tr.single&&tr.locd q.reverse&&vJ u u0&&(r != s)&&u.okTup)=iB):Ok P Γ ⟨iA,.store t x (.tmp s),ty,ps,af,gd⟩ E (E.app ((r,iz tr')::sWr r q (.slot s u)) ((r,q.length)::sX [.slot s u])):=by
 simp only[J4]at sd gw;subst gv;intro S;refine zFh (P:=P) (Γ:=Γ.at S) (E:=E) (o:=⟨iA,.store t x (.tmp s),ty,ps,af,gd⟩) t ti x (.tmp s) r q tr u0 (.slot s u) rfl rfl hi (by grind[yW.tree]) (yM gw.2) (hx S) hr sd.1.1.1.1 hg sd.1.1.1.2 sd.1.1.2 (.slot s _)
  ⟨by grind,by simp,?_⟩
 grind[xY]
theorem zFt{t:TypeId}{ti:TypeInfo}{r s:Nat}{q:List Nat}{tr tr' u0 u:T}(hi:P.info? t=iz ti)(gw:(ti.size==u.size&&J7 0 ti.size)=iB)(hx:opT E x=iz (.addr r q))(hr:E r=iz tr)(hg:tr.get q.reverse=iz u0)(gv:tr.set q.reverse u=tr')(hy:E s=iz u)(hu:yD u)
  (sd:(tr.single&&tr.locd q.reverse&&vJ u u0&&(r != s)&&u.okTup)=iB):Ok P Γ ⟨iA,.store t x (.tmp s),ty,ps,af,gd⟩ E (E.app ((r,iz tr')::sWr r q (.slot s u)) ((r,q.length)::sX [.slot s u])):=
 zWH hi gw (fun _=>zAN.addr hx) hr hg gv hy hu sd
theorem vR{t:TypeId}{ti:TypeInfo}{r s:Nat}{q:List Nat}{tr tr' u0 u t0:T}(hi:P.info? t=iz ti)(gw:(ti.size==u.size&&J7 0 ti.size)=iB)(hx:tS E x=iz (r,q,.ptr t0))(hr:E r=iz tr)(hg:tr.get (0::q).reverse=iz u0)(gv:tr.set (0::q).reverse u=tr')(hy:E s=iz u)(hu:yD u)
  (sd:(tr.single&&tr.locd (0::q).reverse&&vJ u u0&&(r != s)&&u.okTup)=iB):Ok P Γ ⟨iA,.store t x (.tmp s),ty,ps,af,gd⟩ E (E.app ((r,iz tr')::sWr r (0::q) (.slot s u)) ((r,(0::q).length)::sX [.slot s u])):=
 zWH hi gw (fun _=>zAN.ptr hx) hr hg gv hy hu sd
theorem zX7{t:TypeId}{ti:TypeInfo}{r:Nat}{q:List Nat}{tr tr' u0 u:T}{v:Value}(hi:P.info? t=iz ti)(gw:(ti.size==u.size&&J7 0 ti.size)=iB)(hx:∀S,zAN (Γ.at S) E x r q)(hr:E r=iz tr)(hg:tr.get q.reverse=iz u0)(gv:tr.set q.reverse u=tr')
  (sd:(tr.single&&tr.locd q.reverse&&vJ u u0&&u.zOk)=iB)(hz:sC u=v.cells.toList):Ok P Γ ⟨iA,.store t x (.const v),ty,ps,af,gd⟩ E (E.app [(r,iz tr')] [(r,q.length)]):=by
 simp only[J4]at sd gw;subst gv;intro S;have:=zFh (P:=P) (Γ:=Γ.at S) (E:=E) (o:=⟨iA,.store t x (.const v),ty,ps,af,gd⟩) t ti x (.const v) r q tr u0 (.zero u) rfl rfl hi (by grind[yW.tree]) (yM gw.2) (hx S) hr sd.1.1.1 hg sd.1.1.2 sd.1.2 (.zero v _ hz)
  ⟨by simp,by grind,by simp[xY]⟩
 exact this
theorem zHl{t:TypeId}{ti:TypeInfo}{r:Nat}{q:List Nat}{tr tr' u0 u:T}{v:Value}(hi:P.info? t=iz ti)(gw:(ti.size==u.size&&J7 0 ti.size)=iB)(hx:opT E x=iz (.addr r q))(hr:E r=iz tr)(hg:tr.get q.reverse=iz u0)(gv:tr.set q.reverse u=tr')
  (sd:(tr.single&&tr.locd q.reverse&&vJ u u0&&u.zOk)=iB)(hz:sC u=v.cells.toList):Ok P Γ ⟨iA,.store t x (.const v),ty,ps,af,gd⟩ E (E.app [(r,iz tr')] [(r,q.length)]):=
 by grind[zX7,zAN.addr]
theorem zHm{G:Gh}{s:Nat}:(xs:List T)→yV xs=iB→ ∀(p:List Nat)(i j:Nat)(u:T),xs[j]? =iz u→ ∃l1 l2,yI G s xs p i=l1++vals G s u ((i+j)::p)++l2∧l1.length=T.sizes (xs.take j)
 | [],_,_,_,_,_,h=>by simp at h
 |x::xs,ht,p,i,j,u,h=>by
  simp only[yV,J4]at ht;cases j with
  |zero=>simp at h;subst h;exact⟨[],yI G s xs p (i+1),by rfl,by rfl⟩
  |succ j=>
   obtain⟨l1,l2,h1,h2⟩:=zHm xs ht.2 p (i+1) j u (by grind);refine⟨vals G s x (i::p)++l1,l2,by rw[yI,h1,show i+(j+1)=i+1+j from by omega];simp,?_⟩;rw[J5,vH x _ (by rintro ys rfl;grind[T.okTup]),h2,Ku,T.sizes]
theorem zZn{S:TypeId}{j off s:Nat}{xs:List T}{u:T}(ht:qK P S j off)(hv:∃ds ti fs f,P.underlying S=iz (.struct fs)∧fs[j]? =iz f∧P.underlying f.type=iz ds∧P.info? f.type=iz ti∧zFc ds= !u.single∧ti.size=u.size)(hx:E s=iz (.agg xs))(hu:xs[j]? =iz u)(gF:T.sizes (xs.take j)=off)
  (sd:(J7 d Γ.N&&yV xs&&u.okTup&&(s != d)&&T.okB [(d,0)] (cpT s u [j]))=iB):
  Ok P Γ ⟨iz d,.field S (.tmp s) j,ty,ps,af,gd⟩ E (E.app [(d,iz (cpT s u [j]))] [(d,0)]):=by
 obtain⟨fs,f,fi,h1,h2,h3,h4,h5⟩:=ht.h;obtain⟨ds,ti,fs',f',g1,g2,g3,g4,g5,g6⟩:=hv;simp only[J4]at sd;rw[h1]at g1;simp at g1;subst g1;rw[h2]at g2;simp at g2;subst g2;rw[h3]at g4;simp at g4;subst g4;intro S';refine wK.value rfl fun a w G g9=>?_
 obtain⟨k1,k2,_⟩:=g9.ent s _ hx;simp only[R]at k2;have k3:=zAX xs [] 0 j u k2 hu;simp only[Jf]at k3;have gf:s≠d:=by grind
 have eh:∀ys,u≠.tup ys:=zBs sd.1.1.2;have hk:=G.put_keep (w:=w) (w':=w) rfl d (fun z=>G.hd s (z++[j]));have hz:∀z,(G.put d (fun z=>G.hd s (z++[j]))).hd d (z++[])=G.hd s (z++[j]):=by grind[Gh.put_self]
 refine⟨sV G s u [j],w,?_,_,vN g9 rfl (yM sd.1.1.1.1) (fun z=>G.hd s (z++[j])) (fun z=>g9.mem.one _ _) _ _ (by grind[zA3])
  (zDE (fun p=>G.put_other _ p gf) u [j] [] hz eh (hk.keepR (by grind[zAm,qT])) k3) (qT s u [j])⟩
 obtain⟨l1,l2,e1,e2⟩:=zHm (G:=G) (s:=s) xs sd.1.1.1.2 [] 0 j u hu;simp only[Jf]at e1;have e3:l1.length=f.offset:=by omega
 have e4:=vH (G:=G) (s:=s) u [j] eh;have ak:(part f.type (yI G s xs [] 0).toArray f.offset).run P w=.ok (sV G s u [j]) w:=by
  rw[e1];cases u with
  |agg ys=>
   simp[T.single]at g5;simp only[vals,T.size]at e4 g6 ⊢
   simp[part,jU g3,g5,sizeOf,typeInfo,h3,sV]
   grind
  |tup ys=>grind
  |_=>
   simp[T.single]at g5;simp[part,jU g3,g5,sV,vals,←e3]
 simp[execOp,wH k1,mkV,Instr.field,run_underlying h1,h2,asAgg,ak]
theorem zBI{α:Type}{t e:TypeId}{ti:TypeInfo}{k:Nat}{u:T}{n:Nat}{a:Int}{f:α→T}{z:α}(ht:ElT P t e ti k u)(hz:f z=u)(hn:xH a=iz n)(hx:opT E x=iz (I a))(hy:opT E y=iz (I a))(sd:J7 d Γ.N=iB):
  Ok P Γ ⟨iz d,.makeSlice t x y,ty,ps,af,gd⟩ E (E.app [(d,iz (L k f (J0 n z)))] [(d,0)]):=by
 have:=zX4 (P:=P) (Γ:=Γ) (E:=E) (d:=d) (ty:=ty) (ps:=ps) (af:=af) (gd:=gd) ht hn hx hn hy (Jl _) sd;rw[←hz]at this;simpa[L]using this
theorem zIX{t e:TypeId}{ti:TypeInfo}{k:Nat}{u:T}(ht:ElT P t e ti k u)(sd:J7 d Γ.N=iB):Ok P Γ ⟨iz d,.buildSlice t 0 #[],ty,ps,af,gd⟩ E (E.app [(d,iz (.sl k []))] [(d,0)]):=
 fun _=>zGM t e ti k rfl rfl (yM sd) ht.un ht.info
theorem zLr(t:TypeId)(x y:Value):Op.equal t x y=Op.equalIn (9999+1) t x y:=rfl
theorem zGu{P:Program}{w:World}{t:TypeId}{k:IntKind}{a b:Int}(n:Nat)(h:P.underlying t=iz (.int k)):(Op.equalIn (n+1) t (.int k a) (.int k b)).run P w=.ok (a==b) w:=by simp only[Op.equalIn,Sem.run_bind,run_underlying h];simp
end
end Go.Ab

namespace Go.Ab
open Go
def zBJ:List Nat→Bool
 | []=>iB
 |x::xs=> !xs.contains x&&zBJ xs
theorem zFu:{l:List Nat}→zBJ l=iB→l.Nodup
 | [],_=>by simp
 |x::xs,h=>by simp only[zBJ,J4,Uc,Hh,decide_eq_false_iff_not]at h;exact Le.2 ⟨h.1,zFu h.2⟩
def zBK(E:Env):List yW→Prop
 | []=>True
 |.slot s t::l=>(E s=iz t∧yD t∧t.okTup=iB)∧zBK E l
 |.zero u::l=>u.zOk=iB∧zBK E l
theorem zBK.get{E:Env}:(l:List yW)→zBK E l→(∀s t,yW.slot s t∈l→E s=iz t∧yD t∧t.okTup=iB)∧ ∀u,yW.zero u∈l→u.zOk=iB
 | [],_=>by simp
 |.slot s t::l,h=>by
  obtain⟨h1,h2⟩:=zBK.get l h.2;exact⟨fun s' t' hm=>by
   rcases Jc.1 hm with e|hm
   ·cases e;exact h.1
   ·exact h1 s' t' hm,fun u hm=>by
   rcases Jc.1 hm with e|hm
   ·cases e
   ·exact h2 u hm⟩
 |.zero u::l,h=>by
  obtain⟨h1,h2⟩:=zBK.get l h.2;exact⟨fun s' t' hm=>by
   rcases Jc.1 hm with e|hm
   ·cases e
   ·exact h1 s' t' hm,fun u' hm=>by
   rcases Jc.1 hm with e|hm
   ·cases e;exact h.1
   ·exact h2 u' hm⟩
section
variable {E:Env}
theorem pkN:zBK E []:=trivial
theorem pkS{s:Nat}{t:T}{l:List yW}(h:E s=iz t)(hc:yD t)(h3:t.okTup=iB)(hl:zBK E l):zBK E (.slot s t::l):=⟨⟨h,hc,h3⟩,hl⟩
theorem pkZ{u:T}{l:List yW}(h:u.zOk=iB)(hl:zBK E l):zBK E (.zero u::l):=⟨h,hl⟩
theorem zBK.parts{d:Nat}{l:List yW}(h:zBK E l)(hn:zBJ (d::xY l)=iB):tX E d l:=⟨(zBK.get l h).1,(zBK.get l h).2,zFu hn⟩
def zDt(E:Env)(zs:List T)(ps:List yW):List (Nat×Operand)→List (Nat×yW)→Prop
 | [],[]=>True
 |x::xs,q::qs=>(x.1=q.1∧zAb E x.2 q.2∧ps[q.1]? =iz q.2∧ ∃u,zs[q.1]? =iz u∧u.size=q.2.tree.size)∧zDt E zs ps xs qs
 |_,_=>False
theorem bqN{zs:List T}{ps:List yW}:zDt E zs ps [] []:=trivial
theorem bqC{zs:List T}{ps:List yW}{i:Nat}{x:Operand}{q:yW}{xs:List (Nat×Operand)}{qs:List (Nat×yW)}(h:zAb E x q)(hl:zDt E zs ps xs qs)(h1:ps[i]? =iz q:=by rfl)(h2:∃u,zs[i]? =iz u∧u.size=q.tree.size:=by exact⟨_,rfl,rfl⟩):zDt E zs ps ((i,x)::xs) ((i,q)::qs):=⟨⟨rfl,h,h1,h2⟩,hl⟩
theorem zDt.ix{zs:List T}{ps:List yW}:(pl:List (Nat×Operand))→(qs:List (Nat×yW))→zDt E zs ps pl qs→pl.map (·.1)=qs.map (·.1)
 | [],[],_=>rfl
 |x::xs,q::qs,h=>by simp[h.1.1,zDt.ix xs qs h.2]
 | [],_::_,h=>by grind[zDt]
 |_::_,[],h=>by grind[zDt]
theorem zDt.get{zs:List T}{ps:List yW}:(pl:List (Nat×Operand))→(qs:List (Nat×yW))→zDt E zs ps pl qs→ ∀(j:Nat)(x:Nat×Operand)(q:Nat×yW),pl[j]? =iz x→qs[j]? =iz q→zAb E x.2 q.2∧q.2∈ps∧ ∃u,zs[q.1]? =iz u∧u.size=q.2.tree.size
 | [],[],_,j,_,_,h,_=>by simp at h
 |x::xs,q::qs,h,j,x',q',h1,h2=>by
  cases j with
  |zero=>simp at h1 h2;subst h1;subst h2;exact⟨h.1.2.1,Lz h.1.2.2.1,h.1.2.2.2⟩
  |succ j=>exact zDt.get xs qs h.2 j x' q' (by grind) (by grind)
 | [],_::_,h,_,_,_,_,_=>by grind
 |_::_,[],h,_,_,_,_,_=>by grind
end
class zHn (P:Program) (t:TypeId) (zs:outParam (List T)):Prop where
 h:∃(place:Nat→Option (Nat×Nat))(z:Value),(∀parts,P.built t parts=Instr.fill place z.cells parts)∧qJ zs=z.cells.toList∧zAo zs=iB∧ ∀i u,zs[i]? =iz u→place i=iz (T.sizes (zs.take i),u.size)
section
variable {P:Program}{Γ:Ctx}{E E':Env}{d:Nat}{x y:Operand}{ty:TypeId}{ps:String}{af:Array Edge}{gd:Option (Nat×Bool)}
theorem kL{t:TypeId}{zs:List T}{pa:Array (Nat×Operand)}(hb:zHn P t zs)(pl:List (Nat×Operand))(qs:List (Nat×yW))(pp:List yW)(gB:zBK E pp)(hq:zDt E zs pp pl qs)(sd:(J7 d Γ.N&&zBJ (d::xY pp))=iB)
  (fJ:pa=pl.toArray:=by rfl)(gV:qs.foldl (fun ps q=>ps.set q.1 q.2) (zs.map yW.zero)=pp:=by rfl):Ok P Γ ⟨iz d,.build t pa,ty,ps,af,gd⟩ E (E.app ((d,iz (.agg (pp.map yW.tree)))::pWr d pp 0) ((d,0)::sX pp)):=by
 obtain⟨place,z,h1,h2,h3,h4⟩:=hb.h;simp only[J4]at sd;subst fJ;exact fun S=>zRK t place z zs pl qs pp rfl rfl (yM sd.1) h1 h2 h3 h4 gV (gB.parts sd.2) (zDt.ix _ _ hq) (zDt.get _ _ hq)
def zLs(k:Nat):List yW→Bool
 | []=>iB
 |p::l=>(p.tree.size==k)&&zLs k l
theorem zLt{k:Nat}:(l:List yW)→zLs k l=iB→ ∀p∈l,p.tree.size=k
 | [],_,_,h=>by simp at h
 |p::l,h,q,hm=>by
  simp only[zLs,J4,beq_iff_eq]at h;rcases Jc.1 hm with rfl|hm
  ·exact h.1
  ·exact zLt l h.2 q hm
theorem zC2{α:Type}{t e:TypeId}{ti:TypeInfo}{k n:Nat}{u:T}{pa:Array (Nat×Operand)}(ht:ElT P t e ti k u)(xs:List Operand)(pp:List yW)(ys:List α)(f:α→T)(hx:uK E xs pp)(gB:zBK E pp)
  (sd:(J7 d Γ.N&&zBJ (d::xY pp)&&zLs k pp&&J7 0 n&&Jbe (n*k) 65536)=iB)(hn:xs.length=n)(fJ:pa=((xs.zipIdx 0).map fun x=>(x.2,x.1)).toArray:=by rfl)(hy:pp.map yW.tree=ys.map f:=by rfl):
  Ok P Γ ⟨iz d,.buildSlice t n pa,ty,ps,af,gd⟩ E (E.app ((d,iz (L k f ys))::pWr d pp 0) ((d,0)::sX pp)):=by
 obtain⟨z,hz,_⟩:=ht.zero;simp only[J4]at sd;subst fJ;intro S;have cS:n*k≤65536:=by grind[Nat.ble_eq]
 have:=zIu (P:=P) (Γ:=Γ.at S) (E:=E) (o:=⟨iz d,.buildSlice t n ((xs.zipIdx 0).map fun x=>(x.2,x.1)).toArray,ty,ps,af,gd⟩) t e ti z k n xs pp rfl rfl (yM sd.1.1.1.1) ht.un ht.info hz ht.size ht.pos hn (yM sd.1.2) (by omega) hx (gB.parts sd.1.1.1.2) (zLt pp sd.1.1.2)
 grind
theorem zLu{α:Type}{f g:α→T}(h:∀y,roT (g y)=f y):(ys:List α)→roT.roTs (ys.map g)=ys.map f
 | []=>rfl
 |y::ys=>by simp only[Js,roT.roTs,h y,zLu h ys]
theorem zDR{α:Type}{t e:TypeId}{ti:TypeInfo}{k r:Nat}{q:List Nat}{u:T}{f g:α→T}{xs ys zs:List α}{s0:Nat}(ht:ElT P t e ti k u)(aK:∀y,roT (g y)=f y)(gw:∀y,(g y).size=k)(hg:Enc g)(hv:xI xs ys=iz zs)(h0:E s0=iz (L k f xs))(h1:tS E y=iz (r,q,.ro (L k g ys)))(sd:(J7 d Γ.N&&(s0 != d))=iB):
  Ok P Γ ⟨iz d,.call { callee:=.builtin .append,args:=#[.tmp s0,y],argTypes:=#[t,t] },ty,ps,af,gd⟩ E (E.app [(d,iz (L k f zs)),(s0,iz .any)] [(d,0),(s0,1)]):=by
 obtain⟨rfl,hl⟩:=zFq hv;obtain⟨z,hz,ff⟩:=ht.zsize;simp only[J4]at sd;intro S;have:=zJJ (P:=P) (Γ:=Γ.at S) (E:=E) (o:=⟨iz d,.call { callee:=.builtin .append,args:=#[.tmp s0,y],argTypes:=#[t,t] },ty,ps,af,gd⟩) t e ti z k s0 y r q (xs.map f) (ys.map g) rfl rfl (yM sd.1) ht.un ht.info hz ht.size ht.pos ff ht.bytes h0 h1 (zHi hg.rook ys)
  (by simp_all) (by grind) (by grind)
 rw[zLu aK,←Kj]at this;exact this
def tI{α:Type}(xs:List α)(m:Int)(z:α):Option (List α):=if 0≤m∧xs.length+m.toNat≤68719476736 then iz (xs++J0 m.toNat z)else iA
theorem zX8{α:Type}{t t2 e:TypeId}{k2:IntKind}{ti:TypeInfo}{k:Nat}{u:T}{f:α→T}{z:α}{xs zs:List α}{s0:Nat}{m:Int}(ht:ElT P t e ti k u)(mN:P.underlying t2=iz (.int k2))(hz:f z=u)(hv:tI xs m z=iz zs)(h0:E s0=iz (L k f xs))(h1:opT E y=iz (I m))(sd:(J7 d Γ.N&&(s0 != d))=iB):
  Ok P Γ ⟨iz d,.call { callee:=.builtin .append,args:=#[.tmp s0,y],argTypes:=#[t,t2] },ty,ps,af,gd⟩ E (E.app [(d,iz (L k f zs)),(s0,iz .any)] [(d,0),(s0,1)]):=by
 unfold tI at hv;split at hv
 ·rename_i hc
  simp at hv;subst hv;obtain⟨zv,mD,eK⟩:=ht.zero;simp only[J4]at sd;obtain⟨n,rfl⟩:∃n:Nat,m=n:=⟨m.toNat,by omega⟩;intro S;have:=zGU (P:=P) (Γ:=Γ.at S) (E:=E) (o:=⟨iz d,.call { callee:=.builtin .append,args:=#[.tmp s0,y],argTypes:=#[t,t2] },ty,ps,af,gd⟩) t t2 e k2 ti zv u k s0 y .i64 n (xs.map f) rfl rfl (yM sd.1) ht.un mN ht.info mD ht.size ht.pos ht.bytes ht.zok eK ht.us h0 h1
   (by grind) (by grind)
  have e:xs.map f++J0 n u=(xs++J0 n z).map f:=by simp[hz]
  rw[e]at this;have h2:((n:Int)).toNat=n:=by simp
  rw[h2];exact this
 ·cases hv
end
section
variable {Γ:Ctx}{E:Env}
theorem zN.trq(d r:Nat)(q:List Nat){tr u tr':T}(hd:E d=iz (.same r q))(hr:E r=iz tr)(hg:tr.get q.reverse=iz u)(eA:yD u)(sd:(u.single&&xN tr&&tr.okB [(d,1),(r,q.length+1)]&&(d != r))=iB)(gv:(if q=[]then .same d []else tr.set q.reverse .any)=tr':=by rfl):
  zN Γ E (E.app [(d,iz u),(r,iz tr')] [(d,1),(r,q.length+1)]):=by
 simp only[J4]at sd
 rintro a w ⟨S,hS,hs⟩
 have gf:d≠r:=by grind
 have:=zNg hs d [] r q (.same r q) tr u hd rfl hr hg sd.1.1.1 eA gf (by grind[T.okB,zAg]) sd.1.2 rfl sd.1.1.2;subst gv;exact⟨S,hS,this⟩
theorem zN.trf(d:Nat)(g:List Nat)(r:Nat)(q:List Nat)(td tr:T){u td' tr':T}(hd:E d=iz td)(m8:td.get g.reverse=iz (.same r q))(hr:E r=iz tr)(hg:tr.get q.reverse=iz u)(gv:td.set g.reverse u=td')(eA:yD u)
  (sd:(u.single&&xN td&&xN tr&&td.okB [(d,g.length+1),(r,q.length+1)]&&tr.okB [(d,g.length+1),(r,q.length+1)]&&(d != r))=iB)(eM:(if q=[]then .same d g else tr.set q.reverse .any)=tr':=by rfl):
  zN Γ E (E.app [(d,iz td'),(r,iz tr')] [(d,g.length+1),(r,q.length+1)]):=by
 simp only[J4]at sd
 rintro a w ⟨S,hS,hs⟩
 have gf:d≠r:=by grind
 have:=zNg hs d g r q td tr u hd m8 hr hg sd.1.1.1.1.1 eA gf sd.1.1.2 sd.1.2 sd.1.1.1.1.2 sd.1.1.1.2;subst gv eM;exact⟨S,hS,this⟩
theorem zN.frz{α:Type}(s:Nat){k:Nat}{f g:α→T}(xs:List α)(hs:E s=iz (L k f xs))(h:uU f g):zN Γ E (E.app [(s,iz (.ro (L k g xs)))] [(s,1)]):=by have:=zN.freeze (Γ:=Γ) s _ hs;simp only[uE,strip,sH h.h xs]at this;exact this
theorem zN.res(d r:Nat)(q:List Nat)(tr:T){u:T}(hd:E d=iz (.same r q))(hr:E r=iz tr)(hg:tr.get q.reverse=iz (.ro u)):zN Γ E (E.app [(d,iz (.ro u))] []):=by
 rintro a w ⟨S,hS,gN,G,g9⟩
 refine⟨S,hS,gN,G,?_⟩;have hk:qY [] G w G w:=⟨fun _ _ _=>rfl,fun _ _ _=>rfl,by simp,fun _ _ _ h _=>h,fun b cs e h=>⟨cs,h,rfl⟩⟩;refine vM g9 rfl hk g9.mem (by simp) fun s t hs=>?_
 simp only[Wr.find]at hs;split at hs
 ·rename_i e;subst e
  simp at hs;subst hs;obtain⟨h1,h2,_⟩:=g9.ent d _ hd;obtain⟨_,h4,_⟩:=g9.ent r _ hr;simp only[R]at h2;have h5:=(zA2 q.reverse tr _ [] h4 hg).1;simp only[rp,Kn,Ja,R]at h5;exact⟨by rw[h1];rfl,by grind[R],by simp[Top]⟩
 ·cases hs
end
theorem zJR:(p:List Nat)→ ∀(t u0 a:T),t.get p=iz u0→(t.set p a).get p=iz a
 | [],t,_,a,_=>by rfl
 |i::p,t,u0,a,h=>by
  cases t with
  |sl k xs|agg xs|tup xs=>
   simp only[T.get,T.set]at h ⊢
   cases hx:xs[i]? with
   |none=>grind
   |some x=>
    rw[hx]at h;have hi:=(Jw.1 hx).1;simp only[];simp only[T.get,Ja9 hi];exact zJR p x u0 a h
  |ptr t=>
   simp only[T.get,T.set]at h ⊢
   split at h
   ·rename_i e;subst e;simp only[if_true,T.get];exact zJR p t u0 a h
   ·cases h
  |_=>grind[T.get]
theorem set_set:(p:List Nat)→ ∀(t u0 a b:T),t.get p=iz u0→(t.set p a).set p b=t.set p b
 | [],t,_,a,_,_=>by rfl
 |i::p,t,u0,a,b,h=>by
  cases t with
  |sl k xs|agg xs|tup xs=>
   simp only[T.get,T.set]at h ⊢
   cases hx:xs[i]? with
   |none=>grind
   |some x=>
    rw[hx]at h;have hi:=(Jw.1 hx).1;simp only[];simp only[T.set,Ja9 hi,List.set_set,set_set p x u0 a b h]
  |ptr t=>
   simp only[T.get,T.set]at h ⊢
   split at h
   ·rename_i e;subst e;simp only[if_true,T.set,set_set p t u0 a b h]
   ·cases h
  |_=>rfl
def zAr:T→Bool
 |.sl _ _|.ptr _=>iB
 |_=>iC
theorem zSl{t:T}(h:zAr t=iB)(p:List Nat){u:T}(hp:p≠[]):zAr (t.set p u)=iB:=by
 cases p with
 |nil=>simp_all
 |cons i p=>cases t<;>simp[zAr]at h<;>simp only[T.set]<;>split<;>rfl
theorem tF{t:T}(h:zAr t=iB)(chg:Chg):t.okB chg=iB∧xN t=iB∧t.single=iB:=by cases t<;>simp[zAr]at h<;>simp[T.okB,xN,T.single]
section
variable {P:Program}{Γ:Ctx}{E E':Env}{d:Nat}{ty:TypeId}{ps:String}{af:Array Edge}{gd:Option (Nat×Bool)}
theorem agM{E:Env}{rw:Rw}{i:Nat}{x:Operand}{u:T}(t:T)(h:opT E x=iz t)(h1:clo E t=u)(h2:zIL E (rw.map (·.2.1)) x t=iB):zCc E rw i x u:=.inr ⟨t,h,h1,h2⟩
theorem zBL{E:Env}{rw:Rw}{i s:Nat}{u u':T}(h:E s=iz u)(hc:yD u)(hr:wZ u=iB)(hs:u.okTup=iB:=by rfl)(hm:(i,s,u')∈rw:=by exact List.mem_singleton.2 rfl):zCc E rw i (.tmp s) u:=.inl ⟨s,u',rfl,hm,h,hc,hs,hr⟩
abbrev vT(E:Env)(ds r:Nat)(q:List Nat)(tr u:T):Env:=E.app [(ds,iz u),(r,iz (if q=[]then .same ds []else tr.set q.reverse .any))] [(ds,1),(r,q.length+1)]
theorem zBM{f:FuncId}{xs:List Operand}{ats:Array TypeId}{us res:List T}{tr u u' tr':T}(i ds r:Nat)(q:List Nat)(gp:zA8 P f)(hc:FnC P f us res [(i,u')])(hs:E ds=iz (.same r q))(hr:E r=iz tr)(hq:tr.get q.reverse=iz u)
  (eA:yD u)(ej:yD u')(_:wZ u=iB)(cN:wZ u'=iB)(gc:wB (vT E ds r q tr u) [(i,ds,u')] 0 xs us)(gk:kS res)(gv:tr.set q.reverse u'=tr')
  (sd:(J7 d Γ.N&&(d != ds)&&(d != r)&&(ds != r)&&zAr u&&zAr u'&&zAr tr)=iB)(hx:xs[i]? =iz (.tmp ds))(hu:us[i]? =iz u):
  Ok P Γ ⟨iz d,.call { callee:=.value (.func f),args:=xs.toArray,argTypes:=ats },ty,ps,af,gd⟩ E ((((vT E ds r q tr u).app (cWr d res [(i,ds,u')]) (uD d [(i,ds,u')]))).app [(r,iz tr'),(ds,iz (.same r q))] [(r,q.length+1),(ds,1)]):=by
 simp only[J4]at sd;obtain⟨⟨⟨⟨⟨⟨s1,s2⟩,s3⟩,s4⟩,s5⟩,s6⟩,s7⟩:=sd;have d1:d≠ds:=by grind
 have d2:d≠r:=by grind
 have d3:ds≠r:=by grind
 obtain⟨u1,u2,u3⟩:=tF s5 [];obtain⟨v1,v2,v3⟩:=tF s6 [];have m6:cLv u'=1:=by simp[cLv,v3]
 subst gv;intro S
 by_cases ah:q=[]
 ·subst ah
  have htu:tr=u:=by
   have:tr.get []=iz tr:=by rfl
   grind
  subst htu;have a8:∀a b:T,a.set [] b=b:=fun a b=>by rfl
  have bE:(vT E ds r [] tr tr) ds=iz tr:=by simp[vT,Env.app,Wr.find]
  have pJ:((vT E ds r [] tr tr).app (cWr d res [(i,ds,u')]) (uD d [(i,ds,u')])) r=iz (.same ds []):=by
   have h1:(vT E ds r [] tr tr) r=iz (.same ds []):=by simp[vT,Env.app,Wr.find,d3]
   have h2:(cWr d res [(i,ds,u')]).find r=iA:=by grind[cWr,Wr.find]
   have h3:(T.same ds []).okB (uD d [(i,ds,u')])=iB:=by grind[T.okB,zAg,uD]
   simp only[Env.app,h2,h1,h3,if_true]
  have pK:((vT E ds r [] tr tr).app (cWr d res [(i,ds,u')]) (uD d [(i,ds,u')])) ds=iz u':=by grind[Env.app,Wr.find,cWr]
  have:=zLj (P:=P) (Γ:=Γ.at S) (E:=E) (o:=⟨iz d,.call { callee:=.value (.func f),args:=xs.toArray,argTypes:=ats },ty,ps,af,gd⟩) f (.func f) xs ats us res i ds r [] tr tr u' rfl rfl (yM s1) gp rfl hs hr hq u3 eA d3 d2 (tF s7 _).1 (tF s7 []).2.1
   (vT E ds r [] tr tr) _ rfl rfl hc gc (.one d1 hx ej v3 cN bE u3 hu) gk (.same ds []) (.same ds []) pJ rfl rfl pK ej v3 (by simp[T.okB,zAg]) rfl (tF s6 _).1 v2
  grind
 ·have u5:q.reverse≠[]:=by simp_all
  have bE:(vT E ds r q tr u) ds=iz u:=by simp[vT,Env.app,Wr.find]
  have hSP:=zSl s7 q.reverse (u:=.any) u5;have pJ:((vT E ds r q tr u).app (cWr d res [(i,ds,u')]) (uD d [(i,ds,u')])) r=iz (tr.set q.reverse .any):=by
   have h1:(vT E ds r q tr u) r=iz (tr.set q.reverse .any):=by simp[vT,Env.app,Wr.find,d3,ah]
   grind[cWr,Wr.find,Env.app,tF]
  have pK:((vT E ds r q tr u).app (cWr d res [(i,ds,u')]) (uD d [(i,ds,u')])) ds=iz u':=by grind[Env.app,Wr.find,cWr]
  have:=zLj (P:=P) (Γ:=Γ.at S) (E:=E) (o:=⟨iz d,.call { callee:=.value (.func f),args:=xs.toArray,argTypes:=ats },ty,ps,af,gd⟩) f (.func f) xs ats us res i ds r q tr u u' rfl rfl (yM s1) gp rfl hs hr hq u3 eA d3 d2 (tF s7 _).1 (tF s7 []).2.1
   (vT E ds r q tr u) _ rfl rfl hc gc (.one d1 hx ej v3 cN bE u3 hu) gk (tr.set q.reverse .any) .any pJ (zJR _ _ _ _ hq) rfl pK ej v3 (tF hSP _).1 (tF hSP []).2.1 (tF s6 _).1 v2
  grind[set_set]
theorem zGv{f:FuncId}{xs:List Operand}{ats:Array TypeId}{us res:List T}{xf:Operand}(hf:opT E xf=iz (.lit (.func (.func f) #[] #[])))(gp:zA8 P f)(hc:FnC P f us res [])(gc:wB E [] 0 xs us)(gk:kS res)(sd:J7 d Γ.N=iB):
  Ok P Γ ⟨iz d,.call { callee:=.value xf,args:=xs.toArray,argTypes:=ats },ty,ps,af,gd⟩ E (E.app (cWr d res []) (uD d [])):=
 fun _=>zJM f xf xs ats us res [] rfl rfl (yM sd) gp hf hc gc .nil gk
def zDu(E:Env):List Operand→List T→Prop
 | [],[]=>True
 |x::xs,u::us=>(opT E x=iz u∧u.flat=iB)∧zDu E xs us
 |_,_=>False
theorem afN:zDu E [] []:=trivial
theorem afC{x:Operand}{xs:List Operand}{u:T}{us:List T}(h:opT E x=iz u)(h1:u.flat=iB)(h2:zDu E xs us):zDu E (x::xs) (u::us):=⟨⟨h,h1⟩,h2⟩
theorem zDu.get:(xs:List Operand)→(us:List T)→zDu E xs us→ ∀(i:Nat) u,us[i]? =iz u→ ∃x,xs[i]? =iz x∧opT E x=iz u∧u.flat=iB
 | [],[],_,i,u,h=>by simp at h
 |x::xs,v::us,h,i,u,hi=>by
  cases i with
  |zero=>simp at hi;subst hi;exact⟨x,by simp,h.1⟩
  |succ i=>obtain⟨y,h1,h2⟩:=zDu.get xs us h.2 i u (by grind);grind
 | [],_::_,h,_,_,_=>by grind[zDu]
 |_::_,[],h,_,_,_=>by grind
theorem jJ{f:FuncId}{xs:List Operand}{ats:Array TypeId}{us res:List T}(gp:zA8 P f)(hc:FnC P f us res [])(ha:zDu E xs us)(gj:xs.length=us.length)(gk:xX res)(gX:yV res=iB)(sd:J7 d Γ.N=iB):
  Ok P Γ ⟨iz d,.call { callee:=.value (.func f),args:=xs.toArray,argTypes:=ats },ty,ps,af,gd⟩ E (E.app (cWr d res []) (uD d [])):=
 by grind[zVy,zDu.get]
end
noncomputable def zD4 {α:Type} (g:Nat→Option α):Option α:=
 open Classical in if h:∃r,∃n,∀m,n≤m→g m=iz r then iz h.choose else iA
theorem kC{α:Type}{g:Nat→Option α}{r:α}(h:zD4 g=iz r):∃n,g n=iz r:=by
 unfold zD4 at h;split at h
 ·rename_i he
  simp at h;obtain⟨n,hn⟩:=he.choose_spec;exact⟨n,by simp_all⟩
 ·cases h
theorem zBu{α:Type}{g:Nat→Option α}{r:α}(n:Nat)(h:∀m,n≤m→g m=iz r):zD4 g=iz r:=by
 have he:∃r,∃n,∀m,n≤m→g m=iz r:=⟨r,n,h⟩;unfold zD4;rw[dif_pos he];obtain⟨n',hn'⟩:=he.choose_spec;have h1:=h (max n n') (by omega)
 grind
end Go.Ab

namespace Go.Ab
open Go
section
variable {P:Program}{Γ:Ctx}{ops:Array Oper}{o:Oper}{E:Env}
theorem zX.skipW{d:Nat}(hd:o.dst=iz d)(sd:J7 d Γ.N=iB)(hw:∀(a:Act)(w:World),jH Γ E a w→Region.wanted o (yielded ops a.tmps)=iC):zX P Γ ops o E (E.app [(d,iz (.tup []))] [(d,0)]):=by
 intro a w K Q hs hK;rw[if_neg (by simp[hw a w hs])];obtain⟨S,hS,gN,G,g9⟩:=hs;refine hK _ _ ⟨S,hS,by rw[hd];exact gN,G.put d (fun _=>.bool iC),?_⟩ ?_
 ·rw[hd]
  have hu:(Value.bool iC).oneCell'=iB:=rfl;refine vM g9 (by simp[Act.put]) (G.put_keep rfl d _) (g9.mem.put rfl d _ fun _=>hu) ?_ ?_
  ·intro s hs
   rw[sB]at hs;split at hs
   ·cases hs
   ·rename_i gf
    refine⟨fun n hn=>gf (by simp at hn;exact hn.1.symm),?_⟩;simp[Act.put,Hx gf]
  ·intro s t' hs
   rw[sB]at hs;split at hs
   ·rename_i e;subst e
    simp at hs;subst hs;have gw:=g9.size;have gE:=yM sd;refine⟨?_,by simp[R,RF],by simp[Top,vQ]⟩;have:d<a.tmps.size:=by rw[gw];exact gE
    simp[Act.put,mkV,jG,undef,this]
   ·cases hs
 ·intro s hs
  rw[hd]at hs ⊢
  have:d≠s:=fun e=>hs (by rw[e])
  simp[Act.put,Hx this]
theorem zX.skip2{d:Nat}(g:Nat)(b b':Bool)(s:Nat)(hd:o.dst=iz d)(sd:J7 d Γ.N=iB)(co:(b==b')=iC)(hg:o.guard=iz (g,b))(gn:(ops[g]?).bind (·.dst)=iz s)(hb:E s=iz (.lit (.bool b'))):
  zX P Γ ops o E (E.app [(d,iz (.tup []))] [(d,0)]):=.skipW hd sd fun a w hs=>by
 simp only[Region.wanted,hg,zHa hs gn hb];cases b<;>cases b'<;>simp_all
theorem zX.skip3{d:Nat}(g:Nat)(b:Bool)(s:Nat)(hd:o.dst=iz d)(sd:J7 d Γ.N=iB)(hg:o.guard=iz (g,b))(gn:(ops[g]?).bind (·.dst)=iz s)(hb:E s=iz (.tup [])):
  zX P Γ ops o E (E.app [(d,iz (.tup []))] [(d,0)]):=.skipW hd sd fun a w hs=>by
 obtain⟨_,_,_,G,hr⟩:=hs;obtain⟨h1,_,_⟩:=hr.ent s _ hb;simp only[Region.wanted,hg,yielded,gn,Option.bind_some,h1,mkV,jG];rfl
theorem zX.opE{E1 E':Env}(h:Ok P Γ o E E1)(e:E1=E')(hg:o.guard=iA:=by rfl):zX P Γ ops o E E':=e▸zX.op h hg
theorem zX.guardE{E1 E':Env}(g:Nat)(b:Bool)(s:Nat)(h:Ok P Γ o E E1)(hg:o.guard=iz (g,b))(gn:(ops[g]?).bind (·.dst)=iz s)(hb:E s=iz (.lit (.bool b)))(e:E1=E'):zX P Γ ops o E E':=e▸zX.guard g b s h hg gn hb
end
def sE(Γ:Ctx)(P:Program)(rs:Array ResultVar)(us res:List T)(rws:List (Nat×T)):Exit→Env→Prop:=fun e E=> ∃E',zN Γ E E'∧zZh P rs us res rws e E'
theorem FnC.of_bodyG{P:Program}{f:FuncId}{fn:Func}{c:Code}{us res:List T}{rws:List (Nat×T)}(hf:P.funcs[f]? =iz fn)(hb:fn.body=iz c)(hn:us.length≤fn.ntmps)(ht:vQ us)(hr:rws.all (fun x=>decide (x.1<us.length))=iB)
  (h:∀(Γ:Ctx)(v:Nat→Value),Γ.N=fn.ntmps→CW P Γ (zCy v (rws.map (·.1))) c (xE (zIw 0 us)) (sE Γ P fn.results us res rws)):FnC P f us res rws:=by
 refine FnC.of_body hf hb hn ht hr fun Γ v hN=>?_
 intro a w Q' hs hp hQ;refine h Γ v hN a w Q' hs hp ?_
 rintro e E a' w' ⟨E',hg,hq⟩ gI cP
 exact hQ e E' a' w' hq (hg a' w' gI) cP
def zV0(t:T):Prop:=yD t∧wZ t=iB∧strip t=t∧t.okTup=iB∧zFi t=iB
def zSm:List T→Prop
 | []=>True
 |x::xs=>zV0 x∧zSm xs
theorem Enc.t{α:Type}{f:α→T}(h:Enc f)(x:α):zV0 (f x):=⟨h.clean x,h.rofree x,h.strip x,h.okTup x,h.rook x⟩
theorem Enc.of{α:Type}{f:α→T}(h:∀x,zV0 (f x)):Enc f:=⟨fun x=>(h x).1,fun x=>(h x).2.1,fun x=>(h x).2.2.1,fun x=>(h x).2.2.2.1,fun x=>(h x).2.2.2.2⟩
theorem zNn{xs:List T}(h:zSm xs):zV0 (.agg xs):=by
 have key:∀xs:List T,zSm xs→xX xs∧uL xs=iB∧wV xs=xs∧yV xs=iB∧zBo xs=iB:=by
  intro xs
  induction xs with
  |nil=>intro _;exact⟨trivial,rfl,rfl,rfl,rfl⟩
  |cons x xs ih=>
   rintro⟨⟨h1,h2,h3,h4,h5⟩,h⟩
   obtain⟨g1,g2,g3,g4,g5⟩:=ih h;exact⟨⟨h1,g1⟩,by simp only[uL,h2,g2,Kw],by simp only[wV,h3,g3],by simp only[yV,h4,g4,Kw],by simp only[zBo,h5,g5,Kw]⟩
 obtain⟨g1,g2,g3,g4,g5⟩:=key xs h;exact⟨yL g1,by simp only[wZ,g2],by simp only[strip,g3],by simp only[T.okTup,g4],by simp only[zFi,g5]⟩
end Go.Ab

namespace Go.Ab
open Go
section
variable {Γ:Ctx}{E:Env}{d:Nat}
def Gh.cut(G:Gh)(d s0 b lo hi:Nat)(v:Value):Gh where
 hd s z:=if s=d then(if z=[]then v else G.hd s0 z)else G.hd s z
 ad s z:=if s=d then G.ad s0 z else G.ad s z
 lb b' o:=if b'=b∧lo≤o∧o<hi then iz (iB,d,[])else match G.lb b' o with
  |some (f,s,z)=>if s=s0 then iz (f,d,z)else iz (f,s,z)
  |none=>iA
 ow b':=match G.ow b' with
  |some (s,z)=>if s=s0 then iz (d,z)else iz (s,z)
  |none=>iA
theorem zOT{G:Gh}{tmps:Array Value}{w:World}(g9:Rep Γ E G tmps w)(hd:d<Γ.N){s0 k h cap':Nat}{xs:List T}(eB:E s0=iz (.sl k xs))(gf:s0≠d)(hk:0<k)
  {b cap:Nat}{cs:Array Value}{e:TypeId}(h1:G.hd s0 []=.slice (iz ⟨b,0,iA⟩) xs.length cap)(h2:w.heap[b]? =iz (.cells cs e (0,0)))(_h3:xs.length≤cap)(h4:cap≤maxLen)(h5:cap*k≤cs.size)(h6:G.ow b=iz (s0,[]))
  (h7:∀o,xs.length*k≤o→o<cap*k→G.lb b o=iz (iB,s0,[]))(h8:RL Γ.St G w s0 xs [] 0 b 0 k)(hh:h≤xs.length)(hc:h≤cap')(cI:cap'≤cap):
  ∃G',Rep Γ (E.app [(d,iz (.sl k (xs.take h))),(s0,iz .any)] [(d,0),(s0,1)]) G' (tmps.setIfInBounds d (.slice (iz ⟨b,0,iA⟩) h cap')) w:=by
 have hm:=g9.mem;obtain⟨e1,_,e3⟩:=g9.ent s0 _ eB
 let v:Value:=.slice (iz ⟨b,0,iA⟩) h cap'
 let G':=G.cut d s0 b (h*k) (cap'*k) v
 have gJ:=hm.ow b _ h6;have hgone:∀o f z i,h*k≤o→o<cap'*k→G.lb b o=iz (f,s0,z++[i])→h≤i:=by
  intro o f z i ho1 ho2 hl
  by_cases ho:o<xs.length*k
  ·have hj:o/k<xs.length:=(Hd hk).2 ho
   obtain⟨g1,g2,_⟩:=jS xs [] 0 b 0 k (o/k) xs[o/k] h8 (by simp[hj]);obtain⟨y,hy⟩:=zJC xs[o/k] _ b _ (o%k) g1 (by rw[g2];exact Gd _ hk);rw[Jf,Jf,H0,H3,hl]at hy;simp only[Ld.injEq,Jav.injEq]at hy;have:=hy.2.2;have hi:i=o/k:=by simp_all
   rw[hi];exact(Nat.le_div_iff_mul_le hk).2 ho1
  ·have:=h7 o (by omega) (by have:=K7 k cI;omega)
   simp_all
 have glb:∀b' o f z,G.lb b' o=iz (f,s0,z)→ ¬(b'=b∧h*k≤o∧o<cap'*k)→G'.lb b' o=iz (f,d,z):=fun b' o f z hl hn=>by
  show(if _ then _ else _)=_
  grind
 have gow:∀b' z,G.ow b'=iz (s0,z)→G'.ow b'=iz (d,z):=by grind[Gh.cut]
 have mv:∀i,i<h→zID G w G' w s0 [i] d [i]:=fun i hi=>by
  have hn:∀b' o f z,G.lb b' o=iz (f,s0,z++[i])→ ¬(b'=b∧h*k≤o∧o<cap'*k):=by grind
  refine⟨⟨fun z=>by simp[G',Gh.cut],by grind[Gh.cut],by grind,by grind,fun b' cs' e' hb=>⟨cs',hb,rfl⟩⟩,fun b' o _ hl=>⟨glb _ _ _ _ hl (hn b' o iB [] (by grind)),rfl⟩,by grind⟩
 have gx:qY [(d,0),(s0,1)] G w G' w:=by
  refine⟨fun s p ho=>?_,fun s p ho=>?_,fun b' o f s p hJ hl hs=>?_,fun b' s p hl hs=>?_,fun b' cs' e' hb=>⟨cs',hb,rfl⟩⟩
  ·have:s≠d:=fun e=>absurd (ho 0 (by simp[e])) (by simp)
   grind[Gh.cut]
  ·have:s≠d:=fun e=>absurd (ho 0 (by simp[e])) (by simp)
   grind[Gh.cut]
  ·have cK:s≠s0:=by grind
   obtain⟨y,hy⟩:=hJ;have co:b'≠b:=by grind
   refine⟨?_,rfl⟩;show(if _ then _ else _)=_
   grind
  grind[Gh.cut]
 have gu:Mem Γ G' w:=by
  refine⟨fun s z=>?_,fun b' o l hl=>?_,fun b' l hl=>?_,hm.st,hm.fr,hm.sz,hm.bk⟩
  ·show(if _ then _ else _:Value).oneCell'=iB
   split
   ·split
    ·rfl
    ·exact hm.one _ _
   ·exact hm.one _ _
  ·change(if _ then _ else _)=_ at hl
   split at hl
   ·grind
   ·cases hg:G.lb b' o with
    |none=>grind
    |some x=>exact hm.lb b' o x hg
  ·cases hg:G.ow b' with
   |none=>grind[Gh.cut]
   |some x=>exact hm.ow b' x hg
 refine⟨G',vM g9 (by simp) gx gu ?_ ?_⟩
 ·intro s hs
  have ut:s≠d:=by rintro rfl;grind[Wr.find]
  have ar:s≠s0:=by rintro rfl;grind[Wr.find]
  grind
 ·intro s t' hs
  by_cases cK:s=d
  ·subst cK
   simp[Wr.find]at hs;subst hs;have gj:(xs.take h).length=h:=by simp;omega
   simp only[Top]at e3;have hkc:∀ys:List T,xX ys→ ∀n,xX (ys.take n):=by
    intro ys
    induction ys with
    |nil=>simp
    |cons y ys ih=>intro hy n;cases n with
     |zero=>simp[xX,wC]
     |succ n=>exact⟨hy.1,ih hy.2 n⟩
   refine⟨?_,?_,by simp only[Top];grind⟩
   ·rw[Jk]
    simp[g9.size,hd,mkV,G',Gh.cut,v]
   ·simp only[R]
    refine .inr ⟨b,cap',cs,e,by grind[Gh.cut],h2,by omega,by omega,by have:=K7 k cI;omega,gow b _ h6,fun o ho1 ho2=>?_,?_⟩
    ·rw[gj]at ho1
     show(if _ then _ else _)=_
     grind
    ·refine zJE _ [] 0 b 0 fun i x hx=>?_
     rw[Uq]at hx;split at hx
     ·rename_i hi
      obtain⟨g1,g2,g3⟩:=jS xs [] 0 b 0 k i x h8 hx;rw[Jf]at g1 g3 ⊢
      refine⟨?_,g2,zAl (mv i hi) x (xF.mono (by simp) _ (uO xs e3 i x hx)) g3⟩;refine zGP x [i] [i] b _ (fun z=>by simp[G',Gh.cut]) (by grind[Gh.cut]) (fun b' o z hl=>⟨glb _ _ _ _ hl ?_,rfl⟩) g1
      grind
     ·cases hx
  ·have h9:s=s0∧t'=.any:=by
    simp only[Wr.find]at hs
    grind
   obtain⟨rfl,rfl⟩:=h9;refine⟨?_,by simp only[R],by simp[Top]⟩;rw[Jk];simp only[Ne.symm cK,if_false,mkV];rw[e1,xV rfl]
   grind[Gh.cut]
theorem zSn{G:Gh}{tmps:Array Value}{w:World}(g9:Rep Γ E G tmps w)(hd:d<Γ.N){s0 k:Nat}(eB:E s0=iz (.sl k []))(gf:s0≠d)(a:Option Addr):
  ∃G',Rep Γ (E.app [(d,iz (.sl k [])),(s0,iz .any)] [(d,0),(s0,1)]) G' (tmps.setIfInBounds d (.slice a 0 0)) w:=by
 obtain⟨e1,_,_⟩:=g9.ent s0 _ eB;refine⟨G.put d (fun _=>.slice a 0 0),?_⟩;have hk:qY [(d,0),(s0,1)] G w (G.put d fun _=>.slice a 0 0) w:=by have h0:=G.put_keep (w:=w) (w':=w) rfl d (fun _=>.slice a 0 0);refine⟨fun s p ho=>h0.hd s p (fun n hn=>ho n (by grind)),fun s p ho=>rfl,fun b o f s p h1 h2 h3=>h0.lb b o f s p h1 h2 (by grind),fun b s p h1 h3=>h0.ow b s p h1 (by grind),h0.blk⟩
 refine vM g9 (by simp) hk (g9.mem.put rfl d _ (fun _=>rfl)) ?_ ?_
 ·intro s hs
  have ut:s≠d:=by rintro rfl;grind[Wr.find]
  have ar:s≠s0:=by rintro rfl;grind[Wr.find]
  grind
 ·intro s t' hs
  by_cases cK:s=d
  ·subst cK
   simp[Wr.find]at hs;subst hs;refine⟨by rw[Jk];simp[g9.size,hd,mkV,Gh.put],by simp only[R];exact .inl ⟨trivial,a,by simp[Gh.put]⟩,by omega⟩
  ·have h9:s=s0∧t'=.any:=by
    simp only[Wr.find]at hs
    grind
   obtain⟨rfl,rfl⟩:=h9;refine⟨?_,by simp only[R],by simp[Top]⟩;rw[Jk];simp only[Ne.symm cK,if_false,mkV];rw[e1,xV rfl]
   grind[Gh.put]
end
section
variable {P:Program}{Γ:Ctx}{pn:jX}{E E':Env}{Q:Exit→Env→Prop}{d:Nat}{x y:Operand}{ty:TypeId}{ps:String}{af:Array Edge}{gd:Option (Nat×Bool)}
theorem zWI{α:Type}{t e:TypeId}{ti:TypeInfo}{s0 k:Nat}{f:α→T}{xs ys:List α}{mx:Option Operand}{h:Int}{u:T}(ht:ElT P t e ti k u)(hv:yB xs 0 h=iz ys)(h0:E s0=iz (L k f xs))(hy:opT E y=iz (I h))(hmx:mx=iA∨ ∃z,mx=iz z∧opT E z=iz (I h))(sd:(J7 d Γ.N&&(s0 != d))=iB):
  Ok P Γ ⟨iz d,.slice t (.tmp s0) iA (iz y) mx,ty,ps,af,gd⟩ E (E.app [(d,iz (L k f ys)),(s0,iz .any)] [(d,0),(s0,1)]):=by
 obtain⟨_,bY,cS,rfl⟩:=sY hv;simp only[J4]at sd;have gf:s0≠d:=by grind
 obtain⟨n,rfl⟩:∃n:Nat,h=n:=⟨h.toNat,by omega⟩;have hn:n≤xs.length:=by omega
 intro S;refine wK.value rfl fun a w G g9=>?_
 obtain⟨e1,e2,_⟩:=g9.ent s0 _ h0;have fg:=(wL g9 hy).1;have bS:a.eval (.tmp s0)=G.hd s0 []:=by rw[wH e1,xV rfl]
 have pV:=ht.un;have gO:=ht.info;have gw:=ht.size;have aw:List.map f ((xs.drop (0:Int).toNat).take ((n:Int).toNat-(0:Int).toNat))=(xs.map f).take n:=by simp
 rw[show L k f ((xs.drop (0:Int).toNat).take ((n:Int).toNat-(0:Int).toNat))=.sl k ((xs.map f).take n)by simp];have e2':=e2;simp only[R]at e2;rcases e2 with⟨bf,ad,h1⟩|⟨b,cap,cs,e',h1,h2,h3,h4,h5,h6,h7,h8⟩
 ·have fx:xs=[]:=by simp_all
  subst fx;simp at hn;subst hn;obtain⟨G',gm⟩:=zSn g9 (yM sd.1) (k:=k) (by grind) gf ad;refine⟨_,w,?_,G',by simpa using gm⟩;rcases hmx with rfl|⟨z,rfl,hz⟩
  ·simp[execOp,Instr.sliceAt,Instr.slice,run_underlying pV,bS,h1,fg,sizeOf,typeInfo,gO,Instr.sliceBounds,Instr.sliceBound,asIntOf]
  ·have mD:=(wL g9 hz).1
   simp[execOp,Instr.sliceAt,Instr.slice,run_underlying pV,bS,h1,fg,mD,sizeOf,typeInfo,gO,Instr.sliceBounds,Instr.sliceBound,asIntOf]
 ·rw[Je]at h1 h3
  have fP:n≤cap:=by omega
  have cG:cap=0→n=0:=by omega
  rcases hmx with rfl|⟨z,rfl,hz⟩
  ·obtain⟨G',gm⟩:=zOT g9 (yM sd.1) h0 gf ht.pos (by grind) h2 (by grind) h4 h5 h6 h7 h8 (h:=n) (cap':=cap) (by grind) fP (Jl _)
   refine⟨_,w,?_,G',gm⟩;simp[execOp,Instr.sliceAt,Instr.slice,run_underlying pV,bS,h1,fg,sizeOf,typeInfo,gO,Instr.sliceBounds,Instr.sliceBound,asIntOf,fP,uP]
  ·have mD:=(wL g9 hz).1
   obtain⟨G',gm⟩:=zOT g9 (yM sd.1) h0 gf ht.pos (by grind) h2 (by grind) h4 h5 h6 h7 h8 (h:=n) (cap':=n) (by grind) (Jl _) fP;refine⟨_,w,?_,G',gm⟩;simp[execOp,Instr.sliceAt,Instr.slice,run_underlying pV,bS,h1,fg,mD,sizeOf,typeInfo,gO,Instr.sliceBounds,Instr.sliceBound,asIntOf,fP,uP]
end
end Go.Ab

namespace Go.Ab
open Go
section
variable {P:Program}{Γ:Ctx}{pn:jX}{E E':Env}{Q:Exit→Env→Prop}{d:Nat}{x y:Operand}{ty:TypeId}{ps:String}{af:Array Edge}{gd:Option (Nat×Bool)}{ops:Array Oper}{os:List Oper}
theorem zQi{P:Program}{w:World}{t e:TypeId}{a:Option Addr}{n c:Nat}(m:Nat)(h:P.underlying t=iz (.slice e)):(Op.equalIn (m+1) t (.slice a n c) (.slice iA 0 0)).run P w=.ok a.isNone w:=by simp only[Op.equalIn,Sem.run_bind,run_underlying h];cases a<;>rfl
theorem RW.isnil{α:Type}{xt yt e:TypeId}{r k:Nat}{q:List Nat}{f:α→T}{xs:List α}{u:T}(hu:P.underlying xt=iz (.slice e))(hx:tS E x=iz (r,q,u))(pL:u=.ro (L k f xs)∨u=L k f xs)(sd:J7 d Γ.N=iB)(hp:pn.ok (iz d)=iB)
  (h:∀b,(b=iB→xs=[])→RW P Γ pn ops os (E.app [(d,iz (B b))] [(d,0)]) Q):RW P Γ pn ops (⟨iz d,.binOp .eql xt x (.const (.slice iA 0 0)) yt,ty,ps,af,iA⟩::os) E Q:=by
 intro a w Q' hs fJ hQ;obtain⟨S,hS,gN,G,g9⟩:=id hs;have fM:u.single=iB:=by rcases pL with rfl|rfl<;>rfl
 obtain⟨h1,h2⟩:=jI g9 hx fM;obtain⟨ad,n,c,h3,h4⟩:∃ad n c,a.eval x=.slice ad n c∧(ad.isNone=iB→xs=[]):=by
  rcases pL with rfl|rfl
  ·obtain⟨ad,c,g1,_,_,g2⟩:=zCX h1
   refine⟨ad,_,c,by rw[h2,g1],fun hn=>?_⟩;apply Classical.byContradiction;intro gf;obtain⟨b,o',_,_,_,rfl,_⟩:=g2 (by simpa using gf);simp at hn
  ·simp only[R]at h1
   rcases h1 with⟨g1,ad,g2⟩|⟨b,cap,cs,e',g1,_⟩
   ·exact⟨ad,0,0,by rw[h2,g2],fun _=>by simpa using g1⟩
   ·exact⟨_,_,_,by rw[h2,g1],fun hn=>by simp at hn⟩
 have gy:(execOp a.eval ⟨iz d,.binOp .eql xt x (.const (.slice iA 0 0)) yt,ty,ps,af,iA⟩).run P w=.ok (.value (.bool ad.isNone)) w:=by have h5:(Op.equalIn 10000 xt (.slice ad n c) (.slice iA 0 0)).run P w=.ok ad.isNone w:=zQi 9999 hu;have h6:a.eval (.const (.slice iA 0 0))=.slice iA 0 0:=rfl;simp[execOp,h3,h6,eqGuard,binOp,zLr,h5]
 simp only[wpL,Region.wanted,if_true];refine .inl ?_;unfold Oper.wp;rw[gy,Oper.upon_value];have fF:=vN g9 rfl (yM sd) (fun _=>.bool ad.isNone) (fun _=>rfl) (B ad.isNone) (.bool ad.isNone) (by simp[mkV,Gh.put]) (by simp[R,Gh.put]) (by simp[Top]);refine h ad.isNone h4 _ w Q' ⟨S,hS,gN,_,fF⟩ ?_ hQ;refine fJ.frame hp fun s gI=>?_
 have:d≠s:=fun e=>gI (by rw[e])
 simp[Act.put,Hx this]
theorem zLv{t e:TypeId}(hu:P.underlying t=iz (.slice e))(hx:opT E x=iz (.lit (.slice iA 0 0)))(sd:J7 d Γ.N=iB):Ok P Γ ⟨iz d,.call { callee:=.builtin .len,args:=#[x],argTypes:=#[t] },ty,ps,af,gd⟩ E (E.app [(d,iz (I 0))] [(d,0)]):=by
 intro S;refine zAY (.int .i64 0) rfl rfl (yM sd) fun a w G g9=>?_
 have h1:=(wL g9 hx).1;simp[execOp,resolve,invoke,builtin,h1,Builtin.len_,run_underlying hu,goInt]
theorem zLw{t e:TypeId}(hu:P.underlying t=iz (.slice e))(hx:opT E x=iz (.lit (.slice iA 0 0)))(sd:J7 d Γ.N=iB):Ok P Γ ⟨iz d,.call { callee:=.builtin .cap,args:=#[x],argTypes:=#[t] },ty,ps,af,gd⟩ E (E.app [(d,iz (I 0))] [(d,0)]):=by
 intro S;refine zAY (.int .i64 0) rfl rfl (yM sd) fun a w G g9=>?_
 have h1:=(wL g9 hx).1;simp[execOp,resolve,invoke,builtin,h1,Builtin.cap_,run_underlying hu,goInt]
theorem zV1{t e:TypeId}{ti:TypeInfo}{u:T}{k:Nat}(ht:ElT P t e ti k u)(hx:opT E x=iz (.lit (.slice iA 0 0)))(hy:opT E y=iz (I 0))(sd:J7 d Γ.N=iB):Ok P Γ ⟨iz d,.slice t x iA (iz y) iA,ty,ps,af,gd⟩ E (E.app [(d,iz (.sl k []))] [(d,0)]):=by
 intro S;refine wK.value rfl fun a w G g9=>?_
 have h1:=(wL g9 hx).1;have h2:=(wL g9 hy).1;refine⟨.slice iA 0 0,w,?_,_,vN g9 rfl (yM sd) (fun _=>.slice iA 0 0) (fun _=>rfl) (.sl k []) (.slice iA 0 0) (by simp[mkV,Gh.put]) (by simp[R,Gh.put]) (by simp[Top,xX,wC])⟩;simp[execOp,Instr.sliceAt,Instr.slice,run_underlying ht.un,h1,h2,sizeOf,typeInfo,ht.info,Instr.sliceBounds,Instr.sliceBound,asIntOf]
theorem zN.nil(s k:Nat)(hs:E s=iz (.lit (.slice iA 0 0))):zN Γ E (E.app [(s,iz (.sl k []))] [(s,0)]):=by
 rintro a w ⟨S,hS,gN,G,g9⟩
 refine⟨S,hS,gN,G,?_⟩;have hk:qY [(s,0)] G w G w:=⟨fun _ _ _=>rfl,fun _ _ _=>rfl,fun _ _ _ _ _ _ h _=>⟨h,rfl⟩,fun _ _ _ h _=>h,fun b cs e h=>⟨cs,h,rfl⟩⟩;refine vM g9 rfl hk g9.mem (fun s' gI=>⟨fun n hn=>?_,rfl⟩) fun s' t gI=>?_
 ·simp at hn
  simp[Wr.find,hn.1]at gI
 ·simp only[Wr.find]at gI
  split at gI
  ·rename_i e;subst e
   simp at gI;subst gI;obtain⟨h1,h2,_⟩:=g9.ent s _ hs;simp only[R]at h2;exact⟨by rw[h1];rfl,by simp only[R];exact .inl ⟨trivial,iA,h2⟩,by simp[Top,xX,wC]⟩
  ·cases gI
theorem zJS{src dst:TypeId}{ds:TypeDesc}{k k':IntKind}{n:Int}(hs:P.underlying src=iz ds)(ht:P.underlying dst=iz (.int k'))(hx:opT E x=iz (IK k n))(sd:J7 d Γ.N=iB):
  Ok P Γ ⟨iz d,.convert src dst x,ty,ps,af,gd⟩ E (E.app [(d,iz (IK k' (k'.wrap n)))] [(d,0)]):=fun _=>zVk src dst ds x k k' n rfl rfl (yM sd) hs ht hx
theorem zX9{k:IntKind}{m n:Int}{xt yt:TypeId}(hx:opT E x=iz (IK k m))(hy:opT E y=iz (IK k n))(sd:J7 d Γ.N=iB):Ok P Γ ⟨iz d,.binOp .add xt x y yt,ty,ps,af,gd⟩ E (E.app [(d,iz (IK k (k.wrap (m+n))))] [(d,0)]):=
 fun _=>sN .add xt yt x y k m n _ rfl rfl (yM sd) hx hy rfl
theorem zXA{k:IntKind}{m n:Int}{xt yt:TypeId}(hx:opT E x=iz (IK k m))(hy:opT E y=iz (IK k n))(sd:J7 d Γ.N=iB):Ok P Γ ⟨iz d,.binOp .mul xt x y yt,ty,ps,af,gd⟩ E (E.app [(d,iz (IK k (k.wrap (m*n))))] [(d,0)]):=
 fun _=>sN .mul xt yt x y k m n _ rfl rfl (yM sd) hx hy rfl
theorem zSo{k:IntKind}{m n:Int}{xt yt:TypeId}(hx:opT E x=iz (IK k m))(hy:opT E y=iz (IK k n))(sd:J7 d Γ.N=iB):Ok P Γ ⟨iz d,.binOp .gtr xt x y yt,ty,ps,af,gd⟩ E (E.app [(d,iz (B (decide (m> n))))] [(d,0)]):=
 fun _=>sN .gtr xt yt x y k m n _ rfl rfl (yM sd) hx hy rfl
def zGm(k:IntKind)(m n:Int):Int:=k.wrap ((BitVec.ofInt k.bits m &&& BitVec.ofInt k.bits n).toNat:Int)
theorem zXB{k:IntKind}{m n:Int}{xt yt:TypeId}(hx:opT E x=iz (IK k m))(hy:opT E y=iz (IK k n))(sd:J7 d Γ.N=iB):Ok P Γ ⟨iz d,.binOp .and xt x y yt,ty,ps,af,gd⟩ E (E.app [(d,iz (IK k (zGm k m n)))] [(d,0)]):=by
 intro S;refine zAY (.int k (zGm k m n)) rfl rfl (yM sd) fun a w G g9=>?_
 have h1:=(wL g9 hx).1;have h2:=(wL g9 hy).1;simp[execOp,h1,h2,eqGuard,binOp,Op.intBits,zGm]
theorem zXC{k k':IntKind}{m n:Int}{xt yt:TypeId}(hn:0≤n)(hx:opT E x=iz (IK k m))(hy:opT E y=iz (IK k' n))(sd:J7 d Γ.N=iB):Ok P Γ ⟨iz d,.binOp .shr xt x y yt,ty,ps,af,gd⟩ E (E.app [(d,iz (IK k (m.fdiv (2 ^ (min n.toNat k.bits)))))] [(d,0)]):=by
 intro S;refine zAY (.int k (m.fdiv (2 ^ (min n.toNat k.bits)))) rfl rfl (yM sd) fun a w G g9=>?_
 have h1:=(wL g9 hx).1;have h2:=(wL g9 hy).1;have h3:¬n<0:=by omega
 simp[execOp,h1,h2,eqGuard,binOp,Op.shift,h3]
end
end Go.Ab

namespace Go.Ab
open Go
structure zSp (P:Program) (f:Field) (i:Nat):Prop where
 name:f.name≠ "_"
 off:f.offset=i
 ty:P.underlying f.type=iz (.int .i64)
class zV2 (P:Program) (t:TypeId):Prop where
 h:∃f0 f1 f2 f3:Field,P.underlying t=iz (.struct #[f0,f1,f2,f3])∧zSp P f0 0∧zSp P f1 1∧zSp P f2 2∧zSp P f3 3
 st:P.stoodInHeld t=iC
 gd:P.eqGuardType P.depth t=iC
theorem zE2{P:Program}{w:World}{f:Field}{i:Nat}(h:zSp P f i)(cs:Array Value)(v:Value)(hv:cs[i]? =iz v):(part f.type cs f.offset).run P w=.ok v w:=by simp[part,jU h.ty,zFc,h.off,hv]
theorem zSq{P:Program}{w:World}{t:TypeId}(h:zV2 P t)(a b c d a' b' c' d':Int)(m:Nat):
  (Op.equalIn (m+2) t (.agg #[.int .i64 a,.int .i64 b,.int .i64 c,.int .i64 d]) (.agg #[.int .i64 a',.int .i64 b',.int .i64 c',.int .i64 d'])).run P w=.ok (a==a'&&(b==b'&&(c==c'&&d==d'))) w:=by
 obtain⟨f0,f1,f2,f3,h1,g0,g1,g2,g3⟩:=h.h;have k0:=fun(x y:Int)=>zGu (P:=P) (w:=w) (a:=x) (b:=y) m g0.ty
 have k1:=fun(x y:Int)=>zGu (P:=P) (w:=w) (a:=x) (b:=y) m g1.ty
 have k2:=fun(x y:Int)=>zGu (P:=P) (w:=w) (a:=x) (b:=y) m g2.ty
 have k3:=fun(x y:Int)=>zGu (P:=P) (w:=w) (a:=x) (b:=y) m g3.ty
 have gA:=h.st;rw[Op.equalIn];simp only[Sem.run_bind,run_underlying h1];have q0:=fun(a b c d:Int)=>zE2 (w:=w) g0 #[.int .i64 a,.int .i64 b,.int .i64 c,.int .i64 d] (.int .i64 a) rfl
 have q1:=fun(a b c d:Int)=>zE2 (w:=w) g1 #[.int .i64 a,.int .i64 b,.int .i64 c,.int .i64 d] (.int .i64 b) rfl
 have q2:=fun(a b c d:Int)=>zE2 (w:=w) g2 #[.int .i64 a,.int .i64 b,.int .i64 c,.int .i64 d] (.int .i64 c) rfl
 have q3:=fun(a b c d:Int)=>zE2 (w:=w) g3 #[.int .i64 a,.int .i64 b,.int .i64 c,.int .i64 d] (.int .i64 d) rfl
 by_cases e0:a=a'<;>by_cases e1:b=b'<;>by_cases e2:c=c'<;>by_cases e3:d=d'<;>
  simp[gA,g0.name,g1.name,g2.name,g3.name,q0,q1,q2,q3,k0,k1,k2,k3,e0,e1,e2,e3]
section
variable {P:Program}{Γ:Ctx}{E E':Env}{d:Nat}{x y:Operand}{ty:TypeId}{ps:String}{af:Array Edge}{gd:Option (Nat×Bool)}
theorem zXD{t t':TypeId}{s s':Nat}{a b c e a' b' c' e':Int}(h:zV2 P t)(hx:E s=iz (.agg [I a,I b,I c,I e]))(hy:E s'=iz (.agg [I a',I b',I c',I e']))(sd:J7 d Γ.N=iB):
  Ok P Γ ⟨iz d,.binOp .eql t (.tmp s) (.tmp s') t',ty,ps,af,gd⟩ E (E.app [(d,iz (B (a==a'&&(b==b'&&(c==c'&&e==e')))))] [(d,0)]):=by
 intro S;refine zAY _ rfl rfl (yM sd) fun A w G g9=>?_
 obtain⟨h1,h2,_⟩:=g9.ent s _ hx;obtain⟨h3,h4,_⟩:=g9.ent s' _ hy;simp only[R,RF]at h2 h4;have e1:A.eval (.tmp s)=.agg #[.int .i64 a,.int .i64 b,.int .i64 c,.int .i64 e]:=by rw[wH h1];simp[mkV,yI,vals,h2]
 have e2:A.eval (.tmp s')=.agg #[.int .i64 a',.int .i64 b',.int .i64 c',.int .i64 e']:=by rw[wH h3];simp[mkV,yI,vals,h4]
 have h5:(Op.equalIn 10000 t (.agg #[.int .i64 a,.int .i64 b,.int .i64 c,.int .i64 e]) (.agg #[.int .i64 a',.int .i64 b',.int .i64 c',.int .i64 e'])).run P w=_:=zSq (w:=w) h a b c e a' b' c' e' 9998;have hg:=h.gd;simp[execOp,e1,e2,eqGuard,binOp,zLr,h5,hg]
end
end Go.Ab

namespace Go.Ab
open Go
abbrev vI(n:Int):Value:=.int .i64 n
section
variable {Γ:Ctx}{E:Env}
theorem zLx{G:Gh}{tmps:Array Value}{w w':World}(g9:Rep Γ E G tmps w){s0:Nat}{xs us:List Int}(eB:E s0=iz (L 1 I xs))(gj:us.length=xs.length)
  {b cap:Nat}{cs cs':Array Value}{e:TypeId}(h1:G.hd s0 []=.slice (iz ⟨b,0,iA⟩) xs.length cap)(h2:w.heap[b]? =iz (.cells cs e (0,0)))(h3:xs.length≤cap)(h4:cap≤maxLen)(h5:cap*1≤cs.size)(h6:G.ow b=iz (s0,[]))
  (h7:∀o,xs.length*1≤o→o<cap*1→G.lb b o=iz (iB,s0,[]))(h8:RL Γ.St G w s0 (xs.map I) [] 0 b 0 1)
  (k1:w'.heap[b]? =iz (.cells cs' e (0,0)))(k2:cs'.size=cs.size)(k3:∀b',b'≠b→w'.heap[b']? =w.heap[b']?)(k4:w'.heap.size=w.heap.size)(ko:w'.os=w.os)(kq:w'.output=w.output)(k5:∀(i:Nat) u,us[i]? =iz u→cs'[i]? =iz (vI u)):
  ∃G',Rep Γ (E.app [(s0,iz (L 1 I us))] [(s0,1)]) G' tmps w':=by
 have hm:=g9.mem;obtain⟨e1,_,_⟩:=g9.ent s0 _ eB;have gJ:=hm.ow b _ h6
 let G':Gh:={ G with hd:=fun s z=>if s=s0 then(match z with
  | [i]=>(match us[i]? with
   |some u=>vI u
   |none=>G.hd s0 z)
  |_=>G.hd s0 z)else G.hd s z }
 have hB:Blk w w':=by
  intro b' cs2 e2 hb
  grind
 have gx:qY [(s0,1)] G w G' w':=by
  refine⟨fun s p ho=>?_,fun _ _ _=>rfl,fun b' o f s p hJ hl hs=>⟨hl,?_⟩,fun _ _ _ hl _=>hl,hB⟩
  ·by_cases h:s=s0
   ·subst h
    have:p=[]:=Ls (by have:=ho 1 (by simp);omega)
    grind
   grind
  ·have cK:s≠s0:=by grind
   obtain⟨y,hy⟩:=hJ;have co:b'≠b:=by grind
   grind[yS,World.cell?]
 have gu:Mem Γ G' w':=by
  refine⟨fun s z=>?_,fun b' o l hl=>?_,fun b' l hl=>?_,fun b' x hx=>?_,fun b' h h'=>?_,by rw[k4];exact hm.sz,hm.bk.trans hB ko kq⟩
  ·show(if _ then _ else _:Value).oneCell'=iB
   split
   ·split
    ·split
     ·rfl
     ·exact hm.one _ _
    ·exact hm.one _ _
   ·exact hm.one _ _
  ·have:=hm.lb b' o l hl;exact⟨by rw[k4];exact this.1,this.2⟩
  ·have:=hm.ow b' l hl;exact⟨by rw[k4];exact this.1,this.2⟩
  ·have:b'≠b:=by rintro rfl;rw[gJ.2.2]at hx;cases hx
   rw[k3 b' this];exact hm.st b' x hx
  ·have:b'≠b:=by
    rintro rfl
    rcases gJ.2.1 with h0|h0
    all_goals grind
   rw[k3 b' this];exact hm.fr b' h h'
 refine⟨G',vM g9 rfl gx gu ?_ ?_⟩
 ·intro s hs
  rw[sB]at hs
  grind
 ·intro s t' hs
  rw[sB]at hs;split at hs
  ·rename_i he;subst he
   simp at hs;subst hs;refine⟨by grind[mkV],?_,by simp only[Top];exact zDP zOO us⟩;simp only[R];refine .inr ⟨b,cap,cs',e,by grind,k1,by grind,h4,by omega,h6,by grind,?_⟩;refine zJE _ [] 0 b 0 fun i x hx=>?_
   rw[K4,L6]at hx;obtain⟨u,hu,rfl⟩:=hx;have hi:=(Jw.1 hu).1;obtain⟨g1,g2,_⟩:=jS _ [] 0 b 0 1 i (I xs[i]) h8 (by simp);simp only[Jf,Qg,Loc]at g1 ⊢
   refine⟨⟨g1.1,g1.2.1,?_⟩,rfl,by simp[R,G',hu]⟩
   grind[yS,World.cell?]
  ·cases hs
def zFX(P:Program)(Γ:Ctx)(E:Env)(y:Operand)(ys:List Int):Prop:=∀(a:Act)(w:World)(G:Gh),Rep Γ E G a.tmps w→ ∃xa c,a.eval y=.slice xa ys.length c∧
 ∀(n:Nat),n≤ys.length→(Builtin.firstCells 1 n (.slice xa ys.length c)).run P w=.ok ((ys.take n).map vI).toArray w
theorem zCf{P:Program}{w:World}{b o:Nat}{cs:Array Value}{e:TypeId}{fr:Nat×Nat}(hb:w.heap[b]? =iz (.cells cs e fr))(ys:List Int)(hv:∀(i:Nat) u,ys[i]? =iz u→cs[o+i]? =iz (vI u))(n:Nat)(hn:n≤ys.length)(len cap:Nat):
  (Builtin.firstCells 1 n (.slice (iz ⟨b,o,iA⟩) len cap)).run P w=.ok ((ys.take n).map vI).toArray w:=by
 refine run_firstCells_some (P:=P) w 1 n ⟨b,o,iA⟩ len cap _ (by simp;omega) fun j v hj=>?_
 rw[K4,L6]at hj;obtain⟨u,hu,rfl⟩:=hj
 grind[uP,World.cell?]
theorem zC3{P:Program}{w:World}{a:Option Addr}{c:Nat}:(Builtin.firstCells 1 0 (.slice a 0 c)).run P w=.ok #[] w:=by cases a<;>simp[Builtin.firstCells,loadCells,loadCellsFrom]
theorem zFX.ro{P:Program}{y:Operand}{ys:List Int}{r:Nat}{q:List Nat}(h:tS E y=iz (r,q,.ro (L 1 I ys))):zFX P Γ E y ys:=fun a w G g9=>by
 obtain⟨h1,h2⟩:=jI g9 h rfl;obtain⟨xa,c,g1,_,_,g2⟩:=zCX h1;rw[Je]at g1;refine⟨xa,c,by rw[h2,g1],fun n hn=>?_⟩
 by_cases hy:ys=[]
 ·grind[zC3]
 ·obtain⟨b,o,cs,e,fr,rfl,g3,g4⟩:=g2 (by grind)
  refine zCf (g9.mem.st b _ g3) ys (fun i u hu=>?_) n hn _ _;have:=zGr _ cs o 1 i (I u) g4 (by simp[hu]);simp only[RoC,Qg]at this
  grind
theorem zOU{G:Gh}{w:World}{s b:Nat}{q:List Nat}{cs:Array Value}{e:TypeId}{xs:List Int}{St:Stb}(h2:w.heap[b]? =iz (.cells cs e (0,0)))(h8:RL St G w s (xs.map I) q 0 b 0 1)(i:Nat)(u:Int)(hu:xs[i]? =iz u):cs[i]? =iz (vI u):=by
 obtain⟨g1,_,g3⟩:=jS _ q 0 b 0 1 i (I u) h8 (by simp[hu]);simp only[Loc,R,Jf,Qg]at g1 g3
 grind[yS,World.cell?]
theorem zFX.sub{P:Program}{s r:Nat}{q:List Nat}{tr:T}{xs ys:List Int}{l h:Int}(hs:E s=iz (.sub r q 1 l.toNat h.toNat))(hr:E r=iz tr)(hg:tr.get q.reverse=iz (L 1 I xs))(hv:yB xs l h=iz ys):zFX P Γ E (.tmp s) ys:=fun a w G g9=>by
 obtain⟨k1,k2,k3,rfl⟩:=sY hv;obtain⟨e1,e2,_⟩:=g9.ent s _ hs;obtain⟨_,e4,_⟩:=g9.ent r _ hr;simp only[R]at e2;have h5:=(zA2 q.reverse tr _ [] e4 hg).1;simp only[rp,Kn,Ja,R]at h5;have gj:((xs.drop l.toNat).take (h.toNat-l.toNat)).length=h.toNat-l.toNat:=by simp;omega
 rw[gj];have bS:a.eval (.tmp s)=G.hd s []:=by rw[wH e1,xV rfl]
 rcases h5 with⟨g1,ad,g2⟩|⟨b,cap,cs,e,g1,g2,g3,_,_,_,_,g8⟩
 ·have hy:xs=[]:=by simp_all
  grind[zBg,zC3]
 ·rw[Je]at g1 g3
  refine⟨if cap=l.toNat then iz ⟨b,0,iA⟩else iz ⟨b,l.toNat,iA⟩,cap-l.toNat,by rw[bS,e2,g1];simp only[zBg,Ho,uP,Jf,Qg],fun n hn=>?_⟩;split
  ·have:n=0:=by omega
   subst this;rfl
  ·refine zCf g2 _ (fun i u hu=>?_) n (by omega) _ _
   grind[zOU]
def zC4(Γ:Ctx)(E:Env)(x:Operand)(s0 lo hi:Nat):Prop:=∀(a:Act)(w:World)(G:Gh),Rep Γ E G a.tmps w→a.eval x=zBg (G.hd s0 []) 1 lo hi
theorem zC4.slot{s0:Nat}{xs:List Int}(h:E s0=iz (L 1 I xs)):zC4 Γ E (.tmp s0) s0 0 xs.length:=fun a w G g9=>by obtain⟨e1,e2,_⟩:=g9.ent s0 _ h;obtain⟨ad,c,g⟩:=zJ8 e2;rw[Je]at g;rw[wH e1,xV rfl,g];simp[zBg];intro;cases ad<;>simp[Addr.add]
theorem zC4.same{s s0:Nat}{xs:List Int}(hs:E s=iz (.same s0 []))(h:E s0=iz (L 1 I xs)):zC4 Γ E (.tmp s) s0 0 xs.length:=fun a w G g9=>by obtain⟨e1,e2,_⟩:=g9.ent s _ hs;have:=zC4.slot h a w G g9;obtain⟨e3,_,_⟩:=g9.ent s0 _ h;simp only[R]at e2;rw[wH e3,xV rfl]at this;rw[wH e1,xV rfl,e2];exact this
theorem zC4.sub{s s0 lo hi:Nat}(hs:E s=iz (.sub s0 [] 1 lo hi)):zC4 Γ E (.tmp s) s0 lo hi:=fun a w G g9=>by obtain⟨e1,e2,_⟩:=g9.ent s _ hs;simp only[R]at e2;rw[wH e1,xV rfl,e2]
end
theorem zQj{α:Type}{xs ys:List α}{l h:Int}(hv:yB xs l h=iz ys):l.toNat≤h.toNat:=by have:=sY hv;omega
theorem zQk{α:Type}{xs ys:List α}{l h:Int}(hv:yB xs l h=iz ys):h.toNat≤xs.length:=by have:=sY hv;omega
theorem zOV{α:Type}(l z:List α)(lo i:Nat)(ex:lo+z.length≤l.length):(l.take lo++z++l.drop (lo+z.length))[i]? =if i<lo then l[i]? else if i<lo+z.length then z[i-lo]? else l[i]?:=by
 have hm:min lo l.length=lo:=by omega
 grind
def xJ(xs:List Int)(lo:Nat)(zs:List Int):List Int:=xs.take lo++zs++xs.drop (lo+zs.length)
theorem zJT{P:Program}{Γ:Ctx}{E:Env}{d s0 lo hi:Nat}{x y:Operand}{ty:TypeId}{ps:String}{af:Array Edge}{gd:Option (Nat×Bool)}{t t2 e:TypeId}{ti:TypeInfo}{u:T}{xs ys:List Int}(ht:ElT P t e ti 1 u)(h0:E s0=iz (L 1 I xs))(hx:∀S,zC4 (Γ.at S) E x s0 lo hi)(hy:∀S,zFX P (Γ.at S) E y ys)(h1:lo≤hi)(h2:hi≤xs.length)(sd:(J7 d Γ.N&&(s0 != d))=iB):
  Ok P Γ ⟨iz d,.call { callee:=.builtin .copy,args:=#[x,y],argTypes:=#[t,t2] },ty,ps,af,gd⟩ E ((E.app [(s0,iz (L 1 I (xJ xs lo (ys.take (hi-lo)))))] [(s0,1)]).app [(d,iz (I ((min ys.length (hi-lo):Nat):Int)))] [(d,0)]):=by
 simp only[J4]at sd;have gf:s0≠d:=by grind
 intro S;refine wK.value rfl fun a w G g9=>?_
 obtain⟨e1,e2,_⟩:=g9.ent s0 _ h0;obtain⟨xa,c,g1,g2⟩:=hy S a w G g9;have g3:=hx S a w G g9;have eH:min ys.length (hi-lo)≤ys.length:=by omega
 have g4:=g2 _ eH;have ep:ys.take (hi-lo)=ys.take (min ys.length (hi-lo)):=by grind
 rw[ep]
 generalize hn:min ys.length (hi-lo)=n at*
 have mC:(ys.take n).length=n:=by simp;omega
 have gj:(xJ xs lo (ys.take n)).length=xs.length:=by grind[xJ]
 have key:∃w',(Builtin.copy_ #[t,t2] ty #[a.eval x,a.eval y]).run P w=.ok (goInt n) w'∧ ∃G',Rep (Γ.at S) (E.app [(s0,iz (L 1 I (xJ xs lo (ys.take n))))] [(s0,1)]) G' a.tmps w':=by
  have e2':=e2;simp only[R]at e2;rcases e2 with⟨k1,ad,k2⟩|⟨b,cap,cs,e',k1,k2,k3,k4,k5,k6,k7,k8⟩
  ·have fx:xs=[]:=by simp_all
   subst fx;simp at h2;subst h2;have av:n=0:=by omega
   subst av;have ex:lo=0:=by omega
   subst ex;refine⟨w,?_,G,?_⟩
   ·rw[g3,k2,g1]
    cases ad<;>cases xa<;>simp[zBg,Builtin.copy_,run_underlying ht.un,Builtin.lenOf,sizeOf,typeInfo,ht.info,Builtin.firstCells,loadCells,loadCellsFrom,storeCells]
   ·refine vM g9 rfl ⟨fun _ _ _=>rfl,fun _ _ _=>rfl,by grind,fun _ _ _ h _=>h,fun b cs e h=>⟨cs,h,rfl⟩⟩ g9.mem (fun s hs=>⟨by grind[Wr.find],rfl⟩) fun s t' hs=>?_
    rw[sB]at hs;split at hs
    ·rename_i he;subst he
     simp at hs;subst hs;simpa[xJ]using g9.ent s0 _ h0
    ·cases hs
  ·rw[Je]at k1 k3 k7
   have gw:cap≤cs.size:=by omega
   have gA:=run_storeCells_at P b lo e' ((ys.take n).map vI) 0 cs w k2 (by simp;omega) (by intro v hv;obtain⟨u,_,rfl⟩:=Jt.1 hv;rfl);simp only[G9,Je]at gA
   generalize eI:w.setRow b (cs.toList.take lo++(ys.take n).map vI++cs.toList.drop (lo+(ys.take n).length)).toArray=w' at gA
   have gC:cs.toList.length=cs.size:=rfl
   by_cases mc:cap=lo
   ·have av:n=0:=by omega
    subst av;refine⟨w,?_,G,?_⟩
    ·rw[g3,k1,g1]
     have g5:(Builtin.firstCells 1 0 (.slice xa ys.length c)).run P w=.ok #[] w:=by grind
     simp[zBg,Builtin.copy_,run_underlying ht.un,Builtin.lenOf,sizeOf,typeInfo,ht.info,ht.size,show hi-lo=0 by omega,g5,storeCells,mc]
    ·refine vM g9 rfl ⟨fun _ _ _=>rfl,fun _ _ _=>rfl,by grind,fun _ _ _ h _=>h,fun b cs e h=>⟨cs,h,rfl⟩⟩ g9.mem (fun s hs=>⟨by grind[Wr.find],rfl⟩) fun s t' hs=>?_
     rw[sB]at hs;split at hs
     ·rename_i he;subst he
      simp at hs;subst hs;simpa[xJ]using g9.ent s0 _ h0
     ·cases hs
   ·refine⟨w',?_,zLx g9 h0 gj k1 k2 k3 k4 k5 k6 k7 k8 (by rw[←eI];exact setRow_heap w b cs _ e' _ k2) ?_ (by grind[setRow_other]) (by grind[size_setRow]) (by rw[←eI];rfl) (by rw[←eI];rfl) fun i v hv=>?_⟩
    ·rw[g3,k1,g1]
     have h9:Nat.min ys.length (hi-lo)=n:=hn;simp only[zBg,mc,if_false,Ho,uP,Jf,Qg];simp only[Builtin.copy_];rw[Jbk]at gA;simp[run_underlying ht.un,Builtin.lenOf,sizeOf,typeInfo,ht.info,ht.size,h9,g4,gA]
    ·grind
    ·rw[xJ,zOV _ _ _ _ (by omega)]at hv
     have h11:lo+((ys.take n).map vI).length≤cs.toList.length:=by simp;omega
     have h10:=zOV cs.toList ((ys.take n).map vI) lo i h11;rw[Je]at h10;rw[List.getElem?_toArray,h10];have pX:=fun i u hu=>zOU k2 k8 i u hu
     by_cases c1:i<lo
     ·grind
     ·rw[if_neg c1]at hv ⊢
      by_cases c2:i<lo+(ys.take n).length
      ·rw[if_pos c2]at hv ⊢
       rw[K4,hv];rfl
      grind
 obtain⟨w',gy,G',gm⟩:=key;refine⟨_,w',?_,_,vN gm rfl (yM sd.1) (fun _=>vI n) (fun _=>rfl) (I n) (vI n) (by simp[mkV,Gh.put]) (by simp[R,Gh.put]) (by simp[Top])⟩;simp[execOp,resolve,invoke,builtin,gy,goInt]
end Go.Ab

namespace Go.Ab
open Go
theorem zIY{G G':Gh}{s d:Nat}(hd:∀z,G'.hd d z=G.hd s z):(xs:List T)→yV xs=iB→ ∀(j:Nat),jG G' d (cpF s xs [] j) [] j=jG G s xs [] j
 | [],_,_=>by simp only[cpF,jG]
 |x::xs,h,j=>by
  simp only[yV,J4]at h;simp only[cpF,jG];have eh:∀ys,x≠.tup ys:=by rintro ys rfl;simp[T.okTup]at h
  have h1:=zA3 (G:=G) (G':=G') (s:=s) (d:=d) x [j] [j] eh (fun z=>hd _);have h2:∀ys,cpT s x [j]≠.tup ys:=by intro ys;cases x<;>simp[cpT]
  rw[kP _ _ _ _ h2]at h1;rw[h1,zIY hd xs h.2 (j+1)]
section
variable {P:Program}{Γ:Ctx}{E E':Env}{d:Nat}{x y:Operand}{ty:TypeId}{ps:String}{af:Array Edge}{gd:Option (Nat×Bool)}
theorem zWJ{s:Nat}{ts:List T}(hx:E s=iz (.tup ts))(sd:(J7 d Γ.N&&yV ts&&(s != d)&&zKM [(d,0)] (cpF s ts [] 0))=iB):Ok P Γ ⟨iz d,.move (.tmp s),ty,ps,af,gd⟩ E (E.app [(d,iz (.tup (cpF s ts [] 0)))] [(d,0)]):=by
 simp only[J4]at sd;obtain⟨⟨⟨s1,s2⟩,s3⟩,s4⟩:=sd;have gf:s≠d:=by simpa using s3
 intro S;refine wK.value rfl fun a w G g9=>?_
 obtain⟨h1,h2,_⟩:=g9.ent s _ hx;simp only[R]at h2;have hk:=G.put_keep (w:=w) (w':=w) rfl d (fun z=>G.hd s z);have hz:∀z,(G.put d (fun z=>G.hd s z)).hd d z=G.hd s z:=fun z=>by rw[Gh.put_self]
 have tu:∀(xs:List T)(j:Nat),vQ (cpF s xs [] j):=by
  intro xs
  induction xs with
  |nil=>intro j;simp only[cpF,vQ]
  |cons x xs ih=>intro j;simp only[cpF,vQ];exact⟨qT s x _,ih _⟩
 refine⟨mkV G s (.tup ts) [],w,?_,_,vN g9 rfl (yM s1) (fun z=>G.hd s z) (fun z=>g9.mem.one _ _) _ _ (by simp only[mkV];rw[zIY hz ts s2 0])
  (by simp only[R];exact zJ6 (fun p=>G.put_other _ p gf) ts [] [] 0 (fun z=>hz _) (wC.mono (fun r p hr=>⟨hk.hd r p hr,hk.ad r p hr⟩) _ (zGD _ (tu ts 0) s4)) h2) (by simp only[Top];exact tu ts 0)⟩
 simp[execOp,wH h1]
end
end Go.Ab

namespace Go.Ab
open Go
section
variable (ds r:Nat)
inductive zQl:Env→List (Nat×List Nat)→Env→Prop where
 |nil (E:Env):zQl E [] E
 |cons {E E':Env}{l:List (Nat×List Nat)} (j:Nat) (q:List Nat) (td td' tr tr' u:T) (hd:E ds=iz td) (hg:td.get [j]=iz (.same r q)) (hr:E r=iz tr) (hp:tr.get q.reverse=iz u) (eA:yD u)
   (mR:td.set [j] u=td') (cY:tr.set q.reverse .any=tr') (sd:(u.single&&td.okB [(ds,2),(r,q.length+1)]&&tr.okB [(ds,2),(r,q.length+1)]&&xN td&&xN tr&&(ds != r)&& !q.isEmpty)=iB)
   (h:zQl (E.app [(ds,iz td'),(r,iz tr')] [(ds,2),(r,q.length+1)]) l E'):zQl E ((j,q)::l) E'
inductive zIZ:Env→List (Nat×List Nat)→Env→Prop where
 |nil (E:Env):zIZ E [] E
 |cons {E E':Env}{l:List (Nat×List Nat)} (j:Nat) (q:List Nat) (td td' tr tr' u v0:T) (hd:E ds=iz td) (hg:td.get [j]=iz u) (hr:E r=iz tr) (hp:tr.get q.reverse=iz v0) (eA:yD u)
   (mR:td.set [j] .any=td') (cY:tr.set q.reverse u=tr') (sd:(u.single&&v0.single&&td.okB [(r,q.length+1),(ds,2)]&&tr.okB [(r,q.length+1),(ds,2)]&&xN td&&xN tr&&(ds != r)&& !q.isEmpty)=iB)
   (h:zIZ (E.app [(r,iz tr'),(ds,iz td')] [(r,q.length+1),(ds,2)]) l E'):zIZ E ((j,q)::l) E'
end
theorem zOW{g z:List Nat}(h:g<:+z)(hn:z≠g):g.length<z.length:=by
 have h1:=h.length_le;rcases Jj g.length z.length with h2|h2
 ·exact h2
 ·exact absurd (h.eq_of_length (by omega)).symm hn
theorem zQl.rep{Γ:Ctx}{tmps:Array Value}{w:World}{ds r:Nat}{E E':Env}{l:List (Nat×List Nat)}(h:zQl ds r E l E'):∀{G:Gh},Rep Γ E G tmps w→
  ∃G',Rep Γ E' G' tmps w∧(∀z,G'.hd r z=G.hd r z)∧(∀j,G'.hd ds [j]=G.hd ds [j])∧ ∀x∈l,G.hd ds [x.1]=G.hd r x.2:=by
 induction h with
 |nil E=>intro G hr;exact⟨G,hr,fun _=>rfl,fun _=>rfl,fun x hx=>by simp at hx⟩
 |cons j q td td' tr tr' u hd hg hr hp eA mR cY sd _ ih=>
  intro G g9;simp only[J4]at sd;obtain⟨⟨⟨⟨⟨⟨s1,s2⟩,s3⟩,s4⟩,s5⟩,s6⟩,s7⟩:=sd;have gf:ds≠r:=by simpa using s6
  have hq:q≠[]:=by rintro rfl;simp at s7
  have gL:G.hd ds [j]=G.hd r q:=by have:=(zA2 [j] td _ [] (g9.ent ds td hd).2.1 hg).1;simpa[rp,R]using this
  obtain⟨h1,h2⟩:=zDK g9 ds [j] r q td tr u (.same r q) hd (by simpa using hg) rfl gL hr hp s1 eA gf (by simpa using s2) (by simpa using s3) s4 s5;rw[if_neg hq,show([j]:List Nat).reverse=[j]from rfl,mR,cY]at h1;obtain⟨G',g1,g2,g3,g4⟩:=ih (by simpa using h1);have e1:∀z,(G.tr ds [j] r q).hd r z=G.hd r z:=fun z=>h2 r z (fun h=>gf h.1.symm)
  have e2:∀i,(G.tr ds [j] r q).hd ds [i]=G.hd ds [i]:=fun i=>h2 ds [i] (fun h=>by have:=zOW h.2.1 h.2.2;simp at this)
  refine⟨G',g1,fun z=>by rw[g2,e1],fun i=>by rw[g3,e2],fun x hx=>?_⟩;rcases Jc.1 hx with rfl|hx
  ·exact gL
  ·have:=g4 x hx
   rw[e1,e2]at this;exact this
theorem zIZ.rep{Γ:Ctx}{tmps:Array Value}{w:World}{ds r:Nat}{E E':Env}{l:List (Nat×List Nat)}(m:Nat)(h:zIZ ds r E l E'):(∀x∈l,x.2.length=m)→ ∀{G:Gh},Rep Γ E G tmps w→(∀x∈l,G.hd ds [x.1]=G.hd r x.2)→ ∃G',Rep Γ E' G' tmps w:=by
 induction h with
 |nil E=>intro _ G hr _;exact⟨G,hr⟩
 | @cons E E' l j q td td' tr tr' u v0 hd hg hr hp eA mR cY sd _ ih=>
  intro hm G g9 aZ;simp only[J4]at sd;obtain⟨⟨⟨⟨⟨⟨⟨s1,s1'⟩,s2⟩,s3⟩,s4⟩,s5⟩,s6⟩,s7⟩:=sd;have gf:ds≠r:=by simpa using s6
  have hq:q≠[]:=by rintro rfl;simp at s7
  obtain⟨h1,h2⟩:=zDK g9 r q ds [j] tr td u v0 hr hp s1' (aZ (j,q) (by simp)).symm hd (by simpa using hg) s1 eA (Ne.symm gf) (by simpa using s3) (by simpa using s2) s5 s4;rw[if_neg (by simp),show([j]:List Nat).reverse=[j]from rfl,mR,cY]at h1;refine ih (fun x hx=>hm x (by simp[hx])) (by simpa using h1) fun x hx=>?_
  have e1:∀z,(G.tr r q ds [j]).hd ds z=G.hd ds z:=fun z=>h2 ds z (fun h=>gf h.1)
  by_cases hz:q<:+x.2∧x.2≠q
  ·have h3:=zOW hz.1 hz.2
   rw[hm x (by simp[hx]),hm (j,q) (by simp)]at h3;omega
  ·have e2:(G.tr r q ds [j]).hd r x.2=G.hd r x.2:=h2 r x.2 (fun h=>hz h.2)
   rw[e1,e2];exact aZ x (by simp[hx])
theorem zFY{G G':Gh}{s:Nat}:(xs ys:List T)→(∀x∈xs,x.single=iB)→(∀x∈ys,x.single=iB)→xs.length=ys.length→ ∀(j:Nat),yI G s xs [] j=yI G' s ys [] j→ ∀i,i<xs.length→G.hd s [j+i]=G'.hd s [j+i]
 | [],_,_,_,_,_,_,i,hi=>by simp at hi
 |x::xs,[],_,_,hl,_,_,_,_=>by simp at hl
 |x::xs,y::ys,h1,h2,hl,j,h,i,hi=>by
  have v1:∀(G:Gh)(t:T)(p:List Nat),t.single=iB→vals G s t p=[G.hd s p]:=fun G t p ht=>by cases t<;>simp[T.single]at ht<;>simp[vals]
  simp only[yI,v1 G x _ (h1 x (by simp)),v1 G' y _ (h2 y (by simp)),Lx,Qt.injEq]at h;cases i with
  |zero=>exact h.1
  |succ i=>
   have:=zFY xs ys (fun z hz=>h1 z (by simp[hz])) (fun z hz=>h2 z (by simp[hz])) (by simpa using hl) (j+1) h.2 i (by simpa using hi);rw[show j+(i+1)=j+1+i by omega];exact this
def zE3:List T→Bool
 | []=>iB
 |x::xs=>x.single&&zE3 xs
theorem zDS:{xs:List T}→zE3 xs=iB→ ∀x∈xs,x.single=iB
 | [],_,_,h=>by simp at h
 |x::xs,h,y,hy=>by
  simp only[zE3,J4]at h;rcases Jc.1 hy with rfl|hy
  ·exact h.1
  ·exact zDS h.2 y hy
theorem zOX{P:Program}{Γ:Ctx}{E E1 E3:Env}{d:Nat}{ty:TypeId}{ps:String}{af:Array Edge}{gd:Option (Nat×Bool)}{f:FuncId}{xs:List Operand}{ats:Array TypeId}{us res:List T}{ts ts':List T}(i ds r:Nat)(l:List (Nat×List Nat))(m:Nat)(gp:zA8 P f)(hc:FnC P f us res [(i,.agg ts')])
  (gO:zQl ds r E l E1)(hs:E1 ds=iz (.agg ts))(ej:yD (.agg ts'))(cN:wZ (.agg ts')=iB)(gc:wB E1 [(i,ds,.agg ts')] 0 xs us)(gk:kS res)
  (uh:zIZ ds r (E1.app (cWr d res [(i,ds,.agg ts')]) (uD d [(i,ds,.agg ts')])) l E3)
  (sd:(J7 d Γ.N&&(d != ds)&&(d != r)&&(ds != r)&&zE3 ts&&zE3 ts'&&(ts.length==ts'.length)&&(l.all fun x=>x.2.length==m&&J7 x.1 ts.length))=iB)(hx:xs[i]? =iz (.tmp ds))(hu:us[i]? =iz (.agg ts)):
  Ok P Γ ⟨iz d,.call { callee:=.value (.func f),args:=xs.toArray,argTypes:=ats },ty,ps,af,gd⟩ E E3:=by
 simp only[J4]at sd;obtain⟨⟨⟨⟨⟨⟨⟨s1,s2⟩,s3⟩,s4⟩,s5⟩,s6⟩,s7⟩,s8⟩:=sd;have d1:d≠ds:=by simpa using s2
 have d2:d≠r:=by simpa using s3
 have d3:ds≠r:=by simpa using s4
 have gj:ts.length=ts'.length:=by simpa using s7
 have hl:∀x∈l,x.2.length=m∧x.1<ts.length:=fun x hx=>by have:=Ki.1 s8 x hx;simp only[J4,beq_iff_eq]at this;exact⟨this.1,yM this.2⟩
 intro S a w K Q ⟨gN,G,g9⟩ hK;refine zCx (xf:=.func f) rfl rfl gp rfl ?_;obtain⟨G1,g1,g2,g3,g4⟩:=gO.rep g9;refine(zGZ g1 (yM s1) f xs us res [(i,ds,.agg ts')] hc gc (zGY.one' (u:=.agg ts) d1 hx ej rfl cN hs hu) gk).mono ?_
 rintro e w' ⟨v,rfl,S',G',hS,hk,gm⟩
 have gK:(E1.app (cWr d res [(i,ds,.agg ts')]) (uD d [(i,ds,.agg ts')])) ds=iz (.agg ts'):=by simp[Env.app,Wr.find,cWr,d1]
 have hv:mkV G' ds (.agg ts') []=mkV G1 ds (.agg ts) []:=by have a1:=(gm.ent ds _ gK).1;have a2:=(g1.ent ds _ hs).1;rw[Jk]at a1;simp only[d1,if_false]at a1;rw[a2]at a1;exact(Ld.inj a1).symm
 simp only[mkV,Value.agg.injEq]at hv;have fy:yI G' ds ts' [] 0=yI G1 ds ts [] 0:=by simpa using congrArg Array.toList hv
 have br:=zFY ts' ts (zDS s6) (zDS s5) gj.symm 0 fy;obtain⟨G3,hG3⟩:=uh.rep m (fun x hx=>(hl x hx).1) gm fun x hx=>by have h1:=br x.1 (by have:=(hl x hx).2;omega);rw[Jf]at h1;have h2:G'.hd r x.2=G1.hd r x.2:=hk.hd r x.2 (fun n hn=>by simp[uD]at hn;rcases hn with⟨e,_⟩|⟨e,_⟩;exact absurd e.symm d2;exact absurd e.symm d3);rw[h1,h2,g2,g3];exact g4 x hx
 exact⟨v,rfl,hK _ _ ⟨S',hS,gN,G3,hG3⟩⟩
end Go.Ab

namespace Go.Ab
open Go
section
variable {P:Program}{Γ:Ctx}{E:Env}{d:Nat}{x:Operand}{ty:TypeId}{ps:String}{af:Array Edge}{gd:Option (Nat×Bool)}
class zV3 (P:Program) (t:TypeId) (e:outParam TypeId) (ti:outParam TypeInfo) (n:outParam Nat) (k:outParam Nat):Prop where
 un:P.underlying t=iz (.array n e)
 info:P.info? e=iz ti
 size:ti.size=k
theorem zWK{t e:TypeId}{ti:TypeInfo}{n k r:Nat}{q:List Nat}{xs:List T}{u:T}(i:Nat)(ht:zV3 P t e ti n k)(hx:tS E x=iz (r,q,.ptr (.agg xs)))(hu:xs[i]? =iz u)(gF:T.sizes (xs.take i)=i*k)(sd:(J7 d Γ.N&&J7 i n)=iB):
  Ok P Γ ⟨iz d,.indexAddr t x (.const (.int .i64 i)),ty,ps,af,gd⟩ E (E.app [(d,iz (.addr r (i::0::q)))] [(d,0)]):=by
 simp only[J4]at sd;have gO:=yM sd.2;intro S;refine wK.value rfl fun a w G g9=>?_
 obtain⟨g1,g2⟩:=jI g9 hx rfl;simp only[R]at g1;obtain⟨b,cs,e',g4,_,_,_,g5,_⟩:=g1;simp only[Loc]at g5;have g6:=zCo xs (0::q) 0 b 0 i u g5.2 hu;simp only[Jf]at g6;have g3:a.eval (.const (.int .i64 i))=.int .i64 i:=rfl;refine⟨.pointer (iz (G.ad r (i::0::q))),w,?_,_,vN g9 rfl (yM sd.1) (fun _=>.pointer (iz (G.ad r (i::0::q)))) (fun _=>rfl) _ _ (by simp[mkV,Gh.put]) (by simp[R,Gh.put]) (by simp[Top])⟩;have gE:(i:Int)<(n:Int):=by omega
 have h0:(0:Int)≤i:=by omega
 have g7:=zBC g6;have bp:i<n:=gO;simp[execOp,Instr.indexAt,g3,g2,g4,asIntOf,run_underlying ht.un,h0,bp,sizeOf,typeInfo,ht.info,ht.size,uP,sG,g7,gF]
end
end Go.Ab
namespace Go.Ab
open Go
theorem zAQ{E:Env}{ds r s:Nat}{q:List Nat}{tr u t:T}(h:E s=iz t)(gf:(Jbf ds s||Jbf r s)=iC:=by rfl)(hb:t.okB [(ds,1),(r,q.length+1)]=iB:=by rfl):opT (vT E ds r q tr u) (.tmp s)=iz t:=by
 have h1:ds≠s:=by rintro rfl;simp at gf
 have h2:r≠s:=by rintro rfl;simp at gf
 simp[opT,vT,Env.app,Wr.find,h1,h2,h,hb]
end Go.Ab
namespace Go.Ab
open Go
section
variable {P:Program}{Γ:Ctx}{pn:jX}{E E':Env}{Q Q1:Exit→Env→Prop}{c c1 c2:Code}{ops:Array Oper}{o:Oper}{os:List Oper}{id:Nat}
theorem sR(h:RW P Γ pn ops ops.toList E (wN P Γ pn c Q)):CW P Γ pn (.seq (.region id ops iC) c) E Q:=CW.seq (CW.region h)
theorem rN(h:CW P Γ pn c E Q):RW P Γ pn ops [] E (wN P Γ pn c Q):=RW.nil h
theorem oP(h:Ok P Γ o E E')(k:RW P Γ pn ops os E' Q)(hg:o.guard=iA:=by rfl)(hp:pn.ok o.dst=iB:=by rfl):RW P Γ pn ops (o::os) E Q:=RW.op h k hg hp
def zXE(ops:List Oper):List (List Nat):=(ops.foldl (fun(acc:Array (List Nat)) o=>acc.push ((zBr o).foldl (fun l m=>m::(acc.getD m [])++l) [])) #[]).toList
theorem CW.lp{σ ρ:Type}(body:σ→Option (σ⊕ρ))(en:σ→Env)(Q1:ρ→Exit→Env→Prop){s:σ}{r:ρ}(hg:zN Γ E (en s))(h:∀s x,body s=iz x→CW P Γ pn c (en s) (uR Γ en Q1 x))(hr:zH body s=iz r)(hq:∀e E',Q1 r e E'→Q e E'):CW P Γ pn (.loop c) E Q:=
 (CW.mono (CW.loop body en Q1 h hr) hq).ghost hg
end
end Go.Ab

namespace Go.Ab
open Go Go.ChangeShapes
abbrev zLy(w:World):Stb:=fun b=>w.heap[b]?
theorem zQm{w:World}{a:Addr}{n:Nat}{cs:List Value}(h:w.cells? 0 a n=iz cs):cs.length=n∧ ∀(i:Nat) v,cs[i]? =iz v→w.cell? (a.add i)=iz v:=by
 unfold World.cells? at h;rw[if_pos (L7 _)]at h;refine⟨by simpa using mapM_some_length h,fun i v hv=>?_⟩;have hi:i<n:=by grind[mapM_some_length,Kt]
 rw[←hv];exact mapM_some_get h i i (by simp[hi])
theorem zOY{w:World}{a:Addr}{v:Value}(h:w.cell? a=iz v):a.spot=iA∧ ∃c e fr,w.heap[a.block]? =iz (.cells c e fr)∧c[a.off]? =iz v:=by
 simp only[World.cell?]at h;split at h
 all_goals simp_all
theorem zLz{b o m:Nat}:(Addr.mk b o iA).add m=⟨b,o+m,iA⟩:=by grind[Addr.add]
theorem zFZ{α:Type}{Q:Nat→α→Prop}:∀(n:Nat),(∀i,i<n→ ∃x,Q i x)→ ∃xs:List α,xs.length=n∧ ∀i x,xs[i]? =iz x→Q i x
 |0,_=>by simp
 |n+1,h=>by
  obtain⟨xs,h1,h2⟩:=zFZ n fun i hi=>h i (by omega)
  obtain⟨y,hy⟩:=h n (by omega);refine⟨xs++[y],by simp[h1],fun i x hx=>?_⟩
  grind
theorem zOZ{St:Stb}:(xs:List T)→ ∀(cs:Array Value)(o k:Nat),(∀i x,xs[i]? =iz x→RoC St x cs (o+i*k))→RoL St xs cs o k
 | [],_,_,_,_=>by grind[RoL]
 |x::xs,cs,o,k,h=>by
  simp only[RoL];refine⟨by simpa using h 0 x rfl,zOZ xs cs (o+k) k fun i y hy=>?_⟩;have:=h (i+1) y (by grind)
  grind
section
variable {P:Program}
def RdT(P:Program)(t:TypeId)(k:Nat){α:Type}(f:α→T)(V:α→Prop):Prop:=
 ∀{H:Type}(enc:TypeId×Value→H)(w:World)(fuel:Nat)(cs:List Value)(x:DataW H×List MemPlace),DataW.trod enc P w 0 (fun _=>iB) iB fuel t cs=iz x→
  cs.length=k→ ∃d,V d∧ ∀(A:Array Value)(o:Nat),(∀(i:Nat) v,cs[i]? =iz v→A[o+i]? =iz v)→RoC (zLy w) (f d) A o
theorem zXF{t:TypeId}{q:IntKind}(hu:P.underlying t=iz (.int q)):RdT P t 1 (IK q) (fun n=>(Lit.int q n).wf=iB):=by intro H enc w fuel cs x h _;obtain⟨n,rfl,_,hw⟩:=DataW.trod_int hu h;exact⟨n,hw,fun A o hA=>by simp only[RoC];exact⟨by simpa using hA 0 _ rfl,rfl⟩⟩
theorem zXG{α:Type}{f:α→T}{V:α→Prop}{t e:TypeId}{k:Nat}(hu:P.underlying t=iz (.slice e))(hk:P.cellsOf e=k)(f7:0<k)(h:RdT P e k f V):
  RdT P t 1 (L k f) (fun xs=>xs.length≤maxLen∧ ∀x∈xs,V x):=by
 intro H enc w fuel cs x hx _;rcases DataW.trod_slice hu hx with⟨rfl,_⟩|⟨a,len,cap,elems,rest,n,rfl,rfl,_,_,cS,mc,bT,eP,_⟩
 ·refine⟨[],⟨by simp,by simp⟩,fun A o hA=>?_⟩
  simp only[RoC,He,Jg];exact⟨iA,0,by simpa using hA 0 _ rfl,Jl _,by simp[maxLen],fun h=>absurd rfl h⟩
 ·subst hk
  have key:∀i,i<len→ ∃y,V y∧ ∃cs':List Value,cs'.length=P.cellsOf e∧(∀(j:Nat) v,cs'[j]? =iz v→w.cell? ((a.add (i*P.cellsOf e)).add j)=iz v)∧
    ∀(A:Array Value)(o:Nat),(∀(j:Nat) v,cs'[j]? =iz v→A[o+j]? =iz v)→RoC (zLy w) (f y) A o:=by
   intro i hi;have h1:=eP i hi;rw[J3 (by omega)]at h1;obtain⟨cs',h2,h3⟩:=Option.bind_eq_some_iff.1 h1;obtain⟨h4,h5⟩:=zQm h2;obtain⟨y,h6,h7⟩:=h enc w n cs' _ h3 h4;exact⟨y,h6,cs',h4,h5,h7⟩
  obtain⟨xs,hxl,fx⟩:=zFZ len key;refine⟨xs,⟨by omega,fun y hy=>?_⟩,fun A o hA=>?_⟩
  ·obtain⟨i,hi,rfl⟩:=Hu.1 hy
   exact(fx i _ (J3 hi)).1
  ·simp only[RoC,Je,hxl]
   refine⟨iz a,cap,by simpa using hA 0 _ rfl,cS,mc,fun gf=>?_⟩;have pA:0<xs.length:=by
    cases xs with
    |nil=>simp at gf
    |cons _ _=>simp
   obtain⟨_,cs0,g1,g2,_⟩:=fx 0 _ (J3 pA);have hz:a.add (0*P.cellsOf e)=a:=by simp[Addr.add]
   have g3:=g2 0 cs0[0] (J3 (by omega));rw[hz,show a.add 0=a from by simp[Addr.add]]at g3;obtain⟨mP,c,e',fr,hb,_⟩:=zOY g3;obtain⟨b,off,sp⟩:=a;simp only at mP hb;subst mP;refine⟨b,off,c,e',fr,rfl,hb,zOZ _ _ _ _ fun i y hy=>?_⟩;rw[K4,L6]at hy;obtain⟨z,mD,rfl⟩:=hy;obtain⟨_,cs',g1',g2',g4⟩:=fx i z mD;refine g4 c _ fun j v hv=>?_
   have:=g2' j v hv;rw[zLz,zLz]at this;obtain⟨_,c2,e2,fr2,pR,fy⟩:=zOY this;simp only at pR fy;rw[hb]at pR;cases pR;exact fy
theorem zJU{H:Type}{enc:TypeId×Value→H}{w:World}{t:TypeId}{fs:Array Field}{fuel:Nat}{cs:List Value}{x:DataW H×List MemPlace}(hu:P.underlying t=iz (.struct fs))(h:DataW.trod enc P w 0 (fun _=>iB) iB fuel t cs=iz x)
  {i j k:Nat}{f:Field}(hf:fs[i]? =iz f)(hj:f.offset=j)(hk:P.cellsOf f.type=k):∃n y,DataW.trod enc P w 0 (fun _=>iB) iB n f.type ((cs.drop j).take k)=iz y:=by
 obtain⟨xs,n,_,_,_,gj,eP⟩:=DataW.trod_struct hu h
 grind
end
def zQn(v:Value):Value:=if v.oneCell' then v else .bool iC
theorem zL0(v:Value):(zQn v).oneCell'=iB:=by unfold zQn;split;assumption;rfl
theorem zJV{v:Value}(h:v.oneCell'=iB):zQn v=v:=by simp[zQn,h]
def hd0(vs:Array Value)(s:Nat)(p:List Nat):Value:=
 match vs[s]?,p with
 |some (.agg cs),[j]=>zQn (cs[j]?.getD (.bool iC))
 |some v,[]=>zQn v
 |_,_=>.bool iC
def G0(vs:Array Value):Gh:={ hd:=hd0 vs,ad:=fun _ _=>default,lb:=fun _ _=>iA,ow:=fun _=>iA }
theorem yBl(w:World)(vs:Array Value):Mem ⟨zLy w,fun _=>False,w,0⟩ (G0 vs) w where
 one s p:=by
  simp only[G0,hd0];split
  ·exact zL0 _
  ·exact zL0 _
  ·rfl
 lb b o l h:=by grind[G0]
 ow b l h:=by grind[G0]
 st b x h:=h
 fr b _ _:=rfl
 sz:=Jl _
 bk:=⟨fun b cs e h=>⟨cs,h,rfl⟩,rfl,rfl⟩
def RdA(P:Program)(t:TypeId){α:Type}(u:α→T)(V:α→Prop):Prop:=
 ∀{H:Type}(enc:TypeId×Value→H)(w:World)(base fuel:Nat)(v:Value)(x:DataW H×List MemPlace),DataW.trod enc P w 0 (fun _=>iB) iB fuel t v.cells.toList=iz x→
  Value.okWide P w .any base t v→ ∃d,V d∧ ∀(vs:Array Value)(s:Nat),vs[s]? =iz v→iz v=iz (mkV (G0 vs) s (u d) [])∧R (zLy w) (G0 vs) w s (u d) []
def RdC(P:Program)(t:TypeId){α:Type}(u:α→T)(V:α→Prop):Prop:=
 ∀{H:Type}(enc:TypeId×Value→H)(w:World)(fuel:Nat)(c:Value)(x:DataW H×List MemPlace),DataW.trod enc P w 0 (fun _=>iB) iB fuel t [c]=iz x→
  ∃d,V d∧c.oneCell'=iB∧ ∀(G:Gh)(s:Nat)(p:List Nat),G.hd s p=c→vals G s (u d) p=[c]∧R (zLy w) G w s (u d) p
section
variable {P:Program}
theorem zZo{α:Type}{f:α→T}{V:α→Prop}{t:TypeId}(h:RdT P t 1 f V)(h1:∀{H:Type}(enc:TypeId×Value→H)(w:World)(fuel:Nat)(c:Value)(x:DataW H×List MemPlace),DataW.trod enc P w 0 (fun _=>iB) iB fuel t [c]=iz x→c.oneCell'=iB):
  RdC P t (fun x=>T.ro (f x)) V:=by
 intro H enc w fuel c x hx;obtain⟨d,g1,g2⟩:=h enc w fuel [c] x hx rfl
 grind[vals,R]
theorem zXH{α:Type}{f:α→T}{V:α→Prop}{t e:TypeId}{k:Nat}(hu:P.underlying t=iz (.slice e))(hk:P.cellsOf e=k)(f7:0<k)(h:RdT P e k f V):RdC P t (fun xs=>T.ro (L k f xs)) (fun xs=>xs.length≤maxLen∧ ∀x∈xs,V x):=
 zZo (zXG hu hk f7 h) fun enc w fuel c x hx=>by
  rcases DataW.trod_slice hu hx with⟨h1,_⟩|⟨a,len,cap,_,_,_,_,h1,_⟩<;>
  ·simp only[Qt.injEq,and_true]at h1
   subst h1;rfl
theorem zIx{w:World}{base:Nat}{t:TypeId}{fs:Array Field}{v:Value}(hu:P.underlying t=iz (.struct fs))(h:Value.okWide P w .any base t v):∃cs,v=.agg cs∧cs.size=P.cellsOf t:=by grind[Value.okWide]
theorem zZp{α β γ δ:Type}{ua:α→T}{ub:β→T}{uc:γ→T}{Va:α→Prop}{Vb:β→Prop}{Vc:γ→Prop}{t:TypeId}{f0 f1 f2:Field}(mk:α→β→γ→δ){u:δ→T}{V:δ→Prop}
  (hu:P.underlying t=iz (.struct #[f0,f1,f2]))(hc:P.cellsOf t=3)(h0:f0.offset=0∧P.cellsOf f0.type=1)(h1:f1.offset=1∧P.cellsOf f1.type=1)(h2:f2.offset=2∧P.cellsOf f2.type=1)
  (ra:RdC P f0.type ua Va)(rb:RdC P f1.type ub Vb)(rc:RdC P f2.type uc Vc)(hmk:∀a b c,u (mk a b c)=T.agg [ua a,ub b,uc c])(hV:∀a b c,Va a→Vb b→Vc c→V (mk a b c)):RdA P t u V:=by
 intro H enc w base fuel v x hx gB;obtain⟨cs,rfl,gw⟩:=zIx hu gB;obtain⟨l,rfl⟩:∃l:List Value,cs=l.toArray:=⟨cs.toList,by simp⟩;rw[hc,Jbx]at gw;obtain⟨c0,c1,c2,rfl⟩:∃a b c,l=[a,b,c]:=by
  match l,gw with
  | [a,b,c],_=>simp
 simp only[Value.cells]at hx;obtain⟨n0,y0,g0⟩:=zJU hu hx (i:=0) rfl h0.1 h0.2;obtain⟨n1,y1,g1⟩:=zJU hu hx (i:=1) rfl h1.1 h1.2;obtain⟨n2,y2,g2⟩:=zJU hu hx (i:=2) rfl h2.1 h2.2;simp only[Jcp,Hv,Ku,K5]at g0 g1 g2;obtain⟨a,a1,a2,a3⟩:=ra enc w n0 c0 _ g0;obtain⟨b,b1,b2,b3⟩:=rb enc w n1 c1 _ g1;obtain⟨c,e1,e2,e3⟩:=rc enc w n2 c2 _ g2;refine⟨mk a b c,hV a b c a1 b1 e1,fun vs s cW=>?_⟩;have k0:(G0 vs).hd s [0]=c0:=by simp[G0,hd0,cW,zJV a2]
 have k1:(G0 vs).hd s [1]=c1:=by simp[G0,hd0,cW,zJV b2]
 have k2:(G0 vs).hd s [2]=c2:=by simp[G0,hd0,cW,zJV e2]
 rw[hmk];simp only[mkV,yI,(a3 _ _ _ k0).1,(b3 _ _ _ k1).1,(e3 _ _ _ k2).1,Jy,Ju,R,RF]
 simp_all
end
theorem FnC.top{P:Program}{f:FuncId}{us:List T}(h:FnC P f us [B iB] []){w:World}{vs:Array Value}(gw:vs.size=us.length)
  (ha:∀(i:Nat) u,us[i]? =iz u→vs[i]? =iz (mkV (G0 vs) i u [])∧R (zLy w) (G0 vs) w i u []):
  Calls P f vs w fun e w'=>e=.returned (.bool iB)∧w'.os=w.os∧w'.output=w.output∧w.heap.size≤w'.heap.size∧ ∀b,b<w.heap.size→w'.heap[b]? =w.heap[b]?:=by
 refine(h (zLy w) (fun _=>False) w (G0 vs) vs gw (fun i u hu=>?_) (yBl w vs)).mono fun e w'=>?_
 ·obtain⟨h1,h2⟩:=ha i u hu
  refine⟨?_,h2⟩;rw[h1]
 ·rintro⟨S',G',nd,_,he,hm,cQ,hr,_,_⟩
  match nd,cQ with
  | [(s,p,t)],cQ=>
   simp only[Js,He,Qt.injEq,and_true]at cQ;subst cQ;have:=(hr (s,p,B iB) (by simp)).1;simp only[R]at this;exact⟨by rw[he];simp only[zLd,sV,this],hm.bk.os,hm.bk.out,hm.sz,fun b hb=>hm.fr b hb (fun h=>h)⟩
theorem zD5{H:Type}{enc:TypeId×Value→H}{P:Program}(hl:laidOutB P=iB){W W':World}{sp:Nat→Bool}:∀{ts:List TypeId}{vs:List Value}{ds:List (DataW H)}{ps:List MemPlace},(∀t∈ts,P.readableRec t=iB∧t<P.types.size)→
  DataW.TrodAll enc P W 0 (fun _=>iB) iB ts vs ds ps→(∀p∈ps,W.sameAt W' p)→(∀p∈ps,sp p.block=iB)→DataW.TrodAll enc P W' 0 sp iB ts vs ds ps
 | [],[],[],_,_,h,_,_=>h
 |t::ts,v::vs,d::ds,ps,hr,h,h1,h2=>by
  obtain⟨p,q,g1,g2,rfl⟩:=h;exact⟨p,q,by grind[Go.WideElems.Trod_stays],
   zD5 hl (by grind) g2 (by grind) (by grind),rfl⟩
 | [],_::_,_,_,_,h,_,_| [],[],_::_,_,_,h,_,_|_::_,[],_,_,_,h,_,_|_::_,_::_,[],_,_,h,_,_=>h.elim
theorem zNo{C:Checked}{os:Os}(own:ownKnob C.prog.godebug=iA)(started:os.Started){f:FuncId}{fn:Func}(noInit:C.prog.inits.idxOf? f=iA)(i8:C.prog.funcs[f]? =iz fn){H:Type}{enc:TypeId×Value→H}{s:ChangeSpec}{conds:List PathCond}{apart fresh handsOn again:Bool}
  (witness:∃(w:World)(tape:Tape)(i:Input),w.os=os∧(w.forCall tape i).Shaped C.prog∧i.vars=[]∧Input.okWide C.prog (w.forCall tape i) .any w.heap.size f i∧
   s.pre6 enc C.prog fn conds apart (w.forCall tape i).memory i.args∧Assume.holds {} C.prog (lone (Frame.enter C.prog f i.args .normal) [] (w.forCall tape i)))
  (hs:∀(l:List (DataW H)),l.length=fn.params.size→(s.fn H l).results=[.lit (.bool iB)]∧(s.fn H l).args=l∧(s.fn H l).vars=[])(mh:s.vars=[]){tb:TypeId}(fa:fn.resultTypes= #[tb])(hb:C.prog.underlying tb=iz .bool)
  (laid:laidOutB C.prog=iB)(hread:fn.params.toList.all (fun t=>C.prog.readableRec t&&decide (t<C.prog.types.size))=iB)
  (law:∀(W:World)(base:Nat)(args:Array Value)(ds:List (DataW H))(p:List MemPlace),(∀(j:Nat) t v,fn.params[j]? =iz t→args[j]? =iz v→Value.okWide C.prog W .any base t v)→
   DataW.TrodAll enc C.prog W 0 (fun _=>iB) iB fn.params.toList args.toList ds p→
   ∃us:List T,args.size=us.length∧FnC C.prog f us [B iB] []∧ ∀(i:Nat) u,us[i]? =iz u→args[i]? =iz (mkV (G0 args) i u [])∧R (zLy W) (G0 args) W i u []):
  ReturnsInHanded {} C os f .any (s.pre6 enc C.prog fn conds apart) (s.post enc C.prog fn apart fresh handsOn again):=by
 refine returnsInHanded_of_change (C:=C) own started noInit i8 witness ?_;intro W base args ds gs before hval hW _ _;have hW':=hW;obtain⟨p,q,hA,hV,hbq,hfz,cQ⟩:=hW;obtain⟨us,h1,h2,h3⟩:=law W base args ds p hval hA;have hl:ds.length=fn.params.size:=by
  have:∀{ts:List TypeId}{vs:List Value}{ds:List (DataW H)}{p:List MemPlace},DataW.TrodAll enc C.prog W 0 (fun _=>iB) iB ts vs ds p→ds.length=ts.length:=by
   intro ts
   induction ts with
   |nil=>intro vs ds p h;cases vs<;>cases ds<;>first|rfl|exact h.elim
   |cons t ts ih=>intro vs ds p h;cases vs<;>cases ds<;>first|exact h.elim|(obtain⟨_,_,_,g,_⟩:=h;simp[ih g])
  grind
 rw[mh]at hV;have hq:gs=[]∧q=[]:=by
  cases gs with
  |nil=>exact⟨rfl,hV⟩
  |cons _ _=>exact hV.elim
 obtain⟨rfl,rfl⟩:=hq;have gE:=hW'.lt;refine(h2.top h1 h3).mono fun e w' ⟨he,ho,hq,gw,hh⟩=>⟨_,he,?_⟩
 have gL:∀p∈before,W.sameAt w' p:=fun p hp=>by
  have:=gE p hp;cases p with
  |cell b off=>simp only[World.sameAt,World.cell?,hh b this]
  |map b=>exact hh b this
 obtain⟨k1,k2,k3⟩:=hs ds hl;have hbp:before=p:=by grind
 subst hbp;have gz:∀t∈fn.params.toList,C.prog.readableRec t=iB∧t<C.prog.types.size:=by grind
 have gk:∀(b:Nat)(sp:Nat→Bool)(hd:Bool),DataW.TrodAll enc C.prog w' b sp hd fn.resultTypes.toList ((Value.bool iB).resultList fn.resultTypes.size) (s.fn H (ds++[])).results []:=fun b sp hd=>by rw[fa,Ja,k1];exact⟨[],[],⟨1,by simp[DataW.trod,hb,Value.cells]⟩,⟨rfl,rfl⟩⟩
 have gc:∀sp:Nat→Bool,(∀p∈before,sp p.block=iB)→DataW.TrodAll enc C.prog w' 0 sp iB fn.params.toList args.toList (s.fn H (ds++[])).args before:=fun sp mP=>by rw[Ja,k2];exact zD5 laid gz hA gL mP
 have ta:∀sp:Nat→Bool,DataW.TrodVars enc C.prog w' sp s.vars (s.fn H (ds++[])).vars []:=fun sp=>by rw[mh,Ja,k3];rfl
 have gG:∀p∈before,(fun b=>decide (b<W.heap.size)) p.block=iB:=by grind
 have bv:∀p∈before,∀o,w'.frozen? ⟨p.block,o,iA⟩=W.frozen? ⟨p.block,o,iA⟩:=fun p hp o=>by simp only[World.frozen?,hh _ (gE p hp)]
 refine⟨ds,[],before,[],before,[],hW',gk _ _ _,gc _ gG,ta _,⟨ho,hq,fun i hi=>?_⟩,fun _=>⟨fun j t r hj hr=>?_,_,_,([]++before)++[],⟨[]++before,[],trodAll_append (gc _ (fun _ _=>rfl)) (gk _ _ _),ta _,rfl,fun b off hp=>?_,fun ha=>?_⟩,fun p hp _=>?_⟩⟩
 ·rw[hh i hi]
  cases hx:W.heap[i]? with
  |none=>rfl
  |some o=>cases o<;>simp
 ·rw[fa]at hj hr
  match j,hj,hr with
  |0,hj,hr=>
   simp[Value.resultList]at hj hr;subst hj;subst hr;simp[Value.okWide,hb,Cell.okWide,Cell.ok]
 ·have cP:MemPlace.cell b off∈before:=by grind
  exact(bv _ cP off).trans (hfz b off cP)
 ·grind
 grind
end Go.Ab

namespace Go.Ab
open Go
def jP(hs:List Nat)(E:Env):Prop:=∀s,hs.contains s=iB→ ∃t,E s=iz t∧zAr t=iB
def zXI(hs:List Nat)(z:Nat×Option T):Bool:=!hs.contains z.1||match z.2 with
 |some t=>zAr t
 |none=>iC
def wrS(hs:List Nat)(X:Stp):Bool:=X.l.all fun y=>y.1.all (zXI hs)
theorem zL1{s:Nat}{x:Option T}:∀{wr:Wr},wr.find s=iz x→(s,x)∈wr
 | [],h=>by grind[Wr.find]
 |(k,y)::wr,h=>by
  simp only[Wr.find]at h;split at h
  ·grind
  ·exact H1 _ (zL1 h)
theorem jP.apps{hs:List Nat}:∀(l:zEy)(E:Env),jP hs E→(l.all fun y=>y.1.all (zXI hs))=iB→jP hs (E.apps l)
 | [],_,h,_=>h
 |x::l,E,h,hw=>by
  simp only[Jbn,J4]at hw;refine jP.apps l (E.app x.1 x.2) (fun s gI=>?_) hw.2;obtain⟨t,he,ht⟩:=h s gI;unfold Env.app;cases hf:x.1.find s with
  |some y=>
   have h1:=Ki.1 hw.1 _ (zL1 hf);simp only[zXI,gI,Kc,Bool.false_or]at h1
   grind
  |none=>grind[tF]
theorem jP.runD{hs:List Nat}:∀(l:List (Bool×Stp))(E:Env),jP hs E→(∀y∈l,wrS hs y.2=iB)→jP hs (runD E l)
 | [],_,h,_=>h
 |(b,X)::l,E,h,hw=>by
  simp only[Go.Ab.runD];refine jP.runD l _ ?_ fun y hy=>hw y (by simp[hy])
  cases b with
  |true=>exact jP.apps X.l E h (hw (iB,X) (by simp))
  |false=>exact h
section
variable {P:Program}{Γ:Ctx}{pn:jX}{E E':Env}{Q:Exit→Env→Prop}{ops:Array Oper}{o:Oper}{os:List Oper}{id:Nat}{wr:Wr}{chg:Chg}{hs:List Nat}
def zHo(P:Program)(Γ:Ctx)(pn:jX)(ops:Array Oper)(o:Oper)(E E':Env):Prop:=
 ∀(a:Act)(w:World)(K:Act→World→Prop)(Q:Exit→Act→World→Prop),pn.Hold a→jH Γ E a w→(∀a' w',jH Γ E' a' w'→(∀s,o.dst≠iz s→a'.tmps[s]? =a.tmps[s]?)→K a' w')→
  if Region.wanted o (yielded ops a.tmps)then o.wp P a w K Q∨(o.asks P a w∧LetsOut Q)else K (a.put o.dst undef) w
def vS(P:Program)(Γ:Ctx)(pn:jX)(hs:List Nat)(ops:Array Oper):List Oper→List Stp→Prop
 | [],[]=>True
 |o::os,X::Xs=>(∀E:Env,E.Has X.rd→jP hs E→zHo P Γ pn ops o E (E.apps X.l))∧vS P Γ pn hs ops os Xs
 |_,_=>False
theorem vS.get:∀(os:List Oper)(Xs:List Stp),vS P Γ pn hs ops os Xs→os.length=Xs.length∧ ∀(i:Nat)(o:Oper)(X:Stp),os[i]? =iz o→Xs[i]? =iz X→ ∀E:Env,E.Has X.rd→jP hs E→zHo P Γ pn ops o E (E.apps X.l)
 | [],[],_=>by simp
 |o::os,X::Xs,h=>by
  obtain⟨h1,h2⟩:=vS.get os Xs h.2;refine⟨by simp[h1],fun i o' X' ho hX=>?_⟩;cases i with
  |zero=>simp at ho hX;subst ho hX;exact h.1
  |succ i=>exact h2 i o' X' (by simpa using ho) (by simpa using hX)
 | [],_::_,h=>by simp[vS]at h
 |_::_,[],h=>by simp[vS]at h
theorem vS.snoc{X:Stp}:∀(os:List Oper)(Xs:List Stp),vS P Γ pn hs ops os Xs→(∀E:Env,E.Has X.rd→jP hs E→zHo P Γ pn ops o E (E.apps X.l))→vS P Γ pn hs ops (os++[o]) (Xs++[X])
 | [],[],_,h=>⟨h,trivial⟩
 |_::os,_::Xs,h1,h=>⟨h1.1,vS.snoc os Xs h1.2 h⟩
 | [],_::_,h,_=>by simp[vS]at h
 |_::_,[],h,_=>by simp[vS]at h
theorem sZ.snoc{X:Stp}:∀(Xs:List Stp)(E:Env),sZ E Xs→(runD E (Xs.map fun y=>(iB,y))).Has X.rd→sZ E (Xs++[X])
 | [],_,_,h=>⟨by grind[runD],trivial⟩
 |_::Xs,_,h1,h=>⟨h1.1,sZ.snoc Xs _ h1.2 (by simpa[runD]using h)⟩
theorem zJW{E0:Env}{eB:List Nat}{Xs:List Stp}{an:List (List Nat)}{Q':Exit→Act→World→Prop}(hf:zAP 0 ops.toList=iB)(ha:zAp an an ops.toList=iB)(hp:jY Xs 0 an Xs=iB)
  (gA:vS P Γ pn eB ops ops.toList Xs)(hI:jP eB E0)(hw:Xs.all (wrS eB)=iB)(hh:sZ E0 Xs)(ai:ops.toList.all (fun o=>pn.ok o.dst)=iB)(hQ:∀a' w',jH Γ (runD E0 (Xs.map fun y=>(iB,y))) a' w'→pn.Hold a'→Q' .normal a' w'):
  ∀(fuel:Nat)(L:List Bool)(a:Act)(w:World),L.length=ops.size→L.count iC=fuel→zSb ops L→jH Γ (runD E0 (L.zip Xs)) a w→pn.Hold a→wpAny P .any ops Q' fuel L.toArray a w:=by
 obtain⟨gj,ml⟩:=vS.get _ _ gA;have mu:Xs.length=ops.size:=by grind
 intro fuel
 induction fuel with
 |zero=>
  intro L a w hL hcnt gC hs fJ;have pI:∀b∈L,b=iB:=by grind
  have iw:L=J0 ops.size iB:=by rw[←hL];exact List.eq_replicate_iff.2 ⟨rfl,pI⟩
  refine⟨?_,?_⟩
  ·apply List.eq_nil_iff_forall_not_mem.2
   intro j hj;obtain⟨h1,o,ho,_⟩:=mem_ready.1 hj;have gE:=(L8.1 ho).1;rw[iw]at h1;simp[gE]at h1
  ·refine hQ a w ?_ fJ
   have:L.zip Xs=Xs.map fun y=>(iB,y):=by
    rw[iw,←mu]
    clear hs hL iw pI hcnt gC gA hw hh hp gj mu ml hQ
    induction Xs with
    |nil=>rfl
    |cons X Xs ih=>simp[Jq,ih]
   grind
 |succ fuel ih=>
  intro L a w hL hcnt gC hs fJ;refine⟨fun hr=>?_,fun i hi=>?_⟩
  ·
   exfalso
   have cE:∃m:Nat,L[m]? =iz iC:=by
    have:iC∈L:=by grind
    grind[Jae]
   obtain⟨m,hm,eH⟩:=zD2 cE;have hmlt:=(Jw.1 hm).1;have da:ops[m]? =iz ops[m]:=by simp
   have:m∈Region.ready .any ops L.toArray:=by
    refine mem_ready.2 ⟨by simp_all,ops[m],da,fun e he hb=>?_⟩;have hpm:e.on∈zBr ops[m]:=by
     simp only[zBr,Jt,Jbq]
     grind
    have gE:=zGt ops.toList 0 m _ hf (by simp) _ hpm;rw[Jf]at gE;cases hL1:L[e.on]? with
    |none=>grind
    |some b=>
     cases b with
     |false=>grind
     |true=>simp_all
   grind
  ·obtain⟨h1,o,ho,pI⟩:=mem_ready.1 hi
   have gE:=(L8.1 ho).1;have hLi:L[i]? =iz iC:=by simp_all
   have cB:∀m∈zBr o,L[m]? =iz iB:=by
    intro m hm;simp only[zBr,Jt,Jbq]at hm;obtain⟨e,⟨he,hb⟩,rfl⟩:=hm;have:=pI e (by grind) hb;cases hL1:L[e.on]? with
    |none=>grind
    |some b=>simp_all
   have hanc:=zHe hf ha gC i i (Jl _) o ho cB;have bW:Xs[i]? =iz Xs[i]:=by simp
   generalize hXe:Xs[i]=X at bW
   have aB:∀(j:Nat)(Y:Stp),Xs[j]? =iz Y→i<j→L[j]? =iz iB→X.apart Y=iB:=by
    intro j Y hY gM hj;rcases zFo Xs Xs 0 an j Y hp hY i X (by omega) bW with h|h
    ·have hjlt:=(Jw.1 hY).1
     have hoj:ops[j]? =iz ops[j]:=by simp
     have:=zHe hf ha gC j j (Jl _) _ hoj (gC j _ hoj hj) i h
     grind
    ·exact h
   have bx:∀(j:Nat)(Y:Stp),Xs[j]? =iz Y→j<i→L[j]? =iz iC→Y.apart X=iB:=by grind[zFo]
   have pz:∀y∈(L.take i).zip (Xs.take i),∃j:Nat,j<i∧L[j]? =iz y.1∧Xs[j]? =iz y.2:=by
    intro y hy;obtain⟨j,g1,g2⟩:=zJP hy;rw[Uq]at g1 g2
    grind
   have mp:∀y∈(L.drop (i+1)).zip (Xs.drop (i+1)),∃j:Nat,i<j∧L[j]? =iz y.1∧Xs[j]? =iz y.2:=by
    intro y hy;obtain⟨j,g1,g2⟩:=zJP hy;rw[Lr]at g1 g2
    grind
   have mP:=zIT hLi bW;have i6:(runD E0 (L.zip Xs)).Has X.rd:=by
    rw[mP,kR];simp only[runD,G6,if_false];have h0:=sZ.get Xs E0 hh i X bW;refine h0.of fun s t gA eB=>?_
    have aZ:s∈X.rd.map (·.1):=by grind
    refine zIS _ _ (fun y hy hb=>?_) ?_
    ·obtain⟨j,g1,g2,g3⟩:=mp y hy
     have:=Stp.apart_spec (aB j y.2 g3 g1 (by rw[g2,hb]));exact⟨by grind,by grind⟩
    ·have hmp:((L.take i).zip (Xs.take i)).map (fun y=>(iB,y.2))=(Xs.take i).map fun y=>(iB,y):=by
      have aC:(L.take i).length=(Xs.take i).length:=by simp;omega
      rw[show(fun y:Bool×Stp=>(iB,y.2))=(fun y=>(iB,y))∘Prod.snd from rfl,←Jar,List.map_snd_zip (by omega)]
     refine zIR _ E0 E0 (fun y hy hb gI=>?_) (fun _ h=>h) t (by grind);obtain⟨j,g1,g2,g3⟩:=pz y hy;have:=Stp.apart_spec (bx j y.2 g3 g1 (by rw[g2,hb]))
     grind
   have hnext:runD E0 ((L.set i iB).zip Xs)=(runD E0 (L.zip Xs)).apps X.l:=by
    have hLs:(L.set i iB)[i]? =iz iB:=by grind
    rw[zIT hLs bW,mP,kR,kR];simp only[runD,if_true,G6,if_false,List.take_set_of_le (Jl i),List.drop_set_of_lt (Nat.lt_succ_self i)];refine zFn _ X _ fun y hy hb=>?_
    obtain⟨j,g1,g2,g3⟩:=mp y hy;exact(Stp.apart_spec (by grind)).1
   have dE:=ml i o X (by grind) bW _ i6 (jP.runD (L.zip Xs) E0 hI fun y hy=>Ki.1 hw _ (by obtain⟨j,_,g⟩:=zJP hy;grind));unfold wpOp;simp only[ho];refine dE a w _ Q' fJ hs fun a' w' gI bv=>?_
   rw[List.setIfInBounds_toArray];have gB:pn.ok o.dst=iB:=by grind
   refine ih (L.set i iB) a' w' (by simp[hL]) (by grind) ?_ (by grind) (fJ.frame gB bv);intro k ok hk hkt m hm
   by_cases hki:k=i
   ·subst hki
    rw[ho]at hk;simp at hk;subst hk;rw[Jby];split
    ·grind
    grind
   ·rw[Jaa (Ne.symm hki)]at hkt
    rw[Jby];split
    ·grind
    ·exact gC k ok hk hkt m hm
theorem CW.drawnI{eB:List Nat}{id:Nat}{E:Env}{Q:Exit→Env→Prop}(Xs:List Stp)(an:List (List Nat))(hm:P.follows .mixedOrders=iB)(gA:vS P Γ pn eB ops ops.toList Xs)(hI:jP eB E)(hw:Xs.all (wrS eB)=iB)(hh:sZ E Xs)
  (hQ:Q .normal (runD E (Xs.map fun y=>(iB,y))))(hf:zAP 0 ops.toList=iB:=by rfl)(ha:zAp an an ops.toList=iB:=by rfl)(hp:jY Xs 0 an Xs=iB:=by rfl)
  (ai:ops.toList.all (fun o=>pn.ok o.dst)=iB:=by rfl):CW P Γ pn (.region id ops iB) E Q:=by
 intro a w Q' hs fJ hQ';refine wp_region_any hm ?_;have gI:jH Γ E a { w with drawn:=w.drawn+1 }:=by obtain⟨S,hS,gN,G,hr⟩:=hs;exact⟨S,hS,gN,G,hr.heap rfl⟩
 have:=zJW (P:=P) (Γ:=Γ) (pn:=pn) (E0:=E) (Q':=Q') hf ha hp gA hI hw hh ai (by grind) ops.size (J0 ops.size iC) a { w with drawn:=w.drawn+1 } (by simp) (by simp)
  (fun i o ho hi=>by
   grind) (by
   have:runD E ((J0 ops.size iC).zip Xs)=E:=by
    generalize ops.size=n
    clear gA hI hw hh hQ hf ha hp gI
    induction n generalizing Xs with
    |zero=>simp[runD]
    |succ n ih=>
     cases Xs with
     |nil=>simp[runD]
     |cons X Xs=>simpa[Jq,runD]using ih Xs
   grind) fJ
 grind
def DK(P:Program)(Γ:Ctx)(pn:jX)(ops:Array Oper)(id:Nat)(hs:List Nat)(E0:Env)(Q:Exit→Env→Prop)(os:List Oper)(E:Env)(acc:List Stp):Prop:=
 ∀don,don++os=ops.toList→vS P Γ pn hs ops don acc.reverse→sZ E0 acc.reverse→E=runD E0 (acc.reverse.map fun y=>(iB,y))→CW P Γ pn (.region id ops iB) E0 Q
variable {E0:Env}{acc:List Stp}
theorem CW.dk(h:DK P Γ pn ops id [] E Q ops.toList E []):CW P Γ pn (.region id ops iB) E Q:=h [] rfl trivial trivial rfl
theorem CW.dkS(hs:List Nat)(h:DK P Γ pn ops id hs E Q ops.toList E []):CW P Γ pn (.region id ops iB) E Q:=h [] rfl trivial trivial rfl
theorem dGP(rd:List (Nat×T))(l:zEy)(gz:E.Has rd)(gA:∀E':Env,E'.Has rd→jP hs E'→zHo P Γ pn ops o E' (E'.apps l))(k:DK P Γ pn ops id hs E0 Q os (E.apps l) (⟨rd,l⟩::acc)):DK P Γ pn ops id hs E0 Q (o::os) E acc:=by
 intro don hd hso hh hE;subst hE;have hr:=fun X=>Jbi (a:=X) (as:=acc)
 refine k (don++[o]) (by simp[hd]) ?_ ?_ ?_
 ·grind[vS.snoc]
 ·grind[sZ.snoc]
 ·rw[hr,Kj,kR];rfl
theorem dGS(rd:List (Nat×T))(l:zEy)(gz:E.Has rd)(gA:∀E':Env,E'.Has rd→jP hs E'→zX P Γ ops o E' (E'.apps l))(k:DK P Γ pn ops id hs E0 Q os (E.apps l) (⟨rd,l⟩::acc)):DK P Γ pn ops id hs E0 Q (o::os) E acc:=
 dGP rd l gz (fun E' h h' a w K Q _=>gA E' h h' a w K Q) k
theorem dG(rd:List (Nat×T))(l:zEy)(gz:E.Has rd)(gA:∀E':Env,E'.Has rd→zX P Γ ops o E' (E'.apps l))(k:DK P Γ pn ops id hs E0 Q os (E.apps l) (⟨rd,l⟩::acc)):DK P Γ pn ops id hs E0 Q (o::os) E acc:=
 by grind[dGS]
def zSr(hs:List Nat)(E:Env):Bool:=hs.all fun s=>match E s with
 |some t=>zAr t
 |none=>iC
theorem zSs(h:zSr hs E=iB):jP hs E:=by
 intro s gI;have h1:=Ki.1 h s (by grind)
 grind
theorem dN(an:List (List Nat))(hm:P.follows .mixedOrders=iB)(hQ:Q .normal E)(hf:zAP 0 ops.toList=iB:=by rfl)(ha:zAp an an ops.toList=iB:=by rfl)(hp:jY acc.reverse 0 an acc.reverse=iB:=by rfl)
  (ai:ops.toList.all (fun o=>pn.ok o.dst)=iB:=by rfl)(hh0:zSr hs E0=iB:=by rfl)(hw:acc.reverse.all (wrS hs)=iB:=by rfl):DK P Γ pn ops id hs E0 Q [] E acc:=by
 intro don hd gA hh hE
 grind[CW.drawnI,zSs]
end
end Go.Ab
