/- The program's SecondCohomology returns what the reference's returns,for all arguments;no conditions. -/
import Derived.Test.YtijcbaigdbgofaaGreatAbA
import Derived.Laws.CopyRow
import Derived.ProofKit
open List renaming replicate→J1,getElem?_eq_getElem→J4,length_append→J6,length_cons→J7,mem_cons→J8,mem_append→Jd,append_nil→Je,range→Jg,length_map→Jh,mem_map→Jm,getElem?_eq_some_iff→Jn,map_cons→Jo,replicate_succ→Jp,nil_append→Jt,length_nil→Jx,getElem?_map→K0,cons_append→K1,take_zero→K8,all_eq_true→Kf,reverse_reverse→Ki,range'→Ku,mem_iff_getElem→L6,map_append→L7,nodup_cons→L8,take_succ_cons→Ld,range_eq_range'→Lh,length_range→Li,flatMap_cons→Lj,eq_nil_of_length_eq_zero→Ll,mem_of_getElem?→Lr,contains_eq_mem→H9,getElem?_drop→He,mem_cons_of_mem→G5,map_nil→Gv,drop_zero→U9,getElem?_cons_succ→Ue,reverse_cons→Ug,all_cons→Q0,getElem?_set_ne→Q3,reverse_nil→Qe,getElem?_set_self→Qu,cons→Qv,mem_iff_getElem?→Qx,map_map→Jaf,getLast?_append→Jag,dropLast_concat→Jah,map_set→Jas,map_take→Jb9,mem_filter→Jbe,size_toArray→Jbl,getElem?_set→Jbm,getElem?_take→Jcc,map_drop→Jci,getD→Jcj,range'_succ→Jcr
open Bool renaming and_eq_true→J3,not_true→K7,not_false→Kr,and_self→Ks,false_eq_true→Hq,not_eq_true'→Gp
open Nat renaming blt→J5,zero_add→Jb,le_refl→Ji,mul_le_mul_right→Kd,zero_le→Km,le_trans→H8,mul_comm→Gx,div_add_mod→U7,mul_one→Ub,mod_lt→Ul,div_lt_iff_lt_mul→Q6,add_zero→Qd,sub_zero→Jb5,beq→Jb6
open Array renaming getElem?_setIfInBounds→Jl,getD_eq_getD_getElem?→Kh,length_toList→Ko,getElem?_toList→Kt,getElem?_eq_some_iff→Ky,getElem?_setIfInBounds_ne→Hm,replicate→Q7,getElem?_append→Qw
open Int renaming emod_eq_of_lt→K5,add_emod_right→U0
open Option renaming map_eq_some_iff→Kj,some→Lq,map_some→H0,getD_some→Q8
open Prod renaming mk→Jaj
open Option renaming some→i7,none→i8
open Bool renaming true→i9,false→ia
namespace Go.Ab
open Go
abbrev Rw:=List (Nat×Nat×T)
def rwI(rw:Rw)(s:Nat):Option Nat:=(rw.find? fun x=>x.2.1==s).map (·.1)
def rwS(rw:Rw)(i:Nat):Option Nat:=(rw.find? fun x=>x.1==i).map (·.2.1)
theorem zCk:(rw:Rw)→(rw.map (·.2.1)).Nodup→ ∀{i s:Nat}{u:T},(i,s,u)∈rw→rwI rw s=i7 i
 | [],_,_,_,_,h=>by simp at h
 |(i0,s0,u0)::rw,hn,i,s,u,h=>by
  simp only[Jo,L8,Jm]at hn;rcases J8.1 h with h|h
  ·simp at h;obtain⟨rfl,rfl,rfl⟩:=h;simp[rwI]
  ·have gf:s0≠s:=by grind
   have:=zCk rw hn.2 h
   grind[rwI]
theorem zKC:(rw:Rw)→(rw.map (·.1)).Nodup→ ∀{i s:Nat}{u:T},(i,s,u)∈rw→rwS rw i=i7 s
 | [],_,_,_,_,h=>by simp at h
 |(i0,s0,u0)::rw,hn,i,s,u,h=>by
  simp only[Jo,L8,Jm]at hn;rcases J8.1 h with h|h
  ·simp at h;obtain⟨rfl,rfl,rfl⟩:=h;simp[rwS]
  ·have gf:i0≠i:=by grind
   have:=zKC rw hn.2 h
   grind[rwS]
theorem zKD{rw:Rw}{s:Nat}(h:s∉rw.map (·.2.1)):rwI rw s=i8:=by
 simp only[rwI,Option.map_eq_none_iff,List.find?_eq_none]
 grind
theorem zQD{rw:Rw}{i:Nat}(h:∀x∈rw,x.1≠i):rwS rw i=i8:=by grind[rwS]
theorem zNR{rw:Rw}{s i:Nat}(h:rwI rw s=i7 i):s∈rw.map (·.2.1):=by grind[rwI,Kj]
abbrev Nd:=List (Nat×List Nat×T)
def zQE(nd:Nd)(k s:Nat):Option (Nat×List Nat):=
 match nd with
 | []=>i8
 |x::r=>if x.1=s then i7 (k,x.2.1)else zQE r (k+1) s
def ndB(d:Nat)(nd:Nd)(s:Nat)(z:List Nat):Option (Nat×List Nat):=
 match nd with
 | [x]=>if x.1=s∧x.2.1<:+z then i7 (d,z.take (z.length-x.2.1.length))else i8
 |nd=>match zQE nd 0 s with
  |some (k,q)=>if q<:+z then i7 (d,z.take (z.length-q.length)++[k])else i8
  |none=>i8
theorem zI3:(nd:Nd)→(nd.map (·.1)).Nodup→ ∀{k k0:Nat}{x:Nat×List Nat×T},nd[k]? =i7 x→zQE nd k0 x.1=i7 (k0+k,x.2.1)
 | [],_,_,_,_,h=>by simp at h
 |y::nd,hn,k,k0,x,h=>by
  simp only[Jo,L8,Jm]at hn;cases k with
  |zero=>grind[zQE]
  |succ k=>
   simp only[Ue]at h;have gf:y.1≠x.1:=by grind
   simp only[zQE,gf,if_false];rw[zI3 nd hn.2 h]
   grind
def zQF(G:Gh)(nd:Nd)(z:List Nat):Value:=
 match nd with
 | [x]=>G.hd x.1 (z++x.2.1)
 |nd=>match z.getLast? with
  |some k=>(match nd[k]? with
   |some x=>G.hd x.1 (z.dropLast++x.2.1)
   |none=>.bool ia)
  |none=>.bool ia
def zTL(G:Gh)(nd:Nd)(z:List Nat):Addr:=
 match nd with
 | [x]=>G.ad x.1 (z++x.2.1)
 |nd=>match z.getLast? with
  |some k=>(match nd[k]? with
   |some x=>G.ad x.1 (z.dropLast++x.2.1)
   |none=>default)
  |none=>default
def Gh.arg(G:Gh)(a:Act)(xs:List Operand)(rw:Rw):Gh where
 hd i z:=match xs[i]? with
  |some (.tmp s)=>G.hd s z
  |some x=>jQ (a.eval x)
  |none=>.bool ia
 ad i z:=match xs[i]? with
  |some (.tmp s)=>G.ad s z
  |_=>default
 lb b o:=match G.lb b o with
  |some (f,s,z)=>(match rwI rw s,G.ow b with
   |some i,i7 (s',_)=>if s'=s then i7 (f,i,z)else i8
   |_,_=>i8)
  |none=>i8
 ow b:=match G.ow b with
  |some (s,z)=>(match rwI rw s with
   |some i=>i7 (i,z)
   |none=>i8)
  |none=>i8
def zA8(G:Gh)(rw:Rw)(b:Nat):Prop:=∃s z,G.ow b=i7 (s,z)∧s∈rw.map (·.2.1)
def zDw(d:Nat)(rw:Rw)(nd:Nd)(s:Nat)(z:List Nat):Option (Nat×List Nat):=
 match rwS rw s with
 |some s'=>i7 (s',z)
 |none=>ndB d nd s z
open Classical in
noncomputable def Gh.back (G G':Gh) (n0 d:Nat) (rw:Rw) (nd:Nd):Gh where
 hd s z:=if s=d then zQF G' nd z else match rwI rw s with
  |some i=>G'.hd i z
  |none=>G.hd s z
 ad s z:=if s=d then zTL G' nd z else match rwI rw s with
  |some i=>if z=[]then G.ad s z else G'.ad i z
  |none=>G.ad s z
 lb b o:=if zA8 G rw b∨n0≤b then(match G'.lb b o with
  |some (f,s,z)=>(match zDw d rw nd s z with
   |some (s',z')=>i7 (f,s',z')
   |none=>i8)
  |none=>i8)else G.lb b o
 ow b:=if zA8 G rw b∨n0≤b then(match G'.ow b with
  |some (s,z)=>zDw d rw nd s z
  |none=>i8)else G.ow b
def zM8(res:List T):T:=match res with
 | [u]=>u
 |us=>.tup us
def cWr(d:Nat)(res:List T)(rw:Rw):Wr:=(d,i7 (zM8 res))::rw.map fun x=>(x.2.1,i7 x.2.2)
def cLv(t:T):Nat:=if t.single then 1 else 0
def uK(d:Nat)(rw:Rw):Chg:=(d,0)::rw.map fun x=>(x.2.1,cLv x.2.2)
theorem zGM{d:Nat}{rw:Rw}{x:Nat×Nat×T}(h:x∈rw):(x.2.1,cLv x.2.2)∈uK d rw:=G5 _ (by grind)
theorem zNS{Gn G':Gh}{d:Nat}:(nd:Nd)→ ∀(j:Nat),(∀k x,nd[k]? =i7 x→ ∀z,Gn.hd d (z++[j+k])=G'.hd x.1 (z++x.2.1))→jH Gn d (nd.map (·.2.2)) [] j=nd.map fun x=>sJ G' x.1 x.2.2 x.2.1
 | [],_,_=>by simp[jH]
 |x::nd,j,h=>by
  have ih:=zNS (Gn:=Gn) (G':=G') (d:=d) nd (j+1) (fun k y hy z=>by rw[show j+1+k=j+(k+1)from by omega];exact h (k+1) y (by grind) z)
  simp only[Jo,jH,ih];rw[zB0 x.2.2 x.2.1 [j] (by simpa using h 0 x (by simp))]
theorem zQG{d:Nat}{res:List T}{rw:Rw}{s:Nat}{x:Option T}(h:(cWr d res rw).find s=i7 x):(s=d∧x=i7 (zM8 res))∨(s≠d∧ ∃i u,(i,s,u)∈rw∧x=i7 u):=by
 simp only[cWr,Wr.find]at h;split at h
 ·grind
 ·rename_i gf
  refine .inr ⟨fun e=>gf e.symm,?_⟩
  clear gf
  induction rw with
  |nil=>grind[Wr.find]
  |cons y rw ih=>
   grind[Wr.find]
theorem zQH{d:Nat}{res:List T}{rw:Rw}{s:Nat}(h:(cWr d res rw).find s=i8):s≠d∧s∉rw.map (·.2.1):=by
 simp only[cWr,Wr.find]at h;split at h
 ·cases h
 ·rename_i gf
  refine⟨fun e=>gf e.symm,?_⟩
  clear gf
  induction rw with
  |nil=>simp
  |cons y rw ih=>
   simp only[Jo,Wr.find]at h
   grind
def aft(S Sc S':Stb):Stb:=fun b=>match Sc b with
 |none=>S' b
 |some _=>S b
theorem Rep.up{Γ:Ctx}{E:Env}{G:Gh}{tmps tmps':Array Value}{w w':World}{G':Gh}{wr:Wr}{chg:Chg}{S:Stb}(h:Rep Γ E G tmps w)(hS:∀b x,Γ.St b=i7 x→S b=i7 x)
  (gN:tmps'.size=tmps.size)(hk:qR chg G w G' w')(gp:Mem (Γ.at S) G' w')
  (gH:∀s,wr.find s=i8→(∀n,(s,n)∉chg)∧tmps'[s]? =tmps[s]?)
  (eI:∀s t,wr.find s=i7 (i7 t)→Ent (Γ.at S) G' w' tmps'[s]? s t):Rep (Γ.at S) (E.app wr chg) G' tmps' w' where
 size:=by rw[gN];exact h.size
 mem:=gp
 ent s t hs:=by
  unfold Env.app at hs;cases hf:wr.find s with
  |some x=>
   grind
  |none=>
   rw[hf]at hs;simp at hs;cases he:E s with
   |none=>grind
   |some u=>
    simp[he]at hs;obtain⟨gB,rfl⟩:=hs;rw[(gH s hf).2];obtain⟨e1,e2,e3⟩:=Ent.keep hk (gH s hf).1 gB (h.ent s u he);exact⟨e1,zJz hS u [] e2,e3⟩
section
variable {P:Program}{Γ:Ctx}{E:Env}{d:Nat}
theorem zGN{G:Gh}{a:Act}{w:World}(g9:Rep Γ E G a.tmps w)(hd:d<Γ.N){Sc:Stb}{rw:Rw}(hS1:∀b x,Sc b=i7 x→w.heap[b]? =i7 x∧ ¬zA8 G rw b)(hS0:∀b x,Γ.St b=i7 x→Sc b=i7 x){f:FuncId}{us res:List T}
  (hc:FnC P f us res (rw.map fun x=>(x.1,x.2.2))){xs:List Operand}(gj:xs.length=us.length)
  (gc:∀(i:Nat) u,us[i]? =i7 u→(∃x,xs[i]? =i7 x∧a.eval x=mkV (G.arg a xs rw) i u []∧R Sc (G.arg a xs rw) w i u []))
  (hn1:(d::rw.map (·.2.1)).Nodup)(mV:(rw.map (·.1)).Nodup)(fw:∀x∈rw,xs[x.1]? =i7 (.tmp x.2.1))
  (gk:∀u∈res,yD u∧u.okTup=i9∧ ∀(S':Stb)(G:Gh)(w:World)(s:Nat)(p:List Nat),(∀b x,Sc b=i7 x→S' b=i7 x)→R S' G w s u p→R (aft Γ.St Sc S') G w s u p)
  (tn:∀x∈rw,yD x.2.2∧(∀(S':Stb)(G:Gh)(w:World)(s:Nat)(p:List Nat),(∀b x,Sc b=i7 x→S' b=i7 x)→R S' G w s x.2.2 p→R (aft Γ.St Sc S') G w s x.2.2 p)∧ ∃u,E x.2.1=i7 u∧x.2.2.single=u.single∧us[x.1]? =i7 u):
  Calls P f (xs.map a.eval).toArray w fun e w'=> ∃v,e=.returned v∧ ∃S G',zDi Γ.St S Γ.W Γ.w0.heap.size∧qR (uK d rw) G w G' w'∧Rep (Γ.at S) (E.app (cWr d res rw) (uK d rw)) G' (a.tmps.setIfInBounds d v) w':=by
 have hm:=g9.mem;have mm:=L8.1 hn1;have hmc:Mem ⟨Sc,zA8 G rw,w,0⟩ (G.arg a xs rw) w:=by
  have gA:∀b,zA8 G rw b→Sc b=i8:=fun b h=>by
   cases hs:Sc b with
   |none=>rfl
   |some x=>exact absurd h (hS1 b x hs).2
  refine⟨fun i z=>?_,fun b o l hl=>?_,fun b l hl=>?_,fun b x hx=>(hS1 b x hx).1,fun b _ _=>rfl,Ji _,⟨fun b cs e h=>⟨cs,h,rfl⟩,rfl,rfl⟩⟩
  ·simp only[Gh.arg]
   split
   ·exact hm.one _ _
   ·exact zBc _
   ·rfl
  ·simp only[Gh.arg]at hl
   split at hl
   ·rename_i f' s z hg
    split at hl
    ·rename_i i s' y hi ho
     split at hl
     ·rename_i he;subst he
      have hL:zA8 G rw b:=⟨s',y,ho,zNR hi⟩;exact⟨(hm.lb b o _ hg).1,.inr hL,gA b hL⟩
     ·cases hl
    ·cases hl
   ·cases hl
  ·simp only[Gh.arg]at hl
   split at hl
   ·rename_i s z hg
    split at hl
    ·rename_i i hi
     have hL:zA8 G rw b:=⟨s,z,hg,zNR hi⟩;exact⟨(hm.ow b _ hg).1,.inr hL,gA b hL⟩
    ·cases hl
   ·cases hl
 have gr:=hc Sc (zA8 G rw) w (G.arg a xs rw) (xs.map a.eval).toArray (by simp[gj]) (fun i u hu=>by obtain⟨x,h1,h2,h3⟩:=gc i u hu;exact⟨by simp[h1,h2],h3⟩) hmc
 refine gr.mono ?_
 rintro e w' ⟨S',G',nd,gX,rfl,gC,cC,cL,pQ,tm⟩
 have fA:∀b x,Γ.St b=i7 x→aft Γ.St Sc S' b=i7 x:=fun b x hx=>by simp only[aft,hS0 b x hx,hx]
 have ax:zDi Γ.St (aft Γ.St Sc S') Γ.W Γ.w0.heap.size:=⟨fA,fun b hb eP=>by
  simp only[aft]at eP;split at eP
  ·rename_i hs
   rcases gX.nw b hs eP with h|⟨s,z,h,_⟩
   ·exact .inl (by have:=hm.sz;omega)
   ·exact(hm.ow b _ h).2.1
  ·exact absurd hb eP⟩
 refine⟨_,rfl,aft Γ.St Sc S',G.back G' w.heap.size d rw nd,ax,?_⟩;have ba:∀b,b<w.heap.size→ ¬zA8 G rw b→w'.heap[b]? =w.heap[b]?:=gC.fr;have gw:w.heap.size≤w'.heap.size:=gC.sz;have gJ:Blk w w':=gC.bk.blk
 generalize hGn:G.back G' w.heap.size d rw nd=Gn
 have ghdd:∀z,Gn.hd d z=zQF G' nd z:=fun z=>by rw[←hGn];simp[Gh.back]
 have gadd:∀z,Gn.ad d z=zTL G' nd z:=fun z=>by rw[←hGn];simp[Gh.back]
 have ghd0:∀s z,s≠d→s∉rw.map (·.2.1)→Gn.hd s z=G.hd s z:=fun s z h1 h2=>by rw[←hGn];simp[Gh.back,h1,zKD h2]
 have gad0:∀s z,s≠d→s∉rw.map (·.2.1)→Gn.ad s z=G.ad s z:=fun s z h1 h2=>by rw[←hGn];simp[Gh.back,h1,zKD h2]
 have cH:∀i s u,(i,s,u)∈rw→s≠d:=fun i s u h e=>mm.1 (e▸Jm.2 ⟨_,h,rfl⟩)
 have ghdr:∀i s u z,(i,s,u)∈rw→Gn.hd s z=G'.hd i z:=fun i s u z h=>by rw[←hGn];simp[Gh.back,cH i s u h,zCk rw mm.2 h]
 have gadr:∀i s u z,(i,s,u)∈rw→z≠[]→Gn.ad s z=G'.ad i z:=fun i s u z h h0=>by rw[←hGn];simp[Gh.back,cH i s u h,zCk rw mm.2 h,h0]
 have gadr0:∀i s u,(i,s,u)∈rw→Gn.ad s []=G.ad s []:=fun i s u h=>by rw[←hGn];simp[Gh.back,cH i s u h,zCk rw mm.2 h]
 have glb0:∀b o l,¬zA8 G rw b→G.lb b o=i7 l→Gn.lb b o=i7 l:=fun b o l h1 h2=>by have:=(hm.lb b o _ h2).1;rw[←hGn];simp only[Gh.back];rw[if_neg (by rintro(h|h);exact h1 h;omega)];exact h2
 have gow0:∀b l,¬zA8 G rw b→G.ow b=i7 l→Gn.ow b=i7 l:=fun b l h1 h2=>by have:=(hm.ow b _ h2).1;rw[←hGn];simp only[Gh.back];rw[if_neg (by rintro(h|h);exact h1 h;omega)];exact h2
 have gU:∀b o l,G'.lb b o=i7 l→zA8 G rw b∨w.heap.size≤b:=fun b o l h=>(gC.lb b o l h).2.1.symm
 have b8:∀b l,G'.ow b=i7 l→zA8 G rw b∨w.heap.size≤b:=fun b l h=>(gC.ow b l h).2.1.symm
 have glb1:∀b o fl s z s' z',G'.lb b o=i7 (fl,s,z)→zDw d rw nd s z=i7 (s',z')→Gn.lb b o=i7 (fl,s',z'):=fun b o fl s z s' z' h1 h2=>by rw[←hGn];simp only[Gh.back];rw[if_pos (gU b o _ h1),h1];simp[h2]
 have gow1:∀b s z l,G'.ow b=i7 (s,z)→zDw d rw nd s z=i7 l→Gn.ow b=i7 l:=fun b s z l h1 h2=>by rw[←hGn];simp only[Gh.back];rw[if_pos (b8 b _ h1),h1];simp[h2]
 have d5:∀i s u z,(i,s,u)∈rw→zDw d rw nd i z=i7 (s,z):=fun i s u z h=>by simp[zDw,zKC rw mV h]
 have gD:∀x∈rw,x.1<us.length:=fun x hx=>by have:=(Jn.1 (fw x hx)).1;omega
 have hbn:∀x∈nd,∀z,zDw d rw nd x.1 z=ndB d nd x.1 z:=fun x hx z=>by have h1:=(cL x hx).2;have h2:rwS rw x.1=i8:=zQD (fun y hy e=>by have:=gD y hy;omega);simp[zDw,h2]
 have mB:∀(k:Nat) x,nd[k]? =i7 x→ ∃tgt,(nd.length=1→tgt=[])∧(nd.length≠1→tgt=[k])∧(∀z,Gn.hd d (z++tgt)=G'.hd x.1 (z++x.2.1))∧(∀z,Gn.ad d (z++tgt)=G'.ad x.1 (z++x.2.1))∧ ∀z,zDw d rw nd x.1 (z++x.2.1)=i7 (d,z++tgt):=by
  intro k x hk;have bw:=Lr hk
  match nd,hk,pQ,hbn x bw,ghdd,gadd with
  | [y],hk,pQ,hb,ghdd,gadd=>
   have hkx:y=x:=by
    cases k with
    |zero=>simpa using hk
    |succ k=>simp at hk
   subst hkx;exact⟨[],fun _=>rfl,fun h=>absurd rfl h,fun z=>by rw[ghdd];simp[zQF],fun z=>by rw[gadd];simp[zTL],fun z=>by rw[hb];simp[ndB]⟩
  | [],hk,_,_,_,_=>simp at hk
  |y1::y2::r,hk,pQ,hb,ghdd,gadd=>
   refine⟨[k],fun h=>by simp at h,fun _=>rfl,fun z=>by rw[ghdd];simp only[zQF,Jag,Jah];simp[hk],fun z=>by rw[gadd];simp only[zTL,Jag,Jah];simp[hk],fun z=>?_⟩;rw[hb];have:=zI3 (y1::y2::r) pQ (k0:=0) hk;rw[Jb]at this;simp only[ndB,this];simp
 have me:∀(k:Nat) x,nd[k]? =i7 x→ ∀tgt,(∀z,Gn.hd d (z++tgt)=G'.hd x.1 (z++x.2.1))→(∀z,Gn.ad d (z++tgt)=G'.ad x.1 (z++x.2.1))→(∀z,zDw d rw nd x.1 (z++x.2.1)=i7 (d,z++tgt))→R (aft Γ.St Sc S') Gn w' d x.2.2 tgt:=by intro k x hk tgt h1 h2 h3;have bw:=Lr hk;obtain⟨c1,c2,c3⟩:=gk x.2.2 (by rw[←cC];exact Jm.2 ⟨x,bw,rfl⟩);refine zAe (G:=G') (w:=w') (s:=x.1) (p:=x.2.1) ⟨⟨h1,fun z _=>h2 z,fun b o f' z _ _ hl=>⟨glb1 b o f' _ _ _ _ hl (h3 z),rfl⟩,fun b z _ hl=>gow1 b _ _ _ hl (h3 z),fun b cs e h=>⟨cs,h,rfl⟩⟩,fun b o _ hl=>⟨glb1 b o i9 _ _ _ _ hl (by simpa using h3 []),rfl⟩,fun b hl=>gow1 b _ _ _ hl (by simpa using h3 [])⟩ _ (xC.mono (fun _ _=>False.elim) _ c1) (c3 _ _ _ _ _ gX.le (cL x bw).1)
 have gv:qR (uK d rw) G w Gn w':=by
  have gF:∀s,(∀n,(s,n)∉uK d rw)→s≠d∧s∉rw.map (·.2.1):=fun s h=>⟨fun e=>h 0 (by simp[uK,e]),fun hm=>by obtain⟨x,hx,rfl⟩:=Jm.1 hm;exact h _ (zGM hx)⟩
  have px:∀b s y,G.ow b=i7 (s,y)→s∉rw.map (·.2.1)→ ¬zA8 G rw b:=by
   rintro b s y h1 h2 ⟨s',z',h3,h4⟩
   rw[h1]at h3;simp at h3;exact h2 (h3.1▸h4)
  refine⟨fun s p h=>?_,fun s p h=>?_,fun b o fl s p hH h1 h2=>?_,fun b s p h1 h2=>?_,gJ⟩
  ·have h1:s≠d:=fun e=>absurd (h 0 (by simp[uK,e])) (by simp)
   by_cases h2:s∈rw.map (·.2.1)
   ·
    obtain⟨x,hx,rfl⟩:=Jm.1 h2;have hc:=h _ (zGM hx);have c2:x.2.2.single=i9:=by
     cases fa:x.2.2.single with
     |true=>rfl
     |false=>simp[cLv,fa]at hc
    have h3:p=[]:=Ll (by simp only[cLv,c2,if_true]at hc;omega);subst h3;obtain⟨_,_,u,c4,c5,c6⟩:=tn x hx;rw[c2]at c5;have c5:=c5.symm;obtain⟨_,u0,e1,e2⟩:=tm x.1 x.2.2 (Jm.2 ⟨x,hx,rfl⟩);rw[c6]at e1;simp at e1;subst e1;rw[xN c2,xN c5]at e2;rw[ghdr x.1 x.2.1 x.2.2 [] hx,e2];simp[Gh.arg,fw x hx]
   ·exact ghd0 s p h1 h2
  ·have h1:s≠d:=fun e=>absurd (h 0 (by simp[uK,e])) (by simp)
   by_cases h2:s∈rw.map (·.2.1)
   ·obtain⟨x,hx,rfl⟩:=Jm.1 h2
    have hc:=h _ (zGM hx);have h3:p=[]:=Ll (by have:cLv x.2.2≤1:=(by unfold cLv;split<;>omega);omega);subst h3;exact gadr0 x.1 x.2.1 x.2.2 hx
   ·exact gad0 s p h1 h2
  ·obtain⟨h3,h4⟩:=gF s h2
   obtain⟨y,hy⟩:=hH;have h5:=px b s y hy h4;exact⟨glb0 b o _ h5 h1,by simp[yO,World.cell?,ba b (hm.lb b o _ h1).1 h5]⟩
  ·obtain⟨h3,h4⟩:=gF s h2
   exact gow0 b _ (px b s p h1 h4) h1
 have gp:Mem (Γ.at (aft Γ.St Sc S')) Gn w':=by
  have gB:∀b,b<w'.heap.size∧(w.heap.size≤b∨zA8 G rw b)∧S' b=i8→zCb (Γ.at (aft Γ.St Sc S')) w' b:=fun b ⟨hb,h,gI⟩=>by
   have bA:Sc b=i8:=by
    cases hs:Sc b with
    |none=>rfl
    |some x=>rw[gX.le b x hs]at gI;cases gI
   refine⟨hb,?_,by simp only[aft,bA];exact gI⟩;rcases h with h|⟨s,z,h1,_⟩
   ·exact .inl (by have:=hm.sz;show Γ.w0.heap.size≤b;omega)
   ·exact(hm.ow b _ h1).2.1
  have gH:∀b,¬(zA8 G rw b∨w.heap.size≤b)→zCb Γ w b→zCb (Γ.at (aft Γ.St Sc S')) w' b:=fun b h ⟨h1,h2,h3⟩=>by
   refine⟨by omega,h2,?_⟩;simp only[aft];split
   ·rename_i hs
    cases gI:S' b with
    |none=>rfl
    |some x=>
     rcases gX.nw b hs (by rw[gI];simp)with h4|h4
     ·exact absurd (.inr h4) h
     ·exact absurd (.inl h4) h
   ·exact h3
  refine⟨fun s z=>?_,fun b o l hl=>?_,fun b l hl=>?_,fun b x hx=>?_,fun b(h1:b<Γ.w0.heap.size) h2=>?_,H8 hm.sz gw,hm.bk.trans gJ gC.bk.os gC.bk.out⟩
  ·by_cases h1:s=d
   ·subst h1
    rw[ghdd];unfold zQF;split
    ·exact gC.one _ _
    ·split
     ·split
      ·exact gC.one _ _
      ·rfl
     ·rfl
   ·by_cases h2:s∈rw.map (·.2.1)
    ·obtain⟨x,hx,rfl⟩:=Jm.1 h2
     rw[ghdr x.1 x.2.1 x.2.2 z hx];exact gC.one _ _
    ·rw[ghd0 s z h1 h2];exact hm.one _ _
  ·rw[←hGn]at hl
   simp only[Gh.back]at hl;split at hl
   ·rename_i m6
    split at hl
    ·rename_i hg
     exact gB b (gC.lb b o _ hg)
    ·cases hl
   ·rename_i m6
    exact gH b m6 (hm.lb b o l hl)
  ·rw[←hGn]at hl
   simp only[Gh.back]at hl;split at hl
   ·rename_i m6
    split at hl
    ·rename_i hg
     exact gB b (gC.ow b _ hg)
    ·cases hl
   ·rename_i m6
    exact gH b m6 (hm.ow b l hl)
  ·simp only[aft]at hx
   split at hx
   ·exact gC.st b x hx
   have h1:=hm.st b x hx;have h2:=(Ky.1 h1).1;have h3:¬zA8 G rw b:=by
    rintro⟨s,z,h4,_⟩
    rw[(hm.ow b _ h4).2.2]at hx;cases hx
   rw[ba b h2 h3];exact h1
  ·have h3:¬zA8 G rw b:=by
    rintro⟨s,z,h4,_⟩
    rcases(hm.ow b _ h4).2.1 with h5|h5
    ·omega
    ·exact h2 h5
   rw[ba b (by have:=hm.sz;omega) h3];exact hm.fr b h1 h2
 have u4:nd.length=res.length:=by rw[←cC];simp
 refine⟨gv,g9.up fA (by simp) gv gp ?_ ?_⟩
 ·intro s hs
  obtain⟨h1,h2⟩:=zQH hs;refine⟨fun n hn=>?_,by rw[Jl];simp[Ne.symm h1]⟩;simp only[uK,J8,Jaj.injEq,Jm]at hn;rcases hn with⟨e,_⟩|⟨x,hx,e,_⟩
  ·exact h1 e
  ·exact h2 (Jm.2 ⟨x,hx,e⟩)
 ·intro s t hs
  rcases zQG hs with⟨rfl,ht⟩|⟨gf,i,u,cI,ht⟩
  ·simp at ht
   subst ht;rw[Jl];simp only[g9.size,hd,if_true];have pc:res=nd.map (·.2.2):=cC.symm
   by_cases hl:nd.length=1
   ·obtain⟨x,hx⟩:∃x,nd=[x]:=List.length_eq_one_iff.1 hl
    obtain⟨tgt,t1,_,t3,t4,t5⟩:=mB 0 x (by simp[hx]);obtain rfl:=t1 hl;have hr:=me 0 x (by simp[hx]) [] t3 t4 t5;obtain⟨c1,c2,_⟩:=gk x.2.2 (by rw[pc,hx];simp);have f8:zM8 res=x.2.2:=by rw[pc,hx];rfl
    have ee:∀ys,x.2.2≠.tup ys:=fun ys e=>by rw[e]at c2;simp[T.okTup]at c2
    rw[f8];refine⟨?_,hr,Top.of_clean _ c1⟩;rw[kG Gn s _ [] ee,zB0 x.2.2 x.2.1 [] t3,hx];rfl
   ·have f8:zM8 res=.tup res:=by
     rw[u4]at hl
     match res,hl with
     | [],_=>rfl
     | [u],hl=>simp at hl
     |_::_::_,_=>rfl
    rw[f8];have gG:∀k x,nd[k]? =i7 x→ ∀z,Gn.hd s (z++[0+k])=G'.hd x.1 (z++x.2.1):=fun k x hk z=>by obtain⟨tgt,_,t2,t3,_,_⟩:=mB k x hk;rw[t2 hl]at t3;rw[Jb];exact t3 z
    refine⟨?_,?_,?_⟩
    ·have hv:=zNS (Gn:=Gn) (G':=G') (d:=s) nd 0 gG
     rw[cC]at hv;simp only[mkV,hv];unfold zK8;split
     ·simp at hl
     ·rfl
    ·simp only[R]
     rw[pc];refine zNH _ [] 0 (fun k u hu=>?_);rw[K0]at hu;cases hk:nd[k]? with
     |none=>simp[hk]at hu
     |some x=>
      simp[hk]at hu;subst hu;obtain⟨tgt,_,t2,t3,t4,t5⟩:=mB k x hk;rw[t2 hl]at t3 t4 t5;rw[Jb];exact me k x hk [k] t3 t4 t5
    ·simp only[Top]
     refine vM.of_clean _ ?_;have:∀us:List T,(∀u∈us,yD u)→xQ us:=by
      intro us
      induction us with
      |nil=>intro _;trivial
      |cons u us ih=>intro h;exact⟨h u (by simp),ih fun v hv=>h v (by simp[hv])⟩
     exact this res fun u hu=>(gk u hu).1
  ·simp at ht
   subst ht;obtain⟨c1,c3,u0,c4,_,c6⟩:=tn _ cI;obtain⟨r1,u1,e1,e2⟩:=tm i t (Jm.2 ⟨_,cI,rfl⟩);simp only at c4 c6;rw[c6]at e1;simp at e1;subst e1;refine⟨?_,?_,Top.of_clean _ c1⟩
   ·rw[Jl]
    simp only[Ne.symm gf,if_false];have aL:=fw _ cI;simp only at aL;have m1:mkV Gn s t []=mkV G' i t []:=zEV t [] [] (fun z=>by rw[Je];exact ghdr i s t z cI);have m2:mkV (G.arg a xs rw) i u0 []=mkV G s u0 []:=zEV u0 [] [] (fun z=>by simp[Gh.arg,aL]);rw[(g9.ent s u0 c4).1,m1,e2,m2]
   ·refine zAe (G:=G') (w:=w') (s:=i) (p:=[]) ⟨⟨fun z=>by rw[Je];exact ghdr i s t z cI,fun z hz=>by rw[Je];exact gadr i s t z cI hz,fun b o f' z _ _ hl=>?_,fun b z _ hl=>?_,fun b cs e h=>⟨cs,h,rfl⟩⟩,fun b o _ hl=>⟨glb1 b o i9 _ _ _ _ hl (d5 i s t [] cI),rfl⟩,fun b hl=>gow1 b _ _ _ hl (d5 i s t [] cI)⟩ t (xC.mono (fun _ _=>False.elim) _ c1) (c3 _ _ _ _ _ gX.le r1)
    ·rw[Je]at hl ⊢;exact⟨glb1 b o f' _ _ _ _ hl (d5 i s t z cI),rfl⟩
    ·rw[Je]at hl ⊢;exact gow1 b _ _ _ hl (d5 i s t z cI)
end
end Go.Ab

namespace Go.Ab
open Go
def zI4(E:Env)(rs:List Nat)(x:Operand)(t:T):Bool:=
 match x with
 |.tmp s=>qA E rs s t
 |_=>i9
def zBU(E:Env)(rw:Rw)(i:Nat)(x:Operand)(u:T):Prop:=
 (∃s u',x=.tmp s∧(i,s,u')∈rw∧E s=i7 u∧yD u∧u.okTup=i9∧vG u=i9)∨(∃t,opT E x=i7 t∧clo E t=u∧zI4 E (rw.map (·.2.1)) x t=i9)
def xZ(E:Env)(rw:Rw):Nat→List Operand→List T→Prop
 |_,[],[]=>True
 |i,x::xs,u::us=>zBU E rw i x u∧xZ E rw (i+1) xs us
 |_,_,_=>False
theorem xZ.length{E:Env}{rw:Rw}:(xs:List Operand)→(us:List T)→ ∀i,xZ E rw i xs us→xs.length=us.length
 | [],[],_,_=>rfl
 |_::xs,_::us,i,h=>by simp[xZ.length xs us (i+1) h.2]
 | [],_::_,_,h=>by simp[xZ]at h
 |_::_,[],_,h=>by simp[xZ]at h
theorem xZ.get{E:Env}{rw:Rw}:(xs:List Operand)→(us:List T)→ ∀i,xZ E rw i xs us→ ∀(j:Nat) u,us[j]? =i7 u→ ∃x,xs[j]? =i7 x∧zBU E rw (i+j) x u
 | [],[],_,_,_,_,h=>by simp at h
 |x::xs,v::us,i,h,j,u,hj=>by
  cases j with
  |zero=>simp at hj;subst hj;exact⟨x,by simp,h.1⟩
  |succ j=>
   obtain⟨y,h1,h2⟩:=xZ.get xs us (i+1) h.2 j u (by simpa using hj);exact⟨y,by simpa using h1,by rwa [show i+(j+1)=i+1+j from by omega]⟩
 | [],_::_,_,h,_,_,_=>by simp[xZ]at h
 |_::_,[],_,h,_,_,_=>by grind
structure zKE (E:Env) (d:Nat) (xs:List Operand) (us:List T) (rw:Rw):Prop where
 nodup:(d::rw.map (·.2.1)).Nodup
 nodup2:(rw.map (·.1)).Nodup
 at_:∀x∈rw,xs[x.1]? =i7 (.tmp x.2.1)
 tree:∀x∈rw,yD x.2.2∧vG x.2.2=i9∧ ∃u,E x.2.1=i7 u∧x.2.2.single=u.single∧us[x.1]? =i7 u
theorem zKE.nil{E:Env}{d:Nat}{xs:List Operand}{us:List T}:zKE E d xs us []:=⟨by simp,by simp,by simp,by simp⟩
theorem zKE.one{E:Env}{d i s:Nat}{u u':T}{xs:List Operand}{us:List T}(h1:d≠s)(h2:xs[i]? =i7 (.tmp s))(h3:yD u')(h4:u'.single=i9)(h5:vG u'=i9)(h6:E s=i7 u)(h7:u.single=i9)(h8:us[i]? =i7 u):
  zKE E d xs us [(i,s,u')]:=⟨by grind,by simp,by grind,by grind⟩
section
variable {P:Program}{Γ:Ctx}{E:Env}{o:Oper}{d:Nat}
theorem zTM{G:Gh}{a:Act}{w:World}(g9:Rep Γ E G a.tmps w){rw:Rw}{xs:List Operand}{us:List T}(hr:zKE E d xs us rw){Sc:Stb}(ey:∀b x,Γ.St b=i7 x→Sc b=i7 x)
  (eD:∀r,r∉rw.map (·.2.1)→ ∀b,(∃y,G.ow b=i7 (r,y))→Sc b=w.heap[b]?){i:Nat}{x:Operand}{u:T}(hx:xs[i]? =i7 x)(hu:us[i]? =i7 u)(h:zBU E rw i x u):
  a.eval x=mkV (G.arg a xs rw) i u []∧R Sc (G.arg a xs rw) w i u []:=by
 rcases h with⟨s,u',rfl,h1,h2,h3,h4,h5⟩|⟨t,h1,rfl,h3⟩
 ·obtain⟨e1,e2,_⟩:=g9.ent s u h2
  have gG:∀z,(G.arg a xs rw).hd i z=G.hd s z:=by grind[Gh.arg]
  have fc:∀z,(G.arg a xs rw).ad i z=G.ad s z:=by grind[Gh.arg]
  have hi:=zCk rw (L8.1 hr.nodup).2 h1;refine⟨by grind[wI,zEV],?_⟩;refine zPh u [] h5 (zAe (St:=Γ.St) (G:=G) (w:=w) (s:=s) (p:=[]) ⟨⟨by grind,by grind,fun b o' f' z _ hH hl=>?_,fun b z _ hl=>?_,fun b cs e h=>⟨cs,h,rfl⟩⟩,fun b o' hH hl=>?_,fun b hl=>?_⟩ u (by grind[xC.mono]) e2)
  ·obtain⟨y,hy⟩:=hH
   exact⟨by grind[Gh.arg],rfl⟩
  ·grind[Gh.arg]
  ·obtain⟨y,hy⟩:=hH
   exact⟨by grind[Gh.arg],rfl⟩
  grind[Gh.arg]
 ·cases x with
  |tmp s=>
   have gG:∀z,(G.arg a xs rw).hd i z=G.hd s z:=by grind[Gh.arg]
   obtain⟨e1,e2,_⟩:=g9.ent s t h1
   grind[zI4,wI,zJ0,zVh]
  |const v=>
   simp only[opT]at h1;split at h1
   ·rename_i gz
    simp at h1;subst h1;have gG:(G.arg a xs rw).hd i []=v:=by grind[Gh.arg,Act.eval,zAg]
    exact⟨by grind[clo,mkV,Act.eval],by simp[clo,R,gG]⟩
   ·cases h1
  |func f=>
   simp only[opT]at h1;simp at h1;subst h1;have gG:(G.arg a xs rw).hd i []=.func (.func f) #[] #[]:=by grind[Gh.arg,Act.eval,jQ,Value.oneCell']
   exact⟨by grind[clo,mkV,Act.eval],by simp[clo,R,gG]⟩
  |global g=>grind[opT]
theorem zCR{E:Env}:(t:T)→t.flat=i9→(∀rs s,qA E rs s t=i9)∧clo E t=t
 |.lit _,_|.ro _,_=>by simp[qA,clo]
 |.agg ts,h=>by
  simp only[T.flat]at h;have:=go ts h
  grind[qA,clo]
 |.any,h|.same _ _,h|.addr _ _,h|.sub _ _ _ _ _,h|.sl _ _,h|.ptr _,h|.tup _,h=>by grind[T.flat]
where go:(ts:List T)→zAx ts=i9→(∀rs s,zAy E rs s ts=i9)∧zAQ E ts=ts
 | [],_=>by simp[zAy,zAQ]
 |x::xs,h=>by simp only[zAx,J3]at h;simp only[zAy,zAQ,J3];exact⟨fun rs s=>⟨(zCR x h.1).1 rs s,(go xs h.2).1 rs s⟩,by rw[(zCR x h.1).2,(go xs h.2).2]⟩
theorem zEp{a:Act}{w:World}{K:Act→World→Prop}{Q:Exit→Act→World→Prop}{f:FuncId}{xf:Operand}{xs:List Operand}{ats:Array TypeId}(ho:o.op=.call { callee:=.value xf,args:=xs.toArray,argTypes:=ats })(gg:o.dst=i7 d)
  (gr:∀args w,(callFunc f args).run P w=.ok (.enter f args) w)(hf:a.eval xf=.func (.func f) #[] #[])
  (h:Calls P f (xs.map a.eval).toArray w fun e w'=> ∃v,e=.returned v∧K (a.put (i7 d) v) w'):o.wp P a w K Q:=by
 have gx:(execOp a.eval o).run P w=.ok (.enter f (xs.map a.eval).toArray) w:=by simp[execOp,ho,resolve,hf,Deferred.ofValue,invoke,gr]
 unfold Oper.wp;rw[gx,Oper.upon_enter];refine h.mono ?_
 grind
theorem zKF{G:Gh}{a:Act}{w:World}(g9:Rep Γ E G a.tmps w)(hd:d<Γ.N)(f:FuncId)(xs:List Operand)(us res:List T)(rw:Rw)
  (hc:FnC P f us res (rw.map fun x=>(x.1,x.2.2)))(gc:xZ E rw 0 xs us)(hr:zKE E d xs us rw)(gk:xQ res∧yR res=i9∧uF res=i9):
  Calls P f (xs.map a.eval).toArray w fun e w'=> ∃v,e=.returned v∧ ∃S G',zDi Γ.St S Γ.W Γ.w0.heap.size∧qR (uK d rw) G w G' w'∧Rep (Γ.at S) (E.app (cWr d res rw) (uK d rw)) G' (a.tmps.setIfInBounds d v) w':=by
 classical
 have hm:=g9.mem
 let Sc:Stb:=fun b=>if zA8 G rw b then i8 else w.heap[b]?
 have ey:∀b x,Γ.St b=i7 x→Sc b=i7 x:=fun b x hx=>by
  have h3:¬zA8 G rw b:=by
   rintro⟨s,z,h4,_⟩
   rw[(hm.ow b _ h4).2.2]at hx;cases hx
  simp only[Sc,h3,if_false];exact hm.st b x hx
 have eD:∀r,r∉rw.map (·.2.1)→ ∀b,(∃y,G.ow b=i7 (r,y))→Sc b=w.heap[b]?:=fun r hr' b ⟨y,hy⟩=>by
  have h3:¬zA8 G rw b:=by
   rintro⟨s,z,h4,h5⟩
   grind
  grind
 have fk:∀(us:List T),xQ us∧yR us=i9∧uF us=i9→ ∀u∈us,yD u∧u.okTup=i9∧vG u=i9:=by
  intro us
  induction us with
  |nil=>simp
  |cons v us ih=>
   intro⟨h1,h2,h3⟩ u hu;simp only[yR,uF,J3]at h2 h3;rcases J8.1 hu with rfl|hu
   ·exact⟨h1.1,h2.1,h3.1⟩
   ·exact ih ⟨h1.2,h2.2,h3.2⟩ u hu
 exact zGN g9 hd (Sc:=Sc) (rw:=rw) (by grind) ey hc (xZ.length xs us 0 gc) (fun i u hu=>by
   obtain⟨x,h1,h2⟩:=xZ.get xs us 0 gc i u hu;rw[Jb]at h2
   grind[zTM]) hr.nodup hr.nodup2 hr.at_
  (by grind[zPh])
  (fun x hx=>by
   obtain⟨h1,h3,h4⟩:=hr.tree x hx
   grind[zPh])
theorem zJ1(f:FuncId)(xf:Operand)(xs:List Operand)(ats:Array TypeId)(us res:List T)(rw:Rw)(ho:o.op=.call { callee:=.value xf,args:=xs.toArray,argTypes:=ats })(gg:o.dst=i7 d)(hd:d<Γ.N)
  (gr:∀args w,(callFunc f args).run P w=.ok (.enter f args) w)(hf:opT E xf=i7 (.lit (.func (.func f) #[] #[])))
  (hc:FnC P f us res (rw.map fun x=>(x.1,x.2.2)))(gc:xZ E rw 0 xs us)(hr:zKE E d xs us rw)(gk:xQ res∧yR res=i9∧uF res=i9):
  wL P Γ o E (E.app (cWr d res rw) (uK d rw)):=by
 intro a w K Q ⟨gO,G,g9⟩ hK;refine zEp ho gg gr (wN g9 hf).1 ?_;refine(zKF g9 hd f xs us res rw hc gc hr gk).mono ?_
 rintro e w' ⟨v,rfl,S,G',hS,_,gm⟩
 exact⟨v,rfl,hK _ _ ⟨S,hS,gO,G',gm⟩⟩
theorem zKG(f:FuncId)(xf:Operand)(xs:List Operand)(ats:Array TypeId)(us res:List T)(i ds r:Nat)(q:List Nat)(tr u u':T)(ho:o.op=.call { callee:=.value xf,args:=xs.toArray,argTypes:=ats })(gg:o.dst=i7 d)(hd:d<Γ.N)
  (gr:∀args w,(callFunc f args).run P w=.ok (.enter f args) w)(hf:opT E xf=i7 (.lit (.func (.func f) #[] #[])))
  (hs:E ds=i7 (.same r q))(hr:E r=i7 tr)(hq:tr.get q.reverse=i7 u)(hu:u.single=i9)(eV:yD u)(gY:ds≠r)(hdr2:d≠r)(gB:tr.okB [(ds,1),(r,q.length+1)]=i9)(fa:xU tr=i9)
  (E1 E2:Env)(bp:E1=E.app [(ds,i7 u),(r,i7 (if q=[]then .same ds []else tr.set q.reverse .any))] [(ds,1),(r,q.length+1)])(gL:E2=E1.app (cWr d res [(i,ds,u')]) (uK d [(i,ds,u')]))
  (hc:FnC P f us res [(i,u')])(gc:xZ E1 [(i,ds,u')] 0 xs us)(cI:zKE E1 d xs us [(i,ds,u')])(gk:xQ res∧yR res=i9∧uF res=i9)
  (tr2 v0:T)(fF:E2 r=i7 tr2)(dM:tr2.get q.reverse=i7 v0)(bZ:v0.single=i9)(bB:E2 ds=i7 u')(eG:yD u')(t8:u'.single=i9)(pP:tr2.okB [(r,q.length+1),(ds,1)]=i9)(hc3:xU tr2=i9)(hok3:u'.okB [(r,q.length+1),(ds,1)]=i9)(hc4:xU u'=i9):
  wL P Γ o E (E2.app [(r,i7 (tr2.set q.reverse u')),(ds,i7 (.same r q))] [(r,q.length+1),(ds,1)]):=by
 have bF:cLv u'=1:=by grind[cLv]
 intro a w K Q ⟨gO,G,g9⟩ hK;refine zEp ho gg gr (wN g9 hf).1 ?_;have e6:G.hd ds []=G.hd r q:=by have:=(g9.ent ds _ hs).2.1;simpa only[R]using this
 obtain⟨cB,ud⟩:=zGE g9 ds [] r q (.same r q) tr u (.same r q) hs rfl rfl e6 hr hq hu eV gY (by grind[T.okB,kY]) (by omega) rfl fa;have i6:E.app [(ds,i7 ((T.same r q).set [].reverse u)),(r,i7 (if q=[]then .same ds []else tr.set q.reverse .any))] [(ds,([]:List Nat).length+1),(r,q.length+1)]=E1:=by rw[bp];rfl
 rw[i6]at cB;refine(zKF cB hd f xs us res [(i,ds,u')] hc gc cI gk).mono ?_
 rintro e w' ⟨v,rfl,S,G',hS,hk,gm⟩
 rw[←gL]at gm;have hdds:d≠ds:=by have:=cI.nodup;grind
 have h1:G'.hd r q=(G.tr ds [] r q).hd r q:=hk.hd r q (fun n hn=>by grind[uK]);have h2:G'.hd ds []=(G.tr ds [] r q).hd ds []:=hk.hd ds [] (fun n hn=>by grind[uK]);have fT:G'.hd r q=G'.hd ds []:=by grind
 obtain⟨cz,_⟩:=zGE gm r q ds [] tr2 u' u' v0 fF dM bZ fT bB rfl t8 eG (Ne.symm gY) (by omega) (by omega) hc3 hc4;refine⟨v,rfl,hK _ _ ⟨S,hS,gO,G'.tr r q ds [],?_⟩⟩;have hw:(if([]:List Nat)=[]then T.same r q else u'.set ([]:List Nat).reverse .any)=T.same r q:=if_pos rfl;rw[hw]at cz;exact cz
theorem zQI(f:FuncId)(xf:Operand)(xs:List Operand)(ats:Array TypeId)(us res:List T)(ho:o.op=.call { callee:=.value xf,args:=xs.toArray,argTypes:=ats })(gg:o.dst=i7 d)(hd:d<Γ.N)
  (gr:∀args w,(callFunc f args).run P w=.ok (.enter f args) w)(hf:opT E xf=i7 (.lit (.func (.func f) #[] #[])))
  (hc:FnC P f us res [])(gj:xs.length=us.length)(gc:∀(i:Nat) u,us[i]? =i7 u→ ∃x,xs[i]? =i7 x∧opT E x=i7 u∧u.flat=i9)(gk:xQ res∧yR res=i9):
  wL P Γ o E (E.app (cWr d res []) (uK d [])):=by
 intro a w K Q ⟨gO,G,g9⟩ hK;have hm:=g9.mem;refine zEp ho gg gr (wN g9 hf).1 ?_;have px:∀b,¬zA8 G [] b:=by rintro b ⟨s,z,_,h⟩;simp at h
 have fk:∀(us:List T),xQ us∧yR us=i9→ ∀u∈us,yD u∧u.okTup=i9:=by
  intro us
  induction us with
  |nil=>simp
  |cons v us ih=>
   intro⟨h1,h2⟩ u hu;simp only[yR,J3]at h2;rcases J8.1 hu with rfl|hu
   ·exact⟨h1.1,h2.1⟩
   ·exact ih ⟨h1.2,h2.2⟩ u hu
 have:=zGN g9 hd (Sc:=Γ.St) (rw:=[]) (fun b x hx=>⟨hm.st b x hx,px b⟩) (fun _ _ h=>h) hc gj (fun i u hu=>by
   obtain⟨x,h1,h2,h3⟩:=gc i u hu;refine⟨x,h1,?_⟩;have uh:=zCR (E:=E) u h3;cases x with
   |tmp s=>
    have gG:∀z,(G.arg a xs []).hd i z=G.hd s z:=by grind[Gh.arg]
    obtain⟨e1,e2,_⟩:=g9.ent s u h2;refine⟨?_,by grind[zJv]⟩;have:=zJ0 (E:=E) gG u (uh.1 [] s)
    grind[wI]
   |const v=>
    simp only[opT]at h2;split at h2
    ·rename_i gz
     simp at h2;subst h2;have gG:(G.arg a xs []).hd i []=v:=by grind[Gh.arg,Act.eval,zAg]
     exact⟨by grind[mkV,Act.eval],by simp[R,gG]⟩
    ·cases h2
   |func f=>
    simp only[opT]at h2;simp at h2;subst h2;have gG:(G.arg a xs []).hd i []=.func (.func f) #[] #[]:=by grind[Gh.arg,Act.eval,jQ,Value.oneCell']
    exact⟨by grind[mkV,Act.eval],by simp[R,gG]⟩
   |global g=>grind[opT]) (by simp) (by simp) (by simp)
  (fun u hu=>⟨by grind,by grind,fun S' G w s p hS h=>by
   have:aft Γ.St Γ.St S'=S':=funext (by grind[aft])
   grind⟩) (by simp)
 refine this.mono ?_
 rintro e w' ⟨v,rfl,S,G',hS,_,gm⟩
 exact⟨v,rfl,hK _ _ ⟨S,hS,gO,G',gm⟩⟩
end
end Go.Ab

namespace Go.Ab
open Go
def yU:List (Nat×T)→Env
 | [],_=>i8
 |(k,t)::l,s=>if k=s then i7 t else yU l s
def Env.Has(E:Env):List (Nat×T)→Prop
 | []=>True
 |(s,t)::l=>E s=i7 t∧E.Has l
theorem Env.Has.le{E:Env}:{l:List (Nat×T)}→E.Has l→ ∀s t,yU l s=i7 t→E s=i7 t
 | [],_,s,t,h=>by grind[yU]
 |(k,u)::l,hh,s,t,h=>by
  simp only[yU]at h;split at h
  ·rename_i e
   subst e;rw[hh.1];exact h
  ·exact hh.2.le s t h
theorem Sim.weaken{Γ:Ctx}{E E':Env}{a:Act}{w:World}(h:Sim Γ E a w)(cO:∀s t,E' s=i7 t→E s=i7 t):Sim Γ E' a w:=by obtain⟨h1,G,h2⟩:=h;exact⟨h1,G,⟨h2.size,fun s t hs=>h2.ent s t (cO s t hs),h2.mem⟩⟩
theorem qY.weaken{Γ:Ctx}{E E':Env}{a:Act}{w:World}(h:qY Γ E a w)(cO:∀s t,E' s=i7 t→E s=i7 t):qY Γ E' a w:=by obtain⟨S,h1,h2⟩:=h;exact⟨S,h1,h2.weaken cO⟩
abbrev jS:=List (Nat×Value)
def jS.Hold(pn:jS)(a:Act):Prop:=∀x∈pn,a.tmps[x.1]? =i7 x.2
def jS.ok(pn:jS)(d:Option Nat):Bool:=match d with
 |none=>i9
 |some d=>pn.all fun x=>x.1 != d
theorem Oper.wp_frame{P:Program}{o:Oper}{a:Act}{w:World}{K:Act→World→Prop}{Q:Exit→Act→World→Prop}(h:o.wp P a w K Q):
  o.wp P a w (fun a' w'=>K a' w'∧ ∀s,o.dst≠i7 s→a'.tmps[s]? =a.tmps[s]?) Q:=by
 have key:∀(v:Value)(ds:List Deferred),∀s,o.dst≠i7 s→(({ a with defers:=ds }:Act).put o.dst v).tmps[s]? =a.tmps[s]?:=by
  intro v ds s hs;cases hd:o.dst with
  |none=>rfl
  |some d=>
   grind[Act.put]
 have key0:∀(v:Value),∀s,o.dst≠i7 s→(a.put o.dst v).tmps[s]? =a.tmps[s]?:=fun v=>key v a.defers
 unfold Oper.wp at*
 generalize (execOp a.eval o).run P w=r at*
 cases r with
 |ok n w'=>
  cases n<;>simp only[Oper.upon]at h ⊢
  all_goals grind
 |halt x w'=>cases x<;>simp only[Oper.upon]at h ⊢ <;>exact h
theorem jS.Hold.frame{pn:jS}{a a':Act}{d:Option Nat}(h:pn.Hold a)(gB:pn.ok d=i9)(hf:∀s,d≠i7 s→a'.tmps[s]? =a.tmps[s]?):pn.Hold a':=by
 intro x hx;rw[hf x.1 ?_]
 ·exact h x hx
 ·rintro rfl
  have:=Kf.1 gB x hx
  grind
section
variable (P:Program) (Γ:Ctx) (pn:jS)
def CW(c:Code)(E:Env)(Q:Exit→Env→Prop):Prop:=
 ∀(a:Act)(w:World)(Q':Exit→Act→World→Prop),qY Γ E a w→pn.Hold a→(∀e E' a' w',Q e E'→qY Γ E' a' w'→pn.Hold a'→Q' e a' w')→c.wp P Q' a w
def zW(ops:Array Oper)(o:Oper)(E E':Env):Prop:=
 ∀(a:Act)(w:World)(K:Act→World→Prop)(Q:Exit→Act→World→Prop),qY Γ E a w→(∀a' w',qY Γ E' a' w'→(∀s,o.dst≠i7 s→a'.tmps[s]? =a.tmps[s]?)→K a' w')→
  if Region.wanted o (yielded ops a.tmps)then o.wp P a w K Q∨(o.asks P a w∧LetsOut Q)else K (a.put o.dst undef) w
def wpL(ops:Array Oper)(Q:Exit→Act→World→Prop):List Oper→Act→World→Prop
 | [],a,w=>Q .normal a w
 |o::os,a,w=>if Region.wanted o (yielded ops a.tmps)then o.wp P a w (wpL ops Q os) Q∨(o.asks P a w∧LetsOut Q)else wpL ops Q os (a.put o.dst undef) w
def RW(ops:Array Oper)(os:List Oper)(E:Env)(Q:Exit→Env→Prop):Prop:=
 ∀(a:Act)(w:World)(Q':Exit→Act→World→Prop),qY Γ E a w→pn.Hold a→(∀e E' a' w',Q e E'→qY Γ E' a' w'→pn.Hold a'→Q' e a' w')→wpL P ops Q' os a w
end
section
variable {P:Program}{Γ:Ctx}{pn:jS}{E E':Env}{Q Q1:Exit→Env→Prop}{c c1 c2:Code}{ops:Array Oper}{o:Oper}{os:List Oper}{d:Nat}
theorem zJ2{Q':Exit→Act→World→Prop}:∀(os:List Oper)(n:Nat)(a:Act)(w:World),ops.toList.drop n=os→wpL P ops Q' os a w→wpOps P ops Q' (Ku n os.length) a w
 | [],n,a,w,_,h=>by simpa[wpOps,wpL]using h
 |o::os,n,a,w,hd,h=>by
  have ho:ops[n]? =i7 o:=by
   have:=congrArg (·[0]?) hd
   grind
  have bf:ops.toList.drop (n+1)=os:=by
   have:=congrArg List.tail hd
   grind[List.tail_drop]
  simp only[J7,Jcr,wpOps,ho];simp only[wpL]at h;split
  ·rename_i hw
   simp only[hw,if_true]at h;exact h.imp (Oper.wp_mono fun a w=>zJ2 os (n+1) a w bf) id
  ·rename_i hw
   simp only[hw]at h;exact zJ2 os (n+1) _ w bf h
theorem CW.region{id:Nat}(h:RW P Γ pn ops ops.toList E Q):CW P Γ pn (.region id ops ia) E Q:=by
 intro a w Q' hs hp hQ;refine wp_region ?_;have:=zJ2 (P:=P) ops.toList 0 a w (by simp) (h a w Q' hs hp hQ)
 grind[Lh]
theorem RW.nil(h:Q .normal E):RW P Γ pn ops [] E Q:=fun a w Q' hs hp hQ=>by
 simp only[wpL]
 grind
theorem RW.cons(h1:zW P Γ ops o E E')(h3:RW P Γ pn ops os E' Q)(h2:pn.ok o.dst=i9:=by rfl):RW P Γ pn ops (o::os) E Q:=by
 intro a w Q' hs hp hQ;simp only[wpL];have:=h1 a w (wpL P ops Q' os) Q' hs fun a' w' gI hf=>h3 a' w' Q' gI (hp.frame h2 hf) hQ
 exact this
theorem zW.op(h:∀S,wL P (Γ.at S) o E E')(hg:o.guard=i8:=by rfl):zW P Γ ops o E E':=by
 intro a w K Q hs hK;have hw:Region.wanted o (yielded ops a.tmps)=i9:=by simp[Region.wanted,hg]
 rw[if_pos hw];refine .inl ?_;obtain⟨S,hS,hs⟩:=hs;have:=Oper.wp_frame (h S a w (fun a' w'=>qY Γ E' a' w') Q hs fun a' w' h=>h.up hS)
 grind[Oper.wp_mono]
theorem zGO{a:Act}{w:World}(hs:qY Γ E a w){g s:Nat}{b:Bool}(gn:(ops[g]?).bind (·.dst)=i7 s)(h:E s=i7 (.lit (.bool b))):yielded ops a.tmps g=i7 b:=by
 obtain⟨_,_,_,G,hr⟩:=hs;obtain⟨h1,h2,_⟩:=hr.ent s _ h;simp only[R]at h2
 grind[yielded,mkV]
theorem zW.guard(g:Nat)(b:Bool)(s:Nat)(h:∀S,wL P (Γ.at S) o E E')(hg:o.guard=i7 (g,b):=by rfl)(gn:(ops[g]?).bind (·.dst)=i7 s:=by rfl)(hb:E s=i7 (.lit (.bool b)):=by rfl):zW P Γ ops o E E':=by
 intro a w K Q hs hK;have hw:Region.wanted o (yielded ops a.tmps)=i9:=by grind[Region.wanted,zGO]
 rw[if_pos hw];refine .inl ?_;obtain⟨S,hS,hs⟩:=hs;have:=Oper.wp_frame (h S a w (fun a' w'=>qY Γ E' a' w') Q hs fun a' w' h=>h.up hS)
 grind[Oper.wp_mono]
def zM(Γ:Ctx)(E E':Env):Prop:=∀(a:Act)(w:World),qY Γ E a w→qY Γ E' a w
theorem zM.refl:zM Γ E E:=fun _ _ h=>h
theorem zM.trans{E1 E2 E3:Env}(h:zM Γ E1 E2)(h':zM Γ E2 E3):zM Γ E1 E3:=fun a w hs=>h' a w (h a w hs)
theorem zM.has{l:List (Nat×T)}(h:E.Has l):zM Γ E (yU l):=fun _ _ hs=>hs.weaken h.le
theorem CW.ghost(h1:zM Γ E E')(h:CW P Γ pn c E' Q):CW P Γ pn c E Q:=fun a w Q' hs=>h a w Q' (h1 a w hs)
theorem RW.ghost(h1:zM Γ E E')(h:RW P Γ pn ops os E' Q):RW P Γ pn ops os E Q:=fun a w Q' hs=>h a w Q' (h1 a w hs)
theorem CW.to(l:List (Nat×T))(h1:E.Has l)(h:CW P Γ pn c (yU l) Q):CW P Γ pn c E Q:=h.ghost (.has h1)
theorem CW.mono(h:CW P Γ pn c E Q1)(hq:∀e E',Q1 e E'→Q e E'):CW P Γ pn c E Q:=fun a w Q' hs hp hQ=>h a w Q' hs hp (by grind)
theorem CW.skip(h:Q .normal E):CW P Γ pn .skip E Q:=fun _ _ _ hs hp hQ=>by grind[wp_skip]
theorem CW.ret(h:Q .ret E):CW P Γ pn .ret E Q:=fun _ _ _ hs hp hQ=>by grind[wp_ret]
theorem CW.exit{id:Nat}(h:Q (.exit id) E):CW P Γ pn (.exit id) E Q:=fun _ _ _ hs hp hQ=>by grind[wp_exit]
def wC(P:Program)(Γ:Ctx)(pn:jS)(c:Code)(Q:Exit→Env→Prop):Exit→Env→Prop
 |.normal,E=>CW P Γ pn c E Q
 |e,E=>Q e E
theorem CW.seq(h:CW P Γ pn c1 E (wC P Γ pn c2 Q)):CW P Γ pn (.seq c1 c2) E Q:=by
 intro a w Q' hs hp hQ;refine wp_seq (h a w _ hs hp fun e E' a' w' h1 gI cK=>?_);cases e with
 |normal=>exact h1 a' w' Q' gI cK hQ
 |_=>exact hQ _ _ _ _ h1 gI cK
theorem CW.cond{x:Operand}(b:Bool)(hb:opT E x=i7 (.lit (.bool b)))(ht:b=i9→CW P Γ pn c1 E Q)(hf:b=ia→CW P Γ pn c2 E Q):CW P Γ pn (.cond x c1 c2) E Q:=by intro a w Q' hs hp hQ;obtain⟨_,_,_,G,hr⟩:=id hs;refine wp_cond_split (wN hr hb).1 (fun h=>ht h a w Q' hs hp hQ) (fun h=>hf h a w Q' hs hp hQ)
def wJ(id:Nat)(Q:Exit→Env→Prop):Exit→Env→Prop
 |.exit id',E=>if id'=id then Q .normal E else Q (.exit id') E
 |e,E=>Q e E
theorem CW.block{id:Nat}(h:CW P Γ pn c E (wJ id Q)):CW P Γ pn (.block id c) E Q:=by
 intro a w Q' hs hp hQ;refine wp_block (h a w _ hs hp fun e E' a' w' h1 gI cK=>?_);cases e with
 |exit id'=>
  simp only[wJ]at h1;simp only[Exit.inBlock]
  grind
 |_=>exact hQ _ _ _ _ h1 gI cK
end
def jJ{σ ρ:Type}(body:σ→Option (σ⊕ρ)):Nat→σ→Option ρ
 |0,_=>i8
 |n+1,s=>match body s with
  |none=>i8
  |some (.inl s')=>jJ body n s'
  |some (.inr r)=>i7 r
theorem zGP{σ ρ:Type}{body:σ→Option (σ⊕ρ)}{r:ρ}:∀{n m:Nat}{s:σ},jJ body n s=i7 r→n≤m→jJ body m s=i7 r
 |0,_,_,h,_=>by grind[jJ]
 |n+1,0,_,_,hm=>by omega
 |n+1,m+1,s,h,hm=>by
  simp only[jJ]at h ⊢
  cases hb:body s with
  |none=>grind
  |some x=>
   cases x with
   |inl s'=>simp only[hb]at h ⊢;exact zGP h (by omega)
   |inr r'=>grind
open Classical in
noncomputable def zJ {σ ρ:Type} (body:σ→Option (σ⊕ρ)) (s:σ):Option ρ:=
 if h:∃(n:Nat)(r:ρ),jJ body n s=i7 r then i7 h.choose_spec.choose else i8
theorem zDG{σ ρ:Type}{body:σ→Option (σ⊕ρ)}{s:σ}{r:ρ}:zJ body s=i7 r↔ ∃n,jJ body n s=i7 r:=by
 unfold zJ;constructor
 ·intro h
  split at h
  all_goals grind
 ·rintro⟨n,hn⟩
  have he:∃(n:Nat)(r:ρ),jJ body n s=i7 r:=⟨n,r,hn⟩;rw[dif_pos he]
  grind[zGP]
theorem xT{σ ρ:Type}(body:σ→Option (σ⊕ρ))(s:σ):zJ body s=match body s with
  |none=>i8
  |some (.inl s')=>zJ body s'
  |some (.inr r)=>i7 r:=by
 apply Option.ext;intro r;rw[zDG];cases hb:body s with
 |none=>
  simp only[reduceCtorEq,iff_false]
  rintro⟨n,hn⟩
  cases n<;>simp[jJ,hb]at hn
 |some x=>
  cases x with
  |inl s'=>
   simp only[];rw[zDG];constructor
   ·rintro⟨n,hn⟩
    cases n with
    |zero=>grind[jJ]
    |succ n=>grind[jJ]
   ·rintro⟨n,hn⟩
    exact⟨n+1,by grind[jJ]⟩
  |inr r'=>
   simp only[Lq.injEq];constructor
   ·rintro⟨n,hn⟩
    cases n with
    |zero=>grind[jJ]
    |succ n=>grind[jJ]
   ·rintro rfl
    exact⟨1,by simp[jJ,hb]⟩
section
variable {P:Program}{Γ:Ctx}{pn:jS}{E:Env}{Q:Exit→Env→Prop}{c:Code}
def vU{σ ρ:Type}(Γ:Ctx)(en:σ→Env)(Q:ρ→Exit→Env→Prop)(x:σ⊕ρ):Exit→Env→Prop:=fun e E'=>
 match x with
 |.inl s'=>e=.normal∧zM Γ E' (en s')
 |.inr r=>e≠.normal∧Q r e E'
theorem zDx{p:Nat→Prop}(h:∃m,p m):∃m,p m∧ ∀k,k<m→ ¬p k:=by
 refine Classical.byContradiction fun hn=>?_
 have key:∀n,∀k,k<n→ ¬p k:=by
  intro n
  induction n with
  |zero=>simp
  |succ n ih=>
   grind
 grind
theorem CW.loop{σ ρ:Type}(body:σ→Option (σ⊕ρ))(en:σ→Env)(Q:ρ→Exit→Env→Prop)(h:∀s x,body s=i7 x→CW P Γ pn c (en s) (vU Γ en Q x)){s:σ}{r:ρ}(hr:zJ body s=i7 r):
  CW P Γ pn (.loop c) (en s) (Q r):=by
 classical
 intro a w Q' hs hp hQ
 let p:Act→World→Nat→Prop:=fun a w m=> ∃s,jJ body m s=i7 r∧qY Γ (en s) a w∧pn.Hold a
 let μ:Act→World→Nat:=fun a w=>if h:∃m,p a w m then(zDx h).choose else 0
 obtain⟨n,hn⟩:=zDG.1 hr;refine wp_loop (fun a w=> ∃m,p a w m) μ (by grind) ?_;intro a w cD;have hμ:μ a w=(zDx cD).choose:=dif_pos cD;obtain⟨s,h1,h2,h3⟩:=(zDx cD).choose_spec.1;have eB:=(zDx cD).choose_spec.2;rw[←hμ]at h1;cases hm:μ a w with
 |zero=>grind[jJ]
 |succ k=>
  rw[hm]at h1;simp only[jJ]at h1;cases hb:body s with
  |none=>grind
  |some x=>
   refine h s x hb a w _ h2 h3 fun e E' a' w' hq gI cK=>?_
   cases x with
   |inl s'=>
    simp only[hb]at h1;obtain⟨rfl,hg⟩:=hq;have a9:p a' w' k:=⟨s',h1,hg a' w' gI,cK⟩;refine⟨⟨k,a9⟩,?_⟩;have hex':∃m,p a' w' m:=⟨k,a9⟩
    grind
   |inr r'=>
    simp only[hb]at h1;have:r'=r:=by grind
    subst this;obtain⟨gf,hq⟩:=hq;have:=hQ e E' a' w' hq gI cK;cases e with
    |normal=>grind
    |_=>exact this
end
end Go.Ab

namespace Go.Ab
open Go
abbrev Nds:=List (Nat×List Nat×T)
def ROk(P:Program)(E:Env):ResultVar→(Nat×List Nat×T)→Prop
 |.tmp s,x=>x.1=s∧x.2.1=[]∧E s=i7 x.2.2∧x.2.2.okTup=i9
 |.cell a T,x=>x.1=a∧x.2.1=[0]∧E a=i7 (.ptr x.2.2)∧ ∃ds ti,P.underlying T=i7 ds∧P.info? T=i7 ti∧zEW ds= !x.2.2.single∧ti.size=x.2.2.size
def zPi(P:Program)(E:Env):List ResultVar→Nds→Prop
 | [],[]=>True
 |x::xs,y::ys=>ROk P E x y∧zPi P E xs ys
 |_,_=>False
def LOk(E:Env)(us:List T):List (Nat×T)→Prop
 | []=>True
 |(i,u')::l=>(E i=i7 u'∧ ∃u,us[i]? =i7 u)∧LOk E us l
def zX7(P:Program)(rs:Array ResultVar)(us res:List T)(rws:List (Nat×T)):Exit→Env→Prop:=fun e E=>
 (e=.ret∨e=.normal)∧ ∃nd:Nds,zPi P E rs.toList nd∧nd.map (·.2.2)=res∧(∀x∈nd,us.length≤x.1)∧(nd.map (·.1)).Nodup∧LOk E us rws
def zCl(v:Nat→Value)(is:List Nat):jS:=is.map fun i=>(i,v i)
def zIh:Nat→List T→List (Nat×T)
 |_,[]=>[]
 |i,u::us=>(i,u)::zIh (i+1) us
theorem zKH:∀(us:List T)(i s:Nat)(t:T),yU (zIh i us) s=i7 t→i≤s∧us[s-i]? =i7 t
 | [],i,s,t,h=>by simp[zIh,yU]at h
 |u::us,i,s,t,h=>by
  simp only[zIh,yU]at h;split at h
  ·rename_i e;subst e;simpa using h
  ·rename_i e
   obtain⟨h1,h2⟩:=zKH us (i+1) s t h;refine⟨by omega,?_⟩;have:s-i=(s-(i+1))+1:=by omega
   rw[this];simpa using h2
def zQJ(tmps:Array Value):ResultVar→Sem Value
 |.tmp t=>pure (tmps.getD t undef)
 |.cell a t=>do loadVar t (←asAddr (tmps.getD a undef))
theorem zM9(fn:Func)(tmps:Array Value):results fn tmps=(do
  let vs ←fn.results.mapM (zQJ tmps)
  pure (if h:vs.size=1 then vs[0]else .tuple vs)):=rfl
theorem vM.get:(xs:List T)→vM xs→ ∀(i:Nat)(x:T),xs[i]? =i7 x→Top x
 | [],_,i,x,h=>by simp at h
 |y::ys,ht,i,x,h=>by
  simp only[vM]at ht;cases i with
  |zero=>simp at h;subst h;exact ht.1
  |succ i=>exact vM.get ys ht.2 i x (by simpa using h)
theorem LOk.get{E:Env}{us:List T}:(l:List (Nat×T))→LOk E us l→ ∀i u',(i,u')∈l→E i=i7 u'∧ ∃u,us[i]? =i7 u
 | [],_,_,_,h=>by simp at h
 |x::l,h,i,u',hm=>by
  rcases J8.1 hm with rfl|hm
  ·exact h.1
  ·exact LOk.get l h.2 i u' hm
theorem zZx{P:Program}{Γ:Ctx}{E:Env}{G:Gh}{tmps:Array Value}{w:World}(g9:Rep Γ E G tmps w)(x:ResultVar)(s:Nat)(q:List Nat)(t:T)(h:ROk P E x (s,q,t)):
  (zQJ tmps x).run P w=.ok (sJ G s t q) w∧R Γ.St G w s t q:=by
 cases x with
 |tmp s'=>
  obtain⟨h0,bN,h1,h2⟩:=h;dsimp only at h0 bN h1 h2;subst h0 bN;obtain⟨g1,g2,_⟩:=g9.ent _ _ h1;have ee:∀xs,t≠.tup xs:=by rintro xs rfl;simp[T.okTup]at h2
  refine⟨?_,g2⟩;rw[←kG G s t [] ee];simp[zQJ,Kh,g1]
 |cell a T'=>
  obtain⟨h0,bN,h1,ds,ti,h2,h3,h4,h5⟩:=h;dsimp only at h0 bN h1 h4 h5;subst h0 bN;obtain⟨g1,g2,_⟩:=g9.ent _ _ h1;simp only[R]at g2;obtain⟨b,cs,e,k1,k2,k3,k4,k5,k6⟩:=g2;refine⟨?_,k6⟩;rw[xN rfl,k1]at g1;have h6:=zFE (w:=w) h2 h3 k5 h4 h5;simp[zQJ,Kh,g1,asAddr,h6]
theorem zFL{P:Program}{Γ:Ctx}{E:Env}{G:Gh}{tmps:Array Value}{w:World}(g9:Rep Γ E G tmps w):(rs:List ResultVar)→(nd:Nds)→zPi P E rs nd→
  (rs.mapM (zQJ tmps)).run P w=.ok (nd.map fun x=>sJ G x.1 x.2.2 x.2.1) w∧ ∀x∈nd,R Γ.St G w x.1 x.2.2 x.2.1
 | [],[],_=>by simp
 |x::xs,y::ys,h=>by
  obtain⟨h1,h2⟩:=zFL g9 xs ys h.2;obtain⟨h3,h4⟩:=zZx g9 x y.1 y.2.1 y.2.2 h.1;refine⟨?_,?_⟩
  ·simp[List.mapM_cons,h3,h1]
  ·intro z hz
   rcases J8.1 hz with rfl|hz
   ·exact h4
   ·exact h2 z hz
 | [],_::_,h=>by simp[zPi]at h
 |_::_,[],h=>by simp[zPi]at h
theorem FnC.of_body{P:Program}{f:FuncId}{fn:Func}{c:Code}{us res:List T}{rws:List (Nat×T)}(hf:P.funcs[f]? =i7 fn)(hb:fn.body=i7 c)(hn:us.length≤fn.ntmps)(ht:vM us)(hr:rws.all (fun x=>decide (x.1<us.length))=i9)
  (h:∀(Γ:Ctx)(v:Nat→Value),Γ.N=fn.ntmps→CW P Γ (zCl v (rws.map (·.1))) c (yU (zIh 0 us)) (zX7 P fn.results us res rws)):FnC P f us res rws:=by
 intro St W w G vs cS gc gp
 let Γ:Ctx:=⟨St,W,w,fn.ntmps⟩
 let v:Nat→Value:=fun i=>vs.getD i undef
 have hm:Mem Γ G w:=⟨gp.one,gp.lb,gp.ow,gp.st,gp.fr,gp.sz,gp.bk⟩;have gw:(vs++Q7 (fn.ntmps-vs.size) undef).size=fn.ntmps:=by simp;omega
 have mE:Sim Γ (yU (zIh 0 us)) { tmps:=vs++Q7 (fn.ntmps-vs.size) undef,defers:=[] } w:=by refine⟨rfl,G,gw,?_,hm⟩;intro s t hs;obtain⟨_,h2⟩:=zKH us 0 s t hs;simp only[Jb5]at h2;obtain⟨h3,h4⟩:=gc s t h2;have gD:s<vs.size:=(Ky.1 h3).1;exact⟨by simp[Qw,gD];exact(Ky.1 h3).2,h4,vM.get us ht s t h2⟩
 have dT:(zCl v (rws.map (·.1))).Hold { tmps:=vs++Q7 (fn.ntmps-vs.size) undef,defers:=[] }:=by
  intro x hx;simp only[zCl,Jm]at hx;obtain⟨i,⟨y,hy,rfl⟩,rfl⟩:=hx;have h1:=Kf.1 hr y hy;simp at h1;have h2:y.1<vs.size:=by omega
  simp[Qw,h2,v]
 refine calls_of_wp hf hb (h Γ v rfl _ _ _ (.of mE) dT ?_)
 rintro e E' a' w' ⟨he,nd,h1,h2,h3,h4,h5⟩ ⟨S',gX,gO,G',g9⟩ hp
 obtain⟨g1,g2⟩:=zFL g9 _ _ h1;have gk:(results fn a'.tmps).run P w'=.ok (zK8 G' nd) w':=by
  rw[zM9,Array.mapM_eq_mapM_toList];simp only[Sem.run_bind,Sem.run_map,g1];cases nd with
  |nil=>simp[zK8]
  |cons y ys=>
   cases ys with
   |nil=>simp[zK8]
   |cons z zs=>simp[zK8]
 have gC:Mem ⟨S',W,w,0⟩ G' w':=⟨g9.mem.one,g9.mem.lb,g9.mem.ow,g9.mem.st,g9.mem.fr,g9.mem.sz,g9.mem.bk⟩;have bc:bodyPost P fn (fun e w'=> ∃(S':Stb)(G':Gh)(nd:List (Nat×List Nat×T)),zDi St S' W w.heap.size∧e=.returned (zK8 G' nd)∧Mem ⟨S',W,w,0⟩ G' w'∧nd.map (·.2.2)=res∧
   (∀x∈nd,R S' G' w' x.1 x.2.2 x.2.1∧us.length≤x.1)∧(nd.map (·.1)).Nodup∧
   ∀i u',(i,u')∈rws→R S' G' w' i u' []∧ ∃u,us[i]? =i7 u∧mkV G' i u' []=mkV G i u []) .ret a' w':=by
  refine⟨gO,_,gk,S',G',nd,gX,rfl,gC,h2,fun x hx=>⟨g2 x hx,h3 x hx⟩,h4,?_⟩;intro i u' hiu;obtain⟨k1,u,k3⟩:=LOk.get _ h5 i u' hiu;obtain⟨k5,k6,_⟩:=g9.ent i u' k1;refine⟨k6,u,k3,?_⟩;have k7:=hp (i,v i) (by simp only[zCl,Jm];exact⟨i,⟨(i,u'),hiu,rfl⟩,rfl⟩);have k8:=(gc i u k3).1;rw[k5]at k7;simp[v,Kh,k8]at k7;exact k7
 rcases he with rfl|rfl<;>exact bc
end Go.Ab

namespace Go.Ab
open Go
mutual
def vS:T→T
 |.sl k xs=>.ro (strip (.sl k xs))
 |.ptr t=>.ro (strip (.ptr t))
 |.agg xs=>.agg (vY xs)
 |.tup xs=>.tup (vY xs)
 |.any=>.any
 |.lit v=>.lit v
 |.ro t=>.ro t
 |.same r p=>.same r p
 |.addr r p=>.addr r p
 |.sub r p k lo hi=>.sub r p k lo hi
def vY:List T→List T
 | []=>[]
 |x::xs=>vS x::vY xs
end
mutual
theorem zQK(G:Gh)(s:Nat):(t:T)→ ∀p,vals G s (vS t) p=vals G s t p
 |.agg xs,p=>by simp only[vS,vals];exact zCS G s xs p 0
 |.sl _ _,_|.ptr _,_|.tup _,_|.any,_|.lit _,_|.ro _,_|.same _ _,_|.addr _ _,_|.sub _ _ _ _ _,_=>by simp only[vS,vals]
theorem zCS(G:Gh)(s:Nat):(xs:List T)→ ∀p j,yI G s (vY xs) p j=yI G s xs p j
 | [],_,_=>by simp only[vY]
 |x::xs,p,j=>by simp only[vY,yI,zQK G s x,zCS G s xs]
end
theorem zQL(G:Gh)(s:Nat)(t:T)(p:List Nat):sJ G s (vS t) p=sJ G s t p:=by cases t<;>simp only[vS,sJ,zCS]
theorem zKI(G:Gh)(s:Nat):(xs:List T)→ ∀p j,jH G s (vY xs) p j=jH G s xs p j
 | [],_,_=>by simp only[vY]
 |x::xs,p,j=>by simp only[vY,jH,zQL,zKI G s xs]
theorem zTN(G:Gh)(s:Nat)(t:T)(p:List Nat):mkV G s (vS t) p=mkV G s t p:=by cases t<;>simp only[vS,mkV,zCS,zKI]
mutual
theorem zKJ:(t:T)→Top t→Top (vS t)
 |.agg xs,h|.tup xs,h=>by simp only[vS,Top]at h ⊢;exact zI5 xs h
 |.sl _ _,_|.ptr _,_|.any,_|.lit _,_|.ro _,_|.same _ _,_|.addr _ _,_|.sub _ _ _ _ _,_=>by simp only[vS,Top]
theorem zI5:(xs:List T)→vM xs→vM (vY xs)
 | [],_=>by simp only[vY,vM]
 |x::xs,h=>by simp only[vY,vM]at h ⊢;exact⟨zKJ x h.1,zI5 xs h.2⟩
end
section
variable {St Sc:Stb}{G G':Gh}{w:World}{s:Nat} (gz:∀s p,(G.hd s p).oneCell'=i9) (ey:∀b x,St b=i7 x→Sc b=i7 x) (eD:∀b,(∃y,G.ow b=i7 (s,y))→Sc b=w.heap[b]?) (gG:∀s z,G'.hd s z=G.hd s z) (fc:∀s z,G'.ad s z=G.ad s z)
 include gz ey eD gG fc
mutual
theorem zVi:(t:T)→ ∀(p:List Nat),R St G w s t p→R Sc G' w s (vS t) p
 |.agg xs,p,hr|.tup xs,p,hr=>by simp only[vS,R]at hr ⊢;exact zQM xs p 0 hr
 |.sl k xs,p,hr=>by have:=zKB gz ey eD (.sl k xs) p rfl hr;simp only[vS,R,gG];exact this
 |.ptr t,p,hr=>by have:=zKB gz ey eD (.ptr t) p rfl hr;simp only[vS,R,gG];exact this
 |.ro u,p,hr=>by simp only[vS,R,gG]at hr ⊢;exact tS ey u _ _ hr
 |.any,_,_=>by simp only[vS,R]
 |.lit _,_,hr|.same _ _,_,hr|.sub _ _ _ _ _,_,hr=>by simp only[vS,R,gG]at hr ⊢;exact hr
 |.addr _ _,_,hr=>by simp only[vS,R,gG,fc]at hr ⊢;exact hr
theorem zQM:(xs:List T)→ ∀(p:List Nat)(j:Nat),RF St G w s xs p j→RF Sc G' w s (vY xs) p j
 | [],_,_,_=>by have _:=gz;have _:=ey;have _:=eD;have _:=gG;have _:=fc;simp only[vY,RF]
 |x::xs,p,j,hr=>by simp only[vY,RF]at hr ⊢;exact⟨zVi x _ hr.1,zQM xs p (j+1) hr.2⟩
end
end
theorem zM.freeze{Γ:Ctx}{E:Env}(s:Nat)(t:T)(hs:E s=i7 t):zM Γ E (E.app [(s,i7 (vS t))] [(s,1)]):=by
 classical
 rintro a w ⟨S,hS,gO,G,g9⟩
 have hm:=g9.mem
 let own:Nat→Prop:=fun b=> ∃y,G.ow b=i7 (s,y)
 let Sc:Stb:=fun b=>if own b then w.heap[b]? else S b
 let G':Gh:={ hd:=G.hd,ad:=G.ad,lb:=fun b o=>if own b then i8 else G.lb b o,ow:=fun b=>if own b then i8 else G.ow b }
 have fA:∀b x,S b=i7 x→Sc b=i7 x:=fun b x hx=>by
  have:¬own b:=by
   rintro⟨y,hy⟩
   have:=(hm.ow b _ hy).2.2;rw[show S b=i8 from this]at hx;cases hx
  simp only[Sc,this,if_false];exact hx
 have ax:zDi S Sc Γ.W Γ.w0.heap.size:=⟨fA,fun b hb eP=>by
  by_cases h:own b
  ·obtain⟨y,hy⟩:=h
   exact(hm.ow b _ hy).2.1
  ·simp only[Sc,h,if_false]at eP
   exact absurd hb eP⟩
 have gp:Mem ((Γ.at S).at Sc) G' w:=by
  refine⟨hm.one,fun b o l hl=>?_,fun b l hl=>?_,fun b x hx=>?_,hm.fr,hm.sz,hm.bk⟩
  ·by_cases h:own b
   ·simp only[G',h,if_true]at hl;cases hl
   ·simp only[G',h,if_false]at hl
    have:=hm.lb b o l hl;exact⟨this.1,this.2.1,by simp only[Sc,h,if_false];exact this.2.2⟩
  ·by_cases h:own b
   ·simp only[G',h,if_true]at hl;cases hl
   ·simp only[G',h,if_false]at hl
    have:=hm.ow b l hl;exact⟨this.1,this.2.1,by simp only[Sc,h,if_false];exact this.2.2⟩
  ·by_cases h:own b
   ·simp only[Sc,h,if_true]at hx;exact hx
   ·simp only[Sc,h,if_false]at hx;exact hm.st b x hx
 have gv:qR [(s,1)] G w G' w:=by
  have aU:∀b s0 y,G.ow b=i7 (s0,y)→(∀n,(s0,n)∉([(s,1)]:Chg))→ ¬own b:=by
   rintro b s0 y h1 h2 ⟨y',h3⟩
   rw[h1]at h3;simp at h3;exact h2 1 (by simp[h3.1])
  refine⟨fun _ _ _=>rfl,fun _ _ _=>rfl,fun b o f s0 p ⟨y,hy⟩ h1 h2=>?_,fun b s0 p h1 h2=>?_,fun b cs e h=>⟨cs,h,rfl⟩⟩
  ·have:=aU b s0 y hy h2
   refine⟨?_,rfl⟩;simp only[G',this,if_false];exact h1
  ·have:=aU b s0 p h1 h2
   simp only[G',this,if_false];exact h1
 obtain⟨e1,e2,e3⟩:=g9.ent s t hs;refine⟨Sc,hS.trans ax,gO,G',g9.up fA rfl gv gp (fun s0 h0=>⟨fun n hn=>?_,rfl⟩) (fun s0 t0 h0=>?_)⟩
 ·rw[tQ]at h0
  simp at hn;simp[hn.1]at h0
 ·rw[tQ]at h0
  split at h0
  ·rename_i he;subst he
   simp at h0;subst h0;have hR:=zVi (G':=G') hm.one fA (fun b hb=>by simp only[Sc];rw[if_pos hb]) (fun _ _=>rfl) (fun _ _=>rfl) t [] e2;refine⟨?_,hR,zKJ t e3⟩;rw[e1];have h1:mkV G' s (vS t) []=mkV G s (vS t) []:=zEV _ _ _ (fun _=>rfl);rw[h1,zTN]
  ·cases h0
end Go.Ab

namespace Go.Ab
open Go
abbrev zEq:=List (Wr×Chg)
def Env.apps(E:Env)(l:zEq):Env:=l.foldl (fun E x=>E.app x.1 x.2) E
structure Stp where
 rd:List (Nat×T)
 l:zEq
def sB(wr:Wr):List Nat:=wr.map (·.1)
def Stp.slots(X:Stp):List Nat:=X.l.flatMap fun x=>sB x.1
def oOk(chg:Chg):Option T→Bool
 |none=>i9
 |some t=>t.okB chg
def zMA(chg:Chg)(wr:Wr):Bool:=wr.all fun x=>oOk chg x.2
def zPj(a b:List Nat):Bool:=a.all fun x=> !b.contains x
def zFf(a b:zEq):Bool:=a.all fun x=>b.all fun y=>zPj (sB x.1) (sB y.1)&&zMA y.2 x.1&&zMA x.2 y.1
def Stp.apart(a b:Stp):Bool:=zFf a.l b.l&&zPj a.slots (b.rd.map (·.1))&&zPj b.slots (a.rd.map (·.1))&&a.rd.all fun x=>b.l.all fun y=>x.2.okB y.2
theorem zFg{wr:Wr}{s:Nat}(h:s∉sB wr):wr.find s=i8:=by
 induction wr with
 |nil=>rfl
 |cons x wr ih=>
  simp only[sB,Jo,J8,not_or]at h;simp only[Wr.find,Ne.symm h.1,if_false];exact ih h.2
theorem zI6{wr:Wr}{s:Nat}{x:Option T}(h:wr.find s=i7 x):s∈sB wr∧ ∃y∈wr,y.2=x:=by
 induction wr with
 |nil=>simp[Wr.find]at h
 |cons y wr ih=>
  simp only[Wr.find]at h;split at h
  ·rename_i e
   simp at h;exact⟨by simp[sB,e],y,by simp,h⟩
  ·obtain⟨h1,z,h2,h3⟩:=ih h
   exact⟨by simp only[sB,Jo,J8];exact .inr h1,z,by simp[h2],h3⟩
theorem zGQ{a b:List Nat}(h:zPj a b=i9){s:Nat}(hs:s∈a):s∉b:=by have:=Kf.1 h s hs;simpa using this
theorem zQN(E:Env)(w1 w2:Wr)(c1 c2:Chg)(h:zPj (sB w1) (sB w2)=i9)(h1:zMA c2 w1=i9)(h2:zMA c1 w2=i9):
  (E.app w1 c1).app w2 c2=(E.app w2 c2).app w1 c1:=by
 funext s
 have ok:∀{c:Chg}{w:Wr}{s:Nat}{x:Option T},zMA c w=i9→w.find s=i7 x→(match x with|some t=>if t.okB c then i7 t else i8|none=>i8)=x:=by
  intro c w s x hw hf;obtain⟨_,y,hy,rfl⟩:=zI6 hf;have:=Kf.1 hw y hy;cases hy2:y.2 with
  |none=>rfl
  |some t=>rw[hy2]at this;simp only[oOk]at this;simp[this]
 unfold Env.app;cases hf1:w1.find s with
 |some x=>
  have:=zFg (zGQ h (zI6 hf1).1);simp only[this];exact ok h1 hf1
 |none=>
  cases hf2:w2.find s with
  |some y=>simp only;exact(ok h2 hf2).symm
  |none=>
   simp only
   cases E s with
   |none=>rfl
   |some t=>by_cases k1:t.okB c1=i9<;>by_cases k2:t.okB c2=i9<;>simp[k1,k2]
theorem zDy(w:Wr)(c:Chg):∀(l:zEq)(E:Env),(∀y∈l,zPj (sB w) (sB y.1)=i9∧zMA y.2 w=i9∧zMA c y.1=i9)→(E.app w c).apps l=(E.apps l).app w c
 | [],E,_=>rfl
 |y::l,E,h=>by obtain⟨h1,h2,h3⟩:=h y (by simp);show((E.app w c).app y.1 y.2).apps l=_;rw[zQN E w y.1 c y.2 h1 h2 h3];exact zDy w c l _ (fun z hz=>h z (by simp[hz]))
theorem zI7:∀(l1 l2:zEq)(E:Env),zFf l1 l2=i9→(E.apps l1).apps l2=(E.apps l2).apps l1
 | [],l2,E,_=>rfl
 |x::l1,l2,E,h=>by
  simp only[zFf,Q0,J3]at h;show((E.app x.1 x.2).apps l1).apps l2=((E.apps l2).app x.1 x.2).apps l1;rw[zI7 l1 l2 _ (by simp only[zFf];exact h.2),zDy x.1 x.2 l2 E (fun y hy=>by have:=Kf.1 h.1 y hy;simp only[J3]at this;exact⟨this.1.1,this.1.2,this.2⟩)]
def runD:Env→List (Bool×Stp)→Env
 |E,[]=>E
 |E,(b,X)::l=>runD (if b then E.apps X.l else E) l
theorem kI:∀(l1 l2:List (Bool×Stp))(E:Env),runD E (l1++l2)=runD (runD E l1) l2
 | [],_,_=>rfl
 |(b,X)::l1,l2,E=>by simp only[K1,runD];exact kI l1 l2 _
theorem zFh:∀(l:List (Bool×Stp))(X:Stp)(E:Env),(∀y∈l,y.1=i9→zFf X.l y.2.l=i9)→runD (E.apps X.l) l=(runD E l).apps X.l
 | [],_,_,_=>rfl
 |(b,Y)::l,X,E,h=>by
  simp only[runD];cases b with
  |false=>exact zFh l X E (fun y hy=>h y (by simp[hy]))
  |true=>
   have:=h (i9,Y) (by simp) rfl;simp only[if_true];rw[zI7 X.l Y.l E this];exact zFh l X _ (fun y hy=>h y (by simp[hy]))
theorem zGR{s:Nat}:∀(l:zEq)(E:Env),s∉l.flatMap (fun x=>sB x.1)→ ∀t,(E.apps l) s=i7 t→E s=i7 t
 | [],_,_,_,h=>h
 |x::l,E,hs,t,h=>by
  simp only[Lj,Jd,not_or]at hs;have:=zGR l (E.app x.1 x.2) hs.2 t h;unfold Env.app at this;rw[zFg hs.1]at this;simp only[]at this;cases he:E s with
  |none=>simp[he]at this
  |some u=>simp[he]at this;rw[this.2]
theorem zI8{s:Nat}{t:T}:∀(l:zEq)(E:Env),s∉l.flatMap (fun x=>sB x.1)→(∀y∈l,t.okB y.2=i9)→E s=i7 t→(E.apps l) s=i7 t
 | [],_,_,_,h=>h
 |x::l,E,hs,gB,h=>by simp only[Lj,Jd,not_or]at hs;refine zI8 l (E.app x.1 x.2) hs.2 (fun y hy=>gB y (by simp[hy])) ?_;unfold Env.app;rw[zFg hs.1];simp[h,gB x (by simp)]
theorem zI9{s:Nat}:∀(l:zEq)(E1 E2:Env),(∀t,E2 s=i7 t→E1 s=i7 t)→ ∀t,(E2.apps l) s=i7 t→(E1.apps l) s=i7 t
 | [],_,_,h,t,ht=>h t ht
 |x::l,E1,E2,h,t,ht=>by
  refine zI9 l (E1.app x.1 x.2) (E2.app x.1 x.2) (fun u hu=>?_) t ht;unfold Env.app at hu ⊢
  cases hf:x.1.find s with
  |some y=>simpa[hf]using hu
  |none=>
   simp only[hf]at hu ⊢
   cases he:E2 s with
   |none=>simp[he]at hu
   |some v=>rw[h v he];simpa[he]using hu
theorem zIA{s:Nat}:∀(l:List (Bool×Stp))(E1 E2:Env),(∀y∈l,y.1=ia→s∉y.2.slots)→(∀t,E2 s=i7 t→E1 s=i7 t)→
  ∀t,runD E2 (l.map fun y=>(i9,y.2)) s=i7 t→runD E1 l s=i7 t
 | [],_,_,_,h,t,ht=>h t ht
 |(b,X)::l,E1,E2,hl,h,t,ht=>by
  simp only[Jo,runD,if_true]at ht ⊢
  refine zIA l _ _ (fun y hy=>hl y (by simp[hy])) (fun u hu=>?_) t ht;cases b with
  |true=>exact zI9 X.l E1 E2 h u hu
  |false=>exact h u (zGR X.l E2 (hl (ia,X) (by simp) rfl) u hu)
theorem zIB{s:Nat}{t:T}:∀(l:List (Bool×Stp))(E:Env),(∀y∈l,y.1=i9→s∉y.2.slots∧ ∀z∈y.2.l,t.okB z.2=i9)→E s=i7 t→runD E l s=i7 t
 | [],_,_,h=>h
 |(b,X)::l,E,hl,h=>by
  simp only[runD];refine zIB l _ (fun y hy=>hl y (by simp[hy])) ?_;cases b with
  |false=>exact h
  |true=>obtain⟨h1,h2⟩:=hl (i9,X) (by simp) rfl;exact zI8 X.l E h1 h2 h
theorem Env.Has.of{E E':Env}:{l:List (Nat×T)}→E.Has l→(∀s t,(s,t)∈l→E s=i7 t→E' s=i7 t)→E'.Has l
 | [],_,_=>trivial
 |(s,t)::l,h,h'=>⟨h' s t (by simp) h.1,Env.Has.of h.2 fun s t hm=>h' s t (by simp[hm])⟩
end Go.Ab

namespace Go.Ab
open Go
def zBj(o:Oper):List Nat:=(o.after.toList.filter (Region.binds .any)).map (·.on)
def zAD:Nat→List Oper→Bool
 |_,[]=>i9
 |i,o::os=>((zBj o).all fun m=>decide (m<i))&&zAD (i+1) os
def zAi(an:List (List Nat)):List (List Nat)→List Oper→Bool
 | [],_=>i9
 |_::_,[]=>ia
 |l::ls,o::os=>(l.all fun k=>(zBj o).contains k||(zBj o).any fun m=>(an.getD m []).contains k)&&zAi an ls os
def jT(Xs:List Stp):Nat→List (List Nat)→List Stp→Bool
 |_,_,[]=>i9
 |j,an,Y::Ys=>((Jg j).all fun i=>(an.headD []).contains i||match Xs[i]? with
   |some X=>X.apart Y
   |none=>i9)&&jT Xs (j+1) an.tail Ys
theorem zGk:∀(os:List Oper)(i0 j:Nat)(o:Oper),zAD i0 os=i9→os[j]? =i7 o→ ∀m∈zBj o,m<i0+j
 | [],_,j,_,_,h=>by simp at h
 |x::os,i0,j,o,hf,h=>by
  simp only[zAD,J3]at hf;cases j with
  |zero=>
   grind
  |succ j=>
   intro m hm;have:=zGk os (i0+1) j o hf.2 (by grind) m hm;omega
theorem zJ3(an:List (List Nat)):∀(ls:List (List Nat))(os:List Oper)(j:Nat)(l:List Nat),zAi an ls os=i9→ls[j]? =i7 l→ ∃o,os[j]? =i7 o∧ ∀k∈l,k∈zBj o∨ ∃m∈zBj o,k∈an.getD m []
 | [],_,j,_,_,h=>by simp at h
 |_::_,[],_,_,h,_=>by grind[zAi]
 |x::ls,o::os,j,l,ha,h=>by
  simp only[zAi,J3]at ha;cases j with
  |zero=>
   simp_all
  |succ j=>
   obtain⟨o',h1,h2⟩:=zJ3 an ls os j l ha.2 (by grind)
   grind
theorem zFi(Xs:List Stp):∀(Ys:List Stp)(j0:Nat)(an:List (List Nat))(j:Nat)(Y:Stp),jT Xs j0 an Ys=i9→Ys[j]? =i7 Y→ ∀i X,i<j0+j→Xs[i]? =i7 X→i∈an.getD j []∨X.apart Y=i9
 | [],_,_,j,_,_,h=>by simp at h
 |Z::Ys,j0,an,j,Y,hp,h=>by
  simp only[jT,J3]at hp;intro i X hi hX;cases j with
  |zero=>
   simp at h;subst h;have:=Kf.1 hp.1 i (by grind);simp only[hX,Bool.or_eq_true,H9,decide_eq_true_eq]at this;rcases this with h|h
   ·left
    cases an with
    |nil=>simp at h
    |cons l an=>grind
   grind
  |succ j=>
   rcases zFi Xs Ys (j0+1) an.tail j Y hp.2 (by grind) i X (by omega) hX with h|h
   all_goals grind
section
variable {P:Program}{Γ:Ctx}{pn:jS}{ops:Array Oper}
def zQO(ops:Array Oper)(L:List Bool):Prop:=∀(i:Nat)(o:Oper),ops[i]? =i7 o→L[i]? =i7 i9→ ∀m∈zBj o,L[m]? =i7 i9
theorem zGS{L:List Bool}{an:List (List Nat)}(hf:zAD 0 ops.toList=i9)(ha:zAi an an ops.toList=i9)(hc:zQO ops L):
  ∀(n i:Nat),i≤n→ ∀o,ops[i]? =i7 o→(∀m∈zBj o,L[m]? =i7 i9)→ ∀k∈an.getD i [],L[k]? =i7 i9:=by
 intro n
 induction n with
 |zero=>
  intro i hi o ho hp k hk;have u9:i=0:=by omega
  subst u9;cases hl:an[0]? with
  |none=>grind
  |some l=>
   obtain⟨o',h1,h2⟩:=zJ3 an an ops.toList 0 l ha hl;rw[Kt,ho]at h1;simp at h1;subst h1;simp only[Jcj,hl,Q8]at hk;rcases h2 k hk with h|⟨m,h,_⟩
   ·grind
   ·have:=zGk ops.toList 0 0 o hf (by grind) m h
    omega
 |succ n ih=>
  intro i hi o ho hp k hk;cases hl:an[i]? with
  |none=>grind
  |some l=>
   obtain⟨o',h1,h2⟩:=zJ3 an an ops.toList i l ha hl;rw[Kt,ho]at h1;simp at h1;subst h1;simp only[Jcj,hl,Q8]at hk;rcases h2 k hk with h|⟨m,h,hkm⟩
   ·grind
   ·have gD:=zGk ops.toList 0 i o hf (by grind) m h
    have hLm:=hp m h;cases aS:ops[m]? with
    |none=>
     grind
    |some om=>exact ih m (by omega) om aS (hc m om aS hLm) k hkm
theorem zIC{L:List Bool}{Xs:List Stp}{i:Nat}{b:Bool}{X:Stp}(hL:L[i]? =i7 b)(hX:Xs[i]? =i7 X):L.zip Xs=(L.take i).zip (Xs.take i)++(b,X)::(L.drop (i+1)).zip (Xs.drop (i+1)):=by
 have h1:L=L.take i++b::L.drop (i+1):=by obtain⟨h,rfl⟩:=Jn.1 hL;simp
 have h2:Xs=Xs.take i++X::Xs.drop (i+1):=by obtain⟨h,rfl⟩:=Jn.1 hX;simp
 grind[List.zip_cons_cons]
theorem zJ4{L:List Bool}{Xs:List Stp}{y:Bool×Stp}(h:y∈L.zip Xs):∃j:Nat,L[j]? =i7 y.1∧Xs[j]? =i7 y.2:=by grind[Qx,List.getElem?_zip_eq_some]
def sS:Env→List Stp→Prop
 |_,[]=>True
 |E,X::Xs=>E.Has X.rd∧sS (E.apps X.l) Xs
theorem sS.get:∀(Xs:List Stp)(E:Env),sS E Xs→ ∀(i:Nat)(X:Stp),Xs[i]? =i7 X→(runD E ((Xs.take i).map fun y=>(i9,y))).Has X.rd
 | [],_,_,i,_,h=>by simp at h
 |Y::Xs,E,hh,i,X,h=>by
  cases i with
  |zero=>simp at h;subst h;simpa[runD]using hh.1
  |succ i=>
   have:=sS.get Xs _ hh.2 i X (by grind)
   grind[runD]
theorem Stp.apart_spec{a b:Stp}(h:a.apart b=i9):zFf a.l b.l=i9∧(∀s∈a.slots,s∉b.rd.map (·.1))∧(∀s∈b.slots,s∉a.rd.map (·.1))∧ ∀x∈a.rd,∀y∈b.l,x.2.okB y.2=i9:=by simp only[Stp.apart,J3]at h;refine⟨h.1.1.1,by grind[zGQ],by grind[zGQ],fun x hx y hy=>?_⟩;exact Kf.1 (Kf.1 h.2 x hx) y hy
mutual
theorem zNT:(t:T)→t.okB []=i9
 |.same _ _|.addr _ _|.sub _ _ _ _ _=>by rfl
 |.agg xs|.tup xs=>by simp only[T.okB];exact zKK xs
 |.any|.lit _|.ro _|.sl _ _|.ptr _=>by rfl
theorem zKK:(xs:List T)→zKr [] xs=i9
 | []=>by rfl
 |x::xs=>by simp only[zKr,zNT x,zKK xs,Ks]
end
theorem Rep.heap{E:Env}{G:Gh}{tmps:Array Value}{w w':World}(h:Rep Γ E G tmps w)(hw:w'.heap=w.heap)(ho:w'.os=w.os:=by rfl)(hq:w'.output=w.output:=by rfl):Rep Γ E G tmps w' where
 size:=h.size
 ent s t hs:=Ent.keep (chg:=[]) ⟨fun _ _ _=>rfl,fun _ _ _=>rfl,by grind[yO,World.cell?],fun _ _ _ h _=>h,fun b cs e h=>⟨cs,by grind,rfl⟩⟩ (by simp) (zNT t) (h.ent s t hs)
 mem:=by
  have hm:=h.mem;exact⟨hm.one,fun b o l hl=>by have:=hm.lb b o l hl;exact⟨by rw[hw];exact this.1,this.2⟩,fun b l hl=>by have:=hm.ow b l hl;exact⟨by rw[hw];exact this.1,this.2⟩,
   fun b x hx=>by rw[hw];exact hm.st b x hx,fun b h1 h2=>by rw[hw];exact hm.fr b h1 h2,by rw[hw];exact hm.sz,hm.bk.trans (fun b cs e hb=>⟨cs,by grind,rfl⟩) ho hq⟩
end
end Go.Ab

namespace Go.Ab
open Go
abbrev I(n:Int):T:=.lit (.int .i64 n)
abbrev B(b:Bool):T:=.lit (.bool b)
abbrev L{α:Type}(k:Nat)(f:α→T)(xs:List α):T:=.sl k (xs.map f)
theorem zP{P:Program}{t:TypeId}{ti:TypeInfo}(h:P.types[t]? =i7 ti):P.info? t=i7 ti:=by
 have h':=(Ky.1 h).1;simp[Tables.info?,h]
 try omega
def Ok(P:Program)(Γ:Ctx)(o:Oper)(E E':Env):Prop:=∀S,wL P (Γ.at S) o E E'
section
variable {P:Program}{Γ:Ctx}{pn:jS}{ops:Array Oper}{o:Oper}{os:List Oper}{E E':Env}{Q:Exit→Env→Prop}{d:Nat}
theorem RW.op(h:Ok P Γ o E E')(k:RW P Γ pn ops os E' Q)(hg:o.guard=i8:=by rfl)(hp:pn.ok o.dst=i9:=by rfl):RW P Γ pn ops (o::os) E Q:=RW.cons (zW.op h hg) k hp
def neD(x:Operand)(d:Nat):Bool:=match x with
 |.tmp s=>s != d
 |_=>i9
theorem zEr{x:Operand}{d:Nat}(h:neD x d=i9):∀s,x=.tmp s→s≠d:=by rintro s rfl;simpa[neD]using h
theorem zBk{t:T}(h:t.okTup=i9):∀xs,t≠.tup xs:=by rintro xs rfl;simp[T.okTup]at h
abbrev mvB(Γ:Ctx)(x:Operand)(t:T)(d:Nat):Bool:=J5 d Γ.N&&t.okTup&&neD x d&&T.okB [(d,0)] (tA x t)
section
variable {x y:Operand}{t:T}{ty:TypeId}{ps:String}{af:Array Edge}{gd:Option (Nat×Bool)}
theorem yJ{a b:Nat}(h:J5 a b=i9):a<b:=by simpa[Nat.blt_eq]using h
theorem zMB(hx:opT E x=i7 t)(sd:mvB Γ x t d=i9):Ok P Γ ⟨i7 d,.move x,ty,ps,af,gd⟩ E (E.app [(d,i7 (tA x t))] [(d,0)]):=by simp only[mvB,J3]at sd;exact fun S=>zND x t (.inl rfl) rfl (yJ sd.1.1.1) hx (zBk sd.1.1.2) (zEr sd.1.2) sd.2
theorem zTO(hx:opT E x=i7 t)(sd:mvB Γ x t d=i9):Ok P Γ ⟨i7 d,.assign x,ty,ps,af,gd⟩ E (E.app [(d,i7 (tA x t))] [(d,0)]):=by simp only[mvB,J3]at sd;exact fun S=>zND x t (.inr rfl) rfl (yJ sd.1.1.1) hx (zBk sd.1.1.2) (zEr sd.1.2) sd.2
def inR(n:Int):Bool:=decide (-9223372036854775808≤n)&&decide (n≤9223372036854775807)
theorem zCm{n:Int}(h:inR n=i9):IntKind.i64.wrap n=n:=by
 simp only[inR,J3,decide_eq_true_eq]at h;have hb:IntKind.i64.bits=64:=rfl;have hs:IntKind.i64.signed=i9:=rfl;simp only[IntKind.wrap,hb,hs,Bool.true_and]
 by_cases h0:0≤n
 ·have:n%2 ^ 64=n:=K5 h0 (by omega)
  rw[this];have h1:¬(n≥2 ^ (64-1)):=by omega
  simp;omega
 ·have:n%2 ^ 64=n+2 ^ 64:=by
   rw[←U0,K5 (by omega) (by omega)]
  rw[this];have h1:(n+2 ^ 64:Int)≥2 ^ (64-1):=by omega
  simp;omega
def rng(n:Int):Option Int:=if inR n then i7 n else i8
theorem zCn{n m:Int}(h:rng n=i7 m):m=n∧inR n=i9:=by
 unfold rng at h;split at h
 ·simp at h;exact⟨h.symm,by assumption⟩
 ·cases h
theorem qJ{m n c:Int}{xt yt:TypeId}(hv:rng (m+n)=i7 c)(hx:opT E x=i7 (I m))(hy:opT E y=i7 (I n))(sd:J5 d Γ.N=i9):Ok P Γ ⟨i7 d,.binOp .add xt x y yt,ty,ps,af,gd⟩ E (E.app [(d,i7 (I c))] [(d,0)]):=by obtain⟨rfl,h⟩:=zCn hv;exact fun S=>sA .add xt yt x y .i64 m n _ rfl rfl (yJ sd) hx hy (by simp only[zJm,zCm h])
theorem zKL{m n:Int}{xt yt:TypeId}(hx:opT E x=i7 (I m))(hy:opT E y=i7 (I n))(sd:J5 d Γ.N=i9):Ok P Γ ⟨i7 d,.binOp .lss xt x y yt,ty,ps,af,gd⟩ E (E.app [(d,i7 (B (decide (m<n))))] [(d,0)]):=
 fun _S=>sA .lss xt yt x y .i64 m n _ rfl rfl (yJ sd) hx hy rfl
theorem zCo(k:Nat)(sd:J5 d Γ.N=i9):Ok P Γ ⟨i7 d,.assign (.const (.slice i8 0 0)),ty,ps,af,gd⟩ E (E.app [(d,i7 (.sl k []))] [(d,0)]):=
 fun _=>zKy k _ (.inr rfl) rfl rfl (yJ sd)
def xF(n:Int):Option Nat:=if 0≤n∧n≤68719476736 then i7 n.toNat else i8
theorem zGT{n:Int}{m:Nat}(h:xF n=i7 m):n=(m:Int)∧m≤68719476736:=by
 unfold xF at h;split at h
 ·simp at h;omega
 ·cases h
class ElT (P:Program) (t:TypeId) (e:outParam TypeId) (ti:outParam TypeInfo) (k:outParam Nat) (u:outParam T):Prop where
 un:P.underlying t=i7 (.slice e)
 info:P.info? e=i7 ti
 zero:∃z,ti.zero=i7 z∧tR u=z.cells.toList
 size:ti.size=k
 pos:0<k
 zok:u.zOk=i9
 us:u.size=k
 bytes:ti.bytes≤2048
theorem zVZ{t e:TypeId}{ti:TypeInfo}{k:Nat}{u:T}{n m:Nat}{a b:Int}(ht:ElT P t e ti k u)(hn:xF a=i7 n)(hx:opT E x=i7 (I a))(hm:xF b=i7 m)(hy:opT E y=i7 (I b))(cW:n≤m)(sd:J5 d Γ.N=i9):
  Ok P Γ ⟨i7 d,.makeSlice t x y,ty,ps,af,gd⟩ E (E.app [(d,i7 (.sl k (J1 n u)))] [(d,0)]):=by
 obtain⟨rfl,h1⟩:=zGT hn;obtain⟨rfl,h2⟩:=zGT hm;obtain⟨z,hz,hv⟩:=ht.zero;exact fun S=>zTI t e ti z u k x y n m .i64 .i64 rfl rfl (yJ sd) ht.un ht.info hz ht.size ht.pos ht.zok hv ht.us (H8 ht.bytes (by decide)) hx hy cW h2
end
end
end Go.Ab

namespace Go.Ab
open Go
def ixO{α:Type}(xs:List α)(i:Int):Option α:=if 0≤i then xs[i.toNat]? else i8
theorem uO{α:Type}{xs:List α}{i:Int}{v:α}(h:ixO xs i=i7 v):0≤i∧xs[i.toNat]? =i7 v:=by
 unfold ixO at h;split at h
 ·exact⟨by assumption,h⟩
 ·cases h
def zAj:T→Bool
 |.same _ _=>ia
 |_=>i9
theorem tG{E:Env}{s r:Nat}{q:List Nat}{t u:T}(h1:E s=i7 (.same r q))(h2:E r=i7 t)(h3:t.get q.reverse=i7 u)(h4:zAj u=i9):tF E (.tmp s)=i7 (r,q,u):=by
 have hg:∀t:T,t.get []=i7 t:=fun t=>by cases t<;>rfl
 cases u<;>simp[zAj]at h4<;>simp[tF,qS,h1,h2,h3,hg]
theorem wF{E:Env}{s:Nat}{t:T}(h1:E s=i7 t)(h4:zAj t=i9):tF E (.tmp s)=i7 (s,[],t):=by
 have hg:∀t:T,t.get []=i7 t:=fun t=>by cases t<;>rfl
 cases t<;>simp[zAj]at h4<;>simp[tF,qS,h1,hg]
section
variable {P:Program}{Γ:Ctx}{E:Env}{d:Nat}{x y:Operand}{ty:TypeId}{ps:String}{af:Array Edge}{gd:Option (Nat×Bool)}
class zB5 (P:Program) (t:TypeId) (e:outParam TypeId) (ti:outParam TypeInfo) (k:outParam Nat):Prop where
 un:P.underlying t=i7 (.slice e)
 info:P.info? e=i7 ti
 size:ti.size=k
theorem zFj{α:Type}{t e:TypeId}{ti:TypeInfo}{r k:Nat}{q:List Nat}{f:α→T}{xs:List α}{v:α}{i:Int}(ht:zB5 P t e ti k)(hv:ixO xs i=i7 v)(hx:tF E x=i7 (r,q,L k f xs))(hy:opT E y=i7 (I i))(sd:J5 d Γ.N=i9):
  Ok P Γ ⟨i7 d,.indexAddr t x y,ty,ps,af,gd⟩ E (E.app [(d,i7 (.addr r (i.toNat::q)))] [(d,0)]):=by
 obtain⟨h1,h2⟩:=uO hv;exact fun S=>zQw x y t e ti r q k _ .i64 i rfl rfl (yJ sd) ht.un ht.info ht.size hx hy h1 (by simpa using(Jn.1 h2).1)
theorem zBl{α:Type}{t e:TypeId}{ti:TypeInfo}{r k:Nat}{q:List Nat}{f:α→T}{xs:List α}{v:α}{i:Int}(ht:zB5 P t e ti k)(hv:ixO xs i=i7 v)(hx:tF E x=i7 (r,q,.ro (L k f xs)))(hy:opT E y=i7 (I i))(sd:J5 d Γ.N=i9):
  Ok P Γ ⟨i7 d,.indexAddr t x y,ty,ps,af,gd⟩ E (E.app [(d,i7 (.ro (.ptr (f v))))] [(d,0)]):=by
 obtain⟨h1,h2⟩:=uO hv;exact fun S=>zQx x y t e ti r q k _ .i64 i _ rfl rfl (yJ sd) ht.un ht.info ht.size hx hy h1 (by simp[h2])
theorem zQP{α:Type}{t e:TypeId}{r k:Nat}{q:List Nat}{f:α→T}{xs:List α}(hu:P.underlying t=i7 (.slice e))(hx:tF E x=i7 (r,q,L k f xs))(sd:J5 d Γ.N=i9):
  Ok P Γ ⟨i7 d,.call { callee:=.builtin .len,args:=#[x],argTypes:=#[t] },ty,ps,af,gd⟩ E (E.app [(d,i7 (I xs.length))] [(d,0)]):=
 fun _=>zQv x t _ r q (L k f xs) xs.length rfl rfl (yJ sd) hu hx (by simp[zKs]) rfl
theorem zQQ{α:Type}{t e:TypeId}{r k:Nat}{q:List Nat}{f:α→T}{xs:List α}(hu:P.underlying t=i7 (.slice e))(hx:tF E x=i7 (r,q,.ro (L k f xs)))(sd:J5 d Γ.N=i9):
  Ok P Γ ⟨i7 d,.call { callee:=.builtin .len,args:=#[x],argTypes:=#[t] },ty,ps,af,gd⟩ E (E.app [(d,i7 (I xs.length))] [(d,0)]):=
 fun _=>zQv x t _ r q (.ro (L k f xs)) xs.length rfl rfl (yJ sd) hu hx (by simp[zKs]) rfl
structure zTP (P:Program) (t:TypeId) (u:T):Prop where
 h:∃ds ti,P.underlying t=i7 ds∧P.info? t=i7 ti∧zEW ds= !u.single∧ti.size=u.size
theorem zX8{t:TypeId}{u:T}(ht:zTP P t u)(hx:opT E x=i7 (.ro (.ptr u)))(sd:J5 d Γ.N=i9):Ok P Γ ⟨i7 d,.load t x,ty,ps,af,gd⟩ E (E.app [(d,i7 (roT u))] [(d,0)]):=by obtain⟨ds,ti,h1,h2,h3,h4⟩:=ht.h;exact fun S=>zM3 x t ds ti u rfl rfl (yJ sd) h1 h2 h3 h4 hx
theorem zEs{t:TypeId}{u tr:T}{r:Nat}{q:List Nat}(ht:zTP P t u)(hx:opT E x=i7 (.addr r q))(hr:E r=i7 tr)(hg:tr.get q.reverse=i7 u)(sd:(J5 d Γ.N&&tr.locd q.reverse&&(r != d)&&T.okB [(d,0)] (cpT r u q))=i9):
  Ok P Γ ⟨i7 d,.load t x,ty,ps,af,gd⟩ E (E.app [(d,i7 (cpT r u q))] [(d,0)]):=by
 obtain⟨ds,ti,h1,h2,h3,h4⟩:=ht.h;simp only[J3]at sd;exact fun S=>zTH x t ds ti r q tr u rfl rfl (yJ sd.1.1.1) h1 h2 h3 h4 hx hr hg sd.1.1.2 (by simpa using sd.1.2) sd.2
end
end Go.Ab

namespace Go.Ab
open Go
section
variable {P:Program}{Γ:Ctx}{E:Env}{x:Operand}{ty:TypeId}{ps:String}{af:Array Edge}{gd:Option (Nat×Bool)}
theorem yAm{t:TypeId}{ti:TypeInfo}{r s:Nat}{q:List Nat}{tr tr' u0:T}{v:Value}(hi:P.info? t=i7 ti)(gw:ti.size=1)(hx:opT E x=i7 (.addr r q))(hr:E r=i7 tr)(hg:tr.get q.reverse=i7 u0)(gu:tr.set q.reverse (.lit v)=tr')(hy:E s=i7 (.lit v))
  (sd:(tr.single&&tr.locd q.reverse&&vD (.lit v) u0&&(r != s))=i9):Ok P Γ ⟨i8,.store t x (.tmp s),ty,ps,af,gd⟩ E (E.app [(r,i7 tr')] [(r,q.length)]):=by
 simp only[J3]at sd;subst gu;intro S;have:=zK2 (P:=P) (Γ:=Γ.at S) (E:=E) (o:=⟨i8,.store t x (.tmp s),ty,ps,af,gd⟩) t ti x (.tmp s) r q tr u0 (.slot s (.lit v)) rfl rfl hi (by rw[gw];rfl) (by omega) hx hr sd.1.1.1 hg sd.1.1.2 sd.1.2 (.slot s _)
  ⟨fun s' t' h=>by simp at h;obtain⟨rfl,rfl⟩:=h;exact⟨hy,by simp[yD,xC],rfl⟩,fun u h=>by simp at h,by simp[xR,sK]⟩
 exact this
theorem zX9{t:TypeId}{ti:TypeInfo}{r:Nat}{q:List Nat}{tr tr' u0:T}{v:Value}(hi:P.info? t=i7 ti)(gw:ti.size=1)(hx:opT E x=i7 (.addr r q))(hr:E r=i7 tr)(hg:tr.get q.reverse=i7 u0)(gu:tr.set q.reverse (.lit v)=tr')
  (sd:(tr.single&&tr.locd q.reverse&&vD (.lit v) u0&&(T.lit v).zOk)=i9)(hz:tR (.lit v)=v.cells.toList):Ok P Γ ⟨i8,.store t x (.const v),ty,ps,af,gd⟩ E (E.app [(r,i7 tr')] [(r,q.length)]):=by
 simp only[J3]at sd;subst gu;intro S;have:=zK2 (P:=P) (Γ:=Γ.at S) (E:=E) (o:=⟨i8,.store t x (.const v),ty,ps,af,gd⟩) t ti x (.const v) r q tr u0 (.zero (.lit v)) rfl rfl hi (by rw[gw];rfl) (by omega) hx hr sd.1.1.1 hg sd.1.1.2 sd.1.2 (.zero v _ hz)
  ⟨fun s' t' h=>by simp at h,fun u h=>by simp at h;subst h;exact sd.2,by simp[xR]⟩
 exact this
end
end Go.Ab

namespace Go.Ab
open Go
theorem zM.tr{Γ:Ctx}{E:Env}(d r:Nat)(u:T)(hd:E d=i7 (.same r []))(hr:E r=i7 u)(eV:yD u)(sd:(u.single&&xU u&&u.okB [(d,1),(r,1)]&&(d != r))=i9):
  zM Γ E (E.app [(d,i7 u),(r,i7 (.same d []))] [(d,1),(r,1)]):=by
 simp only[J3]at sd
 rintro a w ⟨S,hS,hs⟩
 have gf:d≠r:=by simpa using sd.2
 have hg:∀t:T,t.get []=i7 t:=fun t=>by cases t<;>rfl
 have:=zM7 hs d [] r [] (.same r []) u u hd rfl hr (hg u) sd.1.1.1 eV gf (by simp[T.okB,kY]) sd.1.2 rfl sd.1.1.2;exact⟨S,hS,this⟩
theorem zDH{α:Type}{f:α→T}(hf:∀x,yD (f x)):(xs:List α)→xQ (xs.map f)
 | []=>trivial
 |x::xs=>⟨hf x,zDH hf xs⟩
theorem zNU{α:Type}{f:α→T}{k:Nat}{xs:List α}(hf:∀x,yD (f x)):yD (L k f xs):=by simp only[yD,xC];exact zDH hf xs
theorem zNV(n:Int):yD (I n):=by simp[yD,xC]
theorem zTQ(b:Bool):yD (B b):=by simp[yD,xC]
end Go.Ab

namespace Go.Ab
open Go
section
variable {P:Program}{Γ:Ctx}{E:Env}{d:Nat}{x y:Operand}{ty:TypeId}{ps:String}{af:Array Edge}{gd:Option (Nat×Bool)}{m n c:Int}{xt yt:TypeId}
theorem zFM(hv:rng (m-n)=i7 c)(hx:opT E x=i7 (I m))(hy:opT E y=i7 (I n))(sd:J5 d Γ.N=i9):Ok P Γ ⟨i7 d,.binOp .sub xt x y yt,ty,ps,af,gd⟩ E (E.app [(d,i7 (I c))] [(d,0)]):=by obtain⟨rfl,h⟩:=zCn hv;exact fun _=>sA .sub xt yt x y .i64 m n _ rfl rfl (yJ sd) hx hy (by simp only[zJm,zCm h])
theorem zQR(hv:rng (m*n)=i7 c)(hx:opT E x=i7 (I m))(hy:opT E y=i7 (I n))(sd:J5 d Γ.N=i9):Ok P Γ ⟨i7 d,.binOp .mul xt x y yt,ty,ps,af,gd⟩ E (E.app [(d,i7 (I c))] [(d,0)]):=by obtain⟨rfl,h⟩:=zCn hv;exact fun _=>sA .mul xt yt x y .i64 m n _ rfl rfl (yJ sd) hx hy (by simp only[zJm,zCm h])
def tH(m n:Int):Option Int:=if n=0 then i8 else rng (m.tdiv n)
def uU(m n:Int):Option Int:=if n=0 then i8 else i7 (m.tmod n)
theorem zXA(hv:tH m n=i7 c)(hx:opT E x=i7 (I m))(hy:opT E y=i7 (I n))(sd:J5 d Γ.N=i9):Ok P Γ ⟨i7 d,.binOp .quo xt x y yt,ty,ps,af,gd⟩ E (E.app [(d,i7 (I c))] [(d,0)]):=by
 unfold tH at hv;split at hv
 ·cases hv
 ·rename_i h0
  obtain⟨rfl,h⟩:=zCn hv;exact fun _=>sA .quo xt yt x y .i64 m n _ rfl rfl (yJ sd) hx hy (by simp only[zJm,h0,if_false,zCm h])
theorem zVj(hv:uU m n=i7 c)(hx:opT E x=i7 (I m))(hy:opT E y=i7 (I n))(sd:J5 d Γ.N=i9):Ok P Γ ⟨i7 d,.binOp .rem xt x y yt,ty,ps,af,gd⟩ E (E.app [(d,i7 (I c))] [(d,0)]):=by
 unfold uU at hv;split at hv
 ·cases hv
 ·rename_i h0
  simp at hv;subst hv;exact fun _=>sA .rem xt yt x y .i64 m n _ rfl rfl (yJ sd) hx hy (by simp only[zJm,h0,if_false])
theorem zQS(hx:opT E x=i7 (I m))(hy:opT E y=i7 (I n))(sd:J5 d Γ.N=i9):Ok P Γ ⟨i7 d,.binOp .leq xt x y yt,ty,ps,af,gd⟩ E (E.app [(d,i7 (B (decide (m≤n))))] [(d,0)]):=
 fun _=>sA .leq xt yt x y .i64 m n _ rfl rfl (yJ sd) hx hy rfl
theorem zQT(hx:opT E x=i7 (I m))(hy:opT E y=i7 (I n))(sd:J5 d Γ.N=i9):Ok P Γ ⟨i7 d,.binOp .gtr xt x y yt,ty,ps,af,gd⟩ E (E.app [(d,i7 (B (decide (m> n))))] [(d,0)]):=
 fun _=>sA .gtr xt yt x y .i64 m n _ rfl rfl (yJ sd) hx hy rfl
theorem zNW(hx:opT E x=i7 (I m))(hy:opT E y=i7 (I n))(sd:J5 d Γ.N=i9):Ok P Γ ⟨i7 d,.binOp .geq xt x y yt,ty,ps,af,gd⟩ E (E.app [(d,i7 (B (decide (m≥n))))] [(d,0)]):=
 fun _=>sA .geq xt yt x y .i64 m n _ rfl rfl (yJ sd) hx hy rfl
theorem zKM(hx:opT E x=i7 (I m))(hy:opT E y=i7 (I n))(sd:J5 d Γ.N=i9):Ok P Γ ⟨i7 d,.binOp .eql xt x y yt,ty,ps,af,gd⟩ E (E.app [(d,i7 (B (m==n)))] [(d,0)]):=
 fun _=>sA .eql xt yt x y .i64 m n _ rfl rfl (yJ sd) hx hy rfl
theorem zQU(hx:opT E x=i7 (I m))(hy:opT E y=i7 (I n))(sd:J5 d Γ.N=i9):Ok P Γ ⟨i7 d,.binOp .neq xt x y yt,ty,ps,af,gd⟩ E (E.app [(d,i7 (B (m != n)))] [(d,0)]):=
 fun _=>sA .neq xt yt x y .i64 m n _ rfl rfl (yJ sd) hx hy rfl
theorem zBV{b:Bool}(hx:opT E x=i7 (B b))(sd:J5 d Γ.N=i9):Ok P Γ ⟨i7 d,.unOp .not xt x,ty,ps,af,gd⟩ E (E.app [(d,i7 (B (!b)))] [(d,0)]):=
 fun _=>zVU xt x b rfl rfl (yJ sd) hx
theorem zXB(hv:rng (0-n)=i7 c)(hx:opT E x=i7 (I n))(sd:J5 d Γ.N=i9):Ok P Γ ⟨i7 d,.unOp .neg xt x,ty,ps,af,gd⟩ E (E.app [(d,i7 (I c))] [(d,0)]):=by
 obtain⟨rfl,h⟩:=zCn hv;have:=fun S=>zVV (P:=P) (Γ:=Γ.at S) (E:=E) (o:=⟨i7 d,.unOp .neg xt x,ty,ps,af,gd⟩) xt x .i64 n rfl rfl (yJ sd) hx
 rw[zCm h]at this;exact this
end
end Go.Ab

namespace Go.Ab
open Go
section
variable {P:Program}{Γ:Ctx}{E:Env}{d:Nat}{x y:Operand}{ty:TypeId}{ps:String}{af:Array Edge}{gd:Option (Nat×Bool)}
class zGc (P:Program) (t:TypeId) (u:outParam T):Prop where
 h:∃ti z,P.info? t=i7 ti∧ti.zero=i7 z∧u.zOk=i9∧tR u=z.cells.toList∧z.cells.size=u.size
theorem zJ5{t:TypeId}{u:T}(ht:zGc P t u)(sd:J5 d Γ.N=i9):Ok P Γ ⟨i7 d,.alloc t,ty,ps,af,gd⟩ E (E.app [(d,i7 (.ptr u))] [(d,0)]):=by obtain⟨ti,z,h1,h2,h3,h4,h5⟩:=ht.h;exact fun S=>zQ6 t ti z u rfl rfl (yJ sd) h1 h2 h3 h4 h5
theorem zVk{s i:Nat}{ts:List T}{t:T}(hs:E s=i7 (.tup ts))(hi:ts[i]? =i7 t)(sd:(J5 d Γ.N&&t.okTup&&(s != d)&&T.okB [(d,0)] (cpT s t [i]))=i9):
  Ok P Γ ⟨i7 d,.extract (.tmp s) i,ty,ps,af,gd⟩ E (E.app [(d,i7 (cpT s t [i]))] [(d,0)]):=by
 simp only[J3]at sd;exact fun S=>zM4 s i ts t rfl rfl (yJ sd.1.1.1) hs hi (zBk sd.1.1.2) (by simpa using sd.1.2) sd.2
theorem zAR{t:T}(hx:opT E x=i7 t)(hp:zFF E x=i9)(sd:mvB Γ x t d=i9):Ok P Γ ⟨i7 d,.nilCheck x,ty,ps,af,gd⟩ E (E.app [(d,i7 (tA x t))] [(d,0)]):=by simp only[mvB,J3]at sd;exact fun S=>zVW x t rfl rfl (yJ sd.1.1.1) hx hp (zBk sd.1.1.2) (zEr sd.1.2) sd.2
theorem zMC{c:Operand}{b:Bool}{t:T}(hc:opT E c=i7 (B b))(hx:opT E (if b then x else y)=i7 t)(sd:mvB Γ (if b then x else y) t d=i9):Ok P Γ ⟨i7 d,.pick c x y,ty,ps,af,gd⟩ E (E.app [(d,i7 (tA (if b then x else y) t))] [(d,0)]):=by simp only[mvB,J3]at sd;exact fun S=>zTE c x y b t rfl rfl (yJ sd.1.1.1) hc hx (zBk sd.1.1.2) (zEr sd.1.2) sd.2
theorem zVl{t:TypeId}{s:Nat}{u:T}(hs:E s=i7 u)(hu:yD u)(sd:(J5 d Γ.N&&u.okTup&&(s != d))=i9):
  Ok P Γ ⟨i7 d,.box t (.tmp s),ty,ps,af,gd⟩ E (E.app ((d,i7 (.ptr u))::pWr d [.slot s u] 0) ((d,0)::sL [.slot s u])):=by
 simp only[J3]at sd;have gf:s≠d:=by simpa using sd.2
 refine fun S=>zVY t (.tmp s) (.slot s u) rfl rfl (yJ sd.1.1) (.slot s u) ⟨fun s' t' h=>by simp at h;obtain⟨rfl,rfl⟩:=h;exact⟨hs,hu,sd.1.2⟩,fun u h=>by simp at h,?_⟩
 simp only[xR];split<;>simp[Ne.symm gf]
end
end Go.Ab

namespace Go.Ab
open Go
def xW{α:Type}(xs ys:List α):Option (List α):=if xs.length+ys.length≤68719476736 then i7 (xs++ys)else i8
theorem zFk{α:Type}{xs ys zs:List α}(h:xW xs ys=i7 zs):zs=xs++ys∧xs.length+ys.length≤68719476736:=by
 unfold xW at h;split at h
 ·simp at h;exact⟨h.symm,by assumption⟩
 ·cases h
section
variable {P:Program}{Γ:Ctx}{E:Env}{d:Nat}{x y:Operand}{ty:TypeId}{ps:String}{af:Array Edge}{gd:Option (Nat×Bool)}
theorem ElT.zsize{t e:TypeId}{ti:TypeInfo}{k:Nat}{u:T}(h:ElT P t e ti k u):∃z,ti.zero=i7 z∧z.cells.size=k:=by obtain⟨z,h1,h2⟩:=h.zero;exact⟨z,h1,by rw[←Ko,←h2,vA u h.zok,h.us]⟩
theorem zB6{α:Type}{t e:TypeId}{ti:TypeInfo}{k:Nat}{u:T}{f:α→T}{xs ys zs:List α}{s0 s1:Nat}(ht:ElT P t e ti k u)(hv:xW xs ys=i7 zs)(h0:E s0=i7 (L k f xs))(h1:E s1=i7 (L k f ys))(sd:(J5 d Γ.N&&(s0 != d)&&(s1 != d)&&(s1 != s0))=i9):
  Ok P Γ ⟨i7 d,.call { callee:=.builtin .append,args:=#[.tmp s0,.tmp s1],argTypes:=#[t,t] },ty,ps,af,gd⟩ E (E.app [(d,i7 (L k f zs)),(s0,i7 .any),(s1,i7 .any)] [(d,0),(s0,1),(s1,1)]):=by
 obtain⟨rfl,hl⟩:=zFk hv;obtain⟨z,hz,fe⟩:=ht.zsize;simp only[J3]at sd;intro S;have:=zJw (P:=P) (Γ:=Γ.at S) (E:=E) (o:=⟨i7 d,.call { callee:=.builtin .append,args:=#[.tmp s0,.tmp s1],argTypes:=#[t,t] },ty,ps,af,gd⟩) t e ti z k s0 s1 (xs.map f) (ys.map f) rfl rfl (yJ sd.1.1.1) ht.un ht.info hz ht.size ht.pos fe ht.bytes h0 h1
  (by simpa using sd.1.1.2) (by simpa using sd.1.2) (by simpa using sd.2) (by simpa using hl)
 rw[←L7]at this;exact this
theorem zID{α:Type}{f:α→T}(hf:∀x,(f x).flat=i9):(xs:List α)→zAx (xs.map f)=i9
 | []=>rfl
 |x::xs=>by simp only[Jo,zAx,hf x,zID hf xs,Ks]
theorem zMD{α:Type}{t e:TypeId}{ti:TypeInfo}{k r:Nat}{q:List Nat}{u:T}{f:α→T}{xs ys zs:List α}{s0:Nat}(ht:ElT P t e ti k u)(hf:∀x,(f x).flat=i9)(hv:xW xs ys=i7 zs)(h0:E s0=i7 (L k f xs))(h1:tF E y=i7 (r,q,L k f ys))(sd:(J5 d Γ.N&&(s0 != d))=i9):
  Ok P Γ ⟨i7 d,.call { callee:=.builtin .append,args:=#[.tmp s0,y],argTypes:=#[t,t] },ty,ps,af,gd⟩ E (E.app [(d,i7 (L k f zs)),(s0,i7 .any)] [(d,0),(s0,1)]):=by
 obtain⟨rfl,hl⟩:=zFk hv;obtain⟨z,hz,fe⟩:=ht.zsize;simp only[J3]at sd;intro S;have:=zJx (P:=P) (Γ:=Γ.at S) (E:=E) (o:=⟨i7 d,.call { callee:=.builtin .append,args:=#[.tmp s0,y],argTypes:=#[t,t] },ty,ps,af,gd⟩) t e ti z k s0 y r q (xs.map f) (ys.map f) rfl rfl (yJ sd.1) ht.un ht.info hz ht.size ht.pos fe ht.bytes h0 h1 (zID hf ys)
  (by simpa using sd.2) (by simpa using hl)
 rw[←L7]at this;exact this
end
end Go.Ab

namespace Go.Ab
open Go
abbrev IK(k:IntKind)(n:Int):T:=.lit (.int k n)
abbrev Str(s:ByteArray):T:=.lit (.string s)
abbrev Pt{α:Type}(f:α→T)(x:α):T:=.ptr (f x)
abbrev Ro{α:Type}(f:α→T)(x:α):T:=.ro (f x)
abbrev A2{α:Type}(f:α→T)(x:α×α):T:=.agg [f x.1,f x.2]
theorem bd{α β:Type}{o:Option α}{f:α→Option β}{r:β}(h:o.bind f=i7 r):∃v,o=i7 v∧f v=i7 r:=by
 cases o with
 |none=>simp at h
 |some v=>grind
theorem cT{α:Type}{b:Bool}{x y:α}{z:α}(hc:b=i9)(h:cond b x y=z):x=z:=by grind
theorem cF{α:Type}{b:Bool}{x y:α}{z:α}(hc:b=ia)(h:cond b x y=z):y=z:=by grind
theorem sI{α:Type}{x y:α}(h:i7 x=i7 y):x=y:=Lq.inj h
section
variable {P:Program}{Γ:Ctx}{pn:jS}{E E':Env}{Q:Exit→Env→Prop}{c:Code}{id id':Nat}
theorem nA(h:CW P Γ pn c E Q):wC P Γ pn c Q .normal E:=h
theorem xA(h:Q (.exit id) E):wC P Γ pn c Q (.exit id) E:=h
theorem rA(h:Q .ret E):wC P Γ pn c Q .ret E:=h
theorem nB(h:Q .normal E):wJ id Q .normal E:=h
theorem rB(h:Q .ret E):wJ id Q .ret E:=h
theorem xB(h:Q .normal E):wJ id Q (.exit id) E:=by simp only[wJ,if_true];exact h
theorem neX:Exit.exit id≠.normal:=by simp
theorem neR:Exit.ret≠.normal:=by simp
theorem RW.cases{ops:Array Oper}{os:List Oper}(s:Nat)(b:Bool)(hb:E s=i7 (B b))(ht:b=i9→RW P Γ pn ops os (E.app [(s,i7 (B i9))] []) Q)(hf:b=ia→RW P Γ pn ops os (E.app [(s,i7 (B ia))] []) Q):RW P Γ pn ops os E Q:=by
 have key:∀c:Bool,b=c→zM Γ E (E.app [(s,i7 (B c))] []):=by
  rintro c rfl a w hs
  refine hs.weaken fun s' t h=>?_
  by_cases e:s=s'
  ·grind[Env.app,Wr.find]
  ·simp only[Env.app,Wr.find,e,if_false]at h
   grind
 cases hc:b with
 |true=>grind[ghost]
 |false=>grind[ghost]
end
theorem zR{α:Type}{k:Nat}{f:α→T}{xs:List α}{i:Int}{v:α}{p:List Nat}{u:T}(h:ixO xs i=i7 v)(hr:(f v).get p=i7 u):(L k f xs).get (i.toNat::p)=i7 u:=by simp[T.get,(uO h).2,hr]
theorem yZ{t u:T}{p:List Nat}(h:t.get p=i7 u):(T.ptr t).get (0::p)=i7 u:=h
theorem yV{xs:List T}{x u:T}{j:Nat}{p:List Nat}(hj:xs[j]? =i7 x)(h:x.get p=i7 u):(T.agg xs).get (j::p)=i7 u:=by grind[T.get]
theorem kQ{α:Type}{k:Nat}{f:α→T}{xs:List α}{i:Int}{v w:α}{p:List Nat}{u:T}(h:ixO xs i=i7 v)(hr:(f v).set p u=f w):(L k f xs).set (i.toNat::p) u=L k f (xs.set i.toNat w):=by simp[L,T.set,(uO h).2,hr,Jas]
theorem zAS{t u t':T}{p:List Nat}(h:t.set p u=t'):(T.ptr t).set (0::p) u=T.ptr t':=by simp[T.set,h]
theorem zFl{xs:List T}{x u x':T}{j:Nat}{p:List Nat}(hj:xs[j]? =i7 x)(h:x.set p u=x'):(T.agg xs).set (j::p) u=.agg (xs.set j x'):=by grind[T.set]
class Enc {α:Type} (f:α→T):Prop where
 clean:∀x,yD (f x)
 rofree:∀x,vG (f x)=i9
 strip:∀x,strip (f x)=f x
 okTup:∀x,(f x).okTup=i9
 rook:∀x,zFc (f x)=i9
theorem zGU{α:Type}{f:α→T}(h:∀x,vG (f x)=i9):(xs:List α)→uF (xs.map f)=i9
 | []=>rfl
 |x::xs=>by simp only[Jo,uF,h x,zGU h xs,Ks]
theorem zGV{α:Type}{f:α→T}(h:∀x,zFc (f x)=i9):(xs:List α)→zBh (xs.map f)=i9
 | []=>rfl
 |x::xs=>by simp only[Jo,zBh,h x,zGV h xs,Ks]
theorem sT{α:Type}{f g:α→T}(h:∀x,strip (f x)=g x):(xs:List α)→wW (xs.map f)=xs.map g
 | []=>rfl
 |x::xs=>by simp only[Jo,wW,h x,sT h xs]
instance:Enc I:=⟨zNV,fun _=>rfl,fun _=>rfl,fun _=>rfl,fun _=>rfl⟩
instance:Enc B:=⟨zTQ,fun _=>rfl,fun _=>rfl,fun _=>rfl,fun _=>rfl⟩
instance{k:IntKind}:Enc (IK k):=⟨fun _=>by simp[yD,xC],fun _=>rfl,fun _=>rfl,fun _=>rfl,fun _=>rfl⟩
instance:Enc Str:=⟨fun _=>by simp[yD,xC],fun _=>rfl,fun _=>rfl,fun _=>rfl,fun _=>rfl⟩
instance{α:Type}{k:Nat}{f:α→T}[h:Enc f]:Enc (L k f):=
 ⟨fun _=>zNU h.clean,fun xs=>by simp only[vG];exact zGU h.rofree xs,fun xs=>by simp only[L,strip,sT h.strip xs],fun _=>rfl,fun xs=>by simp only[zFc,zGV h.rook xs]⟩
instance{α:Type}{f:α→T}[h:Enc f]:Enc (A2 f):=
 ⟨fun x=>by simp only[yD,xC,xX];exact⟨h.clean _,h.clean _,trivial⟩,fun x=>by simp only[vG,uF,h.rofree,Ks],fun x=>by simp only[A2,strip,wW,h.strip],
  fun x=>by simp only[T.okTup,yR,h.okTup,Ks],fun x=>by simp only[zFc,zBh,h.rook,Ks]⟩
instance{α:Type}{f:α→T}[h:Enc f]:Enc (Pt f):=
 ⟨fun x=>by simp only[yD,xC];exact h.clean x,fun x=>by simp only[vG,h.rofree],fun x=>by simp only[Pt,strip,h.strip],fun _=>rfl,fun x=>by simp only[zFc,h.rook]⟩
class uP {α:Type} (f g:α→T):Prop where
 h:∀x,strip (f x)=g x
instance{α:Type}{f:α→T}[h:Enc f]:uP f f:=⟨h.strip⟩
instance{α:Type}{k:Nat}{f g:α→T}[h:uP f g]:uP (L k f) (L k g):=⟨fun xs=>by simp only[L,strip,sT h.h xs]⟩
instance{α:Type}{k:Nat}{g:α→T}:uP (Ro (L k g)) (L k g):=⟨fun _=>rfl⟩
instance{α:Type}{g:α→T}:uP (Ro (Pt g)) (Pt g):=⟨fun _=>rfl⟩
theorem stA{xs ys:List T}(h:wW xs=ys):strip (.agg xs)=.agg ys:=by grind[strip]
theorem stC{x y:T}{xs ys:List T}(h:strip x=y)(h2:wW xs=ys):wW (x::xs)=y::ys:=by grind[wW]
section
variable {E:Env}{rw:Rw}{i s r:Nat}{q:List Nat}{x:Operand}
theorem zDj{α:Type}{k:Nat}{f g:α→T}{xs:List α}(h:uP f g):clo E (L k f xs)=.ro (L k g xs):=by simp only[clo,L,strip,sT h.h xs]
theorem zTR{t u:T}(h:strip t=u):clo E (.ptr t)=.ro (.ptr u):=by grind[clo,strip]
theorem zCT{tr u:T}(hr:E r=i7 tr)(hg:tr.get q.reverse=i7 u)(h4:zAj u=i9):qS E 4 r q=i7 (r,q,u):=by grind[zAj,qS]
theorem zB7{α:Type}{k:Nat}{f g:α→T}{xs:List α}{tr:T}(hr:E r=i7 tr)(hg:tr.get q.reverse=i7 (L k f xs))(h:uP f g):clo E (.same r q)=.ro (L k g xs):=by simp only[clo,zCT hr hg rfl,T.single,if_true,L,strip,sT h.h xs]
theorem zXC{t u tr:T}(hr:E r=i7 tr)(hg:tr.get q.reverse=i7 (.ptr t))(h:strip t=u):clo E (.same r q)=.ro (.ptr u):=by simp only[clo,zCT hr hg rfl,T.single,if_true,strip,h]
theorem zWa{α:Type}{k l h:Nat}{f g:α→T}{xs:List α}{tr:T}(hr:E r=i7 tr)(hg:tr.get q.reverse=i7 (L k f xs))(hs:uP f g)(h1:l≤h)(h2:h≤xs.length):clo E (.sub r q k l h)=.ro (L k g ((xs.drop l).take (h-l))):=by simp only[clo,zCT hr hg rfl,L,sT hs.h xs,Jh,h1,h2,and_self,if_true,Jci,Jb9]
theorem zEt{xs ys:List T}(h:zAQ E xs=ys):clo E (.agg xs)=.agg ys:=by grind[clo]
theorem zFm:zAQ E []=[]:=rfl
theorem jU{x y:T}{xs ys:List T}(h:clo E x=y)(h2:zAQ E xs=ys):zAQ E (x::xs)=y::ys:=by grind[zAQ]
mutual
theorem zIE(s:Nat):(t:T)→t.okTup=i9→qA E [] s t=i9
 |.agg xs,h=>by simp only[qA,T.okTup]at h ⊢;exact zGW s xs h
 |.tup _,h=>by grind[T.okTup]
 |.same r q,_|.sub r q _ _ _,_=>by grind[qA]
 |.sl _ _,_|.ptr _,_=>by rfl
 |.lit _,_|.ro _,_|.any,_|.addr _ _,_=>by rfl
theorem zGW(s:Nat):(xs:List T)→yR xs=i9→zAy E [] s xs=i9
 | [],_=>rfl
 |x::xs,h=>by simp only[yR,J3]at h;simp only[zAy,zIE s x h.1,zGW s xs h.2,Ks]
end
theorem agC{u:T}(t:T)(h:opT E x=i7 t)(h1:clo E t=u)(h2:t.okTup=i9):zBU E [] i x u:=.inr ⟨t,h,h1,by
 cases x with
 |tmp s=>exact zIE s t h2
 |_=>rfl⟩
end
section
variable {P:Program}{Γ:Ctx}{E:Env}{d:Nat}{x y:Operand}{ty:TypeId}{ps:String}{af:Array Edge}{gd:Option (Nat×Bool)}
abbrev kZ(res:List T):Prop:=xQ res∧yR res=i9∧uF res=i9
theorem tY:kZ []:=⟨trivial,rfl,rfl⟩
theorem jI{α:Type}{f:α→T}{x:α}{ts:List T}(h:Enc f)(h2:kZ ts):kZ (f x::ts):=
 ⟨⟨h.clean x,h2.1⟩,by simp only[yR,h.okTup,h2.2.1,Ks],by simp only[uF,h.rofree,h2.2.2,Ks]⟩
abbrev zAT(P:Program)(f:FuncId):Prop:=∀args w,(callFunc f args).run P w=.ok (.enter f args) w
theorem vZ{f:FuncId}{xs:List Operand}{ats:Array TypeId}{us res:List T}(gr:zAT P f)(hc:FnC P f us res [])(gc:xZ E [] 0 xs us)(gk:kZ res)(sd:J5 d Γ.N=i9):
  Ok P Γ ⟨i7 d,.call { callee:=.value (.func f),args:=xs.toArray,argTypes:=ats },ty,ps,af,gd⟩ E (E.app (cWr d res []) (uK d [])):=
 fun _S=>zJ1 f (.func f) xs ats us res [] rfl rfl (yJ sd) gr rfl hc gc .nil gk
theorem zTS{f:FuncId}{xs:List Operand}{ats:Array TypeId}{us res:List T}(gr:zAT P f)(hc:FnC P f us res [])(gj:xs.length=us.length)(gc:∀(i:Nat) u,us[i]? =i7 u→ ∃x,xs[i]? =i7 x∧opT E x=i7 u∧u.flat=i9)(gk:xQ res∧yR res=i9)(sd:J5 d Γ.N=i9):
  Ok P Γ ⟨i7 d,.call { callee:=.value (.func f),args:=xs.toArray,argTypes:=ats },ty,ps,af,gd⟩ E (E.app (cWr d res []) (uK d [])):=
 fun _S=>zQI f (.func f) xs ats us res rfl rfl (yJ sd) gr rfl hc gj gc gk
class sG (P:Program) (S:TypeId) (j:Nat) (off:outParam Nat):Prop where
 h:∃fs f fi,P.underlying S=i7 (.struct fs)∧fs[j]? =i7 f∧P.info? f.type=i7 fi∧fi.size≠0∧off=f.offset
theorem zWb{S:TypeId}{j off r:Nat}{q:List Nat}{xs:List T}{u:T}(ht:sG P S j off)(hx:tF E x=i7 (r,q,.ptr (.agg xs)))(hu:xs[j]? =i7 u)(gF:T.sizes (xs.take j)=off)(sd:J5 d Γ.N=i9):
  Ok P Γ ⟨i7 d,.fieldAddr S x j,ty,ps,af,gd⟩ E (E.app [(d,i7 (.addr r (j::0::q)))] [(d,0)]):=by
 obtain⟨fs,f,fi,h1,h2,h3,h4,h5⟩:=ht.h;exact fun _=>zX4 x S fs f fi j r q xs u rfl rfl (yJ sd) h1 h2 h3 h4 hx hu (by omega)
theorem zBW{S:TypeId}{j off r:Nat}{q:List Nat}{t:T}{xs:List T}{u:T}(ht:sG P S j off)(hx:opT E x=i7 (.addr r q))(hr:E r=i7 t)(hg:t.get q.reverse=i7 (.agg xs))(hu:xs[j]? =i7 u)(gF:T.sizes (xs.take j)=off)(sd:(J5 d Γ.N&&t.locd q.reverse)=i9):
  Ok P Γ ⟨i7 d,.fieldAddr S x j,ty,ps,af,gd⟩ E (E.app [(d,i7 (.addr r (j::q)))] [(d,0)]):=by
 obtain⟨fs,f,fi,h1,h2,h3,h4,h5⟩:=ht.h;simp only[J3]at sd;exact fun _=>zM1 x S fs f fi j r q t xs u rfl rfl (yJ sd.1) h1 h2 h3 h4 hx hr hg sd.2 hu (by omega)
theorem zNX{S:TypeId}{j off:Nat}{xs:List T}{u:T}(ht:sG P S j off)(hx:opT E x=i7 (.ro (.ptr (.agg xs))))(hu:xs[j]? =i7 u)(gF:T.sizes (xs.take j)=off)(sd:J5 d Γ.N=i9):
  Ok P Γ ⟨i7 d,.fieldAddr S x j,ty,ps,af,gd⟩ E (E.app [(d,i7 (.ro (.ptr u)))] [(d,0)]):=by
 obtain⟨fs,f,fi,h1,h2,h3,h4,h5⟩:=ht.h;exact fun _=>zQy x S fs f fi j xs u rfl rfl (yJ sd) h1 h2 h3 h4 hx hu (by omega)
def yB{α:Type}(xs:List α)(l h:Int):Option (List α):=if 0≤l∧l≤h∧h≤(xs.length:Int)then i7 ((xs.drop l.toNat).take (h.toNat-l.toNat))else i8
theorem zCp{α:Type}{t e:TypeId}{ti:TypeInfo}{r k:Nat}{q:List Nat}{f:α→T}{xs ys:List α}{lo hi:Option Operand}{l h:Int}(ht:zB5 P t e ti k)(hv:yB xs l h=i7 ys)(hx:tF E x=i7 (r,q,.ro (L k f xs)))(ex:zB2 E lo 0 l.toNat)(ft:zB2 E hi xs.length h.toNat)(sd:J5 d Γ.N=i9):
  Ok P Γ ⟨i7 d,.slice t x lo hi i8,ty,ps,af,gd⟩ E (E.app [(d,i7 (.ro (L k f ys)))] [(d,0)]):=by
 unfold yB at hv;split at hv
 ·rename_i hc
  simp at hv;subst hv;intro S;have:=zKw (P:=P) (Γ:=Γ.at S) (E:=E) (o:=⟨i7 d,.slice t x lo hi i8,ty,ps,af,gd⟩) x lo hi t e ti r q k (xs.map f) l.toNat h.toNat rfl rfl (yJ sd) ht.un ht.info ht.size hx ex (by grind) (by omega) (by simp;omega);simpa[L,Jci,Jb9]using this
 ·cases hv
theorem zQV{α:Type}{t e:TypeId}{ti:TypeInfo}{r k:Nat}{q:List Nat}{f:α→T}{xs ys:List α}{lo hi:Option Operand}{l h:Int}(ht:zB5 P t e ti k)(hv:yB xs l h=i7 ys)(hx:tF E x=i7 (r,q,L k f xs))(ex:zB2 E lo 0 l.toNat)(ft:zB2 E hi xs.length h.toNat)(sd:(J5 d Γ.N&&(r != d))=i9):
  Ok P Γ ⟨i7 d,.slice t x lo hi i8,ty,ps,af,gd⟩ E (E.app [(d,i7 (.sub r q k l.toNat h.toNat))] [(d,0)]):=by
 unfold yB at hv;simp only[J3]at sd;split at hv
 ·rename_i hc
  intro S;exact zJo (P:=P) (Γ:=Γ.at S) (E:=E) (o:=⟨i7 d,.slice t x lo hi i8,ty,ps,af,gd⟩) x lo hi t e ti r q k (xs.map f) l.toNat h.toNat rfl rfl (yJ sd.1) ht.un ht.info ht.size hx ex (by grind) (by omega) (by simp;omega) (by grind)
 ·cases hv
end
end Go.Ab

namespace Go.Ab
open Go
theorem zB{t:T}(h:yD t):yD t:=h
theorem zL{α:Type}{f:α→T}{k:Nat}{xs:List α}(hf:∀x,yD (f x)):yD (L k f xs):=zNU hf
theorem wG{t:T}(h:yD t):yD (.ptr t):=by simpa only[yD,xC]using h
theorem yK{xs:List T}(h:xQ xs):yD (.agg xs):=by simpa only[yD,xC]using h
section
variable {P:Program}{Γ:Ctx}{pn:jS}{E E':Env}{Q:Exit→Env→Prop}{c c1 c2:Code}{x:Operand}
theorem CW.condT(hx:opT E x=i7 (B i9))(h:CW P Γ pn c1 E Q):CW P Γ pn (.cond x c1 c2) E Q:=by grind[CW.cond]
theorem CW.condF(hx:opT E x=i7 (B ia))(h:CW P Γ pn c2 E Q):CW P Γ pn (.cond x c1 c2) E Q:=by grind[CW.cond]
theorem CW.casesB(b:Bool)(ht:b=i9→CW P Γ pn c E Q)(hf:b=ia→CW P Γ pn c E Q):CW P Γ pn c E Q:=by grind
theorem sM{wr:Wr}{chg:Chg}{s:Nat}{t:T}(h:E s=i7 t)(hf:wr.find s=i8:=by rfl)(hb:t.okB chg=i9:=by rfl):E.app wr chg s=i7 t:=by grind[Env.app]
theorem zW.gh{ops:Array Oper}{o:Oper}{E1:Env}(hg:zM Γ E E1)(h:zW P Γ ops o E1 E'):zW P Γ ops o E E':=fun a w K Q hs hK=>h a w K Q (hg a w hs) hK
theorem zEu{t:T}(h:opT E x=i7 (.ro (.ptr t))):zFF E x=i9:=by simp[zFF,h]
theorem zFn{r:Nat}{q:List Nat}{t:T}(h:tF E x=i7 (r,q,.ptr t)):zFF E x=i9:=by grind[zFF]
end
theorem zKN{E:Env}{n:Nat}:zB2 E i8 n (n:Int).toNat:=by simp[zB2]
theorem zNY{E:Env}:zB2 E i8 0 (0:Int).toNat:=by simp[zB2]
theorem zEv{E:Env}{x:Operand}{n:Int}{d:Nat}(h0:0≤n)(h:opT E x=i7 (I n)):zB2 E (i7 x) d n.toNat:=⟨.i64,by grind⟩
theorem sN{α:Type}{xs ys:List α}{l h:Int}(hv:yB xs l h=i7 ys):0≤l∧l≤h∧h≤xs.length∧ys=(xs.drop l.toNat).take (h.toNat-l.toNat):=by grind[yB]
theorem sU{α:Type}{xs ys:List α}{l h:Int}(hv:yB xs l h=i7 ys):0≤l:=(sN hv).1
theorem zAq{α:Type}{xs ys:List α}{l h:Int}(hv:yB xs l h=i7 ys):0≤h:=by have:=sN hv;omega
theorem zTT{E:Env}{r k:Nat}{q:List Nat}{α:Type}{l h:Int}{f g:α→T}{xs ys:List α}{tr:T}(hr:E r=i7 tr)(hg:tr.get q.reverse=i7 (L k f xs))(hs:uP f g)(hv:yB xs l h=i7 ys):
  clo E (.sub r q k l.toNat h.toNat)=.ro (L k g ys):=by
 obtain⟨h1,h2,h3,rfl⟩:=sN hv
 grind[zWa]
section
variable {P:Program}{Γ:Ctx}{E E':Env}{d:Nat}{x y:Operand}{ty:TypeId}{ps:String}{af:Array Edge}{gd:Option (Nat×Bool)}
theorem qT{o:Oper}{e b:Bool}{d:Nat}{wr:Wr}{chg:Chg}(he:e=b)(h:Ok P Γ o E (E.app ((d,i7 (B e))::wr) chg)):Ok P Γ o E (E.app ((d,i7 (B b))::wr) chg):=he▸h
theorem zXD{t:TypeId}{u tr t0:T}{r:Nat}{q:List Nat}(ht:zTP P t u)(hx:tF E x=i7 (r,q,.ptr t0))(hr:E r=i7 tr)(hg:tr.get (0::q).reverse=i7 u)(sd:(J5 d Γ.N&&tr.locd (0::q).reverse&&(r != d)&&T.okB [(d,0)] (cpT r u (0::q)))=i9):
  Ok P Γ ⟨i7 d,.load t x,ty,ps,af,gd⟩ E (E.app [(d,i7 (cpT r u (0::q)))] [(d,0)]):=by
 obtain⟨ds,ti,h1,h2,h3,h4⟩:=ht.h;simp only[J3]at sd;exact fun S=>zKt x t ds ti r (0::q) tr u rfl rfl (yJ sd.1.1.1) h1 h2 h3 h4 (zAB.ptr hx) hr hg sd.1.1.2 (by grind) sd.2
theorem zVm{t:TypeId}{ti:TypeInfo}{r s:Nat}{q:List Nat}{tr tr' u0 u:T}(hi:P.info? t=i7 ti)(gw:(ti.size==u.size&&J5 0 ti.size)=i9)(hx:∀S,zAB (Γ.at S) E x r q)(hr:E r=i7 tr)(hg:tr.get q.reverse=i7 u0)(gu:tr.set q.reverse u=tr')(hy:E s=i7 u)(hu:yD u)
  (sd:(tr.single&&tr.locd q.reverse&&vD u u0&&(r != s)&&u.okTup)=i9):Ok P Γ ⟨i8,.store t x (.tmp s),ty,ps,af,gd⟩ E (E.app ((r,i7 tr')::sWr r q (.slot s u)) ((r,q.length)::sL [.slot s u])):=by
 simp only[J3]at sd gw;subst gu;intro S;refine zFb (P:=P) (Γ:=Γ.at S) (E:=E) (o:=⟨i8,.store t x (.tmp s),ty,ps,af,gd⟩) t ti x (.tmp s) r q tr u0 (.slot s u) rfl rfl hi (by grind[yS.tree]) (yJ gw.2) (hx S) hr sd.1.1.1.1 hg sd.1.1.1.2 sd.1.1.2 (.slot s _)
  ⟨by grind,by simp,?_⟩
 grind[xR]
theorem zFo{t:TypeId}{ti:TypeInfo}{r s:Nat}{q:List Nat}{tr tr' u0 u:T}(hi:P.info? t=i7 ti)(gw:(ti.size==u.size&&J5 0 ti.size)=i9)(hx:opT E x=i7 (.addr r q))(hr:E r=i7 tr)(hg:tr.get q.reverse=i7 u0)(gu:tr.set q.reverse u=tr')(hy:E s=i7 u)(hu:yD u)
  (sd:(tr.single&&tr.locd q.reverse&&vD u u0&&(r != s)&&u.okTup)=i9):Ok P Γ ⟨i8,.store t x (.tmp s),ty,ps,af,gd⟩ E (E.app ((r,i7 tr')::sWr r q (.slot s u)) ((r,q.length)::sL [.slot s u])):=
 zVm hi gw (fun _=>zAB.addr hx) hr hg gu hy hu sd
theorem uQ{t:TypeId}{ti:TypeInfo}{r s:Nat}{q:List Nat}{tr tr' u0 u t0:T}(hi:P.info? t=i7 ti)(gw:(ti.size==u.size&&J5 0 ti.size)=i9)(hx:tF E x=i7 (r,q,.ptr t0))(hr:E r=i7 tr)(hg:tr.get (0::q).reverse=i7 u0)(gu:tr.set (0::q).reverse u=tr')(hy:E s=i7 u)(hu:yD u)
  (sd:(tr.single&&tr.locd (0::q).reverse&&vD u u0&&(r != s)&&u.okTup)=i9):Ok P Γ ⟨i8,.store t x (.tmp s),ty,ps,af,gd⟩ E (E.app ((r,i7 tr')::sWr r (0::q) (.slot s u)) ((r,(0::q).length)::sL [.slot s u])):=
 zVm hi gw (fun _=>zAB.ptr hx) hr hg gu hy hu sd
theorem zWc{t:TypeId}{ti:TypeInfo}{r:Nat}{q:List Nat}{tr tr' u0 u:T}{v:Value}(hi:P.info? t=i7 ti)(gw:(ti.size==u.size&&J5 0 ti.size)=i9)(hx:∀S,zAB (Γ.at S) E x r q)(hr:E r=i7 tr)(hg:tr.get q.reverse=i7 u0)(gu:tr.set q.reverse u=tr')
  (sd:(tr.single&&tr.locd q.reverse&&vD u u0&&u.zOk)=i9)(hz:tR u=v.cells.toList):Ok P Γ ⟨i8,.store t x (.const v),ty,ps,af,gd⟩ E (E.app [(r,i7 tr')] [(r,q.length)]):=by
 simp only[J3]at sd gw;subst gu;intro S;have:=zFb (P:=P) (Γ:=Γ.at S) (E:=E) (o:=⟨i8,.store t x (.const v),ty,ps,af,gd⟩) t ti x (.const v) r q tr u0 (.zero u) rfl rfl hi (by grind[yS.tree]) (yJ gw.2) (hx S) hr sd.1.1.1 hg sd.1.1.2 sd.1.2 (.zero v _ hz)
  ⟨by simp,by grind,by simp[xR]⟩
 exact this
theorem zGX{t:TypeId}{ti:TypeInfo}{r:Nat}{q:List Nat}{tr tr' u0 u:T}{v:Value}(hi:P.info? t=i7 ti)(gw:(ti.size==u.size&&J5 0 ti.size)=i9)(hx:opT E x=i7 (.addr r q))(hr:E r=i7 tr)(hg:tr.get q.reverse=i7 u0)(gu:tr.set q.reverse u=tr')
  (sd:(tr.single&&tr.locd q.reverse&&vD u u0&&u.zOk)=i9)(hz:tR u=v.cells.toList):Ok P Γ ⟨i8,.store t x (.const v),ty,ps,af,gd⟩ E (E.app [(r,i7 tr')] [(r,q.length)]):=
 by grind[zWc,zAB.addr]
theorem zGY{G:Gh}{s:Nat}:(xs:List T)→yR xs=i9→ ∀(p:List Nat)(i j:Nat)(u:T),xs[j]? =i7 u→ ∃l1 l2,yI G s xs p i=l1++vals G s u ((i+j)::p)++l2∧l1.length=T.sizes (xs.take j)
 | [],_,_,_,_,_,h=>by simp at h
 |x::xs,ht,p,i,j,u,h=>by
  simp only[yR,J3]at ht;cases j with
  |zero=>simp at h;subst h;exact⟨[],yI G s xs p (i+1),by rfl,by rfl⟩
  |succ j=>
   obtain⟨l1,l2,h1,h2⟩:=zGY xs ht.2 p (i+1) j u (by grind);refine⟨vals G s x (i::p)++l1,l2,by rw[yI,h1,show i+(j+1)=i+1+j from by omega];simp,?_⟩;rw[J6,vC x _ (by rintro ys rfl;grind[T.okTup]),h2,Ld,T.sizes]
theorem zQW{S:TypeId}{j off s:Nat}{xs:List T}{u:T}(ht:sG P S j off)(hv:∃ds ti fs f,P.underlying S=i7 (.struct fs)∧fs[j]? =i7 f∧P.underlying f.type=i7 ds∧P.info? f.type=i7 ti∧zEW ds= !u.single∧ti.size=u.size)(hx:E s=i7 (.agg xs))(hu:xs[j]? =i7 u)(gF:T.sizes (xs.take j)=off)
  (sd:(J5 d Γ.N&&yR xs&&u.okTup&&(s != d)&&T.okB [(d,0)] (cpT s u [j]))=i9):
  Ok P Γ ⟨i7 d,.field S (.tmp s) j,ty,ps,af,gd⟩ E (E.app [(d,i7 (cpT s u [j]))] [(d,0)]):=by
 obtain⟨fs,f,fi,h1,h2,h3,h4,h5⟩:=ht.h;obtain⟨ds,ti,fs',f',g1,g2,g3,g4,g5,g6⟩:=hv;simp only[J3]at sd;rw[h1]at g1;simp at g1;subst g1;rw[h2]at g2;simp at g2;subst g2;rw[h3]at g4;simp at g4;subst g4;intro S';refine wL.value rfl fun a w G g9=>?_
 obtain⟨k1,k2,_⟩:=g9.ent s _ hx;simp only[R]at k2;have k3:=zAM xs [] 0 j u k2 hu;simp only[Jb]at k3;have gf:s≠d:=by grind
 have ee:∀ys,u≠.tup ys:=zBk sd.1.1.2;have hk:=G.put_keep (w:=w) (w':=w) rfl d (fun z=>G.hd s (z++[j]));have hz:∀z,(G.put d (fun z=>G.hd s (z++[j]))).hd d (z++[])=G.hd s (z++[j]):=by grind[Gh.put_self]
 refine⟨sJ G s u [j],w,?_,_,vK g9 rfl (yJ sd.1.1.1.1) (fun z=>G.hd s (z++[j])) (fun z=>g9.mem.one _ _) _ _ (by grind[zAu])
  (zD7 (fun p=>G.put_other _ p gf) u [j] [] hz ee (hk.keepR (by grind[zAf,qN])) k3) (qN s u [j])⟩
 obtain⟨l1,l2,e1,e2⟩:=zGY (G:=G) (s:=s) xs sd.1.1.1.2 [] 0 j u hu;simp only[Jb]at e1;have e3:l1.length=f.offset:=by omega
 have e4:=vC (G:=G) (s:=s) u [j] ee;have a8:(part f.type (yI G s xs [] 0).toArray f.offset).run P w=.ok (sJ G s u [j]) w:=by
  rw[e1];cases u with
  |agg ys=>
   simp[T.single]at g5;simp only[vals,T.size]at e4 g6 ⊢
   simp[part,jP g3,g5,sizeOf,typeInfo,h3,sJ]
   grind
  |tup ys=>grind
  |_=>
   simp[T.single]at g5;simp[part,jP g3,g5,sJ,vals,←e3]
 simp[execOp,wI k1,mkV,Instr.field,run_underlying h1,h2,asAgg,a8]
theorem zEw{α:Type}{t e:TypeId}{ti:TypeInfo}{k:Nat}{u:T}{n:Nat}{a:Int}{f:α→T}{z:α}(ht:ElT P t e ti k u)(hz:f z=u)(hn:xF a=i7 n)(hx:opT E x=i7 (I a))(hy:opT E y=i7 (I a))(sd:J5 d Γ.N=i9):
  Ok P Γ ⟨i7 d,.makeSlice t x y,ty,ps,af,gd⟩ E (E.app [(d,i7 (L k f (J1 n z)))] [(d,0)]):=by
 have:=zVZ (P:=P) (Γ:=Γ) (E:=E) (d:=d) (ty:=ty) (ps:=ps) (af:=af) (gd:=gd) ht hn hx hn hy (Ji _) sd;rw[←hz]at this;simpa[L]using this
theorem zIF{t e:TypeId}{ti:TypeInfo}{k:Nat}{u:T}(ht:ElT P t e ti k u)(sd:J5 d Γ.N=i9):Ok P Γ ⟨i7 d,.buildSlice t 0 #[],ty,ps,af,gd⟩ E (E.app [(d,i7 (.sl k []))] [(d,0)]):=
 fun _=>zGB t e ti k rfl rfl (yJ sd) ht.un ht.info
theorem zKO(t:TypeId)(x y:Value):Op.equal t x y=Op.equalIn (9999+1) t x y:=rfl
theorem zGl{P:Program}{w:World}{t:TypeId}{k:IntKind}{a b:Int}(n:Nat)(h:P.underlying t=i7 (.int k)):(Op.equalIn (n+1) t (.int k a) (.int k b)).run P w=.ok (a==b) w:=by simp only[Op.equalIn,Sem.run_bind,run_underlying h];simp
end
end Go.Ab

namespace Go.Ab
open Go
def zB8:List Nat→Bool
 | []=>i9
 |x::xs=> !xs.contains x&&zB8 xs
theorem zFp:{l:List Nat}→zB8 l=i9→l.Nodup
 | [],_=>by simp
 |x::xs,h=>by simp only[zB8,J3,Gp,H9,decide_eq_false_iff_not]at h;exact L8.2 ⟨h.1,zFp h.2⟩
def zB9(E:Env):List yS→Prop
 | []=>True
 |.slot s t::l=>(E s=i7 t∧yD t∧t.okTup=i9)∧zB9 E l
 |.zero u::l=>u.zOk=i9∧zB9 E l
theorem zB9.get{E:Env}:(l:List yS)→zB9 E l→(∀s t,yS.slot s t∈l→E s=i7 t∧yD t∧t.okTup=i9)∧ ∀u,yS.zero u∈l→u.zOk=i9
 | [],_=>by simp
 |.slot s t::l,h=>by
  obtain⟨h1,h2⟩:=zB9.get l h.2;exact⟨fun s' t' hm=>by
   rcases J8.1 hm with e|hm
   ·cases e;exact h.1
   ·exact h1 s' t' hm,fun u hm=>by
   rcases J8.1 hm with e|hm
   ·cases e
   ·exact h2 u hm⟩
 |.zero u::l,h=>by
  obtain⟨h1,h2⟩:=zB9.get l h.2;exact⟨fun s' t' hm=>by
   rcases J8.1 hm with e|hm
   ·cases e
   ·exact h1 s' t' hm,fun u' hm=>by
   rcases J8.1 hm with e|hm
   ·cases e;exact h.1
   ·exact h2 u' hm⟩
section
variable {E:Env}
theorem pkN:zB9 E []:=trivial
theorem pkS{s:Nat}{t:T}{l:List yS}(h:E s=i7 t)(hc:yD t)(h3:t.okTup=i9)(hl:zB9 E l):zB9 E (.slot s t::l):=⟨⟨h,hc,h3⟩,hl⟩
theorem pkZ{u:T}{l:List yS}(h:u.zOk=i9)(hl:zB9 E l):zB9 E (.zero u::l):=⟨h,hl⟩
theorem zB9.parts{d:Nat}{l:List yS}(h:zB9 E l)(hn:zB8 (d::xR l)=i9):tK E d l:=⟨(zB9.get l h).1,(zB9.get l h).2,zFp hn⟩
def zDk(E:Env)(zs:List T)(ps:List yS):List (Nat×Operand)→List (Nat×yS)→Prop
 | [],[]=>True
 |x::xs,q::qs=>(x.1=q.1∧kP E x.2 q.2∧ps[q.1]? =i7 q.2∧ ∃u,zs[q.1]? =i7 u∧u.size=q.2.tree.size)∧zDk E zs ps xs qs
 |_,_=>False
theorem bqN{zs:List T}{ps:List yS}:zDk E zs ps [] []:=trivial
theorem bqC{zs:List T}{ps:List yS}{i:Nat}{x:Operand}{q:yS}{xs:List (Nat×Operand)}{qs:List (Nat×yS)}(h:kP E x q)(hl:zDk E zs ps xs qs)(h1:ps[i]? =i7 q:=by rfl)(h2:∃u,zs[i]? =i7 u∧u.size=q.tree.size:=by exact⟨_,rfl,rfl⟩):zDk E zs ps ((i,x)::xs) ((i,q)::qs):=⟨⟨rfl,h,h1,h2⟩,hl⟩
theorem zDk.ix{zs:List T}{ps:List yS}:(pl:List (Nat×Operand))→(qs:List (Nat×yS))→zDk E zs ps pl qs→pl.map (·.1)=qs.map (·.1)
 | [],[],_=>rfl
 |x::xs,q::qs,h=>by simp[h.1.1,zDk.ix xs qs h.2]
 | [],_::_,h=>by grind[zDk]
 |_::_,[],h=>by grind[zDk]
theorem zDk.get{zs:List T}{ps:List yS}:(pl:List (Nat×Operand))→(qs:List (Nat×yS))→zDk E zs ps pl qs→ ∀(j:Nat)(x:Nat×Operand)(q:Nat×yS),pl[j]? =i7 x→qs[j]? =i7 q→kP E x.2 q.2∧q.2∈ps∧ ∃u,zs[q.1]? =i7 u∧u.size=q.2.tree.size
 | [],[],_,j,_,_,h,_=>by simp at h
 |x::xs,q::qs,h,j,x',q',h1,h2=>by
  cases j with
  |zero=>simp at h1 h2;subst h1;subst h2;exact⟨h.1.2.1,Lr h.1.2.2.1,h.1.2.2.2⟩
  |succ j=>exact zDk.get xs qs h.2 j x' q' (by grind) (by grind)
 | [],_::_,h,_,_,_,_,_=>by grind
 |_::_,[],h,_,_,_,_,_=>by grind
end
class zGZ (P:Program) (t:TypeId) (zs:outParam (List T)):Prop where
 h:∃(place:Nat→Option (Nat×Nat))(z:Value),(∀parts,P.built t parts=Instr.fill place z.cells parts)∧qC zs=z.cells.toList∧zAh zs=i9∧ ∀i u,zs[i]? =i7 u→place i=i7 (T.sizes (zs.take i),u.size)
section
variable {P:Program}{Γ:Ctx}{E E':Env}{d:Nat}{x y:Operand}{ty:TypeId}{ps:String}{af:Array Edge}{gd:Option (Nat×Bool)}
theorem zAk{t:TypeId}{zs:List T}{pa:Array (Nat×Operand)}(hb:zGZ P t zs)(pl:List (Nat×Operand))(qs:List (Nat×yS))(pp:List yS)(gB:zB9 E pp)(hq:zDk E zs pp pl qs)(sd:(J5 d Γ.N&&zB8 (d::xR pp))=i9)
  (fI:pa=pl.toArray:=by rfl)(gT:qs.foldl (fun ps q=>ps.set q.1 q.2) (zs.map yS.zero)=pp:=by rfl):Ok P Γ ⟨i7 d,.build t pa,ty,ps,af,gd⟩ E (E.app ((d,i7 (.agg (pp.map yS.tree)))::pWr d pp 0) ((d,0)::sL pp)):=by
 obtain⟨place,z,h1,h2,h3,h4⟩:=hb.h;simp only[J3]at sd;subst fI;exact fun S=>zQ7 t place z zs pl qs pp rfl rfl (yJ sd.1) h1 h2 h3 h4 gT (gB.parts sd.2) (zDk.ix _ _ hq) (zDk.get _ _ hq)
def zKP(k:Nat):List yS→Bool
 | []=>i9
 |p::l=>(p.tree.size==k)&&zKP k l
theorem zKQ{k:Nat}:(l:List yS)→zKP k l=i9→ ∀p∈l,p.tree.size=k
 | [],_,_,h=>by simp at h
 |p::l,h,q,hm=>by
  simp only[zKP,J3,beq_iff_eq]at h;rcases J8.1 hm with rfl|hm
  ·exact h.1
  ·exact zKQ l h.2 q hm
theorem zDl{α:Type}{t e:TypeId}{ti:TypeInfo}{k n:Nat}{u:T}{pa:Array (Nat×Operand)}(ht:ElT P t e ti k u)(xs:List Operand)(pp:List yS)(ys:List α)(f:α→T)(hx:uE E xs pp)(gB:zB9 E pp)
  (sd:(J5 d Γ.N&&zB8 (d::xR pp)&&zKP k pp&&J5 0 n&&Nat.ble (n*k) 65536)=i9)(hn:xs.length=n)(fI:pa=((xs.zipIdx 0).map fun x=>(x.2,x.1)).toArray:=by rfl)(hy:pp.map yS.tree=ys.map f:=by rfl):
  Ok P Γ ⟨i7 d,.buildSlice t n pa,ty,ps,af,gd⟩ E (E.app ((d,i7 (L k f ys))::pWr d pp 0) ((d,0)::sL pp)):=by
 obtain⟨z,hz,_⟩:=ht.zero;simp only[J3]at sd;subst fI;intro S;have cO:n*k≤65536:=by grind[Nat.ble_eq]
 have:=zIf (P:=P) (Γ:=Γ.at S) (E:=E) (o:=⟨i7 d,.buildSlice t n ((xs.zipIdx 0).map fun x=>(x.2,x.1)).toArray,ty,ps,af,gd⟩) t e ti z k n xs pp rfl rfl (yJ sd.1.1.1.1) ht.un ht.info hz ht.size ht.pos hn (yJ sd.1.2) (by omega) hx (gB.parts sd.1.1.1.2) (zKQ pp sd.1.1.2)
 grind
theorem zKR{α:Type}{f g:α→T}(h:∀y,roT (g y)=f y):(ys:List α)→roT.roTs (ys.map g)=ys.map f
 | []=>rfl
 |y::ys=>by simp only[Jo,roT.roTs,h y,zKR h ys]
theorem zDI{α:Type}{t e:TypeId}{ti:TypeInfo}{k r:Nat}{q:List Nat}{u:T}{f g:α→T}{xs ys zs:List α}{s0:Nat}(ht:ElT P t e ti k u)(aA:∀y,roT (g y)=f y)(gw:∀y,(g y).size=k)(hg:Enc g)(hv:xW xs ys=i7 zs)(h0:E s0=i7 (L k f xs))(h1:tF E y=i7 (r,q,.ro (L k g ys)))(sd:(J5 d Γ.N&&(s0 != d))=i9):
  Ok P Γ ⟨i7 d,.call { callee:=.builtin .append,args:=#[.tmp s0,y],argTypes:=#[t,t] },ty,ps,af,gd⟩ E (E.app [(d,i7 (L k f zs)),(s0,i7 .any)] [(d,0),(s0,1)]):=by
 obtain⟨rfl,hl⟩:=zFk hv;obtain⟨z,hz,fe⟩:=ht.zsize;simp only[J3]at sd;intro S;have:=zJy (P:=P) (Γ:=Γ.at S) (E:=E) (o:=⟨i7 d,.call { callee:=.builtin .append,args:=#[.tmp s0,y],argTypes:=#[t,t] },ty,ps,af,gd⟩) t e ti z k s0 y r q (xs.map f) (ys.map g) rfl rfl (yJ sd.1) ht.un ht.info hz ht.size ht.pos fe ht.bytes h0 h1 (zGV hg.rook ys)
  (by simp_all) (by grind) (by grind)
 rw[zKR aA,←L7]at this;exact this
def uI{α:Type}(xs:List α)(m:Int)(z:α):Option (List α):=if 0≤m∧xs.length+m.toNat≤68719476736 then i7 (xs++J1 m.toNat z)else i8
theorem zWd{α:Type}{t t2 e:TypeId}{k2:IntKind}{ti:TypeInfo}{k:Nat}{u:T}{f:α→T}{z:α}{xs zs:List α}{s0:Nat}{m:Int}(ht:ElT P t e ti k u)(tg:P.underlying t2=i7 (.int k2))(hz:f z=u)(hv:uI xs m z=i7 zs)(h0:E s0=i7 (L k f xs))(h1:opT E y=i7 (I m))(sd:(J5 d Γ.N&&(s0 != d))=i9):
  Ok P Γ ⟨i7 d,.call { callee:=.builtin .append,args:=#[.tmp s0,y],argTypes:=#[t,t2] },ty,ps,af,gd⟩ E (E.app [(d,i7 (L k f zs)),(s0,i7 .any)] [(d,0),(s0,1)]):=by
 unfold uI at hv;split at hv
 ·rename_i hc
  simp at hv;subst hv;obtain⟨zv,mp,eJ⟩:=ht.zero;simp only[J3]at sd;obtain⟨n,rfl⟩:∃n:Nat,m=n:=⟨m.toNat,by omega⟩;intro S;have:=zGK (P:=P) (Γ:=Γ.at S) (E:=E) (o:=⟨i7 d,.call { callee:=.builtin .append,args:=#[.tmp s0,y],argTypes:=#[t,t2] },ty,ps,af,gd⟩) t t2 e k2 ti zv u k s0 y .i64 n (xs.map f) rfl rfl (yJ sd.1) ht.un tg ht.info mp ht.size ht.pos ht.bytes ht.zok eJ ht.us h0 h1
   (by grind) (by grind)
  have e:xs.map f++J1 n u=(xs++J1 n z).map f:=by simp[hz]
  rw[e]at this;have h2:((n:Int)).toNat=n:=by simp
  rw[h2];exact this
 ·cases hv
end
section
variable {Γ:Ctx}{E:Env}
theorem zM.trq(d r:Nat)(q:List Nat){tr u tr':T}(hd:E d=i7 (.same r q))(hr:E r=i7 tr)(hg:tr.get q.reverse=i7 u)(eV:yD u)(sd:(u.single&&xU tr&&tr.okB [(d,1),(r,q.length+1)]&&(d != r))=i9)(gu:(if q=[]then .same d []else tr.set q.reverse .any)=tr':=by rfl):
  zM Γ E (E.app [(d,i7 u),(r,i7 tr')] [(d,1),(r,q.length+1)]):=by
 simp only[J3]at sd
 rintro a w ⟨S,hS,hs⟩
 have gf:d≠r:=by grind
 have:=zM7 hs d [] r q (.same r q) tr u hd rfl hr hg sd.1.1.1 eV gf (by grind[T.okB,kY]) sd.1.2 rfl sd.1.1.2;subst gu;exact⟨S,hS,this⟩
theorem zM.trf(d:Nat)(g:List Nat)(r:Nat)(q:List Nat)(td tr:T){u td' tr':T}(hd:E d=i7 td)(pT:td.get g.reverse=i7 (.same r q))(hr:E r=i7 tr)(hg:tr.get q.reverse=i7 u)(gu:td.set g.reverse u=td')(eV:yD u)
  (sd:(u.single&&xU td&&xU tr&&td.okB [(d,g.length+1),(r,q.length+1)]&&tr.okB [(d,g.length+1),(r,q.length+1)]&&(d != r))=i9)(eL:(if q=[]then .same d g else tr.set q.reverse .any)=tr':=by rfl):
  zM Γ E (E.app [(d,i7 td'),(r,i7 tr')] [(d,g.length+1),(r,q.length+1)]):=by
 simp only[J3]at sd
 rintro a w ⟨S,hS,hs⟩
 have gf:d≠r:=by grind
 have:=zM7 hs d g r q td tr u hd pT hr hg sd.1.1.1.1.1 eV gf sd.1.1.2 sd.1.2 sd.1.1.1.1.2 sd.1.1.1.2;subst gu eL;exact⟨S,hS,this⟩
theorem zM.frz{α:Type}(s:Nat){k:Nat}{f g:α→T}(xs:List α)(hs:E s=i7 (L k f xs))(h:uP f g):zM Γ E (E.app [(s,i7 (.ro (L k g xs)))] [(s,1)]):=by have:=zM.freeze (Γ:=Γ) s _ hs;simp only[vS,strip,sT h.h xs]at this;exact this
theorem zM.res(d r:Nat)(q:List Nat)(tr:T){u:T}(hd:E d=i7 (.same r q))(hr:E r=i7 tr)(hg:tr.get q.reverse=i7 (.ro u)):zM Γ E (E.app [(d,i7 (.ro u))] []):=by
 rintro a w ⟨S,hS,gO,G,g9⟩
 refine⟨S,hS,gO,G,?_⟩;have hk:qR [] G w G w:=⟨fun _ _ _=>rfl,fun _ _ _=>rfl,by simp,fun _ _ _ h _=>h,fun b cs e h=>⟨cs,h,rfl⟩⟩;refine vF g9 rfl hk g9.mem (by simp) fun s t hs=>?_
 simp only[Wr.find]at hs;split at hs
 ·rename_i e;subst e
  simp at hs;subst hs;obtain⟨h1,h2,_⟩:=g9.ent d _ hd;obtain⟨_,h4,_⟩:=g9.ent r _ hr;simp only[R]at h2;have h5:=(zA9 q.reverse tr _ [] h4 hg).1;simp only[rp,Ki,Je,R]at h5;exact⟨by rw[h1];rfl,by grind[R],by simp[Top]⟩
 ·cases hs
end
theorem zJ6:(p:List Nat)→ ∀(t u0 a:T),t.get p=i7 u0→(t.set p a).get p=i7 a
 | [],t,_,a,_=>by rfl
 |i::p,t,u0,a,h=>by
  cases t with
  |sl k xs|agg xs|tup xs=>
   simp only[T.get,T.set]at h ⊢
   cases hx:xs[i]? with
   |none=>grind
   |some x=>
    rw[hx]at h;have hi:=(Jn.1 hx).1;simp only[];simp only[T.get,Qu hi];exact zJ6 p x u0 a h
  |ptr t=>
   simp only[T.get,T.set]at h ⊢
   split at h
   ·rename_i e;subst e;simp only[if_true,T.get];exact zJ6 p t u0 a h
   ·cases h
  |_=>grind[T.get]
theorem set_set:(p:List Nat)→ ∀(t u0 a b:T),t.get p=i7 u0→(t.set p a).set p b=t.set p b
 | [],t,_,a,_,_=>by rfl
 |i::p,t,u0,a,b,h=>by
  cases t with
  |sl k xs|agg xs|tup xs=>
   simp only[T.get,T.set]at h ⊢
   cases hx:xs[i]? with
   |none=>grind
   |some x=>
    rw[hx]at h;have hi:=(Jn.1 hx).1;simp only[];simp only[T.set,Qu hi,List.set_set,set_set p x u0 a b h]
  |ptr t=>
   simp only[T.get,T.set]at h ⊢
   split at h
   ·rename_i e;subst e;simp only[if_true,T.set,set_set p t u0 a b h]
   ·cases h
  |_=>rfl
def zAU:T→Bool
 |.sl _ _|.ptr _=>i9
 |_=>ia
theorem zQX{t:T}(h:zAU t=i9)(p:List Nat){u:T}(hp:p≠[]):zAU (t.set p u)=i9:=by
 cases p with
 |nil=>simp_all
 |cons i p=>cases t<;>simp[zAU]at h<;>simp only[T.set]<;>split<;>rfl
theorem uY{t:T}(h:zAU t=i9)(chg:Chg):t.okB chg=i9∧xU t=i9∧t.single=i9:=by cases t<;>simp[zAU]at h<;>simp[T.okB,xU,T.single]
section
variable {P:Program}{Γ:Ctx}{E E':Env}{d:Nat}{ty:TypeId}{ps:String}{af:Array Edge}{gd:Option (Nat×Bool)}
theorem agM{E:Env}{rw:Rw}{i:Nat}{x:Operand}{u:T}(t:T)(h:opT E x=i7 t)(h1:clo E t=u)(h2:zI4 E (rw.map (·.2.1)) x t=i9):zBU E rw i x u:=.inr ⟨t,h,h1,h2⟩
theorem zDJ{E:Env}{rw:Rw}{i s:Nat}{u u':T}(h:E s=i7 u)(hc:yD u)(hr:vG u=i9)(hs:u.okTup=i9:=by rfl)(hm:(i,s,u')∈rw:=by exact List.mem_singleton.2 rfl):zBU E rw i (.tmp s) u:=.inl ⟨s,u',rfl,hm,h,hc,hs,hr⟩
abbrev vV(E:Env)(ds r:Nat)(q:List Nat)(tr u:T):Env:=E.app [(ds,i7 u),(r,i7 (if q=[]then .same ds []else tr.set q.reverse .any))] [(ds,1),(r,q.length+1)]
theorem zCU{f:FuncId}{xs:List Operand}{ats:Array TypeId}{us res:List T}{tr u u' tr':T}(i ds r:Nat)(q:List Nat)(gr:zAT P f)(hc:FnC P f us res [(i,u')])(hs:E ds=i7 (.same r q))(hr:E r=i7 tr)(hq:tr.get q.reverse=i7 u)
  (eV:yD u)(eG:yD u')(_:vG u=i9)(pN:vG u'=i9)(gc:xZ (vV E ds r q tr u) [(i,ds,u')] 0 xs us)(gk:kZ res)(gu:tr.set q.reverse u'=tr')
  (sd:(J5 d Γ.N&&(d != ds)&&(d != r)&&(ds != r)&&zAU u&&zAU u'&&zAU tr)=i9)(hx:xs[i]? =i7 (.tmp ds))(hu:us[i]? =i7 u):
  Ok P Γ ⟨i7 d,.call { callee:=.value (.func f),args:=xs.toArray,argTypes:=ats },ty,ps,af,gd⟩ E ((((vV E ds r q tr u).app (cWr d res [(i,ds,u')]) (uK d [(i,ds,u')]))).app [(r,i7 tr'),(ds,i7 (.same r q))] [(r,q.length+1),(ds,1)]):=by
 simp only[J3]at sd;obtain⟨⟨⟨⟨⟨⟨s1,s2⟩,s3⟩,s4⟩,s5⟩,s6⟩,s7⟩:=sd;have d1:d≠ds:=by grind
 have d2:d≠r:=by grind
 have d3:ds≠r:=by grind
 obtain⟨u1,u2,u3⟩:=uY s5 [];obtain⟨v1,v2,v3⟩:=uY s6 [];have bF:cLv u'=1:=by simp[cLv,v3]
 subst gu;intro S
 by_cases tz:q=[]
 ·subst tz
  have htu:tr=u:=by
   have:tr.get []=i7 tr:=by rfl
   grind
  subst htu;have tk:∀a b:T,a.set [] b=b:=fun a b=>by rfl
  have bp:(vV E ds r [] tr tr) ds=i7 tr:=by simp[vV,Env.app,Wr.find]
  have pC:((vV E ds r [] tr tr).app (cWr d res [(i,ds,u')]) (uK d [(i,ds,u')])) r=i7 (.same ds []):=by
   have h1:(vV E ds r [] tr tr) r=i7 (.same ds []):=by simp[vV,Env.app,Wr.find,d3]
   have h2:(cWr d res [(i,ds,u')]).find r=i8:=by grind[cWr,Wr.find]
   have h3:(T.same ds []).okB (uK d [(i,ds,u')])=i9:=by grind[T.okB,kY,uK]
   simp only[Env.app,h2,h1,h3,if_true]
  have pD:((vV E ds r [] tr tr).app (cWr d res [(i,ds,u')]) (uK d [(i,ds,u')])) ds=i7 u':=by grind[Env.app,Wr.find,cWr]
  have:=zKG (P:=P) (Γ:=Γ.at S) (E:=E) (o:=⟨i7 d,.call { callee:=.value (.func f),args:=xs.toArray,argTypes:=ats },ty,ps,af,gd⟩) f (.func f) xs ats us res i ds r [] tr tr u' rfl rfl (yJ s1) gr rfl hs hr hq u3 eV d3 d2 (uY s7 _).1 (uY s7 []).2.1
   (vV E ds r [] tr tr) _ rfl rfl hc gc (.one d1 hx eG v3 pN bp u3 hu) gk (.same ds []) (.same ds []) pC rfl rfl pD eG v3 (by simp[T.okB,kY]) rfl (uY s6 _).1 v2
  grind
 ·have dL:q.reverse≠[]:=by simp_all
  have bp:(vV E ds r q tr u) ds=i7 u:=by simp[vV,Env.app,Wr.find]
  have hSP:=zQX s7 q.reverse (u:=.any) dL;have pC:((vV E ds r q tr u).app (cWr d res [(i,ds,u')]) (uK d [(i,ds,u')])) r=i7 (tr.set q.reverse .any):=by
   have h1:(vV E ds r q tr u) r=i7 (tr.set q.reverse .any):=by simp[vV,Env.app,Wr.find,d3,tz]
   grind[cWr,Wr.find,Env.app,uY]
  have pD:((vV E ds r q tr u).app (cWr d res [(i,ds,u')]) (uK d [(i,ds,u')])) ds=i7 u':=by grind[Env.app,Wr.find,cWr]
  have:=zKG (P:=P) (Γ:=Γ.at S) (E:=E) (o:=⟨i7 d,.call { callee:=.value (.func f),args:=xs.toArray,argTypes:=ats },ty,ps,af,gd⟩) f (.func f) xs ats us res i ds r q tr u u' rfl rfl (yJ s1) gr rfl hs hr hq u3 eV d3 d2 (uY s7 _).1 (uY s7 []).2.1
   (vV E ds r q tr u) _ rfl rfl hc gc (.one d1 hx eG v3 pN bp u3 hu) gk (tr.set q.reverse .any) .any pC (zJ6 _ _ _ _ hq) rfl pD eG v3 (uY hSP _).1 (uY hSP []).2.1 (uY s6 _).1 v2
  grind[set_set]
theorem zGm{f:FuncId}{xs:List Operand}{ats:Array TypeId}{us res:List T}{xf:Operand}(hf:opT E xf=i7 (.lit (.func (.func f) #[] #[])))(gr:zAT P f)(hc:FnC P f us res [])(gc:xZ E [] 0 xs us)(gk:kZ res)(sd:J5 d Γ.N=i9):
  Ok P Γ ⟨i7 d,.call { callee:=.value xf,args:=xs.toArray,argTypes:=ats },ty,ps,af,gd⟩ E (E.app (cWr d res []) (uK d [])):=
 fun _=>zJ1 f xf xs ats us res [] rfl rfl (yJ sd) gr hf hc gc .nil gk
def zDm(E:Env):List Operand→List T→Prop
 | [],[]=>True
 |x::xs,u::us=>(opT E x=i7 u∧u.flat=i9)∧zDm E xs us
 |_,_=>False
theorem afN:zDm E [] []:=trivial
theorem afC{x:Operand}{xs:List Operand}{u:T}{us:List T}(h:opT E x=i7 u)(h1:u.flat=i9)(h2:zDm E xs us):zDm E (x::xs) (u::us):=⟨⟨h,h1⟩,h2⟩
theorem zDm.get:(xs:List Operand)→(us:List T)→zDm E xs us→ ∀(i:Nat) u,us[i]? =i7 u→ ∃x,xs[i]? =i7 x∧opT E x=i7 u∧u.flat=i9
 | [],[],_,i,u,h=>by simp at h
 |x::xs,v::us,h,i,u,hi=>by
  cases i with
  |zero=>simp at hi;subst hi;exact⟨x,by simp,h.1⟩
  |succ i=>obtain⟨y,h1,h2⟩:=zDm.get xs us h.2 i u (by grind);grind
 | [],_::_,h,_,_,_=>by grind[zDm]
 |_::_,[],h,_,_,_=>by grind
theorem jA{f:FuncId}{xs:List Operand}{ats:Array TypeId}{us res:List T}(gr:zAT P f)(hc:FnC P f us res [])(ha:zDm E xs us)(gj:xs.length=us.length)(gk:xQ res)(ek:yR res=i9)(sd:J5 d Γ.N=i9):
  Ok P Γ ⟨i7 d,.call { callee:=.value (.func f),args:=xs.toArray,argTypes:=ats },ty,ps,af,gd⟩ E (E.app (cWr d res []) (uK d [])):=
 by grind[zTS,zDm.get]
end
noncomputable def zDz {α:Type} (g:Nat→Option α):Option α:=
 open Classical in if h:∃r,∃n,∀m,n≤m→g m=i7 r then i7 h.choose else i8
theorem jV{α:Type}{g:Nat→Option α}{r:α}(h:zDz g=i7 r):∃n,g n=i7 r:=by
 unfold zDz at h;split at h
 ·rename_i he
  simp at h;obtain⟨n,hn⟩:=he.choose_spec;exact⟨n,by simp_all⟩
 ·cases h
theorem zBm{α:Type}{g:Nat→Option α}{r:α}(n:Nat)(h:∀m,n≤m→g m=i7 r):zDz g=i7 r:=by
 have he:∃r,∃n,∀m,n≤m→g m=i7 r:=⟨r,n,h⟩;unfold zDz;rw[dif_pos he];obtain⟨n',hn'⟩:=he.choose_spec;have h1:=h (max n n') (by omega)
 grind
end Go.Ab

namespace Go.Ab
open Go
section
variable {P:Program}{Γ:Ctx}{ops:Array Oper}{o:Oper}{E:Env}
theorem zW.skipW{d:Nat}(hd:o.dst=i7 d)(sd:J5 d Γ.N=i9)(hw:∀(a:Act)(w:World),qY Γ E a w→Region.wanted o (yielded ops a.tmps)=ia):zW P Γ ops o E (E.app [(d,i7 (.tup []))] [(d,0)]):=by
 intro a w K Q hs hK;rw[if_neg (by simp[hw a w hs])];obtain⟨S,hS,gO,G,g9⟩:=hs;refine hK _ _ ⟨S,hS,by rw[hd];exact gO,G.put d (fun _=>.bool ia),?_⟩ ?_
 ·rw[hd]
  have hu:(Value.bool ia).oneCell'=i9:=rfl;refine vF g9 (by simp[Act.put]) (G.put_keep rfl d _) (g9.mem.put rfl d _ fun _=>hu) ?_ ?_
  ·intro s hs
   rw[tQ]at hs;split at hs
   ·cases hs
   ·rename_i gf
    refine⟨fun n hn=>gf (by simp at hn;exact hn.1.symm),?_⟩;simp[Act.put,Hm gf]
  ·intro s t' hs
   rw[tQ]at hs;split at hs
   ·rename_i e;subst e
    simp at hs;subst hs;have gw:=g9.size;have gD:=yJ sd;refine⟨?_,by simp[R,RF],by simp[Top,vM]⟩;have:d<a.tmps.size:=by rw[gw];exact gD
    simp[Act.put,mkV,jH,undef,this]
   ·cases hs
 ·intro s hs
  rw[hd]at hs ⊢
  have:d≠s:=fun e=>hs (by rw[e])
  simp[Act.put,Hm this]
theorem zW.skip2{d:Nat}(g:Nat)(b b':Bool)(s:Nat)(hd:o.dst=i7 d)(sd:J5 d Γ.N=i9)(cR:(b==b')=ia)(hg:o.guard=i7 (g,b))(gn:(ops[g]?).bind (·.dst)=i7 s)(hb:E s=i7 (.lit (.bool b'))):
  zW P Γ ops o E (E.app [(d,i7 (.tup []))] [(d,0)]):=.skipW hd sd fun a w hs=>by
 simp only[Region.wanted,hg,zGO hs gn hb];cases b<;>cases b'<;>simp_all
theorem zW.skip3{d:Nat}(g:Nat)(b:Bool)(s:Nat)(hd:o.dst=i7 d)(sd:J5 d Γ.N=i9)(hg:o.guard=i7 (g,b))(gn:(ops[g]?).bind (·.dst)=i7 s)(hb:E s=i7 (.tup [])):
  zW P Γ ops o E (E.app [(d,i7 (.tup []))] [(d,0)]):=.skipW hd sd fun a w hs=>by
 obtain⟨_,_,_,G,hr⟩:=hs;obtain⟨h1,_,_⟩:=hr.ent s _ hb;simp only[Region.wanted,hg,yielded,gn,Option.bind_some,h1,mkV,jH];rfl
theorem zW.opE{E1 E':Env}(h:Ok P Γ o E E1)(e:E1=E')(hg:o.guard=i8:=by rfl):zW P Γ ops o E E':=e▸zW.op h hg
theorem zW.guardE{E1 E':Env}(g:Nat)(b:Bool)(s:Nat)(h:Ok P Γ o E E1)(hg:o.guard=i7 (g,b))(gn:(ops[g]?).bind (·.dst)=i7 s)(hb:E s=i7 (.lit (.bool b)))(e:E1=E'):zW P Γ ops o E E':=e▸zW.guard g b s h hg gn hb
end
def uX(Γ:Ctx)(P:Program)(rs:Array ResultVar)(us res:List T)(rws:List (Nat×T)):Exit→Env→Prop:=fun e E=> ∃E',zM Γ E E'∧zX7 P rs us res rws e E'
theorem FnC.of_bodyG{P:Program}{f:FuncId}{fn:Func}{c:Code}{us res:List T}{rws:List (Nat×T)}(hf:P.funcs[f]? =i7 fn)(hb:fn.body=i7 c)(hn:us.length≤fn.ntmps)(ht:vM us)(hr:rws.all (fun x=>decide (x.1<us.length))=i9)
  (h:∀(Γ:Ctx)(v:Nat→Value),Γ.N=fn.ntmps→CW P Γ (zCl v (rws.map (·.1))) c (yU (zIh 0 us)) (uX Γ P fn.results us res rws)):FnC P f us res rws:=by
 refine FnC.of_body hf hb hn ht hr fun Γ v hN=>?_
 intro a w Q' hs hp hQ;refine h Γ v hN a w Q' hs hp ?_
 rintro e E a' w' ⟨E',hg,hq⟩ gI cK
 exact hQ e E' a' w' hq (hg a' w' gI) cK
def zTU(t:T):Prop:=yD t∧vG t=i9∧strip t=t∧t.okTup=i9∧zFc t=i9
def zQY:List T→Prop
 | []=>True
 |x::xs=>zTU x∧zQY xs
theorem Enc.t{α:Type}{f:α→T}(h:Enc f)(x:α):zTU (f x):=⟨h.clean x,h.rofree x,h.strip x,h.okTup x,h.rook x⟩
theorem Enc.of{α:Type}{f:α→T}(h:∀x,zTU (f x)):Enc f:=⟨fun x=>(h x).1,fun x=>(h x).2.1,fun x=>(h x).2.2.1,fun x=>(h x).2.2.2.1,fun x=>(h x).2.2.2.2⟩
theorem zME{xs:List T}(h:zQY xs):zTU (.agg xs):=by
 have key:∀xs:List T,zQY xs→xQ xs∧uF xs=i9∧wW xs=xs∧yR xs=i9∧zBh xs=i9:=by
  intro xs
  induction xs with
  |nil=>intro _;exact⟨trivial,rfl,rfl,rfl,rfl⟩
  |cons x xs ih=>
   rintro⟨⟨h1,h2,h3,h4,h5⟩,h⟩
   obtain⟨g1,g2,g3,g4,g5⟩:=ih h;exact⟨⟨h1,g1⟩,by simp only[uF,h2,g2,Ks],by simp only[wW,h3,g3],by simp only[yR,h4,g4,Ks],by simp only[zBh,h5,g5,Ks]⟩
 obtain⟨g1,g2,g3,g4,g5⟩:=key xs h;exact⟨yK g1,by simp only[vG,g2],by simp only[strip,g3],by simp only[T.okTup,g4],by simp only[zFc,g5]⟩
end Go.Ab

namespace Go.Ab
open Go
section
variable {Γ:Ctx}{E:Env}{d:Nat}
def Gh.cut(G:Gh)(d s0 b lo hi:Nat)(v:Value):Gh where
 hd s z:=if s=d then(if z=[]then v else G.hd s0 z)else G.hd s z
 ad s z:=if s=d then G.ad s0 z else G.ad s z
 lb b' o:=if b'=b∧lo≤o∧o<hi then i7 (i9,d,[])else match G.lb b' o with
  |some (f,s,z)=>if s=s0 then i7 (f,d,z)else i7 (f,s,z)
  |none=>i8
 ow b':=match G.ow b' with
  |some (s,z)=>if s=s0 then i7 (d,z)else i7 (s,z)
  |none=>i8
theorem zNZ{G:Gh}{tmps:Array Value}{w:World}(g9:Rep Γ E G tmps w)(hd:d<Γ.N){s0 k h cap':Nat}{xs:List T}(ew:E s0=i7 (.sl k xs))(gf:s0≠d)(hk:0<k)
  {b cap:Nat}{cs:Array Value}{e:TypeId}(h1:G.hd s0 []=.slice (i7 ⟨b,0,i8⟩) xs.length cap)(h2:w.heap[b]? =i7 (.cells cs e (0,0)))(_h3:xs.length≤cap)(h4:cap≤maxLen)(h5:cap*k≤cs.size)(h6:G.ow b=i7 (s0,[]))
  (h7:∀o,xs.length*k≤o→o<cap*k→G.lb b o=i7 (i9,s0,[]))(h8:RL Γ.St G w s0 xs [] 0 b 0 k)(hh:h≤xs.length)(hc:h≤cap')(fa:cap'≤cap):
  ∃G',Rep Γ (E.app [(d,i7 (.sl k (xs.take h))),(s0,i7 .any)] [(d,0),(s0,1)]) G' (tmps.setIfInBounds d (.slice (i7 ⟨b,0,i8⟩) h cap')) w:=by
 have hm:=g9.mem;obtain⟨e1,_,e3⟩:=g9.ent s0 _ ew
 let v:Value:=.slice (i7 ⟨b,0,i8⟩) h cap'
 let G':=G.cut d s0 b (h*k) (cap'*k) v
 have gJ:=hm.ow b _ h6;have hgone:∀o f z i,h*k≤o→o<cap'*k→G.lb b o=i7 (f,s0,z++[i])→h≤i:=by
  intro o f z i ho1 ho2 hl
  by_cases ho:o<xs.length*k
  ·have hj:o/k<xs.length:=(Q6 hk).2 ho
   obtain⟨g1,g2,_⟩:=jN xs [] 0 b 0 k (o/k) xs[o/k] h8 (by simp[hj]);obtain⟨y,hy⟩:=zJr xs[o/k] _ b _ (o%k) g1 (by rw[g2];exact Ul _ hk);rw[Jb,Jb,Gx,U7,hl]at hy;simp only[Lq.injEq,Jaj.injEq]at hy;have:=hy.2.2;have hi:i=o/k:=by simp_all
   rw[hi];exact(Nat.le_div_iff_mul_le hk).2 ho1
  ·have:=h7 o (by omega) (by have:=Kd k fa;omega)
   simp_all
 have glb:∀b' o f z,G.lb b' o=i7 (f,s0,z)→ ¬(b'=b∧h*k≤o∧o<cap'*k)→G'.lb b' o=i7 (f,d,z):=fun b' o f z hl hn=>by
  show(if _ then _ else _)=_
  grind
 have gow:∀b' z,G.ow b'=i7 (s0,z)→G'.ow b'=i7 (d,z):=by grind[Gh.cut]
 have mv:∀i,i<h→zIw G w G' w s0 [i] d [i]:=fun i hi=>by
  have hn:∀b' o f z,G.lb b' o=i7 (f,s0,z++[i])→ ¬(b'=b∧h*k≤o∧o<cap'*k):=by grind
  refine⟨⟨fun z=>by simp[G',Gh.cut],by grind[Gh.cut],by grind,by grind,fun b' cs' e' hb=>⟨cs',hb,rfl⟩⟩,fun b' o _ hl=>⟨glb _ _ _ _ hl (hn b' o i9 [] (by grind)),rfl⟩,by grind⟩
 have gv:qR [(d,0),(s0,1)] G w G' w:=by
  refine⟨fun s p ho=>?_,fun s p ho=>?_,fun b' o f s p hH hl hs=>?_,fun b' s p hl hs=>?_,fun b' cs' e' hb=>⟨cs',hb,rfl⟩⟩
  ·have:s≠d:=fun e=>absurd (ho 0 (by simp[e])) (by simp)
   grind[Gh.cut]
  ·have:s≠d:=fun e=>absurd (ho 0 (by simp[e])) (by simp)
   grind[Gh.cut]
  ·have cH:s≠s0:=by grind
   obtain⟨y,hy⟩:=hH;have cR:b'≠b:=by grind
   refine⟨?_,rfl⟩;show(if _ then _ else _)=_
   grind
  grind[Gh.cut]
 have gp:Mem Γ G' w:=by
  refine⟨fun s z=>?_,fun b' o l hl=>?_,fun b' l hl=>?_,hm.st,hm.fr,hm.sz,hm.bk⟩
  ·show(if _ then _ else _:Value).oneCell'=i9
   split
   ·split
    ·rfl
    ·exact hm.one _ _
   ·exact hm.one _ _
  ·change(if _ then _ else _)=_ at hl
   split at hl
   ·grind
   ·cases hg:G.lb b' o with
    |none=>grind
    |some x=>exact hm.lb b' o x hg
  ·cases hg:G.ow b' with
   |none=>grind[Gh.cut]
   |some x=>exact hm.ow b' x hg
 refine⟨G',vF g9 (by simp) gv gp ?_ ?_⟩
 ·intro s hs
  have dZ:s≠d:=by rintro rfl;grind[Wr.find]
  have ae:s≠s0:=by rintro rfl;grind[Wr.find]
  grind
 ·intro s t' hs
  by_cases cH:s=d
  ·subst cH
   simp[Wr.find]at hs;subst hs;have gj:(xs.take h).length=h:=by simp;omega
   simp only[Top]at e3;have hkc:∀ys:List T,xQ ys→ ∀n,xQ (ys.take n):=by
    intro ys
    induction ys with
    |nil=>simp
    |cons y ys ih=>intro hy n;cases n with
     |zero=>simp[xQ,xX]
     |succ n=>exact⟨hy.1,ih hy.2 n⟩
   refine⟨?_,?_,by simp only[Top];grind⟩
   ·rw[Jl]
    simp[g9.size,hd,mkV,G',Gh.cut,v]
   ·simp only[R]
    refine .inr ⟨b,cap',cs,e,by grind[Gh.cut],h2,by omega,by omega,by have:=Kd k fa;omega,gow b _ h6,fun o ho1 ho2=>?_,?_⟩
    ·rw[gj]at ho1
     show(if _ then _ else _)=_
     grind
    ·refine zJt _ [] 0 b 0 fun i x hx=>?_
     rw[Jcc]at hx;split at hx
     ·rename_i hi
      obtain⟨g1,g2,g3⟩:=jN xs [] 0 b 0 k i x h8 hx;rw[Jb]at g1 g3 ⊢
      refine⟨?_,g2,zAe (mv i hi) x (xC.mono (by simp) _ (uL xs e3 i x hx)) g3⟩;refine zGF x [i] [i] b _ (fun z=>by simp[G',Gh.cut]) (by grind[Gh.cut]) (fun b' o z hl=>⟨glb _ _ _ _ hl ?_,rfl⟩) g1
      grind
     ·cases hx
  ·have h9:s=s0∧t'=.any:=by
    simp only[Wr.find]at hs
    grind
   obtain⟨rfl,rfl⟩:=h9;refine⟨?_,by simp only[R],by simp[Top]⟩;rw[Jl];simp only[Ne.symm cH,if_false,mkV];rw[e1,xN rfl]
   grind[Gh.cut]
theorem zQZ{G:Gh}{tmps:Array Value}{w:World}(g9:Rep Γ E G tmps w)(hd:d<Γ.N){s0 k:Nat}(ew:E s0=i7 (.sl k []))(gf:s0≠d)(a:Option Addr):
  ∃G',Rep Γ (E.app [(d,i7 (.sl k [])),(s0,i7 .any)] [(d,0),(s0,1)]) G' (tmps.setIfInBounds d (.slice a 0 0)) w:=by
 obtain⟨e1,_,_⟩:=g9.ent s0 _ ew;refine⟨G.put d (fun _=>.slice a 0 0),?_⟩;have hk:qR [(d,0),(s0,1)] G w (G.put d fun _=>.slice a 0 0) w:=by have h0:=G.put_keep (w:=w) (w':=w) rfl d (fun _=>.slice a 0 0);refine⟨fun s p ho=>h0.hd s p (fun n hn=>ho n (by grind)),fun s p ho=>rfl,fun b o f s p h1 h2 h3=>h0.lb b o f s p h1 h2 (by grind),fun b s p h1 h3=>h0.ow b s p h1 (by grind),h0.blk⟩
 refine vF g9 (by simp) hk (g9.mem.put rfl d _ (fun _=>rfl)) ?_ ?_
 ·intro s hs
  have dZ:s≠d:=by rintro rfl;grind[Wr.find]
  have ae:s≠s0:=by rintro rfl;grind[Wr.find]
  grind
 ·intro s t' hs
  by_cases cH:s=d
  ·subst cH
   simp[Wr.find]at hs;subst hs;refine⟨by rw[Jl];simp[g9.size,hd,mkV,Gh.put],by simp only[R];exact .inl ⟨trivial,a,by simp[Gh.put]⟩,by omega⟩
  ·have h9:s=s0∧t'=.any:=by
    simp only[Wr.find]at hs
    grind
   obtain⟨rfl,rfl⟩:=h9;refine⟨?_,by simp only[R],by simp[Top]⟩;rw[Jl];simp only[Ne.symm cH,if_false,mkV];rw[e1,xN rfl]
   grind[Gh.put]
end
section
variable {P:Program}{Γ:Ctx}{pn:jS}{E E':Env}{Q:Exit→Env→Prop}{d:Nat}{x y:Operand}{ty:TypeId}{ps:String}{af:Array Edge}{gd:Option (Nat×Bool)}
theorem zVn{α:Type}{t e:TypeId}{ti:TypeInfo}{s0 k:Nat}{f:α→T}{xs ys:List α}{mx:Option Operand}{h:Int}{u:T}(ht:ElT P t e ti k u)(hv:yB xs 0 h=i7 ys)(h0:E s0=i7 (L k f xs))(hy:opT E y=i7 (I h))(hmx:mx=i8∨ ∃z,mx=i7 z∧opT E z=i7 (I h))(sd:(J5 d Γ.N&&(s0 != d))=i9):
  Ok P Γ ⟨i7 d,.slice t (.tmp s0) i8 (i7 y) mx,ty,ps,af,gd⟩ E (E.app [(d,i7 (L k f ys)),(s0,i7 .any)] [(d,0),(s0,1)]):=by
 obtain⟨_,bN,cO,rfl⟩:=sN hv;simp only[J3]at sd;have gf:s0≠d:=by grind
 obtain⟨n,rfl⟩:∃n:Nat,h=n:=⟨h.toNat,by omega⟩;have hn:n≤xs.length:=by omega
 intro S;refine wL.value rfl fun a w G g9=>?_
 obtain⟨e1,e2,_⟩:=g9.ent s0 _ h0;have ff:=(wN g9 hy).1;have bI:a.eval (.tmp s0)=G.hd s0 []:=by rw[wI e1,xN rfl]
 have pM:=ht.un;have gU:=ht.info;have gw:=ht.size;have ah:List.map f ((xs.drop (0:Int).toNat).take ((n:Int).toNat-(0:Int).toNat))=(xs.map f).take n:=by simp
 rw[show L k f ((xs.drop (0:Int).toNat).take ((n:Int).toNat-(0:Int).toNat))=.sl k ((xs.map f).take n)by simp];have e2':=e2;simp only[R]at e2;rcases e2 with⟨hnil,ad,h1⟩|⟨b,cap,cs,e',h1,h2,h3,h4,h5,h6,h7,h8⟩
 ·have fw:xs=[]:=by simp_all
  subst fw;simp at hn;subst hn;obtain⟨G',gm⟩:=zQZ g9 (yJ sd.1) (k:=k) (by grind) gf ad;refine⟨_,w,?_,G',by simpa using gm⟩;rcases hmx with rfl|⟨z,rfl,hz⟩
  ·simp[execOp,Instr.sliceAt,Instr.slice,run_underlying pM,bI,h1,ff,sizeOf,typeInfo,gU,Instr.sliceBounds,Instr.sliceBound,asIntOf]
  ·have mp:=(wN g9 hz).1
   simp[execOp,Instr.sliceAt,Instr.slice,run_underlying pM,bI,h1,ff,mp,sizeOf,typeInfo,gU,Instr.sliceBounds,Instr.sliceBound,asIntOf]
 ·rw[Jh]at h1 h3
  have cM:n≤cap:=by omega
  have cE:cap=0→n=0:=by omega
  rcases hmx with rfl|⟨z,rfl,hz⟩
  ·obtain⟨G',gm⟩:=zNZ g9 (yJ sd.1) h0 gf ht.pos (by grind) h2 (by grind) h4 h5 h6 h7 h8 (h:=n) (cap':=cap) (by grind) cM (Ji _)
   refine⟨_,w,?_,G',gm⟩;simp[execOp,Instr.sliceAt,Instr.slice,run_underlying pM,bI,h1,ff,sizeOf,typeInfo,gU,Instr.sliceBounds,Instr.sliceBound,asIntOf,cM,uM]
  ·have mp:=(wN g9 hz).1
   obtain⟨G',gm⟩:=zNZ g9 (yJ sd.1) h0 gf ht.pos (by grind) h2 (by grind) h4 h5 h6 h7 h8 (h:=n) (cap':=n) (by grind) (Ji _) cM;refine⟨_,w,?_,G',gm⟩;simp[execOp,Instr.sliceAt,Instr.slice,run_underlying pM,bI,h1,ff,mp,sizeOf,typeInfo,gU,Instr.sliceBounds,Instr.sliceBound,asIntOf,cM,uM]
end
end Go.Ab

namespace Go.Ab
open Go
section
variable {P:Program}{Γ:Ctx}{pn:jS}{E E':Env}{Q:Exit→Env→Prop}{d:Nat}{x y:Operand}{ty:TypeId}{ps:String}{af:Array Edge}{gd:Option (Nat×Bool)}{ops:Array Oper}{os:List Oper}
theorem zPk{P:Program}{w:World}{t e:TypeId}{a:Option Addr}{n c:Nat}(m:Nat)(h:P.underlying t=i7 (.slice e)):(Op.equalIn (m+1) t (.slice a n c) (.slice i8 0 0)).run P w=.ok a.isNone w:=by simp only[Op.equalIn,Sem.run_bind,run_underlying h];cases a<;>rfl
theorem RW.isnil{α:Type}{xt yt e:TypeId}{r k:Nat}{q:List Nat}{f:α→T}{xs:List α}{u:T}(hu:P.underlying xt=i7 (.slice e))(hx:tF E x=i7 (r,q,u))(pF:u=.ro (L k f xs)∨u=L k f xs)(sd:J5 d Γ.N=i9)(hp:pn.ok (i7 d)=i9)
  (h:∀b,(b=i9→xs=[])→RW P Γ pn ops os (E.app [(d,i7 (B b))] [(d,0)]) Q):RW P Γ pn ops (⟨i7 d,.binOp .eql xt x (.const (.slice i8 0 0)) yt,ty,ps,af,i8⟩::os) E Q:=by
 intro a w Q' hs fI hQ;obtain⟨S,hS,gO,G,g9⟩:=id hs;have fL:u.single=i9:=by rcases pF with rfl|rfl<;>rfl
 obtain⟨h1,h2⟩:=qZ g9 hx fL;obtain⟨ad,n,c,h3,h4⟩:∃ad n c,a.eval x=.slice ad n c∧(ad.isNone=i9→xs=[]):=by
  rcases pF with rfl|rfl
  ·obtain⟨ad,c,g1,_,_,g2⟩:=zCM h1
   refine⟨ad,_,c,by rw[h2,g1],fun hn=>?_⟩;apply Classical.byContradiction;intro gf;obtain⟨b,o',_,_,_,rfl,_⟩:=g2 (by simpa using gf);simp at hn
  ·simp only[R]at h1
   rcases h1 with⟨g1,ad,g2⟩|⟨b,cap,cs,e',g1,_⟩
   ·exact⟨ad,0,0,by rw[h2,g2],fun _=>by simpa using g1⟩
   ·exact⟨_,_,_,by rw[h2,g1],fun hn=>by simp at hn⟩
 have gx:(execOp a.eval ⟨i7 d,.binOp .eql xt x (.const (.slice i8 0 0)) yt,ty,ps,af,i8⟩).run P w=.ok (.value (.bool ad.isNone)) w:=by have h5:(Op.equalIn 10000 xt (.slice ad n c) (.slice i8 0 0)).run P w=.ok ad.isNone w:=zPk 9999 hu;have h6:a.eval (.const (.slice i8 0 0))=.slice i8 0 0:=rfl;simp[execOp,h3,h6,eqGuard,binOp,zKO,h5]
 simp only[wpL,Region.wanted,if_true];refine .inl ?_;unfold Oper.wp;rw[gx,Oper.upon_value];have fE:=vK g9 rfl (yJ sd) (fun _=>.bool ad.isNone) (fun _=>rfl) (B ad.isNone) (.bool ad.isNone) (by simp[mkV,Gh.put]) (by simp[R,Gh.put]) (by simp[Top]);refine h ad.isNone h4 _ w Q' ⟨S,hS,gO,_,fE⟩ ?_ hQ;refine fI.frame hp fun s gI=>?_
 have:d≠s:=fun e=>gI (by rw[e])
 simp[Act.put,Hm this]
theorem zKS{t e:TypeId}(hu:P.underlying t=i7 (.slice e))(hx:opT E x=i7 (.lit (.slice i8 0 0)))(sd:J5 d Γ.N=i9):Ok P Γ ⟨i7 d,.call { callee:=.builtin .len,args:=#[x],argTypes:=#[t] },ty,ps,af,gd⟩ E (E.app [(d,i7 (I 0))] [(d,0)]):=by
 intro S;refine zAN (.int .i64 0) rfl rfl (yJ sd) fun a w G g9=>?_
 have h1:=(wN g9 hx).1;simp[execOp,resolve,invoke,builtin,h1,Builtin.len_,run_underlying hu,goInt]
theorem zKT{t e:TypeId}(hu:P.underlying t=i7 (.slice e))(hx:opT E x=i7 (.lit (.slice i8 0 0)))(sd:J5 d Γ.N=i9):Ok P Γ ⟨i7 d,.call { callee:=.builtin .cap,args:=#[x],argTypes:=#[t] },ty,ps,af,gd⟩ E (E.app [(d,i7 (I 0))] [(d,0)]):=by
 intro S;refine zAN (.int .i64 0) rfl rfl (yJ sd) fun a w G g9=>?_
 have h1:=(wN g9 hx).1;simp[execOp,resolve,invoke,builtin,h1,Builtin.cap_,run_underlying hu,goInt]
theorem zTV{t e:TypeId}{ti:TypeInfo}{u:T}{k:Nat}(ht:ElT P t e ti k u)(hx:opT E x=i7 (.lit (.slice i8 0 0)))(hy:opT E y=i7 (I 0))(sd:J5 d Γ.N=i9):Ok P Γ ⟨i7 d,.slice t x i8 (i7 y) i8,ty,ps,af,gd⟩ E (E.app [(d,i7 (.sl k []))] [(d,0)]):=by
 intro S;refine wL.value rfl fun a w G g9=>?_
 have h1:=(wN g9 hx).1;have h2:=(wN g9 hy).1;refine⟨.slice i8 0 0,w,?_,_,vK g9 rfl (yJ sd) (fun _=>.slice i8 0 0) (fun _=>rfl) (.sl k []) (.slice i8 0 0) (by simp[mkV,Gh.put]) (by simp[R,Gh.put]) (by simp[Top,xQ,xX])⟩;simp[execOp,Instr.sliceAt,Instr.slice,run_underlying ht.un,h1,h2,sizeOf,typeInfo,ht.info,Instr.sliceBounds,Instr.sliceBound,asIntOf]
theorem zM.nil(s k:Nat)(hs:E s=i7 (.lit (.slice i8 0 0))):zM Γ E (E.app [(s,i7 (.sl k []))] [(s,0)]):=by
 rintro a w ⟨S,hS,gO,G,g9⟩
 refine⟨S,hS,gO,G,?_⟩;have hk:qR [(s,0)] G w G w:=⟨fun _ _ _=>rfl,fun _ _ _=>rfl,fun _ _ _ _ _ _ h _=>⟨h,rfl⟩,fun _ _ _ h _=>h,fun b cs e h=>⟨cs,h,rfl⟩⟩;refine vF g9 rfl hk g9.mem (fun s' gI=>⟨fun n hn=>?_,rfl⟩) fun s' t gI=>?_
 ·simp at hn
  simp[Wr.find,hn.1]at gI
 ·simp only[Wr.find]at gI
  split at gI
  ·rename_i e;subst e
   simp at gI;subst gI;obtain⟨h1,h2,_⟩:=g9.ent s _ hs;simp only[R]at h2;exact⟨by rw[h1];rfl,by simp only[R];exact .inl ⟨trivial,i8,h2⟩,by simp[Top,xQ,xX]⟩
  ·cases gI
theorem zJ7{src dst:TypeId}{ds:TypeDesc}{k k':IntKind}{n:Int}(hs:P.underlying src=i7 ds)(ht:P.underlying dst=i7 (.int k'))(hx:opT E x=i7 (IK k n))(sd:J5 d Γ.N=i9):
  Ok P Γ ⟨i7 d,.convert src dst x,ty,ps,af,gd⟩ E (E.app [(d,i7 (IK k' (k'.wrap n)))] [(d,0)]):=fun _=>zTD src dst ds x k k' n rfl rfl (yJ sd) hs ht hx
theorem zWe{k:IntKind}{m n:Int}{xt yt:TypeId}(hx:opT E x=i7 (IK k m))(hy:opT E y=i7 (IK k n))(sd:J5 d Γ.N=i9):Ok P Γ ⟨i7 d,.binOp .add xt x y yt,ty,ps,af,gd⟩ E (E.app [(d,i7 (IK k (k.wrap (m+n))))] [(d,0)]):=
 fun _=>sA .add xt yt x y k m n _ rfl rfl (yJ sd) hx hy rfl
theorem zWf{k:IntKind}{m n:Int}{xt yt:TypeId}(hx:opT E x=i7 (IK k m))(hy:opT E y=i7 (IK k n))(sd:J5 d Γ.N=i9):Ok P Γ ⟨i7 d,.binOp .mul xt x y yt,ty,ps,af,gd⟩ E (E.app [(d,i7 (IK k (k.wrap (m*n))))] [(d,0)]):=
 fun _=>sA .mul xt yt x y k m n _ rfl rfl (yJ sd) hx hy rfl
theorem zRa{k:IntKind}{m n:Int}{xt yt:TypeId}(hx:opT E x=i7 (IK k m))(hy:opT E y=i7 (IK k n))(sd:J5 d Γ.N=i9):Ok P Γ ⟨i7 d,.binOp .gtr xt x y yt,ty,ps,af,gd⟩ E (E.app [(d,i7 (B (decide (m> n))))] [(d,0)]):=
 fun _=>sA .gtr xt yt x y k m n _ rfl rfl (yJ sd) hx hy rfl
def zGd(k:IntKind)(m n:Int):Int:=k.wrap ((BitVec.ofInt k.bits m &&& BitVec.ofInt k.bits n).toNat:Int)
theorem zWg{k:IntKind}{m n:Int}{xt yt:TypeId}(hx:opT E x=i7 (IK k m))(hy:opT E y=i7 (IK k n))(sd:J5 d Γ.N=i9):Ok P Γ ⟨i7 d,.binOp .and xt x y yt,ty,ps,af,gd⟩ E (E.app [(d,i7 (IK k (zGd k m n)))] [(d,0)]):=by
 intro S;refine zAN (.int k (zGd k m n)) rfl rfl (yJ sd) fun a w G g9=>?_
 have h1:=(wN g9 hx).1;have h2:=(wN g9 hy).1;simp[execOp,h1,h2,eqGuard,binOp,Op.intBits,zGd]
theorem zWh{k k':IntKind}{m n:Int}{xt yt:TypeId}(hn:0≤n)(hx:opT E x=i7 (IK k m))(hy:opT E y=i7 (IK k' n))(sd:J5 d Γ.N=i9):Ok P Γ ⟨i7 d,.binOp .shr xt x y yt,ty,ps,af,gd⟩ E (E.app [(d,i7 (IK k (m.fdiv (2 ^ (min n.toNat k.bits)))))] [(d,0)]):=by
 intro S;refine zAN (.int k (m.fdiv (2 ^ (min n.toNat k.bits)))) rfl rfl (yJ sd) fun a w G g9=>?_
 have h1:=(wN g9 hx).1;have h2:=(wN g9 hy).1;have h3:¬n<0:=by omega
 simp[execOp,h1,h2,eqGuard,binOp,Op.shift,h3]
end
end Go.Ab

namespace Go.Ab
open Go
structure zRb (P:Program) (f:Field) (i:Nat):Prop where
 name:f.name≠ "_"
 off:f.offset=i
 ty:P.underlying f.type=i7 (.int .i64)
class zTW (P:Program) (t:TypeId):Prop where
 h:∃f0 f1 f2 f3:Field,P.underlying t=i7 (.struct #[f0,f1,f2,f3])∧zRb P f0 0∧zRb P f1 1∧zRb P f2 2∧zRb P f3 3
 st:P.stoodInHeld t=ia
 gd:P.eqGuardType P.depth t=ia
theorem zEx{P:Program}{w:World}{f:Field}{i:Nat}(h:zRb P f i)(cs:Array Value)(v:Value)(hv:cs[i]? =i7 v):(part f.type cs f.offset).run P w=.ok v w:=by simp[part,jP h.ty,zEW,h.off,hv]
theorem zRc{P:Program}{w:World}{t:TypeId}(h:zTW P t)(a b c d a' b' c' d':Int)(m:Nat):
  (Op.equalIn (m+2) t (.agg #[.int .i64 a,.int .i64 b,.int .i64 c,.int .i64 d]) (.agg #[.int .i64 a',.int .i64 b',.int .i64 c',.int .i64 d'])).run P w=.ok (a==a'&&(b==b'&&(c==c'&&d==d'))) w:=by
 obtain⟨f0,f1,f2,f3,h1,g0,g1,g2,g3⟩:=h.h;have k0:=fun(x y:Int)=>zGl (P:=P) (w:=w) (a:=x) (b:=y) m g0.ty
 have k1:=fun(x y:Int)=>zGl (P:=P) (w:=w) (a:=x) (b:=y) m g1.ty
 have k2:=fun(x y:Int)=>zGl (P:=P) (w:=w) (a:=x) (b:=y) m g2.ty
 have k3:=fun(x y:Int)=>zGl (P:=P) (w:=w) (a:=x) (b:=y) m g3.ty
 have gA:=h.st;rw[Op.equalIn];simp only[Sem.run_bind,run_underlying h1];have q0:=fun(a b c d:Int)=>zEx (w:=w) g0 #[.int .i64 a,.int .i64 b,.int .i64 c,.int .i64 d] (.int .i64 a) rfl
 have q1:=fun(a b c d:Int)=>zEx (w:=w) g1 #[.int .i64 a,.int .i64 b,.int .i64 c,.int .i64 d] (.int .i64 b) rfl
 have q2:=fun(a b c d:Int)=>zEx (w:=w) g2 #[.int .i64 a,.int .i64 b,.int .i64 c,.int .i64 d] (.int .i64 c) rfl
 have q3:=fun(a b c d:Int)=>zEx (w:=w) g3 #[.int .i64 a,.int .i64 b,.int .i64 c,.int .i64 d] (.int .i64 d) rfl
 by_cases e0:a=a'<;>by_cases e1:b=b'<;>by_cases e2:c=c'<;>by_cases e3:d=d'<;>
  simp[gA,g0.name,g1.name,g2.name,g3.name,q0,q1,q2,q3,k0,k1,k2,k3,e0,e1,e2,e3]
section
variable {P:Program}{Γ:Ctx}{E E':Env}{d:Nat}{x y:Operand}{ty:TypeId}{ps:String}{af:Array Edge}{gd:Option (Nat×Bool)}
theorem zWi{t t':TypeId}{s s':Nat}{a b c e a' b' c' e':Int}(h:zTW P t)(hx:E s=i7 (.agg [I a,I b,I c,I e]))(hy:E s'=i7 (.agg [I a',I b',I c',I e']))(sd:J5 d Γ.N=i9):
  Ok P Γ ⟨i7 d,.binOp .eql t (.tmp s) (.tmp s') t',ty,ps,af,gd⟩ E (E.app [(d,i7 (B (a==a'&&(b==b'&&(c==c'&&e==e')))))] [(d,0)]):=by
 intro S;refine zAN _ rfl rfl (yJ sd) fun A w G g9=>?_
 obtain⟨h1,h2,_⟩:=g9.ent s _ hx;obtain⟨h3,h4,_⟩:=g9.ent s' _ hy;simp only[R,RF]at h2 h4;have e1:A.eval (.tmp s)=.agg #[.int .i64 a,.int .i64 b,.int .i64 c,.int .i64 e]:=by rw[wI h1];simp[mkV,yI,vals,h2]
 have e2:A.eval (.tmp s')=.agg #[.int .i64 a',.int .i64 b',.int .i64 c',.int .i64 e']:=by rw[wI h3];simp[mkV,yI,vals,h4]
 have h5:(Op.equalIn 10000 t (.agg #[.int .i64 a,.int .i64 b,.int .i64 c,.int .i64 e]) (.agg #[.int .i64 a',.int .i64 b',.int .i64 c',.int .i64 e'])).run P w=_:=zRc (w:=w) h a b c e a' b' c' e' 9998;have hg:=h.gd;simp[execOp,e1,e2,eqGuard,binOp,zKO,h5,hg]
end
end Go.Ab

namespace Go.Ab
open Go
abbrev vI(n:Int):Value:=.int .i64 n
section
variable {Γ:Ctx}{E:Env}
theorem zKU{G:Gh}{tmps:Array Value}{w w':World}(g9:Rep Γ E G tmps w){s0:Nat}{xs us:List Int}(ew:E s0=i7 (L 1 I xs))(gj:us.length=xs.length)
  {b cap:Nat}{cs cs':Array Value}{e:TypeId}(h1:G.hd s0 []=.slice (i7 ⟨b,0,i8⟩) xs.length cap)(h2:w.heap[b]? =i7 (.cells cs e (0,0)))(h3:xs.length≤cap)(h4:cap≤maxLen)(h5:cap*1≤cs.size)(h6:G.ow b=i7 (s0,[]))
  (h7:∀o,xs.length*1≤o→o<cap*1→G.lb b o=i7 (i9,s0,[]))(h8:RL Γ.St G w s0 (xs.map I) [] 0 b 0 1)
  (k1:w'.heap[b]? =i7 (.cells cs' e (0,0)))(k2:cs'.size=cs.size)(k3:∀b',b'≠b→w'.heap[b']? =w.heap[b']?)(k4:w'.heap.size=w.heap.size)(ko:w'.os=w.os)(kq:w'.output=w.output)(k5:∀(i:Nat) u,us[i]? =i7 u→cs'[i]? =i7 (vI u)):
  ∃G',Rep Γ (E.app [(s0,i7 (L 1 I us))] [(s0,1)]) G' tmps w':=by
 have hm:=g9.mem;obtain⟨e1,_,_⟩:=g9.ent s0 _ ew;have gJ:=hm.ow b _ h6
 let G':Gh:={ G with hd:=fun s z=>if s=s0 then(match z with
  | [i]=>(match us[i]? with
   |some u=>vI u
   |none=>G.hd s0 z)
  |_=>G.hd s0 z)else G.hd s z }
 have hB:Blk w w':=by
  intro b' cs2 e2 hb
  grind
 have gv:qR [(s0,1)] G w G' w':=by
  refine⟨fun s p ho=>?_,fun _ _ _=>rfl,fun b' o f s p hH hl hs=>⟨hl,?_⟩,fun _ _ _ hl _=>hl,hB⟩
  ·by_cases h:s=s0
   ·subst h
    have:p=[]:=Ll (by have:=ho 1 (by simp);omega)
    grind
   grind
  ·have cH:s≠s0:=by grind
   obtain⟨y,hy⟩:=hH;have cR:b'≠b:=by grind
   grind[yO,World.cell?]
 have gp:Mem Γ G' w':=by
  refine⟨fun s z=>?_,fun b' o l hl=>?_,fun b' l hl=>?_,fun b' x hx=>?_,fun b' h h'=>?_,by rw[k4];exact hm.sz,hm.bk.trans hB ko kq⟩
  ·show(if _ then _ else _:Value).oneCell'=i9
   split
   ·split
    ·split
     ·rfl
     ·exact hm.one _ _
    ·exact hm.one _ _
   ·exact hm.one _ _
  ·have:=hm.lb b' o l hl;exact⟨by rw[k4];exact this.1,this.2⟩
  ·have:=hm.ow b' l hl;exact⟨by rw[k4];exact this.1,this.2⟩
  ·have:b'≠b:=by rintro rfl;rw[gJ.2.2]at hx;cases hx
   rw[k3 b' this];exact hm.st b' x hx
  ·have:b'≠b:=by
    rintro rfl
    rcases gJ.2.1 with h0|h0
    all_goals grind
   rw[k3 b' this];exact hm.fr b' h h'
 refine⟨G',vF g9 rfl gv gp ?_ ?_⟩
 ·intro s hs
  rw[tQ]at hs
  grind
 ·intro s t' hs
  rw[tQ]at hs;split at hs
  ·rename_i he;subst he
   simp at hs;subst hs;refine⟨by grind[mkV],?_,by simp only[Top];exact zDH zNV us⟩;simp only[R];refine .inr ⟨b,cap,cs',e,by grind,k1,by grind,h4,by omega,h6,by grind,?_⟩;refine zJt _ [] 0 b 0 fun i x hx=>?_
   rw[K0,Kj]at hx;obtain⟨u,hu,rfl⟩:=hx;have hi:=(Jn.1 hu).1;obtain⟨g1,g2,_⟩:=jN _ [] 0 b 0 1 i (I xs[i]) h8 (by simp);simp only[Jb,Ub,Loc]at g1 ⊢
   refine⟨⟨g1.1,g1.2.1,?_⟩,rfl,by simp[R,G',hu]⟩
   grind[yO,World.cell?]
  ·cases hs
def zFN(P:Program)(Γ:Ctx)(E:Env)(y:Operand)(ys:List Int):Prop:=∀(a:Act)(w:World)(G:Gh),Rep Γ E G a.tmps w→ ∃xa c,a.eval y=.slice xa ys.length c∧
 ∀(n:Nat),n≤ys.length→(Builtin.firstCells 1 n (.slice xa ys.length c)).run P w=.ok ((ys.take n).map vI).toArray w
theorem zBX{P:Program}{w:World}{b o:Nat}{cs:Array Value}{e:TypeId}{fr:Nat×Nat}(hb:w.heap[b]? =i7 (.cells cs e fr))(ys:List Int)(hv:∀(i:Nat) u,ys[i]? =i7 u→cs[o+i]? =i7 (vI u))(n:Nat)(hn:n≤ys.length)(len cap:Nat):
  (Builtin.firstCells 1 n (.slice (i7 ⟨b,o,i8⟩) len cap)).run P w=.ok ((ys.take n).map vI).toArray w:=by
 refine run_firstCells_some (P:=P) w 1 n ⟨b,o,i8⟩ len cap _ (by simp;omega) fun j v hj=>?_
 rw[K0,Kj]at hj;obtain⟨u,hu,rfl⟩:=hj
 grind[uM,World.cell?]
theorem zCq{P:Program}{w:World}{a:Option Addr}{c:Nat}:(Builtin.firstCells 1 0 (.slice a 0 c)).run P w=.ok #[] w:=by cases a<;>simp[Builtin.firstCells,loadCells,loadCellsFrom]
theorem zFN.ro{P:Program}{y:Operand}{ys:List Int}{r:Nat}{q:List Nat}(h:tF E y=i7 (r,q,.ro (L 1 I ys))):zFN P Γ E y ys:=fun a w G g9=>by
 obtain⟨h1,h2⟩:=qZ g9 h rfl;obtain⟨xa,c,g1,_,_,g2⟩:=zCM h1;rw[Jh]at g1;refine⟨xa,c,by rw[h2,g1],fun n hn=>?_⟩
 by_cases hy:ys=[]
 ·grind[zCq]
 ·obtain⟨b,o,cs,e,fr,rfl,g3,g4⟩:=g2 (by grind)
  refine zBX (g9.mem.st b _ g3) ys (fun i u hu=>?_) n hn _ _;have:=zGi _ cs o 1 i (I u) g4 (by simp[hu]);simp only[RoC,Ub]at this
  grind
theorem zOa{G:Gh}{w:World}{s b:Nat}{q:List Nat}{cs:Array Value}{e:TypeId}{xs:List Int}{St:Stb}(h2:w.heap[b]? =i7 (.cells cs e (0,0)))(h8:RL St G w s (xs.map I) q 0 b 0 1)(i:Nat)(u:Int)(hu:xs[i]? =i7 u):cs[i]? =i7 (vI u):=by
 obtain⟨g1,_,g3⟩:=jN _ q 0 b 0 1 i (I u) h8 (by simp[hu]);simp only[Loc,R,Jb,Ub]at g1 g3
 grind[yO,World.cell?]
theorem zFN.sub{P:Program}{s r:Nat}{q:List Nat}{tr:T}{xs ys:List Int}{l h:Int}(hs:E s=i7 (.sub r q 1 l.toNat h.toNat))(hr:E r=i7 tr)(hg:tr.get q.reverse=i7 (L 1 I xs))(hv:yB xs l h=i7 ys):zFN P Γ E (.tmp s) ys:=fun a w G g9=>by
 obtain⟨k1,k2,k3,rfl⟩:=sN hv;obtain⟨e1,e2,_⟩:=g9.ent s _ hs;obtain⟨_,e4,_⟩:=g9.ent r _ hr;simp only[R]at e2;have h5:=(zA9 q.reverse tr _ [] e4 hg).1;simp only[rp,Ki,Je,R]at h5;have gj:((xs.drop l.toNat).take (h.toNat-l.toNat)).length=h.toNat-l.toNat:=by simp;omega
 rw[gj];have bI:a.eval (.tmp s)=G.hd s []:=by rw[wI e1,xN rfl]
 rcases h5 with⟨g1,ad,g2⟩|⟨b,cap,cs,e,g1,g2,g3,_,_,_,_,g8⟩
 ·have hy:xs=[]:=by simp_all
  grind[zAZ,zCq]
 ·rw[Jh]at g1 g3
  refine⟨if cap=l.toNat then i7 ⟨b,0,i8⟩else i7 ⟨b,l.toNat,i8⟩,cap-l.toNat,by rw[bI,e2,g1];simp only[zAZ,H0,uM,Jb,Ub],fun n hn=>?_⟩;split
  ·have:n=0:=by omega
   subst this;rfl
  ·refine zBX g2 _ (fun i u hu=>?_) n (by omega) _ _
   grind[zOa]
def zCr(Γ:Ctx)(E:Env)(x:Operand)(s0 lo hi:Nat):Prop:=∀(a:Act)(w:World)(G:Gh),Rep Γ E G a.tmps w→a.eval x=zAZ (G.hd s0 []) 1 lo hi
theorem zCr.slot{s0:Nat}{xs:List Int}(h:E s0=i7 (L 1 I xs)):zCr Γ E (.tmp s0) s0 0 xs.length:=fun a w G g9=>by obtain⟨e1,e2,_⟩:=g9.ent s0 _ h;obtain⟨ad,c,g⟩:=zJn e2;rw[Jh]at g;rw[wI e1,xN rfl,g];simp[zAZ];intro;cases ad<;>simp[Addr.add]
theorem zCr.same{s s0:Nat}{xs:List Int}(hs:E s=i7 (.same s0 []))(h:E s0=i7 (L 1 I xs)):zCr Γ E (.tmp s) s0 0 xs.length:=fun a w G g9=>by obtain⟨e1,e2,_⟩:=g9.ent s _ hs;have:=zCr.slot h a w G g9;obtain⟨e3,_,_⟩:=g9.ent s0 _ h;simp only[R]at e2;rw[wI e3,xN rfl]at this;rw[wI e1,xN rfl,e2];exact this
theorem zCr.sub{s s0 lo hi:Nat}(hs:E s=i7 (.sub s0 [] 1 lo hi)):zCr Γ E (.tmp s) s0 lo hi:=fun a w G g9=>by obtain⟨e1,e2,_⟩:=g9.ent s _ hs;simp only[R]at e2;rw[wI e1,xN rfl,e2]
end
theorem zPl{α:Type}{xs ys:List α}{l h:Int}(hv:yB xs l h=i7 ys):l.toNat≤h.toNat:=by have:=sN hv;omega
theorem zPm{α:Type}{xs ys:List α}{l h:Int}(hv:yB xs l h=i7 ys):h.toNat≤xs.length:=by have:=sN hv;omega
theorem zOb{α:Type}(l z:List α)(lo i:Nat)(ex:lo+z.length≤l.length):(l.take lo++z++l.drop (lo+z.length))[i]? =if i<lo then l[i]? else if i<lo+z.length then z[i-lo]? else l[i]?:=by
 have hm:min lo l.length=lo:=by omega
 grind
def wP(xs:List Int)(lo:Nat)(zs:List Int):List Int:=xs.take lo++zs++xs.drop (lo+zs.length)
theorem zJ8{P:Program}{Γ:Ctx}{E:Env}{d s0 lo hi:Nat}{x y:Operand}{ty:TypeId}{ps:String}{af:Array Edge}{gd:Option (Nat×Bool)}{t t2 e:TypeId}{ti:TypeInfo}{u:T}{xs ys:List Int}(ht:ElT P t e ti 1 u)(h0:E s0=i7 (L 1 I xs))(hx:∀S,zCr (Γ.at S) E x s0 lo hi)(hy:∀S,zFN P (Γ.at S) E y ys)(h1:lo≤hi)(h2:hi≤xs.length)(sd:(J5 d Γ.N&&(s0 != d))=i9):
  Ok P Γ ⟨i7 d,.call { callee:=.builtin .copy,args:=#[x,y],argTypes:=#[t,t2] },ty,ps,af,gd⟩ E ((E.app [(s0,i7 (L 1 I (wP xs lo (ys.take (hi-lo)))))] [(s0,1)]).app [(d,i7 (I ((min ys.length (hi-lo):Nat):Int)))] [(d,0)]):=by
 simp only[J3]at sd;have gf:s0≠d:=by grind
 intro S;refine wL.value rfl fun a w G g9=>?_
 obtain⟨e1,e2,_⟩:=g9.ent s0 _ h0;obtain⟨xa,c,g1,g2⟩:=hy S a w G g9;have g3:=hx S a w G g9;have eB:min ys.length (hi-lo)≤ys.length:=by omega
 have g4:=g2 _ eB;have eu:ys.take (hi-lo)=ys.take (min ys.length (hi-lo)):=by grind
 rw[eu]
 generalize hn:min ys.length (hi-lo)=n at*
 have mo:(ys.take n).length=n:=by simp;omega
 have gj:(wP xs lo (ys.take n)).length=xs.length:=by grind[wP]
 have key:∃w',(Builtin.copy_ #[t,t2] ty #[a.eval x,a.eval y]).run P w=.ok (goInt n) w'∧ ∃G',Rep (Γ.at S) (E.app [(s0,i7 (L 1 I (wP xs lo (ys.take n))))] [(s0,1)]) G' a.tmps w':=by
  have e2':=e2;simp only[R]at e2;rcases e2 with⟨k1,ad,k2⟩|⟨b,cap,cs,e',k1,k2,k3,k4,k5,k6,k7,k8⟩
  ·have fw:xs=[]:=by simp_all
   subst fw;simp at h2;subst h2;have ag:n=0:=by omega
   subst ag;have ex:lo=0:=by omega
   subst ex;refine⟨w,?_,G,?_⟩
   ·rw[g3,k2,g1]
    cases ad<;>cases xa<;>simp[zAZ,Builtin.copy_,run_underlying ht.un,Builtin.lenOf,sizeOf,typeInfo,ht.info,Builtin.firstCells,loadCells,loadCellsFrom,storeCells]
   ·refine vF g9 rfl ⟨fun _ _ _=>rfl,fun _ _ _=>rfl,by grind,fun _ _ _ h _=>h,fun b cs e h=>⟨cs,h,rfl⟩⟩ g9.mem (fun s hs=>⟨by grind[Wr.find],rfl⟩) fun s t' hs=>?_
    rw[tQ]at hs;split at hs
    ·rename_i he;subst he
     simp at hs;subst hs;simpa[wP]using g9.ent s0 _ h0
    ·cases hs
  ·rw[Jh]at k1 k3 k7
   have gw:cap≤cs.size:=by omega
   have gA:=run_storeCells_at P b lo e' ((ys.take n).map vI) 0 cs w k2 (by simp;omega) (by intro v hv;obtain⟨u,_,rfl⟩:=Jm.1 hv;rfl);simp only[Qd,Jh]at gA
   generalize eE:w.setRow b (cs.toList.take lo++(ys.take n).map vI++cs.toList.drop (lo+(ys.take n).length)).toArray=w' at gA
   have gE:cs.toList.length=cs.size:=rfl
   by_cases pY:cap=lo
   ·have ag:n=0:=by omega
    subst ag;refine⟨w,?_,G,?_⟩
    ·rw[g3,k1,g1]
     have g5:(Builtin.firstCells 1 0 (.slice xa ys.length c)).run P w=.ok #[] w:=by grind
     simp[zAZ,Builtin.copy_,run_underlying ht.un,Builtin.lenOf,sizeOf,typeInfo,ht.info,ht.size,show hi-lo=0 by omega,g5,storeCells,pY]
    ·refine vF g9 rfl ⟨fun _ _ _=>rfl,fun _ _ _=>rfl,by grind,fun _ _ _ h _=>h,fun b cs e h=>⟨cs,h,rfl⟩⟩ g9.mem (fun s hs=>⟨by grind[Wr.find],rfl⟩) fun s t' hs=>?_
     rw[tQ]at hs;split at hs
     ·rename_i he;subst he
      simp at hs;subst hs;simpa[wP]using g9.ent s0 _ h0
     ·cases hs
   ·refine⟨w',?_,zKU g9 h0 gj k1 k2 k3 k4 k5 k6 k7 k8 (by rw[←eE];exact setRow_heap w b cs _ e' _ k2) ?_ (by grind[setRow_other]) (by grind[size_setRow]) (by rw[←eE];rfl) (by rw[←eE];rfl) fun i v hv=>?_⟩
    ·rw[g3,k1,g1]
     have h9:Nat.min ys.length (hi-lo)=n:=hn;simp only[zAZ,pY,if_false,H0,uM,Jb,Ub];simp only[Builtin.copy_];rw[Jb9]at gA;simp[run_underlying ht.un,Builtin.lenOf,sizeOf,typeInfo,ht.info,ht.size,h9,g4,gA]
    ·grind
    ·rw[wP,zOb _ _ _ _ (by omega)]at hv
     have h11:lo+((ys.take n).map vI).length≤cs.toList.length:=by simp;omega
     have h10:=zOb cs.toList ((ys.take n).map vI) lo i h11;rw[Jh]at h10;rw[List.getElem?_toArray,h10];have pO:=fun i u hu=>zOa k2 k8 i u hu
     by_cases c1:i<lo
     ·grind
     ·rw[if_neg c1]at hv ⊢
      by_cases c2:i<lo+(ys.take n).length
      ·rw[if_pos c2]at hv ⊢
       rw[K0,hv];rfl
      grind
 obtain⟨w',gx,G',gm⟩:=key;refine⟨_,w',?_,_,vK gm rfl (yJ sd.1) (fun _=>vI n) (fun _=>rfl) (I n) (vI n) (by simp[mkV,Gh.put]) (by simp[R,Gh.put]) (by simp[Top])⟩;simp[execOp,resolve,invoke,builtin,gx,goInt]
end Go.Ab

namespace Go.Ab
open Go
theorem zIG{G G':Gh}{s d:Nat}(hd:∀z,G'.hd d z=G.hd s z):(xs:List T)→yR xs=i9→ ∀(j:Nat),jH G' d (cpF s xs [] j) [] j=jH G s xs [] j
 | [],_,_=>by simp only[cpF,jH]
 |x::xs,h,j=>by
  simp only[yR,J3]at h;simp only[cpF,jH];have ee:∀ys,x≠.tup ys:=by rintro ys rfl;simp[T.okTup]at h
  have h1:=zAu (G:=G) (G':=G') (s:=s) (d:=d) x [j] [j] ee (fun z=>hd _);have h2:∀ys,cpT s x [j]≠.tup ys:=by intro ys;cases x<;>simp[cpT]
  rw[kG _ _ _ _ h2]at h1;rw[h1,zIG hd xs h.2 (j+1)]
section
variable {P:Program}{Γ:Ctx}{E E':Env}{d:Nat}{x y:Operand}{ty:TypeId}{ps:String}{af:Array Edge}{gd:Option (Nat×Bool)}
theorem zVo{s:Nat}{ts:List T}(hx:E s=i7 (.tup ts))(sd:(J5 d Γ.N&&yR ts&&(s != d)&&zKr [(d,0)] (cpF s ts [] 0))=i9):Ok P Γ ⟨i7 d,.move (.tmp s),ty,ps,af,gd⟩ E (E.app [(d,i7 (.tup (cpF s ts [] 0)))] [(d,0)]):=by
 simp only[J3]at sd;obtain⟨⟨⟨s1,s2⟩,s3⟩,s4⟩:=sd;have gf:s≠d:=by simpa using s3
 intro S;refine wL.value rfl fun a w G g9=>?_
 obtain⟨h1,h2,_⟩:=g9.ent s _ hx;simp only[R]at h2;have hk:=G.put_keep (w:=w) (w':=w) rfl d (fun z=>G.hd s z);have hz:∀z,(G.put d (fun z=>G.hd s z)).hd d z=G.hd s z:=fun z=>by rw[Gh.put_self]
 have ta:∀(xs:List T)(j:Nat),vM (cpF s xs [] j):=by
  intro xs
  induction xs with
  |nil=>intro j;simp only[cpF,vM]
  |cons x xs ih=>intro j;simp only[cpF,vM];exact⟨qN s x _,ih _⟩
 refine⟨mkV G s (.tup ts) [],w,?_,_,vK g9 rfl (yJ s1) (fun z=>G.hd s z) (fun z=>g9.mem.one _ _) _ _ (by simp only[mkV];rw[zIG hz ts s2 0])
  (by simp only[R];exact zJl (fun p=>G.put_other _ p gf) ts [] [] 0 (fun z=>hz _) (xX.mono (fun r p hr=>⟨hk.hd r p hr,hk.ad r p hr⟩) _ (zG2 _ (ta ts 0) s4)) h2) (by simp only[Top];exact ta ts 0)⟩
 simp[execOp,wI h1]
end
end Go.Ab

namespace Go.Ab
open Go
end Go.Ab

namespace Go.Ab
open Go
section
variable {P:Program}{Γ:Ctx}{E:Env}{d:Nat}{x:Operand}{ty:TypeId}{ps:String}{af:Array Edge}{gd:Option (Nat×Bool)}
class zTX (P:Program) (t:TypeId) (e:outParam TypeId) (ti:outParam TypeInfo) (n:outParam Nat) (k:outParam Nat):Prop where
 un:P.underlying t=i7 (.array n e)
 info:P.info? e=i7 ti
 size:ti.size=k
theorem zOc{t e:TypeId}{ti:TypeInfo}{n k r:Nat}{q:List Nat}{xs:List T}{u:T}(i:Nat)(ht:zTX P t e ti n k)(hx:tF E x=i7 (r,q,.ptr (.agg xs)))(hu:xs[i]? =i7 u)(gF:T.sizes (xs.take i)=i*k)(sd:(J5 d Γ.N&&J5 i n)=i9):
  Ok P Γ ⟨i7 d,.indexAddr t x (.const (.int .i64 i)),ty,ps,af,gd⟩ E (E.app [(d,i7 (.addr r (i::0::q)))] [(d,0)]):=by
 simp only[J3]at sd;have gU:=yJ sd.2;intro S;refine wL.value rfl fun a w G g9=>?_
 obtain⟨g1,g2⟩:=qZ g9 hx rfl;simp only[R]at g1;obtain⟨b,cs,e',g4,_,_,_,g5,_⟩:=g1;simp only[Loc]at g5;have g6:=zCc xs (0::q) 0 b 0 i u g5.2 hu;simp only[Jb]at g6;have g3:a.eval (.const (.int .i64 i))=.int .i64 i:=rfl;refine⟨.pointer (i7 (G.ad r (i::0::q))),w,?_,_,vK g9 rfl (yJ sd.1) (fun _=>.pointer (i7 (G.ad r (i::0::q)))) (fun _=>rfl) _ _ (by simp[mkV,Gh.put]) (by simp[R,Gh.put]) (by simp[Top])⟩;have gD:(i:Int)<(n:Int):=by omega
 have h0:(0:Int)≤i:=by omega
 have g7:=zB1 g6;have b8:i<n:=gU;simp[execOp,Instr.indexAt,g3,g2,g4,asIntOf,run_underlying ht.un,h0,b8,sizeOf,typeInfo,ht.info,ht.size,uM,tV,g7,gF]
end
end Go.Ab
namespace Go.Ab
open Go
theorem zAE{E:Env}{ds r s:Nat}{q:List Nat}{tr u t:T}(h:E s=i7 t)(gf:(Jb6 ds s||Jb6 r s)=ia:=by rfl)(hb:t.okB [(ds,1),(r,q.length+1)]=i9:=by rfl):opT (vV E ds r q tr u) (.tmp s)=i7 t:=by
 have h1:ds≠s:=by rintro rfl;simp at gf
 have h2:r≠s:=by rintro rfl;simp at gf
 simp[opT,vV,Env.app,Wr.find,h1,h2,h,hb]
end Go.Ab
namespace Go.Ab
open Go
section
variable {P:Program}{Γ:Ctx}{pn:jS}{E E':Env}{Q Q1:Exit→Env→Prop}{c c1 c2:Code}{ops:Array Oper}{o:Oper}{os:List Oper}{id:Nat}
theorem sR(h:RW P Γ pn ops ops.toList E (wC P Γ pn c Q)):CW P Γ pn (.seq (.region id ops ia) c) E Q:=CW.seq (CW.region h)
theorem rN(h:CW P Γ pn c E Q):RW P Γ pn ops [] E (wC P Γ pn c Q):=RW.nil h
theorem oP(h:Ok P Γ o E E')(k:RW P Γ pn ops os E' Q)(hg:o.guard=i8:=by rfl)(hp:pn.ok o.dst=i9:=by rfl):RW P Γ pn ops (o::os) E Q:=RW.op h k hg hp
def zWj(ops:List Oper):List (List Nat):=(ops.foldl (fun(acc:Array (List Nat)) o=>acc.push ((zBj o).foldl (fun l m=>m::(acc.getD m [])++l) [])) #[]).toList
theorem CW.lp{σ ρ:Type}(body:σ→Option (σ⊕ρ))(en:σ→Env)(Q1:ρ→Exit→Env→Prop){s:σ}{r:ρ}(hg:zM Γ E (en s))(h:∀s x,body s=i7 x→CW P Γ pn c (en s) (vU Γ en Q1 x))(hr:zJ body s=i7 r)(hq:∀e E',Q1 r e E'→Q e E'):CW P Γ pn (.loop c) E Q:=
 (CW.mono (CW.loop body en Q1 h hr) hq).ghost hg
end
end Go.Ab

namespace Go.Ab
open Go Go.ChangeShapes
abbrev zKV(w:World):Stb:=fun b=>w.heap[b]?
theorem zPn{w:World}{a:Addr}{n:Nat}{cs:List Value}(h:w.cells? 0 a n=i7 cs):cs.length=n∧ ∀(i:Nat) v,cs[i]? =i7 v→w.cell? (a.add i)=i7 v:=by
 unfold World.cells? at h;rw[if_pos (Km _)]at h;refine⟨by simpa using mapM_some_length h,fun i v hv=>?_⟩;have hi:i<n:=by grind[mapM_some_length,Li]
 rw[←hv];exact mapM_some_get h i i (by simp[hi])
theorem zOd{w:World}{a:Addr}{v:Value}(h:w.cell? a=i7 v):a.spot=i8∧ ∃c e fr,w.heap[a.block]? =i7 (.cells c e fr)∧c[a.off]? =i7 v:=by
 simp only[World.cell?]at h;split at h
 all_goals simp_all
theorem zKW{b o m:Nat}:(Addr.mk b o i8).add m=⟨b,o+m,i8⟩:=by grind[Addr.add]
theorem zFO{α:Type}{Q:Nat→α→Prop}:∀(n:Nat),(∀i,i<n→ ∃x,Q i x)→ ∃xs:List α,xs.length=n∧ ∀i x,xs[i]? =i7 x→Q i x
 |0,_=>by simp
 |n+1,h=>by
  obtain⟨xs,h1,h2⟩:=zFO n fun i hi=>h i (by omega)
  obtain⟨y,hy⟩:=h n (by omega);refine⟨xs++[y],by simp[h1],fun i x hx=>?_⟩
  grind
theorem zOe{St:Stb}:(xs:List T)→ ∀(cs:Array Value)(o k:Nat),(∀i x,xs[i]? =i7 x→RoC St x cs (o+i*k))→RoL St xs cs o k
 | [],_,_,_,_=>by grind[RoL]
 |x::xs,cs,o,k,h=>by
  simp only[RoL];refine⟨by simpa using h 0 x rfl,zOe xs cs (o+k) k fun i y hy=>?_⟩;have:=h (i+1) y (by grind)
  grind
section
variable {P:Program}
def RdT(P:Program)(t:TypeId)(k:Nat){α:Type}(f:α→T)(V:α→Prop):Prop:=
 ∀{H:Type}(enc:TypeId×Value→H)(w:World)(fuel:Nat)(cs:List Value)(x:DataW H×List MemPlace),DataW.trod enc P w 0 (fun _=>i9) i9 fuel t cs=i7 x→
  cs.length=k→ ∃d,V d∧ ∀(A:Array Value)(o:Nat),(∀(i:Nat) v,cs[i]? =i7 v→A[o+i]? =i7 v)→RoC (zKV w) (f d) A o
theorem zWk{t:TypeId}{q:IntKind}(hu:P.underlying t=i7 (.int q)):RdT P t 1 (IK q) (fun n=>(Lit.int q n).wf=i9):=by intro H enc w fuel cs x h _;obtain⟨n,rfl,_,hw⟩:=DataW.trod_int hu h;exact⟨n,hw,fun A o hA=>by simp only[RoC];exact⟨by simpa using hA 0 _ rfl,rfl⟩⟩
theorem zWl{α:Type}{f:α→T}{V:α→Prop}{t e:TypeId}{k:Nat}(hu:P.underlying t=i7 (.slice e))(hk:P.cellsOf e=k)(eY:0<k)(h:RdT P e k f V):
  RdT P t 1 (L k f) (fun xs=>xs.length≤maxLen∧ ∀x∈xs,V x):=by
 intro H enc w fuel cs x hx _;rcases DataW.trod_slice hu hx with⟨rfl,_⟩|⟨a,len,cap,elems,rest,n,rfl,rfl,_,_,cO,pY,aX,fk,_⟩
 ·refine⟨[],⟨by simp,by simp⟩,fun A o hA=>?_⟩
  simp only[RoC,Gv,Jx];exact⟨i8,0,by simpa using hA 0 _ rfl,Ji _,by simp[maxLen],fun h=>absurd rfl h⟩
 ·subst hk
  have key:∀i,i<len→ ∃y,V y∧ ∃cs':List Value,cs'.length=P.cellsOf e∧(∀(j:Nat) v,cs'[j]? =i7 v→w.cell? ((a.add (i*P.cellsOf e)).add j)=i7 v)∧
    ∀(A:Array Value)(o:Nat),(∀(j:Nat) v,cs'[j]? =i7 v→A[o+j]? =i7 v)→RoC (zKV w) (f y) A o:=by
   intro i hi;have h1:=fk i hi;rw[J4 (by omega)]at h1;obtain⟨cs',h2,h3⟩:=Option.bind_eq_some_iff.1 h1;obtain⟨h4,h5⟩:=zPn h2;obtain⟨y,h6,h7⟩:=h enc w n cs' _ h3 h4;exact⟨y,h6,cs',h4,h5,h7⟩
  obtain⟨xs,hxl,fw⟩:=zFO len key;refine⟨xs,⟨by omega,fun y hy=>?_⟩,fun A o hA=>?_⟩
  ·obtain⟨i,hi,rfl⟩:=L6.1 hy
   exact(fw i _ (J4 hi)).1
  ·simp only[RoC,Jh,hxl]
   refine⟨i7 a,cap,by simpa using hA 0 _ rfl,cO,pY,fun gf=>?_⟩;have pm:0<xs.length:=by
    cases xs with
    |nil=>simp at gf
    |cons _ _=>simp
   obtain⟨_,cs0,g1,g2,_⟩:=fw 0 _ (J4 pm);have hz:a.add (0*P.cellsOf e)=a:=by simp[Addr.add]
   have g3:=g2 0 cs0[0] (J4 (by omega));rw[hz,show a.add 0=a from by simp[Addr.add]]at g3;obtain⟨mD,c,e',fr,hb,_⟩:=zOd g3;obtain⟨b,off,sp⟩:=a;simp only at mD hb;subst mD;refine⟨b,off,c,e',fr,rfl,hb,zOe _ _ _ _ fun i y hy=>?_⟩;rw[K0,Kj]at hy;obtain⟨z,mp,rfl⟩:=hy;obtain⟨_,cs',g1',g2',g4⟩:=fw i z mp;refine g4 c _ fun j v hv=>?_
   have:=g2' j v hv;rw[zKW,zKW]at this;obtain⟨_,c2,e2,fr2,pI,fQ⟩:=zOd this;simp only at pI fQ;rw[hb]at pI;cases pI;exact fQ
theorem zJ9{H:Type}{enc:TypeId×Value→H}{w:World}{t:TypeId}{fs:Array Field}{fuel:Nat}{cs:List Value}{x:DataW H×List MemPlace}(hu:P.underlying t=i7 (.struct fs))(h:DataW.trod enc P w 0 (fun _=>i9) i9 fuel t cs=i7 x)
  {i j k:Nat}{f:Field}(hf:fs[i]? =i7 f)(hj:f.offset=j)(hk:P.cellsOf f.type=k):∃n y,DataW.trod enc P w 0 (fun _=>i9) i9 n f.type ((cs.drop j).take k)=i7 y:=by
 obtain⟨xs,n,_,_,_,gj,fk⟩:=DataW.trod_struct hu h
 grind
end
def zPo(v:Value):Value:=if v.oneCell' then v else .bool ia
theorem zKX(v:Value):(zPo v).oneCell'=i9:=by unfold zPo;split;assumption;rfl
theorem zJA{v:Value}(h:v.oneCell'=i9):zPo v=v:=by simp[zPo,h]
def hd0(vs:Array Value)(s:Nat)(p:List Nat):Value:=
 match vs[s]?,p with
 |some (.agg cs),[j]=>zPo (cs[j]?.getD (.bool ia))
 |some v,[]=>zPo v
 |_,_=>.bool ia
def G0(vs:Array Value):Gh:={ hd:=hd0 vs,ad:=fun _ _=>default,lb:=fun _ _=>i8,ow:=fun _=>i8 }
theorem zZy(w:World)(vs:Array Value):Mem ⟨zKV w,fun _=>False,w,0⟩ (G0 vs) w where
 one s p:=by
  simp only[G0,hd0];split
  ·exact zKX _
  ·exact zKX _
  ·rfl
 lb b o l h:=by grind[G0]
 ow b l h:=by grind[G0]
 st b x h:=h
 fr b _ _:=rfl
 sz:=Ji _
 bk:=⟨fun b cs e h=>⟨cs,h,rfl⟩,rfl,rfl⟩
def RdA(P:Program)(t:TypeId){α:Type}(u:α→T)(V:α→Prop):Prop:=
 ∀{H:Type}(enc:TypeId×Value→H)(w:World)(base fuel:Nat)(v:Value)(x:DataW H×List MemPlace),DataW.trod enc P w 0 (fun _=>i9) i9 fuel t v.cells.toList=i7 x→
  Value.okWide P w .any base t v→ ∃d,V d∧ ∀(vs:Array Value)(s:Nat),vs[s]? =i7 v→i7 v=i7 (mkV (G0 vs) s (u d) [])∧R (zKV w) (G0 vs) w s (u d) []
def RdC(P:Program)(t:TypeId){α:Type}(u:α→T)(V:α→Prop):Prop:=
 ∀{H:Type}(enc:TypeId×Value→H)(w:World)(fuel:Nat)(c:Value)(x:DataW H×List MemPlace),DataW.trod enc P w 0 (fun _=>i9) i9 fuel t [c]=i7 x→
  ∃d,V d∧c.oneCell'=i9∧ ∀(G:Gh)(s:Nat)(p:List Nat),G.hd s p=c→vals G s (u d) p=[c]∧R (zKV w) G w s (u d) p
section
variable {P:Program}
theorem zWm{t:TypeId}{q:IntKind}(hu:P.underlying t=i7 (.int q)):RdC P t (IK q) (fun n=>(Lit.int q n).wf=i9):=by intro H enc w fuel c x h;obtain⟨n,h1,_,hw⟩:=DataW.trod_int hu h;simp only[Qv.injEq,and_true]at h1;subst h1;exact⟨n,hw,rfl,by grind[vals,R]⟩
theorem zXE{α:Type}{f:α→T}{V:α→Prop}{t:TypeId}(h:RdT P t 1 f V)(h1:∀{H:Type}(enc:TypeId×Value→H)(w:World)(fuel:Nat)(c:Value)(x:DataW H×List MemPlace),DataW.trod enc P w 0 (fun _=>i9) i9 fuel t [c]=i7 x→c.oneCell'=i9):
  RdC P t (fun x=>T.ro (f x)) V:=by
 intro H enc w fuel c x hx;obtain⟨d,g1,g2⟩:=h enc w fuel [c] x hx rfl
 grind[vals,R]
theorem zWn{α:Type}{f:α→T}{V:α→Prop}{t e:TypeId}{k:Nat}(hu:P.underlying t=i7 (.slice e))(hk:P.cellsOf e=k)(eY:0<k)(h:RdT P e k f V):RdC P t (fun xs=>T.ro (L k f xs)) (fun xs=>xs.length≤maxLen∧ ∀x∈xs,V x):=
 zXE (zWl hu hk eY h) fun enc w fuel c x hx=>by
  rcases DataW.trod_slice hu hx with⟨h1,_⟩|⟨a,len,cap,_,_,_,_,h1,_⟩<;>
  ·simp only[Qv.injEq,and_true]at h1
   subst h1;rfl
theorem zIi{w:World}{base:Nat}{t:TypeId}{fs:Array Field}{v:Value}(hu:P.underlying t=i7 (.struct fs))(h:Value.okWide P w .any base t v):∃cs,v=.agg cs∧cs.size=P.cellsOf t:=by grind[Value.okWide]
theorem zVp{α β γ δ:Type}{ua:α→T}{ub:β→T}{uc:γ→T}{Va:α→Prop}{Vb:β→Prop}{Vc:γ→Prop}{t:TypeId}{f0 f1 f2:Field}(mk:α→β→γ→δ){u:δ→T}{V:δ→Prop}
  (hu:P.underlying t=i7 (.struct #[f0,f1,f2]))(hc:P.cellsOf t=3)(h0:f0.offset=0∧P.cellsOf f0.type=1)(h1:f1.offset=1∧P.cellsOf f1.type=1)(h2:f2.offset=2∧P.cellsOf f2.type=1)
  (ra:RdC P f0.type ua Va)(rb:RdC P f1.type ub Vb)(rc:RdC P f2.type uc Vc)(hmk:∀a b c,u (mk a b c)=T.agg [ua a,ub b,uc c])(hV:∀a b c,Va a→Vb b→Vc c→V (mk a b c)):RdA P t u V:=by
 intro H enc w base fuel v x hx gB;obtain⟨cs,rfl,gw⟩:=zIi hu gB;obtain⟨l,rfl⟩:∃l:List Value,cs=l.toArray:=⟨cs.toList,by simp⟩;rw[hc,Jbl]at gw;obtain⟨c0,c1,c2,rfl⟩:∃a b c,l=[a,b,c]:=by
  match l,gw with
  | [a,b,c],_=>simp
 simp only[Value.cells]at hx;obtain⟨n0,y0,g0⟩:=zJ9 hu hx (i:=0) rfl h0.1 h0.2;obtain⟨n1,y1,g1⟩:=zJ9 hu hx (i:=1) rfl h1.1 h1.2;obtain⟨n2,y2,g2⟩:=zJ9 hu hx (i:=2) rfl h2.1 h2.2;simp only[List.drop_succ_cons,U9,Ld,K8]at g0 g1 g2;obtain⟨a,a1,a2,a3⟩:=ra enc w n0 c0 _ g0;obtain⟨b,b1,b2,b3⟩:=rb enc w n1 c1 _ g1;obtain⟨c,e1,e2,e3⟩:=rc enc w n2 c2 _ g2;refine⟨mk a b c,hV a b c a1 b1 e1,fun vs s cS=>?_⟩;have k0:(G0 vs).hd s [0]=c0:=by simp[G0,hd0,cS,zJA a2]
 have k1:(G0 vs).hd s [1]=c1:=by simp[G0,hd0,cS,zJA b2]
 have k2:(G0 vs).hd s [2]=c2:=by simp[G0,hd0,cS,zJA e2]
 rw[hmk];simp only[mkV,yI,(a3 _ _ _ k0).1,(b3 _ _ _ k1).1,(e3 _ _ _ k2).1,K1,Jt,R,RF]
 simp_all
end
theorem FnC.top{P:Program}{f:FuncId}{us:List T}(h:FnC P f us [B i9] []){w:World}{vs:Array Value}(gw:vs.size=us.length)
  (ha:∀(i:Nat) u,us[i]? =i7 u→vs[i]? =i7 (mkV (G0 vs) i u [])∧R (zKV w) (G0 vs) w i u []):
  Calls P f vs w fun e w'=>e=.returned (.bool i9)∧w'.os=w.os∧w'.output=w.output∧w.heap.size≤w'.heap.size∧ ∀b,b<w.heap.size→w'.heap[b]? =w.heap[b]?:=by
 refine(h (zKV w) (fun _=>False) w (G0 vs) vs gw (fun i u hu=>?_) (zZy w vs)).mono fun e w'=>?_
 ·obtain⟨h1,h2⟩:=ha i u hu
  refine⟨?_,h2⟩;rw[h1]
 ·rintro⟨S',G',nd,_,he,hm,cL,hr,_,_⟩
  match nd,cL with
  | [(s,p,t)],cL=>
   simp only[Jo,Gv,Qv.injEq,and_true]at cL;subst cL;have:=(hr (s,p,B i9) (by simp)).1;simp only[R]at this;exact⟨by rw[he];simp only[zK8,sJ,this],hm.bk.os,hm.bk.out,hm.sz,fun b hb=>hm.fr b hb (fun h=>h)⟩
theorem zD0{H:Type}{enc:TypeId×Value→H}{P:Program}(hl:laidOutB P=i9){W W':World}{sp:Nat→Bool}:∀{ts:List TypeId}{vs:List Value}{ds:List (DataW H)}{ps:List MemPlace},(∀t∈ts,P.readableRec t=i9∧t<P.types.size)→
  DataW.TrodAll enc P W 0 (fun _=>i9) i9 ts vs ds ps→(∀p∈ps,W.sameAt W' p)→(∀p∈ps,sp p.block=i9)→DataW.TrodAll enc P W' 0 sp i9 ts vs ds ps
 | [],[],[],_,_,h,_,_=>h
 |t::ts,v::vs,d::ds,ps,hr,h,h1,h2=>by
  obtain⟨p,q,g1,g2,rfl⟩:=h;exact⟨p,q,by grind[Go.WideElems.Trod_stays],
   zD0 hl (by grind) g2 (by grind) (by grind),rfl⟩
 | [],_::_,_,_,_,h,_,_| [],[],_::_,_,_,h,_,_|_::_,[],_,_,_,h,_,_|_::_,_::_,[],_,_,h,_,_=>h.elim
theorem zMF{C:Checked}{os:Os}(own:ownKnob C.prog.godebug=i8)(started:os.Started){f:FuncId}{fn:Func}(noInit:C.prog.inits.idxOf? f=i8)(ug:C.prog.funcs[f]? =i7 fn){H:Type}{enc:TypeId×Value→H}{s:ChangeSpec}{conds:List PathCond}{apart fresh handsOn again:Bool}
  (witness:∃(w:World)(tape:Tape)(i:Input),w.os=os∧(w.forCall tape i).Shaped C.prog∧i.vars=[]∧Input.okWide C.prog (w.forCall tape i) .any w.heap.size f i∧
   s.pre6 enc C.prog fn conds apart (w.forCall tape i).memory i.args∧Assume.holds {} C.prog (lone (Frame.enter C.prog f i.args .normal) [] (w.forCall tape i)))
  (hs:∀(l:List (DataW H)),l.length=fn.params.size→(s.fn H l).results=[.lit (.bool i9)]∧(s.fn H l).args=l∧(s.fn H l).vars=[])(m8:s.vars=[]){tb:TypeId}(f8:fn.resultTypes= #[tb])(hb:C.prog.underlying tb=i7 .bool)
  (laid:laidOutB C.prog=i9)(hread:fn.params.toList.all (fun t=>C.prog.readableRec t&&decide (t<C.prog.types.size))=i9)
  (law:∀(W:World)(base:Nat)(args:Array Value)(ds:List (DataW H))(p:List MemPlace),(∀(j:Nat) t v,fn.params[j]? =i7 t→args[j]? =i7 v→Value.okWide C.prog W .any base t v)→
   DataW.TrodAll enc C.prog W 0 (fun _=>i9) i9 fn.params.toList args.toList ds p→
   ∃us:List T,args.size=us.length∧FnC C.prog f us [B i9] []∧ ∀(i:Nat) u,us[i]? =i7 u→args[i]? =i7 (mkV (G0 args) i u [])∧R (zKV W) (G0 args) W i u []):
  ReturnsInHanded {} C os f .any (s.pre6 enc C.prog fn conds apart) (s.post enc C.prog fn apart fresh handsOn again):=by
 refine returnsInHanded_of_change (C:=C) own started noInit ug witness ?_;intro W base args ds gs before hval hW _ _;have hW':=hW;obtain⟨p,q,hA,hV,hbq,hfz,cL⟩:=hW;obtain⟨us,h1,h2,h3⟩:=law W base args ds p hval hA;have hl:ds.length=fn.params.size:=by
  have:∀{ts:List TypeId}{vs:List Value}{ds:List (DataW H)}{p:List MemPlace},DataW.TrodAll enc C.prog W 0 (fun _=>i9) i9 ts vs ds p→ds.length=ts.length:=by
   intro ts
   induction ts with
   |nil=>intro vs ds p h;cases vs<;>cases ds<;>first|rfl|exact h.elim
   |cons t ts ih=>intro vs ds p h;cases vs<;>cases ds<;>first|exact h.elim|(obtain⟨_,_,_,g,_⟩:=h;simp[ih g])
  grind
 rw[m8]at hV;have hq:gs=[]∧q=[]:=by
  cases gs with
  |nil=>exact⟨rfl,hV⟩
  |cons _ _=>exact hV.elim
 obtain⟨rfl,rfl⟩:=hq;have gD:=hW'.lt;refine(h2.top h1 h3).mono fun e w' ⟨he,ho,hq,gw,hh⟩=>⟨_,he,?_⟩
 have e6:∀p∈before,W.sameAt w' p:=fun p hp=>by
  have:=gD p hp;cases p with
  |cell b off=>simp only[World.sameAt,World.cell?,hh b this]
  |map b=>exact hh b this
 obtain⟨k1,k2,k3⟩:=hs ds hl;have hbp:before=p:=by grind
 subst hbp;have gy:∀t∈fn.params.toList,C.prog.readableRec t=i9∧t<C.prog.types.size:=by grind
 have gk:∀(b:Nat)(sp:Nat→Bool)(hd:Bool),DataW.TrodAll enc C.prog w' b sp hd fn.resultTypes.toList ((Value.bool i9).resultList fn.resultTypes.size) (s.fn H (ds++[])).results []:=fun b sp hd=>by rw[f8,Je,k1];exact⟨[],[],⟨1,by simp[DataW.trod,hb,Value.cells]⟩,⟨rfl,rfl⟩⟩
 have gc:∀sp:Nat→Bool,(∀p∈before,sp p.block=i9)→DataW.TrodAll enc C.prog w' 0 sp i9 fn.params.toList args.toList (s.fn H (ds++[])).args before:=fun sp mD=>by rw[Je,k2];exact zD0 laid gy hA e6 mD
 have bT:∀sp:Nat→Bool,DataW.TrodVars enc C.prog w' sp s.vars (s.fn H (ds++[])).vars []:=fun sp=>by rw[m8,Je,k3];rfl
 have gH:∀p∈before,(fun b=>decide (b<W.heap.size)) p.block=i9:=by grind
 have ba:∀p∈before,∀o,w'.frozen? ⟨p.block,o,i8⟩=W.frozen? ⟨p.block,o,i8⟩:=fun p hp o=>by simp only[World.frozen?,hh _ (gD p hp)]
 refine⟨ds,[],before,[],before,[],hW',gk _ _ _,gc _ gH,bT _,⟨ho,hq,fun i hi=>?_⟩,fun _=>⟨fun j t r hj hr=>?_,_,_,([]++before)++[],⟨[]++before,[],trodAll_append (gc _ (fun _ _=>rfl)) (gk _ _ _),bT _,rfl,fun b off hp=>?_,fun ha=>?_⟩,fun p hp _=>?_⟩⟩
 ·rw[hh i hi]
  cases hx:W.heap[i]? with
  |none=>rfl
  |some o=>cases o<;>simp
 ·rw[f8]at hj hr
  match j,hj,hr with
  |0,hj,hr=>
   simp[Value.resultList]at hj hr;subst hj;subst hr;simp[Value.okWide,hb,Cell.okWide,Cell.ok]
 ·have cK:MemPlace.cell b off∈before:=by grind
  exact(ba _ cK off).trans (hfz b off cK)
 ·grind
 grind
end Go.Ab

namespace Go.Ab
open Go
def jK(hs:List Nat)(E:Env):Prop:=∀s,hs.contains s=i9→ ∃t,E s=i7 t∧zAU t=i9
def zWo(hs:List Nat)(z:Nat×Option T):Bool:=!hs.contains z.1||match z.2 with
 |some t=>zAU t
 |none=>ia
def wrS(hs:List Nat)(X:Stp):Bool:=X.l.all fun y=>y.1.all (zWo hs)
theorem zKY{s:Nat}{x:Option T}:∀{wr:Wr},wr.find s=i7 x→(s,x)∈wr
 | [],h=>by grind[Wr.find]
 |(k,y)::wr,h=>by
  simp only[Wr.find]at h;split at h
  ·grind
  ·exact G5 _ (zKY h)
theorem jK.apps{hs:List Nat}:∀(l:zEq)(E:Env),jK hs E→(l.all fun y=>y.1.all (zWo hs))=i9→jK hs (E.apps l)
 | [],_,h,_=>h
 |x::l,E,h,hw=>by
  simp only[Q0,J3]at hw;refine jK.apps l (E.app x.1 x.2) (fun s gI=>?_) hw.2;obtain⟨t,he,ht⟩:=h s gI;unfold Env.app;cases hf:x.1.find s with
  |some y=>
   have h1:=Kf.1 hw.1 _ (zKY hf);simp only[zWo,gI,K7,Bool.false_or]at h1
   grind
  |none=>grind[uY]
theorem jK.runD{hs:List Nat}:∀(l:List (Bool×Stp))(E:Env),jK hs E→(∀y∈l,wrS hs y.2=i9)→jK hs (runD E l)
 | [],_,h,_=>h
 |(b,X)::l,E,h,hw=>by
  simp only[Go.Ab.runD];refine jK.runD l _ ?_ fun y hy=>hw y (by simp[hy])
  cases b with
  |true=>exact jK.apps X.l E h (hw (i9,X) (by simp))
  |false=>exact h
section
variable {P:Program}{Γ:Ctx}{pn:jS}{E E':Env}{Q:Exit→Env→Prop}{ops:Array Oper}{o:Oper}{os:List Oper}{id:Nat}{wr:Wr}{chg:Chg}{hs:List Nat}
def zHa(P:Program)(Γ:Ctx)(pn:jS)(ops:Array Oper)(o:Oper)(E E':Env):Prop:=
 ∀(a:Act)(w:World)(K:Act→World→Prop)(Q:Exit→Act→World→Prop),pn.Hold a→qY Γ E a w→(∀a' w',qY Γ E' a' w'→(∀s,o.dst≠i7 s→a'.tmps[s]? =a.tmps[s]?)→K a' w')→
  if Region.wanted o (yielded ops a.tmps)then o.wp P a w K Q∨(o.asks P a w∧LetsOut Q)else K (a.put o.dst undef) w
def vN(P:Program)(Γ:Ctx)(pn:jS)(hs:List Nat)(ops:Array Oper):List Oper→List Stp→Prop
 | [],[]=>True
 |o::os,X::Xs=>(∀E:Env,E.Has X.rd→jK hs E→zHa P Γ pn ops o E (E.apps X.l))∧vN P Γ pn hs ops os Xs
 |_,_=>False
theorem vN.get:∀(os:List Oper)(Xs:List Stp),vN P Γ pn hs ops os Xs→os.length=Xs.length∧ ∀(i:Nat)(o:Oper)(X:Stp),os[i]? =i7 o→Xs[i]? =i7 X→ ∀E:Env,E.Has X.rd→jK hs E→zHa P Γ pn ops o E (E.apps X.l)
 | [],[],_=>by simp
 |o::os,X::Xs,h=>by
  obtain⟨h1,h2⟩:=vN.get os Xs h.2;refine⟨by simp[h1],fun i o' X' ho hX=>?_⟩;cases i with
  |zero=>simp at ho hX;subst ho hX;exact h.1
  |succ i=>exact h2 i o' X' (by simpa using ho) (by simpa using hX)
 | [],_::_,h=>by simp[vN]at h
 |_::_,[],h=>by simp[vN]at h
theorem vN.snoc{X:Stp}:∀(os:List Oper)(Xs:List Stp),vN P Γ pn hs ops os Xs→(∀E:Env,E.Has X.rd→jK hs E→zHa P Γ pn ops o E (E.apps X.l))→vN P Γ pn hs ops (os++[o]) (Xs++[X])
 | [],[],_,h=>⟨h,trivial⟩
 |_::os,_::Xs,h1,h=>⟨h1.1,vN.snoc os Xs h1.2 h⟩
 | [],_::_,h,_=>by simp[vN]at h
 |_::_,[],h,_=>by simp[vN]at h
theorem sS.snoc{X:Stp}:∀(Xs:List Stp)(E:Env),sS E Xs→(runD E (Xs.map fun y=>(i9,y))).Has X.rd→sS E (Xs++[X])
 | [],_,_,h=>⟨by grind[runD],trivial⟩
 |_::Xs,_,h1,h=>⟨h1.1,sS.snoc Xs _ h1.2 (by simpa[runD]using h)⟩
theorem zJB{E0:Env}{ew:List Nat}{Xs:List Stp}{an:List (List Nat)}{Q':Exit→Act→World→Prop}(hf:zAD 0 ops.toList=i9)(ha:zAi an an ops.toList=i9)(hp:jT Xs 0 an Xs=i9)
  (gA:vN P Γ pn ew ops ops.toList Xs)(hI:jK ew E0)(hw:Xs.all (wrS ew)=i9)(hh:sS E0 Xs)(a6:ops.toList.all (fun o=>pn.ok o.dst)=i9)(hQ:∀a' w',qY Γ (runD E0 (Xs.map fun y=>(i9,y))) a' w'→pn.Hold a'→Q' .normal a' w'):
  ∀(fuel:Nat)(L:List Bool)(a:Act)(w:World),L.length=ops.size→L.count ia=fuel→zQO ops L→qY Γ (runD E0 (L.zip Xs)) a w→pn.Hold a→wpAny P .any ops Q' fuel L.toArray a w:=by
 obtain⟨gj,mb⟩:=vN.get _ _ gA;have mj:Xs.length=ops.size:=by grind
 intro fuel
 induction fuel with
 |zero=>
  intro L a w hL hcnt gE hs fI;have pB:∀b∈L,b=i9:=by grind
  have i5:L=J1 ops.size i9:=by rw[←hL];exact List.eq_replicate_iff.2 ⟨rfl,pB⟩
  refine⟨?_,?_⟩
  ·apply List.eq_nil_iff_forall_not_mem.2
   intro j hj;obtain⟨h1,o,ho,_⟩:=mem_ready.1 hj;have gD:=(Ky.1 ho).1;rw[i5]at h1;simp[gD]at h1
  ·refine hQ a w ?_ fI
   have:L.zip Xs=Xs.map fun y=>(i9,y):=by
    rw[i5,←mj]
    clear hs hL i5 pB hcnt gE gA hw hh hp gj mj mb hQ
    induction Xs with
    |nil=>rfl
    |cons X Xs ih=>simp[Jp,ih]
   grind
 |succ fuel ih=>
  intro L a w hL hcnt gE hs fI;refine⟨fun hr=>?_,fun i hi=>?_⟩
  ·
   exfalso
   have cD:∃m:Nat,L[m]? =i7 ia:=by
    have:ia∈L:=by grind
    grind[Qx]
   obtain⟨m,hm,eB⟩:=zDx cD;have hmlt:=(Jn.1 hm).1;have aS:ops[m]? =i7 ops[m]:=by simp
   have:m∈Region.ready .any ops L.toArray:=by
    refine mem_ready.2 ⟨by simp_all,ops[m],aS,fun e he hb=>?_⟩;have hpm:e.on∈zBj ops[m]:=by
     simp only[zBj,Jm,Jbe]
     grind
    have gD:=zGk ops.toList 0 m _ hf (by simp) _ hpm;rw[Jb]at gD;cases hL1:L[e.on]? with
    |none=>grind
    |some b=>
     cases b with
     |false=>grind
     |true=>simp_all
   grind
  ·obtain⟨h1,o,ho,pB⟩:=mem_ready.1 hi
   have gD:=(Ky.1 ho).1;have hLi:L[i]? =i7 ia:=by simp_all
   have cd:∀m∈zBj o,L[m]? =i7 i9:=by
    intro m hm;simp only[zBj,Jm,Jbe]at hm;obtain⟨e,⟨he,hb⟩,rfl⟩:=hm;have:=pB e (by grind) hb;cases hL1:L[e.on]? with
    |none=>grind
    |some b=>simp_all
   have hanc:=zGS hf ha gE i i (Ji _) o ho cd;have bL:Xs[i]? =i7 Xs[i]:=by simp
   generalize hXe:Xs[i]=X at bL
   have ao:∀(j:Nat)(Y:Stp),Xs[j]? =i7 Y→i<j→L[j]? =i7 i9→X.apart Y=i9:=by
    intro j Y hY gM hj;rcases zFi Xs Xs 0 an j Y hp hY i X (by omega) bL with h|h
    ·have hjlt:=(Jn.1 hY).1
     have hoj:ops[j]? =i7 ops[j]:=by simp
     have:=zGS hf ha gE j j (Ji _) _ hoj (gE j _ hoj hj) i h
     grind
    ·exact h
   have be:∀(j:Nat)(Y:Stp),Xs[j]? =i7 Y→j<i→L[j]? =i7 ia→Y.apart X=i9:=by grind[zFi]
   have pj:∀y∈(L.take i).zip (Xs.take i),∃j:Nat,j<i∧L[j]? =i7 y.1∧Xs[j]? =i7 y.2:=by
    intro y hy;obtain⟨j,g1,g2⟩:=zJ4 hy;rw[Jcc]at g1 g2
    grind
   have mf:∀y∈(L.drop (i+1)).zip (Xs.drop (i+1)),∃j:Nat,i<j∧L[j]? =i7 y.1∧Xs[j]? =i7 y.2:=by
    intro y hy;obtain⟨j,g1,g2⟩:=zJ4 hy;rw[He]at g1 g2
    grind
   have mD:=zIC hLi bL;have ue:(runD E0 (L.zip Xs)).Has X.rd:=by
    rw[mD,kI];simp only[runD,Hq,if_false];have h0:=sS.get Xs E0 hh i X bL;refine h0.of fun s t gA ew=>?_
    have hsm:s∈X.rd.map (·.1):=by grind
    refine zIB _ _ (fun y hy hb=>?_) ?_
    ·obtain⟨j,g1,g2,g3⟩:=mf y hy
     have:=Stp.apart_spec (ao j y.2 g3 g1 (by rw[g2,hb]));exact⟨by grind,by grind⟩
    ·have hmp:((L.take i).zip (Xs.take i)).map (fun y=>(i9,y.2))=(Xs.take i).map fun y=>(i9,y):=by
      have ap:(L.take i).length=(Xs.take i).length:=by simp;omega
      rw[show(fun y:Bool×Stp=>(i9,y.2))=(fun y=>(i9,y))∘Prod.snd from rfl,←Jaf,List.map_snd_zip (by omega)]
     refine zIA _ E0 E0 (fun y hy hb gI=>?_) (fun _ h=>h) t (by grind);obtain⟨j,g1,g2,g3⟩:=pj y hy;have:=Stp.apart_spec (be j y.2 g3 g1 (by rw[g2,hb]))
     grind
   have hnext:runD E0 ((L.set i i9).zip Xs)=(runD E0 (L.zip Xs)).apps X.l:=by
    have hLs:(L.set i i9)[i]? =i7 i9:=by grind
    rw[zIC hLs bL,mD,kI,kI];simp only[runD,if_true,Hq,if_false,List.take_set_of_le (Ji i),List.drop_set_of_lt (Nat.lt_succ_self i)];refine zFh _ X _ fun y hy hb=>?_
    obtain⟨j,g1,g2,g3⟩:=mf y hy;exact(Stp.apart_spec (by grind)).1
   have dn:=mb i o X (by grind) bL _ ue (jK.runD (L.zip Xs) E0 hI fun y hy=>Kf.1 hw _ (by obtain⟨j,_,g⟩:=zJ4 hy;grind));unfold wpOp;simp only[ho];refine dn a w _ Q' fI hs fun a' w' gI ba=>?_
   rw[List.setIfInBounds_toArray];have gB:pn.ok o.dst=i9:=by grind
   refine ih (L.set i i9) a' w' (by simp[hL]) (by grind) ?_ (by grind) (fI.frame gB ba);intro k ok hk hkt m hm
   by_cases hki:k=i
   ·subst hki
    rw[ho]at hk;simp at hk;subst hk;rw[Jbm];split
    ·grind
    grind
   ·rw[Q3 (Ne.symm hki)]at hkt
    rw[Jbm];split
    ·grind
    ·exact gE k ok hk hkt m hm
theorem CW.drawnI{ew:List Nat}{id:Nat}{E:Env}{Q:Exit→Env→Prop}(Xs:List Stp)(an:List (List Nat))(hm:P.follows .mixedOrders=i9)(gA:vN P Γ pn ew ops ops.toList Xs)(hI:jK ew E)(hw:Xs.all (wrS ew)=i9)(hh:sS E Xs)
  (hQ:Q .normal (runD E (Xs.map fun y=>(i9,y))))(hf:zAD 0 ops.toList=i9:=by rfl)(ha:zAi an an ops.toList=i9:=by rfl)(hp:jT Xs 0 an Xs=i9:=by rfl)
  (a6:ops.toList.all (fun o=>pn.ok o.dst)=i9:=by rfl):CW P Γ pn (.region id ops i9) E Q:=by
 intro a w Q' hs fI hQ';refine wp_region_any hm ?_;have gI:qY Γ E a { w with drawn:=w.drawn+1 }:=by obtain⟨S,hS,gO,G,hr⟩:=hs;exact⟨S,hS,gO,G,hr.heap rfl⟩
 have:=zJB (P:=P) (Γ:=Γ) (pn:=pn) (E0:=E) (Q':=Q') hf ha hp gA hI hw hh a6 (by grind) ops.size (J1 ops.size ia) a { w with drawn:=w.drawn+1 } (by simp) (by simp)
  (fun i o ho hi=>by
   grind) (by
   have:runD E ((J1 ops.size ia).zip Xs)=E:=by
    generalize ops.size=n
    clear gA hI hw hh hQ hf ha hp gI
    induction n generalizing Xs with
    |zero=>simp[runD]
    |succ n ih=>
     cases Xs with
     |nil=>simp[runD]
     |cons X Xs=>simpa[Jp,runD]using ih Xs
   grind) fI
 grind
def DK(P:Program)(Γ:Ctx)(pn:jS)(ops:Array Oper)(id:Nat)(hs:List Nat)(E0:Env)(Q:Exit→Env→Prop)(os:List Oper)(E:Env)(acc:List Stp):Prop:=
 ∀don,don++os=ops.toList→vN P Γ pn hs ops don acc.reverse→sS E0 acc.reverse→E=runD E0 (acc.reverse.map fun y=>(i9,y))→CW P Γ pn (.region id ops i9) E0 Q
variable {E0:Env}{acc:List Stp}
theorem CW.dk(h:DK P Γ pn ops id [] E Q ops.toList E []):CW P Γ pn (.region id ops i9) E Q:=h [] rfl trivial trivial rfl
theorem CW.dkS(hs:List Nat)(h:DK P Γ pn ops id hs E Q ops.toList E []):CW P Γ pn (.region id ops i9) E Q:=h [] rfl trivial trivial rfl
theorem dGP(rd:List (Nat×T))(l:zEq)(gy:E.Has rd)(gA:∀E':Env,E'.Has rd→jK hs E'→zHa P Γ pn ops o E' (E'.apps l))(k:DK P Γ pn ops id hs E0 Q os (E.apps l) (⟨rd,l⟩::acc)):DK P Γ pn ops id hs E0 Q (o::os) E acc:=by
 intro don hd hso hh hE;subst hE;have hr:=fun X=>Ug (a:=X) (as:=acc)
 refine k (don++[o]) (by simp[hd]) ?_ ?_ ?_
 ·grind[vN.snoc]
 ·grind[sS.snoc]
 ·rw[hr,L7,kI];rfl
theorem dGS(rd:List (Nat×T))(l:zEq)(gy:E.Has rd)(gA:∀E':Env,E'.Has rd→jK hs E'→zW P Γ ops o E' (E'.apps l))(k:DK P Γ pn ops id hs E0 Q os (E.apps l) (⟨rd,l⟩::acc)):DK P Γ pn ops id hs E0 Q (o::os) E acc:=
 dGP rd l gy (fun E' h h' a w K Q _=>gA E' h h' a w K Q) k
theorem dG(rd:List (Nat×T))(l:zEq)(gy:E.Has rd)(gA:∀E':Env,E'.Has rd→zW P Γ ops o E' (E'.apps l))(k:DK P Γ pn ops id hs E0 Q os (E.apps l) (⟨rd,l⟩::acc)):DK P Γ pn ops id hs E0 Q (o::os) E acc:=
 by grind[dGS]
def zRd(hs:List Nat)(E:Env):Bool:=hs.all fun s=>match E s with
 |some t=>zAU t
 |none=>ia
theorem zRe(h:zRd hs E=i9):jK hs E:=by
 intro s gI;have h1:=Kf.1 h s (by grind)
 grind
theorem dN(an:List (List Nat))(hm:P.follows .mixedOrders=i9)(hQ:Q .normal E)(hf:zAD 0 ops.toList=i9:=by rfl)(ha:zAi an an ops.toList=i9:=by rfl)(hp:jT acc.reverse 0 an acc.reverse=i9:=by rfl)
  (a6:ops.toList.all (fun o=>pn.ok o.dst)=i9:=by rfl)(hh0:zRd hs E0=i9:=by rfl)(hw:acc.reverse.all (wrS hs)=i9:=by rfl):DK P Γ pn ops id hs E0 Q [] E acc:=by
 intro don hd gA hh hE
 grind[CW.drawnI,zRe]
end
end Go.Ab

namespace Go.Ab
open Go
section
variable {P:Program}{Γ:Ctx}{pn:jS}{E E':Env}{Q:Exit→Env→Prop}{ops:Array Oper}{o:Oper}{os:List Oper}{id d:Nat}{wr:Wr}{chg:Chg}{hs:List Nat}{E0:Env}{acc:List Stp}{x y:Operand}{ty:TypeId}{ps:String}{af:Array Edge}{gd:Option (Nat×Bool)}
class zHb (P:Program) (t:TypeId) (e:outParam TypeId):Prop where
 h:P.underlying t=i7 (.slice e)
class jW (P:Program) (t:TypeId) (b:outParam Bool) (n:outParam Nat):Prop where
 h:∀u:T,u.single=b→u.size=n→zTP P t u
theorem hE{rd:List (Nat×T)}{s:Nat}{t:T}(h:E.Has rd)(hr:yU rd s=i7 t):E s=i7 t:=h.le s t hr
theorem hO{rd:List (Nat×T)}{t:T}(h:E.Has rd)(hr:opT (yU rd) x=i7 t):opT E x=i7 t:=by
 cases x<;>simp only[opT]at hr ⊢
 ·exact h.le _ _ hr
 all_goals exact hr
mutual
def zDK:T→Bool
 |.ro _|.lit _|.any=>i9
 |.agg xs|.tup xs=>zGn xs
 |.ptr t=>zDK t
 |.sl _ []=>i9
 |_=>ia
def zGn:List T→Bool
 | []=>i9
 |x::xs=>zDK x&&zGn xs
end
mutual
theorem zCV:{t:T}→zDK t=i9→yD t
 |.ro _,_|.lit _,_|.any,_=>by simp[yD,xC]
 |.agg xs,h|.tup xs,h=>by simp only[zDK]at h;simpa only[yD,xC]using zHc h
 |.ptr t,h=>by simp only[zDK]at h;exact wG (zCV h)
 |.sl _ [],_=>by simp[yD,xC,xX]
 |.sl _ (_::_),h=>by simp[zDK]at h
 |.same _ _,h|.addr _ _,h|.sub _ _ _ _ _,h=>by simp[zDK]at h
theorem zHc:{xs:List T}→zGn xs=i9→xQ xs
 | [],_=>trivial
 |x::xs,h=>by simp only[zGn,J3]at h;exact⟨zCV h.1,zHc h.2⟩
end
theorem zWp{α:Type}{t e:TypeId}{ti:TypeInfo}{r k:Nat}{q:List Nat}{f:α→T}{xs:List α}{v:α}{i:Int}[ht:zB5 P t e ti k](hx:tF E x=i7 (r,q,L k f xs))(hy:opT E y=i7 (I i))(hv:ixO xs i=i7 v)(sd:J5 d Γ.N=i9):
  Ok P Γ ⟨i7 d,.indexAddr t x y,ty,ps,af,gd⟩ E (E.app [(d,i7 (.addr r (i.toNat::q)))] [(d,0)]):=zFj ht hv hx hy sd
theorem zRf{α:Type}{t e:TypeId}{ti:TypeInfo}{r k:Nat}{q:List Nat}{f:α→T}{xs:List α}{v:α}{i:Int}[ht:zB5 P t e ti k](hx:tF E x=i7 (r,q,.ro (L k f xs)))(hy:opT E y=i7 (I i))(hv:ixO xs i=i7 v)(sd:J5 d Γ.N=i9):
  Ok P Γ ⟨i7 d,.indexAddr t x y,ty,ps,af,gd⟩ E (E.app [(d,i7 (.ro (.ptr (f v))))] [(d,0)]):=zBl ht hv hx hy sd
theorem zOf{t:TypeId}{u:T}{b:Bool}{n:Nat}[i:jW P t b n](hx:opT E x=i7 (.ro (.ptr u)))(h1:u.single=b)(h2:u.size=n)(sd:J5 d Γ.N=i9):Ok P Γ ⟨i7 d,.load t x,ty,ps,af,gd⟩ E (E.app [(d,i7 (roT u))] [(d,0)]):=zX8 (i.h u h1 h2) hx sd
theorem zMG{t:TypeId}{u tr:T}{r:Nat}{q:List Nat}{b:Bool}{n:Nat}[i:jW P t b n](hx:opT E x=i7 (.addr r q))(hr:E r=i7 tr)(hg:tr.get q.reverse=i7 u)(h1:u.single=b)(h2:u.size=n)(sd:(J5 d Γ.N&&tr.locd q.reverse&&(r != d)&&T.okB [(d,0)] (cpT r u q))=i9):
  Ok P Γ ⟨i7 d,.load t x,ty,ps,af,gd⟩ E (E.app [(d,i7 (cpT r u q))] [(d,0)]):=zEs (i.h u h1 h2) hx hr hg sd
theorem zKZ{t:TypeId}{u tr t0:T}{r:Nat}{q:List Nat}{b:Bool}{n:Nat}[i:jW P t b n](hx:tF E x=i7 (r,q,.ptr t0))(hr:E r=i7 tr)(hg:tr.get (0::q).reverse=i7 u)(h1:u.single=b)(h2:u.size=n)(sd:(J5 d Γ.N&&tr.locd (0::q).reverse&&(r != d)&&T.okB [(d,0)] (cpT r u (0::q)))=i9):
  Ok P Γ ⟨i7 d,.load t x,ty,ps,af,gd⟩ E (E.app [(d,i7 (cpT r u (0::q)))] [(d,0)]):=zXD (i.h u h1 h2) hx hr hg sd
theorem zVq{α:Type}{t e:TypeId}{r k:Nat}{q:List Nat}{f:α→T}{xs:List α}[i:zHb P t e](hx:tF E x=i7 (r,q,L k f xs))(sd:J5 d Γ.N=i9):
  Ok P Γ ⟨i7 d,.call { callee:=.builtin .len,args:=#[x],argTypes:=#[t] },ty,ps,af,gd⟩ E (E.app [(d,i7 (I (xs.length:Int)))] [(d,0)]):=zQP i.h hx sd
theorem zMH{α:Type}{t e:TypeId}{r k:Nat}{q:List Nat}{f:α→T}{xs:List α}[i:zHb P t e](hx:tF E x=i7 (r,q,.ro (L k f xs)))(sd:J5 d Γ.N=i9):
  Ok P Γ ⟨i7 d,.call { callee:=.builtin .len,args:=#[x],argTypes:=#[t] },ty,ps,af,gd⟩ E (E.app [(d,i7 (I (xs.length:Int)))] [(d,0)]):=zQQ i.h hx sd
theorem zQ(k:RW P Γ pn ops os (E.app wr chg) Q)(h:Ok P Γ o E (E.app wr chg):=by exact zMB rfl rfl)(hg:o.guard=i8:=by rfl)(hp:pn.ok o.dst=i9:=by rfl):RW P Γ pn ops (o::os) E Q:=oP h k hg hp
theorem zIj{g s:Nat}{b:Bool}(k:RW P Γ pn ops os (E.app wr chg) Q)(hg:o.guard=i7 (g,b):=by rfl)(gn:(ops[g]?).bind (·.dst)=i7 s:=by rfl)(hb:E s=i7 (.lit (.bool b)):=by rfl)(h:Ok P Γ o E (E.app wr chg):=by exact zMB rfl rfl)(hp:pn.ok o.dst=i9:=by rfl):RW P Γ pn ops (o::os) E Q:=RW.cons (zW.guard g b s h hg gn hb) k hp
theorem yQ(k:RW P Γ pn ops os (E.app wr chg) Q)(h:Ok P Γ o E (E.app wr chg):=by exact zTO rfl rfl)(hg:o.guard=i8:=by rfl)(hp:pn.ok o.dst=i9:=by rfl):RW P Γ pn ops (o::os) E Q:=oP h k hg hp
theorem tT(k:RW P Γ pn ops os (E.app wr chg) Q)(h:Ok P Γ o E (E.app wr chg):=by exact zOf rfl rfl rfl rfl)(hg:o.guard=i8:=by rfl)(hp:pn.ok o.dst=i9:=by rfl):RW P Γ pn ops (o::os) E Q:=oP h k hg hp
theorem zAF(k:RW P Γ pn ops os (E.app wr chg) Q)(h:Ok P Γ o E (E.app wr chg):=by exact zRf (by first|exact wF rfl rfl|exact tG rfl rfl (by first|rfl|exact zR (by assumption) rfl|exact zR (by assumption) (zR (by assumption) rfl)|exact yV rfl (zR (by assumption) rfl)|exact yZ (zR (by assumption) rfl)|exact yZ (yV rfl (zR (by assumption) rfl))|exact yZ (yV rfl (zR (by assumption) (zR (by assumption) rfl)))) rfl) rfl (by assumption) rfl)(hg:o.guard=i8:=by rfl)(hp:pn.ok o.dst=i9:=by rfl):RW P Γ pn ops (o::os) E Q:=oP h k hg hp
theorem sO(k:RW P Γ pn ops os (E.app wr chg) Q)(h:Ok P Γ o E (E.app wr chg):=by exact zMH (by first|exact wF rfl rfl|exact tG rfl rfl (by first|rfl|exact zR (by assumption) rfl|exact zR (by assumption) (zR (by assumption) rfl)|exact yV rfl (zR (by assumption) rfl)|exact yZ (zR (by assumption) rfl)|exact yZ (yV rfl (zR (by assumption) rfl))|exact yZ (yV rfl (zR (by assumption) (zR (by assumption) rfl)))) rfl) rfl)(hg:o.guard=i8:=by rfl)(hp:pn.ok o.dst=i9:=by rfl):RW P Γ pn ops (o::os) E Q:=oP h k hg hp
theorem wD(k:RW P Γ pn ops os (E.app wr chg) Q)(h:Ok P Γ o E (E.app wr chg):=by exact qJ (by assumption) rfl rfl rfl)(hg:o.guard=i8:=by rfl)(hp:pn.ok o.dst=i9:=by rfl):RW P Γ pn ops (o::os) E Q:=oP h k hg hp
theorem uJ(k:RW P Γ pn ops os (E.app wr chg) Q)(h:Ok P Γ o E (E.app wr chg):=by exact zKL rfl rfl rfl)(hg:o.guard=i8:=by rfl)(hp:pn.ok o.dst=i9:=by rfl):RW P Γ pn ops (o::os) E Q:=oP h k hg hp
theorem zVr{g s:Nat}{b:Bool}(k:RW P Γ pn ops os (E.app wr chg) Q)(hg:o.guard=i7 (g,b):=by rfl)(gn:(ops[g]?).bind (·.dst)=i7 s:=by rfl)(hb:E s=i7 (.lit (.bool b)):=by rfl)(h:Ok P Γ o E (E.app wr chg):=by exact zKL rfl rfl rfl)(hp:pn.ok o.dst=i9:=by rfl):RW P Γ pn ops (o::os) E Q:=RW.cons (zW.guard g b s h hg gn hb) k hp
theorem zAz(k:RW P Γ pn ops os (E.app wr chg) Q)(h:Ok P Γ o E (E.app wr chg):=by exact zMC rfl rfl rfl)(hg:o.guard=i8:=by rfl)(hp:pn.ok o.dst=i9:=by rfl):RW P Γ pn ops (o::os) E Q:=oP h k hg hp
theorem uR(k:RW P Γ pn ops os (E.app wr chg) Q)(h:Ok P Γ o E (E.app wr chg):=by exact zWb inferInstance (by first|exact wF rfl rfl|exact tG rfl rfl (by first|rfl|exact zR (by assumption) rfl|exact zR (by assumption) (zR (by assumption) rfl)|exact yV rfl (zR (by assumption) rfl)|exact yZ (zR (by assumption) rfl)|exact yZ (yV rfl (zR (by assumption) rfl))|exact yZ (yV rfl (zR (by assumption) (zR (by assumption) rfl)))) rfl) rfl rfl rfl)(hg:o.guard=i8:=by rfl)(hp:pn.ok o.dst=i9:=by rfl):RW P Γ pn ops (o::os) E Q:=oP h k hg hp
theorem vP(k:RW P Γ pn ops os (E.app wr chg) Q)(h:Ok P Γ o E (E.app wr chg):=by first|exact zMG rfl rfl rfl rfl rfl rfl|exact zMG rfl rfl (by first|rfl|exact zR (by assumption) rfl|exact zR (by assumption) (zR (by assumption) rfl)|exact yV rfl (zR (by assumption) rfl)|exact yZ (zR (by assumption) rfl)|exact yZ (yV rfl (zR (by assumption) rfl))|exact yZ (yV rfl (zR (by assumption) (zR (by assumption) rfl)))) (by rfl) (by rfl) (by rfl))(hg:o.guard=i8:=by rfl)(hp:pn.ok o.dst=i9:=by rfl):RW P Γ pn ops (o::os) E Q:=oP h k hg hp
theorem zWq{g s:Nat}{b:Bool}(k:RW P Γ pn ops os (E.app wr chg) Q)(hg:o.guard=i7 (g,b):=by rfl)(gn:(ops[g]?).bind (·.dst)=i7 s:=by rfl)(hb:E s=i7 (.lit (.bool b)):=by rfl)(h:Ok P Γ o E (E.app wr chg):=by first|exact zMG rfl rfl rfl rfl rfl rfl|exact zMG rfl rfl (by first|rfl|exact zR (by assumption) rfl|exact zR (by assumption) (zR (by assumption) rfl)|exact yV rfl (zR (by assumption) rfl)|exact yZ (zR (by assumption) rfl)|exact yZ (yV rfl (zR (by assumption) rfl))|exact yZ (yV rfl (zR (by assumption) (zR (by assumption) rfl)))) (by rfl) (by rfl) (by rfl))(hp:pn.ok o.dst=i9:=by rfl):RW P Γ pn ops (o::os) E Q:=RW.cons (zW.guard g b s h hg gn hb) k hp
theorem jB(k:RW P Γ pn ops os (E.app wr chg) Q)(h:Ok P Γ o E (E.app wr chg):=by first|exact zKZ (by first|exact wF rfl rfl|exact tG rfl rfl (by first|rfl|exact zR (by assumption) rfl|exact zR (by assumption) (zR (by assumption) rfl)|exact yV rfl (zR (by assumption) rfl)|exact yZ (zR (by assumption) rfl)|exact yZ (yV rfl (zR (by assumption) rfl))|exact yZ (yV rfl (zR (by assumption) (zR (by assumption) rfl)))) rfl) rfl rfl rfl rfl rfl|exact zKZ (by first|exact wF rfl rfl|exact tG rfl rfl (by first|rfl|exact zR (by assumption) rfl|exact zR (by assumption) (zR (by assumption) rfl)|exact yV rfl (zR (by assumption) rfl)|exact yZ (zR (by assumption) rfl)|exact yZ (yV rfl (zR (by assumption) rfl))|exact yZ (yV rfl (zR (by assumption) (zR (by assumption) rfl)))) rfl) rfl (by first|rfl|exact zR (by assumption) rfl|exact zR (by assumption) (zR (by assumption) rfl)|exact yV rfl (zR (by assumption) rfl)|exact yZ (zR (by assumption) rfl)|exact yZ (yV rfl (zR (by assumption) rfl))|exact yZ (yV rfl (zR (by assumption) (zR (by assumption) rfl)))) (by rfl) (by rfl) (by rfl))(hg:o.guard=i8:=by rfl)(hp:pn.ok o.dst=i9:=by rfl):RW P Γ pn ops (o::os) E Q:=oP h k hg hp
theorem zHd(k:RW P Γ pn ops os (E.app wr chg) Q)(h:Ok P Γ o E (E.app wr chg):=by exact zFM (by assumption) rfl rfl rfl)(hg:o.guard=i8:=by rfl)(hp:pn.ok o.dst=i9:=by rfl):RW P Γ pn ops (o::os) E Q:=oP h k hg hp
theorem zXF{g s:Nat}{b:Bool}(k:RW P Γ pn ops os (E.app wr chg) Q)(hg:o.guard=i7 (g,b):=by rfl)(gn:(ops[g]?).bind (·.dst)=i7 s:=by rfl)(hb:E s=i7 (.lit (.bool b)):=by rfl)(h:Ok P Γ o E (E.app wr chg):=by exact zBV rfl rfl)(hp:pn.ok o.dst=i9:=by rfl):RW P Γ pn ops (o::os) E Q:=RW.cons (zW.guard g b s h hg gn hb) k hp
theorem zVs(k:RW P Γ pn ops os (E.app wr chg) Q)(h:Ok P Γ o E (E.app wr chg):=by exact zQU rfl rfl rfl)(hg:o.guard=i8:=by rfl)(hp:pn.ok o.dst=i9:=by rfl):RW P Γ pn ops (o::os) E Q:=oP h k hg hp
theorem zXG(k:RW P Γ pn ops os (E.app wr chg) Q)(h:Ok P Γ o E (E.app wr chg):=by exact zKM rfl rfl rfl)(hg:o.guard=i8:=by rfl)(hp:pn.ok o.dst=i9:=by rfl):RW P Γ pn ops (o::os) E Q:=oP h k hg hp
theorem zXH{g s:Nat}{b:Bool}(k:RW P Γ pn ops os (E.app wr chg) Q)(hg:o.guard=i7 (g,b):=by rfl)(gn:(ops[g]?).bind (·.dst)=i7 s:=by rfl)(hb:E s=i7 (.lit (.bool b)):=by rfl)(h:Ok P Γ o E (E.app wr chg):=by exact zKM rfl rfl rfl)(hp:pn.ok o.dst=i9:=by rfl):RW P Γ pn ops (o::os) E Q:=RW.cons (zW.guard g b s h hg gn hb) k hp
theorem zRg(k:RW P Γ pn ops os (E.app wr chg) Q)(h:Ok P Γ o E (E.app wr chg):=by exact zQT rfl rfl rfl)(hg:o.guard=i8:=by rfl)(hp:pn.ok o.dst=i9:=by rfl):RW P Γ pn ops (o::os) E Q:=oP h k hg hp
theorem zRh(k:RW P Γ pn ops os (E.app wr chg) Q)(h:Ok P Γ o E (E.app wr chg):=by exact zNW rfl rfl rfl)(hg:o.guard=i8:=by rfl)(hp:pn.ok o.dst=i9:=by rfl):RW P Γ pn ops (o::os) E Q:=oP h k hg hp
theorem zFP(k:RW P Γ pn ops os (E.app wr chg) Q)(h:Ok P Γ o E (E.app wr chg):=by exact zQS rfl rfl rfl)(hg:o.guard=i8:=by rfl)(hp:pn.ok o.dst=i9:=by rfl):RW P Γ pn ops (o::os) E Q:=oP h k hg hp
theorem zHe(k:RW P Γ pn ops os (E.app wr chg) Q)(h:Ok P Γ o E (E.app wr chg):=by exact zNX inferInstance rfl rfl rfl rfl)(hg:o.guard=i8:=by rfl)(hp:pn.ok o.dst=i9:=by rfl):RW P Γ pn ops (o::os) E Q:=oP h k hg hp
theorem jX(k:RW P Γ pn ops os (E.app wr chg) Q)(h:Ok P Γ o E (E.app wr chg):=by first|exact zAR rfl (zEu rfl) rfl|exact zAR rfl (isPtr_addr rfl) rfl|exact zAR rfl (zFn (by first|exact wF rfl rfl|exact tG rfl rfl (by first|rfl|exact zR (by assumption) rfl|exact zR (by assumption) (zR (by assumption) rfl)|exact yV rfl (zR (by assumption) rfl)|exact yZ (zR (by assumption) rfl)|exact yZ (yV rfl (zR (by assumption) rfl))|exact yZ (yV rfl (zR (by assumption) (zR (by assumption) rfl)))) rfl)) rfl)(hg:o.guard=i8:=by rfl)(hp:pn.ok o.dst=i9:=by rfl):RW P Γ pn ops (o::os) E Q:=oP h k hg hp
theorem zDL(k:RW P Γ pn ops os (E.app wr chg) Q)(h:Ok P Γ o E (E.app wr chg):=by exact zWp (by first|exact wF rfl rfl|exact tG rfl rfl (by first|rfl|exact zR (by assumption) rfl|exact zR (by assumption) (zR (by assumption) rfl)|exact yV rfl (zR (by assumption) rfl)|exact yZ (zR (by assumption) rfl)|exact yZ (yV rfl (zR (by assumption) rfl))|exact yZ (yV rfl (zR (by assumption) (zR (by assumption) rfl)))) rfl) rfl (by assumption) rfl)(hg:o.guard=i8:=by rfl)(hp:pn.ok o.dst=i9:=by rfl):RW P Γ pn ops (o::os) E Q:=oP h k hg hp
theorem zWr{g s:Nat}{b:Bool}(k:RW P Γ pn ops os (E.app wr chg) Q)(hg:o.guard=i7 (g,b):=by rfl)(gn:(ops[g]?).bind (·.dst)=i7 s:=by rfl)(hb:E s=i7 (.lit (.bool b)):=by rfl)(h:Ok P Γ o E (E.app wr chg):=by exact zWp (by first|exact wF rfl rfl|exact tG rfl rfl (by first|rfl|exact zR (by assumption) rfl|exact zR (by assumption) (zR (by assumption) rfl)|exact yV rfl (zR (by assumption) rfl)|exact yZ (zR (by assumption) rfl)|exact yZ (yV rfl (zR (by assumption) rfl))|exact yZ (yV rfl (zR (by assumption) (zR (by assumption) rfl)))) rfl) rfl (by assumption) rfl)(hp:pn.ok o.dst=i9:=by rfl):RW P Γ pn ops (o::os) E Q:=RW.cons (zW.guard g b s h hg gn hb) k hp
theorem zCs(k:RW P Γ pn ops os (E.app wr chg) Q)(h:Ok P Γ o E (E.app wr chg):=by exact zVq (by first|exact wF rfl rfl|exact tG rfl rfl (by first|rfl|exact zR (by assumption) rfl|exact zR (by assumption) (zR (by assumption) rfl)|exact yV rfl (zR (by assumption) rfl)|exact yZ (zR (by assumption) rfl)|exact yZ (yV rfl (zR (by assumption) rfl))|exact yZ (yV rfl (zR (by assumption) (zR (by assumption) rfl)))) rfl) rfl)(hg:o.guard=i8:=by rfl)(hp:pn.ok o.dst=i9:=by rfl):RW P Γ pn ops (o::os) E Q:=oP h k hg hp
theorem zVt{g s:Nat}{b:Bool}(k:RW P Γ pn ops os (E.app wr chg) Q)(hg:o.guard=i7 (g,b):=by rfl)(gn:(ops[g]?).bind (·.dst)=i7 s:=by rfl)(hb:E s=i7 (.lit (.bool b)):=by rfl)(h:Ok P Γ o E (E.app wr chg):=by exact zVq (by first|exact wF rfl rfl|exact tG rfl rfl (by first|rfl|exact zR (by assumption) rfl|exact zR (by assumption) (zR (by assumption) rfl)|exact yV rfl (zR (by assumption) rfl)|exact yZ (zR (by assumption) rfl)|exact yZ (yV rfl (zR (by assumption) rfl))|exact yZ (yV rfl (zR (by assumption) (zR (by assumption) rfl)))) rfl) rfl)(hp:pn.ok o.dst=i9:=by rfl):RW P Γ pn ops (o::os) E Q:=RW.cons (zW.guard g b s h hg gn hb) k hp
theorem zBY(k:RW P Γ pn ops os (E.app wr chg) Q)(h:Ok P Γ o E (E.app wr chg):=by exact zQR (by assumption) rfl rfl rfl)(hg:o.guard=i8:=by rfl)(hp:pn.ok o.dst=i9:=by rfl):RW P Γ pn ops (o::os) E Q:=oP h k hg hp
theorem sV(k:RW P Γ pn ops os (E.app wr chg) Q)(h:Ok P Γ o E (E.app wr chg):=by exact zJ5 inferInstance rfl)(hg:o.guard=i8:=by rfl)(hp:pn.ok o.dst=i9:=by rfl):RW P Γ pn ops (o::os) E Q:=oP h k hg hp
theorem zOg(k:RW P Γ pn ops os (E.app wr chg) Q)(h:Ok P Γ o E (E.app wr chg):=by exact zVk rfl rfl rfl)(hg:o.guard=i8:=by rfl)(hp:pn.ok o.dst=i9:=by rfl):RW P Γ pn ops (o::os) E Q:=oP h k hg hp
theorem zFQ(k:RW P Γ pn ops os (E.app wr chg) Q)(h:Ok P Γ o E (E.app wr chg):=by exact zVl rfl (zCV rfl) rfl)(hg:o.guard=i8:=by rfl)(hp:pn.ok o.dst=i9:=by rfl):RW P Γ pn ops (o::os) E Q:=oP h k hg hp
theorem zVu(k:RW P Γ pn ops os (E.app wr chg) Q)(h:Ok P Γ o E (E.app wr chg):=by exact zVo rfl rfl)(hg:o.guard=i8:=by rfl)(hp:pn.ok o.dst=i9:=by rfl):RW P Γ pn ops (o::os) E Q:=oP h k hg hp
theorem yF(rd:List (Nat×T))(k:DK P Γ pn ops id hs E0 Q os (E.app wr chg) (⟨rd,[(wr,chg)]⟩::acc))(gy:E.Has rd:=by repeat (first|exact trivial|refine⟨rfl,?_⟩))(h:∀E':Env,E'.Has rd→Ok P Γ o E' (E'.app wr chg):=by intro E' h;exact zMB (hO h rfl) rfl)(hg:o.guard=i8:=by rfl):DK P Γ pn ops id hs E0 Q (o::os) E acc:=dG rd [(wr,chg)] gy (fun E' h'=>zW.op (h E' h') hg) k
theorem zCa{g s:Nat}{b:Bool}(rd:List (Nat×T))(k:DK P Γ pn ops id hs E0 Q os (E.app wr chg) (⟨rd,[(wr,chg)]⟩::acc))(gy:E.Has rd:=by repeat (first|exact trivial|refine⟨rfl,?_⟩))(hg:o.guard=i7 (g,b):=by rfl)(gn:(ops[g]?).bind (·.dst)=i7 s:=by rfl)(hb:yU rd s=i7 (.lit (.bool b)):=by rfl)(h:∀E':Env,E'.Has rd→Ok P Γ o E' (E'.app wr chg):=by intro E' h;exact zMB (hO h rfl) rfl):DK P Γ pn ops id hs E0 Q (o::os) E acc:=dG rd [(wr,chg)] gy (fun E' h'=>zW.guard g b s (h E' h') hg gn (hE h' hb)) k
theorem zDn(rd:List (Nat×T))(k:DK P Γ pn ops id hs E0 Q os (E.app wr chg) (⟨rd,[(wr,chg)]⟩::acc))(gy:E.Has rd:=by repeat (first|exact trivial|refine⟨rfl,?_⟩))(h:∀E':Env,E'.Has rd→Ok P Γ o E' (E'.app wr chg):=by intro E' h;exact zTO (hO h rfl) rfl)(hg:o.guard=i8:=by rfl):DK P Γ pn ops id hs E0 Q (o::os) E acc:=dG rd [(wr,chg)] gy (fun E' h'=>zW.op (h E' h') hg) k
theorem wU(rd:List (Nat×T))(k:DK P Γ pn ops id hs E0 Q os (E.app wr chg) (⟨rd,[(wr,chg)]⟩::acc))(gy:E.Has rd:=by repeat (first|exact trivial|refine⟨rfl,?_⟩))(h:∀E':Env,E'.Has rd→Ok P Γ o E' (E'.app wr chg):=by intro E' h;exact zOf (hO h rfl) rfl rfl rfl)(hg:o.guard=i8:=by rfl):DK P Γ pn ops id hs E0 Q (o::os) E acc:=dG rd [(wr,chg)] gy (fun E' h'=>zW.op (h E' h') hg) k
theorem zBn{g s:Nat}{b:Bool}(rd:List (Nat×T))(k:DK P Γ pn ops id hs E0 Q os (E.app wr chg) (⟨rd,[(wr,chg)]⟩::acc))(gy:E.Has rd:=by repeat (first|exact trivial|refine⟨rfl,?_⟩))(hg:o.guard=i7 (g,b):=by rfl)(gn:(ops[g]?).bind (·.dst)=i7 s:=by rfl)(hb:yU rd s=i7 (.lit (.bool b)):=by rfl)(h:∀E':Env,E'.Has rd→Ok P Γ o E' (E'.app wr chg):=by intro E' h;exact zOf (hO h rfl) rfl rfl rfl):DK P Γ pn ops id hs E0 Q (o::os) E acc:=dG rd [(wr,chg)] gy (fun E' h'=>zW.guard g b s (h E' h') hg gn (hE h' hb)) k
theorem zAa(rd:List (Nat×T))(k:DK P Γ pn ops id hs E0 Q os (E.app wr chg) (⟨rd,[(wr,chg)]⟩::acc))(gy:E.Has rd:=by repeat (first|exact trivial|refine⟨rfl,?_⟩))(h:∀E':Env,E'.Has rd→Ok P Γ o E' (E'.app wr chg):=by intro E' h;exact zRf (by first|exact wF (hE h rfl) rfl|exact tG (hE h rfl) (hE h rfl) (by first|rfl|exact zR (by assumption) rfl|exact zR (by assumption) (zR (by assumption) rfl)|exact yV rfl (zR (by assumption) rfl)|exact yZ (zR (by assumption) rfl)|exact yZ (yV rfl (zR (by assumption) rfl))|exact yZ (yV rfl (zR (by assumption) (zR (by assumption) rfl)))) rfl) (hO h rfl) (by assumption) rfl)(hg:o.guard=i8:=by rfl):DK P Γ pn ops id hs E0 Q (o::os) E acc:=dG rd [(wr,chg)] gy (fun E' h'=>zW.op (h E' h') hg) k
theorem zOh{g s:Nat}{b:Bool}(rd:List (Nat×T))(k:DK P Γ pn ops id hs E0 Q os (E.app wr chg) (⟨rd,[(wr,chg)]⟩::acc))(gy:E.Has rd:=by repeat (first|exact trivial|refine⟨rfl,?_⟩))(hg:o.guard=i7 (g,b):=by rfl)(gn:(ops[g]?).bind (·.dst)=i7 s:=by rfl)(hb:yU rd s=i7 (.lit (.bool b)):=by rfl)(h:∀E':Env,E'.Has rd→Ok P Γ o E' (E'.app wr chg):=by intro E' h;exact zRf (by first|exact wF (hE h rfl) rfl|exact tG (hE h rfl) (hE h rfl) (by first|rfl|exact zR (by assumption) rfl|exact zR (by assumption) (zR (by assumption) rfl)|exact yV rfl (zR (by assumption) rfl)|exact yZ (zR (by assumption) rfl)|exact yZ (yV rfl (zR (by assumption) rfl))|exact yZ (yV rfl (zR (by assumption) (zR (by assumption) rfl)))) rfl) (hO h rfl) (by assumption) rfl):DK P Γ pn ops id hs E0 Q (o::os) E acc:=dG rd [(wr,chg)] gy (fun E' h'=>zW.guard g b s (h E' h') hg gn (hE h' hb)) k
theorem zHf(rd:List (Nat×T))(k:DK P Γ pn ops id hs E0 Q os (E.app wr chg) (⟨rd,[(wr,chg)]⟩::acc))(gy:E.Has rd:=by repeat (first|exact trivial|refine⟨rfl,?_⟩))(h:∀E':Env,E'.Has rd→Ok P Γ o E' (E'.app wr chg):=by intro E' h;exact zMH (by first|exact wF (hE h rfl) rfl|exact tG (hE h rfl) (hE h rfl) (by first|rfl|exact zR (by assumption) rfl|exact zR (by assumption) (zR (by assumption) rfl)|exact yV rfl (zR (by assumption) rfl)|exact yZ (zR (by assumption) rfl)|exact yZ (yV rfl (zR (by assumption) rfl))|exact yZ (yV rfl (zR (by assumption) (zR (by assumption) rfl)))) rfl) rfl)(hg:o.guard=i8:=by rfl):DK P Γ pn ops id hs E0 Q (o::os) E acc:=dG rd [(wr,chg)] gy (fun E' h'=>zW.op (h E' h') hg) k
theorem zMI{g s:Nat}{b:Bool}(rd:List (Nat×T))(k:DK P Γ pn ops id hs E0 Q os (E.app wr chg) (⟨rd,[(wr,chg)]⟩::acc))(gy:E.Has rd:=by repeat (first|exact trivial|refine⟨rfl,?_⟩))(hg:o.guard=i7 (g,b):=by rfl)(gn:(ops[g]?).bind (·.dst)=i7 s:=by rfl)(hb:yU rd s=i7 (.lit (.bool b)):=by rfl)(h:∀E':Env,E'.Has rd→Ok P Γ o E' (E'.app wr chg):=by intro E' h;exact zMH (by first|exact wF (hE h rfl) rfl|exact tG (hE h rfl) (hE h rfl) (by first|rfl|exact zR (by assumption) rfl|exact zR (by assumption) (zR (by assumption) rfl)|exact yV rfl (zR (by assumption) rfl)|exact yZ (zR (by assumption) rfl)|exact yZ (yV rfl (zR (by assumption) rfl))|exact yZ (yV rfl (zR (by assumption) (zR (by assumption) rfl)))) rfl) rfl):DK P Γ pn ops id hs E0 Q (o::os) E acc:=dG rd [(wr,chg)] gy (fun E' h'=>zW.guard g b s (h E' h') hg gn (hE h' hb)) k
theorem zEy(rd:List (Nat×T))(k:DK P Γ pn ops id hs E0 Q os (E.app wr chg) (⟨rd,[(wr,chg)]⟩::acc))(gy:E.Has rd:=by repeat (first|exact trivial|refine⟨rfl,?_⟩))(h:∀E':Env,E'.Has rd→Ok P Γ o E' (E'.app wr chg):=by intro E' h;exact qJ (by assumption) (hO h rfl) (hO h rfl) rfl)(hg:o.guard=i8:=by rfl):DK P Γ pn ops id hs E0 Q (o::os) E acc:=dG rd [(wr,chg)] gy (fun E' h'=>zW.op (h E' h') hg) k
theorem tZ(rd:List (Nat×T))(k:DK P Γ pn ops id hs E0 Q os (E.app wr chg) (⟨rd,[(wr,chg)]⟩::acc))(gy:E.Has rd:=by repeat (first|exact trivial|refine⟨rfl,?_⟩))(h:∀E':Env,E'.Has rd→Ok P Γ o E' (E'.app wr chg):=by intro E' h;exact zMC (hO h rfl) (hO h rfl) rfl)(hg:o.guard=i8:=by rfl):DK P Γ pn ops id hs E0 Q (o::os) E acc:=dG rd [(wr,chg)] gy (fun E' h'=>zW.op (h E' h') hg) k
theorem kR(rd:List (Nat×T))(k:DK P Γ pn ops id hs E0 Q os (E.app wr chg) (⟨rd,[(wr,chg)]⟩::acc))(gy:E.Has rd:=by repeat (first|exact trivial|refine⟨rfl,?_⟩))(h:∀E':Env,E'.Has rd→Ok P Γ o E' (E'.app wr chg):=by intro E' h;exact zWb inferInstance (by first|exact wF (hE h rfl) rfl|exact tG (hE h rfl) (hE h rfl) (by first|rfl|exact zR (by assumption) rfl|exact zR (by assumption) (zR (by assumption) rfl)|exact yV rfl (zR (by assumption) rfl)|exact yZ (zR (by assumption) rfl)|exact yZ (yV rfl (zR (by assumption) rfl))|exact yZ (yV rfl (zR (by assumption) (zR (by assumption) rfl)))) rfl) rfl rfl rfl)(hg:o.guard=i8:=by rfl):DK P Γ pn ops id hs E0 Q (o::os) E acc:=dG rd [(wr,chg)] gy (fun E' h'=>zW.op (h E' h') hg) k
theorem qD(rd:List (Nat×T))(k:DK P Γ pn ops id hs E0 Q os (E.app wr chg) (⟨rd,[(wr,chg)]⟩::acc))(gy:E.Has rd:=by repeat (first|exact trivial|refine⟨rfl,?_⟩))(h:∀E':Env,E'.Has rd→Ok P Γ o E' (E'.app wr chg):=by intro E' h;first|exact zMG (hO h rfl) (hE h rfl) rfl rfl rfl rfl|exact zMG (hO h rfl) (hE h rfl) (by first|rfl|exact zR (by assumption) rfl|exact zR (by assumption) (zR (by assumption) rfl)|exact yV rfl (zR (by assumption) rfl)|exact yZ (zR (by assumption) rfl)|exact yZ (yV rfl (zR (by assumption) rfl))|exact yZ (yV rfl (zR (by assumption) (zR (by assumption) rfl)))) (by rfl) (by rfl) (by rfl))(hg:o.guard=i8:=by rfl):DK P Γ pn ops id hs E0 Q (o::os) E acc:=dG rd [(wr,chg)] gy (fun E' h'=>zW.op (h E' h') hg) k
theorem vJ(rd:List (Nat×T))(k:DK P Γ pn ops id hs E0 Q os (E.app wr chg) (⟨rd,[(wr,chg)]⟩::acc))(gy:E.Has rd:=by repeat (first|exact trivial|refine⟨rfl,?_⟩))(h:∀E':Env,E'.Has rd→Ok P Γ o E' (E'.app wr chg):=by intro E' h;first|exact zKZ (by first|exact wF (hE h rfl) rfl|exact tG (hE h rfl) (hE h rfl) (by first|rfl|exact zR (by assumption) rfl|exact zR (by assumption) (zR (by assumption) rfl)|exact yV rfl (zR (by assumption) rfl)|exact yZ (zR (by assumption) rfl)|exact yZ (yV rfl (zR (by assumption) rfl))|exact yZ (yV rfl (zR (by assumption) (zR (by assumption) rfl)))) rfl) (hE h rfl) rfl rfl rfl rfl|exact zKZ (by first|exact wF (hE h rfl) rfl|exact tG (hE h rfl) (hE h rfl) (by first|rfl|exact zR (by assumption) rfl|exact zR (by assumption) (zR (by assumption) rfl)|exact yV rfl (zR (by assumption) rfl)|exact yZ (zR (by assumption) rfl)|exact yZ (yV rfl (zR (by assumption) rfl))|exact yZ (yV rfl (zR (by assumption) (zR (by assumption) rfl)))) rfl) (hE h rfl) (by first|rfl|exact zR (by assumption) rfl|exact zR (by assumption) (zR (by assumption) rfl)|exact yV rfl (zR (by assumption) rfl)|exact yZ (zR (by assumption) rfl)|exact yZ (yV rfl (zR (by assumption) rfl))|exact yZ (yV rfl (zR (by assumption) (zR (by assumption) rfl)))) (by rfl) (by rfl) (by rfl))(hg:o.guard=i8:=by rfl):DK P Γ pn ops id hs E0 Q (o::os) E acc:=dG rd [(wr,chg)] gy (fun E' h'=>zW.op (h E' h') hg) k
theorem zIH(rd:List (Nat×T))(k:DK P Γ pn ops id hs E0 Q os (E.app wr chg) (⟨rd,[(wr,chg)]⟩::acc))(gy:E.Has rd:=by repeat (first|exact trivial|refine⟨rfl,?_⟩))(h:∀E':Env,E'.Has rd→Ok P Γ o E' (E'.app wr chg):=by intro E' h;exact zFM (by assumption) (hO h rfl) (hO h rfl) rfl)(hg:o.guard=i8:=by rfl):DK P Γ pn ops id hs E0 Q (o::os) E acc:=dG rd [(wr,chg)] gy (fun E' h'=>zW.op (h E' h') hg) k
theorem zXI{g s:Nat}{b:Bool}(rd:List (Nat×T))(k:DK P Γ pn ops id hs E0 Q os (E.app wr chg) (⟨rd,[(wr,chg)]⟩::acc))(gy:E.Has rd:=by repeat (first|exact trivial|refine⟨rfl,?_⟩))(hg:o.guard=i7 (g,b):=by rfl)(gn:(ops[g]?).bind (·.dst)=i7 s:=by rfl)(hb:yU rd s=i7 (.lit (.bool b)):=by rfl)(h:∀E':Env,E'.Has rd→Ok P Γ o E' (E'.app wr chg):=by intro E' h;exact zFM (by assumption) (hO h rfl) (hO h rfl) rfl):DK P Γ pn ops id hs E0 Q (o::os) E acc:=dG rd [(wr,chg)] gy (fun E' h'=>zW.guard g b s (h E' h') hg gn (hE h' hb)) k
theorem zXJ(rd:List (Nat×T))(k:DK P Γ pn ops id hs E0 Q os (E.app wr chg) (⟨rd,[(wr,chg)]⟩::acc))(gy:E.Has rd:=by repeat (first|exact trivial|refine⟨rfl,?_⟩))(h:∀E':Env,E'.Has rd→Ok P Γ o E' (E'.app wr chg):=by intro E' h;exact zBV (hO h rfl) rfl)(hg:o.guard=i8:=by rfl):DK P Γ pn ops id hs E0 Q (o::os) E acc:=dG rd [(wr,chg)] gy (fun E' h'=>zW.op (h E' h') hg) k
theorem zVv{g s:Nat}{b:Bool}(rd:List (Nat×T))(k:DK P Γ pn ops id hs E0 Q os (E.app wr chg) (⟨rd,[(wr,chg)]⟩::acc))(gy:E.Has rd:=by repeat (first|exact trivial|refine⟨rfl,?_⟩))(hg:o.guard=i7 (g,b):=by rfl)(gn:(ops[g]?).bind (·.dst)=i7 s:=by rfl)(hb:yU rd s=i7 (.lit (.bool b)):=by rfl)(h:∀E':Env,E'.Has rd→Ok P Γ o E' (E'.app wr chg):=by intro E' h;exact zQU (hO h rfl) (hO h rfl) rfl):DK P Γ pn ops id hs E0 Q (o::os) E acc:=dG rd [(wr,chg)] gy (fun E' h'=>zW.guard g b s (h E' h') hg gn (hE h' hb)) k
theorem zXK{g s:Nat}{b:Bool}(rd:List (Nat×T))(k:DK P Γ pn ops id hs E0 Q os (E.app wr chg) (⟨rd,[(wr,chg)]⟩::acc))(gy:E.Has rd:=by repeat (first|exact trivial|refine⟨rfl,?_⟩))(hg:o.guard=i7 (g,b):=by rfl)(gn:(ops[g]?).bind (·.dst)=i7 s:=by rfl)(hb:yU rd s=i7 (.lit (.bool b)):=by rfl)(h:∀E':Env,E'.Has rd→Ok P Γ o E' (E'.app wr chg):=by intro E' h;exact zQT (hO h rfl) (hO h rfl) rfl):DK P Γ pn ops id hs E0 Q (o::os) E acc:=dG rd [(wr,chg)] gy (fun E' h'=>zW.guard g b s (h E' h') hg gn (hE h' hb)) k
theorem zXL{g s:Nat}{b:Bool}(rd:List (Nat×T))(k:DK P Γ pn ops id hs E0 Q os (E.app wr chg) (⟨rd,[(wr,chg)]⟩::acc))(gy:E.Has rd:=by repeat (first|exact trivial|refine⟨rfl,?_⟩))(hg:o.guard=i7 (g,b):=by rfl)(gn:(ops[g]?).bind (·.dst)=i7 s:=by rfl)(hb:yU rd s=i7 (.lit (.bool b)):=by rfl)(h:∀E':Env,E'.Has rd→Ok P Γ o E' (E'.app wr chg):=by intro E' h;exact zQS (hO h rfl) (hO h rfl) rfl):DK P Γ pn ops id hs E0 Q (o::os) E acc:=dG rd [(wr,chg)] gy (fun E' h'=>zW.guard g b s (h E' h') hg gn (hE h' hb)) k
theorem zA0(rd:List (Nat×T))(k:DK P Γ pn ops id hs E0 Q os (E.app wr chg) (⟨rd,[(wr,chg)]⟩::acc))(gy:E.Has rd:=by repeat (first|exact trivial|refine⟨rfl,?_⟩))(h:∀E':Env,E'.Has rd→Ok P Γ o E' (E'.app wr chg):=by intro E' h;exact zNX inferInstance (hO h rfl) rfl rfl rfl)(hg:o.guard=i8:=by rfl):DK P Γ pn ops id hs E0 Q (o::os) E acc:=dG rd [(wr,chg)] gy (fun E' h'=>zW.op (h E' h') hg) k
theorem zHg{g s:Nat}{b:Bool}(rd:List (Nat×T))(k:DK P Γ pn ops id hs E0 Q os (E.app wr chg) (⟨rd,[(wr,chg)]⟩::acc))(gy:E.Has rd:=by repeat (first|exact trivial|refine⟨rfl,?_⟩))(hg:o.guard=i7 (g,b):=by rfl)(gn:(ops[g]?).bind (·.dst)=i7 s:=by rfl)(hb:yU rd s=i7 (.lit (.bool b)):=by rfl)(h:∀E':Env,E'.Has rd→Ok P Γ o E' (E'.app wr chg):=by intro E' h;exact zNX inferInstance (hO h rfl) rfl rfl rfl):DK P Γ pn ops id hs E0 Q (o::os) E acc:=dG rd [(wr,chg)] gy (fun E' h'=>zW.guard g b s (h E' h') hg gn (hE h' hb)) k
theorem wT(rd:List (Nat×T))(k:DK P Γ pn ops id hs E0 Q os (E.app wr chg) (⟨rd,[(wr,chg)]⟩::acc))(gy:E.Has rd:=by repeat (first|exact trivial|refine⟨rfl,?_⟩))(h:∀E':Env,E'.Has rd→Ok P Γ o E' (E'.app wr chg):=by intro E' h;first|exact zAR (hO h rfl) (zEu (hO h rfl)) rfl|exact zAR (hO h rfl) (isPtr_addr (hO h rfl)) rfl|exact zAR (hO h rfl) (zFn (by first|exact wF (hE h rfl) rfl|exact tG (hE h rfl) (hE h rfl) (by first|rfl|exact zR (by assumption) rfl|exact zR (by assumption) (zR (by assumption) rfl)|exact yV rfl (zR (by assumption) rfl)|exact yZ (zR (by assumption) rfl)|exact yZ (yV rfl (zR (by assumption) rfl))|exact yZ (yV rfl (zR (by assumption) (zR (by assumption) rfl)))) rfl)) rfl)(hg:o.guard=i8:=by rfl):DK P Γ pn ops id hs E0 Q (o::os) E acc:=dG rd [(wr,chg)] gy (fun E' h'=>zW.op (h E' h') hg) k
theorem zDM{g s:Nat}{b:Bool}(rd:List (Nat×T))(k:DK P Γ pn ops id hs E0 Q os (E.app wr chg) (⟨rd,[(wr,chg)]⟩::acc))(gy:E.Has rd:=by repeat (first|exact trivial|refine⟨rfl,?_⟩))(hg:o.guard=i7 (g,b):=by rfl)(gn:(ops[g]?).bind (·.dst)=i7 s:=by rfl)(hb:yU rd s=i7 (.lit (.bool b)):=by rfl)(h:∀E':Env,E'.Has rd→Ok P Γ o E' (E'.app wr chg):=by intro E' h;first|exact zAR (hO h rfl) (zEu (hO h rfl)) rfl|exact zAR (hO h rfl) (isPtr_addr (hO h rfl)) rfl|exact zAR (hO h rfl) (zFn (by first|exact wF (hE h rfl) rfl|exact tG (hE h rfl) (hE h rfl) (by first|rfl|exact zR (by assumption) rfl|exact zR (by assumption) (zR (by assumption) rfl)|exact yV rfl (zR (by assumption) rfl)|exact yZ (zR (by assumption) rfl)|exact yZ (yV rfl (zR (by assumption) rfl))|exact yZ (yV rfl (zR (by assumption) (zR (by assumption) rfl)))) rfl)) rfl):DK P Γ pn ops id hs E0 Q (o::os) E acc:=dG rd [(wr,chg)] gy (fun E' h'=>zW.guard g b s (h E' h') hg gn (hE h' hb)) k
theorem zGe(rd:List (Nat×T))(k:DK P Γ pn ops id hs E0 Q os (E.app wr chg) (⟨rd,[(wr,chg)]⟩::acc))(gy:E.Has rd:=by repeat (first|exact trivial|refine⟨rfl,?_⟩))(h:∀E':Env,E'.Has rd→Ok P Γ o E' (E'.app wr chg):=by intro E' h;exact zWp (by first|exact wF (hE h rfl) rfl|exact tG (hE h rfl) (hE h rfl) (by first|rfl|exact zR (by assumption) rfl|exact zR (by assumption) (zR (by assumption) rfl)|exact yV rfl (zR (by assumption) rfl)|exact yZ (zR (by assumption) rfl)|exact yZ (yV rfl (zR (by assumption) rfl))|exact yZ (yV rfl (zR (by assumption) (zR (by assumption) rfl)))) rfl) (hO h rfl) (by assumption) rfl)(hg:o.guard=i8:=by rfl):DK P Γ pn ops id hs E0 Q (o::os) E acc:=dG rd [(wr,chg)] gy (fun E' h'=>zW.op (h E' h') hg) k
theorem zRi(rd:List (Nat×T))(k:DK P Γ pn ops id hs E0 Q os (E.app wr chg) (⟨rd,[(wr,chg)]⟩::acc))(gy:E.Has rd:=by repeat (first|exact trivial|refine⟨rfl,?_⟩))(h:∀E':Env,E'.Has rd→Ok P Γ o E' (E'.app wr chg):=by intro E' h;exact zQR (by assumption) (hO h rfl) (hO h rfl) rfl)(hg:o.guard=i8:=by rfl):DK P Γ pn ops id hs E0 Q (o::os) E acc:=dG rd [(wr,chg)] gy (fun E' h'=>zW.op (h E' h') hg) k
theorem zXM(rd:List (Nat×T))(k:DK P Γ pn ops id hs E0 Q os (E.app wr chg) (⟨rd,[(wr,chg)]⟩::acc))(gy:E.Has rd:=by repeat (first|exact trivial|refine⟨rfl,?_⟩))(h:∀E':Env,E'.Has rd→Ok P Γ o E' (E'.app wr chg):=by intro E' h;exact zVj (by assumption) (hO h rfl) (hO h rfl) rfl)(hg:o.guard=i8:=by rfl):DK P Γ pn ops id hs E0 Q (o::os) E acc:=dG rd [(wr,chg)] gy (fun E' h'=>zW.op (h E' h') hg) k
theorem zXN(rd:List (Nat×T))(k:DK P Γ pn ops id hs E0 Q os (E.app wr chg) (⟨rd,[(wr,chg)]⟩::acc))(gy:E.Has rd:=by repeat (first|exact trivial|refine⟨rfl,?_⟩))(h:∀E':Env,E'.Has rd→Ok P Γ o E' (E'.app wr chg):=by intro E' h;exact zXB (by assumption) (hO h rfl) rfl)(hg:o.guard=i8:=by rfl):DK P Γ pn ops id hs E0 Q (o::os) E acc:=dG rd [(wr,chg)] gy (fun E' h'=>zW.op (h E' h') hg) k
theorem zAl(rd:List (Nat×T))(k:DK P Γ pn ops id hs E0 Q os (E.app wr chg) (⟨rd,[(wr,chg)]⟩::acc))(gy:E.Has rd:=by repeat (first|exact trivial|refine⟨rfl,?_⟩))(h:∀E':Env,E'.Has rd→Ok P Γ o E' (E'.app wr chg):=by intro E' h;exact zJ5 inferInstance rfl)(hg:o.guard=i8:=by rfl):DK P Γ pn ops id hs E0 Q (o::os) E acc:=dG rd [(wr,chg)] gy (fun E' h'=>zW.op (h E' h') hg) k
theorem cA{f:FuncId}{xs:List Operand}{ats:Array TypeId}{us res:List T}(gr:zAT P f)(hc:FnC P f us res [])(k:RW P Γ pn ops os (E.app (cWr d res []) (uK d [])) Q)(gc:xZ E [] 0 xs us:=by repeat (first|exact trivial|refine⟨agC _ rfl (by first|rfl|exact zDj inferInstance|exact zB7 rfl (by first|rfl|exact zR (by assumption) rfl|exact zR (by assumption) (zR (by assumption) rfl)|exact yV rfl (zR (by assumption) rfl)|exact yZ (zR (by assumption) rfl)|exact yZ (yV rfl (zR (by assumption) rfl))|exact yZ (yV rfl (zR (by assumption) (zR (by assumption) rfl)))) inferInstance|exact cloSR rfl (by first|rfl|exact zR (by assumption) rfl|exact zR (by assumption) (zR (by assumption) rfl)|exact yV rfl (zR (by assumption) rfl)|exact yZ (zR (by assumption) rfl)|exact yZ (yV rfl (zR (by assumption) rfl))|exact yZ (yV rfl (zR (by assumption) (zR (by assumption) rfl))))) rfl,?_⟩))(gk:kZ res:=by repeat (first|exact tY|refine jI inferInstance ?_))(sd:J5 d Γ.N=i9:=by rfl)(hg:gd=i8:=by rfl)(hp:pn.ok (i7 d)=i9:=by rfl):
  RW P Γ pn ops (⟨i7 d,.call { callee:=.value (.func f),args:=xs.toArray,argTypes:=ats },ty,ps,af,gd⟩::os) E Q:=oP (vZ gr hc gc gk sd) k hg hp
theorem dC{f:FuncId}{xs:List Operand}{ats:Array TypeId}{us res:List T}(rd:List (Nat×T))(gr:zAT P f)(hc:FnC P f us res [])(k:DK P Γ pn ops id hs E0 Q os (E.app (cWr d res []) (uK d [])) (⟨rd,[(cWr d res [],uK d [])]⟩::acc))(gy:E.Has rd:=by repeat (first|exact trivial|refine⟨rfl,?_⟩))(gc:∀E':Env,E'.Has rd→xZ E' [] 0 xs us:=by intro E' h;repeat (first|exact trivial|refine⟨agC _ (hO h rfl) (by first|rfl|exact zDj inferInstance|exact zB7 (hE h rfl) (by first|rfl|exact zR (by assumption) rfl|exact zR (by assumption) (zR (by assumption) rfl)|exact yV rfl (zR (by assumption) rfl)|exact yZ (zR (by assumption) rfl)|exact yZ (yV rfl (zR (by assumption) rfl))|exact yZ (yV rfl (zR (by assumption) (zR (by assumption) rfl)))) inferInstance|exact cloSR (hE h rfl) (by first|rfl|exact zR (by assumption) rfl|exact zR (by assumption) (zR (by assumption) rfl)|exact yV rfl (zR (by assumption) rfl)|exact yZ (zR (by assumption) rfl)|exact yZ (yV rfl (zR (by assumption) rfl))|exact yZ (yV rfl (zR (by assumption) (zR (by assumption) rfl))))) rfl,?_⟩))(gk:kZ res:=by repeat (first|exact tY|refine jI inferInstance ?_))(sd:J5 d Γ.N=i9:=by rfl)(hg:gd=i8:=by rfl):
  DK P Γ pn ops id hs E0 Q (⟨i7 d,.call { callee:=.value (.func f),args:=xs.toArray,argTypes:=ats },ty,ps,af,gd⟩::os) E acc:=
 dG rd [(cWr d res [],uK d [])] gy (fun E' h'=>zW.op (vZ gr hc (gc E' h') gk sd) hg) k
theorem sk2{g s:Nat}{b b':Bool}(k:RW P Γ pn ops os (E.app [(d,i7 (.tup []))] [(d,0)]) Q)(hd:o.dst=i7 d:=by rfl)(hg:o.guard=i7 (g,b):=by rfl)(gn:(ops[g]?).bind (·.dst)=i7 s:=by rfl)(hb:E s=i7 (.lit (.bool b')):=by rfl)(cR:(b==b')=ia:=by rfl)(sd:J5 d Γ.N=i9:=by rfl)(hp:pn.ok o.dst=i9:=by rfl):
  RW P Γ pn ops (o::os) E Q:=RW.cons (zW.skip2 g b b' s hd sd cR hg gn hb) k hp
theorem wB{g s:Nat}{b b':Bool}(k:DK P Γ pn ops id hs E0 Q os (E.app [(d,i7 (.tup []))] [(d,0)]) (⟨[(s,.lit (.bool b'))],[([(d,i7 (.tup []))],[(d,0)])]⟩::acc))(hd:o.dst=i7 d:=by rfl)(hg:o.guard=i7 (g,b):=by rfl)(gn:(ops[g]?).bind (·.dst)=i7 s:=by rfl)(hb:E s=i7 (.lit (.bool b')):=by rfl)(cR:(b==b')=ia:=by rfl)(sd:J5 d Γ.N=i9:=by rfl):
  DK P Γ pn ops id hs E0 Q (o::os) E acc:=dG [(s,.lit (.bool b'))] [([(d,i7 (.tup []))],[(d,0)])] ⟨hb,trivial⟩ (fun _E' h=>zW.skip2 g b b' s hd sd cR hg gn h.1) k
theorem zZz{g s:Nat}{b:Bool}(k:DK P Γ pn ops id hs E0 Q os (E.app [(d,i7 (.tup []))] [(d,0)]) (⟨[(s,.tup [])],[([(d,i7 (.tup []))],[(d,0)])]⟩::acc))(hd:o.dst=i7 d:=by rfl)(hg:o.guard=i7 (g,b):=by rfl)(gn:(ops[g]?).bind (·.dst)=i7 s:=by rfl)(hb:E s=i7 (.tup []):=by rfl)(sd:J5 d Γ.N=i9:=by rfl):
  DK P Γ pn ops id hs E0 Q (o::os) E acc:=dG [(s,.tup [])] [([(d,i7 (.tup []))],[(d,0)])] ⟨hb,trivial⟩ (fun _E' h=>zW.skip3 g b s hd sd hg gn h.1) k
theorem dNA(hm:P.follows .mixedOrders=i9)(hQ:Q .normal E)(hf:zAD 0 ops.toList=i9:=by rfl)(ha:zAi (zWj ops.toList) (zWj ops.toList) ops.toList=i9:=by rfl)(hp:jT acc.reverse 0 (zWj ops.toList) acc.reverse=i9:=by rfl)
  (a6:ops.toList.all (fun o=>pn.ok o.dst)=i9:=by rfl)(hh0:zRd hs E0=i9:=by rfl)(hw:acc.reverse.all (wrS hs)=i9:=by rfl):DK P Γ pn ops id hs E0 Q [] E acc:=dN _ hm hQ hf ha hp a6 hh0 hw
theorem cn{c1 c2:Code}{α:Type}{b:Bool}{u v z:α}(h:cond b u v=z)(ht:b=i9→u=z→CW P Γ pn c1 E Q)(hf:b=ia→v=z→CW P Γ pn c2 E Q)(hb:opT E x=i7 (.lit (.bool b)):=by rfl):CW P Γ pn (.cond x c1 c2) E Q:=
 CW.cond b hb (fun hc=>ht hc (cT hc h)) fun hc=>hf hc (cF hc h)
theorem fB{f:FuncId}{fn:Func}{c:Code}{us res:List T}{rws:List (Nat×T)}(hf:P.funcs[f]? =i7 fn)(h:∀(St:Stb)(W:Nat→Prop)(w0:World)(v:Nat→Value),CW P ⟨St,W,w0,fn.ntmps⟩ (zCl v (rws.map (·.1))) c (yU (zIh 0 us)) (uX ⟨St,W,w0,fn.ntmps⟩ P fn.results us res rws))(hb:fn.body=i7 c:=by rfl)(hn:us.length≤fn.ntmps:=by exact Nat.le_of_ble_eq_true rfl)
  (ht:vM us:=by repeat (first|exact trivial|refine⟨by first|exact Top.of_clean _ (Enc.clean _)|simp[Top,vM],?_⟩))(hr:rws.all (fun x=>decide (x.1<us.length))=i9:=by rfl):FnC P f us res rws:=
 FnC.of_bodyG hf hb hn ht hr (by rintro⟨St,W,w0,N⟩ v hN;subst hN;exact h St W w0 v)
def zDN:List ResultVar→Option (List Nat)
 | []=>i7 []
 |.tmp s::l=>(zDN l).map (s::·)
 |.cell _ _::_=>i8
theorem zII:∀(rs:List ResultVar)(ss:List Nat)(res:List T),zDN rs=i7 ss→ss.map E=res.map i7→res.all T.okTup=i9→ ∃nd:Nds,zPi P E rs nd∧nd.map (·.2.2)=res∧nd.map (·.1)=ss
 | [],ss,res,h,hE,_=>by
  simp[zDN]at h;subst h;cases res with
  |nil=>exact⟨[],trivial,rfl,rfl⟩
  |cons _ _=>simp at hE
 |.tmp s::rs,ss,res,h,hE,ht=>by
  simp only[zDN,Kj]at h;obtain⟨ss',h,rfl⟩:=h;cases res with
  |nil=>simp at hE
  |cons t res=>
   simp only[Jo,Qv.injEq]at hE;simp only[Q0,J3]at ht;obtain⟨nd,h1,h2,h3⟩:=zII rs ss' res h hE.2 ht.2;exact⟨(s,[],t)::nd,⟨⟨rfl,rfl,hE.1,ht.1⟩,h1⟩,by simp[h2],by simp[h3]⟩
 |.cell _ _::_,_,_,h,_,_=>by simp[zDN]at h
theorem rT{rs:Array ResultVar}{us res:List T}{rws:List (Nat×T)}{e:Exit}{ss:List Nat}(hs:zDN rs.toList=i7 ss:=by rfl)(hE:ss.map E=res.map i7:=by rfl)(ht:res.all T.okTup=i9:=by rfl)(hl:ss.all (fun s=>Nat.ble us.length s)=i9:=by rfl)(hn:zB8 ss=i9:=by rfl)
  (hw:LOk E us rws:=by repeat (first|exact trivial|refine⟨⟨rfl,_,rfl⟩,?_⟩))(he:e=.ret∨e=.normal:=by first|exact .inl rfl|exact .inr rfl):uX Γ P rs us res rws e E:=by
 obtain⟨nd,h1,h2,h3⟩:=zII (P:=P) rs.toList ss res hs hE ht;refine⟨E,zM.refl,he,nd,h1,h2,fun x hx=>?_,by rw[h3];exact zFp hn,hw⟩;have:x.1∈ss:=by rw[←h3];exact Jm.2 ⟨x,hx,rfl⟩
 exact Nat.le_of_ble_eq_true (Kf.1 hl _ this)
theorem eN{σ ρ:Type}{en:σ→Env}{Q1:ρ→Exit→Env→Prop}{y:σ}{x:σ⊕ρ}(h:i7 (Sum.inl y)=i7 x)(q:zM Γ E (en y):=by exact .has (by repeat (first|exact trivial|refine⟨rfl,?_⟩))):vU Γ en Q1 x .normal E:=by obtain rfl:=sI h;exact⟨rfl,q⟩
theorem rTg{rs:Array ResultVar}{us res:List T}{rws:List (Nat×T)}{e:Exit}(hg:zM Γ E E')(h:uX Γ P rs us res rws e E'):uX Γ P rs us res rws e E:=by obtain⟨E2,h1,h2⟩:=h;exact⟨E2,hg.trans h1,h2⟩
theorem eX{σ ρ:Type}{en:σ→Env}{Q1:ρ→Exit→Env→Prop}{y:ρ}{x:σ⊕ρ}{e:Exit}(h:i7 (Sum.inr y)=i7 x)(q:Q1 y e E:=by first|exact⟨rfl,.has (by repeat (first|exact trivial|refine⟨rfl,?_⟩))⟩|exact⟨rfl,rT⟩)(gf:e≠.normal:=by first|exact neX|exact neR):vU Γ en Q1 x e E:=by obtain rfl:=sI h;exact⟨gf,q⟩
end
end Go.Ab

namespace Go.Ab
open Go
section
variable {Γ:Ctx}{E:Env}
theorem zM.frzG(s:Nat)(t:T){t':T}(hs:E s=i7 t)(h:vS t=t'):zM Γ E (E.app [(s,i7 t')] [(s,1)]):=h▸zM.freeze s t hs
theorem fzO{α:Type}{k:Nat}{f g:α→T}{xs:List α}(h:uP f g):vS (L k f xs)=.ro (L k g xs):=by simp only[vS,strip,sT h.h xs]
theorem fzA{xs ys:List T}(h:vY xs=ys):vS (.agg xs)=.agg ys:=by simp only[vS,h]
theorem fzN:vY []=[]:=rfl
theorem fzC{x y:T}{xs ys:List T}(h:vS x=y)(h2:vY xs=ys):vY (x::xs)=y::ys:=by simp only[vY,h,h2]
end
end Go.Ab
namespace Go.Ab
open Go
theorem zOi{α:Type}{k:Nat}{f:α→T}{xs:List α}{i j:Int}{a b:α}{X:T}(hi:ixO xs i=i7 a)(hj:ixO xs j=i7 b)(gf:(i != j)=i9):
  (if[i.toNat]=[]then X else(L k f xs).set [i.toNat].reverse T.any).get [j.toNat].reverse=i7 (f b):=by
 have h1:=(uO hi);have h2:=(uO hj);have h3:i≠j:=by simpa using gf
 have h4:i.toNat≠j.toNat:=by omega
 simp only[List.cons_ne_nil,if_false,Ug,Qe,Jt];simp[T.set,T.get,h1.2,h2.2,Q3 h4]
theorem zJC{E:Env}{rs:List Nat}{s r:Nat}{q:List Nat}{tr u:T}(hr:E r=i7 tr)(hg:tr.get q.reverse=i7 u)(h4:zAj u=i9)(hn:rs.contains r=ia):zI4 E rs (.tmp s) (.same r q)=i9:=by simp only[zI4,qA,zCT hr hg h4,hn,Kr]
end Go.Ab
