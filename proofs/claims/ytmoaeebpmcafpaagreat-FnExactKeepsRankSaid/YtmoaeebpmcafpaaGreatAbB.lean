/- The program's KeepsRank returns what the reference's returns,for all arguments;no conditions. -/
import Derived.Test.YtmoaeebpmcafpaaGreatAbA
import Derived.Laws.CopyRow
import Derived.ProofKit
open List renaming replicate→J1,getElem?_eq_getElem→J3,length_append→J5,length_cons→J7,mem_cons→J9,mem_append→Jd,append_nil→Je,range→Jg,length_map→Ji,mem_map→Jl,map_cons→Jn,length_nil→Jq,getElem?_eq_some_iff→Js,replicate_succ→Ju,nil_append→Jv,getElem?_map→K5,cons_append→K6,take_zero→Ka,mem_iff_getElem→Ke,all_eq_true→Ki,reverse_reverse→Km,range'→Kx,map_append→L8,nodup_cons→L9,length_range→Le,take_succ_cons→Lf,range_eq_range'→Lm,flatMap_cons→Lo,eq_nil_of_length_eq_zero→Lp,mem_of_getElem?→Lv,contains_eq_mem→Hc,getElem?_drop→Hi,drop_zero→Ge,mem_cons_of_mem→Gi,map_nil→U2,reverse_cons→Ul,getElem?_cons_succ→Q6,all_cons→Q7,getElem?_set_ne→Qa,reverse_nil→Qi,getElem?_set_self→Ja2,cons→Ja3,mem_iff_getElem?→Ja6,map_map→Jah,getLast?_append→Jai,dropLast_concat→Jaj,map_set→Jar,map_take→Jb9,mem_filter→Jbe,size_toArray→Jbl,getElem?_set→Jbm,getElem?_take→Jcd,map_drop→Jcl,getD→Jcm,range'_succ→Jcw
open Bool renaming and_eq_true→J4,not_true→Jo,not_false→Kd,and_self→Kt,false_eq_true→Hx,not_eq_true'→Gy
open Nat renaming blt→J6,zero_add→Jc,le_refl→Jh,mul_le_mul_right→Kb,zero_le→Kg,div_add_mod→Lg,div_lt_iff_lt_mul→Lt,le_trans→Hb,mul_comm→Hh,mod_lt→Hk,mul_one→Ht,sub_zero→Ui,add_zero→Qh,beq→Jb5
open Array renaming getElem?_setIfInBounds→Jm,getD_eq_getD_getElem?→Kl,length_toList→Ks,getElem?_toList→Kv,getElem?_eq_some_iff→L5,getElem?_setIfInBounds_ne→Hs,replicate→Qb,getElem?_append→Ja4
open Int renaming emod_eq_of_lt→Jy,add_emod_right→Uu
open Option renaming map_eq_some_iff→Ko,some→Lu,map_some→H3,getD_some→Qc
open Prod renaming mk→Jal
open Option renaming some→iG,none→iH
open Bool renaming true→iI,false→iJ
namespace Go.Ab
open Go
abbrev Rw:=List (Nat×Nat×T)
def rwI(rw:Rw)(s:Nat):Option Nat:=(rw.find? fun x=>x.2.1==s).map (·.1)
def rwS(rw:Rw)(i:Nat):Option Nat:=(rw.find? fun x=>x.1==i).map (·.2.1)
theorem zC5:(rw:Rw)→(rw.map (·.2.1)).Nodup→ ∀{i s:Nat}{u:T},(i,s,u)∈rw→rwI rw s=iG i
 | [],_,_,_,_,h=>by simp at h
 |(i0,s0,u0)::rw,hn,i,s,u,h=>by
  simp only[Jn,L9,Jl]at hn;rcases J9.1 h with h|h
  ·simp at h;obtain⟨rfl,rfl,rfl⟩:=h;simp[rwI]
  ·have gf:s0≠s:=by grind
   have:=zC5 rw hn.2 h
   grind[rwI]
theorem zLH:(rw:Rw)→(rw.map (·.1)).Nodup→ ∀{i s:Nat}{u:T},(i,s,u)∈rw→rwS rw i=iG s
 | [],_,_,_,_,h=>by simp at h
 |(i0,s0,u0)::rw,hn,i,s,u,h=>by
  simp only[Jn,L9,Jl]at hn;rcases J9.1 h with h|h
  ·simp at h;obtain⟨rfl,rfl,rfl⟩:=h;simp[rwS]
  ·have gf:i0≠i:=by grind
   have:=zLH rw hn.2 h
   grind[rwS]
theorem zLI{rw:Rw}{s:Nat}(h:s∉rw.map (·.2.1)):rwI rw s=iH:=by
 simp only[rwI,Option.map_eq_none_iff,List.find?_eq_none]
 grind
theorem zSt{rw:Rw}{i:Nat}(h:∀x∈rw,x.1≠i):rwS rw i=iH:=by grind[rwS]
theorem zPv{rw:Rw}{s i:Nat}(h:rwI rw s=iG i):s∈rw.map (·.2.1):=by grind[rwI,Ko]
abbrev Nd:=List (Nat×List Nat×T)
def zSu(nd:Nd)(k s:Nat):Option (Nat×List Nat):=
 match nd with
 | []=>iH
 |x::r=>if x.1=s then iG (k,x.2.1)else zSu r (k+1) s
def ndB(d:Nat)(nd:Nd)(s:Nat)(z:List Nat):Option (Nat×List Nat):=
 match nd with
 | [x]=>if x.1=s∧x.2.1<:+z then iG (d,z.take (z.length-x.2.1.length))else iH
 |nd=>match zSu nd 0 s with
  |some (k,q)=>if q<:+z then iG (d,z.take (z.length-q.length)++[k])else iH
  |none=>iH
theorem zJr:(nd:Nd)→(nd.map (·.1)).Nodup→ ∀{k k0:Nat}{x:Nat×List Nat×T},nd[k]? =iG x→zSu nd k0 x.1=iG (k0+k,x.2.1)
 | [],_,_,_,_,h=>by simp at h
 |y::nd,hn,k,k0,x,h=>by
  simp only[Jn,L9,Jl]at hn;cases k with
  |zero=>grind[zSu]
  |succ k=>
   simp only[Q6]at h;have gf:y.1≠x.1:=by grind
   simp only[zSu,gf,if_false];rw[zJr nd hn.2 h]
   grind
def zSv(G:Gh)(nd:Nd)(z:List Nat):Value:=
 match nd with
 | [x]=>G.hd x.1 (z++x.2.1)
 |nd=>match z.getLast? with
  |some k=>(match nd[k]? with
   |some x=>G.hd x.1 (z.dropLast++x.2.1)
   |none=>.bool iJ)
  |none=>.bool iJ
def zVU(G:Gh)(nd:Nd)(z:List Nat):Addr:=
 match nd with
 | [x]=>G.ad x.1 (z++x.2.1)
 |nd=>match z.getLast? with
  |some k=>(match nd[k]? with
   |some x=>G.ad x.1 (z.dropLast++x.2.1)
   |none=>default)
  |none=>default
def Gh.arg(G:Gh)(a:Act)(xs:List Operand)(rw:Rw):Gh where
 hd i z:=match xs[i]? with
  |some (.tmp s)=>G.hd s z
  |some x=>kE (a.eval x)
  |none=>.bool iJ
 ad i z:=match xs[i]? with
  |some (.tmp s)=>G.ad s z
  |_=>default
 lb b o:=match G.lb b o with
  |some (f,s,z)=>(match rwI rw s,G.ow b with
   |some i,iG (s',_)=>if s'=s then iG (f,i,z)else iH
   |_,_=>iH)
  |none=>iH
 ow b:=match G.ow b with
  |some (s,z)=>(match rwI rw s with
   |some i=>iG (i,z)
   |none=>iH)
  |none=>iH
def zAM(G:Gh)(rw:Rw)(b:Nat):Prop:=∃s z,G.ow b=iG (s,z)∧s∈rw.map (·.2.1)
def zDF(d:Nat)(rw:Rw)(nd:Nd)(s:Nat)(z:List Nat):Option (Nat×List Nat):=
 match rwS rw s with
 |some s'=>iG (s',z)
 |none=>ndB d nd s z
open Classical in
noncomputable def Gh.back (G G':Gh) (n0 d:Nat) (rw:Rw) (nd:Nd):Gh where
 hd s z:=if s=d then zSv G' nd z else match rwI rw s with
  |some i=>G'.hd i z
  |none=>G.hd s z
 ad s z:=if s=d then zVU G' nd z else match rwI rw s with
  |some i=>if z=[]then G.ad s z else G'.ad i z
  |none=>G.ad s z
 lb b o:=if zAM G rw b∨n0≤b then(match G'.lb b o with
  |some (f,s,z)=>(match zDF d rw nd s z with
   |some (s',z')=>iG (f,s',z')
   |none=>iH)
  |none=>iH)else G.lb b o
 ow b:=if zAM G rw b∨n0≤b then(match G'.ow b with
  |some (s,z)=>zDF d rw nd s z
  |none=>iH)else G.ow b
def zNM(res:List T):T:=match res with
 | [u]=>u
 |us=>.tup us
def cWr(d:Nat)(res:List T)(rw:Rw):Wr:=(d,iG (zNM res))::rw.map fun x=>(x.2.1,iG x.2.2)
def cLv(t:T):Nat:=if t.single then 1 else 0
def uN(d:Nat)(rw:Rw):Chg:=(d,0)::rw.map fun x=>(x.2.1,cLv x.2.2)
theorem zHy{d:Nat}{rw:Rw}{x:Nat×Nat×T}(h:x∈rw):(x.2.1,cLv x.2.2)∈uN d rw:=Gi _ (by grind)
theorem zPw{Gn G':Gh}{d:Nat}:(nd:Nd)→ ∀(j:Nat),(∀k x,nd[k]? =iG x→ ∀z,Gn.hd d (z++[j+k])=G'.hd x.1 (z++x.2.1))→jV Gn d (nd.map (·.2.2)) [] j=nd.map fun x=>sQ G' x.1 x.2.2 x.2.1
 | [],_,_=>by simp[jV]
 |x::nd,j,h=>by
  have ih:=zPw (Gn:=Gn) (G':=G') (d:=d) nd (j+1) (fun k y hy z=>by rw[show j+1+k=j+(k+1)from by omega];exact h (k+1) y (by grind) z)
  simp only[Jn,jV,ih];rw[zBH x.2.2 x.2.1 [j] (by simpa using h 0 x (by simp))]
theorem zSw{d:Nat}{res:List T}{rw:Rw}{s:Nat}{x:Option T}(h:(cWr d res rw).find s=iG x):(s=d∧x=iG (zNM res))∨(s≠d∧ ∃i u,(i,s,u)∈rw∧x=iG u):=by
 simp only[cWr,Wr.find]at h;split at h
 ·grind
 ·rename_i gf
  refine .inr ⟨fun e=>gf e.symm,?_⟩
  clear gf
  induction rw with
  |nil=>grind[Wr.find]
  |cons y rw ih=>
   grind[Wr.find]
theorem zSx{d:Nat}{res:List T}{rw:Rw}{s:Nat}(h:(cWr d res rw).find s=iH):s≠d∧s∉rw.map (·.2.1):=by
 simp only[cWr,Wr.find]at h;split at h
 ·cases h
 ·rename_i gf
  refine⟨fun e=>gf e.symm,?_⟩
  clear gf
  induction rw with
  |nil=>simp
  |cons y rw ih=>
   simp only[Jn,Wr.find]at h
   grind
def aft(S Sc S':Stb):Stb:=fun b=>match Sc b with
 |none=>S' b
 |some _=>S b
theorem Rep.up{Γ:Ctx}{E:Env}{G:Gh}{tmps tmps':Array Value}{w w':World}{G':Gh}{wr:Wr}{chg:Chg}{S:Stb}(h:Rep Γ E G tmps w)(hS:∀b x,Γ.St b=iG x→S b=iG x)
  (gP:tmps'.size=tmps.size)(hk:jB chg G w G' w')(gr:Mem (Γ.at S) G' w')
  (gI:∀s,wr.find s=iH→(∀n,(s,n)∉chg)∧tmps'[s]? =tmps[s]?)
  (eQ:∀s t,wr.find s=iG (iG t)→Ent (Γ.at S) G' w' tmps'[s]? s t):Rep (Γ.at S) (E.app wr chg) G' tmps' w' where
 size:=by rw[gP];exact h.size
 mem:=gr
 ent s t hs:=by
  unfold Env.app at hs;cases hf:wr.find s with
  |some x=>
   grind
  |none=>
   rw[hf]at hs;simp at hs;cases he:E s with
   |none=>grind
   |some u=>
    simp[he]at hs;obtain⟨gB,rfl⟩:=hs;rw[(gI s hf).2];obtain⟨e1,e2,e3⟩:=Ent.keep hk (gI s hf).1 gB (h.ent s u he);exact⟨e1,zKr hS u [] e2,e3⟩
section
variable {P:Program}{Γ:Ctx}{E:Env}{d:Nat}
theorem zHz{G:Gh}{a:Act}{w:World}(g9:Rep Γ E G a.tmps w)(hd:d<Γ.N){Sc:Stb}{rw:Rw}(hS1:∀b x,Sc b=iG x→w.heap[b]? =iG x∧ ¬zAM G rw b)(hS0:∀b x,Γ.St b=iG x→Sc b=iG x){f:FuncId}{us res:List T}
  (hc:FnC P f us res (rw.map fun x=>(x.1,x.2.2))){xs:List Operand}(gj:xs.length=us.length)
  (gc:∀(i:Nat) u,us[i]? =iG u→(∃x,xs[i]? =iG x∧a.eval x=mkV (G.arg a xs rw) i u []∧R Sc (G.arg a xs rw) w i u []))
  (hn1:(d::rw.map (·.2.1)).Nodup)(bg:(rw.map (·.1)).Nodup)(fH:∀x∈rw,xs[x.1]? =iG (.tmp x.2.1))
  (gk:∀u∈res,yE u∧u.okTup=iI∧ ∀(S':Stb)(G:Gh)(w:World)(s:Nat)(p:List Nat),(∀b x,Sc b=iG x→S' b=iG x)→R S' G w s u p→R (aft Γ.St Sc S') G w s u p)
  (ah:∀x∈rw,yE x.2.2∧(∀(S':Stb)(G:Gh)(w:World)(s:Nat)(p:List Nat),(∀b x,Sc b=iG x→S' b=iG x)→R S' G w s x.2.2 p→R (aft Γ.St Sc S') G w s x.2.2 p)∧ ∃u,E x.2.1=iG u∧x.2.2.single=u.single∧us[x.1]? =iG u):
  Calls P f (xs.map a.eval).toArray w fun e w'=> ∃v,e=.returned v∧ ∃S G',zD2 Γ.St S Γ.W Γ.w0.heap.size∧jB (uN d rw) G w G' w'∧Rep (Γ.at S) (E.app (cWr d res rw) (uN d rw)) G' (a.tmps.setIfInBounds d v) w':=by
 have hm:=g9.mem;have mE:=L9.1 hn1;have hmc:Mem ⟨Sc,zAM G rw,w,0⟩ (G.arg a xs rw) w:=by
  have gD:∀b,zAM G rw b→Sc b=iH:=fun b h=>by
   cases hs:Sc b with
   |none=>rfl
   |some x=>exact absurd h (hS1 b x hs).2
  refine⟨fun i z=>?_,fun b o l hl=>?_,fun b l hl=>?_,fun b x hx=>(hS1 b x hx).1,fun b _ _=>rfl,Jh _,⟨fun b cs e h=>⟨cs,h,rfl⟩,rfl,rfl⟩⟩
  ·simp only[Gh.arg]
   split
   ·exact hm.one _ _
   ·exact zBr _
   ·rfl
  ·simp only[Gh.arg]at hl
   split at hl
   ·rename_i f' s z hg
    split at hl
    ·rename_i i s' y hi ho
     split at hl
     ·rename_i he;subst he
      have hL:zAM G rw b:=⟨s',y,ho,zPv hi⟩;exact⟨(hm.lb b o _ hg).1,.inr hL,gD b hL⟩
     ·cases hl
    ·cases hl
   ·cases hl
  ·simp only[Gh.arg]at hl
   split at hl
   ·rename_i s z hg
    split at hl
    ·rename_i i hi
     have hL:zAM G rw b:=⟨s,z,hg,zPv hi⟩;exact⟨(hm.ow b _ hg).1,.inr hL,gD b hL⟩
    ·cases hl
   ·cases hl
 have gu:=hc Sc (zAM G rw) w (G.arg a xs rw) (xs.map a.eval).toArray (by simp[gj]) (fun i u hu=>by obtain⟨x,h1,h2,h3⟩:=gc i u hu;exact⟨by simp[h1,h2],h3⟩) hmc
 refine gu.mono ?_
 rintro e w' ⟨S',G',nd,gZ,rfl,gE,cN,cO,ma,ag⟩
 have fK:∀b x,Γ.St b=iG x→aft Γ.St Sc S' b=iG x:=fun b x hx=>by simp only[aft,hS0 b x hx,hx]
 have aK:zD2 Γ.St (aft Γ.St Sc S') Γ.W Γ.w0.heap.size:=⟨fK,fun b hb f7=>by
  simp only[aft]at f7;split at f7
  ·rename_i hs
   rcases gZ.nw b hs f7 with h|⟨s,z,h,_⟩
   ·exact .inl (by have:=hm.sz;omega)
   ·exact(hm.ow b _ h).2.1
  ·exact absurd hb f7⟩
 refine⟨_,rfl,aft Γ.St Sc S',G.back G' w.heap.size d rw nd,aK,?_⟩;have br:∀b,b<w.heap.size→ ¬zAM G rw b→w'.heap[b]? =w.heap[b]?:=gE.fr;have gy:w.heap.size≤w'.heap.size:=gE.sz;have gL:Blk w w':=gE.bk.blk
 generalize hGn:G.back G' w.heap.size d rw nd=Gn
 have ghdd:∀z,Gn.hd d z=zSv G' nd z:=fun z=>by rw[←hGn];simp[Gh.back]
 have gadd:∀z,Gn.ad d z=zVU G' nd z:=fun z=>by rw[←hGn];simp[Gh.back]
 have ghd0:∀s z,s≠d→s∉rw.map (·.2.1)→Gn.hd s z=G.hd s z:=fun s z h1 h2=>by rw[←hGn];simp[Gh.back,h1,zLI h2]
 have gad0:∀s z,s≠d→s∉rw.map (·.2.1)→Gn.ad s z=G.ad s z:=fun s z h1 h2=>by rw[←hGn];simp[Gh.back,h1,zLI h2]
 have cU:∀i s u,(i,s,u)∈rw→s≠d:=fun i s u h e=>mE.1 (e▸Jl.2 ⟨_,h,rfl⟩)
 have ghdr:∀i s u z,(i,s,u)∈rw→Gn.hd s z=G'.hd i z:=fun i s u z h=>by rw[←hGn];simp[Gh.back,cU i s u h,zC5 rw mE.2 h]
 have gadr:∀i s u z,(i,s,u)∈rw→z≠[]→Gn.ad s z=G'.ad i z:=fun i s u z h h0=>by rw[←hGn];simp[Gh.back,cU i s u h,zC5 rw mE.2 h,h0]
 have gadr0:∀i s u,(i,s,u)∈rw→Gn.ad s []=G.ad s []:=fun i s u h=>by rw[←hGn];simp[Gh.back,cU i s u h,zC5 rw mE.2 h]
 have glb0:∀b o l,¬zAM G rw b→G.lb b o=iG l→Gn.lb b o=iG l:=fun b o l h1 h2=>by have:=(hm.lb b o _ h2).1;rw[←hGn];simp only[Gh.back];rw[if_neg (by rintro(h|h);exact h1 h;omega)];exact h2
 have gow0:∀b l,¬zAM G rw b→G.ow b=iG l→Gn.ow b=iG l:=fun b l h1 h2=>by have:=(hm.ow b _ h2).1;rw[←hGn];simp only[Gh.back];rw[if_neg (by rintro(h|h);exact h1 h;omega)];exact h2
 have gQ:∀b o l,G'.lb b o=iG l→zAM G rw b∨w.heap.size≤b:=fun b o l h=>(gE.lb b o l h).2.1.symm
 have bn:∀b l,G'.ow b=iG l→zAM G rw b∨w.heap.size≤b:=fun b l h=>(gE.ow b l h).2.1.symm
 have glb1:∀b o fl s z s' z',G'.lb b o=iG (fl,s,z)→zDF d rw nd s z=iG (s',z')→Gn.lb b o=iG (fl,s',z'):=fun b o fl s z s' z' h1 h2=>by rw[←hGn];simp only[Gh.back];rw[if_pos (gQ b o _ h1),h1];simp[h2]
 have gow1:∀b s z l,G'.ow b=iG (s,z)→zDF d rw nd s z=iG l→Gn.ow b=iG l:=fun b s z l h1 h2=>by rw[←hGn];simp only[Gh.back];rw[if_pos (bn b _ h1),h1];simp[h2]
 have dp:∀i s u z,(i,s,u)∈rw→zDF d rw nd i z=iG (s,z):=fun i s u z h=>by simp[zDF,zLH rw bg h]
 have gF:∀x∈rw,x.1<us.length:=fun x hx=>by have:=(Js.1 (fH x hx)).1;omega
 have hbn:∀x∈nd,∀z,zDF d rw nd x.1 z=ndB d nd x.1 z:=fun x hx z=>by have h1:=(cO x hx).2;have h2:rwS rw x.1=iH:=zSt (fun y hy e=>by have:=gF y hy;omega);simp[zDF,h2]
 have mP:∀(k:Nat) x,nd[k]? =iG x→ ∃tgt,(nd.length=1→tgt=[])∧(nd.length≠1→tgt=[k])∧(∀z,Gn.hd d (z++tgt)=G'.hd x.1 (z++x.2.1))∧(∀z,Gn.ad d (z++tgt)=G'.ad x.1 (z++x.2.1))∧ ∀z,zDF d rw nd x.1 (z++x.2.1)=iG (d,z++tgt):=by
  intro k x hk;have bK:=Lv hk
  match nd,hk,ma,hbn x bK,ghdd,gadd with
  | [y],hk,ma,hb,ghdd,gadd=>
   have hkx:y=x:=by
    cases k with
    |zero=>simpa using hk
    |succ k=>simp at hk
   subst hkx;exact⟨[],fun _=>rfl,fun h=>absurd rfl h,fun z=>by rw[ghdd];simp[zSv],fun z=>by rw[gadd];simp[zVU],fun z=>by rw[hb];simp[ndB]⟩
  | [],hk,_,_,_,_=>simp at hk
  |y1::y2::r,hk,ma,hb,ghdd,gadd=>
   refine⟨[k],fun h=>by simp at h,fun _=>rfl,fun z=>by rw[ghdd];simp only[zSv,Jai,Jaj];simp[hk],fun z=>by rw[gadd];simp only[zVU,Jai,Jaj];simp[hk],fun z=>?_⟩;rw[hb];have:=zJr (y1::y2::r) ma (k0:=0) hk;rw[Jc]at this;simp only[ndB,this];simp
 have ms:∀(k:Nat) x,nd[k]? =iG x→ ∀tgt,(∀z,Gn.hd d (z++tgt)=G'.hd x.1 (z++x.2.1))→(∀z,Gn.ad d (z++tgt)=G'.ad x.1 (z++x.2.1))→(∀z,zDF d rw nd x.1 (z++x.2.1)=iG (d,z++tgt))→R (aft Γ.St Sc S') Gn w' d x.2.2 tgt:=by intro k x hk tgt h1 h2 h3;have bK:=Lv hk;obtain⟨c1,c2,c3⟩:=gk x.2.2 (by rw[←cN];exact Jl.2 ⟨x,bK,rfl⟩);refine zAr (G:=G') (w:=w') (s:=x.1) (p:=x.2.1) ⟨⟨h1,fun z _=>h2 z,fun b o f' z _ _ hl=>⟨glb1 b o f' _ _ _ _ hl (h3 z),rfl⟩,fun b z _ hl=>gow1 b _ _ _ hl (h3 z),fun b cs e h=>⟨cs,h,rfl⟩⟩,fun b o _ hl=>⟨glb1 b o iI _ _ _ _ hl (by simpa using h3 []),rfl⟩,fun b hl=>gow1 b _ _ _ hl (by simpa using h3 [])⟩ _ (xE.mono (fun _ _=>False.elim) _ c1) (c3 _ _ _ _ _ gZ.le (cO x bK).1)
 have gx:jB (uN d rw) G w Gn w':=by
  have gG:∀s,(∀n,(s,n)∉uN d rw)→s≠d∧s∉rw.map (·.2.1):=fun s h=>⟨fun e=>h 0 (by simp[uN,e]),fun hm=>by obtain⟨x,hx,rfl⟩:=Jl.1 hm;exact h _ (zHy hx)⟩
  have pJ:∀b s y,G.ow b=iG (s,y)→s∉rw.map (·.2.1)→ ¬zAM G rw b:=by
   rintro b s y h1 h2 ⟨s',z',h3,h4⟩
   rw[h1]at h3;simp at h3;exact h2 (h3.1▸h4)
  refine⟨fun s p h=>?_,fun s p h=>?_,fun b o fl s p hJ h1 h2=>?_,fun b s p h1 h2=>?_,gL⟩
  ·have h1:s≠d:=fun e=>absurd (h 0 (by simp[uN,e])) (by simp)
   by_cases h2:s∈rw.map (·.2.1)
   ·
    obtain⟨x,hx,rfl⟩:=Jl.1 h2;have hc:=h _ (zHy hx);have c2:x.2.2.single=iI:=by
     cases fh:x.2.2.single with
     |true=>rfl
     |false=>simp[cLv,fh]at hc
    have h3:p=[]:=Lp (by simp only[cLv,c2,if_true]at hc;omega);subst h3;obtain⟨_,_,u,c4,c5,c6⟩:=ah x hx;rw[c2]at c5;have c5:=c5.symm;obtain⟨_,u0,e1,e2⟩:=ag x.1 x.2.2 (Jl.2 ⟨x,hx,rfl⟩);rw[c6]at e1;simp at e1;subst e1;rw[xU c2,xU c5]at e2;rw[ghdr x.1 x.2.1 x.2.2 [] hx,e2];simp[Gh.arg,fH x hx]
   ·exact ghd0 s p h1 h2
  ·have h1:s≠d:=fun e=>absurd (h 0 (by simp[uN,e])) (by simp)
   by_cases h2:s∈rw.map (·.2.1)
   ·obtain⟨x,hx,rfl⟩:=Jl.1 h2
    have hc:=h _ (zHy hx);have h3:p=[]:=Lp (by have:cLv x.2.2≤1:=(by unfold cLv;split<;>omega);omega);subst h3;exact gadr0 x.1 x.2.1 x.2.2 hx
   ·exact gad0 s p h1 h2
  ·obtain⟨h3,h4⟩:=gG s h2
   obtain⟨y,hy⟩:=hJ;have h5:=pJ b s y hy h4;exact⟨glb0 b o _ h5 h1,by simp[yS,World.cell?,br b (hm.lb b o _ h1).1 h5]⟩
  ·obtain⟨h3,h4⟩:=gG s h2
   exact gow0 b _ (pJ b s p h1 h4) h1
 have gr:Mem (Γ.at (aft Γ.St Sc S')) Gn w':=by
  have gB:∀b,b<w'.heap.size∧(w.heap.size≤b∨zAM G rw b)∧S' b=iH→zCw (Γ.at (aft Γ.St Sc S')) w' b:=fun b ⟨hb,h,gJ⟩=>by
   have bN:Sc b=iH:=by
    cases hs:Sc b with
    |none=>rfl
    |some x=>rw[gZ.le b x hs]at gJ;cases gJ
   refine⟨hb,?_,by simp only[aft,bN];exact gJ⟩;rcases h with h|⟨s,z,h1,_⟩
   ·exact .inl (by have:=hm.sz;show Γ.w0.heap.size≤b;omega)
   ·exact(hm.ow b _ h1).2.1
  have gI:∀b,¬(zAM G rw b∨w.heap.size≤b)→zCw Γ w b→zCw (Γ.at (aft Γ.St Sc S')) w' b:=fun b h ⟨h1,h2,h3⟩=>by
   refine⟨by omega,h2,?_⟩;simp only[aft];split
   ·rename_i hs
    cases gJ:S' b with
    |none=>rfl
    |some x=>
     rcases gZ.nw b hs (by rw[gJ];simp)with h4|h4
     ·exact absurd (.inr h4) h
     ·exact absurd (.inl h4) h
   ·exact h3
  refine⟨fun s z=>?_,fun b o l hl=>?_,fun b l hl=>?_,fun b x hx=>?_,fun b(h1:b<Γ.w0.heap.size) h2=>?_,Hb hm.sz gy,hm.bk.trans gL gE.bk.os gE.bk.out⟩
  ·by_cases h1:s=d
   ·subst h1
    rw[ghdd];unfold zSv;split
    ·exact gE.one _ _
    ·split
     ·split
      ·exact gE.one _ _
      ·rfl
     ·rfl
   ·by_cases h2:s∈rw.map (·.2.1)
    ·obtain⟨x,hx,rfl⟩:=Jl.1 h2
     rw[ghdr x.1 x.2.1 x.2.2 z hx];exact gE.one _ _
    ·rw[ghd0 s z h1 h2];exact hm.one _ _
  ·rw[←hGn]at hl
   simp only[Gh.back]at hl;split at hl
   ·rename_i mj
    split at hl
    ·rename_i hg
     exact gB b (gE.lb b o _ hg)
    ·cases hl
   ·rename_i mj
    exact gI b mj (hm.lb b o l hl)
  ·rw[←hGn]at hl
   simp only[Gh.back]at hl;split at hl
   ·rename_i mj
    split at hl
    ·rename_i hg
     exact gB b (gE.ow b _ hg)
    ·cases hl
   ·rename_i mj
    exact gI b mj (hm.ow b l hl)
  ·simp only[aft]at hx
   split at hx
   ·exact gE.st b x hx
   have h1:=hm.st b x hx;have h2:=(L5.1 h1).1;have h3:¬zAM G rw b:=by
    rintro⟨s,z,h4,_⟩
    rw[(hm.ow b _ h4).2.2]at hx;cases hx
   rw[br b h2 h3];exact h1
  ·have h3:¬zAM G rw b:=by
    rintro⟨s,z,h4,_⟩
    rcases(hm.ow b _ h4).2.1 with h5|h5
    ·omega
    ·exact h2 h5
   rw[br b (by have:=hm.sz;omega) h3];exact hm.fr b h1 h2
 have ux:nd.length=res.length:=by rw[←cN];simp
 refine⟨gx,g9.up fK (by simp) gx gr ?_ ?_⟩
 ·intro s hs
  obtain⟨h1,h2⟩:=zSx hs;refine⟨fun n hn=>?_,by rw[Jm];simp[Ne.symm h1]⟩;simp only[uN,J9,Jal.injEq,Jl]at hn;rcases hn with⟨e,_⟩|⟨x,hx,e,_⟩
  ·exact h1 e
  ·exact h2 (Jl.2 ⟨x,hx,e⟩)
 ·intro s t hs
  rcases zSw hs with⟨rfl,ht⟩|⟨gf,i,u,cV,ht⟩
  ·simp at ht
   subst ht;rw[Jm];simp only[g9.size,hd,if_true];have pu:res=nd.map (·.2.2):=cN.symm
   by_cases hl:nd.length=1
   ·obtain⟨x,hx⟩:∃x,nd=[x]:=List.length_eq_one_iff.1 hl
    obtain⟨tgt,t1,_,t3,t4,t5⟩:=mP 0 x (by simp[hx]);obtain rfl:=t1 hl;have hr:=ms 0 x (by simp[hx]) [] t3 t4 t5;obtain⟨c1,c2,_⟩:=gk x.2.2 (by rw[pu,hx];simp);have ff:zNM res=x.2.2:=by rw[pu,hx];rfl
    have eh:∀ys,x.2.2≠.tup ys:=fun ys e=>by rw[e]at c2;simp[T.okTup]at c2
    rw[ff];refine⟨?_,hr,Top.of_clean _ c1⟩;rw[kV Gn s _ [] eh,zBH x.2.2 x.2.1 [] t3,hx];rfl
   ·have ff:zNM res=.tup res:=by
     rw[ux]at hl
     match res,hl with
     | [],_=>rfl
     | [u],hl=>simp at hl
     |_::_::_,_=>rfl
    rw[ff];have gH:∀k x,nd[k]? =iG x→ ∀z,Gn.hd s (z++[0+k])=G'.hd x.1 (z++x.2.1):=fun k x hk z=>by obtain⟨tgt,_,t2,t3,_,_⟩:=mP k x hk;rw[t2 hl]at t3;rw[Jc];exact t3 z
    refine⟨?_,?_,?_⟩
    ·have hv:=zPw (Gn:=Gn) (G':=G') (d:=s) nd 0 gH
     rw[cN]at hv;simp only[mkV,hv];unfold zLD;split
     ·simp at hl
     ·rfl
    ·simp only[R]
     rw[pu];refine zPl _ [] 0 (fun k u hu=>?_);rw[K5]at hu;cases hk:nd[k]? with
     |none=>simp[hk]at hu
     |some x=>
      simp[hk]at hu;subst hu;obtain⟨tgt,_,t2,t3,t4,t5⟩:=mP k x hk;rw[t2 hl]at t3 t4 t5;rw[Jc];exact ms k x hk [k] t3 t4 t5
    ·simp only[Top]
     refine vU.of_clean _ ?_;have:∀us:List T,(∀u∈us,yE u)→xW us:=by
      intro us
      induction us with
      |nil=>intro _;trivial
      |cons u us ih=>intro h;exact⟨h u (by simp),ih fun v hv=>h v (by simp[hv])⟩
     exact this res fun u hu=>(gk u hu).1
  ·simp at ht
   subst ht;obtain⟨c1,c3,u0,c4,_,c6⟩:=ah _ cV;obtain⟨r1,u1,e1,e2⟩:=ag i t (Jl.2 ⟨_,cV,rfl⟩);simp only at c4 c6;rw[c6]at e1;simp at e1;subst e1;refine⟨?_,?_,Top.of_clean _ c1⟩
   ·rw[Jm]
    simp only[Ne.symm gf,if_false];have d5:=fH _ cV;simp only at d5;have m1:mkV Gn s t []=mkV G' i t []:=zF1 t [] [] (fun z=>by rw[Je];exact ghdr i s t z cV);have m2:mkV (G.arg a xs rw) i u0 []=mkV G s u0 []:=zF1 u0 [] [] (fun z=>by simp[Gh.arg,d5]);rw[(g9.ent s u0 c4).1,m1,e2,m2]
   ·refine zAr (G:=G') (w:=w') (s:=i) (p:=[]) ⟨⟨fun z=>by rw[Je];exact ghdr i s t z cV,fun z hz=>by rw[Je];exact gadr i s t z cV hz,fun b o f' z _ _ hl=>?_,fun b z _ hl=>?_,fun b cs e h=>⟨cs,h,rfl⟩⟩,fun b o _ hl=>⟨glb1 b o iI _ _ _ _ hl (dp i s t [] cV),rfl⟩,fun b hl=>gow1 b _ _ _ hl (dp i s t [] cV)⟩ t (xE.mono (fun _ _=>False.elim) _ c1) (c3 _ _ _ _ _ gZ.le r1)
    ·rw[Je]at hl ⊢;exact⟨glb1 b o f' _ _ _ _ hl (dp i s t z cV),rfl⟩
    ·rw[Je]at hl ⊢;exact gow1 b _ _ _ hl (dp i s t z cV)
end
end Go.Ab

namespace Go.Ab
open Go
def zJs(E:Env)(rs:List Nat)(x:Operand)(t:T):Bool:=
 match x with
 |.tmp s=>qL E rs s t
 |_=>iI
def zCm(E:Env)(rw:Rw)(i:Nat)(x:Operand)(u:T):Prop:=
 (∃s u',x=.tmp s∧(i,s,u')∈rw∧E s=iG u∧yE u∧u.okTup=iI∧vO u=iI)∨(∃t,opT E x=iG t∧clo E t=u∧zJs E (rw.map (·.2.1)) x t=iI)
def wA(E:Env)(rw:Rw):Nat→List Operand→List T→Prop
 |_,[],[]=>True
 |i,x::xs,u::us=>zCm E rw i x u∧wA E rw (i+1) xs us
 |_,_,_=>False
theorem wA.length{E:Env}{rw:Rw}:(xs:List Operand)→(us:List T)→ ∀i,wA E rw i xs us→xs.length=us.length
 | [],[],_,_=>rfl
 |_::xs,_::us,i,h=>by simp[wA.length xs us (i+1) h.2]
 | [],_::_,_,h=>by simp[wA]at h
 |_::_,[],_,h=>by simp[wA]at h
theorem wA.get{E:Env}{rw:Rw}:(xs:List Operand)→(us:List T)→ ∀i,wA E rw i xs us→ ∀(j:Nat) u,us[j]? =iG u→ ∃x,xs[j]? =iG x∧zCm E rw (i+j) x u
 | [],[],_,_,_,_,h=>by simp at h
 |x::xs,v::us,i,h,j,u,hj=>by
  cases j with
  |zero=>simp at hj;subst hj;exact⟨x,by simp,h.1⟩
  |succ j=>
   obtain⟨y,h1,h2⟩:=wA.get xs us (i+1) h.2 j u (by simpa using hj);exact⟨y,by simpa using h1,by rwa [show i+(j+1)=i+1+j from by omega]⟩
 | [],_::_,_,h,_,_,_=>by simp[wA]at h
 |_::_,[],_,h,_,_,_=>by grind
structure zLJ (E:Env) (d:Nat) (xs:List Operand) (us:List T) (rw:Rw):Prop where
 nodup:(d::rw.map (·.2.1)).Nodup
 nodup2:(rw.map (·.1)).Nodup
 at_:∀x∈rw,xs[x.1]? =iG (.tmp x.2.1)
 tree:∀x∈rw,yE x.2.2∧vO x.2.2=iI∧ ∃u,E x.2.1=iG u∧x.2.2.single=u.single∧us[x.1]? =iG u
theorem zLJ.nil{E:Env}{d:Nat}{xs:List Operand}{us:List T}:zLJ E d xs us []:=⟨by simp,by simp,by simp,by simp⟩
theorem zLJ.one{E:Env}{d i s:Nat}{u u':T}{xs:List Operand}{us:List T}(h1:d≠s)(h2:xs[i]? =iG (.tmp s))(h3:yE u')(h4:u'.single=iI)(h5:vO u'=iI)(h6:E s=iG u)(h7:u.single=iI)(h8:us[i]? =iG u):
  zLJ E d xs us [(i,s,u')]:=⟨by grind,by simp,by grind,by grind⟩
section
variable {P:Program}{Γ:Ctx}{E:Env}{o:Oper}{d:Nat}
theorem zVV{G:Gh}{a:Act}{w:World}(g9:Rep Γ E G a.tmps w){rw:Rw}{xs:List Operand}{us:List T}(hr:zLJ E d xs us rw){Sc:Stb}(eC:∀b x,Γ.St b=iG x→Sc b=iG x)
  (eJ:∀r,r∉rw.map (·.2.1)→ ∀b,(∃y,G.ow b=iG (r,y))→Sc b=w.heap[b]?){i:Nat}{x:Operand}{u:T}(hx:xs[i]? =iG x)(hu:us[i]? =iG u)(h:zCm E rw i x u):
  a.eval x=mkV (G.arg a xs rw) i u []∧R Sc (G.arg a xs rw) w i u []:=by
 rcases h with⟨s,u',rfl,h1,h2,h3,h4,h5⟩|⟨t,h1,rfl,h3⟩
 ·obtain⟨e1,e2,_⟩:=g9.ent s u h2
  have gH:∀z,(G.arg a xs rw).hd i z=G.hd s z:=by grind[Gh.arg]
  have fk:∀z,(G.arg a xs rw).ad i z=G.ad s z:=by grind[Gh.arg]
  have hi:=zC5 rw (L9.1 hr.nodup).2 h1;refine⟨by grind[wK,zF1],?_⟩;refine zQF u [] h5 (zAr (St:=Γ.St) (G:=G) (w:=w) (s:=s) (p:=[]) ⟨⟨by grind,by grind,fun b o' f' z _ hJ hl=>?_,fun b z _ hl=>?_,fun b cs e h=>⟨cs,h,rfl⟩⟩,fun b o' hJ hl=>?_,fun b hl=>?_⟩ u (by grind[xE.mono]) e2)
  ·obtain⟨y,hy⟩:=hJ
   exact⟨by grind[Gh.arg],rfl⟩
  ·grind[Gh.arg]
  ·obtain⟨y,hy⟩:=hJ
   exact⟨by grind[Gh.arg],rfl⟩
  grind[Gh.arg]
 ·cases x with
  |tmp s=>
   have gH:∀z,(G.arg a xs rw).hd i z=G.hd s z:=by grind[Gh.arg]
   obtain⟨e1,e2,_⟩:=g9.ent s t h1
   grind[zJs,wK,zKs,zX2]
  |const v=>
   simp only[opT]at h1;split at h1
   ·rename_i gw
    simp at h1;subst h1;have gH:(G.arg a xs rw).hd i []=v:=by grind[Gh.arg,Act.eval,zAt]
    exact⟨by grind[clo,mkV,Act.eval],by simp[clo,R,gH]⟩
   ·cases h1
  |func f=>
   simp only[opT]at h1;simp at h1;subst h1;have gH:(G.arg a xs rw).hd i []=.func (.func f) #[] #[]:=by grind[Gh.arg,Act.eval,kE,Value.oneCell']
   exact⟨by grind[clo,mkV,Act.eval],by simp[clo,R,gH]⟩
  |global g=>grind[opT]
theorem zDm{E:Env}:(t:T)→t.flat=iI→(∀rs s,qL E rs s t=iI)∧clo E t=t
 |.lit _,_|.ro _,_=>by simp[qL,clo]
 |.agg ts,h=>by
  simp only[T.flat]at h;have:=go ts h
  grind[qL,clo]
 |.any,h|.same _ _,h|.addr _ _,h|.sub _ _ _ _ _,h|.sl _ _,h|.ptr _,h|.tup _,h=>by grind[T.flat]
where go:(ts:List T)→zAC ts=iI→(∀rs s,zAD E rs s ts=iI)∧zBf E ts=ts
 | [],_=>by simp[zAD,zBf]
 |x::xs,h=>by simp only[zAC,J4]at h;simp only[zAD,zBf,J4];exact⟨fun rs s=>⟨(zDm x h.1).1 rs s,(go xs h.2).1 rs s⟩,by rw[(zDm x h.1).2,(go xs h.2).2]⟩
theorem zEE{a:Act}{w:World}{K:Act→World→Prop}{Q:Exit→Act→World→Prop}{f:FuncId}{xf:Operand}{xs:List Operand}{ats:Array TypeId}(ho:o.op=.call { callee:=.value xf,args:=xs.toArray,argTypes:=ats })(gg:o.dst=iG d)
  (gu:∀args w,(callFunc f args).run P w=.ok (.enter f args) w)(hf:a.eval xf=.func (.func f) #[] #[])
  (h:Calls P f (xs.map a.eval).toArray w fun e w'=> ∃v,e=.returned v∧K (a.put (iG d) v) w'):o.wp P a w K Q:=by
 have gz:(execOp a.eval o).run P w=.ok (.enter f (xs.map a.eval).toArray) w:=by simp[execOp,ho,resolve,hf,Deferred.ofValue,invoke,gu]
 unfold Oper.wp;rw[gz,Oper.upon_enter];refine h.mono ?_
 grind
theorem zLK{G:Gh}{a:Act}{w:World}(g9:Rep Γ E G a.tmps w)(hd:d<Γ.N)(f:FuncId)(xs:List Operand)(us res:List T)(rw:Rw)
  (hc:FnC P f us res (rw.map fun x=>(x.1,x.2.2)))(gc:wA E rw 0 xs us)(hr:zLJ E d xs us rw)(gk:xW res∧yV res=iI∧uK res=iI):
  Calls P f (xs.map a.eval).toArray w fun e w'=> ∃v,e=.returned v∧ ∃S G',zD2 Γ.St S Γ.W Γ.w0.heap.size∧jB (uN d rw) G w G' w'∧Rep (Γ.at S) (E.app (cWr d res rw) (uN d rw)) G' (a.tmps.setIfInBounds d v) w':=by
 classical
 have hm:=g9.mem
 let Sc:Stb:=fun b=>if zAM G rw b then iH else w.heap[b]?
 have eC:∀b x,Γ.St b=iG x→Sc b=iG x:=fun b x hx=>by
  have h3:¬zAM G rw b:=by
   rintro⟨s,z,h4,_⟩
   rw[(hm.ow b _ h4).2.2]at hx;cases hx
  simp only[Sc,h3,if_false];exact hm.st b x hx
 have eJ:∀r,r∉rw.map (·.2.1)→ ∀b,(∃y,G.ow b=iG (r,y))→Sc b=w.heap[b]?:=fun r hr' b ⟨y,hy⟩=>by
  have h3:¬zAM G rw b:=by
   rintro⟨s,z,h4,h5⟩
   grind
  grind
 have fx:∀(us:List T),xW us∧yV us=iI∧uK us=iI→ ∀u∈us,yE u∧u.okTup=iI∧vO u=iI:=by
  intro us
  induction us with
  |nil=>simp
  |cons v us ih=>
   intro⟨h1,h2,h3⟩ u hu;simp only[yV,uK,J4]at h2 h3;rcases J9.1 hu with rfl|hu
   ·exact⟨h1.1,h2.1,h3.1⟩
   ·exact ih ⟨h1.2,h2.2,h3.2⟩ u hu
 exact zHz g9 hd (Sc:=Sc) (rw:=rw) (by grind) eC hc (wA.length xs us 0 gc) (fun i u hu=>by
   obtain⟨x,h1,h2⟩:=wA.get xs us 0 gc i u hu;rw[Jc]at h2
   grind[zVV]) hr.nodup hr.nodup2 hr.at_
  (by grind[zQF])
  (fun x hx=>by
   obtain⟨h1,h3,h4⟩:=hr.tree x hx
   grind[zQF])
theorem zKt(f:FuncId)(xf:Operand)(xs:List Operand)(ats:Array TypeId)(us res:List T)(rw:Rw)(ho:o.op=.call { callee:=.value xf,args:=xs.toArray,argTypes:=ats })(gg:o.dst=iG d)(hd:d<Γ.N)
  (gu:∀args w,(callFunc f args).run P w=.ok (.enter f args) w)(hf:opT E xf=iG (.lit (.func (.func f) #[] #[])))
  (hc:FnC P f us res (rw.map fun x=>(x.1,x.2.2)))(gc:wA E rw 0 xs us)(hr:zLJ E d xs us rw)(gk:xW res∧yV res=iI∧uK res=iI):
  wQ P Γ o E (E.app (cWr d res rw) (uN d rw)):=by
 intro a w K Q ⟨gR,G,g9⟩ hK;refine zEE ho gg gu (wL g9 hf).1 ?_;refine(zLK g9 hd f xs us res rw hc gc hr gk).mono ?_
 rintro e w' ⟨v,rfl,S,G',hS,_,gn⟩
 exact⟨v,rfl,hK _ _ ⟨S,hS,gR,G',gn⟩⟩
theorem zLL(f:FuncId)(xf:Operand)(xs:List Operand)(ats:Array TypeId)(us res:List T)(i ds r:Nat)(q:List Nat)(tr u u':T)(ho:o.op=.call { callee:=.value xf,args:=xs.toArray,argTypes:=ats })(gg:o.dst=iG d)(hd:d<Γ.N)
  (gu:∀args w,(callFunc f args).run P w=.ok (.enter f args) w)(hf:opT E xf=iG (.lit (.func (.func f) #[] #[])))
  (hs:E ds=iG (.same r q))(hr:E r=iG tr)(hq:tr.get q.reverse=iG u)(hu:u.single=iI)(fb:yE u)(hH:ds≠r)(hdr2:d≠r)(gB:tr.okB [(ds,1),(r,q.length+1)]=iI)(fh:xZ tr=iI)
  (E1 E2:Env)(bF:E1=E.app [(ds,iG u),(r,iG (if q=[]then .same ds []else tr.set q.reverse .any))] [(ds,1),(r,q.length+1)])(gN:E2=E1.app (cWr d res [(i,ds,u')]) (uN d [(i,ds,u')]))
  (hc:FnC P f us res [(i,u')])(gc:wA E1 [(i,ds,u')] 0 xs us)(cV:zLJ E1 d xs us [(i,ds,u')])(gk:xW res∧yV res=iI∧uK res=iI)
  (tr2 v0:T)(fO:E2 r=iG tr2)(u9:tr2.get q.reverse=iG v0)(tp:v0.single=iI)(bO:E2 ds=iG u')(eM:yE u')(tw:u'.single=iI)(m9:tr2.okB [(r,q.length+1),(ds,1)]=iI)(hc3:xZ tr2=iI)(hok3:u'.okB [(r,q.length+1),(ds,1)]=iI)(hc4:xZ u'=iI):
  wQ P Γ o E (E2.app [(r,iG (tr2.set q.reverse u')),(ds,iG (.same r q))] [(r,q.length+1),(ds,1)]):=by
 have bU:cLv u'=1:=by grind[cLv]
 intro a w K Q ⟨gR,G,g9⟩ hK;refine zEE ho gg gu (wL g9 hf).1 ?_;have ef:G.hd ds []=G.hd r q:=by have:=(g9.ent ds _ hs).2.1;simpa only[R]using this
 obtain⟨cM,ia⟩:=zHq g9 ds [] r q (.same r q) tr u (.same r q) hs rfl rfl ef hr hq hu fb hH (by grind[T.okB,zAp]) (by omega) rfl fh;have iF:E.app [(ds,iG ((T.same r q).set [].reverse u)),(r,iG (if q=[]then .same ds []else tr.set q.reverse .any))] [(ds,([]:List Nat).length+1),(r,q.length+1)]=E1:=by rw[bF];rfl
 rw[iF]at cM;refine(zLK cM hd f xs us res [(i,ds,u')] hc gc cV gk).mono ?_
 rintro e w' ⟨v,rfl,S,G',hS,hk,gn⟩
 rw[←gN]at gn;have hdds:d≠ds:=by have:=cV.nodup;grind
 have h1:G'.hd r q=(G.tr ds [] r q).hd r q:=hk.hd r q (fun n hn=>by grind[uN]);have h2:G'.hd ds []=(G.tr ds [] r q).hd ds []:=hk.hd ds [] (fun n hn=>by grind[uN]);have c8:G'.hd r q=G'.hd ds []:=by grind
 obtain⟨cL,_⟩:=zHq gn r q ds [] tr2 u' u' v0 fO u9 tp c8 bO rfl tw eM (Ne.symm hH) (by omega) (by omega) hc3 hc4;refine⟨v,rfl,hK _ _ ⟨S,hS,gR,G'.tr r q ds [],?_⟩⟩;have hw:(if([]:List Nat)=[]then T.same r q else u'.set ([]:List Nat).reverse .any)=T.same r q:=if_pos rfl;rw[hw]at cL;exact cL
theorem zSy(f:FuncId)(xf:Operand)(xs:List Operand)(ats:Array TypeId)(us res:List T)(ho:o.op=.call { callee:=.value xf,args:=xs.toArray,argTypes:=ats })(gg:o.dst=iG d)(hd:d<Γ.N)
  (gu:∀args w,(callFunc f args).run P w=.ok (.enter f args) w)(hf:opT E xf=iG (.lit (.func (.func f) #[] #[])))
  (hc:FnC P f us res [])(gj:xs.length=us.length)(gc:∀(i:Nat) u,us[i]? =iG u→ ∃x,xs[i]? =iG x∧opT E x=iG u∧u.flat=iI)(gk:xW res∧yV res=iI):
  wQ P Γ o E (E.app (cWr d res []) (uN d [])):=by
 intro a w K Q ⟨gR,G,g9⟩ hK;have hm:=g9.mem;refine zEE ho gg gu (wL g9 hf).1 ?_;have pJ:∀b,¬zAM G [] b:=by rintro b ⟨s,z,_,h⟩;simp at h
 have fx:∀(us:List T),xW us∧yV us=iI→ ∀u∈us,yE u∧u.okTup=iI:=by
  intro us
  induction us with
  |nil=>simp
  |cons v us ih=>
   intro⟨h1,h2⟩ u hu;simp only[yV,J4]at h2;rcases J9.1 hu with rfl|hu
   ·exact⟨h1.1,h2.1⟩
   ·exact ih ⟨h1.2,h2.2⟩ u hu
 have:=zHz g9 hd (Sc:=Γ.St) (rw:=[]) (fun b x hx=>⟨hm.st b x hx,pJ b⟩) (fun _ _ h=>h) hc gj (fun i u hu=>by
   obtain⟨x,h1,h2,h3⟩:=gc i u hu;refine⟨x,h1,?_⟩;have ij:=zDm (E:=E) u h3;cases x with
   |tmp s=>
    have gH:∀z,(G.arg a xs []).hd i z=G.hd s z:=by grind[Gh.arg]
    obtain⟨e1,e2,_⟩:=g9.ent s u h2;refine⟨?_,by grind[zKn]⟩;have:=zKs (E:=E) gH u (ij.1 [] s)
    grind[wK]
   |const v=>
    simp only[opT]at h2;split at h2
    ·rename_i gw
     simp at h2;subst h2;have gH:(G.arg a xs []).hd i []=v:=by grind[Gh.arg,Act.eval,zAt]
     exact⟨by grind[mkV,Act.eval],by simp[R,gH]⟩
    ·cases h2
   |func f=>
    simp only[opT]at h2;simp at h2;subst h2;have gH:(G.arg a xs []).hd i []=.func (.func f) #[] #[]:=by grind[Gh.arg,Act.eval,kE,Value.oneCell']
    exact⟨by grind[mkV,Act.eval],by simp[R,gH]⟩
   |global g=>grind[opT]) (by simp) (by simp) (by simp)
  (fun u hu=>⟨by grind,by grind,fun S' G w s p hS h=>by
   have:aft Γ.St Γ.St S'=S':=funext (by grind[aft])
   grind⟩) (by simp)
 refine this.mono ?_
 rintro e w' ⟨v,rfl,S,G',hS,_,gn⟩
 exact⟨v,rfl,hK _ _ ⟨S,hS,gR,G',gn⟩⟩
end
end Go.Ab

namespace Go.Ab
open Go
def yX:List (Nat×T)→Env
 | [],_=>iH
 |(k,t)::l,s=>if k=s then iG t else yX l s
def Env.Has(E:Env):List (Nat×T)→Prop
 | []=>True
 |(s,t)::l=>E s=iG t∧E.Has l
theorem Env.Has.le{E:Env}:{l:List (Nat×T)}→E.Has l→ ∀s t,yX l s=iG t→E s=iG t
 | [],_,s,t,h=>by grind[yX]
 |(k,u)::l,hh,s,t,h=>by
  simp only[yX]at h;split at h
  ·rename_i e
   subst e;rw[hh.1];exact h
  ·exact hh.2.le s t h
theorem Sim.weaken{Γ:Ctx}{E E':Env}{a:Act}{w:World}(h:Sim Γ E a w)(hle:∀s t,E' s=iG t→E s=iG t):Sim Γ E' a w:=by obtain⟨h1,G,h2⟩:=h;exact⟨h1,G,⟨h2.size,fun s t hs=>h2.ent s t (hle s t hs),h2.mem⟩⟩
theorem jJ.weaken{Γ:Ctx}{E E':Env}{a:Act}{w:World}(h:jJ Γ E a w)(hle:∀s t,E' s=iG t→E s=iG t):jJ Γ E' a w:=by obtain⟨S,h1,h2⟩:=h;exact⟨S,h1,h2.weaken hle⟩
abbrev kG:=List (Nat×Value)
def kG.Hold(pn:kG)(a:Act):Prop:=∀x∈pn,a.tmps[x.1]? =iG x.2
def kG.ok(pn:kG)(d:Option Nat):Bool:=match d with
 |none=>iI
 |some d=>pn.all fun x=>x.1 != d
theorem Oper.wp_frame{P:Program}{o:Oper}{a:Act}{w:World}{K:Act→World→Prop}{Q:Exit→Act→World→Prop}(h:o.wp P a w K Q):
  o.wp P a w (fun a' w'=>K a' w'∧ ∀s,o.dst≠iG s→a'.tmps[s]? =a.tmps[s]?) Q:=by
 have key:∀(v:Value)(ds:List Deferred),∀s,o.dst≠iG s→(({ a with defers:=ds }:Act).put o.dst v).tmps[s]? =a.tmps[s]?:=by
  intro v ds s hs;cases hd:o.dst with
  |none=>rfl
  |some d=>
   grind[Act.put]
 have key0:∀(v:Value),∀s,o.dst≠iG s→(a.put o.dst v).tmps[s]? =a.tmps[s]?:=fun v=>key v a.defers
 unfold Oper.wp at*
 generalize (execOp a.eval o).run P w=r at*
 cases r with
 |ok n w'=>
  cases n<;>simp only[Oper.upon]at h ⊢
  all_goals grind
 |halt x w'=>cases x<;>simp only[Oper.upon]at h ⊢ <;>exact h
theorem kG.Hold.frame{pn:kG}{a a':Act}{d:Option Nat}(h:pn.Hold a)(gB:pn.ok d=iI)(hf:∀s,d≠iG s→a'.tmps[s]? =a.tmps[s]?):pn.Hold a':=by
 intro x hx;rw[hf x.1 ?_]
 ·exact h x hx
 ·rintro rfl
  have:=Ki.1 gB x hx
  grind
section
variable (P:Program) (Γ:Ctx) (pn:kG)
def CW(c:Code)(E:Env)(Q:Exit→Env→Prop):Prop:=
 ∀(a:Act)(w:World)(Q':Exit→Act→World→Prop),jJ Γ E a w→pn.Hold a→(∀e E' a' w',Q e E'→jJ Γ E' a' w'→pn.Hold a'→Q' e a' w')→c.wp P Q' a w
def zW(ops:Array Oper)(o:Oper)(E E':Env):Prop:=
 ∀(a:Act)(w:World)(K:Act→World→Prop)(Q:Exit→Act→World→Prop),jJ Γ E a w→(∀a' w',jJ Γ E' a' w'→(∀s,o.dst≠iG s→a'.tmps[s]? =a.tmps[s]?)→K a' w')→
  if Region.wanted o (yielded ops a.tmps)then o.wp P a w K Q∨(o.asks P a w∧LetsOut Q)else K (a.put o.dst undef) w
def wpL(ops:Array Oper)(Q:Exit→Act→World→Prop):List Oper→Act→World→Prop
 | [],a,w=>Q .normal a w
 |o::os,a,w=>if Region.wanted o (yielded ops a.tmps)then o.wp P a w (wpL ops Q os) Q∨(o.asks P a w∧LetsOut Q)else wpL ops Q os (a.put o.dst undef) w
def RW(ops:Array Oper)(os:List Oper)(E:Env)(Q:Exit→Env→Prop):Prop:=
 ∀(a:Act)(w:World)(Q':Exit→Act→World→Prop),jJ Γ E a w→pn.Hold a→(∀e E' a' w',Q e E'→jJ Γ E' a' w'→pn.Hold a'→Q' e a' w')→wpL P ops Q' os a w
end
section
variable {P:Program}{Γ:Ctx}{pn:kG}{E E':Env}{Q Q1:Exit→Env→Prop}{c c1 c2:Code}{ops:Array Oper}{o:Oper}{os:List Oper}{d:Nat}
theorem zKu{Q':Exit→Act→World→Prop}:∀(os:List Oper)(n:Nat)(a:Act)(w:World),ops.toList.drop n=os→wpL P ops Q' os a w→wpOps P ops Q' (Kx n os.length) a w
 | [],n,a,w,_,h=>by simpa[wpOps,wpL]using h
 |o::os,n,a,w,hd,h=>by
  have ho:ops[n]? =iG o:=by
   have:=congrArg (·[0]?) hd
   grind
  have bw:ops.toList.drop (n+1)=os:=by
   have:=congrArg List.tail hd
   grind[List.tail_drop]
  simp only[J7,Jcw,wpOps,ho];simp only[wpL]at h;split
  ·rename_i hw
   simp only[hw,if_true]at h;exact h.imp (Oper.wp_mono fun a w=>zKu os (n+1) a w bw) id
  ·rename_i hw
   simp only[hw]at h;exact zKu os (n+1) _ w bw h
theorem CW.region{id:Nat}(h:RW P Γ pn ops ops.toList E Q):CW P Γ pn (.region id ops iJ) E Q:=by
 intro a w Q' hs hp hQ;refine wp_region ?_;have:=zKu (P:=P) ops.toList 0 a w (by simp) (h a w Q' hs hp hQ)
 grind[Lm]
theorem RW.nil(h:Q .normal E):RW P Γ pn ops [] E Q:=fun a w Q' hs hp hQ=>by
 simp only[wpL]
 grind
theorem RW.cons(h1:zW P Γ ops o E E')(h3:RW P Γ pn ops os E' Q)(h2:pn.ok o.dst=iI:=by rfl):RW P Γ pn ops (o::os) E Q:=by
 intro a w Q' hs hp hQ;simp only[wpL];have:=h1 a w (wpL P ops Q' os) Q' hs fun a' w' gJ hf=>h3 a' w' Q' gJ (hp.frame h2 hf) hQ
 exact this
theorem zW.op(h:∀S,wQ P (Γ.at S) o E E')(hg:o.guard=iH:=by rfl):zW P Γ ops o E E':=by
 intro a w K Q hs hK;have hw:Region.wanted o (yielded ops a.tmps)=iI:=by simp[Region.wanted,hg]
 rw[if_pos hw];refine .inl ?_;obtain⟨S,hS,hs⟩:=hs;have:=Oper.wp_frame (h S a w (fun a' w'=>jJ Γ E' a' w') Q hs fun a' w' h=>h.up hS)
 grind[Oper.wp_mono]
theorem zH0{a:Act}{w:World}(hs:jJ Γ E a w){g s:Nat}{b:Bool}(gp:(ops[g]?).bind (·.dst)=iG s)(h:E s=iG (.lit (.bool b))):yielded ops a.tmps g=iG b:=by
 obtain⟨_,_,_,G,hr⟩:=hs;obtain⟨h1,h2,_⟩:=hr.ent s _ h;simp only[R]at h2
 grind[yielded,mkV]
theorem zW.guard(g:Nat)(b:Bool)(s:Nat)(h:∀S,wQ P (Γ.at S) o E E')(hg:o.guard=iG (g,b):=by rfl)(gp:(ops[g]?).bind (·.dst)=iG s:=by rfl)(hb:E s=iG (.lit (.bool b)):=by rfl):zW P Γ ops o E E':=by
 intro a w K Q hs hK;have hw:Region.wanted o (yielded ops a.tmps)=iI:=by grind[Region.wanted,zH0]
 rw[if_pos hw];refine .inl ?_;obtain⟨S,hS,hs⟩:=hs;have:=Oper.wp_frame (h S a w (fun a' w'=>jJ Γ E' a' w') Q hs fun a' w' h=>h.up hS)
 grind[Oper.wp_mono]
def zO(Γ:Ctx)(E E':Env):Prop:=∀(a:Act)(w:World),jJ Γ E a w→jJ Γ E' a w
theorem zO.refl:zO Γ E E:=fun _ _ h=>h
theorem zO.trans{E1 E2 E3:Env}(h:zO Γ E1 E2)(h':zO Γ E2 E3):zO Γ E1 E3:=fun a w hs=>h' a w (h a w hs)
theorem zO.has{l:List (Nat×T)}(h:E.Has l):zO Γ E (yX l):=fun _ _ hs=>hs.weaken h.le
theorem CW.ghost(h1:zO Γ E E')(h:CW P Γ pn c E' Q):CW P Γ pn c E Q:=fun a w Q' hs=>h a w Q' (h1 a w hs)
theorem RW.ghost(h1:zO Γ E E')(h:RW P Γ pn ops os E' Q):RW P Γ pn ops os E Q:=fun a w Q' hs=>h a w Q' (h1 a w hs)
theorem CW.to(l:List (Nat×T))(h1:E.Has l)(h:CW P Γ pn c (yX l) Q):CW P Γ pn c E Q:=h.ghost (.has h1)
theorem CW.mono(h:CW P Γ pn c E Q1)(hq:∀e E',Q1 e E'→Q e E'):CW P Γ pn c E Q:=fun a w Q' hs hp hQ=>h a w Q' hs hp (by grind)
theorem CW.skip(h:Q .normal E):CW P Γ pn .skip E Q:=fun _ _ _ hs hp hQ=>by grind[wp_skip]
theorem CW.ret(h:Q .ret E):CW P Γ pn .ret E Q:=fun _ _ _ hs hp hQ=>by grind[wp_ret]
theorem CW.exit{id:Nat}(h:Q (.exit id) E):CW P Γ pn (.exit id) E Q:=fun _ _ _ hs hp hQ=>by grind[wp_exit]
def wR(P:Program)(Γ:Ctx)(pn:kG)(c:Code)(Q:Exit→Env→Prop):Exit→Env→Prop
 |.normal,E=>CW P Γ pn c E Q
 |e,E=>Q e E
theorem CW.seq(h:CW P Γ pn c1 E (wR P Γ pn c2 Q)):CW P Γ pn (.seq c1 c2) E Q:=by
 intro a w Q' hs hp hQ;refine wp_seq (h a w _ hs hp fun e E' a' w' h1 gJ cY=>?_);cases e with
 |normal=>exact h1 a' w' Q' gJ cY hQ
 |_=>exact hQ _ _ _ _ h1 gJ cY
theorem CW.cond{x:Operand}(b:Bool)(hb:opT E x=iG (.lit (.bool b)))(ht:b=iI→CW P Γ pn c1 E Q)(hf:b=iJ→CW P Γ pn c2 E Q):CW P Γ pn (.cond x c1 c2) E Q:=by intro a w Q' hs hp hQ;obtain⟨_,_,_,G,hr⟩:=id hs;refine wp_cond_split (wL hr hb).1 (fun h=>ht h a w Q' hs hp hQ) (fun h=>hf h a w Q' hs hp hQ)
def wU(id:Nat)(Q:Exit→Env→Prop):Exit→Env→Prop
 |.exit id',E=>if id'=id then Q .normal E else Q (.exit id') E
 |e,E=>Q e E
theorem CW.block{id:Nat}(h:CW P Γ pn c E (wU id Q)):CW P Γ pn (.block id c) E Q:=by
 intro a w Q' hs hp hQ;refine wp_block (h a w _ hs hp fun e E' a' w' h1 gJ cY=>?_);cases e with
 |exit id'=>
  simp only[wU]at h1;simp only[Exit.inBlock]
  grind
 |_=>exact hQ _ _ _ _ h1 gJ cY
end
def jW{σ ρ:Type}(body:σ→Option (σ⊕ρ)):Nat→σ→Option ρ
 |0,_=>iH
 |n+1,s=>match body s with
  |none=>iH
  |some (.inl s')=>jW body n s'
  |some (.inr r)=>iG r
theorem zH1{σ ρ:Type}{body:σ→Option (σ⊕ρ)}{r:ρ}:∀{n m:Nat}{s:σ},jW body n s=iG r→n≤m→jW body m s=iG r
 |0,_,_,h,_=>by grind[jW]
 |n+1,0,_,_,hm=>by omega
 |n+1,m+1,s,h,hm=>by
  simp only[jW]at h ⊢
  cases hb:body s with
  |none=>grind
  |some x=>
   cases x with
   |inl s'=>simp only[hb]at h ⊢;exact zH1 h (by omega)
   |inr r'=>grind
open Classical in
noncomputable def zI {σ ρ:Type} (body:σ→Option (σ⊕ρ)) (s:σ):Option ρ:=
 if h:∃(n:Nat)(r:ρ),jW body n s=iG r then iG h.choose_spec.choose else iH
theorem zEb{σ ρ:Type}{body:σ→Option (σ⊕ρ)}{s:σ}{r:ρ}:zI body s=iG r↔ ∃n,jW body n s=iG r:=by
 unfold zI;constructor
 ·intro h
  split at h
  all_goals grind
 ·rintro⟨n,hn⟩
  have he:∃(n:Nat)(r:ρ),jW body n s=iG r:=⟨n,r,hn⟩;rw[dif_pos he]
  grind[zH1]
theorem xK{σ ρ:Type}(body:σ→Option (σ⊕ρ))(s:σ):zI body s=match body s with
  |none=>iH
  |some (.inl s')=>zI body s'
  |some (.inr r)=>iG r:=by
 apply Option.ext;intro r;rw[zEb];cases hb:body s with
 |none=>
  simp only[reduceCtorEq,iff_false]
  rintro⟨n,hn⟩
  cases n<;>simp[jW,hb]at hn
 |some x=>
  cases x with
  |inl s'=>
   simp only[];rw[zEb];constructor
   ·rintro⟨n,hn⟩
    cases n with
    |zero=>grind[jW]
    |succ n=>grind[jW]
   ·rintro⟨n,hn⟩
    exact⟨n+1,by grind[jW]⟩
  |inr r'=>
   simp only[Lu.injEq];constructor
   ·rintro⟨n,hn⟩
    cases n with
    |zero=>grind[jW]
    |succ n=>grind[jW]
   ·rintro rfl
    exact⟨1,by simp[jW,hb]⟩
section
variable {P:Program}{Γ:Ctx}{pn:kG}{E:Env}{Q:Exit→Env→Prop}{c:Code}
def uU{σ ρ:Type}(Γ:Ctx)(en:σ→Env)(Q:ρ→Exit→Env→Prop)(x:σ⊕ρ):Exit→Env→Prop:=fun e E'=>
 match x with
 |.inl s'=>e=.normal∧zO Γ E' (en s')
 |.inr r=>e≠.normal∧Q r e E'
theorem zDG{p:Nat→Prop}(h:∃m,p m):∃m,p m∧ ∀k,k<m→ ¬p k:=by
 refine Classical.byContradiction fun hn=>?_
 have key:∀n,∀k,k<n→ ¬p k:=by
  intro n
  induction n with
  |zero=>simp
  |succ n ih=>
   grind
 grind
theorem CW.loop{σ ρ:Type}(body:σ→Option (σ⊕ρ))(en:σ→Env)(Q:ρ→Exit→Env→Prop)(h:∀s x,body s=iG x→CW P Γ pn c (en s) (uU Γ en Q x)){s:σ}{r:ρ}(hr:zI body s=iG r):
  CW P Γ pn (.loop c) (en s) (Q r):=by
 classical
 intro a w Q' hs hp hQ
 let p:Act→World→Nat→Prop:=fun a w m=> ∃s,jW body m s=iG r∧jJ Γ (en s) a w∧pn.Hold a
 let μ:Act→World→Nat:=fun a w=>if h:∃m,p a w m then(zDG h).choose else 0
 obtain⟨n,hn⟩:=zEb.1 hr;refine wp_loop (fun a w=> ∃m,p a w m) μ (by grind) ?_;intro a w cP;have hμ:μ a w=(zDG cP).choose:=dif_pos cP;obtain⟨s,h1,h2,h3⟩:=(zDG cP).choose_spec.1;have eG:=(zDG cP).choose_spec.2;rw[←hμ]at h1;cases hm:μ a w with
 |zero=>grind[jW]
 |succ k=>
  rw[hm]at h1;simp only[jW]at h1;cases hb:body s with
  |none=>grind
  |some x=>
   refine h s x hb a w _ h2 h3 fun e E' a' w' hq gJ cY=>?_
   cases x with
   |inl s'=>
    simp only[hb]at h1;obtain⟨rfl,hg⟩:=hq;have ax:p a' w' k:=⟨s',h1,hg a' w' gJ,cY⟩;refine⟨⟨k,ax⟩,?_⟩;have hex':∃m,p a' w' m:=⟨k,ax⟩
    grind
   |inr r'=>
    simp only[hb]at h1;have:r'=r:=by grind
    subst this;obtain⟨gf,hq⟩:=hq;have:=hQ e E' a' w' hq gJ cY;cases e with
    |normal=>grind
    |_=>exact this
end
end Go.Ab

namespace Go.Ab
open Go
abbrev Nds:=List (Nat×List Nat×T)
def ROk(P:Program)(E:Env):ResultVar→(Nat×List Nat×T)→Prop
 |.tmp s,x=>x.1=s∧x.2.1=[]∧E s=iG x.2.2∧x.2.2.okTup=iI
 |.cell a T,x=>x.1=a∧x.2.1=[0]∧E a=iG (.ptr x.2.2)∧ ∃ds ti,P.underlying T=iG ds∧P.info? T=iG ti∧zF2 ds= !x.2.2.single∧ti.size=x.2.2.size
def zQG(P:Program)(E:Env):List ResultVar→Nds→Prop
 | [],[]=>True
 |x::xs,y::ys=>ROk P E x y∧zQG P E xs ys
 |_,_=>False
def LOk(E:Env)(us:List T):List (Nat×T)→Prop
 | []=>True
 |(i,u')::l=>(E i=iG u'∧ ∃u,us[i]? =iG u)∧LOk E us l
def yAe(P:Program)(rs:Array ResultVar)(us res:List T)(rws:List (Nat×T)):Exit→Env→Prop:=fun e E=>
 (e=.ret∨e=.normal)∧ ∃nd:Nds,zQG P E rs.toList nd∧nd.map (·.2.2)=res∧(∀x∈nd,us.length≤x.1)∧(nd.map (·.1)).Nodup∧LOk E us rws
def zC6(v:Nat→Value)(is:List Nat):kG:=is.map fun i=>(i,v i)
def zIR:Nat→List T→List (Nat×T)
 |_,[]=>[]
 |i,u::us=>(i,u)::zIR (i+1) us
theorem zLM:∀(us:List T)(i s:Nat)(t:T),yX (zIR i us) s=iG t→i≤s∧us[s-i]? =iG t
 | [],i,s,t,h=>by simp[zIR,yX]at h
 |u::us,i,s,t,h=>by
  simp only[zIR,yX]at h;split at h
  ·rename_i e;subst e;simpa using h
  ·rename_i e
   obtain⟨h1,h2⟩:=zLM us (i+1) s t h;refine⟨by omega,?_⟩;have:s-i=(s-(i+1))+1:=by omega
   rw[this];simpa using h2
def zSz(tmps:Array Value):ResultVar→Sem Value
 |.tmp t=>pure (tmps.getD t undef)
 |.cell a t=>do loadVar t (←asAddr (tmps.getD a undef))
theorem zNN(fn:Func)(tmps:Array Value):results fn tmps=(do
  let vs ←fn.results.mapM (zSz tmps)
  pure (if h:vs.size=1 then vs[0]else .tuple vs)):=rfl
theorem vU.get:(xs:List T)→vU xs→ ∀(i:Nat)(x:T),xs[i]? =iG x→Top x
 | [],_,i,x,h=>by simp at h
 |y::ys,ht,i,x,h=>by
  simp only[vU]at ht;cases i with
  |zero=>simp at h;subst h;exact ht.1
  |succ i=>exact vU.get ys ht.2 i x (by simpa using h)
theorem LOk.get{E:Env}{us:List T}:(l:List (Nat×T))→LOk E us l→ ∀i u',(i,u')∈l→E i=iG u'∧ ∃u,us[i]? =iG u
 | [],_,_,_,h=>by simp at h
 |x::l,h,i,u',hm=>by
  rcases J9.1 hm with rfl|hm
  ·exact h.1
  ·exact LOk.get l h.2 i u' hm
theorem yCb{P:Program}{Γ:Ctx}{E:Env}{G:Gh}{tmps:Array Value}{w:World}(g9:Rep Γ E G tmps w)(x:ResultVar)(s:Nat)(q:List Nat)(t:T)(h:ROk P E x (s,q,t)):
  (zSz tmps x).run P w=.ok (sQ G s t q) w∧R Γ.St G w s t q:=by
 cases x with
 |tmp s'=>
  obtain⟨h0,t8,h1,h2⟩:=h;dsimp only at h0 t8 h1 h2;subst h0 t8;obtain⟨g1,g2,_⟩:=g9.ent _ _ h1;have eh:∀xs,t≠.tup xs:=by rintro xs rfl;simp[T.okTup]at h2
  refine⟨?_,g2⟩;rw[←kV G s t [] eh];simp[zSz,Kl,g1]
 |cell a T'=>
  obtain⟨h0,t8,h1,ds,ti,h2,h3,h4,h5⟩:=h;dsimp only at h0 t8 h1 h4 h5;subst h0 t8;obtain⟨g1,g2,_⟩:=g9.ent _ _ h1;simp only[R]at g2;obtain⟨b,cs,e,k1,k2,k3,k4,k5,k6⟩:=g2;refine⟨?_,k6⟩;rw[xU rfl,k1]at g1;have h6:=zGq (w:=w) h2 h3 k5 h4 h5;simp[zSz,Kl,g1,asAddr,h6]
theorem zGx{P:Program}{Γ:Ctx}{E:Env}{G:Gh}{tmps:Array Value}{w:World}(g9:Rep Γ E G tmps w):(rs:List ResultVar)→(nd:Nds)→zQG P E rs nd→
  (rs.mapM (zSz tmps)).run P w=.ok (nd.map fun x=>sQ G x.1 x.2.2 x.2.1) w∧ ∀x∈nd,R Γ.St G w x.1 x.2.2 x.2.1
 | [],[],_=>by simp
 |x::xs,y::ys,h=>by
  obtain⟨h1,h2⟩:=zGx g9 xs ys h.2;obtain⟨h3,h4⟩:=yCb g9 x y.1 y.2.1 y.2.2 h.1;refine⟨?_,?_⟩
  ·simp[List.mapM_cons,h3,h1]
  ·intro z hz
   rcases J9.1 hz with rfl|hz
   ·exact h4
   ·exact h2 z hz
 | [],_::_,h=>by simp[zQG]at h
 |_::_,[],h=>by simp[zQG]at h
theorem FnC.of_body{P:Program}{f:FuncId}{fn:Func}{c:Code}{us res:List T}{rws:List (Nat×T)}(hf:P.funcs[f]? =iG fn)(hb:fn.body=iG c)(hn:us.length≤fn.ntmps)(ht:vU us)(hr:rws.all (fun x=>decide (x.1<us.length))=iI)
  (h:∀(Γ:Ctx)(v:Nat→Value),Γ.N=fn.ntmps→CW P Γ (zC6 v (rws.map (·.1))) c (yX (zIR 0 us)) (yAe P fn.results us res rws)):FnC P f us res rws:=by
 intro St W w G vs cG gc gr
 let Γ:Ctx:=⟨St,W,w,fn.ntmps⟩
 let v:Nat→Value:=fun i=>vs.getD i undef
 have hm:Mem Γ G w:=⟨gr.one,gr.lb,gr.ow,gr.st,gr.fr,gr.sz,gr.bk⟩;have gy:(vs++Qb (fn.ntmps-vs.size) undef).size=fn.ntmps:=by simp;omega
 have mS:Sim Γ (yX (zIR 0 us)) { tmps:=vs++Qb (fn.ntmps-vs.size) undef,defers:=[] } w:=by refine⟨rfl,G,gy,?_,hm⟩;intro s t hs;obtain⟨_,h2⟩:=zLM us 0 s t hs;simp only[Ui]at h2;obtain⟨h3,h4⟩:=gc s t h2;have gF:s<vs.size:=(L5.1 h3).1;exact⟨by simp[Ja4,gF];exact(L5.1 h3).2,h4,vU.get us ht s t h2⟩
 have ui:(zC6 v (rws.map (·.1))).Hold { tmps:=vs++Qb (fn.ntmps-vs.size) undef,defers:=[] }:=by
  intro x hx;simp only[zC6,Jl]at hx;obtain⟨i,⟨y,hy,rfl⟩,rfl⟩:=hx;have h1:=Ki.1 hr y hy;simp at h1;have h2:y.1<vs.size:=by omega
  simp[Ja4,h2,v]
 refine calls_of_wp hf hb (h Γ v rfl _ _ _ (.of mS) ui ?_)
 rintro e E' a' w' ⟨he,nd,h1,h2,h3,h4,h5⟩ ⟨S',gZ,gR,G',g9⟩ hp
 obtain⟨g1,g2⟩:=zGx g9 _ _ h1;have gk:(results fn a'.tmps).run P w'=.ok (zLD G' nd) w':=by
  rw[zNN,Array.mapM_eq_mapM_toList];simp only[Sem.run_bind,Sem.run_map,g1];cases nd with
  |nil=>simp[zLD]
  |cons y ys=>
   cases ys with
   |nil=>simp[zLD]
   |cons z zs=>simp[zLD]
 have gE:Mem ⟨S',W,w,0⟩ G' w':=⟨g9.mem.one,g9.mem.lb,g9.mem.ow,g9.mem.st,g9.mem.fr,g9.mem.sz,g9.mem.bk⟩;have bt:bodyPost P fn (fun e w'=> ∃(S':Stb)(G':Gh)(nd:List (Nat×List Nat×T)),zD2 St S' W w.heap.size∧e=.returned (zLD G' nd)∧Mem ⟨S',W,w,0⟩ G' w'∧nd.map (·.2.2)=res∧
   (∀x∈nd,R S' G' w' x.1 x.2.2 x.2.1∧us.length≤x.1)∧(nd.map (·.1)).Nodup∧
   ∀i u',(i,u')∈rws→R S' G' w' i u' []∧ ∃u,us[i]? =iG u∧mkV G' i u' []=mkV G i u []) .ret a' w':=by
  refine⟨gR,_,gk,S',G',nd,gZ,rfl,gE,h2,fun x hx=>⟨g2 x hx,h3 x hx⟩,h4,?_⟩;intro i u' hiu;obtain⟨k1,u,k3⟩:=LOk.get _ h5 i u' hiu;obtain⟨k5,k6,_⟩:=g9.ent i u' k1;refine⟨k6,u,k3,?_⟩;have k7:=hp (i,v i) (by simp only[zC6,Jl];exact⟨i,⟨(i,u'),hiu,rfl⟩,rfl⟩);have k8:=(gc i u k3).1;rw[k5]at k7;simp[v,Kl,k8]at k7;exact k7
 rcases he with rfl|rfl<;>exact bt
end Go.Ab

namespace Go.Ab
open Go
mutual
def uC:T→T
 |.sl k xs=>.ro (strip (.sl k xs))
 |.ptr t=>.ro (strip (.ptr t))
 |.agg xs=>.agg (uE xs)
 |.tup xs=>.tup (uE xs)
 |.any=>.any
 |.lit v=>.lit v
 |.ro t=>.ro t
 |.same r p=>.same r p
 |.addr r p=>.addr r p
 |.sub r p k lo hi=>.sub r p k lo hi
def uE:List T→List T
 | []=>[]
 |x::xs=>uC x::uE xs
end
mutual
theorem zS0(G:Gh)(s:Nat):(t:T)→ ∀p,vals G s (uC t) p=vals G s t p
 |.agg xs,p=>by simp only[uC,vals];exact zDn G s xs p 0
 |.sl _ _,_|.ptr _,_|.tup _,_|.any,_|.lit _,_|.ro _,_|.same _ _,_|.addr _ _,_|.sub _ _ _ _ _,_=>by simp only[uC,vals]
theorem zDn(G:Gh)(s:Nat):(xs:List T)→ ∀p j,yJ G s (uE xs) p j=yJ G s xs p j
 | [],_,_=>by simp only[uE]
 |x::xs,p,j=>by simp only[uE,yJ,zS0 G s x,zDn G s xs]
end
theorem zS1(G:Gh)(s:Nat)(t:T)(p:List Nat):sQ G s (uC t) p=sQ G s t p:=by cases t<;>simp only[uC,sQ,zDn]
theorem zLN(G:Gh)(s:Nat):(xs:List T)→ ∀p j,jV G s (uE xs) p j=jV G s xs p j
 | [],_,_=>by simp only[uE]
 |x::xs,p,j=>by simp only[uE,jV,zS1,zLN G s xs]
theorem zVW(G:Gh)(s:Nat)(t:T)(p:List Nat):mkV G s (uC t) p=mkV G s t p:=by cases t<;>simp only[uC,mkV,zDn,zLN]
mutual
theorem zLO:(t:T)→Top t→Top (uC t)
 |.agg xs,h|.tup xs,h=>by simp only[uC,Top]at h ⊢;exact zJt xs h
 |.sl _ _,_|.ptr _,_|.any,_|.lit _,_|.ro _,_|.same _ _,_|.addr _ _,_|.sub _ _ _ _ _,_=>by simp only[uC,Top]
theorem zJt:(xs:List T)→vU xs→vU (uE xs)
 | [],_=>by simp only[uE,vU]
 |x::xs,h=>by simp only[uE,vU]at h ⊢;exact⟨zLO x h.1,zJt xs h.2⟩
end
section
variable {St Sc:Stb}{G G':Gh}{w:World}{s:Nat} (gw:∀s p,(G.hd s p).oneCell'=iI) (eC:∀b x,St b=iG x→Sc b=iG x) (eJ:∀b,(∃y,G.ow b=iG (s,y))→Sc b=w.heap[b]?) (gH:∀s z,G'.hd s z=G.hd s z) (fk:∀s z,G'.ad s z=G.ad s z)
 include gw eC eJ gH fk
mutual
theorem zX3:(t:T)→ ∀(p:List Nat),R St G w s t p→R Sc G' w s (uC t) p
 |.agg xs,p,hr|.tup xs,p,hr=>by simp only[uC,R]at hr ⊢;exact zS2 xs p 0 hr
 |.sl k xs,p,hr=>by have:=zLG gw eC eJ (.sl k xs) p rfl hr;simp only[uC,R,gH];exact this
 |.ptr t,p,hr=>by have:=zLG gw eC eJ (.ptr t) p rfl hr;simp only[uC,R,gH];exact this
 |.ro u,p,hr=>by simp only[uC,R,gH]at hr ⊢;exact sA eC u _ _ hr
 |.any,_,_=>by simp only[uC,R]
 |.lit _,_,hr|.same _ _,_,hr|.sub _ _ _ _ _,_,hr=>by simp only[uC,R,gH]at hr ⊢;exact hr
 |.addr _ _,_,hr=>by simp only[uC,R,gH,fk]at hr ⊢;exact hr
theorem zS2:(xs:List T)→ ∀(p:List Nat)(j:Nat),RF St G w s xs p j→RF Sc G' w s (uE xs) p j
 | [],_,_,_=>by have _:=gw;have _:=eC;have _:=eJ;have _:=gH;have _:=fk;simp only[uE,RF]
 |x::xs,p,j,hr=>by simp only[uE,RF]at hr ⊢;exact⟨zX3 x _ hr.1,zS2 xs p (j+1) hr.2⟩
end
end
theorem zO.freeze{Γ:Ctx}{E:Env}(s:Nat)(t:T)(hs:E s=iG t):zO Γ E (E.app [(s,iG (uC t))] [(s,1)]):=by
 classical
 rintro a w ⟨S,hS,gR,G,g9⟩
 have hm:=g9.mem
 let own:Nat→Prop:=fun b=> ∃y,G.ow b=iG (s,y)
 let Sc:Stb:=fun b=>if own b then w.heap[b]? else S b
 let G':Gh:={ hd:=G.hd,ad:=G.ad,lb:=fun b o=>if own b then iH else G.lb b o,ow:=fun b=>if own b then iH else G.ow b }
 have fK:∀b x,S b=iG x→Sc b=iG x:=fun b x hx=>by
  have:¬own b:=by
   rintro⟨y,hy⟩
   have:=(hm.ow b _ hy).2.2;rw[show S b=iH from this]at hx;cases hx
  simp only[Sc,this,if_false];exact hx
 have aK:zD2 S Sc Γ.W Γ.w0.heap.size:=⟨fK,fun b hb f7=>by
  by_cases h:own b
  ·obtain⟨y,hy⟩:=h
   exact(hm.ow b _ hy).2.1
  ·simp only[Sc,h,if_false]at f7
   exact absurd hb f7⟩
 have gr:Mem ((Γ.at S).at Sc) G' w:=by
  refine⟨hm.one,fun b o l hl=>?_,fun b l hl=>?_,fun b x hx=>?_,hm.fr,hm.sz,hm.bk⟩
  ·by_cases h:own b
   ·simp only[G',h,if_true]at hl;cases hl
   ·simp only[G',h,if_false]at hl
    have:=hm.lb b o l hl;exact⟨this.1,this.2.1,by simp only[Sc,h,if_false];exact this.2.2⟩
  ·by_cases h:own b
   ·simp only[G',h,if_true]at hl;cases hl
   ·simp only[G',h,if_false]at hl
    have:=hm.ow b l hl;exact⟨this.1,this.2.1,by simp only[Sc,h,if_false];exact this.2.2⟩
  ·by_cases h:own b
   ·simp only[Sc,h,if_true]at hx;exact hx
   ·simp only[Sc,h,if_false]at hx;exact hm.st b x hx
 have gx:jB [(s,1)] G w G' w:=by
  have df:∀b s0 y,G.ow b=iG (s0,y)→(∀n,(s0,n)∉([(s,1)]:Chg))→ ¬own b:=by
   rintro b s0 y h1 h2 ⟨y',h3⟩
   rw[h1]at h3;simp at h3;exact h2 1 (by simp[h3.1])
  refine⟨fun _ _ _=>rfl,fun _ _ _=>rfl,fun b o f s0 p ⟨y,hy⟩ h1 h2=>?_,fun b s0 p h1 h2=>?_,fun b cs e h=>⟨cs,h,rfl⟩⟩
  ·have:=df b s0 y hy h2
   refine⟨?_,rfl⟩;simp only[G',this,if_false];exact h1
  ·have:=df b s0 p h1 h2
   simp only[G',this,if_false];exact h1
 obtain⟨e1,e2,e3⟩:=g9.ent s t hs;refine⟨Sc,hS.trans aK,gR,G',g9.up fK rfl gx gr (fun s0 h0=>⟨fun n hn=>?_,rfl⟩) (fun s0 t0 h0=>?_)⟩
 ·rw[tY]at h0
  simp at hn;simp[hn.1]at h0
 ·rw[tY]at h0
  split at h0
  ·rename_i he;subst he
   simp at h0;subst h0;have hR:=zX3 (G':=G') hm.one fK (fun b hb=>by simp only[Sc];rw[if_pos hb]) (fun _ _=>rfl) (fun _ _=>rfl) t [] e2;refine⟨?_,hR,zLO t e3⟩;rw[e1];have h1:mkV G' s (uC t) []=mkV G s (uC t) []:=zF1 _ _ _ (fun _=>rfl);rw[h1,zVW]
  ·cases h0
end Go.Ab

namespace Go.Ab
open Go
abbrev zEF:=List (Wr×Chg)
def Env.apps(E:Env)(l:zEF):Env:=l.foldl (fun E x=>E.app x.1 x.2) E
structure Stp where
 rd:List (Nat×T)
 l:zEF
def sL(wr:Wr):List Nat:=wr.map (·.1)
def Stp.slots(X:Stp):List Nat:=X.l.flatMap fun x=>sL x.1
def oOk(chg:Chg):Option T→Bool
 |none=>iI
 |some t=>t.okB chg
def zNO(chg:Chg)(wr:Wr):Bool:=wr.all fun x=>oOk chg x.2
def zQH(a b:List Nat):Bool:=a.all fun x=> !b.contains x
def zFB(a b:zEF):Bool:=a.all fun x=>b.all fun y=>zQH (sL x.1) (sL y.1)&&zNO y.2 x.1&&zNO x.2 y.1
def Stp.apart(a b:Stp):Bool:=zFB a.l b.l&&zQH a.slots (b.rd.map (·.1))&&zQH b.slots (a.rd.map (·.1))&&a.rd.all fun x=>b.l.all fun y=>x.2.okB y.2
theorem zFC{wr:Wr}{s:Nat}(h:s∉sL wr):wr.find s=iH:=by
 induction wr with
 |nil=>rfl
 |cons x wr ih=>
  simp only[sL,Jn,J9,not_or]at h;simp only[Wr.find,Ne.symm h.1,if_false];exact ih h.2
theorem zJu{wr:Wr}{s:Nat}{x:Option T}(h:wr.find s=iG x):s∈sL wr∧ ∃y∈wr,y.2=x:=by
 induction wr with
 |nil=>simp[Wr.find]at h
 |cons y wr ih=>
  simp only[Wr.find]at h;split at h
  ·rename_i e
   simp at h;exact⟨by simp[sL,e],y,by simp,h⟩
  ·obtain⟨h1,z,h2,h3⟩:=ih h
   exact⟨by simp only[sL,Jn,J9];exact .inr h1,z,by simp[h2],h3⟩
theorem zH2{a b:List Nat}(h:zQH a b=iI){s:Nat}(hs:s∈a):s∉b:=by have:=Ki.1 h s hs;simpa using this
theorem zS3(E:Env)(w1 w2:Wr)(c1 c2:Chg)(h:zQH (sL w1) (sL w2)=iI)(h1:zNO c2 w1=iI)(h2:zNO c1 w2=iI):
  (E.app w1 c1).app w2 c2=(E.app w2 c2).app w1 c1:=by
 funext s
 have ok:∀{c:Chg}{w:Wr}{s:Nat}{x:Option T},zNO c w=iI→w.find s=iG x→(match x with|some t=>if t.okB c then iG t else iH|none=>iH)=x:=by
  intro c w s x hw hf;obtain⟨_,y,hy,rfl⟩:=zJu hf;have:=Ki.1 hw y hy;cases hy2:y.2 with
  |none=>rfl
  |some t=>rw[hy2]at this;simp only[oOk]at this;simp[this]
 unfold Env.app;cases hf1:w1.find s with
 |some x=>
  have:=zFC (zH2 h (zJu hf1).1);simp only[this];exact ok h1 hf1
 |none=>
  cases hf2:w2.find s with
  |some y=>simp only;exact(ok h2 hf2).symm
  |none=>
   simp only
   cases E s with
   |none=>rfl
   |some t=>by_cases k1:t.okB c1=iI<;>by_cases k2:t.okB c2=iI<;>simp[k1,k2]
theorem zDH(w:Wr)(c:Chg):∀(l:zEF)(E:Env),(∀y∈l,zQH (sL w) (sL y.1)=iI∧zNO y.2 w=iI∧zNO c y.1=iI)→(E.app w c).apps l=(E.apps l).app w c
 | [],E,_=>rfl
 |y::l,E,h=>by obtain⟨h1,h2,h3⟩:=h y (by simp);show((E.app w c).app y.1 y.2).apps l=_;rw[zS3 E w y.1 c y.2 h1 h2 h3];exact zDH w c l _ (fun z hz=>h z (by simp[hz]))
theorem zJv:∀(l1 l2:zEF)(E:Env),zFB l1 l2=iI→(E.apps l1).apps l2=(E.apps l2).apps l1
 | [],l2,E,_=>rfl
 |x::l1,l2,E,h=>by
  simp only[zFB,Q7,J4]at h;show((E.app x.1 x.2).apps l1).apps l2=((E.apps l2).app x.1 x.2).apps l1;rw[zJv l1 l2 _ (by simp only[zFB];exact h.2),zDH x.1 x.2 l2 E (fun y hy=>by have:=Ki.1 h.1 y hy;simp only[J4]at this;exact⟨this.1.1,this.1.2,this.2⟩)]
def runD:Env→List (Bool×Stp)→Env
 |E,[]=>E
 |E,(b,X)::l=>runD (if b then E.apps X.l else E) l
theorem kX:∀(l1 l2:List (Bool×Stp))(E:Env),runD E (l1++l2)=runD (runD E l1) l2
 | [],_,_=>rfl
 |(b,X)::l1,l2,E=>by simp only[K6,runD];exact kX l1 l2 _
theorem zFD:∀(l:List (Bool×Stp))(X:Stp)(E:Env),(∀y∈l,y.1=iI→zFB X.l y.2.l=iI)→runD (E.apps X.l) l=(runD E l).apps X.l
 | [],_,_,_=>rfl
 |(b,Y)::l,X,E,h=>by
  simp only[runD];cases b with
  |false=>exact zFD l X E (fun y hy=>h y (by simp[hy]))
  |true=>
   have:=h (iI,Y) (by simp) rfl;simp only[if_true];rw[zJv X.l Y.l E this];exact zFD l X _ (fun y hy=>h y (by simp[hy]))
theorem zH3{s:Nat}:∀(l:zEF)(E:Env),s∉l.flatMap (fun x=>sL x.1)→ ∀t,(E.apps l) s=iG t→E s=iG t
 | [],_,_,_,h=>h
 |x::l,E,hs,t,h=>by
  simp only[Lo,Jd,not_or]at hs;have:=zH3 l (E.app x.1 x.2) hs.2 t h;unfold Env.app at this;rw[zFC hs.1]at this;simp only[]at this;cases he:E s with
  |none=>simp[he]at this
  |some u=>simp[he]at this;rw[this.2]
theorem zJw{s:Nat}{t:T}:∀(l:zEF)(E:Env),s∉l.flatMap (fun x=>sL x.1)→(∀y∈l,t.okB y.2=iI)→E s=iG t→(E.apps l) s=iG t
 | [],_,_,_,h=>h
 |x::l,E,hs,gB,h=>by simp only[Lo,Jd,not_or]at hs;refine zJw l (E.app x.1 x.2) hs.2 (fun y hy=>gB y (by simp[hy])) ?_;unfold Env.app;rw[zFC hs.1];simp[h,gB x (by simp)]
theorem zJx{s:Nat}:∀(l:zEF)(E1 E2:Env),(∀t,E2 s=iG t→E1 s=iG t)→ ∀t,(E2.apps l) s=iG t→(E1.apps l) s=iG t
 | [],_,_,h,t,ht=>h t ht
 |x::l,E1,E2,h,t,ht=>by
  refine zJx l (E1.app x.1 x.2) (E2.app x.1 x.2) (fun u hu=>?_) t ht;unfold Env.app at hu ⊢
  cases hf:x.1.find s with
  |some y=>simpa[hf]using hu
  |none=>
   simp only[hf]at hu ⊢
   cases he:E2 s with
   |none=>simp[he]at hu
   |some v=>rw[h v he];simpa[he]using hu
theorem zJy{s:Nat}:∀(l:List (Bool×Stp))(E1 E2:Env),(∀y∈l,y.1=iJ→s∉y.2.slots)→(∀t,E2 s=iG t→E1 s=iG t)→
  ∀t,runD E2 (l.map fun y=>(iI,y.2)) s=iG t→runD E1 l s=iG t
 | [],_,_,_,h,t,ht=>h t ht
 |(b,X)::l,E1,E2,hl,h,t,ht=>by
  simp only[Jn,runD,if_true]at ht ⊢
  refine zJy l _ _ (fun y hy=>hl y (by simp[hy])) (fun u hu=>?_) t ht;cases b with
  |true=>exact zJx X.l E1 E2 h u hu
  |false=>exact h u (zH3 X.l E2 (hl (iJ,X) (by simp) rfl) u hu)
theorem zJz{s:Nat}{t:T}:∀(l:List (Bool×Stp))(E:Env),(∀y∈l,y.1=iI→s∉y.2.slots∧ ∀z∈y.2.l,t.okB z.2=iI)→E s=iG t→runD E l s=iG t
 | [],_,_,h=>h
 |(b,X)::l,E,hl,h=>by
  simp only[runD];refine zJz l _ (fun y hy=>hl y (by simp[hy])) ?_;cases b with
  |false=>exact h
  |true=>obtain⟨h1,h2⟩:=hl (iI,X) (by simp) rfl;exact zJw X.l E h1 h2 h
theorem Env.Has.of{E E':Env}:{l:List (Nat×T)}→E.Has l→(∀s t,(s,t)∈l→E s=iG t→E' s=iG t)→E'.Has l
 | [],_,_=>trivial
 |(s,t)::l,h,h'=>⟨h' s t (by simp) h.1,Env.Has.of h.2 fun s t hm=>h' s t (by simp[hm])⟩
end Go.Ab

namespace Go.Ab
open Go
def zBy(o:Oper):List Nat:=(o.after.toList.filter (Region.binds .any)).map (·.on)
def zAR:Nat→List Oper→Bool
 |_,[]=>iI
 |i,o::os=>((zBy o).all fun m=>decide (m<i))&&zAR (i+1) os
def zAv(an:List (List Nat)):List (List Nat)→List Oper→Bool
 | [],_=>iI
 |_::_,[]=>iJ
 |l::ls,o::os=>(l.all fun k=>(zBy o).contains k||(zBy o).any fun m=>(an.getD m []).contains k)&&zAv an ls os
def kH(Xs:List Stp):Nat→List (List Nat)→List Stp→Bool
 |_,_,[]=>iI
 |j,an,Y::Ys=>((Jg j).all fun i=>(an.headD []).contains i||match Xs[i]? with
   |some X=>X.apart Y
   |none=>iI)&&kH Xs (j+1) an.tail Ys
theorem zGN:∀(os:List Oper)(i0 j:Nat)(o:Oper),zAR i0 os=iI→os[j]? =iG o→ ∀m∈zBy o,m<i0+j
 | [],_,j,_,_,h=>by simp at h
 |x::os,i0,j,o,hf,h=>by
  simp only[zAR,J4]at hf;cases j with
  |zero=>
   grind
  |succ j=>
   intro m hm;have:=zGN os (i0+1) j o hf.2 (by grind) m hm;omega
theorem zKv(an:List (List Nat)):∀(ls:List (List Nat))(os:List Oper)(j:Nat)(l:List Nat),zAv an ls os=iI→ls[j]? =iG l→ ∃o,os[j]? =iG o∧ ∀k∈l,k∈zBy o∨ ∃m∈zBy o,k∈an.getD m []
 | [],_,j,_,_,h=>by simp at h
 |_::_,[],_,_,h,_=>by grind[zAv]
 |x::ls,o::os,j,l,ha,h=>by
  simp only[zAv,J4]at ha;cases j with
  |zero=>
   simp_all
  |succ j=>
   obtain⟨o',h1,h2⟩:=zKv an ls os j l ha.2 (by grind)
   grind
theorem zFE(Xs:List Stp):∀(Ys:List Stp)(j0:Nat)(an:List (List Nat))(j:Nat)(Y:Stp),kH Xs j0 an Ys=iI→Ys[j]? =iG Y→ ∀i X,i<j0+j→Xs[i]? =iG X→i∈an.getD j []∨X.apart Y=iI
 | [],_,_,j,_,_,h=>by simp at h
 |Z::Ys,j0,an,j,Y,hp,h=>by
  simp only[kH,J4]at hp;intro i X hi hX;cases j with
  |zero=>
   simp at h;subst h;have:=Ki.1 hp.1 i (by grind);simp only[hX,Bool.or_eq_true,Hc,decide_eq_true_eq]at this;rcases this with h|h
   ·left
    cases an with
    |nil=>simp at h
    |cons l an=>grind
   grind
  |succ j=>
   rcases zFE Xs Ys (j0+1) an.tail j Y hp.2 (by grind) i X (by omega) hX with h|h
   all_goals grind
section
variable {P:Program}{Γ:Ctx}{pn:kG}{ops:Array Oper}
def zS4(ops:Array Oper)(L:List Bool):Prop:=∀(i:Nat)(o:Oper),ops[i]? =iG o→L[i]? =iG iI→ ∀m∈zBy o,L[m]? =iG iI
theorem zH4{L:List Bool}{an:List (List Nat)}(hf:zAR 0 ops.toList=iI)(ha:zAv an an ops.toList=iI)(hc:zS4 ops L):
  ∀(n i:Nat),i≤n→ ∀o,ops[i]? =iG o→(∀m∈zBy o,L[m]? =iG iI)→ ∀k∈an.getD i [],L[k]? =iG iI:=by
 intro n
 induction n with
 |zero=>
  intro i hi o ho hp k hk;have i9:i=0:=by omega
  subst i9;cases hl:an[0]? with
  |none=>grind
  |some l=>
   obtain⟨o',h1,h2⟩:=zKv an an ops.toList 0 l ha hl;rw[Kv,ho]at h1;simp at h1;subst h1;simp only[Jcm,hl,Qc]at hk;rcases h2 k hk with h|⟨m,h,_⟩
   ·grind
   ·have:=zGN ops.toList 0 0 o hf (by grind) m h
    omega
 |succ n ih=>
  intro i hi o ho hp k hk;cases hl:an[i]? with
  |none=>grind
  |some l=>
   obtain⟨o',h1,h2⟩:=zKv an an ops.toList i l ha hl;rw[Kv,ho]at h1;simp at h1;subst h1;simp only[Jcm,hl,Qc]at hk;rcases h2 k hk with h|⟨m,h,hkm⟩
   ·grind
   ·have gF:=zGN ops.toList 0 i o hf (by grind) m h
    have hLm:=hp m h;cases dc:ops[m]? with
    |none=>
     grind
    |some om=>exact ih m (by omega) om dc (hc m om dc hLm) k hkm
theorem zJ0{L:List Bool}{Xs:List Stp}{i:Nat}{b:Bool}{X:Stp}(hL:L[i]? =iG b)(hX:Xs[i]? =iG X):L.zip Xs=(L.take i).zip (Xs.take i)++(b,X)::(L.drop (i+1)).zip (Xs.drop (i+1)):=by
 have h1:L=L.take i++b::L.drop (i+1):=by obtain⟨h,rfl⟩:=Js.1 hL;simp
 have h2:Xs=Xs.take i++X::Xs.drop (i+1):=by obtain⟨h,rfl⟩:=Js.1 hX;simp
 grind[List.zip_cons_cons]
theorem zKw{L:List Bool}{Xs:List Stp}{y:Bool×Stp}(h:y∈L.zip Xs):∃j:Nat,L[j]? =iG y.1∧Xs[j]? =iG y.2:=by grind[Ja6,List.getElem?_zip_eq_some]
def qD:Env→List Stp→Prop
 |_,[]=>True
 |E,X::Xs=>E.Has X.rd∧qD (E.apps X.l) Xs
theorem qD.get:∀(Xs:List Stp)(E:Env),qD E Xs→ ∀(i:Nat)(X:Stp),Xs[i]? =iG X→(runD E ((Xs.take i).map fun y=>(iI,y))).Has X.rd
 | [],_,_,i,_,h=>by simp at h
 |Y::Xs,E,hh,i,X,h=>by
  cases i with
  |zero=>simp at h;subst h;simpa[runD]using hh.1
  |succ i=>
   have:=qD.get Xs _ hh.2 i X (by grind)
   grind[runD]
theorem Stp.apart_spec{a b:Stp}(h:a.apart b=iI):zFB a.l b.l=iI∧(∀s∈a.slots,s∉b.rd.map (·.1))∧(∀s∈b.slots,s∉a.rd.map (·.1))∧ ∀x∈a.rd,∀y∈b.l,x.2.okB y.2=iI:=by simp only[Stp.apart,J4]at h;refine⟨h.1.1.1,by grind[zH2],by grind[zH2],fun x hx y hy=>?_⟩;exact Ki.1 (Ki.1 h.2 x hx) y hy
mutual
theorem zPx:(t:T)→t.okB []=iI
 |.same _ _|.addr _ _|.sub _ _ _ _ _=>by rfl
 |.agg xs|.tup xs=>by simp only[T.okB];exact zLP xs
 |.any|.lit _|.ro _|.sl _ _|.ptr _=>by rfl
theorem zLP:(xs:List T)→zLw [] xs=iI
 | []=>by rfl
 |x::xs=>by simp only[zLw,zPx x,zLP xs,Kt]
end
theorem Rep.heap{E:Env}{G:Gh}{tmps:Array Value}{w w':World}(h:Rep Γ E G tmps w)(hw:w'.heap=w.heap)(ho:w'.os=w.os:=by rfl)(hq:w'.output=w.output:=by rfl):Rep Γ E G tmps w' where
 size:=h.size
 ent s t hs:=Ent.keep (chg:=[]) ⟨fun _ _ _=>rfl,fun _ _ _=>rfl,by grind[yS,World.cell?],fun _ _ _ h _=>h,fun b cs e h=>⟨cs,by grind,rfl⟩⟩ (by simp) (zPx t) (h.ent s t hs)
 mem:=by
  have hm:=h.mem;exact⟨hm.one,fun b o l hl=>by have:=hm.lb b o l hl;exact⟨by rw[hw];exact this.1,this.2⟩,fun b l hl=>by have:=hm.ow b l hl;exact⟨by rw[hw];exact this.1,this.2⟩,
   fun b x hx=>by rw[hw];exact hm.st b x hx,fun b h1 h2=>by rw[hw];exact hm.fr b h1 h2,by rw[hw];exact hm.sz,hm.bk.trans (fun b cs e hb=>⟨cs,by grind,rfl⟩) ho hq⟩
end
end Go.Ab

namespace Go.Ab
open Go
abbrev I(n:Int):T:=.lit (.int .i64 n)
abbrev B(b:Bool):T:=.lit (.bool b)
abbrev L{α:Type}(k:Nat)(f:α→T)(xs:List α):T:=.sl k (xs.map f)
theorem zR{P:Program}{t:TypeId}{ti:TypeInfo}(h:P.types[t]? =iG ti):P.info? t=iG ti:=by
 have h':=(L5.1 h).1;simp[Tables.info?,h]
 try omega
def Ok(P:Program)(Γ:Ctx)(o:Oper)(E E':Env):Prop:=∀S,wQ P (Γ.at S) o E E'
section
variable {P:Program}{Γ:Ctx}{pn:kG}{ops:Array Oper}{o:Oper}{os:List Oper}{E E':Env}{Q:Exit→Env→Prop}{d:Nat}
theorem RW.op(h:Ok P Γ o E E')(k:RW P Γ pn ops os E' Q)(hg:o.guard=iH:=by rfl)(hp:pn.ok o.dst=iI:=by rfl):RW P Γ pn ops (o::os) E Q:=RW.cons (zW.op h hg) k hp
def neD(x:Operand)(d:Nat):Bool:=match x with
 |.tmp s=>s != d
 |_=>iI
theorem zEG{x:Operand}{d:Nat}(h:neD x d=iI):∀s,x=.tmp s→s≠d:=by rintro s rfl;simpa[neD]using h
theorem zBz{t:T}(h:t.okTup=iI):∀xs,t≠.tup xs:=by rintro xs rfl;simp[T.okTup]at h
abbrev mvB(Γ:Ctx)(x:Operand)(t:T)(d:Nat):Bool:=J6 d Γ.N&&t.okTup&&neD x d&&T.okB [(d,0)] (tG x t)
section
variable {x y:Operand}{t:T}{ty:TypeId}{ps:String}{af:Array Edge}{gd:Option (Nat×Bool)}
theorem yK{a b:Nat}(h:J6 a b=iI):a<b:=by simpa[Nat.blt_eq]using h
theorem zNP(hx:opT E x=iG t)(sd:mvB Γ x t d=iI):Ok P Γ ⟨iG d,.move x,ty,ps,af,gd⟩ E (E.app [(d,iG (tG x t))] [(d,0)]):=by simp only[mvB,J4]at sd;exact fun S=>zPh x t (.inl rfl) rfl (yK sd.1.1.1) hx (zBz sd.1.1.2) (zEG sd.1.2) sd.2
theorem zVX(hx:opT E x=iG t)(sd:mvB Γ x t d=iI):Ok P Γ ⟨iG d,.assign x,ty,ps,af,gd⟩ E (E.app [(d,iG (tG x t))] [(d,0)]):=by simp only[mvB,J4]at sd;exact fun S=>zPh x t (.inr rfl) rfl (yK sd.1.1.1) hx (zBz sd.1.1.2) (zEG sd.1.2) sd.2
def inR(n:Int):Bool:=decide (-9223372036854775808≤n)&&decide (n≤9223372036854775807)
theorem zC7{n:Int}(h:inR n=iI):IntKind.i64.wrap n=n:=by
 simp only[inR,J4,decide_eq_true_eq]at h;have hb:IntKind.i64.bits=64:=rfl;have hs:IntKind.i64.signed=iI:=rfl;simp only[IntKind.wrap,hb,hs,Bool.true_and]
 by_cases h0:0≤n
 ·have:n%2 ^ 64=n:=Jy h0 (by omega)
  rw[this];have h1:¬(n≥2 ^ (64-1)):=by omega
  simp;omega
 ·have:n%2 ^ 64=n+2 ^ 64:=by
   rw[←Uu,Jy (by omega) (by omega)]
  rw[this];have h1:(n+2 ^ 64:Int)≥2 ^ (64-1):=by omega
  simp;omega
def rng(n:Int):Option Int:=if inR n then iG n else iH
theorem zC8{n m:Int}(h:rng n=iG m):m=n∧inR n=iI:=by
 unfold rng at h;split at h
 ·simp at h;exact⟨h.symm,by assumption⟩
 ·cases h
theorem qT{m n c:Int}{xt yt:TypeId}(hv:rng (m+n)=iG c)(hx:opT E x=iG (I m))(hy:opT E y=iG (I n))(sd:J6 d Γ.N=iI):Ok P Γ ⟨iG d,.binOp .add xt x y yt,ty,ps,af,gd⟩ E (E.app [(d,iG (I c))] [(d,0)]):=by obtain⟨rfl,h⟩:=zC8 hv;exact fun S=>sK .add xt yt x y .i64 m n _ rfl rfl (yK sd) hx hy (by simp only[zKe,zC7 h])
theorem zLQ{m n:Int}{xt yt:TypeId}(hx:opT E x=iG (I m))(hy:opT E y=iG (I n))(sd:J6 d Γ.N=iI):Ok P Γ ⟨iG d,.binOp .lss xt x y yt,ty,ps,af,gd⟩ E (E.app [(d,iG (B (decide (m<n))))] [(d,0)]):=
 fun _S=>sK .lss xt yt x y .i64 m n _ rfl rfl (yK sd) hx hy rfl
theorem zCn(k:Nat)(sd:J6 d Γ.N=iI):Ok P Γ ⟨iG d,.assign (.const (.slice iH 0 0)),ty,ps,af,gd⟩ E (E.app [(d,iG (.sl k []))] [(d,0)]):=
 fun _=>zL3 k _ (.inr rfl) rfl rfl (yK sd)
def xG(n:Int):Option Nat:=if 0≤n∧n≤68719476736 then iG n.toNat else iH
theorem zH5{n:Int}{m:Nat}(h:xG n=iG m):n=(m:Int)∧m≤68719476736:=by
 unfold xG at h;split at h
 ·simp at h;omega
 ·cases h
class ElT (P:Program) (t:TypeId) (e:outParam TypeId) (ti:outParam TypeInfo) (k:outParam Nat) (u:outParam T):Prop where
 un:P.underlying t=iG (.slice e)
 info:P.info? e=iG ti
 zero:∃z,ti.zero=iG z∧tZ u=z.cells.toList
 size:ti.size=k
 pos:0<k
 zok:u.zOk=iI
 us:u.size=k
 bytes:ti.bytes≤2048
theorem zYz{t e:TypeId}{ti:TypeInfo}{k:Nat}{u:T}{n m:Nat}{a b:Int}(ht:ElT P t e ti k u)(hn:xG a=iG n)(hx:opT E x=iG (I a))(hm:xG b=iG m)(hy:opT E y=iG (I b))(pe:n≤m)(sd:J6 d Γ.N=iI):
  Ok P Γ ⟨iG d,.makeSlice t x y,ty,ps,af,gd⟩ E (E.app [(d,iG (.sl k (J1 n u)))] [(d,0)]):=by
 obtain⟨rfl,h1⟩:=zH5 hn;obtain⟨rfl,h2⟩:=zH5 hm;obtain⟨z,hz,hv⟩:=ht.zero;exact fun S=>zVR t e ti z u k x y n m .i64 .i64 rfl rfl (yK sd) ht.un ht.info hz ht.size ht.pos ht.zok hv ht.us (Hb ht.bytes (by decide)) hx hy pe h2
end
end
end Go.Ab

namespace Go.Ab
open Go
def ixO{α:Type}(xs:List α)(i:Int):Option α:=if 0≤i then xs[i.toNat]? else iH
theorem uV{α:Type}{xs:List α}{i:Int}{v:α}(h:ixO xs i=iG v):0≤i∧xs[i.toNat]? =iG v:=by
 unfold ixO at h;split at h
 ·exact⟨by assumption,h⟩
 ·cases h
def zAw:T→Bool
 |.same _ _=>iJ
 |_=>iI
theorem tQ{E:Env}{s r:Nat}{q:List Nat}{t u:T}(h1:E s=iG (.same r q))(h2:E r=iG t)(h3:t.get q.reverse=iG u)(h4:zAw u=iI):tP E (.tmp s)=iG (r,q,u):=by
 have hg:∀t:T,t.get []=iG t:=fun t=>by cases t<;>rfl
 cases u<;>simp[zAw]at h4<;>simp[tP,jC,h1,h2,h3,hg]
theorem wI{E:Env}{s:Nat}{t:T}(h1:E s=iG t)(h4:zAw t=iI):tP E (.tmp s)=iG (s,[],t):=by
 have hg:∀t:T,t.get []=iG t:=fun t=>by cases t<;>rfl
 cases t<;>simp[zAw]at h4<;>simp[tP,jC,h1,hg]
section
variable {P:Program}{Γ:Ctx}{E:Env}{d:Nat}{x y:Operand}{ty:TypeId}{ps:String}{af:Array Edge}{gd:Option (Nat×Bool)}
class zBM (P:Program) (t:TypeId) (e:outParam TypeId) (ti:outParam TypeInfo) (k:outParam Nat):Prop where
 un:P.underlying t=iG (.slice e)
 info:P.info? e=iG ti
 size:ti.size=k
theorem zFF{α:Type}{t e:TypeId}{ti:TypeInfo}{r k:Nat}{q:List Nat}{f:α→T}{xs:List α}{v:α}{i:Int}(ht:zBM P t e ti k)(hv:ixO xs i=iG v)(hx:tP E x=iG (r,q,L k f xs))(hy:opT E y=iG (I i))(sd:J6 d Γ.N=iI):
  Ok P Γ ⟨iG d,.indexAddr t x y,ty,ps,af,gd⟩ E (E.app [(d,iG (.addr r (i.toNat::q)))] [(d,0)]):=by
 obtain⟨h1,h2⟩:=uV hv;exact fun S=>zSc x y t e ti r q k _ .i64 i rfl rfl (yK sd) ht.un ht.info ht.size hx hy h1 (by simpa using(Js.1 h2).1)
theorem zB0{α:Type}{t e:TypeId}{ti:TypeInfo}{r k:Nat}{q:List Nat}{f:α→T}{xs:List α}{v:α}{i:Int}(ht:zBM P t e ti k)(hv:ixO xs i=iG v)(hx:tP E x=iG (r,q,.ro (L k f xs)))(hy:opT E y=iG (I i))(sd:J6 d Γ.N=iI):
  Ok P Γ ⟨iG d,.indexAddr t x y,ty,ps,af,gd⟩ E (E.app [(d,iG (.ro (.ptr (f v))))] [(d,0)]):=by
 obtain⟨h1,h2⟩:=uV hv;exact fun S=>zSd x y t e ti r q k _ .i64 i _ rfl rfl (yK sd) ht.un ht.info ht.size hx hy h1 (by simp[h2])
theorem zS5{α:Type}{t e:TypeId}{r k:Nat}{q:List Nat}{f:α→T}{xs:List α}(hu:P.underlying t=iG (.slice e))(hx:tP E x=iG (r,q,L k f xs))(sd:J6 d Γ.N=iI):
  Ok P Γ ⟨iG d,.call { callee:=.builtin .len,args:=#[x],argTypes:=#[t] },ty,ps,af,gd⟩ E (E.app [(d,iG (I xs.length))] [(d,0)]):=
 fun _=>zSb x t _ r q (L k f xs) xs.length rfl rfl (yK sd) hu hx (by simp[zLx]) rfl
theorem zS6{α:Type}{t e:TypeId}{r k:Nat}{q:List Nat}{f:α→T}{xs:List α}(hu:P.underlying t=iG (.slice e))(hx:tP E x=iG (r,q,.ro (L k f xs)))(sd:J6 d Γ.N=iI):
  Ok P Γ ⟨iG d,.call { callee:=.builtin .len,args:=#[x],argTypes:=#[t] },ty,ps,af,gd⟩ E (E.app [(d,iG (I xs.length))] [(d,0)]):=
 fun _=>zSb x t _ r q (.ro (L k f xs)) xs.length rfl rfl (yK sd) hu hx (by simp[zLx]) rfl
structure zVY (P:Program) (t:TypeId) (u:T):Prop where
 h:∃ds ti,P.underlying t=iG ds∧P.info? t=iG ti∧zF2 ds= !u.single∧ti.size=u.size
theorem yAf{t:TypeId}{u:T}(ht:zVY P t u)(hx:opT E x=iG (.ro (.ptr u)))(sd:J6 d Γ.N=iI):Ok P Γ ⟨iG d,.load t x,ty,ps,af,gd⟩ E (E.app [(d,iG (roT u))] [(d,0)]):=by obtain⟨ds,ti,h1,h2,h3,h4⟩:=ht.h;exact fun S=>zNH x t ds ti u rfl rfl (yK sd) h1 h2 h3 h4 hx
theorem zEH{t:TypeId}{u tr:T}{r:Nat}{q:List Nat}(ht:zVY P t u)(hx:opT E x=iG (.addr r q))(hr:E r=iG tr)(hg:tr.get q.reverse=iG u)(sd:(J6 d Γ.N&&tr.locd q.reverse&&(r != d)&&T.okB [(d,0)] (cpT r u q))=iI):
  Ok P Γ ⟨iG d,.load t x,ty,ps,af,gd⟩ E (E.app [(d,iG (cpT r u q))] [(d,0)]):=by
 obtain⟨ds,ti,h1,h2,h3,h4⟩:=ht.h;simp only[J4]at sd;exact fun S=>zVQ x t ds ti r q tr u rfl rfl (yK sd.1.1.1) h1 h2 h3 h4 hx hr hg sd.1.1.2 (by simpa using sd.1.2) sd.2
end
end Go.Ab

namespace Go.Ab
open Go
section
variable {P:Program}{Γ:Ctx}{E:Env}{x:Operand}{ty:TypeId}{ps:String}{af:Array Edge}{gd:Option (Nat×Bool)}
theorem yCV{t:TypeId}{ti:TypeInfo}{r s:Nat}{q:List Nat}{tr tr' u0:T}{v:Value}(hi:P.info? t=iG ti)(gy:ti.size=1)(hx:opT E x=iG (.addr r q))(hr:E r=iG tr)(hg:tr.get q.reverse=iG u0)(gv:tr.set q.reverse (.lit v)=tr')(hy:E s=iG (.lit v))
  (sd:(tr.single&&tr.locd q.reverse&&vK (.lit v) u0&&(r != s))=iI):Ok P Γ ⟨iH,.store t x (.tmp s),ty,ps,af,gd⟩ E (E.app [(r,iG tr')] [(r,q.length)]):=by
 simp only[J4]at sd;subst gv;intro S;have:=zL7 (P:=P) (Γ:=Γ.at S) (E:=E) (o:=⟨iH,.store t x (.tmp s),ty,ps,af,gd⟩) t ti x (.tmp s) r q tr u0 (.slot s (.lit v)) rfl rfl hi (by rw[gy];rfl) (by omega) hx hr sd.1.1.1 hg sd.1.1.2 sd.1.2 (.slot s _)
  ⟨fun s' t' h=>by simp at h;obtain⟨rfl,rfl⟩:=h;exact⟨hy,by simp[yE,xE],rfl⟩,fun u h=>by simp at h,by simp[xX,sS]⟩
 exact this
theorem yAg{t:TypeId}{ti:TypeInfo}{r:Nat}{q:List Nat}{tr tr' u0:T}{v:Value}(hi:P.info? t=iG ti)(gy:ti.size=1)(hx:opT E x=iG (.addr r q))(hr:E r=iG tr)(hg:tr.get q.reverse=iG u0)(gv:tr.set q.reverse (.lit v)=tr')
  (sd:(tr.single&&tr.locd q.reverse&&vK (.lit v) u0&&(T.lit v).zOk)=iI)(hz:tZ (.lit v)=v.cells.toList):Ok P Γ ⟨iH,.store t x (.const v),ty,ps,af,gd⟩ E (E.app [(r,iG tr')] [(r,q.length)]):=by
 simp only[J4]at sd;subst gv;intro S;have:=zL7 (P:=P) (Γ:=Γ.at S) (E:=E) (o:=⟨iH,.store t x (.const v),ty,ps,af,gd⟩) t ti x (.const v) r q tr u0 (.zero (.lit v)) rfl rfl hi (by rw[gy];rfl) (by omega) hx hr sd.1.1.1 hg sd.1.1.2 sd.1.2 (.zero v _ hz)
  ⟨fun s' t' h=>by simp at h,fun u h=>by simp at h;subst h;exact sd.2,by simp[xX]⟩
 exact this
end
end Go.Ab

namespace Go.Ab
open Go
theorem zO.tr{Γ:Ctx}{E:Env}(d r:Nat)(u:T)(hd:E d=iG (.same r []))(hr:E r=iG u)(fb:yE u)(sd:(u.single&&xZ u&&u.okB [(d,1),(r,1)]&&(d != r))=iI):
  zO Γ E (E.app [(d,iG u),(r,iG (.same d []))] [(d,1),(r,1)]):=by
 simp only[J4]at sd
 rintro a w ⟨S,hS,hs⟩
 have gf:d≠r:=by simpa using sd.2
 have hg:∀t:T,t.get []=iG t:=fun t=>by cases t<;>rfl
 have:=zNL hs d [] r [] (.same r []) u u hd rfl hr (hg u) sd.1.1.1 fb gf (by simp[T.okB,zAp]) sd.1.2 rfl sd.1.1.2;exact⟨S,hS,this⟩
theorem zEc{α:Type}{f:α→T}(hf:∀x,yE (f x)):(xs:List α)→xW (xs.map f)
 | []=>trivial
 |x::xs=>⟨hf x,zEc hf xs⟩
theorem zPy{α:Type}{f:α→T}{k:Nat}{xs:List α}(hf:∀x,yE (f x)):yE (L k f xs):=by simp only[yE,xE];exact zEc hf xs
theorem zPz(n:Int):yE (I n):=by simp[yE,xE]
theorem zVZ(b:Bool):yE (B b):=by simp[yE,xE]
end Go.Ab

namespace Go.Ab
open Go
section
variable {P:Program}{Γ:Ctx}{E:Env}{d:Nat}{x y:Operand}{ty:TypeId}{ps:String}{af:Array Edge}{gd:Option (Nat×Bool)}{m n c:Int}{xt yt:TypeId}
theorem zGy(hv:rng (m-n)=iG c)(hx:opT E x=iG (I m))(hy:opT E y=iG (I n))(sd:J6 d Γ.N=iI):Ok P Γ ⟨iG d,.binOp .sub xt x y yt,ty,ps,af,gd⟩ E (E.app [(d,iG (I c))] [(d,0)]):=by obtain⟨rfl,h⟩:=zC8 hv;exact fun _=>sK .sub xt yt x y .i64 m n _ rfl rfl (yK sd) hx hy (by simp only[zKe,zC7 h])
theorem zS7(hv:rng (m*n)=iG c)(hx:opT E x=iG (I m))(hy:opT E y=iG (I n))(sd:J6 d Γ.N=iI):Ok P Γ ⟨iG d,.binOp .mul xt x y yt,ty,ps,af,gd⟩ E (E.app [(d,iG (I c))] [(d,0)]):=by obtain⟨rfl,h⟩:=zC8 hv;exact fun _=>sK .mul xt yt x y .i64 m n _ rfl rfl (yK sd) hx hy (by simp only[zKe,zC7 h])
def sH(m n:Int):Option Int:=if n=0 then iH else rng (m.tdiv n)
def tR(m n:Int):Option Int:=if n=0 then iH else iG (m.tmod n)
theorem yAh(hv:sH m n=iG c)(hx:opT E x=iG (I m))(hy:opT E y=iG (I n))(sd:J6 d Γ.N=iI):Ok P Γ ⟨iG d,.binOp .quo xt x y yt,ty,ps,af,gd⟩ E (E.app [(d,iG (I c))] [(d,0)]):=by
 unfold sH at hv;split at hv
 ·cases hv
 ·rename_i h0
  obtain⟨rfl,h⟩:=zC8 hv;exact fun _=>sK .quo xt yt x y .i64 m n _ rfl rfl (yK sd) hx hy (by simp only[zKe,h0,if_false,zC7 h])
theorem zX4(hv:tR m n=iG c)(hx:opT E x=iG (I m))(hy:opT E y=iG (I n))(sd:J6 d Γ.N=iI):Ok P Γ ⟨iG d,.binOp .rem xt x y yt,ty,ps,af,gd⟩ E (E.app [(d,iG (I c))] [(d,0)]):=by
 unfold tR at hv;split at hv
 ·cases hv
 ·rename_i h0
  simp at hv;subst hv;exact fun _=>sK .rem xt yt x y .i64 m n _ rfl rfl (yK sd) hx hy (by simp only[zKe,h0,if_false])
theorem zS8(hx:opT E x=iG (I m))(hy:opT E y=iG (I n))(sd:J6 d Γ.N=iI):Ok P Γ ⟨iG d,.binOp .leq xt x y yt,ty,ps,af,gd⟩ E (E.app [(d,iG (B (decide (m≤n))))] [(d,0)]):=
 fun _=>sK .leq xt yt x y .i64 m n _ rfl rfl (yK sd) hx hy rfl
theorem zS9(hx:opT E x=iG (I m))(hy:opT E y=iG (I n))(sd:J6 d Γ.N=iI):Ok P Γ ⟨iG d,.binOp .gtr xt x y yt,ty,ps,af,gd⟩ E (E.app [(d,iG (B (decide (m> n))))] [(d,0)]):=
 fun _=>sK .gtr xt yt x y .i64 m n _ rfl rfl (yK sd) hx hy rfl
theorem zP0(hx:opT E x=iG (I m))(hy:opT E y=iG (I n))(sd:J6 d Γ.N=iI):Ok P Γ ⟨iG d,.binOp .geq xt x y yt,ty,ps,af,gd⟩ E (E.app [(d,iG (B (decide (m≥n))))] [(d,0)]):=
 fun _=>sK .geq xt yt x y .i64 m n _ rfl rfl (yK sd) hx hy rfl
theorem zLR(hx:opT E x=iG (I m))(hy:opT E y=iG (I n))(sd:J6 d Γ.N=iI):Ok P Γ ⟨iG d,.binOp .eql xt x y yt,ty,ps,af,gd⟩ E (E.app [(d,iG (B (m==n)))] [(d,0)]):=
 fun _=>sK .eql xt yt x y .i64 m n _ rfl rfl (yK sd) hx hy rfl
theorem zSA(hx:opT E x=iG (I m))(hy:opT E y=iG (I n))(sd:J6 d Γ.N=iI):Ok P Γ ⟨iG d,.binOp .neq xt x y yt,ty,ps,af,gd⟩ E (E.app [(d,iG (B (m != n)))] [(d,0)]):=
 fun _=>sK .neq xt yt x y .i64 m n _ rfl rfl (yK sd) hx hy rfl
theorem zCo{b:Bool}(hx:opT E x=iG (B b))(sd:J6 d Γ.N=iI):Ok P Γ ⟨iG d,.unOp .not xt x,ty,ps,af,gd⟩ E (E.app [(d,iG (B (!b)))] [(d,0)]):=
 fun _=>zYu xt x b rfl rfl (yK sd) hx
theorem zX5(hv:rng (0-n)=iG c)(hx:opT E x=iG (I n))(sd:J6 d Γ.N=iI):Ok P Γ ⟨iG d,.unOp .neg xt x,ty,ps,af,gd⟩ E (E.app [(d,iG (I c))] [(d,0)]):=by
 obtain⟨rfl,h⟩:=zC8 hv;have:=fun S=>zYv (P:=P) (Γ:=Γ.at S) (E:=E) (o:=⟨iG d,.unOp .neg xt x,ty,ps,af,gd⟩) xt x .i64 n rfl rfl (yK sd) hx
 rw[zC7 h]at this;exact this
end
end Go.Ab

namespace Go.Ab
open Go
section
variable {P:Program}{Γ:Ctx}{E:Env}{d:Nat}{x y:Operand}{ty:TypeId}{ps:String}{af:Array Edge}{gd:Option (Nat×Bool)}
class zH6 (P:Program) (t:TypeId) (u:outParam T):Prop where
 h:∃ti z,P.info? t=iG ti∧ti.zero=iG z∧u.zOk=iI∧tZ u=z.cells.toList∧z.cells.size=u.size
theorem zKx{t:TypeId}{u:T}(ht:zH6 P t u)(sd:J6 d Γ.N=iI):Ok P Γ ⟨iG d,.alloc t,ty,ps,af,gd⟩ E (E.app [(d,iG (.ptr u))] [(d,0)]):=by obtain⟨ti,z,h1,h2,h3,h4,h5⟩:=ht.h;exact fun S=>zSm t ti z u rfl rfl (yK sd) h1 h2 h3 h4 h5
theorem zX6{s i:Nat}{ts:List T}{t:T}(hs:E s=iG (.tup ts))(hi:ts[i]? =iG t)(sd:(J6 d Γ.N&&t.okTup&&(s != d)&&T.okB [(d,0)] (cpT s t [i]))=iI):
  Ok P Γ ⟨iG d,.extract (.tmp s) i,ty,ps,af,gd⟩ E (E.app [(d,iG (cpT s t [i]))] [(d,0)]):=by
 simp only[J4]at sd;exact fun S=>zNI s i ts t rfl rfl (yK sd.1.1.1) hs hi (zBz sd.1.1.2) (by simpa using sd.1.2) sd.2
theorem zBg{t:T}(hx:opT E x=iG t)(hp:zGr E x=iI)(sd:mvB Γ x t d=iI):Ok P Γ ⟨iG d,.nilCheck x,ty,ps,af,gd⟩ E (E.app [(d,iG (tG x t))] [(d,0)]):=by simp only[mvB,J4]at sd;exact fun S=>zYw x t rfl rfl (yK sd.1.1.1) hx hp (zBz sd.1.1.2) (zEG sd.1.2) sd.2
theorem zNQ{c:Operand}{b:Bool}{t:T}(hc:opT E c=iG (B b))(hx:opT E (if b then x else y)=iG t)(sd:mvB Γ (if b then x else y) t d=iI):Ok P Γ ⟨iG d,.pick c x y,ty,ps,af,gd⟩ E (E.app [(d,iG (tG (if b then x else y) t))] [(d,0)]):=by simp only[mvB,J4]at sd;exact fun S=>zVN c x y b t rfl rfl (yK sd.1.1.1) hc hx (zBz sd.1.1.2) (zEG sd.1.2) sd.2
theorem zX7{t:TypeId}{s:Nat}{u:T}(hs:E s=iG u)(hu:yE u)(sd:(J6 d Γ.N&&u.okTup&&(s != d))=iI):
  Ok P Γ ⟨iG d,.box t (.tmp s),ty,ps,af,gd⟩ E (E.app ((d,iG (.ptr u))::pWr d [.slot s u] 0) ((d,0)::sT [.slot s u])):=by
 simp only[J4]at sd;have gf:s≠d:=by simpa using sd.2
 refine fun S=>zYy t (.tmp s) (.slot s u) rfl rfl (yK sd.1.1) (.slot s u) ⟨fun s' t' h=>by simp at h;obtain⟨rfl,rfl⟩:=h;exact⟨hs,hu,sd.1.2⟩,fun u h=>by simp at h,?_⟩
 simp only[xX];split<;>simp[Ne.symm gf]
end
end Go.Ab

namespace Go.Ab
open Go
def xT{α:Type}(xs ys:List α):Option (List α):=if xs.length+ys.length≤68719476736 then iG (xs++ys)else iH
theorem zFG{α:Type}{xs ys zs:List α}(h:xT xs ys=iG zs):zs=xs++ys∧xs.length+ys.length≤68719476736:=by
 unfold xT at h;split at h
 ·simp at h;exact⟨h.symm,by assumption⟩
 ·cases h
section
variable {P:Program}{Γ:Ctx}{E:Env}{d:Nat}{x y:Operand}{ty:TypeId}{ps:String}{af:Array Edge}{gd:Option (Nat×Bool)}
theorem ElT.zsize{t e:TypeId}{ti:TypeInfo}{k:Nat}{u:T}(h:ElT P t e ti k u):∃z,ti.zero=iG z∧z.cells.size=k:=by obtain⟨z,h1,h2⟩:=h.zero;exact⟨z,h1,by rw[←Ks,←h2,vG u h.zok,h.us]⟩
theorem zBN{α:Type}{t e:TypeId}{ti:TypeInfo}{k:Nat}{u:T}{f:α→T}{xs ys zs:List α}{s0 s1:Nat}(ht:ElT P t e ti k u)(hv:xT xs ys=iG zs)(h0:E s0=iG (L k f xs))(h1:E s1=iG (L k f ys))(sd:(J6 d Γ.N&&(s0 != d)&&(s1 != d)&&(s1 != s0))=iI):
  Ok P Γ ⟨iG d,.call { callee:=.builtin .append,args:=#[.tmp s0,.tmp s1],argTypes:=#[t,t] },ty,ps,af,gd⟩ E (E.app [(d,iG (L k f zs)),(s0,iG .any),(s1,iG .any)] [(d,0),(s0,1),(s1,1)]):=by
 obtain⟨rfl,hl⟩:=zFG hv;obtain⟨z,hz,fp⟩:=ht.zsize;simp only[J4]at sd;intro S;have:=zKo (P:=P) (Γ:=Γ.at S) (E:=E) (o:=⟨iG d,.call { callee:=.builtin .append,args:=#[.tmp s0,.tmp s1],argTypes:=#[t,t] },ty,ps,af,gd⟩) t e ti z k s0 s1 (xs.map f) (ys.map f) rfl rfl (yK sd.1.1.1) ht.un ht.info hz ht.size ht.pos fp ht.bytes h0 h1
  (by simpa using sd.1.1.2) (by simpa using sd.1.2) (by simpa using sd.2) (by simpa using hl)
 rw[←L8]at this;exact this
theorem zJ1{α:Type}{f:α→T}(hf:∀x,(f x).flat=iI):(xs:List α)→zAC (xs.map f)=iI
 | []=>rfl
 |x::xs=>by simp only[Jn,zAC,hf x,zJ1 hf xs,Kt]
theorem zNR{α:Type}{t e:TypeId}{ti:TypeInfo}{k r:Nat}{q:List Nat}{u:T}{f:α→T}{xs ys zs:List α}{s0:Nat}(ht:ElT P t e ti k u)(hf:∀x,(f x).flat=iI)(hv:xT xs ys=iG zs)(h0:E s0=iG (L k f xs))(h1:tP E y=iG (r,q,L k f ys))(sd:(J6 d Γ.N&&(s0 != d))=iI):
  Ok P Γ ⟨iG d,.call { callee:=.builtin .append,args:=#[.tmp s0,y],argTypes:=#[t,t] },ty,ps,af,gd⟩ E (E.app [(d,iG (L k f zs)),(s0,iG .any)] [(d,0),(s0,1)]):=by
 obtain⟨rfl,hl⟩:=zFG hv;obtain⟨z,hz,fp⟩:=ht.zsize;simp only[J4]at sd;intro S;have:=zKp (P:=P) (Γ:=Γ.at S) (E:=E) (o:=⟨iG d,.call { callee:=.builtin .append,args:=#[.tmp s0,y],argTypes:=#[t,t] },ty,ps,af,gd⟩) t e ti z k s0 y r q (xs.map f) (ys.map f) rfl rfl (yK sd.1) ht.un ht.info hz ht.size ht.pos fp ht.bytes h0 h1 (zJ1 hf ys)
  (by simpa using sd.2) (by simpa using hl)
 rw[←L8]at this;exact this
end
end Go.Ab

namespace Go.Ab
open Go
abbrev IK(k:IntKind)(n:Int):T:=.lit (.int k n)
abbrev Str(s:ByteArray):T:=.lit (.string s)
abbrev Pt{α:Type}(f:α→T)(x:α):T:=.ptr (f x)
abbrev Ro{α:Type}(f:α→T)(x:α):T:=.ro (f x)
abbrev A2{α:Type}(f:α→T)(x:α×α):T:=.agg [f x.1,f x.2]
theorem bd{α β:Type}{o:Option α}{f:α→Option β}{r:β}(h:o.bind f=iG r):∃v,o=iG v∧f v=iG r:=by
 cases o with
 |none=>simp at h
 |some v=>grind
theorem cT{α:Type}{b:Bool}{x y:α}{z:α}(hc:b=iI)(h:cond b x y=z):x=z:=by grind
theorem cF{α:Type}{b:Bool}{x y:α}{z:α}(hc:b=iJ)(h:cond b x y=z):y=z:=by grind
theorem sI{α:Type}{x y:α}(h:iG x=iG y):x=y:=Lu.inj h
section
variable {P:Program}{Γ:Ctx}{pn:kG}{E E':Env}{Q:Exit→Env→Prop}{c:Code}{id id':Nat}
theorem nA(h:CW P Γ pn c E Q):wR P Γ pn c Q .normal E:=h
theorem xA(h:Q (.exit id) E):wR P Γ pn c Q (.exit id) E:=h
theorem rA(h:Q .ret E):wR P Γ pn c Q .ret E:=h
theorem nB(h:Q .normal E):wU id Q .normal E:=h
theorem rB(h:Q .ret E):wU id Q .ret E:=h
theorem xB(h:Q .normal E):wU id Q (.exit id) E:=by simp only[wU,if_true];exact h
theorem neX:Exit.exit id≠.normal:=by simp
theorem neR:Exit.ret≠.normal:=by simp
theorem RW.cases{ops:Array Oper}{os:List Oper}(s:Nat)(b:Bool)(hb:E s=iG (B b))(ht:b=iI→RW P Γ pn ops os (E.app [(s,iG (B iI))] []) Q)(hf:b=iJ→RW P Γ pn ops os (E.app [(s,iG (B iJ))] []) Q):RW P Γ pn ops os E Q:=by
 have key:∀c:Bool,b=c→zO Γ E (E.app [(s,iG (B c))] []):=by
  rintro c rfl a w hs
  refine hs.weaken fun s' t h=>?_
  by_cases e:s=s'
  ·grind[Env.app,Wr.find]
  ·simp only[Env.app,Wr.find,e,if_false]at h
   grind
 cases hc:b with
 |true=>grind[ghost]
 |false=>grind[ghost]
end
theorem zU{α:Type}{k:Nat}{f:α→T}{xs:List α}{i:Int}{v:α}{p:List Nat}{u:T}(h:ixO xs i=iG v)(hr:(f v).get p=iG u):(L k f xs).get (i.toNat::p)=iG u:=by simp[T.get,(uV h).2,hr]
theorem xD{t u:T}{p:List Nat}(h:t.get p=iG u):(T.ptr t).get (0::p)=iG u:=h
theorem yY{xs:List T}{x u:T}{j:Nat}{p:List Nat}(hj:xs[j]? =iG x)(h:x.get p=iG u):(T.agg xs).get (j::p)=iG u:=by grind[T.get]
theorem zAk{α:Type}{k:Nat}{f:α→T}{xs:List α}{i:Int}{v w:α}{p:List Nat}{u:T}(h:ixO xs i=iG v)(hr:(f v).set p u=f w):(L k f xs).set (i.toNat::p) u=L k f (xs.set i.toNat w):=by simp[L,T.set,(uV h).2,hr,Jar]
theorem zBh{t u t':T}{p:List Nat}(h:t.set p u=t'):(T.ptr t).set (0::p) u=T.ptr t':=by simp[T.set,h]
theorem zFH{xs:List T}{x u x':T}{j:Nat}{p:List Nat}(hj:xs[j]? =iG x)(h:x.set p u=x'):(T.agg xs).set (j::p) u=.agg (xs.set j x'):=by grind[T.set]
class Enc {α:Type} (f:α→T):Prop where
 clean:∀x,yE (f x)
 rofree:∀x,vO (f x)=iI
 strip:∀x,strip (f x)=f x
 okTup:∀x,(f x).okTup=iI
 rook:∀x,zF8 (f x)=iI
theorem zH7{α:Type}{f:α→T}(h:∀x,vO (f x)=iI):(xs:List α)→uK (xs.map f)=iI
 | []=>rfl
 |x::xs=>by simp only[Jn,uK,h x,zH7 h xs,Kt]
theorem zH8{α:Type}{f:α→T}(h:∀x,zF8 (f x)=iI):(xs:List α)→zBw (xs.map f)=iI
 | []=>rfl
 |x::xs=>by simp only[Jn,zBw,h x,zH8 h xs,Kt]
theorem sE{α:Type}{f g:α→T}(h:∀x,strip (f x)=g x):(xs:List α)→wX (xs.map f)=xs.map g
 | []=>rfl
 |x::xs=>by simp only[Jn,wX,h x,sE h xs]
instance:Enc I:=⟨zPz,fun _=>rfl,fun _=>rfl,fun _=>rfl,fun _=>rfl⟩
instance:Enc B:=⟨zVZ,fun _=>rfl,fun _=>rfl,fun _=>rfl,fun _=>rfl⟩
instance{k:IntKind}:Enc (IK k):=⟨fun _=>by simp[yE,xE],fun _=>rfl,fun _=>rfl,fun _=>rfl,fun _=>rfl⟩
instance:Enc Str:=⟨fun _=>by simp[yE,xE],fun _=>rfl,fun _=>rfl,fun _=>rfl,fun _=>rfl⟩
instance{α:Type}{k:Nat}{f:α→T}[h:Enc f]:Enc (L k f):=
 ⟨fun _=>zPy h.clean,fun xs=>by simp only[vO];exact zH7 h.rofree xs,fun xs=>by simp only[L,strip,sE h.strip xs],fun _=>rfl,fun xs=>by simp only[zF8,zH8 h.rook xs]⟩
instance{α:Type}{f:α→T}[h:Enc f]:Enc (A2 f):=
 ⟨fun x=>by simp only[yE,xE,wB];exact⟨h.clean _,h.clean _,trivial⟩,fun x=>by simp only[vO,uK,h.rofree,Kt],fun x=>by simp only[A2,strip,wX,h.strip],
  fun x=>by simp only[T.okTup,yV,h.okTup,Kt],fun x=>by simp only[zF8,zBw,h.rook,Kt]⟩
instance{α:Type}{f:α→T}[h:Enc f]:Enc (Pt f):=
 ⟨fun x=>by simp only[yE,xE];exact h.clean x,fun x=>by simp only[vO,h.rofree],fun x=>by simp only[Pt,strip,h.strip],fun _=>rfl,fun x=>by simp only[zF8,h.rook]⟩
class uW {α:Type} (f g:α→T):Prop where
 h:∀x,strip (f x)=g x
instance{α:Type}{f:α→T}[h:Enc f]:uW f f:=⟨h.strip⟩
instance{α:Type}{k:Nat}{f g:α→T}[h:uW f g]:uW (L k f) (L k g):=⟨fun xs=>by simp only[L,strip,sE h.h xs]⟩
instance{α:Type}{k:Nat}{g:α→T}:uW (Ro (L k g)) (L k g):=⟨fun _=>rfl⟩
instance{α:Type}{g:α→T}:uW (Ro (Pt g)) (Pt g):=⟨fun _=>rfl⟩
theorem stA{xs ys:List T}(h:wX xs=ys):strip (.agg xs)=.agg ys:=by grind[strip]
theorem stC{x y:T}{xs ys:List T}(h:strip x=y)(h2:wX xs=ys):wX (x::xs)=y::ys:=by grind[wX]
section
variable {E:Env}{rw:Rw}{i s r:Nat}{q:List Nat}{x:Operand}
theorem zD3{α:Type}{k:Nat}{f g:α→T}{xs:List α}(h:uW f g):clo E (L k f xs)=.ro (L k g xs):=by simp only[clo,L,strip,sE h.h xs]
theorem zSB{t u:T}(h:strip t=u):clo E (.ptr t)=.ro (.ptr u):=by grind[clo,strip]
theorem zDo{tr u:T}(hr:E r=iG tr)(hg:tr.get q.reverse=iG u)(h4:zAw u=iI):jC E 4 r q=iG (r,q,u):=by grind[zAw,jC]
theorem zBO{α:Type}{k:Nat}{f g:α→T}{xs:List α}{tr:T}(hr:E r=iG tr)(hg:tr.get q.reverse=iG (L k f xs))(h:uW f g):clo E (.same r q)=.ro (L k g xs):=by simp only[clo,zDo hr hg rfl,T.single,if_true,L,strip,sE h.h xs]
theorem yAi{t u tr:T}(hr:E r=iG tr)(hg:tr.get q.reverse=iG (.ptr t))(h:strip t=u):clo E (.same r q)=.ro (.ptr u):=by simp only[clo,zDo hr hg rfl,T.single,if_true,strip,h]
theorem zY0{α:Type}{k l h:Nat}{f g:α→T}{xs:List α}{tr:T}(hr:E r=iG tr)(hg:tr.get q.reverse=iG (L k f xs))(hs:uW f g)(h1:l≤h)(h2:h≤xs.length):clo E (.sub r q k l h)=.ro (L k g ((xs.drop l).take (h-l))):=by simp only[clo,zDo hr hg rfl,L,sE hs.h xs,Ji,h1,h2,and_self,if_true,Jcl,Jb9]
theorem zEI{xs ys:List T}(h:zBf E xs=ys):clo E (.agg xs)=.agg ys:=by grind[clo]
theorem zFI:zBf E []=[]:=rfl
theorem kI{x y:T}{xs ys:List T}(h:clo E x=y)(h2:zBf E xs=ys):zBf E (x::xs)=y::ys:=by grind[zBf]
mutual
theorem zJ2(s:Nat):(t:T)→t.okTup=iI→qL E [] s t=iI
 |.agg xs,h=>by simp only[qL,T.okTup]at h ⊢;exact zH9 s xs h
 |.tup _,h=>by grind[T.okTup]
 |.same r q,_|.sub r q _ _ _,_=>by grind[qL]
 |.sl _ _,_|.ptr _,_=>by rfl
 |.lit _,_|.ro _,_|.any,_|.addr _ _,_=>by rfl
theorem zH9(s:Nat):(xs:List T)→yV xs=iI→zAD E [] s xs=iI
 | [],_=>rfl
 |x::xs,h=>by simp only[yV,J4]at h;simp only[zAD,zJ2 s x h.1,zH9 s xs h.2,Kt]
end
theorem agC{u:T}(t:T)(h:opT E x=iG t)(h1:clo E t=u)(h2:t.okTup=iI):zCm E [] i x u:=.inr ⟨t,h,h1,by
 cases x with
 |tmp s=>exact zJ2 s t h2
 |_=>rfl⟩
end
section
variable {P:Program}{Γ:Ctx}{E:Env}{d:Nat}{x y:Operand}{ty:TypeId}{ps:String}{af:Array Edge}{gd:Option (Nat×Bool)}
abbrev kY(res:List T):Prop:=xW res∧yV res=iI∧uK res=iI
theorem sB:kY []:=⟨trivial,rfl,rfl⟩
theorem jL{α:Type}{f:α→T}{x:α}{ts:List T}(h:Enc f)(h2:kY ts):kY (f x::ts):=
 ⟨⟨h.clean x,h2.1⟩,by simp only[yV,h.okTup,h2.2.1,Kt],by simp only[uK,h.rofree,h2.2.2,Kt]⟩
abbrev zBi(P:Program)(f:FuncId):Prop:=∀args w,(callFunc f args).run P w=.ok (.enter f args) w
theorem uD{f:FuncId}{xs:List Operand}{ats:Array TypeId}{us res:List T}(gu:zBi P f)(hc:FnC P f us res [])(gc:wA E [] 0 xs us)(gk:kY res)(sd:J6 d Γ.N=iI):
  Ok P Γ ⟨iG d,.call { callee:=.value (.func f),args:=xs.toArray,argTypes:=ats },ty,ps,af,gd⟩ E (E.app (cWr d res []) (uN d [])):=
 fun _S=>zKt f (.func f) xs ats us res [] rfl rfl (yK sd) gu rfl hc gc .nil gk
theorem zWa{f:FuncId}{xs:List Operand}{ats:Array TypeId}{us res:List T}(gu:zBi P f)(hc:FnC P f us res [])(gj:xs.length=us.length)(gc:∀(i:Nat) u,us[i]? =iG u→ ∃x,xs[i]? =iG x∧opT E x=iG u∧u.flat=iI)(gk:xW res∧yV res=iI)(sd:J6 d Γ.N=iI):
  Ok P Γ ⟨iG d,.call { callee:=.value (.func f),args:=xs.toArray,argTypes:=ats },ty,ps,af,gd⟩ E (E.app (cWr d res []) (uN d [])):=
 fun _S=>zSy f (.func f) xs ats us res rfl rfl (yK sd) gu rfl hc gj gc gk
class qP (P:Program) (S:TypeId) (j:Nat) (off:outParam Nat):Prop where
 h:∃fs f fi,P.underlying S=iG (.struct fs)∧fs[j]? =iG f∧P.info? f.type=iG fi∧fi.size≠0∧off=f.offset
theorem zY1{S:TypeId}{j off r:Nat}{q:List Nat}{xs:List T}{u:T}(ht:qP P S j off)(hx:tP E x=iG (r,q,.ptr (.agg xs)))(hu:xs[j]? =iG u)(gG:T.sizes (xs.take j)=off)(sd:J6 d Γ.N=iI):
  Ok P Γ ⟨iG d,.fieldAddr S x j,ty,ps,af,gd⟩ E (E.app [(d,iG (.addr r (j::0::q)))] [(d,0)]):=by
 obtain⟨fs,f,fi,h1,h2,h3,h4,h5⟩:=ht.h;exact fun _=>yAb x S fs f fi j r q xs u rfl rfl (yK sd) h1 h2 h3 h4 hx hu (by omega)
theorem zCp{S:TypeId}{j off r:Nat}{q:List Nat}{t:T}{xs:List T}{u:T}(ht:qP P S j off)(hx:opT E x=iG (.addr r q))(hr:E r=iG t)(hg:t.get q.reverse=iG (.agg xs))(hu:xs[j]? =iG u)(gG:T.sizes (xs.take j)=off)(sd:(J6 d Γ.N&&t.locd q.reverse)=iI):
  Ok P Γ ⟨iG d,.fieldAddr S x j,ty,ps,af,gd⟩ E (E.app [(d,iG (.addr r (j::q)))] [(d,0)]):=by
 obtain⟨fs,f,fi,h1,h2,h3,h4,h5⟩:=ht.h;simp only[J4]at sd;exact fun _=>zNF x S fs f fi j r q t xs u rfl rfl (yK sd.1) h1 h2 h3 h4 hx hr hg sd.2 hu (by omega)
theorem zP1{S:TypeId}{j off:Nat}{xs:List T}{u:T}(ht:qP P S j off)(hx:opT E x=iG (.ro (.ptr (.agg xs))))(hu:xs[j]? =iG u)(gG:T.sizes (xs.take j)=off)(sd:J6 d Γ.N=iI):
  Ok P Γ ⟨iG d,.fieldAddr S x j,ty,ps,af,gd⟩ E (E.app [(d,iG (.ro (.ptr u)))] [(d,0)]):=by
 obtain⟨fs,f,fi,h1,h2,h3,h4,h5⟩:=ht.h;exact fun _=>zSe x S fs f fi j xs u rfl rfl (yK sd) h1 h2 h3 h4 hx hu (by omega)
def yD{α:Type}(xs:List α)(l h:Int):Option (List α):=if 0≤l∧l≤h∧h≤(xs.length:Int)then iG ((xs.drop l.toNat).take (h.toNat-l.toNat))else iH
theorem zC9{α:Type}{t e:TypeId}{ti:TypeInfo}{r k:Nat}{q:List Nat}{f:α→T}{xs ys:List α}{lo hi:Option Operand}{l h:Int}(ht:zBM P t e ti k)(hv:yD xs l h=iG ys)(hx:tP E x=iG (r,q,.ro (L k f xs)))(eB:zBJ E lo 0 l.toNat)(fD:zBJ E hi xs.length h.toNat)(sd:J6 d Γ.N=iI):
  Ok P Γ ⟨iG d,.slice t x lo hi iH,ty,ps,af,gd⟩ E (E.app [(d,iG (.ro (L k f ys)))] [(d,0)]):=by
 unfold yD at hv;split at hv
 ·rename_i hc
  simp at hv;subst hv;intro S;have:=zL1 (P:=P) (Γ:=Γ.at S) (E:=E) (o:=⟨iG d,.slice t x lo hi iH,ty,ps,af,gd⟩) x lo hi t e ti r q k (xs.map f) l.toNat h.toNat rfl rfl (yK sd) ht.un ht.info ht.size hx eB (by grind) (by omega) (by simp;omega);simpa[L,Jcl,Jb9]using this
 ·cases hv
theorem zSC{α:Type}{t e:TypeId}{ti:TypeInfo}{r k:Nat}{q:List Nat}{f:α→T}{xs ys:List α}{lo hi:Option Operand}{l h:Int}(ht:zBM P t e ti k)(hv:yD xs l h=iG ys)(hx:tP E x=iG (r,q,L k f xs))(eB:zBJ E lo 0 l.toNat)(fD:zBJ E hi xs.length h.toNat)(sd:(J6 d Γ.N&&(r != d))=iI):
  Ok P Γ ⟨iG d,.slice t x lo hi iH,ty,ps,af,gd⟩ E (E.app [(d,iG (.sub r q k l.toNat h.toNat))] [(d,0)]):=by
 unfold yD at hv;simp only[J4]at sd;split at hv
 ·rename_i hc
  intro S;exact zKg (P:=P) (Γ:=Γ.at S) (E:=E) (o:=⟨iG d,.slice t x lo hi iH,ty,ps,af,gd⟩) x lo hi t e ti r q k (xs.map f) l.toNat h.toNat rfl rfl (yK sd.1) ht.un ht.info ht.size hx eB (by grind) (by omega) (by simp;omega) (by grind)
 ·cases hv
end
end Go.Ab

namespace Go.Ab
open Go
theorem zE{t:T}(h:yE t):yE t:=h
theorem zN{α:Type}{f:α→T}{k:Nat}{xs:List α}(hf:∀x,yE (f x)):yE (L k f xs):=zPy hf
theorem wJ{t:T}(h:yE t):yE (.ptr t):=by simpa only[yE,xE]using h
theorem yM{xs:List T}(h:xW xs):yE (.agg xs):=by simpa only[yE,xE]using h
section
variable {P:Program}{Γ:Ctx}{pn:kG}{E E':Env}{Q:Exit→Env→Prop}{c c1 c2:Code}{x:Operand}
theorem CW.condT(hx:opT E x=iG (B iI))(h:CW P Γ pn c1 E Q):CW P Γ pn (.cond x c1 c2) E Q:=by grind[CW.cond]
theorem CW.condF(hx:opT E x=iG (B iJ))(h:CW P Γ pn c2 E Q):CW P Γ pn (.cond x c1 c2) E Q:=by grind[CW.cond]
theorem CW.casesB(b:Bool)(ht:b=iI→CW P Γ pn c E Q)(hf:b=iJ→CW P Γ pn c E Q):CW P Γ pn c E Q:=by grind
theorem tH{wr:Wr}{chg:Chg}{s:Nat}{t:T}(h:E s=iG t)(hf:wr.find s=iH:=by rfl)(hb:t.okB chg=iI:=by rfl):E.app wr chg s=iG t:=by grind[Env.app]
theorem zW.gh{ops:Array Oper}{o:Oper}{E1:Env}(hg:zO Γ E E1)(h:zW P Γ ops o E1 E'):zW P Γ ops o E E':=fun a w K Q hs hK=>h a w K Q (hg a w hs) hK
theorem zEJ{t:T}(h:opT E x=iG (.ro (.ptr t))):zGr E x=iI:=by simp[zGr,h]
theorem zFJ{r:Nat}{q:List Nat}{t:T}(h:tP E x=iG (r,q,.ptr t)):zGr E x=iI:=by grind[zGr]
end
theorem zLS{E:Env}{n:Nat}:zBJ E iH n (n:Int).toNat:=by simp[zBJ]
theorem zP2{E:Env}:zBJ E iH 0 (0:Int).toNat:=by simp[zBJ]
theorem zEK{E:Env}{x:Operand}{n:Int}{d:Nat}(h0:0≤n)(h:opT E x=iG (I n)):zBJ E (iG x) d n.toNat:=⟨.i64,by grind⟩
theorem sU{α:Type}{xs ys:List α}{l h:Int}(hv:yD xs l h=iG ys):0≤l∧l≤h∧h≤xs.length∧ys=(xs.drop l.toNat).take (h.toNat-l.toNat):=by grind[yD]
theorem qE{α:Type}{xs ys:List α}{l h:Int}(hv:yD xs l h=iG ys):0≤l:=(sU hv).1
theorem zA3{α:Type}{xs ys:List α}{l h:Int}(hv:yD xs l h=iG ys):0≤h:=by have:=sU hv;omega
theorem zWb{E:Env}{r k:Nat}{q:List Nat}{α:Type}{l h:Int}{f g:α→T}{xs ys:List α}{tr:T}(hr:E r=iG tr)(hg:tr.get q.reverse=iG (L k f xs))(hs:uW f g)(hv:yD xs l h=iG ys):
  clo E (.sub r q k l.toNat h.toNat)=.ro (L k g ys):=by
 obtain⟨h1,h2,h3,rfl⟩:=sU hv
 grind[zY0]
section
variable {P:Program}{Γ:Ctx}{E E':Env}{d:Nat}{x y:Operand}{ty:TypeId}{ps:String}{af:Array Edge}{gd:Option (Nat×Bool)}
theorem jD{o:Oper}{e b:Bool}{d:Nat}{wr:Wr}{chg:Chg}(he:e=b)(h:Ok P Γ o E (E.app ((d,iG (B e))::wr) chg)):Ok P Γ o E (E.app ((d,iG (B b))::wr) chg):=he▸h
theorem yAj{t:TypeId}{u tr t0:T}{r:Nat}{q:List Nat}(ht:zVY P t u)(hx:tP E x=iG (r,q,.ptr t0))(hr:E r=iG tr)(hg:tr.get (0::q).reverse=iG u)(sd:(J6 d Γ.N&&tr.locd (0::q).reverse&&(r != d)&&T.okB [(d,0)] (cpT r u (0::q)))=iI):
  Ok P Γ ⟨iG d,.load t x,ty,ps,af,gd⟩ E (E.app [(d,iG (cpT r u (0::q)))] [(d,0)]):=by
 obtain⟨ds,ti,h1,h2,h3,h4⟩:=ht.h;simp only[J4]at sd;exact fun S=>zLy x t ds ti r (0::q) tr u rfl rfl (yK sd.1.1.1) h1 h2 h3 h4 (zAP.ptr hx) hr hg sd.1.1.2 (by grind) sd.2
theorem zX8{t:TypeId}{ti:TypeInfo}{r s:Nat}{q:List Nat}{tr tr' u0 u:T}(hi:P.info? t=iG ti)(gy:(ti.size==u.size&&J6 0 ti.size)=iI)(hx:∀S,zAP (Γ.at S) E x r q)(hr:E r=iG tr)(hg:tr.get q.reverse=iG u0)(gv:tr.set q.reverse u=tr')(hy:E s=iG u)(hu:yE u)
  (sd:(tr.single&&tr.locd q.reverse&&vK u u0&&(r != s)&&u.okTup)=iI):Ok P Γ ⟨iH,.store t x (.tmp s),ty,ps,af,gd⟩ E (E.app ((r,iG tr')::sWr r q (.slot s u)) ((r,q.length)::sT [.slot s u])):=by
 simp only[J4]at sd gy;subst gv;intro S;refine zF7 (P:=P) (Γ:=Γ.at S) (E:=E) (o:=⟨iH,.store t x (.tmp s),ty,ps,af,gd⟩) t ti x (.tmp s) r q tr u0 (.slot s u) rfl rfl hi (by grind[yW.tree]) (yK gy.2) (hx S) hr sd.1.1.1.1 hg sd.1.1.1.2 sd.1.1.2 (.slot s _)
  ⟨by grind,by simp,?_⟩
 grind[xX]
theorem zFK{t:TypeId}{ti:TypeInfo}{r s:Nat}{q:List Nat}{tr tr' u0 u:T}(hi:P.info? t=iG ti)(gy:(ti.size==u.size&&J6 0 ti.size)=iI)(hx:opT E x=iG (.addr r q))(hr:E r=iG tr)(hg:tr.get q.reverse=iG u0)(gv:tr.set q.reverse u=tr')(hy:E s=iG u)(hu:yE u)
  (sd:(tr.single&&tr.locd q.reverse&&vK u u0&&(r != s)&&u.okTup)=iI):Ok P Γ ⟨iH,.store t x (.tmp s),ty,ps,af,gd⟩ E (E.app ((r,iG tr')::sWr r q (.slot s u)) ((r,q.length)::sT [.slot s u])):=
 zX8 hi gy (fun _=>zAP.addr hx) hr hg gv hy hu sd
theorem uX{t:TypeId}{ti:TypeInfo}{r s:Nat}{q:List Nat}{tr tr' u0 u t0:T}(hi:P.info? t=iG ti)(gy:(ti.size==u.size&&J6 0 ti.size)=iI)(hx:tP E x=iG (r,q,.ptr t0))(hr:E r=iG tr)(hg:tr.get (0::q).reverse=iG u0)(gv:tr.set (0::q).reverse u=tr')(hy:E s=iG u)(hu:yE u)
  (sd:(tr.single&&tr.locd (0::q).reverse&&vK u u0&&(r != s)&&u.okTup)=iI):Ok P Γ ⟨iH,.store t x (.tmp s),ty,ps,af,gd⟩ E (E.app ((r,iG tr')::sWr r (0::q) (.slot s u)) ((r,(0::q).length)::sT [.slot s u])):=
 zX8 hi gy (fun _=>zAP.ptr hx) hr hg gv hy hu sd
theorem zY2{t:TypeId}{ti:TypeInfo}{r:Nat}{q:List Nat}{tr tr' u0 u:T}{v:Value}(hi:P.info? t=iG ti)(gy:(ti.size==u.size&&J6 0 ti.size)=iI)(hx:∀S,zAP (Γ.at S) E x r q)(hr:E r=iG tr)(hg:tr.get q.reverse=iG u0)(gv:tr.set q.reverse u=tr')
  (sd:(tr.single&&tr.locd q.reverse&&vK u u0&&u.zOk)=iI)(hz:tZ u=v.cells.toList):Ok P Γ ⟨iH,.store t x (.const v),ty,ps,af,gd⟩ E (E.app [(r,iG tr')] [(r,q.length)]):=by
 simp only[J4]at sd gy;subst gv;intro S;have:=zF7 (P:=P) (Γ:=Γ.at S) (E:=E) (o:=⟨iH,.store t x (.const v),ty,ps,af,gd⟩) t ti x (.const v) r q tr u0 (.zero u) rfl rfl hi (by grind[yW.tree]) (yK gy.2) (hx S) hr sd.1.1.1 hg sd.1.1.2 sd.1.2 (.zero v _ hz)
  ⟨by simp,by grind,by simp[xX]⟩
 exact this
theorem zHA{t:TypeId}{ti:TypeInfo}{r:Nat}{q:List Nat}{tr tr' u0 u:T}{v:Value}(hi:P.info? t=iG ti)(gy:(ti.size==u.size&&J6 0 ti.size)=iI)(hx:opT E x=iG (.addr r q))(hr:E r=iG tr)(hg:tr.get q.reverse=iG u0)(gv:tr.set q.reverse u=tr')
  (sd:(tr.single&&tr.locd q.reverse&&vK u u0&&u.zOk)=iI)(hz:tZ u=v.cells.toList):Ok P Γ ⟨iH,.store t x (.const v),ty,ps,af,gd⟩ E (E.app [(r,iG tr')] [(r,q.length)]):=
 by grind[zY2,zAP.addr]
theorem zHB{G:Gh}{s:Nat}:(xs:List T)→yV xs=iI→ ∀(p:List Nat)(i j:Nat)(u:T),xs[j]? =iG u→ ∃l1 l2,yJ G s xs p i=l1++vals G s u ((i+j)::p)++l2∧l1.length=T.sizes (xs.take j)
 | [],_,_,_,_,_,h=>by simp at h
 |x::xs,ht,p,i,j,u,h=>by
  simp only[yV,J4]at ht;cases j with
  |zero=>simp at h;subst h;exact⟨[],yJ G s xs p (i+1),by rfl,by rfl⟩
  |succ j=>
   obtain⟨l1,l2,h1,h2⟩:=zHB xs ht.2 p (i+1) j u (by grind);refine⟨vals G s x (i::p)++l1,l2,by rw[yJ,h1,show i+(j+1)=i+1+j from by omega];simp,?_⟩;rw[J5,vJ x _ (by rintro ys rfl;grind[T.okTup]),h2,Lf,T.sizes]
theorem zSD{S:TypeId}{j off s:Nat}{xs:List T}{u:T}(ht:qP P S j off)(hv:∃ds ti fs f,P.underlying S=iG (.struct fs)∧fs[j]? =iG f∧P.underlying f.type=iG ds∧P.info? f.type=iG ti∧zF2 ds= !u.single∧ti.size=u.size)(hx:E s=iG (.agg xs))(hu:xs[j]? =iG u)(gG:T.sizes (xs.take j)=off)
  (sd:(J6 d Γ.N&&yV xs&&u.okTup&&(s != d)&&T.okB [(d,0)] (cpT s u [j]))=iI):
  Ok P Γ ⟨iG d,.field S (.tmp s) j,ty,ps,af,gd⟩ E (E.app [(d,iG (cpT s u [j]))] [(d,0)]):=by
 obtain⟨fs,f,fi,h1,h2,h3,h4,h5⟩:=ht.h;obtain⟨ds,ti,fs',f',g1,g2,g3,g4,g5,g6⟩:=hv;simp only[J4]at sd;rw[h1]at g1;simp at g1;subst g1;rw[h2]at g2;simp at g2;subst g2;rw[h3]at g4;simp at g4;subst g4;intro S';refine wQ.value rfl fun a w G g9=>?_
 obtain⟨k1,k2,_⟩:=g9.ent s _ hx;simp only[R]at k2;have k3:=zBc xs [] 0 j u k2 hu;simp only[Jc]at k3;have gf:s≠d:=by grind
 have eh:∀ys,u≠.tup ys:=zBz sd.1.1.2;have hk:=G.put_keep (w:=w) (w':=w) rfl d (fun z=>G.hd s (z++[j]));have hz:∀z,(G.put d (fun z=>G.hd s (z++[j]))).hd d (z++[])=G.hd s (z++[j]):=by grind[Gh.put_self]
 refine⟨sQ G s u [j],w,?_,_,vQ g9 rfl (yK sd.1.1.1.1) (fun z=>G.hd s (z++[j])) (fun z=>g9.mem.one _ _) _ _ (by grind[zA8])
  (zDS (fun p=>G.put_other _ p gf) u [j] [] hz eh (hk.keepR (by grind[zAs,qX])) k3) (qX s u [j])⟩
 obtain⟨l1,l2,e1,e2⟩:=zHB (G:=G) (s:=s) xs sd.1.1.1.2 [] 0 j u hu;simp only[Jc]at e1;have e3:l1.length=f.offset:=by omega
 have e4:=vJ (G:=G) (s:=s) u [j] eh;have aw:(part f.type (yJ G s xs [] 0).toArray f.offset).run P w=.ok (sQ G s u [j]) w:=by
  rw[e1];cases u with
  |agg ys=>
   simp[T.single]at g5;simp only[vals,T.size]at e4 g6 ⊢
   simp[part,kC g3,g5,sizeOf,typeInfo,h3,sQ]
   grind
  |tup ys=>grind
  |_=>
   simp[T.single]at g5;simp[part,kC g3,g5,sQ,vals,←e3]
 simp[execOp,wK k1,mkV,Instr.field,run_underlying h1,h2,asAgg,aw]
theorem zBP{α:Type}{t e:TypeId}{ti:TypeInfo}{k:Nat}{u:T}{n:Nat}{a:Int}{f:α→T}{z:α}(ht:ElT P t e ti k u)(hz:f z=u)(hn:xG a=iG n)(hx:opT E x=iG (I a))(hy:opT E y=iG (I a))(sd:J6 d Γ.N=iI):
  Ok P Γ ⟨iG d,.makeSlice t x y,ty,ps,af,gd⟩ E (E.app [(d,iG (L k f (J1 n z)))] [(d,0)]):=by
 have:=zYz (P:=P) (Γ:=Γ) (E:=E) (d:=d) (ty:=ty) (ps:=ps) (af:=af) (gd:=gd) ht hn hx hn hy (Jh _) sd;rw[←hz]at this;simpa[L]using this
theorem zJ3{t e:TypeId}{ti:TypeInfo}{k:Nat}{u:T}(ht:ElT P t e ti k u)(sd:J6 d Γ.N=iI):Ok P Γ ⟨iG d,.buildSlice t 0 #[],ty,ps,af,gd⟩ E (E.app [(d,iG (.sl k []))] [(d,0)]):=
 fun _=>zHn t e ti k rfl rfl (yK sd) ht.un ht.info
theorem zWc{P:Program}{w:World}{t:TypeId}{a b:Bool}(n:Nat)(h:P.underlying t=iG .bool):(Op.equalIn (n+1) t (.bool a) (.bool b)).run P w=.ok (a==b) w:=by simp only[Op.equalIn,Sem.run_bind,run_underlying h];rfl
theorem zHC(t:TypeId)(x y:Value):Op.equal t x y=Op.equalIn (9999+1) t x y:=rfl
theorem zY3{a b:Bool}{xt yt:TypeId}(hu:P.underlying xt=iG .bool)(hx:opT E x=iG (B a))(hy:opT E y=iG (B b))(sd:J6 d Γ.N=iI):Ok P Γ ⟨iG d,.binOp .neq xt x y yt,ty,ps,af,gd⟩ E (E.app [(d,iG (B (a != b)))] [(d,0)]):=by
 intro S;refine zA9 _ rfl rfl (yK sd) fun c w G g9=>?_
 have h1:=(wL g9 hx).1;have h2:=(wL g9 hy).1;have h3:=zWc (P:=P) (w:=w) (a:=a) (b:=b) 9999 hu;simp[execOp,h1,h2,eqGuard,binOp,zHC,h3,bne]
theorem zGO{P:Program}{w:World}{t:TypeId}{k:IntKind}{a b:Int}(n:Nat)(h:P.underlying t=iG (.int k)):(Op.equalIn (n+1) t (.int k a) (.int k b)).run P w=.ok (a==b) w:=by simp only[Op.equalIn,Sem.run_bind,run_underlying h];simp
end
end Go.Ab

namespace Go.Ab
open Go
def zBQ:List Nat→Bool
 | []=>iI
 |x::xs=> !xs.contains x&&zBQ xs
theorem zFL:{l:List Nat}→zBQ l=iI→l.Nodup
 | [],_=>by simp
 |x::xs,h=>by simp only[zBQ,J4,Gy,Hc,decide_eq_false_iff_not]at h;exact L9.2 ⟨h.1,zFL h.2⟩
def zBR(E:Env):List yW→Prop
 | []=>True
 |.slot s t::l=>(E s=iG t∧yE t∧t.okTup=iI)∧zBR E l
 |.zero u::l=>u.zOk=iI∧zBR E l
theorem zBR.get{E:Env}:(l:List yW)→zBR E l→(∀s t,yW.slot s t∈l→E s=iG t∧yE t∧t.okTup=iI)∧ ∀u,yW.zero u∈l→u.zOk=iI
 | [],_=>by simp
 |.slot s t::l,h=>by
  obtain⟨h1,h2⟩:=zBR.get l h.2;exact⟨fun s' t' hm=>by
   rcases J9.1 hm with e|hm
   ·cases e;exact h.1
   ·exact h1 s' t' hm,fun u hm=>by
   rcases J9.1 hm with e|hm
   ·cases e
   ·exact h2 u hm⟩
 |.zero u::l,h=>by
  obtain⟨h1,h2⟩:=zBR.get l h.2;exact⟨fun s' t' hm=>by
   rcases J9.1 hm with e|hm
   ·cases e
   ·exact h1 s' t' hm,fun u' hm=>by
   rcases J9.1 hm with e|hm
   ·cases e;exact h.1
   ·exact h2 u' hm⟩
section
variable {E:Env}
theorem pkN:zBR E []:=trivial
theorem pkS{s:Nat}{t:T}{l:List yW}(h:E s=iG t)(hc:yE t)(h3:t.okTup=iI)(hl:zBR E l):zBR E (.slot s t::l):=⟨⟨h,hc,h3⟩,hl⟩
theorem pkZ{u:T}{l:List yW}(h:u.zOk=iI)(hl:zBR E l):zBR E (.zero u::l):=⟨h,hl⟩
theorem zBR.parts{d:Nat}{l:List yW}(h:zBR E l)(hn:zBQ (d::xX l)=iI):tU E d l:=⟨(zBR.get l h).1,(zBR.get l h).2,zFL hn⟩
def zD4(E:Env)(zs:List T)(ps:List yW):List (Nat×Operand)→List (Nat×yW)→Prop
 | [],[]=>True
 |x::xs,q::qs=>(x.1=q.1∧zAj E x.2 q.2∧ps[q.1]? =iG q.2∧ ∃u,zs[q.1]? =iG u∧u.size=q.2.tree.size)∧zD4 E zs ps xs qs
 |_,_=>False
theorem bqN{zs:List T}{ps:List yW}:zD4 E zs ps [] []:=trivial
theorem bqC{zs:List T}{ps:List yW}{i:Nat}{x:Operand}{q:yW}{xs:List (Nat×Operand)}{qs:List (Nat×yW)}(h:zAj E x q)(hl:zD4 E zs ps xs qs)(h1:ps[i]? =iG q:=by rfl)(h2:∃u,zs[i]? =iG u∧u.size=q.tree.size:=by exact⟨_,rfl,rfl⟩):zD4 E zs ps ((i,x)::xs) ((i,q)::qs):=⟨⟨rfl,h,h1,h2⟩,hl⟩
theorem zD4.ix{zs:List T}{ps:List yW}:(pl:List (Nat×Operand))→(qs:List (Nat×yW))→zD4 E zs ps pl qs→pl.map (·.1)=qs.map (·.1)
 | [],[],_=>rfl
 |x::xs,q::qs,h=>by simp[h.1.1,zD4.ix xs qs h.2]
 | [],_::_,h=>by grind[zD4]
 |_::_,[],h=>by grind[zD4]
theorem zD4.get{zs:List T}{ps:List yW}:(pl:List (Nat×Operand))→(qs:List (Nat×yW))→zD4 E zs ps pl qs→ ∀(j:Nat)(x:Nat×Operand)(q:Nat×yW),pl[j]? =iG x→qs[j]? =iG q→zAj E x.2 q.2∧q.2∈ps∧ ∃u,zs[q.1]? =iG u∧u.size=q.2.tree.size
 | [],[],_,j,_,_,h,_=>by simp at h
 |x::xs,q::qs,h,j,x',q',h1,h2=>by
  cases j with
  |zero=>simp at h1 h2;subst h1;subst h2;exact⟨h.1.2.1,Lv h.1.2.2.1,h.1.2.2.2⟩
  |succ j=>exact zD4.get xs qs h.2 j x' q' (by grind) (by grind)
 | [],_::_,h,_,_,_,_,_=>by grind
 |_::_,[],h,_,_,_,_,_=>by grind
end
class zHD (P:Program) (t:TypeId) (zs:outParam (List T)):Prop where
 h:∃(place:Nat→Option (Nat×Nat))(z:Value),(∀parts,P.built t parts=Instr.fill place z.cells parts)∧qO zs=z.cells.toList∧zAu zs=iI∧ ∀i u,zs[i]? =iG u→place i=iG (T.sizes (zs.take i),u.size)
section
variable {P:Program}{Γ:Ctx}{E E':Env}{d:Nat}{x y:Operand}{ty:TypeId}{ps:String}{af:Array Edge}{gd:Option (Nat×Bool)}
theorem zAx{t:TypeId}{zs:List T}{pa:Array (Nat×Operand)}(hb:zHD P t zs)(pl:List (Nat×Operand))(qs:List (Nat×yW))(pp:List yW)(gB:zBR E pp)(hq:zD4 E zs pp pl qs)(sd:(J6 d Γ.N&&zBQ (d::xX pp))=iI)
  (fQ:pa=pl.toArray:=by rfl)(gW:qs.foldl (fun ps q=>ps.set q.1 q.2) (zs.map yW.zero)=pp:=by rfl):Ok P Γ ⟨iG d,.build t pa,ty,ps,af,gd⟩ E (E.app ((d,iG (.agg (pp.map yW.tree)))::pWr d pp 0) ((d,0)::sT pp)):=by
 obtain⟨place,z,h1,h2,h3,h4⟩:=hb.h;simp only[J4]at sd;subst fQ;exact fun S=>zSn t place z zs pl qs pp rfl rfl (yK sd.1) h1 h2 h3 h4 gW (gB.parts sd.2) (zD4.ix _ _ hq) (zD4.get _ _ hq)
def zLT(k:Nat):List yW→Bool
 | []=>iI
 |p::l=>(p.tree.size==k)&&zLT k l
theorem zLU{k:Nat}:(l:List yW)→zLT k l=iI→ ∀p∈l,p.tree.size=k
 | [],_,_,h=>by simp at h
 |p::l,h,q,hm=>by
  simp only[zLT,J4,beq_iff_eq]at h;rcases J9.1 hm with rfl|hm
  ·exact h.1
  ·exact zLU l h.2 q hm
theorem zCA{α:Type}{t e:TypeId}{ti:TypeInfo}{k n:Nat}{u:T}{pa:Array (Nat×Operand)}(ht:ElT P t e ti k u)(xs:List Operand)(pp:List yW)(ys:List α)(f:α→T)(hx:uJ E xs pp)(gB:zBR E pp)
  (sd:(J6 d Γ.N&&zBQ (d::xX pp)&&zLT k pp&&J6 0 n&&Nat.ble (n*k) 65536)=iI)(hn:xs.length=n)(fQ:pa=((xs.zipIdx 0).map fun x=>(x.2,x.1)).toArray:=by rfl)(hy:pp.map yW.tree=ys.map f:=by rfl):
  Ok P Γ ⟨iG d,.buildSlice t n pa,ty,ps,af,gd⟩ E (E.app ((d,iG (L k f ys))::pWr d pp 0) ((d,0)::sT pp)):=by
 obtain⟨z,hz,_⟩:=ht.zero;simp only[J4]at sd;subst fQ;intro S;have hle:n*k≤65536:=by grind[Nat.ble_eq]
 have:=zIP (P:=P) (Γ:=Γ.at S) (E:=E) (o:=⟨iG d,.buildSlice t n ((xs.zipIdx 0).map fun x=>(x.2,x.1)).toArray,ty,ps,af,gd⟩) t e ti z k n xs pp rfl rfl (yK sd.1.1.1.1) ht.un ht.info hz ht.size ht.pos hn (yK sd.1.2) (by omega) hx (gB.parts sd.1.1.1.2) (zLU pp sd.1.1.2)
 grind
theorem zLV{α:Type}{f g:α→T}(h:∀y,roT (g y)=f y):(ys:List α)→roT.roTs (ys.map g)=ys.map f
 | []=>rfl
 |y::ys=>by simp only[Jn,roT.roTs,h y,zLV h ys]
theorem zEd{α:Type}{t e:TypeId}{ti:TypeInfo}{k r:Nat}{q:List Nat}{u:T}{f g:α→T}{xs ys zs:List α}{s0:Nat}(ht:ElT P t e ti k u)(aO:∀y,roT (g y)=f y)(gy:∀y,(g y).size=k)(hg:Enc g)(hv:xT xs ys=iG zs)(h0:E s0=iG (L k f xs))(h1:tP E y=iG (r,q,.ro (L k g ys)))(sd:(J6 d Γ.N&&(s0 != d))=iI):
  Ok P Γ ⟨iG d,.call { callee:=.builtin .append,args:=#[.tmp s0,y],argTypes:=#[t,t] },ty,ps,af,gd⟩ E (E.app [(d,iG (L k f zs)),(s0,iG .any)] [(d,0),(s0,1)]):=by
 obtain⟨rfl,hl⟩:=zFG hv;obtain⟨z,hz,fp⟩:=ht.zsize;simp only[J4]at sd;intro S;have:=zKq (P:=P) (Γ:=Γ.at S) (E:=E) (o:=⟨iG d,.call { callee:=.builtin .append,args:=#[.tmp s0,y],argTypes:=#[t,t] },ty,ps,af,gd⟩) t e ti z k s0 y r q (xs.map f) (ys.map g) rfl rfl (yK sd.1) ht.un ht.info hz ht.size ht.pos fp ht.bytes h0 h1 (zH8 hg.rook ys)
  (by simp_all) (by grind) (by grind)
 rw[zLV aO,←L8]at this;exact this
def tI{α:Type}(xs:List α)(m:Int)(z:α):Option (List α):=if 0≤m∧xs.length+m.toNat≤68719476736 then iG (xs++J1 m.toNat z)else iH
theorem zY4{α:Type}{t t2 e:TypeId}{k2:IntKind}{ti:TypeInfo}{k:Nat}{u:T}{f:α→T}{z:α}{xs zs:List α}{s0:Nat}{m:Int}(ht:ElT P t e ti k u)(a9:P.underlying t2=iG (.int k2))(hz:f z=u)(hv:tI xs m z=iG zs)(h0:E s0=iG (L k f xs))(h1:opT E y=iG (I m))(sd:(J6 d Γ.N&&(s0 != d))=iI):
  Ok P Γ ⟨iG d,.call { callee:=.builtin .append,args:=#[.tmp s0,y],argTypes:=#[t,t2] },ty,ps,af,gd⟩ E (E.app [(d,iG (L k f zs)),(s0,iG .any)] [(d,0),(s0,1)]):=by
 unfold tI at hv;split at hv
 ·rename_i hc
  simp at hv;subst hv;obtain⟨zv,mG,eR⟩:=ht.zero;simp only[J4]at sd;obtain⟨n,rfl⟩:∃n:Nat,m=n:=⟨m.toNat,by omega⟩;intro S;have:=zHw (P:=P) (Γ:=Γ.at S) (E:=E) (o:=⟨iG d,.call { callee:=.builtin .append,args:=#[.tmp s0,y],argTypes:=#[t,t2] },ty,ps,af,gd⟩) t t2 e k2 ti zv u k s0 y .i64 n (xs.map f) rfl rfl (yK sd.1) ht.un a9 ht.info mG ht.size ht.pos ht.bytes ht.zok eR ht.us h0 h1
   (by grind) (by grind)
  have e:xs.map f++J1 n u=(xs++J1 n z).map f:=by simp[hz]
  rw[e]at this;have h2:((n:Int)).toNat=n:=by simp
  rw[h2];exact this
 ·cases hv
end
section
variable {Γ:Ctx}{E:Env}
theorem zO.trq(d r:Nat)(q:List Nat){tr u tr':T}(hd:E d=iG (.same r q))(hr:E r=iG tr)(hg:tr.get q.reverse=iG u)(fb:yE u)(sd:(u.single&&xZ tr&&tr.okB [(d,1),(r,q.length+1)]&&(d != r))=iI)(gv:(if q=[]then .same d []else tr.set q.reverse .any)=tr':=by rfl):
  zO Γ E (E.app [(d,iG u),(r,iG tr')] [(d,1),(r,q.length+1)]):=by
 simp only[J4]at sd
 rintro a w ⟨S,hS,hs⟩
 have gf:d≠r:=by grind
 have:=zNL hs d [] r q (.same r q) tr u hd rfl hr hg sd.1.1.1 fb gf (by grind[T.okB,zAp]) sd.1.2 rfl sd.1.1.2;subst gv;exact⟨S,hS,this⟩
theorem zO.trf(d:Nat)(g:List Nat)(r:Nat)(q:List Nat)(td tr:T){u td' tr':T}(hd:E d=iG td)(md:td.get g.reverse=iG (.same r q))(hr:E r=iG tr)(hg:tr.get q.reverse=iG u)(gv:td.set g.reverse u=td')(fb:yE u)
  (sd:(u.single&&xZ td&&xZ tr&&td.okB [(d,g.length+1),(r,q.length+1)]&&tr.okB [(d,g.length+1),(r,q.length+1)]&&(d != r))=iI)(eT:(if q=[]then .same d g else tr.set q.reverse .any)=tr':=by rfl):
  zO Γ E (E.app [(d,iG td'),(r,iG tr')] [(d,g.length+1),(r,q.length+1)]):=by
 simp only[J4]at sd
 rintro a w ⟨S,hS,hs⟩
 have gf:d≠r:=by grind
 have:=zNL hs d g r q td tr u hd md hr hg sd.1.1.1.1.1 fb gf sd.1.1.2 sd.1.2 sd.1.1.1.1.2 sd.1.1.1.2;subst gv eT;exact⟨S,hS,this⟩
theorem zO.frz{α:Type}(s:Nat){k:Nat}{f g:α→T}(xs:List α)(hs:E s=iG (L k f xs))(h:uW f g):zO Γ E (E.app [(s,iG (.ro (L k g xs)))] [(s,1)]):=by have:=zO.freeze (Γ:=Γ) s _ hs;simp only[uC,strip,sE h.h xs]at this;exact this
theorem zO.res(d r:Nat)(q:List Nat)(tr:T){u:T}(hd:E d=iG (.same r q))(hr:E r=iG tr)(hg:tr.get q.reverse=iG (.ro u)):zO Γ E (E.app [(d,iG (.ro u))] []):=by
 rintro a w ⟨S,hS,gR,G,g9⟩
 refine⟨S,hS,gR,G,?_⟩;have hk:jB [] G w G w:=⟨fun _ _ _=>rfl,fun _ _ _=>rfl,by simp,fun _ _ _ h _=>h,fun b cs e h=>⟨cs,h,rfl⟩⟩;refine vN g9 rfl hk g9.mem (by simp) fun s t hs=>?_
 simp only[Wr.find]at hs;split at hs
 ·rename_i e;subst e
  simp at hs;subst hs;obtain⟨h1,h2,_⟩:=g9.ent d _ hd;obtain⟨_,h4,_⟩:=g9.ent r _ hr;simp only[R]at h2;have h5:=(zAN q.reverse tr _ [] h4 hg).1;simp only[rp,Km,Je,R]at h5;exact⟨by rw[h1];rfl,by grind[R],by simp[Top]⟩
 ·cases hs
end
theorem zKy:(p:List Nat)→ ∀(t u0 a:T),t.get p=iG u0→(t.set p a).get p=iG a
 | [],t,_,a,_=>by rfl
 |i::p,t,u0,a,h=>by
  cases t with
  |sl k xs|agg xs|tup xs=>
   simp only[T.get,T.set]at h ⊢
   cases hx:xs[i]? with
   |none=>grind
   |some x=>
    rw[hx]at h;have hi:=(Js.1 hx).1;simp only[];simp only[T.get,Ja2 hi];exact zKy p x u0 a h
  |ptr t=>
   simp only[T.get,T.set]at h ⊢
   split at h
   ·rename_i e;subst e;simp only[if_true,T.get];exact zKy p t u0 a h
   ·cases h
  |_=>grind[T.get]
theorem set_set:(p:List Nat)→ ∀(t u0 a b:T),t.get p=iG u0→(t.set p a).set p b=t.set p b
 | [],t,_,a,_,_=>by rfl
 |i::p,t,u0,a,b,h=>by
  cases t with
  |sl k xs|agg xs|tup xs=>
   simp only[T.get,T.set]at h ⊢
   cases hx:xs[i]? with
   |none=>grind
   |some x=>
    rw[hx]at h;have hi:=(Js.1 hx).1;simp only[];simp only[T.set,Ja2 hi,List.set_set,set_set p x u0 a b h]
  |ptr t=>
   simp only[T.get,T.set]at h ⊢
   split at h
   ·rename_i e;subst e;simp only[if_true,T.set,set_set p t u0 a b h]
   ·cases h
  |_=>rfl
def zBj:T→Bool
 |.sl _ _|.ptr _=>iI
 |_=>iJ
theorem zSE{t:T}(h:zBj t=iI)(p:List Nat){u:T}(hp:p≠[]):zBj (t.set p u)=iI:=by
 cases p with
 |nil=>simp_all
 |cons i p=>cases t<;>simp[zBj]at h<;>simp only[T.set]<;>split<;>rfl
theorem tE{t:T}(h:zBj t=iI)(chg:Chg):t.okB chg=iI∧xZ t=iI∧t.single=iI:=by cases t<;>simp[zBj]at h<;>simp[T.okB,xZ,T.single]
section
variable {P:Program}{Γ:Ctx}{E E':Env}{d:Nat}{ty:TypeId}{ps:String}{af:Array Edge}{gd:Option (Nat×Bool)}
theorem agM{E:Env}{rw:Rw}{i:Nat}{x:Operand}{u:T}(t:T)(h:opT E x=iG t)(h1:clo E t=u)(h2:zJs E (rw.map (·.2.1)) x t=iI):zCm E rw i x u:=.inr ⟨t,h,h1,h2⟩
theorem zEe{E:Env}{rw:Rw}{i s:Nat}{u u':T}(h:E s=iG u)(hc:yE u)(hr:vO u=iI)(hs:u.okTup=iI:=by rfl)(hm:(i,s,u')∈rw:=by exact List.mem_singleton.2 rfl):zCm E rw i (.tmp s) u:=.inl ⟨s,u',rfl,hm,h,hc,hs,hr⟩
abbrev uF(E:Env)(ds r:Nat)(q:List Nat)(tr u:T):Env:=E.app [(ds,iG u),(r,iG (if q=[]then .same ds []else tr.set q.reverse .any))] [(ds,1),(r,q.length+1)]
theorem zDp{f:FuncId}{xs:List Operand}{ats:Array TypeId}{us res:List T}{tr u u' tr':T}(i ds r:Nat)(q:List Nat)(gu:zBi P f)(hc:FnC P f us res [(i,u')])(hs:E ds=iG (.same r q))(hr:E r=iG tr)(hq:tr.get q.reverse=iG u)
  (fb:yE u)(eM:yE u')(_:vO u=iI)(m7:vO u'=iI)(gc:wA (uF E ds r q tr u) [(i,ds,u')] 0 xs us)(gk:kY res)(gv:tr.set q.reverse u'=tr')
  (sd:(J6 d Γ.N&&(d != ds)&&(d != r)&&(ds != r)&&zBj u&&zBj u'&&zBj tr)=iI)(hx:xs[i]? =iG (.tmp ds))(hu:us[i]? =iG u):
  Ok P Γ ⟨iG d,.call { callee:=.value (.func f),args:=xs.toArray,argTypes:=ats },ty,ps,af,gd⟩ E ((((uF E ds r q tr u).app (cWr d res [(i,ds,u')]) (uN d [(i,ds,u')]))).app [(r,iG tr'),(ds,iG (.same r q))] [(r,q.length+1),(ds,1)]):=by
 simp only[J4]at sd;obtain⟨⟨⟨⟨⟨⟨s1,s2⟩,s3⟩,s4⟩,s5⟩,s6⟩,s7⟩:=sd;have d1:d≠ds:=by grind
 have d2:d≠r:=by grind
 have d3:ds≠r:=by grind
 obtain⟨u1,u2,u3⟩:=tE s5 [];obtain⟨v1,v2,v3⟩:=tE s6 [];have bU:cLv u'=1:=by simp[cLv,v3]
 subst gv;intro S
 by_cases mu:q=[]
 ·subst mu
  have htu:tr=u:=by
   have:tr.get []=iG tr:=by rfl
   grind
  subst htu;have ae:∀a b:T,a.set [] b=b:=fun a b=>by rfl
  have bF:(uF E ds r [] tr tr) ds=iG tr:=by simp[uF,Env.app,Wr.find]
  have pQ:((uF E ds r [] tr tr).app (cWr d res [(i,ds,u')]) (uN d [(i,ds,u')])) r=iG (.same ds []):=by
   have h1:(uF E ds r [] tr tr) r=iG (.same ds []):=by simp[uF,Env.app,Wr.find,d3]
   have h2:(cWr d res [(i,ds,u')]).find r=iH:=by grind[cWr,Wr.find]
   have h3:(T.same ds []).okB (uN d [(i,ds,u')])=iI:=by grind[T.okB,zAp,uN]
   simp only[Env.app,h2,h1,h3,if_true]
  have pR:((uF E ds r [] tr tr).app (cWr d res [(i,ds,u')]) (uN d [(i,ds,u')])) ds=iG u':=by grind[Env.app,Wr.find,cWr]
  have:=zLL (P:=P) (Γ:=Γ.at S) (E:=E) (o:=⟨iG d,.call { callee:=.value (.func f),args:=xs.toArray,argTypes:=ats },ty,ps,af,gd⟩) f (.func f) xs ats us res i ds r [] tr tr u' rfl rfl (yK s1) gu rfl hs hr hq u3 fb d3 d2 (tE s7 _).1 (tE s7 []).2.1
   (uF E ds r [] tr tr) _ rfl rfl hc gc (.one d1 hx eM v3 m7 bF u3 hu) gk (.same ds []) (.same ds []) pQ rfl rfl pR eM v3 (by simp[T.okB,zAp]) rfl (tE s6 _).1 v2
  grind
 ·have u8:q.reverse≠[]:=by simp_all
  have bF:(uF E ds r q tr u) ds=iG u:=by simp[uF,Env.app,Wr.find]
  have hSP:=zSE s7 q.reverse (u:=.any) u8;have pQ:((uF E ds r q tr u).app (cWr d res [(i,ds,u')]) (uN d [(i,ds,u')])) r=iG (tr.set q.reverse .any):=by
   have h1:(uF E ds r q tr u) r=iG (tr.set q.reverse .any):=by simp[uF,Env.app,Wr.find,d3,mu]
   grind[cWr,Wr.find,Env.app,tE]
  have pR:((uF E ds r q tr u).app (cWr d res [(i,ds,u')]) (uN d [(i,ds,u')])) ds=iG u':=by grind[Env.app,Wr.find,cWr]
  have:=zLL (P:=P) (Γ:=Γ.at S) (E:=E) (o:=⟨iG d,.call { callee:=.value (.func f),args:=xs.toArray,argTypes:=ats },ty,ps,af,gd⟩) f (.func f) xs ats us res i ds r q tr u u' rfl rfl (yK s1) gu rfl hs hr hq u3 fb d3 d2 (tE s7 _).1 (tE s7 []).2.1
   (uF E ds r q tr u) _ rfl rfl hc gc (.one d1 hx eM v3 m7 bF u3 hu) gk (tr.set q.reverse .any) .any pQ (zKy _ _ _ _ hq) rfl pR eM v3 (tE hSP _).1 (tE hSP []).2.1 (tE s6 _).1 v2
  grind[set_set]
theorem zGP{f:FuncId}{xs:List Operand}{ats:Array TypeId}{us res:List T}{xf:Operand}(hf:opT E xf=iG (.lit (.func (.func f) #[] #[])))(gu:zBi P f)(hc:FnC P f us res [])(gc:wA E [] 0 xs us)(gk:kY res)(sd:J6 d Γ.N=iI):
  Ok P Γ ⟨iG d,.call { callee:=.value xf,args:=xs.toArray,argTypes:=ats },ty,ps,af,gd⟩ E (E.app (cWr d res []) (uN d [])):=
 fun _=>zKt f xf xs ats us res [] rfl rfl (yK sd) gu hf hc gc .nil gk
def zD5(E:Env):List Operand→List T→Prop
 | [],[]=>True
 |x::xs,u::us=>(opT E x=iG u∧u.flat=iI)∧zD5 E xs us
 |_,_=>False
theorem afN:zD5 E [] []:=trivial
theorem afC{x:Operand}{xs:List Operand}{u:T}{us:List T}(h:opT E x=iG u)(h1:u.flat=iI)(h2:zD5 E xs us):zD5 E (x::xs) (u::us):=⟨⟨h,h1⟩,h2⟩
theorem zD5.get:(xs:List Operand)→(us:List T)→zD5 E xs us→ ∀(i:Nat) u,us[i]? =iG u→ ∃x,xs[i]? =iG x∧opT E x=iG u∧u.flat=iI
 | [],[],_,i,u,h=>by simp at h
 |x::xs,v::us,h,i,u,hi=>by
  cases i with
  |zero=>simp at hi;subst hi;exact⟨x,by simp,h.1⟩
  |succ i=>obtain⟨y,h1,h2⟩:=zD5.get xs us h.2 i u (by grind);grind
 | [],_::_,h,_,_,_=>by grind[zD5]
 |_::_,[],h,_,_,_=>by grind
theorem jM{f:FuncId}{xs:List Operand}{ats:Array TypeId}{us res:List T}(gu:zBi P f)(hc:FnC P f us res [])(ha:zD5 E xs us)(gj:xs.length=us.length)(gk:xW res)(ew:yV res=iI)(sd:J6 d Γ.N=iI):
  Ok P Γ ⟨iG d,.call { callee:=.value (.func f),args:=xs.toArray,argTypes:=ats },ty,ps,af,gd⟩ E (E.app (cWr d res []) (uN d [])):=
 by grind[zWa,zD5.get]
end
noncomputable def zDI {α:Type} (g:Nat→Option α):Option α:=
 open Classical in if h:∃r,∃n,∀m,n≤m→g m=iG r then iG h.choose else iH
theorem kJ{α:Type}{g:Nat→Option α}{r:α}(h:zDI g=iG r):∃n,g n=iG r:=by
 unfold zDI at h;split at h
 ·rename_i he
  simp at h;obtain⟨n,hn⟩:=he.choose_spec;exact⟨n,by simp_all⟩
 ·cases h
theorem zB1{α:Type}{g:Nat→Option α}{r:α}(n:Nat)(h:∀m,n≤m→g m=iG r):zDI g=iG r:=by
 have he:∃r,∃n,∀m,n≤m→g m=iG r:=⟨r,n,h⟩;unfold zDI;rw[dif_pos he];obtain⟨n',hn'⟩:=he.choose_spec;have h1:=h (max n n') (by omega)
 grind
end Go.Ab

namespace Go.Ab
open Go
section
variable {P:Program}{Γ:Ctx}{ops:Array Oper}{o:Oper}{E:Env}
theorem zW.skipW{d:Nat}(hd:o.dst=iG d)(sd:J6 d Γ.N=iI)(hw:∀(a:Act)(w:World),jJ Γ E a w→Region.wanted o (yielded ops a.tmps)=iJ):zW P Γ ops o E (E.app [(d,iG (.tup []))] [(d,0)]):=by
 intro a w K Q hs hK;rw[if_neg (by simp[hw a w hs])];obtain⟨S,hS,gR,G,g9⟩:=hs;refine hK _ _ ⟨S,hS,by rw[hd];exact gR,G.put d (fun _=>.bool iJ),?_⟩ ?_
 ·rw[hd]
  have hu:(Value.bool iJ).oneCell'=iI:=rfl;refine vN g9 (by simp[Act.put]) (G.put_keep rfl d _) (g9.mem.put rfl d _ fun _=>hu) ?_ ?_
  ·intro s hs
   rw[tY]at hs;split at hs
   ·cases hs
   ·rename_i gf
    refine⟨fun n hn=>gf (by simp at hn;exact hn.1.symm),?_⟩;simp[Act.put,Hs gf]
  ·intro s t' hs
   rw[tY]at hs;split at hs
   ·rename_i e;subst e
    simp at hs;subst hs;have gy:=g9.size;have gF:=yK sd;refine⟨?_,by simp[R,RF],by simp[Top,vU]⟩;have:d<a.tmps.size:=by rw[gy];exact gF
    simp[Act.put,mkV,jV,undef,this]
   ·cases hs
 ·intro s hs
  rw[hd]at hs ⊢
  have:d≠s:=fun e=>hs (by rw[e])
  simp[Act.put,Hs this]
theorem zW.skip2{d:Nat}(g:Nat)(b b':Bool)(s:Nat)(hd:o.dst=iG d)(sd:J6 d Γ.N=iI)(cS:(b==b')=iJ)(hg:o.guard=iG (g,b))(gp:(ops[g]?).bind (·.dst)=iG s)(hb:E s=iG (.lit (.bool b'))):
  zW P Γ ops o E (E.app [(d,iG (.tup []))] [(d,0)]):=.skipW hd sd fun a w hs=>by
 simp only[Region.wanted,hg,zH0 hs gp hb];cases b<;>cases b'<;>simp_all
theorem zW.skip3{d:Nat}(g:Nat)(b:Bool)(s:Nat)(hd:o.dst=iG d)(sd:J6 d Γ.N=iI)(hg:o.guard=iG (g,b))(gp:(ops[g]?).bind (·.dst)=iG s)(hb:E s=iG (.tup [])):
  zW P Γ ops o E (E.app [(d,iG (.tup []))] [(d,0)]):=.skipW hd sd fun a w hs=>by
 obtain⟨_,_,_,G,hr⟩:=hs;obtain⟨h1,_,_⟩:=hr.ent s _ hb;simp only[Region.wanted,hg,yielded,gp,Option.bind_some,h1,mkV,jV];rfl
theorem zW.opE{E1 E':Env}(h:Ok P Γ o E E1)(e:E1=E')(hg:o.guard=iH:=by rfl):zW P Γ ops o E E':=e▸zW.op h hg
theorem zW.guardE{E1 E':Env}(g:Nat)(b:Bool)(s:Nat)(h:Ok P Γ o E E1)(hg:o.guard=iG (g,b))(gp:(ops[g]?).bind (·.dst)=iG s)(hb:E s=iG (.lit (.bool b)))(e:E1=E'):zW P Γ ops o E E':=e▸zW.guard g b s h hg gp hb
end
def tV(Γ:Ctx)(P:Program)(rs:Array ResultVar)(us res:List T)(rws:List (Nat×T)):Exit→Env→Prop:=fun e E=> ∃E',zO Γ E E'∧yAe P rs us res rws e E'
theorem FnC.of_bodyG{P:Program}{f:FuncId}{fn:Func}{c:Code}{us res:List T}{rws:List (Nat×T)}(hf:P.funcs[f]? =iG fn)(hb:fn.body=iG c)(hn:us.length≤fn.ntmps)(ht:vU us)(hr:rws.all (fun x=>decide (x.1<us.length))=iI)
  (h:∀(Γ:Ctx)(v:Nat→Value),Γ.N=fn.ntmps→CW P Γ (zC6 v (rws.map (·.1))) c (yX (zIR 0 us)) (tV Γ P fn.results us res rws)):FnC P f us res rws:=by
 refine FnC.of_body hf hb hn ht hr fun Γ v hN=>?_
 intro a w Q' hs hp hQ;refine h Γ v hN a w Q' hs hp ?_
 rintro e E a' w' ⟨E',hg,hq⟩ gJ cY
 exact hQ e E' a' w' hq (hg a' w' gJ) cY
def zWd(t:T):Prop:=yE t∧vO t=iI∧strip t=t∧t.okTup=iI∧zF8 t=iI
def zSF:List T→Prop
 | []=>True
 |x::xs=>zWd x∧zSF xs
theorem Enc.t{α:Type}{f:α→T}(h:Enc f)(x:α):zWd (f x):=⟨h.clean x,h.rofree x,h.strip x,h.okTup x,h.rook x⟩
theorem Enc.of{α:Type}{f:α→T}(h:∀x,zWd (f x)):Enc f:=⟨fun x=>(h x).1,fun x=>(h x).2.1,fun x=>(h x).2.2.1,fun x=>(h x).2.2.2.1,fun x=>(h x).2.2.2.2⟩
theorem zNS{xs:List T}(h:zSF xs):zWd (.agg xs):=by
 have key:∀xs:List T,zSF xs→xW xs∧uK xs=iI∧wX xs=xs∧yV xs=iI∧zBw xs=iI:=by
  intro xs
  induction xs with
  |nil=>intro _;exact⟨trivial,rfl,rfl,rfl,rfl⟩
  |cons x xs ih=>
   rintro⟨⟨h1,h2,h3,h4,h5⟩,h⟩
   obtain⟨g1,g2,g3,g4,g5⟩:=ih h;exact⟨⟨h1,g1⟩,by simp only[uK,h2,g2,Kt],by simp only[wX,h3,g3],by simp only[yV,h4,g4,Kt],by simp only[zBw,h5,g5,Kt]⟩
 obtain⟨g1,g2,g3,g4,g5⟩:=key xs h;exact⟨yM g1,by simp only[vO,g2],by simp only[strip,g3],by simp only[T.okTup,g4],by simp only[zF8,g5]⟩
end Go.Ab

namespace Go.Ab
open Go
section
variable {Γ:Ctx}{E:Env}{d:Nat}
def Gh.cut(G:Gh)(d s0 b lo hi:Nat)(v:Value):Gh where
 hd s z:=if s=d then(if z=[]then v else G.hd s0 z)else G.hd s z
 ad s z:=if s=d then G.ad s0 z else G.ad s z
 lb b' o:=if b'=b∧lo≤o∧o<hi then iG (iI,d,[])else match G.lb b' o with
  |some (f,s,z)=>if s=s0 then iG (f,d,z)else iG (f,s,z)
  |none=>iH
 ow b':=match G.ow b' with
  |some (s,z)=>if s=s0 then iG (d,z)else iG (s,z)
  |none=>iH
theorem zP3{G:Gh}{tmps:Array Value}{w:World}(g9:Rep Γ E G tmps w)(hd:d<Γ.N){s0 k h cap':Nat}{xs:List T}(eA:E s0=iG (.sl k xs))(gf:s0≠d)(hk:0<k)
  {b cap:Nat}{cs:Array Value}{e:TypeId}(h1:G.hd s0 []=.slice (iG ⟨b,0,iH⟩) xs.length cap)(h2:w.heap[b]? =iG (.cells cs e (0,0)))(_h3:xs.length≤cap)(h4:cap≤maxLen)(h5:cap*k≤cs.size)(h6:G.ow b=iG (s0,[]))
  (h7:∀o,xs.length*k≤o→o<cap*k→G.lb b o=iG (iI,s0,[]))(h8:RL Γ.St G w s0 xs [] 0 b 0 k)(hh:h≤xs.length)(hc:h≤cap')(fh:cap'≤cap):
  ∃G',Rep Γ (E.app [(d,iG (.sl k (xs.take h))),(s0,iG .any)] [(d,0),(s0,1)]) G' (tmps.setIfInBounds d (.slice (iG ⟨b,0,iH⟩) h cap')) w:=by
 have hm:=g9.mem;obtain⟨e1,_,e3⟩:=g9.ent s0 _ eA
 let v:Value:=.slice (iG ⟨b,0,iH⟩) h cap'
 let G':=G.cut d s0 b (h*k) (cap'*k) v
 have gL:=hm.ow b _ h6;have hgone:∀o f z i,h*k≤o→o<cap'*k→G.lb b o=iG (f,s0,z++[i])→h≤i:=by
  intro o f z i ho1 ho2 hl
  by_cases ho:o<xs.length*k
  ·have hj:o/k<xs.length:=(Lt hk).2 ho
   obtain⟨g1,g2,_⟩:=kA xs [] 0 b 0 k (o/k) xs[o/k] h8 (by simp[hj]);obtain⟨y,hy⟩:=zKj xs[o/k] _ b _ (o%k) g1 (by rw[g2];exact Hk _ hk);rw[Jc,Jc,Hh,Lg,hl]at hy;simp only[Lu.injEq,Jal.injEq]at hy;have:=hy.2.2;have hi:i=o/k:=by simp_all
   rw[hi];exact(Nat.le_div_iff_mul_le hk).2 ho1
  ·have:=h7 o (by omega) (by have:=Kb k fh;omega)
   simp_all
 have glb:∀b' o f z,G.lb b' o=iG (f,s0,z)→ ¬(b'=b∧h*k≤o∧o<cap'*k)→G'.lb b' o=iG (f,d,z):=fun b' o f z hl hn=>by
  show(if _ then _ else _)=_
  grind
 have gow:∀b' z,G.ow b'=iG (s0,z)→G'.ow b'=iG (d,z):=by grind[Gh.cut]
 have mv:∀i,i<h→zJk G w G' w s0 [i] d [i]:=fun i hi=>by
  have hn:∀b' o f z,G.lb b' o=iG (f,s0,z++[i])→ ¬(b'=b∧h*k≤o∧o<cap'*k):=by grind
  refine⟨⟨fun z=>by simp[G',Gh.cut],by grind[Gh.cut],by grind,by grind,fun b' cs' e' hb=>⟨cs',hb,rfl⟩⟩,fun b' o _ hl=>⟨glb _ _ _ _ hl (hn b' o iI [] (by grind)),rfl⟩,by grind⟩
 have gx:jB [(d,0),(s0,1)] G w G' w:=by
  refine⟨fun s p ho=>?_,fun s p ho=>?_,fun b' o f s p hJ hl hs=>?_,fun b' s p hl hs=>?_,fun b' cs' e' hb=>⟨cs',hb,rfl⟩⟩
  ·have:s≠d:=fun e=>absurd (ho 0 (by simp[e])) (by simp)
   grind[Gh.cut]
  ·have:s≠d:=fun e=>absurd (ho 0 (by simp[e])) (by simp)
   grind[Gh.cut]
  ·have cU:s≠s0:=by grind
   obtain⟨y,hy⟩:=hJ;have cS:b'≠b:=by grind
   refine⟨?_,rfl⟩;show(if _ then _ else _)=_
   grind
  grind[Gh.cut]
 have gr:Mem Γ G' w:=by
  refine⟨fun s z=>?_,fun b' o l hl=>?_,fun b' l hl=>?_,hm.st,hm.fr,hm.sz,hm.bk⟩
  ·show(if _ then _ else _:Value).oneCell'=iI
   split
   ·split
    ·rfl
    ·exact hm.one _ _
   ·exact hm.one _ _
  ·change(if _ then _ else _)=_ at hl
   split at hl
   ·grind
   ·cases hg:G.lb b' o with
    |none=>grind
    |some x=>exact hm.lb b' o x hg
  ·cases hg:G.ow b' with
   |none=>grind[Gh.cut]
   |some x=>exact hm.ow b' x hg
 refine⟨G',vN g9 (by simp) gx gr ?_ ?_⟩
 ·intro s hs
  have uw:s≠d:=by rintro rfl;grind[Wr.find]
  have aA:s≠s0:=by rintro rfl;grind[Wr.find]
  grind
 ·intro s t' hs
  by_cases cU:s=d
  ·subst cU
   simp[Wr.find]at hs;subst hs;have gj:(xs.take h).length=h:=by simp;omega
   simp only[Top]at e3;have hkc:∀ys:List T,xW ys→ ∀n,xW (ys.take n):=by
    intro ys
    induction ys with
    |nil=>simp
    |cons y ys ih=>intro hy n;cases n with
     |zero=>simp[xW,wB]
     |succ n=>exact⟨hy.1,ih hy.2 n⟩
   refine⟨?_,?_,by simp only[Top];grind⟩
   ·rw[Jm]
    simp[g9.size,hd,mkV,G',Gh.cut,v]
   ·simp only[R]
    refine .inr ⟨b,cap',cs,e,by grind[Gh.cut],h2,by omega,by omega,by have:=Kb k fh;omega,gow b _ h6,fun o ho1 ho2=>?_,?_⟩
    ·rw[gj]at ho1
     show(if _ then _ else _)=_
     grind
    ·refine zKl _ [] 0 b 0 fun i x hx=>?_
     rw[Jcd]at hx;split at hx
     ·rename_i hi
      obtain⟨g1,g2,g3⟩:=kA xs [] 0 b 0 k i x h8 hx;rw[Jc]at g1 g3 ⊢
      refine⟨?_,g2,zAr (mv i hi) x (xE.mono (by simp) _ (uO xs e3 i x hx)) g3⟩;refine zHr x [i] [i] b _ (fun z=>by simp[G',Gh.cut]) (by grind[Gh.cut]) (fun b' o z hl=>⟨glb _ _ _ _ hl ?_,rfl⟩) g1
      grind
     ·cases hx
  ·have h9:s=s0∧t'=.any:=by
    simp only[Wr.find]at hs
    grind
   obtain⟨rfl,rfl⟩:=h9;refine⟨?_,by simp only[R],by simp[Top]⟩;rw[Jm];simp only[Ne.symm cU,if_false,mkV];rw[e1,xU rfl]
   grind[Gh.cut]
theorem zSG{G:Gh}{tmps:Array Value}{w:World}(g9:Rep Γ E G tmps w)(hd:d<Γ.N){s0 k:Nat}(eA:E s0=iG (.sl k []))(gf:s0≠d)(a:Option Addr):
  ∃G',Rep Γ (E.app [(d,iG (.sl k [])),(s0,iG .any)] [(d,0),(s0,1)]) G' (tmps.setIfInBounds d (.slice a 0 0)) w:=by
 obtain⟨e1,_,_⟩:=g9.ent s0 _ eA;refine⟨G.put d (fun _=>.slice a 0 0),?_⟩;have hk:jB [(d,0),(s0,1)] G w (G.put d fun _=>.slice a 0 0) w:=by have h0:=G.put_keep (w:=w) (w':=w) rfl d (fun _=>.slice a 0 0);refine⟨fun s p ho=>h0.hd s p (fun n hn=>ho n (by grind)),fun s p ho=>rfl,fun b o f s p h1 h2 h3=>h0.lb b o f s p h1 h2 (by grind),fun b s p h1 h3=>h0.ow b s p h1 (by grind),h0.blk⟩
 refine vN g9 (by simp) hk (g9.mem.put rfl d _ (fun _=>rfl)) ?_ ?_
 ·intro s hs
  have uw:s≠d:=by rintro rfl;grind[Wr.find]
  have aA:s≠s0:=by rintro rfl;grind[Wr.find]
  grind
 ·intro s t' hs
  by_cases cU:s=d
  ·subst cU
   simp[Wr.find]at hs;subst hs;refine⟨by rw[Jm];simp[g9.size,hd,mkV,Gh.put],by simp only[R];exact .inl ⟨trivial,a,by simp[Gh.put]⟩,by omega⟩
  ·have h9:s=s0∧t'=.any:=by
    simp only[Wr.find]at hs
    grind
   obtain⟨rfl,rfl⟩:=h9;refine⟨?_,by simp only[R],by simp[Top]⟩;rw[Jm];simp only[Ne.symm cU,if_false,mkV];rw[e1,xU rfl]
   grind[Gh.put]
end
section
variable {P:Program}{Γ:Ctx}{pn:kG}{E E':Env}{Q:Exit→Env→Prop}{d:Nat}{x y:Operand}{ty:TypeId}{ps:String}{af:Array Edge}{gd:Option (Nat×Bool)}
theorem zX9{α:Type}{t e:TypeId}{ti:TypeInfo}{s0 k:Nat}{f:α→T}{xs ys:List α}{mx:Option Operand}{h:Int}{u:T}(ht:ElT P t e ti k u)(hv:yD xs 0 h=iG ys)(h0:E s0=iG (L k f xs))(hy:opT E y=iG (I h))(hmx:mx=iH∨ ∃z,mx=iG z∧opT E z=iG (I h))(sd:(J6 d Γ.N&&(s0 != d))=iI):
  Ok P Γ ⟨iG d,.slice t (.tmp s0) iH (iG y) mx,ty,ps,af,gd⟩ E (E.app [(d,iG (L k f ys)),(s0,iG .any)] [(d,0),(s0,1)]):=by
 obtain⟨_,t8,hle,rfl⟩:=sU hv;simp only[J4]at sd;have gf:s0≠d:=by grind
 obtain⟨n,rfl⟩:∃n:Nat,h=n:=⟨h.toNat,by omega⟩;have hn:n≤xs.length:=by omega
 intro S;refine wQ.value rfl fun a w G g9=>?_
 obtain⟨e1,e2,_⟩:=g9.ent s0 _ h0;have fq:=(wL g9 hy).1;have bW:a.eval (.tmp s0)=G.hd s0 []:=by rw[wK e1,xU rfl]
 have m6:=ht.un;have gQ:=ht.info;have gy:=ht.size;have aC:List.map f ((xs.drop (0:Int).toNat).take ((n:Int).toNat-(0:Int).toNat))=(xs.map f).take n:=by simp
 rw[show L k f ((xs.drop (0:Int).toNat).take ((n:Int).toNat-(0:Int).toNat))=.sl k ((xs.map f).take n)by simp];have e2':=e2;simp only[R]at e2;rcases e2 with⟨hnil,ad,h1⟩|⟨b,cap,cs,e',h1,h2,h3,h4,h5,h6,h7,h8⟩
 ·have fH:xs=[]:=by simp_all
  subst fH;simp at hn;subst hn;obtain⟨G',gn⟩:=zSG g9 (yK sd.1) (k:=k) (by grind) gf ad;refine⟨_,w,?_,G',by simpa using gn⟩;rcases hmx with rfl|⟨z,rfl,hz⟩
  ·simp[execOp,Instr.sliceAt,Instr.slice,run_underlying m6,bW,h1,fq,sizeOf,typeInfo,gQ,Instr.sliceBounds,Instr.sliceBound,asIntOf]
  ·have mG:=(wL g9 hz).1
   simp[execOp,Instr.sliceAt,Instr.slice,run_underlying m6,bW,h1,fq,mG,sizeOf,typeInfo,gQ,Instr.sliceBounds,Instr.sliceBound,asIntOf]
 ·rw[Ji]at h1 h3
  have cZ:n≤cap:=by omega
  have cQ:cap=0→n=0:=by omega
  rcases hmx with rfl|⟨z,rfl,hz⟩
  ·obtain⟨G',gn⟩:=zP3 g9 (yK sd.1) h0 gf ht.pos (by grind) h2 (by grind) h4 h5 h6 h7 h8 (h:=n) (cap':=cap) (by grind) cZ (Jh _)
   refine⟨_,w,?_,G',gn⟩;simp[execOp,Instr.sliceAt,Instr.slice,run_underlying m6,bW,h1,fq,sizeOf,typeInfo,gQ,Instr.sliceBounds,Instr.sliceBound,asIntOf,cZ,uR]
  ·have mG:=(wL g9 hz).1
   obtain⟨G',gn⟩:=zP3 g9 (yK sd.1) h0 gf ht.pos (by grind) h2 (by grind) h4 h5 h6 h7 h8 (h:=n) (cap':=n) (by grind) (Jh _) cZ;refine⟨_,w,?_,G',gn⟩;simp[execOp,Instr.sliceAt,Instr.slice,run_underlying m6,bW,h1,fq,mG,sizeOf,typeInfo,gQ,Instr.sliceBounds,Instr.sliceBound,asIntOf,cZ,uR]
end
end Go.Ab

namespace Go.Ab
open Go
section
variable {P:Program}{Γ:Ctx}{pn:kG}{E E':Env}{Q:Exit→Env→Prop}{d:Nat}{x y:Operand}{ty:TypeId}{ps:String}{af:Array Edge}{gd:Option (Nat×Bool)}{ops:Array Oper}{os:List Oper}
theorem zQI{P:Program}{w:World}{t e:TypeId}{a:Option Addr}{n c:Nat}(m:Nat)(h:P.underlying t=iG (.slice e)):(Op.equalIn (m+1) t (.slice a n c) (.slice iH 0 0)).run P w=.ok a.isNone w:=by simp only[Op.equalIn,Sem.run_bind,run_underlying h];cases a<;>rfl
theorem RW.isnil{α:Type}{xt yt e:TypeId}{r k:Nat}{q:List Nat}{f:α→T}{xs:List α}{u:T}(hu:P.underlying xt=iG (.slice e))(hx:tP E x=iG (r,q,u))(p8:u=.ro (L k f xs)∨u=L k f xs)(sd:J6 d Γ.N=iI)(hp:pn.ok (iG d)=iI)
  (h:∀b,(b=iI→xs=[])→RW P Γ pn ops os (E.app [(d,iG (B b))] [(d,0)]) Q):RW P Γ pn ops (⟨iG d,.binOp .eql xt x (.const (.slice iH 0 0)) yt,ty,ps,af,iH⟩::os) E Q:=by
 intro a w Q' hs fQ hQ;obtain⟨S,hS,gR,G,g9⟩:=id hs;have fT:u.single=iI:=by rcases p8 with rfl|rfl<;>rfl
 obtain⟨h1,h2⟩:=jK g9 hx fT;obtain⟨ad,n,c,h3,h4⟩:∃ad n c,a.eval x=.slice ad n c∧(ad.isNone=iI→xs=[]):=by
  rcases p8 with rfl|rfl
  ·obtain⟨ad,c,g1,_,_,g2⟩:=zDh h1
   refine⟨ad,_,c,by rw[h2,g1],fun hn=>?_⟩;apply Classical.byContradiction;intro gf;obtain⟨b,o',_,_,_,rfl,_⟩:=g2 (by simpa using gf);simp at hn
  ·simp only[R]at h1
   rcases h1 with⟨g1,ad,g2⟩|⟨b,cap,cs,e',g1,_⟩
   ·exact⟨ad,0,0,by rw[h2,g2],fun _=>by simpa using g1⟩
   ·exact⟨_,_,_,by rw[h2,g1],fun hn=>by simp at hn⟩
 have gz:(execOp a.eval ⟨iG d,.binOp .eql xt x (.const (.slice iH 0 0)) yt,ty,ps,af,iH⟩).run P w=.ok (.value (.bool ad.isNone)) w:=by have h5:(Op.equalIn 10000 xt (.slice ad n c) (.slice iH 0 0)).run P w=.ok ad.isNone w:=zQI 9999 hu;have h6:a.eval (.const (.slice iH 0 0))=.slice iH 0 0:=rfl;simp[execOp,h3,h6,eqGuard,binOp,zHC,h5]
 simp only[wpL,Region.wanted,if_true];refine .inl ?_;unfold Oper.wp;rw[gz,Oper.upon_value];have fN:=vQ g9 rfl (yK sd) (fun _=>.bool ad.isNone) (fun _=>rfl) (B ad.isNone) (.bool ad.isNone) (by simp[mkV,Gh.put]) (by simp[R,Gh.put]) (by simp[Top]);refine h ad.isNone h4 _ w Q' ⟨S,hS,gR,_,fN⟩ ?_ hQ;refine fQ.frame hp fun s gJ=>?_
 have:d≠s:=fun e=>gJ (by rw[e])
 simp[Act.put,Hs this]
theorem zLW{t e:TypeId}(hu:P.underlying t=iG (.slice e))(hx:opT E x=iG (.lit (.slice iH 0 0)))(sd:J6 d Γ.N=iI):Ok P Γ ⟨iG d,.call { callee:=.builtin .len,args:=#[x],argTypes:=#[t] },ty,ps,af,gd⟩ E (E.app [(d,iG (I 0))] [(d,0)]):=by
 intro S;refine zA9 (.int .i64 0) rfl rfl (yK sd) fun a w G g9=>?_
 have h1:=(wL g9 hx).1;simp[execOp,resolve,invoke,builtin,h1,Builtin.len_,run_underlying hu,goInt]
theorem zLX{t e:TypeId}(hu:P.underlying t=iG (.slice e))(hx:opT E x=iG (.lit (.slice iH 0 0)))(sd:J6 d Γ.N=iI):Ok P Γ ⟨iG d,.call { callee:=.builtin .cap,args:=#[x],argTypes:=#[t] },ty,ps,af,gd⟩ E (E.app [(d,iG (I 0))] [(d,0)]):=by
 intro S;refine zA9 (.int .i64 0) rfl rfl (yK sd) fun a w G g9=>?_
 have h1:=(wL g9 hx).1;simp[execOp,resolve,invoke,builtin,h1,Builtin.cap_,run_underlying hu,goInt]
theorem zWe{t e:TypeId}{ti:TypeInfo}{u:T}{k:Nat}(ht:ElT P t e ti k u)(hx:opT E x=iG (.lit (.slice iH 0 0)))(hy:opT E y=iG (I 0))(sd:J6 d Γ.N=iI):Ok P Γ ⟨iG d,.slice t x iH (iG y) iH,ty,ps,af,gd⟩ E (E.app [(d,iG (.sl k []))] [(d,0)]):=by
 intro S;refine wQ.value rfl fun a w G g9=>?_
 have h1:=(wL g9 hx).1;have h2:=(wL g9 hy).1;refine⟨.slice iH 0 0,w,?_,_,vQ g9 rfl (yK sd) (fun _=>.slice iH 0 0) (fun _=>rfl) (.sl k []) (.slice iH 0 0) (by simp[mkV,Gh.put]) (by simp[R,Gh.put]) (by simp[Top,xW,wB])⟩;simp[execOp,Instr.sliceAt,Instr.slice,run_underlying ht.un,h1,h2,sizeOf,typeInfo,ht.info,Instr.sliceBounds,Instr.sliceBound,asIntOf]
theorem zO.nil(s k:Nat)(hs:E s=iG (.lit (.slice iH 0 0))):zO Γ E (E.app [(s,iG (.sl k []))] [(s,0)]):=by
 rintro a w ⟨S,hS,gR,G,g9⟩
 refine⟨S,hS,gR,G,?_⟩;have hk:jB [(s,0)] G w G w:=⟨fun _ _ _=>rfl,fun _ _ _=>rfl,fun _ _ _ _ _ _ h _=>⟨h,rfl⟩,fun _ _ _ h _=>h,fun b cs e h=>⟨cs,h,rfl⟩⟩;refine vN g9 rfl hk g9.mem (fun s' gJ=>⟨fun n hn=>?_,rfl⟩) fun s' t gJ=>?_
 ·simp at hn
  simp[Wr.find,hn.1]at gJ
 ·simp only[Wr.find]at gJ
  split at gJ
  ·rename_i e;subst e
   simp at gJ;subst gJ;obtain⟨h1,h2,_⟩:=g9.ent s _ hs;simp only[R]at h2;exact⟨by rw[h1];rfl,by simp only[R];exact .inl ⟨trivial,iH,h2⟩,by simp[Top,xW,wB]⟩
  ·cases gJ
theorem zKz{src dst:TypeId}{ds:TypeDesc}{k k':IntKind}{n:Int}(hs:P.underlying src=iG ds)(ht:P.underlying dst=iG (.int k'))(hx:opT E x=iG (IK k n))(sd:J6 d Γ.N=iI):
  Ok P Γ ⟨iG d,.convert src dst x,ty,ps,af,gd⟩ E (E.app [(d,iG (IK k' (k'.wrap n)))] [(d,0)]):=fun _=>zVM src dst ds x k k' n rfl rfl (yK sd) hs ht hx
theorem zY5{k:IntKind}{m n:Int}{xt yt:TypeId}(hx:opT E x=iG (IK k m))(hy:opT E y=iG (IK k n))(sd:J6 d Γ.N=iI):Ok P Γ ⟨iG d,.binOp .add xt x y yt,ty,ps,af,gd⟩ E (E.app [(d,iG (IK k (k.wrap (m+n))))] [(d,0)]):=
 fun _=>sK .add xt yt x y k m n _ rfl rfl (yK sd) hx hy rfl
theorem zY6{k:IntKind}{m n:Int}{xt yt:TypeId}(hx:opT E x=iG (IK k m))(hy:opT E y=iG (IK k n))(sd:J6 d Γ.N=iI):Ok P Γ ⟨iG d,.binOp .mul xt x y yt,ty,ps,af,gd⟩ E (E.app [(d,iG (IK k (k.wrap (m*n))))] [(d,0)]):=
 fun _=>sK .mul xt yt x y k m n _ rfl rfl (yK sd) hx hy rfl
theorem zSH{k:IntKind}{m n:Int}{xt yt:TypeId}(hx:opT E x=iG (IK k m))(hy:opT E y=iG (IK k n))(sd:J6 d Γ.N=iI):Ok P Γ ⟨iG d,.binOp .gtr xt x y yt,ty,ps,af,gd⟩ E (E.app [(d,iG (B (decide (m> n))))] [(d,0)]):=
 fun _=>sK .gtr xt yt x y k m n _ rfl rfl (yK sd) hx hy rfl
def zGE(k:IntKind)(m n:Int):Int:=k.wrap ((BitVec.ofInt k.bits m &&& BitVec.ofInt k.bits n).toNat:Int)
theorem zY7{k:IntKind}{m n:Int}{xt yt:TypeId}(hx:opT E x=iG (IK k m))(hy:opT E y=iG (IK k n))(sd:J6 d Γ.N=iI):Ok P Γ ⟨iG d,.binOp .and xt x y yt,ty,ps,af,gd⟩ E (E.app [(d,iG (IK k (zGE k m n)))] [(d,0)]):=by
 intro S;refine zA9 (.int k (zGE k m n)) rfl rfl (yK sd) fun a w G g9=>?_
 have h1:=(wL g9 hx).1;have h2:=(wL g9 hy).1;simp[execOp,h1,h2,eqGuard,binOp,Op.intBits,zGE]
theorem zY8{k k':IntKind}{m n:Int}{xt yt:TypeId}(hn:0≤n)(hx:opT E x=iG (IK k m))(hy:opT E y=iG (IK k' n))(sd:J6 d Γ.N=iI):Ok P Γ ⟨iG d,.binOp .shr xt x y yt,ty,ps,af,gd⟩ E (E.app [(d,iG (IK k (m.fdiv (2 ^ (min n.toNat k.bits)))))] [(d,0)]):=by
 intro S;refine zA9 (.int k (m.fdiv (2 ^ (min n.toNat k.bits)))) rfl rfl (yK sd) fun a w G g9=>?_
 have h1:=(wL g9 hx).1;have h2:=(wL g9 hy).1;have h3:¬n<0:=by omega
 simp[execOp,h1,h2,eqGuard,binOp,Op.shift,h3]
end
end Go.Ab

namespace Go.Ab
open Go
structure zSI (P:Program) (f:Field) (i:Nat):Prop where
 name:f.name≠ "_"
 off:f.offset=i
 ty:P.underlying f.type=iG (.int .i64)
class zWf (P:Program) (t:TypeId):Prop where
 h:∃f0 f1 f2 f3:Field,P.underlying t=iG (.struct #[f0,f1,f2,f3])∧zSI P f0 0∧zSI P f1 1∧zSI P f2 2∧zSI P f3 3
 st:P.stoodInHeld t=iJ
 gd:P.eqGuardType P.depth t=iJ
theorem zEL{P:Program}{w:World}{f:Field}{i:Nat}(h:zSI P f i)(cs:Array Value)(v:Value)(hv:cs[i]? =iG v):(part f.type cs f.offset).run P w=.ok v w:=by simp[part,kC h.ty,zF2,h.off,hv]
theorem zSJ{P:Program}{w:World}{t:TypeId}(h:zWf P t)(a b c d a' b' c' d':Int)(m:Nat):
  (Op.equalIn (m+2) t (.agg #[.int .i64 a,.int .i64 b,.int .i64 c,.int .i64 d]) (.agg #[.int .i64 a',.int .i64 b',.int .i64 c',.int .i64 d'])).run P w=.ok (a==a'&&(b==b'&&(c==c'&&d==d'))) w:=by
 obtain⟨f0,f1,f2,f3,h1,g0,g1,g2,g3⟩:=h.h;have k0:=fun(x y:Int)=>zGO (P:=P) (w:=w) (a:=x) (b:=y) m g0.ty
 have k1:=fun(x y:Int)=>zGO (P:=P) (w:=w) (a:=x) (b:=y) m g1.ty
 have k2:=fun(x y:Int)=>zGO (P:=P) (w:=w) (a:=x) (b:=y) m g2.ty
 have k3:=fun(x y:Int)=>zGO (P:=P) (w:=w) (a:=x) (b:=y) m g3.ty
 have gD:=h.st;rw[Op.equalIn];simp only[Sem.run_bind,run_underlying h1];have q0:=fun(a b c d:Int)=>zEL (w:=w) g0 #[.int .i64 a,.int .i64 b,.int .i64 c,.int .i64 d] (.int .i64 a) rfl
 have q1:=fun(a b c d:Int)=>zEL (w:=w) g1 #[.int .i64 a,.int .i64 b,.int .i64 c,.int .i64 d] (.int .i64 b) rfl
 have q2:=fun(a b c d:Int)=>zEL (w:=w) g2 #[.int .i64 a,.int .i64 b,.int .i64 c,.int .i64 d] (.int .i64 c) rfl
 have q3:=fun(a b c d:Int)=>zEL (w:=w) g3 #[.int .i64 a,.int .i64 b,.int .i64 c,.int .i64 d] (.int .i64 d) rfl
 by_cases e0:a=a'<;>by_cases e1:b=b'<;>by_cases e2:c=c'<;>by_cases e3:d=d'<;>
  simp[gD,g0.name,g1.name,g2.name,g3.name,q0,q1,q2,q3,k0,k1,k2,k3,e0,e1,e2,e3]
section
variable {P:Program}{Γ:Ctx}{E E':Env}{d:Nat}{x y:Operand}{ty:TypeId}{ps:String}{af:Array Edge}{gd:Option (Nat×Bool)}
theorem zY9{t t':TypeId}{s s':Nat}{a b c e a' b' c' e':Int}(h:zWf P t)(hx:E s=iG (.agg [I a,I b,I c,I e]))(hy:E s'=iG (.agg [I a',I b',I c',I e']))(sd:J6 d Γ.N=iI):
  Ok P Γ ⟨iG d,.binOp .eql t (.tmp s) (.tmp s') t',ty,ps,af,gd⟩ E (E.app [(d,iG (B (a==a'&&(b==b'&&(c==c'&&e==e')))))] [(d,0)]):=by
 intro S;refine zA9 _ rfl rfl (yK sd) fun A w G g9=>?_
 obtain⟨h1,h2,_⟩:=g9.ent s _ hx;obtain⟨h3,h4,_⟩:=g9.ent s' _ hy;simp only[R,RF]at h2 h4;have e1:A.eval (.tmp s)=.agg #[.int .i64 a,.int .i64 b,.int .i64 c,.int .i64 e]:=by rw[wK h1];simp[mkV,yJ,vals,h2]
 have e2:A.eval (.tmp s')=.agg #[.int .i64 a',.int .i64 b',.int .i64 c',.int .i64 e']:=by rw[wK h3];simp[mkV,yJ,vals,h4]
 have h5:(Op.equalIn 10000 t (.agg #[.int .i64 a,.int .i64 b,.int .i64 c,.int .i64 e]) (.agg #[.int .i64 a',.int .i64 b',.int .i64 c',.int .i64 e'])).run P w=_:=zSJ (w:=w) h a b c e a' b' c' e' 9998;have hg:=h.gd;simp[execOp,e1,e2,eqGuard,binOp,zHC,h5,hg]
end
end Go.Ab

namespace Go.Ab
open Go
abbrev vI(n:Int):Value:=.int .i64 n
section
variable {Γ:Ctx}{E:Env}
theorem zLY{G:Gh}{tmps:Array Value}{w w':World}(g9:Rep Γ E G tmps w){s0:Nat}{xs us:List Int}(eA:E s0=iG (L 1 I xs))(gj:us.length=xs.length)
  {b cap:Nat}{cs cs':Array Value}{e:TypeId}(h1:G.hd s0 []=.slice (iG ⟨b,0,iH⟩) xs.length cap)(h2:w.heap[b]? =iG (.cells cs e (0,0)))(h3:xs.length≤cap)(h4:cap≤maxLen)(h5:cap*1≤cs.size)(h6:G.ow b=iG (s0,[]))
  (h7:∀o,xs.length*1≤o→o<cap*1→G.lb b o=iG (iI,s0,[]))(h8:RL Γ.St G w s0 (xs.map I) [] 0 b 0 1)
  (k1:w'.heap[b]? =iG (.cells cs' e (0,0)))(k2:cs'.size=cs.size)(k3:∀b',b'≠b→w'.heap[b']? =w.heap[b']?)(k4:w'.heap.size=w.heap.size)(ko:w'.os=w.os)(kq:w'.output=w.output)(k5:∀(i:Nat) u,us[i]? =iG u→cs'[i]? =iG (vI u)):
  ∃G',Rep Γ (E.app [(s0,iG (L 1 I us))] [(s0,1)]) G' tmps w':=by
 have hm:=g9.mem;obtain⟨e1,_,_⟩:=g9.ent s0 _ eA;have gL:=hm.ow b _ h6
 let G':Gh:={ G with hd:=fun s z=>if s=s0 then(match z with
  | [i]=>(match us[i]? with
   |some u=>vI u
   |none=>G.hd s0 z)
  |_=>G.hd s0 z)else G.hd s z }
 have hB:Blk w w':=by
  intro b' cs2 e2 hb
  grind
 have gx:jB [(s0,1)] G w G' w':=by
  refine⟨fun s p ho=>?_,fun _ _ _=>rfl,fun b' o f s p hJ hl hs=>⟨hl,?_⟩,fun _ _ _ hl _=>hl,hB⟩
  ·by_cases h:s=s0
   ·subst h
    have:p=[]:=Lp (by have:=ho 1 (by simp);omega)
    grind
   grind
  ·have cU:s≠s0:=by grind
   obtain⟨y,hy⟩:=hJ;have cS:b'≠b:=by grind
   grind[yS,World.cell?]
 have gr:Mem Γ G' w':=by
  refine⟨fun s z=>?_,fun b' o l hl=>?_,fun b' l hl=>?_,fun b' x hx=>?_,fun b' h h'=>?_,by rw[k4];exact hm.sz,hm.bk.trans hB ko kq⟩
  ·show(if _ then _ else _:Value).oneCell'=iI
   split
   ·split
    ·split
     ·rfl
     ·exact hm.one _ _
    ·exact hm.one _ _
   ·exact hm.one _ _
  ·have:=hm.lb b' o l hl;exact⟨by rw[k4];exact this.1,this.2⟩
  ·have:=hm.ow b' l hl;exact⟨by rw[k4];exact this.1,this.2⟩
  ·have:b'≠b:=by rintro rfl;rw[gL.2.2]at hx;cases hx
   rw[k3 b' this];exact hm.st b' x hx
  ·have:b'≠b:=by
    rintro rfl
    rcases gL.2.1 with h0|h0
    all_goals grind
   rw[k3 b' this];exact hm.fr b' h h'
 refine⟨G',vN g9 rfl gx gr ?_ ?_⟩
 ·intro s hs
  rw[tY]at hs
  grind
 ·intro s t' hs
  rw[tY]at hs;split at hs
  ·rename_i he;subst he
   simp at hs;subst hs;refine⟨by grind[mkV],?_,by simp only[Top];exact zEc zPz us⟩;simp only[R];refine .inr ⟨b,cap,cs',e,by grind,k1,by grind,h4,by omega,h6,by grind,?_⟩;refine zKl _ [] 0 b 0 fun i x hx=>?_
   rw[K5,Ko]at hx;obtain⟨u,hu,rfl⟩:=hx;have hi:=(Js.1 hu).1;obtain⟨g1,g2,_⟩:=kA _ [] 0 b 0 1 i (I xs[i]) h8 (by simp);simp only[Jc,Ht,Loc]at g1 ⊢
   refine⟨⟨g1.1,g1.2.1,?_⟩,rfl,by simp[R,G',hu]⟩
   grind[yS,World.cell?]
  ·cases hs
def zGz(P:Program)(Γ:Ctx)(E:Env)(y:Operand)(ys:List Int):Prop:=∀(a:Act)(w:World)(G:Gh),Rep Γ E G a.tmps w→ ∃xa c,a.eval y=.slice xa ys.length c∧
 ∀(n:Nat),n≤ys.length→(Builtin.firstCells 1 n (.slice xa ys.length c)).run P w=.ok ((ys.take n).map vI).toArray w
theorem zCq{P:Program}{w:World}{b o:Nat}{cs:Array Value}{e:TypeId}{fr:Nat×Nat}(hb:w.heap[b]? =iG (.cells cs e fr))(ys:List Int)(hv:∀(i:Nat) u,ys[i]? =iG u→cs[o+i]? =iG (vI u))(n:Nat)(hn:n≤ys.length)(len cap:Nat):
  (Builtin.firstCells 1 n (.slice (iG ⟨b,o,iH⟩) len cap)).run P w=.ok ((ys.take n).map vI).toArray w:=by
 refine run_firstCells_some (P:=P) w 1 n ⟨b,o,iH⟩ len cap _ (by simp;omega) fun j v hj=>?_
 rw[K5,Ko]at hj;obtain⟨u,hu,rfl⟩:=hj
 grind[uR,World.cell?]
theorem zCB{P:Program}{w:World}{a:Option Addr}{c:Nat}:(Builtin.firstCells 1 0 (.slice a 0 c)).run P w=.ok #[] w:=by cases a<;>simp[Builtin.firstCells,loadCells,loadCellsFrom]
theorem zGz.ro{P:Program}{y:Operand}{ys:List Int}{r:Nat}{q:List Nat}(h:tP E y=iG (r,q,.ro (L 1 I ys))):zGz P Γ E y ys:=fun a w G g9=>by
 obtain⟨h1,h2⟩:=jK g9 h rfl;obtain⟨xa,c,g1,_,_,g2⟩:=zDh h1;rw[Ji]at g1;refine⟨xa,c,by rw[h2,g1],fun n hn=>?_⟩
 by_cases hy:ys=[]
 ·grind[zCB]
 ·obtain⟨b,o,cs,e,fr,rfl,g3,g4⟩:=g2 (by grind)
  refine zCq (g9.mem.st b _ g3) ys (fun i u hu=>?_) n hn _ _;have:=zGL _ cs o 1 i (I u) g4 (by simp[hu]);simp only[RoC,Ht]at this
  grind
theorem zP4{G:Gh}{w:World}{s b:Nat}{q:List Nat}{cs:Array Value}{e:TypeId}{xs:List Int}{St:Stb}(h2:w.heap[b]? =iG (.cells cs e (0,0)))(h8:RL St G w s (xs.map I) q 0 b 0 1)(i:Nat)(u:Int)(hu:xs[i]? =iG u):cs[i]? =iG (vI u):=by
 obtain⟨g1,_,g3⟩:=kA _ q 0 b 0 1 i (I u) h8 (by simp[hu]);simp only[Loc,R,Jc,Ht]at g1 g3
 grind[yS,World.cell?]
theorem zGz.sub{P:Program}{s r:Nat}{q:List Nat}{tr:T}{xs ys:List Int}{l h:Int}(hs:E s=iG (.sub r q 1 l.toNat h.toNat))(hr:E r=iG tr)(hg:tr.get q.reverse=iG (L 1 I xs))(hv:yD xs l h=iG ys):zGz P Γ E (.tmp s) ys:=fun a w G g9=>by
 obtain⟨k1,k2,k3,rfl⟩:=sU hv;obtain⟨e1,e2,_⟩:=g9.ent s _ hs;obtain⟨_,e4,_⟩:=g9.ent r _ hr;simp only[R]at e2;have h5:=(zAN q.reverse tr _ [] e4 hg).1;simp only[rp,Km,Je,R]at h5;have gj:((xs.drop l.toNat).take (h.toNat-l.toNat)).length=h.toNat-l.toNat:=by simp;omega
 rw[gj];have bW:a.eval (.tmp s)=G.hd s []:=by rw[wK e1,xU rfl]
 rcases h5 with⟨g1,ad,g2⟩|⟨b,cap,cs,e,g1,g2,g3,_,_,_,_,g8⟩
 ·have hy:xs=[]:=by simp_all
  grind[zBo,zCB]
 ·rw[Ji]at g1 g3
  refine⟨if cap=l.toNat then iG ⟨b,0,iH⟩else iG ⟨b,l.toNat,iH⟩,cap-l.toNat,by rw[bW,e2,g1];simp only[zBo,H3,uR,Jc,Ht],fun n hn=>?_⟩;split
  ·have:n=0:=by omega
   subst this;rfl
  ·refine zCq g2 _ (fun i u hu=>?_) n (by omega) _ _
   grind[zP4]
def zCC(Γ:Ctx)(E:Env)(x:Operand)(s0 lo hi:Nat):Prop:=∀(a:Act)(w:World)(G:Gh),Rep Γ E G a.tmps w→a.eval x=zBo (G.hd s0 []) 1 lo hi
theorem zCC.slot{s0:Nat}{xs:List Int}(h:E s0=iG (L 1 I xs)):zCC Γ E (.tmp s0) s0 0 xs.length:=fun a w G g9=>by obtain⟨e1,e2,_⟩:=g9.ent s0 _ h;obtain⟨ad,c,g⟩:=zKf e2;rw[Ji]at g;rw[wK e1,xU rfl,g];simp[zBo];intro;cases ad<;>simp[Addr.add]
theorem zCC.same{s s0:Nat}{xs:List Int}(hs:E s=iG (.same s0 []))(h:E s0=iG (L 1 I xs)):zCC Γ E (.tmp s) s0 0 xs.length:=fun a w G g9=>by obtain⟨e1,e2,_⟩:=g9.ent s _ hs;have:=zCC.slot h a w G g9;obtain⟨e3,_,_⟩:=g9.ent s0 _ h;simp only[R]at e2;rw[wK e3,xU rfl]at this;rw[wK e1,xU rfl,e2];exact this
theorem zCC.sub{s s0 lo hi:Nat}(hs:E s=iG (.sub s0 [] 1 lo hi)):zCC Γ E (.tmp s) s0 lo hi:=fun a w G g9=>by obtain⟨e1,e2,_⟩:=g9.ent s _ hs;simp only[R]at e2;rw[wK e1,xU rfl,e2]
end
theorem zQJ{α:Type}{xs ys:List α}{l h:Int}(hv:yD xs l h=iG ys):l.toNat≤h.toNat:=by have:=sU hv;omega
theorem zQK{α:Type}{xs ys:List α}{l h:Int}(hv:yD xs l h=iG ys):h.toNat≤xs.length:=by have:=sU hv;omega
theorem zP5{α:Type}(l z:List α)(lo i:Nat)(eB:lo+z.length≤l.length):(l.take lo++z++l.drop (lo+z.length))[i]? =if i<lo then l[i]? else if i<lo+z.length then z[i-lo]? else l[i]?:=by
 have hm:min lo l.length=lo:=by omega
 grind
def wD(xs:List Int)(lo:Nat)(zs:List Int):List Int:=xs.take lo++zs++xs.drop (lo+zs.length)
theorem zK0{P:Program}{Γ:Ctx}{E:Env}{d s0 lo hi:Nat}{x y:Operand}{ty:TypeId}{ps:String}{af:Array Edge}{gd:Option (Nat×Bool)}{t t2 e:TypeId}{ti:TypeInfo}{u:T}{xs ys:List Int}(ht:ElT P t e ti 1 u)(h0:E s0=iG (L 1 I xs))(hx:∀S,zCC (Γ.at S) E x s0 lo hi)(hy:∀S,zGz P (Γ.at S) E y ys)(h1:lo≤hi)(h2:hi≤xs.length)(sd:(J6 d Γ.N&&(s0 != d))=iI):
  Ok P Γ ⟨iG d,.call { callee:=.builtin .copy,args:=#[x,y],argTypes:=#[t,t2] },ty,ps,af,gd⟩ E ((E.app [(s0,iG (L 1 I (wD xs lo (ys.take (hi-lo)))))] [(s0,1)]).app [(d,iG (I ((min ys.length (hi-lo):Nat):Int)))] [(d,0)]):=by
 simp only[J4]at sd;have gf:s0≠d:=by grind
 intro S;refine wQ.value rfl fun a w G g9=>?_
 obtain⟨e1,e2,_⟩:=g9.ent s0 _ h0;obtain⟨xa,c,g1,g2⟩:=hy S a w G g9;have g3:=hx S a w G g9;have eG:min ys.length (hi-lo)≤ys.length:=by omega
 have g4:=g2 _ eG;have ey:ys.take (hi-lo)=ys.take (min ys.length (hi-lo)):=by grind
 rw[ey]
 generalize hn:min ys.length (hi-lo)=n at*
 have pW:(ys.take n).length=n:=by simp;omega
 have gj:(wD xs lo (ys.take n)).length=xs.length:=by grind[wD]
 have key:∃w',(Builtin.copy_ #[t,t2] ty #[a.eval x,a.eval y]).run P w=.ok (goInt n) w'∧ ∃G',Rep (Γ.at S) (E.app [(s0,iG (L 1 I (wD xs lo (ys.take n))))] [(s0,1)]) G' a.tmps w':=by
  have e2':=e2;simp only[R]at e2;rcases e2 with⟨k1,ad,k2⟩|⟨b,cap,cs,e',k1,k2,k3,k4,k5,k6,k7,k8⟩
  ·have fH:xs=[]:=by simp_all
   subst fH;simp at h2;subst h2;have aB:n=0:=by omega
   subst aB;have eB:lo=0:=by omega
   subst eB;refine⟨w,?_,G,?_⟩
   ·rw[g3,k2,g1]
    cases ad<;>cases xa<;>simp[zBo,Builtin.copy_,run_underlying ht.un,Builtin.lenOf,sizeOf,typeInfo,ht.info,Builtin.firstCells,loadCells,loadCellsFrom,storeCells]
   ·refine vN g9 rfl ⟨fun _ _ _=>rfl,fun _ _ _=>rfl,by grind,fun _ _ _ h _=>h,fun b cs e h=>⟨cs,h,rfl⟩⟩ g9.mem (fun s hs=>⟨by grind[Wr.find],rfl⟩) fun s t' hs=>?_
    rw[tY]at hs;split at hs
    ·rename_i he;subst he
     simp at hs;subst hs;simpa[wD]using g9.ent s0 _ h0
    ·cases hs
  ·rw[Ji]at k1 k3 k7
   have gy:cap≤cs.size:=by omega
   have gD:=run_storeCells_at P b lo e' ((ys.take n).map vI) 0 cs w k2 (by simp;omega) (by intro v hv;obtain⟨u,_,rfl⟩:=Jl.1 hv;rfl);simp only[Qh,Ji]at gD
   generalize eK:w.setRow b (cs.toList.take lo++(ys.take n).map vI++cs.toList.drop (lo+(ys.take n).length)).toArray=w' at gD
   have gC:cs.toList.length=cs.size:=rfl
   by_cases mh:cap=lo
   ·have aB:n=0:=by omega
    subst aB;refine⟨w,?_,G,?_⟩
    ·rw[g3,k1,g1]
     have g5:(Builtin.firstCells 1 0 (.slice xa ys.length c)).run P w=.ok #[] w:=by grind
     simp[zBo,Builtin.copy_,run_underlying ht.un,Builtin.lenOf,sizeOf,typeInfo,ht.info,ht.size,show hi-lo=0 by omega,g5,storeCells,mh]
    ·refine vN g9 rfl ⟨fun _ _ _=>rfl,fun _ _ _=>rfl,by grind,fun _ _ _ h _=>h,fun b cs e h=>⟨cs,h,rfl⟩⟩ g9.mem (fun s hs=>⟨by grind[Wr.find],rfl⟩) fun s t' hs=>?_
     rw[tY]at hs;split at hs
     ·rename_i he;subst he
      simp at hs;subst hs;simpa[wD]using g9.ent s0 _ h0
     ·cases hs
   ·refine⟨w',?_,zLY g9 h0 gj k1 k2 k3 k4 k5 k6 k7 k8 (by rw[←eK];exact setRow_heap w b cs _ e' _ k2) ?_ (by grind[setRow_other]) (by grind[size_setRow]) (by rw[←eK];rfl) (by rw[←eK];rfl) fun i v hv=>?_⟩
    ·rw[g3,k1,g1]
     have h9:Nat.min ys.length (hi-lo)=n:=hn;simp only[zBo,mh,if_false,H3,uR,Jc,Ht];simp only[Builtin.copy_];rw[Jb9]at gD;simp[run_underlying ht.un,Builtin.lenOf,sizeOf,typeInfo,ht.info,ht.size,h9,g4,gD]
    ·grind
    ·rw[wD,zP5 _ _ _ _ (by omega)]at hv
     have h11:lo+((ys.take n).map vI).length≤cs.toList.length:=by simp;omega
     have h10:=zP5 cs.toList ((ys.take n).map vI) lo i h11;rw[Ji]at h10;rw[List.getElem?_toArray,h10];have m8:=fun i u hu=>zP4 k2 k8 i u hu
     by_cases c1:i<lo
     ·grind
     ·rw[if_neg c1]at hv ⊢
      by_cases c2:i<lo+(ys.take n).length
      ·rw[if_pos c2]at hv ⊢
       rw[K5,hv];rfl
      grind
 obtain⟨w',gz,G',gn⟩:=key;refine⟨_,w',?_,_,vQ gn rfl (yK sd.1) (fun _=>vI n) (fun _=>rfl) (I n) (vI n) (by simp[mkV,Gh.put]) (by simp[R,Gh.put]) (by simp[Top])⟩;simp[execOp,resolve,invoke,builtin,gz,goInt]
end Go.Ab

namespace Go.Ab
open Go
theorem zJ4{G G':Gh}{s d:Nat}(hd:∀z,G'.hd d z=G.hd s z):(xs:List T)→yV xs=iI→ ∀(j:Nat),jV G' d (cpF s xs [] j) [] j=jV G s xs [] j
 | [],_,_=>by simp only[cpF,jV]
 |x::xs,h,j=>by
  simp only[yV,J4]at h;simp only[cpF,jV];have eh:∀ys,x≠.tup ys:=by rintro ys rfl;simp[T.okTup]at h
  have h1:=zA8 (G:=G) (G':=G') (s:=s) (d:=d) x [j] [j] eh (fun z=>hd _);have h2:∀ys,cpT s x [j]≠.tup ys:=by intro ys;cases x<;>simp[cpT]
  rw[kV _ _ _ _ h2]at h1;rw[h1,zJ4 hd xs h.2 (j+1)]
section
variable {P:Program}{Γ:Ctx}{E E':Env}{d:Nat}{x y:Operand}{ty:TypeId}{ps:String}{af:Array Edge}{gd:Option (Nat×Bool)}
theorem zXA{s:Nat}{ts:List T}(hx:E s=iG (.tup ts))(sd:(J6 d Γ.N&&yV ts&&(s != d)&&zLw [(d,0)] (cpF s ts [] 0))=iI):Ok P Γ ⟨iG d,.move (.tmp s),ty,ps,af,gd⟩ E (E.app [(d,iG (.tup (cpF s ts [] 0)))] [(d,0)]):=by
 simp only[J4]at sd;obtain⟨⟨⟨s1,s2⟩,s3⟩,s4⟩:=sd;have gf:s≠d:=by simpa using s3
 intro S;refine wQ.value rfl fun a w G g9=>?_
 obtain⟨h1,h2,_⟩:=g9.ent s _ hx;simp only[R]at h2;have hk:=G.put_keep (w:=w) (w':=w) rfl d (fun z=>G.hd s z);have hz:∀z,(G.put d (fun z=>G.hd s z)).hd d z=G.hd s z:=fun z=>by rw[Gh.put_self]
 have tz:∀(xs:List T)(j:Nat),vU (cpF s xs [] j):=by
  intro xs
  induction xs with
  |nil=>intro j;simp only[cpF,vU]
  |cons x xs ih=>intro j;simp only[cpF,vU];exact⟨qX s x _,ih _⟩
 refine⟨mkV G s (.tup ts) [],w,?_,_,vQ g9 rfl (yK s1) (fun z=>G.hd s z) (fun z=>g9.mem.one _ _) _ _ (by simp only[mkV];rw[zJ4 hz ts s2 0])
  (by simp only[R];exact zKd (fun p=>G.put_other _ p gf) ts [] [] 0 (fun z=>hz _) (wB.mono (fun r p hr=>⟨hk.hd r p hr,hk.ad r p hr⟩) _ (zHe _ (tz ts 0) s4)) h2) (by simp only[Top];exact tz ts 0)⟩
 simp[execOp,wK h1]
end
end Go.Ab

namespace Go.Ab
open Go
end Go.Ab

namespace Go.Ab
open Go
section
variable {P:Program}{Γ:Ctx}{E:Env}{d:Nat}{x:Operand}{ty:TypeId}{ps:String}{af:Array Edge}{gd:Option (Nat×Bool)}
class zWg (P:Program) (t:TypeId) (e:outParam TypeId) (ti:outParam TypeInfo) (n:outParam Nat) (k:outParam Nat):Prop where
 un:P.underlying t=iG (.array n e)
 info:P.info? e=iG ti
 size:ti.size=k
theorem zP6{t e:TypeId}{ti:TypeInfo}{n k r:Nat}{q:List Nat}{xs:List T}{u:T}(i:Nat)(ht:zWg P t e ti n k)(hx:tP E x=iG (r,q,.ptr (.agg xs)))(hu:xs[i]? =iG u)(gG:T.sizes (xs.take i)=i*k)(sd:(J6 d Γ.N&&J6 i n)=iI):
  Ok P Γ ⟨iG d,.indexAddr t x (.const (.int .i64 i)),ty,ps,af,gd⟩ E (E.app [(d,iG (.addr r (i::0::q)))] [(d,0)]):=by
 simp only[J4]at sd;have gQ:=yK sd.2;intro S;refine wQ.value rfl fun a w G g9=>?_
 obtain⟨g1,g2⟩:=jK g9 hx rfl;simp only[R]at g1;obtain⟨b,cs,e',g4,_,_,_,g5,_⟩:=g1;simp only[Loc]at g5;have g6:=zCx xs (0::q) 0 b 0 i u g5.2 hu;simp only[Jc]at g6;have g3:a.eval (.const (.int .i64 i))=.int .i64 i:=rfl;refine⟨.pointer (iG (G.ad r (i::0::q))),w,?_,_,vQ g9 rfl (yK sd.1) (fun _=>.pointer (iG (G.ad r (i::0::q)))) (fun _=>rfl) _ _ (by simp[mkV,Gh.put]) (by simp[R,Gh.put]) (by simp[Top])⟩;have gF:(i:Int)<(n:Int):=by omega
 have h0:(0:Int)≤i:=by omega
 have g7:=zBI g6;have bn:i<n:=gQ;simp[execOp,Instr.indexAt,g3,g2,g4,asIntOf,run_underlying ht.un,h0,bn,sizeOf,typeInfo,ht.info,ht.size,uR,sD,g7,gG]
end
end Go.Ab
namespace Go.Ab
open Go
theorem zAS{E:Env}{ds r s:Nat}{q:List Nat}{tr u t:T}(h:E s=iG t)(gf:(Jb5 ds s||Jb5 r s)=iJ:=by rfl)(hb:t.okB [(ds,1),(r,q.length+1)]=iI:=by rfl):opT (uF E ds r q tr u) (.tmp s)=iG t:=by
 have h1:ds≠s:=by rintro rfl;simp at gf
 have h2:r≠s:=by rintro rfl;simp at gf
 simp[opT,uF,Env.app,Wr.find,h1,h2,h,hb]
end Go.Ab
namespace Go.Ab
open Go
section
variable {P:Program}{Γ:Ctx}{pn:kG}{E E':Env}{Q Q1:Exit→Env→Prop}{c c1 c2:Code}{ops:Array Oper}{o:Oper}{os:List Oper}{id:Nat}
theorem sR(h:RW P Γ pn ops ops.toList E (wR P Γ pn c Q)):CW P Γ pn (.seq (.region id ops iJ) c) E Q:=CW.seq (CW.region h)
theorem rN(h:CW P Γ pn c E Q):RW P Γ pn ops [] E (wR P Γ pn c Q):=RW.nil h
theorem oP(h:Ok P Γ o E E')(k:RW P Γ pn ops os E' Q)(hg:o.guard=iH:=by rfl)(hp:pn.ok o.dst=iI:=by rfl):RW P Γ pn ops (o::os) E Q:=RW.op h k hg hp
def zYA(ops:List Oper):List (List Nat):=(ops.foldl (fun(acc:Array (List Nat)) o=>acc.push ((zBy o).foldl (fun l m=>m::(acc.getD m [])++l) [])) #[]).toList
theorem CW.lp{σ ρ:Type}(body:σ→Option (σ⊕ρ))(en:σ→Env)(Q1:ρ→Exit→Env→Prop){s:σ}{r:ρ}(hg:zO Γ E (en s))(h:∀s x,body s=iG x→CW P Γ pn c (en s) (uU Γ en Q1 x))(hr:zI body s=iG r)(hq:∀e E',Q1 r e E'→Q e E'):CW P Γ pn (.loop c) E Q:=
 (CW.mono (CW.loop body en Q1 h hr) hq).ghost hg
end
end Go.Ab

namespace Go.Ab
open Go Go.ChangeShapes
abbrev zLZ(w:World):Stb:=fun b=>w.heap[b]?
theorem zQL{w:World}{a:Addr}{n:Nat}{cs:List Value}(h:w.cells? 0 a n=iG cs):cs.length=n∧ ∀(i:Nat) v,cs[i]? =iG v→w.cell? (a.add i)=iG v:=by
 unfold World.cells? at h;rw[if_pos (Kg _)]at h;refine⟨by simpa using mapM_some_length h,fun i v hv=>?_⟩;have hi:i<n:=by grind[mapM_some_length,Le]
 rw[←hv];exact mapM_some_get h i i (by simp[hi])
theorem zP7{w:World}{a:Addr}{v:Value}(h:w.cell? a=iG v):a.spot=iH∧ ∃c e fr,w.heap[a.block]? =iG (.cells c e fr)∧c[a.off]? =iG v:=by
 simp only[World.cell?]at h;split at h
 all_goals simp_all
theorem zMa{b o m:Nat}:(Addr.mk b o iH).add m=⟨b,o+m,iH⟩:=by grind[Addr.add]
theorem zG0{α:Type}{Q:Nat→α→Prop}:∀(n:Nat),(∀i,i<n→ ∃x,Q i x)→ ∃xs:List α,xs.length=n∧ ∀i x,xs[i]? =iG x→Q i x
 |0,_=>by simp
 |n+1,h=>by
  obtain⟨xs,h1,h2⟩:=zG0 n fun i hi=>h i (by omega)
  obtain⟨y,hy⟩:=h n (by omega);refine⟨xs++[y],by simp[h1],fun i x hx=>?_⟩
  grind
theorem zP8{St:Stb}:(xs:List T)→ ∀(cs:Array Value)(o k:Nat),(∀i x,xs[i]? =iG x→RoC St x cs (o+i*k))→RoL St xs cs o k
 | [],_,_,_,_=>by grind[RoL]
 |x::xs,cs,o,k,h=>by
  simp only[RoL];refine⟨by simpa using h 0 x rfl,zP8 xs cs (o+k) k fun i y hy=>?_⟩;have:=h (i+1) y (by grind)
  grind
section
variable {P:Program}
def RdT(P:Program)(t:TypeId)(k:Nat){α:Type}(f:α→T)(V:α→Prop):Prop:=
 ∀{H:Type}(enc:TypeId×Value→H)(w:World)(fuel:Nat)(cs:List Value)(x:DataW H×List MemPlace),DataW.trod enc P w 0 (fun _=>iI) iI fuel t cs=iG x→
  cs.length=k→ ∃d,V d∧ ∀(A:Array Value)(o:Nat),(∀(i:Nat) v,cs[i]? =iG v→A[o+i]? =iG v)→RoC (zLZ w) (f d) A o
theorem zYB{t:TypeId}{q:IntKind}(hu:P.underlying t=iG (.int q)):RdT P t 1 (IK q) (fun n=>(Lit.int q n).wf=iI):=by intro H enc w fuel cs x h _;obtain⟨n,rfl,_,hw⟩:=DataW.trod_int hu h;exact⟨n,hw,fun A o hA=>by simp only[RoC];exact⟨by simpa using hA 0 _ rfl,rfl⟩⟩
theorem zYC{α:Type}{f:α→T}{V:α→Prop}{t e:TypeId}{k:Nat}(hu:P.underlying t=iG (.slice e))(hk:P.cellsOf e=k)(eW:0<k)(h:RdT P e k f V):
  RdT P t 1 (L k f) (fun xs=>xs.length≤maxLen∧ ∀x∈xs,V x):=by
 intro H enc w fuel cs x hx _;rcases DataW.trod_slice hu hx with⟨rfl,_⟩|⟨a,len,cap,elems,rest,n,rfl,rfl,_,_,hle,mh,dj,fx,_⟩
 ·refine⟨[],⟨by simp,by simp⟩,fun A o hA=>?_⟩
  simp only[RoC,U2,Jq];exact⟨iH,0,by simpa using hA 0 _ rfl,Jh _,by simp[maxLen],fun h=>absurd rfl h⟩
 ·subst hk
  have key:∀i,i<len→ ∃y,V y∧ ∃cs':List Value,cs'.length=P.cellsOf e∧(∀(j:Nat) v,cs'[j]? =iG v→w.cell? ((a.add (i*P.cellsOf e)).add j)=iG v)∧
    ∀(A:Array Value)(o:Nat),(∀(j:Nat) v,cs'[j]? =iG v→A[o+j]? =iG v)→RoC (zLZ w) (f y) A o:=by
   intro i hi;have h1:=fx i hi;rw[J3 (by omega)]at h1;obtain⟨cs',h2,h3⟩:=Option.bind_eq_some_iff.1 h1;obtain⟨h4,h5⟩:=zQL h2;obtain⟨y,h6,h7⟩:=h enc w n cs' _ h3 h4;exact⟨y,h6,cs',h4,h5,h7⟩
  obtain⟨xs,hxl,fH⟩:=zG0 len key;refine⟨xs,⟨by omega,fun y hy=>?_⟩,fun A o hA=>?_⟩
  ·obtain⟨i,hi,rfl⟩:=Ke.1 hy
   exact(fH i _ (J3 hi)).1
  ·simp only[RoC,Ji,hxl]
   refine⟨iG a,cap,by simpa using hA 0 _ rfl,hle,mh,fun gf=>?_⟩;have pF:0<xs.length:=by
    cases xs with
    |nil=>simp at gf
    |cons _ _=>simp
   obtain⟨_,cs0,g1,g2,_⟩:=fH 0 _ (J3 pF);have hz:a.add (0*P.cellsOf e)=a:=by simp[Addr.add]
   have g3:=g2 0 cs0[0] (J3 (by omega));rw[hz,show a.add 0=a from by simp[Addr.add]]at g3;obtain⟨mR,c,e',fr,hb,_⟩:=zP7 g3;obtain⟨b,off,sp⟩:=a;simp only at mR hb;subst mR;refine⟨b,off,c,e',fr,rfl,hb,zP8 _ _ _ _ fun i y hy=>?_⟩;rw[K5,Ko]at hy;obtain⟨z,mG,rfl⟩:=hy;obtain⟨_,cs',g1',g2',g4⟩:=fH i z mG;refine g4 c _ fun j v hv=>?_
   have:=g2' j v hv;rw[zMa,zMa]at this;obtain⟨_,c2,e2,fr2,pV,fY⟩:=zP7 this;simp only at pV fY;rw[hb]at pV;cases pV;exact fY
theorem zK1{H:Type}{enc:TypeId×Value→H}{w:World}{t:TypeId}{fs:Array Field}{fuel:Nat}{cs:List Value}{x:DataW H×List MemPlace}(hu:P.underlying t=iG (.struct fs))(h:DataW.trod enc P w 0 (fun _=>iI) iI fuel t cs=iG x)
  {i j k:Nat}{f:Field}(hf:fs[i]? =iG f)(hj:f.offset=j)(hk:P.cellsOf f.type=k):∃n y,DataW.trod enc P w 0 (fun _=>iI) iI n f.type ((cs.drop j).take k)=iG y:=by
 obtain⟨xs,n,_,_,_,gj,fx⟩:=DataW.trod_struct hu h
 grind
end
def zQM(v:Value):Value:=if v.oneCell' then v else .bool iJ
theorem zMb(v:Value):(zQM v).oneCell'=iI:=by unfold zQM;split;assumption;rfl
theorem zK2{v:Value}(h:v.oneCell'=iI):zQM v=v:=by simp[zQM,h]
def hd0(vs:Array Value)(s:Nat)(p:List Nat):Value:=
 match vs[s]?,p with
 |some (.agg cs),[j]=>zQM (cs[j]?.getD (.bool iJ))
 |some v,[]=>zQM v
 |_,_=>.bool iJ
def G0(vs:Array Value):Gh:={ hd:=hd0 vs,ad:=fun _ _=>default,lb:=fun _ _=>iH,ow:=fun _=>iH }
theorem yCc(w:World)(vs:Array Value):Mem ⟨zLZ w,fun _=>False,w,0⟩ (G0 vs) w where
 one s p:=by
  simp only[G0,hd0];split
  ·exact zMb _
  ·exact zMb _
  ·rfl
 lb b o l h:=by grind[G0]
 ow b l h:=by grind[G0]
 st b x h:=h
 fr b _ _:=rfl
 sz:=Jh _
 bk:=⟨fun b cs e h=>⟨cs,h,rfl⟩,rfl,rfl⟩
def RdA(P:Program)(t:TypeId){α:Type}(u:α→T)(V:α→Prop):Prop:=
 ∀{H:Type}(enc:TypeId×Value→H)(w:World)(base fuel:Nat)(v:Value)(x:DataW H×List MemPlace),DataW.trod enc P w 0 (fun _=>iI) iI fuel t v.cells.toList=iG x→
  Value.okWide P w .any base t v→ ∃d,V d∧ ∀(vs:Array Value)(s:Nat),vs[s]? =iG v→iG v=iG (mkV (G0 vs) s (u d) [])∧R (zLZ w) (G0 vs) w s (u d) []
def RdC(P:Program)(t:TypeId){α:Type}(u:α→T)(V:α→Prop):Prop:=
 ∀{H:Type}(enc:TypeId×Value→H)(w:World)(fuel:Nat)(c:Value)(x:DataW H×List MemPlace),DataW.trod enc P w 0 (fun _=>iI) iI fuel t [c]=iG x→
  ∃d,V d∧c.oneCell'=iI∧ ∀(G:Gh)(s:Nat)(p:List Nat),G.hd s p=c→vals G s (u d) p=[c]∧R (zLZ w) G w s (u d) p
section
variable {P:Program}
theorem zYD{t:TypeId}{q:IntKind}(hu:P.underlying t=iG (.int q)):RdC P t (IK q) (fun n=>(Lit.int q n).wf=iI):=by intro H enc w fuel c x h;obtain⟨n,h1,_,hw⟩:=DataW.trod_int hu h;simp only[Ja3.injEq,and_true]at h1;subst h1;exact⟨n,hw,rfl,by grind[vals,R]⟩
theorem yAk{α:Type}{f:α→T}{V:α→Prop}{t:TypeId}(h:RdT P t 1 f V)(h1:∀{H:Type}(enc:TypeId×Value→H)(w:World)(fuel:Nat)(c:Value)(x:DataW H×List MemPlace),DataW.trod enc P w 0 (fun _=>iI) iI fuel t [c]=iG x→c.oneCell'=iI):
  RdC P t (fun x=>T.ro (f x)) V:=by
 intro H enc w fuel c x hx;obtain⟨d,g1,g2⟩:=h enc w fuel [c] x hx rfl
 grind[vals,R]
theorem zWh{α:Type}{f:α→T}{V:α→Prop}{t e:TypeId}{k:Nat}(hu:P.underlying t=iG (.slice e))(hk:P.cellsOf e=k)(eW:0<k)(h:RdT P e k f V):RdC P t (fun xs=>T.ro (L k f xs)) (fun xs=>xs.length≤maxLen∧ ∀x∈xs,V x):=
 yAk (zYC hu hk eW h) fun enc w fuel c x hx=>by
  rcases DataW.trod_slice hu hx with⟨h1,_⟩|⟨a,len,cap,_,_,_,_,h1,_⟩<;>
  ·simp only[Ja3.injEq,and_true]at h1
   subst h1;rfl
theorem zWi{α:Type}{u:α→T}{V:α→Prop}{t:TypeId}(hs:∀x,(u x).single=iI∧ ∀G s,mkV G s (u x) []=G.hd s [])(h:RdC P t u V)
  (hv:∀{w:World}{base:Nat}{v:Value},Value.okWide P w .any base t v→v.oneCell'=iI):RdA P t u V:=by
 intro H enc w base fuel v x hx gB;have h1:v.cells.toList=[v]:=by have:=hv gB;cases v<;>simp_all [Value.oneCell',Value.cells]
 rw[h1]at hx;obtain⟨d,g1,g2,g3⟩:=h enc w fuel v x hx;refine⟨d,g1,fun vs s cG=>?_⟩;have gH:(G0 vs).hd s []=v:=by simp only[G0,hd0,cG];cases v<;>first|rfl|grind[Value.oneCell']
 grind
theorem zIS{w:World}{base:Nat}{t:TypeId}{fs:Array Field}{v:Value}(hu:P.underlying t=iG (.struct fs))(h:Value.okWide P w .any base t v):∃cs,v=.agg cs∧cs.size=P.cellsOf t:=by grind[Value.okWide]
theorem zXB{α β γ δ:Type}{ua:α→T}{ub:β→T}{uc:γ→T}{Va:α→Prop}{Vb:β→Prop}{Vc:γ→Prop}{t:TypeId}{f0 f1 f2:Field}(mk:α→β→γ→δ){u:δ→T}{V:δ→Prop}
  (hu:P.underlying t=iG (.struct #[f0,f1,f2]))(hc:P.cellsOf t=3)(h0:f0.offset=0∧P.cellsOf f0.type=1)(h1:f1.offset=1∧P.cellsOf f1.type=1)(h2:f2.offset=2∧P.cellsOf f2.type=1)
  (ra:RdC P f0.type ua Va)(rb:RdC P f1.type ub Vb)(rc:RdC P f2.type uc Vc)(hmk:∀a b c,u (mk a b c)=T.agg [ua a,ub b,uc c])(hV:∀a b c,Va a→Vb b→Vc c→V (mk a b c)):RdA P t u V:=by
 intro H enc w base fuel v x hx gB;obtain⟨cs,rfl,gy⟩:=zIS hu gB;obtain⟨l,rfl⟩:∃l:List Value,cs=l.toArray:=⟨cs.toList,by simp⟩;rw[hc,Jbl]at gy;obtain⟨c0,c1,c2,rfl⟩:∃a b c,l=[a,b,c]:=by
  match l,gy with
  | [a,b,c],_=>simp
 simp only[Value.cells]at hx;obtain⟨n0,y0,g0⟩:=zK1 hu hx (i:=0) rfl h0.1 h0.2;obtain⟨n1,y1,g1⟩:=zK1 hu hx (i:=1) rfl h1.1 h1.2;obtain⟨n2,y2,g2⟩:=zK1 hu hx (i:=2) rfl h2.1 h2.2;simp only[List.drop_succ_cons,Ge,Lf,Ka]at g0 g1 g2;obtain⟨a,a1,a2,a3⟩:=ra enc w n0 c0 _ g0;obtain⟨b,b1,b2,b3⟩:=rb enc w n1 c1 _ g1;obtain⟨c,e1,e2,e3⟩:=rc enc w n2 c2 _ g2;refine⟨mk a b c,hV a b c a1 b1 e1,fun vs s cG=>?_⟩;have k0:(G0 vs).hd s [0]=c0:=by simp[G0,hd0,cG,zK2 a2]
 have k1:(G0 vs).hd s [1]=c1:=by simp[G0,hd0,cG,zK2 b2]
 have k2:(G0 vs).hd s [2]=c2:=by simp[G0,hd0,cG,zK2 e2]
 rw[hmk];simp only[mkV,yJ,(a3 _ _ _ k0).1,(b3 _ _ _ k1).1,(e3 _ _ _ k2).1,K6,Jv,R,RF]
 simp_all
end
theorem FnC.top{P:Program}{f:FuncId}{us:List T}(h:FnC P f us [B iI] []){w:World}{vs:Array Value}(gy:vs.size=us.length)
  (ha:∀(i:Nat) u,us[i]? =iG u→vs[i]? =iG (mkV (G0 vs) i u [])∧R (zLZ w) (G0 vs) w i u []):
  Calls P f vs w fun e w'=>e=.returned (.bool iI)∧w'.os=w.os∧w'.output=w.output∧w.heap.size≤w'.heap.size∧ ∀b,b<w.heap.size→w'.heap[b]? =w.heap[b]?:=by
 refine(h (zLZ w) (fun _=>False) w (G0 vs) vs gy (fun i u hu=>?_) (yCc w vs)).mono fun e w'=>?_
 ·obtain⟨h1,h2⟩:=ha i u hu
  refine⟨?_,h2⟩;rw[h1]
 ·rintro⟨S',G',nd,_,he,hm,cO,hr,_,_⟩
  match nd,cO with
  | [(s,p,t)],cO=>
   simp only[Jn,U2,Ja3.injEq,and_true]at cO;subst cO;have:=(hr (s,p,B iI) (by simp)).1;simp only[R]at this;exact⟨by rw[he];simp only[zLD,sQ,this],hm.bk.os,hm.bk.out,hm.sz,fun b hb=>hm.fr b hb (fun h=>h)⟩
theorem zDJ{H:Type}{enc:TypeId×Value→H}{P:Program}(hl:laidOutB P=iI){W W':World}{sp:Nat→Bool}:∀{ts:List TypeId}{vs:List Value}{ds:List (DataW H)}{ps:List MemPlace},(∀t∈ts,P.readableRec t=iI∧t<P.types.size)→
  DataW.TrodAll enc P W 0 (fun _=>iI) iI ts vs ds ps→(∀p∈ps,W.sameAt W' p)→(∀p∈ps,sp p.block=iI)→DataW.TrodAll enc P W' 0 sp iI ts vs ds ps
 | [],[],[],_,_,h,_,_=>h
 |t::ts,v::vs,d::ds,ps,hr,h,h1,h2=>by
  obtain⟨p,q,g1,g2,rfl⟩:=h;exact⟨p,q,by grind[Go.WideElems.Trod_stays],
   zDJ hl (by grind) g2 (by grind) (by grind),rfl⟩
 | [],_::_,_,_,_,h,_,_| [],[],_::_,_,_,h,_,_|_::_,[],_,_,_,h,_,_|_::_,_::_,[],_,_,h,_,_=>h.elim
theorem zNT{C:Checked}{os:Os}(own:ownKnob C.prog.godebug=iH)(started:os.Started){f:FuncId}{fn:Func}(noInit:C.prog.inits.idxOf? f=iH)(ii:C.prog.funcs[f]? =iG fn){H:Type}{enc:TypeId×Value→H}{s:ChangeSpec}{conds:List PathCond}{apart fresh handsOn again:Bool}
  (witness:∃(w:World)(tape:Tape)(i:Input),w.os=os∧(w.forCall tape i).Shaped C.prog∧i.vars=[]∧Input.okWide C.prog (w.forCall tape i) .any w.heap.size f i∧
   s.pre6 enc C.prog fn conds apart (w.forCall tape i).memory i.args∧Assume.holds {} C.prog (lone (Frame.enter C.prog f i.args .normal) [] (w.forCall tape i)))
  (hs:∀(l:List (DataW H)),l.length=fn.params.size→(s.fn H l).results=[.lit (.bool iI)]∧(s.fn H l).args=l∧(s.fn H l).vars=[])(mm:s.vars=[]){tb:TypeId}(ff:fn.resultTypes= #[tb])(hb:C.prog.underlying tb=iG .bool)
  (laid:laidOutB C.prog=iI)(hread:fn.params.toList.all (fun t=>C.prog.readableRec t&&decide (t<C.prog.types.size))=iI)
  (law:∀(W:World)(base:Nat)(args:Array Value)(ds:List (DataW H))(p:List MemPlace),(∀(j:Nat) t v,fn.params[j]? =iG t→args[j]? =iG v→Value.okWide C.prog W .any base t v)→
   DataW.TrodAll enc C.prog W 0 (fun _=>iI) iI fn.params.toList args.toList ds p→
   ∃us:List T,args.size=us.length∧FnC C.prog f us [B iI] []∧ ∀(i:Nat) u,us[i]? =iG u→args[i]? =iG (mkV (G0 args) i u [])∧R (zLZ W) (G0 args) W i u []):
  ReturnsInHanded {} C os f .any (s.pre6 enc C.prog fn conds apart) (s.post enc C.prog fn apart fresh handsOn again):=by
 refine returnsInHanded_of_change (C:=C) own started noInit ii witness ?_;intro W base args ds gs before hval hW _ _;have hW':=hW;obtain⟨p,q,hA,hV,hbq,hfz,cO⟩:=hW;obtain⟨us,h1,h2,h3⟩:=law W base args ds p hval hA;have hl:ds.length=fn.params.size:=by
  have:∀{ts:List TypeId}{vs:List Value}{ds:List (DataW H)}{p:List MemPlace},DataW.TrodAll enc C.prog W 0 (fun _=>iI) iI ts vs ds p→ds.length=ts.length:=by
   intro ts
   induction ts with
   |nil=>intro vs ds p h;cases vs<;>cases ds<;>first|rfl|exact h.elim
   |cons t ts ih=>intro vs ds p h;cases vs<;>cases ds<;>first|exact h.elim|(obtain⟨_,_,_,g,_⟩:=h;simp[ih g])
  grind
 rw[mm]at hV;have hq:gs=[]∧q=[]:=by
  cases gs with
  |nil=>exact⟨rfl,hV⟩
  |cons _ _=>exact hV.elim
 obtain⟨rfl,rfl⟩:=hq;have gF:=hW'.lt;refine(h2.top h1 h3).mono fun e w' ⟨he,ho,hq,gy,hh⟩=>⟨_,he,?_⟩
 have ef:∀p∈before,W.sameAt w' p:=fun p hp=>by
  have:=gF p hp;cases p with
  |cell b off=>simp only[World.sameAt,World.cell?,hh b this]
  |map b=>exact hh b this
 obtain⟨k1,k2,k3⟩:=hs ds hl;have hbp:before=p:=by grind
 subst hbp;have gA:∀t∈fn.params.toList,C.prog.readableRec t=iI∧t<C.prog.types.size:=by grind
 have gk:∀(b:Nat)(sp:Nat→Bool)(hd:Bool),DataW.TrodAll enc C.prog w' b sp hd fn.resultTypes.toList ((Value.bool iI).resultList fn.resultTypes.size) (s.fn H (ds++[])).results []:=fun b sp hd=>by rw[ff,Je,k1];exact⟨[],[],⟨1,by simp[DataW.trod,hb,Value.cells]⟩,⟨rfl,rfl⟩⟩
 have gc:∀sp:Nat→Bool,(∀p∈before,sp p.block=iI)→DataW.TrodAll enc C.prog w' 0 sp iI fn.params.toList args.toList (s.fn H (ds++[])).args before:=fun sp mR=>by rw[Je,k2];exact zDJ laid gA hA ef mR
 have tg:∀sp:Nat→Bool,DataW.TrodVars enc C.prog w' sp s.vars (s.fn H (ds++[])).vars []:=fun sp=>by rw[mm,Je,k3];rfl
 have gI:∀p∈before,(fun b=>decide (b<W.heap.size)) p.block=iI:=by grind
 have br:∀p∈before,∀o,w'.frozen? ⟨p.block,o,iH⟩=W.frozen? ⟨p.block,o,iH⟩:=fun p hp o=>by simp only[World.frozen?,hh _ (gF p hp)]
 refine⟨ds,[],before,[],before,[],hW',gk _ _ _,gc _ gI,tg _,⟨ho,hq,fun i hi=>?_⟩,fun _=>⟨fun j t r hj hr=>?_,_,_,([]++before)++[],⟨[]++before,[],trodAll_append (gc _ (fun _ _=>rfl)) (gk _ _ _),tg _,rfl,fun b off hp=>?_,fun ha=>?_⟩,fun p hp _=>?_⟩⟩
 ·rw[hh i hi]
  cases hx:W.heap[i]? with
  |none=>rfl
  |some o=>cases o<;>simp
 ·rw[ff]at hj hr
  match j,hj,hr with
  |0,hj,hr=>
   simp[Value.resultList]at hj hr;subst hj;subst hr;simp[Value.okWide,hb,Cell.okWide,Cell.ok]
 ·have cY:MemPlace.cell b off∈before:=by grind
  exact(br _ cY off).trans (hfz b off cY)
 ·grind
 grind
end Go.Ab

namespace Go.Ab
open Go
def jX(hs:List Nat)(E:Env):Prop:=∀s,hs.contains s=iI→ ∃t,E s=iG t∧zBj t=iI
def zYE(hs:List Nat)(z:Nat×Option T):Bool:=!hs.contains z.1||match z.2 with
 |some t=>zBj t
 |none=>iJ
def wrS(hs:List Nat)(X:Stp):Bool:=X.l.all fun y=>y.1.all (zYE hs)
theorem zMc{s:Nat}{x:Option T}:∀{wr:Wr},wr.find s=iG x→(s,x)∈wr
 | [],h=>by grind[Wr.find]
 |(k,y)::wr,h=>by
  simp only[Wr.find]at h;split at h
  ·grind
  ·exact Gi _ (zMc h)
theorem jX.apps{hs:List Nat}:∀(l:zEF)(E:Env),jX hs E→(l.all fun y=>y.1.all (zYE hs))=iI→jX hs (E.apps l)
 | [],_,h,_=>h
 |x::l,E,h,hw=>by
  simp only[Q7,J4]at hw;refine jX.apps l (E.app x.1 x.2) (fun s gJ=>?_) hw.2;obtain⟨t,he,ht⟩:=h s gJ;unfold Env.app;cases hf:x.1.find s with
  |some y=>
   have h1:=Ki.1 hw.1 _ (zMc hf);simp only[zYE,gJ,Jo,Bool.false_or]at h1
   grind
  |none=>grind[tE]
theorem jX.runD{hs:List Nat}:∀(l:List (Bool×Stp))(E:Env),jX hs E→(∀y∈l,wrS hs y.2=iI)→jX hs (runD E l)
 | [],_,h,_=>h
 |(b,X)::l,E,h,hw=>by
  simp only[Go.Ab.runD];refine jX.runD l _ ?_ fun y hy=>hw y (by simp[hy])
  cases b with
  |true=>exact jX.apps X.l E h (hw (iI,X) (by simp))
  |false=>exact h
section
variable {P:Program}{Γ:Ctx}{pn:kG}{E E':Env}{Q:Exit→Env→Prop}{ops:Array Oper}{o:Oper}{os:List Oper}{id:Nat}{wr:Wr}{chg:Chg}{hs:List Nat}
def zHE(P:Program)(Γ:Ctx)(pn:kG)(ops:Array Oper)(o:Oper)(E E':Env):Prop:=
 ∀(a:Act)(w:World)(K:Act→World→Prop)(Q:Exit→Act→World→Prop),pn.Hold a→jJ Γ E a w→(∀a' w',jJ Γ E' a' w'→(∀s,o.dst≠iG s→a'.tmps[s]? =a.tmps[s]?)→K a' w')→
  if Region.wanted o (yielded ops a.tmps)then o.wp P a w K Q∨(o.asks P a w∧LetsOut Q)else K (a.put o.dst undef) w
def vV(P:Program)(Γ:Ctx)(pn:kG)(hs:List Nat)(ops:Array Oper):List Oper→List Stp→Prop
 | [],[]=>True
 |o::os,X::Xs=>(∀E:Env,E.Has X.rd→jX hs E→zHE P Γ pn ops o E (E.apps X.l))∧vV P Γ pn hs ops os Xs
 |_,_=>False
theorem vV.get:∀(os:List Oper)(Xs:List Stp),vV P Γ pn hs ops os Xs→os.length=Xs.length∧ ∀(i:Nat)(o:Oper)(X:Stp),os[i]? =iG o→Xs[i]? =iG X→ ∀E:Env,E.Has X.rd→jX hs E→zHE P Γ pn ops o E (E.apps X.l)
 | [],[],_=>by simp
 |o::os,X::Xs,h=>by
  obtain⟨h1,h2⟩:=vV.get os Xs h.2;refine⟨by simp[h1],fun i o' X' ho hX=>?_⟩;cases i with
  |zero=>simp at ho hX;subst ho hX;exact h.1
  |succ i=>exact h2 i o' X' (by simpa using ho) (by simpa using hX)
 | [],_::_,h=>by simp[vV]at h
 |_::_,[],h=>by simp[vV]at h
theorem vV.snoc{X:Stp}:∀(os:List Oper)(Xs:List Stp),vV P Γ pn hs ops os Xs→(∀E:Env,E.Has X.rd→jX hs E→zHE P Γ pn ops o E (E.apps X.l))→vV P Γ pn hs ops (os++[o]) (Xs++[X])
 | [],[],_,h=>⟨h,trivial⟩
 |_::os,_::Xs,h1,h=>⟨h1.1,vV.snoc os Xs h1.2 h⟩
 | [],_::_,h,_=>by simp[vV]at h
 |_::_,[],h,_=>by simp[vV]at h
theorem qD.snoc{X:Stp}:∀(Xs:List Stp)(E:Env),qD E Xs→(runD E (Xs.map fun y=>(iI,y))).Has X.rd→qD E (Xs++[X])
 | [],_,_,h=>⟨by grind[runD],trivial⟩
 |_::Xs,_,h1,h=>⟨h1.1,qD.snoc Xs _ h1.2 (by simpa[runD]using h)⟩
theorem zK3{E0:Env}{eA:List Nat}{Xs:List Stp}{an:List (List Nat)}{Q':Exit→Act→World→Prop}(hf:zAR 0 ops.toList=iI)(ha:zAv an an ops.toList=iI)(hp:kH Xs 0 an Xs=iI)
  (gD:vV P Γ pn eA ops ops.toList Xs)(hI:jX eA E0)(hw:Xs.all (wrS eA)=iI)(hh:qD E0 Xs)(ap:ops.toList.all (fun o=>pn.ok o.dst)=iI)(hQ:∀a' w',jJ Γ (runD E0 (Xs.map fun y=>(iI,y))) a' w'→pn.Hold a'→Q' .normal a' w'):
  ∀(fuel:Nat)(L:List Bool)(a:Act)(w:World),L.length=ops.size→L.count iJ=fuel→zS4 ops L→jJ Γ (runD E0 (L.zip Xs)) a w→pn.Hold a→wpAny P .any ops Q' fuel L.toArray a w:=by
 obtain⟨gj,mp⟩:=vV.get _ _ gD;have mB:Xs.length=ops.size:=by grind
 intro fuel
 induction fuel with
 |zero=>
  intro L a w hL hcnt gC hs fQ;have pP:∀b∈L,b=iI:=by grind
  have iE:L=J1 ops.size iI:=by rw[←hL];exact List.eq_replicate_iff.2 ⟨rfl,pP⟩
  refine⟨?_,?_⟩
  ·apply List.eq_nil_iff_forall_not_mem.2
   intro j hj;obtain⟨h1,o,ho,_⟩:=mem_ready.1 hj;have gF:=(L5.1 ho).1;rw[iE]at h1;simp[gF]at h1
  ·refine hQ a w ?_ fQ
   have:L.zip Xs=Xs.map fun y=>(iI,y):=by
    rw[iE,←mB]
    clear hs hL iE pP hcnt gC gD hw hh hp gj mB mp hQ
    induction Xs with
    |nil=>rfl
    |cons X Xs ih=>simp[Ju,ih]
   grind
 |succ fuel ih=>
  intro L a w hL hcnt gC hs fQ;refine⟨fun hr=>?_,fun i hi=>?_⟩
  ·
   exfalso
   have cP:∃m:Nat,L[m]? =iG iJ:=by
    have:iJ∈L:=by grind
    grind[Ja6]
   obtain⟨m,hm,eG⟩:=zDG cP;have hmlt:=(Js.1 hm).1;have dc:ops[m]? =iG ops[m]:=by simp
   have:m∈Region.ready .any ops L.toArray:=by
    refine mem_ready.2 ⟨by simp_all,ops[m],dc,fun e he hb=>?_⟩;have hpm:e.on∈zBy ops[m]:=by
     simp only[zBy,Jl,Jbe]
     grind
    have gF:=zGN ops.toList 0 m _ hf (by simp) _ hpm;rw[Jc]at gF;cases hL1:L[e.on]? with
    |none=>grind
    |some b=>
     cases b with
     |false=>grind
     |true=>simp_all
   grind
  ·obtain⟨h1,o,ho,pP⟩:=mem_ready.1 hi
   have gF:=(L5.1 ho).1;have hLi:L[i]? =iG iJ:=by simp_all
   have cv:∀m∈zBy o,L[m]? =iG iI:=by
    intro m hm;simp only[zBy,Jl,Jbe]at hm;obtain⟨e,⟨he,hb⟩,rfl⟩:=hm;have:=pP e (by grind) hb;cases hL1:L[e.on]? with
    |none=>grind
    |some b=>simp_all
   have hanc:=zH4 hf ha gC i i (Jh _) o ho cv;have t6:Xs[i]? =iG Xs[i]:=by simp
   generalize hXe:Xs[i]=X at t6
   have aG:∀(j:Nat)(Y:Stp),Xs[j]? =iG Y→i<j→L[j]? =iG iI→X.apart Y=iI:=by
    intro j Y hY gO hj;rcases zFE Xs Xs 0 an j Y hp hY i X (by omega) t6 with h|h
    ·have hjlt:=(Js.1 hY).1
     have hoj:ops[j]? =iG ops[j]:=by simp
     have:=zH4 hf ha gC j j (Jh _) _ hoj (gC j _ hoj hj) i h
     grind
    ·exact h
   have bv:∀(j:Nat)(Y:Stp),Xs[j]? =iG Y→j<i→L[j]? =iG iJ→Y.apart X=iI:=by grind[zFE]
   have pE:∀y∈(L.take i).zip (Xs.take i),∃j:Nat,j<i∧L[j]? =iG y.1∧Xs[j]? =iG y.2:=by
    intro y hy;obtain⟨j,g1,g2⟩:=zKw hy;rw[Jcd]at g1 g2
    grind
   have mw:∀y∈(L.drop (i+1)).zip (Xs.drop (i+1)),∃j:Nat,i<j∧L[j]? =iG y.1∧Xs[j]? =iG y.2:=by
    intro y hy;obtain⟨j,g1,g2⟩:=zKw hy;rw[Hi]at g1 g2
    grind
   have mR:=zJ0 hLi t6;have ib:(runD E0 (L.zip Xs)).Has X.rd:=by
    rw[mR,kX];simp only[runD,Hx,if_false];have h0:=qD.get Xs E0 hh i X t6;refine h0.of fun s t gD eA=>?_
    have hsm:s∈X.rd.map (·.1):=by grind
    refine zJz _ _ (fun y hy hb=>?_) ?_
    ·obtain⟨j,g1,g2,g3⟩:=mw y hy
     have:=Stp.apart_spec (aG j y.2 g3 g1 (by rw[g2,hb]));exact⟨by grind,by grind⟩
    ·have hmp:((L.take i).zip (Xs.take i)).map (fun y=>(iI,y.2))=(Xs.take i).map fun y=>(iI,y):=by
      have aH:(L.take i).length=(Xs.take i).length:=by simp;omega
      rw[show(fun y:Bool×Stp=>(iI,y.2))=(fun y=>(iI,y))∘Prod.snd from rfl,←Jah,List.map_snd_zip (by omega)]
     refine zJy _ E0 E0 (fun y hy hb gJ=>?_) (fun _ h=>h) t (by grind);obtain⟨j,g1,g2,g3⟩:=pE y hy;have:=Stp.apart_spec (bv j y.2 g3 g1 (by rw[g2,hb]))
     grind
   have hnext:runD E0 ((L.set i iI).zip Xs)=(runD E0 (L.zip Xs)).apps X.l:=by
    have hLs:(L.set i iI)[i]? =iG iI:=by grind
    rw[zJ0 hLs t6,mR,kX,kX];simp only[runD,if_true,Hx,if_false,List.take_set_of_le (Jh i),List.drop_set_of_lt (Nat.lt_succ_self i)];refine zFD _ X _ fun y hy hb=>?_
    obtain⟨j,g1,g2,g3⟩:=mw y hy;exact(Stp.apart_spec (by grind)).1
   have dJ:=mp i o X (by grind) t6 _ ib (jX.runD (L.zip Xs) E0 hI fun y hy=>Ki.1 hw _ (by obtain⟨j,_,g⟩:=zKw hy;grind));unfold wpOp;simp only[ho];refine dJ a w _ Q' fQ hs fun a' w' gJ br=>?_
   rw[List.setIfInBounds_toArray];have gB:pn.ok o.dst=iI:=by grind
   refine ih (L.set i iI) a' w' (by simp[hL]) (by grind) ?_ (by grind) (fQ.frame gB br);intro k ok hk hkt m hm
   by_cases hki:k=i
   ·subst hki
    rw[ho]at hk;simp at hk;subst hk;rw[Jbm];split
    ·grind
    grind
   ·rw[Qa (Ne.symm hki)]at hkt
    rw[Jbm];split
    ·grind
    ·exact gC k ok hk hkt m hm
theorem CW.drawnI{eA:List Nat}{id:Nat}{E:Env}{Q:Exit→Env→Prop}(Xs:List Stp)(an:List (List Nat))(hm:P.follows .mixedOrders=iI)(gD:vV P Γ pn eA ops ops.toList Xs)(hI:jX eA E)(hw:Xs.all (wrS eA)=iI)(hh:qD E Xs)
  (hQ:Q .normal (runD E (Xs.map fun y=>(iI,y))))(hf:zAR 0 ops.toList=iI:=by rfl)(ha:zAv an an ops.toList=iI:=by rfl)(hp:kH Xs 0 an Xs=iI:=by rfl)
  (ap:ops.toList.all (fun o=>pn.ok o.dst)=iI:=by rfl):CW P Γ pn (.region id ops iI) E Q:=by
 intro a w Q' hs fQ hQ';refine wp_region_any hm ?_;have gJ:jJ Γ E a { w with drawn:=w.drawn+1 }:=by obtain⟨S,hS,gR,G,hr⟩:=hs;exact⟨S,hS,gR,G,hr.heap rfl⟩
 have:=zK3 (P:=P) (Γ:=Γ) (pn:=pn) (E0:=E) (Q':=Q') hf ha hp gD hI hw hh ap (by grind) ops.size (J1 ops.size iJ) a { w with drawn:=w.drawn+1 } (by simp) (by simp)
  (fun i o ho hi=>by
   grind) (by
   have:runD E ((J1 ops.size iJ).zip Xs)=E:=by
    generalize ops.size=n
    clear gD hI hw hh hQ hf ha hp gJ
    induction n generalizing Xs with
    |zero=>simp[runD]
    |succ n ih=>
     cases Xs with
     |nil=>simp[runD]
     |cons X Xs=>simpa[Ju,runD]using ih Xs
   grind) fQ
 grind
def DK(P:Program)(Γ:Ctx)(pn:kG)(ops:Array Oper)(id:Nat)(hs:List Nat)(E0:Env)(Q:Exit→Env→Prop)(os:List Oper)(E:Env)(acc:List Stp):Prop:=
 ∀don,don++os=ops.toList→vV P Γ pn hs ops don acc.reverse→qD E0 acc.reverse→E=runD E0 (acc.reverse.map fun y=>(iI,y))→CW P Γ pn (.region id ops iI) E0 Q
variable {E0:Env}{acc:List Stp}
theorem CW.dk(h:DK P Γ pn ops id [] E Q ops.toList E []):CW P Γ pn (.region id ops iI) E Q:=h [] rfl trivial trivial rfl
theorem CW.dkS(hs:List Nat)(h:DK P Γ pn ops id hs E Q ops.toList E []):CW P Γ pn (.region id ops iI) E Q:=h [] rfl trivial trivial rfl
theorem dGP(rd:List (Nat×T))(l:zEF)(gA:E.Has rd)(gD:∀E':Env,E'.Has rd→jX hs E'→zHE P Γ pn ops o E' (E'.apps l))(k:DK P Γ pn ops id hs E0 Q os (E.apps l) (⟨rd,l⟩::acc)):DK P Γ pn ops id hs E0 Q (o::os) E acc:=by
 intro don hd hso hh hE;subst hE;have hr:=fun X=>Ul (a:=X) (as:=acc)
 refine k (don++[o]) (by simp[hd]) ?_ ?_ ?_
 ·grind[vV.snoc]
 ·grind[qD.snoc]
 ·rw[hr,L8,kX];rfl
theorem dGS(rd:List (Nat×T))(l:zEF)(gA:E.Has rd)(gD:∀E':Env,E'.Has rd→jX hs E'→zW P Γ ops o E' (E'.apps l))(k:DK P Γ pn ops id hs E0 Q os (E.apps l) (⟨rd,l⟩::acc)):DK P Γ pn ops id hs E0 Q (o::os) E acc:=
 dGP rd l gA (fun E' h h' a w K Q _=>gD E' h h' a w K Q) k
theorem dG(rd:List (Nat×T))(l:zEF)(gA:E.Has rd)(gD:∀E':Env,E'.Has rd→zW P Γ ops o E' (E'.apps l))(k:DK P Γ pn ops id hs E0 Q os (E.apps l) (⟨rd,l⟩::acc)):DK P Γ pn ops id hs E0 Q (o::os) E acc:=
 by grind[dGS]
def zSK(hs:List Nat)(E:Env):Bool:=hs.all fun s=>match E s with
 |some t=>zBj t
 |none=>iJ
theorem zSL(h:zSK hs E=iI):jX hs E:=by
 intro s gJ;have h1:=Ki.1 h s (by grind)
 grind
theorem dN(an:List (List Nat))(hm:P.follows .mixedOrders=iI)(hQ:Q .normal E)(hf:zAR 0 ops.toList=iI:=by rfl)(ha:zAv an an ops.toList=iI:=by rfl)(hp:kH acc.reverse 0 an acc.reverse=iI:=by rfl)
  (ap:ops.toList.all (fun o=>pn.ok o.dst)=iI:=by rfl)(hh0:zSK hs E0=iI:=by rfl)(hw:acc.reverse.all (wrS hs)=iI:=by rfl):DK P Γ pn ops id hs E0 Q [] E acc:=by
 intro don hd gD hh hE
 grind[CW.drawnI,zSL]
end
end Go.Ab

namespace Go.Ab
open Go
section
variable {P:Program}{Γ:Ctx}{pn:kG}{E E':Env}{Q:Exit→Env→Prop}{ops:Array Oper}{o:Oper}{os:List Oper}{id d:Nat}{wr:Wr}{chg:Chg}{hs:List Nat}{E0:Env}{acc:List Stp}{x y:Operand}{ty:TypeId}{ps:String}{af:Array Edge}{gd:Option (Nat×Bool)}
class zHF (P:Program) (t:TypeId) (e:outParam TypeId):Prop where
 h:P.underlying t=iG (.slice e)
class kZ (P:Program) (t:TypeId) (b:outParam Bool) (n:outParam Nat):Prop where
 h:∀u:T,u.single=b→u.size=n→zVY P t u
theorem hE{rd:List (Nat×T)}{s:Nat}{t:T}(h:E.Has rd)(hr:yX rd s=iG t):E s=iG t:=h.le s t hr
theorem hO{rd:List (Nat×T)}{t:T}(h:E.Has rd)(hr:opT (yX rd) x=iG t):opT E x=iG t:=by
 cases x<;>simp only[opT]at hr ⊢
 ·exact h.le _ _ hr
 all_goals exact hr
mutual
def zEf:T→Bool
 |.ro _|.lit _|.any=>iI
 |.agg xs|.tup xs=>zGQ xs
 |.ptr t=>zEf t
 |.sl _ []=>iI
 |_=>iJ
def zGQ:List T→Bool
 | []=>iI
 |x::xs=>zEf x&&zGQ xs
end
mutual
theorem zDq:{t:T}→zEf t=iI→yE t
 |.ro _,_|.lit _,_|.any,_=>by simp[yE,xE]
 |.agg xs,h|.tup xs,h=>by simp only[zEf]at h;simpa only[yE,xE]using zHG h
 |.ptr t,h=>by simp only[zEf]at h;exact wJ (zDq h)
 |.sl _ [],_=>by simp[yE,xE,wB]
 |.sl _ (_::_),h=>by simp[zEf]at h
 |.same _ _,h|.addr _ _,h|.sub _ _ _ _ _,h=>by simp[zEf]at h
theorem zHG:{xs:List T}→zGQ xs=iI→xW xs
 | [],_=>trivial
 |x::xs,h=>by simp only[zGQ,J4]at h;exact⟨zDq h.1,zHG h.2⟩
end
theorem zYF{α:Type}{t e:TypeId}{ti:TypeInfo}{r k:Nat}{q:List Nat}{f:α→T}{xs:List α}{v:α}{i:Int}[ht:zBM P t e ti k](hx:tP E x=iG (r,q,L k f xs))(hy:opT E y=iG (I i))(hv:ixO xs i=iG v)(sd:J6 d Γ.N=iI):
  Ok P Γ ⟨iG d,.indexAddr t x y,ty,ps,af,gd⟩ E (E.app [(d,iG (.addr r (i.toNat::q)))] [(d,0)]):=zFF ht hv hx hy sd
theorem zSM{α:Type}{t e:TypeId}{ti:TypeInfo}{r k:Nat}{q:List Nat}{f:α→T}{xs:List α}{v:α}{i:Int}[ht:zBM P t e ti k](hx:tP E x=iG (r,q,.ro (L k f xs)))(hy:opT E y=iG (I i))(hv:ixO xs i=iG v)(sd:J6 d Γ.N=iI):
  Ok P Γ ⟨iG d,.indexAddr t x y,ty,ps,af,gd⟩ E (E.app [(d,iG (.ro (.ptr (f v))))] [(d,0)]):=zB0 ht hv hx hy sd
theorem zP9{t:TypeId}{u:T}{b:Bool}{n:Nat}[i:kZ P t b n](hx:opT E x=iG (.ro (.ptr u)))(h1:u.single=b)(h2:u.size=n)(sd:J6 d Γ.N=iI):Ok P Γ ⟨iG d,.load t x,ty,ps,af,gd⟩ E (E.app [(d,iG (roT u))] [(d,0)]):=yAf (i.h u h1 h2) hx sd
theorem zNU{t:TypeId}{u tr:T}{r:Nat}{q:List Nat}{b:Bool}{n:Nat}[i:kZ P t b n](hx:opT E x=iG (.addr r q))(hr:E r=iG tr)(hg:tr.get q.reverse=iG u)(h1:u.single=b)(h2:u.size=n)(sd:(J6 d Γ.N&&tr.locd q.reverse&&(r != d)&&T.okB [(d,0)] (cpT r u q))=iI):
  Ok P Γ ⟨iG d,.load t x,ty,ps,af,gd⟩ E (E.app [(d,iG (cpT r u q))] [(d,0)]):=zEH (i.h u h1 h2) hx hr hg sd
theorem zMd{t:TypeId}{u tr t0:T}{r:Nat}{q:List Nat}{b:Bool}{n:Nat}[i:kZ P t b n](hx:tP E x=iG (r,q,.ptr t0))(hr:E r=iG tr)(hg:tr.get (0::q).reverse=iG u)(h1:u.single=b)(h2:u.size=n)(sd:(J6 d Γ.N&&tr.locd (0::q).reverse&&(r != d)&&T.okB [(d,0)] (cpT r u (0::q)))=iI):
  Ok P Γ ⟨iG d,.load t x,ty,ps,af,gd⟩ E (E.app [(d,iG (cpT r u (0::q)))] [(d,0)]):=yAj (i.h u h1 h2) hx hr hg sd
theorem zXC{α:Type}{t e:TypeId}{r k:Nat}{q:List Nat}{f:α→T}{xs:List α}[i:zHF P t e](hx:tP E x=iG (r,q,L k f xs))(sd:J6 d Γ.N=iI):
  Ok P Γ ⟨iG d,.call { callee:=.builtin .len,args:=#[x],argTypes:=#[t] },ty,ps,af,gd⟩ E (E.app [(d,iG (I (xs.length:Int)))] [(d,0)]):=zS5 i.h hx sd
theorem zNV{α:Type}{t e:TypeId}{r k:Nat}{q:List Nat}{f:α→T}{xs:List α}[i:zHF P t e](hx:tP E x=iG (r,q,.ro (L k f xs)))(sd:J6 d Γ.N=iI):
  Ok P Γ ⟨iG d,.call { callee:=.builtin .len,args:=#[x],argTypes:=#[t] },ty,ps,af,gd⟩ E (E.app [(d,iG (I (xs.length:Int)))] [(d,0)]):=zS6 i.h hx sd
theorem zT(k:RW P Γ pn ops os (E.app wr chg) Q)(h:Ok P Γ o E (E.app wr chg):=by exact zNP rfl rfl)(hg:o.guard=iH:=by rfl)(hp:pn.ok o.dst=iI:=by rfl):RW P Γ pn ops (o::os) E Q:=oP h k hg hp
theorem zIT{g s:Nat}{b:Bool}(k:RW P Γ pn ops os (E.app wr chg) Q)(hg:o.guard=iG (g,b):=by rfl)(gp:(ops[g]?).bind (·.dst)=iG s:=by rfl)(hb:E s=iG (.lit (.bool b)):=by rfl)(h:Ok P Γ o E (E.app wr chg):=by exact zNP rfl rfl)(hp:pn.ok o.dst=iI:=by rfl):RW P Γ pn ops (o::os) E Q:=RW.cons (zW.guard g b s h hg gp hb) k hp
theorem yU(k:RW P Γ pn ops os (E.app wr chg) Q)(h:Ok P Γ o E (E.app wr chg):=by exact zVX rfl rfl)(hg:o.guard=iH:=by rfl)(hp:pn.ok o.dst=iI:=by rfl):RW P Γ pn ops (o::os) E Q:=oP h k hg hp
theorem sC(k:RW P Γ pn ops os (E.app wr chg) Q)(h:Ok P Γ o E (E.app wr chg):=by exact zP9 rfl rfl rfl rfl)(hg:o.guard=iH:=by rfl)(hp:pn.ok o.dst=iI:=by rfl):RW P Γ pn ops (o::os) E Q:=oP h k hg hp
theorem zAT(k:RW P Γ pn ops os (E.app wr chg) Q)(h:Ok P Γ o E (E.app wr chg):=by exact zSM (by first|exact wI rfl rfl|exact tQ rfl rfl (by first|rfl|exact zU (by assumption) rfl|exact zU (by assumption) (zU (by assumption) rfl)|exact yY rfl (zU (by assumption) rfl)|exact xD (zU (by assumption) rfl)|exact xD (yY rfl (zU (by assumption) rfl))|exact xD (yY rfl (zU (by assumption) (zU (by assumption) rfl)))) rfl) rfl (by assumption) rfl)(hg:o.guard=iH:=by rfl)(hp:pn.ok o.dst=iI:=by rfl):RW P Γ pn ops (o::os) E Q:=oP h k hg hp
theorem sV(k:RW P Γ pn ops os (E.app wr chg) Q)(h:Ok P Γ o E (E.app wr chg):=by exact zNV (by first|exact wI rfl rfl|exact tQ rfl rfl (by first|rfl|exact zU (by assumption) rfl|exact zU (by assumption) (zU (by assumption) rfl)|exact yY rfl (zU (by assumption) rfl)|exact xD (zU (by assumption) rfl)|exact xD (yY rfl (zU (by assumption) rfl))|exact xD (yY rfl (zU (by assumption) (zU (by assumption) rfl)))) rfl) rfl)(hg:o.guard=iH:=by rfl)(hp:pn.ok o.dst=iI:=by rfl):RW P Γ pn ops (o::os) E Q:=oP h k hg hp
theorem wH(k:RW P Γ pn ops os (E.app wr chg) Q)(h:Ok P Γ o E (E.app wr chg):=by exact qT (by assumption) rfl rfl rfl)(hg:o.guard=iH:=by rfl)(hp:pn.ok o.dst=iI:=by rfl):RW P Γ pn ops (o::os) E Q:=oP h k hg hp
theorem uM(k:RW P Γ pn ops os (E.app wr chg) Q)(h:Ok P Γ o E (E.app wr chg):=by exact zLQ rfl rfl rfl)(hg:o.guard=iH:=by rfl)(hp:pn.ok o.dst=iI:=by rfl):RW P Γ pn ops (o::os) E Q:=oP h k hg hp
theorem zXD{g s:Nat}{b:Bool}(k:RW P Γ pn ops os (E.app wr chg) Q)(hg:o.guard=iG (g,b):=by rfl)(gp:(ops[g]?).bind (·.dst)=iG s:=by rfl)(hb:E s=iG (.lit (.bool b)):=by rfl)(h:Ok P Γ o E (E.app wr chg):=by exact zLQ rfl rfl rfl)(hp:pn.ok o.dst=iI:=by rfl):RW P Γ pn ops (o::os) E Q:=RW.cons (zW.guard g b s h hg gp hb) k hp
theorem zAE(k:RW P Γ pn ops os (E.app wr chg) Q)(h:Ok P Γ o E (E.app wr chg):=by exact zNQ rfl rfl rfl)(hg:o.guard=iH:=by rfl)(hp:pn.ok o.dst=iI:=by rfl):RW P Γ pn ops (o::os) E Q:=oP h k hg hp
theorem uY(k:RW P Γ pn ops os (E.app wr chg) Q)(h:Ok P Γ o E (E.app wr chg):=by exact zY1 inferInstance (by first|exact wI rfl rfl|exact tQ rfl rfl (by first|rfl|exact zU (by assumption) rfl|exact zU (by assumption) (zU (by assumption) rfl)|exact yY rfl (zU (by assumption) rfl)|exact xD (zU (by assumption) rfl)|exact xD (yY rfl (zU (by assumption) rfl))|exact xD (yY rfl (zU (by assumption) (zU (by assumption) rfl)))) rfl) rfl rfl rfl)(hg:o.guard=iH:=by rfl)(hp:pn.ok o.dst=iI:=by rfl):RW P Γ pn ops (o::os) E Q:=oP h k hg hp
theorem vX(k:RW P Γ pn ops os (E.app wr chg) Q)(h:Ok P Γ o E (E.app wr chg):=by first|exact zNU rfl rfl rfl rfl rfl rfl|exact zNU rfl rfl (by first|rfl|exact zU (by assumption) rfl|exact zU (by assumption) (zU (by assumption) rfl)|exact yY rfl (zU (by assumption) rfl)|exact xD (zU (by assumption) rfl)|exact xD (yY rfl (zU (by assumption) rfl))|exact xD (yY rfl (zU (by assumption) (zU (by assumption) rfl)))) (by rfl) (by rfl) (by rfl))(hg:o.guard=iH:=by rfl)(hp:pn.ok o.dst=iI:=by rfl):RW P Γ pn ops (o::os) E Q:=oP h k hg hp
theorem zYG{g s:Nat}{b:Bool}(k:RW P Γ pn ops os (E.app wr chg) Q)(hg:o.guard=iG (g,b):=by rfl)(gp:(ops[g]?).bind (·.dst)=iG s:=by rfl)(hb:E s=iG (.lit (.bool b)):=by rfl)(h:Ok P Γ o E (E.app wr chg):=by first|exact zNU rfl rfl rfl rfl rfl rfl|exact zNU rfl rfl (by first|rfl|exact zU (by assumption) rfl|exact zU (by assumption) (zU (by assumption) rfl)|exact yY rfl (zU (by assumption) rfl)|exact xD (zU (by assumption) rfl)|exact xD (yY rfl (zU (by assumption) rfl))|exact xD (yY rfl (zU (by assumption) (zU (by assumption) rfl)))) (by rfl) (by rfl) (by rfl))(hp:pn.ok o.dst=iI:=by rfl):RW P Γ pn ops (o::os) E Q:=RW.cons (zW.guard g b s h hg gp hb) k hp
theorem jN(k:RW P Γ pn ops os (E.app wr chg) Q)(h:Ok P Γ o E (E.app wr chg):=by first|exact zMd (by first|exact wI rfl rfl|exact tQ rfl rfl (by first|rfl|exact zU (by assumption) rfl|exact zU (by assumption) (zU (by assumption) rfl)|exact yY rfl (zU (by assumption) rfl)|exact xD (zU (by assumption) rfl)|exact xD (yY rfl (zU (by assumption) rfl))|exact xD (yY rfl (zU (by assumption) (zU (by assumption) rfl)))) rfl) rfl rfl rfl rfl rfl|exact zMd (by first|exact wI rfl rfl|exact tQ rfl rfl (by first|rfl|exact zU (by assumption) rfl|exact zU (by assumption) (zU (by assumption) rfl)|exact yY rfl (zU (by assumption) rfl)|exact xD (zU (by assumption) rfl)|exact xD (yY rfl (zU (by assumption) rfl))|exact xD (yY rfl (zU (by assumption) (zU (by assumption) rfl)))) rfl) rfl (by first|rfl|exact zU (by assumption) rfl|exact zU (by assumption) (zU (by assumption) rfl)|exact yY rfl (zU (by assumption) rfl)|exact xD (zU (by assumption) rfl)|exact xD (yY rfl (zU (by assumption) rfl))|exact xD (yY rfl (zU (by assumption) (zU (by assumption) rfl)))) (by rfl) (by rfl) (by rfl))(hg:o.guard=iH:=by rfl)(hp:pn.ok o.dst=iI:=by rfl):RW P Γ pn ops (o::os) E Q:=oP h k hg hp
theorem zHH(k:RW P Γ pn ops os (E.app wr chg) Q)(h:Ok P Γ o E (E.app wr chg):=by exact zGy (by assumption) rfl rfl rfl)(hg:o.guard=iH:=by rfl)(hp:pn.ok o.dst=iI:=by rfl):RW P Γ pn ops (o::os) E Q:=oP h k hg hp
theorem yAl{g s:Nat}{b:Bool}(k:RW P Γ pn ops os (E.app wr chg) Q)(hg:o.guard=iG (g,b):=by rfl)(gp:(ops[g]?).bind (·.dst)=iG s:=by rfl)(hb:E s=iG (.lit (.bool b)):=by rfl)(h:Ok P Γ o E (E.app wr chg):=by exact zCo rfl rfl)(hp:pn.ok o.dst=iI:=by rfl):RW P Γ pn ops (o::os) E Q:=RW.cons (zW.guard g b s h hg gp hb) k hp
theorem zXE(k:RW P Γ pn ops os (E.app wr chg) Q)(h:Ok P Γ o E (E.app wr chg):=by exact zSA rfl rfl rfl)(hg:o.guard=iH:=by rfl)(hp:pn.ok o.dst=iI:=by rfl):RW P Γ pn ops (o::os) E Q:=oP h k hg hp
theorem yAm(k:RW P Γ pn ops os (E.app wr chg) Q)(h:Ok P Γ o E (E.app wr chg):=by exact zLR rfl rfl rfl)(hg:o.guard=iH:=by rfl)(hp:pn.ok o.dst=iI:=by rfl):RW P Γ pn ops (o::os) E Q:=oP h k hg hp
theorem yAn{g s:Nat}{b:Bool}(k:RW P Γ pn ops os (E.app wr chg) Q)(hg:o.guard=iG (g,b):=by rfl)(gp:(ops[g]?).bind (·.dst)=iG s:=by rfl)(hb:E s=iG (.lit (.bool b)):=by rfl)(h:Ok P Γ o E (E.app wr chg):=by exact zLR rfl rfl rfl)(hp:pn.ok o.dst=iI:=by rfl):RW P Γ pn ops (o::os) E Q:=RW.cons (zW.guard g b s h hg gp hb) k hp
theorem zSN(k:RW P Γ pn ops os (E.app wr chg) Q)(h:Ok P Γ o E (E.app wr chg):=by exact zS9 rfl rfl rfl)(hg:o.guard=iH:=by rfl)(hp:pn.ok o.dst=iI:=by rfl):RW P Γ pn ops (o::os) E Q:=oP h k hg hp
theorem zSO(k:RW P Γ pn ops os (E.app wr chg) Q)(h:Ok P Γ o E (E.app wr chg):=by exact zP0 rfl rfl rfl)(hg:o.guard=iH:=by rfl)(hp:pn.ok o.dst=iI:=by rfl):RW P Γ pn ops (o::os) E Q:=oP h k hg hp
theorem zG1(k:RW P Γ pn ops os (E.app wr chg) Q)(h:Ok P Γ o E (E.app wr chg):=by exact zS8 rfl rfl rfl)(hg:o.guard=iH:=by rfl)(hp:pn.ok o.dst=iI:=by rfl):RW P Γ pn ops (o::os) E Q:=oP h k hg hp
theorem zHI(k:RW P Γ pn ops os (E.app wr chg) Q)(h:Ok P Γ o E (E.app wr chg):=by exact zP1 inferInstance rfl rfl rfl rfl)(hg:o.guard=iH:=by rfl)(hp:pn.ok o.dst=iI:=by rfl):RW P Γ pn ops (o::os) E Q:=oP h k hg hp
theorem kK(k:RW P Γ pn ops os (E.app wr chg) Q)(h:Ok P Γ o E (E.app wr chg):=by first|exact zBg rfl (zEJ rfl) rfl|exact zBg rfl (isPtr_addr rfl) rfl|exact zBg rfl (zFJ (by first|exact wI rfl rfl|exact tQ rfl rfl (by first|rfl|exact zU (by assumption) rfl|exact zU (by assumption) (zU (by assumption) rfl)|exact yY rfl (zU (by assumption) rfl)|exact xD (zU (by assumption) rfl)|exact xD (yY rfl (zU (by assumption) rfl))|exact xD (yY rfl (zU (by assumption) (zU (by assumption) rfl)))) rfl)) rfl)(hg:o.guard=iH:=by rfl)(hp:pn.ok o.dst=iI:=by rfl):RW P Γ pn ops (o::os) E Q:=oP h k hg hp
theorem zEg(k:RW P Γ pn ops os (E.app wr chg) Q)(h:Ok P Γ o E (E.app wr chg):=by exact zYF (by first|exact wI rfl rfl|exact tQ rfl rfl (by first|rfl|exact zU (by assumption) rfl|exact zU (by assumption) (zU (by assumption) rfl)|exact yY rfl (zU (by assumption) rfl)|exact xD (zU (by assumption) rfl)|exact xD (yY rfl (zU (by assumption) rfl))|exact xD (yY rfl (zU (by assumption) (zU (by assumption) rfl)))) rfl) rfl (by assumption) rfl)(hg:o.guard=iH:=by rfl)(hp:pn.ok o.dst=iI:=by rfl):RW P Γ pn ops (o::os) E Q:=oP h k hg hp
theorem zYH{g s:Nat}{b:Bool}(k:RW P Γ pn ops os (E.app wr chg) Q)(hg:o.guard=iG (g,b):=by rfl)(gp:(ops[g]?).bind (·.dst)=iG s:=by rfl)(hb:E s=iG (.lit (.bool b)):=by rfl)(h:Ok P Γ o E (E.app wr chg):=by exact zYF (by first|exact wI rfl rfl|exact tQ rfl rfl (by first|rfl|exact zU (by assumption) rfl|exact zU (by assumption) (zU (by assumption) rfl)|exact yY rfl (zU (by assumption) rfl)|exact xD (zU (by assumption) rfl)|exact xD (yY rfl (zU (by assumption) rfl))|exact xD (yY rfl (zU (by assumption) (zU (by assumption) rfl)))) rfl) rfl (by assumption) rfl)(hp:pn.ok o.dst=iI:=by rfl):RW P Γ pn ops (o::os) E Q:=RW.cons (zW.guard g b s h hg gp hb) k hp
theorem zCD(k:RW P Γ pn ops os (E.app wr chg) Q)(h:Ok P Γ o E (E.app wr chg):=by exact zXC (by first|exact wI rfl rfl|exact tQ rfl rfl (by first|rfl|exact zU (by assumption) rfl|exact zU (by assumption) (zU (by assumption) rfl)|exact yY rfl (zU (by assumption) rfl)|exact xD (zU (by assumption) rfl)|exact xD (yY rfl (zU (by assumption) rfl))|exact xD (yY rfl (zU (by assumption) (zU (by assumption) rfl)))) rfl) rfl)(hg:o.guard=iH:=by rfl)(hp:pn.ok o.dst=iI:=by rfl):RW P Γ pn ops (o::os) E Q:=oP h k hg hp
theorem zXF{g s:Nat}{b:Bool}(k:RW P Γ pn ops os (E.app wr chg) Q)(hg:o.guard=iG (g,b):=by rfl)(gp:(ops[g]?).bind (·.dst)=iG s:=by rfl)(hb:E s=iG (.lit (.bool b)):=by rfl)(h:Ok P Γ o E (E.app wr chg):=by exact zXC (by first|exact wI rfl rfl|exact tQ rfl rfl (by first|rfl|exact zU (by assumption) rfl|exact zU (by assumption) (zU (by assumption) rfl)|exact yY rfl (zU (by assumption) rfl)|exact xD (zU (by assumption) rfl)|exact xD (yY rfl (zU (by assumption) rfl))|exact xD (yY rfl (zU (by assumption) (zU (by assumption) rfl)))) rfl) rfl)(hp:pn.ok o.dst=iI:=by rfl):RW P Γ pn ops (o::os) E Q:=RW.cons (zW.guard g b s h hg gp hb) k hp
theorem zCr(k:RW P Γ pn ops os (E.app wr chg) Q)(h:Ok P Γ o E (E.app wr chg):=by exact zS7 (by assumption) rfl rfl rfl)(hg:o.guard=iH:=by rfl)(hp:pn.ok o.dst=iI:=by rfl):RW P Γ pn ops (o::os) E Q:=oP h k hg hp
theorem qF(k:RW P Γ pn ops os (E.app wr chg) Q)(h:Ok P Γ o E (E.app wr chg):=by exact zKx inferInstance rfl)(hg:o.guard=iH:=by rfl)(hp:pn.ok o.dst=iI:=by rfl):RW P Γ pn ops (o::os) E Q:=oP h k hg hp
theorem zPA(k:RW P Γ pn ops os (E.app wr chg) Q)(h:Ok P Γ o E (E.app wr chg):=by exact zX6 rfl rfl rfl)(hg:o.guard=iH:=by rfl)(hp:pn.ok o.dst=iI:=by rfl):RW P Γ pn ops (o::os) E Q:=oP h k hg hp
theorem zG2(k:RW P Γ pn ops os (E.app wr chg) Q)(h:Ok P Γ o E (E.app wr chg):=by exact zX7 rfl (zDq rfl) rfl)(hg:o.guard=iH:=by rfl)(hp:pn.ok o.dst=iI:=by rfl):RW P Γ pn ops (o::os) E Q:=oP h k hg hp
theorem zXG(k:RW P Γ pn ops os (E.app wr chg) Q)(h:Ok P Γ o E (E.app wr chg):=by exact zXA rfl rfl)(hg:o.guard=iH:=by rfl)(hp:pn.ok o.dst=iI:=by rfl):RW P Γ pn ops (o::os) E Q:=oP h k hg hp
theorem yF(rd:List (Nat×T))(k:DK P Γ pn ops id hs E0 Q os (E.app wr chg) (⟨rd,[(wr,chg)]⟩::acc))(gA:E.Has rd:=by repeat (first|exact trivial|refine⟨rfl,?_⟩))(h:∀E':Env,E'.Has rd→Ok P Γ o E' (E'.app wr chg):=by intro E' h;exact zNP (hO h rfl) rfl)(hg:o.guard=iH:=by rfl):DK P Γ pn ops id hs E0 Q (o::os) E acc:=dG rd [(wr,chg)] gA (fun E' h'=>zW.op (h E' h') hg) k
theorem zCu{g s:Nat}{b:Bool}(rd:List (Nat×T))(k:DK P Γ pn ops id hs E0 Q os (E.app wr chg) (⟨rd,[(wr,chg)]⟩::acc))(gA:E.Has rd:=by repeat (first|exact trivial|refine⟨rfl,?_⟩))(hg:o.guard=iG (g,b):=by rfl)(gp:(ops[g]?).bind (·.dst)=iG s:=by rfl)(hb:yX rd s=iG (.lit (.bool b)):=by rfl)(h:∀E':Env,E'.Has rd→Ok P Γ o E' (E'.app wr chg):=by intro E' h;exact zNP (hO h rfl) rfl):DK P Γ pn ops id hs E0 Q (o::os) E acc:=dG rd [(wr,chg)] gA (fun E' h'=>zW.guard g b s (h E' h') hg gp (hE h' hb)) k
theorem zCE(rd:List (Nat×T))(k:DK P Γ pn ops id hs E0 Q os (E.app wr chg) (⟨rd,[(wr,chg)]⟩::acc))(gA:E.Has rd:=by repeat (first|exact trivial|refine⟨rfl,?_⟩))(h:∀E':Env,E'.Has rd→Ok P Γ o E' (E'.app wr chg):=by intro E' h;exact zVX (hO h rfl) rfl)(hg:o.guard=iH:=by rfl):DK P Γ pn ops id hs E0 Q (o::os) E acc:=dG rd [(wr,chg)] gA (fun E' h'=>zW.op (h E' h') hg) k
theorem wZ(rd:List (Nat×T))(k:DK P Γ pn ops id hs E0 Q os (E.app wr chg) (⟨rd,[(wr,chg)]⟩::acc))(gA:E.Has rd:=by repeat (first|exact trivial|refine⟨rfl,?_⟩))(h:∀E':Env,E'.Has rd→Ok P Γ o E' (E'.app wr chg):=by intro E' h;exact zP9 (hO h rfl) rfl rfl rfl)(hg:o.guard=iH:=by rfl):DK P Γ pn ops id hs E0 Q (o::os) E acc:=dG rd [(wr,chg)] gA (fun E' h'=>zW.op (h E' h') hg) k
theorem zB2{g s:Nat}{b:Bool}(rd:List (Nat×T))(k:DK P Γ pn ops id hs E0 Q os (E.app wr chg) (⟨rd,[(wr,chg)]⟩::acc))(gA:E.Has rd:=by repeat (first|exact trivial|refine⟨rfl,?_⟩))(hg:o.guard=iG (g,b):=by rfl)(gp:(ops[g]?).bind (·.dst)=iG s:=by rfl)(hb:yX rd s=iG (.lit (.bool b)):=by rfl)(h:∀E':Env,E'.Has rd→Ok P Γ o E' (E'.app wr chg):=by intro E' h;exact zP9 (hO h rfl) rfl rfl rfl):DK P Γ pn ops id hs E0 Q (o::os) E acc:=dG rd [(wr,chg)] gA (fun E' h'=>zW.guard g b s (h E' h') hg gp (hE h' hb)) k
theorem zAq(rd:List (Nat×T))(k:DK P Γ pn ops id hs E0 Q os (E.app wr chg) (⟨rd,[(wr,chg)]⟩::acc))(gA:E.Has rd:=by repeat (first|exact trivial|refine⟨rfl,?_⟩))(h:∀E':Env,E'.Has rd→Ok P Γ o E' (E'.app wr chg):=by intro E' h;exact zSM (by first|exact wI (hE h rfl) rfl|exact tQ (hE h rfl) (hE h rfl) (by first|rfl|exact zU (by assumption) rfl|exact zU (by assumption) (zU (by assumption) rfl)|exact yY rfl (zU (by assumption) rfl)|exact xD (zU (by assumption) rfl)|exact xD (yY rfl (zU (by assumption) rfl))|exact xD (yY rfl (zU (by assumption) (zU (by assumption) rfl)))) rfl) (hO h rfl) (by assumption) rfl)(hg:o.guard=iH:=by rfl):DK P Γ pn ops id hs E0 Q (o::os) E acc:=dG rd [(wr,chg)] gA (fun E' h'=>zW.op (h E' h') hg) k
theorem zPB{g s:Nat}{b:Bool}(rd:List (Nat×T))(k:DK P Γ pn ops id hs E0 Q os (E.app wr chg) (⟨rd,[(wr,chg)]⟩::acc))(gA:E.Has rd:=by repeat (first|exact trivial|refine⟨rfl,?_⟩))(hg:o.guard=iG (g,b):=by rfl)(gp:(ops[g]?).bind (·.dst)=iG s:=by rfl)(hb:yX rd s=iG (.lit (.bool b)):=by rfl)(h:∀E':Env,E'.Has rd→Ok P Γ o E' (E'.app wr chg):=by intro E' h;exact zSM (by first|exact wI (hE h rfl) rfl|exact tQ (hE h rfl) (hE h rfl) (by first|rfl|exact zU (by assumption) rfl|exact zU (by assumption) (zU (by assumption) rfl)|exact yY rfl (zU (by assumption) rfl)|exact xD (zU (by assumption) rfl)|exact xD (yY rfl (zU (by assumption) rfl))|exact xD (yY rfl (zU (by assumption) (zU (by assumption) rfl)))) rfl) (hO h rfl) (by assumption) rfl):DK P Γ pn ops id hs E0 Q (o::os) E acc:=dG rd [(wr,chg)] gA (fun E' h'=>zW.guard g b s (h E' h') hg gp (hE h' hb)) k
theorem zHJ(rd:List (Nat×T))(k:DK P Γ pn ops id hs E0 Q os (E.app wr chg) (⟨rd,[(wr,chg)]⟩::acc))(gA:E.Has rd:=by repeat (first|exact trivial|refine⟨rfl,?_⟩))(h:∀E':Env,E'.Has rd→Ok P Γ o E' (E'.app wr chg):=by intro E' h;exact zNV (by first|exact wI (hE h rfl) rfl|exact tQ (hE h rfl) (hE h rfl) (by first|rfl|exact zU (by assumption) rfl|exact zU (by assumption) (zU (by assumption) rfl)|exact yY rfl (zU (by assumption) rfl)|exact xD (zU (by assumption) rfl)|exact xD (yY rfl (zU (by assumption) rfl))|exact xD (yY rfl (zU (by assumption) (zU (by assumption) rfl)))) rfl) rfl)(hg:o.guard=iH:=by rfl):DK P Γ pn ops id hs E0 Q (o::os) E acc:=dG rd [(wr,chg)] gA (fun E' h'=>zW.op (h E' h') hg) k
theorem zNW{g s:Nat}{b:Bool}(rd:List (Nat×T))(k:DK P Γ pn ops id hs E0 Q os (E.app wr chg) (⟨rd,[(wr,chg)]⟩::acc))(gA:E.Has rd:=by repeat (first|exact trivial|refine⟨rfl,?_⟩))(hg:o.guard=iG (g,b):=by rfl)(gp:(ops[g]?).bind (·.dst)=iG s:=by rfl)(hb:yX rd s=iG (.lit (.bool b)):=by rfl)(h:∀E':Env,E'.Has rd→Ok P Γ o E' (E'.app wr chg):=by intro E' h;exact zNV (by first|exact wI (hE h rfl) rfl|exact tQ (hE h rfl) (hE h rfl) (by first|rfl|exact zU (by assumption) rfl|exact zU (by assumption) (zU (by assumption) rfl)|exact yY rfl (zU (by assumption) rfl)|exact xD (zU (by assumption) rfl)|exact xD (yY rfl (zU (by assumption) rfl))|exact xD (yY rfl (zU (by assumption) (zU (by assumption) rfl)))) rfl) rfl):DK P Γ pn ops id hs E0 Q (o::os) E acc:=dG rd [(wr,chg)] gA (fun E' h'=>zW.guard g b s (h E' h') hg gp (hE h' hb)) k
theorem zEM(rd:List (Nat×T))(k:DK P Γ pn ops id hs E0 Q os (E.app wr chg) (⟨rd,[(wr,chg)]⟩::acc))(gA:E.Has rd:=by repeat (first|exact trivial|refine⟨rfl,?_⟩))(h:∀E':Env,E'.Has rd→Ok P Γ o E' (E'.app wr chg):=by intro E' h;exact qT (by assumption) (hO h rfl) (hO h rfl) rfl)(hg:o.guard=iH:=by rfl):DK P Γ pn ops id hs E0 Q (o::os) E acc:=dG rd [(wr,chg)] gA (fun E' h'=>zW.op (h E' h') hg) k
theorem sJ(rd:List (Nat×T))(k:DK P Γ pn ops id hs E0 Q os (E.app wr chg) (⟨rd,[(wr,chg)]⟩::acc))(gA:E.Has rd:=by repeat (first|exact trivial|refine⟨rfl,?_⟩))(h:∀E':Env,E'.Has rd→Ok P Γ o E' (E'.app wr chg):=by intro E' h;exact zNQ (hO h rfl) (hO h rfl) rfl)(hg:o.guard=iH:=by rfl):DK P Γ pn ops id hs E0 Q (o::os) E acc:=dG rd [(wr,chg)] gA (fun E' h'=>zW.op (h E' h') hg) k
theorem zAl(rd:List (Nat×T))(k:DK P Γ pn ops id hs E0 Q os (E.app wr chg) (⟨rd,[(wr,chg)]⟩::acc))(gA:E.Has rd:=by repeat (first|exact trivial|refine⟨rfl,?_⟩))(h:∀E':Env,E'.Has rd→Ok P Γ o E' (E'.app wr chg):=by intro E' h;exact zY1 inferInstance (by first|exact wI (hE h rfl) rfl|exact tQ (hE h rfl) (hE h rfl) (by first|rfl|exact zU (by assumption) rfl|exact zU (by assumption) (zU (by assumption) rfl)|exact yY rfl (zU (by assumption) rfl)|exact xD (zU (by assumption) rfl)|exact xD (yY rfl (zU (by assumption) rfl))|exact xD (yY rfl (zU (by assumption) (zU (by assumption) rfl)))) rfl) rfl rfl rfl)(hg:o.guard=iH:=by rfl):DK P Γ pn ops id hs E0 Q (o::os) E acc:=dG rd [(wr,chg)] gA (fun E' h'=>zW.op (h E' h') hg) k
theorem qQ(rd:List (Nat×T))(k:DK P Γ pn ops id hs E0 Q os (E.app wr chg) (⟨rd,[(wr,chg)]⟩::acc))(gA:E.Has rd:=by repeat (first|exact trivial|refine⟨rfl,?_⟩))(h:∀E':Env,E'.Has rd→Ok P Γ o E' (E'.app wr chg):=by intro E' h;first|exact zNU (hO h rfl) (hE h rfl) rfl rfl rfl rfl|exact zNU (hO h rfl) (hE h rfl) (by first|rfl|exact zU (by assumption) rfl|exact zU (by assumption) (zU (by assumption) rfl)|exact yY rfl (zU (by assumption) rfl)|exact xD (zU (by assumption) rfl)|exact xD (yY rfl (zU (by assumption) rfl))|exact xD (yY rfl (zU (by assumption) (zU (by assumption) rfl)))) (by rfl) (by rfl) (by rfl))(hg:o.guard=iH:=by rfl):DK P Γ pn ops id hs E0 Q (o::os) E acc:=dG rd [(wr,chg)] gA (fun E' h'=>zW.op (h E' h') hg) k
theorem vP(rd:List (Nat×T))(k:DK P Γ pn ops id hs E0 Q os (E.app wr chg) (⟨rd,[(wr,chg)]⟩::acc))(gA:E.Has rd:=by repeat (first|exact trivial|refine⟨rfl,?_⟩))(h:∀E':Env,E'.Has rd→Ok P Γ o E' (E'.app wr chg):=by intro E' h;first|exact zMd (by first|exact wI (hE h rfl) rfl|exact tQ (hE h rfl) (hE h rfl) (by first|rfl|exact zU (by assumption) rfl|exact zU (by assumption) (zU (by assumption) rfl)|exact yY rfl (zU (by assumption) rfl)|exact xD (zU (by assumption) rfl)|exact xD (yY rfl (zU (by assumption) rfl))|exact xD (yY rfl (zU (by assumption) (zU (by assumption) rfl)))) rfl) (hE h rfl) rfl rfl rfl rfl|exact zMd (by first|exact wI (hE h rfl) rfl|exact tQ (hE h rfl) (hE h rfl) (by first|rfl|exact zU (by assumption) rfl|exact zU (by assumption) (zU (by assumption) rfl)|exact yY rfl (zU (by assumption) rfl)|exact xD (zU (by assumption) rfl)|exact xD (yY rfl (zU (by assumption) rfl))|exact xD (yY rfl (zU (by assumption) (zU (by assumption) rfl)))) rfl) (hE h rfl) (by first|rfl|exact zU (by assumption) rfl|exact zU (by assumption) (zU (by assumption) rfl)|exact yY rfl (zU (by assumption) rfl)|exact xD (zU (by assumption) rfl)|exact xD (yY rfl (zU (by assumption) rfl))|exact xD (yY rfl (zU (by assumption) (zU (by assumption) rfl)))) (by rfl) (by rfl) (by rfl))(hg:o.guard=iH:=by rfl):DK P Γ pn ops id hs E0 Q (o::os) E acc:=dG rd [(wr,chg)] gA (fun E' h'=>zW.op (h E' h') hg) k
theorem zJ5(rd:List (Nat×T))(k:DK P Γ pn ops id hs E0 Q os (E.app wr chg) (⟨rd,[(wr,chg)]⟩::acc))(gA:E.Has rd:=by repeat (first|exact trivial|refine⟨rfl,?_⟩))(h:∀E':Env,E'.Has rd→Ok P Γ o E' (E'.app wr chg):=by intro E' h;exact zGy (by assumption) (hO h rfl) (hO h rfl) rfl)(hg:o.guard=iH:=by rfl):DK P Γ pn ops id hs E0 Q (o::os) E acc:=dG rd [(wr,chg)] gA (fun E' h'=>zW.op (h E' h') hg) k
theorem yAo{g s:Nat}{b:Bool}(rd:List (Nat×T))(k:DK P Γ pn ops id hs E0 Q os (E.app wr chg) (⟨rd,[(wr,chg)]⟩::acc))(gA:E.Has rd:=by repeat (first|exact trivial|refine⟨rfl,?_⟩))(hg:o.guard=iG (g,b):=by rfl)(gp:(ops[g]?).bind (·.dst)=iG s:=by rfl)(hb:yX rd s=iG (.lit (.bool b)):=by rfl)(h:∀E':Env,E'.Has rd→Ok P Γ o E' (E'.app wr chg):=by intro E' h;exact zGy (by assumption) (hO h rfl) (hO h rfl) rfl):DK P Γ pn ops id hs E0 Q (o::os) E acc:=dG rd [(wr,chg)] gA (fun E' h'=>zW.guard g b s (h E' h') hg gp (hE h' hb)) k
theorem yAp(rd:List (Nat×T))(k:DK P Γ pn ops id hs E0 Q os (E.app wr chg) (⟨rd,[(wr,chg)]⟩::acc))(gA:E.Has rd:=by repeat (first|exact trivial|refine⟨rfl,?_⟩))(h:∀E':Env,E'.Has rd→Ok P Γ o E' (E'.app wr chg):=by intro E' h;exact zCo (hO h rfl) rfl)(hg:o.guard=iH:=by rfl):DK P Γ pn ops id hs E0 Q (o::os) E acc:=dG rd [(wr,chg)] gA (fun E' h'=>zW.op (h E' h') hg) k
theorem zXH{g s:Nat}{b:Bool}(rd:List (Nat×T))(k:DK P Γ pn ops id hs E0 Q os (E.app wr chg) (⟨rd,[(wr,chg)]⟩::acc))(gA:E.Has rd:=by repeat (first|exact trivial|refine⟨rfl,?_⟩))(hg:o.guard=iG (g,b):=by rfl)(gp:(ops[g]?).bind (·.dst)=iG s:=by rfl)(hb:yX rd s=iG (.lit (.bool b)):=by rfl)(h:∀E':Env,E'.Has rd→Ok P Γ o E' (E'.app wr chg):=by intro E' h;exact zSA (hO h rfl) (hO h rfl) rfl):DK P Γ pn ops id hs E0 Q (o::os) E acc:=dG rd [(wr,chg)] gA (fun E' h'=>zW.guard g b s (h E' h') hg gp (hE h' hb)) k
theorem yAq{g s:Nat}{b:Bool}(rd:List (Nat×T))(k:DK P Γ pn ops id hs E0 Q os (E.app wr chg) (⟨rd,[(wr,chg)]⟩::acc))(gA:E.Has rd:=by repeat (first|exact trivial|refine⟨rfl,?_⟩))(hg:o.guard=iG (g,b):=by rfl)(gp:(ops[g]?).bind (·.dst)=iG s:=by rfl)(hb:yX rd s=iG (.lit (.bool b)):=by rfl)(h:∀E':Env,E'.Has rd→Ok P Γ o E' (E'.app wr chg):=by intro E' h;exact zS9 (hO h rfl) (hO h rfl) rfl):DK P Γ pn ops id hs E0 Q (o::os) E acc:=dG rd [(wr,chg)] gA (fun E' h'=>zW.guard g b s (h E' h') hg gp (hE h' hb)) k
theorem yAr{g s:Nat}{b:Bool}(rd:List (Nat×T))(k:DK P Γ pn ops id hs E0 Q os (E.app wr chg) (⟨rd,[(wr,chg)]⟩::acc))(gA:E.Has rd:=by repeat (first|exact trivial|refine⟨rfl,?_⟩))(hg:o.guard=iG (g,b):=by rfl)(gp:(ops[g]?).bind (·.dst)=iG s:=by rfl)(hb:yX rd s=iG (.lit (.bool b)):=by rfl)(h:∀E':Env,E'.Has rd→Ok P Γ o E' (E'.app wr chg):=by intro E' h;exact zS8 (hO h rfl) (hO h rfl) rfl):DK P Γ pn ops id hs E0 Q (o::os) E acc:=dG rd [(wr,chg)] gA (fun E' h'=>zW.guard g b s (h E' h') hg gp (hE h' hb)) k
theorem zAF(rd:List (Nat×T))(k:DK P Γ pn ops id hs E0 Q os (E.app wr chg) (⟨rd,[(wr,chg)]⟩::acc))(gA:E.Has rd:=by repeat (first|exact trivial|refine⟨rfl,?_⟩))(h:∀E':Env,E'.Has rd→Ok P Γ o E' (E'.app wr chg):=by intro E' h;exact zP1 inferInstance (hO h rfl) rfl rfl rfl)(hg:o.guard=iH:=by rfl):DK P Γ pn ops id hs E0 Q (o::os) E acc:=dG rd [(wr,chg)] gA (fun E' h'=>zW.op (h E' h') hg) k
theorem zHK{g s:Nat}{b:Bool}(rd:List (Nat×T))(k:DK P Γ pn ops id hs E0 Q os (E.app wr chg) (⟨rd,[(wr,chg)]⟩::acc))(gA:E.Has rd:=by repeat (first|exact trivial|refine⟨rfl,?_⟩))(hg:o.guard=iG (g,b):=by rfl)(gp:(ops[g]?).bind (·.dst)=iG s:=by rfl)(hb:yX rd s=iG (.lit (.bool b)):=by rfl)(h:∀E':Env,E'.Has rd→Ok P Γ o E' (E'.app wr chg):=by intro E' h;exact zP1 inferInstance (hO h rfl) rfl rfl rfl):DK P Γ pn ops id hs E0 Q (o::os) E acc:=dG rd [(wr,chg)] gA (fun E' h'=>zW.guard g b s (h E' h') hg gp (hE h' hb)) k
theorem wY(rd:List (Nat×T))(k:DK P Γ pn ops id hs E0 Q os (E.app wr chg) (⟨rd,[(wr,chg)]⟩::acc))(gA:E.Has rd:=by repeat (first|exact trivial|refine⟨rfl,?_⟩))(h:∀E':Env,E'.Has rd→Ok P Γ o E' (E'.app wr chg):=by intro E' h;first|exact zBg (hO h rfl) (zEJ (hO h rfl)) rfl|exact zBg (hO h rfl) (isPtr_addr (hO h rfl)) rfl|exact zBg (hO h rfl) (zFJ (by first|exact wI (hE h rfl) rfl|exact tQ (hE h rfl) (hE h rfl) (by first|rfl|exact zU (by assumption) rfl|exact zU (by assumption) (zU (by assumption) rfl)|exact yY rfl (zU (by assumption) rfl)|exact xD (zU (by assumption) rfl)|exact xD (yY rfl (zU (by assumption) rfl))|exact xD (yY rfl (zU (by assumption) (zU (by assumption) rfl)))) rfl)) rfl)(hg:o.guard=iH:=by rfl):DK P Γ pn ops id hs E0 Q (o::os) E acc:=dG rd [(wr,chg)] gA (fun E' h'=>zW.op (h E' h') hg) k
theorem zEh{g s:Nat}{b:Bool}(rd:List (Nat×T))(k:DK P Γ pn ops id hs E0 Q os (E.app wr chg) (⟨rd,[(wr,chg)]⟩::acc))(gA:E.Has rd:=by repeat (first|exact trivial|refine⟨rfl,?_⟩))(hg:o.guard=iG (g,b):=by rfl)(gp:(ops[g]?).bind (·.dst)=iG s:=by rfl)(hb:yX rd s=iG (.lit (.bool b)):=by rfl)(h:∀E':Env,E'.Has rd→Ok P Γ o E' (E'.app wr chg):=by intro E' h;first|exact zBg (hO h rfl) (zEJ (hO h rfl)) rfl|exact zBg (hO h rfl) (isPtr_addr (hO h rfl)) rfl|exact zBg (hO h rfl) (zFJ (by first|exact wI (hE h rfl) rfl|exact tQ (hE h rfl) (hE h rfl) (by first|rfl|exact zU (by assumption) rfl|exact zU (by assumption) (zU (by assumption) rfl)|exact yY rfl (zU (by assumption) rfl)|exact xD (zU (by assumption) rfl)|exact xD (yY rfl (zU (by assumption) rfl))|exact xD (yY rfl (zU (by assumption) (zU (by assumption) rfl)))) rfl)) rfl):DK P Γ pn ops id hs E0 Q (o::os) E acc:=dG rd [(wr,chg)] gA (fun E' h'=>zW.guard g b s (h E' h') hg gp (hE h' hb)) k
theorem zGF(rd:List (Nat×T))(k:DK P Γ pn ops id hs E0 Q os (E.app wr chg) (⟨rd,[(wr,chg)]⟩::acc))(gA:E.Has rd:=by repeat (first|exact trivial|refine⟨rfl,?_⟩))(h:∀E':Env,E'.Has rd→Ok P Γ o E' (E'.app wr chg):=by intro E' h;exact zYF (by first|exact wI (hE h rfl) rfl|exact tQ (hE h rfl) (hE h rfl) (by first|rfl|exact zU (by assumption) rfl|exact zU (by assumption) (zU (by assumption) rfl)|exact yY rfl (zU (by assumption) rfl)|exact xD (zU (by assumption) rfl)|exact xD (yY rfl (zU (by assumption) rfl))|exact xD (yY rfl (zU (by assumption) (zU (by assumption) rfl)))) rfl) (hO h rfl) (by assumption) rfl)(hg:o.guard=iH:=by rfl):DK P Γ pn ops id hs E0 Q (o::os) E acc:=dG rd [(wr,chg)] gA (fun E' h'=>zW.op (h E' h') hg) k
theorem zSP(rd:List (Nat×T))(k:DK P Γ pn ops id hs E0 Q os (E.app wr chg) (⟨rd,[(wr,chg)]⟩::acc))(gA:E.Has rd:=by repeat (first|exact trivial|refine⟨rfl,?_⟩))(h:∀E':Env,E'.Has rd→Ok P Γ o E' (E'.app wr chg):=by intro E' h;exact zS7 (by assumption) (hO h rfl) (hO h rfl) rfl)(hg:o.guard=iH:=by rfl):DK P Γ pn ops id hs E0 Q (o::os) E acc:=dG rd [(wr,chg)] gA (fun E' h'=>zW.op (h E' h') hg) k
theorem yAs(rd:List (Nat×T))(k:DK P Γ pn ops id hs E0 Q os (E.app wr chg) (⟨rd,[(wr,chg)]⟩::acc))(gA:E.Has rd:=by repeat (first|exact trivial|refine⟨rfl,?_⟩))(h:∀E':Env,E'.Has rd→Ok P Γ o E' (E'.app wr chg):=by intro E' h;exact zX4 (by assumption) (hO h rfl) (hO h rfl) rfl)(hg:o.guard=iH:=by rfl):DK P Γ pn ops id hs E0 Q (o::os) E acc:=dG rd [(wr,chg)] gA (fun E' h'=>zW.op (h E' h') hg) k
theorem yAt(rd:List (Nat×T))(k:DK P Γ pn ops id hs E0 Q os (E.app wr chg) (⟨rd,[(wr,chg)]⟩::acc))(gA:E.Has rd:=by repeat (first|exact trivial|refine⟨rfl,?_⟩))(h:∀E':Env,E'.Has rd→Ok P Γ o E' (E'.app wr chg):=by intro E' h;exact zX5 (by assumption) (hO h rfl) rfl)(hg:o.guard=iH:=by rfl):DK P Γ pn ops id hs E0 Q (o::os) E acc:=dG rd [(wr,chg)] gA (fun E' h'=>zW.op (h E' h') hg) k
theorem zAy(rd:List (Nat×T))(k:DK P Γ pn ops id hs E0 Q os (E.app wr chg) (⟨rd,[(wr,chg)]⟩::acc))(gA:E.Has rd:=by repeat (first|exact trivial|refine⟨rfl,?_⟩))(h:∀E':Env,E'.Has rd→Ok P Γ o E' (E'.app wr chg):=by intro E' h;exact zKx inferInstance rfl)(hg:o.guard=iH:=by rfl):DK P Γ pn ops id hs E0 Q (o::os) E acc:=dG rd [(wr,chg)] gA (fun E' h'=>zW.op (h E' h') hg) k
theorem cA{f:FuncId}{xs:List Operand}{ats:Array TypeId}{us res:List T}(gu:zBi P f)(hc:FnC P f us res [])(k:RW P Γ pn ops os (E.app (cWr d res []) (uN d [])) Q)(gc:wA E [] 0 xs us:=by repeat (first|exact trivial|refine⟨agC _ rfl (by first|rfl|exact zD3 inferInstance|exact zBO rfl (by first|rfl|exact zU (by assumption) rfl|exact zU (by assumption) (zU (by assumption) rfl)|exact yY rfl (zU (by assumption) rfl)|exact xD (zU (by assumption) rfl)|exact xD (yY rfl (zU (by assumption) rfl))|exact xD (yY rfl (zU (by assumption) (zU (by assumption) rfl)))) inferInstance|exact cloSR rfl (by first|rfl|exact zU (by assumption) rfl|exact zU (by assumption) (zU (by assumption) rfl)|exact yY rfl (zU (by assumption) rfl)|exact xD (zU (by assumption) rfl)|exact xD (yY rfl (zU (by assumption) rfl))|exact xD (yY rfl (zU (by assumption) (zU (by assumption) rfl))))) rfl,?_⟩))(gk:kY res:=by repeat (first|exact sB|refine jL inferInstance ?_))(sd:J6 d Γ.N=iI:=by rfl)(hg:gd=iH:=by rfl)(hp:pn.ok (iG d)=iI:=by rfl):
  RW P Γ pn ops (⟨iG d,.call { callee:=.value (.func f),args:=xs.toArray,argTypes:=ats },ty,ps,af,gd⟩::os) E Q:=oP (uD gu hc gc gk sd) k hg hp
theorem dC{f:FuncId}{xs:List Operand}{ats:Array TypeId}{us res:List T}(rd:List (Nat×T))(gu:zBi P f)(hc:FnC P f us res [])(k:DK P Γ pn ops id hs E0 Q os (E.app (cWr d res []) (uN d [])) (⟨rd,[(cWr d res [],uN d [])]⟩::acc))(gA:E.Has rd:=by repeat (first|exact trivial|refine⟨rfl,?_⟩))(gc:∀E':Env,E'.Has rd→wA E' [] 0 xs us:=by intro E' h;repeat (first|exact trivial|refine⟨agC _ (hO h rfl) (by first|rfl|exact zD3 inferInstance|exact zBO (hE h rfl) (by first|rfl|exact zU (by assumption) rfl|exact zU (by assumption) (zU (by assumption) rfl)|exact yY rfl (zU (by assumption) rfl)|exact xD (zU (by assumption) rfl)|exact xD (yY rfl (zU (by assumption) rfl))|exact xD (yY rfl (zU (by assumption) (zU (by assumption) rfl)))) inferInstance|exact cloSR (hE h rfl) (by first|rfl|exact zU (by assumption) rfl|exact zU (by assumption) (zU (by assumption) rfl)|exact yY rfl (zU (by assumption) rfl)|exact xD (zU (by assumption) rfl)|exact xD (yY rfl (zU (by assumption) rfl))|exact xD (yY rfl (zU (by assumption) (zU (by assumption) rfl))))) rfl,?_⟩))(gk:kY res:=by repeat (first|exact sB|refine jL inferInstance ?_))(sd:J6 d Γ.N=iI:=by rfl)(hg:gd=iH:=by rfl):
  DK P Γ pn ops id hs E0 Q (⟨iG d,.call { callee:=.value (.func f),args:=xs.toArray,argTypes:=ats },ty,ps,af,gd⟩::os) E acc:=
 dG rd [(cWr d res [],uN d [])] gA (fun E' h'=>zW.op (uD gu hc (gc E' h') gk sd) hg) k
theorem sk2{g s:Nat}{b b':Bool}(k:RW P Γ pn ops os (E.app [(d,iG (.tup []))] [(d,0)]) Q)(hd:o.dst=iG d:=by rfl)(hg:o.guard=iG (g,b):=by rfl)(gp:(ops[g]?).bind (·.dst)=iG s:=by rfl)(hb:E s=iG (.lit (.bool b')):=by rfl)(cS:(b==b')=iJ:=by rfl)(sd:J6 d Γ.N=iI:=by rfl)(hp:pn.ok o.dst=iI:=by rfl):
  RW P Γ pn ops (o::os) E Q:=RW.cons (zW.skip2 g b b' s hd sd cS hg gp hb) k hp
theorem wG{g s:Nat}{b b':Bool}(k:DK P Γ pn ops id hs E0 Q os (E.app [(d,iG (.tup []))] [(d,0)]) (⟨[(s,.lit (.bool b'))],[([(d,iG (.tup []))],[(d,0)])]⟩::acc))(hd:o.dst=iG d:=by rfl)(hg:o.guard=iG (g,b):=by rfl)(gp:(ops[g]?).bind (·.dst)=iG s:=by rfl)(hb:E s=iG (.lit (.bool b')):=by rfl)(cS:(b==b')=iJ:=by rfl)(sd:J6 d Γ.N=iI:=by rfl):
  DK P Γ pn ops id hs E0 Q (o::os) E acc:=dG [(s,.lit (.bool b'))] [([(d,iG (.tup []))],[(d,0)])] ⟨hb,trivial⟩ (fun _E' h=>zW.skip2 g b b' s hd sd cS hg gp h.1) k
theorem yCd{g s:Nat}{b:Bool}(k:DK P Γ pn ops id hs E0 Q os (E.app [(d,iG (.tup []))] [(d,0)]) (⟨[(s,.tup [])],[([(d,iG (.tup []))],[(d,0)])]⟩::acc))(hd:o.dst=iG d:=by rfl)(hg:o.guard=iG (g,b):=by rfl)(gp:(ops[g]?).bind (·.dst)=iG s:=by rfl)(hb:E s=iG (.tup []):=by rfl)(sd:J6 d Γ.N=iI:=by rfl):
  DK P Γ pn ops id hs E0 Q (o::os) E acc:=dG [(s,.tup [])] [([(d,iG (.tup []))],[(d,0)])] ⟨hb,trivial⟩ (fun _E' h=>zW.skip3 g b s hd sd hg gp h.1) k
theorem dNA(hm:P.follows .mixedOrders=iI)(hQ:Q .normal E)(hf:zAR 0 ops.toList=iI:=by rfl)(ha:zAv (zYA ops.toList) (zYA ops.toList) ops.toList=iI:=by rfl)(hp:kH acc.reverse 0 (zYA ops.toList) acc.reverse=iI:=by rfl)
  (ap:ops.toList.all (fun o=>pn.ok o.dst)=iI:=by rfl)(hh0:zSK hs E0=iI:=by rfl)(hw:acc.reverse.all (wrS hs)=iI:=by rfl):DK P Γ pn ops id hs E0 Q [] E acc:=dN _ hm hQ hf ha hp ap hh0 hw
theorem cn{c1 c2:Code}{α:Type}{b:Bool}{u v z:α}(h:cond b u v=z)(ht:b=iI→u=z→CW P Γ pn c1 E Q)(hf:b=iJ→v=z→CW P Γ pn c2 E Q)(hb:opT E x=iG (.lit (.bool b)):=by rfl):CW P Γ pn (.cond x c1 c2) E Q:=
 CW.cond b hb (fun hc=>ht hc (cT hc h)) fun hc=>hf hc (cF hc h)
theorem fB{f:FuncId}{fn:Func}{c:Code}{us res:List T}{rws:List (Nat×T)}(hf:P.funcs[f]? =iG fn)(h:∀(St:Stb)(W:Nat→Prop)(w0:World)(v:Nat→Value),CW P ⟨St,W,w0,fn.ntmps⟩ (zC6 v (rws.map (·.1))) c (yX (zIR 0 us)) (tV ⟨St,W,w0,fn.ntmps⟩ P fn.results us res rws))(hb:fn.body=iG c:=by rfl)(hn:us.length≤fn.ntmps:=by exact Nat.le_of_ble_eq_true rfl)
  (ht:vU us:=by repeat (first|exact trivial|refine⟨by first|exact Top.of_clean _ (Enc.clean _)|simp[Top,vU],?_⟩))(hr:rws.all (fun x=>decide (x.1<us.length))=iI:=by rfl):FnC P f us res rws:=
 FnC.of_bodyG hf hb hn ht hr (by rintro⟨St,W,w0,N⟩ v hN;subst hN;exact h St W w0 v)
def zEi:List ResultVar→Option (List Nat)
 | []=>iG []
 |.tmp s::l=>(zEi l).map (s::·)
 |.cell _ _::_=>iH
theorem zJ6:∀(rs:List ResultVar)(ss:List Nat)(res:List T),zEi rs=iG ss→ss.map E=res.map iG→res.all T.okTup=iI→ ∃nd:Nds,zQG P E rs nd∧nd.map (·.2.2)=res∧nd.map (·.1)=ss
 | [],ss,res,h,hE,_=>by
  simp[zEi]at h;subst h;cases res with
  |nil=>exact⟨[],trivial,rfl,rfl⟩
  |cons _ _=>simp at hE
 |.tmp s::rs,ss,res,h,hE,ht=>by
  simp only[zEi,Ko]at h;obtain⟨ss',h,rfl⟩:=h;cases res with
  |nil=>simp at hE
  |cons t res=>
   simp only[Jn,Ja3.injEq]at hE;simp only[Q7,J4]at ht;obtain⟨nd,h1,h2,h3⟩:=zJ6 rs ss' res h hE.2 ht.2;exact⟨(s,[],t)::nd,⟨⟨rfl,rfl,hE.1,ht.1⟩,h1⟩,by simp[h2],by simp[h3]⟩
 |.cell _ _::_,_,_,h,_,_=>by simp[zEi]at h
theorem rT{rs:Array ResultVar}{us res:List T}{rws:List (Nat×T)}{e:Exit}{ss:List Nat}(hs:zEi rs.toList=iG ss:=by rfl)(hE:ss.map E=res.map iG:=by rfl)(ht:res.all T.okTup=iI:=by rfl)(hl:ss.all (fun s=>Nat.ble us.length s)=iI:=by rfl)(hn:zBQ ss=iI:=by rfl)
  (hw:LOk E us rws:=by repeat (first|exact trivial|refine⟨⟨rfl,_,rfl⟩,?_⟩))(he:e=.ret∨e=.normal:=by first|exact .inl rfl|exact .inr rfl):tV Γ P rs us res rws e E:=by
 obtain⟨nd,h1,h2,h3⟩:=zJ6 (P:=P) rs.toList ss res hs hE ht;refine⟨E,zO.refl,he,nd,h1,h2,fun x hx=>?_,by rw[h3];exact zFL hn,hw⟩;have:x.1∈ss:=by rw[←h3];exact Jl.2 ⟨x,hx,rfl⟩
 exact Nat.le_of_ble_eq_true (Ki.1 hl _ this)
theorem eN{σ ρ:Type}{en:σ→Env}{Q1:ρ→Exit→Env→Prop}{y:σ}{x:σ⊕ρ}(h:iG (Sum.inl y)=iG x)(q:zO Γ E (en y):=by exact .has (by repeat (first|exact trivial|refine⟨rfl,?_⟩))):uU Γ en Q1 x .normal E:=by obtain rfl:=sI h;exact⟨rfl,q⟩
theorem rTg{rs:Array ResultVar}{us res:List T}{rws:List (Nat×T)}{e:Exit}(hg:zO Γ E E')(h:tV Γ P rs us res rws e E'):tV Γ P rs us res rws e E:=by obtain⟨E2,h1,h2⟩:=h;exact⟨E2,hg.trans h1,h2⟩
theorem eX{σ ρ:Type}{en:σ→Env}{Q1:ρ→Exit→Env→Prop}{y:ρ}{x:σ⊕ρ}{e:Exit}(h:iG (Sum.inr y)=iG x)(q:Q1 y e E:=by first|exact⟨rfl,.has (by repeat (first|exact trivial|refine⟨rfl,?_⟩))⟩|exact⟨rfl,rT⟩)(gf:e≠.normal:=by first|exact neX|exact neR):uU Γ en Q1 x e E:=by obtain rfl:=sI h;exact⟨gf,q⟩
end
end Go.Ab

namespace Go.Ab
open Go
section
variable {Γ:Ctx}{E:Env}
theorem zO.frzG(s:Nat)(t:T){t':T}(hs:E s=iG t)(h:uC t=t'):zO Γ E (E.app [(s,iG t')] [(s,1)]):=h▸zO.freeze s t hs
theorem fzO{α:Type}{k:Nat}{f g:α→T}{xs:List α}(h:uW f g):uC (L k f xs)=.ro (L k g xs):=by simp only[uC,strip,sE h.h xs]
theorem fzA{xs ys:List T}(h:uE xs=ys):uC (.agg xs)=.agg ys:=by simp only[uC,h]
theorem fzN:uE []=[]:=rfl
theorem fzC{x y:T}{xs ys:List T}(h:uC x=y)(h2:uE xs=ys):uE (x::xs)=y::ys:=by simp only[uE,h,h2]
end
end Go.Ab
namespace Go.Ab
open Go
theorem zPC{α:Type}{k:Nat}{f:α→T}{xs:List α}{i j:Int}{a b:α}{X:T}(hi:ixO xs i=iG a)(hj:ixO xs j=iG b)(gf:(i != j)=iI):
  (if[i.toNat]=[]then X else(L k f xs).set [i.toNat].reverse T.any).get [j.toNat].reverse=iG (f b):=by
 have h1:=(uV hi);have h2:=(uV hj);have h3:i≠j:=by simpa using gf
 have h4:i.toNat≠j.toNat:=by omega
 simp only[List.cons_ne_nil,if_false,Ul,Qi,Jv];simp[T.set,T.get,h1.2,h2.2,Qa h4]
theorem zK4{E:Env}{rs:List Nat}{s r:Nat}{q:List Nat}{tr u:T}(hr:E r=iG tr)(hg:tr.get q.reverse=iG u)(h4:zAw u=iI)(hn:rs.contains r=iJ):zJs E rs (.tmp s) (.same r q)=iI:=by simp only[zJs,qL,zDo hr hg h4,hn,Kd]
end Go.Ab
