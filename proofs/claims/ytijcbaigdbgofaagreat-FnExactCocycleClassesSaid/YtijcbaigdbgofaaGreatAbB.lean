/- The program's CocycleClasses returns what the reference's returns,for all arguments;no conditions. -/
import Derived.Test.YtijcbaigdbgofaaGreatAbA
import Derived.Laws.CopyRow
import Derived.ProofKit
open List renaming replicate→J1,getElem?_eq_getElem→J4,length_append→J5,length_cons→J7,mem_cons→J8,append_nil→Jd,mem_append→Je,range→Jf,length_map→Ji,mem_map→Jm,getElem?_eq_some_iff→Jn,map_cons→Jo,length_nil→Jp,replicate_succ→Jq,nil_append→Jx,cons_append→K4,getElem?_map→K5,take_zero→Ka,all_eq_true→Kg,reverse_reverse→Kj,range'→Ku,mem_iff_getElem→L7,map_append→L8,nodup_cons→L9,flatMap_cons→Lb,length_range→Le,take_succ_cons→Lf,range_eq_range'→Ll,eq_nil_of_length_eq_zero→Lm,singleton_append→Lr,mem_of_getElem?→Lu,getElem?_drop→Lz,contains_eq_mem→Hd,drop_zero→Gf,mem_cons_of_mem→Gi,map_nil→U6,getElem?_cons_succ→Un,getElem?_set_self→Qy,mem_iff_getElem?→Ja1,map_map→Jak,getLast?_append→Jal,dropLast_concat→Jam,map_set→Jav,cons→Jay,reverse_cons→Jbd,map_take→Jbe,all_cons→Jbi,mem_filter→Jbl,size_toArray→Jbt,getElem?_set→Jbu,getElem?_take→Jcp,map_drop→Jcv,getD→Jcw,range'_succ→Jd3,getElem?_set_ne→Jd4
open Bool renaming and_eq_true→J3,not_true→K0,and_self→Ks,false_eq_true→Hu,not_eq_true'→U2
open Nat renaming blt→J6,zero_add→Jc,le_refl→Jg,lt_or_ge→Jk,mul_le_mul_right→K9,zero_le→Kn,div_add_mod→Ly,div_lt_iff_lt_mul→Ha,le_trans→Hc,mul_comm→Hy,mod_lt→G4,add_zero→Gv,mul_one→Ul,sub_zero→Jb9,beq→Jba
open Array renaming getElem?_setIfInBounds→Jj,getD_eq_getD_getElem?→Ki,length_toList→Kq,getElem?_toList→Kt,getElem?_eq_some_iff→Kz,getElem?_setIfInBounds_ne→Hp,replicate→Qc,getElem?_append→Qz
open Int renaming emod_eq_of_lt→Kb,add_emod_right→Uc
open Option renaming map_eq_some_iff→Ky,some→Ln,map_some→H4,getD_some→Qd
open Prod renaming mk→Jao
open Option renaming some→ik,none→im
open Bool renaming true→io,false→iq
namespace Go.Ab
open Go
abbrev Rw:=List (Nat×Nat×T)
def rwI(rw:Rw)(s:Nat):Option Nat:=(rw.find? fun x=>x.2.1==s).map (·.1)
def rwS(rw:Rw)(i:Nat):Option Nat:=(rw.find? fun x=>x.1==i).map (·.2.1)
theorem zC0:(rw:Rw)→(rw.map (·.2.1)).Nodup→ ∀{i s:Nat}{u:T},(i,s,u)∈rw→rwI rw s=ik i
 | [],_,_,_,_,h=>by simp at h
 |(i0,s0,u0)::rw,hn,i,s,u,h=>by
  simp only[Jo,L9,Jm]at hn;rcases J8.1 h with h|h
  ·simp at h;obtain⟨rfl,rfl,rfl⟩:=h;simp[rwI]
  ·have gj:s0≠s:=by grind
   have:=zC0 rw hn.2 h
   grind[rwI]
theorem zLl:(rw:Rw)→(rw.map (·.1)).Nodup→ ∀{i s:Nat}{u:T},(i,s,u)∈rw→rwS rw i=ik s
 | [],_,_,_,_,h=>by simp at h
 |(i0,s0,u0)::rw,hn,i,s,u,h=>by
  simp only[Jo,L9,Jm]at hn;rcases J8.1 h with h|h
  ·simp at h;obtain⟨rfl,rfl,rfl⟩:=h;simp[rwS]
  ·have gj:i0≠i:=by grind
   have:=zLl rw hn.2 h
   grind[rwS]
theorem zLm{rw:Rw}{s:Nat}(h:s∉rw.map (·.2.1)):rwI rw s=im:=by
 simp only[rwI,Option.map_eq_none_iff,List.find?_eq_none]
 grind
theorem zRE{rw:Rw}{i:Nat}(h:∀x∈rw,x.1≠i):rwS rw i=im:=by grind[rwS]
theorem zOB{rw:Rw}{s i:Nat}(h:rwI rw s=ik i):s∈rw.map (·.2.1):=by grind[rwI,Ky]
abbrev Nd:=List (Nat×List Nat×T)
def zRF(nd:Nd)(k s:Nat):Option (Nat×List Nat):=
 match nd with
 | []=>im
 |x::r=>if x.1=s then ik (k,x.2.1)else zRF r (k+1) s
def ndB(d:Nat)(nd:Nd)(s:Nat)(z:List Nat):Option (Nat×List Nat):=
 match nd with
 | [x]=>if x.1=s∧x.2.1<:+z then ik (d,z.take (z.length-x.2.1.length))else im
 |nd=>match zRF nd 0 s with
  |some (k,q)=>if q<:+z then ik (d,z.take (z.length-q.length)++[k])else im
  |none=>im
theorem zIP:(nd:Nd)→(nd.map (·.1)).Nodup→ ∀{k k0:Nat}{x:Nat×List Nat×T},nd[k]? =ik x→zRF nd k0 x.1=ik (k0+k,x.2.1)
 | [],_,_,_,_,h=>by simp at h
 |y::nd,hn,k,k0,x,h=>by
  simp only[Jo,L9,Jm]at hn;cases k with
  |zero=>grind[zRF]
  |succ k=>
   simp only[Un]at h;have gj:y.1≠x.1:=by grind
   simp only[zRF,gj,if_false];rw[zIP nd hn.2 h]
   grind
def zRG(G:Gh)(nd:Nd)(z:List Nat):Value:=
 match nd with
 | [x]=>G.hd x.1 (z++x.2.1)
 |nd=>match z.getLast? with
  |some k=>(match nd[k]? with
   |some x=>G.hd x.1 (z.dropLast++x.2.1)
   |none=>.bool iq)
  |none=>.bool iq
def zVg(G:Gh)(nd:Nd)(z:List Nat):Addr:=
 match nd with
 | [x]=>G.ad x.1 (z++x.2.1)
 |nd=>match z.getLast? with
  |some k=>(match nd[k]? with
   |some x=>G.ad x.1 (z.dropLast++x.2.1)
   |none=>default)
  |none=>default
def Gh.arg(G:Gh)(a:Act)(xs:List Operand)(rw:Rw):Gh where
 hd i z:=match xs[i]? with
  |some (.tmp s)=>G.hd s z
  |some x=>jX (a.eval x)
  |none=>.bool iq
 ad i z:=match xs[i]? with
  |some (.tmp s)=>G.ad s z
  |_=>default
 lb b o:=match G.lb b o with
  |some (f,s,z)=>(match rwI rw s,G.ow b with
   |some i,ik (s',_)=>if s'=s then ik (f,i,z)else im
   |_,_=>im)
  |none=>im
 ow b:=match G.ow b with
  |some (s,z)=>(match rwI rw s with
   |some i=>ik (i,z)
   |none=>im)
  |none=>im
def zAL(G:Gh)(rw:Rw)(b:Nat):Prop:=∃s z,G.ow b=ik (s,z)∧s∈rw.map (·.2.1)
def zDD(d:Nat)(rw:Rw)(nd:Nd)(s:Nat)(z:List Nat):Option (Nat×List Nat):=
 match rwS rw s with
 |some s'=>ik (s',z)
 |none=>ndB d nd s z
open Classical in
noncomputable def Gh.back (G G':Gh) (n0 d:Nat) (rw:Rw) (nd:Nd):Gh where
 hd s z:=if s=d then zRG G' nd z else match rwI rw s with
  |some i=>G'.hd i z
  |none=>G.hd s z
 ad s z:=if s=d then zVg G' nd z else match rwI rw s with
  |some i=>if z=[]then G.ad s z else G'.ad i z
  |none=>G.ad s z
 lb b o:=if zAL G rw b∨n0≤b then(match G'.lb b o with
  |some (f,s,z)=>(match zDD d rw nd s z with
   |some (s',z')=>ik (f,s',z')
   |none=>im)
  |none=>im)else G.lb b o
 ow b:=if zAL G rw b∨n0≤b then(match G'.ow b with
  |some (s,z)=>zDD d rw nd s z
  |none=>im)else G.ow b
def zNk(res:List T):T:=match res with
 | [u]=>u
 |us=>.tup us
def cWr(d:Nat)(res:List T)(rw:Rw):Wr:=(d,ik (zNk res))::rw.map fun x=>(x.2.1,ik x.2.2)
def cLv(t:T):Nat:=if t.single then 1 else 0
def uC(d:Nat)(rw:Rw):Chg:=(d,0)::rw.map fun x=>(x.2.1,cLv x.2.2)
theorem zHg{d:Nat}{rw:Rw}{x:Nat×Nat×T}(h:x∈rw):(x.2.1,cLv x.2.2)∈uC d rw:=Gi _ (by grind)
theorem zOC{Gn G':Gh}{d:Nat}:(nd:Nd)→ ∀(j:Nat),(∀k x,nd[k]? =ik x→ ∀z,Gn.hd d (z++[j+k])=G'.hd x.1 (z++x.2.1))→jP Gn d (nd.map (·.2.2)) [] j=nd.map fun x=>sQ G' x.1 x.2.2 x.2.1
 | [],_,_=>by simp[jP]
 |x::nd,j,h=>by
  have ih:=zOC (Gn:=Gn) (G':=G') (d:=d) nd (j+1) (fun k y hy z=>by rw[show j+1+k=j+(k+1)from by omega];exact h (k+1) y (by grind) z)
  simp only[Jo,jP,ih];rw[zBE x.2.2 x.2.1 [j] (by simpa using h 0 x (by simp))]
theorem zRH{d:Nat}{res:List T}{rw:Rw}{s:Nat}{x:Option T}(h:(cWr d res rw).find s=ik x):(s=d∧x=ik (zNk res))∨(s≠d∧ ∃i u,(i,s,u)∈rw∧x=ik u):=by
 simp only[cWr,Wr.find]at h;split at h
 ·grind
 ·rename_i gj
  refine .inr ⟨fun e=>gj e.symm,?_⟩
  clear gj
  induction rw with
  |nil=>grind[Wr.find]
  |cons y rw ih=>
   grind[Wr.find]
theorem zRI{d:Nat}{res:List T}{rw:Rw}{s:Nat}(h:(cWr d res rw).find s=im):s≠d∧s∉rw.map (·.2.1):=by
 simp only[cWr,Wr.find]at h;split at h
 ·cases h
 ·rename_i gj
  refine⟨fun e=>gj e.symm,?_⟩
  clear gj
  induction rw with
  |nil=>simp
  |cons y rw ih=>
   simp only[Jo,Wr.find]at h
   grind
def aft(S Sc S':Stb):Stb:=fun b=>match Sc b with
 |none=>S' b
 |some _=>S b
theorem Rep.up{Γ:Ctx}{E:Env}{G:Gh}{tmps tmps':Array Value}{w w':World}{G':Gh}{wr:Wr}{chg:Chg}{S:Stb}(h:Rep Γ E G tmps w)(hS:∀b x,Γ.St b=ik x→S b=ik x)
  (gP:tmps'.size=tmps.size)(hk:qY chg G w G' w')(gr:Mem (Γ.at S) G' w')
  (gI:∀s,wr.find s=im→(∀n,(s,n)∉chg)∧tmps'[s]? =tmps[s]?)
  (eL:∀s t,wr.find s=ik (ik t)→Ent (Γ.at S) G' w' tmps'[s]? s t):Rep (Γ.at S) (E.app wr chg) G' tmps' w' where
 size:=by rw[gP];exact h.size
 mem:=gr
 ent s t hs:=by
  unfold Env.app at hs;cases hf:wr.find s with
  |some x=>
   grind
  |none=>
   rw[hf]at hs;simp at hs;cases he:E s with
   |none=>grind
   |some u=>
    simp[he]at hs;obtain⟨gC,rfl⟩:=hs;rw[(gI s hf).2];obtain⟨e1,e2,e3⟩:=Ent.keep hk (gI s hf).1 gC (h.ent s u he);exact⟨e1,zJR hS u [] e2,e3⟩
section
variable {P:Program}{Γ:Ctx}{E:Env}{d:Nat}
theorem zHh{G:Gh}{a:Act}{w:World}(g9:Rep Γ E G a.tmps w)(hd:d<Γ.N){Sc:Stb}{rw:Rw}(hS1:∀b x,Sc b=ik x→w.heap[b]? =ik x∧ ¬zAL G rw b)(hS0:∀b x,Γ.St b=ik x→Sc b=ik x){f:FuncId}{us res:List T}
  (hc:FnC P f us res (rw.map fun x=>(x.1,x.2.2))){xs:List Operand}(gf:xs.length=us.length)
  (gc:∀(i:Nat) u,us[i]? =ik u→(∃x,xs[i]? =ik x∧a.eval x=mkV (G.arg a xs rw) i u []∧R Sc (G.arg a xs rw) w i u []))
  (hn1:(d::rw.map (·.2.1)).Nodup)(b9:(rw.map (·.1)).Nodup)(fI:∀x∈rw,xs[x.1]? =ik (.tmp x.2.1))
  (gm:∀u∈res,yD u∧u.okTup=io∧ ∀(S':Stb)(G:Gh)(w:World)(s:Nat)(p:List Nat),(∀b x,Sc b=ik x→S' b=ik x)→R S' G w s u p→R (aft Γ.St Sc S') G w s u p)
  (ab:∀x∈rw,yD x.2.2∧(∀(S':Stb)(G:Gh)(w:World)(s:Nat)(p:List Nat),(∀b x,Sc b=ik x→S' b=ik x)→R S' G w s x.2.2 p→R (aft Γ.St Sc S') G w s x.2.2 p)∧ ∃u,E x.2.1=ik u∧x.2.2.single=u.single∧us[x.1]? =ik u):
  Calls P f (xs.map a.eval).toArray w fun e w'=> ∃v,e=.returned v∧ ∃S G',zDz Γ.St S Γ.W Γ.w0.heap.size∧qY (uC d rw) G w G' w'∧Rep (Γ.at S) (E.app (cWr d res rw) (uC d rw)) G' (a.tmps.setIfInBounds d v) w':=by
 have hm:=g9.mem;have ms:=L9.1 hn1;have hmc:Mem ⟨Sc,zAL G rw,w,0⟩ (G.arg a xs rw) w:=by
  have gB:∀b,zAL G rw b→Sc b=im:=fun b h=>by
   cases hs:Sc b with
   |none=>rfl
   |some x=>exact absurd h (hS1 b x hs).2
  refine⟨fun i z=>?_,fun b o l hl=>?_,fun b l hl=>?_,fun b x hx=>(hS1 b x hx).1,fun b _ _=>rfl,Jg _,⟨fun b cs e h=>⟨cs,h,rfl⟩,rfl,rfl⟩⟩
  ·simp only[Gh.arg]
   split
   ·exact hm.one _ _
   ·exact zBl _
   ·rfl
  ·simp only[Gh.arg]at hl
   split at hl
   ·rename_i f' s z hg
    split at hl
    ·rename_i i s' y hi ho
     split at hl
     ·rename_i he;subst he
      have hL:zAL G rw b:=⟨s',y,ho,zOB hi⟩;exact⟨(hm.lb b o _ hg).1,.inr hL,gB b hL⟩
     ·cases hl
    ·cases hl
   ·cases hl
  ·simp only[Gh.arg]at hl
   split at hl
   ·rename_i s z hg
    split at hl
    ·rename_i i hi
     have hL:zAL G rw b:=⟨s,z,hg,zOB hi⟩;exact⟨(hm.ow b _ hg).1,.inr hL,gB b hL⟩
    ·cases hl
   ·cases hl
 have gu:=hc Sc (zAL G rw) w (G.arg a xs rw) (xs.map a.eval).toArray (by simp[gf]) (fun i u hu=>by obtain⟨x,h1,h2,h3⟩:=gc i u hu;exact⟨by simp[h1,h2],h3⟩) hmc
 refine gu.mono ?_
 rintro e w' ⟨S',G',nd,gZ,rfl,gD,cH,cS,pW,a9⟩
 have fM:∀b x,Γ.St b=ik x→aft Γ.St Sc S' b=ik x:=fun b x hx=>by simp only[aft,hS0 b x hx,hx]
 have aF:zDz Γ.St (aft Γ.St Sc S') Γ.W Γ.w0.heap.size:=⟨fM,fun b hb eT=>by
  simp only[aft]at eT;split at eT
  ·rename_i hs
   rcases gZ.nw b hs eT with h|⟨s,z,h,_⟩
   ·exact .inl (by have:=hm.sz;omega)
   ·exact(hm.ow b _ h).2.1
  ·exact absurd hb eT⟩
 refine⟨_,rfl,aft Γ.St Sc S',G.back G' w.heap.size d rw nd,aF,?_⟩;have bp:∀b,b<w.heap.size→ ¬zAL G rw b→w'.heap[b]? =w.heap[b]?:=gD.fr;have gy:w.heap.size≤w'.heap.size:=gD.sz;have gK:Blk w w':=gD.bk.blk
 generalize hGn:G.back G' w.heap.size d rw nd=Gn
 have ghdd:∀z,Gn.hd d z=zRG G' nd z:=fun z=>by rw[←hGn];simp[Gh.back]
 have gadd:∀z,Gn.ad d z=zVg G' nd z:=fun z=>by rw[←hGn];simp[Gh.back]
 have ghd0:∀s z,s≠d→s∉rw.map (·.2.1)→Gn.hd s z=G.hd s z:=fun s z h1 h2=>by rw[←hGn];simp[Gh.back,h1,zLm h2]
 have gad0:∀s z,s≠d→s∉rw.map (·.2.1)→Gn.ad s z=G.ad s z:=fun s z h1 h2=>by rw[←hGn];simp[Gh.back,h1,zLm h2]
 have cL:∀i s u,(i,s,u)∈rw→s≠d:=fun i s u h e=>ms.1 (e▸Jm.2 ⟨_,h,rfl⟩)
 have ghdr:∀i s u z,(i,s,u)∈rw→Gn.hd s z=G'.hd i z:=fun i s u z h=>by rw[←hGn];simp[Gh.back,cL i s u h,zC0 rw ms.2 h]
 have gadr:∀i s u z,(i,s,u)∈rw→z≠[]→Gn.ad s z=G'.ad i z:=fun i s u z h h0=>by rw[←hGn];simp[Gh.back,cL i s u h,zC0 rw ms.2 h,h0]
 have gadr0:∀i s u,(i,s,u)∈rw→Gn.ad s []=G.ad s []:=fun i s u h=>by rw[←hGn];simp[Gh.back,cL i s u h,zC0 rw ms.2 h]
 have glb0:∀b o l,¬zAL G rw b→G.lb b o=ik l→Gn.lb b o=ik l:=fun b o l h1 h2=>by have:=(hm.lb b o _ h2).1;rw[←hGn];simp only[Gh.back];rw[if_neg (by rintro(h|h);exact h1 h;omega)];exact h2
 have gow0:∀b l,¬zAL G rw b→G.ow b=ik l→Gn.ow b=ik l:=fun b l h1 h2=>by have:=(hm.ow b _ h2).1;rw[←hGn];simp only[Gh.back];rw[if_neg (by rintro(h|h);exact h1 h;omega)];exact h2
 have gT:∀b o l,G'.lb b o=ik l→zAL G rw b∨w.heap.size≤b:=fun b o l h=>(gD.lb b o l h).2.1.symm
 have bj:∀b l,G'.ow b=ik l→zAL G rw b∨w.heap.size≤b:=fun b l h=>(gD.ow b l h).2.1.symm
 have glb1:∀b o fl s z s' z',G'.lb b o=ik (fl,s,z)→zDD d rw nd s z=ik (s',z')→Gn.lb b o=ik (fl,s',z'):=fun b o fl s z s' z' h1 h2=>by rw[←hGn];simp only[Gh.back];rw[if_pos (gT b o _ h1),h1];simp[h2]
 have gow1:∀b s z l,G'.ow b=ik (s,z)→zDD d rw nd s z=ik l→Gn.ow b=ik l:=fun b s z l h1 h2=>by rw[←hGn];simp only[Gh.back];rw[if_pos (bj b _ h1),h1];simp[h2]
 have df:∀i s u z,(i,s,u)∈rw→zDD d rw nd i z=ik (s,z):=fun i s u z h=>by simp[zDD,zLl rw b9 h]
 have gF:∀x∈rw,x.1<us.length:=fun x hx=>by have:=(Jn.1 (fI x hx)).1;omega
 have hbn:∀x∈nd,∀z,zDD d rw nd x.1 z=ndB d nd x.1 z:=fun x hx z=>by have h1:=(cS x hx).2;have h2:rwS rw x.1=im:=zRE (fun y hy e=>by have:=gF y hy;omega);simp[zDD,h2]
 have mH:∀(k:Nat) x,nd[k]? =ik x→ ∃tgt,(nd.length=1→tgt=[])∧(nd.length≠1→tgt=[k])∧(∀z,Gn.hd d (z++tgt)=G'.hd x.1 (z++x.2.1))∧(∀z,Gn.ad d (z++tgt)=G'.ad x.1 (z++x.2.1))∧ ∀z,zDD d rw nd x.1 (z++x.2.1)=ik (d,z++tgt):=by
  intro k x hk;have bH:=Lu hk
  match nd,hk,pW,hbn x bH,ghdd,gadd with
  | [y],hk,pW,hb,ghdd,gadd=>
   have hkx:y=x:=by
    cases k with
    |zero=>simpa using hk
    |succ k=>simp at hk
   subst hkx;exact⟨[],fun _=>rfl,fun h=>absurd rfl h,fun z=>by rw[ghdd];simp[zRG],fun z=>by rw[gadd];simp[zVg],fun z=>by rw[hb];simp[ndB]⟩
  | [],hk,_,_,_,_=>simp at hk
  |y1::y2::r,hk,pW,hb,ghdd,gadd=>
   refine⟨[k],fun h=>by simp at h,fun _=>rfl,fun z=>by rw[ghdd];simp only[zRG,Jal,Jam];simp[hk],fun z=>by rw[gadd];simp only[zVg,Jal,Jam];simp[hk],fun z=>?_⟩;rw[hb];have:=zIP (y1::y2::r) pW (k0:=0) hk;rw[Jc]at this;simp only[ndB,this];simp
 have ml:∀(k:Nat) x,nd[k]? =ik x→ ∀tgt,(∀z,Gn.hd d (z++tgt)=G'.hd x.1 (z++x.2.1))→(∀z,Gn.ad d (z++tgt)=G'.ad x.1 (z++x.2.1))→(∀z,zDD d rw nd x.1 (z++x.2.1)=ik (d,z++tgt))→R (aft Γ.St Sc S') Gn w' d x.2.2 tgt:=by intro k x hk tgt h1 h2 h3;have bH:=Lu hk;obtain⟨c1,c2,c3⟩:=gm x.2.2 (by rw[←cH];exact Jm.2 ⟨x,bH,rfl⟩);refine zAn (G:=G') (w:=w') (s:=x.1) (p:=x.2.1) ⟨⟨h1,fun z _=>h2 z,fun b o f' z _ _ hl=>⟨glb1 b o f' _ _ _ _ hl (h3 z),rfl⟩,fun b z _ hl=>gow1 b _ _ _ hl (h3 z),fun b cs e h=>⟨cs,h,rfl⟩⟩,fun b o _ hl=>⟨glb1 b o io _ _ _ _ hl (by simpa using h3 []),rfl⟩,fun b hl=>gow1 b _ _ _ hl (by simpa using h3 [])⟩ _ (xD.mono (fun _ _=>False.elim) _ c1) (c3 _ _ _ _ _ gZ.le (cS x bH).1)
 have gx:qY (uC d rw) G w Gn w':=by
  have gG:∀s,(∀n,(s,n)∉uC d rw)→s≠d∧s∉rw.map (·.2.1):=fun s h=>⟨fun e=>h 0 (by simp[uC,e]),fun hm=>by obtain⟨x,hx,rfl⟩:=Jm.1 hm;exact h _ (zHg hx)⟩
  have pD:∀b s y,G.ow b=ik (s,y)→s∉rw.map (·.2.1)→ ¬zAL G rw b:=by
   rintro b s y h1 h2 ⟨s',z',h3,h4⟩
   rw[h1]at h3;simp at h3;exact h2 (h3.1▸h4)
  refine⟨fun s p h=>?_,fun s p h=>?_,fun b o fl s p e6 h1 h2=>?_,fun b s p h1 h2=>?_,gK⟩
  ·have h1:s≠d:=fun e=>absurd (h 0 (by simp[uC,e])) (by simp)
   by_cases h2:s∈rw.map (·.2.1)
   ·
    obtain⟨x,hx,rfl⟩:=Jm.1 h2;have hc:=h _ (zHg hx);have c2:x.2.2.single=io:=by
     cases fc:x.2.2.single with
     |true=>rfl
     |false=>simp[cLv,fc]at hc
    have h3:p=[]:=Lm (by simp only[cLv,c2,if_true]at hc;omega);subst h3;obtain⟨_,_,u,c4,c5,c6⟩:=ab x hx;rw[c2]at c5;have c5:=c5.symm;obtain⟨_,u0,e1,e2⟩:=a9 x.1 x.2.2 (Jm.2 ⟨x,hx,rfl⟩);rw[c6]at e1;simp at e1;subst e1;rw[xS c2,xS c5]at e2;rw[ghdr x.1 x.2.1 x.2.2 [] hx,e2];simp[Gh.arg,fI x hx]
   ·exact ghd0 s p h1 h2
  ·have h1:s≠d:=fun e=>absurd (h 0 (by simp[uC,e])) (by simp)
   by_cases h2:s∈rw.map (·.2.1)
   ·obtain⟨x,hx,rfl⟩:=Jm.1 h2
    have hc:=h _ (zHg hx);have h3:p=[]:=Lm (by have:cLv x.2.2≤1:=(by unfold cLv;split<;>omega);omega);subst h3;exact gadr0 x.1 x.2.1 x.2.2 hx
   ·exact gad0 s p h1 h2
  ·obtain⟨h3,h4⟩:=gG s h2
   obtain⟨y,hy⟩:=e6;have h5:=pD b s y hy h4;exact⟨glb0 b o _ h5 h1,by simp[yR,World.cell?,bp b (hm.lb b o _ h1).1 h5]⟩
  ·obtain⟨h3,h4⟩:=gG s h2
   exact gow0 b _ (pD b s p h1 h4) h1
 have gr:Mem (Γ.at (aft Γ.St Sc S')) Gn w':=by
  have gC:∀b,b<w'.heap.size∧(w.heap.size≤b∨zAL G rw b)∧S' b=im→zCr (Γ.at (aft Γ.St Sc S')) w' b:=fun b ⟨hb,h,gJ⟩=>by
   have bK:Sc b=im:=by
    cases hs:Sc b with
    |none=>rfl
    |some x=>rw[gZ.le b x hs]at gJ;cases gJ
   refine⟨hb,?_,by simp only[aft,bK];exact gJ⟩;rcases h with h|⟨s,z,h1,_⟩
   ·exact .inl (by have:=hm.sz;show Γ.w0.heap.size≤b;omega)
   ·exact(hm.ow b _ h1).2.1
  have gI:∀b,¬(zAL G rw b∨w.heap.size≤b)→zCr Γ w b→zCr (Γ.at (aft Γ.St Sc S')) w' b:=fun b h ⟨h1,h2,h3⟩=>by
   refine⟨by omega,h2,?_⟩;simp only[aft];split
   ·rename_i hs
    cases gJ:S' b with
    |none=>rfl
    |some x=>
     rcases gZ.nw b hs (by rw[gJ];simp)with h4|h4
     ·exact absurd (.inr h4) h
     ·exact absurd (.inl h4) h
   ·exact h3
  refine⟨fun s z=>?_,fun b o l hl=>?_,fun b l hl=>?_,fun b x hx=>?_,fun b(h1:b<Γ.w0.heap.size) h2=>?_,Hc hm.sz gy,hm.bk.trans gK gD.bk.os gD.bk.out⟩
  ·by_cases h1:s=d
   ·subst h1
    rw[ghdd];unfold zRG;split
    ·exact gD.one _ _
    ·split
     ·split
      ·exact gD.one _ _
      ·rfl
     ·rfl
   ·by_cases h2:s∈rw.map (·.2.1)
    ·obtain⟨x,hx,rfl⟩:=Jm.1 h2
     rw[ghdr x.1 x.2.1 x.2.2 z hx];exact gD.one _ _
    ·rw[ghd0 s z h1 h2];exact hm.one _ _
  ·rw[←hGn]at hl
   simp only[Gh.back]at hl;split at hl
   ·rename_i mc
    split at hl
    ·rename_i hg
     exact gC b (gD.lb b o _ hg)
    ·cases hl
   ·rename_i mc
    exact gI b mc (hm.lb b o l hl)
  ·rw[←hGn]at hl
   simp only[Gh.back]at hl;split at hl
   ·rename_i mc
    split at hl
    ·rename_i hg
     exact gC b (gD.ow b _ hg)
    ·cases hl
   ·rename_i mc
    exact gI b mc (hm.ow b l hl)
  ·simp only[aft]at hx
   split at hx
   ·exact gD.st b x hx
   have h1:=hm.st b x hx;have h2:=(Kz.1 h1).1;have h3:¬zAL G rw b:=by
    rintro⟨s,z,h4,_⟩
    rw[(hm.ow b _ h4).2.2]at hx;cases hx
   rw[bp b h2 h3];exact h1
  ·have h3:¬zAL G rw b:=by
    rintro⟨s,z,h4,_⟩
    rcases(hm.ow b _ h4).2.1 with h5|h5
    ·omega
    ·exact h2 h5
   rw[bp b (by have:=hm.sz;omega) h3];exact hm.fr b h1 h2
 have uh:nd.length=res.length:=by rw[←cH];simp
 refine⟨gx,g9.up fM (by simp) gx gr ?_ ?_⟩
 ·intro s hs
  obtain⟨h1,h2⟩:=zRI hs;refine⟨fun n hn=>?_,by rw[Jj];simp[Ne.symm h1]⟩;simp only[uC,J8,Jao.injEq,Jm]at hn;rcases hn with⟨e,_⟩|⟨x,hx,e,_⟩
  ·exact h1 e
  ·exact h2 (Jm.2 ⟨x,hx,e⟩)
 ·intro s t hs
  rcases zRH hs with⟨rfl,ht⟩|⟨gj,i,u,cM,ht⟩
  ·simp at ht
   subst ht;rw[Jj];simp only[g9.size,hd,if_true];have pm:res=nd.map (·.2.2):=cH.symm
   by_cases hl:nd.length=1
   ·obtain⟨x,hx⟩:∃x,nd=[x]:=List.length_eq_one_iff.1 hl
    obtain⟨tgt,t1,_,t3,t4,t5⟩:=mH 0 x (by simp[hx]);obtain rfl:=t1 hl;have hr:=ml 0 x (by simp[hx]) [] t3 t4 t5;obtain⟨c1,c2,_⟩:=gm x.2.2 (by rw[pm,hx];simp);have fa:zNk res=x.2.2:=by rw[pm,hx];rfl
    have ef:∀ys,x.2.2≠.tup ys:=fun ys e=>by rw[e]at c2;simp[T.okTup]at c2
    rw[fa];refine⟨?_,hr,Top.of_clean _ c1⟩;rw[kN Gn s _ [] ef,zBE x.2.2 x.2.1 [] t3,hx];rfl
   ·have fa:zNk res=.tup res:=by
     rw[uh]at hl
     match res,hl with
     | [],_=>rfl
     | [u],hl=>simp at hl
     |_::_::_,_=>rfl
    rw[fa];have gH:∀k x,nd[k]? =ik x→ ∀z,Gn.hd s (z++[0+k])=G'.hd x.1 (z++x.2.1):=fun k x hk z=>by obtain⟨tgt,_,t2,t3,_,_⟩:=mH k x hk;rw[t2 hl]at t3;rw[Jc];exact t3 z
    refine⟨?_,?_,?_⟩
    ·have hv:=zOC (Gn:=Gn) (G':=G') (d:=s) nd 0 gH
     rw[cH]at hv;simp only[mkV,hv];unfold zLh;split
     ·simp at hl
     ·rfl
    ·simp only[R]
     rw[pm];refine zO1 _ [] 0 (fun k u hu=>?_);rw[K5]at hu;cases hk:nd[k]? with
     |none=>simp[hk]at hu
     |some x=>
      simp[hk]at hu;subst hu;obtain⟨tgt,_,t2,t3,t4,t5⟩:=mH k x hk;rw[t2 hl]at t3 t4 t5;rw[Jc];exact ml k x hk [k] t3 t4 t5
    ·simp only[Top]
     refine vP.of_clean _ ?_;have:∀us:List T,(∀u∈us,yD u)→xU us:=by
      intro us
      induction us with
      |nil=>intro _;trivial
      |cons u us ih=>intro h;exact⟨h u (by simp),ih fun v hv=>h v (by simp[hv])⟩
     exact this res fun u hu=>(gm u hu).1
  ·simp at ht
   subst ht;obtain⟨c1,c3,u0,c4,_,c6⟩:=ab _ cM;obtain⟨r1,u1,e1,e2⟩:=a9 i t (Jm.2 ⟨_,cM,rfl⟩);simp only at c4 c6;rw[c6]at e1;simp at e1;subst e1;refine⟨?_,?_,Top.of_clean _ c1⟩
   ·rw[Jj]
    simp only[Ne.symm gj,if_false];have aU:=fI _ cM;simp only at aU;have m1:mkV Gn s t []=mkV G' i t []:=zFt t [] [] (fun z=>by rw[Jd];exact ghdr i s t z cM);have m2:mkV (G.arg a xs rw) i u0 []=mkV G s u0 []:=zFt u0 [] [] (fun z=>by simp[Gh.arg,aU]);rw[(g9.ent s u0 c4).1,m1,e2,m2]
   ·refine zAn (G:=G') (w:=w') (s:=i) (p:=[]) ⟨⟨fun z=>by rw[Jd];exact ghdr i s t z cM,fun z hz=>by rw[Jd];exact gadr i s t z cM hz,fun b o f' z _ _ hl=>?_,fun b z _ hl=>?_,fun b cs e h=>⟨cs,h,rfl⟩⟩,fun b o _ hl=>⟨glb1 b o io _ _ _ _ hl (df i s t [] cM),rfl⟩,fun b hl=>gow1 b _ _ _ hl (df i s t [] cM)⟩ t (xD.mono (fun _ _=>False.elim) _ c1) (c3 _ _ _ _ _ gZ.le r1)
    ·rw[Jd]at hl ⊢;exact⟨glb1 b o f' _ _ _ _ hl (df i s t z cM),rfl⟩
    ·rw[Jd]at hl ⊢;exact gow1 b _ _ _ hl (df i s t z cM)
end
end Go.Ab

namespace Go.Ab
open Go
def zIQ(E:Env)(rs:List Nat)(x:Operand)(t:T):Bool:=
 match x with
 |.tmp s=>qH E rs s t
 |_=>io
def zCk(E:Env)(rw:Rw)(i:Nat)(x:Operand)(u:T):Prop:=
 (∃s u',x=.tmp s∧(i,s,u')∈rw∧E s=ik u∧yD u∧u.okTup=io∧wZ u=io)∨(∃t,opT E x=ik t∧clo E t=u∧zIQ E (rw.map (·.2.1)) x t=io)
def xX(E:Env)(rw:Rw):Nat→List Operand→List T→Prop
 |_,[],[]=>True
 |i,x::xs,u::us=>zCk E rw i x u∧xX E rw (i+1) xs us
 |_,_,_=>False
theorem xX.length{E:Env}{rw:Rw}:(xs:List Operand)→(us:List T)→ ∀i,xX E rw i xs us→xs.length=us.length
 | [],[],_,_=>rfl
 |_::xs,_::us,i,h=>by simp[xX.length xs us (i+1) h.2]
 | [],_::_,_,h=>by simp[xX]at h
 |_::_,[],_,h=>by simp[xX]at h
theorem xX.get{E:Env}{rw:Rw}:(xs:List Operand)→(us:List T)→ ∀i,xX E rw i xs us→ ∀(j:Nat) u,us[j]? =ik u→ ∃x,xs[j]? =ik x∧zCk E rw (i+j) x u
 | [],[],_,_,_,_,h=>by simp at h
 |x::xs,v::us,i,h,j,u,hj=>by
  cases j with
  |zero=>simp at hj;subst hj;exact⟨x,by simp,h.1⟩
  |succ j=>
   obtain⟨y,h1,h2⟩:=xX.get xs us (i+1) h.2 j u (by simpa using hj);exact⟨y,by simpa using h1,by rwa [show i+(j+1)=i+1+j from by omega]⟩
 | [],_::_,_,h,_,_,_=>by simp[xX]at h
 |_::_,[],_,h,_,_,_=>by grind
structure zHi (E:Env) (d:Nat) (xs:List Operand) (us:List T) (rw:Rw):Prop where
 nodup:(d::rw.map (·.2.1)).Nodup
 nodup2:(rw.map (·.1)).Nodup
 at_:∀x∈rw,xs[x.1]? =ik (.tmp x.2.1)
 tree:∀x∈rw,yD x.2.2∧wZ x.2.2=io∧ ∃u,E x.2.1=ik u∧x.2.2.single=u.single∧us[x.1]? =ik u
theorem zHi.nil{E:Env}{d:Nat}{xs:List Operand}{us:List T}:zHi E d xs us []:=⟨by simp,by simp,by simp,by simp⟩
theorem zHi.one{E:Env}{d i s:Nat}{u u':T}{xs:List Operand}{us:List T}(h1:d≠s)(h2:xs[i]? =ik (.tmp s))(h3:yD u')(h4:u'.single=io)(h5:wZ u'=io)(h6:E s=ik u)(h7:u.single=io)(h8:us[i]? =ik u):
  zHi E d xs us [(i,s,u')]:=⟨by grind,by simp,by grind,by grind⟩
theorem zHi.one'{E:Env}{d i s:Nat}{u u':T}{xs:List Operand}{us:List T}(h1:d≠s)(h2:xs[i]? =ik (.tmp s))(h3:yD u')(h4:u'.single=u.single)(h5:wZ u'=io)(h6:E s=ik u)(h8:us[i]? =ik u):
  zHi E d xs us [(i,s,u')]:=⟨by grind,by simp,by grind,by grind⟩
section
variable {P:Program}{Γ:Ctx}{E:Env}{o:Oper}{d:Nat}
theorem zVh{G:Gh}{a:Act}{w:World}(g9:Rep Γ E G a.tmps w){rw:Rw}{xs:List Operand}{us:List T}(hr:zHi E d xs us rw){Sc:Stb}(eB:∀b x,Γ.St b=ik x→Sc b=ik x)
  (eH:∀r,r∉rw.map (·.2.1)→ ∀b,(∃y,G.ow b=ik (r,y))→Sc b=w.heap[b]?){i:Nat}{x:Operand}{u:T}(hx:xs[i]? =ik x)(hu:us[i]? =ik u)(h:zCk E rw i x u):
  a.eval x=mkV (G.arg a xs rw) i u []∧R Sc (G.arg a xs rw) w i u []:=by
 rcases h with⟨s,u',rfl,h1,h2,h3,h4,h5⟩|⟨t,h1,rfl,h3⟩
 ·obtain⟨e1,e2,_⟩:=g9.ent s u h2
  have gH:∀z,(G.arg a xs rw).hd i z=G.hd s z:=by grind[Gh.arg]
  have fe:∀z,(G.arg a xs rw).ad i z=G.ad s z:=by grind[Gh.arg]
  have hi:=zC0 rw (L9.1 hr.nodup).2 h1;refine⟨by grind[wJ,zFt],?_⟩;refine zPY u [] h5 (zAn (St:=Γ.St) (G:=G) (w:=w) (s:=s) (p:=[]) ⟨⟨by grind,by grind,fun b o' f' z _ e6 hl=>?_,fun b z _ hl=>?_,fun b cs e h=>⟨cs,h,rfl⟩⟩,fun b o' e6 hl=>?_,fun b hl=>?_⟩ u (by grind[xD.mono]) e2)
  ·obtain⟨y,hy⟩:=e6
   exact⟨by grind[Gh.arg],rfl⟩
  ·grind[Gh.arg]
  ·obtain⟨y,hy⟩:=e6
   exact⟨by grind[Gh.arg],rfl⟩
  grind[Gh.arg]
 ·cases x with
  |tmp s=>
   have gH:∀z,(G.arg a xs rw).hd i z=G.hd s z:=by grind[Gh.arg]
   obtain⟨e1,e2,_⟩:=g9.ent s t h1
   grind[zIQ,wJ,zJS,zWA]
  |const v=>
   simp only[opT]at h1;split at h1
   ·rename_i gA
    simp at h1;subst h1;have gH:(G.arg a xs rw).hd i []=v:=by grind[Gh.arg,Act.eval,zAp]
    exact⟨by grind[clo,mkV,Act.eval],by simp[clo,R,gH]⟩
   ·cases h1
  |func f=>
   simp only[opT]at h1;simp at h1;subst h1;have gH:(G.arg a xs rw).hd i []=.func (.func f) #[] #[]:=by grind[Gh.arg,Act.eval,jX,Value.oneCell']
   exact⟨by grind[clo,mkV,Act.eval],by simp[clo,R,gH]⟩
  |global g=>grind[opT]
theorem zDj{E:Env}:(t:T)→t.flat=io→(∀rs s,qH E rs s t=io)∧clo E t=t
 |.lit _,_|.ro _,_=>by simp[qH,clo]
 |.agg ts,h=>by
  simp only[T.flat]at h;have:=go ts h
  grind[qH,clo]
 |.any,h|.same _ _,h|.addr _ _,h|.sub _ _ _ _ _,h|.sl _ _,h|.ptr _,h|.tup _,h=>by grind[T.flat]
where go:(ts:List T)→zAA ts=io→(∀rs s,zAB E rs s ts=io)∧zBs E ts=ts
 | [],_=>by simp[zAB,zBs]
 |x::xs,h=>by simp only[zAA,J3]at h;simp only[zAB,zBs,J3];exact⟨fun rs s=>⟨(zDj x h.1).1 rs s,(go xs h.2).1 rs s⟩,by rw[(zDj x h.1).2,(go xs h.2).2]⟩
theorem zC1{a:Act}{w:World}{K:Act→World→Prop}{Q:Exit→Act→World→Prop}{f:FuncId}{xf:Operand}{xs:List Operand}{ats:Array TypeId}(ho:o.op=.call { callee:=.value xf,args:=xs.toArray,argTypes:=ats })(gk:o.dst=ik d)
  (gu:∀args w,(callFunc f args).run P w=.ok (.enter f args) w)(hf:a.eval xf=.func (.func f) #[] #[])
  (h:Calls P f (xs.map a.eval).toArray w fun e w'=> ∃v,e=.returned v∧K (a.put (ik d) v) w'):o.wp P a w K Q:=by
 have gz:(execOp a.eval o).run P w=.ok (.enter f (xs.map a.eval).toArray) w:=by simp[execOp,ho,resolve,hf,Deferred.ofValue,invoke,gu]
 unfold Oper.wp;rw[gz,Oper.upon_enter];refine h.mono ?_
 grind
theorem zHj{G:Gh}{a:Act}{w:World}(g9:Rep Γ E G a.tmps w)(hd:d<Γ.N)(f:FuncId)(xs:List Operand)(us res:List T)(rw:Rw)
  (hc:FnC P f us res (rw.map fun x=>(x.1,x.2.2)))(gc:xX E rw 0 xs us)(hr:zHi E d xs us rw)(gm:xU res∧yT res=io∧uN res=io):
  Calls P f (xs.map a.eval).toArray w fun e w'=> ∃v,e=.returned v∧ ∃S G',zDz Γ.St S Γ.W Γ.w0.heap.size∧qY (uC d rw) G w G' w'∧Rep (Γ.at S) (E.app (cWr d res rw) (uC d rw)) G' (a.tmps.setIfInBounds d v) w':=by
 classical
 have hm:=g9.mem
 let Sc:Stb:=fun b=>if zAL G rw b then im else w.heap[b]?
 have eB:∀b x,Γ.St b=ik x→Sc b=ik x:=fun b x hx=>by
  have h3:¬zAL G rw b:=by
   rintro⟨s,z,h4,_⟩
   rw[(hm.ow b _ h4).2.2]at hx;cases hx
  simp only[Sc,h3,if_false];exact hm.st b x hx
 have eH:∀r,r∉rw.map (·.2.1)→ ∀b,(∃y,G.ow b=ik (r,y))→Sc b=w.heap[b]?:=fun r hr' b ⟨y,hy⟩=>by
  have h3:¬zAL G rw b:=by
   rintro⟨s,z,h4,h5⟩
   grind
  grind
 have fA:∀(us:List T),xU us∧yT us=io∧uN us=io→ ∀u∈us,yD u∧u.okTup=io∧wZ u=io:=by
  intro us
  induction us with
  |nil=>simp
  |cons v us ih=>
   intro⟨h1,h2,h3⟩ u hu;simp only[yT,uN,J3]at h2 h3;rcases J8.1 hu with rfl|hu
   ·exact⟨h1.1,h2.1,h3.1⟩
   ·exact ih ⟨h1.2,h2.2,h3.2⟩ u hu
 exact zHh g9 hd (Sc:=Sc) (rw:=rw) (by grind) eB hc (xX.length xs us 0 gc) (fun i u hu=>by
   obtain⟨x,h1,h2⟩:=xX.get xs us 0 gc i u hu;rw[Jc]at h2
   grind[zVh]) hr.nodup hr.nodup2 hr.at_
  (by grind[zPY])
  (fun x hx=>by
   obtain⟨h1,h3,h4⟩:=hr.tree x hx
   grind[zPY])
theorem zJT(f:FuncId)(xf:Operand)(xs:List Operand)(ats:Array TypeId)(us res:List T)(rw:Rw)(ho:o.op=.call { callee:=.value xf,args:=xs.toArray,argTypes:=ats })(gk:o.dst=ik d)(hd:d<Γ.N)
  (gu:∀args w,(callFunc f args).run P w=.ok (.enter f args) w)(hf:opT E xf=ik (.lit (.func (.func f) #[] #[])))
  (hc:FnC P f us res (rw.map fun x=>(x.1,x.2.2)))(gc:xX E rw 0 xs us)(hr:zHi E d xs us rw)(gm:xU res∧yT res=io∧uN res=io):
  wN P Γ o E (E.app (cWr d res rw) (uC d rw)):=by
 intro a w K Q ⟨gN,G,g9⟩ hK;refine zC1 ho gk gu (wO g9 hf).1 ?_;refine(zHj g9 hd f xs us res rw hc gc hr gm).mono ?_
 rintro e w' ⟨v,rfl,S,G',hS,_,gn⟩
 exact⟨v,rfl,hK _ _ ⟨S,hS,gN,G',gn⟩⟩
theorem zLn(f:FuncId)(xf:Operand)(xs:List Operand)(ats:Array TypeId)(us res:List T)(i ds r:Nat)(q:List Nat)(tr u u':T)(ho:o.op=.call { callee:=.value xf,args:=xs.toArray,argTypes:=ats })(gk:o.dst=ik d)(hd:d<Γ.N)
  (gu:∀args w,(callFunc f args).run P w=.ok (.enter f args) w)(hf:opT E xf=ik (.lit (.func (.func f) #[] #[])))
  (hs:E ds=ik (.same r q))(hr:E r=ik tr)(hq:tr.get q.reverse=ik u)(hu:u.single=io)(eD:yD u)(hH:ds≠r)(hdr2:d≠r)(gC:tr.okB [(ds,1),(r,q.length+1)]=io)(fc:xM tr=io)
  (E1 E2:Env)(bC:E1=E.app [(ds,ik u),(r,ik (if q=[]then .same ds []else tr.set q.reverse .any))] [(ds,1),(r,q.length+1)])(gL:E2=E1.app (cWr d res [(i,ds,u')]) (uC d [(i,ds,u')]))
  (hc:FnC P f us res [(i,u')])(gc:xX E1 [(i,ds,u')] 0 xs us)(cM:zHi E1 d xs us [(i,ds,u')])(gm:xU res∧yT res=io∧uN res=io)
  (tr2 v0:T)(fm:E2 r=ik tr2)(dX:tr2.get q.reverse=ik v0)(tj:v0.single=io)(p5:E2 ds=ik u')(ep:yD u')(tn:u'.single=io)(pV:tr2.okB [(r,q.length+1),(ds,1)]=io)(hc3:xM tr2=io)(hok3:u'.okB [(r,q.length+1),(ds,1)]=io)(hc4:xM u'=io):
  wN P Γ o E (E2.app [(r,ik (tr2.set q.reverse u')),(ds,ik (.same r q))] [(r,q.length+1),(ds,1)]):=by
 have bP:cLv u'=1:=by grind[cLv]
 intro a w K Q ⟨gN,G,g9⟩ hK;refine zC1 ho gk gu (wO g9 hf).1 ?_;have gQ:G.hd ds []=G.hd r q:=by have:=(g9.ent ds _ hs).2.1;simpa only[R]using this
 obtain⟨cG,ut⟩:=zDX g9 ds [] r q (.same r q) tr u (.same r q) hs rfl rfl gQ hr hq hu eD hH (by grind[T.okB,zAj]) (by omega) rfl fc;have ij:E.app [(ds,ik ((T.same r q).set [].reverse u)),(r,ik (if q=[]then .same ds []else tr.set q.reverse .any))] [(ds,([]:List Nat).length+1),(r,q.length+1)]=E1:=by rw[bC];rfl
 rw[ij]at cG;refine(zHj cG hd f xs us res [(i,ds,u')] hc gc cM gm).mono ?_
 rintro e w' ⟨v,rfl,S,G',hS,hk,gn⟩
 rw[←gL]at gn;have hdds:d≠ds:=by have:=cM.nodup;grind
 have h1:G'.hd r q=(G.tr ds [] r q).hd r q:=hk.hd r q (fun n hn=>by grind[uC]);have h2:G'.hd ds []=(G.tr ds [] r q).hd ds []:=hk.hd ds [] (fun n hn=>by grind[uC]);have c8:G'.hd r q=G'.hd ds []:=by grind
 obtain⟨cE,_⟩:=zDX gn r q ds [] tr2 u' u' v0 fm dX tj c8 p5 rfl tn ep (Ne.symm hH) (by omega) (by omega) hc3 hc4;refine⟨v,rfl,hK _ _ ⟨S,hS,gN,G'.tr r q ds [],?_⟩⟩;have hw:(if([]:List Nat)=[]then T.same r q else u'.set ([]:List Nat).reverse .any)=T.same r q:=if_pos rfl;rw[hw]at cE;exact cE
theorem zRJ(f:FuncId)(xf:Operand)(xs:List Operand)(ats:Array TypeId)(us res:List T)(ho:o.op=.call { callee:=.value xf,args:=xs.toArray,argTypes:=ats })(gk:o.dst=ik d)(hd:d<Γ.N)
  (gu:∀args w,(callFunc f args).run P w=.ok (.enter f args) w)(hf:opT E xf=ik (.lit (.func (.func f) #[] #[])))
  (hc:FnC P f us res [])(gf:xs.length=us.length)(gc:∀(i:Nat) u,us[i]? =ik u→ ∃x,xs[i]? =ik x∧opT E x=ik u∧u.flat=io)(gm:xU res∧yT res=io):
  wN P Γ o E (E.app (cWr d res []) (uC d [])):=by
 intro a w K Q ⟨gN,G,g9⟩ hK;have hm:=g9.mem;refine zC1 ho gk gu (wO g9 hf).1 ?_;have pD:∀b,¬zAL G [] b:=by rintro b ⟨s,z,_,h⟩;simp at h
 have fA:∀(us:List T),xU us∧yT us=io→ ∀u∈us,yD u∧u.okTup=io:=by
  intro us
  induction us with
  |nil=>simp
  |cons v us ih=>
   intro⟨h1,h2⟩ u hu;simp only[yT,J3]at h2;rcases J8.1 hu with rfl|hu
   ·exact⟨h1.1,h2.1⟩
   ·exact ih ⟨h1.2,h2.2⟩ u hu
 have:=zHh g9 hd (Sc:=Γ.St) (rw:=[]) (fun b x hx=>⟨hm.st b x hx,pD b⟩) (fun _ _ h=>h) hc gf (fun i u hu=>by
   obtain⟨x,h1,h2,h3⟩:=gc i u hu;refine⟨x,h1,?_⟩;have uy:=zDj (E:=E) u h3;cases x with
   |tmp s=>
    have gH:∀z,(G.arg a xs []).hd i z=G.hd s z:=by grind[Gh.arg]
    obtain⟨e1,e2,_⟩:=g9.ent s u h2;refine⟨?_,by grind[zJN]⟩;have:=zJS (E:=E) gH u (uy.1 [] s)
    grind[wJ]
   |const v=>
    simp only[opT]at h2;split at h2
    ·rename_i gA
     simp at h2;subst h2;have gH:(G.arg a xs []).hd i []=v:=by grind[Gh.arg,Act.eval,zAp]
     exact⟨by grind[mkV,Act.eval],by simp[R,gH]⟩
    ·cases h2
   |func f=>
    simp only[opT]at h2;simp at h2;subst h2;have gH:(G.arg a xs []).hd i []=.func (.func f) #[] #[]:=by grind[Gh.arg,Act.eval,jX,Value.oneCell']
    exact⟨by grind[mkV,Act.eval],by simp[R,gH]⟩
   |global g=>grind[opT]) (by simp) (by simp) (by simp)
  (fun u hu=>⟨by grind,by grind,fun S' G w s p hS h=>by
   have:aft Γ.St Γ.St S'=S':=funext (by grind[aft])
   grind⟩) (by simp)
 refine this.mono ?_
 rintro e w' ⟨v,rfl,S,G',hS,_,gn⟩
 exact⟨v,rfl,hK _ _ ⟨S,hS,gN,G',gn⟩⟩
end
end Go.Ab

namespace Go.Ab
open Go
def yW:List (Nat×T)→Env
 | [],_=>im
 |(k,t)::l,s=>if k=s then ik t else yW l s
def Env.Has(E:Env):List (Nat×T)→Prop
 | []=>True
 |(s,t)::l=>E s=ik t∧E.Has l
theorem Env.Has.le{E:Env}:{l:List (Nat×T)}→E.Has l→ ∀s t,yW l s=ik t→E s=ik t
 | [],_,s,t,h=>by grind[yW]
 |(k,u)::l,hh,s,t,h=>by
  simp only[yW]at h;split at h
  ·rename_i e
   subst e;rw[hh.1];exact h
  ·exact hh.2.le s t h
theorem Sim.weaken{Γ:Ctx}{E E':Env}{a:Act}{w:World}(h:Sim Γ E a w)(cV:∀s t,E' s=ik t→E s=ik t):Sim Γ E' a w:=by obtain⟨h1,G,h2⟩:=h;exact⟨h1,G,⟨h2.size,fun s t hs=>h2.ent s t (cV s t hs),h2.mem⟩⟩
theorem jG.weaken{Γ:Ctx}{E E':Env}{a:Act}{w:World}(h:jG Γ E a w)(cV:∀s t,E' s=ik t→E s=ik t):jG Γ E' a w:=by obtain⟨S,h1,h2⟩:=h;exact⟨S,h1,h2.weaken cV⟩
abbrev jZ:=List (Nat×Value)
def jZ.Hold(pn:jZ)(a:Act):Prop:=∀x∈pn,a.tmps[x.1]? =ik x.2
def jZ.ok(pn:jZ)(d:Option Nat):Bool:=match d with
 |none=>io
 |some d=>pn.all fun x=>x.1 != d
theorem Oper.wp_frame{P:Program}{o:Oper}{a:Act}{w:World}{K:Act→World→Prop}{Q:Exit→Act→World→Prop}(h:o.wp P a w K Q):
  o.wp P a w (fun a' w'=>K a' w'∧ ∀s,o.dst≠ik s→a'.tmps[s]? =a.tmps[s]?) Q:=by
 have key:∀(v:Value)(ds:List Deferred),∀s,o.dst≠ik s→(({ a with defers:=ds }:Act).put o.dst v).tmps[s]? =a.tmps[s]?:=by
  intro v ds s hs;cases hd:o.dst with
  |none=>rfl
  |some d=>
   grind[Act.put]
 have key0:∀(v:Value),∀s,o.dst≠ik s→(a.put o.dst v).tmps[s]? =a.tmps[s]?:=fun v=>key v a.defers
 unfold Oper.wp at*
 generalize (execOp a.eval o).run P w=r at*
 cases r with
 |ok n w'=>
  cases n<;>simp only[Oper.upon]at h ⊢
  all_goals grind
 |halt x w'=>cases x<;>simp only[Oper.upon]at h ⊢ <;>exact h
theorem jZ.Hold.frame{pn:jZ}{a a':Act}{d:Option Nat}(h:pn.Hold a)(gC:pn.ok d=io)(hf:∀s,d≠ik s→a'.tmps[s]? =a.tmps[s]?):pn.Hold a':=by
 intro x hx;rw[hf x.1 ?_]
 ·exact h x hx
 ·rintro rfl
  have:=Kg.1 gC x hx
  grind
section
variable (P:Program) (Γ:Ctx) (pn:jZ)
def CW(c:Code)(E:Env)(Q:Exit→Env→Prop):Prop:=
 ∀(a:Act)(w:World)(Q':Exit→Act→World→Prop),jG Γ E a w→pn.Hold a→(∀e E' a' w',Q e E'→jG Γ E' a' w'→pn.Hold a'→Q' e a' w')→c.wp P Q' a w
def zW(ops:Array Oper)(o:Oper)(E E':Env):Prop:=
 ∀(a:Act)(w:World)(K:Act→World→Prop)(Q:Exit→Act→World→Prop),jG Γ E a w→(∀a' w',jG Γ E' a' w'→(∀s,o.dst≠ik s→a'.tmps[s]? =a.tmps[s]?)→K a' w')→
  if Region.wanted o (yielded ops a.tmps)then o.wp P a w K Q∨(o.asks P a w∧LetsOut Q)else K (a.put o.dst undef) w
def wpL(ops:Array Oper)(Q:Exit→Act→World→Prop):List Oper→Act→World→Prop
 | [],a,w=>Q .normal a w
 |o::os,a,w=>if Region.wanted o (yielded ops a.tmps)then o.wp P a w (wpL ops Q os) Q∨(o.asks P a w∧LetsOut Q)else wpL ops Q os (a.put o.dst undef) w
def RW(ops:Array Oper)(os:List Oper)(E:Env)(Q:Exit→Env→Prop):Prop:=
 ∀(a:Act)(w:World)(Q':Exit→Act→World→Prop),jG Γ E a w→pn.Hold a→(∀e E' a' w',Q e E'→jG Γ E' a' w'→pn.Hold a'→Q' e a' w')→wpL P ops Q' os a w
end
section
variable {P:Program}{Γ:Ctx}{pn:jZ}{E E':Env}{Q Q1:Exit→Env→Prop}{c c1 c2:Code}{ops:Array Oper}{o:Oper}{os:List Oper}{d:Nat}
theorem zJU{Q':Exit→Act→World→Prop}:∀(os:List Oper)(n:Nat)(a:Act)(w:World),ops.toList.drop n=os→wpL P ops Q' os a w→wpOps P ops Q' (Ku n os.length) a w
 | [],n,a,w,_,h=>by simpa[wpOps,wpL]using h
 |o::os,n,a,w,hd,h=>by
  have ho:ops[n]? =ik o:=by
   have:=congrArg (·[0]?) hd
   grind
  have bt:ops.toList.drop (n+1)=os:=by
   have:=congrArg List.tail hd
   grind[List.tail_drop]
  simp only[J7,Jd3,wpOps,ho];simp only[wpL]at h;split
  ·rename_i hw
   simp only[hw,if_true]at h;exact h.imp (Oper.wp_mono fun a w=>zJU os (n+1) a w bt) id
  ·rename_i hw
   simp only[hw]at h;exact zJU os (n+1) _ w bt h
theorem CW.region{id:Nat}(h:RW P Γ pn ops ops.toList E Q):CW P Γ pn (.region id ops iq) E Q:=by
 intro a w Q' hs hp hQ;refine wp_region ?_;have:=zJU (P:=P) ops.toList 0 a w (by simp) (h a w Q' hs hp hQ)
 grind[Ll]
theorem RW.nil(h:Q .normal E):RW P Γ pn ops [] E Q:=fun a w Q' hs hp hQ=>by
 simp only[wpL]
 grind
theorem RW.cons(h1:zW P Γ ops o E E')(h3:RW P Γ pn ops os E' Q)(h2:pn.ok o.dst=io:=by rfl):RW P Γ pn ops (o::os) E Q:=by
 intro a w Q' hs hp hQ;simp only[wpL];have:=h1 a w (wpL P ops Q' os) Q' hs fun a' w' gJ hf=>h3 a' w' Q' gJ (hp.frame h2 hf) hQ
 exact this
theorem zW.op(h:∀S,wN P (Γ.at S) o E E')(hg:o.guard=im:=by rfl):zW P Γ ops o E E':=by
 intro a w K Q hs hK;have hw:Region.wanted o (yielded ops a.tmps)=io:=by simp[Region.wanted,hg]
 rw[if_pos hw];refine .inl ?_;obtain⟨S,hS,hs⟩:=hs;have:=Oper.wp_frame (h S a w (fun a' w'=>jG Γ E' a' w') Q hs fun a' w' h=>h.up hS)
 grind[Oper.wp_mono]
theorem zHk{a:Act}{w:World}(hs:jG Γ E a w){g s:Nat}{b:Bool}(gp:(ops[g]?).bind (·.dst)=ik s)(h:E s=ik (.lit (.bool b))):yielded ops a.tmps g=ik b:=by
 obtain⟨_,_,_,G,hr⟩:=hs;obtain⟨h1,h2,_⟩:=hr.ent s _ h;simp only[R]at h2
 grind[yielded,mkV]
theorem zW.guard(g:Nat)(b:Bool)(s:Nat)(h:∀S,wN P (Γ.at S) o E E')(hg:o.guard=ik (g,b):=by rfl)(gp:(ops[g]?).bind (·.dst)=ik s:=by rfl)(hb:E s=ik (.lit (.bool b)):=by rfl):zW P Γ ops o E E':=by
 intro a w K Q hs hK;have hw:Region.wanted o (yielded ops a.tmps)=io:=by grind[Region.wanted,zHk]
 rw[if_pos hw];refine .inl ?_;obtain⟨S,hS,hs⟩:=hs;have:=Oper.wp_frame (h S a w (fun a' w'=>jG Γ E' a' w') Q hs fun a' w' h=>h.up hS)
 grind[Oper.wp_mono]
def zN(Γ:Ctx)(E E':Env):Prop:=∀(a:Act)(w:World),jG Γ E a w→jG Γ E' a w
theorem zN.refl:zN Γ E E:=fun _ _ h=>h
theorem zN.trans{E1 E2 E3:Env}(h:zN Γ E1 E2)(h':zN Γ E2 E3):zN Γ E1 E3:=fun a w hs=>h' a w (h a w hs)
theorem zN.has{l:List (Nat×T)}(h:E.Has l):zN Γ E (yW l):=fun _ _ hs=>hs.weaken h.le
theorem CW.ghost(h1:zN Γ E E')(h:CW P Γ pn c E' Q):CW P Γ pn c E Q:=fun a w Q' hs=>h a w Q' (h1 a w hs)
theorem RW.ghost(h1:zN Γ E E')(h:RW P Γ pn ops os E' Q):RW P Γ pn ops os E Q:=fun a w Q' hs=>h a w Q' (h1 a w hs)
theorem CW.to(l:List (Nat×T))(h1:E.Has l)(h:CW P Γ pn c (yW l) Q):CW P Γ pn c E Q:=h.ghost (.has h1)
theorem CW.mono(h:CW P Γ pn c E Q1)(hq:∀e E',Q1 e E'→Q e E'):CW P Γ pn c E Q:=fun a w Q' hs hp hQ=>h a w Q' hs hp (by grind)
theorem CW.skip(h:Q .normal E):CW P Γ pn .skip E Q:=fun _ _ _ hs hp hQ=>by grind[wp_skip]
theorem CW.ret(h:Q .ret E):CW P Γ pn .ret E Q:=fun _ _ _ hs hp hQ=>by grind[wp_ret]
theorem CW.exit{id:Nat}(h:Q (.exit id) E):CW P Γ pn (.exit id) E Q:=fun _ _ _ hs hp hQ=>by grind[wp_exit]
def wF(P:Program)(Γ:Ctx)(pn:jZ)(c:Code)(Q:Exit→Env→Prop):Exit→Env→Prop
 |.normal,E=>CW P Γ pn c E Q
 |e,E=>Q e E
theorem CW.seq(h:CW P Γ pn c1 E (wF P Γ pn c2 Q)):CW P Γ pn (.seq c1 c2) E Q:=by
 intro a w Q' hs hp hQ;refine wp_seq (h a w _ hs hp fun e E' a' w' h1 gJ cR=>?_);cases e with
 |normal=>exact h1 a' w' Q' gJ cR hQ
 |_=>exact hQ _ _ _ _ h1 gJ cR
theorem CW.cond{x:Operand}(b:Bool)(hb:opT E x=ik (.lit (.bool b)))(ht:b=io→CW P Γ pn c1 E Q)(hf:b=iq→CW P Γ pn c2 E Q):CW P Γ pn (.cond x c1 c2) E Q:=by intro a w Q' hs hp hQ;obtain⟨_,_,_,G,hr⟩:=id hs;refine wp_cond_split (wO hr hb).1 (fun h=>ht h a w Q' hs hp hQ) (fun h=>hf h a w Q' hs hp hQ)
def wK(id:Nat)(Q:Exit→Env→Prop):Exit→Env→Prop
 |.exit id',E=>if id'=id then Q .normal E else Q (.exit id') E
 |e,E=>Q e E
theorem CW.block{id:Nat}(h:CW P Γ pn c E (wK id Q)):CW P Γ pn (.block id c) E Q:=by
 intro a w Q' hs hp hQ;refine wp_block (h a w _ hs hp fun e E' a' w' h1 gJ cR=>?_);cases e with
 |exit id'=>
  simp only[wK]at h1;simp only[Exit.inBlock]
  grind
 |_=>exact hQ _ _ _ _ h1 gJ cR
end
def jQ{σ ρ:Type}(body:σ→Option (σ⊕ρ)):Nat→σ→Option ρ
 |0,_=>im
 |n+1,s=>match body s with
  |none=>im
  |some (.inl s')=>jQ body n s'
  |some (.inr r)=>ik r
theorem zHl{σ ρ:Type}{body:σ→Option (σ⊕ρ)}{r:ρ}:∀{n m:Nat}{s:σ},jQ body n s=ik r→n≤m→jQ body m s=ik r
 |0,_,_,h,_=>by grind[jQ]
 |n+1,0,_,_,hm=>by omega
 |n+1,m+1,s,h,hm=>by
  simp only[jQ]at h ⊢
  cases hb:body s with
  |none=>grind
  |some x=>
   cases x with
   |inl s'=>simp only[hb]at h ⊢;exact zHl h (by omega)
   |inr r'=>grind
open Classical in
noncomputable def zI {σ ρ:Type} (body:σ→Option (σ⊕ρ)) (s:σ):Option ρ:=
 if h:∃(n:Nat)(r:ρ),jQ body n s=ik r then ik h.choose_spec.choose else im
theorem zEb{σ ρ:Type}{body:σ→Option (σ⊕ρ)}{s:σ}{r:ρ}:zI body s=ik r↔ ∃n,jQ body n s=ik r:=by
 unfold zI;constructor
 ·intro h
  split at h
  all_goals grind
 ·rintro⟨n,hn⟩
  have he:∃(n:Nat)(r:ρ),jQ body n s=ik r:=⟨n,r,hn⟩;rw[dif_pos he]
  grind[zHl]
theorem xH{σ ρ:Type}(body:σ→Option (σ⊕ρ))(s:σ):zI body s=match body s with
  |none=>im
  |some (.inl s')=>zI body s'
  |some (.inr r)=>ik r:=by
 apply Option.ext;intro r;rw[zEb];cases hb:body s with
 |none=>
  simp only[reduceCtorEq,iff_false]
  rintro⟨n,hn⟩
  cases n<;>simp[jQ,hb]at hn
 |some x=>
  cases x with
  |inl s'=>
   simp only[];rw[zEb];constructor
   ·rintro⟨n,hn⟩
    cases n with
    |zero=>grind[jQ]
    |succ n=>grind[jQ]
   ·rintro⟨n,hn⟩
    exact⟨n+1,by grind[jQ]⟩
  |inr r'=>
   simp only[Ln.injEq];constructor
   ·rintro⟨n,hn⟩
    cases n with
    |zero=>grind[jQ]
    |succ n=>grind[jQ]
   ·rintro rfl
    exact⟨1,by simp[jQ,hb]⟩
section
variable {P:Program}{Γ:Ctx}{pn:jZ}{E:Env}{Q:Exit→Env→Prop}{c:Code}
def uE{σ ρ:Type}(Γ:Ctx)(en:σ→Env)(Q:ρ→Exit→Env→Prop)(x:σ⊕ρ):Exit→Env→Prop:=fun e E'=>
 match x with
 |.inl s'=>e=.normal∧zN Γ E' (en s')
 |.inr r=>e≠.normal∧Q r e E'
theorem zDE{p:Nat→Prop}(h:∃m,p m):∃m,p m∧ ∀k,k<m→ ¬p k:=by
 refine Classical.byContradiction fun hn=>?_
 have key:∀n,∀k,k<n→ ¬p k:=by
  intro n
  induction n with
  |zero=>simp
  |succ n ih=>
   grind
 grind
theorem CW.loop{σ ρ:Type}(body:σ→Option (σ⊕ρ))(en:σ→Env)(Q:ρ→Exit→Env→Prop)(h:∀s x,body s=ik x→CW P Γ pn c (en s) (uE Γ en Q x)){s:σ}{r:ρ}(hr:zI body s=ik r):
  CW P Γ pn (.loop c) (en s) (Q r):=by
 classical
 intro a w Q' hs hp hQ
 let p:Act→World→Nat→Prop:=fun a w m=> ∃s,jQ body m s=ik r∧jG Γ (en s) a w∧pn.Hold a
 let μ:Act→World→Nat:=fun a w=>if h:∃m,p a w m then(zDE h).choose else 0
 obtain⟨n,hn⟩:=zEb.1 hr;refine wp_loop (fun a w=> ∃m,p a w m) μ (by grind) ?_;intro a w cI;have hμ:μ a w=(zDE cI).choose:=dif_pos cI;obtain⟨s,h1,h2,h3⟩:=(zDE cI).choose_spec.1;have eF:=(zDE cI).choose_spec.2;rw[←hμ]at h1;cases hm:μ a w with
 |zero=>grind[jQ]
 |succ k=>
  rw[hm]at h1;simp only[jQ]at h1;cases hb:body s with
  |none=>grind
  |some x=>
   refine h s x hb a w _ h2 h3 fun e E' a' w' hq gJ cR=>?_
   cases x with
   |inl s'=>
    simp only[hb]at h1;obtain⟨rfl,hg⟩:=hq;have bN:p a' w' k:=⟨s',h1,hg a' w' gJ,cR⟩;refine⟨⟨k,bN⟩,?_⟩;have hex':∃m,p a' w' m:=⟨k,bN⟩
    grind
   |inr r'=>
    simp only[hb]at h1;have:r'=r:=by grind
    subst this;obtain⟨gj,hq⟩:=hq;have:=hQ e E' a' w' hq gJ cR;cases e with
    |normal=>grind
    |_=>exact this
end
end Go.Ab

namespace Go.Ab
open Go
abbrev Nds:=List (Nat×List Nat×T)
def ROk(P:Program)(E:Env):ResultVar→(Nat×List Nat×T)→Prop
 |.tmp s,x=>x.1=s∧x.2.1=[]∧E s=ik x.2.2∧x.2.2.okTup=io
 |.cell a T,x=>x.1=a∧x.2.1=[0]∧E a=ik (.ptr x.2.2)∧ ∃ds ti,P.underlying T=ik ds∧P.info? T=ik ti∧zFu ds= !x.2.2.single∧ti.size=x.2.2.size
def zPZ(P:Program)(E:Env):List ResultVar→Nds→Prop
 | [],[]=>True
 |x::xs,y::ys=>ROk P E x y∧zPZ P E xs ys
 |_,_=>False
def LOk(E:Env)(us:List T):List (Nat×T)→Prop
 | []=>True
 |(i,u')::l=>(E i=ik u'∧ ∃u,us[i]? =ik u)∧LOk E us l
def zZb(P:Program)(rs:Array ResultVar)(us res:List T)(rws:List (Nat×T)):Exit→Env→Prop:=fun e E=>
 (e=.ret∨e=.normal)∧ ∃nd:Nds,zPZ P E rs.toList nd∧nd.map (·.2.2)=res∧(∀x∈nd,us.length≤x.1)∧(nd.map (·.1)).Nodup∧LOk E us rws
def zC2(v:Nat→Value)(is:List Nat):jZ:=is.map fun i=>(i,v i)
def zI3:Nat→List T→List (Nat×T)
 |_,[]=>[]
 |i,u::us=>(i,u)::zI3 (i+1) us
theorem zLo:∀(us:List T)(i s:Nat)(t:T),yW (zI3 i us) s=ik t→i≤s∧us[s-i]? =ik t
 | [],i,s,t,h=>by simp[zI3,yW]at h
 |u::us,i,s,t,h=>by
  simp only[zI3,yW]at h;split at h
  ·rename_i e;subst e;simpa using h
  ·rename_i e
   obtain⟨h1,h2⟩:=zLo us (i+1) s t h;refine⟨by omega,?_⟩;have:s-i=(s-(i+1))+1:=by omega
   rw[this];simpa using h2
def zRK(tmps:Array Value):ResultVar→Sem Value
 |.tmp t=>pure (tmps.getD t undef)
 |.cell a t=>do loadVar t (←asAddr (tmps.getD a undef))
theorem zNl(fn:Func)(tmps:Array Value):results fn tmps=(do
  let vs ←fn.results.mapM (zRK tmps)
  pure (if h:vs.size=1 then vs[0]else .tuple vs)):=rfl
theorem vP.get:(xs:List T)→vP xs→ ∀(i:Nat)(x:T),xs[i]? =ik x→Top x
 | [],_,i,x,h=>by simp at h
 |y::ys,ht,i,x,h=>by
  simp only[vP]at ht;cases i with
  |zero=>simp at h;subst h;exact ht.1
  |succ i=>exact vP.get ys ht.2 i x (by simpa using h)
theorem LOk.get{E:Env}{us:List T}:(l:List (Nat×T))→LOk E us l→ ∀i u',(i,u')∈l→E i=ik u'∧ ∃u,us[i]? =ik u
 | [],_,_,_,h=>by simp at h
 |x::l,h,i,u',hm=>by
  rcases J8.1 hm with rfl|hm
  ·exact h.1
  ·exact LOk.get l h.2 i u' hm
theorem yAO{P:Program}{Γ:Ctx}{E:Env}{G:Gh}{tmps:Array Value}{w:World}(g9:Rep Γ E G tmps w)(x:ResultVar)(s:Nat)(q:List Nat)(t:T)(h:ROk P E x (s,q,t)):
  (zRK tmps x).run P w=.ok (sQ G s t q) w∧R Γ.St G w s t q:=by
 cases x with
 |tmp s'=>
  obtain⟨h0,bY,h1,h2⟩:=h;dsimp only at h0 bY h1 h2;subst h0 bY;obtain⟨g1,g2,_⟩:=g9.ent _ _ h1;have ef:∀xs,t≠.tup xs:=by rintro xs rfl;simp[T.okTup]at h2
  refine⟨?_,g2⟩;rw[←kN G s t [] ef];simp[zRK,Ki,g1]
 |cell a T'=>
  obtain⟨h0,bY,h1,ds,ti,h2,h3,h4,h5⟩:=h;dsimp only at h0 bY h1 h4 h5;subst h0 bY;obtain⟨g1,g2,_⟩:=g9.ent _ _ h1;simp only[R]at g2;obtain⟨b,cs,e,k1,k2,k3,k4,k5,k6⟩:=g2;refine⟨?_,k6⟩;rw[xS rfl,k1]at g1;have h6:=zGc (w:=w) h2 h3 k5 h4 h5;simp[zRK,Ki,g1,asAddr,h6]
theorem zGj{P:Program}{Γ:Ctx}{E:Env}{G:Gh}{tmps:Array Value}{w:World}(g9:Rep Γ E G tmps w):(rs:List ResultVar)→(nd:Nds)→zPZ P E rs nd→
  (rs.mapM (zRK tmps)).run P w=.ok (nd.map fun x=>sQ G x.1 x.2.2 x.2.1) w∧ ∀x∈nd,R Γ.St G w x.1 x.2.2 x.2.1
 | [],[],_=>by simp
 |x::xs,y::ys,h=>by
  obtain⟨h1,h2⟩:=zGj g9 xs ys h.2;obtain⟨h3,h4⟩:=yAO g9 x y.1 y.2.1 y.2.2 h.1;refine⟨?_,?_⟩
  ·simp[List.mapM_cons,h3,h1]
  ·intro z hz
   rcases J8.1 hz with rfl|hz
   ·exact h4
   ·exact h2 z hz
 | [],_::_,h=>by simp[zPZ]at h
 |_::_,[],h=>by simp[zPZ]at h
theorem FnC.of_body{P:Program}{f:FuncId}{fn:Func}{c:Code}{us res:List T}{rws:List (Nat×T)}(hf:P.funcs[f]? =ik fn)(hb:fn.body=ik c)(hn:us.length≤fn.ntmps)(ht:vP us)(hr:rws.all (fun x=>decide (x.1<us.length))=io)
  (h:∀(Γ:Ctx)(v:Nat→Value),Γ.N=fn.ntmps→CW P Γ (zC2 v (rws.map (·.1))) c (yW (zI3 0 us)) (zZb P fn.results us res rws)):FnC P f us res rws:=by
 intro St W w G vs cY gc gr
 let Γ:Ctx:=⟨St,W,w,fn.ntmps⟩
 let v:Nat→Value:=fun i=>vs.getD i undef
 have hm:Mem Γ G w:=⟨gr.one,gr.lb,gr.ow,gr.st,gr.fr,gr.sz,gr.bk⟩;have gy:(vs++Qc (fn.ntmps-vs.size) undef).size=fn.ntmps:=by simp;omega
 have mK:Sim Γ (yW (zI3 0 us)) { tmps:=vs++Qc (fn.ntmps-vs.size) undef,defers:=[] } w:=by refine⟨rfl,G,gy,?_,hm⟩;intro s t hs;obtain⟨_,h2⟩:=zLo us 0 s t hs;simp only[Jb9]at h2;obtain⟨h3,h4⟩:=gc s t h2;have gF:s<vs.size:=(Kz.1 h3).1;exact⟨by simp[Qz,gF];exact(Kz.1 h3).2,h4,vP.get us ht s t h2⟩
 have u7:(zC2 v (rws.map (·.1))).Hold { tmps:=vs++Qc (fn.ntmps-vs.size) undef,defers:=[] }:=by
  intro x hx;simp only[zC2,Jm]at hx;obtain⟨i,⟨y,hy,rfl⟩,rfl⟩:=hx;have h1:=Kg.1 hr y hy;simp at h1;have h2:y.1<vs.size:=by omega
  simp[Qz,h2,v]
 refine calls_of_wp hf hb (h Γ v rfl _ _ _ (.of mK) u7 ?_)
 rintro e E' a' w' ⟨he,nd,h1,h2,h3,h4,h5⟩ ⟨S',gZ,gN,G',g9⟩ hp
 obtain⟨g1,g2⟩:=zGj g9 _ _ h1;have gm:(results fn a'.tmps).run P w'=.ok (zLh G' nd) w':=by
  rw[zNl,Array.mapM_eq_mapM_toList];simp only[Sem.run_bind,Sem.run_map,g1];cases nd with
  |nil=>simp[zLh]
  |cons y ys=>
   cases ys with
   |nil=>simp[zLh]
   |cons z zs=>simp[zLh]
 have gD:Mem ⟨S',W,w,0⟩ G' w':=⟨g9.mem.one,g9.mem.lb,g9.mem.ow,g9.mem.st,g9.mem.fr,g9.mem.sz,g9.mem.bk⟩;have bq:bodyPost P fn (fun e w'=> ∃(S':Stb)(G':Gh)(nd:List (Nat×List Nat×T)),zDz St S' W w.heap.size∧e=.returned (zLh G' nd)∧Mem ⟨S',W,w,0⟩ G' w'∧nd.map (·.2.2)=res∧
   (∀x∈nd,R S' G' w' x.1 x.2.2 x.2.1∧us.length≤x.1)∧(nd.map (·.1)).Nodup∧
   ∀i u',(i,u')∈rws→R S' G' w' i u' []∧ ∃u,us[i]? =ik u∧mkV G' i u' []=mkV G i u []) .ret a' w':=by
  refine⟨gN,_,gm,S',G',nd,gZ,rfl,gD,h2,fun x hx=>⟨g2 x hx,h3 x hx⟩,h4,?_⟩;intro i u' hiu;obtain⟨k1,u,k3⟩:=LOk.get _ h5 i u' hiu;obtain⟨k5,k6,_⟩:=g9.ent i u' k1;refine⟨k6,u,k3,?_⟩;have k7:=hp (i,v i) (by simp only[zC2,Jm];exact⟨i,⟨(i,u'),hiu,rfl⟩,rfl⟩);have k8:=(gc i u k3).1;rw[k5]at k7;simp[v,Ki,k8]at k7;exact k7
 rcases he with rfl|rfl<;>exact bq
end Go.Ab

namespace Go.Ab
open Go
mutual
def uD:T→T
 |.sl k xs=>.ro (strip (.sl k xs))
 |.ptr t=>.ro (strip (.ptr t))
 |.agg xs=>.agg (uI xs)
 |.tup xs=>.tup (uI xs)
 |.any=>.any
 |.lit v=>.lit v
 |.ro t=>.ro t
 |.same r p=>.same r p
 |.addr r p=>.addr r p
 |.sub r p k lo hi=>.sub r p k lo hi
def uI:List T→List T
 | []=>[]
 |x::xs=>uD x::uI xs
end
mutual
theorem zRL(G:Gh)(s:Nat):(t:T)→ ∀p,vals G s (uD t) p=vals G s t p
 |.agg xs,p=>by simp only[uD,vals];exact zDk G s xs p 0
 |.sl _ _,_|.ptr _,_|.tup _,_|.any,_|.lit _,_|.ro _,_|.same _ _,_|.addr _ _,_|.sub _ _ _ _ _,_=>by simp only[uD,vals]
theorem zDk(G:Gh)(s:Nat):(xs:List T)→ ∀p j,yH G s (uI xs) p j=yH G s xs p j
 | [],_,_=>by simp only[uI]
 |x::xs,p,j=>by simp only[uI,yH,zRL G s x,zDk G s xs]
end
theorem zRM(G:Gh)(s:Nat)(t:T)(p:List Nat):sQ G s (uD t) p=sQ G s t p:=by cases t<;>simp only[uD,sQ,zDk]
theorem zLp(G:Gh)(s:Nat):(xs:List T)→ ∀p j,jP G s (uI xs) p j=jP G s xs p j
 | [],_,_=>by simp only[uI]
 |x::xs,p,j=>by simp only[uI,jP,zRM,zLp G s xs]
theorem zVi(G:Gh)(s:Nat)(t:T)(p:List Nat):mkV G s (uD t) p=mkV G s t p:=by cases t<;>simp only[uD,mkV,zDk,zLp]
mutual
theorem zLq:(t:T)→Top t→Top (uD t)
 |.agg xs,h|.tup xs,h=>by simp only[uD,Top]at h ⊢;exact zIR xs h
 |.sl _ _,_|.ptr _,_|.any,_|.lit _,_|.ro _,_|.same _ _,_|.addr _ _,_|.sub _ _ _ _ _,_=>by simp only[uD,Top]
theorem zIR:(xs:List T)→vP xs→vP (uI xs)
 | [],_=>by simp only[uI,vP]
 |x::xs,h=>by simp only[uI,vP]at h ⊢;exact⟨zLq x h.1,zIR xs h.2⟩
end
section
variable {St Sc:Stb}{G G':Gh}{w:World}{s:Nat} (gA:∀s p,(G.hd s p).oneCell'=io) (eB:∀b x,St b=ik x→Sc b=ik x) (eH:∀b,(∃y,G.ow b=ik (s,y))→Sc b=w.heap[b]?) (gH:∀s z,G'.hd s z=G.hd s z) (fe:∀s z,G'.ad s z=G.ad s z)
 include gA eB eH gH fe
mutual
theorem zWB:(t:T)→ ∀(p:List Nat),R St G w s t p→R Sc G' w s (uD t) p
 |.agg xs,p,hr|.tup xs,p,hr=>by simp only[uD,R]at hr ⊢;exact zRN xs p 0 hr
 |.sl k xs,p,hr=>by have:=zLk gA eB eH (.sl k xs) p rfl hr;simp only[uD,R,gH];exact this
 |.ptr t,p,hr=>by have:=zLk gA eB eH (.ptr t) p rfl hr;simp only[uD,R,gH];exact this
 |.ro u,p,hr=>by simp only[uD,R,gH]at hr ⊢;exact sB eB u _ _ hr
 |.any,_,_=>by simp only[uD,R]
 |.lit _,_,hr|.same _ _,_,hr|.sub _ _ _ _ _,_,hr=>by simp only[uD,R,gH]at hr ⊢;exact hr
 |.addr _ _,_,hr=>by simp only[uD,R,gH,fe]at hr ⊢;exact hr
theorem zRN:(xs:List T)→ ∀(p:List Nat)(j:Nat),RF St G w s xs p j→RF Sc G' w s (uI xs) p j
 | [],_,_,_=>by have _:=gA;have _:=eB;have _:=eH;have _:=gH;have _:=fe;simp only[uI,RF]
 |x::xs,p,j,hr=>by simp only[uI,RF]at hr ⊢;exact⟨zWB x _ hr.1,zRN xs p (j+1) hr.2⟩
end
end
theorem zN.freeze{Γ:Ctx}{E:Env}(s:Nat)(t:T)(hs:E s=ik t):zN Γ E (E.app [(s,ik (uD t))] [(s,1)]):=by
 classical
 rintro a w ⟨S,hS,gN,G,g9⟩
 have hm:=g9.mem
 let own:Nat→Prop:=fun b=> ∃y,G.ow b=ik (s,y)
 let Sc:Stb:=fun b=>if own b then w.heap[b]? else S b
 let G':Gh:={ hd:=G.hd,ad:=G.ad,lb:=fun b o=>if own b then im else G.lb b o,ow:=fun b=>if own b then im else G.ow b }
 have fM:∀b x,S b=ik x→Sc b=ik x:=fun b x hx=>by
  have:¬own b:=by
   rintro⟨y,hy⟩
   have:=(hm.ow b _ hy).2.2;rw[show S b=im from this]at hx;cases hx
  simp only[Sc,this,if_false];exact hx
 have aF:zDz S Sc Γ.W Γ.w0.heap.size:=⟨fM,fun b hb eT=>by
  by_cases h:own b
  ·obtain⟨y,hy⟩:=h
   exact(hm.ow b _ hy).2.1
  ·simp only[Sc,h,if_false]at eT
   exact absurd hb eT⟩
 have gr:Mem ((Γ.at S).at Sc) G' w:=by
  refine⟨hm.one,fun b o l hl=>?_,fun b l hl=>?_,fun b x hx=>?_,hm.fr,hm.sz,hm.bk⟩
  ·by_cases h:own b
   ·simp only[G',h,if_true]at hl;cases hl
   ·simp only[G',h,if_false]at hl
    have:=hm.lb b o l hl;exact⟨this.1,this.2.1,by simp only[Sc,h,if_false];exact this.2.2⟩
  ·by_cases h:own b
   ·simp only[G',h,if_true]at hl;cases hl
   ·simp only[G',h,if_false]at hl
    have:=hm.ow b l hl;exact⟨this.1,this.2.1,by simp only[Sc,h,if_false];exact this.2.2⟩
  ·by_cases h:own b
   ·simp only[Sc,h,if_true]at hx;exact hx
   ·simp only[Sc,h,if_false]at hx;exact hm.st b x hx
 have gx:qY [(s,1)] G w G' w:=by
  have d8:∀b s0 y,G.ow b=ik (s0,y)→(∀n,(s0,n)∉([(s,1)]:Chg))→ ¬own b:=by
   rintro b s0 y h1 h2 ⟨y',h3⟩
   rw[h1]at h3;simp at h3;exact h2 1 (by simp[h3.1])
  refine⟨fun _ _ _=>rfl,fun _ _ _=>rfl,fun b o f s0 p ⟨y,hy⟩ h1 h2=>?_,fun b s0 p h1 h2=>?_,fun b cs e h=>⟨cs,h,rfl⟩⟩
  ·have:=d8 b s0 y hy h2
   refine⟨?_,rfl⟩;simp only[G',this,if_false];exact h1
  ·have:=d8 b s0 p h1 h2
   simp only[G',this,if_false];exact h1
 obtain⟨e1,e2,e3⟩:=g9.ent s t hs;refine⟨Sc,hS.trans aF,gN,G',g9.up fM rfl gx gr (fun s0 h0=>⟨fun n hn=>?_,rfl⟩) (fun s0 t0 h0=>?_)⟩
 ·rw[tZ]at h0
  simp at hn;simp[hn.1]at h0
 ·rw[tZ]at h0
  split at h0
  ·rename_i he;subst he
   simp at h0;subst h0;have hR:=zWB (G':=G') hm.one fM (fun b hb=>by simp only[Sc];rw[if_pos hb]) (fun _ _=>rfl) (fun _ _=>rfl) t [] e2;refine⟨?_,hR,zLq t e3⟩;rw[e1];have h1:mkV G' s (uD t) []=mkV G s (uD t) []:=zFt _ _ _ (fun _=>rfl);rw[h1,zVi]
  ·cases h0
end Go.Ab

namespace Go.Ab
open Go
abbrev zEC:=List (Wr×Chg)
def Env.apps(E:Env)(l:zEC):Env:=l.foldl (fun E x=>E.app x.1 x.2) E
structure Stp where
 rd:List (Nat×T)
 l:zEC
def sJ(wr:Wr):List Nat:=wr.map (·.1)
def Stp.slots(X:Stp):List Nat:=X.l.flatMap fun x=>sJ x.1
def oOk(chg:Chg):Option T→Bool
 |none=>io
 |some t=>t.okB chg
def zNm(chg:Chg)(wr:Wr):Bool:=wr.all fun x=>oOk chg x.2
def zQa(a b:List Nat):Bool:=a.all fun x=> !b.contains x
def zF3(a b:zEC):Bool:=a.all fun x=>b.all fun y=>zQa (sJ x.1) (sJ y.1)&&zNm y.2 x.1&&zNm x.2 y.1
def Stp.apart(a b:Stp):Bool:=zF3 a.l b.l&&zQa a.slots (b.rd.map (·.1))&&zQa b.slots (a.rd.map (·.1))&&a.rd.all fun x=>b.l.all fun y=>x.2.okB y.2
theorem zF4{wr:Wr}{s:Nat}(h:s∉sJ wr):wr.find s=im:=by
 induction wr with
 |nil=>rfl
 |cons x wr ih=>
  simp only[sJ,Jo,J8,not_or]at h;simp only[Wr.find,Ne.symm h.1,if_false];exact ih h.2
theorem zIS{wr:Wr}{s:Nat}{x:Option T}(h:wr.find s=ik x):s∈sJ wr∧ ∃y∈wr,y.2=x:=by
 induction wr with
 |nil=>simp[Wr.find]at h
 |cons y wr ih=>
  simp only[Wr.find]at h;split at h
  ·rename_i e
   simp at h;exact⟨by simp[sJ,e],y,by simp,h⟩
  ·obtain⟨h1,z,h2,h3⟩:=ih h
   exact⟨by simp only[sJ,Jo,J8];exact .inr h1,z,by simp[h2],h3⟩
theorem zHm{a b:List Nat}(h:zQa a b=io){s:Nat}(hs:s∈a):s∉b:=by have:=Kg.1 h s hs;simpa using this
theorem zRO(E:Env)(w1 w2:Wr)(c1 c2:Chg)(h:zQa (sJ w1) (sJ w2)=io)(h1:zNm c2 w1=io)(h2:zNm c1 w2=io):
  (E.app w1 c1).app w2 c2=(E.app w2 c2).app w1 c1:=by
 funext s
 have ok:∀{c:Chg}{w:Wr}{s:Nat}{x:Option T},zNm c w=io→w.find s=ik x→(match x with|some t=>if t.okB c then ik t else im|none=>im)=x:=by
  intro c w s x hw hf;obtain⟨_,y,hy,rfl⟩:=zIS hf;have:=Kg.1 hw y hy;cases hy2:y.2 with
  |none=>rfl
  |some t=>rw[hy2]at this;simp only[oOk]at this;simp[this]
 unfold Env.app;cases hf1:w1.find s with
 |some x=>
  have:=zF4 (zHm h (zIS hf1).1);simp only[this];exact ok h1 hf1
 |none=>
  cases hf2:w2.find s with
  |some y=>simp only;exact(ok h2 hf2).symm
  |none=>
   simp only
   cases E s with
   |none=>rfl
   |some t=>by_cases k1:t.okB c1=io<;>by_cases k2:t.okB c2=io<;>simp[k1,k2]
theorem zDF(w:Wr)(c:Chg):∀(l:zEC)(E:Env),(∀y∈l,zQa (sJ w) (sJ y.1)=io∧zNm y.2 w=io∧zNm c y.1=io)→(E.app w c).apps l=(E.apps l).app w c
 | [],E,_=>rfl
 |y::l,E,h=>by obtain⟨h1,h2,h3⟩:=h y (by simp);show((E.app w c).app y.1 y.2).apps l=_;rw[zRO E w y.1 c y.2 h1 h2 h3];exact zDF w c l _ (fun z hz=>h z (by simp[hz]))
theorem zIT:∀(l1 l2:zEC)(E:Env),zF3 l1 l2=io→(E.apps l1).apps l2=(E.apps l2).apps l1
 | [],l2,E,_=>rfl
 |x::l1,l2,E,h=>by
  simp only[zF3,Jbi,J3]at h;show((E.app x.1 x.2).apps l1).apps l2=((E.apps l2).app x.1 x.2).apps l1;rw[zIT l1 l2 _ (by simp only[zF3];exact h.2),zDF x.1 x.2 l2 E (fun y hy=>by have:=Kg.1 h.1 y hy;simp only[J3]at this;exact⟨this.1.1,this.1.2,this.2⟩)]
def runD:Env→List (Bool×Stp)→Env
 |E,[]=>E
 |E,(b,X)::l=>runD (if b then E.apps X.l else E) l
theorem kP:∀(l1 l2:List (Bool×Stp))(E:Env),runD E (l1++l2)=runD (runD E l1) l2
 | [],_,_=>rfl
 |(b,X)::l1,l2,E=>by simp only[K4,runD];exact kP l1 l2 _
theorem zF5:∀(l:List (Bool×Stp))(X:Stp)(E:Env),(∀y∈l,y.1=io→zF3 X.l y.2.l=io)→runD (E.apps X.l) l=(runD E l).apps X.l
 | [],_,_,_=>rfl
 |(b,Y)::l,X,E,h=>by
  simp only[runD];cases b with
  |false=>exact zF5 l X E (fun y hy=>h y (by simp[hy]))
  |true=>
   have:=h (io,Y) (by simp) rfl;simp only[if_true];rw[zIT X.l Y.l E this];exact zF5 l X _ (fun y hy=>h y (by simp[hy]))
theorem zHn{s:Nat}:∀(l:zEC)(E:Env),s∉l.flatMap (fun x=>sJ x.1)→ ∀t,(E.apps l) s=ik t→E s=ik t
 | [],_,_,_,h=>h
 |x::l,E,hs,t,h=>by
  simp only[Lb,Je,not_or]at hs;have:=zHn l (E.app x.1 x.2) hs.2 t h;unfold Env.app at this;rw[zF4 hs.1]at this;simp only[]at this;cases he:E s with
  |none=>simp[he]at this
  |some u=>simp[he]at this;rw[this.2]
theorem zIU{s:Nat}{t:T}:∀(l:zEC)(E:Env),s∉l.flatMap (fun x=>sJ x.1)→(∀y∈l,t.okB y.2=io)→E s=ik t→(E.apps l) s=ik t
 | [],_,_,_,h=>h
 |x::l,E,hs,gC,h=>by simp only[Lb,Je,not_or]at hs;refine zIU l (E.app x.1 x.2) hs.2 (fun y hy=>gC y (by simp[hy])) ?_;unfold Env.app;rw[zF4 hs.1];simp[h,gC x (by simp)]
theorem zIV{s:Nat}:∀(l:zEC)(E1 E2:Env),(∀t,E2 s=ik t→E1 s=ik t)→ ∀t,(E2.apps l) s=ik t→(E1.apps l) s=ik t
 | [],_,_,h,t,ht=>h t ht
 |x::l,E1,E2,h,t,ht=>by
  refine zIV l (E1.app x.1 x.2) (E2.app x.1 x.2) (fun u hu=>?_) t ht;unfold Env.app at hu ⊢
  cases hf:x.1.find s with
  |some y=>simpa[hf]using hu
  |none=>
   simp only[hf]at hu ⊢
   cases he:E2 s with
   |none=>simp[he]at hu
   |some v=>rw[h v he];simpa[he]using hu
theorem zIW{s:Nat}:∀(l:List (Bool×Stp))(E1 E2:Env),(∀y∈l,y.1=iq→s∉y.2.slots)→(∀t,E2 s=ik t→E1 s=ik t)→
  ∀t,runD E2 (l.map fun y=>(io,y.2)) s=ik t→runD E1 l s=ik t
 | [],_,_,_,h,t,ht=>h t ht
 |(b,X)::l,E1,E2,hl,h,t,ht=>by
  simp only[Jo,runD,if_true]at ht ⊢
  refine zIW l _ _ (fun y hy=>hl y (by simp[hy])) (fun u hu=>?_) t ht;cases b with
  |true=>exact zIV X.l E1 E2 h u hu
  |false=>exact h u (zHn X.l E2 (hl (iq,X) (by simp) rfl) u hu)
theorem zIX{s:Nat}{t:T}:∀(l:List (Bool×Stp))(E:Env),(∀y∈l,y.1=io→s∉y.2.slots∧ ∀z∈y.2.l,t.okB z.2=io)→E s=ik t→runD E l s=ik t
 | [],_,_,h=>h
 |(b,X)::l,E,hl,h=>by
  simp only[runD];refine zIX l _ (fun y hy=>hl y (by simp[hy])) ?_;cases b with
  |false=>exact h
  |true=>obtain⟨h1,h2⟩:=hl (io,X) (by simp) rfl;exact zIU X.l E h1 h2 h
theorem Env.Has.of{E E':Env}:{l:List (Nat×T)}→E.Has l→(∀s t,(s,t)∈l→E s=ik t→E' s=ik t)→E'.Has l
 | [],_,_=>trivial
 |(s,t)::l,h,h'=>⟨h' s t (by simp) h.1,Env.Has.of h.2 fun s t hm=>h' s t (by simp[hm])⟩
end Go.Ab

namespace Go.Ab
open Go
def zBt(o:Oper):List Nat:=(o.after.toList.filter (Region.binds .any)).map (·.on)
def zAP:Nat→List Oper→Bool
 |_,[]=>io
 |i,o::os=>((zBt o).all fun m=>decide (m<i))&&zAP (i+1) os
def zAr(an:List (List Nat)):List (List Nat)→List Oper→Bool
 | [],_=>io
 |_::_,[]=>iq
 |l::ls,o::os=>(l.all fun k=>(zBt o).contains k||(zBt o).any fun m=>(an.getD m []).contains k)&&zAr an ls os
def kA(Xs:List Stp):Nat→List (List Nat)→List Stp→Bool
 |_,_,[]=>io
 |j,an,Y::Ys=>((Jf j).all fun i=>(an.headD []).contains i||match Xs[i]? with
   |some X=>X.apart Y
   |none=>io)&&kA Xs (j+1) an.tail Ys
theorem zG6:∀(os:List Oper)(i0 j:Nat)(o:Oper),zAP i0 os=io→os[j]? =ik o→ ∀m∈zBt o,m<i0+j
 | [],_,j,_,_,h=>by simp at h
 |x::os,i0,j,o,hf,h=>by
  simp only[zAP,J3]at hf;cases j with
  |zero=>
   grind
  |succ j=>
   intro m hm;have:=zG6 os (i0+1) j o hf.2 (by grind) m hm;omega
theorem zJV(an:List (List Nat)):∀(ls:List (List Nat))(os:List Oper)(j:Nat)(l:List Nat),zAr an ls os=io→ls[j]? =ik l→ ∃o,os[j]? =ik o∧ ∀k∈l,k∈zBt o∨ ∃m∈zBt o,k∈an.getD m []
 | [],_,j,_,_,h=>by simp at h
 |_::_,[],_,_,h,_=>by grind[zAr]
 |x::ls,o::os,j,l,ha,h=>by
  simp only[zAr,J3]at ha;cases j with
  |zero=>
   simp_all
  |succ j=>
   obtain⟨o',h1,h2⟩:=zJV an ls os j l ha.2 (by grind)
   grind
theorem zF6(Xs:List Stp):∀(Ys:List Stp)(j0:Nat)(an:List (List Nat))(j:Nat)(Y:Stp),kA Xs j0 an Ys=io→Ys[j]? =ik Y→ ∀i X,i<j0+j→Xs[i]? =ik X→i∈an.getD j []∨X.apart Y=io
 | [],_,_,j,_,_,h=>by simp at h
 |Z::Ys,j0,an,j,Y,hp,h=>by
  simp only[kA,J3]at hp;intro i X hi hX;cases j with
  |zero=>
   simp at h;subst h;have:=Kg.1 hp.1 i (by grind);simp only[hX,Bool.or_eq_true,Hd,decide_eq_true_eq]at this;rcases this with h|h
   ·left
    cases an with
    |nil=>simp at h
    |cons l an=>grind
   grind
  |succ j=>
   rcases zF6 Xs Ys (j0+1) an.tail j Y hp.2 (by grind) i X (by omega) hX with h|h
   all_goals grind
section
variable {P:Program}{Γ:Ctx}{pn:jZ}{ops:Array Oper}
def zRP(ops:Array Oper)(L:List Bool):Prop:=∀(i:Nat)(o:Oper),ops[i]? =ik o→L[i]? =ik io→ ∀m∈zBt o,L[m]? =ik io
theorem zHo{L:List Bool}{an:List (List Nat)}(hf:zAP 0 ops.toList=io)(ha:zAr an an ops.toList=io)(hc:zRP ops L):
  ∀(n i:Nat),i≤n→ ∀o,ops[i]? =ik o→(∀m∈zBt o,L[m]? =ik io)→ ∀k∈an.getD i [],L[k]? =ik io:=by
 intro n
 induction n with
 |zero=>
  intro i hi o ho hp k hk;have uq:i=0:=by omega
  subst uq;cases hl:an[0]? with
  |none=>grind
  |some l=>
   obtain⟨o',h1,h2⟩:=zJV an an ops.toList 0 l ha hl;rw[Kt,ho]at h1;simp at h1;subst h1;simp only[Jcw,hl,Qd]at hk;rcases h2 k hk with h|⟨m,h,_⟩
   ·grind
   ·have:=zG6 ops.toList 0 0 o hf (by grind) m h
    omega
 |succ n ih=>
  intro i hi o ho hp k hk;cases hl:an[i]? with
  |none=>grind
  |some l=>
   obtain⟨o',h1,h2⟩:=zJV an an ops.toList i l ha hl;rw[Kt,ho]at h1;simp at h1;subst h1;simp only[Jcw,hl,Qd]at hk;rcases h2 k hk with h|⟨m,h,hkm⟩
   ·grind
   ·have gF:=zG6 ops.toList 0 i o hf (by grind) m h
    have hLm:=hp m h;cases d6:ops[m]? with
    |none=>
     grind
    |some om=>exact ih m (by omega) om d6 (hc m om d6 hLm) k hkm
theorem zIY{L:List Bool}{Xs:List Stp}{i:Nat}{b:Bool}{X:Stp}(hL:L[i]? =ik b)(hX:Xs[i]? =ik X):L.zip Xs=(L.take i).zip (Xs.take i)++(b,X)::(L.drop (i+1)).zip (Xs.drop (i+1)):=by
 have h1:L=L.take i++b::L.drop (i+1):=by obtain⟨h,rfl⟩:=Jn.1 hL;simp
 have h2:Xs=Xs.take i++X::Xs.drop (i+1):=by obtain⟨h,rfl⟩:=Jn.1 hX;simp
 grind[List.zip_cons_cons]
theorem zJW{L:List Bool}{Xs:List Stp}{y:Bool×Stp}(h:y∈L.zip Xs):∃j:Nat,L[j]? =ik y.1∧Xs[j]? =ik y.2:=by grind[Ja1,List.getElem?_zip_eq_some]
def sZ:Env→List Stp→Prop
 |_,[]=>True
 |E,X::Xs=>E.Has X.rd∧sZ (E.apps X.l) Xs
theorem sZ.get:∀(Xs:List Stp)(E:Env),sZ E Xs→ ∀(i:Nat)(X:Stp),Xs[i]? =ik X→(runD E ((Xs.take i).map fun y=>(io,y))).Has X.rd
 | [],_,_,i,_,h=>by simp at h
 |Y::Xs,E,hh,i,X,h=>by
  cases i with
  |zero=>simp at h;subst h;simpa[runD]using hh.1
  |succ i=>
   have:=sZ.get Xs _ hh.2 i X (by grind)
   grind[runD]
theorem Stp.apart_spec{a b:Stp}(h:a.apart b=io):zF3 a.l b.l=io∧(∀s∈a.slots,s∉b.rd.map (·.1))∧(∀s∈b.slots,s∉a.rd.map (·.1))∧ ∀x∈a.rd,∀y∈b.l,x.2.okB y.2=io:=by simp only[Stp.apart,J3]at h;refine⟨h.1.1.1,by grind[zHm],by grind[zHm],fun x hx y hy=>?_⟩;exact Kg.1 (Kg.1 h.2 x hx) y hy
mutual
theorem zOD:(t:T)→t.okB []=io
 |.same _ _|.addr _ _|.sub _ _ _ _ _=>by rfl
 |.agg xs|.tup xs=>by simp only[T.okB];exact zLr xs
 |.any|.lit _|.ro _|.sl _ _|.ptr _=>by rfl
theorem zLr:(xs:List T)→zKQ [] xs=io
 | []=>by rfl
 |x::xs=>by simp only[zKQ,zOD x,zLr xs,Ks]
end
theorem Rep.heap{E:Env}{G:Gh}{tmps:Array Value}{w w':World}(h:Rep Γ E G tmps w)(hw:w'.heap=w.heap)(ho:w'.os=w.os:=by rfl)(hq:w'.output=w.output:=by rfl):Rep Γ E G tmps w' where
 size:=h.size
 ent s t hs:=Ent.keep (chg:=[]) ⟨fun _ _ _=>rfl,fun _ _ _=>rfl,by grind[yR,World.cell?],fun _ _ _ h _=>h,fun b cs e h=>⟨cs,by grind,rfl⟩⟩ (by simp) (zOD t) (h.ent s t hs)
 mem:=by
  have hm:=h.mem;exact⟨hm.one,fun b o l hl=>by have:=hm.lb b o l hl;exact⟨by rw[hw];exact this.1,this.2⟩,fun b l hl=>by have:=hm.ow b l hl;exact⟨by rw[hw];exact this.1,this.2⟩,
   fun b x hx=>by rw[hw];exact hm.st b x hx,fun b h1 h2=>by rw[hw];exact hm.fr b h1 h2,by rw[hw];exact hm.sz,hm.bk.trans (fun b cs e hb=>⟨cs,by grind,rfl⟩) ho hq⟩
end
end Go.Ab

namespace Go.Ab
open Go
abbrev I(n:Int):T:=.lit (.int .i64 n)
abbrev B(b:Bool):T:=.lit (.bool b)
abbrev L{α:Type}(k:Nat)(f:α→T)(xs:List α):T:=.sl k (xs.map f)
theorem zQ{P:Program}{t:TypeId}{ti:TypeInfo}(h:P.types[t]? =ik ti):P.info? t=ik ti:=by
 have h':=(Kz.1 h).1;simp[Tables.info?,h]
 try omega
def Ok(P:Program)(Γ:Ctx)(o:Oper)(E E':Env):Prop:=∀S,wN P (Γ.at S) o E E'
section
variable {P:Program}{Γ:Ctx}{pn:jZ}{ops:Array Oper}{o:Oper}{os:List Oper}{E E':Env}{Q:Exit→Env→Prop}{d:Nat}
theorem RW.op(h:Ok P Γ o E E')(k:RW P Γ pn ops os E' Q)(hg:o.guard=im:=by rfl)(hp:pn.ok o.dst=io:=by rfl):RW P Γ pn ops (o::os) E Q:=RW.cons (zW.op h hg) k hp
def neD(x:Operand)(d:Nat):Bool:=match x with
 |.tmp s=>s != d
 |_=>io
theorem zED{x:Operand}{d:Nat}(h:neD x d=io):∀s,x=.tmp s→s≠d:=by rintro s rfl;simpa[neD]using h
theorem zBu{t:T}(h:t.okTup=io):∀xs,t≠.tup xs:=by rintro xs rfl;simp[T.okTup]at h
abbrev mvB(Γ:Ctx)(x:Operand)(t:T)(d:Nat):Bool:=J6 d Γ.N&&t.okTup&&neD x d&&T.okB [(d,0)] (tH x t)
section
variable {x y:Operand}{t:T}{ty:TypeId}{ps:String}{af:Array Edge}{gd:Option (Nat×Bool)}
theorem yK{a b:Nat}(h:J6 a b=io):a<b:=by simpa[Nat.blt_eq]using h
theorem zNn(hx:opT E x=ik t)(sd:mvB Γ x t d=io):Ok P Γ ⟨ik d,.move x,ty,ps,af,gd⟩ E (E.app [(d,ik (tH x t))] [(d,0)]):=by simp only[mvB,J3]at sd;exact fun S=>zOx x t (.inl rfl) rfl (yK sd.1.1.1) hx (zBu sd.1.1.2) (zED sd.1.2) sd.2
theorem zVj(hx:opT E x=ik t)(sd:mvB Γ x t d=io):Ok P Γ ⟨ik d,.assign x,ty,ps,af,gd⟩ E (E.app [(d,ik (tH x t))] [(d,0)]):=by simp only[mvB,J3]at sd;exact fun S=>zOx x t (.inr rfl) rfl (yK sd.1.1.1) hx (zBu sd.1.1.2) (zED sd.1.2) sd.2
def inR(n:Int):Bool:=decide (-9223372036854775808≤n)&&decide (n≤9223372036854775807)
theorem zC3{n:Int}(h:inR n=io):IntKind.i64.wrap n=n:=by
 simp only[inR,J3,decide_eq_true_eq]at h;have hb:IntKind.i64.bits=64:=rfl;have hs:IntKind.i64.signed=io:=rfl;simp only[IntKind.wrap,hb,hs,Bool.true_and]
 by_cases h0:0≤n
 ·have:n%2 ^ 64=n:=Kb h0 (by omega)
  rw[this];have h1:¬(n≥2 ^ (64-1)):=by omega
  simp;omega
 ·have:n%2 ^ 64=n+2 ^ 64:=by
   rw[←Uc,Kb (by omega) (by omega)]
  rw[this];have h1:(n+2 ^ 64:Int)≥2 ^ (64-1):=by omega
  simp;omega
def rng(n:Int):Option Int:=if inR n then ik n else im
theorem zC4{n m:Int}(h:rng n=ik m):m=n∧inR n=io:=by
 unfold rng at h;split at h
 ·simp at h;exact⟨h.symm,by assumption⟩
 ·cases h
theorem qQ{m n c:Int}{xt yt:TypeId}(hv:rng (m+n)=ik c)(hx:opT E x=ik (I m))(hy:opT E y=ik (I n))(sd:J6 d Γ.N=io):Ok P Γ ⟨ik d,.binOp .add xt x y yt,ty,ps,af,gd⟩ E (E.app [(d,ik (I c))] [(d,0)]):=by obtain⟨rfl,h⟩:=zC4 hv;exact fun S=>sH .add xt yt x y .i64 m n _ rfl rfl (yK sd) hx hy (by simp only[zJE,zC3 h])
theorem zLs{m n:Int}{xt yt:TypeId}(hx:opT E x=ik (I m))(hy:opT E y=ik (I n))(sd:J6 d Γ.N=io):Ok P Γ ⟨ik d,.binOp .lss xt x y yt,ty,ps,af,gd⟩ E (E.app [(d,ik (B (decide (m<n))))] [(d,0)]):=
 fun _S=>sH .lss xt yt x y .i64 m n _ rfl rfl (yK sd) hx hy rfl
theorem zC5(k:Nat)(sd:J6 d Γ.N=io):Ok P Γ ⟨ik d,.assign (.const (.slice im 0 0)),ty,ps,af,gd⟩ E (E.app [(d,ik (.sl k []))] [(d,0)]):=
 fun _=>zKX k _ (.inr rfl) rfl rfl (yK sd)
def xF(n:Int):Option Nat:=if 0≤n∧n≤68719476736 then ik n.toNat else im
theorem zHp{n:Int}{m:Nat}(h:xF n=ik m):n=(m:Int)∧m≤68719476736:=by
 unfold xF at h;split at h
 ·simp at h;omega
 ·cases h
class ElT (P:Program) (t:TypeId) (e:outParam TypeId) (ti:outParam TypeInfo) (k:outParam Nat) (u:outParam T):Prop where
 un:P.underlying t=ik (.slice e)
 info:P.info? e=ik ti
 zero:∃z,ti.zero=ik z∧sA u=z.cells.toList
 size:ti.size=k
 pos:0<k
 zok:u.zOk=io
 us:u.size=k
 bytes:ti.bytes≤2048
theorem zX4{t e:TypeId}{ti:TypeInfo}{k:Nat}{u:T}{n m:Nat}{a b:Int}(ht:ElT P t e ti k u)(hn:xF a=ik n)(hx:opT E x=ik (I a))(hm:xF b=ik m)(hy:opT E y=ik (I b))(p8:n≤m)(sd:J6 d Γ.N=io):
  Ok P Γ ⟨ik d,.makeSlice t x y,ty,ps,af,gd⟩ E (E.app [(d,ik (.sl k (J1 n u)))] [(d,0)]):=by
 obtain⟨rfl,h1⟩:=zHp hn;obtain⟨rfl,h2⟩:=zHp hm;obtain⟨z,hz,hv⟩:=ht.zero;exact fun S=>zVd t e ti z u k x y n m .i64 .i64 rfl rfl (yK sd) ht.un ht.info hz ht.size ht.pos ht.zok hv ht.us (Hc ht.bytes (by decide)) hx hy p8 h2
end
end
end Go.Ab

namespace Go.Ab
open Go
def ixO{α:Type}(xs:List α)(i:Int):Option α:=if 0≤i then xs[i.toNat]? else im
theorem uU{α:Type}{xs:List α}{i:Int}{v:α}(h:ixO xs i=ik v):0≤i∧xs[i.toNat]? =ik v:=by
 unfold ixO at h;split at h
 ·exact⟨by assumption,h⟩
 ·cases h
def zAs:T→Bool
 |.same _ _=>iq
 |_=>io
theorem tQ{E:Env}{s r:Nat}{q:List Nat}{t u:T}(h1:E s=ik (.same r q))(h2:E r=ik t)(h3:t.get q.reverse=ik u)(h4:zAs u=io):tP E (.tmp s)=ik (r,q,u):=by
 have hg:∀t:T,t.get []=ik t:=fun t=>by cases t<;>rfl
 cases u<;>simp[zAs]at h4<;>simp[tP,qZ,h1,h2,h3,hg]
theorem wA{E:Env}{s:Nat}{t:T}(h1:E s=ik t)(h4:zAs t=io):tP E (.tmp s)=ik (s,[],t):=by
 have hg:∀t:T,t.get []=ik t:=fun t=>by cases t<;>rfl
 cases t<;>simp[zAs]at h4<;>simp[tP,qZ,h1,hg]
section
variable {P:Program}{Γ:Ctx}{E:Env}{d:Nat}{x y:Operand}{ty:TypeId}{ps:String}{af:Array Edge}{gd:Option (Nat×Bool)}
class zBJ (P:Program) (t:TypeId) (e:outParam TypeId) (ti:outParam TypeInfo) (k:outParam Nat):Prop where
 un:P.underlying t=ik (.slice e)
 info:P.info? e=ik ti
 size:ti.size=k
theorem zF7{α:Type}{t e:TypeId}{ti:TypeInfo}{r k:Nat}{q:List Nat}{f:α→T}{xs:List α}{v:α}{i:Int}(ht:zBJ P t e ti k)(hv:ixO xs i=ik v)(hx:tP E x=ik (r,q,L k f xs))(hy:opT E y=ik (I i))(sd:J6 d Γ.N=io):
  Ok P Γ ⟨ik d,.indexAddr t x y,ty,ps,af,gd⟩ E (E.app [(d,ik (.addr r (i.toNat::q)))] [(d,0)]):=by
 obtain⟨h1,h2⟩:=uU hv;exact fun S=>zRx x y t e ti r q k _ .i64 i rfl rfl (yK sd) ht.un ht.info ht.size hx hy h1 (by simpa using(Jn.1 h2).1)
theorem zBv{α:Type}{t e:TypeId}{ti:TypeInfo}{r k:Nat}{q:List Nat}{f:α→T}{xs:List α}{v:α}{i:Int}(ht:zBJ P t e ti k)(hv:ixO xs i=ik v)(hx:tP E x=ik (r,q,.ro (L k f xs)))(hy:opT E y=ik (I i))(sd:J6 d Γ.N=io):
  Ok P Γ ⟨ik d,.indexAddr t x y,ty,ps,af,gd⟩ E (E.app [(d,ik (.ro (.ptr (f v))))] [(d,0)]):=by
 obtain⟨h1,h2⟩:=uU hv;exact fun S=>zRy x y t e ti r q k _ .i64 i _ rfl rfl (yK sd) ht.un ht.info ht.size hx hy h1 (by simp[h2])
theorem zRQ{α:Type}{t e:TypeId}{r k:Nat}{q:List Nat}{f:α→T}{xs:List α}(hu:P.underlying t=ik (.slice e))(hx:tP E x=ik (r,q,L k f xs))(sd:J6 d Γ.N=io):
  Ok P Γ ⟨ik d,.call { callee:=.builtin .len,args:=#[x],argTypes:=#[t] },ty,ps,af,gd⟩ E (E.app [(d,ik (I xs.length))] [(d,0)]):=
 fun _=>zRw x t _ r q (L k f xs) xs.length rfl rfl (yK sd) hu hx (by simp[zKR]) rfl
theorem zRR{α:Type}{t e:TypeId}{r k:Nat}{q:List Nat}{f:α→T}{xs:List α}(hu:P.underlying t=ik (.slice e))(hx:tP E x=ik (r,q,.ro (L k f xs)))(sd:J6 d Γ.N=io):
  Ok P Γ ⟨ik d,.call { callee:=.builtin .len,args:=#[x],argTypes:=#[t] },ty,ps,af,gd⟩ E (E.app [(d,ik (I xs.length))] [(d,0)]):=
 fun _=>zRw x t _ r q (.ro (L k f xs)) xs.length rfl rfl (yK sd) hu hx (by simp[zKR]) rfl
structure zVk (P:Program) (t:TypeId) (u:T):Prop where
 h:∃ds ti,P.underlying t=ik ds∧P.info? t=ik ti∧zFu ds= !u.single∧ti.size=u.size
theorem zZc{t:TypeId}{u:T}(ht:zVk P t u)(hx:opT E x=ik (.ro (.ptr u)))(sd:J6 d Γ.N=io):Ok P Γ ⟨ik d,.load t x,ty,ps,af,gd⟩ E (E.app [(d,ik (roT u))] [(d,0)]):=by obtain⟨ds,ti,h1,h2,h3,h4⟩:=ht.h;exact fun S=>zNf x t ds ti u rfl rfl (yK sd) h1 h2 h3 h4 hx
theorem zEE{t:TypeId}{u tr:T}{r:Nat}{q:List Nat}(ht:zVk P t u)(hx:opT E x=ik (.addr r q))(hr:E r=ik tr)(hg:tr.get q.reverse=ik u)(sd:(J6 d Γ.N&&tr.locd q.reverse&&(r != d)&&T.okB [(d,0)] (cpT r u q))=io):
  Ok P Γ ⟨ik d,.load t x,ty,ps,af,gd⟩ E (E.app [(d,ik (cpT r u q))] [(d,0)]):=by
 obtain⟨ds,ti,h1,h2,h3,h4⟩:=ht.h;simp only[J3]at sd;exact fun S=>zVc x t ds ti r q tr u rfl rfl (yK sd.1.1.1) h1 h2 h3 h4 hx hr hg sd.1.1.2 (by simpa using sd.1.2) sd.2
end
end Go.Ab

namespace Go.Ab
open Go
section
variable {P:Program}{Γ:Ctx}{E:Env}{x:Operand}{ty:TypeId}{ps:String}{af:Array Edge}{gd:Option (Nat×Bool)}
theorem yBG{t:TypeId}{ti:TypeInfo}{r s:Nat}{q:List Nat}{tr tr' u0:T}{v:Value}(hi:P.info? t=ik ti)(gy:ti.size=1)(hx:opT E x=ik (.addr r q))(hr:E r=ik tr)(hg:tr.get q.reverse=ik u0)(gv:tr.set q.reverse (.lit v)=tr')(hy:E s=ik (.lit v))
  (sd:(tr.single&&tr.locd q.reverse&&vJ (.lit v) u0&&(r != s))=io):Ok P Γ ⟨im,.store t x (.tmp s),ty,ps,af,gd⟩ E (E.app [(r,ik tr')] [(r,q.length)]):=by
 simp only[J3]at sd;subst gv;intro S;have:=zLb (P:=P) (Γ:=Γ.at S) (E:=E) (o:=⟨im,.store t x (.tmp s),ty,ps,af,gd⟩) t ti x (.tmp s) r q tr u0 (.slot s (.lit v)) rfl rfl hi (by rw[gy];rfl) (by omega) hx hr sd.1.1.1 hg sd.1.1.2 sd.1.2 (.slot s _)
  ⟨fun s' t' h=>by simp at h;obtain⟨rfl,rfl⟩:=h;exact⟨hy,by simp[yD,xD],rfl⟩,fun u h=>by simp at h,by simp[xV,sS]⟩
 exact this
theorem zZd{t:TypeId}{ti:TypeInfo}{r:Nat}{q:List Nat}{tr tr' u0:T}{v:Value}(hi:P.info? t=ik ti)(gy:ti.size=1)(hx:opT E x=ik (.addr r q))(hr:E r=ik tr)(hg:tr.get q.reverse=ik u0)(gv:tr.set q.reverse (.lit v)=tr')
  (sd:(tr.single&&tr.locd q.reverse&&vJ (.lit v) u0&&(T.lit v).zOk)=io)(hz:sA (.lit v)=v.cells.toList):Ok P Γ ⟨im,.store t x (.const v),ty,ps,af,gd⟩ E (E.app [(r,ik tr')] [(r,q.length)]):=by
 simp only[J3]at sd;subst gv;intro S;have:=zLb (P:=P) (Γ:=Γ.at S) (E:=E) (o:=⟨im,.store t x (.const v),ty,ps,af,gd⟩) t ti x (.const v) r q tr u0 (.zero (.lit v)) rfl rfl hi (by rw[gy];rfl) (by omega) hx hr sd.1.1.1 hg sd.1.1.2 sd.1.2 (.zero v _ hz)
  ⟨fun s' t' h=>by simp at h,fun u h=>by simp at h;subst h;exact sd.2,by simp[xV]⟩
 exact this
end
end Go.Ab

namespace Go.Ab
open Go
theorem zN.tr{Γ:Ctx}{E:Env}(d r:Nat)(u:T)(hd:E d=ik (.same r []))(hr:E r=ik u)(eD:yD u)(sd:(u.single&&xM u&&u.okB [(d,1),(r,1)]&&(d != r))=io):
  zN Γ E (E.app [(d,ik u),(r,ik (.same d []))] [(d,1),(r,1)]):=by
 simp only[J3]at sd
 rintro a w ⟨S,hS,hs⟩
 have gj:d≠r:=by simpa using sd.2
 have hg:∀t:T,t.get []=ik t:=fun t=>by cases t<;>rfl
 have:=zNj hs d [] r [] (.same r []) u u hd rfl hr (hg u) sd.1.1.1 eD gj (by simp[T.okB,zAj]) sd.1.2 rfl sd.1.1.2;exact⟨S,hS,this⟩
theorem zEc{α:Type}{f:α→T}(hf:∀x,yD (f x)):(xs:List α)→xU (xs.map f)
 | []=>trivial
 |x::xs=>⟨hf x,zEc hf xs⟩
theorem zOE{α:Type}{f:α→T}{k:Nat}{xs:List α}(hf:∀x,yD (f x)):yD (L k f xs):=by simp only[yD,xD];exact zEc hf xs
theorem zOF(n:Int):yD (I n):=by simp[yD,xD]
theorem zVl(b:Bool):yD (B b):=by simp[yD,xD]
end Go.Ab

namespace Go.Ab
open Go
section
variable {P:Program}{Γ:Ctx}{E:Env}{d:Nat}{x y:Operand}{ty:TypeId}{ps:String}{af:Array Edge}{gd:Option (Nat×Bool)}{m n c:Int}{xt yt:TypeId}
theorem zGk(hv:rng (m-n)=ik c)(hx:opT E x=ik (I m))(hy:opT E y=ik (I n))(sd:J6 d Γ.N=io):Ok P Γ ⟨ik d,.binOp .sub xt x y yt,ty,ps,af,gd⟩ E (E.app [(d,ik (I c))] [(d,0)]):=by obtain⟨rfl,h⟩:=zC4 hv;exact fun _=>sH .sub xt yt x y .i64 m n _ rfl rfl (yK sd) hx hy (by simp only[zJE,zC3 h])
theorem zRS(hv:rng (m*n)=ik c)(hx:opT E x=ik (I m))(hy:opT E y=ik (I n))(sd:J6 d Γ.N=io):Ok P Γ ⟨ik d,.binOp .mul xt x y yt,ty,ps,af,gd⟩ E (E.app [(d,ik (I c))] [(d,0)]):=by obtain⟨rfl,h⟩:=zC4 hv;exact fun _=>sH .mul xt yt x y .i64 m n _ rfl rfl (yK sd) hx hy (by simp only[zJE,zC3 h])
def tR(m n:Int):Option Int:=if n=0 then im else rng (m.tdiv n)
def tB(m n:Int):Option Int:=if n=0 then im else ik (m.tmod n)
theorem zZe(hv:tR m n=ik c)(hx:opT E x=ik (I m))(hy:opT E y=ik (I n))(sd:J6 d Γ.N=io):Ok P Γ ⟨ik d,.binOp .quo xt x y yt,ty,ps,af,gd⟩ E (E.app [(d,ik (I c))] [(d,0)]):=by
 unfold tR at hv;split at hv
 ·cases hv
 ·rename_i h0
  obtain⟨rfl,h⟩:=zC4 hv;exact fun _=>sH .quo xt yt x y .i64 m n _ rfl rfl (yK sd) hx hy (by simp only[zJE,h0,if_false,zC3 h])
theorem zWC(hv:tB m n=ik c)(hx:opT E x=ik (I m))(hy:opT E y=ik (I n))(sd:J6 d Γ.N=io):Ok P Γ ⟨ik d,.binOp .rem xt x y yt,ty,ps,af,gd⟩ E (E.app [(d,ik (I c))] [(d,0)]):=by
 unfold tB at hv;split at hv
 ·cases hv
 ·rename_i h0
  simp at hv;subst hv;exact fun _=>sH .rem xt yt x y .i64 m n _ rfl rfl (yK sd) hx hy (by simp only[zJE,h0,if_false])
theorem zRT(hx:opT E x=ik (I m))(hy:opT E y=ik (I n))(sd:J6 d Γ.N=io):Ok P Γ ⟨ik d,.binOp .leq xt x y yt,ty,ps,af,gd⟩ E (E.app [(d,ik (B (decide (m≤n))))] [(d,0)]):=
 fun _=>sH .leq xt yt x y .i64 m n _ rfl rfl (yK sd) hx hy rfl
theorem zRU(hx:opT E x=ik (I m))(hy:opT E y=ik (I n))(sd:J6 d Γ.N=io):Ok P Γ ⟨ik d,.binOp .gtr xt x y yt,ty,ps,af,gd⟩ E (E.app [(d,ik (B (decide (m> n))))] [(d,0)]):=
 fun _=>sH .gtr xt yt x y .i64 m n _ rfl rfl (yK sd) hx hy rfl
theorem zOG(hx:opT E x=ik (I m))(hy:opT E y=ik (I n))(sd:J6 d Γ.N=io):Ok P Γ ⟨ik d,.binOp .geq xt x y yt,ty,ps,af,gd⟩ E (E.app [(d,ik (B (decide (m≥n))))] [(d,0)]):=
 fun _=>sH .geq xt yt x y .i64 m n _ rfl rfl (yK sd) hx hy rfl
theorem zLt(hx:opT E x=ik (I m))(hy:opT E y=ik (I n))(sd:J6 d Γ.N=io):Ok P Γ ⟨ik d,.binOp .eql xt x y yt,ty,ps,af,gd⟩ E (E.app [(d,ik (B (m==n)))] [(d,0)]):=
 fun _=>sH .eql xt yt x y .i64 m n _ rfl rfl (yK sd) hx hy rfl
theorem zOH(hx:opT E x=ik (I m))(hy:opT E y=ik (I n))(sd:J6 d Γ.N=io):Ok P Γ ⟨ik d,.binOp .neq xt x y yt,ty,ps,af,gd⟩ E (E.app [(d,ik (B (m != n)))] [(d,0)]):=
 fun _=>sH .neq xt yt x y .i64 m n _ rfl rfl (yK sd) hx hy rfl
theorem zBw{b:Bool}(hx:opT E x=ik (B b))(sd:J6 d Γ.N=io):Ok P Γ ⟨ik d,.unOp .not xt x,ty,ps,af,gd⟩ E (E.app [(d,ik (B (!b)))] [(d,0)]):=
 fun _=>zXz xt x b rfl rfl (yK sd) hx
theorem zWD(hv:rng (0-n)=ik c)(hx:opT E x=ik (I n))(sd:J6 d Γ.N=io):Ok P Γ ⟨ik d,.unOp .neg xt x,ty,ps,af,gd⟩ E (E.app [(d,ik (I c))] [(d,0)]):=by
 obtain⟨rfl,h⟩:=zC4 hv;have:=fun S=>zX0 (P:=P) (Γ:=Γ.at S) (E:=E) (o:=⟨ik d,.unOp .neg xt x,ty,ps,af,gd⟩) xt x .i64 n rfl rfl (yK sd) hx
 rw[zC3 h]at this;exact this
end
end Go.Ab

namespace Go.Ab
open Go
section
variable {P:Program}{Γ:Ctx}{E:Env}{d:Nat}{x y:Operand}{ty:TypeId}{ps:String}{af:Array Edge}{gd:Option (Nat×Bool)}
class zGy (P:Program) (t:TypeId) (u:outParam T):Prop where
 h:∃ti z,P.info? t=ik ti∧ti.zero=ik z∧u.zOk=io∧sA u=z.cells.toList∧z.cells.size=u.size
theorem zJX{t:TypeId}{u:T}(ht:zGy P t u)(sd:J6 d Γ.N=io):Ok P Γ ⟨ik d,.alloc t,ty,ps,af,gd⟩ E (E.app [(d,ik (.ptr u))] [(d,0)]):=by obtain⟨ti,z,h1,h2,h3,h4,h5⟩:=ht.h;exact fun S=>zR7 t ti z u rfl rfl (yK sd) h1 h2 h3 h4 h5
theorem zRV{s i:Nat}{ts:List T}{t:T}(hs:E s=ik (.tup ts))(hi:ts[i]? =ik t)(sd:(J6 d Γ.N&&t.okTup&&(s != d)&&T.okB [(d,0)] (cpT s t [i]))=io):
  Ok P Γ ⟨ik d,.extract (.tmp s) i,ty,ps,af,gd⟩ E (E.app [(d,ik (cpT s t [i]))] [(d,0)]):=by
 simp only[J3]at sd;exact fun S=>zNg s i ts t rfl rfl (yK sd.1.1.1) hs hi (zBu sd.1.1.2) (by simpa using sd.1.2) sd.2
theorem zBc{t:T}(hx:opT E x=ik t)(hp:zGd E x=io)(sd:mvB Γ x t d=io):Ok P Γ ⟨ik d,.nilCheck x,ty,ps,af,gd⟩ E (E.app [(d,ik (tH x t))] [(d,0)]):=by simp only[mvB,J3]at sd;exact fun S=>zX1 x t rfl rfl (yK sd.1.1.1) hx hp (zBu sd.1.1.2) (zED sd.1.2) sd.2
theorem zNo{c:Operand}{b:Bool}{t:T}(hc:opT E c=ik (B b))(hx:opT E (if b then x else y)=ik t)(sd:mvB Γ (if b then x else y) t d=io):Ok P Γ ⟨ik d,.pick c x y,ty,ps,af,gd⟩ E (E.app [(d,ik (tH (if b then x else y) t))] [(d,0)]):=by simp only[mvB,J3]at sd;exact fun S=>zUZ c x y b t rfl rfl (yK sd.1.1.1) hc hx (zBu sd.1.1.2) (zED sd.1.2) sd.2
theorem zWE{t:TypeId}{s:Nat}{u:T}(hs:E s=ik u)(hu:yD u)(sd:(J6 d Γ.N&&u.okTup&&(s != d))=io):
  Ok P Γ ⟨ik d,.box t (.tmp s),ty,ps,af,gd⟩ E (E.app ((d,ik (.ptr u))::pWr d [.slot s u] 0) ((d,0)::sT [.slot s u])):=by
 simp only[J3]at sd;have gj:s≠d:=by simpa using sd.2
 refine fun S=>zX3 t (.tmp s) (.slot s u) rfl rfl (yK sd.1.1) (.slot s u) ⟨fun s' t' h=>by simp at h;obtain⟨rfl,rfl⟩:=h;exact⟨hs,hu,sd.1.2⟩,fun u h=>by simp at h,?_⟩
 simp only[xV];split<;>simp[Ne.symm gj]
end
end Go.Ab

namespace Go.Ab
open Go
def xW{α:Type}(xs ys:List α):Option (List α):=if xs.length+ys.length≤68719476736 then ik (xs++ys)else im
theorem zF8{α:Type}{xs ys zs:List α}(h:xW xs ys=ik zs):zs=xs++ys∧xs.length+ys.length≤68719476736:=by
 unfold xW at h;split at h
 ·simp at h;exact⟨h.symm,by assumption⟩
 ·cases h
section
variable {P:Program}{Γ:Ctx}{E:Env}{d:Nat}{x y:Operand}{ty:TypeId}{ps:String}{af:Array Edge}{gd:Option (Nat×Bool)}
theorem ElT.zsize{t e:TypeId}{ti:TypeInfo}{k:Nat}{u:T}(h:ElT P t e ti k u):∃z,ti.zero=ik z∧z.cells.size=k:=by obtain⟨z,h1,h2⟩:=h.zero;exact⟨z,h1,by rw[←Kq,←h2,vE u h.zok,h.us]⟩
theorem zBK{α:Type}{t e:TypeId}{ti:TypeInfo}{k:Nat}{u:T}{f:α→T}{xs ys zs:List α}{s0 s1:Nat}(ht:ElT P t e ti k u)(hv:xW xs ys=ik zs)(h0:E s0=ik (L k f xs))(h1:E s1=ik (L k f ys))(sd:(J6 d Γ.N&&(s0 != d)&&(s1 != d)&&(s1 != s0))=io):
  Ok P Γ ⟨ik d,.call { callee:=.builtin .append,args:=#[.tmp s0,.tmp s1],argTypes:=#[t,t] },ty,ps,af,gd⟩ E (E.app [(d,ik (L k f zs)),(s0,ik .any),(s1,ik .any)] [(d,0),(s0,1),(s1,1)]):=by
 obtain⟨rfl,hl⟩:=zF8 hv;obtain⟨z,hz,fg⟩:=ht.zsize;simp only[J3]at sd;intro S;have:=zJO (P:=P) (Γ:=Γ.at S) (E:=E) (o:=⟨ik d,.call { callee:=.builtin .append,args:=#[.tmp s0,.tmp s1],argTypes:=#[t,t] },ty,ps,af,gd⟩) t e ti z k s0 s1 (xs.map f) (ys.map f) rfl rfl (yK sd.1.1.1) ht.un ht.info hz ht.size ht.pos fg ht.bytes h0 h1
  (by simpa using sd.1.1.2) (by simpa using sd.1.2) (by simpa using sd.2) (by simpa using hl)
 rw[←L8]at this;exact this
theorem zIZ{α:Type}{f:α→T}(hf:∀x,(f x).flat=io):(xs:List α)→zAA (xs.map f)=io
 | []=>rfl
 |x::xs=>by simp only[Jo,zAA,hf x,zIZ hf xs,Ks]
theorem zNp{α:Type}{t e:TypeId}{ti:TypeInfo}{k r:Nat}{q:List Nat}{u:T}{f:α→T}{xs ys zs:List α}{s0:Nat}(ht:ElT P t e ti k u)(hf:∀x,(f x).flat=io)(hv:xW xs ys=ik zs)(h0:E s0=ik (L k f xs))(h1:tP E y=ik (r,q,L k f ys))(sd:(J6 d Γ.N&&(s0 != d))=io):
  Ok P Γ ⟨ik d,.call { callee:=.builtin .append,args:=#[.tmp s0,y],argTypes:=#[t,t] },ty,ps,af,gd⟩ E (E.app [(d,ik (L k f zs)),(s0,ik .any)] [(d,0),(s0,1)]):=by
 obtain⟨rfl,hl⟩:=zF8 hv;obtain⟨z,hz,fg⟩:=ht.zsize;simp only[J3]at sd;intro S;have:=zJP (P:=P) (Γ:=Γ.at S) (E:=E) (o:=⟨ik d,.call { callee:=.builtin .append,args:=#[.tmp s0,y],argTypes:=#[t,t] },ty,ps,af,gd⟩) t e ti z k s0 y r q (xs.map f) (ys.map f) rfl rfl (yK sd.1) ht.un ht.info hz ht.size ht.pos fg ht.bytes h0 h1 (zIZ hf ys)
  (by simpa using sd.2) (by simpa using hl)
 rw[←L8]at this;exact this
end
end Go.Ab

namespace Go.Ab
open Go
abbrev IK(k:IntKind)(n:Int):T:=.lit (.int k n)
abbrev Str(s:ByteArray):T:=.lit (.string s)
abbrev Pt{α:Type}(f:α→T)(x:α):T:=.ptr (f x)
abbrev Ro{α:Type}(f:α→T)(x:α):T:=.ro (f x)
abbrev A2{α:Type}(f:α→T)(x:α×α):T:=.agg [f x.1,f x.2]
theorem bd{α β:Type}{o:Option α}{f:α→Option β}{r:β}(h:o.bind f=ik r):∃v,o=ik v∧f v=ik r:=by
 cases o with
 |none=>simp at h
 |some v=>grind
theorem cT{α:Type}{b:Bool}{x y:α}{z:α}(hc:b=io)(h:cond b x y=z):x=z:=by grind
theorem cF{α:Type}{b:Bool}{x y:α}{z:α}(hc:b=iq)(h:cond b x y=z):y=z:=by grind
theorem sI{α:Type}{x y:α}(h:ik x=ik y):x=y:=Ln.inj h
section
variable {P:Program}{Γ:Ctx}{pn:jZ}{E E':Env}{Q:Exit→Env→Prop}{c:Code}{id id':Nat}
theorem nA(h:CW P Γ pn c E Q):wF P Γ pn c Q .normal E:=h
theorem xA(h:Q (.exit id) E):wF P Γ pn c Q (.exit id) E:=h
theorem rA(h:Q .ret E):wF P Γ pn c Q .ret E:=h
theorem nB(h:Q .normal E):wK id Q .normal E:=h
theorem rB(h:Q .ret E):wK id Q .ret E:=h
theorem xB(h:Q .normal E):wK id Q (.exit id) E:=by simp only[wK,if_true];exact h
theorem neX:Exit.exit id≠.normal:=by simp
theorem neR:Exit.ret≠.normal:=by simp
theorem RW.cases{ops:Array Oper}{os:List Oper}(s:Nat)(b:Bool)(hb:E s=ik (B b))(ht:b=io→RW P Γ pn ops os (E.app [(s,ik (B io))] []) Q)(hf:b=iq→RW P Γ pn ops os (E.app [(s,ik (B iq))] []) Q):RW P Γ pn ops os E Q:=by
 have key:∀c:Bool,b=c→zN Γ E (E.app [(s,ik (B c))] []):=by
  rintro c rfl a w hs
  refine hs.weaken fun s' t h=>?_
  by_cases e:s=s'
  ·grind[Env.app,Wr.find]
  ·simp only[Env.app,Wr.find,e,if_false]at h
   grind
 cases hc:b with
 |true=>grind[ghost]
 |false=>grind[ghost]
end
theorem zV{α:Type}{k:Nat}{f:α→T}{xs:List α}{i:Int}{v:α}{p:List Nat}{u:T}(h:ixO xs i=ik v)(hr:(f v).get p=ik u):(L k f xs).get (i.toNat::p)=ik u:=by simp[T.get,(uU h).2,hr]
theorem xC{t u:T}{p:List Nat}(h:t.get p=ik u):(T.ptr t).get (0::p)=ik u:=h
theorem yX{xs:List T}{x u:T}{j:Nat}{p:List Nat}(hj:xs[j]? =ik x)(h:x.get p=ik u):(T.agg xs).get (j::p)=ik u:=by grind[T.get]
theorem zAb{α:Type}{k:Nat}{f:α→T}{xs:List α}{i:Int}{v w:α}{p:List Nat}{u:T}(h:ixO xs i=ik v)(hr:(f v).set p u=f w):(L k f xs).set (i.toNat::p) u=L k f (xs.set i.toNat w):=by simp[L,T.set,(uU h).2,hr,Jav]
theorem zBd{t u t':T}{p:List Nat}(h:t.set p u=t'):(T.ptr t).set (0::p) u=T.ptr t':=by simp[T.set,h]
theorem zF9{xs:List T}{x u x':T}{j:Nat}{p:List Nat}(hj:xs[j]? =ik x)(h:x.set p u=x'):(T.agg xs).set (j::p) u=.agg (xs.set j x'):=by grind[T.set]
class Enc {α:Type} (f:α→T):Prop where
 clean:∀x,yD (f x)
 rofree:∀x,wZ (f x)=io
 strip:∀x,strip (f x)=f x
 okTup:∀x,(f x).okTup=io
 rook:∀x,zF0 (f x)=io
theorem zHq{α:Type}{f:α→T}(h:∀x,wZ (f x)=io):(xs:List α)→uN (xs.map f)=io
 | []=>rfl
 |x::xs=>by simp only[Jo,uN,h x,zHq h xs,Ks]
theorem zHr{α:Type}{f:α→T}(h:∀x,zF0 (f x)=io):(xs:List α)→zBq (xs.map f)=io
 | []=>rfl
 |x::xs=>by simp only[Jo,zBq,h x,zHr h xs,Ks]
theorem qA{α:Type}{f g:α→T}(h:∀x,strip (f x)=g x):(xs:List α)→vA (xs.map f)=xs.map g
 | []=>rfl
 |x::xs=>by simp only[Jo,vA,h x,qA h xs]
instance:Enc I:=⟨zOF,fun _=>rfl,fun _=>rfl,fun _=>rfl,fun _=>rfl⟩
instance:Enc B:=⟨zVl,fun _=>rfl,fun _=>rfl,fun _=>rfl,fun _=>rfl⟩
instance{k:IntKind}:Enc (IK k):=⟨fun _=>by simp[yD,xD],fun _=>rfl,fun _=>rfl,fun _=>rfl,fun _=>rfl⟩
instance:Enc Str:=⟨fun _=>by simp[yD,xD],fun _=>rfl,fun _=>rfl,fun _=>rfl,fun _=>rfl⟩
instance{α:Type}{k:Nat}{f:α→T}[h:Enc f]:Enc (L k f):=
 ⟨fun _=>zOE h.clean,fun xs=>by simp only[wZ];exact zHq h.rofree xs,fun xs=>by simp only[L,strip,qA h.strip xs],fun _=>rfl,fun xs=>by simp only[zF0,zHr h.rook xs]⟩
instance{α:Type}{f:α→T}[h:Enc f]:Enc (A2 f):=
 ⟨fun x=>by simp only[yD,xD,xZ];exact⟨h.clean _,h.clean _,trivial⟩,fun x=>by simp only[wZ,uN,h.rofree,Ks],fun x=>by simp only[A2,strip,vA,h.strip],
  fun x=>by simp only[T.okTup,yT,h.okTup,Ks],fun x=>by simp only[zF0,zBq,h.rook,Ks]⟩
instance{α:Type}{f:α→T}[h:Enc f]:Enc (Pt f):=
 ⟨fun x=>by simp only[yD,xD];exact h.clean x,fun x=>by simp only[wZ,h.rofree],fun x=>by simp only[Pt,strip,h.strip],fun _=>rfl,fun x=>by simp only[zF0,h.rook]⟩
class uV {α:Type} (f g:α→T):Prop where
 h:∀x,strip (f x)=g x
instance{α:Type}{f:α→T}[h:Enc f]:uV f f:=⟨h.strip⟩
instance{α:Type}{k:Nat}{f g:α→T}[h:uV f g]:uV (L k f) (L k g):=⟨fun xs=>by simp only[L,strip,qA h.h xs]⟩
instance{α:Type}{k:Nat}{g:α→T}:uV (Ro (L k g)) (L k g):=⟨fun _=>rfl⟩
instance{α:Type}{g:α→T}:uV (Ro (Pt g)) (Pt g):=⟨fun _=>rfl⟩
theorem stA{xs ys:List T}(h:vA xs=ys):strip (.agg xs)=.agg ys:=by grind[strip]
theorem stC{x y:T}{xs ys:List T}(h:strip x=y)(h2:vA xs=ys):vA (x::xs)=y::ys:=by grind[vA]
section
variable {E:Env}{rw:Rw}{i s r:Nat}{q:List Nat}{x:Operand}
theorem jI{α:Type}{k:Nat}{f g:α→T}{xs:List α}(h:uV f g):clo E (L k f xs)=.ro (L k g xs):=by simp only[clo,L,strip,qA h.h xs]
theorem zVm{t u:T}(h:strip t=u):clo E (.ptr t)=.ro (.ptr u):=by grind[clo,strip]
theorem zDl{tr u:T}(hr:E r=ik tr)(hg:tr.get q.reverse=ik u)(h4:zAs u=io):qZ E 4 r q=ik (r,q,u):=by grind[zAs,qZ]
theorem qB{α:Type}{k:Nat}{f g:α→T}{xs:List α}{tr:T}(hr:E r=ik tr)(hg:tr.get q.reverse=ik (L k f xs))(h:uV f g):clo E (.same r q)=.ro (L k g xs):=by simp only[clo,zDl hr hg rfl,T.single,if_true,L,strip,qA h.h xs]
theorem zZf{t u tr:T}(hr:E r=ik tr)(hg:tr.get q.reverse=ik (.ptr t))(h:strip t=u):clo E (.same r q)=.ro (.ptr u):=by simp only[clo,zDl hr hg rfl,T.single,if_true,strip,h]
theorem zX5{α:Type}{k l h:Nat}{f g:α→T}{xs:List α}{tr:T}(hr:E r=ik tr)(hg:tr.get q.reverse=ik (L k f xs))(hs:uV f g)(h1:l≤h)(h2:h≤xs.length):clo E (.sub r q k l h)=.ro (L k g ((xs.drop l).take (h-l))):=by simp only[clo,zDl hr hg rfl,L,qA hs.h xs,Ji,h1,h2,and_self,if_true,Jcv,Jbe]
theorem zAC{xs ys:List T}(h:zBs E xs=ys):clo E (.agg xs)=.agg ys:=by grind[clo]
theorem zAD:zBs E []=[]:=rfl
theorem vM{x y:T}{xs ys:List T}(h:clo E x=y)(h2:zBs E xs=ys):zBs E (x::xs)=y::ys:=by grind[zBs]
mutual
theorem zJa(s:Nat):(t:T)→t.okTup=io→qH E [] s t=io
 |.agg xs,h=>by simp only[qH,T.okTup]at h ⊢;exact zHs s xs h
 |.tup _,h=>by grind[T.okTup]
 |.same r q,_|.sub r q _ _ _,_=>by grind[qH]
 |.sl _ _,_|.ptr _,_=>by rfl
 |.lit _,_|.ro _,_|.any,_|.addr _ _,_=>by rfl
theorem zHs(s:Nat):(xs:List T)→yT xs=io→zAB E [] s xs=io
 | [],_=>rfl
 |x::xs,h=>by simp only[yT,J3]at h;simp only[zAB,zJa s x h.1,zHs s xs h.2,Ks]
end
theorem agC{u:T}(t:T)(h:opT E x=ik t)(h1:clo E t=u)(h2:t.okTup=io):zCk E [] i x u:=.inr ⟨t,h,h1,by
 cases x with
 |tmp s=>exact zJa s t h2
 |_=>rfl⟩
end
section
variable {P:Program}{Γ:Ctx}{E:Env}{d:Nat}{x y:Operand}{ty:TypeId}{ps:String}{af:Array Edge}{gd:Option (Nat×Bool)}
abbrev jJ(res:List T):Prop:=xU res∧yT res=io∧uN res=io
theorem vF:jJ []:=⟨trivial,rfl,rfl⟩
theorem vQ{α:Type}{f:α→T}{x:α}{ts:List T}(h:Enc f)(h2:jJ ts):jJ (f x::ts):=
 ⟨⟨h.clean x,h2.1⟩,by simp only[yT,h.okTup,h2.2.1,Ks],by simp only[uN,h.rofree,h2.2.2,Ks]⟩
abbrev zAc(P:Program)(f:FuncId):Prop:=∀args w,(callFunc f args).run P w=.ok (.enter f args) w
theorem wB{f:FuncId}{xs:List Operand}{ats:Array TypeId}{us res:List T}(gu:zAc P f)(hc:FnC P f us res [])(gc:xX E [] 0 xs us)(gm:jJ res)(sd:J6 d Γ.N=io):
  Ok P Γ ⟨ik d,.call { callee:=.value (.func f),args:=xs.toArray,argTypes:=ats },ty,ps,af,gd⟩ E (E.app (cWr d res []) (uC d [])):=
 fun _S=>zJT f (.func f) xs ats us res [] rfl rfl (yK sd) gu rfl hc gc .nil gm
theorem zVn{f:FuncId}{xs:List Operand}{ats:Array TypeId}{us res:List T}(gu:zAc P f)(hc:FnC P f us res [])(gf:xs.length=us.length)(gc:∀(i:Nat) u,us[i]? =ik u→ ∃x,xs[i]? =ik x∧opT E x=ik u∧u.flat=io)(gm:xU res∧yT res=io)(sd:J6 d Γ.N=io):
  Ok P Γ ⟨ik d,.call { callee:=.value (.func f),args:=xs.toArray,argTypes:=ats },ty,ps,af,gd⟩ E (E.app (cWr d res []) (uC d [])):=
 fun _S=>zRJ f (.func f) xs ats us res rfl rfl (yK sd) gu rfl hc gf gc gm
class sO (P:Program) (S:TypeId) (j:Nat) (off:outParam Nat):Prop where
 h:∃fs f fi,P.underlying S=ik (.struct fs)∧fs[j]? =ik f∧P.info? f.type=ik fi∧fi.size≠0∧off=f.offset
theorem zX6{S:TypeId}{j off r:Nat}{q:List Nat}{xs:List T}{u:T}(ht:sO P S j off)(hx:tP E x=ik (r,q,.ptr (.agg xs)))(hu:xs[j]? =ik u)(gG:T.sizes (xs.take j)=off)(sd:J6 d Γ.N=io):
  Ok P Γ ⟨ik d,.fieldAddr S x j,ty,ps,af,gd⟩ E (E.app [(d,ik (.addr r (j::0::q)))] [(d,0)]):=by
 obtain⟨fs,f,fi,h1,h2,h3,h4,h5⟩:=ht.h;exact fun _=>zYY x S fs f fi j r q xs u rfl rfl (yK sd) h1 h2 h3 h4 hx hu (by omega)
theorem zCl{S:TypeId}{j off r:Nat}{q:List Nat}{t:T}{xs:List T}{u:T}(ht:sO P S j off)(hx:opT E x=ik (.addr r q))(hr:E r=ik t)(hg:t.get q.reverse=ik (.agg xs))(hu:xs[j]? =ik u)(gG:T.sizes (xs.take j)=off)(sd:(J6 d Γ.N&&t.locd q.reverse)=io):
  Ok P Γ ⟨ik d,.fieldAddr S x j,ty,ps,af,gd⟩ E (E.app [(d,ik (.addr r (j::q)))] [(d,0)]):=by
 obtain⟨fs,f,fi,h1,h2,h3,h4,h5⟩:=ht.h;simp only[J3]at sd;exact fun _=>zNd x S fs f fi j r q t xs u rfl rfl (yK sd.1) h1 h2 h3 h4 hx hr hg sd.2 hu (by omega)
theorem zOI{S:TypeId}{j off:Nat}{xs:List T}{u:T}(ht:sO P S j off)(hx:opT E x=ik (.ro (.ptr (.agg xs))))(hu:xs[j]? =ik u)(gG:T.sizes (xs.take j)=off)(sd:J6 d Γ.N=io):
  Ok P Γ ⟨ik d,.fieldAddr S x j,ty,ps,af,gd⟩ E (E.app [(d,ik (.ro (.ptr u)))] [(d,0)]):=by
 obtain⟨fs,f,fi,h1,h2,h3,h4,h5⟩:=ht.h;exact fun _=>zRz x S fs f fi j xs u rfl rfl (yK sd) h1 h2 h3 h4 hx hu (by omega)
def yB{α:Type}(xs:List α)(l h:Int):Option (List α):=if 0≤l∧l≤h∧h≤(xs.length:Int)then ik ((xs.drop l.toNat).take (h.toNat-l.toNat))else im
theorem zC6{α:Type}{t e:TypeId}{ti:TypeInfo}{r k:Nat}{q:List Nat}{f:α→T}{xs ys:List α}{lo hi:Option Operand}{l h:Int}(ht:zBJ P t e ti k)(hv:yB xs l h=ik ys)(hx:tP E x=ik (r,q,.ro (L k f xs)))(eA:zBG E lo 0 l.toNat)(fF:zBG E hi xs.length h.toNat)(sd:J6 d Γ.N=io):
  Ok P Γ ⟨ik d,.slice t x lo hi im,ty,ps,af,gd⟩ E (E.app [(d,ik (.ro (L k f ys)))] [(d,0)]):=by
 unfold yB at hv;split at hv
 ·rename_i hc
  simp at hv;subst hv;intro S;have:=zKV (P:=P) (Γ:=Γ.at S) (E:=E) (o:=⟨ik d,.slice t x lo hi im,ty,ps,af,gd⟩) x lo hi t e ti r q k (xs.map f) l.toNat h.toNat rfl rfl (yK sd) ht.un ht.info ht.size hx eA (by grind) (by omega) (by simp;omega);simpa[L,Jcv,Jbe]using this
 ·cases hv
theorem zRW{α:Type}{t e:TypeId}{ti:TypeInfo}{r k:Nat}{q:List Nat}{f:α→T}{xs ys:List α}{lo hi:Option Operand}{l h:Int}(ht:zBJ P t e ti k)(hv:yB xs l h=ik ys)(hx:tP E x=ik (r,q,L k f xs))(eA:zBG E lo 0 l.toNat)(fF:zBG E hi xs.length h.toNat)(sd:(J6 d Γ.N&&(r != d))=io):
  Ok P Γ ⟨ik d,.slice t x lo hi im,ty,ps,af,gd⟩ E (E.app [(d,ik (.sub r q k l.toNat h.toNat))] [(d,0)]):=by
 unfold yB at hv;simp only[J3]at sd;split at hv
 ·rename_i hc
  intro S;exact zJG (P:=P) (Γ:=Γ.at S) (E:=E) (o:=⟨ik d,.slice t x lo hi im,ty,ps,af,gd⟩) x lo hi t e ti r q k (xs.map f) l.toNat h.toNat rfl rfl (yK sd.1) ht.un ht.info ht.size hx eA (by grind) (by omega) (by simp;omega) (by grind)
 ·cases hv
end
end Go.Ab

namespace Go.Ab
open Go
theorem zC{t:T}(h:yD t):yD t:=h
theorem zL{α:Type}{f:α→T}{k:Nat}{xs:List α}(hf:∀x,yD (f x)):yD (L k f xs):=zOE hf
theorem wH{t:T}(h:yD t):yD (.ptr t):=by simpa only[yD,xD]using h
theorem yM{xs:List T}(h:xU xs):yD (.agg xs):=by simpa only[yD,xD]using h
section
variable {P:Program}{Γ:Ctx}{pn:jZ}{E E':Env}{Q:Exit→Env→Prop}{c c1 c2:Code}{x:Operand}
theorem CW.condT(hx:opT E x=ik (B io))(h:CW P Γ pn c1 E Q):CW P Γ pn (.cond x c1 c2) E Q:=by grind[CW.cond]
theorem CW.condF(hx:opT E x=ik (B iq))(h:CW P Γ pn c2 E Q):CW P Γ pn (.cond x c1 c2) E Q:=by grind[CW.cond]
theorem CW.casesB(b:Bool)(ht:b=io→CW P Γ pn c E Q)(hf:b=iq→CW P Γ pn c E Q):CW P Γ pn c E Q:=by grind
theorem sU{wr:Wr}{chg:Chg}{s:Nat}{t:T}(h:E s=ik t)(hf:wr.find s=im:=by rfl)(hb:t.okB chg=io:=by rfl):E.app wr chg s=ik t:=by grind[Env.app]
theorem zW.gh{ops:Array Oper}{o:Oper}{E1:Env}(hg:zN Γ E E1)(h:zW P Γ ops o E1 E'):zW P Γ ops o E E':=fun a w K Q hs hK=>h a w K Q (hg a w hs) hK
theorem zEF{t:T}(h:opT E x=ik (.ro (.ptr t))):zGd E x=io:=by simp[zGd,h]
theorem zFA{r:Nat}{q:List Nat}{t:T}(h:tP E x=ik (r,q,.ptr t)):zGd E x=io:=by grind[zGd]
end
theorem zLu{E:Env}{n:Nat}:zBG E im n (n:Int).toNat:=by simp[zBG]
theorem zOJ{E:Env}:zBG E im 0 (0:Int).toNat:=by simp[zBG]
theorem zEG{E:Env}{x:Operand}{n:Int}{d:Nat}(h0:0≤n)(h:opT E x=ik (I n)):zBG E (ik x) d n.toNat:=⟨.i64,by grind⟩
theorem sV{α:Type}{xs ys:List α}{l h:Int}(hv:yB xs l h=ik ys):0≤l∧l≤h∧h≤xs.length∧ys=(xs.drop l.toNat).take (h.toNat-l.toNat):=by grind[yB]
theorem qC{α:Type}{xs ys:List α}{l h:Int}(hv:yB xs l h=ik ys):0≤l:=(sV hv).1
theorem zA0{α:Type}{xs ys:List α}{l h:Int}(hv:yB xs l h=ik ys):0≤h:=by have:=sV hv;omega
theorem zVo{E:Env}{r k:Nat}{q:List Nat}{α:Type}{l h:Int}{f g:α→T}{xs ys:List α}{tr:T}(hr:E r=ik tr)(hg:tr.get q.reverse=ik (L k f xs))(hs:uV f g)(hv:yB xs l h=ik ys):
  clo E (.sub r q k l.toNat h.toNat)=.ro (L k g ys):=by
 obtain⟨h1,h2,h3,rfl⟩:=sV hv
 grind[zX5]
section
variable {P:Program}{Γ:Ctx}{E E':Env}{d:Nat}{x y:Operand}{ty:TypeId}{ps:String}{af:Array Edge}{gd:Option (Nat×Bool)}
theorem jA{o:Oper}{e b:Bool}{d:Nat}{wr:Wr}{chg:Chg}(he:e=b)(h:Ok P Γ o E (E.app ((d,ik (B e))::wr) chg)):Ok P Γ o E (E.app ((d,ik (B b))::wr) chg):=he▸h
theorem zZg{t:TypeId}{u tr t0:T}{r:Nat}{q:List Nat}(ht:zVk P t u)(hx:tP E x=ik (r,q,.ptr t0))(hr:E r=ik tr)(hg:tr.get (0::q).reverse=ik u)(sd:(J6 d Γ.N&&tr.locd (0::q).reverse&&(r != d)&&T.okB [(d,0)] (cpT r u (0::q)))=io):
  Ok P Γ ⟨ik d,.load t x,ty,ps,af,gd⟩ E (E.app [(d,ik (cpT r u (0::q)))] [(d,0)]):=by
 obtain⟨ds,ti,h1,h2,h3,h4⟩:=ht.h;simp only[J3]at sd;exact fun S=>zKS x t ds ti r (0::q) tr u rfl rfl (yK sd.1.1.1) h1 h2 h3 h4 (zAN.ptr hx) hr hg sd.1.1.2 (by grind) sd.2
theorem zWF{t:TypeId}{ti:TypeInfo}{r s:Nat}{q:List Nat}{tr tr' u0 u:T}(hi:P.info? t=ik ti)(gy:(ti.size==u.size&&J6 0 ti.size)=io)(hx:∀S,zAN (Γ.at S) E x r q)(hr:E r=ik tr)(hg:tr.get q.reverse=ik u0)(gv:tr.set q.reverse u=tr')(hy:E s=ik u)(hu:yD u)
  (sd:(tr.single&&tr.locd q.reverse&&vJ u u0&&(r != s)&&u.okTup)=io):Ok P Γ ⟨im,.store t x (.tmp s),ty,ps,af,gd⟩ E (E.app ((r,ik tr')::sWr r q (.slot s u)) ((r,q.length)::sT [.slot s u])):=by
 simp only[J3]at sd gy;subst gv;intro S;refine zFz (P:=P) (Γ:=Γ.at S) (E:=E) (o:=⟨im,.store t x (.tmp s),ty,ps,af,gd⟩) t ti x (.tmp s) r q tr u0 (.slot s u) rfl rfl hi (by grind[yU.tree]) (yK gy.2) (hx S) hr sd.1.1.1.1 hg sd.1.1.1.2 sd.1.1.2 (.slot s _)
  ⟨by grind,by simp,?_⟩
 grind[xV]
theorem zFB{t:TypeId}{ti:TypeInfo}{r s:Nat}{q:List Nat}{tr tr' u0 u:T}(hi:P.info? t=ik ti)(gy:(ti.size==u.size&&J6 0 ti.size)=io)(hx:opT E x=ik (.addr r q))(hr:E r=ik tr)(hg:tr.get q.reverse=ik u0)(gv:tr.set q.reverse u=tr')(hy:E s=ik u)(hu:yD u)
  (sd:(tr.single&&tr.locd q.reverse&&vJ u u0&&(r != s)&&u.okTup)=io):Ok P Γ ⟨im,.store t x (.tmp s),ty,ps,af,gd⟩ E (E.app ((r,ik tr')::sWr r q (.slot s u)) ((r,q.length)::sT [.slot s u])):=
 zWF hi gy (fun _=>zAN.addr hx) hr hg gv hy hu sd
theorem uJ{t:TypeId}{ti:TypeInfo}{r s:Nat}{q:List Nat}{tr tr' u0 u t0:T}(hi:P.info? t=ik ti)(gy:(ti.size==u.size&&J6 0 ti.size)=io)(hx:tP E x=ik (r,q,.ptr t0))(hr:E r=ik tr)(hg:tr.get (0::q).reverse=ik u0)(gv:tr.set (0::q).reverse u=tr')(hy:E s=ik u)(hu:yD u)
  (sd:(tr.single&&tr.locd (0::q).reverse&&vJ u u0&&(r != s)&&u.okTup)=io):Ok P Γ ⟨im,.store t x (.tmp s),ty,ps,af,gd⟩ E (E.app ((r,ik tr')::sWr r (0::q) (.slot s u)) ((r,(0::q).length)::sT [.slot s u])):=
 zWF hi gy (fun _=>zAN.ptr hx) hr hg gv hy hu sd
theorem zX7{t:TypeId}{ti:TypeInfo}{r:Nat}{q:List Nat}{tr tr' u0 u:T}{v:Value}(hi:P.info? t=ik ti)(gy:(ti.size==u.size&&J6 0 ti.size)=io)(hx:∀S,zAN (Γ.at S) E x r q)(hr:E r=ik tr)(hg:tr.get q.reverse=ik u0)(gv:tr.set q.reverse u=tr')
  (sd:(tr.single&&tr.locd q.reverse&&vJ u u0&&u.zOk)=io)(hz:sA u=v.cells.toList):Ok P Γ ⟨im,.store t x (.const v),ty,ps,af,gd⟩ E (E.app [(r,ik tr')] [(r,q.length)]):=by
 simp only[J3]at sd gy;subst gv;intro S;have:=zFz (P:=P) (Γ:=Γ.at S) (E:=E) (o:=⟨im,.store t x (.const v),ty,ps,af,gd⟩) t ti x (.const v) r q tr u0 (.zero u) rfl rfl hi (by grind[yU.tree]) (yK gy.2) (hx S) hr sd.1.1.1 hg sd.1.1.2 sd.1.2 (.zero v _ hz)
  ⟨by simp,by grind,by simp[xV]⟩
 exact this
theorem zHt{t:TypeId}{ti:TypeInfo}{r:Nat}{q:List Nat}{tr tr' u0 u:T}{v:Value}(hi:P.info? t=ik ti)(gy:(ti.size==u.size&&J6 0 ti.size)=io)(hx:opT E x=ik (.addr r q))(hr:E r=ik tr)(hg:tr.get q.reverse=ik u0)(gv:tr.set q.reverse u=tr')
  (sd:(tr.single&&tr.locd q.reverse&&vJ u u0&&u.zOk)=io)(hz:sA u=v.cells.toList):Ok P Γ ⟨im,.store t x (.const v),ty,ps,af,gd⟩ E (E.app [(r,ik tr')] [(r,q.length)]):=
 by grind[zX7,zAN.addr]
theorem zHu{G:Gh}{s:Nat}:(xs:List T)→yT xs=io→ ∀(p:List Nat)(i j:Nat)(u:T),xs[j]? =ik u→ ∃l1 l2,yH G s xs p i=l1++vals G s u ((i+j)::p)++l2∧l1.length=T.sizes (xs.take j)
 | [],_,_,_,_,_,h=>by simp at h
 |x::xs,ht,p,i,j,u,h=>by
  simp only[yT,J3]at ht;cases j with
  |zero=>simp at h;subst h;exact⟨[],yH G s xs p (i+1),by rfl,by rfl⟩
  |succ j=>
   obtain⟨l1,l2,h1,h2⟩:=zHu xs ht.2 p (i+1) j u (by grind);refine⟨vals G s x (i::p)++l1,l2,by rw[yH,h1,show i+(j+1)=i+1+j from by omega];simp,?_⟩;rw[J5,vH x _ (by rintro ys rfl;grind[T.okTup]),h2,Lf,T.sizes]
theorem zRX{S:TypeId}{j off s:Nat}{xs:List T}{u:T}(ht:sO P S j off)(hv:∃ds ti fs f,P.underlying S=ik (.struct fs)∧fs[j]? =ik f∧P.underlying f.type=ik ds∧P.info? f.type=ik ti∧zFu ds= !u.single∧ti.size=u.size)(hx:E s=ik (.agg xs))(hu:xs[j]? =ik u)(gG:T.sizes (xs.take j)=off)
  (sd:(J6 d Γ.N&&yT xs&&u.okTup&&(s != d)&&T.okB [(d,0)] (cpT s u [j]))=io):
  Ok P Γ ⟨ik d,.field S (.tmp s) j,ty,ps,af,gd⟩ E (E.app [(d,ik (cpT s u [j]))] [(d,0)]):=by
 obtain⟨fs,f,fi,h1,h2,h3,h4,h5⟩:=ht.h;obtain⟨ds,ti,fs',f',g1,g2,g3,g4,g5,g6⟩:=hv;simp only[J3]at sd;rw[h1]at g1;simp at g1;subst g1;rw[h2]at g2;simp at g2;subst g2;rw[h3]at g4;simp at g4;subst g4;intro S';refine wN.value rfl fun a w G g9=>?_
 obtain⟨k1,k2,_⟩:=g9.ent s _ hx;simp only[R]at k2;have k3:=zAY xs [] 0 j u k2 hu;simp only[Jc]at k3;have gj:s≠d:=by grind
 have ef:∀ys,u≠.tup ys:=zBu sd.1.1.2;have hk:=G.put_keep (w:=w) (w':=w) rfl d (fun z=>G.hd s (z++[j]));have hz:∀z,(G.put d (fun z=>G.hd s (z++[j]))).hd d (z++[])=G.hd s (z++[j]):=by grind[Gh.put_self]
 refine⟨sQ G s u [j],w,?_,_,vN g9 rfl (yK sd.1.1.1.1) (fun z=>G.hd s (z++[j])) (fun z=>g9.mem.one _ _) _ _ (by grind[zA7])
  (zDR (fun p=>G.put_other _ p gj) u [j] [] hz ef (hk.keepR (by grind[zAo,qU])) k3) (qU s u [j])⟩
 obtain⟨l1,l2,e1,e2⟩:=zHu (G:=G) (s:=s) xs sd.1.1.1.2 [] 0 j u hu;simp only[Jc]at e1;have e3:l1.length=f.offset:=by omega
 have e4:=vH (G:=G) (s:=s) u [j] ef;have aj:(part f.type (yH G s xs [] 0).toArray f.offset).run P w=.ok (sQ G s u [j]) w:=by
  rw[e1];cases u with
  |agg ys=>
   simp[T.single]at g5;simp only[vals,T.size]at e4 g6 ⊢
   simp[part,jW g3,g5,sizeOf,typeInfo,h3,sQ]
   grind
  |tup ys=>grind
  |_=>
   simp[T.single]at g5;simp[part,jW g3,g5,sQ,vals,←e3]
 simp[execOp,wJ k1,mkV,Instr.field,run_underlying h1,h2,asAgg,aj]
theorem zEH{α:Type}{t e:TypeId}{ti:TypeInfo}{k:Nat}{u:T}{n:Nat}{a:Int}{f:α→T}{z:α}(ht:ElT P t e ti k u)(hz:f z=u)(hn:xF a=ik n)(hx:opT E x=ik (I a))(hy:opT E y=ik (I a))(sd:J6 d Γ.N=io):
  Ok P Γ ⟨ik d,.makeSlice t x y,ty,ps,af,gd⟩ E (E.app [(d,ik (L k f (J1 n z)))] [(d,0)]):=by
 have:=zX4 (P:=P) (Γ:=Γ) (E:=E) (d:=d) (ty:=ty) (ps:=ps) (af:=af) (gd:=gd) ht hn hx hn hy (Jg _) sd;rw[←hz]at this;simpa[L]using this
theorem zJb{t e:TypeId}{ti:TypeInfo}{k:Nat}{u:T}(ht:ElT P t e ti k u)(sd:J6 d Γ.N=io):Ok P Γ ⟨ik d,.buildSlice t 0 #[],ty,ps,af,gd⟩ E (E.app [(d,ik (.sl k []))] [(d,0)]):=
 fun _=>zGW t e ti k rfl rfl (yK sd) ht.un ht.info
theorem zLv(t:TypeId)(x y:Value):Op.equal t x y=Op.equalIn (9999+1) t x y:=rfl
theorem zG7{P:Program}{w:World}{t:TypeId}{k:IntKind}{a b:Int}(n:Nat)(h:P.underlying t=ik (.int k)):(Op.equalIn (n+1) t (.int k a) (.int k b)).run P w=.ok (a==b) w:=by simp only[Op.equalIn,Sem.run_bind,run_underlying h];simp
end
end Go.Ab

namespace Go.Ab
open Go
def zBL:List Nat→Bool
 | []=>io
 |x::xs=> !xs.contains x&&zBL xs
theorem zFC:{l:List Nat}→zBL l=io→l.Nodup
 | [],_=>by simp
 |x::xs,h=>by simp only[zBL,J3,U2,Hd,decide_eq_false_iff_not]at h;exact L9.2 ⟨h.1,zFC h.2⟩
def zBM(E:Env):List yU→Prop
 | []=>True
 |.slot s t::l=>(E s=ik t∧yD t∧t.okTup=io)∧zBM E l
 |.zero u::l=>u.zOk=io∧zBM E l
theorem zBM.get{E:Env}:(l:List yU)→zBM E l→(∀s t,yU.slot s t∈l→E s=ik t∧yD t∧t.okTup=io)∧ ∀u,yU.zero u∈l→u.zOk=io
 | [],_=>by simp
 |.slot s t::l,h=>by
  obtain⟨h1,h2⟩:=zBM.get l h.2;exact⟨fun s' t' hm=>by
   rcases J8.1 hm with e|hm
   ·cases e;exact h.1
   ·exact h1 s' t' hm,fun u hm=>by
   rcases J8.1 hm with e|hm
   ·cases e
   ·exact h2 u hm⟩
 |.zero u::l,h=>by
  obtain⟨h1,h2⟩:=zBM.get l h.2;exact⟨fun s' t' hm=>by
   rcases J8.1 hm with e|hm
   ·cases e
   ·exact h1 s' t' hm,fun u' hm=>by
   rcases J8.1 hm with e|hm
   ·cases e;exact h.1
   ·exact h2 u' hm⟩
section
variable {E:Env}
theorem pkN:zBM E []:=trivial
theorem pkS{s:Nat}{t:T}{l:List yU}(h:E s=ik t)(hc:yD t)(h3:t.okTup=io)(hl:zBM E l):zBM E (.slot s t::l):=⟨⟨h,hc,h3⟩,hl⟩
theorem pkZ{u:T}{l:List yU}(h:u.zOk=io)(hl:zBM E l):zBM E (.zero u::l):=⟨h,hl⟩
theorem zBM.parts{d:Nat}{l:List yU}(h:zBM E l)(hn:zBL (d::xV l)=io):tT E d l:=⟨(zBM.get l h).1,(zBM.get l h).2,zFC hn⟩
def zD0(E:Env)(zs:List T)(ps:List yU):List (Nat×Operand)→List (Nat×yU)→Prop
 | [],[]=>True
 |x::xs,q::qs=>(x.1=q.1∧zAa E x.2 q.2∧ps[q.1]? =ik q.2∧ ∃u,zs[q.1]? =ik u∧u.size=q.2.tree.size)∧zD0 E zs ps xs qs
 |_,_=>False
theorem bqN{zs:List T}{ps:List yU}:zD0 E zs ps [] []:=trivial
theorem bqC{zs:List T}{ps:List yU}{i:Nat}{x:Operand}{q:yU}{xs:List (Nat×Operand)}{qs:List (Nat×yU)}(h:zAa E x q)(hl:zD0 E zs ps xs qs)(h1:ps[i]? =ik q:=by rfl)(h2:∃u,zs[i]? =ik u∧u.size=q.tree.size:=by exact⟨_,rfl,rfl⟩):zD0 E zs ps ((i,x)::xs) ((i,q)::qs):=⟨⟨rfl,h,h1,h2⟩,hl⟩
theorem zD0.ix{zs:List T}{ps:List yU}:(pl:List (Nat×Operand))→(qs:List (Nat×yU))→zD0 E zs ps pl qs→pl.map (·.1)=qs.map (·.1)
 | [],[],_=>rfl
 |x::xs,q::qs,h=>by simp[h.1.1,zD0.ix xs qs h.2]
 | [],_::_,h=>by grind[zD0]
 |_::_,[],h=>by grind[zD0]
theorem zD0.get{zs:List T}{ps:List yU}:(pl:List (Nat×Operand))→(qs:List (Nat×yU))→zD0 E zs ps pl qs→ ∀(j:Nat)(x:Nat×Operand)(q:Nat×yU),pl[j]? =ik x→qs[j]? =ik q→zAa E x.2 q.2∧q.2∈ps∧ ∃u,zs[q.1]? =ik u∧u.size=q.2.tree.size
 | [],[],_,j,_,_,h,_=>by simp at h
 |x::xs,q::qs,h,j,x',q',h1,h2=>by
  cases j with
  |zero=>simp at h1 h2;subst h1;subst h2;exact⟨h.1.2.1,Lu h.1.2.2.1,h.1.2.2.2⟩
  |succ j=>exact zD0.get xs qs h.2 j x' q' (by grind) (by grind)
 | [],_::_,h,_,_,_,_,_=>by grind
 |_::_,[],h,_,_,_,_,_=>by grind
end
class zHv (P:Program) (t:TypeId) (zs:outParam (List T)):Prop where
 h:∃(place:Nat→Option (Nat×Nat))(z:Value),(∀parts,P.built t parts=Instr.fill place z.cells parts)∧qJ zs=z.cells.toList∧zAq zs=io∧ ∀i u,zs[i]? =ik u→place i=ik (T.sizes (zs.take i),u.size)
section
variable {P:Program}{Γ:Ctx}{E E':Env}{d:Nat}{x y:Operand}{ty:TypeId}{ps:String}{af:Array Edge}{gd:Option (Nat×Bool)}
theorem zAt{t:TypeId}{zs:List T}{pa:Array (Nat×Operand)}(hb:zHv P t zs)(pl:List (Nat×Operand))(qs:List (Nat×yU))(pp:List yU)(gC:zBM E pp)(hq:zD0 E zs pp pl qs)(sd:(J6 d Γ.N&&zBL (d::xV pp))=io)
  (fR:pa=pl.toArray:=by rfl)(gW:qs.foldl (fun ps q=>ps.set q.1 q.2) (zs.map yU.zero)=pp:=by rfl):Ok P Γ ⟨ik d,.build t pa,ty,ps,af,gd⟩ E (E.app ((d,ik (.agg (pp.map yU.tree)))::pWr d pp 0) ((d,0)::sT pp)):=by
 obtain⟨place,z,h1,h2,h3,h4⟩:=hb.h;simp only[J3]at sd;subst fR;exact fun S=>zR8 t place z zs pl qs pp rfl rfl (yK sd.1) h1 h2 h3 h4 gW (gC.parts sd.2) (zD0.ix _ _ hq) (zD0.get _ _ hq)
def zLw(k:Nat):List yU→Bool
 | []=>io
 |p::l=>(p.tree.size==k)&&zLw k l
theorem zLx{k:Nat}:(l:List yU)→zLw k l=io→ ∀p∈l,p.tree.size=k
 | [],_,_,h=>by simp at h
 |p::l,h,q,hm=>by
  simp only[zLw,J3,beq_iff_eq]at h;rcases J8.1 hm with rfl|hm
  ·exact h.1
  ·exact zLx l h.2 q hm
theorem zD1{α:Type}{t e:TypeId}{ti:TypeInfo}{k n:Nat}{u:T}{pa:Array (Nat×Operand)}(ht:ElT P t e ti k u)(xs:List Operand)(pp:List yU)(ys:List α)(f:α→T)(hx:uM E xs pp)(gC:zBM E pp)
  (sd:(J6 d Γ.N&&zBL (d::xV pp)&&zLw k pp&&J6 0 n&&Nat.ble (n*k) 65536)=io)(hn:xs.length=n)(fR:pa=((xs.zipIdx 0).map fun x=>(x.2,x.1)).toArray:=by rfl)(hy:pp.map yU.tree=ys.map f:=by rfl):
  Ok P Γ ⟨ik d,.buildSlice t n pa,ty,ps,af,gd⟩ E (E.app ((d,ik (L k f ys))::pWr d pp 0) ((d,0)::sT pp)):=by
 obtain⟨z,hz,_⟩:=ht.zero;simp only[J3]at sd;subst fR;intro S;have cV:n*k≤65536:=by grind[Nat.ble_eq]
 have:=zI1 (P:=P) (Γ:=Γ.at S) (E:=E) (o:=⟨ik d,.buildSlice t n ((xs.zipIdx 0).map fun x=>(x.2,x.1)).toArray,ty,ps,af,gd⟩) t e ti z k n xs pp rfl rfl (yK sd.1.1.1.1) ht.un ht.info hz ht.size ht.pos hn (yK sd.1.2) (by omega) hx (gC.parts sd.1.1.1.2) (zLx pp sd.1.1.2)
 grind
theorem zLy{α:Type}{f g:α→T}(h:∀y,roT (g y)=f y):(ys:List α)→roT.roTs (ys.map g)=ys.map f
 | []=>rfl
 |y::ys=>by simp only[Jo,roT.roTs,h y,zLy h ys]
theorem zEd{α:Type}{t e:TypeId}{ti:TypeInfo}{k r:Nat}{q:List Nat}{u:T}{f g:α→T}{xs ys zs:List α}{s0:Nat}(ht:ElT P t e ti k u)(aI:∀y,roT (g y)=f y)(gy:∀y,(g y).size=k)(hg:Enc g)(hv:xW xs ys=ik zs)(h0:E s0=ik (L k f xs))(h1:tP E y=ik (r,q,.ro (L k g ys)))(sd:(J6 d Γ.N&&(s0 != d))=io):
  Ok P Γ ⟨ik d,.call { callee:=.builtin .append,args:=#[.tmp s0,y],argTypes:=#[t,t] },ty,ps,af,gd⟩ E (E.app [(d,ik (L k f zs)),(s0,ik .any)] [(d,0),(s0,1)]):=by
 obtain⟨rfl,hl⟩:=zF8 hv;obtain⟨z,hz,fg⟩:=ht.zsize;simp only[J3]at sd;intro S;have:=zJQ (P:=P) (Γ:=Γ.at S) (E:=E) (o:=⟨ik d,.call { callee:=.builtin .append,args:=#[.tmp s0,y],argTypes:=#[t,t] },ty,ps,af,gd⟩) t e ti z k s0 y r q (xs.map f) (ys.map g) rfl rfl (yK sd.1) ht.un ht.info hz ht.size ht.pos fg ht.bytes h0 h1 (zHr hg.rook ys)
  (by simp_all) (by grind) (by grind)
 rw[zLy aI,←L8]at this;exact this
def uP{α:Type}(xs:List α)(m:Int)(z:α):Option (List α):=if 0≤m∧xs.length+m.toNat≤68719476736 then ik (xs++J1 m.toNat z)else im
theorem zX8{α:Type}{t t2 e:TypeId}{k2:IntKind}{ti:TypeInfo}{k:Nat}{u:T}{f:α→T}{z:α}{xs zs:List α}{s0:Nat}{m:Int}(ht:ElT P t e ti k u)(tz:P.underlying t2=ik (.int k2))(hz:f z=u)(hv:uP xs m z=ik zs)(h0:E s0=ik (L k f xs))(h1:opT E y=ik (I m))(sd:(J6 d Γ.N&&(s0 != d))=io):
  Ok P Γ ⟨ik d,.call { callee:=.builtin .append,args:=#[.tmp s0,y],argTypes:=#[t,t2] },ty,ps,af,gd⟩ E (E.app [(d,ik (L k f zs)),(s0,ik .any)] [(d,0),(s0,1)]):=by
 unfold uP at hv;split at hv
 ·rename_i hc
  simp at hv;subst hv;obtain⟨zv,my,eM⟩:=ht.zero;simp only[J3]at sd;obtain⟨n,rfl⟩:∃n:Nat,m=n:=⟨m.toNat,by omega⟩;intro S;have:=zHe (P:=P) (Γ:=Γ.at S) (E:=E) (o:=⟨ik d,.call { callee:=.builtin .append,args:=#[.tmp s0,y],argTypes:=#[t,t2] },ty,ps,af,gd⟩) t t2 e k2 ti zv u k s0 y .i64 n (xs.map f) rfl rfl (yK sd.1) ht.un tz ht.info my ht.size ht.pos ht.bytes ht.zok eM ht.us h0 h1
   (by grind) (by grind)
  have e:xs.map f++J1 n u=(xs++J1 n z).map f:=by simp[hz]
  rw[e]at this;have h2:((n:Int)).toNat=n:=by simp
  rw[h2];exact this
 ·cases hv
end
section
variable {Γ:Ctx}{E:Env}
theorem zN.trq(d r:Nat)(q:List Nat){tr u tr':T}(hd:E d=ik (.same r q))(hr:E r=ik tr)(hg:tr.get q.reverse=ik u)(eD:yD u)(sd:(u.single&&xM tr&&tr.okB [(d,1),(r,q.length+1)]&&(d != r))=io)(gv:(if q=[]then .same d []else tr.set q.reverse .any)=tr':=by rfl):
  zN Γ E (E.app [(d,ik u),(r,ik tr')] [(d,1),(r,q.length+1)]):=by
 simp only[J3]at sd
 rintro a w ⟨S,hS,hs⟩
 have gj:d≠r:=by grind
 have:=zNj hs d [] r q (.same r q) tr u hd rfl hr hg sd.1.1.1 eD gj (by grind[T.okB,zAj]) sd.1.2 rfl sd.1.1.2;subst gv;exact⟨S,hS,this⟩
theorem zN.trf(d:Nat)(g:List Nat)(r:Nat)(q:List Nat)(td tr:T){u td' tr':T}(hd:E d=ik td)(pZ:td.get g.reverse=ik (.same r q))(hr:E r=ik tr)(hg:tr.get q.reverse=ik u)(gv:td.set g.reverse u=td')(eD:yD u)
  (sd:(u.single&&xM td&&xM tr&&td.okB [(d,g.length+1),(r,q.length+1)]&&tr.okB [(d,g.length+1),(r,q.length+1)]&&(d != r))=io)(eP:(if q=[]then .same d g else tr.set q.reverse .any)=tr':=by rfl):
  zN Γ E (E.app [(d,ik td'),(r,ik tr')] [(d,g.length+1),(r,q.length+1)]):=by
 simp only[J3]at sd
 rintro a w ⟨S,hS,hs⟩
 have gj:d≠r:=by grind
 have:=zNj hs d g r q td tr u hd pZ hr hg sd.1.1.1.1.1 eD gj sd.1.1.2 sd.1.2 sd.1.1.1.1.2 sd.1.1.1.2;subst gv eP;exact⟨S,hS,this⟩
theorem zN.frz{α:Type}(s:Nat){k:Nat}{f g:α→T}(xs:List α)(hs:E s=ik (L k f xs))(h:uV f g):zN Γ E (E.app [(s,ik (.ro (L k g xs)))] [(s,1)]):=by have:=zN.freeze (Γ:=Γ) s _ hs;simp only[uD,strip,qA h.h xs]at this;exact this
theorem zN.res(d r:Nat)(q:List Nat)(tr:T){u:T}(hd:E d=ik (.same r q))(hr:E r=ik tr)(hg:tr.get q.reverse=ik (.ro u)):zN Γ E (E.app [(d,ik (.ro u))] []):=by
 rintro a w ⟨S,hS,gN,G,g9⟩
 refine⟨S,hS,gN,G,?_⟩;have hk:qY [] G w G w:=⟨fun _ _ _=>rfl,fun _ _ _=>rfl,by simp,fun _ _ _ h _=>h,fun b cs e h=>⟨cs,h,rfl⟩⟩;refine vL g9 rfl hk g9.mem (by simp) fun s t hs=>?_
 simp only[Wr.find]at hs;split at hs
 ·rename_i e;subst e
  simp at hs;subst hs;obtain⟨h1,h2,_⟩:=g9.ent d _ hd;obtain⟨_,h4,_⟩:=g9.ent r _ hr;simp only[R]at h2;have h5:=(zA6 q.reverse tr _ [] h4 hg).1;simp only[rp,Kj,Jd,R]at h5;exact⟨by rw[h1];rfl,by grind[R],by simp[Top]⟩
 ·cases hs
end
theorem zJY:(p:List Nat)→ ∀(t u0 a:T),t.get p=ik u0→(t.set p a).get p=ik a
 | [],t,_,a,_=>by rfl
 |i::p,t,u0,a,h=>by
  cases t with
  |sl k xs|agg xs|tup xs=>
   simp only[T.get,T.set]at h ⊢
   cases hx:xs[i]? with
   |none=>grind
   |some x=>
    rw[hx]at h;have hi:=(Jn.1 hx).1;simp only[];simp only[T.get,Qy hi];exact zJY p x u0 a h
  |ptr t=>
   simp only[T.get,T.set]at h ⊢
   split at h
   ·rename_i e;subst e;simp only[if_true,T.get];exact zJY p t u0 a h
   ·cases h
  |_=>grind[T.get]
theorem set_set:(p:List Nat)→ ∀(t u0 a b:T),t.get p=ik u0→(t.set p a).set p b=t.set p b
 | [],t,_,a,_,_=>by rfl
 |i::p,t,u0,a,b,h=>by
  cases t with
  |sl k xs|agg xs|tup xs=>
   simp only[T.get,T.set]at h ⊢
   cases hx:xs[i]? with
   |none=>grind
   |some x=>
    rw[hx]at h;have hi:=(Jn.1 hx).1;simp only[];simp only[T.set,Qy hi,List.set_set,set_set p x u0 a b h]
  |ptr t=>
   simp only[T.get,T.set]at h ⊢
   split at h
   ·rename_i e;subst e;simp only[if_true,T.set,set_set p t u0 a b h]
   ·cases h
  |_=>rfl
def zAu:T→Bool
 |.sl _ _|.ptr _=>io
 |_=>iq
theorem zRY{t:T}(h:zAu t=io)(p:List Nat){u:T}(hp:p≠[]):zAu (t.set p u)=io:=by
 cases p with
 |nil=>simp_all
 |cons i p=>cases t<;>simp[zAu]at h<;>simp only[T.set]<;>split<;>rfl
theorem tF{t:T}(h:zAu t=io)(chg:Chg):t.okB chg=io∧xM t=io∧t.single=io:=by cases t<;>simp[zAu]at h<;>simp[T.okB,xM,T.single]
section
variable {P:Program}{Γ:Ctx}{E E':Env}{d:Nat}{ty:TypeId}{ps:String}{af:Array Edge}{gd:Option (Nat×Bool)}
theorem agM{E:Env}{rw:Rw}{i:Nat}{x:Operand}{u:T}(t:T)(h:opT E x=ik t)(h1:clo E t=u)(h2:zIQ E (rw.map (·.2.1)) x t=io):zCk E rw i x u:=.inr ⟨t,h,h1,h2⟩
theorem zBx{E:Env}{rw:Rw}{i s:Nat}{u u':T}(h:E s=ik u)(hc:yD u)(hr:wZ u=io)(hs:u.okTup=io:=by rfl)(hm:(i,s,u')∈rw:=by exact List.mem_singleton.2 rfl):zCk E rw i (.tmp s) u:=.inl ⟨s,u',rfl,hm,h,hc,hs,hr⟩
abbrev vV(E:Env)(ds r:Nat)(q:List Nat)(tr u:T):Env:=E.app [(ds,ik u),(r,ik (if q=[]then .same ds []else tr.set q.reverse .any))] [(ds,1),(r,q.length+1)]
theorem zAQ{f:FuncId}{xs:List Operand}{ats:Array TypeId}{us res:List T}{tr u u' tr':T}(i ds r:Nat)(q:List Nat)(gu:zAc P f)(hc:FnC P f us res [(i,u')])(hs:E ds=ik (.same r q))(hr:E r=ik tr)(hq:tr.get q.reverse=ik u)
  (eD:yD u)(ep:yD u')(_:wZ u=io)(cP:wZ u'=io)(gc:xX (vV E ds r q tr u) [(i,ds,u')] 0 xs us)(gm:jJ res)(gv:tr.set q.reverse u'=tr')
  (sd:(J6 d Γ.N&&(d != ds)&&(d != r)&&(ds != r)&&zAu u&&zAu u'&&zAu tr)=io)(hx:xs[i]? =ik (.tmp ds))(hu:us[i]? =ik u):
  Ok P Γ ⟨ik d,.call { callee:=.value (.func f),args:=xs.toArray,argTypes:=ats },ty,ps,af,gd⟩ E ((((vV E ds r q tr u).app (cWr d res [(i,ds,u')]) (uC d [(i,ds,u')]))).app [(r,ik tr'),(ds,ik (.same r q))] [(r,q.length+1),(ds,1)]):=by
 simp only[J3]at sd;obtain⟨⟨⟨⟨⟨⟨s1,s2⟩,s3⟩,s4⟩,s5⟩,s6⟩,s7⟩:=sd;have d1:d≠ds:=by grind
 have d2:d≠r:=by grind
 have d3:ds≠r:=by grind
 obtain⟨u1,u2,u3⟩:=tF s5 [];obtain⟨v1,v2,v3⟩:=tF s6 [];have bP:cLv u'=1:=by simp[cLv,v3]
 subst gv;intro S
 by_cases ag:q=[]
 ·subst ag
  have htu:tr=u:=by
   have:tr.get []=ik tr:=by rfl
   grind
  subst htu;have a8:∀a b:T,a.set [] b=b:=fun a b=>by rfl
  have bC:(vV E ds r [] tr tr) ds=ik tr:=by simp[vV,Env.app,Wr.find]
  have pI:((vV E ds r [] tr tr).app (cWr d res [(i,ds,u')]) (uC d [(i,ds,u')])) r=ik (.same ds []):=by
   have h1:(vV E ds r [] tr tr) r=ik (.same ds []):=by simp[vV,Env.app,Wr.find,d3]
   have h2:(cWr d res [(i,ds,u')]).find r=im:=by grind[cWr,Wr.find]
   have h3:(T.same ds []).okB (uC d [(i,ds,u')])=io:=by grind[T.okB,zAj,uC]
   simp only[Env.app,h2,h1,h3,if_true]
  have pJ:((vV E ds r [] tr tr).app (cWr d res [(i,ds,u')]) (uC d [(i,ds,u')])) ds=ik u':=by grind[Env.app,Wr.find,cWr]
  have:=zLn (P:=P) (Γ:=Γ.at S) (E:=E) (o:=⟨ik d,.call { callee:=.value (.func f),args:=xs.toArray,argTypes:=ats },ty,ps,af,gd⟩) f (.func f) xs ats us res i ds r [] tr tr u' rfl rfl (yK s1) gu rfl hs hr hq u3 eD d3 d2 (tF s7 _).1 (tF s7 []).2.1
   (vV E ds r [] tr tr) _ rfl rfl hc gc (.one d1 hx ep v3 cP bC u3 hu) gm (.same ds []) (.same ds []) pI rfl rfl pJ ep v3 (by simp[T.okB,zAj]) rfl (tF s6 _).1 v2
  grind
 ·have dW:q.reverse≠[]:=by simp_all
  have bC:(vV E ds r q tr u) ds=ik u:=by simp[vV,Env.app,Wr.find]
  have hSP:=zRY s7 q.reverse (u:=.any) dW;have pI:((vV E ds r q tr u).app (cWr d res [(i,ds,u')]) (uC d [(i,ds,u')])) r=ik (tr.set q.reverse .any):=by
   have h1:(vV E ds r q tr u) r=ik (tr.set q.reverse .any):=by simp[vV,Env.app,Wr.find,d3,ag]
   grind[cWr,Wr.find,Env.app,tF]
  have pJ:((vV E ds r q tr u).app (cWr d res [(i,ds,u')]) (uC d [(i,ds,u')])) ds=ik u':=by grind[Env.app,Wr.find,cWr]
  have:=zLn (P:=P) (Γ:=Γ.at S) (E:=E) (o:=⟨ik d,.call { callee:=.value (.func f),args:=xs.toArray,argTypes:=ats },ty,ps,af,gd⟩) f (.func f) xs ats us res i ds r q tr u u' rfl rfl (yK s1) gu rfl hs hr hq u3 eD d3 d2 (tF s7 _).1 (tF s7 []).2.1
   (vV E ds r q tr u) _ rfl rfl hc gc (.one d1 hx ep v3 cP bC u3 hu) gm (tr.set q.reverse .any) .any pI (zJY _ _ _ _ hq) rfl pJ ep v3 (tF hSP _).1 (tF hSP []).2.1 (tF s6 _).1 v2
  grind[set_set]
theorem zG8{f:FuncId}{xs:List Operand}{ats:Array TypeId}{us res:List T}{xf:Operand}(hf:opT E xf=ik (.lit (.func (.func f) #[] #[])))(gu:zAc P f)(hc:FnC P f us res [])(gc:xX E [] 0 xs us)(gm:jJ res)(sd:J6 d Γ.N=io):
  Ok P Γ ⟨ik d,.call { callee:=.value xf,args:=xs.toArray,argTypes:=ats },ty,ps,af,gd⟩ E (E.app (cWr d res []) (uC d [])):=
 fun _=>zJT f xf xs ats us res [] rfl rfl (yK sd) gu hf hc gc .nil gm
def zD2(E:Env):List Operand→List T→Prop
 | [],[]=>True
 |x::xs,u::us=>(opT E x=ik u∧u.flat=io)∧zD2 E xs us
 |_,_=>False
theorem afN:zD2 E [] []:=trivial
theorem afC{x:Operand}{xs:List Operand}{u:T}{us:List T}(h:opT E x=ik u)(h1:u.flat=io)(h2:zD2 E xs us):zD2 E (x::xs) (u::us):=⟨⟨h,h1⟩,h2⟩
theorem zD2.get:(xs:List Operand)→(us:List T)→zD2 E xs us→ ∀(i:Nat) u,us[i]? =ik u→ ∃x,xs[i]? =ik x∧opT E x=ik u∧u.flat=io
 | [],[],_,i,u,h=>by simp at h
 |x::xs,v::us,h,i,u,hi=>by
  cases i with
  |zero=>simp at hi;subst hi;exact⟨x,by simp,h.1⟩
  |succ i=>obtain⟨y,h1,h2⟩:=zD2.get xs us h.2 i u (by grind);grind
 | [],_::_,h,_,_,_=>by grind[zD2]
 |_::_,[],h,_,_,_=>by grind
theorem jK{f:FuncId}{xs:List Operand}{ats:Array TypeId}{us res:List T}(gu:zAc P f)(hc:FnC P f us res [])(ha:zD2 E xs us)(gf:xs.length=us.length)(gm:xU res)(eu:yT res=io)(sd:J6 d Γ.N=io):
  Ok P Γ ⟨ik d,.call { callee:=.value (.func f),args:=xs.toArray,argTypes:=ats },ty,ps,af,gd⟩ E (E.app (cWr d res []) (uC d [])):=
 by grind[zVn,zD2.get]
end
noncomputable def zDG {α:Type} (g:Nat→Option α):Option α:=
 open Classical in if h:∃r,∃n,∀m,n≤m→g m=ik r then ik h.choose else im
theorem kB{α:Type}{g:Nat→Option α}{r:α}(h:zDG g=ik r):∃n,g n=ik r:=by
 unfold zDG at h;split at h
 ·rename_i he
  simp at h;obtain⟨n,hn⟩:=he.choose_spec;exact⟨n,by simp_all⟩
 ·cases h
theorem zBy{α:Type}{g:Nat→Option α}{r:α}(n:Nat)(h:∀m,n≤m→g m=ik r):zDG g=ik r:=by
 have he:∃r,∃n,∀m,n≤m→g m=ik r:=⟨r,n,h⟩;unfold zDG;rw[dif_pos he];obtain⟨n',hn'⟩:=he.choose_spec;have h1:=h (max n n') (by omega)
 grind
end Go.Ab

namespace Go.Ab
open Go
section
variable {P:Program}{Γ:Ctx}{ops:Array Oper}{o:Oper}{E:Env}
theorem zW.skipW{d:Nat}(hd:o.dst=ik d)(sd:J6 d Γ.N=io)(hw:∀(a:Act)(w:World),jG Γ E a w→Region.wanted o (yielded ops a.tmps)=iq):zW P Γ ops o E (E.app [(d,ik (.tup []))] [(d,0)]):=by
 intro a w K Q hs hK;rw[if_neg (by simp[hw a w hs])];obtain⟨S,hS,gN,G,g9⟩:=hs;refine hK _ _ ⟨S,hS,by rw[hd];exact gN,G.put d (fun _=>.bool iq),?_⟩ ?_
 ·rw[hd]
  have hu:(Value.bool iq).oneCell'=io:=rfl;refine vL g9 (by simp[Act.put]) (G.put_keep rfl d _) (g9.mem.put rfl d _ fun _=>hu) ?_ ?_
  ·intro s hs
   rw[tZ]at hs;split at hs
   ·cases hs
   ·rename_i gj
    refine⟨fun n hn=>gj (by simp at hn;exact hn.1.symm),?_⟩;simp[Act.put,Hp gj]
  ·intro s t' hs
   rw[tZ]at hs;split at hs
   ·rename_i e;subst e
    simp at hs;subst hs;have gy:=g9.size;have gF:=yK sd;refine⟨?_,by simp[R,RF],by simp[Top,vP]⟩;have:d<a.tmps.size:=by rw[gy];exact gF
    simp[Act.put,mkV,jP,undef,this]
   ·cases hs
 ·intro s hs
  rw[hd]at hs ⊢
  have:d≠s:=fun e=>hs (by rw[e])
  simp[Act.put,Hp this]
theorem zW.skip2{d:Nat}(g:Nat)(b b':Bool)(s:Nat)(hd:o.dst=ik d)(sd:J6 d Γ.N=io)(pd:(b==b')=iq)(hg:o.guard=ik (g,b))(gp:(ops[g]?).bind (·.dst)=ik s)(hb:E s=ik (.lit (.bool b'))):
  zW P Γ ops o E (E.app [(d,ik (.tup []))] [(d,0)]):=.skipW hd sd fun a w hs=>by
 simp only[Region.wanted,hg,zHk hs gp hb];cases b<;>cases b'<;>simp_all
theorem zW.skip3{d:Nat}(g:Nat)(b:Bool)(s:Nat)(hd:o.dst=ik d)(sd:J6 d Γ.N=io)(hg:o.guard=ik (g,b))(gp:(ops[g]?).bind (·.dst)=ik s)(hb:E s=ik (.tup [])):
  zW P Γ ops o E (E.app [(d,ik (.tup []))] [(d,0)]):=.skipW hd sd fun a w hs=>by
 obtain⟨_,_,_,G,hr⟩:=hs;obtain⟨h1,_,_⟩:=hr.ent s _ hb;simp only[Region.wanted,hg,yielded,gp,Option.bind_some,h1,mkV,jP];rfl
theorem zW.opE{E1 E':Env}(h:Ok P Γ o E E1)(e:E1=E')(hg:o.guard=im:=by rfl):zW P Γ ops o E E':=e▸zW.op h hg
theorem zW.guardE{E1 E':Env}(g:Nat)(b:Bool)(s:Nat)(h:Ok P Γ o E E1)(hg:o.guard=ik (g,b))(gp:(ops[g]?).bind (·.dst)=ik s)(hb:E s=ik (.lit (.bool b)))(e:E1=E'):zW P Γ ops o E E':=e▸zW.guard g b s h hg gp hb
end
def uW(Γ:Ctx)(P:Program)(rs:Array ResultVar)(us res:List T)(rws:List (Nat×T)):Exit→Env→Prop:=fun e E=> ∃E',zN Γ E E'∧zZb P rs us res rws e E'
theorem FnC.of_bodyG{P:Program}{f:FuncId}{fn:Func}{c:Code}{us res:List T}{rws:List (Nat×T)}(hf:P.funcs[f]? =ik fn)(hb:fn.body=ik c)(hn:us.length≤fn.ntmps)(ht:vP us)(hr:rws.all (fun x=>decide (x.1<us.length))=io)
  (h:∀(Γ:Ctx)(v:Nat→Value),Γ.N=fn.ntmps→CW P Γ (zC2 v (rws.map (·.1))) c (yW (zI3 0 us)) (uW Γ P fn.results us res rws)):FnC P f us res rws:=by
 refine FnC.of_body hf hb hn ht hr fun Γ v hN=>?_
 intro a w Q' hs hp hQ;refine h Γ v hN a w Q' hs hp ?_
 rintro e E a' w' ⟨E',hg,hq⟩ gJ cR
 exact hQ e E' a' w' hq (hg a' w' gJ) cR
def zVp(t:T):Prop:=yD t∧wZ t=io∧strip t=t∧t.okTup=io∧zF0 t=io
def zRZ:List T→Prop
 | []=>True
 |x::xs=>zVp x∧zRZ xs
theorem Enc.t{α:Type}{f:α→T}(h:Enc f)(x:α):zVp (f x):=⟨h.clean x,h.rofree x,h.strip x,h.okTup x,h.rook x⟩
theorem Enc.of{α:Type}{f:α→T}(h:∀x,zVp (f x)):Enc f:=⟨fun x=>(h x).1,fun x=>(h x).2.1,fun x=>(h x).2.2.1,fun x=>(h x).2.2.2.1,fun x=>(h x).2.2.2.2⟩
theorem zNq{xs:List T}(h:zRZ xs):zVp (.agg xs):=by
 have key:∀xs:List T,zRZ xs→xU xs∧uN xs=io∧vA xs=xs∧yT xs=io∧zBq xs=io:=by
  intro xs
  induction xs with
  |nil=>intro _;exact⟨trivial,rfl,rfl,rfl,rfl⟩
  |cons x xs ih=>
   rintro⟨⟨h1,h2,h3,h4,h5⟩,h⟩
   obtain⟨g1,g2,g3,g4,g5⟩:=ih h;exact⟨⟨h1,g1⟩,by simp only[uN,h2,g2,Ks],by simp only[vA,h3,g3],by simp only[yT,h4,g4,Ks],by simp only[zBq,h5,g5,Ks]⟩
 obtain⟨g1,g2,g3,g4,g5⟩:=key xs h;exact⟨yM g1,by simp only[wZ,g2],by simp only[strip,g3],by simp only[T.okTup,g4],by simp only[zF0,g5]⟩
end Go.Ab

namespace Go.Ab
open Go
section
variable {Γ:Ctx}{E:Env}{d:Nat}
def Gh.cut(G:Gh)(d s0 b lo hi:Nat)(v:Value):Gh where
 hd s z:=if s=d then(if z=[]then v else G.hd s0 z)else G.hd s z
 ad s z:=if s=d then G.ad s0 z else G.ad s z
 lb b' o:=if b'=b∧lo≤o∧o<hi then ik (io,d,[])else match G.lb b' o with
  |some (f,s,z)=>if s=s0 then ik (f,d,z)else ik (f,s,z)
  |none=>im
 ow b':=match G.ow b' with
  |some (s,z)=>if s=s0 then ik (d,z)else ik (s,z)
  |none=>im
theorem zOK{G:Gh}{tmps:Array Value}{w:World}(g9:Rep Γ E G tmps w)(hd:d<Γ.N){s0 k h cap':Nat}{xs:List T}(ez:E s0=ik (.sl k xs))(gj:s0≠d)(hk:0<k)
  {b cap:Nat}{cs:Array Value}{e:TypeId}(h1:G.hd s0 []=.slice (ik ⟨b,0,im⟩) xs.length cap)(h2:w.heap[b]? =ik (.cells cs e (0,0)))(_h3:xs.length≤cap)(h4:cap≤maxLen)(h5:cap*k≤cs.size)(h6:G.ow b=ik (s0,[]))
  (h7:∀o,xs.length*k≤o→o<cap*k→G.lb b o=ik (io,s0,[]))(h8:RL Γ.St G w s0 xs [] 0 b 0 k)(hh:h≤xs.length)(hc:h≤cap')(fc:cap'≤cap):
  ∃G',Rep Γ (E.app [(d,ik (.sl k (xs.take h))),(s0,ik .any)] [(d,0),(s0,1)]) G' (tmps.setIfInBounds d (.slice (ik ⟨b,0,im⟩) h cap')) w:=by
 have hm:=g9.mem;obtain⟨e1,_,e3⟩:=g9.ent s0 _ ez
 let v:Value:=.slice (ik ⟨b,0,im⟩) h cap'
 let G':=G.cut d s0 b (h*k) (cap'*k) v
 have gK:=hm.ow b _ h6;have hgone:∀o f z i,h*k≤o→o<cap'*k→G.lb b o=ik (f,s0,z++[i])→h≤i:=by
  intro o f z i ho1 ho2 hl
  by_cases ho:o<xs.length*k
  ·have hj:o/k<xs.length:=(Ha hk).2 ho
   obtain⟨g1,g2,_⟩:=jU xs [] 0 b 0 k (o/k) xs[o/k] h8 (by simp[hj]);obtain⟨y,hy⟩:=zJJ xs[o/k] _ b _ (o%k) g1 (by rw[g2];exact G4 _ hk);rw[Jc,Jc,Hy,Ly,hl]at hy;simp only[Ln.injEq,Jao.injEq]at hy;have:=hy.2.2;have hi:i=o/k:=by simp_all
   rw[hi];exact(Nat.le_div_iff_mul_le hk).2 ho1
  ·have:=h7 o (by omega) (by have:=K9 k fc;omega)
   simp_all
 have glb:∀b' o f z,G.lb b' o=ik (f,s0,z)→ ¬(b'=b∧h*k≤o∧o<cap'*k)→G'.lb b' o=ik (f,d,z):=fun b' o f z hl hn=>by
  show(if _ then _ else _)=_
  grind
 have gow:∀b' z,G.ow b'=ik (s0,z)→G'.ow b'=ik (d,z):=by grind[Gh.cut]
 have mv:∀i,i<h→zII G w G' w s0 [i] d [i]:=fun i hi=>by
  have hn:∀b' o f z,G.lb b' o=ik (f,s0,z++[i])→ ¬(b'=b∧h*k≤o∧o<cap'*k):=by grind
  refine⟨⟨fun z=>by simp[G',Gh.cut],by grind[Gh.cut],by grind,by grind,fun b' cs' e' hb=>⟨cs',hb,rfl⟩⟩,fun b' o _ hl=>⟨glb _ _ _ _ hl (hn b' o io [] (by grind)),rfl⟩,by grind⟩
 have gx:qY [(d,0),(s0,1)] G w G' w:=by
  refine⟨fun s p ho=>?_,fun s p ho=>?_,fun b' o f s p e6 hl hs=>?_,fun b' s p hl hs=>?_,fun b' cs' e' hb=>⟨cs',hb,rfl⟩⟩
  ·have:s≠d:=fun e=>absurd (ho 0 (by simp[e])) (by simp)
   grind[Gh.cut]
  ·have:s≠d:=fun e=>absurd (ho 0 (by simp[e])) (by simp)
   grind[Gh.cut]
  ·have cL:s≠s0:=by grind
   obtain⟨y,hy⟩:=e6;have pd:b'≠b:=by grind
   refine⟨?_,rfl⟩;show(if _ then _ else _)=_
   grind
  grind[Gh.cut]
 have gr:Mem Γ G' w:=by
  refine⟨fun s z=>?_,fun b' o l hl=>?_,fun b' l hl=>?_,hm.st,hm.fr,hm.sz,hm.bk⟩
  ·show(if _ then _ else _:Value).oneCell'=io
   split
   ·split
    ·rfl
    ·exact hm.one _ _
   ·exact hm.one _ _
  ·change(if _ then _ else _)=_ at hl
   split at hl
   ·grind
   ·cases hg:G.lb b' o with
    |none=>grind
    |some x=>exact hm.lb b' o x hg
  ·cases hg:G.ow b' with
   |none=>grind[Gh.cut]
   |some x=>exact hm.ow b' x hg
 refine⟨G',vL g9 (by simp) gx gr ?_ ?_⟩
 ·intro s hs
  have ug:s≠d:=by rintro rfl;grind[Wr.find]
  have ao:s≠s0:=by rintro rfl;grind[Wr.find]
  grind
 ·intro s t' hs
  by_cases cL:s=d
  ·subst cL
   simp[Wr.find]at hs;subst hs;have gf:(xs.take h).length=h:=by simp;omega
   simp only[Top]at e3;have hkc:∀ys:List T,xU ys→ ∀n,xU (ys.take n):=by
    intro ys
    induction ys with
    |nil=>simp
    |cons y ys ih=>intro hy n;cases n with
     |zero=>simp[xU,xZ]
     |succ n=>exact⟨hy.1,ih hy.2 n⟩
   refine⟨?_,?_,by simp only[Top];grind⟩
   ·rw[Jj]
    simp[g9.size,hd,mkV,G',Gh.cut,v]
   ·simp only[R]
    refine .inr ⟨b,cap',cs,e,by grind[Gh.cut],h2,by omega,by omega,by have:=K9 k fc;omega,gow b _ h6,fun o ho1 ho2=>?_,?_⟩
    ·rw[gf]at ho1
     show(if _ then _ else _)=_
     grind
    ·refine zJL _ [] 0 b 0 fun i x hx=>?_
     rw[Jcp]at hx;split at hx
     ·rename_i hi
      obtain⟨g1,g2,g3⟩:=jU xs [] 0 b 0 k i x h8 hx;rw[Jc]at g1 g3 ⊢
      refine⟨?_,g2,zAn (mv i hi) x (xD.mono (by simp) _ (uQ xs e3 i x hx)) g3⟩;refine zGZ x [i] [i] b _ (fun z=>by simp[G',Gh.cut]) (by grind[Gh.cut]) (fun b' o z hl=>⟨glb _ _ _ _ hl ?_,rfl⟩) g1
      grind
     ·cases hx
  ·have h9:s=s0∧t'=.any:=by
    simp only[Wr.find]at hs
    grind
   obtain⟨rfl,rfl⟩:=h9;refine⟨?_,by simp only[R],by simp[Top]⟩;rw[Jj];simp only[Ne.symm cL,if_false,mkV];rw[e1,xS rfl]
   grind[Gh.cut]
theorem zSa{G:Gh}{tmps:Array Value}{w:World}(g9:Rep Γ E G tmps w)(hd:d<Γ.N){s0 k:Nat}(ez:E s0=ik (.sl k []))(gj:s0≠d)(a:Option Addr):
  ∃G',Rep Γ (E.app [(d,ik (.sl k [])),(s0,ik .any)] [(d,0),(s0,1)]) G' (tmps.setIfInBounds d (.slice a 0 0)) w:=by
 obtain⟨e1,_,_⟩:=g9.ent s0 _ ez;refine⟨G.put d (fun _=>.slice a 0 0),?_⟩;have hk:qY [(d,0),(s0,1)] G w (G.put d fun _=>.slice a 0 0) w:=by have h0:=G.put_keep (w:=w) (w':=w) rfl d (fun _=>.slice a 0 0);refine⟨fun s p ho=>h0.hd s p (fun n hn=>ho n (by grind)),fun s p ho=>rfl,fun b o f s p h1 h2 h3=>h0.lb b o f s p h1 h2 (by grind),fun b s p h1 h3=>h0.ow b s p h1 (by grind),h0.blk⟩
 refine vL g9 (by simp) hk (g9.mem.put rfl d _ (fun _=>rfl)) ?_ ?_
 ·intro s hs
  have ug:s≠d:=by rintro rfl;grind[Wr.find]
  have ao:s≠s0:=by rintro rfl;grind[Wr.find]
  grind
 ·intro s t' hs
  by_cases cL:s=d
  ·subst cL
   simp[Wr.find]at hs;subst hs;refine⟨by rw[Jj];simp[g9.size,hd,mkV,Gh.put],by simp only[R];exact .inl ⟨trivial,a,by simp[Gh.put]⟩,by omega⟩
  ·have h9:s=s0∧t'=.any:=by
    simp only[Wr.find]at hs
    grind
   obtain⟨rfl,rfl⟩:=h9;refine⟨?_,by simp only[R],by simp[Top]⟩;rw[Jj];simp only[Ne.symm cL,if_false,mkV];rw[e1,xS rfl]
   grind[Gh.put]
end
section
variable {P:Program}{Γ:Ctx}{pn:jZ}{E E':Env}{Q:Exit→Env→Prop}{d:Nat}{x y:Operand}{ty:TypeId}{ps:String}{af:Array Edge}{gd:Option (Nat×Bool)}
theorem zWG{α:Type}{t e:TypeId}{ti:TypeInfo}{s0 k:Nat}{f:α→T}{xs ys:List α}{mx:Option Operand}{h:Int}{u:T}(ht:ElT P t e ti k u)(hv:yB xs 0 h=ik ys)(h0:E s0=ik (L k f xs))(hy:opT E y=ik (I h))(hmx:mx=im∨ ∃z,mx=ik z∧opT E z=ik (I h))(sd:(J6 d Γ.N&&(s0 != d))=io):
  Ok P Γ ⟨ik d,.slice t (.tmp s0) im (ik y) mx,ty,ps,af,gd⟩ E (E.app [(d,ik (L k f ys)),(s0,ik .any)] [(d,0),(s0,1)]):=by
 obtain⟨_,bY,cV,rfl⟩:=sV hv;simp only[J3]at sd;have gj:s0≠d:=by grind
 obtain⟨n,rfl⟩:∃n:Nat,h=n:=⟨h.toNat,by omega⟩;have hn:n≤xs.length:=by omega
 intro S;refine wN.value rfl fun a w G g9=>?_
 obtain⟨e1,e2,_⟩:=g9.ent s0 _ h0;have fh:=(wO g9 hy).1;have bS:a.eval (.tmp s0)=G.hd s0 []:=by rw[wJ e1,xS rfl]
 have pS:=ht.un;have gT:=ht.info;have gy:=ht.size;have av:List.map f ((xs.drop (0:Int).toNat).take ((n:Int).toNat-(0:Int).toNat))=(xs.map f).take n:=by simp
 rw[show L k f ((xs.drop (0:Int).toNat).take ((n:Int).toNat-(0:Int).toNat))=.sl k ((xs.map f).take n)by simp];have e2':=e2;simp only[R]at e2;rcases e2 with⟨b8,ad,h1⟩|⟨b,cap,cs,e',h1,h2,h3,h4,h5,h6,h7,h8⟩
 ·have fI:xs=[]:=by simp_all
  subst fI;simp at hn;subst hn;obtain⟨G',gn⟩:=zSa g9 (yK sd.1) (k:=k) (by grind) gj ad;refine⟨_,w,?_,G',by simpa using gn⟩;rcases hmx with rfl|⟨z,rfl,hz⟩
  ·simp[execOp,Instr.sliceAt,Instr.slice,run_underlying pS,bS,h1,fh,sizeOf,typeInfo,gT,Instr.sliceBounds,Instr.sliceBound,asIntOf]
  ·have my:=(wO g9 hz).1
   simp[execOp,Instr.sliceAt,Instr.slice,run_underlying pS,bS,h1,fh,my,sizeOf,typeInfo,gT,Instr.sliceBounds,Instr.sliceBound,asIntOf]
 ·rw[Ji]at h1 h3
  have cU:n≤cap:=by omega
  have cJ:cap=0→n=0:=by omega
  rcases hmx with rfl|⟨z,rfl,hz⟩
  ·obtain⟨G',gn⟩:=zOK g9 (yK sd.1) h0 gj ht.pos (by grind) h2 (by grind) h4 h5 h6 h7 h8 (h:=n) (cap':=cap) (by grind) cU (Jg _)
   refine⟨_,w,?_,G',gn⟩;simp[execOp,Instr.sliceAt,Instr.slice,run_underlying pS,bS,h1,fh,sizeOf,typeInfo,gT,Instr.sliceBounds,Instr.sliceBound,asIntOf,cU,uR]
  ·have my:=(wO g9 hz).1
   obtain⟨G',gn⟩:=zOK g9 (yK sd.1) h0 gj ht.pos (by grind) h2 (by grind) h4 h5 h6 h7 h8 (h:=n) (cap':=n) (by grind) (Jg _) cU;refine⟨_,w,?_,G',gn⟩;simp[execOp,Instr.sliceAt,Instr.slice,run_underlying pS,bS,h1,fh,my,sizeOf,typeInfo,gT,Instr.sliceBounds,Instr.sliceBound,asIntOf,cU,uR]
end
end Go.Ab

namespace Go.Ab
open Go
section
variable {P:Program}{Γ:Ctx}{pn:jZ}{E E':Env}{Q:Exit→Env→Prop}{d:Nat}{x y:Operand}{ty:TypeId}{ps:String}{af:Array Edge}{gd:Option (Nat×Bool)}{ops:Array Oper}{os:List Oper}
theorem zQb{P:Program}{w:World}{t e:TypeId}{a:Option Addr}{n c:Nat}(m:Nat)(h:P.underlying t=ik (.slice e)):(Op.equalIn (m+1) t (.slice a n c) (.slice im 0 0)).run P w=.ok a.isNone w:=by simp only[Op.equalIn,Sem.run_bind,run_underlying h];cases a<;>rfl
theorem RW.isnil{α:Type}{xt yt e:TypeId}{r k:Nat}{q:List Nat}{f:α→T}{xs:List α}{u:T}(hu:P.underlying xt=ik (.slice e))(hx:tP E x=ik (r,q,u))(pL:u=.ro (L k f xs)∨u=L k f xs)(sd:J6 d Γ.N=io)(hp:pn.ok (ik d)=io)
  (h:∀b,(b=io→xs=[])→RW P Γ pn ops os (E.app [(d,ik (B b))] [(d,0)]) Q):RW P Γ pn ops (⟨ik d,.binOp .eql xt x (.const (.slice im 0 0)) yt,ty,ps,af,im⟩::os) E Q:=by
 intro a w Q' hs fR hQ;obtain⟨S,hS,gN,G,g9⟩:=id hs;have fU:u.single=io:=by rcases pL with rfl|rfl<;>rfl
 obtain⟨h1,h2⟩:=jH g9 hx fU;obtain⟨ad,n,c,h3,h4⟩:∃ad n c,a.eval x=.slice ad n c∧(ad.isNone=io→xs=[]):=by
  rcases pL with rfl|rfl
  ·obtain⟨ad,c,g1,_,_,g2⟩:=zDe h1
   refine⟨ad,_,c,by rw[h2,g1],fun hn=>?_⟩;apply Classical.byContradiction;intro gj;obtain⟨b,o',_,_,_,rfl,_⟩:=g2 (by simpa using gj);simp at hn
  ·simp only[R]at h1
   rcases h1 with⟨g1,ad,g2⟩|⟨b,cap,cs,e',g1,_⟩
   ·exact⟨ad,0,0,by rw[h2,g2],fun _=>by simpa using g1⟩
   ·exact⟨_,_,_,by rw[h2,g1],fun hn=>by simp at hn⟩
 have gz:(execOp a.eval ⟨ik d,.binOp .eql xt x (.const (.slice im 0 0)) yt,ty,ps,af,im⟩).run P w=.ok (.value (.bool ad.isNone)) w:=by have h5:(Op.equalIn 10000 xt (.slice ad n c) (.slice im 0 0)).run P w=.ok ad.isNone w:=zQb 9999 hu;have h6:a.eval (.const (.slice im 0 0))=.slice im 0 0:=rfl;simp[execOp,h3,h6,eqGuard,binOp,zLv,h5]
 simp only[wpL,Region.wanted,if_true];refine .inl ?_;unfold Oper.wp;rw[gz,Oper.upon_value];have fP:=vN g9 rfl (yK sd) (fun _=>.bool ad.isNone) (fun _=>rfl) (B ad.isNone) (.bool ad.isNone) (by simp[mkV,Gh.put]) (by simp[R,Gh.put]) (by simp[Top]);refine h ad.isNone h4 _ w Q' ⟨S,hS,gN,_,fP⟩ ?_ hQ;refine fR.frame hp fun s gJ=>?_
 have:d≠s:=fun e=>gJ (by rw[e])
 simp[Act.put,Hp this]
theorem zLz{t e:TypeId}(hu:P.underlying t=ik (.slice e))(hx:opT E x=ik (.lit (.slice im 0 0)))(sd:J6 d Γ.N=io):Ok P Γ ⟨ik d,.call { callee:=.builtin .len,args:=#[x],argTypes:=#[t] },ty,ps,af,gd⟩ E (E.app [(d,ik (I 0))] [(d,0)]):=by
 intro S;refine zAZ (.int .i64 0) rfl rfl (yK sd) fun a w G g9=>?_
 have h1:=(wO g9 hx).1;simp[execOp,resolve,invoke,builtin,h1,Builtin.len_,run_underlying hu,goInt]
theorem zL0{t e:TypeId}(hu:P.underlying t=ik (.slice e))(hx:opT E x=ik (.lit (.slice im 0 0)))(sd:J6 d Γ.N=io):Ok P Γ ⟨ik d,.call { callee:=.builtin .cap,args:=#[x],argTypes:=#[t] },ty,ps,af,gd⟩ E (E.app [(d,ik (I 0))] [(d,0)]):=by
 intro S;refine zAZ (.int .i64 0) rfl rfl (yK sd) fun a w G g9=>?_
 have h1:=(wO g9 hx).1;simp[execOp,resolve,invoke,builtin,h1,Builtin.cap_,run_underlying hu,goInt]
theorem zVq{t e:TypeId}{ti:TypeInfo}{u:T}{k:Nat}(ht:ElT P t e ti k u)(hx:opT E x=ik (.lit (.slice im 0 0)))(hy:opT E y=ik (I 0))(sd:J6 d Γ.N=io):Ok P Γ ⟨ik d,.slice t x im (ik y) im,ty,ps,af,gd⟩ E (E.app [(d,ik (.sl k []))] [(d,0)]):=by
 intro S;refine wN.value rfl fun a w G g9=>?_
 have h1:=(wO g9 hx).1;have h2:=(wO g9 hy).1;refine⟨.slice im 0 0,w,?_,_,vN g9 rfl (yK sd) (fun _=>.slice im 0 0) (fun _=>rfl) (.sl k []) (.slice im 0 0) (by simp[mkV,Gh.put]) (by simp[R,Gh.put]) (by simp[Top,xU,xZ])⟩;simp[execOp,Instr.sliceAt,Instr.slice,run_underlying ht.un,h1,h2,sizeOf,typeInfo,ht.info,Instr.sliceBounds,Instr.sliceBound,asIntOf]
theorem zN.nil(s k:Nat)(hs:E s=ik (.lit (.slice im 0 0))):zN Γ E (E.app [(s,ik (.sl k []))] [(s,0)]):=by
 rintro a w ⟨S,hS,gN,G,g9⟩
 refine⟨S,hS,gN,G,?_⟩;have hk:qY [(s,0)] G w G w:=⟨fun _ _ _=>rfl,fun _ _ _=>rfl,fun _ _ _ _ _ _ h _=>⟨h,rfl⟩,fun _ _ _ h _=>h,fun b cs e h=>⟨cs,h,rfl⟩⟩;refine vL g9 rfl hk g9.mem (fun s' gJ=>⟨fun n hn=>?_,rfl⟩) fun s' t gJ=>?_
 ·simp at hn
  simp[Wr.find,hn.1]at gJ
 ·simp only[Wr.find]at gJ
  split at gJ
  ·rename_i e;subst e
   simp at gJ;subst gJ;obtain⟨h1,h2,_⟩:=g9.ent s _ hs;simp only[R]at h2;exact⟨by rw[h1];rfl,by simp only[R];exact .inl ⟨trivial,im,h2⟩,by simp[Top,xU,xZ]⟩
  ·cases gJ
theorem zJZ{src dst:TypeId}{ds:TypeDesc}{k k':IntKind}{n:Int}(hs:P.underlying src=ik ds)(ht:P.underlying dst=ik (.int k'))(hx:opT E x=ik (IK k n))(sd:J6 d Γ.N=io):
  Ok P Γ ⟨ik d,.convert src dst x,ty,ps,af,gd⟩ E (E.app [(d,ik (IK k' (k'.wrap n)))] [(d,0)]):=fun _=>zUY src dst ds x k k' n rfl rfl (yK sd) hs ht hx
theorem zX9{k:IntKind}{m n:Int}{xt yt:TypeId}(hx:opT E x=ik (IK k m))(hy:opT E y=ik (IK k n))(sd:J6 d Γ.N=io):Ok P Γ ⟨ik d,.binOp .add xt x y yt,ty,ps,af,gd⟩ E (E.app [(d,ik (IK k (k.wrap (m+n))))] [(d,0)]):=
 fun _=>sH .add xt yt x y k m n _ rfl rfl (yK sd) hx hy rfl
theorem zXA{k:IntKind}{m n:Int}{xt yt:TypeId}(hx:opT E x=ik (IK k m))(hy:opT E y=ik (IK k n))(sd:J6 d Γ.N=io):Ok P Γ ⟨ik d,.binOp .mul xt x y yt,ty,ps,af,gd⟩ E (E.app [(d,ik (IK k (k.wrap (m*n))))] [(d,0)]):=
 fun _=>sH .mul xt yt x y k m n _ rfl rfl (yK sd) hx hy rfl
theorem zSb{k:IntKind}{m n:Int}{xt yt:TypeId}(hx:opT E x=ik (IK k m))(hy:opT E y=ik (IK k n))(sd:J6 d Γ.N=io):Ok P Γ ⟨ik d,.binOp .gtr xt x y yt,ty,ps,af,gd⟩ E (E.app [(d,ik (B (decide (m> n))))] [(d,0)]):=
 fun _=>sH .gtr xt yt x y k m n _ rfl rfl (yK sd) hx hy rfl
def zGz(k:IntKind)(m n:Int):Int:=k.wrap ((BitVec.ofInt k.bits m &&& BitVec.ofInt k.bits n).toNat:Int)
theorem zXB{k:IntKind}{m n:Int}{xt yt:TypeId}(hx:opT E x=ik (IK k m))(hy:opT E y=ik (IK k n))(sd:J6 d Γ.N=io):Ok P Γ ⟨ik d,.binOp .and xt x y yt,ty,ps,af,gd⟩ E (E.app [(d,ik (IK k (zGz k m n)))] [(d,0)]):=by
 intro S;refine zAZ (.int k (zGz k m n)) rfl rfl (yK sd) fun a w G g9=>?_
 have h1:=(wO g9 hx).1;have h2:=(wO g9 hy).1;simp[execOp,h1,h2,eqGuard,binOp,Op.intBits,zGz]
theorem zXC{k k':IntKind}{m n:Int}{xt yt:TypeId}(hn:0≤n)(hx:opT E x=ik (IK k m))(hy:opT E y=ik (IK k' n))(sd:J6 d Γ.N=io):Ok P Γ ⟨ik d,.binOp .shr xt x y yt,ty,ps,af,gd⟩ E (E.app [(d,ik (IK k (m.fdiv (2 ^ (min n.toNat k.bits)))))] [(d,0)]):=by
 intro S;refine zAZ (.int k (m.fdiv (2 ^ (min n.toNat k.bits)))) rfl rfl (yK sd) fun a w G g9=>?_
 have h1:=(wO g9 hx).1;have h2:=(wO g9 hy).1;have h3:¬n<0:=by omega
 simp[execOp,h1,h2,eqGuard,binOp,Op.shift,h3]
end
end Go.Ab

namespace Go.Ab
open Go
structure zSc (P:Program) (f:Field) (i:Nat):Prop where
 name:f.name≠ "_"
 off:f.offset=i
 ty:P.underlying f.type=ik (.int .i64)
class zVr (P:Program) (t:TypeId):Prop where
 h:∃f0 f1 f2 f3:Field,P.underlying t=ik (.struct #[f0,f1,f2,f3])∧zSc P f0 0∧zSc P f1 1∧zSc P f2 2∧zSc P f3 3
 st:P.stoodInHeld t=iq
 gd:P.eqGuardType P.depth t=iq
theorem zEI{P:Program}{w:World}{f:Field}{i:Nat}(h:zSc P f i)(cs:Array Value)(v:Value)(hv:cs[i]? =ik v):(part f.type cs f.offset).run P w=.ok v w:=by simp[part,jW h.ty,zFu,h.off,hv]
theorem zSd{P:Program}{w:World}{t:TypeId}(h:zVr P t)(a b c d a' b' c' d':Int)(m:Nat):
  (Op.equalIn (m+2) t (.agg #[.int .i64 a,.int .i64 b,.int .i64 c,.int .i64 d]) (.agg #[.int .i64 a',.int .i64 b',.int .i64 c',.int .i64 d'])).run P w=.ok (a==a'&&(b==b'&&(c==c'&&d==d'))) w:=by
 obtain⟨f0,f1,f2,f3,h1,g0,g1,g2,g3⟩:=h.h;have k0:=fun(x y:Int)=>zG7 (P:=P) (w:=w) (a:=x) (b:=y) m g0.ty
 have k1:=fun(x y:Int)=>zG7 (P:=P) (w:=w) (a:=x) (b:=y) m g1.ty
 have k2:=fun(x y:Int)=>zG7 (P:=P) (w:=w) (a:=x) (b:=y) m g2.ty
 have k3:=fun(x y:Int)=>zG7 (P:=P) (w:=w) (a:=x) (b:=y) m g3.ty
 have gB:=h.st;rw[Op.equalIn];simp only[Sem.run_bind,run_underlying h1];have q0:=fun(a b c d:Int)=>zEI (w:=w) g0 #[.int .i64 a,.int .i64 b,.int .i64 c,.int .i64 d] (.int .i64 a) rfl
 have q1:=fun(a b c d:Int)=>zEI (w:=w) g1 #[.int .i64 a,.int .i64 b,.int .i64 c,.int .i64 d] (.int .i64 b) rfl
 have q2:=fun(a b c d:Int)=>zEI (w:=w) g2 #[.int .i64 a,.int .i64 b,.int .i64 c,.int .i64 d] (.int .i64 c) rfl
 have q3:=fun(a b c d:Int)=>zEI (w:=w) g3 #[.int .i64 a,.int .i64 b,.int .i64 c,.int .i64 d] (.int .i64 d) rfl
 by_cases e0:a=a'<;>by_cases e1:b=b'<;>by_cases e2:c=c'<;>by_cases e3:d=d'<;>
  simp[gB,g0.name,g1.name,g2.name,g3.name,q0,q1,q2,q3,k0,k1,k2,k3,e0,e1,e2,e3]
section
variable {P:Program}{Γ:Ctx}{E E':Env}{d:Nat}{x y:Operand}{ty:TypeId}{ps:String}{af:Array Edge}{gd:Option (Nat×Bool)}
theorem zXD{t t':TypeId}{s s':Nat}{a b c e a' b' c' e':Int}(h:zVr P t)(hx:E s=ik (.agg [I a,I b,I c,I e]))(hy:E s'=ik (.agg [I a',I b',I c',I e']))(sd:J6 d Γ.N=io):
  Ok P Γ ⟨ik d,.binOp .eql t (.tmp s) (.tmp s') t',ty,ps,af,gd⟩ E (E.app [(d,ik (B (a==a'&&(b==b'&&(c==c'&&e==e')))))] [(d,0)]):=by
 intro S;refine zAZ _ rfl rfl (yK sd) fun A w G g9=>?_
 obtain⟨h1,h2,_⟩:=g9.ent s _ hx;obtain⟨h3,h4,_⟩:=g9.ent s' _ hy;simp only[R,RF]at h2 h4;have e1:A.eval (.tmp s)=.agg #[.int .i64 a,.int .i64 b,.int .i64 c,.int .i64 e]:=by rw[wJ h1];simp[mkV,yH,vals,h2]
 have e2:A.eval (.tmp s')=.agg #[.int .i64 a',.int .i64 b',.int .i64 c',.int .i64 e']:=by rw[wJ h3];simp[mkV,yH,vals,h4]
 have h5:(Op.equalIn 10000 t (.agg #[.int .i64 a,.int .i64 b,.int .i64 c,.int .i64 e]) (.agg #[.int .i64 a',.int .i64 b',.int .i64 c',.int .i64 e'])).run P w=_:=zSd (w:=w) h a b c e a' b' c' e' 9998;have hg:=h.gd;simp[execOp,e1,e2,eqGuard,binOp,zLv,h5,hg]
end
end Go.Ab

namespace Go.Ab
open Go
abbrev vI(n:Int):Value:=.int .i64 n
section
variable {Γ:Ctx}{E:Env}
theorem zL1{G:Gh}{tmps:Array Value}{w w':World}(g9:Rep Γ E G tmps w){s0:Nat}{xs us:List Int}(ez:E s0=ik (L 1 I xs))(gf:us.length=xs.length)
  {b cap:Nat}{cs cs':Array Value}{e:TypeId}(h1:G.hd s0 []=.slice (ik ⟨b,0,im⟩) xs.length cap)(h2:w.heap[b]? =ik (.cells cs e (0,0)))(h3:xs.length≤cap)(h4:cap≤maxLen)(h5:cap*1≤cs.size)(h6:G.ow b=ik (s0,[]))
  (h7:∀o,xs.length*1≤o→o<cap*1→G.lb b o=ik (io,s0,[]))(h8:RL Γ.St G w s0 (xs.map I) [] 0 b 0 1)
  (k1:w'.heap[b]? =ik (.cells cs' e (0,0)))(k2:cs'.size=cs.size)(k3:∀b',b'≠b→w'.heap[b']? =w.heap[b']?)(k4:w'.heap.size=w.heap.size)(ko:w'.os=w.os)(kq:w'.output=w.output)(k5:∀(i:Nat) u,us[i]? =ik u→cs'[i]? =ik (vI u)):
  ∃G',Rep Γ (E.app [(s0,ik (L 1 I us))] [(s0,1)]) G' tmps w':=by
 have hm:=g9.mem;obtain⟨e1,_,_⟩:=g9.ent s0 _ ez;have gK:=hm.ow b _ h6
 let G':Gh:={ G with hd:=fun s z=>if s=s0 then(match z with
  | [i]=>(match us[i]? with
   |some u=>vI u
   |none=>G.hd s0 z)
  |_=>G.hd s0 z)else G.hd s z }
 have hB:Blk w w':=by
  intro b' cs2 e2 hb
  grind
 have gx:qY [(s0,1)] G w G' w':=by
  refine⟨fun s p ho=>?_,fun _ _ _=>rfl,fun b' o f s p e6 hl hs=>⟨hl,?_⟩,fun _ _ _ hl _=>hl,hB⟩
  ·by_cases h:s=s0
   ·subst h
    have:p=[]:=Lm (by have:=ho 1 (by simp);omega)
    grind
   grind
  ·have cL:s≠s0:=by grind
   obtain⟨y,hy⟩:=e6;have pd:b'≠b:=by grind
   grind[yR,World.cell?]
 have gr:Mem Γ G' w':=by
  refine⟨fun s z=>?_,fun b' o l hl=>?_,fun b' l hl=>?_,fun b' x hx=>?_,fun b' h h'=>?_,by rw[k4];exact hm.sz,hm.bk.trans hB ko kq⟩
  ·show(if _ then _ else _:Value).oneCell'=io
   split
   ·split
    ·split
     ·rfl
     ·exact hm.one _ _
    ·exact hm.one _ _
   ·exact hm.one _ _
  ·have:=hm.lb b' o l hl;exact⟨by rw[k4];exact this.1,this.2⟩
  ·have:=hm.ow b' l hl;exact⟨by rw[k4];exact this.1,this.2⟩
  ·have:b'≠b:=by rintro rfl;rw[gK.2.2]at hx;cases hx
   rw[k3 b' this];exact hm.st b' x hx
  ·have:b'≠b:=by
    rintro rfl
    rcases gK.2.1 with h0|h0
    all_goals grind
   rw[k3 b' this];exact hm.fr b' h h'
 refine⟨G',vL g9 rfl gx gr ?_ ?_⟩
 ·intro s hs
  rw[tZ]at hs
  grind
 ·intro s t' hs
  rw[tZ]at hs;split at hs
  ·rename_i he;subst he
   simp at hs;subst hs;refine⟨by grind[mkV],?_,by simp only[Top];exact zEc zOF us⟩;simp only[R];refine .inr ⟨b,cap,cs',e,by grind,k1,by grind,h4,by omega,h6,by grind,?_⟩;refine zJL _ [] 0 b 0 fun i x hx=>?_
   rw[K5,Ky]at hx;obtain⟨u,hu,rfl⟩:=hx;have hi:=(Jn.1 hu).1;obtain⟨g1,g2,_⟩:=jU _ [] 0 b 0 1 i (I xs[i]) h8 (by simp);simp only[Jc,Ul,Loc]at g1 ⊢
   refine⟨⟨g1.1,g1.2.1,?_⟩,rfl,by simp[R,G',hu]⟩
   grind[yR,World.cell?]
  ·cases hs
def zGl(P:Program)(Γ:Ctx)(E:Env)(y:Operand)(ys:List Int):Prop:=∀(a:Act)(w:World)(G:Gh),Rep Γ E G a.tmps w→ ∃xa c,a.eval y=.slice xa ys.length c∧
 ∀(n:Nat),n≤ys.length→(Builtin.firstCells 1 n (.slice xa ys.length c)).run P w=.ok ((ys.take n).map vI).toArray w
theorem zCm{P:Program}{w:World}{b o:Nat}{cs:Array Value}{e:TypeId}{fr:Nat×Nat}(hb:w.heap[b]? =ik (.cells cs e fr))(ys:List Int)(hv:∀(i:Nat) u,ys[i]? =ik u→cs[o+i]? =ik (vI u))(n:Nat)(hn:n≤ys.length)(len cap:Nat):
  (Builtin.firstCells 1 n (.slice (ik ⟨b,o,im⟩) len cap)).run P w=.ok ((ys.take n).map vI).toArray w:=by
 refine run_firstCells_some (P:=P) w 1 n ⟨b,o,im⟩ len cap _ (by simp;omega) fun j v hj=>?_
 rw[K5,Ky]at hj;obtain⟨u,hu,rfl⟩:=hj
 grind[uR,World.cell?]
theorem zC7{P:Program}{w:World}{a:Option Addr}{c:Nat}:(Builtin.firstCells 1 0 (.slice a 0 c)).run P w=.ok #[] w:=by cases a<;>simp[Builtin.firstCells,loadCells,loadCellsFrom]
theorem zGl.ro{P:Program}{y:Operand}{ys:List Int}{r:Nat}{q:List Nat}(h:tP E y=ik (r,q,.ro (L 1 I ys))):zGl P Γ E y ys:=fun a w G g9=>by
 obtain⟨h1,h2⟩:=jH g9 h rfl;obtain⟨xa,c,g1,_,_,g2⟩:=zDe h1;rw[Ji]at g1;refine⟨xa,c,by rw[h2,g1],fun n hn=>?_⟩
 by_cases hy:ys=[]
 ·grind[zC7]
 ·obtain⟨b,o,cs,e,fr,rfl,g3,g4⟩:=g2 (by grind)
  refine zCm (g9.mem.st b _ g3) ys (fun i u hu=>?_) n hn _ _;have:=zG4 _ cs o 1 i (I u) g4 (by simp[hu]);simp only[RoC,Ul]at this
  grind
theorem zOL{G:Gh}{w:World}{s b:Nat}{q:List Nat}{cs:Array Value}{e:TypeId}{xs:List Int}{St:Stb}(h2:w.heap[b]? =ik (.cells cs e (0,0)))(h8:RL St G w s (xs.map I) q 0 b 0 1)(i:Nat)(u:Int)(hu:xs[i]? =ik u):cs[i]? =ik (vI u):=by
 obtain⟨g1,_,g3⟩:=jU _ q 0 b 0 1 i (I u) h8 (by simp[hu]);simp only[Loc,R,Jc,Ul]at g1 g3
 grind[yR,World.cell?]
theorem zGl.sub{P:Program}{s r:Nat}{q:List Nat}{tr:T}{xs ys:List Int}{l h:Int}(hs:E s=ik (.sub r q 1 l.toNat h.toNat))(hr:E r=ik tr)(hg:tr.get q.reverse=ik (L 1 I xs))(hv:yB xs l h=ik ys):zGl P Γ E (.tmp s) ys:=fun a w G g9=>by
 obtain⟨k1,k2,k3,rfl⟩:=sV hv;obtain⟨e1,e2,_⟩:=g9.ent s _ hs;obtain⟨_,e4,_⟩:=g9.ent r _ hr;simp only[R]at e2;have h5:=(zA6 q.reverse tr _ [] e4 hg).1;simp only[rp,Kj,Jd,R]at h5;have gf:((xs.drop l.toNat).take (h.toNat-l.toNat)).length=h.toNat-l.toNat:=by simp;omega
 rw[gf];have bS:a.eval (.tmp s)=G.hd s []:=by rw[wJ e1,xS rfl]
 rcases h5 with⟨g1,ad,g2⟩|⟨b,cap,cs,e,g1,g2,g3,_,_,_,_,g8⟩
 ·have hy:xs=[]:=by simp_all
  grind[zBi,zC7]
 ·rw[Ji]at g1 g3
  refine⟨if cap=l.toNat then ik ⟨b,0,im⟩else ik ⟨b,l.toNat,im⟩,cap-l.toNat,by rw[bS,e2,g1];simp only[zBi,H4,uR,Jc,Ul],fun n hn=>?_⟩;split
  ·have:n=0:=by omega
   subst this;rfl
  ·refine zCm g2 _ (fun i u hu=>?_) n (by omega) _ _
   grind[zOL]
def zC8(Γ:Ctx)(E:Env)(x:Operand)(s0 lo hi:Nat):Prop:=∀(a:Act)(w:World)(G:Gh),Rep Γ E G a.tmps w→a.eval x=zBi (G.hd s0 []) 1 lo hi
theorem zC8.slot{s0:Nat}{xs:List Int}(h:E s0=ik (L 1 I xs)):zC8 Γ E (.tmp s0) s0 0 xs.length:=fun a w G g9=>by obtain⟨e1,e2,_⟩:=g9.ent s0 _ h;obtain⟨ad,c,g⟩:=zJF e2;rw[Ji]at g;rw[wJ e1,xS rfl,g];simp[zBi];intro;cases ad<;>simp[Addr.add]
theorem zC8.same{s s0:Nat}{xs:List Int}(hs:E s=ik (.same s0 []))(h:E s0=ik (L 1 I xs)):zC8 Γ E (.tmp s) s0 0 xs.length:=fun a w G g9=>by obtain⟨e1,e2,_⟩:=g9.ent s _ hs;have:=zC8.slot h a w G g9;obtain⟨e3,_,_⟩:=g9.ent s0 _ h;simp only[R]at e2;rw[wJ e3,xS rfl]at this;rw[wJ e1,xS rfl,e2];exact this
theorem zC8.sub{s s0 lo hi:Nat}(hs:E s=ik (.sub s0 [] 1 lo hi)):zC8 Γ E (.tmp s) s0 lo hi:=fun a w G g9=>by obtain⟨e1,e2,_⟩:=g9.ent s _ hs;simp only[R]at e2;rw[wJ e1,xS rfl,e2]
end
theorem zQc{α:Type}{xs ys:List α}{l h:Int}(hv:yB xs l h=ik ys):l.toNat≤h.toNat:=by have:=sV hv;omega
theorem zQd{α:Type}{xs ys:List α}{l h:Int}(hv:yB xs l h=ik ys):h.toNat≤xs.length:=by have:=sV hv;omega
theorem zOM{α:Type}(l z:List α)(lo i:Nat)(eA:lo+z.length≤l.length):(l.take lo++z++l.drop (lo+z.length))[i]? =if i<lo then l[i]? else if i<lo+z.length then z[i-lo]? else l[i]?:=by
 have hm:min lo l.length=lo:=by omega
 grind
def wQ(xs:List Int)(lo:Nat)(zs:List Int):List Int:=xs.take lo++zs++xs.drop (lo+zs.length)
theorem zKa{P:Program}{Γ:Ctx}{E:Env}{d s0 lo hi:Nat}{x y:Operand}{ty:TypeId}{ps:String}{af:Array Edge}{gd:Option (Nat×Bool)}{t t2 e:TypeId}{ti:TypeInfo}{u:T}{xs ys:List Int}(ht:ElT P t e ti 1 u)(h0:E s0=ik (L 1 I xs))(hx:∀S,zC8 (Γ.at S) E x s0 lo hi)(hy:∀S,zGl P (Γ.at S) E y ys)(h1:lo≤hi)(h2:hi≤xs.length)(sd:(J6 d Γ.N&&(s0 != d))=io):
  Ok P Γ ⟨ik d,.call { callee:=.builtin .copy,args:=#[x,y],argTypes:=#[t,t2] },ty,ps,af,gd⟩ E ((E.app [(s0,ik (L 1 I (wQ xs lo (ys.take (hi-lo)))))] [(s0,1)]).app [(d,ik (I ((min ys.length (hi-lo):Nat):Int)))] [(d,0)]):=by
 simp only[J3]at sd;have gj:s0≠d:=by grind
 intro S;refine wN.value rfl fun a w G g9=>?_
 obtain⟨e1,e2,_⟩:=g9.ent s0 _ h0;obtain⟨xa,c,g1,g2⟩:=hy S a w G g9;have g3:=hx S a w G g9;have eF:min ys.length (hi-lo)≤ys.length:=by omega
 have g4:=g2 _ eF;have ey:ys.take (hi-lo)=ys.take (min ys.length (hi-lo)):=by grind
 rw[ey]
 generalize hn:min ys.length (hi-lo)=n at*
 have mw:(ys.take n).length=n:=by simp;omega
 have gf:(wQ xs lo (ys.take n)).length=xs.length:=by grind[wQ]
 have key:∃w',(Builtin.copy_ #[t,t2] ty #[a.eval x,a.eval y]).run P w=.ok (goInt n) w'∧ ∃G',Rep (Γ.at S) (E.app [(s0,ik (L 1 I (wQ xs lo (ys.take n))))] [(s0,1)]) G' a.tmps w':=by
  have e2':=e2;simp only[R]at e2;rcases e2 with⟨k1,ad,k2⟩|⟨b,cap,cs,e',k1,k2,k3,k4,k5,k6,k7,k8⟩
  ·have fI:xs=[]:=by simp_all
   subst fI;simp at h2;subst h2;have ap:n=0:=by omega
   subst ap;have eA:lo=0:=by omega
   subst eA;refine⟨w,?_,G,?_⟩
   ·rw[g3,k2,g1]
    cases ad<;>cases xa<;>simp[zBi,Builtin.copy_,run_underlying ht.un,Builtin.lenOf,sizeOf,typeInfo,ht.info,Builtin.firstCells,loadCells,loadCellsFrom,storeCells]
   ·refine vL g9 rfl ⟨fun _ _ _=>rfl,fun _ _ _=>rfl,by grind,fun _ _ _ h _=>h,fun b cs e h=>⟨cs,h,rfl⟩⟩ g9.mem (fun s hs=>⟨by grind[Wr.find],rfl⟩) fun s t' hs=>?_
    rw[tZ]at hs;split at hs
    ·rename_i he;subst he
     simp at hs;subst hs;simpa[wQ]using g9.ent s0 _ h0
    ·cases hs
  ·rw[Ji]at k1 k3 k7
   have gy:cap≤cs.size:=by omega
   have gB:=run_storeCells_at P b lo e' ((ys.take n).map vI) 0 cs w k2 (by simp;omega) (by intro v hv;obtain⟨u,_,rfl⟩:=Jm.1 hv;rfl);simp only[Gv,Ji]at gB
   generalize eI:w.setRow b (cs.toList.take lo++(ys.take n).map vI++cs.toList.drop (lo+(ys.take n).length)).toArray=w' at gB
   have gE:cs.toList.length=cs.size:=rfl
   by_cases ma:cap=lo
   ·have ap:n=0:=by omega
    subst ap;refine⟨w,?_,G,?_⟩
    ·rw[g3,k1,g1]
     have g5:(Builtin.firstCells 1 0 (.slice xa ys.length c)).run P w=.ok #[] w:=by grind
     simp[zBi,Builtin.copy_,run_underlying ht.un,Builtin.lenOf,sizeOf,typeInfo,ht.info,ht.size,show hi-lo=0 by omega,g5,storeCells,ma]
    ·refine vL g9 rfl ⟨fun _ _ _=>rfl,fun _ _ _=>rfl,by grind,fun _ _ _ h _=>h,fun b cs e h=>⟨cs,h,rfl⟩⟩ g9.mem (fun s hs=>⟨by grind[Wr.find],rfl⟩) fun s t' hs=>?_
     rw[tZ]at hs;split at hs
     ·rename_i he;subst he
      simp at hs;subst hs;simpa[wQ]using g9.ent s0 _ h0
     ·cases hs
   ·refine⟨w',?_,zL1 g9 h0 gf k1 k2 k3 k4 k5 k6 k7 k8 (by rw[←eI];exact setRow_heap w b cs _ e' _ k2) ?_ (by grind[setRow_other]) (by grind[size_setRow]) (by rw[←eI];rfl) (by rw[←eI];rfl) fun i v hv=>?_⟩
    ·rw[g3,k1,g1]
     have h9:Nat.min ys.length (hi-lo)=n:=hn;simp only[zBi,ma,if_false,H4,uR,Jc,Ul];simp only[Builtin.copy_];rw[Jbe]at gB;simp[run_underlying ht.un,Builtin.lenOf,sizeOf,typeInfo,ht.info,ht.size,h9,g4,gB]
    ·grind
    ·rw[wQ,zOM _ _ _ _ (by omega)]at hv
     have h11:lo+((ys.take n).map vI).length≤cs.toList.length:=by simp;omega
     have h10:=zOM cs.toList ((ys.take n).map vI) lo i h11;rw[Ji]at h10;rw[List.getElem?_toArray,h10];have pU:=fun i u hu=>zOL k2 k8 i u hu
     by_cases c1:i<lo
     ·grind
     ·rw[if_neg c1]at hv ⊢
      by_cases c2:i<lo+(ys.take n).length
      ·rw[if_pos c2]at hv ⊢
       rw[K5,hv];rfl
      grind
 obtain⟨w',gz,G',gn⟩:=key;refine⟨_,w',?_,_,vN gn rfl (yK sd.1) (fun _=>vI n) (fun _=>rfl) (I n) (vI n) (by simp[mkV,Gh.put]) (by simp[R,Gh.put]) (by simp[Top])⟩;simp[execOp,resolve,invoke,builtin,gz,goInt]
end Go.Ab

namespace Go.Ab
open Go
theorem zJc{G G':Gh}{s d:Nat}(hd:∀z,G'.hd d z=G.hd s z):(xs:List T)→yT xs=io→ ∀(j:Nat),jP G' d (cpF s xs [] j) [] j=jP G s xs [] j
 | [],_,_=>by simp only[cpF,jP]
 |x::xs,h,j=>by
  simp only[yT,J3]at h;simp only[cpF,jP];have ef:∀ys,x≠.tup ys:=by rintro ys rfl;simp[T.okTup]at h
  have h1:=zA7 (G:=G) (G':=G') (s:=s) (d:=d) x [j] [j] ef (fun z=>hd _);have h2:∀ys,cpT s x [j]≠.tup ys:=by intro ys;cases x<;>simp[cpT]
  rw[kN _ _ _ _ h2]at h1;rw[h1,zJc hd xs h.2 (j+1)]
section
variable {P:Program}{Γ:Ctx}{E E':Env}{d:Nat}{x y:Operand}{ty:TypeId}{ps:String}{af:Array Edge}{gd:Option (Nat×Bool)}
theorem zSe{s:Nat}{ts:List T}(hx:E s=ik (.tup ts))(sd:(J6 d Γ.N&&yT ts&&(s != d)&&zKQ [(d,0)] (cpF s ts [] 0))=io):Ok P Γ ⟨ik d,.move (.tmp s),ty,ps,af,gd⟩ E (E.app [(d,ik (.tup (cpF s ts [] 0)))] [(d,0)]):=by
 simp only[J3]at sd;obtain⟨⟨⟨s1,s2⟩,s3⟩,s4⟩:=sd;have gj:s≠d:=by simpa using s3
 intro S;refine wN.value rfl fun a w G g9=>?_
 obtain⟨h1,h2,_⟩:=g9.ent s _ hx;simp only[R]at h2;have hk:=G.put_keep (w:=w) (w':=w) rfl d (fun z=>G.hd s z);have hz:∀z,(G.put d (fun z=>G.hd s z)).hd d z=G.hd s z:=fun z=>by rw[Gh.put_self]
 have tq:∀(xs:List T)(j:Nat),vP (cpF s xs [] j):=by
  intro xs
  induction xs with
  |nil=>intro j;simp only[cpF,vP]
  |cons x xs ih=>intro j;simp only[cpF,vP];exact⟨qU s x _,ih _⟩
 refine⟨mkV G s (.tup ts) [],w,?_,_,vN g9 rfl (yK s1) (fun z=>G.hd s z) (fun z=>g9.mem.one _ _) _ _ (by simp only[mkV];rw[zJc hz ts s2 0])
  (by simp only[R];exact zJD (fun p=>G.put_other _ p gj) ts [] [] 0 (fun z=>hz _) (xZ.mono (fun r p hr=>⟨hk.hd r p hr,hk.ad r p hr⟩) _ (zGN _ (tq ts 0) s4)) h2) (by simp only[Top];exact tq ts 0)⟩
 simp[execOp,wJ h1]
end
end Go.Ab

namespace Go.Ab
open Go
section
variable (ds r:Nat)
inductive zQe:Env→List (Nat×List Nat)→Env→Prop where
 |nil (E:Env):zQe E [] E
 |cons {E E':Env}{l:List (Nat×List Nat)} (j:Nat) (q:List Nat) (td td' tr tr' u:T) (hd:E ds=ik td) (hg:td.get [j]=ik (.same r q)) (hr:E r=ik tr) (hp:tr.get q.reverse=ik u) (eD:yD u)
   (mL:td.set [j] u=td') (p5:tr.set q.reverse .any=tr') (sd:(u.single&&td.okB [(ds,2),(r,q.length+1)]&&tr.okB [(ds,2),(r,q.length+1)]&&xM td&&xM tr&&(ds != r)&& !q.isEmpty)=io)
   (h:zQe (E.app [(ds,ik td'),(r,ik tr')] [(ds,2),(r,q.length+1)]) l E'):zQe E ((j,q)::l) E'
inductive zJd:Env→List (Nat×List Nat)→Env→Prop where
 |nil (E:Env):zJd E [] E
 |cons {E E':Env}{l:List (Nat×List Nat)} (j:Nat) (q:List Nat) (td td' tr tr' u v0:T) (hd:E ds=ik td) (hg:td.get [j]=ik u) (hr:E r=ik tr) (hp:tr.get q.reverse=ik v0) (eD:yD u)
   (mL:td.set [j] .any=td') (p5:tr.set q.reverse u=tr') (sd:(u.single&&v0.single&&td.okB [(r,q.length+1),(ds,2)]&&tr.okB [(r,q.length+1),(ds,2)]&&xM td&&xM tr&&(ds != r)&& !q.isEmpty)=io)
   (h:zJd (E.app [(r,ik tr'),(ds,ik td')] [(r,q.length+1),(ds,2)]) l E'):zJd E ((j,q)::l) E'
end
theorem zON{g z:List Nat}(h:g<:+z)(hn:z≠g):g.length<z.length:=by
 have h1:=h.length_le;rcases Jk g.length z.length with h2|h2
 ·exact h2
 ·exact absurd (h.eq_of_length (by omega)).symm hn
theorem zQe.rep{Γ:Ctx}{tmps:Array Value}{w:World}{ds r:Nat}{E E':Env}{l:List (Nat×List Nat)}(h:zQe ds r E l E'):∀{G:Gh},Rep Γ E G tmps w→
  ∃G',Rep Γ E' G' tmps w∧(∀z,G'.hd r z=G.hd r z)∧(∀j,G'.hd ds [j]=G.hd ds [j])∧ ∀x∈l,G.hd ds [x.1]=G.hd r x.2:=by
 induction h with
 |nil E=>intro G hr;exact⟨G,hr,fun _=>rfl,fun _=>rfl,fun x hx=>by simp at hx⟩
 |cons j q td td' tr tr' u hd hg hr hp eD mL p5 sd _ ih=>
  intro G g9;simp only[J3]at sd;obtain⟨⟨⟨⟨⟨⟨s1,s2⟩,s3⟩,s4⟩,s5⟩,s6⟩,s7⟩:=sd;have gj:ds≠r:=by simpa using s6
  have hq:q≠[]:=by rintro rfl;simp at s7
  have gQ:G.hd ds [j]=G.hd r q:=by have:=(zA6 [j] td _ [] (g9.ent ds td hd).2.1 hg).1;simpa[rp,R]using this
  obtain⟨h1,h2⟩:=zDX g9 ds [j] r q td tr u (.same r q) hd (by simpa using hg) rfl gQ hr hp s1 eD gj (by simpa using s2) (by simpa using s3) s4 s5;rw[if_neg hq,show([j]:List Nat).reverse=[j]from rfl,mL,p5]at h1;obtain⟨G',g1,g2,g3,g4⟩:=ih (by simpa using h1);have e1:∀z,(G.tr ds [j] r q).hd r z=G.hd r z:=fun z=>h2 r z (fun h=>gj h.1.symm)
  have e2:∀i,(G.tr ds [j] r q).hd ds [i]=G.hd ds [i]:=fun i=>h2 ds [i] (fun h=>by have:=zON h.2.1 h.2.2;simp at this)
  refine⟨G',g1,fun z=>by rw[g2,e1],fun i=>by rw[g3,e2],fun x hx=>?_⟩;rcases J8.1 hx with rfl|hx
  ·exact gQ
  ·have:=g4 x hx
   rw[e1,e2]at this;exact this
theorem zJd.rep{Γ:Ctx}{tmps:Array Value}{w:World}{ds r:Nat}{E E':Env}{l:List (Nat×List Nat)}(m:Nat)(h:zJd ds r E l E'):(∀x∈l,x.2.length=m)→ ∀{G:Gh},Rep Γ E G tmps w→(∀x∈l,G.hd ds [x.1]=G.hd r x.2)→ ∃G',Rep Γ E' G' tmps w:=by
 induction h with
 |nil E=>intro _ G hr _;exact⟨G,hr⟩
 | @cons E E' l j q td td' tr tr' u v0 hd hg hr hp eD mL p5 sd _ ih=>
  intro hm G g9 aX;simp only[J3]at sd;obtain⟨⟨⟨⟨⟨⟨⟨s1,s1'⟩,s2⟩,s3⟩,s4⟩,s5⟩,s6⟩,s7⟩:=sd;have gj:ds≠r:=by simpa using s6
  have hq:q≠[]:=by rintro rfl;simp at s7
  obtain⟨h1,h2⟩:=zDX g9 r q ds [j] tr td u v0 hr hp s1' (aX (j,q) (by simp)).symm hd (by simpa using hg) s1 eD (Ne.symm gj) (by simpa using s3) (by simpa using s2) s5 s4;rw[if_neg (by simp),show([j]:List Nat).reverse=[j]from rfl,mL,p5]at h1;refine ih (fun x hx=>hm x (by simp[hx])) (by simpa using h1) fun x hx=>?_
  have e1:∀z,(G.tr r q ds [j]).hd ds z=G.hd ds z:=fun z=>h2 ds z (fun h=>gj h.1)
  by_cases hz:q<:+x.2∧x.2≠q
  ·have h3:=zON hz.1 hz.2
   rw[hm x (by simp[hx]),hm (j,q) (by simp)]at h3;omega
  ·have e2:(G.tr r q ds [j]).hd r x.2=G.hd r x.2:=h2 r x.2 (fun h=>hz h.2)
   rw[e1,e2];exact aX x (by simp[hx])
theorem zGm{G G':Gh}{s:Nat}:(xs ys:List T)→(∀x∈xs,x.single=io)→(∀x∈ys,x.single=io)→xs.length=ys.length→ ∀(j:Nat),yH G s xs [] j=yH G' s ys [] j→ ∀i,i<xs.length→G.hd s [j+i]=G'.hd s [j+i]
 | [],_,_,_,_,_,_,i,hi=>by simp at hi
 |x::xs,[],_,_,hl,_,_,_,_=>by simp at hl
 |x::xs,y::ys,h1,h2,hl,j,h,i,hi=>by
  have v1:∀(G:Gh)(t:T)(p:List Nat),t.single=io→vals G s t p=[G.hd s p]:=fun G t p ht=>by cases t<;>simp[T.single]at ht<;>simp[vals]
  simp only[yH,v1 G x _ (h1 x (by simp)),v1 G' y _ (h2 y (by simp)),Lr,Jay.injEq]at h;cases i with
  |zero=>exact h.1
  |succ i=>
   have:=zGm xs ys (fun z hz=>h1 z (by simp[hz])) (fun z hz=>h2 z (by simp[hz])) (by simpa using hl) (j+1) h.2 i (by simpa using hi);rw[show j+(i+1)=j+1+i by omega];exact this
def zEJ:List T→Bool
 | []=>io
 |x::xs=>x.single&&zEJ xs
theorem zEe:{xs:List T}→zEJ xs=io→ ∀x∈xs,x.single=io
 | [],_,_,h=>by simp at h
 |x::xs,h,y,hy=>by
  simp only[zEJ,J3]at h;rcases J8.1 hy with rfl|hy
  ·exact h.1
  ·exact zEe h.2 y hy
theorem zOO{P:Program}{Γ:Ctx}{E E1 E3:Env}{d:Nat}{ty:TypeId}{ps:String}{af:Array Edge}{gd:Option (Nat×Bool)}{f:FuncId}{xs:List Operand}{ats:Array TypeId}{us res:List T}{ts ts':List T}(i ds r:Nat)(l:List (Nat×List Nat))(m:Nat)(gu:zAc P f)(hc:FnC P f us res [(i,.agg ts')])
  (gT:zQe ds r E l E1)(hs:E1 ds=ik (.agg ts))(ep:yD (.agg ts'))(cP:wZ (.agg ts')=io)(gc:xX E1 [(i,ds,.agg ts')] 0 xs us)(gm:jJ res)
  (u9:zJd ds r (E1.app (cWr d res [(i,ds,.agg ts')]) (uC d [(i,ds,.agg ts')])) l E3)
  (sd:(J6 d Γ.N&&(d != ds)&&(d != r)&&(ds != r)&&zEJ ts&&zEJ ts'&&(ts.length==ts'.length)&&(l.all fun x=>x.2.length==m&&J6 x.1 ts.length))=io)(hx:xs[i]? =ik (.tmp ds))(hu:us[i]? =ik (.agg ts)):
  Ok P Γ ⟨ik d,.call { callee:=.value (.func f),args:=xs.toArray,argTypes:=ats },ty,ps,af,gd⟩ E E3:=by
 simp only[J3]at sd;obtain⟨⟨⟨⟨⟨⟨⟨s1,s2⟩,s3⟩,s4⟩,s5⟩,s6⟩,s7⟩,s8⟩:=sd;have d1:d≠ds:=by simpa using s2
 have d2:d≠r:=by simpa using s3
 have d3:ds≠r:=by simpa using s4
 have gf:ts.length=ts'.length:=by simpa using s7
 have hl:∀x∈l,x.2.length=m∧x.1<ts.length:=fun x hx=>by have:=Kg.1 s8 x hx;simp only[J3,beq_iff_eq]at this;exact⟨this.1,yK this.2⟩
 intro S a w K Q ⟨gN,G,g9⟩ hK;refine zC1 (xf:=.func f) rfl rfl gu rfl ?_;obtain⟨G1,g1,g2,g3,g4⟩:=gT.rep g9;refine(zHj g1 (yK s1) f xs us res [(i,ds,.agg ts')] hc gc (zHi.one' (u:=.agg ts) d1 hx ep rfl cP hs hu) gm).mono ?_
 rintro e w' ⟨v,rfl,S',G',hS,hk,gn⟩
 have gL:(E1.app (cWr d res [(i,ds,.agg ts')]) (uC d [(i,ds,.agg ts')])) ds=ik (.agg ts'):=by simp[Env.app,Wr.find,cWr,d1]
 have hv:mkV G' ds (.agg ts') []=mkV G1 ds (.agg ts) []:=by have a1:=(gn.ent ds _ gL).1;have a2:=(g1.ent ds _ hs).1;rw[Jj]at a1;simp only[d1,if_false]at a1;rw[a2]at a1;exact(Ln.inj a1).symm
 simp only[mkV,Value.agg.injEq]at hv;have fK:yH G' ds ts' [] 0=yH G1 ds ts [] 0:=by simpa using congrArg Array.toList hv
 have bn:=zGm ts' ts (zEe s6) (zEe s5) gf.symm 0 fK;obtain⟨G3,hG3⟩:=u9.rep m (fun x hx=>(hl x hx).1) gn fun x hx=>by have h1:=bn x.1 (by have:=(hl x hx).2;omega);rw[Jc]at h1;have h2:G'.hd r x.2=G1.hd r x.2:=hk.hd r x.2 (fun n hn=>by simp[uC]at hn;rcases hn with⟨e,_⟩|⟨e,_⟩;exact absurd e.symm d2;exact absurd e.symm d3);rw[h1,h2,g2,g3];exact g4 x hx
 exact⟨v,rfl,hK _ _ ⟨S',hS,gN,G3,hG3⟩⟩
end Go.Ab

namespace Go.Ab
open Go
section
variable {P:Program}{Γ:Ctx}{E:Env}{d:Nat}{x:Operand}{ty:TypeId}{ps:String}{af:Array Edge}{gd:Option (Nat×Bool)}
class zVs (P:Program) (t:TypeId) (e:outParam TypeId) (ti:outParam TypeInfo) (n:outParam Nat) (k:outParam Nat):Prop where
 un:P.underlying t=ik (.array n e)
 info:P.info? e=ik ti
 size:ti.size=k
theorem zOP{t e:TypeId}{ti:TypeInfo}{n k r:Nat}{q:List Nat}{xs:List T}{u:T}(i:Nat)(ht:zVs P t e ti n k)(hx:tP E x=ik (r,q,.ptr (.agg xs)))(hu:xs[i]? =ik u)(gG:T.sizes (xs.take i)=i*k)(sd:(J6 d Γ.N&&J6 i n)=io):
  Ok P Γ ⟨ik d,.indexAddr t x (.const (.int .i64 i)),ty,ps,af,gd⟩ E (E.app [(d,ik (.addr r (i::0::q)))] [(d,0)]):=by
 simp only[J3]at sd;have gT:=yK sd.2;intro S;refine wN.value rfl fun a w G g9=>?_
 obtain⟨g1,g2⟩:=jH g9 hx rfl;simp only[R]at g1;obtain⟨b,cs,e',g4,_,_,_,g5,_⟩:=g1;simp only[Loc]at g5;have g6:=zCs xs (0::q) 0 b 0 i u g5.2 hu;simp only[Jc]at g6;have g3:a.eval (.const (.int .i64 i))=.int .i64 i:=rfl;refine⟨.pointer (ik (G.ad r (i::0::q))),w,?_,_,vN g9 rfl (yK sd.1) (fun _=>.pointer (ik (G.ad r (i::0::q)))) (fun _=>rfl) _ _ (by simp[mkV,Gh.put]) (by simp[R,Gh.put]) (by simp[Top])⟩;have gF:(i:Int)<(n:Int):=by omega
 have h0:(0:Int)≤i:=by omega
 have g7:=zBF g6;have bj:i<n:=gT;simp[execOp,Instr.indexAt,g3,g2,g4,asIntOf,run_underlying ht.un,h0,bj,sizeOf,typeInfo,ht.info,ht.size,uR,sD,g7,gG]
end
end Go.Ab
namespace Go.Ab
open Go
theorem zAR{E:Env}{ds r s:Nat}{q:List Nat}{tr u t:T}(h:E s=ik t)(gj:(Jba ds s||Jba r s)=iq:=by rfl)(hb:t.okB [(ds,1),(r,q.length+1)]=io:=by rfl):opT (vV E ds r q tr u) (.tmp s)=ik t:=by
 have h1:ds≠s:=by rintro rfl;simp at gj
 have h2:r≠s:=by rintro rfl;simp at gj
 simp[opT,vV,Env.app,Wr.find,h1,h2,h,hb]
end Go.Ab
namespace Go.Ab
open Go
section
variable {P:Program}{Γ:Ctx}{pn:jZ}{E E':Env}{Q Q1:Exit→Env→Prop}{c c1 c2:Code}{ops:Array Oper}{o:Oper}{os:List Oper}{id:Nat}
theorem sR(h:RW P Γ pn ops ops.toList E (wF P Γ pn c Q)):CW P Γ pn (.seq (.region id ops iq) c) E Q:=CW.seq (CW.region h)
theorem rN(h:CW P Γ pn c E Q):RW P Γ pn ops [] E (wF P Γ pn c Q):=RW.nil h
theorem oP(h:Ok P Γ o E E')(k:RW P Γ pn ops os E' Q)(hg:o.guard=im:=by rfl)(hp:pn.ok o.dst=io:=by rfl):RW P Γ pn ops (o::os) E Q:=RW.op h k hg hp
def zXE(ops:List Oper):List (List Nat):=(ops.foldl (fun(acc:Array (List Nat)) o=>acc.push ((zBt o).foldl (fun l m=>m::(acc.getD m [])++l) [])) #[]).toList
theorem CW.lp{σ ρ:Type}(body:σ→Option (σ⊕ρ))(en:σ→Env)(Q1:ρ→Exit→Env→Prop){s:σ}{r:ρ}(hg:zN Γ E (en s))(h:∀s x,body s=ik x→CW P Γ pn c (en s) (uE Γ en Q1 x))(hr:zI body s=ik r)(hq:∀e E',Q1 r e E'→Q e E'):CW P Γ pn (.loop c) E Q:=
 (CW.mono (CW.loop body en Q1 h hr) hq).ghost hg
end
end Go.Ab

namespace Go.Ab
open Go Go.ChangeShapes
abbrev zL2(w:World):Stb:=fun b=>w.heap[b]?
theorem zQf{w:World}{a:Addr}{n:Nat}{cs:List Value}(h:w.cells? 0 a n=ik cs):cs.length=n∧ ∀(i:Nat) v,cs[i]? =ik v→w.cell? (a.add i)=ik v:=by
 unfold World.cells? at h;rw[if_pos (Kn _)]at h;refine⟨by simpa using mapM_some_length h,fun i v hv=>?_⟩;have hi:i<n:=by grind[mapM_some_length,Le]
 rw[←hv];exact mapM_some_get h i i (by simp[hi])
theorem zOQ{w:World}{a:Addr}{v:Value}(h:w.cell? a=ik v):a.spot=im∧ ∃c e fr,w.heap[a.block]? =ik (.cells c e fr)∧c[a.off]? =ik v:=by
 simp only[World.cell?]at h;split at h
 all_goals simp_all
theorem zL3{b o m:Nat}:(Addr.mk b o im).add m=⟨b,o+m,im⟩:=by grind[Addr.add]
theorem zGn{α:Type}{Q:Nat→α→Prop}:∀(n:Nat),(∀i,i<n→ ∃x,Q i x)→ ∃xs:List α,xs.length=n∧ ∀i x,xs[i]? =ik x→Q i x
 |0,_=>by simp
 |n+1,h=>by
  obtain⟨xs,h1,h2⟩:=zGn n fun i hi=>h i (by omega)
  obtain⟨y,hy⟩:=h n (by omega);refine⟨xs++[y],by simp[h1],fun i x hx=>?_⟩
  grind
theorem zOR{St:Stb}:(xs:List T)→ ∀(cs:Array Value)(o k:Nat),(∀i x,xs[i]? =ik x→RoC St x cs (o+i*k))→RoL St xs cs o k
 | [],_,_,_,_=>by grind[RoL]
 |x::xs,cs,o,k,h=>by
  simp only[RoL];refine⟨by simpa using h 0 x rfl,zOR xs cs (o+k) k fun i y hy=>?_⟩;have:=h (i+1) y (by grind)
  grind
section
variable {P:Program}
def RdT(P:Program)(t:TypeId)(k:Nat){α:Type}(f:α→T)(V:α→Prop):Prop:=
 ∀{H:Type}(enc:TypeId×Value→H)(w:World)(fuel:Nat)(cs:List Value)(x:DataW H×List MemPlace),DataW.trod enc P w 0 (fun _=>io) io fuel t cs=ik x→
  cs.length=k→ ∃d,V d∧ ∀(A:Array Value)(o:Nat),(∀(i:Nat) v,cs[i]? =ik v→A[o+i]? =ik v)→RoC (zL2 w) (f d) A o
theorem zXF{t:TypeId}{q:IntKind}(hu:P.underlying t=ik (.int q)):RdT P t 1 (IK q) (fun n=>(Lit.int q n).wf=io):=by intro H enc w fuel cs x h _;obtain⟨n,rfl,_,hw⟩:=DataW.trod_int hu h;exact⟨n,hw,fun A o hA=>by simp only[RoC];exact⟨by simpa using hA 0 _ rfl,rfl⟩⟩
theorem zXG{α:Type}{f:α→T}{V:α→Prop}{t e:TypeId}{k:Nat}(hu:P.underlying t=ik (.slice e))(hk:P.cellsOf e=k)(f7:0<k)(h:RdT P e k f V):
  RdT P t 1 (L k f) (fun xs=>xs.length≤maxLen∧ ∀x∈xs,V x):=by
 intro H enc w fuel cs x hx _;rcases DataW.trod_slice hu hx with⟨rfl,_⟩|⟨a,len,cap,elems,rest,n,rfl,rfl,_,_,cV,ma,db,fA,_⟩
 ·refine⟨[],⟨by simp,by simp⟩,fun A o hA=>?_⟩
  simp only[RoC,U6,Jp];exact⟨im,0,by simpa using hA 0 _ rfl,Jg _,by simp[maxLen],fun h=>absurd rfl h⟩
 ·subst hk
  have key:∀i,i<len→ ∃y,V y∧ ∃cs':List Value,cs'.length=P.cellsOf e∧(∀(j:Nat) v,cs'[j]? =ik v→w.cell? ((a.add (i*P.cellsOf e)).add j)=ik v)∧
    ∀(A:Array Value)(o:Nat),(∀(j:Nat) v,cs'[j]? =ik v→A[o+j]? =ik v)→RoC (zL2 w) (f y) A o:=by
   intro i hi;have h1:=fA i hi;rw[J4 (by omega)]at h1;obtain⟨cs',h2,h3⟩:=Option.bind_eq_some_iff.1 h1;obtain⟨h4,h5⟩:=zQf h2;obtain⟨y,h6,h7⟩:=h enc w n cs' _ h3 h4;exact⟨y,h6,cs',h4,h5,h7⟩
  obtain⟨xs,hxl,fI⟩:=zGn len key;refine⟨xs,⟨by omega,fun y hy=>?_⟩,fun A o hA=>?_⟩
  ·obtain⟨i,hi,rfl⟩:=L7.1 hy
   exact(fI i _ (J4 hi)).1
  ·simp only[RoC,Ji,hxl]
   refine⟨ik a,cap,by simpa using hA 0 _ rfl,cV,ma,fun gj=>?_⟩;have py:0<xs.length:=by
    cases xs with
    |nil=>simp at gj
    |cons _ _=>simp
   obtain⟨_,cs0,g1,g2,_⟩:=fI 0 _ (J4 py);have hz:a.add (0*P.cellsOf e)=a:=by simp[Addr.add]
   have g3:=g2 0 cs0[0] (J4 (by omega));rw[hz,show a.add 0=a from by simp[Addr.add]]at g3;obtain⟨mJ,c,e',fr,hb,_⟩:=zOQ g3;obtain⟨b,off,sp⟩:=a;simp only at mJ hb;subst mJ;refine⟨b,off,c,e',fr,rfl,hb,zOR _ _ _ _ fun i y hy=>?_⟩;rw[K5,Ky]at hy;obtain⟨z,my,rfl⟩:=hy;obtain⟨_,cs',g1',g2',g4⟩:=fI i z my;refine g4 c _ fun j v hv=>?_
   have:=g2' j v hv;rw[zL3,zL3]at this;obtain⟨_,c2,e2,fr2,pO,fK⟩:=zOQ this;simp only at pO fK;rw[hb]at pO;cases pO;exact fK
theorem zKb{H:Type}{enc:TypeId×Value→H}{w:World}{t:TypeId}{fs:Array Field}{fuel:Nat}{cs:List Value}{x:DataW H×List MemPlace}(hu:P.underlying t=ik (.struct fs))(h:DataW.trod enc P w 0 (fun _=>io) io fuel t cs=ik x)
  {i j k:Nat}{f:Field}(hf:fs[i]? =ik f)(hj:f.offset=j)(hk:P.cellsOf f.type=k):∃n y,DataW.trod enc P w 0 (fun _=>io) io n f.type ((cs.drop j).take k)=ik y:=by
 obtain⟨xs,n,_,_,_,gf,fA⟩:=DataW.trod_struct hu h
 grind
end
def zQg(v:Value):Value:=if v.oneCell' then v else .bool iq
theorem zL4(v:Value):(zQg v).oneCell'=io:=by unfold zQg;split;assumption;rfl
theorem zKc{v:Value}(h:v.oneCell'=io):zQg v=v:=by simp[zQg,h]
def hd0(vs:Array Value)(s:Nat)(p:List Nat):Value:=
 match vs[s]?,p with
 |some (.agg cs),[j]=>zQg (cs[j]?.getD (.bool iq))
 |some v,[]=>zQg v
 |_,_=>.bool iq
def G0(vs:Array Value):Gh:={ hd:=hd0 vs,ad:=fun _ _=>default,lb:=fun _ _=>im,ow:=fun _=>im }
theorem yAP(w:World)(vs:Array Value):Mem ⟨zL2 w,fun _=>False,w,0⟩ (G0 vs) w where
 one s p:=by
  simp only[G0,hd0];split
  ·exact zL4 _
  ·exact zL4 _
  ·rfl
 lb b o l h:=by grind[G0]
 ow b l h:=by grind[G0]
 st b x h:=h
 fr b _ _:=rfl
 sz:=Jg _
 bk:=⟨fun b cs e h=>⟨cs,h,rfl⟩,rfl,rfl⟩
def RdA(P:Program)(t:TypeId){α:Type}(u:α→T)(V:α→Prop):Prop:=
 ∀{H:Type}(enc:TypeId×Value→H)(w:World)(base fuel:Nat)(v:Value)(x:DataW H×List MemPlace),DataW.trod enc P w 0 (fun _=>io) io fuel t v.cells.toList=ik x→
  Value.okWide P w .any base t v→ ∃d,V d∧ ∀(vs:Array Value)(s:Nat),vs[s]? =ik v→ik v=ik (mkV (G0 vs) s (u d) [])∧R (zL2 w) (G0 vs) w s (u d) []
def RdC(P:Program)(t:TypeId){α:Type}(u:α→T)(V:α→Prop):Prop:=
 ∀{H:Type}(enc:TypeId×Value→H)(w:World)(fuel:Nat)(c:Value)(x:DataW H×List MemPlace),DataW.trod enc P w 0 (fun _=>io) io fuel t [c]=ik x→
  ∃d,V d∧c.oneCell'=io∧ ∀(G:Gh)(s:Nat)(p:List Nat),G.hd s p=c→vals G s (u d) p=[c]∧R (zL2 w) G w s (u d) p
section
variable {P:Program}
theorem zXH{t:TypeId}{q:IntKind}(hu:P.underlying t=ik (.int q)):RdC P t (IK q) (fun n=>(Lit.int q n).wf=io):=by intro H enc w fuel c x h;obtain⟨n,h1,_,hw⟩:=DataW.trod_int hu h;simp only[Jay.injEq,and_true]at h1;subst h1;exact⟨n,hw,rfl,by grind[vals,R]⟩
theorem zZh{α:Type}{f:α→T}{V:α→Prop}{t:TypeId}(h:RdT P t 1 f V)(h1:∀{H:Type}(enc:TypeId×Value→H)(w:World)(fuel:Nat)(c:Value)(x:DataW H×List MemPlace),DataW.trod enc P w 0 (fun _=>io) io fuel t [c]=ik x→c.oneCell'=io):
  RdC P t (fun x=>T.ro (f x)) V:=by
 intro H enc w fuel c x hx;obtain⟨d,g1,g2⟩:=h enc w fuel [c] x hx rfl
 grind[vals,R]
theorem zXI{α:Type}{f:α→T}{V:α→Prop}{t e:TypeId}{k:Nat}(hu:P.underlying t=ik (.slice e))(hk:P.cellsOf e=k)(f7:0<k)(h:RdT P e k f V):RdC P t (fun xs=>T.ro (L k f xs)) (fun xs=>xs.length≤maxLen∧ ∀x∈xs,V x):=
 zZh (zXG hu hk f7 h) fun enc w fuel c x hx=>by
  rcases DataW.trod_slice hu hx with⟨h1,_⟩|⟨a,len,cap,_,_,_,_,h1,_⟩<;>
  ·simp only[Jay.injEq,and_true]at h1
   subst h1;rfl
theorem zI4{w:World}{base:Nat}{t:TypeId}{fs:Array Field}{v:Value}(hu:P.underlying t=ik (.struct fs))(h:Value.okWide P w .any base t v):∃cs,v=.agg cs∧cs.size=P.cellsOf t:=by grind[Value.okWide]
theorem zWH{α β γ δ:Type}{ua:α→T}{ub:β→T}{uc:γ→T}{Va:α→Prop}{Vb:β→Prop}{Vc:γ→Prop}{t:TypeId}{f0 f1 f2:Field}(mk:α→β→γ→δ){u:δ→T}{V:δ→Prop}
  (hu:P.underlying t=ik (.struct #[f0,f1,f2]))(hc:P.cellsOf t=3)(h0:f0.offset=0∧P.cellsOf f0.type=1)(h1:f1.offset=1∧P.cellsOf f1.type=1)(h2:f2.offset=2∧P.cellsOf f2.type=1)
  (ra:RdC P f0.type ua Va)(rb:RdC P f1.type ub Vb)(rc:RdC P f2.type uc Vc)(hmk:∀a b c,u (mk a b c)=T.agg [ua a,ub b,uc c])(hV:∀a b c,Va a→Vb b→Vc c→V (mk a b c)):RdA P t u V:=by
 intro H enc w base fuel v x hx gC;obtain⟨cs,rfl,gy⟩:=zI4 hu gC;obtain⟨l,rfl⟩:∃l:List Value,cs=l.toArray:=⟨cs.toList,by simp⟩;rw[hc,Jbt]at gy;obtain⟨c0,c1,c2,rfl⟩:∃a b c,l=[a,b,c]:=by
  match l,gy with
  | [a,b,c],_=>simp
 simp only[Value.cells]at hx;obtain⟨n0,y0,g0⟩:=zKb hu hx (i:=0) rfl h0.1 h0.2;obtain⟨n1,y1,g1⟩:=zKb hu hx (i:=1) rfl h1.1 h1.2;obtain⟨n2,y2,g2⟩:=zKb hu hx (i:=2) rfl h2.1 h2.2;simp only[List.drop_succ_cons,Gf,Lf,Ka]at g0 g1 g2;obtain⟨a,a1,a2,a3⟩:=ra enc w n0 c0 _ g0;obtain⟨b,b1,b2,b3⟩:=rb enc w n1 c1 _ g1;obtain⟨c,e1,e2,e3⟩:=rc enc w n2 c2 _ g2;refine⟨mk a b c,hV a b c a1 b1 e1,fun vs s cY=>?_⟩;have k0:(G0 vs).hd s [0]=c0:=by simp[G0,hd0,cY,zKc a2]
 have k1:(G0 vs).hd s [1]=c1:=by simp[G0,hd0,cY,zKc b2]
 have k2:(G0 vs).hd s [2]=c2:=by simp[G0,hd0,cY,zKc e2]
 rw[hmk];simp only[mkV,yH,(a3 _ _ _ k0).1,(b3 _ _ _ k1).1,(e3 _ _ _ k2).1,K4,Jx,R,RF]
 simp_all
end
theorem FnC.top{P:Program}{f:FuncId}{us:List T}(h:FnC P f us [B io] []){w:World}{vs:Array Value}(gy:vs.size=us.length)
  (ha:∀(i:Nat) u,us[i]? =ik u→vs[i]? =ik (mkV (G0 vs) i u [])∧R (zL2 w) (G0 vs) w i u []):
  Calls P f vs w fun e w'=>e=.returned (.bool io)∧w'.os=w.os∧w'.output=w.output∧w.heap.size≤w'.heap.size∧ ∀b,b<w.heap.size→w'.heap[b]? =w.heap[b]?:=by
 refine(h (zL2 w) (fun _=>False) w (G0 vs) vs gy (fun i u hu=>?_) (yAP w vs)).mono fun e w'=>?_
 ·obtain⟨h1,h2⟩:=ha i u hu
  refine⟨?_,h2⟩;rw[h1]
 ·rintro⟨S',G',nd,_,he,hm,cS,hr,_,_⟩
  match nd,cS with
  | [(s,p,t)],cS=>
   simp only[Jo,U6,Jay.injEq,and_true]at cS;subst cS;have:=(hr (s,p,B io) (by simp)).1;simp only[R]at this;exact⟨by rw[he];simp only[zLh,sQ,this],hm.bk.os,hm.bk.out,hm.sz,fun b hb=>hm.fr b hb (fun h=>h)⟩
theorem zDH{H:Type}{enc:TypeId×Value→H}{P:Program}(hl:laidOutB P=io){W W':World}{sp:Nat→Bool}:∀{ts:List TypeId}{vs:List Value}{ds:List (DataW H)}{ps:List MemPlace},(∀t∈ts,P.readableRec t=io∧t<P.types.size)→
  DataW.TrodAll enc P W 0 (fun _=>io) io ts vs ds ps→(∀p∈ps,W.sameAt W' p)→(∀p∈ps,sp p.block=io)→DataW.TrodAll enc P W' 0 sp io ts vs ds ps
 | [],[],[],_,_,h,_,_=>h
 |t::ts,v::vs,d::ds,ps,hr,h,h1,h2=>by
  obtain⟨p,q,g1,g2,rfl⟩:=h;exact⟨p,q,by grind[Go.WideElems.Trod_stays],
   zDH hl (by grind) g2 (by grind) (by grind),rfl⟩
 | [],_::_,_,_,_,h,_,_| [],[],_::_,_,_,h,_,_|_::_,[],_,_,_,h,_,_|_::_,_::_,[],_,_,h,_,_=>h.elim
theorem zNr{C:Checked}{os:Os}(own:ownKnob C.prog.godebug=im)(started:os.Started){f:FuncId}{fn:Func}(noInit:C.prog.inits.idxOf? f=im)(ux:C.prog.funcs[f]? =ik fn){H:Type}{enc:TypeId×Value→H}{s:ChangeSpec}{conds:List PathCond}{apart fresh handsOn again:Bool}
  (witness:∃(w:World)(tape:Tape)(i:Input),w.os=os∧(w.forCall tape i).Shaped C.prog∧i.vars=[]∧Input.okWide C.prog (w.forCall tape i) .any w.heap.size f i∧
   s.pre6 enc C.prog fn conds apart (w.forCall tape i).memory i.args∧Assume.holds {} C.prog (lone (Frame.enter C.prog f i.args .normal) [] (w.forCall tape i)))
  (hs:∀(l:List (DataW H)),l.length=fn.params.size→(s.fn H l).results=[.lit (.bool io)]∧(s.fn H l).args=l∧(s.fn H l).vars=[])(me:s.vars=[]){tb:TypeId}(fa:fn.resultTypes= #[tb])(hb:C.prog.underlying tb=ik .bool)
  (laid:laidOutB C.prog=io)(hread:fn.params.toList.all (fun t=>C.prog.readableRec t&&decide (t<C.prog.types.size))=io)
  (law:∀(W:World)(base:Nat)(args:Array Value)(ds:List (DataW H))(p:List MemPlace),(∀(j:Nat) t v,fn.params[j]? =ik t→args[j]? =ik v→Value.okWide C.prog W .any base t v)→
   DataW.TrodAll enc C.prog W 0 (fun _=>io) io fn.params.toList args.toList ds p→
   ∃us:List T,args.size=us.length∧FnC C.prog f us [B io] []∧ ∀(i:Nat) u,us[i]? =ik u→args[i]? =ik (mkV (G0 args) i u [])∧R (zL2 W) (G0 args) W i u []):
  ReturnsInHanded {} C os f .any (s.pre6 enc C.prog fn conds apart) (s.post enc C.prog fn apart fresh handsOn again):=by
 refine returnsInHanded_of_change (C:=C) own started noInit ux witness ?_;intro W base args ds gs before hval hW _ _;have hW':=hW;obtain⟨p,q,hA,hV,hbq,hfz,cS⟩:=hW;obtain⟨us,h1,h2,h3⟩:=law W base args ds p hval hA;have hl:ds.length=fn.params.size:=by
  have:∀{ts:List TypeId}{vs:List Value}{ds:List (DataW H)}{p:List MemPlace},DataW.TrodAll enc C.prog W 0 (fun _=>io) io ts vs ds p→ds.length=ts.length:=by
   intro ts
   induction ts with
   |nil=>intro vs ds p h;cases vs<;>cases ds<;>first|rfl|exact h.elim
   |cons t ts ih=>intro vs ds p h;cases vs<;>cases ds<;>first|exact h.elim|(obtain⟨_,_,_,g,_⟩:=h;simp[ih g])
  grind
 rw[me]at hV;have hq:gs=[]∧q=[]:=by
  cases gs with
  |nil=>exact⟨rfl,hV⟩
  |cons _ _=>exact hV.elim
 obtain⟨rfl,rfl⟩:=hq;have gF:=hW'.lt;refine(h2.top h1 h3).mono fun e w' ⟨he,ho,hq,gy,hh⟩=>⟨_,he,?_⟩
 have gQ:∀p∈before,W.sameAt w' p:=fun p hp=>by
  have:=gF p hp;cases p with
  |cell b off=>simp only[World.sameAt,World.cell?,hh b this]
  |map b=>exact hh b this
 obtain⟨k1,k2,k3⟩:=hs ds hl;have hbp:before=p:=by grind
 subst hbp;have gw:∀t∈fn.params.toList,C.prog.readableRec t=io∧t<C.prog.types.size:=by grind
 have gm:∀(b:Nat)(sp:Nat→Bool)(hd:Bool),DataW.TrodAll enc C.prog w' b sp hd fn.resultTypes.toList ((Value.bool io).resultList fn.resultTypes.size) (s.fn H (ds++[])).results []:=fun b sp hd=>by rw[fa,Jd,k1];exact⟨[],[],⟨1,by simp[DataW.trod,hb,Value.cells]⟩,⟨rfl,rfl⟩⟩
 have gc:∀sp:Nat→Bool,(∀p∈before,sp p.block=io)→DataW.TrodAll enc C.prog w' 0 sp io fn.params.toList args.toList (s.fn H (ds++[])).args before:=fun sp mJ=>by rw[Jd,k2];exact zDH laid gw hA gQ mJ
 have ta:∀sp:Nat→Bool,DataW.TrodVars enc C.prog w' sp s.vars (s.fn H (ds++[])).vars []:=fun sp=>by rw[me,Jd,k3];rfl
 have gI:∀p∈before,(fun b=>decide (b<W.heap.size)) p.block=io:=by grind
 have bp:∀p∈before,∀o,w'.frozen? ⟨p.block,o,im⟩=W.frozen? ⟨p.block,o,im⟩:=fun p hp o=>by simp only[World.frozen?,hh _ (gF p hp)]
 refine⟨ds,[],before,[],before,[],hW',gm _ _ _,gc _ gI,ta _,⟨ho,hq,fun i hi=>?_⟩,fun _=>⟨fun j t r hj hr=>?_,_,_,([]++before)++[],⟨[]++before,[],trodAll_append (gc _ (fun _ _=>rfl)) (gm _ _ _),ta _,rfl,fun b off hp=>?_,fun ha=>?_⟩,fun p hp _=>?_⟩⟩
 ·rw[hh i hi]
  cases hx:W.heap[i]? with
  |none=>rfl
  |some o=>cases o<;>simp
 ·rw[fa]at hj hr
  match j,hj,hr with
  |0,hj,hr=>
   simp[Value.resultList]at hj hr;subst hj;subst hr;simp[Value.okWide,hb,Cell.okWide,Cell.ok]
 ·have cR:MemPlace.cell b off∈before:=by grind
  exact(bp _ cR off).trans (hfz b off cR)
 ·grind
 grind
end Go.Ab

namespace Go.Ab
open Go
def jR(hs:List Nat)(E:Env):Prop:=∀s,hs.contains s=io→ ∃t,E s=ik t∧zAu t=io
def zXJ(hs:List Nat)(z:Nat×Option T):Bool:=!hs.contains z.1||match z.2 with
 |some t=>zAu t
 |none=>iq
def wrS(hs:List Nat)(X:Stp):Bool:=X.l.all fun y=>y.1.all (zXJ hs)
theorem zL5{s:Nat}{x:Option T}:∀{wr:Wr},wr.find s=ik x→(s,x)∈wr
 | [],h=>by grind[Wr.find]
 |(k,y)::wr,h=>by
  simp only[Wr.find]at h;split at h
  ·grind
  ·exact Gi _ (zL5 h)
theorem jR.apps{hs:List Nat}:∀(l:zEC)(E:Env),jR hs E→(l.all fun y=>y.1.all (zXJ hs))=io→jR hs (E.apps l)
 | [],_,h,_=>h
 |x::l,E,h,hw=>by
  simp only[Jbi,J3]at hw;refine jR.apps l (E.app x.1 x.2) (fun s gJ=>?_) hw.2;obtain⟨t,he,ht⟩:=h s gJ;unfold Env.app;cases hf:x.1.find s with
  |some y=>
   have h1:=Kg.1 hw.1 _ (zL5 hf);simp only[zXJ,gJ,K0,Bool.false_or]at h1
   grind
  |none=>grind[tF]
theorem jR.runD{hs:List Nat}:∀(l:List (Bool×Stp))(E:Env),jR hs E→(∀y∈l,wrS hs y.2=io)→jR hs (runD E l)
 | [],_,h,_=>h
 |(b,X)::l,E,h,hw=>by
  simp only[Go.Ab.runD];refine jR.runD l _ ?_ fun y hy=>hw y (by simp[hy])
  cases b with
  |true=>exact jR.apps X.l E h (hw (io,X) (by simp))
  |false=>exact h
section
variable {P:Program}{Γ:Ctx}{pn:jZ}{E E':Env}{Q:Exit→Env→Prop}{ops:Array Oper}{o:Oper}{os:List Oper}{id:Nat}{wr:Wr}{chg:Chg}{hs:List Nat}
def zHw(P:Program)(Γ:Ctx)(pn:jZ)(ops:Array Oper)(o:Oper)(E E':Env):Prop:=
 ∀(a:Act)(w:World)(K:Act→World→Prop)(Q:Exit→Act→World→Prop),pn.Hold a→jG Γ E a w→(∀a' w',jG Γ E' a' w'→(∀s,o.dst≠ik s→a'.tmps[s]? =a.tmps[s]?)→K a' w')→
  if Region.wanted o (yielded ops a.tmps)then o.wp P a w K Q∨(o.asks P a w∧LetsOut Q)else K (a.put o.dst undef) w
def vR(P:Program)(Γ:Ctx)(pn:jZ)(hs:List Nat)(ops:Array Oper):List Oper→List Stp→Prop
 | [],[]=>True
 |o::os,X::Xs=>(∀E:Env,E.Has X.rd→jR hs E→zHw P Γ pn ops o E (E.apps X.l))∧vR P Γ pn hs ops os Xs
 |_,_=>False
theorem vR.get:∀(os:List Oper)(Xs:List Stp),vR P Γ pn hs ops os Xs→os.length=Xs.length∧ ∀(i:Nat)(o:Oper)(X:Stp),os[i]? =ik o→Xs[i]? =ik X→ ∀E:Env,E.Has X.rd→jR hs E→zHw P Γ pn ops o E (E.apps X.l)
 | [],[],_=>by simp
 |o::os,X::Xs,h=>by
  obtain⟨h1,h2⟩:=vR.get os Xs h.2;refine⟨by simp[h1],fun i o' X' ho hX=>?_⟩;cases i with
  |zero=>simp at ho hX;subst ho hX;exact h.1
  |succ i=>exact h2 i o' X' (by simpa using ho) (by simpa using hX)
 | [],_::_,h=>by simp[vR]at h
 |_::_,[],h=>by simp[vR]at h
theorem vR.snoc{X:Stp}:∀(os:List Oper)(Xs:List Stp),vR P Γ pn hs ops os Xs→(∀E:Env,E.Has X.rd→jR hs E→zHw P Γ pn ops o E (E.apps X.l))→vR P Γ pn hs ops (os++[o]) (Xs++[X])
 | [],[],_,h=>⟨h,trivial⟩
 |_::os,_::Xs,h1,h=>⟨h1.1,vR.snoc os Xs h1.2 h⟩
 | [],_::_,h,_=>by simp[vR]at h
 |_::_,[],h,_=>by simp[vR]at h
theorem sZ.snoc{X:Stp}:∀(Xs:List Stp)(E:Env),sZ E Xs→(runD E (Xs.map fun y=>(io,y))).Has X.rd→sZ E (Xs++[X])
 | [],_,_,h=>⟨by grind[runD],trivial⟩
 |_::Xs,_,h1,h=>⟨h1.1,sZ.snoc Xs _ h1.2 (by simpa[runD]using h)⟩
theorem zKd{E0:Env}{ez:List Nat}{Xs:List Stp}{an:List (List Nat)}{Q':Exit→Act→World→Prop}(hf:zAP 0 ops.toList=io)(ha:zAr an an ops.toList=io)(hp:kA Xs 0 an Xs=io)
  (gB:vR P Γ pn ez ops ops.toList Xs)(hI:jR ez E0)(hw:Xs.all (wrS ez)=io)(hh:sZ E0 Xs)(ah:ops.toList.all (fun o=>pn.ok o.dst)=io)(hQ:∀a' w',jG Γ (runD E0 (Xs.map fun y=>(io,y))) a' w'→pn.Hold a'→Q' .normal a' w'):
  ∀(fuel:Nat)(L:List Bool)(a:Act)(w:World),L.length=ops.size→L.count iq=fuel→zRP ops L→jG Γ (runD E0 (L.zip Xs)) a w→pn.Hold a→wpAny P .any ops Q' fuel L.toArray a w:=by
 obtain⟨gf,mh⟩:=vR.get _ _ gB;have mq:Xs.length=ops.size:=by grind
 intro fuel
 induction fuel with
 |zero=>
  intro L a w hL hcnt gE hs fR;have pH:∀b∈L,b=io:=by grind
  have ii:L=J1 ops.size io:=by rw[←hL];exact List.eq_replicate_iff.2 ⟨rfl,pH⟩
  refine⟨?_,?_⟩
  ·apply List.eq_nil_iff_forall_not_mem.2
   intro j hj;obtain⟨h1,o,ho,_⟩:=mem_ready.1 hj;have gF:=(Kz.1 ho).1;rw[ii]at h1;simp[gF]at h1
  ·refine hQ a w ?_ fR
   have:L.zip Xs=Xs.map fun y=>(io,y):=by
    rw[ii,←mq]
    clear hs hL ii pH hcnt gE gB hw hh hp gf mq mh hQ
    induction Xs with
    |nil=>rfl
    |cons X Xs ih=>simp[Jq,ih]
   grind
 |succ fuel ih=>
  intro L a w hL hcnt gE hs fR;refine⟨fun hr=>?_,fun i hi=>?_⟩
  ·
   exfalso
   have cI:∃m:Nat,L[m]? =ik iq:=by
    have:iq∈L:=by grind
    grind[Ja1]
   obtain⟨m,hm,eF⟩:=zDE cI;have hmlt:=(Jn.1 hm).1;have d6:ops[m]? =ik ops[m]:=by simp
   have:m∈Region.ready .any ops L.toArray:=by
    refine mem_ready.2 ⟨by simp_all,ops[m],d6,fun e he hb=>?_⟩;have hpm:e.on∈zBt ops[m]:=by
     simp only[zBt,Jm,Jbl]
     grind
    have gF:=zG6 ops.toList 0 m _ hf (by simp) _ hpm;rw[Jc]at gF;cases hL1:L[e.on]? with
    |none=>grind
    |some b=>
     cases b with
     |false=>grind
     |true=>simp_all
   grind
  ·obtain⟨h1,o,ho,pH⟩:=mem_ready.1 hi
   have gF:=(Kz.1 ho).1;have hLi:L[i]? =ik iq:=by simp_all
   have ck:∀m∈zBt o,L[m]? =ik io:=by
    intro m hm;simp only[zBt,Jm,Jbl]at hm;obtain⟨e,⟨he,hb⟩,rfl⟩:=hm;have:=pH e (by grind) hb;cases hL1:L[e.on]? with
    |none=>grind
    |some b=>simp_all
   have hanc:=zHo hf ha gE i i (Jg _) o ho ck;have bW:Xs[i]? =ik Xs[i]:=by simp
   generalize hXe:Xs[i]=X at bW
   have aB:∀(j:Nat)(Y:Stp),Xs[j]? =ik Y→i<j→L[j]? =ik io→X.apart Y=io:=by
    intro j Y hY gO hj;rcases zF6 Xs Xs 0 an j Y hp hY i X (by omega) bW with h|h
    ·have hjlt:=(Jn.1 hY).1
     have hoj:ops[j]? =ik ops[j]:=by simp
     have:=zHo hf ha gE j j (Jg _) _ hoj (gE j _ hoj hj) i h
     grind
    ·exact h
   have br:∀(j:Nat)(Y:Stp),Xs[j]? =ik Y→j<i→L[j]? =ik iq→Y.apart X=io:=by grind[zF6]
   have px:∀y∈(L.take i).zip (Xs.take i),∃j:Nat,j<i∧L[j]? =ik y.1∧Xs[j]? =ik y.2:=by
    intro y hy;obtain⟨j,g1,g2⟩:=zJW hy;rw[Jcp]at g1 g2
    grind
   have mm:∀y∈(L.drop (i+1)).zip (Xs.drop (i+1)),∃j:Nat,i<j∧L[j]? =ik y.1∧Xs[j]? =ik y.2:=by
    intro y hy;obtain⟨j,g1,g2⟩:=zJW hy;rw[Lz]at g1 g2
    grind
   have mJ:=zIY hLi bW;have uu:(runD E0 (L.zip Xs)).Has X.rd:=by
    rw[mJ,kP];simp only[runD,Hu,if_false];have h0:=sZ.get Xs E0 hh i X bW;refine h0.of fun s t gB ez=>?_
    have aX:s∈X.rd.map (·.1):=by grind
    refine zIX _ _ (fun y hy hb=>?_) ?_
    ·obtain⟨j,g1,g2,g3⟩:=mm y hy
     have:=Stp.apart_spec (aB j y.2 g3 g1 (by rw[g2,hb]));exact⟨by grind,by grind⟩
    ·have hmp:((L.take i).zip (Xs.take i)).map (fun y=>(io,y.2))=(Xs.take i).map fun y=>(io,y):=by
      have pM:(L.take i).length=(Xs.take i).length:=by simp;omega
      rw[show(fun y:Bool×Stp=>(io,y.2))=(fun y=>(io,y))∘Prod.snd from rfl,←Jak,List.map_snd_zip (by omega)]
     refine zIW _ E0 E0 (fun y hy hb gJ=>?_) (fun _ h=>h) t (by grind);obtain⟨j,g1,g2,g3⟩:=px y hy;have:=Stp.apart_spec (br j y.2 g3 g1 (by rw[g2,hb]))
     grind
   have hnext:runD E0 ((L.set i io).zip Xs)=(runD E0 (L.zip Xs)).apps X.l:=by
    have hLs:(L.set i io)[i]? =ik io:=by grind
    rw[zIY hLs bW,mJ,kP,kP];simp only[runD,if_true,Hu,if_false,List.take_set_of_le (Jg i),List.drop_set_of_lt (Nat.lt_succ_self i)];refine zF5 _ X _ fun y hy hb=>?_
    obtain⟨j,g1,g2,g3⟩:=mm y hy;exact(Stp.apart_spec (by grind)).1
   have dz:=mh i o X (by grind) bW _ uu (jR.runD (L.zip Xs) E0 hI fun y hy=>Kg.1 hw _ (by obtain⟨j,_,g⟩:=zJW hy;grind));unfold wpOp;simp only[ho];refine dz a w _ Q' fR hs fun a' w' gJ bp=>?_
   rw[List.setIfInBounds_toArray];have gC:pn.ok o.dst=io:=by grind
   refine ih (L.set i io) a' w' (by simp[hL]) (by grind) ?_ (by grind) (fR.frame gC bp);intro k ok hk hkt m hm
   by_cases hki:k=i
   ·subst hki
    rw[ho]at hk;simp at hk;subst hk;rw[Jbu];split
    ·grind
    grind
   ·rw[Jd4 (Ne.symm hki)]at hkt
    rw[Jbu];split
    ·grind
    ·exact gE k ok hk hkt m hm
theorem CW.drawnI{ez:List Nat}{id:Nat}{E:Env}{Q:Exit→Env→Prop}(Xs:List Stp)(an:List (List Nat))(hm:P.follows .mixedOrders=io)(gB:vR P Γ pn ez ops ops.toList Xs)(hI:jR ez E)(hw:Xs.all (wrS ez)=io)(hh:sZ E Xs)
  (hQ:Q .normal (runD E (Xs.map fun y=>(io,y))))(hf:zAP 0 ops.toList=io:=by rfl)(ha:zAr an an ops.toList=io:=by rfl)(hp:kA Xs 0 an Xs=io:=by rfl)
  (ah:ops.toList.all (fun o=>pn.ok o.dst)=io:=by rfl):CW P Γ pn (.region id ops io) E Q:=by
 intro a w Q' hs fR hQ';refine wp_region_any hm ?_;have gJ:jG Γ E a { w with drawn:=w.drawn+1 }:=by obtain⟨S,hS,gN,G,hr⟩:=hs;exact⟨S,hS,gN,G,hr.heap rfl⟩
 have:=zKd (P:=P) (Γ:=Γ) (pn:=pn) (E0:=E) (Q':=Q') hf ha hp gB hI hw hh ah (by grind) ops.size (J1 ops.size iq) a { w with drawn:=w.drawn+1 } (by simp) (by simp)
  (fun i o ho hi=>by
   grind) (by
   have:runD E ((J1 ops.size iq).zip Xs)=E:=by
    generalize ops.size=n
    clear gB hI hw hh hQ hf ha hp gJ
    induction n generalizing Xs with
    |zero=>simp[runD]
    |succ n ih=>
     cases Xs with
     |nil=>simp[runD]
     |cons X Xs=>simpa[Jq,runD]using ih Xs
   grind) fR
 grind
def DK(P:Program)(Γ:Ctx)(pn:jZ)(ops:Array Oper)(id:Nat)(hs:List Nat)(E0:Env)(Q:Exit→Env→Prop)(os:List Oper)(E:Env)(acc:List Stp):Prop:=
 ∀don,don++os=ops.toList→vR P Γ pn hs ops don acc.reverse→sZ E0 acc.reverse→E=runD E0 (acc.reverse.map fun y=>(io,y))→CW P Γ pn (.region id ops io) E0 Q
variable {E0:Env}{acc:List Stp}
theorem CW.dk(h:DK P Γ pn ops id [] E Q ops.toList E []):CW P Γ pn (.region id ops io) E Q:=h [] rfl trivial trivial rfl
theorem CW.dkS(hs:List Nat)(h:DK P Γ pn ops id hs E Q ops.toList E []):CW P Γ pn (.region id ops io) E Q:=h [] rfl trivial trivial rfl
theorem dGP(rd:List (Nat×T))(l:zEC)(gw:E.Has rd)(gB:∀E':Env,E'.Has rd→jR hs E'→zHw P Γ pn ops o E' (E'.apps l))(k:DK P Γ pn ops id hs E0 Q os (E.apps l) (⟨rd,l⟩::acc)):DK P Γ pn ops id hs E0 Q (o::os) E acc:=by
 intro don hd hso hh hE;subst hE;have hr:=fun X=>Jbd (a:=X) (as:=acc)
 refine k (don++[o]) (by simp[hd]) ?_ ?_ ?_
 ·grind[vR.snoc]
 ·grind[sZ.snoc]
 ·rw[hr,L8,kP];rfl
theorem dGS(rd:List (Nat×T))(l:zEC)(gw:E.Has rd)(gB:∀E':Env,E'.Has rd→jR hs E'→zW P Γ ops o E' (E'.apps l))(k:DK P Γ pn ops id hs E0 Q os (E.apps l) (⟨rd,l⟩::acc)):DK P Γ pn ops id hs E0 Q (o::os) E acc:=
 dGP rd l gw (fun E' h h' a w K Q _=>gB E' h h' a w K Q) k
theorem dG(rd:List (Nat×T))(l:zEC)(gw:E.Has rd)(gB:∀E':Env,E'.Has rd→zW P Γ ops o E' (E'.apps l))(k:DK P Γ pn ops id hs E0 Q os (E.apps l) (⟨rd,l⟩::acc)):DK P Γ pn ops id hs E0 Q (o::os) E acc:=
 by grind[dGS]
def zSf(hs:List Nat)(E:Env):Bool:=hs.all fun s=>match E s with
 |some t=>zAu t
 |none=>iq
theorem zSg(h:zSf hs E=io):jR hs E:=by
 intro s gJ;have h1:=Kg.1 h s (by grind)
 grind
theorem dN(an:List (List Nat))(hm:P.follows .mixedOrders=io)(hQ:Q .normal E)(hf:zAP 0 ops.toList=io:=by rfl)(ha:zAr an an ops.toList=io:=by rfl)(hp:kA acc.reverse 0 an acc.reverse=io:=by rfl)
  (ah:ops.toList.all (fun o=>pn.ok o.dst)=io:=by rfl)(hh0:zSf hs E0=io:=by rfl)(hw:acc.reverse.all (wrS hs)=io:=by rfl):DK P Γ pn ops id hs E0 Q [] E acc:=by
 intro don hd gB hh hE
 grind[CW.drawnI,zSg]
end
end Go.Ab
