/- x -/
import Derived.Test.YtchnmobojdcikaaGreatQAbA
import Derived.Laws.CopyRow
import Derived.ProofKit
open List renaming replicate→J1,getElem?_eq_getElem→J7,mem_map→Ja,getElem?_eq_some_iff→Jb,range→Jf,getElem?_append_right→Jg,append_assoc→Jh,length_append→Ji,append_nil→Jk,map_cons→Jl,mem_cons→Jq,mem_iff_getElem→Js,all_eq_true→Jt,length_map→Ju,nil_append→Jy,getElem?_map→Jz,eq_nil_of_length_eq_zero→K4,mem_append→K6,getElem?_append→Kg,length_cons→Ki,length_take→Kl,nodup_cons→Km,reverse_reverse→Ks,replicate_succ→L1,mem_of_getElem?→L4,getElem?_append_left→L6,take_succ_cons→L7,flatMap_cons→Lb,getElem?_drop→Lg,contains_eq_mem→Li,getElem?_take→Lo,reverse_nil→H2,length_nil→H7,map_append→Hk,reverse_cons→Hp,map_nil→G5,map_set→Gf,cons_append→Gi,map_take→Gj,all_cons→Gk,range'→U1,mem_filter→U4,length_range→U5,find?_cons_of_neg→Uc,mem_iff_getElem?→Ue,mem_cons_of_mem→Uk,getLast?_append→Ul,dropLast_concat→Um,getElem?_set_self→Uy,find?_eq_none→Uz,map_drop→Qm,getElem?_set→Qn,set_set→Qq,range'_succ→Qr,cons→Qs,getElem?_cons_succ→Qy,getD→Ja8,map_map→Jah
open Bool renaming and_eq_true→J2,not_true→J5,not_false→Jr,and_self→Ku,false_eq_true→Lu,not_eq_true'→Hq,true_and→Uo
open Nat renaming blt→J3,zero_add→J8,le_refl→Jd,zero_le→Kd,mul_le_mul_right→Kf,succ_mul→Kx,add_assoc→Ll,beq→Lv,mul_comm→H5,le_trans→H6,mul_one→Hv,ble→Ud,sub_zero→Qw,add_zero→Qx
open Array renaming getElem?_setIfInBounds→Jc,length_toList→Ka,getD_eq_getD_getElem?→Kc,getElem?_toList→Kh,getElem?_eq_some_iff→Hd,replicate→Gt
open Option renaming map_eq_some_iff→Ke,some→Lw,getD_some→Gu,map_some→Gx,map_eq_none_iff→U3,bind_eq_some_iff→U8
open Prod renaming mk→Ja1
open Option renaming some→dq,none→dt
open Bool renaming true→du,false→dv
namespace Go.Ab
open Go
abbrev Rw:=List (Nat×Nat×T)
def rwI(rw:Rw)(s:Nat):Option Nat:=(rw.find? fun x=>x.2.1==s).map (·.1)
def rwS(rw:Rw)(i:Nat):Option Nat:=(rw.find? fun x=>x.1==i).map (·.2.1)
theorem zCc:(rw:Rw)→(rw.map (·.2.1)).Nodup→ ∀{i s:Nat}{u:T},(i,s,u)∈rw→rwI rw s=dq i
 | [],_,_,_,_,h=>by simp at h
 |(i0,s0,u0)::rw,hn,i,s,u,h=>by
  simp only[Jl,Km,Ja]at hn;rcases Jq.1 h with h|h
  ·simp at h;obtain⟨rfl,rfl,rfl⟩:=h;simp[rwI]
  ·have gf:s0≠s:=fun e=>hn.1 ⟨_,h,e.symm⟩
   have:=zCc rw hn.2 h;simp only[rwI]at this ⊢
   rw[Uc (by simpa using gf)];exact this
theorem zJ9:(rw:Rw)→(rw.map (·.1)).Nodup→ ∀{i s:Nat}{u:T},(i,s,u)∈rw→rwS rw i=dq s
 | [],_,_,_,_,h=>by simp at h
 |(i0,s0,u0)::rw,hn,i,s,u,h=>by
  simp only[Jl,Km,Ja]at hn;rcases Jq.1 h with h|h
  ·simp at h;obtain⟨rfl,rfl,rfl⟩:=h;simp[rwS]
  ·have gf:i0≠i:=fun e=>hn.1 ⟨_,h,e.symm⟩
   have:=zJ9 rw hn.2 h;simp only[rwS]at this ⊢
   rw[Uc (by simpa using gf)];exact this
theorem zJA{rw:Rw}{s:Nat}(h:s∉rw.map (·.2.1)):rwI rw s=dt:=by simp only[rwI,U3,Uz];intro x hx;simp only[beq_iff_eq];exact fun e=>h (Ja.2 ⟨x,hx,e⟩)
theorem zP9{rw:Rw}{i:Nat}(h:∀x∈rw,x.1≠i):rwS rw i=dt:=by simp only[rwS,U3,Uz];intro x hx;simpa using h x hx
theorem zMJ{rw:Rw}{s i:Nat}(h:rwI rw s=dq i):s∈rw.map (·.2.1):=by simp only[rwI,Ke]at h;obtain⟨x,hx,_⟩:=h;have h1:=List.mem_of_find?_eq_some hx;have h2:=List.find?_some hx;exact Ja.2 ⟨x,h1,by simpa using h2⟩
abbrev Nd:=List (Nat×List Nat×T)
def zPA(nd:Nd)(k s:Nat):Option (Nat×List Nat):=
 match nd with
 | []=>dt
 |x::r=>if x.1=s then dq (k,x.2.1)else zPA r (k+1) s
def ndB(d:Nat)(nd:Nd)(s:Nat)(z:List Nat):Option (Nat×List Nat):=
 match nd with
 | [x]=>if x.1=s∧x.2.1<:+z then dq (d,z.take (z.length-x.2.1.length))else dt
 |nd=>match zPA nd 0 s with
  |some (k,q)=>if q<:+z then dq (d,z.take (z.length-q.length)++[k])else dt
  |none=>dt
theorem zH6:(nd:Nd)→(nd.map (·.1)).Nodup→ ∀{k k0:Nat}{x:Nat×List Nat×T},nd[k]? =dq x→zPA nd k0 x.1=dq (k0+k,x.2.1)
 | [],_,_,_,_,h=>by simp at h
 |y::nd,hn,k,k0,x,h=>by
  simp only[Jl,Km,Ja]at hn;cases k with
  |zero=>simp at h;subst h;simp[zPA]
  |succ k=>
   simp only[Qy]at h;have gf:y.1≠x.1:=fun e=>hn.1 ⟨x,L4 h,e.symm⟩
   simp only[zPA,gf,if_false];rw[zH6 nd hn.2 h]
   congr 2;omega
def zPB(G:Gh)(nd:Nd)(z:List Nat):Value:=
 match nd with
 | [x]=>G.hd x.1 (z++x.2.1)
 |nd=>match z.getLast? with
  |some k=>(match nd[k]? with
   |some x=>G.hd x.1 (z.dropLast++x.2.1)
   |none=>.bool dv)
  |none=>.bool dv
def zSJ(G:Gh)(nd:Nd)(z:List Nat):Addr:=
 match nd with
 | [x]=>G.ad x.1 (z++x.2.1)
 |nd=>match z.getLast? with
  |some k=>(match nd[k]? with
   |some x=>G.ad x.1 (z.dropLast++x.2.1)
   |none=>default)
  |none=>default
def Gh.arg(G:Gh)(a:Act)(xs:List Operand)(rw:Rw):Gh where
 hd i z:=match xs[i]? with
  |some (.tmp s)=>G.hd s z
  |some x=>qY (a.eval x)
  |none=>.bool dv
 ad i z:=match xs[i]? with
  |some (.tmp s)=>G.ad s z
  |_=>default
 lb b o:=match G.lb b o with
  |some (f,s,z)=>(match rwI rw s,G.ow b with
   |some i,dq (s',_)=>if s'=s then dq (f,i,z)else dt
   |_,_=>dt)
  |none=>dt
 ow b:=match G.ow b with
  |some (s,z)=>(match rwI rw s with
   |some i=>dq (i,z)
   |none=>dt)
  |none=>dt
def zAK(G:Gh)(rw:Rw)(b:Nat):Prop:=∃s z,G.ow b=dq (s,z)∧s∈rw.map (·.2.1)
def zCZ(d:Nat)(rw:Rw)(nd:Nd)(s:Nat)(z:List Nat):Option (Nat×List Nat):=
 match rwS rw s with
 |some s'=>dq (s',z)
 |none=>ndB d nd s z
open Classical in
noncomputable def Gh.back (G G':Gh) (n0 d:Nat) (rw:Rw) (nd:Nd):Gh where
 hd s z:=if s=d then zPB G' nd z else match rwI rw s with
  |some i=>G'.hd i z
  |none=>G.hd s z
 ad s z:=if s=d then zSJ G' nd z else match rwI rw s with
  |some i=>if z=[]then G.ad s z else G'.ad i z
  |none=>G.ad s z
 lb b o:=if zAK G rw b∨n0≤b then(match G'.lb b o with
  |some (f,s,z)=>(match zCZ d rw nd s z with
   |some (s',z')=>dq (f,s',z')
   |none=>dt)
  |none=>dt)else G.lb b o
 ow b:=if zAK G rw b∨n0≤b then(match G'.ow b with
  |some (s,z)=>zCZ d rw nd s z
  |none=>dt)else G.ow b
def zCR(res:List T):T:=match res with
 | [u]=>u
 |us=>.tup us
def cWr(d:Nat)(res:List T)(rw:Rw):Wr:=(d,dq (zCR res))::rw.map fun x=>(x.2.1,dq x.2.2)
def cLv(t:T):Nat:=if t.single then 1 else 0
def wP(d:Nat)(rw:Rw):Chg:=(d,0)::rw.map fun x=>(x.2.1,cLv x.2.2)
theorem zFZ{d:Nat}{rw:Rw}{x:Nat×Nat×T}(h:x∈rw):(x.2.1,cLv x.2.2)∈wP d rw:=Uk _ (Ja.2 ⟨x,h,rfl⟩)
theorem zMK{Gn G':Gh}{d:Nat}:(nd:Nd)→ ∀(j:Nat),(∀k x,nd[k]? =dq x→ ∀z,Gn.hd d (z++[j+k])=G'.hd x.1 (z++x.2.1))→kX Gn d (nd.map (·.2.2)) [] j=nd.map fun x=>tM G' x.1 x.2.2 x.2.1
 | [],_,_=>by simp[kX]
 |x::nd,j,h=>by
  have ih:=zMK (Gn:=Gn) (G':=G') (d:=d) nd (j+1) (fun k y hy z=>by rw[show j+1+k=j+(k+1)from by omega];exact h (k+1) y (by simpa using hy) z)
  simp only[Jl,kX,ih];rw[zB7 x.2.2 x.2.1 [j] (by simpa using h 0 x (by simp))]
theorem zPC{d:Nat}{res:List T}{rw:Rw}{s:Nat}{x:Option T}(h:(cWr d res rw).find s=dq x):(s=d∧x=dq (zCR res))∨(s≠d∧ ∃i u,(i,s,u)∈rw∧x=dq u):=by
 simp only[cWr,Wr.find]at h;split at h
 ·rename_i he;simp at h;exact .inl ⟨he.symm,h.symm⟩
 ·rename_i gf
  refine .inr ⟨fun e=>gf e.symm,?_⟩
  clear gf
  induction rw with
  |nil=>simp[Wr.find]at h
  |cons y rw ih=>
   simp only[Jl,Wr.find]at h;split at h
   ·rename_i he;simp at h;subst he;exact⟨y.1,y.2.2,by simp,h.symm⟩
   ·obtain⟨i,u,h1,h2⟩:=ih h;exact⟨i,u,by simp[h1],h2⟩
theorem zPD{d:Nat}{res:List T}{rw:Rw}{s:Nat}(h:(cWr d res rw).find s=dt):s≠d∧s∉rw.map (·.2.1):=by
 simp only[cWr,Wr.find]at h;split at h
 ·cases h
 ·rename_i gf
  refine⟨fun e=>gf e.symm,?_⟩
  clear gf
  induction rw with
  |nil=>simp
  |cons y rw ih=>
   simp only[Jl,Wr.find]at h;split at h
   ·cases h
   ·rename_i he
    simp only[Jl,Jq,not_or];exact⟨fun e=>he e.symm,ih h⟩
def aft(S Sc S':Stb):Stb:=fun b=>match Sc b with
 |none=>S' b
 |some _=>S b
theorem Rep.up{Γ:Ctx}{E:Env}{G:Gh}{tmps tmps':Array Value}{w w':World}{G':Gh}{wr:Wr}{chg:Chg}{S:Stb}(h:Rep Γ E G tmps w)(hS:∀b x,Γ.St b=dq x→S b=dq x)
  (gQ:tmps'.size=tmps.size)(hk:qQ chg G w G' w')(gz:Mem (Γ.at S) G' w')
  (gD:∀s,wr.find s=dt→(∀n,(s,n)∉chg)∧tmps'[s]? =tmps[s]?)
  (ek:∀s t,wr.find s=dq (dq t)→Ent (Γ.at S) G' w' tmps'[s]? s t):Rep (Γ.at S) (E.app wr chg) G' tmps' w' where
 size:=by rw[gQ];exact h.size
 mem:=gz
 ent s t hs:=by
  unfold Env.app at hs;cases hf:wr.find s with
  |some x=>
   rw[hf]at hs;simp at hs;subst hs;exact ek s t hf
  |none=>
   rw[hf]at hs;simp at hs;cases he:E s with
   |none=>simp[he]at hs
   |some u=>
    simp[he]at hs;obtain⟨gH,rfl⟩:=hs;rw[(gD s hf).2];obtain⟨e1,e2,e3⟩:=Ent.keep hk (gD s hf).1 gH (h.ent s u he);exact⟨e1,zI7 hS u [] e2,e3⟩
section
variable {P:Program}{Γ:Ctx}{E:Env}{d:Nat}
theorem zGa{G:Gh}{a:Act}{w:World}(gc:Rep Γ E G a.tmps w)(hd:d<Γ.N){Sc:Stb}{rw:Rw}(hS1:∀b x,Sc b=dq x→w.heap[b]? =dq x∧ ¬zAK G rw b)(hS0:∀b x,Γ.St b=dq x→Sc b=dq x){f:FuncId}{us res:List T}
  (hc:FnC P f us res (rw.map fun x=>(x.1,x.2.2))){xs:List Operand}(gm:xs.length=us.length)
  (gk:∀(i:Nat) u,us[i]? =dq u→(∃x,xs[i]? =dq x∧a.eval x=mkV (G.arg a xs rw) i u []∧R Sc (G.arg a xs rw) w i u []))
  (hn1:(d::rw.map (·.2.1)).Nodup)(hn2:(rw.map (·.1)).Nodup)(eQ:∀x∈rw,xs[x.1]? =dq (.tmp x.2.1))
  (gy:∀u∈res,zT u∧u.okTup=du∧ ∀(S':Stb)(G:Gh)(w:World)(s:Nat)(p:List Nat),(∀b x,Sc b=dq x→S' b=dq x)→R S' G w s u p→R (aft Γ.St Sc S') G w s u p)
  (mY:∀x∈rw,zT x.2.2∧(∀(S':Stb)(G:Gh)(w:World)(s:Nat)(p:List Nat),(∀b x,Sc b=dq x→S' b=dq x)→R S' G w s x.2.2 p→R (aft Γ.St Sc S') G w s x.2.2 p)∧ ∃u,E x.2.1=dq u∧x.2.2.single=u.single∧us[x.1]? =dq u):
  Calls P f (xs.map a.eval).toArray w fun e w'=> ∃v,e=.returned v∧ ∃S G',zCQ Γ.St S Γ.W Γ.w0.heap.size∧qQ (wP d rw) G w G' w'∧Rep (Γ.at S) (E.app (cWr d res rw) (wP d rw)) G' (a.tmps.setIfInBounds d v) w':=by
 have hm:=gc.mem;have pH:=Km.1 hn1;have hmc:Mem ⟨Sc,zAK G rw,w,0⟩ (G.arg a xs rw) w:=by
  have gK:∀b,zAK G rw b→Sc b=dt:=fun b h=>by
   cases hs:Sc b with
   |none=>rfl
   |some x=>exact absurd h (hS1 b x hs).2
  refine⟨fun i z=>?_,fun b o l hl=>?_,fun b l hl=>?_,fun b x hx=>(hS1 b x hx).1,fun b _ _=>rfl,Jd _,⟨fun b cs e h=>⟨cs,h,rfl⟩,rfl,rfl⟩⟩
  ·simp only[Gh.arg]
   split
   ·exact hm.one _ _
   ·exact zBi _
   ·rfl
  ·simp only[Gh.arg]at hl
   split at hl
   ·rename_i f' s z hg
    split at hl
    ·rename_i i s' y hi ho
     split at hl
     ·rename_i he;subst he
      have hL:zAK G rw b:=⟨s',y,ho,zMJ hi⟩;exact⟨(hm.lb b o _ hg).1,.inr hL,gK b hL⟩
     ·cases hl
    ·cases hl
   ·cases hl
  ·simp only[Gh.arg]at hl
   split at hl
   ·rename_i s z hg
    split at hl
    ·rename_i i hi
     have hL:zAK G rw b:=⟨s,z,hg,zMJ hi⟩;exact⟨(hm.ow b _ hg).1,.inr hL,gK b hL⟩
    ·cases hl
   ·cases hl
 have gu:=hc Sc (zAK G rw) w (G.arg a xs rw) (xs.map a.eval).toArray (by simp[gm]) (fun i u hu=>by obtain⟨x,h1,h2,h3⟩:=gk i u hu;exact⟨by simp[h1,h2],h3⟩) hmc
 refine gu.mono ?_
 rintro e w' ⟨S',G',nd,gU,rfl,gB,fC,cC,cU,mX⟩
 have eU:∀b x,Γ.St b=dq x→aft Γ.St Sc S' b=dq x:=fun b x hx=>by simp only[aft,hS0 b x hx,hx]
 have bE:zCQ Γ.St (aft Γ.St Sc S') Γ.W Γ.w0.heap.size:=⟨eU,fun b hb eF=>by
  simp only[aft]at eF;split at eF
  ·rename_i hs
   rcases gU.nw b hs eF with h|⟨s,z,h,_⟩
   ·exact .inl (by have:=hm.sz;omega)
   ·exact(hm.ow b _ h).2.1
  ·exact absurd hb eF⟩
 refine⟨_,rfl,aft Γ.St Sc S',G.back G' w.heap.size d rw nd,bE,?_⟩;have cY:∀b,b<w.heap.size→ ¬zAK G rw b→w'.heap[b]? =w.heap[b]?:=gB.fr;have gv:w.heap.size≤w'.heap.size:=gB.sz;have gL:Blk w w':=gB.bk.blk
 generalize hGn:G.back G' w.heap.size d rw nd=Gn
 have ghdd:∀z,Gn.hd d z=zPB G' nd z:=fun z=>by rw[←hGn];simp[Gh.back]
 have gadd:∀z,Gn.ad d z=zSJ G' nd z:=fun z=>by rw[←hGn];simp[Gh.back]
 have ghd0:∀s z,s≠d→s∉rw.map (·.2.1)→Gn.hd s z=G.hd s z:=fun s z h1 h2=>by rw[←hGn];simp[Gh.back,h1,zJA h2]
 have gad0:∀s z,s≠d→s∉rw.map (·.2.1)→Gn.ad s z=G.ad s z:=fun s z h1 h2=>by rw[←hGn];simp[Gh.back,h1,zJA h2]
 have eG:∀i s u,(i,s,u)∈rw→s≠d:=fun i s u h e=>pH.1 (e▸Ja.2 ⟨_,h,rfl⟩)
 have ghdr:∀i s u z,(i,s,u)∈rw→Gn.hd s z=G'.hd i z:=fun i s u z h=>by rw[←hGn];simp[Gh.back,eG i s u h,zCc rw pH.2 h]
 have gadr:∀i s u z,(i,s,u)∈rw→z≠[]→Gn.ad s z=G'.ad i z:=fun i s u z h h0=>by rw[←hGn];simp[Gh.back,eG i s u h,zCc rw pH.2 h,h0]
 have gadr0:∀i s u,(i,s,u)∈rw→Gn.ad s []=G.ad s []:=fun i s u h=>by rw[←hGn];simp[Gh.back,eG i s u h,zCc rw pH.2 h]
 have glb0:∀b o l,¬zAK G rw b→G.lb b o=dq l→Gn.lb b o=dq l:=fun b o l h1 h2=>by have:=(hm.lb b o _ h2).1;rw[←hGn];simp only[Gh.back];rw[if_neg (by rintro(h|h);exact h1 h;omega)];exact h2
 have gow0:∀b l,¬zAK G rw b→G.ow b=dq l→Gn.ow b=dq l:=fun b l h1 h2=>by have:=(hm.ow b _ h2).1;rw[←hGn];simp only[Gh.back];rw[if_neg (by rintro(h|h);exact h1 h;omega)];exact h2
 have gM:∀b o l,G'.lb b o=dq l→zAK G rw b∨w.heap.size≤b:=fun b o l h=>(gB.lb b o l h).2.1.symm
 have ck:∀b l,G'.ow b=dq l→zAK G rw b∨w.heap.size≤b:=fun b l h=>(gB.ow b l h).2.1.symm
 have glb1:∀b o fl s z s' z',G'.lb b o=dq (fl,s,z)→zCZ d rw nd s z=dq (s',z')→Gn.lb b o=dq (fl,s',z'):=fun b o fl s z s' z' h1 h2=>by rw[←hGn];simp only[Gh.back];rw[if_pos (gM b o _ h1),h1];simp[h2]
 have gow1:∀b s z l,G'.ow b=dq (s,z)→zCZ d rw nd s z=dq l→Gn.ow b=dq l:=fun b s z l h1 h2=>by rw[←hGn];simp only[Gh.back];rw[if_pos (ck b _ h1),h1];simp[h2]
 have tu:∀i s u z,(i,s,u)∈rw→zCZ d rw nd i z=dq (s,z):=fun i s u z h=>by simp[zCZ,zJ9 rw hn2 h]
 have gF:∀x∈rw,x.1<us.length:=fun x hx=>by have:=(Jb.1 (eQ x hx)).1;omega
 have hbn:∀x∈nd,∀z,zCZ d rw nd x.1 z=ndB d nd x.1 z:=fun x hx z=>by have h1:=(cC x hx).2;have h2:rwS rw x.1=dt:=zP9 (fun y hy e=>by have:=gF y hy;omega);simp[zCZ,h2]
 have pN:∀(k:Nat) x,nd[k]? =dq x→ ∃tgt,(nd.length=1→tgt=[])∧(nd.length≠1→tgt=[k])∧(∀z,Gn.hd d (z++tgt)=G'.hd x.1 (z++x.2.1))∧(∀z,Gn.ad d (z++tgt)=G'.ad x.1 (z++x.2.1))∧ ∀z,zCZ d rw nd x.1 (z++x.2.1)=dq (d,z++tgt):=by
  intro k x hk;have mq:=L4 hk
  match nd,hk,cU,hbn x mq,ghdd,gadd with
  | [y],hk,cU,hb,ghdd,gadd=>
   have hkx:y=x:=by
    cases k with
    |zero=>simpa using hk
    |succ k=>simp at hk
   subst hkx;exact⟨[],fun _=>rfl,fun h=>absurd rfl h,fun z=>by rw[ghdd];simp[zPB],fun z=>by rw[gadd];simp[zSJ],fun z=>by rw[hb];simp[ndB]⟩
  | [],hk,_,_,_,_=>simp at hk
  |y1::y2::r,hk,cU,hb,ghdd,gadd=>
   refine⟨[k],fun h=>by simp at h,fun _=>rfl,fun z=>by rw[ghdd];simp only[zPB,Ul,Um];simp[hk],fun z=>by rw[gadd];simp only[zSJ,Ul,Um];simp[hk],fun z=>?_⟩;rw[hb];have:=zH6 (y1::y2::r) cU (k0:=0) hk;rw[J8]at this;simp only[ndB,this];simp
 have px:∀(k:Nat) x,nd[k]? =dq x→ ∀tgt,(∀z,Gn.hd d (z++tgt)=G'.hd x.1 (z++x.2.1))→(∀z,Gn.ad d (z++tgt)=G'.ad x.1 (z++x.2.1))→(∀z,zCZ d rw nd x.1 (z++x.2.1)=dq (d,z++tgt))→R (aft Γ.St Sc S') Gn w' d x.2.2 tgt:=by intro k x hk tgt h1 h2 h3;have mq:=L4 hk;obtain⟨c1,c2,c3⟩:=gy x.2.2 (by rw[←fC];exact Ja.2 ⟨x,mq,rfl⟩);refine zAo (G:=G') (w:=w') (s:=x.1) (p:=x.2.1) ⟨⟨h1,fun z _=>h2 z,fun b o f' z _ _ hl=>⟨glb1 b o f' _ _ _ _ hl (h3 z),rfl⟩,fun b z _ hl=>gow1 b _ _ _ hl (h3 z),fun b cs e h=>⟨cs,h,rfl⟩⟩,fun b o _ hl=>⟨glb1 b o du _ _ _ _ hl (by simpa using h3 []),rfl⟩,fun b hl=>gow1 b _ _ _ hl (by simpa using h3 [])⟩ _ (yM.mono (fun _ _=>False.elim) _ c1) (c3 _ _ _ _ _ gU.le (cC x mq).1)
 have gw:qQ (wP d rw) G w Gn w':=by
  have gN:∀s,(∀n,(s,n)∉wP d rw)→s≠d∧s∉rw.map (·.2.1):=fun s h=>⟨fun e=>h 0 (by simp[wP,e]),fun hm=>by obtain⟨x,hx,rfl⟩:=Ja.1 hm;exact h _ (zFZ hx)⟩
  have fZ:∀b s y,G.ow b=dq (s,y)→s∉rw.map (·.2.1)→ ¬zAK G rw b:=by
   rintro b s y h1 h2 ⟨s',z',h3,h4⟩
   rw[h1]at h3;simp at h3;exact h2 (h3.1▸h4)
  refine⟨fun s p h=>?_,fun s p h=>?_,fun b o fl s p gW h1 h2=>?_,fun b s p h1 h2=>?_,gL⟩
  ·have h1:s≠d:=fun e=>absurd (h 0 (by simp[wP,e])) (by simp)
   by_cases h2:s∈rw.map (·.2.1)
   ·
    obtain⟨x,hx,rfl⟩:=Ja.1 h2;have hc:=h _ (zFZ hx);have c2:x.2.2.single=du:=by
     cases fb:x.2.2.single with
     |true=>rfl
     |false=>simp[cLv,fb]at hc
    have h3:p=[]:=K4 (by simp only[cLv,c2,if_true]at hc;omega);subst h3;obtain⟨_,_,u,c4,c5,c6⟩:=mY x hx;rw[c2]at c5;have c5:=c5.symm;obtain⟨_,u0,e1,e2⟩:=mX x.1 x.2.2 (Ja.2 ⟨x,hx,rfl⟩);rw[c6]at e1;simp at e1;subst e1;rw[xH c2,xH c5]at e2;rw[ghdr x.1 x.2.1 x.2.2 [] hx,e2];simp[Gh.arg,eQ x hx]
   ·exact ghd0 s p h1 h2
  ·have h1:s≠d:=fun e=>absurd (h 0 (by simp[wP,e])) (by simp)
   by_cases h2:s∈rw.map (·.2.1)
   ·obtain⟨x,hx,rfl⟩:=Ja.1 h2
    have hc:=h _ (zFZ hx);have h3:p=[]:=K4 (by have:cLv x.2.2≤1:=(by unfold cLv;split<;>omega);omega);subst h3;exact gadr0 x.1 x.2.1 x.2.2 hx
   ·exact gad0 s p h1 h2
  ·obtain⟨h3,h4⟩:=gN s h2
   obtain⟨y,hy⟩:=gW;have h5:=fZ b s y hy h4;exact⟨glb0 b o _ h5 h1,by simp[yH,World.cell?,cY b (hm.lb b o _ h1).1 h5]⟩
  ·obtain⟨h3,h4⟩:=gN s h2
   exact gow0 b _ (fZ b s p h1 h4) h1
 have gz:Mem (Γ.at (aft Γ.St Sc S')) Gn w':=by
  have gH:∀b,b<w'.heap.size∧(w.heap.size≤b∨zAK G rw b)∧S' b=dt→zBV (Γ.at (aft Γ.St Sc S')) w' b:=fun b ⟨hb,h,gR⟩=>by
   have ms:Sc b=dt:=by
    cases hs:Sc b with
    |none=>rfl
    |some x=>rw[gU.le b x hs]at gR;cases gR
   refine⟨hb,?_,by simp only[aft,ms];exact gR⟩;rcases h with h|⟨s,z,h1,_⟩
   ·exact .inl (by have:=hm.sz;show Γ.w0.heap.size≤b;omega)
   ·exact(hm.ow b _ h1).2.1
  have gD:∀b,¬(zAK G rw b∨w.heap.size≤b)→zBV Γ w b→zBV (Γ.at (aft Γ.St Sc S')) w' b:=fun b h ⟨h1,h2,h3⟩=>by
   refine⟨by omega,h2,?_⟩;simp only[aft];split
   ·rename_i hs
    cases gR:S' b with
    |none=>rfl
    |some x=>
     rcases gU.nw b hs (by rw[gR];simp)with h4|h4
     ·exact absurd (.inr h4) h
     ·exact absurd (.inl h4) h
   ·exact h3
  refine⟨fun s z=>?_,fun b o l hl=>?_,fun b l hl=>?_,fun b x hx=>?_,fun b(h1:b<Γ.w0.heap.size) h2=>?_,H6 hm.sz gv,hm.bk.trans gL gB.bk.os gB.bk.out⟩
  ·by_cases h1:s=d
   ·subst h1
    rw[ghdd];unfold zPB;split
    ·exact gB.one _ _
    ·split
     ·split
      ·exact gB.one _ _
      ·rfl
     ·rfl
   ·by_cases h2:s∈rw.map (·.2.1)
    ·obtain⟨x,hx,rfl⟩:=Ja.1 h2
     rw[ghdr x.1 x.2.1 x.2.2 z hx];exact gB.one _ _
    ·rw[ghd0 s z h1 h2];exact hm.one _ _
  ·rw[←hGn]at hl
   simp only[Gh.back]at hl;split at hl
   ·rename_i pd
    split at hl
    ·rename_i hg
     exact gH b (gB.lb b o _ hg)
    ·cases hl
   ·rename_i pd
    exact gD b pd (hm.lb b o l hl)
  ·rw[←hGn]at hl
   simp only[Gh.back]at hl;split at hl
   ·rename_i pd
    split at hl
    ·rename_i hg
     exact gH b (gB.ow b _ hg)
    ·cases hl
   ·rename_i pd
    exact gD b pd (hm.ow b l hl)
  ·simp only[aft]at hx
   split at hx
   ·exact gB.st b x hx
   have h1:=hm.st b x hx;have h2:=(Hd.1 h1).1;have h3:¬zAK G rw b:=by
    rintro⟨s,z,h4,_⟩
    rw[(hm.ow b _ h4).2.2]at hx;cases hx
   rw[cY b h2 h3];exact h1
  ·have h3:¬zAK G rw b:=by
    rintro⟨s,z,h4,_⟩
    rcases(hm.ow b _ h4).2.1 with h5|h5
    ·omega
    ·exact h2 h5
   rw[cY b (by have:=hm.sz;omega) h3];exact hm.fr b h1 h2
 have aJ:nd.length=res.length:=by rw[←fC];simp
 refine⟨gw,gc.up eU (by simp) gw gz ?_ ?_⟩
 ·intro s hs
  obtain⟨h1,h2⟩:=zPD hs;refine⟨fun n hn=>?_,by rw[Jc];simp[Ne.symm h1]⟩;simp only[wP,Jq,Ja1.injEq,Ja]at hn;rcases hn with⟨e,_⟩|⟨x,hx,e,_⟩
  ·exact h1 e
  ·exact h2 (Ja.2 ⟨x,hx,e⟩)
 ·intro s t hs
  rcases zPC hs with⟨rfl,ht⟩|⟨gf,i,u,fJ,ht⟩
  ·simp at ht
   subst ht;rw[Jc];simp only[gc.size,hd,if_true];have fT:res=nd.map (·.2.2):=fC.symm
   by_cases hl:nd.length=1
   ·obtain⟨x,hx⟩:∃x,nd=[x]:=List.length_eq_one_iff.1 hl
    obtain⟨tgt,t1,_,t3,t4,t5⟩:=pN 0 x (by simp[hx]);obtain rfl:=t1 hl;have hr:=px 0 x (by simp[hx]) [] t3 t4 t5;obtain⟨c1,c2,_⟩:=gy x.2.2 (by rw[fT,hx];simp);have eO:zCR res=x.2.2:=by rw[fT,hx];rfl
    have gX:∀ys,x.2.2≠.tup ys:=fun ys e=>by rw[e]at c2;simp[T.okTup]at c2
    rw[eO];refine⟨?_,hr,Top.of_clean _ c1⟩;rw[kY Gn s _ [] gX,zB7 x.2.2 x.2.1 [] t3,hx];rfl
   ·have eO:zCR res=.tup res:=by
     rw[aJ]at hl
     match res,hl with
     | [],_=>rfl
     | [u],hl=>simp at hl
     |_::_::_,_=>rfl
    rw[eO];have gI:∀k x,nd[k]? =dq x→ ∀z,Gn.hd s (z++[0+k])=G'.hd x.1 (z++x.2.1):=fun k x hk z=>by obtain⟨tgt,_,t2,t3,_,_⟩:=pN k x hk;rw[t2 hl]at t3;rw[J8];exact t3 z
    refine⟨?_,?_,?_⟩
    ·have hv:=zMK (Gn:=Gn) (G':=G') (d:=s) nd 0 gI
     rw[fC]at hv;simp only[mkV,hv];unfold zJ5;split
     ·simp at hl
     ·rfl
    ·simp only[R]
     rw[fT];refine zM8 _ [] 0 (fun k u hu=>?_);rw[Jz]at hu;cases hk:nd[k]? with
     |none=>simp[hk]at hu
     |some x=>
      simp[hk]at hu;subst hu;obtain⟨tgt,_,t2,t3,t4,t5⟩:=pN k x hk;rw[t2 hl]at t3 t4 t5;rw[J8];exact px k x hk [k] t3 t4 t5
    ·simp only[Top]
     refine vS.of_clean _ ?_;have:∀us:List T,(∀u∈us,zT u)→yV us:=by
      intro us
      induction us with
      |nil=>intro _;trivial
      |cons u us ih=>intro h;exact⟨h u (by simp),ih fun v hv=>h v (by simp[hv])⟩
     exact this res fun u hu=>(gy u hu).1
  ·simp at ht
   subst ht;obtain⟨c1,c3,u0,c4,_,c6⟩:=mY _ fJ;obtain⟨r1,u1,e1,e2⟩:=mX i t (Ja.2 ⟨_,fJ,rfl⟩);simp only at c4 c6;rw[c6]at e1;simp at e1;subst e1;refine⟨?_,?_,Top.of_clean _ c1⟩
   ·rw[Jc]
    simp only[Ne.symm gf,if_false];have hxi:=eQ _ fJ;simp only at hxi;have m1:mkV Gn s t []=mkV G' i t []:=zEm t [] [] (fun z=>by rw[Jk];exact ghdr i s t z fJ);have m2:mkV (G.arg a xs rw) i u0 []=mkV G s u0 []:=zEm u0 [] [] (fun z=>by simp[Gh.arg,hxi]);rw[(gc.ent s u0 c4).1,m1,e2,m2]
   ·refine zAo (G:=G') (w:=w') (s:=i) (p:=[]) ⟨⟨fun z=>by rw[Jk];exact ghdr i s t z fJ,fun z hz=>by rw[Jk];exact gadr i s t z fJ hz,fun b o f' z _ _ hl=>?_,fun b z _ hl=>?_,fun b cs e h=>⟨cs,h,rfl⟩⟩,fun b o _ hl=>⟨glb1 b o du _ _ _ _ hl (tu i s t [] fJ),rfl⟩,fun b hl=>gow1 b _ _ _ hl (tu i s t [] fJ)⟩ t (yM.mono (fun _ _=>False.elim) _ c1) (c3 _ _ _ _ _ gU.le r1)
    ·rw[Jk]at hl ⊢;exact⟨glb1 b o f' _ _ _ _ hl (tu i s t z fJ),rfl⟩
    ·rw[Jk]at hl ⊢;exact gow1 b _ _ _ hl (tu i s t z fJ)
end
end Go.Ab

namespace Go.Ab
open Go
def zH7(E:Env)(rs:List Nat)(x:Operand)(t:T):Bool:=
 match x with
 |.tmp s=>tX E rs s t
 |_=>du
def zBL(E:Env)(rw:Rw)(i:Nat)(x:Operand)(u:T):Prop:=
 (∃s u',x=.tmp s∧(i,s,u')∈rw∧E s=dq u∧zT u∧u.okTup=du∧wH u=du)∨(∃t,opT E x=dq t∧clo E t=u∧zH7 E (rw.map (·.2.1)) x t=du)
def xJ(E:Env)(rw:Rw):Nat→List Operand→List T→Prop
 |_,[],[]=>True
 |i,x::xs,u::us=>zBL E rw i x u∧xJ E rw (i+1) xs us
 |_,_,_=>False
theorem xJ.length{E:Env}{rw:Rw}:(xs:List Operand)→(us:List T)→ ∀i,xJ E rw i xs us→xs.length=us.length
 | [],[],_,_=>rfl
 |_::xs,_::us,i,h=>by simp[xJ.length xs us (i+1) h.2]
 | [],_::_,_,h=>by simp[xJ]at h
 |_::_,[],_,h=>by simp[xJ]at h
theorem xJ.get{E:Env}{rw:Rw}:(xs:List Operand)→(us:List T)→ ∀i,xJ E rw i xs us→ ∀(j:Nat) u,us[j]? =dq u→ ∃x,xs[j]? =dq x∧zBL E rw (i+j) x u
 | [],[],_,_,_,_,h=>by simp at h
 |x::xs,v::us,i,h,j,u,hj=>by
  cases j with
  |zero=>simp at hj;subst hj;exact⟨x,by simp,h.1⟩
  |succ j=>
   obtain⟨y,h1,h2⟩:=xJ.get xs us (i+1) h.2 j u (by simpa using hj);exact⟨y,by simpa using h1,by rwa [show i+(j+1)=i+1+j from by omega]⟩
 | [],_::_,_,h,_,_,_=>by simp[xJ]at h
 |_::_,[],_,h,_,_,_=>by grind
structure zJB (E:Env) (d:Nat) (xs:List Operand) (us:List T) (rw:Rw):Prop where
 nodup:(d::rw.map (·.2.1)).Nodup
 nodup2:(rw.map (·.1)).Nodup
 at_:∀x∈rw,xs[x.1]? =dq (.tmp x.2.1)
 tree:∀x∈rw,zT x.2.2∧wH x.2.2=du∧ ∃u,E x.2.1=dq u∧x.2.2.single=u.single∧us[x.1]? =dq u
theorem zJB.nil{E:Env}{d:Nat}{xs:List Operand}{us:List T}:zJB E d xs us []:=⟨by simp,by simp,by simp,by simp⟩
theorem zJB.one{E:Env}{d i s:Nat}{u u':T}{xs:List Operand}{us:List T}(h1:d≠s)(h2:xs[i]? =dq (.tmp s))(h3:zT u')(h4:u'.single=du)(h5:wH u'=du)(h6:E s=dq u)(h7:u.single=du)(h8:us[i]? =dq u):
  zJB E d xs us [(i,s,u')]:=⟨by grind,by simp,by grind,by grind⟩
section
variable {P:Program}{Γ:Ctx}{E:Env}{o:Oper}{d:Nat}
theorem zSK{G:Gh}{a:Act}{w:World}(gc:Rep Γ E G a.tmps w){rw:Rw}{xs:List Operand}{us:List T}(hr:zJB E d xs us rw){Sc:Stb}(eg:∀b x,Γ.St b=dq x→Sc b=dq x)
  (eh:∀r,r∉rw.map (·.2.1)→ ∀b,(∃y,G.ow b=dq (r,y))→Sc b=w.heap[b]?){i:Nat}{x:Operand}{u:T}(hx:xs[i]? =dq x)(hu:us[i]? =dq u)(h:zBL E rw i x u):
  a.eval x=mkV (G.arg a xs rw) i u []∧R Sc (G.arg a xs rw) w i u []:=by
 rcases h with⟨s,u',rfl,h1,h2,h3,h4,h5⟩|⟨t,h1,rfl,h3⟩
 ·obtain⟨e1,e2,_⟩:=gc.ent s u h2
  have gI:∀z,(G.arg a xs rw).hd i z=G.hd s z:=by grind[Gh.arg]
  have fd:∀z,(G.arg a xs rw).ad i z=G.ad s z:=by grind[Gh.arg]
  have hi:=zCc rw (Km.1 hr.nodup).2 h1;refine⟨by grind[xM,zEm],?_⟩;refine zOf u [] h5 (zAo (St:=Γ.St) (G:=G) (w:=w) (s:=s) (p:=[]) ⟨⟨by grind,by grind,fun b o' f' z _ gW hl=>?_,fun b z _ hl=>?_,fun b cs e h=>⟨cs,h,rfl⟩⟩,fun b o' gW hl=>?_,fun b hl=>?_⟩ u (by grind[yM.mono]) e2)
  ·obtain⟨y,hy⟩:=gW
   exact⟨by grind[Gh.arg],rfl⟩
  ·grind[Gh.arg]
  ·obtain⟨y,hy⟩:=gW
   exact⟨by grind[Gh.arg],rfl⟩
  grind[Gh.arg]
 ·cases x with
  |tmp s=>
   have gI:∀z,(G.arg a xs rw).hd i z=G.hd s z:=by grind[Gh.arg]
   obtain⟨e1,e2,_⟩:=gc.ent s t h1
   grind[zH7,xM,zI8,zUZ]
  |const v=>
   simp only[opT]at h1;split at h1
   ·rename_i gn
    simp at h1;subst h1;have gI:(G.arg a xs rw).hd i []=v:=by grind[Gh.arg,Act.eval,zAp]
    exact⟨by grind[clo,mkV,Act.eval],by simp[clo,R,gI]⟩
   ·cases h1
  |func f=>
   simp only[opT]at h1;simp at h1;subst h1;have gI:(G.arg a xs rw).hd i []=.func (.func f) #[] #[]:=by grind[Gh.arg,Act.eval,qY,Value.oneCell']
   exact⟨by grind[clo,mkV,Act.eval],by simp[clo,R,gI]⟩
  |global g=>grind[opT]
theorem zC8{E:Env}:(t:T)→t.flat=du→(∀rs s,tX E rs s t=du)∧clo E t=t
 |.lit _,_|.ro _,_=>by simp[tX,clo]
 |.agg ts,h=>by
  simp only[T.flat]at h;have:=go ts h
  grind[tX,clo]
 |.any,h|.same _ _,h|.addr _ _,h|.sub _ _ _ _ _,h|.sl _ _,h|.ptr _,h|.tup _,h=>by grind[T.flat]
where go:(ts:List T)→zAn ts=du→(∀rs s,zA3 E rs s ts=du)∧zBA E ts=ts
 | [],_=>by simp[zA3,zBA]
 |x::xs,h=>by simp only[zAn,J2]at h;simp only[zA3,zBA,J2];exact⟨fun rs s=>⟨(zC8 x h.1).1 rs s,(go xs h.2).1 rs s⟩,by rw[(zC8 x h.1).2,(go xs h.2).2]⟩
theorem zDI{a:Act}{w:World}{K:Act→World→Prop}{Q:Exit→Act→World→Prop}{f:FuncId}{xf:Operand}{xs:List Operand}{ats:Array TypeId}(ho:o.op=.call { callee:=.value xf,args:=xs.toArray,argTypes:=ats })(gj:o.dst=dq d)
  (gu:∀args w,(callFunc f args).run P w=.ok (.enter f args) w)(hf:a.eval xf=.func (.func f) #[] #[])
  (h:Calls P f (xs.map a.eval).toArray w fun e w'=> ∃v,e=.returned v∧K (a.put (dq d) v) w'):o.wp P a w K Q:=by
 have gx:(execOp a.eval o).run P w=.ok (.enter f (xs.map a.eval).toArray) w:=by simp[execOp,ho,resolve,hf,Deferred.ofValue,invoke,gu]
 unfold Oper.wp;rw[gx,Oper.upon_enter];refine h.mono ?_
 grind
theorem zJC{G:Gh}{a:Act}{w:World}(gc:Rep Γ E G a.tmps w)(hd:d<Γ.N)(f:FuncId)(xs:List Operand)(us res:List T)(rw:Rw)
  (hc:FnC P f us res (rw.map fun x=>(x.1,x.2.2)))(gk:xJ E rw 0 xs us)(hr:zJB E d xs us rw)(gy:yV res∧yI res=du∧vP res=du):
  Calls P f (xs.map a.eval).toArray w fun e w'=> ∃v,e=.returned v∧ ∃S G',zCQ Γ.St S Γ.W Γ.w0.heap.size∧qQ (wP d rw) G w G' w'∧Rep (Γ.at S) (E.app (cWr d res rw) (wP d rw)) G' (a.tmps.setIfInBounds d v) w':=by
 classical
 have hm:=gc.mem
 let Sc:Stb:=fun b=>if zAK G rw b then dt else w.heap[b]?
 have eg:∀b x,Γ.St b=dq x→Sc b=dq x:=fun b x hx=>by
  have h3:¬zAK G rw b:=by
   rintro⟨s,z,h4,_⟩
   rw[(hm.ow b _ h4).2.2]at hx;cases hx
  simp only[Sc,h3,if_false];exact hm.st b x hx
 have eh:∀r,r∉rw.map (·.2.1)→ ∀b,(∃y,G.ow b=dq (r,y))→Sc b=w.heap[b]?:=fun r te b ⟨y,hy⟩=>by
  have h3:¬zAK G rw b:=by
   rintro⟨s,z,h4,h5⟩
   grind
  grind
 have cX:∀(us:List T),yV us∧yI us=du∧vP us=du→ ∀u∈us,zT u∧u.okTup=du∧wH u=du:=by
  intro us
  induction us with
  |nil=>simp
  |cons v us ih=>
   intro⟨h1,h2,h3⟩ u hu;simp only[yI,vP,J2]at h2 h3;rcases Jq.1 hu with rfl|hu
   ·exact⟨h1.1,h2.1,h3.1⟩
   ·exact ih ⟨h1.2,h2.2,h3.2⟩ u hu
 exact zGa gc hd (Sc:=Sc) (rw:=rw) (by grind) eg hc (xJ.length xs us 0 gk) (fun i u hu=>by
   obtain⟨x,h1,h2⟩:=xJ.get xs us 0 gk i u hu;rw[J8]at h2
   grind[zSK]) hr.nodup hr.nodup2 hr.at_
  (by grind[zOf])
  (fun x hx=>by
   obtain⟨h1,h3,h4⟩:=hr.tree x hx
   grind[zOf])
theorem zML(f:FuncId)(xf:Operand)(xs:List Operand)(ats:Array TypeId)(us res:List T)(rw:Rw)(ho:o.op=.call { callee:=.value xf,args:=xs.toArray,argTypes:=ats })(gj:o.dst=dq d)(hd:d<Γ.N)
  (gu:∀args w,(callFunc f args).run P w=.ok (.enter f args) w)(hf:opT E xf=dq (.lit (.func (.func f) #[] #[])))
  (hc:FnC P f us res (rw.map fun x=>(x.1,x.2.2)))(gk:xJ E rw 0 xs us)(hr:zJB E d xs us rw)(gy:yV res∧yI res=du∧vP res=du):
  xR P Γ o E (E.app (cWr d res rw) (wP d rw)):=by
 intro a w K Q ⟨ea,G,gc⟩ hK;refine zDI ho gj gu (xE gc hf).1 ?_;refine(zJC gc hd f xs us res rw hc gk hr gy).mono ?_
 rintro e w' ⟨v,rfl,S,G',hS,_,gp⟩
 exact⟨v,rfl,hK _ _ ⟨S,hS,ea,G',gp⟩⟩
theorem zJD(f:FuncId)(xf:Operand)(xs:List Operand)(ats:Array TypeId)(us res:List T)(i ds r:Nat)(q:List Nat)(tr u u':T)(ho:o.op=.call { callee:=.value xf,args:=xs.toArray,argTypes:=ats })(gj:o.dst=dq d)(hd:d<Γ.N)
  (gu:∀args w,(callFunc f args).run P w=.ok (.enter f args) w)(hf:opT E xf=dq (.lit (.func (.func f) #[] #[])))
  (hs:E ds=dq (.same r q))(hr:E r=dq tr)(hq:tr.get q.reverse=dq u)(hu:u.single=du)(eJ:zT u)(gV:ds≠r)(hdr2:d≠r)(gH:tr.okB [(ds,1),(r,q.length+1)]=du)(fb:xZ tr=du)
  (E1 E2:Env)(ml:E1=E.app [(ds,dq u),(r,dq (if q=[]then .same ds []else tr.set q.reverse .any))] [(ds,1),(r,q.length+1)])(hE2:E2=E1.app (cWr d res [(i,ds,u')]) (wP d [(i,ds,u')]))
  (hc:FnC P f us res [(i,u')])(gk:xJ E1 [(i,ds,u')] 0 xs us)(fJ:zJB E1 d xs us [(i,ds,u')])(gy:yV res∧yI res=du∧vP res=du)
  (tr2 v0:T)(gA:E2 r=dq tr2)(ay:tr2.get q.reverse=dq v0)(mP:v0.single=du)(pt:E2 ds=dq u')(eI:zT u')(ag:u'.single=du)(cR:tr2.okB [(r,q.length+1),(ds,1)]=du)(hc3:xZ tr2=du)(hok3:u'.okB [(r,q.length+1),(ds,1)]=du)(hc4:xZ u'=du):
  xR P Γ o E (E2.app [(r,dq (tr2.set q.reverse u')),(ds,dq (.same r q))] [(r,q.length+1),(ds,1)]):=by
 have aL:cLv u'=1:=by grind[cLv]
 intro a w K Q ⟨ea,G,gc⟩ hK;refine zDI ho gj gu (xE gc hf).1 ?_;have eb:G.hd ds []=G.hd r q:=by have:=(gc.ent ds _ hs).2.1;simpa only[R]using this
 obtain⟨fA,aQ⟩:=zFR gc ds [] r q (.same r q) tr u (.same r q) hs rfl rfl eb hr hq hu eJ gV (by grind[T.okB,zAm]) (by omega) rfl fb;have dp:E.app [(ds,dq ((T.same r q).set [].reverse u)),(r,dq (if q=[]then .same ds []else tr.set q.reverse .any))] [(ds,([]:List Nat).length+1),(r,q.length+1)]=E1:=by rw[ml];rfl
 rw[dp]at fA;refine(zJC fA hd f xs us res [(i,ds,u')] hc gk fJ gy).mono ?_
 rintro e w' ⟨v,rfl,S,G',hS,hk,gp⟩
 rw[←hE2]at gp;have hdds:d≠ds:=by have:=fJ.nodup;grind
 have h1:G'.hd r q=(G.tr ds [] r q).hd r q:=hk.hd r q (fun n hn=>by grind[wP]);have h2:G'.hd ds []=(G.tr ds [] r q).hd ds []:=hk.hd ds [] (fun n hn=>by grind[wP]);have fh:G'.hd r q=G'.hd ds []:=by grind
 obtain⟨fy,_⟩:=zFR gp r q ds [] tr2 u' u' v0 gA ay mP fh pt rfl ag eI (Ne.symm gV) (by omega) (by omega) hc3 hc4;refine⟨v,rfl,hK _ _ ⟨S,hS,ea,G'.tr r q ds [],?_⟩⟩;have hw:(if([]:List Nat)=[]then T.same r q else u'.set ([]:List Nat).reverse .any)=T.same r q:=if_pos rfl;rw[hw]at fy;exact fy
theorem zPE(f:FuncId)(xf:Operand)(xs:List Operand)(ats:Array TypeId)(us res:List T)(ho:o.op=.call { callee:=.value xf,args:=xs.toArray,argTypes:=ats })(gj:o.dst=dq d)(hd:d<Γ.N)
  (gu:∀args w,(callFunc f args).run P w=.ok (.enter f args) w)(hf:opT E xf=dq (.lit (.func (.func f) #[] #[])))
  (hc:FnC P f us res [])(gm:xs.length=us.length)(gk:∀(i:Nat) u,us[i]? =dq u→ ∃x,xs[i]? =dq x∧opT E x=dq u∧u.flat=du)(gy:yV res∧yI res=du):
  xR P Γ o E (E.app (cWr d res []) (wP d [])):=by
 intro a w K Q ⟨ea,G,gc⟩ hK;have hm:=gc.mem;refine zDI ho gj gu (xE gc hf).1 ?_;have fZ:∀b,¬zAK G [] b:=by rintro b ⟨s,z,_,h⟩;simp at h
 have cX:∀(us:List T),yV us∧yI us=du→ ∀u∈us,zT u∧u.okTup=du:=by
  intro us
  induction us with
  |nil=>simp
  |cons v us ih=>
   intro⟨h1,h2⟩ u hu;simp only[yI,J2]at h2;rcases Jq.1 hu with rfl|hu
   ·exact⟨h1.1,h2.1⟩
   ·exact ih ⟨h1.2,h2.2⟩ u hu
 have:=zGa gc hd (Sc:=Γ.St) (rw:=[]) (fun b x hx=>⟨hm.st b x hx,fZ b⟩) (fun _ _ h=>h) hc gm (fun i u hu=>by
   obtain⟨x,h1,h2,h3⟩:=gk i u hu;refine⟨x,h1,?_⟩;have aT:=zC8 (E:=E) u h3;cases x with
   |tmp s=>
    have gI:∀z,(G.arg a xs []).hd i z=G.hd s z:=by grind[Gh.arg]
    obtain⟨e1,e2,_⟩:=gc.ent s u h2;refine⟨?_,by grind[zI3]⟩;have:=zI8 (E:=E) gI u (aT.1 [] s)
    grind[xM]
   |const v=>
    simp only[opT]at h2;split at h2
    ·rename_i gn
     simp at h2;subst h2;have gI:(G.arg a xs []).hd i []=v:=by grind[Gh.arg,Act.eval,zAp]
     exact⟨by grind[mkV,Act.eval],by simp[R,gI]⟩
    ·cases h2
   |func f=>
    simp only[opT]at h2;simp at h2;subst h2;have gI:(G.arg a xs []).hd i []=.func (.func f) #[] #[]:=by grind[Gh.arg,Act.eval,qY,Value.oneCell']
    exact⟨by grind[mkV,Act.eval],by simp[R,gI]⟩
   |global g=>grind[opT]) (by simp) (by simp) (by simp)
  (fun u hu=>⟨by grind,by grind,fun S' G w s p hS h=>by
   have:aft Γ.St Γ.St S'=S':=funext (by grind[aft])
   grind⟩) (by simp)
 refine this.mono ?_
 rintro e w' ⟨v,rfl,S,G',hS,_,gp⟩
 exact⟨v,rfl,hK _ _ ⟨S,hS,ea,G',gp⟩⟩
end
end Go.Ab

namespace Go.Ab
open Go
def wQ:List (Nat×T)→Env
 | [],_=>dt
 |(k,t)::l,s=>if k=s then dq t else wQ l s
def Env.Has(E:Env):List (Nat×T)→Prop
 | []=>True
 |(s,t)::l=>E s=dq t∧E.Has l
theorem Env.Has.le{E:Env}:{l:List (Nat×T)}→E.Has l→ ∀s t,wQ l s=dq t→E s=dq t
 | [],_,s,t,h=>by grind[wQ]
 |(k,u)::l,hh,s,t,h=>by
  simp only[wQ]at h;split at h
  ·rename_i e
   subst e;rw[hh.1];exact h
  ·exact hh.2.le s t h
theorem Sim.weaken{Γ:Ctx}{E E':Env}{a:Act}{w:World}(h:Sim Γ E a w)(ci:∀s t,E' s=dq t→E s=dq t):Sim Γ E' a w:=by obtain⟨h1,G,h2⟩:=h;exact⟨h1,G,⟨h2.size,fun s t hs=>h2.ent s t (ci s t hs),h2.mem⟩⟩
theorem qW.weaken{Γ:Ctx}{E E':Env}{a:Act}{w:World}(h:qW Γ E a w)(ci:∀s t,E' s=dq t→E s=dq t):qW Γ E' a w:=by obtain⟨S,h1,h2⟩:=h;exact⟨S,h1,h2.weaken ci⟩
abbrev sQ:=List (Nat×Value)
def sQ.Hold(pn:sQ)(a:Act):Prop:=∀x∈pn,a.tmps[x.1]? =dq x.2
def sQ.ok(pn:sQ)(d:Option Nat):Bool:=match d with
 |none=>du
 |some d=>pn.all fun x=>x.1 != d
theorem Oper.wp_frame{P:Program}{o:Oper}{a:Act}{w:World}{K:Act→World→Prop}{Q:Exit→Act→World→Prop}(h:o.wp P a w K Q):
  o.wp P a w (fun a' w'=>K a' w'∧ ∀s,o.dst≠dq s→a'.tmps[s]? =a.tmps[s]?) Q:=by
 have key:∀(v:Value)(ds:List Deferred),∀s,o.dst≠dq s→(({ a with defers:=ds }:Act).put o.dst v).tmps[s]? =a.tmps[s]?:=by
  intro v ds s hs;cases hd:o.dst with
  |none=>rfl
  |some d=>
   grind[Act.put]
 have key0:∀(v:Value),∀s,o.dst≠dq s→(a.put o.dst v).tmps[s]? =a.tmps[s]?:=fun v=>key v a.defers
 unfold Oper.wp at*
 generalize (execOp a.eval o).run P w=r at*
 cases r with
 |ok n w'=>
  cases n<;>simp only[Oper.upon]at h ⊢
  all_goals grind
 |halt x w'=>cases x<;>simp only[Oper.upon]at h ⊢ <;>exact h
theorem sQ.Hold.frame{pn:sQ}{a a':Act}{d:Option Nat}(h:pn.Hold a)(gH:pn.ok d=du)(hf:∀s,d≠dq s→a'.tmps[s]? =a.tmps[s]?):pn.Hold a':=by
 intro x hx;rw[hf x.1 ?_]
 ·exact h x hx
 ·rintro rfl
  have:=Jt.1 gH x hx
  grind
section
variable (P:Program) (Γ:Ctx) (pn:sQ)
def CW(c:Code)(E:Env)(Q:Exit→Env→Prop):Prop:=
 ∀(a:Act)(w:World)(Q':Exit→Act→World→Prop),qW Γ E a w→pn.Hold a→(∀e E' a' w',Q e E'→qW Γ E' a' w'→pn.Hold a'→Q' e a' w')→c.wp P Q' a w
def xC(ops:Array Oper)(o:Oper)(E E':Env):Prop:=
 ∀(a:Act)(w:World)(K:Act→World→Prop)(Q:Exit→Act→World→Prop),qW Γ E a w→(∀a' w',qW Γ E' a' w'→(∀s,o.dst≠dq s→a'.tmps[s]? =a.tmps[s]?)→K a' w')→
  if Region.wanted o (yielded ops a.tmps)then o.wp P a w K Q∨(o.asks P a w∧LetsOut Q)else K (a.put o.dst undef) w
def wpL(ops:Array Oper)(Q:Exit→Act→World→Prop):List Oper→Act→World→Prop
 | [],a,w=>Q .normal a w
 |o::os,a,w=>if Region.wanted o (yielded ops a.tmps)then o.wp P a w (wpL ops Q os) Q∨(o.asks P a w∧LetsOut Q)else wpL ops Q os (a.put o.dst undef) w
def RW(ops:Array Oper)(os:List Oper)(E:Env)(Q:Exit→Env→Prop):Prop:=
 ∀(a:Act)(w:World)(Q':Exit→Act→World→Prop),qW Γ E a w→pn.Hold a→(∀e E' a' w',Q e E'→qW Γ E' a' w'→pn.Hold a'→Q' e a' w')→wpL P ops Q' os a w
end
section
variable {P:Program}{Γ:Ctx}{pn:sQ}{E E':Env}{Q Q1:Exit→Env→Prop}{c c1 c2:Code}{ops:Array Oper}{o:Oper}{os:List Oper}{d:Nat}
theorem zI9{Q':Exit→Act→World→Prop}:∀(os:List Oper)(n:Nat)(a:Act)(w:World),ops.toList.drop n=os→wpL P ops Q' os a w→wpOps P ops Q' (U1 n os.length) a w
 | [],n,a,w,_,h=>by simpa[wpOps,wpL]using h
 |o::os,n,a,w,hd,h=>by
  have ho:ops[n]? =dq o:=by
   have:=congrArg (·[0]?) hd
   grind
  have pI:ops.toList.drop (n+1)=os:=by
   have:=congrArg List.tail hd
   grind[List.tail_drop]
  simp only[Ki,Qr,wpOps,ho];simp only[wpL]at h;split
  ·rename_i hw
   simp only[hw,if_true]at h;exact h.imp (Oper.wp_mono fun a w=>zI9 os (n+1) a w pI) id
  ·rename_i hw
   simp only[hw]at h;exact zI9 os (n+1) _ w pI h
theorem CW.region{id:Nat}(h:RW P Γ pn ops ops.toList E Q):CW P Γ pn (.region id ops dv) E Q:=by
 intro a w Q' hs hp hQ;refine wp_region ?_;have:=zI9 (P:=P) ops.toList 0 a w (by simp) (h a w Q' hs hp hQ)
 grind[List.range_eq_range']
theorem RW.nil(h:Q .normal E):RW P Γ pn ops [] E Q:=fun a w Q' hs hp hQ=>by
 simp only[wpL]
 grind
theorem RW.cons(h1:xC P Γ ops o E E')(h3:RW P Γ pn ops os E' Q)(h2:pn.ok o.dst=du:=by rfl):RW P Γ pn ops (o::os) E Q:=by
 intro a w Q' hs hp hQ;simp only[wpL];have:=h1 a w (wpL P ops Q' os) Q' hs fun a' w' gR hf=>h3 a' w' Q' gR (hp.frame h2 hf) hQ
 exact this
theorem xC.op(h:∀S,xR P (Γ.at S) o E E')(hg:o.guard=dt:=by rfl):xC P Γ ops o E E':=by
 intro a w K Q hs hK;have hw:Region.wanted o (yielded ops a.tmps)=du:=by simp[Region.wanted,hg]
 rw[if_pos hw];refine .inl ?_;obtain⟨S,hS,hs⟩:=hs;have:=Oper.wp_frame (h S a w (fun a' w'=>qW Γ E' a' w') Q hs fun a' w' h=>h.up hS)
 grind[Oper.wp_mono]
theorem zGb{a:Act}{w:World}(hs:qW Γ E a w){g s:Nat}{b:Bool}(gP:(ops[g]?).bind (·.dst)=dq s)(h:E s=dq (.lit (.bool b))):yielded ops a.tmps g=dq b:=by
 obtain⟨_,_,_,G,hr⟩:=hs;obtain⟨h1,h2,_⟩:=hr.ent s _ h;simp only[R]at h2
 grind[yielded,mkV]
theorem xC.guard(g:Nat)(b:Bool)(s:Nat)(h:∀S,xR P (Γ.at S) o E E')(hg:o.guard=dq (g,b):=by rfl)(gP:(ops[g]?).bind (·.dst)=dq s:=by rfl)(hb:E s=dq (.lit (.bool b)):=by rfl):xC P Γ ops o E E':=by
 intro a w K Q hs hK;have hw:Region.wanted o (yielded ops a.tmps)=du:=by grind[Region.wanted,zGb]
 rw[if_pos hw];refine .inl ?_;obtain⟨S,hS,hs⟩:=hs;have:=Oper.wp_frame (h S a w (fun a' w'=>qW Γ E' a' w') Q hs fun a' w' h=>h.up hS)
 grind[Oper.wp_mono]
def zM(Γ:Ctx)(E E':Env):Prop:=∀(a:Act)(w:World),qW Γ E a w→qW Γ E' a w
theorem zM.refl:zM Γ E E:=fun _ _ h=>h
theorem zM.trans{E1 E2 E3:Env}(h:zM Γ E1 E2)(h':zM Γ E2 E3):zM Γ E1 E3:=fun a w hs=>h' a w (h a w hs)
theorem zM.has{l:List (Nat×T)}(h:E.Has l):zM Γ E (wQ l):=fun _ _ hs=>hs.weaken h.le
theorem CW.ghost(h1:zM Γ E E')(h:CW P Γ pn c E' Q):CW P Γ pn c E Q:=fun a w Q' hs=>h a w Q' (h1 a w hs)
theorem RW.ghost(h1:zM Γ E E')(h:RW P Γ pn ops os E' Q):RW P Γ pn ops os E Q:=fun a w Q' hs=>h a w Q' (h1 a w hs)
theorem CW.to(l:List (Nat×T))(h1:E.Has l)(h:CW P Γ pn c (wQ l) Q):CW P Γ pn c E Q:=h.ghost (.has h1)
theorem CW.mono(h:CW P Γ pn c E Q1)(hq:∀e E',Q1 e E'→Q e E'):CW P Γ pn c E Q:=fun a w Q' hs hp hQ=>h a w Q' hs hp (by grind)
theorem CW.skip(h:Q .normal E):CW P Γ pn .skip E Q:=fun _ _ _ hs hp hQ=>by grind[wp_skip]
theorem CW.ret(h:Q .ret E):CW P Γ pn .ret E Q:=fun _ _ _ hs hp hQ=>by grind[wp_ret]
theorem CW.exit{id:Nat}(h:Q (.exit id) E):CW P Γ pn (.exit id) E Q:=fun _ _ _ hs hp hQ=>by grind[wp_exit]
def zS(P:Program)(Γ:Ctx)(pn:sQ)(c:Code)(Q:Exit→Env→Prop):Exit→Env→Prop
 |.normal,E=>CW P Γ pn c E Q
 |e,E=>Q e E
theorem CW.seq(h:CW P Γ pn c1 E (zS P Γ pn c2 Q)):CW P Γ pn (.seq c1 c2) E Q:=by
 intro a w Q' hs hp hQ;refine wp_seq (h a w _ hs hp fun e E' a' w' h1 gR fK=>?_);cases e with
 |normal=>exact h1 a' w' Q' gR fK hQ
 |_=>exact hQ _ _ _ _ h1 gR fK
theorem CW.cond{x:Operand}(b:Bool)(hb:opT E x=dq (.lit (.bool b)))(ht:b=du→CW P Γ pn c1 E Q)(hf:b=dv→CW P Γ pn c2 E Q):CW P Γ pn (.cond x c1 c2) E Q:=by intro a w Q' hs hp hQ;obtain⟨_,_,_,G,hr⟩:=id hs;refine wp_cond_split (xE hr hb).1 (fun h=>ht h a w Q' hs hp hQ) (fun h=>hf h a w Q' hs hp hQ)
def zV(id:Nat)(Q:Exit→Env→Prop):Exit→Env→Prop
 |.exit id',E=>if id'=id then Q .normal E else Q (.exit id') E
 |e,E=>Q e E
theorem CW.block{id:Nat}(h:CW P Γ pn c E (zV id Q)):CW P Γ pn (.block id c) E Q:=by
 intro a w Q' hs hp hQ;refine wp_block (h a w _ hs hp fun e E' a' w' h1 gR fK=>?_);cases e with
 |exit id'=>
  simp only[zV]at h1;simp only[Exit.inBlock]
  grind
 |_=>exact hQ _ _ _ _ h1 gR fK
end
def yY{σ ρ:Type}(body:σ→Option (σ⊕ρ)):Nat→σ→Option ρ
 |0,_=>dt
 |n+1,s=>match body s with
  |none=>dt
  |some (.inl s')=>yY body n s'
  |some (.inr r)=>dq r
theorem zGc{σ ρ:Type}{body:σ→Option (σ⊕ρ)}{r:ρ}:∀{n m:Nat}{s:σ},yY body n s=dq r→n≤m→yY body m s=dq r
 |0,_,_,h,_=>by grind[yY]
 |n+1,0,_,_,hm=>by omega
 |n+1,m+1,s,h,hm=>by
  simp only[yY]at h ⊢
  cases hb:body s with
  |none=>grind
  |some x=>
   cases x with
   |inl s'=>simp only[hb]at h ⊢;exact zGc h (by omega)
   |inr r'=>grind
open Classical in
noncomputable def zG {σ ρ:Type} (body:σ→Option (σ⊕ρ)) (s:σ):Option ρ:=
 if h:∃(n:Nat)(r:ρ),yY body n s=dq r then dq h.choose_spec.choose else dt
theorem zBB{σ ρ:Type}{body:σ→Option (σ⊕ρ)}{s:σ}{r:ρ}:zG body s=dq r↔ ∃n,yY body n s=dq r:=by
 unfold zG;constructor
 ·intro h
  split at h
  all_goals grind
 ·rintro⟨n,hn⟩
  have he:∃(n:Nat)(r:ρ),yY body n s=dq r:=⟨n,r,hn⟩;rw[dif_pos he]
  grind[zGc]
theorem yN{σ ρ:Type}(body:σ→Option (σ⊕ρ))(s:σ):zG body s=match body s with
  |none=>dt
  |some (.inl s')=>zG body s'
  |some (.inr r)=>dq r:=by
 apply Option.ext;intro r;rw[zBB];cases hb:body s with
 |none=>
  simp only[reduceCtorEq,iff_false]
  rintro⟨n,hn⟩
  cases n<;>simp[yY,hb]at hn
 |some x=>
  cases x with
  |inl s'=>
   simp only[];rw[zBB];constructor
   ·rintro⟨n,hn⟩
    cases n with
    |zero=>grind[yY]
    |succ n=>grind[yY]
   ·rintro⟨n,hn⟩
    exact⟨n+1,by grind[yY]⟩
  |inr r'=>
   simp only[Lw.injEq];constructor
   ·rintro⟨n,hn⟩
    cases n with
    |zero=>grind[yY]
    |succ n=>grind[yY]
   ·rintro rfl
    exact⟨1,by simp[yY,hb]⟩
section
variable {P:Program}{Γ:Ctx}{pn:sQ}{E:Env}{Q:Exit→Env→Prop}{c:Code}
def yQ{σ ρ:Type}(Γ:Ctx)(en:σ→Env)(Q:ρ→Exit→Env→Prop)(x:σ⊕ρ):Exit→Env→Prop:=fun e E'=>
 match x with
 |.inl s'=>e=.normal∧zM Γ E' (en s')
 |.inr r=>e≠.normal∧Q r e E'
theorem zDa{p:Nat→Prop}(h:∃m,p m):∃m,p m∧ ∀k,k<m→ ¬p k:=by
 refine Classical.byContradiction fun hn=>?_
 have key:∀n,∀k,k<n→ ¬p k:=by
  intro n
  induction n with
  |zero=>simp
  |succ n ih=>
   grind
 grind
theorem CW.loop{σ ρ:Type}(body:σ→Option (σ⊕ρ))(en:σ→Env)(Q:ρ→Exit→Env→Prop)(h:∀s x,body s=dq x→CW P Γ pn c (en s) (yQ Γ en Q x)){s:σ}{r:ρ}(hr:zG body s=dq r):
  CW P Γ pn (.loop c) (en s) (Q r):=by
 classical
 intro a w Q' hs hp hQ
 let p:Act→World→Nat→Prop:=fun a w m=> ∃s,yY body m s=dq r∧qW Γ (en s) a w∧pn.Hold a
 let μ:Act→World→Nat:=fun a w=>if h:∃m,p a w m then(zDa h).choose else 0
 obtain⟨n,hn⟩:=zBB.1 hr;refine wp_loop (fun a w=> ∃m,p a w m) μ (by grind) ?_;intro a w cZ;have hμ:μ a w=(zDa cZ).choose:=dif_pos cZ;obtain⟨s,h1,h2,h3⟩:=(zDa cZ).choose_spec.1;have eK:=(zDa cZ).choose_spec.2;rw[←hμ]at h1;cases hm:μ a w with
 |zero=>grind[yY]
 |succ k=>
  rw[hm]at h1;simp only[yY]at h1;cases hb:body s with
  |none=>grind
  |some x=>
   refine h s x hb a w _ h2 h3 fun e E' a' w' hq gR fK=>?_
   cases x with
   |inl s'=>
    simp only[hb]at h1;obtain⟨rfl,hg⟩:=hq;have hp2:p a' w' k:=⟨s',h1,hg a' w' gR,fK⟩;refine⟨⟨k,hp2⟩,?_⟩;have hex':∃m,p a' w' m:=⟨k,hp2⟩
    grind
   |inr r'=>
    simp only[hb]at h1;have:r'=r:=by grind
    subst this;obtain⟨gf,hq⟩:=hq;have:=hQ e E' a' w' hq gR fK;cases e with
    |normal=>grind
    |_=>exact this
end
end Go.Ab

namespace Go.Ab
open Go
abbrev Nds:=List (Nat×List Nat×T)
def ROk(P:Program)(E:Env):ResultVar→(Nat×List Nat×T)→Prop
 |.tmp s,x=>x.1=s∧x.2.1=[]∧E s=dq x.2.2∧x.2.2.okTup=du
 |.cell a T,x=>x.1=a∧x.2.1=[0]∧E a=dq (.ptr x.2.2)∧ ∃ds ti,P.underlying T=dq ds∧P.info? T=dq ti∧zEn ds= !x.2.2.single∧ti.size=x.2.2.size
def zFj(P:Program)(E:Env):List ResultVar→Nds→Prop
 | [],[]=>True
 |x::xs,y::ys=>ROk P E x y∧zFj P E xs ys
 |_,_=>False
def LOk(E:Env)(us:List T):List (Nat×T)→Prop
 | []=>True
 |(i,u')::l=>(E i=dq u'∧ ∃u,us[i]? =dq u)∧LOk E us l
def zXt(P:Program)(rs:Array ResultVar)(us res:List T)(rws:List (Nat×T)):Exit→Env→Prop:=fun e E=>
 (e=.ret∨e=.normal)∧ ∃nd:Nds,zFj P E rs.toList nd∧nd.map (·.2.2)=res∧(∀x∈nd,us.length≤x.1)∧(nd.map (·.1)).Nodup∧LOk E us rws
def zCd(v:Nat→Value)(is:List Nat):sQ:=is.map fun i=>(i,v i)
def zHe:Nat→List T→List (Nat×T)
 |_,[]=>[]
 |i,u::us=>(i,u)::zHe (i+1) us
theorem zJE:∀(us:List T)(i s:Nat)(t:T),wQ (zHe i us) s=dq t→i≤s∧us[s-i]? =dq t
 | [],i,s,t,h=>by grind[zHe,wQ]
 |u::us,i,s,t,h=>by
  simp only[zHe,wQ]at h;split at h
  ·grind
  ·rename_i e
   obtain⟨h1,h2⟩:=zJE us (i+1) s t h
   grind
def zPF(tmps:Array Value):ResultVar→Sem Value
 |.tmp t=>pure (tmps.getD t undef)
 |.cell a t=>do loadVar t (←asAddr (tmps.getD a undef))
theorem zLy(fn:Func)(tmps:Array Value):results fn tmps=(do
  let vs ←fn.results.mapM (zPF tmps)
  pure (if h:vs.size=1 then vs[0]else .tuple vs)):=rfl
theorem vS.get:(xs:List T)→vS xs→ ∀(i:Nat)(x:T),xs[i]? =dq x→Top x
 | [],_,i,x,h=>by simp at h
 |y::ys,ht,i,x,h=>by
  simp only[vS]at ht;cases i with
  |zero=>simp at h;subst h;exact ht.1
  |succ i=>exact vS.get ys ht.2 i x (by simpa using h)
theorem LOk.get{E:Env}{us:List T}:(l:List (Nat×T))→LOk E us l→ ∀i u',(i,u')∈l→E i=dq u'∧ ∃u,us[i]? =dq u
 | [],_,_,_,h=>by simp at h
 |x::l,h,i,u',hm=>by
  rcases Jq.1 hm with rfl|hm
  ·exact h.1
  ·exact LOk.get l h.2 i u' hm
theorem zZb{P:Program}{Γ:Ctx}{E:Env}{G:Gh}{tmps:Array Value}{w:World}(gc:Rep Γ E G tmps w)(x:ResultVar)(s:Nat)(q:List Nat)(t:T)(h:ROk P E x (s,q,t)):
  (zPF tmps x).run P w=.ok (tM G s t q) w∧R Γ.St G w s t q:=by
 cases x with
 |tmp s'=>
  obtain⟨h0,mI,h1,h2⟩:=h;dsimp only at h0 mI h1 h2;subst h0 mI;obtain⟨g1,g2,_⟩:=gc.ent _ _ h1;have gX:∀xs,t≠.tup xs:=by rintro xs rfl;grind[T.okTup]
  refine⟨?_,g2⟩;rw[←kY G s t [] gX];simp[zPF,Kc,g1]
 |cell a T'=>
  obtain⟨h0,mI,h1,ds,ti,h2,h3,h4,h5⟩:=h;dsimp only at h0 mI h1 h4 h5;subst h0 mI;obtain⟨g1,g2,_⟩:=gc.ent _ _ h1;simp only[R]at g2;obtain⟨b,cs,e,k1,k2,k3,k4,k5,k6⟩:=g2;refine⟨?_,k6⟩;rw[xH rfl,k1]at g1;have h6:=zEP (w:=w) h2 h3 k5 h4 h5;simp[zPF,Kc,g1,asAddr,h6]
theorem zEW{P:Program}{Γ:Ctx}{E:Env}{G:Gh}{tmps:Array Value}{w:World}(gc:Rep Γ E G tmps w):(rs:List ResultVar)→(nd:Nds)→zFj P E rs nd→
  (rs.mapM (zPF tmps)).run P w=.ok (nd.map fun x=>tM G x.1 x.2.2 x.2.1) w∧ ∀x∈nd,R Γ.St G w x.1 x.2.2 x.2.1
 | [],[],_=>by simp
 |x::xs,y::ys,h=>by
  obtain⟨h1,h2⟩:=zEW gc xs ys h.2;obtain⟨h3,h4⟩:=zZb gc x y.1 y.2.1 y.2.2 h.1
  simp_all
 | [],_::_,h=>by simp[zFj]at h
 |_::_,[],h=>by simp[zFj]at h
theorem FnC.of_body{P:Program}{f:FuncId}{fn:Func}{c:Code}{us res:List T}{rws:List (Nat×T)}(hf:P.funcs[f]? =dq fn)(hb:fn.body=dq c)(hn:us.length≤fn.ntmps)(ht:vS us)(hr:rws.all (fun x=>decide (x.1<us.length))=du)
  (h:∀(Γ:Ctx)(v:Nat→Value),Γ.N=fn.ntmps→CW P Γ (zCd v (rws.map (·.1))) c (wQ (zHe 0 us)) (zXt P fn.results us res rws)):FnC P f us res rws:=by
 intro St W w G vs cz gk gz
 let Γ:Ctx:=⟨St,W,w,fn.ntmps⟩
 let v:Nat→Value:=fun i=>vs.getD i undef
 have hm:Mem Γ G w:=⟨gz.one,gz.lb,gz.ow,gz.st,gz.fr,gz.sz,gz.bk⟩;have gv:(vs++Gt (fn.ntmps-vs.size) undef).size=fn.ntmps:=by simp;omega
 have ak:Sim Γ (wQ (zHe 0 us)) { tmps:=vs++Gt (fn.ntmps-vs.size) undef,defers:=[] } w:=by
  refine⟨rfl,G,gv,?_,hm⟩;intro s t hs;obtain⟨_,h2⟩:=zJE us 0 s t hs;simp only[Qw]at h2;obtain⟨h3,h4⟩:=gk s t h2;have gF:s<vs.size:=by grind
  exact⟨by grind,h4,vS.get us ht s t h2⟩
 have aC:(zCd v (rws.map (·.1))).Hold { tmps:=vs++Gt (fn.ntmps-vs.size) undef,defers:=[] }:=by
  intro x hx;simp only[zCd,Ja]at hx;obtain⟨i,⟨y,hy,rfl⟩,rfl⟩:=hx;have h1:=Jt.1 hr y hy;simp at h1;have h2:y.1<vs.size:=by omega
  simp[Array.getElem?_append,h2,v]
 refine calls_of_wp hf hb (h Γ v rfl _ _ _ (.of ak) aC ?_)
 rintro e E' a' w' ⟨he,nd,h1,h2,h3,h4,h5⟩ ⟨S',gU,ea,G',gc⟩ hp
 obtain⟨g1,g2⟩:=zEW gc _ _ h1;have gy:(results fn a'.tmps).run P w'=.ok (zJ5 G' nd) w':=by
  rw[zLy,Array.mapM_eq_mapM_toList];simp only[Sem.run_bind,Sem.run_map,g1];cases nd with
  |nil=>simp[zJ5]
  |cons y ys=>
   cases ys with
   |nil=>simp[zJ5]
   |cons z zs=>simp[zJ5]
 have gB:Mem ⟨S',W,w,0⟩ G' w':=⟨gc.mem.one,gc.mem.lb,gc.mem.ow,gc.mem.st,gc.mem.fr,gc.mem.sz,gc.mem.bk⟩;have mc:bodyPost P fn (fun e w'=> ∃(S':Stb)(G':Gh)(nd:List (Nat×List Nat×T)),zCQ St S' W w.heap.size∧e=.returned (zJ5 G' nd)∧Mem ⟨S',W,w,0⟩ G' w'∧nd.map (·.2.2)=res∧
   (∀x∈nd,R S' G' w' x.1 x.2.2 x.2.1∧us.length≤x.1)∧(nd.map (·.1)).Nodup∧
   ∀i u',(i,u')∈rws→R S' G' w' i u' []∧ ∃u,us[i]? =dq u∧mkV G' i u' []=mkV G i u []) .ret a' w':=by
  refine⟨ea,_,gy,S',G',nd,gU,rfl,gB,h2,by grind,h4,?_⟩;intro i u' hiu;obtain⟨k1,u,k3⟩:=LOk.get _ h5 i u' hiu;obtain⟨k5,k6,_⟩:=gc.ent i u' k1;refine⟨k6,u,k3,?_⟩;have k7:=hp (i,v i) (by simp only[zCd,Ja];grind);have k8:=(gk i u k3).1;rw[k5]at k7;simp[v,Kc,k8]at k7;exact k7
 rcases he with rfl|rfl<;>exact mc
end Go.Ab

namespace Go.Ab
open Go
mutual
def wU:T→T
 |.sl k xs=>.ro (strip (.sl k xs))
 |.ptr t=>.ro (strip (.ptr t))
 |.agg xs=>.agg (vY xs)
 |.tup xs=>.tup (vY xs)
 |.any=>.any
 |.lit v=>.lit v
 |.ro t=>.ro t
 |.same r p=>.same r p
 |.addr r p=>.addr r p
 |.sub r p k lo hi=>.sub r p k lo hi
def vY:List T→List T
 | []=>[]
 |x::xs=>wU x::vY xs
end
mutual
theorem zPG(G:Gh)(s:Nat):(t:T)→ ∀p,vals G s (wU t) p=vals G s t p
 |.agg xs,p=>by simp only[wU,vals];exact zC9 G s xs p 0
 |.sl _ _,_|.ptr _,_|.tup _,_|.any,_|.lit _,_|.ro _,_|.same _ _,_|.addr _ _,_|.sub _ _ _ _ _,_=>by rfl
theorem zC9(G:Gh)(s:Nat):(xs:List T)→ ∀p j,zX G s (vY xs) p j=zX G s xs p j
 | [],_,_=>by rfl
 |x::xs,p,j=>by simp only[vY,zX,zPG G s x,zC9 G s xs]
end
theorem zPH(G:Gh)(s:Nat)(t:T)(p:List Nat):tM G s (wU t) p=tM G s t p:=by cases t<;>simp only[wU,tM,zC9]
theorem zJF(G:Gh)(s:Nat):(xs:List T)→ ∀p j,kX G s (vY xs) p j=kX G s xs p j
 | [],_,_=>by rfl
 |x::xs,p,j=>by simp only[vY,kX,zPH,zJF G s xs]
theorem zSL(G:Gh)(s:Nat)(t:T)(p:List Nat):mkV G s (wU t) p=mkV G s t p:=by cases t<;>simp only[wU,mkV,zC9,zJF]
mutual
theorem zJG:(t:T)→Top t→Top (wU t)
 |.agg xs,h|.tup xs,h=>by simp only[wU,Top]at h ⊢;exact zH8 xs h
 |.sl _ _,_|.ptr _,_|.any,_|.lit _,_|.ro _,_|.same _ _,_|.addr _ _,_|.sub _ _ _ _ _,_=>by simp only[wU,Top]
theorem zH8:(xs:List T)→vS xs→vS (vY xs)
 | [],_=>by grind[vY]
 |x::xs,h=>by simp only[vY,vS]at h ⊢;exact⟨zJG x h.1,zH8 xs h.2⟩
end
section
variable {St Sc:Stb}{G G':Gh}{w:World}{s:Nat} (gn:∀s p,(G.hd s p).oneCell'=du) (eg:∀b x,St b=dq x→Sc b=dq x) (eh:∀b,(∃y,G.ow b=dq (s,y))→Sc b=w.heap[b]?) (gI:∀s z,G'.hd s z=G.hd s z) (fd:∀s z,G'.ad s z=G.ad s z)
 include gn eg eh gI fd
mutual
theorem zVa:(t:T)→ ∀(p:List Nat),R St G w s t p→R Sc G' w s (wU t) p
 |.agg xs,p,hr|.tup xs,p,hr=>by simp only[wU,R]at hr ⊢;exact zPI xs p 0 hr
 |.sl k xs,p,hr=>by have:=zJ8 gn eg eh (.sl k xs) p rfl hr;simp only[wU,R,gI];exact this
 |.ptr t,p,hr=>by have:=zJ8 gn eg eh (.ptr t) p rfl hr;simp only[wU,R,gI];exact this
 |.ro u,p,hr=>by simp only[wU,R,gI]at hr ⊢;grind[uI]
 |.any,_,_=>by simp only[wU,R]
 |.lit _,_,hr|.same _ _,_,hr|.sub _ _ _ _ _,_,hr=>by simp only[wU,R,gI]at hr ⊢;exact hr
 |.addr _ _,_,hr=>by simp only[wU,R,gI,fd]at hr ⊢;exact hr
theorem zPI:(xs:List T)→ ∀(p:List Nat)(j:Nat),RF St G w s xs p j→RF Sc G' w s (vY xs) p j
 | [],_,_,_=>by have _:=gn;have _:=eg;have _:=eh;have _:=gI;have _:=fd;simp only[vY,RF]
 |x::xs,p,j,hr=>by simp only[vY,RF]at hr ⊢;exact⟨zVa x _ hr.1,zPI xs p (j+1) hr.2⟩
end
end
theorem zM.freeze{Γ:Ctx}{E:Env}(s:Nat)(t:T)(hs:E s=dq t):zM Γ E (E.app [(s,dq (wU t))] [(s,1)]):=by
 classical
 rintro a w ⟨S,hS,ea,G,gc⟩
 have hm:=gc.mem
 let own:Nat→Prop:=fun b=> ∃y,G.ow b=dq (s,y)
 let Sc:Stb:=fun b=>if own b then w.heap[b]? else S b
 let G':Gh:={ hd:=G.hd,ad:=G.ad,lb:=fun b o=>if own b then dt else G.lb b o,ow:=fun b=>if own b then dt else G.ow b }
 have eU:∀b x,S b=dq x→Sc b=dq x:=fun b x hx=>by
  have:¬own b:=by
   rintro⟨y,hy⟩
   have:=(hm.ow b _ hy).2.2
   grind
  grind
 have bE:zCQ S Sc Γ.W Γ.w0.heap.size:=⟨eU,fun b hb eF=>by
  by_cases h:own b
  ·obtain⟨y,hy⟩:=h
   exact(hm.ow b _ hy).2.1
  grind⟩
 have gz:Mem ((Γ.at S).at Sc) G' w:=by
  refine⟨hm.one,fun b o l hl=>?_,fun b l hl=>?_,fun b x hx=>?_,hm.fr,hm.sz,hm.bk⟩
  ·by_cases h:own b
   ·grind
   ·simp only[G',h,if_false]at hl
    have:=hm.lb b o l hl;exact⟨this.1,this.2.1,by simp only[Sc,h,if_false];exact this.2.2⟩
  ·by_cases h:own b
   ·grind
   ·simp only[G',h,if_false]at hl
    have:=hm.ow b l hl;exact⟨this.1,this.2.1,by simp only[Sc,h,if_false];exact this.2.2⟩
  ·by_cases h:own b
   ·grind
   ·simp only[Sc,h,if_false]at hx;exact hm.st b x hx
 have gw:qQ [(s,1)] G w G' w:=by
  have aG:∀b s0 y,G.ow b=dq (s0,y)→(∀n,(s0,n)∉([(s,1)]:Chg))→ ¬own b:=by grind
  refine⟨fun _ _ _=>rfl,fun _ _ _=>rfl,by grind,by grind,fun b cs e h=>⟨cs,h,rfl⟩⟩
  all_goals grind
 obtain⟨e1,e2,e3⟩:=gc.ent s t hs;refine⟨Sc,hS.trans bE,ea,G',gc.up eU rfl gw gz (fun s0 h0=>⟨fun n hn=>?_,rfl⟩) (fun s0 t0 h0=>?_)⟩
 ·grind[uZ]
 ·rw[uZ]at h0
  split at h0
  ·rename_i he;subst he
   simp at h0;subst h0;have hR:=zVa (G':=G') hm.one eU (fun b hb=>by grind) (fun _ _=>rfl) (fun _ _=>rfl) t [] e2;refine⟨?_,hR,zJG t e3⟩;rw[e1];have h1:mkV G' s (wU t) []=mkV G s (wU t) []:=zEm _ _ _ (fun _=>rfl);rw[h1,zSL]
  ·cases h0
end Go.Ab

namespace Go.Ab
open Go
abbrev zCe:=List (Wr×Chg)
def Env.apps(E:Env)(l:zCe):Env:=l.foldl (fun E x=>E.app x.1 x.2) E
structure Stp where
 rd:List (Nat×T)
 l:zCe
def tS(wr:Wr):List Nat:=wr.map (·.1)
def Stp.slots(X:Stp):List Nat:=X.l.flatMap fun x=>tS x.1
def oOk(chg:Chg):Option T→Bool
 |none=>du
 |some t=>t.okB chg
def zLz(chg:Chg)(wr:Wr):Bool:=wr.all fun x=>oOk chg x.2
def zOg(a b:List Nat):Bool:=a.all fun x=> !b.contains x
def zEv(a b:zCe):Bool:=a.all fun x=>b.all fun y=>zOg (tS x.1) (tS y.1)&&zLz y.2 x.1&&zLz x.2 y.1
def Stp.apart(a b:Stp):Bool:=zEv a.l b.l&&zOg a.slots (b.rd.map (·.1))&&zOg b.slots (a.rd.map (·.1))&&a.rd.all fun x=>b.l.all fun y=>x.2.okB y.2
theorem zEw{wr:Wr}{s:Nat}(h:s∉tS wr):wr.find s=dt:=by
 induction wr with
 |nil=>rfl
 |cons x wr ih=>
  simp only[tS,Jl,Jq,not_or]at h;simp only[Wr.find,Ne.symm h.1,if_false];exact ih h.2
theorem zH9{wr:Wr}{s:Nat}{x:Option T}(h:wr.find s=dq x):s∈tS wr∧ ∃y∈wr,y.2=x:=by
 induction wr with
 |nil=>grind[Wr.find]
 |cons y wr ih=>
  grind[Wr.find,tS]
theorem zGd{a b:List Nat}(h:zOg a b=du){s:Nat}(hs:s∈a):s∉b:=by
 have:=Jt.1 h s hs
 grind
theorem zPJ(E:Env)(w1 w2:Wr)(c1 c2:Chg)(h:zOg (tS w1) (tS w2)=du)(h1:zLz c2 w1=du)(h2:zLz c1 w2=du):
  (E.app w1 c1).app w2 c2=(E.app w2 c2).app w1 c1:=by
 funext s
 have ok:∀{c:Chg}{w:Wr}{s:Nat}{x:Option T},zLz c w=du→w.find s=dq x→(match x with|some t=>if t.okB c then dq t else dt|none=>dt)=x:=by
  intro c w s x hw hf;obtain⟨_,y,hy,rfl⟩:=zH9 hf;have:=Jt.1 hw y hy
  grind[oOk]
 unfold Env.app;cases hf1:w1.find s with
 |some x=>
  grind[zEw,zGd,zH9]
 |none=>
  grind
theorem zDb(w:Wr)(c:Chg):∀(l:zCe)(E:Env),(∀y∈l,zOg (tS w) (tS y.1)=du∧zLz y.2 w=du∧zLz c y.1=du)→(E.app w c).apps l=(E.apps l).app w c
 | [],E,_=>rfl
 |y::l,E,h=>by obtain⟨h1,h2,h3⟩:=h y (by simp);show((E.app w c).app y.1 y.2).apps l=_;rw[zPJ E w y.1 c y.2 h1 h2 h3];exact zDb w c l _ (by grind)
theorem zHA:∀(l1 l2:zCe)(E:Env),zEv l1 l2=du→(E.apps l1).apps l2=(E.apps l2).apps l1
 | [],l2,E,_=>rfl
 |x::l1,l2,E,h=>by simp only[zEv,Gk,J2]at h;show((E.app x.1 x.2).apps l1).apps l2=((E.apps l2).app x.1 x.2).apps l1;rw[zHA l1 l2 _ (by grind[zEv]),zDb x.1 x.2 l2 E (by grind)]
def runD:Env→List (Bool×Stp)→Env
 |E,[]=>E
 |E,(b,X)::l=>runD (if b then E.apps X.l else E) l
theorem zAb:∀(l1 l2:List (Bool×Stp))(E:Env),runD E (l1++l2)=runD (runD E l1) l2
 | [],_,_=>rfl
 |(b,X)::l1,l2,E=>by simp only[Gi,runD];exact zAb l1 l2 _
theorem zEx:∀(l:List (Bool×Stp))(X:Stp)(E:Env),(∀y∈l,y.1=du→zEv X.l y.2.l=du)→runD (E.apps X.l) l=(runD E l).apps X.l
 | [],_,_,_=>rfl
 |(b,Y)::l,X,E,h=>by
  simp only[runD];cases b with
  |false=>exact zEx l X E (by grind)
  |true=>
   have:=h (du,Y) (by simp) rfl;simp only[if_true];rw[zHA X.l Y.l E this];exact zEx l X _ (by grind)
theorem zGe{s:Nat}:∀(l:zCe)(E:Env),s∉l.flatMap (fun x=>tS x.1)→ ∀t,(E.apps l) s=dq t→E s=dq t
 | [],_,_,_,h=>h
 |x::l,E,hs,t,h=>by
  simp only[Lb,K6,not_or]at hs;have:=zGe l (E.app x.1 x.2) hs.2 t h
  grind[Env.app,zEw]
theorem zHB{s:Nat}{t:T}:∀(l:zCe)(E:Env),s∉l.flatMap (fun x=>tS x.1)→(∀y∈l,t.okB y.2=du)→E s=dq t→(E.apps l) s=dq t
 | [],_,_,_,h=>h
 |x::l,E,hs,gH,h=>by
  simp only[Lb,K6,not_or]at hs;refine zHB l (E.app x.1 x.2) hs.2 (by grind) ?_
  grind[Env.app,zEw]
theorem zHC{s:Nat}:∀(l:zCe)(E1 E2:Env),(∀t,E2 s=dq t→E1 s=dq t)→ ∀t,(E2.apps l) s=dq t→(E1.apps l) s=dq t
 | [],_,_,h,t,ht=>h t ht
 |x::l,E1,E2,h,t,ht=>by
  refine zHC l (E1.app x.1 x.2) (E2.app x.1 x.2) (fun u hu=>?_) t ht
  grind[Env.app]
theorem zHD{s:Nat}:∀(l:List (Bool×Stp))(E1 E2:Env),(∀y∈l,y.1=dv→s∉y.2.slots)→(∀t,E2 s=dq t→E1 s=dq t)→
  ∀t,runD E2 (l.map fun y=>(du,y.2)) s=dq t→runD E1 l s=dq t
 | [],_,_,_,h,t,ht=>h t ht
 |(b,X)::l,E1,E2,hl,h,t,ht=>by
  simp only[Jl,runD,if_true]at ht ⊢
  refine zHD l _ _ (by grind) (fun u hu=>?_) t ht;cases b with
  |true=>grind[zHC]
  |false=>exact h u (zGe X.l E2 (hl (dv,X) (by simp) rfl) u hu)
theorem zHE{s:Nat}{t:T}:∀(l:List (Bool×Stp))(E:Env),(∀y∈l,y.1=du→s∉y.2.slots∧ ∀z∈y.2.l,t.okB z.2=du)→E s=dq t→runD E l s=dq t
 | [],_,_,h=>h
 |(b,X)::l,E,hl,h=>by
  simp only[runD];refine zHE l _ (fun y hy=>hl y (by simp[hy])) ?_;cases b with
  |false=>exact h
  |true=>obtain⟨h1,h2⟩:=hl (du,X) (by simp) rfl;exact zHB X.l E h1 h2 h
theorem Env.Has.of{E E':Env}:{l:List (Nat×T)}→E.Has l→(∀s t,(s,t)∈l→E s=dq t→E' s=dq t)→E'.Has l
 | [],_,_=>trivial
 |(s,t)::l,h,h'=>⟨h' s t (by simp) h.1,Env.Has.of h.2 fun s t hm=>h' s t (by simp[hm])⟩
end Go.Ab

namespace Go.Ab
open Go
def zBp(o:Oper):List Nat:=(o.after.toList.filter (Region.binds .any)).map (·.on)
def zAQ:Nat→List Oper→Bool
 |_,[]=>du
 |i,o::os=>((zBp o).all fun m=>decide (m<i))&&zAQ (i+1) os
def zAr(an:List (List Nat)):List (List Nat)→List Oper→Bool
 | [],_=>du
 |_::_,[]=>dv
 |l::ls,o::os=>(l.all fun k=>(zBp o).contains k||(zBp o).any fun m=>(an.getD m []).contains k)&&zAr an ls os
def jO(Xs:List Stp):Nat→List (List Nat)→List Stp→Bool
 |_,_,[]=>du
 |j,an,Y::Ys=>((Jf j).all fun i=>(an.headD []).contains i||match Xs[i]? with
   |some X=>X.apart Y
   |none=>du)&&jO Xs (j+1) an.tail Ys
theorem zFw:∀(os:List Oper)(i0 j:Nat)(o:Oper),zAQ i0 os=du→os[j]? =dq o→ ∀m∈zBp o,m<i0+j
 | [],_,j,_,_,h=>by simp at h
 |x::os,i0,j,o,hf,h=>by
  simp only[zAQ,J2]at hf;cases j with
  |zero=>
   grind
  |succ j=>
   intro m hm;have:=zFw os (i0+1) j o hf.2 (by grind) m hm;omega
theorem zIA(an:List (List Nat)):∀(ls:List (List Nat))(os:List Oper)(j:Nat)(l:List Nat),zAr an ls os=du→ls[j]? =dq l→ ∃o,os[j]? =dq o∧ ∀k∈l,k∈zBp o∨ ∃m∈zBp o,k∈an.getD m []
 | [],_,j,_,_,h=>by simp at h
 |_::_,[],_,_,h,_=>by grind[zAr]
 |x::ls,o::os,j,l,ha,h=>by
  simp only[zAr,J2]at ha;cases j with
  |zero=>
   simp_all
  |succ j=>
   obtain⟨o',h1,h2⟩:=zIA an ls os j l ha.2 (by grind)
   grind
theorem zEy(Xs:List Stp):∀(Ys:List Stp)(j0:Nat)(an:List (List Nat))(j:Nat)(Y:Stp),jO Xs j0 an Ys=du→Ys[j]? =dq Y→ ∀i X,i<j0+j→Xs[i]? =dq X→i∈an.getD j []∨X.apart Y=du
 | [],_,_,j,_,_,h=>by simp at h
 |Z::Ys,j0,an,j,Y,hp,h=>by
  simp only[jO,J2]at hp;intro i X hi hX;cases j with
  |zero=>
   simp at h;subst h;have:=Jt.1 hp.1 i (by grind);simp only[hX,Bool.or_eq_true,Li,decide_eq_true_eq]at this;rcases this with h|h
   ·left
    cases an with
    |nil=>simp at h
    |cons l an=>grind
   grind
  |succ j=>
   rcases zEy Xs Ys (j0+1) an.tail j Y hp.2 (by grind) i X (by omega) hX with h|h
   all_goals grind
section
variable {P:Program}{Γ:Ctx}{pn:sQ}{ops:Array Oper}
def zPK(ops:Array Oper)(L:List Bool):Prop:=∀(i:Nat)(o:Oper),ops[i]? =dq o→L[i]? =dq du→ ∀m∈zBp o,L[m]? =dq du
theorem zGf{L:List Bool}{an:List (List Nat)}(hf:zAQ 0 ops.toList=du)(ha:zAr an an ops.toList=du)(hc:zPK ops L):
  ∀(n i:Nat),i≤n→ ∀o,ops[i]? =dq o→(∀m∈zBp o,L[m]? =dq du)→ ∀k∈an.getD i [],L[k]? =dq du:=by
 intro n
 induction n with
 |zero=>
  intro i hi o ho hp k hk;have aP:i=0:=by omega
  subst aP;cases hl:an[0]? with
  |none=>grind
  |some l=>
   obtain⟨o',h1,h2⟩:=zIA an an ops.toList 0 l ha hl;rw[Kh,ho]at h1;simp at h1;subst h1;simp only[Ja8,hl,Gu]at hk;rcases h2 k hk with h|⟨m,h,_⟩
   ·grind
   ·have:=zFw ops.toList 0 0 o hf (by grind) m h
    omega
 |succ n ih=>
  intro i hi o ho hp k hk;cases hl:an[i]? with
  |none=>grind
  |some l=>
   obtain⟨o',h1,h2⟩:=zIA an an ops.toList i l ha hl;rw[Kh,ho]at h1;simp at h1;subst h1;simp only[Ja8,hl,Gu]at hk;rcases h2 k hk with h|⟨m,h,hkm⟩
   ·grind
   ·have gF:=zFw ops.toList 0 i o hf (by grind) m h
    have hLm:=hp m h;cases th:ops[m]? with
    |none=>
     grind
    |some om=>exact ih m (by omega) om th (hc m om th hLm) k hkm
theorem zHF{L:List Bool}{Xs:List Stp}{i:Nat}{b:Bool}{X:Stp}(hL:L[i]? =dq b)(hX:Xs[i]? =dq X):L.zip Xs=(L.take i).zip (Xs.take i)++(b,X)::(L.drop (i+1)).zip (Xs.drop (i+1)):=by
 have h1:L=L.take i++b::L.drop (i+1):=by obtain⟨h,rfl⟩:=Jb.1 hL;simp
 have h2:Xs=Xs.take i++X::Xs.drop (i+1):=by obtain⟨h,rfl⟩:=Jb.1 hX;simp
 grind[List.zip_cons_cons]
theorem zIB{L:List Bool}{Xs:List Stp}{y:Bool×Stp}(h:y∈L.zip Xs):∃j:Nat,L[j]? =dq y.1∧Xs[j]? =dq y.2:=by grind[Ue,List.getElem?_zip_eq_some]
def tT:Env→List Stp→Prop
 |_,[]=>True
 |E,X::Xs=>E.Has X.rd∧tT (E.apps X.l) Xs
theorem tT.get:∀(Xs:List Stp)(E:Env),tT E Xs→ ∀(i:Nat)(X:Stp),Xs[i]? =dq X→(runD E ((Xs.take i).map fun y=>(du,y))).Has X.rd
 | [],_,_,i,_,h=>by simp at h
 |Y::Xs,E,hh,i,X,h=>by
  cases i with
  |zero=>simp at h;subst h;simpa[runD]using hh.1
  |succ i=>
   have:=tT.get Xs _ hh.2 i X (by grind)
   grind[runD]
theorem Stp.apart_spec{a b:Stp}(h:a.apart b=du):zEv a.l b.l=du∧(∀s∈a.slots,s∉b.rd.map (·.1))∧(∀s∈b.slots,s∉a.rd.map (·.1))∧ ∀x∈a.rd,∀y∈b.l,x.2.okB y.2=du:=by simp only[Stp.apart,J2]at h;refine⟨h.1.1.1,by grind[zGd],by grind[zGd],fun x hx y hy=>?_⟩;exact Jt.1 (Jt.1 h.2 x hx) y hy
mutual
theorem zMM:(t:T)→t.okB []=du
 |.same _ _|.addr _ _|.sub _ _ _ _ _=>by rfl
 |.agg xs|.tup xs=>by simp only[T.okB];exact zJH xs
 |.any|.lit _|.ro _|.sl _ _|.ptr _=>by rfl
theorem zJH:(xs:List T)→zJp [] xs=du
 | []=>by rfl
 |x::xs=>by simp only[zJp,zMM x,zJH xs,Ku]
end
theorem Rep.heap{E:Env}{G:Gh}{tmps:Array Value}{w w':World}(h:Rep Γ E G tmps w)(hw:w'.heap=w.heap)(ho:w'.os=w.os:=by rfl)(hq:w'.output=w.output:=by rfl):Rep Γ E G tmps w' where
 size:=h.size
 ent s t hs:=Ent.keep (chg:=[]) ⟨fun _ _ _=>rfl,fun _ _ _=>rfl,by grind[yH,World.cell?],fun _ _ _ h _=>h,fun b cs e h=>⟨cs,by grind,rfl⟩⟩ (by simp) (zMM t) (h.ent s t hs)
 mem:=by
  have hm:=h.mem;exact⟨hm.one,fun b o l hl=>by have:=hm.lb b o l hl;exact⟨by rw[hw];exact this.1,this.2⟩,fun b l hl=>by have:=hm.ow b l hl;exact⟨by rw[hw];exact this.1,this.2⟩,
   fun b x hx=>by rw[hw];exact hm.st b x hx,fun b h1 h2=>by rw[hw];exact hm.fr b h1 h2,by rw[hw];exact hm.sz,hm.bk.trans (fun b cs e hb=>⟨cs,by grind,rfl⟩) ho hq⟩
end
end Go.Ab

namespace Go.Ab
open Go
abbrev I(n:Int):T:=.lit (.int .i64 n)
abbrev B(b:Bool):T:=.lit (.bool b)
abbrev L{α:Type}(k:Nat)(f:α→T)(xs:List α):T:=.sl k (xs.map f)
theorem zL{P:Program}{t:TypeId}{ti:TypeInfo}(h:P.types[t]? =dq ti):P.info? t=dq ti:=by grind[Tables.info?]
def Ok(P:Program)(Γ:Ctx)(o:Oper)(E E':Env):Prop:=∀S,xR P (Γ.at S) o E E'
section
variable {P:Program}{Γ:Ctx}{pn:sQ}{ops:Array Oper}{o:Oper}{os:List Oper}{E E':Env}{Q:Exit→Env→Prop}{d:Nat}
theorem RW.op(h:Ok P Γ o E E')(k:RW P Γ pn ops os E' Q)(hg:o.guard=dt:=by rfl)(hp:pn.ok o.dst=du:=by rfl):RW P Γ pn ops (o::os) E Q:=RW.cons (xC.op h hg) k hp
def neD(x:Operand)(d:Nat):Bool:=match x with
 |.tmp s=>s != d
 |_=>du
theorem zDJ{x:Operand}{d:Nat}(h:neD x d=du):∀s,x=.tmp s→s≠d:=by rintro s rfl;grind[neD]
theorem zBq{t:T}(h:t.okTup=du):∀xs,t≠.tup xs:=by rintro xs rfl;grind[T.okTup]
abbrev mvB(Γ:Ctx)(x:Operand)(t:T)(d:Nat):Bool:=J3 d Γ.N&&t.okTup&&neD x d&&T.okB [(d,0)] (uE x t)
section
variable {x y:Operand}{t:T}{ty:TypeId}{ps:String}{af:Array Edge}{gd:Option (Nat×Bool)}
theorem zY{a b:Nat}(h:J3 a b=du):a<b:=by grind[Nat.blt_eq]
theorem zL0(hx:opT E x=dq t)(sd:mvB Γ x t d=du):Ok P Γ ⟨dq d,.move x,ty,ps,af,gd⟩ E (E.app [(d,dq (uE x t))] [(d,0)]):=by simp only[mvB,J2]at sd;exact fun S=>zM4 x t (.inl rfl) rfl (zY sd.1.1.1) hx (zBq sd.1.1.2) (zDJ sd.1.2) sd.2
theorem zSM(hx:opT E x=dq t)(sd:mvB Γ x t d=du):Ok P Γ ⟨dq d,.assign x,ty,ps,af,gd⟩ E (E.app [(d,dq (uE x t))] [(d,0)]):=by simp only[mvB,J2]at sd;exact fun S=>zM4 x t (.inr rfl) rfl (zY sd.1.1.1) hx (zBq sd.1.1.2) (zDJ sd.1.2) sd.2
def inR(n:Int):Bool:=decide (-9223372036854775808≤n)&&decide (n≤9223372036854775807)
theorem zBr{n:Int}(h:inR n=du):IntKind.i64.wrap n=n:=by
 simp only[inR,J2,decide_eq_true_eq]at h;have hb:IntKind.i64.bits=64:=rfl;have hs:IntKind.i64.signed=du:=rfl;simp only[IntKind.wrap,hb,hs,Uo]
 grind
def rng(n:Int):Option Int:=if inR n then dq n else dt
theorem zCf{n m:Int}(h:rng n=dq m):m=n∧inR n=du:=by grind[rng]
theorem zPL{m n c:Int}{xt yt:TypeId}(hv:rng (m+n)=dq c)(hx:opT E x=dq (I m))(hy:opT E y=dq (I n))(sd:J3 d Γ.N=du):Ok P Γ ⟨dq d,.binOp .add xt x y yt,ty,ps,af,gd⟩ E (E.app [(d,dq (I c))] [(d,0)]):=by obtain⟨rfl,h⟩:=zCf hv;exact fun S=>vM .add xt yt x y .i64 m n _ rfl rfl (zY sd) hx hy (by grind[zIv,zBr])
theorem zVb{m n:Int}{xt yt:TypeId}(hx:opT E x=dq (I m))(hy:opT E y=dq (I n))(sd:J3 d Γ.N=du):Ok P Γ ⟨dq d,.binOp .lss xt x y yt,ty,ps,af,gd⟩ E (E.app [(d,dq (B (decide (m<n))))] [(d,0)]):=
 fun _S=>vM .lss xt yt x y .i64 m n _ rfl rfl (zY sd) hx hy rfl
theorem zPM(k:Nat)(sd:J3 d Γ.N=du):Ok P Γ ⟨dq d,.assign (.const (.slice dt 0 0)),ty,ps,af,gd⟩ E (E.app [(d,dq (.sl k []))] [(d,0)]):=
 fun _=>zJw k _ (.inr rfl) rfl rfl (zY sd)
def zZ(n:Int):Option Nat:=if 0≤n∧n≤68719476736 then dq n.toNat else dt
theorem zGg{n:Int}{m:Nat}(h:zZ n=dq m):n=(m:Int)∧m≤68719476736:=by grind[zZ]
class ElT (P:Program) (t:TypeId) (e:outParam TypeId) (ti:outParam TypeInfo) (k:outParam Nat) (u:outParam T):Prop where
 un:P.underlying t=dq (.slice e)
 info:P.info? e=dq ti
 zero:∃z,ti.zero=dq z∧tG u=z.cells.toList
 size:ti.size=k
 pos:0<k
 zok:u.zOk=du
 us:u.size=k
 bytes:ti.bytes≤2048
theorem zVB{t e:TypeId}{ti:TypeInfo}{k:Nat}{u:T}{n m:Nat}{a b:Int}(ht:ElT P t e ti k u)(hn:zZ a=dq n)(hx:opT E x=dq (I a))(hm:zZ b=dq m)(hy:opT E y=dq (I b))(fN:n≤m)(sd:J3 d Γ.N=du):
  Ok P Γ ⟨dq d,.makeSlice t x y,ty,ps,af,gd⟩ E (E.app [(d,dq (.sl k (J1 n u)))] [(d,0)]):=by
 obtain⟨rfl,h1⟩:=zGg hn;obtain⟨rfl,h2⟩:=zGg hm;obtain⟨z,hz,hv⟩:=ht.zero;exact fun S=>zSG t e ti z u k x y n m .i64 .i64 rfl rfl (zY sd) ht.un ht.info hz ht.size ht.pos ht.zok hv ht.us (H6 ht.bytes (by decide)) hx hy fN h2
end
end
end Go.Ab

namespace Go.Ab
open Go
def ixO{α:Type}(xs:List α)(i:Int):Option α:=if 0≤i then xs[i.toNat]? else dt
theorem vJ{α:Type}{xs:List α}{i:Int}{v:α}(h:ixO xs i=dq v):0≤i∧xs[i.toNat]? =dq v:=by grind[ixO]
def zAs:T→Bool
 |.same _ _=>dv
 |_=>du
theorem zHf{E:Env}{s r:Nat}{q:List Nat}{t u:T}(h1:E s=dq (.same r q))(h2:E r=dq t)(h3:t.get q.reverse=dq u)(h4:zAs u=du):uQ E (.tmp s)=dq (r,q,u):=by
 have hg:∀t:T,t.get []=dq t:=fun t=>by rfl
 grind[zAs,uQ,sO]
theorem zDK{E:Env}{s:Nat}{t:T}(h1:E s=dq t)(h4:zAs t=du):uQ E (.tmp s)=dq (s,[],t):=by
 have hg:∀t:T,t.get []=dq t:=fun t=>by rfl
 grind[zAs,uQ,sO]
section
variable {P:Program}{Γ:Ctx}{E:Env}{d:Nat}{x y:Operand}{ty:TypeId}{ps:String}{af:Array Edge}{gd:Option (Nat×Bool)}
class zBs (P:Program) (t:TypeId) (e:outParam TypeId) (ti:outParam TypeInfo) (k:outParam Nat):Prop where
 un:P.underlying t=dq (.slice e)
 info:P.info? e=dq ti
 size:ti.size=k
theorem zZc{α:Type}{t e:TypeId}{ti:TypeInfo}{r k:Nat}{q:List Nat}{f:α→T}{xs:List α}{v:α}{i:Int}(ht:zBs P t e ti k)(hv:ixO xs i=dq v)(hx:uQ E x=dq (r,q,L k f xs))(hy:opT E y=dq (I i))(sd:J3 d Γ.N=du):
  Ok P Γ ⟨dq d,.indexAddr t x y,ty,ps,af,gd⟩ E (E.app [(d,dq (.addr r (i.toNat::q)))] [(d,0)]):=by
 obtain⟨h1,h2⟩:=vJ hv;exact fun S=>zPr x y t e ti r q k _ .i64 i rfl rfl (zY sd) ht.un ht.info ht.size hx hy h1 (by grind)
theorem zVc{α:Type}{t e:TypeId}{ti:TypeInfo}{r k:Nat}{q:List Nat}{f:α→T}{xs:List α}{v:α}{i:Int}(ht:zBs P t e ti k)(hv:ixO xs i=dq v)(hx:uQ E x=dq (r,q,.ro (L k f xs)))(hy:opT E y=dq (I i))(sd:J3 d Γ.N=du):
  Ok P Γ ⟨dq d,.indexAddr t x y,ty,ps,af,gd⟩ E (E.app [(d,dq (.ro (.ptr (f v))))] [(d,0)]):=by
 obtain⟨h1,h2⟩:=vJ hv;exact fun S=>zPs x y t e ti r q k _ .i64 i _ rfl rfl (zY sd) ht.un ht.info ht.size hx hy h1 (by simp[h2])
theorem zVd{α:Type}{t e:TypeId}{r k:Nat}{q:List Nat}{f:α→T}{xs:List α}(hu:P.underlying t=dq (.slice e))(hx:uQ E x=dq (r,q,L k f xs))(sd:J3 d Γ.N=du):
  Ok P Γ ⟨dq d,.call { callee:=.builtin .len,args:=#[x],argTypes:=#[t] },ty,ps,af,gd⟩ E (E.app [(d,dq (I xs.length))] [(d,0)]):=
 fun _=>zPq x t _ r q (L k f xs) xs.length rfl rfl (zY sd) hu hx (by simp[zJq]) rfl
theorem zPN{α:Type}{t e:TypeId}{r k:Nat}{q:List Nat}{f:α→T}{xs:List α}(hu:P.underlying t=dq (.slice e))(hx:uQ E x=dq (r,q,.ro (L k f xs)))(sd:J3 d Γ.N=du):
  Ok P Γ ⟨dq d,.call { callee:=.builtin .len,args:=#[x],argTypes:=#[t] },ty,ps,af,gd⟩ E (E.app [(d,dq (I xs.length))] [(d,0)]):=
 fun _=>zPq x t _ r q (.ro (L k f xs)) xs.length rfl rfl (zY sd) hu hx (by simp[zJq]) rfl
structure zSN (P:Program) (t:TypeId) (u:T):Prop where
 h:∃ds ti,P.underlying t=dq ds∧P.info? t=dq ti∧zEn ds= !u.single∧ti.size=u.size
theorem zXu{t:TypeId}{u:T}(ht:zSN P t u)(hx:opT E x=dq (.ro (.ptr u)))(sd:J3 d Γ.N=du):Ok P Γ ⟨dq d,.load t x,ty,ps,af,gd⟩ E (E.app [(d,dq (roT u))] [(d,0)]):=by obtain⟨ds,ti,h1,h2,h3,h4⟩:=ht.h;exact fun S=>zLt x t ds ti u rfl rfl (zY sd) h1 h2 h3 h4 hx
theorem zZd{t:TypeId}{u tr:T}{r:Nat}{q:List Nat}(ht:zSN P t u)(hx:opT E x=dq (.addr r q))(hr:E r=dq tr)(hg:tr.get q.reverse=dq u)(sd:(J3 d Γ.N&&tr.locd q.reverse&&(r != d)&&T.okB [(d,0)] (cpT r u q))=du):
  Ok P Γ ⟨dq d,.load t x,ty,ps,af,gd⟩ E (E.app [(d,dq (cpT r u q))] [(d,0)]):=by
 obtain⟨ds,ti,h1,h2,h3,h4⟩:=ht.h;simp only[J2]at sd;exact fun S=>zSF x t ds ti r q tr u rfl rfl (zY sd.1.1.1) h1 h2 h3 h4 hx hr hg sd.1.1.2 (by grind) sd.2
end
end Go.Ab

namespace Go.Ab
open Go
section
variable {P:Program}{Γ:Ctx}{E:Env}{x:Operand}{ty:TypeId}{ps:String}{af:Array Edge}{gd:Option (Nat×Bool)}
theorem zXv{t:TypeId}{ti:TypeInfo}{r:Nat}{q:List Nat}{tr tr' u0:T}{v:Value}(hi:P.info? t=dq ti)(gv:ti.size=1)(hx:opT E x=dq (.addr r q))(hr:E r=dq tr)(hg:tr.get q.reverse=dq u0)(gC:tr.set q.reverse (.lit v)=tr')
  (sd:(tr.single&&tr.locd q.reverse&&wO (.lit v) u0&&(T.lit v).zOk)=du)(hz:tG (.lit v)=v.cells.toList):Ok P Γ ⟨dt,.store t x (.const v),ty,ps,af,gd⟩ E (E.app [(r,dq tr')] [(r,q.length)]):=by
 simp only[J2]at sd;subst gC;intro S;have:=zP4 (P:=P) (Γ:=Γ.at S) (E:=E) (o:=⟨dt,.store t x (.const v),ty,ps,af,gd⟩) t ti x (.const v) r q tr u0 (.zero (.lit v)) rfl rfl hi (by rw[gv];rfl) (by omega) hx hr sd.1.1.1 hg sd.1.1.2 sd.1.2 (.zero v _ hz)
  ⟨by simp,by grind,by simp[xF]⟩
 exact this
end
end Go.Ab

namespace Go.Ab
open Go
theorem zM.tr{Γ:Ctx}{E:Env}(d r:Nat)(u:T)(hd:E d=dq (.same r []))(hr:E r=dq u)(eJ:zT u)(sd:(u.single&&xZ u&&u.okB [(d,1),(r,1)]&&(d != r))=du):
  zM Γ E (E.app [(d,dq u),(r,dq (.same d []))] [(d,1),(r,1)]):=by
 simp only[J2]at sd
 rintro a w ⟨S,hS,hs⟩
 have gf:d≠r:=by grind
 have hg:∀t:T,t.get []=dq t:=fun t=>by rfl
 have:=zLx hs d [] r [] (.same r []) u u hd rfl hr (hg u) sd.1.1.1 eJ gf (by simp[T.okB,zAm]) sd.1.2 rfl sd.1.1.2;exact⟨S,hS,this⟩
theorem zDq{α:Type}{f:α→T}(hf:∀x,zT (f x)):(xs:List α)→yV (xs.map f)
 | []=>trivial
 |x::xs=>⟨hf x,zDq hf xs⟩
theorem zMN{α:Type}{f:α→T}{k:Nat}{xs:List α}(hf:∀x,zT (f x)):zT (L k f xs):=by simp only[zT,yM];grind[zDq]
theorem zMO(n:Int):zT (I n):=by simp[zT,yM]
theorem zSO(b:Bool):zT (B b):=by simp[zT,yM]
end Go.Ab

namespace Go.Ab
open Go
section
variable {P:Program}{Γ:Ctx}{E:Env}{d:Nat}{x y:Operand}{ty:TypeId}{ps:String}{af:Array Edge}{gd:Option (Nat×Bool)}{m n c:Int}{xt yt:TypeId}
theorem zXw(hv:rng (m-n)=dq c)(hx:opT E x=dq (I m))(hy:opT E y=dq (I n))(sd:J3 d Γ.N=du):Ok P Γ ⟨dq d,.binOp .sub xt x y yt,ty,ps,af,gd⟩ E (E.app [(d,dq (I c))] [(d,0)]):=by obtain⟨rfl,h⟩:=zCf hv;exact fun _=>vM .sub xt yt x y .i64 m n _ rfl rfl (zY sd) hx hy (by grind[zIv,zBr])
theorem zXx(hv:rng (m*n)=dq c)(hx:opT E x=dq (I m))(hy:opT E y=dq (I n))(sd:J3 d Γ.N=du):Ok P Γ ⟨dq d,.binOp .mul xt x y yt,ty,ps,af,gd⟩ E (E.app [(d,dq (I c))] [(d,0)]):=by obtain⟨rfl,h⟩:=zCf hv;exact fun _=>vM .mul xt yt x y .i64 m n _ rfl rfl (zY sd) hx hy (by grind[zIv,zBr])
def xL(m n:Int):Option Int:=if n=0 then dt else rng (m.tdiv n)
def yO(m n:Int):Option Int:=if n=0 then dt else dq (m.tmod n)
theorem zXy(hv:xL m n=dq c)(hx:opT E x=dq (I m))(hy:opT E y=dq (I n))(sd:J3 d Γ.N=du):Ok P Γ ⟨dq d,.binOp .quo xt x y yt,ty,ps,af,gd⟩ E (E.app [(d,dq (I c))] [(d,0)]):=by
 unfold xL at hv;split at hv
 ·cases hv
 ·rename_i h0
  obtain⟨rfl,h⟩:=zCf hv;exact fun _=>vM .quo xt yt x y .i64 m n _ rfl rfl (zY sd) hx hy (by simp only[zIv,h0,if_false,zBr h])
theorem zXz(hv:yO m n=dq c)(hx:opT E x=dq (I m))(hy:opT E y=dq (I n))(sd:J3 d Γ.N=du):Ok P Γ ⟨dq d,.binOp .rem xt x y yt,ty,ps,af,gd⟩ E (E.app [(d,dq (I c))] [(d,0)]):=by
 unfold yO at hv;split at hv
 ·cases hv
 ·rename_i h0
  simp at hv;subst hv;exact fun _=>vM .rem xt yt x y .i64 m n _ rfl rfl (zY sd) hx hy (by simp only[zIv,h0,if_false])
theorem zX0(hx:opT E x=dq (I m))(hy:opT E y=dq (I n))(sd:J3 d Γ.N=du):Ok P Γ ⟨dq d,.binOp .leq xt x y yt,ty,ps,af,gd⟩ E (E.app [(d,dq (B (decide (m≤n))))] [(d,0)]):=
 fun _=>vM .leq xt yt x y .i64 m n _ rfl rfl (zY sd) hx hy rfl
theorem zX1(hx:opT E x=dq (I m))(hy:opT E y=dq (I n))(sd:J3 d Γ.N=du):Ok P Γ ⟨dq d,.binOp .gtr xt x y yt,ty,ps,af,gd⟩ E (E.app [(d,dq (B (decide (m> n))))] [(d,0)]):=
 fun _=>vM .gtr xt yt x y .i64 m n _ rfl rfl (zY sd) hx hy rfl
theorem zX2(hx:opT E x=dq (I m))(hy:opT E y=dq (I n))(sd:J3 d Γ.N=du):Ok P Γ ⟨dq d,.binOp .geq xt x y yt,ty,ps,af,gd⟩ E (E.app [(d,dq (B (decide (m≥n))))] [(d,0)]):=
 fun _=>vM .geq xt yt x y .i64 m n _ rfl rfl (zY sd) hx hy rfl
theorem zX3(hx:opT E x=dq (I m))(hy:opT E y=dq (I n))(sd:J3 d Γ.N=du):Ok P Γ ⟨dq d,.binOp .eql xt x y yt,ty,ps,af,gd⟩ E (E.app [(d,dq (B (m==n)))] [(d,0)]):=
 fun _=>vM .eql xt yt x y .i64 m n _ rfl rfl (zY sd) hx hy rfl
theorem zPO(hx:opT E x=dq (I m))(hy:opT E y=dq (I n))(sd:J3 d Γ.N=du):Ok P Γ ⟨dq d,.binOp .neq xt x y yt,ty,ps,af,gd⟩ E (E.app [(d,dq (B (m != n)))] [(d,0)]):=
 fun _=>vM .neq xt yt x y .i64 m n _ rfl rfl (zY sd) hx hy rfl
theorem zBM{b:Bool}(hx:opT E x=dq (B b))(sd:J3 d Γ.N=du):Ok P Γ ⟨dq d,.unOp .not xt x,ty,ps,af,gd⟩ E (E.app [(d,dq (B (!b)))] [(d,0)]):=
 fun _=>zV6 xt x b rfl rfl (zY sd) hx
theorem zX4(hv:rng (0-n)=dq c)(hx:opT E x=dq (I n))(sd:J3 d Γ.N=du):Ok P Γ ⟨dq d,.unOp .neg xt x,ty,ps,af,gd⟩ E (E.app [(d,dq (I c))] [(d,0)]):=by
 obtain⟨rfl,h⟩:=zCf hv;have:=fun S=>zV7 (P:=P) (Γ:=Γ.at S) (E:=E) (o:=⟨dq d,.unOp .neg xt x,ty,ps,af,gd⟩) xt x .i64 n rfl rfl (zY sd) hx
 rw[zBr h]at this;exact this
end
end Go.Ab

namespace Go.Ab
open Go
section
variable {P:Program}{Γ:Ctx}{E:Env}{d:Nat}{x y:Operand}{ty:TypeId}{ps:String}{af:Array Edge}{gd:Option (Nat×Bool)}
class zIC (P:Program) (t:TypeId) (u:outParam T):Prop where
 h:∃ti z,P.info? t=dq ti∧ti.zero=dq z∧u.zOk=du∧tG u=z.cells.toList∧z.cells.size=u.size
theorem zMP{t:TypeId}{u:T}(ht:zIC P t u)(sd:J3 d Γ.N=du):Ok P Γ ⟨dq d,.alloc t,ty,ps,af,gd⟩ E (E.app [(d,dq (.ptr u))] [(d,0)]):=by obtain⟨ti,z,h1,h2,h3,h4,h5⟩:=ht.h;exact fun S=>zP1 t ti z u rfl rfl (zY sd) h1 h2 h3 h4 h5
theorem zVe{s i:Nat}{ts:List T}{t:T}(hs:E s=dq (.tup ts))(hi:ts[i]? =dq t)(sd:(J3 d Γ.N&&t.okTup&&(s != d)&&T.okB [(d,0)] (cpT s t [i]))=du):
  Ok P Γ ⟨dq d,.extract (.tmp s) i,ty,ps,af,gd⟩ E (E.app [(d,dq (cpT s t [i]))] [(d,0)]):=by
 simp only[J2]at sd;exact fun S=>zLu s i ts t rfl rfl (zY sd.1.1.1) hs hi (zBq sd.1.1.2) (by grind) sd.2
theorem zA4{t:T}(hx:opT E x=dq t)(hp:zEQ E x=du)(sd:mvB Γ x t d=du):Ok P Γ ⟨dq d,.nilCheck x,ty,ps,af,gd⟩ E (E.app [(d,dq (uE x t))] [(d,0)]):=by simp only[mvB,J2]at sd;exact fun S=>zV8 x t rfl rfl (zY sd.1.1.1) hx hp (zBq sd.1.1.2) (zDJ sd.1.2) sd.2
theorem zL1{c:Operand}{b:Bool}{t:T}(hc:opT E c=dq (B b))(hx:opT E (if b then x else y)=dq t)(sd:mvB Γ (if b then x else y) t d=du):Ok P Γ ⟨dq d,.pick c x y,ty,ps,af,gd⟩ E (E.app [(d,dq (uE (if b then x else y) t))] [(d,0)]):=by simp only[mvB,J2]at sd;exact fun S=>zSC c x y b t rfl rfl (zY sd.1.1.1) hc hx (zBq sd.1.1.2) (zDJ sd.1.2) sd.2
theorem zX5{t:TypeId}{s:Nat}{u:T}(hs:E s=dq u)(hu:zT u)(sd:(J3 d Γ.N&&u.okTup&&(s != d))=du):
  Ok P Γ ⟨dq d,.box t (.tmp s),ty,ps,af,gd⟩ E (E.app ((d,dq (.ptr u))::pWr d [.slot s u] 0) ((d,0)::tJ [.slot s u])):=by
 simp only[J2]at sd;have gf:s≠d:=by grind
 refine fun S=>zVA t (.tmp s) (.slot s u) rfl rfl (zY sd.1.1) (.slot s u) ⟨by grind,by simp,?_⟩
 simp only[xF]
 grind
end
end Go.Ab

namespace Go.Ab
open Go
def zU{α:Type}(xs ys:List α):Option (List α):=if xs.length+ys.length≤68719476736 then dq (xs++ys)else dt
theorem zEz{α:Type}{xs ys zs:List α}(h:zU xs ys=dq zs):zs=xs++ys∧xs.length+ys.length≤68719476736:=by grind[zU]
section
variable {P:Program}{Γ:Ctx}{E:Env}{d:Nat}{x y:Operand}{ty:TypeId}{ps:String}{af:Array Edge}{gd:Option (Nat×Bool)}
theorem ElT.zsize{t e:TypeId}{ti:TypeInfo}{k:Nat}{u:T}(h:ElT P t e ti k u):∃z,ti.zero=dq z∧z.cells.size=k:=by obtain⟨z,h1,h2⟩:=h.zero;exact⟨z,h1,by rw[←Ka,←h2,wN u h.zok,h.us]⟩
theorem zVC{α:Type}{t e:TypeId}{ti:TypeInfo}{k:Nat}{u:T}{f:α→T}{xs ys zs:List α}{s0 s1:Nat}(ht:ElT P t e ti k u)(hv:zU xs ys=dq zs)(h0:E s0=dq (L k f xs))(h1:E s1=dq (L k f ys))(sd:(J3 d Γ.N&&(s0 != d)&&(s1 != d)&&(s1 != s0))=du):
  Ok P Γ ⟨dq d,.call { callee:=.builtin .append,args:=#[.tmp s0,.tmp s1],argTypes:=#[t,t] },ty,ps,af,gd⟩ E (E.app [(d,dq (L k f zs)),(s0,dq .any),(s1,dq .any)] [(d,0),(s0,1),(s1,1)]):=by
 obtain⟨rfl,hl⟩:=zEz hv;obtain⟨z,hz,fg⟩:=ht.zsize;simp only[J2]at sd;intro S;have:=zI4 (P:=P) (Γ:=Γ.at S) (E:=E) (o:=⟨dq d,.call { callee:=.builtin .append,args:=#[.tmp s0,.tmp s1],argTypes:=#[t,t] },ty,ps,af,gd⟩) t e ti z k s0 s1 (xs.map f) (ys.map f) rfl rfl (zY sd.1.1.1) ht.un ht.info hz ht.size ht.pos fg ht.bytes h0 h1
  (by grind) (by grind) (by grind) (by grind)
 rw[←Hk]at this;exact this
theorem zHG{α:Type}{f:α→T}(hf:∀x,(f x).flat=du):(xs:List α)→zAn (xs.map f)=du
 | []=>rfl
 |x::xs=>by simp only[Jl,zAn,hf x,zHG hf xs,Ku]
theorem zVD{α:Type}{t e:TypeId}{ti:TypeInfo}{k r:Nat}{q:List Nat}{u:T}{f:α→T}{xs ys zs:List α}{s0:Nat}(ht:ElT P t e ti k u)(hf:∀x,(f x).flat=du)(hv:zU xs ys=dq zs)(h0:E s0=dq (L k f xs))(h1:uQ E y=dq (r,q,L k f ys))(sd:(J3 d Γ.N&&(s0 != d))=du):
  Ok P Γ ⟨dq d,.call { callee:=.builtin .append,args:=#[.tmp s0,y],argTypes:=#[t,t] },ty,ps,af,gd⟩ E (E.app [(d,dq (L k f zs)),(s0,dq .any)] [(d,0),(s0,1)]):=by
 obtain⟨rfl,hl⟩:=zEz hv;obtain⟨z,hz,fg⟩:=ht.zsize;simp only[J2]at sd;intro S;have:=zI5 (P:=P) (Γ:=Γ.at S) (E:=E) (o:=⟨dq d,.call { callee:=.builtin .append,args:=#[.tmp s0,y],argTypes:=#[t,t] },ty,ps,af,gd⟩) t e ti z k s0 y r q (xs.map f) (ys.map f) rfl rfl (zY sd.1) ht.un ht.info hz ht.size ht.pos fg ht.bytes h0 h1 (zHG hf ys)
  (by grind) (by grind)
 rw[←Hk]at this;exact this
end
end Go.Ab

namespace Go.Ab
open Go
abbrev IK(k:IntKind)(n:Int):T:=.lit (.int k n)
abbrev Str(s:ByteArray):T:=.lit (.string s)
abbrev Pt{α:Type}(f:α→T)(x:α):T:=.ptr (f x)
abbrev Ro{α:Type}(f:α→T)(x:α):T:=.ro (f x)
abbrev A2{α:Type}(f:α→T)(x:α×α):T:=.agg [f x.1,f x.2]
theorem bd{α β:Type}{o:Option α}{f:α→Option β}{r:β}(h:o.bind f=dq r):∃v,o=dq v∧f v=dq r:=by
 cases o with
 |none=>simp at h
 |some v=>grind
theorem cT{α:Type}{b:Bool}{x y:α}{z:α}(hc:b=du)(h:cond b x y=z):x=z:=by grind
theorem cF{α:Type}{b:Bool}{x y:α}{z:α}(hc:b=dv)(h:cond b x y=z):y=z:=by grind
theorem sI{α:Type}{x y:α}(h:dq x=dq y):x=y:=Lw.inj h
section
variable {P:Program}{Γ:Ctx}{pn:sQ}{E E':Env}{Q:Exit→Env→Prop}{c:Code}{id id':Nat}
theorem nA(h:CW P Γ pn c E Q):zS P Γ pn c Q .normal E:=h
theorem xA(h:Q (.exit id) E):zS P Γ pn c Q (.exit id) E:=h
theorem rA(h:Q .ret E):zS P Γ pn c Q .ret E:=h
theorem nB(h:Q .normal E):zV id Q .normal E:=h
theorem rB(h:Q .ret E):zV id Q .ret E:=h
theorem xB(h:Q .normal E):zV id Q (.exit id) E:=by simp only[zV,if_true];exact h
theorem neX:Exit.exit id≠.normal:=by simp
theorem neR:Exit.ret≠.normal:=by simp
theorem RW.cases{ops:Array Oper}{os:List Oper}(s:Nat)(b:Bool)(hb:E s=dq (B b))(ht:b=du→RW P Γ pn ops os (E.app [(s,dq (B du))] []) Q)(hf:b=dv→RW P Γ pn ops os (E.app [(s,dq (B dv))] []) Q):RW P Γ pn ops os E Q:=by
 have key:∀c:Bool,b=c→zM Γ E (E.app [(s,dq (B c))] []):=by
  rintro c rfl a w hs
  refine hs.weaken fun s' t h=>?_
  by_cases e:s=s'
  ·grind[Env.app,Wr.find]
  ·simp only[Env.app,Wr.find,e,if_false]at h
   grind
 cases hc:b with
 |true=>grind[ghost]
 |false=>grind[ghost]
end
theorem yP{α:Type}{k:Nat}{f:α→T}{xs:List α}{i:Int}{v:α}{p:List Nat}{u:T}(h:ixO xs i=dq v)(hr:(f v).get p=dq u):(L k f xs).get (i.toNat::p)=dq u:=by simp[T.get,(vJ h).2,hr]
theorem uR{t u:T}{p:List Nat}(h:t.get p=dq u):(T.ptr t).get (0::p)=dq u:=h
theorem uS{xs:List T}{x u:T}{j:Nat}{p:List Nat}(hj:xs[j]? =dq x)(h:x.get p=dq u):(T.agg xs).get (j::p)=dq u:=by grind[T.get]
theorem zGh{α:Type}{k:Nat}{f:α→T}{xs:List α}{i:Int}{v w:α}{p:List Nat}{u:T}(h:ixO xs i=dq v)(hr:(f v).set p u=f w):(L k f xs).set (i.toNat::p) u=L k f (xs.set i.toNat w):=by simp[L,T.set,(vJ h).2,hr,Gf]
theorem zCS{t u t':T}{p:List Nat}(h:t.set p u=t'):(T.ptr t).set (0::p) u=T.ptr t':=by simp[T.set,h]
class Enc {α:Type} (f:α→T):Prop where
 clean:∀x,zT (f x)
 rofree:∀x,wH (f x)=du
 strip:∀x,strip (f x)=f x
 okTup:∀x,(f x).okTup=du
 rook:∀x,zEs (f x)=du
theorem zGi{α:Type}{f:α→T}(h:∀x,wH (f x)=du):(xs:List α)→vP (xs.map f)=du
 | []=>rfl
 |x::xs=>by simp only[Jl,vP,h x,zGi h xs,Ku]
theorem zGj{α:Type}{f:α→T}(h:∀x,zEs (f x)=du):(xs:List α)→zBn (xs.map f)=du
 | []=>rfl
 |x::xs=>by simp only[Jl,zBn,h x,zGj h xs,Ku]
theorem uJ{α:Type}{f g:α→T}(h:∀x,strip (f x)=g x):(xs:List α)→xY (xs.map f)=xs.map g
 | []=>rfl
 |x::xs=>by simp only[Jl,xY,h x,uJ h xs]
instance:Enc I:=⟨zMO,fun _=>rfl,fun _=>rfl,fun _=>rfl,fun _=>rfl⟩
instance:Enc B:=⟨zSO,fun _=>rfl,fun _=>rfl,fun _=>rfl,fun _=>rfl⟩
instance{k:IntKind}:Enc (IK k):=⟨fun _=>by simp[zT,yM],fun _=>rfl,fun _=>rfl,fun _=>rfl,fun _=>rfl⟩
instance:Enc Str:=⟨fun _=>by simp[zT,yM],fun _=>rfl,fun _=>rfl,fun _=>rfl,fun _=>rfl⟩
instance{α:Type}{k:Nat}{f:α→T}[h:Enc f]:Enc (L k f):=
 ⟨fun _=>zMN h.clean,fun xs=>by simp only[wH];exact zGi h.rofree xs,fun xs=>by simp only[L,strip,uJ h.strip xs],fun _=>rfl,fun xs=>by simp only[zEs,zGj h.rook xs]⟩
instance{α:Type}{f:α→T}[h:Enc f]:Enc (A2 f):=
 ⟨fun x=>by simp only[zT,yM,xG];exact⟨h.clean _,h.clean _,trivial⟩,fun x=>by simp only[wH,vP,h.rofree,Ku],fun x=>by simp only[A2,strip,xY,h.strip],
  fun x=>by simp only[T.okTup,yI,h.okTup,Ku],fun x=>by simp only[zEs,zBn,h.rook,Ku]⟩
instance{α:Type}{f:α→T}[h:Enc f]:Enc (Pt f):=
 ⟨fun x=>by simp only[zT,yM];exact h.clean x,fun x=>by simp only[wH,h.rofree],fun x=>by simp only[Pt,strip,h.strip],fun _=>rfl,fun x=>by simp only[zEs,h.rook]⟩
class vF {α:Type} (f g:α→T):Prop where
 h:∀x,strip (f x)=g x
instance{α:Type}{f:α→T}[h:Enc f]:vF f f:=⟨h.strip⟩
instance{α:Type}{k:Nat}{f g:α→T}[h:vF f g]:vF (L k f) (L k g):=⟨fun xs=>by simp only[L,strip,uJ h.h xs]⟩
instance{α:Type}{k:Nat}{g:α→T}:vF (Ro (L k g)) (L k g):=⟨fun _=>rfl⟩
instance{α:Type}{g:α→T}:vF (Ro (Pt g)) (Pt g):=⟨fun _=>rfl⟩
theorem stA{xs ys:List T}(h:xY xs=ys):strip (.agg xs)=.agg ys:=by grind[strip]
theorem stC{x y:T}{xs ys:List T}(h:strip x=y)(h2:xY xs=ys):xY (x::xs)=y::ys:=by grind[xY]
section
variable {E:Env}{rw:Rw}{i s r:Nat}{q:List Nat}{x:Operand}
theorem zPP{α:Type}{k:Nat}{f g:α→T}{xs:List α}(h:vF f g):clo E (L k f xs)=.ro (L k g xs):=by simp only[clo,L,strip,uJ h.h xs]
theorem zE0{tr u:T}(hr:E r=dq tr)(hg:tr.get q.reverse=dq u)(h4:zAs u=du):sO E 4 r q=dq (r,q,u):=by grind[zAs,sO]
theorem zL2{α:Type}{k:Nat}{f g:α→T}{xs:List α}{tr:T}(hr:E r=dq tr)(hg:tr.get q.reverse=dq (L k f xs))(h:vF f g):clo E (.same r q)=.ro (L k g xs):=by simp only[clo,zE0 hr hg rfl,T.single,if_true,L,strip,uJ h.h xs]
theorem zVE{α:Type}{k l h:Nat}{f g:α→T}{xs:List α}{tr:T}(hr:E r=dq tr)(hg:tr.get q.reverse=dq (L k f xs))(hs:vF f g)(h1:l≤h)(h2:h≤xs.length):clo E (.sub r q k l h)=.ro (L k g ((xs.drop l).take (h-l))):=by simp only[clo,zE0 hr hg rfl,L,uJ hs.h xs,Ju,h1,h2,and_self,if_true,Qm,Gj]
theorem zZe{xs ys:List T}(h:zBA E xs=ys):clo E (.agg xs)=.agg ys:=by grind[clo]
theorem zZf:zBA E []=[]:=rfl
theorem zZg{x y:T}{xs ys:List T}(h:clo E x=y)(h2:zBA E xs=ys):zBA E (x::xs)=y::ys:=by grind[zBA]
mutual
theorem zHH(s:Nat):(t:T)→t.okTup=du→tX E [] s t=du
 |.agg xs,h=>by simp only[tX,T.okTup]at h ⊢;exact zGk s xs h
 |.tup _,h=>by grind[T.okTup]
 |.same r q,_|.sub r q _ _ _,_=>by grind[tX]
 |.sl _ _,_|.ptr _,_=>by rfl
 |.lit _,_|.ro _,_|.any,_|.addr _ _,_=>by rfl
theorem zGk(s:Nat):(xs:List T)→yI xs=du→zA3 E [] s xs=du
 | [],_=>rfl
 |x::xs,h=>by simp only[yI,J2]at h;simp only[zA3,zHH s x h.1,zGk s xs h.2,Ku]
end
theorem agC{u:T}(t:T)(h:opT E x=dq t)(h1:clo E t=u)(h2:t.okTup=du):zBL E [] i x u:=.inr ⟨t,h,h1,by
 cases x with
 |tmp s=>exact zHH s t h2
 |_=>rfl⟩
end
section
variable {P:Program}{Γ:Ctx}{E:Env}{d:Nat}{x y:Operand}{ty:TypeId}{ps:String}{af:Array Edge}{gd:Option (Nat×Bool)}
abbrev zBN(res:List T):Prop:=yV res∧yI res=du∧vP res=du
theorem zFk:zBN []:=⟨trivial,rfl,rfl⟩
theorem zGl{α:Type}{f:α→T}{x:α}{ts:List T}(h:Enc f)(h2:zBN ts):zBN (f x::ts):=
 ⟨⟨h.clean x,h2.1⟩,by simp only[yI,h.okTup,h2.2.1,Ku],by simp only[vP,h.rofree,h2.2.2,Ku]⟩
abbrev zA5(P:Program)(f:FuncId):Prop:=∀args w,(callFunc f args).run P w=.ok (.enter f args) w
theorem zAY{f:FuncId}{xs:List Operand}{ats:Array TypeId}{us res:List T}(gu:zA5 P f)(hc:FnC P f us res [])(gk:xJ E [] 0 xs us)(gy:zBN res)(sd:J3 d Γ.N=du):
  Ok P Γ ⟨dq d,.call { callee:=.value (.func f),args:=xs.toArray,argTypes:=ats },ty,ps,af,gd⟩ E (E.app (cWr d res []) (wP d [])):=
 fun _S=>zML f (.func f) xs ats us res [] rfl rfl (zY sd) gu rfl hc gk .nil gy
theorem zSP{f:FuncId}{xs:List Operand}{ats:Array TypeId}{us res:List T}(gu:zA5 P f)(hc:FnC P f us res [])(gm:xs.length=us.length)(gk:∀(i:Nat) u,us[i]? =dq u→ ∃x,xs[i]? =dq x∧opT E x=dq u∧u.flat=du)(gy:yV res∧yI res=du)(sd:J3 d Γ.N=du):
  Ok P Γ ⟨dq d,.call { callee:=.value (.func f),args:=xs.toArray,argTypes:=ats },ty,ps,af,gd⟩ E (E.app (cWr d res []) (wP d [])):=
 fun _S=>zPE f (.func f) xs ats us res rfl rfl (zY sd) gu rfl hc gm gk gy
class qG (P:Program) (S:TypeId) (j:Nat) (off:outParam Nat):Prop where
 h:∃fs f fi,P.underlying S=dq (.struct fs)∧fs[j]? =dq f∧P.info? f.type=dq fi∧fi.size≠0∧off=f.offset
theorem zZh{S:TypeId}{j off r:Nat}{q:List Nat}{xs:List T}{u:T}(ht:qG P S j off)(hx:uQ E x=dq (r,q,.ptr (.agg xs)))(hu:xs[j]? =dq u)(gN:T.sizes (xs.take j)=off)(sd:J3 d Γ.N=du):
  Ok P Γ ⟨dq d,.fieldAddr S x j,ty,ps,af,gd⟩ E (E.app [(d,dq (.addr r (j::0::q)))] [(d,0)]):=by
 obtain⟨fs,f,fi,h1,h2,h3,h4,h5⟩:=ht.h;exact fun _=>zXq x S fs f fi j r q xs u rfl rfl (zY sd) h1 h2 h3 h4 hx hu (by omega)
theorem zPQ{S:TypeId}{j off:Nat}{xs:List T}{u:T}(ht:qG P S j off)(hx:opT E x=dq (.ro (.ptr (.agg xs))))(hu:xs[j]? =dq u)(gN:T.sizes (xs.take j)=off)(sd:J3 d Γ.N=du):
  Ok P Γ ⟨dq d,.fieldAddr S x j,ty,ps,af,gd⟩ E (E.app [(d,dq (.ro (.ptr u)))] [(d,0)]):=by
 obtain⟨fs,f,fi,h1,h2,h3,h4,h5⟩:=ht.h;exact fun _=>zPt x S fs f fi j xs u rfl rfl (zY sd) h1 h2 h3 h4 hx hu (by omega)
def zP{α:Type}(xs:List α)(l h:Int):Option (List α):=if 0≤l∧l≤h∧h≤(xs.length:Int)then dq ((xs.drop l.toNat).take (h.toNat-l.toNat))else dt
theorem zX6{α:Type}{t e:TypeId}{ti:TypeInfo}{r k:Nat}{q:List Nat}{f:α→T}{xs ys:List α}{lo hi:Option Operand}{l h:Int}(ht:zBs P t e ti k)(hv:zP xs l h=dq ys)(hx:uQ E x=dq (r,q,.ro (L k f xs)))(gY:kZ E lo 0 l.toNat)(ef:kZ E hi xs.length h.toNat)(sd:J3 d Γ.N=du):
  Ok P Γ ⟨dq d,.slice t x lo hi dt,ty,ps,af,gd⟩ E (E.app [(d,dq (.ro (L k f ys)))] [(d,0)]):=by
 unfold zP at hv;split at hv
 ·rename_i hc
  simp at hv;subst hv;intro S;have:=zJu (P:=P) (Γ:=Γ.at S) (E:=E) (o:=⟨dq d,.slice t x lo hi dt,ty,ps,af,gd⟩) x lo hi t e ti r q k (xs.map f) l.toNat h.toNat rfl rfl (zY sd) ht.un ht.info ht.size hx gY (by grind) (by omega) (by simp;omega);simpa[L,Qm,Gj]using this
 ·cases hv
theorem zPR{α:Type}{t e:TypeId}{ti:TypeInfo}{r k:Nat}{q:List Nat}{f:α→T}{xs ys:List α}{lo hi:Option Operand}{l h:Int}(ht:zBs P t e ti k)(hv:zP xs l h=dq ys)(hx:uQ E x=dq (r,q,L k f xs))(gY:kZ E lo 0 l.toNat)(ef:kZ E hi xs.length h.toNat)(sd:(J3 d Γ.N&&(r != d))=du):
  Ok P Γ ⟨dq d,.slice t x lo hi dt,ty,ps,af,gd⟩ E (E.app [(d,dq (.sub r q k l.toNat h.toNat))] [(d,0)]):=by
 unfold zP at hv;simp only[J2]at sd;split at hv
 ·rename_i hc
  intro S;exact zIx (P:=P) (Γ:=Γ.at S) (E:=E) (o:=⟨dq d,.slice t x lo hi dt,ty,ps,af,gd⟩) x lo hi t e ti r q k (xs.map f) l.toNat h.toNat rfl rfl (zY sd.1) ht.un ht.info ht.size hx gY (by grind) (by omega) (by simp;omega) (by grind)
 ·cases hv
end
end Go.Ab

namespace Go.Ab
open Go
theorem zDL{t:T}(h:zT t):zT t:=h
theorem zAf{α:Type}{f:α→T}{k:Nat}{xs:List α}(hf:∀x,zT (f x)):zT (L k f xs):=zMN hf
theorem zPS{t:T}(h:zT t):zT (.ptr t):=by simpa only[zT,yM]using h
theorem zID{xs:List T}(h:yV xs):zT (.agg xs):=by simpa only[zT,yM]using h
section
variable {P:Program}{Γ:Ctx}{pn:sQ}{E E':Env}{Q:Exit→Env→Prop}{c c1 c2:Code}{x:Operand}
theorem CW.condT(hx:opT E x=dq (B du))(h:CW P Γ pn c1 E Q):CW P Γ pn (.cond x c1 c2) E Q:=by grind[CW.cond]
theorem CW.condF(hx:opT E x=dq (B dv))(h:CW P Γ pn c2 E Q):CW P Γ pn (.cond x c1 c2) E Q:=by grind[CW.cond]
theorem CW.casesB(b:Bool)(ht:b=du→CW P Γ pn c E Q)(hf:b=dv→CW P Γ pn c E Q):CW P Γ pn c E Q:=by grind
theorem zX7{wr:Wr}{chg:Chg}{s:Nat}{t:T}(h:E s=dq t)(hf:wr.find s=dt:=by rfl)(hb:t.okB chg=du:=by rfl):E.app wr chg s=dq t:=by grind[Env.app]
theorem xC.gh{ops:Array Oper}{o:Oper}{E1:Env}(hg:zM Γ E E1)(h:xC P Γ ops o E1 E'):xC P Γ ops o E E':=fun a w K Q hs hK=>h a w K Q (hg a w hs) hK
theorem zDM{t:T}(h:opT E x=dq (.ro (.ptr t))):zEQ E x=du:=by simp[zEQ,h]
theorem zCA{r:Nat}{q:List Nat}{t:T}(h:uQ E x=dq (r,q,.ptr t)):zEQ E x=du:=by grind[zEQ]
end
theorem zX8{E:Env}{n:Nat}:kZ E dt n (n:Int).toNat:=by simp[kZ]
theorem zX9{E:Env}:kZ E dt 0 (0:Int).toNat:=by simp[kZ]
theorem zVF{E:Env}{x:Operand}{n:Int}{d:Nat}(h0:0≤n)(h:opT E x=dq (I n)):kZ E (dq x) d n.toNat:=⟨.i64,by grind⟩
theorem tN{α:Type}{xs ys:List α}{l h:Int}(hv:zP xs l h=dq ys):0≤l∧l≤h∧h≤xs.length∧ys=(xs.drop l.toNat).take (h.toNat-l.toNat):=by grind[zP]
theorem zHI{α:Type}{xs ys:List α}{l h:Int}(hv:zP xs l h=dq ys):0≤l:=(tN hv).1
theorem zHJ{α:Type}{xs ys:List α}{l h:Int}(hv:zP xs l h=dq ys):0≤h:=by have:=tN hv;omega
theorem zSQ{E:Env}{r k:Nat}{q:List Nat}{α:Type}{l h:Int}{f g:α→T}{xs ys:List α}{tr:T}(hr:E r=dq tr)(hg:tr.get q.reverse=dq (L k f xs))(hs:vF f g)(hv:zP xs l h=dq ys):
  clo E (.sub r q k l.toNat h.toNat)=.ro (L k g ys):=by
 obtain⟨h1,h2,h3,rfl⟩:=tN hv
 grind[zVE]
section
variable {P:Program}{Γ:Ctx}{E E':Env}{d:Nat}{x y:Operand}{ty:TypeId}{ps:String}{af:Array Edge}{gd:Option (Nat×Bool)}
theorem zBC{o:Oper}{e b:Bool}{d:Nat}{wr:Wr}{chg:Chg}(he:e=b)(h:Ok P Γ o E (E.app ((d,dq (B e))::wr) chg)):Ok P Γ o E (E.app ((d,dq (B b))::wr) chg):=he▸h
theorem zXA{t:TypeId}{u tr t0:T}{r:Nat}{q:List Nat}(ht:zSN P t u)(hx:uQ E x=dq (r,q,.ptr t0))(hr:E r=dq tr)(hg:tr.get (0::q).reverse=dq u)(sd:(J3 d Γ.N&&tr.locd (0::q).reverse&&(r != d)&&T.okB [(d,0)] (cpT r u (0::q)))=du):
  Ok P Γ ⟨dq d,.load t x,ty,ps,af,gd⟩ E (E.app [(d,dq (cpT r u (0::q)))] [(d,0)]):=by
 obtain⟨ds,ti,h1,h2,h3,h4⟩:=ht.h;simp only[J2]at sd;exact fun S=>zJr x t ds ti r (0::q) tr u rfl rfl (zY sd.1.1.1) h1 h2 h3 h4 (zBK.ptr hx) hr hg sd.1.1.2 (by grind) sd.2
theorem zVf{t:TypeId}{ti:TypeInfo}{r s:Nat}{q:List Nat}{tr tr' u0 u:T}(hi:P.info? t=dq ti)(gv:(ti.size==u.size&&J3 0 ti.size)=du)(hx:∀S,zBK (Γ.at S) E x r q)(hr:E r=dq tr)(hg:tr.get q.reverse=dq u0)(gC:tr.set q.reverse u=tr')(hy:E s=dq u)(hu:zT u)
  (sd:(tr.single&&tr.locd q.reverse&&wO u u0&&(r != s)&&u.okTup)=du):Ok P Γ ⟨dt,.store t x (.tmp s),ty,ps,af,gd⟩ E (E.app ((r,dq tr')::sWr r q (.slot s u)) ((r,q.length)::tJ [.slot s u])):=by
 simp only[J2]at sd gv;subst gC;intro S;refine zH3 (P:=P) (Γ:=Γ.at S) (E:=E) (o:=⟨dt,.store t x (.tmp s),ty,ps,af,gd⟩) t ti x (.tmp s) r q tr u0 (.slot s u) rfl rfl hi (by grind[yJ.tree]) (zY gv.2) (hx S) hr sd.1.1.1.1 hg sd.1.1.1.2 sd.1.1.2 (.slot s _)
  ⟨by grind,by simp,?_⟩
 grind[xF]
theorem zOh{t:TypeId}{ti:TypeInfo}{r s:Nat}{q:List Nat}{tr tr' u0 u:T}(hi:P.info? t=dq ti)(gv:(ti.size==u.size&&J3 0 ti.size)=du)(hx:opT E x=dq (.addr r q))(hr:E r=dq tr)(hg:tr.get q.reverse=dq u0)(gC:tr.set q.reverse u=tr')(hy:E s=dq u)(hu:zT u)
  (sd:(tr.single&&tr.locd q.reverse&&wO u u0&&(r != s)&&u.okTup)=du):Ok P Γ ⟨dt,.store t x (.tmp s),ty,ps,af,gd⟩ E (E.app ((r,dq tr')::sWr r q (.slot s u)) ((r,q.length)::tJ [.slot s u])):=
 zVf hi gv (fun _=>zBK.addr hx) hr hg gC hy hu sd
theorem zVg{t:TypeId}{ti:TypeInfo}{r s:Nat}{q:List Nat}{tr tr' u0 u t0:T}(hi:P.info? t=dq ti)(gv:(ti.size==u.size&&J3 0 ti.size)=du)(hx:uQ E x=dq (r,q,.ptr t0))(hr:E r=dq tr)(hg:tr.get (0::q).reverse=dq u0)(gC:tr.set (0::q).reverse u=tr')(hy:E s=dq u)(hu:zT u)
  (sd:(tr.single&&tr.locd (0::q).reverse&&wO u u0&&(r != s)&&u.okTup)=du):Ok P Γ ⟨dt,.store t x (.tmp s),ty,ps,af,gd⟩ E (E.app ((r,dq tr')::sWr r (0::q) (.slot s u)) ((r,(0::q).length)::tJ [.slot s u])):=
 zVf hi gv (fun _=>zBK.ptr hx) hr hg gC hy hu sd
theorem zGm{G:Gh}{s:Nat}:(xs:List T)→yI xs=du→ ∀(p:List Nat)(i j:Nat)(u:T),xs[j]? =dq u→ ∃l1 l2,zX G s xs p i=l1++vals G s u ((i+j)::p)++l2∧l1.length=T.sizes (xs.take j)
 | [],_,_,_,_,_,h=>by simp at h
 |x::xs,ht,p,i,j,u,h=>by
  simp only[yI,J2]at ht;cases j with
  |zero=>simp at h;subst h;exact⟨[],zX G s xs p (i+1),by rfl,by rfl⟩
  |succ j=>
   obtain⟨l1,l2,h1,h2⟩:=zGm xs ht.2 p (i+1) j u (by grind);refine⟨vals G s x (i::p)++l1,l2,by rw[zX,h1,show i+(j+1)=i+1+j from by omega];simp,?_⟩;rw[Ji,wF x _ (by rintro ys rfl;grind[T.okTup]),h2,L7,T.sizes]
theorem zPT{S:TypeId}{j off s:Nat}{xs:List T}{u:T}(ht:qG P S j off)(hv:∃ds ti fs f,P.underlying S=dq (.struct fs)∧fs[j]? =dq f∧P.underlying f.type=dq ds∧P.info? f.type=dq ti∧zEn ds= !u.single∧ti.size=u.size)(hx:E s=dq (.agg xs))(hu:xs[j]? =dq u)(gN:T.sizes (xs.take j)=off)
  (sd:(J3 d Γ.N&&yI xs&&u.okTup&&(s != d)&&T.okB [(d,0)] (cpT s u [j]))=du):
  Ok P Γ ⟨dq d,.field S (.tmp s) j,ty,ps,af,gd⟩ E (E.app [(d,dq (cpT s u [j]))] [(d,0)]):=by
 obtain⟨fs,f,fi,h1,h2,h3,h4,h5⟩:=ht.h;obtain⟨ds,ti,fs',f',g1,g2,g3,g4,g5,g6⟩:=hv;simp only[J2]at sd;rw[h1]at g1;simp at g1;subst g1;rw[h2]at g2;simp at g2;subst g2;rw[h3]at g4;simp at g4;subst g4;intro S';refine xR.value rfl fun a w G gc=>?_
 obtain⟨k1,k2,_⟩:=gc.ent s _ hx;simp only[R]at k2;have k3:=zAW xs [] 0 j u k2 hu;simp only[J8]at k3;have gf:s≠d:=by grind
 have gX:∀ys,u≠.tup ys:=zBq sd.1.1.2;have hk:=G.put_keep (w:=w) (w':=w) rfl d (fun z=>G.hd s (z++[j]));have hz:∀z,(G.put d (fun z=>G.hd s (z++[j]))).hd d (z++[])=G.hd s (z++[j]):=by grind[Gh.put_self]
 refine⟨tM G s u [j],w,?_,_,vD gc rfl (zY sd.1.1.1.1) (fun z=>G.hd s (z++[j])) (fun z=>gc.mem.one _ _) _ _ (by grind[zA1])
  (zDg (fun p=>G.put_other _ p gf) u [j] [] hz gX (hk.keepR (by grind[zAN,sL])) k3) (sL s u [j])⟩
 obtain⟨l1,l2,e1,e2⟩:=zGm (G:=G) (s:=s) xs sd.1.1.1.2 [] 0 j u hu;simp only[J8]at e1;have e3:l1.length=f.offset:=by omega
 have e4:=wF (G:=G) (s:=s) u [j] gX;have bm:(part f.type (zX G s xs [] 0).toArray f.offset).run P w=.ok (tM G s u [j]) w:=by
  rw[e1];cases u with
  |agg ys=>
   simp[T.single]at g5;simp only[vals,T.size]at e4 g6 ⊢
   simp[part,qX g3,g5,sizeOf,typeInfo,h3,tM]
   grind
  |tup ys=>grind
  |_=>
   simp[T.single]at g5;simp[part,qX g3,g5,tM,vals,←e3]
 simp[execOp,xM k1,mkV,Instr.field,run_underlying h1,h2,asAgg,bm]
theorem zMQ{α:Type}{t e:TypeId}{ti:TypeInfo}{k:Nat}{u:T}{n:Nat}{a:Int}{f:α→T}{z:α}(ht:ElT P t e ti k u)(hz:f z=u)(hn:zZ a=dq n)(hx:opT E x=dq (I a))(hy:opT E y=dq (I a))(sd:J3 d Γ.N=du):
  Ok P Γ ⟨dq d,.makeSlice t x y,ty,ps,af,gd⟩ E (E.app [(d,dq (L k f (J1 n z)))] [(d,0)]):=by
 have:=zVB (P:=P) (Γ:=Γ) (E:=E) (d:=d) (ty:=ty) (ps:=ps) (af:=af) (gd:=gd) ht hn hx hn hy (Jd _) sd;rw[←hz]at this;simpa[L]using this
theorem zVh{t e:TypeId}{ti:TypeInfo}{k:Nat}{u:T}(ht:ElT P t e ti k u)(sd:J3 d Γ.N=du):Ok P Γ ⟨dq d,.buildSlice t 0 #[],ty,ps,af,gd⟩ E (E.app [(d,dq (.sl k []))] [(d,0)]):=
 fun _=>zFO t e ti k rfl rfl (zY sd) ht.un ht.info
theorem zVG{t:TypeId}{s:ByteArray}(hu:P.underlying t=dq .string)(hx:opT E x=dq (Str s))(sd:J3 d Γ.N=du):
  Ok P Γ ⟨dq d,.call { callee:=.builtin .len,args:=#[x],argTypes:=#[t] },ty,ps,af,gd⟩ E (E.app [(d,dq (I s.size))] [(d,0)]):=by
 intro S;refine tZ (.int .i64 s.size) rfl rfl (zY sd) fun a w G gc=>?_
 have h1:=(xE gc hx).1;simp[execOp,resolve,invoke,builtin,h1,Builtin.len_,run_underlying hu,goInt]
theorem zSR{P:Program}{w:World}{t:TypeId}{a b:Bool}(n:Nat)(h:P.underlying t=dq .bool):(Op.equalIn (n+1) t (.bool a) (.bool b)).run P w=.ok (a==b) w:=by simp only[Op.equalIn,Sem.run_bind,run_underlying h];rfl
theorem zGn(t:TypeId)(x y:Value):Op.equal t x y=Op.equalIn (9999+1) t x y:=rfl
theorem zVH{a b:Bool}{xt yt:TypeId}(hu:P.underlying xt=dq .bool)(hx:opT E x=dq (B a))(hy:opT E y=dq (B b))(sd:J3 d Γ.N=du):Ok P Γ ⟨dq d,.binOp .neq xt x y yt,ty,ps,af,gd⟩ E (E.app [(d,dq (B (a != b)))] [(d,0)]):=by
 intro S;refine tZ _ rfl rfl (zY sd) fun c w G gc=>?_
 have h1:=(xE gc hx).1;have h2:=(xE gc hy).1;have h3:=zSR (P:=P) (w:=w) (a:=a) (b:=b) 9999 hu;simp[execOp,h1,h2,eqGuard,binOp,zGn,h3,bne]
theorem zFx{P:Program}{w:World}{t:TypeId}{k:IntKind}{a b:Int}(n:Nat)(h:P.underlying t=dq (.int k)):(Op.equalIn (n+1) t (.int k a) (.int k b)).run P w=.ok (a==b) w:=by simp only[Op.equalIn,Sem.run_bind,run_underlying h];simp
end
end Go.Ab

namespace Go.Ab
open Go
def zAZ:List Nat→Bool
 | []=>du
 |x::xs=> !xs.contains x&&zAZ xs
theorem zCB:{l:List Nat}→zAZ l=du→l.Nodup
 | [],_=>by simp
 |x::xs,h=>by simp only[zAZ,J2,Hq,Li,decide_eq_false_iff_not]at h;exact Km.2 ⟨h.1,zCB h.2⟩
def zBD(E:Env):List yJ→Prop
 | []=>True
 |.slot s t::l=>(E s=dq t∧zT t∧t.okTup=du)∧zBD E l
 |.zero u::l=>u.zOk=du∧zBD E l
theorem zBD.get{E:Env}:(l:List yJ)→zBD E l→(∀s t,yJ.slot s t∈l→E s=dq t∧zT t∧t.okTup=du)∧ ∀u,yJ.zero u∈l→u.zOk=du
 | [],_=>⟨fun _ _ h=>by simp at h,fun _ h=>by simp at h⟩
 |.slot s t::l,h=>by
  obtain⟨h1,h2⟩:=zBD.get l h.2;exact⟨fun s' t' hm=>by
   rcases Jq.1 hm with e|hm
   ·cases e;exact h.1
   ·exact h1 s' t' hm,fun u hm=>by
   rcases Jq.1 hm with e|hm
   ·cases e
   ·exact h2 u hm⟩
 |.zero u::l,h=>by
  obtain⟨h1,h2⟩:=zBD.get l h.2;exact⟨fun s' t' hm=>by
   rcases Jq.1 hm with e|hm
   ·cases e
   ·exact h1 s' t' hm,fun u' hm=>by
   rcases Jq.1 hm with e|hm
   ·cases e;exact h.1
   ·exact h2 u' hm⟩
section
variable {E:Env}
theorem pkN:zBD E []:=trivial
theorem pkS{s:Nat}{t:T}{l:List yJ}(h:E s=dq t)(hc:zT t)(h3:t.okTup=du)(hl:zBD E l):zBD E (.slot s t::l):=⟨⟨h,hc,h3⟩,hl⟩
theorem pkZ{u:T}{l:List yJ}(h:u.zOk=du)(hl:zBD E l):zBD E (.zero u::l):=⟨h,hl⟩
theorem zBD.parts{d:Nat}{l:List yJ}(h:zBD E l)(hn:zAZ (d::xF l)=du):uU E d l:=⟨(zBD.get l h).1,(zBD.get l h).2,zCB hn⟩
def zBR(E:Env)(zs:List T)(ps:List yJ):List (Nat×Operand)→List (Nat×yJ)→Prop
 | [],[]=>True
 |x::xs,q::qs=>(x.1=q.1∧zAe E x.2 q.2∧ps[q.1]? =dq q.2∧ ∃u,zs[q.1]? =dq u∧u.size=q.2.tree.size)∧zBR E zs ps xs qs
 |_,_=>False
theorem bqN{zs:List T}{ps:List yJ}:zBR E zs ps [] []:=trivial
theorem bqC{zs:List T}{ps:List yJ}{i:Nat}{x:Operand}{q:yJ}{xs:List (Nat×Operand)}{qs:List (Nat×yJ)}(h:zAe E x q)(hl:zBR E zs ps xs qs)(h1:ps[i]? =dq q:=by rfl)(h2:∃u,zs[i]? =dq u∧u.size=q.tree.size:=by exact⟨_,rfl,rfl⟩):zBR E zs ps ((i,x)::xs) ((i,q)::qs):=⟨⟨rfl,h,h1,h2⟩,hl⟩
theorem zBR.ix{zs:List T}{ps:List yJ}:(pl:List (Nat×Operand))→(qs:List (Nat×yJ))→zBR E zs ps pl qs→pl.map (·.1)=qs.map (·.1)
 | [],[],_=>rfl
 |x::xs,q::qs,h=>by simp[h.1.1,zBR.ix xs qs h.2]
 | [],_::_,h=>by simp[zBR]at h
 |_::_,[],h=>by simp[zBR]at h
theorem zBR.get{zs:List T}{ps:List yJ}:(pl:List (Nat×Operand))→(qs:List (Nat×yJ))→zBR E zs ps pl qs→ ∀(j:Nat)(x:Nat×Operand)(q:Nat×yJ),pl[j]? =dq x→qs[j]? =dq q→zAe E x.2 q.2∧q.2∈ps∧ ∃u,zs[q.1]? =dq u∧u.size=q.2.tree.size
 | [],[],_,j,_,_,h,_=>by simp at h
 |x::xs,q::qs,h,j,x',q',h1,h2=>by
  cases j with
  |zero=>simp at h1 h2;subst h1;subst h2;exact⟨h.1.2.1,L4 h.1.2.2.1,h.1.2.2.2⟩
  |succ j=>exact zBR.get xs qs h.2 j x' q' (by simpa using h1) (by simpa using h2)
 | [],_::_,h,_,_,_,_,_=>by simp[zBR]at h
 |_::_,[],h,_,_,_,_,_=>by simp[zBR]at h
end
class zFl (P:Program) (t:TypeId) (zs:outParam (List T)):Prop where
 h:∃(place:Nat→Option (Nat×Nat))(z:Value),(∀parts,P.built t parts=Instr.fill place z.cells parts)∧sB zs=z.cells.toList∧zAq zs=du∧ ∀i u,zs[i]? =dq u→place i=dq (T.sizes (zs.take i),u.size)
section
variable {P:Program}{Γ:Ctx}{E E':Env}{d:Nat}{x y:Operand}{ty:TypeId}{ps:String}{af:Array Edge}{gd:Option (Nat×Bool)}
theorem zSS{t:TypeId}{zs:List T}{pa:Array (Nat×Operand)}(hb:zFl P t zs)(pl:List (Nat×Operand))(qs:List (Nat×yJ))(pp:List yJ)(gH:zBD E pp)(hq:zBR E zs pp pl qs)(sd:(J3 d Γ.N&&zAZ (d::xF pp))=du)
  (fm:pa=pl.toArray:=by rfl)(gT:qs.foldl (fun ps q=>ps.set q.1 q.2) (zs.map yJ.zero)=pp:=by rfl):Ok P Γ ⟨dq d,.build t pa,ty,ps,af,gd⟩ E (E.app ((d,dq (.agg (pp.map yJ.tree)))::pWr d pp 0) ((d,0)::tJ pp)):=by
 obtain⟨place,z,h1,h2,h3,h4⟩:=hb.h;simp only[J2]at sd;subst fm;exact fun S=>zP2 t place z zs pl qs pp rfl rfl (zY sd.1) h1 h2 h3 h4 gT (gH.parts sd.2) (zBR.ix _ _ hq) (zBR.get _ _ hq)
def zJI(k:Nat):List yJ→Bool
 | []=>du
 |p::l=>(p.tree.size==k)&&zJI k l
theorem zJJ{k:Nat}:(l:List yJ)→zJI k l=du→ ∀p∈l,p.tree.size=k
 | [],_,_,h=>by simp at h
 |p::l,h,q,hm=>by
  simp only[zJI,J2,beq_iff_eq]at h;rcases Jq.1 hm with rfl|hm
  ·exact h.1
  ·exact zJJ l h.2 q hm
theorem zZi{α:Type}{t e:TypeId}{ti:TypeInfo}{k n:Nat}{u:T}{pa:Array (Nat×Operand)}(ht:ElT P t e ti k u)(xs:List Operand)(pp:List yJ)(ys:List α)(f:α→T)(hx:vO E xs pp)(gH:zBD E pp)
  (sd:(J3 d Γ.N&&zAZ (d::xF pp)&&zJI k pp&&J3 0 n&&Ud (n*k) 65536)=du)(hn:xs.length=n)(fm:pa=((xs.zipIdx 0).map fun x=>(x.2,x.1)).toArray:=by rfl)(hy:pp.map yJ.tree=ys.map f:=by rfl):
  Ok P Γ ⟨dq d,.buildSlice t n pa,ty,ps,af,gd⟩ E (E.app ((d,dq (L k f ys))::pWr d pp 0) ((d,0)::tJ pp)):=by
 obtain⟨z,hz,_⟩:=ht.zero;simp only[J2]at sd;subst fm;intro S;have ci:n*k≤65536:=by simpa[Nat.ble_eq]using sd.2
 have:=zHc (P:=P) (Γ:=Γ.at S) (E:=E) (o:=⟨dq d,.buildSlice t n ((xs.zipIdx 0).map fun x=>(x.2,x.1)).toArray,ty,ps,af,gd⟩) t e ti z k n xs pp rfl rfl (zY sd.1.1.1.1) ht.un ht.info hz ht.size ht.pos hn (zY sd.1.2) (by omega) hx (gH.parts sd.1.1.1.2) (zJJ pp sd.1.1.2);rw[hy]at this;exact this
theorem zJK{α:Type}{f g:α→T}(h:∀y,roT (g y)=f y):(ys:List α)→roT.roTs (ys.map g)=ys.map f
 | []=>rfl
 |y::ys=>by simp only[Jl,roT.roTs,h y,zJK h ys]
theorem zL3{α:Type}{t e:TypeId}{ti:TypeInfo}{k r:Nat}{q:List Nat}{u:T}{f g:α→T}{xs ys zs:List α}{s0:Nat}(ht:ElT P t e ti k u)(bH:∀y,roT (g y)=f y)(gv:∀y,(g y).size=k)(hg:Enc g)(hv:zU xs ys=dq zs)(h0:E s0=dq (L k f xs))(h1:uQ E y=dq (r,q,.ro (L k g ys)))(sd:(J3 d Γ.N&&(s0 != d))=du):
  Ok P Γ ⟨dq d,.call { callee:=.builtin .append,args:=#[.tmp s0,y],argTypes:=#[t,t] },ty,ps,af,gd⟩ E (E.app [(d,dq (L k f zs)),(s0,dq .any)] [(d,0),(s0,1)]):=by
 obtain⟨rfl,hl⟩:=zEz hv;obtain⟨z,hz,fg⟩:=ht.zsize;simp only[J2]at sd;intro S;have:=zI6 (P:=P) (Γ:=Γ.at S) (E:=E) (o:=⟨dq d,.call { callee:=.builtin .append,args:=#[.tmp s0,y],argTypes:=#[t,t] },ty,ps,af,gd⟩) t e ti z k s0 y r q (xs.map f) (ys.map g) rfl rfl (zY sd.1) ht.un ht.info hz ht.size ht.pos fg ht.bytes h0 h1 (zGj hg.rook ys)
  (by intro v hv;obtain⟨y,_,rfl⟩:=Ja.1 hv;exact gv y) (by simpa using sd.2) (by simpa using hl)
 rw[zJK bH,←Hk]at this;exact this
def yT{α:Type}(xs:List α)(m:Int)(z:α):Option (List α):=if 0≤m∧xs.length+m.toNat≤68719476736 then dq (xs++J1 m.toNat z)else dt
theorem zVI{α:Type}{t t2 e:TypeId}{k2:IntKind}{ti:TypeInfo}{k:Nat}{u:T}{f:α→T}{z:α}{xs zs:List α}{s0:Nat}{m:Int}(ht:ElT P t e ti k u)(fP:P.underlying t2=dq (.int k2))(hz:f z=u)(hv:yT xs m z=dq zs)(h0:E s0=dq (L k f xs))(h1:opT E y=dq (I m))(sd:(J3 d Γ.N&&(s0 != d))=du):
  Ok P Γ ⟨dq d,.call { callee:=.builtin .append,args:=#[.tmp s0,y],argTypes:=#[t,t2] },ty,ps,af,gd⟩ E (E.app [(d,dq (L k f zs)),(s0,dq .any)] [(d,0),(s0,1)]):=by
 unfold yT at hv;split at hv
 ·rename_i hc
  simp at hv;subst hv;obtain⟨zv,pL,tz⟩:=ht.zero;simp only[J2]at sd;obtain⟨n,rfl⟩:∃n:Nat,m=n:=⟨m.toNat,by omega⟩;intro S;have:=zFX (P:=P) (Γ:=Γ.at S) (E:=E) (o:=⟨dq d,.call { callee:=.builtin .append,args:=#[.tmp s0,y],argTypes:=#[t,t2] },ty,ps,af,gd⟩) t t2 e k2 ti zv u k s0 y .i64 n (xs.map f) rfl rfl (zY sd.1) ht.un fP ht.info pL ht.size ht.pos ht.bytes ht.zok tz ht.us h0 h1
   (by simpa using sd.2) (by simp at hc ⊢;omega)
  have e:xs.map f++J1 n u=(xs++J1 n z).map f:=by simp[hz]
  rw[e]at this;have h2:((n:Int)).toNat=n:=by simp
  rw[h2];exact this
 ·cases hv
end
section
variable {Γ:Ctx}{E:Env}
theorem zM.trq(d r:Nat)(q:List Nat){tr u tr':T}(hd:E d=dq (.same r q))(hr:E r=dq tr)(hg:tr.get q.reverse=dq u)(eJ:zT u)(sd:(u.single&&xZ tr&&tr.okB [(d,1),(r,q.length+1)]&&(d != r))=du)(gC:(if q=[]then .same d []else tr.set q.reverse .any)=tr':=by rfl):
  zM Γ E (E.app [(d,dq u),(r,dq tr')] [(d,1),(r,q.length+1)]):=by
 simp only[J2]at sd
 rintro a w ⟨S,hS,hs⟩
 have gf:d≠r:=by simpa using sd.2
 have:=zLx hs d [] r q (.same r q) tr u hd rfl hr hg sd.1.1.1 eJ gf (by simp[T.okB,zAm,gf]) sd.1.2 rfl sd.1.1.2;subst gC;exact⟨S,hS,this⟩
theorem zM.trf(d:Nat)(g:List Nat)(r:Nat)(q:List Nat)(td tr:T){u td' tr':T}(hd:E d=dq td)(aS:td.get g.reverse=dq (.same r q))(hr:E r=dq tr)(hg:tr.get q.reverse=dq u)(gC:td.set g.reverse u=td')(eJ:zT u)
  (sd:(u.single&&xZ td&&xZ tr&&td.okB [(d,g.length+1),(r,q.length+1)]&&tr.okB [(d,g.length+1),(r,q.length+1)]&&(d != r))=du)(fR:(if q=[]then .same d g else tr.set q.reverse .any)=tr':=by rfl):
  zM Γ E (E.app [(d,dq td'),(r,dq tr')] [(d,g.length+1),(r,q.length+1)]):=by
 simp only[J2]at sd
 rintro a w ⟨S,hS,hs⟩
 have gf:d≠r:=by simpa using sd.2
 have:=zLx hs d g r q td tr u hd aS hr hg sd.1.1.1.1.1 eJ gf sd.1.1.2 sd.1.2 sd.1.1.1.1.2 sd.1.1.1.2;subst gC fR;exact⟨S,hS,this⟩
theorem zM.frz{α:Type}(s:Nat){k:Nat}{f g:α→T}(xs:List α)(hs:E s=dq (L k f xs))(h:vF f g):zM Γ E (E.app [(s,dq (.ro (L k g xs)))] [(s,1)]):=by have:=zM.freeze (Γ:=Γ) s _ hs;simp only[wU,strip,uJ h.h xs]at this;exact this
theorem zM.res(d r:Nat)(q:List Nat)(tr:T){u:T}(hd:E d=dq (.same r q))(hr:E r=dq tr)(hg:tr.get q.reverse=dq (.ro u)):zM Γ E (E.app [(d,dq (.ro u))] []):=by
 rintro a w ⟨S,hS,ea,G,gc⟩
 refine⟨S,hS,ea,G,?_⟩;have hk:qQ [] G w G w:=⟨fun _ _ _=>rfl,fun _ _ _=>rfl,fun _ _ _ _ _ _ h _=>⟨h,rfl⟩,fun _ _ _ h _=>h,fun b cs e h=>⟨cs,h,rfl⟩⟩;refine vC gc rfl hk gc.mem (fun s _=>⟨fun n hn=>by simp at hn,rfl⟩) fun s t hs=>?_
 simp only[Wr.find]at hs;split at hs
 ·rename_i e;subst e
  simp at hs;subst hs;obtain⟨h1,h2,_⟩:=gc.ent d _ hd;obtain⟨_,h4,_⟩:=gc.ent r _ hr;simp only[R]at h2;have h5:=(zBU q.reverse tr _ [] h4 hg).1;simp only[rp,Ks,Jk,R]at h5;exact⟨by rw[h1];rfl,by simp only[R];rw[h2];exact h5,by simp[Top]⟩
 ·cases hs
end
theorem zIE:(p:List Nat)→ ∀(t u0 a:T),t.get p=dq u0→(t.set p a).get p=dq a
 | [],t,_,a,_=>by cases t<;>cases a<;>rfl
 |i::p,t,u0,a,h=>by
  cases t with
  |sl k xs|agg xs|tup xs=>
   simp only[T.get,T.set]at h ⊢
   cases hx:xs[i]? with
   |none=>rw[hx]at h;cases h
   |some x=>
    rw[hx]at h;have hi:=(Jb.1 hx).1;simp only[];simp only[T.get,Uy hi];exact zIE p x u0 a h
  |ptr t=>
   simp only[T.get,T.set]at h ⊢
   split at h
   ·rename_i e;subst e;simp only[if_true,T.get];exact zIE p t u0 a h
   ·cases h
  |_=>simp[T.get]at h
theorem set_set:(p:List Nat)→ ∀(t u0 a b:T),t.get p=dq u0→(t.set p a).set p b=t.set p b
 | [],t,_,a,_,_=>by cases t<;>cases a<;>rfl
 |i::p,t,u0,a,b,h=>by
  cases t with
  |sl k xs|agg xs|tup xs=>
   simp only[T.get,T.set]at h ⊢
   cases hx:xs[i]? with
   |none=>rw[hx]at h;cases h
   |some x=>
    rw[hx]at h;have hi:=(Jb.1 hx).1;simp only[];simp only[T.set,Uy hi,Qq,set_set p x u0 a b h]
  |ptr t=>
   simp only[T.get,T.set]at h ⊢
   split at h
   ·rename_i e;subst e;simp only[if_true,T.set,set_set p t u0 a b h]
   ·cases h
  |_=>simp[T.get]at h
def qF:T→Bool
 |.sl _ _|.ptr _=>du
 |_=>dv
theorem zPU{t:T}(h:qF t=du)(p:List Nat){u:T}(hp:p≠[]):qF (t.set p u)=du:=by
 cases p with
 |nil=>exact absurd rfl hp
 |cons i p=>cases t<;>simp[qF]at h<;>simp only[T.set]<;>split<;>rfl
theorem uF{t:T}(h:qF t=du)(chg:Chg):t.okB chg=du∧xZ t=du∧t.single=du:=by cases t<;>simp[qF]at h<;>simp[T.okB,xZ,T.single]
section
variable {P:Program}{Γ:Ctx}{E E':Env}{d:Nat}{ty:TypeId}{ps:String}{af:Array Edge}{gd:Option (Nat×Bool)}
theorem agM{E:Env}{rw:Rw}{i:Nat}{x:Operand}{u:T}(t:T)(h:opT E x=dq t)(h1:clo E t=u)(h2:zH7 E (rw.map (·.2.1)) x t=du):zBL E rw i x u:=.inr ⟨t,h,h1,h2⟩
theorem zVJ{E:Env}{rw:Rw}{i s:Nat}{u u':T}(h:E s=dq u)(hc:zT u)(hr:wH u=du)(hs:u.okTup=du:=by rfl)(hm:(i,s,u')∈rw:=by exact List.mem_singleton.2 rfl):zBL E rw i (.tmp s) u:=.inl ⟨s,u',rfl,hm,h,hc,hs,hr⟩
abbrev wB(E:Env)(ds r:Nat)(q:List Nat)(tr u:T):Env:=E.app [(ds,dq u),(r,dq (if q=[]then .same ds []else tr.set q.reverse .any))] [(ds,1),(r,q.length+1)]
theorem zMR{f:FuncId}{xs:List Operand}{ats:Array TypeId}{us res:List T}{tr u u' tr':T}(i ds r:Nat)(q:List Nat)(gu:zA5 P f)(hc:FnC P f us res [(i,u')])(hs:E ds=dq (.same r q))(hr:E r=dq tr)(hq:tr.get q.reverse=dq u)
  (eJ:zT u)(eI:zT u')(_:wH u=du)(bc:wH u'=du)(gk:xJ (wB E ds r q tr u) [(i,ds,u')] 0 xs us)(gy:zBN res)(gC:tr.set q.reverse u'=tr')
  (sd:(J3 d Γ.N&&(d != ds)&&(d != r)&&(ds != r)&&qF u&&qF u'&&qF tr)=du)(hx:xs[i]? =dq (.tmp ds))(hu:us[i]? =dq u):
  Ok P Γ ⟨dq d,.call { callee:=.value (.func f),args:=xs.toArray,argTypes:=ats },ty,ps,af,gd⟩ E ((((wB E ds r q tr u).app (cWr d res [(i,ds,u')]) (wP d [(i,ds,u')]))).app [(r,dq tr'),(ds,dq (.same r q))] [(r,q.length+1),(ds,1)]):=by
 simp only[J2]at sd;obtain⟨⟨⟨⟨⟨⟨s1,s2⟩,s3⟩,s4⟩,s5⟩,s6⟩,s7⟩:=sd;have d1:d≠ds:=by simpa using s2
 have d2:d≠r:=by simpa using s3
 have d3:ds≠r:=by simpa using s4
 obtain⟨u1,u2,u3⟩:=uF s5 [];obtain⟨v1,v2,v3⟩:=uF s6 [];have aL:cLv u'=1:=by simp[cLv,v3]
 subst gC;intro S
 by_cases mz:q=[]
 ·subst mz
  have htu:tr=u:=by
   have:tr.get []=dq tr:=by cases tr<;>rfl
   simp only[H2]at hq;rw[this]at hq;exact Lw.inj hq
  subst htu;have pq:∀a b:T,a.set [] b=b:=fun a b=>by cases a<;>rfl
  have ml:(wB E ds r [] tr tr) ds=dq tr:=by simp[wB,Env.app,Wr.find]
  have cw:((wB E ds r [] tr tr).app (cWr d res [(i,ds,u')]) (wP d [(i,ds,u')])) r=dq (.same ds []):=by
   have h1:(wB E ds r [] tr tr) r=dq (.same ds []):=by simp[wB,Env.app,Wr.find,d3]
   have h2:(cWr d res [(i,ds,u')]).find r=dt:=by simp[cWr,Wr.find,d2,d3]
   have h3:(T.same ds []).okB (wP d [(i,ds,u')])=du:=by simp[T.okB,zAm,wP,d1,aL]
   simp only[Env.app,h2,h1,h3,if_true]
  have cx:((wB E ds r [] tr tr).app (cWr d res [(i,ds,u')]) (wP d [(i,ds,u')])) ds=dq u':=by simp[Env.app,Wr.find,cWr,d1]
  have:=zJD (P:=P) (Γ:=Γ.at S) (E:=E) (o:=⟨dq d,.call { callee:=.value (.func f),args:=xs.toArray,argTypes:=ats },ty,ps,af,gd⟩) f (.func f) xs ats us res i ds r [] tr tr u' rfl rfl (zY s1) gu rfl hs hr hq u3 eJ d3 d2 (uF s7 _).1 (uF s7 []).2.1
   (wB E ds r [] tr tr) _ rfl rfl hc gk (.one d1 hx eI v3 bc ml u3 hu) gy (.same ds []) (.same ds []) cw rfl rfl cx eI v3 (by simp[T.okB,zAm]) rfl (uF s6 _).1 v2
  rw[H2,pq]at this ⊢
  exact this
 ·have py:q.reverse≠[]:=by simpa using mz
  have ml:(wB E ds r q tr u) ds=dq u:=by simp[wB,Env.app,Wr.find]
  have di:=zPU s7 q.reverse (u:=.any) py;have cw:((wB E ds r q tr u).app (cWr d res [(i,ds,u')]) (wP d [(i,ds,u')])) r=dq (tr.set q.reverse .any):=by
   have h1:(wB E ds r q tr u) r=dq (tr.set q.reverse .any):=by simp[wB,Env.app,Wr.find,d3,mz]
   have h2:(cWr d res [(i,ds,u')]).find r=dt:=by simp[cWr,Wr.find,d2,d3]
   simp[Env.app,h2,h1,(uF di _).1]
  have cx:((wB E ds r q tr u).app (cWr d res [(i,ds,u')]) (wP d [(i,ds,u')])) ds=dq u':=by simp[Env.app,Wr.find,cWr,d1]
  have:=zJD (P:=P) (Γ:=Γ.at S) (E:=E) (o:=⟨dq d,.call { callee:=.value (.func f),args:=xs.toArray,argTypes:=ats },ty,ps,af,gd⟩) f (.func f) xs ats us res i ds r q tr u u' rfl rfl (zY s1) gu rfl hs hr hq u3 eJ d3 d2 (uF s7 _).1 (uF s7 []).2.1
   (wB E ds r q tr u) _ rfl rfl hc gk (.one d1 hx eI v3 bc ml u3 hu) gy (tr.set q.reverse .any) .any cw (zIE _ _ _ _ hq) rfl cx eI v3 (uF di _).1 (uF di []).2.1 (uF s6 _).1 v2
  rw[set_set _ _ _ _ _ hq]at this;exact this
theorem zST{f:FuncId}{xs:List Operand}{ats:Array TypeId}{us res:List T}{xf:Operand}(hf:opT E xf=dq (.lit (.func (.func f) #[] #[])))(gu:zA5 P f)(hc:FnC P f us res [])(gk:xJ E [] 0 xs us)(gy:zBN res)(sd:J3 d Γ.N=du):
  Ok P Γ ⟨dq d,.call { callee:=.value xf,args:=xs.toArray,argTypes:=ats },ty,ps,af,gd⟩ E (E.app (cWr d res []) (wP d [])):=
 fun _=>zML f xf xs ats us res [] rfl rfl (zY sd) gu hf hc gk .nil gy
def zDr(E:Env):List Operand→List T→Prop
 | [],[]=>True
 |x::xs,u::us=>(opT E x=dq u∧u.flat=du)∧zDr E xs us
 |_,_=>False
theorem afN:zDr E [] []:=trivial
theorem afC{x:Operand}{xs:List Operand}{u:T}{us:List T}(h:opT E x=dq u)(h1:u.flat=du)(h2:zDr E xs us):zDr E (x::xs) (u::us):=⟨⟨h,h1⟩,h2⟩
theorem zDr.get:(xs:List Operand)→(us:List T)→zDr E xs us→ ∀(i:Nat) u,us[i]? =dq u→ ∃x,xs[i]? =dq x∧opT E x=dq u∧u.flat=du
 | [],[],_,i,u,h=>by simp at h
 |x::xs,v::us,h,i,u,hi=>by
  cases i with
  |zero=>simp at hi;subst hi;exact⟨x,by simp,h.1⟩
  |succ i=>obtain⟨y,h1,h2⟩:=zDr.get xs us h.2 i u (by simpa using hi);exact⟨y,by simpa using h1,h2⟩
 | [],_::_,h,_,_,_=>by simp[zDr]at h
 |_::_,[],h,_,_,_=>by simp[zDr]at h
theorem zMS{f:FuncId}{xs:List Operand}{ats:Array TypeId}{us res:List T}(gu:zA5 P f)(hc:FnC P f us res [])(ha:zDr E xs us)(gm:xs.length=us.length)(gy:yV res)(fx:yI res=du)(sd:J3 d Γ.N=du):
  Ok P Γ ⟨dq d,.call { callee:=.value (.func f),args:=xs.toArray,argTypes:=ats },ty,ps,af,gd⟩ E (E.app (cWr d res []) (wP d [])):=
 zSP gu hc gm (zDr.get _ _ ha) ⟨gy,fx⟩ sd
end
noncomputable def zCg {α:Type} (g:Nat→Option α):Option α:=
 open Classical in if h:∃r,∃n,∀m,n≤m→g m=dq r then dq h.choose else dt
theorem jP{α:Type}{g:Nat→Option α}{r:α}(h:zCg g=dq r):∃n,g n=dq r:=by
 unfold zCg at h;split at h
 ·rename_i he
  simp at h;obtain⟨n,hn⟩:=he.choose_spec;exact⟨n,by rw[←h];exact hn n (Jd _)⟩
 ·cases h
theorem zBt{α:Type}{g:Nat→Option α}{r:α}(n:Nat)(h:∀m,n≤m→g m=dq r):zCg g=dq r:=by have he:∃r,∃n,∀m,n≤m→g m=dq r:=⟨r,n,h⟩;unfold zCg;rw[dif_pos he];obtain⟨n',hn'⟩:=he.choose_spec;have h1:=h (max n n') (by omega);have h2:=hn' (max n n') (by omega);rw[h1]at h2;exact h2.symm
end Go.Ab

namespace Go.Ab
open Go
section
variable {P:Program}{Γ:Ctx}{ops:Array Oper}{o:Oper}{E:Env}
theorem xC.skipW{d:Nat}(hd:o.dst=dq d)(sd:J3 d Γ.N=du)(hw:∀(a:Act)(w:World),qW Γ E a w→Region.wanted o (yielded ops a.tmps)=dv):xC P Γ ops o E (E.app [(d,dq (.tup []))] [(d,0)]):=by
 intro a w K Q hs hK;rw[if_neg (by grind)];obtain⟨S,hS,ea,G,gc⟩:=hs;refine hK _ _ ⟨S,hS,by rw[hd];exact ea,G.put d (fun _=>.bool dv),?_⟩ ?_
 ·rw[hd]
  have hu:(Value.bool dv).oneCell'=du:=rfl;refine vC gc (by simp[Act.put]) (G.put_keep rfl d _) (gc.mem.put rfl d _ fun _=>hu) ?_ ?_
  ·grind[uZ,Act.put]
  ·intro s t' hs
   rw[uZ]at hs;split at hs
   ·rename_i e;subst e
    simp at hs;subst hs;have gv:=gc.size;have gF:=zY sd;refine⟨?_,by simp[R,RF],by simp[Top,vS]⟩
    grind[Act.put,mkV,kX,undef]
   ·cases hs
 grind[Act.put]
theorem xC.skip2{d:Nat}(g:Nat)(b b':Bool)(s:Nat)(hd:o.dst=dq d)(sd:J3 d Γ.N=du)(cu:(b==b')=dv)(hg:o.guard=dq (g,b))(gP:(ops[g]?).bind (·.dst)=dq s)(hb:E s=dq (.lit (.bool b'))):
  xC P Γ ops o E (E.app [(d,dq (.tup []))] [(d,0)]):=.skipW hd sd fun a w hs=>by
 simp only[Region.wanted,hg,zGb hs gP hb]
 grind
theorem xC.skip3{d:Nat}(g:Nat)(b:Bool)(s:Nat)(hd:o.dst=dq d)(sd:J3 d Γ.N=du)(hg:o.guard=dq (g,b))(gP:(ops[g]?).bind (·.dst)=dq s)(hb:E s=dq (.tup [])):
  xC P Γ ops o E (E.app [(d,dq (.tup []))] [(d,0)]):=.skipW hd sd fun a w hs=>by
 obtain⟨_,_,_,G,hr⟩:=hs;obtain⟨h1,_,_⟩:=hr.ent s _ hb
 grind[Region.wanted,yielded,mkV]
theorem xC.opE{E1 E':Env}(h:Ok P Γ o E E1)(e:E1=E')(hg:o.guard=dt:=by rfl):xC P Γ ops o E E':=e▸xC.op h hg
theorem xC.guardE{E1 E':Env}(g:Nat)(b:Bool)(s:Nat)(h:Ok P Γ o E E1)(hg:o.guard=dq (g,b))(gP:(ops[g]?).bind (·.dst)=dq s)(hb:E s=dq (.lit (.bool b)))(e:E1=E'):xC P Γ ops o E E':=e▸xC.guard g b s h hg gP hb
end
def xI(Γ:Ctx)(P:Program)(rs:Array ResultVar)(us res:List T)(rws:List (Nat×T)):Exit→Env→Prop:=fun e E=> ∃E',zM Γ E E'∧zXt P rs us res rws e E'
theorem FnC.of_bodyG{P:Program}{f:FuncId}{fn:Func}{c:Code}{us res:List T}{rws:List (Nat×T)}(hf:P.funcs[f]? =dq fn)(hb:fn.body=dq c)(hn:us.length≤fn.ntmps)(ht:vS us)(hr:rws.all (fun x=>decide (x.1<us.length))=du)
  (h:∀(Γ:Ctx)(v:Nat→Value),Γ.N=fn.ntmps→CW P Γ (zCd v (rws.map (·.1))) c (wQ (zHe 0 us)) (xI Γ P fn.results us res rws)):FnC P f us res rws:=by
 refine FnC.of_body hf hb hn ht hr fun Γ v hN=>?_
 intro a w Q' hs hp hQ;refine h Γ v hN a w Q' hs hp ?_
 rintro e E a' w' ⟨E',hg,hq⟩ gR fK
 exact hQ e E' a' w' hq (hg a' w' gR) fK
def zSU(t:T):Prop:=zT t∧wH t=du∧strip t=t∧t.okTup=du∧zEs t=du
def zPV:List T→Prop
 | []=>True
 |x::xs=>zSU x∧zPV xs
theorem Enc.t{α:Type}{f:α→T}(h:Enc f)(x:α):zSU (f x):=⟨h.clean x,h.rofree x,h.strip x,h.okTup x,h.rook x⟩
theorem Enc.of{α:Type}{f:α→T}(h:∀x,zSU (f x)):Enc f:=⟨fun x=>(h x).1,fun x=>(h x).2.1,fun x=>(h x).2.2.1,fun x=>(h x).2.2.2.1,fun x=>(h x).2.2.2.2⟩
theorem zSV{xs:List T}(h:zPV xs):zSU (.agg xs):=by
 have key:∀xs:List T,zPV xs→yV xs∧vP xs=du∧xY xs=xs∧yI xs=du∧zBn xs=du:=by
  intro xs
  induction xs with
  |nil=>intro _;exact⟨trivial,rfl,rfl,rfl,rfl⟩
  |cons x xs ih=>
   rintro⟨⟨h1,h2,h3,h4,h5⟩,h⟩
   obtain⟨g1,g2,g3,g4,g5⟩:=ih h;exact⟨⟨h1,g1⟩,by grind[vP],by grind[xY],by grind[yI],by grind[zBn]⟩
 obtain⟨g1,g2,g3,g4,g5⟩:=key xs h;exact⟨zID g1,by grind[wH],by grind[strip],by grind[T.okTup],by grind[zEs]⟩
end Go.Ab

namespace Go.Ab
open Go
section
variable {Γ:Ctx}{E:Env}{d:Nat}
def Gh.cut(G:Gh)(d s0 b lo hi:Nat)(v:Value):Gh where
 hd s z:=if s=d then(if z=[]then v else G.hd s0 z)else G.hd s z
 ad s z:=if s=d then G.ad s0 z else G.ad s z
 lb b' o:=if b'=b∧lo≤o∧o<hi then dq (du,d,[])else match G.lb b' o with
  |some (f,s,z)=>if s=s0 then dq (f,d,z)else dq (f,s,z)
  |none=>dt
 ow b':=match G.ow b' with
  |some (s,z)=>if s=s0 then dq (d,z)else dq (s,z)
  |none=>dt
theorem zMT{G:Gh}{tmps:Array Value}{w:World}(gc:Rep Γ E G tmps w)(hd:d<Γ.N){s0 k h cap':Nat}{xs:List T}(eu:E s0=dq (.sl k xs))(gf:s0≠d)(hk:0<k)
  {b o0 cap:Nat}{cs:Array Value}{e:TypeId}(h1:G.hd s0 []=.slice (dq ⟨b,o0,dt⟩) xs.length cap)(h2:w.heap[b]? =dq (.cells cs e (0,0)))(_h3:xs.length≤cap)(h4:cap≤maxLen)(h5:o0+cap*k≤cs.size)(h6:G.ow b=dq (s0,[]))
  (h7:∀o,o0+xs.length*k≤o→o<o0+cap*k→G.lb b o=dq (du,s0,[]))(h8:RL Γ.St G w s0 xs [] 0 b o0 k)(hh:h≤xs.length)(hc:h≤cap')(fb:cap'≤cap):
  ∃G',Rep Γ (E.app [(d,dq (.sl k (xs.take h))),(s0,dq .any)] [(d,0),(s0,1)]) G' (tmps.setIfInBounds d (.slice (dq ⟨b,o0,dt⟩) h cap')) w:=by
 have hm:=gc.mem;obtain⟨e1,_,e3⟩:=gc.ent s0 _ eu
 let v:Value:=.slice (dq ⟨b,o0,dt⟩) h cap'
 let G':=G.cut d s0 b (o0+h*k) (o0+cap'*k) v
 have gL:=hm.ow b _ h6;have pF:∀o f z i,o0+h*k≤o→o<o0+cap'*k→G.lb b o=dq (f,s0,z++[i])→h≤i:=by
  intro o f z i fY fX hl;obtain⟨o,rfl⟩:∃o',o=o0+o':=⟨o-o0,by have:o0≤o0+h*k:=Nat.le_add_right _ _;omega⟩
  replace fY:h*k≤o:=by omega
  by_cases ho:o<xs.length*k
  ·have hj:o/k<xs.length:=(Nat.div_lt_iff_lt_mul hk).2 ho
   obtain⟨g1,g2,_⟩:=qU xs [] 0 b o0 k (o/k) xs[o/k] h8 (by simp[hj]);obtain⟨y,hy⟩:=zI0 xs[o/k] _ b _ (o%k) g1 (by rw[g2];exact Nat.mod_lt _ hk);rw[J8,Ll,H5,Nat.div_add_mod,hl]at hy;simp only[Lw.injEq,Ja1.injEq]at hy;have:=hy.2.2;have hi:i=o/k:=by have:=congrArg List.getLast? this;simpa using this
   rw[hi];exact(Nat.le_div_iff_mul_le hk).2 fY
  ·have:=h7 (o0+o) (by omega) (by have:=Kf k fb;omega)
   rw[hl]at this;simp at this
 have glb:∀b' o f z,G.lb b' o=dq (f,s0,z)→ ¬(b'=b∧o0+h*k≤o∧o<o0+cap'*k)→G'.lb b' o=dq (f,d,z):=fun b' o f z hl hn=>by show(if _ then _ else _)=_;rw[if_neg hn];simp[hl]
 have gow:∀b' z,G.ow b'=dq (s0,z)→G'.ow b'=dq (d,z):=fun b' z hl=>by simp[G',Gh.cut,hl]
 have mv:∀i,i<h→zHy G w G' w s0 [i] d [i]:=fun i hi=>by
  have hn:∀b' o f z,G.lb b' o=dq (f,s0,z++[i])→ ¬(b'=b∧o0+h*k≤o∧o<o0+cap'*k):=by
   rintro b' o f z hl ⟨rfl,fY,fX⟩
   have:=pF o f z i fY fX hl;omega
  refine⟨⟨fun z=>by simp[G',Gh.cut],fun z _=>by simp[G',Gh.cut],fun b' o f z _ _ hl=>⟨glb _ _ _ _ hl (hn _ _ _ _ hl),rfl⟩,fun b' z _ hl=>gow _ _ hl,fun b' cs' e' hb=>⟨cs',hb,rfl⟩⟩,fun b' o _ hl=>⟨glb _ _ _ _ hl (hn b' o du [] (by simpa using hl)),rfl⟩,fun b' hl=>gow _ _ hl⟩
 have gw:qQ [(d,0),(s0,1)] G w G' w:=by
  refine⟨fun s p ho=>?_,fun s p ho=>?_,fun b' o f s p gW hl hs=>?_,fun b' s p hl hs=>?_,fun b' cs' e' hb=>⟨cs',hb,rfl⟩⟩
  ·have:s≠d:=fun e=>absurd (ho 0 (by simp[e])) (by simp)
   simp[G',Gh.cut,this]
  ·have:s≠d:=fun e=>absurd (ho 0 (by simp[e])) (by simp)
   simp[G',Gh.cut,this]
  ·have eG:s≠s0:=fun e=>hs 1 (by simp[e])
   obtain⟨y,hy⟩:=gW;have cu:b'≠b:=by
    rintro rfl
    rw[h6]at hy;simp at hy;exact eG hy.1.symm
   refine⟨?_,rfl⟩;show(if _ then _ else _)=_;rw[if_neg (fun hn=>cu hn.1)];simp[hl,eG]
  ·have eG:s≠s0:=fun e=>hs 1 (by simp[e])
   simp[G',Gh.cut,hl,eG]
 have gz:Mem Γ G' w:=by
  refine⟨fun s z=>?_,fun b' o l hl=>?_,fun b' l hl=>?_,hm.st,hm.fr,hm.sz,hm.bk⟩
  ·show(if _ then _ else _:Value).oneCell'=du
   split
   ·split
    ·rfl
    ·exact hm.one _ _
   ·exact hm.one _ _
  ·change(if _ then _ else _)=_ at hl
   split at hl
   ·rename_i hn;rw[hn.1];exact gL
   ·cases hg:G.lb b' o with
    |none=>simp[hg]at hl
    |some x=>exact hm.lb b' o x hg
  ·cases hg:G.ow b' with
   |none=>simp[G',Gh.cut,hg]at hl
   |some x=>exact hm.ow b' x hg
 refine⟨G',vC gc (by simp) gw gz ?_ ?_⟩
 ·intro s hs
  have cb:s≠d:=by rintro rfl;simp[Wr.find]at hs
  have fL:s≠s0:=by rintro rfl;simp[Wr.find,gf.symm]at hs
  exact⟨fun n hn=>by simp at hn;rcases hn with h|h;exact cb h.1;exact fL h.1,by rw[Jc];simp[cb.symm]⟩
 ·intro s t' hs
  by_cases eG:s=d
  ·subst eG
   simp[Wr.find]at hs;subst hs;have gm:(xs.take h).length=h:=by simp;omega
   simp only[Top]at e3;have hkc:∀ys:List T,yV ys→ ∀n,yV (ys.take n):=by
    intro ys
    induction ys with
    |nil=>intro _ n;simp[yV,xG]
    |cons y ys ih=>intro hy n;cases n with
     |zero=>simp[yV,xG]
     |succ n=>exact⟨hy.1,ih hy.2 n⟩
   refine⟨?_,?_,by simp only[Top];exact hkc xs e3 h⟩
   ·rw[Jc]
    simp[gc.size,hd,mkV,G',Gh.cut,v]
   ·simp only[R]
    refine .inr ⟨b,o0,cap',cs,e,by rw[gm];simp[G',Gh.cut,v],h2,by omega,by omega,by have:=Kf k fb;omega,gow b _ h6,fun o fY fX=>?_,?_⟩
    ·rw[gm]at fY
     show(if _ then _ else _)=_;rw[if_pos ⟨rfl,fY,fX⟩]
    ·refine zI1 _ [] 0 b o0 fun i x hx=>?_
     rw[Lo]at hx;split at hx
     ·rename_i hi
      obtain⟨g1,g2,g3⟩:=qU xs [] 0 b o0 k i x h8 hx;rw[J8]at g1 g3 ⊢
      refine⟨?_,g2,zAo (mv i hi) x (yM.mono (fun _ _=>False.elim) _ (vX xs e3 i x hx)) g3⟩;refine zFS x [i] [i] b _ (fun z=>by simp[G',Gh.cut]) (fun z=>by simp[G',Gh.cut]) (fun b' o z hl=>⟨glb _ _ _ _ hl ?_,rfl⟩) g1
      rintro⟨rfl,fY,fX⟩
      have:=pF o dv z i fY fX hl;omega
     ·cases hx
  ·have h9:s=s0∧t'=.any:=by
    simp only[Wr.find]at hs;rw[if_neg (fun h=>eG h.symm)]at hs;split at hs
    ·rename_i h;simp at hs;exact⟨h.symm,hs.symm⟩
    ·cases hs
   obtain⟨rfl,rfl⟩:=h9;refine⟨?_,by simp only[R],by simp[Top]⟩;rw[Jc];simp only[Ne.symm eG,if_false,mkV];rw[e1,xH rfl];simp[G',Gh.cut,eG]
theorem zPW{G:Gh}{tmps:Array Value}{w:World}(gc:Rep Γ E G tmps w)(hd:d<Γ.N){s0 k:Nat}(eu:E s0=dq (.sl k []))(gf:s0≠d)(a:Option Addr):
  ∃G',Rep Γ (E.app [(d,dq (.sl k [])),(s0,dq .any)] [(d,0),(s0,1)]) G' (tmps.setIfInBounds d (.slice a 0 0)) w:=by
 obtain⟨e1,_,_⟩:=gc.ent s0 _ eu;refine⟨G.put d (fun _=>.slice a 0 0),?_⟩;have hk:qQ [(d,0),(s0,1)] G w (G.put d fun _=>.slice a 0 0) w:=by have h0:=G.put_keep (w:=w) (w':=w) rfl d (fun _=>.slice a 0 0);refine⟨fun s p ho=>h0.hd s p (fun n hn=>ho n (by simp at hn ⊢;exact .inl hn)),fun s p ho=>h0.ad s p (fun n hn=>ho n (by simp at hn ⊢;exact .inl hn)),fun b o f s p h1 h2 h3=>h0.lb b o f s p h1 h2 (fun n hn=>h3 n (by simp at hn ⊢;exact .inl hn)),fun b s p h1 h3=>h0.ow b s p h1 (fun n hn=>h3 n (by simp at hn ⊢;exact .inl hn)),h0.blk⟩
 refine vC gc (by simp) hk (gc.mem.put rfl d _ (fun _=>rfl)) ?_ ?_
 ·intro s hs
  have cb:s≠d:=by rintro rfl;simp[Wr.find]at hs
  have fL:s≠s0:=by rintro rfl;simp[Wr.find,gf.symm]at hs
  exact⟨fun n hn=>by simp at hn;rcases hn with h|h;exact cb h.1;exact fL h.1,by rw[Jc];simp[cb.symm]⟩
 ·intro s t' hs
  by_cases eG:s=d
  ·subst eG
   simp[Wr.find]at hs;subst hs;refine⟨by rw[Jc];simp[gc.size,hd,mkV,Gh.put],by simp only[R];exact .inl ⟨trivial,a,by simp[Gh.put]⟩,by simp[Top,yV,xG]⟩
  ·have h9:s=s0∧t'=.any:=by
    simp only[Wr.find]at hs;rw[if_neg (fun h=>eG h.symm)]at hs;split at hs
    ·rename_i h;simp at hs;exact⟨h.symm,hs.symm⟩
    ·cases hs
   obtain⟨rfl,rfl⟩:=h9;refine⟨?_,by simp only[R],by simp[Top]⟩;rw[Jc];simp only[Ne.symm eG,if_false,mkV];rw[e1,xH rfl];simp[Gh.put,eG]
end
section
variable {P:Program}{Γ:Ctx}{pn:sQ}{E E':Env}{Q:Exit→Env→Prop}{d:Nat}{x y:Operand}{ty:TypeId}{ps:String}{af:Array Edge}{gd:Option (Nat×Bool)}
theorem zXB{α:Type}{t e:TypeId}{ti:TypeInfo}{s0 k:Nat}{f:α→T}{xs ys:List α}{mx:Option Operand}{h:Int}{u:T}(ht:ElT P t e ti k u)(hv:zP xs 0 h=dq ys)(h0:E s0=dq (L k f xs))(hy:opT E y=dq (I h))(tj:mx=dt∨ ∃z,mx=dq z∧opT E z=dq (I h))(sd:(J3 d Γ.N&&(s0 != d))=du):
  Ok P Γ ⟨dq d,.slice t (.tmp s0) dt (dq y) mx,ty,ps,af,gd⟩ E (E.app [(d,dq (L k f ys)),(s0,dq .any)] [(d,0),(s0,1)]):=by
 obtain⟨_,mI,ci,rfl⟩:=tN hv;simp only[J2]at sd;have gf:s0≠d:=by simpa using sd.2
 obtain⟨n,rfl⟩:∃n:Nat,h=n:=⟨h.toNat,by omega⟩;have hn:n≤xs.length:=by omega
 intro S;refine xR.value rfl fun a w G gc=>?_
 obtain⟨e1,e2,_⟩:=gc.ent s0 _ h0;have bT:=(xE gc hy).1;have md:a.eval (.tmp s0)=G.hd s0 []:=by rw[xM e1,xH rfl]
 have cD:=ht.un;have gM:=ht.info;have gv:=ht.size;have pW:List.map f ((xs.drop (0:Int).toNat).take ((n:Int).toNat-(0:Int).toNat))=(xs.map f).take n:=by simp[Gj]
 rw[show L k f ((xs.drop (0:Int).toNat).take ((n:Int).toNat-(0:Int).toNat))=.sl k ((xs.map f).take n)by simp only[L,pW]];have e2':=e2;simp only[R]at e2;rcases e2 with⟨aH,ad,h1⟩|⟨b,o0,cap,cs,e',h1,h2,h3,h4,h5,h6,h7,h8⟩
 ·have eQ:xs=[]:=by simpa using aH
  subst eQ;simp at hn;subst hn;obtain⟨G',gp⟩:=zPW gc (zY sd.1) (k:=k) (by rw[h0];rfl) gf ad;refine⟨_,w,?_,G',by simpa using gp⟩;rcases tj with rfl|⟨z,rfl,hz⟩
  ·simp[execOp,Instr.sliceAt,Instr.slice,run_underlying cD,md,h1,bT,sizeOf,typeInfo,gM,Instr.sliceBounds,Instr.sliceBound,asIntOf]
  ·have pL:=(xE gc hz).1
   simp[execOp,Instr.sliceAt,Instr.slice,run_underlying cD,md,h1,bT,pL,sizeOf,typeInfo,gM,Instr.sliceBounds,Instr.sliceBound,asIntOf]
 ·rw[Ju]at h1 h3
  have br:n≤cap:=by omega
  have hcz:cap=0→n=0:=by omega
  rcases tj with rfl|⟨z,rfl,hz⟩
  ·obtain⟨G',gp⟩:=zMT gc (zY sd.1) h0 gf ht.pos (by rw[Ju];exact h1) h2 (by rw[Ju];exact h3) h4 h5 h6 h7 h8 (h:=n) (cap':=cap) (by simpa using hn) br (Jd _)
   refine⟨_,w,?_,G',gp⟩;simp[execOp,Instr.sliceAt,Instr.slice,run_underlying cD,md,h1,bT,sizeOf,typeInfo,gM,Instr.sliceBounds,Instr.sliceBound,asIntOf,br,vN]
  ·have pL:=(xE gc hz).1
   obtain⟨G',gp⟩:=zMT gc (zY sd.1) h0 gf ht.pos (by rw[Ju];exact h1) h2 (by rw[Ju];exact h3) h4 h5 h6 h7 h8 (h:=n) (cap':=n) (by simpa using hn) (Jd _) br;refine⟨_,w,?_,G',gp⟩;simp[execOp,Instr.sliceAt,Instr.slice,run_underlying cD,md,h1,bT,pL,sizeOf,typeInfo,gM,Instr.sliceBounds,Instr.sliceBound,asIntOf,br,vN]
end
end Go.Ab

namespace Go.Ab
open Go
section
variable {P:Program}{Γ:Ctx}{pn:sQ}{E E':Env}{Q:Exit→Env→Prop}{d:Nat}{x y:Operand}{ty:TypeId}{ps:String}{af:Array Edge}{gd:Option (Nat×Bool)}{ops:Array Oper}{os:List Oper}
theorem zOi{P:Program}{w:World}{t e:TypeId}{a:Option Addr}{n c:Nat}(m:Nat)(h:P.underlying t=dq (.slice e)):(Op.equalIn (m+1) t (.slice a n c) (.slice dt 0 0)).run P w=.ok a.isNone w:=by simp only[Op.equalIn,Sem.run_bind,run_underlying h];cases a<;>rfl
theorem RW.isnil{α:Type}{xt yt e:TypeId}{r k:Nat}{q:List Nat}{f:α→T}{xs:List α}{u:T}(hu:P.underlying xt=dq (.slice e))(hx:uQ E x=dq (r,q,u))(fI:u=.ro (L k f xs)∨u=L k f xs)(sd:J3 d Γ.N=du)(hp:pn.ok (dq d)=du)
  (h:∀b,(b=du→xs=[])→RW P Γ pn ops os (E.app [(d,dq (B b))] [(d,0)]) Q):RW P Γ pn ops (⟨dq d,.binOp .eql xt x (.const (.slice dt 0 0)) yt,ty,ps,af,dt⟩::os) E Q:=by
 intro a w Q' hs fm hQ;obtain⟨S,hS,ea,G,gc⟩:=id hs;have fe:u.single=du:=by rcases fI with rfl|rfl<;>rfl
 obtain⟨h1,h2⟩:=sP gc hx fe;obtain⟨ad,n,c,h3,h4⟩:∃ad n c,a.eval x=.slice ad n c∧(ad.isNone=du→xs=[]):=by
  rcases fI with rfl|rfl
  ·obtain⟨ad,c,g1,_,_,g2⟩:=zC4 h1
   refine⟨ad,_,c,by rw[h2,g1],fun hn=>?_⟩;apply Classical.byContradiction;intro gf;obtain⟨b,o',_,_,_,rfl,_⟩:=g2 (by simpa using gf);simp at hn
  ·simp only[R]at h1
   rcases h1 with⟨g1,ad,g2⟩|⟨b,_,cap,cs,e',g1,_⟩
   ·exact⟨ad,0,0,by rw[h2,g2],fun _=>by simpa using g1⟩
   ·exact⟨_,_,_,by rw[h2,g1],fun hn=>by simp at hn⟩
 have gx:(execOp a.eval ⟨dq d,.binOp .eql xt x (.const (.slice dt 0 0)) yt,ty,ps,af,dt⟩).run P w=.ok (.value (.bool ad.isNone)) w:=by have h5:(Op.equalIn 10000 xt (.slice ad n c) (.slice dt 0 0)).run P w=.ok ad.isNone w:=zOi 9999 hu;have h6:a.eval (.const (.slice dt 0 0))=.slice dt 0 0:=rfl;simp[execOp,h3,h6,eqGuard,binOp,zGn,h5]
 simp only[wpL,Region.wanted,if_true];refine .inl ?_;unfold Oper.wp;rw[gx,Oper.upon_value];have eW:=vD gc rfl (zY sd) (fun _=>.bool ad.isNone) (fun _=>rfl) (B ad.isNone) (.bool ad.isNone) (by simp[mkV,Gh.put]) (by simp[R,Gh.put]) (by simp[Top]);refine h ad.isNone h4 _ w Q' ⟨S,hS,ea,_,eW⟩ ?_ hQ;refine fm.frame hp fun s gR=>?_
 have:d≠s:=fun e=>gR (by rw[e])
 simp[Act.put,Array.getElem?_setIfInBounds_ne this]
theorem zM.nil(s k:Nat)(hs:E s=dq (.lit (.slice dt 0 0))):zM Γ E (E.app [(s,dq (.sl k []))] [(s,0)]):=by
 rintro a w ⟨S,hS,ea,G,gc⟩
 refine⟨S,hS,ea,G,?_⟩;have hk:qQ [(s,0)] G w G w:=⟨fun _ _ _=>rfl,fun _ _ _=>rfl,fun _ _ _ _ _ _ h _=>⟨h,rfl⟩,fun _ _ _ h _=>h,fun b cs e h=>⟨cs,h,rfl⟩⟩;refine vC gc rfl hk gc.mem (fun s' gR=>⟨fun n hn=>?_,rfl⟩) fun s' t gR=>?_
 ·simp at hn
  simp[Wr.find,hn.1]at gR
 ·simp only[Wr.find]at gR
  split at gR
  ·rename_i e;subst e
   simp at gR;subst gR;obtain⟨h1,h2,_⟩:=gc.ent s _ hs;simp only[R]at h2;exact⟨by rw[h1];rfl,by simp only[R];exact .inl ⟨trivial,dt,h2⟩,by simp[Top,yV,xG]⟩
  ·cases gR
theorem zFy{src dst:TypeId}{ds:TypeDesc}{k k':IntKind}{n:Int}(hs:P.underlying src=dq ds)(ht:P.underlying dst=dq (.int k'))(hx:opT E x=dq (IK k n))(sd:J3 d Γ.N=du):
  Ok P Γ ⟨dq d,.convert src dst x,ty,ps,af,gd⟩ E (E.app [(d,dq (IK k' (k'.wrap n)))] [(d,0)]):=fun _=>zSB src dst ds x k k' n rfl rfl (zY sd) hs ht hx
theorem zVK{k:IntKind}{m n:Int}{xt yt:TypeId}(hx:opT E x=dq (IK k m))(hy:opT E y=dq (IK k n))(sd:J3 d Γ.N=du):Ok P Γ ⟨dq d,.binOp .add xt x y yt,ty,ps,af,gd⟩ E (E.app [(d,dq (IK k (k.wrap (m+n))))] [(d,0)]):=
 fun _=>vM .add xt yt x y k m n _ rfl rfl (zY sd) hx hy rfl
theorem zVL{k:IntKind}{m n:Int}{xt yt:TypeId}(hx:opT E x=dq (IK k m))(hy:opT E y=dq (IK k n))(sd:J3 d Γ.N=du):Ok P Γ ⟨dq d,.binOp .mul xt x y yt,ty,ps,af,gd⟩ E (E.app [(d,dq (IK k (k.wrap (m*n))))] [(d,0)]):=
 fun _=>vM .mul xt yt x y k m n _ rfl rfl (zY sd) hx hy rfl
theorem zVM{k:IntKind}{m n:Int}{xt yt:TypeId}(hx:opT E x=dq (IK k m))(hy:opT E y=dq (IK k n))(sd:J3 d Γ.N=du):Ok P Γ ⟨dq d,.binOp .sub xt x y yt,ty,ps,af,gd⟩ E (E.app [(d,dq (IK k (k.wrap (m-n))))] [(d,0)]):=
 fun _=>vM .sub xt yt x y k m n _ rfl rfl (zY sd) hx hy rfl
theorem zL4{k:IntKind}{m n:Int}{xt yt:TypeId}(hx:opT E x=dq (IK k m))(hy:opT E y=dq (IK k n))(sd:J3 d Γ.N=du):Ok P Γ ⟨dq d,.binOp .gtr xt x y yt,ty,ps,af,gd⟩ E (E.app [(d,dq (B (decide (m> n))))] [(d,0)]):=
 fun _=>vM .gtr xt yt x y k m n _ rfl rfl (zY sd) hx hy rfl
theorem zVN{k:IntKind}{m n:Int}{xt yt:TypeId}(hx:opT E x=dq (IK k m))(hy:opT E y=dq (IK k n))(sd:J3 d Γ.N=du):Ok P Γ ⟨dq d,.binOp .eql xt x y yt,ty,ps,af,gd⟩ E (E.app [(d,dq (B (m==n)))] [(d,0)]):=
 fun _=>vM .eql xt yt x y k m n _ rfl rfl (zY sd) hx hy rfl
theorem zVO{k:IntKind}{m n:Int}{xt yt:TypeId}(hx:opT E x=dq (IK k m))(hy:opT E y=dq (IK k n))(sd:J3 d Γ.N=du):Ok P Γ ⟨dq d,.binOp .lss xt x y yt,ty,ps,af,gd⟩ E (E.app [(d,dq (B (decide (m<n))))] [(d,0)]):=
 fun _=>vM .lss xt yt x y k m n _ rfl rfl (zY sd) hx hy rfl
def zFm(k:IntKind)(m n:Int):Int:=k.wrap ((BitVec.ofInt k.bits m &&& BitVec.ofInt k.bits n).toNat:Int)
theorem zVP{k:IntKind}{m n:Int}{xt yt:TypeId}(hx:opT E x=dq (IK k m))(hy:opT E y=dq (IK k n))(sd:J3 d Γ.N=du):Ok P Γ ⟨dq d,.binOp .and xt x y yt,ty,ps,af,gd⟩ E (E.app [(d,dq (IK k (zFm k m n)))] [(d,0)]):=by
 intro S;refine tZ (.int k (zFm k m n)) rfl rfl (zY sd) fun a w G gc=>?_
 have h1:=(xE gc hx).1;have h2:=(xE gc hy).1;simp[execOp,h1,h2,eqGuard,binOp,Op.intBits,zFm]
theorem zVQ{k k':IntKind}{m n:Int}{xt yt:TypeId}(hn:0≤n)(hx:opT E x=dq (IK k m))(hy:opT E y=dq (IK k' n))(sd:J3 d Γ.N=du):Ok P Γ ⟨dq d,.binOp .shr xt x y yt,ty,ps,af,gd⟩ E (E.app [(d,dq (IK k (m.fdiv (2 ^ (min n.toNat k.bits)))))] [(d,0)]):=by
 intro S;refine tZ (.int k (m.fdiv (2 ^ (min n.toNat k.bits)))) rfl rfl (zY sd) fun a w G gc=>?_
 have h1:=(xE gc hx).1;have h2:=(xE gc hy).1;have h3:¬n<0:=by omega
 simp[execOp,h1,h2,eqGuard,binOp,Op.shift,h3]
end
end Go.Ab

namespace Go.Ab
open Go
structure zPX (P:Program) (f:Field) (i:Nat):Prop where
 name:f.name≠ "_"
 off:f.offset=i
 ty:P.underlying f.type=dq (.int .i64)
class zSW (P:Program) (t:TypeId):Prop where
 h:∃f0 f1 f2 f3:Field,P.underlying t=dq (.struct #[f0,f1,f2,f3])∧zPX P f0 0∧zPX P f1 1∧zPX P f2 2∧zPX P f3 3
 st:P.stoodInHeld t=dv
 gd:P.eqGuardType P.depth t=dv
theorem zDN{P:Program}{w:World}{f:Field}{i:Nat}(h:zPX P f i)(cs:Array Value)(v:Value)(hv:cs[i]? =dq v):(part f.type cs f.offset).run P w=.ok v w:=by simp[part,qX h.ty,zEn,h.off,hv]
theorem zPY{P:Program}{w:World}{t:TypeId}(h:zSW P t)(a b c d a' b' c' d':Int)(m:Nat):
  (Op.equalIn (m+2) t (.agg #[.int .i64 a,.int .i64 b,.int .i64 c,.int .i64 d]) (.agg #[.int .i64 a',.int .i64 b',.int .i64 c',.int .i64 d'])).run P w=.ok (a==a'&&(b==b'&&(c==c'&&d==d'))) w:=by
 obtain⟨f0,f1,f2,f3,h1,g0,g1,g2,g3⟩:=h.h;have k0:=fun(x y:Int)=>zFx (P:=P) (w:=w) (a:=x) (b:=y) m g0.ty
 have k1:=fun(x y:Int)=>zFx (P:=P) (w:=w) (a:=x) (b:=y) m g1.ty
 have k2:=fun(x y:Int)=>zFx (P:=P) (w:=w) (a:=x) (b:=y) m g2.ty
 have k3:=fun(x y:Int)=>zFx (P:=P) (w:=w) (a:=x) (b:=y) m g3.ty
 have gK:=h.st;rw[Op.equalIn];simp only[Sem.run_bind,run_underlying h1];have q0:=fun(a b c d:Int)=>zDN (w:=w) g0 #[.int .i64 a,.int .i64 b,.int .i64 c,.int .i64 d] (.int .i64 a) rfl
 have q1:=fun(a b c d:Int)=>zDN (w:=w) g1 #[.int .i64 a,.int .i64 b,.int .i64 c,.int .i64 d] (.int .i64 b) rfl
 have q2:=fun(a b c d:Int)=>zDN (w:=w) g2 #[.int .i64 a,.int .i64 b,.int .i64 c,.int .i64 d] (.int .i64 c) rfl
 have q3:=fun(a b c d:Int)=>zDN (w:=w) g3 #[.int .i64 a,.int .i64 b,.int .i64 c,.int .i64 d] (.int .i64 d) rfl
 by_cases e0:a=a'<;>by_cases e1:b=b'<;>by_cases e2:c=c'<;>by_cases e3:d=d'<;>
  simp[gK,g0.name,g1.name,g2.name,g3.name,q0,q1,q2,q3,k0,k1,k2,k3,e0,e1,e2,e3]
section
variable {P:Program}{Γ:Ctx}{E E':Env}{d:Nat}{x y:Operand}{ty:TypeId}{ps:String}{af:Array Edge}{gd:Option (Nat×Bool)}
theorem zVR{t t':TypeId}{s s':Nat}{a b c e a' b' c' e':Int}(h:zSW P t)(hx:E s=dq (.agg [I a,I b,I c,I e]))(hy:E s'=dq (.agg [I a',I b',I c',I e']))(sd:J3 d Γ.N=du):
  Ok P Γ ⟨dq d,.binOp .eql t (.tmp s) (.tmp s') t',ty,ps,af,gd⟩ E (E.app [(d,dq (B (a==a'&&(b==b'&&(c==c'&&e==e')))))] [(d,0)]):=by
 intro S;refine tZ _ rfl rfl (zY sd) fun A w G gc=>?_
 obtain⟨h1,h2,_⟩:=gc.ent s _ hx;obtain⟨h3,h4,_⟩:=gc.ent s' _ hy;simp only[R,RF]at h2 h4;have e1:A.eval (.tmp s)=.agg #[.int .i64 a,.int .i64 b,.int .i64 c,.int .i64 e]:=by rw[xM h1];simp[mkV,zX,vals,h2]
 have e2:A.eval (.tmp s')=.agg #[.int .i64 a',.int .i64 b',.int .i64 c',.int .i64 e']:=by rw[xM h3];simp[mkV,zX,vals,h4]
 have h5:(Op.equalIn 10000 t (.agg #[.int .i64 a,.int .i64 b,.int .i64 c,.int .i64 e]) (.agg #[.int .i64 a',.int .i64 b',.int .i64 c',.int .i64 e'])).run P w=_:=zPY (w:=w) h a b c e a' b' c' e' 9998;have hg:=h.gd;simp[execOp,e1,e2,eqGuard,binOp,zGn,h5,hg]
end
end Go.Ab

namespace Go.Ab
open Go
abbrev vI(n:Int):Value:=.int .i64 n
section
variable {Γ:Ctx}{E:Env}
theorem zJL{G:Gh}{tmps:Array Value}{w w':World}(gc:Rep Γ E G tmps w){s0:Nat}{xs us:List Int}(eu:E s0=dq (L 1 I xs))(gm:us.length=xs.length)
  {b o0 cap:Nat}{cs cs':Array Value}{e:TypeId}(h1:G.hd s0 []=.slice (dq ⟨b,o0,dt⟩) xs.length cap)(h2:w.heap[b]? =dq (.cells cs e (0,0)))(h3:xs.length≤cap)(h4:cap≤maxLen)(h5:o0+cap*1≤cs.size)(h6:G.ow b=dq (s0,[]))
  (h7:∀o,o0+xs.length*1≤o→o<o0+cap*1→G.lb b o=dq (du,s0,[]))(h8:RL Γ.St G w s0 (xs.map I) [] 0 b o0 1)
  (k1:w'.heap[b]? =dq (.cells cs' e (0,0)))(k2:cs'.size=cs.size)(k3:∀b',b'≠b→w'.heap[b']? =w.heap[b']?)(k4:w'.heap.size=w.heap.size)(ko:w'.os=w.os)(kq:w'.output=w.output)(k5:∀(i:Nat) u,us[i]? =dq u→cs'[o0+i]? =dq (vI u)):
  ∃G',Rep Γ (E.app [(s0,dq (L 1 I us))] [(s0,1)]) G' tmps w':=by
 have hm:=gc.mem;obtain⟨e1,_,_⟩:=gc.ent s0 _ eu;have gL:=hm.ow b _ h6
 let G':Gh:={ G with hd:=fun s z=>if s=s0 then(match z with
  | [i]=>(match us[i]? with
   |some u=>vI u
   |none=>G.hd s0 z)
  |_=>G.hd s0 z)else G.hd s z }
 have hB:Blk w w':=by
  intro b' cs2 e2 hb
  by_cases cu:b'=b
  ·subst cu
   rw[h2]at hb;simp at hb;obtain⟨rfl,rfl⟩:=hb;exact⟨cs',k1,k2⟩
  ·exact⟨cs2,by rw[k3 b' cu];exact hb,rfl⟩
 have gw:qQ [(s0,1)] G w G' w':=by
  refine⟨fun s p ho=>?_,fun _ _ _=>rfl,fun b' o f s p gW hl hs=>⟨hl,?_⟩,fun _ _ _ hl _=>hl,hB⟩
  ·by_cases h:s=s0
   ·subst h
    have:p=[]:=K4 (by have:=ho 1 (by simp);omega);subst this;simp[G']
   ·simp[G',h]
  ·have eG:s≠s0:=fun e=>hs 1 (by simp[e])
   obtain⟨y,hy⟩:=gW;have cu:b'≠b:=by
    rintro rfl
    rw[h6]at hy;simp at hy;exact eG hy.1.symm
   simp[yH,World.cell?,k3 b' cu]
 have gz:Mem Γ G' w':=by
  refine⟨fun s z=>?_,fun b' o l hl=>?_,fun b' l hl=>?_,fun b' x hx=>?_,fun b' h h'=>?_,by rw[k4];exact hm.sz,hm.bk.trans hB ko kq⟩
  ·show(if _ then _ else _:Value).oneCell'=du
   split
   ·split
    ·split
     ·rfl
     ·exact hm.one _ _
    ·exact hm.one _ _
   ·exact hm.one _ _
  ·have:=hm.lb b' o l hl;exact⟨by rw[k4];exact this.1,this.2⟩
  ·have:=hm.ow b' l hl;exact⟨by rw[k4];exact this.1,this.2⟩
  ·have:b'≠b:=by rintro rfl;rw[gL.2.2]at hx;cases hx
   rw[k3 b' this];exact hm.st b' x hx
  ·have:b'≠b:=by
    rintro rfl
    rcases gL.2.1 with h0|h0
    ·omega
    ·exact h' h0
   rw[k3 b' this];exact hm.fr b' h h'
 refine⟨G',vC gc rfl gw gz ?_ ?_⟩
 ·intro s hs
  rw[uZ]at hs;split at hs
  ·cases hs
  ·rename_i gf
   exact⟨fun n hn=>gf (by simp at hn;exact hn.1.symm),rfl⟩
 ·intro s t' hs
  rw[uZ]at hs;split at hs
  ·rename_i he;subst he
   simp at hs;subst hs;refine⟨by rw[e1];simp[mkV,G'],?_,by simp only[Top];exact zDq zMO us⟩;simp only[R];refine .inr ⟨b,o0,cap,cs',e,by simp[G',h1,gm],k1,by simp[gm];exact h3,h4,by omega,h6,fun o fY fX=>h7 o (by simpa[gm]using fY) fX,?_⟩;refine zI1 _ [] 0 b o0 fun i x hx=>?_
   rw[Jz,Ke]at hx;obtain⟨u,hu,rfl⟩:=hx;have hi:=(Jb.1 hu).1;obtain⟨g1,g2,_⟩:=qU _ [] 0 b o0 1 i (I xs[i]) h8 (by simp[show i<xs.length by omega]);simp only[J8,Hv,Loc]at g1 ⊢
   refine⟨⟨g1.1,g1.2.1,?_⟩,rfl,by simp[R,G',hu]⟩;have:=k5 i u hu;simp[yH,World.cell?,k1,this,G',hu]
  ·cases hs
def zEX(P:Program)(Γ:Ctx)(E:Env)(y:Operand)(ys:List Int):Prop:=∀(a:Act)(w:World)(G:Gh),Rep Γ E G a.tmps w→ ∃xa c,a.eval y=.slice xa ys.length c∧
 ∀(n:Nat),n≤ys.length→(Builtin.firstCells 1 n (.slice xa ys.length c)).run P w=.ok ((ys.take n).map vI).toArray w
theorem zBO{P:Program}{w:World}{b o:Nat}{cs:Array Value}{e:TypeId}{fr:Nat×Nat}(hb:w.heap[b]? =dq (.cells cs e fr))(ys:List Int)(hv:∀(i:Nat) u,ys[i]? =dq u→cs[o+i]? =dq (vI u))(n:Nat)(hn:n≤ys.length)(len cap:Nat):
  (Builtin.firstCells 1 n (.slice (dq ⟨b,o,dt⟩) len cap)).run P w=.ok ((ys.take n).map vI).toArray w:=by
 refine run_firstCells_some (P:=P) w 1 n ⟨b,o,dt⟩ len cap _ (by simp;omega) fun j v hj=>?_
 rw[Jz,Ke]at hj;obtain⟨u,hu,rfl⟩:=hj;rw[Lo]at hu;split at hu
 ·rw[vN]
  have:=hv j u hu;simp[World.cell?,hb,this]
 ·cases hu
theorem zCh{P:Program}{w:World}{a:Option Addr}{c:Nat}:(Builtin.firstCells 1 0 (.slice a 0 c)).run P w=.ok #[] w:=by cases a<;>simp[Builtin.firstCells,loadCells,loadCellsFrom]
theorem zEX.ro{P:Program}{y:Operand}{ys:List Int}{r:Nat}{q:List Nat}(h:uQ E y=dq (r,q,.ro (L 1 I ys))):zEX P Γ E y ys:=fun a w G gc=>by
 obtain⟨h1,h2⟩:=sP gc h rfl;obtain⟨xa,c,g1,_,_,g2⟩:=zC4 h1;rw[Ju]at g1;refine⟨xa,c,by rw[h2,g1],fun n hn=>?_⟩
 by_cases hy:ys=[]
 ·subst hy
  simp at hn;subst hn;simpa using zCh
 ·obtain⟨b,o,cs,e,fr,rfl,g3,g4⟩:=g2 (by simpa using hy)
  refine zBO (gc.mem.st b _ g3) ys (fun i u hu=>?_) n hn _ _;have:=zFt _ cs o 1 i (I u) g4 (by simp[hu]);simp only[RoC,Hv]at this;exact this.1
theorem zMU{G:Gh}{w:World}{s b o0:Nat}{q:List Nat}{cs:Array Value}{e:TypeId}{xs:List Int}{St:Stb}(h2:w.heap[b]? =dq (.cells cs e (0,0)))(h8:RL St G w s (xs.map I) q 0 b o0 1)(i:Nat)(u:Int)(hu:xs[i]? =dq u):cs[o0+i]? =dq (vI u):=by obtain⟨g1,_,g3⟩:=qU _ q 0 b o0 1 i (I u) h8 (by simp[hu]);simp only[Loc,R,J8,Hv]at g1 g3;have:=g1.2.2;simp only[yH,World.cell?,h2]at this;simpa[g3]using this
theorem zEX.sub{P:Program}{s r:Nat}{q:List Nat}{tr:T}{xs ys:List Int}{l h:Int}(hs:E s=dq (.sub r q 1 l.toNat h.toNat))(hr:E r=dq tr)(hg:tr.get q.reverse=dq (L 1 I xs))(hv:zP xs l h=dq ys):zEX P Γ E (.tmp s) ys:=fun a w G gc=>by
 obtain⟨k1,k2,k3,rfl⟩:=tN hv;obtain⟨e1,e2,_⟩:=gc.ent s _ hs;obtain⟨_,e4,_⟩:=gc.ent r _ hr;simp only[R]at e2;have h5:=(zBU q.reverse tr _ [] e4 hg).1;simp only[rp,Ks,Jk,R]at h5;have gm:((xs.drop l.toNat).take (h.toNat-l.toNat)).length=h.toNat-l.toNat:=by simp;omega
 rw[gm];have md:a.eval (.tmp s)=G.hd s []:=by rw[xM e1,xH rfl]
 rcases h5 with⟨g1,ad,g2⟩|⟨b,o0,cap,cs,e,g1,g2,g3,_,_,_,_,g8⟩
 ·have hy:xs=[]:=by simpa using g1
  subst hy;have hl0:l.toNat=0:=by simp at k3;omega
  have mD:h.toNat=0:=by simp at k3;omega
  refine⟨ad,0,by rw[md,e2,g2,hl0,mD];simp[zBg],fun n hn=>?_⟩;simp[mD]at hn;subst hn;rw[hl0,mD];simpa using zCh
 ·rw[Ju]at g1 g3
  refine⟨if cap=l.toNat then dq ⟨b,o0,dt⟩else dq ⟨b,o0+l.toNat,dt⟩,cap-l.toNat,by rw[md,e2,g1];simp only[zBg,Gx,vN,Hv],fun n hn=>?_⟩;split
  ·have:n=0:=by omega
   subst this;simp[Builtin.firstCells,loadCells,loadCellsFrom]
  ·refine zBO g2 _ (fun i u hu=>?_) n (by rw[gm];exact hn) _ _
   rw[Lo]at hu;split at hu
   ·rw[Lg]at hu
    rw[Ll];exact zMU g2 g8 _ u hu
   ·cases hu
def zCi(Γ:Ctx)(E:Env)(x:Operand)(s0 lo hi:Nat):Prop:=∀(a:Act)(w:World)(G:Gh),Rep Γ E G a.tmps w→a.eval x=zBg (G.hd s0 []) 1 lo hi
theorem zCi.slot{s0:Nat}{xs:List Int}(h:E s0=dq (L 1 I xs)):zCi Γ E (.tmp s0) s0 0 xs.length:=fun a w G gc=>by obtain⟨e1,e2,_⟩:=gc.ent s0 _ h;obtain⟨ad,c,g⟩:=zIw e2;rw[Ju]at g;rw[xM e1,xH rfl,g];simp[zBg];intro;cases ad<;>simp[Addr.add]
theorem zCi.same{s s0:Nat}{xs:List Int}(hs:E s=dq (.same s0 []))(h:E s0=dq (L 1 I xs)):zCi Γ E (.tmp s) s0 0 xs.length:=fun a w G gc=>by obtain⟨e1,e2,_⟩:=gc.ent s _ hs;have:=zCi.slot h a w G gc;obtain⟨e3,_,_⟩:=gc.ent s0 _ h;simp only[R]at e2;rw[xM e3,xH rfl]at this;rw[xM e1,xH rfl,e2];exact this
theorem zCi.sub{s s0 lo hi:Nat}(hs:E s=dq (.sub s0 [] 1 lo hi)):zCi Γ E (.tmp s) s0 lo hi:=fun a w G gc=>by obtain⟨e1,e2,_⟩:=gc.ent s _ hs;simp only[R]at e2;rw[xM e1,xH rfl,e2]
end
theorem zOj{α:Type}{xs ys:List α}{l h:Int}(hv:zP xs l h=dq ys):l.toNat≤h.toNat:=by have:=tN hv;omega
theorem zOl{α:Type}{xs ys:List α}{l h:Int}(hv:zP xs l h=dq ys):h.toNat≤xs.length:=by have:=tN hv;omega
theorem zMV{α:Type}(l z:List α)(lo i:Nat)(gY:lo+z.length≤l.length):(l.take lo++z++l.drop (lo+z.length))[i]? =if i<lo then l[i]? else if i<lo+z.length then z[i-lo]? else l[i]?:=by
 have hm:min lo l.length=lo:=by omega
 by_cases c1:i<lo
 ·rw[if_pos c1,Jh,L6 (by simp;omega),Lo,if_pos c1]
 ·rw[if_neg c1]
  by_cases c2:i<lo+z.length
  ·rw[if_pos c2,Jh,Jg (by simp;omega),Kl,hm,L6 (by omega)]
  ·rw[if_neg c2,Jh,Jg (by simp;omega),Kl,hm,Jg (by omega),Lg]
   congr 1;omega
def vT(xs:List Int)(lo:Nat)(zs:List Int):List Int:=xs.take lo++zs++xs.drop (lo+zs.length)
theorem zIF{P:Program}{Γ:Ctx}{E:Env}{d s0 lo hi:Nat}{x y:Operand}{ty:TypeId}{ps:String}{af:Array Edge}{gd:Option (Nat×Bool)}{t t2 e:TypeId}{ti:TypeInfo}{u:T}{xs ys:List Int}(ht:ElT P t e ti 1 u)(h0:E s0=dq (L 1 I xs))(hx:∀S,zCi (Γ.at S) E x s0 lo hi)(hy:∀S,zEX P (Γ.at S) E y ys)(h1:lo≤hi)(h2:hi≤xs.length)(sd:(J3 d Γ.N&&(s0 != d))=du):
  Ok P Γ ⟨dq d,.call { callee:=.builtin .copy,args:=#[x,y],argTypes:=#[t,t2] },ty,ps,af,gd⟩ E ((E.app [(s0,dq (L 1 I (vT xs lo (ys.take (hi-lo)))))] [(s0,1)]).app [(d,dq (I ((min ys.length (hi-lo):Nat):Int)))] [(d,0)]):=by
 simp only[J2]at sd;have gf:s0≠d:=by simpa using sd.2
 intro S;refine xR.value rfl fun a w G gc=>?_
 obtain⟨e1,e2,_⟩:=gc.ent s0 _ h0;obtain⟨xa,c,g1,g2⟩:=hy S a w G gc;have g3:=hx S a w G gc;have eK:min ys.length (hi-lo)≤ys.length:=by omega
 have g4:=g2 _ eK;have fH:ys.take (hi-lo)=ys.take (min ys.length (hi-lo)):=by rw[List.take_eq_take_iff];omega
 rw[fH]
 generalize hn:min ys.length (hi-lo)=n at*
 have bR:(ys.take n).length=n:=by simp;omega
 have gm:(vT xs lo (ys.take n)).length=xs.length:=by simp[vT,bR];omega
 have key:∃w',(Builtin.copy_ #[t,t2] ty #[a.eval x,a.eval y]).run P w=.ok (goInt n) w'∧ ∃G',Rep (Γ.at S) (E.app [(s0,dq (L 1 I (vT xs lo (ys.take n))))] [(s0,1)]) G' a.tmps w':=by
  have e2':=e2;simp only[R]at e2;rcases e2 with⟨k1,ad,k2⟩|⟨b,o0,cap,cs,e',k1,k2,k3,k4,k5,k6,k7,k8⟩
  ·have eQ:xs=[]:=by simpa using k1
   subst eQ;simp at h2;subst h2;have bu:n=0:=by omega
   subst bu;have gY:lo=0:=by omega
   subst gY;refine⟨w,?_,G,?_⟩
   ·rw[g3,k2,g1]
    cases ad<;>cases xa<;>simp[zBg,Builtin.copy_,run_underlying ht.un,Builtin.lenOf,sizeOf,typeInfo,ht.info,Builtin.firstCells,loadCells,loadCellsFrom,storeCells]
   ·refine vC gc rfl ⟨fun _ _ _=>rfl,fun _ _ _=>rfl,fun _ _ _ _ _ _ h _=>⟨h,rfl⟩,fun _ _ _ h _=>h,fun b cs e h=>⟨cs,h,rfl⟩⟩ gc.mem (fun s hs=>⟨fun n hn=>by simp at hn;simp[Wr.find,hn.1]at hs,rfl⟩) fun s t' hs=>?_
    rw[uZ]at hs;split at hs
    ·rename_i he;subst he
     simp at hs;subst hs;simpa[vT]using gc.ent s0 _ h0
    ·cases hs
  ·rw[Ju]at k1 k3 k7
   have gv:o0+cap≤cs.size:=by omega
   have gK:=run_storeCells_at P b (o0+lo) e' ((ys.take n).map vI) 0 cs w k2 (by simp;omega) (by intro v hv;obtain⟨u,_,rfl⟩:=Ja.1 hv;rfl);simp only[Qx,Ju]at gK
   generalize ez:w.setRow b (cs.toList.take (o0+lo)++(ys.take n).map vI++cs.toList.drop (o0+lo+(ys.take n).length)).toArray=w' at gK
   have gJ:cs.toList.length=cs.size:=Ka ..
   by_cases pc:cap=lo
   ·have bu:n=0:=by omega
    subst bu;refine⟨w,?_,G,?_⟩
    ·rw[g3,k1,g1]
     have g5:(Builtin.firstCells 1 0 (.slice xa ys.length c)).run P w=.ok #[] w:=by simpa using g4
     simp[zBg,Builtin.copy_,run_underlying ht.un,Builtin.lenOf,sizeOf,typeInfo,ht.info,ht.size,show hi-lo=0 by omega,g5,storeCells,pc]
    ·refine vC gc rfl ⟨fun _ _ _=>rfl,fun _ _ _=>rfl,fun _ _ _ _ _ _ h _=>⟨h,rfl⟩,fun _ _ _ h _=>h,fun b cs e h=>⟨cs,h,rfl⟩⟩ gc.mem (fun s hs=>⟨fun n hn=>by simp at hn;simp[Wr.find,hn.1]at hs,rfl⟩) fun s t' hs=>?_
     rw[uZ]at hs;split at hs
     ·rename_i he;subst he
      simp at hs;subst hs;simpa[vT]using gc.ent s0 _ h0
     ·cases hs
   ·refine⟨w',?_,zJL gc h0 gm k1 k2 k3 k4 k5 k6 k7 k8 (by rw[←ez];exact setRow_heap w b cs _ e' _ k2) ?_ (fun b' h=>by rw[←ez];exact setRow_other w b b' _ h) (by rw[←ez];exact size_setRow w b _) (by rw[←ez];rfl) (by rw[←ez];rfl) fun i v hv=>?_⟩
    ·rw[g3,k1,g1]
     have h9:Nat.min ys.length (hi-lo)=n:=hn;simp only[zBg,pc,if_false,Gx,vN,Hv];simp only[Builtin.copy_];rw[Gj]at gK;simp[run_underlying ht.un,Builtin.lenOf,sizeOf,typeInfo,ht.info,ht.size,h9,g4,gK]
    ·simp[bR];omega
    ·rw[vT,zMV _ _ _ _ (by rw[bR];omega)]at hv
     have h11:o0+lo+((ys.take n).map vI).length≤cs.toList.length:=by simp;omega
     have h10:=zMV cs.toList ((ys.take n).map vI) (o0+lo) (o0+i) h11;rw[Ju]at h10;rw[List.getElem?_toArray,h10];have ff:=fun i u hu=>zMU k2 k8 i u hu
     by_cases c1:i<lo
     ·rw[if_pos c1]at hv
      rw[if_pos (by omega)];simpa using ff i v hv
     ·rw[if_neg c1]at hv
      rw[if_neg (by omega)]
      by_cases c2:i<lo+(ys.take n).length
      ·rw[if_pos c2]at hv
       rw[if_pos (by omega),show o0+i-(o0+lo)=i-lo from by omega];rw[Jz,hv];rfl
      ·rw[if_neg c2]at hv
       rw[if_neg (by omega)];simpa using ff i v hv
 obtain⟨w',gx,G',gp⟩:=key;refine⟨_,w',?_,_,vD gp rfl (zY sd.1) (fun _=>vI n) (fun _=>rfl) (I n) (vI n) (by simp[mkV,Gh.put]) (by simp[R,Gh.put]) (by simp[Top])⟩;simp[execOp,resolve,invoke,builtin,gx,goInt]
end Go.Ab

namespace Go.Ab
open Go
theorem zHK{G G':Gh}{s d:Nat}(hd:∀z,G'.hd d z=G.hd s z):(xs:List T)→yI xs=du→ ∀(j:Nat),kX G' d (cpF s xs [] j) [] j=kX G s xs [] j
 | [],_,_=>by rfl
 |x::xs,h,j=>by
  simp only[yI,J2]at h;simp only[cpF,kX];have gX:∀ys,x≠.tup ys:=by rintro ys rfl;grind[T.okTup]
  have h1:=zA1 (G:=G) (G':=G') (s:=s) (d:=d) x [j] [j] gX (fun z=>hd _);have h2:∀ys,cpT s x [j]≠.tup ys:=by intro ys;cases x<;>simp[cpT]
  rw[kY _ _ _ _ h2]at h1;rw[h1,zHK hd xs h.2 (j+1)]
section
variable {P:Program}{Γ:Ctx}{E E':Env}{d:Nat}{x y:Operand}{ty:TypeId}{ps:String}{af:Array Edge}{gd:Option (Nat×Bool)}
theorem zVi{s:Nat}{ts:List T}(hx:E s=dq (.tup ts))(sd:(J3 d Γ.N&&yI ts&&(s != d)&&zJp [(d,0)] (cpF s ts [] 0))=du):Ok P Γ ⟨dq d,.move (.tmp s),ty,ps,af,gd⟩ E (E.app [(d,dq (.tup (cpF s ts [] 0)))] [(d,0)]):=by
 simp only[J2]at sd;obtain⟨⟨⟨s1,s2⟩,s3⟩,s4⟩:=sd;have gf:s≠d:=by grind
 intro S;refine xR.value rfl fun a w G gc=>?_
 obtain⟨h1,h2,_⟩:=gc.ent s _ hx;simp only[R]at h2;have hk:=G.put_keep (w:=w) (w':=w) rfl d (fun z=>G.hd s z);have hz:∀z,(G.put d (fun z=>G.hd s z)).hd d z=G.hd s z:=by grind[Gh.put_self]
 have mT:∀(xs:List T)(j:Nat),vS (cpF s xs [] j):=by
  intro xs
  induction xs with
  |nil=>intro j;simp only[cpF,vS]
  |cons x xs ih=>intro j;simp only[cpF,vS];grind[sL]
 refine⟨mkV G s (.tup ts) [],w,?_,_,vD gc rfl (zY s1) (fun z=>G.hd s z) (fun z=>gc.mem.one _ _) _ _ (by grind[mkV,zHK])
  (by simp only[R];exact zIu (fun p=>G.put_other _ p gf) ts [] [] 0 (fun z=>hz _) (xG.mono (fun r p hr=>⟨hk.hd r p hr,hk.ad r p hr⟩) _ (by grind[zFF])) h2) (by simp only[Top];grind)⟩
 simp[execOp,xM h1]
end
end Go.Ab

namespace Go.Ab
open Go
end Go.Ab

namespace Go.Ab
open Go
section
variable {P:Program}{Γ:Ctx}{E:Env}{d:Nat}{x:Operand}{ty:TypeId}{ps:String}{af:Array Edge}{gd:Option (Nat×Bool)}
class zXC (P:Program) (t:TypeId) (e:outParam TypeId) (ti:outParam TypeInfo) (n:outParam Nat) (k:outParam Nat):Prop where
 un:P.underlying t=dq (.array n e)
 info:P.info? e=dq ti
 size:ti.size=k
theorem zVj{t e:TypeId}{ti:TypeInfo}{n k r:Nat}{q:List Nat}{xs:List T}{u:T}(i:Nat)(ht:zXC P t e ti n k)(hx:uQ E x=dq (r,q,.ptr (.agg xs)))(hu:xs[i]? =dq u)(gN:T.sizes (xs.take i)=i*k)(sd:(J3 d Γ.N&&J3 i n)=du):
  Ok P Γ ⟨dq d,.indexAddr t x (.const (.int .i64 i)),ty,ps,af,gd⟩ E (E.app [(d,dq (.addr r (i::0::q)))] [(d,0)]):=by
 simp only[J2]at sd;have gM:=zY sd.2;intro S;refine xR.value rfl fun a w G gc=>?_
 obtain⟨g1,g2⟩:=sP gc hx rfl;simp only[R]at g1;obtain⟨b,cs,e',g4,_,_,_,g5,_⟩:=g1;simp only[Loc]at g5;have g6:=zDB xs (0::q) 0 b 0 i u g5.2 hu;simp only[J8]at g6;have g3:a.eval (.const (.int .i64 i))=.int .i64 i:=rfl;refine⟨.pointer (dq (G.ad r (i::0::q))),w,?_,_,vD gc rfl (zY sd.1) (fun _=>.pointer (dq (G.ad r (i::0::q)))) (fun _=>rfl) _ _ (by simp[mkV,Gh.put]) (by simp[R,Gh.put]) (by simp[Top])⟩;have gF:(i:Int)<(n:Int):=by omega
 have h0:(0:Int)≤i:=by omega
 have g7:=zDi g6;have ck:i<n:=gM;simp[execOp,Instr.indexAt,g3,g2,g4,asIntOf,run_underlying ht.un,h0,ck,sizeOf,typeInfo,ht.info,ht.size,vN,tD,g7,gN]
end
end Go.Ab
namespace Go.Ab
open Go
theorem zJM{E:Env}{ds r s:Nat}{q:List Nat}{tr u t:T}(h:E s=dq t)(gf:(Lv ds s||Lv r s)=dv:=by rfl)(hb:t.okB [(ds,1),(r,q.length+1)]=du:=by rfl):opT (wB E ds r q tr u) (.tmp s)=dq t:=by
 have h1:ds≠s:=by rintro rfl;simp at gf
 have h2:r≠s:=by rintro rfl;simp at gf
 simp[opT,wB,Env.app,Wr.find,h1,h2,h,hb]
end Go.Ab
namespace Go.Ab
open Go
section
variable {P:Program}{Γ:Ctx}{pn:sQ}{E E':Env}{Q Q1:Exit→Env→Prop}{c c1 c2:Code}{ops:Array Oper}{o:Oper}{os:List Oper}{id:Nat}
theorem sR(h:RW P Γ pn ops ops.toList E (zS P Γ pn c Q)):CW P Γ pn (.seq (.region id ops dv) c) E Q:=CW.seq (CW.region h)
theorem rN(h:CW P Γ pn c E Q):RW P Γ pn ops [] E (zS P Γ pn c Q):=RW.nil h
theorem oP(h:Ok P Γ o E E')(k:RW P Γ pn ops os E' Q)(hg:o.guard=dt:=by rfl)(hp:pn.ok o.dst=du:=by rfl):RW P Γ pn ops (o::os) E Q:=RW.op h k hg hp
def zVS(ops:List Oper):List (List Nat):=(ops.foldl (fun(acc:Array (List Nat)) o=>acc.push ((zBp o).foldl (fun l m=>m::(acc.getD m [])++l) [])) #[]).toList
theorem CW.lp{σ ρ:Type}(body:σ→Option (σ⊕ρ))(en:σ→Env)(Q1:ρ→Exit→Env→Prop){s:σ}{r:ρ}(hg:zM Γ E (en s))(h:∀s x,body s=dq x→CW P Γ pn c (en s) (yQ Γ en Q1 x))(hr:zG body s=dq r)(hq:∀e E',Q1 r e E'→Q e E'):CW P Γ pn (.loop c) E Q:=
 (CW.mono (CW.loop body en Q1 h hr) hq).ghost hg
end
end Go.Ab

namespace Go.Ab
open Go Go.ChangeShapes
abbrev zJN(w:World):Stb:=fun b=>w.heap[b]?
theorem zOm{w:World}{a:Addr}{n:Nat}{cs:List Value}(h:w.cells? 0 a n=dq cs):cs.length=n∧ ∀(i:Nat) v,cs[i]? =dq v→w.cell? (a.add i)=dq v:=by
 unfold World.cells? at h;rw[if_pos (Kd _)]at h;refine⟨by simpa using mapM_some_length h,fun i v hv=>?_⟩;have hi:i<n:=by have:=(Jb.1 hv).1;have h2:=mapM_some_length h;rw[U5]at h2;omega
 rw[←hv];exact mapM_some_get h i i (by simp[hi])
theorem zMW{w:World}{a:Addr}{v:Value}(h:w.cell? a=dq v):a.spot=dt∧ ∃c e fr,w.heap[a.block]? =dq (.cells c e fr)∧c[a.off]? =dq v:=by
 simp only[World.cell?]at h;split at h
 ·rename_i c e fr hb
  split at h
  ·cases h
  ·rename_i hs
   exact⟨by cases hq:a.spot with|none=>rfl|some _=>rw[hq]at hs;simp at hs,c,e,fr,hb,h⟩
 ·cases h
theorem zJO{b o m:Nat}:(Addr.mk b o dt).add m=⟨b,o+m,dt⟩:=by
 unfold Addr.add;split
 ·rename_i h;subst h;rfl
 ·rfl
theorem zEY{α:Type}{Q:Nat→α→Prop}:∀(n:Nat),(∀i,i<n→ ∃x,Q i x)→ ∃xs:List α,xs.length=n∧ ∀i x,xs[i]? =dq x→Q i x
 |0,_=>⟨[],rfl,fun i x h=>by simp at h⟩
 |n+1,h=>by
  obtain⟨xs,h1,h2⟩:=zEY n fun i hi=>h i (by omega)
  obtain⟨y,hy⟩:=h n (by omega);refine⟨xs++[y],by simp[h1],fun i x hx=>?_⟩;rw[Kg]at hx;split at hx
  ·exact h2 i x hx
  ·rename_i hge
   have:i-xs.length=0:=by have:=(Jb.1 hx).1;simpa using this
   rw[this]at hx;simp at hx;subst hx
   rwa [show i=n from by omega]
theorem zMX{St:Stb}:(xs:List T)→ ∀(cs:Array Value)(o k:Nat),(∀i x,xs[i]? =dq x→RoC St x cs (o+i*k))→RoL St xs cs o k
 | [],_,_,_,_=>by simp only[RoL]
 |x::xs,cs,o,k,h=>by
  simp only[RoL];refine⟨by simpa using h 0 x rfl,zMX xs cs (o+k) k fun i y hy=>?_⟩;have:=h (i+1) y (by simpa using hy)
  rwa [show o+k+i*k=o+(i+1)*k from by rw[Kx];omega]
section
variable {P:Program}
def RdT(P:Program)(t:TypeId)(k:Nat){α:Type}(f:α→T)(V:α→Prop):Prop:=
 ∀{H:Type}(enc:TypeId×Value→H)(w:World)(fuel:Nat)(cs:List Value)(x:DataW H×List MemPlace),DataW.trod enc P w 0 (fun _=>du) du fuel t cs=dq x→
  cs.length=k→ ∃d,V d∧ ∀(A:Array Value)(o:Nat),(∀(i:Nat) v,cs[i]? =dq v→A[o+i]? =dq v)→RoC (zJN w) (f d) A o
theorem zPZ{t:TypeId}{q:IntKind}(hu:P.underlying t=dq (.int q)):RdT P t 1 (IK q) (fun n=>(Lit.int q n).wf=du):=by intro H enc w fuel cs x h _;obtain⟨n,rfl,_,hw⟩:=DataW.trod_int hu h;exact⟨n,hw,fun A o hA=>by simp only[RoC];exact⟨by simpa using hA 0 _ rfl,rfl⟩⟩
theorem zZj{α:Type}{f:α→T}{V:α→Prop}{t e:TypeId}{k:Nat}(hu:P.underlying t=dq (.slice e))(hk:P.cellsOf e=k)(eC:0<k)(h:RdT P e k f V):
  RdT P t 1 (L k f) (fun xs=>xs.length≤maxLen∧ ∀x∈xs,V x):=by
 intro H enc w fuel cs x hx _;rcases DataW.trod_slice hu hx with⟨rfl,_⟩|⟨a,len,cap,elems,rest,n,rfl,rfl,_,_,ci,pc,hel,cX,_⟩
 ·refine⟨[],⟨by simp,by simp⟩,fun A o hA=>?_⟩
  simp only[RoC,G5,H7];exact⟨dt,0,by simpa using hA 0 _ rfl,Jd _,by simp[maxLen],fun h=>absurd rfl h⟩
 ·subst hk
  have key:∀i,i<len→ ∃y,V y∧ ∃cs':List Value,cs'.length=P.cellsOf e∧(∀(j:Nat) v,cs'[j]? =dq v→w.cell? ((a.add (i*P.cellsOf e)).add j)=dq v)∧
    ∀(A:Array Value)(o:Nat),(∀(j:Nat) v,cs'[j]? =dq v→A[o+j]? =dq v)→RoC (zJN w) (f y) A o:=by
   intro i hi;have h1:=cX i hi;rw[J7 (by omega)]at h1;obtain⟨cs',h2,h3⟩:=U8.1 h1;obtain⟨h4,h5⟩:=zOm h2;obtain⟨y,h6,h7⟩:=h enc w n cs' _ h3 h4;exact⟨y,h6,cs',h4,h5,h7⟩
  obtain⟨xs,hxl,eQ⟩:=zEY len key;refine⟨xs,⟨by omega,fun y hy=>?_⟩,fun A o hA=>?_⟩
  ·obtain⟨i,hi,rfl⟩:=Js.1 hy
   exact(eQ i _ (J7 hi)).1
  ·simp only[RoC,Ju,hxl]
   refine⟨dq a,cap,by simpa using hA 0 _ rfl,ci,pc,fun gf=>?_⟩;have pS:0<xs.length:=by
    cases xs with
    |nil=>simp at gf
    |cons _ _=>simp
   obtain⟨_,cs0,g1,g2,_⟩:=eQ 0 _ (J7 pS);have hz:a.add (0*P.cellsOf e)=a:=by simp[Addr.add]
   have g3:=g2 0 cs0[0] (J7 (by omega));rw[hz,show a.add 0=a from by simp[Addr.add]]at g3;obtain⟨cJ,c,e',fr,hb,_⟩:=zMW g3;obtain⟨b,off,sp⟩:=a;simp only at cJ hb;subst cJ;refine⟨b,off,c,e',fr,rfl,hb,zMX _ _ _ _ fun i y hy=>?_⟩;rw[Jz,Ke]at hy;obtain⟨z,pL,rfl⟩:=hy;obtain⟨_,cs',g1',g2',g4⟩:=eQ i z pL;refine g4 c _ fun j v hv=>?_
   have:=g2' j v hv;rw[zJO,zJO]at this;obtain⟨_,c2,e2,fr2,pe,bX⟩:=zMW this;simp only at pe bX;rw[hb]at pe;cases pe;exact bX
end
def zSX(v:Value):Value:=if v.oneCell' then v else .bool dv
theorem zJP(v:Value):(zSX v).oneCell'=du:=by unfold zSX;split;assumption;rfl
def hd0(vs:Array Value)(s:Nat)(p:List Nat):Value:=
 match vs[s]?,p with
 |some (.agg cs),[j]=>zSX (cs[j]?.getD (.bool dv))
 |some v,[]=>zSX v
 |_,_=>.bool dv
def G0(vs:Array Value):Gh:={ hd:=hd0 vs,ad:=fun _ _=>default,lb:=fun _ _=>dt,ow:=fun _=>dt }
theorem zZk(w:World)(vs:Array Value):Mem ⟨zJN w,fun _=>False,w,0⟩ (G0 vs) w where
 one s p:=by
  simp only[G0,hd0];split
  ·exact zJP _
  ·exact zJP _
  ·rfl
 lb b o l h:=by simp[G0]at h
 ow b l h:=by simp[G0]at h
 st b x h:=h
 fr b _ _:=rfl
 sz:=Jd _
 bk:=⟨fun b cs e h=>⟨cs,h,rfl⟩,rfl,rfl⟩
def RdA(P:Program)(t:TypeId){α:Type}(u:α→T)(V:α→Prop):Prop:=
 ∀{H:Type}(enc:TypeId×Value→H)(w:World)(base fuel:Nat)(v:Value)(x:DataW H×List MemPlace),DataW.trod enc P w 0 (fun _=>du) du fuel t v.cells.toList=dq x→
  Value.okWide P w .any base t v→ ∃d,V d∧ ∀(vs:Array Value)(s:Nat),vs[s]? =dq v→dq v=dq (mkV (G0 vs) s (u d) [])∧R (zJN w) (G0 vs) w s (u d) []
def RdC(P:Program)(t:TypeId){α:Type}(u:α→T)(V:α→Prop):Prop:=
 ∀{H:Type}(enc:TypeId×Value→H)(w:World)(fuel:Nat)(c:Value)(x:DataW H×List MemPlace),DataW.trod enc P w 0 (fun _=>du) du fuel t [c]=dq x→
  ∃d,V d∧c.oneCell'=du∧ ∀(G:Gh)(s:Nat)(p:List Nat),G.hd s p=c→vals G s (u d) p=[c]∧R (zJN w) G w s (u d) p
section
variable {P:Program}
theorem zXD{α:Type}{f:α→T}{V:α→Prop}{t:TypeId}(h:RdT P t 1 f V)(h1:∀{H:Type}(enc:TypeId×Value→H)(w:World)(fuel:Nat)(c:Value)(x:DataW H×List MemPlace),DataW.trod enc P w 0 (fun _=>du) du fuel t [c]=dq x→c.oneCell'=du):
  RdC P t (fun x=>T.ro (f x)) V:=by
 intro H enc w fuel c x hx;obtain⟨d,g1,g2⟩:=h enc w fuel [c] x hx rfl;refine⟨d,g1,h1 enc w fuel c x hx,fun G s p hp=>⟨by simp only[vals,hp],?_⟩⟩;simp only[R,hp];exact g2 _ _ fun i v hv=>by
  cases i with
  |zero=>simpa using hv
  |succ i=>simp at hv
theorem zZl{α:Type}{f:α→T}{V:α→Prop}{t e:TypeId}{k:Nat}(hu:P.underlying t=dq (.slice e))(hk:P.cellsOf e=k)(eC:0<k)(h:RdT P e k f V):RdC P t (fun xs=>T.ro (L k f xs)) (fun xs=>xs.length≤maxLen∧ ∀x∈xs,V x):=
 zXD (zZj hu hk eC h) fun enc w fuel c x hx=>by
  rcases DataW.trod_slice hu hx with⟨h1,_⟩|⟨a,len,cap,_,_,_,_,h1,_⟩<;>
  ·simp only[Qs.injEq,and_true]at h1
   subst h1;rfl
theorem zSY{α:Type}{u:α→T}{V:α→Prop}{t:TypeId}(hs:∀x,(u x).single=du∧ ∀G s,mkV G s (u x) []=G.hd s [])(h:RdC P t u V)
  (hv:∀{w:World}{base:Nat}{v:Value},Value.okWide P w .any base t v→v.oneCell'=du):RdA P t u V:=by
 intro H enc w base fuel v x hx gH;have h1:v.cells.toList=[v]:=by have:=hv gH;cases v<;>simp_all [Value.oneCell',Value.cells]
 rw[h1]at hx;obtain⟨d,g1,g2,g3⟩:=h enc w fuel v x hx;refine⟨d,g1,fun vs s cz=>?_⟩;have gI:(G0 vs).hd s []=v:=by simp only[G0,hd0,cz];cases v<;>first|rfl|simp[Value.oneCell']at g2
 exact⟨by rw[(hs d).2,gI],(g3 _ _ _ gI).2⟩
end
theorem FnC.top{P:Program}{f:FuncId}{us:List T}(h:FnC P f us [B du] []){w:World}{vs:Array Value}(gv:vs.size=us.length)
  (ha:∀(i:Nat) u,us[i]? =dq u→vs[i]? =dq (mkV (G0 vs) i u [])∧R (zJN w) (G0 vs) w i u []):
  Calls P f vs w fun e w'=>e=.returned (.bool du)∧w'.os=w.os∧w'.output=w.output∧w.heap.size≤w'.heap.size∧ ∀b,b<w.heap.size→w'.heap[b]? =w.heap[b]?:=by
 refine(h (zJN w) (fun _=>False) w (G0 vs) vs gv (fun i u hu=>?_) (zZk w vs)).mono fun e w'=>?_
 ·obtain⟨h1,h2⟩:=ha i u hu
  refine⟨?_,h2⟩;rw[h1]
 ·rintro⟨S',G',nd,_,he,hm,cC,hr,_,_⟩
  match nd,cC with
  | [(s,p,t)],cC=>
   simp only[Jl,G5,Qs.injEq,and_true]at cC;subst cC;have:=(hr (s,p,B du) (by simp)).1;simp only[R]at this;exact⟨by rw[he];simp only[zJ5,tM,this],hm.bk.os,hm.bk.out,hm.sz,fun b hb=>hm.fr b hb (fun h=>h)⟩
theorem zDc{H:Type}{enc:TypeId×Value→H}{P:Program}(hl:laidOutB P=du){W W':World}{sp:Nat→Bool}:∀{ts:List TypeId}{vs:List Value}{ds:List (DataW H)}{ps:List MemPlace},(∀t∈ts,P.readableRec t=du∧t<P.types.size)→
  DataW.TrodAll enc P W 0 (fun _=>du) du ts vs ds ps→(∀p∈ps,W.sameAt W' p)→(∀p∈ps,sp p.block=du)→DataW.TrodAll enc P W' 0 sp du ts vs ds ps
 | [],[],[],_,_,h,_,_=>h
 |t::ts,v::vs,d::ds,ps,hr,h,h1,h2=>by
  obtain⟨p,q,g1,g2,rfl⟩:=h;exact⟨p,q,Go.WideElems.Trod_stays hl (hr t (by simp)).1 (hr t (by simp)).2 g1 (fun x hx=>h1 x (by simp[hx])) (fun x hx=>h2 x (by simp[hx])),
   zDc hl (fun t' fQ=>hr t' (by simp[fQ])) g2 (fun x hx=>h1 x (by simp[hx])) (fun x hx=>h2 x (by simp[hx])),rfl⟩
 | [],_::_,_,_,_,h,_,_| [],[],_::_,_,_,h,_,_|_::_,[],_,_,_,h,_,_|_::_,_::_,[],_,_,h,_,_=>h.elim
theorem zGo{C:Checked}{os:Os}(own:ownKnob C.prog.godebug=dt)(started:os.Started){f:FuncId}{fn:Func}(noInit:C.prog.inits.idxOf? f=dt)(hfn:C.prog.funcs[f]? =dq fn){H:Type}{enc:TypeId×Value→H}{s:ChangeSpec}{conds:List PathCond}{apart fresh handsOn again:Bool}
  (witness:∃(w:World)(tape:Tape)(i:Input),w.os=os∧(w.forCall tape i).Shaped C.prog∧i.vars=[]∧Input.okWide C.prog (w.forCall tape i) .any w.heap.size f i∧
   s.pre6 enc C.prog fn conds apart (w.forCall tape i).memory i.args∧Assume.holds {} C.prog (lone (Frame.enter C.prog f i.args .normal) [] (w.forCall tape i)))
  (hs:∀(l:List (DataW H)),l.length=fn.params.size→(s.fn H l).results=[.lit (.bool du)]∧(s.fn H l).args=l∧(s.fn H l).vars=[])(pi:s.vars=[]){tb:TypeId}(eO:fn.resultTypes= #[tb])(hb:C.prog.underlying tb=dq .bool)
  (laid:laidOutB C.prog=du)(be:fn.params.toList.all (fun t=>C.prog.readableRec t&&decide (t<C.prog.types.size))=du)
  (law:∀(W:World)(base:Nat)(args:Array Value)(ds:List (DataW H))(p:List MemPlace),(∀(j:Nat) t v,fn.params[j]? =dq t→args[j]? =dq v→Value.okWide C.prog W .any base t v)→
   DataW.TrodAll enc C.prog W 0 (fun _=>du) du fn.params.toList args.toList ds p→
   ∃us:List T,args.size=us.length∧FnC C.prog f us [B du] []∧ ∀(i:Nat) u,us[i]? =dq u→args[i]? =dq (mkV (G0 args) i u [])∧R (zJN W) (G0 args) W i u []):
  ReturnsInHanded {} C os f .any (s.pre6 enc C.prog fn conds apart) (s.post enc C.prog fn apart fresh handsOn again):=by
 refine returnsInHanded_of_change (C:=C) own started noInit hfn witness ?_;intro W base args ds gs before hval hW _ _;have mj:=hW;obtain⟨p,q,hA,hV,hbq,hfz,cC⟩:=hW;obtain⟨us,h1,h2,h3⟩:=law W base args ds p hval hA;have hl:ds.length=fn.params.size:=by
  have:∀{ts:List TypeId}{vs:List Value}{ds:List (DataW H)}{p:List MemPlace},DataW.TrodAll enc C.prog W 0 (fun _=>du) du ts vs ds p→ds.length=ts.length:=by
   intro ts
   induction ts with
   |nil=>intro vs ds p h;cases vs<;>cases ds<;>first|rfl|exact h.elim
   |cons t ts ih=>intro vs ds p h;cases vs<;>cases ds<;>first|exact h.elim|(obtain⟨_,_,_,g,_⟩:=h;simp[ih g])
  simpa using this hA
 rw[pi]at hV;have hq:gs=[]∧q=[]:=by
  cases gs with
  |nil=>exact⟨rfl,hV⟩
  |cons _ _=>exact hV.elim
 obtain⟨rfl,rfl⟩:=hq;have gF:=mj.lt;refine(h2.top h1 h3).mono fun e w' ⟨he,ho,hq,gv,hh⟩=>⟨_,he,?_⟩
 have eb:∀p∈before,W.sameAt w' p:=fun p hp=>by
  have:=gF p hp;cases p with
  |cell b off=>simp only[World.sameAt,World.cell?,hh b this]
  |map b=>exact hh b this
 obtain⟨k1,k2,k3⟩:=hs ds hl;have hbp:before=p:=by simpa using hbq
 subst hbp;have gO:∀t∈fn.params.toList,C.prog.readableRec t=du∧t<C.prog.types.size:=fun t ht=>by have:=Jt.1 be t ht;simpa using this
 have gy:∀(b:Nat)(sp:Nat→Bool)(hd:Bool),DataW.TrodAll enc C.prog w' b sp hd fn.resultTypes.toList ((Value.bool du).resultList fn.resultTypes.size) (s.fn H (ds++[])).results []:=fun b sp hd=>by rw[eO,Jk,k1];exact⟨[],[],⟨1,by simp[DataW.trod,hb,Value.cells]⟩,⟨rfl,rfl⟩⟩
 have gk:∀sp:Nat→Bool,(∀p∈before,sp p.block=du)→DataW.TrodAll enc C.prog w' 0 sp du fn.params.toList args.toList (s.fn H (ds++[])).args before:=fun sp cJ=>by rw[Jk,k2];exact zDc laid gO hA eb cJ
 have mO:∀sp:Nat→Bool,DataW.TrodVars enc C.prog w' sp s.vars (s.fn H (ds++[])).vars []:=fun sp=>by rw[pi,Jk,k3];rfl
 have gD:∀p∈before,(fun b=>decide (b<W.heap.size)) p.block=du:=fun p hp=>by simpa using gF p hp
 have cY:∀p∈before,∀o,w'.frozen? ⟨p.block,o,dt⟩=W.frozen? ⟨p.block,o,dt⟩:=fun p hp o=>by simp only[World.frozen?,hh _ (gF p hp)]
 refine⟨ds,[],before,[],before,[],mj,gy _ _ _,gk _ gD,mO _,⟨ho,hq,fun i hi=>?_⟩,fun _=>⟨fun j t r hj hr=>?_,_,_,([]++before)++[],⟨[]++before,[],trodAll_append (gk _ (fun _ _=>rfl)) (gy _ _ _),mO _,rfl,fun b off hp=>?_,fun ha=>?_⟩,fun p hp _=>?_⟩⟩
 ·rw[hh i hi]
  cases hx:W.heap[i]? with
  |none=>rfl
  |some o=>cases o<;>simp
 ·rw[eO]at hj hr
  match j,hj,hr with
  |0,hj,hr=>
   simp[Value.resultList]at hj hr;subst hj;subst hr;simp[Value.okWide,hb,Cell.okWide,Cell.ok]
 ·have fK:MemPlace.cell b off∈before:=by simpa using hp
  exact(cY _ fK off).trans (hfz b off fK)
 ·have:=cC ha
  simpa using this
 ·simpa using hp
end Go.Ab

namespace Go.Ab
open Go
def qR(hs:List Nat)(E:Env):Prop:=∀s,hs.contains s=du→ ∃t,E s=dq t∧qF t=du
def zVT(hs:List Nat)(z:Nat×Option T):Bool:=!hs.contains z.1||match z.2 with
 |some t=>qF t
 |none=>dv
def wrS(hs:List Nat)(X:Stp):Bool:=X.l.all fun y=>y.1.all (zVT hs)
theorem zJQ{s:Nat}{x:Option T}:∀{wr:Wr},wr.find s=dq x→(s,x)∈wr
 | [],h=>by grind[Wr.find]
 |(k,y)::wr,h=>by
  simp only[Wr.find]at h;split at h
  ·grind
  ·exact Uk _ (zJQ h)
theorem qR.apps{hs:List Nat}:∀(l:zCe)(E:Env),qR hs E→(l.all fun y=>y.1.all (zVT hs))=du→qR hs (E.apps l)
 | [],_,h,_=>h
 |x::l,E,h,hw=>by
  simp only[Gk,J2]at hw;refine qR.apps l (E.app x.1 x.2) (fun s gR=>?_) hw.2;obtain⟨t,he,ht⟩:=h s gR;unfold Env.app;cases hf:x.1.find s with
  |some y=>
   have h1:=Jt.1 hw.1 _ (zJQ hf);simp only[zVT,gR,J5,Bool.false_or]at h1
   grind
  |none=>grind[uF]
theorem qR.runD{hs:List Nat}:∀(l:List (Bool×Stp))(E:Env),qR hs E→(∀y∈l,wrS hs y.2=du)→qR hs (runD E l)
 | [],_,h,_=>h
 |(b,X)::l,E,h,hw=>by
  simp only[Go.Ab.runD];refine qR.runD l _ ?_ fun y hy=>hw y (by simp[hy])
  cases b with
  |true=>exact qR.apps X.l E h (hw (du,X) (by simp))
  |false=>exact h
section
variable {P:Program}{Γ:Ctx}{pn:sQ}{E E':Env}{Q:Exit→Env→Prop}{ops:Array Oper}{o:Oper}{os:List Oper}{id:Nat}{wr:Wr}{chg:Chg}{hs:List Nat}
def zMY(P:Program)(Γ:Ctx)(pn:sQ)(ops:Array Oper)(o:Oper)(E E':Env):Prop:=
 ∀(a:Act)(w:World)(K:Act→World→Prop)(Q:Exit→Act→World→Prop),pn.Hold a→qW Γ E a w→(∀a' w',qW Γ E' a' w'→(∀s,o.dst≠dq s→a'.tmps[s]? =a.tmps[s]?)→K a' w')→
  if Region.wanted o (yielded ops a.tmps)then o.wp P a w K Q∨(o.asks P a w∧LetsOut Q)else K (a.put o.dst undef) w
def wR(P:Program)(Γ:Ctx)(pn:sQ)(hs:List Nat)(ops:Array Oper):List Oper→List Stp→Prop
 | [],[]=>True
 |o::os,X::Xs=>(∀E:Env,E.Has X.rd→qR hs E→zMY P Γ pn ops o E (E.apps X.l))∧wR P Γ pn hs ops os Xs
 |_,_=>False
theorem wR.get:∀(os:List Oper)(Xs:List Stp),wR P Γ pn hs ops os Xs→os.length=Xs.length∧ ∀(i:Nat)(o:Oper)(X:Stp),os[i]? =dq o→Xs[i]? =dq X→ ∀E:Env,E.Has X.rd→qR hs E→zMY P Γ pn ops o E (E.apps X.l)
 | [],[],_=>by simp
 |o::os,X::Xs,h=>by
  obtain⟨h1,h2⟩:=wR.get os Xs h.2;refine⟨by simp[h1],fun i o' X' ho hX=>?_⟩;cases i with
  |zero=>simp at ho hX;subst ho hX;exact h.1
  |succ i=>exact h2 i o' X' (by simpa using ho) (by simpa using hX)
 | [],_::_,h=>by simp[wR]at h
 |_::_,[],h=>by simp[wR]at h
theorem wR.snoc{X:Stp}:∀(os:List Oper)(Xs:List Stp),wR P Γ pn hs ops os Xs→(∀E:Env,E.Has X.rd→qR hs E→zMY P Γ pn ops o E (E.apps X.l))→wR P Γ pn hs ops (os++[o]) (Xs++[X])
 | [],[],_,h=>⟨h,trivial⟩
 |_::os,_::Xs,h1,h=>⟨h1.1,wR.snoc os Xs h1.2 h⟩
 | [],_::_,h,_=>by simp[wR]at h
 |_::_,[],h,_=>by simp[wR]at h
theorem tT.snoc{X:Stp}:∀(Xs:List Stp)(E:Env),tT E Xs→(runD E (Xs.map fun y=>(du,y))).Has X.rd→tT E (Xs++[X])
 | [],_,_,h=>⟨by grind[runD],trivial⟩
 |_::Xs,_,h1,h=>⟨h1.1,tT.snoc Xs _ h1.2 (by simpa[runD]using h)⟩
theorem zIG{E0:Env}{eu:List Nat}{Xs:List Stp}{an:List (List Nat)}{Q':Exit→Act→World→Prop}(hf:zAQ 0 ops.toList=du)(ha:zAr an an ops.toList=du)(hp:jO Xs 0 an Xs=du)
  (gK:wR P Γ pn eu ops ops.toList Xs)(hI:qR eu E0)(hw:Xs.all (wrS eu)=du)(hh:tT E0 Xs)(bj:ops.toList.all (fun o=>pn.ok o.dst)=du)(hQ:∀a' w',qW Γ (runD E0 (Xs.map fun y=>(du,y))) a' w'→pn.Hold a'→Q' .normal a' w'):
  ∀(fuel:Nat)(L:List Bool)(a:Act)(w:World),L.length=ops.size→L.count dv=fuel→zPK ops L→qW Γ (runD E0 (L.zip Xs)) a w→pn.Hold a→wpAny P .any ops Q' fuel L.toArray a w:=by
 obtain⟨gm,pm⟩:=wR.get _ _ gK;have pD:Xs.length=ops.size:=by grind
 intro fuel
 induction fuel with
 |zero=>
  intro L a w hL hcnt gJ hs fm;have pf:∀b∈L,b=du:=by grind
  have dl:L=J1 ops.size du:=by rw[←hL];exact List.eq_replicate_iff.2 ⟨rfl,pf⟩
  refine⟨?_,?_⟩
  ·apply List.eq_nil_iff_forall_not_mem.2
   intro j hj;obtain⟨h1,o,ho,_⟩:=mem_ready.1 hj;have gF:=(Hd.1 ho).1;rw[dl]at h1;simp[gF]at h1
  ·refine hQ a w ?_ fm
   have:L.zip Xs=Xs.map fun y=>(du,y):=by
    rw[dl,←pD]
    clear hs hL dl pf hcnt gJ gK hw hh hp gm pD pm hQ
    induction Xs with
    |nil=>rfl
    |cons X Xs ih=>simp[L1,ih]
   grind
 |succ fuel ih=>
  intro L a w hL hcnt gJ hs fm;refine⟨fun hr=>?_,fun i hi=>?_⟩
  ·
   exfalso
   have cZ:∃m:Nat,L[m]? =dq dv:=by
    have:dv∈L:=by grind
    grind[Ue]
   obtain⟨m,hm,eK⟩:=zDa cZ;have hmlt:=(Jb.1 hm).1;have th:ops[m]? =dq ops[m]:=by simp
   have:m∈Region.ready .any ops L.toArray:=by
    refine mem_ready.2 ⟨by simp_all,ops[m],th,fun e he hb=>?_⟩;have hpm:e.on∈zBp ops[m]:=by
     simp only[zBp,Ja,U4]
     grind
    have gF:=zFw ops.toList 0 m _ hf (by simp) _ hpm;rw[J8]at gF;cases hL1:L[e.on]? with
    |none=>grind
    |some b=>
     cases b with
     |false=>grind
     |true=>simp_all
   grind
  ·obtain⟨h1,o,ho,pf⟩:=mem_ready.1 hi
   have gF:=(Hd.1 ho).1;have hLi:L[i]? =dq dv:=by simp_all
   have eB:∀m∈zBp o,L[m]? =dq du:=by
    intro m hm;simp only[zBp,Ja,U4]at hm;obtain⟨e,⟨he,hb⟩,rfl⟩:=hm;have:=pf e (by grind) hb;cases hL1:L[e.on]? with
    |none=>grind
    |some b=>simp_all
   have hanc:=zGf hf ha gJ i i (Jd _) o ho eB;have mF:Xs[i]? =dq Xs[i]:=by simp
   generalize hXe:Xs[i]=X at mF
   have bB:∀(j:Nat)(Y:Stp),Xs[j]? =dq Y→i<j→L[j]? =dq du→X.apart Y=du:=by
    intro j Y hY ev hj;rcases zEy Xs Xs 0 an j Y hp hY i X (by omega) mF with h|h
    ·have hjlt:=(Jb.1 hY).1
     have aD:ops[j]? =dq ops[j]:=by simp
     have:=zGf hf ha gJ j j (Jd _) _ aD (gJ j _ aD hj) i h
     grind
    ·exact h
   have me:∀(j:Nat)(Y:Stp),Xs[j]? =dq Y→j<i→L[j]? =dq dv→Y.apart X=du:=by grind[zEy]
   have bi:∀y∈(L.take i).zip (Xs.take i),∃j:Nat,j<i∧L[j]? =dq y.1∧Xs[j]? =dq y.2:=by
    intro y hy;obtain⟨j,g1,g2⟩:=zIB hy;rw[Lo]at g1 g2
    grind
   have pz:∀y∈(L.drop (i+1)).zip (Xs.drop (i+1)),∃j:Nat,i<j∧L[j]? =dq y.1∧Xs[j]? =dq y.2:=by
    intro y hy;obtain⟨j,g1,g2⟩:=zIB hy;rw[Lg]at g1 g2
    grind
   have cJ:=zHF hLi mF;have aR:(runD E0 (L.zip Xs)).Has X.rd:=by
    rw[cJ,zAb];simp only[runD,Lu,if_false];have h0:=tT.get Xs E0 hh i X mF;refine h0.of fun s t gK eu=>?_
    have hsm:s∈X.rd.map (·.1):=by grind
    refine zHE _ _ (fun y hy hb=>?_) ?_
    ·obtain⟨j,g1,g2,g3⟩:=pz y hy
     have:=Stp.apart_spec (bB j y.2 g3 g1 (by rw[g2,hb]));exact⟨by grind,by grind⟩
    ·have hmp:((L.take i).zip (Xs.take i)).map (fun y=>(du,y.2))=(Xs.take i).map fun y=>(du,y):=by
      have cW:(L.take i).length=(Xs.take i).length:=by simp;omega
      rw[show(fun y:Bool×Stp=>(du,y.2))=(fun y=>(du,y))∘Prod.snd from rfl,←Jah,List.map_snd_zip (by omega)]
     refine zHD _ E0 E0 (fun y hy hb gR=>?_) (fun _ h=>h) t (by grind);obtain⟨j,g1,g2,g3⟩:=bi y hy;have:=Stp.apart_spec (me j y.2 g3 g1 (by rw[g2,hb]))
     grind
   have hnext:runD E0 ((L.set i du).zip Xs)=(runD E0 (L.zip Xs)).apps X.l:=by
    have hLs:(L.set i du)[i]? =dq du:=by grind
    rw[zHF hLs mF,cJ,zAb,zAb];simp only[runD,if_true,Lu,if_false,List.take_set_of_le (Jd i),List.drop_set_of_lt (Nat.lt_succ_self i)];refine zEx _ X _ fun y hy hb=>?_
    obtain⟨j,g1,g2,g3⟩:=pz y hy;exact(Stp.apart_spec (by grind)).1
   have ai:=pm i o X (by grind) mF _ aR (qR.runD (L.zip Xs) E0 hI fun y hy=>Jt.1 hw _ (by obtain⟨j,_,g⟩:=zIB hy;grind));unfold wpOp;simp only[ho];refine ai a w _ Q' fm hs fun a' w' gR cY=>?_
   rw[List.setIfInBounds_toArray];have gH:pn.ok o.dst=du:=by grind
   refine ih (L.set i du) a' w' (by simp[hL]) (by grind) ?_ (by grind) (fm.frame gH cY);intro k ok hk hkt m hm
   by_cases hki:k=i
   ·subst hki
    rw[ho]at hk;simp at hk;subst hk;rw[Qn];split
    ·grind
    grind
   ·rw[List.getElem?_set_ne (Ne.symm hki)]at hkt
    rw[Qn];split
    ·grind
    ·exact gJ k ok hk hkt m hm
theorem CW.drawnI{eu:List Nat}{id:Nat}{E:Env}{Q:Exit→Env→Prop}(Xs:List Stp)(an:List (List Nat))(hm:P.follows .mixedOrders=du)(gK:wR P Γ pn eu ops ops.toList Xs)(hI:qR eu E)(hw:Xs.all (wrS eu)=du)(hh:tT E Xs)
  (hQ:Q .normal (runD E (Xs.map fun y=>(du,y))))(hf:zAQ 0 ops.toList=du:=by rfl)(ha:zAr an an ops.toList=du:=by rfl)(hp:jO Xs 0 an Xs=du:=by rfl)
  (bj:ops.toList.all (fun o=>pn.ok o.dst)=du:=by rfl):CW P Γ pn (.region id ops du) E Q:=by
 intro a w Q' hs fm hQ';refine wp_region_any hm ?_;have gR:qW Γ E a { w with drawn:=w.drawn+1 }:=by obtain⟨S,hS,ea,G,hr⟩:=hs;exact⟨S,hS,ea,G,hr.heap rfl⟩
 have:=zIG (P:=P) (Γ:=Γ) (pn:=pn) (E0:=E) (Q':=Q') hf ha hp gK hI hw hh bj (by grind) ops.size (J1 ops.size dv) a { w with drawn:=w.drawn+1 } (by simp) (by simp)
  (fun i o ho hi=>by
   grind) (by
   have:runD E ((J1 ops.size dv).zip Xs)=E:=by
    generalize ops.size=n
    clear gK hI hw hh hQ hf ha hp gR
    induction n generalizing Xs with
    |zero=>simp[runD]
    |succ n ih=>
     cases Xs with
     |nil=>simp[runD]
     |cons X Xs=>simpa[L1,runD]using ih Xs
   grind) fm
 grind
def DK(P:Program)(Γ:Ctx)(pn:sQ)(ops:Array Oper)(id:Nat)(hs:List Nat)(E0:Env)(Q:Exit→Env→Prop)(os:List Oper)(E:Env)(acc:List Stp):Prop:=
 ∀don,don++os=ops.toList→wR P Γ pn hs ops don acc.reverse→tT E0 acc.reverse→E=runD E0 (acc.reverse.map fun y=>(du,y))→CW P Γ pn (.region id ops du) E0 Q
variable {E0:Env}{acc:List Stp}
theorem CW.dk(h:DK P Γ pn ops id [] E Q ops.toList E []):CW P Γ pn (.region id ops du) E Q:=h [] rfl trivial trivial rfl
theorem CW.dkS(hs:List Nat)(h:DK P Γ pn ops id hs E Q ops.toList E []):CW P Γ pn (.region id ops du) E Q:=h [] rfl trivial trivial rfl
theorem dGP(rd:List (Nat×T))(l:zCe)(gO:E.Has rd)(gK:∀E':Env,E'.Has rd→qR hs E'→zMY P Γ pn ops o E' (E'.apps l))(k:DK P Γ pn ops id hs E0 Q os (E.apps l) (⟨rd,l⟩::acc)):DK P Γ pn ops id hs E0 Q (o::os) E acc:=by
 intro don hd hso hh hE;subst hE;have hr:=fun X=>Hp (a:=X) (as:=acc)
 refine k (don++[o]) (by simp[hd]) ?_ ?_ ?_
 ·grind[wR.snoc]
 ·grind[tT.snoc]
 ·rw[hr,Hk,zAb];rfl
theorem dGS(rd:List (Nat×T))(l:zCe)(gO:E.Has rd)(gK:∀E':Env,E'.Has rd→qR hs E'→xC P Γ ops o E' (E'.apps l))(k:DK P Γ pn ops id hs E0 Q os (E.apps l) (⟨rd,l⟩::acc)):DK P Γ pn ops id hs E0 Q (o::os) E acc:=
 dGP rd l gO (fun E' h h' a w K Q _=>gK E' h h' a w K Q) k
theorem dG(rd:List (Nat×T))(l:zCe)(gO:E.Has rd)(gK:∀E':Env,E'.Has rd→xC P Γ ops o E' (E'.apps l))(k:DK P Γ pn ops id hs E0 Q os (E.apps l) (⟨rd,l⟩::acc)):DK P Γ pn ops id hs E0 Q (o::os) E acc:=
 by grind[dGS]
def zQa(hs:List Nat)(E:Env):Bool:=hs.all fun s=>match E s with
 |some t=>qF t
 |none=>dv
theorem zQb(h:zQa hs E=du):qR hs E:=by
 intro s gR;have h1:=Jt.1 h s (by grind)
 grind
theorem dN(an:List (List Nat))(hm:P.follows .mixedOrders=du)(hQ:Q .normal E)(hf:zAQ 0 ops.toList=du:=by rfl)(ha:zAr an an ops.toList=du:=by rfl)(hp:jO acc.reverse 0 an acc.reverse=du:=by rfl)
  (bj:ops.toList.all (fun o=>pn.ok o.dst)=du:=by rfl)(mD:zQa hs E0=du:=by rfl)(hw:acc.reverse.all (wrS hs)=du:=by rfl):DK P Γ pn ops id hs E0 Q [] E acc:=by
 intro don hd gK hh hE
 grind[CW.drawnI,zQb]
end
end Go.Ab

namespace Go.Ab
open Go
section
variable {P:Program}{Γ:Ctx}{pn:sQ}{E E':Env}{Q:Exit→Env→Prop}{ops:Array Oper}{o:Oper}{os:List Oper}{id d:Nat}{wr:Wr}{chg:Chg}{hs:List Nat}{E0:Env}{acc:List Stp}{x y:Operand}{ty:TypeId}{ps:String}{af:Array Edge}{gd:Option (Nat×Bool)}
class zFn (P:Program) (t:TypeId) (e:outParam TypeId):Prop where
 h:P.underlying t=dq (.slice e)
class zAc (P:Program) (t:TypeId) (b:outParam Bool) (n:outParam Nat):Prop where
 h:∀u:T,u.single=b→u.size=n→zSN P t u
theorem hE{rd:List (Nat×T)}{s:Nat}{t:T}(h:E.Has rd)(hr:wQ rd s=dq t):E s=dq t:=h.le s t hr
theorem hO{rd:List (Nat×T)}{t:T}(h:E.Has rd)(hr:opT (wQ rd) x=dq t):opT E x=dq t:=by
 cases x<;>simp only[opT]at hr ⊢
 ·exact h.le _ _ hr
 all_goals exact hr
mutual
def zDs:T→Bool
 |.ro _|.lit _|.any=>du
 |.agg xs|.tup xs=>zFz xs
 |.ptr t=>zDs t
 |.sl _ []=>du
 |_=>dv
def zFz:List T→Bool
 | []=>du
 |x::xs=>zDs x&&zFz xs
end
mutual
theorem zE1:{t:T}→zDs t=du→zT t
 |.ro _,_|.lit _,_|.any,_=>by simp[zT,yM]
 |.agg xs,h|.tup xs,h=>by simp only[zDs]at h;simpa only[zT,yM]using zGp h
 |.ptr t,h=>by simp only[zDs]at h;exact zPS (zE1 h)
 |.sl _ [],_=>by simp[zT,yM,xG]
 |.sl _ (_::_),h=>by simp[zDs]at h
 |.same _ _,h|.addr _ _,h|.sub _ _ _ _ _,h=>by simp[zDs]at h
theorem zGp:{xs:List T}→zFz xs=du→yV xs
 | [],_=>trivial
 |x::xs,h=>by simp only[zFz,J2]at h;exact⟨zE1 h.1,zGp h.2⟩
end
theorem zXE{α:Type}{t e:TypeId}{ti:TypeInfo}{r k:Nat}{q:List Nat}{f:α→T}{xs:List α}{v:α}{i:Int}[ht:zBs P t e ti k](hx:uQ E x=dq (r,q,.ro (L k f xs)))(hy:opT E y=dq (I i))(hv:ixO xs i=dq v)(sd:J3 d Γ.N=du):
  Ok P Γ ⟨dq d,.indexAddr t x y,ty,ps,af,gd⟩ E (E.app [(d,dq (.ro (.ptr (f v))))] [(d,0)]):=zVc ht hv hx hy sd
theorem zMZ{t:TypeId}{u:T}{b:Bool}{n:Nat}[i:zAc P t b n](hx:opT E x=dq (.ro (.ptr u)))(h1:u.single=b)(h2:u.size=n)(sd:J3 d Γ.N=du):Ok P Γ ⟨dq d,.load t x,ty,ps,af,gd⟩ E (E.app [(d,dq (roT u))] [(d,0)]):=zXu (i.h u h1 h2) hx sd
theorem zVU{t:TypeId}{u tr:T}{r:Nat}{q:List Nat}{b:Bool}{n:Nat}[i:zAc P t b n](hx:opT E x=dq (.addr r q))(hr:E r=dq tr)(hg:tr.get q.reverse=dq u)(h1:u.single=b)(h2:u.size=n)(sd:(J3 d Γ.N&&tr.locd q.reverse&&(r != d)&&T.okB [(d,0)] (cpT r u q))=du):
  Ok P Γ ⟨dq d,.load t x,ty,ps,af,gd⟩ E (E.app [(d,dq (cpT r u q))] [(d,0)]):=zZd (i.h u h1 h2) hx hr hg sd
theorem zXF{t:TypeId}{u tr t0:T}{r:Nat}{q:List Nat}{b:Bool}{n:Nat}[i:zAc P t b n](hx:uQ E x=dq (r,q,.ptr t0))(hr:E r=dq tr)(hg:tr.get (0::q).reverse=dq u)(h1:u.single=b)(h2:u.size=n)(sd:(J3 d Γ.N&&tr.locd (0::q).reverse&&(r != d)&&T.okB [(d,0)] (cpT r u (0::q)))=du):
  Ok P Γ ⟨dq d,.load t x,ty,ps,af,gd⟩ E (E.app [(d,dq (cpT r u (0::q)))] [(d,0)]):=zXA (i.h u h1 h2) hx hr hg sd
theorem zXG{α:Type}{t e:TypeId}{r k:Nat}{q:List Nat}{f:α→T}{xs:List α}[i:zFn P t e](hx:uQ E x=dq (r,q,L k f xs))(sd:J3 d Γ.N=du):
  Ok P Γ ⟨dq d,.call { callee:=.builtin .len,args:=#[x],argTypes:=#[t] },ty,ps,af,gd⟩ E (E.app [(d,dq (I (xs.length:Int)))] [(d,0)]):=zVd i.h hx sd
theorem zQc{α:Type}{t e:TypeId}{r k:Nat}{q:List Nat}{f:α→T}{xs:List α}[i:zFn P t e](hx:uQ E x=dq (r,q,.ro (L k f xs)))(sd:J3 d Γ.N=du):
  Ok P Γ ⟨dq d,.call { callee:=.builtin .len,args:=#[x],argTypes:=#[t] },ty,ps,af,gd⟩ E (E.app [(d,dq (I (xs.length:Int)))] [(d,0)]):=zPN i.h hx sd
theorem zA6(k:RW P Γ pn ops os (E.app wr chg) Q)(h:Ok P Γ o E (E.app wr chg):=by exact zL0 rfl rfl)(hg:o.guard=dt:=by rfl)(hp:pn.ok o.dst=du:=by rfl):RW P Γ pn ops (o::os) E Q:=oP h k hg hp
theorem zVV{g s:Nat}{b:Bool}(k:RW P Γ pn ops os (E.app wr chg) Q)(hg:o.guard=dq (g,b):=by rfl)(gP:(ops[g]?).bind (·.dst)=dq s:=by rfl)(hb:E s=dq (.lit (.bool b)):=by rfl)(h:Ok P Γ o E (E.app wr chg):=by exact zL0 rfl rfl)(hp:pn.ok o.dst=du:=by rfl):RW P Γ pn ops (o::os) E Q:=RW.cons (xC.guard g b s h hg gP hb) k hp
theorem zCj(k:RW P Γ pn ops os (E.app wr chg) Q)(h:Ok P Γ o E (E.app wr chg):=by exact zSM rfl rfl)(hg:o.guard=dt:=by rfl)(hp:pn.ok o.dst=du:=by rfl):RW P Γ pn ops (o::os) E Q:=oP h k hg hp
theorem zNa(k:RW P Γ pn ops os (E.app wr chg) Q)(h:Ok P Γ o E (E.app wr chg):=by exact zMZ rfl rfl rfl rfl)(hg:o.guard=dt:=by rfl)(hp:pn.ok o.dst=du:=by rfl):RW P Γ pn ops (o::os) E Q:=oP h k hg hp
theorem zVk(k:RW P Γ pn ops os (E.app wr chg) Q)(h:Ok P Γ o E (E.app wr chg):=by exact zXE (by first|exact zDK rfl rfl|exact zHf rfl rfl (by first|rfl|exact yP (by assumption) rfl|exact yP (by assumption) (yP (by assumption) rfl)|exact uS rfl (yP (by assumption) rfl)|exact uR (yP (by assumption) rfl)|exact uR (uS rfl (yP (by assumption) rfl))|exact uR (uS rfl (yP (by assumption) (yP (by assumption) rfl)))) rfl) rfl (by assumption) rfl)(hg:o.guard=dt:=by rfl)(hp:pn.ok o.dst=du:=by rfl):RW P Γ pn ops (o::os) E Q:=oP h k hg hp
theorem zIH(k:RW P Γ pn ops os (E.app wr chg) Q)(h:Ok P Γ o E (E.app wr chg):=by exact zQc (by first|exact zDK rfl rfl|exact zHf rfl rfl (by first|rfl|exact yP (by assumption) rfl|exact yP (by assumption) (yP (by assumption) rfl)|exact uS rfl (yP (by assumption) rfl)|exact uR (yP (by assumption) rfl)|exact uR (uS rfl (yP (by assumption) rfl))|exact uR (uS rfl (yP (by assumption) (yP (by assumption) rfl)))) rfl) rfl)(hg:o.guard=dt:=by rfl)(hp:pn.ok o.dst=du:=by rfl):RW P Γ pn ops (o::os) E Q:=oP h k hg hp
theorem zVl(k:RW P Γ pn ops os (E.app wr chg) Q)(h:Ok P Γ o E (E.app wr chg):=by exact zPL (by assumption) rfl rfl rfl)(hg:o.guard=dt:=by rfl)(hp:pn.ok o.dst=du:=by rfl):RW P Γ pn ops (o::os) E Q:=oP h k hg hp
theorem zNb(k:RW P Γ pn ops os (E.app wr chg) Q)(h:Ok P Γ o E (E.app wr chg):=by exact zVb rfl rfl rfl)(hg:o.guard=dt:=by rfl)(hp:pn.ok o.dst=du:=by rfl):RW P Γ pn ops (o::os) E Q:=oP h k hg hp
theorem zII(k:RW P Γ pn ops os (E.app wr chg) Q)(h:Ok P Γ o E (E.app wr chg):=by exact zL1 rfl rfl rfl)(hg:o.guard=dt:=by rfl)(hp:pn.ok o.dst=du:=by rfl):RW P Γ pn ops (o::os) E Q:=oP h k hg hp
theorem zXH{g s:Nat}{b:Bool}(k:RW P Γ pn ops os (E.app wr chg) Q)(hg:o.guard=dq (g,b):=by rfl)(gP:(ops[g]?).bind (·.dst)=dq s:=by rfl)(hb:E s=dq (.lit (.bool b)):=by rfl)(h:Ok P Γ o E (E.app wr chg):=by exact zBM rfl rfl)(hp:pn.ok o.dst=du:=by rfl):RW P Γ pn ops (o::os) E Q:=RW.cons (xC.guard g b s h hg gP hb) k hp
theorem zXI(k:RW P Γ pn ops os (E.app wr chg) Q)(h:Ok P Γ o E (E.app wr chg):=by exact zPO rfl rfl rfl)(hg:o.guard=dt:=by rfl)(hp:pn.ok o.dst=du:=by rfl):RW P Γ pn ops (o::os) E Q:=oP h k hg hp
theorem zVm(k:RW P Γ pn ops os (E.app wr chg) Q)(h:Ok P Γ o E (E.app wr chg):=by exact zPQ inferInstance rfl rfl rfl rfl)(hg:o.guard=dt:=by rfl)(hp:pn.ok o.dst=du:=by rfl):RW P Γ pn ops (o::os) E Q:=oP h k hg hp
theorem zQd(k:RW P Γ pn ops os (E.app wr chg) Q)(h:Ok P Γ o E (E.app wr chg):=by first|exact zA4 rfl (zDM rfl) rfl|exact zA4 rfl (isPtr_addr rfl) rfl|exact zA4 rfl (zCA (by first|exact zDK rfl rfl|exact zHf rfl rfl (by first|rfl|exact yP (by assumption) rfl|exact yP (by assumption) (yP (by assumption) rfl)|exact uS rfl (yP (by assumption) rfl)|exact uR (yP (by assumption) rfl)|exact uR (uS rfl (yP (by assumption) rfl))|exact uR (uS rfl (yP (by assumption) (yP (by assumption) rfl)))) rfl)) rfl)(hg:o.guard=dt:=by rfl)(hp:pn.ok o.dst=du:=by rfl):RW P Γ pn ops (o::os) E Q:=oP h k hg hp
theorem zXJ(k:RW P Γ pn ops os (E.app wr chg) Q)(h:Ok P Γ o E (E.app wr chg):=by exact zXG (by first|exact zDK rfl rfl|exact zHf rfl rfl (by first|rfl|exact yP (by assumption) rfl|exact yP (by assumption) (yP (by assumption) rfl)|exact uS rfl (yP (by assumption) rfl)|exact uR (yP (by assumption) rfl)|exact uR (uS rfl (yP (by assumption) rfl))|exact uR (uS rfl (yP (by assumption) (yP (by assumption) rfl)))) rfl) rfl)(hg:o.guard=dt:=by rfl)(hp:pn.ok o.dst=du:=by rfl):RW P Γ pn ops (o::os) E Q:=oP h k hg hp
theorem zSZ(k:RW P Γ pn ops os (E.app wr chg) Q)(h:Ok P Γ o E (E.app wr chg):=by exact zMP inferInstance rfl)(hg:o.guard=dt:=by rfl)(hp:pn.ok o.dst=du:=by rfl):RW P Γ pn ops (o::os) E Q:=oP h k hg hp
theorem zVn(k:RW P Γ pn ops os (E.app wr chg) Q)(h:Ok P Γ o E (E.app wr chg):=by exact zVe rfl rfl rfl)(hg:o.guard=dt:=by rfl)(hp:pn.ok o.dst=du:=by rfl):RW P Γ pn ops (o::os) E Q:=oP h k hg hp
theorem zXK(k:RW P Γ pn ops os (E.app wr chg) Q)(h:Ok P Γ o E (E.app wr chg):=by exact zVi rfl rfl)(hg:o.guard=dt:=by rfl)(hp:pn.ok o.dst=du:=by rfl):RW P Γ pn ops (o::os) E Q:=oP h k hg hp
theorem zA7(rd:List (Nat×T))(k:DK P Γ pn ops id hs E0 Q os (E.app wr chg) (⟨rd,[(wr,chg)]⟩::acc))(gO:E.Has rd:=by repeat (first|exact trivial|refine⟨rfl,?_⟩))(h:∀E':Env,E'.Has rd→Ok P Γ o E' (E'.app wr chg):=by intro E' h;exact zL0 (hO h rfl) rfl)(hg:o.guard=dt:=by rfl):DK P Γ pn ops id hs E0 Q (o::os) E acc:=dG rd [(wr,chg)] gO (fun E' h'=>xC.op (h E' h') hg) k
theorem zL5{g s:Nat}{b:Bool}(rd:List (Nat×T))(k:DK P Γ pn ops id hs E0 Q os (E.app wr chg) (⟨rd,[(wr,chg)]⟩::acc))(gO:E.Has rd:=by repeat (first|exact trivial|refine⟨rfl,?_⟩))(hg:o.guard=dq (g,b):=by rfl)(gP:(ops[g]?).bind (·.dst)=dq s:=by rfl)(hb:wQ rd s=dq (.lit (.bool b)):=by rfl)(h:∀E':Env,E'.Has rd→Ok P Γ o E' (E'.app wr chg):=by intro E' h;exact zL0 (hO h rfl) rfl):DK P Γ pn ops id hs E0 Q (o::os) E acc:=dG rd [(wr,chg)] gO (fun E' h'=>xC.guard g b s (h E' h') hg gP (hE h' hb)) k
theorem zZm(rd:List (Nat×T))(k:DK P Γ pn ops id hs E0 Q os (E.app wr chg) (⟨rd,[(wr,chg)]⟩::acc))(gO:E.Has rd:=by repeat (first|exact trivial|refine⟨rfl,?_⟩))(h:∀E':Env,E'.Has rd→Ok P Γ o E' (E'.app wr chg):=by intro E' h;exact zSM (hO h rfl) rfl)(hg:o.guard=dt:=by rfl):DK P Γ pn ops id hs E0 Q (o::os) E acc:=dG rd [(wr,chg)] gO (fun E' h'=>xC.op (h E' h') hg) k
theorem zNc(rd:List (Nat×T))(k:DK P Γ pn ops id hs E0 Q os (E.app wr chg) (⟨rd,[(wr,chg)]⟩::acc))(gO:E.Has rd:=by repeat (first|exact trivial|refine⟨rfl,?_⟩))(h:∀E':Env,E'.Has rd→Ok P Γ o E' (E'.app wr chg):=by intro E' h;exact zMZ (hO h rfl) rfl rfl rfl)(hg:o.guard=dt:=by rfl):DK P Γ pn ops id hs E0 Q (o::os) E acc:=dG rd [(wr,chg)] gO (fun E' h'=>xC.op (h E' h') hg) k
theorem zGq{g s:Nat}{b:Bool}(rd:List (Nat×T))(k:DK P Γ pn ops id hs E0 Q os (E.app wr chg) (⟨rd,[(wr,chg)]⟩::acc))(gO:E.Has rd:=by repeat (first|exact trivial|refine⟨rfl,?_⟩))(hg:o.guard=dq (g,b):=by rfl)(gP:(ops[g]?).bind (·.dst)=dq s:=by rfl)(hb:wQ rd s=dq (.lit (.bool b)):=by rfl)(h:∀E':Env,E'.Has rd→Ok P Γ o E' (E'.app wr chg):=by intro E' h;exact zMZ (hO h rfl) rfl rfl rfl):DK P Γ pn ops id hs E0 Q (o::os) E acc:=dG rd [(wr,chg)] gO (fun E' h'=>xC.guard g b s (h E' h') hg gP (hE h' hb)) k
theorem zQe{g s:Nat}{b:Bool}(rd:List (Nat×T))(k:DK P Γ pn ops id hs E0 Q os (E.app wr chg) (⟨rd,[(wr,chg)]⟩::acc))(gO:E.Has rd:=by repeat (first|exact trivial|refine⟨rfl,?_⟩))(hg:o.guard=dq (g,b):=by rfl)(gP:(ops[g]?).bind (·.dst)=dq s:=by rfl)(hb:wQ rd s=dq (.lit (.bool b)):=by rfl)(h:∀E':Env,E'.Has rd→Ok P Γ o E' (E'.app wr chg):=by intro E' h;exact zQc (by first|exact zDK (hE h rfl) rfl|exact zHf (hE h rfl) (hE h rfl) (by first|rfl|exact yP (by assumption) rfl|exact yP (by assumption) (yP (by assumption) rfl)|exact uS rfl (yP (by assumption) rfl)|exact uR (yP (by assumption) rfl)|exact uR (uS rfl (yP (by assumption) rfl))|exact uR (uS rfl (yP (by assumption) (yP (by assumption) rfl)))) rfl) rfl):DK P Γ pn ops id hs E0 Q (o::os) E acc:=dG rd [(wr,chg)] gO (fun E' h'=>xC.guard g b s (h E' h') hg gP (hE h' hb)) k
theorem zXL(rd:List (Nat×T))(k:DK P Γ pn ops id hs E0 Q os (E.app wr chg) (⟨rd,[(wr,chg)]⟩::acc))(gO:E.Has rd:=by repeat (first|exact trivial|refine⟨rfl,?_⟩))(h:∀E':Env,E'.Has rd→Ok P Γ o E' (E'.app wr chg):=by intro E' h;exact zPL (by assumption) (hO h rfl) (hO h rfl) rfl)(hg:o.guard=dt:=by rfl):DK P Γ pn ops id hs E0 Q (o::os) E acc:=dG rd [(wr,chg)] gO (fun E' h'=>xC.op (h E' h') hg) k
theorem zAg(rd:List (Nat×T))(k:DK P Γ pn ops id hs E0 Q os (E.app wr chg) (⟨rd,[(wr,chg)]⟩::acc))(gO:E.Has rd:=by repeat (first|exact trivial|refine⟨rfl,?_⟩))(h:∀E':Env,E'.Has rd→Ok P Γ o E' (E'.app wr chg):=by intro E' h;exact zL1 (hO h rfl) (hO h rfl) rfl)(hg:o.guard=dt:=by rfl):DK P Γ pn ops id hs E0 Q (o::os) E acc:=dG rd [(wr,chg)] gO (fun E' h'=>xC.op (h E' h') hg) k
theorem zXM(rd:List (Nat×T))(k:DK P Γ pn ops id hs E0 Q os (E.app wr chg) (⟨rd,[(wr,chg)]⟩::acc))(gO:E.Has rd:=by repeat (first|exact trivial|refine⟨rfl,?_⟩))(h:∀E':Env,E'.Has rd→Ok P Γ o E' (E'.app wr chg):=by intro E' h;first|exact zVU (hO h rfl) (hE h rfl) rfl rfl rfl rfl|exact zVU (hO h rfl) (hE h rfl) (by first|rfl|exact yP (by assumption) rfl|exact yP (by assumption) (yP (by assumption) rfl)|exact uS rfl (yP (by assumption) rfl)|exact uR (yP (by assumption) rfl)|exact uR (uS rfl (yP (by assumption) rfl))|exact uR (uS rfl (yP (by assumption) (yP (by assumption) rfl)))) (by rfl) (by rfl) (by rfl))(hg:o.guard=dt:=by rfl):DK P Γ pn ops id hs E0 Q (o::os) E acc:=dG rd [(wr,chg)] gO (fun E' h'=>xC.op (h E' h') hg) k
theorem zXN(rd:List (Nat×T))(k:DK P Γ pn ops id hs E0 Q os (E.app wr chg) (⟨rd,[(wr,chg)]⟩::acc))(gO:E.Has rd:=by repeat (first|exact trivial|refine⟨rfl,?_⟩))(h:∀E':Env,E'.Has rd→Ok P Γ o E' (E'.app wr chg):=by intro E' h;exact zBM (hO h rfl) rfl)(hg:o.guard=dt:=by rfl):DK P Γ pn ops id hs E0 Q (o::os) E acc:=dG rd [(wr,chg)] gO (fun E' h'=>xC.op (h E' h') hg) k
theorem zXO{g s:Nat}{b:Bool}(rd:List (Nat×T))(k:DK P Γ pn ops id hs E0 Q os (E.app wr chg) (⟨rd,[(wr,chg)]⟩::acc))(gO:E.Has rd:=by repeat (first|exact trivial|refine⟨rfl,?_⟩))(hg:o.guard=dq (g,b):=by rfl)(gP:(ops[g]?).bind (·.dst)=dq s:=by rfl)(hb:wQ rd s=dq (.lit (.bool b)):=by rfl)(h:∀E':Env,E'.Has rd→Ok P Γ o E' (E'.app wr chg):=by intro E' h;exact zPO (hO h rfl) (hO h rfl) rfl):DK P Γ pn ops id hs E0 Q (o::os) E acc:=dG rd [(wr,chg)] gO (fun E' h'=>xC.guard g b s (h E' h') hg gP (hE h' hb)) k
theorem zGr{g s:Nat}{b:Bool}(rd:List (Nat×T))(k:DK P Γ pn ops id hs E0 Q os (E.app wr chg) (⟨rd,[(wr,chg)]⟩::acc))(gO:E.Has rd:=by repeat (first|exact trivial|refine⟨rfl,?_⟩))(hg:o.guard=dq (g,b):=by rfl)(gP:(ops[g]?).bind (·.dst)=dq s:=by rfl)(hb:wQ rd s=dq (.lit (.bool b)):=by rfl)(h:∀E':Env,E'.Has rd→Ok P Γ o E' (E'.app wr chg):=by intro E' h;exact zPQ inferInstance (hO h rfl) rfl rfl rfl):DK P Γ pn ops id hs E0 Q (o::os) E acc:=dG rd [(wr,chg)] gO (fun E' h'=>xC.guard g b s (h E' h') hg gP (hE h' hb)) k
theorem zIJ(rd:List (Nat×T))(k:DK P Γ pn ops id hs E0 Q os (E.app wr chg) (⟨rd,[(wr,chg)]⟩::acc))(gO:E.Has rd:=by repeat (first|exact trivial|refine⟨rfl,?_⟩))(h:∀E':Env,E'.Has rd→Ok P Γ o E' (E'.app wr chg):=by intro E' h;first|exact zA4 (hO h rfl) (zDM (hO h rfl)) rfl|exact zA4 (hO h rfl) (isPtr_addr (hO h rfl)) rfl|exact zA4 (hO h rfl) (zCA (by first|exact zDK (hE h rfl) rfl|exact zHf (hE h rfl) (hE h rfl) (by first|rfl|exact yP (by assumption) rfl|exact yP (by assumption) (yP (by assumption) rfl)|exact uS rfl (yP (by assumption) rfl)|exact uR (yP (by assumption) rfl)|exact uR (uS rfl (yP (by assumption) rfl))|exact uR (uS rfl (yP (by assumption) (yP (by assumption) rfl)))) rfl)) rfl)(hg:o.guard=dt:=by rfl):DK P Γ pn ops id hs E0 Q (o::os) E acc:=dG rd [(wr,chg)] gO (fun E' h'=>xC.op (h E' h') hg) k
theorem zDt{g s:Nat}{b:Bool}(rd:List (Nat×T))(k:DK P Γ pn ops id hs E0 Q os (E.app wr chg) (⟨rd,[(wr,chg)]⟩::acc))(gO:E.Has rd:=by repeat (first|exact trivial|refine⟨rfl,?_⟩))(hg:o.guard=dq (g,b):=by rfl)(gP:(ops[g]?).bind (·.dst)=dq s:=by rfl)(hb:wQ rd s=dq (.lit (.bool b)):=by rfl)(h:∀E':Env,E'.Has rd→Ok P Γ o E' (E'.app wr chg):=by intro E' h;first|exact zA4 (hO h rfl) (zDM (hO h rfl)) rfl|exact zA4 (hO h rfl) (isPtr_addr (hO h rfl)) rfl|exact zA4 (hO h rfl) (zCA (by first|exact zDK (hE h rfl) rfl|exact zHf (hE h rfl) (hE h rfl) (by first|rfl|exact yP (by assumption) rfl|exact yP (by assumption) (yP (by assumption) rfl)|exact uS rfl (yP (by assumption) rfl)|exact uR (yP (by assumption) rfl)|exact uR (uS rfl (yP (by assumption) rfl))|exact uR (uS rfl (yP (by assumption) (yP (by assumption) rfl)))) rfl)) rfl):DK P Γ pn ops id hs E0 Q (o::os) E acc:=dG rd [(wr,chg)] gO (fun E' h'=>xC.guard g b s (h E' h') hg gP (hE h' hb)) k
theorem cA{f:FuncId}{xs:List Operand}{ats:Array TypeId}{us res:List T}(gu:zA5 P f)(hc:FnC P f us res [])(k:RW P Γ pn ops os (E.app (cWr d res []) (wP d [])) Q)(gk:xJ E [] 0 xs us:=by repeat (first|exact trivial|refine⟨agC _ rfl (by first|rfl|exact zPP inferInstance|exact zL2 rfl (by first|rfl|exact yP (by assumption) rfl|exact yP (by assumption) (yP (by assumption) rfl)|exact uS rfl (yP (by assumption) rfl)|exact uR (yP (by assumption) rfl)|exact uR (uS rfl (yP (by assumption) rfl))|exact uR (uS rfl (yP (by assumption) (yP (by assumption) rfl)))) inferInstance|exact cloSR rfl (by first|rfl|exact yP (by assumption) rfl|exact yP (by assumption) (yP (by assumption) rfl)|exact uS rfl (yP (by assumption) rfl)|exact uR (yP (by assumption) rfl)|exact uR (uS rfl (yP (by assumption) rfl))|exact uR (uS rfl (yP (by assumption) (yP (by assumption) rfl))))) rfl,?_⟩))(gy:zBN res:=by repeat (first|exact zFk|refine zGl inferInstance ?_))(sd:J3 d Γ.N=du:=by rfl)(hg:gd=dt:=by rfl)(hp:pn.ok (dq d)=du:=by rfl):
  RW P Γ pn ops (⟨dq d,.call { callee:=.value (.func f),args:=xs.toArray,argTypes:=ats },ty,ps,af,gd⟩::os) E Q:=oP (zAY gu hc gk gy sd) k hg hp
theorem dC{f:FuncId}{xs:List Operand}{ats:Array TypeId}{us res:List T}(rd:List (Nat×T))(gu:zA5 P f)(hc:FnC P f us res [])(k:DK P Γ pn ops id hs E0 Q os (E.app (cWr d res []) (wP d [])) (⟨rd,[(cWr d res [],wP d [])]⟩::acc))(gO:E.Has rd:=by repeat (first|exact trivial|refine⟨rfl,?_⟩))(gk:∀E':Env,E'.Has rd→xJ E' [] 0 xs us:=by intro E' h;repeat (first|exact trivial|refine⟨agC _ (hO h rfl) (by first|rfl|exact zPP inferInstance|exact zL2 (hE h rfl) (by first|rfl|exact yP (by assumption) rfl|exact yP (by assumption) (yP (by assumption) rfl)|exact uS rfl (yP (by assumption) rfl)|exact uR (yP (by assumption) rfl)|exact uR (uS rfl (yP (by assumption) rfl))|exact uR (uS rfl (yP (by assumption) (yP (by assumption) rfl)))) inferInstance|exact cloSR (hE h rfl) (by first|rfl|exact yP (by assumption) rfl|exact yP (by assumption) (yP (by assumption) rfl)|exact uS rfl (yP (by assumption) rfl)|exact uR (yP (by assumption) rfl)|exact uR (uS rfl (yP (by assumption) rfl))|exact uR (uS rfl (yP (by assumption) (yP (by assumption) rfl))))) rfl,?_⟩))(gy:zBN res:=by repeat (first|exact zFk|refine zGl inferInstance ?_))(sd:J3 d Γ.N=du:=by rfl)(hg:gd=dt:=by rfl):
  DK P Γ pn ops id hs E0 Q (⟨dq d,.call { callee:=.value (.func f),args:=xs.toArray,argTypes:=ats },ty,ps,af,gd⟩::os) E acc:=
 dG rd [(cWr d res [],wP d [])] gO (fun E' h'=>xC.op (zAY gu hc (gk E' h') gy sd) hg) k
theorem sk2{g s:Nat}{b b':Bool}(k:RW P Γ pn ops os (E.app [(d,dq (.tup []))] [(d,0)]) Q)(hd:o.dst=dq d:=by rfl)(hg:o.guard=dq (g,b):=by rfl)(gP:(ops[g]?).bind (·.dst)=dq s:=by rfl)(hb:E s=dq (.lit (.bool b')):=by rfl)(cu:(b==b')=dv:=by rfl)(sd:J3 d Γ.N=du:=by rfl)(hp:pn.ok o.dst=du:=by rfl):
  RW P Γ pn ops (o::os) E Q:=RW.cons (xC.skip2 g b b' s hd sd cu hg gP hb) k hp
theorem sk3{g s:Nat}{b:Bool}(k:RW P Γ pn ops os (E.app [(d,dq (.tup []))] [(d,0)]) Q)(hd:o.dst=dq d:=by rfl)(hg:o.guard=dq (g,b):=by rfl)(gP:(ops[g]?).bind (·.dst)=dq s:=by rfl)(hb:E s=dq (.tup []):=by rfl)(sd:J3 d Γ.N=du:=by rfl)(hp:pn.ok o.dst=du:=by rfl):
  RW P Γ pn ops (o::os) E Q:=RW.cons (xC.skip3 g b s hd sd hg gP hb) k hp
theorem wV{g s:Nat}{b b':Bool}(k:DK P Γ pn ops id hs E0 Q os (E.app [(d,dq (.tup []))] [(d,0)]) (⟨[(s,.lit (.bool b'))],[([(d,dq (.tup []))],[(d,0)])]⟩::acc))(hd:o.dst=dq d:=by rfl)(hg:o.guard=dq (g,b):=by rfl)(gP:(ops[g]?).bind (·.dst)=dq s:=by rfl)(hb:E s=dq (.lit (.bool b')):=by rfl)(cu:(b==b')=dv:=by rfl)(sd:J3 d Γ.N=du:=by rfl):
  DK P Γ pn ops id hs E0 Q (o::os) E acc:=dG [(s,.lit (.bool b'))] [([(d,dq (.tup []))],[(d,0)])] ⟨hb,trivial⟩ (fun _E' h=>xC.skip2 g b b' s hd sd cu hg gP h.1) k
theorem zZn{g s:Nat}{b:Bool}(k:DK P Γ pn ops id hs E0 Q os (E.app [(d,dq (.tup []))] [(d,0)]) (⟨[(s,.tup [])],[([(d,dq (.tup []))],[(d,0)])]⟩::acc))(hd:o.dst=dq d:=by rfl)(hg:o.guard=dq (g,b):=by rfl)(gP:(ops[g]?).bind (·.dst)=dq s:=by rfl)(hb:E s=dq (.tup []):=by rfl)(sd:J3 d Γ.N=du:=by rfl):
  DK P Γ pn ops id hs E0 Q (o::os) E acc:=dG [(s,.tup [])] [([(d,dq (.tup []))],[(d,0)])] ⟨hb,trivial⟩ (fun _E' h=>xC.skip3 g b s hd sd hg gP h.1) k
theorem dNA(hm:P.follows .mixedOrders=du)(hQ:Q .normal E)(hf:zAQ 0 ops.toList=du:=by rfl)(ha:zAr (zVS ops.toList) (zVS ops.toList) ops.toList=du:=by rfl)(hp:jO acc.reverse 0 (zVS ops.toList) acc.reverse=du:=by rfl)
  (bj:ops.toList.all (fun o=>pn.ok o.dst)=du:=by rfl)(mD:zQa hs E0=du:=by rfl)(hw:acc.reverse.all (wrS hs)=du:=by rfl):DK P Γ pn ops id hs E0 Q [] E acc:=dN _ hm hQ hf ha hp bj mD hw
theorem cn{c1 c2:Code}{α:Type}{b:Bool}{u v z:α}(h:cond b u v=z)(ht:b=du→u=z→CW P Γ pn c1 E Q)(hf:b=dv→v=z→CW P Γ pn c2 E Q)(hb:opT E x=dq (.lit (.bool b)):=by rfl):CW P Γ pn (.cond x c1 c2) E Q:=
 CW.cond b hb (fun hc=>ht hc (cT hc h)) fun hc=>hf hc (cF hc h)
theorem fB{f:FuncId}{fn:Func}{c:Code}{us res:List T}{rws:List (Nat×T)}(hf:P.funcs[f]? =dq fn)(h:∀(St:Stb)(W:Nat→Prop)(w0:World)(v:Nat→Value),CW P ⟨St,W,w0,fn.ntmps⟩ (zCd v (rws.map (·.1))) c (wQ (zHe 0 us)) (xI ⟨St,W,w0,fn.ntmps⟩ P fn.results us res rws))(hb:fn.body=dq c:=by rfl)(hn:us.length≤fn.ntmps:=by exact Nat.le_of_ble_eq_true rfl)
  (ht:vS us:=by repeat (first|exact trivial|refine⟨by first|exact Top.of_clean _ (Enc.clean _)|simp[Top,vS],?_⟩))(hr:rws.all (fun x=>decide (x.1<us.length))=du:=by rfl):FnC P f us res rws:=
 FnC.of_bodyG hf hb hn ht hr (by rintro⟨St,W,w0,N⟩ v hN;subst hN;exact h St W w0 v)
def zCk:List ResultVar→Option (List Nat)
 | []=>dq []
 |.tmp s::l=>(zCk l).map (s::·)
 |.cell _ _::_=>dt
theorem zHL:∀(rs:List ResultVar)(ss:List Nat)(res:List T),zCk rs=dq ss→ss.map E=res.map dq→res.all T.okTup=du→ ∃nd:Nds,zFj P E rs nd∧nd.map (·.2.2)=res∧nd.map (·.1)=ss
 | [],ss,res,h,hE,_=>by
  simp[zCk]at h;subst h;cases res with
  |nil=>exact⟨[],trivial,rfl,rfl⟩
  |cons _ _=>simp at hE
 |.tmp s::rs,ss,res,h,hE,ht=>by
  simp only[zCk,Ke]at h;obtain⟨ss',h,rfl⟩:=h;cases res with
  |nil=>simp at hE
  |cons t res=>
   simp only[Jl,Qs.injEq]at hE;simp only[Gk,J2]at ht;obtain⟨nd,h1,h2,h3⟩:=zHL rs ss' res h hE.2 ht.2;exact⟨(s,[],t)::nd,⟨⟨rfl,rfl,hE.1,ht.1⟩,h1⟩,by simp[h2],by simp[h3]⟩
 |.cell _ _::_,_,_,h,_,_=>by simp[zCk]at h
theorem rT{rs:Array ResultVar}{us res:List T}{rws:List (Nat×T)}{e:Exit}{ss:List Nat}(hs:zCk rs.toList=dq ss:=by rfl)(hE:ss.map E=res.map dq:=by rfl)(ht:res.all T.okTup=du:=by rfl)(hl:ss.all (fun s=>Ud us.length s)=du:=by rfl)(hn:zAZ ss=du:=by rfl)
  (hw:LOk E us rws:=by repeat (first|exact trivial|refine⟨⟨rfl,_,rfl⟩,?_⟩))(he:e=.ret∨e=.normal:=by first|exact .inl rfl|exact .inr rfl):xI Γ P rs us res rws e E:=by
 obtain⟨nd,h1,h2,h3⟩:=zHL (P:=P) rs.toList ss res hs hE ht;refine⟨E,zM.refl,he,nd,h1,h2,fun x hx=>?_,by rw[h3];exact zCB hn,hw⟩;have:x.1∈ss:=by rw[←h3];exact Ja.2 ⟨x,hx,rfl⟩
 exact Nat.le_of_ble_eq_true (Jt.1 hl _ this)
theorem eN{σ ρ:Type}{en:σ→Env}{Q1:ρ→Exit→Env→Prop}{y:σ}{x:σ⊕ρ}(h:dq (Sum.inl y)=dq x)(q:zM Γ E (en y):=by exact .has (by repeat (first|exact trivial|refine⟨rfl,?_⟩))):yQ Γ en Q1 x .normal E:=by obtain rfl:=sI h;exact⟨rfl,q⟩
theorem rTg{rs:Array ResultVar}{us res:List T}{rws:List (Nat×T)}{e:Exit}(hg:zM Γ E E')(h:xI Γ P rs us res rws e E'):xI Γ P rs us res rws e E:=by obtain⟨E2,h1,h2⟩:=h;exact⟨E2,hg.trans h1,h2⟩
theorem eX{σ ρ:Type}{en:σ→Env}{Q1:ρ→Exit→Env→Prop}{y:ρ}{x:σ⊕ρ}{e:Exit}(h:dq (Sum.inr y)=dq x)(q:Q1 y e E:=by first|exact⟨rfl,.has (by repeat (first|exact trivial|refine⟨rfl,?_⟩))⟩|exact⟨rfl,rT⟩)(gf:e≠.normal:=by first|exact neX|exact neR):yQ Γ en Q1 x e E:=by obtain rfl:=sI h;exact⟨gf,q⟩
end
end Go.Ab

namespace Go.Ab
open Go
section
variable {Γ:Ctx}{E:Env}
theorem zM.frzG(s:Nat)(t:T){t':T}(hs:E s=dq t)(h:wU t=t'):zM Γ E (E.app [(s,dq t')] [(s,1)]):=h▸zM.freeze s t hs
theorem fzO{α:Type}{k:Nat}{f g:α→T}{xs:List α}(h:vF f g):wU (L k f xs)=.ro (L k g xs):=by simp only[wU,strip,uJ h.h xs]
theorem fzP{t u:T}(h:strip t=u):wU (.ptr t)=.ro (.ptr u):=by grind[wU,strip]
theorem fzA{xs ys:List T}(h:vY xs=ys):wU (.agg xs)=.agg ys:=by grind[wU]
theorem fzC{x y:T}{xs ys:List T}(h:wU x=y)(h2:vY xs=ys):vY (x::xs)=y::ys:=by grind[vY]
end
end Go.Ab
namespace Go.Ab
open Go
theorem zNd{α:Type}{k:Nat}{f:α→T}{xs:List α}{i j:Int}{a b:α}{X:T}(hi:ixO xs i=dq a)(hj:ixO xs j=dq b)(gf:(i != j)=du):
  (if[i.toNat]=[]then X else(L k f xs).set [i.toNat].reverse T.any).get [j.toNat].reverse=dq (f b):=by
 have h1:=(vJ hi);have h2:=(vJ hj);have h3:i≠j:=by grind
 have h4:i.toNat≠j.toNat:=by omega
 simp only[List.cons_ne_nil,if_false,Hp,H2,Jy]
 grind[T.set,T.get]
theorem zQf{E:Env}{rs:List Nat}{s r:Nat}{q:List Nat}{tr u:T}(hr:E r=dq tr)(hg:tr.get q.reverse=dq u)(h4:zAs u=du)(hn:rs.contains r=dv):zH7 E rs (.tmp s) (.same r q)=du:=by simp only[zH7,tX,zE0 hr hg h4,hn,Jr]
end Go.Ab

namespace Go.Ab
open Go
section
variable {P:Program}{Γ:Ctx}{pn:sQ}{E E' E0:Env}{Q:Exit→Env→Prop}{ops:Array Oper}{o:Oper}{os:List Oper}{id d:Nat}{hs:List Nat}{acc:List Stp}{x y:Operand}{ty:TypeId}{ps:String}{af:Array Edge}{gd:Option (Nat×Bool)}
theorem dGk{rd:List (Nat×T)}{l:zCe}(k:DK P Γ pn ops id hs E0 Q os (E.apps l) (⟨rd,l⟩::acc))(gO:E.Has rd)(gK:∀E':Env,E'.Has rd→xC P Γ ops o E' (E'.apps l)):DK P Γ pn ops id hs E0 Q (o::os) E acc:=dG rd l gO gK k
theorem zVo(s:Nat)(k:DK P Γ pn ops id hs E0 Q os (E.app [(d,dq (.same s []))] [(d,0)]) (⟨[],[([(d,dq (.same s []))],[(d,0)])]⟩::acc))(gR:hs.contains s=du:=by rfl)(sd:(J3 d Γ.N&&s != d)=du:=by rfl)(hg:gd=dt:=by rfl):
  DK P Γ pn ops id hs E0 Q (⟨dq d,.move (.tmp s),ty,ps,af,gd⟩::os) E acc:=
 dGS [] [([(d,dq (.same s []))],[(d,0)])] trivial (fun E' _ hh=>by
  obtain⟨t,he,ht⟩:=hh s gR;have hc:uE (.tmp s) t=.same s []:=by cases t<;>simp[qF]at ht<;>rfl
  have hk:t.okTup=du:=by cases t<;>simp[qF]at ht<;>rfl
  simp only[J2]at sd;have h1:=zL0 (P:=P) (Γ:=Γ) (d:=d) (ty:=ty) (ps:=ps) (af:=af) (gd:=gd) (x:=.tmp s) (t:=t) (E:=E') he (by
   simp only[mvB,sd.1,hk,neD,hc,T.okB,Uo,Bool.and_true];have:s≠d:=by grind
   simp[this,Ne.symm this,zAm])
  rw[hc]at h1;exact xC.op h1 hg) k
theorem zXP{t e:TypeId}{ti:TypeInfo}{r k:Nat}{q:List Nat}{ys:List T}{i:Int}[ht:zBs P t e ti k](hx:uQ E x=dq (r,q,.sl k ys))(hy:opT E y=dq (I i))(h:0≤i∧i.toNat<ys.length)(sd:J3 d Γ.N=du):
  Ok P Γ ⟨dq d,.indexAddr t x y,ty,ps,af,gd⟩ E (E.app [(d,dq (.addr r (i.toNat::q)))] [(d,0)]):=
 fun _=>zPr x y t e ti r q k ys .i64 i rfl rfl (zY sd) ht.un ht.info ht.size hx hy h.1 h.2
theorem zM.red(d1 d2 r:Nat)(q q':List Nat)(h1:E d1=dq (.same r q))(h2:E d2=dq (.same r q'))(hq:q=q'):zM Γ E (E.app [(d2,dq (.same d1 []))] []):=by
 subst hq
 rintro a w ⟨S,hS,ea,G,gc⟩
 refine⟨S,hS,ea,G,?_⟩;have hk:qQ [] G w G w:=⟨fun _ _ _=>rfl,fun _ _ _=>rfl,by simp,fun _ _ _ h _=>h,fun b cs e h=>⟨cs,h,rfl⟩⟩;refine vC gc rfl hk gc.mem (by simp) fun s t hs=>?_
 simp only[Wr.find]at hs;split at hs
 ·rename_i e;subst e
  simp at hs;subst hs;obtain⟨g1,g2,_⟩:=gc.ent d2 _ h2;obtain⟨_,g4,_⟩:=gc.ent d1 _ h1;simp only[R]at g2 g4;exact⟨by rw[g1];rfl,by simp only[R];rw[g2,g4],by simp[Top]⟩
 ·cases hs
theorem zM.red2(d1 d2 r:Nat)(q:List Nat)(h1:E d1=dq (.same r q))(h2:E d2=dq (.same d1 [])):zM Γ E (E.app [(d2,dq (.same r q))] []):=by
 rintro a w ⟨S,hS,ea,G,gc⟩
 refine⟨S,hS,ea,G,?_⟩;have hk:qQ [] G w G w:=⟨fun _ _ _=>rfl,fun _ _ _=>rfl,by simp,fun _ _ _ h _=>h,fun b cs e h=>⟨cs,h,rfl⟩⟩;refine vC gc rfl hk gc.mem (by simp) fun s t hs=>?_
 simp only[Wr.find]at hs;split at hs
 ·rename_i e;subst e
  simp at hs;subst hs;obtain⟨g1,g2,_⟩:=gc.ent d2 _ h2;obtain⟨_,g4,_⟩:=gc.ent d1 _ h1;simp only[R]at g2 g4;exact⟨by rw[g1];rfl,by simp only[R];rw[g2,g4],by simp[Top]⟩
 ·cases hs
theorem slG{k n:Nat}{ys:List T}{u:T}(h:ys[n]? =dq u):(T.sl k ys).get [n]=dq u:=by simp[T.get,h]
theorem slS{k n:Nat}{ys:List T}{u v:T}(h:ys[n]? =dq u):(T.sl k ys).set [n] v=.sl k (ys.set n v):=by simp[T.set,h]
theorem mpG{α:Type}{f:α→T}{xs:List α}{i:Int}{a:α}(h:ixO xs i=dq a):(xs.map f)[i.toNat]? =dq (f a):=by simp[(vJ h).2]
theorem stE{ys:List T}{n:Nat}{u v:T}(h:ys[n]? =dq u):(ys.set n v)[n]? =dq v:=by grind
theorem stN{ys:List T}{n m:Nat}{u v:T}(h:ys[m]? =dq u)(gf:n≠m):(ys.set n v)[m]? =dq u:=by grind
theorem zQg{α:Type}{xs:List α}{i j:Int}{a b:α}(ha:ixO xs i=dq a)(hb:ixO xs j=dq b)(h:(i==j)=dv):i.toNat≠j.toNat:=by
 have h1:=(vJ ha).1;have h2:=(vJ hb).1
 grind
theorem zXQ{α:Type}{xs:List α}{i:Int}{a:α}(h:ixO xs i=dq a){ys:List T}(hl:ys.length=xs.length):0≤i∧i.toNat<ys.length:=by
 obtain⟨h1,h2⟩:=vJ h
 grind
def qS{α:Type}(xs:List α)(j i:Int)(a b:α):List α:=(xs.set j.toNat a).set i.toNat b
theorem zXR{α:Type}{f:α→T}{xs:List α}{i j:Int}{a b:α}(gf:i.toNat≠j.toNat):
  ((((xs.map f).set i.toNat .any).set j.toNat .any).set j.toNat (f a)).set i.toNat (f b)=(qS xs j i a b).map f:=by
 grind[Qq,List.set_comm,qS,Gf]
theorem zXS{α:Type}{f:α→T}{xs:List α}{i j:Int}{a b:α}(ha:ixO xs i=dq a)(hb:ixO xs j=dq b)(h:i=j):
  ((((xs.map f).set i.toNat .any).set j.toNat (f a)).set j.toNat .any).set i.toNat (f a)=(qS xs j i a b).map f:=by
 subst h;have:a=b:=by grind
 subst this;simp[qS,Gf]
theorem CW.midA{c1 c2:Code}(l:List (Nat×T))(h1:CW P Γ pn c1 E fun e E'=>e=.normal∧zM Γ E' (wQ l))(h2:CW P Γ pn c2 (wQ l) Q):CW P Γ pn c1 E (zS P Γ pn c2 Q):=
 CW.mono h1 fun e E' h=>by obtain⟨rfl,hg⟩:=h;exact CW.ghost hg h2
section
variable {β:Type}{g:β→T}{k2 k:Nat}{xs:List (List β)}{i j:Int}{a b:List β}{t:TypeId}{ti:TypeInfo}{A U V r:Nat}
abbrev neB(A U V r:Nat):Bool:=U != r&&V != r&&U != V&&A != r&&A != U&&A != V
theorem zGs(h:neB A U V r=du):U≠r∧V≠r∧U≠V∧A≠r∧A≠U∧A≠V:=by grind
theorem zZo[he:Enc g](hi:P.info? t=dq ti)(gv:(ti.size==1&&J3 0 ti.size)=du)(ha:ixO xs i=dq a)(hb:ixO xs j=dq b)(hn:i.toNat≠j.toNat)
  (kk:DK P Γ pn ops id hs E0 Q os (E.apps [([(U,dq (L k2 g a)),(r,dq (.sl k ((xs.map (L k2 g)).set i.toNat .any)))],[(U,1),(r,2)]),([(V,dq (L k2 g b)),(r,dq (.sl k (((xs.map (L k2 g)).set i.toNat .any).set j.toNat .any)))],[(V,1),(r,2)]),([(r,dq (.sl k ((((xs.map (L k2 g)).set i.toNat .any).set j.toNat .any).set j.toNat (L k2 g a)))),(U,dq (.same r [j.toNat]))],[(r,1),(U,1)])])
   (⟨[(A,.addr r [j.toNat]),(U,.same r [i.toNat]),(V,.same r [j.toNat]),(r,L k (L k2 g) xs)],[([(U,dq (L k2 g a)),(r,dq (.sl k ((xs.map (L k2 g)).set i.toNat .any)))],[(U,1),(r,2)]),([(V,dq (L k2 g b)),(r,dq (.sl k (((xs.map (L k2 g)).set i.toNat .any).set j.toNat .any)))],[(V,1),(r,2)]),([(r,dq (.sl k ((((xs.map (L k2 g)).set i.toNat .any).set j.toNat .any).set j.toNat (L k2 g a)))),(U,dq (.same r [j.toNat]))],[(r,1),(U,1)])]⟩::acc))
  (hA:E A=dq (.addr r [j.toNat]):=by rfl)(hU:E U=dq (.same r [i.toNat]):=by rfl)(hV:E V=dq (.same r [j.toNat]):=by rfl)(hr:E r=dq (L k (L k2 g) xs):=by rfl)(gf:neB A U V r=du:=by rfl)(hg:gd=dt:=by rfl):
  DK P Γ pn ops id hs E0 Q (⟨dt,.store t (.tmp A) (.tmp U),ty,ps,af,gd⟩::os) E acc:=by
 obtain⟨n1,n2,n3,n4,n5,n6⟩:=zGs gf;refine dGk kk ⟨hA,hU,hV,hr,trivial⟩ (fun E' h=>?_);obtain⟨h1,h2,h3,h4,_⟩:=h;refine xC.gh (zM.trq (u:=L k2 g a) U r [i.toNat] h2 h4 (slG (mpG ha)) (zAf he.clean) (by grind[T.single,xZ,T.okB]) (slS (mpG ha))) ?_;refine xC.gh (zM.trq (u:=L k2 g b) V r [j.toNat] (tr:=.sl k ((xs.map (L k2 g)).set i.toNat .any)) (by simp[Env.app,Wr.find,n1,n3,h3,T.okB,zAm,Ne.symm n2]) (by grind[Env.app,Wr.find]) (slG (stN (mpG hb) hn)) (zAf he.clean) (by grind[T.single,xZ,T.okB]) (slS (stN (mpG hb) hn))) ?_;refine xC.opE (E1:=_) (zOh (tr:=.sl k (((xs.map (L k2 g)).set i.toNat .any).set j.toNat .any)) (u:=L k2 g a) (u0:=.any) (r:=r) (q:=[j.toNat]) hi (by grind[T.size]) ?_ ?_ (slG (stE (stN (mpG hb) hn))) (slS (stE (stN (mpG hb) hn))) ?_ (zAf he.clean) ?_) rfl hg
 ·simp[opT,Env.app,Wr.find,h1,n1,n2,Ne.symm n4,Ne.symm n5,Ne.symm n6,T.okB,zAm]
 ·grind[Env.app,Wr.find]
 ·simp[Env.app,Wr.find,Ne.symm n1,Ne.symm n3,T.okB]
 ·simp[T.single,T.locd,wO,T.okTup,Ne.symm n1]
theorem zZp[he:Enc g](hi:P.info? t=dq ti)(gv:(ti.size==1&&J3 0 ti.size)=du)(ha:ixO xs i=dq a)(_hb:ixO xs j=dq b)(hn:i.toNat≠j.toNat)
  (kk:DK P Γ pn ops id hs E0 Q os (E.apps [([(r,dq (L k (L k2 g) (qS xs j i a b))),(V,dq (.same r [i.toNat]))],[(r,1),(V,1)])]) (⟨[(A,.addr r [i.toNat]),(V,L k2 g b),(r,.sl k ((((xs.map (L k2 g)).set i.toNat .any).set j.toNat .any).set j.toNat (L k2 g a)))],[([(r,dq (L k (L k2 g) (qS xs j i a b))),(V,dq (.same r [i.toNat]))],[(r,1),(V,1)])]⟩::acc))
  (hA:E A=dq (.addr r [i.toNat]):=by rfl)(hV:E V=dq (L k2 g b):=by rfl)(hr:E r=dq (.sl k ((((xs.map (L k2 g)).set i.toNat .any).set j.toNat .any).set j.toNat (L k2 g a))):=by rfl)(gf:(r != V)=du:=by rfl)(hg:gd=dt:=by rfl):
  DK P Γ pn ops id hs E0 Q (⟨dt,.store t (.tmp A) (.tmp V),ty,ps,af,gd⟩::os) E acc:=by
 refine dGk kk ⟨hA,hV,hr,trivial⟩ (fun E' h=>?_);obtain⟨h1,h3,h4,_⟩:=h;have hh:((((xs.map (L k2 g)).set i.toNat .any).set j.toNat .any).set j.toNat (L k2 g a))[i.toNat]? =dq .any:=stN (stN (stE (mpG ha)) (Ne.symm hn)) (Ne.symm hn);refine xC.opE (zOh (u:=L k2 g b) (q:=[i.toNat]) (E:=E') hi (by grind[T.size]) h1 h4 (slG hh) ((slS hh).trans (congrArg (T.sl k) (zXR hn))) h3 (zAf he.clean) ?_) rfl hg
 grind[T.single,T.locd,wO,T.okTup]
theorem zZq[he:Enc g](hi:P.info? t=dq ti)(gv:(ti.size==1&&J3 0 ti.size)=du)(ha:ixO xs i=dq a)(ev:i=j)
  (kk:DK P Γ pn ops id hs E0 Q os (E.apps [([(V,dq (.same U []))],[]),([(U,dq (L k2 g a)),(r,dq (.sl k ((xs.map (L k2 g)).set i.toNat .any)))],[(U,1),(r,2)]),([(r,dq (.sl k (((xs.map (L k2 g)).set i.toNat .any).set j.toNat (L k2 g a)))),(U,dq (.same r [j.toNat]))],[(r,1),(U,1)])])
   (⟨[(A,.addr r [j.toNat]),(U,.same r [i.toNat]),(V,.same r [j.toNat]),(r,L k (L k2 g) xs)],[([(V,dq (.same U []))],[]),([(U,dq (L k2 g a)),(r,dq (.sl k ((xs.map (L k2 g)).set i.toNat .any)))],[(U,1),(r,2)]),([(r,dq (.sl k (((xs.map (L k2 g)).set i.toNat .any).set j.toNat (L k2 g a)))),(U,dq (.same r [j.toNat]))],[(r,1),(U,1)])]⟩::acc))
  (hA:E A=dq (.addr r [j.toNat]):=by rfl)(hU:E U=dq (.same r [i.toNat]):=by rfl)(hV:E V=dq (.same r [j.toNat]):=by rfl)(hr:E r=dq (L k (L k2 g) xs):=by rfl)(gf:neB A U V r=du:=by rfl)(hg:gd=dt:=by rfl):
  DK P Γ pn ops id hs E0 Q (⟨dt,.store t (.tmp A) (.tmp U),ty,ps,af,gd⟩::os) E acc:=by
 obtain⟨n1,n2,n3,n4,n5,n6⟩:=zGs gf;refine dGk kk ⟨hA,hU,hV,hr,trivial⟩ (fun E' h=>?_);subst ev;obtain⟨h1,h2,h3,h4,_⟩:=h;refine xC.gh (zM.red U V r _ _ h2 h3 rfl) ?_;refine xC.gh (zM.trq (u:=L k2 g a) U r [i.toNat] (tr:=L k (L k2 g) xs) (by simp[Env.app,Wr.find,Ne.symm n3,h2,T.okB,zAm]) (by grind[Env.app,Wr.find,T.okB]) (slG (mpG ha)) (zAf he.clean) (by grind[T.single,xZ,T.okB]) (slS (mpG ha))) ?_;refine xC.opE (zOh (tr:=.sl k ((xs.map (L k2 g)).set i.toNat .any)) (u:=L k2 g a) (u0:=.any) (r:=r) (q:=[i.toNat]) hi (by grind[T.size]) ?_ ?_ (slG (stE (mpG ha))) (slS (stE (mpG ha))) ?_ (zAf he.clean) ?_) rfl hg
 ·simp[opT,Env.app,Wr.find,h1,n1,Ne.symm n4,Ne.symm n5,Ne.symm n6,T.okB,zAm]
 ·grind[Env.app,Wr.find]
 ·simp[Env.app,Wr.find]
 ·simp[T.single,T.locd,wO,T.okTup,Ne.symm n1]
theorem zZr[he:Enc g](hi:P.info? t=dq ti)(gv:(ti.size==1&&J3 0 ti.size)=du)(ha:ixO xs i=dq a)(hb:ixO xs j=dq b)(ev:i=j)
  (kk:DK P Γ pn ops id hs E0 Q os (E.apps [([(V,dq (.same r [j.toNat]))],[]),([(V,dq (L k2 g a)),(r,dq (.sl k ((((xs.map (L k2 g)).set i.toNat .any).set j.toNat (L k2 g a)).set j.toNat .any)))],[(V,1),(r,2)]),([(r,dq (L k (L k2 g) (qS xs j i a b))),(V,dq (.same r [i.toNat]))],[(r,1),(V,1)])])
   (⟨[(A,.addr r [i.toNat]),(V,.same U []),(U,.same r [j.toNat]),(r,.sl k (((xs.map (L k2 g)).set i.toNat .any).set j.toNat (L k2 g a)))],[([(V,dq (.same r [j.toNat]))],[]),([(V,dq (L k2 g a)),(r,dq (.sl k ((((xs.map (L k2 g)).set i.toNat .any).set j.toNat (L k2 g a)).set j.toNat .any)))],[(V,1),(r,2)]),([(r,dq (L k (L k2 g) (qS xs j i a b))),(V,dq (.same r [i.toNat]))],[(r,1),(V,1)])]⟩::acc))
  (hA:E A=dq (.addr r [i.toNat]):=by rfl)(hV:E V=dq (.same U []):=by rfl)(hU:E U=dq (.same r [j.toNat]):=by rfl)(hr:E r=dq (.sl k (((xs.map (L k2 g)).set i.toNat .any).set j.toNat (L k2 g a))):=by rfl)(gf:neB A U V r=du:=by rfl)(hg:gd=dt:=by rfl):
  DK P Γ pn ops id hs E0 Q (⟨dt,.store t (.tmp A) (.tmp V),ty,ps,af,gd⟩::os) E acc:=by
 obtain⟨n1,n2,n3,n4,n5,n6⟩:=zGs gf;refine dGk kk ⟨hA,hV,hU,hr,trivial⟩ (fun E' h=>?_);obtain⟨h1,h3,h2,h4,_⟩:=h;have hsw:=zXS (f:=L k2 g) ha hb ev;subst ev;have g1:(((xs.map (L k2 g)).set i.toNat .any).set i.toNat (L k2 g a))[i.toNat]? =dq (L k2 g a):=stE (stE (mpG ha));refine xC.gh (zM.red2 U V r _ h2 h3) ?_;refine xC.gh (zM.trq (u:=L k2 g a) V r [i.toNat] (tr:=.sl k (((xs.map (L k2 g)).set i.toNat .any).set i.toNat (L k2 g a))) (by simp[Env.app,Wr.find]) (by grind[Env.app,Wr.find,T.okB]) (slG g1) (zAf he.clean) (by grind[T.single,xZ,T.okB]) (slS g1)) ?_;refine xC.opE (zOh (tr:=.sl k ((((xs.map (L k2 g)).set i.toNat .any).set i.toNat (L k2 g a)).set i.toNat .any)) (u:=L k2 g a) (u0:=.any) (r:=r) (q:=[i.toNat]) hi (by grind[T.size]) ?_ ?_ (slG (stE g1)) ((slS (stE g1)).trans (by grind)) ?_ (zAf he.clean) ?_) rfl hg
 ·simp[opT,Env.app,Wr.find,h1,n2,Ne.symm n4,Ne.symm n6,T.okB,zAm]
 ·grind[Env.app,Wr.find]
 ·simp[Env.app,Wr.find]
 ·simp[T.single,T.locd,wO,T.okTup,Ne.symm n2]
end
end
theorem zQh{E:Env}{ds r s:Nat}{q:List Nat}{tr u t:T}(h:E s=dq t)(gf:(Lv ds s||Lv r s)=dv:=by rfl)(hb:t.okB [(ds,1),(r,q.length+1)]=du:=by rfl):wB E ds r q tr u s=dq t:=zJM h gf hb
end Go.Ab

namespace Go.Ab
open Go Go.ChangeShapes
section
variable {P:Program}
theorem zXT{α:Type}{f:α→T}{V:α→Prop}{t e:TypeId}{k:Nat}(hu:P.underlying t=dq (.slice e))(hk:P.cellsOf e=k)(eC:0<k)(h:RdT P e k f V):RdA P t (fun xs=>T.ro (L k f xs)) (fun xs=>xs.length≤maxLen∧ ∀x∈xs,V x):=
 zSY (fun _=>⟨rfl,fun _ _=>rfl⟩) (zZl hu hk eC h) fun{w base v} gH=>by cases v<;>first|rfl|(simp[Value.okWide,Cell.okWide,Cell.ok,hu]at gH)
end
end Go.Ab

namespace Go.Ab
open Go
section
variable {α:Type}{k:Nat}{f:α→T}{xs:List α}{i:Int}{v w:α}{u:T}
theorem zZs(h:ixO xs i=dq v):(L k f xs).set [i.toNat] u=.sl k ((xs.map f).set i.toNat u):=by simp[T.set,(vJ h).2]
theorem zZt(h:ixO xs i=dq v):(T.sl k ((xs.map f).set i.toNat u)).get [i.toNat]=dq u:=by have hl:=(Jb.1 (vJ h).2).1;simp[T.get,hl]
theorem zZu(h:ixO xs i=dq v):(T.sl k ((xs.map f).set i.toNat u)).set [i.toNat] (f w)=L k f (xs.set i.toNat w):=by have hl:=(Jb.1 (vJ h).2).1;simp[T.set,L,hl,Gf]
end
theorem zM.trh{Γ:Ctx}{E:Env}{α:Type}(d r:Nat){k:Nat}{f:α→T}{xs:List α}{v:α}{i:Int}(hd:E d=dq (.same r [i.toNat]))(hr:E r=dq (L k f xs))(hv:ixO xs i=dq v)(eJ:zT (f v))(sd:((f v).single&&(d != r))=du):
  zM Γ E (E.app [(d,dq (f v)),(r,dq (.sl k ((xs.map f).set i.toNat .any)))] [(d,1),(r,2)]):=by
 refine zM.trq d r [i.toNat] hd hr (yP hv rfl) eJ ?_ ?_
 ·simp only[J2]at sd ⊢
  exact⟨⟨⟨sd.1,rfl⟩,rfl⟩,sd.2⟩
 ·rw[if_neg (by simp)]
  exact zZs hv
theorem zXU{P:Program}{Γ:Ctx}{E:Env}{d:Nat}{ty:TypeId}{ps:String}{af:Array Edge}{gd:Option (Nat×Bool)}{x y:Operand}{α:Type}{t e:TypeId}{ti:TypeInfo}{r k:Nat}{q:List Nat}{f:α→T}{xs:List α}{v:α}{i:Int}{u:T}(ht:zBs P t e ti k)(hv:ixO xs i=dq v)(hx:uQ E x=dq (r,q,.sl k ((xs.map f).set i.toNat u)))(hy:opT E y=dq (I i))(sd:J3 d Γ.N=du):
  Ok P Γ ⟨dq d,.indexAddr t x y,ty,ps,af,gd⟩ E (E.app [(d,dq (.addr r (i.toNat::q)))] [(d,0)]):=by
 obtain⟨h1,h2⟩:=vJ hv;exact fun S=>zPr x y t e ti r q k _ .i64 i rfl rfl (zY sd) ht.un ht.info ht.size hx hy h1 (by grind)
end Go.Ab
