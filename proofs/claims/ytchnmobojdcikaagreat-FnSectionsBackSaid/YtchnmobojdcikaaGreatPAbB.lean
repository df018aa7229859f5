/- x -/
import Derived.Test.YtchnmobojdcikaaGreatPAbA
import Derived.Laws.CopyRow
import Derived.ProofKit
open List renaming replicate→J1,getElem?_eq_getElem→J5,getElem?_append_right→Ja,length_append→Jb,getElem?_eq_some_iff→Jc,mem_map→Jd,append_assoc→Je,append_nil→Jf,map_cons→Jg,mem_cons→Jl,getElem?_map→Jm,range→Jn,length_map→Jo,eq_nil_of_length_eq_zero→Jr,all_eq_true→Jt,mem_iff_getElem→Jv,length_cons→Jw,getElem?_append_left→Jz,getElem?_append→K4,take_succ_cons→K6,length_take→K7,mem_append→Kd,nodup_cons→Kf,reverse_reverse→Kk,replicate_succ→Kv,getElem?_drop→Kw,mem_of_getElem?→Kx,flatMap_cons→L9,contains_eq_mem→Ld,getElem?_take→Lq,map_append→H6,length_nil→Hi,cons_append→Hn,reverse_nil→Hq,map_take→G9,all_cons→Ga,map_nil→Gf,reverse_cons→Gk,map_map→Gl,length_range→Gm,range'→Gw,find?_cons_of_neg→U4,mem_iff_getElem?→U8,mem_cons_of_mem→Ug,getLast?_append→Uh,dropLast_concat→Ui,find?_eq_none→Ur,mem_filter→Q6,getElem?_cons_succ→Q7,cons→Q9,getElem?_set_self→Qa,map_drop→Qf,getElem?_set→Qg,range'_succ→Qi,getD→Qt
open Bool renaming and_eq_true→J3,not_true→J6,and_self→Km,false_eq_true→Ls,not_eq_true'→Hl,true_and→Qu
open Nat renaming blt→J4,zero_add→J7,le_refl→Ji,zero_le→Kc,mul_le_mul_right→Ke,add_assoc→Lf,succ_mul→Lt,le_trans→H0,mul_one→Ht,ble→U6,add_zero→Uz,sub_zero→Qk
open Array renaming getElem?_setIfInBounds→J8,length_toList→Jy,getD_eq_getD_getElem?→K0,getElem?_toList→K5,getElem?_eq_some_iff→Hb,replicate→Gj
open Option renaming map_eq_some_iff→K1,getD_some→La,some→Hk,map_some→Gt,map_eq_none_iff→Gy
open Prod renaming mk→Uq
open Option renaming some→aB,none→aC
open Bool renaming true→aD,false→aE
namespace Go.Ab
open Go
abbrev Rw:=List (Nat×Nat×T)
def rwI(rw:Rw)(s:Nat):Option Nat:=(rw.find? fun x=>x.2.1==s).map (·.1)
def rwS(rw:Rw)(i:Nat):Option Nat:=(rw.find? fun x=>x.1==i).map (·.2.1)
theorem zBI:(rw:Rw)→(rw.map (·.2.1)).Nodup→ ∀{i s:Nat}{u:T},(i,s,u)∈rw→rwI rw s=aB i
 | [],_,_,_,_,h=>by simp at h
 |(i0,s0,u0)::rw,hn,i,s,u,h=>by
  simp only[Jg,Kf,Jd]at hn;rcases Jl.1 h with h|h
  ·simp at h;obtain⟨rfl,rfl,rfl⟩:=h;simp[rwI]
  ·have gf:s0≠s:=fun e=>hn.1 ⟨_,h,e.symm⟩
   have:=zBI rw hn.2 h;simp only[rwI]at this ⊢
   rw[U4 (by simpa using gf)];exact this
theorem zIt:(rw:Rw)→(rw.map (·.1)).Nodup→ ∀{i s:Nat}{u:T},(i,s,u)∈rw→rwS rw i=aB s
 | [],_,_,_,_,h=>by simp at h
 |(i0,s0,u0)::rw,hn,i,s,u,h=>by
  simp only[Jg,Kf,Jd]at hn;rcases Jl.1 h with h|h
  ·simp at h;obtain⟨rfl,rfl,rfl⟩:=h;simp[rwS]
  ·have gf:i0≠i:=fun e=>hn.1 ⟨_,h,e.symm⟩
   have:=zIt rw hn.2 h;simp only[rwS]at this ⊢
   rw[U4 (by simpa using gf)];exact this
theorem zIu{rw:Rw}{s:Nat}(h:s∉rw.map (·.2.1)):rwI rw s=aC:=by simp only[rwI,Gy,Ur];intro x hx;simp only[beq_iff_eq];exact fun e=>h (Jd.2 ⟨x,hx,e⟩)
theorem zNC{rw:Rw}{i:Nat}(h:∀x∈rw,x.1≠i):rwS rw i=aC:=by simp only[rwS,Gy,Ur];intro x hx;simpa using h x hx
theorem zKZ{rw:Rw}{s i:Nat}(h:rwI rw s=aB i):s∈rw.map (·.2.1):=by simp only[rwI,K1]at h;obtain⟨x,hx,_⟩:=h;have h1:=List.mem_of_find?_eq_some hx;have h2:=List.find?_some hx;exact Jd.2 ⟨x,h1,by simpa using h2⟩
abbrev Nd:=List (Nat×List Nat×T)
def zND(nd:Nd)(k s:Nat):Option (Nat×List Nat):=
 match nd with
 | []=>aC
 |x::r=>if x.1=s then aB (k,x.2.1)else zND r (k+1) s
def ndB(d:Nat)(nd:Nd)(s:Nat)(z:List Nat):Option (Nat×List Nat):=
 match nd with
 | [x]=>if x.1=s∧x.2.1<:+z then aB (d,z.take (z.length-x.2.1.length))else aC
 |nd=>match zND nd 0 s with
  |some (k,q)=>if q<:+z then aB (d,z.take (z.length-q.length)++[k])else aC
  |none=>aC
theorem zG8:(nd:Nd)→(nd.map (·.1)).Nodup→ ∀{k k0:Nat}{x:Nat×List Nat×T},nd[k]? =aB x→zND nd k0 x.1=aB (k0+k,x.2.1)
 | [],_,_,_,_,h=>by simp at h
 |y::nd,hn,k,k0,x,h=>by
  simp only[Jg,Kf,Jd]at hn;cases k with
  |zero=>simp at h;subst h;simp[zND]
  |succ k=>
   simp only[Q7]at h;have gf:y.1≠x.1:=fun e=>hn.1 ⟨x,Kx h,e.symm⟩
   simp only[zND,gf,if_false];rw[zG8 nd hn.2 h]
   congr 2;omega
def zNE(G:Gh)(nd:Nd)(z:List Nat):Value:=
 match nd with
 | [x]=>G.hd x.1 (z++x.2.1)
 |nd=>match z.getLast? with
  |some k=>(match nd[k]? with
   |some x=>G.hd x.1 (z.dropLast++x.2.1)
   |none=>.bool aE)
  |none=>.bool aE
def zQz(G:Gh)(nd:Nd)(z:List Nat):Addr:=
 match nd with
 | [x]=>G.ad x.1 (z++x.2.1)
 |nd=>match z.getLast? with
  |some k=>(match nd[k]? with
   |some x=>G.ad x.1 (z.dropLast++x.2.1)
   |none=>default)
  |none=>default
def Gh.arg(G:Gh)(a:Act)(xs:List Operand)(rw:Rw):Gh where
 hd i z:=match xs[i]? with
  |some (.tmp s)=>G.hd s z
  |some x=>qK (a.eval x)
  |none=>.bool aE
 ad i z:=match xs[i]? with
  |some (.tmp s)=>G.ad s z
  |_=>default
 lb b o:=match G.lb b o with
  |some (f,s,z)=>(match rwI rw s,G.ow b with
   |some i,aB (s',_)=>if s'=s then aB (f,i,z)else aC
   |_,_=>aC)
  |none=>aC
 ow b:=match G.ow b with
  |some (s,z)=>(match rwI rw s with
   |some i=>aB (i,z)
   |none=>aC)
  |none=>aC
def zA3(G:Gh)(rw:Rw)(b:Nat):Prop:=∃s z,G.ow b=aB (s,z)∧s∈rw.map (·.2.1)
def zC8(d:Nat)(rw:Rw)(nd:Nd)(s:Nat)(z:List Nat):Option (Nat×List Nat):=
 match rwS rw s with
 |some s'=>aB (s',z)
 |none=>ndB d nd s z
open Classical in
noncomputable def Gh.back (G G':Gh) (n0 d:Nat) (rw:Rw) (nd:Nd):Gh where
 hd s z:=if s=d then zNE G' nd z else match rwI rw s with
  |some i=>G'.hd i z
  |none=>G.hd s z
 ad s z:=if s=d then zQz G' nd z else match rwI rw s with
  |some i=>if z=[]then G.ad s z else G'.ad i z
  |none=>G.ad s z
 lb b o:=if zA3 G rw b∨n0≤b then(match G'.lb b o with
  |some (f,s,z)=>(match zC8 d rw nd s z with
   |some (s',z')=>aB (f,s',z')
   |none=>aC)
  |none=>aC)else G.lb b o
 ow b:=if zA3 G rw b∨n0≤b then(match G'.ow b with
  |some (s,z)=>zC8 d rw nd s z
  |none=>aC)else G.ow b
def zCx(res:List T):T:=match res with
 | [u]=>u
 |us=>.tup us
def cWr(d:Nat)(res:List T)(rw:Rw):Wr:=(d,aB (zCx res))::rw.map fun x=>(x.2.1,aB x.2.2)
def cLv(t:T):Nat:=if t.single then 1 else 0
def wV(d:Nat)(rw:Rw):Chg:=(d,0)::rw.map fun x=>(x.2.1,cLv x.2.2)
theorem zFs{d:Nat}{rw:Rw}{x:Nat×Nat×T}(h:x∈rw):(x.2.1,cLv x.2.2)∈wV d rw:=Ug _ (Jd.2 ⟨x,h,rfl⟩)
theorem zLa{Gn G':Gh}{d:Nat}:(nd:Nd)→ ∀(j:Nat),(∀k x,nd[k]? =aB x→ ∀z,Gn.hd d (z++[j+k])=G'.hd x.1 (z++x.2.1))→kD Gn d (nd.map (·.2.2)) [] j=nd.map fun x=>uW G' x.1 x.2.2 x.2.1
 | [],_,_=>by simp[kD]
 |x::nd,j,h=>by
  have ih:=zLa (Gn:=Gn) (G':=G') (d:=d) nd (j+1) (fun k y hy z=>by rw[show j+1+k=j+(k+1)from by omega];exact h (k+1) y (by simpa using hy) z)
  simp only[Jg,kD,ih];rw[zBf x.2.2 x.2.1 [j] (by simpa using h 0 x (by simp))]
theorem zNF{d:Nat}{res:List T}{rw:Rw}{s:Nat}{x:Option T}(h:(cWr d res rw).find s=aB x):(s=d∧x=aB (zCx res))∨(s≠d∧ ∃i u,(i,s,u)∈rw∧x=aB u):=by
 simp only[cWr,Wr.find]at h;split at h
 ·rename_i he;simp at h;exact .inl ⟨he.symm,h.symm⟩
 ·rename_i gf
  refine .inr ⟨fun e=>gf e.symm,?_⟩
  clear gf
  induction rw with
  |nil=>simp[Wr.find]at h
  |cons y rw ih=>
   simp only[Jg,Wr.find]at h;split at h
   ·rename_i he;simp at h;subst he;exact⟨y.1,y.2.2,by simp,h.symm⟩
   ·obtain⟨i,u,h1,h2⟩:=ih h;exact⟨i,u,by simp[h1],h2⟩
theorem zNG{d:Nat}{res:List T}{rw:Rw}{s:Nat}(h:(cWr d res rw).find s=aC):s≠d∧s∉rw.map (·.2.1):=by
 simp only[cWr,Wr.find]at h;split at h
 ·cases h
 ·rename_i gf
  refine⟨fun e=>gf e.symm,?_⟩
  clear gf
  induction rw with
  |nil=>simp
  |cons y rw ih=>
   simp only[Jg,Wr.find]at h;split at h
   ·cases h
   ·rename_i he
    simp only[Jg,Jl,not_or];exact⟨fun e=>he e.symm,ih h⟩
def aft(S Sc S':Stb):Stb:=fun b=>match Sc b with
 |none=>S' b
 |some _=>S b
theorem Rep.up{Γ:Ctx}{E:Env}{G:Gh}{tmps tmps':Array Value}{w w':World}{G':Gh}{wr:Wr}{chg:Chg}{S:Stb}(h:Rep Γ E G tmps w)(hS:∀b x,Γ.St b=aB x→S b=aB x)
  (gI:tmps'.size=tmps.size)(hk:kE chg G w G' w')(gw:Mem (Γ.at S) G' w')
  (gy:∀s,wr.find s=aC→(∀n,(s,n)∉chg)∧tmps'[s]? =tmps[s]?)
  (hH:∀s t,wr.find s=aB (aB t)→Ent (Γ.at S) G' w' tmps'[s]? s t):Rep (Γ.at S) (E.app wr chg) G' tmps' w' where
 size:=by rw[gI];exact h.size
 mem:=gw
 ent s t hs:=by
  unfold Env.app at hs;cases hf:wr.find s with
  |some x=>
   rw[hf]at hs;simp at hs;subst hs;exact hH s t hf
  |none=>
   rw[hf]at hs;simp at hs;cases he:E s with
   |none=>simp[he]at hs
   |some u=>
    simp[he]at hs;obtain⟨gE,rfl⟩:=hs;rw[(gy s hf).2];obtain⟨e1,e2,e3⟩:=Ent.keep hk (gy s hf).1 gE (h.ent s u he);exact⟨e1,zHu hS u [] e2,e3⟩
section
variable {P:Program}{Γ:Ctx}{E:Env}{d:Nat}
theorem zFt{G:Gh}{a:Act}{w:World}(ga:Rep Γ E G a.tmps w)(hd:d<Γ.N){Sc:Stb}{rw:Rw}(hS1:∀b x,Sc b=aB x→w.heap[b]? =aB x∧ ¬zA3 G rw b)(hS0:∀b x,Γ.St b=aB x→Sc b=aB x){f:FuncId}{us res:List T}
  (hc:FnC P f us res (rw.map fun x=>(x.1,x.2.2))){xs:List Operand}(gc:xs.length=us.length)
  (gg:∀(i:Nat) u,us[i]? =aB u→(∃x,xs[i]? =aB x∧a.eval x=mkV (G.arg a xs rw) i u []∧R Sc (G.arg a xs rw) w i u []))
  (hn1:(d::rw.map (·.2.1)).Nodup)(hn2:(rw.map (·.1)).Nodup)(ew:∀x∈rw,xs[x.1]? =aB (.tmp x.2.1))
  (gv:∀u∈res,zQ u∧u.okTup=aD∧ ∀(S':Stb)(G:Gh)(w:World)(s:Nat)(p:List Nat),(∀b x,Sc b=aB x→S' b=aB x)→R S' G w s u p→R (aft Γ.St Sc S') G w s u p)
  (mq:∀x∈rw,zQ x.2.2∧(∀(S':Stb)(G:Gh)(w:World)(s:Nat)(p:List Nat),(∀b x,Sc b=aB x→S' b=aB x)→R S' G w s x.2.2 p→R (aft Γ.St Sc S') G w s x.2.2 p)∧ ∃u,E x.2.1=aB u∧x.2.2.single=u.single∧us[x.1]? =aB u):
  Calls P f (xs.map a.eval).toArray w fun e w'=> ∃v,e=.returned v∧ ∃S G',zCw Γ.St S Γ.W Γ.w0.heap.size∧kE (wV d rw) G w G' w'∧Rep (Γ.at S) (E.app (cWr d res rw) (wV d rw)) G' (a.tmps.setIfInBounds d v) w':=by
 have hm:=ga.mem;have cE:=Kf.1 hn1;have hmc:Mem ⟨Sc,zA3 G rw,w,0⟩ (G.arg a xs rw) w:=by
  have gG:∀b,zA3 G rw b→Sc b=aC:=fun b h=>by
   cases hs:Sc b with
   |none=>rfl
   |some x=>exact absurd h (hS1 b x hs).2
  refine⟨fun i z=>?_,fun b o l hl=>?_,fun b l hl=>?_,fun b x hx=>(hS1 b x hx).1,fun b _ _=>rfl,Ji _,⟨fun b cs e h=>⟨cs,h,rfl⟩,rfl,rfl⟩⟩
  ·simp only[Gh.arg]
   split
   ·exact hm.one _ _
   ·exact zAP _
   ·rfl
  ·simp only[Gh.arg]at hl
   split at hl
   ·rename_i f' s z hg
    split at hl
    ·rename_i i s' y hi ho
     split at hl
     ·rename_i he;subst he
      have hL:zA3 G rw b:=⟨s',y,ho,zKZ hi⟩;exact⟨(hm.lb b o _ hg).1,.inr hL,gG b hL⟩
     ·cases hl
    ·cases hl
   ·cases hl
  ·simp only[Gh.arg]at hl
   split at hl
   ·rename_i s z hg
    split at hl
    ·rename_i i hi
     have hL:zA3 G rw b:=⟨s,z,hg,zKZ hi⟩;exact⟨(hm.ow b _ hg).1,.inr hL,gG b hL⟩
    ·cases hl
   ·cases hl
 have gm:=hc Sc (zA3 G rw) w (G.arg a xs rw) (xs.map a.eval).toArray (by simp[gc]) (fun i u hu=>by obtain⟨x,h1,h2,h3⟩:=gg i u hu;exact⟨by simp[h1,h2],h3⟩) hmc
 refine gm.mono ?_
 rintro e w' ⟨S',G',nd,gR,rfl,gu,eV,fV,fU,mp⟩
 have eZ:∀b x,Γ.St b=aB x→aft Γ.St Sc S' b=aB x:=fun b x hx=>by simp only[aft,hS0 b x hx,hx]
 have mM:zCw Γ.St (aft Γ.St Sc S') Γ.W Γ.w0.heap.size:=⟨eZ,fun b hb ej=>by
  simp only[aft]at ej;split at ej
  ·rename_i hs
   rcases gR.nw b hs ej with h|⟨s,z,h,_⟩
   ·exact .inl (by have:=hm.sz;omega)
   ·exact(hm.ow b _ h).2.1
  ·exact absurd hb ej⟩
 refine⟨_,rfl,aft Γ.St Sc S',G.back G' w.heap.size d rw nd,mM,?_⟩;have pt:∀b,b<w.heap.size→ ¬zA3 G rw b→w'.heap[b]? =w.heap[b]?:=gu.fr;have gx:w.heap.size≤w'.heap.size:=gu.sz;have gD:Blk w w':=gu.bk.blk
 generalize hGn:G.back G' w.heap.size d rw nd=Gn
 have ghdd:∀z,Gn.hd d z=zNE G' nd z:=fun z=>by rw[←hGn];simp[Gh.back]
 have gadd:∀z,Gn.ad d z=zQz G' nd z:=fun z=>by rw[←hGn];simp[Gh.back]
 have ghd0:∀s z,s≠d→s∉rw.map (·.2.1)→Gn.hd s z=G.hd s z:=fun s z h1 h2=>by rw[←hGn];simp[Gh.back,h1,zIu h2]
 have gad0:∀s z,s≠d→s∉rw.map (·.2.1)→Gn.ad s z=G.ad s z:=fun s z h1 h2=>by rw[←hGn];simp[Gh.back,h1,zIu h2]
 have ek:∀i s u,(i,s,u)∈rw→s≠d:=fun i s u h e=>cE.1 (e▸Jd.2 ⟨_,h,rfl⟩)
 have ghdr:∀i s u z,(i,s,u)∈rw→Gn.hd s z=G'.hd i z:=fun i s u z h=>by rw[←hGn];simp[Gh.back,ek i s u h,zBI rw cE.2 h]
 have gadr:∀i s u z,(i,s,u)∈rw→z≠[]→Gn.ad s z=G'.ad i z:=fun i s u z h h0=>by rw[←hGn];simp[Gh.back,ek i s u h,zBI rw cE.2 h,h0]
 have gadr0:∀i s u,(i,s,u)∈rw→Gn.ad s []=G.ad s []:=fun i s u h=>by rw[←hGn];simp[Gh.back,ek i s u h,zBI rw cE.2 h]
 have glb0:∀b o l,¬zA3 G rw b→G.lb b o=aB l→Gn.lb b o=aB l:=fun b o l h1 h2=>by have:=(hm.lb b o _ h2).1;rw[←hGn];simp only[Gh.back];rw[if_neg (by rintro(h|h);exact h1 h;omega)];exact h2
 have gow0:∀b l,¬zA3 G rw b→G.ow b=aB l→Gn.ow b=aB l:=fun b l h1 h2=>by have:=(hm.ow b _ h2).1;rw[←hGn];simp only[Gh.back];rw[if_neg (by rintro(h|h);exact h1 h;omega)];exact h2
 have gF:∀b o l,G'.lb b o=aB l→zA3 G rw b∨w.heap.size≤b:=fun b o l h=>(gu.lb b o l h).2.1.symm
 have po:∀b l,G'.ow b=aB l→zA3 G rw b∨w.heap.size≤b:=fun b l h=>(gu.ow b l h).2.1.symm
 have glb1:∀b o fl s z s' z',G'.lb b o=aB (fl,s,z)→zC8 d rw nd s z=aB (s',z')→Gn.lb b o=aB (fl,s',z'):=fun b o fl s z s' z' h1 h2=>by rw[←hGn];simp only[Gh.back];rw[if_pos (gF b o _ h1),h1];simp[h2]
 have gow1:∀b s z l,G'.ow b=aB (s,z)→zC8 d rw nd s z=aB l→Gn.ow b=aB l:=fun b s z l h1 h2=>by rw[←hGn];simp only[Gh.back];rw[if_pos (po b _ h1),h1];simp[h2]
 have bw:∀i s u z,(i,s,u)∈rw→zC8 d rw nd i z=aB (s,z):=fun i s u z h=>by simp[zC8,zIt rw hn2 h]
 have gP:∀x∈rw,x.1<us.length:=fun x hx=>by have:=(Jc.1 (ew x hx)).1;omega
 have hbn:∀x∈nd,∀z,zC8 d rw nd x.1 z=ndB d nd x.1 z:=fun x hx z=>by have h1:=(fV x hx).2;have h2:rwS rw x.1=aC:=zNC (fun y hy e=>by have:=gP y hy;omega);simp[zC8,h2]
 have cU:∀(k:Nat) x,nd[k]? =aB x→ ∃tgt,(nd.length=1→tgt=[])∧(nd.length≠1→tgt=[k])∧(∀z,Gn.hd d (z++tgt)=G'.hd x.1 (z++x.2.1))∧(∀z,Gn.ad d (z++tgt)=G'.ad x.1 (z++x.2.1))∧ ∀z,zC8 d rw nd x.1 (z++x.2.1)=aB (d,z++tgt):=by
  intro k x hk;have pL:=Kx hk
  match nd,hk,fU,hbn x pL,ghdd,gadd with
  | [y],hk,fU,hb,ghdd,gadd=>
   have hkx:y=x:=by
    cases k with
    |zero=>simpa using hk
    |succ k=>simp at hk
   subst hkx;exact⟨[],fun _=>rfl,fun h=>absurd rfl h,fun z=>by rw[ghdd];simp[zNE],fun z=>by rw[gadd];simp[zQz],fun z=>by rw[hb];simp[ndB]⟩
  | [],hk,_,_,_,_=>simp at hk
  |y1::y2::r,hk,fU,hb,ghdd,gadd=>
   refine⟨[k],fun h=>by simp at h,fun _=>rfl,fun z=>by rw[ghdd];simp only[zNE,Uh,Ui];simp[hk],fun z=>by rw[gadd];simp only[zQz,Uh,Ui];simp[hk],fun z=>?_⟩;rw[hb];have:=zG8 (y1::y2::r) fU (k0:=0) hk;rw[J7]at this;simp only[ndB,this];simp
 have cv:∀(k:Nat) x,nd[k]? =aB x→ ∀tgt,(∀z,Gn.hd d (z++tgt)=G'.hd x.1 (z++x.2.1))→(∀z,Gn.ad d (z++tgt)=G'.ad x.1 (z++x.2.1))→(∀z,zC8 d rw nd x.1 (z++x.2.1)=aB (d,z++tgt))→R (aft Γ.St Sc S') Gn w' d x.2.2 tgt:=by intro k x hk tgt h1 h2 h3;have pL:=Kx hk;obtain⟨c1,c2,c3⟩:=gv x.2.2 (by rw[←eV];exact Jd.2 ⟨x,pL,rfl⟩);refine zAc (G:=G') (w:=w') (s:=x.1) (p:=x.2.1) ⟨⟨h1,fun z _=>h2 z,fun b o f' z _ _ hl=>⟨glb1 b o f' _ _ _ _ hl (h3 z),rfl⟩,fun b z _ hl=>gow1 b _ _ _ hl (h3 z),fun b cs e h=>⟨cs,h,rfl⟩⟩,fun b o _ hl=>⟨glb1 b o aD _ _ _ _ hl (by simpa using h3 []),rfl⟩,fun b hl=>gow1 b _ _ _ hl (by simpa using h3 [])⟩ _ (yF.mono (fun _ _=>False.elim) _ c1) (c3 _ _ _ _ _ gR.le (fV x pL).1)
 have gn:kE (wV d rw) G w Gn w':=by
  have gH:∀s,(∀n,(s,n)∉wV d rw)→s≠d∧s∉rw.map (·.2.1):=fun s h=>⟨fun e=>h 0 (by simp[wV,e]),fun hm=>by obtain⟨x,hx,rfl⟩:=Jd.1 hm;exact h _ (zFs hx)⟩
  have fC:∀b s y,G.ow b=aB (s,y)→s∉rw.map (·.2.1)→ ¬zA3 G rw b:=by
   rintro b s y h1 h2 ⟨s',z',h3,h4⟩
   rw[h1]at h3;simp at h3;exact h2 (h3.1▸h4)
  refine⟨fun s p h=>?_,fun s p h=>?_,fun b o fl s p gT h1 h2=>?_,fun b s p h1 h2=>?_,gD⟩
  ·have h1:s≠d:=fun e=>absurd (h 0 (by simp[wV,e])) (by simp)
   by_cases h2:s∈rw.map (·.2.1)
   ·
    obtain⟨x,hx,rfl⟩:=Jd.1 h2;have hc:=h _ (zFs hx);have c2:x.2.2.single=aD:=by
     cases eG:x.2.2.single with
     |true=>rfl
     |false=>simp[cLv,eG]at hc
    have h3:p=[]:=Jr (by simp only[cLv,c2,if_true]at hc;omega);subst h3;obtain⟨_,_,u,c4,c5,c6⟩:=mq x hx;rw[c2]at c5;have c5:=c5.symm;obtain⟨_,u0,e1,e2⟩:=mp x.1 x.2.2 (Jd.2 ⟨x,hx,rfl⟩);rw[c6]at e1;simp at e1;subst e1;rw[yR c2,yR c5]at e2;rw[ghdr x.1 x.2.1 x.2.2 [] hx,e2];simp[Gh.arg,ew x hx]
   ·exact ghd0 s p h1 h2
  ·have h1:s≠d:=fun e=>absurd (h 0 (by simp[wV,e])) (by simp)
   by_cases h2:s∈rw.map (·.2.1)
   ·obtain⟨x,hx,rfl⟩:=Jd.1 h2
    have hc:=h _ (zFs hx);have h3:p=[]:=Jr (by have:cLv x.2.2≤1:=(by unfold cLv;split<;>omega);omega);subst h3;exact gadr0 x.1 x.2.1 x.2.2 hx
   ·exact gad0 s p h1 h2
  ·obtain⟨h3,h4⟩:=gH s h2
   obtain⟨y,hy⟩:=gT;have h5:=fC b s y hy h4;exact⟨glb0 b o _ h5 h1,by simp[zV,World.cell?,pt b (hm.lb b o _ h1).1 h5]⟩
  ·obtain⟨h3,h4⟩:=gH s h2
   exact gow0 b _ (fC b s p h1 h4) h1
 have gw:Mem (Γ.at (aft Γ.St Sc S')) Gn w':=by
  have gE:∀b,b<w'.heap.size∧(w.heap.size≤b∨zA3 G rw b)∧S' b=aC→zBB (Γ.at (aft Γ.St Sc S')) w' b:=fun b ⟨hb,h,gO⟩=>by
   have hsc:Sc b=aC:=by
    cases hs:Sc b with
    |none=>rfl
    |some x=>rw[gR.le b x hs]at gO;cases gO
   refine⟨hb,?_,by simp only[aft,hsc];exact gO⟩;rcases h with h|⟨s,z,h1,_⟩
   ·exact .inl (by have:=hm.sz;show Γ.w0.heap.size≤b;omega)
   ·exact(hm.ow b _ h1).2.1
  have gy:∀b,¬(zA3 G rw b∨w.heap.size≤b)→zBB Γ w b→zBB (Γ.at (aft Γ.St Sc S')) w' b:=fun b h ⟨h1,h2,h3⟩=>by
   refine⟨by omega,h2,?_⟩;simp only[aft];split
   ·rename_i hs
    cases gO:S' b with
    |none=>rfl
    |some x=>
     rcases gR.nw b hs (by rw[gO];simp)with h4|h4
     ·exact absurd (.inr h4) h
     ·exact absurd (.inl h4) h
   ·exact h3
  refine⟨fun s z=>?_,fun b o l hl=>?_,fun b l hl=>?_,fun b x hx=>?_,fun b(h1:b<Γ.w0.heap.size) h2=>?_,H0 hm.sz gx,hm.bk.trans gD gu.bk.os gu.bk.out⟩
  ·by_cases h1:s=d
   ·subst h1
    rw[ghdd];unfold zNE;split
    ·exact gu.one _ _
    ·split
     ·split
      ·exact gu.one _ _
      ·rfl
     ·rfl
   ·by_cases h2:s∈rw.map (·.2.1)
    ·obtain⟨x,hx,rfl⟩:=Jd.1 h2
     rw[ghdr x.1 x.2.1 x.2.2 z hx];exact gu.one _ _
    ·rw[ghd0 s z h1 h2];exact hm.one _ _
  ·rw[←hGn]at hl
   simp only[Gh.back]at hl;split at hl
   ·rename_i ca
    split at hl
    ·rename_i hg
     exact gE b (gu.lb b o _ hg)
    ·cases hl
   ·rename_i ca
    exact gy b ca (hm.lb b o l hl)
  ·rw[←hGn]at hl
   simp only[Gh.back]at hl;split at hl
   ·rename_i ca
    split at hl
    ·rename_i hg
     exact gE b (gu.ow b _ hg)
    ·cases hl
   ·rename_i ca
    exact gy b ca (hm.ow b l hl)
  ·simp only[aft]at hx
   split at hx
   ·exact gu.st b x hx
   have h1:=hm.st b x hx;have h2:=(Hb.1 h1).1;have h3:¬zA3 G rw b:=by
    rintro⟨s,z,h4,_⟩
    rw[(hm.ow b _ h4).2.2]at hx;cases hx
   rw[pt b h2 h3];exact h1
  ·have h3:¬zA3 G rw b:=by
    rintro⟨s,z,h4,_⟩
    rcases(hm.ow b _ h4).2.1 with h5|h5
    ·omega
    ·exact h2 h5
   rw[pt b (by have:=hm.sz;omega) h3];exact hm.fr b h1 h2
 have tm:nd.length=res.length:=by rw[←eV];simp
 refine⟨gn,ga.up eZ (by simp) gn gw ?_ ?_⟩
 ·intro s hs
  obtain⟨h1,h2⟩:=zNG hs;refine⟨fun n hn=>?_,by rw[J8];simp[Ne.symm h1]⟩;simp only[wV,Jl,Uq.injEq,Jd]at hn;rcases hn with⟨e,_⟩|⟨x,hx,e,_⟩
  ·exact h1 e
  ·exact h2 (Jd.2 ⟨x,hx,e⟩)
 ·intro s t hs
  rcases zNF hs with⟨rfl,ht⟩|⟨gf,i,u,fb,ht⟩
  ·simp at ht
   subst ht;rw[J8];simp only[ga.size,hd,if_true];have ft:res=nd.map (·.2.2):=eV.symm
   by_cases hl:nd.length=1
   ·obtain⟨x,hx⟩:∃x,nd=[x]:=List.length_eq_one_iff.1 hl
    obtain⟨tgt,t1,_,t3,t4,t5⟩:=cU 0 x (by simp[hx]);obtain rfl:=t1 hl;have hr:=cv 0 x (by simp[hx]) [] t3 t4 t5;obtain⟨c1,c2,_⟩:=gv x.2.2 (by rw[ft,hx];simp);have eM:zCx res=x.2.2:=by rw[ft,hx];rfl
    have gU:∀ys,x.2.2≠.tup ys:=fun ys e=>by rw[e]at c2;simp[T.okTup]at c2
    rw[eM];refine⟨?_,hr,Top.of_clean _ c1⟩;rw[kF Gn s _ [] gU,zBf x.2.2 x.2.1 [] t3,hx];rfl
   ·have eM:zCx res=.tup res:=by
     rw[tm]at hl
     match res,hl with
     | [],_=>rfl
     | [u],hl=>simp at hl
     |_::_::_,_=>rfl
    rw[eM];have gB:∀k x,nd[k]? =aB x→ ∀z,Gn.hd s (z++[0+k])=G'.hd x.1 (z++x.2.1):=fun k x hk z=>by obtain⟨tgt,_,t2,t3,_,_⟩:=cU k x hk;rw[t2 hl]at t3;rw[J7];exact t3 z
    refine⟨?_,?_,?_⟩
    ·have hv:=zLa (Gn:=Gn) (G':=G') (d:=s) nd 0 gB
     rw[eV]at hv;simp only[mkV,hv];unfold zIp;split
     ·simp at hl
     ·rfl
    ·simp only[R]
     rw[ft];refine zKO _ [] 0 (fun k u hu=>?_);rw[Jm]at hu;cases hk:nd[k]? with
     |none=>simp[hk]at hu
     |some x=>
      simp[hk]at hu;subst hu;obtain⟨tgt,_,t2,t3,t4,t5⟩:=cU k x hk;rw[t2 hl]at t3 t4 t5;rw[J7];exact cv k x hk [k] t3 t4 t5
    ·simp only[Top]
     refine vE.of_clean _ ?_;have:∀us:List T,(∀u∈us,zQ u)→yI us:=by
      intro us
      induction us with
      |nil=>intro _;trivial
      |cons u us ih=>intro h;exact⟨h u (by simp),ih fun v hv=>h v (by simp[hv])⟩
     exact this res fun u hu=>(gv u hu).1
  ·simp at ht
   subst ht;obtain⟨c1,c3,u0,c4,_,c6⟩:=mq _ fb;obtain⟨r1,u1,e1,e2⟩:=mp i t (Jd.2 ⟨_,fb,rfl⟩);simp only at c4 c6;rw[c6]at e1;simp at e1;subst e1;refine⟨?_,?_,Top.of_clean _ c1⟩
   ·rw[J8]
    simp only[Ne.symm gf,if_false];have hxi:=ew _ fb;simp only at hxi;have m1:mkV Gn s t []=mkV G' i t []:=zDF t [] [] (fun z=>by rw[Jf];exact ghdr i s t z fb);have m2:mkV (G.arg a xs rw) i u0 []=mkV G s u0 []:=zDF u0 [] [] (fun z=>by simp[Gh.arg,hxi]);rw[(ga.ent s u0 c4).1,m1,e2,m2]
   ·refine zAc (G:=G') (w:=w') (s:=i) (p:=[]) ⟨⟨fun z=>by rw[Jf];exact ghdr i s t z fb,fun z hz=>by rw[Jf];exact gadr i s t z fb hz,fun b o f' z _ _ hl=>?_,fun b z _ hl=>?_,fun b cs e h=>⟨cs,h,rfl⟩⟩,fun b o _ hl=>⟨glb1 b o aD _ _ _ _ hl (bw i s t [] fb),rfl⟩,fun b hl=>gow1 b _ _ _ hl (bw i s t [] fb)⟩ t (yF.mono (fun _ _=>False.elim) _ c1) (c3 _ _ _ _ _ gR.le r1)
    ·rw[Jf]at hl ⊢;exact⟨glb1 b o f' _ _ _ _ hl (bw i s t z fb),rfl⟩
    ·rw[Jf]at hl ⊢;exact gow1 b _ _ _ hl (bw i s t z fb)
end
end Go.Ab

namespace Go.Ab
open Go
def zNH(E:Env)(rs:List Nat)(x:Operand)(t:T):Bool:=
 match x with
 |.tmp s=>tU E rs s t
 |_=>aD
def zB1(E:Env)(rw:Rw)(i:Nat)(x:Operand)(u:T):Prop:=
 (∃s u',x=.tmp s∧(i,s,u')∈rw∧E s=aB u∧zQ u∧u.okTup=aD∧wW u=aD)∨(∃t,opT E x=aB t∧clo E t=u∧zNH E (rw.map (·.2.1)) x t=aD)
def wB(E:Env)(rw:Rw):Nat→List Operand→List T→Prop
 |_,[],[]=>True
 |i,x::xs,u::us=>zB1 E rw i x u∧wB E rw (i+1) xs us
 |_,_,_=>False
theorem wB.length{E:Env}{rw:Rw}:(xs:List Operand)→(us:List T)→ ∀i,wB E rw i xs us→xs.length=us.length
 | [],[],_,_=>rfl
 |_::xs,_::us,i,h=>by simp[wB.length xs us (i+1) h.2]
 | [],_::_,_,h=>by simp[wB]at h
 |_::_,[],_,h=>by simp[wB]at h
theorem wB.get{E:Env}{rw:Rw}:(xs:List Operand)→(us:List T)→ ∀i,wB E rw i xs us→ ∀(j:Nat) u,us[j]? =aB u→ ∃x,xs[j]? =aB x∧zB1 E rw (i+j) x u
 | [],[],_,_,_,_,h=>by simp at h
 |x::xs,v::us,i,h,j,u,hj=>by
  cases j with
  |zero=>simp at hj;subst hj;exact⟨x,by simp,h.1⟩
  |succ j=>
   obtain⟨y,h1,h2⟩:=wB.get xs us (i+1) h.2 j u (by simpa using hj);exact⟨y,by simpa using h1,by rwa [show i+(j+1)=i+1+j from by omega]⟩
 | [],_::_,_,h,_,_,_=>by simp[wB]at h
 |_::_,[],_,h,_,_,_=>by grind
structure zIv (E:Env) (d:Nat) (xs:List Operand) (us:List T) (rw:Rw):Prop where
 nodup:(d::rw.map (·.2.1)).Nodup
 nodup2:(rw.map (·.1)).Nodup
 at_:∀x∈rw,xs[x.1]? =aB (.tmp x.2.1)
 tree:∀x∈rw,zQ x.2.2∧wW x.2.2=aD∧ ∃u,E x.2.1=aB u∧x.2.2.single=u.single∧us[x.1]? =aB u
theorem zIv.nil{E:Env}{d:Nat}{xs:List Operand}{us:List T}:zIv E d xs us []:=⟨by simp,by simp,by simp,by simp⟩
theorem zIv.one{E:Env}{d i s:Nat}{u u':T}{xs:List Operand}{us:List T}(h1:d≠s)(h2:xs[i]? =aB (.tmp s))(h3:zQ u')(h4:u'.single=aD)(h5:wW u'=aD)(h6:E s=aB u)(h7:u.single=aD)(h8:us[i]? =aB u):
  zIv E d xs us [(i,s,u')]:=⟨by grind,by simp,by grind,by grind⟩
section
variable {P:Program}{Γ:Ctx}{E:Env}{o:Oper}{d:Nat}
theorem zQ0{G:Gh}{a:Act}{w:World}(ga:Rep Γ E G a.tmps w){rw:Rw}{xs:List Operand}{us:List T}(hr:zIv E d xs us rw){Sc:Stb}(gY:∀b x,Γ.St b=aB x→Sc b=aB x)
  (gZ:∀r,r∉rw.map (·.2.1)→ ∀b,(∃y,G.ow b=aB (r,y))→Sc b=w.heap[b]?){i:Nat}{x:Operand}{u:T}(hx:xs[i]? =aB x)(hu:us[i]? =aB u)(h:zB1 E rw i x u):
  a.eval x=mkV (G.arg a xs rw) i u []∧R Sc (G.arg a xs rw) w i u []:=by
 rcases h with⟨s,u',rfl,h1,h2,h3,h4,h5⟩|⟨t,h1,rfl,h3⟩
 ·obtain⟨e1,e2,_⟩:=ga.ent s u h2
  have gB:∀z,(G.arg a xs rw).hd i z=G.hd s z:=by grind[Gh.arg]
  have eI:∀z,(G.arg a xs rw).ad i z=G.ad s z:=by grind[Gh.arg]
  have hi:=zBI rw (Kf.1 hr.nodup).2 h1;refine⟨by grind[xD,zDF],?_⟩;refine zMp u [] h5 (zAc (St:=Γ.St) (G:=G) (w:=w) (s:=s) (p:=[]) ⟨⟨by grind,by grind,fun b o' f' z _ gT hl=>?_,fun b z _ hl=>?_,fun b cs e h=>⟨cs,h,rfl⟩⟩,fun b o' gT hl=>?_,fun b hl=>?_⟩ u (by grind[yF.mono]) e2)
  ·obtain⟨y,hy⟩:=gT
   exact⟨by grind[Gh.arg],rfl⟩
  ·grind[Gh.arg]
  ·obtain⟨y,hy⟩:=gT
   exact⟨by grind[Gh.arg],rfl⟩
  grind[Gh.arg]
 ·cases x with
  |tmp s=>
   have gB:∀z,(G.arg a xs rw).hd i z=G.hd s z:=by grind[Gh.arg]
   obtain⟨e1,e2,_⟩:=ga.ent s t h1
   grind[zNH,xD,zHv,zSx]
  |const v=>
   simp only[opT]at h1;split at h1
   ·rename_i gk
    simp at h1;subst h1;have gB:(G.arg a xs rw).hd i []=v:=by grind[Gh.arg,Act.eval,zAd]
    exact⟨by grind[clo,mkV,Act.eval],by simp[clo,R,gB]⟩
   ·cases h1
  |func f=>
   simp only[opT]at h1;simp at h1;subst h1;have gB:(G.arg a xs rw).hd i []=.func (.func f) #[] #[]:=by grind[Gh.arg,Act.eval,qK,Value.oneCell']
   exact⟨by grind[clo,mkV,Act.eval],by simp[clo,R,gB]⟩
  |global g=>grind[opT]
theorem zCi{E:Env}:(t:T)→t.flat=aD→(∀rs s,tU E rs s t=aD)∧clo E t=t
 |.lit _,_|.ro _,_=>by simp[tU,clo]
 |.agg ts,h=>by
  simp only[T.flat]at h;have:=go ts h
  grind[tU,clo]
 |.any,h|.same _ _,h|.addr _ _,h|.sub _ _ _ _ _,h|.sl _ _,h|.ptr _,h|.tup _,h=>by grind[T.flat]
where go:(ts:List T)→kZ ts=aD→(∀rs s,zAs E rs s ts=aD)∧zBi E ts=ts
 | [],_=>by simp[zAs,zBi]
 |x::xs,h=>by simp only[kZ,J3]at h;simp only[zAs,zBi,J3];exact⟨fun rs s=>⟨(zCi x h.1).1 rs s,(go xs h.2).1 rs s⟩,by rw[(zCi x h.1).2,(go xs h.2).2]⟩
theorem zDp{a:Act}{w:World}{K:Act→World→Prop}{Q:Exit→Act→World→Prop}{f:FuncId}{xf:Operand}{xs:List Operand}{ats:Array TypeId}(ho:o.op=.call { callee:=.value xf,args:=xs.toArray,argTypes:=ats })(gb:o.dst=aB d)
  (gm:∀args w,(callFunc f args).run P w=.ok (.enter f args) w)(hf:a.eval xf=.func (.func f) #[] #[])
  (h:Calls P f (xs.map a.eval).toArray w fun e w'=> ∃v,e=.returned v∧K (a.put (aB d) v) w'):o.wp P a w K Q:=by
 have gp:(execOp a.eval o).run P w=.ok (.enter f (xs.map a.eval).toArray) w:=by simp[execOp,ho,resolve,hf,Deferred.ofValue,invoke,gm]
 unfold Oper.wp;rw[gp,Oper.upon_enter];refine h.mono ?_
 grind
theorem zIw{G:Gh}{a:Act}{w:World}(ga:Rep Γ E G a.tmps w)(hd:d<Γ.N)(f:FuncId)(xs:List Operand)(us res:List T)(rw:Rw)
  (hc:FnC P f us res (rw.map fun x=>(x.1,x.2.2)))(gg:wB E rw 0 xs us)(hr:zIv E d xs us rw)(gv:yI res∧zW res=aD∧vB res=aD):
  Calls P f (xs.map a.eval).toArray w fun e w'=> ∃v,e=.returned v∧ ∃S G',zCw Γ.St S Γ.W Γ.w0.heap.size∧kE (wV d rw) G w G' w'∧Rep (Γ.at S) (E.app (cWr d res rw) (wV d rw)) G' (a.tmps.setIfInBounds d v) w':=by
 classical
 have hm:=ga.mem
 let Sc:Stb:=fun b=>if zA3 G rw b then aC else w.heap[b]?
 have gY:∀b x,Γ.St b=aB x→Sc b=aB x:=fun b x hx=>by
  have h3:¬zA3 G rw b:=by
   rintro⟨s,z,h4,_⟩
   rw[(hm.ow b _ h4).2.2]at hx;cases hx
  simp only[Sc,h3,if_false];exact hm.st b x hx
 have gZ:∀r,r∉rw.map (·.2.1)→ ∀b,(∃y,G.ow b=aB (r,y))→Sc b=w.heap[b]?:=fun r hr' b ⟨y,hy⟩=>by
  have h3:¬zA3 G rw b:=by
   rintro⟨s,z,h4,h5⟩
   grind
  grind
 have fX:∀(us:List T),yI us∧zW us=aD∧vB us=aD→ ∀u∈us,zQ u∧u.okTup=aD∧wW u=aD:=by
  intro us
  induction us with
  |nil=>simp
  |cons v us ih=>
   intro⟨h1,h2,h3⟩ u hu;simp only[zW,vB,J3]at h2 h3;rcases Jl.1 hu with rfl|hu
   ·exact⟨h1.1,h2.1,h3.1⟩
   ·exact ih ⟨h1.2,h2.2,h3.2⟩ u hu
 exact zFt ga hd (Sc:=Sc) (rw:=rw) (by grind) gY hc (wB.length xs us 0 gg) (fun i u hu=>by
   obtain⟨x,h1,h2⟩:=wB.get xs us 0 gg i u hu;rw[J7]at h2
   grind[zQ0]) hr.nodup hr.nodup2 hr.at_
  (by grind[zMp])
  (fun x hx=>by
   obtain⟨h1,h3,h4⟩:=hr.tree x hx
   grind[zMp])
theorem zLb(f:FuncId)(xf:Operand)(xs:List Operand)(ats:Array TypeId)(us res:List T)(rw:Rw)(ho:o.op=.call { callee:=.value xf,args:=xs.toArray,argTypes:=ats })(gb:o.dst=aB d)(hd:d<Γ.N)
  (gm:∀args w,(callFunc f args).run P w=.ok (.enter f args) w)(hf:opT E xf=aB (.lit (.func (.func f) #[] #[])))
  (hc:FnC P f us res (rw.map fun x=>(x.1,x.2.2)))(gg:wB E rw 0 xs us)(hr:zIv E d xs us rw)(gv:yI res∧zW res=aD∧vB res=aD):
  xF P Γ o E (E.app (cWr d res rw) (wV d rw)):=by
 intro a w K Q ⟨ed,G,ga⟩ hK;refine zDp ho gb gm (yL ga hf).1 ?_;refine(zIw ga hd f xs us res rw hc gg hr gv).mono ?_
 rintro e w' ⟨v,rfl,S,G',hS,_,gj⟩
 exact⟨v,rfl,hK _ _ ⟨S,hS,ed,G',gj⟩⟩
theorem zIx(f:FuncId)(xf:Operand)(xs:List Operand)(ats:Array TypeId)(us res:List T)(i ds r:Nat)(q:List Nat)(tr u u':T)(ho:o.op=.call { callee:=.value xf,args:=xs.toArray,argTypes:=ats })(gb:o.dst=aB d)(hd:d<Γ.N)
  (gm:∀args w,(callFunc f args).run P w=.ok (.enter f args) w)(hf:opT E xf=aB (.lit (.func (.func f) #[] #[])))
  (hs:E ds=aB (.same r q))(hr:E r=aB tr)(hq:tr.get q.reverse=aB u)(hu:u.single=aD)(ex:zQ u)(gS:ds≠r)(hdr2:d≠r)(gE:tr.okB [(ds,1),(r,q.length+1)]=aD)(eG:wC tr=aD)
  (E1 E2:Env)(pF:E1=E.app [(ds,aB u),(r,aB (if q=[]then .same ds []else tr.set q.reverse .any))] [(ds,1),(r,q.length+1)])(hE2:E2=E1.app (cWr d res [(i,ds,u')]) (wV d [(i,ds,u')]))
  (hc:FnC P f us res [(i,u')])(gg:wB E1 [(i,ds,u')] 0 xs us)(fb:zIv E1 d xs us [(i,ds,u')])(gv:yI res∧zW res=aD∧vB res=aD)
  (tr2 v0:T)(gz:E2 r=aB tr2)(hq2:tr2.get q.reverse=aB v0)(mh:v0.single=aD)(cY:E2 ds=aB u')(eo:zQ u')(fR:u'.single=aD)(fT:tr2.okB [(r,q.length+1),(ds,1)]=aD)(hc3:wC tr2=aD)(hok3:u'.okB [(r,q.length+1),(ds,1)]=aD)(hc4:wC u'=aD):
  xF P Γ o E (E2.app [(r,aB (tr2.set q.reverse u')),(ds,aB (.same r q))] [(r,q.length+1),(ds,1)]):=by
 have pi:cLv u'=1:=by grind[cLv]
 intro a w K Q ⟨ed,G,ga⟩ hK;refine zDp ho gb gm (yL ga hf).1 ?_;have gW:G.hd ds []=G.hd r q:=by have:=(ga.ent ds _ hs).2.1;simpa only[R]using this
 obtain⟨eU,tz⟩:=zFk ga ds [] r q (.same r q) tr u (.same r q) hs rfl rfl gW hr hq hu ex gS (by grind[T.okB,zC5]) (by omega) rfl eG;have aA:E.app [(ds,aB ((T.same r q).set [].reverse u)),(r,aB (if q=[]then .same ds []else tr.set q.reverse .any))] [(ds,([]:List Nat).length+1),(r,q.length+1)]=E1:=by rw[pF];rfl
 rw[aA]at eU;refine(zIw eU hd f xs us res [(i,ds,u')] hc gg fb gv).mono ?_
 rintro e w' ⟨v,rfl,S,G',hS,hk,gj⟩
 rw[←hE2]at gj;have hdds:d≠ds:=by have:=fb.nodup;grind
 have h1:G'.hd r q=(G.tr ds [] r q).hd r q:=hk.hd r q (fun n hn=>by grind[wV]);have h2:G'.hd ds []=(G.tr ds [] r q).hd ds []:=hk.hd ds [] (fun n hn=>by grind[wV]);have eL:G'.hd r q=G'.hd ds []:=by grind
 obtain⟨eT,_⟩:=zFk gj r q ds [] tr2 u' u' v0 gz hq2 mh eL cY rfl fR eo (Ne.symm gS) (by omega) (by omega) hc3 hc4;refine⟨v,rfl,hK _ _ ⟨S,hS,ed,G'.tr r q ds [],?_⟩⟩;have hw:(if([]:List Nat)=[]then T.same r q else u'.set ([]:List Nat).reverse .any)=T.same r q:=if_pos rfl;rw[hw]at eT;exact eT
theorem zNI(f:FuncId)(xf:Operand)(xs:List Operand)(ats:Array TypeId)(us res:List T)(ho:o.op=.call { callee:=.value xf,args:=xs.toArray,argTypes:=ats })(gb:o.dst=aB d)(hd:d<Γ.N)
  (gm:∀args w,(callFunc f args).run P w=.ok (.enter f args) w)(hf:opT E xf=aB (.lit (.func (.func f) #[] #[])))
  (hc:FnC P f us res [])(gc:xs.length=us.length)(gg:∀(i:Nat) u,us[i]? =aB u→ ∃x,xs[i]? =aB x∧opT E x=aB u∧u.flat=aD)(gv:yI res∧zW res=aD):
  xF P Γ o E (E.app (cWr d res []) (wV d [])):=by
 intro a w K Q ⟨ed,G,ga⟩ hK;have hm:=ga.mem;refine zDp ho gb gm (yL ga hf).1 ?_;have fC:∀b,¬zA3 G [] b:=by rintro b ⟨s,z,_,h⟩;simp at h
 have fX:∀(us:List T),yI us∧zW us=aD→ ∀u∈us,zQ u∧u.okTup=aD:=by
  intro us
  induction us with
  |nil=>simp
  |cons v us ih=>
   intro⟨h1,h2⟩ u hu;simp only[zW,J3]at h2;rcases Jl.1 hu with rfl|hu
   ·exact⟨h1.1,h2.1⟩
   ·exact ih ⟨h1.2,h2.2⟩ u hu
 have:=zFt ga hd (Sc:=Γ.St) (rw:=[]) (fun b x hx=>⟨hm.st b x hx,fC b⟩) (fun _ _ h=>h) hc gc (fun i u hu=>by
   obtain⟨x,h1,h2,h3⟩:=gg i u hu;refine⟨x,h1,?_⟩;have ae:=zCi (E:=E) u h3;cases x with
   |tmp s=>
    have gB:∀z,(G.arg a xs []).hd i z=G.hd s z:=by grind[Gh.arg]
    obtain⟨e1,e2,_⟩:=ga.ent s u h2;refine⟨?_,by grind[zHq]⟩;have:=zHv (E:=E) gB u (ae.1 [] s)
    grind[xD]
   |const v=>
    simp only[opT]at h2;split at h2
    ·rename_i gk
     simp at h2;subst h2;have gB:(G.arg a xs []).hd i []=v:=by grind[Gh.arg,Act.eval,zAd]
     exact⟨by grind[mkV,Act.eval],by simp[R,gB]⟩
    ·cases h2
   |func f=>
    simp only[opT]at h2;simp at h2;subst h2;have gB:(G.arg a xs []).hd i []=.func (.func f) #[] #[]:=by grind[Gh.arg,Act.eval,qK,Value.oneCell']
    exact⟨by grind[mkV,Act.eval],by simp[R,gB]⟩
   |global g=>grind[opT]) (by simp) (by simp) (by simp)
  (fun u hu=>⟨by grind,by grind,fun S' G w s p hS h=>by
   have:aft Γ.St Γ.St S'=S':=funext (by grind[aft])
   grind⟩) (by simp)
 refine this.mono ?_
 rintro e w' ⟨v,rfl,S,G',hS,_,gj⟩
 exact⟨v,rfl,hK _ _ ⟨S,hS,ed,G',gj⟩⟩
end
end Go.Ab

namespace Go.Ab
open Go
def uC:List (Nat×T)→Env
 | [],_=>aC
 |(k,t)::l,s=>if k=s then aB t else uC l s
def Env.Has(E:Env):List (Nat×T)→Prop
 | []=>True
 |(s,t)::l=>E s=aB t∧E.Has l
theorem Env.Has.le{E:Env}:{l:List (Nat×T)}→E.Has l→ ∀s t,uC l s=aB t→E s=aB t
 | [],_,s,t,h=>by grind[uC]
 |(k,u)::l,hh,s,t,h=>by
  simp only[uC]at h;split at h
  ·rename_i e
   subst e;rw[hh.1];exact h
  ·exact hh.2.le s t h
theorem Sim.weaken{Γ:Ctx}{E E':Env}{a:Act}{w:World}(h:Sim Γ E a w)(fN:∀s t,E' s=aB t→E s=aB t):Sim Γ E' a w:=by obtain⟨h1,G,h2⟩:=h;exact⟨h1,G,⟨h2.size,fun s t hs=>h2.ent s t (fN s t hs),h2.mem⟩⟩
theorem qI.weaken{Γ:Ctx}{E E':Env}{a:Act}{w:World}(h:qI Γ E a w)(fN:∀s t,E' s=aB t→E s=aB t):qI Γ E' a w:=by obtain⟨S,h1,h2⟩:=h;exact⟨S,h1,h2.weaken fN⟩
abbrev sT:=List (Nat×Value)
def sT.Hold(pn:sT)(a:Act):Prop:=∀x∈pn,a.tmps[x.1]? =aB x.2
def sT.ok(pn:sT)(d:Option Nat):Bool:=match d with
 |none=>aD
 |some d=>pn.all fun x=>x.1 != d
theorem Oper.wp_frame{P:Program}{o:Oper}{a:Act}{w:World}{K:Act→World→Prop}{Q:Exit→Act→World→Prop}(h:o.wp P a w K Q):
  o.wp P a w (fun a' w'=>K a' w'∧ ∀s,o.dst≠aB s→a'.tmps[s]? =a.tmps[s]?) Q:=by
 have key:∀(v:Value)(ds:List Deferred),∀s,o.dst≠aB s→(({ a with defers:=ds }:Act).put o.dst v).tmps[s]? =a.tmps[s]?:=by
  intro v ds s hs;cases hd:o.dst with
  |none=>rfl
  |some d=>
   grind[Act.put]
 have key0:∀(v:Value),∀s,o.dst≠aB s→(a.put o.dst v).tmps[s]? =a.tmps[s]?:=fun v=>key v a.defers
 unfold Oper.wp at*
 generalize (execOp a.eval o).run P w=r at*
 cases r with
 |ok n w'=>
  cases n<;>simp only[Oper.upon]at h ⊢
  all_goals grind
 |halt x w'=>cases x<;>simp only[Oper.upon]at h ⊢ <;>exact h
theorem sT.Hold.frame{pn:sT}{a a':Act}{d:Option Nat}(h:pn.Hold a)(gE:pn.ok d=aD)(hf:∀s,d≠aB s→a'.tmps[s]? =a.tmps[s]?):pn.Hold a':=by
 intro x hx;rw[hf x.1 ?_]
 ·exact h x hx
 ·rintro rfl
  have:=Jt.1 gE x hx
  grind
section
variable (P:Program) (Γ:Ctx) (pn:sT)
def CW(c:Code)(E:Env)(Q:Exit→Env→Prop):Prop:=
 ∀(a:Act)(w:World)(Q':Exit→Act→World→Prop),qI Γ E a w→pn.Hold a→(∀e E' a' w',Q e E'→qI Γ E' a' w'→pn.Hold a'→Q' e a' w')→c.wp P Q' a w
def yY(ops:Array Oper)(o:Oper)(E E':Env):Prop:=
 ∀(a:Act)(w:World)(K:Act→World→Prop)(Q:Exit→Act→World→Prop),qI Γ E a w→(∀a' w',qI Γ E' a' w'→(∀s,o.dst≠aB s→a'.tmps[s]? =a.tmps[s]?)→K a' w')→
  if Region.wanted o (yielded ops a.tmps)then o.wp P a w K Q∨(o.asks P a w∧LetsOut Q)else K (a.put o.dst undef) w
def wpL(ops:Array Oper)(Q:Exit→Act→World→Prop):List Oper→Act→World→Prop
 | [],a,w=>Q .normal a w
 |o::os,a,w=>if Region.wanted o (yielded ops a.tmps)then o.wp P a w (wpL ops Q os) Q∨(o.asks P a w∧LetsOut Q)else wpL ops Q os (a.put o.dst undef) w
def RW(ops:Array Oper)(os:List Oper)(E:Env)(Q:Exit→Env→Prop):Prop:=
 ∀(a:Act)(w:World)(Q':Exit→Act→World→Prop),qI Γ E a w→pn.Hold a→(∀e E' a' w',Q e E'→qI Γ E' a' w'→pn.Hold a'→Q' e a' w')→wpL P ops Q' os a w
end
section
variable {P:Program}{Γ:Ctx}{pn:sT}{E E':Env}{Q Q1:Exit→Env→Prop}{c c1 c2:Code}{ops:Array Oper}{o:Oper}{os:List Oper}{d:Nat}
theorem zHw{Q':Exit→Act→World→Prop}:∀(os:List Oper)(n:Nat)(a:Act)(w:World),ops.toList.drop n=os→wpL P ops Q' os a w→wpOps P ops Q' (Gw n os.length) a w
 | [],n,a,w,_,h=>by simpa[wpOps,wpL]using h
 |o::os,n,a,w,hd,h=>by
  have ho:ops[n]? =aB o:=by
   have:=congrArg (·[0]?) hd
   grind
  have cG:ops.toList.drop (n+1)=os:=by
   have:=congrArg List.tail hd
   grind[List.tail_drop]
  simp only[Jw,Qi,wpOps,ho];simp only[wpL]at h;split
  ·rename_i hw
   simp only[hw,if_true]at h;exact h.imp (Oper.wp_mono fun a w=>zHw os (n+1) a w cG) id
  ·rename_i hw
   simp only[hw]at h;exact zHw os (n+1) _ w cG h
theorem CW.region{id:Nat}(h:RW P Γ pn ops ops.toList E Q):CW P Γ pn (.region id ops aE) E Q:=by
 intro a w Q' hs hp hQ;refine wp_region ?_;have:=zHw (P:=P) ops.toList 0 a w (by simp) (h a w Q' hs hp hQ)
 grind[List.range_eq_range']
theorem RW.nil(h:Q .normal E):RW P Γ pn ops [] E Q:=fun a w Q' hs hp hQ=>by
 simp only[wpL]
 grind
theorem RW.cons(h1:yY P Γ ops o E E')(h3:RW P Γ pn ops os E' Q)(h2:pn.ok o.dst=aD:=by rfl):RW P Γ pn ops (o::os) E Q:=by
 intro a w Q' hs hp hQ;simp only[wpL];have:=h1 a w (wpL P ops Q' os) Q' hs fun a' w' gO hf=>h3 a' w' Q' gO (hp.frame h2 hf) hQ
 exact this
theorem yY.op(h:∀S,xF P (Γ.at S) o E E')(hg:o.guard=aC:=by rfl):yY P Γ ops o E E':=by
 intro a w K Q hs hK;have hw:Region.wanted o (yielded ops a.tmps)=aD:=by simp[Region.wanted,hg]
 rw[if_pos hw];refine .inl ?_;obtain⟨S,hS,hs⟩:=hs;have:=Oper.wp_frame (h S a w (fun a' w'=>qI Γ E' a' w') Q hs fun a' w' h=>h.up hS)
 grind[Oper.wp_mono]
theorem zFu{a:Act}{w:World}(hs:qI Γ E a w){g s:Nat}{b:Bool}(gN:(ops[g]?).bind (·.dst)=aB s)(h:E s=aB (.lit (.bool b))):yielded ops a.tmps g=aB b:=by
 obtain⟨_,_,_,G,hr⟩:=hs;obtain⟨h1,h2,_⟩:=hr.ent s _ h;simp only[R]at h2
 grind[yielded,mkV]
theorem yY.guard(g:Nat)(b:Bool)(s:Nat)(h:∀S,xF P (Γ.at S) o E E')(hg:o.guard=aB (g,b):=by rfl)(gN:(ops[g]?).bind (·.dst)=aB s:=by rfl)(hb:E s=aB (.lit (.bool b)):=by rfl):yY P Γ ops o E E':=by
 intro a w K Q hs hK;have hw:Region.wanted o (yielded ops a.tmps)=aD:=by grind[Region.wanted,zFu]
 rw[if_pos hw];refine .inl ?_;obtain⟨S,hS,hs⟩:=hs;have:=Oper.wp_frame (h S a w (fun a' w'=>qI Γ E' a' w') Q hs fun a' w' h=>h.up hS)
 grind[Oper.wp_mono]
def zO(Γ:Ctx)(E E':Env):Prop:=∀(a:Act)(w:World),qI Γ E a w→qI Γ E' a w
theorem zO.refl:zO Γ E E:=fun _ _ h=>h
theorem zO.trans{E1 E2 E3:Env}(h:zO Γ E1 E2)(h':zO Γ E2 E3):zO Γ E1 E3:=fun a w hs=>h' a w (h a w hs)
theorem zO.has{l:List (Nat×T)}(h:E.Has l):zO Γ E (uC l):=fun _ _ hs=>hs.weaken h.le
theorem CW.ghost(h1:zO Γ E E')(h:CW P Γ pn c E' Q):CW P Γ pn c E Q:=fun a w Q' hs=>h a w Q' (h1 a w hs)
theorem RW.ghost(h1:zO Γ E E')(h:RW P Γ pn ops os E' Q):RW P Γ pn ops os E Q:=fun a w Q' hs=>h a w Q' (h1 a w hs)
theorem CW.to(l:List (Nat×T))(h1:E.Has l)(h:CW P Γ pn c (uC l) Q):CW P Γ pn c E Q:=h.ghost (.has h1)
theorem CW.mono(h:CW P Γ pn c E Q1)(hq:∀e E',Q1 e E'→Q e E'):CW P Γ pn c E Q:=fun a w Q' hs hp hQ=>h a w Q' hs hp (by grind)
theorem CW.skip(h:Q .normal E):CW P Γ pn .skip E Q:=fun _ _ _ hs hp hQ=>by grind[wp_skip]
theorem CW.ret(h:Q .ret E):CW P Γ pn .ret E Q:=fun _ _ _ hs hp hQ=>by grind[wp_ret]
theorem CW.exit{id:Nat}(h:Q (.exit id) E):CW P Γ pn (.exit id) E Q:=fun _ _ _ hs hp hQ=>by grind[wp_exit]
def yA(P:Program)(Γ:Ctx)(pn:sT)(c:Code)(Q:Exit→Env→Prop):Exit→Env→Prop
 |.normal,E=>CW P Γ pn c E Q
 |e,E=>Q e E
theorem CW.seq(h:CW P Γ pn c1 E (yA P Γ pn c2 Q)):CW P Γ pn (.seq c1 c2) E Q:=by
 intro a w Q' hs hp hQ;refine wp_seq (h a w _ hs hp fun e E' a' w' h1 gO fc=>?_);cases e with
 |normal=>exact h1 a' w' Q' gO fc hQ
 |_=>exact hQ _ _ _ _ h1 gO fc
theorem CW.cond{x:Operand}(b:Bool)(hb:opT E x=aB (.lit (.bool b)))(ht:b=aD→CW P Γ pn c1 E Q)(hf:b=aE→CW P Γ pn c2 E Q):CW P Γ pn (.cond x c1 c2) E Q:=by intro a w Q' hs hp hQ;obtain⟨_,_,_,G,hr⟩:=id hs;refine wp_cond_split (yL hr hb).1 (fun h=>ht h a w Q' hs hp hQ) (fun h=>hf h a w Q' hs hp hQ)
def yB(id:Nat)(Q:Exit→Env→Prop):Exit→Env→Prop
 |.exit id',E=>if id'=id then Q .normal E else Q (.exit id') E
 |e,E=>Q e E
theorem CW.block{id:Nat}(h:CW P Γ pn c E (yB id Q)):CW P Γ pn (.block id c) E Q:=by
 intro a w Q' hs hp hQ;refine wp_block (h a w _ hs hp fun e E' a' w' h1 gO fc=>?_);cases e with
 |exit id'=>
  simp only[yB]at h1;simp only[Exit.inBlock]
  grind
 |_=>exact hQ _ _ _ _ h1 gO fc
end
def yN{σ ρ:Type}(body:σ→Option (σ⊕ρ)):Nat→σ→Option ρ
 |0,_=>aC
 |n+1,s=>match body s with
  |none=>aC
  |some (.inl s')=>yN body n s'
  |some (.inr r)=>aB r
theorem zFv{σ ρ:Type}{body:σ→Option (σ⊕ρ)}{r:ρ}:∀{n m:Nat}{s:σ},yN body n s=aB r→n≤m→yN body m s=aB r
 |0,_,_,h,_=>by grind[yN]
 |n+1,0,_,_,hm=>by omega
 |n+1,m+1,s,h,hm=>by
  simp only[yN]at h ⊢
  cases hb:body s with
  |none=>grind
  |some x=>
   cases x with
   |inl s'=>simp only[hb]at h ⊢;exact zFv h (by omega)
   |inr r'=>grind
open Classical in
noncomputable def zC {σ ρ:Type} (body:σ→Option (σ⊕ρ)) (s:σ):Option ρ:=
 if h:∃(n:Nat)(r:ρ),yN body n s=aB r then aB h.choose_spec.choose else aC
theorem zBj{σ ρ:Type}{body:σ→Option (σ⊕ρ)}{s:σ}{r:ρ}:zC body s=aB r↔ ∃n,yN body n s=aB r:=by
 unfold zC;constructor
 ·intro h
  split at h
  all_goals grind
 ·rintro⟨n,hn⟩
  have he:∃(n:Nat)(r:ρ),yN body n s=aB r:=⟨n,r,hn⟩;rw[dif_pos he]
  grind[zFv]
theorem xG{σ ρ:Type}(body:σ→Option (σ⊕ρ))(s:σ):zC body s=match body s with
  |none=>aC
  |some (.inl s')=>zC body s'
  |some (.inr r)=>aB r:=by
 apply Option.ext;intro r;rw[zBj];cases hb:body s with
 |none=>
  simp only[reduceCtorEq,iff_false]
  rintro⟨n,hn⟩
  cases n<;>simp[yN,hb]at hn
 |some x=>
  cases x with
  |inl s'=>
   simp only[];rw[zBj];constructor
   ·rintro⟨n,hn⟩
    cases n with
    |zero=>grind[yN]
    |succ n=>grind[yN]
   ·rintro⟨n,hn⟩
    exact⟨n+1,by grind[yN]⟩
  |inr r'=>
   simp only[Hk.injEq];constructor
   ·rintro⟨n,hn⟩
    cases n with
    |zero=>grind[yN]
    |succ n=>grind[yN]
   ·rintro rfl
    exact⟨1,by simp[yN,hb]⟩
section
variable {P:Program}{Γ:Ctx}{pn:sT}{E:Env}{Q:Exit→Env→Prop}{c:Code}
def xE{σ ρ:Type}(Γ:Ctx)(en:σ→Env)(Q:ρ→Exit→Env→Prop)(x:σ⊕ρ):Exit→Env→Prop:=fun e E'=>
 match x with
 |.inl s'=>e=.normal∧zO Γ E' (en s')
 |.inr r=>e≠.normal∧Q r e E'
theorem zIy{p:Nat→Prop}(h:∃m,p m):∃m,p m∧ ∀k,k<m→ ¬p k:=by
 refine Classical.byContradiction fun hn=>?_
 have key:∀n,∀k,k<n→ ¬p k:=by
  intro n
  induction n with
  |zero=>simp
  |succ n ih=>
   grind
 grind
theorem CW.loop{σ ρ:Type}(body:σ→Option (σ⊕ρ))(en:σ→Env)(Q:ρ→Exit→Env→Prop)(h:∀s x,body s=aB x→CW P Γ pn c (en s) (xE Γ en Q x)){s:σ}{r:ρ}(hr:zC body s=aB r):
  CW P Γ pn (.loop c) (en s) (Q r):=by
 classical
 intro a w Q' hs hp hQ
 let p:Act→World→Nat→Prop:=fun a w m=> ∃s,yN body m s=aB r∧qI Γ (en s) a w∧pn.Hold a
 let μ:Act→World→Nat:=fun a w=>if h:∃m,p a w m then(zIy h).choose else 0
 obtain⟨n,hn⟩:=zBj.1 hr;refine wp_loop (fun a w=> ∃m,p a w m) μ (by grind) ?_;intro a w cD;have hμ:μ a w=(zIy cD).choose:=dif_pos cD;obtain⟨s,h1,h2,h3⟩:=(zIy cD).choose_spec.1;have pg:=(zIy cD).choose_spec.2;rw[←hμ]at h1;cases hm:μ a w with
 |zero=>grind[yN]
 |succ k=>
  rw[hm]at h1;simp only[yN]at h1;cases hb:body s with
  |none=>grind
  |some x=>
   refine h s x hb a w _ h2 h3 fun e E' a' w' hq gO fc=>?_
   cases x with
   |inl s'=>
    simp only[hb]at h1;obtain⟨rfl,hg⟩:=hq;have hp2:p a' w' k:=⟨s',h1,hg a' w' gO,fc⟩;refine⟨⟨k,hp2⟩,?_⟩;have hex':∃m,p a' w' m:=⟨k,hp2⟩
    grind
   |inr r'=>
    simp only[hb]at h1;have:r'=r:=by grind
    subst this;obtain⟨gf,hq⟩:=hq;have:=hQ e E' a' w' hq gO fc;cases e with
    |normal=>grind
    |_=>exact this
end
end Go.Ab

namespace Go.Ab
open Go
abbrev Nds:=List (Nat×List Nat×T)
def ROk(P:Program)(E:Env):ResultVar→(Nat×List Nat×T)→Prop
 |.tmp s,x=>x.1=s∧x.2.1=[]∧E s=aB x.2.2∧x.2.2.okTup=aD
 |.cell a T,x=>x.1=a∧x.2.1=[0]∧E a=aB (.ptr x.2.2)∧ ∃ds ti,P.underlying T=aB ds∧P.info? T=aB ti∧zDG ds= !x.2.2.single∧ti.size=x.2.2.size
def zEA(P:Program)(E:Env):List ResultVar→Nds→Prop
 | [],[]=>True
 |x::xs,y::ys=>ROk P E x y∧zEA P E xs ys
 |_,_=>False
def LOk(E:Env)(us:List T):List (Nat×T)→Prop
 | []=>True
 |(i,u')::l=>(E i=aB u'∧ ∃u,us[i]? =aB u)∧LOk E us l
def zUM(P:Program)(rs:Array ResultVar)(us res:List T)(rws:List (Nat×T)):Exit→Env→Prop:=fun e E=>
 (e=.ret∨e=.normal)∧ ∃nd:Nds,zEA P E rs.toList nd∧nd.map (·.2.2)=res∧(∀x∈nd,us.length≤x.1)∧(nd.map (·.1)).Nodup∧LOk E us rws
def zBJ(v:Nat→Value)(is:List Nat):sT:=is.map fun i=>(i,v i)
def zGo:Nat→List T→List (Nat×T)
 |_,[]=>[]
 |i,u::us=>(i,u)::zGo (i+1) us
theorem zIz:∀(us:List T)(i s:Nat)(t:T),uC (zGo i us) s=aB t→i≤s∧us[s-i]? =aB t
 | [],i,s,t,h=>by grind[zGo,uC]
 |u::us,i,s,t,h=>by
  simp only[zGo,uC]at h;split at h
  ·grind
  ·rename_i e
   obtain⟨h1,h2⟩:=zIz us (i+1) s t h
   grind
def zNJ(tmps:Array Value):ResultVar→Sem Value
 |.tmp t=>pure (tmps.getD t undef)
 |.cell a t=>do loadVar t (←asAddr (tmps.getD a undef))
theorem zJC(fn:Func)(tmps:Array Value):results fn tmps=(do
  let vs ←fn.results.mapM (zNJ tmps)
  pure (if h:vs.size=1 then vs[0]else .tuple vs)):=rfl
theorem vE.get:(xs:List T)→vE xs→ ∀(i:Nat)(x:T),xs[i]? =aB x→Top x
 | [],_,i,x,h=>by simp at h
 |y::ys,ht,i,x,h=>by
  simp only[vE]at ht;cases i with
  |zero=>simp at h;subst h;exact ht.1
  |succ i=>exact vE.get ys ht.2 i x (by simpa using h)
theorem LOk.get{E:Env}{us:List T}:(l:List (Nat×T))→LOk E us l→ ∀i u',(i,u')∈l→E i=aB u'∧ ∃u,us[i]? =aB u
 | [],_,_,_,h=>by simp at h
 |x::l,h,i,u',hm=>by
  rcases Jl.1 hm with rfl|hm
  ·exact h.1
  ·exact LOk.get l h.2 i u' hm
theorem zW7{P:Program}{Γ:Ctx}{E:Env}{G:Gh}{tmps:Array Value}{w:World}(ga:Rep Γ E G tmps w)(x:ResultVar)(s:Nat)(q:List Nat)(t:T)(h:ROk P E x (s,q,t)):
  (zNJ tmps x).run P w=.ok (uW G s t q) w∧R Γ.St G w s t q:=by
 cases x with
 |tmp s'=>
  obtain⟨h0,ma,h1,h2⟩:=h;dsimp only at h0 ma h1 h2;subst h0 ma;obtain⟨g1,g2,_⟩:=ga.ent _ _ h1;have gU:∀xs,t≠.tup xs:=by rintro xs rfl;grind[T.okTup]
  refine⟨?_,g2⟩;rw[←kF G s t [] gU];simp[zNJ,K0,g1]
 |cell a T'=>
  obtain⟨h0,ma,h1,ds,ti,h2,h3,h4,h5⟩:=h;dsimp only at h0 ma h1 h4 h5;subst h0 ma;obtain⟨g1,g2,_⟩:=ga.ent _ _ h1;simp only[R]at g2;obtain⟨b,cs,e,k1,k2,k3,k4,k5,k6⟩:=g2;refine⟨?_,k6⟩;rw[yR rfl,k1]at g1;have h6:=zEq (w:=w) h2 h3 k5 h4 h5;simp[zNJ,K0,g1,asAddr,h6]
theorem zEx{P:Program}{Γ:Ctx}{E:Env}{G:Gh}{tmps:Array Value}{w:World}(ga:Rep Γ E G tmps w):(rs:List ResultVar)→(nd:Nds)→zEA P E rs nd→
  (rs.mapM (zNJ tmps)).run P w=.ok (nd.map fun x=>uW G x.1 x.2.2 x.2.1) w∧ ∀x∈nd,R Γ.St G w x.1 x.2.2 x.2.1
 | [],[],_=>by simp
 |x::xs,y::ys,h=>by
  obtain⟨h1,h2⟩:=zEx ga xs ys h.2;obtain⟨h3,h4⟩:=zW7 ga x y.1 y.2.1 y.2.2 h.1
  simp_all
 | [],_::_,h=>by simp[zEA]at h
 |_::_,[],h=>by simp[zEA]at h
theorem FnC.of_body{P:Program}{f:FuncId}{fn:Func}{c:Code}{us res:List T}{rws:List (Nat×T)}(hf:P.funcs[f]? =aB fn)(hb:fn.body=aB c)(hn:us.length≤fn.ntmps)(ht:vE us)(hr:rws.all (fun x=>decide (x.1<us.length))=aD)
  (h:∀(Γ:Ctx)(v:Nat→Value),Γ.N=fn.ntmps→CW P Γ (zBJ v (rws.map (·.1))) c (uC (zGo 0 us)) (zUM P fn.results us res rws)):FnC P f us res rws:=by
 intro St W w G vs ch gg gw
 let Γ:Ctx:=⟨St,W,w,fn.ntmps⟩
 let v:Nat→Value:=fun i=>vs.getD i undef
 have hm:Mem Γ G w:=⟨gw.one,gw.lb,gw.ow,gw.st,gw.fr,gw.sz,gw.bk⟩;have gx:(vs++Gj (fn.ntmps-vs.size) undef).size=fn.ntmps:=by simp;omega
 have bJ:Sim Γ (uC (zGo 0 us)) { tmps:=vs++Gj (fn.ntmps-vs.size) undef,defers:=[] } w:=by
  refine⟨rfl,G,gx,?_,hm⟩;intro s t hs;obtain⟨_,h2⟩:=zIz us 0 s t hs;simp only[Qk]at h2;obtain⟨h3,h4⟩:=gg s t h2;have gP:s<vs.size:=by grind
  exact⟨by grind,h4,vE.get us ht s t h2⟩
 have ta:(zBJ v (rws.map (·.1))).Hold { tmps:=vs++Gj (fn.ntmps-vs.size) undef,defers:=[] }:=by
  intro x hx;simp only[zBJ,Jd]at hx;obtain⟨i,⟨y,hy,rfl⟩,rfl⟩:=hx;have h1:=Jt.1 hr y hy;simp at h1;have h2:y.1<vs.size:=by omega
  simp[Array.getElem?_append,h2,v]
 refine calls_of_wp hf hb (h Γ v rfl _ _ _ (.of bJ) ta ?_)
 rintro e E' a' w' ⟨he,nd,h1,h2,h3,h4,h5⟩ ⟨S',gR,ed,G',ga⟩ hp
 obtain⟨g1,g2⟩:=zEx ga _ _ h1;have gv:(results fn a'.tmps).run P w'=.ok (zIp G' nd) w':=by
  rw[zJC,Array.mapM_eq_mapM_toList];simp only[Sem.run_bind,Sem.run_map,g1];cases nd with
  |nil=>simp[zIp]
  |cons y ys=>
   cases ys with
   |nil=>simp[zIp]
   |cons z zs=>simp[zIp]
 have gu:Mem ⟨S',W,w,0⟩ G' w':=⟨ga.mem.one,ga.mem.lb,ga.mem.ow,ga.mem.st,ga.mem.fr,ga.mem.sz,ga.mem.bk⟩;have ah:bodyPost P fn (fun e w'=> ∃(S':Stb)(G':Gh)(nd:List (Nat×List Nat×T)),zCw St S' W w.heap.size∧e=.returned (zIp G' nd)∧Mem ⟨S',W,w,0⟩ G' w'∧nd.map (·.2.2)=res∧
   (∀x∈nd,R S' G' w' x.1 x.2.2 x.2.1∧us.length≤x.1)∧(nd.map (·.1)).Nodup∧
   ∀i u',(i,u')∈rws→R S' G' w' i u' []∧ ∃u,us[i]? =aB u∧mkV G' i u' []=mkV G i u []) .ret a' w':=by
  refine⟨ed,_,gv,S',G',nd,gR,rfl,gu,h2,by grind,h4,?_⟩;intro i u' hiu;obtain⟨k1,u,k3⟩:=LOk.get _ h5 i u' hiu;obtain⟨k5,k6,_⟩:=ga.ent i u' k1;refine⟨k6,u,k3,?_⟩;have k7:=hp (i,v i) (by simp only[zBJ,Jd];grind);have k8:=(gg i u k3).1;rw[k5]at k7;simp[v,K0,k8]at k7;exact k7
 rcases he with rfl|rfl<;>exact ah
end Go.Ab

namespace Go.Ab
open Go
mutual
def wR:T→T
 |.sl k xs=>.ro (strip (.sl k xs))
 |.ptr t=>.ro (strip (.ptr t))
 |.agg xs=>.agg (vL xs)
 |.tup xs=>.tup (vL xs)
 |.any=>.any
 |.lit v=>.lit v
 |.ro t=>.ro t
 |.same r p=>.same r p
 |.addr r p=>.addr r p
 |.sub r p k lo hi=>.sub r p k lo hi
def vL:List T→List T
 | []=>[]
 |x::xs=>wR x::vL xs
end
mutual
theorem zNK(G:Gh)(s:Nat):(t:T)→ ∀p,vals G s (wR t) p=vals G s t p
 |.agg xs,p=>by simp only[wR,vals];exact zCj G s xs p 0
 |.sl _ _,_|.ptr _,_|.tup _,_|.any,_|.lit _,_|.ro _,_|.same _ _,_|.addr _ _,_|.sub _ _ _ _ _,_=>by rfl
theorem zCj(G:Gh)(s:Nat):(xs:List T)→ ∀p j,zR G s (vL xs) p j=zR G s xs p j
 | [],_,_=>by rfl
 |x::xs,p,j=>by simp only[vL,zR,zNK G s x,zCj G s xs]
end
theorem zNL(G:Gh)(s:Nat)(t:T)(p:List Nat):uW G s (wR t) p=uW G s t p:=by cases t<;>simp only[wR,uW,zCj]
theorem zI0(G:Gh)(s:Nat):(xs:List T)→ ∀p j,kD G s (vL xs) p j=kD G s xs p j
 | [],_,_=>by rfl
 |x::xs,p,j=>by simp only[vL,kD,zNL,zI0 G s xs]
theorem zQ1(G:Gh)(s:Nat)(t:T)(p:List Nat):mkV G s (wR t) p=mkV G s t p:=by cases t<;>simp only[wR,mkV,zCj,zI0]
mutual
theorem zI1:(t:T)→Top t→Top (wR t)
 |.agg xs,h|.tup xs,h=>by simp only[wR,Top]at h ⊢;exact zG9 xs h
 |.sl _ _,_|.ptr _,_|.any,_|.lit _,_|.ro _,_|.same _ _,_|.addr _ _,_|.sub _ _ _ _ _,_=>by simp only[wR,Top]
theorem zG9:(xs:List T)→vE xs→vE (vL xs)
 | [],_=>by grind[vL]
 |x::xs,h=>by simp only[vL,vE]at h ⊢;exact⟨zI1 x h.1,zG9 xs h.2⟩
end
section
variable {St Sc:Stb}{G G':Gh}{w:World}{s:Nat} (gk:∀s p,(G.hd s p).oneCell'=aD) (gY:∀b x,St b=aB x→Sc b=aB x) (gZ:∀b,(∃y,G.ow b=aB (s,y))→Sc b=w.heap[b]?) (gB:∀s z,G'.hd s z=G.hd s z) (eI:∀s z,G'.ad s z=G.ad s z)
 include gk gY gZ gB eI
mutual
theorem zSy:(t:T)→ ∀(p:List Nat),R St G w s t p→R Sc G' w s (wR t) p
 |.agg xs,p,hr|.tup xs,p,hr=>by simp only[wR,R]at hr ⊢;exact zNM xs p 0 hr
 |.sl k xs,p,hr=>by have:=zIs gk gY gZ (.sl k xs) p rfl hr;simp only[wR,R,gB];exact this
 |.ptr t,p,hr=>by have:=zIs gk gY gZ (.ptr t) p rfl hr;simp only[wR,R,gB];exact this
 |.ro u,p,hr=>by simp only[wR,R,gB]at hr ⊢;grind[vW]
 |.any,_,_=>by simp only[wR,R]
 |.lit _,_,hr|.same _ _,_,hr|.sub _ _ _ _ _,_,hr=>by simp only[wR,R,gB]at hr ⊢;exact hr
 |.addr _ _,_,hr=>by simp only[wR,R,gB,eI]at hr ⊢;exact hr
theorem zNM:(xs:List T)→ ∀(p:List Nat)(j:Nat),RF St G w s xs p j→RF Sc G' w s (vL xs) p j
 | [],_,_,_=>by have _:=gk;have _:=gY;have _:=gZ;have _:=gB;have _:=eI;simp only[vL,RF]
 |x::xs,p,j,hr=>by simp only[vL,RF]at hr ⊢;exact⟨zSy x _ hr.1,zNM xs p (j+1) hr.2⟩
end
end
theorem zO.freeze{Γ:Ctx}{E:Env}(s:Nat)(t:T)(hs:E s=aB t):zO Γ E (E.app [(s,aB (wR t))] [(s,1)]):=by
 classical
 rintro a w ⟨S,hS,ed,G,ga⟩
 have hm:=ga.mem
 let own:Nat→Prop:=fun b=> ∃y,G.ow b=aB (s,y)
 let Sc:Stb:=fun b=>if own b then w.heap[b]? else S b
 let G':Gh:={ hd:=G.hd,ad:=G.ad,lb:=fun b o=>if own b then aC else G.lb b o,ow:=fun b=>if own b then aC else G.ow b }
 have eZ:∀b x,S b=aB x→Sc b=aB x:=fun b x hx=>by
  have:¬own b:=by
   rintro⟨y,hy⟩
   have:=(hm.ow b _ hy).2.2
   grind
  grind
 have mM:zCw S Sc Γ.W Γ.w0.heap.size:=⟨eZ,fun b hb ej=>by
  by_cases h:own b
  ·obtain⟨y,hy⟩:=h
   exact(hm.ow b _ hy).2.1
  grind⟩
 have gw:Mem ((Γ.at S).at Sc) G' w:=by
  refine⟨hm.one,fun b o l hl=>?_,fun b l hl=>?_,fun b x hx=>?_,hm.fr,hm.sz,hm.bk⟩
  ·by_cases h:own b
   ·grind
   ·simp only[G',h,if_false]at hl
    have:=hm.lb b o l hl;exact⟨this.1,this.2.1,by simp only[Sc,h,if_false];exact this.2.2⟩
  ·by_cases h:own b
   ·grind
   ·simp only[G',h,if_false]at hl
    have:=hm.ow b l hl;exact⟨this.1,this.2.1,by simp only[Sc,h,if_false];exact this.2.2⟩
  ·by_cases h:own b
   ·grind
   ·simp only[Sc,h,if_false]at hx;exact hm.st b x hx
 have gn:kE [(s,1)] G w G' w:=by
  have tg:∀b s0 y,G.ow b=aB (s0,y)→(∀n,(s0,n)∉([(s,1)]:Chg))→ ¬own b:=by grind
  refine⟨fun _ _ _=>rfl,fun _ _ _=>rfl,by grind,by grind,fun b cs e h=>⟨cs,h,rfl⟩⟩
  all_goals grind
 obtain⟨e1,e2,e3⟩:=ga.ent s t hs;refine⟨Sc,hS.trans mM,ed,G',ga.up eZ rfl gn gw (fun s0 h0=>⟨fun n hn=>?_,rfl⟩) (fun s0 t0 h0=>?_)⟩
 ·grind[uK]
 ·rw[uK]at h0
  split at h0
  ·rename_i he;subst he
   simp at h0;subst h0;have hR:=zSy (G':=G') hm.one eZ (fun b hb=>by grind) (fun _ _=>rfl) (fun _ _=>rfl) t [] e2;refine⟨?_,hR,zI1 t e3⟩;rw[e1];have h1:mkV G' s (wR t) []=mkV G s (wR t) []:=zDF _ _ _ (fun _=>rfl);rw[h1,zQ1]
  ·cases h0
end Go.Ab

namespace Go.Ab
open Go
abbrev zCy:=List (Wr×Chg)
def Env.apps(E:Env)(l:zCy):Env:=l.foldl (fun E x=>E.app x.1 x.2) E
structure Stp where
 rd:List (Nat×T)
 l:zCy
def tF(wr:Wr):List Nat:=wr.map (·.1)
def Stp.slots(X:Stp):List Nat:=X.l.flatMap fun x=>tF x.1
def oOk(chg:Chg):Option T→Bool
 |none=>aD
 |some t=>t.okB chg
def zJD(chg:Chg)(wr:Wr):Bool:=wr.all fun x=>oOk chg x.2
def zMq(a b:List Nat):Bool:=a.all fun x=> !b.contains x
def zDO(a b:zCy):Bool:=a.all fun x=>b.all fun y=>zMq (tF x.1) (tF y.1)&&zJD y.2 x.1&&zJD x.2 y.1
def Stp.apart(a b:Stp):Bool:=zDO a.l b.l&&zMq a.slots (b.rd.map (·.1))&&zMq b.slots (a.rd.map (·.1))&&a.rd.all fun x=>b.l.all fun y=>x.2.okB y.2
theorem zDP{wr:Wr}{s:Nat}(h:s∉tF wr):wr.find s=aC:=by
 induction wr with
 |nil=>rfl
 |cons x wr ih=>
  simp only[tF,Jg,Jl,not_or]at h;simp only[Wr.find,Ne.symm h.1,if_false];exact ih h.2
theorem zGA{wr:Wr}{s:Nat}{x:Option T}(h:wr.find s=aB x):s∈tF wr∧ ∃y∈wr,y.2=x:=by
 induction wr with
 |nil=>grind[Wr.find]
 |cons y wr ih=>
  grind[Wr.find,tF]
theorem zFw{a b:List Nat}(h:zMq a b=aD){s:Nat}(hs:s∈a):s∉b:=by
 have:=Jt.1 h s hs
 grind
theorem zNN(E:Env)(w1 w2:Wr)(c1 c2:Chg)(h:zMq (tF w1) (tF w2)=aD)(h1:zJD c2 w1=aD)(h2:zJD c1 w2=aD):
  (E.app w1 c1).app w2 c2=(E.app w2 c2).app w1 c1:=by
 funext s
 have ok:∀{c:Chg}{w:Wr}{s:Nat}{x:Option T},zJD c w=aD→w.find s=aB x→(match x with|some t=>if t.okB c then aB t else aC|none=>aC)=x:=by
  intro c w s x hw hf;obtain⟨_,y,hy,rfl⟩:=zGA hf;have:=Jt.1 hw y hy
  grind[oOk]
 unfold Env.app;cases hf1:w1.find s with
 |some x=>
  grind[zDP,zFw,zGA]
 |none=>
  grind
theorem zC9(w:Wr)(c:Chg):∀(l:zCy)(E:Env),(∀y∈l,zMq (tF w) (tF y.1)=aD∧zJD y.2 w=aD∧zJD c y.1=aD)→(E.app w c).apps l=(E.apps l).app w c
 | [],E,_=>rfl
 |y::l,E,h=>by obtain⟨h1,h2,h3⟩:=h y (by simp);show((E.app w c).app y.1 y.2).apps l=_;rw[zNN E w y.1 c y.2 h1 h2 h3];exact zC9 w c l _ (by grind)
theorem zGB:∀(l1 l2:zCy)(E:Env),zDO l1 l2=aD→(E.apps l1).apps l2=(E.apps l2).apps l1
 | [],l2,E,_=>rfl
 |x::l1,l2,E,h=>by simp only[zDO,Ga,J3]at h;show((E.app x.1 x.2).apps l1).apps l2=((E.apps l2).app x.1 x.2).apps l1;rw[zGB l1 l2 _ (by grind[zDO]),zC9 x.1 x.2 l2 E (by grind)]
def runD:Env→List (Bool×Stp)→Env
 |E,[]=>E
 |E,(b,X)::l=>runD (if b then E.apps X.l else E) l
theorem kI:∀(l1 l2:List (Bool×Stp))(E:Env),runD E (l1++l2)=runD (runD E l1) l2
 | [],_,_=>rfl
 |(b,X)::l1,l2,E=>by simp only[Hn,runD];exact kI l1 l2 _
theorem zDQ:∀(l:List (Bool×Stp))(X:Stp)(E:Env),(∀y∈l,y.1=aD→zDO X.l y.2.l=aD)→runD (E.apps X.l) l=(runD E l).apps X.l
 | [],_,_,_=>rfl
 |(b,Y)::l,X,E,h=>by
  simp only[runD];cases b with
  |false=>exact zDQ l X E (by grind)
  |true=>
   have:=h (aD,Y) (by simp) rfl;simp only[if_true];rw[zGB X.l Y.l E this];exact zDQ l X _ (by grind)
theorem zFx{s:Nat}:∀(l:zCy)(E:Env),s∉l.flatMap (fun x=>tF x.1)→ ∀t,(E.apps l) s=aB t→E s=aB t
 | [],_,_,_,h=>h
 |x::l,E,hs,t,h=>by
  simp only[L9,Kd,not_or]at hs;have:=zFx l (E.app x.1 x.2) hs.2 t h
  grind[Env.app,zDP]
theorem zGC{s:Nat}{t:T}:∀(l:zCy)(E:Env),s∉l.flatMap (fun x=>tF x.1)→(∀y∈l,t.okB y.2=aD)→E s=aB t→(E.apps l) s=aB t
 | [],_,_,_,h=>h
 |x::l,E,hs,gE,h=>by
  simp only[L9,Kd,not_or]at hs;refine zGC l (E.app x.1 x.2) hs.2 (by grind) ?_
  grind[Env.app,zDP]
theorem zGD{s:Nat}:∀(l:zCy)(E1 E2:Env),(∀t,E2 s=aB t→E1 s=aB t)→ ∀t,(E2.apps l) s=aB t→(E1.apps l) s=aB t
 | [],_,_,h,t,ht=>h t ht
 |x::l,E1,E2,h,t,ht=>by
  refine zGD l (E1.app x.1 x.2) (E2.app x.1 x.2) (fun u hu=>?_) t ht
  grind[Env.app]
theorem zGE{s:Nat}:∀(l:List (Bool×Stp))(E1 E2:Env),(∀y∈l,y.1=aE→s∉y.2.slots)→(∀t,E2 s=aB t→E1 s=aB t)→
  ∀t,runD E2 (l.map fun y=>(aD,y.2)) s=aB t→runD E1 l s=aB t
 | [],_,_,_,h,t,ht=>h t ht
 |(b,X)::l,E1,E2,hl,h,t,ht=>by
  simp only[Jg,runD,if_true]at ht ⊢
  refine zGE l _ _ (by grind) (fun u hu=>?_) t ht;cases b with
  |true=>grind[zGD]
  |false=>exact h u (zFx X.l E2 (hl (aE,X) (by simp) rfl) u hu)
theorem zGF{s:Nat}{t:T}:∀(l:List (Bool×Stp))(E:Env),(∀y∈l,y.1=aD→s∉y.2.slots∧ ∀z∈y.2.l,t.okB z.2=aD)→E s=aB t→runD E l s=aB t
 | [],_,_,h=>h
 |(b,X)::l,E,hl,h=>by
  simp only[runD];refine zGF l _ (fun y hy=>hl y (by simp[hy])) ?_;cases b with
  |false=>exact h
  |true=>obtain⟨h1,h2⟩:=hl (aD,X) (by simp) rfl;exact zGC X.l E h1 h2 h
theorem Env.Has.of{E E':Env}:{l:List (Nat×T)}→E.Has l→(∀s t,(s,t)∈l→E s=aB t→E' s=aB t)→E'.Has l
 | [],_,_=>trivial
 |(s,t)::l,h,h'=>⟨h' s t (by simp) h.1,Env.Has.of h.2 fun s t hm=>h' s t (by simp[hm])⟩
end Go.Ab

namespace Go.Ab
open Go
def zAW(o:Oper):List Nat:=(o.after.toList.filter (Region.binds .any)).map (·.on)
def zAA:Nat→List Oper→Bool
 |_,[]=>aD
 |i,o::os=>((zAW o).all fun m=>decide (m<i))&&zAA (i+1) os
def zAf(an:List (List Nat)):List (List Nat)→List Oper→Bool
 | [],_=>aD
 |_::_,[]=>aE
 |l::ls,o::os=>(l.all fun k=>(zAW o).contains k||(zAW o).any fun m=>(an.getD m []).contains k)&&zAf an ls os
def qN(Xs:List Stp):Nat→List (List Nat)→List Stp→Bool
 |_,_,[]=>aD
 |j,an,Y::Ys=>((Jn j).all fun i=>(an.headD []).contains i||match Xs[i]? with
   |some X=>X.apart Y
   |none=>aD)&&qN Xs (j+1) an.tail Ys
theorem zEL:∀(os:List Oper)(i0 j:Nat)(o:Oper),zAA i0 os=aD→os[j]? =aB o→ ∀m∈zAW o,m<i0+j
 | [],_,j,_,_,h=>by simp at h
 |x::os,i0,j,o,hf,h=>by
  simp only[zAA,J3]at hf;cases j with
  |zero=>
   grind
  |succ j=>
   intro m hm;have:=zEL os (i0+1) j o hf.2 (by grind) m hm;omega
theorem zHx(an:List (List Nat)):∀(ls:List (List Nat))(os:List Oper)(j:Nat)(l:List Nat),zAf an ls os=aD→ls[j]? =aB l→ ∃o,os[j]? =aB o∧ ∀k∈l,k∈zAW o∨ ∃m∈zAW o,k∈an.getD m []
 | [],_,j,_,_,h=>by simp at h
 |_::_,[],_,_,h,_=>by grind[zAf]
 |x::ls,o::os,j,l,ha,h=>by
  simp only[zAf,J3]at ha;cases j with
  |zero=>
   simp_all
  |succ j=>
   obtain⟨o',h1,h2⟩:=zHx an ls os j l ha.2 (by grind)
   grind
theorem zDR(Xs:List Stp):∀(Ys:List Stp)(j0:Nat)(an:List (List Nat))(j:Nat)(Y:Stp),qN Xs j0 an Ys=aD→Ys[j]? =aB Y→ ∀i X,i<j0+j→Xs[i]? =aB X→i∈an.getD j []∨X.apart Y=aD
 | [],_,_,j,_,_,h=>by simp at h
 |Z::Ys,j0,an,j,Y,hp,h=>by
  simp only[qN,J3]at hp;intro i X hi hX;cases j with
  |zero=>
   simp at h;subst h;have:=Jt.1 hp.1 i (by grind);simp only[hX,Bool.or_eq_true,Ld,decide_eq_true_eq]at this;rcases this with h|h
   ·left
    cases an with
    |nil=>simp at h
    |cons l an=>grind
   grind
  |succ j=>
   rcases zDR Xs Ys (j0+1) an.tail j Y hp.2 (by grind) i X (by omega) hX with h|h
   all_goals grind
section
variable {P:Program}{Γ:Ctx}{pn:sT}{ops:Array Oper}
def zNO(ops:Array Oper)(L:List Bool):Prop:=∀(i:Nat)(o:Oper),ops[i]? =aB o→L[i]? =aB aD→ ∀m∈zAW o,L[m]? =aB aD
theorem zFy{L:List Bool}{an:List (List Nat)}(hf:zAA 0 ops.toList=aD)(ha:zAf an an ops.toList=aD)(hc:zNO ops L):
  ∀(n i:Nat),i≤n→ ∀o,ops[i]? =aB o→(∀m∈zAW o,L[m]? =aB aD)→ ∀k∈an.getD i [],L[k]? =aB aD:=by
 intro n
 induction n with
 |zero=>
  intro i hi o ho hp k hk;have tx:i=0:=by omega
  subst tx;cases hl:an[0]? with
  |none=>grind
  |some l=>
   obtain⟨o',h1,h2⟩:=zHx an an ops.toList 0 l ha hl;rw[K5,ho]at h1;simp at h1;subst h1;simp only[Qt,hl,La]at hk;rcases h2 k hk with h|⟨m,h,_⟩
   ·grind
   ·have:=zEL ops.toList 0 0 o hf (by grind) m h
    omega
 |succ n ih=>
  intro i hi o ho hp k hk;cases hl:an[i]? with
  |none=>grind
  |some l=>
   obtain⟨o',h1,h2⟩:=zHx an an ops.toList i l ha hl;rw[K5,ho]at h1;simp at h1;subst h1;simp only[Qt,hl,La]at hk;rcases h2 k hk with h|⟨m,h,hkm⟩
   ·grind
   ·have gP:=zEL ops.toList 0 i o hf (by grind) m h
    have hLm:=hp m h;cases bm:ops[m]? with
    |none=>
     grind
    |some om=>exact ih m (by omega) om bm (hc m om bm hLm) k hkm
theorem zGG{L:List Bool}{Xs:List Stp}{i:Nat}{b:Bool}{X:Stp}(hL:L[i]? =aB b)(hX:Xs[i]? =aB X):L.zip Xs=(L.take i).zip (Xs.take i)++(b,X)::(L.drop (i+1)).zip (Xs.drop (i+1)):=by
 have h1:L=L.take i++b::L.drop (i+1):=by obtain⟨h,rfl⟩:=Jc.1 hL;simp
 have h2:Xs=Xs.take i++X::Xs.drop (i+1):=by obtain⟨h,rfl⟩:=Jc.1 hX;simp
 grind[List.zip_cons_cons]
theorem zHy{L:List Bool}{Xs:List Stp}{y:Bool×Stp}(h:y∈L.zip Xs):∃j:Nat,L[j]? =aB y.1∧Xs[j]? =aB y.2:=by grind[U8,List.getElem?_zip_eq_some]
def tG:Env→List Stp→Prop
 |_,[]=>True
 |E,X::Xs=>E.Has X.rd∧tG (E.apps X.l) Xs
theorem tG.get:∀(Xs:List Stp)(E:Env),tG E Xs→ ∀(i:Nat)(X:Stp),Xs[i]? =aB X→(runD E ((Xs.take i).map fun y=>(aD,y))).Has X.rd
 | [],_,_,i,_,h=>by simp at h
 |Y::Xs,E,hh,i,X,h=>by
  cases i with
  |zero=>simp at h;subst h;simpa[runD]using hh.1
  |succ i=>
   have:=tG.get Xs _ hh.2 i X (by grind)
   grind[runD]
theorem Stp.apart_spec{a b:Stp}(h:a.apart b=aD):zDO a.l b.l=aD∧(∀s∈a.slots,s∉b.rd.map (·.1))∧(∀s∈b.slots,s∉a.rd.map (·.1))∧ ∀x∈a.rd,∀y∈b.l,x.2.okB y.2=aD:=by simp only[Stp.apart,J3]at h;refine⟨h.1.1.1,by grind[zFw],by grind[zFw],fun x hx y hy=>?_⟩;exact Jt.1 (Jt.1 h.2 x hx) y hy
mutual
theorem zLc:(t:T)→t.okB []=aD
 |.same _ _|.addr _ _|.sub _ _ _ _ _=>by rfl
 |.agg xs|.tup xs=>by simp only[T.okB];exact zI2 xs
 |.any|.lit _|.ro _|.sl _ _|.ptr _=>by rfl
theorem zI2:(xs:List T)→zHZ [] xs=aD
 | []=>by rfl
 |x::xs=>by simp only[zHZ,zLc x,zI2 xs,Km]
end
theorem Rep.heap{E:Env}{G:Gh}{tmps:Array Value}{w w':World}(h:Rep Γ E G tmps w)(hw:w'.heap=w.heap)(ho:w'.os=w.os:=by rfl)(hq:w'.output=w.output:=by rfl):Rep Γ E G tmps w' where
 size:=h.size
 ent s t hs:=Ent.keep (chg:=[]) ⟨fun _ _ _=>rfl,fun _ _ _=>rfl,by grind[zV,World.cell?],fun _ _ _ h _=>h,fun b cs e h=>⟨cs,by grind,rfl⟩⟩ (by simp) (zLc t) (h.ent s t hs)
 mem:=by
  have hm:=h.mem;exact⟨hm.one,fun b o l hl=>by have:=hm.lb b o l hl;exact⟨by rw[hw];exact this.1,this.2⟩,fun b l hl=>by have:=hm.ow b l hl;exact⟨by rw[hw];exact this.1,this.2⟩,
   fun b x hx=>by rw[hw];exact hm.st b x hx,fun b h1 h2=>by rw[hw];exact hm.fr b h1 h2,by rw[hw];exact hm.sz,hm.bk.trans (fun b cs e hb=>⟨cs,by grind,rfl⟩) ho hq⟩
end
end Go.Ab

namespace Go.Ab
open Go
abbrev I(n:Int):T:=.lit (.int .i64 n)
abbrev B(b:Bool):T:=.lit (.bool b)
abbrev L{α:Type}(k:Nat)(f:α→T)(xs:List α):T:=.sl k (xs.map f)
theorem zI{P:Program}{t:TypeId}{ti:TypeInfo}(h:P.types[t]? =aB ti):P.info? t=aB ti:=by grind[Tables.info?]
def Ok(P:Program)(Γ:Ctx)(o:Oper)(E E':Env):Prop:=∀S,xF P (Γ.at S) o E E'
section
variable {P:Program}{Γ:Ctx}{pn:sT}{ops:Array Oper}{o:Oper}{os:List Oper}{E E':Env}{Q:Exit→Env→Prop}{d:Nat}
theorem RW.op(h:Ok P Γ o E E')(k:RW P Γ pn ops os E' Q)(hg:o.guard=aC:=by rfl)(hp:pn.ok o.dst=aD:=by rfl):RW P Γ pn ops (o::os) E Q:=RW.cons (yY.op h hg) k hp
def neD(x:Operand)(d:Nat):Bool:=match x with
 |.tmp s=>s != d
 |_=>aD
theorem zDq{x:Operand}{d:Nat}(h:neD x d=aD):∀s,x=.tmp s→s≠d:=by rintro s rfl;grind[neD]
theorem zAX{t:T}(h:t.okTup=aD):∀xs,t≠.tup xs:=by rintro xs rfl;grind[T.okTup]
abbrev mvB(Γ:Ctx)(x:Operand)(t:T)(d:Nat):Bool:=J4 d Γ.N&&t.okTup&&neD x d&&T.okB [(d,0)] (vV x t)
section
variable {x y:Operand}{t:T}{ty:TypeId}{ps:String}{af:Array Edge}{gd:Option (Nat×Bool)}
theorem zS{a b:Nat}(h:J4 a b=aD):a<b:=by grind[Nat.blt_eq]
theorem zMr(hx:opT E x=aB t)(sd:mvB Γ x t d=aD):Ok P Γ ⟨aB d,.move x,ty,ps,af,gd⟩ E (E.app [(d,aB (vV x t))] [(d,0)]):=by simp only[mvB,J3]at sd;exact fun S=>zKK x t (.inl rfl) rfl (zS sd.1.1.1) hx (zAX sd.1.1.2) (zDq sd.1.2) sd.2
theorem zQ2(hx:opT E x=aB t)(sd:mvB Γ x t d=aD):Ok P Γ ⟨aB d,.assign x,ty,ps,af,gd⟩ E (E.app [(d,aB (vV x t))] [(d,0)]):=by simp only[mvB,J3]at sd;exact fun S=>zKK x t (.inr rfl) rfl (zS sd.1.1.1) hx (zAX sd.1.1.2) (zDq sd.1.2) sd.2
def inR(n:Int):Bool:=decide (-9223372036854775808≤n)&&decide (n≤9223372036854775807)
theorem zAY{n:Int}(h:inR n=aD):IntKind.i64.wrap n=n:=by
 simp only[inR,J3,decide_eq_true_eq]at h;have hb:IntKind.i64.bits=64:=rfl;have hs:IntKind.i64.signed=aD:=rfl;simp only[IntKind.wrap,hb,hs,Qu]
 grind
def rng(n:Int):Option Int:=if inR n then aB n else aC
theorem zBK{n m:Int}(h:rng n=aB m):m=n∧inR n=aD:=by grind[rng]
theorem zNP{m n c:Int}{xt yt:TypeId}(hv:rng (m+n)=aB c)(hx:opT E x=aB (I m))(hy:opT E y=aB (I n))(sd:J4 d Γ.N=aD):Ok P Γ ⟨aB d,.binOp .add xt x y yt,ty,ps,af,gd⟩ E (E.app [(d,aB (I c))] [(d,0)]):=by obtain⟨rfl,h⟩:=zBK hv;exact fun S=>wY .add xt yt x y .i64 m n _ rfl rfl (zS sd) hx hy (by grind[zHi,zAY])
theorem zSz{m n:Int}{xt yt:TypeId}(hx:opT E x=aB (I m))(hy:opT E y=aB (I n))(sd:J4 d Γ.N=aD):Ok P Γ ⟨aB d,.binOp .lss xt x y yt,ty,ps,af,gd⟩ E (E.app [(d,aB (B (decide (m<n))))] [(d,0)]):=
 fun _S=>wY .lss xt yt x y .i64 m n _ rfl rfl (zS sd) hx hy rfl
theorem zLd(k:Nat)(sd:J4 d Γ.N=aD):Ok P Γ ⟨aB d,.assign (.const (.slice aC 0 0)),ty,ps,af,gd⟩ E (E.app [(d,aB (.sl k []))] [(d,0)]):=
 fun _=>zIg k _ (.inr rfl) rfl rfl (zS sd)
def zU(n:Int):Option Nat:=if 0≤n∧n≤68719476736 then aB n.toNat else aC
theorem zFz{n:Int}{m:Nat}(h:zU n=aB m):n=(m:Int)∧m≤68719476736:=by grind[zU]
class ElT (P:Program) (t:TypeId) (e:outParam TypeId) (ti:outParam TypeInfo) (k:outParam Nat) (u:outParam T):Prop where
 un:P.underlying t=aB (.slice e)
 info:P.info? e=aB ti
 zero:∃z,ti.zero=aB z∧uV u=z.cells.toList
 size:ti.size=k
 pos:0<k
 zok:u.zOk=aD
 us:u.size=k
 bytes:ti.bytes≤2048
theorem zTi{t e:TypeId}{ti:TypeInfo}{k:Nat}{u:T}{n m:Nat}{a b:Int}(ht:ElT P t e ti k u)(hn:zU a=aB n)(hx:opT E x=aB (I a))(hm:zU b=aB m)(hy:opT E y=aB (I b))(fh:n≤m)(sd:J4 d Γ.N=aD):
  Ok P Γ ⟨aB d,.makeSlice t x y,ty,ps,af,gd⟩ E (E.app [(d,aB (.sl k (J1 n u)))] [(d,0)]):=by
 obtain⟨rfl,h1⟩:=zFz hn;obtain⟨rfl,h2⟩:=zFz hm;obtain⟨z,hz,hv⟩:=ht.zero;exact fun S=>zQw t e ti z u k x y n m .i64 .i64 rfl rfl (zS sd) ht.un ht.info hz ht.size ht.pos ht.zok hv ht.us (H0 ht.bytes (by decide)) hx hy fh h2
end
end
end Go.Ab

namespace Go.Ab
open Go
def ixO{α:Type}(xs:List α)(i:Int):Option α:=if 0≤i then xs[i.toNat]? else aC
theorem zBL{α:Type}{xs:List α}{i:Int}{v:α}(h:ixO xs i=aB v):0≤i∧xs[i.toNat]? =aB v:=by grind[ixO]
def zAB:T→Bool
 |.same _ _=>aE
 |_=>aD
theorem zGp{E:Env}{s r:Nat}{q:List Nat}{t u:T}(h1:E s=aB (.same r q))(h2:E r=aB t)(h3:t.get q.reverse=aB u)(h4:zAB u=aD):uL E (.tmp s)=aB (r,q,u):=by
 have hg:∀t:T,t.get []=aB t:=fun t=>by rfl
 grind[zAB,uL,sG]
theorem zDr{E:Env}{s:Nat}{t:T}(h1:E s=aB t)(h4:zAB t=aD):uL E (.tmp s)=aB (s,[],t):=by
 have hg:∀t:T,t.get []=aB t:=fun t=>by rfl
 grind[zAB,uL,sG]
section
variable {P:Program}{Γ:Ctx}{E:Env}{d:Nat}{x y:Operand}{ty:TypeId}{ps:String}{af:Array Edge}{gd:Option (Nat×Bool)}
class zCz (P:Program) (t:TypeId) (e:outParam TypeId) (ti:outParam TypeInfo) (k:outParam Nat):Prop where
 un:P.underlying t=aB (.slice e)
 info:P.info? e=aB ti
 size:ti.size=k
theorem zW8{α:Type}{t e:TypeId}{ti:TypeInfo}{r k:Nat}{q:List Nat}{f:α→T}{xs:List α}{v:α}{i:Int}(ht:zCz P t e ti k)(hv:ixO xs i=aB v)(hx:uL E x=aB (r,q,L k f xs))(hy:opT E y=aB (I i))(sd:J4 d Γ.N=aD):
  Ok P Γ ⟨aB d,.indexAddr t x y,ty,ps,af,gd⟩ E (E.app [(d,aB (.addr r (i.toNat::q)))] [(d,0)]):=by
 obtain⟨h1,h2⟩:=zBL hv;exact fun S=>zUI x y t e ti r q k _ .i64 i rfl rfl (zS sd) ht.un ht.info ht.size hx hy h1 (by grind)
theorem zS0{α:Type}{t e:TypeId}{ti:TypeInfo}{r k:Nat}{q:List Nat}{f:α→T}{xs:List α}{v:α}{i:Int}(ht:zCz P t e ti k)(hv:ixO xs i=aB v)(hx:uL E x=aB (r,q,.ro (L k f xs)))(hy:opT E y=aB (I i))(sd:J4 d Γ.N=aD):
  Ok P Γ ⟨aB d,.indexAddr t x y,ty,ps,af,gd⟩ E (E.app [(d,aB (.ro (.ptr (f v))))] [(d,0)]):=by
 obtain⟨h1,h2⟩:=zBL hv;exact fun S=>zNv x y t e ti r q k _ .i64 i _ rfl rfl (zS sd) ht.un ht.info ht.size hx hy h1 (by simp[h2])
theorem zS1{α:Type}{t e:TypeId}{r k:Nat}{q:List Nat}{f:α→T}{xs:List α}(hu:P.underlying t=aB (.slice e))(hx:uL E x=aB (r,q,L k f xs))(sd:J4 d Γ.N=aD):
  Ok P Γ ⟨aB d,.call { callee:=.builtin .len,args:=#[x],argTypes:=#[t] },ty,ps,af,gd⟩ E (E.app [(d,aB (I xs.length))] [(d,0)]):=
 fun _=>zNu x t _ r q (L k f xs) xs.length rfl rfl (zS sd) hu hx (by simp[zIa]) rfl
theorem zNQ{α:Type}{t e:TypeId}{r k:Nat}{q:List Nat}{f:α→T}{xs:List α}(hu:P.underlying t=aB (.slice e))(hx:uL E x=aB (r,q,.ro (L k f xs)))(sd:J4 d Γ.N=aD):
  Ok P Γ ⟨aB d,.call { callee:=.builtin .len,args:=#[x],argTypes:=#[t] },ty,ps,af,gd⟩ E (E.app [(d,aB (I xs.length))] [(d,0)]):=
 fun _=>zNu x t _ r q (.ro (L k f xs)) xs.length rfl rfl (zS sd) hu hx (by simp[zIa]) rfl
structure zQ3 (P:Program) (t:TypeId) (u:T):Prop where
 h:∃ds ti,P.underlying t=aB ds∧P.info? t=aB ti∧zDG ds= !u.single∧ti.size=u.size
theorem zUN{t:TypeId}{u:T}(ht:zQ3 P t u)(hx:opT E x=aB (.ro (.ptr u)))(sd:J4 d Γ.N=aD):Ok P Γ ⟨aB d,.load t x,ty,ps,af,gd⟩ E (E.app [(d,aB (roT u))] [(d,0)]):=by obtain⟨ds,ti,h1,h2,h3,h4⟩:=ht.h;exact fun S=>zJ7 x t ds ti u rfl rfl (zS sd) h1 h2 h3 h4 hx
theorem zW9{t:TypeId}{u tr:T}{r:Nat}{q:List Nat}(ht:zQ3 P t u)(hx:opT E x=aB (.addr r q))(hr:E r=aB tr)(hg:tr.get q.reverse=aB u)(sd:(J4 d Γ.N&&tr.locd q.reverse&&(r != d)&&T.okB [(d,0)] (cpT r u q))=aD):
  Ok P Γ ⟨aB d,.load t x,ty,ps,af,gd⟩ E (E.app [(d,aB (cpT r u q))] [(d,0)]):=by
 obtain⟨ds,ti,h1,h2,h3,h4⟩:=ht.h;simp only[J3]at sd;exact fun S=>zQv x t ds ti r q tr u rfl rfl (zS sd.1.1.1) h1 h2 h3 h4 hx hr hg sd.1.1.2 (by grind) sd.2
end
end Go.Ab

namespace Go.Ab
open Go
section
variable {P:Program}{Γ:Ctx}{E:Env}{x:Operand}{ty:TypeId}{ps:String}{af:Array Edge}{gd:Option (Nat×Bool)}
theorem zUO{t:TypeId}{ti:TypeInfo}{r:Nat}{q:List Nat}{tr tr' u0:T}{v:Value}(hi:P.info? t=aB ti)(gx:ti.size=1)(hx:opT E x=aB (.addr r q))(hr:E r=aB tr)(hg:tr.get q.reverse=aB u0)(gA:tr.set q.reverse (.lit v)=tr')
  (sd:(tr.single&&tr.locd q.reverse&&vR (.lit v) u0&&(T.lit v).zOk)=aD)(hz:uV (.lit v)=v.cells.toList):Ok P Γ ⟨aC,.store t x (.const v),ty,ps,af,gd⟩ E (E.app [(r,aB tr')] [(r,q.length)]):=by
 simp only[J3]at sd;subst gA;intro S;have:=zN7 (P:=P) (Γ:=Γ.at S) (E:=E) (o:=⟨aC,.store t x (.const v),ty,ps,af,gd⟩) t ti x (.const v) r q tr u0 (.zero (.lit v)) rfl rfl hi (by rw[gx];rfl) (by omega) hx hr sd.1.1.1 hg sd.1.1.2 sd.1.2 (.zero v _ hz)
  ⟨by simp,by grind,by simp[yQ]⟩
 exact this
end
end Go.Ab

namespace Go.Ab
open Go
theorem zO.tr{Γ:Ctx}{E:Env}(d r:Nat)(u:T)(hd:E d=aB (.same r []))(hr:E r=aB u)(ex:zQ u)(sd:(u.single&&wC u&&u.okB [(d,1),(r,1)]&&(d != r))=aD):
  zO Γ E (E.app [(d,aB u),(r,aB (.same d []))] [(d,1),(r,1)]):=by
 simp only[J3]at sd
 rintro a w ⟨S,hS,hs⟩
 have gf:d≠r:=by grind
 have hg:∀t:T,t.get []=aB t:=fun t=>by rfl
 have:=zJB hs d [] r [] (.same r []) u u hd rfl hr (hg u) sd.1.1.1 ex gf (by simp[T.okB,zC5]) sd.1.2 rfl sd.1.1.2;exact⟨S,hS,this⟩
theorem zCR{α:Type}{f:α→T}(hf:∀x,zQ (f x)):(xs:List α)→yI (xs.map f)
 | []=>trivial
 |x::xs=>⟨hf x,zCR hf xs⟩
theorem zLe{α:Type}{f:α→T}{k:Nat}{xs:List α}(hf:∀x,zQ (f x)):zQ (L k f xs):=by simp only[zQ,yF];grind[zCR]
theorem zLf(n:Int):zQ (I n):=by simp[zQ,yF]
theorem zQ4(b:Bool):zQ (B b):=by simp[zQ,yF]
end Go.Ab

namespace Go.Ab
open Go
section
variable {P:Program}{Γ:Ctx}{E:Env}{d:Nat}{x y:Operand}{ty:TypeId}{ps:String}{af:Array Edge}{gd:Option (Nat×Bool)}{m n c:Int}{xt yt:TypeId}
theorem zS2(hv:rng (m-n)=aB c)(hx:opT E x=aB (I m))(hy:opT E y=aB (I n))(sd:J4 d Γ.N=aD):Ok P Γ ⟨aB d,.binOp .sub xt x y yt,ty,ps,af,gd⟩ E (E.app [(d,aB (I c))] [(d,0)]):=by obtain⟨rfl,h⟩:=zBK hv;exact fun _=>wY .sub xt yt x y .i64 m n _ rfl rfl (zS sd) hx hy (by grind[zHi,zAY])
theorem zUP(hv:rng (m*n)=aB c)(hx:opT E x=aB (I m))(hy:opT E y=aB (I n))(sd:J4 d Γ.N=aD):Ok P Γ ⟨aB d,.binOp .mul xt x y yt,ty,ps,af,gd⟩ E (E.app [(d,aB (I c))] [(d,0)]):=by obtain⟨rfl,h⟩:=zBK hv;exact fun _=>wY .mul xt yt x y .i64 m n _ rfl rfl (zS sd) hx hy (by grind[zHi,zAY])
def xK(m n:Int):Option Int:=if n=0 then aC else rng (m.tdiv n)
def yV(m n:Int):Option Int:=if n=0 then aC else aB (m.tmod n)
theorem zUQ(hv:xK m n=aB c)(hx:opT E x=aB (I m))(hy:opT E y=aB (I n))(sd:J4 d Γ.N=aD):Ok P Γ ⟨aB d,.binOp .quo xt x y yt,ty,ps,af,gd⟩ E (E.app [(d,aB (I c))] [(d,0)]):=by
 unfold xK at hv;split at hv
 ·cases hv
 ·rename_i h0
  obtain⟨rfl,h⟩:=zBK hv;exact fun _=>wY .quo xt yt x y .i64 m n _ rfl rfl (zS sd) hx hy (by simp only[zHi,h0,if_false,zAY h])
theorem zUR(hv:yV m n=aB c)(hx:opT E x=aB (I m))(hy:opT E y=aB (I n))(sd:J4 d Γ.N=aD):Ok P Γ ⟨aB d,.binOp .rem xt x y yt,ty,ps,af,gd⟩ E (E.app [(d,aB (I c))] [(d,0)]):=by
 unfold yV at hv;split at hv
 ·cases hv
 ·rename_i h0
  simp at hv;subst hv;exact fun _=>wY .rem xt yt x y .i64 m n _ rfl rfl (zS sd) hx hy (by simp only[zHi,h0,if_false])
theorem zUS(hx:opT E x=aB (I m))(hy:opT E y=aB (I n))(sd:J4 d Γ.N=aD):Ok P Γ ⟨aB d,.binOp .leq xt x y yt,ty,ps,af,gd⟩ E (E.app [(d,aB (B (decide (m≤n))))] [(d,0)]):=
 fun _=>wY .leq xt yt x y .i64 m n _ rfl rfl (zS sd) hx hy rfl
theorem zS3(hx:opT E x=aB (I m))(hy:opT E y=aB (I n))(sd:J4 d Γ.N=aD):Ok P Γ ⟨aB d,.binOp .gtr xt x y yt,ty,ps,af,gd⟩ E (E.app [(d,aB (B (decide (m> n))))] [(d,0)]):=
 fun _=>wY .gtr xt yt x y .i64 m n _ rfl rfl (zS sd) hx hy rfl
theorem zUT(hx:opT E x=aB (I m))(hy:opT E y=aB (I n))(sd:J4 d Γ.N=aD):Ok P Γ ⟨aB d,.binOp .geq xt x y yt,ty,ps,af,gd⟩ E (E.app [(d,aB (B (decide (m≥n))))] [(d,0)]):=
 fun _=>wY .geq xt yt x y .i64 m n _ rfl rfl (zS sd) hx hy rfl
theorem zUU(hx:opT E x=aB (I m))(hy:opT E y=aB (I n))(sd:J4 d Γ.N=aD):Ok P Γ ⟨aB d,.binOp .eql xt x y yt,ty,ps,af,gd⟩ E (E.app [(d,aB (B (m==n)))] [(d,0)]):=
 fun _=>wY .eql xt yt x y .i64 m n _ rfl rfl (zS sd) hx hy rfl
theorem zNR(hx:opT E x=aB (I m))(hy:opT E y=aB (I n))(sd:J4 d Γ.N=aD):Ok P Γ ⟨aB d,.binOp .neq xt x y yt,ty,ps,af,gd⟩ E (E.app [(d,aB (B (m != n)))] [(d,0)]):=
 fun _=>wY .neq xt yt x y .i64 m n _ rfl rfl (zS sd) hx hy rfl
theorem zB2{b:Bool}(hx:opT E x=aB (B b))(sd:J4 d Γ.N=aD):Ok P Γ ⟨aB d,.unOp .not xt x,ty,ps,af,gd⟩ E (E.app [(d,aB (B (!b)))] [(d,0)]):=
 fun _=>zTd xt x b rfl rfl (zS sd) hx
theorem zUV(hv:rng (0-n)=aB c)(hx:opT E x=aB (I n))(sd:J4 d Γ.N=aD):Ok P Γ ⟨aB d,.unOp .neg xt x,ty,ps,af,gd⟩ E (E.app [(d,aB (I c))] [(d,0)]):=by
 obtain⟨rfl,h⟩:=zBK hv;have:=fun S=>zTe (P:=P) (Γ:=Γ.at S) (E:=E) (o:=⟨aB d,.unOp .neg xt x,ty,ps,af,gd⟩) xt x .i64 n rfl rfl (zS sd) hx
 rw[zAY h]at this;exact this
end
end Go.Ab

namespace Go.Ab
open Go
section
variable {P:Program}{Γ:Ctx}{E:Env}{d:Nat}{x y:Operand}{ty:TypeId}{ps:String}{af:Array Edge}{gd:Option (Nat×Bool)}
class zHz (P:Program) (t:TypeId) (u:outParam T):Prop where
 h:∃ti z,P.info? t=aB ti∧ti.zero=aB z∧u.zOk=aD∧uV u=z.cells.toList∧z.cells.size=u.size
theorem zLg{t:TypeId}{u:T}(ht:zHz P t u)(sd:J4 d Γ.N=aD):Ok P Γ ⟨aB d,.alloc t,ty,ps,af,gd⟩ E (E.app [(d,aB (.ptr u))] [(d,0)]):=by obtain⟨ti,z,h1,h2,h3,h4,h5⟩:=ht.h;exact fun S=>zN4 t ti z u rfl rfl (zS sd) h1 h2 h3 h4 h5
theorem zS4{s i:Nat}{ts:List T}{t:T}(hs:E s=aB (.tup ts))(hi:ts[i]? =aB t)(sd:(J4 d Γ.N&&t.okTup&&(s != d)&&T.okB [(d,0)] (cpT s t [i]))=aD):
  Ok P Γ ⟨aB d,.extract (.tmp s) i,ty,ps,af,gd⟩ E (E.app [(d,aB (cpT s t [i]))] [(d,0)]):=by
 simp only[J3]at sd;exact fun S=>zJ8 s i ts t rfl rfl (zS sd.1.1.1) hs hi (zAX sd.1.1.2) (by grind) sd.2
theorem zAt{t:T}(hx:opT E x=aB t)(hp:zEr E x=aD)(sd:mvB Γ x t d=aD):Ok P Γ ⟨aB d,.nilCheck x,ty,ps,af,gd⟩ E (E.app [(d,aB (vV x t))] [(d,0)]):=by simp only[mvB,J3]at sd;exact fun S=>zTf x t rfl rfl (zS sd.1.1.1) hx hp (zAX sd.1.1.2) (zDq sd.1.2) sd.2
theorem zJE{c:Operand}{b:Bool}{t:T}(hc:opT E c=aB (B b))(hx:opT E (if b then x else y)=aB t)(sd:mvB Γ (if b then x else y) t d=aD):Ok P Γ ⟨aB d,.pick c x y,ty,ps,af,gd⟩ E (E.app [(d,aB (vV (if b then x else y) t))] [(d,0)]):=by simp only[mvB,J3]at sd;exact fun S=>zQs c x y b t rfl rfl (zS sd.1.1.1) hc hx (zAX sd.1.1.2) (zDq sd.1.2) sd.2
theorem zUW{t:TypeId}{s:Nat}{u:T}(hs:E s=aB u)(hu:zQ u)(sd:(J4 d Γ.N&&u.okTup&&(s != d))=aD):
  Ok P Γ ⟨aB d,.box t (.tmp s),ty,ps,af,gd⟩ E (E.app ((d,aB (.ptr u))::pWr d [.slot s u] 0) ((d,0)::uX [.slot s u])):=by
 simp only[J3]at sd;have gf:s≠d:=by grind
 refine fun S=>zTh t (.tmp s) (.slot s u) rfl rfl (zS sd.1.1) (.slot s u) ⟨by grind,by simp,?_⟩
 simp only[yQ]
 grind
end
end Go.Ab

namespace Go.Ab
open Go
def yD{α:Type}(xs ys:List α):Option (List α):=if xs.length+ys.length≤68719476736 then aB (xs++ys)else aC
theorem zDS{α:Type}{xs ys zs:List α}(h:yD xs ys=aB zs):zs=xs++ys∧xs.length+ys.length≤68719476736:=by grind[yD]
section
variable {P:Program}{Γ:Ctx}{E:Env}{d:Nat}{x y:Operand}{ty:TypeId}{ps:String}{af:Array Edge}{gd:Option (Nat×Bool)}
theorem ElT.zsize{t e:TypeId}{ti:TypeInfo}{k:Nat}{u:T}(h:ElT P t e ti k u):∃z,ti.zero=aB z∧z.cells.size=k:=by obtain⟨z,h1,h2⟩:=h.zero;exact⟨z,h1,by rw[←Jy,←h2,wF u h.zok,h.us]⟩
theorem zTj{α:Type}{t e:TypeId}{ti:TypeInfo}{k:Nat}{u:T}{f:α→T}{xs ys zs:List α}{s0 s1:Nat}(ht:ElT P t e ti k u)(hv:yD xs ys=aB zs)(h0:E s0=aB (L k f xs))(h1:E s1=aB (L k f ys))(sd:(J4 d Γ.N&&(s0 != d)&&(s1 != d)&&(s1 != s0))=aD):
  Ok P Γ ⟨aB d,.call { callee:=.builtin .append,args:=#[.tmp s0,.tmp s1],argTypes:=#[t,t] },ty,ps,af,gd⟩ E (E.app [(d,aB (L k f zs)),(s0,aB .any),(s1,aB .any)] [(d,0),(s0,1),(s1,1)]):=by
 obtain⟨rfl,hl⟩:=zDS hv;obtain⟨z,hz,eK⟩:=ht.zsize;simp only[J3]at sd;intro S;have:=zHr (P:=P) (Γ:=Γ.at S) (E:=E) (o:=⟨aB d,.call { callee:=.builtin .append,args:=#[.tmp s0,.tmp s1],argTypes:=#[t,t] },ty,ps,af,gd⟩) t e ti z k s0 s1 (xs.map f) (ys.map f) rfl rfl (zS sd.1.1.1) ht.un ht.info hz ht.size ht.pos eK ht.bytes h0 h1
  (by grind) (by grind) (by grind) (by grind)
 rw[←H6]at this;exact this
theorem zGH{α:Type}{f:α→T}(hf:∀x,(f x).flat=aD):(xs:List α)→kZ (xs.map f)=aD
 | []=>rfl
 |x::xs=>by simp only[Jg,kZ,hf x,zGH hf xs,Km]
theorem zTk{α:Type}{t e:TypeId}{ti:TypeInfo}{k r:Nat}{q:List Nat}{u:T}{f:α→T}{xs ys zs:List α}{s0:Nat}(ht:ElT P t e ti k u)(hf:∀x,(f x).flat=aD)(hv:yD xs ys=aB zs)(h0:E s0=aB (L k f xs))(h1:uL E y=aB (r,q,L k f ys))(sd:(J4 d Γ.N&&(s0 != d))=aD):
  Ok P Γ ⟨aB d,.call { callee:=.builtin .append,args:=#[.tmp s0,y],argTypes:=#[t,t] },ty,ps,af,gd⟩ E (E.app [(d,aB (L k f zs)),(s0,aB .any)] [(d,0),(s0,1)]):=by
 obtain⟨rfl,hl⟩:=zDS hv;obtain⟨z,hz,eK⟩:=ht.zsize;simp only[J3]at sd;intro S;have:=zHs (P:=P) (Γ:=Γ.at S) (E:=E) (o:=⟨aB d,.call { callee:=.builtin .append,args:=#[.tmp s0,y],argTypes:=#[t,t] },ty,ps,af,gd⟩) t e ti z k s0 y r q (xs.map f) (ys.map f) rfl rfl (zS sd.1) ht.un ht.info hz ht.size ht.pos eK ht.bytes h0 h1 (zGH hf ys)
  (by grind) (by grind)
 rw[←H6]at this;exact this
end
end Go.Ab

namespace Go.Ab
open Go
abbrev IK(k:IntKind)(n:Int):T:=.lit (.int k n)
abbrev Str(s:ByteArray):T:=.lit (.string s)
abbrev Pt{α:Type}(f:α→T)(x:α):T:=.ptr (f x)
abbrev Ro{α:Type}(f:α→T)(x:α):T:=.ro (f x)
abbrev A2{α:Type}(f:α→T)(x:α×α):T:=.agg [f x.1,f x.2]
theorem bd{α β:Type}{o:Option α}{f:α→Option β}{r:β}(h:o.bind f=aB r):∃v,o=aB v∧f v=aB r:=by
 cases o with
 |none=>simp at h
 |some v=>grind
theorem cT{α:Type}{b:Bool}{x y:α}{z:α}(hc:b=aD)(h:cond b x y=z):x=z:=by grind
theorem cF{α:Type}{b:Bool}{x y:α}{z:α}(hc:b=aE)(h:cond b x y=z):y=z:=by grind
theorem sI{α:Type}{x y:α}(h:aB x=aB y):x=y:=Hk.inj h
section
variable {P:Program}{Γ:Ctx}{pn:sT}{E E':Env}{Q:Exit→Env→Prop}{c:Code}{id id':Nat}
theorem nA(h:CW P Γ pn c E Q):yA P Γ pn c Q .normal E:=h
theorem xA(h:Q (.exit id) E):yA P Γ pn c Q (.exit id) E:=h
theorem rA(h:Q .ret E):yA P Γ pn c Q .ret E:=h
theorem nB(h:Q .normal E):yB id Q .normal E:=h
theorem rB(h:Q .ret E):yB id Q .ret E:=h
theorem xB(h:Q .normal E):yB id Q (.exit id) E:=by simp only[yB,if_true];exact h
theorem neX:Exit.exit id≠.normal:=by simp
theorem neR:Exit.ret≠.normal:=by simp
theorem RW.cases{ops:Array Oper}{os:List Oper}(s:Nat)(b:Bool)(hb:E s=aB (B b))(ht:b=aD→RW P Γ pn ops os (E.app [(s,aB (B aD))] []) Q)(hf:b=aE→RW P Γ pn ops os (E.app [(s,aB (B aE))] []) Q):RW P Γ pn ops os E Q:=by
 have key:∀c:Bool,b=c→zO Γ E (E.app [(s,aB (B c))] []):=by
  rintro c rfl a w hs
  refine hs.weaken fun s' t h=>?_
  by_cases e:s=s'
  ·grind[Env.app,Wr.find]
  ·simp only[Env.app,Wr.find,e,if_false]at h
   grind
 cases hc:b with
 |true=>grind[ghost]
 |false=>grind[ghost]
end
theorem yG{α:Type}{k:Nat}{f:α→T}{xs:List α}{i:Int}{v:α}{p:List Nat}{u:T}(h:ixO xs i=aB v)(hr:(f v).get p=aB u):(L k f xs).get (i.toNat::p)=aB u:=by simp[T.get,(zBL h).2,hr]
theorem uD{t u:T}{p:List Nat}(h:t.get p=aB u):(T.ptr t).get (0::p)=aB u:=h
theorem uE{xs:List T}{x u:T}{j:Nat}{p:List Nat}(hj:xs[j]? =aB x)(h:x.get p=aB u):(T.agg xs).get (j::p)=aB u:=by grind[T.get]
theorem zF0{α:Type}{k:Nat}{f:α→T}{xs:List α}{i:Int}{v w:α}{p:List Nat}{u:T}(h:ixO xs i=aB v)(hr:(f v).set p u=f w):(L k f xs).set (i.toNat::p) u=L k f (xs.set i.toNat w):=by simp[L,T.set,(zBL h).2,hr,List.map_set]
theorem zC0{t u t':T}{p:List Nat}(h:t.set p u=t'):(T.ptr t).set (0::p) u=T.ptr t':=by simp[T.set,h]
class Enc {α:Type} (f:α→T):Prop where
 clean:∀x,zQ (f x)
 rofree:∀x,wW (f x)=aD
 strip:∀x,strip (f x)=f x
 okTup:∀x,(f x).okTup=aD
 rook:∀x,zDL (f x)=aD
theorem zF1{α:Type}{f:α→T}(h:∀x,wW (f x)=aD):(xs:List α)→vB (xs.map f)=aD
 | []=>rfl
 |x::xs=>by simp only[Jg,vB,h x,zF1 h xs,Km]
theorem zF2{α:Type}{f:α→T}(h:∀x,zDL (f x)=aD):(xs:List α)→zAU (xs.map f)=aD
 | []=>rfl
 |x::xs=>by simp only[Jg,zAU,h x,zF2 h xs,Km]
theorem vX{α:Type}{f g:α→T}(h:∀x,strip (f x)=g x):(xs:List α)→xQ (xs.map f)=xs.map g
 | []=>rfl
 |x::xs=>by simp only[Jg,xQ,h x,vX h xs]
instance:Enc I:=⟨zLf,fun _=>rfl,fun _=>rfl,fun _=>rfl,fun _=>rfl⟩
instance:Enc B:=⟨zQ4,fun _=>rfl,fun _=>rfl,fun _=>rfl,fun _=>rfl⟩
instance{k:IntKind}:Enc (IK k):=⟨fun _=>by simp[zQ,yF],fun _=>rfl,fun _=>rfl,fun _=>rfl,fun _=>rfl⟩
instance:Enc Str:=⟨fun _=>by simp[zQ,yF],fun _=>rfl,fun _=>rfl,fun _=>rfl,fun _=>rfl⟩
instance{α:Type}{k:Nat}{f:α→T}[h:Enc f]:Enc (L k f):=
 ⟨fun _=>zLe h.clean,fun xs=>by simp only[wW];exact zF1 h.rofree xs,fun xs=>by simp only[L,strip,vX h.strip xs],fun _=>rfl,fun xs=>by simp only[zDL,zF2 h.rook xs]⟩
instance{α:Type}{f:α→T}[h:Enc f]:Enc (A2 f):=
 ⟨fun x=>by simp only[zQ,yF,yP];exact⟨h.clean _,h.clean _,trivial⟩,fun x=>by simp only[wW,vB,h.rofree,Km],fun x=>by simp only[A2,strip,xQ,h.strip],
  fun x=>by simp only[T.okTup,zW,h.okTup,Km],fun x=>by simp only[zDL,zAU,h.rook,Km]⟩
instance{α:Type}{f:α→T}[h:Enc f]:Enc (Pt f):=
 ⟨fun x=>by simp only[zQ,yF];exact h.clean x,fun x=>by simp only[wW,h.rofree],fun x=>by simp only[Pt,strip,h.strip],fun _=>rfl,fun x=>by simp only[zDL,h.rook]⟩
class vM {α:Type} (f g:α→T):Prop where
 h:∀x,strip (f x)=g x
instance{α:Type}{f:α→T}[h:Enc f]:vM f f:=⟨h.strip⟩
instance{α:Type}{k:Nat}{f g:α→T}[h:vM f g]:vM (L k f) (L k g):=⟨fun xs=>by simp only[L,strip,vX h.h xs]⟩
instance{α:Type}{k:Nat}{g:α→T}:vM (Ro (L k g)) (L k g):=⟨fun _=>rfl⟩
instance{α:Type}{g:α→T}:vM (Ro (Pt g)) (Pt g):=⟨fun _=>rfl⟩
theorem stA{xs ys:List T}(h:xQ xs=ys):strip (.agg xs)=.agg ys:=by grind[strip]
theorem stC{x y:T}{xs ys:List T}(h:strip x=y)(h2:xQ xs=ys):xQ (x::xs)=y::ys:=by grind[xQ]
section
variable {E:Env}{rw:Rw}{i s r:Nat}{q:List Nat}{x:Operand}
theorem zNS{α:Type}{k:Nat}{f g:α→T}{xs:List α}(h:vM f g):clo E (L k f xs)=.ro (L k g xs):=by simp only[clo,L,strip,vX h.h xs]
theorem zWA{t u:T}(h:strip t=u):clo E (.ptr t)=.ro (.ptr u):=by grind[clo,strip]
theorem zGI{tr u:T}(hr:E r=aB tr)(hg:tr.get q.reverse=aB u)(h4:zAB u=aD):sG E 4 r q=aB (r,q,u):=by grind[zAB,sG]
theorem zNT{α:Type}{k:Nat}{f g:α→T}{xs:List α}{tr:T}(hr:E r=aB tr)(hg:tr.get q.reverse=aB (L k f xs))(h:vM f g):clo E (.same r q)=.ro (L k g xs):=by simp only[clo,zGI hr hg rfl,T.single,if_true,L,strip,vX h.h xs]
theorem zTl{α:Type}{k l h:Nat}{f g:α→T}{xs:List α}{tr:T}(hr:E r=aB tr)(hg:tr.get q.reverse=aB (L k f xs))(hs:vM f g)(h1:l≤h)(h2:h≤xs.length):clo E (.sub r q k l h)=.ro (L k g ((xs.drop l).take (h-l))):=by simp only[clo,zGI hr hg rfl,L,vX hs.h xs,Jo,h1,h2,and_self,if_true,Qf,G9]
theorem zWB{xs ys:List T}(h:zBi E xs=ys):clo E (.agg xs)=.agg ys:=by grind[clo]
theorem zWC:zBi E []=[]:=rfl
theorem zWD{x y:T}{xs ys:List T}(h:clo E x=y)(h2:zBi E xs=ys):zBi E (x::xs)=y::ys:=by grind[zBi]
mutual
theorem zGJ(s:Nat):(t:T)→t.okTup=aD→tU E [] s t=aD
 |.agg xs,h=>by simp only[tU,T.okTup]at h ⊢;exact zF3 s xs h
 |.tup _,h=>by grind[T.okTup]
 |.same r q,_|.sub r q _ _ _,_=>by grind[tU]
 |.sl _ _,_|.ptr _,_=>by rfl
 |.lit _,_|.ro _,_|.any,_|.addr _ _,_=>by rfl
theorem zF3(s:Nat):(xs:List T)→zW xs=aD→zAs E [] s xs=aD
 | [],_=>rfl
 |x::xs,h=>by simp only[zW,J3]at h;simp only[zAs,zGJ s x h.1,zF3 s xs h.2,Km]
end
theorem agC{u:T}(t:T)(h:opT E x=aB t)(h1:clo E t=u)(h2:t.okTup=aD):zB1 E [] i x u:=.inr ⟨t,h,h1,by
 cases x with
 |tmp s=>exact zGJ s t h2
 |_=>rfl⟩
end
section
variable {P:Program}{Γ:Ctx}{E:Env}{d:Nat}{x y:Operand}{ty:TypeId}{ps:String}{af:Array Edge}{gd:Option (Nat×Bool)}
abbrev zBM(res:List T):Prop:=yI res∧zW res=aD∧vB res=aD
theorem zGq:zBM []:=⟨trivial,rfl,rfl⟩
theorem zGr{α:Type}{f:α→T}{x:α}{ts:List T}(h:Enc f)(h2:zBM ts):zBM (f x::ts):=
 ⟨⟨h.clean x,h2.1⟩,by simp only[zW,h.okTup,h2.2.1,Km],by simp only[vB,h.rofree,h2.2.2,Km]⟩
abbrev zAI(P:Program)(f:FuncId):Prop:=∀args w,(callFunc f args).run P w=.ok (.enter f args) w
theorem zBk{f:FuncId}{xs:List Operand}{ats:Array TypeId}{us res:List T}(gm:zAI P f)(hc:FnC P f us res [])(gg:wB E [] 0 xs us)(gv:zBM res)(sd:J4 d Γ.N=aD):
  Ok P Γ ⟨aB d,.call { callee:=.value (.func f),args:=xs.toArray,argTypes:=ats },ty,ps,af,gd⟩ E (E.app (cWr d res []) (wV d [])):=
 fun _S=>zLb f (.func f) xs ats us res [] rfl rfl (zS sd) gm rfl hc gg .nil gv
theorem zQ5{f:FuncId}{xs:List Operand}{ats:Array TypeId}{us res:List T}(gm:zAI P f)(hc:FnC P f us res [])(gc:xs.length=us.length)(gg:∀(i:Nat) u,us[i]? =aB u→ ∃x,xs[i]? =aB x∧opT E x=aB u∧u.flat=aD)(gv:yI res∧zW res=aD)(sd:J4 d Γ.N=aD):
  Ok P Γ ⟨aB d,.call { callee:=.value (.func f),args:=xs.toArray,argTypes:=ats },ty,ps,af,gd⟩ E (E.app (cWr d res []) (wV d [])):=
 fun _S=>zNI f (.func f) xs ats us res rfl rfl (zS sd) gm rfl hc gc gg gv
class sU (P:Program) (S:TypeId) (j:Nat) (off:outParam Nat):Prop where
 h:∃fs f fi,P.underlying S=aB (.struct fs)∧fs[j]? =aB f∧P.info? f.type=aB fi∧fi.size≠0∧off=f.offset
theorem zWE{S:TypeId}{j off r:Nat}{q:List Nat}{xs:List T}{u:T}(ht:sU P S j off)(hx:uL E x=aB (r,q,.ptr (.agg xs)))(hu:xs[j]? =aB u)(gH:T.sizes (xs.take j)=off)(sd:J4 d Γ.N=aD):
  Ok P Γ ⟨aB d,.fieldAddr S x j,ty,ps,af,gd⟩ E (E.app [(d,aB (.addr r (j::0::q)))] [(d,0)]):=by
 obtain⟨fs,f,fi,h1,h2,h3,h4,h5⟩:=ht.h;exact fun _=>zUJ x S fs f fi j r q xs u rfl rfl (zS sd) h1 h2 h3 h4 hx hu (by omega)
theorem zNU{S:TypeId}{j off:Nat}{xs:List T}{u:T}(ht:sU P S j off)(hx:opT E x=aB (.ro (.ptr (.agg xs))))(hu:xs[j]? =aB u)(gH:T.sizes (xs.take j)=off)(sd:J4 d Γ.N=aD):
  Ok P Γ ⟨aB d,.fieldAddr S x j,ty,ps,af,gd⟩ E (E.app [(d,aB (.ro (.ptr u)))] [(d,0)]):=by
 obtain⟨fs,f,fi,h1,h2,h3,h4,h5⟩:=ht.h;exact fun _=>zNw x S fs f fi j xs u rfl rfl (zS sd) h1 h2 h3 h4 hx hu (by omega)
def zN{α:Type}(xs:List α)(l h:Int):Option (List α):=if 0≤l∧l≤h∧h≤(xs.length:Int)then aB ((xs.drop l.toNat).take (h.toNat-l.toNat))else aC
theorem zUX{α:Type}{t e:TypeId}{ti:TypeInfo}{r k:Nat}{q:List Nat}{f:α→T}{xs ys:List α}{lo hi:Option Operand}{l h:Int}(ht:zCz P t e ti k)(hv:zN xs l h=aB ys)(hx:uL E x=aB (r,q,.ro (L k f xs)))(gX:kG E lo 0 l.toNat)(ec:kG E hi xs.length h.toNat)(sd:J4 d Γ.N=aD):
  Ok P Γ ⟨aB d,.slice t x lo hi aC,ty,ps,af,gd⟩ E (E.app [(d,aB (.ro (L k f ys)))] [(d,0)]):=by
 unfold zN at hv;split at hv
 ·rename_i hc
  simp at hv;subst hv;intro S;have:=zIe (P:=P) (Γ:=Γ.at S) (E:=E) (o:=⟨aB d,.slice t x lo hi aC,ty,ps,af,gd⟩) x lo hi t e ti r q k (xs.map f) l.toNat h.toNat rfl rfl (zS sd) ht.un ht.info ht.size hx gX (by grind) (by omega) (by simp;omega);simpa[L,Qf,G9]using this
 ·cases hv
theorem zNV{α:Type}{t e:TypeId}{ti:TypeInfo}{r k:Nat}{q:List Nat}{f:α→T}{xs ys:List α}{lo hi:Option Operand}{l h:Int}(ht:zCz P t e ti k)(hv:zN xs l h=aB ys)(hx:uL E x=aB (r,q,L k f xs))(gX:kG E lo 0 l.toNat)(ec:kG E hi xs.length h.toNat)(sd:(J4 d Γ.N&&(r != d))=aD):
  Ok P Γ ⟨aB d,.slice t x lo hi aC,ty,ps,af,gd⟩ E (E.app [(d,aB (.sub r q k l.toNat h.toNat))] [(d,0)]):=by
 unfold zN at hv;simp only[J3]at sd;split at hv
 ·rename_i hc
  intro S;exact zHk (P:=P) (Γ:=Γ.at S) (E:=E) (o:=⟨aB d,.slice t x lo hi aC,ty,ps,af,gd⟩) x lo hi t e ti r q k (xs.map f) l.toNat h.toNat rfl rfl (zS sd.1) ht.un ht.info ht.size hx gX (by grind) (by omega) (by simp;omega) (by grind)
 ·cases hv
end
end Go.Ab

namespace Go.Ab
open Go
theorem zAZ{t:T}(h:zQ t):zQ t:=h
theorem zDT{α:Type}{f:α→T}{k:Nat}{xs:List α}(hf:∀x,zQ (f x)):zQ (L k f xs):=zLe hf
theorem zNW{t:T}(h:zQ t):zQ (.ptr t):=by simpa only[zQ,yF]using h
theorem zH0{xs:List T}(h:yI xs):zQ (.agg xs):=by simpa only[zQ,yF]using h
section
variable {P:Program}{Γ:Ctx}{pn:sT}{E E':Env}{Q:Exit→Env→Prop}{c c1 c2:Code}{x:Operand}
theorem CW.condT(hx:opT E x=aB (B aD))(h:CW P Γ pn c1 E Q):CW P Γ pn (.cond x c1 c2) E Q:=by grind[CW.cond]
theorem CW.condF(hx:opT E x=aB (B aE))(h:CW P Γ pn c2 E Q):CW P Γ pn (.cond x c1 c2) E Q:=by grind[CW.cond]
theorem CW.casesB(b:Bool)(ht:b=aD→CW P Γ pn c E Q)(hf:b=aE→CW P Γ pn c E Q):CW P Γ pn c E Q:=by grind
theorem zUY{wr:Wr}{chg:Chg}{s:Nat}{t:T}(h:E s=aB t)(hf:wr.find s=aC:=by rfl)(hb:t.okB chg=aD:=by rfl):E.app wr chg s=aB t:=by grind[Env.app]
theorem yY.gh{ops:Array Oper}{o:Oper}{E1:Env}(hg:zO Γ E E1)(h:yY P Γ ops o E1 E'):yY P Γ ops o E E':=fun a w K Q hs hK=>h a w K Q (hg a w hs) hK
theorem zDs{t:T}(h:opT E x=aB (.ro (.ptr t))):zEr E x=aD:=by simp[zEr,h]
theorem zCk{r:Nat}{q:List Nat}{t:T}(h:uL E x=aB (r,q,.ptr t)):zEr E x=aD:=by grind[zEr]
end
theorem zUZ{E:Env}{n:Nat}:kG E aC n (n:Int).toNat:=by simp[kG]
theorem zVa{E:Env}:kG E aC 0 (0:Int).toNat:=by simp[kG]
theorem zTm{E:Env}{x:Operand}{n:Int}{d:Nat}(h0:0≤n)(h:opT E x=aB (I n)):kG E (aB x) d n.toNat:=⟨.i64,by grind⟩
theorem uY{α:Type}{xs ys:List α}{l h:Int}(hv:zN xs l h=aB ys):0≤l∧l≤h∧h≤xs.length∧ys=(xs.drop l.toNat).take (h.toNat-l.toNat):=by grind[zN]
theorem zGK{α:Type}{xs ys:List α}{l h:Int}(hv:zN xs l h=aB ys):0≤l:=(uY hv).1
theorem zGL{α:Type}{xs ys:List α}{l h:Int}(hv:zN xs l h=aB ys):0≤h:=by have:=uY hv;omega
theorem zQ6{E:Env}{r k:Nat}{q:List Nat}{α:Type}{l h:Int}{f g:α→T}{xs ys:List α}{tr:T}(hr:E r=aB tr)(hg:tr.get q.reverse=aB (L k f xs))(hs:vM f g)(hv:zN xs l h=aB ys):
  clo E (.sub r q k l.toNat h.toNat)=.ro (L k g ys):=by
 obtain⟨h1,h2,h3,rfl⟩:=uY hv
 grind[zTl]
section
variable {P:Program}{Γ:Ctx}{E E':Env}{d:Nat}{x y:Operand}{ty:TypeId}{ps:String}{af:Array Edge}{gd:Option (Nat×Bool)}
theorem zBl{o:Oper}{e b:Bool}{d:Nat}{wr:Wr}{chg:Chg}(he:e=b)(h:Ok P Γ o E (E.app ((d,aB (B e))::wr) chg)):Ok P Γ o E (E.app ((d,aB (B b))::wr) chg):=he▸h
theorem zVb{t:TypeId}{u tr t0:T}{r:Nat}{q:List Nat}(ht:zQ3 P t u)(hx:uL E x=aB (r,q,.ptr t0))(hr:E r=aB tr)(hg:tr.get (0::q).reverse=aB u)(sd:(J4 d Γ.N&&tr.locd (0::q).reverse&&(r != d)&&T.okB [(d,0)] (cpT r u (0::q)))=aD):
  Ok P Γ ⟨aB d,.load t x,ty,ps,af,gd⟩ E (E.app [(d,aB (cpT r u (0::q)))] [(d,0)]):=by
 obtain⟨ds,ti,h1,h2,h3,h4⟩:=ht.h;simp only[J3]at sd;exact fun S=>zIb x t ds ti r (0::q) tr u rfl rfl (zS sd.1.1.1) h1 h2 h3 h4 (zB0.ptr hx) hr hg sd.1.1.2 (by grind) sd.2
theorem zS5{t:TypeId}{ti:TypeInfo}{r s:Nat}{q:List Nat}{tr tr' u0 u:T}(hi:P.info? t=aB ti)(gx:(ti.size==u.size&&J4 0 ti.size)=aD)(hx:∀S,zB0 (Γ.at S) E x r q)(hr:E r=aB tr)(hg:tr.get q.reverse=aB u0)(gA:tr.set q.reverse u=tr')(hy:E s=aB u)(hu:zQ u)
  (sd:(tr.single&&tr.locd q.reverse&&vR u u0&&(r != s)&&u.okTup)=aD):Ok P Γ ⟨aC,.store t x (.tmp s),ty,ps,af,gd⟩ E (E.app ((r,aB tr')::sWr r q (.slot s u)) ((r,q.length)::uX [.slot s u])):=by
 simp only[J3]at sd gx;subst gA;intro S;refine zG5 (P:=P) (Γ:=Γ.at S) (E:=E) (o:=⟨aC,.store t x (.tmp s),ty,ps,af,gd⟩) t ti x (.tmp s) r q tr u0 (.slot s u) rfl rfl hi (by grind[zY.tree]) (zS gx.2) (hx S) hr sd.1.1.1.1 hg sd.1.1.1.2 sd.1.1.2 (.slot s _)
  ⟨by grind,by simp,?_⟩
 grind[yQ]
theorem zWF{t:TypeId}{ti:TypeInfo}{r s:Nat}{q:List Nat}{tr tr' u0 u:T}(hi:P.info? t=aB ti)(gx:(ti.size==u.size&&J4 0 ti.size)=aD)(hx:opT E x=aB (.addr r q))(hr:E r=aB tr)(hg:tr.get q.reverse=aB u0)(gA:tr.set q.reverse u=tr')(hy:E s=aB u)(hu:zQ u)
  (sd:(tr.single&&tr.locd q.reverse&&vR u u0&&(r != s)&&u.okTup)=aD):Ok P Γ ⟨aC,.store t x (.tmp s),ty,ps,af,gd⟩ E (E.app ((r,aB tr')::sWr r q (.slot s u)) ((r,q.length)::uX [.slot s u])):=
 zS5 hi gx (fun _=>zB0.addr hx) hr hg gA hy hu sd
theorem zS6{t:TypeId}{ti:TypeInfo}{r s:Nat}{q:List Nat}{tr tr' u0 u t0:T}(hi:P.info? t=aB ti)(gx:(ti.size==u.size&&J4 0 ti.size)=aD)(hx:uL E x=aB (r,q,.ptr t0))(hr:E r=aB tr)(hg:tr.get (0::q).reverse=aB u0)(gA:tr.set (0::q).reverse u=tr')(hy:E s=aB u)(hu:zQ u)
  (sd:(tr.single&&tr.locd (0::q).reverse&&vR u u0&&(r != s)&&u.okTup)=aD):Ok P Γ ⟨aC,.store t x (.tmp s),ty,ps,af,gd⟩ E (E.app ((r,aB tr')::sWr r (0::q) (.slot s u)) ((r,(0::q).length)::uX [.slot s u])):=
 zS5 hi gx (fun _=>zB0.ptr hx) hr hg gA hy hu sd
theorem zF4{G:Gh}{s:Nat}:(xs:List T)→zW xs=aD→ ∀(p:List Nat)(i j:Nat)(u:T),xs[j]? =aB u→ ∃l1 l2,zR G s xs p i=l1++vals G s u ((i+j)::p)++l2∧l1.length=T.sizes (xs.take j)
 | [],_,_,_,_,_,h=>by simp at h
 |x::xs,ht,p,i,j,u,h=>by
  simp only[zW,J3]at ht;cases j with
  |zero=>simp at h;subst h;exact⟨[],zR G s xs p (i+1),by rfl,by rfl⟩
  |succ j=>
   obtain⟨l1,l2,h1,h2⟩:=zF4 xs ht.2 p (i+1) j u (by grind);refine⟨vals G s x (i::p)++l1,l2,by rw[zR,h1,show i+(j+1)=i+1+j from by omega];simp,?_⟩;rw[Jb,wA x _ (by rintro ys rfl;grind[T.okTup]),h2,K6,T.sizes]
theorem zNX{S:TypeId}{j off s:Nat}{xs:List T}{u:T}(ht:sU P S j off)(hv:∃ds ti fs f,P.underlying S=aB (.struct fs)∧fs[j]? =aB f∧P.underlying f.type=aB ds∧P.info? f.type=aB ti∧zDG ds= !u.single∧ti.size=u.size)(hx:E s=aB (.agg xs))(hu:xs[j]? =aB u)(gH:T.sizes (xs.take j)=off)
  (sd:(J4 d Γ.N&&zW xs&&u.okTup&&(s != d)&&T.okB [(d,0)] (cpT s u [j]))=aD):
  Ok P Γ ⟨aB d,.field S (.tmp s) j,ty,ps,af,gd⟩ E (E.app [(d,aB (cpT s u [j]))] [(d,0)]):=by
 obtain⟨fs,f,fi,h1,h2,h3,h4,h5⟩:=ht.h;obtain⟨ds,ti,fs',f',g1,g2,g3,g4,g5,g6⟩:=hv;simp only[J3]at sd;rw[h1]at g1;simp at g1;subst g1;rw[h2]at g2;simp at g2;subst g2;rw[h3]at g4;simp at g4;subst g4;intro S';refine xF.value rfl fun a w G ga=>?_
 obtain⟨k1,k2,_⟩:=ga.ent s _ hx;simp only[R]at k2;have k3:=zAG xs [] 0 j u k2 hu;simp only[J7]at k3;have gf:s≠d:=by grind
 have gU:∀ys,u≠.tup ys:=zAX sd.1.1.2;have hk:=G.put_keep (w:=w) (w':=w) rfl d (fun z=>G.hd s (z++[j]));have hz:∀z,(G.put d (fun z=>G.hd s (z++[j]))).hd d (z++[])=G.hd s (z++[j]):=by grind[Gh.put_self]
 refine⟨uW G s u [j],w,?_,_,wK ga rfl (zS sd.1.1.1.1) (fun z=>G.hd s (z++[j])) (fun z=>ga.mem.one _ _) _ _ (by grind[zAq])
  (zCH (fun p=>G.put_other _ p gf) u [j] [] hz gU (hk.keepR (by grind[zA7,sC])) k3) (sC s u [j])⟩
 obtain⟨l1,l2,e1,e2⟩:=zF4 (G:=G) (s:=s) xs sd.1.1.1.2 [] 0 j u hu;simp only[J7]at e1;have e3:l1.length=f.offset:=by omega
 have e4:=wA (G:=G) (s:=s) u [j] gU;have mB:(part f.type (zR G s xs [] 0).toArray f.offset).run P w=.ok (uW G s u [j]) w:=by
  rw[e1];cases u with
  |agg ys=>
   simp[T.single]at g5;simp only[vals,T.size]at e4 g6 ⊢
   simp[part,qJ g3,g5,sizeOf,typeInfo,h3,uW]
   grind
  |tup ys=>grind
  |_=>
   simp[T.single]at g5;simp[part,qJ g3,g5,uW,vals,←e3]
 simp[execOp,xD k1,mkV,Instr.field,run_underlying h1,h2,asAgg,mB]
theorem zLh{α:Type}{t e:TypeId}{ti:TypeInfo}{k:Nat}{u:T}{n:Nat}{a:Int}{f:α→T}{z:α}(ht:ElT P t e ti k u)(hz:f z=u)(hn:zU a=aB n)(hx:opT E x=aB (I a))(hy:opT E y=aB (I a))(sd:J4 d Γ.N=aD):
  Ok P Γ ⟨aB d,.makeSlice t x y,ty,ps,af,gd⟩ E (E.app [(d,aB (L k f (J1 n z)))] [(d,0)]):=by
 have:=zTi (P:=P) (Γ:=Γ) (E:=E) (d:=d) (ty:=ty) (ps:=ps) (af:=af) (gd:=gd) ht hn hx hn hy (Ji _) sd;rw[←hz]at this;simpa[L]using this
theorem zS7{t e:TypeId}{ti:TypeInfo}{k:Nat}{u:T}(ht:ElT P t e ti k u)(sd:J4 d Γ.N=aD):Ok P Γ ⟨aB d,.buildSlice t 0 #[],ty,ps,af,gd⟩ E (E.app [(d,aB (.sl k []))] [(d,0)]):=
 fun _=>zFh t e ti k rfl rfl (zS sd) ht.un ht.info
theorem zTn{t:TypeId}{s:ByteArray}(hu:P.underlying t=aB .string)(hx:opT E x=aB (Str s))(sd:J4 d Γ.N=aD):
  Ok P Γ ⟨aB d,.call { callee:=.builtin .len,args:=#[x],argTypes:=#[t] },ty,ps,af,gd⟩ E (E.app [(d,aB (I s.size))] [(d,0)]):=by
 intro S;refine uT (.int .i64 s.size) rfl rfl (zS sd) fun a w G ga=>?_
 have h1:=(yL ga hx).1;simp[execOp,resolve,invoke,builtin,h1,Builtin.len_,run_underlying hu,goInt]
theorem zI3(t:TypeId)(x y:Value):Op.equal t x y=Op.equalIn (9999+1) t x y:=rfl
theorem zEM{P:Program}{w:World}{t:TypeId}{k:IntKind}{a b:Int}(n:Nat)(h:P.underlying t=aB (.int k)):(Op.equalIn (n+1) t (.int k a) (.int k b)).run P w=.ok (a==b) w:=by simp only[Op.equalIn,Sem.run_bind,run_underlying h];simp
end
end Go.Ab

namespace Go.Ab
open Go
def zAJ:List Nat→Bool
 | []=>aD
 |x::xs=> !xs.contains x&&zAJ xs
theorem zCl:{l:List Nat}→zAJ l=aD→l.Nodup
 | [],_=>by simp
 |x::xs,h=>by simp only[zAJ,J3,Hl,Ld,decide_eq_false_iff_not]at h;exact Kf.2 ⟨h.1,zCl h.2⟩
def zBm(E:Env):List zY→Prop
 | []=>True
 |.slot s t::l=>(E s=aB t∧zQ t∧t.okTup=aD)∧zBm E l
 |.zero u::l=>u.zOk=aD∧zBm E l
theorem zBm.get{E:Env}:(l:List zY)→zBm E l→(∀s t,zY.slot s t∈l→E s=aB t∧zQ t∧t.okTup=aD)∧ ∀u,zY.zero u∈l→u.zOk=aD
 | [],_=>⟨fun _ _ h=>by simp at h,fun _ h=>by simp at h⟩
 |.slot s t::l,h=>by
  obtain⟨h1,h2⟩:=zBm.get l h.2;exact⟨fun s' t' hm=>by
   rcases Jl.1 hm with e|hm
   ·cases e;exact h.1
   ·exact h1 s' t' hm,fun u hm=>by
   rcases Jl.1 hm with e|hm
   ·cases e
   ·exact h2 u hm⟩
 |.zero u::l,h=>by
  obtain⟨h1,h2⟩:=zBm.get l h.2;exact⟨fun s' t' hm=>by
   rcases Jl.1 hm with e|hm
   ·cases e
   ·exact h1 s' t' hm,fun u' hm=>by
   rcases Jl.1 hm with e|hm
   ·cases e;exact h.1
   ·exact h2 u' hm⟩
section
variable {E:Env}
theorem pkN:zBm E []:=trivial
theorem pkS{s:Nat}{t:T}{l:List zY}(h:E s=aB t)(hc:zQ t)(h3:t.okTup=aD)(hl:zBm E l):zBm E (.slot s t::l):=⟨⟨h,hc,h3⟩,hl⟩
theorem pkZ{u:T}{l:List zY}(h:u.zOk=aD)(hl:zBm E l):zBm E (.zero u::l):=⟨h,hl⟩
theorem zBm.parts{d:Nat}{l:List zY}(h:zBm E l)(hn:zAJ (d::yQ l)=aD):uG E d l:=⟨(zBm.get l h).1,(zBm.get l h).2,zCl hn⟩
def zB7(E:Env)(zs:List T)(ps:List zY):List (Nat×Operand)→List (Nat×zY)→Prop
 | [],[]=>True
 |x::xs,q::qs=>(x.1=q.1∧kQ E x.2 q.2∧ps[q.1]? =aB q.2∧ ∃u,zs[q.1]? =aB u∧u.size=q.2.tree.size)∧zB7 E zs ps xs qs
 |_,_=>False
theorem bqN{zs:List T}{ps:List zY}:zB7 E zs ps [] []:=trivial
theorem bqC{zs:List T}{ps:List zY}{i:Nat}{x:Operand}{q:zY}{xs:List (Nat×Operand)}{qs:List (Nat×zY)}(h:kQ E x q)(hl:zB7 E zs ps xs qs)(h1:ps[i]? =aB q:=by rfl)(h2:∃u,zs[i]? =aB u∧u.size=q.tree.size:=by exact⟨_,rfl,rfl⟩):zB7 E zs ps ((i,x)::xs) ((i,q)::qs):=⟨⟨rfl,h,h1,h2⟩,hl⟩
theorem zB7.ix{zs:List T}{ps:List zY}:(pl:List (Nat×Operand))→(qs:List (Nat×zY))→zB7 E zs ps pl qs→pl.map (·.1)=qs.map (·.1)
 | [],[],_=>rfl
 |x::xs,q::qs,h=>by simp[h.1.1,zB7.ix xs qs h.2]
 | [],_::_,h=>by simp[zB7]at h
 |_::_,[],h=>by simp[zB7]at h
theorem zB7.get{zs:List T}{ps:List zY}:(pl:List (Nat×Operand))→(qs:List (Nat×zY))→zB7 E zs ps pl qs→ ∀(j:Nat)(x:Nat×Operand)(q:Nat×zY),pl[j]? =aB x→qs[j]? =aB q→kQ E x.2 q.2∧q.2∈ps∧ ∃u,zs[q.1]? =aB u∧u.size=q.2.tree.size
 | [],[],_,j,_,_,h,_=>by simp at h
 |x::xs,q::qs,h,j,x',q',h1,h2=>by
  cases j with
  |zero=>simp at h1 h2;subst h1;subst h2;exact⟨h.1.2.1,Kx h.1.2.2.1,h.1.2.2.2⟩
  |succ j=>exact zB7.get xs qs h.2 j x' q' (by simpa using h1) (by simpa using h2)
 | [],_::_,h,_,_,_,_,_=>by simp[zB7]at h
 |_::_,[],h,_,_,_,_,_=>by simp[zB7]at h
end
class zEB (P:Program) (t:TypeId) (zs:outParam (List T)):Prop where
 h:∃(place:Nat→Option (Nat×Nat))(z:Value),(∀parts,P.built t parts=Instr.fill place z.cells parts)∧tO zs=z.cells.toList∧zAe zs=aD∧ ∀i u,zs[i]? =aB u→place i=aB (T.sizes (zs.take i),u.size)
section
variable {P:Program}{Γ:Ctx}{E E':Env}{d:Nat}{x y:Operand}{ty:TypeId}{ps:String}{af:Array Edge}{gd:Option (Nat×Bool)}
theorem zQ7{t:TypeId}{zs:List T}{pa:Array (Nat×Operand)}(hb:zEB P t zs)(pl:List (Nat×Operand))(qs:List (Nat×zY))(pp:List zY)(gE:zBm E pp)(hq:zB7 E zs pp pl qs)(sd:(J4 d Γ.N&&zAJ (d::yQ pp))=aD)
  (eE:pa=pl.toArray:=by rfl)(gL:qs.foldl (fun ps q=>ps.set q.1 q.2) (zs.map zY.zero)=pp:=by rfl):Ok P Γ ⟨aB d,.build t pa,ty,ps,af,gd⟩ E (E.app ((d,aB (.agg (pp.map zY.tree)))::pWr d pp 0) ((d,0)::uX pp)):=by
 obtain⟨place,z,h1,h2,h3,h4⟩:=hb.h;simp only[J3]at sd;subst eE;exact fun S=>zN5 t place z zs pl qs pp rfl rfl (zS sd.1) h1 h2 h3 h4 gL (gE.parts sd.2) (zB7.ix _ _ hq) (zB7.get _ _ hq)
def zI4(k:Nat):List zY→Bool
 | []=>aD
 |p::l=>(p.tree.size==k)&&zI4 k l
theorem zI5{k:Nat}:(l:List zY)→zI4 k l=aD→ ∀p∈l,p.tree.size=k
 | [],_,_,h=>by simp at h
 |p::l,h,q,hm=>by
  simp only[zI4,J3,beq_iff_eq]at h;rcases Jl.1 hm with rfl|hm
  ·exact h.1
  ·exact zI5 l h.2 q hm
theorem zWG{α:Type}{t e:TypeId}{ti:TypeInfo}{k n:Nat}{u:T}{pa:Array (Nat×Operand)}(ht:ElT P t e ti k u)(xs:List Operand)(pp:List zY)(ys:List α)(f:α→T)(hx:vA E xs pp)(gE:zBm E pp)
  (sd:(J4 d Γ.N&&zAJ (d::yQ pp)&&zI4 k pp&&J4 0 n&&U6 (n*k) 65536)=aD)(hn:xs.length=n)(eE:pa=((xs.zipIdx 0).map fun x=>(x.2,x.1)).toArray:=by rfl)(hy:pp.map zY.tree=ys.map f:=by rfl):
  Ok P Γ ⟨aB d,.buildSlice t n pa,ty,ps,af,gd⟩ E (E.app ((d,aB (L k f ys))::pWr d pp 0) ((d,0)::uX pp)):=by
 obtain⟨z,hz,_⟩:=ht.zero;simp only[J3]at sd;subst eE;intro S;have fN:n*k≤65536:=by simpa[Nat.ble_eq]using sd.2
 have:=zGm (P:=P) (Γ:=Γ.at S) (E:=E) (o:=⟨aB d,.buildSlice t n ((xs.zipIdx 0).map fun x=>(x.2,x.1)).toArray,ty,ps,af,gd⟩) t e ti z k n xs pp rfl rfl (zS sd.1.1.1.1) ht.un ht.info hz ht.size ht.pos hn (zS sd.1.2) (by omega) hx (gE.parts sd.1.1.1.2) (zI5 pp sd.1.1.2);rw[hy]at this;exact this
theorem zI6{α:Type}{f g:α→T}(h:∀y,roT (g y)=f y):(ys:List α)→roT.roTs (ys.map g)=ys.map f
 | []=>rfl
 |y::ys=>by simp only[Jg,roT.roTs,h y,zI6 h ys]
theorem zJF{α:Type}{t e:TypeId}{ti:TypeInfo}{k r:Nat}{q:List Nat}{u:T}{f g:α→T}{xs ys zs:List α}{s0:Nat}(ht:ElT P t e ti k u)(mP:∀y,roT (g y)=f y)(gx:∀y,(g y).size=k)(hg:Enc g)(hv:yD xs ys=aB zs)(h0:E s0=aB (L k f xs))(h1:uL E y=aB (r,q,.ro (L k g ys)))(sd:(J4 d Γ.N&&(s0 != d))=aD):
  Ok P Γ ⟨aB d,.call { callee:=.builtin .append,args:=#[.tmp s0,y],argTypes:=#[t,t] },ty,ps,af,gd⟩ E (E.app [(d,aB (L k f zs)),(s0,aB .any)] [(d,0),(s0,1)]):=by
 obtain⟨rfl,hl⟩:=zDS hv;obtain⟨z,hz,eK⟩:=ht.zsize;simp only[J3]at sd;intro S;have:=zHt (P:=P) (Γ:=Γ.at S) (E:=E) (o:=⟨aB d,.call { callee:=.builtin .append,args:=#[.tmp s0,y],argTypes:=#[t,t] },ty,ps,af,gd⟩) t e ti z k s0 y r q (xs.map f) (ys.map g) rfl rfl (zS sd.1) ht.un ht.info hz ht.size ht.pos eK ht.bytes h0 h1 (zF2 hg.rook ys)
  (by intro v hv;obtain⟨y,_,rfl⟩:=Jd.1 hv;exact gx y) (by simpa using sd.2) (by simpa using hl)
 rw[zI6 mP,←H6]at this;exact this
def xC{α:Type}(xs:List α)(m:Int)(z:α):Option (List α):=if 0≤m∧xs.length+m.toNat≤68719476736 then aB (xs++J1 m.toNat z)else aC
theorem zNY{α:Type}{t t2 e:TypeId}{k2:IntKind}{ti:TypeInfo}{k:Nat}{u:T}{f:α→T}{z:α}{xs zs:List α}{s0:Nat}{m:Int}(ht:ElT P t e ti k u)(fm:P.underlying t2=aB (.int k2))(hz:f z=u)(hv:xC xs m z=aB zs)(h0:E s0=aB (L k f xs))(h1:opT E y=aB (I m))(sd:(J4 d Γ.N&&(s0 != d))=aD):
  Ok P Γ ⟨aB d,.call { callee:=.builtin .append,args:=#[.tmp s0,y],argTypes:=#[t,t2] },ty,ps,af,gd⟩ E (E.app [(d,aB (L k f zs)),(s0,aB .any)] [(d,0),(s0,1)]):=by
 unfold xC at hv;split at hv
 ·rename_i hc
  simp at hv;subst hv;obtain⟨zv,cI,bB⟩:=ht.zero;simp only[J3]at sd;obtain⟨n,rfl⟩:∃n:Nat,m=n:=⟨m.toNat,by omega⟩;intro S;have:=zFq (P:=P) (Γ:=Γ.at S) (E:=E) (o:=⟨aB d,.call { callee:=.builtin .append,args:=#[.tmp s0,y],argTypes:=#[t,t2] },ty,ps,af,gd⟩) t t2 e k2 ti zv u k s0 y .i64 n (xs.map f) rfl rfl (zS sd.1) ht.un fm ht.info cI ht.size ht.pos ht.bytes ht.zok bB ht.us h0 h1
   (by simpa using sd.2) (by simp at hc ⊢;omega)
  have e:xs.map f++J1 n u=(xs++J1 n z).map f:=by simp[hz]
  rw[e]at this;have h2:((n:Int)).toNat=n:=by simp
  rw[h2];exact this
 ·cases hv
end
section
variable {Γ:Ctx}{E:Env}
theorem zO.trq(d r:Nat)(q:List Nat){tr u tr':T}(hd:E d=aB (.same r q))(hr:E r=aB tr)(hg:tr.get q.reverse=aB u)(ex:zQ u)(sd:(u.single&&wC tr&&tr.okB [(d,1),(r,q.length+1)]&&(d != r))=aD)(gA:(if q=[]then .same d []else tr.set q.reverse .any)=tr':=by rfl):
  zO Γ E (E.app [(d,aB u),(r,aB tr')] [(d,1),(r,q.length+1)]):=by
 simp only[J3]at sd
 rintro a w ⟨S,hS,hs⟩
 have gf:d≠r:=by simpa using sd.2
 have:=zJB hs d [] r q (.same r q) tr u hd rfl hr hg sd.1.1.1 ex gf (by simp[T.okB,zC5,gf]) sd.1.2 rfl sd.1.1.2;subst gA;exact⟨S,hS,this⟩
theorem zO.trf(d:Nat)(g:List Nat)(r:Nat)(q:List Nat)(td tr:T){u td' tr':T}(hd:E d=aB td)(ac:td.get g.reverse=aB (.same r q))(hr:E r=aB tr)(hg:tr.get q.reverse=aB u)(gA:td.set g.reverse u=td')(ex:zQ u)
  (sd:(u.single&&wC td&&wC tr&&td.okB [(d,g.length+1),(r,q.length+1)]&&tr.okB [(d,g.length+1),(r,q.length+1)]&&(d != r))=aD)(fo:(if q=[]then .same d g else tr.set q.reverse .any)=tr':=by rfl):
  zO Γ E (E.app [(d,aB td'),(r,aB tr')] [(d,g.length+1),(r,q.length+1)]):=by
 simp only[J3]at sd
 rintro a w ⟨S,hS,hs⟩
 have gf:d≠r:=by simpa using sd.2
 have:=zJB hs d g r q td tr u hd ac hr hg sd.1.1.1.1.1 ex gf sd.1.1.2 sd.1.2 sd.1.1.1.1.2 sd.1.1.1.2;subst gA fo;exact⟨S,hS,this⟩
theorem zO.frz{α:Type}(s:Nat){k:Nat}{f g:α→T}(xs:List α)(hs:E s=aB (L k f xs))(h:vM f g):zO Γ E (E.app [(s,aB (.ro (L k g xs)))] [(s,1)]):=by have:=zO.freeze (Γ:=Γ) s _ hs;simp only[wR,strip,vX h.h xs]at this;exact this
theorem zO.res(d r:Nat)(q:List Nat)(tr:T){u:T}(hd:E d=aB (.same r q))(hr:E r=aB tr)(hg:tr.get q.reverse=aB (.ro u)):zO Γ E (E.app [(d,aB (.ro u))] []):=by
 rintro a w ⟨S,hS,ed,G,ga⟩
 refine⟨S,hS,ed,G,?_⟩;have hk:kE [] G w G w:=⟨fun _ _ _=>rfl,fun _ _ _=>rfl,fun _ _ _ _ _ _ h _=>⟨h,rfl⟩,fun _ _ _ h _=>h,fun b cs e h=>⟨cs,h,rfl⟩⟩;refine vK ga rfl hk ga.mem (fun s _=>⟨fun n hn=>by simp at hn,rfl⟩) fun s t hs=>?_
 simp only[Wr.find]at hs;split at hs
 ·rename_i e;subst e
  simp at hs;subst hs;obtain⟨h1,h2,_⟩:=ga.ent d _ hd;obtain⟨_,h4,_⟩:=ga.ent r _ hr;simp only[R]at h2;have h5:=(zBA q.reverse tr _ [] h4 hg).1;simp only[rp,Kk,Jf,R]at h5;exact⟨by rw[h1];rfl,by simp only[R];rw[h2];exact h5,by simp[Top]⟩
 ·cases hs
end
theorem zH1:(p:List Nat)→ ∀(t u0 a:T),t.get p=aB u0→(t.set p a).get p=aB a
 | [],t,_,a,_=>by cases t<;>cases a<;>rfl
 |i::p,t,u0,a,h=>by
  cases t with
  |sl k xs|agg xs|tup xs=>
   simp only[T.get,T.set]at h ⊢
   cases hx:xs[i]? with
   |none=>rw[hx]at h;cases h
   |some x=>
    rw[hx]at h;have hi:=(Jc.1 hx).1;simp only[];simp only[T.get,Qa hi];exact zH1 p x u0 a h
  |ptr t=>
   simp only[T.get,T.set]at h ⊢
   split at h
   ·rename_i e;subst e;simp only[if_true,T.get];exact zH1 p t u0 a h
   ·cases h
  |_=>simp[T.get]at h
theorem set_set:(p:List Nat)→ ∀(t u0 a b:T),t.get p=aB u0→(t.set p a).set p b=t.set p b
 | [],t,_,a,_,_=>by cases t<;>cases a<;>rfl
 |i::p,t,u0,a,b,h=>by
  cases t with
  |sl k xs|agg xs|tup xs=>
   simp only[T.get,T.set]at h ⊢
   cases hx:xs[i]? with
   |none=>rw[hx]at h;cases h
   |some x=>
    rw[hx]at h;have hi:=(Jc.1 hx).1;simp only[];simp only[T.set,Qa hi,List.set_set,set_set p x u0 a b h]
  |ptr t=>
   simp only[T.get,T.set]at h ⊢
   split at h
   ·rename_i e;subst e;simp only[if_true,T.set,set_set p t u0 a b h]
   ·cases h
  |_=>simp[T.get]at h
def zA4:T→Bool
 |.sl _ _|.ptr _=>aD
 |_=>aE
theorem zNZ{t:T}(h:zA4 t=aD)(p:List Nat){u:T}(hp:p≠[]):zA4 (t.set p u)=aD:=by
 cases p with
 |nil=>exact absurd rfl hp
 |cons i p=>cases t<;>simp[zA4]at h<;>simp only[T.set]<;>split<;>rfl
theorem vT{t:T}(h:zA4 t=aD)(chg:Chg):t.okB chg=aD∧wC t=aD∧t.single=aD:=by cases t<;>simp[zA4]at h<;>simp[T.okB,wC,T.single]
section
variable {P:Program}{Γ:Ctx}{E E':Env}{d:Nat}{ty:TypeId}{ps:String}{af:Array Edge}{gd:Option (Nat×Bool)}
theorem agM{E:Env}{rw:Rw}{i:Nat}{x:Operand}{u:T}(t:T)(h:opT E x=aB t)(h1:clo E t=u)(h2:zNH E (rw.map (·.2.1)) x t=aD):zB1 E rw i x u:=.inr ⟨t,h,h1,h2⟩
theorem zVc{E:Env}{rw:Rw}{i s:Nat}{u u':T}(h:E s=aB u)(hc:zQ u)(hr:wW u=aD)(hs:u.okTup=aD:=by rfl)(hm:(i,s,u')∈rw:=by exact List.mem_singleton.2 rfl):zB1 E rw i (.tmp s) u:=.inl ⟨s,u',rfl,hm,h,hc,hs,hr⟩
abbrev wL(E:Env)(ds r:Nat)(q:List Nat)(tr u:T):Env:=E.app [(ds,aB u),(r,aB (if q=[]then .same ds []else tr.set q.reverse .any))] [(ds,1),(r,q.length+1)]
theorem zQ8{f:FuncId}{xs:List Operand}{ats:Array TypeId}{us res:List T}{tr u u' tr':T}(i ds r:Nat)(q:List Nat)(gm:zAI P f)(hc:FnC P f us res [(i,u')])(hs:E ds=aB (.same r q))(hr:E r=aB tr)(hq:tr.get q.reverse=aB u)
  (ex:zQ u)(eo:zQ u')(_:wW u=aD)(ms:wW u'=aD)(gg:wB (wL E ds r q tr u) [(i,ds,u')] 0 xs us)(gv:zBM res)(gA:tr.set q.reverse u'=tr')
  (sd:(J4 d Γ.N&&(d != ds)&&(d != r)&&(ds != r)&&zA4 u&&zA4 u'&&zA4 tr)=aD)(hx:xs[i]? =aB (.tmp ds))(hu:us[i]? =aB u):
  Ok P Γ ⟨aB d,.call { callee:=.value (.func f),args:=xs.toArray,argTypes:=ats },ty,ps,af,gd⟩ E ((((wL E ds r q tr u).app (cWr d res [(i,ds,u')]) (wV d [(i,ds,u')]))).app [(r,aB tr'),(ds,aB (.same r q))] [(r,q.length+1),(ds,1)]):=by
 simp only[J3]at sd;obtain⟨⟨⟨⟨⟨⟨s1,s2⟩,s3⟩,s4⟩,s5⟩,s6⟩,s7⟩:=sd;have d1:d≠ds:=by simpa using s2
 have d2:d≠r:=by simpa using s3
 have d3:ds≠r:=by simpa using s4
 obtain⟨u1,u2,u3⟩:=vT s5 [];obtain⟨v1,v2,v3⟩:=vT s6 [];have pi:cLv u'=1:=by simp[cLv,v3]
 subst gA;intro S
 by_cases pR:q=[]
 ·subst pR
  have htu:tr=u:=by
   have:tr.get []=aB tr:=by cases tr<;>rfl
   simp only[Hq]at hq;rw[this]at hq;exact Hk.inj hq
  subst htu;have ct:∀a b:T,a.set [] b=b:=fun a b=>by cases a<;>rfl
  have pF:(wL E ds r [] tr tr) ds=aB tr:=by simp[wL,Env.app,Wr.find]
  have fJ:((wL E ds r [] tr tr).app (cWr d res [(i,ds,u')]) (wV d [(i,ds,u')])) r=aB (.same ds []):=by
   have h1:(wL E ds r [] tr tr) r=aB (.same ds []):=by simp[wL,Env.app,Wr.find,d3]
   have h2:(cWr d res [(i,ds,u')]).find r=aC:=by simp[cWr,Wr.find,d2,d3]
   have h3:(T.same ds []).okB (wV d [(i,ds,u')])=aD:=by simp[T.okB,zC5,wV,d1,pi]
   simp only[Env.app,h2,h1,h3,if_true]
  have fK:((wL E ds r [] tr tr).app (cWr d res [(i,ds,u')]) (wV d [(i,ds,u')])) ds=aB u':=by simp[Env.app,Wr.find,cWr,d1]
  have:=zIx (P:=P) (Γ:=Γ.at S) (E:=E) (o:=⟨aB d,.call { callee:=.value (.func f),args:=xs.toArray,argTypes:=ats },ty,ps,af,gd⟩) f (.func f) xs ats us res i ds r [] tr tr u' rfl rfl (zS s1) gm rfl hs hr hq u3 ex d3 d2 (vT s7 _).1 (vT s7 []).2.1
   (wL E ds r [] tr tr) _ rfl rfl hc gg (.one d1 hx eo v3 ms pF u3 hu) gv (.same ds []) (.same ds []) fJ rfl rfl fK eo v3 (by simp[T.okB,zC5]) rfl (vT s6 _).1 v2
  rw[Hq,ct]at this ⊢
  exact this
 ·have bU:q.reverse≠[]:=by simpa using pR
  have pF:(wL E ds r q tr u) ds=aB u:=by simp[wL,Env.app,Wr.find]
  have ay:=zNZ s7 q.reverse (u:=.any) bU;have fJ:((wL E ds r q tr u).app (cWr d res [(i,ds,u')]) (wV d [(i,ds,u')])) r=aB (tr.set q.reverse .any):=by
   have h1:(wL E ds r q tr u) r=aB (tr.set q.reverse .any):=by simp[wL,Env.app,Wr.find,d3,pR]
   have h2:(cWr d res [(i,ds,u')]).find r=aC:=by simp[cWr,Wr.find,d2,d3]
   simp[Env.app,h2,h1,(vT ay _).1]
  have fK:((wL E ds r q tr u).app (cWr d res [(i,ds,u')]) (wV d [(i,ds,u')])) ds=aB u':=by simp[Env.app,Wr.find,cWr,d1]
  have:=zIx (P:=P) (Γ:=Γ.at S) (E:=E) (o:=⟨aB d,.call { callee:=.value (.func f),args:=xs.toArray,argTypes:=ats },ty,ps,af,gd⟩) f (.func f) xs ats us res i ds r q tr u u' rfl rfl (zS s1) gm rfl hs hr hq u3 ex d3 d2 (vT s7 _).1 (vT s7 []).2.1
   (wL E ds r q tr u) _ rfl rfl hc gg (.one d1 hx eo v3 ms pF u3 hu) gv (tr.set q.reverse .any) .any fJ (zH1 _ _ _ _ hq) rfl fK eo v3 (vT ay _).1 (vT ay []).2.1 (vT s6 _).1 v2
  rw[set_set _ _ _ _ _ hq]at this;exact this
theorem zQ9{f:FuncId}{xs:List Operand}{ats:Array TypeId}{us res:List T}{xf:Operand}(hf:opT E xf=aB (.lit (.func (.func f) #[] #[])))(gm:zAI P f)(hc:FnC P f us res [])(gg:wB E [] 0 xs us)(gv:zBM res)(sd:J4 d Γ.N=aD):
  Ok P Γ ⟨aB d,.call { callee:=.value xf,args:=xs.toArray,argTypes:=ats },ty,ps,af,gd⟩ E (E.app (cWr d res []) (wV d [])):=
 fun _=>zLb f xf xs ats us res [] rfl rfl (zS sd) gm hf hc gg .nil gv
def zCS(E:Env):List Operand→List T→Prop
 | [],[]=>True
 |x::xs,u::us=>(opT E x=aB u∧u.flat=aD)∧zCS E xs us
 |_,_=>False
theorem afN:zCS E [] []:=trivial
theorem afC{x:Operand}{xs:List Operand}{u:T}{us:List T}(h:opT E x=aB u)(h1:u.flat=aD)(h2:zCS E xs us):zCS E (x::xs) (u::us):=⟨⟨h,h1⟩,h2⟩
theorem zCS.get:(xs:List Operand)→(us:List T)→zCS E xs us→ ∀(i:Nat) u,us[i]? =aB u→ ∃x,xs[i]? =aB x∧opT E x=aB u∧u.flat=aD
 | [],[],_,i,u,h=>by simp at h
 |x::xs,v::us,h,i,u,hi=>by
  cases i with
  |zero=>simp at hi;subst hi;exact⟨x,by simp,h.1⟩
  |succ i=>obtain⟨y,h1,h2⟩:=zCS.get xs us h.2 i u (by simpa using hi);exact⟨y,by simpa using h1,h2⟩
 | [],_::_,h,_,_,_=>by simp[zCS]at h
 |_::_,[],h,_,_,_=>by simp[zCS]at h
theorem zLi{f:FuncId}{xs:List Operand}{ats:Array TypeId}{us res:List T}(gm:zAI P f)(hc:FnC P f us res [])(ha:zCS E xs us)(gc:xs.length=us.length)(gv:yI res)(eS:zW res=aD)(sd:J4 d Γ.N=aD):
  Ok P Γ ⟨aB d,.call { callee:=.value (.func f),args:=xs.toArray,argTypes:=ats },ty,ps,af,gd⟩ E (E.app (cWr d res []) (wV d [])):=
 zQ5 gm hc gc (zCS.get _ _ ha) ⟨gv,eS⟩ sd
end
noncomputable def zB3 {α:Type} (g:Nat→Option α):Option α:=
 open Classical in if h:∃r,∃n,∀m,n≤m→g m=aB r then aB h.choose else aC
theorem zAu{α:Type}{g:Nat→Option α}{r:α}(h:zB3 g=aB r):∃n,g n=aB r:=by
 unfold zB3 at h;split at h
 ·rename_i he
  simp at h;obtain⟨n,hn⟩:=he.choose_spec;exact⟨n,by rw[←h];exact hn n (Ji _)⟩
 ·cases h
theorem zAv{α:Type}{g:Nat→Option α}{r:α}(n:Nat)(h:∀m,n≤m→g m=aB r):zB3 g=aB r:=by have he:∃r,∃n,∀m,n≤m→g m=aB r:=⟨r,n,h⟩;unfold zB3;rw[dif_pos he];obtain⟨n',hn'⟩:=he.choose_spec;have h1:=h (max n n') (by omega);have h2:=hn' (max n n') (by omega);rw[h1]at h2;exact h2.symm
end Go.Ab

namespace Go.Ab
open Go
section
variable {P:Program}{Γ:Ctx}{ops:Array Oper}{o:Oper}{E:Env}
theorem yY.skipW{d:Nat}(hd:o.dst=aB d)(sd:J4 d Γ.N=aD)(hw:∀(a:Act)(w:World),qI Γ E a w→Region.wanted o (yielded ops a.tmps)=aE):yY P Γ ops o E (E.app [(d,aB (.tup []))] [(d,0)]):=by
 intro a w K Q hs hK;rw[if_neg (by grind)];obtain⟨S,hS,ed,G,ga⟩:=hs;refine hK _ _ ⟨S,hS,by rw[hd];exact ed,G.put d (fun _=>.bool aE),?_⟩ ?_
 ·rw[hd]
  have hu:(Value.bool aE).oneCell'=aD:=rfl;refine vK ga (by simp[Act.put]) (G.put_keep rfl d _) (ga.mem.put rfl d _ fun _=>hu) ?_ ?_
  ·grind[uK,Act.put]
  ·intro s t' hs
   rw[uK]at hs;split at hs
   ·rename_i e;subst e
    simp at hs;subst hs;have gx:=ga.size;have gP:=zS sd;refine⟨?_,by simp[R,RF],by simp[Top,vE]⟩
    grind[Act.put,mkV,kD,undef]
   ·cases hs
 grind[Act.put]
theorem yY.skip2{d:Nat}(g:Nat)(b b':Bool)(s:Nat)(hd:o.dst=aB d)(sd:J4 d Γ.N=aD)(el:(b==b')=aE)(hg:o.guard=aB (g,b))(gN:(ops[g]?).bind (·.dst)=aB s)(hb:E s=aB (.lit (.bool b'))):
  yY P Γ ops o E (E.app [(d,aB (.tup []))] [(d,0)]):=.skipW hd sd fun a w hs=>by
 simp only[Region.wanted,hg,zFu hs gN hb]
 grind
theorem yY.skip3{d:Nat}(g:Nat)(b:Bool)(s:Nat)(hd:o.dst=aB d)(sd:J4 d Γ.N=aD)(hg:o.guard=aB (g,b))(gN:(ops[g]?).bind (·.dst)=aB s)(hb:E s=aB (.tup [])):
  yY P Γ ops o E (E.app [(d,aB (.tup []))] [(d,0)]):=.skipW hd sd fun a w hs=>by
 obtain⟨_,_,_,G,hr⟩:=hs;obtain⟨h1,_,_⟩:=hr.ent s _ hb
 grind[Region.wanted,yielded,mkV]
theorem yY.opE{E1 E':Env}(h:Ok P Γ o E E1)(e:E1=E')(hg:o.guard=aC:=by rfl):yY P Γ ops o E E':=e▸yY.op h hg
theorem yY.guardE{E1 E':Env}(g:Nat)(b:Bool)(s:Nat)(h:Ok P Γ o E E1)(hg:o.guard=aB (g,b))(gN:(ops[g]?).bind (·.dst)=aB s)(hb:E s=aB (.lit (.bool b)))(e:E1=E'):yY P Γ ops o E E':=e▸yY.guard g b s h hg gN hb
end
def xH(Γ:Ctx)(P:Program)(rs:Array ResultVar)(us res:List T)(rws:List (Nat×T)):Exit→Env→Prop:=fun e E=> ∃E',zO Γ E E'∧zUM P rs us res rws e E'
theorem FnC.of_bodyG{P:Program}{f:FuncId}{fn:Func}{c:Code}{us res:List T}{rws:List (Nat×T)}(hf:P.funcs[f]? =aB fn)(hb:fn.body=aB c)(hn:us.length≤fn.ntmps)(ht:vE us)(hr:rws.all (fun x=>decide (x.1<us.length))=aD)
  (h:∀(Γ:Ctx)(v:Nat→Value),Γ.N=fn.ntmps→CW P Γ (zBJ v (rws.map (·.1))) c (uC (zGo 0 us)) (xH Γ P fn.results us res rws)):FnC P f us res rws:=by
 refine FnC.of_body hf hb hn ht hr fun Γ v hN=>?_
 intro a w Q' hs hp hQ;refine h Γ v hN a w Q' hs hp ?_
 rintro e E a' w' ⟨E',hg,hq⟩ gO fc
 exact hQ e E' a' w' hq (hg a' w' gO) fc
def zQA(t:T):Prop:=zQ t∧wW t=aD∧strip t=t∧t.okTup=aD∧zDL t=aD
def zOa:List T→Prop
 | []=>True
 |x::xs=>zQA x∧zOa xs
theorem Enc.t{α:Type}{f:α→T}(h:Enc f)(x:α):zQA (f x):=⟨h.clean x,h.rofree x,h.strip x,h.okTup x,h.rook x⟩
theorem Enc.of{α:Type}{f:α→T}(h:∀x,zQA (f x)):Enc f:=⟨fun x=>(h x).1,fun x=>(h x).2.1,fun x=>(h x).2.2.1,fun x=>(h x).2.2.2.1,fun x=>(h x).2.2.2.2⟩
theorem zQB{xs:List T}(h:zOa xs):zQA (.agg xs):=by
 have key:∀xs:List T,zOa xs→yI xs∧vB xs=aD∧xQ xs=xs∧zW xs=aD∧zAU xs=aD:=by
  intro xs
  induction xs with
  |nil=>intro _;exact⟨trivial,rfl,rfl,rfl,rfl⟩
  |cons x xs ih=>
   rintro⟨⟨h1,h2,h3,h4,h5⟩,h⟩
   obtain⟨g1,g2,g3,g4,g5⟩:=ih h;exact⟨⟨h1,g1⟩,by grind[vB],by grind[xQ],by grind[zW],by grind[zAU]⟩
 obtain⟨g1,g2,g3,g4,g5⟩:=key xs h;exact⟨zH0 g1,by grind[wW],by grind[strip],by grind[T.okTup],by grind[zDL]⟩
end Go.Ab

namespace Go.Ab
open Go
section
variable {Γ:Ctx}{E:Env}{d:Nat}
def Gh.cut(G:Gh)(d s0 b lo hi:Nat)(v:Value):Gh where
 hd s z:=if s=d then(if z=[]then v else G.hd s0 z)else G.hd s z
 ad s z:=if s=d then G.ad s0 z else G.ad s z
 lb b' o:=if b'=b∧lo≤o∧o<hi then aB (aD,d,[])else match G.lb b' o with
  |some (f,s,z)=>if s=s0 then aB (f,d,z)else aB (f,s,z)
  |none=>aC
 ow b':=match G.ow b' with
  |some (s,z)=>if s=s0 then aB (d,z)else aB (s,z)
  |none=>aC
theorem zLj{G:Gh}{tmps:Array Value}{w:World}(ga:Rep Γ E G tmps w)(hd:d<Γ.N){s0 k h cap':Nat}{xs:List T}(ef:E s0=aB (.sl k xs))(gf:s0≠d)(hk:0<k)
  {b o0 cap:Nat}{cs:Array Value}{e:TypeId}(h1:G.hd s0 []=.slice (aB ⟨b,o0,aC⟩) xs.length cap)(h2:w.heap[b]? =aB (.cells cs e (0,0)))(_h3:xs.length≤cap)(h4:cap≤maxLen)(h5:o0+cap*k≤cs.size)(h6:G.ow b=aB (s0,[]))
  (h7:∀o,o0+xs.length*k≤o→o<o0+cap*k→G.lb b o=aB (aD,s0,[]))(h8:RL Γ.St G w s0 xs [] 0 b o0 k)(hh:h≤xs.length)(hc:h≤cap')(eG:cap'≤cap):
  ∃G',Rep Γ (E.app [(d,aB (.sl k (xs.take h))),(s0,aB .any)] [(d,0),(s0,1)]) G' (tmps.setIfInBounds d (.slice (aB ⟨b,o0,aC⟩) h cap')) w:=by
 have hm:=ga.mem;obtain⟨e1,_,e3⟩:=ga.ent s0 _ ef
 let v:Value:=.slice (aB ⟨b,o0,aC⟩) h cap'
 let G':=G.cut d s0 b (o0+h*k) (o0+cap'*k) v
 have gD:=hm.ow b _ h6;have cC:∀o f z i,o0+h*k≤o→o<o0+cap'*k→G.lb b o=aB (f,s0,z++[i])→h≤i:=by
  intro o f z i fA fy hl;obtain⟨o,rfl⟩:∃o',o=o0+o':=⟨o-o0,by have:o0≤o0+h*k:=Nat.le_add_right _ _;omega⟩
  replace fA:h*k≤o:=by omega
  by_cases ho:o<xs.length*k
  ·have hj:o/k<xs.length:=(Nat.div_lt_iff_lt_mul hk).2 ho
   obtain⟨g1,g2,_⟩:=qG xs [] 0 b o0 k (o/k) xs[o/k] h8 (by simp[hj]);obtain⟨y,hy⟩:=zHn xs[o/k] _ b _ (o%k) g1 (by rw[g2];exact Nat.mod_lt _ hk);rw[J7,Lf,Nat.mul_comm,Nat.div_add_mod,hl]at hy;simp only[Hk.injEq,Uq.injEq]at hy;have:=hy.2.2;have hi:i=o/k:=by have:=congrArg List.getLast? this;simpa using this
   rw[hi];exact(Nat.le_div_iff_mul_le hk).2 fA
  ·have:=h7 (o0+o) (by omega) (by have:=Ke k eG;omega)
   rw[hl]at this;simp at this
 have glb:∀b' o f z,G.lb b' o=aB (f,s0,z)→ ¬(b'=b∧o0+h*k≤o∧o<o0+cap'*k)→G'.lb b' o=aB (f,d,z):=fun b' o f z hl hn=>by show(if _ then _ else _)=_;rw[if_neg hn];simp[hl]
 have gow:∀b' z,G.ow b'=aB (s0,z)→G'.ow b'=aB (d,z):=fun b' z hl=>by simp[G',Gh.cut,hl]
 have mv:∀i,i<h→zG0 G w G' w s0 [i] d [i]:=fun i hi=>by
  have hn:∀b' o f z,G.lb b' o=aB (f,s0,z++[i])→ ¬(b'=b∧o0+h*k≤o∧o<o0+cap'*k):=by
   rintro b' o f z hl ⟨rfl,fA,fy⟩
   have:=cC o f z i fA fy hl;omega
  refine⟨⟨fun z=>by simp[G',Gh.cut],fun z _=>by simp[G',Gh.cut],fun b' o f z _ _ hl=>⟨glb _ _ _ _ hl (hn _ _ _ _ hl),rfl⟩,fun b' z _ hl=>gow _ _ hl,fun b' cs' e' hb=>⟨cs',hb,rfl⟩⟩,fun b' o _ hl=>⟨glb _ _ _ _ hl (hn b' o aD [] (by simpa using hl)),rfl⟩,fun b' hl=>gow _ _ hl⟩
 have gn:kE [(d,0),(s0,1)] G w G' w:=by
  refine⟨fun s p ho=>?_,fun s p ho=>?_,fun b' o f s p gT hl hs=>?_,fun b' s p hl hs=>?_,fun b' cs' e' hb=>⟨cs',hb,rfl⟩⟩
  ·have:s≠d:=fun e=>absurd (ho 0 (by simp[e])) (by simp)
   simp[G',Gh.cut,this]
  ·have:s≠d:=fun e=>absurd (ho 0 (by simp[e])) (by simp)
   simp[G',Gh.cut,this]
  ·have ek:s≠s0:=fun e=>hs 1 (by simp[e])
   obtain⟨y,hy⟩:=gT;have el:b'≠b:=by
    rintro rfl
    rw[h6]at hy;simp at hy;exact ek hy.1.symm
   refine⟨?_,rfl⟩;show(if _ then _ else _)=_;rw[if_neg (fun hn=>el hn.1)];simp[hl,ek]
  ·have ek:s≠s0:=fun e=>hs 1 (by simp[e])
   simp[G',Gh.cut,hl,ek]
 have gw:Mem Γ G' w:=by
  refine⟨fun s z=>?_,fun b' o l hl=>?_,fun b' l hl=>?_,hm.st,hm.fr,hm.sz,hm.bk⟩
  ·show(if _ then _ else _:Value).oneCell'=aD
   split
   ·split
    ·rfl
    ·exact hm.one _ _
   ·exact hm.one _ _
  ·change(if _ then _ else _)=_ at hl
   split at hl
   ·rename_i hn;rw[hn.1];exact gD
   ·cases hg:G.lb b' o with
    |none=>simp[hg]at hl
    |some x=>exact hm.lb b' o x hg
  ·cases hg:G.ow b' with
   |none=>simp[G',Gh.cut,hg]at hl
   |some x=>exact hm.ow b' x hg
 refine⟨G',vK ga (by simp) gn gw ?_ ?_⟩
 ·intro s hs
  have fE:s≠d:=by rintro rfl;simp[Wr.find]at hs
  have fd:s≠s0:=by rintro rfl;simp[Wr.find,gf.symm]at hs
  exact⟨fun n hn=>by simp at hn;rcases hn with h|h;exact fE h.1;exact fd h.1,by rw[J8];simp[fE.symm]⟩
 ·intro s t' hs
  by_cases ek:s=d
  ·subst ek
   simp[Wr.find]at hs;subst hs;have gc:(xs.take h).length=h:=by simp;omega
   simp only[Top]at e3;have hkc:∀ys:List T,yI ys→ ∀n,yI (ys.take n):=by
    intro ys
    induction ys with
    |nil=>intro _ n;simp[yI,yP]
    |cons y ys ih=>intro hy n;cases n with
     |zero=>simp[yI,yP]
     |succ n=>exact⟨hy.1,ih hy.2 n⟩
   refine⟨?_,?_,by simp only[Top];exact hkc xs e3 h⟩
   ·rw[J8]
    simp[ga.size,hd,mkV,G',Gh.cut,v]
   ·simp only[R]
    refine .inr ⟨b,o0,cap',cs,e,by rw[gc];simp[G',Gh.cut,v],h2,by omega,by omega,by have:=Ke k eG;omega,gow b _ h6,fun o fA fy=>?_,?_⟩
    ·rw[gc]at fA
     show(if _ then _ else _)=_;rw[if_pos ⟨rfl,fA,fy⟩]
    ·refine zHo _ [] 0 b o0 fun i x hx=>?_
     rw[Lq]at hx;split at hx
     ·rename_i hi
      obtain⟨g1,g2,g3⟩:=qG xs [] 0 b o0 k i x h8 hx;rw[J7]at g1 g3 ⊢
      refine⟨?_,g2,zAc (mv i hi) x (yF.mono (fun _ _=>False.elim) _ (vH xs e3 i x hx)) g3⟩;refine zFl x [i] [i] b _ (fun z=>by simp[G',Gh.cut]) (fun z=>by simp[G',Gh.cut]) (fun b' o z hl=>⟨glb _ _ _ _ hl ?_,rfl⟩) g1
      rintro⟨rfl,fA,fy⟩
      have:=cC o aE z i fA fy hl;omega
     ·cases hx
  ·have h9:s=s0∧t'=.any:=by
    simp only[Wr.find]at hs;rw[if_neg (fun h=>ek h.symm)]at hs;split at hs
    ·rename_i h;simp at hs;exact⟨h.symm,hs.symm⟩
    ·cases hs
   obtain⟨rfl,rfl⟩:=h9;refine⟨?_,by simp only[R],by simp[Top]⟩;rw[J8];simp only[Ne.symm ek,if_false,mkV];rw[e1,yR rfl];simp[G',Gh.cut,ek]
theorem zOb{G:Gh}{tmps:Array Value}{w:World}(ga:Rep Γ E G tmps w)(hd:d<Γ.N){s0 k:Nat}(ef:E s0=aB (.sl k []))(gf:s0≠d)(a:Option Addr):
  ∃G',Rep Γ (E.app [(d,aB (.sl k [])),(s0,aB .any)] [(d,0),(s0,1)]) G' (tmps.setIfInBounds d (.slice a 0 0)) w:=by
 obtain⟨e1,_,_⟩:=ga.ent s0 _ ef;refine⟨G.put d (fun _=>.slice a 0 0),?_⟩;have hk:kE [(d,0),(s0,1)] G w (G.put d fun _=>.slice a 0 0) w:=by have h0:=G.put_keep (w:=w) (w':=w) rfl d (fun _=>.slice a 0 0);refine⟨fun s p ho=>h0.hd s p (fun n hn=>ho n (by simp at hn ⊢;exact .inl hn)),fun s p ho=>h0.ad s p (fun n hn=>ho n (by simp at hn ⊢;exact .inl hn)),fun b o f s p h1 h2 h3=>h0.lb b o f s p h1 h2 (fun n hn=>h3 n (by simp at hn ⊢;exact .inl hn)),fun b s p h1 h3=>h0.ow b s p h1 (fun n hn=>h3 n (by simp at hn ⊢;exact .inl hn)),h0.blk⟩
 refine vK ga (by simp) hk (ga.mem.put rfl d _ (fun _=>rfl)) ?_ ?_
 ·intro s hs
  have fE:s≠d:=by rintro rfl;simp[Wr.find]at hs
  have fd:s≠s0:=by rintro rfl;simp[Wr.find,gf.symm]at hs
  exact⟨fun n hn=>by simp at hn;rcases hn with h|h;exact fE h.1;exact fd h.1,by rw[J8];simp[fE.symm]⟩
 ·intro s t' hs
  by_cases ek:s=d
  ·subst ek
   simp[Wr.find]at hs;subst hs;refine⟨by rw[J8];simp[ga.size,hd,mkV,Gh.put],by simp only[R];exact .inl ⟨trivial,a,by simp[Gh.put]⟩,by simp[Top,yI,yP]⟩
  ·have h9:s=s0∧t'=.any:=by
    simp only[Wr.find]at hs;rw[if_neg (fun h=>ek h.symm)]at hs;split at hs
    ·rename_i h;simp at hs;exact⟨h.symm,hs.symm⟩
    ·cases hs
   obtain⟨rfl,rfl⟩:=h9;refine⟨?_,by simp only[R],by simp[Top]⟩;rw[J8];simp only[Ne.symm ek,if_false,mkV];rw[e1,yR rfl];simp[Gh.put,ek]
end
section
variable {P:Program}{Γ:Ctx}{pn:sT}{E E':Env}{Q:Exit→Env→Prop}{d:Nat}{x y:Operand}{ty:TypeId}{ps:String}{af:Array Edge}{gd:Option (Nat×Bool)}
theorem zVd{α:Type}{t e:TypeId}{ti:TypeInfo}{s0 k:Nat}{f:α→T}{xs ys:List α}{mx:Option Operand}{h:Int}{u:T}(ht:ElT P t e ti k u)(hv:zN xs 0 h=aB ys)(h0:E s0=aB (L k f xs))(hy:opT E y=aB (I h))(hmx:mx=aC∨ ∃z,mx=aB z∧opT E z=aB (I h))(sd:(J4 d Γ.N&&(s0 != d))=aD):
  Ok P Γ ⟨aB d,.slice t (.tmp s0) aC (aB y) mx,ty,ps,af,gd⟩ E (E.app [(d,aB (L k f ys)),(s0,aB .any)] [(d,0),(s0,1)]):=by
 obtain⟨_,ma,fN,rfl⟩:=uY hv;simp only[J3]at sd;have gf:s0≠d:=by simpa using sd.2
 obtain⟨n,rfl⟩:∃n:Nat,h=n:=⟨h.toNat,by omega⟩;have hn:n≤xs.length:=by omega
 intro S;refine xF.value rfl fun a w G ga=>?_
 obtain⟨e1,e2,_⟩:=ga.ent s0 _ h0;have fL:=(yL ga hy).1;have pu:a.eval (.tmp s0)=G.hd s0 []:=by rw[xD e1,yR rfl]
 have fP:=ht.un;have gF:=ht.info;have gx:=ht.size;have ph:List.map f ((xs.drop (0:Int).toNat).take ((n:Int).toNat-(0:Int).toNat))=(xs.map f).take n:=by simp[G9]
 rw[show L k f ((xs.drop (0:Int).toNat).take ((n:Int).toNat-(0:Int).toNat))=.sl k ((xs.map f).take n)by simp only[L,ph]];have e2':=e2;simp only[R]at e2;rcases e2 with⟨th,ad,h1⟩|⟨b,o0,cap,cs,e',h1,h2,h3,h4,h5,h6,h7,h8⟩
 ·have ew:xs=[]:=by simpa using th
  subst ew;simp at hn;subst hn;obtain⟨G',gj⟩:=zOb ga (zS sd.1) (k:=k) (by rw[h0];rfl) gf ad;refine⟨_,w,?_,G',by simpa using gj⟩;rcases hmx with rfl|⟨z,rfl,hz⟩
  ·simp[execOp,Instr.sliceAt,Instr.slice,run_underlying fP,pu,h1,fL,sizeOf,typeInfo,gF,Instr.sliceBounds,Instr.sliceBound,asIntOf]
  ·have cI:=(yL ga hz).1
   simp[execOp,Instr.sliceAt,Instr.slice,run_underlying fP,pu,h1,fL,cI,sizeOf,typeInfo,gF,Instr.sliceBounds,Instr.sliceBound,asIntOf]
 ·rw[Jo]at h1 h3
  have mE:n≤cap:=by omega
  have hcz:cap=0→n=0:=by omega
  rcases hmx with rfl|⟨z,rfl,hz⟩
  ·obtain⟨G',gj⟩:=zLj ga (zS sd.1) h0 gf ht.pos (by rw[Jo];exact h1) h2 (by rw[Jo];exact h3) h4 h5 h6 h7 h8 (h:=n) (cap':=cap) (by simpa using hn) mE (Ji _)
   refine⟨_,w,?_,G',gj⟩;simp[execOp,Instr.sliceAt,Instr.slice,run_underlying fP,pu,h1,fL,sizeOf,typeInfo,gF,Instr.sliceBounds,Instr.sliceBound,asIntOf,mE,wZ]
  ·have cI:=(yL ga hz).1
   obtain⟨G',gj⟩:=zLj ga (zS sd.1) h0 gf ht.pos (by rw[Jo];exact h1) h2 (by rw[Jo];exact h3) h4 h5 h6 h7 h8 (h:=n) (cap':=n) (by simpa using hn) (Ji _) mE;refine⟨_,w,?_,G',gj⟩;simp[execOp,Instr.sliceAt,Instr.slice,run_underlying fP,pu,h1,fL,cI,sizeOf,typeInfo,gF,Instr.sliceBounds,Instr.sliceBound,asIntOf,mE,wZ]
end
end Go.Ab

namespace Go.Ab
open Go
section
variable {P:Program}{Γ:Ctx}{pn:sT}{E E':Env}{Q:Exit→Env→Prop}{d:Nat}{x y:Operand}{ty:TypeId}{ps:String}{af:Array Edge}{gd:Option (Nat×Bool)}{ops:Array Oper}{os:List Oper}
theorem zMs{P:Program}{w:World}{t e:TypeId}{a:Option Addr}{n c:Nat}(m:Nat)(h:P.underlying t=aB (.slice e)):(Op.equalIn (m+1) t (.slice a n c) (.slice aC 0 0)).run P w=.ok a.isNone w:=by simp only[Op.equalIn,Sem.run_bind,run_underlying h];cases a<;>rfl
theorem RW.isnil{α:Type}{xt yt e:TypeId}{r k:Nat}{q:List Nat}{f:α→T}{xs:List α}{u:T}(hu:P.underlying xt=aB (.slice e))(hx:uL E x=aB (r,q,u))(fa:u=.ro (L k f xs)∨u=L k f xs)(sd:J4 d Γ.N=aD)(hp:pn.ok (aB d)=aD)
  (h:∀b,(b=aD→xs=[])→RW P Γ pn ops os (E.app [(d,aB (B b))] [(d,0)]) Q):RW P Γ pn ops (⟨aB d,.binOp .eql xt x (.const (.slice aC 0 0)) yt,ty,ps,af,aC⟩::os) E Q:=by
 intro a w Q' hs eE hQ;obtain⟨S,hS,ed,G,ga⟩:=id hs;have eJ:u.single=aD:=by rcases fa with rfl|rfl<;>rfl
 obtain⟨h1,h2⟩:=sH ga hx eJ;obtain⟨ad,n,c,h3,h4⟩:∃ad n c,a.eval x=.slice ad n c∧(ad.isNone=aD→xs=[]):=by
  rcases fa with rfl|rfl
  ·obtain⟨ad,c,g1,_,_,g2⟩:=zCe h1
   refine⟨ad,_,c,by rw[h2,g1],fun hn=>?_⟩;apply Classical.byContradiction;intro gf;obtain⟨b,o',_,_,_,rfl,_⟩:=g2 (by simpa using gf);simp at hn
  ·simp only[R]at h1
   rcases h1 with⟨g1,ad,g2⟩|⟨b,_,cap,cs,e',g1,_⟩
   ·exact⟨ad,0,0,by rw[h2,g2],fun _=>by simpa using g1⟩
   ·exact⟨_,_,_,by rw[h2,g1],fun hn=>by simp at hn⟩
 have gp:(execOp a.eval ⟨aB d,.binOp .eql xt x (.const (.slice aC 0 0)) yt,ty,ps,af,aC⟩).run P w=.ok (.value (.bool ad.isNone)) w:=by have h5:(Op.equalIn 10000 xt (.slice ad n c) (.slice aC 0 0)).run P w=.ok ad.isNone w:=zMs 9999 hu;have h6:a.eval (.const (.slice aC 0 0))=.slice aC 0 0:=rfl;simp[execOp,h3,h6,eqGuard,binOp,zI3,h5]
 simp only[wpL,Region.wanted,if_true];refine .inl ?_;unfold Oper.wp;rw[gp,Oper.upon_value];have eA:=wK ga rfl (zS sd) (fun _=>.bool ad.isNone) (fun _=>rfl) (B ad.isNone) (.bool ad.isNone) (by simp[mkV,Gh.put]) (by simp[R,Gh.put]) (by simp[Top]);refine h ad.isNone h4 _ w Q' ⟨S,hS,ed,_,eA⟩ ?_ hQ;refine eE.frame hp fun s gO=>?_
 have:d≠s:=fun e=>gO (by rw[e])
 simp[Act.put,Array.getElem?_setIfInBounds_ne this]
theorem zI7{t e:TypeId}(hu:P.underlying t=aB (.slice e))(hx:opT E x=aB (.lit (.slice aC 0 0)))(sd:J4 d Γ.N=aD):Ok P Γ ⟨aB d,.call { callee:=.builtin .len,args:=#[x],argTypes:=#[t] },ty,ps,af,gd⟩ E (E.app [(d,aB (I 0))] [(d,0)]):=by
 intro S;refine uT (.int .i64 0) rfl rfl (zS sd) fun a w G ga=>?_
 have h1:=(yL ga hx).1;simp[execOp,resolve,invoke,builtin,h1,Builtin.len_,run_underlying hu,goInt]
theorem zI8{t e:TypeId}(hu:P.underlying t=aB (.slice e))(hx:opT E x=aB (.lit (.slice aC 0 0)))(sd:J4 d Γ.N=aD):Ok P Γ ⟨aB d,.call { callee:=.builtin .cap,args:=#[x],argTypes:=#[t] },ty,ps,af,gd⟩ E (E.app [(d,aB (I 0))] [(d,0)]):=by
 intro S;refine uT (.int .i64 0) rfl rfl (zS sd) fun a w G ga=>?_
 have h1:=(yL ga hx).1;simp[execOp,resolve,invoke,builtin,h1,Builtin.cap_,run_underlying hu,goInt]
theorem zQC{t e:TypeId}{ti:TypeInfo}{u:T}{k:Nat}(ht:ElT P t e ti k u)(hx:opT E x=aB (.lit (.slice aC 0 0)))(hy:opT E y=aB (I 0))(sd:J4 d Γ.N=aD):Ok P Γ ⟨aB d,.slice t x aC (aB y) aC,ty,ps,af,gd⟩ E (E.app [(d,aB (.sl k []))] [(d,0)]):=by
 intro S;refine xF.value rfl fun a w G ga=>?_
 have h1:=(yL ga hx).1;have h2:=(yL ga hy).1;refine⟨.slice aC 0 0,w,?_,_,wK ga rfl (zS sd) (fun _=>.slice aC 0 0) (fun _=>rfl) (.sl k []) (.slice aC 0 0) (by simp[mkV,Gh.put]) (by simp[R,Gh.put]) (by simp[Top,yI,yP])⟩;simp[execOp,Instr.sliceAt,Instr.slice,run_underlying ht.un,h1,h2,sizeOf,typeInfo,ht.info,Instr.sliceBounds,Instr.sliceBound,asIntOf]
theorem zO.nil(s k:Nat)(hs:E s=aB (.lit (.slice aC 0 0))):zO Γ E (E.app [(s,aB (.sl k []))] [(s,0)]):=by
 rintro a w ⟨S,hS,ed,G,ga⟩
 refine⟨S,hS,ed,G,?_⟩;have hk:kE [(s,0)] G w G w:=⟨fun _ _ _=>rfl,fun _ _ _=>rfl,fun _ _ _ _ _ _ h _=>⟨h,rfl⟩,fun _ _ _ h _=>h,fun b cs e h=>⟨cs,h,rfl⟩⟩;refine vK ga rfl hk ga.mem (fun s' gO=>⟨fun n hn=>?_,rfl⟩) fun s' t gO=>?_
 ·simp at hn
  simp[Wr.find,hn.1]at gO
 ·simp only[Wr.find]at gO
  split at gO
  ·rename_i e;subst e
   simp at gO;subst gO;obtain⟨h1,h2,_⟩:=ga.ent s _ hs;simp only[R]at h2;exact⟨by rw[h1];rfl,by simp only[R];exact .inl ⟨trivial,aC,h2⟩,by simp[Top,yI,yP]⟩
  ·cases gO
theorem zEN{src dst:TypeId}{ds:TypeDesc}{k k':IntKind}{n:Int}(hs:P.underlying src=aB ds)(ht:P.underlying dst=aB (.int k'))(hx:opT E x=aB (IK k n))(sd:J4 d Γ.N=aD):
  Ok P Γ ⟨aB d,.convert src dst x,ty,ps,af,gd⟩ E (E.app [(d,aB (IK k' (k'.wrap n)))] [(d,0)]):=fun _=>zQr src dst ds x k k' n rfl rfl (zS sd) hs ht hx
theorem zTo{k:IntKind}{m n:Int}{xt yt:TypeId}(hx:opT E x=aB (IK k m))(hy:opT E y=aB (IK k n))(sd:J4 d Γ.N=aD):Ok P Γ ⟨aB d,.binOp .add xt x y yt,ty,ps,af,gd⟩ E (E.app [(d,aB (IK k (k.wrap (m+n))))] [(d,0)]):=
 fun _=>wY .add xt yt x y k m n _ rfl rfl (zS sd) hx hy rfl
theorem zTp{k:IntKind}{m n:Int}{xt yt:TypeId}(hx:opT E x=aB (IK k m))(hy:opT E y=aB (IK k n))(sd:J4 d Γ.N=aD):Ok P Γ ⟨aB d,.binOp .mul xt x y yt,ty,ps,af,gd⟩ E (E.app [(d,aB (IK k (k.wrap (m*n))))] [(d,0)]):=
 fun _=>wY .mul xt yt x y k m n _ rfl rfl (zS sd) hx hy rfl
theorem zTq{k:IntKind}{m n:Int}{xt yt:TypeId}(hx:opT E x=aB (IK k m))(hy:opT E y=aB (IK k n))(sd:J4 d Γ.N=aD):Ok P Γ ⟨aB d,.binOp .sub xt x y yt,ty,ps,af,gd⟩ E (E.app [(d,aB (IK k (k.wrap (m-n))))] [(d,0)]):=
 fun _=>wY .sub xt yt x y k m n _ rfl rfl (zS sd) hx hy rfl
theorem zJG{k:IntKind}{m n:Int}{xt yt:TypeId}(hx:opT E x=aB (IK k m))(hy:opT E y=aB (IK k n))(sd:J4 d Γ.N=aD):Ok P Γ ⟨aB d,.binOp .gtr xt x y yt,ty,ps,af,gd⟩ E (E.app [(d,aB (B (decide (m> n))))] [(d,0)]):=
 fun _=>wY .gtr xt yt x y k m n _ rfl rfl (zS sd) hx hy rfl
theorem zTr{k:IntKind}{m n:Int}{xt yt:TypeId}(hx:opT E x=aB (IK k m))(hy:opT E y=aB (IK k n))(sd:J4 d Γ.N=aD):Ok P Γ ⟨aB d,.binOp .eql xt x y yt,ty,ps,af,gd⟩ E (E.app [(d,aB (B (m==n)))] [(d,0)]):=
 fun _=>wY .eql xt yt x y k m n _ rfl rfl (zS sd) hx hy rfl
theorem zTs{k:IntKind}{m n:Int}{xt yt:TypeId}(hx:opT E x=aB (IK k m))(hy:opT E y=aB (IK k n))(sd:J4 d Γ.N=aD):Ok P Γ ⟨aB d,.binOp .lss xt x y yt,ty,ps,af,gd⟩ E (E.app [(d,aB (B (decide (m<n))))] [(d,0)]):=
 fun _=>wY .lss xt yt x y k m n _ rfl rfl (zS sd) hx hy rfl
def zEC(k:IntKind)(m n:Int):Int:=k.wrap ((BitVec.ofInt k.bits m &&& BitVec.ofInt k.bits n).toNat:Int)
theorem zTt{k:IntKind}{m n:Int}{xt yt:TypeId}(hx:opT E x=aB (IK k m))(hy:opT E y=aB (IK k n))(sd:J4 d Γ.N=aD):Ok P Γ ⟨aB d,.binOp .and xt x y yt,ty,ps,af,gd⟩ E (E.app [(d,aB (IK k (zEC k m n)))] [(d,0)]):=by
 intro S;refine uT (.int k (zEC k m n)) rfl rfl (zS sd) fun a w G ga=>?_
 have h1:=(yL ga hx).1;have h2:=(yL ga hy).1;simp[execOp,h1,h2,eqGuard,binOp,Op.intBits,zEC]
theorem zTu{k k':IntKind}{m n:Int}{xt yt:TypeId}(hn:0≤n)(hx:opT E x=aB (IK k m))(hy:opT E y=aB (IK k' n))(sd:J4 d Γ.N=aD):Ok P Γ ⟨aB d,.binOp .shr xt x y yt,ty,ps,af,gd⟩ E (E.app [(d,aB (IK k (m.fdiv (2 ^ (min n.toNat k.bits)))))] [(d,0)]):=by
 intro S;refine uT (.int k (m.fdiv (2 ^ (min n.toNat k.bits)))) rfl rfl (zS sd) fun a w G ga=>?_
 have h1:=(yL ga hx).1;have h2:=(yL ga hy).1;have h3:¬n<0:=by omega
 simp[execOp,h1,h2,eqGuard,binOp,Op.shift,h3]
end
end Go.Ab

namespace Go.Ab
open Go
structure zOc (P:Program) (f:Field) (i:Nat):Prop where
 name:f.name≠ "_"
 off:f.offset=i
 ty:P.underlying f.type=aB (.int .i64)
class zQD (P:Program) (t:TypeId):Prop where
 h:∃f0 f1 f2 f3:Field,P.underlying t=aB (.struct #[f0,f1,f2,f3])∧zOc P f0 0∧zOc P f1 1∧zOc P f2 2∧zOc P f3 3
 st:P.stoodInHeld t=aE
 gd:P.eqGuardType P.depth t=aE
theorem zDt{P:Program}{w:World}{f:Field}{i:Nat}(h:zOc P f i)(cs:Array Value)(v:Value)(hv:cs[i]? =aB v):(part f.type cs f.offset).run P w=.ok v w:=by simp[part,qJ h.ty,zDG,h.off,hv]
theorem zOd{P:Program}{w:World}{t:TypeId}(h:zQD P t)(a b c d a' b' c' d':Int)(m:Nat):
  (Op.equalIn (m+2) t (.agg #[.int .i64 a,.int .i64 b,.int .i64 c,.int .i64 d]) (.agg #[.int .i64 a',.int .i64 b',.int .i64 c',.int .i64 d'])).run P w=.ok (a==a'&&(b==b'&&(c==c'&&d==d'))) w:=by
 obtain⟨f0,f1,f2,f3,h1,g0,g1,g2,g3⟩:=h.h;have k0:=fun(x y:Int)=>zEM (P:=P) (w:=w) (a:=x) (b:=y) m g0.ty
 have k1:=fun(x y:Int)=>zEM (P:=P) (w:=w) (a:=x) (b:=y) m g1.ty
 have k2:=fun(x y:Int)=>zEM (P:=P) (w:=w) (a:=x) (b:=y) m g2.ty
 have k3:=fun(x y:Int)=>zEM (P:=P) (w:=w) (a:=x) (b:=y) m g3.ty
 have gG:=h.st;rw[Op.equalIn];simp only[Sem.run_bind,run_underlying h1];have q0:=fun(a b c d:Int)=>zDt (w:=w) g0 #[.int .i64 a,.int .i64 b,.int .i64 c,.int .i64 d] (.int .i64 a) rfl
 have q1:=fun(a b c d:Int)=>zDt (w:=w) g1 #[.int .i64 a,.int .i64 b,.int .i64 c,.int .i64 d] (.int .i64 b) rfl
 have q2:=fun(a b c d:Int)=>zDt (w:=w) g2 #[.int .i64 a,.int .i64 b,.int .i64 c,.int .i64 d] (.int .i64 c) rfl
 have q3:=fun(a b c d:Int)=>zDt (w:=w) g3 #[.int .i64 a,.int .i64 b,.int .i64 c,.int .i64 d] (.int .i64 d) rfl
 by_cases e0:a=a'<;>by_cases e1:b=b'<;>by_cases e2:c=c'<;>by_cases e3:d=d'<;>
  simp[gG,g0.name,g1.name,g2.name,g3.name,q0,q1,q2,q3,k0,k1,k2,k3,e0,e1,e2,e3]
section
variable {P:Program}{Γ:Ctx}{E E':Env}{d:Nat}{x y:Operand}{ty:TypeId}{ps:String}{af:Array Edge}{gd:Option (Nat×Bool)}
theorem zTv{t t':TypeId}{s s':Nat}{a b c e a' b' c' e':Int}(h:zQD P t)(hx:E s=aB (.agg [I a,I b,I c,I e]))(hy:E s'=aB (.agg [I a',I b',I c',I e']))(sd:J4 d Γ.N=aD):
  Ok P Γ ⟨aB d,.binOp .eql t (.tmp s) (.tmp s') t',ty,ps,af,gd⟩ E (E.app [(d,aB (B (a==a'&&(b==b'&&(c==c'&&e==e')))))] [(d,0)]):=by
 intro S;refine uT _ rfl rfl (zS sd) fun A w G ga=>?_
 obtain⟨h1,h2,_⟩:=ga.ent s _ hx;obtain⟨h3,h4,_⟩:=ga.ent s' _ hy;simp only[R,RF]at h2 h4;have e1:A.eval (.tmp s)=.agg #[.int .i64 a,.int .i64 b,.int .i64 c,.int .i64 e]:=by rw[xD h1];simp[mkV,zR,vals,h2]
 have e2:A.eval (.tmp s')=.agg #[.int .i64 a',.int .i64 b',.int .i64 c',.int .i64 e']:=by rw[xD h3];simp[mkV,zR,vals,h4]
 have h5:(Op.equalIn 10000 t (.agg #[.int .i64 a,.int .i64 b,.int .i64 c,.int .i64 e]) (.agg #[.int .i64 a',.int .i64 b',.int .i64 c',.int .i64 e'])).run P w=_:=zOd (w:=w) h a b c e a' b' c' e' 9998;have hg:=h.gd;simp[execOp,e1,e2,eqGuard,binOp,zI3,h5,hg]
end
end Go.Ab

namespace Go.Ab
open Go
abbrev vI(n:Int):Value:=.int .i64 n
section
variable {Γ:Ctx}{E:Env}
theorem zI9{G:Gh}{tmps:Array Value}{w w':World}(ga:Rep Γ E G tmps w){s0:Nat}{xs us:List Int}(ef:E s0=aB (L 1 I xs))(gc:us.length=xs.length)
  {b o0 cap:Nat}{cs cs':Array Value}{e:TypeId}(h1:G.hd s0 []=.slice (aB ⟨b,o0,aC⟩) xs.length cap)(h2:w.heap[b]? =aB (.cells cs e (0,0)))(h3:xs.length≤cap)(h4:cap≤maxLen)(h5:o0+cap*1≤cs.size)(h6:G.ow b=aB (s0,[]))
  (h7:∀o,o0+xs.length*1≤o→o<o0+cap*1→G.lb b o=aB (aD,s0,[]))(h8:RL Γ.St G w s0 (xs.map I) [] 0 b o0 1)
  (k1:w'.heap[b]? =aB (.cells cs' e (0,0)))(k2:cs'.size=cs.size)(k3:∀b',b'≠b→w'.heap[b']? =w.heap[b']?)(k4:w'.heap.size=w.heap.size)(ko:w'.os=w.os)(kq:w'.output=w.output)(k5:∀(i:Nat) u,us[i]? =aB u→cs'[o0+i]? =aB (vI u)):
  ∃G',Rep Γ (E.app [(s0,aB (L 1 I us))] [(s0,1)]) G' tmps w':=by
 have hm:=ga.mem;obtain⟨e1,_,_⟩:=ga.ent s0 _ ef;have gD:=hm.ow b _ h6
 let G':Gh:={ G with hd:=fun s z=>if s=s0 then(match z with
  | [i]=>(match us[i]? with
   |some u=>vI u
   |none=>G.hd s0 z)
  |_=>G.hd s0 z)else G.hd s z }
 have hB:Blk w w':=by
  intro b' cs2 e2 hb
  by_cases el:b'=b
  ·subst el
   rw[h2]at hb;simp at hb;obtain⟨rfl,rfl⟩:=hb;exact⟨cs',k1,k2⟩
  ·exact⟨cs2,by rw[k3 b' el];exact hb,rfl⟩
 have gn:kE [(s0,1)] G w G' w':=by
  refine⟨fun s p ho=>?_,fun _ _ _=>rfl,fun b' o f s p gT hl hs=>⟨hl,?_⟩,fun _ _ _ hl _=>hl,hB⟩
  ·by_cases h:s=s0
   ·subst h
    have:p=[]:=Jr (by have:=ho 1 (by simp);omega);subst this;simp[G']
   ·simp[G',h]
  ·have ek:s≠s0:=fun e=>hs 1 (by simp[e])
   obtain⟨y,hy⟩:=gT;have el:b'≠b:=by
    rintro rfl
    rw[h6]at hy;simp at hy;exact ek hy.1.symm
   simp[zV,World.cell?,k3 b' el]
 have gw:Mem Γ G' w':=by
  refine⟨fun s z=>?_,fun b' o l hl=>?_,fun b' l hl=>?_,fun b' x hx=>?_,fun b' h h'=>?_,by rw[k4];exact hm.sz,hm.bk.trans hB ko kq⟩
  ·show(if _ then _ else _:Value).oneCell'=aD
   split
   ·split
    ·split
     ·rfl
     ·exact hm.one _ _
    ·exact hm.one _ _
   ·exact hm.one _ _
  ·have:=hm.lb b' o l hl;exact⟨by rw[k4];exact this.1,this.2⟩
  ·have:=hm.ow b' l hl;exact⟨by rw[k4];exact this.1,this.2⟩
  ·have:b'≠b:=by rintro rfl;rw[gD.2.2]at hx;cases hx
   rw[k3 b' this];exact hm.st b' x hx
  ·have:b'≠b:=by
    rintro rfl
    rcases gD.2.1 with h0|h0
    ·omega
    ·exact h' h0
   rw[k3 b' this];exact hm.fr b' h h'
 refine⟨G',vK ga rfl gn gw ?_ ?_⟩
 ·intro s hs
  rw[uK]at hs;split at hs
  ·cases hs
  ·rename_i gf
   exact⟨fun n hn=>gf (by simp at hn;exact hn.1.symm),rfl⟩
 ·intro s t' hs
  rw[uK]at hs;split at hs
  ·rename_i he;subst he
   simp at hs;subst hs;refine⟨by rw[e1];simp[mkV,G'],?_,by simp only[Top];exact zCR zLf us⟩;simp only[R];refine .inr ⟨b,o0,cap,cs',e,by simp[G',h1,gc],k1,by simp[gc];exact h3,h4,by omega,h6,fun o fA fy=>h7 o (by simpa[gc]using fA) fy,?_⟩;refine zHo _ [] 0 b o0 fun i x hx=>?_
   rw[Jm,K1]at hx;obtain⟨u,hu,rfl⟩:=hx;have hi:=(Jc.1 hu).1;obtain⟨g1,g2,_⟩:=qG _ [] 0 b o0 1 i (I xs[i]) h8 (by simp[show i<xs.length by omega]);simp only[J7,Ht,Loc]at g1 ⊢
   refine⟨⟨g1.1,g1.2.1,?_⟩,rfl,by simp[R,G',hu]⟩;have:=k5 i u hu;simp[zV,World.cell?,k1,this,G',hu]
  ·cases hs
def zF5(P:Program)(Γ:Ctx)(E:Env)(y:Operand)(ys:List Int):Prop:=∀(a:Act)(w:World)(G:Gh),Rep Γ E G a.tmps w→ ∃xa c,a.eval y=.slice xa ys.length c∧
 ∀(n:Nat),n≤ys.length→(Builtin.firstCells 1 n (.slice xa ys.length c)).run P w=.ok ((ys.take n).map vI).toArray w
theorem zB4{P:Program}{w:World}{b o:Nat}{cs:Array Value}{e:TypeId}{fr:Nat×Nat}(hb:w.heap[b]? =aB (.cells cs e fr))(ys:List Int)(hv:∀(i:Nat) u,ys[i]? =aB u→cs[o+i]? =aB (vI u))(n:Nat)(hn:n≤ys.length)(len cap:Nat):
  (Builtin.firstCells 1 n (.slice (aB ⟨b,o,aC⟩) len cap)).run P w=.ok ((ys.take n).map vI).toArray w:=by
 refine run_firstCells_some (P:=P) w 1 n ⟨b,o,aC⟩ len cap _ (by simp;omega) fun j v hj=>?_
 rw[Jm,K1]at hj;obtain⟨u,hu,rfl⟩:=hj;rw[Lq]at hu;split at hu
 ·rw[wZ]
  have:=hv j u hu;simp[World.cell?,hb,this]
 ·cases hu
theorem zBN{P:Program}{w:World}{a:Option Addr}{c:Nat}:(Builtin.firstCells 1 0 (.slice a 0 c)).run P w=.ok #[] w:=by cases a<;>simp[Builtin.firstCells,loadCells,loadCellsFrom]
theorem zF5.ro{P:Program}{y:Operand}{ys:List Int}{r:Nat}{q:List Nat}(h:uL E y=aB (r,q,.ro (L 1 I ys))):zF5 P Γ E y ys:=fun a w G ga=>by
 obtain⟨h1,h2⟩:=sH ga h rfl;obtain⟨xa,c,g1,_,_,g2⟩:=zCe h1;rw[Jo]at g1;refine⟨xa,c,by rw[h2,g1],fun n hn=>?_⟩
 by_cases hy:ys=[]
 ·subst hy
  simp at hn;subst hn;simpa using zBN
 ·obtain⟨b,o,cs,e,fr,rfl,g3,g4⟩:=g2 (by simpa using hy)
  refine zB4 (ga.mem.st b _ g3) ys (fun i u hu=>?_) n hn _ _;have:=zEI _ cs o 1 i (I u) g4 (by simp[hu]);simp only[RoC,Ht]at this;exact this.1
theorem zLk{G:Gh}{w:World}{s b o0:Nat}{q:List Nat}{cs:Array Value}{e:TypeId}{xs:List Int}{St:Stb}(h2:w.heap[b]? =aB (.cells cs e (0,0)))(h8:RL St G w s (xs.map I) q 0 b o0 1)(i:Nat)(u:Int)(hu:xs[i]? =aB u):cs[o0+i]? =aB (vI u):=by obtain⟨g1,_,g3⟩:=qG _ q 0 b o0 1 i (I u) h8 (by simp[hu]);simp only[Loc,R,J7,Ht]at g1 g3;have:=g1.2.2;simp only[zV,World.cell?,h2]at this;simpa[g3]using this
theorem zF5.sub{P:Program}{s r:Nat}{q:List Nat}{tr:T}{xs ys:List Int}{l h:Int}(hs:E s=aB (.sub r q 1 l.toNat h.toNat))(hr:E r=aB tr)(hg:tr.get q.reverse=aB (L 1 I xs))(hv:zN xs l h=aB ys):zF5 P Γ E (.tmp s) ys:=fun a w G ga=>by
 obtain⟨k1,k2,k3,rfl⟩:=uY hv;obtain⟨e1,e2,_⟩:=ga.ent s _ hs;obtain⟨_,e4,_⟩:=ga.ent r _ hr;simp only[R]at e2;have h5:=(zBA q.reverse tr _ [] e4 hg).1;simp only[rp,Kk,Jf,R]at h5;have gc:((xs.drop l.toNat).take (h.toNat-l.toNat)).length=h.toNat-l.toNat:=by simp;omega
 rw[gc];have pu:a.eval (.tmp s)=G.hd s []:=by rw[xD e1,yR rfl]
 rcases h5 with⟨g1,ad,g2⟩|⟨b,o0,cap,cs,e,g1,g2,g3,_,_,_,_,g8⟩
 ·have hy:xs=[]:=by simpa using g1
  subst hy;have hl0:l.toNat=0:=by simp at k3;omega
  have pX:h.toNat=0:=by simp at k3;omega
  refine⟨ad,0,by rw[pu,e2,g2,hl0,pX];simp[zAN],fun n hn=>?_⟩;simp[pX]at hn;subst hn;rw[hl0,pX];simpa using zBN
 ·rw[Jo]at g1 g3
  refine⟨if cap=l.toNat then aB ⟨b,o0,aC⟩else aB ⟨b,o0+l.toNat,aC⟩,cap-l.toNat,by rw[pu,e2,g1];simp only[zAN,Gt,wZ,Ht],fun n hn=>?_⟩;split
  ·have:n=0:=by omega
   subst this;simp[Builtin.firstCells,loadCells,loadCellsFrom]
  ·refine zB4 g2 _ (fun i u hu=>?_) n (by rw[gc];exact hn) _ _
   rw[Lq]at hu;split at hu
   ·rw[Kw]at hu
    rw[Lf];exact zLk g2 g8 _ u hu
   ·cases hu
def zCA(Γ:Ctx)(E:Env)(x:Operand)(s0 lo hi:Nat):Prop:=∀(a:Act)(w:World)(G:Gh),Rep Γ E G a.tmps w→a.eval x=zAN (G.hd s0 []) 1 lo hi
theorem zCA.slot{s0:Nat}{xs:List Int}(h:E s0=aB (L 1 I xs)):zCA Γ E (.tmp s0) s0 0 xs.length:=fun a w G ga=>by obtain⟨e1,e2,_⟩:=ga.ent s0 _ h;obtain⟨ad,c,g⟩:=zHj e2;rw[Jo]at g;rw[xD e1,yR rfl,g];simp[zAN];intro;cases ad<;>simp[Addr.add]
theorem zCA.same{s s0:Nat}{xs:List Int}(hs:E s=aB (.same s0 []))(h:E s0=aB (L 1 I xs)):zCA Γ E (.tmp s) s0 0 xs.length:=fun a w G ga=>by obtain⟨e1,e2,_⟩:=ga.ent s _ hs;have:=zCA.slot h a w G ga;obtain⟨e3,_,_⟩:=ga.ent s0 _ h;simp only[R]at e2;rw[xD e3,yR rfl]at this;rw[xD e1,yR rfl,e2];exact this
theorem zCA.sub{s s0 lo hi:Nat}(hs:E s=aB (.sub s0 [] 1 lo hi)):zCA Γ E (.tmp s) s0 lo hi:=fun a w G ga=>by obtain⟨e1,e2,_⟩:=ga.ent s _ hs;simp only[R]at e2;rw[xD e1,yR rfl,e2]
end
theorem zMt{α:Type}{xs ys:List α}{l h:Int}(hv:zN xs l h=aB ys):l.toNat≤h.toNat:=by have:=uY hv;omega
theorem zMu{α:Type}{xs ys:List α}{l h:Int}(hv:zN xs l h=aB ys):h.toNat≤xs.length:=by have:=uY hv;omega
theorem zLl{α:Type}(l z:List α)(lo i:Nat)(gX:lo+z.length≤l.length):(l.take lo++z++l.drop (lo+z.length))[i]? =if i<lo then l[i]? else if i<lo+z.length then z[i-lo]? else l[i]?:=by
 have hm:min lo l.length=lo:=by omega
 by_cases c1:i<lo
 ·rw[if_pos c1,Je,Jz (by simp;omega),Lq,if_pos c1]
 ·rw[if_neg c1]
  by_cases c2:i<lo+z.length
  ·rw[if_pos c2,Je,Ja (by simp;omega),K7,hm,Jz (by omega)]
  ·rw[if_neg c2,Je,Ja (by simp;omega),K7,hm,Ja (by omega),Kw]
   congr 1;omega
def vF(xs:List Int)(lo:Nat)(zs:List Int):List Int:=xs.take lo++zs++xs.drop (lo+zs.length)
theorem zLm{P:Program}{Γ:Ctx}{E:Env}{d s0 lo hi:Nat}{x y:Operand}{ty:TypeId}{ps:String}{af:Array Edge}{gd:Option (Nat×Bool)}{t t2 e:TypeId}{ti:TypeInfo}{u:T}{xs ys:List Int}(ht:ElT P t e ti 1 u)(h0:E s0=aB (L 1 I xs))(hx:∀S,zCA (Γ.at S) E x s0 lo hi)(hy:∀S,zF5 P (Γ.at S) E y ys)(h1:lo≤hi)(h2:hi≤xs.length)(sd:(J4 d Γ.N&&(s0 != d))=aD):
  Ok P Γ ⟨aB d,.call { callee:=.builtin .copy,args:=#[x,y],argTypes:=#[t,t2] },ty,ps,af,gd⟩ E ((E.app [(s0,aB (L 1 I (vF xs lo (ys.take (hi-lo)))))] [(s0,1)]).app [(d,aB (I ((min ys.length (hi-lo):Nat):Int)))] [(d,0)]):=by
 simp only[J3]at sd;have gf:s0≠d:=by simpa using sd.2
 intro S;refine xF.value rfl fun a w G ga=>?_
 obtain⟨e1,e2,_⟩:=ga.ent s0 _ h0;obtain⟨xa,c,g1,g2⟩:=hy S a w G ga;have g3:=hx S a w G ga;have pg:min ys.length (hi-lo)≤ys.length:=by omega
 have g4:=g2 _ pg;have htk:ys.take (hi-lo)=ys.take (min ys.length (hi-lo)):=by rw[List.take_eq_take_iff];omega
 rw[htk]
 generalize hn:min ys.length (hi-lo)=n at*
 have cf:(ys.take n).length=n:=by simp;omega
 have gc:(vF xs lo (ys.take n)).length=xs.length:=by simp[vF,cf];omega
 have key:∃w',(Builtin.copy_ #[t,t2] ty #[a.eval x,a.eval y]).run P w=.ok (goInt n) w'∧ ∃G',Rep (Γ.at S) (E.app [(s0,aB (L 1 I (vF xs lo (ys.take n))))] [(s0,1)]) G' a.tmps w':=by
  have e2':=e2;simp only[R]at e2;rcases e2 with⟨k1,ad,k2⟩|⟨b,o0,cap,cs,e',k1,k2,k3,k4,k5,k6,k7,k8⟩
  ·have ew:xs=[]:=by simpa using k1
   subst ew;simp at h2;subst h2;have mF:n=0:=by omega
   subst mF;have gX:lo=0:=by omega
   subst gX;refine⟨w,?_,G,?_⟩
   ·rw[g3,k2,g1]
    cases ad<;>cases xa<;>simp[zAN,Builtin.copy_,run_underlying ht.un,Builtin.lenOf,sizeOf,typeInfo,ht.info,Builtin.firstCells,loadCells,loadCellsFrom,storeCells]
   ·refine vK ga rfl ⟨fun _ _ _=>rfl,fun _ _ _=>rfl,fun _ _ _ _ _ _ h _=>⟨h,rfl⟩,fun _ _ _ h _=>h,fun b cs e h=>⟨cs,h,rfl⟩⟩ ga.mem (fun s hs=>⟨fun n hn=>by simp at hn;simp[Wr.find,hn.1]at hs,rfl⟩) fun s t' hs=>?_
    rw[uK]at hs;split at hs
    ·rename_i he;subst he
     simp at hs;subst hs;simpa[vF]using ga.ent s0 _ h0
    ·cases hs
  ·rw[Jo]at k1 k3 k7
   have gx:o0+cap≤cs.size:=by omega
   have gG:=run_storeCells_at P b (o0+lo) e' ((ys.take n).map vI) 0 cs w k2 (by simp;omega) (by intro v hv;obtain⟨u,_,rfl⟩:=Jd.1 hv;rfl);simp only[Uz,Jo]at gG
   generalize hw':w.setRow b (cs.toList.take (o0+lo)++(ys.take n).map vI++cs.toList.drop (o0+lo+(ys.take n).length)).toArray=w' at gG
   have gC:cs.toList.length=cs.size:=Jy ..
   by_cases fZ:cap=lo
   ·have mF:n=0:=by omega
    subst mF;refine⟨w,?_,G,?_⟩
    ·rw[g3,k1,g1]
     have g5:(Builtin.firstCells 1 0 (.slice xa ys.length c)).run P w=.ok #[] w:=by simpa using g4
     simp[zAN,Builtin.copy_,run_underlying ht.un,Builtin.lenOf,sizeOf,typeInfo,ht.info,ht.size,show hi-lo=0 by omega,g5,storeCells,fZ]
    ·refine vK ga rfl ⟨fun _ _ _=>rfl,fun _ _ _=>rfl,fun _ _ _ _ _ _ h _=>⟨h,rfl⟩,fun _ _ _ h _=>h,fun b cs e h=>⟨cs,h,rfl⟩⟩ ga.mem (fun s hs=>⟨fun n hn=>by simp at hn;simp[Wr.find,hn.1]at hs,rfl⟩) fun s t' hs=>?_
     rw[uK]at hs;split at hs
     ·rename_i he;subst he
      simp at hs;subst hs;simpa[vF]using ga.ent s0 _ h0
     ·cases hs
   ·refine⟨w',?_,zI9 ga h0 gc k1 k2 k3 k4 k5 k6 k7 k8 (by rw[←hw'];exact setRow_heap w b cs _ e' _ k2) ?_ (fun b' h=>by rw[←hw'];exact setRow_other w b b' _ h) (by rw[←hw'];exact size_setRow w b _) (by rw[←hw'];rfl) (by rw[←hw'];rfl) fun i v hv=>?_⟩
    ·rw[g3,k1,g1]
     have h9:Nat.min ys.length (hi-lo)=n:=hn;simp only[zAN,fZ,if_false,Gt,wZ,Ht];simp only[Builtin.copy_];rw[G9]at gG;simp[run_underlying ht.un,Builtin.lenOf,sizeOf,typeInfo,ht.info,ht.size,h9,g4,gG]
    ·simp[cf];omega
    ·rw[vF,zLl _ _ _ _ (by rw[cf];omega)]at hv
     have h11:o0+lo+((ys.take n).map vI).length≤cs.toList.length:=by simp;omega
     have h10:=zLl cs.toList ((ys.take n).map vI) (o0+lo) (o0+i) h11;rw[Jo]at h10;rw[List.getElem?_toArray,h10];have fg:=fun i u hu=>zLk k2 k8 i u hu
     by_cases c1:i<lo
     ·rw[if_pos c1]at hv
      rw[if_pos (by omega)];simpa using fg i v hv
     ·rw[if_neg c1]at hv
      rw[if_neg (by omega)]
      by_cases c2:i<lo+(ys.take n).length
      ·rw[if_pos c2]at hv
       rw[if_pos (by omega),show o0+i-(o0+lo)=i-lo from by omega];rw[Jm,hv];rfl
      ·rw[if_neg c2]at hv
       rw[if_neg (by omega)];simpa using fg i v hv
 obtain⟨w',gp,G',gj⟩:=key;refine⟨_,w',?_,_,wK gj rfl (zS sd.1) (fun _=>vI n) (fun _=>rfl) (I n) (vI n) (by simp[mkV,Gh.put]) (by simp[R,Gh.put]) (by simp[Top])⟩;simp[execOp,resolve,invoke,builtin,gp,goInt]
end Go.Ab

namespace Go.Ab
open Go
theorem zGM{G G':Gh}{s d:Nat}(hd:∀z,G'.hd d z=G.hd s z):(xs:List T)→zW xs=aD→ ∀(j:Nat),kD G' d (cpF s xs [] j) [] j=kD G s xs [] j
 | [],_,_=>by rfl
 |x::xs,h,j=>by
  simp only[zW,J3]at h;simp only[cpF,kD];have gU:∀ys,x≠.tup ys:=by rintro ys rfl;grind[T.okTup]
  have h1:=zAq (G:=G) (G':=G') (s:=s) (d:=d) x [j] [j] gU (fun z=>hd _);have h2:∀ys,cpT s x [j]≠.tup ys:=by intro ys;cases x<;>simp[cpT]
  rw[kF _ _ _ _ h2]at h1;rw[h1,zGM hd xs h.2 (j+1)]
section
variable {P:Program}{Γ:Ctx}{E E':Env}{d:Nat}{x y:Operand}{ty:TypeId}{ps:String}{af:Array Edge}{gd:Option (Nat×Bool)}
theorem zS8{s:Nat}{ts:List T}(hx:E s=aB (.tup ts))(sd:(J4 d Γ.N&&zW ts&&(s != d)&&zHZ [(d,0)] (cpF s ts [] 0))=aD):Ok P Γ ⟨aB d,.move (.tmp s),ty,ps,af,gd⟩ E (E.app [(d,aB (.tup (cpF s ts [] 0)))] [(d,0)]):=by
 simp only[J3]at sd;obtain⟨⟨⟨s1,s2⟩,s3⟩,s4⟩:=sd;have gf:s≠d:=by grind
 intro S;refine xF.value rfl fun a w G ga=>?_
 obtain⟨h1,h2,_⟩:=ga.ent s _ hx;simp only[R]at h2;have hk:=G.put_keep (w:=w) (w':=w) rfl d (fun z=>G.hd s z);have hz:∀z,(G.put d (fun z=>G.hd s z)).hd d z=G.hd s z:=by grind[Gh.put_self]
 have htop:∀(xs:List T)(j:Nat),vE (cpF s xs [] j):=by
  intro xs
  induction xs with
  |nil=>intro j;simp only[cpF,vE]
  |cons x xs ih=>intro j;simp only[cpF,vE];grind[sC]
 refine⟨mkV G s (.tup ts) [],w,?_,_,wK ga rfl (zS s1) (fun z=>G.hd s z) (fun z=>ga.mem.one _ _) _ _ (by grind[mkV,zGM])
  (by simp only[R];exact zHh (fun p=>G.put_other _ p gf) ts [] [] 0 (fun z=>hz _) (yP.mono (fun r p hr=>⟨hk.hd r p hr,hk.ad r p hr⟩) _ (by grind[zEY])) h2) (by simp only[Top];grind)⟩
 simp[execOp,xD h1]
end
end Go.Ab

namespace Go.Ab
open Go
end Go.Ab

namespace Go.Ab
open Go
section
variable {P:Program}{Γ:Ctx}{E:Env}{d:Nat}{x:Operand}{ty:TypeId}{ps:String}{af:Array Edge}{gd:Option (Nat×Bool)}
class zVe (P:Program) (t:TypeId) (e:outParam TypeId) (ti:outParam TypeInfo) (n:outParam Nat) (k:outParam Nat):Prop where
 un:P.underlying t=aB (.array n e)
 info:P.info? e=aB ti
 size:ti.size=k
theorem zS9{t e:TypeId}{ti:TypeInfo}{n k r:Nat}{q:List Nat}{xs:List T}{u:T}(i:Nat)(ht:zVe P t e ti n k)(hx:uL E x=aB (r,q,.ptr (.agg xs)))(hu:xs[i]? =aB u)(gH:T.sizes (xs.take i)=i*k)(sd:(J4 d Γ.N&&J4 i n)=aD):
  Ok P Γ ⟨aB d,.indexAddr t x (.const (.int .i64 i)),ty,ps,af,gd⟩ E (E.app [(d,aB (.addr r (i::0::q)))] [(d,0)]):=by
 simp only[J3]at sd;have gF:=zS sd.2;intro S;refine xF.value rfl fun a w G ga=>?_
 obtain⟨g1,g2⟩:=sH ga hx rfl;simp only[R]at g1;obtain⟨b,cs,e',g4,_,_,_,g5,_⟩:=g1;simp only[Loc]at g5;have g6:=zDi xs (0::q) 0 b 0 i u g5.2 hu;simp only[J7]at g6;have g3:a.eval (.const (.int .i64 i))=.int .i64 i:=rfl;refine⟨.pointer (aB (G.ad r (i::0::q))),w,?_,_,wK ga rfl (zS sd.1) (fun _=>.pointer (aB (G.ad r (i::0::q)))) (fun _=>rfl) _ _ (by simp[mkV,Gh.put]) (by simp[R,Gh.put]) (by simp[Top])⟩;have gP:(i:Int)<(n:Int):=by omega
 have h0:(0:Int)≤i:=by omega
 have g7:=zCJ g6;have po:i<n:=gF;simp[execOp,Instr.indexAt,g3,g2,g4,asIntOf,run_underlying ht.un,h0,po,sizeOf,typeInfo,ht.info,ht.size,wZ,uR,g7,gH]
end
end Go.Ab
namespace Go.Ab
open Go
theorem zVf{E:Env}{ds r s:Nat}{q:List Nat}{tr u t:T}(h:E s=aB t)(gf:(Nat.beq ds s||Nat.beq r s)=aE:=by rfl)(hb:t.okB [(ds,1),(r,q.length+1)]=aD:=by rfl):opT (wL E ds r q tr u) (.tmp s)=aB t:=by
 have h1:ds≠s:=by rintro rfl;simp at gf
 have h2:r≠s:=by rintro rfl;simp at gf
 simp[opT,wL,Env.app,Wr.find,h1,h2,h,hb]
end Go.Ab
namespace Go.Ab
open Go
section
variable {P:Program}{Γ:Ctx}{pn:sT}{E E':Env}{Q Q1:Exit→Env→Prop}{c c1 c2:Code}{ops:Array Oper}{o:Oper}{os:List Oper}{id:Nat}
theorem sR(h:RW P Γ pn ops ops.toList E (yA P Γ pn c Q)):CW P Γ pn (.seq (.region id ops aE) c) E Q:=CW.seq (CW.region h)
theorem rN(h:CW P Γ pn c E Q):RW P Γ pn ops [] E (yA P Γ pn c Q):=RW.nil h
theorem oP(h:Ok P Γ o E E')(k:RW P Γ pn ops os E' Q)(hg:o.guard=aC:=by rfl)(hp:pn.ok o.dst=aD:=by rfl):RW P Γ pn ops (o::os) E Q:=RW.op h k hg hp
def zTw(ops:List Oper):List (List Nat):=(ops.foldl (fun(acc:Array (List Nat)) o=>acc.push ((zAW o).foldl (fun l m=>m::(acc.getD m [])++l) [])) #[]).toList
theorem CW.lp{σ ρ:Type}(body:σ→Option (σ⊕ρ))(en:σ→Env)(Q1:ρ→Exit→Env→Prop){s:σ}{r:ρ}(hg:zO Γ E (en s))(h:∀s x,body s=aB x→CW P Γ pn c (en s) (xE Γ en Q1 x))(hr:zC body s=aB r)(hq:∀e E',Q1 r e E'→Q e E'):CW P Γ pn (.loop c) E Q:=
 (CW.mono (CW.loop body en Q1 h hr) hq).ghost hg
end
end Go.Ab

namespace Go.Ab
open Go Go.ChangeShapes
abbrev zIA(w:World):Stb:=fun b=>w.heap[b]?
theorem zMv{w:World}{a:Addr}{n:Nat}{cs:List Value}(h:w.cells? 0 a n=aB cs):cs.length=n∧ ∀(i:Nat) v,cs[i]? =aB v→w.cell? (a.add i)=aB v:=by
 unfold World.cells? at h;rw[if_pos (Kc _)]at h;refine⟨by simpa using mapM_some_length h,fun i v hv=>?_⟩;have hi:i<n:=by have:=(Jc.1 hv).1;have h2:=mapM_some_length h;rw[Gm]at h2;omega
 rw[←hv];exact mapM_some_get h i i (by simp[hi])
theorem zLn{w:World}{a:Addr}{v:Value}(h:w.cell? a=aB v):a.spot=aC∧ ∃c e fr,w.heap[a.block]? =aB (.cells c e fr)∧c[a.off]? =aB v:=by
 simp only[World.cell?]at h;split at h
 ·rename_i c e fr hb
  split at h
  ·cases h
  ·rename_i hs
   exact⟨by cases hq:a.spot with|none=>rfl|some _=>rw[hq]at hs;simp at hs,c,e,fr,hb,h⟩
 ·cases h
theorem zIB{b o m:Nat}:(Addr.mk b o aC).add m=⟨b,o+m,aC⟩:=by
 unfold Addr.add;split
 ·rename_i h;subst h;rfl
 ·rfl
theorem zEy{α:Type}{Q:Nat→α→Prop}:∀(n:Nat),(∀i,i<n→ ∃x,Q i x)→ ∃xs:List α,xs.length=n∧ ∀i x,xs[i]? =aB x→Q i x
 |0,_=>⟨[],rfl,fun i x h=>by simp at h⟩
 |n+1,h=>by
  obtain⟨xs,h1,h2⟩:=zEy n fun i hi=>h i (by omega)
  obtain⟨y,hy⟩:=h n (by omega);refine⟨xs++[y],by simp[h1],fun i x hx=>?_⟩;rw[K4]at hx;split at hx
  ·exact h2 i x hx
  ·rename_i hge
   have:i-xs.length=0:=by have:=(Jc.1 hx).1;simpa using this
   rw[this]at hx;simp at hx;subst hx
   rwa [show i=n from by omega]
theorem zLo{St:Stb}:(xs:List T)→ ∀(cs:Array Value)(o k:Nat),(∀i x,xs[i]? =aB x→RoC St x cs (o+i*k))→RoL St xs cs o k
 | [],_,_,_,_=>by simp only[RoL]
 |x::xs,cs,o,k,h=>by
  simp only[RoL];refine⟨by simpa using h 0 x rfl,zLo xs cs (o+k) k fun i y hy=>?_⟩;have:=h (i+1) y (by simpa using hy)
  rwa [show o+k+i*k=o+(i+1)*k from by rw[Lt];omega]
section
variable {P:Program}
def RdT(P:Program)(t:TypeId)(k:Nat){α:Type}(f:α→T)(V:α→Prop):Prop:=
 ∀{H:Type}(enc:TypeId×Value→H)(w:World)(fuel:Nat)(cs:List Value)(x:DataW H×List MemPlace),DataW.trod enc P w 0 (fun _=>aD) aD fuel t cs=aB x→
  cs.length=k→ ∃d,V d∧ ∀(A:Array Value)(o:Nat),(∀(i:Nat) v,cs[i]? =aB v→A[o+i]? =aB v)→RoC (zIA w) (f d) A o
theorem zTx{t:TypeId}{q:IntKind}(hu:P.underlying t=aB (.int q)):RdT P t 1 (IK q) (fun n=>(Lit.int q n).wf=aD):=by intro H enc w fuel cs x h _;obtain⟨n,rfl,_,hw⟩:=DataW.trod_int hu h;exact⟨n,hw,fun A o hA=>by simp only[RoC];exact⟨by simpa using hA 0 _ rfl,rfl⟩⟩
theorem zWH{α:Type}{f:α→T}{V:α→Prop}{t e:TypeId}{k:Nat}(hu:P.underlying t=aB (.slice e))(hk:P.cellsOf e=k)(er:0<k)(h:RdT P e k f V):
  RdT P t 1 (L k f) (fun xs=>xs.length≤maxLen∧ ∀x∈xs,V x):=by
 intro H enc w fuel cs x hx _;rcases DataW.trod_slice hu hx with⟨rfl,_⟩|⟨a,len,cap,elems,rest,n,rfl,rfl,_,_,fN,fZ,hel,fX,_⟩
 ·refine⟨[],⟨by simp,by simp⟩,fun A o hA=>?_⟩
  simp only[RoC,Gf,Hi];exact⟨aC,0,by simpa using hA 0 _ rfl,Ji _,by simp[maxLen],fun h=>absurd rfl h⟩
 ·subst hk
  have key:∀i,i<len→ ∃y,V y∧ ∃cs':List Value,cs'.length=P.cellsOf e∧(∀(j:Nat) v,cs'[j]? =aB v→w.cell? ((a.add (i*P.cellsOf e)).add j)=aB v)∧
    ∀(A:Array Value)(o:Nat),(∀(j:Nat) v,cs'[j]? =aB v→A[o+j]? =aB v)→RoC (zIA w) (f y) A o:=by
   intro i hi;have h1:=fX i hi;rw[J5 (by omega)]at h1;obtain⟨cs',h2,h3⟩:=Option.bind_eq_some_iff.1 h1;obtain⟨h4,h5⟩:=zMv h2;obtain⟨y,h6,h7⟩:=h enc w n cs' _ h3 h4;exact⟨y,h6,cs',h4,h5,h7⟩
  obtain⟨xs,be,ew⟩:=zEy len key;refine⟨xs,⟨by omega,fun y hy=>?_⟩,fun A o hA=>?_⟩
  ·obtain⟨i,hi,rfl⟩:=Jv.1 hy
   exact(ew i _ (J5 hi)).1
  ·simp only[RoC,Jo,be]
   refine⟨aB a,cap,by simpa using hA 0 _ rfl,fN,fZ,fun gf=>?_⟩;have pb:0<xs.length:=by
    cases xs with
    |nil=>simp at gf
    |cons _ _=>simp
   obtain⟨_,cs0,g1,g2,_⟩:=ew 0 _ (J5 pb);have hz:a.add (0*P.cellsOf e)=a:=by simp[Addr.add]
   have g3:=g2 0 cs0[0] (J5 (by omega));rw[hz,show a.add 0=a from by simp[Addr.add]]at g3;obtain⟨cX,c,e',fr,hb,_⟩:=zLn g3;obtain⟨b,off,sp⟩:=a;simp only at cX hb;subst cX;refine⟨b,off,c,e',fr,rfl,hb,zLo _ _ _ _ fun i y hy=>?_⟩;rw[Jm,K1]at hy;obtain⟨z,cI,rfl⟩:=hy;obtain⟨_,cs',g1',g2',g4⟩:=ew i z cI;refine g4 c _ fun j v hv=>?_
   have:=g2' j v hv;rw[zIB,zIB]at this;obtain⟨_,c2,e2,fr2,mW,cR⟩:=zLn this;simp only at mW cR;rw[hb]at mW;cases mW;exact cR
end
def zQE(v:Value):Value:=if v.oneCell' then v else .bool aE
theorem zIC(v:Value):(zQE v).oneCell'=aD:=by unfold zQE;split;assumption;rfl
def hd0(vs:Array Value)(s:Nat)(p:List Nat):Value:=
 match vs[s]?,p with
 |some (.agg cs),[j]=>zQE (cs[j]?.getD (.bool aE))
 |some v,[]=>zQE v
 |_,_=>.bool aE
def G0(vs:Array Value):Gh:={ hd:=hd0 vs,ad:=fun _ _=>default,lb:=fun _ _=>aC,ow:=fun _=>aC }
theorem zWI(w:World)(vs:Array Value):Mem ⟨zIA w,fun _=>False,w,0⟩ (G0 vs) w where
 one s p:=by
  simp only[G0,hd0];split
  ·exact zIC _
  ·exact zIC _
  ·rfl
 lb b o l h:=by simp[G0]at h
 ow b l h:=by simp[G0]at h
 st b x h:=h
 fr b _ _:=rfl
 sz:=Ji _
 bk:=⟨fun b cs e h=>⟨cs,h,rfl⟩,rfl,rfl⟩
def RdA(P:Program)(t:TypeId){α:Type}(u:α→T)(V:α→Prop):Prop:=
 ∀{H:Type}(enc:TypeId×Value→H)(w:World)(base fuel:Nat)(v:Value)(x:DataW H×List MemPlace),DataW.trod enc P w 0 (fun _=>aD) aD fuel t v.cells.toList=aB x→
  Value.okWide P w .any base t v→ ∃d,V d∧ ∀(vs:Array Value)(s:Nat),vs[s]? =aB v→aB v=aB (mkV (G0 vs) s (u d) [])∧R (zIA w) (G0 vs) w s (u d) []
def RdC(P:Program)(t:TypeId){α:Type}(u:α→T)(V:α→Prop):Prop:=
 ∀{H:Type}(enc:TypeId×Value→H)(w:World)(fuel:Nat)(c:Value)(x:DataW H×List MemPlace),DataW.trod enc P w 0 (fun _=>aD) aD fuel t [c]=aB x→
  ∃d,V d∧c.oneCell'=aD∧ ∀(G:Gh)(s:Nat)(p:List Nat),G.hd s p=c→vals G s (u d) p=[c]∧R (zIA w) G w s (u d) p
section
variable {P:Program}
theorem zVg{α:Type}{f:α→T}{V:α→Prop}{t:TypeId}(h:RdT P t 1 f V)(h1:∀{H:Type}(enc:TypeId×Value→H)(w:World)(fuel:Nat)(c:Value)(x:DataW H×List MemPlace),DataW.trod enc P w 0 (fun _=>aD) aD fuel t [c]=aB x→c.oneCell'=aD):
  RdC P t (fun x=>T.ro (f x)) V:=by
 intro H enc w fuel c x hx;obtain⟨d,g1,g2⟩:=h enc w fuel [c] x hx rfl;refine⟨d,g1,h1 enc w fuel c x hx,fun G s p hp=>⟨by simp only[vals,hp],?_⟩⟩;simp only[R,hp];exact g2 _ _ fun i v hv=>by
  cases i with
  |zero=>simpa using hv
  |succ i=>simp at hv
theorem zWJ{α:Type}{f:α→T}{V:α→Prop}{t e:TypeId}{k:Nat}(hu:P.underlying t=aB (.slice e))(hk:P.cellsOf e=k)(er:0<k)(h:RdT P e k f V):RdC P t (fun xs=>T.ro (L k f xs)) (fun xs=>xs.length≤maxLen∧ ∀x∈xs,V x):=
 zVg (zWH hu hk er h) fun enc w fuel c x hx=>by
  rcases DataW.trod_slice hu hx with⟨h1,_⟩|⟨a,len,cap,_,_,_,_,h1,_⟩<;>
  ·simp only[Q9.injEq,and_true]at h1
   subst h1;rfl
theorem zQF{α:Type}{u:α→T}{V:α→Prop}{t:TypeId}(hs:∀x,(u x).single=aD∧ ∀G s,mkV G s (u x) []=G.hd s [])(h:RdC P t u V)
  (hv:∀{w:World}{base:Nat}{v:Value},Value.okWide P w .any base t v→v.oneCell'=aD):RdA P t u V:=by
 intro H enc w base fuel v x hx gE;have h1:v.cells.toList=[v]:=by have:=hv gE;cases v<;>simp_all [Value.oneCell',Value.cells]
 rw[h1]at hx;obtain⟨d,g1,g2,g3⟩:=h enc w fuel v x hx;refine⟨d,g1,fun vs s ch=>?_⟩;have gB:(G0 vs).hd s []=v:=by simp only[G0,hd0,ch];cases v<;>first|rfl|simp[Value.oneCell']at g2
 exact⟨by rw[(hs d).2,gB],(g3 _ _ _ gB).2⟩
end
theorem FnC.top{P:Program}{f:FuncId}{us:List T}(h:FnC P f us [B aD] []){w:World}{vs:Array Value}(gx:vs.size=us.length)
  (ha:∀(i:Nat) u,us[i]? =aB u→vs[i]? =aB (mkV (G0 vs) i u [])∧R (zIA w) (G0 vs) w i u []):
  Calls P f vs w fun e w'=>e=.returned (.bool aD)∧w'.os=w.os∧w'.output=w.output∧w.heap.size≤w'.heap.size∧ ∀b,b<w.heap.size→w'.heap[b]? =w.heap[b]?:=by
 refine(h (zIA w) (fun _=>False) w (G0 vs) vs gx (fun i u hu=>?_) (zWI w vs)).mono fun e w'=>?_
 ·obtain⟨h1,h2⟩:=ha i u hu
  refine⟨?_,h2⟩;rw[h1]
 ·rintro⟨S',G',nd,_,he,hm,fV,hr,_,_⟩
  match nd,fV with
  | [(s,p,t)],fV=>
   simp only[Jg,Gf,Q9.injEq,and_true]at fV;subst fV;have:=(hr (s,p,B aD) (by simp)).1;simp only[R]at this;exact⟨by rw[he];simp only[zIp,uW,this],hm.bk.os,hm.bk.out,hm.sz,fun b hb=>hm.fr b hb (fun h=>h)⟩
theorem zCB{H:Type}{enc:TypeId×Value→H}{P:Program}(hl:laidOutB P=aD){W W':World}{sp:Nat→Bool}:∀{ts:List TypeId}{vs:List Value}{ds:List (DataW H)}{ps:List MemPlace},(∀t∈ts,P.readableRec t=aD∧t<P.types.size)→
  DataW.TrodAll enc P W 0 (fun _=>aD) aD ts vs ds ps→(∀p∈ps,W.sameAt W' p)→(∀p∈ps,sp p.block=aD)→DataW.TrodAll enc P W' 0 sp aD ts vs ds ps
 | [],[],[],_,_,h,_,_=>h
 |t::ts,v::vs,d::ds,ps,hr,h,h1,h2=>by
  obtain⟨p,q,g1,g2,rfl⟩:=h;exact⟨p,q,Go.WideElems.Trod_stays hl (hr t (by simp)).1 (hr t (by simp)).2 g1 (fun x hx=>h1 x (by simp[hx])) (fun x hx=>h2 x (by simp[hx])),
   zCB hl (fun t' mo=>hr t' (by simp[mo])) g2 (fun x hx=>h1 x (by simp[hx])) (fun x hx=>h2 x (by simp[hx])),rfl⟩
 | [],_::_,_,_,_,h,_,_| [],[],_::_,_,_,h,_,_|_::_,[],_,_,_,h,_,_|_::_,_::_,[],_,_,h,_,_=>h.elim
theorem zJH{C:Checked}{os:Os}(own:ownKnob C.prog.godebug=aC)(started:os.Started){f:FuncId}{fn:Func}(noInit:C.prog.inits.idxOf? f=aC)(hfn:C.prog.funcs[f]? =aB fn){H:Type}{enc:TypeId×Value→H}{s:ChangeSpec}{conds:List PathCond}{apart fresh handsOn again:Bool}
  (witness:∃(w:World)(tape:Tape)(i:Input),w.os=os∧(w.forCall tape i).Shaped C.prog∧i.vars=[]∧Input.okWide C.prog (w.forCall tape i) .any w.heap.size f i∧
   s.pre6 enc C.prog fn conds apart (w.forCall tape i).memory i.args∧Assume.holds {} C.prog (lone (Frame.enter C.prog f i.args .normal) [] (w.forCall tape i)))
  (hs:∀(l:List (DataW H)),l.length=fn.params.size→(s.fn H l).results=[.lit (.bool aD)]∧(s.fn H l).args=l∧(s.fn H l).vars=[])(ci:s.vars=[]){tb:TypeId}(eM:fn.resultTypes= #[tb])(hb:C.prog.underlying tb=aB .bool)
  (laid:laidOutB C.prog=aD)(mu:fn.params.toList.all (fun t=>C.prog.readableRec t&&decide (t<C.prog.types.size))=aD)
  (law:∀(W:World)(base:Nat)(args:Array Value)(ds:List (DataW H))(p:List MemPlace),(∀(j:Nat) t v,fn.params[j]? =aB t→args[j]? =aB v→Value.okWide C.prog W .any base t v)→
   DataW.TrodAll enc C.prog W 0 (fun _=>aD) aD fn.params.toList args.toList ds p→
   ∃us:List T,args.size=us.length∧FnC C.prog f us [B aD] []∧ ∀(i:Nat) u,us[i]? =aB u→args[i]? =aB (mkV (G0 args) i u [])∧R (zIA W) (G0 args) W i u []):
  ReturnsInHanded {} C os f .any (s.pre6 enc C.prog fn conds apart) (s.post enc C.prog fn apart fresh handsOn again):=by
 refine returnsInHanded_of_change (C:=C) own started noInit hfn witness ?_;intro W base args ds gs before hval hW _ _;have hW':=hW;obtain⟨p,q,hA,hV,hbq,hfz,fV⟩:=hW;obtain⟨us,h1,h2,h3⟩:=law W base args ds p hval hA;have hl:ds.length=fn.params.size:=by
  have:∀{ts:List TypeId}{vs:List Value}{ds:List (DataW H)}{p:List MemPlace},DataW.TrodAll enc C.prog W 0 (fun _=>aD) aD ts vs ds p→ds.length=ts.length:=by
   intro ts
   induction ts with
   |nil=>intro vs ds p h;cases vs<;>cases ds<;>first|rfl|exact h.elim
   |cons t ts ih=>intro vs ds p h;cases vs<;>cases ds<;>first|exact h.elim|(obtain⟨_,_,_,g,_⟩:=h;simp[ih g])
  simpa using this hA
 rw[ci]at hV;have hq:gs=[]∧q=[]:=by
  cases gs with
  |nil=>exact⟨rfl,hV⟩
  |cons _ _=>exact hV.elim
 obtain⟨rfl,rfl⟩:=hq;have gP:=hW'.lt;refine(h2.top h1 h3).mono fun e w' ⟨he,ho,hq,gx,hh⟩=>⟨_,he,?_⟩
 have gW:∀p∈before,W.sameAt w' p:=fun p hp=>by
  have:=gP p hp;cases p with
  |cell b off=>simp only[World.sameAt,World.cell?,hh b this]
  |map b=>exact hh b this
 obtain⟨k1,k2,k3⟩:=hs ds hl;have hbp:before=p:=by simpa using hbq
 subst hbp;have gJ:∀t∈fn.params.toList,C.prog.readableRec t=aD∧t<C.prog.types.size:=fun t ht=>by have:=Jt.1 mu t ht;simpa using this
 have gv:∀(b:Nat)(sp:Nat→Bool)(hd:Bool),DataW.TrodAll enc C.prog w' b sp hd fn.resultTypes.toList ((Value.bool aD).resultList fn.resultTypes.size) (s.fn H (ds++[])).results []:=fun b sp hd=>by rw[eM,Jf,k1];exact⟨[],[],⟨1,by simp[DataW.trod,hb,Value.cells]⟩,⟨rfl,rfl⟩⟩
 have gg:∀sp:Nat→Bool,(∀p∈before,sp p.block=aD)→DataW.TrodAll enc C.prog w' 0 sp aD fn.params.toList args.toList (s.fn H (ds++[])).args before:=fun sp cX=>by rw[Jf,k2];exact zCB laid gJ hA gW cX
 have mg:∀sp:Nat→Bool,DataW.TrodVars enc C.prog w' sp s.vars (s.fn H (ds++[])).vars []:=fun sp=>by rw[ci,Jf,k3];rfl
 have gy:∀p∈before,(fun b=>decide (b<W.heap.size)) p.block=aD:=fun p hp=>by simpa using gP p hp
 have pt:∀p∈before,∀o,w'.frozen? ⟨p.block,o,aC⟩=W.frozen? ⟨p.block,o,aC⟩:=fun p hp o=>by simp only[World.frozen?,hh _ (gP p hp)]
 refine⟨ds,[],before,[],before,[],hW',gv _ _ _,gg _ gy,mg _,⟨ho,hq,fun i hi=>?_⟩,fun _=>⟨fun j t r hj hr=>?_,_,_,([]++before)++[],⟨[]++before,[],trodAll_append (gg _ (fun _ _=>rfl)) (gv _ _ _),mg _,rfl,fun b off hp=>?_,fun ha=>?_⟩,fun p hp _=>?_⟩⟩
 ·rw[hh i hi]
  cases hx:W.heap[i]? with
  |none=>rfl
  |some o=>cases o<;>simp
 ·rw[eM]at hj hr
  match j,hj,hr with
  |0,hj,hr=>
   simp[Value.resultList]at hj hr;subst hj;subst hr;simp[Value.okWide,hb,Cell.okWide,Cell.ok]
 ·have fc:MemPlace.cell b off∈before:=by simpa using hp
  exact(pt _ fc off).trans (hfz b off fc)
 ·have:=fV ha
  simpa using this
 ·simpa using hp
end Go.Ab

namespace Go.Ab
open Go
def qF(hs:List Nat)(E:Env):Prop:=∀s,hs.contains s=aD→ ∃t,E s=aB t∧zA4 t=aD
def zTy(hs:List Nat)(z:Nat×Option T):Bool:=!hs.contains z.1||match z.2 with
 |some t=>zA4 t
 |none=>aE
def wrS(hs:List Nat)(X:Stp):Bool:=X.l.all fun y=>y.1.all (zTy hs)
theorem zID{s:Nat}{x:Option T}:∀{wr:Wr},wr.find s=aB x→(s,x)∈wr
 | [],h=>by grind[Wr.find]
 |(k,y)::wr,h=>by
  simp only[Wr.find]at h;split at h
  ·grind
  ·exact Ug _ (zID h)
theorem qF.apps{hs:List Nat}:∀(l:zCy)(E:Env),qF hs E→(l.all fun y=>y.1.all (zTy hs))=aD→qF hs (E.apps l)
 | [],_,h,_=>h
 |x::l,E,h,hw=>by
  simp only[Ga,J3]at hw;refine qF.apps l (E.app x.1 x.2) (fun s gO=>?_) hw.2;obtain⟨t,he,ht⟩:=h s gO;unfold Env.app;cases hf:x.1.find s with
  |some y=>
   have h1:=Jt.1 hw.1 _ (zID hf);simp only[zTy,gO,J6,Bool.false_or]at h1
   grind
  |none=>grind[vT]
theorem qF.runD{hs:List Nat}:∀(l:List (Bool×Stp))(E:Env),qF hs E→(∀y∈l,wrS hs y.2=aD)→qF hs (runD E l)
 | [],_,h,_=>h
 |(b,X)::l,E,h,hw=>by
  simp only[Go.Ab.runD];refine qF.runD l _ ?_ fun y hy=>hw y (by simp[hy])
  cases b with
  |true=>exact qF.apps X.l E h (hw (aD,X) (by simp))
  |false=>exact h
section
variable {P:Program}{Γ:Ctx}{pn:sT}{E E':Env}{Q:Exit→Env→Prop}{ops:Array Oper}{o:Oper}{os:List Oper}{id:Nat}{wr:Wr}{chg:Chg}{hs:List Nat}
def zLp(P:Program)(Γ:Ctx)(pn:sT)(ops:Array Oper)(o:Oper)(E E':Env):Prop:=
 ∀(a:Act)(w:World)(K:Act→World→Prop)(Q:Exit→Act→World→Prop),pn.Hold a→qI Γ E a w→(∀a' w',qI Γ E' a' w'→(∀s,o.dst≠aB s→a'.tmps[s]? =a.tmps[s]?)→K a' w')→
  if Region.wanted o (yielded ops a.tmps)then o.wp P a w K Q∨(o.asks P a w∧LetsOut Q)else K (a.put o.dst undef) w
def wH(P:Program)(Γ:Ctx)(pn:sT)(hs:List Nat)(ops:Array Oper):List Oper→List Stp→Prop
 | [],[]=>True
 |o::os,X::Xs=>(∀E:Env,E.Has X.rd→qF hs E→zLp P Γ pn ops o E (E.apps X.l))∧wH P Γ pn hs ops os Xs
 |_,_=>False
theorem wH.get:∀(os:List Oper)(Xs:List Stp),wH P Γ pn hs ops os Xs→os.length=Xs.length∧ ∀(i:Nat)(o:Oper)(X:Stp),os[i]? =aB o→Xs[i]? =aB X→ ∀E:Env,E.Has X.rd→qF hs E→zLp P Γ pn ops o E (E.apps X.l)
 | [],[],_=>by simp
 |o::os,X::Xs,h=>by
  obtain⟨h1,h2⟩:=wH.get os Xs h.2;refine⟨by simp[h1],fun i o' X' ho hX=>?_⟩;cases i with
  |zero=>simp at ho hX;subst ho hX;exact h.1
  |succ i=>exact h2 i o' X' (by simpa using ho) (by simpa using hX)
 | [],_::_,h=>by simp[wH]at h
 |_::_,[],h=>by simp[wH]at h
theorem wH.snoc{X:Stp}:∀(os:List Oper)(Xs:List Stp),wH P Γ pn hs ops os Xs→(∀E:Env,E.Has X.rd→qF hs E→zLp P Γ pn ops o E (E.apps X.l))→wH P Γ pn hs ops (os++[o]) (Xs++[X])
 | [],[],_,h=>⟨h,trivial⟩
 |_::os,_::Xs,h1,h=>⟨h1.1,wH.snoc os Xs h1.2 h⟩
 | [],_::_,h,_=>by simp[wH]at h
 |_::_,[],h,_=>by simp[wH]at h
theorem tG.snoc{X:Stp}:∀(Xs:List Stp)(E:Env),tG E Xs→(runD E (Xs.map fun y=>(aD,y))).Has X.rd→tG E (Xs++[X])
 | [],_,_,h=>⟨by grind[runD],trivial⟩
 |_::Xs,_,h1,h=>⟨h1.1,tG.snoc Xs _ h1.2 (by simpa[runD]using h)⟩
theorem zH2{E0:Env}{ef:List Nat}{Xs:List Stp}{an:List (List Nat)}{Q':Exit→Act→World→Prop}(hf:zAA 0 ops.toList=aD)(ha:zAf an an ops.toList=aD)(hp:qN Xs 0 an Xs=aD)
  (gG:wH P Γ pn ef ops ops.toList Xs)(hI:qF ef E0)(hw:Xs.all (wrS ef)=aD)(hh:tG E0 Xs)(mz:ops.toList.all (fun o=>pn.ok o.dst)=aD)(hQ:∀a' w',qI Γ (runD E0 (Xs.map fun y=>(aD,y))) a' w'→pn.Hold a'→Q' .normal a' w'):
  ∀(fuel:Nat)(L:List Bool)(a:Act)(w:World),L.length=ops.size→L.count aE=fuel→zNO ops L→qI Γ (runD E0 (L.zip Xs)) a w→pn.Hold a→wpAny P .any ops Q' fuel L.toArray a w:=by
 obtain⟨gc,cm⟩:=wH.get _ _ gG;have cB:Xs.length=ops.size:=by grind
 intro fuel
 induction fuel with
 |zero=>
  intro L a w hL hcnt gC hs eE;have eH:∀b∈L,b=aD:=by grind
  have az:L=J1 ops.size aD:=by rw[←hL];exact List.eq_replicate_iff.2 ⟨rfl,eH⟩
  refine⟨?_,?_⟩
  ·apply List.eq_nil_iff_forall_not_mem.2
   intro j hj;obtain⟨h1,o,ho,_⟩:=mem_ready.1 hj;have gP:=(Hb.1 ho).1;rw[az]at h1;simp[gP]at h1
  ·refine hQ a w ?_ eE
   have:L.zip Xs=Xs.map fun y=>(aD,y):=by
    rw[az,←cB]
    clear hs hL az eH hcnt gC gG hw hh hp gc cB cm hQ
    induction Xs with
    |nil=>rfl
    |cons X Xs ih=>simp[Kv,ih]
   grind
 |succ fuel ih=>
  intro L a w hL hcnt gC hs eE;refine⟨fun hr=>?_,fun i hi=>?_⟩
  ·
   exfalso
   have cD:∃m:Nat,L[m]? =aB aE:=by
    have:aE∈L:=by grind
    grind[U8]
   obtain⟨m,hm,pg⟩:=zIy cD;have hmlt:=(Jc.1 hm).1;have bm:ops[m]? =aB ops[m]:=by simp
   have:m∈Region.ready .any ops L.toArray:=by
    refine mem_ready.2 ⟨by simp_all,ops[m],bm,fun e he hb=>?_⟩;have hpm:e.on∈zAW ops[m]:=by
     simp only[zAW,Jd,Q6]
     grind
    have gP:=zEL ops.toList 0 m _ hf (by simp) _ hpm;rw[J7]at gP;cases hL1:L[e.on]? with
    |none=>grind
    |some b=>
     cases b with
     |false=>grind
     |true=>simp_all
   grind
  ·obtain⟨h1,o,ho,eH⟩:=mem_ready.1 hi
   have gP:=(Hb.1 ho).1;have hLi:L[i]? =aB aE:=by simp_all
   have eu:∀m∈zAW o,L[m]? =aB aD:=by
    intro m hm;simp only[zAW,Jd,Q6]at hm;obtain⟨e,⟨he,hb⟩,rfl⟩:=hm;have:=eH e (by grind) hb;cases hL1:L[e.on]? with
    |none=>grind
    |some b=>simp_all
   have hanc:=zFy hf ha gC i i (Ji _) o ho eu;have pY:Xs[i]? =aB Xs[i]:=by simp
   generalize hXe:Xs[i]=X at pY
   have mK:∀(j:Nat)(Y:Stp),Xs[j]? =aB Y→i<j→L[j]? =aB aD→X.apart Y=aD:=by
    intro j Y hY hij hj;rcases zDR Xs Xs 0 an j Y hp hY i X (by omega) pY with h|h
    ·have hjlt:=(Jc.1 hY).1
     have tc:ops[j]? =aB ops[j]:=by simp
     have:=zFy hf ha gC j j (Ji _) _ tc (gC j _ tc hj) i h
     grind
    ·exact h
   have px:∀(j:Nat)(Y:Stp),Xs[j]? =aB Y→j<i→L[j]? =aB aE→Y.apart X=aD:=by grind[zDR]
   have my:∀y∈(L.take i).zip (Xs.take i),∃j:Nat,j<i∧L[j]? =aB y.1∧Xs[j]? =aB y.2:=by
    intro y hy;obtain⟨j,g1,g2⟩:=zHy hy;rw[Lq]at g1 g2
    grind
   have cw:∀y∈(L.drop (i+1)).zip (Xs.drop (i+1)),∃j:Nat,i<j∧L[j]? =aB y.1∧Xs[j]? =aB y.2:=by
    intro y hy;obtain⟨j,g1,g2⟩:=zHy hy;rw[Kw]at g1 g2
    grind
   have cX:=zGG hLi pY;have aa:(runD E0 (L.zip Xs)).Has X.rd:=by
    rw[cX,kI];simp only[runD,Ls,if_false];have h0:=tG.get Xs E0 hh i X pY;refine h0.of fun s t gG ef=>?_
    have hsm:s∈X.rd.map (·.1):=by grind
    refine zGF _ _ (fun y hy hb=>?_) ?_
    ·obtain⟨j,g1,g2,g3⟩:=cw y hy
     have:=Stp.apart_spec (mK j y.2 g3 g1 (by rw[g2,hb]));exact⟨by grind,by grind⟩
    ·have hmp:((L.take i).zip (Xs.take i)).map (fun y=>(aD,y.2))=(Xs.take i).map fun y=>(aD,y):=by
      have tv:(L.take i).length=(Xs.take i).length:=by simp;omega
      rw[show(fun y:Bool×Stp=>(aD,y.2))=(fun y=>(aD,y))∘Prod.snd from rfl,←Gl,List.map_snd_zip (by omega)]
     refine zGE _ E0 E0 (fun y hy hb gO=>?_) (fun _ h=>h) t (by grind);obtain⟨j,g1,g2,g3⟩:=my y hy;have:=Stp.apart_spec (px j y.2 g3 g1 (by rw[g2,hb]))
     grind
   have hnext:runD E0 ((L.set i aD).zip Xs)=(runD E0 (L.zip Xs)).apps X.l:=by
    have hLs:(L.set i aD)[i]? =aB aD:=by grind
    rw[zGG hLs pY,cX,kI,kI];simp only[runD,if_true,Ls,if_false,List.take_set_of_le (Ji i),List.drop_set_of_lt (Nat.lt_succ_self i)];refine zDQ _ X _ fun y hy hb=>?_
    obtain⟨j,g1,g2,g3⟩:=cw y hy;exact(Stp.apart_spec (by grind)).1
   have bG:=cm i o X (by grind) pY _ aa (qF.runD (L.zip Xs) E0 hI fun y hy=>Jt.1 hw _ (by obtain⟨j,_,g⟩:=zHy hy;grind));unfold wpOp;simp only[ho];refine bG a w _ Q' eE hs fun a' w' gO pt=>?_
   rw[List.setIfInBounds_toArray];have gE:pn.ok o.dst=aD:=by grind
   refine ih (L.set i aD) a' w' (by simp[hL]) (by grind) ?_ (by grind) (eE.frame gE pt);intro k ok hk hkt m hm
   by_cases hki:k=i
   ·subst hki
    rw[ho]at hk;simp at hk;subst hk;rw[Qg];split
    ·grind
    grind
   ·rw[List.getElem?_set_ne (Ne.symm hki)]at hkt
    rw[Qg];split
    ·grind
    ·exact gC k ok hk hkt m hm
theorem CW.drawnI{ef:List Nat}{id:Nat}{E:Env}{Q:Exit→Env→Prop}(Xs:List Stp)(an:List (List Nat))(hm:P.follows .mixedOrders=aD)(gG:wH P Γ pn ef ops ops.toList Xs)(hI:qF ef E)(hw:Xs.all (wrS ef)=aD)(hh:tG E Xs)
  (hQ:Q .normal (runD E (Xs.map fun y=>(aD,y))))(hf:zAA 0 ops.toList=aD:=by rfl)(ha:zAf an an ops.toList=aD:=by rfl)(hp:qN Xs 0 an Xs=aD:=by rfl)
  (mz:ops.toList.all (fun o=>pn.ok o.dst)=aD:=by rfl):CW P Γ pn (.region id ops aD) E Q:=by
 intro a w Q' hs eE hQ';refine wp_region_any hm ?_;have gO:qI Γ E a { w with drawn:=w.drawn+1 }:=by obtain⟨S,hS,ed,G,hr⟩:=hs;exact⟨S,hS,ed,G,hr.heap rfl⟩
 have:=zH2 (P:=P) (Γ:=Γ) (pn:=pn) (E0:=E) (Q':=Q') hf ha hp gG hI hw hh mz (by grind) ops.size (J1 ops.size aE) a { w with drawn:=w.drawn+1 } (by simp) (by simp)
  (fun i o ho hi=>by
   grind) (by
   have:runD E ((J1 ops.size aE).zip Xs)=E:=by
    generalize ops.size=n
    clear gG hI hw hh hQ hf ha hp gO
    induction n generalizing Xs with
    |zero=>simp[runD]
    |succ n ih=>
     cases Xs with
     |nil=>simp[runD]
     |cons X Xs=>simpa[Kv,runD]using ih Xs
   grind) eE
 grind
def DK(P:Program)(Γ:Ctx)(pn:sT)(ops:Array Oper)(id:Nat)(hs:List Nat)(E0:Env)(Q:Exit→Env→Prop)(os:List Oper)(E:Env)(acc:List Stp):Prop:=
 ∀don,don++os=ops.toList→wH P Γ pn hs ops don acc.reverse→tG E0 acc.reverse→E=runD E0 (acc.reverse.map fun y=>(aD,y))→CW P Γ pn (.region id ops aD) E0 Q
variable {E0:Env}{acc:List Stp}
theorem CW.dk(h:DK P Γ pn ops id [] E Q ops.toList E []):CW P Γ pn (.region id ops aD) E Q:=h [] rfl trivial trivial rfl
theorem dGP(rd:List (Nat×T))(l:zCy)(gJ:E.Has rd)(gG:∀E':Env,E'.Has rd→qF hs E'→zLp P Γ pn ops o E' (E'.apps l))(k:DK P Γ pn ops id hs E0 Q os (E.apps l) (⟨rd,l⟩::acc)):DK P Γ pn ops id hs E0 Q (o::os) E acc:=by
 intro don hd bI hh hE;subst hE;have hr:=fun X=>Gk (a:=X) (as:=acc)
 refine k (don++[o]) (by simp[hd]) ?_ ?_ ?_
 ·grind[wH.snoc]
 ·grind[tG.snoc]
 ·rw[hr,H6,kI];rfl
theorem dGS(rd:List (Nat×T))(l:zCy)(gJ:E.Has rd)(gG:∀E':Env,E'.Has rd→qF hs E'→yY P Γ ops o E' (E'.apps l))(k:DK P Γ pn ops id hs E0 Q os (E.apps l) (⟨rd,l⟩::acc)):DK P Γ pn ops id hs E0 Q (o::os) E acc:=
 dGP rd l gJ (fun E' h h' a w K Q _=>gG E' h h' a w K Q) k
theorem dG(rd:List (Nat×T))(l:zCy)(gJ:E.Has rd)(gG:∀E':Env,E'.Has rd→yY P Γ ops o E' (E'.apps l))(k:DK P Γ pn ops id hs E0 Q os (E.apps l) (⟨rd,l⟩::acc)):DK P Γ pn ops id hs E0 Q (o::os) E acc:=
 by grind[dGS]
def zOe(hs:List Nat)(E:Env):Bool:=hs.all fun s=>match E s with
 |some t=>zA4 t
 |none=>aE
theorem zOf(h:zOe hs E=aD):qF hs E:=by
 intro s gO;have h1:=Jt.1 h s (by grind)
 grind
theorem dN(an:List (List Nat))(hm:P.follows .mixedOrders=aD)(hQ:Q .normal E)(hf:zAA 0 ops.toList=aD:=by rfl)(ha:zAf an an ops.toList=aD:=by rfl)(hp:qN acc.reverse 0 an acc.reverse=aD:=by rfl)
  (mz:ops.toList.all (fun o=>pn.ok o.dst)=aD:=by rfl)(pX:zOe hs E0=aD:=by rfl)(hw:acc.reverse.all (wrS hs)=aD:=by rfl):DK P Γ pn ops id hs E0 Q [] E acc:=by
 intro don hd gG hh hE
 grind[CW.drawnI,zOf]
end
end Go.Ab

namespace Go.Ab
open Go
section
variable {P:Program}{Γ:Ctx}{pn:sT}{E E':Env}{Q:Exit→Env→Prop}{ops:Array Oper}{o:Oper}{os:List Oper}{id d:Nat}{wr:Wr}{chg:Chg}{hs:List Nat}{E0:Env}{acc:List Stp}{x y:Operand}{ty:TypeId}{ps:String}{af:Array Edge}{gd:Option (Nat×Bool)}
class zED (P:Program) (t:TypeId) (e:outParam TypeId):Prop where
 h:P.underlying t=aB (.slice e)
class kJ (P:Program) (t:TypeId) (b:outParam Bool) (n:outParam Nat):Prop where
 h:∀u:T,u.single=b→u.size=n→zQ3 P t u
theorem hE{rd:List (Nat×T)}{s:Nat}{t:T}(h:E.Has rd)(hr:uC rd s=aB t):E s=aB t:=h.le s t hr
theorem hO{rd:List (Nat×T)}{t:T}(h:E.Has rd)(hr:opT (uC rd) x=aB t):opT E x=aB t:=by
 cases x<;>simp only[opT]at hr ⊢
 ·exact h.le _ _ hr
 all_goals exact hr
mutual
def zCT:T→Bool
 |.ro _|.lit _|.any=>aD
 |.agg xs|.tup xs=>zEO xs
 |.ptr t=>zCT t
 |.sl _ []=>aD
 |_=>aE
def zEO:List T→Bool
 | []=>aD
 |x::xs=>zCT x&&zEO xs
end
mutual
theorem zDU:{t:T}→zCT t=aD→zQ t
 |.ro _,_|.lit _,_|.any,_=>by simp[zQ,yF]
 |.agg xs,h|.tup xs,h=>by simp only[zCT]at h;simpa only[zQ,yF]using zF6 h
 |.ptr t,h=>by simp only[zCT]at h;exact zNW (zDU h)
 |.sl _ [],_=>by simp[zQ,yF,yP]
 |.sl _ (_::_),h=>by simp[zCT]at h
 |.same _ _,h|.addr _ _,h|.sub _ _ _ _ _,h=>by simp[zCT]at h
theorem zF6:{xs:List T}→zEO xs=aD→yI xs
 | [],_=>trivial
 |x::xs,h=>by simp only[zEO,J3]at h;exact⟨zDU h.1,zF6 h.2⟩
end
theorem zVh{α:Type}{t e:TypeId}{ti:TypeInfo}{r k:Nat}{q:List Nat}{f:α→T}{xs:List α}{v:α}{i:Int}[ht:zCz P t e ti k](hx:uL E x=aB (r,q,.ro (L k f xs)))(hy:opT E y=aB (I i))(hv:ixO xs i=aB v)(sd:J4 d Γ.N=aD):
  Ok P Γ ⟨aB d,.indexAddr t x y,ty,ps,af,gd⟩ E (E.app [(d,aB (.ro (.ptr (f v))))] [(d,0)]):=zS0 ht hv hx hy sd
theorem zLq{t:TypeId}{u:T}{b:Bool}{n:Nat}[i:kJ P t b n](hx:opT E x=aB (.ro (.ptr u)))(h1:u.single=b)(h2:u.size=n)(sd:J4 d Γ.N=aD):Ok P Γ ⟨aB d,.load t x,ty,ps,af,gd⟩ E (E.app [(d,aB (roT u))] [(d,0)]):=zUN (i.h u h1 h2) hx sd
theorem zTz{t:TypeId}{u tr:T}{r:Nat}{q:List Nat}{b:Bool}{n:Nat}[i:kJ P t b n](hx:opT E x=aB (.addr r q))(hr:E r=aB tr)(hg:tr.get q.reverse=aB u)(h1:u.single=b)(h2:u.size=n)(sd:(J4 d Γ.N&&tr.locd q.reverse&&(r != d)&&T.okB [(d,0)] (cpT r u q))=aD):
  Ok P Γ ⟨aB d,.load t x,ty,ps,af,gd⟩ E (E.app [(d,aB (cpT r u q))] [(d,0)]):=zW9 (i.h u h1 h2) hx hr hg sd
theorem zVi{t:TypeId}{u tr t0:T}{r:Nat}{q:List Nat}{b:Bool}{n:Nat}[i:kJ P t b n](hx:uL E x=aB (r,q,.ptr t0))(hr:E r=aB tr)(hg:tr.get (0::q).reverse=aB u)(h1:u.single=b)(h2:u.size=n)(sd:(J4 d Γ.N&&tr.locd (0::q).reverse&&(r != d)&&T.okB [(d,0)] (cpT r u (0::q)))=aD):
  Ok P Γ ⟨aB d,.load t x,ty,ps,af,gd⟩ E (E.app [(d,aB (cpT r u (0::q)))] [(d,0)]):=zVb (i.h u h1 h2) hx hr hg sd
theorem zVj{α:Type}{t e:TypeId}{r k:Nat}{q:List Nat}{f:α→T}{xs:List α}[i:zED P t e](hx:uL E x=aB (r,q,L k f xs))(sd:J4 d Γ.N=aD):
  Ok P Γ ⟨aB d,.call { callee:=.builtin .len,args:=#[x],argTypes:=#[t] },ty,ps,af,gd⟩ E (E.app [(d,aB (I (xs.length:Int)))] [(d,0)]):=zS1 i.h hx sd
theorem zOg{α:Type}{t e:TypeId}{r k:Nat}{q:List Nat}{f:α→T}{xs:List α}[i:zED P t e](hx:uL E x=aB (r,q,.ro (L k f xs)))(sd:J4 d Γ.N=aD):
  Ok P Γ ⟨aB d,.call { callee:=.builtin .len,args:=#[x],argTypes:=#[t] },ty,ps,af,gd⟩ E (E.app [(d,aB (I (xs.length:Int)))] [(d,0)]):=zNQ i.h hx sd
theorem tH(k:RW P Γ pn ops os (E.app wr chg) Q)(h:Ok P Γ o E (E.app wr chg):=by exact zMr rfl rfl)(hg:o.guard=aC:=by rfl)(hp:pn.ok o.dst=aD:=by rfl):RW P Γ pn ops (o::os) E Q:=oP h k hg hp
theorem zT0{g s:Nat}{b:Bool}(k:RW P Γ pn ops os (E.app wr chg) Q)(hg:o.guard=aB (g,b):=by rfl)(gN:(ops[g]?).bind (·.dst)=aB s:=by rfl)(hb:E s=aB (.lit (.bool b)):=by rfl)(h:Ok P Γ o E (E.app wr chg):=by exact zMr rfl rfl)(hp:pn.ok o.dst=aD:=by rfl):RW P Γ pn ops (o::os) E Q:=RW.cons (yY.guard g b s h hg gN hb) k hp
theorem zAK(k:RW P Γ pn ops os (E.app wr chg) Q)(h:Ok P Γ o E (E.app wr chg):=by exact zQ2 rfl rfl)(hg:o.guard=aC:=by rfl)(hp:pn.ok o.dst=aD:=by rfl):RW P Γ pn ops (o::os) E Q:=oP h k hg hp
theorem zLr(k:RW P Γ pn ops os (E.app wr chg) Q)(h:Ok P Γ o E (E.app wr chg):=by exact zLq rfl rfl rfl rfl)(hg:o.guard=aC:=by rfl)(hp:pn.ok o.dst=aD:=by rfl):RW P Γ pn ops (o::os) E Q:=oP h k hg hp
theorem zSA(k:RW P Γ pn ops os (E.app wr chg) Q)(h:Ok P Γ o E (E.app wr chg):=by exact zVh (by first|exact zDr rfl rfl|exact zGp rfl rfl (by first|rfl|exact yG (by assumption) rfl|exact yG (by assumption) (yG (by assumption) rfl)|exact uE rfl (yG (by assumption) rfl)|exact uD (yG (by assumption) rfl)|exact uD (uE rfl (yG (by assumption) rfl))|exact uD (uE rfl (yG (by assumption) (yG (by assumption) rfl)))) rfl) rfl (by assumption) rfl)(hg:o.guard=aC:=by rfl)(hp:pn.ok o.dst=aD:=by rfl):RW P Γ pn ops (o::os) E Q:=oP h k hg hp
theorem zH3(k:RW P Γ pn ops os (E.app wr chg) Q)(h:Ok P Γ o E (E.app wr chg):=by exact zOg (by first|exact zDr rfl rfl|exact zGp rfl rfl (by first|rfl|exact yG (by assumption) rfl|exact yG (by assumption) (yG (by assumption) rfl)|exact uE rfl (yG (by assumption) rfl)|exact uD (yG (by assumption) rfl)|exact uD (uE rfl (yG (by assumption) rfl))|exact uD (uE rfl (yG (by assumption) (yG (by assumption) rfl)))) rfl) rfl)(hg:o.guard=aC:=by rfl)(hp:pn.ok o.dst=aD:=by rfl):RW P Γ pn ops (o::os) E Q:=oP h k hg hp
theorem zSB(k:RW P Γ pn ops os (E.app wr chg) Q)(h:Ok P Γ o E (E.app wr chg):=by exact zNP (by assumption) rfl rfl rfl)(hg:o.guard=aC:=by rfl)(hp:pn.ok o.dst=aD:=by rfl):RW P Γ pn ops (o::os) E Q:=oP h k hg hp
theorem zIE(k:RW P Γ pn ops os (E.app wr chg) Q)(h:Ok P Γ o E (E.app wr chg):=by exact zSz rfl rfl rfl)(hg:o.guard=aC:=by rfl)(hp:pn.ok o.dst=aD:=by rfl):RW P Γ pn ops (o::os) E Q:=oP h k hg hp
theorem zH4(k:RW P Γ pn ops os (E.app wr chg) Q)(h:Ok P Γ o E (E.app wr chg):=by exact zJE rfl rfl rfl)(hg:o.guard=aC:=by rfl)(hp:pn.ok o.dst=aD:=by rfl):RW P Γ pn ops (o::os) E Q:=oP h k hg hp
theorem zSC(k:RW P Γ pn ops os (E.app wr chg) Q)(h:Ok P Γ o E (E.app wr chg):=by exact zS2 (by assumption) rfl rfl rfl)(hg:o.guard=aC:=by rfl)(hp:pn.ok o.dst=aD:=by rfl):RW P Γ pn ops (o::os) E Q:=oP h k hg hp
theorem zVk{g s:Nat}{b:Bool}(k:RW P Γ pn ops os (E.app wr chg) Q)(hg:o.guard=aB (g,b):=by rfl)(gN:(ops[g]?).bind (·.dst)=aB s:=by rfl)(hb:E s=aB (.lit (.bool b)):=by rfl)(h:Ok P Γ o E (E.app wr chg):=by exact zB2 rfl rfl)(hp:pn.ok o.dst=aD:=by rfl):RW P Γ pn ops (o::os) E Q:=RW.cons (yY.guard g b s h hg gN hb) k hp
theorem zVl(k:RW P Γ pn ops os (E.app wr chg) Q)(h:Ok P Γ o E (E.app wr chg):=by exact zNR rfl rfl rfl)(hg:o.guard=aC:=by rfl)(hp:pn.ok o.dst=aD:=by rfl):RW P Γ pn ops (o::os) E Q:=oP h k hg hp
theorem zVm(k:RW P Γ pn ops os (E.app wr chg) Q)(h:Ok P Γ o E (E.app wr chg):=by exact zS3 rfl rfl rfl)(hg:o.guard=aC:=by rfl)(hp:pn.ok o.dst=aD:=by rfl):RW P Γ pn ops (o::os) E Q:=oP h k hg hp
theorem zSD(k:RW P Γ pn ops os (E.app wr chg) Q)(h:Ok P Γ o E (E.app wr chg):=by exact zNU inferInstance rfl rfl rfl rfl)(hg:o.guard=aC:=by rfl)(hp:pn.ok o.dst=aD:=by rfl):RW P Γ pn ops (o::os) E Q:=oP h k hg hp
theorem zOh(k:RW P Γ pn ops os (E.app wr chg) Q)(h:Ok P Γ o E (E.app wr chg):=by first|exact zAt rfl (zDs rfl) rfl|exact zAt rfl (isPtr_addr rfl) rfl|exact zAt rfl (zCk (by first|exact zDr rfl rfl|exact zGp rfl rfl (by first|rfl|exact yG (by assumption) rfl|exact yG (by assumption) (yG (by assumption) rfl)|exact uE rfl (yG (by assumption) rfl)|exact uD (yG (by assumption) rfl)|exact uD (uE rfl (yG (by assumption) rfl))|exact uD (uE rfl (yG (by assumption) (yG (by assumption) rfl)))) rfl)) rfl)(hg:o.guard=aC:=by rfl)(hp:pn.ok o.dst=aD:=by rfl):RW P Γ pn ops (o::os) E Q:=oP h k hg hp
theorem zVn(k:RW P Γ pn ops os (E.app wr chg) Q)(h:Ok P Γ o E (E.app wr chg):=by exact zVj (by first|exact zDr rfl rfl|exact zGp rfl rfl (by first|rfl|exact yG (by assumption) rfl|exact yG (by assumption) (yG (by assumption) rfl)|exact uE rfl (yG (by assumption) rfl)|exact uD (yG (by assumption) rfl)|exact uD (uE rfl (yG (by assumption) rfl))|exact uD (uE rfl (yG (by assumption) (yG (by assumption) rfl)))) rfl) rfl)(hg:o.guard=aC:=by rfl)(hp:pn.ok o.dst=aD:=by rfl):RW P Γ pn ops (o::os) E Q:=oP h k hg hp
theorem zQG(k:RW P Γ pn ops os (E.app wr chg) Q)(h:Ok P Γ o E (E.app wr chg):=by exact zLg inferInstance rfl)(hg:o.guard=aC:=by rfl)(hp:pn.ok o.dst=aD:=by rfl):RW P Γ pn ops (o::os) E Q:=oP h k hg hp
theorem zSE(k:RW P Γ pn ops os (E.app wr chg) Q)(h:Ok P Γ o E (E.app wr chg):=by exact zS4 rfl rfl rfl)(hg:o.guard=aC:=by rfl)(hp:pn.ok o.dst=aD:=by rfl):RW P Γ pn ops (o::os) E Q:=oP h k hg hp
theorem zVo(k:RW P Γ pn ops os (E.app wr chg) Q)(h:Ok P Γ o E (E.app wr chg):=by exact zS8 rfl rfl)(hg:o.guard=aC:=by rfl)(hp:pn.ok o.dst=aD:=by rfl):RW P Γ pn ops (o::os) E Q:=oP h k hg hp
theorem zAw(rd:List (Nat×T))(k:DK P Γ pn ops id hs E0 Q os (E.app wr chg) (⟨rd,[(wr,chg)]⟩::acc))(gJ:E.Has rd:=by repeat (first|exact trivial|refine⟨rfl,?_⟩))(h:∀E':Env,E'.Has rd→Ok P Γ o E' (E'.app wr chg):=by intro E' h;exact zMr (hO h rfl) rfl)(hg:o.guard=aC:=by rfl):DK P Γ pn ops id hs E0 Q (o::os) E acc:=dG rd [(wr,chg)] gJ (fun E' h'=>yY.op (h E' h') hg) k
theorem zJI{g s:Nat}{b:Bool}(rd:List (Nat×T))(k:DK P Γ pn ops id hs E0 Q os (E.app wr chg) (⟨rd,[(wr,chg)]⟩::acc))(gJ:E.Has rd:=by repeat (first|exact trivial|refine⟨rfl,?_⟩))(hg:o.guard=aB (g,b):=by rfl)(gN:(ops[g]?).bind (·.dst)=aB s:=by rfl)(hb:uC rd s=aB (.lit (.bool b)):=by rfl)(h:∀E':Env,E'.Has rd→Ok P Γ o E' (E'.app wr chg):=by intro E' h;exact zMr (hO h rfl) rfl):DK P Γ pn ops id hs E0 Q (o::os) E acc:=dG rd [(wr,chg)] gJ (fun E' h'=>yY.guard g b s (h E' h') hg gN (hE h' hb)) k
theorem zWK(rd:List (Nat×T))(k:DK P Γ pn ops id hs E0 Q os (E.app wr chg) (⟨rd,[(wr,chg)]⟩::acc))(gJ:E.Has rd:=by repeat (first|exact trivial|refine⟨rfl,?_⟩))(h:∀E':Env,E'.Has rd→Ok P Γ o E' (E'.app wr chg):=by intro E' h;exact zQ2 (hO h rfl) rfl)(hg:o.guard=aC:=by rfl):DK P Γ pn ops id hs E0 Q (o::os) E acc:=dG rd [(wr,chg)] gJ (fun E' h'=>yY.op (h E' h') hg) k
theorem zLs(rd:List (Nat×T))(k:DK P Γ pn ops id hs E0 Q os (E.app wr chg) (⟨rd,[(wr,chg)]⟩::acc))(gJ:E.Has rd:=by repeat (first|exact trivial|refine⟨rfl,?_⟩))(h:∀E':Env,E'.Has rd→Ok P Γ o E' (E'.app wr chg):=by intro E' h;exact zLq (hO h rfl) rfl rfl rfl)(hg:o.guard=aC:=by rfl):DK P Γ pn ops id hs E0 Q (o::os) E acc:=dG rd [(wr,chg)] gJ (fun E' h'=>yY.op (h E' h') hg) k
theorem zF7{g s:Nat}{b:Bool}(rd:List (Nat×T))(k:DK P Γ pn ops id hs E0 Q os (E.app wr chg) (⟨rd,[(wr,chg)]⟩::acc))(gJ:E.Has rd:=by repeat (first|exact trivial|refine⟨rfl,?_⟩))(hg:o.guard=aB (g,b):=by rfl)(gN:(ops[g]?).bind (·.dst)=aB s:=by rfl)(hb:uC rd s=aB (.lit (.bool b)):=by rfl)(h:∀E':Env,E'.Has rd→Ok P Γ o E' (E'.app wr chg):=by intro E' h;exact zLq (hO h rfl) rfl rfl rfl):DK P Γ pn ops id hs E0 Q (o::os) E acc:=dG rd [(wr,chg)] gJ (fun E' h'=>yY.guard g b s (h E' h') hg gN (hE h' hb)) k
theorem zOi{g s:Nat}{b:Bool}(rd:List (Nat×T))(k:DK P Γ pn ops id hs E0 Q os (E.app wr chg) (⟨rd,[(wr,chg)]⟩::acc))(gJ:E.Has rd:=by repeat (first|exact trivial|refine⟨rfl,?_⟩))(hg:o.guard=aB (g,b):=by rfl)(gN:(ops[g]?).bind (·.dst)=aB s:=by rfl)(hb:uC rd s=aB (.lit (.bool b)):=by rfl)(h:∀E':Env,E'.Has rd→Ok P Γ o E' (E'.app wr chg):=by intro E' h;exact zOg (by first|exact zDr (hE h rfl) rfl|exact zGp (hE h rfl) (hE h rfl) (by first|rfl|exact yG (by assumption) rfl|exact yG (by assumption) (yG (by assumption) rfl)|exact uE rfl (yG (by assumption) rfl)|exact uD (yG (by assumption) rfl)|exact uD (uE rfl (yG (by assumption) rfl))|exact uD (uE rfl (yG (by assumption) (yG (by assumption) rfl)))) rfl) rfl):DK P Γ pn ops id hs E0 Q (o::os) E acc:=dG rd [(wr,chg)] gJ (fun E' h'=>yY.guard g b s (h E' h') hg gN (hE h' hb)) k
theorem zVp(rd:List (Nat×T))(k:DK P Γ pn ops id hs E0 Q os (E.app wr chg) (⟨rd,[(wr,chg)]⟩::acc))(gJ:E.Has rd:=by repeat (first|exact trivial|refine⟨rfl,?_⟩))(h:∀E':Env,E'.Has rd→Ok P Γ o E' (E'.app wr chg):=by intro E' h;exact zNP (by assumption) (hO h rfl) (hO h rfl) rfl)(hg:o.guard=aC:=by rfl):DK P Γ pn ops id hs E0 Q (o::os) E acc:=dG rd [(wr,chg)] gJ (fun E' h'=>yY.op (h E' h') hg) k
theorem kR(rd:List (Nat×T))(k:DK P Γ pn ops id hs E0 Q os (E.app wr chg) (⟨rd,[(wr,chg)]⟩::acc))(gJ:E.Has rd:=by repeat (first|exact trivial|refine⟨rfl,?_⟩))(h:∀E':Env,E'.Has rd→Ok P Γ o E' (E'.app wr chg):=by intro E' h;exact zJE (hO h rfl) (hO h rfl) rfl)(hg:o.guard=aC:=by rfl):DK P Γ pn ops id hs E0 Q (o::os) E acc:=dG rd [(wr,chg)] gJ (fun E' h'=>yY.op (h E' h') hg) k
theorem zVq(rd:List (Nat×T))(k:DK P Γ pn ops id hs E0 Q os (E.app wr chg) (⟨rd,[(wr,chg)]⟩::acc))(gJ:E.Has rd:=by repeat (first|exact trivial|refine⟨rfl,?_⟩))(h:∀E':Env,E'.Has rd→Ok P Γ o E' (E'.app wr chg):=by intro E' h;first|exact zTz (hO h rfl) (hE h rfl) rfl rfl rfl rfl|exact zTz (hO h rfl) (hE h rfl) (by first|rfl|exact yG (by assumption) rfl|exact yG (by assumption) (yG (by assumption) rfl)|exact uE rfl (yG (by assumption) rfl)|exact uD (yG (by assumption) rfl)|exact uD (uE rfl (yG (by assumption) rfl))|exact uD (uE rfl (yG (by assumption) (yG (by assumption) rfl)))) (by rfl) (by rfl) (by rfl))(hg:o.guard=aC:=by rfl):DK P Γ pn ops id hs E0 Q (o::os) E acc:=dG rd [(wr,chg)] gJ (fun E' h'=>yY.op (h E' h') hg) k
theorem zVr(rd:List (Nat×T))(k:DK P Γ pn ops id hs E0 Q os (E.app wr chg) (⟨rd,[(wr,chg)]⟩::acc))(gJ:E.Has rd:=by repeat (first|exact trivial|refine⟨rfl,?_⟩))(h:∀E':Env,E'.Has rd→Ok P Γ o E' (E'.app wr chg):=by intro E' h;exact zB2 (hO h rfl) rfl)(hg:o.guard=aC:=by rfl):DK P Γ pn ops id hs E0 Q (o::os) E acc:=dG rd [(wr,chg)] gJ (fun E' h'=>yY.op (h E' h') hg) k
theorem zVs{g s:Nat}{b:Bool}(rd:List (Nat×T))(k:DK P Γ pn ops id hs E0 Q os (E.app wr chg) (⟨rd,[(wr,chg)]⟩::acc))(gJ:E.Has rd:=by repeat (first|exact trivial|refine⟨rfl,?_⟩))(hg:o.guard=aB (g,b):=by rfl)(gN:(ops[g]?).bind (·.dst)=aB s:=by rfl)(hb:uC rd s=aB (.lit (.bool b)):=by rfl)(h:∀E':Env,E'.Has rd→Ok P Γ o E' (E'.app wr chg):=by intro E' h;exact zNR (hO h rfl) (hO h rfl) rfl):DK P Γ pn ops id hs E0 Q (o::os) E acc:=dG rd [(wr,chg)] gJ (fun E' h'=>yY.guard g b s (h E' h') hg gN (hE h' hb)) k
theorem zF8{g s:Nat}{b:Bool}(rd:List (Nat×T))(k:DK P Γ pn ops id hs E0 Q os (E.app wr chg) (⟨rd,[(wr,chg)]⟩::acc))(gJ:E.Has rd:=by repeat (first|exact trivial|refine⟨rfl,?_⟩))(hg:o.guard=aB (g,b):=by rfl)(gN:(ops[g]?).bind (·.dst)=aB s:=by rfl)(hb:uC rd s=aB (.lit (.bool b)):=by rfl)(h:∀E':Env,E'.Has rd→Ok P Γ o E' (E'.app wr chg):=by intro E' h;exact zNU inferInstance (hO h rfl) rfl rfl rfl):DK P Γ pn ops id hs E0 Q (o::os) E acc:=dG rd [(wr,chg)] gJ (fun E' h'=>yY.guard g b s (h E' h') hg gN (hE h' hb)) k
theorem zH5(rd:List (Nat×T))(k:DK P Γ pn ops id hs E0 Q os (E.app wr chg) (⟨rd,[(wr,chg)]⟩::acc))(gJ:E.Has rd:=by repeat (first|exact trivial|refine⟨rfl,?_⟩))(h:∀E':Env,E'.Has rd→Ok P Γ o E' (E'.app wr chg):=by intro E' h;first|exact zAt (hO h rfl) (zDs (hO h rfl)) rfl|exact zAt (hO h rfl) (isPtr_addr (hO h rfl)) rfl|exact zAt (hO h rfl) (zCk (by first|exact zDr (hE h rfl) rfl|exact zGp (hE h rfl) (hE h rfl) (by first|rfl|exact yG (by assumption) rfl|exact yG (by assumption) (yG (by assumption) rfl)|exact uE rfl (yG (by assumption) rfl)|exact uD (yG (by assumption) rfl)|exact uD (uE rfl (yG (by assumption) rfl))|exact uD (uE rfl (yG (by assumption) (yG (by assumption) rfl)))) rfl)) rfl)(hg:o.guard=aC:=by rfl):DK P Γ pn ops id hs E0 Q (o::os) E acc:=dG rd [(wr,chg)] gJ (fun E' h'=>yY.op (h E' h') hg) k
theorem zCU{g s:Nat}{b:Bool}(rd:List (Nat×T))(k:DK P Γ pn ops id hs E0 Q os (E.app wr chg) (⟨rd,[(wr,chg)]⟩::acc))(gJ:E.Has rd:=by repeat (first|exact trivial|refine⟨rfl,?_⟩))(hg:o.guard=aB (g,b):=by rfl)(gN:(ops[g]?).bind (·.dst)=aB s:=by rfl)(hb:uC rd s=aB (.lit (.bool b)):=by rfl)(h:∀E':Env,E'.Has rd→Ok P Γ o E' (E'.app wr chg):=by intro E' h;first|exact zAt (hO h rfl) (zDs (hO h rfl)) rfl|exact zAt (hO h rfl) (isPtr_addr (hO h rfl)) rfl|exact zAt (hO h rfl) (zCk (by first|exact zDr (hE h rfl) rfl|exact zGp (hE h rfl) (hE h rfl) (by first|rfl|exact yG (by assumption) rfl|exact yG (by assumption) (yG (by assumption) rfl)|exact uE rfl (yG (by assumption) rfl)|exact uD (yG (by assumption) rfl)|exact uD (uE rfl (yG (by assumption) rfl))|exact uD (uE rfl (yG (by assumption) (yG (by assumption) rfl)))) rfl)) rfl):DK P Γ pn ops id hs E0 Q (o::os) E acc:=dG rd [(wr,chg)] gJ (fun E' h'=>yY.guard g b s (h E' h') hg gN (hE h' hb)) k
theorem cA{f:FuncId}{xs:List Operand}{ats:Array TypeId}{us res:List T}(gm:zAI P f)(hc:FnC P f us res [])(k:RW P Γ pn ops os (E.app (cWr d res []) (wV d [])) Q)(gg:wB E [] 0 xs us:=by repeat (first|exact trivial|refine⟨agC _ rfl (by first|rfl|exact zNS inferInstance|exact zNT rfl (by first|rfl|exact yG (by assumption) rfl|exact yG (by assumption) (yG (by assumption) rfl)|exact uE rfl (yG (by assumption) rfl)|exact uD (yG (by assumption) rfl)|exact uD (uE rfl (yG (by assumption) rfl))|exact uD (uE rfl (yG (by assumption) (yG (by assumption) rfl)))) inferInstance|exact cloSR rfl (by first|rfl|exact yG (by assumption) rfl|exact yG (by assumption) (yG (by assumption) rfl)|exact uE rfl (yG (by assumption) rfl)|exact uD (yG (by assumption) rfl)|exact uD (uE rfl (yG (by assumption) rfl))|exact uD (uE rfl (yG (by assumption) (yG (by assumption) rfl))))) rfl,?_⟩))(gv:zBM res:=by repeat (first|exact zGq|refine zGr inferInstance ?_))(sd:J4 d Γ.N=aD:=by rfl)(hg:gd=aC:=by rfl)(hp:pn.ok (aB d)=aD:=by rfl):
  RW P Γ pn ops (⟨aB d,.call { callee:=.value (.func f),args:=xs.toArray,argTypes:=ats },ty,ps,af,gd⟩::os) E Q:=oP (zBk gm hc gg gv sd) k hg hp
theorem dC{f:FuncId}{xs:List Operand}{ats:Array TypeId}{us res:List T}(rd:List (Nat×T))(gm:zAI P f)(hc:FnC P f us res [])(k:DK P Γ pn ops id hs E0 Q os (E.app (cWr d res []) (wV d [])) (⟨rd,[(cWr d res [],wV d [])]⟩::acc))(gJ:E.Has rd:=by repeat (first|exact trivial|refine⟨rfl,?_⟩))(gg:∀E':Env,E'.Has rd→wB E' [] 0 xs us:=by intro E' h;repeat (first|exact trivial|refine⟨agC _ (hO h rfl) (by first|rfl|exact zNS inferInstance|exact zNT (hE h rfl) (by first|rfl|exact yG (by assumption) rfl|exact yG (by assumption) (yG (by assumption) rfl)|exact uE rfl (yG (by assumption) rfl)|exact uD (yG (by assumption) rfl)|exact uD (uE rfl (yG (by assumption) rfl))|exact uD (uE rfl (yG (by assumption) (yG (by assumption) rfl)))) inferInstance|exact cloSR (hE h rfl) (by first|rfl|exact yG (by assumption) rfl|exact yG (by assumption) (yG (by assumption) rfl)|exact uE rfl (yG (by assumption) rfl)|exact uD (yG (by assumption) rfl)|exact uD (uE rfl (yG (by assumption) rfl))|exact uD (uE rfl (yG (by assumption) (yG (by assumption) rfl))))) rfl,?_⟩))(gv:zBM res:=by repeat (first|exact zGq|refine zGr inferInstance ?_))(sd:J4 d Γ.N=aD:=by rfl)(hg:gd=aC:=by rfl):
  DK P Γ pn ops id hs E0 Q (⟨aB d,.call { callee:=.value (.func f),args:=xs.toArray,argTypes:=ats },ty,ps,af,gd⟩::os) E acc:=
 dG rd [(cWr d res [],wV d [])] gJ (fun E' h'=>yY.op (zBk gm hc (gg E' h') gv sd) hg) k
theorem sk2{g s:Nat}{b b':Bool}(k:RW P Γ pn ops os (E.app [(d,aB (.tup []))] [(d,0)]) Q)(hd:o.dst=aB d:=by rfl)(hg:o.guard=aB (g,b):=by rfl)(gN:(ops[g]?).bind (·.dst)=aB s:=by rfl)(hb:E s=aB (.lit (.bool b')):=by rfl)(el:(b==b')=aE:=by rfl)(sd:J4 d Γ.N=aD:=by rfl)(hp:pn.ok o.dst=aD:=by rfl):
  RW P Γ pn ops (o::os) E Q:=RW.cons (yY.skip2 g b b' s hd sd el hg gN hb) k hp
theorem sk3{g s:Nat}{b:Bool}(k:RW P Γ pn ops os (E.app [(d,aB (.tup []))] [(d,0)]) Q)(hd:o.dst=aB d:=by rfl)(hg:o.guard=aB (g,b):=by rfl)(gN:(ops[g]?).bind (·.dst)=aB s:=by rfl)(hb:E s=aB (.tup []):=by rfl)(sd:J4 d Γ.N=aD:=by rfl)(hp:pn.ok o.dst=aD:=by rfl):
  RW P Γ pn ops (o::os) E Q:=RW.cons (yY.skip3 g b s hd sd hg gN hb) k hp
theorem wJ{g s:Nat}{b b':Bool}(k:DK P Γ pn ops id hs E0 Q os (E.app [(d,aB (.tup []))] [(d,0)]) (⟨[(s,.lit (.bool b'))],[([(d,aB (.tup []))],[(d,0)])]⟩::acc))(hd:o.dst=aB d:=by rfl)(hg:o.guard=aB (g,b):=by rfl)(gN:(ops[g]?).bind (·.dst)=aB s:=by rfl)(hb:E s=aB (.lit (.bool b')):=by rfl)(el:(b==b')=aE:=by rfl)(sd:J4 d Γ.N=aD:=by rfl):
  DK P Γ pn ops id hs E0 Q (o::os) E acc:=dG [(s,.lit (.bool b'))] [([(d,aB (.tup []))],[(d,0)])] ⟨hb,trivial⟩ (fun _E' h=>yY.skip2 g b b' s hd sd el hg gN h.1) k
theorem zWL{g s:Nat}{b:Bool}(k:DK P Γ pn ops id hs E0 Q os (E.app [(d,aB (.tup []))] [(d,0)]) (⟨[(s,.tup [])],[([(d,aB (.tup []))],[(d,0)])]⟩::acc))(hd:o.dst=aB d:=by rfl)(hg:o.guard=aB (g,b):=by rfl)(gN:(ops[g]?).bind (·.dst)=aB s:=by rfl)(hb:E s=aB (.tup []):=by rfl)(sd:J4 d Γ.N=aD:=by rfl):
  DK P Γ pn ops id hs E0 Q (o::os) E acc:=dG [(s,.tup [])] [([(d,aB (.tup []))],[(d,0)])] ⟨hb,trivial⟩ (fun _E' h=>yY.skip3 g b s hd sd hg gN h.1) k
theorem dNA(hm:P.follows .mixedOrders=aD)(hQ:Q .normal E)(hf:zAA 0 ops.toList=aD:=by rfl)(ha:zAf (zTw ops.toList) (zTw ops.toList) ops.toList=aD:=by rfl)(hp:qN acc.reverse 0 (zTw ops.toList) acc.reverse=aD:=by rfl)
  (mz:ops.toList.all (fun o=>pn.ok o.dst)=aD:=by rfl)(pX:zOe hs E0=aD:=by rfl)(hw:acc.reverse.all (wrS hs)=aD:=by rfl):DK P Γ pn ops id hs E0 Q [] E acc:=dN _ hm hQ hf ha hp mz pX hw
theorem cn{c1 c2:Code}{α:Type}{b:Bool}{u v z:α}(h:cond b u v=z)(ht:b=aD→u=z→CW P Γ pn c1 E Q)(hf:b=aE→v=z→CW P Γ pn c2 E Q)(hb:opT E x=aB (.lit (.bool b)):=by rfl):CW P Γ pn (.cond x c1 c2) E Q:=
 CW.cond b hb (fun hc=>ht hc (cT hc h)) fun hc=>hf hc (cF hc h)
theorem fB{f:FuncId}{fn:Func}{c:Code}{us res:List T}{rws:List (Nat×T)}(hf:P.funcs[f]? =aB fn)(h:∀(St:Stb)(W:Nat→Prop)(w0:World)(v:Nat→Value),CW P ⟨St,W,w0,fn.ntmps⟩ (zBJ v (rws.map (·.1))) c (uC (zGo 0 us)) (xH ⟨St,W,w0,fn.ntmps⟩ P fn.results us res rws))(hb:fn.body=aB c:=by rfl)(hn:us.length≤fn.ntmps:=by exact Nat.le_of_ble_eq_true rfl)
  (ht:vE us:=by repeat (first|exact trivial|refine⟨by first|exact Top.of_clean _ (Enc.clean _)|simp[Top,vE],?_⟩))(hr:rws.all (fun x=>decide (x.1<us.length))=aD:=by rfl):FnC P f us res rws:=
 FnC.of_bodyG hf hb hn ht hr (by rintro⟨St,W,w0,N⟩ v hN;subst hN;exact h St W w0 v)
def zBO:List ResultVar→Option (List Nat)
 | []=>aB []
 |.tmp s::l=>(zBO l).map (s::·)
 |.cell _ _::_=>aC
theorem zGN:∀(rs:List ResultVar)(ss:List Nat)(res:List T),zBO rs=aB ss→ss.map E=res.map aB→res.all T.okTup=aD→ ∃nd:Nds,zEA P E rs nd∧nd.map (·.2.2)=res∧nd.map (·.1)=ss
 | [],ss,res,h,hE,_=>by
  simp[zBO]at h;subst h;cases res with
  |nil=>exact⟨[],trivial,rfl,rfl⟩
  |cons _ _=>simp at hE
 |.tmp s::rs,ss,res,h,hE,ht=>by
  simp only[zBO,K1]at h;obtain⟨ss',h,rfl⟩:=h;cases res with
  |nil=>simp at hE
  |cons t res=>
   simp only[Jg,Q9.injEq]at hE;simp only[Ga,J3]at ht;obtain⟨nd,h1,h2,h3⟩:=zGN rs ss' res h hE.2 ht.2;exact⟨(s,[],t)::nd,⟨⟨rfl,rfl,hE.1,ht.1⟩,h1⟩,by simp[h2],by simp[h3]⟩
 |.cell _ _::_,_,_,h,_,_=>by simp[zBO]at h
theorem rT{rs:Array ResultVar}{us res:List T}{rws:List (Nat×T)}{e:Exit}{ss:List Nat}(hs:zBO rs.toList=aB ss:=by rfl)(hE:ss.map E=res.map aB:=by rfl)(ht:res.all T.okTup=aD:=by rfl)(hl:ss.all (fun s=>U6 us.length s)=aD:=by rfl)(hn:zAJ ss=aD:=by rfl)
  (hw:LOk E us rws:=by repeat (first|exact trivial|refine⟨⟨rfl,_,rfl⟩,?_⟩))(he:e=.ret∨e=.normal:=by first|exact .inl rfl|exact .inr rfl):xH Γ P rs us res rws e E:=by
 obtain⟨nd,h1,h2,h3⟩:=zGN (P:=P) rs.toList ss res hs hE ht;refine⟨E,zO.refl,he,nd,h1,h2,fun x hx=>?_,by rw[h3];exact zCl hn,hw⟩;have:x.1∈ss:=by rw[←h3];exact Jd.2 ⟨x,hx,rfl⟩
 exact Nat.le_of_ble_eq_true (Jt.1 hl _ this)
theorem eN{σ ρ:Type}{en:σ→Env}{Q1:ρ→Exit→Env→Prop}{y:σ}{x:σ⊕ρ}(h:aB (Sum.inl y)=aB x)(q:zO Γ E (en y):=by exact .has (by repeat (first|exact trivial|refine⟨rfl,?_⟩))):xE Γ en Q1 x .normal E:=by obtain rfl:=sI h;exact⟨rfl,q⟩
theorem rTg{rs:Array ResultVar}{us res:List T}{rws:List (Nat×T)}{e:Exit}(hg:zO Γ E E')(h:xH Γ P rs us res rws e E'):xH Γ P rs us res rws e E:=by obtain⟨E2,h1,h2⟩:=h;exact⟨E2,hg.trans h1,h2⟩
theorem eX{σ ρ:Type}{en:σ→Env}{Q1:ρ→Exit→Env→Prop}{y:ρ}{x:σ⊕ρ}{e:Exit}(h:aB (Sum.inr y)=aB x)(q:Q1 y e E:=by first|exact⟨rfl,.has (by repeat (first|exact trivial|refine⟨rfl,?_⟩))⟩|exact⟨rfl,rT⟩)(gf:e≠.normal:=by first|exact neX|exact neR):xE Γ en Q1 x e E:=by obtain rfl:=sI h;exact⟨gf,q⟩
end
end Go.Ab

namespace Go.Ab
open Go
section
variable {Γ:Ctx}{E:Env}
theorem zO.frzG(s:Nat)(t:T){t':T}(hs:E s=aB t)(h:wR t=t'):zO Γ E (E.app [(s,aB t')] [(s,1)]):=h▸zO.freeze s t hs
theorem fzO{α:Type}{k:Nat}{f g:α→T}{xs:List α}(h:vM f g):wR (L k f xs)=.ro (L k g xs):=by simp only[wR,strip,vX h.h xs]
theorem fzA{xs ys:List T}(h:vL xs=ys):wR (.agg xs)=.agg ys:=by grind[wR]
theorem fzC{x y:T}{xs ys:List T}(h:wR x=y)(h2:vL xs=ys):vL (x::xs)=y::ys:=by grind[vL]
end
end Go.Ab
namespace Go.Ab
open Go
end Go.Ab

namespace Go.Ab
open Go
section
variable {P:Program}{Γ:Ctx}{pn:sT}{E E' E0:Env}{Q:Exit→Env→Prop}{ops:Array Oper}{o:Oper}{os:List Oper}{id d:Nat}{hs:List Nat}{acc:List Stp}{x y:Operand}{ty:TypeId}{ps:String}{af:Array Edge}{gd:Option (Nat×Bool)}
def zX3{α:Type}(xs:List α)(j i:Int)(a b:α):List α:=(xs.set j.toNat a).set i.toNat b
end
end Go.Ab

namespace Go.Ab
open Go Go.ChangeShapes
section
variable {P:Program}
theorem zWM{α:Type}{f:α→T}{V:α→Prop}{t e:TypeId}{k:Nat}(hu:P.underlying t=aB (.slice e))(hk:P.cellsOf e=k)(er:0<k)(h:RdT P e k f V):RdA P t (fun xs=>T.ro (L k f xs)) (fun xs=>xs.length≤maxLen∧ ∀x∈xs,V x):=
 zQF (fun _=>⟨rfl,fun _ _=>rfl⟩) (zWJ hu hk er h) fun{w base v} gE=>by cases v<;>first|rfl|(simp[Value.okWide,Cell.okWide,Cell.ok,hu]at gE)
end
end Go.Ab

namespace Go.Ab
open Go
end Go.Ab

namespace Go.Ab
open Go
section
variable {St Sc:Stb}{G:Gh}{w:World}{s:Nat} (gk:∀s p,(G.hd s p).oneCell'=aD) (gY:∀b x,St b=aB x→Sc b=aB x) (gZ:∀b y,y≠[]→G.ow b=aB (s,y)→Sc b=w.heap[b]?)
 include gk gY gZ
mutual
theorem frzI:(t:T)→ ∀(p:List Nat)(b o:Nat)(cs:Array Value)(e:TypeId)(fr:Nat×Nat),p≠[]→w.heap[b]? =aB (.cells cs e fr)→Loc G w s t p b o→R St G w s t p→RoC Sc (strip t) cs o
 |.agg xs,p,b,o,cs,e,fr,hp,hb,hl,hr=>by simp only[Loc,R,strip,RoC]at hl hr ⊢;exact zSF xs p 0 b o cs e fr hb hl.2 hr
 |.tup _,_,_,_,_,_,_,_,_,hl,_=>by have _:=gZ;simp only[Loc]at hl
 |.any,p,b,o,cs,e,fr,hp,hb,hl,hr|.same _ _,p,b,o,cs,e,fr,hp,hb,hl,hr|.addr _ _,p,b,o,cs,e,fr,hp,hb,hl,hr|.sub _ _ _ _ _,p,b,o,cs,e,fr,hp,hb,hl,hr=>by have h1:=(xW rfl hl).2.2;simp only[zV,World.cell?,hb]at h1;simp only[strip,RoC];exact⟨_,by simpa using h1,gk s p⟩
 |.lit v,p,b,o,cs,e,fr,hp,hb,hl,hr=>by
  have h1:=(xW rfl hl).2.2;simp only[zV,World.cell?,hb]at h1;simp only[strip,RoC,R]at hr ⊢
  exact⟨by rw[←hr];simpa using h1,by rw[←hr];exact gk s p⟩
 |.ro u,p,b,o,cs,e,fr,hp,hb,hl,hr=>by
  have h1:=(xW rfl hl).2.2;simp only[zV,World.cell?,hb]at h1;simp only[strip,R]at hr ⊢
  split
  ·rename_i hu
   exact sP hu (vW gY u _ _ hr) (by simpa using h1)
  ·simp only[RoC];exact⟨_,by simpa using h1,gk s p⟩
 |.sl k xs,p,b,o,cs,e,fr,hp,hb,hl,hr=>by have h1:=(xW rfl hl).2.2;simp only[zV,World.cell?,hb]at h1;exact sP rfl (zLt (.sl k xs) p hp rfl hr) (by simpa using h1)
 |.ptr t,p,b,o,cs,e,fr,hp,hb,hl,hr=>by have h1:=(xW rfl hl).2.2;simp only[zV,World.cell?,hb]at h1;exact sP rfl (zLt (.ptr t) p hp rfl hr) (by simpa using h1)
theorem zSF:(xs:List T)→ ∀(p:List Nat)(j b o:Nat)(cs:Array Value)(e:TypeId)(fr:Nat×Nat),w.heap[b]? =aB (.cells cs e fr)→wD G w s xs p j b o→RF St G w s xs p j→RoF Sc (xQ xs) cs o
 | [],_,_,_,_,_,_,_,_,_,_=>by have _:=gk;have _:=gY;have _:=gZ;simp only[xQ,RoF]
 |x::xs,p,j,b,o,cs,e,fr,hb,hl,hr=>by
  simp only[wD,RF,xQ,RoF]at hl hr ⊢
  exact⟨frzI x _ b o cs e fr (by simp) hb hl.1 hr.1,by rw[zCQ];exact zSF xs p (j+1) b _ cs e fr hb hl.2 hr.2⟩
theorem zSG:(xs:List T)→ ∀(p:List Nat)(i b o k:Nat)(cs:Array Value)(e:TypeId)(fr:Nat×Nat),w.heap[b]? =aB (.cells cs e fr)→RL St G w s xs p i b o k→RoL Sc (xQ xs) cs o k
 | [],_,_,_,_,_,_,_,_,_,_=>by have _:=gk;have _:=gY;have _:=gZ;simp only[xQ,RoL]
 |x::xs,p,i,b,o,k,cs,e,fr,hb,hr=>by
  simp only[RL,xQ,RoL]at hr ⊢
  exact⟨frzI x _ b o cs e fr (by simp) hb hr.1.1 hr.2.1,zSG xs p (i+1) b _ k cs e fr hb hr.2.2⟩
theorem zLt:(t:T)→ ∀(p:List Nat),p≠[]→t.single=aD→R St G w s t p→RoC Sc (strip t) #[G.hd s p] 0
 |.agg _,_,_,h,_|.tup _,_,_,h,_=>by simp[T.single]at h
 |.any,p,_,_,_|.same _ _,p,_,_,_|.addr _ _,p,_,_,_|.sub _ _ _ _ _,p,_,_,_=>by simp only[strip,RoC];exact⟨_,by simp,gk s p⟩
 |.lit v,p,_,_,hr=>by simp only[strip,RoC,R]at hr ⊢;exact⟨by simp[hr],by rw[←hr];exact gk s p⟩
 |.ro u,p,_,_,hr=>by
  simp only[strip,R]at hr ⊢
  split
  ·exact vW gY u _ _ hr
  ·simp only[RoC];exact⟨_,by simp,gk s p⟩
 |.sl k xs,p,hp,_,hr=>by
  simp only[strip,R,RoC]at hr ⊢
  rw[jV];rcases hr with⟨rfl,a,h1⟩|⟨b,o0,cap,cs,e,h1,h2,h3,h4,h5,h6,h7,h8⟩
  ·exact⟨a,0,by simp[h1],by simp,by simp[maxLen],fun h=>by simp[xQ]at h⟩
  ·exact⟨aB ⟨b,o0,aC⟩,cap,by simp[h1],h3,h4,fun _=>⟨b,o0,cs,e,(0,0),rfl,by rw[gZ b _ hp h6];exact h2,zSG xs p 0 b o0 k cs e (0,0) h2 h8⟩⟩
 |.ptr t,p,hp,_,hr=>by
  simp only[strip,R,RoC]at hr ⊢
  obtain⟨b,cs,e,h1,h2,h3,h6,h4,h5⟩:=hr;exact⟨b,0,cs,e,(0,0),by simp[h1],by rw[gZ b _ hp h6];exact h2,frzI t _ b 0 cs e (0,0) (by simp) h2 h4 h5⟩
end
variable {G':Gh} (gB:∀s z,G'.hd s z=G.hd s z) (eI:∀s z,G'.ad s z=G.ad s z)
 include gB eI
mutual
theorem zOj:(t:T)→ ∀(p:List Nat),p≠[]→R St G w s t p→R Sc G' w s (wR t) p
 |.agg xs,p,_,hr|.tup xs,p,_,hr=>by simp only[wR,R]at hr ⊢;exact zLu xs p 0 hr
 |.sl k xs,p,hp,hr=>by have:=zLt gk gY gZ (.sl k xs) p hp rfl hr;simp only[wR,R,gB];exact this
 |.ptr t,p,hp,hr=>by have:=zLt gk gY gZ (.ptr t) p hp rfl hr;simp only[wR,R,gB];exact this
 |.ro u,p,_,hr=>by simp only[wR,R,gB]at hr ⊢;exact vW gY u _ _ hr
 |.any,_,_,_=>by simp only[wR,R]
 |.lit _,_,_,hr|.same _ _,_,_,hr|.sub _ _ _ _ _,_,_,hr=>by simp only[wR,R,gB]at hr ⊢;exact hr
 |.addr _ _,_,_,hr=>by simp only[wR,R,gB,eI]at hr ⊢;exact hr
theorem zLu:(xs:List T)→ ∀(p:List Nat)(j:Nat),RF St G w s xs p j→RF Sc G' w s (vL xs) p j
 | [],_,_,_=>by have _:=gk;have _:=gY;have _:=gZ;have _:=gB;have _:=eI;simp only[vL,RF]
 |x::xs,p,j,hr=>by simp only[vL,RF]at hr ⊢;exact⟨zOj x _ (by simp) hr.1,zLu xs p (j+1) hr.2⟩
end
end
mutual
theorem zDV:(t:T)→(wR t).size=t.size
 |.agg xs=>by simp only[wR,T.size];exact zF9 xs
 |.tup xs=>by simp only[wR,T.size]
 |.sl _ _|.ptr _|.any|.lit _|.ro _|.same _ _|.addr _ _|.sub _ _ _ _ _=>by simp only[wR,T.size]
theorem zF9:(xs:List T)→T.sizes (vL xs)=T.sizes xs
 | []=>rfl
 |x::xs=>by simp only[vL,T.sizes,zDV x,zF9 xs]
end
section
variable {G G':Gh}{w:World}{s:Nat} (gB:∀s z,G'.hd s z=G.hd s z) (eI:∀s z,G'.ad s z=G.ad s z)
 include gB eI
mutual
theorem zLv:(t:T)→ ∀(p:List Nat)(b o:Nat),(∀o,G'.lb b o=G.lb b o)→Loc G w s t p b o→Loc G' w s (wR t) p b o
 |.agg xs,p,b,o,hb,h=>by simp only[wR,Loc,eI]at h ⊢;exact⟨h.1,zIF xs p 0 b o hb h.2⟩
 |.tup _,_,_,_,_,h=>by simp only[Loc]at h
 |.sl _ _,p,b,o,hb,h|.ptr _,p,b,o,hb,h|.any,p,b,o,hb,h|.lit _,p,b,o,hb,h|.ro _,p,b,o,hb,h|.same _ _,p,b,o,hb,h|.addr _ _,p,b,o,hb,h|.sub _ _ _ _ _,p,b,o,hb,h=>by simp only[wR,Loc,eI,gB,hb]at h ⊢;exact h
theorem zIF:(xs:List T)→ ∀(p:List Nat)(j b o:Nat),(∀o,G'.lb b o=G.lb b o)→wD G w s xs p j b o→wD G' w s (vL xs) p j b o
 | [],_,_,_,_,_,_=>by have _:=gB;have _:=eI;simp only[vL,wD]
 |x::xs,p,j,b,o,hb,h=>by simp only[vL,wD,zDV]at h ⊢;exact⟨zLv x _ b o hb h.1,zIF xs p (j+1) b _ hb h.2⟩
end
end
section
variable {φ:Nat→List Nat→Prop}
mutual
theorem zGO:(t:T)→yF φ t→yF φ (wR t)
 |.agg xs,h|.tup xs,h=>by simp only[wR,yF]at h ⊢;exact zFA xs h
 |.same _ _,h|.addr _ _,h|.sub _ _ _ _ _,h=>by simp only[wR,yF]at h ⊢;exact h
 |.sl _ _,_|.ptr _,_|.any,_|.lit _,_|.ro _,_=>by simp only[wR,yF]
theorem zFA:(xs:List T)→yP φ xs→yP φ (vL xs)
 | [],_=>by simp only[vL,yP]
 |x::xs,h=>by simp only[vL,yP]at h ⊢;exact⟨zGO x h.1,zFA xs h.2⟩
end
end
theorem zO.freezeIn{Γ:Ctx}{E:Env}(n:Nat)(s:Nat)(t:T)(hs:E s=aB (.ptr t)):zO Γ E (E.app [(s,aB (.ptr (wR t)))] [(s,n)]):=by
 classical
 rintro a w ⟨S,hS,ed,G,ga⟩
 have hm:=ga.mem
 let own:Nat→Prop:=fun b=> ∃y,y≠[]∧G.ow b=aB (s,y)
 let Sc:Stb:=fun b=>if own b then w.heap[b]? else S b
 let G':Gh:={ hd:=G.hd,ad:=G.ad,lb:=fun b o=>if own b then aC else G.lb b o,ow:=fun b=>if own b then aC else G.ow b }
 have eZ:∀b x,S b=aB x→Sc b=aB x:=fun b x hx=>by
  have:¬own b:=by
   rintro⟨y,_,hy⟩
   have:=(hm.ow b _ hy).2.2;rw[show S b=aC from this]at hx;cases hx
  simp only[Sc,this,if_false];exact hx
 have mM:zCw S Sc Γ.W Γ.w0.heap.size:=⟨eZ,fun b hb ej=>by
  by_cases h:own b
  ·obtain⟨y,_,hy⟩:=h
   exact(hm.ow b _ hy).2.1
  ·simp only[Sc,h,if_false]at ej
   exact absurd hb ej⟩
 have gw:Mem ((Γ.at S).at Sc) G' w:=by
  refine⟨hm.one,fun b o l hl=>?_,fun b l hl=>?_,fun b x hx=>?_,hm.fr,hm.sz,hm.bk⟩
  ·by_cases h:own b
   ·simp only[G',h,if_true]at hl;cases hl
   ·simp only[G',h,if_false]at hl
    have:=hm.lb b o l hl;exact⟨this.1,this.2.1,by simp only[Sc,h,if_false];exact this.2.2⟩
  ·by_cases h:own b
   ·simp only[G',h,if_true]at hl;cases hl
   ·simp only[G',h,if_false]at hl
    have:=hm.ow b l hl;exact⟨this.1,this.2.1,by simp only[Sc,h,if_false];exact this.2.2⟩
  ·by_cases h:own b
   ·simp only[Sc,h,if_true]at hx;exact hx
   ·simp only[Sc,h,if_false]at hx;exact hm.st b x hx
 have gn:kE [(s,n)] G w G' w:=by
  have tg:∀b s0 y,G.ow b=aB (s0,y)→(∀m,(s0,m)∉([(s,n)]:Chg))→ ¬own b:=by
   rintro b s0 y h1 h2 ⟨y',_,h3⟩
   rw[h1]at h3;simp at h3;exact h2 n (by simp[h3.1])
  refine⟨fun _ _ _=>rfl,fun _ _ _=>rfl,fun b o f s0 p ⟨y,hy⟩ h1 h2=>?_,fun b s0 p h1 h2=>?_,fun b cs e h=>⟨cs,h,rfl⟩⟩
  ·have:=tg b s0 y hy h2
   refine⟨?_,rfl⟩;simp only[G',this,if_false];exact h1
  ·have:=tg b s0 p h1 h2
   simp only[G',this,if_false];exact h1
 obtain⟨e1,e2,e3⟩:=ga.ent s _ hs;refine⟨Sc,hS.trans mM,ed,G',ga.up eZ rfl gn gw (fun s0 h0=>⟨fun n hn=>?_,rfl⟩) (fun s0 t0 h0=>?_)⟩
 ·rw[uK]at h0
  simp at hn;simp[hn.1]at h0
 ·rw[uK]at h0
  split at h0
  ·rename_i he;subst he
   simp at h0;subst h0;refine⟨?_,?_,?_⟩
   ·rw[e1]
    simp only[mkV];rfl
   ·simp only[R]at e2 ⊢
    obtain⟨b,cs,e,h1,h2,h3,h6,h4,h5⟩:=e2;have hnb:¬own b:=by
     rintro⟨y,hy,h⟩
     rw[h6]at h;simp at h;exact hy h
    refine⟨b,cs,e,h1,h2,by rw[zDV];exact h3,by simp only[G',hnb,if_false];exact h6,zLv (G:=G) (G':=G') (fun _ _=>rfl) (fun _ _=>rfl) t [0] b 0 (fun o=>by simp only[G',hnb,if_false]) h4,?_⟩;exact zOj (G':=G') hm.one eZ (fun b y hy hb=>by simp only[Sc];rw[if_pos ⟨y,hy,hb⟩]) (fun _ _=>rfl) (fun _ _=>rfl) t [0] (by simp) h5
   ·simp only[Top]at e3 ⊢
    exact zGO t e3
  ·cases h0
theorem zO.frzI(n s:Nat){Γ:Ctx}{E:Env}(t:T){t':T}(hs:E s=aB (.ptr t))(h:wR t=t'):zO Γ E (E.app [(s,aB (.ptr t'))] [(s,n)]):=h▸zO.freezeIn n s t hs
end Go.Ab

namespace Go.Ab
open Go
end Go.Ab
