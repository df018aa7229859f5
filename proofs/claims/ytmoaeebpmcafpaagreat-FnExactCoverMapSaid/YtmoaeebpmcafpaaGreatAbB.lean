/- The program's CoverMap returns what the reference's returns,for all arguments;no conditions. -/
import Derived.Test.YtmoaeebpmcafpaaGreatAbA
import Derived.Laws.CopyRow
import Derived.ProofKit
open List renaming replicate→J1,getElem?_eq_getElem→J5,mem_cons→J7,length_cons→J8,length_append→J9,range→Jb,mem_append→Jd,append_nil→Jf,mem_map→Jl,replicate_succ→Jq,map_cons→Jr,length_map→Jt,getElem?_eq_some_iff→Jv,length_nil→Jx,nil_append→K0,getElem?_map→K3,mem_iff_getElem→K4,cons_append→K5,all_eq_true→Kc,take_zero→Kd,reverse_reverse→Kh,range'→Kl,nodup_cons→Kv,range_eq_range'→L8,singleton_append→Li,take_succ_cons→Lj,map_append→Lm,flatMap_cons→Lp,eq_nil_of_length_eq_zero→Ly,contains_eq_mem→H3,length_range→H4,getElem?_drop→Hq,mem_of_getElem?→Hv,drop_zero→U6,map_nil→Ub,reverse_cons→Uw,all_cons→Ux,cons→Q2,getElem?_set_self→Qo,mem_iff_getElem?→Qq,mem_cons_of_mem→Ja5,map_take→Ja6,map_map→Ja7,getLast?_append→Ja8,dropLast_concat→Jaa,map_set→Jag,getElem?_take→Jah,mem_filter→Jb6,size_toArray→Jbf,map_drop→Jbg,getElem?_set→Jbh,getElem?_cons_succ→Jcc,getD→Jcm,range'_succ→Jcw
open Bool renaming and_eq_true→J2,not_true→Ji,and_self→Lb,false_eq_true→Ho,not_eq_true'→Gm
open Nat renaming blt→J4,zero_add→Ja,lt_or_ge→Jg,le_refl→Jh,mul_le_mul_right→K6,zero_le→Ka,div_add_mod→L4,div_lt_iff_lt_mul→Ll,le_trans→H2,mod_lt→Hb,mul_one→Hj,add_zero→Q6,sub_zero→Jav,ble→Jax,beq→Jay
open Array renaming getElem?_setIfInBounds→Jp,getD_eq_getD_getElem?→Kg,length_toList→Kt,getElem?_toList→Ky,getElem?_eq_some_iff→Ga,replicate→Q3
open Option renaming map_eq_some_iff→Ko,map_some→Ha,some→Hu,getD_some→Jbb
open Prod renaming mk→Jba
open Option renaming some→iF,none→iG
open Bool renaming true→iH,false→iI
namespace Go.Ab
open Go
variable {s i d id g r k s0 j off ds:Nat}{Γ:Ctx}{E E' E1:Env}{G:Gh}{tmps:Array Value}{w':World}{wr:Wr}{chg:Chg}{a:Act}{us ts:List T}{u u' tr' u0 t0:T}{ats:Array TypeId}{P:Program}{o:Oper}{l n m h:Int}{σ ρ α:Type}{fn:Func}{c:Code}{rws:List (Nat×T)}{ti:TypeInfo}{xt yt e:TypeId}{q:List Nat}{f:α→T}
abbrev Rw:=List (Nat×Nat×T)
variable {rw:Rw}
def rwI(rw:Rw)(s:Nat):Option Nat:=(rw.find? fun x=>x.2.1==s).map (·.1)
def rwS(rw:Rw)(i:Nat):Option Nat:=(rw.find? fun x=>x.1==i).map (·.2.1)
theorem zCG:(rw:Rw)→(rw.map (·.2.1)).Nodup→ ∀{i s:Nat}{u:T},(i,s,u)∈rw→rwI rw s=iF i
 | [],_,_,_,_,h=>by simp at h
 |(i0,s0,u0)::rw,hn,i,s,u,h=>by
  simp only[Jr,Kv,Jl]at hn;rcases J7.1 h with h|h
  ·simp at h;obtain⟨rfl,rfl,rfl⟩:=h;simp[rwI]
  ·have gg:s0≠s:=by grind
   have:=zCG rw hn.2 h
   grind[rwI]
theorem zLV:(rw:Rw)→(rw.map (·.1)).Nodup→ ∀{i s:Nat}{u:T},(i,s,u)∈rw→rwS rw i=iF s
 | [],_,_,_,_,h=>by simp at h
 |(i0,s0,u0)::rw,hn,i,s,u,h=>by
  simp only[Jr,Kv,Jl]at hn;rcases J7.1 h with h|h
  ·simp at h;obtain⟨rfl,rfl,rfl⟩:=h;simp[rwS]
  ·have gg:i0≠i:=by grind
   have:=zLV rw hn.2 h
   grind[rwS]
theorem zLW(h:s∉rw.map (·.2.1)):rwI rw s=iG:=by
 simp only[rwI,Option.map_eq_none_iff,List.find?_eq_none]
 grind
theorem zSP(h:∀x∈rw,x.1≠i):rwS rw i=iG:=by grind[rwS]
theorem zPK(h:rwI rw s=iF i):s∈rw.map (·.2.1):=by grind[rwI,Ko]
abbrev Nd:=List (Nat×List Nat×T)
def zSQ(nd:Nd)(k s:Nat):Option (Nat×List Nat):=
 match nd with
 | []=>iG
 |x::r=>if x.1=s then iF (k,x.2.1)else zSQ r (k+1) s
def ndB(d:Nat)(nd:Nd)(s:Nat)(z:List Nat):Option (Nat×List Nat):=
 match nd with
 | [x]=>if x.1=s∧x.2.1<:+z then iF (d,z.take (z.length-x.2.1.length))else iG
 |nd=>match zSQ nd 0 s with
  |some (k,q)=>if q<:+z then iF (d,z.take (z.length-q.length)++[k])else iG
  |none=>iG
theorem zJ4:(nd:Nd)→(nd.map (·.1)).Nodup→ ∀{k k0:Nat}{x:Nat×List Nat×T},nd[k]? =iF x→zSQ nd k0 x.1=iF (k0+k,x.2.1)
 | [],_,_,_,_,h=>by simp at h
 |y::nd,hn,k,k0,x,h=>by
  simp only[Jr,Kv,Jl]at hn;cases k with
  |zero=>grind[zSQ]
  |succ k=>
   simp only[Jcc]at h;have gg:y.1≠x.1:=by grind
   simp only[zSQ,gg,if_false];rw[zJ4 nd hn.2 h]
   grind
def zSR(G:Gh)(nd:Nd)(z:List Nat):Value:=
 match nd with
 | [x]=>G.hd x.1 (z++x.2.1)
 |nd=>match z.getLast? with
  |some k=>(match nd[k]? with
   |some x=>G.hd x.1 (z.dropLast++x.2.1)
   |none=>.bool iI)
  |none=>.bool iI
def zWJ(G:Gh)(nd:Nd)(z:List Nat):Addr:=
 match nd with
 | [x]=>G.ad x.1 (z++x.2.1)
 |nd=>match z.getLast? with
  |some k=>(match nd[k]? with
   |some x=>G.ad x.1 (z.dropLast++x.2.1)
   |none=>default)
  |none=>default
def Gh.arg(G:Gh)(a:Act)(xs:List Operand)(rw:Rw):Gh where
 hd i z:=match xs[i]? with
  |some (.tmp s)=>G.hd s z
  |some x=>kK (a.eval x)
  |none=>.bool iI
 ad i z:=match xs[i]? with
  |some (.tmp s)=>G.ad s z
  |_=>default
 lb b o:=match G.lb b o with
  |some (f,s,z)=>(match rwI rw s,G.ow b with
   |some i,iF (s',_)=>if s'=s then iF (f,i,z)else iG
   |_,_=>iG)
  |none=>iG
 ow b:=match G.ow b with
  |some (s,z)=>(match rwI rw s with
   |some i=>iF (i,z)
   |none=>iG)
  |none=>iG
def zAT(G:Gh)(rw:Rw)(b:Nat):Prop:=∃s z,G.ow b=iF (s,z)∧s∈rw.map (·.2.1)
def zDQ(d:Nat)(rw:Rw)(nd:Nd)(s:Nat)(z:List Nat):Option (Nat×List Nat):=
 match rwS rw s with
 |some s'=>iF (s',z)
 |none=>ndB d nd s z
open Classical in
noncomputable def Gh.back (G G':Gh) (n0 d:Nat) (rw:Rw) (nd:Nd):Gh where
 hd s z:=if s=d then zSR G' nd z else match rwI rw s with
  |some i=>G'.hd i z
  |none=>G.hd s z
 ad s z:=if s=d then zWJ G' nd z else match rwI rw s with
  |some i=>if z=[]then G.ad s z else G'.ad i z
  |none=>G.ad s z
 lb b o:=if zAT G rw b∨n0≤b then(match G'.lb b o with
  |some (f,s,z)=>(match zDQ d rw nd s z with
   |some (s',z')=>iF (f,s',z')
   |none=>iG)
  |none=>iG)else G.lb b o
 ow b:=if zAT G rw b∨n0≤b then(match G'.ow b with
  |some (s,z)=>zDQ d rw nd s z
  |none=>iG)else G.ow b
def zOd(res:List T):T:=match res with
 | [u]=>u
 |us=>.tup us
def cWr(d:Nat)(res:List T)(rw:Rw):Wr:=(d,iF (zOd res))::rw.map fun x=>(x.2.1,iF x.2.2)
def cLv(t:T):Nat:=if t.single then 1 else 0
def uJ(d:Nat)(rw:Rw):Chg:=(d,0)::rw.map fun x=>(x.2.1,cLv x.2.2)
theorem zH5{x:Nat×Nat×T}(h:x∈rw):(x.2.1,cLv x.2.2)∈uJ d rw:=Ja5 _ (by grind)
theorem zPL{Gn G':Gh}{d:Nat}:(nd:Nd)→ ∀(j:Nat),(∀k x,nd[k]? =iF x→ ∀z,Gn.hd d (z++[j+k])=G'.hd x.1 (z++x.2.1))→zAd Gn d (nd.map (·.2.2)) [] j=nd.map fun x=>sU G' x.1 x.2.2 x.2.1
 | [],_,_=>by simp[zAd]
 |x::nd,j,h=>by
  have ih:=zPL (Gn:=Gn) (G':=G') (d:=d) nd (j+1) (fun k y hy z=>by rw[show j+1+k=j+(k+1)from by omega];exact h (k+1) y (by grind) z)
  simp only[Jr,zAd,ih];rw[zBQ x.2.2 x.2.1 [j] (by simpa using h 0 x (by simp))]
theorem zSS{res:List T}{x:Option T}(h:(cWr d res rw).find s=iF x):(s=d∧x=iF (zOd res))∨(s≠d∧ ∃i u,(i,s,u)∈rw∧x=iF u):=by
 simp only[cWr,Wr.find]at h;split at h
 ·grind
 ·rename_i gg
  refine .inr ⟨fun e=>gg e.symm,?_⟩
  clear gg
  induction rw with
  |nil=>grind[Wr.find]
  |cons y rw ih=>
   grind[Wr.find]
theorem zST{res:List T}(h:(cWr d res rw).find s=iG):s≠d∧s∉rw.map (·.2.1):=by
 simp only[cWr,Wr.find]at h;split at h
 ·cases h
 ·rename_i gg
  refine⟨fun e=>gg e.symm,?_⟩
  clear gg
  induction rw with
  |nil=>simp
  |cons y rw ih=>
   simp only[Jr,Wr.find]at h
   grind
def aft(S Sc S':Stb):Stb:=fun b=>match Sc b with
 |none=>S' b
 |some _=>S b
theorem Rep.up{tmps':Array Value}{w:World}{G':Gh}{S:Stb}(h:Rep Γ E G tmps w)(hS:∀b x,Γ.St b=iF x→S b=iF x)
  (gP:tmps'.size=tmps.size)(hk:jF chg G w G' w')(gp:Mem (Γ.at S) G' w')
  (gG:∀s,wr.find s=iG→(∀n,(s,n)∉chg)∧tmps'[s]? =tmps[s]?)
  (eJ:∀s t,wr.find s=iF (iF t)→Ent (Γ.at S) G' w' tmps'[s]? s t):Rep (Γ.at S) (E.app wr chg) G' tmps' w' where
 size:=by rw[gP];exact h.size
 mem:=gp
 ent s t hs:=by
  unfold Env.app at hs;cases hf:wr.find s with
  |some x=>
   grind
  |none=>
   rw[hf]at hs;simp at hs;cases he:E s with
   |none=>grind
   |some u=>
    simp[he]at hs;obtain⟨gB,rfl⟩:=hs;rw[(gG s hf).2];obtain⟨e1,e2,e3⟩:=Ent.keep hk (gG s hf).1 gB (h.ent s u he);exact⟨e1,zK6 hS u [] e2,e3⟩
section
variable {P:Program}{Γ:Ctx}{E:Env}{d:Nat}
theorem zH6{w:World}(g9:Rep Γ E G a.tmps w)(hd:d<Γ.N){Sc:Stb}(hS1:∀b x,Sc b=iF x→w.heap[b]? =iF x∧ ¬zAT G rw b)(hS0:∀b x,Γ.St b=iF x→Sc b=iF x){f:FuncId}{res:List T}
  (hc:FnC P f us res (rw.map fun x=>(x.1,x.2.2))){xs:List Operand}(gj:xs.length=us.length)
  (gc:∀(i:Nat) u,us[i]? =iF u→(∃x,xs[i]? =iF x∧a.eval x=mkV (G.arg a xs rw) i u []∧R Sc (G.arg a xs rw) w i u []))
  (hn1:(d::rw.map (·.2.1)).Nodup)(b8:(rw.map (·.1)).Nodup)(fJ:∀x∈rw,xs[x.1]? =iF (.tmp x.2.1))
  (gk:∀u∈res,yE u∧u.okTup=iH∧ ∀(S':Stb)(G:Gh)(w:World)(s:Nat)(p:List Nat),(∀b x,Sc b=iF x→S' b=iF x)→R S' G w s u p→R (aft Γ.St Sc S') G w s u p)
  (a8:∀x∈rw,yE x.2.2∧(∀(S':Stb)(G:Gh)(w:World)(s:Nat)(p:List Nat),(∀b x,Sc b=iF x→S' b=iF x)→R S' G w s x.2.2 p→R (aft Γ.St Sc S') G w s x.2.2 p)∧ ∃u,E x.2.1=iF u∧x.2.2.single=u.single∧us[x.1]? =iF u):
  Calls P f (xs.map a.eval).toArray w fun e w'=> ∃v,e=.returned v∧ ∃S G',zDD Γ.St S Γ.W Γ.w0.heap.size∧jF (uJ d rw) G w G' w'∧Rep (Γ.at S) (E.app (cWr d res rw) (uJ d rw)) G' (a.tmps.setIfInBounds d v) w':=by
 have hm:=g9.mem;have mA:=Kv.1 hn1;have hmc:Mem ⟨Sc,zAT G rw,w,0⟩ (G.arg a xs rw) w:=by
  have gF:∀b,zAT G rw b→Sc b=iG:=fun b h=>by
   cases hs:Sc b with
   |none=>rfl
   |some x=>exact absurd h (hS1 b x hs).2
  refine⟨fun i z=>?_,fun b o l hl=>?_,fun b l hl=>?_,fun b x hx=>(hS1 b x hx).1,fun b _ _=>rfl,Jh _,⟨fun b cs e h=>⟨cs,h,rfl⟩,rfl,rfl⟩⟩
  ·simp only[Gh.arg]
   split
   ·exact hm.one _ _
   ·exact zBz _
   ·rfl
  ·simp only[Gh.arg]at hl
   split at hl
   ·rename_i f' s z hg
    split at hl
    ·rename_i i s' y hi ho
     split at hl
     ·rename_i he;subst he
      have hL:zAT G rw b:=⟨s',y,ho,zPK hi⟩;exact⟨(hm.lb b o _ hg).1,.inr hL,gF b hL⟩
     ·cases hl
    ·cases hl
   ·cases hl
  ·simp only[Gh.arg]at hl
   split at hl
   ·rename_i s z hg
    split at hl
    ·rename_i i hi
     have hL:zAT G rw b:=⟨s,z,hg,zPK hi⟩;exact⟨(hm.ow b _ hg).1,.inr hL,gF b hL⟩
    ·cases hl
   ·cases hl
 have gr:=hc Sc (zAT G rw) w (G.arg a xs rw) (xs.map a.eval).toArray (by simp[gj]) (fun i u hu=>by obtain⟨x,h1,h2,h3⟩:=gc i u hu;exact⟨by simp[h1,h2],h3⟩) hmc
 refine gr.mono ?_
 rintro e w' ⟨S',G',nd,gZ,rfl,gD,cI,cJ,m8,a7⟩
 have fM:∀b x,Γ.St b=iF x→aft Γ.St Sc S' b=iF x:=fun b x hx=>by simp only[aft,hS0 b x hx,hx]
 have aE:zDD Γ.St (aft Γ.St Sc S') Γ.W Γ.w0.heap.size:=⟨fM,fun b hb f9=>by
  simp only[aft]at f9;split at f9
  ·rename_i hs
   rcases gZ.nw b hs f9 with h|⟨s,z,h,_⟩
   ·exact .inl (by have:=hm.sz;omega)
   ·exact(hm.ow b _ h).2.1
  ·exact absurd hb f9⟩
 refine⟨_,rfl,aft Γ.St Sc S',G.back G' w.heap.size d rw nd,aE,?_⟩;have bm:∀b,b<w.heap.size→ ¬zAT G rw b→w'.heap[b]? =w.heap[b]?:=gD.fr;have gz:w.heap.size≤w'.heap.size:=gD.sz;have gJ:Blk w w':=gD.bk.blk
 generalize hGn:G.back G' w.heap.size d rw nd=Gn
 have ghdd:∀z,Gn.hd d z=zSR G' nd z:=fun z=>by rw[←hGn];simp[Gh.back]
 have gadd:∀z,Gn.ad d z=zWJ G' nd z:=fun z=>by rw[←hGn];simp[Gh.back]
 have ghd0:∀s z,s≠d→s∉rw.map (·.2.1)→Gn.hd s z=G.hd s z:=fun s z h1 h2=>by rw[←hGn];simp[Gh.back,h1,zLW h2]
 have gad0:∀s z,s≠d→s∉rw.map (·.2.1)→Gn.ad s z=G.ad s z:=fun s z h1 h2=>by rw[←hGn];simp[Gh.back,h1,zLW h2]
 have cO:∀i s u,(i,s,u)∈rw→s≠d:=fun i s u h e=>mA.1 (e▸Jl.2 ⟨_,h,rfl⟩)
 have ghdr:∀i s u z,(i,s,u)∈rw→Gn.hd s z=G'.hd i z:=fun i s u z h=>by rw[←hGn];simp[Gh.back,cO i s u h,zCG rw mA.2 h]
 have gadr:∀i s u z,(i,s,u)∈rw→z≠[]→Gn.ad s z=G'.ad i z:=fun i s u z h h0=>by rw[←hGn];simp[Gh.back,cO i s u h,zCG rw mA.2 h,h0]
 have gadr0:∀i s u,(i,s,u)∈rw→Gn.ad s []=G.ad s []:=fun i s u h=>by rw[←hGn];simp[Gh.back,cO i s u h,zCG rw mA.2 h]
 have glb0:∀b o l,¬zAT G rw b→G.lb b o=iF l→Gn.lb b o=iF l:=fun b o l h1 h2=>by have:=(hm.lb b o _ h2).1;rw[←hGn];simp only[Gh.back];rw[if_neg (by rintro(h|h);exact h1 h;omega)];exact h2
 have gow0:∀b l,¬zAT G rw b→G.ow b=iF l→Gn.ow b=iF l:=fun b l h1 h2=>by have:=(hm.ow b _ h2).1;rw[←hGn];simp only[Gh.back];rw[if_neg (by rintro(h|h);exact h1 h;omega)];exact h2
 have gO:∀b o l,G'.lb b o=iF l→zAT G rw b∨w.heap.size≤b:=fun b o l h=>(gD.lb b o l h).2.1.symm
 have bh:∀b l,G'.ow b=iF l→zAT G rw b∨w.heap.size≤b:=fun b l h=>(gD.ow b l h).2.1.symm
 have glb1:∀b o fl s z s' z',G'.lb b o=iF (fl,s,z)→zDQ d rw nd s z=iF (s',z')→Gn.lb b o=iF (fl,s',z'):=fun b o fl s z s' z' h1 h2=>by rw[←hGn];simp only[Gh.back];rw[if_pos (gO b o _ h1),h1];simp[h2]
 have gow1:∀b s z l,G'.ow b=iF (s,z)→zDQ d rw nd s z=iF l→Gn.ow b=iF l:=fun b s z l h1 h2=>by rw[←hGn];simp only[Gh.back];rw[if_pos (bh b _ h1),h1];simp[h2]
 have dh:∀i s u z,(i,s,u)∈rw→zDQ d rw nd i z=iF (s,z):=fun i s u z h=>by simp[zDQ,zLV rw b8 h]
 have gH:∀x∈rw,x.1<us.length:=fun x hx=>by have:=(Jv.1 (fJ x hx)).1;omega
 have hbn:∀x∈nd,∀z,zDQ d rw nd x.1 z=ndB d nd x.1 z:=fun x hx z=>by have h1:=(cJ x hx).2;have h2:rwS rw x.1=iG:=zSP (fun y hy e=>by have:=gH y hy;omega);simp[zDQ,h2]
 have mL:∀(k:Nat) x,nd[k]? =iF x→ ∃tgt,(nd.length=1→tgt=[])∧(nd.length≠1→tgt=[k])∧(∀z,Gn.hd d (z++tgt)=G'.hd x.1 (z++x.2.1))∧(∀z,Gn.ad d (z++tgt)=G'.ad x.1 (z++x.2.1))∧ ∀z,zDQ d rw nd x.1 (z++x.2.1)=iF (d,z++tgt):=by
  intro k x hk;have bI:=Hv hk
  match nd,hk,m8,hbn x bI,ghdd,gadd with
  | [y],hk,m8,hb,ghdd,gadd=>
   have hkx:y=x:=by
    cases k with
    |zero=>simpa using hk
    |succ k=>simp at hk
   subst hkx;exact⟨[],fun _=>rfl,fun h=>absurd rfl h,fun z=>by rw[ghdd];simp[zSR],fun z=>by rw[gadd];simp[zWJ],fun z=>by rw[hb];simp[ndB]⟩
  | [],hk,_,_,_,_=>simp at hk
  |y1::y2::r,hk,m8,hb,ghdd,gadd=>
   refine⟨[k],fun h=>by simp at h,fun _=>rfl,fun z=>by rw[ghdd];simp only[zSR,Ja8,Jaa];simp[hk],fun z=>by rw[gadd];simp only[zWJ,Ja8,Jaa];simp[hk],fun z=>?_⟩;rw[hb];have:=zJ4 (y1::y2::r) m8 (k0:=0) hk;rw[Ja]at this;simp only[ndB,this];simp
 have mo:∀(k:Nat) x,nd[k]? =iF x→ ∀tgt,(∀z,Gn.hd d (z++tgt)=G'.hd x.1 (z++x.2.1))→(∀z,Gn.ad d (z++tgt)=G'.ad x.1 (z++x.2.1))→(∀z,zDQ d rw nd x.1 (z++x.2.1)=iF (d,z++tgt))→R (aft Γ.St Sc S') Gn w' d x.2.2 tgt:=by intro k x hk tgt h1 h2 h3;have bI:=Hv hk;obtain⟨c1,c2,c3⟩:=gk x.2.2 (by rw[←cI];exact Jl.2 ⟨x,bI,rfl⟩);refine zAy (G:=G') (w:=w') (s:=x.1) (p:=x.2.1) ⟨⟨h1,fun z _=>h2 z,fun b o f' z _ _ hl=>⟨glb1 b o f' _ _ _ _ hl (h3 z),rfl⟩,fun b z _ hl=>gow1 b _ _ _ hl (h3 z),fun b cs e h=>⟨cs,h,rfl⟩⟩,fun b o _ hl=>⟨glb1 b o iH _ _ _ _ hl (by simpa using h3 []),rfl⟩,fun b hl=>gow1 b _ _ _ hl (by simpa using h3 [])⟩ _ (xG.mono (fun _ _=>False.elim) _ c1) (c3 _ _ _ _ _ gZ.le (cJ x bI).1)
 have gy:jF (uJ d rw) G w Gn w':=by
  have gE:∀s,(∀n,(s,n)∉uJ d rw)→s≠d∧s∉rw.map (·.2.1):=fun s h=>⟨fun e=>h 0 (by simp[uJ,e]),fun hm=>by obtain⟨x,hx,rfl⟩:=Jl.1 hm;exact h _ (zH5 hx)⟩
  have pB:∀b s y,G.ow b=iF (s,y)→s∉rw.map (·.2.1)→ ¬zAT G rw b:=by
   rintro b s y h1 h2 ⟨s',z',h3,h4⟩
   rw[h1]at h3;simp at h3;exact h2 (h3.1▸h4)
  refine⟨fun s p h=>?_,fun s p h=>?_,fun b o fl s p e6 h1 h2=>?_,fun b s p h1 h2=>?_,gJ⟩
  ·have h1:s≠d:=fun e=>absurd (h 0 (by simp[uJ,e])) (by simp)
   by_cases h2:s∈rw.map (·.2.1)
   ·
    obtain⟨x,hx,rfl⟩:=Jl.1 h2;have hc:=h _ (zH5 hx);have c2:x.2.2.single=iH:=by
     cases fH:x.2.2.single with
     |true=>rfl
     |false=>simp[cLv,fH]at hc
    have h3:p=[]:=Ly (by simp only[cLv,c2,if_true]at hc;omega);subst h3;obtain⟨_,_,u,c4,c5,c6⟩:=a8 x hx;rw[c2]at c5;have c5:=c5.symm;obtain⟨_,u0,e1,e2⟩:=a7 x.1 x.2.2 (Jl.2 ⟨x,hx,rfl⟩);rw[c6]at e1;simp at e1;subst e1;rw[xU c2,xU c5]at e2;rw[ghdr x.1 x.2.1 x.2.2 [] hx,e2];simp[Gh.arg,fJ x hx]
   ·exact ghd0 s p h1 h2
  ·have h1:s≠d:=fun e=>absurd (h 0 (by simp[uJ,e])) (by simp)
   by_cases h2:s∈rw.map (·.2.1)
   ·obtain⟨x,hx,rfl⟩:=Jl.1 h2
    have hc:=h _ (zH5 hx);have h3:p=[]:=Ly (by have:cLv x.2.2≤1:=(by unfold cLv;split<;>omega);omega);subst h3;exact gadr0 x.1 x.2.1 x.2.2 hx
   ·exact gad0 s p h1 h2
  ·obtain⟨h3,h4⟩:=gE s h2
   obtain⟨y,hy⟩:=e6;have h5:=pB b s y hy h4;exact⟨glb0 b o _ h5 h1,by simp[yU,World.cell?,bm b (hm.lb b o _ h1).1 h5]⟩
  ·obtain⟨h3,h4⟩:=gE s h2
   exact gow0 b _ (pB b s p h1 h4) h1
 have gp:Mem (Γ.at (aft Γ.St Sc S')) Gn w':=by
  have gB:∀b,b<w'.heap.size∧(w.heap.size≤b∨zAT G rw b)∧S' b=iG→zC7 (Γ.at (aft Γ.St Sc S')) w' b:=fun b ⟨hb,h,gN⟩=>by
   have bM:Sc b=iG:=by
    cases hs:Sc b with
    |none=>rfl
    |some x=>rw[gZ.le b x hs]at gN;cases gN
   refine⟨hb,?_,by simp only[aft,bM];exact gN⟩;rcases h with h|⟨s,z,h1,_⟩
   ·exact .inl (by have:=hm.sz;show Γ.w0.heap.size≤b;omega)
   ·exact(hm.ow b _ h1).2.1
  have gG:∀b,¬(zAT G rw b∨w.heap.size≤b)→zC7 Γ w b→zC7 (Γ.at (aft Γ.St Sc S')) w' b:=fun b h ⟨h1,h2,h3⟩=>by
   refine⟨by omega,h2,?_⟩;simp only[aft];split
   ·rename_i hs
    cases gN:S' b with
    |none=>rfl
    |some x=>
     rcases gZ.nw b hs (by rw[gN];simp)with h4|h4
     ·exact absurd (.inr h4) h
     ·exact absurd (.inl h4) h
   ·exact h3
  refine⟨fun s z=>?_,fun b o l hl=>?_,fun b l hl=>?_,fun b x hx=>?_,fun b(h1:b<Γ.w0.heap.size) h2=>?_,H2 hm.sz gz,hm.bk.trans gJ gD.bk.os gD.bk.out⟩
  ·by_cases h1:s=d
   ·subst h1
    rw[ghdd];unfold zSR;split
    ·exact gD.one _ _
    ·split
     ·split
      ·exact gD.one _ _
      ·rfl
     ·rfl
   ·by_cases h2:s∈rw.map (·.2.1)
    ·obtain⟨x,hx,rfl⟩:=Jl.1 h2
     rw[ghdr x.1 x.2.1 x.2.2 z hx];exact gD.one _ _
    ·rw[ghd0 s z h1 h2];exact hm.one _ _
  ·rw[←hGn]at hl
   simp only[Gh.back]at hl;split at hl
   ·rename_i mf
    split at hl
    ·rename_i hg
     exact gB b (gD.lb b o _ hg)
    ·cases hl
   ·rename_i mf
    exact gG b mf (hm.lb b o l hl)
  ·rw[←hGn]at hl
   simp only[Gh.back]at hl;split at hl
   ·rename_i mf
    split at hl
    ·rename_i hg
     exact gB b (gD.ow b _ hg)
    ·cases hl
   ·rename_i mf
    exact gG b mf (hm.ow b l hl)
  ·simp only[aft]at hx
   split at hx
   ·exact gD.st b x hx
   have h1:=hm.st b x hx;have h2:=(Ga.1 h1).1;have h3:¬zAT G rw b:=by
    rintro⟨s,z,h4,_⟩
    rw[(hm.ow b _ h4).2.2]at hx;cases hx
   rw[bm b h2 h3];exact h1
  ·have h3:¬zAT G rw b:=by
    rintro⟨s,z,h4,_⟩
    rcases(hm.ow b _ h4).2.1 with h5|h5
    ·omega
    ·exact h2 h5
   rw[bm b (by have:=hm.sz;omega) h3];exact hm.fr b h1 h2
 have ut:nd.length=res.length:=by rw[←cI];simp
 refine⟨gy,g9.up fM (by simp) gy gp ?_ ?_⟩
 ·intro s hs
  obtain⟨h1,h2⟩:=zST hs;refine⟨fun n hn=>?_,by rw[Jp];simp[Ne.symm h1]⟩;simp only[uJ,J7,Jba.injEq,Jl]at hn;rcases hn with⟨e,_⟩|⟨x,hx,e,_⟩
  ·exact h1 e
  ·exact h2 (Jl.2 ⟨x,hx,e⟩)
 ·intro s t hs
  rcases zSS hs with⟨rfl,ht⟩|⟨gg,i,u,cP,ht⟩
  ·simp at ht
   subst ht;rw[Jp];simp only[g9.size,hd,if_true];have ph:res=nd.map (·.2.2):=cI.symm
   by_cases hl:nd.length=1
   ·obtain⟨x,hx⟩:∃x,nd=[x]:=List.length_eq_one_iff.1 hl
    obtain⟨tgt,t1,_,t3,t4,t5⟩:=mL 0 x (by simp[hx]);obtain rfl:=t1 hl;have hr:=mo 0 x (by simp[hx]) [] t3 t4 t5;obtain⟨c1,c2,_⟩:=gk x.2.2 (by rw[ph,hx];simp);have f8:zOd res=x.2.2:=by rw[ph,hx];rfl
    have eg:∀ys,x.2.2≠.tup ys:=fun ys e=>by rw[e]at c2;simp[T.okTup]at c2
    rw[f8];refine⟨?_,hr,Top.of_clean _ c1⟩;rw[zAe Gn s _ [] eg,zBQ x.2.2 x.2.1 [] t3,hx];rfl
   ·have f8:zOd res=.tup res:=by
     rw[ut]at hl
     match res,hl with
     | [],_=>rfl
     | [u],hl=>simp at hl
     |_::_::_,_=>rfl
    rw[f8];have gI:∀k x,nd[k]? =iF x→ ∀z,Gn.hd s (z++[0+k])=G'.hd x.1 (z++x.2.1):=fun k x hk z=>by obtain⟨tgt,_,t2,t3,_,_⟩:=mL k x hk;rw[t2 hl]at t3;rw[Ja];exact t3 z
    refine⟨?_,?_,?_⟩
    ·have hv:=zPL (Gn:=Gn) (G':=G') (d:=s) nd 0 gI
     rw[cI]at hv;simp only[mkV,hv];unfold zLR;split
     ·simp at hl
     ·rfl
    ·simp only[R]
     rw[ph];refine zPA _ [] 0 (fun k u hu=>?_);rw[K3]at hu;cases hk:nd[k]? with
     |none=>simp[hk]at hu
     |some x=>
      simp[hk]at hu;subst hu;obtain⟨tgt,_,t2,t3,t4,t5⟩:=mL k x hk;rw[t2 hl]at t3 t4 t5;rw[Ja];exact mo k x hk [k] t3 t4 t5
    ·simp only[Top]
     refine uA.of_clean _ ?_;have:∀us:List T,(∀u∈us,yE u)→xT us:=by
      intro us
      induction us with
      |nil=>intro _;trivial
      |cons u us ih=>intro h;exact⟨h u (by simp),ih fun v hv=>h v (by simp[hv])⟩
     exact this res fun u hu=>(gk u hu).1
  ·simp at ht
   subst ht;obtain⟨c1,c3,u0,c4,_,c6⟩:=a8 _ cP;obtain⟨r1,u1,e1,e2⟩:=a7 i t (Jl.2 ⟨_,cP,rfl⟩);simp only at c4 c6;rw[c6]at e1;simp at e1;subst e1;refine⟨?_,?_,Top.of_clean _ c1⟩
   ·rw[Jp]
    simp only[Ne.symm gg,if_false];have aW:=fJ _ cP;simp only at aW;have m1:mkV Gn s t []=mkV G' i t []:=zFC t [] [] (fun z=>by rw[Jf];exact ghdr i s t z cP);have m2:mkV (G.arg a xs rw) i u0 []=mkV G s u0 []:=zFC u0 [] [] (fun z=>by simp[Gh.arg,aW]);rw[(g9.ent s u0 c4).1,m1,e2,m2]
   ·refine zAy (G:=G') (w:=w') (s:=i) (p:=[]) ⟨⟨fun z=>by rw[Jf];exact ghdr i s t z cP,fun z hz=>by rw[Jf];exact gadr i s t z cP hz,fun b o f' z _ _ hl=>?_,fun b z _ hl=>?_,fun b cs e h=>⟨cs,h,rfl⟩⟩,fun b o _ hl=>⟨glb1 b o iH _ _ _ _ hl (dh i s t [] cP),rfl⟩,fun b hl=>gow1 b _ _ _ hl (dh i s t [] cP)⟩ t (xG.mono (fun _ _=>False.elim) _ c1) (c3 _ _ _ _ _ gZ.le r1)
    ·rw[Jf]at hl ⊢;exact⟨glb1 b o f' _ _ _ _ hl (dh i s t z cP),rfl⟩
    ·rw[Jf]at hl ⊢;exact gow1 b _ _ _ hl (dh i s t z cP)
end
def zJ5(E:Env)(rs:List Nat)(x:Operand)(t:T):Bool:=
 match x with
 |.tmp s=>qO E rs s t
 |_=>iH
def zCy(E:Env)(rw:Rw)(i:Nat)(x:Operand)(u:T):Prop:=
 (∃s u',x=.tmp s∧(i,s,u')∈rw∧E s=iF u∧yE u∧u.okTup=iH∧vF u=iH)∨(∃t,opT E x=iF t∧clo E t=u∧zJ5 E (rw.map (·.2.1)) x t=iH)
def wB(E:Env)(rw:Rw):Nat→List Operand→List T→Prop
 |_,[],[]=>True
 |i,x::xs,u::us=>zCy E rw i x u∧wB E rw (i+1) xs us
 |_,_,_=>False
theorem wB.length{E:Env}{rw:Rw}:(xs:List Operand)→(us:List T)→ ∀i,wB E rw i xs us→xs.length=us.length
 | [],[],_,_=>rfl
 |_::xs,_::us,i,h=>by simp[wB.length xs us (i+1) h.2]
 | [],_::_,_,h=>by simp[wB]at h
 |_::_,[],_,h=>by simp[wB]at h
theorem wB.get{E:Env}{rw:Rw}:(xs:List Operand)→(us:List T)→ ∀i,wB E rw i xs us→ ∀(j:Nat) u,us[j]? =iF u→ ∃x,xs[j]? =iF x∧zCy E rw (i+j) x u
 | [],[],_,_,_,_,h=>by simp at h
 |x::xs,v::us,i,h,j,u,hj=>by
  cases j with
  |zero=>simp at hj;subst hj;exact⟨x,by simp,h.1⟩
  |succ j=>
   obtain⟨y,h1,h2⟩:=wB.get xs us (i+1) h.2 j u (by simpa using hj);exact⟨y,by simpa using h1,by rwa [show i+(j+1)=i+1+j from by omega]⟩
 | [],_::_,_,h,_,_,_=>by simp[wB]at h
 |_::_,[],_,h,_,_,_=>by grind
structure zH7 (E:Env) (d:Nat) (xs:List Operand) (us:List T) (rw:Rw):Prop where
 nodup:(d::rw.map (·.2.1)).Nodup
 nodup2:(rw.map (·.1)).Nodup
 at_:∀x∈rw,xs[x.1]? =iF (.tmp x.2.1)
 tree:∀x∈rw,yE x.2.2∧vF x.2.2=iH∧ ∃u,E x.2.1=iF u∧x.2.2.single=u.single∧us[x.1]? =iF u
theorem zH7.nil{xs:List Operand}:zH7 E d xs us []:=⟨by simp,by simp,by simp,by simp⟩
theorem zH7.one{xs:List Operand}(h1:d≠s)(h2:xs[i]? =iF (.tmp s))(h3:yE u')(h4:u'.single=iH)(h5:vF u'=iH)(h6:E s=iF u)(h7:u.single=iH)(h8:us[i]? =iF u):
  zH7 E d xs us [(i,s,u')]:=⟨by grind,by simp,by grind,by grind⟩
theorem zH7.one'{xs:List Operand}(h1:d≠s)(h2:xs[i]? =iF (.tmp s))(h3:yE u')(h4:u'.single=u.single)(h5:vF u'=iH)(h6:E s=iF u)(h8:us[i]? =iF u):
  zH7 E d xs us [(i,s,u')]:=⟨by grind,by simp,by grind,by grind⟩
section
variable {P:Program}{Γ:Ctx}{E:Env}{o:Oper}{d:Nat}
theorem zWK{w:World}(g9:Rep Γ E G a.tmps w){xs:List Operand}(hr:zH7 E d xs us rw){Sc:Stb}(eK:∀b x,Γ.St b=iF x→Sc b=iF x)
  (eG:∀r,r∉rw.map (·.2.1)→ ∀b,(∃y,G.ow b=iF (r,y))→Sc b=w.heap[b]?){x:Operand}(hx:xs[i]? =iF x)(hu:us[i]? =iF u)(h:zCy E rw i x u):
  a.eval x=mkV (G.arg a xs rw) i u []∧R Sc (G.arg a xs rw) w i u []:=by
 rcases h with⟨s,u',rfl,h1,h2,h3,h4,h5⟩|⟨t,h1,rfl,h3⟩
 ·obtain⟨e1,e2,_⟩:=g9.ent s u h2
  have gI:∀z,(G.arg a xs rw).hd i z=G.hd s z:=by grind[Gh.arg]
  have fa:∀z,(G.arg a xs rw).ad i z=G.ad s z:=by grind[Gh.arg]
  have hi:=zCG rw (Kv.1 hr.nodup).2 h1;refine⟨by grind[wK,zFC],?_⟩;refine zRj u [] h5 (zAy (St:=Γ.St) (G:=G) (w:=w) (s:=s) (p:=[]) ⟨⟨by grind,by grind,fun b o' f' z _ e6 hl=>?_,fun b z _ hl=>?_,fun b cs e h=>⟨cs,h,rfl⟩⟩,fun b o' e6 hl=>?_,fun b hl=>?_⟩ u (by grind[xG.mono]) e2)
  ·obtain⟨y,hy⟩:=e6
   exact⟨by grind[Gh.arg],rfl⟩
  ·grind[Gh.arg]
  ·obtain⟨y,hy⟩:=e6
   exact⟨by grind[Gh.arg],rfl⟩
  grind[Gh.arg]
 ·cases x with
  |tmp s=>
   have gI:∀z,(G.arg a xs rw).hd i z=G.hd s z:=by grind[Gh.arg]
   obtain⟨e1,e2,_⟩:=g9.ent s t h1
   grind[zJ5,wK,zK7,zYu]
  |const v=>
   simp only[opT]at h1;split at h1
   ·rename_i gx
    simp at h1;subst h1;have gI:(G.arg a xs rw).hd i []=v:=by grind[Gh.arg,Act.eval,zA0]
    exact⟨by grind[clo,mkV,Act.eval],by simp[clo,R,gI]⟩
   ·cases h1
  |func f=>
   simp only[opT]at h1;simp at h1;subst h1;have gI:(G.arg a xs rw).hd i []=.func (.func f) #[] #[]:=by grind[Gh.arg,Act.eval,kK,Value.oneCell']
   exact⟨by grind[clo,mkV,Act.eval],by simp[clo,R,gI]⟩
  |global g=>grind[opT]
theorem zDw{E:Env}:(t:T)→t.flat=iH→(∀rs s,qO E rs s t=iH)∧clo E t=t
 |.lit _,_|.ro _,_=>by simp[qO,clo]
 |.agg ts,h=>by
  simp only[T.flat]at h;have:=go ts h
  grind[qO,clo]
 |.any,h|.same _ _,h|.addr _ _,h|.sub _ _ _ _ _,h|.sl _ _,h|.ptr _,h|.tup _,h=>by grind[T.flat]
where go:(ts:List T)→zAI ts=iH→(∀rs s,zAJ E rs s ts=iH)∧zBV E ts=ts
 | [],_=>by simp[zAJ,zBV]
 |x::xs,h=>by simp only[zAI,J2]at h;simp only[zAJ,zBV,J2];exact⟨fun rs s=>⟨(zDw x h.1).1 rs s,(go xs h.2).1 rs s⟩,by rw[(zDw x h.1).2,(go xs h.2).2]⟩
theorem zCH{w:World}{K:Act→World→Prop}{Q:Exit→Act→World→Prop}{f:FuncId}{xf:Operand}{xs:List Operand}(ho:o.op=.call { callee:=.value xf,args:=xs.toArray,argTypes:=ats })(gf:o.dst=iF d)
  (gr:∀args w,(callFunc f args).run P w=.ok (.enter f args) w)(hf:a.eval xf=.func (.func f) #[] #[])
  (h:Calls P f (xs.map a.eval).toArray w fun e w'=> ∃v,e=.returned v∧K (a.put (iF d) v) w'):o.wp P a w K Q:=by
 have gA:(execOp a.eval o).run P w=.ok (.enter f (xs.map a.eval).toArray) w:=by simp[execOp,ho,resolve,hf,Deferred.ofValue,invoke,gr]
 unfold Oper.wp;rw[gA,Oper.upon_enter];refine h.mono ?_
 grind
theorem zH8{w:World}(g9:Rep Γ E G a.tmps w)(hd:d<Γ.N)(f:FuncId)(xs:List Operand)(us res:List T)(rw:Rw)
  (hc:FnC P f us res (rw.map fun x=>(x.1,x.2.2)))(gc:wB E rw 0 xs us)(hr:zH7 E d xs us rw)(gk:xT res∧yX res=iH∧uO res=iH):
  Calls P f (xs.map a.eval).toArray w fun e w'=> ∃v,e=.returned v∧ ∃S G',zDD Γ.St S Γ.W Γ.w0.heap.size∧jF (uJ d rw) G w G' w'∧Rep (Γ.at S) (E.app (cWr d res rw) (uJ d rw)) G' (a.tmps.setIfInBounds d v) w':=by
 classical
 have hm:=g9.mem
 let Sc:Stb:=fun b=>if zAT G rw b then iG else w.heap[b]?
 have eK:∀b x,Γ.St b=iF x→Sc b=iF x:=fun b x hx=>by
  have h3:¬zAT G rw b:=by
   rintro⟨s,z,h4,_⟩
   rw[(hm.ow b _ h4).2.2]at hx;cases hx
  simp only[Sc,h3,if_false];exact hm.st b x hx
 have eG:∀r,r∉rw.map (·.2.1)→ ∀b,(∃y,G.ow b=iF (r,y))→Sc b=w.heap[b]?:=fun r hr' b ⟨y,hy⟩=>by
  have h3:¬zAT G rw b:=by
   rintro⟨s,z,h4,h5⟩
   grind
  grind
 have cX:∀(us:List T),xT us∧yX us=iH∧uO us=iH→ ∀u∈us,yE u∧u.okTup=iH∧vF u=iH:=by
  intro us
  induction us with
  |nil=>simp
  |cons v us ih=>
   intro⟨h1,h2,h3⟩ u hu;simp only[yX,uO,J2]at h2 h3;rcases J7.1 hu with rfl|hu
   ·exact⟨h1.1,h2.1,h3.1⟩
   ·exact ih ⟨h1.2,h2.2,h3.2⟩ u hu
 exact zH6 g9 hd (Sc:=Sc) (rw:=rw) (by grind) eK hc (wB.length xs us 0 gc) (fun i u hu=>by
   obtain⟨x,h1,h2⟩:=wB.get xs us 0 gc i u hu;rw[Ja]at h2
   grind[zWK]) hr.nodup hr.nodup2 hr.at_
  (by grind[zRj])
  (fun x hx=>by
   obtain⟨h1,h3,h4⟩:=hr.tree x hx
   grind[zRj])
theorem zK8(f:FuncId)(xf:Operand)(xs:List Operand)(ats:Array TypeId)(us res:List T)(rw:Rw)(ho:o.op=.call { callee:=.value xf,args:=xs.toArray,argTypes:=ats })(gf:o.dst=iF d)(hd:d<Γ.N)
  (gr:∀args w,(callFunc f args).run P w=.ok (.enter f args) w)(hf:opT E xf=iF (.lit (.func (.func f) #[] #[])))
  (hc:FnC P f us res (rw.map fun x=>(x.1,x.2.2)))(gc:wB E rw 0 xs us)(hr:zH7 E d xs us rw)(gk:xT res∧yX res=iH∧uO res=iH):
  wP P Γ o E (E.app (cWr d res rw) (uJ d rw)):=by
 intro a w K Q ⟨gL,G,g9⟩ hK;refine zCH ho gf gr (wQ g9 hf).1 ?_;refine(zH8 g9 hd f xs us res rw hc gc hr gk).mono ?_
 rintro e w' ⟨v,rfl,S,G',hS,_,gu⟩
 exact⟨v,rfl,hK _ _ ⟨S,hS,gL,G',gu⟩⟩
theorem zLX(f:FuncId)(xf:Operand)(xs:List Operand)(ats:Array TypeId)(us res:List T)(i ds r:Nat)(q:List Nat)(tr u u':T)(ho:o.op=.call { callee:=.value xf,args:=xs.toArray,argTypes:=ats })(gf:o.dst=iF d)(hd:d<Γ.N)
  (gr:∀args w,(callFunc f args).run P w=.ok (.enter f args) w)(hf:opT E xf=iF (.lit (.func (.func f) #[] #[])))
  (hs:E ds=iF (.same r q))(hr:E r=iF tr)(hq:tr.get q.reverse=iF u)(hu:u.single=iH)(eC:yE u)(hH:ds≠r)(hdr2:d≠r)(gB:tr.okB [(ds,1),(r,q.length+1)]=iH)(fH:xN tr=iH)
  (E1 E2:Env)(bD:E1=E.app [(ds,iF u),(r,iF (if q=[]then .same ds []else tr.set q.reverse .any))] [(ds,1),(r,q.length+1)])(gQ:E2=E1.app (cWr d res [(i,ds,u')]) (uJ d [(i,ds,u')]))
  (hc:FnC P f us res [(i,u')])(gc:wB E1 [(i,ds,u')] 0 xs us)(cP:zH7 E1 d xs us [(i,ds,u')])(gk:xT res∧yX res=iH∧uO res=iH)
  (tr2 v0:T)(fh:E2 r=iF tr2)(u6:tr2.get q.reverse=iF v0)(tj:v0.single=iH)(pO:E2 ds=iF u')(eB:yE u')(tn:u'.single=iH)(m7:tr2.okB [(r,q.length+1),(ds,1)]=iH)(hc3:xN tr2=iH)(hok3:u'.okB [(r,q.length+1),(ds,1)]=iH)(hc4:xN u'=iH):
  wP P Γ o E (E2.app [(r,iF (tr2.set q.reverse u')),(ds,iF (.same r q))] [(r,q.length+1),(ds,1)]):=by
 have bT:cLv u'=1:=by grind[cLv]
 intro a w K Q ⟨gL,G,g9⟩ hK;refine zCH ho gf gr (wQ g9 hf).1 ?_;have gY:G.hd ds []=G.hd r q:=by have:=(g9.ent ds _ hs).2.1;simpa only[R]using this
 obtain⟨cG,i8⟩:=zEj g9 ds [] r q (.same r q) tr u (.same r q) hs rfl rfl gY hr hq hu eC hH (by grind[T.okB,zAw]) (by omega) rfl fH;have iE:E.app [(ds,iF ((T.same r q).set [].reverse u)),(r,iF (if q=[]then .same ds []else tr.set q.reverse .any))] [(ds,([]:List Nat).length+1),(r,q.length+1)]=E1:=by rw[bD];rfl
 rw[iE]at cG;refine(zH8 cG hd f xs us res [(i,ds,u')] hc gc cP gk).mono ?_
 rintro e w' ⟨v,rfl,S,G',hS,hk,gu⟩
 rw[←gQ]at gu;have hdds:d≠ds:=by have:=cP.nodup;grind
 have h1:G'.hd r q=(G.tr ds [] r q).hd r q:=hk.hd r q (fun n hn=>by grind[uJ]);have h2:G'.hd ds []=(G.tr ds [] r q).hd ds []:=hk.hd ds [] (fun n hn=>by grind[uJ]);have cd:G'.hd r q=G'.hd ds []:=by grind
 obtain⟨cE,_⟩:=zEj gu r q ds [] tr2 u' u' v0 fh u6 tj cd pO rfl tn eB (Ne.symm hH) (by omega) (by omega) hc3 hc4;refine⟨v,rfl,hK _ _ ⟨S,hS,gL,G'.tr r q ds [],?_⟩⟩;have hw:(if([]:List Nat)=[]then T.same r q else u'.set ([]:List Nat).reverse .any)=T.same r q:=if_pos rfl;rw[hw]at cE;exact cE
theorem zSU(f:FuncId)(xf:Operand)(xs:List Operand)(ats:Array TypeId)(us res:List T)(ho:o.op=.call { callee:=.value xf,args:=xs.toArray,argTypes:=ats })(gf:o.dst=iF d)(hd:d<Γ.N)
  (gr:∀args w,(callFunc f args).run P w=.ok (.enter f args) w)(hf:opT E xf=iF (.lit (.func (.func f) #[] #[])))
  (hc:FnC P f us res [])(gj:xs.length=us.length)(gc:∀(i:Nat) u,us[i]? =iF u→ ∃x,xs[i]? =iF x∧opT E x=iF u∧u.flat=iH)(gk:xT res∧yX res=iH):
  wP P Γ o E (E.app (cWr d res []) (uJ d [])):=by
 intro a w K Q ⟨gL,G,g9⟩ hK;have hm:=g9.mem;refine zCH ho gf gr (wQ g9 hf).1 ?_;have pB:∀b,¬zAT G [] b:=by rintro b ⟨s,z,_,h⟩;simp at h
 have cX:∀(us:List T),xT us∧yX us=iH→ ∀u∈us,yE u∧u.okTup=iH:=by
  intro us
  induction us with
  |nil=>simp
  |cons v us ih=>
   intro⟨h1,h2⟩ u hu;simp only[yX,J2]at h2;rcases J7.1 hu with rfl|hu
   ·exact⟨h1.1,h2.1⟩
   ·exact ih ⟨h1.2,h2.2⟩ u hu
 have:=zH6 g9 hd (Sc:=Γ.St) (rw:=[]) (fun b x hx=>⟨hm.st b x hx,pB b⟩) (fun _ _ h=>h) hc gj (fun i u hu=>by
   obtain⟨x,h1,h2,h3⟩:=gc i u hu;refine⟨x,h1,?_⟩;have ig:=zDw (E:=E) u h3;cases x with
   |tmp s=>
    have gI:∀z,(G.arg a xs []).hd i z=G.hd s z:=by grind[Gh.arg]
    obtain⟨e1,e2,_⟩:=g9.ent s u h2;refine⟨?_,by grind[zK2]⟩;have:=zK7 (E:=E) gI u (ig.1 [] s)
    grind[wK]
   |const v=>
    simp only[opT]at h2;split at h2
    ·rename_i gx
     simp at h2;subst h2;have gI:(G.arg a xs []).hd i []=v:=by grind[Gh.arg,Act.eval,zA0]
     exact⟨by grind[mkV,Act.eval],by simp[R,gI]⟩
    ·cases h2
   |func f=>
    simp only[opT]at h2;simp at h2;subst h2;have gI:(G.arg a xs []).hd i []=.func (.func f) #[] #[]:=by grind[Gh.arg,Act.eval,kK,Value.oneCell']
    exact⟨by grind[mkV,Act.eval],by simp[R,gI]⟩
   |global g=>grind[opT]) (by simp) (by simp) (by simp)
  (fun u hu=>⟨by grind,by grind,fun S' G w s p hS h=>by
   have:aft Γ.St Γ.St S'=S':=funext (by grind[aft])
   grind⟩) (by simp)
 refine this.mono ?_
 rintro e w' ⟨v,rfl,S,G',hS,_,gu⟩
 exact⟨v,rfl,hK _ _ ⟨S,hS,gL,G',gu⟩⟩
end
def xC:List (Nat×T)→Env
 | [],_=>iG
 |(k,t)::l,s=>if k=s then iF t else xC l s
def Env.Has(E:Env):List (Nat×T)→Prop
 | []=>True
 |(s,t)::l=>E s=iF t∧E.Has l
theorem Env.Has.le:{l:List (Nat×T)}→E.Has l→ ∀s t,xC l s=iF t→E s=iF t
 | [],_,s,t,h=>by grind[xC]
 |(k,u)::l,hh,s,t,h=>by
  simp only[xC]at h;split at h
  ·rename_i e
   subst e;rw[hh.1];exact h
  ·exact hh.2.le s t h
theorem Sim.weaken{w:World}(h:Sim Γ E a w)(hle:∀s t,E' s=iF t→E s=iF t):Sim Γ E' a w:=by obtain⟨h1,G,h2⟩:=h;exact⟨h1,G,⟨h2.size,fun s t hs=>h2.ent s t (hle s t hs),h2.mem⟩⟩
theorem jR.weaken{w:World}(h:jR Γ E a w)(hle:∀s t,E' s=iF t→E s=iF t):jR Γ E' a w:=by obtain⟨S,h1,h2⟩:=h;exact⟨S,h1,h2.weaken hle⟩
abbrev kM:=List (Nat×Value)
def kM.Hold(pn:kM)(a:Act):Prop:=∀x∈pn,a.tmps[x.1]? =iF x.2
def kM.ok(pn:kM)(d:Option Nat):Bool:=match d with
 |none=>iH
 |some d=>pn.all fun x=>x.1 != d
theorem Oper.wp_frame{w:World}{K:Act→World→Prop}{Q:Exit→Act→World→Prop}(h:o.wp P a w K Q):
  o.wp P a w (fun a' w'=>K a' w'∧ ∀s,o.dst≠iF s→a'.tmps[s]? =a.tmps[s]?) Q:=by
 have key:∀(v:Value)(ds:List Deferred),∀s,o.dst≠iF s→(({ a with defers:=ds }:Act).put o.dst v).tmps[s]? =a.tmps[s]?:=by
  intro v ds s hs;cases hd:o.dst with
  |none=>rfl
  |some d=>
   grind[Act.put]
 have key0:∀(v:Value),∀s,o.dst≠iF s→(a.put o.dst v).tmps[s]? =a.tmps[s]?:=fun v=>key v a.defers
 unfold Oper.wp at*
 generalize (execOp a.eval o).run P w=r at*
 cases r with
 |ok n w'=>
  cases n<;>simp only[Oper.upon]at h ⊢
  all_goals grind
 |halt x w'=>cases x<;>simp only[Oper.upon]at h ⊢ <;>exact h
theorem kM.Hold.frame{pn:kM}{a':Act}{d:Option Nat}(h:pn.Hold a)(gB:pn.ok d=iH)(hf:∀s,d≠iF s→a'.tmps[s]? =a.tmps[s]?):pn.Hold a':=by
 intro x hx;rw[hf x.1 ?_]
 ·exact h x hx
 ·rintro rfl
  have:=Kc.1 gB x hx
  grind
section
variable (P:Program) (Γ:Ctx) (pn:kM)
def CW(c:Code)(E:Env)(Q:Exit→Env→Prop):Prop:=
 ∀(a:Act)(w:World)(Q':Exit→Act→World→Prop),jR Γ E a w→pn.Hold a→(∀e E' a' w',Q e E'→jR Γ E' a' w'→pn.Hold a'→Q' e a' w')→c.wp P Q' a w
def zW(ops:Array Oper)(o:Oper)(E E':Env):Prop:=
 ∀(a:Act)(w:World)(K:Act→World→Prop)(Q:Exit→Act→World→Prop),jR Γ E a w→(∀a' w',jR Γ E' a' w'→(∀s,o.dst≠iF s→a'.tmps[s]? =a.tmps[s]?)→K a' w')→
  if Region.wanted o (yielded ops a.tmps)then o.wp P a w K Q∨(o.asks P a w∧LetsOut Q)else K (a.put o.dst undef) w
def wpL(ops:Array Oper)(Q:Exit→Act→World→Prop):List Oper→Act→World→Prop
 | [],a,w=>Q .normal a w
 |o::os,a,w=>if Region.wanted o (yielded ops a.tmps)then o.wp P a w (wpL ops Q os) Q∨(o.asks P a w∧LetsOut Q)else wpL ops Q os (a.put o.dst undef) w
def RW(ops:Array Oper)(os:List Oper)(E:Env)(Q:Exit→Env→Prop):Prop:=
 ∀(a:Act)(w:World)(Q':Exit→Act→World→Prop),jR Γ E a w→pn.Hold a→(∀e E' a' w',Q e E'→jR Γ E' a' w'→pn.Hold a'→Q' e a' w')→wpL P ops Q' os a w
end
section
variable {P:Program}{Γ:Ctx}{pn:kM}{E E':Env}{Q Q1:Exit→Env→Prop}{c c1 c2:Code}{ops:Array Oper}{o:Oper}{os:List Oper}{d:Nat}
theorem zK9{Q':Exit→Act→World→Prop}:∀(os:List Oper)(n:Nat)(a:Act)(w:World),ops.toList.drop n=os→wpL P ops Q' os a w→wpOps P ops Q' (Kl n os.length) a w
 | [],n,a,w,_,h=>by simpa[wpOps,wpL]using h
 |o::os,n,a,w,hd,h=>by
  have ho:ops[n]? =iF o:=by
   have:=congrArg (·[0]?) hd
   grind
  have bt:ops.toList.drop (n+1)=os:=by
   have:=congrArg List.tail hd
   grind[List.tail_drop]
  simp only[J8,Jcw,wpOps,ho];simp only[wpL]at h;split
  ·rename_i hw
   simp only[hw,if_true]at h;exact h.imp (Oper.wp_mono fun a w=>zK9 os (n+1) a w bt) id
  ·rename_i hw
   simp only[hw]at h;exact zK9 os (n+1) _ w bt h
theorem CW.region(h:RW P Γ pn ops ops.toList E Q):CW P Γ pn (.region id ops iI) E Q:=by
 intro a w Q' hs hp hQ;refine wp_region ?_;have:=zK9 (P:=P) ops.toList 0 a w (by simp) (h a w Q' hs hp hQ)
 grind[L8]
theorem RW.nil(h:Q .normal E):RW P Γ pn ops [] E Q:=fun a w Q' hs hp hQ=>by
 simp only[wpL]
 grind
theorem RW.cons(h1:zW P Γ ops o E E')(h3:RW P Γ pn ops os E' Q)(h2:pn.ok o.dst=iH:=by rfl):RW P Γ pn ops (o::os) E Q:=by
 intro a w Q' hs hp hQ;simp only[wpL];have:=h1 a w (wpL P ops Q' os) Q' hs fun a' w' gN hf=>h3 a' w' Q' gN (hp.frame h2 hf) hQ
 exact this
theorem zW.op(h:∀S,wP P (Γ.at S) o E E')(hg:o.guard=iG:=by rfl):zW P Γ ops o E E':=by
 intro a w K Q hs hK;have hw:Region.wanted o (yielded ops a.tmps)=iH:=by simp[Region.wanted,hg]
 rw[if_pos hw];refine .inl ?_;obtain⟨S,hS,hs⟩:=hs;have:=Oper.wp_frame (h S a w (fun a' w'=>jR Γ E' a' w') Q hs fun a' w' h=>h.up hS)
 grind[Oper.wp_mono]
theorem zH9{w:World}(hs:jR Γ E a w){b:Bool}(gn:(ops[g]?).bind (·.dst)=iF s)(h:E s=iF (.lit (.bool b))):yielded ops a.tmps g=iF b:=by
 obtain⟨_,_,_,G,hr⟩:=hs;obtain⟨h1,h2,_⟩:=hr.ent s _ h;simp only[R]at h2
 grind[yielded,mkV]
theorem zW.guard(g:Nat)(b:Bool)(s:Nat)(h:∀S,wP P (Γ.at S) o E E')(hg:o.guard=iF (g,b):=by rfl)(gn:(ops[g]?).bind (·.dst)=iF s:=by rfl)(hb:E s=iF (.lit (.bool b)):=by rfl):zW P Γ ops o E E':=by
 intro a w K Q hs hK;have hw:Region.wanted o (yielded ops a.tmps)=iH:=by grind[Region.wanted,zH9]
 rw[if_pos hw];refine .inl ?_;obtain⟨S,hS,hs⟩:=hs;have:=Oper.wp_frame (h S a w (fun a' w'=>jR Γ E' a' w') Q hs fun a' w' h=>h.up hS)
 grind[Oper.wp_mono]
def zP(Γ:Ctx)(E E':Env):Prop:=∀(a:Act)(w:World),jR Γ E a w→jR Γ E' a w
theorem zP.refl:zP Γ E E:=fun _ _ h=>h
theorem zP.trans{E2 E3:Env}(h:zP Γ E1 E2)(h':zP Γ E2 E3):zP Γ E1 E3:=fun a w hs=>h' a w (h a w hs)
theorem zP.has{l:List (Nat×T)}(h:E.Has l):zP Γ E (xC l):=fun _ _ hs=>hs.weaken h.le
theorem CW.ghost(h1:zP Γ E E')(h:CW P Γ pn c E' Q):CW P Γ pn c E Q:=fun a w Q' hs=>h a w Q' (h1 a w hs)
theorem RW.ghost(h1:zP Γ E E')(h:RW P Γ pn ops os E' Q):RW P Γ pn ops os E Q:=fun a w Q' hs=>h a w Q' (h1 a w hs)
theorem CW.to(l:List (Nat×T))(h1:E.Has l)(h:CW P Γ pn c (xC l) Q):CW P Γ pn c E Q:=h.ghost (.has h1)
theorem CW.mono(h:CW P Γ pn c E Q1)(hq:∀e E',Q1 e E'→Q e E'):CW P Γ pn c E Q:=fun a w Q' hs hp hQ=>h a w Q' hs hp (by grind)
theorem CW.skip(h:Q .normal E):CW P Γ pn .skip E Q:=fun _ _ _ hs hp hQ=>by grind[wp_skip]
theorem CW.ret(h:Q .ret E):CW P Γ pn .ret E Q:=fun _ _ _ hs hp hQ=>by grind[wp_ret]
theorem CW.exit(h:Q (.exit id) E):CW P Γ pn (.exit id) E Q:=fun _ _ _ hs hp hQ=>by grind[wp_exit]
def wR(P:Program)(Γ:Ctx)(pn:kM)(c:Code)(Q:Exit→Env→Prop):Exit→Env→Prop
 |.normal,E=>CW P Γ pn c E Q
 |e,E=>Q e E
theorem CW.seq(h:CW P Γ pn c1 E (wR P Γ pn c2 Q)):CW P Γ pn (.seq c1 c2) E Q:=by
 intro a w Q' hs hp hQ;refine wp_seq (h a w _ hs hp fun e E' a' w' h1 gN cV=>?_);cases e with
 |normal=>exact h1 a' w' Q' gN cV hQ
 |_=>exact hQ _ _ _ _ h1 gN cV
theorem CW.cond{x:Operand}(b:Bool)(hb:opT E x=iF (.lit (.bool b)))(ht:b=iH→CW P Γ pn c1 E Q)(hf:b=iI→CW P Γ pn c2 E Q):CW P Γ pn (.cond x c1 c2) E Q:=by intro a w Q' hs hp hQ;obtain⟨_,_,_,G,hr⟩:=id hs;refine wp_cond_split (wQ hr hb).1 (fun h=>ht h a w Q' hs hp hQ) (fun h=>hf h a w Q' hs hp hQ)
def wV(id:Nat)(Q:Exit→Env→Prop):Exit→Env→Prop
 |.exit id',E=>if id'=id then Q .normal E else Q (.exit id') E
 |e,E=>Q e E
theorem CW.block(h:CW P Γ pn c E (wV id Q)):CW P Γ pn (.block id c) E Q:=by
 intro a w Q' hs hp hQ;refine wp_block (h a w _ hs hp fun e E' a' w' h1 gN cV=>?_);cases e with
 |exit id'=>
  simp only[wV]at h1;simp only[Exit.inBlock]
  grind
 |_=>exact hQ _ _ _ _ h1 gN cV
end
def kA{σ ρ:Type}(body:σ→Option (σ⊕ρ)):Nat→σ→Option ρ
 |0,_=>iG
 |n+1,s=>match body s with
  |none=>iG
  |some (.inl s')=>kA body n s'
  |some (.inr r)=>iF r
theorem zHA{σ ρ:Type}{body:σ→Option (σ⊕ρ)}{r:ρ}:∀{n m:Nat}{s:σ},kA body n s=iF r→n≤m→kA body m s=iF r
 |0,_,_,h,_=>by grind[kA]
 |n+1,0,_,_,hm=>by omega
 |n+1,m+1,s,h,hm=>by
  simp only[kA]at h ⊢
  cases hb:body s with
  |none=>grind
  |some x=>
   cases x with
   |inl s'=>simp only[hb]at h ⊢;exact zHA h (by omega)
   |inr r'=>grind
open Classical in
noncomputable def zI {σ ρ:Type} (body:σ→Option (σ⊕ρ)) (s:σ):Option ρ:=
 if h:∃(n:Nat)(r:ρ),kA body n s=iF r then iF h.choose_spec.choose else iG
theorem zEn{σ ρ:Type}{body:σ→Option (σ⊕ρ)}{s:σ}{r:ρ}:zI body s=iF r↔ ∃n,kA body n s=iF r:=by
 unfold zI;constructor
 ·intro h
  split at h
  all_goals grind
 ·rintro⟨n,hn⟩
  have he:∃(n:Nat)(r:ρ),kA body n s=iF r:=⟨n,r,hn⟩;rw[dif_pos he]
  grind[zHA]
theorem xL(body:σ→Option (σ⊕ρ))(s:σ):zI body s=match body s with
  |none=>iG
  |some (.inl s')=>zI body s'
  |some (.inr r)=>iF r:=by
 apply Option.ext;intro r;rw[zEn];cases hb:body s with
 |none=>
  simp only[reduceCtorEq,iff_false]
  rintro⟨n,hn⟩
  cases n<;>simp[kA,hb]at hn
 |some x=>
  cases x with
  |inl s'=>
   simp only[];rw[zEn];constructor
   ·rintro⟨n,hn⟩
    cases n with
    |zero=>grind[kA]
    |succ n=>grind[kA]
   ·rintro⟨n,hn⟩
    exact⟨n+1,by grind[kA]⟩
  |inr r'=>
   simp only[Hu.injEq];constructor
   ·rintro⟨n,hn⟩
    cases n with
    |zero=>grind[kA]
    |succ n=>grind[kA]
   ·rintro rfl
    exact⟨1,by simp[kA,hb]⟩
section
variable {P:Program}{Γ:Ctx}{pn:kM}{E:Env}{Q:Exit→Env→Prop}{c:Code}
def uY{σ ρ:Type}(Γ:Ctx)(en:σ→Env)(Q:ρ→Exit→Env→Prop)(x:σ⊕ρ):Exit→Env→Prop:=fun e E'=>
 match x with
 |.inl s'=>e=.normal∧zP Γ E' (en s')
 |.inr r=>e≠.normal∧Q r e E'
theorem zDR{p:Nat→Prop}(h:∃m,p m):∃m,p m∧ ∀k,k<m→ ¬p k:=by
 refine Classical.byContradiction fun hn=>?_
 have key:∀n,∀k,k<n→ ¬p k:=by
  intro n
  induction n with
  |zero=>simp
  |succ n ih=>
   grind
 grind
theorem CW.loop(body:σ→Option (σ⊕ρ))(en:σ→Env)(Q:ρ→Exit→Env→Prop)(h:∀s x,body s=iF x→CW P Γ pn c (en s) (uY Γ en Q x)){s:σ}{r:ρ}(hr:zI body s=iF r):
  CW P Γ pn (.loop c) (en s) (Q r):=by
 classical
 intro a w Q' hs hp hQ
 let p:Act→World→Nat→Prop:=fun a w m=> ∃s,kA body m s=iF r∧jR Γ (en s) a w∧pn.Hold a
 let μ:Act→World→Nat:=fun a w=>if h:∃m,p a w m then(zDR h).choose else 0
 obtain⟨n,hn⟩:=zEn.1 hr;refine wp_loop (fun a w=> ∃m,p a w m) μ (by grind) ?_;intro a w p7;have hμ:μ a w=(zDR p7).choose:=dif_pos p7;obtain⟨s,h1,h2,h3⟩:=(zDR p7).choose_spec.1;have eY:=(zDR p7).choose_spec.2;rw[←hμ]at h1;cases hm:μ a w with
 |zero=>grind[kA]
 |succ k=>
  rw[hm]at h1;simp only[kA]at h1;cases hb:body s with
  |none=>grind
  |some x=>
   refine h s x hb a w _ h2 h3 fun e E' a' w' hq gN cV=>?_
   cases x with
   |inl s'=>
    simp only[hb]at h1;obtain⟨rfl,hg⟩:=hq;have aj:p a' w' k:=⟨s',h1,hg a' w' gN,cV⟩;refine⟨⟨k,aj⟩,?_⟩;have hex':∃m,p a' w' m:=⟨k,aj⟩
    grind
   |inr r'=>
    simp only[hb]at h1;have:r'=r:=by grind
    subst this;obtain⟨gg,hq⟩:=hq;have:=hQ e E' a' w' hq gN cV;cases e with
    |normal=>grind
    |_=>exact this
end
abbrev Nds:=List (Nat×List Nat×T)
def ROk(P:Program)(E:Env):ResultVar→(Nat×List Nat×T)→Prop
 |.tmp s,x=>x.1=s∧x.2.1=[]∧E s=iF x.2.2∧x.2.2.okTup=iH
 |.cell a T,x=>x.1=a∧x.2.1=[0]∧E a=iF (.ptr x.2.2)∧ ∃ds ti,P.underlying T=iF ds∧P.info? T=iF ti∧zFD ds= !x.2.2.single∧ti.size=x.2.2.size
def zRk(P:Program)(E:Env):List ResultVar→Nds→Prop
 | [],[]=>True
 |x::xs,y::ys=>ROk P E x y∧zRk P E xs ys
 |_,_=>False
def LOk(E:Env)(us:List T):List (Nat×T)→Prop
 | []=>True
 |(i,u')::l=>(E i=iF u'∧ ∃u,us[i]? =iF u)∧LOk E us l
def yAT(P:Program)(rs:Array ResultVar)(us res:List T)(rws:List (Nat×T)):Exit→Env→Prop:=fun e E=>
 (e=.ret∨e=.normal)∧ ∃nd:Nds,zRk P E rs.toList nd∧nd.map (·.2.2)=res∧(∀x∈nd,us.length≤x.1)∧(nd.map (·.1)).Nodup∧LOk E us rws
def zCI(v:Nat→Value)(is:List Nat):kM:=is.map fun i=>(i,v i)
def zJe:Nat→List T→List (Nat×T)
 |_,[]=>[]
 |i,u::us=>(i,u)::zJe (i+1) us
theorem zLY:∀(us:List T)(i s:Nat)(t:T),xC (zJe i us) s=iF t→i≤s∧us[s-i]? =iF t
 | [],i,s,t,h=>by grind[zJe,xC]
 |u::us,i,s,t,h=>by
  simp only[zJe,xC]at h;split at h
  ·grind
  ·rename_i e
   obtain⟨h1,h2⟩:=zLY us (i+1) s t h
   grind
def zSV(tmps:Array Value):ResultVar→Sem Value
 |.tmp t=>pure (tmps.getD t undef)
 |.cell a t=>do loadVar t (←asAddr (tmps.getD a undef))
theorem zOe(fn:Func)(tmps:Array Value):results fn tmps=(do
  let vs ←fn.results.mapM (zSV tmps)
  pure (if h:vs.size=1 then vs[0]else .tuple vs)):=rfl
theorem uA.get:(xs:List T)→uA xs→ ∀(i:Nat)(x:T),xs[i]? =iF x→Top x
 | [],_,i,x,h=>by simp at h
 |y::ys,ht,i,x,h=>by
  simp only[uA]at ht;cases i with
  |zero=>simp at h;subst h;exact ht.1
  |succ i=>exact uA.get ys ht.2 i x (by simpa using h)
theorem LOk.get{E:Env}{us:List T}:(l:List (Nat×T))→LOk E us l→ ∀i u',(i,u')∈l→E i=iF u'∧ ∃u,us[i]? =iF u
 | [],_,_,_,h=>by simp at h
 |x::l,h,i,u',hm=>by
  rcases J7.1 hm with rfl|hm
  ·exact h.1
  ·exact LOk.get l h.2 i u' hm
theorem yCP{w:World}(g9:Rep Γ E G tmps w)(x:ResultVar)(s:Nat)(q:List Nat)(t:T)(h:ROk P E x (s,q,t)):
  (zSV tmps x).run P w=.ok (sU G s t q) w∧R Γ.St G w s t q:=by
 cases x with
 |tmp s'=>
  obtain⟨h0,bY,h1,h2⟩:=h;dsimp only at h0 bY h1 h2;subst h0 bY;obtain⟨g1,g2,_⟩:=g9.ent _ _ h1;have eg:∀xs,t≠.tup xs:=by rintro xs rfl;grind[T.okTup]
  refine⟨?_,g2⟩;rw[←zAe G s t [] eg];simp[zSV,Kg,g1]
 |cell a T'=>
  obtain⟨h0,bY,h1,ds,ti,h2,h3,h4,h5⟩:=h;dsimp only at h0 bY h1 h4 h5;subst h0 bY;obtain⟨g1,g2,_⟩:=g9.ent _ _ h1;simp only[R]at g2;obtain⟨b,cs,e,k1,k2,k3,k4,k5,k6⟩:=g2;refine⟨?_,k6⟩;rw[xU rfl,k1]at g1;have h6:=zGz (w:=w) h2 h3 k5 h4 h5;simp[zSV,Kg,g1,asAddr,h6]
theorem zG6{P:Program}{Γ:Ctx}{E:Env}{G:Gh}{tmps:Array Value}{w:World}(g9:Rep Γ E G tmps w):(rs:List ResultVar)→(nd:Nds)→zRk P E rs nd→
  (rs.mapM (zSV tmps)).run P w=.ok (nd.map fun x=>sU G x.1 x.2.2 x.2.1) w∧ ∀x∈nd,R Γ.St G w x.1 x.2.2 x.2.1
 | [],[],_=>by simp
 |x::xs,y::ys,h=>by
  obtain⟨h1,h2⟩:=zG6 g9 xs ys h.2;obtain⟨h3,h4⟩:=yCP g9 x y.1 y.2.1 y.2.2 h.1
  simp_all
 | [],_::_,h=>by simp[zRk]at h
 |_::_,[],h=>by simp[zRk]at h
theorem FnC.of_body{f:FuncId}{res:List T}(hf:P.funcs[f]? =iF fn)(hb:fn.body=iF c)(hn:us.length≤fn.ntmps)(ht:uA us)(hr:rws.all (fun x=>decide (x.1<us.length))=iH)
  (h:∀(Γ:Ctx)(v:Nat→Value),Γ.N=fn.ntmps→CW P Γ (zCI v (rws.map (·.1))) c (xC (zJe 0 us)) (yAT P fn.results us res rws)):FnC P f us res rws:=by
 intro St W w G vs cy gc gp
 let Γ:Ctx:=⟨St,W,w,fn.ntmps⟩
 let v:Nat→Value:=fun i=>vs.getD i undef
 have hm:Mem Γ G w:=⟨gp.one,gp.lb,gp.ow,gp.st,gp.fr,gp.sz,gp.bk⟩;have gz:(vs++Q3 (fn.ntmps-vs.size) undef).size=fn.ntmps:=by simp;omega
 have mO:Sim Γ (xC (zJe 0 us)) { tmps:=vs++Q3 (fn.ntmps-vs.size) undef,defers:=[] } w:=by
  refine⟨rfl,G,gz,?_,hm⟩;intro s t hs;obtain⟨_,h2⟩:=zLY us 0 s t hs;simp only[Jav]at h2;obtain⟨h3,h4⟩:=gc s t h2;have gH:s<vs.size:=by grind
  exact⟨by grind,h4,uA.get us ht s t h2⟩
 have ug:(zCI v (rws.map (·.1))).Hold { tmps:=vs++Q3 (fn.ntmps-vs.size) undef,defers:=[] }:=by
  intro x hx;simp only[zCI,Jl]at hx;obtain⟨i,⟨y,hy,rfl⟩,rfl⟩:=hx;have h1:=Kc.1 hr y hy;simp at h1;have h2:y.1<vs.size:=by omega
  simp[Array.getElem?_append,h2,v]
 refine calls_of_wp hf hb (h Γ v rfl _ _ _ (.of mO) ug ?_)
 rintro e E' a' w' ⟨he,nd,h1,h2,h3,h4,h5⟩ ⟨S',gZ,gL,G',g9⟩ hp
 obtain⟨g1,g2⟩:=zG6 g9 _ _ h1;have gk:(results fn a'.tmps).run P w'=.ok (zLR G' nd) w':=by
  rw[zOe,Array.mapM_eq_mapM_toList];simp only[Sem.run_bind,Sem.run_map,g1];cases nd with
  |nil=>simp[zLR]
  |cons y ys=>
   cases ys with
   |nil=>simp[zLR]
   |cons z zs=>simp[zLR]
 have gD:Mem ⟨S',W,w,0⟩ G' w':=⟨g9.mem.one,g9.mem.lb,g9.mem.ow,g9.mem.st,g9.mem.fr,g9.mem.sz,g9.mem.bk⟩;have bn:bodyPost P fn (fun e w'=> ∃(S':Stb)(G':Gh)(nd:List (Nat×List Nat×T)),zDD St S' W w.heap.size∧e=.returned (zLR G' nd)∧Mem ⟨S',W,w,0⟩ G' w'∧nd.map (·.2.2)=res∧
   (∀x∈nd,R S' G' w' x.1 x.2.2 x.2.1∧us.length≤x.1)∧(nd.map (·.1)).Nodup∧
   ∀i u',(i,u')∈rws→R S' G' w' i u' []∧ ∃u,us[i]? =iF u∧mkV G' i u' []=mkV G i u []) .ret a' w':=by
  refine⟨gL,_,gk,S',G',nd,gZ,rfl,gD,h2,by grind,h4,?_⟩;intro i u' hiu;obtain⟨k1,u,k3⟩:=LOk.get _ h5 i u' hiu;obtain⟨k5,k6,_⟩:=g9.ent i u' k1;refine⟨k6,u,k3,?_⟩;have k7:=hp (i,v i) (by simp only[zCI,Jl];grind);have k8:=(gc i u k3).1;rw[k5]at k7;simp[v,Kg,k8]at k7;exact k7
 rcases he with rfl|rfl<;>exact bn
mutual
def uL:T→T
 |.sl k xs=>.ro (strip (.sl k xs))
 |.ptr t=>.ro (strip (.ptr t))
 |.agg xs=>.agg (uQ xs)
 |.tup xs=>.tup (uQ xs)
 |.any=>.any
 |.lit v=>.lit v
 |.ro t=>.ro t
 |.same r p=>.same r p
 |.addr r p=>.addr r p
 |.sub r p k lo hi=>.sub r p k lo hi
def uQ:List T→List T
 | []=>[]
 |x::xs=>uL x::uQ xs
end
mutual
theorem zSW(G:Gh)(s:Nat):(t:T)→ ∀p,vals G s (uL t) p=vals G s t p
 |.agg xs,p=>by simp only[uL,vals];exact zDx G s xs p 0
 |.sl _ _,_|.ptr _,_|.tup _,_|.any,_|.lit _,_|.ro _,_|.same _ _,_|.addr _ _,_|.sub _ _ _ _ _,_=>by rfl
theorem zDx(G:Gh)(s:Nat):(xs:List T)→ ∀p j,yJ G s (uQ xs) p j=yJ G s xs p j
 | [],_,_=>by rfl
 |x::xs,p,j=>by simp only[uQ,yJ,zSW G s x,zDx G s xs]
end
theorem zSX(G:Gh)(s:Nat)(t:T)(p:List Nat):sU G s (uL t) p=sU G s t p:=by cases t<;>simp only[uL,sU,zDx]
theorem zLZ(G:Gh)(s:Nat):(xs:List T)→ ∀p j,zAd G s (uQ xs) p j=zAd G s xs p j
 | [],_,_=>by rfl
 |x::xs,p,j=>by simp only[uQ,zAd,zSX,zLZ G s xs]
theorem zWL(G:Gh)(s:Nat)(t:T)(p:List Nat):mkV G s (uL t) p=mkV G s t p:=by cases t<;>simp only[uL,mkV,zDx,zLZ]
mutual
theorem zMa:(t:T)→Top t→Top (uL t)
 |.agg xs,h|.tup xs,h=>by simp only[uL,Top]at h ⊢;exact zJ6 xs h
 |.sl _ _,_|.ptr _,_|.any,_|.lit _,_|.ro _,_|.same _ _,_|.addr _ _,_|.sub _ _ _ _ _,_=>by simp only[uL,Top]
theorem zJ6:(xs:List T)→uA xs→uA (uQ xs)
 | [],_=>by grind[uQ]
 |x::xs,h=>by simp only[uQ,uA]at h ⊢;exact⟨zMa x h.1,zJ6 xs h.2⟩
end
section
variable {St Sc:Stb}{G G':Gh}{w:World}{s:Nat} (gx:∀s p,(G.hd s p).oneCell'=iH) (eK:∀b x,St b=iF x→Sc b=iF x) (eG:∀b,(∃y,G.ow b=iF (s,y))→Sc b=w.heap[b]?) (gI:∀s z,G'.hd s z=G.hd s z) (fa:∀s z,G'.ad s z=G.ad s z)
 include gx eK eG gI fa
mutual
theorem zYv:(t:T)→ ∀(p:List Nat),R St G w s t p→R Sc G' w s (uL t) p
 |.agg xs,p,hr|.tup xs,p,hr=>by simp only[uL,R]at hr ⊢;exact zSY xs p 0 hr
 |.sl k xs,p,hr=>by have:=zLU gx eK eG (.sl k xs) p rfl hr;simp only[uL,R,gI];exact this
 |.ptr t,p,hr=>by have:=zLU gx eK eG (.ptr t) p rfl hr;simp only[uL,R,gI];exact this
 |.ro u,p,hr=>by simp only[uL,R,gI]at hr ⊢;grind[sD]
 |.any,_,_=>by simp only[uL,R]
 |.lit _,_,hr|.same _ _,_,hr|.sub _ _ _ _ _,_,hr=>by simp only[uL,R,gI]at hr ⊢;exact hr
 |.addr _ _,_,hr=>by simp only[uL,R,gI,fa]at hr ⊢;exact hr
theorem zSY:(xs:List T)→ ∀(p:List Nat)(j:Nat),RF St G w s xs p j→RF Sc G' w s (uQ xs) p j
 | [],_,_,_=>by have _:=gx;have _:=eK;have _:=eG;have _:=gI;have _:=fa;simp only[uQ,RF]
 |x::xs,p,j,hr=>by simp only[uQ,RF]at hr ⊢;exact⟨zYv x _ hr.1,zSY xs p (j+1) hr.2⟩
end
end
theorem zP.freeze(s:Nat)(t:T)(hs:E s=iF t):zP Γ E (E.app [(s,iF (uL t))] [(s,1)]):=by
 classical
 rintro a w ⟨S,hS,gL,G,g9⟩
 have hm:=g9.mem
 let own:Nat→Prop:=fun b=> ∃y,G.ow b=iF (s,y)
 let Sc:Stb:=fun b=>if own b then w.heap[b]? else S b
 let G':Gh:={ hd:=G.hd,ad:=G.ad,lb:=fun b o=>if own b then iG else G.lb b o,ow:=fun b=>if own b then iG else G.ow b }
 have fM:∀b x,S b=iF x→Sc b=iF x:=fun b x hx=>by
  have:¬own b:=by
   rintro⟨y,hy⟩
   have:=(hm.ow b _ hy).2.2
   grind
  grind
 have aE:zDD S Sc Γ.W Γ.w0.heap.size:=⟨fM,fun b hb f9=>by
  by_cases h:own b
  ·obtain⟨y,hy⟩:=h
   exact(hm.ow b _ hy).2.1
  grind⟩
 have gp:Mem ((Γ.at S).at Sc) G' w:=by
  refine⟨hm.one,fun b o l hl=>?_,fun b l hl=>?_,fun b x hx=>?_,hm.fr,hm.sz,hm.bk⟩
  ·by_cases h:own b
   ·grind
   ·simp only[G',h,if_false]at hl
    have:=hm.lb b o l hl;exact⟨this.1,this.2.1,by simp only[Sc,h,if_false];exact this.2.2⟩
  ·by_cases h:own b
   ·grind
   ·simp only[G',h,if_false]at hl
    have:=hm.ow b l hl;exact⟨this.1,this.2.1,by simp only[Sc,h,if_false];exact this.2.2⟩
  ·by_cases h:own b
   ·grind
   ·simp only[Sc,h,if_false]at hx;exact hm.st b x hx
 have gy:jF [(s,1)] G w G' w:=by
  have hno:∀b s0 y,G.ow b=iF (s0,y)→(∀n,(s0,n)∉([(s,1)]:Chg))→ ¬own b:=by grind
  refine⟨fun _ _ _=>rfl,fun _ _ _=>rfl,by grind,by grind,fun b cs e h=>⟨cs,h,rfl⟩⟩
  all_goals grind
 obtain⟨e1,e2,e3⟩:=g9.ent s t hs;refine⟨Sc,hS.trans aE,gL,G',g9.up fM rfl gy gp (fun s0 h0=>⟨fun n hn=>?_,rfl⟩) (fun s0 t0 h0=>?_)⟩
 ·grind[sB]
 ·rw[sB]at h0
  split at h0
  ·rename_i he;subst he
   simp at h0;subst h0;have hR:=zYv (G':=G') hm.one fM (fun b hb=>by grind) (fun _ _=>rfl) (fun _ _=>rfl) t [] e2;refine⟨?_,hR,zMa t e3⟩;rw[e1];have h1:mkV G' s (uL t) []=mkV G s (uL t) []:=zFC _ _ _ (fun _=>rfl);rw[h1,zWL]
  ·cases h0
abbrev zER:=List (Wr×Chg)
def Env.apps(E:Env)(l:zER):Env:=l.foldl (fun E x=>E.app x.1 x.2) E
structure Stp where
 rd:List (Nat×T)
 l:zER
variable {Xs:List Stp}
def qH(wr:Wr):List Nat:=wr.map (·.1)
def Stp.slots(X:Stp):List Nat:=X.l.flatMap fun x=>qH x.1
def oOk(chg:Chg):Option T→Bool
 |none=>iH
 |some t=>t.okB chg
def zOf(chg:Chg)(wr:Wr):Bool:=wr.all fun x=>oOk chg x.2
def zRl(a b:List Nat):Bool:=a.all fun x=> !b.contains x
def zFM(a b:zER):Bool:=a.all fun x=>b.all fun y=>zRl (qH x.1) (qH y.1)&&zOf y.2 x.1&&zOf x.2 y.1
def Stp.apart(a b:Stp):Bool:=zFM a.l b.l&&zRl a.slots (b.rd.map (·.1))&&zRl b.slots (a.rd.map (·.1))&&a.rd.all fun x=>b.l.all fun y=>x.2.okB y.2
theorem zFN(h:s∉qH wr):wr.find s=iG:=by
 induction wr with
 |nil=>rfl
 |cons x wr ih=>
  simp only[qH,Jr,J7,not_or]at h;simp only[Wr.find,Ne.symm h.1,if_false];exact ih h.2
theorem zJ7{x:Option T}(h:wr.find s=iF x):s∈qH wr∧ ∃y∈wr,y.2=x:=by
 induction wr with
 |nil=>grind[Wr.find]
 |cons y wr ih=>
  grind[Wr.find,qH]
theorem zHB{a b:List Nat}(h:zRl a b=iH)(hs:s∈a):s∉b:=by
 have:=Kc.1 h s hs
 grind
theorem zSZ(E:Env)(w1 w2:Wr)(c1 c2:Chg)(h:zRl (qH w1) (qH w2)=iH)(h1:zOf c2 w1=iH)(h2:zOf c1 w2=iH):
  (E.app w1 c1).app w2 c2=(E.app w2 c2).app w1 c1:=by
 funext s
 have ok:∀{c:Chg}{w:Wr}{s:Nat}{x:Option T},zOf c w=iH→w.find s=iF x→(match x with|some t=>if t.okB c then iF t else iG|none=>iG)=x:=by
  intro c w s x hw hf;obtain⟨_,y,hy,rfl⟩:=zJ7 hf;have:=Kc.1 hw y hy
  grind[oOk]
 unfold Env.app;cases hf1:w1.find s with
 |some x=>
  grind[zFN,zHB,zJ7]
 |none=>
  grind
theorem zDS(w:Wr)(c:Chg):∀(l:zER)(E:Env),(∀y∈l,zRl (qH w) (qH y.1)=iH∧zOf y.2 w=iH∧zOf c y.1=iH)→(E.app w c).apps l=(E.apps l).app w c
 | [],E,_=>rfl
 |y::l,E,h=>by obtain⟨h1,h2,h3⟩:=h y (by simp);show((E.app w c).app y.1 y.2).apps l=_;rw[zSZ E w y.1 c y.2 h1 h2 h3];exact zDS w c l _ (by grind)
theorem zJ8:∀(l1 l2:zER)(E:Env),zFM l1 l2=iH→(E.apps l1).apps l2=(E.apps l2).apps l1
 | [],l2,E,_=>rfl
 |x::l1,l2,E,h=>by simp only[zFM,Ux,J2]at h;show((E.app x.1 x.2).apps l1).apps l2=((E.apps l2).app x.1 x.2).apps l1;rw[zJ8 l1 l2 _ (by grind[zFM]),zDS x.1 x.2 l2 E (by grind)]
def runD:Env→List (Bool×Stp)→Env
 |E,[]=>E
 |E,(b,X)::l=>runD (if b then E.apps X.l else E) l
theorem zAg:∀(l1 l2:List (Bool×Stp))(E:Env),runD E (l1++l2)=runD (runD E l1) l2
 | [],_,_=>rfl
 |(b,X)::l1,l2,E=>by simp only[K5,runD];exact zAg l1 l2 _
theorem zFO:∀(l:List (Bool×Stp))(X:Stp)(E:Env),(∀y∈l,y.1=iH→zFM X.l y.2.l=iH)→runD (E.apps X.l) l=(runD E l).apps X.l
 | [],_,_,_=>rfl
 |(b,Y)::l,X,E,h=>by
  simp only[runD];cases b with
  |false=>exact zFO l X E (by grind)
  |true=>
   have:=h (iH,Y) (by simp) rfl;simp only[if_true];rw[zJ8 X.l Y.l E this];exact zFO l X _ (by grind)
theorem zHC{s:Nat}:∀(l:zER)(E:Env),s∉l.flatMap (fun x=>qH x.1)→ ∀t,(E.apps l) s=iF t→E s=iF t
 | [],_,_,_,h=>h
 |x::l,E,hs,t,h=>by
  simp only[Lp,Jd,not_or]at hs;have:=zHC l (E.app x.1 x.2) hs.2 t h
  grind[Env.app,zFN]
theorem zJ9{s:Nat}{t:T}:∀(l:zER)(E:Env),s∉l.flatMap (fun x=>qH x.1)→(∀y∈l,t.okB y.2=iH)→E s=iF t→(E.apps l) s=iF t
 | [],_,_,_,h=>h
 |x::l,E,hs,gB,h=>by
  simp only[Lp,Jd,not_or]at hs;refine zJ9 l (E.app x.1 x.2) hs.2 (by grind) ?_
  grind[Env.app,zFN]
theorem zJA{s:Nat}:∀(l:zER)(E1 E2:Env),(∀t,E2 s=iF t→E1 s=iF t)→ ∀t,(E2.apps l) s=iF t→(E1.apps l) s=iF t
 | [],_,_,h,t,ht=>h t ht
 |x::l,E1,E2,h,t,ht=>by
  refine zJA l (E1.app x.1 x.2) (E2.app x.1 x.2) (fun u hu=>?_) t ht
  grind[Env.app]
theorem zJB{s:Nat}:∀(l:List (Bool×Stp))(E1 E2:Env),(∀y∈l,y.1=iI→s∉y.2.slots)→(∀t,E2 s=iF t→E1 s=iF t)→
  ∀t,runD E2 (l.map fun y=>(iH,y.2)) s=iF t→runD E1 l s=iF t
 | [],_,_,_,h,t,ht=>h t ht
 |(b,X)::l,E1,E2,hl,h,t,ht=>by
  simp only[Jr,runD,if_true]at ht ⊢
  refine zJB l _ _ (by grind) (fun u hu=>?_) t ht;cases b with
  |true=>grind[zJA]
  |false=>exact h u (zHC X.l E2 (hl (iI,X) (by simp) rfl) u hu)
theorem zJC{s:Nat}{t:T}:∀(l:List (Bool×Stp))(E:Env),(∀y∈l,y.1=iH→s∉y.2.slots∧ ∀z∈y.2.l,t.okB z.2=iH)→E s=iF t→runD E l s=iF t
 | [],_,_,h=>h
 |(b,X)::l,E,hl,h=>by
  simp only[runD];refine zJC l _ (fun y hy=>hl y (by simp[hy])) ?_;cases b with
  |false=>exact h
  |true=>obtain⟨h1,h2⟩:=hl (iH,X) (by simp) rfl;exact zJ9 X.l E h1 h2 h
theorem Env.Has.of{E E':Env}:{l:List (Nat×T)}→E.Has l→(∀s t,(s,t)∈l→E s=iF t→E' s=iF t)→E'.Has l
 | [],_,_=>trivial
 |(s,t)::l,h,h'=>⟨h' s t (by simp) h.1,Env.Has.of h.2 fun s t hm=>h' s t (by simp[hm])⟩
def zB6(o:Oper):List Nat:=(o.after.toList.filter (Region.binds .any)).map (·.on)
def zAX:Nat→List Oper→Bool
 |_,[]=>iH
 |i,o::os=>((zB6 o).all fun m=>decide (m<i))&&zAX (i+1) os
def zA2(an:List (List Nat)):List (List Nat)→List Oper→Bool
 | [],_=>iH
 |_::_,[]=>iI
 |l::ls,o::os=>(l.all fun k=>(zB6 o).contains k||(zB6 o).any fun m=>(an.getD m []).contains k)&&zA2 an ls os
def kN(Xs:List Stp):Nat→List (List Nat)→List Stp→Bool
 |_,_,[]=>iH
 |j,an,Y::Ys=>((Jb j).all fun i=>(an.headD []).contains i||match Xs[i]? with
   |some X=>X.apart Y
   |none=>iH)&&kN Xs (j+1) an.tail Ys
theorem zGT:∀(os:List Oper)(i0 j:Nat)(o:Oper),zAX i0 os=iH→os[j]? =iF o→ ∀m∈zB6 o,m<i0+j
 | [],_,j,_,_,h=>by simp at h
 |x::os,i0,j,o,hf,h=>by
  simp only[zAX,J2]at hf;cases j with
  |zero=>
   grind
  |succ j=>
   intro m hm;have:=zGT os (i0+1) j o hf.2 (by grind) m hm;omega
theorem zKA(an:List (List Nat)):∀(ls:List (List Nat))(os:List Oper)(j:Nat)(l:List Nat),zA2 an ls os=iH→ls[j]? =iF l→ ∃o,os[j]? =iF o∧ ∀k∈l,k∈zB6 o∨ ∃m∈zB6 o,k∈an.getD m []
 | [],_,j,_,_,h=>by simp at h
 |_::_,[],_,_,h,_=>by grind[zA2]
 |x::ls,o::os,j,l,ha,h=>by
  simp only[zA2,J2]at ha;cases j with
  |zero=>
   simp_all
  |succ j=>
   obtain⟨o',h1,h2⟩:=zKA an ls os j l ha.2 (by grind)
   grind
theorem zFP(Xs:List Stp):∀(Ys:List Stp)(j0:Nat)(an:List (List Nat))(j:Nat)(Y:Stp),kN Xs j0 an Ys=iH→Ys[j]? =iF Y→ ∀i X,i<j0+j→Xs[i]? =iF X→i∈an.getD j []∨X.apart Y=iH
 | [],_,_,j,_,_,h=>by simp at h
 |Z::Ys,j0,an,j,Y,hp,h=>by
  simp only[kN,J2]at hp;intro i X hi hX;cases j with
  |zero=>
   simp at h;subst h;have:=Kc.1 hp.1 i (by grind);simp only[hX,Bool.or_eq_true,H3,decide_eq_true_eq]at this;rcases this with h|h
   ·left
    cases an with
    |nil=>simp at h
    |cons l an=>grind
   grind
  |succ j=>
   rcases zFP Xs Ys (j0+1) an.tail j Y hp.2 (by grind) i X (by omega) hX with h|h
   all_goals grind
section
variable {P:Program}{Γ:Ctx}{pn:kM}{ops:Array Oper}
def zTa(ops:Array Oper)(L:List Bool):Prop:=∀(i:Nat)(o:Oper),ops[i]? =iF o→L[i]? =iF iH→ ∀m∈zB6 o,L[m]? =iF iH
theorem zHD{L:List Bool}{an:List (List Nat)}(hf:zAX 0 ops.toList=iH)(ha:zA2 an an ops.toList=iH)(hc:zTa ops L):
  ∀(n i:Nat),i≤n→ ∀o,ops[i]? =iF o→(∀m∈zB6 o,L[m]? =iF iH)→ ∀k∈an.getD i [],L[k]? =iF iH:=by
 intro n
 induction n with
 |zero=>
  intro i hi o ho hp k hk;have i7:i=0:=by omega
  subst i7;cases hl:an[0]? with
  |none=>grind
  |some l=>
   obtain⟨o',h1,h2⟩:=zKA an an ops.toList 0 l ha hl;rw[Ky,ho]at h1;simp at h1;subst h1;simp only[Jcm,hl,Jbb]at hk;rcases h2 k hk with h|⟨m,h,_⟩
   ·grind
   ·have:=zGT ops.toList 0 0 o hf (by grind) m h
    omega
 |succ n ih=>
  intro i hi o ho hp k hk;cases hl:an[i]? with
  |none=>grind
  |some l=>
   obtain⟨o',h1,h2⟩:=zKA an an ops.toList i l ha hl;rw[Ky,ho]at h1;simp at h1;subst h1;simp only[Jcm,hl,Jbb]at hk;rcases h2 k hk with h|⟨m,h,hkm⟩
   ·grind
   ·have gH:=zGT ops.toList 0 i o hf (by grind) m h
    have hLm:=hp m h;cases d8:ops[m]? with
    |none=>
     grind
    |some om=>exact ih m (by omega) om d8 (hc m om d8 hLm) k hkm
theorem zJD{L:List Bool}{b:Bool}{X:Stp}(hL:L[i]? =iF b)(hX:Xs[i]? =iF X):L.zip Xs=(L.take i).zip (Xs.take i)++(b,X)::(L.drop (i+1)).zip (Xs.drop (i+1)):=by
 have h1:L=L.take i++b::L.drop (i+1):=by obtain⟨h,rfl⟩:=Jv.1 hL;simp
 have h2:Xs=Xs.take i++X::Xs.drop (i+1):=by obtain⟨h,rfl⟩:=Jv.1 hX;simp
 grind[List.zip_cons_cons]
theorem zKB{L:List Bool}{y:Bool×Stp}(h:y∈L.zip Xs):∃j:Nat,L[j]? =iF y.1∧Xs[j]? =iF y.2:=by grind[Qq,List.getElem?_zip_eq_some]
def qI:Env→List Stp→Prop
 |_,[]=>True
 |E,X::Xs=>E.Has X.rd∧qI (E.apps X.l) Xs
theorem qI.get:∀(Xs:List Stp)(E:Env),qI E Xs→ ∀(i:Nat)(X:Stp),Xs[i]? =iF X→(runD E ((Xs.take i).map fun y=>(iH,y))).Has X.rd
 | [],_,_,i,_,h=>by simp at h
 |Y::Xs,E,hh,i,X,h=>by
  cases i with
  |zero=>simp at h;subst h;simpa[runD]using hh.1
  |succ i=>
   have:=qI.get Xs _ hh.2 i X (by grind)
   grind[runD]
theorem Stp.apart_spec{a b:Stp}(h:a.apart b=iH):zFM a.l b.l=iH∧(∀s∈a.slots,s∉b.rd.map (·.1))∧(∀s∈b.slots,s∉a.rd.map (·.1))∧ ∀x∈a.rd,∀y∈b.l,x.2.okB y.2=iH:=by simp only[Stp.apart,J2]at h;refine⟨h.1.1.1,by grind[zHB],by grind[zHB],fun x hx y hy=>?_⟩;exact Kc.1 (Kc.1 h.2 x hx) y hy
mutual
theorem zPM:(t:T)→t.okB []=iH
 |.same _ _|.addr _ _|.sub _ _ _ _ _=>by rfl
 |.agg xs|.tup xs=>by simp only[T.okB];exact zMb xs
 |.any|.lit _|.ro _|.sl _ _|.ptr _=>by rfl
theorem zMb:(xs:List T)→zLA [] xs=iH
 | []=>by rfl
 |x::xs=>by simp only[zLA,zPM x,zMb xs,Lb]
end
theorem Rep.heap{w:World}(h:Rep Γ E G tmps w)(hw:w'.heap=w.heap)(ho:w'.os=w.os:=by rfl)(hq:w'.output=w.output:=by rfl):Rep Γ E G tmps w' where
 size:=h.size
 ent s t hs:=Ent.keep (chg:=[]) ⟨fun _ _ _=>rfl,fun _ _ _=>rfl,by grind[yU,World.cell?],fun _ _ _ h _=>h,fun b cs e h=>⟨cs,by grind,rfl⟩⟩ (by simp) (zPM t) (h.ent s t hs)
 mem:=by
  have hm:=h.mem;exact⟨hm.one,fun b o l hl=>by have:=hm.lb b o l hl;exact⟨by rw[hw];exact this.1,this.2⟩,fun b l hl=>by have:=hm.ow b l hl;exact⟨by rw[hw];exact this.1,this.2⟩,
   fun b x hx=>by rw[hw];exact hm.st b x hx,fun b h1 h2=>by rw[hw];exact hm.fr b h1 h2,by rw[hw];exact hm.sz,hm.bk.trans (fun b cs e hb=>⟨cs,by grind,rfl⟩) ho hq⟩
end
abbrev I(n:Int):T:=.lit (.int .i64 n)
abbrev B(b:Bool):T:=.lit (.bool b)
abbrev L{α:Type}(k:Nat)(f:α→T)(xs:List α):T:=.sl k (xs.map f)
theorem zU{t:TypeId}(h:P.types[t]? =iF ti):P.info? t=iF ti:=by grind[Tables.info?]
def Ok(P:Program)(Γ:Ctx)(o:Oper)(E E':Env):Prop:=∀S,wP P (Γ.at S) o E E'
section
variable {P:Program}{Γ:Ctx}{pn:kM}{ops:Array Oper}{o:Oper}{os:List Oper}{E E':Env}{Q:Exit→Env→Prop}{d:Nat}
theorem RW.op(h:Ok P Γ o E E')(k:RW P Γ pn ops os E' Q)(hg:o.guard=iG:=by rfl)(hp:pn.ok o.dst=iH:=by rfl):RW P Γ pn ops (o::os) E Q:=RW.cons (zW.op h hg) k hp
def neD(x:Operand)(d:Nat):Bool:=match x with
 |.tmp s=>s != d
 |_=>iH
theorem zES{x:Operand}{d:Nat}(h:neD x d=iH):∀s,x=.tmp s→s≠d:=by rintro s rfl;grind[neD]
theorem zB7{t:T}(h:t.okTup=iH):∀xs,t≠.tup xs:=by rintro xs rfl;grind[T.okTup]
abbrev mvB(Γ:Ctx)(x:Operand)(t:T)(d:Nat):Bool:=J4 d Γ.N&&t.okTup&&neD x d&&T.okB [(d,0)] (tL x t)
section
variable {x y:Operand}{t:T}{ty:TypeId}{ps:String}{af:Array Edge}{gd:Option (Nat×Bool)}
theorem yN{a b:Nat}(h:J4 a b=iH):a<b:=by grind[Nat.blt_eq]
theorem zOg(hx:opT E x=iF t)(sd:mvB Γ x t d=iH):Ok P Γ ⟨iF d,.move x,ty,ps,af,gd⟩ E (E.app [(d,iF (tL x t))] [(d,0)]):=by simp only[mvB,J2]at sd;exact fun S=>zP6 x t (.inl rfl) rfl (yN sd.1.1.1) hx (zB7 sd.1.1.2) (zES sd.1.2) sd.2
theorem zWM(hx:opT E x=iF t)(sd:mvB Γ x t d=iH):Ok P Γ ⟨iF d,.assign x,ty,ps,af,gd⟩ E (E.app [(d,iF (tL x t))] [(d,0)]):=by simp only[mvB,J2]at sd;exact fun S=>zP6 x t (.inr rfl) rfl (yN sd.1.1.1) hx (zB7 sd.1.1.2) (zES sd.1.2) sd.2
def inR(n:Int):Bool:=decide (-9223372036854775808≤n)&&decide (n≤9223372036854775807)
theorem zCJ(h:inR n=iH):IntKind.i64.wrap n=n:=by
 simp only[inR,J2,decide_eq_true_eq]at h;have hb:IntKind.i64.bits=64:=rfl;have hs:IntKind.i64.signed=iH:=rfl;simp only[IntKind.wrap,hb,hs,Bool.true_and]
 grind
def rng(n:Int):Option Int:=if inR n then iF n else iG
theorem zCK(h:rng n=iF m):m=n∧inR n=iH:=by grind[rng]
theorem qW{c:Int}(hv:rng (m+n)=iF c)(hx:opT E x=iF (I m))(hy:opT E y=iF (I n))(sd:J4 d Γ.N=iH):Ok P Γ ⟨iF d,.binOp .add xt x y yt,ty,ps,af,gd⟩ E (E.app [(d,iF (I c))] [(d,0)]):=by obtain⟨rfl,h⟩:=zCK hv;exact fun S=>sO .add xt yt x y .i64 m n _ rfl rfl (yN sd) hx hy (by grind[zKt,zCJ])
theorem zMc(hx:opT E x=iF (I m))(hy:opT E y=iF (I n))(sd:J4 d Γ.N=iH):Ok P Γ ⟨iF d,.binOp .lss xt x y yt,ty,ps,af,gd⟩ E (E.app [(d,iF (B (decide (m<n))))] [(d,0)]):=
 fun _S=>sO .lss xt yt x y .i64 m n _ rfl rfl (yN sd) hx hy rfl
theorem zCz(k:Nat)(sd:J4 d Γ.N=iH):Ok P Γ ⟨iF d,.assign (.const (.slice iG 0 0)),ty,ps,af,gd⟩ E (E.app [(d,iF (.sl k []))] [(d,0)]):=
 fun _=>zLH k _ (.inr rfl) rfl rfl (yN sd)
def xI(n:Int):Option Nat:=if 0≤n∧n≤68719476736 then iF n.toNat else iG
theorem zHE{m:Nat}(h:xI n=iF m):n=(m:Int)∧m≤68719476736:=by grind[xI]
class ElT (P:Program) (t:TypeId) (e:outParam TypeId) (ti:outParam TypeInfo) (k:outParam Nat) (u:outParam T):Prop where
 un:P.underlying t=iF (.slice e)
 info:P.info? e=iF ti
 zero:∃z,ti.zero=iF z∧sC u=z.cells.toList
 size:ti.size=k
 pos:0<k
 zok:u.zOk=iH
 us:u.size=k
 bytes:ti.bytes≤2048
theorem zZr{t:TypeId}{n m:Nat}{a b:Int}(ht:ElT P t e ti k u)(hn:xI a=iF n)(hx:opT E x=iF (I a))(hm:xI b=iF m)(hy:opT E y=iF (I b))(pA:n≤m)(sd:J4 d Γ.N=iH):
  Ok P Γ ⟨iF d,.makeSlice t x y,ty,ps,af,gd⟩ E (E.app [(d,iF (.sl k (J1 n u)))] [(d,0)]):=by
 obtain⟨rfl,h1⟩:=zHE hn;obtain⟨rfl,h2⟩:=zHE hm;obtain⟨z,hz,hv⟩:=ht.zero;exact fun S=>zWG t e ti z u k x y n m .i64 .i64 rfl rfl (yN sd) ht.un ht.info hz ht.size ht.pos ht.zok hv ht.us (H2 ht.bytes (by decide)) hx hy pA h2
end
end
def ixO{α:Type}(xs:List α)(i:Int):Option α:=if 0≤i then xs[i.toNat]? else iG
theorem uZ{α:Type}{xs:List α}{i:Int}{v:α}(h:ixO xs i=iF v):0≤i∧xs[i.toNat]? =iF v:=by grind[ixO]
def zA3:T→Bool
 |.same _ _=>iI
 |_=>iH
theorem tH{t:T}(h1:E s=iF (.same r q))(h2:E r=iF t)(h3:t.get q.reverse=iF u)(h4:zA3 u=iH):tU E (.tmp s)=iF (r,q,u):=by
 have hg:∀t:T,t.get []=iF t:=fun t=>by rfl
 grind[zA3,tU,jG]
theorem wA{t:T}(h1:E s=iF t)(h4:zA3 t=iH):tU E (.tmp s)=iF (s,[],t):=by
 have hg:∀t:T,t.get []=iF t:=fun t=>by rfl
 grind[zA3,tU,jG]
section
variable {P:Program}{Γ:Ctx}{E:Env}{d:Nat}{x y:Operand}{ty:TypeId}{ps:String}{af:Array Edge}{gd:Option (Nat×Bool)}
class zBW (P:Program) (t:TypeId) (e:outParam TypeId) (ti:outParam TypeInfo) (k:outParam Nat):Prop where
 un:P.underlying t=iF (.slice e)
 info:P.info? e=iF ti
 size:ti.size=k
theorem zFQ{α:Type}{t:TypeId}{f:α→T}{xs:List α}{v:α}{i:Int}(ht:zBW P t e ti k)(hv:ixO xs i=iF v)(hx:tU E x=iF (r,q,L k f xs))(hy:opT E y=iF (I i))(sd:J4 d Γ.N=iH):
  Ok P Γ ⟨iF d,.indexAddr t x y,ty,ps,af,gd⟩ E (E.app [(d,iF (.addr r (i.toNat::q)))] [(d,0)]):=by
 obtain⟨h1,h2⟩:=uZ hv;exact fun S=>zS8 x y t e ti r q k _ .i64 i rfl rfl (yN sd) ht.un ht.info ht.size hx hy h1 (by grind)
theorem zB8{α:Type}{t:TypeId}{f:α→T}{xs:List α}{v:α}{i:Int}(ht:zBW P t e ti k)(hv:ixO xs i=iF v)(hx:tU E x=iF (r,q,.ro (L k f xs)))(hy:opT E y=iF (I i))(sd:J4 d Γ.N=iH):
  Ok P Γ ⟨iF d,.indexAddr t x y,ty,ps,af,gd⟩ E (E.app [(d,iF (.ro (.ptr (f v))))] [(d,0)]):=by
 obtain⟨h1,h2⟩:=uZ hv;exact fun S=>zS9 x y t e ti r q k _ .i64 i _ rfl rfl (yN sd) ht.un ht.info ht.size hx hy h1 (by simp[h2])
theorem zTb{α:Type}{t:TypeId}{f:α→T}{xs:List α}(hu:P.underlying t=iF (.slice e))(hx:tU E x=iF (r,q,L k f xs))(sd:J4 d Γ.N=iH):
  Ok P Γ ⟨iF d,.call { callee:=.builtin .len,args:=#[x],argTypes:=#[t] },ty,ps,af,gd⟩ E (E.app [(d,iF (I xs.length))] [(d,0)]):=
 fun _=>zS7 x t _ r q (L k f xs) xs.length rfl rfl (yN sd) hu hx (by simp[zLB]) rfl
theorem zTc{α:Type}{t:TypeId}{f:α→T}{xs:List α}(hu:P.underlying t=iF (.slice e))(hx:tU E x=iF (r,q,.ro (L k f xs)))(sd:J4 d Γ.N=iH):
  Ok P Γ ⟨iF d,.call { callee:=.builtin .len,args:=#[x],argTypes:=#[t] },ty,ps,af,gd⟩ E (E.app [(d,iF (I xs.length))] [(d,0)]):=
 fun _=>zS7 x t _ r q (.ro (L k f xs)) xs.length rfl rfl (yN sd) hu hx (by simp[zLB]) rfl
structure zWN (P:Program) (t:TypeId) (u:T):Prop where
 h:∃ds ti,P.underlying t=iF ds∧P.info? t=iF ti∧zFD ds= !u.single∧ti.size=u.size
theorem yAU{t:TypeId}(ht:zWN P t u)(hx:opT E x=iF (.ro (.ptr u)))(sd:J4 d Γ.N=iH):Ok P Γ ⟨iF d,.load t x,ty,ps,af,gd⟩ E (E.app [(d,iF (roT u))] [(d,0)]):=by obtain⟨ds,ti,h1,h2,h3,h4⟩:=ht.h;exact fun S=>zNY x t ds ti u rfl rfl (yN sd) h1 h2 h3 h4 hx
theorem zET{t:TypeId}{tr:T}(ht:zWN P t u)(hx:opT E x=iF (.addr r q))(hr:E r=iF tr)(hg:tr.get q.reverse=iF u)(sd:(J4 d Γ.N&&tr.locd q.reverse&&(r != d)&&T.okB [(d,0)] (cpT r u q))=iH):
  Ok P Γ ⟨iF d,.load t x,ty,ps,af,gd⟩ E (E.app [(d,iF (cpT r u q))] [(d,0)]):=by
 obtain⟨ds,ti,h1,h2,h3,h4⟩:=ht.h;simp only[J2]at sd;exact fun S=>zWF x t ds ti r q tr u rfl rfl (yN sd.1.1.1) h1 h2 h3 h4 hx hr hg sd.1.1.2 (by grind) sd.2
end
section
variable {P:Program}{Γ:Ctx}{E:Env}{x:Operand}{ty:TypeId}{ps:String}{af:Array Edge}{gd:Option (Nat×Bool)}
theorem yDK{t:TypeId}{tr:T}{v:Value}(hi:P.info? t=iF ti)(gz:ti.size=1)(hx:opT E x=iF (.addr r q))(hr:E r=iF tr)(hg:tr.get q.reverse=iF u0)(gv:tr.set q.reverse (.lit v)=tr')(hy:E s=iF (.lit v))
  (sd:(tr.single&&tr.locd q.reverse&&vO (.lit v) u0&&(r != s))=iH):Ok P Γ ⟨iG,.store t x (.tmp s),ty,ps,af,gd⟩ E (E.app [(r,iF tr')] [(r,q.length)]):=by
 simp only[J2]at sd;subst gv;intro S;have:=zLL (P:=P) (Γ:=Γ.at S) (E:=E) (o:=⟨iG,.store t x (.tmp s),ty,ps,af,gd⟩) t ti x (.tmp s) r q tr u0 (.slot s (.lit v)) rfl rfl hi (by rw[gz];rfl) (by omega) hx hr sd.1.1.1 hg sd.1.1.2 sd.1.2 (.slot s _)
  ⟨fun s' t' h=>by simp at h;obtain⟨rfl,rfl⟩:=h;exact⟨hy,by simp[yE,xG],rfl⟩,by simp,by simp[xW,sV]⟩
 exact this
theorem yAV{t:TypeId}{tr:T}{v:Value}(hi:P.info? t=iF ti)(gz:ti.size=1)(hx:opT E x=iF (.addr r q))(hr:E r=iF tr)(hg:tr.get q.reverse=iF u0)(gv:tr.set q.reverse (.lit v)=tr')
  (sd:(tr.single&&tr.locd q.reverse&&vO (.lit v) u0&&(T.lit v).zOk)=iH)(hz:sC (.lit v)=v.cells.toList):Ok P Γ ⟨iG,.store t x (.const v),ty,ps,af,gd⟩ E (E.app [(r,iF tr')] [(r,q.length)]):=by
 simp only[J2]at sd;subst gv;intro S;have:=zLL (P:=P) (Γ:=Γ.at S) (E:=E) (o:=⟨iG,.store t x (.const v),ty,ps,af,gd⟩) t ti x (.const v) r q tr u0 (.zero (.lit v)) rfl rfl hi (by rw[gz];rfl) (by omega) hx hr sd.1.1.1 hg sd.1.1.2 sd.1.2 (.zero v _ hz)
  ⟨by simp,by grind,by simp[xW]⟩
 exact this
end
theorem zP.tr(d r:Nat)(u:T)(hd:E d=iF (.same r []))(hr:E r=iF u)(eC:yE u)(sd:(u.single&&xN u&&u.okB [(d,1),(r,1)]&&(d != r))=iH):
  zP Γ E (E.app [(d,iF u),(r,iF (.same d []))] [(d,1),(r,1)]):=by
 simp only[J2]at sd
 rintro a w ⟨S,hS,hs⟩
 have gg:d≠r:=by grind
 have hg:∀t:T,t.get []=iF t:=fun t=>by rfl
 have:=zOc hs d [] r [] (.same r []) u u hd rfl hr (hg u) sd.1.1.1 eC gg (by simp[T.okB,zAw]) sd.1.2 rfl sd.1.1.2;exact⟨S,hS,this⟩
theorem zEo{α:Type}{f:α→T}(hf:∀x,yE (f x)):(xs:List α)→xT (xs.map f)
 | []=>trivial
 |x::xs=>⟨hf x,zEo hf xs⟩
theorem zPN{α:Type}{f:α→T}{xs:List α}(hf:∀x,yE (f x)):yE (L k f xs):=by simp only[yE,xG];grind[zEo]
theorem zPO(n:Int):yE (I n):=by simp[yE,xG]
theorem zWO(b:Bool):yE (B b):=by simp[yE,xG]
section
variable {P:Program}{Γ:Ctx}{E:Env}{d:Nat}{x y:Operand}{ty:TypeId}{ps:String}{af:Array Edge}{gd:Option (Nat×Bool)}{m n c:Int}{xt yt:TypeId}
theorem zG7(hv:rng (m-n)=iF c)(hx:opT E x=iF (I m))(hy:opT E y=iF (I n))(sd:J4 d Γ.N=iH):Ok P Γ ⟨iF d,.binOp .sub xt x y yt,ty,ps,af,gd⟩ E (E.app [(d,iF (I c))] [(d,0)]):=by obtain⟨rfl,h⟩:=zCK hv;exact fun _=>sO .sub xt yt x y .i64 m n _ rfl rfl (yN sd) hx hy (by grind[zKt,zCJ])
theorem zTd(hv:rng (m*n)=iF c)(hx:opT E x=iF (I m))(hy:opT E y=iF (I n))(sd:J4 d Γ.N=iH):Ok P Γ ⟨iF d,.binOp .mul xt x y yt,ty,ps,af,gd⟩ E (E.app [(d,iF (I c))] [(d,0)]):=by obtain⟨rfl,h⟩:=zCK hv;exact fun _=>sO .mul xt yt x y .i64 m n _ rfl rfl (yN sd) hx hy (by grind[zKt,zCJ])
def sK(m n:Int):Option Int:=if n=0 then iG else rng (m.tdiv n)
def tV(m n:Int):Option Int:=if n=0 then iG else iF (m.tmod n)
theorem yAW(hv:sK m n=iF c)(hx:opT E x=iF (I m))(hy:opT E y=iF (I n))(sd:J4 d Γ.N=iH):Ok P Γ ⟨iF d,.binOp .quo xt x y yt,ty,ps,af,gd⟩ E (E.app [(d,iF (I c))] [(d,0)]):=by
 unfold sK at hv;split at hv
 ·cases hv
 ·rename_i h0
  obtain⟨rfl,h⟩:=zCK hv;exact fun _=>sO .quo xt yt x y .i64 m n _ rfl rfl (yN sd) hx hy (by simp only[zKt,h0,if_false,zCJ h])
theorem zYw(hv:tV m n=iF c)(hx:opT E x=iF (I m))(hy:opT E y=iF (I n))(sd:J4 d Γ.N=iH):Ok P Γ ⟨iF d,.binOp .rem xt x y yt,ty,ps,af,gd⟩ E (E.app [(d,iF (I c))] [(d,0)]):=by
 unfold tV at hv;split at hv
 ·cases hv
 ·rename_i h0
  simp at hv;subst hv;exact fun _=>sO .rem xt yt x y .i64 m n _ rfl rfl (yN sd) hx hy (by simp only[zKt,h0,if_false])
theorem zTe(hx:opT E x=iF (I m))(hy:opT E y=iF (I n))(sd:J4 d Γ.N=iH):Ok P Γ ⟨iF d,.binOp .leq xt x y yt,ty,ps,af,gd⟩ E (E.app [(d,iF (B (decide (m≤n))))] [(d,0)]):=
 fun _=>sO .leq xt yt x y .i64 m n _ rfl rfl (yN sd) hx hy rfl
theorem zTf(hx:opT E x=iF (I m))(hy:opT E y=iF (I n))(sd:J4 d Γ.N=iH):Ok P Γ ⟨iF d,.binOp .gtr xt x y yt,ty,ps,af,gd⟩ E (E.app [(d,iF (B (decide (m> n))))] [(d,0)]):=
 fun _=>sO .gtr xt yt x y .i64 m n _ rfl rfl (yN sd) hx hy rfl
theorem zPP(hx:opT E x=iF (I m))(hy:opT E y=iF (I n))(sd:J4 d Γ.N=iH):Ok P Γ ⟨iF d,.binOp .geq xt x y yt,ty,ps,af,gd⟩ E (E.app [(d,iF (B (decide (m≥n))))] [(d,0)]):=
 fun _=>sO .geq xt yt x y .i64 m n _ rfl rfl (yN sd) hx hy rfl
theorem zMd(hx:opT E x=iF (I m))(hy:opT E y=iF (I n))(sd:J4 d Γ.N=iH):Ok P Γ ⟨iF d,.binOp .eql xt x y yt,ty,ps,af,gd⟩ E (E.app [(d,iF (B (m==n)))] [(d,0)]):=
 fun _=>sO .eql xt yt x y .i64 m n _ rfl rfl (yN sd) hx hy rfl
theorem zPQ(hx:opT E x=iF (I m))(hy:opT E y=iF (I n))(sd:J4 d Γ.N=iH):Ok P Γ ⟨iF d,.binOp .neq xt x y yt,ty,ps,af,gd⟩ E (E.app [(d,iF (B (m != n)))] [(d,0)]):=
 fun _=>sO .neq xt yt x y .i64 m n _ rfl rfl (yN sd) hx hy rfl
theorem zB9{b:Bool}(hx:opT E x=iF (B b))(sd:J4 d Γ.N=iH):Ok P Γ ⟨iF d,.unOp .not xt x,ty,ps,af,gd⟩ E (E.app [(d,iF (B (!b)))] [(d,0)]):=
 fun _=>zZm xt x b rfl rfl (yN sd) hx
theorem zYx(hv:rng (0-n)=iF c)(hx:opT E x=iF (I n))(sd:J4 d Γ.N=iH):Ok P Γ ⟨iF d,.unOp .neg xt x,ty,ps,af,gd⟩ E (E.app [(d,iF (I c))] [(d,0)]):=by
 obtain⟨rfl,h⟩:=zCK hv;have:=fun S=>zZn (P:=P) (Γ:=Γ.at S) (E:=E) (o:=⟨iF d,.unOp .neg xt x,ty,ps,af,gd⟩) xt x .i64 n rfl rfl (yN sd) hx
 rw[zCJ h]at this;exact this
end
section
variable {P:Program}{Γ:Ctx}{E:Env}{d:Nat}{x y:Operand}{ty:TypeId}{ps:String}{af:Array Edge}{gd:Option (Nat×Bool)}
class zHF (P:Program) (t:TypeId) (u:outParam T):Prop where
 h:∃ti z,P.info? t=iF ti∧ti.zero=iF z∧u.zOk=iH∧sC u=z.cells.toList∧z.cells.size=u.size
theorem zKC{t:TypeId}(ht:zHF P t u)(sd:J4 d Γ.N=iH):Ok P Γ ⟨iF d,.alloc t,ty,ps,af,gd⟩ E (E.app [(d,iF (.ptr u))] [(d,0)]):=by obtain⟨ti,z,h1,h2,h3,h4,h5⟩:=ht.h;exact fun S=>zSI t ti z u rfl rfl (yN sd) h1 h2 h3 h4 h5
theorem zTg{t:T}(hs:E s=iF (.tup ts))(hi:ts[i]? =iF t)(sd:(J4 d Γ.N&&t.okTup&&(s != d)&&T.okB [(d,0)] (cpT s t [i]))=iH):
  Ok P Γ ⟨iF d,.extract (.tmp s) i,ty,ps,af,gd⟩ E (E.app [(d,iF (cpT s t [i]))] [(d,0)]):=by
 simp only[J2]at sd;exact fun S=>zNZ s i ts t rfl rfl (yN sd.1.1.1) hs hi (zB7 sd.1.1.2) (by grind) sd.2
theorem zBp{t:T}(hx:opT E x=iF t)(hp:zG0 E x=iH)(sd:mvB Γ x t d=iH):Ok P Γ ⟨iF d,.nilCheck x,ty,ps,af,gd⟩ E (E.app [(d,iF (tL x t))] [(d,0)]):=by simp only[mvB,J2]at sd;exact fun S=>zZo x t rfl rfl (yN sd.1.1.1) hx hp (zB7 sd.1.1.2) (zES sd.1.2) sd.2
theorem zOh{c:Operand}{b:Bool}{t:T}(hc:opT E c=iF (B b))(hx:opT E (if b then x else y)=iF t)(sd:mvB Γ (if b then x else y) t d=iH):Ok P Γ ⟨iF d,.pick c x y,ty,ps,af,gd⟩ E (E.app [(d,iF (tL (if b then x else y) t))] [(d,0)]):=by simp only[mvB,J2]at sd;exact fun S=>zWC c x y b t rfl rfl (yN sd.1.1.1) hc hx (zB7 sd.1.1.2) (zES sd.1.2) sd.2
theorem zYy{t:TypeId}(hs:E s=iF u)(hu:yE u)(sd:(J4 d Γ.N&&u.okTup&&(s != d))=iH):
  Ok P Γ ⟨iF d,.box t (.tmp s),ty,ps,af,gd⟩ E (E.app ((d,iF (.ptr u))::pWr d [.slot s u] 0) ((d,0)::sW [.slot s u])):=by
 simp only[J2]at sd;have gg:s≠d:=by grind
 refine fun S=>zZq t (.tmp s) (.slot s u) rfl rfl (yN sd.1.1) (.slot s u) ⟨by grind,by simp,?_⟩
 simp only[xW]
 grind
end
def xS{α:Type}(xs ys:List α):Option (List α):=if xs.length+ys.length≤68719476736 then iF (xs++ys)else iG
theorem zFR{α:Type}{xs ys zs:List α}(h:xS xs ys=iF zs):zs=xs++ys∧xs.length+ys.length≤68719476736:=by grind[xS]
section
variable {P:Program}{Γ:Ctx}{E:Env}{d:Nat}{x y:Operand}{ty:TypeId}{ps:String}{af:Array Edge}{gd:Option (Nat×Bool)}
theorem ElT.zsize{t:TypeId}(h:ElT P t e ti k u):∃z,ti.zero=iF z∧z.cells.size=k:=by obtain⟨z,h1,h2⟩:=h.zero;exact⟨z,h1,by rw[←Kt,←h2,vV u h.zok,h.us]⟩
theorem zBX{α:Type}{t:TypeId}{f:α→T}{xs ys zs:List α}{s1:Nat}(ht:ElT P t e ti k u)(hv:xS xs ys=iF zs)(h0:E s0=iF (L k f xs))(h1:E s1=iF (L k f ys))(sd:(J4 d Γ.N&&(s0 != d)&&(s1 != d)&&(s1 != s0))=iH):
  Ok P Γ ⟨iF d,.call { callee:=.builtin .append,args:=#[.tmp s0,.tmp s1],argTypes:=#[t,t] },ty,ps,af,gd⟩ E (E.app [(d,iF (L k f zs)),(s0,iF .any),(s1,iF .any)] [(d,0),(s0,1),(s1,1)]):=by
 obtain⟨rfl,hl⟩:=zFR hv;obtain⟨z,hz,fZ⟩:=ht.zsize;simp only[J2]at sd;intro S;have:=zK3 (P:=P) (Γ:=Γ.at S) (E:=E) (o:=⟨iF d,.call { callee:=.builtin .append,args:=#[.tmp s0,.tmp s1],argTypes:=#[t,t] },ty,ps,af,gd⟩) t e ti z k s0 s1 (xs.map f) (ys.map f) rfl rfl (yN sd.1.1.1) ht.un ht.info hz ht.size ht.pos fZ ht.bytes h0 h1
  (by grind) (by grind) (by grind) (by grind)
 rw[←Lm]at this;exact this
theorem zJE{α:Type}{f:α→T}(hf:∀x,(f x).flat=iH):(xs:List α)→zAI (xs.map f)=iH
 | []=>rfl
 |x::xs=>by simp only[Jr,zAI,hf x,zJE hf xs,Lb]
theorem zOi{α:Type}{t:TypeId}{f:α→T}{xs ys zs:List α}(ht:ElT P t e ti k u)(hf:∀x,(f x).flat=iH)(hv:xS xs ys=iF zs)(h0:E s0=iF (L k f xs))(h1:tU E y=iF (r,q,L k f ys))(sd:(J4 d Γ.N&&(s0 != d))=iH):
  Ok P Γ ⟨iF d,.call { callee:=.builtin .append,args:=#[.tmp s0,y],argTypes:=#[t,t] },ty,ps,af,gd⟩ E (E.app [(d,iF (L k f zs)),(s0,iF .any)] [(d,0),(s0,1)]):=by
 obtain⟨rfl,hl⟩:=zFR hv;obtain⟨z,hz,fZ⟩:=ht.zsize;simp only[J2]at sd;intro S;have:=zK4 (P:=P) (Γ:=Γ.at S) (E:=E) (o:=⟨iF d,.call { callee:=.builtin .append,args:=#[.tmp s0,y],argTypes:=#[t,t] },ty,ps,af,gd⟩) t e ti z k s0 y r q (xs.map f) (ys.map f) rfl rfl (yN sd.1) ht.un ht.info hz ht.size ht.pos fZ ht.bytes h0 h1 (zJE hf ys)
  (by grind) (by grind)
 rw[←Lm]at this;exact this
end
abbrev IK(k:IntKind)(n:Int):T:=.lit (.int k n)
abbrev Str(s:ByteArray):T:=.lit (.string s)
abbrev Pt{α:Type}(f:α→T)(x:α):T:=.ptr (f x)
abbrev Ro{α:Type}(f:α→T)(x:α):T:=.ro (f x)
abbrev A2{α:Type}(f:α→T)(x:α×α):T:=.agg [f x.1,f x.2]
theorem bd{α β:Type}{o:Option α}{f:α→Option β}{r:β}(h:o.bind f=iF r):∃v,o=iF v∧f v=iF r:=by
 cases o with
 |none=>simp at h
 |some v=>grind
theorem cT{α:Type}{b:Bool}{x y:α}{z:α}(hc:b=iH)(h:cond b x y=z):x=z:=by grind
theorem cF{α:Type}{b:Bool}{x y:α}{z:α}(hc:b=iI)(h:cond b x y=z):y=z:=by grind
theorem sI{α:Type}{x y:α}(h:iF x=iF y):x=y:=Hu.inj h
section
variable {P:Program}{Γ:Ctx}{pn:kM}{E E':Env}{Q:Exit→Env→Prop}{c:Code}{id id':Nat}
theorem nA(h:CW P Γ pn c E Q):wR P Γ pn c Q .normal E:=h
theorem xA(h:Q (.exit id) E):wR P Γ pn c Q (.exit id) E:=h
theorem rA(h:Q .ret E):wR P Γ pn c Q .ret E:=h
theorem nB(h:Q .normal E):wV id Q .normal E:=h
theorem rB(h:Q .ret E):wV id Q .ret E:=h
theorem xB(h:Q .normal E):wV id Q (.exit id) E:=by simp only[wV,if_true];exact h
theorem neX:Exit.exit id≠.normal:=by simp
theorem neR:Exit.ret≠.normal:=by simp
theorem RW.cases{ops:Array Oper}{os:List Oper}(s:Nat)(b:Bool)(hb:E s=iF (B b))(ht:b=iH→RW P Γ pn ops os (E.app [(s,iF (B iH))] []) Q)(hf:b=iI→RW P Γ pn ops os (E.app [(s,iF (B iI))] []) Q):RW P Γ pn ops os E Q:=by
 have key:∀c:Bool,b=c→zP Γ E (E.app [(s,iF (B c))] []):=by
  rintro c rfl a w hs
  refine hs.weaken fun s' t h=>?_
  by_cases e:s=s'
  ·grind[Env.app,Wr.find]
  ·simp only[Env.app,Wr.find,e,if_false]at h
   grind
 cases hc:b with
 |true=>grind[ghost]
 |false=>grind[ghost]
end
theorem zT{α:Type}{f:α→T}{xs:List α}{i:Int}{v:α}{p:List Nat}(h:ixO xs i=iF v)(hr:(f v).get p=iF u):(L k f xs).get (i.toNat::p)=iF u:=by simp[T.get,(uZ h).2,hr]
theorem yZ{t:T}{p:List Nat}(h:t.get p=iF u):(T.ptr t).get (0::p)=iF u:=h
theorem yW{xs:List T}{x:T}{p:List Nat}(hj:xs[j]? =iF x)(h:x.get p=iF u):(T.agg xs).get (j::p)=iF u:=by grind[T.get]
theorem zAr{α:Type}{f:α→T}{xs:List α}{i:Int}{v w:α}{p:List Nat}(h:ixO xs i=iF v)(hr:(f v).set p u=f w):(L k f xs).set (i.toNat::p) u=L k f (xs.set i.toNat w):=by simp[L,T.set,(uZ h).2,hr,Jag]
theorem zBq{t t':T}{p:List Nat}(h:t.set p u=t'):(T.ptr t).set (0::p) u=T.ptr t':=by simp[T.set,h]
theorem zFS{xs:List T}{x x':T}{p:List Nat}(hj:xs[j]? =iF x)(h:x.set p u=x'):(T.agg xs).set (j::p) u=.agg (xs.set j x'):=by grind[T.set]
class Enc {α:Type} (f:α→T):Prop where
 clean:∀x,yE (f x)
 rofree:∀x,vF (f x)=iH
 strip:∀x,strip (f x)=f x
 okTup:∀x,(f x).okTup=iH
 rook:∀x,zFJ (f x)=iH
theorem zHG{α:Type}{f:α→T}(h:∀x,vF (f x)=iH):(xs:List α)→uO (xs.map f)=iH
 | []=>rfl
 |x::xs=>by simp only[Jr,uO,h x,zHG h xs,Lb]
theorem zHH{α:Type}{f:α→T}(h:∀x,zFJ (f x)=iH):(xs:List α)→zB4 (xs.map f)=iH
 | []=>rfl
 |x::xs=>by simp only[Jr,zB4,h x,zHH h xs,Lb]
theorem sG{α:Type}{f g:α→T}(h:∀x,strip (f x)=g x):(xs:List α)→vA (xs.map f)=xs.map g
 | []=>rfl
 |x::xs=>by simp only[Jr,vA,h x,sG h xs]
instance:Enc I:=⟨zPO,fun _=>rfl,fun _=>rfl,fun _=>rfl,fun _=>rfl⟩
instance:Enc B:=⟨zWO,fun _=>rfl,fun _=>rfl,fun _=>rfl,fun _=>rfl⟩
instance{k:IntKind}:Enc (IK k):=⟨fun _=>by simp[yE,xG],fun _=>rfl,fun _=>rfl,fun _=>rfl,fun _=>rfl⟩
instance:Enc Str:=⟨fun _=>by simp[yE,xG],fun _=>rfl,fun _=>rfl,fun _=>rfl,fun _=>rfl⟩
instance{α:Type}{k:Nat}{f:α→T}[h:Enc f]:Enc (L k f):=
 ⟨fun _=>zPN h.clean,fun xs=>by simp only[vF];exact zHG h.rofree xs,fun xs=>by simp only[L,strip,sG h.strip xs],fun _=>rfl,fun xs=>by simp only[zFJ,zHH h.rook xs]⟩
instance{α:Type}{f:α→T}[h:Enc f]:Enc (A2 f):=
 ⟨fun x=>by simp only[yE,xG,wC];exact⟨h.clean _,h.clean _,trivial⟩,fun x=>by simp only[vF,uO,h.rofree,Lb],fun x=>by simp only[A2,strip,vA,h.strip],
  fun x=>by simp only[T.okTup,yX,h.okTup,Lb],fun x=>by simp only[zFJ,zB4,h.rook,Lb]⟩
instance{α:Type}{f:α→T}[h:Enc f]:Enc (Pt f):=
 ⟨fun x=>by simp only[yE,xG];exact h.clean x,fun x=>by simp only[vF,h.rofree],fun x=>by simp only[Pt,strip,h.strip],fun _=>rfl,fun x=>by simp only[zFJ,h.rook]⟩
class tA {α:Type} (f g:α→T):Prop where
 h:∀x,strip (f x)=g x
instance{α:Type}{f:α→T}[h:Enc f]:tA f f:=⟨h.strip⟩
instance{α:Type}{k:Nat}{f g:α→T}[h:tA f g]:tA (L k f) (L k g):=⟨fun xs=>by simp only[L,strip,sG h.h xs]⟩
instance{α:Type}{k:Nat}{g:α→T}:tA (Ro (L k g)) (L k g):=⟨fun _=>rfl⟩
instance{α:Type}{g:α→T}:tA (Ro (Pt g)) (Pt g):=⟨fun _=>rfl⟩
theorem stA{xs ys:List T}(h:vA xs=ys):strip (.agg xs)=.agg ys:=by grind[strip]
theorem stC{x y:T}{xs ys:List T}(h:strip x=y)(h2:vA xs=ys):vA (x::xs)=y::ys:=by grind[vA]
section
variable {E:Env}{rw:Rw}{i s r:Nat}{q:List Nat}{x:Operand}
theorem jH{α:Type}{f g:α→T}{xs:List α}(h:tA f g):clo E (L k f xs)=.ro (L k g xs):=by simp only[clo,L,strip,sG h.h xs]
theorem zTh{t:T}(h:strip t=u):clo E (.ptr t)=.ro (.ptr u):=by grind[clo,strip]
theorem zDy{tr:T}(hr:E r=iF tr)(hg:tr.get q.reverse=iF u)(h4:zA3 u=iH):jG E 4 r q=iF (r,q,u):=by grind[zA3,jG]
theorem sL{α:Type}{f g:α→T}{xs:List α}{tr:T}(hr:E r=iF tr)(hg:tr.get q.reverse=iF (L k f xs))(h:tA f g):clo E (.same r q)=.ro (L k g xs):=by simp only[clo,zDy hr hg rfl,T.single,if_true,L,strip,sG h.h xs]
theorem yAX{t tr:T}(hr:E r=iF tr)(hg:tr.get q.reverse=iF (.ptr t))(h:strip t=u):clo E (.same r q)=.ro (.ptr u):=by simp only[clo,zDy hr hg rfl,T.single,if_true,strip,h]
theorem zZs{α:Type}{l h:Nat}{f g:α→T}{xs:List α}{tr:T}(hr:E r=iF tr)(hg:tr.get q.reverse=iF (L k f xs))(hs:tA f g)(h1:l≤h)(h2:h≤xs.length):clo E (.sub r q k l h)=.ro (L k g ((xs.drop l).take (h-l))):=by simp only[clo,zDy hr hg rfl,L,sG hs.h xs,Jt,h1,h2,and_self,if_true,Jbg,Ja6]
theorem jI{xs ys:List T}(h:zBV E xs=ys):clo E (.agg xs)=.agg ys:=by grind[clo]
theorem jJ:zBV E []=[]:=rfl
theorem wL{x y:T}{xs ys:List T}(h:clo E x=y)(h2:zBV E xs=ys):zBV E (x::xs)=y::ys:=by grind[zBV]
mutual
theorem zJF(s:Nat):(t:T)→t.okTup=iH→qO E [] s t=iH
 |.agg xs,h=>by simp only[qO,T.okTup]at h ⊢;exact zHI s xs h
 |.tup _,h=>by grind[T.okTup]
 |.same r q,_|.sub r q _ _ _,_=>by grind[qO]
 |.sl _ _,_|.ptr _,_=>by rfl
 |.lit _,_|.ro _,_|.any,_|.addr _ _,_=>by rfl
theorem zHI(s:Nat):(xs:List T)→yX xs=iH→zAJ E [] s xs=iH
 | [],_=>rfl
 |x::xs,h=>by simp only[yX,J2]at h;simp only[zAJ,zJF s x h.1,zHI s xs h.2,Lb]
end
theorem agC(t:T)(h:opT E x=iF t)(h1:clo E t=u)(h2:t.okTup=iH):zCy E [] i x u:=.inr ⟨t,h,h1,by
 cases x with
 |tmp s=>exact zJF s t h2
 |_=>rfl⟩
end
section
variable {P:Program}{Γ:Ctx}{E:Env}{d:Nat}{x y:Operand}{ty:TypeId}{ps:String}{af:Array Edge}{gd:Option (Nat×Bool)}
abbrev kB(res:List T):Prop:=xT res∧yX res=iH∧uO res=iH
theorem vD:kB []:=⟨trivial,rfl,rfl⟩
theorem vM{α:Type}{f:α→T}{x:α}(h:Enc f)(h2:kB ts):kB (f x::ts):=
 ⟨⟨h.clean x,h2.1⟩,by simp only[yX,h.okTup,h2.2.1,Lb],by simp only[uO,h.rofree,h2.2.2,Lb]⟩
abbrev zAK(P:Program)(f:FuncId):Prop:=∀args w,(callFunc f args).run P w=.ok (.enter f args) w
theorem xX{f:FuncId}{xs:List Operand}{res:List T}(gr:zAK P f)(hc:FnC P f us res [])(gc:wB E [] 0 xs us)(gk:kB res)(sd:J4 d Γ.N=iH):
  Ok P Γ ⟨iF d,.call { callee:=.value (.func f),args:=xs.toArray,argTypes:=ats },ty,ps,af,gd⟩ E (E.app (cWr d res []) (uJ d [])):=
 fun _S=>zK8 f (.func f) xs ats us res [] rfl rfl (yN sd) gr rfl hc gc .nil gk
theorem zWP{f:FuncId}{xs:List Operand}{res:List T}(gr:zAK P f)(hc:FnC P f us res [])(gj:xs.length=us.length)(gc:∀(i:Nat) u,us[i]? =iF u→ ∃x,xs[i]? =iF x∧opT E x=iF u∧u.flat=iH)(gk:xT res∧yX res=iH)(sd:J4 d Γ.N=iH):
  Ok P Γ ⟨iF d,.call { callee:=.value (.func f),args:=xs.toArray,argTypes:=ats },ty,ps,af,gd⟩ E (E.app (cWr d res []) (uJ d [])):=
 fun _S=>zSU f (.func f) xs ats us res rfl rfl (yN sd) gr rfl hc gj gc gk
class qS (P:Program) (S:TypeId) (j:Nat) (off:outParam Nat):Prop where
 h:∃fs f fi,P.underlying S=iF (.struct fs)∧fs[j]? =iF f∧P.info? f.type=iF fi∧fi.size≠0∧off=f.offset
theorem zZt{S:TypeId}{xs:List T}(ht:qS P S j off)(hx:tU E x=iF (r,q,.ptr (.agg xs)))(hu:xs[j]? =iF u)(gE:T.sizes (xs.take j)=off)(sd:J4 d Γ.N=iH):
  Ok P Γ ⟨iF d,.fieldAddr S x j,ty,ps,af,gd⟩ E (E.app [(d,iF (.addr r (j::0::q)))] [(d,0)]):=by
 obtain⟨fs,f,fi,h1,h2,h3,h4,h5⟩:=ht.h;exact fun _=>yAQ x S fs f fi j r q xs u rfl rfl (yN sd) h1 h2 h3 h4 hx hu (by omega)
theorem zC0{S:TypeId}{t:T}{xs:List T}(ht:qS P S j off)(hx:opT E x=iF (.addr r q))(hr:E r=iF t)(hg:t.get q.reverse=iF (.agg xs))(hu:xs[j]? =iF u)(gE:T.sizes (xs.take j)=off)(sd:(J4 d Γ.N&&t.locd q.reverse)=iH):
  Ok P Γ ⟨iF d,.fieldAddr S x j,ty,ps,af,gd⟩ E (E.app [(d,iF (.addr r (j::q)))] [(d,0)]):=by
 obtain⟨fs,f,fi,h1,h2,h3,h4,h5⟩:=ht.h;simp only[J2]at sd;exact fun _=>zNW x S fs f fi j r q t xs u rfl rfl (yN sd.1) h1 h2 h3 h4 hx hr hg sd.2 hu (by omega)
theorem zPR{S:TypeId}{xs:List T}(ht:qS P S j off)(hx:opT E x=iF (.ro (.ptr (.agg xs))))(hu:xs[j]? =iF u)(gE:T.sizes (xs.take j)=off)(sd:J4 d Γ.N=iH):
  Ok P Γ ⟨iF d,.fieldAddr S x j,ty,ps,af,gd⟩ E (E.app [(d,iF (.ro (.ptr u)))] [(d,0)]):=by
 obtain⟨fs,f,fi,h1,h2,h3,h4,h5⟩:=ht.h;exact fun _=>zSA x S fs f fi j xs u rfl rfl (yN sd) h1 h2 h3 h4 hx hu (by omega)
def yD{α:Type}(xs:List α)(l h:Int):Option (List α):=if 0≤l∧l≤h∧h≤(xs.length:Int)then iF ((xs.drop l.toNat).take (h.toNat-l.toNat))else iG
theorem zCL{α:Type}{t:TypeId}{f:α→T}{xs ys:List α}{lo hi:Option Operand}(ht:zBW P t e ti k)(hv:yD xs l h=iF ys)(hx:tU E x=iF (r,q,.ro (L k f xs)))(eF:zBS E lo 0 l.toNat)(fD:zBS E hi xs.length h.toNat)(sd:J4 d Γ.N=iH):
  Ok P Γ ⟨iF d,.slice t x lo hi iG,ty,ps,af,gd⟩ E (E.app [(d,iF (.ro (L k f ys)))] [(d,0)]):=by
 unfold yD at hv;split at hv
 ·rename_i hc
  simp at hv;subst hv;intro S;have:=zLF (P:=P) (Γ:=Γ.at S) (E:=E) (o:=⟨iF d,.slice t x lo hi iG,ty,ps,af,gd⟩) x lo hi t e ti r q k (xs.map f) l.toNat h.toNat rfl rfl (yN sd) ht.un ht.info ht.size hx eF (by grind) (by omega) (by simp;omega);simpa[L,Jbg,Ja6]using this
 ·cases hv
theorem zTi{α:Type}{t:TypeId}{f:α→T}{xs ys:List α}{lo hi:Option Operand}(ht:zBW P t e ti k)(hv:yD xs l h=iF ys)(hx:tU E x=iF (r,q,L k f xs))(eF:zBS E lo 0 l.toNat)(fD:zBS E hi xs.length h.toNat)(sd:(J4 d Γ.N&&(r != d))=iH):
  Ok P Γ ⟨iF d,.slice t x lo hi iG,ty,ps,af,gd⟩ E (E.app [(d,iF (.sub r q k l.toNat h.toNat))] [(d,0)]):=by
 unfold yD at hv;simp only[J2]at sd;split at hv
 ·rename_i hc
  intro S;exact zKv (P:=P) (Γ:=Γ.at S) (E:=E) (o:=⟨iF d,.slice t x lo hi iG,ty,ps,af,gd⟩) x lo hi t e ti r q k (xs.map f) l.toNat h.toNat rfl rfl (yN sd.1) ht.un ht.info ht.size hx eF (by grind) (by omega) (by simp;omega) (by grind)
 ·cases hv
end
theorem zC{t:T}(h:yE t):yE t:=h
theorem zL{α:Type}{f:α→T}{xs:List α}(hf:∀x,yE (f x)):yE (L k f xs):=zPN hf
theorem wJ{t:T}(h:yE t):yE (.ptr t):=by simpa only[yE,xG]using h
theorem yM{xs:List T}(h:xT xs):yE (.agg xs):=by simpa only[yE,xG]using h
section
variable {P:Program}{Γ:Ctx}{pn:kM}{E E':Env}{Q:Exit→Env→Prop}{c c1 c2:Code}{x:Operand}
theorem CW.condT(hx:opT E x=iF (B iH))(h:CW P Γ pn c1 E Q):CW P Γ pn (.cond x c1 c2) E Q:=by grind[CW.cond]
theorem CW.condF(hx:opT E x=iF (B iI))(h:CW P Γ pn c2 E Q):CW P Γ pn (.cond x c1 c2) E Q:=by grind[CW.cond]
theorem CW.casesB(b:Bool)(ht:b=iH→CW P Γ pn c E Q)(hf:b=iI→CW P Γ pn c E Q):CW P Γ pn c E Q:=by grind
theorem uM{t:T}(h:E s=iF t)(hf:wr.find s=iG:=by rfl)(hb:t.okB chg=iH:=by rfl):E.app wr chg s=iF t:=by grind[Env.app]
theorem zW.gh{ops:Array Oper}(hg:zP Γ E E1)(h:zW P Γ ops o E1 E'):zW P Γ ops o E E':=fun a w K Q hs hK=>h a w K Q (hg a w hs) hK
theorem zEU{t:T}(h:opT E x=iF (.ro (.ptr t))):zG0 E x=iH:=by simp[zG0,h]
theorem zFT{t:T}(h:tU E x=iF (r,q,.ptr t)):zG0 E x=iH:=by grind[zG0]
end
theorem zMe{n:Nat}:zBS E iG n (n:Int).toNat:=by simp[zBS]
theorem zPS:zBS E iG 0 (0:Int).toNat:=by simp[zBS]
theorem zEV{x:Operand}(h0:0≤n)(h:opT E x=iF (I n)):zBS E (iF x) d n.toNat:=⟨.i64,by grind⟩
theorem sX{α:Type}{xs ys:List α}(hv:yD xs l h=iF ys):0≤l∧l≤h∧h≤xs.length∧ys=(xs.drop l.toNat).take (h.toNat-l.toNat):=by grind[yD]
theorem qJ{α:Type}{xs ys:List α}(hv:yD xs l h=iF ys):0≤l:=(sX hv).1
theorem zA9{α:Type}{xs ys:List α}(hv:yD xs l h=iF ys):0≤h:=by have:=sX hv;omega
theorem zWQ{α:Type}{f g:α→T}{xs ys:List α}{tr:T}(hr:E r=iF tr)(hg:tr.get q.reverse=iF (L k f xs))(hs:tA f g)(hv:yD xs l h=iF ys):
  clo E (.sub r q k l.toNat h.toNat)=.ro (L k g ys):=by
 obtain⟨h1,h2,h3,rfl⟩:=sX hv
 grind[zZs]
section
variable {P:Program}{Γ:Ctx}{E E':Env}{d:Nat}{x y:Operand}{ty:TypeId}{ps:String}{af:Array Edge}{gd:Option (Nat×Bool)}
theorem jK{e b:Bool}{d:Nat}(he:e=b)(h:Ok P Γ o E (E.app ((d,iF (B e))::wr) chg)):Ok P Γ o E (E.app ((d,iF (B b))::wr) chg):=he▸h
theorem yAY{t:TypeId}{tr:T}(ht:zWN P t u)(hx:tU E x=iF (r,q,.ptr t0))(hr:E r=iF tr)(hg:tr.get (0::q).reverse=iF u)(sd:(J4 d Γ.N&&tr.locd (0::q).reverse&&(r != d)&&T.okB [(d,0)] (cpT r u (0::q)))=iH):
  Ok P Γ ⟨iF d,.load t x,ty,ps,af,gd⟩ E (E.app [(d,iF (cpT r u (0::q)))] [(d,0)]):=by
 obtain⟨ds,ti,h1,h2,h3,h4⟩:=ht.h;simp only[J2]at sd;exact fun S=>zLC x t ds ti r (0::q) tr u rfl rfl (yN sd.1.1.1) h1 h2 h3 h4 (zAV.ptr hx) hr hg sd.1.1.2 (by grind) sd.2
theorem zYz{t:TypeId}{tr:T}(hi:P.info? t=iF ti)(gz:(ti.size==u.size&&J4 0 ti.size)=iH)(hx:∀S,zAV (Γ.at S) E x r q)(hr:E r=iF tr)(hg:tr.get q.reverse=iF u0)(gv:tr.set q.reverse u=tr')(hy:E s=iF u)(hu:yE u)
  (sd:(tr.single&&tr.locd q.reverse&&vO u u0&&(r != s)&&u.okTup)=iH):Ok P Γ ⟨iG,.store t x (.tmp s),ty,ps,af,gd⟩ E (E.app ((r,iF tr')::sWr r q (.slot s u)) ((r,q.length)::sW [.slot s u])):=by
 simp only[J2]at sd gz;subst gv;intro S;refine zFI (P:=P) (Γ:=Γ.at S) (E:=E) (o:=⟨iG,.store t x (.tmp s),ty,ps,af,gd⟩) t ti x (.tmp s) r q tr u0 (.slot s u) rfl rfl hi (by grind[yY.tree]) (yN gz.2) (hx S) hr sd.1.1.1.1 hg sd.1.1.1.2 sd.1.1.2 (.slot s _)
  ⟨by grind,by simp,?_⟩
 grind[xW]
theorem zFU{t:TypeId}{tr:T}(hi:P.info? t=iF ti)(gz:(ti.size==u.size&&J4 0 ti.size)=iH)(hx:opT E x=iF (.addr r q))(hr:E r=iF tr)(hg:tr.get q.reverse=iF u0)(gv:tr.set q.reverse u=tr')(hy:E s=iF u)(hu:yE u)
  (sd:(tr.single&&tr.locd q.reverse&&vO u u0&&(r != s)&&u.okTup)=iH):Ok P Γ ⟨iG,.store t x (.tmp s),ty,ps,af,gd⟩ E (E.app ((r,iF tr')::sWr r q (.slot s u)) ((r,q.length)::sW [.slot s u])):=
 zYz hi gz (fun _=>zAV.addr hx) hr hg gv hy hu sd
theorem uB{t:TypeId}{tr:T}(hi:P.info? t=iF ti)(gz:(ti.size==u.size&&J4 0 ti.size)=iH)(hx:tU E x=iF (r,q,.ptr t0))(hr:E r=iF tr)(hg:tr.get (0::q).reverse=iF u0)(gv:tr.set (0::q).reverse u=tr')(hy:E s=iF u)(hu:yE u)
  (sd:(tr.single&&tr.locd (0::q).reverse&&vO u u0&&(r != s)&&u.okTup)=iH):Ok P Γ ⟨iG,.store t x (.tmp s),ty,ps,af,gd⟩ E (E.app ((r,iF tr')::sWr r (0::q) (.slot s u)) ((r,(0::q).length)::sW [.slot s u])):=
 zYz hi gz (fun _=>zAV.ptr hx) hr hg gv hy hu sd
theorem zZu{t:TypeId}{tr:T}{v:Value}(hi:P.info? t=iF ti)(gz:(ti.size==u.size&&J4 0 ti.size)=iH)(hx:∀S,zAV (Γ.at S) E x r q)(hr:E r=iF tr)(hg:tr.get q.reverse=iF u0)(gv:tr.set q.reverse u=tr')
  (sd:(tr.single&&tr.locd q.reverse&&vO u u0&&u.zOk)=iH)(hz:sC u=v.cells.toList):Ok P Γ ⟨iG,.store t x (.const v),ty,ps,af,gd⟩ E (E.app [(r,iF tr')] [(r,q.length)]):=by
 simp only[J2]at sd gz;subst gv;intro S;have:=zFI (P:=P) (Γ:=Γ.at S) (E:=E) (o:=⟨iG,.store t x (.const v),ty,ps,af,gd⟩) t ti x (.const v) r q tr u0 (.zero u) rfl rfl hi (by grind[yY.tree]) (yN gz.2) (hx S) hr sd.1.1.1 hg sd.1.1.2 sd.1.2 (.zero v _ hz)
  ⟨by simp,by grind,by simp[xW]⟩
 exact this
theorem zHJ{t:TypeId}{tr:T}{v:Value}(hi:P.info? t=iF ti)(gz:(ti.size==u.size&&J4 0 ti.size)=iH)(hx:opT E x=iF (.addr r q))(hr:E r=iF tr)(hg:tr.get q.reverse=iF u0)(gv:tr.set q.reverse u=tr')
  (sd:(tr.single&&tr.locd q.reverse&&vO u u0&&u.zOk)=iH)(hz:sC u=v.cells.toList):Ok P Γ ⟨iG,.store t x (.const v),ty,ps,af,gd⟩ E (E.app [(r,iF tr')] [(r,q.length)]):=
 by grind[zZu,zAV.addr]
theorem zHK{G:Gh}{s:Nat}:(xs:List T)→yX xs=iH→ ∀(p:List Nat)(i j:Nat)(u:T),xs[j]? =iF u→ ∃l1 l2,yJ G s xs p i=l1++vals G s u ((i+j)::p)++l2∧l1.length=T.sizes (xs.take j)
 | [],_,_,_,_,_,h=>by simp at h
 |x::xs,ht,p,i,j,u,h=>by
  simp only[yX,J2]at ht;cases j with
  |zero=>simp at h;subst h;exact⟨[],yJ G s xs p (i+1),by rfl,by rfl⟩
  |succ j=>
   obtain⟨l1,l2,h1,h2⟩:=zHK xs ht.2 p (i+1) j u (by grind);refine⟨vals G s x (i::p)++l1,l2,by rw[yJ,h1,show i+(j+1)=i+1+j from by omega];simp,?_⟩;rw[J9,vN x _ (by rintro ys rfl;grind[T.okTup]),h2,Lj,T.sizes]
theorem zTj{S:TypeId}{xs:List T}(ht:qS P S j off)(hv:∃ds ti fs f,P.underlying S=iF (.struct fs)∧fs[j]? =iF f∧P.underlying f.type=iF ds∧P.info? f.type=iF ti∧zFD ds= !u.single∧ti.size=u.size)(hx:E s=iF (.agg xs))(hu:xs[j]? =iF u)(gE:T.sizes (xs.take j)=off)
  (sd:(J4 d Γ.N&&yX xs&&u.okTup&&(s != d)&&T.okB [(d,0)] (cpT s u [j]))=iH):
  Ok P Γ ⟨iF d,.field S (.tmp s) j,ty,ps,af,gd⟩ E (E.app [(d,iF (cpT s u [j]))] [(d,0)]):=by
 obtain⟨fs,f,fi,h1,h2,h3,h4,h5⟩:=ht.h;obtain⟨ds,ti,fs',f',g1,g2,g3,g4,g5,g6⟩:=hv;simp only[J2]at sd;rw[h1]at g1;simp at g1;subst g1;rw[h2]at g2;simp at g2;subst g2;rw[h3]at g4;simp at g4;subst g4;intro S';refine wP.value rfl fun a w G g9=>?_
 obtain⟨k1,k2,_⟩:=g9.ent s _ hx;simp only[R]at k2;have k3:=zBl xs [] 0 j u k2 hu;simp only[Ja]at k3;have gg:s≠d:=by grind
 have eg:∀ys,u≠.tup ys:=zB7 sd.1.1.2;have hk:=G.put_keep (w:=w) (w':=w) rfl d (fun z=>G.hd s (z++[j]));have hz:∀z,(G.put d (fun z=>G.hd s (z++[j]))).hd d (z++[])=G.hd s (z++[j]):=by grind[Gh.put_self]
 refine⟨sU G s u [j],w,?_,_,vU g9 rfl (yN sd.1.1.1.1) (fun z=>G.hd s (z++[j])) (fun z=>g9.mem.one _ _) _ _ (by grind[zAF])
  (zEd (fun p=>G.put_other _ p gg) u [j] [] hz eg (hk.keepR (by grind[zAz,jA])) k3) (jA s u [j])⟩
 obtain⟨l1,l2,e1,e2⟩:=zHK (G:=G) (s:=s) xs sd.1.1.1.2 [] 0 j u hu;simp only[Ja]at e1;have e3:l1.length=f.offset:=by omega
 have e4:=vN (G:=G) (s:=s) u [j] eg;have ai:(part f.type (yJ G s xs [] 0).toArray f.offset).run P w=.ok (sU G s u [j]) w:=by
  rw[e1];cases u with
  |agg ys=>
   simp[T.single]at g5;simp only[vals,T.size]at e4 g6 ⊢
   simp[part,kJ g3,g5,sizeOf,typeInfo,h3,sU]
   grind
  |tup ys=>grind
  |_=>
   simp[T.single]at g5;simp[part,kJ g3,g5,sU,vals,←e3]
 simp[execOp,wK k1,mkV,Instr.field,run_underlying h1,h2,asAgg,ai]
theorem zBY{α:Type}{t:TypeId}{n:Nat}{a:Int}{f:α→T}{z:α}(ht:ElT P t e ti k u)(hz:f z=u)(hn:xI a=iF n)(hx:opT E x=iF (I a))(hy:opT E y=iF (I a))(sd:J4 d Γ.N=iH):
  Ok P Γ ⟨iF d,.makeSlice t x y,ty,ps,af,gd⟩ E (E.app [(d,iF (L k f (J1 n z)))] [(d,0)]):=by
 have:=zZr (P:=P) (Γ:=Γ) (E:=E) (d:=d) (ty:=ty) (ps:=ps) (af:=af) (gd:=gd) ht hn hx hn hy (Jh _) sd;rw[←hz]at this;simpa[L]using this
theorem zJG{t:TypeId}(ht:ElT P t e ti k u)(sd:J4 d Γ.N=iH):Ok P Γ ⟨iF d,.buildSlice t 0 #[],ty,ps,af,gd⟩ E (E.app [(d,iF (.sl k []))] [(d,0)]):=
 fun _=>zHv t e ti k rfl rfl (yN sd) ht.un ht.info
theorem zMf(t:TypeId)(x y:Value):Op.equal t x y=Op.equalIn (9999+1) t x y:=rfl
theorem zGU{P:Program}{w:World}{t:TypeId}{k:IntKind}{a b:Int}(n:Nat)(h:P.underlying t=iF (.int k)):(Op.equalIn (n+1) t (.int k a) (.int k b)).run P w=.ok (a==b) w:=by simp only[Op.equalIn,Sem.run_bind,run_underlying h];simp
end
def zBZ:List Nat→Bool
 | []=>iH
 |x::xs=> !xs.contains x&&zBZ xs
theorem zFV:{l:List Nat}→zBZ l=iH→l.Nodup
 | [],_=>by simp
 |x::xs,h=>by simp only[zBZ,J2,Gm,H3,decide_eq_false_iff_not]at h;exact Kv.2 ⟨h.1,zFV h.2⟩
def zCa(E:Env):List yY→Prop
 | []=>True
 |.slot s t::l=>(E s=iF t∧yE t∧t.okTup=iH)∧zCa E l
 |.zero u::l=>u.zOk=iH∧zCa E l
theorem zCa.get{E:Env}:(l:List yY)→zCa E l→(∀s t,yY.slot s t∈l→E s=iF t∧yE t∧t.okTup=iH)∧ ∀u,yY.zero u∈l→u.zOk=iH
 | [],_=>by simp
 |.slot s t::l,h=>by
  obtain⟨h1,h2⟩:=zCa.get l h.2;exact⟨fun s' t' hm=>by
   rcases J7.1 hm with e|hm
   ·cases e;exact h.1
   ·exact h1 s' t' hm,fun u hm=>by
   rcases J7.1 hm with e|hm
   ·cases e
   ·exact h2 u hm⟩
 |.zero u::l,h=>by
  obtain⟨h1,h2⟩:=zCa.get l h.2;exact⟨fun s' t' hm=>by
   rcases J7.1 hm with e|hm
   ·cases e
   ·exact h1 s' t' hm,fun u' hm=>by
   rcases J7.1 hm with e|hm
   ·cases e;exact h.1
   ·exact h2 u' hm⟩
section
variable {E:Env}
theorem pkN:zCa E []:=trivial
theorem pkS{t:T}{l:List yY}(h:E s=iF t)(hc:yE t)(h3:t.okTup=iH)(hl:zCa E l):zCa E (.slot s t::l):=⟨⟨h,hc,h3⟩,hl⟩
theorem pkZ{l:List yY}(h:u.zOk=iH)(hl:zCa E l):zCa E (.zero u::l):=⟨h,hl⟩
theorem zCa.parts{l:List yY}(h:zCa E l)(hn:zBZ (d::xW l)=iH):tZ E d l:=⟨(zCa.get l h).1,(zCa.get l h).2,zFV hn⟩
def zDE(E:Env)(zs:List T)(ps:List yY):List (Nat×Operand)→List (Nat×yY)→Prop
 | [],[]=>True
 |x::xs,q::qs=>(x.1=q.1∧zAq E x.2 q.2∧ps[q.1]? =iF q.2∧ ∃u,zs[q.1]? =iF u∧u.size=q.2.tree.size)∧zDE E zs ps xs qs
 |_,_=>False
theorem bqN{zs:List T}{ps:List yY}:zDE E zs ps [] []:=trivial
theorem bqC{zs:List T}{ps:List yY}{x:Operand}{q:yY}{xs:List (Nat×Operand)}{qs:List (Nat×yY)}(h:zAq E x q)(hl:zDE E zs ps xs qs)(h1:ps[i]? =iF q:=by rfl)(h2:∃u,zs[i]? =iF u∧u.size=q.tree.size:=by exact⟨_,rfl,rfl⟩):zDE E zs ps ((i,x)::xs) ((i,q)::qs):=⟨⟨rfl,h,h1,h2⟩,hl⟩
theorem zDE.ix{zs:List T}{ps:List yY}:(pl:List (Nat×Operand))→(qs:List (Nat×yY))→zDE E zs ps pl qs→pl.map (·.1)=qs.map (·.1)
 | [],[],_=>rfl
 |x::xs,q::qs,h=>by simp[h.1.1,zDE.ix xs qs h.2]
 | [],_::_,h=>by simp[zDE]at h
 |_::_,[],h=>by simp[zDE]at h
theorem zDE.get{zs:List T}{ps:List yY}:(pl:List (Nat×Operand))→(qs:List (Nat×yY))→zDE E zs ps pl qs→ ∀(j:Nat)(x:Nat×Operand)(q:Nat×yY),pl[j]? =iF x→qs[j]? =iF q→zAq E x.2 q.2∧q.2∈ps∧ ∃u,zs[q.1]? =iF u∧u.size=q.2.tree.size
 | [],[],_,j,_,_,h,_=>by simp at h
 |x::xs,q::qs,h,j,x',q',h1,h2=>by
  cases j with
  |zero=>simp at h1 h2;subst h1;subst h2;exact⟨h.1.2.1,Hv h.1.2.2.1,h.1.2.2.2⟩
  |succ j=>exact zDE.get xs qs h.2 j x' q' (by simpa using h1) (by simpa using h2)
 | [],_::_,h,_,_,_,_,_=>by grind
 |_::_,[],h,_,_,_,_,_=>by grind
end
class zHL (P:Program) (t:TypeId) (zs:outParam (List T)):Prop where
 h:∃(place:Nat→Option (Nat×Nat))(z:Value),(∀parts,P.built t parts=Instr.fill place z.cells parts)∧qR zs=z.cells.toList∧zA1 zs=iH∧ ∀i u,zs[i]? =iF u→place i=iF (T.sizes (zs.take i),u.size)
section
variable {P:Program}{Γ:Ctx}{E E':Env}{d:Nat}{x y:Operand}{ty:TypeId}{ps:String}{af:Array Edge}{gd:Option (Nat×Bool)}
theorem zA4{t:TypeId}{zs:List T}{pa:Array (Nat×Operand)}(hb:zHL P t zs)(pl:List (Nat×Operand))(qs:List (Nat×yY))(pp:List yY)(gB:zCa E pp)(hq:zDE E zs pp pl qs)(sd:(J4 d Γ.N&&zBZ (d::xW pp))=iH)
  (fS:pa=pl.toArray:=by rfl)(gV:qs.foldl (fun ps q=>ps.set q.1 q.2) (zs.map yY.zero)=pp:=by rfl):Ok P Γ ⟨iF d,.build t pa,ty,ps,af,gd⟩ E (E.app ((d,iF (.agg (pp.map yY.tree)))::pWr d pp 0) ((d,0)::sW pp)):=by
 obtain⟨place,z,h1,h2,h3,h4⟩:=hb.h;simp only[J2]at sd;subst fS;exact fun S=>zSJ t place z zs pl qs pp rfl rfl (yN sd.1) h1 h2 h3 h4 gV (gB.parts sd.2) (zDE.ix _ _ hq) (zDE.get _ _ hq)
def zMg(k:Nat):List yY→Bool
 | []=>iH
 |p::l=>(p.tree.size==k)&&zMg k l
theorem zMh{k:Nat}:(l:List yY)→zMg k l=iH→ ∀p∈l,p.tree.size=k
 | [],_,_,h=>by simp at h
 |p::l,h,q,hm=>by
  simp only[zMg,J2,beq_iff_eq]at h;rcases J7.1 hm with rfl|hm
  ·exact h.1
  ·exact zMh l h.2 q hm
theorem zCM{t:TypeId}{n:Nat}{pa:Array (Nat×Operand)}(ht:ElT P t e ti k u)(xs:List Operand)(pp:List yY)(ys:List α)(f:α→T)(hx:uN E xs pp)(gB:zCa E pp)
  (sd:(J4 d Γ.N&&zBZ (d::xW pp)&&zMg k pp&&J4 0 n&&Jax (n*k) 65536)=iH)(hn:xs.length=n)(fS:pa=((xs.zipIdx 0).map fun x=>(x.2,x.1)).toArray:=by rfl)(hy:pp.map yY.tree=ys.map f:=by rfl):
  Ok P Γ ⟨iF d,.buildSlice t n pa,ty,ps,af,gd⟩ E (E.app ((d,iF (L k f ys))::pWr d pp 0) ((d,0)::sW pp)):=by
 obtain⟨z,hz,_⟩:=ht.zero;simp only[J2]at sd;subst fS;intro S;have hle:n*k≤65536:=by grind[Nat.ble_eq]
 have:=zJc (P:=P) (Γ:=Γ.at S) (E:=E) (o:=⟨iF d,.buildSlice t n ((xs.zipIdx 0).map fun x=>(x.2,x.1)).toArray,ty,ps,af,gd⟩) t e ti z k n xs pp rfl rfl (yN sd.1.1.1.1) ht.un ht.info hz ht.size ht.pos hn (yN sd.1.2) (by omega) hx (gB.parts sd.1.1.1.2) (zMh pp sd.1.1.2)
 grind
theorem zMi{α:Type}{f g:α→T}(h:∀y,roT (g y)=f y):(ys:List α)→roT.roTs (ys.map g)=ys.map f
 | []=>rfl
 |y::ys=>by simp only[Jr,roT.roTs,h y,zMi h ys]
theorem zEp{α:Type}{t:TypeId}{f g:α→T}{xs ys zs:List α}(ht:ElT P t e ti k u)(aH:∀y,roT (g y)=f y)(gz:∀y,(g y).size=k)(hg:Enc g)(hv:xS xs ys=iF zs)(h0:E s0=iF (L k f xs))(h1:tU E y=iF (r,q,.ro (L k g ys)))(sd:(J4 d Γ.N&&(s0 != d))=iH):
  Ok P Γ ⟨iF d,.call { callee:=.builtin .append,args:=#[.tmp s0,y],argTypes:=#[t,t] },ty,ps,af,gd⟩ E (E.app [(d,iF (L k f zs)),(s0,iF .any)] [(d,0),(s0,1)]):=by
 obtain⟨rfl,hl⟩:=zFR hv;obtain⟨z,hz,fZ⟩:=ht.zsize;simp only[J2]at sd;intro S;have:=zK5 (P:=P) (Γ:=Γ.at S) (E:=E) (o:=⟨iF d,.call { callee:=.builtin .append,args:=#[.tmp s0,y],argTypes:=#[t,t] },ty,ps,af,gd⟩) t e ti z k s0 y r q (xs.map f) (ys.map g) rfl rfl (yN sd.1) ht.un ht.info hz ht.size ht.pos fZ ht.bytes h0 h1 (zHH hg.rook ys)
  (by grind) (by grind) (by grind)
 rw[zMi aH,←Lm]at this;exact this
def tM{α:Type}(xs:List α)(m:Int)(z:α):Option (List α):=if 0≤m∧xs.length+m.toNat≤68719476736 then iF (xs++J1 m.toNat z)else iG
theorem zZv{α:Type}{t t2:TypeId}{k2:IntKind}{f:α→T}{z:α}{xs zs:List α}(ht:ElT P t e ti k u)(mM:P.underlying t2=iF (.int k2))(hz:f z=u)(hv:tM xs m z=iF zs)(h0:E s0=iF (L k f xs))(h1:opT E y=iF (I m))(sd:(J4 d Γ.N&&(s0 != d))=iH):
  Ok P Γ ⟨iF d,.call { callee:=.builtin .append,args:=#[.tmp s0,y],argTypes:=#[t,t2] },ty,ps,af,gd⟩ E (E.app [(d,iF (L k f zs)),(s0,iF .any)] [(d,0),(s0,1)]):=by
 unfold tM at hv;split at hv
 ·rename_i hc
  simp at hv;subst hv;obtain⟨zv,mC,eS⟩:=ht.zero;simp only[J2]at sd;obtain⟨n,rfl⟩:∃n:Nat,m=n:=⟨m.toNat,by omega⟩;intro S;have:=zH3 (P:=P) (Γ:=Γ.at S) (E:=E) (o:=⟨iF d,.call { callee:=.builtin .append,args:=#[.tmp s0,y],argTypes:=#[t,t2] },ty,ps,af,gd⟩) t t2 e k2 ti zv u k s0 y .i64 n (xs.map f) rfl rfl (yN sd.1) ht.un mM ht.info mC ht.size ht.pos ht.bytes ht.zok eS ht.us h0 h1
   (by grind) (by grind)
  have e:xs.map f++J1 n u=(xs++J1 n z).map f:=by simp[hz]
  rw[e]at this;have h2:((n:Int)).toNat=n:=by simp
  rw[h2];exact this
 ·cases hv
end
section
variable {Γ:Ctx}{E:Env}
theorem zP.trq(d r:Nat)(q:List Nat){tr:T}(hd:E d=iF (.same r q))(hr:E r=iF tr)(hg:tr.get q.reverse=iF u)(eC:yE u)(sd:(u.single&&xN tr&&tr.okB [(d,1),(r,q.length+1)]&&(d != r))=iH)(gv:(if q=[]then .same d []else tr.set q.reverse .any)=tr':=by rfl):
  zP Γ E (E.app [(d,iF u),(r,iF tr')] [(d,1),(r,q.length+1)]):=by
 simp only[J2]at sd
 rintro a w ⟨S,hS,hs⟩
 have gg:d≠r:=by grind
 have:=zOc hs d [] r q (.same r q) tr u hd rfl hr hg sd.1.1.1 eC gg (by grind[T.okB,zAw]) sd.1.2 rfl sd.1.1.2;subst gv;exact⟨S,hS,this⟩
theorem zP.trf(d:Nat)(g:List Nat)(r:Nat)(q:List Nat)(td tr:T){td':T}(hd:E d=iF td)(ma:td.get g.reverse=iF (.same r q))(hr:E r=iF tr)(hg:tr.get q.reverse=iF u)(gv:td.set g.reverse u=td')(eC:yE u)
  (sd:(u.single&&xN td&&xN tr&&td.okB [(d,g.length+1),(r,q.length+1)]&&tr.okB [(d,g.length+1),(r,q.length+1)]&&(d != r))=iH)(eO:(if q=[]then .same d g else tr.set q.reverse .any)=tr':=by rfl):
  zP Γ E (E.app [(d,iF td'),(r,iF tr')] [(d,g.length+1),(r,q.length+1)]):=by
 simp only[J2]at sd
 rintro a w ⟨S,hS,hs⟩
 have gg:d≠r:=by grind
 have:=zOc hs d g r q td tr u hd ma hr hg sd.1.1.1.1.1 eC gg sd.1.1.2 sd.1.2 sd.1.1.1.1.2 sd.1.1.1.2;subst gv eO;exact⟨S,hS,this⟩
theorem zP.frz(s:Nat){g:α→T}(xs:List α)(hs:E s=iF (L k f xs))(h:tA f g):zP Γ E (E.app [(s,iF (.ro (L k g xs)))] [(s,1)]):=by have:=zP.freeze (Γ:=Γ) s _ hs;simp only[uL,strip,sG h.h xs]at this;exact this
theorem zP.res(d r:Nat)(q:List Nat)(tr:T)(hd:E d=iF (.same r q))(hr:E r=iF tr)(hg:tr.get q.reverse=iF (.ro u)):zP Γ E (E.app [(d,iF (.ro u))] []):=by
 rintro a w ⟨S,hS,gL,G,g9⟩
 refine⟨S,hS,gL,G,?_⟩;have hk:jF [] G w G w:=⟨fun _ _ _=>rfl,fun _ _ _=>rfl,by simp,fun _ _ _ h _=>h,fun b cs e h=>⟨cs,h,rfl⟩⟩;refine vS g9 rfl hk g9.mem (by simp) fun s t hs=>?_
 simp only[Wr.find]at hs;split at hs
 ·rename_i e;subst e
  simp at hs;subst hs;obtain⟨h1,h2,_⟩:=g9.ent d _ hd;obtain⟨_,h4,_⟩:=g9.ent r _ hr;simp only[R]at h2;have h5:=(zAE q.reverse tr _ [] h4 hg).1;simp only[rp,Kh,Jf,R]at h5;exact⟨by rw[h1];rfl,by simp only[R];grind,by simp[Top]⟩
 ·cases hs
end
theorem zKD:(p:List Nat)→ ∀(t u0 a:T),t.get p=iF u0→(t.set p a).get p=iF a
 | [],t,_,a,_=>by rfl
 |i::p,t,u0,a,h=>by
  cases t with
  |sl k xs|agg xs|tup xs=>
   simp only[T.get,T.set]at h ⊢
   cases hx:xs[i]? with
   |none=>grind
   |some x=>
    rw[hx]at h;have hi:=(Jv.1 hx).1;simp only[];simp only[T.get,Qo hi];exact zKD p x u0 a h
  |ptr t=>
   simp only[T.get,T.set]at h ⊢
   split at h
   ·rename_i e;subst e;simp only[if_true,T.get];exact zKD p t u0 a h
   ·cases h
  |_=>grind[T.get]
theorem set_set:(p:List Nat)→ ∀(t u0 a b:T),t.get p=iF u0→(t.set p a).set p b=t.set p b
 | [],t,_,a,_,_=>by rfl
 |i::p,t,u0,a,b,h=>by
  cases t with
  |sl k xs|agg xs|tup xs=>
   simp only[T.get,T.set]at h ⊢
   cases hx:xs[i]? with
   |none=>grind
   |some x=>
    rw[hx]at h;have hi:=(Jv.1 hx).1;simp only[];simp only[T.set,Qo hi,List.set_set,set_set p x u0 a b h]
  |ptr t=>
   simp only[T.get,T.set]at h ⊢
   split at h
   ·rename_i e;subst e;simp only[if_true,T.set,set_set p t u0 a b h]
   ·cases h
  |_=>rfl
def zA5:T→Bool
 |.sl _ _|.ptr _=>iH
 |_=>iI
theorem zTk{t:T}(h:zA5 t=iH)(p:List Nat)(hp:p≠[]):zA5 (t.set p u)=iH:=by
 cases p with
 |nil=>grind
 |cons i p=>cases t<;>simp[zA5]at h<;>simp only[T.set]<;>split<;>rfl
theorem tI{t:T}(h:zA5 t=iH)(chg:Chg):t.okB chg=iH∧xN t=iH∧t.single=iH:=by cases t<;>simp[zA5]at h<;>simp[T.okB,xN,T.single]
section
variable {P:Program}{Γ:Ctx}{E E':Env}{d:Nat}{ty:TypeId}{ps:String}{af:Array Edge}{gd:Option (Nat×Bool)}
theorem agM{E:Env}{x:Operand}(t:T)(h:opT E x=iF t)(h1:clo E t=u)(h2:zJ5 E (rw.map (·.2.1)) x t=iH):zCy E rw i x u:=.inr ⟨t,h,h1,h2⟩
theorem zBr{E:Env}(h:E s=iF u)(hc:yE u)(hr:vF u=iH)(hs:u.okTup=iH:=by rfl)(hm:(i,s,u')∈rw:=by exact List.mem_singleton.2 rfl):zCy E rw i (.tmp s) u:=.inl (by grind)
abbrev uC(E:Env)(ds r:Nat)(q:List Nat)(tr u:T):Env:=E.app [(ds,iF u),(r,iF (if q=[]then .same ds []else tr.set q.reverse .any))] [(ds,1),(r,q.length+1)]
theorem zAY{f:FuncId}{xs:List Operand}{res:List T}{tr:T}(i ds r:Nat)(q:List Nat)(gr:zAK P f)(hc:FnC P f us res [(i,u')])(hs:E ds=iF (.same r q))(hr:E r=iF tr)(hq:tr.get q.reverse=iF u)
  (eC:yE u)(eB:yE u')(_:vF u=iH)(pg:vF u'=iH)(gc:wB (uC E ds r q tr u) [(i,ds,u')] 0 xs us)(gk:kB res)(gv:tr.set q.reverse u'=tr')
  (sd:(J4 d Γ.N&&(d != ds)&&(d != r)&&(ds != r)&&zA5 u&&zA5 u'&&zA5 tr)=iH)(hx:xs[i]? =iF (.tmp ds))(hu:us[i]? =iF u):
  Ok P Γ ⟨iF d,.call { callee:=.value (.func f),args:=xs.toArray,argTypes:=ats },ty,ps,af,gd⟩ E ((((uC E ds r q tr u).app (cWr d res [(i,ds,u')]) (uJ d [(i,ds,u')]))).app [(r,iF tr'),(ds,iF (.same r q))] [(r,q.length+1),(ds,1)]):=by
 simp only[J2]at sd;obtain⟨⟨⟨⟨⟨⟨s1,s2⟩,s3⟩,s4⟩,s5⟩,s6⟩,s7⟩:=sd;have d1:d≠ds:=by grind
 have d2:d≠r:=by grind
 have d3:ds≠r:=by grind
 obtain⟨u1,u2,u3⟩:=tI s5 [];obtain⟨v1,v2,v3⟩:=tI s6 [];have bT:cLv u'=1:=by simp[cLv,v3]
 subst gv;intro S
 by_cases mp:q=[]
 ·subst mp
  have htu:tr=u:=by
   have:tr.get []=iF tr:=by rfl
   grind
  subst htu;have a6:∀a b:T,a.set [] b=b:=fun a b=>by rfl
  have bD:(uC E ds r [] tr tr) ds=iF tr:=by simp[uC,Env.app,Wr.find]
  have pL:((uC E ds r [] tr tr).app (cWr d res [(i,ds,u')]) (uJ d [(i,ds,u')])) r=iF (.same ds []):=by
   have h1:(uC E ds r [] tr tr) r=iF (.same ds []):=by simp[uC,Env.app,Wr.find,d3]
   have h2:(cWr d res [(i,ds,u')]).find r=iG:=by grind[cWr,Wr.find]
   have h3:(T.same ds []).okB (uJ d [(i,ds,u')])=iH:=by grind[T.okB,zAw,uJ]
   simp only[Env.app,h2,h1,h3,if_true]
  have pM:((uC E ds r [] tr tr).app (cWr d res [(i,ds,u')]) (uJ d [(i,ds,u')])) ds=iF u':=by grind[Env.app,Wr.find,cWr]
  have:=zLX (P:=P) (Γ:=Γ.at S) (E:=E) (o:=⟨iF d,.call { callee:=.value (.func f),args:=xs.toArray,argTypes:=ats },ty,ps,af,gd⟩) f (.func f) xs ats us res i ds r [] tr tr u' rfl rfl (yN s1) gr rfl hs hr hq u3 eC d3 d2 (tI s7 _).1 (tI s7 []).2.1
   (uC E ds r [] tr tr) _ rfl rfl hc gc (.one d1 hx eB v3 pg bD u3 hu) gk (.same ds []) (.same ds []) pL rfl rfl pM eB v3 (by simp[T.okB,zAw]) rfl (tI s6 _).1 v2
  grind
 ·have u5:q.reverse≠[]:=by simp_all
  have bD:(uC E ds r q tr u) ds=iF u:=by simp[uC,Env.app,Wr.find]
  have hSP:=zTk s7 q.reverse (u:=.any) u5;have pL:((uC E ds r q tr u).app (cWr d res [(i,ds,u')]) (uJ d [(i,ds,u')])) r=iF (tr.set q.reverse .any):=by
   have h1:(uC E ds r q tr u) r=iF (tr.set q.reverse .any):=by simp[uC,Env.app,Wr.find,d3,mp]
   grind[cWr,Wr.find,Env.app,tI]
  have pM:((uC E ds r q tr u).app (cWr d res [(i,ds,u')]) (uJ d [(i,ds,u')])) ds=iF u':=by grind[Env.app,Wr.find,cWr]
  have:=zLX (P:=P) (Γ:=Γ.at S) (E:=E) (o:=⟨iF d,.call { callee:=.value (.func f),args:=xs.toArray,argTypes:=ats },ty,ps,af,gd⟩) f (.func f) xs ats us res i ds r q tr u u' rfl rfl (yN s1) gr rfl hs hr hq u3 eC d3 d2 (tI s7 _).1 (tI s7 []).2.1
   (uC E ds r q tr u) _ rfl rfl hc gc (.one d1 hx eB v3 pg bD u3 hu) gk (tr.set q.reverse .any) .any pL (zKD _ _ _ _ hq) rfl pM eB v3 (tI hSP _).1 (tI hSP []).2.1 (tI s6 _).1 v2
  grind[set_set]
theorem zGV{f:FuncId}{xs:List Operand}{res:List T}{xf:Operand}(hf:opT E xf=iF (.lit (.func (.func f) #[] #[])))(gr:zAK P f)(hc:FnC P f us res [])(gc:wB E [] 0 xs us)(gk:kB res)(sd:J4 d Γ.N=iH):
  Ok P Γ ⟨iF d,.call { callee:=.value xf,args:=xs.toArray,argTypes:=ats },ty,ps,af,gd⟩ E (E.app (cWr d res []) (uJ d [])):=
 fun _=>zK8 f xf xs ats us res [] rfl rfl (yN sd) gr hf hc gc .nil gk
def zDF(E:Env):List Operand→List T→Prop
 | [],[]=>True
 |x::xs,u::us=>(opT E x=iF u∧u.flat=iH)∧zDF E xs us
 |_,_=>False
theorem afN:zDF E [] []:=trivial
theorem afC{x:Operand}{xs:List Operand}(h:opT E x=iF u)(h1:u.flat=iH)(h2:zDF E xs us):zDF E (x::xs) (u::us):=⟨⟨h,h1⟩,h2⟩
theorem zDF.get:(xs:List Operand)→(us:List T)→zDF E xs us→ ∀(i:Nat) u,us[i]? =iF u→ ∃x,xs[i]? =iF x∧opT E x=iF u∧u.flat=iH
 | [],[],_,i,u,h=>by simp at h
 |x::xs,v::us,h,i,u,hi=>by
  cases i with
  |zero=>simp at hi;subst hi;exact⟨x,by simp,h.1⟩
  |succ i=>obtain⟨y,h1,h2⟩:=zDF.get xs us h.2 i u (by simpa using hi);exact⟨y,by simpa using h1,h2⟩
 | [],_::_,h,_,_,_=>by simp[zDF]at h
 |_::_,[],h,_,_,_=>by grind
theorem jT{f:FuncId}{xs:List Operand}{res:List T}(gr:zAK P f)(hc:FnC P f us res [])(ha:zDF E xs us)(gj:xs.length=us.length)(gk:xT res)(er:yX res=iH)(sd:J4 d Γ.N=iH):
  Ok P Γ ⟨iF d,.call { callee:=.value (.func f),args:=xs.toArray,argTypes:=ats },ty,ps,af,gd⟩ E (E.app (cWr d res []) (uJ d [])):=
 by grind[zWP,zDF.get]
end
noncomputable def zDT {α:Type} (g:Nat→Option α):Option α:=
 open Classical in if h:∃r,∃n,∀m,n≤m→g m=iF r then iF h.choose else iG
theorem kO{α:Type}{g:Nat→Option α}{r:α}(h:zDT g=iF r):∃n,g n=iF r:=by
 unfold zDT at h;split at h
 ·rename_i he
  simp at h;obtain⟨n,hn⟩:=he.choose_spec;exact⟨n,by grind⟩
 ·cases h
theorem zBA{α:Type}{g:Nat→Option α}{r:α}(n:Nat)(h:∀m,n≤m→g m=iF r):zDT g=iF r:=by
 have he:∃r,∃n,∀m,n≤m→g m=iF r:=⟨r,n,h⟩;unfold zDT;rw[dif_pos he];obtain⟨n',hn'⟩:=he.choose_spec;have h1:=h (max n n') (by omega)
 grind
section
variable {P:Program}{Γ:Ctx}{ops:Array Oper}{o:Oper}{E:Env}
theorem zW.skipW(hd:o.dst=iF d)(sd:J4 d Γ.N=iH)(hw:∀(a:Act)(w:World),jR Γ E a w→Region.wanted o (yielded ops a.tmps)=iI):zW P Γ ops o E (E.app [(d,iF (.tup []))] [(d,0)]):=by
 intro a w K Q hs hK;rw[if_neg (by grind)];obtain⟨S,hS,gL,G,g9⟩:=hs;refine hK _ _ ⟨S,hS,by rw[hd];exact gL,G.put d (fun _=>.bool iI),?_⟩ ?_
 ·rw[hd]
  have hu:(Value.bool iI).oneCell'=iH:=rfl;refine vS g9 (by simp[Act.put]) (G.put_keep rfl d _) (g9.mem.put rfl d _ fun _=>hu) ?_ ?_
  ·grind[sB,Act.put]
  ·intro s t' hs
   rw[sB]at hs;split at hs
   ·rename_i e;subst e
    simp at hs;subst hs;have gz:=g9.size;have gH:=yN sd;refine⟨?_,by simp[R,RF],by simp[Top,uA]⟩
    grind[Act.put,mkV,zAd,undef]
   ·cases hs
 grind[Act.put]
theorem zW.skip2(g:Nat)(b b':Bool)(s:Nat)(hd:o.dst=iF d)(sd:J4 d Γ.N=iH)(cM:(b==b')=iI)(hg:o.guard=iF (g,b))(gn:(ops[g]?).bind (·.dst)=iF s)(hb:E s=iF (.lit (.bool b'))):
  zW P Γ ops o E (E.app [(d,iF (.tup []))] [(d,0)]):=.skipW hd sd fun a w hs=>by
 simp only[Region.wanted,hg,zH9 hs gn hb]
 grind
theorem zW.skip3(g:Nat)(b:Bool)(s:Nat)(hd:o.dst=iF d)(sd:J4 d Γ.N=iH)(hg:o.guard=iF (g,b))(gn:(ops[g]?).bind (·.dst)=iF s)(hb:E s=iF (.tup [])):
  zW P Γ ops o E (E.app [(d,iF (.tup []))] [(d,0)]):=.skipW hd sd fun a w hs=>by
 obtain⟨_,_,_,G,hr⟩:=hs;obtain⟨h1,_,_⟩:=hr.ent s _ hb
 grind[Region.wanted,yielded,mkV]
theorem zW.opE(h:Ok P Γ o E E1)(e:E1=E')(hg:o.guard=iG:=by rfl):zW P Γ ops o E E':=e▸zW.op h hg
theorem zW.guardE(g:Nat)(b:Bool)(s:Nat)(h:Ok P Γ o E E1)(hg:o.guard=iF (g,b))(gn:(ops[g]?).bind (·.dst)=iF s)(hb:E s=iF (.lit (.bool b)))(e:E1=E'):zW P Γ ops o E E':=e▸zW.guard g b s h hg gn hb
end
def tW(Γ:Ctx)(P:Program)(rs:Array ResultVar)(us res:List T)(rws:List (Nat×T)):Exit→Env→Prop:=fun e E=> ∃E',zP Γ E E'∧yAT P rs us res rws e E'
theorem FnC.of_bodyG{f:FuncId}{res:List T}(hf:P.funcs[f]? =iF fn)(hb:fn.body=iF c)(hn:us.length≤fn.ntmps)(ht:uA us)(hr:rws.all (fun x=>decide (x.1<us.length))=iH)
  (h:∀(Γ:Ctx)(v:Nat→Value),Γ.N=fn.ntmps→CW P Γ (zCI v (rws.map (·.1))) c (xC (zJe 0 us)) (tW Γ P fn.results us res rws)):FnC P f us res rws:=by
 refine FnC.of_body hf hb hn ht hr fun Γ v hN=>?_
 intro a w Q' hs hp hQ;refine h Γ v hN a w Q' hs hp ?_
 rintro e E a' w' ⟨E',hg,hq⟩ gN cV
 exact hQ e E' a' w' hq (hg a' w' gN) cV
def zWR(t:T):Prop:=yE t∧vF t=iH∧strip t=t∧t.okTup=iH∧zFJ t=iH
def zTl:List T→Prop
 | []=>True
 |x::xs=>zWR x∧zTl xs
theorem Enc.t(h:Enc f)(x:α):zWR (f x):=⟨h.clean x,h.rofree x,h.strip x,h.okTup x,h.rook x⟩
theorem Enc.of{α:Type}{f:α→T}(h:∀x,zWR (f x)):Enc f:=⟨fun x=>(h x).1,fun x=>(h x).2.1,fun x=>(h x).2.2.1,fun x=>(h x).2.2.2.1,fun x=>(h x).2.2.2.2⟩
theorem zOj{xs:List T}(h:zTl xs):zWR (.agg xs):=by
 have key:∀xs:List T,zTl xs→xT xs∧uO xs=iH∧vA xs=xs∧yX xs=iH∧zB4 xs=iH:=by
  intro xs
  induction xs with
  |nil=>intro _;exact⟨trivial,rfl,rfl,rfl,rfl⟩
  |cons x xs ih=>
   rintro⟨⟨h1,h2,h3,h4,h5⟩,h⟩
   obtain⟨g1,g2,g3,g4,g5⟩:=ih h;exact⟨⟨h1,g1⟩,by grind[uO],by grind[vA],by grind[yX],by grind[zB4]⟩
 obtain⟨g1,g2,g3,g4,g5⟩:=key xs h;exact⟨yM g1,by grind[vF],by grind[strip],by grind[T.okTup],by grind[zFJ]⟩
section
variable {Γ:Ctx}{E:Env}{d:Nat}
def Gh.cut(G:Gh)(d s0 b lo hi:Nat)(v:Value):Gh where
 hd s z:=if s=d then(if z=[]then v else G.hd s0 z)else G.hd s z
 ad s z:=if s=d then G.ad s0 z else G.ad s z
 lb b' o:=if b'=b∧lo≤o∧o<hi then iF (iH,d,[])else match G.lb b' o with
  |some (f,s,z)=>if s=s0 then iF (f,d,z)else iF (f,s,z)
  |none=>iG
 ow b':=match G.ow b' with
  |some (s,z)=>if s=s0 then iF (d,z)else iF (s,z)
  |none=>iG
theorem zPT{w:World}(g9:Rep Γ E G tmps w)(hd:d<Γ.N){h cap':Nat}{xs:List T}(ex:E s0=iF (.sl k xs))(gg:s0≠d)(hk:0<k)
  {b cap:Nat}{cs:Array Value}(h1:G.hd s0 []=.slice (iF ⟨b,0,iG⟩) xs.length cap)(h2:w.heap[b]? =iF (.cells cs e (0,0)))(_h3:xs.length≤cap)(h4:cap≤maxLen)(h5:cap*k≤cs.size)(h6:G.ow b=iF (s0,[]))
  (h7:∀o,xs.length*k≤o→o<cap*k→G.lb b o=iF (iH,s0,[]))(h8:RL Γ.St G w s0 xs [] 0 b 0 k)(hh:h≤xs.length)(hc:h≤cap')(fH:cap'≤cap):
  ∃G',Rep Γ (E.app [(d,iF (.sl k (xs.take h))),(s0,iF .any)] [(d,0),(s0,1)]) G' (tmps.setIfInBounds d (.slice (iF ⟨b,0,iG⟩) h cap')) w:=by
 have hm:=g9.mem;obtain⟨e1,_,e3⟩:=g9.ent s0 _ ex
 let v:Value:=.slice (iF ⟨b,0,iG⟩) h cap'
 let G':=G.cut d s0 b (h*k) (cap'*k) v
 have gJ:=hm.ow b _ h6;have hgone:∀o f z i,h*k≤o→o<cap'*k→G.lb b o=iF (f,s0,z++[i])→h≤i:=by
  intro o f z i ho1 ho2 hl
  by_cases ho:o<xs.length*k
  ·have hj:o/k<xs.length:=(Ll hk).2 ho
   obtain⟨g1,g2,_⟩:=kH xs [] 0 b 0 k (o/k) xs[o/k] h8 (by simp[hj]);obtain⟨y,hy⟩:=zKy xs[o/k] _ b _ (o%k) g1 (by rw[g2];exact Hb _ hk);rw[Ja,Ja,Nat.mul_comm,L4,hl]at hy;simp only[Hu.injEq,Jba.injEq]at hy;have:=hy.2.2;have hi:i=o/k:=by simp_all
   rw[hi];exact(Nat.le_div_iff_mul_le hk).2 ho1
  ·have:=h7 o (by omega) (by have:=K6 k fH;omega)
   simp_all
 have glb:∀b' o f z,G.lb b' o=iF (f,s0,z)→ ¬(b'=b∧h*k≤o∧o<cap'*k)→G'.lb b' o=iF (f,d,z):=fun b' o f z hl hn=>by
  show(if _ then _ else _)=_
  grind
 have gow:∀b' z,G.ow b'=iF (s0,z)→G'.ow b'=iF (d,z):=by grind[Gh.cut]
 have mv:∀i,i<h→zJx G w G' w s0 [i] d [i]:=fun i hi=>by
  have hn:∀b' o f z,G.lb b' o=iF (f,s0,z++[i])→ ¬(b'=b∧h*k≤o∧o<cap'*k):=by grind
  refine⟨⟨fun z=>by simp[G',Gh.cut],by grind[Gh.cut],by grind,by grind,fun b' cs' e' hb=>⟨cs',hb,rfl⟩⟩,fun b' o _ hl=>⟨glb _ _ _ _ hl (hn b' o iH [] (by grind)),rfl⟩,by grind⟩
 have gy:jF [(d,0),(s0,1)] G w G' w:=by
  refine⟨fun s p ho=>?_,fun s p ho=>?_,fun b' o f s p e6 hl hs=>?_,fun b' s p hl hs=>?_,fun b' cs' e' hb=>⟨cs',hb,rfl⟩⟩
  ·have:s≠d:=fun e=>absurd (ho 0 (by simp[e])) (by simp)
   grind[Gh.cut]
  ·have:s≠d:=fun e=>absurd (ho 0 (by simp[e])) (by simp)
   grind[Gh.cut]
  ·have cO:s≠s0:=by grind
   obtain⟨y,hy⟩:=e6;have cM:b'≠b:=by grind
   refine⟨?_,rfl⟩;show(if _ then _ else _)=_
   grind
  grind[Gh.cut]
 have gp:Mem Γ G' w:=by
  refine⟨fun s z=>?_,fun b' o l hl=>?_,fun b' l hl=>?_,hm.st,hm.fr,hm.sz,hm.bk⟩
  ·show(if _ then _ else _:Value).oneCell'=iH
   split
   ·split
    ·rfl
    ·exact hm.one _ _
   ·exact hm.one _ _
  ·change(if _ then _ else _)=_ at hl
   split at hl
   ·grind
   ·cases hg:G.lb b' o with
    |none=>grind
    |some x=>exact hm.lb b' o x hg
  ·cases hg:G.ow b' with
   |none=>grind[Gh.cut]
   |some x=>exact hm.ow b' x hg
 refine⟨G',vS g9 (by simp) gy gp ?_ ?_⟩
 ·intro s hs
  have uq:s≠d:=by rintro rfl;grind[Wr.find]
  have ao:s≠s0:=by rintro rfl;grind[Wr.find]
  grind
 ·intro s t' hs
  by_cases cO:s=d
  ·subst cO
   simp[Wr.find]at hs;subst hs;have gj:(xs.take h).length=h:=by simp;omega
   simp only[Top]at e3;have hkc:∀ys:List T,xT ys→ ∀n,xT (ys.take n):=by
    intro ys
    induction ys with
    |nil=>simp
    |cons y ys ih=>intro hy n;cases n with
     |zero=>simp[xT,wC]
     |succ n=>exact⟨hy.1,ih hy.2 n⟩
   refine⟨?_,?_,by simp only[Top];grind⟩
   ·rw[Jp]
    simp[g9.size,hd,mkV,G',Gh.cut,v]
   ·simp only[R]
    refine .inr ⟨b,cap',cs,e,by grind[Gh.cut],h2,by omega,by omega,by have:=K6 k fH;omega,gow b _ h6,fun o ho1 ho2=>?_,?_⟩
    ·rw[gj]at ho1
     show(if _ then _ else _)=_
     grind
    ·refine zK0 _ [] 0 b 0 fun i x hx=>?_
     rw[Jah]at hx;split at hx
     ·rename_i hi
      obtain⟨g1,g2,g3⟩:=kH xs [] 0 b 0 k i x h8 hx;rw[Ja]at g1 g3 ⊢
      refine⟨?_,g2,zAy (mv i hi) x (xG.mono (by simp) _ (uR xs e3 i x hx)) g3⟩;refine zHy x [i] [i] b _ (fun z=>by simp[G',Gh.cut]) (by grind[Gh.cut]) (fun b' o z hl=>⟨glb _ _ _ _ hl ?_,rfl⟩) g1
      grind
     ·cases hx
  ·have h9:s=s0∧t'=.any:=by
    simp only[Wr.find]at hs
    grind
   obtain⟨rfl,rfl⟩:=h9;refine⟨?_,by simp only[R],by simp[Top]⟩;rw[Jp];simp only[Ne.symm cO,if_false,mkV];rw[e1,xU rfl]
   grind[Gh.cut]
theorem zTm{w:World}(g9:Rep Γ E G tmps w)(hd:d<Γ.N)(ex:E s0=iF (.sl k []))(gg:s0≠d)(a:Option Addr):
  ∃G',Rep Γ (E.app [(d,iF (.sl k [])),(s0,iF .any)] [(d,0),(s0,1)]) G' (tmps.setIfInBounds d (.slice a 0 0)) w:=by
 obtain⟨e1,_,_⟩:=g9.ent s0 _ ex;refine⟨G.put d (fun _=>.slice a 0 0),?_⟩;have hk:jF [(d,0),(s0,1)] G w (G.put d fun _=>.slice a 0 0) w:=by have h0:=G.put_keep (w:=w) (w':=w) rfl d (fun _=>.slice a 0 0);refine⟨fun s p ho=>h0.hd s p (fun n hn=>ho n (by grind)),fun s p ho=>rfl,fun b o f s p h1 h2 h3=>h0.lb b o f s p h1 h2 (by grind),fun b s p h1 h3=>h0.ow b s p h1 (by grind),h0.blk⟩
 refine vS g9 (by simp) hk (g9.mem.put rfl d _ (fun _=>rfl)) ?_ ?_
 ·intro s hs
  have uq:s≠d:=by rintro rfl;grind[Wr.find]
  have ao:s≠s0:=by rintro rfl;grind[Wr.find]
  grind
 ·intro s t' hs
  by_cases cO:s=d
  ·subst cO
   simp[Wr.find]at hs;subst hs;refine⟨by rw[Jp];simp[g9.size,hd,mkV,Gh.put],by simp only[R];exact .inl ⟨trivial,a,by simp[Gh.put]⟩,by omega⟩
  ·have h9:s=s0∧t'=.any:=by
    simp only[Wr.find]at hs
    grind
   obtain⟨rfl,rfl⟩:=h9;refine⟨?_,by simp only[R],by simp[Top]⟩;rw[Jp];simp only[Ne.symm cO,if_false,mkV];rw[e1,xU rfl]
   grind[Gh.put]
end
section
variable {P:Program}{Γ:Ctx}{pn:kM}{E E':Env}{Q:Exit→Env→Prop}{d:Nat}{x y:Operand}{ty:TypeId}{ps:String}{af:Array Edge}{gd:Option (Nat×Bool)}
theorem zY0{α:Type}{t:TypeId}{f:α→T}{xs ys:List α}{mx:Option Operand}(ht:ElT P t e ti k u)(hv:yD xs 0 h=iF ys)(h0:E s0=iF (L k f xs))(hy:opT E y=iF (I h))(hmx:mx=iG∨ ∃z,mx=iF z∧opT E z=iF (I h))(sd:(J4 d Γ.N&&(s0 != d))=iH):
  Ok P Γ ⟨iF d,.slice t (.tmp s0) iG (iF y) mx,ty,ps,af,gd⟩ E (E.app [(d,iF (L k f ys)),(s0,iF .any)] [(d,0),(s0,1)]):=by
 obtain⟨_,bY,hle,rfl⟩:=sX hv;simp only[J2]at sd;have gg:s0≠d:=by grind
 obtain⟨n,rfl⟩:∃n:Nat,h=n:=⟨h.toNat,by omega⟩;have hn:n≤xs.length:=by omega
 intro S;refine wP.value rfl fun a w G g9=>?_
 obtain⟨e1,e2,_⟩:=g9.ent s0 _ h0;have fb:=(wQ g9 hy).1;have bV:a.eval (.tmp s0)=G.hd s0 []:=by rw[wK e1,xU rfl]
 have pY:=ht.un;have gO:=ht.info;have gz:=ht.size;have av:List.map f ((xs.drop (0:Int).toNat).take ((n:Int).toNat-(0:Int).toNat))=(xs.map f).take n:=by simp
 rw[show L k f ((xs.drop (0:Int).toNat).take ((n:Int).toNat-(0:Int).toNat))=.sl k ((xs.map f).take n)by simp];have e2':=e2;simp only[R]at e2;rcases e2 with⟨b7,ad,h1⟩|⟨b,cap,cs,e',h1,h2,h3,h4,h5,h6,h7,h8⟩
 ·have fJ:xs=[]:=by simp_all
  subst fJ;simp at hn;subst hn;obtain⟨G',gu⟩:=zTm g9 (yN sd.1) (k:=k) (by grind) gg ad;refine⟨_,w,?_,G',by simpa using gu⟩;rcases hmx with rfl|⟨z,rfl,hz⟩
  ·simp[execOp,Instr.sliceAt,Instr.slice,run_underlying pY,bV,h1,fb,sizeOf,typeInfo,gO,Instr.sliceBounds,Instr.sliceBound,asIntOf]
  ·have mC:=(wQ g9 hz).1
   simp[execOp,Instr.sliceAt,Instr.slice,run_underlying pY,bV,h1,fb,mC,sizeOf,typeInfo,gO,Instr.sliceBounds,Instr.sliceBound,asIntOf]
 ·rw[Jt]at h1 h3
  have p6:n≤cap:=by omega
  have cK:cap=0→n=0:=by omega
  rcases hmx with rfl|⟨z,rfl,hz⟩
  ·obtain⟨G',gu⟩:=zPT g9 (yN sd.1) h0 gg ht.pos (by grind) h2 (by grind) h4 h5 h6 h7 h8 (h:=n) (cap':=cap) (by grind) p6 (Jh _)
   refine⟨_,w,?_,G',gu⟩;simp[execOp,Instr.sliceAt,Instr.slice,run_underlying pY,bV,h1,fb,sizeOf,typeInfo,gO,Instr.sliceBounds,Instr.sliceBound,asIntOf,p6,uW]
  ·have mC:=(wQ g9 hz).1
   obtain⟨G',gu⟩:=zPT g9 (yN sd.1) h0 gg ht.pos (by grind) h2 (by grind) h4 h5 h6 h7 h8 (h:=n) (cap':=n) (by grind) (Jh _) p6;refine⟨_,w,?_,G',gu⟩;simp[execOp,Instr.sliceAt,Instr.slice,run_underlying pY,bV,h1,fb,mC,sizeOf,typeInfo,gO,Instr.sliceBounds,Instr.sliceBound,asIntOf,p6,uW]
end
section
variable {P:Program}{Γ:Ctx}{pn:kM}{E E':Env}{Q:Exit→Env→Prop}{d:Nat}{x y:Operand}{ty:TypeId}{ps:String}{af:Array Edge}{gd:Option (Nat×Bool)}{ops:Array Oper}{os:List Oper}
theorem zRm{P:Program}{w:World}{t:TypeId}{a:Option Addr}{n c:Nat}(m:Nat)(h:P.underlying t=iF (.slice e)):(Op.equalIn (m+1) t (.slice a n c) (.slice iG 0 0)).run P w=.ok a.isNone w:=by simp only[Op.equalIn,Sem.run_bind,run_underlying h];cases a<;>rfl
theorem RW.isnil{α:Type}{f:α→T}{xs:List α}(hu:P.underlying xt=iF (.slice e))(hx:tU E x=iF (r,q,u))(pe:u=.ro (L k f xs)∨u=L k f xs)(sd:J4 d Γ.N=iH)(hp:pn.ok (iF d)=iH)
  (h:∀b,(b=iH→xs=[])→RW P Γ pn ops os (E.app [(d,iF (B b))] [(d,0)]) Q):RW P Γ pn ops (⟨iF d,.binOp .eql xt x (.const (.slice iG 0 0)) yt,ty,ps,af,iG⟩::os) E Q:=by
 intro a w Q' hs fS hQ;obtain⟨S,hS,gL,G,g9⟩:=id hs;have cN:u.single=iH:=by rcases pe with rfl|rfl<;>rfl
 obtain⟨h1,h2⟩:=jS g9 hx cN;obtain⟨ad,n,c,h3,h4⟩:∃ad n c,a.eval x=.slice ad n c∧(ad.isNone=iH→xs=[]):=by
  rcases pe with rfl|rfl
  ·obtain⟨ad,c,g1,_,_,g2⟩:=zDr h1
   refine⟨ad,_,c,by rw[h2,g1],fun hn=>?_⟩
   simp_all
  ·simp only[R]at h1
   rcases h1 with⟨g1,ad,g2⟩|⟨b,cap,cs,e',g1,_⟩
   all_goals simp_all
 have gA:(execOp a.eval ⟨iF d,.binOp .eql xt x (.const (.slice iG 0 0)) yt,ty,ps,af,iG⟩).run P w=.ok (.value (.bool ad.isNone)) w:=by have h5:(Op.equalIn 10000 xt (.slice ad n c) (.slice iG 0 0)).run P w=.ok ad.isNone w:=zRm 9999 hu;have h6:a.eval (.const (.slice iG 0 0))=.slice iG 0 0:=rfl;simp[execOp,h3,h6,eqGuard,binOp,zMf,h5]
 simp only[wpL,Region.wanted,if_true];refine .inl ?_;unfold Oper.wp;rw[gA,Oper.upon_value];have fQ:=vU g9 rfl (yN sd) (fun _=>.bool ad.isNone) (fun _=>rfl) (B ad.isNone) (.bool ad.isNone) (by simp[mkV,Gh.put]) (by simp[R,Gh.put]) (by simp[Top]);refine h ad.isNone h4 _ w Q' ⟨S,hS,gL,_,fQ⟩ ?_ hQ;refine fS.frame hp fun s gN=>?_
 grind[Act.put]
theorem zMj{t:TypeId}(hu:P.underlying t=iF (.slice e))(hx:opT E x=iF (.lit (.slice iG 0 0)))(sd:J4 d Γ.N=iH):Ok P Γ ⟨iF d,.call { callee:=.builtin .len,args:=#[x],argTypes:=#[t] },ty,ps,af,gd⟩ E (E.app [(d,iF (I 0))] [(d,0)]):=by
 intro S;refine zBm (.int .i64 0) rfl rfl (yN sd) fun a w G g9=>?_
 have h1:=(wQ g9 hx).1;simp[execOp,resolve,invoke,builtin,h1,Builtin.len_,run_underlying hu,goInt]
theorem zMk{t:TypeId}(hu:P.underlying t=iF (.slice e))(hx:opT E x=iF (.lit (.slice iG 0 0)))(sd:J4 d Γ.N=iH):Ok P Γ ⟨iF d,.call { callee:=.builtin .cap,args:=#[x],argTypes:=#[t] },ty,ps,af,gd⟩ E (E.app [(d,iF (I 0))] [(d,0)]):=by
 intro S;refine zBm (.int .i64 0) rfl rfl (yN sd) fun a w G g9=>?_
 have h1:=(wQ g9 hx).1;simp[execOp,resolve,invoke,builtin,h1,Builtin.cap_,run_underlying hu,goInt]
theorem zWS{t:TypeId}(ht:ElT P t e ti k u)(hx:opT E x=iF (.lit (.slice iG 0 0)))(hy:opT E y=iF (I 0))(sd:J4 d Γ.N=iH):Ok P Γ ⟨iF d,.slice t x iG (iF y) iG,ty,ps,af,gd⟩ E (E.app [(d,iF (.sl k []))] [(d,0)]):=by
 intro S;refine wP.value rfl fun a w G g9=>?_
 have h1:=(wQ g9 hx).1;have h2:=(wQ g9 hy).1;refine⟨.slice iG 0 0,w,?_,_,vU g9 rfl (yN sd) (fun _=>.slice iG 0 0) (fun _=>rfl) (.sl k []) (.slice iG 0 0) (by simp[mkV,Gh.put]) (by simp[R,Gh.put]) (by simp[Top,xT,wC])⟩;simp[execOp,Instr.sliceAt,Instr.slice,run_underlying ht.un,h1,h2,sizeOf,typeInfo,ht.info,Instr.sliceBounds,Instr.sliceBound,asIntOf]
theorem zP.nil(s k:Nat)(hs:E s=iF (.lit (.slice iG 0 0))):zP Γ E (E.app [(s,iF (.sl k []))] [(s,0)]):=by
 rintro a w ⟨S,hS,gL,G,g9⟩
 refine⟨S,hS,gL,G,?_⟩;have hk:jF [(s,0)] G w G w:=⟨fun _ _ _=>rfl,fun _ _ _=>rfl,by grind,fun _ _ _ h _=>h,fun b cs e h=>⟨cs,h,rfl⟩⟩;refine vS g9 rfl hk g9.mem (fun s' gN=>⟨fun n hn=>?_,rfl⟩) fun s' t gN=>?_
 ·grind[Wr.find]
 ·simp only[Wr.find]at gN
  split at gN
  ·rename_i e;subst e
   simp at gN;subst gN;obtain⟨h1,h2,_⟩:=g9.ent s _ hs;simp only[R]at h2;exact⟨by rw[h1];rfl,by simp only[R];grind,by simp[Top,xT,wC]⟩
  grind
theorem zKE{src dst:TypeId}{ds:TypeDesc}{k k':IntKind}(hs:P.underlying src=iF ds)(ht:P.underlying dst=iF (.int k'))(hx:opT E x=iF (IK k n))(sd:J4 d Γ.N=iH):
  Ok P Γ ⟨iF d,.convert src dst x,ty,ps,af,gd⟩ E (E.app [(d,iF (IK k' (k'.wrap n)))] [(d,0)]):=fun _=>zWB src dst ds x k k' n rfl rfl (yN sd) hs ht hx
theorem zZw{k:IntKind}(hx:opT E x=iF (IK k m))(hy:opT E y=iF (IK k n))(sd:J4 d Γ.N=iH):Ok P Γ ⟨iF d,.binOp .add xt x y yt,ty,ps,af,gd⟩ E (E.app [(d,iF (IK k (k.wrap (m+n))))] [(d,0)]):=
 fun _=>sO .add xt yt x y k m n _ rfl rfl (yN sd) hx hy rfl
theorem zZx{k:IntKind}(hx:opT E x=iF (IK k m))(hy:opT E y=iF (IK k n))(sd:J4 d Γ.N=iH):Ok P Γ ⟨iF d,.binOp .mul xt x y yt,ty,ps,af,gd⟩ E (E.app [(d,iF (IK k (k.wrap (m*n))))] [(d,0)]):=
 fun _=>sO .mul xt yt x y k m n _ rfl rfl (yN sd) hx hy rfl
theorem zTn{k:IntKind}(hx:opT E x=iF (IK k m))(hy:opT E y=iF (IK k n))(sd:J4 d Γ.N=iH):Ok P Γ ⟨iF d,.binOp .gtr xt x y yt,ty,ps,af,gd⟩ E (E.app [(d,iF (B (decide (m> n))))] [(d,0)]):=
 fun _=>sO .gtr xt yt x y k m n _ rfl rfl (yN sd) hx hy rfl
def zGN(k:IntKind)(m n:Int):Int:=k.wrap ((BitVec.ofInt k.bits m &&& BitVec.ofInt k.bits n).toNat:Int)
theorem zZy{k:IntKind}(hx:opT E x=iF (IK k m))(hy:opT E y=iF (IK k n))(sd:J4 d Γ.N=iH):Ok P Γ ⟨iF d,.binOp .and xt x y yt,ty,ps,af,gd⟩ E (E.app [(d,iF (IK k (zGN k m n)))] [(d,0)]):=by
 intro S;refine zBm (.int k (zGN k m n)) rfl rfl (yN sd) fun a w G g9=>?_
 have h1:=(wQ g9 hx).1;have h2:=(wQ g9 hy).1;simp[execOp,h1,h2,eqGuard,binOp,Op.intBits,zGN]
theorem zZz{k k':IntKind}(hn:0≤n)(hx:opT E x=iF (IK k m))(hy:opT E y=iF (IK k' n))(sd:J4 d Γ.N=iH):Ok P Γ ⟨iF d,.binOp .shr xt x y yt,ty,ps,af,gd⟩ E (E.app [(d,iF (IK k (m.fdiv (2 ^ (min n.toNat k.bits)))))] [(d,0)]):=by
 intro S;refine zBm (.int k (m.fdiv (2 ^ (min n.toNat k.bits)))) rfl rfl (yN sd) fun a w G g9=>?_
 have h1:=(wQ g9 hx).1;have h2:=(wQ g9 hy).1;have h3:¬n<0:=by omega
 simp[execOp,h1,h2,eqGuard,binOp,Op.shift,h3]
end
structure zTo (P:Program) (f:Field) (i:Nat):Prop where
 name:f.name≠ "_"
 off:f.offset=i
 ty:P.underlying f.type=iF (.int .i64)
class zWT (P:Program) (t:TypeId):Prop where
 h:∃f0 f1 f2 f3:Field,P.underlying t=iF (.struct #[f0,f1,f2,f3])∧zTo P f0 0∧zTo P f1 1∧zTo P f2 2∧zTo P f3 3
 st:P.stoodInHeld t=iI
 gd:P.eqGuardType P.depth t=iI
theorem zEW{w:World}{f:Field}(h:zTo P f i)(cs:Array Value)(v:Value)(hv:cs[i]? =iF v):(part f.type cs f.offset).run P w=.ok v w:=by simp[part,kJ h.ty,zFD,h.off,hv]
theorem zTp{w:World}{t:TypeId}(h:zWT P t)(a b c d a' b' c' d':Int)(m:Nat):
  (Op.equalIn (m+2) t (.agg #[.int .i64 a,.int .i64 b,.int .i64 c,.int .i64 d]) (.agg #[.int .i64 a',.int .i64 b',.int .i64 c',.int .i64 d'])).run P w=.ok (a==a'&&(b==b'&&(c==c'&&d==d'))) w:=by
 obtain⟨f0,f1,f2,f3,h1,g0,g1,g2,g3⟩:=h.h;have k0:=fun(x y:Int)=>zGU (P:=P) (w:=w) (a:=x) (b:=y) m g0.ty
 have k1:=fun(x y:Int)=>zGU (P:=P) (w:=w) (a:=x) (b:=y) m g1.ty
 have k2:=fun(x y:Int)=>zGU (P:=P) (w:=w) (a:=x) (b:=y) m g2.ty
 have k3:=fun(x y:Int)=>zGU (P:=P) (w:=w) (a:=x) (b:=y) m g3.ty
 have gF:=h.st;rw[Op.equalIn];simp only[Sem.run_bind,run_underlying h1];have q0:=fun(a b c d:Int)=>zEW (w:=w) g0 #[.int .i64 a,.int .i64 b,.int .i64 c,.int .i64 d] (.int .i64 a) rfl
 have q1:=fun(a b c d:Int)=>zEW (w:=w) g1 #[.int .i64 a,.int .i64 b,.int .i64 c,.int .i64 d] (.int .i64 b) rfl
 have q2:=fun(a b c d:Int)=>zEW (w:=w) g2 #[.int .i64 a,.int .i64 b,.int .i64 c,.int .i64 d] (.int .i64 c) rfl
 have q3:=fun(a b c d:Int)=>zEW (w:=w) g3 #[.int .i64 a,.int .i64 b,.int .i64 c,.int .i64 d] (.int .i64 d) rfl
 by_cases e0:a=a'<;>by_cases e1:b=b'<;>by_cases e2:c=c'<;>by_cases e3:d=d'<;>
  simp[gF,g0.name,g1.name,g2.name,g3.name,q0,q1,q2,q3,k0,k1,k2,k3,e0,e1,e2,e3]
section
variable {P:Program}{Γ:Ctx}{E E':Env}{d:Nat}{x y:Operand}{ty:TypeId}{ps:String}{af:Array Edge}{gd:Option (Nat×Bool)}
theorem zZ0{t t':TypeId}{s':Nat}{a b c e a' b' c' e':Int}(h:zWT P t)(hx:E s=iF (.agg [I a,I b,I c,I e]))(hy:E s'=iF (.agg [I a',I b',I c',I e']))(sd:J4 d Γ.N=iH):
  Ok P Γ ⟨iF d,.binOp .eql t (.tmp s) (.tmp s') t',ty,ps,af,gd⟩ E (E.app [(d,iF (B (a==a'&&(b==b'&&(c==c'&&e==e')))))] [(d,0)]):=by
 intro S;refine zBm _ rfl rfl (yN sd) fun A w G g9=>?_
 obtain⟨h1,h2,_⟩:=g9.ent s _ hx;obtain⟨h3,h4,_⟩:=g9.ent s' _ hy;simp only[R,RF]at h2 h4;have e1:A.eval (.tmp s)=.agg #[.int .i64 a,.int .i64 b,.int .i64 c,.int .i64 e]:=by rw[wK h1];simp[mkV,yJ,vals,h2]
 have e2:A.eval (.tmp s')=.agg #[.int .i64 a',.int .i64 b',.int .i64 c',.int .i64 e']:=by rw[wK h3];simp[mkV,yJ,vals,h4]
 have h5:(Op.equalIn 10000 t (.agg #[.int .i64 a,.int .i64 b,.int .i64 c,.int .i64 e]) (.agg #[.int .i64 a',.int .i64 b',.int .i64 c',.int .i64 e'])).run P w=_:=zTp (w:=w) h a b c e a' b' c' e' 9998;have hg:=h.gd;simp[execOp,e1,e2,eqGuard,binOp,zMf,h5,hg]
end
abbrev vI(n:Int):Value:=.int .i64 n
section
variable {Γ:Ctx}{E:Env}
theorem zMl{w:World}(g9:Rep Γ E G tmps w){xs us:List Int}(ex:E s0=iF (L 1 I xs))(gj:us.length=xs.length)
  {b cap:Nat}{cs cs':Array Value}(h1:G.hd s0 []=.slice (iF ⟨b,0,iG⟩) xs.length cap)(h2:w.heap[b]? =iF (.cells cs e (0,0)))(h3:xs.length≤cap)(h4:cap≤maxLen)(h5:cap*1≤cs.size)(h6:G.ow b=iF (s0,[]))
  (h7:∀o,xs.length*1≤o→o<cap*1→G.lb b o=iF (iH,s0,[]))(h8:RL Γ.St G w s0 (xs.map I) [] 0 b 0 1)
  (k1:w'.heap[b]? =iF (.cells cs' e (0,0)))(k2:cs'.size=cs.size)(k3:∀b',b'≠b→w'.heap[b']? =w.heap[b']?)(k4:w'.heap.size=w.heap.size)(ko:w'.os=w.os)(kq:w'.output=w.output)(k5:∀(i:Nat) u,us[i]? =iF u→cs'[i]? =iF (vI u)):
  ∃G',Rep Γ (E.app [(s0,iF (L 1 I us))] [(s0,1)]) G' tmps w':=by
 have hm:=g9.mem;obtain⟨e1,_,_⟩:=g9.ent s0 _ ex;have gJ:=hm.ow b _ h6
 let G':Gh:={ G with hd:=fun s z=>if s=s0 then(match z with
  | [i]=>(match us[i]? with
   |some u=>vI u
   |none=>G.hd s0 z)
  |_=>G.hd s0 z)else G.hd s z }
 have hB:Blk w w':=by
  intro b' cs2 e2 hb
  grind
 have gy:jF [(s0,1)] G w G' w':=by
  refine⟨fun s p ho=>?_,fun _ _ _=>rfl,fun b' o f s p e6 hl hs=>⟨hl,?_⟩,fun _ _ _ hl _=>hl,hB⟩
  ·by_cases h:s=s0
   ·subst h
    have:p=[]:=Ly (by have:=ho 1 (by simp);omega)
    grind
   grind
  ·have cO:s≠s0:=by grind
   obtain⟨y,hy⟩:=e6;have cM:b'≠b:=by grind
   grind[yU,World.cell?]
 have gp:Mem Γ G' w':=by
  refine⟨fun s z=>?_,fun b' o l hl=>?_,fun b' l hl=>?_,fun b' x hx=>?_,fun b' h h'=>?_,by rw[k4];exact hm.sz,hm.bk.trans hB ko kq⟩
  ·show(if _ then _ else _:Value).oneCell'=iH
   split
   ·split
    ·split
     ·rfl
     ·exact hm.one _ _
    ·exact hm.one _ _
   ·exact hm.one _ _
  ·have:=hm.lb b' o l hl;exact⟨by rw[k4];exact this.1,this.2⟩
  ·have:=hm.ow b' l hl;exact⟨by rw[k4];exact this.1,this.2⟩
  ·have:b'≠b:=by rintro rfl;rw[gJ.2.2]at hx;cases hx
   rw[k3 b' this];exact hm.st b' x hx
  ·have:b'≠b:=by
    rintro rfl
    rcases gJ.2.1 with h0|h0
    all_goals grind
   rw[k3 b' this];exact hm.fr b' h h'
 refine⟨G',vS g9 rfl gy gp ?_ ?_⟩
 ·intro s hs
  rw[sB]at hs
  grind
 ·intro s t' hs
  rw[sB]at hs;split at hs
  ·rename_i he;subst he
   simp at hs;subst hs;refine⟨by grind[mkV],?_,by simp only[Top];exact zEo zPO us⟩;simp only[R];refine .inr ⟨b,cap,cs',e,by grind,k1,by grind,h4,by omega,h6,by grind,?_⟩;refine zK0 _ [] 0 b 0 fun i x hx=>?_
   rw[K3,Ko]at hx;obtain⟨u,hu,rfl⟩:=hx;have hi:=(Jv.1 hu).1;obtain⟨g1,g2,_⟩:=kH _ [] 0 b 0 1 i (I xs[i]) h8 (by simp);simp only[Ja,Hj,Loc]at g1 ⊢
   refine⟨⟨g1.1,g1.2.1,?_⟩,rfl,by simp[R,G',hu]⟩
   grind[yU,World.cell?]
  ·cases hs
def zG8(P:Program)(Γ:Ctx)(E:Env)(y:Operand)(ys:List Int):Prop:=∀(a:Act)(w:World)(G:Gh),Rep Γ E G a.tmps w→ ∃xa c,a.eval y=.slice xa ys.length c∧
 ∀(n:Nat),n≤ys.length→(Builtin.firstCells 1 n (.slice xa ys.length c)).run P w=.ok ((ys.take n).map vI).toArray w
theorem zC1{w:World}{b o:Nat}{cs:Array Value}{fr:Nat×Nat}(hb:w.heap[b]? =iF (.cells cs e fr))(ys:List Int)(hv:∀(i:Nat) u,ys[i]? =iF u→cs[o+i]? =iF (vI u))(n:Nat)(hn:n≤ys.length)(len cap:Nat):
  (Builtin.firstCells 1 n (.slice (iF ⟨b,o,iG⟩) len cap)).run P w=.ok ((ys.take n).map vI).toArray w:=by
 refine run_firstCells_some (P:=P) w 1 n ⟨b,o,iG⟩ len cap _ (by simp;omega) fun j v hj=>?_
 rw[K3,Ko]at hj;obtain⟨u,hu,rfl⟩:=hj
 grind[uW,World.cell?]
theorem zCN{w:World}{a:Option Addr}{c:Nat}:(Builtin.firstCells 1 0 (.slice a 0 c)).run P w=.ok #[] w:=by cases a<;>simp[Builtin.firstCells,loadCells,loadCellsFrom]
theorem zG8.ro{y:Operand}{ys:List Int}(h:tU E y=iF (r,q,.ro (L 1 I ys))):zG8 P Γ E y ys:=fun a w G g9=>by
 obtain⟨h1,h2⟩:=jS g9 h rfl;obtain⟨xa,c,g1,_,_,g2⟩:=zDr h1;rw[Jt]at g1;refine⟨xa,c,by rw[h2,g1],fun n hn=>?_⟩
 by_cases hy:ys=[]
 ·grind[zCN]
 ·obtain⟨b,o,cs,e,fr,rfl,g3,g4⟩:=g2 (by grind)
  refine zC1 (g9.mem.st b _ g3) ys (fun i u hu=>?_) n hn _ _;have:=zGR _ cs o 1 i (I u) g4 (by simp[hu]);simp only[RoC,Hj]at this
  grind
theorem zPU{w:World}{b:Nat}{cs:Array Value}{xs:List Int}{St:Stb}(h2:w.heap[b]? =iF (.cells cs e (0,0)))(h8:RL St G w s (xs.map I) q 0 b 0 1)(i:Nat)(u:Int)(hu:xs[i]? =iF u):cs[i]? =iF (vI u):=by
 obtain⟨g1,_,g3⟩:=kH _ q 0 b 0 1 i (I u) h8 (by simp[hu]);simp only[Loc,R,Ja,Hj]at g1 g3
 grind[yU,World.cell?]
theorem zG8.sub{tr:T}{xs ys:List Int}(hs:E s=iF (.sub r q 1 l.toNat h.toNat))(hr:E r=iF tr)(hg:tr.get q.reverse=iF (L 1 I xs))(hv:yD xs l h=iF ys):zG8 P Γ E (.tmp s) ys:=fun a w G g9=>by
 obtain⟨k1,k2,k3,rfl⟩:=sX hv;obtain⟨e1,e2,_⟩:=g9.ent s _ hs;obtain⟨_,e4,_⟩:=g9.ent r _ hr;simp only[R]at e2;have h5:=(zAE q.reverse tr _ [] e4 hg).1;simp only[rp,Kh,Jf,R]at h5;have gj:((xs.drop l.toNat).take (h.toNat-l.toNat)).length=h.toNat-l.toNat:=by simp;omega
 rw[gj];have bV:a.eval (.tmp s)=G.hd s []:=by rw[wK e1,xU rfl]
 rcases h5 with⟨g1,ad,g2⟩|⟨b,cap,cs,e,g1,g2,g3,_,_,_,_,g8⟩
 ·have hy:xs=[]:=by simp_all
  grind[zBw,zCN]
 ·rw[Jt]at g1 g3
  refine⟨if cap=l.toNat then iF ⟨b,0,iG⟩else iF ⟨b,l.toNat,iG⟩,cap-l.toNat,by rw[bV,e2,g1];simp only[zBw,Ha,uW,Ja,Hj],fun n hn=>?_⟩;split
  ·have:n=0:=by omega
   subst this;rfl
  ·refine zC1 g2 _ (fun i u hu=>?_) n (by omega) _ _
   grind[zPU]
def zCO(Γ:Ctx)(E:Env)(x:Operand)(s0 lo hi:Nat):Prop:=∀(a:Act)(w:World)(G:Gh),Rep Γ E G a.tmps w→a.eval x=zBw (G.hd s0 []) 1 lo hi
theorem zCO.slot{xs:List Int}(h:E s0=iF (L 1 I xs)):zCO Γ E (.tmp s0) s0 0 xs.length:=fun a w G g9=>by obtain⟨e1,e2,_⟩:=g9.ent s0 _ h;obtain⟨ad,c,g⟩:=zKu e2;rw[Jt]at g;rw[wK e1,xU rfl,g];simp[zBw];intro;cases ad<;>simp[Addr.add]
theorem zCO.same{xs:List Int}(hs:E s=iF (.same s0 []))(h:E s0=iF (L 1 I xs)):zCO Γ E (.tmp s) s0 0 xs.length:=fun a w G g9=>by obtain⟨e1,e2,_⟩:=g9.ent s _ hs;have:=zCO.slot h a w G g9;obtain⟨e3,_,_⟩:=g9.ent s0 _ h;simp only[R]at e2;rw[wK e3,xU rfl]at this;rw[wK e1,xU rfl,e2];exact this
theorem zCO.sub{lo hi:Nat}(hs:E s=iF (.sub s0 [] 1 lo hi)):zCO Γ E (.tmp s) s0 lo hi:=fun a w G g9=>by obtain⟨e1,e2,_⟩:=g9.ent s _ hs;simp only[R]at e2;rw[wK e1,xU rfl,e2]
end
theorem zRn{α:Type}{xs ys:List α}(hv:yD xs l h=iF ys):l.toNat≤h.toNat:=by have:=sX hv;omega
theorem zRo{α:Type}{xs ys:List α}(hv:yD xs l h=iF ys):h.toNat≤xs.length:=by have:=sX hv;omega
theorem zPV(l z:List α)(lo i:Nat)(eF:lo+z.length≤l.length):(l.take lo++z++l.drop (lo+z.length))[i]? =if i<lo then l[i]? else if i<lo+z.length then z[i-lo]? else l[i]?:=by
 have hm:min lo l.length=lo:=by omega
 grind
def wX(xs:List Int)(lo:Nat)(zs:List Int):List Int:=xs.take lo++zs++xs.drop (lo+zs.length)
theorem zKF{lo hi:Nat}{x y:Operand}{ty:TypeId}{ps:String}{af:Array Edge}{gd:Option (Nat×Bool)}{t t2:TypeId}{xs ys:List Int}(ht:ElT P t e ti 1 u)(h0:E s0=iF (L 1 I xs))(hx:∀S,zCO (Γ.at S) E x s0 lo hi)(hy:∀S,zG8 P (Γ.at S) E y ys)(h1:lo≤hi)(h2:hi≤xs.length)(sd:(J4 d Γ.N&&(s0 != d))=iH):
  Ok P Γ ⟨iF d,.call { callee:=.builtin .copy,args:=#[x,y],argTypes:=#[t,t2] },ty,ps,af,gd⟩ E ((E.app [(s0,iF (L 1 I (wX xs lo (ys.take (hi-lo)))))] [(s0,1)]).app [(d,iF (I ((min ys.length (hi-lo):Nat):Int)))] [(d,0)]):=by
 simp only[J2]at sd;have gg:s0≠d:=by grind
 intro S;refine wP.value rfl fun a w G g9=>?_
 obtain⟨e1,e2,_⟩:=g9.ent s0 _ h0;obtain⟨xa,c,g1,g2⟩:=hy S a w G g9;have g3:=hx S a w G g9;have eY:min ys.length (hi-lo)≤ys.length:=by omega
 have g4:=g2 _ eY;have ew:ys.take (hi-lo)=ys.take (min ys.length (hi-lo)):=by grind
 rw[ew]
 generalize hn:min ys.length (hi-lo)=n at*
 have mh:(ys.take n).length=n:=by simp;omega
 have gj:(wX xs lo (ys.take n)).length=xs.length:=by grind[wX]
 have key:∃w',(Builtin.copy_ #[t,t2] ty #[a.eval x,a.eval y]).run P w=.ok (goInt n) w'∧ ∃G',Rep (Γ.at S) (E.app [(s0,iF (L 1 I (wX xs lo (ys.take n))))] [(s0,1)]) G' a.tmps w':=by
  have e2':=e2;simp only[R]at e2;rcases e2 with⟨k1,ad,k2⟩|⟨b,cap,cs,e',k1,k2,k3,k4,k5,k6,k7,k8⟩
  ·have fJ:xs=[]:=by simp_all
   subst fJ;simp at h2;subst h2;have ap:n=0:=by omega
   subst ap;have eF:lo=0:=by omega
   subst eF;refine⟨w,?_,G,?_⟩
   ·rw[g3,k2,g1]
    cases ad<;>cases xa<;>simp[zBw,Builtin.copy_,run_underlying ht.un,Builtin.lenOf,sizeOf,typeInfo,ht.info,Builtin.firstCells,loadCells,loadCellsFrom,storeCells]
   ·refine vS g9 rfl ⟨fun _ _ _=>rfl,fun _ _ _=>rfl,by grind,fun _ _ _ h _=>h,fun b cs e h=>⟨cs,h,rfl⟩⟩ g9.mem (fun s hs=>⟨by grind[Wr.find],rfl⟩) fun s t' hs=>?_
    rw[sB]at hs;split at hs
    ·rename_i he;subst he
     simp at hs;subst hs;simpa[wX]using g9.ent s0 _ h0
    ·cases hs
  ·rw[Jt]at k1 k3 k7
   have gz:cap≤cs.size:=by omega
   have gF:=run_storeCells_at P b lo e' ((ys.take n).map vI) 0 cs w k2 (by simp;omega) (by intro v hv;obtain⟨u,_,rfl⟩:=Jl.1 hv;rfl);simp only[Q6,Jt]at gF
   generalize eL:w.setRow b (cs.toList.take lo++(ys.take n).map vI++cs.toList.drop (lo+(ys.take n).length)).toArray=w' at gF
   have gC:cs.toList.length=cs.size:=rfl
   by_cases md:cap=lo
   ·have ap:n=0:=by omega
    subst ap;refine⟨w,?_,G,?_⟩
    ·rw[g3,k1,g1]
     have g5:(Builtin.firstCells 1 0 (.slice xa ys.length c)).run P w=.ok #[] w:=by grind
     simp[zBw,Builtin.copy_,run_underlying ht.un,Builtin.lenOf,sizeOf,typeInfo,ht.info,ht.size,show hi-lo=0 by omega,g5,storeCells,md]
    ·refine vS g9 rfl ⟨fun _ _ _=>rfl,fun _ _ _=>rfl,by grind,fun _ _ _ h _=>h,fun b cs e h=>⟨cs,h,rfl⟩⟩ g9.mem (fun s hs=>⟨by grind[Wr.find],rfl⟩) fun s t' hs=>?_
     rw[sB]at hs;split at hs
     ·rename_i he;subst he
      simp at hs;subst hs;simpa[wX]using g9.ent s0 _ h0
     ·cases hs
   ·refine⟨w',?_,zMl g9 h0 gj k1 k2 k3 k4 k5 k6 k7 k8 (by rw[←eL];exact setRow_heap w b cs _ e' _ k2) ?_ (by grind[setRow_other]) (by grind[size_setRow]) (by rw[←eL];rfl) (by rw[←eL];rfl) fun i v hv=>?_⟩
    ·rw[g3,k1,g1]
     have h9:Nat.min ys.length (hi-lo)=n:=hn;simp only[zBw,md,if_false,Ha,uW,Ja,Hj];simp only[Builtin.copy_];rw[Ja6]at gF;simp[run_underlying ht.un,Builtin.lenOf,sizeOf,typeInfo,ht.info,ht.size,h9,g4,gF]
    ·grind
    ·rw[wX,zPV _ _ _ _ (by omega)]at hv
     have h11:lo+((ys.take n).map vI).length≤cs.toList.length:=by simp;omega
     have h10:=zPV cs.toList ((ys.take n).map vI) lo i h11;rw[Jt]at h10;rw[List.getElem?_toArray,h10];have ms:=fun i u hu=>zPU k2 k8 i u hu
     by_cases c1:i<lo
     ·grind
     ·rw[if_neg c1]at hv ⊢
      by_cases c2:i<lo+(ys.take n).length
      ·rw[if_pos c2]at hv ⊢
       rw[K3,hv];rfl
      grind
 obtain⟨w',gA,G',gu⟩:=key;refine⟨_,w',?_,_,vU gu rfl (yN sd.1) (fun _=>vI n) (fun _=>rfl) (I n) (vI n) (by simp[mkV,Gh.put]) (by simp[R,Gh.put]) (by simp[Top])⟩;simp[execOp,resolve,invoke,builtin,gA,goInt]
theorem zJH{G G':Gh}{s d:Nat}(hd:∀z,G'.hd d z=G.hd s z):(xs:List T)→yX xs=iH→ ∀(j:Nat),zAd G' d (cpF s xs [] j) [] j=zAd G s xs [] j
 | [],_,_=>by rfl
 |x::xs,h,j=>by
  simp only[yX,J2]at h;simp only[cpF,zAd];have eg:∀ys,x≠.tup ys:=by rintro ys rfl;grind[T.okTup]
  have h1:=zAF (G:=G) (G':=G') (s:=s) (d:=d) x [j] [j] eg (fun z=>hd _);have h2:∀ys,cpT s x [j]≠.tup ys:=by intro ys;cases x<;>simp[cpT]
  rw[zAe _ _ _ _ h2]at h1;rw[h1,zJH hd xs h.2 (j+1)]
section
variable {P:Program}{Γ:Ctx}{E E':Env}{d:Nat}{x y:Operand}{ty:TypeId}{ps:String}{af:Array Edge}{gd:Option (Nat×Bool)}
theorem zTq(hx:E s=iF (.tup ts))(sd:(J4 d Γ.N&&yX ts&&(s != d)&&zLA [(d,0)] (cpF s ts [] 0))=iH):Ok P Γ ⟨iF d,.move (.tmp s),ty,ps,af,gd⟩ E (E.app [(d,iF (.tup (cpF s ts [] 0)))] [(d,0)]):=by
 simp only[J2]at sd;obtain⟨⟨⟨s1,s2⟩,s3⟩,s4⟩:=sd;have gg:s≠d:=by grind
 intro S;refine wP.value rfl fun a w G g9=>?_
 obtain⟨h1,h2,_⟩:=g9.ent s _ hx;simp only[R]at h2;have hk:=G.put_keep (w:=w) (w':=w) rfl d (fun z=>G.hd s z);have hz:∀z,(G.put d (fun z=>G.hd s z)).hd d z=G.hd s z:=by grind[Gh.put_self]
 have htop:∀(xs:List T)(j:Nat),uA (cpF s xs [] j):=by
  intro xs
  induction xs with
  |nil=>intro j;simp only[cpF,uA]
  |cons x xs ih=>intro j;simp only[cpF,uA];grind[jA]
 refine⟨mkV G s (.tup ts) [],w,?_,_,vU g9 rfl (yN s1) (fun z=>G.hd s z) (fun z=>g9.mem.one _ _) _ _ (by grind[mkV,zJH])
  (by simp only[R];exact zKs (fun p=>G.put_other _ p gg) ts [] [] 0 (fun z=>hz _) (wC.mono (fun r p hr=>⟨hk.hd r p hr,hk.ad r p hr⟩) _ (by grind[zHm])) h2) (by simp only[Top];grind)⟩
 simp[execOp,wK h1]
end
section
variable (ds r:Nat)
inductive zRp:Env→List (Nat×List Nat)→Env→Prop where
 |nil (E:Env):zRp E [] E
 |cons {E E':Env}{l:List (Nat×List Nat)} (j:Nat) (q:List Nat) (td td' tr tr' u:T) (hd:E ds=iF td) (hg:td.get [j]=iF (.same r q)) (hr:E r=iF tr) (hp:tr.get q.reverse=iF u) (eC:yE u)
   (mP:td.set [j] u=td') (pO:tr.set q.reverse .any=tr') (sd:(u.single&&td.okB [(ds,2),(r,q.length+1)]&&tr.okB [(ds,2),(r,q.length+1)]&&xN td&&xN tr&&(ds != r)&& !q.isEmpty)=iH)
   (h:zRp (E.app [(ds,iF td'),(r,iF tr')] [(ds,2),(r,q.length+1)]) l E'):zRp E ((j,q)::l) E'
inductive zJI:Env→List (Nat×List Nat)→Env→Prop where
 |nil (E:Env):zJI E [] E
 |cons {E E':Env}{l:List (Nat×List Nat)} (j:Nat) (q:List Nat) (td td' tr tr' u v0:T) (hd:E ds=iF td) (hg:td.get [j]=iF u) (hr:E r=iF tr) (hp:tr.get q.reverse=iF v0) (eC:yE u)
   (mP:td.set [j] .any=td') (pO:tr.set q.reverse u=tr') (sd:(u.single&&v0.single&&td.okB [(r,q.length+1),(ds,2)]&&tr.okB [(r,q.length+1),(ds,2)]&&xN td&&xN tr&&(ds != r)&& !q.isEmpty)=iH)
   (h:zJI (E.app [(r,iF tr'),(ds,iF td')] [(r,q.length+1),(ds,2)]) l E'):zJI E ((j,q)::l) E'
end
theorem zWU{g z:List Nat}(h:g<:+z)(hn:z≠g):g.length<z.length:=by
 have h1:=h.length_le;rcases Jg g.length z.length with h2|h2
 ·exact h2
 ·exact absurd (h.eq_of_length (by omega)).symm hn
theorem zRp.rep{w:World}{l:List (Nat×List Nat)}(h:zRp ds r E l E'):∀{G:Gh},Rep Γ E G tmps w→
  ∃G',Rep Γ E' G' tmps w∧(∀z,G'.hd r z=G.hd r z)∧(∀j,G'.hd ds [j]=G.hd ds [j])∧ ∀x∈l,G.hd ds [x.1]=G.hd r x.2:=by
 induction h with
 |nil E=>intro G hr;exact⟨G,hr,fun _=>rfl,fun _=>rfl,by simp⟩
 |cons j q td td' tr tr' u hd hg hr hp eC mP pO sd _ ih=>
  intro G g9;simp only[J2]at sd;obtain⟨⟨⟨⟨⟨⟨s1,s2⟩,s3⟩,s4⟩,s5⟩,s6⟩,s7⟩:=sd;have gg:ds≠r:=by grind
  have hq:q≠[]:=by grind
  have gY:G.hd ds [j]=G.hd r q:=by have:=(zAE [j] td _ [] (g9.ent ds td hd).2.1 hg).1;simpa[rp,R]using this
  obtain⟨h1,h2⟩:=zEj g9 ds [j] r q td tr u (.same r q) hd (by grind) rfl gY hr hp s1 eC gg (by omega) (by omega) s4 s5;rw[if_neg hq,show([j]:List Nat).reverse=[j]from rfl,mP,pO]at h1;obtain⟨G',g1,g2,g3,g4⟩:=ih (by omega)
  grind
theorem zJI.rep{w:World}{l:List (Nat×List Nat)}(m:Nat)(h:zJI ds r E l E'):(∀x∈l,x.2.length=m)→ ∀{G:Gh},Rep Γ E G tmps w→(∀x∈l,G.hd ds [x.1]=G.hd r x.2)→ ∃G',Rep Γ E' G' tmps w:=by
 induction h with
 |nil E=>grind
 | @cons E E' l j q td td' tr tr' u v0 hd hg hr hp eC mP pO sd _ ih=>
  intro hm G g9 dI;simp only[J2]at sd;obtain⟨⟨⟨⟨⟨⟨⟨s1,s1'⟩,s2⟩,s3⟩,s4⟩,s5⟩,s6⟩,s7⟩:=sd;have gg:ds≠r:=by grind
  have hq:q≠[]:=by grind
  obtain⟨h1,h2⟩:=zEj g9 r q ds [j] tr td u v0 hr hp s1' (dI (j,q) (by simp)).symm hd (by grind) s1 eC (Ne.symm gg) (by omega) (by omega) s5 s4;rw[if_neg (by simp),show([j]:List Nat).reverse=[j]from rfl,mP,pO]at h1;refine ih (by grind) (by omega) fun x hx=>?_
  have e1:∀z,(G.tr r q ds [j]).hd ds z=G.hd ds z:=by grind
  by_cases hz:q<:+x.2∧x.2≠q
  ·have h3:=zWU hz.1 hz.2
   rw[hm x (by simp[hx]),hm (j,q) (by simp)]at h3;omega
  grind
theorem zG9{G G':Gh}{s:Nat}:(xs ys:List T)→(∀x∈xs,x.single=iH)→(∀x∈ys,x.single=iH)→xs.length=ys.length→ ∀(j:Nat),yJ G s xs [] j=yJ G' s ys [] j→ ∀i,i<xs.length→G.hd s [j+i]=G'.hd s [j+i]
 | [],_,_,_,_,_,_,i,hi=>by simp at hi
 |x::xs,[],_,_,hl,_,_,_,_=>by simp at hl
 |x::xs,y::ys,h1,h2,hl,j,h,i,hi=>by
  have v1:∀(G:Gh)(t:T)(p:List Nat),t.single=iH→vals G s t p=[G.hd s p]:=fun G t p ht=>by cases t<;>simp[T.single]at ht<;>simp[vals]
  simp only[yJ,v1 G x _ (h1 x (by simp)),v1 G' y _ (h2 y (by simp)),Li,Q2.injEq]at h;cases i with
  |zero=>exact h.1
  |succ i=>
   have:=zG9 xs ys (by grind) (by grind) (by grind) (j+1) h.2 i (by grind)
   grind
def zEX:List T→Bool
 | []=>iH
 |x::xs=>x.single&&zEX xs
theorem zEq:{xs:List T}→zEX xs=iH→ ∀x∈xs,x.single=iH
 | [],_,_,h=>by simp at h
 |x::xs,h,y,hy=>by
  simp only[zEX,J2]at h;rcases J7.1 hy with rfl|hy
  ·exact h.1
  ·exact zEq h.2 y hy
theorem zKG{E3:Env}{ty:TypeId}{ps:String}{af:Array Edge}{gd:Option (Nat×Bool)}{f:FuncId}{xs:List Operand}{res:List T}{ts':List T}(i ds r:Nat)(l:List (Nat×List Nat))(m:Nat)(gr:zAK P f)(hc:FnC P f us res [(i,.agg ts')])
  (gO:zRp ds r E l E1)(hs:E1 ds=iF (.agg ts))(eB:yE (.agg ts'))(pg:vF (.agg ts')=iH)(gc:wB E1 [(i,ds,.agg ts')] 0 xs us)(gk:kB res)
  (ui:zJI ds r (E1.app (cWr d res [(i,ds,.agg ts')]) (uJ d [(i,ds,.agg ts')])) l E3)
  (sd:(J4 d Γ.N&&(d != ds)&&(d != r)&&(ds != r)&&zEX ts&&zEX ts'&&(ts.length==ts'.length)&&(l.all fun x=>x.2.length==m&&J4 x.1 ts.length))=iH)(hx:xs[i]? =iF (.tmp ds))(hu:us[i]? =iF (.agg ts)):
  Ok P Γ ⟨iF d,.call { callee:=.value (.func f),args:=xs.toArray,argTypes:=ats },ty,ps,af,gd⟩ E E3:=by
 simp only[J2]at sd;obtain⟨⟨⟨⟨⟨⟨⟨s1,s2⟩,s3⟩,s4⟩,s5⟩,s6⟩,s7⟩,s8⟩:=sd;have d1:d≠ds:=by grind
 have d2:d≠r:=by grind
 have d3:ds≠r:=by grind
 have gj:ts.length=ts'.length:=by grind
 have hl:∀x∈l,x.2.length=m∧x.1<ts.length:=fun x hx=>by
  have:=Kc.1 s8 x hx
  simp_all
 intro S a w K Q ⟨gL,G,g9⟩ hK;refine zCH (xf:=.func f) rfl rfl gr rfl ?_;obtain⟨G1,g1,g2,g3,g4⟩:=gO.rep g9;refine(zH8 g1 (yN s1) f xs us res [(i,ds,.agg ts')] hc gc (zH7.one' (u:=.agg ts) d1 hx eB rfl pg hs hu) gk).mono ?_
 rintro e w' ⟨v,rfl,S',G',hS,hk,gu⟩
 have gQ:(E1.app (cWr d res [(i,ds,.agg ts')]) (uJ d [(i,ds,.agg ts')])) ds=iF (.agg ts'):=by grind[Env.app,Wr.find,cWr]
 have hv:mkV G' ds (.agg ts') []=mkV G1 ds (.agg ts) []:=by
  have a1:=(gu.ent ds _ gQ).1;have a2:=(g1.ent ds _ hs).1
  grind
 simp only[mkV,Value.agg.injEq]at hv;have c9:yJ G' ds ts' [] 0=yJ G1 ds ts [] 0:=by grind
 have bj:=zG9 ts' ts (zEq s6) (zEq s5) gj.symm 0 c9;obtain⟨G3,hG3⟩:=ui.rep m (by grind) gu fun x hx=>by
  have h1:=bj x.1 (by grind);rw[Ja]at h1;have h2:G'.hd r x.2=G1.hd r x.2:=hk.hd r x.2 (fun n hn=>by grind[uJ])
  grind
 exact⟨v,rfl,hK _ _ ⟨S',hS,gL,G3,hG3⟩⟩
section
variable {P:Program}{Γ:Ctx}{E:Env}{d:Nat}{x:Operand}{ty:TypeId}{ps:String}{af:Array Edge}{gd:Option (Nat×Bool)}
class zWV (P:Program) (t:TypeId) (e:outParam TypeId) (ti:outParam TypeInfo) (n:outParam Nat) (k:outParam Nat):Prop where
 un:P.underlying t=iF (.array n e)
 info:P.info? e=iF ti
 size:ti.size=k
theorem zPW{t:TypeId}{n:Nat}{xs:List T}(i:Nat)(ht:zWV P t e ti n k)(hx:tU E x=iF (r,q,.ptr (.agg xs)))(hu:xs[i]? =iF u)(gE:T.sizes (xs.take i)=i*k)(sd:(J4 d Γ.N&&J4 i n)=iH):
  Ok P Γ ⟨iF d,.indexAddr t x (.const (.int .i64 i)),ty,ps,af,gd⟩ E (E.app [(d,iF (.addr r (i::0::q)))] [(d,0)]):=by
 simp only[J2]at sd;have gO:=yN sd.2;intro S;refine wP.value rfl fun a w G g9=>?_
 obtain⟨g1,g2⟩:=jS g9 hx rfl;simp only[R]at g1;obtain⟨b,cs,e',g4,_,_,_,g5,_⟩:=g1;simp only[Loc]at g5;have g6:=zC8 xs (0::q) 0 b 0 i u g5.2 hu;simp only[Ja]at g6;have g3:a.eval (.const (.int .i64 i))=.int .i64 i:=rfl;refine⟨.pointer (iF (G.ad r (i::0::q))),w,?_,_,vU g9 rfl (yN sd.1) (fun _=>.pointer (iF (G.ad r (i::0::q)))) (fun _=>rfl) _ _ (by simp[mkV,Gh.put]) (by simp[R,Gh.put]) (by simp[Top])⟩;have gH:(i:Int)<(n:Int):=by omega
 have h0:(0:Int)≤i:=by omega
 have g7:=zBR g6;have bh:i<n:=gO;simp[execOp,Instr.indexAt,g3,g2,g4,asIntOf,run_underlying ht.un,h0,bh,sizeOf,typeInfo,ht.info,ht.size,uW,sF,g7,gE]
end
theorem zAZ{tr t:T}(h:E s=iF t)(gg:(Jay ds s||Jay r s)=iI:=by rfl)(hb:t.okB [(ds,1),(r,q.length+1)]=iH:=by rfl):opT (uC E ds r q tr u) (.tmp s)=iF t:=by
 have h1:ds≠s:=by rintro rfl;simp at gg
 have h2:r≠s:=by rintro rfl;simp at gg
 simp[opT,uC,Env.app,Wr.find,h1,h2,h,hb]
section
variable {P:Program}{Γ:Ctx}{pn:kM}{E E':Env}{Q Q1:Exit→Env→Prop}{c c1 c2:Code}{ops:Array Oper}{o:Oper}{os:List Oper}{id:Nat}
theorem sR(h:RW P Γ pn ops ops.toList E (wR P Γ pn c Q)):CW P Γ pn (.seq (.region id ops iI) c) E Q:=CW.seq (CW.region h)
theorem rN(h:CW P Γ pn c E Q):RW P Γ pn ops [] E (wR P Γ pn c Q):=RW.nil h
theorem oP(h:Ok P Γ o E E')(k:RW P Γ pn ops os E' Q)(hg:o.guard=iG:=by rfl)(hp:pn.ok o.dst=iH:=by rfl):RW P Γ pn ops (o::os) E Q:=RW.op h k hg hp
def zZ1(ops:List Oper):List (List Nat):=(ops.foldl (fun(acc:Array (List Nat)) o=>acc.push ((zB6 o).foldl (fun l m=>m::(acc.getD m [])++l) [])) #[]).toList
theorem CW.lp(body:σ→Option (σ⊕ρ))(en:σ→Env)(Q1:ρ→Exit→Env→Prop){s:σ}{r:ρ}(hg:zP Γ E (en s))(h:∀s x,body s=iF x→CW P Γ pn c (en s) (uY Γ en Q1 x))(hr:zI body s=iF r)(hq:∀e E',Q1 r e E'→Q e E'):CW P Γ pn (.loop c) E Q:=
 (CW.mono (CW.loop body en Q1 h hr) hq).ghost hg
end
open Go Go.ChangeShapes
abbrev zMm(w:World):Stb:=fun b=>w.heap[b]?
theorem zRq{w:World}{a:Addr}{n:Nat}{cs:List Value}(h:w.cells? 0 a n=iF cs):cs.length=n∧ ∀(i:Nat) v,cs[i]? =iF v→w.cell? (a.add i)=iF v:=by
 unfold World.cells? at h;rw[if_pos (Ka _)]at h;refine⟨by simpa using mapM_some_length h,fun i v hv=>?_⟩;have hi:i<n:=by grind[mapM_some_length,H4]
 rw[←hv];exact mapM_some_get h i i (by simp[hi])
theorem zPX{w:World}{a:Addr}{v:Value}(h:w.cell? a=iF v):a.spot=iG∧ ∃c e fr,w.heap[a.block]? =iF (.cells c e fr)∧c[a.off]? =iF v:=by
 simp only[World.cell?]at h;split at h
 all_goals simp_all
theorem zMn{b o m:Nat}:(Addr.mk b o iG).add m=⟨b,o+m,iG⟩:=by grind[Addr.add]
theorem zGA{α:Type}{Q:Nat→α→Prop}:∀(n:Nat),(∀i,i<n→ ∃x,Q i x)→ ∃xs:List α,xs.length=n∧ ∀i x,xs[i]? =iF x→Q i x
 |0,_=>by simp
 |n+1,h=>by
  obtain⟨xs,h1,h2⟩:=zGA n fun i hi=>h i (by omega)
  obtain⟨y,hy⟩:=h n (by omega);refine⟨xs++[y],by simp[h1],fun i x hx=>?_⟩
  grind
theorem zPY{St:Stb}:(xs:List T)→ ∀(cs:Array Value)(o k:Nat),(∀i x,xs[i]? =iF x→RoC St x cs (o+i*k))→RoL St xs cs o k
 | [],_,_,_,_=>by simp only[RoL]
 |x::xs,cs,o,k,h=>by
  simp only[RoL];refine⟨by simpa using h 0 x rfl,zPY xs cs (o+k) k fun i y hy=>?_⟩;have:=h (i+1) y (by grind)
  grind
section
variable {P:Program}
def RdT(P:Program)(t:TypeId)(k:Nat){α:Type}(f:α→T)(V:α→Prop):Prop:=
 ∀{H:Type}(enc:TypeId×Value→H)(w:World)(fuel:Nat)(cs:List Value)(x:DataW H×List MemPlace),DataW.trod enc P w 0 (fun _=>iH) iH fuel t cs=iF x→
  cs.length=k→ ∃d,V d∧ ∀(A:Array Value)(o:Nat),(∀(i:Nat) v,cs[i]? =iF v→A[o+i]? =iF v)→RoC (zMm w) (f d) A o
theorem zZ2{t:TypeId}{q:IntKind}(hu:P.underlying t=iF (.int q)):RdT P t 1 (IK q) (fun n=>(Lit.int q n).wf=iH):=by intro H enc w fuel cs x h _;obtain⟨n,rfl,_,hw⟩:=DataW.trod_int hu h;exact⟨n,hw,fun A o hA=>by simp only[RoC];exact⟨by simpa using hA 0 _ rfl,rfl⟩⟩
theorem zZ3{α:Type}{f:α→T}{V:α→Prop}{t:TypeId}(hu:P.underlying t=iF (.slice e))(hk:P.cellsOf e=k)(eR:0<k)(h:RdT P e k f V):
  RdT P t 1 (L k f) (fun xs=>xs.length≤maxLen∧ ∀x∈xs,V x):=by
 intro H enc w fuel cs x hx _;rcases DataW.trod_slice hu hx with⟨rfl,_⟩|⟨a,len,cap,elems,rest,n,rfl,rfl,_,_,hle,md,de,cX,_⟩
 ·refine⟨[],by simp,fun A o hA=>?_⟩
  simp only[RoC,Ub,Jx];exact⟨iG,0,by simpa using hA 0 _ rfl,Jh _,by simp,fun h=>absurd rfl h⟩
 ·subst hk
  have key:∀i,i<len→ ∃y,V y∧ ∃cs':List Value,cs'.length=P.cellsOf e∧(∀(j:Nat) v,cs'[j]? =iF v→w.cell? ((a.add (i*P.cellsOf e)).add j)=iF v)∧
    ∀(A:Array Value)(o:Nat),(∀(j:Nat) v,cs'[j]? =iF v→A[o+j]? =iF v)→RoC (zMm w) (f y) A o:=by
   intro i hi;have h1:=cX i hi;rw[J5 (by omega)]at h1;obtain⟨cs',h2,h3⟩:=Option.bind_eq_some_iff.1 h1;obtain⟨h4,h5⟩:=zRq h2;obtain⟨y,h6,h7⟩:=h enc w n cs' _ h3 h4
   grind
  obtain⟨xs,hxl,fJ⟩:=zGA len key;refine⟨xs,⟨by omega,fun y hy=>?_⟩,fun A o hA=>?_⟩
  ·obtain⟨i,hi,rfl⟩:=K4.1 hy
   exact(fJ i _ (by simp)).1
  ·simp only[RoC,Jt,hxl]
   refine⟨iF a,cap,by simpa using hA 0 _ rfl,hle,md,fun gg=>?_⟩;have py:0<xs.length:=by grind
   obtain⟨_,cs0,g1,g2,_⟩:=fJ 0 _ (J5 py);have hz:a.add (0*P.cellsOf e)=a:=by simp[Addr.add]
   have g3:=g2 0 cs0[0] (by simp);rw[hz,show a.add 0=a from by rfl]at g3;obtain⟨tz,c,e',fr,hb,_⟩:=zPX g3;obtain⟨b,off,sp⟩:=a;simp only at tz hb;subst tz;refine⟨b,off,c,e',fr,rfl,hb,zPY _ _ _ _ fun i y hy=>?_⟩;rw[K3,Ko]at hy;obtain⟨z,mC,rfl⟩:=hy;obtain⟨_,cs',g1',g2',g4⟩:=fJ i z mC;refine g4 c _ fun j v hv=>?_
   have:=g2' j v hv;rw[zMn,zMn]at this;obtain⟨_,c2,e2,fr2,bz,c9⟩:=zPX this
   grind
theorem zKH{H:Type}{enc:TypeId×Value→H}{w:World}{t:TypeId}{fs:Array Field}{fuel:Nat}{cs:List Value}{x:DataW H×List MemPlace}(hu:P.underlying t=iF (.struct fs))(h:DataW.trod enc P w 0 (fun _=>iH) iH fuel t cs=iF x)
  {f:Field}(hf:fs[i]? =iF f)(hj:f.offset=j)(hk:P.cellsOf f.type=k):∃n y,DataW.trod enc P w 0 (fun _=>iH) iH n f.type ((cs.drop j).take k)=iF y:=by
 obtain⟨xs,n,_,_,_,gj,cX⟩:=DataW.trod_struct hu h
 grind
end
def zRr(v:Value):Value:=if v.oneCell' then v else .bool iI
theorem zMo(v:Value):(zRr v).oneCell'=iH:=by unfold zRr;split;assumption;rfl
theorem zKI{v:Value}(h:v.oneCell'=iH):zRr v=v:=by simp[zRr,h]
def hd0(vs:Array Value)(s:Nat)(p:List Nat):Value:=
 match vs[s]?,p with
 |some (.agg cs),[j]=>zRr (cs[j]?.getD (.bool iI))
 |some v,[]=>zRr v
 |_,_=>.bool iI
def G0(vs:Array Value):Gh:={ hd:=hd0 vs,ad:=fun _ _=>default,lb:=fun _ _=>iG,ow:=fun _=>iG }
theorem yCQ(w:World)(vs:Array Value):Mem ⟨zMm w,fun _=>False,w,0⟩ (G0 vs) w where
 one s p:=by
  simp only[G0,hd0];split
  ·exact zMo _
  ·exact zMo _
  ·rfl
 lb b o l h:=by grind[G0]
 ow b l h:=by grind[G0]
 st b x h:=h
 fr b _ _:=rfl
 sz:=Jh _
 bk:=⟨fun b cs e h=>⟨cs,h,rfl⟩,rfl,rfl⟩
def RdA(P:Program)(t:TypeId){α:Type}(u:α→T)(V:α→Prop):Prop:=
 ∀{H:Type}(enc:TypeId×Value→H)(w:World)(base fuel:Nat)(v:Value)(x:DataW H×List MemPlace),DataW.trod enc P w 0 (fun _=>iH) iH fuel t v.cells.toList=iF x→
  Value.okWide P w .any base t v→ ∃d,V d∧ ∀(vs:Array Value)(s:Nat),vs[s]? =iF v→iF v=iF (mkV (G0 vs) s (u d) [])∧R (zMm w) (G0 vs) w s (u d) []
def RdC(P:Program)(t:TypeId){α:Type}(u:α→T)(V:α→Prop):Prop:=
 ∀{H:Type}(enc:TypeId×Value→H)(w:World)(fuel:Nat)(c:Value)(x:DataW H×List MemPlace),DataW.trod enc P w 0 (fun _=>iH) iH fuel t [c]=iF x→
  ∃d,V d∧c.oneCell'=iH∧ ∀(G:Gh)(s:Nat)(p:List Nat),G.hd s p=c→vals G s (u d) p=[c]∧R (zMm w) G w s (u d) p
section
variable {P:Program}
theorem zZ4{t:TypeId}{q:IntKind}(hu:P.underlying t=iF (.int q)):RdC P t (IK q) (fun n=>(Lit.int q n).wf=iH):=by intro H enc w fuel c x h;obtain⟨n,h1,_,hw⟩:=DataW.trod_int hu h;simp only[Q2.injEq,and_true]at h1;subst h1;exact⟨n,hw,rfl,fun G s p hp=>⟨by grind[vals],by simp only[R,hp]⟩⟩
theorem yAZ{α:Type}{f:α→T}{V:α→Prop}{t:TypeId}(h:RdT P t 1 f V)(h1:∀{H:Type}(enc:TypeId×Value→H)(w:World)(fuel:Nat)(c:Value)(x:DataW H×List MemPlace),DataW.trod enc P w 0 (fun _=>iH) iH fuel t [c]=iF x→c.oneCell'=iH):
  RdC P t (fun x=>T.ro (f x)) V:=by
 intro H enc w fuel c x hx;obtain⟨d,g1,g2⟩:=h enc w fuel [c] x hx rfl;refine⟨d,g1,h1 enc w fuel c x hx,fun G s p hp=>⟨by grind[vals],?_⟩⟩;simp only[R,hp]
 grind
theorem zWW{α:Type}{f:α→T}{V:α→Prop}{t:TypeId}(hu:P.underlying t=iF (.slice e))(hk:P.cellsOf e=k)(eR:0<k)(h:RdT P e k f V):RdC P t (fun xs=>T.ro (L k f xs)) (fun xs=>xs.length≤maxLen∧ ∀x∈xs,V x):=
 yAZ (zZ3 hu hk eR h) fun enc w fuel c x hx=>by
  rcases DataW.trod_slice hu hx with⟨h1,_⟩|⟨a,len,cap,_,_,_,_,h1,_⟩<;>
  ·simp only[Q2.injEq,and_true]at h1
   subst h1;rfl
theorem zWX{α:Type}{u:α→T}{V:α→Prop}{t:TypeId}(hs:∀x,(u x).single=iH∧ ∀G s,mkV G s (u x) []=G.hd s [])(h:RdC P t u V)
  (hv:∀{w:World}{base:Nat}{v:Value},Value.okWide P w .any base t v→v.oneCell'=iH):RdA P t u V:=by
 intro H enc w base fuel v x hx gB;have h1:v.cells.toList=[v]:=by have:=hv gB;cases v<;>simp_all [Value.oneCell',Value.cells]
 rw[h1]at hx;obtain⟨d,g1,g2,g3⟩:=h enc w fuel v x hx;refine⟨d,g1,fun vs s cy=>?_⟩;have gI:(G0 vs).hd s []=v:=by simp only[G0,hd0,cy];cases v<;>first|rfl|grind[Value.oneCell']
 grind
theorem zJf{w:World}{base:Nat}{t:TypeId}{fs:Array Field}{v:Value}(hu:P.underlying t=iF (.struct fs))(h:Value.okWide P w .any base t v):∃cs,v=.agg cs∧cs.size=P.cellsOf t:=by
 simp only[Value.okWide,hu]at h
 grind
theorem zY1{β γ δ:Type}{ua:α→T}{ub:β→T}{uc:γ→T}{Va:α→Prop}{Vb:β→Prop}{Vc:γ→Prop}{t:TypeId}{f0 f1 f2:Field}(mk:α→β→γ→δ){u:δ→T}{V:δ→Prop}
  (hu:P.underlying t=iF (.struct #[f0,f1,f2]))(hc:P.cellsOf t=3)(h0:f0.offset=0∧P.cellsOf f0.type=1)(h1:f1.offset=1∧P.cellsOf f1.type=1)(h2:f2.offset=2∧P.cellsOf f2.type=1)
  (ra:RdC P f0.type ua Va)(rb:RdC P f1.type ub Vb)(rc:RdC P f2.type uc Vc)(hmk:∀a b c,u (mk a b c)=T.agg [ua a,ub b,uc c])(hV:∀a b c,Va a→Vb b→Vc c→V (mk a b c)):RdA P t u V:=by
 intro H enc w base fuel v x hx gB;obtain⟨cs,rfl,gz⟩:=zJf hu gB;obtain⟨l,rfl⟩:∃l:List Value,cs=l.toArray:=⟨cs.toList,by simp⟩;rw[hc,Jbf]at gz;obtain⟨c0,c1,c2,rfl⟩:∃a b c,l=[a,b,c]:=by
  match l,gz with
  | [a,b,c],_=>simp
 simp only[Value.cells]at hx;obtain⟨n0,y0,g0⟩:=zKH hu hx (i:=0) rfl h0.1 h0.2;obtain⟨n1,y1,g1⟩:=zKH hu hx (i:=1) rfl h1.1 h1.2;obtain⟨n2,y2,g2⟩:=zKH hu hx (i:=2) rfl h2.1 h2.2;simp only[List.drop_succ_cons,U6,Lj,Kd]at g0 g1 g2;obtain⟨a,a1,a2,a3⟩:=ra enc w n0 c0 _ g0;obtain⟨b,b1,b2,b3⟩:=rb enc w n1 c1 _ g1;obtain⟨c,e1,e2,e3⟩:=rc enc w n2 c2 _ g2;refine⟨mk a b c,hV a b c a1 b1 e1,fun vs s cy=>?_⟩;have k0:(G0 vs).hd s [0]=c0:=by simp[G0,hd0,cy,zKI a2]
 have k1:(G0 vs).hd s [1]=c1:=by simp[G0,hd0,cy,zKI b2]
 have k2:(G0 vs).hd s [2]=c2:=by simp[G0,hd0,cy,zKI e2]
 rw[hmk];simp only[mkV,yJ,(a3 _ _ _ k0).1,(b3 _ _ _ k1).1,(e3 _ _ _ k2).1,K5,K0,R,RF]
 grind
end
theorem FnC.top{f:FuncId}(h:FnC P f us [B iH] []){w:World}{vs:Array Value}(gz:vs.size=us.length)
  (ha:∀(i:Nat) u,us[i]? =iF u→vs[i]? =iF (mkV (G0 vs) i u [])∧R (zMm w) (G0 vs) w i u []):
  Calls P f vs w fun e w'=>e=.returned (.bool iH)∧w'.os=w.os∧w'.output=w.output∧w.heap.size≤w'.heap.size∧ ∀b,b<w.heap.size→w'.heap[b]? =w.heap[b]?:=by
 refine(h (zMm w) (fun _=>False) w (G0 vs) vs gz (fun i u hu=>?_) (yCQ w vs)).mono fun e w'=>?_
 ·grind
 ·rintro⟨S',G',nd,_,he,hm,cJ,hr,_,_⟩
  match nd,cJ with
  | [(s,p,t)],cJ=>
   simp only[Jr,Ub,Q2.injEq,and_true]at cJ;subst cJ;have:=(hr (s,p,B iH) (by simp)).1;simp only[R]at this;exact⟨by grind[zLR,sU],hm.bk.os,hm.bk.out,hm.sz,fun b hb=>hm.fr b hb (fun h=>h)⟩
theorem zDU{H:Type}{enc:TypeId×Value→H}{P:Program}(hl:laidOutB P=iH){W W':World}{sp:Nat→Bool}:∀{ts:List TypeId}{vs:List Value}{ds:List (DataW H)}{ps:List MemPlace},(∀t∈ts,P.readableRec t=iH∧t<P.types.size)→
  DataW.TrodAll enc P W 0 (fun _=>iH) iH ts vs ds ps→(∀p∈ps,W.sameAt W' p)→(∀p∈ps,sp p.block=iH)→DataW.TrodAll enc P W' 0 sp iH ts vs ds ps
 | [],[],[],_,_,h,_,_=>h
 |t::ts,v::vs,d::ds,ps,hr,h,h1,h2=>by
  obtain⟨p,q,g1,g2,rfl⟩:=h;exact⟨p,q,by grind[Go.WideElems.Trod_stays],
   zDU hl (by grind) g2 (by grind) (by grind),rfl⟩
 | [],_::_,_,_,_,h,_,_| [],[],_::_,_,_,h,_,_|_::_,[],_,_,_,h,_,_|_::_,_::_,[],_,_,h,_,_=>h.elim
theorem zOl{C:Checked}{os:Os}(own:ownKnob C.prog.godebug=iG)(started:os.Started){f:FuncId}(noInit:C.prog.inits.idxOf? f=iG)(ib:C.prog.funcs[f]? =iF fn){H:Type}{enc:TypeId×Value→H}{s:ChangeSpec}{conds:List PathCond}{apart fresh handsOn again:Bool}
  (witness:∃(w:World)(tape:Tape)(i:Input),w.os=os∧(w.forCall tape i).Shaped C.prog∧i.vars=[]∧Input.okWide C.prog (w.forCall tape i) .any w.heap.size f i∧
   s.pre6 enc C.prog fn conds apart (w.forCall tape i).memory i.args∧Assume.holds {} C.prog (lone (Frame.enter C.prog f i.args .normal) [] (w.forCall tape i)))
  (hs:∀(l:List (DataW H)),l.length=fn.params.size→(s.fn H l).results=[.lit (.bool iH)]∧(s.fn H l).args=l∧(s.fn H l).vars=[])(mi:s.vars=[]){tb:TypeId}(f8:fn.resultTypes= #[tb])(hb:C.prog.underlying tb=iF .bool)
  (laid:laidOutB C.prog=iH)(hread:fn.params.toList.all (fun t=>C.prog.readableRec t&&decide (t<C.prog.types.size))=iH)
  (law:∀(W:World)(base:Nat)(args:Array Value)(ds:List (DataW H))(p:List MemPlace),(∀(j:Nat) t v,fn.params[j]? =iF t→args[j]? =iF v→Value.okWide C.prog W .any base t v)→
   DataW.TrodAll enc C.prog W 0 (fun _=>iH) iH fn.params.toList args.toList ds p→
   ∃us:List T,args.size=us.length∧FnC C.prog f us [B iH] []∧ ∀(i:Nat) u,us[i]? =iF u→args[i]? =iF (mkV (G0 args) i u [])∧R (zMm W) (G0 args) W i u []):
  ReturnsInHanded {} C os f .any (s.pre6 enc C.prog fn conds apart) (s.post enc C.prog fn apart fresh handsOn again):=by
 refine returnsInHanded_of_change (C:=C) own started noInit ib witness ?_;intro W base args ds gs before hval hW _ _;have hW':=hW;obtain⟨p,q,hA,hV,hbq,hfz,cJ⟩:=hW;obtain⟨us,h1,h2,h3⟩:=law W base args ds p hval hA;have hl:ds.length=fn.params.size:=by
  have:∀{ts:List TypeId}{vs:List Value}{ds:List (DataW H)}{p:List MemPlace},DataW.TrodAll enc C.prog W 0 (fun _=>iH) iH ts vs ds p→ds.length=ts.length:=by
   intro ts
   induction ts with
   |nil=>intro vs ds p h;cases vs<;>cases ds<;>first|rfl|exact h.elim
   |cons t ts ih=>intro vs ds p h;cases vs<;>cases ds<;>first|exact h.elim|(obtain⟨_,_,_,g,_⟩:=h;simp[ih g])
  grind
 rw[mi]at hV;have hq:gs=[]∧q=[]:=by
  cases gs with
  |nil=>exact⟨rfl,hV⟩
  |cons _ _=>exact hV.elim
 obtain⟨rfl,rfl⟩:=hq;have gH:=hW'.lt;refine(h2.top h1 h3).mono fun e w' ⟨he,ho,hq,gz,hh⟩=>⟨_,he,?_⟩
 have gY:∀p∈before,W.sameAt w' p:=fun p hp=>by
  have:=gH p hp;cases p with
  |cell b off=>simp only[World.sameAt,World.cell?,hh b this]
  |map b=>exact hh b this
 obtain⟨k1,k2,k3⟩:=hs ds hl;have hbp:before=p:=by grind
 subst hbp;have gw:∀t∈fn.params.toList,C.prog.readableRec t=iH∧t<C.prog.types.size:=by grind
 have gk:∀(b:Nat)(sp:Nat→Bool)(hd:Bool),DataW.TrodAll enc C.prog w' b sp hd fn.resultTypes.toList ((Value.bool iH).resultList fn.resultTypes.size) (s.fn H (ds++[])).results []:=fun b sp hd=>by rw[f8,Jf,k1];exact⟨[],[],⟨1,by simp[DataW.trod,hb,Value.cells]⟩,⟨rfl,rfl⟩⟩
 have gc:∀sp:Nat→Bool,(∀p∈before,sp p.block=iH)→DataW.TrodAll enc C.prog w' 0 sp iH fn.params.toList args.toList (s.fn H (ds++[])).args before:=by grind[zDU]
 have ta:∀sp:Nat→Bool,DataW.TrodVars enc C.prog w' sp s.vars (s.fn H (ds++[])).vars []:=fun sp=>by rw[mi,Jf,k3];rfl
 have gG:∀p∈before,(fun b=>decide (b<W.heap.size)) p.block=iH:=by grind
 have bm:∀p∈before,∀o,w'.frozen? ⟨p.block,o,iG⟩=W.frozen? ⟨p.block,o,iG⟩:=by grind[World.frozen?]
 refine⟨ds,[],before,[],before,[],hW',gk _ _ _,gc _ gG,ta _,⟨ho,hq,fun i hi=>?_⟩,fun _=>⟨fun j t r hj hr=>?_,_,_,([]++before)++[],⟨[]++before,[],trodAll_append (gc _ (fun _ _=>rfl)) (gk _ _ _),ta _,rfl,fun b off hp=>?_,fun ha=>?_⟩,fun p hp _=>?_⟩⟩
 ·grind
 ·rw[f8]at hj hr
  match j,hj,hr with
  |0,hj,hr=>
   simp[Value.resultList]at hj hr;subst hj;subst hr;simp[Value.okWide,hb,Cell.okWide,Cell.ok]
 ·have cV:MemPlace.cell b off∈before:=by grind
  exact(bm _ cV off).trans (hfz b off cV)
 all_goals grind
def kC(hs:List Nat)(E:Env):Prop:=∀s,hs.contains s=iH→ ∃t,E s=iF t∧zA5 t=iH
def zZ5(hs:List Nat)(z:Nat×Option T):Bool:=!hs.contains z.1||match z.2 with
 |some t=>zA5 t
 |none=>iI
def wrS(hs:List Nat)(X:Stp):Bool:=X.l.all fun y=>y.1.all (zZ5 hs)
theorem zMp{s:Nat}{x:Option T}:∀{wr:Wr},wr.find s=iF x→(s,x)∈wr
 | [],h=>by grind[Wr.find]
 |(k,y)::wr,h=>by
  simp only[Wr.find]at h;split at h
  ·grind
  ·exact Ja5 _ (zMp h)
theorem kC.apps{hs:List Nat}:∀(l:zER)(E:Env),kC hs E→(l.all fun y=>y.1.all (zZ5 hs))=iH→kC hs (E.apps l)
 | [],_,h,_=>h
 |x::l,E,h,hw=>by
  simp only[Ux,J2]at hw;refine kC.apps l (E.app x.1 x.2) (fun s gN=>?_) hw.2;obtain⟨t,he,ht⟩:=h s gN;unfold Env.app;cases hf:x.1.find s with
  |some y=>
   have h1:=Kc.1 hw.1 _ (zMp hf);simp only[zZ5,gN,Ji,Bool.false_or]at h1
   grind
  |none=>grind[tI]
theorem kC.runD{hs:List Nat}:∀(l:List (Bool×Stp))(E:Env),kC hs E→(∀y∈l,wrS hs y.2=iH)→kC hs (runD E l)
 | [],_,h,_=>h
 |(b,X)::l,E,h,hw=>by
  simp only[Go.Ab.runD];refine kC.runD l _ ?_ fun y hy=>hw y (by simp[hy])
  cases b with
  |true=>exact kC.apps X.l E h (hw (iH,X) (by simp))
  |false=>exact h
section
variable {P:Program}{Γ:Ctx}{pn:kM}{E E':Env}{Q:Exit→Env→Prop}{ops:Array Oper}{o:Oper}{os:List Oper}{id:Nat}{wr:Wr}{chg:Chg}{hs:List Nat}
def zHM(P:Program)(Γ:Ctx)(pn:kM)(ops:Array Oper)(o:Oper)(E E':Env):Prop:=
 ∀(a:Act)(w:World)(K:Act→World→Prop)(Q:Exit→Act→World→Prop),pn.Hold a→jR Γ E a w→(∀a' w',jR Γ E' a' w'→(∀s,o.dst≠iF s→a'.tmps[s]? =a.tmps[s]?)→K a' w')→
  if Region.wanted o (yielded ops a.tmps)then o.wp P a w K Q∨(o.asks P a w∧LetsOut Q)else K (a.put o.dst undef) w
def vY(P:Program)(Γ:Ctx)(pn:kM)(hs:List Nat)(ops:Array Oper):List Oper→List Stp→Prop
 | [],[]=>True
 |o::os,X::Xs=>(∀E:Env,E.Has X.rd→kC hs E→zHM P Γ pn ops o E (E.apps X.l))∧vY P Γ pn hs ops os Xs
 |_,_=>False
theorem vY.get:∀(os:List Oper)(Xs:List Stp),vY P Γ pn hs ops os Xs→os.length=Xs.length∧ ∀(i:Nat)(o:Oper)(X:Stp),os[i]? =iF o→Xs[i]? =iF X→ ∀E:Env,E.Has X.rd→kC hs E→zHM P Γ pn ops o E (E.apps X.l)
 | [],[],_=>by simp
 |o::os,X::Xs,h=>by
  obtain⟨h1,h2⟩:=vY.get os Xs h.2;refine⟨by simp[h1],fun i o' X' ho hX=>?_⟩;cases i with
  |zero=>simp at ho hX;subst ho hX;exact h.1
  |succ i=>exact h2 i o' X' (by simpa using ho) (by simpa using hX)
 | [],_::_,h=>by simp[vY]at h
 |_::_,[],h=>by simp[vY]at h
theorem vY.snoc{X:Stp}:∀(os:List Oper)(Xs:List Stp),vY P Γ pn hs ops os Xs→(∀E:Env,E.Has X.rd→kC hs E→zHM P Γ pn ops o E (E.apps X.l))→vY P Γ pn hs ops (os++[o]) (Xs++[X])
 | [],[],_,h=>⟨h,trivial⟩
 |_::os,_::Xs,h1,h=>⟨h1.1,vY.snoc os Xs h1.2 h⟩
 | [],_::_,h,_=>by simp[vY]at h
 |_::_,[],h,_=>by simp[vY]at h
theorem qI.snoc{X:Stp}:∀(Xs:List Stp)(E:Env),qI E Xs→(runD E (Xs.map fun y=>(iH,y))).Has X.rd→qI E (Xs++[X])
 | [],_,_,h=>⟨by grind[runD],trivial⟩
 |_::Xs,_,h1,h=>⟨h1.1,qI.snoc Xs _ h1.2 (by simpa[runD]using h)⟩
theorem zKJ{E0:Env}{ex:List Nat}{an:List (List Nat)}{Q':Exit→Act→World→Prop}(hf:zAX 0 ops.toList=iH)(ha:zA2 an an ops.toList=iH)(hp:kN Xs 0 an Xs=iH)
  (gF:vY P Γ pn ex ops ops.toList Xs)(hI:kC ex E0)(hw:Xs.all (wrS ex)=iH)(hh:qI E0 Xs)(ac:ops.toList.all (fun o=>pn.ok o.dst)=iH)(hQ:∀a' w',jR Γ (runD E0 (Xs.map fun y=>(iH,y))) a' w'→pn.Hold a'→Q' .normal a' w'):
  ∀(fuel:Nat)(L:List Bool)(a:Act)(w:World),L.length=ops.size→L.count iI=fuel→zTa ops L→jR Γ (runD E0 (L.zip Xs)) a w→pn.Hold a→wpAny P .any ops Q' fuel L.toArray a w:=by
 obtain⟨gj,ml⟩:=vY.get _ _ gF;have my:Xs.length=ops.size:=by grind
 intro fuel
 induction fuel with
 |zero=>
  intro L a w hL hcnt gC hs fS;have pK:∀b∈L,b=iH:=by grind
  have iD:L=J1 ops.size iH:=by rw[←hL];exact List.eq_replicate_iff.2 ⟨rfl,pK⟩
  refine⟨?_,?_⟩
  ·apply List.eq_nil_iff_forall_not_mem.2
   intro j hj;obtain⟨h1,o,ho,_⟩:=mem_ready.1 hj;have gH:=(Ga.1 ho).1;rw[iD]at h1;simp[gH]at h1
  ·refine hQ a w ?_ fS
   have:L.zip Xs=Xs.map fun y=>(iH,y):=by
    rw[iD,←my]
    clear hs hL iD pK hcnt gC gF hw hh hp gj my ml hQ
    induction Xs with
    |nil=>rfl
    |cons X Xs ih=>simp[Jq,ih]
   grind
 |succ fuel ih=>
  intro L a w hL hcnt gC hs fS;refine⟨fun hr=>?_,fun i hi=>?_⟩
  ·
   exfalso
   have p7:∃m:Nat,L[m]? =iF iI:=by
    have:iI∈L:=by grind
    grind[Qq]
   obtain⟨m,hm,eY⟩:=zDR p7;have hmlt:=(Jv.1 hm).1;have d8:ops[m]? =iF ops[m]:=by simp
   have:m∈Region.ready .any ops L.toArray:=by
    refine mem_ready.2 ⟨by simp_all,ops[m],d8,fun e he hb=>?_⟩;have hpm:e.on∈zB6 ops[m]:=by
     simp only[zB6,Jl,Jb6]
     grind
    have gH:=zGT ops.toList 0 m _ hf (by simp) _ hpm;rw[Ja]at gH;cases hL1:L[e.on]? with
    |none=>grind
    |some b=>
     cases b with
     |false=>grind
     |true=>simp_all
   grind
  ·obtain⟨h1,o,ho,pK⟩:=mem_ready.1 hi
   have gH:=(Ga.1 ho).1;have hLi:L[i]? =iF iI:=by simp_all
   have co:∀m∈zB6 o,L[m]? =iF iH:=by
    intro m hm;simp only[zB6,Jl,Jb6]at hm;obtain⟨e,⟨he,hb⟩,rfl⟩:=hm;have:=pK e (by grind) hb;cases hL1:L[e.on]? with
    |none=>grind
    |some b=>simp_all
   have hanc:=zHD hf ha gC i i (Jh _) o ho co;have bX:Xs[i]? =iF Xs[i]:=by simp
   generalize hXe:Xs[i]=X at bX
   have aA:∀(j:Nat)(Y:Stp),Xs[j]? =iF Y→i<j→L[j]? =iF iH→X.apart Y=iH:=by
    intro j Y hY gR hj;rcases zFP Xs Xs 0 an j Y hp hY i X (by omega) bX with h|h
    ·have hjlt:=(Jv.1 hY).1
     have hoj:ops[j]? =iF ops[j]:=by simp
     have:=zHD hf ha gC j j (Jh _) _ hoj (gC j _ hoj hj) i h
     grind
    ·exact h
   have bq:∀(j:Nat)(Y:Stp),Xs[j]? =iF Y→j<i→L[j]? =iF iI→Y.apart X=iH:=by grind[zFP]
   have m6:∀y∈(L.take i).zip (Xs.take i),∃j:Nat,j<i∧L[j]? =iF y.1∧Xs[j]? =iF y.2:=by
    intro y hy;obtain⟨j,g1,g2⟩:=zKB hy;rw[Jah]at g1 g2
    grind
   have mq:∀y∈(L.drop (i+1)).zip (Xs.drop (i+1)),∃j:Nat,i<j∧L[j]? =iF y.1∧Xs[j]? =iF y.2:=by
    intro y hy;obtain⟨j,g1,g2⟩:=zKB hy;rw[Hq]at g1 g2
    grind
   have tz:=zJD hLi bX;have i9:(runD E0 (L.zip Xs)).Has X.rd:=by
    rw[tz,zAg];simp only[runD,Ho,if_false];have h0:=qI.get Xs E0 hh i X bX;refine h0.of fun s t gF ex=>?_
    have dI:s∈X.rd.map (·.1):=by grind
    refine zJC _ _ (fun y hy hb=>?_) ?_
    ·obtain⟨j,g1,g2,g3⟩:=mq y hy
     have:=Stp.apart_spec (aA j y.2 g3 g1 (by rw[g2,hb]));exact⟨by grind,by grind⟩
    ·have hmp:((L.take i).zip (Xs.take i)).map (fun y=>(iH,y.2))=(Xs.take i).map fun y=>(iH,y):=by
      have aB:(L.take i).length=(Xs.take i).length:=by simp;omega
      rw[show(fun y:Bool×Stp=>(iH,y.2))=(fun y=>(iH,y))∘Prod.snd from rfl,←Ja7,List.map_snd_zip (by omega)]
     refine zJB _ E0 E0 (fun y hy hb gN=>?_) (fun _ h=>h) t (by grind);obtain⟨j,g1,g2,g3⟩:=m6 y hy;have:=Stp.apart_spec (bq j y.2 g3 g1 (by rw[g2,hb]))
     grind
   have hnext:runD E0 ((L.set i iH).zip Xs)=(runD E0 (L.zip Xs)).apps X.l:=by
    have hLs:(L.set i iH)[i]? =iF iH:=by grind
    rw[zJD hLs bX,tz,zAg,zAg];simp only[runD,if_true,Ho,if_false,List.take_set_of_le (Jh i),List.drop_set_of_lt (Nat.lt_succ_self i)];refine zFO _ X _ fun y hy hb=>?_
    obtain⟨j,g1,g2,g3⟩:=mq y hy;exact(Stp.apart_spec (by grind)).1
   have dF:=ml i o X (by grind) bX _ i9 (kC.runD (L.zip Xs) E0 hI fun y hy=>Kc.1 hw _ (by obtain⟨j,_,g⟩:=zKB hy;grind));unfold wpOp;simp only[ho];refine dF a w _ Q' fS hs fun a' w' gN bm=>?_
   rw[List.setIfInBounds_toArray];have gB:pn.ok o.dst=iH:=by grind
   refine ih (L.set i iH) a' w' (by simp[hL]) (by grind) ?_ (by grind) (fS.frame gB bm);intro k ok hk hkt m hm
   by_cases hki:k=i
   ·subst hki
    rw[ho]at hk;simp at hk;subst hk;rw[Jbh];split
    ·grind
    grind
   ·rw[List.getElem?_set_ne (Ne.symm hki)]at hkt
    rw[Jbh];split
    ·grind
    ·exact gC k ok hk hkt m hm
theorem CW.drawnI{ex:List Nat}{id:Nat}{E:Env}{Q:Exit→Env→Prop}(Xs:List Stp)(an:List (List Nat))(hm:P.follows .mixedOrders=iH)(gF:vY P Γ pn ex ops ops.toList Xs)(hI:kC ex E)(hw:Xs.all (wrS ex)=iH)(hh:qI E Xs)
  (hQ:Q .normal (runD E (Xs.map fun y=>(iH,y))))(hf:zAX 0 ops.toList=iH:=by rfl)(ha:zA2 an an ops.toList=iH:=by rfl)(hp:kN Xs 0 an Xs=iH:=by rfl)
  (ac:ops.toList.all (fun o=>pn.ok o.dst)=iH:=by rfl):CW P Γ pn (.region id ops iH) E Q:=by
 intro a w Q' hs fS hQ';refine wp_region_any hm ?_;have gN:jR Γ E a { w with drawn:=w.drawn+1 }:=by obtain⟨S,hS,gL,G,hr⟩:=hs;exact⟨S,hS,gL,G,hr.heap rfl⟩
 have:=zKJ (P:=P) (Γ:=Γ) (pn:=pn) (E0:=E) (Q':=Q') hf ha hp gF hI hw hh ac (by grind) ops.size (J1 ops.size iI) a { w with drawn:=w.drawn+1 } (by simp) (by simp)
  (fun i o ho hi=>by
   grind) (by
   have:runD E ((J1 ops.size iI).zip Xs)=E:=by
    generalize ops.size=n
    clear gF hI hw hh hQ hf ha hp gN
    induction n generalizing Xs with
    |zero=>simp[runD]
    |succ n ih=>
     cases Xs with
     |nil=>simp[runD]
     |cons X Xs=>simpa[Jq,runD]using ih Xs
   grind) fS
 grind
def DK(P:Program)(Γ:Ctx)(pn:kM)(ops:Array Oper)(id:Nat)(hs:List Nat)(E0:Env)(Q:Exit→Env→Prop)(os:List Oper)(E:Env)(acc:List Stp):Prop:=
 ∀don,don++os=ops.toList→vY P Γ pn hs ops don acc.reverse→qI E0 acc.reverse→E=runD E0 (acc.reverse.map fun y=>(iH,y))→CW P Γ pn (.region id ops iH) E0 Q
variable {E0:Env}{acc:List Stp}
theorem CW.dk(h:DK P Γ pn ops id [] E Q ops.toList E []):CW P Γ pn (.region id ops iH) E Q:=h [] rfl trivial trivial rfl
theorem CW.dkS(hs:List Nat)(h:DK P Γ pn ops id hs E Q ops.toList E []):CW P Γ pn (.region id ops iH) E Q:=h [] rfl trivial trivial rfl
theorem dGP(rd:List (Nat×T))(l:zER)(gw:E.Has rd)(gF:∀E':Env,E'.Has rd→kC hs E'→zHM P Γ pn ops o E' (E'.apps l))(k:DK P Γ pn ops id hs E0 Q os (E.apps l) (⟨rd,l⟩::acc)):DK P Γ pn ops id hs E0 Q (o::os) E acc:=by
 intro don hd hso hh hE;subst hE;have hr:=fun X=>Uw (a:=X) (as:=acc)
 refine k (don++[o]) (by simp[hd]) ?_ ?_ ?_
 ·grind[vY.snoc]
 ·grind[qI.snoc]
 ·rw[hr,Lm,zAg];rfl
theorem dGS(rd:List (Nat×T))(l:zER)(gw:E.Has rd)(gF:∀E':Env,E'.Has rd→kC hs E'→zW P Γ ops o E' (E'.apps l))(k:DK P Γ pn ops id hs E0 Q os (E.apps l) (⟨rd,l⟩::acc)):DK P Γ pn ops id hs E0 Q (o::os) E acc:=
 dGP rd l gw (fun E' h h' a w K Q _=>gF E' h h' a w K Q) k
theorem dG(rd:List (Nat×T))(l:zER)(gw:E.Has rd)(gF:∀E':Env,E'.Has rd→zW P Γ ops o E' (E'.apps l))(k:DK P Γ pn ops id hs E0 Q os (E.apps l) (⟨rd,l⟩::acc)):DK P Γ pn ops id hs E0 Q (o::os) E acc:=
 by grind[dGS]
def zTr(hs:List Nat)(E:Env):Bool:=hs.all fun s=>match E s with
 |some t=>zA5 t
 |none=>iI
theorem zTs(h:zTr hs E=iH):kC hs E:=by
 intro s gN;have h1:=Kc.1 h s (by grind)
 grind
theorem dN(an:List (List Nat))(hm:P.follows .mixedOrders=iH)(hQ:Q .normal E)(hf:zAX 0 ops.toList=iH:=by rfl)(ha:zA2 an an ops.toList=iH:=by rfl)(hp:kN acc.reverse 0 an acc.reverse=iH:=by rfl)
  (ac:ops.toList.all (fun o=>pn.ok o.dst)=iH:=by rfl)(hh0:zTr hs E0=iH:=by rfl)(hw:acc.reverse.all (wrS hs)=iH:=by rfl):DK P Γ pn ops id hs E0 Q [] E acc:=by
 intro don hd gF hh hE
 grind[CW.drawnI,zTs]
end
section
variable {P:Program}{Γ:Ctx}{pn:kM}{E E':Env}{Q:Exit→Env→Prop}{ops:Array Oper}{o:Oper}{os:List Oper}{id d:Nat}{wr:Wr}{chg:Chg}{hs:List Nat}{E0:Env}{acc:List Stp}{x y:Operand}{ty:TypeId}{ps:String}{af:Array Edge}{gd:Option (Nat×Bool)}
class zHN (P:Program) (t:TypeId) (e:outParam TypeId):Prop where
 h:P.underlying t=iF (.slice e)
class kP (P:Program) (t:TypeId) (b:outParam Bool) (n:outParam Nat):Prop where
 h:∀u:T,u.single=b→u.size=n→zWN P t u
theorem hE{rd:List (Nat×T)}{t:T}(h:E.Has rd)(hr:xC rd s=iF t):E s=iF t:=h.le s t hr
theorem hO{rd:List (Nat×T)}{t:T}(h:E.Has rd)(hr:opT (xC rd) x=iF t):opT E x=iF t:=by
 cases x<;>simp only[opT]at hr ⊢
 ·exact h.le _ _ hr
 all_goals exact hr
mutual
def zEr:T→Bool
 |.ro _|.lit _|.any=>iH
 |.agg xs|.tup xs=>zGW xs
 |.ptr t=>zEr t
 |.sl _ []=>iH
 |_=>iI
def zGW:List T→Bool
 | []=>iH
 |x::xs=>zEr x&&zGW xs
end
mutual
theorem zDz:{t:T}→zEr t=iH→yE t
 |.ro _,_|.lit _,_|.any,_=>by simp[yE,xG]
 |.agg xs,h|.tup xs,h=>by simp only[zEr]at h;simpa only[yE,xG]using zHO h
 |.ptr t,h=>by simp only[zEr]at h;exact wJ (zDz h)
 |.sl _ [],_=>by simp[yE,xG,wC]
 |.sl _ (_::_),h=>by simp[zEr]at h
 |.same _ _,h|.addr _ _,h|.sub _ _ _ _ _,h=>by simp[zEr]at h
theorem zHO:{xs:List T}→zGW xs=iH→xT xs
 | [],_=>trivial
 |x::xs,h=>by simp only[zGW,J2]at h;exact⟨zDz h.1,zHO h.2⟩
end
theorem zZ6{α:Type}{t:TypeId}{f:α→T}{xs:List α}{v:α}{i:Int}[ht:zBW P t e ti k](hx:tU E x=iF (r,q,L k f xs))(hy:opT E y=iF (I i))(hv:ixO xs i=iF v)(sd:J4 d Γ.N=iH):
  Ok P Γ ⟨iF d,.indexAddr t x y,ty,ps,af,gd⟩ E (E.app [(d,iF (.addr r (i.toNat::q)))] [(d,0)]):=zFQ ht hv hx hy sd
theorem zTt{α:Type}{t:TypeId}{f:α→T}{xs:List α}{v:α}{i:Int}[ht:zBW P t e ti k](hx:tU E x=iF (r,q,.ro (L k f xs)))(hy:opT E y=iF (I i))(hv:ixO xs i=iF v)(sd:J4 d Γ.N=iH):
  Ok P Γ ⟨iF d,.indexAddr t x y,ty,ps,af,gd⟩ E (E.app [(d,iF (.ro (.ptr (f v))))] [(d,0)]):=zB8 ht hv hx hy sd
theorem zPZ{t:TypeId}{b:Bool}{n:Nat}[i:kP P t b n](hx:opT E x=iF (.ro (.ptr u)))(h1:u.single=b)(h2:u.size=n)(sd:J4 d Γ.N=iH):Ok P Γ ⟨iF d,.load t x,ty,ps,af,gd⟩ E (E.app [(d,iF (roT u))] [(d,0)]):=yAU (i.h u h1 h2) hx sd
theorem zOm{t:TypeId}{tr:T}{b:Bool}{n:Nat}[i:kP P t b n](hx:opT E x=iF (.addr r q))(hr:E r=iF tr)(hg:tr.get q.reverse=iF u)(h1:u.single=b)(h2:u.size=n)(sd:(J4 d Γ.N&&tr.locd q.reverse&&(r != d)&&T.okB [(d,0)] (cpT r u q))=iH):
  Ok P Γ ⟨iF d,.load t x,ty,ps,af,gd⟩ E (E.app [(d,iF (cpT r u q))] [(d,0)]):=zET (i.h u h1 h2) hx hr hg sd
theorem zHP{t:TypeId}{tr:T}{b:Bool}{n:Nat}[i:kP P t b n](hx:tU E x=iF (r,q,.ptr t0))(hr:E r=iF tr)(hg:tr.get (0::q).reverse=iF u)(h1:u.single=b)(h2:u.size=n)(sd:(J4 d Γ.N&&tr.locd (0::q).reverse&&(r != d)&&T.okB [(d,0)] (cpT r u (0::q)))=iH):
  Ok P Γ ⟨iF d,.load t x,ty,ps,af,gd⟩ E (E.app [(d,iF (cpT r u (0::q)))] [(d,0)]):=yAY (i.h u h1 h2) hx hr hg sd
theorem zY2{α:Type}{t:TypeId}{f:α→T}{xs:List α}[i:zHN P t e](hx:tU E x=iF (r,q,L k f xs))(sd:J4 d Γ.N=iH):
  Ok P Γ ⟨iF d,.call { callee:=.builtin .len,args:=#[x],argTypes:=#[t] },ty,ps,af,gd⟩ E (E.app [(d,iF (I (xs.length:Int)))] [(d,0)]):=zTb i.h hx sd
theorem zOn{α:Type}{t:TypeId}{f:α→T}{xs:List α}[i:zHN P t e](hx:tU E x=iF (r,q,.ro (L k f xs)))(sd:J4 d Γ.N=iH):
  Ok P Γ ⟨iF d,.call { callee:=.builtin .len,args:=#[x],argTypes:=#[t] },ty,ps,af,gd⟩ E (E.app [(d,iF (I (xs.length:Int)))] [(d,0)]):=zTc i.h hx sd
theorem zS(k:RW P Γ pn ops os (E.app wr chg) Q)(h:Ok P Γ o E (E.app wr chg):=by exact zOg rfl rfl)(hg:o.guard=iG:=by rfl)(hp:pn.ok o.dst=iH:=by rfl):RW P Γ pn ops (o::os) E Q:=oP h k hg hp
theorem zDG{b:Bool}(k:RW P Γ pn ops os (E.app wr chg) Q)(hg:o.guard=iF (g,b):=by rfl)(gn:(ops[g]?).bind (·.dst)=iF s:=by rfl)(hb:E s=iF (.lit (.bool b)):=by rfl)(h:Ok P Γ o E (E.app wr chg):=by exact zOg rfl rfl)(hp:pn.ok o.dst=iH:=by rfl):RW P Γ pn ops (o::os) E Q:=RW.cons (zW.guard g b s h hg gn hb) k hp
theorem yK(k:RW P Γ pn ops os (E.app wr chg) Q)(h:Ok P Γ o E (E.app wr chg):=by exact zWM rfl rfl)(hg:o.guard=iG:=by rfl)(hp:pn.ok o.dst=iH:=by rfl):RW P Γ pn ops (o::os) E Q:=oP h k hg hp
theorem sE(k:RW P Γ pn ops os (E.app wr chg) Q)(h:Ok P Γ o E (E.app wr chg):=by exact zPZ rfl rfl rfl rfl)(hg:o.guard=iG:=by rfl)(hp:pn.ok o.dst=iH:=by rfl):RW P Γ pn ops (o::os) E Q:=oP h k hg hp
theorem zBa(k:RW P Γ pn ops os (E.app wr chg) Q)(h:Ok P Γ o E (E.app wr chg):=by exact zTt (by first|exact wA rfl rfl|exact tH rfl rfl (by first|rfl|exact zT (by assumption) rfl|exact zT (by assumption) (zT (by assumption) rfl)|exact yW rfl (zT (by assumption) rfl)|exact yZ (zT (by assumption) rfl)|exact yZ (yW rfl (zT (by assumption) rfl))|exact yZ (yW rfl (zT (by assumption) (zT (by assumption) rfl)))) rfl) rfl (by assumption) rfl)(hg:o.guard=iG:=by rfl)(hp:pn.ok o.dst=iH:=by rfl):RW P Γ pn ops (o::os) E Q:=oP h k hg hp
theorem sY(k:RW P Γ pn ops os (E.app wr chg) Q)(h:Ok P Γ o E (E.app wr chg):=by exact zOn (by first|exact wA rfl rfl|exact tH rfl rfl (by first|rfl|exact zT (by assumption) rfl|exact zT (by assumption) (zT (by assumption) rfl)|exact yW rfl (zT (by assumption) rfl)|exact yZ (zT (by assumption) rfl)|exact yZ (yW rfl (zT (by assumption) rfl))|exact yZ (yW rfl (zT (by assumption) (zT (by assumption) rfl)))) rfl) rfl)(hg:o.guard=iG:=by rfl)(hp:pn.ok o.dst=iH:=by rfl):RW P Γ pn ops (o::os) E Q:=oP h k hg hp
theorem wI(k:RW P Γ pn ops os (E.app wr chg) Q)(h:Ok P Γ o E (E.app wr chg):=by exact qW (by assumption) rfl rfl rfl)(hg:o.guard=iG:=by rfl)(hp:pn.ok o.dst=iH:=by rfl):RW P Γ pn ops (o::os) E Q:=oP h k hg hp
theorem vT(k:RW P Γ pn ops os (E.app wr chg) Q)(h:Ok P Γ o E (E.app wr chg):=by exact zMc rfl rfl rfl)(hg:o.guard=iG:=by rfl)(hp:pn.ok o.dst=iH:=by rfl):RW P Γ pn ops (o::os) E Q:=oP h k hg hp
theorem zY3{b:Bool}(k:RW P Γ pn ops os (E.app wr chg) Q)(hg:o.guard=iF (g,b):=by rfl)(gn:(ops[g]?).bind (·.dst)=iF s:=by rfl)(hb:E s=iF (.lit (.bool b)):=by rfl)(h:Ok P Γ o E (E.app wr chg):=by exact zMc rfl rfl rfl)(hp:pn.ok o.dst=iH:=by rfl):RW P Γ pn ops (o::os) E Q:=RW.cons (zW.guard g b s h hg gn hb) k hp
theorem tN(k:RW P Γ pn ops os (E.app wr chg) Q)(h:Ok P Γ o E (E.app wr chg):=by exact zOh rfl rfl rfl)(hg:o.guard=iG:=by rfl)(hp:pn.ok o.dst=iH:=by rfl):RW P Γ pn ops (o::os) E Q:=oP h k hg hp
theorem tB(k:RW P Γ pn ops os (E.app wr chg) Q)(h:Ok P Γ o E (E.app wr chg):=by exact zZt inferInstance (by first|exact wA rfl rfl|exact tH rfl rfl (by first|rfl|exact zT (by assumption) rfl|exact zT (by assumption) (zT (by assumption) rfl)|exact yW rfl (zT (by assumption) rfl)|exact yZ (zT (by assumption) rfl)|exact yZ (yW rfl (zT (by assumption) rfl))|exact yZ (yW rfl (zT (by assumption) (zT (by assumption) rfl)))) rfl) rfl rfl rfl)(hg:o.guard=iG:=by rfl)(hp:pn.ok o.dst=iH:=by rfl):RW P Γ pn ops (o::os) E Q:=oP h k hg hp
theorem uE(k:RW P Γ pn ops os (E.app wr chg) Q)(h:Ok P Γ o E (E.app wr chg):=by first|exact zOm rfl rfl rfl rfl rfl rfl|exact zOm rfl rfl (by first|rfl|exact zT (by assumption) rfl|exact zT (by assumption) (zT (by assumption) rfl)|exact yW rfl (zT (by assumption) rfl)|exact yZ (zT (by assumption) rfl)|exact yZ (yW rfl (zT (by assumption) rfl))|exact yZ (yW rfl (zT (by assumption) (zT (by assumption) rfl)))) (by rfl) (by rfl) (by rfl))(hg:o.guard=iG:=by rfl)(hp:pn.ok o.dst=iH:=by rfl):RW P Γ pn ops (o::os) E Q:=oP h k hg hp
theorem zZ7{b:Bool}(k:RW P Γ pn ops os (E.app wr chg) Q)(hg:o.guard=iF (g,b):=by rfl)(gn:(ops[g]?).bind (·.dst)=iF s:=by rfl)(hb:E s=iF (.lit (.bool b)):=by rfl)(h:Ok P Γ o E (E.app wr chg):=by first|exact zOm rfl rfl rfl rfl rfl rfl|exact zOm rfl rfl (by first|rfl|exact zT (by assumption) rfl|exact zT (by assumption) (zT (by assumption) rfl)|exact yW rfl (zT (by assumption) rfl)|exact yZ (zT (by assumption) rfl)|exact yZ (yW rfl (zT (by assumption) rfl))|exact yZ (yW rfl (zT (by assumption) (zT (by assumption) rfl)))) (by rfl) (by rfl) (by rfl))(hp:pn.ok o.dst=iH:=by rfl):RW P Γ pn ops (o::os) E Q:=RW.cons (zW.guard g b s h hg gn hb) k hp
theorem uD(k:RW P Γ pn ops os (E.app wr chg) Q)(h:Ok P Γ o E (E.app wr chg):=by first|exact zHP (by first|exact wA rfl rfl|exact tH rfl rfl (by first|rfl|exact zT (by assumption) rfl|exact zT (by assumption) (zT (by assumption) rfl)|exact yW rfl (zT (by assumption) rfl)|exact yZ (zT (by assumption) rfl)|exact yZ (yW rfl (zT (by assumption) rfl))|exact yZ (yW rfl (zT (by assumption) (zT (by assumption) rfl)))) rfl) rfl rfl rfl rfl rfl|exact zHP (by first|exact wA rfl rfl|exact tH rfl rfl (by first|rfl|exact zT (by assumption) rfl|exact zT (by assumption) (zT (by assumption) rfl)|exact yW rfl (zT (by assumption) rfl)|exact yZ (zT (by assumption) rfl)|exact yZ (yW rfl (zT (by assumption) rfl))|exact yZ (yW rfl (zT (by assumption) (zT (by assumption) rfl)))) rfl) rfl (by first|rfl|exact zT (by assumption) rfl|exact zT (by assumption) (zT (by assumption) rfl)|exact yW rfl (zT (by assumption) rfl)|exact yZ (zT (by assumption) rfl)|exact yZ (yW rfl (zT (by assumption) rfl))|exact yZ (yW rfl (zT (by assumption) (zT (by assumption) rfl)))) (by rfl) (by rfl) (by rfl))(hg:o.guard=iG:=by rfl)(hp:pn.ok o.dst=iH:=by rfl):RW P Γ pn ops (o::os) E Q:=oP h k hg hp
theorem zY4{b:Bool}(k:RW P Γ pn ops os (E.app wr chg) Q)(hg:o.guard=iF (g,b):=by rfl)(gn:(ops[g]?).bind (·.dst)=iF s:=by rfl)(hb:E s=iF (.lit (.bool b)):=by rfl)(h:Ok P Γ o E (E.app wr chg):=by first|exact zHP (by first|exact wA rfl rfl|exact tH rfl rfl (by first|rfl|exact zT (by assumption) rfl|exact zT (by assumption) (zT (by assumption) rfl)|exact yW rfl (zT (by assumption) rfl)|exact yZ (zT (by assumption) rfl)|exact yZ (yW rfl (zT (by assumption) rfl))|exact yZ (yW rfl (zT (by assumption) (zT (by assumption) rfl)))) rfl) rfl rfl rfl rfl rfl|exact zHP (by first|exact wA rfl rfl|exact tH rfl rfl (by first|rfl|exact zT (by assumption) rfl|exact zT (by assumption) (zT (by assumption) rfl)|exact yW rfl (zT (by assumption) rfl)|exact yZ (zT (by assumption) rfl)|exact yZ (yW rfl (zT (by assumption) rfl))|exact yZ (yW rfl (zT (by assumption) (zT (by assumption) rfl)))) rfl) rfl (by first|rfl|exact zT (by assumption) rfl|exact zT (by assumption) (zT (by assumption) rfl)|exact yW rfl (zT (by assumption) rfl)|exact yZ (zT (by assumption) rfl)|exact yZ (yW rfl (zT (by assumption) rfl))|exact yZ (yW rfl (zT (by assumption) (zT (by assumption) rfl)))) (by rfl) (by rfl) (by rfl))(hp:pn.ok o.dst=iH:=by rfl):RW P Γ pn ops (o::os) E Q:=RW.cons (zW.guard g b s h hg gn hb) k hp
theorem zHQ(k:RW P Γ pn ops os (E.app wr chg) Q)(h:Ok P Γ o E (E.app wr chg):=by exact zG7 (by assumption) rfl rfl rfl)(hg:o.guard=iG:=by rfl)(hp:pn.ok o.dst=iH:=by rfl):RW P Γ pn ops (o::os) E Q:=oP h k hg hp
theorem zTu(k:RW P Γ pn ops os (E.app wr chg) Q)(h:Ok P Γ o E (E.app wr chg):=by exact zB9 rfl rfl)(hg:o.guard=iG:=by rfl)(hp:pn.ok o.dst=iH:=by rfl):RW P Γ pn ops (o::os) E Q:=oP h k hg hp
theorem zY5{b:Bool}(k:RW P Γ pn ops os (E.app wr chg) Q)(hg:o.guard=iF (g,b):=by rfl)(gn:(ops[g]?).bind (·.dst)=iF s:=by rfl)(hb:E s=iF (.lit (.bool b)):=by rfl)(h:Ok P Γ o E (E.app wr chg):=by exact zB9 rfl rfl)(hp:pn.ok o.dst=iH:=by rfl):RW P Γ pn ops (o::os) E Q:=RW.cons (zW.guard g b s h hg gn hb) k hp
theorem zQa(k:RW P Γ pn ops os (E.app wr chg) Q)(h:Ok P Γ o E (E.app wr chg):=by exact zPQ rfl rfl rfl)(hg:o.guard=iG:=by rfl)(hp:pn.ok o.dst=iH:=by rfl):RW P Γ pn ops (o::os) E Q:=oP h k hg hp
theorem zTv{b:Bool}(k:RW P Γ pn ops os (E.app wr chg) Q)(hg:o.guard=iF (g,b):=by rfl)(gn:(ops[g]?).bind (·.dst)=iF s:=by rfl)(hb:E s=iF (.lit (.bool b)):=by rfl)(h:Ok P Γ o E (E.app wr chg):=by exact zPQ rfl rfl rfl)(hp:pn.ok o.dst=iH:=by rfl):RW P Γ pn ops (o::os) E Q:=RW.cons (zW.guard g b s h hg gn hb) k hp
theorem yBa(k:RW P Γ pn ops os (E.app wr chg) Q)(h:Ok P Γ o E (E.app wr chg):=by exact zMd rfl rfl rfl)(hg:o.guard=iG:=by rfl)(hp:pn.ok o.dst=iH:=by rfl):RW P Γ pn ops (o::os) E Q:=oP h k hg hp
theorem yBb{b:Bool}(k:RW P Γ pn ops os (E.app wr chg) Q)(hg:o.guard=iF (g,b):=by rfl)(gn:(ops[g]?).bind (·.dst)=iF s:=by rfl)(hb:E s=iF (.lit (.bool b)):=by rfl)(h:Ok P Γ o E (E.app wr chg):=by exact zMd rfl rfl rfl)(hp:pn.ok o.dst=iH:=by rfl):RW P Γ pn ops (o::os) E Q:=RW.cons (zW.guard g b s h hg gn hb) k hp
theorem zTw(k:RW P Γ pn ops os (E.app wr chg) Q)(h:Ok P Γ o E (E.app wr chg):=by exact zTf rfl rfl rfl)(hg:o.guard=iG:=by rfl)(hp:pn.ok o.dst=iH:=by rfl):RW P Γ pn ops (o::os) E Q:=oP h k hg hp
theorem zTx(k:RW P Γ pn ops os (E.app wr chg) Q)(h:Ok P Γ o E (E.app wr chg):=by exact zPP rfl rfl rfl)(hg:o.guard=iG:=by rfl)(hp:pn.ok o.dst=iH:=by rfl):RW P Γ pn ops (o::os) E Q:=oP h k hg hp
theorem zGB(k:RW P Γ pn ops os (E.app wr chg) Q)(h:Ok P Γ o E (E.app wr chg):=by exact zTe rfl rfl rfl)(hg:o.guard=iG:=by rfl)(hp:pn.ok o.dst=iH:=by rfl):RW P Γ pn ops (o::os) E Q:=oP h k hg hp
theorem zHR(k:RW P Γ pn ops os (E.app wr chg) Q)(h:Ok P Γ o E (E.app wr chg):=by exact zPR inferInstance rfl rfl rfl rfl)(hg:o.guard=iG:=by rfl)(hp:pn.ok o.dst=iH:=by rfl):RW P Γ pn ops (o::os) E Q:=oP h k hg hp
theorem kQ(k:RW P Γ pn ops os (E.app wr chg) Q)(h:Ok P Γ o E (E.app wr chg):=by first|exact zBp rfl (zEU rfl) rfl|exact zBp rfl (isPtr_addr rfl) rfl|exact zBp rfl (zFT (by first|exact wA rfl rfl|exact tH rfl rfl (by first|rfl|exact zT (by assumption) rfl|exact zT (by assumption) (zT (by assumption) rfl)|exact yW rfl (zT (by assumption) rfl)|exact yZ (zT (by assumption) rfl)|exact yZ (yW rfl (zT (by assumption) rfl))|exact yZ (yW rfl (zT (by assumption) (zT (by assumption) rfl)))) rfl)) rfl)(hg:o.guard=iG:=by rfl)(hp:pn.ok o.dst=iH:=by rfl):RW P Γ pn ops (o::os) E Q:=oP h k hg hp
theorem zEs(k:RW P Γ pn ops os (E.app wr chg) Q)(h:Ok P Γ o E (E.app wr chg):=by exact zZ6 (by first|exact wA rfl rfl|exact tH rfl rfl (by first|rfl|exact zT (by assumption) rfl|exact zT (by assumption) (zT (by assumption) rfl)|exact yW rfl (zT (by assumption) rfl)|exact yZ (zT (by assumption) rfl)|exact yZ (yW rfl (zT (by assumption) rfl))|exact yZ (yW rfl (zT (by assumption) (zT (by assumption) rfl)))) rfl) rfl (by assumption) rfl)(hg:o.guard=iG:=by rfl)(hp:pn.ok o.dst=iH:=by rfl):RW P Γ pn ops (o::os) E Q:=oP h k hg hp
theorem zZ8{b:Bool}(k:RW P Γ pn ops os (E.app wr chg) Q)(hg:o.guard=iF (g,b):=by rfl)(gn:(ops[g]?).bind (·.dst)=iF s:=by rfl)(hb:E s=iF (.lit (.bool b)):=by rfl)(h:Ok P Γ o E (E.app wr chg):=by exact zZ6 (by first|exact wA rfl rfl|exact tH rfl rfl (by first|rfl|exact zT (by assumption) rfl|exact zT (by assumption) (zT (by assumption) rfl)|exact yW rfl (zT (by assumption) rfl)|exact yZ (zT (by assumption) rfl)|exact yZ (yW rfl (zT (by assumption) rfl))|exact yZ (yW rfl (zT (by assumption) (zT (by assumption) rfl)))) rfl) rfl (by assumption) rfl)(hp:pn.ok o.dst=iH:=by rfl):RW P Γ pn ops (o::os) E Q:=RW.cons (zW.guard g b s h hg gn hb) k hp
theorem zCP(k:RW P Γ pn ops os (E.app wr chg) Q)(h:Ok P Γ o E (E.app wr chg):=by exact zY2 (by first|exact wA rfl rfl|exact tH rfl rfl (by first|rfl|exact zT (by assumption) rfl|exact zT (by assumption) (zT (by assumption) rfl)|exact yW rfl (zT (by assumption) rfl)|exact yZ (zT (by assumption) rfl)|exact yZ (yW rfl (zT (by assumption) rfl))|exact yZ (yW rfl (zT (by assumption) (zT (by assumption) rfl)))) rfl) rfl)(hg:o.guard=iG:=by rfl)(hp:pn.ok o.dst=iH:=by rfl):RW P Γ pn ops (o::os) E Q:=oP h k hg hp
theorem zY6{b:Bool}(k:RW P Γ pn ops os (E.app wr chg) Q)(hg:o.guard=iF (g,b):=by rfl)(gn:(ops[g]?).bind (·.dst)=iF s:=by rfl)(hb:E s=iF (.lit (.bool b)):=by rfl)(h:Ok P Γ o E (E.app wr chg):=by exact zY2 (by first|exact wA rfl rfl|exact tH rfl rfl (by first|rfl|exact zT (by assumption) rfl|exact zT (by assumption) (zT (by assumption) rfl)|exact yW rfl (zT (by assumption) rfl)|exact yZ (zT (by assumption) rfl)|exact yZ (yW rfl (zT (by assumption) rfl))|exact yZ (yW rfl (zT (by assumption) (zT (by assumption) rfl)))) rfl) rfl)(hp:pn.ok o.dst=iH:=by rfl):RW P Γ pn ops (o::os) E Q:=RW.cons (zW.guard g b s h hg gn hb) k hp
theorem zC2(k:RW P Γ pn ops os (E.app wr chg) Q)(h:Ok P Γ o E (E.app wr chg):=by exact zTd (by assumption) rfl rfl rfl)(hg:o.guard=iG:=by rfl)(hp:pn.ok o.dst=iH:=by rfl):RW P Γ pn ops (o::os) E Q:=oP h k hg hp
theorem tJ(k:RW P Γ pn ops os (E.app wr chg) Q)(h:Ok P Γ o E (E.app wr chg):=by exact zKC inferInstance rfl)(hg:o.guard=iG:=by rfl)(hp:pn.ok o.dst=iH:=by rfl):RW P Γ pn ops (o::os) E Q:=oP h k hg hp
theorem zJJ(k:RW P Γ pn ops os (E.app wr chg) Q)(h:Ok P Γ o E (E.app wr chg):=by exact zTg rfl rfl rfl)(hg:o.guard=iG:=by rfl)(hp:pn.ok o.dst=iH:=by rfl):RW P Γ pn ops (o::os) E Q:=oP h k hg hp
theorem zDV(k:RW P Γ pn ops os (E.app wr chg) Q)(h:Ok P Γ o E (E.app wr chg):=by exact zYy rfl (zDz rfl) rfl)(hg:o.guard=iG:=by rfl)(hp:pn.ok o.dst=iH:=by rfl):RW P Γ pn ops (o::os) E Q:=oP h k hg hp
theorem zTy(k:RW P Γ pn ops os (E.app wr chg) Q)(h:Ok P Γ o E (E.app wr chg):=by exact zTq rfl rfl)(hg:o.guard=iG:=by rfl)(hp:pn.ok o.dst=iH:=by rfl):RW P Γ pn ops (o::os) E Q:=oP h k hg hp
theorem yF(rd:List (Nat×T))(k:DK P Γ pn ops id hs E0 Q os (E.app wr chg) (⟨rd,[(wr,chg)]⟩::acc))(gw:E.Has rd:=by repeat (first|exact trivial|refine⟨rfl,?_⟩))(h:∀E':Env,E'.Has rd→Ok P Γ o E' (E'.app wr chg):=by intro E' h;exact zOg (hO h rfl) rfl)(hg:o.guard=iG:=by rfl):DK P Γ pn ops id hs E0 Q (o::os) E acc:=dG rd [(wr,chg)] gw (fun E' h'=>zW.op (h E' h') hg) k
theorem zC5{b:Bool}(rd:List (Nat×T))(k:DK P Γ pn ops id hs E0 Q os (E.app wr chg) (⟨rd,[(wr,chg)]⟩::acc))(gw:E.Has rd:=by repeat (first|exact trivial|refine⟨rfl,?_⟩))(hg:o.guard=iF (g,b):=by rfl)(gn:(ops[g]?).bind (·.dst)=iF s:=by rfl)(hb:xC rd s=iF (.lit (.bool b)):=by rfl)(h:∀E':Env,E'.Has rd→Ok P Γ o E' (E'.app wr chg):=by intro E' h;exact zOg (hO h rfl) rfl):DK P Γ pn ops id hs E0 Q (o::os) E acc:=dG rd [(wr,chg)] gw (fun E' h'=>zW.guard g b s (h E' h') hg gn (hE h' hb)) k
theorem zCb(rd:List (Nat×T))(k:DK P Γ pn ops id hs E0 Q os (E.app wr chg) (⟨rd,[(wr,chg)]⟩::acc))(gw:E.Has rd:=by repeat (first|exact trivial|refine⟨rfl,?_⟩))(h:∀E':Env,E'.Has rd→Ok P Γ o E' (E'.app wr chg):=by intro E' h;exact zWM (hO h rfl) rfl)(hg:o.guard=iG:=by rfl):DK P Γ pn ops id hs E0 Q (o::os) E acc:=dG rd [(wr,chg)] gw (fun E' h'=>zW.op (h E' h') hg) k
theorem vE(rd:List (Nat×T))(k:DK P Γ pn ops id hs E0 Q os (E.app wr chg) (⟨rd,[(wr,chg)]⟩::acc))(gw:E.Has rd:=by repeat (first|exact trivial|refine⟨rfl,?_⟩))(h:∀E':Env,E'.Has rd→Ok P Γ o E' (E'.app wr chg):=by intro E' h;exact zPZ (hO h rfl) rfl rfl rfl)(hg:o.guard=iG:=by rfl):DK P Γ pn ops id hs E0 Q (o::os) E acc:=dG rd [(wr,chg)] gw (fun E' h'=>zW.op (h E' h') hg) k
theorem zBB{b:Bool}(rd:List (Nat×T))(k:DK P Γ pn ops id hs E0 Q os (E.app wr chg) (⟨rd,[(wr,chg)]⟩::acc))(gw:E.Has rd:=by repeat (first|exact trivial|refine⟨rfl,?_⟩))(hg:o.guard=iF (g,b):=by rfl)(gn:(ops[g]?).bind (·.dst)=iF s:=by rfl)(hb:xC rd s=iF (.lit (.bool b)):=by rfl)(h:∀E':Env,E'.Has rd→Ok P Γ o E' (E'.app wr chg):=by intro E' h;exact zPZ (hO h rfl) rfl rfl rfl):DK P Γ pn ops id hs E0 Q (o::os) E acc:=dG rd [(wr,chg)] gw (fun E' h'=>zW.guard g b s (h E' h') hg gn (hE h' hb)) k
theorem zAx(rd:List (Nat×T))(k:DK P Γ pn ops id hs E0 Q os (E.app wr chg) (⟨rd,[(wr,chg)]⟩::acc))(gw:E.Has rd:=by repeat (first|exact trivial|refine⟨rfl,?_⟩))(h:∀E':Env,E'.Has rd→Ok P Γ o E' (E'.app wr chg):=by intro E' h;exact zTt (by first|exact wA (hE h rfl) rfl|exact tH (hE h rfl) (hE h rfl) (by first|rfl|exact zT (by assumption) rfl|exact zT (by assumption) (zT (by assumption) rfl)|exact yW rfl (zT (by assumption) rfl)|exact yZ (zT (by assumption) rfl)|exact yZ (yW rfl (zT (by assumption) rfl))|exact yZ (yW rfl (zT (by assumption) (zT (by assumption) rfl)))) rfl) (hO h rfl) (by assumption) rfl)(hg:o.guard=iG:=by rfl):DK P Γ pn ops id hs E0 Q (o::os) E acc:=dG rd [(wr,chg)] gw (fun E' h'=>zW.op (h E' h') hg) k
theorem zQb{b:Bool}(rd:List (Nat×T))(k:DK P Γ pn ops id hs E0 Q os (E.app wr chg) (⟨rd,[(wr,chg)]⟩::acc))(gw:E.Has rd:=by repeat (first|exact trivial|refine⟨rfl,?_⟩))(hg:o.guard=iF (g,b):=by rfl)(gn:(ops[g]?).bind (·.dst)=iF s:=by rfl)(hb:xC rd s=iF (.lit (.bool b)):=by rfl)(h:∀E':Env,E'.Has rd→Ok P Γ o E' (E'.app wr chg):=by intro E' h;exact zTt (by first|exact wA (hE h rfl) rfl|exact tH (hE h rfl) (hE h rfl) (by first|rfl|exact zT (by assumption) rfl|exact zT (by assumption) (zT (by assumption) rfl)|exact yW rfl (zT (by assumption) rfl)|exact yZ (zT (by assumption) rfl)|exact yZ (yW rfl (zT (by assumption) rfl))|exact yZ (yW rfl (zT (by assumption) (zT (by assumption) rfl)))) rfl) (hO h rfl) (by assumption) rfl):DK P Γ pn ops id hs E0 Q (o::os) E acc:=dG rd [(wr,chg)] gw (fun E' h'=>zW.guard g b s (h E' h') hg gn (hE h' hb)) k
theorem zHS(rd:List (Nat×T))(k:DK P Γ pn ops id hs E0 Q os (E.app wr chg) (⟨rd,[(wr,chg)]⟩::acc))(gw:E.Has rd:=by repeat (first|exact trivial|refine⟨rfl,?_⟩))(h:∀E':Env,E'.Has rd→Ok P Γ o E' (E'.app wr chg):=by intro E' h;exact zOn (by first|exact wA (hE h rfl) rfl|exact tH (hE h rfl) (hE h rfl) (by first|rfl|exact zT (by assumption) rfl|exact zT (by assumption) (zT (by assumption) rfl)|exact yW rfl (zT (by assumption) rfl)|exact yZ (zT (by assumption) rfl)|exact yZ (yW rfl (zT (by assumption) rfl))|exact yZ (yW rfl (zT (by assumption) (zT (by assumption) rfl)))) rfl) rfl)(hg:o.guard=iG:=by rfl):DK P Γ pn ops id hs E0 Q (o::os) E acc:=dG rd [(wr,chg)] gw (fun E' h'=>zW.op (h E' h') hg) k
theorem zOo{b:Bool}(rd:List (Nat×T))(k:DK P Γ pn ops id hs E0 Q os (E.app wr chg) (⟨rd,[(wr,chg)]⟩::acc))(gw:E.Has rd:=by repeat (first|exact trivial|refine⟨rfl,?_⟩))(hg:o.guard=iF (g,b):=by rfl)(gn:(ops[g]?).bind (·.dst)=iF s:=by rfl)(hb:xC rd s=iF (.lit (.bool b)):=by rfl)(h:∀E':Env,E'.Has rd→Ok P Γ o E' (E'.app wr chg):=by intro E' h;exact zOn (by first|exact wA (hE h rfl) rfl|exact tH (hE h rfl) (hE h rfl) (by first|rfl|exact zT (by assumption) rfl|exact zT (by assumption) (zT (by assumption) rfl)|exact yW rfl (zT (by assumption) rfl)|exact yZ (zT (by assumption) rfl)|exact yZ (yW rfl (zT (by assumption) rfl))|exact yZ (yW rfl (zT (by assumption) (zT (by assumption) rfl)))) rfl) rfl):DK P Γ pn ops id hs E0 Q (o::os) E acc:=dG rd [(wr,chg)] gw (fun E' h'=>zW.guard g b s (h E' h') hg gn (hE h' hb)) k
theorem zEY(rd:List (Nat×T))(k:DK P Γ pn ops id hs E0 Q os (E.app wr chg) (⟨rd,[(wr,chg)]⟩::acc))(gw:E.Has rd:=by repeat (first|exact trivial|refine⟨rfl,?_⟩))(h:∀E':Env,E'.Has rd→Ok P Γ o E' (E'.app wr chg):=by intro E' h;exact qW (by assumption) (hO h rfl) (hO h rfl) rfl)(hg:o.guard=iG:=by rfl):DK P Γ pn ops id hs E0 Q (o::os) E acc:=dG rd [(wr,chg)] gw (fun E' h'=>zW.op (h E' h') hg) k
theorem sM(rd:List (Nat×T))(k:DK P Γ pn ops id hs E0 Q os (E.app wr chg) (⟨rd,[(wr,chg)]⟩::acc))(gw:E.Has rd:=by repeat (first|exact trivial|refine⟨rfl,?_⟩))(h:∀E':Env,E'.Has rd→Ok P Γ o E' (E'.app wr chg):=by intro E' h;exact zOh (hO h rfl) (hO h rfl) rfl)(hg:o.guard=iG:=by rfl):DK P Γ pn ops id hs E0 Q (o::os) E acc:=dG rd [(wr,chg)] gw (fun E' h'=>zW.op (h E' h') hg) k
theorem zAs(rd:List (Nat×T))(k:DK P Γ pn ops id hs E0 Q os (E.app wr chg) (⟨rd,[(wr,chg)]⟩::acc))(gw:E.Has rd:=by repeat (first|exact trivial|refine⟨rfl,?_⟩))(h:∀E':Env,E'.Has rd→Ok P Γ o E' (E'.app wr chg):=by intro E' h;exact zZt inferInstance (by first|exact wA (hE h rfl) rfl|exact tH (hE h rfl) (hE h rfl) (by first|rfl|exact zT (by assumption) rfl|exact zT (by assumption) (zT (by assumption) rfl)|exact yW rfl (zT (by assumption) rfl)|exact yZ (zT (by assumption) rfl)|exact yZ (yW rfl (zT (by assumption) rfl))|exact yZ (yW rfl (zT (by assumption) (zT (by assumption) rfl)))) rfl) rfl rfl rfl)(hg:o.guard=iG:=by rfl):DK P Γ pn ops id hs E0 Q (o::os) E acc:=dG rd [(wr,chg)] gw (fun E' h'=>zW.op (h E' h') hg) k
theorem qT(rd:List (Nat×T))(k:DK P Γ pn ops id hs E0 Q os (E.app wr chg) (⟨rd,[(wr,chg)]⟩::acc))(gw:E.Has rd:=by repeat (first|exact trivial|refine⟨rfl,?_⟩))(h:∀E':Env,E'.Has rd→Ok P Γ o E' (E'.app wr chg):=by intro E' h;first|exact zOm (hO h rfl) (hE h rfl) rfl rfl rfl rfl|exact zOm (hO h rfl) (hE h rfl) (by first|rfl|exact zT (by assumption) rfl|exact zT (by assumption) (zT (by assumption) rfl)|exact yW rfl (zT (by assumption) rfl)|exact yZ (zT (by assumption) rfl)|exact yZ (yW rfl (zT (by assumption) rfl))|exact yZ (yW rfl (zT (by assumption) (zT (by assumption) rfl)))) (by rfl) (by rfl) (by rfl))(hg:o.guard=iG:=by rfl):DK P Γ pn ops id hs E0 Q (o::os) E acc:=dG rd [(wr,chg)] gw (fun E' h'=>zW.op (h E' h') hg) k
theorem wY(rd:List (Nat×T))(k:DK P Γ pn ops id hs E0 Q os (E.app wr chg) (⟨rd,[(wr,chg)]⟩::acc))(gw:E.Has rd:=by repeat (first|exact trivial|refine⟨rfl,?_⟩))(h:∀E':Env,E'.Has rd→Ok P Γ o E' (E'.app wr chg):=by intro E' h;first|exact zHP (by first|exact wA (hE h rfl) rfl|exact tH (hE h rfl) (hE h rfl) (by first|rfl|exact zT (by assumption) rfl|exact zT (by assumption) (zT (by assumption) rfl)|exact yW rfl (zT (by assumption) rfl)|exact yZ (zT (by assumption) rfl)|exact yZ (yW rfl (zT (by assumption) rfl))|exact yZ (yW rfl (zT (by assumption) (zT (by assumption) rfl)))) rfl) (hE h rfl) rfl rfl rfl rfl|exact zHP (by first|exact wA (hE h rfl) rfl|exact tH (hE h rfl) (hE h rfl) (by first|rfl|exact zT (by assumption) rfl|exact zT (by assumption) (zT (by assumption) rfl)|exact yW rfl (zT (by assumption) rfl)|exact yZ (zT (by assumption) rfl)|exact yZ (yW rfl (zT (by assumption) rfl))|exact yZ (yW rfl (zT (by assumption) (zT (by assumption) rfl)))) rfl) (hE h rfl) (by first|rfl|exact zT (by assumption) rfl|exact zT (by assumption) (zT (by assumption) rfl)|exact yW rfl (zT (by assumption) rfl)|exact yZ (zT (by assumption) rfl)|exact yZ (yW rfl (zT (by assumption) rfl))|exact yZ (yW rfl (zT (by assumption) (zT (by assumption) rfl)))) (by rfl) (by rfl) (by rfl))(hg:o.guard=iG:=by rfl):DK P Γ pn ops id hs E0 Q (o::os) E acc:=dG rd [(wr,chg)] gw (fun E' h'=>zW.op (h E' h') hg) k
theorem zJK(rd:List (Nat×T))(k:DK P Γ pn ops id hs E0 Q os (E.app wr chg) (⟨rd,[(wr,chg)]⟩::acc))(gw:E.Has rd:=by repeat (first|exact trivial|refine⟨rfl,?_⟩))(h:∀E':Env,E'.Has rd→Ok P Γ o E' (E'.app wr chg):=by intro E' h;exact zG7 (by assumption) (hO h rfl) (hO h rfl) rfl)(hg:o.guard=iG:=by rfl):DK P Γ pn ops id hs E0 Q (o::os) E acc:=dG rd [(wr,chg)] gw (fun E' h'=>zW.op (h E' h') hg) k
theorem yBc{b:Bool}(rd:List (Nat×T))(k:DK P Γ pn ops id hs E0 Q os (E.app wr chg) (⟨rd,[(wr,chg)]⟩::acc))(gw:E.Has rd:=by repeat (first|exact trivial|refine⟨rfl,?_⟩))(hg:o.guard=iF (g,b):=by rfl)(gn:(ops[g]?).bind (·.dst)=iF s:=by rfl)(hb:xC rd s=iF (.lit (.bool b)):=by rfl)(h:∀E':Env,E'.Has rd→Ok P Γ o E' (E'.app wr chg):=by intro E' h;exact zG7 (by assumption) (hO h rfl) (hO h rfl) rfl):DK P Γ pn ops id hs E0 Q (o::os) E acc:=dG rd [(wr,chg)] gw (fun E' h'=>zW.guard g b s (h E' h') hg gn (hE h' hb)) k
theorem zTz(rd:List (Nat×T))(k:DK P Γ pn ops id hs E0 Q os (E.app wr chg) (⟨rd,[(wr,chg)]⟩::acc))(gw:E.Has rd:=by repeat (first|exact trivial|refine⟨rfl,?_⟩))(h:∀E':Env,E'.Has rd→Ok P Γ o E' (E'.app wr chg):=by intro E' h;exact zB9 (hO h rfl) rfl)(hg:o.guard=iG:=by rfl):DK P Γ pn ops id hs E0 Q (o::os) E acc:=dG rd [(wr,chg)] gw (fun E' h'=>zW.op (h E' h') hg) k
theorem zY7{b:Bool}(rd:List (Nat×T))(k:DK P Γ pn ops id hs E0 Q os (E.app wr chg) (⟨rd,[(wr,chg)]⟩::acc))(gw:E.Has rd:=by repeat (first|exact trivial|refine⟨rfl,?_⟩))(hg:o.guard=iF (g,b):=by rfl)(gn:(ops[g]?).bind (·.dst)=iF s:=by rfl)(hb:xC rd s=iF (.lit (.bool b)):=by rfl)(h:∀E':Env,E'.Has rd→Ok P Γ o E' (E'.app wr chg):=by intro E' h;exact zPQ (hO h rfl) (hO h rfl) rfl):DK P Γ pn ops id hs E0 Q (o::os) E acc:=dG rd [(wr,chg)] gw (fun E' h'=>zW.guard g b s (h E' h') hg gn (hE h' hb)) k
theorem yBd{b:Bool}(rd:List (Nat×T))(k:DK P Γ pn ops id hs E0 Q os (E.app wr chg) (⟨rd,[(wr,chg)]⟩::acc))(gw:E.Has rd:=by repeat (first|exact trivial|refine⟨rfl,?_⟩))(hg:o.guard=iF (g,b):=by rfl)(gn:(ops[g]?).bind (·.dst)=iF s:=by rfl)(hb:xC rd s=iF (.lit (.bool b)):=by rfl)(h:∀E':Env,E'.Has rd→Ok P Γ o E' (E'.app wr chg):=by intro E' h;exact zTf (hO h rfl) (hO h rfl) rfl):DK P Γ pn ops id hs E0 Q (o::os) E acc:=dG rd [(wr,chg)] gw (fun E' h'=>zW.guard g b s (h E' h') hg gn (hE h' hb)) k
theorem yBe{b:Bool}(rd:List (Nat×T))(k:DK P Γ pn ops id hs E0 Q os (E.app wr chg) (⟨rd,[(wr,chg)]⟩::acc))(gw:E.Has rd:=by repeat (first|exact trivial|refine⟨rfl,?_⟩))(hg:o.guard=iF (g,b):=by rfl)(gn:(ops[g]?).bind (·.dst)=iF s:=by rfl)(hb:xC rd s=iF (.lit (.bool b)):=by rfl)(h:∀E':Env,E'.Has rd→Ok P Γ o E' (E'.app wr chg):=by intro E' h;exact zTe (hO h rfl) (hO h rfl) rfl):DK P Γ pn ops id hs E0 Q (o::os) E acc:=dG rd [(wr,chg)] gw (fun E' h'=>zW.guard g b s (h E' h') hg gn (hE h' hb)) k
theorem zAL(rd:List (Nat×T))(k:DK P Γ pn ops id hs E0 Q os (E.app wr chg) (⟨rd,[(wr,chg)]⟩::acc))(gw:E.Has rd:=by repeat (first|exact trivial|refine⟨rfl,?_⟩))(h:∀E':Env,E'.Has rd→Ok P Γ o E' (E'.app wr chg):=by intro E' h;exact zPR inferInstance (hO h rfl) rfl rfl rfl)(hg:o.guard=iG:=by rfl):DK P Γ pn ops id hs E0 Q (o::os) E acc:=dG rd [(wr,chg)] gw (fun E' h'=>zW.op (h E' h') hg) k
theorem zHT{b:Bool}(rd:List (Nat×T))(k:DK P Γ pn ops id hs E0 Q os (E.app wr chg) (⟨rd,[(wr,chg)]⟩::acc))(gw:E.Has rd:=by repeat (first|exact trivial|refine⟨rfl,?_⟩))(hg:o.guard=iF (g,b):=by rfl)(gn:(ops[g]?).bind (·.dst)=iF s:=by rfl)(hb:xC rd s=iF (.lit (.bool b)):=by rfl)(h:∀E':Env,E'.Has rd→Ok P Γ o E' (E'.app wr chg):=by intro E' h;exact zPR inferInstance (hO h rfl) rfl rfl rfl):DK P Γ pn ops id hs E0 Q (o::os) E acc:=dG rd [(wr,chg)] gw (fun E' h'=>zW.guard g b s (h E' h') hg gn (hE h' hb)) k
theorem vB(rd:List (Nat×T))(k:DK P Γ pn ops id hs E0 Q os (E.app wr chg) (⟨rd,[(wr,chg)]⟩::acc))(gw:E.Has rd:=by repeat (first|exact trivial|refine⟨rfl,?_⟩))(h:∀E':Env,E'.Has rd→Ok P Γ o E' (E'.app wr chg):=by intro E' h;first|exact zBp (hO h rfl) (zEU (hO h rfl)) rfl|exact zBp (hO h rfl) (isPtr_addr (hO h rfl)) rfl|exact zBp (hO h rfl) (zFT (by first|exact wA (hE h rfl) rfl|exact tH (hE h rfl) (hE h rfl) (by first|rfl|exact zT (by assumption) rfl|exact zT (by assumption) (zT (by assumption) rfl)|exact yW rfl (zT (by assumption) rfl)|exact yZ (zT (by assumption) rfl)|exact yZ (yW rfl (zT (by assumption) rfl))|exact yZ (yW rfl (zT (by assumption) (zT (by assumption) rfl)))) rfl)) rfl)(hg:o.guard=iG:=by rfl):DK P Γ pn ops id hs E0 Q (o::os) E acc:=dG rd [(wr,chg)] gw (fun E' h'=>zW.op (h E' h') hg) k
theorem zEt{b:Bool}(rd:List (Nat×T))(k:DK P Γ pn ops id hs E0 Q os (E.app wr chg) (⟨rd,[(wr,chg)]⟩::acc))(gw:E.Has rd:=by repeat (first|exact trivial|refine⟨rfl,?_⟩))(hg:o.guard=iF (g,b):=by rfl)(gn:(ops[g]?).bind (·.dst)=iF s:=by rfl)(hb:xC rd s=iF (.lit (.bool b)):=by rfl)(h:∀E':Env,E'.Has rd→Ok P Γ o E' (E'.app wr chg):=by intro E' h;first|exact zBp (hO h rfl) (zEU (hO h rfl)) rfl|exact zBp (hO h rfl) (isPtr_addr (hO h rfl)) rfl|exact zBp (hO h rfl) (zFT (by first|exact wA (hE h rfl) rfl|exact tH (hE h rfl) (hE h rfl) (by first|rfl|exact zT (by assumption) rfl|exact zT (by assumption) (zT (by assumption) rfl)|exact yW rfl (zT (by assumption) rfl)|exact yZ (zT (by assumption) rfl)|exact yZ (yW rfl (zT (by assumption) rfl))|exact yZ (yW rfl (zT (by assumption) (zT (by assumption) rfl)))) rfl)) rfl):DK P Γ pn ops id hs E0 Q (o::os) E acc:=dG rd [(wr,chg)] gw (fun E' h'=>zW.guard g b s (h E' h') hg gn (hE h' hb)) k
theorem zGO(rd:List (Nat×T))(k:DK P Γ pn ops id hs E0 Q os (E.app wr chg) (⟨rd,[(wr,chg)]⟩::acc))(gw:E.Has rd:=by repeat (first|exact trivial|refine⟨rfl,?_⟩))(h:∀E':Env,E'.Has rd→Ok P Γ o E' (E'.app wr chg):=by intro E' h;exact zZ6 (by first|exact wA (hE h rfl) rfl|exact tH (hE h rfl) (hE h rfl) (by first|rfl|exact zT (by assumption) rfl|exact zT (by assumption) (zT (by assumption) rfl)|exact yW rfl (zT (by assumption) rfl)|exact yZ (zT (by assumption) rfl)|exact yZ (yW rfl (zT (by assumption) rfl))|exact yZ (yW rfl (zT (by assumption) (zT (by assumption) rfl)))) rfl) (hO h rfl) (by assumption) rfl)(hg:o.guard=iG:=by rfl):DK P Γ pn ops id hs E0 Q (o::os) E acc:=dG rd [(wr,chg)] gw (fun E' h'=>zW.op (h E' h') hg) k
theorem zT0(rd:List (Nat×T))(k:DK P Γ pn ops id hs E0 Q os (E.app wr chg) (⟨rd,[(wr,chg)]⟩::acc))(gw:E.Has rd:=by repeat (first|exact trivial|refine⟨rfl,?_⟩))(h:∀E':Env,E'.Has rd→Ok P Γ o E' (E'.app wr chg):=by intro E' h;exact zTd (by assumption) (hO h rfl) (hO h rfl) rfl)(hg:o.guard=iG:=by rfl):DK P Γ pn ops id hs E0 Q (o::os) E acc:=dG rd [(wr,chg)] gw (fun E' h'=>zW.op (h E' h') hg) k
theorem yBf(rd:List (Nat×T))(k:DK P Γ pn ops id hs E0 Q os (E.app wr chg) (⟨rd,[(wr,chg)]⟩::acc))(gw:E.Has rd:=by repeat (first|exact trivial|refine⟨rfl,?_⟩))(h:∀E':Env,E'.Has rd→Ok P Γ o E' (E'.app wr chg):=by intro E' h;exact zYw (by assumption) (hO h rfl) (hO h rfl) rfl)(hg:o.guard=iG:=by rfl):DK P Γ pn ops id hs E0 Q (o::os) E acc:=dG rd [(wr,chg)] gw (fun E' h'=>zW.op (h E' h') hg) k
theorem yBg(rd:List (Nat×T))(k:DK P Γ pn ops id hs E0 Q os (E.app wr chg) (⟨rd,[(wr,chg)]⟩::acc))(gw:E.Has rd:=by repeat (first|exact trivial|refine⟨rfl,?_⟩))(h:∀E':Env,E'.Has rd→Ok P Γ o E' (E'.app wr chg):=by intro E' h;exact zYx (by assumption) (hO h rfl) rfl)(hg:o.guard=iG:=by rfl):DK P Γ pn ops id hs E0 Q (o::os) E acc:=dG rd [(wr,chg)] gw (fun E' h'=>zW.op (h E' h') hg) k
theorem jU(rd:List (Nat×T))(k:DK P Γ pn ops id hs E0 Q os (E.app wr chg) (⟨rd,[(wr,chg)]⟩::acc))(gw:E.Has rd:=by repeat (first|exact trivial|refine⟨rfl,?_⟩))(h:∀E':Env,E'.Has rd→Ok P Γ o E' (E'.app wr chg):=by intro E' h;exact zKC inferInstance rfl)(hg:o.guard=iG:=by rfl):DK P Γ pn ops id hs E0 Q (o::os) E acc:=dG rd [(wr,chg)] gw (fun E' h'=>zW.op (h E' h') hg) k
theorem zQc(rd:List (Nat×T))(k:DK P Γ pn ops id hs E0 Q os (E.app wr chg) (⟨rd,[(wr,chg)]⟩::acc))(gw:E.Has rd:=by repeat (first|exact trivial|refine⟨rfl,?_⟩))(h:∀E':Env,E'.Has rd→Ok P Γ o E' (E'.app wr chg):=by intro E' h;exact zTg (hE h rfl) rfl rfl)(hg:o.guard=iG:=by rfl):DK P Γ pn ops id hs E0 Q (o::os) E acc:=dG rd [(wr,chg)] gw (fun E' h'=>zW.op (h E' h') hg) k
theorem zY8(rd:List (Nat×T))(k:DK P Γ pn ops id hs E0 Q os (E.app wr chg) (⟨rd,[(wr,chg)]⟩::acc))(gw:E.Has rd:=by repeat (first|exact trivial|refine⟨rfl,?_⟩))(h:∀E':Env,E'.Has rd→Ok P Γ o E' (E'.app wr chg):=by intro E' h;exact zTq (hE h rfl) rfl)(hg:o.guard=iG:=by rfl):DK P Γ pn ops id hs E0 Q (o::os) E acc:=dG rd [(wr,chg)] gw (fun E' h'=>zW.op (h E' h') hg) k
theorem cA{f:FuncId}{xs:List Operand}{res:List T}(gr:zAK P f)(hc:FnC P f us res [])(k:RW P Γ pn ops os (E.app (cWr d res []) (uJ d [])) Q)(gc:wB E [] 0 xs us:=by repeat (first|exact trivial|refine⟨agC _ rfl (by first|rfl|exact jH inferInstance|exact sL rfl (by first|rfl|exact zT (by assumption) rfl|exact zT (by assumption) (zT (by assumption) rfl)|exact yW rfl (zT (by assumption) rfl)|exact yZ (zT (by assumption) rfl)|exact yZ (yW rfl (zT (by assumption) rfl))|exact yZ (yW rfl (zT (by assumption) (zT (by assumption) rfl)))) inferInstance|exact cloSR rfl (by first|rfl|exact zT (by assumption) rfl|exact zT (by assumption) (zT (by assumption) rfl)|exact yW rfl (zT (by assumption) rfl)|exact yZ (zT (by assumption) rfl)|exact yZ (yW rfl (zT (by assumption) rfl))|exact yZ (yW rfl (zT (by assumption) (zT (by assumption) rfl))))) rfl,?_⟩))(gk:kB res:=by repeat (first|exact vD|refine vM inferInstance ?_))(sd:J4 d Γ.N=iH:=by rfl)(hg:gd=iG:=by rfl)(hp:pn.ok (iF d)=iH:=by rfl):
  RW P Γ pn ops (⟨iF d,.call { callee:=.value (.func f),args:=xs.toArray,argTypes:=ats },ty,ps,af,gd⟩::os) E Q:=oP (xX gr hc gc gk sd) k hg hp
theorem dC{f:FuncId}{xs:List Operand}{res:List T}(rd:List (Nat×T))(gr:zAK P f)(hc:FnC P f us res [])(k:DK P Γ pn ops id hs E0 Q os (E.app (cWr d res []) (uJ d [])) (⟨rd,[(cWr d res [],uJ d [])]⟩::acc))(gw:E.Has rd:=by repeat (first|exact trivial|refine⟨rfl,?_⟩))(gc:∀E':Env,E'.Has rd→wB E' [] 0 xs us:=by intro E' h;repeat (first|exact trivial|refine⟨agC _ (hO h rfl) (by first|rfl|exact jH inferInstance|exact sL (hE h rfl) (by first|rfl|exact zT (by assumption) rfl|exact zT (by assumption) (zT (by assumption) rfl)|exact yW rfl (zT (by assumption) rfl)|exact yZ (zT (by assumption) rfl)|exact yZ (yW rfl (zT (by assumption) rfl))|exact yZ (yW rfl (zT (by assumption) (zT (by assumption) rfl)))) inferInstance|exact cloSR (hE h rfl) (by first|rfl|exact zT (by assumption) rfl|exact zT (by assumption) (zT (by assumption) rfl)|exact yW rfl (zT (by assumption) rfl)|exact yZ (zT (by assumption) rfl)|exact yZ (yW rfl (zT (by assumption) rfl))|exact yZ (yW rfl (zT (by assumption) (zT (by assumption) rfl))))) rfl,?_⟩))(gk:kB res:=by repeat (first|exact vD|refine vM inferInstance ?_))(sd:J4 d Γ.N=iH:=by rfl)(hg:gd=iG:=by rfl):
  DK P Γ pn ops id hs E0 Q (⟨iF d,.call { callee:=.value (.func f),args:=xs.toArray,argTypes:=ats },ty,ps,af,gd⟩::os) E acc:=
 dG rd [(cWr d res [],uJ d [])] gw (fun E' h'=>zW.op (xX gr hc (gc E' h') gk sd) hg) k
theorem sk2{b b':Bool}(k:RW P Γ pn ops os (E.app [(d,iF (.tup []))] [(d,0)]) Q)(hd:o.dst=iF d:=by rfl)(hg:o.guard=iF (g,b):=by rfl)(gn:(ops[g]?).bind (·.dst)=iF s:=by rfl)(hb:E s=iF (.lit (.bool b')):=by rfl)(cM:(b==b')=iI:=by rfl)(sd:J4 d Γ.N=iH:=by rfl)(hp:pn.ok o.dst=iH:=by rfl):
  RW P Γ pn ops (o::os) E Q:=RW.cons (zW.skip2 g b b' s hd sd cM hg gn hb) k hp
theorem wH{b b':Bool}(k:DK P Γ pn ops id hs E0 Q os (E.app [(d,iF (.tup []))] [(d,0)]) (⟨[(s,.lit (.bool b'))],[([(d,iF (.tup []))],[(d,0)])]⟩::acc))(hd:o.dst=iF d:=by rfl)(hg:o.guard=iF (g,b):=by rfl)(gn:(ops[g]?).bind (·.dst)=iF s:=by rfl)(hb:E s=iF (.lit (.bool b')):=by rfl)(cM:(b==b')=iI:=by rfl)(sd:J4 d Γ.N=iH:=by rfl):
  DK P Γ pn ops id hs E0 Q (o::os) E acc:=dG [(s,.lit (.bool b'))] [([(d,iF (.tup []))],[(d,0)])] ⟨hb,trivial⟩ (fun _E' h=>zW.skip2 g b b' s hd sd cM hg gn h.1) k
theorem yCR{b:Bool}(k:DK P Γ pn ops id hs E0 Q os (E.app [(d,iF (.tup []))] [(d,0)]) (⟨[(s,.tup [])],[([(d,iF (.tup []))],[(d,0)])]⟩::acc))(hd:o.dst=iF d:=by rfl)(hg:o.guard=iF (g,b):=by rfl)(gn:(ops[g]?).bind (·.dst)=iF s:=by rfl)(hb:E s=iF (.tup []):=by rfl)(sd:J4 d Γ.N=iH:=by rfl):
  DK P Γ pn ops id hs E0 Q (o::os) E acc:=dG [(s,.tup [])] [([(d,iF (.tup []))],[(d,0)])] ⟨hb,trivial⟩ (fun _E' h=>zW.skip3 g b s hd sd hg gn h.1) k
theorem dNA(hm:P.follows .mixedOrders=iH)(hQ:Q .normal E)(hf:zAX 0 ops.toList=iH:=by rfl)(ha:zA2 (zZ1 ops.toList) (zZ1 ops.toList) ops.toList=iH:=by rfl)(hp:kN acc.reverse 0 (zZ1 ops.toList) acc.reverse=iH:=by rfl)
  (ac:ops.toList.all (fun o=>pn.ok o.dst)=iH:=by rfl)(hh0:zTr hs E0=iH:=by rfl)(hw:acc.reverse.all (wrS hs)=iH:=by rfl):DK P Γ pn ops id hs E0 Q [] E acc:=dN _ hm hQ hf ha hp ac hh0 hw
theorem cn{c1 c2:Code}{α:Type}{b:Bool}{u v z:α}(h:cond b u v=z)(ht:b=iH→u=z→CW P Γ pn c1 E Q)(hf:b=iI→v=z→CW P Γ pn c2 E Q)(hb:opT E x=iF (.lit (.bool b)):=by rfl):CW P Γ pn (.cond x c1 c2) E Q:=
 CW.cond b hb (fun hc=>ht hc (cT hc h)) fun hc=>hf hc (cF hc h)
theorem fB{f:FuncId}{res:List T}(hf:P.funcs[f]? =iF fn)(h:∀(St:Stb)(W:Nat→Prop)(w0:World)(v:Nat→Value),CW P ⟨St,W,w0,fn.ntmps⟩ (zCI v (rws.map (·.1))) c (xC (zJe 0 us)) (tW ⟨St,W,w0,fn.ntmps⟩ P fn.results us res rws))(hb:fn.body=iF c:=by rfl)(hn:us.length≤fn.ntmps:=by exact Nat.le_of_ble_eq_true rfl)
  (ht:uA us:=by repeat (first|exact trivial|refine⟨by first|exact Top.of_clean _ (Enc.clean _)|simp[Top,uA],?_⟩))(hr:rws.all (fun x=>decide (x.1<us.length))=iH:=by rfl):FnC P f us res rws:=
 FnC.of_bodyG hf hb hn ht hr (by rintro⟨St,W,w0,N⟩ v hN;subst hN;exact h St W w0 v)
def zEu:List ResultVar→Option (List Nat)
 | []=>iF []
 |.tmp s::l=>(zEu l).map (s::·)
 |.cell _ _::_=>iG
theorem zJL:∀(rs:List ResultVar)(ss:List Nat)(res:List T),zEu rs=iF ss→ss.map E=res.map iF→res.all T.okTup=iH→ ∃nd:Nds,zRk P E rs nd∧nd.map (·.2.2)=res∧nd.map (·.1)=ss
 | [],ss,res,h,hE,_=>by
  simp[zEu]at h;subst h;cases res with
  |nil=>exact⟨[],trivial,rfl,rfl⟩
  |cons _ _=>simp at hE
 |.tmp s::rs,ss,res,h,hE,ht=>by
  simp only[zEu,Ko]at h;obtain⟨ss',h,rfl⟩:=h;cases res with
  |nil=>simp at hE
  |cons t res=>
   simp only[Jr,Q2.injEq]at hE;simp only[Ux,J2]at ht;obtain⟨nd,h1,h2,h3⟩:=zJL rs ss' res h hE.2 ht.2;exact⟨(s,[],t)::nd,⟨⟨rfl,rfl,hE.1,ht.1⟩,h1⟩,by simp[h2],by simp[h3]⟩
 |.cell _ _::_,_,_,h,_,_=>by simp[zEu]at h
theorem rT{rs:Array ResultVar}{res:List T}{e:Exit}{ss:List Nat}(hs:zEu rs.toList=iF ss:=by rfl)(hE:ss.map E=res.map iF:=by rfl)(ht:res.all T.okTup=iH:=by rfl)(hl:ss.all (fun s=>Jax us.length s)=iH:=by rfl)(hn:zBZ ss=iH:=by rfl)
  (hw:LOk E us rws:=by repeat (first|exact trivial|refine⟨⟨rfl,_,rfl⟩,?_⟩))(he:e=.ret∨e=.normal:=by first|exact .inl rfl|exact .inr rfl):tW Γ P rs us res rws e E:=by
 obtain⟨nd,h1,h2,h3⟩:=zJL (P:=P) rs.toList ss res hs hE ht;refine⟨E,zP.refl,he,nd,h1,h2,fun x hx=>?_,by rw[h3];exact zFV hn,hw⟩;have:x.1∈ss:=by rw[←h3];exact Jl.2 ⟨x,hx,rfl⟩
 exact Nat.le_of_ble_eq_true (Kc.1 hl _ this)
theorem eN{σ ρ:Type}{en:σ→Env}{Q1:ρ→Exit→Env→Prop}{y:σ}{x:σ⊕ρ}(h:iF (Sum.inl y)=iF x)(q:zP Γ E (en y):=by exact .has (by repeat (first|exact trivial|refine⟨rfl,?_⟩))):uY Γ en Q1 x .normal E:=by obtain rfl:=sI h;exact⟨rfl,q⟩
theorem rTg{rs:Array ResultVar}{res:List T}{e:Exit}(hg:zP Γ E E')(h:tW Γ P rs us res rws e E'):tW Γ P rs us res rws e E:=by obtain⟨E2,h1,h2⟩:=h;exact⟨E2,hg.trans h1,h2⟩
theorem eX{σ ρ:Type}{en:σ→Env}{Q1:ρ→Exit→Env→Prop}{y:ρ}{x:σ⊕ρ}{e:Exit}(h:iF (Sum.inr y)=iF x)(q:Q1 y e E:=by first|exact⟨rfl,.has (by repeat (first|exact trivial|refine⟨rfl,?_⟩))⟩|exact⟨rfl,rT⟩)(gg:e≠.normal:=by first|exact neX|exact neR):uY Γ en Q1 x e E:=by obtain rfl:=sI h;exact⟨gg,q⟩
end
end Go.Ab
