/- The program's IsTerminal returns what the reference's returns,for all arguments;no conditions. -/
import Derived.Test.YtfeijieociajaaaGreatAbA
import Derived.Laws.CopyRow
import Derived.ProofKit
open List renaming replicate→J1,getElem?_eq_getElem→J3,length_append→J5,length_cons→J7,mem_cons→J9,mem_append→Ja,mem_map→Jc,range→Jd,length_map→Jf,append_assoc→Jg,append_nil→Jh,getElem?_eq_some_iff→Jl,getElem?_append_right→Jm,length_nil→Jt,map_cons→Ju,replicate_succ→Jv,getElem?_map→Jw,nil_append→Jz,getElem?_append_left→K1,map_append→K6,range'→K7,cons_append→K9,take_zero→Kc,length_take→Kd,eq_nil_of_length_eq_zero→Ke,reverse_reverse→Kh,all_eq_true→Ki,flatMap_cons→Kq,getElem?_append→Kr,range_eq_range'→Ku,take_succ_cons→Ky,nodup_cons→L8,map_nil→La,length_range→Le,mem_of_getElem?→Ls,getElem?_drop→Lx,mem_iff_getElem→H3,contains_eq_mem→H9,getElem?_take→Hd,range'_succ→Ho,reverse_nil→Hw,reverse_cons→G8,getD→U7,drop_zero→Uf,map_set→Uj,all_cons→Un,map_take→Uw,find?_cons_of_neg→Qb,mem_iff_getElem?→Qc,mem_cons_of_mem→Qk,getLast?_append→Ql,dropLast_concat→Qn,find?_eq_none→Ja0,cons→Jae,getElem?_set_self→Jaj,getElem?_set→Jan,set_set→Jay,map_map→Jb1,getElem?_set_ne→Jb2,mem_filter→Jb9,getElem?_cons_succ→Jbb,size_toArray→Jbn,map_drop→Jbo
open Bool renaming and_eq_true->J4,not_true->L5,and_self->Lo,not_false->H5,false_eq_true->Hs,not_eq_true'->Gw,true_and->Qq
open Nat renaming blt->J6,le_refl->Je,zero_add->Ji,succ_mul->K8,mul_le_mul_right->Kb,zero_le->Lb,le_trans->Lu,div_add_mod->Lw,mul_one->Ly,div_lt_iff_lt_mul->H7,add_assoc->Ha,mod_lt->Hu,beq->G3,add_zero->Um
open Array renaming getElem?_setIfInBounds->Jj,length_toList->Kl,getD_eq_getD_getElem?->Km,getElem?_toList->Kv,getElem?_eq_some_iff->H8,replicate->Ut
open Option renaming map_eq_some_iff->Kf,getD_some->Lt,map_some->He,some->Hm,map_eq_none_iff->Q3
open Prod renaming mk->Jah
open Option renaming some->jd,none->je
open Bool renaming true->jf,false->jg
namespace Go.Ab
open Go
variable {i l m h:Int}{d id r k s0 j off o0:Nat}{x:Operand}{Γ:Ctx}{E E' E1:Env}{G:Gh}{tmps:Array Value}{w':World}{wr:Wr}{a:Act}{us ts:List T}{u u' tr' u0 t0:T}{ats:Array TypeId}{P:Program}{σ ρ α:Type}{fn:Func}{c:Code}{rws rd:List (Nat×T)}{ti:TypeInfo}{xt yt e:TypeId}{q:List Nat}{f:α->T}
abbrev Rw:=List (Nat×Nat×T)
variable {rw:Rw}
def rwI(rw:Rw)(s:Nat):Option Nat:=(rw.find? fun x=>x.2.1==s).map (·.1)
def rwS(rw:Rw)(i:Nat):Option Nat:=(rw.find? fun x=>x.1==i).map (·.2.1)
theorem zCe:(rw:Rw)->(rw.map (·.2.1)).Nodup-> ∀{i s:Nat}{u:T},(i,s,u)∈rw->rwI rw s=jd i
 | [],_,_,_,_,h=>by simp at h
 |(i0,s0,u0)::rw,hn,i,s,u,h=>by
  simp only[Ju,L8,Jc]at hn;rcases J9.1 h with h|h
  ·simp at h;obtain⟨rfl,rfl,rfl⟩:=h;simp[rwI]
  ·have gc:s0≠s:=fun e=>hn.1 ⟨_,h,e.symm⟩
   have:=zCe rw hn.2 h;simp only[rwI]at this ⊢
   rw[Qb (by simpa using gc)];exact this
theorem zLJ:(rw:Rw)->(rw.map (·.1)).Nodup-> ∀{i s:Nat}{u:T},(i,s,u)∈rw->rwS rw i=jd s
 | [],_,_,_,_,h=>by simp at h
 |(i0,s0,u0)::rw,hn,i,s,u,h=>by
  simp only[Ju,L8,Jc]at hn;rcases J9.1 h with h|h
  ·simp at h;obtain⟨rfl,rfl,rfl⟩:=h;simp[rwS]
  ·have gc:i0≠i:=fun e=>hn.1 ⟨_,h,e.symm⟩
   have:=zLJ rw hn.2 h;simp only[rwS]at this ⊢
   rw[Qb (by simpa using gc)];exact this
theorem zLK{s:Nat}(h:s∉rw.map (·.2.1)):rwI rw s=je:=by simp only[rwI,Q3,Ja0];intro x hx;simp only[beq_iff_eq];exact fun e=>h (Jc.2 ⟨x,hx,e⟩)
theorem zTv{i:Nat}(h:∀x∈rw,x.1≠i):rwS rw i=je:=by simp only[rwS,Q3,Ja0];intro x hx;simpa using h x hx
theorem zQa{s i:Nat}(h:rwI rw s=jd i):s∈rw.map (·.2.1):=by simp only[rwI,Kf]at h;obtain⟨x,hx,_⟩:=h;have h1:=List.mem_of_find?_eq_some hx;have h2:=List.find?_some hx;exact Jc.2 ⟨x,h1,by simpa using h2⟩
abbrev Nd:=List (Nat×List Nat×T)
def zTw(nd:Nd)(k s:Nat):Option (Nat×List Nat):=
 match nd with
 | []=>je
 |x::r=>if x.1=s then jd (k,x.2.1)else zTw r (k+1) s
def ndB(d:Nat)(nd:Nd)(s:Nat)(z:List Nat):Option (Nat×List Nat):=
 match nd with
 | [x]=>if x.1=s/\x.2.1<:+z then jd (d,z.take (z.length-x.2.1.length))else je
 |nd=>match zTw nd 0 s with
  |some (k,q)=>if q<:+z then jd (d,z.take (z.length-q.length)++[k])else je
  |none=>je
theorem zIU:(nd:Nd)->(nd.map (·.1)).Nodup-> ∀{k k0:Nat}{x:Nat×List Nat×T},nd[k]? =jd x->zTw nd k0 x.1=jd (k0+k,x.2.1)
 | [],_,_,_,_,h=>by simp at h
 |y::nd,hn,k,k0,x,h=>by
  simp only[Ju,L8,Jc]at hn;cases k with
  |zero=>simp at h;subst h;simp[zTw]
  |succ k=>
   simp only[Jbb]at h;have gc:y.1≠x.1:=fun e=>hn.1 ⟨x,Ls h,e.symm⟩
   simp only[zTw,gc,if_false];rw[zIU nd hn.2 h]
   congr 2;omega
def zTx(G:Gh)(nd:Nd)(z:List Nat):Value:=
 match nd with
 | [x]=>G.hd x.1 (z++x.2.1)
 |nd=>match z.getLast? with
  |some k=>(match nd[k]? with
   |some x=>G.hd x.1 (z.dropLast++x.2.1)
   |none=>.bool jg)
  |none=>.bool jg
def zXz(G:Gh)(nd:Nd)(z:List Nat):Addr:=
 match nd with
 | [x]=>G.ad x.1 (z++x.2.1)
 |nd=>match z.getLast? with
  |some k=>(match nd[k]? with
   |some x=>G.ad x.1 (z.dropLast++x.2.1)
   |none=>default)
  |none=>default
def Gh.arg(G:Gh)(a:Act)(xs:List Operand)(rw:Rw):Gh where
 hd i z:=match xs[i]? with
  |some (.tmp s)=>G.hd s z
  |some x=>jB (a.eval x)
  |none=>.bool jg
 ad i z:=match xs[i]? with
  |some (.tmp s)=>G.ad s z
  |_=>default
 lb b o:=match G.lb b o with
  |some (f,s,z)=>(match rwI rw s,G.ow b with
   |some i,jd (s',_)=>if s'=s then jd (f,i,z)else je
   |_,_=>je)
  |none=>je
 ow b:=match G.ow b with
  |some (s,z)=>(match rwI rw s with
   |some i=>jd (i,z)
   |none=>je)
  |none=>je
def zAl(G:Gh)(rw:Rw)(b:Nat):Prop:=∃s z,G.ow b=jd (s,z)/\s∈rw.map (·.2.1)
def zDj(d:Nat)(rw:Rw)(nd:Nd)(s:Nat)(z:List Nat):Option (Nat×List Nat):=
 match rwS rw s with
 |some s'=>jd (s',z)
 |none=>ndB d nd s z
open Classical in
noncomputable def Gh.back (G G':Gh) (n0 d:Nat) (rw:Rw) (nd:Nd):Gh where
 hd s z:=if s=d then zTx G' nd z else match rwI rw s with
  |some i=>G'.hd i z
  |none=>G.hd s z
 ad s z:=if s=d then zXz G' nd z else match rwI rw s with
  |some i=>if z=[]then G.ad s z else G'.ad i z
  |none=>G.ad s z
 lb b o:=if zAl G rw b\/n0<=b then(match G'.lb b o with
  |some (f,s,z)=>(match zDj d rw nd s z with
   |some (s',z')=>jd (f,s',z')
   |none=>je)
  |none=>je)else G.lb b o
 ow b:=if zAl G rw b\/n0<=b then(match G'.ow b with
  |some (s,z)=>zDj d rw nd s z
  |none=>je)else G.ow b
def zGj(res:List T):T:=match res with
 | [u]=>u
 |us=>.tup us
def cWr(d:Nat)(res:List T)(rw:Rw):Wr:=(d,jd (zGj res))::rw.map fun x=>(x.2.1,jd x.2.2)
def cLv(t:T):Nat:=if t.single then 1 else 0
def uA(d:Nat)(rw:Rw):Chg:=(d,0)::rw.map fun x=>(x.2.1,cLv x.2.2)
theorem zGY{x:Nat×Nat×T}(h:x∈rw):(x.2.1,cLv x.2.2)∈uA d rw:=Qk _ (Jc.2 ⟨x,h,rfl⟩)
theorem zQb{Gn G':Gh}{d:Nat}:(nd:Nd)-> ∀(j:Nat),(∀k x,nd[k]? =jd x-> ∀z,Gn.hd d (z++[j+k])=G'.hd x.1 (z++x.2.1))->jU Gn d (nd.map (·.2.2)) [] j=nd.map fun x=>sB G' x.1 x.2.2 x.2.1
 | [],_,_=>by simp[jU]
 |x::nd,j,h=>by
  have ih:=zQb (Gn:=Gn) (G':=G') (d:=d) nd (j+1) (fun k y hy z=>by rw[show j+1+k=j+(k+1)from by omega];exact h (k+1) y (by simpa using hy) z)
  simp only[Ju,jU,ih];rw[zBt x.2.2 x.2.1 [j] (by simpa using h 0 x (by simp))]
theorem zTy{res:List T}{s:Nat}{x:Option T}(h:(cWr d res rw).find s=jd x):(s=d/\x=jd (zGj res))\/(s≠d/\ ∃i u,(i,s,u)∈rw/\x=jd u):=by
 simp only[cWr,Wr.find]at h;split at h
 ·rename_i he;simp at h;exact .inl ⟨he.symm,h.symm⟩
 ·rename_i gc
  refine .inr ⟨fun e=>gc e.symm,?_⟩
  clear gc
  induction rw with
  |nil=>simp[Wr.find]at h
  |cons y rw ih=>
   simp only[Ju,Wr.find]at h;split at h
   ·rename_i he;simp at h;subst he;exact⟨y.1,y.2.2,by simp,h.symm⟩
   ·obtain⟨i,u,h1,h2⟩:=ih h;exact⟨i,u,by simp[h1],h2⟩
theorem zTz{res:List T}{s:Nat}(h:(cWr d res rw).find s=je):s≠d/\s∉rw.map (·.2.1):=by
 simp only[cWr,Wr.find]at h;split at h
 ·cases h
 ·rename_i gc
  refine⟨fun e=>gc e.symm,?_⟩
  clear gc
  induction rw with
  |nil=>simp
  |cons y rw ih=>
   simp only[Ju,Wr.find]at h;split at h
   ·cases h
   ·rename_i he
    simp only[Ju,J9,not_or];exact⟨fun e=>he e.symm,ih h⟩
def aft(S Sc S':Stb):Stb:=fun b=>match Sc b with
 |none=>S' b
 |some _=>S b
theorem Rep.up{tmps':Array Value}{w:World}{G':Gh}{chg:Chg}{S:Stb}(h:Rep Γ E G tmps w)(hS:∀b x,Γ.St b=jd x->S b=jd x)
  (gM:tmps'.size=tmps.size)(hk:sL chg G w G' w')(gp:Mem (Γ.at S) G' w')
  (gD:∀s,wr.find s=je->(∀n,(s,n)∉chg)/\tmps'[s]? =tmps[s]?)
  (eA:∀s t,wr.find s=jd (jd t)->Ent (Γ.at S) G' w' tmps'[s]? s t):Rep (Γ.at S) (E.app wr chg) G' tmps' w' where
 size:=by rw[gM];exact h.size
 mem:=gp
 ent s t hs:=by
  unfold Env.app at hs;cases hf:wr.find s with
  |some x=>
   rw[hf]at hs;simp at hs;subst hs;exact eA s t hf
  |none=>
   rw[hf]at hs;simp at hs;cases he:E s with
   |none=>simp[he]at hs
   |some u=>
    simp[he]at hs;obtain⟨gz,rfl⟩:=hs;rw[(gD s hf).2];obtain⟨e1,e2,e3⟩:=Ent.keep hk (gD s hf).1 gz (h.ent s u he);exact⟨e1,zKm hS u [] e2,e3⟩
section
variable {P:Program}{Γ:Ctx}{E:Env}{d:Nat}
theorem zEi{w:World}(g9:Rep Γ E G a.tmps w)(hd:d<Γ.N){Sc:Stb}(hS1:∀b x,Sc b=jd x->w.heap[b]? =jd x/\ ¬zAl G rw b)(hS0:∀b x,Γ.St b=jd x->Sc b=jd x){f:FuncId}{res:List T}
  (hc:FnC P f us res (rw.map fun x=>(x.1,x.2.2))){xs:List Operand}(gf:xs.length=us.length)
  (gj:∀(i:Nat) u,us[i]? =jd u->(∃x,xs[i]? =jd x/\a.eval x=mkV (G.arg a xs rw) i u []/\R Sc (G.arg a xs rw) w i u []))
  (bc:(d::rw.map (·.2.1)).Nodup)(ba:(rw.map (·.1)).Nodup)(eG:∀x∈rw,xs[x.1]? =jd (.tmp x.2.1))
  (gw:∀u∈res,zZ u/\u.okTup=jf/\ ∀(S':Stb)(G:Gh)(w:World)(s:Nat)(p:List Nat),(∀b x,Sc b=jd x->S' b=jd x)->R S' G w s u p->R (aft Γ.St Sc S') G w s u p)
  (ax:∀x∈rw,zZ x.2.2/\(∀(S':Stb)(G:Gh)(w:World)(s:Nat)(p:List Nat),(∀b x,Sc b=jd x->S' b=jd x)->R S' G w s x.2.2 p->R (aft Γ.St Sc S') G w s x.2.2 p)/\ ∃u,E x.2.1=jd u/\x.2.2.single=u.single/\us[x.1]? =jd u):
  Calls P f (xs.map a.eval).toArray w fun e w'=> ∃v,e=.returned v/\ ∃S G',zBU Γ.St S Γ.W Γ.w0.heap.size/\sL (uA d rw) G w G' w'/\Rep (Γ.at S) (E.app (cWr d res rw) (uA d rw)) G' (a.tmps.setIfInBounds d v) w':=by
 have hm:=g9.mem;have mK:=L8.1 bc;have hmc:Mem ⟨Sc,zAl G rw,w,0⟩ (G.arg a xs rw) w:=by
  have gA:∀b,zAl G rw b->Sc b=je:=fun b h=>by
   cases hs:Sc b with
   |none=>rfl
   |some x=>exact absurd h (hS1 b x hs).2
  refine⟨fun i z=>?_,fun b o l hl=>?_,fun b l hl=>?_,fun b x hx=>(hS1 b x hx).1,fun b _ _=>rfl,Je _,⟨fun b cs e h=>⟨cs,h,rfl⟩,rfl,rfl⟩⟩
  ·simp only[Gh.arg]
   split
   ·exact hm.one _ _
   ·exact zAR _
   ·rfl
  ·simp only[Gh.arg]at hl
   split at hl
   ·rename_i f' s z hg
    split at hl
    ·rename_i i s' y hi ho
     split at hl
     ·rename_i he;subst he
      have hL:zAl G rw b:=⟨s',y,ho,zQa hi⟩;exact⟨(hm.lb b o _ hg).1,.inr hL,gA b hL⟩
     ·cases hl
    ·cases hl
   ·cases hl
  ·simp only[Gh.arg]at hl
   split at hl
   ·rename_i s z hg
    split at hl
    ·rename_i i hi
     have hL:zAl G rw b:=⟨s,z,hg,zQa hi⟩;exact⟨(hm.ow b _ hg).1,.inr hL,gA b hL⟩
    ·cases hl
   ·cases hl
 have gn:=hc Sc (zAl G rw) w (G.arg a xs rw) (xs.map a.eval).toArray (by simp[gf]) (fun i u hu=>by obtain⟨x,h1,h2,h3⟩:=gj i u hu;exact⟨by simp[h1,h2],h3⟩) hmc
 refine gn.mono ?_
 rintro e w' ⟨S',G',nd,gW,rfl,gO,cG,fW,ma,aw⟩
 have fa:∀b x,Γ.St b=jd x->aft Γ.St Sc S' b=jd x:=fun b x hx=>by simp only[aft,hS0 b x hx,hx]
 have bp:zBU Γ.St (aft Γ.St Sc S') Γ.W Γ.w0.heap.size:=⟨fa,fun b hb gZ=>by
  simp only[aft]at gZ;split at gZ
  ·rename_i hs
   rcases gW.nw b hs gZ with h|⟨s,z,h,_⟩
   ·exact .inl (by have:=hm.sz;omega)
   ·exact(hm.ow b _ h).2.1
  ·exact absurd hb gZ⟩
 refine⟨_,rfl,aft Γ.St Sc S',G.back G' w.heap.size d rw nd,bp,?_⟩;have mf:∀b,b<w.heap.size-> ¬zAl G rw b->w'.heap[b]? =w.heap[b]?:=gO.fr;have gr:w.heap.size<=w'.heap.size:=gO.sz;have gH:Blk w w':=gO.bk.blk
 generalize hGn:G.back G' w.heap.size d rw nd=Gn
 have ghdd:∀z,Gn.hd d z=zTx G' nd z:=fun z=>by rw[<-hGn];simp[Gh.back]
 have gadd:∀z,Gn.ad d z=zXz G' nd z:=fun z=>by rw[<-hGn];simp[Gh.back]
 have ghd0:∀s z,s≠d->s∉rw.map (·.2.1)->Gn.hd s z=G.hd s z:=fun s z h1 h2=>by rw[<-hGn];simp[Gh.back,h1,zLK h2]
 have gad0:∀s z,s≠d->s∉rw.map (·.2.1)->Gn.ad s z=G.ad s z:=fun s z h1 h2=>by rw[<-hGn];simp[Gh.back,h1,zLK h2]
 have eH:∀i s u,(i,s,u)∈rw->s≠d:=fun i s u h e=>mK.1 (e▸Jc.2 ⟨_,h,rfl⟩)
 have ghdr:∀i s u z,(i,s,u)∈rw->Gn.hd s z=G'.hd i z:=fun i s u z h=>by rw[<-hGn];simp[Gh.back,eH i s u h,zCe rw mK.2 h]
 have gadr:∀i s u z,(i,s,u)∈rw->z≠[]->Gn.ad s z=G'.ad i z:=fun i s u z h h0=>by rw[<-hGn];simp[Gh.back,eH i s u h,zCe rw mK.2 h,h0]
 have gadr0:∀i s u,(i,s,u)∈rw->Gn.ad s []=G.ad s []:=fun i s u h=>by rw[<-hGn];simp[Gh.back,eH i s u h,zCe rw mK.2 h]
 have glb0:∀b o l,¬zAl G rw b->G.lb b o=jd l->Gn.lb b o=jd l:=fun b o l h1 h2=>by have:=(hm.lb b o _ h2).1;rw[<-hGn];simp only[Gh.back];rw[if_neg (by rintro(h|h);exact h1 h;omega)];exact h2
 have gow0:∀b l,¬zAl G rw b->G.ow b=jd l->Gn.ow b=jd l:=fun b l h1 h2=>by have:=(hm.ow b _ h2).1;rw[<-hGn];simp only[Gh.back];rw[if_neg (by rintro(h|h);exact h1 h;omega)];exact h2
 have gK:∀b o l,G'.lb b o=jd l->zAl G rw b\/w.heap.size<=b:=fun b o l h=>(gO.lb b o l h).2.1.symm
 have bn:∀b l,G'.ow b=jd l->zAl G rw b\/w.heap.size<=b:=fun b l h=>(gO.ow b l h).2.1.symm
 have glb1:∀b o fl s z s' z',G'.lb b o=jd (fl,s,z)->zDj d rw nd s z=jd (s',z')->Gn.lb b o=jd (fl,s',z'):=fun b o fl s z s' z' h1 h2=>by rw[<-hGn];simp only[Gh.back];rw[if_pos (gK b o _ h1),h1];simp[h2]
 have gow1:∀b s z l,G'.ow b=jd (s,z)->zDj d rw nd s z=jd l->Gn.ow b=jd l:=fun b s z l h1 h2=>by rw[<-hGn];simp only[Gh.back];rw[if_pos (bn b _ h1),h1];simp[h2]
 have dz:∀i s u z,(i,s,u)∈rw->zDj d rw nd i z=jd (s,z):=fun i s u z h=>by simp[zDj,zLJ rw ba h]
 have gC:∀x∈rw,x.1<us.length:=fun x hx=>by have:=(Jl.1 (eG x hx)).1;omega
 have hbn:∀x∈nd,∀z,zDj d rw nd x.1 z=ndB d nd x.1 z:=fun x hx z=>by have h1:=(fW x hx).2;have h2:rwS rw x.1=je:=zTv (fun y hy e=>by have:=gC y hy;omega);simp[zDj,h2]
 have mU:∀(k:Nat) x,nd[k]? =jd x-> ∃tgt,(nd.length=1->tgt=[])/\(nd.length≠1->tgt=[k])/\(∀z,Gn.hd d (z++tgt)=G'.hd x.1 (z++x.2.1))/\(∀z,Gn.ad d (z++tgt)=G'.ad x.1 (z++x.2.1))/\ ∀z,zDj d rw nd x.1 (z++x.2.1)=jd (d,z++tgt):=by
  intro k x hk;have bP:=Ls hk
  match nd,hk,ma,hbn x bP,ghdd,gadd with
  | [y],hk,ma,hb,ghdd,gadd=>
   have hkx:y=x:=by
    cases k with
    |zero=>simpa using hk
    |succ k=>simp at hk
   subst hkx;exact⟨[],fun _=>rfl,fun h=>absurd rfl h,fun z=>by rw[ghdd];simp[zTx],fun z=>by rw[gadd];simp[zXz],fun z=>by rw[hb];simp[ndB]⟩
  | [],hk,_,_,_,_=>simp at hk
  |y1::y2::r,hk,ma,hb,ghdd,gadd=>
   refine⟨[k],fun h=>by simp at h,fun _=>rfl,fun z=>by rw[ghdd];simp only[zTx,Ql,Qn];simp[hk],fun z=>by rw[gadd];simp only[zXz,Ql,Qn];simp[hk],fun z=>?_⟩;rw[hb];have:=zIU (y1::y2::r) ma (k0:=0) hk;rw[Ji]at this;simp only[ndB,this];simp
 have my:∀(k:Nat) x,nd[k]? =jd x-> ∀tgt,(∀z,Gn.hd d (z++tgt)=G'.hd x.1 (z++x.2.1))->(∀z,Gn.ad d (z++tgt)=G'.ad x.1 (z++x.2.1))->(∀z,zDj d rw nd x.1 (z++x.2.1)=jd (d,z++tgt))->R (aft Γ.St Sc S') Gn w' d x.2.2 tgt:=by intro k x hk tgt h1 h2 h3;have bP:=Ls hk;obtain⟨c1,c2,c3⟩:=gw x.2.2 (by rw[<-cG];exact Jc.2 ⟨x,bP,rfl⟩);refine jM (G:=G') (w:=w') (s:=x.1) (p:=x.2.1) ⟨⟨h1,fun z _=>h2 z,fun b o f' z _ _ hl=>⟨glb1 b o f' _ _ _ _ hl (h3 z),rfl⟩,fun b z _ hl=>gow1 b _ _ _ hl (h3 z),fun b cs e h=>⟨cs,h,rfl⟩⟩,fun b o _ hl=>⟨glb1 b o jf _ _ _ _ hl (by simpa using h3 []),rfl⟩,fun b hl=>gow1 b _ _ _ hl (by simpa using h3 [])⟩ _ (yU.mono (fun _ _=>False.elim) _ c1) (c3 _ _ _ _ _ gW.le (fW x bP).1)
 have gu:sL (uA d rw) G w Gn w':=by
  have gB:∀s,(∀n,(s,n)∉uA d rw)->s≠d/\s∉rw.map (·.2.1):=fun s h=>⟨fun e=>h 0 (by simp[uA,e]),fun hm=>by obtain⟨x,hx,rfl⟩:=Jc.1 hm;exact h _ (zGY hx)⟩
  have cH:∀b s y,G.ow b=jd (s,y)->s∉rw.map (·.2.1)-> ¬zAl G rw b:=by
   rintro b s y h1 h2 ⟨s',z',h3,h4⟩
   rw[h1]at h3;simp at h3;exact h2 (h3.1▸h4)
  refine⟨fun s p h=>?_,fun s p h=>?_,fun b o fl s p gV h1 h2=>?_,fun b s p h1 h2=>?_,gH⟩
  ·have h1:s≠d:=fun e=>absurd (h 0 (by simp[uA,e])) (by simp)
   by_cases h2:s∈rw.map (·.2.1)
   ·
    obtain⟨x,hx,rfl⟩:=Jc.1 h2;have hc:=h _ (zGY hx);have c2:x.2.2.single=jf:=by
     cases ph:x.2.2.single with
     |true=>rfl
     |false=>simp[cLv,ph]at hc
    have h3:p=[]:=Ke (by simp only[cLv,c2,if_true]at hc;omega);subst h3;obtain⟨_,_,u,c4,c5,c6⟩:=ax x hx;rw[c2]at c5;have c5:=c5.symm;obtain⟨_,u0,e1,e2⟩:=aw x.1 x.2.2 (Jc.2 ⟨x,hx,rfl⟩);rw[c6]at e1;simp at e1;subst e1;rw[yV c2,yV c5]at e2;rw[ghdr x.1 x.2.1 x.2.2 [] hx,e2];simp[Gh.arg,eG x hx]
   ·exact ghd0 s p h1 h2
  ·have h1:s≠d:=fun e=>absurd (h 0 (by simp[uA,e])) (by simp)
   by_cases h2:s∈rw.map (·.2.1)
   ·obtain⟨x,hx,rfl⟩:=Jc.1 h2
    have hc:=h _ (zGY hx);have h3:p=[]:=Ke (by have:cLv x.2.2<=1:=(by unfold cLv;split<;>omega);omega);subst h3;exact gadr0 x.1 x.2.1 x.2.2 hx
   ·exact gad0 s p h1 h2
  ·obtain⟨h3,h4⟩:=gB s h2
   obtain⟨y,hy⟩:=gV;have h5:=cH b s y hy h4;exact⟨glb0 b o _ h5 h1,by simp[yN,World.cell?,mf b (hm.lb b o _ h1).1 h5]⟩
  ·obtain⟨h3,h4⟩:=gB s h2
   exact gow0 b _ (cH b s p h1 h4) h1
 have gp:Mem (Γ.at (aft Γ.St Sc S')) Gn w':=by
  have gz:∀b,b<w'.heap.size/\(w.heap.size<=b\/zAl G rw b)/\S' b=je->zBT (Γ.at (aft Γ.St Sc S')) w' b:=fun b ⟨hb,h,gF⟩=>by
   have bV:Sc b=je:=by
    cases hs:Sc b with
    |none=>rfl
    |some x=>rw[gW.le b x hs]at gF;cases gF
   refine⟨hb,?_,by simp only[aft,bV];exact gF⟩;rcases h with h|⟨s,z,h1,_⟩
   ·exact .inl (by have:=hm.sz;show Γ.w0.heap.size<=b;omega)
   ·exact(hm.ow b _ h1).2.1
  have gD:∀b,¬(zAl G rw b\/w.heap.size<=b)->zBT Γ w b->zBT (Γ.at (aft Γ.St Sc S')) w' b:=fun b h ⟨h1,h2,h3⟩=>by
   refine⟨by omega,h2,?_⟩;simp only[aft];split
   ·rename_i hs
    cases gF:S' b with
    |none=>rfl
    |some x=>
     rcases gW.nw b hs (by rw[gF];simp)with h4|h4
     ·exact absurd (.inr h4) h
     ·exact absurd (.inl h4) h
   ·exact h3
  refine⟨fun s z=>?_,fun b o l hl=>?_,fun b l hl=>?_,fun b x hx=>?_,fun b(h1:b<Γ.w0.heap.size) h2=>?_,Lu hm.sz gr,hm.bk.trans gH gO.bk.os gO.bk.out⟩
  ·by_cases h1:s=d
   ·subst h1
    rw[ghdd];unfold zTx;split
    ·exact gO.one _ _
    ·split
     ·split
      ·exact gO.one _ _
      ·rfl
     ·rfl
   ·by_cases h2:s∈rw.map (·.2.1)
    ·obtain⟨x,hx,rfl⟩:=Jc.1 h2
     rw[ghdr x.1 x.2.1 x.2.2 z hx];exact gO.one _ _
    ·rw[ghd0 s z h1 h2];exact hm.one _ _
  ·rw[<-hGn]at hl
   simp only[Gh.back]at hl;split at hl
   ·rename_i pN
    split at hl
    ·rename_i hg
     exact gz b (gO.lb b o _ hg)
    ·cases hl
   ·rename_i pN
    exact gD b pN (hm.lb b o l hl)
  ·rw[<-hGn]at hl
   simp only[Gh.back]at hl;split at hl
   ·rename_i pN
    split at hl
    ·rename_i hg
     exact gz b (gO.ow b _ hg)
    ·cases hl
   ·rename_i pN
    exact gD b pN (hm.ow b l hl)
  ·simp only[aft]at hx
   split at hx
   ·exact gO.st b x hx
   have h1:=hm.st b x hx;have h2:=(H8.1 h1).1;have h3:¬zAl G rw b:=by
    rintro⟨s,z,h4,_⟩
    rw[(hm.ow b _ h4).2.2]at hx;cases hx
   rw[mf b h2 h3];exact h1
  ·have h3:¬zAl G rw b:=by
    rintro⟨s,z,h4,_⟩
    rcases(hm.ow b _ h4).2.1 with h5|h5
    ·omega
    ·exact h2 h5
   rw[mf b (by have:=hm.sz;omega) h3];exact hm.fr b h1 h2
 have iq:nd.length=res.length:=by rw[<-cG];simp
 refine⟨gu,g9.up fa (by simp) gu gp ?_ ?_⟩
 ·intro s hs
  obtain⟨h1,h2⟩:=zTz hs;refine⟨fun n hn=>?_,by rw[Jj];simp[Ne.symm h1]⟩;simp only[uA,J9,Jah.injEq,Jc]at hn;rcases hn with⟨e,_⟩|⟨x,hx,e,_⟩
  ·exact h1 e
  ·exact h2 (Jc.2 ⟨x,hx,e⟩)
 ·intro s t hs
  rcases zTy hs with⟨rfl,ht⟩|⟨gc,i,u,cK,ht⟩
  ·simp at ht
   subst ht;rw[Jj];simp only[g9.size,hd,if_true];have pA:res=nd.map (·.2.2):=cG.symm
   by_cases hl:nd.length=1
   ·obtain⟨x,hx⟩:∃x,nd=[x]:=List.length_eq_one_iff.1 hl
    obtain⟨tgt,t1,_,t3,t4,t5⟩:=mU 0 x (by simp[hx]);obtain rfl:=t1 hl;have hr:=my 0 x (by simp[hx]) [] t3 t4 t5;obtain⟨c1,c2,_⟩:=gw x.2.2 (by rw[pA,hx];simp);have fh:zGj res=x.2.2:=by rw[pA,hx];rfl
    have hJ:∀ys,x.2.2≠.tup ys:=fun ys e=>by rw[e]at c2;simp[T.okTup]at c2
    rw[fh];refine⟨?_,hr,Top.of_clean _ c1⟩;rw[jV Gn s _ [] hJ,zBt x.2.2 x.2.1 [] t3,hx];rfl
   ·have fh:zGj res=.tup res:=by
     rw[iq]at hl
     match res,hl with
     | [],_=>rfl
     | [u],hl=>simp at hl
     |_::_::_,_=>rfl
    rw[fh];have gE:∀k x,nd[k]? =jd x-> ∀z,Gn.hd s (z++[0+k])=G'.hd x.1 (z++x.2.1):=fun k x hk z=>by obtain⟨tgt,_,t2,t3,_,_⟩:=mU k x hk;rw[t2 hl]at t3;rw[Ji];exact t3 z
    refine⟨?_,?_,?_⟩
    ·have hv:=zQb (Gn:=Gn) (G':=G') (d:=s) nd 0 gE
     rw[cG]at hv;simp only[mkV,hv];unfold zLF;split
     ·simp at hl
     ·rfl
    ·simp only[R]
     rw[pA];refine zPQ _ [] 0 (fun k u hu=>?_);rw[Jw]at hu;cases hk:nd[k]? with
     |none=>simp[hk]at hu
     |some x=>
      simp[hk]at hu;subst hu;obtain⟨tgt,_,t2,t3,t4,t5⟩:=mU k x hk;rw[t2 hl]at t3 t4 t5;rw[Ji];exact my k x hk [k] t3 t4 t5
    ·simp only[Top]
     refine uI.of_clean _ ?_;have:∀us:List T,(∀u∈us,zZ u)->yZ us:=by
      intro us
      induction us with
      |nil=>intro _;trivial
      |cons u us ih=>intro h;exact⟨h u (by simp),ih fun v hv=>h v (by simp[hv])⟩
     exact this res fun u hu=>(gw u hu).1
  ·simp at ht
   subst ht;obtain⟨c1,c3,u0,c4,_,c6⟩:=ax _ cK;obtain⟨r1,u1,e1,e2⟩:=aw i t (Jc.2 ⟨_,cK,rfl⟩);simp only at c4 c6;rw[c6]at e1;simp at e1;subst e1;refine⟨?_,?_,Top.of_clean _ c1⟩
   ·rw[Jj]
    simp only[Ne.symm gc,if_false];have dh:=eG _ cK;simp only at dh;have m1:mkV Gn s t []=mkV G' i t []:=zEY t [] [] (fun z=>by rw[Jh];exact ghdr i s t z cK);have m2:mkV (G.arg a xs rw) i u0 []=mkV G s u0 []:=zEY u0 [] [] (fun z=>by simp[Gh.arg,dh]);rw[(g9.ent s u0 c4).1,m1,e2,m2]
   ·refine jM (G:=G') (w:=w') (s:=i) (p:=[]) ⟨⟨fun z=>by rw[Jh];exact ghdr i s t z cK,fun z hz=>by rw[Jh];exact gadr i s t z cK hz,fun b o f' z _ _ hl=>?_,fun b z _ hl=>?_,fun b cs e h=>⟨cs,h,rfl⟩⟩,fun b o _ hl=>⟨glb1 b o jf _ _ _ _ hl (dz i s t [] cK),rfl⟩,fun b hl=>gow1 b _ _ _ hl (dz i s t [] cK)⟩ t (yU.mono (fun _ _=>False.elim) _ c1) (c3 _ _ _ _ _ gW.le r1)
    ·rw[Jh]at hl ⊢;exact⟨glb1 b o f' _ _ _ _ hl (dz i s t z cK),rfl⟩
    ·rw[Jh]at hl ⊢;exact gow1 b _ _ _ hl (dz i s t z cK)
end
def zIV(E:Env)(rs:List Nat)(x:Operand)(t:T):Bool:=
 match x with
 |.tmp s=>sT E rs s t
 |_=>jf
def zAZ(E:Env)(rw:Rw)(i:Nat)(x:Operand)(u:T):Prop:=
 (∃s u',x=.tmp s/\(i,s,u')∈rw/\E s=jd u/\zZ u/\u.okTup=jf/\wX u=jf)\/(∃t,opT E x=jd t/\clo E t=u/\zIV E (rw.map (·.2.1)) x t=jf)
def xJ(E:Env)(rw:Rw):Nat->List Operand->List T->Prop
 |_,[],[]=>True
 |i,x::xs,u::us=>zAZ E rw i x u/\xJ E rw (i+1) xs us
 |_,_,_=>False
theorem xJ.length{E:Env}{rw:Rw}:(xs:List Operand)->(us:List T)-> ∀i,xJ E rw i xs us->xs.length=us.length
 | [],[],_,_=>rfl
 |_::xs,_::us,i,h=>by simp[xJ.length xs us (i+1) h.2]
 | [],_::_,_,h=>by simp[xJ]at h
 |_::_,[],_,h=>by simp[xJ]at h
theorem xJ.get{E:Env}{rw:Rw}:(xs:List Operand)->(us:List T)-> ∀i,xJ E rw i xs us-> ∀(j:Nat) u,us[j]? =jd u-> ∃x,xs[j]? =jd x/\zAZ E rw (i+j) x u
 | [],[],_,_,_,_,h=>by simp at h
 |x::xs,v::us,i,h,j,u,hj=>by
  cases j with
  |zero=>simp at hj;subst hj;exact⟨x,by simp,h.1⟩
  |succ j=>
   obtain⟨y,h1,h2⟩:=xJ.get xs us (i+1) h.2 j u (by simpa using hj);exact⟨y,by simpa using h1,by rwa [show i+(j+1)=i+1+j from by omega]⟩
 | [],_::_,_,h,_,_,_=>by simp[xJ]at h
 |_::_,[],_,h,_,_,_=>by grind
structure zKo (E:Env) (d:Nat) (xs:List Operand) (us:List T) (rw:Rw):Prop where
 nodup:(d::rw.map (·.2.1)).Nodup
 nodup2:(rw.map (·.1)).Nodup
 at_:∀x∈rw,xs[x.1]? =jd (.tmp x.2.1)
 tree:∀x∈rw,zZ x.2.2/\wX x.2.2=jf/\ ∃u,E x.2.1=jd u/\x.2.2.single=u.single/\us[x.1]? =jd u
theorem zKo.nil{xs:List Operand}:zKo E d xs us []:=⟨by simp,by simp,by simp,by simp⟩
theorem zKo.one{i s:Nat}{xs:List Operand}(h1:d≠s)(h2:xs[i]? =jd (.tmp s))(h3:zZ u')(h4:u'.single=jf)(h5:wX u'=jf)(h6:E s=jd u)(h7:u.single=jf)(h8:us[i]? =jd u):
  zKo E d xs us [(i,s,u')]:=⟨by grind,by simp,by grind,by grind⟩
section
variable {P:Program}{Γ:Ctx}{E:Env}{o:Oper}{d:Nat}
theorem zQc{w:World}(g9:Rep Γ E G a.tmps w){xs:List Operand}(hr:zKo E d xs us rw){Sc:Stb}(ee:∀b x,Γ.St b=jd x->Sc b=jd x)
  (ef:∀r,r∉rw.map (·.2.1)-> ∀b,(∃y,G.ow b=jd (r,y))->Sc b=w.heap[b]?){i:Nat}(hx:xs[i]? =jd x)(hu:us[i]? =jd u)(h:zAZ E rw i x u):
  a.eval x=mkV (G.arg a xs rw) i u []/\R Sc (G.arg a xs rw) w i u []:=by
 rcases h with⟨s,u',rfl,h1,h2,h3,h4,h5⟩|⟨t,h1,rfl,h3⟩
 ·obtain⟨e1,e2,_⟩:=g9.ent s u h2
  have gE:∀z,(G.arg a xs rw).hd i z=G.hd s z:=by grind[Gh.arg]
  have eO:∀z,(G.arg a xs rw).ad i z=G.ad s z:=by grind[Gh.arg]
  have hi:=zCe rw (L8.1 hr.nodup).2 h1;refine⟨by grind[xU,zEY],?_⟩;refine zNZ u [] h5 (jM (St:=Γ.St) (G:=G) (w:=w) (s:=s) (p:=[]) ⟨⟨by grind,by grind,fun b o' f' z _ gV hl=>?_,fun b z _ hl=>?_,fun b cs e h=>⟨cs,h,rfl⟩⟩,fun b o' gV hl=>?_,fun b hl=>?_⟩ u (by grind[yU.mono]) e2)
  ·obtain⟨y,hy⟩:=gV
   exact⟨by grind[Gh.arg],rfl⟩
  ·grind[Gh.arg]
  ·obtain⟨y,hy⟩:=gV
   exact⟨by grind[Gh.arg],rfl⟩
  grind[Gh.arg]
 ·cases x with
  |tmp s=>
   have gE:∀z,(G.arg a xs rw).hd i z=G.hd s z:=by grind[Gh.arg]
   obtain⟨e1,e2,_⟩:=g9.ent s t h1
   grind[zIV,xU,zKn,zZh]
  |const v=>
   simp only[opT]at h1;split at h1
   ·rename_i gk
    simp at h1;subst h1;have gE:(G.arg a xs rw).hd i []=v:=by grind[Gh.arg,Act.eval,jO]
    exact⟨by grind[clo,mkV,Act.eval],by simp[clo,R,gE]⟩
   ·cases h1
  |func f=>
   simp only[opT]at h1;simp at h1;subst h1;have gE:(G.arg a xs rw).hd i []=.func (.func f) #[] #[]:=by grind[Gh.arg,Act.eval,jB,Value.oneCell']
   exact⟨by grind[clo,mkV,Act.eval],by simp[clo,R,gE]⟩
  |global g=>grind[opT]
theorem zCJ{E:Env}:(t:T)->t.flat=jf->(∀rs s,sT E rs s t=jf)/\clo E t=t
 |.lit _,_|.ro _,_=>by simp[sT,clo]
 |.agg ts,h=>by
  simp only[T.flat]at h;have:=go ts h
  grind[sT,clo]
 |.any,h|.same _ _,h|.addr _ _,h|.sub _ _ _ _ _,h|.sl _ _,h|.ptr _,h|.tup _,h=>by grind[T.flat]
where go:(ts:List T)->kS ts=jf->(∀rs s,zAk E rs s ts=jf)/\zAY E ts=ts
 | [],_=>by simp[zAk,zAY]
 |x::xs,h=>by simp only[kS,J4]at h;simp only[zAk,zAY,J4];exact⟨fun rs s=>⟨(zCJ x h.1).1 rs s,(go xs h.2).1 rs s⟩,by rw[(zCJ x h.1).2,(go xs h.2).2]⟩
theorem zEj{w:World}{K:Act->World->Prop}{Q:Exit->Act->World->Prop}{f:FuncId}{xf:Operand}{xs:List Operand}(ho:o.op=.call { callee:=.value xf,args:=xs.toArray,argTypes:=ats })(gg:o.dst=jd d)
  (gn:∀args w,(callFunc f args).run P w=.ok (.enter f args) w)(hf:a.eval xf=.func (.func f) #[] #[])
  (h:Calls P f (xs.map a.eval).toArray w fun e w'=> ∃v,e=.returned v/\K (a.put (jd d) v) w'):o.wp P a w K Q:=by
 have gx:(execOp a.eval o).run P w=.ok (.enter f (xs.map a.eval).toArray) w:=by simp[execOp,ho,resolve,hf,Deferred.ofValue,invoke,gn]
 unfold Oper.wp;rw[gx,Oper.upon_enter];refine h.mono ?_
 grind
theorem zLL{w:World}(g9:Rep Γ E G a.tmps w)(hd:d<Γ.N)(f:FuncId)(xs:List Operand)(us res:List T)(rw:Rw)
  (hc:FnC P f us res (rw.map fun x=>(x.1,x.2.2)))(gj:xJ E rw 0 xs us)(hr:zKo E d xs us rw)(gw:yZ res/\yM res=jf/\vT res=jf):
  Calls P f (xs.map a.eval).toArray w fun e w'=> ∃v,e=.returned v/\ ∃S G',zBU Γ.St S Γ.W Γ.w0.heap.size/\sL (uA d rw) G w G' w'/\Rep (Γ.at S) (E.app (cWr d res rw) (uA d rw)) G' (a.tmps.setIfInBounds d v) w':=by
 classical
 have hm:=g9.mem
 let Sc:Stb:=fun b=>if zAl G rw b then je else w.heap[b]?
 have ee:∀b x,Γ.St b=jd x->Sc b=jd x:=fun b x hx=>by
  have h3:¬zAl G rw b:=by
   rintro⟨s,z,h4,_⟩
   rw[(hm.ow b _ h4).2.2]at hx;cases hx
  simp only[Sc,h3,if_false];exact hm.st b x hx
 have ef:∀r,r∉rw.map (·.2.1)-> ∀b,(∃y,G.ow b=jd (r,y))->Sc b=w.heap[b]?:=fun r bY b ⟨y,hy⟩=>by
  have h3:¬zAl G rw b:=by
   rintro⟨s,z,h4,h5⟩
   grind
  grind
 have fM:∀(us:List T),yZ us/\yM us=jf/\vT us=jf-> ∀u∈us,zZ u/\u.okTup=jf/\wX u=jf:=by
  intro us
  induction us with
  |nil=>simp
  |cons v us ih=>
   intro⟨h1,h2,h3⟩ u hu;simp only[yM,vT,J4]at h2 h3;rcases J9.1 hu with rfl|hu
   ·exact⟨h1.1,h2.1,h3.1⟩
   ·exact ih ⟨h1.2,h2.2,h3.2⟩ u hu
 exact zEi g9 hd (Sc:=Sc) (rw:=rw) (by grind) ee hc (xJ.length xs us 0 gj) (fun i u hu=>by
   obtain⟨x,h1,h2⟩:=xJ.get xs us 0 gj i u hu;rw[Ji]at h2
   grind[zQc]) hr.nodup hr.nodup2 hr.at_
  (by grind[zNZ])
  (fun x hx=>by
   obtain⟨h1,h3,h4⟩:=hr.tree x hx
   grind[zNZ])
theorem zKp(f:FuncId)(xf:Operand)(xs:List Operand)(ats:Array TypeId)(us res:List T)(rw:Rw)(ho:o.op=.call { callee:=.value xf,args:=xs.toArray,argTypes:=ats })(gg:o.dst=jd d)(hd:d<Γ.N)
  (gn:∀args w,(callFunc f args).run P w=.ok (.enter f args) w)(hf:opT E xf=jd (.lit (.func (.func f) #[] #[])))
  (hc:FnC P f us res (rw.map fun x=>(x.1,x.2.2)))(gj:xJ E rw 0 xs us)(hr:zKo E d xs us rw)(gw:yZ res/\yM res=jf/\vT res=jf):
  xX P Γ o E (E.app (cWr d res rw) (uA d rw)):=by
 intro a w K Q ⟨gJ,G,g9⟩ hK;refine zEj ho gg gn (xW g9 hf).1 ?_;refine(zLL g9 hd f xs us res rw hc gj hr gw).mono ?_
 rintro e w' ⟨v,rfl,S,G',hS,_,gm⟩
 exact⟨v,rfl,hK _ _ ⟨S,hS,gJ,G',gm⟩⟩
theorem zLM(f:FuncId)(xf:Operand)(xs:List Operand)(ats:Array TypeId)(us res:List T)(i ds r:Nat)(q:List Nat)(tr u u':T)(ho:o.op=.call { callee:=.value xf,args:=xs.toArray,argTypes:=ats })(gg:o.dst=jd d)(hd:d<Γ.N)
  (gn:∀args w,(callFunc f args).run P w=.ok (.enter f args) w)(hf:opT E xf=jd (.lit (.func (.func f) #[] #[])))
  (hs:E ds=jd (.same r q))(hr:E r=jd tr)(hq:tr.get q.reverse=jd u)(hu:u.single=jf)(fb:zZ u)(gX:ds≠r)(hdr2:d≠r)(gz:tr.okB [(ds,1),(r,q.length+1)]=jf)(ph:wO tr=jf)
  (E1 E2:Env)(bG:E1=E.app [(ds,jd u),(r,jd (if q=[]then .same ds []else tr.set q.reverse .any))] [(ds,1),(r,q.length+1)])(gN:E2=E1.app (cWr d res [(i,ds,u')]) (uA d [(i,ds,u')]))
  (hc:FnC P f us res [(i,u')])(gj:xJ E1 [(i,ds,u')] 0 xs us)(cK:zKo E1 d xs us [(i,ds,u')])(gw:yZ res/\yM res=jf/\vT res=jf)
  (tr2 v0:T)(pZ:E2 r=jd tr2)(uz:tr2.get q.reverse=jd v0)(ac:v0.single=jf)(av:E2 ds=jd u')(eT:zZ u')(fq:u'.single=jf)(m9:tr2.okB [(r,q.length+1),(ds,1)]=jf)(hc3:wO tr2=jf)(hok3:u'.okB [(r,q.length+1),(ds,1)]=jf)(hc4:wO u'=jf):
  xX P Γ o E (E2.app [(r,jd (tr2.set q.reverse u')),(ds,jd (.same r q))] [(r,q.length+1),(ds,1)]):=by
 have be:cLv u'=1:=by grind[cLv]
 intro a w K Q ⟨gJ,G,g9⟩ hK;refine zEj ho gg gn (xW g9 hf).1 ?_;have gP:G.hd ds []=G.hd r q:=by have:=(g9.ent ds _ hs).2.1;simpa only[R]using this
 obtain⟨cD,iD⟩:=zGR g9 ds [] r q (.same r q) tr u (.same r q) hs rfl rfl gP hr hq hu fb gX (by grind[T.okB,kR]) (by omega) rfl ph;have jc:E.app [(ds,jd ((T.same r q).set [].reverse u)),(r,jd (if q=[]then .same ds []else tr.set q.reverse .any))] [(ds,([]:List Nat).length+1),(r,q.length+1)]=E1:=by rw[bG];rfl
 rw[jc]at cD;refine(zLL cD hd f xs us res [(i,ds,u')] hc gj cK gw).mono ?_
 rintro e w' ⟨v,rfl,S,G',hS,hk,gm⟩
 rw[<-gN]at gm;have hdds:d≠ds:=by have:=cK.nodup;grind
 have h1:G'.hd r q=(G.tr ds [] r q).hd r q:=hk.hd r q (fun n hn=>by grind[uA]);have h2:G'.hd ds []=(G.tr ds [] r q).hd ds []:=hk.hd ds [] (fun n hn=>by grind[uA]);have fU:G'.hd r q=G'.hd ds []:=by grind
 obtain⟨cC,_⟩:=zGR gm r q ds [] tr2 u' u' v0 pZ uz ac fU av rfl fq eT (Ne.symm gX) (by omega) (by omega) hc3 hc4;refine⟨v,rfl,hK _ _ ⟨S,hS,gJ,G'.tr r q ds [],?_⟩⟩;have hw:(if([]:List Nat)=[]then T.same r q else u'.set ([]:List Nat).reverse .any)=T.same r q:=if_pos rfl;rw[hw]at cC;exact cC
theorem zT0(f:FuncId)(xf:Operand)(xs:List Operand)(ats:Array TypeId)(us res:List T)(ho:o.op=.call { callee:=.value xf,args:=xs.toArray,argTypes:=ats })(gg:o.dst=jd d)(hd:d<Γ.N)
  (gn:∀args w,(callFunc f args).run P w=.ok (.enter f args) w)(hf:opT E xf=jd (.lit (.func (.func f) #[] #[])))
  (hc:FnC P f us res [])(gf:xs.length=us.length)(gj:∀(i:Nat) u,us[i]? =jd u-> ∃x,xs[i]? =jd x/\opT E x=jd u/\u.flat=jf)(gw:yZ res/\yM res=jf):
  xX P Γ o E (E.app (cWr d res []) (uA d [])):=by
 intro a w K Q ⟨gJ,G,g9⟩ hK;have hm:=g9.mem;refine zEj ho gg gn (xW g9 hf).1 ?_;have cH:∀b,¬zAl G [] b:=by rintro b ⟨s,z,_,h⟩;simp at h
 have fM:∀(us:List T),yZ us/\yM us=jf-> ∀u∈us,zZ u/\u.okTup=jf:=by
  intro us
  induction us with
  |nil=>simp
  |cons v us ih=>
   intro⟨h1,h2⟩ u hu;simp only[yM,J4]at h2;rcases J9.1 hu with rfl|hu
   ·exact⟨h1.1,h2.1⟩
   ·exact ih ⟨h1.2,h2.2⟩ u hu
 have:=zEi g9 hd (Sc:=Γ.St) (rw:=[]) (fun b x hx=>⟨hm.st b x hx,cH b⟩) (fun _ _ h=>h) hc gf (fun i u hu=>by
   obtain⟨x,h1,h2,h3⟩:=gj i u hu;refine⟨x,h1,?_⟩;have bq:=zCJ (E:=E) u h3;cases x with
   |tmp s=>
    have gE:∀z,(G.arg a xs []).hd i z=G.hd s z:=by grind[Gh.arg]
    obtain⟨e1,e2,_⟩:=g9.ent s u h2;refine⟨?_,by grind[zKi]⟩;have:=zKn (E:=E) gE u (bq.1 [] s)
    grind[xU]
   |const v=>
    simp only[opT]at h2;split at h2
    ·rename_i gk
     simp at h2;subst h2;have gE:(G.arg a xs []).hd i []=v:=by grind[Gh.arg,Act.eval,jO]
     exact⟨by grind[mkV,Act.eval],by simp[R,gE]⟩
    ·cases h2
   |func f=>
    simp only[opT]at h2;simp at h2;subst h2;have gE:(G.arg a xs []).hd i []=.func (.func f) #[] #[]:=by grind[Gh.arg,Act.eval,jB,Value.oneCell']
    exact⟨by grind[mkV,Act.eval],by simp[R,gE]⟩
   |global g=>grind[opT]) (by simp) (by simp) (by simp)
  (fun u hu=>⟨by grind,by grind,fun S' G w s p hS h=>by
   have:aft Γ.St Γ.St S'=S':=funext (by grind[aft])
   grind⟩) (by simp)
 refine this.mono ?_
 rintro e w' ⟨v,rfl,S,G',hS,_,gm⟩
 exact⟨v,rfl,hK _ _ ⟨S,hS,gJ,G',gm⟩⟩
end
def vU:List (Nat×T)->Env
 | [],_=>je
 |(k,t)::l,s=>if k=s then jd t else vU l s
def Env.Has(E:Env):List (Nat×T)->Prop
 | []=>True
 |(s,t)::l=>E s=jd t/\E.Has l
theorem Env.Has.le:{l:List (Nat×T)}->E.Has l-> ∀s t,vU l s=jd t->E s=jd t
 | [],_,s,t,h=>by grind[vU]
 |(k,u)::l,hh,s,t,h=>by
  simp only[vU]at h;split at h
  ·rename_i e
   subst e;rw[hh.1];exact h
  ·exact hh.2.le s t h
theorem Sim.weaken{w:World}(h:Sim Γ E a w)(fd:∀s t,E' s=jd t->E s=jd t):Sim Γ E' a w:=by obtain⟨h1,G,h2⟩:=h;exact⟨h1,G,⟨h2.size,fun s t hs=>h2.ent s t (fd s t hs),h2.mem⟩⟩
theorem qI.weaken{w:World}(h:qI Γ E a w)(fd:∀s t,E' s=jd t->E s=jd t):qI Γ E' a w:=by obtain⟨S,h1,h2⟩:=h;exact⟨S,h1,h2.weaken fd⟩
abbrev sF:=List (Nat×Value)
def sF.Hold(pn:sF)(a:Act):Prop:=∀x∈pn,a.tmps[x.1]? =jd x.2
def sF.ok(pn:sF)(d:Option Nat):Bool:=match d with
 |none=>jf
 |some d=>pn.all fun x=>x.1 != d
theorem Oper.wp_frame{o:Oper}{w:World}{K:Act->World->Prop}{Q:Exit->Act->World->Prop}(h:o.wp P a w K Q):
  o.wp P a w (fun a' w'=>K a' w'/\ ∀s,o.dst≠jd s->a'.tmps[s]? =a.tmps[s]?) Q:=by
 have key:∀(v:Value)(ds:List Deferred),∀s,o.dst≠jd s->(({ a with defers:=ds }:Act).put o.dst v).tmps[s]? =a.tmps[s]?:=by
  intro v ds s hs;cases hd:o.dst with
  |none=>rfl
  |some d=>
   grind[Act.put]
 have key0:∀(v:Value),∀s,o.dst≠jd s->(a.put o.dst v).tmps[s]? =a.tmps[s]?:=fun v=>key v a.defers
 unfold Oper.wp at*
 generalize (execOp a.eval o).run P w=r at*
 cases r with
 |ok n w'=>
  cases n<;>simp only[Oper.upon]at h ⊢
  all_goals grind
 |halt x w'=>cases x<;>simp only[Oper.upon]at h ⊢ <;>exact h
theorem sF.Hold.frame{pn:sF}{a':Act}{d:Option Nat}(h:pn.Hold a)(gz:pn.ok d=jf)(hf:∀s,d≠jd s->a'.tmps[s]? =a.tmps[s]?):pn.Hold a':=by
 intro x hx;rw[hf x.1 ?_]
 ·exact h x hx
 ·rintro rfl
  have:=Ki.1 gz x hx
  grind
section
variable (P:Program) (Γ:Ctx) (pn:sF)
def CW(c:Code)(E:Env)(Q:Exit->Env->Prop):Prop:=
 ∀(a:Act)(w:World)(Q':Exit->Act->World->Prop),qI Γ E a w->pn.Hold a->(∀e E' a' w',Q e E'->qI Γ E' a' w'->pn.Hold a'->Q' e a' w')->c.wp P Q' a w
def wI(ops:Array Oper)(o:Oper)(E E':Env):Prop:=
 ∀(a:Act)(w:World)(K:Act->World->Prop)(Q:Exit->Act->World->Prop),qI Γ E a w->(∀a' w',qI Γ E' a' w'->(∀s,o.dst≠jd s->a'.tmps[s]? =a.tmps[s]?)->K a' w')->
  if Region.wanted o (yielded ops a.tmps)then o.wp P a w K Q\/(o.asks P a w/\LetsOut Q)else K (a.put o.dst undef) w
def wpL(ops:Array Oper)(Q:Exit->Act->World->Prop):List Oper->Act->World->Prop
 | [],a,w=>Q .normal a w
 |o::os,a,w=>if Region.wanted o (yielded ops a.tmps)then o.wp P a w (wpL ops Q os) Q\/(o.asks P a w/\LetsOut Q)else wpL ops Q os (a.put o.dst undef) w
def RW(ops:Array Oper)(os:List Oper)(E:Env)(Q:Exit->Env->Prop):Prop:=
 ∀(a:Act)(w:World)(Q':Exit->Act->World->Prop),qI Γ E a w->pn.Hold a->(∀e E' a' w',Q e E'->qI Γ E' a' w'->pn.Hold a'->Q' e a' w')->wpL P ops Q' os a w
end
section
variable {P:Program}{Γ:Ctx}{pn:sF}{E E':Env}{Q Q1:Exit->Env->Prop}{c c1 c2:Code}{ops:Array Oper}{o:Oper}{os:List Oper}{d:Nat}
theorem zKq{Q':Exit->Act->World->Prop}:∀(os:List Oper)(n:Nat)(a:Act)(w:World),ops.toList.drop n=os->wpL P ops Q' os a w->wpOps P ops Q' (K7 n os.length) a w
 | [],n,a,w,_,h=>by simpa[wpOps,wpL]using h
 |o::os,n,a,w,hd,h=>by
  have ho:ops[n]? =jd o:=by
   have:=congrArg (·[0]?) hd
   grind
  have mL:ops.toList.drop (n+1)=os:=by
   have:=congrArg List.tail hd
   grind[List.tail_drop]
  simp only[J7,Ho,wpOps,ho];simp only[wpL]at h;split
  ·rename_i hw
   simp only[hw,if_true]at h;exact h.imp (Oper.wp_mono fun a w=>zKq os (n+1) a w mL) id
  ·rename_i hw
   simp only[hw]at h;exact zKq os (n+1) _ w mL h
theorem CW.region(h:RW P Γ pn ops ops.toList E Q):CW P Γ pn (.region id ops jg) E Q:=by
 intro a w Q' hs hp hQ;refine wp_region ?_;have:=zKq (P:=P) ops.toList 0 a w (by simp) (h a w Q' hs hp hQ)
 grind[Ku]
theorem RW.nil(h:Q .normal E):RW P Γ pn ops [] E Q:=fun a w Q' hs hp hQ=>by
 simp only[wpL]
 grind
theorem RW.cons(h1:wI P Γ ops o E E')(h3:RW P Γ pn ops os E' Q)(h2:pn.ok o.dst=jf:=by rfl):RW P Γ pn ops (o::os) E Q:=by
 intro a w Q' hs hp hQ;simp only[wpL];have:=h1 a w (wpL P ops Q' os) Q' hs fun a' w' gF hf=>h3 a' w' Q' gF (hp.frame h2 hf) hQ
 exact this
theorem wI.op(h:∀S,xX P (Γ.at S) o E E')(hg:o.guard=je:=by rfl):wI P Γ ops o E E':=by
 intro a w K Q hs hK;have hw:Region.wanted o (yielded ops a.tmps)=jf:=by simp[Region.wanted,hg]
 rw[if_pos hw];refine .inl ?_;obtain⟨S,hS,hs⟩:=hs;have:=Oper.wp_frame (h S a w (fun a' w'=>qI Γ E' a' w') Q hs fun a' w' h=>h.up hS)
 grind[Oper.wp_mono]
theorem zGZ{w:World}(hs:qI Γ E a w){g s:Nat}{b:Bool}(fm:(ops[g]?).bind (·.dst)=jd s)(h:E s=jd (.lit (.bool b))):yielded ops a.tmps g=jd b:=by
 obtain⟨_,_,_,G,hr⟩:=hs;obtain⟨h1,h2,_⟩:=hr.ent s _ h;simp only[R]at h2
 grind[yielded,mkV]
theorem wI.guard(g:Nat)(b:Bool)(s:Nat)(h:∀S,xX P (Γ.at S) o E E')(hg:o.guard=jd (g,b):=by rfl)(fm:(ops[g]?).bind (·.dst)=jd s:=by rfl)(hb:E s=jd (.lit (.bool b)):=by rfl):wI P Γ ops o E E':=by
 intro a w K Q hs hK;have hw:Region.wanted o (yielded ops a.tmps)=jf:=by grind[Region.wanted,zGZ]
 rw[if_pos hw];refine .inl ?_;obtain⟨S,hS,hs⟩:=hs;have:=Oper.wp_frame (h S a w (fun a' w'=>qI Γ E' a' w') Q hs fun a' w' h=>h.up hS)
 grind[Oper.wp_mono]
def zQ(Γ:Ctx)(E E':Env):Prop:=∀(a:Act)(w:World),qI Γ E a w->qI Γ E' a w
theorem zQ.refl:zQ Γ E E:=fun _ _ h=>h
theorem zQ.trans{E2 E3:Env}(h:zQ Γ E1 E2)(h':zQ Γ E2 E3):zQ Γ E1 E3:=fun a w hs=>h' a w (h a w hs)
theorem zQ.has{l:List (Nat×T)}(h:E.Has l):zQ Γ E (vU l):=fun _ _ hs=>hs.weaken h.le
theorem CW.ghost(h1:zQ Γ E E')(h:CW P Γ pn c E' Q):CW P Γ pn c E Q:=fun a w Q' hs=>h a w Q' (h1 a w hs)
theorem RW.ghost(h1:zQ Γ E E')(h:RW P Γ pn ops os E' Q):RW P Γ pn ops os E Q:=fun a w Q' hs=>h a w Q' (h1 a w hs)
theorem CW.to(l:List (Nat×T))(h1:E.Has l)(h:CW P Γ pn c (vU l) Q):CW P Γ pn c E Q:=h.ghost (.has h1)
theorem CW.mono(h:CW P Γ pn c E Q1)(hq:∀e E',Q1 e E'->Q e E'):CW P Γ pn c E Q:=fun a w Q' hs hp hQ=>h a w Q' hs hp (by grind)
theorem CW.skip(h:Q .normal E):CW P Γ pn .skip E Q:=fun _ _ _ hs hp hQ=>by grind[wp_skip]
theorem CW.ret(h:Q .ret E):CW P Γ pn .ret E Q:=fun _ _ _ hs hp hQ=>by grind[wp_ret]
theorem CW.exit(h:Q (.exit id) E):CW P Γ pn (.exit id) E Q:=fun _ _ _ hs hp hQ=>by grind[wp_exit]
def yQ(P:Program)(Γ:Ctx)(pn:sF)(c:Code)(Q:Exit->Env->Prop):Exit->Env->Prop
 |.normal,E=>CW P Γ pn c E Q
 |e,E=>Q e E
theorem CW.seq(h:CW P Γ pn c1 E (yQ P Γ pn c2 Q)):CW P Γ pn (.seq c1 c2) E Q:=by
 intro a w Q' hs hp hQ;refine wp_seq (h a w _ hs hp fun e E' a' w' h1 gF cO=>?_);cases e with
 |normal=>exact h1 a' w' Q' gF cO hQ
 |_=>exact hQ _ _ _ _ h1 gF cO
theorem CW.cond(b:Bool)(hb:opT E x=jd (.lit (.bool b)))(ht:b=jf->CW P Γ pn c1 E Q)(hf:b=jg->CW P Γ pn c2 E Q):CW P Γ pn (.cond x c1 c2) E Q:=by intro a w Q' hs hp hQ;obtain⟨_,_,_,G,hr⟩:=id hs;refine wp_cond_split (xW hr hb).1 (fun h=>ht h a w Q' hs hp hQ) (fun h=>hf h a w Q' hs hp hQ)
def yT(id:Nat)(Q:Exit->Env->Prop):Exit->Env->Prop
 |.exit id',E=>if id'=id then Q .normal E else Q (.exit id') E
 |e,E=>Q e E
theorem CW.block(h:CW P Γ pn c E (yT id Q)):CW P Γ pn (.block id c) E Q:=by
 intro a w Q' hs hp hQ;refine wp_block (h a w _ hs hp fun e E' a' w' h1 gF cO=>?_);cases e with
 |exit id'=>
  simp only[yT]at h1;simp only[Exit.inBlock]
  grind
 |_=>exact hQ _ _ _ _ h1 gF cO
end
def qW{σ ρ:Type}(body:σ->Option (σ⊕ρ)):Nat->σ->Option ρ
 |0,_=>je
 |n+1,s=>match body s with
  |none=>je
  |some (.inl s')=>qW body n s'
  |some (.inr r)=>jd r
theorem zHa{σ ρ:Type}{body:σ->Option (σ⊕ρ)}{r:ρ}:∀{n m:Nat}{s:σ},qW body n s=jd r->n<=m->qW body m s=jd r
 |0,_,_,h,_=>by grind[qW]
 |n+1,0,_,_,hm=>by omega
 |n+1,m+1,s,h,hm=>by
  simp only[qW]at h ⊢
  cases hb:body s with
  |none=>grind
  |some x=>
   cases x with
   |inl s'=>simp only[hb]at h ⊢;exact zHa h (by omega)
   |inr r'=>grind
open Classical in
noncomputable def zG {σ ρ:Type} (body:σ->Option (σ⊕ρ)) (s:σ):Option ρ:=
 if h:∃(n:Nat)(r:ρ),qW body n s=jd r then jd h.choose_spec.choose else je
theorem zD9{σ ρ:Type}{body:σ->Option (σ⊕ρ)}{s:σ}{r:ρ}:zG body s=jd r↔ ∃n,qW body n s=jd r:=by
 unfold zG;constructor
 ·intro h
  split at h
  all_goals grind
 ·rintro⟨n,hn⟩
  have he:∃(n:Nat)(r:ρ),qW body n s=jd r:=⟨n,r,hn⟩;rw[dif_pos he]
  grind[zHa]
theorem yP(body:σ->Option (σ⊕ρ))(s:σ):zG body s=match body s with
  |none=>je
  |some (.inl s')=>zG body s'
  |some (.inr r)=>jd r:=by
 apply Option.ext;intro r;rw[zD9];cases hb:body s with
 |none=>
  simp only[reduceCtorEq,iff_false]
  rintro⟨n,hn⟩
  cases n<;>simp[qW,hb]at hn
 |some x=>
  cases x with
  |inl s'=>
   simp only[];rw[zD9];constructor
   ·rintro⟨n,hn⟩
    cases n with
    |zero=>grind[qW]
    |succ n=>grind[qW]
   ·rintro⟨n,hn⟩
    exact⟨n+1,by grind[qW]⟩
  |inr r'=>
   simp only[Hm.injEq];constructor
   ·rintro⟨n,hn⟩
    cases n with
    |zero=>grind[qW]
    |succ n=>grind[qW]
   ·rintro rfl
    exact⟨1,by simp[qW,hb]⟩
section
variable {P:Program}{Γ:Ctx}{pn:sF}{E:Env}{Q:Exit->Env->Prop}{c:Code}
def wF{σ ρ:Type}(Γ:Ctx)(en:σ->Env)(Q:ρ->Exit->Env->Prop)(x:σ⊕ρ):Exit->Env->Prop:=fun e E'=>
 match x with
 |.inl s'=>e=.normal/\zQ Γ E' (en s')
 |.inr r=>e≠.normal/\Q r e E'
theorem zDk{p:Nat->Prop}(h:∃m,p m):∃m,p m/\ ∀k,k<m-> ¬p k:=by
 refine Classical.byContradiction fun hn=>?_
 have key:∀n,∀k,k<n-> ¬p k:=by
  intro n
  induction n with
  |zero=>simp
  |succ n ih=>
   grind
 grind
theorem CW.loop(body:σ->Option (σ⊕ρ))(en:σ->Env)(Q:ρ->Exit->Env->Prop)(h:∀s x,body s=jd x->CW P Γ pn c (en s) (wF Γ en Q x)){s:σ}{r:ρ}(hr:zG body s=jd r):
  CW P Γ pn (.loop c) (en s) (Q r):=by
 classical
 intro a w Q' hs hp hQ
 let p:Act->World->Nat->Prop:=fun a w m=> ∃s,qW body m s=jd r/\qI Γ (en s) a w/\pn.Hold a
 let μ:Act->World->Nat:=fun a w=>if h:∃m,p a w m then(zDk h).choose else 0
 obtain⟨n,hn⟩:=zD9.1 hr;refine wp_loop (fun a w=> ∃m,p a w m) μ (by grind) ?_;intro a w pe;have hμ:μ a w=(zDk pe).choose:=dif_pos pe;obtain⟨s,h1,h2,h3⟩:=(zDk pe).choose_spec.1;have fc:=(zDk pe).choose_spec.2;rw[<-hμ]at h1;cases hm:μ a w with
 |zero=>grind[qW]
 |succ k=>
  rw[hm]at h1;simp only[qW]at h1;cases hb:body s with
  |none=>grind
  |some x=>
   refine h s x hb a w _ h2 h3 fun e E' a' w' hq gF cO=>?_
   cases x with
   |inl s'=>
    simp only[hb]at h1;obtain⟨rfl,hg⟩:=hq;have m8:p a' w' k:=⟨s',h1,hg a' w' gF,cO⟩;refine⟨⟨k,m8⟩,?_⟩;have hex':∃m,p a' w' m:=⟨k,m8⟩
    grind
   |inr r'=>
    simp only[hb]at h1;have:r'=r:=by grind
    subst this;obtain⟨gc,hq⟩:=hq;have:=hQ e E' a' w' hq gF cO;cases e with
    |normal=>grind
    |_=>exact this
end
abbrev Nds:=List (Nat×List Nat×T)
def ROk(P:Program)(E:Env):ResultVar->(Nat×List Nat×T)->Prop
 |.tmp s,x=>x.1=s/\x.2.1=[]/\E s=jd x.2.2/\x.2.2.okTup=jf
 |.cell a T,x=>x.1=a/\x.2.1=[0]/\E a=jd (.ptr x.2.2)/\ ∃ds ti,P.underlying T=jd ds/\P.info? T=jd ti/\zEZ ds= !x.2.2.single/\ti.size=x.2.2.size
def zR1(P:Program)(E:Env):List ResultVar->Nds->Prop
 | [],[]=>True
 |x::xs,y::ys=>ROk P E x y/\zR1 P E xs ys
 |_,_=>False
def LOk(E:Env)(us:List T):List (Nat×T)->Prop
 | []=>True
 |(i,u')::l=>(E i=jd u'/\ ∃u,us[i]? =jd u)/\LOk E us l
def yCj(P:Program)(rs:Array ResultVar)(us res:List T)(rws:List (Nat×T)):Exit->Env->Prop:=fun e E=>
 (e=.ret\/e=.normal)/\ ∃nd:Nds,zR1 P E rs.toList nd/\nd.map (·.2.2)=res/\(∀x∈nd,us.length<=x.1)/\(nd.map (·.1)).Nodup/\LOk E us rws
def zCf(v:Nat->Value)(is:List Nat):sF:=is.map fun i=>(i,v i)
def zI3:Nat->List T->List (Nat×T)
 |_,[]=>[]
 |i,u::us=>(i,u)::zI3 (i+1) us
theorem zLN:∀(us:List T)(i s:Nat)(t:T),vU (zI3 i us) s=jd t->i<=s/\us[s-i]? =jd t
 | [],i,s,t,h=>by grind[zI3,vU]
 |u::us,i,s,t,h=>by
  simp only[zI3,vU]at h;split at h
  ·grind
  ·rename_i e
   obtain⟨h1,h2⟩:=zLN us (i+1) s t h
   grind
def zT1(tmps:Array Value):ResultVar->Sem Value
 |.tmp t=>pure (tmps.getD t undef)
 |.cell a t=>do loadVar t (<-asAddr (tmps.getD a undef))
theorem zOa(fn:Func)(tmps:Array Value):results fn tmps=(do
  let vs <-fn.results.mapM (zT1 tmps)
  pure (if h:vs.size=1 then vs[0]else .tuple vs)):=rfl
theorem uI.get:(xs:List T)->uI xs-> ∀(i:Nat)(x:T),xs[i]? =jd x->Top x
 | [],_,i,x,h=>by simp at h
 |y::ys,ht,i,x,h=>by
  simp only[uI]at ht;cases i with
  |zero=>simp at h;subst h;exact ht.1
  |succ i=>exact uI.get ys ht.2 i x (by simpa using h)
theorem LOk.get{E:Env}{us:List T}:(l:List (Nat×T))->LOk E us l-> ∀i u',(i,u')∈l->E i=jd u'/\ ∃u,us[i]? =jd u
 | [],_,_,_,h=>by simp at h
 |x::l,h,i,u',hm=>by
  rcases J9.1 hm with rfl|hm
  ·exact h.1
  ·exact LOk.get l h.2 i u' hm
theorem yEx{w:World}(g9:Rep Γ E G tmps w)(x:ResultVar)(s:Nat)(q:List Nat)(t:T)(h:ROk P E x (s,q,t)):
  (zT1 tmps x).run P w=.ok (sB G s t q) w/\R Γ.St G w s t q:=by
 cases x with
 |tmp s'=>
  obtain⟨h0,cW,h1,h2⟩:=h;dsimp only at h0 cW h1 h2;subst h0 cW;obtain⟨g1,g2,_⟩:=g9.ent _ _ h1;have hJ:∀xs,t≠.tup xs:=by rintro xs rfl;grind[T.okTup]
  refine⟨?_,g2⟩;rw[<-jV G s t [] hJ];simp[zT1,Km,g1]
 |cell a T'=>
  obtain⟨h0,cW,h1,ds,ti,h2,h3,h4,h5⟩:=h;dsimp only at h0 cW h1 h4 h5;subst h0 cW;obtain⟨g1,g2,_⟩:=g9.ent _ _ h1;simp only[R]at g2;obtain⟨b,cs,e,k1,k2,k3,k4,k5,k6⟩:=g2;refine⟨?_,k6⟩;rw[yV rfl,k1]at g1;have h6:=zFK (w:=w) h2 h3 k5 h4 h5;simp[zT1,Km,g1,asAddr,h6]
theorem zFR{P:Program}{Γ:Ctx}{E:Env}{G:Gh}{tmps:Array Value}{w:World}(g9:Rep Γ E G tmps w):(rs:List ResultVar)->(nd:Nds)->zR1 P E rs nd->
  (rs.mapM (zT1 tmps)).run P w=.ok (nd.map fun x=>sB G x.1 x.2.2 x.2.1) w/\ ∀x∈nd,R Γ.St G w x.1 x.2.2 x.2.1
 | [],[],_=>by simp
 |x::xs,y::ys,h=>by
  obtain⟨h1,h2⟩:=zFR g9 xs ys h.2;obtain⟨h3,h4⟩:=yEx g9 x y.1 y.2.1 y.2.2 h.1
  simp_all
 | [],_::_,h=>by simp[zR1]at h
 |_::_,[],h=>by simp[zR1]at h
theorem FnC.of_body{f:FuncId}{res:List T}(hf:P.funcs[f]? =jd fn)(hb:fn.body=jd c)(hn:us.length<=fn.ntmps)(ht:uI us)(hr:rws.all (fun x=>decide (x.1<us.length))=jf)
  (h:∀(Γ:Ctx)(v:Nat->Value),Γ.N=fn.ntmps->CW P Γ (zCf v (rws.map (·.1))) c (vU (zI3 0 us)) (yCj P fn.results us res rws)):FnC P f us res rws:=by
 intro St W w G vs cX gj gp
 let Γ:Ctx:=⟨St,W,w,fn.ntmps⟩
 let v:Nat->Value:=fun i=>vs.getD i undef
 have hm:Mem Γ G w:=⟨gp.one,gp.lb,gp.ow,gp.st,gp.fr,gp.sz,gp.bk⟩;have gr:(vs++Ut (fn.ntmps-vs.size) undef).size=fn.ntmps:=by simp;omega
 have px:Sim Γ (vU (zI3 0 us)) { tmps:=vs++Ut (fn.ntmps-vs.size) undef,defers:=[] } w:=by
  refine⟨rfl,G,gr,?_,hm⟩;intro s t hs;obtain⟨_,h2⟩:=zLN us 0 s t hs;simp only[Nat.sub_zero]at h2;obtain⟨h3,h4⟩:=gj s t h2;have gC:s<vs.size:=by grind
  exact⟨by grind,h4,uI.get us ht s t h2⟩
 have ia:(zCf v (rws.map (·.1))).Hold { tmps:=vs++Ut (fn.ntmps-vs.size) undef,defers:=[] }:=by
  intro x hx;simp only[zCf,Jc]at hx;obtain⟨i,⟨y,hy,rfl⟩,rfl⟩:=hx;have h1:=Ki.1 hr y hy;simp at h1;have h2:y.1<vs.size:=by omega
  simp[Array.getElem?_append,h2,v]
 refine calls_of_wp hf hb (h Γ v rfl _ _ _ (.of px) ia ?_)
 rintro e E' a' w' ⟨he,nd,h1,h2,h3,h4,h5⟩ ⟨S',gW,gJ,G',g9⟩ hp
 obtain⟨g1,g2⟩:=zFR g9 _ _ h1;have gw:(results fn a'.tmps).run P w'=.ok (zLF G' nd) w':=by
  rw[zOa,Array.mapM_eq_mapM_toList];simp only[Sem.run_bind,Sem.run_map,g1];cases nd with
  |nil=>simp[zLF]
  |cons y ys=>
   cases ys with
   |nil=>simp[zLF]
   |cons z zs=>simp[zLF]
 have gO:Mem ⟨S',W,w,0⟩ G' w':=⟨g9.mem.one,g9.mem.lb,g9.mem.ow,g9.mem.st,g9.mem.fr,g9.mem.sz,g9.mem.bk⟩;have br:bodyPost P fn (fun e w'=> ∃(S':Stb)(G':Gh)(nd:List (Nat×List Nat×T)),zBU St S' W w.heap.size/\e=.returned (zLF G' nd)/\Mem ⟨S',W,w,0⟩ G' w'/\nd.map (·.2.2)=res/\
   (∀x∈nd,R S' G' w' x.1 x.2.2 x.2.1/\us.length<=x.1)/\(nd.map (·.1)).Nodup/\
   ∀i u',(i,u')∈rws->R S' G' w' i u' []/\ ∃u,us[i]? =jd u/\mkV G' i u' []=mkV G i u []) .ret a' w':=by
  refine⟨gJ,_,gw,S',G',nd,gW,rfl,gO,h2,by grind,h4,?_⟩;intro i u' hiu;obtain⟨k1,u,k3⟩:=LOk.get _ h5 i u' hiu;obtain⟨k5,k6,_⟩:=g9.ent i u' k1;refine⟨k6,u,k3,?_⟩;have k7:=hp (i,v i) (by simp only[zCf,Jc];grind);have k8:=(gj i u k3).1;rw[k5]at k7;simp[v,Km,k8]at k7;exact k7
 rcases he with rfl|rfl<;>exact br
mutual
def vR:T->T
 |.sl k xs=>.ro (strip (.sl k xs))
 |.ptr t=>.ro (strip (.ptr t))
 |.agg xs=>.agg (vN xs)
 |.tup xs=>.tup (vN xs)
 |.any=>.any
 |.lit v=>.lit v
 |.ro t=>.ro t
 |.same r p=>.same r p
 |.addr r p=>.addr r p
 |.sub r p k lo hi=>.sub r p k lo hi
def vN:List T->List T
 | []=>[]
 |x::xs=>vR x::vN xs
end
mutual
theorem zT2(G:Gh)(s:Nat):(t:T)-> ∀p,vals G s (vR t) p=vals G s t p
 |.agg xs,p=>by simp only[vR,vals];exact zCK G s xs p 0
 |.sl _ _,_|.ptr _,_|.tup _,_|.any,_|.lit _,_|.ro _,_|.same _ _,_|.addr _ _,_|.sub _ _ _ _ _,_=>by rfl
theorem zCK(G:Gh)(s:Nat):(xs:List T)-> ∀p j,yD G s (vN xs) p j=yD G s xs p j
 | [],_,_=>by rfl
 |x::xs,p,j=>by simp only[vN,yD,zT2 G s x,zCK G s xs]
end
theorem zT3(G:Gh)(s:Nat)(t:T)(p:List Nat):sB G s (vR t) p=sB G s t p:=by cases t<;>simp only[vR,sB,zCK]
theorem zLO(G:Gh)(s:Nat):(xs:List T)-> ∀p j,jU G s (vN xs) p j=jU G s xs p j
 | [],_,_=>by rfl
 |x::xs,p,j=>by simp only[vN,jU,zT3,zLO G s xs]
theorem zX0(G:Gh)(s:Nat)(t:T)(p:List Nat):mkV G s (vR t) p=mkV G s t p:=by cases t<;>simp only[vR,mkV,zCK,zLO]
mutual
theorem zLP:(t:T)->Top t->Top (vR t)
 |.agg xs,h|.tup xs,h=>by simp only[vR,Top]at h ⊢;exact zIW xs h
 |.sl _ _,_|.ptr _,_|.any,_|.lit _,_|.ro _,_|.same _ _,_|.addr _ _,_|.sub _ _ _ _ _,_=>by simp only[vR,Top]
theorem zIW:(xs:List T)->uI xs->uI (vN xs)
 | [],_=>by grind[vN]
 |x::xs,h=>by simp only[vN,uI]at h ⊢;exact⟨zLP x h.1,zIW xs h.2⟩
end
section
variable {St Sc:Stb}{G G':Gh}{w:World}{s:Nat} (gk:∀s p,(G.hd s p).oneCell'=jf) (ee:∀b x,St b=jd x->Sc b=jd x) (ef:∀b,(∃y,G.ow b=jd (s,y))->Sc b=w.heap[b]?) (gE:∀s z,G'.hd s z=G.hd s z) (eO:∀s z,G'.ad s z=G.ad s z)
 include gk ee ef gE eO
mutual
theorem zZi:(t:T)-> ∀(p:List Nat),R St G w s t p->R Sc G' w s (vR t) p
 |.agg xs,p,hr|.tup xs,p,hr=>by simp only[vR,R]at hr ⊢;exact zT4 xs p 0 hr
 |.sl k xs,p,hr=>by have:=zLI gk ee ef (.sl k xs) p rfl hr;simp only[vR,R,gE];exact this
 |.ptr t,p,hr=>by have:=zLI gk ee ef (.ptr t) p rfl hr;simp only[vR,R,gE];exact this
 |.ro u,p,hr=>by simp only[vR,R,gE]at hr ⊢;grind[uP]
 |.any,_,_=>by simp only[vR,R]
 |.lit _,_,hr|.same _ _,_,hr|.sub _ _ _ _ _,_,hr=>by simp only[vR,R,gE]at hr ⊢;exact hr
 |.addr _ _,_,hr=>by simp only[vR,R,gE,eO]at hr ⊢;exact hr
theorem zT4:(xs:List T)-> ∀(p:List Nat)(j:Nat),RF St G w s xs p j->RF Sc G' w s (vN xs) p j
 | [],_,_,_=>by have _:=gk;have _:=ee;have _:=ef;have _:=gE;have _:=eO;simp only[vN,RF]
 |x::xs,p,j,hr=>by simp only[vN,RF]at hr ⊢;exact⟨zZi x _ hr.1,zT4 xs p (j+1) hr.2⟩
end
end
theorem zQ.freeze(s:Nat)(t:T)(hs:E s=jd t):zQ Γ E (E.app [(s,jd (vR t))] [(s,1)]):=by
 classical
 rintro a w ⟨S,hS,gJ,G,g9⟩
 have hm:=g9.mem
 let own:Nat->Prop:=fun b=> ∃y,G.ow b=jd (s,y)
 let Sc:Stb:=fun b=>if own b then w.heap[b]? else S b
 let G':Gh:={ hd:=G.hd,ad:=G.ad,lb:=fun b o=>if own b then je else G.lb b o,ow:=fun b=>if own b then je else G.ow b }
 have fa:∀b x,S b=jd x->Sc b=jd x:=fun b x hx=>by
  have:¬own b:=by
   rintro⟨y,hy⟩
   have:=(hm.ow b _ hy).2.2
   grind
  grind
 have bp:zBU S Sc Γ.W Γ.w0.heap.size:=⟨fa,fun b hb gZ=>by
  by_cases h:own b
  ·obtain⟨y,hy⟩:=h
   exact(hm.ow b _ hy).2.1
  grind⟩
 have gp:Mem ((Γ.at S).at Sc) G' w:=by
  refine⟨hm.one,fun b o l hl=>?_,fun b l hl=>?_,fun b x hx=>?_,hm.fr,hm.sz,hm.bk⟩
  ·by_cases h:own b
   ·grind
   ·simp only[G',h,if_false]at hl
    have:=hm.lb b o l hl;exact⟨this.1,this.2.1,by simp only[Sc,h,if_false];exact this.2.2⟩
  ·by_cases h:own b
   ·grind
   ·simp only[G',h,if_false]at hl
    have:=hm.ow b l hl;exact⟨this.1,this.2.1,by simp only[Sc,h,if_false];exact this.2.2⟩
  ·by_cases h:own b
   ·grind
   ·simp only[Sc,h,if_false]at hx;exact hm.st b x hx
 have gu:sL [(s,1)] G w G' w:=by
  have tc:∀b s0 y,G.ow b=jd (s0,y)->(∀n,(s0,n)∉([(s,1)]:Chg))-> ¬own b:=by grind
  refine⟨fun _ _ _=>rfl,fun _ _ _=>rfl,by grind,by grind,fun b cs e h=>⟨cs,h,rfl⟩⟩
  all_goals grind
 obtain⟨e1,e2,e3⟩:=g9.ent s t hs;refine⟨Sc,hS.trans bp,gJ,G',g9.up fa rfl gu gp (fun s0 h0=>⟨fun n hn=>?_,rfl⟩) (fun s0 t0 h0=>?_)⟩
 ·grind[vZ]
 ·rw[vZ]at h0
  split at h0
  ·rename_i he;subst he
   simp at h0;subst h0;have hR:=zZi (G':=G') hm.one fa (fun b hb=>by grind) (fun _ _=>rfl) (fun _ _=>rfl) t [] e2;refine⟨?_,hR,zLP t e3⟩;rw[e1];have h1:mkV G' s (vR t) []=mkV G s (vR t) []:=zEY _ _ _ (fun _=>rfl);rw[h1,zX0]
  ·cases h0
abbrev zBP:=List (Wr×Chg)
def Env.apps(E:Env)(l:zBP):Env:=l.foldl (fun E x=>E.app x.1 x.2) E
structure Stp where
 rd:List (Nat×T)
 l:zBP
variable {Xs:List Stp}
def sM(wr:Wr):List Nat:=wr.map (·.1)
def Stp.slots(X:Stp):List Nat:=X.l.flatMap fun x=>sM x.1
def oOk(chg:Chg):Option T->Bool
 |none=>jf
 |some t=>t.okB chg
def zOb(chg:Chg)(wr:Wr):Bool:=wr.all fun x=>oOk chg x.2
def zR2(a b:List Nat):Bool:=a.all fun x=> !b.contains x
def zFh(a b:zBP):Bool:=a.all fun x=>b.all fun y=>zR2 (sM x.1) (sM y.1)&&zOb y.2 x.1&&zOb x.2 y.1
def Stp.apart(a b:Stp):Bool:=zFh a.l b.l&&zR2 a.slots (b.rd.map (·.1))&&zR2 b.slots (a.rd.map (·.1))&&a.rd.all fun x=>b.l.all fun y=>x.2.okB y.2
theorem zFi{s:Nat}(h:s∉sM wr):wr.find s=je:=by
 induction wr with
 |nil=>rfl
 |cons x wr ih=>
  simp only[sM,Ju,J9,not_or]at h;simp only[Wr.find,Ne.symm h.1,if_false];exact ih h.2
theorem zIX{s:Nat}{x:Option T}(h:wr.find s=jd x):s∈sM wr/\ ∃y∈wr,y.2=x:=by
 induction wr with
 |nil=>grind[Wr.find]
 |cons y wr ih=>
  grind[Wr.find,sM]
theorem zHb{a b:List Nat}(h:zR2 a b=jf){s:Nat}(hs:s∈a):s∉b:=by
 have:=Ki.1 h s hs
 grind
theorem zT5(E:Env)(w1 w2:Wr)(c1 c2:Chg)(h:zR2 (sM w1) (sM w2)=jf)(h1:zOb c2 w1=jf)(h2:zOb c1 w2=jf):
  (E.app w1 c1).app w2 c2=(E.app w2 c2).app w1 c1:=by
 funext s
 have ok:∀{c:Chg}{w:Wr}{s:Nat}{x:Option T},zOb c w=jf->w.find s=jd x->(match x with|some t=>if t.okB c then jd t else je|none=>je)=x:=by
  intro c w s x hw hf;obtain⟨_,y,hy,rfl⟩:=zIX hf;have:=Ki.1 hw y hy
  grind[oOk]
 unfold Env.app;cases hf1:w1.find s with
 |some x=>
  grind[zFi,zHb,zIX]
 |none=>
  grind
theorem zDl(w:Wr)(c:Chg):∀(l:zBP)(E:Env),(∀y∈l,zR2 (sM w) (sM y.1)=jf/\zOb y.2 w=jf/\zOb c y.1=jf)->(E.app w c).apps l=(E.apps l).app w c
 | [],E,_=>rfl
 |y::l,E,h=>by obtain⟨h1,h2,h3⟩:=h y (by simp);show((E.app w c).app y.1 y.2).apps l=_;rw[zT5 E w y.1 c y.2 h1 h2 h3];exact zDl w c l _ (by grind)
theorem zIY:∀(l1 l2:zBP)(E:Env),zFh l1 l2=jf->(E.apps l1).apps l2=(E.apps l2).apps l1
 | [],l2,E,_=>rfl
 |x::l1,l2,E,h=>by simp only[zFh,Un,J4]at h;show((E.app x.1 x.2).apps l1).apps l2=((E.apps l2).app x.1 x.2).apps l1;rw[zIY l1 l2 _ (by grind[zFh]),zDl x.1 x.2 l2 E (by grind)]
def runD:Env->List (Bool×Stp)->Env
 |E,[]=>E
 |E,(b,X)::l=>runD (if b then E.apps X.l else E) l
theorem jY:∀(l1 l2:List (Bool×Stp))(E:Env),runD E (l1++l2)=runD (runD E l1) l2
 | [],_,_=>rfl
 |(b,X)::l1,l2,E=>by simp only[K9,runD];exact jY l1 l2 _
theorem zFj:∀(l:List (Bool×Stp))(X:Stp)(E:Env),(∀y∈l,y.1=jf->zFh X.l y.2.l=jf)->runD (E.apps X.l) l=(runD E l).apps X.l
 | [],_,_,_=>rfl
 |(b,Y)::l,X,E,h=>by
  simp only[runD];cases b with
  |false=>exact zFj l X E (by grind)
  |true=>
   have:=h (jf,Y) (by simp) rfl;simp only[if_true];rw[zIY X.l Y.l E this];exact zFj l X _ (by grind)
theorem zHc{s:Nat}:∀(l:zBP)(E:Env),s∉l.flatMap (fun x=>sM x.1)-> ∀t,(E.apps l) s=jd t->E s=jd t
 | [],_,_,_,h=>h
 |x::l,E,hs,t,h=>by
  simp only[Kq,Ja,not_or]at hs;have:=zHc l (E.app x.1 x.2) hs.2 t h
  grind[Env.app,zFi]
theorem zIZ{s:Nat}{t:T}:∀(l:zBP)(E:Env),s∉l.flatMap (fun x=>sM x.1)->(∀y∈l,t.okB y.2=jf)->E s=jd t->(E.apps l) s=jd t
 | [],_,_,_,h=>h
 |x::l,E,hs,gz,h=>by
  simp only[Kq,Ja,not_or]at hs;refine zIZ l (E.app x.1 x.2) hs.2 (by grind) ?_
  grind[Env.app,zFi]
theorem zJa{s:Nat}:∀(l:zBP)(E1 E2:Env),(∀t,E2 s=jd t->E1 s=jd t)-> ∀t,(E2.apps l) s=jd t->(E1.apps l) s=jd t
 | [],_,_,h,t,ht=>h t ht
 |x::l,E1,E2,h,t,ht=>by
  refine zJa l (E1.app x.1 x.2) (E2.app x.1 x.2) (fun u hu=>?_) t ht
  grind[Env.app]
theorem zJb{s:Nat}:∀(l:List (Bool×Stp))(E1 E2:Env),(∀y∈l,y.1=jg->s∉y.2.slots)->(∀t,E2 s=jd t->E1 s=jd t)->
  ∀t,runD E2 (l.map fun y=>(jf,y.2)) s=jd t->runD E1 l s=jd t
 | [],_,_,_,h,t,ht=>h t ht
 |(b,X)::l,E1,E2,hl,h,t,ht=>by
  simp only[Ju,runD,if_true]at ht ⊢
  refine zJb l _ _ (by grind) (fun u hu=>?_) t ht;cases b with
  |true=>grind[zJa]
  |false=>exact h u (zHc X.l E2 (hl (jg,X) (by simp) rfl) u hu)
theorem zJc{s:Nat}{t:T}:∀(l:List (Bool×Stp))(E:Env),(∀y∈l,y.1=jf->s∉y.2.slots/\ ∀z∈y.2.l,t.okB z.2=jf)->E s=jd t->runD E l s=jd t
 | [],_,_,h=>h
 |(b,X)::l,E,hl,h=>by
  simp only[runD];refine zJc l _ (fun y hy=>hl y (by simp[hy])) ?_;cases b with
  |false=>exact h
  |true=>obtain⟨h1,h2⟩:=hl (jf,X) (by simp) rfl;exact zIZ X.l E h1 h2 h
theorem Env.Has.of{E E':Env}:{l:List (Nat×T)}->E.Has l->(∀s t,(s,t)∈l->E s=jd t->E' s=jd t)->E'.Has l
 | [],_,_=>trivial
 |(s,t)::l,h,h'=>⟨h' s t (by simp) h.1,Env.Has.of h.2 fun s t hm=>h' s t (by simp[hm])⟩
def zBa(o:Oper):List Nat:=(o.after.toList.filter (Region.binds .any)).map (·.on)
def zA0:Nat->List Oper->Bool
 |_,[]=>jf
 |i,o::os=>((zBa o).all fun m=>decide (m<i))&&zA0 (i+1) os
def kV(an:List (List Nat)):List (List Nat)->List Oper->Bool
 | [],_=>jf
 |_::_,[]=>jg
 |l::ls,o::os=>(l.all fun k=>(zBa o).contains k||(zBa o).any fun m=>(an.getD m []).contains k)&&kV an ls os
def jD(Xs:List Stp):Nat->List (List Nat)->List Stp->Bool
 |_,_,[]=>jf
 |j,an,Y::Ys=>((Jd j).all fun i=>(an.headD []).contains i||match Xs[i]? with
   |some X=>X.apart Y
   |none=>jf)&&jD Xs (j+1) an.tail Ys
theorem zGv:∀(os:List Oper)(i0 j:Nat)(o:Oper),zA0 i0 os=jf->os[j]? =jd o-> ∀m∈zBa o,m<i0+j
 | [],_,j,_,_,h=>by simp at h
 |x::os,i0,j,o,hf,h=>by
  simp only[zA0,J4]at hf;cases j with
  |zero=>
   grind
  |succ j=>
   intro m hm;have:=zGv os (i0+1) j o hf.2 (by grind) m hm;omega
theorem zKr(an:List (List Nat)):∀(ls:List (List Nat))(os:List Oper)(j:Nat)(l:List Nat),kV an ls os=jf->ls[j]? =jd l-> ∃o,os[j]? =jd o/\ ∀k∈l,k∈zBa o\/ ∃m∈zBa o,k∈an.getD m []
 | [],_,j,_,_,h=>by simp at h
 |_::_,[],_,_,h,_=>by grind[kV]
 |x::ls,o::os,j,l,ha,h=>by
  simp only[kV,J4]at ha;cases j with
  |zero=>
   simp_all
  |succ j=>
   obtain⟨o',h1,h2⟩:=zKr an ls os j l ha.2 (by grind)
   grind
theorem zFk(Xs:List Stp):∀(Ys:List Stp)(j0:Nat)(an:List (List Nat))(j:Nat)(Y:Stp),jD Xs j0 an Ys=jf->Ys[j]? =jd Y-> ∀i X,i<j0+j->Xs[i]? =jd X->i∈an.getD j []\/X.apart Y=jf
 | [],_,_,j,_,_,h=>by simp at h
 |Z::Ys,j0,an,j,Y,hp,h=>by
  simp only[jD,J4]at hp;intro i X hi hX;cases j with
  |zero=>
   simp at h;subst h;have:=Ki.1 hp.1 i (by grind);simp only[hX,Bool.or_eq_true,H9,decide_eq_true_eq]at this;rcases this with h|h
   ·left
    cases an with
    |nil=>simp at h
    |cons l an=>grind
   grind
  |succ j=>
   rcases zFk Xs Ys (j0+1) an.tail j Y hp.2 (by grind) i X (by omega) hX with h|h
   all_goals grind
section
variable {P:Program}{Γ:Ctx}{pn:sF}{ops:Array Oper}
def zT6(ops:Array Oper)(L:List Bool):Prop:=∀(i:Nat)(o:Oper),ops[i]? =jd o->L[i]? =jd jf-> ∀m∈zBa o,L[m]? =jd jf
theorem zHd{L:List Bool}{an:List (List Nat)}(hf:zA0 0 ops.toList=jf)(ha:kV an an ops.toList=jf)(hc:zT6 ops L):
  ∀(n i:Nat),i<=n-> ∀o,ops[i]? =jd o->(∀m∈zBa o,L[m]? =jd jf)-> ∀k∈an.getD i [],L[k]? =jd jf:=by
 intro n
 induction n with
 |zero=>
  intro i hi o ho hp k hk;have iC:i=0:=by omega
  subst iC;cases hl:an[0]? with
  |none=>grind
  |some l=>
   obtain⟨o',h1,h2⟩:=zKr an an ops.toList 0 l ha hl;rw[Kv,ho]at h1;simp at h1;subst h1;simp only[U7,hl,Lt]at hk;rcases h2 k hk with h|⟨m,h,_⟩
   ·grind
   ·have:=zGv ops.toList 0 0 o hf (by grind) m h
    omega
 |succ n ih=>
  intro i hi o ho hp k hk;cases hl:an[i]? with
  |none=>grind
  |some l=>
   obtain⟨o',h1,h2⟩:=zKr an an ops.toList i l ha hl;rw[Kv,ho]at h1;simp at h1;subst h1;simp only[U7,hl,Lt]at hk;rcases h2 k hk with h|⟨m,h,hkm⟩
   ·grind
   ·have gC:=zGv ops.toList 0 i o hf (by grind) m h
    have hLm:=hp m h;cases du:ops[m]? with
    |none=>
     grind
    |some om=>exact ih m (by omega) om du (hc m om du hLm) k hkm
theorem zJd{L:List Bool}{i:Nat}{b:Bool}{X:Stp}(hL:L[i]? =jd b)(hX:Xs[i]? =jd X):L.zip Xs=(L.take i).zip (Xs.take i)++(b,X)::(L.drop (i+1)).zip (Xs.drop (i+1)):=by
 have h1:L=L.take i++b::L.drop (i+1):=by obtain⟨h,rfl⟩:=Jl.1 hL;simp
 have h2:Xs=Xs.take i++X::Xs.drop (i+1):=by obtain⟨h,rfl⟩:=Jl.1 hX;simp
 grind[List.zip_cons_cons]
theorem zKs{L:List Bool}{y:Bool×Stp}(h:y∈L.zip Xs):∃j:Nat,L[j]? =jd y.1/\Xs[j]? =jd y.2:=by grind[Qc,List.getElem?_zip_eq_some]
def sN:Env->List Stp->Prop
 |_,[]=>True
 |E,X::Xs=>E.Has X.rd/\sN (E.apps X.l) Xs
theorem sN.get:∀(Xs:List Stp)(E:Env),sN E Xs-> ∀(i:Nat)(X:Stp),Xs[i]? =jd X->(runD E ((Xs.take i).map fun y=>(jf,y))).Has X.rd
 | [],_,_,i,_,h=>by simp at h
 |Y::Xs,E,hh,i,X,h=>by
  cases i with
  |zero=>simp at h;subst h;simpa[runD]using hh.1
  |succ i=>
   have:=sN.get Xs _ hh.2 i X (by grind)
   grind[runD]
theorem Stp.apart_spec{a b:Stp}(h:a.apart b=jf):zFh a.l b.l=jf/\(∀s∈a.slots,s∉b.rd.map (·.1))/\(∀s∈b.slots,s∉a.rd.map (·.1))/\ ∀x∈a.rd,∀y∈b.l,x.2.okB y.2=jf:=by simp only[Stp.apart,J4]at h;refine⟨h.1.1.1,by grind[zHb],by grind[zHb],fun x hx y hy=>?_⟩;exact Ki.1 (Ki.1 h.2 x hx) y hy
mutual
theorem zGw:(t:T)->t.okB []=jf
 |.same _ _|.addr _ _|.sub _ _ _ _ _=>by rfl
 |.agg xs|.tup xs=>by simp only[T.okB];exact zLQ xs
 |.any|.lit _|.ro _|.sl _ _|.ptr _=>by rfl
theorem zLQ:(xs:List T)->zLy [] xs=jf
 | []=>by rfl
 |x::xs=>by simp only[zLy,zGw x,zLQ xs,Lo]
end
theorem Rep.heap{w:World}(h:Rep Γ E G tmps w)(hw:w'.heap=w.heap)(ho:w'.os=w.os:=by rfl)(hq:w'.output=w.output:=by rfl):Rep Γ E G tmps w' where
 size:=h.size
 ent s t hs:=Ent.keep (chg:=[]) ⟨fun _ _ _=>rfl,fun _ _ _=>rfl,by grind[yN,World.cell?],fun _ _ _ h _=>h,fun b cs e h=>⟨cs,by grind,rfl⟩⟩ (by simp) (zGw t) (h.ent s t hs)
 mem:=by
  have hm:=h.mem;exact⟨hm.one,fun b o l hl=>by have:=hm.lb b o l hl;exact⟨by rw[hw];exact this.1,this.2⟩,fun b l hl=>by have:=hm.ow b l hl;exact⟨by rw[hw];exact this.1,this.2⟩,
   fun b x hx=>by rw[hw];exact hm.st b x hx,fun b h1 h2=>by rw[hw];exact hm.fr b h1 h2,by rw[hw];exact hm.sz,hm.bk.trans (fun b cs e hb=>⟨cs,by grind,rfl⟩) ho hq⟩
end
abbrev I(n:Int):T:=.lit (.int .i64 n)
abbrev B(b:Bool):T:=.lit (.bool b)
abbrev L{α:Type}(k:Nat)(f:α->T)(xs:List α):T:=.sl k (xs.map f)
theorem zM{t:TypeId}(h:P.types[t]? =jd ti):P.info? t=jd ti:=by grind[Tables.info?]
def Ok(P:Program)(Γ:Ctx)(o:Oper)(E E':Env):Prop:=∀S,xX P (Γ.at S) o E E'
section
variable {P:Program}{Γ:Ctx}{pn:sF}{ops:Array Oper}{o:Oper}{os:List Oper}{E E':Env}{Q:Exit->Env->Prop}{d:Nat}
theorem RW.op(h:Ok P Γ o E E')(k:RW P Γ pn ops os E' Q)(hg:o.guard=je:=by rfl)(hp:pn.ok o.dst=jf:=by rfl):RW P Γ pn ops (o::os) E Q:=RW.cons (wI.op h hg) k hp
def neD(x:Operand)(d:Nat):Bool:=match x with
 |.tmp s=>s != d
 |_=>jf
theorem zEk{d:Nat}(h:neD x d=jf):∀s,x=.tmp s->s≠d:=by rintro s rfl;grind[neD]
theorem zBb{t:T}(h:t.okTup=jf):∀xs,t≠.tup xs:=by rintro xs rfl;grind[T.okTup]
abbrev mvB(Γ:Ctx)(x:Operand)(t:T)(d:Nat):Bool:=J6 d Γ.N&&t.okTup&&neD x d&&T.okB [(d,0)] (uY x t)
section
variable {x y:Operand}{t:T}{ty:TypeId}{ps:String}{af:Array Edge}{gd:Option (Nat×Bool)}
theorem yE{a b:Nat}(h:J6 a b=jf):a<b:=by grind[Nat.blt_eq]
theorem zR3(hx:opT E x=jd t)(sd:mvB Γ x t d=jf):Ok P Γ ⟨jd d,.move x,ty,ps,af,gd⟩ E (E.app [(d,jd (uY x t))] [(d,0)]):=by simp only[mvB,J4]at sd;exact fun S=>zPO x t (.inl rfl) rfl (yE sd.1.1.1) hx (zBb sd.1.1.2) (zEk sd.1.2) sd.2
theorem zX1(hx:opT E x=jd t)(sd:mvB Γ x t d=jf):Ok P Γ ⟨jd d,.assign x,ty,ps,af,gd⟩ E (E.app [(d,jd (uY x t))] [(d,0)]):=by simp only[mvB,J4]at sd;exact fun S=>zPO x t (.inr rfl) rfl (yE sd.1.1.1) hx (zBb sd.1.1.2) (zEk sd.1.2) sd.2
def inR(n:Int):Bool:=decide (-9223372036854775808<=n)&&decide (n<=9223372036854775807)
theorem zCg{n:Int}(h:inR n=jf):IntKind.i64.wrap n=n:=by
 simp only[inR,J4,decide_eq_true_eq]at h;have hb:IntKind.i64.bits=64:=rfl;have hs:IntKind.i64.signed=jf:=rfl;simp only[IntKind.wrap,hb,hs,Qq]
 grind
def rng(n:Int):Option Int:=if inR n then jd n else je
theorem zCh{n:Int}(h:rng n=jd m):m=n/\inR n=jf:=by grind[rng]
theorem zT7{n c:Int}(hv:rng (m+n)=jd c)(hx:opT E x=jd (I m))(hy:opT E y=jd (I n))(sd:J6 d Γ.N=jf):Ok P Γ ⟨jd d,.binOp .add xt x y yt,ty,ps,af,gd⟩ E (E.app [(d,jd (I c))] [(d,0)]):=by obtain⟨rfl,h⟩:=zCh hv;exact fun S=>tT .add xt yt x y .i64 m n _ rfl rfl (yE sd) hx hy (by grind[zJY,zCg])
theorem zZj{n:Int}(hx:opT E x=jd (I m))(hy:opT E y=jd (I n))(sd:J6 d Γ.N=jf):Ok P Γ ⟨jd d,.binOp .lss xt x y yt,ty,ps,af,gd⟩ E (E.app [(d,jd (B (decide (m<n))))] [(d,0)]):=
 fun _S=>tT .lss xt yt x y .i64 m n _ rfl rfl (yE sd) hx hy rfl
theorem zDm(k:Nat)(sd:J6 d Γ.N=jf):Ok P Γ ⟨jd d,.assign (.const (.slice je 0 0)),ty,ps,af,gd⟩ E (E.app [(d,jd (.sl k []))] [(d,0)]):=
 fun _=>zL5 k _ (.inr rfl) rfl rfl (yE sd)
def yG(n:Int):Option Nat:=if 0<=n/\n<=68719476736 then jd n.toNat else je
theorem zHe{n:Int}{m:Nat}(h:yG n=jd m):n=(m:Int)/\m<=68719476736:=by grind[yG]
class ElT (P:Program) (t:TypeId) (e:outParam TypeId) (ti:outParam TypeInfo) (k:outParam Nat) (u:outParam T):Prop where
 un:P.underlying t=jd (.slice e)
 info:P.info? e=jd ti
 zero:∃z,ti.zero=jd z/\sD u=z.cells.toList
 size:ti.size=k
 pos:0<k
 zok:u.zOk=jf
 us:u.size=k
 bytes:ti.bytes<=2048
theorem zT8{t:TypeId}{n m:Nat}{a b:Int}(ht:ElT P t e ti k u)(hn:yG a=jd n)(hx:opT E x=jd (I a))(hm:yG b=jd m)(hy:opT E y=jd (I b))(pb:n<=m)(sd:J6 d Γ.N=jf):
  Ok P Γ ⟨jd d,.makeSlice t x y,ty,ps,af,gd⟩ E (E.app [(d,jd (.sl k (J1 n u)))] [(d,0)]):=by
 obtain⟨rfl,h1⟩:=zHe hn;obtain⟨rfl,h2⟩:=zHe hm;obtain⟨z,hz,hv⟩:=ht.zero;exact fun S=>zXw t e ti z u k x y n m .i64 .i64 rfl rfl (yE sd) ht.un ht.info hz ht.size ht.pos ht.zok hv ht.us (Lu ht.bytes (by decide)) hx hy pb h2
end
end
def ixO{α:Type}(xs:List α)(i:Int):Option α:=if 0<=i then xs[i.toNat]? else je
theorem uJ{α:Type}{xs:List α}{v:α}(h:ixO xs i=jd v):0<=i/\xs[i.toNat]? =jd v:=by grind[ixO]
def kW:T->Bool
 |.same _ _=>jg
 |_=>jf
theorem zEl{s:Nat}{t:T}(h1:E s=jd (.same r q))(h2:E r=jd t)(h3:t.get q.reverse=jd u)(h4:kW u=jf):uZ E (.tmp s)=jd (r,q,u):=by
 have hg:∀t:T,t.get []=jd t:=fun t=>by rfl
 grind[kW,uZ,qJ]
theorem zAG{s:Nat}{t:T}(h1:E s=jd t)(h4:kW t=jf):uZ E (.tmp s)=jd (s,[],t):=by
 have hg:∀t:T,t.get []=jd t:=fun t=>by rfl
 grind[kW,uZ,qJ]
section
variable {P:Program}{Γ:Ctx}{E:Env}{d:Nat}{x y:Operand}{ty:TypeId}{ps:String}{af:Array Edge}{gd:Option (Nat×Bool)}
class zAH (P:Program) (t:TypeId) (e:outParam TypeId) (ti:outParam TypeInfo) (k:outParam Nat):Prop where
 un:P.underlying t=jd (.slice e)
 info:P.info? e=jd ti
 size:ti.size=k
theorem yCk{α:Type}{t:TypeId}{f:α->T}{xs:List α}{v:α}(ht:zAH P t e ti k)(hv:ixO xs i=jd v)(hx:uZ E x=jd (r,q,L k f xs))(hy:opT E y=jd (I i))(sd:J6 d Γ.N=jf):
  Ok P Γ ⟨jd d,.indexAddr t x y,ty,ps,af,gd⟩ E (E.app [(d,jd (.addr r (i.toNat::q)))] [(d,0)]):=by
 obtain⟨h1,h2⟩:=uJ hv;exact fun S=>zTe x y t e ti r q k _ .i64 i rfl rfl (yE sd) ht.un ht.info ht.size hx hy h1 (by grind)
theorem zZk{α:Type}{t:TypeId}{f:α->T}{xs:List α}{v:α}(ht:zAH P t e ti k)(hv:ixO xs i=jd v)(hx:uZ E x=jd (r,q,.ro (L k f xs)))(hy:opT E y=jd (I i))(sd:J6 d Γ.N=jf):
  Ok P Γ ⟨jd d,.indexAddr t x y,ty,ps,af,gd⟩ E (E.app [(d,jd (.ro (.ptr (f v))))] [(d,0)]):=by
 obtain⟨h1,h2⟩:=uJ hv;exact fun S=>zTf x y t e ti r q k _ .i64 i _ rfl rfl (yE sd) ht.un ht.info ht.size hx hy h1 (by simp[h2])
theorem zZl{α:Type}{t:TypeId}{f:α->T}{xs:List α}(hu:P.underlying t=jd (.slice e))(hx:uZ E x=jd (r,q,L k f xs))(sd:J6 d Γ.N=jf):
  Ok P Γ ⟨jd d,.call { callee:=.builtin .len,args:=#[x],argTypes:=#[t] },ty,ps,af,gd⟩ E (E.app [(d,jd (I xs.length))] [(d,0)]):=
 fun _=>zTd x t _ r q (L k f xs) xs.length rfl rfl (yE sd) hu hx (by simp[zLz]) rfl
theorem zT9{α:Type}{t:TypeId}{f:α->T}{xs:List α}(hu:P.underlying t=jd (.slice e))(hx:uZ E x=jd (r,q,.ro (L k f xs)))(sd:J6 d Γ.N=jf):
  Ok P Γ ⟨jd d,.call { callee:=.builtin .len,args:=#[x],argTypes:=#[t] },ty,ps,af,gd⟩ E (E.app [(d,jd (I xs.length))] [(d,0)]):=
 fun _=>zTd x t _ r q (.ro (L k f xs)) xs.length rfl rfl (yE sd) hu hx (by simp[zLz]) rfl
structure zTA (P:Program) (t:TypeId) (u:T):Prop where
 h:∃ds ti,P.underlying t=jd ds/\P.info? t=jd ti/\zEZ ds= !u.single/\ti.size=u.size
theorem yCl{t:TypeId}(ht:zTA P t u)(hx:opT E x=jd (.ro (.ptr u)))(sd:J6 d Γ.N=jf):Ok P Γ ⟨jd d,.load t x,ty,ps,af,gd⟩ E (E.app [(d,jd (roT u))] [(d,0)]):=by obtain⟨ds,ti,h1,h2,h3,h4⟩:=ht.h;exact fun S=>zNU x t ds ti u rfl rfl (yE sd) h1 h2 h3 h4 hx
theorem yEy{t:TypeId}{tr:T}(ht:zTA P t u)(hx:opT E x=jd (.addr r q))(hr:E r=jd tr)(hg:tr.get q.reverse=jd u)(sd:(J6 d Γ.N&&tr.locd q.reverse&&(r != d)&&T.okB [(d,0)] (cpT r u q))=jf):
  Ok P Γ ⟨jd d,.load t x,ty,ps,af,gd⟩ E (E.app [(d,jd (cpT r u q))] [(d,0)]):=by
 obtain⟨ds,ti,h1,h2,h3,h4⟩:=ht.h;simp only[J4]at sd;exact fun S=>zXv x t ds ti r q tr u rfl rfl (yE sd.1.1.1) h1 h2 h3 h4 hx hr hg sd.1.1.2 (by grind) sd.2
end
section
variable {P:Program}{Γ:Ctx}{E:Env}{x:Operand}{ty:TypeId}{ps:String}{af:Array Edge}{gd:Option (Nat×Bool)}
theorem yFH{t:TypeId}{s:Nat}{tr:T}{v:Value}(hi:P.info? t=jd ti)(gr:ti.size=1)(hx:opT E x=jd (.addr r q))(hr:E r=jd tr)(hg:tr.get q.reverse=jd u0)(gv:tr.set q.reverse (.lit v)=tr')(hy:E s=jd (.lit v))
  (sd:(tr.single&&tr.locd q.reverse&&vQ (.lit v) u0&&(r != s))=jf):Ok P Γ ⟨je,.store t x (.tmp s),ty,ps,af,gd⟩ E (E.app [(r,jd tr')] [(r,q.length)]):=by
 simp only[J4]at sd;subst gv;intro S;have:=zL9 (P:=P) (Γ:=Γ.at S) (E:=E) (o:=⟨je,.store t x (.tmp s),ty,ps,af,gd⟩) t ti x (.tmp s) r q tr u0 (.slot s (.lit v)) rfl rfl hi (by rw[gr];rfl) (by omega) hx hr sd.1.1.1 hg sd.1.1.2 sd.1.2 (.slot s _)
  ⟨fun s' t' h=>by simp at h;obtain⟨rfl,rfl⟩:=h;exact⟨hy,by simp[zZ,yU],rfl⟩,by simp,by simp[xL,sC]⟩
 exact this
theorem yCm{t:TypeId}{tr:T}{v:Value}(hi:P.info? t=jd ti)(gr:ti.size=1)(hx:opT E x=jd (.addr r q))(hr:E r=jd tr)(hg:tr.get q.reverse=jd u0)(gv:tr.set q.reverse (.lit v)=tr')
  (sd:(tr.single&&tr.locd q.reverse&&vQ (.lit v) u0&&(T.lit v).zOk)=jf)(hz:sD (.lit v)=v.cells.toList):Ok P Γ ⟨je,.store t x (.const v),ty,ps,af,gd⟩ E (E.app [(r,jd tr')] [(r,q.length)]):=by
 simp only[J4]at sd;subst gv;intro S;have:=zL9 (P:=P) (Γ:=Γ.at S) (E:=E) (o:=⟨je,.store t x (.const v),ty,ps,af,gd⟩) t ti x (.const v) r q tr u0 (.zero (.lit v)) rfl rfl hi (by rw[gr];rfl) (by omega) hx hr sd.1.1.1 hg sd.1.1.2 sd.1.2 (.zero v _ hz)
  ⟨by simp,by grind,by simp[xL]⟩
 exact this
end
theorem zQ.tr(d r:Nat)(u:T)(hd:E d=jd (.same r []))(hr:E r=jd u)(fb:zZ u)(sd:(u.single&&wO u&&u.okB [(d,1),(r,1)]&&(d != r))=jf):
  zQ Γ E (E.app [(d,jd u),(r,jd (.same d []))] [(d,1),(r,1)]):=by
 simp only[J4]at sd
 rintro a w ⟨S,hS,hs⟩
 have gc:d≠r:=by grind
 have hg:∀t:T,t.get []=jd t:=fun t=>by rfl
 have:=zNY hs d [] r [] (.same r []) u u hd rfl hr (hg u) sd.1.1.1 fb gc (by simp[T.okB,kR]) sd.1.2 rfl sd.1.1.2;exact⟨S,hS,this⟩
theorem jE{α:Type}{f:α->T}(hf:∀x,zZ (f x)):(xs:List α)->yZ (xs.map f)
 | []=>trivial
 |x::xs=>⟨hf x,jE hf xs⟩
theorem zQd{α:Type}{f:α->T}{xs:List α}(hf:∀x,zZ (f x)):zZ (L k f xs):=by simp only[zZ,yU];grind[jE]
theorem zQe(n:Int):zZ (I n):=by simp[zZ,yU]
theorem zX2(b:Bool):zZ (B b):=by simp[zZ,yU]
section
variable {P:Program}{Γ:Ctx}{E:Env}{d:Nat}{x y:Operand}{ty:TypeId}{ps:String}{af:Array Edge}{gd:Option (Nat×Bool)}{m n c:Int}{xt yt:TypeId}
theorem zHf(hv:rng (m-n)=jd c)(hx:opT E x=jd (I m))(hy:opT E y=jd (I n))(sd:J6 d Γ.N=jf):Ok P Γ ⟨jd d,.binOp .sub xt x y yt,ty,ps,af,gd⟩ E (E.app [(d,jd (I c))] [(d,0)]):=by obtain⟨rfl,h⟩:=zCh hv;exact fun _=>tT .sub xt yt x y .i64 m n _ rfl rfl (yE sd) hx hy (by grind[zJY,zCg])
theorem yCn(hv:rng (m*n)=jd c)(hx:opT E x=jd (I m))(hy:opT E y=jd (I n))(sd:J6 d Γ.N=jf):Ok P Γ ⟨jd d,.binOp .mul xt x y yt,ty,ps,af,gd⟩ E (E.app [(d,jd (I c))] [(d,0)]):=by obtain⟨rfl,h⟩:=zCh hv;exact fun _=>tT .mul xt yt x y .i64 m n _ rfl rfl (yE sd) hx hy (by grind[zJY,zCg])
def vK(m n:Int):Option Int:=if n=0 then je else rng (m.tdiv n)
def vA(m n:Int):Option Int:=if n=0 then je else jd (m.tmod n)
theorem yCo(hv:vK m n=jd c)(hx:opT E x=jd (I m))(hy:opT E y=jd (I n))(sd:J6 d Γ.N=jf):Ok P Γ ⟨jd d,.binOp .quo xt x y yt,ty,ps,af,gd⟩ E (E.app [(d,jd (I c))] [(d,0)]):=by
 unfold vK at hv;split at hv
 ·cases hv
 ·rename_i h0
  obtain⟨rfl,h⟩:=zCh hv;exact fun _=>tT .quo xt yt x y .i64 m n _ rfl rfl (yE sd) hx hy (by simp only[zJY,h0,if_false,zCg h])
theorem yCp(hv:vA m n=jd c)(hx:opT E x=jd (I m))(hy:opT E y=jd (I n))(sd:J6 d Γ.N=jf):Ok P Γ ⟨jd d,.binOp .rem xt x y yt,ty,ps,af,gd⟩ E (E.app [(d,jd (I c))] [(d,0)]):=by
 unfold vA at hv;split at hv
 ·cases hv
 ·rename_i h0
  simp at hv;subst hv;exact fun _=>tT .rem xt yt x y .i64 m n _ rfl rfl (yE sd) hx hy (by simp only[zJY,h0,if_false])
theorem zZm(hx:opT E x=jd (I m))(hy:opT E y=jd (I n))(sd:J6 d Γ.N=jf):Ok P Γ ⟨jd d,.binOp .leq xt x y yt,ty,ps,af,gd⟩ E (E.app [(d,jd (B (decide (m<=n))))] [(d,0)]):=
 fun _=>tT .leq xt yt x y .i64 m n _ rfl rfl (yE sd) hx hy rfl
theorem zZn(hx:opT E x=jd (I m))(hy:opT E y=jd (I n))(sd:J6 d Γ.N=jf):Ok P Γ ⟨jd d,.binOp .gtr xt x y yt,ty,ps,af,gd⟩ E (E.app [(d,jd (B (decide (m> n))))] [(d,0)]):=
 fun _=>tT .gtr xt yt x y .i64 m n _ rfl rfl (yE sd) hx hy rfl
theorem yCq(hx:opT E x=jd (I m))(hy:opT E y=jd (I n))(sd:J6 d Γ.N=jf):Ok P Γ ⟨jd d,.binOp .geq xt x y yt,ty,ps,af,gd⟩ E (E.app [(d,jd (B (decide (m>=n))))] [(d,0)]):=
 fun _=>tT .geq xt yt x y .i64 m n _ rfl rfl (yE sd) hx hy rfl
theorem yCr(hx:opT E x=jd (I m))(hy:opT E y=jd (I n))(sd:J6 d Γ.N=jf):Ok P Γ ⟨jd d,.binOp .eql xt x y yt,ty,ps,af,gd⟩ E (E.app [(d,jd (B (m==n)))] [(d,0)]):=
 fun _=>tT .eql xt yt x y .i64 m n _ rfl rfl (yE sd) hx hy rfl
theorem yCs(hx:opT E x=jd (I m))(hy:opT E y=jd (I n))(sd:J6 d Γ.N=jf):Ok P Γ ⟨jd d,.binOp .neq xt x y yt,ty,ps,af,gd⟩ E (E.app [(d,jd (B (m != n)))] [(d,0)]):=
 fun _=>tT .neq xt yt x y .i64 m n _ rfl rfl (yE sd) hx hy rfl
theorem yCt{b:Bool}(hx:opT E x=jd (B b))(sd:J6 d Γ.N=jf):Ok P Γ ⟨jd d,.unOp .not xt x,ty,ps,af,gd⟩ E (E.app [(d,jd (B (!b)))] [(d,0)]):=
 fun _=>yAj xt x b rfl rfl (yE sd) hx
theorem yCu(hv:rng (0-n)=jd c)(hx:opT E x=jd (I n))(sd:J6 d Γ.N=jf):Ok P Γ ⟨jd d,.unOp .neg xt x,ty,ps,af,gd⟩ E (E.app [(d,jd (I c))] [(d,0)]):=by
 obtain⟨rfl,h⟩:=zCh hv;have:=fun S=>yAk (P:=P) (Γ:=Γ.at S) (E:=E) (o:=⟨jd d,.unOp .neg xt x,ty,ps,af,gd⟩) xt x .i64 n rfl rfl (yE sd) hx
 rw[zCg h]at this;exact this
end
section
variable {P:Program}{Γ:Ctx}{E:Env}{d:Nat}{x y:Operand}{ty:TypeId}{ps:String}{af:Array Edge}{gd:Option (Nat×Bool)}
class zHg (P:Program) (t:TypeId) (u:outParam T):Prop where
 h:∃ti z,P.info? t=jd ti/\ti.zero=jd z/\u.zOk=jf/\sD u=z.cells.toList/\z.cells.size=u.size
theorem zQf{t:TypeId}(ht:zHg P t u)(sd:J6 d Γ.N=jf):Ok P Γ ⟨jd d,.alloc t,ty,ps,af,gd⟩ E (E.app [(d,jd (.ptr u))] [(d,0)]):=by obtain⟨ti,z,h1,h2,h3,h4,h5⟩:=ht.h;exact fun S=>zTo t ti z u rfl rfl (yE sd) h1 h2 h3 h4 h5
theorem zZo{s i:Nat}{t:T}(hs:E s=jd (.tup ts))(hi:ts[i]? =jd t)(sd:(J6 d Γ.N&&t.okTup&&(s != d)&&T.okB [(d,0)] (cpT s t [i]))=jf):
  Ok P Γ ⟨jd d,.extract (.tmp s) i,ty,ps,af,gd⟩ E (E.app [(d,jd (cpT s t [i]))] [(d,0)]):=by
 simp only[J4]at sd;exact fun S=>zNV s i ts t rfl rfl (yE sd.1.1.1) hs hi (zBb sd.1.1.2) (by grind) sd.2
theorem zCi{t:T}(hx:opT E x=jd t)(hp:zFL E x=jf)(sd:mvB Γ x t d=jf):Ok P Γ ⟨jd d,.nilCheck x,ty,ps,af,gd⟩ E (E.app [(d,jd (uY x t))] [(d,0)]):=by simp only[mvB,J4]at sd;exact fun S=>yAl x t rfl rfl (yE sd.1.1.1) hx hp (zBb sd.1.1.2) (zEk sd.1.2) sd.2
theorem zTB{c:Operand}{b:Bool}{t:T}(hc:opT E c=jd (B b))(hx:opT E (if b then x else y)=jd t)(sd:mvB Γ (if b then x else y) t d=jf):Ok P Γ ⟨jd d,.pick c x y,ty,ps,af,gd⟩ E (E.app [(d,jd (uY (if b then x else y) t))] [(d,0)]):=by simp only[mvB,J4]at sd;exact fun S=>zXs c x y b t rfl rfl (yE sd.1.1.1) hc hx (zBb sd.1.1.2) (zEk sd.1.2) sd.2
theorem zZp{t:TypeId}{s:Nat}(hs:E s=jd u)(hu:zZ u)(sd:(J6 d Γ.N&&u.okTup&&(s != d))=jf):
  Ok P Γ ⟨jd d,.box t (.tmp s),ty,ps,af,gd⟩ E (E.app ((d,jd (.ptr u))::pWr d [.slot s u] 0) ((d,0)::tZ [.slot s u])):=by
 simp only[J4]at sd;have gc:s≠d:=by grind
 refine fun S=>yAn t (.tmp s) (.slot s u) rfl rfl (yE sd.1.1) (.slot s u) ⟨by grind,by simp,?_⟩
 simp only[xL]
 grind
end
def yI{α:Type}(xs ys:List α):Option (List α):=if xs.length+ys.length<=68719476736 then jd (xs++ys)else je
theorem zFl{α:Type}{xs ys zs:List α}(h:yI xs ys=jd zs):zs=xs++ys/\xs.length+ys.length<=68719476736:=by grind[yI]
section
variable {P:Program}{Γ:Ctx}{E:Env}{d:Nat}{x y:Operand}{ty:TypeId}{ps:String}{af:Array Edge}{gd:Option (Nat×Bool)}
theorem ElT.zsize{t:TypeId}(h:ElT P t e ti k u):∃z,ti.zero=jd z/\z.cells.size=k:=by obtain⟨z,h1,h2⟩:=h.zero;exact⟨z,h1,by rw[<-Kl,<-h2,vS u h.zok,h.us]⟩
theorem zTC{α:Type}{t:TypeId}{f:α->T}{xs ys zs:List α}{s1:Nat}(ht:ElT P t e ti k u)(hv:yI xs ys=jd zs)(h0:E s0=jd (L k f xs))(h1:E s1=jd (L k f ys))(sd:(J6 d Γ.N&&(s0 != d)&&(s1 != d)&&(s1 != s0))=jf):
  Ok P Γ ⟨jd d,.call { callee:=.builtin .append,args:=#[.tmp s0,.tmp s1],argTypes:=#[t,t] },ty,ps,af,gd⟩ E (E.app [(d,jd (L k f zs)),(s0,jd .any),(s1,jd .any)] [(d,0),(s0,1),(s1,1)]):=by
 obtain⟨rfl,hl⟩:=zFl hv;obtain⟨z,hz,fR⟩:=ht.zsize;simp only[J4]at sd;intro S;have:=zKj (P:=P) (Γ:=Γ.at S) (E:=E) (o:=⟨jd d,.call { callee:=.builtin .append,args:=#[.tmp s0,.tmp s1],argTypes:=#[t,t] },ty,ps,af,gd⟩) t e ti z k s0 s1 (xs.map f) (ys.map f) rfl rfl (yE sd.1.1.1) ht.un ht.info hz ht.size ht.pos fR ht.bytes h0 h1
  (by grind) (by grind) (by grind) (by grind)
 rw[<-K6]at this;exact this
theorem zJe{α:Type}{f:α->T}(hf:∀x,(f x).flat=jf):(xs:List α)->kS (xs.map f)=jf
 | []=>rfl
 |x::xs=>by simp only[Ju,kS,hf x,zJe hf xs,Lo]
theorem zKt{α:Type}{t:TypeId}{f:α->T}{xs ys zs:List α}(ht:ElT P t e ti k u)(hf:∀x,(f x).flat=jf)(hv:yI xs ys=jd zs)(h0:E s0=jd (L k f xs))(h1:uZ E y=jd (r,q,L k f ys))(sd:(J6 d Γ.N&&(s0 != d))=jf):
  Ok P Γ ⟨jd d,.call { callee:=.builtin .append,args:=#[.tmp s0,y],argTypes:=#[t,t] },ty,ps,af,gd⟩ E (E.app [(d,jd (L k f zs)),(s0,jd .any)] [(d,0),(s0,1)]):=by
 obtain⟨rfl,hl⟩:=zFl hv;obtain⟨z,hz,fR⟩:=ht.zsize;simp only[J4]at sd;intro S;have:=zKk (P:=P) (Γ:=Γ.at S) (E:=E) (o:=⟨jd d,.call { callee:=.builtin .append,args:=#[.tmp s0,y],argTypes:=#[t,t] },ty,ps,af,gd⟩) t e ti z k s0 y r q (xs.map f) (ys.map f) rfl rfl (yE sd.1) ht.un ht.info hz ht.size ht.pos fR ht.bytes h0 h1 (zJe hf ys)
  (by grind) (by grind)
 rw[<-K6]at this;exact this
end
abbrev IK(k:IntKind)(n:Int):T:=.lit (.int k n)
abbrev Str(s:ByteArray):T:=.lit (.string s)
abbrev Pt{α:Type}(f:α->T)(x:α):T:=.ptr (f x)
abbrev Ro{α:Type}(f:α->T)(x:α):T:=.ro (f x)
abbrev A2{α:Type}(f:α->T)(x:α×α):T:=.agg [f x.1,f x.2]
theorem bd{α β:Type}{o:Option α}{f:α->Option β}{r:β}(h:o.bind f=jd r):∃v,o=jd v/\f v=jd r:=by
 cases o with
 |none=>simp at h
 |some v=>grind
theorem cT{α:Type}{b:Bool}{x y:α}{z:α}(hc:b=jf)(h:cond b x y=z):x=z:=by grind
theorem cF{α:Type}{b:Bool}{x y:α}{z:α}(hc:b=jg)(h:cond b x y=z):y=z:=by grind
theorem sI{α:Type}{x y:α}(h:jd x=jd y):x=y:=Hm.inj h
section
variable {P:Program}{Γ:Ctx}{pn:sF}{E E':Env}{Q:Exit->Env->Prop}{c:Code}{id id':Nat}
theorem nA(h:CW P Γ pn c E Q):yQ P Γ pn c Q .normal E:=h
theorem xA(h:Q (.exit id) E):yQ P Γ pn c Q (.exit id) E:=h
theorem rA(h:Q .ret E):yQ P Γ pn c Q .ret E:=h
theorem nB(h:Q .normal E):yT id Q .normal E:=h
theorem rB(h:Q .ret E):yT id Q .ret E:=h
theorem xB(h:Q .normal E):yT id Q (.exit id) E:=by simp only[yT,if_true];exact h
theorem neX:Exit.exit id≠.normal:=by simp
theorem neR:Exit.ret≠.normal:=by simp
theorem RW.cases{ops:Array Oper}{os:List Oper}(s:Nat)(b:Bool)(hb:E s=jd (B b))(ht:b=jf->RW P Γ pn ops os (E.app [(s,jd (B jf))] []) Q)(hf:b=jg->RW P Γ pn ops os (E.app [(s,jd (B jg))] []) Q):RW P Γ pn ops os E Q:=by
 have key:∀c:Bool,b=c->zQ Γ E (E.app [(s,jd (B c))] []):=by
  rintro c rfl a w hs
  refine hs.weaken fun s' t h=>?_
  by_cases e:s=s'
  ·grind[Env.app,Wr.find]
  ·simp only[Env.app,Wr.find,e,if_false]at h
   grind
 cases hc:b with
 |true=>grind[ghost]
 |false=>grind[ghost]
end
theorem yF{α:Type}{f:α->T}{xs:List α}{v:α}{p:List Nat}(h:ixO xs i=jd v)(hr:(f v).get p=jd u):(L k f xs).get (i.toNat::p)=jd u:=by simp[T.get,(uJ h).2,hr]
theorem vF{t:T}{p:List Nat}(h:t.get p=jd u):(T.ptr t).get (0::p)=jd u:=h
theorem vG{xs:List T}{x:T}{p:List Nat}(hj:xs[j]? =jd x)(h:x.get p=jd u):(T.agg xs).get (j::p)=jd u:=by grind[T.get]
theorem zHh{α:Type}{f:α->T}{xs:List α}{v w:α}{p:List Nat}(h:ixO xs i=jd v)(hr:(f v).set p u=f w):(L k f xs).set (i.toNat::p) u=L k f (xs.set i.toNat w):=by simp[L,T.set,(uJ h).2,hr,Uj]
theorem zDa{t t':T}{p:List Nat}(h:t.set p u=t'):(T.ptr t).set (0::p) u=T.ptr t':=by simp[T.set,h]
class Enc {α:Type} (f:α->T):Prop where
 clean:∀x,zZ (f x)
 rofree:∀x,wX (f x)=jf
 strip:∀x,strip (f x)=f x
 okTup:∀x,(f x).okTup=jf
 rook:∀x,zFe (f x)=jf
theorem zHi{α:Type}{f:α->T}(h:∀x,wX (f x)=jf):(xs:List α)->vT (xs.map f)=jf
 | []=>rfl
 |x::xs=>by simp only[Ju,vT,h x,zHi h xs,Lo]
theorem zHj{α:Type}{f:α->T}(h:∀x,zFe (f x)=jf):(xs:List α)->zAW (xs.map f)=jf
 | []=>rfl
 |x::xs=>by simp only[Ju,zAW,h x,zHj h xs,Lo]
theorem tD{α:Type}{f g:α->T}(h:∀x,strip (f x)=g x):(xs:List α)->wR (xs.map f)=xs.map g
 | []=>rfl
 |x::xs=>by simp only[Ju,wR,h x,tD h xs]
instance:Enc I:=⟨zQe,fun _=>rfl,fun _=>rfl,fun _=>rfl,fun _=>rfl⟩
instance:Enc B:=⟨zX2,fun _=>rfl,fun _=>rfl,fun _=>rfl,fun _=>rfl⟩
instance{k:IntKind}:Enc (IK k):=⟨fun _=>by simp[zZ,yU],fun _=>rfl,fun _=>rfl,fun _=>rfl,fun _=>rfl⟩
instance:Enc Str:=⟨fun _=>by simp[zZ,yU],fun _=>rfl,fun _=>rfl,fun _=>rfl,fun _=>rfl⟩
instance{α:Type}{k:Nat}{f:α->T}[h:Enc f]:Enc (L k f):=
 ⟨fun _=>zQd h.clean,fun xs=>by simp only[wX];exact zHi h.rofree xs,fun xs=>by simp only[L,strip,tD h.strip xs],fun _=>rfl,fun xs=>by simp only[zFe,zHj h.rook xs]⟩
instance{α:Type}{f:α->T}[h:Enc f]:Enc (A2 f):=
 ⟨fun x=>by simp only[zZ,yU,xM];exact⟨h.clean _,h.clean _,trivial⟩,fun x=>by simp only[wX,vT,h.rofree,Lo],fun x=>by simp only[A2,strip,wR,h.strip],
  fun x=>by simp only[T.okTup,yM,h.okTup,Lo],fun x=>by simp only[zFe,zAW,h.rook,Lo]⟩
instance{α:Type}{f:α->T}[h:Enc f]:Enc (Pt f):=
 ⟨fun x=>by simp only[zZ,yU];exact h.clean x,fun x=>by simp only[wX,h.rofree],fun x=>by simp only[Pt,strip,h.strip],fun _=>rfl,fun x=>by simp only[zFe,h.rook]⟩
class uE {α:Type} (f g:α->T):Prop where
 h:∀x,strip (f x)=g x
instance{α:Type}{f:α->T}[h:Enc f]:uE f f:=⟨h.strip⟩
instance{α:Type}{k:Nat}{f g:α->T}[h:uE f g]:uE (L k f) (L k g):=⟨fun xs=>by simp only[L,strip,tD h.h xs]⟩
instance{α:Type}{k:Nat}{g:α->T}:uE (Ro (L k g)) (L k g):=⟨fun _=>rfl⟩
instance{α:Type}{g:α->T}:uE (Ro (Pt g)) (Pt g):=⟨fun _=>rfl⟩
theorem stA{xs ys:List T}(h:wR xs=ys):strip (.agg xs)=.agg ys:=by grind[strip]
theorem stC{x y:T}{xs ys:List T}(h:strip x=y)(h2:wR xs=ys):wR (x::xs)=y::ys:=by grind[wR]
section
variable {E:Env}{rw:Rw}{i s r:Nat}{q:List Nat}{x:Operand}
theorem zTD{α:Type}{f g:α->T}{xs:List α}(h:uE f g):clo E (L k f xs)=.ro (L k g xs):=by simp only[clo,L,strip,tD h.h xs]
theorem zTE{t:T}(h:strip t=u):clo E (.ptr t)=.ro (.ptr u):=by grind[clo,strip]
theorem zBc{tr:T}(hr:E r=jd tr)(hg:tr.get q.reverse=jd u)(h4:kW u=jf):qJ E 4 r q=jd (r,q,u):=by grind[kW,qJ]
theorem zOc{α:Type}{f g:α->T}{xs:List α}{tr:T}(hr:E r=jd tr)(hg:tr.get q.reverse=jd (L k f xs))(h:uE f g):clo E (.same r q)=.ro (L k g xs):=by simp only[clo,zBc hr hg rfl,T.single,if_true,L,strip,tD h.h xs]
theorem yCv{t tr:T}(hr:E r=jd tr)(hg:tr.get q.reverse=jd (.ptr t))(h:strip t=u):clo E (.same r q)=.ro (.ptr u):=by simp only[clo,zBc hr hg rfl,T.single,if_true,strip,h]
theorem yAo{α:Type}{l h:Nat}{f g:α->T}{xs:List α}{tr:T}(hr:E r=jd tr)(hg:tr.get q.reverse=jd (L k f xs))(hs:uE f g)(h1:l<=h)(h2:h<=xs.length):clo E (.sub r q k l h)=.ro (L k g ((xs.drop l).take (h-l))):=by simp only[clo,zBc hr hg rfl,L,tD hs.h xs,Jf,h1,h2,and_self,if_true,Jbo,Uw]
theorem yCw{xs ys:List T}(h:zAY E xs=ys):clo E (.agg xs)=.agg ys:=by grind[clo]
theorem yEz:zAY E []=[]:=rfl
theorem yCx{x y:T}{xs ys:List T}(h:clo E x=y)(h2:zAY E xs=ys):zAY E (x::xs)=y::ys:=by grind[zAY]
mutual
theorem zJf(s:Nat):(t:T)->t.okTup=jf->sT E [] s t=jf
 |.agg xs,h=>by simp only[sT,T.okTup]at h ⊢;exact zHk s xs h
 |.tup _,h=>by grind[T.okTup]
 |.same r q,_|.sub r q _ _ _,_=>by grind[sT]
 |.sl _ _,_|.ptr _,_=>by rfl
 |.lit _,_|.ro _,_|.any,_|.addr _ _,_=>by rfl
theorem zHk(s:Nat):(xs:List T)->yM xs=jf->zAk E [] s xs=jf
 | [],_=>rfl
 |x::xs,h=>by simp only[yM,J4]at h;simp only[zAk,zJf s x h.1,zHk s xs h.2,Lo]
end
theorem agC(t:T)(h:opT E x=jd t)(h1:clo E t=u)(h2:t.okTup=jf):zAZ E [] i x u:=.inr ⟨t,h,h1,by
 cases x with
 |tmp s=>exact zJf s t h2
 |_=>rfl⟩
end
section
variable {P:Program}{Γ:Ctx}{E:Env}{d:Nat}{x y:Operand}{ty:TypeId}{ps:String}{af:Array Edge}{gd:Option (Nat×Bool)}
abbrev zBd(res:List T):Prop:=yZ res/\yM res=jf/\vT res=jf
theorem zFm:zBd []:=⟨trivial,rfl,rfl⟩
theorem zLR{α:Type}{f:α->T}{x:α}(h:Enc f)(h2:zBd ts):zBd (f x::ts):=
 ⟨⟨h.clean x,h2.1⟩,by simp only[yM,h.okTup,h2.2.1,Lo],by simp only[vT,h.rofree,h2.2.2,Lo]⟩
abbrev kM(P:Program)(f:FuncId):Prop:=∀args w,(callFunc f args).run P w=.ok (.enter f args) w
theorem zOd{f:FuncId}{xs:List Operand}{res:List T}(gn:kM P f)(hc:FnC P f us res [])(gj:xJ E [] 0 xs us)(gw:zBd res)(sd:J6 d Γ.N=jf):
  Ok P Γ ⟨jd d,.call { callee:=.value (.func f),args:=xs.toArray,argTypes:=ats },ty,ps,af,gd⟩ E (E.app (cWr d res []) (uA d [])):=
 fun _S=>zKp f (.func f) xs ats us res [] rfl rfl (yE sd) gn rfl hc gj .nil gw
theorem zX3{f:FuncId}{xs:List Operand}{res:List T}(gn:kM P f)(hc:FnC P f us res [])(gf:xs.length=us.length)(gj:∀(i:Nat) u,us[i]? =jd u-> ∃x,xs[i]? =jd x/\opT E x=jd u/\u.flat=jf)(gw:yZ res/\yM res=jf)(sd:J6 d Γ.N=jf):
  Ok P Γ ⟨jd d,.call { callee:=.value (.func f),args:=xs.toArray,argTypes:=ats },ty,ps,af,gd⟩ E (E.app (cWr d res []) (uA d [])):=
 fun _S=>zT0 f (.func f) xs ats us res rfl rfl (yE sd) gn rfl hc gf gj gw
class sG (P:Program) (S:TypeId) (j:Nat) (off:outParam Nat):Prop where
 h:∃fs f fi,P.underlying S=jd (.struct fs)/\fs[j]? =jd f/\P.info? f.type=jd fi/\fi.size≠0/\off=f.offset
theorem yE0{S:TypeId}{xs:List T}(ht:sG P S j off)(hx:uZ E x=jd (r,q,.ptr (.agg xs)))(hu:xs[j]? =jd u)(gB:T.sizes (xs.take j)=off)(sd:J6 d Γ.N=jf):
  Ok P Γ ⟨jd d,.fieldAddr S x j,ty,ps,af,gd⟩ E (E.app [(d,jd (.addr r (j::0::q)))] [(d,0)]):=by
 obtain⟨fs,f,fi,h1,h2,h3,h4,h5⟩:=ht.h;exact fun _=>yCh x S fs f fi j r q xs u rfl rfl (yE sd) h1 h2 h3 h4 hx hu
theorem yCy{S:TypeId}{t:T}{xs:List T}(ht:sG P S j off)(hx:opT E x=jd (.addr r q))(hr:E r=jd t)(hg:t.get q.reverse=jd (.agg xs))(hu:xs[j]? =jd u)(gB:T.sizes (xs.take j)=off)(sd:(J6 d Γ.N&&t.locd q.reverse)=jf):
  Ok P Γ ⟨jd d,.fieldAddr S x j,ty,ps,af,gd⟩ E (E.app [(d,jd (.addr r (j::q)))] [(d,0)]):=by
 obtain⟨fs,f,fi,h1,h2,h3,h4,h5⟩:=ht.h;simp only[J4]at sd;exact fun _=>zNT x S fs f fi j r q t xs u rfl rfl (yE sd.1) h1 h2 h3 h4 hx hr hg sd.2 hu
theorem zTF{S:TypeId}{xs:List T}(ht:sG P S j off)(hx:opT E x=jd (.ro (.ptr (.agg xs))))(hu:xs[j]? =jd u)(gB:T.sizes (xs.take j)=off)(sd:J6 d Γ.N=jf):
  Ok P Γ ⟨jd d,.fieldAddr S x j,ty,ps,af,gd⟩ E (E.app [(d,jd (.ro (.ptr u)))] [(d,0)]):=by
 obtain⟨fs,f,fi,h1,h2,h3,h4,h5⟩:=ht.h;exact fun _=>zTg x S fs f fi j xs u rfl rfl (yE sd) h1 h2 h3 h4 hx hu
def zR{α:Type}(xs:List α)(l h:Int):Option (List α):=if 0<=l/\l<=h/\h<=(xs.length:Int)then jd ((xs.drop l.toNat).take (h.toNat-l.toNat))else je
theorem yCz{α:Type}{t:TypeId}{f:α->T}{xs ys:List α}{lo hi:Option Operand}(ht:zAH P t e ti k)(hv:zR xs l h=jd ys)(hx:uZ E x=jd (r,q,.ro (L k f xs)))(eK:zBv E lo 0 l.toNat)(fy:zBv E hi xs.length h.toNat)(sd:J6 d Γ.N=jf):
  Ok P Γ ⟨jd d,.slice t x lo hi je,ty,ps,af,gd⟩ E (E.app [(d,jd (.ro (L k f ys)))] [(d,0)]):=by
 unfold zR at hv;split at hv
 ·rename_i hc
  simp at hv;subst hv;intro S;have:=zL3 (P:=P) (Γ:=Γ.at S) (E:=E) (o:=⟨jd d,.slice t x lo hi je,ty,ps,af,gd⟩) x lo hi t e ti r q k (xs.map f) l.toNat h.toNat rfl rfl (yE sd) ht.un ht.info ht.size hx eK (by grind) (by omega) (by simp;omega);simpa[L,Jbo,Uw]using this
 ·cases hv
theorem zTG{α:Type}{t:TypeId}{f:α->T}{xs ys:List α}{lo hi:Option Operand}(ht:zAH P t e ti k)(hv:zR xs l h=jd ys)(hx:uZ E x=jd (r,q,L k f xs))(eK:zBv E lo 0 l.toNat)(fy:zBv E hi xs.length h.toNat)(sd:(J6 d Γ.N&&(r != d))=jf):
  Ok P Γ ⟨jd d,.slice t x lo hi je,ty,ps,af,gd⟩ E (E.app [(d,jd (.sub r q k l.toNat h.toNat))] [(d,0)]):=by
 unfold zR at hv;simp only[J4]at sd;split at hv
 ·rename_i hc
  intro S;exact zKc (P:=P) (Γ:=Γ.at S) (E:=E) (o:=⟨jd d,.slice t x lo hi je,ty,ps,af,gd⟩) x lo hi t e ti r q k (xs.map f) l.toNat h.toNat rfl rfl (yE sd.1) ht.un ht.info ht.size hx eK (by grind) (by omega) (by simp;omega) (by grind)
 ·cases hv
end
theorem yL{t:T}(h:zZ t):zZ t:=h
theorem xF{α:Type}{f:α->T}{xs:List α}(hf:∀x,zZ (f x)):zZ (L k f xs):=zQd hf
theorem zAm{t:T}(h:zZ t):zZ (.ptr t):=by simpa only[zZ,yU]using h
theorem zOe{xs:List T}(h:yZ xs):zZ (.agg xs):=by simpa only[zZ,yU]using h
section
variable {P:Program}{Γ:Ctx}{pn:sF}{E E':Env}{Q:Exit->Env->Prop}{c c1 c2:Code}{x:Operand}
theorem CW.condT(hx:opT E x=jd (B jf))(h:CW P Γ pn c1 E Q):CW P Γ pn (.cond x c1 c2) E Q:=by grind[CW.cond]
theorem CW.condF(hx:opT E x=jd (B jg))(h:CW P Γ pn c2 E Q):CW P Γ pn (.cond x c1 c2) E Q:=by grind[CW.cond]
theorem zHl{chg:Chg}{s:Nat}{t:T}(h:E s=jd t)(hf:wr.find s=je:=by rfl)(hb:t.okB chg=jf:=by rfl):E.app wr chg s=jd t:=by grind[Env.app]
theorem wI.gh{ops:Array Oper}{o:Oper}(hg:zQ Γ E E1)(h:wI P Γ ops o E1 E'):wI P Γ ops o E E':=fun a w K Q hs hK=>h a w K Q (hg a w hs) hK
theorem zHm{t:T}(h:opT E x=jd (.ro (.ptr t))):zFL E x=jf:=by simp[zFL,h]
theorem zFn{t:T}(h:uZ E x=jd (r,q,.ptr t)):zFL E x=jf:=by grind[zFL]
end
theorem yC0{n:Nat}:zBv E je n (n:Int).toNat:=by simp[zBv]
theorem yC1:zBv E je 0 (0:Int).toNat:=by simp[zBv]
theorem yAp{n:Int}(h0:0<=n)(h:opT E x=jd (I n)):zBv E (jd x) d n.toNat:=⟨.i64,by grind⟩
theorem uQ{α:Type}{xs ys:List α}(hv:zR xs l h=jd ys):0<=l/\l<=h/\h<=xs.length/\ys=(xs.drop l.toNat).take (h.toNat-l.toNat):=by grind[zR]
theorem zJg{α:Type}{xs ys:List α}(hv:zR xs l h=jd ys):0<=l:=(uQ hv).1
theorem zJh{α:Type}{xs ys:List α}(hv:zR xs l h=jd ys):0<=h:=by have:=uQ hv;omega
theorem zX4{α:Type}{f g:α->T}{xs ys:List α}{tr:T}(hr:E r=jd tr)(hg:tr.get q.reverse=jd (L k f xs))(hs:uE f g)(hv:zR xs l h=jd ys):
  clo E (.sub r q k l.toNat h.toNat)=.ro (L k g ys):=by
 obtain⟨h1,h2,h3,rfl⟩:=uQ hv
 grind[yAo]
section
variable {P:Program}{Γ:Ctx}{E E':Env}{d:Nat}{x y:Operand}{ty:TypeId}{ps:String}{af:Array Edge}{gd:Option (Nat×Bool)}
theorem yC2{t:TypeId}{tr:T}(ht:zTA P t u)(hx:uZ E x=jd (r,q,.ptr t0))(hr:E r=jd tr)(hg:tr.get (0::q).reverse=jd u)(sd:(J6 d Γ.N&&tr.locd (0::q).reverse&&(r != d)&&T.okB [(d,0)] (cpT r u (0::q)))=jf):
  Ok P Γ ⟨jd d,.load t x,ty,ps,af,gd⟩ E (E.app [(d,jd (cpT r u (0::q)))] [(d,0)]):=by
 obtain⟨ds,ti,h1,h2,h3,h4⟩:=ht.h;simp only[J4]at sd;exact fun S=>zL0 x t ds ti r (0::q) tr u rfl rfl (yE sd.1.1.1) h1 h2 h3 h4 (zBJ.ptr hx) hr hg sd.1.1.2 (by grind) sd.2
theorem zZq{t:TypeId}{s:Nat}{tr:T}(hi:P.info? t=jd ti)(gr:(ti.size==u.size&&J6 0 ti.size)=jf)(hx:∀S,zBJ (Γ.at S) E x r q)(hr:E r=jd tr)(hg:tr.get q.reverse=jd u0)(gv:tr.set q.reverse u=tr')(hy:E s=jd u)(hu:zZ u)
  (sd:(tr.single&&tr.locd q.reverse&&vQ u u0&&(r != s)&&u.okTup)=jf):Ok P Γ ⟨je,.store t x (.tmp s),ty,ps,af,gd⟩ E (E.app ((r,jd tr')::sWr r q (.slot s u)) ((r,q.length)::tZ [.slot s u])):=by
 simp only[J4]at sd gr;subst gv;intro S;refine zIR (P:=P) (Γ:=Γ.at S) (E:=E) (o:=⟨je,.store t x (.tmp s),ty,ps,af,gd⟩) t ti x (.tmp s) r q tr u0 (.slot s u) rfl rfl hi (by grind[yR.tree]) (yE gr.2) (hx S) hr sd.1.1.1.1 hg sd.1.1.1.2 sd.1.1.2 (.slot s _)
  ⟨by grind,by simp,?_⟩
 grind[xL]
theorem zR4{t:TypeId}{s:Nat}{tr:T}(hi:P.info? t=jd ti)(gr:(ti.size==u.size&&J6 0 ti.size)=jf)(hx:opT E x=jd (.addr r q))(hr:E r=jd tr)(hg:tr.get q.reverse=jd u0)(gv:tr.set q.reverse u=tr')(hy:E s=jd u)(hu:zZ u)
  (sd:(tr.single&&tr.locd q.reverse&&vQ u u0&&(r != s)&&u.okTup)=jf):Ok P Γ ⟨je,.store t x (.tmp s),ty,ps,af,gd⟩ E (E.app ((r,jd tr')::sWr r q (.slot s u)) ((r,q.length)::tZ [.slot s u])):=
 zZq hi gr (fun _=>zBJ.addr hx) hr hg gv hy hu sd
theorem zZr{t:TypeId}{s:Nat}{tr:T}(hi:P.info? t=jd ti)(gr:(ti.size==u.size&&J6 0 ti.size)=jf)(hx:uZ E x=jd (r,q,.ptr t0))(hr:E r=jd tr)(hg:tr.get (0::q).reverse=jd u0)(gv:tr.set (0::q).reverse u=tr')(hy:E s=jd u)(hu:zZ u)
  (sd:(tr.single&&tr.locd (0::q).reverse&&vQ u u0&&(r != s)&&u.okTup)=jf):Ok P Γ ⟨je,.store t x (.tmp s),ty,ps,af,gd⟩ E (E.app ((r,jd tr')::sWr r (0::q) (.slot s u)) ((r,(0::q).length)::tZ [.slot s u])):=
 zZq hi gr (fun _=>zBJ.ptr hx) hr hg gv hy hu sd
theorem zHn{G:Gh}{s:Nat}:(xs:List T)->yM xs=jf-> ∀(p:List Nat)(i j:Nat)(u:T),xs[j]? =jd u-> ∃l1 l2,yD G s xs p i=l1++vals G s u ((i+j)::p)++l2/\l1.length=T.sizes (xs.take j)
 | [],_,_,_,_,_,h=>by simp at h
 |x::xs,ht,p,i,j,u,h=>by
  simp only[yM,J4]at ht;cases j with
  |zero=>simp at h;subst h;exact⟨[],yD G s xs p (i+1),by rfl,by rfl⟩
  |succ j=>
   obtain⟨l1,l2,h1,h2⟩:=zHn xs ht.2 p (i+1) j u (by grind);refine⟨vals G s x (i::p)++l1,l2,by rw[yD,h1,show i+(j+1)=i+1+j from by omega];simp,?_⟩;rw[J5,vJ x _ (by rintro ys rfl;grind[T.okTup]),h2,Ky,T.sizes]
theorem yC3{S:TypeId}{s:Nat}{xs:List T}(ht:sG P S j off)(hv:∃ds ti fs f,P.underlying S=jd (.struct fs)/\fs[j]? =jd f/\P.underlying f.type=jd ds/\P.info? f.type=jd ti/\zEZ ds= !u.single/\ti.size=u.size)(hx:E s=jd (.agg xs))(hu:xs[j]? =jd u)(gB:T.sizes (xs.take j)=off)
  (sd:(J6 d Γ.N&&yM xs&&u.okTup&&(s != d)&&T.okB [(d,0)] (cpT s u [j]))=jf):
  Ok P Γ ⟨jd d,.field S (.tmp s) j,ty,ps,af,gd⟩ E (E.app [(d,jd (cpT s u [j]))] [(d,0)]):=by
 obtain⟨fs,f,fi,h1,h2,h3,h4,h5⟩:=ht.h;obtain⟨ds,ti,fs',f',g1,g2,g3,g4,g5,g6⟩:=hv;simp only[J4]at sd;rw[h1]at g1;simp at g1;subst g1;rw[h2]at g2;simp at g2;subst g2;rw[h3]at g4;simp at g4;subst g4;intro S';refine xX.value rfl fun a w G g9=>?_
 obtain⟨k1,k2,_⟩:=g9.ent s _ hx;simp only[R]at k2;have k3:=zAE xs [] 0 j u k2 hu;simp only[Ji]at k3;have gc:s≠d:=by grind
 have hJ:∀ys,u≠.tup ys:=zBb sd.1.1.2;have hk:=G.put_keep (w:=w) (w':=w) rfl d (fun z=>G.hd s (z++[j]));have hz:∀z,(G.put d (fun z=>G.hd s (z++[j]))).hd d (z++[])=G.hd s (z++[j]):=by grind[Gh.put_self]
 refine⟨sB G s u [j],w,?_,_,vB g9 rfl (yE sd.1.1.1.1) (fun z=>G.hd s (z++[j])) (fun z=>g9.mem.one _ _) _ _ (by grind[zAh])
  (zDy (fun p=>G.put_other _ p gc) u [j] [] hz hJ (hk.keepR (by grind[kT,qC])) k3) (qC s u [j])⟩
 obtain⟨l1,l2,e1,e2⟩:=zHn (G:=G) (s:=s) xs sd.1.1.1.2 [] 0 j u hu;simp only[Ji]at e1;have e3:l1.length=f.offset:=by omega
 have e4:=vJ (G:=G) (s:=s) u [j] hJ;have aE:(part f.type (yD G s xs [] 0).toArray f.offset).run P w=.ok (sB G s u [j]) w:=by
  rw[e1];cases u with
  |agg ys=>
   simp[T.single]at g5;simp only[vals,T.size]at e4 g6 ⊢
   simp[part,qN g3,g5,sizeOf,typeInfo,h3,sB]
   grind
  |tup ys=>grind
  |_=>
   simp[T.single]at g5;simp[part,qN g3,g5,sB,vals,<-e3]
 simp[execOp,xU k1,mkV,Instr.field,run_underlying h1,h2,asAgg,aE]
theorem zQg{α:Type}{t:TypeId}{n:Nat}{a:Int}{f:α->T}{z:α}(ht:ElT P t e ti k u)(hz:f z=u)(hn:yG a=jd n)(hx:opT E x=jd (I a))(hy:opT E y=jd (I a))(sd:J6 d Γ.N=jf):
  Ok P Γ ⟨jd d,.makeSlice t x y,ty,ps,af,gd⟩ E (E.app [(d,jd (L k f (J1 n z)))] [(d,0)]):=by
 have:=zT8 (P:=P) (Γ:=Γ) (E:=E) (d:=d) (ty:=ty) (ps:=ps) (af:=af) (gd:=gd) ht hn hx hn hy (Je _) sd;rw[<-hz]at this;simpa[L]using this
theorem zTH{t:TypeId}(ht:ElT P t e ti k u)(sd:J6 d Γ.N=jf):Ok P Γ ⟨jd d,.buildSlice t 0 #[],ty,ps,af,gd⟩ E (E.app [(d,jd (.sl k []))] [(d,0)]):=
 fun _=>zGO t e ti k rfl rfl (yE sd) ht.un ht.info
theorem zX5{P:Program}{w:World}{t:TypeId}{a b:Bool}(n:Nat)(h:P.underlying t=jd .bool):(Op.equalIn (n+1) t (.bool a) (.bool b)).run P w=.ok (a==b) w:=by simp only[Op.equalIn,Sem.run_bind,run_underlying h];rfl
theorem zEm(t:TypeId)(x y:Value):Op.equal t x y=Op.equalIn (9999+1) t x y:=rfl
theorem yAq{a b:Bool}(hu:P.underlying xt=jd .bool)(hx:opT E x=jd (B a))(hy:opT E y=jd (B b))(sd:J6 d Γ.N=jf):Ok P Γ ⟨jd d,.binOp .neq xt x y yt,ty,ps,af,gd⟩ E (E.app [(d,jd (B (a != b)))] [(d,0)]):=by
 intro S;refine kK _ rfl rfl (yE sd) fun c w G g9=>?_
 have h1:=(xW g9 hx).1;have h2:=(xW g9 hy).1;have h3:=zX5 (P:=P) (w:=w) (a:=a) (b:=b) 9999 hu;simp[execOp,h1,h2,eqGuard,binOp,zEm,h3,bne]
theorem zGx{P:Program}{w:World}{t:TypeId}{k:IntKind}{a b:Int}(n:Nat)(h:P.underlying t=jd (.int k)):(Op.equalIn (n+1) t (.int k a) (.int k b)).run P w=.ok (a==b) w:=by simp only[Op.equalIn,Sem.run_bind,run_underlying h];simp
end
def zBy:List Nat->Bool
 | []=>jf
 |x::xs=> !xs.contains x&&zBy xs
theorem zFo:{l:List Nat}->zBy l=jf->l.Nodup
 | [],_=>by simp
 |x::xs,h=>by simp only[zBy,J4,Gw,H9,decide_eq_false_iff_not]at h;exact L8.2 ⟨h.1,zFo h.2⟩
def zBz(E:Env):List yR->Prop
 | []=>True
 |.slot s t::l=>(E s=jd t/\zZ t/\t.okTup=jf)/\zBz E l
 |.zero u::l=>u.zOk=jf/\zBz E l
theorem zBz.get{E:Env}:(l:List yR)->zBz E l->(∀s t,yR.slot s t∈l->E s=jd t/\zZ t/\t.okTup=jf)/\ ∀u,yR.zero u∈l->u.zOk=jf
 | [],_=>⟨fun _ _ h=>by simp at h,fun _ h=>by simp at h⟩
 |.slot s t::l,h=>by
  obtain⟨h1,h2⟩:=zBz.get l h.2;exact⟨fun s' t' hm=>by
   rcases J9.1 hm with e|hm
   ·cases e;exact h.1
   ·exact h1 s' t' hm,fun u hm=>by
   rcases J9.1 hm with e|hm
   ·cases e
   ·exact h2 u hm⟩
 |.zero u::l,h=>by
  obtain⟨h1,h2⟩:=zBz.get l h.2;exact⟨fun s' t' hm=>by
   rcases J9.1 hm with e|hm
   ·cases e
   ·exact h1 s' t' hm,fun u' hm=>by
   rcases J9.1 hm with e|hm
   ·cases e;exact h.1
   ·exact h2 u' hm⟩
section
variable {E:Env}
theorem pkN:zBz E []:=trivial
theorem pkS{s:Nat}{t:T}{l:List yR}(h:E s=jd t)(hc:zZ t)(h3:t.okTup=jf)(hl:zBz E l):zBz E (.slot s t::l):=⟨⟨h,hc,h3⟩,hl⟩
theorem pkZ{l:List yR}(h:u.zOk=jf)(hl:zBz E l):zBz E (.zero u::l):=⟨h,hl⟩
theorem zBz.parts{l:List yR}(h:zBz E l)(hn:zBy (d::xL l)=jf):tI E d l:=⟨(zBz.get l h).1,(zBz.get l h).2,zFo hn⟩
def zBQ(E:Env)(zs:List T)(ps:List yR):List (Nat×Operand)->List (Nat×yR)->Prop
 | [],[]=>True
 |x::xs,q::qs=>(x.1=q.1/\kL E x.2 q.2/\ps[q.1]? =jd q.2/\ ∃u,zs[q.1]? =jd u/\u.size=q.2.tree.size)/\zBQ E zs ps xs qs
 |_,_=>False
theorem bqN{zs:List T}{ps:List yR}:zBQ E zs ps [] []:=trivial
theorem bqC{zs:List T}{ps:List yR}{i:Nat}{q:yR}{xs:List (Nat×Operand)}{qs:List (Nat×yR)}(h:kL E x q)(hl:zBQ E zs ps xs qs)(h1:ps[i]? =jd q:=by rfl)(h2:∃u,zs[i]? =jd u/\u.size=q.tree.size:=by exact⟨_,rfl,rfl⟩):zBQ E zs ps ((i,x)::xs) ((i,q)::qs):=⟨⟨rfl,h,h1,h2⟩,hl⟩
theorem zBQ.ix{zs:List T}{ps:List yR}:(pl:List (Nat×Operand))->(qs:List (Nat×yR))->zBQ E zs ps pl qs->pl.map (·.1)=qs.map (·.1)
 | [],[],_=>rfl
 |x::xs,q::qs,h=>by simp[h.1.1,zBQ.ix xs qs h.2]
 | [],_::_,h=>by simp[zBQ]at h
 |_::_,[],h=>by simp[zBQ]at h
theorem zBQ.get{zs:List T}{ps:List yR}:(pl:List (Nat×Operand))->(qs:List (Nat×yR))->zBQ E zs ps pl qs-> ∀(j:Nat)(x:Nat×Operand)(q:Nat×yR),pl[j]? =jd x->qs[j]? =jd q->kL E x.2 q.2/\q.2∈ps/\ ∃u,zs[q.1]? =jd u/\u.size=q.2.tree.size
 | [],[],_,j,_,_,h,_=>by simp at h
 |x::xs,q::qs,h,j,x',q',h1,h2=>by
  cases j with
  |zero=>simp at h1 h2;subst h1;subst h2;exact⟨h.1.2.1,Ls h.1.2.2.1,h.1.2.2.2⟩
  |succ j=>exact zBQ.get xs qs h.2 j x' q' (by simpa using h1) (by simpa using h2)
 | [],_::_,h,_,_,_,_,_=>by simp[zBQ]at h
 |_::_,[],h,_,_,_,_,_=>by simp[zBQ]at h
end
class zGk (P:Program) (t:TypeId) (zs:outParam (List T)):Prop where
 h:∃(place:Nat->Option (Nat×Nat))(z:Value),(∀parts,P.built t parts=Instr.fill place z.cells parts)/\sV zs=z.cells.toList/\kU zs=jf/\ ∀i u,zs[i]? =jd u->place i=jd (T.sizes (zs.take i),u.size)
section
variable {P:Program}{Γ:Ctx}{E E':Env}{d:Nat}{x y:Operand}{ty:TypeId}{ps:String}{af:Array Edge}{gd:Option (Nat×Bool)}
theorem zQh{t:TypeId}{zs:List T}{pa:Array (Nat×Operand)}(hb:zGk P t zs)(pl:List (Nat×Operand))(qs:List (Nat×yR))(pp:List yR)(gz:zBz E pp)(hq:zBQ E zs pp pl qs)(sd:(J6 d Γ.N&&zBy (d::xL pp))=jf)
  (fH:pa=pl.toArray:=by rfl)(gS:qs.foldl (fun ps q=>ps.set q.1 q.2) (zs.map yR.zero)=pp:=by rfl):Ok P Γ ⟨jd d,.build t pa,ty,ps,af,gd⟩ E (E.app ((d,jd (.agg (pp.map yR.tree)))::pWr d pp 0) ((d,0)::tZ pp)):=by
 obtain⟨place,z,h1,h2,h3,h4⟩:=hb.h;simp only[J4]at sd;subst fH;exact fun S=>zTp t place z zs pl qs pp rfl rfl (yE sd.1) h1 h2 h3 h4 gS (gz.parts sd.2) (zBQ.ix _ _ hq) (zBQ.get _ _ hq)
def zLS(k:Nat):List yR->Bool
 | []=>jf
 |p::l=>(p.tree.size==k)&&zLS k l
theorem zLT{k:Nat}:(l:List yR)->zLS k l=jf-> ∀p∈l,p.tree.size=k
 | [],_,_,h=>by simp at h
 |p::l,h,q,hm=>by
  simp only[zLS,J4,beq_iff_eq]at h;rcases J9.1 hm with rfl|hm
  ·exact h.1
  ·exact zLT l h.2 q hm
theorem zOf{t:TypeId}{n:Nat}{pa:Array (Nat×Operand)}(ht:ElT P t e ti k u)(xs:List Operand)(pp:List yR)(ys:List α)(f:α->T)(hx:uM E xs pp)(gz:zBz E pp)
  (sd:(J6 d Γ.N&&zBy (d::xL pp)&&zLS k pp&&J6 0 n&&Nat.ble (n*k) 65536)=jf)(hn:xs.length=n)(fH:pa=((xs.zipIdx 0).map fun x=>(x.2,x.1)).toArray:=by rfl)(hy:pp.map yR.tree=ys.map f:=by rfl):
  Ok P Γ ⟨jd d,.buildSlice t n pa,ty,ps,af,gd⟩ E (E.app ((d,jd (L k f ys))::pWr d pp 0) ((d,0)::tZ pp)):=by
 obtain⟨z,hz,_⟩:=ht.zero;simp only[J4]at sd;subst fH;intro S;have fd:n*k<=65536:=by simpa[Nat.ble_eq]using sd.2
 have:=zI2 (P:=P) (Γ:=Γ.at S) (E:=E) (o:=⟨jd d,.buildSlice t n ((xs.zipIdx 0).map fun x=>(x.2,x.1)).toArray,ty,ps,af,gd⟩) t e ti z k n xs pp rfl rfl (yE sd.1.1.1.1) ht.un ht.info hz ht.size ht.pos hn (yE sd.1.2) (by omega) hx (gz.parts sd.1.1.1.2) (zLT pp sd.1.1.2);rw[hy]at this;exact this
theorem zLU{α:Type}{f g:α->T}(h:∀y,roT (g y)=f y):(ys:List α)->roT.roTs (ys.map g)=ys.map f
 | []=>rfl
 |y::ys=>by simp only[Ju,roT.roTs,h y,zLU h ys]
theorem zHo{α:Type}{t:TypeId}{f g:α->T}{xs ys zs:List α}(ht:ElT P t e ti k u)(mg:∀y,roT (g y)=f y)(gr:∀y,(g y).size=k)(hg:Enc g)(hv:yI xs ys=jd zs)(h0:E s0=jd (L k f xs))(h1:uZ E y=jd (r,q,.ro (L k g ys)))(sd:(J6 d Γ.N&&(s0 != d))=jf):
  Ok P Γ ⟨jd d,.call { callee:=.builtin .append,args:=#[.tmp s0,y],argTypes:=#[t,t] },ty,ps,af,gd⟩ E (E.app [(d,jd (L k f zs)),(s0,jd .any)] [(d,0),(s0,1)]):=by
 obtain⟨rfl,hl⟩:=zFl hv;obtain⟨z,hz,fR⟩:=ht.zsize;simp only[J4]at sd;intro S;have:=zKl (P:=P) (Γ:=Γ.at S) (E:=E) (o:=⟨jd d,.call { callee:=.builtin .append,args:=#[.tmp s0,y],argTypes:=#[t,t] },ty,ps,af,gd⟩) t e ti z k s0 y r q (xs.map f) (ys.map g) rfl rfl (yE sd.1) ht.un ht.info hz ht.size ht.pos fR ht.bytes h0 h1 (zHj hg.rook ys)
  (by intro v hv;obtain⟨y,_,rfl⟩:=Jc.1 hv;exact gr y) (by simpa using sd.2) (by simpa using hl)
 rw[zLU mg,<-K6]at this;exact this
def wJ{α:Type}(xs:List α)(m:Int)(z:α):Option (List α):=if 0<=m/\xs.length+m.toNat<=68719476736 then jd (xs++J1 m.toNat z)else je
theorem zTI{α:Type}{t t2:TypeId}{k2:IntKind}{f:α->T}{z:α}{xs zs:List α}(ht:ElT P t e ti k u)(ao:P.underlying t2=jd (.int k2))(hz:f z=u)(hv:wJ xs m z=jd zs)(h0:E s0=jd (L k f xs))(h1:opT E y=jd (I m))(sd:(J6 d Γ.N&&(s0 != d))=jf):
  Ok P Γ ⟨jd d,.call { callee:=.builtin .append,args:=#[.tmp s0,y],argTypes:=#[t,t2] },ty,ps,af,gd⟩ E (E.app [(d,jd (L k f zs)),(s0,jd .any)] [(d,0),(s0,1)]):=by
 unfold wJ at hv;split at hv
 ·rename_i hc
  simp at hv;subst hv;obtain⟨zv,mO,eW⟩:=ht.zero;simp only[J4]at sd;obtain⟨n,rfl⟩:∃n:Nat,m=n:=⟨m.toNat,by omega⟩;intro S;have:=zGW (P:=P) (Γ:=Γ.at S) (E:=E) (o:=⟨jd d,.call { callee:=.builtin .append,args:=#[.tmp s0,y],argTypes:=#[t,t2] },ty,ps,af,gd⟩) t t2 e k2 ti zv u k s0 y .i64 n (xs.map f) rfl rfl (yE sd.1) ht.un ao ht.info mO ht.size ht.pos ht.bytes ht.zok eW ht.us h0 h1
   (by simpa using sd.2) (by simp at hc ⊢;omega)
  have e:xs.map f++J1 n u=(xs++J1 n z).map f:=by simp[hz]
  rw[e]at this;have h2:((n:Int)).toNat=n:=by simp
  rw[h2];exact this
 ·cases hv
end
section
variable {Γ:Ctx}{E:Env}
theorem zQ.trq(d r:Nat)(q:List Nat){tr:T}(hd:E d=jd (.same r q))(hr:E r=jd tr)(hg:tr.get q.reverse=jd u)(fb:zZ u)(sd:(u.single&&wO tr&&tr.okB [(d,1),(r,q.length+1)]&&(d != r))=jf)(gv:(if q=[]then .same d []else tr.set q.reverse .any)=tr':=by rfl):
  zQ Γ E (E.app [(d,jd u),(r,jd tr')] [(d,1),(r,q.length+1)]):=by
 simp only[J4]at sd
 rintro a w ⟨S,hS,hs⟩
 have gc:d≠r:=by simpa using sd.2
 have:=zNY hs d [] r q (.same r q) tr u hd rfl hr hg sd.1.1.1 fb gc (by simp[T.okB,kR,gc]) sd.1.2 rfl sd.1.1.2;subst gv;exact⟨S,hS,this⟩
theorem zQ.trf(d:Nat)(g:List Nat)(r:Nat)(q:List Nat)(td tr:T){td':T}(hd:E d=jd td)(me:td.get g.reverse=jd (.same r q))(hr:E r=jd tr)(hg:tr.get q.reverse=jd u)(gv:td.set g.reverse u=td')(fb:zZ u)
  (sd:(u.single&&wO td&&wO tr&&td.okB [(d,g.length+1),(r,q.length+1)]&&tr.okB [(d,g.length+1),(r,q.length+1)]&&(d != r))=jf)(py:(if q=[]then .same d g else tr.set q.reverse .any)=tr':=by rfl):
  zQ Γ E (E.app [(d,jd td'),(r,jd tr')] [(d,g.length+1),(r,q.length+1)]):=by
 simp only[J4]at sd
 rintro a w ⟨S,hS,hs⟩
 have gc:d≠r:=by simpa using sd.2
 have:=zNY hs d g r q td tr u hd me hr hg sd.1.1.1.1.1 fb gc sd.1.1.2 sd.1.2 sd.1.1.1.1.2 sd.1.1.1.2;subst gv py;exact⟨S,hS,this⟩
theorem zQ.frz(s:Nat){g:α->T}(xs:List α)(hs:E s=jd (L k f xs))(h:uE f g):zQ Γ E (E.app [(s,jd (.ro (L k g xs)))] [(s,1)]):=by have:=zQ.freeze (Γ:=Γ) s _ hs;simp only[vR,strip,tD h.h xs]at this;exact this
theorem zQ.res(d r:Nat)(q:List Nat)(tr:T)(hd:E d=jd (.same r q))(hr:E r=jd tr)(hg:tr.get q.reverse=jd (.ro u)):zQ Γ E (E.app [(d,jd (.ro u))] []):=by
 rintro a w ⟨S,hS,gJ,G,g9⟩
 refine⟨S,hS,gJ,G,?_⟩;have hk:sL [] G w G w:=⟨fun _ _ _=>rfl,fun _ _ _=>rfl,fun _ _ _ _ _ _ h _=>⟨h,rfl⟩,fun _ _ _ h _=>h,fun b cs e h=>⟨cs,h,rfl⟩⟩;refine wT g9 rfl hk g9.mem (fun s _=>⟨fun n hn=>by simp at hn,rfl⟩) fun s t hs=>?_
 simp only[Wr.find]at hs;split at hs
 ·rename_i e;subst e
  simp at hs;subst hs;obtain⟨h1,h2,_⟩:=g9.ent d _ hd;obtain⟨_,h4,_⟩:=g9.ent r _ hr;simp only[R]at h2;have h5:=(zAx q.reverse tr _ [] h4 hg).1;simp only[rp,Kh,Jh,R]at h5;exact⟨by rw[h1];rfl,by simp only[R];rw[h2];exact h5,by simp[Top]⟩
 ·cases hs
end
theorem zKu:(p:List Nat)-> ∀(t u0 a:T),t.get p=jd u0->(t.set p a).get p=jd a
 | [],t,_,a,_=>by cases t<;>cases a<;>rfl
 |i::p,t,u0,a,h=>by
  cases t with
  |sl k xs|agg xs|tup xs=>
   simp only[T.get,T.set]at h ⊢
   cases hx:xs[i]? with
   |none=>rw[hx]at h;cases h
   |some x=>
    rw[hx]at h;have hi:=(Jl.1 hx).1;simp only[];simp only[T.get,Jaj hi];exact zKu p x u0 a h
  |ptr t=>
   simp only[T.get,T.set]at h ⊢
   split at h
   ·rename_i e;subst e;simp only[if_true,T.get];exact zKu p t u0 a h
   ·cases h
  |_=>simp[T.get]at h
theorem set_set:(p:List Nat)-> ∀(t u0 a b:T),t.get p=jd u0->(t.set p a).set p b=t.set p b
 | [],t,_,a,_,_=>by cases t<;>cases a<;>rfl
 |i::p,t,u0,a,b,h=>by
  cases t with
  |sl k xs|agg xs|tup xs=>
   simp only[T.get,T.set]at h ⊢
   cases hx:xs[i]? with
   |none=>rw[hx]at h;cases h
   |some x=>
    rw[hx]at h;have hi:=(Jl.1 hx).1;simp only[];simp only[T.set,Jaj hi,Jay,set_set p x u0 a b h]
  |ptr t=>
   simp only[T.get,T.set]at h ⊢
   split at h
   ·rename_i e;subst e;simp only[if_true,T.set,set_set p t u0 a b h]
   ·cases h
  |_=>simp[T.get]at h
def jZ:T->Bool
 |.sl _ _|.ptr _=>jf
 |_=>jg
theorem zTJ{t:T}(h:jZ t=jf)(p:List Nat)(hp:p≠[]):jZ (t.set p u)=jf:=by
 cases p with
 |nil=>exact absurd rfl hp
 |cons i p=>cases t<;>simp[jZ]at h<;>simp only[T.set]<;>split<;>rfl
theorem tA{t:T}(h:jZ t=jf)(chg:Chg):t.okB chg=jf/\wO t=jf/\t.single=jf:=by cases t<;>simp[jZ]at h<;>simp[T.okB,wO,T.single]
section
variable {P:Program}{Γ:Ctx}{E E':Env}{d:Nat}{ty:TypeId}{ps:String}{af:Array Edge}{gd:Option (Nat×Bool)}
theorem agM{E:Env}{i:Nat}(t:T)(h:opT E x=jd t)(h1:clo E t=u)(h2:zIV E (rw.map (·.2.1)) x t=jf):zAZ E rw i x u:=.inr ⟨t,h,h1,h2⟩
theorem zHp{E:Env}{i s:Nat}(h:E s=jd u)(hc:zZ u)(hr:wX u=jf)(hs:u.okTup=jf:=by rfl)(hm:(i,s,u')∈rw:=by exact List.mem_singleton.2 rfl):zAZ E rw i (.tmp s) u:=.inl ⟨s,u',rfl,hm,h,hc,hs,hr⟩
abbrev vO(E:Env)(ds r:Nat)(q:List Nat)(tr u:T):Env:=E.app [(ds,jd u),(r,jd (if q=[]then .same ds []else tr.set q.reverse .any))] [(ds,1),(r,q.length+1)]
theorem zQi{f:FuncId}{xs:List Operand}{res:List T}{tr:T}(i ds r:Nat)(q:List Nat)(gn:kM P f)(hc:FnC P f us res [(i,u')])(hs:E ds=jd (.same r q))(hr:E r=jd tr)(hq:tr.get q.reverse=jd u)
  (fb:zZ u)(eT:zZ u')(_:wX u=jf)(mX:wX u'=jf)(gj:xJ (vO E ds r q tr u) [(i,ds,u')] 0 xs us)(gw:zBd res)(gv:tr.set q.reverse u'=tr')
  (sd:(J6 d Γ.N&&(d != ds)&&(d != r)&&(ds != r)&&jZ u&&jZ u'&&jZ tr)=jf)(hx:xs[i]? =jd (.tmp ds))(hu:us[i]? =jd u):
  Ok P Γ ⟨jd d,.call { callee:=.value (.func f),args:=xs.toArray,argTypes:=ats },ty,ps,af,gd⟩ E ((((vO E ds r q tr u).app (cWr d res [(i,ds,u')]) (uA d [(i,ds,u')]))).app [(r,jd tr'),(ds,jd (.same r q))] [(r,q.length+1),(ds,1)]):=by
 simp only[J4]at sd;obtain⟨⟨⟨⟨⟨⟨s1,s2⟩,s3⟩,s4⟩,s5⟩,s6⟩,s7⟩:=sd;have d1:d≠ds:=by simpa using s2
 have d2:d≠r:=by simpa using s3
 have d3:ds≠r:=by simpa using s4
 obtain⟨u1,u2,u3⟩:=tA s5 [];obtain⟨v1,v2,v3⟩:=tA s6 [];have be:cLv u'=1:=by simp[cLv,v3]
 subst gv;intro S
 by_cases pB:q=[]
 ·subst pB
  have htu:tr=u:=by
   have:tr.get []=jd tr:=by cases tr<;>rfl
   simp only[Hw]at hq;rw[this]at hq;exact Hm.inj hq
  subst htu;have ms:∀a b:T,a.set [] b=b:=fun a b=>by cases a<;>rfl
  have bG:(vO E ds r [] tr tr) ds=jd tr:=by simp[vO,Env.app,Wr.find]
  have pQ:((vO E ds r [] tr tr).app (cWr d res [(i,ds,u')]) (uA d [(i,ds,u')])) r=jd (.same ds []):=by
   have h1:(vO E ds r [] tr tr) r=jd (.same ds []):=by simp[vO,Env.app,Wr.find,d3]
   have h2:(cWr d res [(i,ds,u')]).find r=je:=by simp[cWr,Wr.find,d2,d3]
   have h3:(T.same ds []).okB (uA d [(i,ds,u')])=jf:=by simp[T.okB,kR,uA,d1,be]
   simp only[Env.app,h2,h1,h3,if_true]
  have pR:((vO E ds r [] tr tr).app (cWr d res [(i,ds,u')]) (uA d [(i,ds,u')])) ds=jd u':=by simp[Env.app,Wr.find,cWr,d1]
  have:=zLM (P:=P) (Γ:=Γ.at S) (E:=E) (o:=⟨jd d,.call { callee:=.value (.func f),args:=xs.toArray,argTypes:=ats },ty,ps,af,gd⟩) f (.func f) xs ats us res i ds r [] tr tr u' rfl rfl (yE s1) gn rfl hs hr hq u3 fb d3 d2 (tA s7 _).1 (tA s7 []).2.1
   (vO E ds r [] tr tr) _ rfl rfl hc gj (.one d1 hx eT v3 mX bG u3 hu) gw (.same ds []) (.same ds []) pQ rfl rfl pR eT v3 (by simp[T.okB,kR]) rfl (tA s6 _).1 v2
  rw[Hw,ms]at this ⊢
  exact this
 ·have ux:q.reverse≠[]:=by simpa using pB
  have bG:(vO E ds r q tr u) ds=jd u:=by simp[vO,Env.app,Wr.find]
  have j6:=zTJ s7 q.reverse (u:=.any) ux;have pQ:((vO E ds r q tr u).app (cWr d res [(i,ds,u')]) (uA d [(i,ds,u')])) r=jd (tr.set q.reverse .any):=by
   have h1:(vO E ds r q tr u) r=jd (tr.set q.reverse .any):=by simp[vO,Env.app,Wr.find,d3,pB]
   have h2:(cWr d res [(i,ds,u')]).find r=je:=by simp[cWr,Wr.find,d2,d3]
   simp[Env.app,h2,h1,(tA j6 _).1]
  have pR:((vO E ds r q tr u).app (cWr d res [(i,ds,u')]) (uA d [(i,ds,u')])) ds=jd u':=by simp[Env.app,Wr.find,cWr,d1]
  have:=zLM (P:=P) (Γ:=Γ.at S) (E:=E) (o:=⟨jd d,.call { callee:=.value (.func f),args:=xs.toArray,argTypes:=ats },ty,ps,af,gd⟩) f (.func f) xs ats us res i ds r q tr u u' rfl rfl (yE s1) gn rfl hs hr hq u3 fb d3 d2 (tA s7 _).1 (tA s7 []).2.1
   (vO E ds r q tr u) _ rfl rfl hc gj (.one d1 hx eT v3 mX bG u3 hu) gw (tr.set q.reverse .any) .any pQ (zKu _ _ _ _ hq) rfl pR eT v3 (tA j6 _).1 (tA j6 []).2.1 (tA s6 _).1 v2
  rw[set_set _ _ _ _ _ hq]at this;exact this
theorem zGy{f:FuncId}{xs:List Operand}{res:List T}{xf:Operand}(hf:opT E xf=jd (.lit (.func (.func f) #[] #[])))(gn:kM P f)(hc:FnC P f us res [])(gj:xJ E [] 0 xs us)(gw:zBd res)(sd:J6 d Γ.N=jf):
  Ok P Γ ⟨jd d,.call { callee:=.value xf,args:=xs.toArray,argTypes:=ats },ty,ps,af,gd⟩ E (E.app (cWr d res []) (uA d [])):=
 fun _=>zKp f xf xs ats us res [] rfl rfl (yE sd) gn hf hc gj .nil gw
def zDA(E:Env):List Operand->List T->Prop
 | [],[]=>True
 |x::xs,u::us=>(opT E x=jd u/\u.flat=jf)/\zDA E xs us
 |_,_=>False
theorem afN:zDA E [] []:=trivial
theorem afC{xs:List Operand}(h:opT E x=jd u)(h1:u.flat=jf)(h2:zDA E xs us):zDA E (x::xs) (u::us):=⟨⟨h,h1⟩,h2⟩
theorem zDA.get:(xs:List Operand)->(us:List T)->zDA E xs us-> ∀(i:Nat) u,us[i]? =jd u-> ∃x,xs[i]? =jd x/\opT E x=jd u/\u.flat=jf
 | [],[],_,i,u,h=>by simp at h
 |x::xs,v::us,h,i,u,hi=>by
  cases i with
  |zero=>simp at hi;subst hi;exact⟨x,by simp,h.1⟩
  |succ i=>obtain⟨y,h1,h2⟩:=zDA.get xs us h.2 i u (by simpa using hi);exact⟨y,by simpa using h1,h2⟩
 | [],_::_,h,_,_,_=>by simp[zDA]at h
 |_::_,[],h,_,_,_=>by simp[zDA]at h
theorem zQj{f:FuncId}{xs:List Operand}{res:List T}(gn:kM P f)(hc:FnC P f us res [])(ha:zDA E xs us)(gf:xs.length=us.length)(gw:yZ res)(cB:yM res=jf)(sd:J6 d Γ.N=jf):
  Ok P Γ ⟨jd d,.call { callee:=.value (.func f),args:=xs.toArray,argTypes:=ats },ty,ps,af,gd⟩ E (E.app (cWr d res []) (uA d [])):=
 zX3 gn hc gf (zDA.get _ _ ha) ⟨gw,cB⟩ sd
end
noncomputable def zCj {α:Type} (g:Nat->Option α):Option α:=
 open Classical in if h:∃r,∃n,∀m,n<=m->g m=jd r then jd h.choose else je
theorem qK{α:Type}{g:Nat->Option α}{r:α}(h:zCj g=jd r):∃n,g n=jd r:=by
 unfold zCj at h;split at h
 ·rename_i he
  simp at h;obtain⟨n,hn⟩:=he.choose_spec;exact⟨n,by rw[<-h];exact hn n (Je _)⟩
 ·cases h
theorem zAn{α:Type}{g:Nat->Option α}{r:α}(n:Nat)(h:∀m,n<=m->g m=jd r):zCj g=jd r:=by have he:∃r,∃n,∀m,n<=m->g m=jd r:=⟨r,n,h⟩;unfold zCj;rw[dif_pos he];obtain⟨n',hn'⟩:=he.choose_spec;have h1:=h (max n n') (by omega);have h2:=hn' (max n n') (by omega);rw[h1]at h2;exact h2.symm
section
variable {P:Program}{Γ:Ctx}{ops:Array Oper}{o:Oper}{E:Env}
theorem wI.skipW(hd:o.dst=jd d)(sd:J6 d Γ.N=jf)(hw:∀(a:Act)(w:World),qI Γ E a w->Region.wanted o (yielded ops a.tmps)=jg):wI P Γ ops o E (E.app [(d,jd (.tup []))] [(d,0)]):=by
 intro a w K Q hs hK;rw[if_neg (by grind)];obtain⟨S,hS,gJ,G,g9⟩:=hs;refine hK _ _ ⟨S,hS,by rw[hd];exact gJ,G.put d (fun _=>.bool jg),?_⟩ ?_
 ·rw[hd]
  have hu:(Value.bool jg).oneCell'=jf:=rfl;refine wT g9 (by simp[Act.put]) (G.put_keep rfl d _) (g9.mem.put rfl d _ fun _=>hu) ?_ ?_
  ·grind[vZ,Act.put]
  ·intro s t' hs
   rw[vZ]at hs;split at hs
   ·rename_i e;subst e
    simp at hs;subst hs;have gr:=g9.size;have gC:=yE sd;refine⟨?_,by simp[R,RF],by simp[Top,uI]⟩
    grind[Act.put,mkV,jU,undef]
   ·cases hs
 grind[Act.put]
theorem wI.skip2(g:Nat)(b b':Bool)(s:Nat)(hd:o.dst=jd d)(sd:J6 d Γ.N=jf)(fx:(b==b')=jg)(hg:o.guard=jd (g,b))(fm:(ops[g]?).bind (·.dst)=jd s)(hb:E s=jd (.lit (.bool b'))):
  wI P Γ ops o E (E.app [(d,jd (.tup []))] [(d,0)]):=.skipW hd sd fun a w hs=>by
 simp only[Region.wanted,hg,zGZ hs fm hb]
 grind
theorem wI.skip3(g:Nat)(b:Bool)(s:Nat)(hd:o.dst=jd d)(sd:J6 d Γ.N=jf)(hg:o.guard=jd (g,b))(fm:(ops[g]?).bind (·.dst)=jd s)(hb:E s=jd (.tup [])):
  wI P Γ ops o E (E.app [(d,jd (.tup []))] [(d,0)]):=.skipW hd sd fun a w hs=>by
 obtain⟨_,_,_,G,hr⟩:=hs;obtain⟨h1,_,_⟩:=hr.ent s _ hb
 grind[Region.wanted,yielded,mkV]
theorem wI.opE(h:Ok P Γ o E E1)(e:E1=E')(hg:o.guard=je:=by rfl):wI P Γ ops o E E':=e▸wI.op h hg
end
def vH(Γ:Ctx)(P:Program)(rs:Array ResultVar)(us res:List T)(rws:List (Nat×T)):Exit->Env->Prop:=fun e E=> ∃E',zQ Γ E E'/\yCj P rs us res rws e E'
theorem FnC.of_bodyG{f:FuncId}{res:List T}(hf:P.funcs[f]? =jd fn)(hb:fn.body=jd c)(hn:us.length<=fn.ntmps)(ht:uI us)(hr:rws.all (fun x=>decide (x.1<us.length))=jf)
  (h:∀(Γ:Ctx)(v:Nat->Value),Γ.N=fn.ntmps->CW P Γ (zCf v (rws.map (·.1))) c (vU (zI3 0 us)) (vH Γ P fn.results us res rws)):FnC P f us res rws:=by
 refine FnC.of_body hf hb hn ht hr fun Γ v hN=>?_
 intro a w Q' hs hp hQ;refine h Γ v hN a w Q' hs hp ?_
 rintro e E a' w' ⟨E',hg,hq⟩ gF cO
 exact hQ e E' a' w' hq (hg a' w' gF) cO
def zX6(t:T):Prop:=zZ t/\wX t=jf/\strip t=t/\t.okTup=jf/\zFe t=jf
def zTK:List T->Prop
 | []=>True
 |x::xs=>zX6 x/\zTK xs
theorem Enc.t(h:Enc f)(x:α):zX6 (f x):=⟨h.clean x,h.rofree x,h.strip x,h.okTup x,h.rook x⟩
theorem Enc.of{α:Type}{f:α->T}(h:∀x,zX6 (f x)):Enc f:=⟨fun x=>(h x).1,fun x=>(h x).2.1,fun x=>(h x).2.2.1,fun x=>(h x).2.2.2.1,fun x=>(h x).2.2.2.2⟩
theorem zLV{xs:List T}(h:zTK xs):zX6 (.agg xs):=by
 have key:∀xs:List T,zTK xs->yZ xs/\vT xs=jf/\wR xs=xs/\yM xs=jf/\zAW xs=jf:=by
  intro xs
  induction xs with
  |nil=>intro _;exact⟨trivial,rfl,rfl,rfl,rfl⟩
  |cons x xs ih=>
   rintro⟨⟨h1,h2,h3,h4,h5⟩,h⟩
   obtain⟨g1,g2,g3,g4,g5⟩:=ih h;exact⟨⟨h1,g1⟩,by grind[vT],by grind[wR],by grind[yM],by grind[zAW]⟩
 obtain⟨g1,g2,g3,g4,g5⟩:=key xs h;exact⟨zOe g1,by grind[wX],by grind[strip],by grind[T.okTup],by grind[zFe]⟩
section
variable {Γ:Ctx}{E:Env}{d:Nat}
def Gh.cut(G:Gh)(d s0 b lo hi:Nat)(v:Value):Gh where
 hd s z:=if s=d then(if z=[]then v else G.hd s0 z)else G.hd s z
 ad s z:=if s=d then G.ad s0 z else G.ad s z
 lb b' o:=if b'=b/\lo<=o/\o<hi then jd (jf,d,[])else match G.lb b' o with
  |some (f,s,z)=>if s=s0 then jd (f,d,z)else jd (f,s,z)
  |none=>je
 ow b':=match G.ow b' with
  |some (s,z)=>if s=s0 then jd (d,z)else jd (s,z)
  |none=>je
theorem zQk{w:World}(g9:Rep Γ E G tmps w)(hd:d<Γ.N){h cap':Nat}{xs:List T}(ek:E s0=jd (.sl k xs))(gc:s0≠d)(hk:0<k)
  {b cap:Nat}{cs:Array Value}(h1:G.hd s0 []=.slice (jd ⟨b,o0,je⟩) xs.length cap)(h2:w.heap[b]? =jd (.cells cs e (0,0)))(_h3:xs.length<=cap)(h4:cap<=maxLen)(h5:o0+cap*k<=cs.size)(h6:G.ow b=jd (s0,[]))
  (h7:∀o,o0+xs.length*k<=o->o<o0+cap*k->G.lb b o=jd (jf,s0,[]))(h8:RL Γ.St G w s0 xs [] 0 b o0 k)(hh:h<=xs.length)(hc:h<=cap')(ph:cap'<=cap):
  ∃G',Rep Γ (E.app [(d,jd (.sl k (xs.take h))),(s0,jd .any)] [(d,0),(s0,1)]) G' (tmps.setIfInBounds d (.slice (jd ⟨b,o0,je⟩) h cap')) w:=by
 have hm:=g9.mem;obtain⟨e1,_,e3⟩:=g9.ent s0 _ ek
 let v:Value:=.slice (jd ⟨b,o0,je⟩) h cap'
 let G':=G.cut d s0 b (o0+h*k) (o0+cap'*k) v
 have gH:=hm.ow b _ h6;have mJ:∀o f z i,o0+h*k<=o->o<o0+cap'*k->G.lb b o=jd (f,s0,z++[i])->h<=i:=by
  intro o f z i cP cE hl;obtain⟨o,rfl⟩:∃o',o=o0+o':=⟨o-o0,by have:o0<=o0+h*k:=Nat.le_add_right _ _;omega⟩
  replace cP:h*k<=o:=by omega
  by_cases ho:o<xs.length*k
  ·have hj:o/k<xs.length:=(H7 hk).2 ho
   obtain⟨g1,g2,_⟩:=sU xs [] 0 b o0 k (o/k) xs[o/k] h8 (by simp[hj]);obtain⟨y,hy⟩:=zKf xs[o/k] _ b _ (o%k) g1 (by rw[g2];exact Hu _ hk);rw[Ji,Ha,Nat.mul_comm,Lw,hl]at hy;simp only[Hm.injEq,Jah.injEq]at hy;have:=hy.2.2;have hi:i=o/k:=by have:=congrArg List.getLast? this;simpa using this
   rw[hi];exact(Nat.le_div_iff_mul_le hk).2 cP
  ·have:=h7 (o0+o) (by omega) (by have:=Kb k ph;omega)
   rw[hl]at this;simp at this
 have glb:∀b' o f z,G.lb b' o=jd (f,s0,z)-> ¬(b'=b/\o0+h*k<=o/\o<o0+cap'*k)->G'.lb b' o=jd (f,d,z):=fun b' o f z hl hn=>by show(if _ then _ else _)=_;rw[if_neg hn];simp[hl]
 have gow:∀b' z,G.ow b'=jd (s0,z)->G'.ow b'=jd (d,z):=fun b' z hl=>by simp[G',Gh.cut,hl]
 have mv:∀i,i<h->zGF G w G' w s0 [i] d [i]:=fun i hi=>by
  have hn:∀b' o f z,G.lb b' o=jd (f,s0,z++[i])-> ¬(b'=b/\o0+h*k<=o/\o<o0+cap'*k):=by
   rintro b' o f z hl ⟨rfl,cP,cE⟩
   have:=mJ o f z i cP cE hl;omega
  refine⟨⟨fun z=>by simp[G',Gh.cut],fun z _=>by simp[G',Gh.cut],fun b' o f z _ _ hl=>⟨glb _ _ _ _ hl (hn _ _ _ _ hl),rfl⟩,fun b' z _ hl=>gow _ _ hl,fun b' cs' e' hb=>⟨cs',hb,rfl⟩⟩,fun b' o _ hl=>⟨glb _ _ _ _ hl (hn b' o jf [] (by simpa using hl)),rfl⟩,fun b' hl=>gow _ _ hl⟩
 have gu:sL [(d,0),(s0,1)] G w G' w:=by
  refine⟨fun s p ho=>?_,fun s p ho=>?_,fun b' o f s p gV hl hs=>?_,fun b' s p hl hs=>?_,fun b' cs' e' hb=>⟨cs',hb,rfl⟩⟩
  ·have:s≠d:=fun e=>absurd (ho 0 (by simp[e])) (by simp)
   simp[G',Gh.cut,this]
  ·have:s≠d:=fun e=>absurd (ho 0 (by simp[e])) (by simp)
   simp[G',Gh.cut,this]
  ·have eH:s≠s0:=fun e=>hs 1 (by simp[e])
   obtain⟨y,hy⟩:=gV;have fx:b'≠b:=by
    rintro rfl
    rw[h6]at hy;simp at hy;exact eH hy.1.symm
   refine⟨?_,rfl⟩;show(if _ then _ else _)=_;rw[if_neg (fun hn=>fx hn.1)];simp[hl,eH]
  ·have eH:s≠s0:=fun e=>hs 1 (by simp[e])
   simp[G',Gh.cut,hl,eH]
 have gp:Mem Γ G' w:=by
  refine⟨fun s z=>?_,fun b' o l hl=>?_,fun b' l hl=>?_,hm.st,hm.fr,hm.sz,hm.bk⟩
  ·show(if _ then _ else _:Value).oneCell'=jf
   split
   ·split
    ·rfl
    ·exact hm.one _ _
   ·exact hm.one _ _
  ·change(if _ then _ else _)=_ at hl
   split at hl
   ·rename_i hn;rw[hn.1];exact gH
   ·cases hg:G.lb b' o with
    |none=>simp[hg]at hl
    |some x=>exact hm.lb b' o x hg
  ·cases hg:G.ow b' with
   |none=>simp[G',Gh.cut,hg]at hl
   |some x=>exact hm.ow b' x hg
 refine⟨G',wT g9 (by simp) gu gp ?_ ?_⟩
 ·intro s hs
  have fI:s≠d:=by rintro rfl;simp[Wr.find]at hs
  have fJ:s≠s0:=by rintro rfl;simp[Wr.find,gc.symm]at hs
  exact⟨fun n hn=>by simp at hn;rcases hn with h|h;exact fI h.1;exact fJ h.1,by rw[Jj];simp[fI.symm]⟩
 ·intro s t' hs
  by_cases eH:s=d
  ·subst eH
   simp[Wr.find]at hs;subst hs;have gf:(xs.take h).length=h:=by simp;omega
   simp only[Top]at e3;have iB:∀ys:List T,yZ ys-> ∀n,yZ (ys.take n):=by
    intro ys
    induction ys with
    |nil=>intro _ n;simp[yZ,xM]
    |cons y ys ih=>intro hy n;cases n with
     |zero=>simp[yZ,xM]
     |succ n=>exact⟨hy.1,ih hy.2 n⟩
   refine⟨?_,?_,by simp only[Top];exact iB xs e3 h⟩
   ·rw[Jj]
    simp[g9.size,hd,mkV,G',Gh.cut,v]
   ·simp only[R]
    refine .inr ⟨b,o0,cap',cs,e,by rw[gf];simp[G',Gh.cut,v],h2,by omega,by omega,by have:=Kb k ph;omega,gow b _ h6,fun o cP cE=>?_,?_⟩
    ·rw[gf]at cP
     show(if _ then _ else _)=_;rw[if_pos ⟨rfl,cP,cE⟩]
    ·refine zD5 _ [] 0 b o0 fun i x hx=>?_
     rw[Hd]at hx;split at hx
     ·rename_i hi
      obtain⟨g1,g2,g3⟩:=sU xs [] 0 b o0 k i x h8 hx;rw[Ji]at g1 g3 ⊢
      refine⟨?_,g2,jM (mv i hi) x (yU.mono (fun _ _=>False.elim) _ (uG xs e3 i x hx)) g3⟩;refine zEd x [i] [i] b _ (fun z=>by simp[G',Gh.cut]) (fun z=>by simp[G',Gh.cut]) (fun b' o z hl=>⟨glb _ _ _ _ hl ?_,rfl⟩) g1
      rintro⟨rfl,cP,cE⟩
      have:=mJ o jg z i cP cE hl;omega
     ·cases hx
  ·have h9:s=s0/\t'=.any:=by
    simp only[Wr.find]at hs;rw[if_neg (fun h=>eH h.symm)]at hs;split at hs
    ·rename_i h;simp at hs;exact⟨h.symm,hs.symm⟩
    ·cases hs
   obtain⟨rfl,rfl⟩:=h9;refine⟨?_,by simp only[R],by simp[Top]⟩;rw[Jj];simp only[Ne.symm eH,if_false,mkV];rw[e1,yV rfl];simp[G',Gh.cut,eH]
theorem zLW{w:World}(g9:Rep Γ E G tmps w)(hd:d<Γ.N)(ek:E s0=jd (.sl k []))(gc:s0≠d)(a:Option Addr):
  ∃G',Rep Γ (E.app [(d,jd (.sl k [])),(s0,jd .any)] [(d,0),(s0,1)]) G' (tmps.setIfInBounds d (.slice a 0 0)) w:=by
 obtain⟨e1,_,_⟩:=g9.ent s0 _ ek;refine⟨G.put d (fun _=>.slice a 0 0),?_⟩;have hk:sL [(d,0),(s0,1)] G w (G.put d fun _=>.slice a 0 0) w:=by have h0:=G.put_keep (w:=w) (w':=w) rfl d (fun _=>.slice a 0 0);refine⟨fun s p ho=>h0.hd s p (fun n hn=>ho n (by simp at hn ⊢;exact .inl hn)),fun s p ho=>h0.ad s p (fun n hn=>ho n (by simp at hn ⊢;exact .inl hn)),fun b o f s p h1 h2 h3=>h0.lb b o f s p h1 h2 (fun n hn=>h3 n (by simp at hn ⊢;exact .inl hn)),fun b s p h1 h3=>h0.ow b s p h1 (fun n hn=>h3 n (by simp at hn ⊢;exact .inl hn)),h0.blk⟩
 refine wT g9 (by simp) hk (g9.mem.put rfl d _ (fun _=>rfl)) ?_ ?_
 ·intro s hs
  have fI:s≠d:=by rintro rfl;simp[Wr.find]at hs
  have fJ:s≠s0:=by rintro rfl;simp[Wr.find,gc.symm]at hs
  exact⟨fun n hn=>by simp at hn;rcases hn with h|h;exact fI h.1;exact fJ h.1,by rw[Jj];simp[fI.symm]⟩
 ·intro s t' hs
  by_cases eH:s=d
  ·subst eH
   simp[Wr.find]at hs;subst hs;refine⟨by rw[Jj];simp[g9.size,hd,mkV,Gh.put],by simp only[R];exact .inl ⟨trivial,a,by simp[Gh.put]⟩,by simp[Top,yZ,xM]⟩
  ·have h9:s=s0/\t'=.any:=by
    simp only[Wr.find]at hs;rw[if_neg (fun h=>eH h.symm)]at hs;split at hs
    ·rename_i h;simp at hs;exact⟨h.symm,hs.symm⟩
    ·cases hs
   obtain⟨rfl,rfl⟩:=h9;refine⟨?_,by simp only[R],by simp[Top]⟩;rw[Jj];simp only[Ne.symm eH,if_false,mkV];rw[e1,yV rfl];simp[Gh.put,eH]
end
section
variable {P:Program}{Γ:Ctx}{pn:sF}{E E':Env}{Q:Exit->Env->Prop}{d:Nat}{x y:Operand}{ty:TypeId}{ps:String}{af:Array Edge}{gd:Option (Nat×Bool)}
theorem zQl{α:Type}{t:TypeId}{f:α->T}{xs ys:List α}{mx:Option Operand}(ht:ElT P t e ti k u)(hv:zR xs 0 h=jd ys)(h0:E s0=jd (L k f xs))(hy:opT E y=jd (I h))(hmx:mx=je\/ ∃z,mx=jd z/\opT E z=jd (I h))(sd:(J6 d Γ.N&&(s0 != d))=jf):
  Ok P Γ ⟨jd d,.slice t (.tmp s0) je (jd y) mx,ty,ps,af,gd⟩ E (E.app [(d,jd (L k f ys)),(s0,jd .any)] [(d,0),(s0,1)]):=by
 obtain⟨_,cW,fd,rfl⟩:=uQ hv;simp only[J4]at sd;have gc:s0≠d:=by simpa using sd.2
 obtain⟨n,rfl⟩:∃n:Nat,h=n:=⟨h.toNat,by omega⟩;have hn:n<=xs.length:=by omega
 intro S;refine xX.value rfl fun a w G g9=>?_
 obtain⟨e1,e2,_⟩:=g9.ent s0 _ h0;have eD:=(xW g9 hy).1;have pf:a.eval (.tmp s0)=G.hd s0 []:=by rw[xU e1,yV rfl]
 have cZ:=ht.un;have gK:=ht.info;have gr:=ht.size;have fY:List.map f ((xs.drop (0:Int).toNat).take ((n:Int).toNat-(0:Int).toNat))=(xs.map f).take n:=by simp[Uw]
 rw[show L k f ((xs.drop (0:Int).toNat).take ((n:Int).toNat-(0:Int).toNat))=.sl k ((xs.map f).take n)by simp only[L,fY]];have e2':=e2;simp only[R]at e2;rcases e2 with⟨b9,ad,h1⟩|⟨b,o0,cap,cs,e',h1,h2,h3,h4,h5,h6,h7,h8⟩
 ·have eG:xs=[]:=by simpa using b9
  subst eG;simp at hn;subst hn;obtain⟨G',gm⟩:=zLW g9 (yE sd.1) (k:=k) (by rw[h0];rfl) gc ad;refine⟨_,w,?_,G',by simpa using gm⟩;rcases hmx with rfl|⟨z,rfl,hz⟩
  ·simp[execOp,Instr.sliceAt,Instr.slice,run_underlying cZ,pf,h1,eD,sizeOf,typeInfo,gK,Instr.sliceBounds,Instr.sliceBound,asIntOf]
  ·have mO:=(xW g9 hz).1
   simp[execOp,Instr.sliceAt,Instr.slice,run_underlying cZ,pf,h1,eD,mO,sizeOf,typeInfo,gK,Instr.sliceBounds,Instr.sliceBound,asIntOf]
 ·rw[Jf]at h1 h3
  have cR:n<=cap:=by omega
  have cI:cap=0->n=0:=by omega
  rcases hmx with rfl|⟨z,rfl,hz⟩
  ·obtain⟨G',gm⟩:=zQk g9 (yE sd.1) h0 gc ht.pos (by rw[Jf];exact h1) h2 (by rw[Jf];exact h3) h4 h5 h6 h7 h8 (h:=n) (cap':=cap) (by simpa using hn) cR (Je _)
   refine⟨_,w,?_,G',gm⟩;simp[execOp,Instr.sliceAt,Instr.slice,run_underlying cZ,pf,h1,eD,sizeOf,typeInfo,gK,Instr.sliceBounds,Instr.sliceBound,asIntOf,cR,uL]
  ·have mO:=(xW g9 hz).1
   obtain⟨G',gm⟩:=zQk g9 (yE sd.1) h0 gc ht.pos (by rw[Jf];exact h1) h2 (by rw[Jf];exact h3) h4 h5 h6 h7 h8 (h:=n) (cap':=n) (by simpa using hn) (Je _) cR;refine⟨_,w,?_,G',gm⟩;simp[execOp,Instr.sliceAt,Instr.slice,run_underlying cZ,pf,h1,eD,mO,sizeOf,typeInfo,gK,Instr.sliceBounds,Instr.sliceBound,asIntOf,cR,uL]
end
section
variable {P:Program}{Γ:Ctx}{pn:sF}{E E':Env}{Q:Exit->Env->Prop}{d:Nat}{x y:Operand}{ty:TypeId}{ps:String}{af:Array Edge}{gd:Option (Nat×Bool)}{ops:Array Oper}{os:List Oper}
theorem zJi{P:Program}{w:World}{t:TypeId}{a:Option Addr}{n c:Nat}(m:Nat)(h:P.underlying t=jd (.slice e)):(Op.equalIn (m+1) t (.slice a n c) (.slice je 0 0)).run P w=.ok a.isNone w:=by simp only[Op.equalIn,Sem.run_bind,run_underlying h];cases a<;>rfl
theorem RW.isnil{α:Type}{f:α->T}{xs:List α}(hu:P.underlying xt=jd (.slice e))(hx:uZ E x=jd (r,q,u))(cx:u=.ro (L k f xs)\/u=L k f xs)(sd:J6 d Γ.N=jf)(hp:pn.ok (jd d)=jf)
  (h:∀b,(b=jf->xs=[])->RW P Γ pn ops os (E.app [(d,jd (B b))] [(d,0)]) Q):RW P Γ pn ops (⟨jd d,.binOp .eql xt x (.const (.slice je 0 0)) yt,ty,ps,af,je⟩::os) E Q:=by
 intro a w Q' hs fH hQ;obtain⟨S,hS,gJ,G,g9⟩:=id hs;have fP:u.single=jf:=by rcases cx with rfl|rfl<;>rfl
 obtain⟨h1,h2⟩:=qR g9 hx fP;obtain⟨ad,n,c,h3,h4⟩:∃ad n c,a.eval x=.slice ad n c/\(ad.isNone=jf->xs=[]):=by
  rcases cx with rfl|rfl
  ·obtain⟨ad,c,g1,_,_,g2⟩:=zCE h1
   refine⟨ad,_,c,by rw[h2,g1],fun hn=>?_⟩;apply Classical.byContradiction;intro gc;obtain⟨b,o',_,_,_,rfl,_⟩:=g2 (by simpa using gc);simp at hn
  ·simp only[R]at h1
   rcases h1 with⟨g1,ad,g2⟩|⟨b,_,cap,cs,e',g1,_⟩
   ·exact⟨ad,0,0,by rw[h2,g2],fun _=>by simpa using g1⟩
   ·exact⟨_,_,_,by rw[h2,g1],fun hn=>by simp at hn⟩
 have gx:(execOp a.eval ⟨jd d,.binOp .eql xt x (.const (.slice je 0 0)) yt,ty,ps,af,je⟩).run P w=.ok (.value (.bool ad.isNone)) w:=by have h5:(Op.equalIn 10000 xt (.slice ad n c) (.slice je 0 0)).run P w=.ok ad.isNone w:=zJi 9999 hu;have h6:a.eval (.const (.slice je 0 0))=.slice je 0 0:=rfl;simp[execOp,h3,h6,eqGuard,binOp,zEm,h5]
 simp only[wpL,Region.wanted,if_true];refine .inl ?_;unfold Oper.wp;rw[gx,Oper.upon_value];have fD:=vB g9 rfl (yE sd) (fun _=>.bool ad.isNone) (fun _=>rfl) (B ad.isNone) (.bool ad.isNone) (by simp[mkV,Gh.put]) (by simp[R,Gh.put]) (by simp[Top]);refine h ad.isNone h4 _ w Q' ⟨S,hS,gJ,_,fD⟩ ?_ hQ;refine fH.frame hp fun s gF=>?_
 have:d≠s:=fun e=>gF (by rw[e])
 simp[Act.put,Array.getElem?_setIfInBounds_ne this]
theorem zEn{t:TypeId}(hu:P.underlying t=jd (.slice e))(hx:opT E x=jd (.lit (.slice je 0 0)))(sd:J6 d Γ.N=jf):Ok P Γ ⟨jd d,.call { callee:=.builtin .len,args:=#[x],argTypes:=#[t] },ty,ps,af,gd⟩ E (E.app [(d,jd (I 0))] [(d,0)]):=by
 intro S;refine kK (.int .i64 0) rfl rfl (yE sd) fun a w G g9=>?_
 have h1:=(xW g9 hx).1;simp[execOp,resolve,invoke,builtin,h1,Builtin.len_,run_underlying hu,goInt]
theorem zEo{t:TypeId}(hu:P.underlying t=jd (.slice e))(hx:opT E x=jd (.lit (.slice je 0 0)))(sd:J6 d Γ.N=jf):Ok P Γ ⟨jd d,.call { callee:=.builtin .cap,args:=#[x],argTypes:=#[t] },ty,ps,af,gd⟩ E (E.app [(d,jd (I 0))] [(d,0)]):=by
 intro S;refine kK (.int .i64 0) rfl rfl (yE sd) fun a w G g9=>?_
 have h1:=(xW g9 hx).1;simp[execOp,resolve,invoke,builtin,h1,Builtin.cap_,run_underlying hu,goInt]
theorem zQm{t:TypeId}(ht:ElT P t e ti k u)(hx:opT E x=jd (.lit (.slice je 0 0)))(hy:opT E y=jd (I 0))(sd:J6 d Γ.N=jf):Ok P Γ ⟨jd d,.slice t x je (jd y) je,ty,ps,af,gd⟩ E (E.app [(d,jd (.sl k []))] [(d,0)]):=by
 intro S;refine xX.value rfl fun a w G g9=>?_
 have h1:=(xW g9 hx).1;have h2:=(xW g9 hy).1;refine⟨.slice je 0 0,w,?_,_,vB g9 rfl (yE sd) (fun _=>.slice je 0 0) (fun _=>rfl) (.sl k []) (.slice je 0 0) (by simp[mkV,Gh.put]) (by simp[R,Gh.put]) (by simp[Top,yZ,xM])⟩;simp[execOp,Instr.sliceAt,Instr.slice,run_underlying ht.un,h1,h2,sizeOf,typeInfo,ht.info,Instr.sliceBounds,Instr.sliceBound,asIntOf]
theorem zQ.nil(s k:Nat)(hs:E s=jd (.lit (.slice je 0 0))):zQ Γ E (E.app [(s,jd (.sl k []))] [(s,0)]):=by
 rintro a w ⟨S,hS,gJ,G,g9⟩
 refine⟨S,hS,gJ,G,?_⟩;have hk:sL [(s,0)] G w G w:=⟨fun _ _ _=>rfl,fun _ _ _=>rfl,fun _ _ _ _ _ _ h _=>⟨h,rfl⟩,fun _ _ _ h _=>h,fun b cs e h=>⟨cs,h,rfl⟩⟩;refine wT g9 rfl hk g9.mem (fun s' gF=>⟨fun n hn=>?_,rfl⟩) fun s' t gF=>?_
 ·simp at hn
  simp[Wr.find,hn.1]at gF
 ·simp only[Wr.find]at gF
  split at gF
  ·rename_i e;subst e
   simp at gF;subst gF;obtain⟨h1,h2,_⟩:=g9.ent s _ hs;simp only[R]at h2;exact⟨by rw[h1];rfl,by simp only[R];exact .inl ⟨trivial,je,h2⟩,by simp[Top,yZ,xM]⟩
  ·cases gF
theorem zKv{src dst:TypeId}{ds:TypeDesc}{k k':IntKind}{n:Int}(hs:P.underlying src=jd ds)(ht:P.underlying dst=jd (.int k'))(hx:opT E x=jd (IK k n))(sd:J6 d Γ.N=jf):
  Ok P Γ ⟨jd d,.convert src dst x,ty,ps,af,gd⟩ E (E.app [(d,jd (IK k' (k'.wrap n)))] [(d,0)]):=fun _=>zXr src dst ds x k k' n rfl rfl (yE sd) hs ht hx
theorem yAr{k:IntKind}{n:Int}(hx:opT E x=jd (IK k m))(hy:opT E y=jd (IK k n))(sd:J6 d Γ.N=jf):Ok P Γ ⟨jd d,.binOp .add xt x y yt,ty,ps,af,gd⟩ E (E.app [(d,jd (IK k (k.wrap (m+n))))] [(d,0)]):=
 fun _=>tT .add xt yt x y k m n _ rfl rfl (yE sd) hx hy rfl
theorem yAs{k:IntKind}{n:Int}(hx:opT E x=jd (IK k m))(hy:opT E y=jd (IK k n))(sd:J6 d Γ.N=jf):Ok P Γ ⟨jd d,.binOp .mul xt x y yt,ty,ps,af,gd⟩ E (E.app [(d,jd (IK k (k.wrap (m*n))))] [(d,0)]):=
 fun _=>tT .mul xt yt x y k m n _ rfl rfl (yE sd) hx hy rfl
theorem zTL{k:IntKind}{n:Int}(hx:opT E x=jd (IK k m))(hy:opT E y=jd (IK k n))(sd:J6 d Γ.N=jf):Ok P Γ ⟨jd d,.binOp .gtr xt x y yt,ty,ps,af,gd⟩ E (E.app [(d,jd (B (decide (m> n))))] [(d,0)]):=
 fun _=>tT .gtr xt yt x y k m n _ rfl rfl (yE sd) hx hy rfl
def zGl(k:IntKind)(m n:Int):Int:=k.wrap ((BitVec.ofInt k.bits m &&& BitVec.ofInt k.bits n).toNat:Int)
theorem yAt{k:IntKind}{n:Int}(hx:opT E x=jd (IK k m))(hy:opT E y=jd (IK k n))(sd:J6 d Γ.N=jf):Ok P Γ ⟨jd d,.binOp .and xt x y yt,ty,ps,af,gd⟩ E (E.app [(d,jd (IK k (zGl k m n)))] [(d,0)]):=by
 intro S;refine kK (.int k (zGl k m n)) rfl rfl (yE sd) fun a w G g9=>?_
 have h1:=(xW g9 hx).1;have h2:=(xW g9 hy).1;simp[execOp,h1,h2,eqGuard,binOp,Op.intBits,zGl]
theorem yAu{k k':IntKind}{n:Int}(hn:0<=n)(hx:opT E x=jd (IK k m))(hy:opT E y=jd (IK k' n))(sd:J6 d Γ.N=jf):Ok P Γ ⟨jd d,.binOp .shr xt x y yt,ty,ps,af,gd⟩ E (E.app [(d,jd (IK k (m.fdiv (2 ^ (min n.toNat k.bits)))))] [(d,0)]):=by
 intro S;refine kK (.int k (m.fdiv (2 ^ (min n.toNat k.bits)))) rfl rfl (yE sd) fun a w G g9=>?_
 have h1:=(xW g9 hx).1;have h2:=(xW g9 hy).1;have h3:¬n<0:=by omega
 simp[execOp,h1,h2,eqGuard,binOp,Op.shift,h3]
end
structure zTM (P:Program) (f:Field) (i:Nat):Prop where
 name:f.name≠ "_"
 off:f.offset=i
 ty:P.underlying f.type=jd (.int .i64)
class zX7 (P:Program) (t:TypeId):Prop where
 h:∃f0 f1 f2 f3:Field,P.underlying t=jd (.struct #[f0,f1,f2,f3])/\zTM P f0 0/\zTM P f1 1/\zTM P f2 2/\zTM P f3 3
 st:P.stoodInHeld t=jg
 gd:P.eqGuardType P.depth t=jg
theorem zEp{w:World}{f:Field}{i:Nat}(h:zTM P f i)(cs:Array Value)(v:Value)(hv:cs[i]? =jd v):(part f.type cs f.offset).run P w=.ok v w:=by simp[part,qN h.ty,zEZ,h.off,hv]
theorem zTN{w:World}{t:TypeId}(h:zX7 P t)(a b c d a' b' c' d':Int)(m:Nat):
  (Op.equalIn (m+2) t (.agg #[.int .i64 a,.int .i64 b,.int .i64 c,.int .i64 d]) (.agg #[.int .i64 a',.int .i64 b',.int .i64 c',.int .i64 d'])).run P w=.ok (a==a'&&(b==b'&&(c==c'&&d==d'))) w:=by
 obtain⟨f0,f1,f2,f3,h1,g0,g1,g2,g3⟩:=h.h;have k0:=fun(x y:Int)=>zGx (P:=P) (w:=w) (a:=x) (b:=y) m g0.ty
 have k1:=fun(x y:Int)=>zGx (P:=P) (w:=w) (a:=x) (b:=y) m g1.ty
 have k2:=fun(x y:Int)=>zGx (P:=P) (w:=w) (a:=x) (b:=y) m g2.ty
 have k3:=fun(x y:Int)=>zGx (P:=P) (w:=w) (a:=x) (b:=y) m g3.ty
 have gA:=h.st;rw[Op.equalIn];simp only[Sem.run_bind,run_underlying h1];have q0:=fun(a b c d:Int)=>zEp (w:=w) g0 #[.int .i64 a,.int .i64 b,.int .i64 c,.int .i64 d] (.int .i64 a) rfl
 have q1:=fun(a b c d:Int)=>zEp (w:=w) g1 #[.int .i64 a,.int .i64 b,.int .i64 c,.int .i64 d] (.int .i64 b) rfl
 have q2:=fun(a b c d:Int)=>zEp (w:=w) g2 #[.int .i64 a,.int .i64 b,.int .i64 c,.int .i64 d] (.int .i64 c) rfl
 have q3:=fun(a b c d:Int)=>zEp (w:=w) g3 #[.int .i64 a,.int .i64 b,.int .i64 c,.int .i64 d] (.int .i64 d) rfl
 by_cases e0:a=a'<;>by_cases e1:b=b'<;>by_cases e2:c=c'<;>by_cases e3:d=d'<;>
  simp[gA,g0.name,g1.name,g2.name,g3.name,q0,q1,q2,q3,k0,k1,k2,k3,e0,e1,e2,e3]
section
variable {P:Program}{Γ:Ctx}{E E':Env}{d:Nat}{x y:Operand}{ty:TypeId}{ps:String}{af:Array Edge}{gd:Option (Nat×Bool)}
theorem yAv{t t':TypeId}{s s':Nat}{a b c e a' b' c' e':Int}(h:zX7 P t)(hx:E s=jd (.agg [I a,I b,I c,I e]))(hy:E s'=jd (.agg [I a',I b',I c',I e']))(sd:J6 d Γ.N=jf):
  Ok P Γ ⟨jd d,.binOp .eql t (.tmp s) (.tmp s') t',ty,ps,af,gd⟩ E (E.app [(d,jd (B (a==a'&&(b==b'&&(c==c'&&e==e')))))] [(d,0)]):=by
 intro S;refine kK _ rfl rfl (yE sd) fun A w G g9=>?_
 obtain⟨h1,h2,_⟩:=g9.ent s _ hx;obtain⟨h3,h4,_⟩:=g9.ent s' _ hy;simp only[R,RF]at h2 h4;have e1:A.eval (.tmp s)=.agg #[.int .i64 a,.int .i64 b,.int .i64 c,.int .i64 e]:=by rw[xU h1];simp[mkV,yD,vals,h2]
 have e2:A.eval (.tmp s')=.agg #[.int .i64 a',.int .i64 b',.int .i64 c',.int .i64 e']:=by rw[xU h3];simp[mkV,yD,vals,h4]
 have h5:(Op.equalIn 10000 t (.agg #[.int .i64 a,.int .i64 b,.int .i64 c,.int .i64 e]) (.agg #[.int .i64 a',.int .i64 b',.int .i64 c',.int .i64 e'])).run P w=_:=zTN (w:=w) h a b c e a' b' c' e' 9998;have hg:=h.gd;simp[execOp,e1,e2,eqGuard,binOp,zEm,h5,hg]
end
abbrev vI(n:Int):Value:=.int .i64 n
section
variable {Γ:Ctx}{E:Env}
theorem zLX{w:World}(g9:Rep Γ E G tmps w){xs us:List Int}(ek:E s0=jd (L 1 I xs))(gf:us.length=xs.length)
  {b cap:Nat}{cs cs':Array Value}(h1:G.hd s0 []=.slice (jd ⟨b,o0,je⟩) xs.length cap)(h2:w.heap[b]? =jd (.cells cs e (0,0)))(h3:xs.length<=cap)(h4:cap<=maxLen)(h5:o0+cap*1<=cs.size)(h6:G.ow b=jd (s0,[]))
  (h7:∀o,o0+xs.length*1<=o->o<o0+cap*1->G.lb b o=jd (jf,s0,[]))(h8:RL Γ.St G w s0 (xs.map I) [] 0 b o0 1)
  (k1:w'.heap[b]? =jd (.cells cs' e (0,0)))(k2:cs'.size=cs.size)(k3:∀b',b'≠b->w'.heap[b']? =w.heap[b']?)(k4:w'.heap.size=w.heap.size)(ko:w'.os=w.os)(kq:w'.output=w.output)(k5:∀(i:Nat) u,us[i]? =jd u->cs'[o0+i]? =jd (vI u)):
  ∃G',Rep Γ (E.app [(s0,jd (L 1 I us))] [(s0,1)]) G' tmps w':=by
 have hm:=g9.mem;obtain⟨e1,_,_⟩:=g9.ent s0 _ ek;have gH:=hm.ow b _ h6
 let G':Gh:={ G with hd:=fun s z=>if s=s0 then(match z with
  | [i]=>(match us[i]? with
   |some u=>vI u
   |none=>G.hd s0 z)
  |_=>G.hd s0 z)else G.hd s z }
 have hB:Blk w w':=by
  intro b' cs2 e2 hb
  by_cases fx:b'=b
  ·subst fx
   rw[h2]at hb;simp at hb;obtain⟨rfl,rfl⟩:=hb;exact⟨cs',k1,k2⟩
  ·exact⟨cs2,by rw[k3 b' fx];exact hb,rfl⟩
 have gu:sL [(s0,1)] G w G' w':=by
  refine⟨fun s p ho=>?_,fun _ _ _=>rfl,fun b' o f s p gV hl hs=>⟨hl,?_⟩,fun _ _ _ hl _=>hl,hB⟩
  ·by_cases h:s=s0
   ·subst h
    have:p=[]:=Ke (by have:=ho 1 (by simp);omega);subst this;simp[G']
   ·simp[G',h]
  ·have eH:s≠s0:=fun e=>hs 1 (by simp[e])
   obtain⟨y,hy⟩:=gV;have fx:b'≠b:=by
    rintro rfl
    rw[h6]at hy;simp at hy;exact eH hy.1.symm
   simp[yN,World.cell?,k3 b' fx]
 have gp:Mem Γ G' w':=by
  refine⟨fun s z=>?_,fun b' o l hl=>?_,fun b' l hl=>?_,fun b' x hx=>?_,fun b' h h'=>?_,by rw[k4];exact hm.sz,hm.bk.trans hB ko kq⟩
  ·show(if _ then _ else _:Value).oneCell'=jf
   split
   ·split
    ·split
     ·rfl
     ·exact hm.one _ _
    ·exact hm.one _ _
   ·exact hm.one _ _
  ·have:=hm.lb b' o l hl;exact⟨by rw[k4];exact this.1,this.2⟩
  ·have:=hm.ow b' l hl;exact⟨by rw[k4];exact this.1,this.2⟩
  ·have:b'≠b:=by rintro rfl;rw[gH.2.2]at hx;cases hx
   rw[k3 b' this];exact hm.st b' x hx
  ·have:b'≠b:=by
    rintro rfl
    rcases gH.2.1 with h0|h0
    ·omega
    ·exact h' h0
   rw[k3 b' this];exact hm.fr b' h h'
 refine⟨G',wT g9 rfl gu gp ?_ ?_⟩
 ·intro s hs
  rw[vZ]at hs;split at hs
  ·cases hs
  ·rename_i gc
   exact⟨fun n hn=>gc (by simp at hn;exact hn.1.symm),rfl⟩
 ·intro s t' hs
  rw[vZ]at hs;split at hs
  ·rename_i he;subst he
   simp at hs;subst hs;refine⟨by rw[e1];simp[mkV,G'],?_,by simp only[Top];exact jE zQe us⟩;simp only[R];refine .inr ⟨b,o0,cap,cs',e,by simp[G',h1,gf],k1,by simp[gf];exact h3,h4,by omega,h6,fun o cP cE=>h7 o (by simpa[gf]using cP) cE,?_⟩;refine zD5 _ [] 0 b o0 fun i x hx=>?_
   rw[Jw,Kf]at hx;obtain⟨u,hu,rfl⟩:=hx;have hi:=(Jl.1 hu).1;obtain⟨g1,g2,_⟩:=sU _ [] 0 b o0 1 i (I xs[i]) h8 (by simp[show i<xs.length by omega]);simp only[Ji,Ly,Loc]at g1 ⊢
   refine⟨⟨g1.1,g1.2.1,?_⟩,rfl,by simp[R,G',hu]⟩;have:=k5 i u hu;simp[yN,World.cell?,k1,this,G',hu]
  ·cases hs
def zFS(P:Program)(Γ:Ctx)(E:Env)(y:Operand)(ys:List Int):Prop:=∀(a:Act)(w:World)(G:Gh),Rep Γ E G a.tmps w-> ∃xa c,a.eval y=.slice xa ys.length c/\
 ∀(n:Nat),n<=ys.length->(Builtin.firstCells 1 n (.slice xa ys.length c)).run P w=.ok ((ys.take n).map vI).toArray w
theorem zBK{w:World}{b o:Nat}{cs:Array Value}{fr:Nat×Nat}(hb:w.heap[b]? =jd (.cells cs e fr))(ys:List Int)(hv:∀(i:Nat) u,ys[i]? =jd u->cs[o+i]? =jd (vI u))(n:Nat)(hn:n<=ys.length)(len cap:Nat):
  (Builtin.firstCells 1 n (.slice (jd ⟨b,o,je⟩) len cap)).run P w=.ok ((ys.take n).map vI).toArray w:=by
 refine run_firstCells_some (P:=P) w 1 n ⟨b,o,je⟩ len cap _ (by simp;omega) fun j v hj=>?_
 rw[Jw,Kf]at hj;obtain⟨u,hu,rfl⟩:=hj;rw[Hd]at hu;split at hu
 ·rw[uL]
  have:=hv j u hu;simp[World.cell?,hb,this]
 ·cases hu
theorem zCk{w:World}{a:Option Addr}{c:Nat}:(Builtin.firstCells 1 0 (.slice a 0 c)).run P w=.ok #[] w:=by cases a<;>simp[Builtin.firstCells,loadCells,loadCellsFrom]
theorem zFS.ro{y:Operand}{ys:List Int}(h:uZ E y=jd (r,q,.ro (L 1 I ys))):zFS P Γ E y ys:=fun a w G g9=>by
 obtain⟨h1,h2⟩:=qR g9 h rfl;obtain⟨xa,c,g1,_,_,g2⟩:=zCE h1;rw[Jf]at g1;refine⟨xa,c,by rw[h2,g1],fun n hn=>?_⟩
 by_cases hy:ys=[]
 ·subst hy
  simp at hn;subst hn;simpa using zCk
 ·obtain⟨b,o,cs,e,fr,rfl,g3,g4⟩:=g2 (by simpa using hy)
  refine zBK (g9.mem.st b _ g3) ys (fun i u hu=>?_) n hn _ _;have:=zGt _ cs o 1 i (I u) g4 (by simp[hu]);simp only[RoC,Ly]at this;exact this.1
theorem zQn{w:World}{s b:Nat}{cs:Array Value}{xs:List Int}{St:Stb}(h2:w.heap[b]? =jd (.cells cs e (0,0)))(h8:RL St G w s (xs.map I) q 0 b o0 1)(i:Nat)(u:Int)(hu:xs[i]? =jd u):cs[o0+i]? =jd (vI u):=by obtain⟨g1,_,g3⟩:=sU _ q 0 b o0 1 i (I u) h8 (by simp[hu]);simp only[Loc,R,Ji,Ly]at g1 g3;have:=g1.2.2;simp only[yN,World.cell?,h2]at this;simpa[g3]using this
theorem zFS.sub{s:Nat}{tr:T}{xs ys:List Int}(hs:E s=jd (.sub r q 1 l.toNat h.toNat))(hr:E r=jd tr)(hg:tr.get q.reverse=jd (L 1 I xs))(hv:zR xs l h=jd ys):zFS P Γ E (.tmp s) ys:=fun a w G g9=>by
 obtain⟨k1,k2,k3,rfl⟩:=uQ hv;obtain⟨e1,e2,_⟩:=g9.ent s _ hs;obtain⟨_,e4,_⟩:=g9.ent r _ hr;simp only[R]at e2;have h5:=(zAx q.reverse tr _ [] e4 hg).1;simp only[rp,Kh,Jh,R]at h5;have gf:((xs.drop l.toNat).take (h.toNat-l.toNat)).length=h.toNat-l.toNat:=by simp;omega
 rw[gf];have pf:a.eval (.tmp s)=G.hd s []:=by rw[xU e1,yV rfl]
 rcases h5 with⟨g1,ad,g2⟩|⟨b,o0,cap,cs,e,g1,g2,g3,_,_,_,_,g8⟩
 ·have hy:xs=[]:=by simpa using g1
  subst hy;have iz:l.toNat=0:=by simp at k3;omega
  have tg:h.toNat=0:=by simp at k3;omega
  refine⟨ad,0,by rw[pf,e2,g2,iz,tg];simp[zAO],fun n hn=>?_⟩;simp[tg]at hn;subst hn;rw[iz,tg];simpa using zCk
 ·rw[Jf]at g1 g3
  refine⟨if cap=l.toNat then jd ⟨b,o0,je⟩else jd ⟨b,o0+l.toNat,je⟩,cap-l.toNat,by rw[pf,e2,g1];simp only[zAO,He,uL,Ly],fun n hn=>?_⟩;split
  ·have:n=0:=by omega
   subst this;simp[Builtin.firstCells,loadCells,loadCellsFrom]
  ·refine zBK g2 _ (fun i u hu=>?_) n (by rw[gf];exact hn) _ _
   rw[Hd]at hu;split at hu
   ·rw[Lx]at hu
    rw[Ha];exact zQn g2 g8 _ u hu
   ·cases hu
def zCl(Γ:Ctx)(E:Env)(x:Operand)(s0 lo hi:Nat):Prop:=∀(a:Act)(w:World)(G:Gh),Rep Γ E G a.tmps w->a.eval x=zAO (G.hd s0 []) 1 lo hi
theorem zCl.slot{xs:List Int}(h:E s0=jd (L 1 I xs)):zCl Γ E (.tmp s0) s0 0 xs.length:=fun a w G g9=>by obtain⟨e1,e2,_⟩:=g9.ent s0 _ h;obtain⟨ad,c,g⟩:=zJZ e2;rw[Jf]at g;rw[xU e1,yV rfl,g];simp[zAO];intro;cases ad<;>simp[Addr.add]
theorem zCl.same{s:Nat}{xs:List Int}(hs:E s=jd (.same s0 []))(h:E s0=jd (L 1 I xs)):zCl Γ E (.tmp s) s0 0 xs.length:=fun a w G g9=>by obtain⟨e1,e2,_⟩:=g9.ent s _ hs;have:=zCl.slot h a w G g9;obtain⟨e3,_,_⟩:=g9.ent s0 _ h;simp only[R]at e2;rw[xU e3,yV rfl]at this;rw[xU e1,yV rfl,e2];exact this
theorem zCl.sub{s lo hi:Nat}(hs:E s=jd (.sub s0 [] 1 lo hi)):zCl Γ E (.tmp s) s0 lo hi:=fun a w G g9=>by obtain⟨e1,e2,_⟩:=g9.ent s _ hs;simp only[R]at e2;rw[xU e1,yV rfl,e2]
end
theorem zR5{α:Type}{xs ys:List α}(hv:zR xs l h=jd ys):l.toNat<=h.toNat:=by have:=uQ hv;omega
theorem zR6{α:Type}{xs ys:List α}(hv:zR xs l h=jd ys):h.toNat<=xs.length:=by have:=uQ hv;omega
theorem zQo(l z:List α)(lo i:Nat)(eK:lo+z.length<=l.length):(l.take lo++z++l.drop (lo+z.length))[i]? =if i<lo then l[i]? else if i<lo+z.length then z[i-lo]? else l[i]?:=by
 have hm:min lo l.length=lo:=by omega
 by_cases c1:i<lo
 ·rw[if_pos c1,Jg,K1 (by simp;omega),Hd,if_pos c1]
 ·rw[if_neg c1]
  by_cases c2:i<lo+z.length
  ·rw[if_pos c2,Jg,Jm (by simp;omega),Kd,hm,K1 (by omega)]
  ·rw[if_neg c2,Jg,Jm (by simp;omega),Kd,hm,Jm (by omega),Lx]
   congr 1;omega
def wP(xs:List Int)(lo:Nat)(zs:List Int):List Int:=xs.take lo++zs++xs.drop (lo+zs.length)
theorem zKw{lo hi:Nat}{y:Operand}{ty:TypeId}{ps:String}{af:Array Edge}{gd:Option (Nat×Bool)}{t t2:TypeId}{xs ys:List Int}(ht:ElT P t e ti 1 u)(h0:E s0=jd (L 1 I xs))(hx:∀S,zCl (Γ.at S) E x s0 lo hi)(hy:∀S,zFS P (Γ.at S) E y ys)(h1:lo<=hi)(h2:hi<=xs.length)(sd:(J6 d Γ.N&&(s0 != d))=jf):
  Ok P Γ ⟨jd d,.call { callee:=.builtin .copy,args:=#[x,y],argTypes:=#[t,t2] },ty,ps,af,gd⟩ E ((E.app [(s0,jd (L 1 I (wP xs lo (ys.take (hi-lo)))))] [(s0,1)]).app [(d,jd (I ((min ys.length (hi-lo):Nat):Int)))] [(d,0)]):=by
 simp only[J4]at sd;have gc:s0≠d:=by simpa using sd.2
 intro S;refine xX.value rfl fun a w G g9=>?_
 obtain⟨e1,e2,_⟩:=g9.ent s0 _ h0;obtain⟨xa,c,g1,g2⟩:=hy S a w G g9;have g3:=hx S a w G g9;have fc:min ys.length (hi-lo)<=ys.length:=by omega
 have g4:=g2 _ fc;have eE:ys.take (hi-lo)=ys.take (min ys.length (hi-lo)):=by rw[List.take_eq_take_iff];omega
 rw[eE]
 generalize hn:min ys.length (hi-lo)=n at*
 have ch:(ys.take n).length=n:=by simp;omega
 have gf:(wP xs lo (ys.take n)).length=xs.length:=by simp[wP,ch];omega
 have key:∃w',(Builtin.copy_ #[t,t2] ty #[a.eval x,a.eval y]).run P w=.ok (goInt n) w'/\ ∃G',Rep (Γ.at S) (E.app [(s0,jd (L 1 I (wP xs lo (ys.take n))))] [(s0,1)]) G' a.tmps w':=by
  have e2':=e2;simp only[R]at e2;rcases e2 with⟨k1,ad,k2⟩|⟨b,o0,cap,cs,e',k1,k2,k3,k4,k5,k6,k7,k8⟩
  ·have eG:xs=[]:=by simpa using k1
   subst eG;simp at h2;subst h2;have pW:n=0:=by omega
   subst pW;have eK:lo=0:=by omega
   subst eK;refine⟨w,?_,G,?_⟩
   ·rw[g3,k2,g1]
    cases ad<;>cases xa<;>simp[zAO,Builtin.copy_,run_underlying ht.un,Builtin.lenOf,sizeOf,typeInfo,ht.info,Builtin.firstCells,loadCells,loadCellsFrom,storeCells]
   ·refine wT g9 rfl ⟨fun _ _ _=>rfl,fun _ _ _=>rfl,fun _ _ _ _ _ _ h _=>⟨h,rfl⟩,fun _ _ _ h _=>h,fun b cs e h=>⟨cs,h,rfl⟩⟩ g9.mem (fun s hs=>⟨fun n hn=>by simp at hn;simp[Wr.find,hn.1]at hs,rfl⟩) fun s t' hs=>?_
    rw[vZ]at hs;split at hs
    ·rename_i he;subst he
     simp at hs;subst hs;simpa[wP]using g9.ent s0 _ h0
    ·cases hs
  ·rw[Jf]at k1 k3 k7
   have gr:o0+cap<=cs.size:=by omega
   have gA:=run_storeCells_at P b (o0+lo) e' ((ys.take n).map vI) 0 cs w k2 (by simp;omega) (by intro v hv;obtain⟨u,_,rfl⟩:=Jc.1 hv;rfl);simp only[Um,Jf]at gA
   generalize ej:w.setRow b (cs.toList.take (o0+lo)++(ys.take n).map vI++cs.toList.drop (o0+lo+(ys.take n).length)).toArray=w' at gA
   have gy:cs.toList.length=cs.size:=Kl ..
   by_cases mj:cap=lo
   ·have pW:n=0:=by omega
    subst pW;refine⟨w,?_,G,?_⟩
    ·rw[g3,k1,g1]
     have g5:(Builtin.firstCells 1 0 (.slice xa ys.length c)).run P w=.ok #[] w:=by simpa using g4
     simp[zAO,Builtin.copy_,run_underlying ht.un,Builtin.lenOf,sizeOf,typeInfo,ht.info,ht.size,show hi-lo=0 by omega,g5,storeCells,mj]
    ·refine wT g9 rfl ⟨fun _ _ _=>rfl,fun _ _ _=>rfl,fun _ _ _ _ _ _ h _=>⟨h,rfl⟩,fun _ _ _ h _=>h,fun b cs e h=>⟨cs,h,rfl⟩⟩ g9.mem (fun s hs=>⟨fun n hn=>by simp at hn;simp[Wr.find,hn.1]at hs,rfl⟩) fun s t' hs=>?_
     rw[vZ]at hs;split at hs
     ·rename_i he;subst he
      simp at hs;subst hs;simpa[wP]using g9.ent s0 _ h0
     ·cases hs
   ·refine⟨w',?_,zLX g9 h0 gf k1 k2 k3 k4 k5 k6 k7 k8 (by rw[<-ej];exact setRow_heap w b cs _ e' _ k2) ?_ (fun b' h=>by rw[<-ej];exact setRow_other w b b' _ h) (by rw[<-ej];exact size_setRow w b _) (by rw[<-ej];rfl) (by rw[<-ej];rfl) fun i v hv=>?_⟩
    ·rw[g3,k1,g1]
     have h9:Nat.min ys.length (hi-lo)=n:=hn;simp only[zAO,mj,if_false,He,uL,Ly];simp only[Builtin.copy_];rw[Uw]at gA;simp[run_underlying ht.un,Builtin.lenOf,sizeOf,typeInfo,ht.info,ht.size,h9,g4,gA]
    ·simp[ch];omega
    ·rw[wP,zQo _ _ _ _ (by rw[ch];omega)]at hv
     have h11:o0+lo+((ys.take n).map vI).length<=cs.toList.length:=by simp;omega
     have h10:=zQo cs.toList ((ys.take n).map vI) (o0+lo) (o0+i) h11;rw[Jf]at h10;rw[List.getElem?_toArray,h10];have fQ:=fun i u hu=>zQn k2 k8 i u hu
     by_cases c1:i<lo
     ·rw[if_pos c1]at hv
      rw[if_pos (by omega)];simpa using fQ i v hv
     ·rw[if_neg c1]at hv
      rw[if_neg (by omega)]
      by_cases c2:i<lo+(ys.take n).length
      ·rw[if_pos c2]at hv
       rw[if_pos (by omega),show o0+i-(o0+lo)=i-lo from by omega];rw[Jw,hv];rfl
      ·rw[if_neg c2]at hv
       rw[if_neg (by omega)];simpa using fQ i v hv
 obtain⟨w',gx,G',gm⟩:=key;refine⟨_,w',?_,_,vB gm rfl (yE sd.1) (fun _=>vI n) (fun _=>rfl) (I n) (vI n) (by simp[mkV,Gh.put]) (by simp[R,Gh.put]) (by simp[Top])⟩;simp[execOp,resolve,invoke,builtin,gx,goInt]
theorem zJj{G G':Gh}{s d:Nat}(hd:∀z,G'.hd d z=G.hd s z):(xs:List T)->yM xs=jf-> ∀(j:Nat),jU G' d (cpF s xs [] j) [] j=jU G s xs [] j
 | [],_,_=>by rfl
 |x::xs,h,j=>by
  simp only[yM,J4]at h;simp only[cpF,jU];have hJ:∀ys,x≠.tup ys:=by rintro ys rfl;grind[T.okTup]
  have h1:=zAh (G:=G) (G':=G') (s:=s) (d:=d) x [j] [j] hJ (fun z=>hd _);have h2:∀ys,cpT s x [j]≠.tup ys:=by intro ys;cases x<;>simp[cpT]
  rw[jV _ _ _ _ h2]at h1;rw[h1,zJj hd xs h.2 (j+1)]
section
variable {P:Program}{Γ:Ctx}{E E':Env}{d:Nat}{x y:Operand}{ty:TypeId}{ps:String}{af:Array Edge}{gd:Option (Nat×Bool)}
theorem zZs{s:Nat}(hx:E s=jd (.tup ts))(sd:(J6 d Γ.N&&yM ts&&(s != d)&&zLy [(d,0)] (cpF s ts [] 0))=jf):Ok P Γ ⟨jd d,.move (.tmp s),ty,ps,af,gd⟩ E (E.app [(d,jd (.tup (cpF s ts [] 0)))] [(d,0)]):=by
 simp only[J4]at sd;obtain⟨⟨⟨s1,s2⟩,s3⟩,s4⟩:=sd;have gc:s≠d:=by grind
 intro S;refine xX.value rfl fun a w G g9=>?_
 obtain⟨h1,h2,_⟩:=g9.ent s _ hx;simp only[R]at h2;have hk:=G.put_keep (w:=w) (w':=w) rfl d (fun z=>G.hd s z);have hz:∀z,(G.put d (fun z=>G.hd s z)).hd d z=G.hd s z:=by grind[Gh.put_self]
 have pY:∀(xs:List T)(j:Nat),uI (cpF s xs [] j):=by
  intro xs
  induction xs with
  |nil=>intro j;simp only[cpF,uI]
  |cons x xs ih=>intro j;simp only[cpF,uI];grind[qC]
 refine⟨mkV G s (.tup ts) [],w,?_,_,vB g9 rfl (yE s1) (fun z=>G.hd s z) (fun z=>g9.mem.one _ _) _ _ (by grind[mkV,zJj])
  (by simp only[R];exact zJX (fun p=>G.put_other _ p gc) ts [] [] 0 (fun z=>hz _) (xM.mono (fun r p hr=>⟨hk.hd r p hr,hk.ad r p hr⟩) _ (by grind[zGG])) h2) (by simp only[Top];grind)⟩
 simp[execOp,xU h1]
end
def tU:List T->Bool
 | []=>jf
 |x::xs=>x.single&&tU xs
section
variable {P:Program}{Γ:Ctx}{E:Env}{d:Nat}{x:Operand}{ty:TypeId}{ps:String}{af:Array Edge}{gd:Option (Nat×Bool)}
class zX8 (P:Program) (t:TypeId) (e:outParam TypeId) (ti:outParam TypeInfo) (n:outParam Nat) (k:outParam Nat):Prop where
 un:P.underlying t=jd (.array n e)
 info:P.info? e=jd ti
 size:ti.size=k
theorem zZt{t:TypeId}{n:Nat}{xs:List T}(i:Nat)(ht:zX8 P t e ti n k)(hx:uZ E x=jd (r,q,.ptr (.agg xs)))(hu:xs[i]? =jd u)(gB:T.sizes (xs.take i)=i*k)(sd:(J6 d Γ.N&&J6 i n)=jf):
  Ok P Γ ⟨jd d,.indexAddr t x (.const (.int .i64 i)),ty,ps,af,gd⟩ E (E.app [(d,jd (.addr r (i::0::q)))] [(d,0)]):=by
 simp only[J4]at sd;have gK:=yE sd.2;intro S;refine xX.value rfl fun a w G g9=>?_
 obtain⟨g1,g2⟩:=qR g9 hx rfl;simp only[R]at g1;obtain⟨b,cs,e',g4,_,_,_,g5,_⟩:=g1;simp only[Loc]at g5;have g6:=zBV xs (0::q) 0 b 0 i u g5.2 hu;simp only[Ji]at g6;have g3:a.eval (.const (.int .i64 i))=.int .i64 i:=rfl;refine⟨.pointer (jd (G.ad r (i::0::q))),w,?_,_,vB g9 rfl (yE sd.1) (fun _=>.pointer (jd (G.ad r (i::0::q)))) (fun _=>rfl) _ _ (by simp[mkV,Gh.put]) (by simp[R,Gh.put]) (by simp[Top])⟩;have gC:(i:Int)<(n:Int):=by omega
 have h0:(0:Int)<=i:=by omega
 have g7:=zBu g6;have bn:i<n:=gK;simp[execOp,Instr.indexAt,g3,g2,g4,asIntOf,run_underlying ht.un,h0,bn,sizeOf,typeInfo,ht.info,ht.size,uL,uU,g7,gB]
end
theorem zQp{ds s:Nat}{tr t:T}(h:E s=jd t)(gc:(G3 ds s||G3 r s)=jg:=by rfl)(hb:t.okB [(ds,1),(r,q.length+1)]=jf:=by rfl):opT (vO E ds r q tr u) (.tmp s)=jd t:=by
 have h1:ds≠s:=by rintro rfl;simp at gc
 have h2:r≠s:=by rintro rfl;simp at gc
 simp[opT,vO,Env.app,Wr.find,h1,h2,h,hb]
section
variable {P:Program}{Γ:Ctx}{pn:sF}{E E':Env}{Q Q1:Exit->Env->Prop}{c c1 c2:Code}{ops:Array Oper}{o:Oper}{os:List Oper}{id:Nat}
theorem sR(h:RW P Γ pn ops ops.toList E (yQ P Γ pn c Q)):CW P Γ pn (.seq (.region id ops jg) c) E Q:=CW.seq (CW.region h)
theorem rN(h:CW P Γ pn c E Q):RW P Γ pn ops [] E (yQ P Γ pn c Q):=RW.nil h
theorem oP(h:Ok P Γ o E E')(k:RW P Γ pn ops os E' Q)(hg:o.guard=je:=by rfl)(hp:pn.ok o.dst=jf:=by rfl):RW P Γ pn ops (o::os) E Q:=RW.op h k hg hp
def yAw(ops:List Oper):List (List Nat):=(ops.foldl (fun(acc:Array (List Nat)) o=>acc.push ((zBa o).foldl (fun l m=>m::(acc.getD m [])++l) [])) #[]).toList
theorem CW.lp(body:σ->Option (σ⊕ρ))(en:σ->Env)(Q1:ρ->Exit->Env->Prop){s:σ}{r:ρ}(hg:zQ Γ E (en s))(h:∀s x,body s=jd x->CW P Γ pn c (en s) (wF Γ en Q1 x))(hr:zG body s=jd r)(hq:∀e E',Q1 r e E'->Q e E'):CW P Γ pn (.loop c) E Q:=
 (CW.mono (CW.loop body en Q1 h hr) hq).ghost hg
end
open Go Go.ChangeShapes
abbrev zLY(w:World):Stb:=fun b=>w.heap[b]?
theorem zR7{w:World}{a:Addr}{n:Nat}{cs:List Value}(h:w.cells? 0 a n=jd cs):cs.length=n/\ ∀(i:Nat) v,cs[i]? =jd v->w.cell? (a.add i)=jd v:=by
 unfold World.cells? at h;rw[if_pos (Lb _)]at h;refine⟨by simpa using mapM_some_length h,fun i v hv=>?_⟩;have hi:i<n:=by have:=(Jl.1 hv).1;have h2:=mapM_some_length h;rw[Le]at h2;omega
 rw[<-hv];exact mapM_some_get h i i (by simp[hi])
theorem zQq{w:World}{a:Addr}{v:Value}(h:w.cell? a=jd v):a.spot=je/\ ∃c e fr,w.heap[a.block]? =jd (.cells c e fr)/\c[a.off]? =jd v:=by
 simp only[World.cell?]at h;split at h
 ·rename_i c e fr hb
  split at h
  ·cases h
  ·rename_i hs
   exact⟨by cases hq:a.spot with|none=>rfl|some _=>rw[hq]at hs;simp at hs,c,e,fr,hb,h⟩
 ·cases h
theorem zLZ{b o m:Nat}:(Addr.mk b o je).add m=⟨b,o+m,je⟩:=by
 unfold Addr.add;split
 ·rename_i h;subst h;rfl
 ·rfl
theorem zFT{α:Type}{Q:Nat->α->Prop}:∀(n:Nat),(∀i,i<n-> ∃x,Q i x)-> ∃xs:List α,xs.length=n/\ ∀i x,xs[i]? =jd x->Q i x
 |0,_=>⟨[],rfl,fun i x h=>by simp at h⟩
 |n+1,h=>by
  obtain⟨xs,h1,h2⟩:=zFT n fun i hi=>h i (by omega)
  obtain⟨y,hy⟩:=h n (by omega);refine⟨xs++[y],by simp[h1],fun i x hx=>?_⟩;rw[Kr]at hx;split at hx
  ·exact h2 i x hx
  ·rename_i hge
   have:i-xs.length=0:=by have:=(Jl.1 hx).1;simpa using this
   rw[this]at hx;simp at hx;subst hx
   rwa [show i=n from by omega]
theorem zQr{St:Stb}:(xs:List T)-> ∀(cs:Array Value)(o k:Nat),(∀i x,xs[i]? =jd x->RoC St x cs (o+i*k))->RoL St xs cs o k
 | [],_,_,_,_=>by simp only[RoL]
 |x::xs,cs,o,k,h=>by
  simp only[RoL];refine⟨by simpa using h 0 x rfl,zQr xs cs (o+k) k fun i y hy=>?_⟩;have:=h (i+1) y (by simpa using hy)
  rwa [show o+k+i*k=o+(i+1)*k from by rw[K8];omega]
section
variable {P:Program}
def RdT(P:Program)(t:TypeId)(k:Nat){α:Type}(f:α->T)(V:α->Prop):Prop:=
 ∀{H:Type}(enc:TypeId×Value->H)(w:World)(fuel:Nat)(cs:List Value)(x:DataW H×List MemPlace),DataW.trod enc P w 0 (fun _=>jf) jf fuel t cs=jd x->
  cs.length=k-> ∃d,V d/\ ∀(A:Array Value)(o:Nat),(∀(i:Nat) v,cs[i]? =jd v->A[o+i]? =jd v)->RoC (zLY w) (f d) A o
theorem yAx{t:TypeId}{q:IntKind}(hu:P.underlying t=jd (.int q)):RdT P t 1 (IK q) (fun n=>(Lit.int q n).wf=jf):=by intro H enc w fuel cs x h _;obtain⟨n,rfl,_,hw⟩:=DataW.trod_int hu h;exact⟨n,hw,fun A o hA=>by simp only[RoC];exact⟨by simpa using hA 0 _ rfl,rfl⟩⟩
theorem yAy{α:Type}{f:α->T}{V:α->Prop}{t:TypeId}(hu:P.underlying t=jd (.slice e))(hk:P.cellsOf e=k)(fe:0<k)(h:RdT P e k f V):
  RdT P t 1 (L k f) (fun xs=>xs.length<=maxLen/\ ∀x∈xs,V x):=by
 intro H enc w fuel cs x hx _;rcases DataW.trod_slice hu hx with⟨rfl,_⟩|⟨a,len,cap,elems,rest,n,rfl,rfl,_,_,fd,mj,dx,fM,_⟩
 ·refine⟨[],⟨by simp,by simp⟩,fun A o hA=>?_⟩
  simp only[RoC,La,Jt];exact⟨je,0,by simpa using hA 0 _ rfl,Je _,by simp[maxLen],fun h=>absurd rfl h⟩
 ·subst hk
  have key:∀i,i<len-> ∃y,V y/\ ∃cs':List Value,cs'.length=P.cellsOf e/\(∀(j:Nat) v,cs'[j]? =jd v->w.cell? ((a.add (i*P.cellsOf e)).add j)=jd v)/\
    ∀(A:Array Value)(o:Nat),(∀(j:Nat) v,cs'[j]? =jd v->A[o+j]? =jd v)->RoC (zLY w) (f y) A o:=by
   intro i hi;have h1:=fM i hi;rw[J3 (by omega)]at h1;obtain⟨cs',h2,h3⟩:=Option.bind_eq_some_iff.1 h1;obtain⟨h4,h5⟩:=zR7 h2;obtain⟨y,h6,h7⟩:=h enc w n cs' _ h3 h4;exact⟨y,h6,cs',h4,h5,h7⟩
  obtain⟨xs,hxl,eG⟩:=zFT len key;refine⟨xs,⟨by omega,fun y hy=>?_⟩,fun A o hA=>?_⟩
  ·obtain⟨i,hi,rfl⟩:=H3.1 hy
   exact(eG i _ (J3 hi)).1
  ·simp only[RoC,Jf,hxl]
   refine⟨jd a,cap,by simpa using hA 0 _ rfl,fd,mj,fun gc=>?_⟩;have pC:0<xs.length:=by
    cases xs with
    |nil=>simp at gc
    |cons _ _=>simp
   obtain⟨_,cs0,g1,g2,_⟩:=eG 0 _ (J3 pC);have hz:a.add (0*P.cellsOf e)=a:=by simp[Addr.add]
   have g3:=g2 0 cs0[0] (J3 (by omega));rw[hz,show a.add 0=a from by simp[Addr.add]]at g3;obtain⟨p7,c,e',fr,hb,_⟩:=zQq g3;obtain⟨b,off,sp⟩:=a;simp only at p7 hb;subst p7;refine⟨b,off,c,e',fr,rfl,hb,zQr _ _ _ _ fun i y hy=>?_⟩;rw[Jw,Kf]at hy;obtain⟨z,mO,rfl⟩:=hy;obtain⟨_,cs',g1',g2',g4⟩:=eG i z mO;refine g4 c _ fun j v hv=>?_
   have:=g2' j v hv;rw[zLZ,zLZ]at this;obtain⟨_,c2,e2,fr2,ca,cr⟩:=zQq this;simp only at ca cr;rw[hb]at ca;cases ca;exact cr
theorem zKx{H:Type}{enc:TypeId×Value->H}{w:World}{t:TypeId}{fs:Array Field}{fuel:Nat}{cs:List Value}{x:DataW H×List MemPlace}(hu:P.underlying t=jd (.struct fs))(h:DataW.trod enc P w 0 (fun _=>jf) jf fuel t cs=jd x)
  {i:Nat}{f:Field}(hf:fs[i]? =jd f)(hj:f.offset=j)(hk:P.cellsOf f.type=k):∃n y,DataW.trod enc P w 0 (fun _=>jf) jf n f.type ((cs.drop j).take k)=jd y:=by
 obtain⟨xs,n,_,_,_,gf,fM⟩:=DataW.trod_struct hu h;have hi:i<xs.length:=by rw[gf];exact(H8.1 hf).1
 have:=fM i f hf;rw[hj,hk,J3 hi]at this;exact⟨n,_,this⟩
end
def zR8(v:Value):Value:=if v.oneCell' then v else .bool jg
theorem zMa(v:Value):(zR8 v).oneCell'=jf:=by unfold zR8;split;assumption;rfl
theorem zKy{v:Value}(h:v.oneCell'=jf):zR8 v=v:=by simp[zR8,h]
def hd0(vs:Array Value)(s:Nat)(p:List Nat):Value:=
 match vs[s]?,p with
 |some (.agg cs),[j]=>zR8 (cs[j]?.getD (.bool jg))
 |some v,[]=>zR8 v
 |_,_=>.bool jg
def G0(vs:Array Value):Gh:={ hd:=hd0 vs,ad:=fun _ _=>default,lb:=fun _ _=>je,ow:=fun _=>je }
theorem yE1(w:World)(vs:Array Value):Mem ⟨zLY w,fun _=>False,w,0⟩ (G0 vs) w where
 one s p:=by
  simp only[G0,hd0];split
  ·exact zMa _
  ·exact zMa _
  ·rfl
 lb b o l h:=by simp[G0]at h
 ow b l h:=by simp[G0]at h
 st b x h:=h
 fr b _ _:=rfl
 sz:=Je _
 bk:=⟨fun b cs e h=>⟨cs,h,rfl⟩,rfl,rfl⟩
def RdA(P:Program)(t:TypeId){α:Type}(u:α->T)(V:α->Prop):Prop:=
 ∀{H:Type}(enc:TypeId×Value->H)(w:World)(base fuel:Nat)(v:Value)(x:DataW H×List MemPlace),DataW.trod enc P w 0 (fun _=>jf) jf fuel t v.cells.toList=jd x->
  Value.okWide P w .any base t v-> ∃d,V d/\ ∀(vs:Array Value)(s:Nat),vs[s]? =jd v->jd v=jd (mkV (G0 vs) s (u d) [])/\R (zLY w) (G0 vs) w s (u d) []
def RdC(P:Program)(t:TypeId){α:Type}(u:α->T)(V:α->Prop):Prop:=
 ∀{H:Type}(enc:TypeId×Value->H)(w:World)(fuel:Nat)(c:Value)(x:DataW H×List MemPlace),DataW.trod enc P w 0 (fun _=>jf) jf fuel t [c]=jd x->
  ∃d,V d/\c.oneCell'=jf/\ ∀(G:Gh)(s:Nat)(p:List Nat),G.hd s p=c->vals G s (u d) p=[c]/\R (zLY w) G w s (u d) p
section
variable {P:Program}
theorem yC4{α:Type}{f:α->T}{V:α->Prop}{t:TypeId}(h:RdT P t 1 f V)(h1:∀{H:Type}(enc:TypeId×Value->H)(w:World)(fuel:Nat)(c:Value)(x:DataW H×List MemPlace),DataW.trod enc P w 0 (fun _=>jf) jf fuel t [c]=jd x->c.oneCell'=jf):
  RdC P t (fun x=>T.ro (f x)) V:=by
 intro H enc w fuel c x hx;obtain⟨d,g1,g2⟩:=h enc w fuel [c] x hx rfl;refine⟨d,g1,h1 enc w fuel c x hx,fun G s p hp=>⟨by simp only[vals,hp],?_⟩⟩;simp only[R,hp];exact g2 _ _ fun i v hv=>by
  cases i with
  |zero=>simpa using hv
  |succ i=>simp at hv
theorem yAz{α:Type}{f:α->T}{V:α->Prop}{t:TypeId}(hu:P.underlying t=jd (.slice e))(hk:P.cellsOf e=k)(fe:0<k)(h:RdT P e k f V):RdC P t (fun xs=>T.ro (L k f xs)) (fun xs=>xs.length<=maxLen/\ ∀x∈xs,V x):=
 yC4 (yAy hu hk fe h) fun enc w fuel c x hx=>by
  rcases DataW.trod_slice hu hx with⟨h1,_⟩|⟨a,len,cap,_,_,_,_,h1,_⟩<;>
  ·simp only[Jae.injEq,and_true]at h1
   subst h1;rfl
theorem zI4{w:World}{base:Nat}{t:TypeId}{fs:Array Field}{v:Value}(hu:P.underlying t=jd (.struct fs))(h:Value.okWide P w .any base t v):∃cs,v=.agg cs/\cs.size=P.cellsOf t:=by simp only[Value.okWide,hu]at h;obtain⟨cs,h1,h2,_⟩:=h;exact⟨cs,h1,h2⟩
theorem yC5{β γ δ:Type}{ua:α->T}{ub:β->T}{uc:γ->T}{Va:α->Prop}{Vb:β->Prop}{Vc:γ->Prop}{t:TypeId}{f0 f1 f2:Field}(mk:α->β->γ->δ){u:δ->T}{V:δ->Prop}
  (hu:P.underlying t=jd (.struct #[f0,f1,f2]))(hc:P.cellsOf t=3)(h0:f0.offset=0/\P.cellsOf f0.type=1)(h1:f1.offset=1/\P.cellsOf f1.type=1)(h2:f2.offset=2/\P.cellsOf f2.type=1)
  (ra:RdC P f0.type ua Va)(rb:RdC P f1.type ub Vb)(rc:RdC P f2.type uc Vc)(hmk:∀a b c,u (mk a b c)=T.agg [ua a,ub b,uc c])(hV:∀a b c,Va a->Vb b->Vc c->V (mk a b c)):RdA P t u V:=by
 intro H enc w base fuel v x hx gz;obtain⟨cs,rfl,gr⟩:=zI4 hu gz;obtain⟨l,rfl⟩:∃l:List Value,cs=l.toArray:=⟨cs.toList,by simp⟩;rw[hc,Jbn]at gr;obtain⟨c0,c1,c2,rfl⟩:∃a b c,l=[a,b,c]:=by
  match l,gr with
  | [a,b,c],_=>exact⟨a,b,c,rfl⟩
 simp only[Value.cells]at hx;obtain⟨n0,y0,g0⟩:=zKx hu hx (i:=0) rfl h0.1 h0.2;obtain⟨n1,y1,g1⟩:=zKx hu hx (i:=1) rfl h1.1 h1.2;obtain⟨n2,y2,g2⟩:=zKx hu hx (i:=2) rfl h2.1 h2.2;simp only[List.drop_succ_cons,Uf,Ky,Kc]at g0 g1 g2;obtain⟨a,a1,a2,a3⟩:=ra enc w n0 c0 _ g0;obtain⟨b,b1,b2,b3⟩:=rb enc w n1 c1 _ g1;obtain⟨c,e1,e2,e3⟩:=rc enc w n2 c2 _ g2;refine⟨mk a b c,hV a b c a1 b1 e1,fun vs s cX=>?_⟩;have k0:(G0 vs).hd s [0]=c0:=by simp[G0,hd0,cX,zKy a2]
 have k1:(G0 vs).hd s [1]=c1:=by simp[G0,hd0,cX,zKy b2]
 have k2:(G0 vs).hd s [2]=c2:=by simp[G0,hd0,cX,zKy e2]
 rw[hmk];simp only[mkV,yD,(a3 _ _ _ k0).1,(b3 _ _ _ k1).1,(e3 _ _ _ k2).1,K9,Jz,R,RF];exact⟨trivial,(a3 _ _ _ k0).2,(b3 _ _ _ k1).2,(e3 _ _ _ k2).2,trivial⟩
end
theorem FnC.top{f:FuncId}(h:FnC P f us [B jf] []){w:World}{vs:Array Value}(gr:vs.size=us.length)
  (ha:∀(i:Nat) u,us[i]? =jd u->vs[i]? =jd (mkV (G0 vs) i u [])/\R (zLY w) (G0 vs) w i u []):
  Calls P f vs w fun e w'=>e=.returned (.bool jf)/\w'.os=w.os/\w'.output=w.output/\w.heap.size<=w'.heap.size/\ ∀b,b<w.heap.size->w'.heap[b]? =w.heap[b]?:=by
 refine(h (zLY w) (fun _=>False) w (G0 vs) vs gr (fun i u hu=>?_) (yE1 w vs)).mono fun e w'=>?_
 ·obtain⟨h1,h2⟩:=ha i u hu
  refine⟨?_,h2⟩;rw[h1]
 ·rintro⟨S',G',nd,_,he,hm,fW,hr,_,_⟩
  match nd,fW with
  | [(s,p,t)],fW=>
   simp only[Ju,La,Jae.injEq,and_true]at fW;subst fW;have:=(hr (s,p,B jf) (by simp)).1;simp only[R]at this;exact⟨by rw[he];simp only[zLF,sB,this],hm.bk.os,hm.bk.out,hm.sz,fun b hb=>hm.fr b hb (fun h=>h)⟩
theorem zDn{H:Type}{enc:TypeId×Value->H}{P:Program}(hl:laidOutB P=jf){W W':World}{sp:Nat->Bool}:∀{ts:List TypeId}{vs:List Value}{ds:List (DataW H)}{ps:List MemPlace},(∀t∈ts,P.readableRec t=jf/\t<P.types.size)->
  DataW.TrodAll enc P W 0 (fun _=>jf) jf ts vs ds ps->(∀p∈ps,W.sameAt W' p)->(∀p∈ps,sp p.block=jf)->DataW.TrodAll enc P W' 0 sp jf ts vs ds ps
 | [],[],[],_,_,h,_,_=>h
 |t::ts,v::vs,d::ds,ps,hr,h,h1,h2=>by
  obtain⟨p,q,g1,g2,rfl⟩:=h;exact⟨p,q,Go.WideElems.Trod_stays hl (hr t (by simp)).1 (hr t (by simp)).2 g1 (fun x hx=>h1 x (by simp[hx])) (fun x hx=>h2 x (by simp[hx])),
   zDn hl (fun t' ap=>hr t' (by simp[ap])) g2 (fun x hx=>h1 x (by simp[hx])) (fun x hx=>h2 x (by simp[hx])),rfl⟩
 | [],_::_,_,_,_,h,_,_| [],[],_::_,_,_,h,_,_|_::_,[],_,_,_,h,_,_|_::_,_::_,[],_,_,h,_,_=>h.elim
theorem zOg{C:Checked}{os:Os}(own:ownKnob C.prog.godebug=je)(started:os.Started){f:FuncId}(noInit:C.prog.inits.idxOf? f=je)(iH:C.prog.funcs[f]? =jd fn){H:Type}{enc:TypeId×Value->H}{s:ChangeSpec}{conds:List PathCond}{apart fresh handsOn again:Bool}
  (witness:∃(w:World)(tape:Tape)(i:Input),w.os=os/\(w.forCall tape i).Shaped C.prog/\i.vars=[]/\Input.okWide C.prog (w.forCall tape i) .any w.heap.size f i/\
   s.pre6 enc C.prog fn conds apart (w.forCall tape i).memory i.args/\Assume.holds {} C.prog (lone (Frame.enter C.prog f i.args .normal) [] (w.forCall tape i)))
  (hs:∀(l:List (DataW H)),l.length=fn.params.size->(s.fn H l).results=[.lit (.bool jf)]/\(s.fn H l).args=l/\(s.fn H l).vars=[])(mo:s.vars=[]){tb:TypeId}(fh:fn.resultTypes= #[tb])(hb:C.prog.underlying tb=jd .bool)
  (laid:laidOutB C.prog=jf)(az:fn.params.toList.all (fun t=>C.prog.readableRec t&&decide (t<C.prog.types.size))=jf)
  (law:∀(W:World)(base:Nat)(args:Array Value)(ds:List (DataW H))(p:List MemPlace),(∀(j:Nat) t v,fn.params[j]? =jd t->args[j]? =jd v->Value.okWide C.prog W .any base t v)->
   DataW.TrodAll enc C.prog W 0 (fun _=>jf) jf fn.params.toList args.toList ds p->
   ∃us:List T,args.size=us.length/\FnC C.prog f us [B jf] []/\ ∀(i:Nat) u,us[i]? =jd u->args[i]? =jd (mkV (G0 args) i u [])/\R (zLY W) (G0 args) W i u []):
  ReturnsInHanded {} C os f .any (s.pre6 enc C.prog fn conds apart) (s.post enc C.prog fn apart fresh handsOn again):=by
 refine returnsInHanded_of_change (C:=C) own started noInit iH witness ?_;intro W base args ds gs before hval hW _ _;have bF:=hW;obtain⟨p,q,hA,hV,hbq,hfz,fW⟩:=hW;obtain⟨us,h1,h2,h3⟩:=law W base args ds p hval hA;have hl:ds.length=fn.params.size:=by
  have:∀{ts:List TypeId}{vs:List Value}{ds:List (DataW H)}{p:List MemPlace},DataW.TrodAll enc C.prog W 0 (fun _=>jf) jf ts vs ds p->ds.length=ts.length:=by
   intro ts
   induction ts with
   |nil=>intro vs ds p h;cases vs<;>cases ds<;>first|rfl|exact h.elim
   |cons t ts ih=>intro vs ds p h;cases vs<;>cases ds<;>first|exact h.elim|(obtain⟨_,_,_,g,_⟩:=h;simp[ih g])
  simpa using this hA
 rw[mo]at hV;have hq:gs=[]/\q=[]:=by
  cases gs with
  |nil=>exact⟨rfl,hV⟩
  |cons _ _=>exact hV.elim
 obtain⟨rfl,rfl⟩:=hq;have gC:=bF.lt;refine(h2.top h1 h3).mono fun e w' ⟨he,ho,hq,gr,hh⟩=>⟨_,he,?_⟩
 have gP:∀p∈before,W.sameAt w' p:=fun p hp=>by
  have:=gC p hp;cases p with
  |cell b off=>simp only[World.sameAt,World.cell?,hh b this]
  |map b=>exact hh b this
 obtain⟨k1,k2,k3⟩:=hs ds hl;have hbp:before=p:=by simpa using hbq
 subst hbp;have gU:∀t∈fn.params.toList,C.prog.readableRec t=jf/\t<C.prog.types.size:=fun t ht=>by have:=Ki.1 az t ht;simpa using this
 have gw:∀(b:Nat)(sp:Nat->Bool)(hd:Bool),DataW.TrodAll enc C.prog w' b sp hd fn.resultTypes.toList ((Value.bool jf).resultList fn.resultTypes.size) (s.fn H (ds++[])).results []:=fun b sp hd=>by rw[fh,Jh,k1];exact⟨[],[],⟨1,by simp[DataW.trod,hb,Value.cells]⟩,⟨rfl,rfl⟩⟩
 have gj:∀sp:Nat->Bool,(∀p∈before,sp p.block=jf)->DataW.TrodAll enc C.prog w' 0 sp jf fn.params.toList args.toList (s.fn H (ds++[])).args before:=fun sp p7=>by rw[Jh,k2];exact zDn laid gU hA gP p7
 have ab:∀sp:Nat->Bool,DataW.TrodVars enc C.prog w' sp s.vars (s.fn H (ds++[])).vars []:=fun sp=>by rw[mo,Jh,k3];rfl
 have gD:∀p∈before,(fun b=>decide (b<W.heap.size)) p.block=jf:=fun p hp=>by simpa using gC p hp
 have mf:∀p∈before,∀o,w'.frozen? ⟨p.block,o,je⟩=W.frozen? ⟨p.block,o,je⟩:=fun p hp o=>by simp only[World.frozen?,hh _ (gC p hp)]
 refine⟨ds,[],before,[],before,[],bF,gw _ _ _,gj _ gD,ab _,⟨ho,hq,fun i hi=>?_⟩,fun _=>⟨fun j t r hj hr=>?_,_,_,([]++before)++[],⟨[]++before,[],trodAll_append (gj _ (fun _ _=>rfl)) (gw _ _ _),ab _,rfl,fun b off hp=>?_,fun ha=>?_⟩,fun p hp _=>?_⟩⟩
 ·rw[hh i hi]
  cases hx:W.heap[i]? with
  |none=>rfl
  |some o=>cases o<;>simp
 ·rw[fh]at hj hr
  match j,hj,hr with
  |0,hj,hr=>
   simp[Value.resultList]at hj hr;subst hj;subst hr;simp[Value.okWide,hb,Cell.okWide,Cell.ok]
 ·have cO:MemPlace.cell b off∈before:=by simpa using hp
  exact(mf _ cO off).trans (hfz b off cO)
 ·have:=fW ha
  simpa using this
 ·simpa using hp
def qX(hs:List Nat)(E:Env):Prop:=∀s,hs.contains s=jf-> ∃t,E s=jd t/\jZ t=jf
def yA0(hs:List Nat)(z:Nat×Option T):Bool:=!hs.contains z.1||match z.2 with
 |some t=>jZ t
 |none=>jg
def wrS(hs:List Nat)(X:Stp):Bool:=X.l.all fun y=>y.1.all (yA0 hs)
theorem zMb{s:Nat}{x:Option T}:∀{wr:Wr},wr.find s=jd x->(s,x)∈wr
 | [],h=>by grind[Wr.find]
 |(k,y)::wr,h=>by
  simp only[Wr.find]at h;split at h
  ·grind
  ·exact Qk _ (zMb h)
theorem qX.apps{hs:List Nat}:∀(l:zBP)(E:Env),qX hs E->(l.all fun y=>y.1.all (yA0 hs))=jf->qX hs (E.apps l)
 | [],_,h,_=>h
 |x::l,E,h,hw=>by
  simp only[Un,J4]at hw;refine qX.apps l (E.app x.1 x.2) (fun s gF=>?_) hw.2;obtain⟨t,he,ht⟩:=h s gF;unfold Env.app;cases hf:x.1.find s with
  |some y=>
   have h1:=Ki.1 hw.1 _ (zMb hf);simp only[yA0,gF,L5,Bool.false_or]at h1
   grind
  |none=>grind[tA]
theorem qX.runD{hs:List Nat}:∀(l:List (Bool×Stp))(E:Env),qX hs E->(∀y∈l,wrS hs y.2=jf)->qX hs (runD E l)
 | [],_,h,_=>h
 |(b,X)::l,E,h,hw=>by
  simp only[Go.Ab.runD];refine qX.runD l _ ?_ fun y hy=>hw y (by simp[hy])
  cases b with
  |true=>exact qX.apps X.l E h (hw (jf,X) (by simp))
  |false=>exact h
section
variable {P:Program}{Γ:Ctx}{pn:sF}{E E':Env}{Q:Exit->Env->Prop}{ops:Array Oper}{o:Oper}{os:List Oper}{id:Nat}{wr:Wr}{chg:Chg}{hs:List Nat}
def zHq(P:Program)(Γ:Ctx)(pn:sF)(ops:Array Oper)(o:Oper)(E E':Env):Prop:=
 ∀(a:Act)(w:World)(K:Act->World->Prop)(Q:Exit->Act->World->Prop),pn.Hold a->qI Γ E a w->(∀a' w',qI Γ E' a' w'->(∀s,o.dst≠jd s->a'.tmps[s]? =a.tmps[s]?)->K a' w')->
  if Region.wanted o (yielded ops a.tmps)then o.wp P a w K Q\/(o.asks P a w/\LetsOut Q)else K (a.put o.dst undef) w
def vW(P:Program)(Γ:Ctx)(pn:sF)(hs:List Nat)(ops:Array Oper):List Oper->List Stp->Prop
 | [],[]=>True
 |o::os,X::Xs=>(∀E:Env,E.Has X.rd->qX hs E->zHq P Γ pn ops o E (E.apps X.l))/\vW P Γ pn hs ops os Xs
 |_,_=>False
theorem vW.get:∀(os:List Oper)(Xs:List Stp),vW P Γ pn hs ops os Xs->os.length=Xs.length/\ ∀(i:Nat)(o:Oper)(X:Stp),os[i]? =jd o->Xs[i]? =jd X-> ∀E:Env,E.Has X.rd->qX hs E->zHq P Γ pn ops o E (E.apps X.l)
 | [],[],_=>by simp
 |o::os,X::Xs,h=>by
  obtain⟨h1,h2⟩:=vW.get os Xs h.2;refine⟨by simp[h1],fun i o' X' ho hX=>?_⟩;cases i with
  |zero=>simp at ho hX;subst ho hX;exact h.1
  |succ i=>exact h2 i o' X' (by simpa using ho) (by simpa using hX)
 | [],_::_,h=>by simp[vW]at h
 |_::_,[],h=>by simp[vW]at h
theorem vW.snoc{X:Stp}:∀(os:List Oper)(Xs:List Stp),vW P Γ pn hs ops os Xs->(∀E:Env,E.Has X.rd->qX hs E->zHq P Γ pn ops o E (E.apps X.l))->vW P Γ pn hs ops (os++[o]) (Xs++[X])
 | [],[],_,h=>⟨h,trivial⟩
 |_::os,_::Xs,h1,h=>⟨h1.1,vW.snoc os Xs h1.2 h⟩
 | [],_::_,h,_=>by simp[vW]at h
 |_::_,[],h,_=>by simp[vW]at h
theorem sN.snoc{X:Stp}:∀(Xs:List Stp)(E:Env),sN E Xs->(runD E (Xs.map fun y=>(jf,y))).Has X.rd->sN E (Xs++[X])
 | [],_,_,h=>⟨by grind[runD],trivial⟩
 |_::Xs,_,h1,h=>⟨h1.1,sN.snoc Xs _ h1.2 (by simpa[runD]using h)⟩
theorem zKz{E0:Env}{ek:List Nat}{an:List (List Nat)}{Q':Exit->Act->World->Prop}(hf:zA0 0 ops.toList=jf)(ha:kV an an ops.toList=jf)(hp:jD Xs 0 an Xs=jf)
  (gA:vW P Γ pn ek ops ops.toList Xs)(hI:qX ek E0)(hw:Xs.all (wrS ek)=jf)(hh:sN E0 Xs)(aC:ops.toList.all (fun o=>pn.ok o.dst)=jf)(hQ:∀a' w',qI Γ (runD E0 (Xs.map fun y=>(jf,y))) a' w'->pn.Hold a'->Q' .normal a' w'):
  ∀(fuel:Nat)(L:List Bool)(a:Act)(w:World),L.length=ops.size->L.count jg=fuel->zT6 ops L->qI Γ (runD E0 (L.zip Xs)) a w->pn.Hold a->wpAny P .any ops Q' fuel L.toArray a w:=by
 obtain⟨gf,cv⟩:=vW.get _ _ gA;have mH:Xs.length=ops.size:=by grind
 intro fuel
 induction fuel with
 |zero=>
  intro L a w hL hcnt gy hs fH;have pO:∀b∈L,b=jf:=by grind
  have jb:L=J1 ops.size jf:=by rw[<-hL];exact List.eq_replicate_iff.2 ⟨rfl,pO⟩
  refine⟨?_,?_⟩
  ·apply List.eq_nil_iff_forall_not_mem.2
   intro j hj;obtain⟨h1,o,ho,_⟩:=mem_ready.1 hj;have gC:=(H8.1 ho).1;rw[jb]at h1;simp[gC]at h1
  ·refine hQ a w ?_ fH
   have:L.zip Xs=Xs.map fun y=>(jf,y):=by
    rw[jb,<-mH]
    clear hs hL jb pO hcnt gy gA hw hh hp gf mH cv hQ
    induction Xs with
    |nil=>rfl
    |cons X Xs ih=>simp[Jv,ih]
   grind
 |succ fuel ih=>
  intro L a w hL hcnt gy hs fH;refine⟨fun hr=>?_,fun i hi=>?_⟩
  ·
   exfalso
   have pe:∃m:Nat,L[m]? =jd jg:=by
    have:jg∈L:=by grind
    grind[Qc]
   obtain⟨m,hm,fc⟩:=zDk pe;have hmlt:=(Jl.1 hm).1;have du:ops[m]? =jd ops[m]:=by simp
   have:m∈Region.ready .any ops L.toArray:=by
    refine mem_ready.2 ⟨by simp_all,ops[m],du,fun e he hb=>?_⟩;have hpm:e.on∈zBa ops[m]:=by
     simp only[zBa,Jc,Jb9]
     grind
    have gC:=zGv ops.toList 0 m _ hf (by simp) _ hpm;rw[Ji]at gC;cases hL1:L[e.on]? with
    |none=>grind
    |some b=>
     cases b with
     |false=>grind
     |true=>simp_all
   grind
  ·obtain⟨h1,o,ho,pO⟩:=mem_ready.1 hi
   have gC:=(H8.1 ho).1;have hLi:L[i]? =jd jg:=by simp_all
   have eI:∀m∈zBa o,L[m]? =jd jf:=by
    intro m hm;simp only[zBa,Jc,Jb9]at hm;obtain⟨e,⟨he,hb⟩,rfl⟩:=hm;have:=pO e (by grind) hb;cases hL1:L[e.on]? with
    |none=>grind
    |some b=>simp_all
   have hanc:=zHd hf ha gy i i (Je _) o ho eI;have tm:Xs[i]? =jd Xs[i]:=by simp
   generalize hXe:Xs[i]=X at tm
   have aP:∀(j:Nat)(Y:Stp),Xs[j]? =jd Y->i<j->L[j]? =jd jf->X.apart Y=jf:=by
    intro j Y hY gI hj;rcases zFk Xs Xs 0 an j Y hp hY i X (by omega) tm with h|h
    ·have hjlt:=(Jl.1 hY).1
     have hoj:ops[j]? =jd ops[j]:=by simp
     have:=zHd hf ha gy j j (Je _) _ hoj (gy j _ hoj hj) i h
     grind
    ·exact h
   have bt:∀(j:Nat)(Y:Stp),Xs[j]? =jd Y->j<i->L[j]? =jd jg->Y.apart X=jf:=by grind[zFk]
   have m6:∀y∈(L.take i).zip (Xs.take i),∃j:Nat,j<i/\L[j]? =jd y.1/\Xs[j]? =jd y.2:=by
    intro y hy;obtain⟨j,g1,g2⟩:=zKs hy;rw[Hd]at g1 g2
    grind
   have mB:∀y∈(L.drop (i+1)).zip (Xs.drop (i+1)),∃j:Nat,i<j/\L[j]? =jd y.1/\Xs[j]? =jd y.2:=by
    intro y hy;obtain⟨j,g1,g2⟩:=zKs hy;rw[Lx]at g1 g2
    grind
   have p7:=zJd hLi tm;have iE:(runD E0 (L.zip Xs)).Has X.rd:=by
    rw[p7,jY];simp only[runD,Hs,if_false];have h0:=sN.get Xs E0 hh i X tm;refine h0.of fun s t gA ek=>?_
    have hsm:s∈X.rd.map (·.1):=by grind
    refine zJc _ _ (fun y hy hb=>?_) ?_
    ·obtain⟨j,g1,g2,g3⟩:=mB y hy
     have:=Stp.apart_spec (aP j y.2 g3 g1 (by rw[g2,hb]));exact⟨by grind,by grind⟩
    ·have hmp:((L.take i).zip (Xs.take i)).map (fun y=>(jf,y.2))=(Xs.take i).map fun y=>(jf,y):=by
      have aQ:(L.take i).length=(Xs.take i).length:=by simp;omega
      rw[show(fun y:Bool×Stp=>(jf,y.2))=(fun y=>(jf,y))∘Prod.snd from rfl,<-Jb1,List.map_snd_zip (by omega)]
     refine zJb _ E0 E0 (fun y hy hb gF=>?_) (fun _ h=>h) t (by grind);obtain⟨j,g1,g2,g3⟩:=m6 y hy;have:=Stp.apart_spec (bt j y.2 g3 g1 (by rw[g2,hb]))
     grind
   have hnext:runD E0 ((L.set i jf).zip Xs)=(runD E0 (L.zip Xs)).apps X.l:=by
    have hLs:(L.set i jf)[i]? =jd jf:=by grind
    rw[zJd hLs tm,p7,jY,jY];simp only[runD,if_true,Hs,if_false,List.take_set_of_le (Je i),List.drop_set_of_lt (Nat.lt_succ_self i)];refine zFj _ X _ fun y hy hb=>?_
    obtain⟨j,g1,g2,g3⟩:=mB y hy;exact(Stp.apart_spec (by grind)).1
   have dX:=cv i o X (by grind) tm _ iE (qX.runD (L.zip Xs) E0 hI fun y hy=>Ki.1 hw _ (by obtain⟨j,_,g⟩:=zKs hy;grind));unfold wpOp;simp only[ho];refine dX a w _ Q' fH hs fun a' w' gF mf=>?_
   rw[List.setIfInBounds_toArray];have gz:pn.ok o.dst=jf:=by grind
   refine ih (L.set i jf) a' w' (by simp[hL]) (by grind) ?_ (by grind) (fH.frame gz mf);intro k ok hk hkt m hm
   by_cases hki:k=i
   ·subst hki
    rw[ho]at hk;simp at hk;subst hk;rw[Jan];split
    ·grind
    grind
   ·rw[Jb2 (Ne.symm hki)]at hkt
    rw[Jan];split
    ·grind
    ·exact gy k ok hk hkt m hm
theorem CW.drawnI{ek:List Nat}{id:Nat}{E:Env}{Q:Exit->Env->Prop}(Xs:List Stp)(an:List (List Nat))(hm:P.follows .mixedOrders=jf)(gA:vW P Γ pn ek ops ops.toList Xs)(hI:qX ek E)(hw:Xs.all (wrS ek)=jf)(hh:sN E Xs)
  (hQ:Q .normal (runD E (Xs.map fun y=>(jf,y))))(hf:zA0 0 ops.toList=jf:=by rfl)(ha:kV an an ops.toList=jf:=by rfl)(hp:jD Xs 0 an Xs=jf:=by rfl)
  (aC:ops.toList.all (fun o=>pn.ok o.dst)=jf:=by rfl):CW P Γ pn (.region id ops jf) E Q:=by
 intro a w Q' hs fH hQ';refine wp_region_any hm ?_;have gF:qI Γ E a { w with drawn:=w.drawn+1 }:=by obtain⟨S,hS,gJ,G,hr⟩:=hs;exact⟨S,hS,gJ,G,hr.heap rfl⟩
 have:=zKz (P:=P) (Γ:=Γ) (pn:=pn) (E0:=E) (Q':=Q') hf ha hp gA hI hw hh aC (by grind) ops.size (J1 ops.size jg) a { w with drawn:=w.drawn+1 } (by simp) (by simp)
  (fun i o ho hi=>by
   grind) (by
   have:runD E ((J1 ops.size jg).zip Xs)=E:=by
    generalize ops.size=n
    clear gA hI hw hh hQ hf ha hp gF
    induction n generalizing Xs with
    |zero=>simp[runD]
    |succ n ih=>
     cases Xs with
     |nil=>simp[runD]
     |cons X Xs=>simpa[Jv,runD]using ih Xs
   grind) fH
 grind
def DK(P:Program)(Γ:Ctx)(pn:sF)(ops:Array Oper)(id:Nat)(hs:List Nat)(E0:Env)(Q:Exit->Env->Prop)(os:List Oper)(E:Env)(acc:List Stp):Prop:=
 ∀don,don++os=ops.toList->vW P Γ pn hs ops don acc.reverse->sN E0 acc.reverse->E=runD E0 (acc.reverse.map fun y=>(jf,y))->CW P Γ pn (.region id ops jf) E0 Q
variable {E0:Env}{acc:List Stp}
theorem CW.dk(h:DK P Γ pn ops id [] E Q ops.toList E []):CW P Γ pn (.region id ops jf) E Q:=h [] rfl trivial trivial rfl
theorem CW.dkS(hs:List Nat)(h:DK P Γ pn ops id hs E Q ops.toList E []):CW P Γ pn (.region id ops jf) E Q:=h [] rfl trivial trivial rfl
theorem dGP(rd:List (Nat×T))(l:zBP)(gU:E.Has rd)(gA:∀E':Env,E'.Has rd->qX hs E'->zHq P Γ pn ops o E' (E'.apps l))(k:DK P Γ pn ops id hs E0 Q os (E.apps l) (⟨rd,l⟩::acc)):DK P Γ pn ops id hs E0 Q (o::os) E acc:=by
 intro don hd hso hh hE;subst hE;have hr:=fun X=>G8 (a:=X) (as:=acc)
 refine k (don++[o]) (by simp[hd]) ?_ ?_ ?_
 ·grind[vW.snoc]
 ·grind[sN.snoc]
 ·rw[hr,K6,jY];rfl
theorem dGS(rd:List (Nat×T))(l:zBP)(gU:E.Has rd)(gA:∀E':Env,E'.Has rd->qX hs E'->wI P Γ ops o E' (E'.apps l))(k:DK P Γ pn ops id hs E0 Q os (E.apps l) (⟨rd,l⟩::acc)):DK P Γ pn ops id hs E0 Q (o::os) E acc:=
 dGP rd l gU (fun E' h h' a w K Q _=>gA E' h h' a w K Q) k
theorem dG(rd:List (Nat×T))(l:zBP)(gU:E.Has rd)(gA:∀E':Env,E'.Has rd->wI P Γ ops o E' (E'.apps l))(k:DK P Γ pn ops id hs E0 Q os (E.apps l) (⟨rd,l⟩::acc)):DK P Γ pn ops id hs E0 Q (o::os) E acc:=
 by grind[dGS]
def zTO(hs:List Nat)(E:Env):Bool:=hs.all fun s=>match E s with
 |some t=>jZ t
 |none=>jg
theorem zTP(h:zTO hs E=jf):qX hs E:=by
 intro s gF;have h1:=Ki.1 h s (by grind)
 grind
theorem dN(an:List (List Nat))(hm:P.follows .mixedOrders=jf)(hQ:Q .normal E)(hf:zA0 0 ops.toList=jf:=by rfl)(ha:kV an an ops.toList=jf:=by rfl)(hp:jD acc.reverse 0 an acc.reverse=jf:=by rfl)
  (aC:ops.toList.all (fun o=>pn.ok o.dst)=jf:=by rfl)(tg:zTO hs E0=jf:=by rfl)(hw:acc.reverse.all (wrS hs)=jf:=by rfl):DK P Γ pn ops id hs E0 Q [] E acc:=by
 intro don hd gA hh hE
 grind[CW.drawnI,zTP]
end
section
variable {P:Program}{Γ:Ctx}{pn:sF}{E E':Env}{Q:Exit->Env->Prop}{ops:Array Oper}{o:Oper}{os:List Oper}{id d:Nat}{wr:Wr}{chg:Chg}{hs:List Nat}{E0:Env}{acc:List Stp}{x y:Operand}{ty:TypeId}{ps:String}{af:Array Edge}{gd:Option (Nat×Bool)}
class zGm (P:Program) (t:TypeId) (e:outParam TypeId):Prop where
 h:P.underlying t=jd (.slice e)
class qV (P:Program) (t:TypeId) (b:outParam Bool) (n:outParam Nat):Prop where
 h:∀u:T,u.single=b->u.size=n->zTA P t u
theorem hE{s:Nat}{t:T}(h:E.Has rd)(hr:vU rd s=jd t):E s=jd t:=h.le s t hr
theorem hO{t:T}(h:E.Has rd)(hr:opT (vU rd) x=jd t):opT E x=jd t:=by
 cases x<;>simp only[opT]at hr ⊢
 ·exact h.le _ _ hr
 all_goals exact hr
mutual
def zDB:T->Bool
 |.ro _|.lit _|.any=>jf
 |.agg xs|.tup xs=>zGz xs
 |.ptr t=>zDB t
 |.sl _ []=>jf
 |_=>jg
def zGz:List T->Bool
 | []=>jf
 |x::xs=>zDB x&&zGz xs
end
mutual
theorem zCL:{t:T}->zDB t=jf->zZ t
 |.ro _,_|.lit _,_|.any,_=>by simp[zZ,yU]
 |.agg xs,h|.tup xs,h=>by simp only[zDB]at h;simpa only[zZ,yU]using zHr h
 |.ptr t,h=>by simp only[zDB]at h;exact zAm (zCL h)
 |.sl _ [],_=>by simp[zZ,yU,xM]
 |.sl _ (_::_),h=>by simp[zDB]at h
 |.same _ _,h|.addr _ _,h|.sub _ _ _ _ _,h=>by simp[zDB]at h
theorem zHr:{xs:List T}->zGz xs=jf->yZ xs
 | [],_=>trivial
 |x::xs,h=>by simp only[zGz,J4]at h;exact⟨zCL h.1,zHr h.2⟩
end
theorem yE2{α:Type}{t:TypeId}{f:α->T}{xs:List α}{v:α}[ht:zAH P t e ti k](hx:uZ E x=jd (r,q,L k f xs))(hy:opT E y=jd (I i))(hv:ixO xs i=jd v)(sd:J6 d Γ.N=jf):
  Ok P Γ ⟨jd d,.indexAddr t x y,ty,ps,af,gd⟩ E (E.app [(d,jd (.addr r (i.toNat::q)))] [(d,0)]):=yCk ht hv hx hy sd
theorem zZu{α:Type}{t:TypeId}{f:α->T}{xs:List α}{v:α}[ht:zAH P t e ti k](hx:uZ E x=jd (r,q,.ro (L k f xs)))(hy:opT E y=jd (I i))(hv:ixO xs i=jd v)(sd:J6 d Γ.N=jf):
  Ok P Γ ⟨jd d,.indexAddr t x y,ty,ps,af,gd⟩ E (E.app [(d,jd (.ro (.ptr (f v))))] [(d,0)]):=zZk ht hv hx hy sd
theorem zTQ{t:TypeId}{b:Bool}{n:Nat}[i:qV P t b n](hx:opT E x=jd (.ro (.ptr u)))(h1:u.single=b)(h2:u.size=n)(sd:J6 d Γ.N=jf):Ok P Γ ⟨jd d,.load t x,ty,ps,af,gd⟩ E (E.app [(d,jd (roT u))] [(d,0)]):=yCl (i.h u h1 h2) hx sd
theorem yA1{t:TypeId}{tr:T}{b:Bool}{n:Nat}[i:qV P t b n](hx:opT E x=jd (.addr r q))(hr:E r=jd tr)(hg:tr.get q.reverse=jd u)(h1:u.single=b)(h2:u.size=n)(sd:(J6 d Γ.N&&tr.locd q.reverse&&(r != d)&&T.okB [(d,0)] (cpT r u q))=jf):
  Ok P Γ ⟨jd d,.load t x,ty,ps,af,gd⟩ E (E.app [(d,jd (cpT r u q))] [(d,0)]):=yEy (i.h u h1 h2) hx hr hg sd
theorem zMc{t:TypeId}{tr:T}{b:Bool}{n:Nat}[i:qV P t b n](hx:uZ E x=jd (r,q,.ptr t0))(hr:E r=jd tr)(hg:tr.get (0::q).reverse=jd u)(h1:u.single=b)(h2:u.size=n)(sd:(J6 d Γ.N&&tr.locd (0::q).reverse&&(r != d)&&T.okB [(d,0)] (cpT r u (0::q)))=jf):
  Ok P Γ ⟨jd d,.load t x,ty,ps,af,gd⟩ E (E.app [(d,jd (cpT r u (0::q)))] [(d,0)]):=yC2 (i.h u h1 h2) hx hr hg sd
theorem yC6{α:Type}{t:TypeId}{f:α->T}{xs:List α}[i:zGm P t e](hx:uZ E x=jd (r,q,L k f xs))(sd:J6 d Γ.N=jf):
  Ok P Γ ⟨jd d,.call { callee:=.builtin .len,args:=#[x],argTypes:=#[t] },ty,ps,af,gd⟩ E (E.app [(d,jd (I (xs.length:Int)))] [(d,0)]):=zZl i.h hx sd
theorem yA2{α:Type}{t:TypeId}{f:α->T}{xs:List α}[i:zGm P t e](hx:uZ E x=jd (r,q,.ro (L k f xs)))(sd:J6 d Γ.N=jf):
  Ok P Γ ⟨jd d,.call { callee:=.builtin .len,args:=#[x],argTypes:=#[t] },ty,ps,af,gd⟩ E (E.app [(d,jd (I (xs.length:Int)))] [(d,0)]):=zT9 i.h hx sd
theorem xR(k:RW P Γ pn ops os (E.app wr chg) Q)(h:Ok P Γ o E (E.app wr chg):=by exact zR3 rfl rfl)(hg:o.guard=je:=by rfl)(hp:pn.ok o.dst=jf:=by rfl):RW P Γ pn ops (o::os) E Q:=oP h k hg hp
theorem yE3{g s:Nat}{b:Bool}(k:RW P Γ pn ops os (E.app wr chg) Q)(hg:o.guard=jd (g,b):=by rfl)(fm:(ops[g]?).bind (·.dst)=jd s:=by rfl)(hb:E s=jd (.lit (.bool b)):=by rfl)(h:Ok P Γ o E (E.app wr chg):=by exact zR3 rfl rfl)(hp:pn.ok o.dst=jf:=by rfl):RW P Γ pn ops (o::os) E Q:=RW.cons (wI.guard g b s h hg fm hb) k hp
theorem tH(k:RW P Γ pn ops os (E.app wr chg) Q)(h:Ok P Γ o E (E.app wr chg):=by exact zX1 rfl rfl)(hg:o.guard=je:=by rfl)(hp:pn.ok o.dst=jf:=by rfl):RW P Γ pn ops (o::os) E Q:=oP h k hg hp
theorem zMd(k:RW P Γ pn ops os (E.app wr chg) Q)(h:Ok P Γ o E (E.app wr chg):=by exact zTQ rfl rfl rfl rfl)(hg:o.guard=je:=by rfl)(hp:pn.ok o.dst=jf:=by rfl):RW P Γ pn ops (o::os) E Q:=oP h k hg hp
theorem zZv(k:RW P Γ pn ops os (E.app wr chg) Q)(h:Ok P Γ o E (E.app wr chg):=by exact zZu (by first|exact zAG rfl rfl|exact zEl rfl rfl (by first|rfl|exact yF (by assumption) rfl|exact yF (by assumption) (yF (by assumption) rfl)|exact vG rfl (yF (by assumption) rfl)|exact vF (yF (by assumption) rfl)|exact vF (vG rfl (yF (by assumption) rfl))|exact vF (vG rfl (yF (by assumption) (yF (by assumption) rfl)))) rfl) rfl (by assumption) rfl)(hg:o.guard=je:=by rfl)(hp:pn.ok o.dst=jf:=by rfl):RW P Γ pn ops (o::os) E Q:=oP h k hg hp
theorem zTR(k:RW P Γ pn ops os (E.app wr chg) Q)(h:Ok P Γ o E (E.app wr chg):=by exact yA2 (by first|exact zAG rfl rfl|exact zEl rfl rfl (by first|rfl|exact yF (by assumption) rfl|exact yF (by assumption) (yF (by assumption) rfl)|exact vG rfl (yF (by assumption) rfl)|exact vF (yF (by assumption) rfl)|exact vF (vG rfl (yF (by assumption) rfl))|exact vF (vG rfl (yF (by assumption) (yF (by assumption) rfl)))) rfl) rfl)(hg:o.guard=je:=by rfl)(hp:pn.ok o.dst=jf:=by rfl):RW P Γ pn ops (o::os) E Q:=oP h k hg hp
theorem zBe(k:RW P Γ pn ops os (E.app wr chg) Q)(h:Ok P Γ o E (E.app wr chg):=by exact zT7 (by assumption) rfl rfl rfl)(hg:o.guard=je:=by rfl)(hp:pn.ok o.dst=jf:=by rfl):RW P Γ pn ops (o::os) E Q:=oP h k hg hp
theorem zQs(k:RW P Γ pn ops os (E.app wr chg) Q)(h:Ok P Γ o E (E.app wr chg):=by exact zZj rfl rfl rfl)(hg:o.guard=je:=by rfl)(hp:pn.ok o.dst=jf:=by rfl):RW P Γ pn ops (o::os) E Q:=oP h k hg hp
theorem zTS(k:RW P Γ pn ops os (E.app wr chg) Q)(h:Ok P Γ o E (E.app wr chg):=by exact zTB rfl rfl rfl)(hg:o.guard=je:=by rfl)(hp:pn.ok o.dst=jf:=by rfl):RW P Γ pn ops (o::os) E Q:=oP h k hg hp
theorem yC7(k:RW P Γ pn ops os (E.app wr chg) Q)(h:Ok P Γ o E (E.app wr chg):=by first|exact yA1 rfl rfl rfl rfl rfl rfl|exact yA1 rfl rfl (by first|rfl|exact yF (by assumption) rfl|exact yF (by assumption) (yF (by assumption) rfl)|exact vG rfl (yF (by assumption) rfl)|exact vF (yF (by assumption) rfl)|exact vF (vG rfl (yF (by assumption) rfl))|exact vF (vG rfl (yF (by assumption) (yF (by assumption) rfl)))) (by rfl) (by rfl) (by rfl))(hg:o.guard=je:=by rfl)(hp:pn.ok o.dst=jf:=by rfl):RW P Γ pn ops (o::os) E Q:=oP h k hg hp
theorem zMe(k:RW P Γ pn ops os (E.app wr chg) Q)(h:Ok P Γ o E (E.app wr chg):=by first|exact zMc (by first|exact zAG rfl rfl|exact zEl rfl rfl (by first|rfl|exact yF (by assumption) rfl|exact yF (by assumption) (yF (by assumption) rfl)|exact vG rfl (yF (by assumption) rfl)|exact vF (yF (by assumption) rfl)|exact vF (vG rfl (yF (by assumption) rfl))|exact vF (vG rfl (yF (by assumption) (yF (by assumption) rfl)))) rfl) rfl rfl rfl rfl rfl|exact zMc (by first|exact zAG rfl rfl|exact zEl rfl rfl (by first|rfl|exact yF (by assumption) rfl|exact yF (by assumption) (yF (by assumption) rfl)|exact vG rfl (yF (by assumption) rfl)|exact vF (yF (by assumption) rfl)|exact vF (vG rfl (yF (by assumption) rfl))|exact vF (vG rfl (yF (by assumption) (yF (by assumption) rfl)))) rfl) rfl (by first|rfl|exact yF (by assumption) rfl|exact yF (by assumption) (yF (by assumption) rfl)|exact vG rfl (yF (by assumption) rfl)|exact vF (yF (by assumption) rfl)|exact vF (vG rfl (yF (by assumption) rfl))|exact vF (vG rfl (yF (by assumption) (yF (by assumption) rfl)))) (by rfl) (by rfl) (by rfl))(hg:o.guard=je:=by rfl)(hp:pn.ok o.dst=jf:=by rfl):RW P Γ pn ops (o::os) E Q:=oP h k hg hp
theorem zJk(k:RW P Γ pn ops os (E.app wr chg) Q)(h:Ok P Γ o E (E.app wr chg):=by exact zHf (by assumption) rfl rfl rfl)(hg:o.guard=je:=by rfl)(hp:pn.ok o.dst=jf:=by rfl):RW P Γ pn ops (o::os) E Q:=oP h k hg hp
theorem zZw(k:RW P Γ pn ops os (E.app wr chg) Q)(h:Ok P Γ o E (E.app wr chg):=by exact zZn rfl rfl rfl)(hg:o.guard=je:=by rfl)(hp:pn.ok o.dst=jf:=by rfl):RW P Γ pn ops (o::os) E Q:=oP h k hg hp
theorem zFU(k:RW P Γ pn ops os (E.app wr chg) Q)(h:Ok P Γ o E (E.app wr chg):=by exact zZm rfl rfl rfl)(hg:o.guard=je:=by rfl)(hp:pn.ok o.dst=jf:=by rfl):RW P Γ pn ops (o::os) E Q:=oP h k hg hp
theorem zTT(k:RW P Γ pn ops os (E.app wr chg) Q)(h:Ok P Γ o E (E.app wr chg):=by exact zTF inferInstance rfl rfl rfl rfl)(hg:o.guard=je:=by rfl)(hp:pn.ok o.dst=jf:=by rfl):RW P Γ pn ops (o::os) E Q:=oP h k hg hp
theorem zOh(k:RW P Γ pn ops os (E.app wr chg) Q)(h:Ok P Γ o E (E.app wr chg):=by first|exact zCi rfl (zHm rfl) rfl|exact zCi rfl (isPtr_addr rfl) rfl|exact zCi rfl (zFn (by first|exact zAG rfl rfl|exact zEl rfl rfl (by first|rfl|exact yF (by assumption) rfl|exact yF (by assumption) (yF (by assumption) rfl)|exact vG rfl (yF (by assumption) rfl)|exact vF (yF (by assumption) rfl)|exact vF (vG rfl (yF (by assumption) rfl))|exact vF (vG rfl (yF (by assumption) (yF (by assumption) rfl)))) rfl)) rfl)(hg:o.guard=je:=by rfl)(hp:pn.ok o.dst=jf:=by rfl):RW P Γ pn ops (o::os) E Q:=oP h k hg hp
theorem yC8(k:RW P Γ pn ops os (E.app wr chg) Q)(h:Ok P Γ o E (E.app wr chg):=by exact yE2 (by first|exact zAG rfl rfl|exact zEl rfl rfl (by first|rfl|exact yF (by assumption) rfl|exact yF (by assumption) (yF (by assumption) rfl)|exact vG rfl (yF (by assumption) rfl)|exact vF (yF (by assumption) rfl)|exact vF (vG rfl (yF (by assumption) rfl))|exact vF (vG rfl (yF (by assumption) (yF (by assumption) rfl)))) rfl) rfl (by assumption) rfl)(hg:o.guard=je:=by rfl)(hp:pn.ok o.dst=jf:=by rfl):RW P Γ pn ops (o::os) E Q:=oP h k hg hp
theorem zTU(k:RW P Γ pn ops os (E.app wr chg) Q)(h:Ok P Γ o E (E.app wr chg):=by exact yC6 (by first|exact zAG rfl rfl|exact zEl rfl rfl (by first|rfl|exact yF (by assumption) rfl|exact yF (by assumption) (yF (by assumption) rfl)|exact vG rfl (yF (by assumption) rfl)|exact vF (yF (by assumption) rfl)|exact vF (vG rfl (yF (by assumption) rfl))|exact vF (vG rfl (yF (by assumption) (yF (by assumption) rfl)))) rfl) rfl)(hg:o.guard=je:=by rfl)(hp:pn.ok o.dst=jf:=by rfl):RW P Γ pn ops (o::os) E Q:=oP h k hg hp
theorem zX9(k:RW P Γ pn ops os (E.app wr chg) Q)(h:Ok P Γ o E (E.app wr chg):=by exact zQf inferInstance rfl)(hg:o.guard=je:=by rfl)(hp:pn.ok o.dst=jf:=by rfl):RW P Γ pn ops (o::os) E Q:=oP h k hg hp
theorem zZx(k:RW P Γ pn ops os (E.app wr chg) Q)(h:Ok P Γ o E (E.app wr chg):=by exact zZo rfl rfl rfl)(hg:o.guard=je:=by rfl)(hp:pn.ok o.dst=jf:=by rfl):RW P Γ pn ops (o::os) E Q:=oP h k hg hp
theorem zTV(k:RW P Γ pn ops os (E.app wr chg) Q)(h:Ok P Γ o E (E.app wr chg):=by exact zZp rfl (zCL rfl) rfl)(hg:o.guard=je:=by rfl)(hp:pn.ok o.dst=jf:=by rfl):RW P Γ pn ops (o::os) E Q:=oP h k hg hp
theorem yC9(k:RW P Γ pn ops os (E.app wr chg) Q)(h:Ok P Γ o E (E.app wr chg):=by exact zZs rfl rfl)(hg:o.guard=je:=by rfl)(hp:pn.ok o.dst=jf:=by rfl):RW P Γ pn ops (o::os) E Q:=oP h k hg hp
theorem zDC(rd:List (Nat×T))(k:DK P Γ pn ops id hs E0 Q os (E.app wr chg) (⟨rd,[(wr,chg)]⟩::acc))(gU:E.Has rd:=by exact Q0)(h:∀E':Env,E'.Has rd->Ok P Γ o E' (E'.app wr chg):=by intro E' h;exact zR3 (hO h rfl) rfl)(hg:o.guard=je:=by rfl):DK P Γ pn ops id hs E0 Q (o::os) E acc:=dG rd [(wr,chg)] gU (fun E' h'=>wI.op (h E' h') hg) k
theorem yE4(rd:List (Nat×T))(k:DK P Γ pn ops id hs E0 Q os (E.app wr chg) (⟨rd,[(wr,chg)]⟩::acc))(gU:E.Has rd:=by exact Q0)(h:∀E':Env,E'.Has rd->Ok P Γ o E' (E'.app wr chg):=by intro E' h;exact zX1 (hO h rfl) rfl)(hg:o.guard=je:=by rfl):DK P Γ pn ops id hs E0 Q (o::os) E acc:=dG rd [(wr,chg)] gU (fun E' h'=>wI.op (h E' h') hg) k
theorem zJl(rd:List (Nat×T))(k:DK P Γ pn ops id hs E0 Q os (E.app wr chg) (⟨rd,[(wr,chg)]⟩::acc))(gU:E.Has rd:=by exact Q0)(h:∀E':Env,E'.Has rd->Ok P Γ o E' (E'.app wr chg):=by intro E' h;exact zTQ (hO h rfl) rfl rfl rfl)(hg:o.guard=je:=by rfl):DK P Γ pn ops id hs E0 Q (o::os) E acc:=dG rd [(wr,chg)] gU (fun E' h'=>wI.op (h E' h') hg) k
theorem zZy(rd:List (Nat×T))(k:DK P Γ pn ops id hs E0 Q os (E.app wr chg) (⟨rd,[(wr,chg)]⟩::acc))(gU:E.Has rd:=by exact Q0)(h:∀E':Env,E'.Has rd->Ok P Γ o E' (E'.app wr chg):=by intro E' h;exact zZu (by first|exact zAG (hE h rfl) rfl|exact zEl (hE h rfl) (hE h rfl) (by first|rfl|exact yF (by assumption) rfl|exact yF (by assumption) (yF (by assumption) rfl)|exact vG rfl (yF (by assumption) rfl)|exact vF (yF (by assumption) rfl)|exact vF (vG rfl (yF (by assumption) rfl))|exact vF (vG rfl (yF (by assumption) (yF (by assumption) rfl)))) rfl) (hO h rfl) (by assumption) rfl)(hg:o.guard=je:=by rfl):DK P Γ pn ops id hs E0 Q (o::os) E acc:=dG rd [(wr,chg)] gU (fun E' h'=>wI.op (h E' h') hg) k
theorem yCA(rd:List (Nat×T))(k:DK P Γ pn ops id hs E0 Q os (E.app wr chg) (⟨rd,[(wr,chg)]⟩::acc))(gU:E.Has rd:=by exact Q0)(h:∀E':Env,E'.Has rd->Ok P Γ o E' (E'.app wr chg):=by intro E' h;exact zT7 (by assumption) (hO h rfl) (hO h rfl) rfl)(hg:o.guard=je:=by rfl):DK P Γ pn ops id hs E0 Q (o::os) E acc:=dG rd [(wr,chg)] gU (fun E' h'=>wI.op (h E' h') hg) k
theorem zTW(rd:List (Nat×T))(k:DK P Γ pn ops id hs E0 Q os (E.app wr chg) (⟨rd,[(wr,chg)]⟩::acc))(gU:E.Has rd:=by exact Q0)(h:∀E':Env,E'.Has rd->Ok P Γ o E' (E'.app wr chg):=by intro E' h;first|exact zMc (by first|exact zAG (hE h rfl) rfl|exact zEl (hE h rfl) (hE h rfl) (by first|rfl|exact yF (by assumption) rfl|exact yF (by assumption) (yF (by assumption) rfl)|exact vG rfl (yF (by assumption) rfl)|exact vF (yF (by assumption) rfl)|exact vF (vG rfl (yF (by assumption) rfl))|exact vF (vG rfl (yF (by assumption) (yF (by assumption) rfl)))) rfl) (hE h rfl) rfl rfl rfl rfl|exact zMc (by first|exact zAG (hE h rfl) rfl|exact zEl (hE h rfl) (hE h rfl) (by first|rfl|exact yF (by assumption) rfl|exact yF (by assumption) (yF (by assumption) rfl)|exact vG rfl (yF (by assumption) rfl)|exact vF (yF (by assumption) rfl)|exact vF (vG rfl (yF (by assumption) rfl))|exact vF (vG rfl (yF (by assumption) (yF (by assumption) rfl)))) rfl) (hE h rfl) (by first|rfl|exact yF (by assumption) rfl|exact yF (by assumption) (yF (by assumption) rfl)|exact vG rfl (yF (by assumption) rfl)|exact vF (yF (by assumption) rfl)|exact vF (vG rfl (yF (by assumption) rfl))|exact vF (vG rfl (yF (by assumption) (yF (by assumption) rfl)))) (by rfl) (by rfl) (by rfl))(hg:o.guard=je:=by rfl):DK P Γ pn ops id hs E0 Q (o::os) E acc:=dG rd [(wr,chg)] gU (fun E' h'=>wI.op (h E' h') hg) k
theorem yCB(rd:List (Nat×T))(k:DK P Γ pn ops id hs E0 Q os (E.app wr chg) (⟨rd,[(wr,chg)]⟩::acc))(gU:E.Has rd:=by exact Q0)(h:∀E':Env,E'.Has rd->Ok P Γ o E' (E'.app wr chg):=by intro E' h;exact zHf (by assumption) (hO h rfl) (hO h rfl) rfl)(hg:o.guard=je:=by rfl):DK P Γ pn ops id hs E0 Q (o::os) E acc:=dG rd [(wr,chg)] gU (fun E' h'=>wI.op (h E' h') hg) k
theorem zZz(rd:List (Nat×T))(k:DK P Γ pn ops id hs E0 Q os (E.app wr chg) (⟨rd,[(wr,chg)]⟩::acc))(gU:E.Has rd:=by exact Q0)(h:∀E':Env,E'.Has rd->Ok P Γ o E' (E'.app wr chg):=by intro E' h;exact zTF inferInstance (hO h rfl) rfl rfl rfl)(hg:o.guard=je:=by rfl):DK P Γ pn ops id hs E0 Q (o::os) E acc:=dG rd [(wr,chg)] gU (fun E' h'=>wI.op (h E' h') hg) k
theorem zTX(rd:List (Nat×T))(k:DK P Γ pn ops id hs E0 Q os (E.app wr chg) (⟨rd,[(wr,chg)]⟩::acc))(gU:E.Has rd:=by exact Q0)(h:∀E':Env,E'.Has rd->Ok P Γ o E' (E'.app wr chg):=by intro E' h;first|exact zCi (hO h rfl) (zHm (hO h rfl)) rfl|exact zCi (hO h rfl) (isPtr_addr (hO h rfl)) rfl|exact zCi (hO h rfl) (zFn (by first|exact zAG (hE h rfl) rfl|exact zEl (hE h rfl) (hE h rfl) (by first|rfl|exact yF (by assumption) rfl|exact yF (by assumption) (yF (by assumption) rfl)|exact vG rfl (yF (by assumption) rfl)|exact vF (yF (by assumption) rfl)|exact vF (vG rfl (yF (by assumption) rfl))|exact vF (vG rfl (yF (by assumption) (yF (by assumption) rfl)))) rfl)) rfl)(hg:o.guard=je:=by rfl):DK P Γ pn ops id hs E0 Q (o::os) E acc:=dG rd [(wr,chg)] gU (fun E' h'=>wI.op (h E' h') hg) k
theorem cA{f:FuncId}{xs:List Operand}{res:List T}(gn:kM P f)(hc:FnC P f us res [])(k:RW P Γ pn ops os (E.app (cWr d res []) (uA d [])) Q)(gj:xJ E [] 0 xs us:=by repeat (first|exact trivial|refine⟨agC _ rfl (by first|rfl|exact zTD inferInstance|exact zOc rfl (by first|rfl|exact yF (by assumption) rfl|exact yF (by assumption) (yF (by assumption) rfl)|exact vG rfl (yF (by assumption) rfl)|exact vF (yF (by assumption) rfl)|exact vF (vG rfl (yF (by assumption) rfl))|exact vF (vG rfl (yF (by assumption) (yF (by assumption) rfl)))) inferInstance|exact cloSR rfl (by first|rfl|exact yF (by assumption) rfl|exact yF (by assumption) (yF (by assumption) rfl)|exact vG rfl (yF (by assumption) rfl)|exact vF (yF (by assumption) rfl)|exact vF (vG rfl (yF (by assumption) rfl))|exact vF (vG rfl (yF (by assumption) (yF (by assumption) rfl))))) rfl,?_⟩))(gw:zBd res:=by repeat (first|exact zFm|refine zLR inferInstance ?_))(sd:J6 d Γ.N=jf:=by rfl)(hg:gd=je:=by rfl)(hp:pn.ok (jd d)=jf:=by rfl):
  RW P Γ pn ops (⟨jd d,.call { callee:=.value (.func f),args:=xs.toArray,argTypes:=ats },ty,ps,af,gd⟩::os) E Q:=oP (zOd gn hc gj gw sd) k hg hp
theorem dC{f:FuncId}{xs:List Operand}{res:List T}(rd:List (Nat×T))(gn:kM P f)(hc:FnC P f us res [])(k:DK P Γ pn ops id hs E0 Q os (E.app (cWr d res []) (uA d [])) (⟨rd,[(cWr d res [],uA d [])]⟩::acc))(gU:E.Has rd:=by exact Q0)(gj:∀E':Env,E'.Has rd->xJ E' [] 0 xs us:=by intro E' h;repeat (first|exact trivial|refine⟨agC _ (hO h rfl) (by first|rfl|exact zTD inferInstance|exact zOc (hE h rfl) (by first|rfl|exact yF (by assumption) rfl|exact yF (by assumption) (yF (by assumption) rfl)|exact vG rfl (yF (by assumption) rfl)|exact vF (yF (by assumption) rfl)|exact vF (vG rfl (yF (by assumption) rfl))|exact vF (vG rfl (yF (by assumption) (yF (by assumption) rfl)))) inferInstance|exact cloSR (hE h rfl) (by first|rfl|exact yF (by assumption) rfl|exact yF (by assumption) (yF (by assumption) rfl)|exact vG rfl (yF (by assumption) rfl)|exact vF (yF (by assumption) rfl)|exact vF (vG rfl (yF (by assumption) rfl))|exact vF (vG rfl (yF (by assumption) (yF (by assumption) rfl))))) rfl,?_⟩))(gw:zBd res:=by repeat (first|exact zFm|refine zLR inferInstance ?_))(sd:J6 d Γ.N=jf:=by rfl)(hg:gd=je:=by rfl):
  DK P Γ pn ops id hs E0 Q (⟨jd d,.call { callee:=.value (.func f),args:=xs.toArray,argTypes:=ats },ty,ps,af,gd⟩::os) E acc:=
 dG rd [(cWr d res [],uA d [])] gU (fun E' h'=>wI.op (zOd gn hc (gj E' h') gw sd) hg) k
theorem sk2{g s:Nat}{b b':Bool}(k:RW P Γ pn ops os (E.app [(d,jd (.tup []))] [(d,0)]) Q)(hd:o.dst=jd d:=by rfl)(hg:o.guard=jd (g,b):=by rfl)(fm:(ops[g]?).bind (·.dst)=jd s:=by rfl)(hb:E s=jd (.lit (.bool b')):=by rfl)(fx:(b==b')=jg:=by rfl)(sd:J6 d Γ.N=jf:=by rfl)(hp:pn.ok o.dst=jf:=by rfl):
  RW P Γ pn ops (o::os) E Q:=RW.cons (wI.skip2 g b b' s hd sd fx hg fm hb) k hp
theorem yE5{g s:Nat}{b b':Bool}(k:DK P Γ pn ops id hs E0 Q os (E.app [(d,jd (.tup []))] [(d,0)]) (⟨[(s,.lit (.bool b'))],[([(d,jd (.tup []))],[(d,0)])]⟩::acc))(hd:o.dst=jd d:=by rfl)(hg:o.guard=jd (g,b):=by rfl)(fm:(ops[g]?).bind (·.dst)=jd s:=by rfl)(hb:E s=jd (.lit (.bool b')):=by rfl)(fx:(b==b')=jg:=by rfl)(sd:J6 d Γ.N=jf:=by rfl):
  DK P Γ pn ops id hs E0 Q (o::os) E acc:=dG [(s,.lit (.bool b'))] [([(d,jd (.tup []))],[(d,0)])] ⟨hb,trivial⟩ (fun _E' h=>wI.skip2 g b b' s hd sd fx hg fm h.1) k
theorem yE6{g s:Nat}{b:Bool}(k:DK P Γ pn ops id hs E0 Q os (E.app [(d,jd (.tup []))] [(d,0)]) (⟨[(s,.tup [])],[([(d,jd (.tup []))],[(d,0)])]⟩::acc))(hd:o.dst=jd d:=by rfl)(hg:o.guard=jd (g,b):=by rfl)(fm:(ops[g]?).bind (·.dst)=jd s:=by rfl)(hb:E s=jd (.tup []):=by rfl)(sd:J6 d Γ.N=jf:=by rfl):
  DK P Γ pn ops id hs E0 Q (o::os) E acc:=dG [(s,.tup [])] [([(d,jd (.tup []))],[(d,0)])] ⟨hb,trivial⟩ (fun _E' h=>wI.skip3 g b s hd sd hg fm h.1) k
theorem dNA(hm:P.follows .mixedOrders=jf)(hQ:Q .normal E)(hf:zA0 0 ops.toList=jf:=by rfl)(ha:kV (yAw ops.toList) (yAw ops.toList) ops.toList=jf:=by rfl)(hp:jD acc.reverse 0 (yAw ops.toList) acc.reverse=jf:=by rfl)
  (aC:ops.toList.all (fun o=>pn.ok o.dst)=jf:=by rfl)(tg:zTO hs E0=jf:=by rfl)(hw:acc.reverse.all (wrS hs)=jf:=by rfl):DK P Γ pn ops id hs E0 Q [] E acc:=dN _ hm hQ hf ha hp aC tg hw
theorem cn{c1 c2:Code}{α:Type}{b:Bool}{u v z:α}(h:cond b u v=z)(ht:b=jf->u=z->CW P Γ pn c1 E Q)(hf:b=jg->v=z->CW P Γ pn c2 E Q)(hb:opT E x=jd (.lit (.bool b)):=by rfl):CW P Γ pn (.cond x c1 c2) E Q:=
 CW.cond b hb (fun hc=>ht hc (cT hc h)) fun hc=>hf hc (cF hc h)
theorem fB{f:FuncId}{res:List T}(hf:P.funcs[f]? =jd fn)(h:∀(St:Stb)(W:Nat->Prop)(w0:World)(v:Nat->Value),CW P ⟨St,W,w0,fn.ntmps⟩ (zCf v (rws.map (·.1))) c (vU (zI3 0 us)) (vH ⟨St,W,w0,fn.ntmps⟩ P fn.results us res rws))(hb:fn.body=jd c:=by rfl)(hn:us.length<=fn.ntmps:=by exact Nat.le_of_ble_eq_true rfl)
  (ht:uI us:=by exact Q4)(hr:rws.all (fun x=>decide (x.1<us.length))=jf:=by rfl):FnC P f us res rws:=
 FnC.of_bodyG hf hb hn ht hr (by rintro⟨St,W,w0,N⟩ v hN;subst hN;exact h St W w0 v)
def zCm:List ResultVar->Option (List Nat)
 | []=>jd []
 |.tmp s::l=>(zCm l).map (s::·)
 |.cell _ _::_=>je
theorem zJm:∀(rs:List ResultVar)(ss:List Nat)(res:List T),zCm rs=jd ss->ss.map E=res.map jd->res.all T.okTup=jf-> ∃nd:Nds,zR1 P E rs nd/\nd.map (·.2.2)=res/\nd.map (·.1)=ss
 | [],ss,res,h,hE,_=>by
  simp[zCm]at h;subst h;cases res with
  |nil=>exact⟨[],trivial,rfl,rfl⟩
  |cons _ _=>simp at hE
 |.tmp s::rs,ss,res,h,hE,ht=>by
  simp only[zCm,Kf]at h;obtain⟨ss',h,rfl⟩:=h;cases res with
  |nil=>simp at hE
  |cons t res=>
   simp only[Ju,Jae.injEq]at hE;simp only[Un,J4]at ht;obtain⟨nd,h1,h2,h3⟩:=zJm rs ss' res h hE.2 ht.2;exact⟨(s,[],t)::nd,⟨⟨rfl,rfl,hE.1,ht.1⟩,h1⟩,by simp[h2],by simp[h3]⟩
 |.cell _ _::_,_,_,h,_,_=>by simp[zCm]at h
theorem rT{rs:Array ResultVar}{res:List T}{e:Exit}{ss:List Nat}(hs:zCm rs.toList=jd ss:=by rfl)(hE:ss.map E=res.map jd:=by rfl)(ht:res.all T.okTup=jf:=by rfl)(hl:ss.all (fun s=>Nat.ble us.length s)=jf:=by rfl)(hn:zBy ss=jf:=by rfl)
  (hw:LOk E us rws:=by repeat (first|exact trivial|refine⟨⟨rfl,_,rfl⟩,?_⟩))(he:e=.ret\/e=.normal:=by first|exact .inl rfl|exact .inr rfl):vH Γ P rs us res rws e E:=by
 obtain⟨nd,h1,h2,h3⟩:=zJm (P:=P) rs.toList ss res hs hE ht;refine⟨E,zQ.refl,he,nd,h1,h2,fun x hx=>?_,by rw[h3];exact zFo hn,hw⟩;have:x.1∈ss:=by rw[<-h3];exact Jc.2 ⟨x,hx,rfl⟩
 exact Nat.le_of_ble_eq_true (Ki.1 hl _ this)
theorem eN{σ ρ:Type}{en:σ->Env}{Q1:ρ->Exit->Env->Prop}{y:σ}{x:σ⊕ρ}(h:jd (Sum.inl y)=jd x)(q:zQ Γ E (en y):=by exact .has (by repeat (first|exact trivial|refine⟨rfl,?_⟩))):wF Γ en Q1 x .normal E:=by obtain rfl:=sI h;exact⟨rfl,q⟩
theorem rTg{rs:Array ResultVar}{res:List T}{e:Exit}(hg:zQ Γ E E')(h:vH Γ P rs us res rws e E'):vH Γ P rs us res rws e E:=by obtain⟨E2,h1,h2⟩:=h;exact⟨E2,hg.trans h1,h2⟩
theorem eX{σ ρ:Type}{en:σ->Env}{Q1:ρ->Exit->Env->Prop}{y:ρ}{x:σ⊕ρ}{e:Exit}(h:jd (Sum.inr y)=jd x)(q:Q1 y e E:=by first|exact⟨rfl,.has (by repeat (first|exact trivial|refine⟨rfl,?_⟩))⟩|exact⟨rfl,rT⟩)(gc:e≠.normal:=by first|exact neX|exact neR):wF Γ en Q1 x e E:=by obtain rfl:=sI h;exact⟨gc,q⟩
end
section
variable {Γ:Ctx}{E:Env}
theorem zQ.frzG(s:Nat)(t:T){t':T}(hs:E s=jd t)(h:vR t=t'):zQ Γ E (E.app [(s,jd t')] [(s,1)]):=h▸zQ.freeze s t hs
theorem fzO{α:Type}{f g:α->T}{xs:List α}(h:uE f g):vR (L k f xs)=.ro (L k g xs):=by simp only[vR,strip,tD h.h xs]
theorem fzP{t:T}(h:strip t=u):vR (.ptr t)=.ro (.ptr u):=by grind[vR,strip]
theorem fzA{xs ys:List T}(h:vN xs=ys):vR (.agg xs)=.agg ys:=by grind[vR]
theorem fzC{x y:T}{xs ys:List T}(h:vR x=y)(h2:vN xs=ys):vN (x::xs)=y::ys:=by grind[vN]
end
theorem zQt{α:Type}{f:α->T}{xs:List α}{j:Int}{a b:α}{X:T}(hi:ixO xs i=jd a)(hj:ixO xs j=jd b)(gc:(i != j)=jf):
  (if[i.toNat]=[]then X else(L k f xs).set [i.toNat].reverse T.any).get [j.toNat].reverse=jd (f b):=by
 have h1:=(uJ hi);have h2:=(uJ hj);have h3:i≠j:=by grind
 have h4:i.toNat≠j.toNat:=by omega
 simp only[List.cons_ne_nil,if_false,G8,Hw,Jz]
 grind[T.set,T.get]
theorem zTY{rs:List Nat}{s:Nat}{tr:T}(hr:E r=jd tr)(hg:tr.get q.reverse=jd u)(h4:kW u=jf)(hn:rs.contains r=jg):zIV E rs (.tmp s) (.same r q)=jf:=by simp only[zIV,sT,zBc hr hg h4,hn,H5]
section
variable {P:Program}{Γ:Ctx}{pn:sF}{E E' E0:Env}{Q:Exit->Env->Prop}{ops:Array Oper}{o:Oper}{os:List Oper}{id d:Nat}{hs:List Nat}{acc:List Stp}{x y:Operand}{ty:TypeId}{ps:String}{af:Array Edge}{gd:Option (Nat×Bool)}
theorem dGk{l:zBP}(k:DK P Γ pn ops id hs E0 Q os (E.apps l) (⟨rd,l⟩::acc))(gU:E.Has rd)(gA:∀E':Env,E'.Has rd->wI P Γ ops o E' (E'.apps l)):DK P Γ pn ops id hs E0 Q (o::os) E acc:=dG rd l gU gA k
theorem zZ0(s:Nat)(k:DK P Γ pn ops id hs E0 Q os (E.app [(d,jd (.same s []))] [(d,0)]) (⟨[],[([(d,jd (.same s []))],[(d,0)])]⟩::acc))(gF:hs.contains s=jf:=by rfl)(sd:(J6 d Γ.N&&s != d)=jf:=by rfl)(hg:gd=je:=by rfl):
  DK P Γ pn ops id hs E0 Q (⟨jd d,.move (.tmp s),ty,ps,af,gd⟩::os) E acc:=
 dGS [] [([(d,jd (.same s []))],[(d,0)])] trivial (fun E' _ hh=>by
  obtain⟨t,he,ht⟩:=hh s gF;have hc:uY (.tmp s) t=.same s []:=by cases t<;>simp[jZ]at ht<;>rfl
  have hk:t.okTup=jf:=by cases t<;>simp[jZ]at ht<;>rfl
  simp only[J4]at sd;have h1:=zR3 (P:=P) (Γ:=Γ) (d:=d) (ty:=ty) (ps:=ps) (af:=af) (gd:=gd) (x:=.tmp s) (t:=t) (E:=E') he (by
   simp only[mvB,sd.1,hk,neD,hc,T.okB,Qq,Bool.and_true];have:s≠d:=by grind
   simp[this,Ne.symm this,kR])
  rw[hc]at h1;exact wI.op h1 hg) k
theorem yCC{t:TypeId}{ys:List T}[ht:zAH P t e ti k](hx:uZ E x=jd (r,q,.sl k ys))(hy:opT E y=jd (I i))(h:0<=i/\i.toNat<ys.length)(sd:J6 d Γ.N=jf):
  Ok P Γ ⟨jd d,.indexAddr t x y,ty,ps,af,gd⟩ E (E.app [(d,jd (.addr r (i.toNat::q)))] [(d,0)]):=
 fun _=>zTe x y t e ti r q k ys .i64 i rfl rfl (yE sd) ht.un ht.info ht.size hx hy h.1 h.2
theorem zQ.red(d1 d2 r:Nat)(q q':List Nat)(h1:E d1=jd (.same r q))(h2:E d2=jd (.same r q'))(hq:q=q'):zQ Γ E (E.app [(d2,jd (.same d1 []))] []):=by
 subst hq
 rintro a w ⟨S,hS,gJ,G,g9⟩
 refine⟨S,hS,gJ,G,?_⟩;have hk:sL [] G w G w:=⟨fun _ _ _=>rfl,fun _ _ _=>rfl,by simp,fun _ _ _ h _=>h,fun b cs e h=>⟨cs,h,rfl⟩⟩;refine wT g9 rfl hk g9.mem (by simp) fun s t hs=>?_
 simp only[Wr.find]at hs;split at hs
 ·rename_i e;subst e
  simp at hs;subst hs;obtain⟨g1,g2,_⟩:=g9.ent d2 _ h2;obtain⟨_,g4,_⟩:=g9.ent d1 _ h1;simp only[R]at g2 g4;exact⟨by rw[g1];rfl,by simp only[R];rw[g2,g4],by simp[Top]⟩
 ·cases hs
theorem zQ.red2(d1 d2 r:Nat)(q:List Nat)(h1:E d1=jd (.same r q))(h2:E d2=jd (.same d1 [])):zQ Γ E (E.app [(d2,jd (.same r q))] []):=by
 rintro a w ⟨S,hS,gJ,G,g9⟩
 refine⟨S,hS,gJ,G,?_⟩;have hk:sL [] G w G w:=⟨fun _ _ _=>rfl,fun _ _ _=>rfl,by simp,fun _ _ _ h _=>h,fun b cs e h=>⟨cs,h,rfl⟩⟩;refine wT g9 rfl hk g9.mem (by simp) fun s t hs=>?_
 simp only[Wr.find]at hs;split at hs
 ·rename_i e;subst e
  simp at hs;subst hs;obtain⟨g1,g2,_⟩:=g9.ent d2 _ h2;obtain⟨_,g4,_⟩:=g9.ent d1 _ h1;simp only[R]at g2 g4;exact⟨by rw[g1];rfl,by simp only[R];rw[g2,g4],by simp[Top]⟩
 ·cases hs
theorem slG{n:Nat}{ys:List T}(h:ys[n]? =jd u):(T.sl k ys).get [n]=jd u:=by simp[T.get,h]
theorem slS{n:Nat}{ys:List T}{v:T}(h:ys[n]? =jd u):(T.sl k ys).set [n] v=.sl k (ys.set n v):=by simp[T.set,h]
theorem mpG{α:Type}{f:α->T}{xs:List α}{a:α}(h:ixO xs i=jd a):(xs.map f)[i.toNat]? =jd (f a):=by simp[(uJ h).2]
theorem stE{ys:List T}{n:Nat}{v:T}(h:ys[n]? =jd u):(ys.set n v)[n]? =jd v:=by grind
theorem stN{ys:List T}{n m:Nat}{v:T}(h:ys[m]? =jd u)(gc:n≠m):(ys.set n v)[m]? =jd u:=by grind
theorem zTZ{α:Type}{xs:List α}{j:Int}{a b:α}(ha:ixO xs i=jd a)(hb:ixO xs j=jd b)(h:(i==j)=jg):i.toNat≠j.toNat:=by
 have h1:=(uJ ha).1;have h2:=(uJ hb).1
 grind
theorem yCD{α:Type}{xs:List α}{a:α}(h:ixO xs i=jd a){ys:List T}(hl:ys.length=xs.length):0<=i/\i.toNat<ys.length:=by
 obtain⟨h1,h2⟩:=uJ h
 grind
def qY{α:Type}(xs:List α)(j i:Int)(a b:α):List α:=(xs.set j.toNat a).set i.toNat b
theorem yCE{α:Type}{f:α->T}{xs:List α}{j:Int}{a b:α}(gc:i.toNat≠j.toNat):
  ((((xs.map f).set i.toNat .any).set j.toNat .any).set j.toNat (f a)).set i.toNat (f b)=(qY xs j i a b).map f:=by
 grind[Jay,List.set_comm,qY,Uj]
theorem yCF{α:Type}{f:α->T}{xs:List α}{j:Int}{a b:α}(ha:ixO xs i=jd a)(hb:ixO xs j=jd b)(h:i=j):
  ((((xs.map f).set i.toNat .any).set j.toNat (f a)).set j.toNat .any).set i.toNat (f a)=(qY xs j i a b).map f:=by
 subst h;have:a=b:=by grind
 subst this;simp[qY,Uj]
theorem CW.midA{c1 c2:Code}(l:List (Nat×T))(h1:CW P Γ pn c1 E fun e E'=>e=.normal/\zQ Γ E' (vU l))(h2:CW P Γ pn c2 (vU l) Q):CW P Γ pn c1 E (yQ P Γ pn c2 Q):=
 CW.mono h1 fun e E' h=>by obtain⟨rfl,hg⟩:=h;exact CW.ghost hg h2
section
variable {β:Type}{g:β->T}{k2 k:Nat}{xs:List (List β)}{i j:Int}{a b:List β}{t:TypeId}{ti:TypeInfo}{A U V r:Nat}
abbrev neB(A U V r:Nat):Bool:=U != r&&V != r&&U != V&&A != r&&A != U&&A != V
theorem zHs(h:neB A U V r=jf):U≠r/\V≠r/\U≠V/\A≠r/\A≠U/\A≠V:=by grind
theorem yE7[he:Enc g](hi:P.info? t=jd ti)(gr:(ti.size==1&&J6 0 ti.size)=jf)(ha:ixO xs i=jd a)(hb:ixO xs j=jd b)(hn:i.toNat≠j.toNat)
  (kk:DK P Γ pn ops id hs E0 Q os (E.apps [([(U,jd (L k2 g a)),(r,jd (.sl k ((xs.map (L k2 g)).set i.toNat .any)))],[(U,1),(r,2)]),([(V,jd (L k2 g b)),(r,jd (.sl k (((xs.map (L k2 g)).set i.toNat .any).set j.toNat .any)))],[(V,1),(r,2)]),([(r,jd (.sl k ((((xs.map (L k2 g)).set i.toNat .any).set j.toNat .any).set j.toNat (L k2 g a)))),(U,jd (.same r [j.toNat]))],[(r,1),(U,1)])])
   (⟨[(A,.addr r [j.toNat]),(U,.same r [i.toNat]),(V,.same r [j.toNat]),(r,L k (L k2 g) xs)],[([(U,jd (L k2 g a)),(r,jd (.sl k ((xs.map (L k2 g)).set i.toNat .any)))],[(U,1),(r,2)]),([(V,jd (L k2 g b)),(r,jd (.sl k (((xs.map (L k2 g)).set i.toNat .any).set j.toNat .any)))],[(V,1),(r,2)]),([(r,jd (.sl k ((((xs.map (L k2 g)).set i.toNat .any).set j.toNat .any).set j.toNat (L k2 g a)))),(U,jd (.same r [j.toNat]))],[(r,1),(U,1)])]⟩::acc))
  (hA:E A=jd (.addr r [j.toNat]):=by rfl)(hU:E U=jd (.same r [i.toNat]):=by rfl)(hV:E V=jd (.same r [j.toNat]):=by rfl)(hr:E r=jd (L k (L k2 g) xs):=by rfl)(gc:neB A U V r=jf:=by rfl)(hg:gd=je:=by rfl):
  DK P Γ pn ops id hs E0 Q (⟨je,.store t (.tmp A) (.tmp U),ty,ps,af,gd⟩::os) E acc:=by
 obtain⟨n1,n2,n3,n4,n5,n6⟩:=zHs gc;refine dGk kk ⟨hA,hU,hV,hr,trivial⟩ (fun E' h=>?_);obtain⟨h1,h2,h3,h4,_⟩:=h;refine wI.gh (zQ.trq (u:=L k2 g a) U r [i.toNat] h2 h4 (slG (mpG ha)) (xF he.clean) (by grind[T.single,wO,T.okB]) (slS (mpG ha))) ?_;refine wI.gh (zQ.trq (u:=L k2 g b) V r [j.toNat] (tr:=.sl k ((xs.map (L k2 g)).set i.toNat .any)) (by simp[Env.app,Wr.find,n1,n3,h3,T.okB,kR,Ne.symm n2]) (by grind[Env.app,Wr.find]) (slG (stN (mpG hb) hn)) (xF he.clean) (by grind[T.single,wO,T.okB]) (slS (stN (mpG hb) hn))) ?_;refine wI.opE (E1:=_) (zR4 (tr:=.sl k (((xs.map (L k2 g)).set i.toNat .any).set j.toNat .any)) (u:=L k2 g a) (u0:=.any) (r:=r) (q:=[j.toNat]) hi (by grind[T.size]) ?_ ?_ (slG (stE (stN (mpG hb) hn))) (slS (stE (stN (mpG hb) hn))) ?_ (xF he.clean) ?_) rfl hg
 ·simp[opT,Env.app,Wr.find,h1,n1,n2,Ne.symm n4,Ne.symm n5,Ne.symm n6,T.okB,kR]
 ·grind[Env.app,Wr.find]
 ·simp[Env.app,Wr.find,Ne.symm n1,Ne.symm n3,T.okB]
 ·simp[T.single,T.locd,vQ,T.okTup,Ne.symm n1]
theorem yE8[he:Enc g](hi:P.info? t=jd ti)(gr:(ti.size==1&&J6 0 ti.size)=jf)(ha:ixO xs i=jd a)(_hb:ixO xs j=jd b)(hn:i.toNat≠j.toNat)
  (kk:DK P Γ pn ops id hs E0 Q os (E.apps [([(r,jd (L k (L k2 g) (qY xs j i a b))),(V,jd (.same r [i.toNat]))],[(r,1),(V,1)])]) (⟨[(A,.addr r [i.toNat]),(V,L k2 g b),(r,.sl k ((((xs.map (L k2 g)).set i.toNat .any).set j.toNat .any).set j.toNat (L k2 g a)))],[([(r,jd (L k (L k2 g) (qY xs j i a b))),(V,jd (.same r [i.toNat]))],[(r,1),(V,1)])]⟩::acc))
  (hA:E A=jd (.addr r [i.toNat]):=by rfl)(hV:E V=jd (L k2 g b):=by rfl)(hr:E r=jd (.sl k ((((xs.map (L k2 g)).set i.toNat .any).set j.toNat .any).set j.toNat (L k2 g a))):=by rfl)(gc:(r != V)=jf:=by rfl)(hg:gd=je:=by rfl):
  DK P Γ pn ops id hs E0 Q (⟨je,.store t (.tmp A) (.tmp V),ty,ps,af,gd⟩::os) E acc:=by
 refine dGk kk ⟨hA,hV,hr,trivial⟩ (fun E' h=>?_);obtain⟨h1,h3,h4,_⟩:=h;have hh:((((xs.map (L k2 g)).set i.toNat .any).set j.toNat .any).set j.toNat (L k2 g a))[i.toNat]? =jd .any:=stN (stN (stE (mpG ha)) (Ne.symm hn)) (Ne.symm hn);refine wI.opE (zR4 (u:=L k2 g b) (q:=[i.toNat]) (E:=E') hi (by grind[T.size]) h1 h4 (slG hh) ((slS hh).trans (congrArg (T.sl k) (yCE hn))) h3 (xF he.clean) ?_) rfl hg
 grind[T.single,T.locd,vQ,T.okTup]
theorem yE9[he:Enc g](hi:P.info? t=jd ti)(gr:(ti.size==1&&J6 0 ti.size)=jf)(ha:ixO xs i=jd a)(gI:i=j)
  (kk:DK P Γ pn ops id hs E0 Q os (E.apps [([(V,jd (.same U []))],[]),([(U,jd (L k2 g a)),(r,jd (.sl k ((xs.map (L k2 g)).set i.toNat .any)))],[(U,1),(r,2)]),([(r,jd (.sl k (((xs.map (L k2 g)).set i.toNat .any).set j.toNat (L k2 g a)))),(U,jd (.same r [j.toNat]))],[(r,1),(U,1)])])
   (⟨[(A,.addr r [j.toNat]),(U,.same r [i.toNat]),(V,.same r [j.toNat]),(r,L k (L k2 g) xs)],[([(V,jd (.same U []))],[]),([(U,jd (L k2 g a)),(r,jd (.sl k ((xs.map (L k2 g)).set i.toNat .any)))],[(U,1),(r,2)]),([(r,jd (.sl k (((xs.map (L k2 g)).set i.toNat .any).set j.toNat (L k2 g a)))),(U,jd (.same r [j.toNat]))],[(r,1),(U,1)])]⟩::acc))
  (hA:E A=jd (.addr r [j.toNat]):=by rfl)(hU:E U=jd (.same r [i.toNat]):=by rfl)(hV:E V=jd (.same r [j.toNat]):=by rfl)(hr:E r=jd (L k (L k2 g) xs):=by rfl)(gc:neB A U V r=jf:=by rfl)(hg:gd=je:=by rfl):
  DK P Γ pn ops id hs E0 Q (⟨je,.store t (.tmp A) (.tmp U),ty,ps,af,gd⟩::os) E acc:=by
 obtain⟨n1,n2,n3,n4,n5,n6⟩:=zHs gc;refine dGk kk ⟨hA,hU,hV,hr,trivial⟩ (fun E' h=>?_);subst gI;obtain⟨h1,h2,h3,h4,_⟩:=h;refine wI.gh (zQ.red U V r _ _ h2 h3 rfl) ?_;refine wI.gh (zQ.trq (u:=L k2 g a) U r [i.toNat] (tr:=L k (L k2 g) xs) (by simp[Env.app,Wr.find,Ne.symm n3,h2,T.okB,kR]) (by grind[Env.app,Wr.find,T.okB]) (slG (mpG ha)) (xF he.clean) (by grind[T.single,wO,T.okB]) (slS (mpG ha))) ?_;refine wI.opE (zR4 (tr:=.sl k ((xs.map (L k2 g)).set i.toNat .any)) (u:=L k2 g a) (u0:=.any) (r:=r) (q:=[i.toNat]) hi (by grind[T.size]) ?_ ?_ (slG (stE (mpG ha))) (slS (stE (mpG ha))) ?_ (xF he.clean) ?_) rfl hg
 ·simp[opT,Env.app,Wr.find,h1,n1,Ne.symm n4,Ne.symm n5,Ne.symm n6,T.okB,kR]
 ·grind[Env.app,Wr.find]
 ·simp[Env.app,Wr.find]
 ·simp[T.single,T.locd,vQ,T.okTup,Ne.symm n1]
theorem yEA[he:Enc g](hi:P.info? t=jd ti)(gr:(ti.size==1&&J6 0 ti.size)=jf)(ha:ixO xs i=jd a)(hb:ixO xs j=jd b)(gI:i=j)
  (kk:DK P Γ pn ops id hs E0 Q os (E.apps [([(V,jd (.same r [j.toNat]))],[]),([(V,jd (L k2 g a)),(r,jd (.sl k ((((xs.map (L k2 g)).set i.toNat .any).set j.toNat (L k2 g a)).set j.toNat .any)))],[(V,1),(r,2)]),([(r,jd (L k (L k2 g) (qY xs j i a b))),(V,jd (.same r [i.toNat]))],[(r,1),(V,1)])])
   (⟨[(A,.addr r [i.toNat]),(V,.same U []),(U,.same r [j.toNat]),(r,.sl k (((xs.map (L k2 g)).set i.toNat .any).set j.toNat (L k2 g a)))],[([(V,jd (.same r [j.toNat]))],[]),([(V,jd (L k2 g a)),(r,jd (.sl k ((((xs.map (L k2 g)).set i.toNat .any).set j.toNat (L k2 g a)).set j.toNat .any)))],[(V,1),(r,2)]),([(r,jd (L k (L k2 g) (qY xs j i a b))),(V,jd (.same r [i.toNat]))],[(r,1),(V,1)])]⟩::acc))
  (hA:E A=jd (.addr r [i.toNat]):=by rfl)(hV:E V=jd (.same U []):=by rfl)(hU:E U=jd (.same r [j.toNat]):=by rfl)(hr:E r=jd (.sl k (((xs.map (L k2 g)).set i.toNat .any).set j.toNat (L k2 g a))):=by rfl)(gc:neB A U V r=jf:=by rfl)(hg:gd=je:=by rfl):
  DK P Γ pn ops id hs E0 Q (⟨je,.store t (.tmp A) (.tmp V),ty,ps,af,gd⟩::os) E acc:=by
 obtain⟨n1,n2,n3,n4,n5,n6⟩:=zHs gc;refine dGk kk ⟨hA,hV,hU,hr,trivial⟩ (fun E' h=>?_);obtain⟨h1,h3,h2,h4,_⟩:=h;have bU:=yCF (f:=L k2 g) ha hb gI;subst gI;have g1:(((xs.map (L k2 g)).set i.toNat .any).set i.toNat (L k2 g a))[i.toNat]? =jd (L k2 g a):=stE (stE (mpG ha));refine wI.gh (zQ.red2 U V r _ h2 h3) ?_;refine wI.gh (zQ.trq (u:=L k2 g a) V r [i.toNat] (tr:=.sl k (((xs.map (L k2 g)).set i.toNat .any).set i.toNat (L k2 g a))) (by simp[Env.app,Wr.find]) (by grind[Env.app,Wr.find,T.okB]) (slG g1) (xF he.clean) (by grind[T.single,wO,T.okB]) (slS g1)) ?_;refine wI.opE (zR4 (tr:=.sl k ((((xs.map (L k2 g)).set i.toNat .any).set i.toNat (L k2 g a)).set i.toNat .any)) (u:=L k2 g a) (u0:=.any) (r:=r) (q:=[i.toNat]) hi (by grind[T.size]) ?_ ?_ (slG (stE g1)) ((slS (stE g1)).trans (by grind)) ?_ (xF he.clean) ?_) rfl hg
 ·simp[opT,Env.app,Wr.find,h1,n2,Ne.symm n4,Ne.symm n6,T.okB,kR]
 ·grind[Env.app,Wr.find]
 ·simp[Env.app,Wr.find]
 ·simp[T.single,T.locd,vQ,T.okTup,Ne.symm n2]
end
end
theorem zUa{ds s:Nat}{tr t:T}(h:E s=jd t)(gc:(G3 ds s||G3 r s)=jg:=by rfl)(hb:t.okB [(ds,1),(r,q.length+1)]=jf:=by rfl):vO E ds r q tr u s=jd t:=zQp h gc hb
section
variable {α:Type}{k:Nat}{f:α->T}{xs:List α}{i:Int}{v w:α}{u:T}
theorem yEB(h:ixO xs i=jd v):(L k f xs).set [i.toNat] u=.sl k ((xs.map f).set i.toNat u):=by simp[T.set,(uJ h).2]
theorem yEC(h:ixO xs i=jd v):(T.sl k ((xs.map f).set i.toNat u)).get [i.toNat]=jd u:=by have hl:=(Jl.1 (uJ h).2).1;simp[T.get,hl]
theorem yED(h:ixO xs i=jd v):(T.sl k ((xs.map f).set i.toNat u)).set [i.toNat] (f w)=L k f (xs.set i.toNat w):=by have hl:=(Jl.1 (uJ h).2).1;simp[T.set,L,hl,Uj]
end
theorem zQ.trh{α:Type}(d r:Nat){f:α->T}{xs:List α}{v:α}(hd:E d=jd (.same r [i.toNat]))(hr:E r=jd (L k f xs))(hv:ixO xs i=jd v)(fb:zZ (f v))(sd:((f v).single&&(d != r))=jf):
  zQ Γ E (E.app [(d,jd (f v)),(r,jd (.sl k ((xs.map f).set i.toNat .any)))] [(d,1),(r,2)]):=by
 refine zQ.trq d r [i.toNat] hd hr (yF hv rfl) fb ?_ ?_
 ·simp only[J4]at sd ⊢
  exact⟨⟨⟨sd.1,rfl⟩,rfl⟩,sd.2⟩
 ·rw[if_neg (by simp)]
  exact yEB hv
theorem yCG{ty:TypeId}{ps:String}{af:Array Edge}{gd:Option (Nat×Bool)}{y:Operand}{α:Type}{t:TypeId}{f:α->T}{xs:List α}{v:α}(ht:zAH P t e ti k)(hv:ixO xs i=jd v)(hx:uZ E x=jd (r,q,.sl k ((xs.map f).set i.toNat u)))(hy:opT E y=jd (I i))(sd:J6 d Γ.N=jf):
  Ok P Γ ⟨jd d,.indexAddr t x y,ty,ps,af,gd⟩ E (E.app [(d,jd (.addr r (i.toNat::q)))] [(d,0)]):=by
 obtain⟨h1,h2⟩:=uJ hv;exact fun S=>zTe x y t e ti r q k _ .i64 i rfl rfl (yE sd) ht.un ht.info ht.size hx hy h1 (by grind)
end Go.Ab
