/- x -/
import Derived.Test.YtchnmobojdcikaaGreatRAbA
import Derived.Laws.CopyRow
import Derived.ProofKit
open List renaming replicate→J1,getElem?_eq_getElem→J5,length_append→J7,range→J8,append_nil→J9,mem_cons→Jb,length_cons→Jd,mem_append→Jf,length_map→Jg,append_assoc→Jh,getElem?_append_right→Ji,getElem?_eq_some_iff→Jm,mem_map→Jn,map_cons→Js,replicate_succ→Jt,nil_append→Jv,getElem?_map→Jx,mem_iff_getElem→Jz,getElem?_append_left→K0,eq_nil_of_length_eq_zero→K6,reverse_reverse→K8,length_nil→K9,all_eq_true→Ka,cons_append→Kc,length_take→Kf,range'→Kk,range_eq_range'→Kn,getElem?_append→Ko,nodup_cons→L5,length_range→L8,flatMap_cons→L9,take_succ_cons→Lf,mem_of_getElem?→Lq,getElem?_drop→Lt,map_append→Lu,contains_eq_mem→H3,getElem?_take→Hc,reverse_nil→Hp,reverse_cons→Hx,map_nil→Gy,map_take→Ue,all_cons→Uf,range'_succ→Uw,find?_cons_of_neg→Ux,mem_iff_getElem?→Uz,mem_cons_of_mem→Q5,map_map→Q6,getLast?_append→Q7,dropLast_concat→Q8,getElem?_set_self→Qj,find?_eq_none→Qk,mem_filter→Ja6,cons→Ja8,map_drop→Jab,getElem?_cons_succ→Jai,getElem?_set→Jau,getD→Jav,map_set→Jb3
open Bool renaming and_eq_true->J3,not_true->Jq,not_false->Kb,and_self->Lh,false_eq_true->Hk,not_eq_true'->Gj
open Nat renaming blt->J4,zero_add->Jc,le_refl->Je,mul_le_mul_right->Jw,succ_mul->K7,zero_le->Kg,div_add_mod->Lr,div_lt_iff_lt_mul->H1,add_assoc->H7,mod_lt->Hn,le_trans->Hs,beq->Gl,mul_one->Gx,sub_zero->Uo,ble->Uy,add_zero->Qy
open Array renaming getElem?_setIfInBounds->Jj,length_toList->Kh,getD_eq_getD_getElem?->Kj,getElem?_toList->Ks,getElem?_eq_some_iff->G3,replicate->Ul
open Option renaming map_eq_some_iff->Kl,some->Kt,map_some->H6,getD_some->Gp,map_eq_none_iff->Us,bind_eq_some_iff->Uu
open Prod renaming mk->Ja3
open Option renaming some->iW,none->iY
open Bool renaming true->iZ,false->ja
namespace Go.Ab
open Go
abbrev Rw:=List (Nat×Nat×T)
def rwI(rw:Rw)(s:Nat):Option Nat:=(rw.find? fun x=>x.2.1==s).map (·.1)
def rwS(rw:Rw)(i:Nat):Option Nat:=(rw.find? fun x=>x.1==i).map (·.2.1)
theorem zDy:(rw:Rw)->(rw.map (·.2.1)).Nodup-> ∀{i s:Nat}{u:T},(i,s,u)∈rw->rwI rw s=iW i
 | [],_,_,_,_,h=>by simp at h
 |(i0,s0,u0)::rw,hn,i,s,u,h=>by
  simp only[Js,L5,Jn]at hn;rcases Jb.1 h with h|h
  ·simp at h;obtain⟨rfl,rfl,rfl⟩:=h;simp[rwI]
  ·have gk:s0≠s:=fun e=>hn.1 ⟨_,h,e.symm⟩
   have:=zDy rw hn.2 h;simp only[rwI]at this ⊢
   rw[Ux (by simpa using gk)];exact this
theorem zMo:(rw:Rw)->(rw.map (·.1)).Nodup-> ∀{i s:Nat}{u:T},(i,s,u)∈rw->rwS rw i=iW s
 | [],_,_,_,_,h=>by simp at h
 |(i0,s0,u0)::rw,hn,i,s,u,h=>by
  simp only[Js,L5,Jn]at hn;rcases Jb.1 h with h|h
  ·simp at h;obtain⟨rfl,rfl,rfl⟩:=h;simp[rwS]
  ·have gk:i0≠i:=fun e=>hn.1 ⟨_,h,e.symm⟩
   have:=zMo rw hn.2 h;simp only[rwS]at this ⊢
   rw[Ux (by simpa using gk)];exact this
theorem zMp{rw:Rw}{s:Nat}(h:s∉rw.map (·.2.1)):rwI rw s=iY:=by simp only[rwI,Us,Qk];intro x hx;simp only[beq_iff_eq];exact fun e=>h (Jn.2 ⟨x,hx,e⟩)
theorem zTh{rw:Rw}{i:Nat}(h:∀x∈rw,x.1≠i):rwS rw i=iY:=by simp only[rwS,Us,Qk];intro x hx;simpa using h x hx
theorem zPT{rw:Rw}{s i:Nat}(h:rwI rw s=iW i):s∈rw.map (·.2.1):=by simp only[rwI,Kl]at h;obtain⟨x,hx,_⟩:=h;have h1:=List.mem_of_find?_eq_some hx;have h2:=List.find?_some hx;exact Jn.2 ⟨x,h1,by simpa using h2⟩
abbrev Nd:=List (Nat×List Nat×T)
def zTi(nd:Nd)(k s:Nat):Option (Nat×List Nat):=
 match nd with
 | []=>iY
 |x::r=>if x.1=s then iW (k,x.2.1)else zTi r (k+1) s
def ndB(d:Nat)(nd:Nd)(s:Nat)(z:List Nat):Option (Nat×List Nat):=
 match nd with
 | [x]=>if x.1=s/\x.2.1<:+z then iW (d,z.take (z.length-x.2.1.length))else iY
 |nd=>match zTi nd 0 s with
  |some (k,q)=>if q<:+z then iW (d,z.take (z.length-q.length)++[k])else iY
  |none=>iY
theorem zJM:(nd:Nd)->(nd.map (·.1)).Nodup-> ∀{k k0:Nat}{x:Nat×List Nat×T},nd[k]? =iW x->zTi nd k0 x.1=iW (k0+k,x.2.1)
 | [],_,_,_,_,h=>by simp at h
 |y::nd,hn,k,k0,x,h=>by
  simp only[Js,L5,Jn]at hn;cases k with
  |zero=>simp at h;subst h;simp[zTi]
  |succ k=>
   simp only[Jai]at h;have gk:y.1≠x.1:=fun e=>hn.1 ⟨x,Lq h,e.symm⟩
   simp only[zTi,gk,if_false];rw[zJM nd hn.2 h]
   congr 2;omega
def zTj(G:Gh)(nd:Nd)(z:List Nat):Value:=
 match nd with
 | [x]=>G.hd x.1 (z++x.2.1)
 |nd=>match z.getLast? with
  |some k=>(match nd[k]? with
   |some x=>G.hd x.1 (z.dropLast++x.2.1)
   |none=>.bool ja)
  |none=>.bool ja
def zXw(G:Gh)(nd:Nd)(z:List Nat):Addr:=
 match nd with
 | [x]=>G.ad x.1 (z++x.2.1)
 |nd=>match z.getLast? with
  |some k=>(match nd[k]? with
   |some x=>G.ad x.1 (z.dropLast++x.2.1)
   |none=>default)
  |none=>default
def Gh.arg(G:Gh)(a:Act)(xs:List Operand)(rw:Rw):Gh where
 hd i z:=match xs[i]? with
  |some (.tmp s)=>G.hd s z
  |some x=>zAp (a.eval x)
  |none=>.bool ja
 ad i z:=match xs[i]? with
  |some (.tmp s)=>G.ad s z
  |_=>default
 lb b o:=match G.lb b o with
  |some (f,s,z)=>(match rwI rw s,G.ow b with
   |some i,iW (s',_)=>if s'=s then iW (f,i,z)else iY
   |_,_=>iY)
  |none=>iY
 ow b:=match G.ow b with
  |some (s,z)=>(match rwI rw s with
   |some i=>iW (i,z)
   |none=>iY)
  |none=>iY
def zBM(G:Gh)(rw:Rw)(b:Nat):Prop:=∃s z,G.ow b=iW (s,z)/\s∈rw.map (·.2.1)
def zE6(d:Nat)(rw:Rw)(nd:Nd)(s:Nat)(z:List Nat):Option (Nat×List Nat):=
 match rwS rw s with
 |some s'=>iW (s',z)
 |none=>ndB d nd s z
open Classical in
noncomputable def Gh.back (G G':Gh) (n0 d:Nat) (rw:Rw) (nd:Nd):Gh where
 hd s z:=if s=d then zTj G' nd z else match rwI rw s with
  |some i=>G'.hd i z
  |none=>G.hd s z
 ad s z:=if s=d then zXw G' nd z else match rwI rw s with
  |some i=>if z=[]then G.ad s z else G'.ad i z
  |none=>G.ad s z
 lb b o:=if zBM G rw b\/n0<=b then(match G'.lb b o with
  |some (f,s,z)=>(match zE6 d rw nd s z with
   |some (s',z')=>iW (f,s',z')
   |none=>iY)
  |none=>iY)else G.lb b o
 ow b:=if zBM G rw b\/n0<=b then(match G'.ow b with
  |some (s,z)=>zE6 d rw nd s z
  |none=>iY)else G.ow b
def zEw(res:List T):T:=match res with
 | [u]=>u
 |us=>.tup us
def cWr(d:Nat)(res:List T)(rw:Rw):Wr:=(d,iW (zEw res))::rw.map fun x=>(x.2.1,iW x.2.2)
def cLv(t:T):Nat:=if t.single then 1 else 0
def vU(d:Nat)(rw:Rw):Chg:=(d,0)::rw.map fun x=>(x.2.1,cLv x.2.2)
theorem zIj{d:Nat}{rw:Rw}{x:Nat×Nat×T}(h:x∈rw):(x.2.1,cLv x.2.2)∈vU d rw:=Q5 _ (Jn.2 ⟨x,h,rfl⟩)
theorem zPU{Gn G':Gh}{d:Nat}:(nd:Nd)-> ∀(j:Nat),(∀k x,nd[k]? =iW x-> ∀z,Gn.hd d (z++[j+k])=G'.hd x.1 (z++x.2.1))->zAN Gn d (nd.map (·.2.2)) [] j=nd.map fun x=>sZ G' x.1 x.2.2 x.2.1
 | [],_,_=>by simp[zAN]
 |x::nd,j,h=>by
  have ih:=zPU (Gn:=Gn) (G':=G') (d:=d) nd (j+1) (fun k y hy z=>by rw[show j+1+k=j+(k+1)from by omega];exact h (k+1) y (by simpa using hy) z)
  simp only[Js,zAN,ih];rw[zCE x.2.2 x.2.1 [j] (by simpa using h 0 x (by simp))]
theorem zTk{d:Nat}{res:List T}{rw:Rw}{s:Nat}{x:Option T}(h:(cWr d res rw).find s=iW x):(s=d/\x=iW (zEw res))\/(s≠d/\ ∃i u,(i,s,u)∈rw/\x=iW u):=by
 simp only[cWr,Wr.find]at h;split at h
 ·rename_i he;simp at h;exact .inl ⟨he.symm,h.symm⟩
 ·rename_i gk
  refine .inr ⟨fun e=>gk e.symm,?_⟩
  clear gk
  induction rw with
  |nil=>simp[Wr.find]at h
  |cons y rw ih=>
   simp only[Js,Wr.find]at h;split at h
   ·rename_i he;simp at h;subst he;exact⟨y.1,y.2.2,by simp,h.symm⟩
   ·obtain⟨i,u,h1,h2⟩:=ih h;exact⟨i,u,by simp[h1],h2⟩
theorem zTl{d:Nat}{res:List T}{rw:Rw}{s:Nat}(h:(cWr d res rw).find s=iY):s≠d/\s∉rw.map (·.2.1):=by
 simp only[cWr,Wr.find]at h;split at h
 ·cases h
 ·rename_i gk
  refine⟨fun e=>gk e.symm,?_⟩
  clear gk
  induction rw with
  |nil=>simp
  |cons y rw ih=>
   simp only[Js,Wr.find]at h;split at h
   ·cases h
   ·rename_i he
    simp only[Js,Jb,not_or];exact⟨fun e=>he e.symm,ih h⟩
def aft(S Sc S':Stb):Stb:=fun b=>match Sc b with
 |none=>S' b
 |some _=>S b
theorem Rep.up{Γ:Ctx}{E:Env}{G:Gh}{tmps tmps':Array Value}{w w':World}{G':Gh}{wr:Wr}{chg:Chg}{S:Stb}(h:Rep Γ E G tmps w)(hS:∀b x,Γ.St b=iW x->S b=iW x)
  (gW:tmps'.size=tmps.size)(hk:kS chg G w G' w')(gu:Mem (Γ.at S) G' w')
  (gN:∀s,wr.find s=iY->(∀n,(s,n)∉chg)/\tmps'[s]? =tmps[s]?)
  (eF:∀s t,wr.find s=iW (iW t)->Ent (Γ.at S) G' w' tmps'[s]? s t):Rep (Γ.at S) (E.app wr chg) G' tmps' w' where
 size:=by rw[gW];exact h.size
 mem:=gu
 ent s t hs:=by
  unfold Env.app at hs;cases hf:wr.find s with
  |some x=>
   rw[hf]at hs;simp at hs;subst hs;exact eF s t hf
  |none=>
   rw[hf]at hs;simp at hs;cases he:E s with
   |none=>simp[he]at hs
   |some u=>
    simp[he]at hs;obtain⟨gA,rfl⟩:=hs;rw[(gN s hf).2];obtain⟨e1,e2,e3⟩:=Ent.keep hk (gN s hf).1 gA (h.ent s u he);exact⟨e1,zKR hS u [] e2,e3⟩
section
variable {P:Program}{Γ:Ctx}{E:Env}{d:Nat}
theorem zIk{G:Gh}{a:Act}{w:World}(gj:Rep Γ E G a.tmps w)(hd:d<Γ.N){Sc:Stb}{rw:Rw}(hS1:∀b x,Sc b=iW x->w.heap[b]? =iW x/\ ¬zBM G rw b)(hS0:∀b x,Γ.St b=iW x->Sc b=iW x){f:FuncId}{us res:List T}
  (hc:FnC P f us res (rw.map fun x=>(x.1,x.2.2))){xs:List Operand}(gn:xs.length=us.length)
  (gp:∀(i:Nat) u,us[i]? =iW u->(∃x,xs[i]? =iW x/\a.eval x=mkV (G.arg a xs rw) i u []/\R Sc (G.arg a xs rw) w i u []))
  (hn1:(d::rw.map (·.2.1)).Nodup)(mQ:(rw.map (·.1)).Nodup)(fm:∀x∈rw,xs[x.1]? =iW (.tmp x.2.1))
  (gz:∀u∈res,yA u/\u.okTup=iZ/\ ∀(S':Stb)(G:Gh)(w:World)(s:Nat)(p:List Nat),(∀b x,Sc b=iW x->S' b=iW x)->R S' G w s u p->R (aft Γ.St Sc S') G w s u p)
  (tw:∀x∈rw,yA x.2.2/\(∀(S':Stb)(G:Gh)(w:World)(s:Nat)(p:List Nat),(∀b x,Sc b=iW x->S' b=iW x)->R S' G w s x.2.2 p->R (aft Γ.St Sc S') G w s x.2.2 p)/\ ∃u,E x.2.1=iW u/\x.2.2.single=u.single/\us[x.1]? =iW u):
  Calls P f (xs.map a.eval).toArray w fun e w'=> ∃v,e=.returned v/\ ∃S G',zEv Γ.St S Γ.W Γ.w0.heap.size/\kS (vU d rw) G w G' w'/\Rep (Γ.at S) (E.app (cWr d res rw) (vU d rw)) G' (a.tmps.setIfInBounds d v) w':=by
 have hm:=gj.mem;have pX:=L5.1 hn1;have hmc:Mem ⟨Sc,zBM G rw,w,0⟩ (G.arg a xs rw) w:=by
  have gM:∀b,zBM G rw b->Sc b=iY:=fun b h=>by
   cases hs:Sc b with
   |none=>rfl
   |some x=>exact absurd h (hS1 b x hs).2
  refine⟨fun i z=>?_,fun b o l hl=>?_,fun b l hl=>?_,fun b x hx=>(hS1 b x hx).1,fun b _ _=>rfl,Je _,⟨fun b cs e h=>⟨cs,h,rfl⟩,rfl,rfl⟩⟩
  ·simp only[Gh.arg]
   split
   ·exact hm.one _ _
   ·exact zCj _
   ·rfl
  ·simp only[Gh.arg]at hl
   split at hl
   ·rename_i f' s z hg
    split at hl
    ·rename_i i s' y hi ho
     split at hl
     ·rename_i he;subst he
      have hL:zBM G rw b:=⟨s',y,ho,zPT hi⟩;exact⟨(hm.lb b o _ hg).1,.inr hL,gM b hL⟩
     ·cases hl
    ·cases hl
   ·cases hl
  ·simp only[Gh.arg]at hl
   split at hl
   ·rename_i s z hg
    split at hl
    ·rename_i i hi
     have hL:zBM G rw b:=⟨s,z,hg,zPT hi⟩;exact⟨(hm.ow b _ hg).1,.inr hL,gM b hL⟩
    ·cases hl
   ·cases hl
 have gx:=hc Sc (zBM G rw) w (G.arg a xs rw) (xs.map a.eval).toArray (by simp[gn]) (fun i u hu=>by obtain⟨x,h1,h2,h3⟩:=gp i u hu;exact⟨by simp[h1,h2],h3⟩) hmc
 refine gx.mono ?_
 rintro e w' ⟨S',G',nd,eg,rfl,gI,cy,fQ,pT,tu⟩
 have fC:∀b x,Γ.St b=iW x->aft Γ.St Sc S' b=iW x:=fun b x hx=>by simp only[aft,hS0 b x hx,hx]
 have aD:zEv Γ.St (aft Γ.St Sc S') Γ.W Γ.w0.heap.size:=⟨fC,fun b hb ez=>by
  simp only[aft]at ez;split at ez
  ·rename_i hs
   rcases eg.nw b hs ez with h|⟨s,z,h,_⟩
   ·exact .inl (by have:=hm.sz;omega)
   ·exact(hm.ow b _ h).2.1
  ·exact absurd hb ez⟩
 refine⟨_,rfl,aft Γ.St Sc S',G.back G' w.heap.size d rw nd,aD,?_⟩;have ba:∀b,b<w.heap.size-> ¬zBM G rw b->w'.heap[b]? =w.heap[b]?:=gI.fr;have gE:w.heap.size<=w'.heap.size:=gI.sz;have gQ:Blk w w':=gI.bk.blk
 generalize hGn:G.back G' w.heap.size d rw nd=Gn
 have ghdd:∀z,Gn.hd d z=zTj G' nd z:=fun z=>by rw[<-hGn];simp[Gh.back]
 have gadd:∀z,Gn.ad d z=zXw G' nd z:=fun z=>by rw[<-hGn];simp[Gh.back]
 have ghd0:∀s z,s≠d->s∉rw.map (·.2.1)->Gn.hd s z=G.hd s z:=fun s z h1 h2=>by rw[<-hGn];simp[Gh.back,h1,zMp h2]
 have gad0:∀s z,s≠d->s∉rw.map (·.2.1)->Gn.ad s z=G.ad s z:=fun s z h1 h2=>by rw[<-hGn];simp[Gh.back,h1,zMp h2]
 have eT:∀i s u,(i,s,u)∈rw->s≠d:=fun i s u h e=>pX.1 (e▸Jn.2 ⟨_,h,rfl⟩)
 have ghdr:∀i s u z,(i,s,u)∈rw->Gn.hd s z=G'.hd i z:=fun i s u z h=>by rw[<-hGn];simp[Gh.back,eT i s u h,zDy rw pX.2 h]
 have gadr:∀i s u z,(i,s,u)∈rw->z≠[]->Gn.ad s z=G'.ad i z:=fun i s u z h h0=>by rw[<-hGn];simp[Gh.back,eT i s u h,zDy rw pX.2 h,h0]
 have gadr0:∀i s u,(i,s,u)∈rw->Gn.ad s []=G.ad s []:=fun i s u h=>by rw[<-hGn];simp[Gh.back,eT i s u h,zDy rw pX.2 h]
 have glb0:∀b o l,¬zBM G rw b->G.lb b o=iW l->Gn.lb b o=iW l:=fun b o l h1 h2=>by have:=(hm.lb b o _ h2).1;rw[<-hGn];simp only[Gh.back];rw[if_neg (by rintro(h|h);exact h1 h;omega)];exact h2
 have gow0:∀b l,¬zBM G rw b->G.ow b=iW l->Gn.ow b=iW l:=fun b l h1 h2=>by have:=(hm.ow b _ h2).1;rw[<-hGn];simp only[Gh.back];rw[if_neg (by rintro(h|h);exact h1 h;omega)];exact h2
 have gS:∀b o l,G'.lb b o=iW l->zBM G rw b\/w.heap.size<=b:=fun b o l h=>(gI.lb b o l h).2.1.symm
 have mY:∀b l,G'.ow b=iW l->zBM G rw b\/w.heap.size<=b:=fun b l h=>(gI.ow b l h).2.1.symm
 have glb1:∀b o fl s z s' z',G'.lb b o=iW (fl,s,z)->zE6 d rw nd s z=iW (s',z')->Gn.lb b o=iW (fl,s',z'):=fun b o fl s z s' z' h1 h2=>by rw[<-hGn];simp only[Gh.back];rw[if_pos (gS b o _ h1),h1];simp[h2]
 have gow1:∀b s z l,G'.ow b=iW (s,z)->zE6 d rw nd s z=iW l->Gn.ow b=iW l:=fun b s z l h1 h2=>by rw[<-hGn];simp only[Gh.back];rw[if_pos (mY b _ h1),h1];simp[h2]
 have dx:∀i s u z,(i,s,u)∈rw->zE6 d rw nd i z=iW (s,z):=fun i s u z h=>by simp[zE6,zMo rw mQ h]
 have gJ:∀x∈rw,x.1<us.length:=fun x hx=>by have:=(Jm.1 (fm x hx)).1;omega
 have hbn:∀x∈nd,∀z,zE6 d rw nd x.1 z=ndB d nd x.1 z:=fun x hx z=>by have h1:=(fQ x hx).2;have h2:rwS rw x.1=iY:=zTh (fun y hy e=>by have:=gJ y hy;omega);simp[zE6,h2]
 have mI:∀(k:Nat) x,nd[k]? =iW x-> ∃tgt,(nd.length=1->tgt=[])/\(nd.length≠1->tgt=[k])/\(∀z,Gn.hd d (z++tgt)=G'.hd x.1 (z++x.2.1))/\(∀z,Gn.ad d (z++tgt)=G'.ad x.1 (z++x.2.1))/\ ∀z,zE6 d rw nd x.1 (z++x.2.1)=iW (d,z++tgt):=by
  intro k x hk;have bw:=Lq hk
  match nd,hk,pT,hbn x bw,ghdd,gadd with
  | [y],hk,pT,hb,ghdd,gadd=>
   have hkx:y=x:=by
    cases k with
    |zero=>simpa using hk
    |succ k=>simp at hk
   subst hkx;exact⟨[],fun _=>rfl,fun h=>absurd rfl h,fun z=>by rw[ghdd];simp[zTj],fun z=>by rw[gadd];simp[zXw],fun z=>by rw[hb];simp[ndB]⟩
  | [],hk,_,_,_,_=>simp at hk
  |y1::y2::r,hk,pT,hb,ghdd,gadd=>
   refine⟨[k],fun h=>by simp at h,fun _=>rfl,fun z=>by rw[ghdd];simp only[zTj,Q7,Q8];simp[hk],fun z=>by rw[gadd];simp only[zXw,Q7,Q8];simp[hk],fun z=>?_⟩;rw[hb];have:=zJM (y1::y2::r) pT (k0:=0) hk;rw[Jc]at this;simp only[ndB,this];simp
 have mm:∀(k:Nat) x,nd[k]? =iW x-> ∀tgt,(∀z,Gn.hd d (z++tgt)=G'.hd x.1 (z++x.2.1))->(∀z,Gn.ad d (z++tgt)=G'.ad x.1 (z++x.2.1))->(∀z,zE6 d rw nd x.1 (z++x.2.1)=iW (d,z++tgt))->R (aft Γ.St Sc S') Gn w' d x.2.2 tgt:=by intro k x hk tgt h1 h2 h3;have bw:=Lq hk;obtain⟨c1,c2,c3⟩:=gz x.2.2 (by rw[<-cy];exact Jn.2 ⟨x,bw,rfl⟩);refine zBp (G:=G') (w:=w') (s:=x.1) (p:=x.2.1) ⟨⟨h1,fun z _=>h2 z,fun b o f' z _ _ hl=>⟨glb1 b o f' _ _ _ _ hl (h3 z),rfl⟩,fun b z _ hl=>gow1 b _ _ _ hl (h3 z),fun b cs e h=>⟨cs,h,rfl⟩⟩,fun b o _ hl=>⟨glb1 b o iZ _ _ _ _ hl (by simpa using h3 []),rfl⟩,fun b hl=>gow1 b _ _ _ hl (by simpa using h3 [])⟩ _ (yS.mono (fun _ _=>False.elim) _ c1) (c3 _ _ _ _ _ eg.le (fQ x bw).1)
 have gB:kS (vU d rw) G w Gn w':=by
  have gL:∀s,(∀n,(s,n)∉vU d rw)->s≠d/\s∉rw.map (·.2.1):=fun s h=>⟨fun e=>h 0 (by simp[vU,e]),fun hm=>by obtain⟨x,hx,rfl⟩:=Jn.1 hm;exact h _ (zIj hx)⟩
  have po:∀b s y,G.ow b=iW (s,y)->s∉rw.map (·.2.1)-> ¬zBM G rw b:=by
   rintro b s y h1 h2 ⟨s',z',h3,h4⟩
   rw[h1]at h3;simp at h3;exact h2 (h3.1▸h4)
  refine⟨fun s p h=>?_,fun s p h=>?_,fun b o fl s p ep h1 h2=>?_,fun b s p h1 h2=>?_,gQ⟩
  ·have h1:s≠d:=fun e=>absurd (h 0 (by simp[vU,e])) (by simp)
   by_cases h2:s∈rw.map (·.2.1)
   ·
    obtain⟨x,hx,rfl⟩:=Jn.1 h2;have hc:=h _ (zIj hx);have c2:x.2.2.single=iZ:=by
     cases fy:x.2.2.single with
     |true=>rfl
     |false=>simp[cLv,fy]at hc
    have h3:p=[]:=K6 (by simp only[cLv,c2,if_true]at hc;omega);subst h3;obtain⟨_,_,u,c4,c5,c6⟩:=tw x hx;rw[c2]at c5;have c5:=c5.symm;obtain⟨_,u0,e1,e2⟩:=tu x.1 x.2.2 (Jn.2 ⟨x,hx,rfl⟩);rw[c6]at e1;simp at e1;subst e1;rw[xS c2,xS c5]at e2;rw[ghdr x.1 x.2.1 x.2.2 [] hx,e2];simp[Gh.arg,fm x hx]
   ·exact ghd0 s p h1 h2
  ·have h1:s≠d:=fun e=>absurd (h 0 (by simp[vU,e])) (by simp)
   by_cases h2:s∈rw.map (·.2.1)
   ·obtain⟨x,hx,rfl⟩:=Jn.1 h2
    have hc:=h _ (zIj hx);have h3:p=[]:=K6 (by have:cLv x.2.2<=1:=(by unfold cLv;split<;>omega);omega);subst h3;exact gadr0 x.1 x.2.1 x.2.2 hx
   ·exact gad0 s p h1 h2
  ·obtain⟨h3,h4⟩:=gL s h2
   obtain⟨y,hy⟩:=ep;have h5:=po b s y hy h4;exact⟨glb0 b o _ h5 h1,by simp[yL,World.cell?,ba b (hm.lb b o _ h1).1 h5]⟩
  ·obtain⟨h3,h4⟩:=gL s h2
   exact gow0 b _ (po b s p h1 h4) h1
 have gu:Mem (Γ.at (aft Γ.St Sc S')) Gn w':=by
  have gA:∀b,b<w'.heap.size/\(w.heap.size<=b\/zBM G rw b)/\S' b=iY->zDp (Γ.at (aft Γ.St Sc S')) w' b:=fun b ⟨hb,h,gU⟩=>by
   have bC:Sc b=iY:=by
    cases hs:Sc b with
    |none=>rfl
    |some x=>rw[eg.le b x hs]at gU;cases gU
   refine⟨hb,?_,by simp only[aft,bC];exact gU⟩;rcases h with h|⟨s,z,h1,_⟩
   ·exact .inl (by have:=hm.sz;show Γ.w0.heap.size<=b;omega)
   ·exact(hm.ow b _ h1).2.1
  have gN:∀b,¬(zBM G rw b\/w.heap.size<=b)->zDp Γ w b->zDp (Γ.at (aft Γ.St Sc S')) w' b:=fun b h ⟨h1,h2,h3⟩=>by
   refine⟨by omega,h2,?_⟩;simp only[aft];split
   ·rename_i hs
    cases gU:S' b with
    |none=>rfl
    |some x=>
     rcases eg.nw b hs (by rw[gU];simp)with h4|h4
     ·exact absurd (.inr h4) h
     ·exact absurd (.inl h4) h
   ·exact h3
  refine⟨fun s z=>?_,fun b o l hl=>?_,fun b l hl=>?_,fun b x hx=>?_,fun b(h1:b<Γ.w0.heap.size) h2=>?_,Hs hm.sz gE,hm.bk.trans gQ gI.bk.os gI.bk.out⟩
  ·by_cases h1:s=d
   ·subst h1
    rw[ghdd];unfold zTj;split
    ·exact gI.one _ _
    ·split
     ·split
      ·exact gI.one _ _
      ·rfl
     ·rfl
   ·by_cases h2:s∈rw.map (·.2.1)
    ·obtain⟨x,hx,rfl⟩:=Jn.1 h2
     rw[ghdr x.1 x.2.1 x.2.2 z hx];exact gI.one _ _
    ·rw[ghd0 s z h1 h2];exact hm.one _ _
  ·rw[<-hGn]at hl
   simp only[Gh.back]at hl;split at hl
   ·rename_i ma
    split at hl
    ·rename_i hg
     exact gA b (gI.lb b o _ hg)
    ·cases hl
   ·rename_i ma
    exact gN b ma (hm.lb b o l hl)
  ·rw[<-hGn]at hl
   simp only[Gh.back]at hl;split at hl
   ·rename_i ma
    split at hl
    ·rename_i hg
     exact gA b (gI.ow b _ hg)
    ·cases hl
   ·rename_i ma
    exact gN b ma (hm.ow b l hl)
  ·simp only[aft]at hx
   split at hx
   ·exact gI.st b x hx
   have h1:=hm.st b x hx;have h2:=(G3.1 h1).1;have h3:¬zBM G rw b:=by
    rintro⟨s,z,h4,_⟩
    rw[(hm.ow b _ h4).2.2]at hx;cases hx
   rw[ba b h2 h3];exact h1
  ·have h3:¬zBM G rw b:=by
    rintro⟨s,z,h4,_⟩
    rcases(hm.ow b _ h4).2.1 with h5|h5
    ·omega
    ·exact h2 h5
   rw[ba b (by have:=hm.sz;omega) h3];exact hm.fr b h1 h2
 have im:nd.length=res.length:=by rw[<-cy];simp
 refine⟨gB,gj.up fC (by simp) gB gu ?_ ?_⟩
 ·intro s hs
  obtain⟨h1,h2⟩:=zTl hs;refine⟨fun n hn=>?_,by rw[Jj];simp[Ne.symm h1]⟩;simp only[vU,Jb,Ja3.injEq,Jn]at hn;rcases hn with⟨e,_⟩|⟨x,hx,e,_⟩
  ·exact h1 e
  ·exact h2 (Jn.2 ⟨x,hx,e⟩)
 ·intro s t hs
  rcases zTk hs with⟨rfl,ht⟩|⟨gk,i,u,cE,ht⟩
  ·simp at ht
   subst ht;rw[Jj];simp only[gj.size,hd,if_true];have pg:res=nd.map (·.2.2):=cy.symm
   by_cases hl:nd.length=1
   ·obtain⟨x,hx⟩:∃x,nd=[x]:=List.length_eq_one_iff.1 hl
    obtain⟨tgt,t1,_,t3,t4,t5⟩:=mI 0 x (by simp[hx]);obtain rfl:=t1 hl;have hr:=mm 0 x (by simp[hx]) [] t3 t4 t5;obtain⟨c1,c2,_⟩:=gz x.2.2 (by rw[pg,hx];simp);have fb:zEw res=x.2.2:=by rw[pg,hx];rfl
    have er:∀ys,x.2.2≠.tup ys:=fun ys e=>by rw[e]at c2;simp[T.okTup]at c2
    rw[fb];refine⟨?_,hr,Top.of_clean _ c1⟩;rw[zAO Gn s _ [] er,zCE x.2.2 x.2.1 [] t3,hx];rfl
   ·have fb:zEw res=.tup res:=by
     rw[im]at hl
     match res,hl with
     | [],_=>rfl
     | [u],hl=>simp at hl
     |_::_::_,_=>rfl
    rw[fb];have gO:∀k x,nd[k]? =iW x-> ∀z,Gn.hd s (z++[0+k])=G'.hd x.1 (z++x.2.1):=fun k x hk z=>by obtain⟨tgt,_,t2,t3,_,_⟩:=mI k x hk;rw[t2 hl]at t3;rw[Jc];exact t3 z
    refine⟨?_,?_,?_⟩
    ·have hv:=zPU (Gn:=Gn) (G':=G') (d:=s) nd 0 gO
     rw[cy]at hv;simp only[mkV,hv];unfold zMk;split
     ·simp at hl
     ·rfl
    ·simp only[R]
     rw[pg];refine zPJ _ [] 0 (fun k u hu=>?_);rw[Jx]at hu;cases hk:nd[k]? with
     |none=>simp[hk]at hu
     |some x=>
      simp[hk]at hu;subst hu;obtain⟨tgt,_,t2,t3,t4,t5⟩:=mI k x hk;rw[t2 hl]at t3 t4 t5;rw[Jc];exact mm k x hk [k] t3 t4 t5
    ·simp only[Top]
     refine uQ.of_clean _ ?_;have:∀us:List T,(∀u∈us,yA u)->yZ us:=by
      intro us
      induction us with
      |nil=>intro _;trivial
      |cons u us ih=>intro h;exact⟨h u (by simp),ih fun v hv=>h v (by simp[hv])⟩
     exact this res fun u hu=>(gz u hu).1
  ·simp at ht
   subst ht;obtain⟨c1,c3,u0,c4,_,c6⟩:=tw _ cE;obtain⟨r1,u1,e1,e2⟩:=tu i t (Jn.2 ⟨_,cE,rfl⟩);simp only at c4 c6;rw[c6]at e1;simp at e1;subst e1;refine⟨?_,?_,Top.of_clean _ c1⟩
   ·rw[Jj]
    simp only[Ne.symm gk,if_false];have aW:=fm _ cE;simp only at aW;have m1:mkV Gn s t []=mkV G' i t []:=zGe t [] [] (fun z=>by rw[J9];exact ghdr i s t z cE);have m2:mkV (G.arg a xs rw) i u0 []=mkV G s u0 []:=zGe u0 [] [] (fun z=>by simp[Gh.arg,aW]);rw[(gj.ent s u0 c4).1,m1,e2,m2]
   ·refine zBp (G:=G') (w:=w') (s:=i) (p:=[]) ⟨⟨fun z=>by rw[J9];exact ghdr i s t z cE,fun z hz=>by rw[J9];exact gadr i s t z cE hz,fun b o f' z _ _ hl=>?_,fun b z _ hl=>?_,fun b cs e h=>⟨cs,h,rfl⟩⟩,fun b o _ hl=>⟨glb1 b o iZ _ _ _ _ hl (dx i s t [] cE),rfl⟩,fun b hl=>gow1 b _ _ _ hl (dx i s t [] cE)⟩ t (yS.mono (fun _ _=>False.elim) _ c1) (c3 _ _ _ _ _ eg.le r1)
    ·rw[J9]at hl ⊢;exact⟨glb1 b o f' _ _ _ _ hl (dx i s t z cE),rfl⟩
    ·rw[J9]at hl ⊢;exact gow1 b _ _ _ hl (dx i s t z cE)
end
def zJN(E:Env)(rs:List Nat)(x:Operand)(t:T):Bool:=
 match x with
 |.tmp s=>qN E rs s t
 |_=>iZ
def zDh(E:Env)(rw:Rw)(i:Nat)(x:Operand)(u:T):Prop:=
 (∃s u',x=.tmp s/\(i,s,u')∈rw/\E s=iW u/\yA u/\u.okTup=iZ/\vK u=iZ)\/(∃t,opT E x=iW t/\clo E t=u/\zJN E (rw.map (·.2.1)) x t=iZ)
def xZ(E:Env)(rw:Rw):Nat->List Operand->List T->Prop
 |_,[],[]=>True
 |i,x::xs,u::us=>zDh E rw i x u/\xZ E rw (i+1) xs us
 |_,_,_=>False
theorem xZ.length{E:Env}{rw:Rw}:(xs:List Operand)->(us:List T)-> ∀i,xZ E rw i xs us->xs.length=us.length
 | [],[],_,_=>rfl
 |_::xs,_::us,i,h=>by simp[xZ.length xs us (i+1) h.2]
 | [],_::_,_,h=>by simp[xZ]at h
 |_::_,[],_,h=>by simp[xZ]at h
theorem xZ.get{E:Env}{rw:Rw}:(xs:List Operand)->(us:List T)-> ∀i,xZ E rw i xs us-> ∀(j:Nat) u,us[j]? =iW u-> ∃x,xs[j]? =iW x/\zDh E rw (i+j) x u
 | [],[],_,_,_,_,h=>by simp at h
 |x::xs,v::us,i,h,j,u,hj=>by
  cases j with
  |zero=>simp at hj;subst hj;exact⟨x,by simp,h.1⟩
  |succ j=>
   obtain⟨y,h1,h2⟩:=xZ.get xs us (i+1) h.2 j u (by simpa using hj);exact⟨y,by simpa using h1,by rwa [show i+(j+1)=i+1+j from by omega]⟩
 | [],_::_,_,h,_,_,_=>by simp[xZ]at h
 |_::_,[],_,h,_,_,_=>by grind
structure zMq (E:Env) (d:Nat) (xs:List Operand) (us:List T) (rw:Rw):Prop where
 nodup:(d::rw.map (·.2.1)).Nodup
 nodup2:(rw.map (·.1)).Nodup
 at_:∀x∈rw,xs[x.1]? =iW (.tmp x.2.1)
 tree:∀x∈rw,yA x.2.2/\vK x.2.2=iZ/\ ∃u,E x.2.1=iW u/\x.2.2.single=u.single/\us[x.1]? =iW u
theorem zMq.nil{E:Env}{d:Nat}{xs:List Operand}{us:List T}:zMq E d xs us []:=⟨by simp,by simp,by simp,by simp⟩
theorem zMq.one{E:Env}{d i s:Nat}{u u':T}{xs:List Operand}{us:List T}(h1:d≠s)(h2:xs[i]? =iW (.tmp s))(h3:yA u')(h4:u'.single=iZ)(h5:vK u'=iZ)(h6:E s=iW u)(h7:u.single=iZ)(h8:us[i]? =iW u):
  zMq E d xs us [(i,s,u')]:=⟨by grind,by simp,by grind,by grind⟩
section
variable {P:Program}{Γ:Ctx}{E:Env}{o:Oper}{d:Nat}
theorem zXx{G:Gh}{a:Act}{w:World}(gj:Rep Γ E G a.tmps w){rw:Rw}{xs:List Operand}{us:List T}(hr:zMq E d xs us rw){Sc:Stb}(eA:∀b x,Γ.St b=iW x->Sc b=iW x)
  (eB:∀r,r∉rw.map (·.2.1)-> ∀b,(∃y,G.ow b=iW (r,y))->Sc b=w.heap[b]?){i:Nat}{x:Operand}{u:T}(hx:xs[i]? =iW x)(hu:us[i]? =iW u)(h:zDh E rw i x u):
  a.eval x=mkV (G.arg a xs rw) i u []/\R Sc (G.arg a xs rw) w i u []:=by
 rcases h with⟨s,u',rfl,h1,h2,h3,h4,h5⟩|⟨t,h1,rfl,h3⟩
 ·obtain⟨e1,e2,_⟩:=gj.ent s u h2
  have gO:∀z,(G.arg a xs rw).hd i z=G.hd s z:=by grind[Gh.arg]
  have fh:∀z,(G.arg a xs rw).ad i z=G.ad s z:=by grind[Gh.arg]
  have hi:=zDy rw (L5.1 hr.nodup).2 h1;refine⟨by grind[xX,zGe],?_⟩;refine zR5 u [] h5 (zBp (St:=Γ.St) (G:=G) (w:=w) (s:=s) (p:=[]) ⟨⟨by grind,by grind,fun b o' f' z _ ep hl=>?_,fun b z _ hl=>?_,fun b cs e h=>⟨cs,h,rfl⟩⟩,fun b o' ep hl=>?_,fun b hl=>?_⟩ u (by grind[yS.mono]) e2)
  ·obtain⟨y,hy⟩:=ep
   exact⟨by grind[Gh.arg],rfl⟩
  ·grind[Gh.arg]
  ·obtain⟨y,hy⟩:=ep
   exact⟨by grind[Gh.arg],rfl⟩
  grind[Gh.arg]
 ·cases x with
  |tmp s=>
   have gO:∀z,(G.arg a xs rw).hd i z=G.hd s z:=by grind[Gh.arg]
   obtain⟨e1,e2,_⟩:=gj.ent s t h1
   grind[zJN,xX,zKS,zZ8]
  |const v=>
   simp only[opT]at h1;split at h1
   ·rename_i gv
    simp at h1;subst h1;have gO:(G.arg a xs rw).hd i []=v:=by grind[Gh.arg,Act.eval,zBr]
    exact⟨by grind[clo,mkV,Act.eval],by simp[clo,R,gO]⟩
   ·cases h1
  |func f=>
   simp only[opT]at h1;simp at h1;subst h1;have gO:(G.arg a xs rw).hd i []=.func (.func f) #[] #[]:=by grind[Gh.arg,Act.eval,zAp,Value.oneCell']
   exact⟨by grind[clo,mkV,Act.eval],by simp[clo,R,gO]⟩
  |global g=>grind[opT]
theorem zEd{E:Env}:(t:T)->t.flat=iZ->(∀rs s,qN E rs s t=iZ)/\clo E t=t
 |.lit _,_|.ro _,_=>by simp[qN,clo]
 |.agg ts,h=>by
  simp only[T.flat]at h;have:=go ts h
  grind[qN,clo]
 |.any,h|.same _ _,h|.addr _ _,h|.sub _ _ _ _ _,h|.sl _ _,h|.ptr _,h|.tup _,h=>by grind[T.flat]
where go:(ts:List T)->zBm ts=iZ->(∀rs s,zB7 E rs s ts=iZ)/\zCq E ts=ts
 | [],_=>by simp[zB7,zCq]
 |x::xs,h=>by simp only[zBm,J3]at h;simp only[zB7,zCq,J3];exact⟨fun rs s=>⟨(zEd x h.1).1 rs s,(go xs h.2).1 rs s⟩,by rw[(zEd x h.1).2,(go xs h.2).2]⟩
theorem zFy{a:Act}{w:World}{K:Act->World->Prop}{Q:Exit->Act->World->Prop}{f:FuncId}{xf:Operand}{xs:List Operand}{ats:Array TypeId}(ho:o.op=.call { callee:=.value xf,args:=xs.toArray,argTypes:=ats })(gm:o.dst=iW d)
  (gx:∀args w,(callFunc f args).run P w=.ok (.enter f args) w)(hf:a.eval xf=.func (.func f) #[] #[])
  (h:Calls P f (xs.map a.eval).toArray w fun e w'=> ∃v,e=.returned v/\K (a.put (iW d) v) w'):o.wp P a w K Q:=by
 have gD:(execOp a.eval o).run P w=.ok (.enter f (xs.map a.eval).toArray) w:=by simp[execOp,ho,resolve,hf,Deferred.ofValue,invoke,gx]
 unfold Oper.wp;rw[gD,Oper.upon_enter];refine h.mono ?_
 grind
theorem zMr{G:Gh}{a:Act}{w:World}(gj:Rep Γ E G a.tmps w)(hd:d<Γ.N)(f:FuncId)(xs:List Operand)(us res:List T)(rw:Rw)
  (hc:FnC P f us res (rw.map fun x=>(x.1,x.2.2)))(gp:xZ E rw 0 xs us)(hr:zMq E d xs us rw)(gz:yZ res/\yM res=iZ/\uN res=iZ):
  Calls P f (xs.map a.eval).toArray w fun e w'=> ∃v,e=.returned v/\ ∃S G',zEv Γ.St S Γ.W Γ.w0.heap.size/\kS (vU d rw) G w G' w'/\Rep (Γ.at S) (E.app (cWr d res rw) (vU d rw)) G' (a.tmps.setIfInBounds d v) w':=by
 classical
 have hm:=gj.mem
 let Sc:Stb:=fun b=>if zBM G rw b then iY else w.heap[b]?
 have eA:∀b x,Γ.St b=iW x->Sc b=iW x:=fun b x hx=>by
  have h3:¬zBM G rw b:=by
   rintro⟨s,z,h4,_⟩
   rw[(hm.ow b _ h4).2.2]at hx;cases hx
  simp only[Sc,h3,if_false];exact hm.st b x hx
 have eB:∀r,r∉rw.map (·.2.1)-> ∀b,(∃y,G.ow b=iW (r,y))->Sc b=w.heap[b]?:=fun r hr' b ⟨y,hy⟩=>by
  have h3:¬zBM G rw b:=by
   rintro⟨s,z,h4,h5⟩
   grind
  grind
 have pB:∀(us:List T),yZ us/\yM us=iZ/\uN us=iZ-> ∀u∈us,yA u/\u.okTup=iZ/\vK u=iZ:=by
  intro us
  induction us with
  |nil=>simp
  |cons v us ih=>
   intro⟨h1,h2,h3⟩ u hu;simp only[yM,uN,J3]at h2 h3;rcases Jb.1 hu with rfl|hu
   ·exact⟨h1.1,h2.1,h3.1⟩
   ·exact ih ⟨h1.2,h2.2,h3.2⟩ u hu
 exact zIk gj hd (Sc:=Sc) (rw:=rw) (by grind) eA hc (xZ.length xs us 0 gp) (fun i u hu=>by
   obtain⟨x,h1,h2⟩:=xZ.get xs us 0 gp i u hu;rw[Jc]at h2
   grind[zXx]) hr.nodup hr.nodup2 hr.at_
  (by grind[zR5])
  (fun x hx=>by
   obtain⟨h1,h3,h4⟩:=hr.tree x hx
   grind[zR5])
theorem zPV(f:FuncId)(xf:Operand)(xs:List Operand)(ats:Array TypeId)(us res:List T)(rw:Rw)(ho:o.op=.call { callee:=.value xf,args:=xs.toArray,argTypes:=ats })(gm:o.dst=iW d)(hd:d<Γ.N)
  (gx:∀args w,(callFunc f args).run P w=.ok (.enter f args) w)(hf:opT E xf=iW (.lit (.func (.func f) #[] #[])))
  (hc:FnC P f us res (rw.map fun x=>(x.1,x.2.2)))(gp:xZ E rw 0 xs us)(hr:zMq E d xs us rw)(gz:yZ res/\yM res=iZ/\uN res=iZ):
  wD P Γ o E (E.app (cWr d res rw) (vU d rw)):=by
 intro a w K Q ⟨ej,G,gj⟩ hK;refine zFy ho gm gx (yY gj hf).1 ?_;refine(zMr gj hd f xs us res rw hc gp hr gz).mono ?_
 rintro e w' ⟨v,rfl,S,G',hS,_,gw⟩
 exact⟨v,rfl,hK _ _ ⟨S,hS,ej,G',gw⟩⟩
theorem zMs(f:FuncId)(xf:Operand)(xs:List Operand)(ats:Array TypeId)(us res:List T)(i ds r:Nat)(q:List Nat)(tr u u':T)(ho:o.op=.call { callee:=.value xf,args:=xs.toArray,argTypes:=ats })(gm:o.dst=iW d)(hd:d<Γ.N)
  (gx:∀args w,(callFunc f args).run P w=.ok (.enter f args) w)(hf:opT E xf=iW (.lit (.func (.func f) #[] #[])))
  (hs:E ds=iW (.same r q))(hr:E r=iW tr)(hq:tr.get q.reverse=iW u)(hu:u.single=iZ)(fp:yA u)(eh:ds≠r)(hdr2:d≠r)(gA:tr.okB [(ds,1),(r,q.length+1)]=iZ)(fy:wH tr=iZ)
  (E1 E2:Env)(bo:E1=E.app [(ds,iW u),(r,iW (if q=[]then .same ds []else tr.set q.reverse .any))] [(ds,1),(r,q.length+1)])(hH:E2=E1.app (cWr d res [(i,ds,u')]) (vU d [(i,ds,u')]))
  (hc:FnC P f us res [(i,u')])(gp:xZ E1 [(i,ds,u')] 0 xs us)(cE:zMq E1 d xs us [(i,ds,u')])(gz:yZ res/\yM res=iZ/\uN res=iZ)
  (tr2 v0:T)(gF:E2 r=iW tr2)(uo:tr2.get q.reverse=iW v0)(tf:v0.single=iZ)(pd:E2 ds=iW u')(eU:yA u')(bA:u'.single=iZ)(pS:tr2.okB [(r,q.length+1),(ds,1)]=iZ)(hc3:wH tr2=iZ)(hok3:u'.okB [(r,q.length+1),(ds,1)]=iZ)(hc4:wH u'=iZ):
  wD P Γ o E (E2.app [(r,iW (tr2.set q.reverse u')),(ds,iW (.same r q))] [(r,q.length+1),(ds,1)]):=by
 have mS:cLv u'=1:=by grind[cLv]
 intro a w K Q ⟨ej,G,gj⟩ hK;refine zFy ho gm gx (yY gj hf).1 ?_;have eu:G.hd ds []=G.hd r q:=by have:=(gj.ent ds _ hs).2.1;simpa only[R]using this
 obtain⟨cx,iz⟩:=zIb gj ds [] r q (.same r q) tr u (.same r q) hs rfl rfl eu hr hq hu fp eh (by grind[T.okB,zBl]) (by omega) rfl fy;have iV:E.app [(ds,iW ((T.same r q).set [].reverse u)),(r,iW (if q=[]then .same ds []else tr.set q.reverse .any))] [(ds,([]:List Nat).length+1),(r,q.length+1)]=E1:=by rw[bo];rfl
 rw[iV]at cx;refine(zMr cx hd f xs us res [(i,ds,u')] hc gp cE gz).mono ?_
 rintro e w' ⟨v,rfl,S,G',hS,hk,gw⟩
 rw[<-hH]at gw;have hdds:d≠ds:=by have:=cE.nodup;grind
 have h1:G'.hd r q=(G.tr ds [] r q).hd r q:=hk.hd r q (fun n hn=>by grind[vU]);have h2:G'.hd ds []=(G.tr ds [] r q).hd ds []:=hk.hd ds [] (fun n hn=>by grind[vU]);have fV:G'.hd r q=G'.hd ds []:=by grind
 obtain⟨cw,_⟩:=zIb gw r q ds [] tr2 u' u' v0 gF uo tf fV pd rfl bA eU (Ne.symm eh) (by omega) (by omega) hc3 hc4;refine⟨v,rfl,hK _ _ ⟨S,hS,ej,G'.tr r q ds [],?_⟩⟩;have hw:(if([]:List Nat)=[]then T.same r q else u'.set ([]:List Nat).reverse .any)=T.same r q:=if_pos rfl;rw[hw]at cw;exact cw
theorem zTm(f:FuncId)(xf:Operand)(xs:List Operand)(ats:Array TypeId)(us res:List T)(ho:o.op=.call { callee:=.value xf,args:=xs.toArray,argTypes:=ats })(gm:o.dst=iW d)(hd:d<Γ.N)
  (gx:∀args w,(callFunc f args).run P w=.ok (.enter f args) w)(hf:opT E xf=iW (.lit (.func (.func f) #[] #[])))
  (hc:FnC P f us res [])(gn:xs.length=us.length)(gp:∀(i:Nat) u,us[i]? =iW u-> ∃x,xs[i]? =iW x/\opT E x=iW u/\u.flat=iZ)(gz:yZ res/\yM res=iZ):
  wD P Γ o E (E.app (cWr d res []) (vU d [])):=by
 intro a w K Q ⟨ej,G,gj⟩ hK;have hm:=gj.mem;refine zFy ho gm gx (yY gj hf).1 ?_;have po:∀b,¬zBM G [] b:=by rintro b ⟨s,z,_,h⟩;simp at h
 have pB:∀(us:List T),yZ us/\yM us=iZ-> ∀u∈us,yA u/\u.okTup=iZ:=by
  intro us
  induction us with
  |nil=>simp
  |cons v us ih=>
   intro⟨h1,h2⟩ u hu;simp only[yM,J3]at h2;rcases Jb.1 hu with rfl|hu
   ·exact⟨h1.1,h2.1⟩
   ·exact ih ⟨h1.2,h2.2⟩ u hu
 have:=zIk gj hd (Sc:=Γ.St) (rw:=[]) (fun b x hx=>⟨hm.st b x hx,po b⟩) (fun _ _ h=>h) hc gn (fun i u hu=>by
   obtain⟨x,h1,h2,h3⟩:=gp i u hu;refine⟨x,h1,?_⟩;have bO:=zEd (E:=E) u h3;cases x with
   |tmp s=>
    have gO:∀z,(G.arg a xs []).hd i z=G.hd s z:=by grind[Gh.arg]
    obtain⟨e1,e2,_⟩:=gj.ent s u h2;refine⟨?_,by grind[zKN]⟩;have:=zKS (E:=E) gO u (bO.1 [] s)
    grind[xX]
   |const v=>
    simp only[opT]at h2;split at h2
    ·rename_i gv
     simp at h2;subst h2;have gO:(G.arg a xs []).hd i []=v:=by grind[Gh.arg,Act.eval,zBr]
     exact⟨by grind[mkV,Act.eval],by simp[R,gO]⟩
    ·cases h2
   |func f=>
    simp only[opT]at h2;simp at h2;subst h2;have gO:(G.arg a xs []).hd i []=.func (.func f) #[] #[]:=by grind[Gh.arg,Act.eval,zAp,Value.oneCell']
    exact⟨by grind[mkV,Act.eval],by simp[R,gO]⟩
   |global g=>grind[opT]) (by simp) (by simp) (by simp)
  (fun u hu=>⟨by grind,by grind,fun S' G w s p hS h=>by
   have:aft Γ.St Γ.St S'=S':=funext (by grind[aft])
   grind⟩) (by simp)
 refine this.mono ?_
 rintro e w' ⟨v,rfl,S,G',hS,_,gw⟩
 exact⟨v,rfl,hK _ _ ⟨S,hS,ej,G',gw⟩⟩
end
def vL:List (Nat×T)->Env
 | [],_=>iY
 |(k,t)::l,s=>if k=s then iW t else vL l s
def Env.Has(E:Env):List (Nat×T)->Prop
 | []=>True
 |(s,t)::l=>E s=iW t/\E.Has l
theorem Env.Has.le{E:Env}:{l:List (Nat×T)}->E.Has l-> ∀s t,vL l s=iW t->E s=iW t
 | [],_,s,t,h=>by grind[vL]
 |(k,u)::l,hh,s,t,h=>by
  simp only[vL]at h;split at h
  ·rename_i e
   subst e;rw[hh.1];exact h
  ·exact hh.2.le s t h
theorem Sim.weaken{Γ:Ctx}{E E':Env}{a:Act}{w:World}(h:Sim Γ E a w)(eW:∀s t,E' s=iW t->E s=iW t):Sim Γ E' a w:=by obtain⟨h1,G,h2⟩:=h;exact⟨h1,G,⟨h2.size,fun s t hs=>h2.ent s t (eW s t hs),h2.mem⟩⟩
theorem zAn.weaken{Γ:Ctx}{E E':Env}{a:Act}{w:World}(h:zAn Γ E a w)(eW:∀s t,E' s=iW t->E s=iW t):zAn Γ E' a w:=by obtain⟨S,h1,h2⟩:=h;exact⟨S,h1,h2.weaken eW⟩
abbrev kT:=List (Nat×Value)
def kT.Hold(pn:kT)(a:Act):Prop:=∀x∈pn,a.tmps[x.1]? =iW x.2
def kT.ok(pn:kT)(d:Option Nat):Bool:=match d with
 |none=>iZ
 |some d=>pn.all fun x=>x.1 != d
theorem Oper.wp_frame{P:Program}{o:Oper}{a:Act}{w:World}{K:Act->World->Prop}{Q:Exit->Act->World->Prop}(h:o.wp P a w K Q):
  o.wp P a w (fun a' w'=>K a' w'/\ ∀s,o.dst≠iW s->a'.tmps[s]? =a.tmps[s]?) Q:=by
 have key:∀(v:Value)(ds:List Deferred),∀s,o.dst≠iW s->(({ a with defers:=ds }:Act).put o.dst v).tmps[s]? =a.tmps[s]?:=by
  intro v ds s hs;cases hd:o.dst with
  |none=>rfl
  |some d=>
   grind[Act.put]
 have key0:∀(v:Value),∀s,o.dst≠iW s->(a.put o.dst v).tmps[s]? =a.tmps[s]?:=fun v=>key v a.defers
 unfold Oper.wp at*
 generalize (execOp a.eval o).run P w=r at*
 cases r with
 |ok n w'=>
  cases n<;>simp only[Oper.upon]at h ⊢
  all_goals grind
 |halt x w'=>cases x<;>simp only[Oper.upon]at h ⊢ <;>exact h
theorem kT.Hold.frame{pn:kT}{a a':Act}{d:Option Nat}(h:pn.Hold a)(gA:pn.ok d=iZ)(hf:∀s,d≠iW s->a'.tmps[s]? =a.tmps[s]?):pn.Hold a':=by
 intro x hx;rw[hf x.1 ?_]
 ·exact h x hx
 ·rintro rfl
  have:=Ka.1 gA x hx
  grind
section
variable (P:Program) (Γ:Ctx) (pn:kT)
def CW(c:Code)(E:Env)(Q:Exit->Env->Prop):Prop:=
 ∀(a:Act)(w:World)(Q':Exit->Act->World->Prop),zAn Γ E a w->pn.Hold a->(∀e E' a' w',Q e E'->zAn Γ E' a' w'->pn.Hold a'->Q' e a' w')->c.wp P Q' a w
def yX(ops:Array Oper)(o:Oper)(E E':Env):Prop:=
 ∀(a:Act)(w:World)(K:Act->World->Prop)(Q:Exit->Act->World->Prop),zAn Γ E a w->(∀a' w',zAn Γ E' a' w'->(∀s,o.dst≠iW s->a'.tmps[s]? =a.tmps[s]?)->K a' w')->
  if Region.wanted o (yielded ops a.tmps)then o.wp P a w K Q\/(o.asks P a w/\LetsOut Q)else K (a.put o.dst undef) w
def wpL(ops:Array Oper)(Q:Exit->Act->World->Prop):List Oper->Act->World->Prop
 | [],a,w=>Q .normal a w
 |o::os,a,w=>if Region.wanted o (yielded ops a.tmps)then o.wp P a w (wpL ops Q os) Q\/(o.asks P a w/\LetsOut Q)else wpL ops Q os (a.put o.dst undef) w
def RW(ops:Array Oper)(os:List Oper)(E:Env)(Q:Exit->Env->Prop):Prop:=
 ∀(a:Act)(w:World)(Q':Exit->Act->World->Prop),zAn Γ E a w->pn.Hold a->(∀e E' a' w',Q e E'->zAn Γ E' a' w'->pn.Hold a'->Q' e a' w')->wpL P ops Q' os a w
end
section
variable {P:Program}{Γ:Ctx}{pn:kT}{E E':Env}{Q Q1:Exit->Env->Prop}{c c1 c2:Code}{ops:Array Oper}{o:Oper}{os:List Oper}{d:Nat}
theorem zKT{Q':Exit->Act->World->Prop}:∀(os:List Oper)(n:Nat)(a:Act)(w:World),ops.toList.drop n=os->wpL P ops Q' os a w->wpOps P ops Q' (Kk n os.length) a w
 | [],n,a,w,_,h=>by simpa[wpOps,wpL]using h
 |o::os,n,a,w,hd,h=>by
  have ho:ops[n]? =iW o:=by
   have:=congrArg (·[0]?) hd
   grind
  have my:ops.toList.drop (n+1)=os:=by
   have:=congrArg List.tail hd
   grind[List.tail_drop]
  simp only[Jd,Uw,wpOps,ho];simp only[wpL]at h;split
  ·rename_i hw
   simp only[hw,if_true]at h;exact h.imp (Oper.wp_mono fun a w=>zKT os (n+1) a w my) id
  ·rename_i hw
   simp only[hw]at h;exact zKT os (n+1) _ w my h
theorem CW.region{id:Nat}(h:RW P Γ pn ops ops.toList E Q):CW P Γ pn (.region id ops ja) E Q:=by
 intro a w Q' hs hp hQ;refine wp_region ?_;have:=zKT (P:=P) ops.toList 0 a w (by simp) (h a w Q' hs hp hQ)
 grind[Kn]
theorem RW.nil(h:Q .normal E):RW P Γ pn ops [] E Q:=fun a w Q' hs hp hQ=>by
 simp only[wpL]
 grind
theorem RW.cons(h1:yX P Γ ops o E E')(h3:RW P Γ pn ops os E' Q)(h2:pn.ok o.dst=iZ:=by rfl):RW P Γ pn ops (o::os) E Q:=by
 intro a w Q' hs hp hQ;simp only[wpL];have:=h1 a w (wpL P ops Q' os) Q' hs fun a' w' gU hf=>h3 a' w' Q' gU (hp.frame h2 hf) hQ
 exact this
theorem yX.op(h:∀S,wD P (Γ.at S) o E E')(hg:o.guard=iY:=by rfl):yX P Γ ops o E E':=by
 intro a w K Q hs hK;have hw:Region.wanted o (yielded ops a.tmps)=iZ:=by simp[Region.wanted,hg]
 rw[if_pos hw];refine .inl ?_;obtain⟨S,hS,hs⟩:=hs;have:=Oper.wp_frame (h S a w (fun a' w'=>zAn Γ E' a' w') Q hs fun a' w' h=>h.up hS)
 grind[Oper.wp_mono]
theorem zIl{a:Act}{w:World}(hs:zAn Γ E a w){g s:Nat}{b:Bool}(gV:(ops[g]?).bind (·.dst)=iW s)(h:E s=iW (.lit (.bool b))):yielded ops a.tmps g=iW b:=by
 obtain⟨_,_,_,G,hr⟩:=hs;obtain⟨h1,h2,_⟩:=hr.ent s _ h;simp only[R]at h2
 grind[yielded,mkV]
theorem yX.guard(g:Nat)(b:Bool)(s:Nat)(h:∀S,wD P (Γ.at S) o E E')(hg:o.guard=iW (g,b):=by rfl)(gV:(ops[g]?).bind (·.dst)=iW s:=by rfl)(hb:E s=iW (.lit (.bool b)):=by rfl):yX P Γ ops o E E':=by
 intro a w K Q hs hK;have hw:Region.wanted o (yielded ops a.tmps)=iZ:=by grind[Region.wanted,zIl]
 rw[if_pos hw];refine .inl ?_;obtain⟨S,hS,hs⟩:=hs;have:=Oper.wp_frame (h S a w (fun a' w'=>zAn Γ E' a' w') Q hs fun a' w' h=>h.up hS)
 grind[Oper.wp_mono]
def zR(Γ:Ctx)(E E':Env):Prop:=∀(a:Act)(w:World),zAn Γ E a w->zAn Γ E' a w
theorem zR.refl:zR Γ E E:=fun _ _ h=>h
theorem zR.trans{E1 E2 E3:Env}(h:zR Γ E1 E2)(h':zR Γ E2 E3):zR Γ E1 E3:=fun a w hs=>h' a w (h a w hs)
theorem zR.has{l:List (Nat×T)}(h:E.Has l):zR Γ E (vL l):=fun _ _ hs=>hs.weaken h.le
theorem CW.ghost(h1:zR Γ E E')(h:CW P Γ pn c E' Q):CW P Γ pn c E Q:=fun a w Q' hs=>h a w Q' (h1 a w hs)
theorem RW.ghost(h1:zR Γ E E')(h:RW P Γ pn ops os E' Q):RW P Γ pn ops os E Q:=fun a w Q' hs=>h a w Q' (h1 a w hs)
theorem CW.to(l:List (Nat×T))(h1:E.Has l)(h:CW P Γ pn c (vL l) Q):CW P Γ pn c E Q:=h.ghost (.has h1)
theorem CW.mono(h:CW P Γ pn c E Q1)(hq:∀e E',Q1 e E'->Q e E'):CW P Γ pn c E Q:=fun a w Q' hs hp hQ=>h a w Q' hs hp (by grind)
theorem CW.skip(h:Q .normal E):CW P Γ pn .skip E Q:=fun _ _ _ hs hp hQ=>by grind[wp_skip]
theorem CW.ret(h:Q .ret E):CW P Γ pn .ret E Q:=fun _ _ _ hs hp hQ=>by grind[wp_ret]
theorem CW.exit{id:Nat}(h:Q (.exit id) E):CW P Γ pn (.exit id) E Q:=fun _ _ _ hs hp hQ=>by grind[wp_exit]
def yB(P:Program)(Γ:Ctx)(pn:kT)(c:Code)(Q:Exit->Env->Prop):Exit->Env->Prop
 |.normal,E=>CW P Γ pn c E Q
 |e,E=>Q e E
theorem CW.seq(h:CW P Γ pn c1 E (yB P Γ pn c2 Q)):CW P Γ pn (.seq c1 c2) E Q:=by
 intro a w Q' hs hp hQ;refine wp_seq (h a w _ hs hp fun e E' a' w' h1 gU cH=>?_);cases e with
 |normal=>exact h1 a' w' Q' gU cH hQ
 |_=>exact hQ _ _ _ _ h1 gU cH
theorem CW.cond{x:Operand}(b:Bool)(hb:opT E x=iW (.lit (.bool b)))(ht:b=iZ->CW P Γ pn c1 E Q)(hf:b=ja->CW P Γ pn c2 E Q):CW P Γ pn (.cond x c1 c2) E Q:=by intro a w Q' hs hp hQ;obtain⟨_,_,_,G,hr⟩:=id hs;refine wp_cond_split (yY hr hb).1 (fun h=>ht h a w Q' hs hp hQ) (fun h=>hf h a w Q' hs hp hQ)
def yI(id:Nat)(Q:Exit->Env->Prop):Exit->Env->Prop
 |.exit id',E=>if id'=id then Q .normal E else Q (.exit id') E
 |e,E=>Q e E
theorem CW.block{id:Nat}(h:CW P Γ pn c E (yI id Q)):CW P Γ pn (.block id c) E Q:=by
 intro a w Q' hs hp hQ;refine wp_block (h a w _ hs hp fun e E' a' w' h1 gU cH=>?_);cases e with
 |exit id'=>
  simp only[yI]at h1;simp only[Exit.inBlock]
  grind
 |_=>exact hQ _ _ _ _ h1 gU cH
end
def xJ{σ ρ:Type}(body:σ->Option (σ⊕ρ)):Nat->σ->Option ρ
 |0,_=>iY
 |n+1,s=>match body s with
  |none=>iY
  |some (.inl s')=>xJ body n s'
  |some (.inr r)=>iW r
theorem zIm{σ ρ:Type}{body:σ->Option (σ⊕ρ)}{r:ρ}:∀{n m:Nat}{s:σ},xJ body n s=iW r->n<=m->xJ body m s=iW r
 |0,_,_,h,_=>by grind[xJ]
 |n+1,0,_,_,hm=>by omega
 |n+1,m+1,s,h,hm=>by
  simp only[xJ]at h ⊢
  cases hb:body s with
  |none=>grind
  |some x=>
   cases x with
   |inl s'=>simp only[hb]at h ⊢;exact zIm h (by omega)
   |inr r'=>grind
open Classical in
noncomputable def zH {σ ρ:Type} (body:σ->Option (σ⊕ρ)) (s:σ):Option ρ:=
 if h:∃(n:Nat)(r:ρ),xJ body n s=iW r then iW h.choose_spec.choose else iY
theorem zCI{σ ρ:Type}{body:σ->Option (σ⊕ρ)}{s:σ}{r:ρ}:zH body s=iW r↔ ∃n,xJ body n s=iW r:=by
 unfold zH;constructor
 ·intro h
  split at h
  all_goals grind
 ·rintro⟨n,hn⟩
  have he:∃(n:Nat)(r:ρ),xJ body n s=iW r:=⟨n,r,hn⟩;rw[dif_pos he]
  grind[zIm]
theorem yR{σ ρ:Type}(body:σ->Option (σ⊕ρ))(s:σ):zH body s=match body s with
  |none=>iY
  |some (.inl s')=>zH body s'
  |some (.inr r)=>iW r:=by
 apply Option.ext;intro r;rw[zCI];cases hb:body s with
 |none=>
  simp only[reduceCtorEq,iff_false]
  rintro⟨n,hn⟩
  cases n<;>simp[xJ,hb]at hn
 |some x=>
  cases x with
  |inl s'=>
   simp only[];rw[zCI];constructor
   ·rintro⟨n,hn⟩
    cases n with
    |zero=>grind[xJ]
    |succ n=>grind[xJ]
   ·rintro⟨n,hn⟩
    exact⟨n+1,by grind[xJ]⟩
  |inr r'=>
   simp only[Kt.injEq];constructor
   ·rintro⟨n,hn⟩
    cases n with
    |zero=>grind[xJ]
    |succ n=>grind[xJ]
   ·rintro rfl
    exact⟨1,by simp[xJ,hb]⟩
section
variable {P:Program}{Γ:Ctx}{pn:kT}{E:Env}{Q:Exit->Env->Prop}{c:Code}
def xF{σ ρ:Type}(Γ:Ctx)(en:σ->Env)(Q:ρ->Exit->Env->Prop)(x:σ⊕ρ):Exit->Env->Prop:=fun e E'=>
 match x with
 |.inl s'=>e=.normal/\zR Γ E' (en s')
 |.inr r=>e≠.normal/\Q r e E'
theorem zE7{p:Nat->Prop}(h:∃m,p m):∃m,p m/\ ∀k,k<m-> ¬p k:=by
 refine Classical.byContradiction fun hn=>?_
 have key:∀n,∀k,k<n-> ¬p k:=by
  intro n
  induction n with
  |zero=>simp
  |succ n ih=>
   grind
 grind
theorem CW.loop{σ ρ:Type}(body:σ->Option (σ⊕ρ))(en:σ->Env)(Q:ρ->Exit->Env->Prop)(h:∀s x,body s=iW x->CW P Γ pn c (en s) (xF Γ en Q x)){s:σ}{r:ρ}(hr:zH body s=iW r):
  CW P Γ pn (.loop c) (en s) (Q r):=by
 classical
 intro a w Q' hs hp hQ
 let p:Act->World->Nat->Prop:=fun a w m=> ∃s,xJ body m s=iW r/\zAn Γ (en s) a w/\pn.Hold a
 let μ:Act->World->Nat:=fun a w=>if h:∃m,p a w m then(zE7 h).choose else 0
 obtain⟨n,hn⟩:=zCI.1 hr;refine wp_loop (fun a w=> ∃m,p a w m) μ (by grind) ?_;intro a w cW;have hμ:μ a w=(zE7 cW).choose:=dif_pos cW;obtain⟨s,h1,h2,h3⟩:=(zE7 cW).choose_spec.1;have eV:=(zE7 cW).choose_spec.2;rw[<-hμ]at h1;cases hm:μ a w with
 |zero=>grind[xJ]
 |succ k=>
  rw[hm]at h1;simp only[xJ]at h1;cases hb:body s with
  |none=>grind
  |some x=>
   refine h s x hb a w _ h2 h3 fun e E' a' w' hq gU cH=>?_
   cases x with
   |inl s'=>
    simp only[hb]at h1;obtain⟨rfl,hg⟩:=hq;have aj:p a' w' k:=⟨s',h1,hg a' w' gU,cH⟩;refine⟨⟨k,aj⟩,?_⟩;have hex':∃m,p a' w' m:=⟨k,aj⟩
    grind
   |inr r'=>
    simp only[hb]at h1;have:r'=r:=by grind
    subst this;obtain⟨gk,hq⟩:=hq;have:=hQ e E' a' w' hq gU cH;cases e with
    |normal=>grind
    |_=>exact this
end
abbrev Nds:=List (Nat×List Nat×T)
def ROk(P:Program)(E:Env):ResultVar->(Nat×List Nat×T)->Prop
 |.tmp s,x=>x.1=s/\x.2.1=[]/\E s=iW x.2.2/\x.2.2.okTup=iZ
 |.cell a T,x=>x.1=a/\x.2.1=[0]/\E a=iW (.ptr x.2.2)/\ ∃ds ti,P.underlying T=iW ds/\P.info? T=iW ti/\zGf ds= !x.2.2.single/\ti.size=x.2.2.size
def zHv(P:Program)(E:Env):List ResultVar->Nds->Prop
 | [],[]=>True
 |x::xs,y::ys=>ROk P E x y/\zHv P E xs ys
 |_,_=>False
def LOk(E:Env)(us:List T):List (Nat×T)->Prop
 | []=>True
 |(i,u')::l=>(E i=iW u'/\ ∃u,us[i]? =iW u)/\LOk E us l
def yC8(P:Program)(rs:Array ResultVar)(us res:List T)(rws:List (Nat×T)):Exit->Env->Prop:=fun e E=>
 (e=.ret\/e=.normal)/\ ∃nd:Nds,zHv P E rs.toList nd/\nd.map (·.2.2)=res/\(∀x∈nd,us.length<=x.1)/\(nd.map (·.1)).Nodup/\LOk E us rws
def zDz(v:Nat->Value)(is:List Nat):kT:=is.map fun i=>(i,v i)
def zJz:Nat->List T->List (Nat×T)
 |_,[]=>[]
 |i,u::us=>(i,u)::zJz (i+1) us
theorem zMt:∀(us:List T)(i s:Nat)(t:T),vL (zJz i us) s=iW t->i<=s/\us[s-i]? =iW t
 | [],i,s,t,h=>by grind[zJz,vL]
 |u::us,i,s,t,h=>by
  simp only[zJz,vL]at h;split at h
  ·grind
  ·rename_i e
   obtain⟨h1,h2⟩:=zMt us (i+1) s t h
   grind
def zTn(tmps:Array Value):ResultVar->Sem Value
 |.tmp t=>pure (tmps.getD t undef)
 |.cell a t=>do loadVar t (<-asAddr (tmps.getD a undef))
theorem zOq(fn:Func)(tmps:Array Value):results fn tmps=(do
  let vs <-fn.results.mapM (zTn tmps)
  pure (if h:vs.size=1 then vs[0]else .tuple vs)):=rfl
theorem uQ.get:(xs:List T)->uQ xs-> ∀(i:Nat)(x:T),xs[i]? =iW x->Top x
 | [],_,i,x,h=>by simp at h
 |y::ys,ht,i,x,h=>by
  simp only[uQ]at ht;cases i with
  |zero=>simp at h;subst h;exact ht.1
  |succ i=>exact uQ.get ys ht.2 i x (by simpa using h)
theorem LOk.get{E:Env}{us:List T}:(l:List (Nat×T))->LOk E us l-> ∀i u',(i,u')∈l->E i=iW u'/\ ∃u,us[i]? =iW u
 | [],_,_,_,h=>by simp at h
 |x::l,h,i,u',hm=>by
  rcases Jb.1 hm with rfl|hm
  ·exact h.1
  ·exact LOk.get l h.2 i u' hm
theorem yEA{P:Program}{Γ:Ctx}{E:Env}{G:Gh}{tmps:Array Value}{w:World}(gj:Rep Γ E G tmps w)(x:ResultVar)(s:Nat)(q:List Nat)(t:T)(h:ROk P E x (s,q,t)):
  (zTn tmps x).run P w=.ok (sZ G s t q) w/\R Γ.St G w s t q:=by
 cases x with
 |tmp s'=>
  obtain⟨h0,bS,h1,h2⟩:=h;dsimp only at h0 bS h1 h2;subst h0 bS;obtain⟨g1,g2,_⟩:=gj.ent _ _ h1;have er:∀xs,t≠.tup xs:=by rintro xs rfl;grind[T.okTup]
  refine⟨?_,g2⟩;rw[<-zAO G s t [] er];simp[zTn,Kj,g1]
 |cell a T'=>
  obtain⟨h0,bS,h1,ds,ti,h2,h3,h4,h5⟩:=h;dsimp only at h0 bS h1 h4 h5;subst h0 bS;obtain⟨g1,g2,_⟩:=gj.ent _ _ h1;simp only[R]at g2;obtain⟨b,cs,e,k1,k2,k3,k4,k5,k6⟩:=g2;refine⟨?_,k6⟩;rw[xS rfl,k1]at g1;have h6:=zGX (w:=w) h2 h3 k5 h4 h5;simp[zTn,Kj,g1,asAddr,h6]
theorem zHe{P:Program}{Γ:Ctx}{E:Env}{G:Gh}{tmps:Array Value}{w:World}(gj:Rep Γ E G tmps w):(rs:List ResultVar)->(nd:Nds)->zHv P E rs nd->
  (rs.mapM (zTn tmps)).run P w=.ok (nd.map fun x=>sZ G x.1 x.2.2 x.2.1) w/\ ∀x∈nd,R Γ.St G w x.1 x.2.2 x.2.1
 | [],[],_=>by simp
 |x::xs,y::ys,h=>by
  obtain⟨h1,h2⟩:=zHe gj xs ys h.2;obtain⟨h3,h4⟩:=yEA gj x y.1 y.2.1 y.2.2 h.1
  simp_all
 | [],_::_,h=>by simp[zHv]at h
 |_::_,[],h=>by simp[zHv]at h
theorem FnC.of_body{P:Program}{f:FuncId}{fn:Func}{c:Code}{us res:List T}{rws:List (Nat×T)}(hf:P.funcs[f]? =iW fn)(hb:fn.body=iW c)(hn:us.length<=fn.ntmps)(ht:uQ us)(hr:rws.all (fun x=>decide (x.1<us.length))=iZ)
  (h:∀(Γ:Ctx)(v:Nat->Value),Γ.N=fn.ntmps->CW P Γ (zDz v (rws.map (·.1))) c (vL (zJz 0 us)) (yC8 P fn.results us res rws)):FnC P f us res rws:=by
 intro St W w G vs pI gp gu
 let Γ:Ctx:=⟨St,W,w,fn.ntmps⟩
 let v:Nat->Value:=fun i=>vs.getD i undef
 have hm:Mem Γ G w:=⟨gu.one,gu.lb,gu.ow,gu.st,gu.fr,gu.sz,gu.bk⟩;have gE:(vs++Ul (fn.ntmps-vs.size) undef).size=fn.ntmps:=by simp;omega
 have dV:Sim Γ (vL (zJz 0 us)) { tmps:=vs++Ul (fn.ntmps-vs.size) undef,defers:=[] } w:=by
  refine⟨rfl,G,gE,?_,hm⟩;intro s t hs;obtain⟨_,h2⟩:=zMt us 0 s t hs;simp only[Uo]at h2;obtain⟨h3,h4⟩:=gp s t h2;have gJ:s<vs.size:=by grind
  exact⟨by grind,h4,uQ.get us ht s t h2⟩
 have uz:(zDz v (rws.map (·.1))).Hold { tmps:=vs++Ul (fn.ntmps-vs.size) undef,defers:=[] }:=by
  intro x hx;simp only[zDz,Jn]at hx;obtain⟨i,⟨y,hy,rfl⟩,rfl⟩:=hx;have h1:=Ka.1 hr y hy;simp at h1;have h2:y.1<vs.size:=by omega
  simp[Array.getElem?_append,h2,v]
 refine calls_of_wp hf hb (h Γ v rfl _ _ _ (.of dV) uz ?_)
 rintro e E' a' w' ⟨he,nd,h1,h2,h3,h4,h5⟩ ⟨S',eg,ej,G',gj⟩ hp
 obtain⟨g1,g2⟩:=zHe gj _ _ h1;have gz:(results fn a'.tmps).run P w'=.ok (zMk G' nd) w':=by
  rw[zOq,Array.mapM_eq_mapM_toList];simp only[Sem.run_bind,Sem.run_map,g1];cases nd with
  |nil=>simp[zMk]
  |cons y ys=>
   cases ys with
   |nil=>simp[zMk]
   |cons z zs=>simp[zMk]
 have gI:Mem ⟨S',W,w,0⟩ G' w':=⟨gj.mem.one,gj.mem.lb,gj.mem.ow,gj.mem.st,gj.mem.fr,gj.mem.sz,gj.mem.bk⟩;have bc:bodyPost P fn (fun e w'=> ∃(S':Stb)(G':Gh)(nd:List (Nat×List Nat×T)),zEv St S' W w.heap.size/\e=.returned (zMk G' nd)/\Mem ⟨S',W,w,0⟩ G' w'/\nd.map (·.2.2)=res/\
   (∀x∈nd,R S' G' w' x.1 x.2.2 x.2.1/\us.length<=x.1)/\(nd.map (·.1)).Nodup/\
   ∀i u',(i,u')∈rws->R S' G' w' i u' []/\ ∃u,us[i]? =iW u/\mkV G' i u' []=mkV G i u []) .ret a' w':=by
  refine⟨ej,_,gz,S',G',nd,eg,rfl,gI,h2,by grind,h4,?_⟩;intro i u' hiu;obtain⟨k1,u,k3⟩:=LOk.get _ h5 i u' hiu;obtain⟨k5,k6,_⟩:=gj.ent i u' k1;refine⟨k6,u,k3,?_⟩;have k7:=hp (i,v i) (by simp only[zDz,Jn];grind);have k8:=(gp i u k3).1;rw[k5]at k7;simp[v,Kj,k8]at k7;exact k7
 rcases he with rfl|rfl<;>exact bc
mutual
def vW:T->T
 |.sl k xs=>.ro (strip (.sl k xs))
 |.ptr t=>.ro (strip (.ptr t))
 |.agg xs=>.agg (uP xs)
 |.tup xs=>.tup (uP xs)
 |.any=>.any
 |.lit v=>.lit v
 |.ro t=>.ro t
 |.same r p=>.same r p
 |.addr r p=>.addr r p
 |.sub r p k lo hi=>.sub r p k lo hi
def uP:List T->List T
 | []=>[]
 |x::xs=>vW x::uP xs
end
mutual
theorem zTo(G:Gh)(s:Nat):(t:T)-> ∀p,vals G s (vW t) p=vals G s t p
 |.agg xs,p=>by simp only[vW,vals];exact zEe G s xs p 0
 |.sl _ _,_|.ptr _,_|.tup _,_|.any,_|.lit _,_|.ro _,_|.same _ _,_|.addr _ _,_|.sub _ _ _ _ _,_=>by rfl
theorem zEe(G:Gh)(s:Nat):(xs:List T)-> ∀p j,yH G s (uP xs) p j=yH G s xs p j
 | [],_,_=>by rfl
 |x::xs,p,j=>by simp only[uP,yH,zTo G s x,zEe G s xs]
end
theorem zTp(G:Gh)(s:Nat)(t:T)(p:List Nat):sZ G s (vW t) p=sZ G s t p:=by cases t<;>simp only[vW,sZ,zEe]
theorem zMu(G:Gh)(s:Nat):(xs:List T)-> ∀p j,zAN G s (uP xs) p j=zAN G s xs p j
 | [],_,_=>by rfl
 |x::xs,p,j=>by simp only[uP,zAN,zTp,zMu G s xs]
theorem zXy(G:Gh)(s:Nat)(t:T)(p:List Nat):mkV G s (vW t) p=mkV G s t p:=by cases t<;>simp only[vW,mkV,zEe,zMu]
mutual
theorem zMv:(t:T)->Top t->Top (vW t)
 |.agg xs,h|.tup xs,h=>by simp only[vW,Top]at h ⊢;exact zJO xs h
 |.sl _ _,_|.ptr _,_|.any,_|.lit _,_|.ro _,_|.same _ _,_|.addr _ _,_|.sub _ _ _ _ _,_=>by simp only[vW,Top]
theorem zJO:(xs:List T)->uQ xs->uQ (uP xs)
 | [],_=>by grind[uP]
 |x::xs,h=>by simp only[uP,uQ]at h ⊢;exact⟨zMv x h.1,zJO xs h.2⟩
end
section
variable {St Sc:Stb}{G G':Gh}{w:World}{s:Nat} (gv:∀s p,(G.hd s p).oneCell'=iZ) (eA:∀b x,St b=iW x->Sc b=iW x) (eB:∀b,(∃y,G.ow b=iW (s,y))->Sc b=w.heap[b]?) (gO:∀s z,G'.hd s z=G.hd s z) (fh:∀s z,G'.ad s z=G.ad s z)
 include gv eA eB gO fh
mutual
theorem zZ9:(t:T)-> ∀(p:List Nat),R St G w s t p->R Sc G' w s (vW t) p
 |.agg xs,p,hr|.tup xs,p,hr=>by simp only[vW,R]at hr ⊢;exact zTq xs p 0 hr
 |.sl k xs,p,hr=>by have:=zMn gv eA eB (.sl k xs) p rfl hr;simp only[vW,R,gO];exact this
 |.ptr t,p,hr=>by have:=zMn gv eA eB (.ptr t) p rfl hr;simp only[vW,R,gO];exact this
 |.ro u,p,hr=>by simp only[vW,R,gO]at hr ⊢;grind[tJ]
 |.any,_,_=>by simp only[vW,R]
 |.lit _,_,hr|.same _ _,_,hr|.sub _ _ _ _ _,_,hr=>by simp only[vW,R,gO]at hr ⊢;exact hr
 |.addr _ _,_,hr=>by simp only[vW,R,gO,fh]at hr ⊢;exact hr
theorem zTq:(xs:List T)-> ∀(p:List Nat)(j:Nat),RF St G w s xs p j->RF Sc G' w s (uP xs) p j
 | [],_,_,_=>by have _:=gv;have _:=eA;have _:=eB;have _:=gO;have _:=fh;simp only[uP,RF]
 |x::xs,p,j,hr=>by simp only[uP,RF]at hr ⊢;exact⟨zZ9 x _ hr.1,zTq xs p (j+1) hr.2⟩
end
end
theorem zR.freeze{Γ:Ctx}{E:Env}(s:Nat)(t:T)(hs:E s=iW t):zR Γ E (E.app [(s,iW (vW t))] [(s,1)]):=by
 classical
 rintro a w ⟨S,hS,ej,G,gj⟩
 have hm:=gj.mem
 let own:Nat->Prop:=fun b=> ∃y,G.ow b=iW (s,y)
 let Sc:Stb:=fun b=>if own b then w.heap[b]? else S b
 let G':Gh:={ hd:=G.hd,ad:=G.ad,lb:=fun b o=>if own b then iY else G.lb b o,ow:=fun b=>if own b then iY else G.ow b }
 have fC:∀b x,S b=iW x->Sc b=iW x:=fun b x hx=>by
  have:¬own b:=by
   rintro⟨y,hy⟩
   have:=(hm.ow b _ hy).2.2
   grind
  grind
 have aD:zEv S Sc Γ.W Γ.w0.heap.size:=⟨fC,fun b hb ez=>by
  by_cases h:own b
  ·obtain⟨y,hy⟩:=h
   exact(hm.ow b _ hy).2.1
  grind⟩
 have gu:Mem ((Γ.at S).at Sc) G' w:=by
  refine⟨hm.one,fun b o l hl=>?_,fun b l hl=>?_,fun b x hx=>?_,hm.fr,hm.sz,hm.bk⟩
  ·by_cases h:own b
   ·grind
   ·simp only[G',h,if_false]at hl
    have:=hm.lb b o l hl;exact⟨this.1,this.2.1,by simp only[Sc,h,if_false];exact this.2.2⟩
  ·by_cases h:own b
   ·grind
   ·simp only[G',h,if_false]at hl
    have:=hm.ow b l hl;exact⟨this.1,this.2.1,by simp only[Sc,h,if_false];exact this.2.2⟩
  ·by_cases h:own b
   ·grind
   ·simp only[Sc,h,if_false]at hx;exact hm.st b x hx
 have gB:kS [(s,1)] G w G' w:=by
  have ii:∀b s0 y,G.ow b=iW (s0,y)->(∀n,(s0,n)∉([(s,1)]:Chg))-> ¬own b:=by grind
  refine⟨fun _ _ _=>rfl,fun _ _ _=>rfl,by grind,by grind,fun b cs e h=>⟨cs,h,rfl⟩⟩
  all_goals grind
 obtain⟨e1,e2,e3⟩:=gj.ent s t hs;refine⟨Sc,hS.trans aD,ej,G',gj.up fC rfl gB gu (fun s0 h0=>⟨fun n hn=>?_,rfl⟩) (fun s0 t0 h0=>?_)⟩
 ·grind[sG]
 ·rw[sG]at h0
  split at h0
  ·rename_i he;subst he
   simp at h0;subst h0;have hR:=zZ9 (G':=G') hm.one fC (fun b hb=>by grind) (fun _ _=>rfl) (fun _ _=>rfl) t [] e2;refine⟨?_,hR,zMv t e3⟩;rw[e1];have h1:mkV G' s (vW t) []=mkV G s (vW t) []:=zGe _ _ _ (fun _=>rfl);rw[h1,zXy]
  ·cases h0
abbrev zD0:=List (Wr×Chg)
def Env.apps(E:Env)(l:zD0):Env:=l.foldl (fun E x=>E.app x.1 x.2) E
structure Stp where
 rd:List (Nat×T)
 l:zD0
def qG(wr:Wr):List Nat:=wr.map (·.1)
def Stp.slots(X:Stp):List Nat:=X.l.flatMap fun x=>qG x.1
def oOk(chg:Chg):Option T->Bool
 |none=>iZ
 |some t=>t.okB chg
def zOr(chg:Chg)(wr:Wr):Bool:=wr.all fun x=>oOk chg x.2
def zR6(a b:List Nat):Bool:=a.all fun x=> !b.contains x
def zGn(a b:zD0):Bool:=a.all fun x=>b.all fun y=>zR6 (qG x.1) (qG y.1)&&zOr y.2 x.1&&zOr x.2 y.1
def Stp.apart(a b:Stp):Bool:=zGn a.l b.l&&zR6 a.slots (b.rd.map (·.1))&&zR6 b.slots (a.rd.map (·.1))&&a.rd.all fun x=>b.l.all fun y=>x.2.okB y.2
theorem zGo{wr:Wr}{s:Nat}(h:s∉qG wr):wr.find s=iY:=by
 induction wr with
 |nil=>rfl
 |cons x wr ih=>
  simp only[qG,Js,Jb,not_or]at h;simp only[Wr.find,Ne.symm h.1,if_false];exact ih h.2
theorem zJP{wr:Wr}{s:Nat}{x:Option T}(h:wr.find s=iW x):s∈qG wr/\ ∃y∈wr,y.2=x:=by
 induction wr with
 |nil=>grind[Wr.find]
 |cons y wr ih=>
  grind[Wr.find,qG]
theorem zIn{a b:List Nat}(h:zR6 a b=iZ){s:Nat}(hs:s∈a):s∉b:=by
 have:=Ka.1 h s hs
 grind
theorem zTr(E:Env)(w1 w2:Wr)(c1 c2:Chg)(h:zR6 (qG w1) (qG w2)=iZ)(h1:zOr c2 w1=iZ)(h2:zOr c1 w2=iZ):
  (E.app w1 c1).app w2 c2=(E.app w2 c2).app w1 c1:=by
 funext s
 have ok:∀{c:Chg}{w:Wr}{s:Nat}{x:Option T},zOr c w=iZ->w.find s=iW x->(match x with|some t=>if t.okB c then iW t else iY|none=>iY)=x:=by
  intro c w s x hw hf;obtain⟨_,y,hy,rfl⟩:=zJP hf;have:=Ka.1 hw y hy
  grind[oOk]
 unfold Env.app;cases hf1:w1.find s with
 |some x=>
  grind[zGo,zIn,zJP]
 |none=>
  grind
theorem zE8(w:Wr)(c:Chg):∀(l:zD0)(E:Env),(∀y∈l,zR6 (qG w) (qG y.1)=iZ/\zOr y.2 w=iZ/\zOr c y.1=iZ)->(E.app w c).apps l=(E.apps l).app w c
 | [],E,_=>rfl
 |y::l,E,h=>by obtain⟨h1,h2,h3⟩:=h y (by simp);show((E.app w c).app y.1 y.2).apps l=_;rw[zTr E w y.1 c y.2 h1 h2 h3];exact zE8 w c l _ (by grind)
theorem zJQ:∀(l1 l2:zD0)(E:Env),zGn l1 l2=iZ->(E.apps l1).apps l2=(E.apps l2).apps l1
 | [],l2,E,_=>rfl
 |x::l1,l2,E,h=>by simp only[zGn,Uf,J3]at h;show((E.app x.1 x.2).apps l1).apps l2=((E.apps l2).app x.1 x.2).apps l1;rw[zJQ l1 l2 _ (by grind[zGn]),zE8 x.1 x.2 l2 E (by grind)]
def runD:Env->List (Bool×Stp)->Env
 |E,[]=>E
 |E,(b,X)::l=>runD (if b then E.apps X.l else E) l
theorem zAR:∀(l1 l2:List (Bool×Stp))(E:Env),runD E (l1++l2)=runD (runD E l1) l2
 | [],_,_=>rfl
 |(b,X)::l1,l2,E=>by simp only[Kc,runD];exact zAR l1 l2 _
theorem zGp:∀(l:List (Bool×Stp))(X:Stp)(E:Env),(∀y∈l,y.1=iZ->zGn X.l y.2.l=iZ)->runD (E.apps X.l) l=(runD E l).apps X.l
 | [],_,_,_=>rfl
 |(b,Y)::l,X,E,h=>by
  simp only[runD];cases b with
  |false=>exact zGp l X E (by grind)
  |true=>
   have:=h (iZ,Y) (by simp) rfl;simp only[if_true];rw[zJQ X.l Y.l E this];exact zGp l X _ (by grind)
theorem zIo{s:Nat}:∀(l:zD0)(E:Env),s∉l.flatMap (fun x=>qG x.1)-> ∀t,(E.apps l) s=iW t->E s=iW t
 | [],_,_,_,h=>h
 |x::l,E,hs,t,h=>by
  simp only[L9,Jf,not_or]at hs;have:=zIo l (E.app x.1 x.2) hs.2 t h
  grind[Env.app,zGo]
theorem zJR{s:Nat}{t:T}:∀(l:zD0)(E:Env),s∉l.flatMap (fun x=>qG x.1)->(∀y∈l,t.okB y.2=iZ)->E s=iW t->(E.apps l) s=iW t
 | [],_,_,_,h=>h
 |x::l,E,hs,gA,h=>by
  simp only[L9,Jf,not_or]at hs;refine zJR l (E.app x.1 x.2) hs.2 (by grind) ?_
  grind[Env.app,zGo]
theorem zJS{s:Nat}:∀(l:zD0)(E1 E2:Env),(∀t,E2 s=iW t->E1 s=iW t)-> ∀t,(E2.apps l) s=iW t->(E1.apps l) s=iW t
 | [],_,_,h,t,ht=>h t ht
 |x::l,E1,E2,h,t,ht=>by
  refine zJS l (E1.app x.1 x.2) (E2.app x.1 x.2) (fun u hu=>?_) t ht
  grind[Env.app]
theorem zJT{s:Nat}:∀(l:List (Bool×Stp))(E1 E2:Env),(∀y∈l,y.1=ja->s∉y.2.slots)->(∀t,E2 s=iW t->E1 s=iW t)->
  ∀t,runD E2 (l.map fun y=>(iZ,y.2)) s=iW t->runD E1 l s=iW t
 | [],_,_,_,h,t,ht=>h t ht
 |(b,X)::l,E1,E2,hl,h,t,ht=>by
  simp only[Js,runD,if_true]at ht ⊢
  refine zJT l _ _ (by grind) (fun u hu=>?_) t ht;cases b with
  |true=>grind[zJS]
  |false=>exact h u (zIo X.l E2 (hl (ja,X) (by simp) rfl) u hu)
theorem zJU{s:Nat}{t:T}:∀(l:List (Bool×Stp))(E:Env),(∀y∈l,y.1=iZ->s∉y.2.slots/\ ∀z∈y.2.l,t.okB z.2=iZ)->E s=iW t->runD E l s=iW t
 | [],_,_,h=>h
 |(b,X)::l,E,hl,h=>by
  simp only[runD];refine zJU l _ (fun y hy=>hl y (by simp[hy])) ?_;cases b with
  |false=>exact h
  |true=>obtain⟨h1,h2⟩:=hl (iZ,X) (by simp) rfl;exact zJR X.l E h1 h2 h
theorem Env.Has.of{E E':Env}:{l:List (Nat×T)}->E.Has l->(∀s t,(s,t)∈l->E s=iW t->E' s=iW t)->E'.Has l
 | [],_,_=>trivial
 |(s,t)::l,h,h'=>⟨h' s t (by simp) h.1,Env.Has.of h.2 fun s t hm=>h' s t (by simp[hm])⟩
def zCr(o:Oper):List Nat:=(o.after.toList.filter (Region.binds .any)).map (·.on)
def zBS:Nat->List Oper->Bool
 |_,[]=>iZ
 |i,o::os=>((zCr o).all fun m=>decide (m<i))&&zBS (i+1) os
def zBt(an:List (List Nat)):List (List Nat)->List Oper->Bool
 | [],_=>iZ
 |_::_,[]=>ja
 |l::ls,o::os=>(l.all fun k=>(zCr o).contains k||(zCr o).any fun m=>(an.getD m []).contains k)&&zBt an ls os
def zAs(Xs:List Stp):Nat->List (List Nat)->List Stp->Bool
 |_,_,[]=>iZ
 |j,an,Y::Ys=>((J8 j).all fun i=>(an.headD []).contains i||match Xs[i]? with
   |some X=>X.apart Y
   |none=>iZ)&&zAs Xs (j+1) an.tail Ys
theorem zH6:∀(os:List Oper)(i0 j:Nat)(o:Oper),zBS i0 os=iZ->os[j]? =iW o-> ∀m∈zCr o,m<i0+j
 | [],_,j,_,_,h=>by simp at h
 |x::os,i0,j,o,hf,h=>by
  simp only[zBS,J3]at hf;cases j with
  |zero=>
   grind
  |succ j=>
   intro m hm;have:=zH6 os (i0+1) j o hf.2 (by grind) m hm;omega
theorem zKU(an:List (List Nat)):∀(ls:List (List Nat))(os:List Oper)(j:Nat)(l:List Nat),zBt an ls os=iZ->ls[j]? =iW l-> ∃o,os[j]? =iW o/\ ∀k∈l,k∈zCr o\/ ∃m∈zCr o,k∈an.getD m []
 | [],_,j,_,_,h=>by simp at h
 |_::_,[],_,_,h,_=>by grind[zBt]
 |x::ls,o::os,j,l,ha,h=>by
  simp only[zBt,J3]at ha;cases j with
  |zero=>
   simp_all
  |succ j=>
   obtain⟨o',h1,h2⟩:=zKU an ls os j l ha.2 (by grind)
   grind
theorem zGq(Xs:List Stp):∀(Ys:List Stp)(j0:Nat)(an:List (List Nat))(j:Nat)(Y:Stp),zAs Xs j0 an Ys=iZ->Ys[j]? =iW Y-> ∀i X,i<j0+j->Xs[i]? =iW X->i∈an.getD j []\/X.apart Y=iZ
 | [],_,_,j,_,_,h=>by simp at h
 |Z::Ys,j0,an,j,Y,hp,h=>by
  simp only[zAs,J3]at hp;intro i X hi hX;cases j with
  |zero=>
   simp at h;subst h;have:=Ka.1 hp.1 i (by grind);simp only[hX,Bool.or_eq_true,H3,decide_eq_true_eq]at this;rcases this with h|h
   ·left
    cases an with
    |nil=>simp at h
    |cons l an=>grind
   grind
  |succ j=>
   rcases zGq Xs Ys (j0+1) an.tail j Y hp.2 (by grind) i X (by omega) hX with h|h
   all_goals grind
section
variable {P:Program}{Γ:Ctx}{pn:kT}{ops:Array Oper}
def zTs(ops:Array Oper)(L:List Bool):Prop:=∀(i:Nat)(o:Oper),ops[i]? =iW o->L[i]? =iW iZ-> ∀m∈zCr o,L[m]? =iW iZ
theorem zIp{L:List Bool}{an:List (List Nat)}(hf:zBS 0 ops.toList=iZ)(ha:zBt an an ops.toList=iZ)(hc:zTs ops L):
  ∀(n i:Nat),i<=n-> ∀o,ops[i]? =iW o->(∀m∈zCr o,L[m]? =iW iZ)-> ∀k∈an.getD i [],L[k]? =iW iZ:=by
 intro n
 induction n with
 |zero=>
  intro i hi o ho hp k hk;have iy:i=0:=by omega
  subst iy;cases hl:an[0]? with
  |none=>grind
  |some l=>
   obtain⟨o',h1,h2⟩:=zKU an an ops.toList 0 l ha hl;rw[Ks,ho]at h1;simp at h1;subst h1;simp only[Jav,hl,Gp]at hk;rcases h2 k hk with h|⟨m,h,_⟩
   ·grind
   ·have:=zH6 ops.toList 0 0 o hf (by grind) m h
    omega
 |succ n ih=>
  intro i hi o ho hp k hk;cases hl:an[i]? with
  |none=>grind
  |some l=>
   obtain⟨o',h1,h2⟩:=zKU an an ops.toList i l ha hl;rw[Ks,ho]at h1;simp at h1;subst h1;simp only[Jav,hl,Gp]at hk;rcases h2 k hk with h|⟨m,h,hkm⟩
   ·grind
   ·have gJ:=zH6 ops.toList 0 i o hf (by grind) m h
    have hLm:=hp m h;cases di:ops[m]? with
    |none=>
     grind
    |some om=>exact ih m (by omega) om di (hc m om di hLm) k hkm
theorem zJV{L:List Bool}{Xs:List Stp}{i:Nat}{b:Bool}{X:Stp}(hL:L[i]? =iW b)(hX:Xs[i]? =iW X):L.zip Xs=(L.take i).zip (Xs.take i)++(b,X)::(L.drop (i+1)).zip (Xs.drop (i+1)):=by
 have h1:L=L.take i++b::L.drop (i+1):=by obtain⟨h,rfl⟩:=Jm.1 hL;simp
 have h2:Xs=Xs.take i++X::Xs.drop (i+1):=by obtain⟨h,rfl⟩:=Jm.1 hX;simp
 grind[List.zip_cons_cons]
theorem zKV{L:List Bool}{Xs:List Stp}{y:Bool×Stp}(h:y∈L.zip Xs):∃j:Nat,L[j]? =iW y.1/\Xs[j]? =iW y.2:=by grind[Uz,List.getElem?_zip_eq_some]
def qH:Env->List Stp->Prop
 |_,[]=>True
 |E,X::Xs=>E.Has X.rd/\qH (E.apps X.l) Xs
theorem qH.get:∀(Xs:List Stp)(E:Env),qH E Xs-> ∀(i:Nat)(X:Stp),Xs[i]? =iW X->(runD E ((Xs.take i).map fun y=>(iZ,y))).Has X.rd
 | [],_,_,i,_,h=>by simp at h
 |Y::Xs,E,hh,i,X,h=>by
  cases i with
  |zero=>simp at h;subst h;simpa[runD]using hh.1
  |succ i=>
   have:=qH.get Xs _ hh.2 i X (by grind)
   grind[runD]
theorem Stp.apart_spec{a b:Stp}(h:a.apart b=iZ):zGn a.l b.l=iZ/\(∀s∈a.slots,s∉b.rd.map (·.1))/\(∀s∈b.slots,s∉a.rd.map (·.1))/\ ∀x∈a.rd,∀y∈b.l,x.2.okB y.2=iZ:=by simp only[Stp.apart,J3]at h;refine⟨h.1.1.1,by grind[zIn],by grind[zIn],fun x hx y hy=>?_⟩;exact Ka.1 (Ka.1 h.2 x hx) y hy
mutual
theorem zPW:(t:T)->t.okB []=iZ
 |.same _ _|.addr _ _|.sub _ _ _ _ _=>by rfl
 |.agg xs|.tup xs=>by simp only[T.okB];exact zMw xs
 |.any|.lit _|.ro _|.sl _ _|.ptr _=>by rfl
theorem zMw:(xs:List T)->zLU [] xs=iZ
 | []=>by rfl
 |x::xs=>by simp only[zLU,zPW x,zMw xs,Lh]
end
theorem Rep.heap{E:Env}{G:Gh}{tmps:Array Value}{w w':World}(h:Rep Γ E G tmps w)(hw:w'.heap=w.heap)(ho:w'.os=w.os:=by rfl)(hq:w'.output=w.output:=by rfl):Rep Γ E G tmps w' where
 size:=h.size
 ent s t hs:=Ent.keep (chg:=[]) ⟨fun _ _ _=>rfl,fun _ _ _=>rfl,by grind[yL,World.cell?],fun _ _ _ h _=>h,fun b cs e h=>⟨cs,by grind,rfl⟩⟩ (by simp) (zPW t) (h.ent s t hs)
 mem:=by
  have hm:=h.mem;exact⟨hm.one,fun b o l hl=>by have:=hm.lb b o l hl;exact⟨by rw[hw];exact this.1,this.2⟩,fun b l hl=>by have:=hm.ow b l hl;exact⟨by rw[hw];exact this.1,this.2⟩,
   fun b x hx=>by rw[hw];exact hm.st b x hx,fun b h1 h2=>by rw[hw];exact hm.fr b h1 h2,by rw[hw];exact hm.sz,hm.bk.trans (fun b cs e hb=>⟨cs,by grind,rfl⟩) ho hq⟩
end
abbrev I(n:Int):T:=.lit (.int .i64 n)
abbrev B(b:Bool):T:=.lit (.bool b)
abbrev L{α:Type}(k:Nat)(f:α->T)(xs:List α):T:=.sl k (xs.map f)
theorem zP{P:Program}{t:TypeId}{ti:TypeInfo}(h:P.types[t]? =iW ti):P.info? t=iW ti:=by grind[Tables.info?]
def Ok(P:Program)(Γ:Ctx)(o:Oper)(E E':Env):Prop:=∀S,wD P (Γ.at S) o E E'
section
variable {P:Program}{Γ:Ctx}{pn:kT}{ops:Array Oper}{o:Oper}{os:List Oper}{E E':Env}{Q:Exit->Env->Prop}{d:Nat}
theorem RW.op(h:Ok P Γ o E E')(k:RW P Γ pn ops os E' Q)(hg:o.guard=iY:=by rfl)(hp:pn.ok o.dst=iZ:=by rfl):RW P Γ pn ops (o::os) E Q:=RW.cons (yX.op h hg) k hp
def neD(x:Operand)(d:Nat):Bool:=match x with
 |.tmp s=>s != d
 |_=>iZ
theorem zFz{x:Operand}{d:Nat}(h:neD x d=iZ):∀s,x=.tmp s->s≠d:=by rintro s rfl;grind[neD]
theorem zCs{t:T}(h:t.okTup=iZ):∀xs,t≠.tup xs:=by rintro xs rfl;grind[T.okTup]
abbrev mvB(Γ:Ctx)(x:Operand)(t:T)(d:Nat):Bool:=J4 d Γ.N&&t.okTup&&neD x d&&T.okB [(d,0)] (tF x t)
section
variable {x y:Operand}{t:T}{ty:TypeId}{ps:String}{af:Array Edge}{gd:Option (Nat×Bool)}
theorem yF{a b:Nat}(h:J4 a b=iZ):a<b:=by grind[Nat.blt_eq]
theorem zOs(hx:opT E x=iW t)(sd:mvB Γ x t d=iZ):Ok P Γ ⟨iW d,.move x,ty,ps,af,gd⟩ E (E.app [(d,iW (tF x t))] [(d,0)]):=by simp only[mvB,J3]at sd;exact fun S=>zPE x t (.inl rfl) rfl (yF sd.1.1.1) hx (zCs sd.1.1.2) (zFz sd.1.2) sd.2
theorem zXz(hx:opT E x=iW t)(sd:mvB Γ x t d=iZ):Ok P Γ ⟨iW d,.assign x,ty,ps,af,gd⟩ E (E.app [(d,iW (tF x t))] [(d,0)]):=by simp only[mvB,J3]at sd;exact fun S=>zPE x t (.inr rfl) rfl (yF sd.1.1.1) hx (zCs sd.1.1.2) (zFz sd.1.2) sd.2
def inR(n:Int):Bool:=decide (-9223372036854775808<=n)&&decide (n<=9223372036854775807)
theorem zCt{n:Int}(h:inR n=iZ):IntKind.i64.wrap n=n:=by
 simp only[inR,J3,decide_eq_true_eq]at h;have hb:IntKind.i64.bits=64:=rfl;have hs:IntKind.i64.signed=iZ:=rfl;simp only[IntKind.wrap,hb,hs,Bool.true_and]
 grind
def rng(n:Int):Option Int:=if inR n then iW n else iY
theorem zD1{n m:Int}(h:rng n=iW m):m=n/\inR n=iZ:=by grind[rng]
theorem zTt{m n c:Int}{xt yt:TypeId}(hv:rng (m+n)=iW c)(hx:opT E x=iW (I m))(hy:opT E y=iW (I n))(sd:J4 d Γ.N=iZ):Ok P Γ ⟨iW d,.binOp .add xt x y yt,ty,ps,af,gd⟩ E (E.app [(d,iW (I c))] [(d,0)]):=by obtain⟨rfl,h⟩:=zD1 hv;exact fun S=>uL .add xt yt x y .i64 m n _ rfl rfl (yF sd) hx hy (by grind[zKF,zCt])
theorem zZA{m n:Int}{xt yt:TypeId}(hx:opT E x=iW (I m))(hy:opT E y=iW (I n))(sd:J4 d Γ.N=iZ):Ok P Γ ⟨iW d,.binOp .lss xt x y yt,ty,ps,af,gd⟩ E (E.app [(d,iW (B (decide (m<n))))] [(d,0)]):=
 fun _S=>uL .lss xt yt x y .i64 m n _ rfl rfl (yF sd) hx hy rfl
theorem zJW(k:Nat)(sd:J4 d Γ.N=iZ):Ok P Γ ⟨iW d,.assign (.const (.slice iY 0 0)),ty,ps,af,gd⟩ E (E.app [(d,iW (.sl k []))] [(d,0)]):=
 fun _=>zMb k _ (.inr rfl) rfl rfl (yF sd)
def yD(n:Int):Option Nat:=if 0<=n/\n<=68719476736 then iW n.toNat else iY
theorem zIq{n:Int}{m:Nat}(h:yD n=iW m):n=(m:Int)/\m<=68719476736:=by grind[yD]
class ElT (P:Program) (t:TypeId) (e:outParam TypeId) (ti:outParam TypeInfo) (k:outParam Nat) (u:outParam T):Prop where
 un:P.underlying t=iW (.slice e)
 info:P.info? e=iW ti
 zero:∃z,ti.zero=iW z/\sP u=z.cells.toList
 size:ti.size=k
 pos:0<k
 zok:u.zOk=iZ
 us:u.size=k
 bytes:ti.bytes<=2048
theorem yA5{t e:TypeId}{ti:TypeInfo}{k:Nat}{u:T}{n m:Nat}{a b:Int}(ht:ElT P t e ti k u)(hn:yD a=iW n)(hx:opT E x=iW (I a))(hm:yD b=iW m)(hy:opT E y=iW (I b))(cU:n<=m)(sd:J4 d Γ.N=iZ):
  Ok P Γ ⟨iW d,.makeSlice t x y,ty,ps,af,gd⟩ E (E.app [(d,iW (.sl k (J1 n u)))] [(d,0)]):=by
 obtain⟨rfl,h1⟩:=zIq hn;obtain⟨rfl,h2⟩:=zIq hm;obtain⟨z,hz,hv⟩:=ht.zero;exact fun S=>zXt t e ti z u k x y n m .i64 .i64 rfl rfl (yF sd) ht.un ht.info hz ht.size ht.pos ht.zok hv ht.us (Hs ht.bytes (by decide)) hx hy cU h2
end
end
def ixO{α:Type}(xs:List α)(i:Int):Option α:=if 0<=i then xs[i.toNat]? else iY
theorem tK{α:Type}{xs:List α}{i:Int}{v:α}(h:ixO xs i=iW v):0<=i/\xs[i.toNat]? =iW v:=by grind[ixO]
def zBu:T->Bool
 |.same _ _=>ja
 |_=>iZ
theorem zCu{E:Env}{s r:Nat}{q:List Nat}{t u:T}(h1:E s=iW (.same r q))(h2:E r=iW t)(h3:t.get q.reverse=iW u)(h4:zBu u=iZ):tT E (.tmp s)=iW (r,q,u):=by
 have hg:∀t:T,t.get []=iW t:=fun t=>by rfl
 grind[zBu,tT,jY]
theorem zBN{E:Env}{s:Nat}{t:T}(h1:E s=iW t)(h4:zBu t=iZ):tT E (.tmp s)=iW (s,[],t):=by
 have hg:∀t:T,t.get []=iW t:=fun t=>by rfl
 grind[zBu,tT,jY]
section
variable {P:Program}{Γ:Ctx}{E:Env}{d:Nat}{x y:Operand}{ty:TypeId}{ps:String}{af:Array Edge}{gd:Option (Nat×Bool)}
class zCv (P:Program) (t:TypeId) (e:outParam TypeId) (ti:outParam TypeInfo) (k:outParam Nat):Prop where
 un:P.underlying t=iW (.slice e)
 info:P.info? e=iW ti
 size:ti.size=k
theorem yC9{α:Type}{t e:TypeId}{ti:TypeInfo}{r k:Nat}{q:List Nat}{f:α->T}{xs:List α}{v:α}{i:Int}(ht:zCv P t e ti k)(hv:ixO xs i=iW v)(hx:tT E x=iW (r,q,L k f xs))(hy:opT E y=iW (I i))(sd:J4 d Γ.N=iZ):
  Ok P Γ ⟨iW d,.indexAddr t x y,ty,ps,af,gd⟩ E (E.app [(d,iW (.addr r (i.toNat::q)))] [(d,0)]):=by
 obtain⟨h1,h2⟩:=tK hv;exact fun S=>zZ5 x y t e ti r q k _ .i64 i rfl rfl (yF sd) ht.un ht.info ht.size hx hy h1 (by grind)
theorem zZB{α:Type}{t e:TypeId}{ti:TypeInfo}{r k:Nat}{q:List Nat}{f:α->T}{xs:List α}{v:α}{i:Int}(ht:zCv P t e ti k)(hv:ixO xs i=iW v)(hx:tT E x=iW (r,q,.ro (L k f xs)))(hy:opT E y=iW (I i))(sd:J4 d Γ.N=iZ):
  Ok P Γ ⟨iW d,.indexAddr t x y,ty,ps,af,gd⟩ E (E.app [(d,iW (.ro (.ptr (f v))))] [(d,0)]):=by
 obtain⟨h1,h2⟩:=tK hv;exact fun S=>zSQ x y t e ti r q k _ .i64 i _ rfl rfl (yF sd) ht.un ht.info ht.size hx hy h1 (by simp[h2])
theorem zZC{α:Type}{t e:TypeId}{r k:Nat}{q:List Nat}{f:α->T}{xs:List α}(hu:P.underlying t=iW (.slice e))(hx:tT E x=iW (r,q,L k f xs))(sd:J4 d Γ.N=iZ):
  Ok P Γ ⟨iW d,.call { callee:=.builtin .len,args:=#[x],argTypes:=#[t] },ty,ps,af,gd⟩ E (E.app [(d,iW (I xs.length))] [(d,0)]):=
 fun _=>zSP x t _ r q (L k f xs) xs.length rfl rfl (yF sd) hu hx (by simp[zLV]) rfl
theorem zTu{α:Type}{t e:TypeId}{r k:Nat}{q:List Nat}{f:α->T}{xs:List α}(hu:P.underlying t=iW (.slice e))(hx:tT E x=iW (r,q,.ro (L k f xs)))(sd:J4 d Γ.N=iZ):
  Ok P Γ ⟨iW d,.call { callee:=.builtin .len,args:=#[x],argTypes:=#[t] },ty,ps,af,gd⟩ E (E.app [(d,iW (I xs.length))] [(d,0)]):=
 fun _=>zSP x t _ r q (.ro (L k f xs)) xs.length rfl rfl (yF sd) hu hx (by simp[zLV]) rfl
structure zX0 (P:Program) (t:TypeId) (u:T):Prop where
 h:∃ds ti,P.underlying t=iW ds/\P.info? t=iW ti/\zGf ds= !u.single/\ti.size=u.size
theorem yCA{t:TypeId}{u:T}(ht:zX0 P t u)(hx:opT E x=iW (.ro (.ptr u)))(sd:J4 d Γ.N=iZ):Ok P Γ ⟨iW d,.load t x,ty,ps,af,gd⟩ E (E.app [(d,iW (roT u))] [(d,0)]):=by obtain⟨ds,ti,h1,h2,h3,h4⟩:=ht.h;exact fun S=>zOl x t ds ti u rfl rfl (yF sd) h1 h2 h3 h4 hx
theorem yCB{t:TypeId}{u tr:T}{r:Nat}{q:List Nat}(ht:zX0 P t u)(hx:opT E x=iW (.addr r q))(hr:E r=iW tr)(hg:tr.get q.reverse=iW u)(sd:(J4 d Γ.N&&tr.locd q.reverse&&(r != d)&&T.okB [(d,0)] (cpT r u q))=iZ):
  Ok P Γ ⟨iW d,.load t x,ty,ps,af,gd⟩ E (E.app [(d,iW (cpT r u q))] [(d,0)]):=by
 obtain⟨ds,ti,h1,h2,h3,h4⟩:=ht.h;simp only[J3]at sd;exact fun S=>zXs x t ds ti r q tr u rfl rfl (yF sd.1.1.1) h1 h2 h3 h4 hx hr hg sd.1.1.2 (by grind) sd.2
end
section
variable {P:Program}{Γ:Ctx}{E:Env}{x:Operand}{ty:TypeId}{ps:String}{af:Array Edge}{gd:Option (Nat×Bool)}
theorem yCC{t:TypeId}{ti:TypeInfo}{r:Nat}{q:List Nat}{tr tr' u0:T}{v:Value}(hi:P.info? t=iW ti)(gE:ti.size=1)(hx:opT E x=iW (.addr r q))(hr:E r=iW tr)(hg:tr.get q.reverse=iW u0)(gC:tr.set q.reverse (.lit v)=tr')
  (sd:(tr.single&&tr.locd q.reverse&&vZ (.lit v) u0&&(T.lit v).zOk)=iZ)(hz:sP (.lit v)=v.cells.toList):Ok P Γ ⟨iY,.store t x (.const v),ty,ps,af,gd⟩ E (E.app [(r,iW tr')] [(r,q.length)]):=by
 simp only[J3]at sd;subst gC;intro S;have:=zTc (P:=P) (Γ:=Γ.at S) (E:=E) (o:=⟨iY,.store t x (.const v),ty,ps,af,gd⟩) t ti x (.const v) r q tr u0 (.zero (.lit v)) rfl rfl hi (by rw[gE];rfl) (by omega) hx hr sd.1.1.1 hg sd.1.1.2 sd.1.2 (.zero v _ hz)
  ⟨by simp,by grind,by simp[xP]⟩
 exact this
end
theorem zR.tr{Γ:Ctx}{E:Env}(d r:Nat)(u:T)(hd:E d=iW (.same r []))(hr:E r=iW u)(fp:yA u)(sd:(u.single&&wH u&&u.okB [(d,1),(r,1)]&&(d != r))=iZ):
  zR Γ E (E.app [(d,iW u),(r,iW (.same d []))] [(d,1),(r,1)]):=by
 simp only[J3]at sd
 rintro a w ⟨S,hS,hs⟩
 have gk:d≠r:=by grind
 have hg:∀t:T,t.get []=iW t:=fun t=>by rfl
 have:=zOp hs d [] r [] (.same r []) u u hd rfl hr (hg u) sd.1.1.1 fp gk (by simp[T.okB,zBl]) sd.1.2 rfl sd.1.1.2;exact⟨S,hS,this⟩
theorem zEQ{α:Type}{f:α->T}(hf:∀x,yA (f x)):(xs:List α)->yZ (xs.map f)
 | []=>trivial
 |x::xs=>⟨hf x,zEQ hf xs⟩
theorem zPX{α:Type}{f:α->T}{k:Nat}{xs:List α}(hf:∀x,yA (f x)):yA (L k f xs):=by simp only[yA,yS];grind[zEQ]
theorem zPY(n:Int):yA (I n):=by simp[yA,yS]
theorem zX1(b:Bool):yA (B b):=by simp[yA,yS]
section
variable {P:Program}{Γ:Ctx}{E:Env}{d:Nat}{x y:Operand}{ty:TypeId}{ps:String}{af:Array Edge}{gd:Option (Nat×Bool)}{m n c:Int}{xt yt:TypeId}
theorem zZD(hv:rng (m-n)=iW c)(hx:opT E x=iW (I m))(hy:opT E y=iW (I n))(sd:J4 d Γ.N=iZ):Ok P Γ ⟨iW d,.binOp .sub xt x y yt,ty,ps,af,gd⟩ E (E.app [(d,iW (I c))] [(d,0)]):=by obtain⟨rfl,h⟩:=zD1 hv;exact fun _=>uL .sub xt yt x y .i64 m n _ rfl rfl (yF sd) hx hy (by grind[zKF,zCt])
theorem yCD(hv:rng (m*n)=iW c)(hx:opT E x=iW (I m))(hy:opT E y=iW (I n))(sd:J4 d Γ.N=iZ):Ok P Γ ⟨iW d,.binOp .mul xt x y yt,ty,ps,af,gd⟩ E (E.app [(d,iW (I c))] [(d,0)]):=by obtain⟨rfl,h⟩:=zD1 hv;exact fun _=>uL .mul xt yt x y .i64 m n _ rfl rfl (yF sd) hx hy (by grind[zKF,zCt])
def xV(m n:Int):Option Int:=if n=0 then iY else rng (m.tdiv n)
def xC(m n:Int):Option Int:=if n=0 then iY else iW (m.tmod n)
theorem yCE(hv:xV m n=iW c)(hx:opT E x=iW (I m))(hy:opT E y=iW (I n))(sd:J4 d Γ.N=iZ):Ok P Γ ⟨iW d,.binOp .quo xt x y yt,ty,ps,af,gd⟩ E (E.app [(d,iW (I c))] [(d,0)]):=by
 unfold xV at hv;split at hv
 ·cases hv
 ·rename_i h0
  obtain⟨rfl,h⟩:=zD1 hv;exact fun _=>uL .quo xt yt x y .i64 m n _ rfl rfl (yF sd) hx hy (by simp only[zKF,h0,if_false,zCt h])
theorem yCF(hv:xC m n=iW c)(hx:opT E x=iW (I m))(hy:opT E y=iW (I n))(sd:J4 d Γ.N=iZ):Ok P Γ ⟨iW d,.binOp .rem xt x y yt,ty,ps,af,gd⟩ E (E.app [(d,iW (I c))] [(d,0)]):=by
 unfold xC at hv;split at hv
 ·cases hv
 ·rename_i h0
  simp at hv;subst hv;exact fun _=>uL .rem xt yt x y .i64 m n _ rfl rfl (yF sd) hx hy (by simp only[zKF,h0,if_false])
theorem yCG(hx:opT E x=iW (I m))(hy:opT E y=iW (I n))(sd:J4 d Γ.N=iZ):Ok P Γ ⟨iW d,.binOp .leq xt x y yt,ty,ps,af,gd⟩ E (E.app [(d,iW (B (decide (m<=n))))] [(d,0)]):=
 fun _=>uL .leq xt yt x y .i64 m n _ rfl rfl (yF sd) hx hy rfl
theorem zZE(hx:opT E x=iW (I m))(hy:opT E y=iW (I n))(sd:J4 d Γ.N=iZ):Ok P Γ ⟨iW d,.binOp .gtr xt x y yt,ty,ps,af,gd⟩ E (E.app [(d,iW (B (decide (m> n))))] [(d,0)]):=
 fun _=>uL .gtr xt yt x y .i64 m n _ rfl rfl (yF sd) hx hy rfl
theorem yCH(hx:opT E x=iW (I m))(hy:opT E y=iW (I n))(sd:J4 d Γ.N=iZ):Ok P Γ ⟨iW d,.binOp .geq xt x y yt,ty,ps,af,gd⟩ E (E.app [(d,iW (B (decide (m>=n))))] [(d,0)]):=
 fun _=>uL .geq xt yt x y .i64 m n _ rfl rfl (yF sd) hx hy rfl
theorem yCI(hx:opT E x=iW (I m))(hy:opT E y=iW (I n))(sd:J4 d Γ.N=iZ):Ok P Γ ⟨iW d,.binOp .eql xt x y yt,ty,ps,af,gd⟩ E (E.app [(d,iW (B (m==n)))] [(d,0)]):=
 fun _=>uL .eql xt yt x y .i64 m n _ rfl rfl (yF sd) hx hy rfl
theorem zTv(hx:opT E x=iW (I m))(hy:opT E y=iW (I n))(sd:J4 d Γ.N=iZ):Ok P Γ ⟨iW d,.binOp .neq xt x y yt,ty,ps,af,gd⟩ E (E.app [(d,iW (B (m != n)))] [(d,0)]):=
 fun _=>uL .neq xt yt x y .i64 m n _ rfl rfl (yF sd) hx hy rfl
theorem zCw{b:Bool}(hx:opT E x=iW (B b))(sd:J4 d Γ.N=iZ):Ok P Γ ⟨iW d,.unOp .not xt x,ty,ps,af,gd⟩ E (E.app [(d,iW (B (!b)))] [(d,0)]):=
 fun _=>yA0 xt x b rfl rfl (yF sd) hx
theorem zZF(hv:rng (0-n)=iW c)(hx:opT E x=iW (I n))(sd:J4 d Γ.N=iZ):Ok P Γ ⟨iW d,.unOp .neg xt x,ty,ps,af,gd⟩ E (E.app [(d,iW (I c))] [(d,0)]):=by
 obtain⟨rfl,h⟩:=zD1 hv;have:=fun S=>yA1 (P:=P) (Γ:=Γ.at S) (E:=E) (o:=⟨iW d,.unOp .neg xt x,ty,ps,af,gd⟩) xt x .i64 n rfl rfl (yF sd) hx
 rw[zCt h]at this;exact this
end
section
variable {P:Program}{Γ:Ctx}{E:Env}{d:Nat}{x y:Operand}{ty:TypeId}{ps:String}{af:Array Edge}{gd:Option (Nat×Bool)}
class zKW (P:Program) (t:TypeId) (u:outParam T):Prop where
 h:∃ti z,P.info? t=iW ti/\ti.zero=iW z/\u.zOk=iZ/\sP u=z.cells.toList/\z.cells.size=u.size
theorem zPZ{t:TypeId}{u:T}(ht:zKW P t u)(sd:J4 d Γ.N=iZ):Ok P Γ ⟨iW d,.alloc t,ty,ps,af,gd⟩ E (E.app [(d,iW (.ptr u))] [(d,0)]):=by obtain⟨ti,z,h1,h2,h3,h4,h5⟩:=ht.h;exact fun S=>zSZ t ti z u rfl rfl (yF sd) h1 h2 h3 h4 h5
theorem zZG{s i:Nat}{ts:List T}{t:T}(hs:E s=iW (.tup ts))(hi:ts[i]? =iW t)(sd:(J4 d Γ.N&&t.okTup&&(s != d)&&T.okB [(d,0)] (cpT s t [i]))=iZ):
  Ok P Γ ⟨iW d,.extract (.tmp s) i,ty,ps,af,gd⟩ E (E.app [(d,iW (cpT s t [i]))] [(d,0)]):=by
 simp only[J3]at sd;exact fun S=>zOm s i ts t rfl rfl (yF sd.1.1.1) hs hi (zCs sd.1.1.2) (by grind) sd.2
theorem zB8{t:T}(hx:opT E x=iW t)(hp:zGY E x=iZ)(sd:mvB Γ x t d=iZ):Ok P Γ ⟨iW d,.nilCheck x,ty,ps,af,gd⟩ E (E.app [(d,iW (tF x t))] [(d,0)]):=by simp only[mvB,J3]at sd;exact fun S=>yA2 x t rfl rfl (yF sd.1.1.1) hx hp (zCs sd.1.1.2) (zFz sd.1.2) sd.2
theorem zOt{c:Operand}{b:Bool}{t:T}(hc:opT E c=iW (B b))(hx:opT E (if b then x else y)=iW t)(sd:mvB Γ (if b then x else y) t d=iZ):Ok P Γ ⟨iW d,.pick c x y,ty,ps,af,gd⟩ E (E.app [(d,iW (tF (if b then x else y) t))] [(d,0)]):=by simp only[mvB,J3]at sd;exact fun S=>zXq c x y b t rfl rfl (yF sd.1.1.1) hc hx (zCs sd.1.1.2) (zFz sd.1.2) sd.2
theorem zZH{t:TypeId}{s:Nat}{u:T}(hs:E s=iW u)(hu:yA u)(sd:(J4 d Γ.N&&u.okTup&&(s != d))=iZ):
  Ok P Γ ⟨iW d,.box t (.tmp s),ty,ps,af,gd⟩ E (E.app ((d,iW (.ptr u))::pWr d [.slot s u] 0) ((d,0)::qA [.slot s u])):=by
 simp only[J3]at sd;have gk:s≠d:=by grind
 refine fun S=>yA4 t (.tmp s) (.slot s u) rfl rfl (yF sd.1.1) (.slot s u) ⟨by grind,by simp,?_⟩
 simp only[xP]
 grind
end
def yE{α:Type}(xs ys:List α):Option (List α):=if xs.length+ys.length<=68719476736 then iW (xs++ys)else iY
theorem zGr{α:Type}{xs ys zs:List α}(h:yE xs ys=iW zs):zs=xs++ys/\xs.length+ys.length<=68719476736:=by grind[yE]
section
variable {P:Program}{Γ:Ctx}{E:Env}{d:Nat}{x y:Operand}{ty:TypeId}{ps:String}{af:Array Edge}{gd:Option (Nat×Bool)}
theorem ElT.zsize{t e:TypeId}{ti:TypeInfo}{k:Nat}{u:T}(h:ElT P t e ti k u):∃z,ti.zero=iW z/\z.cells.size=k:=by obtain⟨z,h1,h2⟩:=h.zero;exact⟨z,h1,by rw[<-Kh,<-h2,vR u h.zok,h.us]⟩
theorem yA6{α:Type}{t e:TypeId}{ti:TypeInfo}{k:Nat}{u:T}{f:α->T}{xs ys zs:List α}{s0 s1:Nat}(ht:ElT P t e ti k u)(hv:yE xs ys=iW zs)(h0:E s0=iW (L k f xs))(h1:E s1=iW (L k f ys))(sd:(J4 d Γ.N&&(s0 != d)&&(s1 != d)&&(s1 != s0))=iZ):
  Ok P Γ ⟨iW d,.call { callee:=.builtin .append,args:=#[.tmp s0,.tmp s1],argTypes:=#[t,t] },ty,ps,af,gd⟩ E (E.app [(d,iW (L k f zs)),(s0,iW .any),(s1,iW .any)] [(d,0),(s0,1),(s1,1)]):=by
 obtain⟨rfl,hl⟩:=zGr hv;obtain⟨z,hz,fR⟩:=ht.zsize;simp only[J3]at sd;intro S;have:=zKO (P:=P) (Γ:=Γ.at S) (E:=E) (o:=⟨iW d,.call { callee:=.builtin .append,args:=#[.tmp s0,.tmp s1],argTypes:=#[t,t] },ty,ps,af,gd⟩) t e ti z k s0 s1 (xs.map f) (ys.map f) rfl rfl (yF sd.1.1.1) ht.un ht.info hz ht.size ht.pos fR ht.bytes h0 h1
  (by grind) (by grind) (by grind) (by grind)
 rw[<-Lu]at this;exact this
theorem zJX{α:Type}{f:α->T}(hf:∀x,(f x).flat=iZ):(xs:List α)->zBm (xs.map f)=iZ
 | []=>rfl
 |x::xs=>by simp only[Js,zBm,hf x,zJX hf xs,Lh]
theorem yA7{α:Type}{t e:TypeId}{ti:TypeInfo}{k r:Nat}{q:List Nat}{u:T}{f:α->T}{xs ys zs:List α}{s0:Nat}(ht:ElT P t e ti k u)(hf:∀x,(f x).flat=iZ)(hv:yE xs ys=iW zs)(h0:E s0=iW (L k f xs))(h1:tT E y=iW (r,q,L k f ys))(sd:(J4 d Γ.N&&(s0 != d))=iZ):
  Ok P Γ ⟨iW d,.call { callee:=.builtin .append,args:=#[.tmp s0,y],argTypes:=#[t,t] },ty,ps,af,gd⟩ E (E.app [(d,iW (L k f zs)),(s0,iW .any)] [(d,0),(s0,1)]):=by
 obtain⟨rfl,hl⟩:=zGr hv;obtain⟨z,hz,fR⟩:=ht.zsize;simp only[J3]at sd;intro S;have:=zKP (P:=P) (Γ:=Γ.at S) (E:=E) (o:=⟨iW d,.call { callee:=.builtin .append,args:=#[.tmp s0,y],argTypes:=#[t,t] },ty,ps,af,gd⟩) t e ti z k s0 y r q (xs.map f) (ys.map f) rfl rfl (yF sd.1) ht.un ht.info hz ht.size ht.pos fR ht.bytes h0 h1 (zJX hf ys)
  (by grind) (by grind)
 rw[<-Lu]at this;exact this
end
abbrev IK(k:IntKind)(n:Int):T:=.lit (.int k n)
abbrev Str(s:ByteArray):T:=.lit (.string s)
abbrev Pt{α:Type}(f:α->T)(x:α):T:=.ptr (f x)
abbrev Ro{α:Type}(f:α->T)(x:α):T:=.ro (f x)
abbrev A2{α:Type}(f:α->T)(x:α×α):T:=.agg [f x.1,f x.2]
theorem bd{α β:Type}{o:Option α}{f:α->Option β}{r:β}(h:o.bind f=iW r):∃v,o=iW v/\f v=iW r:=by
 cases o with
 |none=>simp at h
 |some v=>grind
theorem cT{α:Type}{b:Bool}{x y:α}{z:α}(hc:b=iZ)(h:cond b x y=z):x=z:=by grind
theorem cF{α:Type}{b:Bool}{x y:α}{z:α}(hc:b=ja)(h:cond b x y=z):y=z:=by grind
theorem sI{α:Type}{x y:α}(h:iW x=iW y):x=y:=Kt.inj h
section
variable {P:Program}{Γ:Ctx}{pn:kT}{E E':Env}{Q:Exit->Env->Prop}{c:Code}{id id':Nat}
theorem nA(h:CW P Γ pn c E Q):yB P Γ pn c Q .normal E:=h
theorem xA(h:Q (.exit id) E):yB P Γ pn c Q (.exit id) E:=h
theorem rA(h:Q .ret E):yB P Γ pn c Q .ret E:=h
theorem nB(h:Q .normal E):yI id Q .normal E:=h
theorem rB(h:Q .ret E):yI id Q .ret E:=h
theorem xB(h:Q .normal E):yI id Q (.exit id) E:=by simp only[yI,if_true];exact h
theorem neX:Exit.exit id≠.normal:=by simp
theorem neR:Exit.ret≠.normal:=by simp
theorem RW.cases{ops:Array Oper}{os:List Oper}(s:Nat)(b:Bool)(hb:E s=iW (B b))(ht:b=iZ->RW P Γ pn ops os (E.app [(s,iW (B iZ))] []) Q)(hf:b=ja->RW P Γ pn ops os (E.app [(s,iW (B ja))] []) Q):RW P Γ pn ops os E Q:=by
 have key:∀c:Bool,b=c->zR Γ E (E.app [(s,iW (B c))] []):=by
  rintro c rfl a w hs
  refine hs.weaken fun s' t h=>?_
  by_cases e:s=s'
  ·grind[Env.app,Wr.find]
  ·simp only[Env.app,Wr.find,e,if_false]at h
   grind
 cases hc:b with
 |true=>grind[ghost]
 |false=>grind[ghost]
end
theorem zZ{α:Type}{k:Nat}{f:α->T}{xs:List α}{i:Int}{v:α}{p:List Nat}{u:T}(h:ixO xs i=iW v)(hr:(f v).get p=iW u):(L k f xs).get (i.toNat::p)=iW u:=by simp[T.get,(tK h).2,hr]
theorem wK{t u:T}{p:List Nat}(h:t.get p=iW u):(T.ptr t).get (0::p)=iW u:=h
theorem wL{xs:List T}{x u:T}{j:Nat}{p:List Nat}(hj:xs[j]? =iW x)(h:x.get p=iW u):(T.agg xs).get (j::p)=iW u:=by grind[T.get]
theorem zHw{α:Type}{k:Nat}{f:α->T}{xs:List α}{i:Int}{v w:α}{p:List Nat}{u:T}(h:ixO xs i=iW v)(hr:(f v).set p u=f w):(L k f xs).set (i.toNat::p) u=L k f (xs.set i.toNat w):=by simp[L,T.set,(tK h).2,hr,Jb3]
theorem zEx{t u t':T}{p:List Nat}(h:t.set p u=t'):(T.ptr t).set (0::p) u=T.ptr t':=by simp[T.set,h]
class Enc {α:Type} (f:α->T):Prop where
 clean:∀x,yA (f x)
 rofree:∀x,vK (f x)=iZ
 strip:∀x,strip (f x)=f x
 okTup:∀x,(f x).okTup=iZ
 rook:∀x,zGk (f x)=iZ
theorem zIr{α:Type}{f:α->T}(h:∀x,vK (f x)=iZ):(xs:List α)->uN (xs.map f)=iZ
 | []=>rfl
 |x::xs=>by simp only[Js,uN,h x,zIr h xs,Lh]
theorem zIs{α:Type}{f:α->T}(h:∀x,zGk (f x)=iZ):(xs:List α)->zCo (xs.map f)=iZ
 | []=>rfl
 |x::xs=>by simp only[Js,zCo,h x,zIs h xs,Lh]
theorem tL{α:Type}{f g:α->T}(h:∀x,strip (f x)=g x):(xs:List α)->wU (xs.map f)=xs.map g
 | []=>rfl
 |x::xs=>by simp only[Js,wU,h x,tL h xs]
instance:Enc I:=⟨zPY,fun _=>rfl,fun _=>rfl,fun _=>rfl,fun _=>rfl⟩
instance:Enc B:=⟨zX1,fun _=>rfl,fun _=>rfl,fun _=>rfl,fun _=>rfl⟩
instance{k:IntKind}:Enc (IK k):=⟨fun _=>by simp[yA,yS],fun _=>rfl,fun _=>rfl,fun _=>rfl,fun _=>rfl⟩
instance:Enc Str:=⟨fun _=>by simp[yA,yS],fun _=>rfl,fun _=>rfl,fun _=>rfl,fun _=>rfl⟩
instance{α:Type}{k:Nat}{f:α->T}[h:Enc f]:Enc (L k f):=
 ⟨fun _=>zPX h.clean,fun xs=>by simp only[vK];exact zIr h.rofree xs,fun xs=>by simp only[L,strip,tL h.strip xs],fun _=>rfl,fun xs=>by simp only[zGk,zIs h.rook xs]⟩
instance{α:Type}{f:α->T}[h:Enc f]:Enc (A2 f):=
 ⟨fun x=>by simp only[yA,yS,xN];exact⟨h.clean _,h.clean _,trivial⟩,fun x=>by simp only[vK,uN,h.rofree,Lh],fun x=>by simp only[A2,strip,wU,h.strip],
  fun x=>by simp only[T.okTup,yM,h.okTup,Lh],fun x=>by simp only[zGk,zCo,h.rook,Lh]⟩
instance{α:Type}{f:α->T}[h:Enc f]:Enc (Pt f):=
 ⟨fun x=>by simp only[yA,yS];exact h.clean x,fun x=>by simp only[vK,h.rofree],fun x=>by simp only[Pt,strip,h.strip],fun _=>rfl,fun x=>by simp only[zGk,h.rook]⟩
class uO {α:Type} (f g:α->T):Prop where
 h:∀x,strip (f x)=g x
instance{α:Type}{f:α->T}[h:Enc f]:uO f f:=⟨h.strip⟩
instance{α:Type}{k:Nat}{f g:α->T}[h:uO f g]:uO (L k f) (L k g):=⟨fun xs=>by simp only[L,strip,tL h.h xs]⟩
instance{α:Type}{k:Nat}{g:α->T}:uO (Ro (L k g)) (L k g):=⟨fun _=>rfl⟩
instance{α:Type}{g:α->T}:uO (Ro (Pt g)) (Pt g):=⟨fun _=>rfl⟩
theorem stA{xs ys:List T}(h:wU xs=ys):strip (.agg xs)=.agg ys:=by grind[strip]
theorem stC{x y:T}{xs ys:List T}(h:strip x=y)(h2:wU xs=ys):wU (x::xs)=y::ys:=by grind[wU]
section
variable {E:Env}{rw:Rw}{i s r:Nat}{q:List Nat}{x:Operand}
theorem zR7{α:Type}{k:Nat}{f g:α->T}{xs:List α}(h:uO f g):clo E (L k f xs)=.ro (L k g xs):=by simp only[clo,L,strip,tL h.h xs]
theorem yEB{t u:T}(h:strip t=u):clo E (.ptr t)=.ro (.ptr u):=by grind[clo,strip]
theorem zGs{tr u:T}(hr:E r=iW tr)(hg:tr.get q.reverse=iW u)(h4:zBu u=iZ):jY E 4 r q=iW (r,q,u):=by grind[zBu,jY]
theorem zOu{α:Type}{k:Nat}{f g:α->T}{xs:List α}{tr:T}(hr:E r=iW tr)(hg:tr.get q.reverse=iW (L k f xs))(h:uO f g):clo E (.same r q)=.ro (L k g xs):=by simp only[clo,zGs hr hg rfl,T.single,if_true,L,strip,tL h.h xs]
theorem yA8{α:Type}{k l h:Nat}{f g:α->T}{xs:List α}{tr:T}(hr:E r=iW tr)(hg:tr.get q.reverse=iW (L k f xs))(hs:uO f g)(h1:l<=h)(h2:h<=xs.length):clo E (.sub r q k l h)=.ro (L k g ((xs.drop l).take (h-l))):=by simp only[clo,zGs hr hg rfl,L,tL hs.h xs,Jg,h1,h2,and_self,if_true,Jab,Ue]
theorem yA9{xs ys:List T}(h:zCq E xs=ys):clo E (.agg xs)=.agg ys:=by grind[clo]
theorem yCJ:zCq E []=[]:=rfl
theorem zTw{x y:T}{xs ys:List T}(h:clo E x=y)(h2:zCq E xs=ys):zCq E (x::xs)=y::ys:=by grind[zCq]
mutual
theorem zJY(s:Nat):(t:T)->t.okTup=iZ->qN E [] s t=iZ
 |.agg xs,h=>by simp only[qN,T.okTup]at h ⊢;exact zIt s xs h
 |.tup _,h=>by grind[T.okTup]
 |.same r q,_|.sub r q _ _ _,_=>by grind[qN]
 |.sl _ _,_|.ptr _,_=>by rfl
 |.lit _,_|.ro _,_|.any,_|.addr _ _,_=>by rfl
theorem zIt(s:Nat):(xs:List T)->yM xs=iZ->zB7 E [] s xs=iZ
 | [],_=>rfl
 |x::xs,h=>by simp only[yM,J3]at h;simp only[zB7,zJY s x h.1,zIt s xs h.2,Lh]
end
theorem agC{u:T}(t:T)(h:opT E x=iW t)(h1:clo E t=u)(h2:t.okTup=iZ):zDh E [] i x u:=.inr ⟨t,h,h1,by
 cases x with
 |tmp s=>exact zJY s t h2
 |_=>rfl⟩
end
section
variable {P:Program}{Γ:Ctx}{E:Env}{d:Nat}{x y:Operand}{ty:TypeId}{ps:String}{af:Array Edge}{gd:Option (Nat×Bool)}
abbrev zDi(res:List T):Prop:=yZ res/\yM res=iZ/\uN res=iZ
theorem zER:zDi []:=⟨trivial,rfl,rfl⟩
theorem zGt{α:Type}{f:α->T}{x:α}{ts:List T}(h:Enc f)(h2:zDi ts):zDi (f x::ts):=
 ⟨⟨h.clean x,h2.1⟩,by simp only[yM,h.okTup,h2.2.1,Lh],by simp only[uN,h.rofree,h2.2.2,Lh]⟩
abbrev zB9(P:Program)(f:FuncId):Prop:=∀args w,(callFunc f args).run P w=.ok (.enter f args) w
theorem zBa{f:FuncId}{xs:List Operand}{ats:Array TypeId}{us res:List T}(gx:zB9 P f)(hc:FnC P f us res [])(gp:xZ E [] 0 xs us)(gz:zDi res)(sd:J4 d Γ.N=iZ):
  Ok P Γ ⟨iW d,.call { callee:=.value (.func f),args:=xs.toArray,argTypes:=ats },ty,ps,af,gd⟩ E (E.app (cWr d res []) (vU d [])):=
 fun _S=>zPV f (.func f) xs ats us res [] rfl rfl (yF sd) gx rfl hc gp .nil gz
theorem zX2{f:FuncId}{xs:List Operand}{ats:Array TypeId}{us res:List T}(gx:zB9 P f)(hc:FnC P f us res [])(gn:xs.length=us.length)(gp:∀(i:Nat) u,us[i]? =iW u-> ∃x,xs[i]? =iW x/\opT E x=iW u/\u.flat=iZ)(gz:yZ res/\yM res=iZ)(sd:J4 d Γ.N=iZ):
  Ok P Γ ⟨iW d,.call { callee:=.value (.func f),args:=xs.toArray,argTypes:=ats },ty,ps,af,gd⟩ E (E.app (cWr d res []) (vU d [])):=
 fun _S=>zTm f (.func f) xs ats us res rfl rfl (yF sd) gx rfl hc gn gp gz
class kD (P:Program) (S:TypeId) (j:Nat) (off:outParam Nat):Prop where
 h:∃fs f fi,P.underlying S=iW (.struct fs)/\fs[j]? =iW f/\P.info? f.type=iW fi/\fi.size≠0/\off=f.offset
theorem yAA{S:TypeId}{j off r:Nat}{q:List Nat}{xs:List T}{u:T}(ht:kD P S j off)(hx:tT E x=iW (r,q,.ptr (.agg xs)))(hu:xs[j]? =iW u)(gL:T.sizes (xs.take j)=off)(sd:J4 d Γ.N=iZ):
  Ok P Γ ⟨iW d,.fieldAddr S x j,ty,ps,af,gd⟩ E (E.app [(d,iW (.addr r (j::0::q)))] [(d,0)]):=by
 obtain⟨fs,f,fi,h1,h2,h3,h4,h5⟩:=ht.h;exact fun _=>yC5 x S fs f fi j r q xs u rfl rfl (yF sd) h1 h2 h3 h4 hx hu
theorem yCK{S:TypeId}{j off r:Nat}{q:List Nat}{t:T}{xs:List T}{u:T}(ht:kD P S j off)(hx:opT E x=iW (.addr r q))(hr:E r=iW t)(hg:t.get q.reverse=iW (.agg xs))(hu:xs[j]? =iW u)(gL:T.sizes (xs.take j)=off)(sd:(J4 d Γ.N&&t.locd q.reverse)=iZ):
  Ok P Γ ⟨iW d,.fieldAddr S x j,ty,ps,af,gd⟩ E (E.app [(d,iW (.addr r (j::q)))] [(d,0)]):=by
 obtain⟨fs,f,fi,h1,h2,h3,h4,h5⟩:=ht.h;simp only[J3]at sd;exact fun _=>zOi x S fs f fi j r q t xs u rfl rfl (yF sd.1) h1 h2 h3 h4 hx hr hg sd.2 hu
theorem zTx{S:TypeId}{j off:Nat}{xs:List T}{u:T}(ht:kD P S j off)(hx:opT E x=iW (.ro (.ptr (.agg xs))))(hu:xs[j]? =iW u)(gL:T.sizes (xs.take j)=off)(sd:J4 d Γ.N=iZ):
  Ok P Γ ⟨iW d,.fieldAddr S x j,ty,ps,af,gd⟩ E (E.app [(d,iW (.ro (.ptr u)))] [(d,0)]):=by
 obtain⟨fs,f,fi,h1,h2,h3,h4,h5⟩:=ht.h;exact fun _=>zSR x S fs f fi j xs u rfl rfl (yF sd) h1 h2 h3 h4 hx hu
def zL{α:Type}(xs:List α)(l h:Int):Option (List α):=if 0<=l/\l<=h/\h<=(xs.length:Int)then iW ((xs.drop l.toNat).take (h.toNat-l.toNat))else iY
theorem yCL{α:Type}{t e:TypeId}{ti:TypeInfo}{r k:Nat}{q:List Nat}{f:α->T}{xs ys:List α}{lo hi:Option Operand}{l h:Int}(ht:zCv P t e ti k)(hv:zL xs l h=iW ys)(hx:tT E x=iW (r,q,.ro (L k f xs)))(gZ:zAP E lo 0 l.toNat)(ey:zAP E hi xs.length h.toNat)(sd:J4 d Γ.N=iZ):
  Ok P Γ ⟨iW d,.slice t x lo hi iY,ty,ps,af,gd⟩ E (E.app [(d,iW (.ro (L k f ys)))] [(d,0)]):=by
 unfold zL at hv;split at hv
 ·rename_i hc
  simp at hv;subst hv;intro S;have:=zLZ (P:=P) (Γ:=Γ.at S) (E:=E) (o:=⟨iW d,.slice t x lo hi iY,ty,ps,af,gd⟩) x lo hi t e ti r q k (xs.map f) l.toNat h.toNat rfl rfl (yF sd) ht.un ht.info ht.size hx gZ (by grind) (by omega) (by simp;omega);simpa[L,Jab,Ue]using this
 ·cases hv
theorem zMx{α:Type}{t e:TypeId}{ti:TypeInfo}{r k:Nat}{q:List Nat}{f:α->T}{xs ys:List α}{lo hi:Option Operand}{l h:Int}(ht:zCv P t e ti k)(hv:zL xs l h=iW ys)(hx:tT E x=iW (r,q,L k f xs))(gZ:zAP E lo 0 l.toNat)(ey:zAP E hi xs.length h.toNat)(sd:(J4 d Γ.N&&(r != d))=iZ):
  Ok P Γ ⟨iW d,.slice t x lo hi iY,ty,ps,af,gd⟩ E (E.app [(d,iW (.sub r q k l.toNat h.toNat))] [(d,0)]):=by
 unfold zL at hv;simp only[J3]at sd;split at hv
 ·rename_i hc
  intro S;exact zKG (P:=P) (Γ:=Γ.at S) (E:=E) (o:=⟨iW d,.slice t x lo hi iY,ty,ps,af,gd⟩) x lo hi t e ti r q k (xs.map f) l.toNat h.toNat rfl rfl (yF sd.1) ht.un ht.info ht.size hx gZ (by grind) (by omega) (by simp;omega) (by grind)
 ·cases hv
end
theorem sH{t:T}(h:yA t):yA t:=h
theorem tY{α:Type}{f:α->T}{k:Nat}{xs:List α}(hf:∀x,yA (f x)):yA (L k f xs):=zPX hf
theorem zTy{t:T}(h:yA t):yA (.ptr t):=by simpa only[yA,yS]using h
theorem zKX{xs:List T}(h:yZ xs):yA (.agg xs):=by simpa only[yA,yS]using h
section
variable {P:Program}{Γ:Ctx}{pn:kT}{E E':Env}{Q:Exit->Env->Prop}{c c1 c2:Code}{x:Operand}
theorem CW.condT(hx:opT E x=iW (B iZ))(h:CW P Γ pn c1 E Q):CW P Γ pn (.cond x c1 c2) E Q:=by grind[CW.cond]
theorem CW.condF(hx:opT E x=iW (B ja))(h:CW P Γ pn c2 E Q):CW P Γ pn (.cond x c1 c2) E Q:=by grind[CW.cond]
theorem CW.casesB(b:Bool)(ht:b=iZ->CW P Γ pn c E Q)(hf:b=ja->CW P Γ pn c E Q):CW P Γ pn c E Q:=by grind
theorem yCM{wr:Wr}{chg:Chg}{s:Nat}{t:T}(h:E s=iW t)(hf:wr.find s=iY:=by rfl)(hb:t.okB chg=iZ:=by rfl):E.app wr chg s=iW t:=by grind[Env.app]
theorem yX.gh{ops:Array Oper}{o:Oper}{E1:Env}(hg:zR Γ E E1)(h:yX P Γ ops o E1 E'):yX P Γ ops o E E':=fun a w K Q hs hK=>h a w K Q (hg a w hs) hK
theorem zF0{t:T}(h:opT E x=iW (.ro (.ptr t))):zGY E x=iZ:=by simp[zGY,h]
theorem zEf{r:Nat}{q:List Nat}{t:T}(h:tT E x=iW (r,q,.ptr t)):zGY E x=iZ:=by grind[zGY]
end
theorem yAB{E:Env}{n:Nat}:zAP E iY n (n:Int).toNat:=by simp[zAP]
theorem zZI{E:Env}:zAP E iY 0 (0:Int).toNat:=by simp[zAP]
theorem zTz{E:Env}{x:Operand}{n:Int}{d:Nat}(h0:0<=n)(h:opT E x=iW (I n)):zAP E (iW x) d n.toNat:=⟨.i64,by grind⟩
theorem qB{α:Type}{xs ys:List α}{l h:Int}(hv:zL xs l h=iW ys):0<=l/\l<=h/\h<=xs.length/\ys=(xs.drop l.toNat).take (h.toNat-l.toNat):=by grind[zL]
theorem zGu{α:Type}{xs ys:List α}{l h:Int}(hv:zL xs l h=iW ys):0<=l:=(qB hv).1
theorem zGv{α:Type}{xs ys:List α}{l h:Int}(hv:zL xs l h=iW ys):0<=h:=by have:=qB hv;omega
theorem zKY{E:Env}{r k:Nat}{q:List Nat}{α:Type}{l h:Int}{f g:α->T}{xs ys:List α}{tr:T}(hr:E r=iW tr)(hg:tr.get q.reverse=iW (L k f xs))(hs:uO f g)(hv:zL xs l h=iW ys):
  clo E (.sub r q k l.toNat h.toNat)=.ro (L k g ys):=by
 obtain⟨h1,h2,h3,rfl⟩:=qB hv
 grind[yA8]
section
variable {P:Program}{Γ:Ctx}{E E':Env}{d:Nat}{x y:Operand}{ty:TypeId}{ps:String}{af:Array Edge}{gd:Option (Nat×Bool)}
theorem zCJ{o:Oper}{e b:Bool}{d:Nat}{wr:Wr}{chg:Chg}(he:e=b)(h:Ok P Γ o E (E.app ((d,iW (B e))::wr) chg)):Ok P Γ o E (E.app ((d,iW (B b))::wr) chg):=he▸h
theorem yCN{t:TypeId}{u tr t0:T}{r:Nat}{q:List Nat}(ht:zX0 P t u)(hx:tT E x=iW (r,q,.ptr t0))(hr:E r=iW tr)(hg:tr.get (0::q).reverse=iW u)(sd:(J4 d Γ.N&&tr.locd (0::q).reverse&&(r != d)&&T.okB [(d,0)] (cpT r u (0::q)))=iZ):
  Ok P Γ ⟨iW d,.load t x,ty,ps,af,gd⟩ E (E.app [(d,iW (cpT r u (0::q)))] [(d,0)]):=by
 obtain⟨ds,ti,h1,h2,h3,h4⟩:=ht.h;simp only[J3]at sd;exact fun S=>zLW x t ds ti r (0::q) tr u rfl rfl (yF sd.1.1.1) h1 h2 h3 h4 (zDg.ptr hx) hr hg sd.1.1.2 (by grind) sd.2
theorem zZJ{t:TypeId}{ti:TypeInfo}{r s:Nat}{q:List Nat}{tr tr' u0 u:T}(hi:P.info? t=iW ti)(gE:(ti.size==u.size&&J4 0 ti.size)=iZ)(hx:∀S,zDg (Γ.at S) E x r q)(hr:E r=iW tr)(hg:tr.get q.reverse=iW u0)(gC:tr.set q.reverse u=tr')(hy:E s=iW u)(hu:yA u)
  (sd:(tr.single&&tr.locd q.reverse&&vZ u u0&&(r != s)&&u.okTup)=iZ):Ok P Γ ⟨iY,.store t x (.tmp s),ty,ps,af,gd⟩ E (E.app ((r,iW tr')::sWr r q (.slot s u)) ((r,q.length)::qA [.slot s u])):=by
 simp only[J3]at sd gE;subst gC;intro S;refine zJJ (P:=P) (Γ:=Γ.at S) (E:=E) (o:=⟨iY,.store t x (.tmp s),ty,ps,af,gd⟩) t ti x (.tmp s) r q tr u0 (.slot s u) rfl rfl hi (by grind[yO.tree]) (yF gE.2) (hx S) hr sd.1.1.1.1 hg sd.1.1.1.2 sd.1.1.2 (.slot s _)
  ⟨by grind,by simp,?_⟩
 grind[xP]
theorem zR8{t:TypeId}{ti:TypeInfo}{r s:Nat}{q:List Nat}{tr tr' u0 u:T}(hi:P.info? t=iW ti)(gE:(ti.size==u.size&&J4 0 ti.size)=iZ)(hx:opT E x=iW (.addr r q))(hr:E r=iW tr)(hg:tr.get q.reverse=iW u0)(gC:tr.set q.reverse u=tr')(hy:E s=iW u)(hu:yA u)
  (sd:(tr.single&&tr.locd q.reverse&&vZ u u0&&(r != s)&&u.okTup)=iZ):Ok P Γ ⟨iY,.store t x (.tmp s),ty,ps,af,gd⟩ E (E.app ((r,iW tr')::sWr r q (.slot s u)) ((r,q.length)::qA [.slot s u])):=
 zZJ hi gE (fun _=>zDg.addr hx) hr hg gC hy hu sd
theorem zZK{t:TypeId}{ti:TypeInfo}{r s:Nat}{q:List Nat}{tr tr' u0 u t0:T}(hi:P.info? t=iW ti)(gE:(ti.size==u.size&&J4 0 ti.size)=iZ)(hx:tT E x=iW (r,q,.ptr t0))(hr:E r=iW tr)(hg:tr.get (0::q).reverse=iW u0)(gC:tr.set (0::q).reverse u=tr')(hy:E s=iW u)(hu:yA u)
  (sd:(tr.single&&tr.locd (0::q).reverse&&vZ u u0&&(r != s)&&u.okTup)=iZ):Ok P Γ ⟨iY,.store t x (.tmp s),ty,ps,af,gd⟩ E (E.app ((r,iW tr')::sWr r (0::q) (.slot s u)) ((r,(0::q).length)::qA [.slot s u])):=
 zZJ hi gE (fun _=>zDg.ptr hx) hr hg gC hy hu sd
theorem zIu{G:Gh}{s:Nat}:(xs:List T)->yM xs=iZ-> ∀(p:List Nat)(i j:Nat)(u:T),xs[j]? =iW u-> ∃l1 l2,yH G s xs p i=l1++vals G s u ((i+j)::p)++l2/\l1.length=T.sizes (xs.take j)
 | [],_,_,_,_,_,h=>by simp at h
 |x::xs,ht,p,i,j,u,h=>by
  simp only[yM,J3]at ht;cases j with
  |zero=>simp at h;subst h;exact⟨[],yH G s xs p (i+1),by rfl,by rfl⟩
  |succ j=>
   obtain⟨l1,l2,h1,h2⟩:=zIu xs ht.2 p (i+1) j u (by grind);refine⟨vals G s x (i::p)++l1,l2,by rw[yH,h1,show i+(j+1)=i+1+j from by omega];simp,?_⟩;rw[J7,vH x _ (by rintro ys rfl;grind[T.okTup]),h2,Lf,T.sizes]
theorem zT0{S:TypeId}{j off s:Nat}{xs:List T}{u:T}(ht:kD P S j off)(hv:∃ds ti fs f,P.underlying S=iW (.struct fs)/\fs[j]? =iW f/\P.underlying f.type=iW ds/\P.info? f.type=iW ti/\zGf ds= !u.single/\ti.size=u.size)(hx:E s=iW (.agg xs))(hu:xs[j]? =iW u)(gL:T.sizes (xs.take j)=off)
  (sd:(J4 d Γ.N&&yM xs&&u.okTup&&(s != d)&&T.okB [(d,0)] (cpT s u [j]))=iZ):
  Ok P Γ ⟨iW d,.field S (.tmp s) j,ty,ps,af,gd⟩ E (E.app [(d,iW (cpT s u [j]))] [(d,0)]):=by
 obtain⟨fs,f,fi,h1,h2,h3,h4,h5⟩:=ht.h;obtain⟨ds,ti,fs',f',g1,g2,g3,g4,g5,g6⟩:=hv;simp only[J3]at sd;rw[h1]at g1;simp at g1;subst g1;rw[h2]at g2;simp at g2;subst g2;rw[h3]at g4;simp at g4;subst g4;intro S';refine wD.value rfl fun a w G gj=>?_
 obtain⟨k1,k2,_⟩:=gj.ent s _ hx;simp only[R]at k2;have k3:=zCb xs [] 0 j u k2 hu;simp only[Jc]at k3;have gk:s≠d:=by grind
 have er:∀ys,u≠.tup ys:=zCs sd.1.1.2;have hk:=G.put_keep (w:=w) (w':=w) rfl d (fun z=>G.hd s (z++[j]));have hz:∀z,(G.put d (fun z=>G.hd s (z++[j]))).hd d (z++[])=G.hd s (z++[j]):=by grind[Gh.put_self]
 refine⟨sZ G s u [j],w,?_,_,vM gj rfl (yF sd.1.1.1.1) (fun z=>G.hd s (z++[j])) (fun z=>gj.mem.one _ _) _ _ (by grind[zB5])
  (zEH (fun p=>G.put_other _ p gk) u [j] [] hz er (hk.keepR (by grind[zBq,jQ])) k3) (jQ s u [j])⟩
 obtain⟨l1,l2,e1,e2⟩:=zIu (G:=G) (s:=s) xs sd.1.1.1.2 [] 0 j u hu;simp only[Jc]at e1;have e3:l1.length=f.offset:=by omega
 have e4:=vH (G:=G) (s:=s) u [j] er;have ai:(part f.type (yH G s xs [] 0).toArray f.offset).run P w=.ok (sZ G s u [j]) w:=by
  rw[e1];cases u with
  |agg ys=>
   simp[T.single]at g5;simp only[vals,T.size]at e4 g6 ⊢
   simp[part,zAo g3,g5,sizeOf,typeInfo,h3,sZ]
   grind
  |tup ys=>grind
  |_=>
   simp[T.single]at g5;simp[part,zAo g3,g5,sZ,vals,<-e3]
 simp[execOp,xX k1,mkV,Instr.field,run_underlying h1,h2,asAgg,ai]
theorem zQa{α:Type}{t e:TypeId}{ti:TypeInfo}{k:Nat}{u:T}{n:Nat}{a:Int}{f:α->T}{z:α}(ht:ElT P t e ti k u)(hz:f z=u)(hn:yD a=iW n)(hx:opT E x=iW (I a))(hy:opT E y=iW (I a))(sd:J4 d Γ.N=iZ):
  Ok P Γ ⟨iW d,.makeSlice t x y,ty,ps,af,gd⟩ E (E.app [(d,iW (L k f (J1 n z)))] [(d,0)]):=by
 have:=yA5 (P:=P) (Γ:=Γ) (E:=E) (d:=d) (ty:=ty) (ps:=ps) (af:=af) (gd:=gd) ht hn hx hn hy (Je _) sd;rw[<-hz]at this;simpa[L]using this
theorem zZL{t e:TypeId}{ti:TypeInfo}{k:Nat}{u:T}(ht:ElT P t e ti k u)(sd:J4 d Γ.N=iZ):Ok P Γ ⟨iW d,.buildSlice t 0 #[],ty,ps,af,gd⟩ E (E.app [(d,iW (.sl k []))] [(d,0)]):=
 fun _=>zHY t e ti k rfl rfl (yF sd) ht.un ht.info
theorem yAC{t:TypeId}{s:ByteArray}(hu:P.underlying t=iW .string)(hx:opT E x=iW (Str s))(sd:J4 d Γ.N=iZ):
  Ok P Γ ⟨iW d,.call { callee:=.builtin .len,args:=#[x],argTypes:=#[t] },ty,ps,af,gd⟩ E (E.app [(d,iW (I s.size))] [(d,0)]):=by
 intro S;refine tW (.int .i64 s.size) rfl rfl (yF sd) fun a w G gj=>?_
 have h1:=(yY gj hx).1;simp[execOp,resolve,invoke,builtin,h1,Builtin.len_,run_underlying hu,goInt]
theorem zT1{t e:TypeId}{s r k l h:Nat}{q:List Nat}{α:Type}{f:α->T}{xs:List α}{tr:T}(hu:P.underlying t=iW (.slice e))(hx:E s=iW (.sub r q k l h))(hr:E r=iW tr)(hg:tr.get q.reverse=iW (L k f xs))(sd:J4 d Γ.N=iZ):
  Ok P Γ ⟨iW d,.call { callee:=.builtin .len,args:=#[.tmp s],argTypes:=#[t] },ty,ps,af,gd⟩ E (E.app [(d,iW (I ((h-l:Nat):Int)))] [(d,0)]):=by
 intro S;refine tW (.int .i64 ((h-l:Nat):Int)) rfl rfl (yF sd) fun a w G gj=>?_
 obtain⟨h1,h2,_⟩:=gj.ent s _ hx;obtain⟨_,h4,_⟩:=gj.ent r _ hr;simp only[R]at h2;have h5:=(zBk q.reverse tr _ [] h4 hg).1;simp only[rp,K8,J9]at h5;obtain⟨a',c,h6⟩:=zH3 h5;rw[h6]at h2;simp[execOp,resolve,invoke,builtin,xX h1,mkV,h2,zB3,Builtin.len_,run_underlying hu,goInt]
theorem zX3{P:Program}{w:World}{t:TypeId}{a b:Bool}(n:Nat)(h:P.underlying t=iW .bool):(Op.equalIn (n+1) t (.bool a) (.bool b)).run P w=.ok (a==b) w:=by simp only[Op.equalIn,Sem.run_bind,run_underlying h];rfl
theorem zIv(t:TypeId)(x y:Value):Op.equal t x y=Op.equalIn (9999+1) t x y:=rfl
theorem yAD{a b:Bool}{xt yt:TypeId}(hu:P.underlying xt=iW .bool)(hx:opT E x=iW (B a))(hy:opT E y=iW (B b))(sd:J4 d Γ.N=iZ):Ok P Γ ⟨iW d,.binOp .neq xt x y yt,ty,ps,af,gd⟩ E (E.app [(d,iW (B (a != b)))] [(d,0)]):=by
 intro S;refine tW _ rfl rfl (yF sd) fun c w G gj=>?_
 have h1:=(yY gj hx).1;have h2:=(yY gj hy).1;have h3:=zX3 (P:=P) (w:=w) (a:=a) (b:=b) 9999 hu;simp[execOp,h1,h2,eqGuard,binOp,zIv,h3,bne]
theorem zH7{P:Program}{w:World}{t:TypeId}{k:IntKind}{a b:Int}(n:Nat)(h:P.underlying t=iW (.int k)):(Op.equalIn (n+1) t (.int k a) (.int k b)).run P w=.ok (a==b) w:=by simp only[Op.equalIn,Sem.run_bind,run_underlying h];simp
end
def zCd:List Nat->Bool
 | []=>iZ
 |x::xs=> !xs.contains x&&zCd xs
theorem zEg:{l:List Nat}->zCd l=iZ->l.Nodup
 | [],_=>by simp
 |x::xs,h=>by simp only[zCd,J3,Gj,H3,decide_eq_false_iff_not]at h;exact L5.2 ⟨h.1,zEg h.2⟩
def zCK(E:Env):List yO->Prop
 | []=>True
 |.slot s t::l=>(E s=iW t/\yA t/\t.okTup=iZ)/\zCK E l
 |.zero u::l=>u.zOk=iZ/\zCK E l
theorem zCK.get{E:Env}:(l:List yO)->zCK E l->(∀s t,yO.slot s t∈l->E s=iW t/\yA t/\t.okTup=iZ)/\ ∀u,yO.zero u∈l->u.zOk=iZ
 | [],_=>⟨fun _ _ h=>by simp at h,fun _ h=>by simp at h⟩
 |.slot s t::l,h=>by
  obtain⟨h1,h2⟩:=zCK.get l h.2;exact⟨fun s' t' hm=>by
   rcases Jb.1 hm with e|hm
   ·cases e;exact h.1
   ·exact h1 s' t' hm,fun u hm=>by
   rcases Jb.1 hm with e|hm
   ·cases e
   ·exact h2 u hm⟩
 |.zero u::l,h=>by
  obtain⟨h1,h2⟩:=zCK.get l h.2;exact⟨fun s' t' hm=>by
   rcases Jb.1 hm with e|hm
   ·cases e
   ·exact h1 s' t' hm,fun u' hm=>by
   rcases Jb.1 hm with e|hm
   ·cases e;exact h.1
   ·exact h2 u' hm⟩
section
variable {E:Env}
theorem pkN:zCK E []:=trivial
theorem pkS{s:Nat}{t:T}{l:List yO}(h:E s=iW t)(hc:yA t)(h3:t.okTup=iZ)(hl:zCK E l):zCK E (.slot s t::l):=⟨⟨h,hc,h3⟩,hl⟩
theorem pkZ{u:T}{l:List yO}(h:u.zOk=iZ)(hl:zCK E l):zCK E (.zero u::l):=⟨h,hl⟩
theorem zCK.parts{d:Nat}{l:List yO}(h:zCK E l)(hn:zCd (d::xP l)=iZ):tX E d l:=⟨(zCK.get l h).1,(zCK.get l h).2,zEg hn⟩
def zDn(E:Env)(zs:List T)(ps:List yO):List (Nat×Operand)->List (Nat×yO)->Prop
 | [],[]=>True
 |x::xs,q::qs=>(x.1=q.1/\zAZ E x.2 q.2/\ps[q.1]? =iW q.2/\ ∃u,zs[q.1]? =iW u/\u.size=q.2.tree.size)/\zDn E zs ps xs qs
 |_,_=>False
theorem bqN{zs:List T}{ps:List yO}:zDn E zs ps [] []:=trivial
theorem bqC{zs:List T}{ps:List yO}{i:Nat}{x:Operand}{q:yO}{xs:List (Nat×Operand)}{qs:List (Nat×yO)}(h:zAZ E x q)(hl:zDn E zs ps xs qs)(h1:ps[i]? =iW q:=by rfl)(h2:∃u,zs[i]? =iW u/\u.size=q.tree.size:=by exact⟨_,rfl,rfl⟩):zDn E zs ps ((i,x)::xs) ((i,q)::qs):=⟨⟨rfl,h,h1,h2⟩,hl⟩
theorem zDn.ix{zs:List T}{ps:List yO}:(pl:List (Nat×Operand))->(qs:List (Nat×yO))->zDn E zs ps pl qs->pl.map (·.1)=qs.map (·.1)
 | [],[],_=>rfl
 |x::xs,q::qs,h=>by simp[h.1.1,zDn.ix xs qs h.2]
 | [],_::_,h=>by simp[zDn]at h
 |_::_,[],h=>by simp[zDn]at h
theorem zDn.get{zs:List T}{ps:List yO}:(pl:List (Nat×Operand))->(qs:List (Nat×yO))->zDn E zs ps pl qs-> ∀(j:Nat)(x:Nat×Operand)(q:Nat×yO),pl[j]? =iW x->qs[j]? =iW q->zAZ E x.2 q.2/\q.2∈ps/\ ∃u,zs[q.1]? =iW u/\u.size=q.2.tree.size
 | [],[],_,j,_,_,h,_=>by simp at h
 |x::xs,q::qs,h,j,x',q',h1,h2=>by
  cases j with
  |zero=>simp at h1 h2;subst h1;subst h2;exact⟨h.1.2.1,Lq h.1.2.2.1,h.1.2.2.2⟩
  |succ j=>exact zDn.get xs qs h.2 j x' q' (by simpa using h1) (by simpa using h2)
 | [],_::_,h,_,_,_,_,_=>by simp[zDn]at h
 |_::_,[],h,_,_,_,_,_=>by simp[zDn]at h
end
class zHx (P:Program) (t:TypeId) (zs:outParam (List T)):Prop where
 h:∃(place:Nat->Option (Nat×Nat))(z:Value),(∀parts,P.built t parts=Instr.fill place z.cells parts)/\qQ zs=z.cells.toList/\zBs zs=iZ/\ ∀i u,zs[i]? =iW u->place i=iW (T.sizes (zs.take i),u.size)
section
variable {P:Program}{Γ:Ctx}{E E':Env}{d:Nat}{x y:Operand}{ty:TypeId}{ps:String}{af:Array Edge}{gd:Option (Nat×Bool)}
theorem zX4{t:TypeId}{zs:List T}{pa:Array (Nat×Operand)}(hb:zHx P t zs)(pl:List (Nat×Operand))(qs:List (Nat×yO))(pp:List yO)(gA:zCK E pp)(hq:zDn E zs pp pl qs)(sd:(J4 d Γ.N&&zCd (d::xP pp))=iZ)
  (fI:pa=pl.toArray:=by rfl)(gH:qs.foldl (fun ps q=>ps.set q.1 q.2) (zs.map yO.zero)=pp:=by rfl):Ok P Γ ⟨iW d,.build t pa,ty,ps,af,gd⟩ E (E.app ((d,iW (.agg (pp.map yO.tree)))::pWr d pp 0) ((d,0)::qA pp)):=by
 obtain⟨place,z,h1,h2,h3,h4⟩:=hb.h;simp only[J3]at sd;subst fI;exact fun S=>zTa t place z zs pl qs pp rfl rfl (yF sd.1) h1 h2 h3 h4 gH (gA.parts sd.2) (zDn.ix _ _ hq) (zDn.get _ _ hq)
def zMy(k:Nat):List yO->Bool
 | []=>iZ
 |p::l=>(p.tree.size==k)&&zMy k l
theorem zMz{k:Nat}:(l:List yO)->zMy k l=iZ-> ∀p∈l,p.tree.size=k
 | [],_,_,h=>by simp at h
 |p::l,h,q,hm=>by
  simp only[zMy,J3,beq_iff_eq]at h;rcases Jb.1 hm with rfl|hm
  ·exact h.1
  ·exact zMz l h.2 q hm
theorem yEC{α:Type}{t e:TypeId}{ti:TypeInfo}{k n:Nat}{u:T}{pa:Array (Nat×Operand)}(ht:ElT P t e ti k u)(xs:List Operand)(pp:List yO)(ys:List α)(f:α->T)(hx:uM E xs pp)(gA:zCK E pp)
  (sd:(J4 d Γ.N&&zCd (d::xP pp)&&zMy k pp&&J4 0 n&&Uy (n*k) 65536)=iZ)(hn:xs.length=n)(fI:pa=((xs.zipIdx 0).map fun x=>(x.2,x.1)).toArray:=by rfl)(hy:pp.map yO.tree=ys.map f:=by rfl):
  Ok P Γ ⟨iW d,.buildSlice t n pa,ty,ps,af,gd⟩ E (E.app ((d,iW (L k f ys))::pWr d pp 0) ((d,0)::qA pp)):=by
 obtain⟨z,hz,_⟩:=ht.zero;simp only[J3]at sd;subst fI;intro S;have eW:n*k<=65536:=by simpa[Nat.ble_eq]using sd.2
 have:=zJx (P:=P) (Γ:=Γ.at S) (E:=E) (o:=⟨iW d,.buildSlice t n ((xs.zipIdx 0).map fun x=>(x.2,x.1)).toArray,ty,ps,af,gd⟩) t e ti z k n xs pp rfl rfl (yF sd.1.1.1.1) ht.un ht.info hz ht.size ht.pos hn (yF sd.1.2) (by omega) hx (gA.parts sd.1.1.1.2) (zMz pp sd.1.1.2);rw[hy]at this;exact this
theorem zM0{α:Type}{f g:α->T}(h:∀y,roT (g y)=f y):(ys:List α)->roT.roTs (ys.map g)=ys.map f
 | []=>rfl
 |y::ys=>by simp only[Js,roT.roTs,h y,zM0 h ys]
theorem zOv{α:Type}{t e:TypeId}{ti:TypeInfo}{k r:Nat}{q:List Nat}{u:T}{f g:α->T}{xs ys zs:List α}{s0:Nat}(ht:ElT P t e ti k u)(aG:∀y,roT (g y)=f y)(gE:∀y,(g y).size=k)(hg:Enc g)(hv:yE xs ys=iW zs)(h0:E s0=iW (L k f xs))(h1:tT E y=iW (r,q,.ro (L k g ys)))(sd:(J4 d Γ.N&&(s0 != d))=iZ):
  Ok P Γ ⟨iW d,.call { callee:=.builtin .append,args:=#[.tmp s0,y],argTypes:=#[t,t] },ty,ps,af,gd⟩ E (E.app [(d,iW (L k f zs)),(s0,iW .any)] [(d,0),(s0,1)]):=by
 obtain⟨rfl,hl⟩:=zGr hv;obtain⟨z,hz,fR⟩:=ht.zsize;simp only[J3]at sd;intro S;have:=zKQ (P:=P) (Γ:=Γ.at S) (E:=E) (o:=⟨iW d,.call { callee:=.builtin .append,args:=#[.tmp s0,y],argTypes:=#[t,t] },ty,ps,af,gd⟩) t e ti z k s0 y r q (xs.map f) (ys.map g) rfl rfl (yF sd.1) ht.un ht.info hz ht.size ht.pos fR ht.bytes h0 h1 (zIs hg.rook ys)
  (by intro v hv;obtain⟨y,_,rfl⟩:=Jn.1 hv;exact gE y) (by simpa using sd.2) (by simpa using hl)
 rw[zM0 aG,<-Lu]at this;exact this
def yT{α:Type}(xs:List α)(m:Int)(z:α):Option (List α):=if 0<=m/\xs.length+m.toNat<=68719476736 then iW (xs++J1 m.toNat z)else iY
theorem zOw{α:Type}{t t2 e:TypeId}{k2:IntKind}{ti:TypeInfo}{k:Nat}{u:T}{f:α->T}{z:α}{xs zs:List α}{s0:Nat}{m:Int}(ht:ElT P t e ti k u)(cZ:P.underlying t2=iW (.int k2))(hz:f z=u)(hv:yT xs m z=iW zs)(h0:E s0=iW (L k f xs))(h1:opT E y=iW (I m))(sd:(J4 d Γ.N&&(s0 != d))=iZ):
  Ok P Γ ⟨iW d,.call { callee:=.builtin .append,args:=#[.tmp s0,y],argTypes:=#[t,t2] },ty,ps,af,gd⟩ E (E.app [(d,iW (L k f zs)),(s0,iW .any)] [(d,0),(s0,1)]):=by
 unfold yT at hv;split at hv
 ·rename_i hc
  simp at hv;subst hv;obtain⟨zv,mA,eS⟩:=ht.zero;simp only[J3]at sd;obtain⟨n,rfl⟩:∃n:Nat,m=n:=⟨m.toNat,by omega⟩;intro S;have:=zIh (P:=P) (Γ:=Γ.at S) (E:=E) (o:=⟨iW d,.call { callee:=.builtin .append,args:=#[.tmp s0,y],argTypes:=#[t,t2] },ty,ps,af,gd⟩) t t2 e k2 ti zv u k s0 y .i64 n (xs.map f) rfl rfl (yF sd.1) ht.un cZ ht.info mA ht.size ht.pos ht.bytes ht.zok eS ht.us h0 h1
   (by simpa using sd.2) (by simp at hc ⊢;omega)
  have e:xs.map f++J1 n u=(xs++J1 n z).map f:=by simp[hz]
  rw[e]at this;have h2:((n:Int)).toNat=n:=by simp
  rw[h2];exact this
 ·cases hv
end
section
variable {Γ:Ctx}{E:Env}
theorem zR.trq(d r:Nat)(q:List Nat){tr u tr':T}(hd:E d=iW (.same r q))(hr:E r=iW tr)(hg:tr.get q.reverse=iW u)(fp:yA u)(sd:(u.single&&wH tr&&tr.okB [(d,1),(r,q.length+1)]&&(d != r))=iZ)(gC:(if q=[]then .same d []else tr.set q.reverse .any)=tr':=by rfl):
  zR Γ E (E.app [(d,iW u),(r,iW tr')] [(d,1),(r,q.length+1)]):=by
 simp only[J3]at sd
 rintro a w ⟨S,hS,hs⟩
 have gk:d≠r:=by simpa using sd.2
 have:=zOp hs d [] r q (.same r q) tr u hd rfl hr hg sd.1.1.1 fp gk (by simp[T.okB,zBl,gk]) sd.1.2 rfl sd.1.1.2;subst gC;exact⟨S,hS,this⟩
theorem zR.trf(d:Nat)(g:List Nat)(r:Nat)(q:List Nat)(td tr:T){u td' tr':T}(hd:E d=iW td)(pV:td.get g.reverse=iW (.same r q))(hr:E r=iW tr)(hg:tr.get q.reverse=iW u)(gC:td.set g.reverse u=td')(fp:yA u)
  (sd:(u.single&&wH td&&wH tr&&td.okB [(d,g.length+1),(r,q.length+1)]&&tr.okB [(d,g.length+1),(r,q.length+1)]&&(d != r))=iZ)(pc:(if q=[]then .same d g else tr.set q.reverse .any)=tr':=by rfl):
  zR Γ E (E.app [(d,iW td'),(r,iW tr')] [(d,g.length+1),(r,q.length+1)]):=by
 simp only[J3]at sd
 rintro a w ⟨S,hS,hs⟩
 have gk:d≠r:=by simpa using sd.2
 have:=zOp hs d g r q td tr u hd pV hr hg sd.1.1.1.1.1 fp gk sd.1.1.2 sd.1.2 sd.1.1.1.1.2 sd.1.1.1.2;subst gC pc;exact⟨S,hS,this⟩
theorem zR.frz{α:Type}(s:Nat){k:Nat}{f g:α->T}(xs:List α)(hs:E s=iW (L k f xs))(h:uO f g):zR Γ E (E.app [(s,iW (.ro (L k g xs)))] [(s,1)]):=by have:=zR.freeze (Γ:=Γ) s _ hs;simp only[vW,strip,tL h.h xs]at this;exact this
theorem zR.res(d r:Nat)(q:List Nat)(tr:T){u:T}(hd:E d=iW (.same r q))(hr:E r=iW tr)(hg:tr.get q.reverse=iW (.ro u)):zR Γ E (E.app [(d,iW (.ro u))] []):=by
 rintro a w ⟨S,hS,ej,G,gj⟩
 refine⟨S,hS,ej,G,?_⟩;have hk:kS [] G w G w:=⟨fun _ _ _=>rfl,fun _ _ _=>rfl,fun _ _ _ _ _ _ h _=>⟨h,rfl⟩,fun _ _ _ h _=>h,fun b cs e h=>⟨cs,h,rfl⟩⟩;refine vT gj rfl hk gj.mem (fun s _=>⟨fun n hn=>by simp at hn,rfl⟩) fun s t hs=>?_
 simp only[Wr.find]at hs;split at hs
 ·rename_i e;subst e
  simp at hs;subst hs;obtain⟨h1,h2,_⟩:=gj.ent d _ hd;obtain⟨_,h4,_⟩:=gj.ent r _ hr;simp only[R]at h2;have h5:=(zBk q.reverse tr _ [] h4 hg).1;simp only[rp,K8,J9,R]at h5;exact⟨by rw[h1];rfl,by simp only[R];rw[h2];exact h5,by simp[Top]⟩
 ·cases hs
end
theorem zKZ:(p:List Nat)-> ∀(t u0 a:T),t.get p=iW u0->(t.set p a).get p=iW a
 | [],t,_,a,_=>by cases t<;>cases a<;>rfl
 |i::p,t,u0,a,h=>by
  cases t with
  |sl k xs|agg xs|tup xs=>
   simp only[T.get,T.set]at h ⊢
   cases hx:xs[i]? with
   |none=>rw[hx]at h;cases h
   |some x=>
    rw[hx]at h;have hi:=(Jm.1 hx).1;simp only[];simp only[T.get,Qj hi];exact zKZ p x u0 a h
  |ptr t=>
   simp only[T.get,T.set]at h ⊢
   split at h
   ·rename_i e;subst e;simp only[if_true,T.get];exact zKZ p t u0 a h
   ·cases h
  |_=>simp[T.get]at h
theorem set_set:(p:List Nat)-> ∀(t u0 a b:T),t.get p=iW u0->(t.set p a).set p b=t.set p b
 | [],t,_,a,_,_=>by cases t<;>cases a<;>rfl
 |i::p,t,u0,a,b,h=>by
  cases t with
  |sl k xs|agg xs|tup xs=>
   simp only[T.get,T.set]at h ⊢
   cases hx:xs[i]? with
   |none=>rw[hx]at h;cases h
   |some x=>
    rw[hx]at h;have hi:=(Jm.1 hx).1;simp only[];simp only[T.set,Qj hi,List.set_set,set_set p x u0 a b h]
  |ptr t=>
   simp only[T.get,T.set]at h ⊢
   split at h
   ·rename_i e;subst e;simp only[if_true,T.set,set_set p t u0 a b h]
   ·cases h
  |_=>simp[T.get]at h
def kU:T->Bool
 |.sl _ _|.ptr _=>iZ
 |_=>ja
theorem zT2{t:T}(h:kU t=iZ)(p:List Nat){u:T}(hp:p≠[]):kU (t.set p u)=iZ:=by
 cases p with
 |nil=>exact absurd rfl hp
 |cons i p=>cases t<;>simp[kU]at h<;>simp only[T.set]<;>split<;>rfl
theorem tG{t:T}(h:kU t=iZ)(chg:Chg):t.okB chg=iZ/\wH t=iZ/\t.single=iZ:=by cases t<;>simp[kU]at h<;>simp[T.okB,wH,T.single]
section
variable {P:Program}{Γ:Ctx}{E E':Env}{d:Nat}{ty:TypeId}{ps:String}{af:Array Edge}{gd:Option (Nat×Bool)}
theorem agM{E:Env}{rw:Rw}{i:Nat}{x:Operand}{u:T}(t:T)(h:opT E x=iW t)(h1:clo E t=u)(h2:zJN E (rw.map (·.2.1)) x t=iZ):zDh E rw i x u:=.inr ⟨t,h,h1,h2⟩
theorem zX5{E:Env}{rw:Rw}{i s:Nat}{u u':T}(h:E s=iW u)(hc:yA u)(hr:vK u=iZ)(hs:u.okTup=iZ:=by rfl)(hm:(i,s,u')∈rw:=by exact List.mem_singleton.2 rfl):zDh E rw i (.tmp s) u:=.inl ⟨s,u',rfl,hm,h,hc,hs,hr⟩
abbrev vB(E:Env)(ds r:Nat)(q:List Nat)(tr u:T):Env:=E.app [(ds,iW u),(r,iW (if q=[]then .same ds []else tr.set q.reverse .any))] [(ds,1),(r,q.length+1)]
theorem zLa{f:FuncId}{xs:List Operand}{ats:Array TypeId}{us res:List T}{tr u u' tr':T}(i ds r:Nat)(q:List Nat)(gx:zB9 P f)(hc:FnC P f us res [(i,u')])(hs:E ds=iW (.same r q))(hr:E r=iW tr)(hq:tr.get q.reverse=iW u)
  (fp:yA u)(eU:yA u')(_:vK u=iZ)(tz:vK u'=iZ)(gp:xZ (vB E ds r q tr u) [(i,ds,u')] 0 xs us)(gz:zDi res)(gC:tr.set q.reverse u'=tr')
  (sd:(J4 d Γ.N&&(d != ds)&&(d != r)&&(ds != r)&&kU u&&kU u'&&kU tr)=iZ)(hx:xs[i]? =iW (.tmp ds))(hu:us[i]? =iW u):
  Ok P Γ ⟨iW d,.call { callee:=.value (.func f),args:=xs.toArray,argTypes:=ats },ty,ps,af,gd⟩ E ((((vB E ds r q tr u).app (cWr d res [(i,ds,u')]) (vU d [(i,ds,u')]))).app [(r,iW tr'),(ds,iW (.same r q))] [(r,q.length+1),(ds,1)]):=by
 simp only[J3]at sd;obtain⟨⟨⟨⟨⟨⟨s1,s2⟩,s3⟩,s4⟩,s5⟩,s6⟩,s7⟩:=sd;have d1:d≠ds:=by simpa using s2
 have d2:d≠r:=by simpa using s3
 have d3:ds≠r:=by simpa using s4
 obtain⟨u1,u2,u3⟩:=tG s5 [];obtain⟨v1,v2,v3⟩:=tG s6 [];have mS:cLv u'=1:=by simp[cLv,v3]
 subst gC;intro S
 by_cases bF:q=[]
 ·subst bF
  have htu:tr=u:=by
   have:tr.get []=iW tr:=by cases tr<;>rfl
   simp only[Hp]at hq;rw[this]at hq;exact Kt.inj hq
  subst htu;have mj:∀a b:T,a.set [] b=b:=fun a b=>by cases a<;>rfl
  have bo:(vB E ds r [] tr tr) ds=iW tr:=by simp[vB,Env.app,Wr.find]
  have pE:((vB E ds r [] tr tr).app (cWr d res [(i,ds,u')]) (vU d [(i,ds,u')])) r=iW (.same ds []):=by
   have h1:(vB E ds r [] tr tr) r=iW (.same ds []):=by simp[vB,Env.app,Wr.find,d3]
   have h2:(cWr d res [(i,ds,u')]).find r=iY:=by simp[cWr,Wr.find,d2,d3]
   have h3:(T.same ds []).okB (vU d [(i,ds,u')])=iZ:=by simp[T.okB,zBl,vU,d1,mS]
   simp only[Env.app,h2,h1,h3,if_true]
  have pF:((vB E ds r [] tr tr).app (cWr d res [(i,ds,u')]) (vU d [(i,ds,u')])) ds=iW u':=by simp[Env.app,Wr.find,cWr,d1]
  have:=zMs (P:=P) (Γ:=Γ.at S) (E:=E) (o:=⟨iW d,.call { callee:=.value (.func f),args:=xs.toArray,argTypes:=ats },ty,ps,af,gd⟩) f (.func f) xs ats us res i ds r [] tr tr u' rfl rfl (yF s1) gx rfl hs hr hq u3 fp d3 d2 (tG s7 _).1 (tG s7 []).2.1
   (vB E ds r [] tr tr) _ rfl rfl hc gp (.one d1 hx eU v3 tz bo u3 hu) gz (.same ds []) (.same ds []) pE rfl rfl pF eU v3 (by simp[T.okB,zBl]) rfl (tG s6 _).1 v2
  rw[Hp,mj]at this ⊢
  exact this
 ·have um:q.reverse≠[]:=by simpa using bF
  have bo:(vB E ds r q tr u) ds=iW u:=by simp[vB,Env.app,Wr.find]
  have iS:=zT2 s7 q.reverse (u:=.any) um;have pE:((vB E ds r q tr u).app (cWr d res [(i,ds,u')]) (vU d [(i,ds,u')])) r=iW (tr.set q.reverse .any):=by
   have h1:(vB E ds r q tr u) r=iW (tr.set q.reverse .any):=by simp[vB,Env.app,Wr.find,d3,bF]
   have h2:(cWr d res [(i,ds,u')]).find r=iY:=by simp[cWr,Wr.find,d2,d3]
   simp[Env.app,h2,h1,(tG iS _).1]
  have pF:((vB E ds r q tr u).app (cWr d res [(i,ds,u')]) (vU d [(i,ds,u')])) ds=iW u':=by simp[Env.app,Wr.find,cWr,d1]
  have:=zMs (P:=P) (Γ:=Γ.at S) (E:=E) (o:=⟨iW d,.call { callee:=.value (.func f),args:=xs.toArray,argTypes:=ats },ty,ps,af,gd⟩) f (.func f) xs ats us res i ds r q tr u u' rfl rfl (yF s1) gx rfl hs hr hq u3 fp d3 d2 (tG s7 _).1 (tG s7 []).2.1
   (vB E ds r q tr u) _ rfl rfl hc gp (.one d1 hx eU v3 tz bo u3 hu) gz (tr.set q.reverse .any) .any pE (zKZ _ _ _ _ hq) rfl pF eU v3 (tG iS _).1 (tG iS []).2.1 (tG s6 _).1 v2
  rw[set_set _ _ _ _ _ hq]at this;exact this
theorem zX6{f:FuncId}{xs:List Operand}{ats:Array TypeId}{us res:List T}{xf:Operand}(hf:opT E xf=iW (.lit (.func (.func f) #[] #[])))(gx:zB9 P f)(hc:FnC P f us res [])(gp:xZ E [] 0 xs us)(gz:zDi res)(sd:J4 d Γ.N=iZ):
  Ok P Γ ⟨iW d,.call { callee:=.value xf,args:=xs.toArray,argTypes:=ats },ty,ps,af,gd⟩ E (E.app (cWr d res []) (vU d [])):=
 fun _=>zPV f xf xs ats us res [] rfl rfl (yF sd) gx hf hc gp .nil gz
def zES(E:Env):List Operand->List T->Prop
 | [],[]=>True
 |x::xs,u::us=>(opT E x=iW u/\u.flat=iZ)/\zES E xs us
 |_,_=>False
theorem afN:zES E [] []:=trivial
theorem afC{x:Operand}{xs:List Operand}{u:T}{us:List T}(h:opT E x=iW u)(h1:u.flat=iZ)(h2:zES E xs us):zES E (x::xs) (u::us):=⟨⟨h,h1⟩,h2⟩
theorem zES.get:(xs:List Operand)->(us:List T)->zES E xs us-> ∀(i:Nat) u,us[i]? =iW u-> ∃x,xs[i]? =iW x/\opT E x=iW u/\u.flat=iZ
 | [],[],_,i,u,h=>by simp at h
 |x::xs,v::us,h,i,u,hi=>by
  cases i with
  |zero=>simp at hi;subst hi;exact⟨x,by simp,h.1⟩
  |succ i=>obtain⟨y,h1,h2⟩:=zES.get xs us h.2 i u (by simpa using hi);exact⟨y,by simpa using h1,h2⟩
 | [],_::_,h,_,_,_=>by simp[zES]at h
 |_::_,[],h,_,_,_=>by simp[zES]at h
theorem zQb{f:FuncId}{xs:List Operand}{ats:Array TypeId}{us res:List T}(gx:zB9 P f)(hc:FnC P f us res [])(ha:zES E xs us)(gn:xs.length=us.length)(gz:yZ res)(cv:yM res=iZ)(sd:J4 d Γ.N=iZ):
  Ok P Γ ⟨iW d,.call { callee:=.value (.func f),args:=xs.toArray,argTypes:=ats },ty,ps,af,gd⟩ E (E.app (cWr d res []) (vU d [])):=
 zX2 gx hc gn (zES.get _ _ ha) ⟨gz,cv⟩ sd
end
noncomputable def zDj {α:Type} (g:Nat->Option α):Option α:=
 open Classical in if h:∃r,∃n,∀m,n<=m->g m=iW r then iW h.choose else iY
theorem kE{α:Type}{g:Nat->Option α}{r:α}(h:zDj g=iW r):∃n,g n=iW r:=by
 unfold zDj at h;split at h
 ·rename_i he
  simp at h;obtain⟨n,hn⟩:=he.choose_spec;exact⟨n,by rw[<-h];exact hn n (Je _)⟩
 ·cases h
theorem zBA{α:Type}{g:Nat->Option α}{r:α}(n:Nat)(h:∀m,n<=m->g m=iW r):zDj g=iW r:=by have he:∃r,∃n,∀m,n<=m->g m=iW r:=⟨r,n,h⟩;unfold zDj;rw[dif_pos he];obtain⟨n',hn'⟩:=he.choose_spec;have h1:=h (max n n') (by omega);have h2:=hn' (max n n') (by omega);rw[h1]at h2;exact h2.symm
section
variable {P:Program}{Γ:Ctx}{ops:Array Oper}{o:Oper}{E:Env}
theorem yX.skipW{d:Nat}(hd:o.dst=iW d)(sd:J4 d Γ.N=iZ)(hw:∀(a:Act)(w:World),zAn Γ E a w->Region.wanted o (yielded ops a.tmps)=ja):yX P Γ ops o E (E.app [(d,iW (.tup []))] [(d,0)]):=by
 intro a w K Q hs hK;rw[if_neg (by grind)];obtain⟨S,hS,ej,G,gj⟩:=hs;refine hK _ _ ⟨S,hS,by rw[hd];exact ej,G.put d (fun _=>.bool ja),?_⟩ ?_
 ·rw[hd]
  have hu:(Value.bool ja).oneCell'=iZ:=rfl;refine vT gj (by simp[Act.put]) (G.put_keep rfl d _) (gj.mem.put rfl d _ fun _=>hu) ?_ ?_
  ·grind[sG,Act.put]
  ·intro s t' hs
   rw[sG]at hs;split at hs
   ·rename_i e;subst e
    simp at hs;subst hs;have gE:=gj.size;have gJ:=yF sd;refine⟨?_,by simp[R,RF],by simp[Top,uQ]⟩
    grind[Act.put,mkV,zAN,undef]
   ·cases hs
 grind[Act.put]
theorem yX.skip2{d:Nat}(g:Nat)(b b':Bool)(s:Nat)(hd:o.dst=iW d)(sd:J4 d Γ.N=iZ)(eO:(b==b')=ja)(hg:o.guard=iW (g,b))(gV:(ops[g]?).bind (·.dst)=iW s)(hb:E s=iW (.lit (.bool b'))):
  yX P Γ ops o E (E.app [(d,iW (.tup []))] [(d,0)]):=.skipW hd sd fun a w hs=>by
 simp only[Region.wanted,hg,zIl hs gV hb]
 grind
theorem yX.skip3{d:Nat}(g:Nat)(b:Bool)(s:Nat)(hd:o.dst=iW d)(sd:J4 d Γ.N=iZ)(hg:o.guard=iW (g,b))(gV:(ops[g]?).bind (·.dst)=iW s)(hb:E s=iW (.tup [])):
  yX P Γ ops o E (E.app [(d,iW (.tup []))] [(d,0)]):=.skipW hd sd fun a w hs=>by
 obtain⟨_,_,_,G,hr⟩:=hs;obtain⟨h1,_,_⟩:=hr.ent s _ hb
 grind[Region.wanted,yielded,mkV]
theorem yX.opE{E1 E':Env}(h:Ok P Γ o E E1)(e:E1=E')(hg:o.guard=iY:=by rfl):yX P Γ ops o E E':=e▸yX.op h hg
theorem yX.guardE{E1 E':Env}(g:Nat)(b:Bool)(s:Nat)(h:Ok P Γ o E E1)(hg:o.guard=iW (g,b))(gV:(ops[g]?).bind (·.dst)=iW s)(hb:E s=iW (.lit (.bool b)))(e:E1=E'):yX P Γ ops o E E':=e▸yX.guard g b s h hg gV hb
end
def xQ(Γ:Ctx)(P:Program)(rs:Array ResultVar)(us res:List T)(rws:List (Nat×T)):Exit->Env->Prop:=fun e E=> ∃E',zR Γ E E'/\yC8 P rs us res rws e E'
theorem FnC.of_bodyG{P:Program}{f:FuncId}{fn:Func}{c:Code}{us res:List T}{rws:List (Nat×T)}(hf:P.funcs[f]? =iW fn)(hb:fn.body=iW c)(hn:us.length<=fn.ntmps)(ht:uQ us)(hr:rws.all (fun x=>decide (x.1<us.length))=iZ)
  (h:∀(Γ:Ctx)(v:Nat->Value),Γ.N=fn.ntmps->CW P Γ (zDz v (rws.map (·.1))) c (vL (zJz 0 us)) (xQ Γ P fn.results us res rws)):FnC P f us res rws:=by
 refine FnC.of_body hf hb hn ht hr fun Γ v hN=>?_
 intro a w Q' hs hp hQ;refine h Γ v hN a w Q' hs hp ?_
 rintro e E a' w' ⟨E',hg,hq⟩ gU cH
 exact hQ e E' a' w' hq (hg a' w' gU) cH
def zX7(t:T):Prop:=yA t/\vK t=iZ/\strip t=t/\t.okTup=iZ/\zGk t=iZ
def zT3:List T->Prop
 | []=>True
 |x::xs=>zX7 x/\zT3 xs
theorem Enc.t{α:Type}{f:α->T}(h:Enc f)(x:α):zX7 (f x):=⟨h.clean x,h.rofree x,h.strip x,h.okTup x,h.rook x⟩
theorem Enc.of{α:Type}{f:α->T}(h:∀x,zX7 (f x)):Enc f:=⟨fun x=>(h x).1,fun x=>(h x).2.1,fun x=>(h x).2.2.1,fun x=>(h x).2.2.2.1,fun x=>(h x).2.2.2.2⟩
theorem zT4{xs:List T}(h:zT3 xs):zX7 (.agg xs):=by
 have key:∀xs:List T,zT3 xs->yZ xs/\uN xs=iZ/\wU xs=xs/\yM xs=iZ/\zCo xs=iZ:=by
  intro xs
  induction xs with
  |nil=>intro _;exact⟨trivial,rfl,rfl,rfl,rfl⟩
  |cons x xs ih=>
   rintro⟨⟨h1,h2,h3,h4,h5⟩,h⟩
   obtain⟨g1,g2,g3,g4,g5⟩:=ih h;exact⟨⟨h1,g1⟩,by grind[uN],by grind[wU],by grind[yM],by grind[zCo]⟩
 obtain⟨g1,g2,g3,g4,g5⟩:=key xs h;exact⟨zKX g1,by grind[vK],by grind[strip],by grind[T.okTup],by grind[zGk]⟩
section
variable {Γ:Ctx}{E:Env}{d:Nat}
def Gh.cut(G:Gh)(d s0 b lo hi:Nat)(v:Value):Gh where
 hd s z:=if s=d then(if z=[]then v else G.hd s0 z)else G.hd s z
 ad s z:=if s=d then G.ad s0 z else G.ad s z
 lb b' o:=if b'=b/\lo<=o/\o<hi then iW (iZ,d,[])else match G.lb b' o with
  |some (f,s,z)=>if s=s0 then iW (f,d,z)else iW (f,s,z)
  |none=>iY
 ow b':=match G.ow b' with
  |some (s,z)=>if s=s0 then iW (d,z)else iW (s,z)
  |none=>iY
theorem zQc{G:Gh}{tmps:Array Value}{w:World}(gj:Rep Γ E G tmps w)(hd:d<Γ.N){s0 k h cap':Nat}{xs:List T}(eJ:E s0=iW (.sl k xs))(gk:s0≠d)(hk:0<k)
  {b o0 cap:Nat}{cs:Array Value}{e:TypeId}(h1:G.hd s0 []=.slice (iW ⟨b,o0,iY⟩) xs.length cap)(h2:w.heap[b]? =iW (.cells cs e (0,0)))(_h3:xs.length<=cap)(h4:cap<=maxLen)(h5:o0+cap*k<=cs.size)(h6:G.ow b=iW (s0,[]))
  (h7:∀o,o0+xs.length*k<=o->o<o0+cap*k->G.lb b o=iW (iZ,s0,[]))(h8:RL Γ.St G w s0 xs [] 0 b o0 k)(hh:h<=xs.length)(hc:h<=cap')(fy:cap'<=cap):
  ∃G',Rep Γ (E.app [(d,iW (.sl k (xs.take h))),(s0,iW .any)] [(d,0),(s0,1)]) G' (tmps.setIfInBounds d (.slice (iW ⟨b,o0,iY⟩) h cap')) w:=by
 have hm:=gj.mem;obtain⟨e1,_,e3⟩:=gj.ent s0 _ eJ
 let v:Value:=.slice (iW ⟨b,o0,iY⟩) h cap'
 let G':=G.cut d s0 b (o0+h*k) (o0+cap'*k) v
 have gQ:=hm.ow b _ h6;have mu:∀o f z i,o0+h*k<=o->o<o0+cap'*k->G.lb b o=iW (f,s0,z++[i])->h<=i:=by
  intro o f z i pm pj hl;obtain⟨o,rfl⟩:∃o',o=o0+o':=⟨o-o0,by have:o0<=o0+h*k:=Nat.le_add_right _ _;omega⟩
  replace pm:h*k<=o:=by omega
  by_cases ho:o<xs.length*k
  ·have hj:o/k<xs.length:=(H1 hk).2 ho
   obtain⟨g1,g2,_⟩:=zAl xs [] 0 b o0 k (o/k) xs[o/k] h8 (by simp[hj]);obtain⟨y,hy⟩:=zKJ xs[o/k] _ b _ (o%k) g1 (by rw[g2];exact Hn _ hk);rw[Jc,H7,Nat.mul_comm,Lr,hl]at hy;simp only[Kt.injEq,Ja3.injEq]at hy;have:=hy.2.2;have hi:i=o/k:=by have:=congrArg List.getLast? this;simpa using this
   rw[hi];exact(Nat.le_div_iff_mul_le hk).2 pm
  ·have:=h7 (o0+o) (by omega) (by have:=Jw k fy;omega)
   rw[hl]at this;simp at this
 have glb:∀b' o f z,G.lb b' o=iW (f,s0,z)-> ¬(b'=b/\o0+h*k<=o/\o<o0+cap'*k)->G'.lb b' o=iW (f,d,z):=fun b' o f z hl hn=>by show(if _ then _ else _)=_;rw[if_neg hn];simp[hl]
 have gow:∀b' z,G.ow b'=iW (s0,z)->G'.ow b'=iW (d,z):=fun b' z hl=>by simp[G',Gh.cut,hl]
 have mv:∀i,i<h->zJE G w G' w s0 [i] d [i]:=fun i hi=>by
  have hn:∀b' o f z,G.lb b' o=iW (f,s0,z++[i])-> ¬(b'=b/\o0+h*k<=o/\o<o0+cap'*k):=by
   rintro b' o f z hl ⟨rfl,pm,pj⟩
   have:=mu o f z i pm pj hl;omega
  refine⟨⟨fun z=>by simp[G',Gh.cut],fun z _=>by simp[G',Gh.cut],fun b' o f z _ _ hl=>⟨glb _ _ _ _ hl (hn _ _ _ _ hl),rfl⟩,fun b' z _ hl=>gow _ _ hl,fun b' cs' e' hb=>⟨cs',hb,rfl⟩⟩,fun b' o _ hl=>⟨glb _ _ _ _ hl (hn b' o iZ [] (by simpa using hl)),rfl⟩,fun b' hl=>gow _ _ hl⟩
 have gB:kS [(d,0),(s0,1)] G w G' w:=by
  refine⟨fun s p ho=>?_,fun s p ho=>?_,fun b' o f s p ep hl hs=>?_,fun b' s p hl hs=>?_,fun b' cs' e' hb=>⟨cs',hb,rfl⟩⟩
  ·have:s≠d:=fun e=>absurd (ho 0 (by simp[e])) (by simp)
   simp[G',Gh.cut,this]
  ·have:s≠d:=fun e=>absurd (ho 0 (by simp[e])) (by simp)
   simp[G',Gh.cut,this]
  ·have eT:s≠s0:=fun e=>hs 1 (by simp[e])
   obtain⟨y,hy⟩:=ep;have eO:b'≠b:=by
    rintro rfl
    rw[h6]at hy;simp at hy;exact eT hy.1.symm
   refine⟨?_,rfl⟩;show(if _ then _ else _)=_;rw[if_neg (fun hn=>eO hn.1)];simp[hl,eT]
  ·have eT:s≠s0:=fun e=>hs 1 (by simp[e])
   simp[G',Gh.cut,hl,eT]
 have gu:Mem Γ G' w:=by
  refine⟨fun s z=>?_,fun b' o l hl=>?_,fun b' l hl=>?_,hm.st,hm.fr,hm.sz,hm.bk⟩
  ·show(if _ then _ else _:Value).oneCell'=iZ
   split
   ·split
    ·rfl
    ·exact hm.one _ _
   ·exact hm.one _ _
  ·change(if _ then _ else _)=_ at hl
   split at hl
   ·rename_i hn;rw[hn.1];exact gQ
   ·cases hg:G.lb b' o with
    |none=>simp[hg]at hl
    |some x=>exact hm.lb b' o x hg
  ·cases hg:G.ow b' with
   |none=>simp[G',Gh.cut,hg]at hl
   |some x=>exact hm.ow b' x hg
 refine⟨G',vT gj (by simp) gB gu ?_ ?_⟩
 ·intro s hs
  have pt:s≠d:=by rintro rfl;simp[Wr.find]at hs
  have cI:s≠s0:=by rintro rfl;simp[Wr.find,gk.symm]at hs
  exact⟨fun n hn=>by simp at hn;rcases hn with h|h;exact pt h.1;exact cI h.1,by rw[Jj];simp[pt.symm]⟩
 ·intro s t' hs
  by_cases eT:s=d
  ·subst eT
   simp[Wr.find]at hs;subst hs;have gn:(xs.take h).length=h:=by simp;omega
   simp only[Top]at e3;have hkc:∀ys:List T,yZ ys-> ∀n,yZ (ys.take n):=by
    intro ys
    induction ys with
    |nil=>intro _ n;simp[yZ,xN]
    |cons y ys ih=>intro hy n;cases n with
     |zero=>simp[yZ,xN]
     |succ n=>exact⟨hy.1,ih hy.2 n⟩
   refine⟨?_,?_,by simp only[Top];exact hkc xs e3 h⟩
   ·rw[Jj]
    simp[gj.size,hd,mkV,G',Gh.cut,v]
   ·simp only[R]
    refine .inr ⟨b,o0,cap',cs,e,by rw[gn];simp[G',Gh.cut,v],h2,by omega,by omega,by have:=Jw k fy;omega,gow b _ h6,fun o pm pj=>?_,?_⟩
    ·rw[gn]at pm
     show(if _ then _ else _)=_;rw[if_pos ⟨rfl,pm,pj⟩]
    ·refine zKL _ [] 0 b o0 fun i x hx=>?_
     rw[Hc]at hx;split at hx
     ·rename_i hi
      obtain⟨g1,g2,g3⟩:=zAl xs [] 0 b o0 k i x h8 hx;rw[Jc]at g1 g3 ⊢
      refine⟨?_,g2,zBp (mv i hi) x (yS.mono (fun _ _=>False.elim) _ (uS xs e3 i x hx)) g3⟩;refine zIc x [i] [i] b _ (fun z=>by simp[G',Gh.cut]) (fun z=>by simp[G',Gh.cut]) (fun b' o z hl=>⟨glb _ _ _ _ hl ?_,rfl⟩) g1
      rintro⟨rfl,pm,pj⟩
      have:=mu o ja z i pm pj hl;omega
     ·cases hx
  ·have h9:s=s0/\t'=.any:=by
    simp only[Wr.find]at hs;rw[if_neg (fun h=>eT h.symm)]at hs;split at hs
    ·rename_i h;simp at hs;exact⟨h.symm,hs.symm⟩
    ·cases hs
   obtain⟨rfl,rfl⟩:=h9;refine⟨?_,by simp only[R],by simp[Top]⟩;rw[Jj];simp only[Ne.symm eT,if_false,mkV];rw[e1,xS rfl];simp[G',Gh.cut,eT]
theorem zT5{G:Gh}{tmps:Array Value}{w:World}(gj:Rep Γ E G tmps w)(hd:d<Γ.N){s0 k:Nat}(eJ:E s0=iW (.sl k []))(gk:s0≠d)(a:Option Addr):
  ∃G',Rep Γ (E.app [(d,iW (.sl k [])),(s0,iW .any)] [(d,0),(s0,1)]) G' (tmps.setIfInBounds d (.slice a 0 0)) w:=by
 obtain⟨e1,_,_⟩:=gj.ent s0 _ eJ;refine⟨G.put d (fun _=>.slice a 0 0),?_⟩;have hk:kS [(d,0),(s0,1)] G w (G.put d fun _=>.slice a 0 0) w:=by have h0:=G.put_keep (w:=w) (w':=w) rfl d (fun _=>.slice a 0 0);refine⟨fun s p ho=>h0.hd s p (fun n hn=>ho n (by simp at hn ⊢;exact .inl hn)),fun s p ho=>h0.ad s p (fun n hn=>ho n (by simp at hn ⊢;exact .inl hn)),fun b o f s p h1 h2 h3=>h0.lb b o f s p h1 h2 (fun n hn=>h3 n (by simp at hn ⊢;exact .inl hn)),fun b s p h1 h3=>h0.ow b s p h1 (fun n hn=>h3 n (by simp at hn ⊢;exact .inl hn)),h0.blk⟩
 refine vT gj (by simp) hk (gj.mem.put rfl d _ (fun _=>rfl)) ?_ ?_
 ·intro s hs
  have pt:s≠d:=by rintro rfl;simp[Wr.find]at hs
  have cI:s≠s0:=by rintro rfl;simp[Wr.find,gk.symm]at hs
  exact⟨fun n hn=>by simp at hn;rcases hn with h|h;exact pt h.1;exact cI h.1,by rw[Jj];simp[pt.symm]⟩
 ·intro s t' hs
  by_cases eT:s=d
  ·subst eT
   simp[Wr.find]at hs;subst hs;refine⟨by rw[Jj];simp[gj.size,hd,mkV,Gh.put],by simp only[R];exact .inl ⟨trivial,a,by simp[Gh.put]⟩,by simp[Top,yZ,xN]⟩
  ·have h9:s=s0/\t'=.any:=by
    simp only[Wr.find]at hs;rw[if_neg (fun h=>eT h.symm)]at hs;split at hs
    ·rename_i h;simp at hs;exact⟨h.symm,hs.symm⟩
    ·cases hs
   obtain⟨rfl,rfl⟩:=h9;refine⟨?_,by simp only[R],by simp[Top]⟩;rw[Jj];simp only[Ne.symm eT,if_false,mkV];rw[e1,xS rfl];simp[Gh.put,eT]
end
section
variable {P:Program}{Γ:Ctx}{pn:kT}{E E':Env}{Q:Exit->Env->Prop}{d:Nat}{x y:Operand}{ty:TypeId}{ps:String}{af:Array Edge}{gd:Option (Nat×Bool)}
theorem zZM{α:Type}{t e:TypeId}{ti:TypeInfo}{s0 k:Nat}{f:α->T}{xs ys:List α}{mx:Option Operand}{h:Int}{u:T}(ht:ElT P t e ti k u)(hv:zL xs 0 h=iW ys)(h0:E s0=iW (L k f xs))(hy:opT E y=iW (I h))(hmx:mx=iY\/ ∃z,mx=iW z/\opT E z=iW (I h))(sd:(J4 d Γ.N&&(s0 != d))=iZ):
  Ok P Γ ⟨iW d,.slice t (.tmp s0) iY (iW y) mx,ty,ps,af,gd⟩ E (E.app [(d,iW (L k f ys)),(s0,iW .any)] [(d,0),(s0,1)]):=by
 obtain⟨_,bS,eW,rfl⟩:=qB hv;simp only[J3]at sd;have gk:s0≠d:=by simpa using sd.2
 obtain⟨n,rfl⟩:∃n:Nat,h=n:=⟨h.toNat,by omega⟩;have hn:n<=xs.length:=by omega
 intro S;refine wD.value rfl fun a w G gj=>?_
 obtain⟨e1,e2,_⟩:=gj.ent s0 _ h0;have fj:=(yY gj hy).1;have be:a.eval (.tmp s0)=G.hd s0 []:=by rw[xX e1,xS rfl]
 have pQ:=ht.un;have gS:=ht.info;have gE:=ht.size;have mR:List.map f ((xs.drop (0:Int).toNat).take ((n:Int).toNat-(0:Int).toNat))=(xs.map f).take n:=by simp[Ue]
 rw[show L k f ((xs.drop (0:Int).toNat).take ((n:Int).toNat-(0:Int).toNat))=.sl k ((xs.map f).take n)by simp only[L,mR]];have e2':=e2;simp only[R]at e2;rcases e2 with⟨ij,ad,h1⟩|⟨b,o0,cap,cs,e',h1,h2,h3,h4,h5,h6,h7,h8⟩
 ·have fm:xs=[]:=by simpa using ij
  subst fm;simp at hn;subst hn;obtain⟨G',gw⟩:=zT5 gj (yF sd.1) (k:=k) (by rw[h0];rfl) gk ad;refine⟨_,w,?_,G',by simpa using gw⟩;rcases hmx with rfl|⟨z,rfl,hz⟩
  ·simp[execOp,Instr.sliceAt,Instr.slice,run_underlying pQ,be,h1,fj,sizeOf,typeInfo,gS,Instr.sliceBounds,Instr.sliceBound,asIntOf]
  ·have mA:=(yY gj hz).1
   simp[execOp,Instr.sliceAt,Instr.slice,run_underlying pQ,be,h1,fj,mA,sizeOf,typeInfo,gS,Instr.sliceBounds,Instr.sliceBound,asIntOf]
 ·rw[Jg]at h1 h3
  have cV:n<=cap:=by omega
  have cz:cap=0->n=0:=by omega
  rcases hmx with rfl|⟨z,rfl,hz⟩
  ·obtain⟨G',gw⟩:=zQc gj (yF sd.1) h0 gk ht.pos (by rw[Jg];exact h1) h2 (by rw[Jg];exact h3) h4 h5 h6 h7 h8 (h:=n) (cap':=cap) (by simpa using hn) cV (Je _)
   refine⟨_,w,?_,G',gw⟩;simp[execOp,Instr.sliceAt,Instr.slice,run_underlying pQ,be,h1,fj,sizeOf,typeInfo,gS,Instr.sliceBounds,Instr.sliceBound,asIntOf,cV,uE]
  ·have mA:=(yY gj hz).1
   obtain⟨G',gw⟩:=zQc gj (yF sd.1) h0 gk ht.pos (by rw[Jg];exact h1) h2 (by rw[Jg];exact h3) h4 h5 h6 h7 h8 (h:=n) (cap':=n) (by simpa using hn) (Je _) cV;refine⟨_,w,?_,G',gw⟩;simp[execOp,Instr.sliceAt,Instr.slice,run_underlying pQ,be,h1,fj,mA,sizeOf,typeInfo,gS,Instr.sliceBounds,Instr.sliceBound,asIntOf,cV,uE]
end
section
variable {P:Program}{Γ:Ctx}{pn:kT}{E E':Env}{Q:Exit->Env->Prop}{d:Nat}{x y:Operand}{ty:TypeId}{ps:String}{af:Array Edge}{gd:Option (Nat×Bool)}{ops:Array Oper}{os:List Oper}
theorem zR9{P:Program}{w:World}{t e:TypeId}{a:Option Addr}{n c:Nat}(m:Nat)(h:P.underlying t=iW (.slice e)):(Op.equalIn (m+1) t (.slice a n c) (.slice iY 0 0)).run P w=.ok a.isNone w:=by simp only[Op.equalIn,Sem.run_bind,run_underlying h];cases a<;>rfl
theorem RW.isnil{α:Type}{xt yt e:TypeId}{r k:Nat}{q:List Nat}{f:α->T}{xs:List α}{u:T}(hu:P.underlying xt=iW (.slice e))(hx:tT E x=iW (r,q,u))(fU:u=.ro (L k f xs)\/u=L k f xs)(sd:J4 d Γ.N=iZ)(hp:pn.ok (iW d)=iZ)
  (h:∀b,(b=iZ->xs=[])->RW P Γ pn ops os (E.app [(d,iW (B b))] [(d,0)]) Q):RW P Γ pn ops (⟨iW d,.binOp .eql xt x (.const (.slice iY 0 0)) yt,ty,ps,af,iY⟩::os) E Q:=by
 intro a w Q' hs fI hQ;obtain⟨S,hS,ej,G,gj⟩:=id hs;have fO:u.single=iZ:=by rcases fU with rfl|rfl<;>rfl
 obtain⟨h1,h2⟩:=jZ gj hx fO;obtain⟨ad,n,c,h3,h4⟩:∃ad n c,a.eval x=.slice ad n c/\(ad.isNone=iZ->xs=[]):=by
  rcases fU with rfl|rfl
  ·obtain⟨ad,c,g1,_,_,g2⟩:=zDZ h1
   refine⟨ad,_,c,by rw[h2,g1],fun hn=>?_⟩;apply Classical.byContradiction;intro gk;obtain⟨b,o',_,_,_,rfl,_⟩:=g2 (by simpa using gk);simp at hn
  ·simp only[R]at h1
   rcases h1 with⟨g1,ad,g2⟩|⟨b,_,cap,cs,e',g1,_⟩
   ·exact⟨ad,0,0,by rw[h2,g2],fun _=>by simpa using g1⟩
   ·exact⟨_,_,_,by rw[h2,g1],fun hn=>by simp at hn⟩
 have gD:(execOp a.eval ⟨iW d,.binOp .eql xt x (.const (.slice iY 0 0)) yt,ty,ps,af,iY⟩).run P w=.ok (.value (.bool ad.isNone)) w:=by have h5:(Op.equalIn 10000 xt (.slice ad n c) (.slice iY 0 0)).run P w=.ok ad.isNone w:=zR9 9999 hu;have h6:a.eval (.const (.slice iY 0 0))=.slice iY 0 0:=rfl;simp[execOp,h3,h6,eqGuard,binOp,zIv,h5]
 simp only[wpL,Region.wanted,if_true];refine .inl ?_;unfold Oper.wp;rw[gD,Oper.upon_value];have fE:=vM gj rfl (yF sd) (fun _=>.bool ad.isNone) (fun _=>rfl) (B ad.isNone) (.bool ad.isNone) (by simp[mkV,Gh.put]) (by simp[R,Gh.put]) (by simp[Top]);refine h ad.isNone h4 _ w Q' ⟨S,hS,ej,_,fE⟩ ?_ hQ;refine fI.frame hp fun s gU=>?_
 have:d≠s:=fun e=>gU (by rw[e])
 simp[Act.put,Array.getElem?_setIfInBounds_ne this]
theorem zM1{t e:TypeId}(hu:P.underlying t=iW (.slice e))(hx:opT E x=iW (.lit (.slice iY 0 0)))(sd:J4 d Γ.N=iZ):Ok P Γ ⟨iW d,.call { callee:=.builtin .len,args:=#[x],argTypes:=#[t] },ty,ps,af,gd⟩ E (E.app [(d,iW (I 0))] [(d,0)]):=by
 intro S;refine tW (.int .i64 0) rfl rfl (yF sd) fun a w G gj=>?_
 have h1:=(yY gj hx).1;simp[execOp,resolve,invoke,builtin,h1,Builtin.len_,run_underlying hu,goInt]
theorem zM2{t e:TypeId}(hu:P.underlying t=iW (.slice e))(hx:opT E x=iW (.lit (.slice iY 0 0)))(sd:J4 d Γ.N=iZ):Ok P Γ ⟨iW d,.call { callee:=.builtin .cap,args:=#[x],argTypes:=#[t] },ty,ps,af,gd⟩ E (E.app [(d,iW (I 0))] [(d,0)]):=by
 intro S;refine tW (.int .i64 0) rfl rfl (yF sd) fun a w G gj=>?_
 have h1:=(yY gj hx).1;simp[execOp,resolve,invoke,builtin,h1,Builtin.cap_,run_underlying hu,goInt]
theorem zX8{t e:TypeId}{ti:TypeInfo}{u:T}{k:Nat}(ht:ElT P t e ti k u)(hx:opT E x=iW (.lit (.slice iY 0 0)))(hy:opT E y=iW (I 0))(sd:J4 d Γ.N=iZ):Ok P Γ ⟨iW d,.slice t x iY (iW y) iY,ty,ps,af,gd⟩ E (E.app [(d,iW (.sl k []))] [(d,0)]):=by
 intro S;refine wD.value rfl fun a w G gj=>?_
 have h1:=(yY gj hx).1;have h2:=(yY gj hy).1;refine⟨.slice iY 0 0,w,?_,_,vM gj rfl (yF sd) (fun _=>.slice iY 0 0) (fun _=>rfl) (.sl k []) (.slice iY 0 0) (by simp[mkV,Gh.put]) (by simp[R,Gh.put]) (by simp[Top,yZ,xN])⟩;simp[execOp,Instr.sliceAt,Instr.slice,run_underlying ht.un,h1,h2,sizeOf,typeInfo,ht.info,Instr.sliceBounds,Instr.sliceBound,asIntOf]
theorem zR.nil(s k:Nat)(hs:E s=iW (.lit (.slice iY 0 0))):zR Γ E (E.app [(s,iW (.sl k []))] [(s,0)]):=by
 rintro a w ⟨S,hS,ej,G,gj⟩
 refine⟨S,hS,ej,G,?_⟩;have hk:kS [(s,0)] G w G w:=⟨fun _ _ _=>rfl,fun _ _ _=>rfl,fun _ _ _ _ _ _ h _=>⟨h,rfl⟩,fun _ _ _ h _=>h,fun b cs e h=>⟨cs,h,rfl⟩⟩;refine vT gj rfl hk gj.mem (fun s' gU=>⟨fun n hn=>?_,rfl⟩) fun s' t gU=>?_
 ·simp at hn
  simp[Wr.find,hn.1]at gU
 ·simp only[Wr.find]at gU
  split at gU
  ·rename_i e;subst e
   simp at gU;subst gU;obtain⟨h1,h2,_⟩:=gj.ent s _ hs;simp only[R]at h2;exact⟨by rw[h1];rfl,by simp only[R];exact .inl ⟨trivial,iY,h2⟩,by simp[Top,yZ,xN]⟩
  ·cases gU
theorem zH8{src dst:TypeId}{ds:TypeDesc}{k k':IntKind}{n:Int}(hs:P.underlying src=iW ds)(ht:P.underlying dst=iW (.int k'))(hx:opT E x=iW (IK k n))(sd:J4 d Γ.N=iZ):
  Ok P Γ ⟨iW d,.convert src dst x,ty,ps,af,gd⟩ E (E.app [(d,iW (IK k' (k'.wrap n)))] [(d,0)]):=fun _=>zXp src dst ds x k k' n rfl rfl (yF sd) hs ht hx
theorem yAE{k:IntKind}{m n:Int}{xt yt:TypeId}(hx:opT E x=iW (IK k m))(hy:opT E y=iW (IK k n))(sd:J4 d Γ.N=iZ):Ok P Γ ⟨iW d,.binOp .add xt x y yt,ty,ps,af,gd⟩ E (E.app [(d,iW (IK k (k.wrap (m+n))))] [(d,0)]):=
 fun _=>uL .add xt yt x y k m n _ rfl rfl (yF sd) hx hy rfl
theorem yAF{k:IntKind}{m n:Int}{xt yt:TypeId}(hx:opT E x=iW (IK k m))(hy:opT E y=iW (IK k n))(sd:J4 d Γ.N=iZ):Ok P Γ ⟨iW d,.binOp .mul xt x y yt,ty,ps,af,gd⟩ E (E.app [(d,iW (IK k (k.wrap (m*n))))] [(d,0)]):=
 fun _=>uL .mul xt yt x y k m n _ rfl rfl (yF sd) hx hy rfl
theorem yAG{k:IntKind}{m n:Int}{xt yt:TypeId}(hx:opT E x=iW (IK k m))(hy:opT E y=iW (IK k n))(sd:J4 d Γ.N=iZ):Ok P Γ ⟨iW d,.binOp .sub xt x y yt,ty,ps,af,gd⟩ E (E.app [(d,iW (IK k (k.wrap (m-n))))] [(d,0)]):=
 fun _=>uL .sub xt yt x y k m n _ rfl rfl (yF sd) hx hy rfl
theorem zOx{k:IntKind}{m n:Int}{xt yt:TypeId}(hx:opT E x=iW (IK k m))(hy:opT E y=iW (IK k n))(sd:J4 d Γ.N=iZ):Ok P Γ ⟨iW d,.binOp .gtr xt x y yt,ty,ps,af,gd⟩ E (E.app [(d,iW (B (decide (m> n))))] [(d,0)]):=
 fun _=>uL .gtr xt yt x y k m n _ rfl rfl (yF sd) hx hy rfl
theorem yAH{k:IntKind}{m n:Int}{xt yt:TypeId}(hx:opT E x=iW (IK k m))(hy:opT E y=iW (IK k n))(sd:J4 d Γ.N=iZ):Ok P Γ ⟨iW d,.binOp .eql xt x y yt,ty,ps,af,gd⟩ E (E.app [(d,iW (B (m==n)))] [(d,0)]):=
 fun _=>uL .eql xt yt x y k m n _ rfl rfl (yF sd) hx hy rfl
theorem yAI{k:IntKind}{m n:Int}{xt yt:TypeId}(hx:opT E x=iW (IK k m))(hy:opT E y=iW (IK k n))(sd:J4 d Γ.N=iZ):Ok P Γ ⟨iW d,.binOp .lss xt x y yt,ty,ps,af,gd⟩ E (E.app [(d,iW (B (decide (m<n))))] [(d,0)]):=
 fun _=>uL .lss xt yt x y k m n _ rfl rfl (yF sd) hx hy rfl
def zHy(k:IntKind)(m n:Int):Int:=k.wrap ((BitVec.ofInt k.bits m &&& BitVec.ofInt k.bits n).toNat:Int)
theorem yAJ{k:IntKind}{m n:Int}{xt yt:TypeId}(hx:opT E x=iW (IK k m))(hy:opT E y=iW (IK k n))(sd:J4 d Γ.N=iZ):Ok P Γ ⟨iW d,.binOp .and xt x y yt,ty,ps,af,gd⟩ E (E.app [(d,iW (IK k (zHy k m n)))] [(d,0)]):=by
 intro S;refine tW (.int k (zHy k m n)) rfl rfl (yF sd) fun a w G gj=>?_
 have h1:=(yY gj hx).1;have h2:=(yY gj hy).1;simp[execOp,h1,h2,eqGuard,binOp,Op.intBits,zHy]
theorem yAK{k k':IntKind}{m n:Int}{xt yt:TypeId}(hn:0<=n)(hx:opT E x=iW (IK k m))(hy:opT E y=iW (IK k' n))(sd:J4 d Γ.N=iZ):Ok P Γ ⟨iW d,.binOp .shr xt x y yt,ty,ps,af,gd⟩ E (E.app [(d,iW (IK k (m.fdiv (2 ^ (min n.toNat k.bits)))))] [(d,0)]):=by
 intro S;refine tW (.int k (m.fdiv (2 ^ (min n.toNat k.bits)))) rfl rfl (yF sd) fun a w G gj=>?_
 have h1:=(yY gj hx).1;have h2:=(yY gj hy).1;have h3:¬n<0:=by omega
 simp[execOp,h1,h2,eqGuard,binOp,Op.shift,h3]
end
structure zT6 (P:Program) (f:Field) (i:Nat):Prop where
 name:f.name≠ "_"
 off:f.offset=i
 ty:P.underlying f.type=iW (.int .i64)
class zX9 (P:Program) (t:TypeId):Prop where
 h:∃f0 f1 f2 f3:Field,P.underlying t=iW (.struct #[f0,f1,f2,f3])/\zT6 P f0 0/\zT6 P f1 1/\zT6 P f2 2/\zT6 P f3 3
 st:P.stoodInHeld t=ja
 gd:P.eqGuardType P.depth t=ja
theorem zF1{P:Program}{w:World}{f:Field}{i:Nat}(h:zT6 P f i)(cs:Array Value)(v:Value)(hv:cs[i]? =iW v):(part f.type cs f.offset).run P w=.ok v w:=by simp[part,zAo h.ty,zGf,h.off,hv]
theorem zT7{P:Program}{w:World}{t:TypeId}(h:zX9 P t)(a b c d a' b' c' d':Int)(m:Nat):
  (Op.equalIn (m+2) t (.agg #[.int .i64 a,.int .i64 b,.int .i64 c,.int .i64 d]) (.agg #[.int .i64 a',.int .i64 b',.int .i64 c',.int .i64 d'])).run P w=.ok (a==a'&&(b==b'&&(c==c'&&d==d'))) w:=by
 obtain⟨f0,f1,f2,f3,h1,g0,g1,g2,g3⟩:=h.h;have k0:=fun(x y:Int)=>zH7 (P:=P) (w:=w) (a:=x) (b:=y) m g0.ty
 have k1:=fun(x y:Int)=>zH7 (P:=P) (w:=w) (a:=x) (b:=y) m g1.ty
 have k2:=fun(x y:Int)=>zH7 (P:=P) (w:=w) (a:=x) (b:=y) m g2.ty
 have k3:=fun(x y:Int)=>zH7 (P:=P) (w:=w) (a:=x) (b:=y) m g3.ty
 have gM:=h.st;rw[Op.equalIn];simp only[Sem.run_bind,run_underlying h1];have q0:=fun(a b c d:Int)=>zF1 (w:=w) g0 #[.int .i64 a,.int .i64 b,.int .i64 c,.int .i64 d] (.int .i64 a) rfl
 have q1:=fun(a b c d:Int)=>zF1 (w:=w) g1 #[.int .i64 a,.int .i64 b,.int .i64 c,.int .i64 d] (.int .i64 b) rfl
 have q2:=fun(a b c d:Int)=>zF1 (w:=w) g2 #[.int .i64 a,.int .i64 b,.int .i64 c,.int .i64 d] (.int .i64 c) rfl
 have q3:=fun(a b c d:Int)=>zF1 (w:=w) g3 #[.int .i64 a,.int .i64 b,.int .i64 c,.int .i64 d] (.int .i64 d) rfl
 by_cases e0:a=a'<;>by_cases e1:b=b'<;>by_cases e2:c=c'<;>by_cases e3:d=d'<;>
  simp[gM,g0.name,g1.name,g2.name,g3.name,q0,q1,q2,q3,k0,k1,k2,k3,e0,e1,e2,e3]
section
variable {P:Program}{Γ:Ctx}{E E':Env}{d:Nat}{x y:Operand}{ty:TypeId}{ps:String}{af:Array Edge}{gd:Option (Nat×Bool)}
theorem yAL{t t':TypeId}{s s':Nat}{a b c e a' b' c' e':Int}(h:zX9 P t)(hx:E s=iW (.agg [I a,I b,I c,I e]))(hy:E s'=iW (.agg [I a',I b',I c',I e']))(sd:J4 d Γ.N=iZ):
  Ok P Γ ⟨iW d,.binOp .eql t (.tmp s) (.tmp s') t',ty,ps,af,gd⟩ E (E.app [(d,iW (B (a==a'&&(b==b'&&(c==c'&&e==e')))))] [(d,0)]):=by
 intro S;refine tW _ rfl rfl (yF sd) fun A w G gj=>?_
 obtain⟨h1,h2,_⟩:=gj.ent s _ hx;obtain⟨h3,h4,_⟩:=gj.ent s' _ hy;simp only[R,RF]at h2 h4;have e1:A.eval (.tmp s)=.agg #[.int .i64 a,.int .i64 b,.int .i64 c,.int .i64 e]:=by rw[xX h1];simp[mkV,yH,vals,h2]
 have e2:A.eval (.tmp s')=.agg #[.int .i64 a',.int .i64 b',.int .i64 c',.int .i64 e']:=by rw[xX h3];simp[mkV,yH,vals,h4]
 have h5:(Op.equalIn 10000 t (.agg #[.int .i64 a,.int .i64 b,.int .i64 c,.int .i64 e]) (.agg #[.int .i64 a',.int .i64 b',.int .i64 c',.int .i64 e'])).run P w=_:=zT7 (w:=w) h a b c e a' b' c' e' 9998;have hg:=h.gd;simp[execOp,e1,e2,eqGuard,binOp,zIv,h5,hg]
end
abbrev vI(n:Int):Value:=.int .i64 n
section
variable {Γ:Ctx}{E:Env}
theorem zM3{G:Gh}{tmps:Array Value}{w w':World}(gj:Rep Γ E G tmps w){s0:Nat}{xs us:List Int}(eJ:E s0=iW (L 1 I xs))(gn:us.length=xs.length)
  {b o0 cap:Nat}{cs cs':Array Value}{e:TypeId}(h1:G.hd s0 []=.slice (iW ⟨b,o0,iY⟩) xs.length cap)(h2:w.heap[b]? =iW (.cells cs e (0,0)))(h3:xs.length<=cap)(h4:cap<=maxLen)(h5:o0+cap*1<=cs.size)(h6:G.ow b=iW (s0,[]))
  (h7:∀o,o0+xs.length*1<=o->o<o0+cap*1->G.lb b o=iW (iZ,s0,[]))(h8:RL Γ.St G w s0 (xs.map I) [] 0 b o0 1)
  (k1:w'.heap[b]? =iW (.cells cs' e (0,0)))(k2:cs'.size=cs.size)(k3:∀b',b'≠b->w'.heap[b']? =w.heap[b']?)(k4:w'.heap.size=w.heap.size)(ko:w'.os=w.os)(kq:w'.output=w.output)(k5:∀(i:Nat) u,us[i]? =iW u->cs'[o0+i]? =iW (vI u)):
  ∃G',Rep Γ (E.app [(s0,iW (L 1 I us))] [(s0,1)]) G' tmps w':=by
 have hm:=gj.mem;obtain⟨e1,_,_⟩:=gj.ent s0 _ eJ;have gQ:=hm.ow b _ h6
 let G':Gh:={ G with hd:=fun s z=>if s=s0 then(match z with
  | [i]=>(match us[i]? with
   |some u=>vI u
   |none=>G.hd s0 z)
  |_=>G.hd s0 z)else G.hd s z }
 have hB:Blk w w':=by
  intro b' cs2 e2 hb
  by_cases eO:b'=b
  ·subst eO
   rw[h2]at hb;simp at hb;obtain⟨rfl,rfl⟩:=hb;exact⟨cs',k1,k2⟩
  ·exact⟨cs2,by rw[k3 b' eO];exact hb,rfl⟩
 have gB:kS [(s0,1)] G w G' w':=by
  refine⟨fun s p ho=>?_,fun _ _ _=>rfl,fun b' o f s p ep hl hs=>⟨hl,?_⟩,fun _ _ _ hl _=>hl,hB⟩
  ·by_cases h:s=s0
   ·subst h
    have:p=[]:=K6 (by have:=ho 1 (by simp);omega);subst this;simp[G']
   ·simp[G',h]
  ·have eT:s≠s0:=fun e=>hs 1 (by simp[e])
   obtain⟨y,hy⟩:=ep;have eO:b'≠b:=by
    rintro rfl
    rw[h6]at hy;simp at hy;exact eT hy.1.symm
   simp[yL,World.cell?,k3 b' eO]
 have gu:Mem Γ G' w':=by
  refine⟨fun s z=>?_,fun b' o l hl=>?_,fun b' l hl=>?_,fun b' x hx=>?_,fun b' h h'=>?_,by rw[k4];exact hm.sz,hm.bk.trans hB ko kq⟩
  ·show(if _ then _ else _:Value).oneCell'=iZ
   split
   ·split
    ·split
     ·rfl
     ·exact hm.one _ _
    ·exact hm.one _ _
   ·exact hm.one _ _
  ·have:=hm.lb b' o l hl;exact⟨by rw[k4];exact this.1,this.2⟩
  ·have:=hm.ow b' l hl;exact⟨by rw[k4];exact this.1,this.2⟩
  ·have:b'≠b:=by rintro rfl;rw[gQ.2.2]at hx;cases hx
   rw[k3 b' this];exact hm.st b' x hx
  ·have:b'≠b:=by
    rintro rfl
    rcases gQ.2.1 with h0|h0
    ·omega
    ·exact h' h0
   rw[k3 b' this];exact hm.fr b' h h'
 refine⟨G',vT gj rfl gB gu ?_ ?_⟩
 ·intro s hs
  rw[sG]at hs;split at hs
  ·cases hs
  ·rename_i gk
   exact⟨fun n hn=>gk (by simp at hn;exact hn.1.symm),rfl⟩
 ·intro s t' hs
  rw[sG]at hs;split at hs
  ·rename_i he;subst he
   simp at hs;subst hs;refine⟨by rw[e1];simp[mkV,G'],?_,by simp only[Top];exact zEQ zPY us⟩;simp only[R];refine .inr ⟨b,o0,cap,cs',e,by simp[G',h1,gn],k1,by simp[gn];exact h3,h4,by omega,h6,fun o pm pj=>h7 o (by simpa[gn]using pm) pj,?_⟩;refine zKL _ [] 0 b o0 fun i x hx=>?_
   rw[Jx,Kl]at hx;obtain⟨u,hu,rfl⟩:=hx;have hi:=(Jm.1 hu).1;obtain⟨g1,g2,_⟩:=zAl _ [] 0 b o0 1 i (I xs[i]) h8 (by simp[show i<xs.length by omega]);simp only[Jc,Gx,Loc]at g1 ⊢
   refine⟨⟨g1.1,g1.2.1,?_⟩,rfl,by simp[R,G',hu]⟩;have:=k5 i u hu;simp[yL,World.cell?,k1,this,G',hu]
  ·cases hs
def zHf(P:Program)(Γ:Ctx)(E:Env)(y:Operand)(ys:List Int):Prop:=∀(a:Act)(w:World)(G:Gh),Rep Γ E G a.tmps w-> ∃xa c,a.eval y=.slice xa ys.length c/\
 ∀(n:Nat),n<=ys.length->(Builtin.firstCells 1 n (.slice xa ys.length c)).run P w=.ok ((ys.take n).map vI).toArray w
theorem zDk{P:Program}{w:World}{b o:Nat}{cs:Array Value}{e:TypeId}{fr:Nat×Nat}(hb:w.heap[b]? =iW (.cells cs e fr))(ys:List Int)(hv:∀(i:Nat) u,ys[i]? =iW u->cs[o+i]? =iW (vI u))(n:Nat)(hn:n<=ys.length)(len cap:Nat):
  (Builtin.firstCells 1 n (.slice (iW ⟨b,o,iY⟩) len cap)).run P w=.ok ((ys.take n).map vI).toArray w:=by
 refine run_firstCells_some (P:=P) w 1 n ⟨b,o,iY⟩ len cap _ (by simp;omega) fun j v hj=>?_
 rw[Jx,Kl]at hj;obtain⟨u,hu,rfl⟩:=hj;rw[Hc]at hu;split at hu
 ·rw[uE]
  have:=hv j u hu;simp[World.cell?,hb,this]
 ·cases hu
theorem zD2{P:Program}{w:World}{a:Option Addr}{c:Nat}:(Builtin.firstCells 1 0 (.slice a 0 c)).run P w=.ok #[] w:=by cases a<;>simp[Builtin.firstCells,loadCells,loadCellsFrom]
theorem zHf.ro{P:Program}{y:Operand}{ys:List Int}{r:Nat}{q:List Nat}(h:tT E y=iW (r,q,.ro (L 1 I ys))):zHf P Γ E y ys:=fun a w G gj=>by
 obtain⟨h1,h2⟩:=jZ gj h rfl;obtain⟨xa,c,g1,_,_,g2⟩:=zDZ h1;rw[Jg]at g1;refine⟨xa,c,by rw[h2,g1],fun n hn=>?_⟩
 by_cases hy:ys=[]
 ·subst hy
  simp at hn;subst hn;simpa using zD2
 ·obtain⟨b,o,cs,e,fr,rfl,g3,g4⟩:=g2 (by simpa using hy)
  refine zDk (gj.mem.st b _ g3) ys (fun i u hu=>?_) n hn _ _;have:=zH4 _ cs o 1 i (I u) g4 (by simp[hu]);simp only[RoC,Gx]at this;exact this.1
theorem zQd{G:Gh}{w:World}{s b o0:Nat}{q:List Nat}{cs:Array Value}{e:TypeId}{xs:List Int}{St:Stb}(h2:w.heap[b]? =iW (.cells cs e (0,0)))(h8:RL St G w s (xs.map I) q 0 b o0 1)(i:Nat)(u:Int)(hu:xs[i]? =iW u):cs[o0+i]? =iW (vI u):=by obtain⟨g1,_,g3⟩:=zAl _ q 0 b o0 1 i (I u) h8 (by simp[hu]);simp only[Loc,R,Jc,Gx]at g1 g3;have:=g1.2.2;simp only[yL,World.cell?,h2]at this;simpa[g3]using this
theorem zHf.sub{P:Program}{s r:Nat}{q:List Nat}{tr:T}{xs ys:List Int}{l h:Int}(hs:E s=iW (.sub r q 1 l.toNat h.toNat))(hr:E r=iW tr)(hg:tr.get q.reverse=iW (L 1 I xs))(hv:zL xs l h=iW ys):zHf P Γ E (.tmp s) ys:=fun a w G gj=>by
 obtain⟨k1,k2,k3,rfl⟩:=qB hv;obtain⟨e1,e2,_⟩:=gj.ent s _ hs;obtain⟨_,e4,_⟩:=gj.ent r _ hr;simp only[R]at e2;have h5:=(zBk q.reverse tr _ [] e4 hg).1;simp only[rp,K8,J9,R]at h5;have gn:((xs.drop l.toNat).take (h.toNat-l.toNat)).length=h.toNat-l.toNat:=by simp;omega
 rw[gn];have be:a.eval (.tmp s)=G.hd s []:=by rw[xX e1,xS rfl]
 rcases h5 with⟨g1,ad,g2⟩|⟨b,o0,cap,cs,e,g1,g2,g3,_,_,_,_,g8⟩
 ·have hy:xs=[]:=by simpa using g1
  subst hy;have hl0:l.toNat=0:=by simp at k3;omega
  have bN:h.toNat=0:=by simp at k3;omega
  refine⟨ad,0,by rw[be,e2,g2,hl0,bN];simp[zB3],fun n hn=>?_⟩;simp[bN]at hn;subst hn;rw[hl0,bN];simpa using zD2
 ·rw[Jg]at g1 g3
  refine⟨if cap=l.toNat then iW ⟨b,o0,iY⟩else iW ⟨b,o0+l.toNat,iY⟩,cap-l.toNat,by rw[be,e2,g1];simp only[zB3,H6,uE,Gx],fun n hn=>?_⟩;split
  ·have:n=0:=by omega
   subst this;simp[Builtin.firstCells,loadCells,loadCellsFrom]
  ·refine zDk g2 _ (fun i u hu=>?_) n (by rw[gn];exact hn) _ _
   rw[Hc]at hu;split at hu
   ·rw[Lt]at hu
    rw[H7];exact zQd g2 g8 _ u hu
   ·cases hu
def zD3(Γ:Ctx)(E:Env)(x:Operand)(s0 lo hi:Nat):Prop:=∀(a:Act)(w:World)(G:Gh),Rep Γ E G a.tmps w->a.eval x=zB3 (G.hd s0 []) 1 lo hi
theorem zD3.slot{s0:Nat}{xs:List Int}(h:E s0=iW (L 1 I xs)):zD3 Γ E (.tmp s0) s0 0 xs.length:=fun a w G gj=>by obtain⟨e1,e2,_⟩:=gj.ent s0 _ h;obtain⟨ad,c,g⟩:=zH3 e2;rw[Jg]at g;rw[xX e1,xS rfl,g];simp[zB3];intro;cases ad<;>simp[Addr.add]
theorem zD3.same{s s0:Nat}{xs:List Int}(hs:E s=iW (.same s0 []))(h:E s0=iW (L 1 I xs)):zD3 Γ E (.tmp s) s0 0 xs.length:=fun a w G gj=>by obtain⟨e1,e2,_⟩:=gj.ent s _ hs;have:=zD3.slot h a w G gj;obtain⟨e3,_,_⟩:=gj.ent s0 _ h;simp only[R]at e2;rw[xX e3,xS rfl]at this;rw[xX e1,xS rfl,e2];exact this
theorem zD3.sub{s s0 lo hi:Nat}(hs:E s=iW (.sub s0 [] 1 lo hi)):zD3 Γ E (.tmp s) s0 lo hi:=fun a w G gj=>by obtain⟨e1,e2,_⟩:=gj.ent s _ hs;simp only[R]at e2;rw[xX e1,xS rfl,e2]
end
theorem zRA{α:Type}{xs ys:List α}{l h:Int}(hv:zL xs l h=iW ys):l.toNat<=h.toNat:=by have:=qB hv;omega
theorem zRB{α:Type}{xs ys:List α}{l h:Int}(hv:zL xs l h=iW ys):h.toNat<=xs.length:=by have:=qB hv;omega
theorem zQe{α:Type}(l z:List α)(lo i:Nat)(gZ:lo+z.length<=l.length):(l.take lo++z++l.drop (lo+z.length))[i]? =if i<lo then l[i]? else if i<lo+z.length then z[i-lo]? else l[i]?:=by
 have hm:min lo l.length=lo:=by omega
 by_cases c1:i<lo
 ·rw[if_pos c1,Jh,K0 (by simp;omega),Hc,if_pos c1]
 ·rw[if_neg c1]
  by_cases c2:i<lo+z.length
  ·rw[if_pos c2,Jh,Ji (by simp;omega),Kf,hm,K0 (by omega)]
  ·rw[if_neg c2,Jh,Ji (by simp;omega),Kf,hm,Ji (by omega),Lt]
   congr 1;omega
def wP(xs:List Int)(lo:Nat)(zs:List Int):List Int:=xs.take lo++zs++xs.drop (lo+zs.length)
theorem zLb{P:Program}{Γ:Ctx}{E:Env}{d s0 lo hi:Nat}{x y:Operand}{ty:TypeId}{ps:String}{af:Array Edge}{gd:Option (Nat×Bool)}{t t2 e:TypeId}{ti:TypeInfo}{u:T}{xs ys:List Int}(ht:ElT P t e ti 1 u)(h0:E s0=iW (L 1 I xs))(hx:∀S,zD3 (Γ.at S) E x s0 lo hi)(hy:∀S,zHf P (Γ.at S) E y ys)(h1:lo<=hi)(h2:hi<=xs.length)(sd:(J4 d Γ.N&&(s0 != d))=iZ):
  Ok P Γ ⟨iW d,.call { callee:=.builtin .copy,args:=#[x,y],argTypes:=#[t,t2] },ty,ps,af,gd⟩ E ((E.app [(s0,iW (L 1 I (wP xs lo (ys.take (hi-lo)))))] [(s0,1)]).app [(d,iW (I ((min ys.length (hi-lo):Nat):Int)))] [(d,0)]):=by
 simp only[J3]at sd;have gk:s0≠d:=by simpa using sd.2
 intro S;refine wD.value rfl fun a w G gj=>?_
 obtain⟨e1,e2,_⟩:=gj.ent s0 _ h0;obtain⟨xa,c,g1,g2⟩:=hy S a w G gj;have g3:=hx S a w G gj;have eV:min ys.length (hi-lo)<=ys.length:=by omega
 have g4:=g2 _ eV;have eI:ys.take (hi-lo)=ys.take (min ys.length (hi-lo)):=by rw[List.take_eq_take_iff];omega
 rw[eI]
 generalize hn:min ys.length (hi-lo)=n at*
 have cX:(ys.take n).length=n:=by simp;omega
 have gn:(wP xs lo (ys.take n)).length=xs.length:=by simp[wP,cX];omega
 have key:∃w',(Builtin.copy_ #[t,t2] ty #[a.eval x,a.eval y]).run P w=.ok (goInt n) w'/\ ∃G',Rep (Γ.at S) (E.app [(s0,iW (L 1 I (wP xs lo (ys.take n))))] [(s0,1)]) G' a.tmps w':=by
  have e2':=e2;simp only[R]at e2;rcases e2 with⟨k1,ad,k2⟩|⟨b,o0,cap,cs,e',k1,k2,k3,k4,k5,k6,k7,k8⟩
  ·have fm:xs=[]:=by simpa using k1
   subst fm;simp at h2;subst h2;have ap:n=0:=by omega
   subst ap;have gZ:lo=0:=by omega
   subst gZ;refine⟨w,?_,G,?_⟩
   ·rw[g3,k2,g1]
    cases ad<;>cases xa<;>simp[zB3,Builtin.copy_,run_underlying ht.un,Builtin.lenOf,sizeOf,typeInfo,ht.info,Builtin.firstCells,loadCells,loadCellsFrom,storeCells]
   ·refine vT gj rfl ⟨fun _ _ _=>rfl,fun _ _ _=>rfl,fun _ _ _ _ _ _ h _=>⟨h,rfl⟩,fun _ _ _ h _=>h,fun b cs e h=>⟨cs,h,rfl⟩⟩ gj.mem (fun s hs=>⟨fun n hn=>by simp at hn;simp[Wr.find,hn.1]at hs,rfl⟩) fun s t' hs=>?_
    rw[sG]at hs;split at hs
    ·rename_i he;subst he
     simp at hs;subst hs;simpa[wP]using gj.ent s0 _ h0
    ·cases hs
  ·rw[Jg]at k1 k3 k7
   have gE:o0+cap<=cs.size:=by omega
   have gM:=run_storeCells_at P b (o0+lo) e' ((ys.take n).map vI) 0 cs w k2 (by simp;omega) (by intro v hv;obtain⟨u,_,rfl⟩:=Jn.1 hv;rfl);simp only[Qy,Jg]at gM
   generalize eH:w.setRow b (cs.toList.take (o0+lo)++(ys.take n).map vI++cs.toList.drop (o0+lo+(ys.take n).length)).toArray=w' at gM
   have gy:cs.toList.length=cs.size:=Kh ..
   by_cases cN:cap=lo
   ·have ap:n=0:=by omega
    subst ap;refine⟨w,?_,G,?_⟩
    ·rw[g3,k1,g1]
     have g5:(Builtin.firstCells 1 0 (.slice xa ys.length c)).run P w=.ok #[] w:=by simpa using g4
     simp[zB3,Builtin.copy_,run_underlying ht.un,Builtin.lenOf,sizeOf,typeInfo,ht.info,ht.size,show hi-lo=0 by omega,g5,storeCells,cN]
    ·refine vT gj rfl ⟨fun _ _ _=>rfl,fun _ _ _=>rfl,fun _ _ _ _ _ _ h _=>⟨h,rfl⟩,fun _ _ _ h _=>h,fun b cs e h=>⟨cs,h,rfl⟩⟩ gj.mem (fun s hs=>⟨fun n hn=>by simp at hn;simp[Wr.find,hn.1]at hs,rfl⟩) fun s t' hs=>?_
     rw[sG]at hs;split at hs
     ·rename_i he;subst he
      simp at hs;subst hs;simpa[wP]using gj.ent s0 _ h0
     ·cases hs
   ·refine⟨w',?_,zM3 gj h0 gn k1 k2 k3 k4 k5 k6 k7 k8 (by rw[<-eH];exact setRow_heap w b cs _ e' _ k2) ?_ (fun b' h=>by rw[<-eH];exact setRow_other w b b' _ h) (by rw[<-eH];exact size_setRow w b _) (by rw[<-eH];rfl) (by rw[<-eH];rfl) fun i v hv=>?_⟩
    ·rw[g3,k1,g1]
     have h9:Nat.min ys.length (hi-lo)=n:=hn;simp only[zB3,cN,if_false,H6,uE,Gx];simp only[Builtin.copy_];rw[Ue]at gM;simp[run_underlying ht.un,Builtin.lenOf,sizeOf,typeInfo,ht.info,ht.size,h9,g4,gM]
    ·simp[cX];omega
    ·rw[wP,zQe _ _ _ _ (by rw[cX];omega)]at hv
     have h11:o0+lo+((ys.take n).map vI).length<=cs.toList.length:=by simp;omega
     have h10:=zQe cs.toList ((ys.take n).map vI) (o0+lo) (o0+i) h11;rw[Jg]at h10;rw[List.getElem?_toArray,h10];have pK:=fun i u hu=>zQd k2 k8 i u hu
     by_cases c1:i<lo
     ·rw[if_pos c1]at hv
      rw[if_pos (by omega)];simpa using pK i v hv
     ·rw[if_neg c1]at hv
      rw[if_neg (by omega)]
      by_cases c2:i<lo+(ys.take n).length
      ·rw[if_pos c2]at hv
       rw[if_pos (by omega),show o0+i-(o0+lo)=i-lo from by omega];rw[Jx,hv];rfl
      ·rw[if_neg c2]at hv
       rw[if_neg (by omega)];simpa using pK i v hv
 obtain⟨w',gD,G',gw⟩:=key;refine⟨_,w',?_,_,vM gw rfl (yF sd.1) (fun _=>vI n) (fun _=>rfl) (I n) (vI n) (by simp[mkV,Gh.put]) (by simp[R,Gh.put]) (by simp[Top])⟩;simp[execOp,resolve,invoke,builtin,gD,goInt]
theorem zJZ{G G':Gh}{s d:Nat}(hd:∀z,G'.hd d z=G.hd s z):(xs:List T)->yM xs=iZ-> ∀(j:Nat),zAN G' d (cpF s xs [] j) [] j=zAN G s xs [] j
 | [],_,_=>by rfl
 |x::xs,h,j=>by
  simp only[yM,J3]at h;simp only[cpF,zAN];have er:∀ys,x≠.tup ys:=by rintro ys rfl;grind[T.okTup]
  have h1:=zB5 (G:=G) (G':=G') (s:=s) (d:=d) x [j] [j] er (fun z=>hd _);have h2:∀ys,cpT s x [j]≠.tup ys:=by intro ys;cases x<;>simp[cpT]
  rw[zAO _ _ _ _ h2]at h1;rw[h1,zJZ hd xs h.2 (j+1)]
section
variable {P:Program}{Γ:Ctx}{E E':Env}{d:Nat}{x y:Operand}{ty:TypeId}{ps:String}{af:Array Edge}{gd:Option (Nat×Bool)}
theorem zZN{s:Nat}{ts:List T}(hx:E s=iW (.tup ts))(sd:(J4 d Γ.N&&yM ts&&(s != d)&&zLU [(d,0)] (cpF s ts [] 0))=iZ):Ok P Γ ⟨iW d,.move (.tmp s),ty,ps,af,gd⟩ E (E.app [(d,iW (.tup (cpF s ts [] 0)))] [(d,0)]):=by
 simp only[J3]at sd;obtain⟨⟨⟨s1,s2⟩,s3⟩,s4⟩:=sd;have gk:s≠d:=by grind
 intro S;refine wD.value rfl fun a w G gj=>?_
 obtain⟨h1,h2,_⟩:=gj.ent s _ hx;simp only[R]at h2;have hk:=G.put_keep (w:=w) (w':=w) rfl d (fun z=>G.hd s z);have hz:∀z,(G.put d (fun z=>G.hd s z)).hd d z=G.hd s z:=by grind[Gh.put_self]
 have htop:∀(xs:List T)(j:Nat),uQ (cpF s xs [] j):=by
  intro xs
  induction xs with
  |nil=>intro j;simp only[cpF,uQ]
  |cons x xs ih=>intro j;simp only[cpF,uQ];grind[jQ]
 refine⟨mkV G s (.tup ts) [],w,?_,_,vM gj rfl (yF s1) (fun z=>G.hd s z) (fun z=>gj.mem.one _ _) _ _ (by grind[mkV,zJZ])
  (by simp only[R];exact zKE (fun p=>G.put_other _ p gk) ts [] [] 0 (fun z=>hz _) (xN.mono (fun r p hr=>⟨hk.hd r p hr,hk.ad r p hr⟩) _ (by grind[zHP])) h2) (by simp only[Top];grind)⟩
 simp[execOp,xX h1]
end
section
variable {P:Program}{Γ:Ctx}{E:Env}{d:Nat}{x:Operand}{ty:TypeId}{ps:String}{af:Array Edge}{gd:Option (Nat×Bool)}
class zXA (P:Program) (t:TypeId) (e:outParam TypeId) (ti:outParam TypeInfo) (n:outParam Nat) (k:outParam Nat):Prop where
 un:P.underlying t=iW (.array n e)
 info:P.info? e=iW ti
 size:ti.size=k
theorem zQf{t e:TypeId}{ti:TypeInfo}{n k r:Nat}{q:List Nat}{xs:List T}{u:T}(i:Nat)(ht:zXA P t e ti n k)(hx:tT E x=iW (r,q,.ptr (.agg xs)))(hu:xs[i]? =iW u)(gL:T.sizes (xs.take i)=i*k)(sd:(J4 d Γ.N&&J4 i n)=iZ):
  Ok P Γ ⟨iW d,.indexAddr t x (.const (.int .i64 i)),ty,ps,af,gd⟩ E (E.app [(d,iW (.addr r (i::0::q)))] [(d,0)]):=by
 simp only[J3]at sd;have gS:=yF sd.2;intro S;refine wD.value rfl fun a w G gj=>?_
 obtain⟨g1,g2⟩:=jZ gj hx rfl;simp only[R]at g1;obtain⟨b,cs,e',g4,_,_,_,g5,_⟩:=g1;simp only[Loc]at g5;have g6:=zDq xs (0::q) 0 b 0 i u g5.2 hu;simp only[Jc]at g6;have g3:a.eval (.const (.int .i64 i))=.int .i64 i:=rfl;refine⟨.pointer (iW (G.ad r (i::0::q))),w,?_,_,vM gj rfl (yF sd.1) (fun _=>.pointer (iW (G.ad r (i::0::q)))) (fun _=>rfl) _ _ (by simp[mkV,Gh.put]) (by simp[R,Gh.put]) (by simp[Top])⟩;have gJ:(i:Int)<(n:Int):=by omega
 have h0:(0:Int)<=i:=by omega
 have g7:=zCF g6;have mY:i<n:=gS;simp[execOp,Instr.indexAt,g3,g2,g4,asIntOf,run_underlying ht.un,h0,mY,sizeOf,typeInfo,ht.info,ht.size,uE,sM,g7,gL]
end
theorem zIw{E:Env}{ds r s:Nat}{q:List Nat}{tr u t:T}(h:E s=iW t)(gk:(Gl ds s||Gl r s)=ja:=by rfl)(hb:t.okB [(ds,1),(r,q.length+1)]=iZ:=by rfl):opT (vB E ds r q tr u) (.tmp s)=iW t:=by
 have h1:ds≠s:=by rintro rfl;simp at gk
 have h2:r≠s:=by rintro rfl;simp at gk
 simp[opT,vB,Env.app,Wr.find,h1,h2,h,hb]
section
variable {P:Program}{Γ:Ctx}{pn:kT}{E E':Env}{Q Q1:Exit->Env->Prop}{c c1 c2:Code}{ops:Array Oper}{o:Oper}{os:List Oper}{id:Nat}
theorem sR(h:RW P Γ pn ops ops.toList E (yB P Γ pn c Q)):CW P Γ pn (.seq (.region id ops ja) c) E Q:=CW.seq (CW.region h)
theorem rN(h:CW P Γ pn c E Q):RW P Γ pn ops [] E (yB P Γ pn c Q):=RW.nil h
theorem oP(h:Ok P Γ o E E')(k:RW P Γ pn ops os E' Q)(hg:o.guard=iY:=by rfl)(hp:pn.ok o.dst=iZ:=by rfl):RW P Γ pn ops (o::os) E Q:=RW.op h k hg hp
def yAM(ops:List Oper):List (List Nat):=(ops.foldl (fun(acc:Array (List Nat)) o=>acc.push ((zCr o).foldl (fun l m=>m::(acc.getD m [])++l) [])) #[]).toList
theorem CW.lp{σ ρ:Type}(body:σ->Option (σ⊕ρ))(en:σ->Env)(Q1:ρ->Exit->Env->Prop){s:σ}{r:ρ}(hg:zR Γ E (en s))(h:∀s x,body s=iW x->CW P Γ pn c (en s) (xF Γ en Q1 x))(hr:zH body s=iW r)(hq:∀e E',Q1 r e E'->Q e E'):CW P Γ pn (.loop c) E Q:=
 (CW.mono (CW.loop body en Q1 h hr) hq).ghost hg
end
end Go.Ab

namespace Go.Ab
open Go Go.ChangeShapes
abbrev zM4(w:World):Stb:=fun b=>w.heap[b]?
theorem zRC{w:World}{a:Addr}{n:Nat}{cs:List Value}(h:w.cells? 0 a n=iW cs):cs.length=n/\ ∀(i:Nat) v,cs[i]? =iW v->w.cell? (a.add i)=iW v:=by
 unfold World.cells? at h;rw[if_pos (Kg _)]at h;refine⟨by simpa using mapM_some_length h,fun i v hv=>?_⟩;have hi:i<n:=by have:=(Jm.1 hv).1;have h2:=mapM_some_length h;rw[L8]at h2;omega
 rw[<-hv];exact mapM_some_get h i i (by simp[hi])
theorem zQg{w:World}{a:Addr}{v:Value}(h:w.cell? a=iW v):a.spot=iY/\ ∃c e fr,w.heap[a.block]? =iW (.cells c e fr)/\c[a.off]? =iW v:=by
 simp only[World.cell?]at h;split at h
 ·rename_i c e fr hb
  split at h
  ·cases h
  ·rename_i hs
   exact⟨by cases hq:a.spot with|none=>rfl|some _=>rw[hq]at hs;simp at hs,c,e,fr,hb,h⟩
 ·cases h
theorem zM5{b o m:Nat}:(Addr.mk b o iY).add m=⟨b,o+m,iY⟩:=by
 unfold Addr.add;split
 ·rename_i h;subst h;rfl
 ·rfl
theorem zHg{α:Type}{Q:Nat->α->Prop}:∀(n:Nat),(∀i,i<n-> ∃x,Q i x)-> ∃xs:List α,xs.length=n/\ ∀i x,xs[i]? =iW x->Q i x
 |0,_=>⟨[],rfl,fun i x h=>by simp at h⟩
 |n+1,h=>by
  obtain⟨xs,h1,h2⟩:=zHg n fun i hi=>h i (by omega)
  obtain⟨y,hy⟩:=h n (by omega);refine⟨xs++[y],by simp[h1],fun i x hx=>?_⟩;rw[Ko]at hx;split at hx
  ·exact h2 i x hx
  ·rename_i hge
   have:i-xs.length=0:=by have:=(Jm.1 hx).1;simpa using this
   rw[this]at hx;simp at hx;subst hx
   rwa [show i=n from by omega]
theorem zQh{St:Stb}:(xs:List T)-> ∀(cs:Array Value)(o k:Nat),(∀i x,xs[i]? =iW x->RoC St x cs (o+i*k))->RoL St xs cs o k
 | [],_,_,_,_=>by simp only[RoL]
 |x::xs,cs,o,k,h=>by
  simp only[RoL];refine⟨by simpa using h 0 x rfl,zQh xs cs (o+k) k fun i y hy=>?_⟩;have:=h (i+1) y (by simpa using hy)
  rwa [show o+k+i*k=o+(i+1)*k from by rw[K7];omega]
section
variable {P:Program}
def RdT(P:Program)(t:TypeId)(k:Nat){α:Type}(f:α->T)(V:α->Prop):Prop:=
 ∀{H:Type}(enc:TypeId×Value->H)(w:World)(fuel:Nat)(cs:List Value)(x:DataW H×List MemPlace),DataW.trod enc P w 0 (fun _=>iZ) iZ fuel t cs=iW x->
  cs.length=k-> ∃d,V d/\ ∀(A:Array Value)(o:Nat),(∀(i:Nat) v,cs[i]? =iW v->A[o+i]? =iW v)->RoC (zM4 w) (f d) A o
theorem yAN{t:TypeId}{q:IntKind}(hu:P.underlying t=iW (.int q)):RdT P t 1 (IK q) (fun n=>(Lit.int q n).wf=iZ):=by intro H enc w fuel cs x h _;obtain⟨n,rfl,_,hw⟩:=DataW.trod_int hu h;exact⟨n,hw,fun A o hA=>by simp only[RoC];exact⟨by simpa using hA 0 _ rfl,rfl⟩⟩
theorem yED{α:Type}{f:α->T}{V:α->Prop}{t e:TypeId}{k:Nat}(hu:P.underlying t=iW (.slice e))(hk:P.cellsOf e=k)(eK:0<k)(h:RdT P e k f V):
  RdT P t 1 (L k f) (fun xs=>xs.length<=maxLen/\ ∀x∈xs,V x):=by
 intro H enc w fuel cs x hx _;rcases DataW.trod_slice hu hx with⟨rfl,_⟩|⟨a,len,cap,elems,rest,n,rfl,rfl,_,_,eW,cN,dt,pB,_⟩
 ·refine⟨[],⟨by simp,by simp⟩,fun A o hA=>?_⟩
  simp only[RoC,Gy,K9];exact⟨iY,0,by simpa using hA 0 _ rfl,Je _,by simp[maxLen],fun h=>absurd rfl h⟩
 ·subst hk
  have key:∀i,i<len-> ∃y,V y/\ ∃cs':List Value,cs'.length=P.cellsOf e/\(∀(j:Nat) v,cs'[j]? =iW v->w.cell? ((a.add (i*P.cellsOf e)).add j)=iW v)/\
    ∀(A:Array Value)(o:Nat),(∀(j:Nat) v,cs'[j]? =iW v->A[o+j]? =iW v)->RoC (zM4 w) (f y) A o:=by
   intro i hi;have h1:=pB i hi;rw[J5 (by omega)]at h1;obtain⟨cs',h2,h3⟩:=Uu.1 h1;obtain⟨h4,h5⟩:=zRC h2;obtain⟨y,h6,h7⟩:=h enc w n cs' _ h3 h4;exact⟨y,h6,cs',h4,h5,h7⟩
  obtain⟨xs,pG,fm⟩:=zHg len key;refine⟨xs,⟨by omega,fun y hy=>?_⟩,fun A o hA=>?_⟩
  ·obtain⟨i,hi,rfl⟩:=Jz.1 hy
   exact(fm i _ (J5 hi)).1
  ·simp only[RoC,Jg,pG]
   refine⟨iW a,cap,by simpa using hA 0 _ rfl,eW,cN,fun gk=>?_⟩;have fY:0<xs.length:=by
    cases xs with
    |nil=>simp at gk
    |cons _ _=>simp
   obtain⟨_,cs0,g1,g2,_⟩:=fm 0 _ (J5 fY);have hz:a.add (0*P.cellsOf e)=a:=by simp[Addr.add]
   have g3:=g2 0 cs0[0] (J5 (by omega));rw[hz,show a.add 0=a from by simp[Addr.add]]at g3;obtain⟨pR,c,e',fr,hb,_⟩:=zQg g3;obtain⟨b,off,sp⟩:=a;simp only at pR hb;subst pR;refine⟨b,off,c,e',fr,rfl,hb,zQh _ _ _ _ fun i y hy=>?_⟩;rw[Jx,Kl]at hy;obtain⟨z,mA,rfl⟩:=hy;obtain⟨_,cs',g1',g2',g4⟩:=fm i z mA;refine g4 c _ fun j v hv=>?_
   have:=g2' j v hv;rw[zM5,zM5]at this;obtain⟨_,c2,e2,fr2,pO,pP⟩:=zQg this;simp only at pO pP;rw[hb]at pO;cases pO;exact pP
end
def zXB(v:Value):Value:=if v.oneCell' then v else .bool ja
theorem zM6(v:Value):(zXB v).oneCell'=iZ:=by unfold zXB;split;assumption;rfl
def hd0(vs:Array Value)(s:Nat)(p:List Nat):Value:=
 match vs[s]?,p with
 |some (.agg cs),[j]=>zXB (cs[j]?.getD (.bool ja))
 |some v,[]=>zXB v
 |_,_=>.bool ja
def G0(vs:Array Value):Gh:={ hd:=hd0 vs,ad:=fun _ _=>default,lb:=fun _ _=>iY,ow:=fun _=>iY }
theorem yEE(w:World)(vs:Array Value):Mem ⟨zM4 w,fun _=>False,w,0⟩ (G0 vs) w where
 one s p:=by
  simp only[G0,hd0];split
  ·exact zM6 _
  ·exact zM6 _
  ·rfl
 lb b o l h:=by simp[G0]at h
 ow b l h:=by simp[G0]at h
 st b x h:=h
 fr b _ _:=rfl
 sz:=Je _
 bk:=⟨fun b cs e h=>⟨cs,h,rfl⟩,rfl,rfl⟩
def RdA(P:Program)(t:TypeId){α:Type}(u:α->T)(V:α->Prop):Prop:=
 ∀{H:Type}(enc:TypeId×Value->H)(w:World)(base fuel:Nat)(v:Value)(x:DataW H×List MemPlace),DataW.trod enc P w 0 (fun _=>iZ) iZ fuel t v.cells.toList=iW x->
  Value.okWide P w .any base t v-> ∃d,V d/\ ∀(vs:Array Value)(s:Nat),vs[s]? =iW v->iW v=iW (mkV (G0 vs) s (u d) [])/\R (zM4 w) (G0 vs) w s (u d) []
def RdC(P:Program)(t:TypeId){α:Type}(u:α->T)(V:α->Prop):Prop:=
 ∀{H:Type}(enc:TypeId×Value->H)(w:World)(fuel:Nat)(c:Value)(x:DataW H×List MemPlace),DataW.trod enc P w 0 (fun _=>iZ) iZ fuel t [c]=iW x->
  ∃d,V d/\c.oneCell'=iZ/\ ∀(G:Gh)(s:Nat)(p:List Nat),G.hd s p=c->vals G s (u d) p=[c]/\R (zM4 w) G w s (u d) p
section
variable {P:Program}
theorem yCO{α:Type}{f:α->T}{V:α->Prop}{t:TypeId}(h:RdT P t 1 f V)(h1:∀{H:Type}(enc:TypeId×Value->H)(w:World)(fuel:Nat)(c:Value)(x:DataW H×List MemPlace),DataW.trod enc P w 0 (fun _=>iZ) iZ fuel t [c]=iW x->c.oneCell'=iZ):
  RdC P t (fun x=>T.ro (f x)) V:=by
 intro H enc w fuel c x hx;obtain⟨d,g1,g2⟩:=h enc w fuel [c] x hx rfl;refine⟨d,g1,h1 enc w fuel c x hx,fun G s p hp=>⟨by simp only[vals,hp],?_⟩⟩;simp only[R,hp];exact g2 _ _ fun i v hv=>by
  cases i with
  |zero=>simpa using hv
  |succ i=>simp at hv
theorem yEF{α:Type}{f:α->T}{V:α->Prop}{t e:TypeId}{k:Nat}(hu:P.underlying t=iW (.slice e))(hk:P.cellsOf e=k)(eK:0<k)(h:RdT P e k f V):RdC P t (fun xs=>T.ro (L k f xs)) (fun xs=>xs.length<=maxLen/\ ∀x∈xs,V x):=
 yCO (yED hu hk eK h) fun enc w fuel c x hx=>by
  rcases DataW.trod_slice hu hx with⟨h1,_⟩|⟨a,len,cap,_,_,_,_,h1,_⟩<;>
  ·simp only[Ja8.injEq,and_true]at h1
   subst h1;rfl
theorem zXC{α:Type}{u:α->T}{V:α->Prop}{t:TypeId}(hs:∀x,(u x).single=iZ/\ ∀G s,mkV G s (u x) []=G.hd s [])(h:RdC P t u V)
  (hv:∀{w:World}{base:Nat}{v:Value},Value.okWide P w .any base t v->v.oneCell'=iZ):RdA P t u V:=by
 intro H enc w base fuel v x hx gA;have h1:v.cells.toList=[v]:=by have:=hv gA;cases v<;>simp_all [Value.oneCell',Value.cells]
 rw[h1]at hx;obtain⟨d,g1,g2,g3⟩:=h enc w fuel v x hx;refine⟨d,g1,fun vs s pI=>?_⟩;have gO:(G0 vs).hd s []=v:=by simp only[G0,hd0,pI];cases v<;>first|rfl|simp[Value.oneCell']at g2
 exact⟨by rw[(hs d).2,gO],(g3 _ _ _ gO).2⟩
end
theorem FnC.top{P:Program}{f:FuncId}{us:List T}(h:FnC P f us [B iZ] []){w:World}{vs:Array Value}(gE:vs.size=us.length)
  (ha:∀(i:Nat) u,us[i]? =iW u->vs[i]? =iW (mkV (G0 vs) i u [])/\R (zM4 w) (G0 vs) w i u []):
  Calls P f vs w fun e w'=>e=.returned (.bool iZ)/\w'.os=w.os/\w'.output=w.output/\w.heap.size<=w'.heap.size/\ ∀b,b<w.heap.size->w'.heap[b]? =w.heap[b]?:=by
 refine(h (zM4 w) (fun _=>False) w (G0 vs) vs gE (fun i u hu=>?_) (yEE w vs)).mono fun e w'=>?_
 ·obtain⟨h1,h2⟩:=ha i u hu
  refine⟨?_,h2⟩;rw[h1]
 ·rintro⟨S',G',nd,_,he,hm,fQ,hr,_,_⟩
  match nd,fQ with
  | [(s,p,t)],fQ=>
   simp only[Js,Gy,Ja8.injEq,and_true]at fQ;subst fQ;have:=(hr (s,p,B iZ) (by simp)).1;simp only[R]at this;exact⟨by rw[he];simp only[zMk,sZ,this],hm.bk.os,hm.bk.out,hm.sz,fun b hb=>hm.fr b hb (fun h=>h)⟩
theorem zE9{H:Type}{enc:TypeId×Value->H}{P:Program}(hl:laidOutB P=iZ){W W':World}{sp:Nat->Bool}:∀{ts:List TypeId}{vs:List Value}{ds:List (DataW H)}{ps:List MemPlace},(∀t∈ts,P.readableRec t=iZ/\t<P.types.size)->
  DataW.TrodAll enc P W 0 (fun _=>iZ) iZ ts vs ds ps->(∀p∈ps,W.sameAt W' p)->(∀p∈ps,sp p.block=iZ)->DataW.TrodAll enc P W' 0 sp iZ ts vs ds ps
 | [],[],[],_,_,h,_,_=>h
 |t::ts,v::vs,d::ds,ps,hr,h,h1,h2=>by
  obtain⟨p,q,g1,g2,rfl⟩:=h;exact⟨p,q,Go.WideElems.Trod_stays hl (hr t (by simp)).1 (hr t (by simp)).2 g1 (fun x hx=>h1 x (by simp[hx])) (fun x hx=>h2 x (by simp[hx])),
   zE9 hl (fun t' pb=>hr t' (by simp[pb])) g2 (fun x hx=>h1 x (by simp[hx])) (fun x hx=>h2 x (by simp[hx])),rfl⟩
 | [],_::_,_,_,_,h,_,_| [],[],_::_,_,_,h,_,_|_::_,[],_,_,_,h,_,_|_::_,_::_,[],_,_,h,_,_=>h.elim
theorem zOy{C:Checked}{os:Os}(own:ownKnob C.prog.godebug=iY)(started:os.Started){f:FuncId}{fn:Func}(noInit:C.prog.inits.idxOf? f=iY)(iC:C.prog.funcs[f]? =iW fn){H:Type}{enc:TypeId×Value->H}{s:ChangeSpec}{conds:List PathCond}{apart fresh handsOn again:Bool}
  (witness:∃(w:World)(tape:Tape)(i:Input),w.os=os/\(w.forCall tape i).Shaped C.prog/\i.vars=[]/\Input.okWide C.prog (w.forCall tape i) .any w.heap.size f i/\
   s.pre6 enc C.prog fn conds apart (w.forCall tape i).memory i.args/\Assume.holds {} C.prog (lone (Frame.enter C.prog f i.args .normal) [] (w.forCall tape i)))
  (hs:∀(l:List (DataW H)),l.length=fn.params.size->(s.fn H l).results=[.lit (.bool iZ)]/\(s.fn H l).args=l/\(s.fn H l).vars=[])(md:s.vars=[]){tb:TypeId}(fb:fn.resultTypes= #[tb])(hb:C.prog.underlying tb=iW .bool)
  (laid:laidOutB C.prog=iZ)(aa:fn.params.toList.all (fun t=>C.prog.readableRec t&&decide (t<C.prog.types.size))=iZ)
  (law:∀(W:World)(base:Nat)(args:Array Value)(ds:List (DataW H))(p:List MemPlace),(∀(j:Nat) t v,fn.params[j]? =iW t->args[j]? =iW v->Value.okWide C.prog W .any base t v)->
   DataW.TrodAll enc C.prog W 0 (fun _=>iZ) iZ fn.params.toList args.toList ds p->
   ∃us:List T,args.size=us.length/\FnC C.prog f us [B iZ] []/\ ∀(i:Nat) u,us[i]? =iW u->args[i]? =iW (mkV (G0 args) i u [])/\R (zM4 W) (G0 args) W i u []):
  ReturnsInHanded {} C os f .any (s.pre6 enc C.prog fn conds apart) (s.post enc C.prog fn apart fresh handsOn again):=by
 refine returnsInHanded_of_change (C:=C) own started noInit iC witness ?_;intro W base args ds gs before hval hW _ _;have hW':=hW;obtain⟨p,q,hA,hV,hbq,hfz,fQ⟩:=hW;obtain⟨us,h1,h2,h3⟩:=law W base args ds p hval hA;have hl:ds.length=fn.params.size:=by
  have:∀{ts:List TypeId}{vs:List Value}{ds:List (DataW H)}{p:List MemPlace},DataW.TrodAll enc C.prog W 0 (fun _=>iZ) iZ ts vs ds p->ds.length=ts.length:=by
   intro ts
   induction ts with
   |nil=>intro vs ds p h;cases vs<;>cases ds<;>first|rfl|exact h.elim
   |cons t ts ih=>intro vs ds p h;cases vs<;>cases ds<;>first|exact h.elim|(obtain⟨_,_,_,g,_⟩:=h;simp[ih g])
  simpa using this hA
 rw[md]at hV;have hq:gs=[]/\q=[]:=by
  cases gs with
  |nil=>exact⟨rfl,hV⟩
  |cons _ _=>exact hV.elim
 obtain⟨rfl,rfl⟩:=hq;have gJ:=hW'.lt;refine(h2.top h1 h3).mono fun e w' ⟨he,ho,hq,gE,hh⟩=>⟨_,he,?_⟩
 have eu:∀p∈before,W.sameAt w' p:=fun p hp=>by
  have:=gJ p hp;cases p with
  |cell b off=>simp only[World.sameAt,World.cell?,hh b this]
  |map b=>exact hh b this
 obtain⟨k1,k2,k3⟩:=hs ds hl;have hbp:before=p:=by simpa using hbq
 subst hbp;have gP:∀t∈fn.params.toList,C.prog.readableRec t=iZ/\t<C.prog.types.size:=fun t ht=>by have:=Ka.1 aa t ht;simpa using this
 have gz:∀(b:Nat)(sp:Nat->Bool)(hd:Bool),DataW.TrodAll enc C.prog w' b sp hd fn.resultTypes.toList ((Value.bool iZ).resultList fn.resultTypes.size) (s.fn H (ds++[])).results []:=fun b sp hd=>by rw[fb,J9,k1];exact⟨[],[],⟨1,by simp[DataW.trod,hb,Value.cells]⟩,⟨rfl,rfl⟩⟩
 have gp:∀sp:Nat->Bool,(∀p∈before,sp p.block=iZ)->DataW.TrodAll enc C.prog w' 0 sp iZ fn.params.toList args.toList (s.fn H (ds++[])).args before:=fun sp pR=>by rw[J9,k2];exact zE9 laid gP hA eu pR
 have bZ:∀sp:Nat->Bool,DataW.TrodVars enc C.prog w' sp s.vars (s.fn H (ds++[])).vars []:=fun sp=>by rw[md,J9,k3];rfl
 have gN:∀p∈before,(fun b=>decide (b<W.heap.size)) p.block=iZ:=fun p hp=>by simpa using gJ p hp
 have ba:∀p∈before,∀o,w'.frozen? ⟨p.block,o,iY⟩=W.frozen? ⟨p.block,o,iY⟩:=fun p hp o=>by simp only[World.frozen?,hh _ (gJ p hp)]
 refine⟨ds,[],before,[],before,[],hW',gz _ _ _,gp _ gN,bZ _,⟨ho,hq,fun i hi=>?_⟩,fun _=>⟨fun j t r hj hr=>?_,_,_,([]++before)++[],⟨[]++before,[],trodAll_append (gp _ (fun _ _=>rfl)) (gz _ _ _),bZ _,rfl,fun b off hp=>?_,fun ha=>?_⟩,fun p hp _=>?_⟩⟩
 ·rw[hh i hi]
  cases hx:W.heap[i]? with
  |none=>rfl
  |some o=>cases o<;>simp
 ·rw[fb]at hj hr
  match j,hj,hr with
  |0,hj,hr=>
   simp[Value.resultList]at hj hr;subst hj;subst hr;simp[Value.okWide,hb,Cell.okWide,Cell.ok]
 ·have cH:MemPlace.cell b off∈before:=by simpa using hp
  exact(ba _ cH off).trans (hfz b off cH)
 ·have:=fQ ha
  simpa using this
 ·simpa using hp
end Go.Ab

namespace Go.Ab
open Go
def zAi(hs:List Nat)(E:Env):Prop:=∀s,hs.contains s=iZ-> ∃t,E s=iW t/\kU t=iZ
def yAO(hs:List Nat)(z:Nat×Option T):Bool:=!hs.contains z.1||match z.2 with
 |some t=>kU t
 |none=>ja
def wrS(hs:List Nat)(X:Stp):Bool:=X.l.all fun y=>y.1.all (yAO hs)
theorem zM7{s:Nat}{x:Option T}:∀{wr:Wr},wr.find s=iW x->(s,x)∈wr
 | [],h=>by grind[Wr.find]
 |(k,y)::wr,h=>by
  simp only[Wr.find]at h;split at h
  ·grind
  ·exact Q5 _ (zM7 h)
theorem zAi.apps{hs:List Nat}:∀(l:zD0)(E:Env),zAi hs E->(l.all fun y=>y.1.all (yAO hs))=iZ->zAi hs (E.apps l)
 | [],_,h,_=>h
 |x::l,E,h,hw=>by
  simp only[Uf,J3]at hw;refine zAi.apps l (E.app x.1 x.2) (fun s gU=>?_) hw.2;obtain⟨t,he,ht⟩:=h s gU;unfold Env.app;cases hf:x.1.find s with
  |some y=>
   have h1:=Ka.1 hw.1 _ (zM7 hf);simp only[yAO,gU,Jq,Bool.false_or]at h1
   grind
  |none=>grind[tG]
theorem zAi.runD{hs:List Nat}:∀(l:List (Bool×Stp))(E:Env),zAi hs E->(∀y∈l,wrS hs y.2=iZ)->zAi hs (runD E l)
 | [],_,h,_=>h
 |(b,X)::l,E,h,hw=>by
  simp only[Go.Ab.runD];refine zAi.runD l _ ?_ fun y hy=>hw y (by simp[hy])
  cases b with
  |true=>exact zAi.apps X.l E h (hw (iZ,X) (by simp))
  |false=>exact h
section
variable {P:Program}{Γ:Ctx}{pn:kT}{E E':Env}{Q:Exit->Env->Prop}{ops:Array Oper}{o:Oper}{os:List Oper}{id:Nat}{wr:Wr}{chg:Chg}{hs:List Nat}
def zQi(P:Program)(Γ:Ctx)(pn:kT)(ops:Array Oper)(o:Oper)(E E':Env):Prop:=
 ∀(a:Act)(w:World)(K:Act->World->Prop)(Q:Exit->Act->World->Prop),pn.Hold a->zAn Γ E a w->(∀a' w',zAn Γ E' a' w'->(∀s,o.dst≠iW s->a'.tmps[s]? =a.tmps[s]?)->K a' w')->
  if Region.wanted o (yielded ops a.tmps)then o.wp P a w K Q\/(o.asks P a w/\LetsOut Q)else K (a.put o.dst undef) w
def vV(P:Program)(Γ:Ctx)(pn:kT)(hs:List Nat)(ops:Array Oper):List Oper->List Stp->Prop
 | [],[]=>True
 |o::os,X::Xs=>(∀E:Env,E.Has X.rd->zAi hs E->zQi P Γ pn ops o E (E.apps X.l))/\vV P Γ pn hs ops os Xs
 |_,_=>False
theorem vV.get:∀(os:List Oper)(Xs:List Stp),vV P Γ pn hs ops os Xs->os.length=Xs.length/\ ∀(i:Nat)(o:Oper)(X:Stp),os[i]? =iW o->Xs[i]? =iW X-> ∀E:Env,E.Has X.rd->zAi hs E->zQi P Γ pn ops o E (E.apps X.l)
 | [],[],_=>by simp
 |o::os,X::Xs,h=>by
  obtain⟨h1,h2⟩:=vV.get os Xs h.2;refine⟨by simp[h1],fun i o' X' ho hX=>?_⟩;cases i with
  |zero=>simp at ho hX;subst ho hX;exact h.1
  |succ i=>exact h2 i o' X' (by simpa using ho) (by simpa using hX)
 | [],_::_,h=>by simp[vV]at h
 |_::_,[],h=>by simp[vV]at h
theorem vV.snoc{X:Stp}:∀(os:List Oper)(Xs:List Stp),vV P Γ pn hs ops os Xs->(∀E:Env,E.Has X.rd->zAi hs E->zQi P Γ pn ops o E (E.apps X.l))->vV P Γ pn hs ops (os++[o]) (Xs++[X])
 | [],[],_,h=>⟨h,trivial⟩
 |_::os,_::Xs,h1,h=>⟨h1.1,vV.snoc os Xs h1.2 h⟩
 | [],_::_,h,_=>by simp[vV]at h
 |_::_,[],h,_=>by simp[vV]at h
theorem qH.snoc{X:Stp}:∀(Xs:List Stp)(E:Env),qH E Xs->(runD E (Xs.map fun y=>(iZ,y))).Has X.rd->qH E (Xs++[X])
 | [],_,_,h=>⟨by grind[runD],trivial⟩
 |_::Xs,_,h1,h=>⟨h1.1,qH.snoc Xs _ h1.2 (by simpa[runD]using h)⟩
theorem zLc{E0:Env}{eJ:List Nat}{Xs:List Stp}{an:List (List Nat)}{Q':Exit->Act->World->Prop}(hf:zBS 0 ops.toList=iZ)(ha:zBt an an ops.toList=iZ)(hp:zAs Xs 0 an Xs=iZ)
  (gM:vV P Γ pn eJ ops ops.toList Xs)(hI:zAi eJ E0)(hw:Xs.all (wrS eJ)=iZ)(hh:qH E0 Xs)(ag:ops.toList.all (fun o=>pn.ok o.dst)=iZ)(hQ:∀a' w',zAn Γ (runD E0 (Xs.map fun y=>(iZ,y))) a' w'->pn.Hold a'->Q' .normal a' w'):
  ∀(fuel:Nat)(L:List Bool)(a:Act)(w:World),L.length=ops.size->L.count ja=fuel->zTs ops L->zAn Γ (runD E0 (L.zip Xs)) a w->pn.Hold a->wpAny P .any ops Q' fuel L.toArray a w:=by
 obtain⟨gn,mh⟩:=vV.get _ _ gM;have ms:Xs.length=ops.size:=by grind
 intro fuel
 induction fuel with
 |zero=>
  intro L a w hL hcnt gy hs fI;have fM:∀b∈L,b=iZ:=by grind
  have iU:L=J1 ops.size iZ:=by rw[<-hL];exact List.eq_replicate_iff.2 ⟨rfl,fM⟩
  refine⟨?_,?_⟩
  ·apply List.eq_nil_iff_forall_not_mem.2
   intro j hj;obtain⟨h1,o,ho,_⟩:=mem_ready.1 hj;have gJ:=(G3.1 ho).1;rw[iU]at h1;simp[gJ]at h1
  ·refine hQ a w ?_ fI
   have:L.zip Xs=Xs.map fun y=>(iZ,y):=by
    rw[iU,<-ms]
    clear hs hL iU fM hcnt gy gM hw hh hp gn ms mh hQ
    induction Xs with
    |nil=>rfl
    |cons X Xs ih=>simp[Jt,ih]
   grind
 |succ fuel ih=>
  intro L a w hL hcnt gy hs fI;refine⟨fun hr=>?_,fun i hi=>?_⟩
  ·
   exfalso
   have cW:∃m:Nat,L[m]? =iW ja:=by
    have:ja∈L:=by grind
    grind[Uz]
   obtain⟨m,hm,eV⟩:=zE7 cW;have hmlt:=(Jm.1 hm).1;have di:ops[m]? =iW ops[m]:=by simp
   have:m∈Region.ready .any ops L.toArray:=by
    refine mem_ready.2 ⟨by simp_all,ops[m],di,fun e he hb=>?_⟩;have hpm:e.on∈zCr ops[m]:=by
     simp only[zCr,Jn,Ja6]
     grind
    have gJ:=zH6 ops.toList 0 m _ hf (by simp) _ hpm;rw[Jc]at gJ;cases hL1:L[e.on]? with
    |none=>grind
    |some b=>
     cases b with
     |false=>grind
     |true=>simp_all
   grind
  ·obtain⟨h1,o,ho,fM⟩:=mem_ready.1 hi
   have gJ:=(G3.1 ho).1;have hLi:L[i]? =iW ja:=by simp_all
   have fX:∀m∈zCr o,L[m]? =iW iZ:=by
    intro m hm;simp only[zCr,Jn,Ja6]at hm;obtain⟨e,⟨he,hb⟩,rfl⟩:=hm;have:=fM e (by grind) hb;cases hL1:L[e.on]? with
    |none=>grind
    |some b=>simp_all
   have hanc:=zIp hf ha gy i i (Je _) o ho fX;have bP:Xs[i]? =iW Xs[i]:=by simp
   generalize hXe:Xs[i]=X at bP
   have aA:∀(j:Nat)(Y:Stp),Xs[j]? =iW Y->i<j->L[j]? =iW iZ->X.apart Y=iZ:=by
    intro j Y hY gR hj;rcases zGq Xs Xs 0 an j Y hp hY i X (by omega) bP with h|h
    ·have hjlt:=(Jm.1 hY).1
     have ib:ops[j]? =iW ops[j]:=by simp
     have:=zIp hf ha gy j j (Je _) _ ib (gy j _ ib hj) i h
     grind
    ·exact h
   have bf:∀(j:Nat)(Y:Stp),Xs[j]? =iW Y->j<i->L[j]? =iW ja->Y.apart X=iZ:=by grind[zGq]
   have fW:∀y∈(L.take i).zip (Xs.take i),∃j:Nat,j<i/\L[j]? =iW y.1/\Xs[j]? =iW y.2:=by
    intro y hy;obtain⟨j,g1,g2⟩:=zKV hy;rw[Hc]at g1 g2
    grind
   have mn:∀y∈(L.drop (i+1)).zip (Xs.drop (i+1)),∃j:Nat,i<j/\L[j]? =iW y.1/\Xs[j]? =iW y.2:=by
    intro y hy;obtain⟨j,g1,g2⟩:=zKV hy;rw[Lt]at g1 g2
    grind
   have pR:=zJV hLi bP;have iA:(runD E0 (L.zip Xs)).Has X.rd:=by
    rw[pR,zAR];simp only[runD,Hk,if_false];have h0:=qH.get Xs E0 hh i X bP;refine h0.of fun s t gM eJ=>?_
    have hsm:s∈X.rd.map (·.1):=by grind
    refine zJU _ _ (fun y hy hb=>?_) ?_
    ·obtain⟨j,g1,g2,g3⟩:=mn y hy
     have:=Stp.apart_spec (aA j y.2 g3 g1 (by rw[g2,hb]));exact⟨by grind,by grind⟩
    ·have hmp:((L.take i).zip (Xs.take i)).map (fun y=>(iZ,y.2))=(Xs.take i).map fun y=>(iZ,y):=by
      have mU:(L.take i).length=(Xs.take i).length:=by simp;omega
      rw[show(fun y:Bool×Stp=>(iZ,y.2))=(fun y=>(iZ,y))∘Prod.snd from rfl,<-Q6,List.map_snd_zip (by omega)]
     refine zJT _ E0 E0 (fun y hy hb gU=>?_) (fun _ h=>h) t (by grind);obtain⟨j,g1,g2,g3⟩:=fW y hy;have:=Stp.apart_spec (bf j y.2 g3 g1 (by rw[g2,hb]))
     grind
   have hnext:runD E0 ((L.set i iZ).zip Xs)=(runD E0 (L.zip Xs)).apps X.l:=by
    have hLs:(L.set i iZ)[i]? =iW iZ:=by grind
    rw[zJV hLs bP,pR,zAR,zAR];simp only[runD,if_true,Hk,if_false,List.take_set_of_le (Je i),List.drop_set_of_lt (Nat.lt_succ_self i)];refine zGp _ X _ fun y hy hb=>?_
    obtain⟨j,g1,g2,g3⟩:=mn y hy;exact(Stp.apart_spec (by grind)).1
   have dT:=mh i o X (by grind) bP _ iA (zAi.runD (L.zip Xs) E0 hI fun y hy=>Ka.1 hw _ (by obtain⟨j,_,g⟩:=zKV hy;grind));unfold wpOp;simp only[ho];refine dT a w _ Q' fI hs fun a' w' gU ba=>?_
   rw[List.setIfInBounds_toArray];have gA:pn.ok o.dst=iZ:=by grind
   refine ih (L.set i iZ) a' w' (by simp[hL]) (by grind) ?_ (by grind) (fI.frame gA ba);intro k ok hk hkt m hm
   by_cases hki:k=i
   ·subst hki
    rw[ho]at hk;simp at hk;subst hk;rw[Jau];split
    ·grind
    grind
   ·rw[List.getElem?_set_ne (Ne.symm hki)]at hkt
    rw[Jau];split
    ·grind
    ·exact gy k ok hk hkt m hm
theorem CW.drawnI{eJ:List Nat}{id:Nat}{E:Env}{Q:Exit->Env->Prop}(Xs:List Stp)(an:List (List Nat))(hm:P.follows .mixedOrders=iZ)(gM:vV P Γ pn eJ ops ops.toList Xs)(hI:zAi eJ E)(hw:Xs.all (wrS eJ)=iZ)(hh:qH E Xs)
  (hQ:Q .normal (runD E (Xs.map fun y=>(iZ,y))))(hf:zBS 0 ops.toList=iZ:=by rfl)(ha:zBt an an ops.toList=iZ:=by rfl)(hp:zAs Xs 0 an Xs=iZ:=by rfl)
  (ag:ops.toList.all (fun o=>pn.ok o.dst)=iZ:=by rfl):CW P Γ pn (.region id ops iZ) E Q:=by
 intro a w Q' hs fI hQ';refine wp_region_any hm ?_;have gU:zAn Γ E a { w with drawn:=w.drawn+1 }:=by obtain⟨S,hS,ej,G,hr⟩:=hs;exact⟨S,hS,ej,G,hr.heap rfl⟩
 have:=zLc (P:=P) (Γ:=Γ) (pn:=pn) (E0:=E) (Q':=Q') hf ha hp gM hI hw hh ag (by grind) ops.size (J1 ops.size ja) a { w with drawn:=w.drawn+1 } (by simp) (by simp)
  (fun i o ho hi=>by
   grind) (by
   have:runD E ((J1 ops.size ja).zip Xs)=E:=by
    generalize ops.size=n
    clear gM hI hw hh hQ hf ha hp gU
    induction n generalizing Xs with
    |zero=>simp[runD]
    |succ n ih=>
     cases Xs with
     |nil=>simp[runD]
     |cons X Xs=>simpa[Jt,runD]using ih Xs
   grind) fI
 grind
def DK(P:Program)(Γ:Ctx)(pn:kT)(ops:Array Oper)(id:Nat)(hs:List Nat)(E0:Env)(Q:Exit->Env->Prop)(os:List Oper)(E:Env)(acc:List Stp):Prop:=
 ∀don,don++os=ops.toList->vV P Γ pn hs ops don acc.reverse->qH E0 acc.reverse->E=runD E0 (acc.reverse.map fun y=>(iZ,y))->CW P Γ pn (.region id ops iZ) E0 Q
variable {E0:Env}{acc:List Stp}
theorem CW.dk(h:DK P Γ pn ops id [] E Q ops.toList E []):CW P Γ pn (.region id ops iZ) E Q:=h [] rfl trivial trivial rfl
theorem CW.dkS(hs:List Nat)(h:DK P Γ pn ops id hs E Q ops.toList E []):CW P Γ pn (.region id ops iZ) E Q:=h [] rfl trivial trivial rfl
theorem dGP(rd:List (Nat×T))(l:zD0)(gP:E.Has rd)(gM:∀E':Env,E'.Has rd->zAi hs E'->zQi P Γ pn ops o E' (E'.apps l))(k:DK P Γ pn ops id hs E0 Q os (E.apps l) (⟨rd,l⟩::acc)):DK P Γ pn ops id hs E0 Q (o::os) E acc:=by
 intro don hd hso hh hE;subst hE;have hr:=fun X=>Hx (a:=X) (as:=acc)
 refine k (don++[o]) (by simp[hd]) ?_ ?_ ?_
 ·grind[vV.snoc]
 ·grind[qH.snoc]
 ·rw[hr,Lu,zAR];rfl
theorem dGS(rd:List (Nat×T))(l:zD0)(gP:E.Has rd)(gM:∀E':Env,E'.Has rd->zAi hs E'->yX P Γ ops o E' (E'.apps l))(k:DK P Γ pn ops id hs E0 Q os (E.apps l) (⟨rd,l⟩::acc)):DK P Γ pn ops id hs E0 Q (o::os) E acc:=
 dGP rd l gP (fun E' h h' a w K Q _=>gM E' h h' a w K Q) k
theorem dG(rd:List (Nat×T))(l:zD0)(gP:E.Has rd)(gM:∀E':Env,E'.Has rd->yX P Γ ops o E' (E'.apps l))(k:DK P Γ pn ops id hs E0 Q os (E.apps l) (⟨rd,l⟩::acc)):DK P Γ pn ops id hs E0 Q (o::os) E acc:=
 by grind[dGS]
def zT8(hs:List Nat)(E:Env):Bool:=hs.all fun s=>match E s with
 |some t=>kU t
 |none=>ja
theorem zT9(h:zT8 hs E=iZ):zAi hs E:=by
 intro s gU;have h1:=Ka.1 h s (by grind)
 grind
theorem dN(an:List (List Nat))(hm:P.follows .mixedOrders=iZ)(hQ:Q .normal E)(hf:zBS 0 ops.toList=iZ:=by rfl)(ha:zBt an an ops.toList=iZ:=by rfl)(hp:zAs acc.reverse 0 an acc.reverse=iZ:=by rfl)
  (ag:ops.toList.all (fun o=>pn.ok o.dst)=iZ:=by rfl)(bN:zT8 hs E0=iZ:=by rfl)(hw:acc.reverse.all (wrS hs)=iZ:=by rfl):DK P Γ pn ops id hs E0 Q [] E acc:=by
 intro don hd gM hh hE
 grind[CW.drawnI,zT9]
end
section
variable {P:Program}{Γ:Ctx}{pn:kT}{E E':Env}{Q:Exit->Env->Prop}{ops:Array Oper}{o:Oper}{os:List Oper}{id d:Nat}{wr:Wr}{chg:Chg}{hs:List Nat}{E0:Env}{acc:List Stp}{x y:Operand}{ty:TypeId}{ps:String}{af:Array Edge}{gd:Option (Nat×Bool)}
class zHz (P:Program) (t:TypeId) (e:outParam TypeId):Prop where
 h:P.underlying t=iW (.slice e)
class zAS (P:Program) (t:TypeId) (b:outParam Bool) (n:outParam Nat):Prop where
 h:∀u:T,u.single=b->u.size=n->zX0 P t u
theorem hE{rd:List (Nat×T)}{s:Nat}{t:T}(h:E.Has rd)(hr:vL rd s=iW t):E s=iW t:=h.le s t hr
theorem hO{rd:List (Nat×T)}{t:T}(h:E.Has rd)(hr:opT (vL rd) x=iW t):opT E x=iW t:=by
 cases x<;>simp only[opT]at hr ⊢
 ·exact h.le _ _ hr
 all_goals exact hr
mutual
def zET:T->Bool
 |.ro _|.lit _|.any=>iZ
 |.agg xs|.tup xs=>zH9 xs
 |.ptr t=>zET t
 |.sl _ []=>iZ
 |_=>ja
def zH9:List T->Bool
 | []=>iZ
 |x::xs=>zET x&&zH9 xs
end
mutual
theorem zEh:{t:T}->zET t=iZ->yA t
 |.ro _,_|.lit _,_|.any,_=>by simp[yA,yS]
 |.agg xs,h|.tup xs,h=>by simp only[zET]at h;simpa only[yA,yS]using zIx h
 |.ptr t,h=>by simp only[zET]at h;exact zTy (zEh h)
 |.sl _ [],_=>by simp[yA,yS,xN]
 |.sl _ (_::_),h=>by simp[zET]at h
 |.same _ _,h|.addr _ _,h|.sub _ _ _ _ _,h=>by simp[zET]at h
theorem zIx:{xs:List T}->zH9 xs=iZ->yZ xs
 | [],_=>trivial
 |x::xs,h=>by simp only[zH9,J3]at h;exact⟨zEh h.1,zIx h.2⟩
end
theorem yCP{α:Type}{t e:TypeId}{ti:TypeInfo}{r k:Nat}{q:List Nat}{f:α->T}{xs:List α}{v:α}{i:Int}[ht:zCv P t e ti k](hx:tT E x=iW (r,q,L k f xs))(hy:opT E y=iW (I i))(hv:ixO xs i=iW v)(sd:J4 d Γ.N=iZ):
  Ok P Γ ⟨iW d,.indexAddr t x y,ty,ps,af,gd⟩ E (E.app [(d,iW (.addr r (i.toNat::q)))] [(d,0)]):=yC9 ht hv hx hy sd
theorem yCQ{α:Type}{t e:TypeId}{ti:TypeInfo}{r k:Nat}{q:List Nat}{f:α->T}{xs:List α}{v:α}{i:Int}[ht:zCv P t e ti k](hx:tT E x=iW (r,q,.ro (L k f xs)))(hy:opT E y=iW (I i))(hv:ixO xs i=iW v)(sd:J4 d Γ.N=iZ):
  Ok P Γ ⟨iW d,.indexAddr t x y,ty,ps,af,gd⟩ E (E.app [(d,iW (.ro (.ptr (f v))))] [(d,0)]):=zZB ht hv hx hy sd
theorem zQj{t:TypeId}{u:T}{b:Bool}{n:Nat}[i:zAS P t b n](hx:opT E x=iW (.ro (.ptr u)))(h1:u.single=b)(h2:u.size=n)(sd:J4 d Γ.N=iZ):Ok P Γ ⟨iW d,.load t x,ty,ps,af,gd⟩ E (E.app [(d,iW (roT u))] [(d,0)]):=yCA (i.h u h1 h2) hx sd
theorem zTA{t:TypeId}{u tr:T}{r:Nat}{q:List Nat}{b:Bool}{n:Nat}[i:zAS P t b n](hx:opT E x=iW (.addr r q))(hr:E r=iW tr)(hg:tr.get q.reverse=iW u)(h1:u.single=b)(h2:u.size=n)(sd:(J4 d Γ.N&&tr.locd q.reverse&&(r != d)&&T.okB [(d,0)] (cpT r u q))=iZ):
  Ok P Γ ⟨iW d,.load t x,ty,ps,af,gd⟩ E (E.app [(d,iW (cpT r u q))] [(d,0)]):=yCB (i.h u h1 h2) hx hr hg sd
theorem zTB{t:TypeId}{u tr t0:T}{r:Nat}{q:List Nat}{b:Bool}{n:Nat}[i:zAS P t b n](hx:tT E x=iW (r,q,.ptr t0))(hr:E r=iW tr)(hg:tr.get (0::q).reverse=iW u)(h1:u.single=b)(h2:u.size=n)(sd:(J4 d Γ.N&&tr.locd (0::q).reverse&&(r != d)&&T.okB [(d,0)] (cpT r u (0::q)))=iZ):
  Ok P Γ ⟨iW d,.load t x,ty,ps,af,gd⟩ E (E.app [(d,iW (cpT r u (0::q)))] [(d,0)]):=yCN (i.h u h1 h2) hx hr hg sd
theorem zZO{α:Type}{t e:TypeId}{r k:Nat}{q:List Nat}{f:α->T}{xs:List α}[i:zHz P t e](hx:tT E x=iW (r,q,L k f xs))(sd:J4 d Γ.N=iZ):
  Ok P Γ ⟨iW d,.call { callee:=.builtin .len,args:=#[x],argTypes:=#[t] },ty,ps,af,gd⟩ E (E.app [(d,iW (I (xs.length:Int)))] [(d,0)]):=zZC i.h hx sd
theorem zOz{α:Type}{t e:TypeId}{r k:Nat}{q:List Nat}{f:α->T}{xs:List α}[i:zHz P t e](hx:tT E x=iW (r,q,.ro (L k f xs)))(sd:J4 d Γ.N=iZ):
  Ok P Γ ⟨iW d,.call { callee:=.builtin .len,args:=#[x],argTypes:=#[t] },ty,ps,af,gd⟩ E (E.app [(d,iW (I (xs.length:Int)))] [(d,0)]):=zTu i.h hx sd
theorem uI(k:RW P Γ pn ops os (E.app wr chg) Q)(h:Ok P Γ o E (E.app wr chg):=by exact zOs rfl rfl)(hg:o.guard=iY:=by rfl)(hp:pn.ok o.dst=iZ:=by rfl):RW P Γ pn ops (o::os) E Q:=oP h k hg hp
theorem yAP{g s:Nat}{b:Bool}(k:RW P Γ pn ops os (E.app wr chg) Q)(hg:o.guard=iW (g,b):=by rfl)(gV:(ops[g]?).bind (·.dst)=iW s:=by rfl)(hb:E s=iW (.lit (.bool b)):=by rfl)(h:Ok P Γ o E (E.app wr chg):=by exact zOs rfl rfl)(hp:pn.ok o.dst=iZ:=by rfl):RW P Γ pn ops (o::os) E Q:=RW.cons (yX.guard g b s h hg gV hb) k hp
theorem kV(k:RW P Γ pn ops os (E.app wr chg) Q)(h:Ok P Γ o E (E.app wr chg):=by exact zXz rfl rfl)(hg:o.guard=iY:=by rfl)(hp:pn.ok o.dst=iZ:=by rfl):RW P Γ pn ops (o::os) E Q:=oP h k hg hp
theorem zQk(k:RW P Γ pn ops os (E.app wr chg) Q)(h:Ok P Γ o E (E.app wr chg):=by exact zQj rfl rfl rfl rfl)(hg:o.guard=iY:=by rfl)(hp:pn.ok o.dst=iZ:=by rfl):RW P Γ pn ops (o::os) E Q:=oP h k hg hp
theorem zZP(k:RW P Γ pn ops os (E.app wr chg) Q)(h:Ok P Γ o E (E.app wr chg):=by exact yCQ (by first|exact zBN rfl rfl|exact zCu rfl rfl (by first|rfl|exact zZ (by assumption) rfl|exact zZ (by assumption) (zZ (by assumption) rfl)|exact wL rfl (zZ (by assumption) rfl)|exact wK (zZ (by assumption) rfl)|exact wK (wL rfl (zZ (by assumption) rfl))|exact wK (wL rfl (zZ (by assumption) (zZ (by assumption) rfl)))) rfl) rfl (by assumption) rfl)(hg:o.guard=iY:=by rfl)(hp:pn.ok o.dst=iZ:=by rfl):RW P Γ pn ops (o::os) E Q:=oP h k hg hp
theorem zLd(k:RW P Γ pn ops os (E.app wr chg) Q)(h:Ok P Γ o E (E.app wr chg):=by exact zOz (by first|exact zBN rfl rfl|exact zCu rfl rfl (by first|rfl|exact zZ (by assumption) rfl|exact zZ (by assumption) (zZ (by assumption) rfl)|exact wL rfl (zZ (by assumption) rfl)|exact wK (zZ (by assumption) rfl)|exact wK (wL rfl (zZ (by assumption) rfl))|exact wK (wL rfl (zZ (by assumption) (zZ (by assumption) rfl)))) rfl) rfl)(hg:o.guard=iY:=by rfl)(hp:pn.ok o.dst=iZ:=by rfl):RW P Γ pn ops (o::os) E Q:=oP h k hg hp
theorem zM8(k:RW P Γ pn ops os (E.app wr chg) Q)(h:Ok P Γ o E (E.app wr chg):=by exact zTt (by assumption) rfl rfl rfl)(hg:o.guard=iY:=by rfl)(hp:pn.ok o.dst=iZ:=by rfl):RW P Γ pn ops (o::os) E Q:=oP h k hg hp
theorem zHh(k:RW P Γ pn ops os (E.app wr chg) Q)(h:Ok P Γ o E (E.app wr chg):=by exact zZA rfl rfl rfl)(hg:o.guard=iY:=by rfl)(hp:pn.ok o.dst=iZ:=by rfl):RW P Γ pn ops (o::os) E Q:=oP h k hg hp
theorem zLe(k:RW P Γ pn ops os (E.app wr chg) Q)(h:Ok P Γ o E (E.app wr chg):=by exact zOt rfl rfl rfl)(hg:o.guard=iY:=by rfl)(hp:pn.ok o.dst=iZ:=by rfl):RW P Γ pn ops (o::os) E Q:=oP h k hg hp
theorem yEG(k:RW P Γ pn ops os (E.app wr chg) Q)(h:Ok P Γ o E (E.app wr chg):=by exact yAA inferInstance (by first|exact zBN rfl rfl|exact zCu rfl rfl (by first|rfl|exact zZ (by assumption) rfl|exact zZ (by assumption) (zZ (by assumption) rfl)|exact wL rfl (zZ (by assumption) rfl)|exact wK (zZ (by assumption) rfl)|exact wK (wL rfl (zZ (by assumption) rfl))|exact wK (wL rfl (zZ (by assumption) (zZ (by assumption) rfl)))) rfl) rfl rfl rfl)(hg:o.guard=iY:=by rfl)(hp:pn.ok o.dst=iZ:=by rfl):RW P Γ pn ops (o::os) E Q:=oP h k hg hp
theorem yCR(k:RW P Γ pn ops os (E.app wr chg) Q)(h:Ok P Γ o E (E.app wr chg):=by first|exact zTA rfl rfl rfl rfl rfl rfl|exact zTA rfl rfl (by first|rfl|exact zZ (by assumption) rfl|exact zZ (by assumption) (zZ (by assumption) rfl)|exact wL rfl (zZ (by assumption) rfl)|exact wK (zZ (by assumption) rfl)|exact wK (wL rfl (zZ (by assumption) rfl))|exact wK (wL rfl (zZ (by assumption) (zZ (by assumption) rfl)))) (by rfl) (by rfl) (by rfl))(hg:o.guard=iY:=by rfl)(hp:pn.ok o.dst=iZ:=by rfl):RW P Γ pn ops (o::os) E Q:=oP h k hg hp
theorem yCS(k:RW P Γ pn ops os (E.app wr chg) Q)(h:Ok P Γ o E (E.app wr chg):=by first|exact zTB (by first|exact zBN rfl rfl|exact zCu rfl rfl (by first|rfl|exact zZ (by assumption) rfl|exact zZ (by assumption) (zZ (by assumption) rfl)|exact wL rfl (zZ (by assumption) rfl)|exact wK (zZ (by assumption) rfl)|exact wK (wL rfl (zZ (by assumption) rfl))|exact wK (wL rfl (zZ (by assumption) (zZ (by assumption) rfl)))) rfl) rfl rfl rfl rfl rfl|exact zTB (by first|exact zBN rfl rfl|exact zCu rfl rfl (by first|rfl|exact zZ (by assumption) rfl|exact zZ (by assumption) (zZ (by assumption) rfl)|exact wL rfl (zZ (by assumption) rfl)|exact wK (zZ (by assumption) rfl)|exact wK (wL rfl (zZ (by assumption) rfl))|exact wK (wL rfl (zZ (by assumption) (zZ (by assumption) rfl)))) rfl) rfl (by first|rfl|exact zZ (by assumption) rfl|exact zZ (by assumption) (zZ (by assumption) rfl)|exact wL rfl (zZ (by assumption) rfl)|exact wK (zZ (by assumption) rfl)|exact wK (wL rfl (zZ (by assumption) rfl))|exact wK (wL rfl (zZ (by assumption) (zZ (by assumption) rfl)))) (by rfl) (by rfl) (by rfl))(hg:o.guard=iY:=by rfl)(hp:pn.ok o.dst=iZ:=by rfl):RW P Γ pn ops (o::os) E Q:=oP h k hg hp
theorem zZQ(k:RW P Γ pn ops os (E.app wr chg) Q)(h:Ok P Γ o E (E.app wr chg):=by exact zZD (by assumption) rfl rfl rfl)(hg:o.guard=iY:=by rfl)(hp:pn.ok o.dst=iZ:=by rfl):RW P Γ pn ops (o::os) E Q:=oP h k hg hp
theorem yCT(k:RW P Γ pn ops os (E.app wr chg) Q)(h:Ok P Γ o E (E.app wr chg):=by exact zCw rfl rfl)(hg:o.guard=iY:=by rfl)(hp:pn.ok o.dst=iZ:=by rfl):RW P Γ pn ops (o::os) E Q:=oP h k hg hp
theorem yCU{g s:Nat}{b:Bool}(k:RW P Γ pn ops os (E.app wr chg) Q)(hg:o.guard=iW (g,b):=by rfl)(gV:(ops[g]?).bind (·.dst)=iW s:=by rfl)(hb:E s=iW (.lit (.bool b)):=by rfl)(h:Ok P Γ o E (E.app wr chg):=by exact zCw rfl rfl)(hp:pn.ok o.dst=iZ:=by rfl):RW P Γ pn ops (o::os) E Q:=RW.cons (yX.guard g b s h hg gV hb) k hp
theorem yCV(k:RW P Γ pn ops os (E.app wr chg) Q)(h:Ok P Γ o E (E.app wr chg):=by exact zTv rfl rfl rfl)(hg:o.guard=iY:=by rfl)(hp:pn.ok o.dst=iZ:=by rfl):RW P Γ pn ops (o::os) E Q:=oP h k hg hp
theorem yCW(k:RW P Γ pn ops os (E.app wr chg) Q)(h:Ok P Γ o E (E.app wr chg):=by exact zZE rfl rfl rfl)(hg:o.guard=iY:=by rfl)(hp:pn.ok o.dst=iZ:=by rfl):RW P Γ pn ops (o::os) E Q:=oP h k hg hp
theorem zZR(k:RW P Γ pn ops os (E.app wr chg) Q)(h:Ok P Γ o E (E.app wr chg):=by exact zTx inferInstance rfl rfl rfl rfl)(hg:o.guard=iY:=by rfl)(hp:pn.ok o.dst=iZ:=by rfl):RW P Γ pn ops (o::os) E Q:=oP h k hg hp
theorem zTC(k:RW P Γ pn ops os (E.app wr chg) Q)(h:Ok P Γ o E (E.app wr chg):=by first|exact zB8 rfl (zF0 rfl) rfl|exact zB8 rfl (isPtr_addr rfl) rfl|exact zB8 rfl (zEf (by first|exact zBN rfl rfl|exact zCu rfl rfl (by first|rfl|exact zZ (by assumption) rfl|exact zZ (by assumption) (zZ (by assumption) rfl)|exact wL rfl (zZ (by assumption) rfl)|exact wK (zZ (by assumption) rfl)|exact wK (wL rfl (zZ (by assumption) rfl))|exact wK (wL rfl (zZ (by assumption) (zZ (by assumption) rfl)))) rfl)) rfl)(hg:o.guard=iY:=by rfl)(hp:pn.ok o.dst=iZ:=by rfl):RW P Γ pn ops (o::os) E Q:=oP h k hg hp
theorem yEH(k:RW P Γ pn ops os (E.app wr chg) Q)(h:Ok P Γ o E (E.app wr chg):=by exact yCP (by first|exact zBN rfl rfl|exact zCu rfl rfl (by first|rfl|exact zZ (by assumption) rfl|exact zZ (by assumption) (zZ (by assumption) rfl)|exact wL rfl (zZ (by assumption) rfl)|exact wK (zZ (by assumption) rfl)|exact wK (wL rfl (zZ (by assumption) rfl))|exact wK (wL rfl (zZ (by assumption) (zZ (by assumption) rfl)))) rfl) rfl (by assumption) rfl)(hg:o.guard=iY:=by rfl)(hp:pn.ok o.dst=iZ:=by rfl):RW P Γ pn ops (o::os) E Q:=oP h k hg hp
theorem yCX(k:RW P Γ pn ops os (E.app wr chg) Q)(h:Ok P Γ o E (E.app wr chg):=by exact zZO (by first|exact zBN rfl rfl|exact zCu rfl rfl (by first|rfl|exact zZ (by assumption) rfl|exact zZ (by assumption) (zZ (by assumption) rfl)|exact wL rfl (zZ (by assumption) rfl)|exact wK (zZ (by assumption) rfl)|exact wK (wL rfl (zZ (by assumption) rfl))|exact wK (wL rfl (zZ (by assumption) (zZ (by assumption) rfl)))) rfl) rfl)(hg:o.guard=iY:=by rfl)(hp:pn.ok o.dst=iZ:=by rfl):RW P Γ pn ops (o::os) E Q:=oP h k hg hp
theorem zXD(k:RW P Γ pn ops os (E.app wr chg) Q)(h:Ok P Γ o E (E.app wr chg):=by exact zPZ inferInstance rfl)(hg:o.guard=iY:=by rfl)(hp:pn.ok o.dst=iZ:=by rfl):RW P Γ pn ops (o::os) E Q:=oP h k hg hp
theorem zZS(k:RW P Γ pn ops os (E.app wr chg) Q)(h:Ok P Γ o E (E.app wr chg):=by exact zZG rfl rfl rfl)(hg:o.guard=iY:=by rfl)(hp:pn.ok o.dst=iZ:=by rfl):RW P Γ pn ops (o::os) E Q:=oP h k hg hp
theorem yCY(k:RW P Γ pn ops os (E.app wr chg) Q)(h:Ok P Γ o E (E.app wr chg):=by exact zZH rfl (zEh rfl) rfl)(hg:o.guard=iY:=by rfl)(hp:pn.ok o.dst=iZ:=by rfl):RW P Γ pn ops (o::os) E Q:=oP h k hg hp
theorem yCZ(k:RW P Γ pn ops os (E.app wr chg) Q)(h:Ok P Γ o E (E.app wr chg):=by exact zZN rfl rfl)(hg:o.guard=iY:=by rfl)(hp:pn.ok o.dst=iZ:=by rfl):RW P Γ pn ops (o::os) E Q:=oP h k hg hp
theorem qR(rd:List (Nat×T))(k:DK P Γ pn ops id hs E0 Q os (E.app wr chg) (⟨rd,[(wr,chg)]⟩::acc))(gP:E.Has rd:=by repeat (first|exact trivial|refine⟨rfl,?_⟩))(h:∀E':Env,E'.Has rd->Ok P Γ o E' (E'.app wr chg):=by intro E' h;exact zOs (hO h rfl) rfl)(hg:o.guard=iY:=by rfl):DK P Γ pn ops id hs E0 Q (o::os) E acc:=dG rd [(wr,chg)] gP (fun E' h'=>yX.op (h E' h') hg) k
theorem zO0{g s:Nat}{b:Bool}(rd:List (Nat×T))(k:DK P Γ pn ops id hs E0 Q os (E.app wr chg) (⟨rd,[(wr,chg)]⟩::acc))(gP:E.Has rd:=by repeat (first|exact trivial|refine⟨rfl,?_⟩))(hg:o.guard=iW (g,b):=by rfl)(gV:(ops[g]?).bind (·.dst)=iW s:=by rfl)(hb:vL rd s=iW (.lit (.bool b)):=by rfl)(h:∀E':Env,E'.Has rd->Ok P Γ o E' (E'.app wr chg):=by intro E' h;exact zOs (hO h rfl) rfl):DK P Γ pn ops id hs E0 Q (o::os) E acc:=dG rd [(wr,chg)] gP (fun E' h'=>yX.guard g b s (h E' h') hg gV (hE h' hb)) k
theorem yDa(rd:List (Nat×T))(k:DK P Γ pn ops id hs E0 Q os (E.app wr chg) (⟨rd,[(wr,chg)]⟩::acc))(gP:E.Has rd:=by repeat (first|exact trivial|refine⟨rfl,?_⟩))(h:∀E':Env,E'.Has rd->Ok P Γ o E' (E'.app wr chg):=by intro E' h;exact zXz (hO h rfl) rfl)(hg:o.guard=iY:=by rfl):DK P Γ pn ops id hs E0 Q (o::os) E acc:=dG rd [(wr,chg)] gP (fun E' h'=>yX.op (h E' h') hg) k
theorem zQl(rd:List (Nat×T))(k:DK P Γ pn ops id hs E0 Q os (E.app wr chg) (⟨rd,[(wr,chg)]⟩::acc))(gP:E.Has rd:=by repeat (first|exact trivial|refine⟨rfl,?_⟩))(h:∀E':Env,E'.Has rd->Ok P Γ o E' (E'.app wr chg):=by intro E' h;exact zQj (hO h rfl) rfl rfl rfl)(hg:o.guard=iY:=by rfl):DK P Γ pn ops id hs E0 Q (o::os) E acc:=dG rd [(wr,chg)] gP (fun E' h'=>yX.op (h E' h') hg) k
theorem zIy{g s:Nat}{b:Bool}(rd:List (Nat×T))(k:DK P Γ pn ops id hs E0 Q os (E.app wr chg) (⟨rd,[(wr,chg)]⟩::acc))(gP:E.Has rd:=by repeat (first|exact trivial|refine⟨rfl,?_⟩))(hg:o.guard=iW (g,b):=by rfl)(gV:(ops[g]?).bind (·.dst)=iW s:=by rfl)(hb:vL rd s=iW (.lit (.bool b)):=by rfl)(h:∀E':Env,E'.Has rd->Ok P Γ o E' (E'.app wr chg):=by intro E' h;exact zQj (hO h rfl) rfl rfl rfl):DK P Γ pn ops id hs E0 Q (o::os) E acc:=dG rd [(wr,chg)] gP (fun E' h'=>yX.guard g b s (h E' h') hg gV (hE h' hb)) k
theorem yAQ(rd:List (Nat×T))(k:DK P Γ pn ops id hs E0 Q os (E.app wr chg) (⟨rd,[(wr,chg)]⟩::acc))(gP:E.Has rd:=by repeat (first|exact trivial|refine⟨rfl,?_⟩))(h:∀E':Env,E'.Has rd->Ok P Γ o E' (E'.app wr chg):=by intro E' h;exact zOz (by first|exact zBN (hE h rfl) rfl|exact zCu (hE h rfl) (hE h rfl) (by first|rfl|exact zZ (by assumption) rfl|exact zZ (by assumption) (zZ (by assumption) rfl)|exact wL rfl (zZ (by assumption) rfl)|exact wK (zZ (by assumption) rfl)|exact wK (wL rfl (zZ (by assumption) rfl))|exact wK (wL rfl (zZ (by assumption) (zZ (by assumption) rfl)))) rfl) rfl)(hg:o.guard=iY:=by rfl):DK P Γ pn ops id hs E0 Q (o::os) E acc:=dG rd [(wr,chg)] gP (fun E' h'=>yX.op (h E' h') hg) k
theorem zTD{g s:Nat}{b:Bool}(rd:List (Nat×T))(k:DK P Γ pn ops id hs E0 Q os (E.app wr chg) (⟨rd,[(wr,chg)]⟩::acc))(gP:E.Has rd:=by repeat (first|exact trivial|refine⟨rfl,?_⟩))(hg:o.guard=iW (g,b):=by rfl)(gV:(ops[g]?).bind (·.dst)=iW s:=by rfl)(hb:vL rd s=iW (.lit (.bool b)):=by rfl)(h:∀E':Env,E'.Has rd->Ok P Γ o E' (E'.app wr chg):=by intro E' h;exact zOz (by first|exact zBN (hE h rfl) rfl|exact zCu (hE h rfl) (hE h rfl) (by first|rfl|exact zZ (by assumption) rfl|exact zZ (by assumption) (zZ (by assumption) rfl)|exact wL rfl (zZ (by assumption) rfl)|exact wK (zZ (by assumption) rfl)|exact wK (wL rfl (zZ (by assumption) rfl))|exact wK (wL rfl (zZ (by assumption) (zZ (by assumption) rfl)))) rfl) rfl):DK P Γ pn ops id hs E0 Q (o::os) E acc:=dG rd [(wr,chg)] gP (fun E' h'=>yX.guard g b s (h E' h') hg gV (hE h' hb)) k
theorem yDb(rd:List (Nat×T))(k:DK P Γ pn ops id hs E0 Q os (E.app wr chg) (⟨rd,[(wr,chg)]⟩::acc))(gP:E.Has rd:=by repeat (first|exact trivial|refine⟨rfl,?_⟩))(h:∀E':Env,E'.Has rd->Ok P Γ o E' (E'.app wr chg):=by intro E' h;exact zTt (by assumption) (hO h rfl) (hO h rfl) rfl)(hg:o.guard=iY:=by rfl):DK P Γ pn ops id hs E0 Q (o::os) E acc:=dG rd [(wr,chg)] gP (fun E' h'=>yX.op (h E' h') hg) k
theorem zBb(rd:List (Nat×T))(k:DK P Γ pn ops id hs E0 Q os (E.app wr chg) (⟨rd,[(wr,chg)]⟩::acc))(gP:E.Has rd:=by repeat (first|exact trivial|refine⟨rfl,?_⟩))(h:∀E':Env,E'.Has rd->Ok P Γ o E' (E'.app wr chg):=by intro E' h;exact zOt (hO h rfl) (hO h rfl) rfl)(hg:o.guard=iY:=by rfl):DK P Γ pn ops id hs E0 Q (o::os) E acc:=dG rd [(wr,chg)] gP (fun E' h'=>yX.op (h E' h') hg) k
theorem zTE(rd:List (Nat×T))(k:DK P Γ pn ops id hs E0 Q os (E.app wr chg) (⟨rd,[(wr,chg)]⟩::acc))(gP:E.Has rd:=by repeat (first|exact trivial|refine⟨rfl,?_⟩))(h:∀E':Env,E'.Has rd->Ok P Γ o E' (E'.app wr chg):=by intro E' h;exact yAA inferInstance (by first|exact zBN (hE h rfl) rfl|exact zCu (hE h rfl) (hE h rfl) (by first|rfl|exact zZ (by assumption) rfl|exact zZ (by assumption) (zZ (by assumption) rfl)|exact wL rfl (zZ (by assumption) rfl)|exact wK (zZ (by assumption) rfl)|exact wK (wL rfl (zZ (by assumption) rfl))|exact wK (wL rfl (zZ (by assumption) (zZ (by assumption) rfl)))) rfl) rfl rfl rfl)(hg:o.guard=iY:=by rfl):DK P Γ pn ops id hs E0 Q (o::os) E acc:=dG rd [(wr,chg)] gP (fun E' h'=>yX.op (h E' h') hg) k
theorem zM9(rd:List (Nat×T))(k:DK P Γ pn ops id hs E0 Q os (E.app wr chg) (⟨rd,[(wr,chg)]⟩::acc))(gP:E.Has rd:=by repeat (first|exact trivial|refine⟨rfl,?_⟩))(h:∀E':Env,E'.Has rd->Ok P Γ o E' (E'.app wr chg):=by intro E' h;first|exact zTA (hO h rfl) (hE h rfl) rfl rfl rfl rfl|exact zTA (hO h rfl) (hE h rfl) (by first|rfl|exact zZ (by assumption) rfl|exact zZ (by assumption) (zZ (by assumption) rfl)|exact wL rfl (zZ (by assumption) rfl)|exact wK (zZ (by assumption) rfl)|exact wK (wL rfl (zZ (by assumption) rfl))|exact wK (wL rfl (zZ (by assumption) (zZ (by assumption) rfl)))) (by rfl) (by rfl) (by rfl))(hg:o.guard=iY:=by rfl):DK P Γ pn ops id hs E0 Q (o::os) E acc:=dG rd [(wr,chg)] gP (fun E' h'=>yX.op (h E' h') hg) k
theorem yDc(rd:List (Nat×T))(k:DK P Γ pn ops id hs E0 Q os (E.app wr chg) (⟨rd,[(wr,chg)]⟩::acc))(gP:E.Has rd:=by repeat (first|exact trivial|refine⟨rfl,?_⟩))(h:∀E':Env,E'.Has rd->Ok P Γ o E' (E'.app wr chg):=by intro E' h;exact zCw (hO h rfl) rfl)(hg:o.guard=iY:=by rfl):DK P Γ pn ops id hs E0 Q (o::os) E acc:=dG rd [(wr,chg)] gP (fun E' h'=>yX.op (h E' h') hg) k
theorem yDd{g s:Nat}{b:Bool}(rd:List (Nat×T))(k:DK P Γ pn ops id hs E0 Q os (E.app wr chg) (⟨rd,[(wr,chg)]⟩::acc))(gP:E.Has rd:=by repeat (first|exact trivial|refine⟨rfl,?_⟩))(hg:o.guard=iW (g,b):=by rfl)(gV:(ops[g]?).bind (·.dst)=iW s:=by rfl)(hb:vL rd s=iW (.lit (.bool b)):=by rfl)(h:∀E':Env,E'.Has rd->Ok P Γ o E' (E'.app wr chg):=by intro E' h;exact zTv (hO h rfl) (hO h rfl) rfl):DK P Γ pn ops id hs E0 Q (o::os) E acc:=dG rd [(wr,chg)] gP (fun E' h'=>yX.guard g b s (h E' h') hg gV (hE h' hb)) k
theorem zIz{g s:Nat}{b:Bool}(rd:List (Nat×T))(k:DK P Γ pn ops id hs E0 Q os (E.app wr chg) (⟨rd,[(wr,chg)]⟩::acc))(gP:E.Has rd:=by repeat (first|exact trivial|refine⟨rfl,?_⟩))(hg:o.guard=iW (g,b):=by rfl)(gV:(ops[g]?).bind (·.dst)=iW s:=by rfl)(hb:vL rd s=iW (.lit (.bool b)):=by rfl)(h:∀E':Env,E'.Has rd->Ok P Γ o E' (E'.app wr chg):=by intro E' h;exact zTx inferInstance (hO h rfl) rfl rfl rfl):DK P Γ pn ops id hs E0 Q (o::os) E acc:=dG rd [(wr,chg)] gP (fun E' h'=>yX.guard g b s (h E' h') hg gV (hE h' hb)) k
theorem zLf(rd:List (Nat×T))(k:DK P Γ pn ops id hs E0 Q os (E.app wr chg) (⟨rd,[(wr,chg)]⟩::acc))(gP:E.Has rd:=by repeat (first|exact trivial|refine⟨rfl,?_⟩))(h:∀E':Env,E'.Has rd->Ok P Γ o E' (E'.app wr chg):=by intro E' h;first|exact zB8 (hO h rfl) (zF0 (hO h rfl)) rfl|exact zB8 (hO h rfl) (isPtr_addr (hO h rfl)) rfl|exact zB8 (hO h rfl) (zEf (by first|exact zBN (hE h rfl) rfl|exact zCu (hE h rfl) (hE h rfl) (by first|rfl|exact zZ (by assumption) rfl|exact zZ (by assumption) (zZ (by assumption) rfl)|exact wL rfl (zZ (by assumption) rfl)|exact wK (zZ (by assumption) rfl)|exact wK (wL rfl (zZ (by assumption) rfl))|exact wK (wL rfl (zZ (by assumption) (zZ (by assumption) rfl)))) rfl)) rfl)(hg:o.guard=iY:=by rfl):DK P Γ pn ops id hs E0 Q (o::os) E acc:=dG rd [(wr,chg)] gP (fun E' h'=>yX.op (h E' h') hg) k
theorem zEU{g s:Nat}{b:Bool}(rd:List (Nat×T))(k:DK P Γ pn ops id hs E0 Q os (E.app wr chg) (⟨rd,[(wr,chg)]⟩::acc))(gP:E.Has rd:=by repeat (first|exact trivial|refine⟨rfl,?_⟩))(hg:o.guard=iW (g,b):=by rfl)(gV:(ops[g]?).bind (·.dst)=iW s:=by rfl)(hb:vL rd s=iW (.lit (.bool b)):=by rfl)(h:∀E':Env,E'.Has rd->Ok P Γ o E' (E'.app wr chg):=by intro E' h;first|exact zB8 (hO h rfl) (zF0 (hO h rfl)) rfl|exact zB8 (hO h rfl) (isPtr_addr (hO h rfl)) rfl|exact zB8 (hO h rfl) (zEf (by first|exact zBN (hE h rfl) rfl|exact zCu (hE h rfl) (hE h rfl) (by first|rfl|exact zZ (by assumption) rfl|exact zZ (by assumption) (zZ (by assumption) rfl)|exact wL rfl (zZ (by assumption) rfl)|exact wK (zZ (by assumption) rfl)|exact wK (wL rfl (zZ (by assumption) rfl))|exact wK (wL rfl (zZ (by assumption) (zZ (by assumption) rfl)))) rfl)) rfl):DK P Γ pn ops id hs E0 Q (o::os) E acc:=dG rd [(wr,chg)] gP (fun E' h'=>yX.guard g b s (h E' h') hg gV (hE h' hb)) k
theorem yEI(rd:List (Nat×T))(k:DK P Γ pn ops id hs E0 Q os (E.app wr chg) (⟨rd,[(wr,chg)]⟩::acc))(gP:E.Has rd:=by repeat (first|exact trivial|refine⟨rfl,?_⟩))(h:∀E':Env,E'.Has rd->Ok P Γ o E' (E'.app wr chg):=by intro E' h;exact yCP (by first|exact zBN (hE h rfl) rfl|exact zCu (hE h rfl) (hE h rfl) (by first|rfl|exact zZ (by assumption) rfl|exact zZ (by assumption) (zZ (by assumption) rfl)|exact wL rfl (zZ (by assumption) rfl)|exact wK (zZ (by assumption) rfl)|exact wK (wL rfl (zZ (by assumption) rfl))|exact wK (wL rfl (zZ (by assumption) (zZ (by assumption) rfl)))) rfl) (hO h rfl) (by assumption) rfl)(hg:o.guard=iY:=by rfl):DK P Γ pn ops id hs E0 Q (o::os) E acc:=dG rd [(wr,chg)] gP (fun E' h'=>yX.op (h E' h') hg) k
theorem yDe(rd:List (Nat×T))(k:DK P Γ pn ops id hs E0 Q os (E.app wr chg) (⟨rd,[(wr,chg)]⟩::acc))(gP:E.Has rd:=by repeat (first|exact trivial|refine⟨rfl,?_⟩))(h:∀E':Env,E'.Has rd->Ok P Γ o E' (E'.app wr chg):=by intro E' h;exact zZO (by first|exact zBN (hE h rfl) rfl|exact zCu (hE h rfl) (hE h rfl) (by first|rfl|exact zZ (by assumption) rfl|exact zZ (by assumption) (zZ (by assumption) rfl)|exact wL rfl (zZ (by assumption) rfl)|exact wK (zZ (by assumption) rfl)|exact wK (wL rfl (zZ (by assumption) rfl))|exact wK (wL rfl (zZ (by assumption) (zZ (by assumption) rfl)))) rfl) rfl)(hg:o.guard=iY:=by rfl):DK P Γ pn ops id hs E0 Q (o::os) E acc:=dG rd [(wr,chg)] gP (fun E' h'=>yX.op (h E' h') hg) k
theorem zZT(rd:List (Nat×T))(k:DK P Γ pn ops id hs E0 Q os (E.app wr chg) (⟨rd,[(wr,chg)]⟩::acc))(gP:E.Has rd:=by repeat (first|exact trivial|refine⟨rfl,?_⟩))(h:∀E':Env,E'.Has rd->Ok P Γ o E' (E'.app wr chg):=by intro E' h;exact zZF (by assumption) (hO h rfl) rfl)(hg:o.guard=iY:=by rfl):DK P Γ pn ops id hs E0 Q (o::os) E acc:=dG rd [(wr,chg)] gP (fun E' h'=>yX.op (h E' h') hg) k
theorem cA{f:FuncId}{xs:List Operand}{ats:Array TypeId}{us res:List T}(gx:zB9 P f)(hc:FnC P f us res [])(k:RW P Γ pn ops os (E.app (cWr d res []) (vU d [])) Q)(gp:xZ E [] 0 xs us:=by repeat (first|exact trivial|refine⟨agC _ rfl (by first|rfl|exact zR7 inferInstance|exact zOu rfl (by first|rfl|exact zZ (by assumption) rfl|exact zZ (by assumption) (zZ (by assumption) rfl)|exact wL rfl (zZ (by assumption) rfl)|exact wK (zZ (by assumption) rfl)|exact wK (wL rfl (zZ (by assumption) rfl))|exact wK (wL rfl (zZ (by assumption) (zZ (by assumption) rfl)))) inferInstance|exact cloSR rfl (by first|rfl|exact zZ (by assumption) rfl|exact zZ (by assumption) (zZ (by assumption) rfl)|exact wL rfl (zZ (by assumption) rfl)|exact wK (zZ (by assumption) rfl)|exact wK (wL rfl (zZ (by assumption) rfl))|exact wK (wL rfl (zZ (by assumption) (zZ (by assumption) rfl))))) rfl,?_⟩))(gz:zDi res:=by repeat (first|exact zER|refine zGt inferInstance ?_))(sd:J4 d Γ.N=iZ:=by rfl)(hg:gd=iY:=by rfl)(hp:pn.ok (iW d)=iZ:=by rfl):
  RW P Γ pn ops (⟨iW d,.call { callee:=.value (.func f),args:=xs.toArray,argTypes:=ats },ty,ps,af,gd⟩::os) E Q:=oP (zBa gx hc gp gz sd) k hg hp
theorem dC{f:FuncId}{xs:List Operand}{ats:Array TypeId}{us res:List T}(rd:List (Nat×T))(gx:zB9 P f)(hc:FnC P f us res [])(k:DK P Γ pn ops id hs E0 Q os (E.app (cWr d res []) (vU d [])) (⟨rd,[(cWr d res [],vU d [])]⟩::acc))(gP:E.Has rd:=by repeat (first|exact trivial|refine⟨rfl,?_⟩))(gp:∀E':Env,E'.Has rd->xZ E' [] 0 xs us:=by intro E' h;repeat (first|exact trivial|refine⟨agC _ (hO h rfl) (by first|rfl|exact zR7 inferInstance|exact zOu (hE h rfl) (by first|rfl|exact zZ (by assumption) rfl|exact zZ (by assumption) (zZ (by assumption) rfl)|exact wL rfl (zZ (by assumption) rfl)|exact wK (zZ (by assumption) rfl)|exact wK (wL rfl (zZ (by assumption) rfl))|exact wK (wL rfl (zZ (by assumption) (zZ (by assumption) rfl)))) inferInstance|exact cloSR (hE h rfl) (by first|rfl|exact zZ (by assumption) rfl|exact zZ (by assumption) (zZ (by assumption) rfl)|exact wL rfl (zZ (by assumption) rfl)|exact wK (zZ (by assumption) rfl)|exact wK (wL rfl (zZ (by assumption) rfl))|exact wK (wL rfl (zZ (by assumption) (zZ (by assumption) rfl))))) rfl,?_⟩))(gz:zDi res:=by repeat (first|exact zER|refine zGt inferInstance ?_))(sd:J4 d Γ.N=iZ:=by rfl)(hg:gd=iY:=by rfl):
  DK P Γ pn ops id hs E0 Q (⟨iW d,.call { callee:=.value (.func f),args:=xs.toArray,argTypes:=ats },ty,ps,af,gd⟩::os) E acc:=
 dG rd [(cWr d res [],vU d [])] gP (fun E' h'=>yX.op (zBa gx hc (gp E' h') gz sd) hg) k
theorem sk2{g s:Nat}{b b':Bool}(k:RW P Γ pn ops os (E.app [(d,iW (.tup []))] [(d,0)]) Q)(hd:o.dst=iW d:=by rfl)(hg:o.guard=iW (g,b):=by rfl)(gV:(ops[g]?).bind (·.dst)=iW s:=by rfl)(hb:E s=iW (.lit (.bool b')):=by rfl)(eO:(b==b')=ja:=by rfl)(sd:J4 d Γ.N=iZ:=by rfl)(hp:pn.ok o.dst=iZ:=by rfl):
  RW P Γ pn ops (o::os) E Q:=RW.cons (yX.skip2 g b b' s hd sd eO hg gV hb) k hp
theorem sk3{g s:Nat}{b:Bool}(k:RW P Γ pn ops os (E.app [(d,iW (.tup []))] [(d,0)]) Q)(hd:o.dst=iW d:=by rfl)(hg:o.guard=iW (g,b):=by rfl)(gV:(ops[g]?).bind (·.dst)=iW s:=by rfl)(hb:E s=iW (.tup []):=by rfl)(sd:J4 d Γ.N=iZ:=by rfl)(hp:pn.ok o.dst=iZ:=by rfl):
  RW P Γ pn ops (o::os) E Q:=RW.cons (yX.skip3 g b s hd sd hg gV hb) k hp
theorem vX{g s:Nat}{b b':Bool}(k:DK P Γ pn ops id hs E0 Q os (E.app [(d,iW (.tup []))] [(d,0)]) (⟨[(s,.lit (.bool b'))],[([(d,iW (.tup []))],[(d,0)])]⟩::acc))(hd:o.dst=iW d:=by rfl)(hg:o.guard=iW (g,b):=by rfl)(gV:(ops[g]?).bind (·.dst)=iW s:=by rfl)(hb:E s=iW (.lit (.bool b')):=by rfl)(eO:(b==b')=ja:=by rfl)(sd:J4 d Γ.N=iZ:=by rfl):
  DK P Γ pn ops id hs E0 Q (o::os) E acc:=dG [(s,.lit (.bool b'))] [([(d,iW (.tup []))],[(d,0)])] ⟨hb,trivial⟩ (fun _E' h=>yX.skip2 g b b' s hd sd eO hg gV h.1) k
theorem yEJ{g s:Nat}{b:Bool}(k:DK P Γ pn ops id hs E0 Q os (E.app [(d,iW (.tup []))] [(d,0)]) (⟨[(s,.tup [])],[([(d,iW (.tup []))],[(d,0)])]⟩::acc))(hd:o.dst=iW d:=by rfl)(hg:o.guard=iW (g,b):=by rfl)(gV:(ops[g]?).bind (·.dst)=iW s:=by rfl)(hb:E s=iW (.tup []):=by rfl)(sd:J4 d Γ.N=iZ:=by rfl):
  DK P Γ pn ops id hs E0 Q (o::os) E acc:=dG [(s,.tup [])] [([(d,iW (.tup []))],[(d,0)])] ⟨hb,trivial⟩ (fun _E' h=>yX.skip3 g b s hd sd hg gV h.1) k
theorem dNA(hm:P.follows .mixedOrders=iZ)(hQ:Q .normal E)(hf:zBS 0 ops.toList=iZ:=by rfl)(ha:zBt (yAM ops.toList) (yAM ops.toList) ops.toList=iZ:=by rfl)(hp:zAs acc.reverse 0 (yAM ops.toList) acc.reverse=iZ:=by rfl)
  (ag:ops.toList.all (fun o=>pn.ok o.dst)=iZ:=by rfl)(bN:zT8 hs E0=iZ:=by rfl)(hw:acc.reverse.all (wrS hs)=iZ:=by rfl):DK P Γ pn ops id hs E0 Q [] E acc:=dN _ hm hQ hf ha hp ag bN hw
theorem cn{c1 c2:Code}{α:Type}{b:Bool}{u v z:α}(h:cond b u v=z)(ht:b=iZ->u=z->CW P Γ pn c1 E Q)(hf:b=ja->v=z->CW P Γ pn c2 E Q)(hb:opT E x=iW (.lit (.bool b)):=by rfl):CW P Γ pn (.cond x c1 c2) E Q:=
 CW.cond b hb (fun hc=>ht hc (cT hc h)) fun hc=>hf hc (cF hc h)
theorem fB{f:FuncId}{fn:Func}{c:Code}{us res:List T}{rws:List (Nat×T)}(hf:P.funcs[f]? =iW fn)(h:∀(St:Stb)(W:Nat->Prop)(w0:World)(v:Nat->Value),CW P ⟨St,W,w0,fn.ntmps⟩ (zDz v (rws.map (·.1))) c (vL (zJz 0 us)) (xQ ⟨St,W,w0,fn.ntmps⟩ P fn.results us res rws))(hb:fn.body=iW c:=by rfl)(hn:us.length<=fn.ntmps:=by exact Nat.le_of_ble_eq_true rfl)
  (ht:uQ us:=by repeat (first|exact trivial|refine⟨by first|exact Top.of_clean _ (Enc.clean _)|simp[Top,uQ],?_⟩))(hr:rws.all (fun x=>decide (x.1<us.length))=iZ:=by rfl):FnC P f us res rws:=
 FnC.of_bodyG hf hb hn ht hr (by rintro⟨St,W,w0,N⟩ v hN;subst hN;exact h St W w0 v)
def zD4:List ResultVar->Option (List Nat)
 | []=>iW []
 |.tmp s::l=>(zD4 l).map (s::·)
 |.cell _ _::_=>iY
theorem zKa:∀(rs:List ResultVar)(ss:List Nat)(res:List T),zD4 rs=iW ss->ss.map E=res.map iW->res.all T.okTup=iZ-> ∃nd:Nds,zHv P E rs nd/\nd.map (·.2.2)=res/\nd.map (·.1)=ss
 | [],ss,res,h,hE,_=>by
  simp[zD4]at h;subst h;cases res with
  |nil=>exact⟨[],trivial,rfl,rfl⟩
  |cons _ _=>simp at hE
 |.tmp s::rs,ss,res,h,hE,ht=>by
  simp only[zD4,Kl]at h;obtain⟨ss',h,rfl⟩:=h;cases res with
  |nil=>simp at hE
  |cons t res=>
   simp only[Js,Ja8.injEq]at hE;simp only[Uf,J3]at ht;obtain⟨nd,h1,h2,h3⟩:=zKa rs ss' res h hE.2 ht.2;exact⟨(s,[],t)::nd,⟨⟨rfl,rfl,hE.1,ht.1⟩,h1⟩,by simp[h2],by simp[h3]⟩
 |.cell _ _::_,_,_,h,_,_=>by simp[zD4]at h
theorem rT{rs:Array ResultVar}{us res:List T}{rws:List (Nat×T)}{e:Exit}{ss:List Nat}(hs:zD4 rs.toList=iW ss:=by rfl)(hE:ss.map E=res.map iW:=by rfl)(ht:res.all T.okTup=iZ:=by rfl)(hl:ss.all (fun s=>Uy us.length s)=iZ:=by rfl)(hn:zCd ss=iZ:=by rfl)
  (hw:LOk E us rws:=by repeat (first|exact trivial|refine⟨⟨rfl,_,rfl⟩,?_⟩))(he:e=.ret\/e=.normal:=by first|exact .inl rfl|exact .inr rfl):xQ Γ P rs us res rws e E:=by
 obtain⟨nd,h1,h2,h3⟩:=zKa (P:=P) rs.toList ss res hs hE ht;refine⟨E,zR.refl,he,nd,h1,h2,fun x hx=>?_,by rw[h3];exact zEg hn,hw⟩;have:x.1∈ss:=by rw[<-h3];exact Jn.2 ⟨x,hx,rfl⟩
 exact Nat.le_of_ble_eq_true (Ka.1 hl _ this)
theorem eN{σ ρ:Type}{en:σ->Env}{Q1:ρ->Exit->Env->Prop}{y:σ}{x:σ⊕ρ}(h:iW (Sum.inl y)=iW x)(q:zR Γ E (en y):=by exact .has (by repeat (first|exact trivial|refine⟨rfl,?_⟩))):xF Γ en Q1 x .normal E:=by obtain rfl:=sI h;exact⟨rfl,q⟩
theorem rTg{rs:Array ResultVar}{us res:List T}{rws:List (Nat×T)}{e:Exit}(hg:zR Γ E E')(h:xQ Γ P rs us res rws e E'):xQ Γ P rs us res rws e E:=by obtain⟨E2,h1,h2⟩:=h;exact⟨E2,hg.trans h1,h2⟩
theorem eX{σ ρ:Type}{en:σ->Env}{Q1:ρ->Exit->Env->Prop}{y:ρ}{x:σ⊕ρ}{e:Exit}(h:iW (Sum.inr y)=iW x)(q:Q1 y e E:=by first|exact⟨rfl,.has (by repeat (first|exact trivial|refine⟨rfl,?_⟩))⟩|exact⟨rfl,rT⟩)(gk:e≠.normal:=by first|exact neX|exact neR):xF Γ en Q1 x e E:=by obtain rfl:=sI h;exact⟨gk,q⟩
end
section
variable {Γ:Ctx}{E:Env}
theorem zR.frzG(s:Nat)(t:T){t':T}(hs:E s=iW t)(h:vW t=t'):zR Γ E (E.app [(s,iW t')] [(s,1)]):=h▸zR.freeze s t hs
theorem fzO{α:Type}{k:Nat}{f g:α->T}{xs:List α}(h:uO f g):vW (L k f xs)=.ro (L k g xs):=by simp only[vW,strip,tL h.h xs]
theorem fzA{xs ys:List T}(h:uP xs=ys):vW (.agg xs)=.agg ys:=by grind[vW]
theorem fzC{x y:T}{xs ys:List T}(h:vW x=y)(h2:uP xs=ys):uP (x::xs)=y::ys:=by grind[uP]
end
theorem zQm{α:Type}{k:Nat}{f:α->T}{xs:List α}{i j:Int}{a b:α}{X:T}(hi:ixO xs i=iW a)(hj:ixO xs j=iW b)(gk:(i != j)=iZ):
  (if[i.toNat]=[]then X else(L k f xs).set [i.toNat].reverse T.any).get [j.toNat].reverse=iW (f b):=by
 have h1:=(tK hi);have h2:=(tK hj);have h3:i≠j:=by grind
 have h4:i.toNat≠j.toNat:=by omega
 simp only[List.cons_ne_nil,if_false,Hx,Hp,Jv]
 grind[T.set,T.get]
theorem zTF{E:Env}{rs:List Nat}{s r:Nat}{q:List Nat}{tr u:T}(hr:E r=iW tr)(hg:tr.get q.reverse=iW u)(h4:zBu u=iZ)(hn:rs.contains r=ja):zJN E rs (.tmp s) (.same r q)=iZ:=by simp only[zJN,qN,zGs hr hg h4,hn,Kb]
end Go.Ab
