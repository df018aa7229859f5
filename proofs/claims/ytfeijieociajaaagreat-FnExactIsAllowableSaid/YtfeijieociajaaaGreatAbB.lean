/- The program's IsAllowable returns what the reference's returns,for all arguments;no conditions. -/
import Derived.Test.YtfeijieociajaaaGreatAbA
import Derived.Laws.CopyRow
import Derived.ProofKit
open List renaming replicate→J1,getElem?_eq_getElem→J3,length_append→J5,length_cons→J7,mem_cons→J9,mem_append→Ja,mem_map→Jc,range→Jd,length_map→Jf,append_assoc→Jg,append_nil→Jh,getElem?_append_right→Jk,getElem?_eq_some_iff→Jm,length_nil→Jt,map_cons→Ju,replicate_succ→Jv,getElem?_map→Jw,getElem?_append_left→Jy,nil_append→K0,map_append→K6,range'→K7,cons_append→K9,take_zero→Kd,length_take→Ke,eq_nil_of_length_eq_zero→Kf,reverse_reverse→Ki,all_eq_true→Kj,flatMap_cons→Kr,getElem?_append→Ks,range_eq_range'→Kw,take_succ_cons→L5,nodup_cons→La,mem_iff_getElem→Ld,map_nil→Le,length_range→Lh,mem_of_getElem?→Lu,getElem?_drop→Ly,contains_eq_mem→H9,getElem?_take→Hd,range'_succ→Ho,reverse_nil→Hw,reverse_cons→G8,getD→U7,drop_zero→Uf,map_set→Uk,all_cons→Un,map_take→Uw,find?_cons_of_neg→Qc,cons→Qd,mem_iff_getElem?→Qe,mem_cons_of_mem→Qn,getLast?_append→Qo,dropLast_concat→Qp,find?_eq_none→Ja1,getElem?_set_self→Jaj,getElem?_set→Jan,set_set→Jax,map_map→Jaz,getElem?_set_ne→Jb0,mem_filter→Jb7,getElem?_cons_succ→Jb9,size_toArray→Jbm,map_drop→Jbn
open Bool renaming and_eq_true->J4,not_true->Kb,not_false->Ky,and_self->Lp,false_eq_true->Hs,not_eq_true'->Gv,true_and->Qs
open Nat renaming blt->J6,le_refl->Je,zero_add->Ji,succ_mul->K8,mul_le_mul_right->Kc,zero_le->Lf,div_add_mod->Lx,mul_one->Lz,div_lt_iff_lt_mul->H6,le_trans->H8,add_assoc->Ha,mod_lt->Hu,beq->G3,add_zero->Um
open Array renaming getElem?_setIfInBounds->Jj,length_toList->Km,getD_eq_getD_getElem?->Kn,getElem?_toList->Kx,getElem?_eq_some_iff->H7,replicate->Ut
open Option renaming map_eq_some_iff->Kg,getD_some->Lq,map_some->He,some->Hm,map_eq_none_iff->Q3
open Prod renaming mk->Jah
open Option renaming some->jf,none->jg
open Bool renaming true->jh,false->ji
namespace Go.Ab
open Go
variable {i l m h:Int}{d id r k s0 j off o0:Nat}{x:Operand}{Γ:Ctx}{E E' E1:Env}{G:Gh}{tmps:Array Value}{w':World}{wr:Wr}{a:Act}{us ts:List T}{u u' tr' u0 t0:T}{ats:Array TypeId}{P:Program}{σ ρ α:Type}{fn:Func}{c:Code}{rws rd:List (Nat×T)}{ti:TypeInfo}{xt yt e:TypeId}{q:List Nat}{f:α->T}
abbrev Rw:=List (Nat×Nat×T)
variable {rw:Rw}
def rwI(rw:Rw)(s:Nat):Option Nat:=(rw.find? fun x=>x.2.1==s).map (·.1)
def rwS(rw:Rw)(i:Nat):Option Nat:=(rw.find? fun x=>x.1==i).map (·.2.1)
theorem zCj:(rw:Rw)->(rw.map (·.2.1)).Nodup-> ∀{i s:Nat}{u:T},(i,s,u)∈rw->rwI rw s=jf i
 | [],_,_,_,_,h=>by simp at h
 |(i0,s0,u0)::rw,hn,i,s,u,h=>by
  simp only[Ju,La,Jc]at hn;rcases J9.1 h with h|h
  ·simp at h;obtain⟨rfl,rfl,rfl⟩:=h;simp[rwI]
  ·have gc:s0≠s:=fun e=>hn.1 ⟨_,h,e.symm⟩
   have:=zCj rw hn.2 h;simp only[rwI]at this ⊢
   rw[Qc (by simpa using gc)];exact this
theorem zLS:(rw:Rw)->(rw.map (·.1)).Nodup-> ∀{i s:Nat}{u:T},(i,s,u)∈rw->rwS rw i=jf s
 | [],_,_,_,_,h=>by simp at h
 |(i0,s0,u0)::rw,hn,i,s,u,h=>by
  simp only[Ju,La,Jc]at hn;rcases J9.1 h with h|h
  ·simp at h;obtain⟨rfl,rfl,rfl⟩:=h;simp[rwS]
  ·have gc:i0≠i:=fun e=>hn.1 ⟨_,h,e.symm⟩
   have:=zLS rw hn.2 h;simp only[rwS]at this ⊢
   rw[Qc (by simpa using gc)];exact this
theorem zLT{s:Nat}(h:s∉rw.map (·.2.1)):rwI rw s=jg:=by simp only[rwI,Q3,Ja1];intro x hx;simp only[beq_iff_eq];exact fun e=>h (Jc.2 ⟨x,hx,e⟩)
theorem zTJ{i:Nat}(h:∀x∈rw,x.1≠i):rwS rw i=jg:=by simp only[rwS,Q3,Ja1];intro x hx;simpa using h x hx
theorem zQn{s i:Nat}(h:rwI rw s=jf i):s∈rw.map (·.2.1):=by simp only[rwI,Kg]at h;obtain⟨x,hx,_⟩:=h;have h1:=List.mem_of_find?_eq_some hx;have h2:=List.find?_some hx;exact Jc.2 ⟨x,h1,by simpa using h2⟩
abbrev Nd:=List (Nat×List Nat×T)
def zTK(nd:Nd)(k s:Nat):Option (Nat×List Nat):=
 match nd with
 | []=>jg
 |x::r=>if x.1=s then jf (k,x.2.1)else zTK r (k+1) s
def ndB(d:Nat)(nd:Nd)(s:Nat)(z:List Nat):Option (Nat×List Nat):=
 match nd with
 | [x]=>if x.1=s/\x.2.1<:+z then jf (d,z.take (z.length-x.2.1.length))else jg
 |nd=>match zTK nd 0 s with
  |some (k,q)=>if q<:+z then jf (d,z.take (z.length-q.length)++[k])else jg
  |none=>jg
theorem zJf:(nd:Nd)->(nd.map (·.1)).Nodup-> ∀{k k0:Nat}{x:Nat×List Nat×T},nd[k]? =jf x->zTK nd k0 x.1=jf (k0+k,x.2.1)
 | [],_,_,_,_,h=>by simp at h
 |y::nd,hn,k,k0,x,h=>by
  simp only[Ju,La,Jc]at hn;cases k with
  |zero=>simp at h;subst h;simp[zTK]
  |succ k=>
   simp only[Jb9]at h;have gc:y.1≠x.1:=fun e=>hn.1 ⟨x,Lu h,e.symm⟩
   simp only[zTK,gc,if_false];rw[zJf nd hn.2 h]
   congr 2;omega
def zTL(G:Gh)(nd:Nd)(z:List Nat):Value:=
 match nd with
 | [x]=>G.hd x.1 (z++x.2.1)
 |nd=>match z.getLast? with
  |some k=>(match nd[k]? with
   |some x=>G.hd x.1 (z.dropLast++x.2.1)
   |none=>.bool ji)
  |none=>.bool ji
def zXT(G:Gh)(nd:Nd)(z:List Nat):Addr:=
 match nd with
 | [x]=>G.ad x.1 (z++x.2.1)
 |nd=>match z.getLast? with
  |some k=>(match nd[k]? with
   |some x=>G.ad x.1 (z.dropLast++x.2.1)
   |none=>default)
  |none=>default
def Gh.arg(G:Gh)(a:Act)(xs:List Operand)(rw:Rw):Gh where
 hd i z:=match xs[i]? with
  |some (.tmp s)=>G.hd s z
  |some x=>jE (a.eval x)
  |none=>.bool ji
 ad i z:=match xs[i]? with
  |some (.tmp s)=>G.ad s z
  |_=>default
 lb b o:=match G.lb b o with
  |some (f,s,z)=>(match rwI rw s,G.ow b with
   |some i,jf (s',_)=>if s'=s then jf (f,i,z)else jg
   |_,_=>jg)
  |none=>jg
 ow b:=match G.ow b with
  |some (s,z)=>(match rwI rw s with
   |some i=>jf (i,z)
   |none=>jg)
  |none=>jg
def zAo(G:Gh)(rw:Rw)(b:Nat):Prop:=∃s z,G.ow b=jf (s,z)/\s∈rw.map (·.2.1)
def zDs(d:Nat)(rw:Rw)(nd:Nd)(s:Nat)(z:List Nat):Option (Nat×List Nat):=
 match rwS rw s with
 |some s'=>jf (s',z)
 |none=>ndB d nd s z
open Classical in
noncomputable def Gh.back (G G':Gh) (n0 d:Nat) (rw:Rw) (nd:Nd):Gh where
 hd s z:=if s=d then zTL G' nd z else match rwI rw s with
  |some i=>G'.hd i z
  |none=>G.hd s z
 ad s z:=if s=d then zXT G' nd z else match rwI rw s with
  |some i=>if z=[]then G.ad s z else G'.ad i z
  |none=>G.ad s z
 lb b o:=if zAo G rw b\/n0<=b then(match G'.lb b o with
  |some (f,s,z)=>(match zDs d rw nd s z with
   |some (s',z')=>jf (f,s',z')
   |none=>jg)
  |none=>jg)else G.lb b o
 ow b:=if zAo G rw b\/n0<=b then(match G'.ow b with
  |some (s,z)=>zDs d rw nd s z
  |none=>jg)else G.ow b
def zGu(res:List T):T:=match res with
 | [u]=>u
 |us=>.tup us
def cWr(d:Nat)(res:List T)(rw:Rw):Wr:=(d,jf (zGu res))::rw.map fun x=>(x.2.1,jf x.2.2)
def cLv(t:T):Nat:=if t.single then 1 else 0
def uC(d:Nat)(rw:Rw):Chg:=(d,0)::rw.map fun x=>(x.2.1,cLv x.2.2)
theorem zHk{x:Nat×Nat×T}(h:x∈rw):(x.2.1,cLv x.2.2)∈uC d rw:=Qn _ (Jc.2 ⟨x,h,rfl⟩)
theorem zQo{Gn G':Gh}{d:Nat}:(nd:Nd)-> ∀(j:Nat),(∀k x,nd[k]? =jf x-> ∀z,Gn.hd d (z++[j+k])=G'.hd x.1 (z++x.2.1))->jY Gn d (nd.map (·.2.2)) [] j=nd.map fun x=>sD G' x.1 x.2.2 x.2.1
 | [],_,_=>by simp[jY]
 |x::nd,j,h=>by
  have ih:=zQo (Gn:=Gn) (G':=G') (d:=d) nd (j+1) (fun k y hy z=>by rw[show j+1+k=j+(k+1)from by omega];exact h (k+1) y (by simpa using hy) z)
  simp only[Ju,jY,ih];rw[zBz x.2.2 x.2.1 [j] (by simpa using h 0 x (by simp))]
theorem zTM{res:List T}{s:Nat}{x:Option T}(h:(cWr d res rw).find s=jf x):(s=d/\x=jf (zGu res))\/(s≠d/\ ∃i u,(i,s,u)∈rw/\x=jf u):=by
 simp only[cWr,Wr.find]at h;split at h
 ·rename_i he;simp at h;exact .inl ⟨he.symm,h.symm⟩
 ·rename_i gc
  refine .inr ⟨fun e=>gc e.symm,?_⟩
  clear gc
  induction rw with
  |nil=>simp[Wr.find]at h
  |cons y rw ih=>
   simp only[Ju,Wr.find]at h;split at h
   ·rename_i he;simp at h;subst he;exact⟨y.1,y.2.2,by simp,h.symm⟩
   ·obtain⟨i,u,h1,h2⟩:=ih h;exact⟨i,u,by simp[h1],h2⟩
theorem zTN{res:List T}{s:Nat}(h:(cWr d res rw).find s=jg):s≠d/\s∉rw.map (·.2.1):=by
 simp only[cWr,Wr.find]at h;split at h
 ·cases h
 ·rename_i gc
  refine⟨fun e=>gc e.symm,?_⟩
  clear gc
  induction rw with
  |nil=>simp
  |cons y rw ih=>
   simp only[Ju,Wr.find]at h;split at h
   ·cases h
   ·rename_i he
    simp only[Ju,J9,not_or];exact⟨fun e=>he e.symm,ih h⟩
def aft(S Sc S':Stb):Stb:=fun b=>match Sc b with
 |none=>S' b
 |some _=>S b
theorem Rep.up{tmps':Array Value}{w:World}{G':Gh}{chg:Chg}{S:Stb}(h:Rep Γ E G tmps w)(hS:∀b x,Γ.St b=jf x->S b=jf x)
  (gM:tmps'.size=tmps.size)(hk:sM chg G w G' w')(gp:Mem (Γ.at S) G' w')
  (gD:∀s,wr.find s=jg->(∀n,(s,n)∉chg)/\tmps'[s]? =tmps[s]?)
  (eB:∀s t,wr.find s=jf (jf t)->Ent (Γ.at S) G' w' tmps'[s]? s t):Rep (Γ.at S) (E.app wr chg) G' tmps' w' where
 size:=by rw[gM];exact h.size
 mem:=gp
 ent s t hs:=by
  unfold Env.app at hs;cases hf:wr.find s with
  |some x=>
   rw[hf]at hs;simp at hs;subst hs;exact eB s t hf
  |none=>
   rw[hf]at hs;simp at hs;cases he:E s with
   |none=>simp[he]at hs
   |some u=>
    simp[he]at hs;obtain⟨gz,rfl⟩:=hs;rw[(gD s hf).2];obtain⟨e1,e2,e3⟩:=Ent.keep hk (gD s hf).1 gz (h.ent s u he);exact⟨e1,zKv hS u [] e2,e3⟩
section
variable {P:Program}{Γ:Ctx}{E:Env}{d:Nat}
theorem zEt{w:World}(g9:Rep Γ E G a.tmps w)(hd:d<Γ.N){Sc:Stb}(hS1:∀b x,Sc b=jf x->w.heap[b]? =jf x/\ ¬zAo G rw b)(hS0:∀b x,Γ.St b=jf x->Sc b=jf x){f:FuncId}{res:List T}
  (hc:FnC P f us res (rw.map fun x=>(x.1,x.2.2))){xs:List Operand}(gf:xs.length=us.length)
  (gj:∀(i:Nat) u,us[i]? =jf u->(∃x,xs[i]? =jf x/\a.eval x=mkV (G.arg a xs rw) i u []/\R Sc (G.arg a xs rw) w i u []))
  (bh:(d::rw.map (·.2.1)).Nodup)(bg:(rw.map (·.1)).Nodup)(eH:∀x∈rw,xs[x.1]? =jf (.tmp x.2.1))
  (gw:∀u∈res,zZ u/\u.okTup=jh/\ ∀(S':Stb)(G:Gh)(w:World)(s:Nat)(p:List Nat),(∀b x,Sc b=jf x->S' b=jf x)->R S' G w s u p->R (aft Γ.St Sc S') G w s u p)
  (aB:∀x∈rw,zZ x.2.2/\(∀(S':Stb)(G:Gh)(w:World)(s:Nat)(p:List Nat),(∀b x,Sc b=jf x->S' b=jf x)->R S' G w s x.2.2 p->R (aft Γ.St Sc S') G w s x.2.2 p)/\ ∃u,E x.2.1=jf u/\x.2.2.single=u.single/\us[x.1]? =jf u):
  Calls P f (xs.map a.eval).toArray w fun e w'=> ∃v,e=.returned v/\ ∃S G',zBZ Γ.St S Γ.W Γ.w0.heap.size/\sM (uC d rw) G w G' w'/\Rep (Γ.at S) (E.app (cWr d res rw) (uC d rw)) G' (a.tmps.setIfInBounds d v) w':=by
 have hm:=g9.mem;have mN:=La.1 bh;have hmc:Mem ⟨Sc,zAo G rw,w,0⟩ (G.arg a xs rw) w:=by
  have gA:∀b,zAo G rw b->Sc b=jg:=fun b h=>by
   cases hs:Sc b with
   |none=>rfl
   |some x=>exact absurd h (hS1 b x hs).2
  refine⟨fun i z=>?_,fun b o l hl=>?_,fun b l hl=>?_,fun b x hx=>(hS1 b x hx).1,fun b _ _=>rfl,Je _,⟨fun b cs e h=>⟨cs,h,rfl⟩,rfl,rfl⟩⟩
  ·simp only[Gh.arg]
   split
   ·exact hm.one _ _
   ·exact zAX _
   ·rfl
  ·simp only[Gh.arg]at hl
   split at hl
   ·rename_i f' s z hg
    split at hl
    ·rename_i i s' y hi ho
     split at hl
     ·rename_i he;subst he
      have hL:zAo G rw b:=⟨s',y,ho,zQn hi⟩;exact⟨(hm.lb b o _ hg).1,.inr hL,gA b hL⟩
     ·cases hl
    ·cases hl
   ·cases hl
  ·simp only[Gh.arg]at hl
   split at hl
   ·rename_i s z hg
    split at hl
    ·rename_i i hi
     have hL:zAo G rw b:=⟨s,z,hg,zQn hi⟩;exact⟨(hm.ow b _ hg).1,.inr hL,gA b hL⟩
    ·cases hl
   ·cases hl
 have gn:=hc Sc (zAo G rw) w (G.arg a xs rw) (xs.map a.eval).toArray (by simp[gf]) (fun i u hu=>by obtain⟨x,h1,h2,h3⟩:=gj i u hu;exact⟨by simp[h1,h2],h3⟩) hmc
 refine gn.mono ?_
 rintro e w' ⟨S',G',nd,gW,rfl,gP,cH,fX,mf,aA⟩
 have fa:∀b x,Γ.St b=jf x->aft Γ.St Sc S' b=jf x:=fun b x hx=>by simp only[aft,hS0 b x hx,hx]
 have bv:zBZ Γ.St (aft Γ.St Sc S') Γ.W Γ.w0.heap.size:=⟨fa,fun b hb gZ=>by
  simp only[aft]at gZ;split at gZ
  ·rename_i hs
   rcases gW.nw b hs gZ with h|⟨s,z,h,_⟩
   ·exact .inl (by have:=hm.sz;omega)
   ·exact(hm.ow b _ h).2.1
  ·exact absurd hb gZ⟩
 refine⟨_,rfl,aft Γ.St Sc S',G.back G' w.heap.size d rw nd,bv,?_⟩;have mj:∀b,b<w.heap.size-> ¬zAo G rw b->w'.heap[b]? =w.heap[b]?:=gP.fr;have gr:w.heap.size<=w'.heap.size:=gP.sz;have gH:Blk w w':=gP.bk.blk
 generalize hGn:G.back G' w.heap.size d rw nd=Gn
 have ghdd:∀z,Gn.hd d z=zTL G' nd z:=fun z=>by rw[<-hGn];simp[Gh.back]
 have gadd:∀z,Gn.ad d z=zXT G' nd z:=fun z=>by rw[<-hGn];simp[Gh.back]
 have ghd0:∀s z,s≠d->s∉rw.map (·.2.1)->Gn.hd s z=G.hd s z:=fun s z h1 h2=>by rw[<-hGn];simp[Gh.back,h1,zLT h2]
 have gad0:∀s z,s≠d->s∉rw.map (·.2.1)->Gn.ad s z=G.ad s z:=fun s z h1 h2=>by rw[<-hGn];simp[Gh.back,h1,zLT h2]
 have eI:∀i s u,(i,s,u)∈rw->s≠d:=fun i s u h e=>mN.1 (e▸Jc.2 ⟨_,h,rfl⟩)
 have ghdr:∀i s u z,(i,s,u)∈rw->Gn.hd s z=G'.hd i z:=fun i s u z h=>by rw[<-hGn];simp[Gh.back,eI i s u h,zCj rw mN.2 h]
 have gadr:∀i s u z,(i,s,u)∈rw->z≠[]->Gn.ad s z=G'.ad i z:=fun i s u z h h0=>by rw[<-hGn];simp[Gh.back,eI i s u h,zCj rw mN.2 h,h0]
 have gadr0:∀i s u,(i,s,u)∈rw->Gn.ad s []=G.ad s []:=fun i s u h=>by rw[<-hGn];simp[Gh.back,eI i s u h,zCj rw mN.2 h]
 have glb0:∀b o l,¬zAo G rw b->G.lb b o=jf l->Gn.lb b o=jf l:=fun b o l h1 h2=>by have:=(hm.lb b o _ h2).1;rw[<-hGn];simp only[Gh.back];rw[if_neg (by rintro(h|h);exact h1 h;omega)];exact h2
 have gow0:∀b l,¬zAo G rw b->G.ow b=jf l->Gn.ow b=jf l:=fun b l h1 h2=>by have:=(hm.ow b _ h2).1;rw[<-hGn];simp only[Gh.back];rw[if_neg (by rintro(h|h);exact h1 h;omega)];exact h2
 have gK:∀b o l,G'.lb b o=jf l->zAo G rw b\/w.heap.size<=b:=fun b o l h=>(gP.lb b o l h).2.1.symm
 have br:∀b l,G'.ow b=jf l->zAo G rw b\/w.heap.size<=b:=fun b l h=>(gP.ow b l h).2.1.symm
 have glb1:∀b o fl s z s' z',G'.lb b o=jf (fl,s,z)->zDs d rw nd s z=jf (s',z')->Gn.lb b o=jf (fl,s',z'):=fun b o fl s z s' z' h1 h2=>by rw[<-hGn];simp only[Gh.back];rw[if_pos (gK b o _ h1),h1];simp[h2]
 have gow1:∀b s z l,G'.ow b=jf (s,z)->zDs d rw nd s z=jf l->Gn.ow b=jf l:=fun b s z l h1 h2=>by rw[<-hGn];simp only[Gh.back];rw[if_pos (br b _ h1),h1];simp[h2]
 have dD:∀i s u z,(i,s,u)∈rw->zDs d rw nd i z=jf (s,z):=fun i s u z h=>by simp[zDs,zLS rw bg h]
 have gC:∀x∈rw,x.1<us.length:=fun x hx=>by have:=(Jm.1 (eH x hx)).1;omega
 have hbn:∀x∈nd,∀z,zDs d rw nd x.1 z=ndB d nd x.1 z:=fun x hx z=>by have h1:=(fX x hx).2;have h2:rwS rw x.1=jg:=zTJ (fun y hy e=>by have:=gC y hy;omega);simp[zDs,h2]
 have mX:∀(k:Nat) x,nd[k]? =jf x-> ∃tgt,(nd.length=1->tgt=[])/\(nd.length≠1->tgt=[k])/\(∀z,Gn.hd d (z++tgt)=G'.hd x.1 (z++x.2.1))/\(∀z,Gn.ad d (z++tgt)=G'.ad x.1 (z++x.2.1))/\ ∀z,zDs d rw nd x.1 (z++x.2.1)=jf (d,z++tgt):=by
  intro k x hk;have bT:=Lu hk
  match nd,hk,mf,hbn x bT,ghdd,gadd with
  | [y],hk,mf,hb,ghdd,gadd=>
   have hkx:y=x:=by
    cases k with
    |zero=>simpa using hk
    |succ k=>simp at hk
   subst hkx;exact⟨[],fun _=>rfl,fun h=>absurd rfl h,fun z=>by rw[ghdd];simp[zTL],fun z=>by rw[gadd];simp[zXT],fun z=>by rw[hb];simp[ndB]⟩
  | [],hk,_,_,_,_=>simp at hk
  |y1::y2::r,hk,mf,hb,ghdd,gadd=>
   refine⟨[k],fun h=>by simp at h,fun _=>rfl,fun z=>by rw[ghdd];simp only[zTL,Qo,Qp];simp[hk],fun z=>by rw[gadd];simp only[zXT,Qo,Qp];simp[hk],fun z=>?_⟩;rw[hb];have:=zJf (y1::y2::r) mf (k0:=0) hk;rw[Ji]at this;simp only[ndB,this];simp
 have mC:∀(k:Nat) x,nd[k]? =jf x-> ∀tgt,(∀z,Gn.hd d (z++tgt)=G'.hd x.1 (z++x.2.1))->(∀z,Gn.ad d (z++tgt)=G'.ad x.1 (z++x.2.1))->(∀z,zDs d rw nd x.1 (z++x.2.1)=jf (d,z++tgt))->R (aft Γ.St Sc S') Gn w' d x.2.2 tgt:=by intro k x hk tgt h1 h2 h3;have bT:=Lu hk;obtain⟨c1,c2,c3⟩:=gw x.2.2 (by rw[<-cH];exact Jc.2 ⟨x,bT,rfl⟩);refine jP (G:=G') (w:=w') (s:=x.1) (p:=x.2.1) ⟨⟨h1,fun z _=>h2 z,fun b o f' z _ _ hl=>⟨glb1 b o f' _ _ _ _ hl (h3 z),rfl⟩,fun b z _ hl=>gow1 b _ _ _ hl (h3 z),fun b cs e h=>⟨cs,h,rfl⟩⟩,fun b o _ hl=>⟨glb1 b o jh _ _ _ _ hl (by simpa using h3 []),rfl⟩,fun b hl=>gow1 b _ _ _ hl (by simpa using h3 [])⟩ _ (yU.mono (fun _ _=>False.elim) _ c1) (c3 _ _ _ _ _ gW.le (fX x bT).1)
 have gu:sM (uC d rw) G w Gn w':=by
  have gB:∀s,(∀n,(s,n)∉uC d rw)->s≠d/\s∉rw.map (·.2.1):=fun s h=>⟨fun e=>h 0 (by simp[uC,e]),fun hm=>by obtain⟨x,hx,rfl⟩:=Jc.1 hm;exact h _ (zHk hx)⟩
  have cI:∀b s y,G.ow b=jf (s,y)->s∉rw.map (·.2.1)-> ¬zAo G rw b:=by
   rintro b s y h1 h2 ⟨s',z',h3,h4⟩
   rw[h1]at h3;simp at h3;exact h2 (h3.1▸h4)
  refine⟨fun s p h=>?_,fun s p h=>?_,fun b o fl s p gV h1 h2=>?_,fun b s p h1 h2=>?_,gH⟩
  ·have h1:s≠d:=fun e=>absurd (h 0 (by simp[uC,e])) (by simp)
   by_cases h2:s∈rw.map (·.2.1)
   ·
    obtain⟨x,hx,rfl⟩:=Jc.1 h2;have hc:=h _ (zHk hx);have c2:x.2.2.single=jh:=by
     cases po:x.2.2.single with
     |true=>rfl
     |false=>simp[cLv,po]at hc
    have h3:p=[]:=Kf (by simp only[cLv,c2,if_true]at hc;omega);subst h3;obtain⟨_,_,u,c4,c5,c6⟩:=aB x hx;rw[c2]at c5;have c5:=c5.symm;obtain⟨_,u0,e1,e2⟩:=aA x.1 x.2.2 (Jc.2 ⟨x,hx,rfl⟩);rw[c6]at e1;simp at e1;subst e1;rw[yV c2,yV c5]at e2;rw[ghdr x.1 x.2.1 x.2.2 [] hx,e2];simp[Gh.arg,eH x hx]
   ·exact ghd0 s p h1 h2
  ·have h1:s≠d:=fun e=>absurd (h 0 (by simp[uC,e])) (by simp)
   by_cases h2:s∈rw.map (·.2.1)
   ·obtain⟨x,hx,rfl⟩:=Jc.1 h2
    have hc:=h _ (zHk hx);have h3:p=[]:=Kf (by have:cLv x.2.2<=1:=(by unfold cLv;split<;>omega);omega);subst h3;exact gadr0 x.1 x.2.1 x.2.2 hx
   ·exact gad0 s p h1 h2
  ·obtain⟨h3,h4⟩:=gB s h2
   obtain⟨y,hy⟩:=gV;have h5:=cI b s y hy h4;exact⟨glb0 b o _ h5 h1,by simp[yN,World.cell?,mj b (hm.lb b o _ h1).1 h5]⟩
  ·obtain⟨h3,h4⟩:=gB s h2
   exact gow0 b _ (cI b s p h1 h4) h1
 have gp:Mem (Γ.at (aft Γ.St Sc S')) Gn w':=by
  have gz:∀b,b<w'.heap.size/\(w.heap.size<=b\/zAo G rw b)/\S' b=jg->zBY (Γ.at (aft Γ.St Sc S')) w' b:=fun b ⟨hb,h,gF⟩=>by
   have bZ:Sc b=jg:=by
    cases hs:Sc b with
    |none=>rfl
    |some x=>rw[gW.le b x hs]at gF;cases gF
   refine⟨hb,?_,by simp only[aft,bZ];exact gF⟩;rcases h with h|⟨s,z,h1,_⟩
   ·exact .inl (by have:=hm.sz;show Γ.w0.heap.size<=b;omega)
   ·exact(hm.ow b _ h1).2.1
  have gD:∀b,¬(zAo G rw b\/w.heap.size<=b)->zBY Γ w b->zBY (Γ.at (aft Γ.St Sc S')) w' b:=fun b h ⟨h1,h2,h3⟩=>by
   refine⟨by omega,h2,?_⟩;simp only[aft];split
   ·rename_i hs
    cases gF:S' b with
    |none=>rfl
    |some x=>
     rcases gW.nw b hs (by rw[gF];simp)with h4|h4
     ·exact absurd (.inr h4) h
     ·exact absurd (.inl h4) h
   ·exact h3
  refine⟨fun s z=>?_,fun b o l hl=>?_,fun b l hl=>?_,fun b x hx=>?_,fun b(h1:b<Γ.w0.heap.size) h2=>?_,H8 hm.sz gr,hm.bk.trans gH gP.bk.os gP.bk.out⟩
  ·by_cases h1:s=d
   ·subst h1
    rw[ghdd];unfold zTL;split
    ·exact gP.one _ _
    ·split
     ·split
      ·exact gP.one _ _
      ·rfl
     ·rfl
   ·by_cases h2:s∈rw.map (·.2.1)
    ·obtain⟨x,hx,rfl⟩:=Jc.1 h2
     rw[ghdr x.1 x.2.1 x.2.2 z hx];exact gP.one _ _
    ·rw[ghd0 s z h1 h2];exact hm.one _ _
  ·rw[<-hGn]at hl
   simp only[Gh.back]at hl;split at hl
   ·rename_i pR
    split at hl
    ·rename_i hg
     exact gz b (gP.lb b o _ hg)
    ·cases hl
   ·rename_i pR
    exact gD b pR (hm.lb b o l hl)
  ·rw[<-hGn]at hl
   simp only[Gh.back]at hl;split at hl
   ·rename_i pR
    split at hl
    ·rename_i hg
     exact gz b (gP.ow b _ hg)
    ·cases hl
   ·rename_i pR
    exact gD b pR (hm.ow b l hl)
  ·simp only[aft]at hx
   split at hx
   ·exact gP.st b x hx
   have h1:=hm.st b x hx;have h2:=(H7.1 h1).1;have h3:¬zAo G rw b:=by
    rintro⟨s,z,h4,_⟩
    rw[(hm.ow b _ h4).2.2]at hx;cases hx
   rw[mj b h2 h3];exact h1
  ·have h3:¬zAo G rw b:=by
    rintro⟨s,z,h4,_⟩
    rcases(hm.ow b _ h4).2.1 with h5|h5
    ·omega
    ·exact h2 h5
   rw[mj b (by have:=hm.sz;omega) h3];exact hm.fr b h1 h2
 have iv:nd.length=res.length:=by rw[<-cH];simp
 refine⟨gu,g9.up fa (by simp) gu gp ?_ ?_⟩
 ·intro s hs
  obtain⟨h1,h2⟩:=zTN hs;refine⟨fun n hn=>?_,by rw[Jj];simp[Ne.symm h1]⟩;simp only[uC,J9,Jah.injEq,Jc]at hn;rcases hn with⟨e,_⟩|⟨x,hx,e,_⟩
  ·exact h1 e
  ·exact h2 (Jc.2 ⟨x,hx,e⟩)
 ·intro s t hs
  rcases zTM hs with⟨rfl,ht⟩|⟨gc,i,u,cN,ht⟩
  ·simp at ht
   subst ht;rw[Jj];simp only[g9.size,hd,if_true];have pD:res=nd.map (·.2.2):=cH.symm
   by_cases hl:nd.length=1
   ·obtain⟨x,hx⟩:∃x,nd=[x]:=List.length_eq_one_iff.1 hl
    obtain⟨tgt,t1,_,t3,t4,t5⟩:=mX 0 x (by simp[hx]);obtain rfl:=t1 hl;have hr:=mC 0 x (by simp[hx]) [] t3 t4 t5;obtain⟨c1,c2,_⟩:=gw x.2.2 (by rw[pD,hx];simp);have fh:zGu res=x.2.2:=by rw[pD,hx];rfl
    have hJ:∀ys,x.2.2≠.tup ys:=fun ys e=>by rw[e]at c2;simp[T.okTup]at c2
    rw[fh];refine⟨?_,hr,Top.of_clean _ c1⟩;rw[jZ Gn s _ [] hJ,zBz x.2.2 x.2.1 [] t3,hx];rfl
   ·have fh:zGu res=.tup res:=by
     rw[iv]at hl
     match res,hl with
     | [],_=>rfl
     | [u],hl=>simp at hl
     |_::_::_,_=>rfl
    rw[fh];have gE:∀k x,nd[k]? =jf x-> ∀z,Gn.hd s (z++[0+k])=G'.hd x.1 (z++x.2.1):=fun k x hk z=>by obtain⟨tgt,_,t2,t3,_,_⟩:=mX k x hk;rw[t2 hl]at t3;rw[Ji];exact t3 z
    refine⟨?_,?_,?_⟩
    ·have hv:=zQo (Gn:=Gn) (G':=G') (d:=s) nd 0 gE
     rw[cH]at hv;simp only[mkV,hv];unfold zLO;split
     ·simp at hl
     ·rfl
    ·simp only[R]
     rw[pD];refine zQd _ [] 0 (fun k u hu=>?_);rw[Jw]at hu;cases hk:nd[k]? with
     |none=>simp[hk]at hu
     |some x=>
      simp[hk]at hu;subst hu;obtain⟨tgt,_,t2,t3,t4,t5⟩:=mX k x hk;rw[t2 hl]at t3 t4 t5;rw[Ji];exact mC k x hk [k] t3 t4 t5
    ·simp only[Top]
     refine uK.of_clean _ ?_;have:∀us:List T,(∀u∈us,zZ u)->yZ us:=by
      intro us
      induction us with
      |nil=>intro _;trivial
      |cons u us ih=>intro h;exact⟨h u (by simp),ih fun v hv=>h v (by simp[hv])⟩
     exact this res fun u hu=>(gw u hu).1
  ·simp at ht
   subst ht;obtain⟨c1,c3,u0,c4,_,c6⟩:=aB _ cN;obtain⟨r1,u1,e1,e2⟩:=aA i t (Jc.2 ⟨_,cN,rfl⟩);simp only at c4 c6;rw[c6]at e1;simp at e1;subst e1;refine⟨?_,?_,Top.of_clean _ c1⟩
   ·rw[Jj]
    simp only[Ne.symm gc,if_false];have dl:=eH _ cN;simp only at dl;have m1:mkV Gn s t []=mkV G' i t []:=zFk t [] [] (fun z=>by rw[Jh];exact ghdr i s t z cN);have m2:mkV (G.arg a xs rw) i u0 []=mkV G s u0 []:=zFk u0 [] [] (fun z=>by simp[Gh.arg,dl]);rw[(g9.ent s u0 c4).1,m1,e2,m2]
   ·refine jP (G:=G') (w:=w') (s:=i) (p:=[]) ⟨⟨fun z=>by rw[Jh];exact ghdr i s t z cN,fun z hz=>by rw[Jh];exact gadr i s t z cN hz,fun b o f' z _ _ hl=>?_,fun b z _ hl=>?_,fun b cs e h=>⟨cs,h,rfl⟩⟩,fun b o _ hl=>⟨glb1 b o jh _ _ _ _ hl (dD i s t [] cN),rfl⟩,fun b hl=>gow1 b _ _ _ hl (dD i s t [] cN)⟩ t (yU.mono (fun _ _=>False.elim) _ c1) (c3 _ _ _ _ _ gW.le r1)
    ·rw[Jh]at hl ⊢;exact⟨glb1 b o f' _ _ _ _ hl (dD i s t z cN),rfl⟩
    ·rw[Jh]at hl ⊢;exact gow1 b _ _ _ hl (dD i s t z cN)
end
def zJg(E:Env)(rs:List Nat)(x:Operand)(t:T):Bool:=
 match x with
 |.tmp s=>sU E rs s t
 |_=>jh
def zBf(E:Env)(rw:Rw)(i:Nat)(x:Operand)(u:T):Prop:=
 (∃s u',x=.tmp s/\(i,s,u')∈rw/\E s=jf u/\zZ u/\u.okTup=jh/\vA u=jh)\/(∃t,opT E x=jf t/\clo E t=u/\zJg E (rw.map (·.2.1)) x t=jh)
def xK(E:Env)(rw:Rw):Nat->List Operand->List T->Prop
 |_,[],[]=>True
 |i,x::xs,u::us=>zBf E rw i x u/\xK E rw (i+1) xs us
 |_,_,_=>False
theorem xK.length{E:Env}{rw:Rw}:(xs:List Operand)->(us:List T)-> ∀i,xK E rw i xs us->xs.length=us.length
 | [],[],_,_=>rfl
 |_::xs,_::us,i,h=>by simp[xK.length xs us (i+1) h.2]
 | [],_::_,_,h=>by simp[xK]at h
 |_::_,[],_,h=>by simp[xK]at h
theorem xK.get{E:Env}{rw:Rw}:(xs:List Operand)->(us:List T)-> ∀i,xK E rw i xs us-> ∀(j:Nat) u,us[j]? =jf u-> ∃x,xs[j]? =jf x/\zBf E rw (i+j) x u
 | [],[],_,_,_,_,h=>by simp at h
 |x::xs,v::us,i,h,j,u,hj=>by
  cases j with
  |zero=>simp at hj;subst hj;exact⟨x,by simp,h.1⟩
  |succ j=>
   obtain⟨y,h1,h2⟩:=xK.get xs us (i+1) h.2 j u (by simpa using hj);exact⟨y,by simpa using h1,by rwa [show i+(j+1)=i+1+j from by omega]⟩
 | [],_::_,_,h,_,_,_=>by simp[xK]at h
 |_::_,[],_,h,_,_,_=>by grind
structure zKx (E:Env) (d:Nat) (xs:List Operand) (us:List T) (rw:Rw):Prop where
 nodup:(d::rw.map (·.2.1)).Nodup
 nodup2:(rw.map (·.1)).Nodup
 at_:∀x∈rw,xs[x.1]? =jf (.tmp x.2.1)
 tree:∀x∈rw,zZ x.2.2/\vA x.2.2=jh/\ ∃u,E x.2.1=jf u/\x.2.2.single=u.single/\us[x.1]? =jf u
theorem zKx.nil{xs:List Operand}:zKx E d xs us []:=⟨by simp,by simp,by simp,by simp⟩
theorem zKx.one{i s:Nat}{xs:List Operand}(h1:d≠s)(h2:xs[i]? =jf (.tmp s))(h3:zZ u')(h4:u'.single=jh)(h5:vA u'=jh)(h6:E s=jf u)(h7:u.single=jh)(h8:us[i]? =jf u):
  zKx E d xs us [(i,s,u')]:=⟨by grind,by simp,by grind,by grind⟩
section
variable {P:Program}{Γ:Ctx}{E:Env}{o:Oper}{d:Nat}
theorem zQp{w:World}(g9:Rep Γ E G a.tmps w){xs:List Operand}(hr:zKx E d xs us rw){Sc:Stb}(ee:∀b x,Γ.St b=jf x->Sc b=jf x)
  (ef:∀r,r∉rw.map (·.2.1)-> ∀b,(∃y,G.ow b=jf (r,y))->Sc b=w.heap[b]?){i:Nat}(hx:xs[i]? =jf x)(hu:us[i]? =jf u)(h:zBf E rw i x u):
  a.eval x=mkV (G.arg a xs rw) i u []/\R Sc (G.arg a xs rw) w i u []:=by
 rcases h with⟨s,u',rfl,h1,h2,h3,h4,h5⟩|⟨t,h1,rfl,h3⟩
 ·obtain⟨e1,e2,_⟩:=g9.ent s u h2
  have gE:∀z,(G.arg a xs rw).hd i z=G.hd s z:=by grind[Gh.arg]
  have eO:∀z,(G.arg a xs rw).ad i z=G.ad s z:=by grind[Gh.arg]
  have hi:=zCj rw (La.1 hr.nodup).2 h1;refine⟨by grind[xW,zFk],?_⟩;refine zOj u [] h5 (jP (St:=Γ.St) (G:=G) (w:=w) (s:=s) (p:=[]) ⟨⟨by grind,by grind,fun b o' f' z _ gV hl=>?_,fun b z _ hl=>?_,fun b cs e h=>⟨cs,h,rfl⟩⟩,fun b o' gV hl=>?_,fun b hl=>?_⟩ u (by grind[yU.mono]) e2)
  ·obtain⟨y,hy⟩:=gV
   exact⟨by grind[Gh.arg],rfl⟩
  ·grind[Gh.arg]
  ·obtain⟨y,hy⟩:=gV
   exact⟨by grind[Gh.arg],rfl⟩
  grind[Gh.arg]
 ·cases x with
  |tmp s=>
   have gE:∀z,(G.arg a xs rw).hd i z=G.hd s z:=by grind[Gh.arg]
   obtain⟨e1,e2,_⟩:=g9.ent s t h1
   grind[zJg,xW,zKw,zZG]
  |const v=>
   simp only[opT]at h1;split at h1
   ·rename_i gk
    simp at h1;subst h1;have gE:(G.arg a xs rw).hd i []=v:=by grind[Gh.arg,Act.eval,jR]
    exact⟨by grind[clo,mkV,Act.eval],by simp[clo,R,gE]⟩
   ·cases h1
  |func f=>
   simp only[opT]at h1;simp at h1;subst h1;have gE:(G.arg a xs rw).hd i []=.func (.func f) #[] #[]:=by grind[Gh.arg,Act.eval,jE,Value.oneCell']
   exact⟨by grind[clo,mkV,Act.eval],by simp[clo,R,gE]⟩
  |global g=>grind[opT]
theorem zCQ{E:Env}:(t:T)->t.flat=jh->(∀rs s,sU E rs s t=jh)/\clo E t=t
 |.lit _,_|.ro _,_=>by simp[sU,clo]
 |.agg ts,h=>by
  simp only[T.flat]at h;have:=go ts h
  grind[sU,clo]
 |.any,h|.same _ _,h|.addr _ _,h|.sub _ _ _ _ _,h|.sl _ _,h|.ptr _,h|.tup _,h=>by grind[T.flat]
where go:(ts:List T)->kV ts=jh->(∀rs s,zAn E rs s ts=jh)/\zBe E ts=ts
 | [],_=>by simp[zAn,zBe]
 |x::xs,h=>by simp only[kV,J4]at h;simp only[zAn,zBe,J4];exact⟨fun rs s=>⟨(zCQ x h.1).1 rs s,(go xs h.2).1 rs s⟩,by rw[(zCQ x h.1).2,(go xs h.2).2]⟩
theorem zEu{w:World}{K:Act->World->Prop}{Q:Exit->Act->World->Prop}{f:FuncId}{xf:Operand}{xs:List Operand}(ho:o.op=.call { callee:=.value xf,args:=xs.toArray,argTypes:=ats })(gg:o.dst=jf d)
  (gn:∀args w,(callFunc f args).run P w=.ok (.enter f args) w)(hf:a.eval xf=.func (.func f) #[] #[])
  (h:Calls P f (xs.map a.eval).toArray w fun e w'=> ∃v,e=.returned v/\K (a.put (jf d) v) w'):o.wp P a w K Q:=by
 have gx:(execOp a.eval o).run P w=.ok (.enter f (xs.map a.eval).toArray) w:=by simp[execOp,ho,resolve,hf,Deferred.ofValue,invoke,gn]
 unfold Oper.wp;rw[gx,Oper.upon_enter];refine h.mono ?_
 grind
theorem zLU{w:World}(g9:Rep Γ E G a.tmps w)(hd:d<Γ.N)(f:FuncId)(xs:List Operand)(us res:List T)(rw:Rw)
  (hc:FnC P f us res (rw.map fun x=>(x.1,x.2.2)))(gj:xK E rw 0 xs us)(hr:zKx E d xs us rw)(gw:yZ res/\yM res=jh/\vV res=jh):
  Calls P f (xs.map a.eval).toArray w fun e w'=> ∃v,e=.returned v/\ ∃S G',zBZ Γ.St S Γ.W Γ.w0.heap.size/\sM (uC d rw) G w G' w'/\Rep (Γ.at S) (E.app (cWr d res rw) (uC d rw)) G' (a.tmps.setIfInBounds d v) w':=by
 classical
 have hm:=g9.mem
 let Sc:Stb:=fun b=>if zAo G rw b then jg else w.heap[b]?
 have ee:∀b x,Γ.St b=jf x->Sc b=jf x:=fun b x hx=>by
  have h3:¬zAo G rw b:=by
   rintro⟨s,z,h4,_⟩
   rw[(hm.ow b _ h4).2.2]at hx;cases hx
  simp only[Sc,h3,if_false];exact hm.st b x hx
 have ef:∀r,r∉rw.map (·.2.1)-> ∀b,(∃y,G.ow b=jf (r,y))->Sc b=w.heap[b]?:=fun r ta b ⟨y,hy⟩=>by
  have h3:¬zAo G rw b:=by
   rintro⟨s,z,h4,h5⟩
   grind
  grind
 have fM:∀(us:List T),yZ us/\yM us=jh/\vV us=jh-> ∀u∈us,zZ u/\u.okTup=jh/\vA u=jh:=by
  intro us
  induction us with
  |nil=>simp
  |cons v us ih=>
   intro⟨h1,h2,h3⟩ u hu;simp only[yM,vV,J4]at h2 h3;rcases J9.1 hu with rfl|hu
   ·exact⟨h1.1,h2.1,h3.1⟩
   ·exact ih ⟨h1.2,h2.2,h3.2⟩ u hu
 exact zEt g9 hd (Sc:=Sc) (rw:=rw) (by grind) ee hc (xK.length xs us 0 gj) (fun i u hu=>by
   obtain⟨x,h1,h2⟩:=xK.get xs us 0 gj i u hu;rw[Ji]at h2
   grind[zQp]) hr.nodup hr.nodup2 hr.at_
  (by grind[zOj])
  (fun x hx=>by
   obtain⟨h1,h3,h4⟩:=hr.tree x hx
   grind[zOj])
theorem zKy(f:FuncId)(xf:Operand)(xs:List Operand)(ats:Array TypeId)(us res:List T)(rw:Rw)(ho:o.op=.call { callee:=.value xf,args:=xs.toArray,argTypes:=ats })(gg:o.dst=jf d)(hd:d<Γ.N)
  (gn:∀args w,(callFunc f args).run P w=.ok (.enter f args) w)(hf:opT E xf=jf (.lit (.func (.func f) #[] #[])))
  (hc:FnC P f us res (rw.map fun x=>(x.1,x.2.2)))(gj:xK E rw 0 xs us)(hr:zKx E d xs us rw)(gw:yZ res/\yM res=jh/\vV res=jh):
  xZ P Γ o E (E.app (cWr d res rw) (uC d rw)):=by
 intro a w K Q ⟨gJ,G,g9⟩ hK;refine zEu ho gg gn (xY g9 hf).1 ?_;refine(zLU g9 hd f xs us res rw hc gj hr gw).mono ?_
 rintro e w' ⟨v,rfl,S,G',hS,_,gm⟩
 exact⟨v,rfl,hK _ _ ⟨S,hS,gJ,G',gm⟩⟩
theorem zLV(f:FuncId)(xf:Operand)(xs:List Operand)(ats:Array TypeId)(us res:List T)(i ds r:Nat)(q:List Nat)(tr u u':T)(ho:o.op=.call { callee:=.value xf,args:=xs.toArray,argTypes:=ats })(gg:o.dst=jf d)(hd:d<Γ.N)
  (gn:∀args w,(callFunc f args).run P w=.ok (.enter f args) w)(hf:opT E xf=jf (.lit (.func (.func f) #[] #[])))
  (hs:E ds=jf (.same r q))(hr:E r=jf tr)(hq:tr.get q.reverse=jf u)(hu:u.single=jh)(fb:zZ u)(gX:ds≠r)(hdr2:d≠r)(gz:tr.okB [(ds,1),(r,q.length+1)]=jh)(po:wP tr=jh)
  (E1 E2:Env)(bK:E1=E.app [(ds,jf u),(r,jf (if q=[]then .same ds []else tr.set q.reverse .any))] [(ds,1),(r,q.length+1)])(gO:E2=E1.app (cWr d res [(i,ds,u')]) (uC d [(i,ds,u')]))
  (hc:FnC P f us res [(i,u')])(gj:xK E1 [(i,ds,u')] 0 xs us)(cN:zKx E1 d xs us [(i,ds,u')])(gw:yZ res/\yM res=jh/\vV res=jh)
  (tr2 v0:T)(pE:E2 r=jf tr2)(i6:tr2.get q.reverse=jf v0)(ai:v0.single=jh)(az:E2 ds=jf u')(eT:zZ u')(fq:u'.single=jh)(me:tr2.okB [(r,q.length+1),(ds,1)]=jh)(hc3:wP tr2=jh)(hok3:u'.okB [(r,q.length+1),(ds,1)]=jh)(hc4:wP u'=jh):
  xZ P Γ o E (E2.app [(r,jf (tr2.set q.reverse u')),(ds,jf (.same r q))] [(r,q.length+1),(ds,1)]):=by
 have bi:cLv u'=1:=by grind[cLv]
 intro a w K Q ⟨gJ,G,g9⟩ hK;refine zEu ho gg gn (xY g9 hf).1 ?_;have gQ:G.hd ds []=G.hd r q:=by have:=(g9.ent ds _ hs).2.1;simpa only[R]using this
 obtain⟨cE,iF⟩:=zHd g9 ds [] r q (.same r q) tr u (.same r q) hs rfl rfl gQ hr hq hu fb gX (by grind[T.okB,kU]) (by omega) rfl po;have je:E.app [(ds,jf ((T.same r q).set [].reverse u)),(r,jf (if q=[]then .same ds []else tr.set q.reverse .any))] [(ds,([]:List Nat).length+1),(r,q.length+1)]=E1:=by rw[bK];rfl
 rw[je]at cE;refine(zLU cE hd f xs us res [(i,ds,u')] hc gj cN gw).mono ?_
 rintro e w' ⟨v,rfl,S,G',hS,hk,gm⟩
 rw[<-gO]at gm;have hdds:d≠ds:=by have:=cN.nodup;grind
 have h1:G'.hd r q=(G.tr ds [] r q).hd r q:=hk.hd r q (fun n hn=>by grind[uC]);have h2:G'.hd ds []=(G.tr ds [] r q).hd ds []:=hk.hd ds [] (fun n hn=>by grind[uC]);have fU:G'.hd r q=G'.hd ds []:=by grind
 obtain⟨cD,_⟩:=zHd gm r q ds [] tr2 u' u' v0 pE i6 ai fU az rfl fq eT (Ne.symm gX) (by omega) (by omega) hc3 hc4;refine⟨v,rfl,hK _ _ ⟨S,hS,gJ,G'.tr r q ds [],?_⟩⟩;have hw:(if([]:List Nat)=[]then T.same r q else u'.set ([]:List Nat).reverse .any)=T.same r q:=if_pos rfl;rw[hw]at cD;exact cD
theorem zTO(f:FuncId)(xf:Operand)(xs:List Operand)(ats:Array TypeId)(us res:List T)(ho:o.op=.call { callee:=.value xf,args:=xs.toArray,argTypes:=ats })(gg:o.dst=jf d)(hd:d<Γ.N)
  (gn:∀args w,(callFunc f args).run P w=.ok (.enter f args) w)(hf:opT E xf=jf (.lit (.func (.func f) #[] #[])))
  (hc:FnC P f us res [])(gf:xs.length=us.length)(gj:∀(i:Nat) u,us[i]? =jf u-> ∃x,xs[i]? =jf x/\opT E x=jf u/\u.flat=jh)(gw:yZ res/\yM res=jh):
  xZ P Γ o E (E.app (cWr d res []) (uC d [])):=by
 intro a w K Q ⟨gJ,G,g9⟩ hK;have hm:=g9.mem;refine zEu ho gg gn (xY g9 hf).1 ?_;have cI:∀b,¬zAo G [] b:=by rintro b ⟨s,z,_,h⟩;simp at h
 have fM:∀(us:List T),yZ us/\yM us=jh-> ∀u∈us,zZ u/\u.okTup=jh:=by
  intro us
  induction us with
  |nil=>simp
  |cons v us ih=>
   intro⟨h1,h2⟩ u hu;simp only[yM,J4]at h2;rcases J9.1 hu with rfl|hu
   ·exact⟨h1.1,h2.1⟩
   ·exact ih ⟨h1.2,h2.2⟩ u hu
 have:=zEt g9 hd (Sc:=Γ.St) (rw:=[]) (fun b x hx=>⟨hm.st b x hx,cI b⟩) (fun _ _ h=>h) hc gf (fun i u hu=>by
   obtain⟨x,h1,h2,h3⟩:=gj i u hu;refine⟨x,h1,?_⟩;have bw:=zCQ (E:=E) u h3;cases x with
   |tmp s=>
    have gE:∀z,(G.arg a xs []).hd i z=G.hd s z:=by grind[Gh.arg]
    obtain⟨e1,e2,_⟩:=g9.ent s u h2;refine⟨?_,by grind[zKr]⟩;have:=zKw (E:=E) gE u (bw.1 [] s)
    grind[xW]
   |const v=>
    simp only[opT]at h2;split at h2
    ·rename_i gk
     simp at h2;subst h2;have gE:(G.arg a xs []).hd i []=v:=by grind[Gh.arg,Act.eval,jR]
     exact⟨by grind[mkV,Act.eval],by simp[R,gE]⟩
    ·cases h2
   |func f=>
    simp only[opT]at h2;simp at h2;subst h2;have gE:(G.arg a xs []).hd i []=.func (.func f) #[] #[]:=by grind[Gh.arg,Act.eval,jE,Value.oneCell']
    exact⟨by grind[mkV,Act.eval],by simp[R,gE]⟩
   |global g=>grind[opT]) (by simp) (by simp) (by simp)
  (fun u hu=>⟨by grind,by grind,fun S' G w s p hS h=>by
   have:aft Γ.St Γ.St S'=S':=funext (by grind[aft])
   grind⟩) (by simp)
 refine this.mono ?_
 rintro e w' ⟨v,rfl,S,G',hS,_,gm⟩
 exact⟨v,rfl,hK _ _ ⟨S,hS,gJ,G',gm⟩⟩
end
def vW:List (Nat×T)->Env
 | [],_=>jg
 |(k,t)::l,s=>if k=s then jf t else vW l s
def Env.Has(E:Env):List (Nat×T)->Prop
 | []=>True
 |(s,t)::l=>E s=jf t/\E.Has l
theorem Env.Has.le:{l:List (Nat×T)}->E.Has l-> ∀s t,vW l s=jf t->E s=jf t
 | [],_,s,t,h=>by grind[vW]
 |(k,u)::l,hh,s,t,h=>by
  simp only[vW]at h;split at h
  ·rename_i e
   subst e;rw[hh.1];exact h
  ·exact hh.2.le s t h
theorem Sim.weaken{w:World}(h:Sim Γ E a w)(fd:∀s t,E' s=jf t->E s=jf t):Sim Γ E' a w:=by obtain⟨h1,G,h2⟩:=h;exact⟨h1,G,⟨h2.size,fun s t hs=>h2.ent s t (fd s t hs),h2.mem⟩⟩
theorem qJ.weaken{w:World}(h:qJ Γ E a w)(fd:∀s t,E' s=jf t->E s=jf t):qJ Γ E' a w:=by obtain⟨S,h1,h2⟩:=h;exact⟨S,h1,h2.weaken fd⟩
abbrev sH:=List (Nat×Value)
def sH.Hold(pn:sH)(a:Act):Prop:=∀x∈pn,a.tmps[x.1]? =jf x.2
def sH.ok(pn:sH)(d:Option Nat):Bool:=match d with
 |none=>jh
 |some d=>pn.all fun x=>x.1 != d
theorem Oper.wp_frame{o:Oper}{w:World}{K:Act->World->Prop}{Q:Exit->Act->World->Prop}(h:o.wp P a w K Q):
  o.wp P a w (fun a' w'=>K a' w'/\ ∀s,o.dst≠jf s->a'.tmps[s]? =a.tmps[s]?) Q:=by
 have key:∀(v:Value)(ds:List Deferred),∀s,o.dst≠jf s->(({ a with defers:=ds }:Act).put o.dst v).tmps[s]? =a.tmps[s]?:=by
  intro v ds s hs;cases hd:o.dst with
  |none=>rfl
  |some d=>
   grind[Act.put]
 have key0:∀(v:Value),∀s,o.dst≠jf s->(a.put o.dst v).tmps[s]? =a.tmps[s]?:=fun v=>key v a.defers
 unfold Oper.wp at*
 generalize (execOp a.eval o).run P w=r at*
 cases r with
 |ok n w'=>
  cases n<;>simp only[Oper.upon]at h ⊢
  all_goals grind
 |halt x w'=>cases x<;>simp only[Oper.upon]at h ⊢ <;>exact h
theorem sH.Hold.frame{pn:sH}{a':Act}{d:Option Nat}(h:pn.Hold a)(gz:pn.ok d=jh)(hf:∀s,d≠jf s->a'.tmps[s]? =a.tmps[s]?):pn.Hold a':=by
 intro x hx;rw[hf x.1 ?_]
 ·exact h x hx
 ·rintro rfl
  have:=Kj.1 gz x hx
  grind
section
variable (P:Program) (Γ:Ctx) (pn:sH)
def CW(c:Code)(E:Env)(Q:Exit->Env->Prop):Prop:=
 ∀(a:Act)(w:World)(Q':Exit->Act->World->Prop),qJ Γ E a w->pn.Hold a->(∀e E' a' w',Q e E'->qJ Γ E' a' w'->pn.Hold a'->Q' e a' w')->c.wp P Q' a w
def wF(ops:Array Oper)(o:Oper)(E E':Env):Prop:=
 ∀(a:Act)(w:World)(K:Act->World->Prop)(Q:Exit->Act->World->Prop),qJ Γ E a w->(∀a' w',qJ Γ E' a' w'->(∀s,o.dst≠jf s->a'.tmps[s]? =a.tmps[s]?)->K a' w')->
  if Region.wanted o (yielded ops a.tmps)then o.wp P a w K Q\/(o.asks P a w/\LetsOut Q)else K (a.put o.dst undef) w
def wpL(ops:Array Oper)(Q:Exit->Act->World->Prop):List Oper->Act->World->Prop
 | [],a,w=>Q .normal a w
 |o::os,a,w=>if Region.wanted o (yielded ops a.tmps)then o.wp P a w (wpL ops Q os) Q\/(o.asks P a w/\LetsOut Q)else wpL ops Q os (a.put o.dst undef) w
def RW(ops:Array Oper)(os:List Oper)(E:Env)(Q:Exit->Env->Prop):Prop:=
 ∀(a:Act)(w:World)(Q':Exit->Act->World->Prop),qJ Γ E a w->pn.Hold a->(∀e E' a' w',Q e E'->qJ Γ E' a' w'->pn.Hold a'->Q' e a' w')->wpL P ops Q' os a w
end
section
variable {P:Program}{Γ:Ctx}{pn:sH}{E E':Env}{Q Q1:Exit->Env->Prop}{c c1 c2:Code}{ops:Array Oper}{o:Oper}{os:List Oper}{d:Nat}
theorem zKz{Q':Exit->Act->World->Prop}:∀(os:List Oper)(n:Nat)(a:Act)(w:World),ops.toList.drop n=os->wpL P ops Q' os a w->wpOps P ops Q' (K7 n os.length) a w
 | [],n,a,w,_,h=>by simpa[wpOps,wpL]using h
 |o::os,n,a,w,hd,h=>by
  have ho:ops[n]? =jf o:=by
   have:=congrArg (·[0]?) hd
   grind
  have mO:ops.toList.drop (n+1)=os:=by
   have:=congrArg List.tail hd
   grind[List.tail_drop]
  simp only[J7,Ho,wpOps,ho];simp only[wpL]at h;split
  ·rename_i hw
   simp only[hw,if_true]at h;exact h.imp (Oper.wp_mono fun a w=>zKz os (n+1) a w mO) id
  ·rename_i hw
   simp only[hw]at h;exact zKz os (n+1) _ w mO h
theorem CW.region(h:RW P Γ pn ops ops.toList E Q):CW P Γ pn (.region id ops ji) E Q:=by
 intro a w Q' hs hp hQ;refine wp_region ?_;have:=zKz (P:=P) ops.toList 0 a w (by simp) (h a w Q' hs hp hQ)
 grind[Kw]
theorem RW.nil(h:Q .normal E):RW P Γ pn ops [] E Q:=fun a w Q' hs hp hQ=>by
 simp only[wpL]
 grind
theorem RW.cons(h1:wF P Γ ops o E E')(h3:RW P Γ pn ops os E' Q)(h2:pn.ok o.dst=jh:=by rfl):RW P Γ pn ops (o::os) E Q:=by
 intro a w Q' hs hp hQ;simp only[wpL];have:=h1 a w (wpL P ops Q' os) Q' hs fun a' w' gF hf=>h3 a' w' Q' gF (hp.frame h2 hf) hQ
 exact this
theorem wF.op(h:∀S,xZ P (Γ.at S) o E E')(hg:o.guard=jg:=by rfl):wF P Γ ops o E E':=by
 intro a w K Q hs hK;have hw:Region.wanted o (yielded ops a.tmps)=jh:=by simp[Region.wanted,hg]
 rw[if_pos hw];refine .inl ?_;obtain⟨S,hS,hs⟩:=hs;have:=Oper.wp_frame (h S a w (fun a' w'=>qJ Γ E' a' w') Q hs fun a' w' h=>h.up hS)
 grind[Oper.wp_mono]
theorem zHl{w:World}(hs:qJ Γ E a w){g s:Nat}{b:Bool}(fm:(ops[g]?).bind (·.dst)=jf s)(h:E s=jf (.lit (.bool b))):yielded ops a.tmps g=jf b:=by
 obtain⟨_,_,_,G,hr⟩:=hs;obtain⟨h1,h2,_⟩:=hr.ent s _ h;simp only[R]at h2
 grind[yielded,mkV]
theorem wF.guard(g:Nat)(b:Bool)(s:Nat)(h:∀S,xZ P (Γ.at S) o E E')(hg:o.guard=jf (g,b):=by rfl)(fm:(ops[g]?).bind (·.dst)=jf s:=by rfl)(hb:E s=jf (.lit (.bool b)):=by rfl):wF P Γ ops o E E':=by
 intro a w K Q hs hK;have hw:Region.wanted o (yielded ops a.tmps)=jh:=by grind[Region.wanted,zHl]
 rw[if_pos hw];refine .inl ?_;obtain⟨S,hS,hs⟩:=hs;have:=Oper.wp_frame (h S a w (fun a' w'=>qJ Γ E' a' w') Q hs fun a' w' h=>h.up hS)
 grind[Oper.wp_mono]
def zR(Γ:Ctx)(E E':Env):Prop:=∀(a:Act)(w:World),qJ Γ E a w->qJ Γ E' a w
theorem zR.refl:zR Γ E E:=fun _ _ h=>h
theorem zR.trans{E2 E3:Env}(h:zR Γ E1 E2)(h':zR Γ E2 E3):zR Γ E1 E3:=fun a w hs=>h' a w (h a w hs)
theorem zR.has{l:List (Nat×T)}(h:E.Has l):zR Γ E (vW l):=fun _ _ hs=>hs.weaken h.le
theorem CW.ghost(h1:zR Γ E E')(h:CW P Γ pn c E' Q):CW P Γ pn c E Q:=fun a w Q' hs=>h a w Q' (h1 a w hs)
theorem RW.ghost(h1:zR Γ E E')(h:RW P Γ pn ops os E' Q):RW P Γ pn ops os E Q:=fun a w Q' hs=>h a w Q' (h1 a w hs)
theorem CW.to(l:List (Nat×T))(h1:E.Has l)(h:CW P Γ pn c (vW l) Q):CW P Γ pn c E Q:=h.ghost (.has h1)
theorem CW.mono(h:CW P Γ pn c E Q1)(hq:∀e E',Q1 e E'->Q e E'):CW P Γ pn c E Q:=fun a w Q' hs hp hQ=>h a w Q' hs hp (by grind)
theorem CW.skip(h:Q .normal E):CW P Γ pn .skip E Q:=fun _ _ _ hs hp hQ=>by grind[wp_skip]
theorem CW.ret(h:Q .ret E):CW P Γ pn .ret E Q:=fun _ _ _ hs hp hQ=>by grind[wp_ret]
theorem CW.exit(h:Q (.exit id) E):CW P Γ pn (.exit id) E Q:=fun _ _ _ hs hp hQ=>by grind[wp_exit]
def yR(P:Program)(Γ:Ctx)(pn:sH)(c:Code)(Q:Exit->Env->Prop):Exit->Env->Prop
 |.normal,E=>CW P Γ pn c E Q
 |e,E=>Q e E
theorem CW.seq(h:CW P Γ pn c1 E (yR P Γ pn c2 Q)):CW P Γ pn (.seq c1 c2) E Q:=by
 intro a w Q' hs hp hQ;refine wp_seq (h a w _ hs hp fun e E' a' w' h1 gF cP=>?_);cases e with
 |normal=>exact h1 a' w' Q' gF cP hQ
 |_=>exact hQ _ _ _ _ h1 gF cP
theorem CW.cond(b:Bool)(hb:opT E x=jf (.lit (.bool b)))(ht:b=jh->CW P Γ pn c1 E Q)(hf:b=ji->CW P Γ pn c2 E Q):CW P Γ pn (.cond x c1 c2) E Q:=by intro a w Q' hs hp hQ;obtain⟨_,_,_,G,hr⟩:=id hs;refine wp_cond_split (xY hr hb).1 (fun h=>ht h a w Q' hs hp hQ) (fun h=>hf h a w Q' hs hp hQ)
def yT(id:Nat)(Q:Exit->Env->Prop):Exit->Env->Prop
 |.exit id',E=>if id'=id then Q .normal E else Q (.exit id') E
 |e,E=>Q e E
theorem CW.block(h:CW P Γ pn c E (yT id Q)):CW P Γ pn (.block id c) E Q:=by
 intro a w Q' hs hp hQ;refine wp_block (h a w _ hs hp fun e E' a' w' h1 gF cP=>?_);cases e with
 |exit id'=>
  simp only[yT]at h1;simp only[Exit.inBlock]
  grind
 |_=>exact hQ _ _ _ _ h1 gF cP
end
def qZ{σ ρ:Type}(body:σ->Option (σ⊕ρ)):Nat->σ->Option ρ
 |0,_=>jg
 |n+1,s=>match body s with
  |none=>jg
  |some (.inl s')=>qZ body n s'
  |some (.inr r)=>jf r
theorem zHm{σ ρ:Type}{body:σ->Option (σ⊕ρ)}{r:ρ}:∀{n m:Nat}{s:σ},qZ body n s=jf r->n<=m->qZ body m s=jf r
 |0,_,_,h,_=>by grind[qZ]
 |n+1,0,_,_,hm=>by omega
 |n+1,m+1,s,h,hm=>by
  simp only[qZ]at h ⊢
  cases hb:body s with
  |none=>grind
  |some x=>
   cases x with
   |inl s'=>simp only[hb]at h ⊢;exact zHm h (by omega)
   |inr r'=>grind
open Classical in
noncomputable def zE {σ ρ:Type} (body:σ->Option (σ⊕ρ)) (s:σ):Option ρ:=
 if h:∃(n:Nat)(r:ρ),qZ body n s=jf r then jf h.choose_spec.choose else jg
theorem zDJ{σ ρ:Type}{body:σ->Option (σ⊕ρ)}{s:σ}{r:ρ}:zE body s=jf r↔ ∃n,qZ body n s=jf r:=by
 unfold zE;constructor
 ·intro h
  split at h
  all_goals grind
 ·rintro⟨n,hn⟩
  have he:∃(n:Nat)(r:ρ),qZ body n s=jf r:=⟨n,r,hn⟩;rw[dif_pos he]
  grind[zHm]
theorem yQ(body:σ->Option (σ⊕ρ))(s:σ):zE body s=match body s with
  |none=>jg
  |some (.inl s')=>zE body s'
  |some (.inr r)=>jf r:=by
 apply Option.ext;intro r;rw[zDJ];cases hb:body s with
 |none=>
  simp only[reduceCtorEq,iff_false]
  rintro⟨n,hn⟩
  cases n<;>simp[qZ,hb]at hn
 |some x=>
  cases x with
  |inl s'=>
   simp only[];rw[zDJ];constructor
   ·rintro⟨n,hn⟩
    cases n with
    |zero=>grind[qZ]
    |succ n=>grind[qZ]
   ·rintro⟨n,hn⟩
    exact⟨n+1,by grind[qZ]⟩
  |inr r'=>
   simp only[Hm.injEq];constructor
   ·rintro⟨n,hn⟩
    cases n with
    |zero=>grind[qZ]
    |succ n=>grind[qZ]
   ·rintro rfl
    exact⟨1,by simp[qZ,hb]⟩
section
variable {P:Program}{Γ:Ctx}{pn:sH}{E:Env}{Q:Exit->Env->Prop}{c:Code}
def wH{σ ρ:Type}(Γ:Ctx)(en:σ->Env)(Q:ρ->Exit->Env->Prop)(x:σ⊕ρ):Exit->Env->Prop:=fun e E'=>
 match x with
 |.inl s'=>e=.normal/\zR Γ E' (en s')
 |.inr r=>e≠.normal/\Q r e E'
theorem zDt{p:Nat->Prop}(h:∃m,p m):∃m,p m/\ ∀k,k<m-> ¬p k:=by
 refine Classical.byContradiction fun hn=>?_
 have key:∀n,∀k,k<n-> ¬p k:=by
  intro n
  induction n with
  |zero=>simp
  |succ n ih=>
   grind
 grind
theorem CW.loop(body:σ->Option (σ⊕ρ))(en:σ->Env)(Q:ρ->Exit->Env->Prop)(h:∀s x,body s=jf x->CW P Γ pn c (en s) (wH Γ en Q x)){s:σ}{r:ρ}(hr:zE body s=jf r):
  CW P Γ pn (.loop c) (en s) (Q r):=by
 classical
 intro a w Q' hs hp hQ
 let p:Act->World->Nat->Prop:=fun a w m=> ∃s,qZ body m s=jf r/\qJ Γ (en s) a w/\pn.Hold a
 let μ:Act->World->Nat:=fun a w=>if h:∃m,p a w m then(zDt h).choose else 0
 obtain⟨n,hn⟩:=zDJ.1 hr;refine wp_loop (fun a w=> ∃m,p a w m) μ (by grind) ?_;intro a w ph;have hμ:μ a w=(zDt ph).choose:=dif_pos ph;obtain⟨s,h1,h2,h3⟩:=(zDt ph).choose_spec.1;have fc:=(zDt ph).choose_spec.2;rw[<-hμ]at h1;cases hm:μ a w with
 |zero=>grind[qZ]
 |succ k=>
  rw[hm]at h1;simp only[qZ]at h1;cases hb:body s with
  |none=>grind
  |some x=>
   refine h s x hb a w _ h2 h3 fun e E' a' w' hq gF cP=>?_
   cases x with
   |inl s'=>
    simp only[hb]at h1;obtain⟨rfl,hg⟩:=hq;have mc:p a' w' k:=⟨s',h1,hg a' w' gF,cP⟩;refine⟨⟨k,mc⟩,?_⟩;have hex':∃m,p a' w' m:=⟨k,mc⟩
    grind
   |inr r'=>
    simp only[hb]at h1;have:r'=r:=by grind
    subst this;obtain⟨gc,hq⟩:=hq;have:=hQ e E' a' w' hq gF cP;cases e with
    |normal=>grind
    |_=>exact this
end
abbrev Nds:=List (Nat×List Nat×T)
def ROk(P:Program)(E:Env):ResultVar->(Nat×List Nat×T)->Prop
 |.tmp s,x=>x.1=s/\x.2.1=[]/\E s=jf x.2.2/\x.2.2.okTup=jh
 |.cell a T,x=>x.1=a/\x.2.1=[0]/\E a=jf (.ptr x.2.2)/\ ∃ds ti,P.underlying T=jf ds/\P.info? T=jf ti/\zFl ds= !x.2.2.single/\ti.size=x.2.2.size
def zRJ(P:Program)(E:Env):List ResultVar->Nds->Prop
 | [],[]=>True
 |x::xs,y::ys=>ROk P E x y/\zRJ P E xs ys
 |_,_=>False
def LOk(E:Env)(us:List T):List (Nat×T)->Prop
 | []=>True
 |(i,u')::l=>(E i=jf u'/\ ∃u,us[i]? =jf u)/\LOk E us l
def yCQ(P:Program)(rs:Array ResultVar)(us res:List T)(rws:List (Nat×T)):Exit->Env->Prop:=fun e E=>
 (e=.ret\/e=.normal)/\ ∃nd:Nds,zRJ P E rs.toList nd/\nd.map (·.2.2)=res/\(∀x∈nd,us.length<=x.1)/\(nd.map (·.1)).Nodup/\LOk E us rws
def zCk(v:Nat->Value)(is:List Nat):sH:=is.map fun i=>(i,v i)
def zIE:Nat->List T->List (Nat×T)
 |_,[]=>[]
 |i,u::us=>(i,u)::zIE (i+1) us
theorem zLW:∀(us:List T)(i s:Nat)(t:T),vW (zIE i us) s=jf t->i<=s/\us[s-i]? =jf t
 | [],i,s,t,h=>by grind[zIE,vW]
 |u::us,i,s,t,h=>by
  simp only[zIE,vW]at h;split at h
  ·grind
  ·rename_i e
   obtain⟨h1,h2⟩:=zLW us (i+1) s t h
   grind
def zTP(tmps:Array Value):ResultVar->Sem Value
 |.tmp t=>pure (tmps.getD t undef)
 |.cell a t=>do loadVar t (<-asAddr (tmps.getD a undef))
theorem zOl(fn:Func)(tmps:Array Value):results fn tmps=(do
  let vs <-fn.results.mapM (zTP tmps)
  pure (if h:vs.size=1 then vs[0]else .tuple vs)):=rfl
theorem uK.get:(xs:List T)->uK xs-> ∀(i:Nat)(x:T),xs[i]? =jf x->Top x
 | [],_,i,x,h=>by simp at h
 |y::ys,ht,i,x,h=>by
  simp only[uK]at ht;cases i with
  |zero=>simp at h;subst h;exact ht.1
  |succ i=>exact uK.get ys ht.2 i x (by simpa using h)
theorem LOk.get{E:Env}{us:List T}:(l:List (Nat×T))->LOk E us l-> ∀i u',(i,u')∈l->E i=jf u'/\ ∃u,us[i]? =jf u
 | [],_,_,_,h=>by simp at h
 |x::l,h,i,u',hm=>by
  rcases J9.1 hm with rfl|hm
  ·exact h.1
  ·exact LOk.get l h.2 i u' hm
theorem yFg{w:World}(g9:Rep Γ E G tmps w)(x:ResultVar)(s:Nat)(q:List Nat)(t:T)(h:ROk P E x (s,q,t)):
  (zTP tmps x).run P w=.ok (sD G s t q) w/\R Γ.St G w s t q:=by
 cases x with
 |tmp s'=>
  obtain⟨h0,cX,h1,h2⟩:=h;dsimp only at h0 cX h1 h2;subst h0 cX;obtain⟨g1,g2,_⟩:=g9.ent _ _ h1;have hJ:∀xs,t≠.tup xs:=by rintro xs rfl;grind[T.okTup]
  refine⟨?_,g2⟩;rw[<-jZ G s t [] hJ];simp[zTP,Kn,g1]
 |cell a T'=>
  obtain⟨h0,cX,h1,ds,ti,h2,h3,h4,h5⟩:=h;dsimp only at h0 cX h1 h4 h5;subst h0 cX;obtain⟨g1,g2,_⟩:=g9.ent _ _ h1;simp only[R]at g2;obtain⟨b,cs,e,k1,k2,k3,k4,k5,k6⟩:=g2;refine⟨?_,k6⟩;rw[yV rfl,k1]at g1;have h6:=zFW (w:=w) h2 h3 k5 h4 h5;simp[zTP,Kn,g1,asAddr,h6]
theorem zGd{P:Program}{Γ:Ctx}{E:Env}{G:Gh}{tmps:Array Value}{w:World}(g9:Rep Γ E G tmps w):(rs:List ResultVar)->(nd:Nds)->zRJ P E rs nd->
  (rs.mapM (zTP tmps)).run P w=.ok (nd.map fun x=>sD G x.1 x.2.2 x.2.1) w/\ ∀x∈nd,R Γ.St G w x.1 x.2.2 x.2.1
 | [],[],_=>by simp
 |x::xs,y::ys,h=>by
  obtain⟨h1,h2⟩:=zGd g9 xs ys h.2;obtain⟨h3,h4⟩:=yFg g9 x y.1 y.2.1 y.2.2 h.1
  simp_all
 | [],_::_,h=>by simp[zRJ]at h
 |_::_,[],h=>by simp[zRJ]at h
theorem FnC.of_body{f:FuncId}{res:List T}(hf:P.funcs[f]? =jf fn)(hb:fn.body=jf c)(hn:us.length<=fn.ntmps)(ht:uK us)(hr:rws.all (fun x=>decide (x.1<us.length))=jh)
  (h:∀(Γ:Ctx)(v:Nat->Value),Γ.N=fn.ntmps->CW P Γ (zCk v (rws.map (·.1))) c (vW (zIE 0 us)) (yCQ P fn.results us res rws)):FnC P f us res rws:=by
 intro St W w G vs cY gj gp
 let Γ:Ctx:=⟨St,W,w,fn.ntmps⟩
 let v:Nat->Value:=fun i=>vs.getD i undef
 have hm:Mem Γ G w:=⟨gp.one,gp.lb,gp.ow,gp.st,gp.fr,gp.sz,gp.bk⟩;have gr:(vs++Ut (fn.ntmps-vs.size) undef).size=fn.ntmps:=by simp;omega
 have pA:Sim Γ (vW (zIE 0 us)) { tmps:=vs++Ut (fn.ntmps-vs.size) undef,defers:=[] } w:=by
  refine⟨rfl,G,gr,?_,hm⟩;intro s t hs;obtain⟨_,h2⟩:=zLW us 0 s t hs;simp only[Nat.sub_zero]at h2;obtain⟨h3,h4⟩:=gj s t h2;have gC:s<vs.size:=by grind
  exact⟨by grind,h4,uK.get us ht s t h2⟩
 have ic:(zCk v (rws.map (·.1))).Hold { tmps:=vs++Ut (fn.ntmps-vs.size) undef,defers:=[] }:=by
  intro x hx;simp only[zCk,Jc]at hx;obtain⟨i,⟨y,hy,rfl⟩,rfl⟩:=hx;have h1:=Kj.1 hr y hy;simp at h1;have h2:y.1<vs.size:=by omega
  simp[Array.getElem?_append,h2,v]
 refine calls_of_wp hf hb (h Γ v rfl _ _ _ (.of pA) ic ?_)
 rintro e E' a' w' ⟨he,nd,h1,h2,h3,h4,h5⟩ ⟨S',gW,gJ,G',g9⟩ hp
 obtain⟨g1,g2⟩:=zGd g9 _ _ h1;have gw:(results fn a'.tmps).run P w'=.ok (zLO G' nd) w':=by
  rw[zOl,Array.mapM_eq_mapM_toList];simp only[Sem.run_bind,Sem.run_map,g1];cases nd with
  |nil=>simp[zLO]
  |cons y ys=>
   cases ys with
   |nil=>simp[zLO]
   |cons z zs=>simp[zLO]
 have gP:Mem ⟨S',W,w,0⟩ G' w':=⟨g9.mem.one,g9.mem.lb,g9.mem.ow,g9.mem.st,g9.mem.fr,g9.mem.sz,g9.mem.bk⟩;have bx:bodyPost P fn (fun e w'=> ∃(S':Stb)(G':Gh)(nd:List (Nat×List Nat×T)),zBZ St S' W w.heap.size/\e=.returned (zLO G' nd)/\Mem ⟨S',W,w,0⟩ G' w'/\nd.map (·.2.2)=res/\
   (∀x∈nd,R S' G' w' x.1 x.2.2 x.2.1/\us.length<=x.1)/\(nd.map (·.1)).Nodup/\
   ∀i u',(i,u')∈rws->R S' G' w' i u' []/\ ∃u,us[i]? =jf u/\mkV G' i u' []=mkV G i u []) .ret a' w':=by
  refine⟨gJ,_,gw,S',G',nd,gW,rfl,gP,h2,by grind,h4,?_⟩;intro i u' hiu;obtain⟨k1,u,k3⟩:=LOk.get _ h5 i u' hiu;obtain⟨k5,k6,_⟩:=g9.ent i u' k1;refine⟨k6,u,k3,?_⟩;have k7:=hp (i,v i) (by simp only[zCk,Jc];grind);have k8:=(gj i u k3).1;rw[k5]at k7;simp[v,Kn,k8]at k7;exact k7
 rcases he with rfl|rfl<;>exact bx
mutual
def vM:T->T
 |.sl k xs=>.ro (strip (.sl k xs))
 |.ptr t=>.ro (strip (.ptr t))
 |.agg xs=>.agg (vG xs)
 |.tup xs=>.tup (vG xs)
 |.any=>.any
 |.lit v=>.lit v
 |.ro t=>.ro t
 |.same r p=>.same r p
 |.addr r p=>.addr r p
 |.sub r p k lo hi=>.sub r p k lo hi
def vG:List T->List T
 | []=>[]
 |x::xs=>vM x::vG xs
end
mutual
theorem zTQ(G:Gh)(s:Nat):(t:T)-> ∀p,vals G s (vM t) p=vals G s t p
 |.agg xs,p=>by simp only[vM,vals];exact zCR G s xs p 0
 |.sl _ _,_|.ptr _,_|.tup _,_|.any,_|.lit _,_|.ro _,_|.same _ _,_|.addr _ _,_|.sub _ _ _ _ _,_=>by rfl
theorem zCR(G:Gh)(s:Nat):(xs:List T)-> ∀p j,yE G s (vG xs) p j=yE G s xs p j
 | [],_,_=>by rfl
 |x::xs,p,j=>by simp only[vG,yE,zTQ G s x,zCR G s xs]
end
theorem zTR(G:Gh)(s:Nat)(t:T)(p:List Nat):sD G s (vM t) p=sD G s t p:=by cases t<;>simp only[vM,sD,zCR]
theorem zLX(G:Gh)(s:Nat):(xs:List T)-> ∀p j,jY G s (vG xs) p j=jY G s xs p j
 | [],_,_=>by rfl
 |x::xs,p,j=>by simp only[vG,jY,zTR,zLX G s xs]
theorem zXU(G:Gh)(s:Nat)(t:T)(p:List Nat):mkV G s (vM t) p=mkV G s t p:=by cases t<;>simp only[vM,mkV,zCR,zLX]
mutual
theorem zLY:(t:T)->Top t->Top (vM t)
 |.agg xs,h|.tup xs,h=>by simp only[vM,Top]at h ⊢;exact zJh xs h
 |.sl _ _,_|.ptr _,_|.any,_|.lit _,_|.ro _,_|.same _ _,_|.addr _ _,_|.sub _ _ _ _ _,_=>by simp only[vM,Top]
theorem zJh:(xs:List T)->uK xs->uK (vG xs)
 | [],_=>by grind[vG]
 |x::xs,h=>by simp only[vG,uK]at h ⊢;exact⟨zLY x h.1,zJh xs h.2⟩
end
section
variable {St Sc:Stb}{G G':Gh}{w:World}{s:Nat} (gk:∀s p,(G.hd s p).oneCell'=jh) (ee:∀b x,St b=jf x->Sc b=jf x) (ef:∀b,(∃y,G.ow b=jf (s,y))->Sc b=w.heap[b]?) (gE:∀s z,G'.hd s z=G.hd s z) (eO:∀s z,G'.ad s z=G.ad s z)
 include gk ee ef gE eO
mutual
theorem zZH:(t:T)-> ∀(p:List Nat),R St G w s t p->R Sc G' w s (vM t) p
 |.agg xs,p,hr|.tup xs,p,hr=>by simp only[vM,R]at hr ⊢;exact zTS xs p 0 hr
 |.sl k xs,p,hr=>by have:=zLR gk ee ef (.sl k xs) p rfl hr;simp only[vM,R,gE];exact this
 |.ptr t,p,hr=>by have:=zLR gk ee ef (.ptr t) p rfl hr;simp only[vM,R,gE];exact this
 |.ro u,p,hr=>by simp only[vM,R,gE]at hr ⊢;grind[uS]
 |.any,_,_=>by simp only[vM,R]
 |.lit _,_,hr|.same _ _,_,hr|.sub _ _ _ _ _,_,hr=>by simp only[vM,R,gE]at hr ⊢;exact hr
 |.addr _ _,_,hr=>by simp only[vM,R,gE,eO]at hr ⊢;exact hr
theorem zTS:(xs:List T)-> ∀(p:List Nat)(j:Nat),RF St G w s xs p j->RF Sc G' w s (vG xs) p j
 | [],_,_,_=>by have _:=gk;have _:=ee;have _:=ef;have _:=gE;have _:=eO;simp only[vG,RF]
 |x::xs,p,j,hr=>by simp only[vG,RF]at hr ⊢;exact⟨zZH x _ hr.1,zTS xs p (j+1) hr.2⟩
end
end
theorem zR.freeze(s:Nat)(t:T)(hs:E s=jf t):zR Γ E (E.app [(s,jf (vM t))] [(s,1)]):=by
 classical
 rintro a w ⟨S,hS,gJ,G,g9⟩
 have hm:=g9.mem
 let own:Nat->Prop:=fun b=> ∃y,G.ow b=jf (s,y)
 let Sc:Stb:=fun b=>if own b then w.heap[b]? else S b
 let G':Gh:={ hd:=G.hd,ad:=G.ad,lb:=fun b o=>if own b then jg else G.lb b o,ow:=fun b=>if own b then jg else G.ow b }
 have fa:∀b x,S b=jf x->Sc b=jf x:=fun b x hx=>by
  have:¬own b:=by
   rintro⟨y,hy⟩
   have:=(hm.ow b _ hy).2.2
   grind
  grind
 have bv:zBZ S Sc Γ.W Γ.w0.heap.size:=⟨fa,fun b hb gZ=>by
  by_cases h:own b
  ·obtain⟨y,hy⟩:=h
   exact(hm.ow b _ hy).2.1
  grind⟩
 have gp:Mem ((Γ.at S).at Sc) G' w:=by
  refine⟨hm.one,fun b o l hl=>?_,fun b l hl=>?_,fun b x hx=>?_,hm.fr,hm.sz,hm.bk⟩
  ·by_cases h:own b
   ·grind
   ·simp only[G',h,if_false]at hl
    have:=hm.lb b o l hl;exact⟨this.1,this.2.1,by simp only[Sc,h,if_false];exact this.2.2⟩
  ·by_cases h:own b
   ·grind
   ·simp only[G',h,if_false]at hl
    have:=hm.ow b l hl;exact⟨this.1,this.2.1,by simp only[Sc,h,if_false];exact this.2.2⟩
  ·by_cases h:own b
   ·grind
   ·simp only[Sc,h,if_false]at hx;exact hm.st b x hx
 have gu:sM [(s,1)] G w G' w:=by
  have tj:∀b s0 y,G.ow b=jf (s0,y)->(∀n,(s0,n)∉([(s,1)]:Chg))-> ¬own b:=by grind
  refine⟨fun _ _ _=>rfl,fun _ _ _=>rfl,by grind,by grind,fun b cs e h=>⟨cs,h,rfl⟩⟩
  all_goals grind
 obtain⟨e1,e2,e3⟩:=g9.ent s t hs;refine⟨Sc,hS.trans bv,gJ,G',g9.up fa rfl gu gp (fun s0 h0=>⟨fun n hn=>?_,rfl⟩) (fun s0 t0 h0=>?_)⟩
 ·grind[uB]
 ·rw[uB]at h0
  split at h0
  ·rename_i he;subst he
   simp at h0;subst h0;have hR:=zZH (G':=G') hm.one fa (fun b hb=>by grind) (fun _ _=>rfl) (fun _ _=>rfl) t [] e2;refine⟨?_,hR,zLY t e3⟩;rw[e1];have h1:mkV G' s (vM t) []=mkV G s (vM t) []:=zFk _ _ _ (fun _=>rfl);rw[h1,zXU]
  ·cases h0
abbrev zBU:=List (Wr×Chg)
def Env.apps(E:Env)(l:zBU):Env:=l.foldl (fun E x=>E.app x.1 x.2) E
structure Stp where
 rd:List (Nat×T)
 l:zBU
variable {Xs:List Stp}
def sN(wr:Wr):List Nat:=wr.map (·.1)
def Stp.slots(X:Stp):List Nat:=X.l.flatMap fun x=>sN x.1
def oOk(chg:Chg):Option T->Bool
 |none=>jh
 |some t=>t.okB chg
def zOm(chg:Chg)(wr:Wr):Bool:=wr.all fun x=>oOk chg x.2
def zRK(a b:List Nat):Bool:=a.all fun x=> !b.contains x
def zFt(a b:zBU):Bool:=a.all fun x=>b.all fun y=>zRK (sN x.1) (sN y.1)&&zOm y.2 x.1&&zOm x.2 y.1
def Stp.apart(a b:Stp):Bool:=zFt a.l b.l&&zRK a.slots (b.rd.map (·.1))&&zRK b.slots (a.rd.map (·.1))&&a.rd.all fun x=>b.l.all fun y=>x.2.okB y.2
theorem zFu{s:Nat}(h:s∉sN wr):wr.find s=jg:=by
 induction wr with
 |nil=>rfl
 |cons x wr ih=>
  simp only[sN,Ju,J9,not_or]at h;simp only[Wr.find,Ne.symm h.1,if_false];exact ih h.2
theorem zJi{s:Nat}{x:Option T}(h:wr.find s=jf x):s∈sN wr/\ ∃y∈wr,y.2=x:=by
 induction wr with
 |nil=>grind[Wr.find]
 |cons y wr ih=>
  grind[Wr.find,sN]
theorem zHn{a b:List Nat}(h:zRK a b=jh){s:Nat}(hs:s∈a):s∉b:=by
 have:=Kj.1 h s hs
 grind
theorem zTT(E:Env)(w1 w2:Wr)(c1 c2:Chg)(h:zRK (sN w1) (sN w2)=jh)(h1:zOm c2 w1=jh)(h2:zOm c1 w2=jh):
  (E.app w1 c1).app w2 c2=(E.app w2 c2).app w1 c1:=by
 funext s
 have ok:∀{c:Chg}{w:Wr}{s:Nat}{x:Option T},zOm c w=jh->w.find s=jf x->(match x with|some t=>if t.okB c then jf t else jg|none=>jg)=x:=by
  intro c w s x hw hf;obtain⟨_,y,hy,rfl⟩:=zJi hf;have:=Kj.1 hw y hy
  grind[oOk]
 unfold Env.app;cases hf1:w1.find s with
 |some x=>
  grind[zFu,zHn,zJi]
 |none=>
  grind
theorem zDu(w:Wr)(c:Chg):∀(l:zBU)(E:Env),(∀y∈l,zRK (sN w) (sN y.1)=jh/\zOm y.2 w=jh/\zOm c y.1=jh)->(E.app w c).apps l=(E.apps l).app w c
 | [],E,_=>rfl
 |y::l,E,h=>by obtain⟨h1,h2,h3⟩:=h y (by simp);show((E.app w c).app y.1 y.2).apps l=_;rw[zTT E w y.1 c y.2 h1 h2 h3];exact zDu w c l _ (by grind)
theorem zJj:∀(l1 l2:zBU)(E:Env),zFt l1 l2=jh->(E.apps l1).apps l2=(E.apps l2).apps l1
 | [],l2,E,_=>rfl
 |x::l1,l2,E,h=>by simp only[zFt,Un,J4]at h;show((E.app x.1 x.2).apps l1).apps l2=((E.apps l2).app x.1 x.2).apps l1;rw[zJj l1 l2 _ (by grind[zFt]),zDu x.1 x.2 l2 E (by grind)]
def runD:Env->List (Bool×Stp)->Env
 |E,[]=>E
 |E,(b,X)::l=>runD (if b then E.apps X.l else E) l
theorem kD:∀(l1 l2:List (Bool×Stp))(E:Env),runD E (l1++l2)=runD (runD E l1) l2
 | [],_,_=>rfl
 |(b,X)::l1,l2,E=>by simp only[K9,runD];exact kD l1 l2 _
theorem zFv:∀(l:List (Bool×Stp))(X:Stp)(E:Env),(∀y∈l,y.1=jh->zFt X.l y.2.l=jh)->runD (E.apps X.l) l=(runD E l).apps X.l
 | [],_,_,_=>rfl
 |(b,Y)::l,X,E,h=>by
  simp only[runD];cases b with
  |false=>exact zFv l X E (by grind)
  |true=>
   have:=h (jh,Y) (by simp) rfl;simp only[if_true];rw[zJj X.l Y.l E this];exact zFv l X _ (by grind)
theorem zHo{s:Nat}:∀(l:zBU)(E:Env),s∉l.flatMap (fun x=>sN x.1)-> ∀t,(E.apps l) s=jf t->E s=jf t
 | [],_,_,_,h=>h
 |x::l,E,hs,t,h=>by
  simp only[Kr,Ja,not_or]at hs;have:=zHo l (E.app x.1 x.2) hs.2 t h
  grind[Env.app,zFu]
theorem zJk{s:Nat}{t:T}:∀(l:zBU)(E:Env),s∉l.flatMap (fun x=>sN x.1)->(∀y∈l,t.okB y.2=jh)->E s=jf t->(E.apps l) s=jf t
 | [],_,_,_,h=>h
 |x::l,E,hs,gz,h=>by
  simp only[Kr,Ja,not_or]at hs;refine zJk l (E.app x.1 x.2) hs.2 (by grind) ?_
  grind[Env.app,zFu]
theorem zJl{s:Nat}:∀(l:zBU)(E1 E2:Env),(∀t,E2 s=jf t->E1 s=jf t)-> ∀t,(E2.apps l) s=jf t->(E1.apps l) s=jf t
 | [],_,_,h,t,ht=>h t ht
 |x::l,E1,E2,h,t,ht=>by
  refine zJl l (E1.app x.1 x.2) (E2.app x.1 x.2) (fun u hu=>?_) t ht
  grind[Env.app]
theorem zJm{s:Nat}:∀(l:List (Bool×Stp))(E1 E2:Env),(∀y∈l,y.1=ji->s∉y.2.slots)->(∀t,E2 s=jf t->E1 s=jf t)->
  ∀t,runD E2 (l.map fun y=>(jh,y.2)) s=jf t->runD E1 l s=jf t
 | [],_,_,_,h,t,ht=>h t ht
 |(b,X)::l,E1,E2,hl,h,t,ht=>by
  simp only[Ju,runD,if_true]at ht ⊢
  refine zJm l _ _ (by grind) (fun u hu=>?_) t ht;cases b with
  |true=>grind[zJl]
  |false=>exact h u (zHo X.l E2 (hl (ji,X) (by simp) rfl) u hu)
theorem zJn{s:Nat}{t:T}:∀(l:List (Bool×Stp))(E:Env),(∀y∈l,y.1=jh->s∉y.2.slots/\ ∀z∈y.2.l,t.okB z.2=jh)->E s=jf t->runD E l s=jf t
 | [],_,_,h=>h
 |(b,X)::l,E,hl,h=>by
  simp only[runD];refine zJn l _ (fun y hy=>hl y (by simp[hy])) ?_;cases b with
  |false=>exact h
  |true=>obtain⟨h1,h2⟩:=hl (jh,X) (by simp) rfl;exact zJk X.l E h1 h2 h
theorem Env.Has.of{E E':Env}:{l:List (Nat×T)}->E.Has l->(∀s t,(s,t)∈l->E s=jf t->E' s=jf t)->E'.Has l
 | [],_,_=>trivial
 |(s,t)::l,h,h'=>⟨h' s t (by simp) h.1,Env.Has.of h.2 fun s t hm=>h' s t (by simp[hm])⟩
def zBg(o:Oper):List Nat:=(o.after.toList.filter (Region.binds .any)).map (·.on)
def zA6:Nat->List Oper->Bool
 |_,[]=>jh
 |i,o::os=>((zBg o).all fun m=>decide (m<i))&&zA6 (i+1) os
def kY(an:List (List Nat)):List (List Nat)->List Oper->Bool
 | [],_=>jh
 |_::_,[]=>ji
 |l::ls,o::os=>(l.all fun k=>(zBg o).contains k||(zBg o).any fun m=>(an.getD m []).contains k)&&kY an ls os
def jH(Xs:List Stp):Nat->List (List Nat)->List Stp->Bool
 |_,_,[]=>jh
 |j,an,Y::Ys=>((Jd j).all fun i=>(an.headD []).contains i||match Xs[i]? with
   |some X=>X.apart Y
   |none=>jh)&&jH Xs (j+1) an.tail Ys
theorem zG7:∀(os:List Oper)(i0 j:Nat)(o:Oper),zA6 i0 os=jh->os[j]? =jf o-> ∀m∈zBg o,m<i0+j
 | [],_,j,_,_,h=>by simp at h
 |x::os,i0,j,o,hf,h=>by
  simp only[zA6,J4]at hf;cases j with
  |zero=>
   grind
  |succ j=>
   intro m hm;have:=zG7 os (i0+1) j o hf.2 (by grind) m hm;omega
theorem zK0(an:List (List Nat)):∀(ls:List (List Nat))(os:List Oper)(j:Nat)(l:List Nat),kY an ls os=jh->ls[j]? =jf l-> ∃o,os[j]? =jf o/\ ∀k∈l,k∈zBg o\/ ∃m∈zBg o,k∈an.getD m []
 | [],_,j,_,_,h=>by simp at h
 |_::_,[],_,_,h,_=>by grind[kY]
 |x::ls,o::os,j,l,ha,h=>by
  simp only[kY,J4]at ha;cases j with
  |zero=>
   simp_all
  |succ j=>
   obtain⟨o',h1,h2⟩:=zK0 an ls os j l ha.2 (by grind)
   grind
theorem zFw(Xs:List Stp):∀(Ys:List Stp)(j0:Nat)(an:List (List Nat))(j:Nat)(Y:Stp),jH Xs j0 an Ys=jh->Ys[j]? =jf Y-> ∀i X,i<j0+j->Xs[i]? =jf X->i∈an.getD j []\/X.apart Y=jh
 | [],_,_,j,_,_,h=>by simp at h
 |Z::Ys,j0,an,j,Y,hp,h=>by
  simp only[jH,J4]at hp;intro i X hi hX;cases j with
  |zero=>
   simp at h;subst h;have:=Kj.1 hp.1 i (by grind);simp only[hX,Bool.or_eq_true,H9,decide_eq_true_eq]at this;rcases this with h|h
   ·left
    cases an with
    |nil=>simp at h
    |cons l an=>grind
   grind
  |succ j=>
   rcases zFw Xs Ys (j0+1) an.tail j Y hp.2 (by grind) i X (by omega) hX with h|h
   all_goals grind
section
variable {P:Program}{Γ:Ctx}{pn:sH}{ops:Array Oper}
def zTU(ops:Array Oper)(L:List Bool):Prop:=∀(i:Nat)(o:Oper),ops[i]? =jf o->L[i]? =jf jh-> ∀m∈zBg o,L[m]? =jf jh
theorem zHp{L:List Bool}{an:List (List Nat)}(hf:zA6 0 ops.toList=jh)(ha:kY an an ops.toList=jh)(hc:zTU ops L):
  ∀(n i:Nat),i<=n-> ∀o,ops[i]? =jf o->(∀m∈zBg o,L[m]? =jf jh)-> ∀k∈an.getD i [],L[k]? =jf jh:=by
 intro n
 induction n with
 |zero=>
  intro i hi o ho hp k hk;have iE:i=0:=by omega
  subst iE;cases hl:an[0]? with
  |none=>grind
  |some l=>
   obtain⟨o',h1,h2⟩:=zK0 an an ops.toList 0 l ha hl;rw[Kx,ho]at h1;simp at h1;subst h1;simp only[U7,hl,Lq]at hk;rcases h2 k hk with h|⟨m,h,_⟩
   ·grind
   ·have:=zG7 ops.toList 0 0 o hf (by grind) m h
    omega
 |succ n ih=>
  intro i hi o ho hp k hk;cases hl:an[i]? with
  |none=>grind
  |some l=>
   obtain⟨o',h1,h2⟩:=zK0 an an ops.toList i l ha hl;rw[Kx,ho]at h1;simp at h1;subst h1;simp only[U7,hl,Lq]at hk;rcases h2 k hk with h|⟨m,h,hkm⟩
   ·grind
   ·have gC:=zG7 ops.toList 0 i o hf (by grind) m h
    have hLm:=hp m h;cases dx:ops[m]? with
    |none=>
     grind
    |some om=>exact ih m (by omega) om dx (hc m om dx hLm) k hkm
theorem zJo{L:List Bool}{i:Nat}{b:Bool}{X:Stp}(hL:L[i]? =jf b)(hX:Xs[i]? =jf X):L.zip Xs=(L.take i).zip (Xs.take i)++(b,X)::(L.drop (i+1)).zip (Xs.drop (i+1)):=by
 have h1:L=L.take i++b::L.drop (i+1):=by obtain⟨h,rfl⟩:=Jm.1 hL;simp
 have h2:Xs=Xs.take i++X::Xs.drop (i+1):=by obtain⟨h,rfl⟩:=Jm.1 hX;simp
 grind[List.zip_cons_cons]
theorem zK1{L:List Bool}{y:Bool×Stp}(h:y∈L.zip Xs):∃j:Nat,L[j]? =jf y.1/\Xs[j]? =jf y.2:=by grind[Qe,List.getElem?_zip_eq_some]
def sO:Env->List Stp->Prop
 |_,[]=>True
 |E,X::Xs=>E.Has X.rd/\sO (E.apps X.l) Xs
theorem sO.get:∀(Xs:List Stp)(E:Env),sO E Xs-> ∀(i:Nat)(X:Stp),Xs[i]? =jf X->(runD E ((Xs.take i).map fun y=>(jh,y))).Has X.rd
 | [],_,_,i,_,h=>by simp at h
 |Y::Xs,E,hh,i,X,h=>by
  cases i with
  |zero=>simp at h;subst h;simpa[runD]using hh.1
  |succ i=>
   have:=sO.get Xs _ hh.2 i X (by grind)
   grind[runD]
theorem Stp.apart_spec{a b:Stp}(h:a.apart b=jh):zFt a.l b.l=jh/\(∀s∈a.slots,s∉b.rd.map (·.1))/\(∀s∈b.slots,s∉a.rd.map (·.1))/\ ∀x∈a.rd,∀y∈b.l,x.2.okB y.2=jh:=by simp only[Stp.apart,J4]at h;refine⟨h.1.1.1,by grind[zHn],by grind[zHn],fun x hx y hy=>?_⟩;exact Kj.1 (Kj.1 h.2 x hx) y hy
mutual
theorem zG8:(t:T)->t.okB []=jh
 |.same _ _|.addr _ _|.sub _ _ _ _ _=>by rfl
 |.agg xs|.tup xs=>by simp only[T.okB];exact zLZ xs
 |.any|.lit _|.ro _|.sl _ _|.ptr _=>by rfl
theorem zLZ:(xs:List T)->zL7 [] xs=jh
 | []=>by rfl
 |x::xs=>by simp only[zL7,zG8 x,zLZ xs,Lp]
end
theorem Rep.heap{w:World}(h:Rep Γ E G tmps w)(hw:w'.heap=w.heap)(ho:w'.os=w.os:=by rfl)(hq:w'.output=w.output:=by rfl):Rep Γ E G tmps w' where
 size:=h.size
 ent s t hs:=Ent.keep (chg:=[]) ⟨fun _ _ _=>rfl,fun _ _ _=>rfl,by grind[yN,World.cell?],fun _ _ _ h _=>h,fun b cs e h=>⟨cs,by grind,rfl⟩⟩ (by simp) (zG8 t) (h.ent s t hs)
 mem:=by
  have hm:=h.mem;exact⟨hm.one,fun b o l hl=>by have:=hm.lb b o l hl;exact⟨by rw[hw];exact this.1,this.2⟩,fun b l hl=>by have:=hm.ow b l hl;exact⟨by rw[hw];exact this.1,this.2⟩,
   fun b x hx=>by rw[hw];exact hm.st b x hx,fun b h1 h2=>by rw[hw];exact hm.fr b h1 h2,by rw[hw];exact hm.sz,hm.bk.trans (fun b cs e hb=>⟨cs,by grind,rfl⟩) ho hq⟩
end
abbrev I(n:Int):T:=.lit (.int .i64 n)
abbrev B(b:Bool):T:=.lit (.bool b)
abbrev L{α:Type}(k:Nat)(f:α->T)(xs:List α):T:=.sl k (xs.map f)
theorem zN{t:TypeId}(h:P.types[t]? =jf ti):P.info? t=jf ti:=by grind[Tables.info?]
def Ok(P:Program)(Γ:Ctx)(o:Oper)(E E':Env):Prop:=∀S,xZ P (Γ.at S) o E E'
section
variable {P:Program}{Γ:Ctx}{pn:sH}{ops:Array Oper}{o:Oper}{os:List Oper}{E E':Env}{Q:Exit->Env->Prop}{d:Nat}
theorem RW.op(h:Ok P Γ o E E')(k:RW P Γ pn ops os E' Q)(hg:o.guard=jg:=by rfl)(hp:pn.ok o.dst=jh:=by rfl):RW P Γ pn ops (o::os) E Q:=RW.cons (wF.op h hg) k hp
def neD(x:Operand)(d:Nat):Bool:=match x with
 |.tmp s=>s != d
 |_=>jh
theorem zEv{d:Nat}(h:neD x d=jh):∀s,x=.tmp s->s≠d:=by rintro s rfl;grind[neD]
theorem zBh{t:T}(h:t.okTup=jh):∀xs,t≠.tup xs:=by rintro xs rfl;grind[T.okTup]
abbrev mvB(Γ:Ctx)(x:Operand)(t:T)(d:Nat):Bool:=J6 d Γ.N&&t.okTup&&neD x d&&T.okB [(d,0)] (tC x t)
section
variable {x y:Operand}{t:T}{ty:TypeId}{ps:String}{af:Array Edge}{gd:Option (Nat×Bool)}
theorem yF{a b:Nat}(h:J6 a b=jh):a<b:=by grind[Nat.blt_eq]
theorem zRL(hx:opT E x=jf t)(sd:mvB Γ x t d=jh):Ok P Γ ⟨jf d,.move x,ty,ps,af,gd⟩ E (E.app [(d,jf (tC x t))] [(d,0)]):=by simp only[mvB,J4]at sd;exact fun S=>zQb x t (.inl rfl) rfl (yF sd.1.1.1) hx (zBh sd.1.1.2) (zEv sd.1.2) sd.2
theorem zXV(hx:opT E x=jf t)(sd:mvB Γ x t d=jh):Ok P Γ ⟨jf d,.assign x,ty,ps,af,gd⟩ E (E.app [(d,jf (tC x t))] [(d,0)]):=by simp only[mvB,J4]at sd;exact fun S=>zQb x t (.inr rfl) rfl (yF sd.1.1.1) hx (zBh sd.1.1.2) (zEv sd.1.2) sd.2
def inR(n:Int):Bool:=decide (-9223372036854775808<=n)&&decide (n<=9223372036854775807)
theorem zCl{n:Int}(h:inR n=jh):IntKind.i64.wrap n=n:=by
 simp only[inR,J4,decide_eq_true_eq]at h;have hb:IntKind.i64.bits=64:=rfl;have hs:IntKind.i64.signed=jh:=rfl;simp only[IntKind.wrap,hb,hs,Qs]
 grind
def rng(n:Int):Option Int:=if inR n then jf n else jg
theorem zCm{n:Int}(h:rng n=jf m):m=n/\inR n=jh:=by grind[rng]
theorem zTV{n c:Int}(hv:rng (m+n)=jf c)(hx:opT E x=jf (I m))(hy:opT E y=jf (I n))(sd:J6 d Γ.N=jh):Ok P Γ ⟨jf d,.binOp .add xt x y yt,ty,ps,af,gd⟩ E (E.app [(d,jf (I c))] [(d,0)]):=by obtain⟨rfl,h⟩:=zCm hv;exact fun S=>tV .add xt yt x y .i64 m n _ rfl rfl (yF sd) hx hy (by grind[zKh,zCl])
theorem zZI{n:Int}(hx:opT E x=jf (I m))(hy:opT E y=jf (I n))(sd:J6 d Γ.N=jh):Ok P Γ ⟨jf d,.binOp .lss xt x y yt,ty,ps,af,gd⟩ E (E.app [(d,jf (B (decide (m<n))))] [(d,0)]):=
 fun _S=>tV .lss xt yt x y .i64 m n _ rfl rfl (yF sd) hx hy rfl
theorem zDv(k:Nat)(sd:J6 d Γ.N=jh):Ok P Γ ⟨jf d,.assign (.const (.slice jg 0 0)),ty,ps,af,gd⟩ E (E.app [(d,jf (.sl k []))] [(d,0)]):=
 fun _=>zLE k _ (.inr rfl) rfl rfl (yF sd)
def yG(n:Int):Option Nat:=if 0<=n/\n<=68719476736 then jf n.toNat else jg
theorem zHq{n:Int}{m:Nat}(h:yG n=jf m):n=(m:Int)/\m<=68719476736:=by grind[yG]
class ElT (P:Program) (t:TypeId) (e:outParam TypeId) (ti:outParam TypeInfo) (k:outParam Nat) (u:outParam T):Prop where
 un:P.underlying t=jf (.slice e)
 info:P.info? e=jf ti
 zero:∃z,ti.zero=jf z/\sF u=z.cells.toList
 size:ti.size=k
 pos:0<k
 zok:u.zOk=jh
 us:u.size=k
 bytes:ti.bytes<=2048
theorem zTW{t:TypeId}{n m:Nat}{a b:Int}(ht:ElT P t e ti k u)(hn:yG a=jf n)(hx:opT E x=jf (I a))(hm:yG b=jf m)(hy:opT E y=jf (I b))(pe:n<=m)(sd:J6 d Γ.N=jh):
  Ok P Γ ⟨jf d,.makeSlice t x y,ty,ps,af,gd⟩ E (E.app [(d,jf (.sl k (J1 n u)))] [(d,0)]):=by
 obtain⟨rfl,h1⟩:=zHq hn;obtain⟨rfl,h2⟩:=zHq hm;obtain⟨z,hz,hv⟩:=ht.zero;exact fun S=>zXQ t e ti z u k x y n m .i64 .i64 rfl rfl (yF sd) ht.un ht.info hz ht.size ht.pos ht.zok hv ht.us (H8 ht.bytes (by decide)) hx hy pe h2
end
end
def ixO{α:Type}(xs:List α)(i:Int):Option α:=if 0<=i then xs[i.toNat]? else jg
theorem uL{α:Type}{xs:List α}{v:α}(h:ixO xs i=jf v):0<=i/\xs[i.toNat]? =jf v:=by grind[ixO]
def kZ:T->Bool
 |.same _ _=>ji
 |_=>jh
theorem zDi{s:Nat}{t:T}(h1:E s=jf (.same r q))(h2:E r=jf t)(h3:t.get q.reverse=jf u)(h4:kZ u=jh):tD E (.tmp s)=jf (r,q,u):=by
 have hg:∀t:T,t.get []=jf t:=fun t=>by rfl
 grind[kZ,tD,qK]
theorem zAp{s:Nat}{t:T}(h1:E s=jf t)(h4:kZ t=jh):tD E (.tmp s)=jf (s,[],t):=by
 have hg:∀t:T,t.get []=jf t:=fun t=>by rfl
 grind[kZ,tD,qK]
section
variable {P:Program}{Γ:Ctx}{E:Env}{d:Nat}{x y:Operand}{ty:TypeId}{ps:String}{af:Array Edge}{gd:Option (Nat×Bool)}
class zAN (P:Program) (t:TypeId) (e:outParam TypeId) (ti:outParam TypeInfo) (k:outParam Nat):Prop where
 un:P.underlying t=jf (.slice e)
 info:P.info? e=jf ti
 size:ti.size=k
theorem yCR{α:Type}{t:TypeId}{f:α->T}{xs:List α}{v:α}(ht:zAN P t e ti k)(hv:ixO xs i=jf v)(hx:tD E x=jf (r,q,L k f xs))(hy:opT E y=jf (I i))(sd:J6 d Γ.N=jh):
  Ok P Γ ⟨jf d,.indexAddr t x y,ty,ps,af,gd⟩ E (E.app [(d,jf (.addr r (i.toNat::q)))] [(d,0)]):=by
 obtain⟨h1,h2⟩:=uL hv;exact fun S=>zT2 x y t e ti r q k _ .i64 i rfl rfl (yF sd) ht.un ht.info ht.size hx hy h1 (by grind)
theorem zZJ{α:Type}{t:TypeId}{f:α->T}{xs:List α}{v:α}(ht:zAN P t e ti k)(hv:ixO xs i=jf v)(hx:tD E x=jf (r,q,.ro (L k f xs)))(hy:opT E y=jf (I i))(sd:J6 d Γ.N=jh):
  Ok P Γ ⟨jf d,.indexAddr t x y,ty,ps,af,gd⟩ E (E.app [(d,jf (.ro (.ptr (f v))))] [(d,0)]):=by
 obtain⟨h1,h2⟩:=uL hv;exact fun S=>zT3 x y t e ti r q k _ .i64 i _ rfl rfl (yF sd) ht.un ht.info ht.size hx hy h1 (by simp[h2])
theorem zZK{α:Type}{t:TypeId}{f:α->T}{xs:List α}(hu:P.underlying t=jf (.slice e))(hx:tD E x=jf (r,q,L k f xs))(sd:J6 d Γ.N=jh):
  Ok P Γ ⟨jf d,.call { callee:=.builtin .len,args:=#[x],argTypes:=#[t] },ty,ps,af,gd⟩ E (E.app [(d,jf (I xs.length))] [(d,0)]):=
 fun _=>zT1 x t _ r q (L k f xs) xs.length rfl rfl (yF sd) hu hx (by simp[zL8]) rfl
theorem zTX{α:Type}{t:TypeId}{f:α->T}{xs:List α}(hu:P.underlying t=jf (.slice e))(hx:tD E x=jf (r,q,.ro (L k f xs)))(sd:J6 d Γ.N=jh):
  Ok P Γ ⟨jf d,.call { callee:=.builtin .len,args:=#[x],argTypes:=#[t] },ty,ps,af,gd⟩ E (E.app [(d,jf (I xs.length))] [(d,0)]):=
 fun _=>zT1 x t _ r q (.ro (L k f xs)) xs.length rfl rfl (yF sd) hu hx (by simp[zL8]) rfl
structure zTY (P:Program) (t:TypeId) (u:T):Prop where
 h:∃ds ti,P.underlying t=jf ds/\P.info? t=jf ti/\zFl ds= !u.single/\ti.size=u.size
theorem yCS{t:TypeId}(ht:zTY P t u)(hx:opT E x=jf (.ro (.ptr u)))(sd:J6 d Γ.N=jh):Ok P Γ ⟨jf d,.load t x,ty,ps,af,gd⟩ E (E.app [(d,jf (roT u))] [(d,0)]):=by obtain⟨ds,ti,h1,h2,h3,h4⟩:=ht.h;exact fun S=>zOe x t ds ti u rfl rfl (yF sd) h1 h2 h3 h4 hx
theorem yFh{t:TypeId}{tr:T}(ht:zTY P t u)(hx:opT E x=jf (.addr r q))(hr:E r=jf tr)(hg:tr.get q.reverse=jf u)(sd:(J6 d Γ.N&&tr.locd q.reverse&&(r != d)&&T.okB [(d,0)] (cpT r u q))=jh):
  Ok P Γ ⟨jf d,.load t x,ty,ps,af,gd⟩ E (E.app [(d,jf (cpT r u q))] [(d,0)]):=by
 obtain⟨ds,ti,h1,h2,h3,h4⟩:=ht.h;simp only[J4]at sd;exact fun S=>zXP x t ds ti r q tr u rfl rfl (yF sd.1.1.1) h1 h2 h3 h4 hx hr hg sd.1.1.2 (by grind) sd.2
end
section
variable {P:Program}{Γ:Ctx}{E:Env}{x:Operand}{ty:TypeId}{ps:String}{af:Array Edge}{gd:Option (Nat×Bool)}
theorem yGz{t:TypeId}{s:Nat}{tr:T}{v:Value}(hi:P.info? t=jf ti)(gr:ti.size=1)(hx:opT E x=jf (.addr r q))(hr:E r=jf tr)(hg:tr.get q.reverse=jf u0)(gv:tr.set q.reverse (.lit v)=tr')(hy:E s=jf (.lit v))
  (sd:(tr.single&&tr.locd q.reverse&&vT (.lit v) u0&&(r != s))=jh):Ok P Γ ⟨jg,.store t x (.tmp s),ty,ps,af,gd⟩ E (E.app [(r,jf tr')] [(r,q.length)]):=by
 simp only[J4]at sd;subst gv;intro S;have:=zLI (P:=P) (Γ:=Γ.at S) (E:=E) (o:=⟨jg,.store t x (.tmp s),ty,ps,af,gd⟩) t ti x (.tmp s) r q tr u0 (.slot s (.lit v)) rfl rfl hi (by rw[gr];rfl) (by omega) hx hr sd.1.1.1 hg sd.1.1.2 sd.1.2 (.slot s _)
  ⟨fun s' t' h=>by simp at h;obtain⟨rfl,rfl⟩:=h;exact⟨hy,by simp[zZ,yU],rfl⟩,by simp,by simp[xM,sE]⟩
 exact this
theorem yCT{t:TypeId}{tr:T}{v:Value}(hi:P.info? t=jf ti)(gr:ti.size=1)(hx:opT E x=jf (.addr r q))(hr:E r=jf tr)(hg:tr.get q.reverse=jf u0)(gv:tr.set q.reverse (.lit v)=tr')
  (sd:(tr.single&&tr.locd q.reverse&&vT (.lit v) u0&&(T.lit v).zOk)=jh)(hz:sF (.lit v)=v.cells.toList):Ok P Γ ⟨jg,.store t x (.const v),ty,ps,af,gd⟩ E (E.app [(r,jf tr')] [(r,q.length)]):=by
 simp only[J4]at sd;subst gv;intro S;have:=zLI (P:=P) (Γ:=Γ.at S) (E:=E) (o:=⟨jg,.store t x (.const v),ty,ps,af,gd⟩) t ti x (.const v) r q tr u0 (.zero (.lit v)) rfl rfl hi (by rw[gr];rfl) (by omega) hx hr sd.1.1.1 hg sd.1.1.2 sd.1.2 (.zero v _ hz)
  ⟨by simp,by grind,by simp[xM]⟩
 exact this
end
theorem zR.tr(d r:Nat)(u:T)(hd:E d=jf (.same r []))(hr:E r=jf u)(fb:zZ u)(sd:(u.single&&wP u&&u.okB [(d,1),(r,1)]&&(d != r))=jh):
  zR Γ E (E.app [(d,jf u),(r,jf (.same d []))] [(d,1),(r,1)]):=by
 simp only[J4]at sd
 rintro a w ⟨S,hS,hs⟩
 have gc:d≠r:=by grind
 have hg:∀t:T,t.get []=jf t:=fun t=>by rfl
 have:=zOi hs d [] r [] (.same r []) u u hd rfl hr (hg u) sd.1.1.1 fb gc (by simp[T.okB,kU]) sd.1.2 rfl sd.1.1.2;exact⟨S,hS,this⟩
theorem jI{α:Type}{f:α->T}(hf:∀x,zZ (f x)):(xs:List α)->yZ (xs.map f)
 | []=>trivial
 |x::xs=>⟨hf x,jI hf xs⟩
theorem zQq{α:Type}{f:α->T}{xs:List α}(hf:∀x,zZ (f x)):zZ (L k f xs):=by simp only[zZ,yU];grind[jI]
theorem zQr(n:Int):zZ (I n):=by simp[zZ,yU]
theorem zXW(b:Bool):zZ (B b):=by simp[zZ,yU]
section
variable {P:Program}{Γ:Ctx}{E:Env}{d:Nat}{x y:Operand}{ty:TypeId}{ps:String}{af:Array Edge}{gd:Option (Nat×Bool)}{m n c:Int}{xt yt:TypeId}
theorem zHr(hv:rng (m-n)=jf c)(hx:opT E x=jf (I m))(hy:opT E y=jf (I n))(sd:J6 d Γ.N=jh):Ok P Γ ⟨jf d,.binOp .sub xt x y yt,ty,ps,af,gd⟩ E (E.app [(d,jf (I c))] [(d,0)]):=by obtain⟨rfl,h⟩:=zCm hv;exact fun _=>tV .sub xt yt x y .i64 m n _ rfl rfl (yF sd) hx hy (by grind[zKh,zCl])
theorem yCU(hv:rng (m*n)=jf c)(hx:opT E x=jf (I m))(hy:opT E y=jf (I n))(sd:J6 d Γ.N=jh):Ok P Γ ⟨jf d,.binOp .mul xt x y yt,ty,ps,af,gd⟩ E (E.app [(d,jf (I c))] [(d,0)]):=by obtain⟨rfl,h⟩:=zCm hv;exact fun _=>tV .mul xt yt x y .i64 m n _ rfl rfl (yF sd) hx hy (by grind[zKh,zCl])
def vN(m n:Int):Option Int:=if n=0 then jg else rng (m.tdiv n)
def vD(m n:Int):Option Int:=if n=0 then jg else jf (m.tmod n)
theorem yCV(hv:vN m n=jf c)(hx:opT E x=jf (I m))(hy:opT E y=jf (I n))(sd:J6 d Γ.N=jh):Ok P Γ ⟨jf d,.binOp .quo xt x y yt,ty,ps,af,gd⟩ E (E.app [(d,jf (I c))] [(d,0)]):=by
 unfold vN at hv;split at hv
 ·cases hv
 ·rename_i h0
  obtain⟨rfl,h⟩:=zCm hv;exact fun _=>tV .quo xt yt x y .i64 m n _ rfl rfl (yF sd) hx hy (by simp only[zKh,h0,if_false,zCl h])
theorem yCW(hv:vD m n=jf c)(hx:opT E x=jf (I m))(hy:opT E y=jf (I n))(sd:J6 d Γ.N=jh):Ok P Γ ⟨jf d,.binOp .rem xt x y yt,ty,ps,af,gd⟩ E (E.app [(d,jf (I c))] [(d,0)]):=by
 unfold vD at hv;split at hv
 ·cases hv
 ·rename_i h0
  simp at hv;subst hv;exact fun _=>tV .rem xt yt x y .i64 m n _ rfl rfl (yF sd) hx hy (by simp only[zKh,h0,if_false])
theorem zZL(hx:opT E x=jf (I m))(hy:opT E y=jf (I n))(sd:J6 d Γ.N=jh):Ok P Γ ⟨jf d,.binOp .leq xt x y yt,ty,ps,af,gd⟩ E (E.app [(d,jf (B (decide (m<=n))))] [(d,0)]):=
 fun _=>tV .leq xt yt x y .i64 m n _ rfl rfl (yF sd) hx hy rfl
theorem zZM(hx:opT E x=jf (I m))(hy:opT E y=jf (I n))(sd:J6 d Γ.N=jh):Ok P Γ ⟨jf d,.binOp .gtr xt x y yt,ty,ps,af,gd⟩ E (E.app [(d,jf (B (decide (m> n))))] [(d,0)]):=
 fun _=>tV .gtr xt yt x y .i64 m n _ rfl rfl (yF sd) hx hy rfl
theorem yCX(hx:opT E x=jf (I m))(hy:opT E y=jf (I n))(sd:J6 d Γ.N=jh):Ok P Γ ⟨jf d,.binOp .geq xt x y yt,ty,ps,af,gd⟩ E (E.app [(d,jf (B (decide (m>=n))))] [(d,0)]):=
 fun _=>tV .geq xt yt x y .i64 m n _ rfl rfl (yF sd) hx hy rfl
theorem yCY(hx:opT E x=jf (I m))(hy:opT E y=jf (I n))(sd:J6 d Γ.N=jh):Ok P Γ ⟨jf d,.binOp .eql xt x y yt,ty,ps,af,gd⟩ E (E.app [(d,jf (B (m==n)))] [(d,0)]):=
 fun _=>tV .eql xt yt x y .i64 m n _ rfl rfl (yF sd) hx hy rfl
theorem zZN(hx:opT E x=jf (I m))(hy:opT E y=jf (I n))(sd:J6 d Γ.N=jh):Ok P Γ ⟨jf d,.binOp .neq xt x y yt,ty,ps,af,gd⟩ E (E.app [(d,jf (B (m != n)))] [(d,0)]):=
 fun _=>tV .neq xt yt x y .i64 m n _ rfl rfl (yF sd) hx hy rfl
theorem yCZ{b:Bool}(hx:opT E x=jf (B b))(sd:J6 d Γ.N=jh):Ok P Γ ⟨jf d,.unOp .not xt x,ty,ps,af,gd⟩ E (E.app [(d,jf (B (!b)))] [(d,0)]):=
 fun _=>yAL xt x b rfl rfl (yF sd) hx
theorem yDa(hv:rng (0-n)=jf c)(hx:opT E x=jf (I n))(sd:J6 d Γ.N=jh):Ok P Γ ⟨jf d,.unOp .neg xt x,ty,ps,af,gd⟩ E (E.app [(d,jf (I c))] [(d,0)]):=by
 obtain⟨rfl,h⟩:=zCm hv;have:=fun S=>yAM (P:=P) (Γ:=Γ.at S) (E:=E) (o:=⟨jf d,.unOp .neg xt x,ty,ps,af,gd⟩) xt x .i64 n rfl rfl (yF sd) hx
 rw[zCl h]at this;exact this
end
section
variable {P:Program}{Γ:Ctx}{E:Env}{d:Nat}{x y:Operand}{ty:TypeId}{ps:String}{af:Array Edge}{gd:Option (Nat×Bool)}
class zHs (P:Program) (t:TypeId) (u:outParam T):Prop where
 h:∃ti z,P.info? t=jf ti/\ti.zero=jf z/\u.zOk=jh/\sF u=z.cells.toList/\z.cells.size=u.size
theorem zQs{t:TypeId}(ht:zHs P t u)(sd:J6 d Γ.N=jh):Ok P Γ ⟨jf d,.alloc t,ty,ps,af,gd⟩ E (E.app [(d,jf (.ptr u))] [(d,0)]):=by obtain⟨ti,z,h1,h2,h3,h4,h5⟩:=ht.h;exact fun S=>zTC t ti z u rfl rfl (yF sd) h1 h2 h3 h4 h5
theorem zZO{s i:Nat}{t:T}(hs:E s=jf (.tup ts))(hi:ts[i]? =jf t)(sd:(J6 d Γ.N&&t.okTup&&(s != d)&&T.okB [(d,0)] (cpT s t [i]))=jh):
  Ok P Γ ⟨jf d,.extract (.tmp s) i,ty,ps,af,gd⟩ E (E.app [(d,jf (cpT s t [i]))] [(d,0)]):=by
 simp only[J4]at sd;exact fun S=>zOf s i ts t rfl rfl (yF sd.1.1.1) hs hi (zBh sd.1.1.2) (by grind) sd.2
theorem zCn{t:T}(hx:opT E x=jf t)(hp:zFX E x=jh)(sd:mvB Γ x t d=jh):Ok P Γ ⟨jf d,.nilCheck x,ty,ps,af,gd⟩ E (E.app [(d,jf (tC x t))] [(d,0)]):=by simp only[mvB,J4]at sd;exact fun S=>yAN x t rfl rfl (yF sd.1.1.1) hx hp (zBh sd.1.1.2) (zEv sd.1.2) sd.2
theorem zTZ{c:Operand}{b:Bool}{t:T}(hc:opT E c=jf (B b))(hx:opT E (if b then x else y)=jf t)(sd:mvB Γ (if b then x else y) t d=jh):Ok P Γ ⟨jf d,.pick c x y,ty,ps,af,gd⟩ E (E.app [(d,jf (tC (if b then x else y) t))] [(d,0)]):=by simp only[mvB,J4]at sd;exact fun S=>zXM c x y b t rfl rfl (yF sd.1.1.1) hc hx (zBh sd.1.1.2) (zEv sd.1.2) sd.2
theorem zZP{t:TypeId}{s:Nat}(hs:E s=jf u)(hu:zZ u)(sd:(J6 d Γ.N&&u.okTup&&(s != d))=jh):
  Ok P Γ ⟨jf d,.box t (.tmp s),ty,ps,af,gd⟩ E (E.app ((d,jf (.ptr u))::pWr d [.slot s u] 0) ((d,0)::sB [.slot s u])):=by
 simp only[J4]at sd;have gc:s≠d:=by grind
 refine fun S=>yAP t (.tmp s) (.slot s u) rfl rfl (yF sd.1.1) (.slot s u) ⟨by grind,by simp,?_⟩
 simp only[xM]
 grind
end
def yH{α:Type}(xs ys:List α):Option (List α):=if xs.length+ys.length<=68719476736 then jf (xs++ys)else jg
theorem zFx{α:Type}{xs ys zs:List α}(h:yH xs ys=jf zs):zs=xs++ys/\xs.length+ys.length<=68719476736:=by grind[yH]
section
variable {P:Program}{Γ:Ctx}{E:Env}{d:Nat}{x y:Operand}{ty:TypeId}{ps:String}{af:Array Edge}{gd:Option (Nat×Bool)}
theorem ElT.zsize{t:TypeId}(h:ElT P t e ti k u):∃z,ti.zero=jf z/\z.cells.size=k:=by obtain⟨z,h1,h2⟩:=h.zero;exact⟨z,h1,by rw[<-Km,<-h2,vU u h.zok,h.us]⟩
theorem zUa{α:Type}{t:TypeId}{f:α->T}{xs ys zs:List α}{s1:Nat}(ht:ElT P t e ti k u)(hv:yH xs ys=jf zs)(h0:E s0=jf (L k f xs))(h1:E s1=jf (L k f ys))(sd:(J6 d Γ.N&&(s0 != d)&&(s1 != d)&&(s1 != s0))=jh):
  Ok P Γ ⟨jf d,.call { callee:=.builtin .append,args:=#[.tmp s0,.tmp s1],argTypes:=#[t,t] },ty,ps,af,gd⟩ E (E.app [(d,jf (L k f zs)),(s0,jf .any),(s1,jf .any)] [(d,0),(s0,1),(s1,1)]):=by
 obtain⟨rfl,hl⟩:=zFx hv;obtain⟨z,hz,fR⟩:=ht.zsize;simp only[J4]at sd;intro S;have:=zKs (P:=P) (Γ:=Γ.at S) (E:=E) (o:=⟨jf d,.call { callee:=.builtin .append,args:=#[.tmp s0,.tmp s1],argTypes:=#[t,t] },ty,ps,af,gd⟩) t e ti z k s0 s1 (xs.map f) (ys.map f) rfl rfl (yF sd.1.1.1) ht.un ht.info hz ht.size ht.pos fR ht.bytes h0 h1
  (by grind) (by grind) (by grind) (by grind)
 rw[<-K6]at this;exact this
theorem zJp{α:Type}{f:α->T}(hf:∀x,(f x).flat=jh):(xs:List α)->kV (xs.map f)=jh
 | []=>rfl
 |x::xs=>by simp only[Ju,kV,hf x,zJp hf xs,Lp]
theorem zK2{α:Type}{t:TypeId}{f:α->T}{xs ys zs:List α}(ht:ElT P t e ti k u)(hf:∀x,(f x).flat=jh)(hv:yH xs ys=jf zs)(h0:E s0=jf (L k f xs))(h1:tD E y=jf (r,q,L k f ys))(sd:(J6 d Γ.N&&(s0 != d))=jh):
  Ok P Γ ⟨jf d,.call { callee:=.builtin .append,args:=#[.tmp s0,y],argTypes:=#[t,t] },ty,ps,af,gd⟩ E (E.app [(d,jf (L k f zs)),(s0,jf .any)] [(d,0),(s0,1)]):=by
 obtain⟨rfl,hl⟩:=zFx hv;obtain⟨z,hz,fR⟩:=ht.zsize;simp only[J4]at sd;intro S;have:=zKt (P:=P) (Γ:=Γ.at S) (E:=E) (o:=⟨jf d,.call { callee:=.builtin .append,args:=#[.tmp s0,y],argTypes:=#[t,t] },ty,ps,af,gd⟩) t e ti z k s0 y r q (xs.map f) (ys.map f) rfl rfl (yF sd.1) ht.un ht.info hz ht.size ht.pos fR ht.bytes h0 h1 (zJp hf ys)
  (by grind) (by grind)
 rw[<-K6]at this;exact this
end
abbrev IK(k:IntKind)(n:Int):T:=.lit (.int k n)
abbrev Str(s:ByteArray):T:=.lit (.string s)
abbrev Pt{α:Type}(f:α->T)(x:α):T:=.ptr (f x)
abbrev Ro{α:Type}(f:α->T)(x:α):T:=.ro (f x)
abbrev A2{α:Type}(f:α->T)(x:α×α):T:=.agg [f x.1,f x.2]
theorem bd{α β:Type}{o:Option α}{f:α->Option β}{r:β}(h:o.bind f=jf r):∃v,o=jf v/\f v=jf r:=by
 cases o with
 |none=>simp at h
 |some v=>grind
theorem cT{α:Type}{b:Bool}{x y:α}{z:α}(hc:b=jh)(h:cond b x y=z):x=z:=by grind
theorem cF{α:Type}{b:Bool}{x y:α}{z:α}(hc:b=ji)(h:cond b x y=z):y=z:=by grind
theorem sI{α:Type}{x y:α}(h:jf x=jf y):x=y:=Hm.inj h
section
variable {P:Program}{Γ:Ctx}{pn:sH}{E E':Env}{Q:Exit->Env->Prop}{c:Code}{id id':Nat}
theorem nA(h:CW P Γ pn c E Q):yR P Γ pn c Q .normal E:=h
theorem xA(h:Q (.exit id) E):yR P Γ pn c Q (.exit id) E:=h
theorem rA(h:Q .ret E):yR P Γ pn c Q .ret E:=h
theorem nB(h:Q .normal E):yT id Q .normal E:=h
theorem rB(h:Q .ret E):yT id Q .ret E:=h
theorem xB(h:Q .normal E):yT id Q (.exit id) E:=by simp only[yT,if_true];exact h
theorem neX:Exit.exit id≠.normal:=by simp
theorem neR:Exit.ret≠.normal:=by simp
theorem RW.cases{ops:Array Oper}{os:List Oper}(s:Nat)(b:Bool)(hb:E s=jf (B b))(ht:b=jh->RW P Γ pn ops os (E.app [(s,jf (B jh))] []) Q)(hf:b=ji->RW P Γ pn ops os (E.app [(s,jf (B ji))] []) Q):RW P Γ pn ops os E Q:=by
 have key:∀c:Bool,b=c->zR Γ E (E.app [(s,jf (B c))] []):=by
  rintro c rfl a w hs
  refine hs.weaken fun s' t h=>?_
  by_cases e:s=s'
  ·grind[Env.app,Wr.find]
  ·simp only[Env.app,Wr.find,e,if_false]at h
   grind
 cases hc:b with
 |true=>grind[ghost]
 |false=>grind[ghost]
end
theorem yB{α:Type}{f:α->T}{xs:List α}{v:α}{p:List Nat}(h:ixO xs i=jf v)(hr:(f v).get p=jf u):(L k f xs).get (i.toNat::p)=jf u:=by simp[T.get,(uL h).2,hr]
theorem wR{t:T}{p:List Nat}(h:t.get p=jf u):(T.ptr t).get (0::p)=jf u:=h
theorem wS{xs:List T}{x:T}{p:List Nat}(hj:xs[j]? =jf x)(h:x.get p=jf u):(T.agg xs).get (j::p)=jf u:=by grind[T.get]
theorem zHt{α:Type}{f:α->T}{xs:List α}{v w:α}{p:List Nat}(h:ixO xs i=jf v)(hr:(f v).set p u=f w):(L k f xs).set (i.toNat::p) u=L k f (xs.set i.toNat w):=by simp[L,T.set,(uL h).2,hr,Uk]
theorem zDj{t t':T}{p:List Nat}(h:t.set p u=t'):(T.ptr t).set (0::p) u=T.ptr t':=by simp[T.set,h]
class Enc {α:Type} (f:α->T):Prop where
 clean:∀x,zZ (f x)
 rofree:∀x,vA (f x)=jh
 strip:∀x,strip (f x)=f x
 okTup:∀x,(f x).okTup=jh
 rook:∀x,zFq (f x)=jh
theorem zHu{α:Type}{f:α->T}(h:∀x,vA (f x)=jh):(xs:List α)->vV (xs.map f)=jh
 | []=>rfl
 |x::xs=>by simp only[Ju,vV,h x,zHu h xs,Lp]
theorem zHv{α:Type}{f:α->T}(h:∀x,zFq (f x)=jh):(xs:List α)->zBc (xs.map f)=jh
 | []=>rfl
 |x::xs=>by simp only[Ju,zBc,h x,zHv h xs,Lp]
theorem tG{α:Type}{f g:α->T}(h:∀x,strip (f x)=g x):(xs:List α)->wU (xs.map f)=xs.map g
 | []=>rfl
 |x::xs=>by simp only[Ju,wU,h x,tG h xs]
instance:Enc I:=⟨zQr,fun _=>rfl,fun _=>rfl,fun _=>rfl,fun _=>rfl⟩
instance:Enc B:=⟨zXW,fun _=>rfl,fun _=>rfl,fun _=>rfl,fun _=>rfl⟩
instance{k:IntKind}:Enc (IK k):=⟨fun _=>by simp[zZ,yU],fun _=>rfl,fun _=>rfl,fun _=>rfl,fun _=>rfl⟩
instance:Enc Str:=⟨fun _=>by simp[zZ,yU],fun _=>rfl,fun _=>rfl,fun _=>rfl,fun _=>rfl⟩
instance{α:Type}{k:Nat}{f:α->T}[h:Enc f]:Enc (L k f):=
 ⟨fun _=>zQq h.clean,fun xs=>by simp only[vA];exact zHu h.rofree xs,fun xs=>by simp only[L,strip,tG h.strip xs],fun _=>rfl,fun xs=>by simp only[zFq,zHv h.rook xs]⟩
instance{α:Type}{f:α->T}[h:Enc f]:Enc (A2 f):=
 ⟨fun x=>by simp only[zZ,yU,xP];exact⟨h.clean _,h.clean _,trivial⟩,fun x=>by simp only[vA,vV,h.rofree,Lp],fun x=>by simp only[A2,strip,wU,h.strip],
  fun x=>by simp only[T.okTup,yM,h.okTup,Lp],fun x=>by simp only[zFq,zBc,h.rook,Lp]⟩
instance{α:Type}{f:α->T}[h:Enc f]:Enc (Pt f):=
 ⟨fun x=>by simp only[zZ,yU];exact h.clean x,fun x=>by simp only[vA,h.rofree],fun x=>by simp only[Pt,strip,h.strip],fun _=>rfl,fun x=>by simp only[zFq,h.rook]⟩
class uG {α:Type} (f g:α->T):Prop where
 h:∀x,strip (f x)=g x
instance{α:Type}{f:α->T}[h:Enc f]:uG f f:=⟨h.strip⟩
instance{α:Type}{k:Nat}{f g:α->T}[h:uG f g]:uG (L k f) (L k g):=⟨fun xs=>by simp only[L,strip,tG h.h xs]⟩
instance{α:Type}{k:Nat}{g:α->T}:uG (Ro (L k g)) (L k g):=⟨fun _=>rfl⟩
instance{α:Type}{g:α->T}:uG (Ro (Pt g)) (Pt g):=⟨fun _=>rfl⟩
theorem stA{xs ys:List T}(h:wU xs=ys):strip (.agg xs)=.agg ys:=by grind[strip]
theorem stC{x y:T}{xs ys:List T}(h:strip x=y)(h2:wU xs=ys):wU (x::xs)=y::ys:=by grind[wU]
section
variable {E:Env}{rw:Rw}{i s r:Nat}{q:List Nat}{x:Operand}
theorem zUb{α:Type}{f g:α->T}{xs:List α}(h:uG f g):clo E (L k f xs)=.ro (L k g xs):=by simp only[clo,L,strip,tG h.h xs]
theorem zUc{t:T}(h:strip t=u):clo E (.ptr t)=.ro (.ptr u):=by grind[clo,strip]
theorem zBi{tr:T}(hr:E r=jf tr)(hg:tr.get q.reverse=jf u)(h4:kZ u=jh):qK E 4 r q=jf (r,q,u):=by grind[kZ,qK]
theorem zOn{α:Type}{f g:α->T}{xs:List α}{tr:T}(hr:E r=jf tr)(hg:tr.get q.reverse=jf (L k f xs))(h:uG f g):clo E (.same r q)=.ro (L k g xs):=by simp only[clo,zBi hr hg rfl,T.single,if_true,L,strip,tG h.h xs]
theorem yDb{t tr:T}(hr:E r=jf tr)(hg:tr.get q.reverse=jf (.ptr t))(h:strip t=u):clo E (.same r q)=.ro (.ptr u):=by simp only[clo,zBi hr hg rfl,T.single,if_true,strip,h]
theorem yAQ{α:Type}{l h:Nat}{f g:α->T}{xs:List α}{tr:T}(hr:E r=jf tr)(hg:tr.get q.reverse=jf (L k f xs))(hs:uG f g)(h1:l<=h)(h2:h<=xs.length):clo E (.sub r q k l h)=.ro (L k g ((xs.drop l).take (h-l))):=by simp only[clo,zBi hr hg rfl,L,tG hs.h xs,Jf,h1,h2,and_self,if_true,Jbn,Uw]
theorem yDc{xs ys:List T}(h:zBe E xs=ys):clo E (.agg xs)=.agg ys:=by grind[clo]
theorem yFi:zBe E []=[]:=rfl
theorem yDd{x y:T}{xs ys:List T}(h:clo E x=y)(h2:zBe E xs=ys):zBe E (x::xs)=y::ys:=by grind[zBe]
mutual
theorem zJq(s:Nat):(t:T)->t.okTup=jh->sU E [] s t=jh
 |.agg xs,h=>by simp only[sU,T.okTup]at h ⊢;exact zHw s xs h
 |.tup _,h=>by grind[T.okTup]
 |.same r q,_|.sub r q _ _ _,_=>by grind[sU]
 |.sl _ _,_|.ptr _,_=>by rfl
 |.lit _,_|.ro _,_|.any,_|.addr _ _,_=>by rfl
theorem zHw(s:Nat):(xs:List T)->yM xs=jh->zAn E [] s xs=jh
 | [],_=>rfl
 |x::xs,h=>by simp only[yM,J4]at h;simp only[zAn,zJq s x h.1,zHw s xs h.2,Lp]
end
theorem agC(t:T)(h:opT E x=jf t)(h1:clo E t=u)(h2:t.okTup=jh):zBf E [] i x u:=.inr ⟨t,h,h1,by
 cases x with
 |tmp s=>exact zJq s t h2
 |_=>rfl⟩
end
section
variable {P:Program}{Γ:Ctx}{E:Env}{d:Nat}{x y:Operand}{ty:TypeId}{ps:String}{af:Array Edge}{gd:Option (Nat×Bool)}
abbrev zBj(res:List T):Prop:=yZ res/\yM res=jh/\vV res=jh
theorem zFy:zBj []:=⟨trivial,rfl,rfl⟩
theorem zMa{α:Type}{f:α->T}{x:α}(h:Enc f)(h2:zBj ts):zBj (f x::ts):=
 ⟨⟨h.clean x,h2.1⟩,by simp only[yM,h.okTup,h2.2.1,Lp],by simp only[vV,h.rofree,h2.2.2,Lp]⟩
abbrev kQ(P:Program)(f:FuncId):Prop:=∀args w,(callFunc f args).run P w=.ok (.enter f args) w
theorem zOo{f:FuncId}{xs:List Operand}{res:List T}(gn:kQ P f)(hc:FnC P f us res [])(gj:xK E [] 0 xs us)(gw:zBj res)(sd:J6 d Γ.N=jh):
  Ok P Γ ⟨jf d,.call { callee:=.value (.func f),args:=xs.toArray,argTypes:=ats },ty,ps,af,gd⟩ E (E.app (cWr d res []) (uC d [])):=
 fun _S=>zKy f (.func f) xs ats us res [] rfl rfl (yF sd) gn rfl hc gj .nil gw
theorem zXX{f:FuncId}{xs:List Operand}{res:List T}(gn:kQ P f)(hc:FnC P f us res [])(gf:xs.length=us.length)(gj:∀(i:Nat) u,us[i]? =jf u-> ∃x,xs[i]? =jf x/\opT E x=jf u/\u.flat=jh)(gw:yZ res/\yM res=jh)(sd:J6 d Γ.N=jh):
  Ok P Γ ⟨jf d,.call { callee:=.value (.func f),args:=xs.toArray,argTypes:=ats },ty,ps,af,gd⟩ E (E.app (cWr d res []) (uC d [])):=
 fun _S=>zTO f (.func f) xs ats us res rfl rfl (yF sd) gn rfl hc gf gj gw
class sJ (P:Program) (S:TypeId) (j:Nat) (off:outParam Nat):Prop where
 h:∃fs f fi,P.underlying S=jf (.struct fs)/\fs[j]? =jf f/\P.info? f.type=jf fi/\fi.size≠0/\off=f.offset
theorem yDe{S:TypeId}{xs:List T}(ht:sJ P S j off)(hx:tD E x=jf (r,q,.ptr (.agg xs)))(hu:xs[j]? =jf u)(gB:T.sizes (xs.take j)=off)(sd:J6 d Γ.N=jh):
  Ok P Γ ⟨jf d,.fieldAddr S x j,ty,ps,af,gd⟩ E (E.app [(d,jf (.addr r (j::0::q)))] [(d,0)]):=by
 obtain⟨fs,f,fi,h1,h2,h3,h4,h5⟩:=ht.h;exact fun _=>yCO x S fs f fi j r q xs u rfl rfl (yF sd) h1 h2 h3 h4 hx hu
theorem yDf{S:TypeId}{t:T}{xs:List T}(ht:sJ P S j off)(hx:opT E x=jf (.addr r q))(hr:E r=jf t)(hg:t.get q.reverse=jf (.agg xs))(hu:xs[j]? =jf u)(gB:T.sizes (xs.take j)=off)(sd:(J6 d Γ.N&&t.locd q.reverse)=jh):
  Ok P Γ ⟨jf d,.fieldAddr S x j,ty,ps,af,gd⟩ E (E.app [(d,jf (.addr r (j::q)))] [(d,0)]):=by
 obtain⟨fs,f,fi,h1,h2,h3,h4,h5⟩:=ht.h;simp only[J4]at sd;exact fun _=>zOd x S fs f fi j r q t xs u rfl rfl (yF sd.1) h1 h2 h3 h4 hx hr hg sd.2 hu
theorem zUd{S:TypeId}{xs:List T}(ht:sJ P S j off)(hx:opT E x=jf (.ro (.ptr (.agg xs))))(hu:xs[j]? =jf u)(gB:T.sizes (xs.take j)=off)(sd:J6 d Γ.N=jh):
  Ok P Γ ⟨jf d,.fieldAddr S x j,ty,ps,af,gd⟩ E (E.app [(d,jf (.ro (.ptr u)))] [(d,0)]):=by
 obtain⟨fs,f,fi,h1,h2,h3,h4,h5⟩:=ht.h;exact fun _=>zT4 x S fs f fi j xs u rfl rfl (yF sd) h1 h2 h3 h4 hx hu
def zS{α:Type}(xs:List α)(l h:Int):Option (List α):=if 0<=l/\l<=h/\h<=(xs.length:Int)then jf ((xs.drop l.toNat).take (h.toNat-l.toNat))else jg
theorem yDg{α:Type}{t:TypeId}{f:α->T}{xs ys:List α}{lo hi:Option Operand}(ht:zAN P t e ti k)(hv:zS xs l h=jf ys)(hx:tD E x=jf (r,q,.ro (L k f xs)))(eK:zB1 E lo 0 l.toNat)(fy:zB1 E hi xs.length h.toNat)(sd:J6 d Γ.N=jh):
  Ok P Γ ⟨jf d,.slice t x lo hi jg,ty,ps,af,gd⟩ E (E.app [(d,jf (.ro (L k f ys)))] [(d,0)]):=by
 unfold zS at hv;split at hv
 ·rename_i hc
  simp at hv;subst hv;intro S;have:=zLC (P:=P) (Γ:=Γ.at S) (E:=E) (o:=⟨jf d,.slice t x lo hi jg,ty,ps,af,gd⟩) x lo hi t e ti r q k (xs.map f) l.toNat h.toNat rfl rfl (yF sd) ht.un ht.info ht.size hx eK (by grind) (by omega) (by simp;omega);simpa[L,Jbn,Uw]using this
 ·cases hv
theorem zUe{α:Type}{t:TypeId}{f:α->T}{xs ys:List α}{lo hi:Option Operand}(ht:zAN P t e ti k)(hv:zS xs l h=jf ys)(hx:tD E x=jf (r,q,L k f xs))(eK:zB1 E lo 0 l.toNat)(fy:zB1 E hi xs.length h.toNat)(sd:(J6 d Γ.N&&(r != d))=jh):
  Ok P Γ ⟨jf d,.slice t x lo hi jg,ty,ps,af,gd⟩ E (E.app [(d,jf (.sub r q k l.toNat h.toNat))] [(d,0)]):=by
 unfold zS at hv;simp only[J4]at sd;split at hv
 ·rename_i hc
  intro S;exact zKl (P:=P) (Γ:=Γ.at S) (E:=E) (o:=⟨jf d,.slice t x lo hi jg,ty,ps,af,gd⟩) x lo hi t e ti r q k (xs.map f) l.toNat h.toNat rfl rfl (yF sd.1) ht.un ht.info ht.size hx eK (by grind) (by omega) (by simp;omega) (by grind)
 ·cases hv
end
theorem yL{t:T}(h:zZ t):zZ t:=h
theorem xE{α:Type}{f:α->T}{xs:List α}(hf:∀x,zZ (f x)):zZ (L k f xs):=zQq hf
theorem zAq{t:T}(h:zZ t):zZ (.ptr t):=by simpa only[zZ,yU]using h
theorem zOp{xs:List T}(h:yZ xs):zZ (.agg xs):=by simpa only[zZ,yU]using h
section
variable {P:Program}{Γ:Ctx}{pn:sH}{E E':Env}{Q:Exit->Env->Prop}{c c1 c2:Code}{x:Operand}
theorem CW.condT(hx:opT E x=jf (B jh))(h:CW P Γ pn c1 E Q):CW P Γ pn (.cond x c1 c2) E Q:=by grind[CW.cond]
theorem CW.condF(hx:opT E x=jf (B ji))(h:CW P Γ pn c2 E Q):CW P Γ pn (.cond x c1 c2) E Q:=by grind[CW.cond]
theorem zHx{chg:Chg}{s:Nat}{t:T}(h:E s=jf t)(hf:wr.find s=jg:=by rfl)(hb:t.okB chg=jh:=by rfl):E.app wr chg s=jf t:=by grind[Env.app]
theorem wF.gh{ops:Array Oper}{o:Oper}(hg:zR Γ E E1)(h:wF P Γ ops o E1 E'):wF P Γ ops o E E':=fun a w K Q hs hK=>h a w K Q (hg a w hs) hK
theorem zHy{t:T}(h:opT E x=jf (.ro (.ptr t))):zFX E x=jh:=by simp[zFX,h]
theorem zFz{t:T}(h:tD E x=jf (r,q,.ptr t)):zFX E x=jh:=by grind[zFX]
end
theorem yDh{n:Nat}:zB1 E jg n (n:Int).toNat:=by simp[zB1]
theorem yDi:zB1 E jg 0 (0:Int).toNat:=by simp[zB1]
theorem yAR{n:Int}(h0:0<=n)(h:opT E x=jf (I n)):zB1 E (jf x) d n.toNat:=⟨.i64,by grind⟩
theorem uU{α:Type}{xs ys:List α}(hv:zS xs l h=jf ys):0<=l/\l<=h/\h<=xs.length/\ys=(xs.drop l.toNat).take (h.toNat-l.toNat):=by grind[zS]
theorem zJr{α:Type}{xs ys:List α}(hv:zS xs l h=jf ys):0<=l:=(uU hv).1
theorem zJs{α:Type}{xs ys:List α}(hv:zS xs l h=jf ys):0<=h:=by have:=uU hv;omega
theorem zXY{α:Type}{f g:α->T}{xs ys:List α}{tr:T}(hr:E r=jf tr)(hg:tr.get q.reverse=jf (L k f xs))(hs:uG f g)(hv:zS xs l h=jf ys):
  clo E (.sub r q k l.toNat h.toNat)=.ro (L k g ys):=by
 obtain⟨h1,h2,h3,rfl⟩:=uU hv
 grind[yAQ]
section
variable {P:Program}{Γ:Ctx}{E E':Env}{d:Nat}{x y:Operand}{ty:TypeId}{ps:String}{af:Array Edge}{gd:Option (Nat×Bool)}
theorem yDj{t:TypeId}{tr:T}(ht:zTY P t u)(hx:tD E x=jf (r,q,.ptr t0))(hr:E r=jf tr)(hg:tr.get (0::q).reverse=jf u)(sd:(J6 d Γ.N&&tr.locd (0::q).reverse&&(r != d)&&T.okB [(d,0)] (cpT r u (0::q)))=jh):
  Ok P Γ ⟨jf d,.load t x,ty,ps,af,gd⟩ E (E.app [(d,jf (cpT r u (0::q)))] [(d,0)]):=by
 obtain⟨ds,ti,h1,h2,h3,h4⟩:=ht.h;simp only[J4]at sd;exact fun S=>zL9 x t ds ti r (0::q) tr u rfl rfl (yF sd.1.1.1) h1 h2 h3 h4 (zBO.ptr hx) hr hg sd.1.1.2 (by grind) sd.2
theorem zZQ{t:TypeId}{s:Nat}{tr:T}(hi:P.info? t=jf ti)(gr:(ti.size==u.size&&J6 0 ti.size)=jh)(hx:∀S,zBO (Γ.at S) E x r q)(hr:E r=jf tr)(hg:tr.get q.reverse=jf u0)(gv:tr.set q.reverse u=tr')(hy:E s=jf u)(hu:zZ u)
  (sd:(tr.single&&tr.locd q.reverse&&vT u u0&&(r != s)&&u.okTup)=jh):Ok P Γ ⟨jg,.store t x (.tmp s),ty,ps,af,gd⟩ E (E.app ((r,jf tr')::sWr r q (.slot s u)) ((r,q.length)::sB [.slot s u])):=by
 simp only[J4]at sd gr;subst gv;intro S;refine zJc (P:=P) (Γ:=Γ.at S) (E:=E) (o:=⟨jg,.store t x (.tmp s),ty,ps,af,gd⟩) t ti x (.tmp s) r q tr u0 (.slot s u) rfl rfl hi (by grind[yS.tree]) (yF gr.2) (hx S) hr sd.1.1.1.1 hg sd.1.1.1.2 sd.1.1.2 (.slot s _)
  ⟨by grind,by simp,?_⟩
 grind[xM]
theorem zRM{t:TypeId}{s:Nat}{tr:T}(hi:P.info? t=jf ti)(gr:(ti.size==u.size&&J6 0 ti.size)=jh)(hx:opT E x=jf (.addr r q))(hr:E r=jf tr)(hg:tr.get q.reverse=jf u0)(gv:tr.set q.reverse u=tr')(hy:E s=jf u)(hu:zZ u)
  (sd:(tr.single&&tr.locd q.reverse&&vT u u0&&(r != s)&&u.okTup)=jh):Ok P Γ ⟨jg,.store t x (.tmp s),ty,ps,af,gd⟩ E (E.app ((r,jf tr')::sWr r q (.slot s u)) ((r,q.length)::sB [.slot s u])):=
 zZQ hi gr (fun _=>zBO.addr hx) hr hg gv hy hu sd
theorem zZR{t:TypeId}{s:Nat}{tr:T}(hi:P.info? t=jf ti)(gr:(ti.size==u.size&&J6 0 ti.size)=jh)(hx:tD E x=jf (r,q,.ptr t0))(hr:E r=jf tr)(hg:tr.get (0::q).reverse=jf u0)(gv:tr.set (0::q).reverse u=tr')(hy:E s=jf u)(hu:zZ u)
  (sd:(tr.single&&tr.locd (0::q).reverse&&vT u u0&&(r != s)&&u.okTup)=jh):Ok P Γ ⟨jg,.store t x (.tmp s),ty,ps,af,gd⟩ E (E.app ((r,jf tr')::sWr r (0::q) (.slot s u)) ((r,(0::q).length)::sB [.slot s u])):=
 zZQ hi gr (fun _=>zBO.ptr hx) hr hg gv hy hu sd
theorem zHz{G:Gh}{s:Nat}:(xs:List T)->yM xs=jh-> ∀(p:List Nat)(i j:Nat)(u:T),xs[j]? =jf u-> ∃l1 l2,yE G s xs p i=l1++vals G s u ((i+j)::p)++l2/\l1.length=T.sizes (xs.take j)
 | [],_,_,_,_,_,h=>by simp at h
 |x::xs,ht,p,i,j,u,h=>by
  simp only[yM,J4]at ht;cases j with
  |zero=>simp at h;subst h;exact⟨[],yE G s xs p (i+1),by rfl,by rfl⟩
  |succ j=>
   obtain⟨l1,l2,h1,h2⟩:=zHz xs ht.2 p (i+1) j u (by grind);refine⟨vals G s x (i::p)++l1,l2,by rw[yE,h1,show i+(j+1)=i+1+j from by omega];simp,?_⟩;rw[J5,vL x _ (by rintro ys rfl;grind[T.okTup]),h2,L5,T.sizes]
theorem yDk{S:TypeId}{s:Nat}{xs:List T}(ht:sJ P S j off)(hv:∃ds ti fs f,P.underlying S=jf (.struct fs)/\fs[j]? =jf f/\P.underlying f.type=jf ds/\P.info? f.type=jf ti/\zFl ds= !u.single/\ti.size=u.size)(hx:E s=jf (.agg xs))(hu:xs[j]? =jf u)(gB:T.sizes (xs.take j)=off)
  (sd:(J6 d Γ.N&&yM xs&&u.okTup&&(s != d)&&T.okB [(d,0)] (cpT s u [j]))=jh):
  Ok P Γ ⟨jf d,.field S (.tmp s) j,ty,ps,af,gd⟩ E (E.app [(d,jf (cpT s u [j]))] [(d,0)]):=by
 obtain⟨fs,f,fi,h1,h2,h3,h4,h5⟩:=ht.h;obtain⟨ds,ti,fs',f',g1,g2,g3,g4,g5,g6⟩:=hv;simp only[J4]at sd;rw[h1]at g1;simp at g1;subst g1;rw[h2]at g2;simp at g2;subst g2;rw[h3]at g4;simp at g4;subst g4;intro S';refine xZ.value rfl fun a w G g9=>?_
 obtain⟨k1,k2,_⟩:=g9.ent s _ hx;simp only[R]at k2;have k3:=zAL xs [] 0 j u k2 hu;simp only[Ji]at k3;have gc:s≠d:=by grind
 have hJ:∀ys,u≠.tup ys:=zBh sd.1.1.2;have hk:=G.put_keep (w:=w) (w':=w) rfl d (fun z=>G.hd s (z++[j]));have hz:∀z,(G.put d (fun z=>G.hd s (z++[j]))).hd d (z++[])=G.hd s (z++[j]):=by grind[Gh.put_self]
 refine⟨sD G s u [j],w,?_,_,vE g9 rfl (yF sd.1.1.1.1) (fun z=>G.hd s (z++[j])) (fun z=>g9.mem.one _ _) _ _ (by grind[zAk])
  (zD8 (fun p=>G.put_other _ p gc) u [j] [] hz hJ (hk.keepR (by grind[kW,qD])) k3) (qD s u [j])⟩
 obtain⟨l1,l2,e1,e2⟩:=zHz (G:=G) (s:=s) xs sd.1.1.1.2 [] 0 j u hu;simp only[Ji]at e1;have e3:l1.length=f.offset:=by omega
 have e4:=vL (G:=G) (s:=s) u [j] hJ;have aH:(part f.type (yE G s xs [] 0).toArray f.offset).run P w=.ok (sD G s u [j]) w:=by
  rw[e1];cases u with
  |agg ys=>
   simp[T.single]at g5;simp only[vals,T.size]at e4 g6 ⊢
   simp[part,qP g3,g5,sizeOf,typeInfo,h3,sD]
   grind
  |tup ys=>grind
  |_=>
   simp[T.single]at g5;simp[part,qP g3,g5,sD,vals,<-e3]
 simp[execOp,xW k1,mkV,Instr.field,run_underlying h1,h2,asAgg,aH]
theorem zQt{α:Type}{t:TypeId}{n:Nat}{a:Int}{f:α->T}{z:α}(ht:ElT P t e ti k u)(hz:f z=u)(hn:yG a=jf n)(hx:opT E x=jf (I a))(hy:opT E y=jf (I a))(sd:J6 d Γ.N=jh):
  Ok P Γ ⟨jf d,.makeSlice t x y,ty,ps,af,gd⟩ E (E.app [(d,jf (L k f (J1 n z)))] [(d,0)]):=by
 have:=zTW (P:=P) (Γ:=Γ) (E:=E) (d:=d) (ty:=ty) (ps:=ps) (af:=af) (gd:=gd) ht hn hx hn hy (Je _) sd;rw[<-hz]at this;simpa[L]using this
theorem zUf{t:TypeId}(ht:ElT P t e ti k u)(sd:J6 d Γ.N=jh):Ok P Γ ⟨jf d,.buildSlice t 0 #[],ty,ps,af,gd⟩ E (E.app [(d,jf (.sl k []))] [(d,0)]):=
 fun _=>zHa t e ti k rfl rfl (yF sd) ht.un ht.info
theorem zXZ{P:Program}{w:World}{t:TypeId}{a b:Bool}(n:Nat)(h:P.underlying t=jf .bool):(Op.equalIn (n+1) t (.bool a) (.bool b)).run P w=.ok (a==b) w:=by simp only[Op.equalIn,Sem.run_bind,run_underlying h];rfl
theorem zEw(t:TypeId)(x y:Value):Op.equal t x y=Op.equalIn (9999+1) t x y:=rfl
theorem yAS{a b:Bool}(hu:P.underlying xt=jf .bool)(hx:opT E x=jf (B a))(hy:opT E y=jf (B b))(sd:J6 d Γ.N=jh):Ok P Γ ⟨jf d,.binOp .neq xt x y yt,ty,ps,af,gd⟩ E (E.app [(d,jf (B (a != b)))] [(d,0)]):=by
 intro S;refine kN _ rfl rfl (yF sd) fun c w G g9=>?_
 have h1:=(xY g9 hx).1;have h2:=(xY g9 hy).1;have h3:=zXZ (P:=P) (w:=w) (a:=a) (b:=b) 9999 hu;simp[execOp,h1,h2,eqGuard,binOp,zEw,h3,bne]
theorem zG9{P:Program}{w:World}{t:TypeId}{k:IntKind}{a b:Int}(n:Nat)(h:P.underlying t=jf (.int k)):(Op.equalIn (n+1) t (.int k a) (.int k b)).run P w=.ok (a==b) w:=by simp only[Op.equalIn,Sem.run_bind,run_underlying h];simp
end
def zB4:List Nat->Bool
 | []=>jh
 |x::xs=> !xs.contains x&&zB4 xs
theorem zF0:{l:List Nat}->zB4 l=jh->l.Nodup
 | [],_=>by simp
 |x::xs,h=>by simp only[zB4,J4,Gv,H9,decide_eq_false_iff_not]at h;exact La.2 ⟨h.1,zF0 h.2⟩
def zB5(E:Env):List yS->Prop
 | []=>True
 |.slot s t::l=>(E s=jf t/\zZ t/\t.okTup=jh)/\zB5 E l
 |.zero u::l=>u.zOk=jh/\zB5 E l
theorem zB5.get{E:Env}:(l:List yS)->zB5 E l->(∀s t,yS.slot s t∈l->E s=jf t/\zZ t/\t.okTup=jh)/\ ∀u,yS.zero u∈l->u.zOk=jh
 | [],_=>⟨fun _ _ h=>by simp at h,fun _ h=>by simp at h⟩
 |.slot s t::l,h=>by
  obtain⟨h1,h2⟩:=zB5.get l h.2;exact⟨fun s' t' hm=>by
   rcases J9.1 hm with e|hm
   ·cases e;exact h.1
   ·exact h1 s' t' hm,fun u hm=>by
   rcases J9.1 hm with e|hm
   ·cases e
   ·exact h2 u hm⟩
 |.zero u::l,h=>by
  obtain⟨h1,h2⟩:=zB5.get l h.2;exact⟨fun s' t' hm=>by
   rcases J9.1 hm with e|hm
   ·cases e
   ·exact h1 s' t' hm,fun u' hm=>by
   rcases J9.1 hm with e|hm
   ·cases e;exact h.1
   ·exact h2 u' hm⟩
section
variable {E:Env}
theorem pkN:zB5 E []:=trivial
theorem pkS{s:Nat}{t:T}{l:List yS}(h:E s=jf t)(hc:zZ t)(h3:t.okTup=jh)(hl:zB5 E l):zB5 E (.slot s t::l):=⟨⟨h,hc,h3⟩,hl⟩
theorem pkZ{l:List yS}(h:u.zOk=jh)(hl:zB5 E l):zB5 E (.zero u::l):=⟨h,hl⟩
theorem zB5.parts{l:List yS}(h:zB5 E l)(hn:zB4 (d::xM l)=jh):tK E d l:=⟨(zB5.get l h).1,(zB5.get l h).2,zF0 hn⟩
def zBV(E:Env)(zs:List T)(ps:List yS):List (Nat×Operand)->List (Nat×yS)->Prop
 | [],[]=>True
 |x::xs,q::qs=>(x.1=q.1/\kO E x.2 q.2/\ps[q.1]? =jf q.2/\ ∃u,zs[q.1]? =jf u/\u.size=q.2.tree.size)/\zBV E zs ps xs qs
 |_,_=>False
theorem bqN{zs:List T}{ps:List yS}:zBV E zs ps [] []:=trivial
theorem bqC{zs:List T}{ps:List yS}{i:Nat}{q:yS}{xs:List (Nat×Operand)}{qs:List (Nat×yS)}(h:kO E x q)(hl:zBV E zs ps xs qs)(h1:ps[i]? =jf q:=by rfl)(h2:∃u,zs[i]? =jf u/\u.size=q.tree.size:=by exact⟨_,rfl,rfl⟩):zBV E zs ps ((i,x)::xs) ((i,q)::qs):=⟨⟨rfl,h,h1,h2⟩,hl⟩
theorem zBV.ix{zs:List T}{ps:List yS}:(pl:List (Nat×Operand))->(qs:List (Nat×yS))->zBV E zs ps pl qs->pl.map (·.1)=qs.map (·.1)
 | [],[],_=>rfl
 |x::xs,q::qs,h=>by simp[h.1.1,zBV.ix xs qs h.2]
 | [],_::_,h=>by simp[zBV]at h
 |_::_,[],h=>by simp[zBV]at h
theorem zBV.get{zs:List T}{ps:List yS}:(pl:List (Nat×Operand))->(qs:List (Nat×yS))->zBV E zs ps pl qs-> ∀(j:Nat)(x:Nat×Operand)(q:Nat×yS),pl[j]? =jf x->qs[j]? =jf q->kO E x.2 q.2/\q.2∈ps/\ ∃u,zs[q.1]? =jf u/\u.size=q.2.tree.size
 | [],[],_,j,_,_,h,_=>by simp at h
 |x::xs,q::qs,h,j,x',q',h1,h2=>by
  cases j with
  |zero=>simp at h1 h2;subst h1;subst h2;exact⟨h.1.2.1,Lu h.1.2.2.1,h.1.2.2.2⟩
  |succ j=>exact zBV.get xs qs h.2 j x' q' (by simpa using h1) (by simpa using h2)
 | [],_::_,h,_,_,_,_,_=>by simp[zBV]at h
 |_::_,[],h,_,_,_,_,_=>by simp[zBV]at h
end
class zGv (P:Program) (t:TypeId) (zs:outParam (List T)):Prop where
 h:∃(place:Nat->Option (Nat×Nat))(z:Value),(∀parts,P.built t parts=Instr.fill place z.cells parts)/\sW zs=z.cells.toList/\kX zs=jh/\ ∀i u,zs[i]? =jf u->place i=jf (T.sizes (zs.take i),u.size)
section
variable {P:Program}{Γ:Ctx}{E E':Env}{d:Nat}{x y:Operand}{ty:TypeId}{ps:String}{af:Array Edge}{gd:Option (Nat×Bool)}
theorem zQu{t:TypeId}{zs:List T}{pa:Array (Nat×Operand)}(hb:zGv P t zs)(pl:List (Nat×Operand))(qs:List (Nat×yS))(pp:List yS)(gz:zB5 E pp)(hq:zBV E zs pp pl qs)(sd:(J6 d Γ.N&&zB4 (d::xM pp))=jh)
  (fH:pa=pl.toArray:=by rfl)(gT:qs.foldl (fun ps q=>ps.set q.1 q.2) (zs.map yS.zero)=pp:=by rfl):Ok P Γ ⟨jf d,.build t pa,ty,ps,af,gd⟩ E (E.app ((d,jf (.agg (pp.map yS.tree)))::pWr d pp 0) ((d,0)::sB pp)):=by
 obtain⟨place,z,h1,h2,h3,h4⟩:=hb.h;simp only[J4]at sd;subst fH;exact fun S=>zTD t place z zs pl qs pp rfl rfl (yF sd.1) h1 h2 h3 h4 gT (gz.parts sd.2) (zBV.ix _ _ hq) (zBV.get _ _ hq)
def zMb(k:Nat):List yS->Bool
 | []=>jh
 |p::l=>(p.tree.size==k)&&zMb k l
theorem zMc{k:Nat}:(l:List yS)->zMb k l=jh-> ∀p∈l,p.tree.size=k
 | [],_,_,h=>by simp at h
 |p::l,h,q,hm=>by
  simp only[zMb,J4,beq_iff_eq]at h;rcases J9.1 hm with rfl|hm
  ·exact h.1
  ·exact zMc l h.2 q hm
theorem zOq{t:TypeId}{n:Nat}{pa:Array (Nat×Operand)}(ht:ElT P t e ti k u)(xs:List Operand)(pp:List yS)(ys:List α)(f:α->T)(hx:uP E xs pp)(gz:zB5 E pp)
  (sd:(J6 d Γ.N&&zB4 (d::xM pp)&&zMb k pp&&J6 0 n&&Nat.ble (n*k) 65536)=jh)(hn:xs.length=n)(fH:pa=((xs.zipIdx 0).map fun x=>(x.2,x.1)).toArray:=by rfl)(hy:pp.map yS.tree=ys.map f:=by rfl):
  Ok P Γ ⟨jf d,.buildSlice t n pa,ty,ps,af,gd⟩ E (E.app ((d,jf (L k f ys))::pWr d pp 0) ((d,0)::sB pp)):=by
 obtain⟨z,hz,_⟩:=ht.zero;simp only[J4]at sd;subst fH;intro S;have fd:n*k<=65536:=by simpa[Nat.ble_eq]using sd.2
 have:=zID (P:=P) (Γ:=Γ.at S) (E:=E) (o:=⟨jf d,.buildSlice t n ((xs.zipIdx 0).map fun x=>(x.2,x.1)).toArray,ty,ps,af,gd⟩) t e ti z k n xs pp rfl rfl (yF sd.1.1.1.1) ht.un ht.info hz ht.size ht.pos hn (yF sd.1.2) (by omega) hx (gz.parts sd.1.1.1.2) (zMc pp sd.1.1.2);rw[hy]at this;exact this
theorem zMd{α:Type}{f g:α->T}(h:∀y,roT (g y)=f y):(ys:List α)->roT.roTs (ys.map g)=ys.map f
 | []=>rfl
 |y::ys=>by simp only[Ju,roT.roTs,h y,zMd h ys]
theorem zH0{α:Type}{t:TypeId}{f g:α->T}{xs ys zs:List α}(ht:ElT P t e ti k u)(ml:∀y,roT (g y)=f y)(gr:∀y,(g y).size=k)(hg:Enc g)(hv:yH xs ys=jf zs)(h0:E s0=jf (L k f xs))(h1:tD E y=jf (r,q,.ro (L k g ys)))(sd:(J6 d Γ.N&&(s0 != d))=jh):
  Ok P Γ ⟨jf d,.call { callee:=.builtin .append,args:=#[.tmp s0,y],argTypes:=#[t,t] },ty,ps,af,gd⟩ E (E.app [(d,jf (L k f zs)),(s0,jf .any)] [(d,0),(s0,1)]):=by
 obtain⟨rfl,hl⟩:=zFx hv;obtain⟨z,hz,fR⟩:=ht.zsize;simp only[J4]at sd;intro S;have:=zKu (P:=P) (Γ:=Γ.at S) (E:=E) (o:=⟨jf d,.call { callee:=.builtin .append,args:=#[.tmp s0,y],argTypes:=#[t,t] },ty,ps,af,gd⟩) t e ti z k s0 y r q (xs.map f) (ys.map g) rfl rfl (yF sd.1) ht.un ht.info hz ht.size ht.pos fR ht.bytes h0 h1 (zHv hg.rook ys)
  (by intro v hv;obtain⟨y,_,rfl⟩:=Jc.1 hv;exact gr y) (by simpa using sd.2) (by simpa using hl)
 rw[zMd ml,<-K6]at this;exact this
def wK{α:Type}(xs:List α)(m:Int)(z:α):Option (List α):=if 0<=m/\xs.length+m.toNat<=68719476736 then jf (xs++J1 m.toNat z)else jg
theorem zUg{α:Type}{t t2:TypeId}{k2:IntKind}{f:α->T}{z:α}{xs zs:List α}(ht:ElT P t e ti k u)(aw:P.underlying t2=jf (.int k2))(hz:f z=u)(hv:wK xs m z=jf zs)(h0:E s0=jf (L k f xs))(h1:opT E y=jf (I m))(sd:(J6 d Γ.N&&(s0 != d))=jh):
  Ok P Γ ⟨jf d,.call { callee:=.builtin .append,args:=#[.tmp s0,y],argTypes:=#[t,t2] },ty,ps,af,gd⟩ E (E.app [(d,jf (L k f zs)),(s0,jf .any)] [(d,0),(s0,1)]):=by
 unfold wK at hv;split at hv
 ·rename_i hc
  simp at hv;subst hv;obtain⟨zv,mR,eW⟩:=ht.zero;simp only[J4]at sd;obtain⟨n,rfl⟩:∃n:Nat,m=n:=⟨m.toNat,by omega⟩;intro S;have:=zHi (P:=P) (Γ:=Γ.at S) (E:=E) (o:=⟨jf d,.call { callee:=.builtin .append,args:=#[.tmp s0,y],argTypes:=#[t,t2] },ty,ps,af,gd⟩) t t2 e k2 ti zv u k s0 y .i64 n (xs.map f) rfl rfl (yF sd.1) ht.un aw ht.info mR ht.size ht.pos ht.bytes ht.zok eW ht.us h0 h1
   (by simpa using sd.2) (by simp at hc ⊢;omega)
  have e:xs.map f++J1 n u=(xs++J1 n z).map f:=by simp[hz]
  rw[e]at this;have h2:((n:Int)).toNat=n:=by simp
  rw[h2];exact this
 ·cases hv
end
section
variable {Γ:Ctx}{E:Env}
theorem zR.trq(d r:Nat)(q:List Nat){tr:T}(hd:E d=jf (.same r q))(hr:E r=jf tr)(hg:tr.get q.reverse=jf u)(fb:zZ u)(sd:(u.single&&wP tr&&tr.okB [(d,1),(r,q.length+1)]&&(d != r))=jh)(gv:(if q=[]then .same d []else tr.set q.reverse .any)=tr':=by rfl):
  zR Γ E (E.app [(d,jf u),(r,jf tr')] [(d,1),(r,q.length+1)]):=by
 simp only[J4]at sd
 rintro a w ⟨S,hS,hs⟩
 have gc:d≠r:=by simpa using sd.2
 have:=zOi hs d [] r q (.same r q) tr u hd rfl hr hg sd.1.1.1 fb gc (by simp[T.okB,kU,gc]) sd.1.2 rfl sd.1.1.2;subst gv;exact⟨S,hS,this⟩
theorem zR.trf(d:Nat)(g:List Nat)(r:Nat)(q:List Nat)(td tr:T){td':T}(hd:E d=jf td)(mi:td.get g.reverse=jf (.same r q))(hr:E r=jf tr)(hg:tr.get q.reverse=jf u)(gv:td.set g.reverse u=td')(fb:zZ u)
  (sd:(u.single&&wP td&&wP tr&&td.okB [(d,g.length+1),(r,q.length+1)]&&tr.okB [(d,g.length+1),(r,q.length+1)]&&(d != r))=jh)(pB:(if q=[]then .same d g else tr.set q.reverse .any)=tr':=by rfl):
  zR Γ E (E.app [(d,jf td'),(r,jf tr')] [(d,g.length+1),(r,q.length+1)]):=by
 simp only[J4]at sd
 rintro a w ⟨S,hS,hs⟩
 have gc:d≠r:=by simpa using sd.2
 have:=zOi hs d g r q td tr u hd mi hr hg sd.1.1.1.1.1 fb gc sd.1.1.2 sd.1.2 sd.1.1.1.1.2 sd.1.1.1.2;subst gv pB;exact⟨S,hS,this⟩
theorem zR.frz(s:Nat){g:α->T}(xs:List α)(hs:E s=jf (L k f xs))(h:uG f g):zR Γ E (E.app [(s,jf (.ro (L k g xs)))] [(s,1)]):=by have:=zR.freeze (Γ:=Γ) s _ hs;simp only[vM,strip,tG h.h xs]at this;exact this
theorem zR.res(d r:Nat)(q:List Nat)(tr:T)(hd:E d=jf (.same r q))(hr:E r=jf tr)(hg:tr.get q.reverse=jf (.ro u)):zR Γ E (E.app [(d,jf (.ro u))] []):=by
 rintro a w ⟨S,hS,gJ,G,g9⟩
 refine⟨S,hS,gJ,G,?_⟩;have hk:sM [] G w G w:=⟨fun _ _ _=>rfl,fun _ _ _=>rfl,fun _ _ _ _ _ _ h _=>⟨h,rfl⟩,fun _ _ _ h _=>h,fun b cs e h=>⟨cs,h,rfl⟩⟩;refine wW g9 rfl hk g9.mem (fun s _=>⟨fun n hn=>by simp at hn,rfl⟩) fun s t hs=>?_
 simp only[Wr.find]at hs;split at hs
 ·rename_i e;subst e
  simp at hs;subst hs;obtain⟨h1,h2,_⟩:=g9.ent d _ hd;obtain⟨_,h4,_⟩:=g9.ent r _ hr;simp only[R]at h2;have h5:=(zA3 q.reverse tr _ [] h4 hg).1;simp only[rp,Ki,Jh,R]at h5;exact⟨by rw[h1];rfl,by simp only[R];rw[h2];exact h5,by simp[Top]⟩
 ·cases hs
end
theorem zK3:(p:List Nat)-> ∀(t u0 a:T),t.get p=jf u0->(t.set p a).get p=jf a
 | [],t,_,a,_=>by cases t<;>cases a<;>rfl
 |i::p,t,u0,a,h=>by
  cases t with
  |sl k xs|agg xs|tup xs=>
   simp only[T.get,T.set]at h ⊢
   cases hx:xs[i]? with
   |none=>rw[hx]at h;cases h
   |some x=>
    rw[hx]at h;have hi:=(Jm.1 hx).1;simp only[];simp only[T.get,Jaj hi];exact zK3 p x u0 a h
  |ptr t=>
   simp only[T.get,T.set]at h ⊢
   split at h
   ·rename_i e;subst e;simp only[if_true,T.get];exact zK3 p t u0 a h
   ·cases h
  |_=>simp[T.get]at h
theorem set_set:(p:List Nat)-> ∀(t u0 a b:T),t.get p=jf u0->(t.set p a).set p b=t.set p b
 | [],t,_,a,_,_=>by cases t<;>cases a<;>rfl
 |i::p,t,u0,a,b,h=>by
  cases t with
  |sl k xs|agg xs|tup xs=>
   simp only[T.get,T.set]at h ⊢
   cases hx:xs[i]? with
   |none=>rw[hx]at h;cases h
   |some x=>
    rw[hx]at h;have hi:=(Jm.1 hx).1;simp only[];simp only[T.set,Jaj hi,Jax,set_set p x u0 a b h]
  |ptr t=>
   simp only[T.get,T.set]at h ⊢
   split at h
   ·rename_i e;subst e;simp only[if_true,T.set,set_set p t u0 a b h]
   ·cases h
  |_=>simp[T.get]at h
def kE:T->Bool
 |.sl _ _|.ptr _=>jh
 |_=>ji
theorem zUh{t:T}(h:kE t=jh)(p:List Nat)(hp:p≠[]):kE (t.set p u)=jh:=by
 cases p with
 |nil=>exact absurd rfl hp
 |cons i p=>cases t<;>simp[kE]at h<;>simp only[T.set]<;>split<;>rfl
theorem tE{t:T}(h:kE t=jh)(chg:Chg):t.okB chg=jh/\wP t=jh/\t.single=jh:=by cases t<;>simp[kE]at h<;>simp[T.okB,wP,T.single]
section
variable {P:Program}{Γ:Ctx}{E E':Env}{d:Nat}{ty:TypeId}{ps:String}{af:Array Edge}{gd:Option (Nat×Bool)}
theorem agM{E:Env}{i:Nat}(t:T)(h:opT E x=jf t)(h1:clo E t=u)(h2:zJg E (rw.map (·.2.1)) x t=jh):zBf E rw i x u:=.inr ⟨t,h,h1,h2⟩
theorem zH1{E:Env}{i s:Nat}(h:E s=jf u)(hc:zZ u)(hr:vA u=jh)(hs:u.okTup=jh:=by rfl)(hm:(i,s,u')∈rw:=by exact List.mem_singleton.2 rfl):zBf E rw i (.tmp s) u:=.inl ⟨s,u',rfl,hm,h,hc,hs,hr⟩
abbrev vR(E:Env)(ds r:Nat)(q:List Nat)(tr u:T):Env:=E.app [(ds,jf u),(r,jf (if q=[]then .same ds []else tr.set q.reverse .any))] [(ds,1),(r,q.length+1)]
theorem zQv{f:FuncId}{xs:List Operand}{res:List T}{tr:T}(i ds r:Nat)(q:List Nat)(gn:kQ P f)(hc:FnC P f us res [(i,u')])(hs:E ds=jf (.same r q))(hr:E r=jf tr)(hq:tr.get q.reverse=jf u)
  (fb:zZ u)(eT:zZ u')(_:vA u=jh)(b7:vA u'=jh)(gj:xK (vR E ds r q tr u) [(i,ds,u')] 0 xs us)(gw:zBj res)(gv:tr.set q.reverse u'=tr')
  (sd:(J6 d Γ.N&&(d != ds)&&(d != r)&&(ds != r)&&kE u&&kE u'&&kE tr)=jh)(hx:xs[i]? =jf (.tmp ds))(hu:us[i]? =jf u):
  Ok P Γ ⟨jf d,.call { callee:=.value (.func f),args:=xs.toArray,argTypes:=ats },ty,ps,af,gd⟩ E ((((vR E ds r q tr u).app (cWr d res [(i,ds,u')]) (uC d [(i,ds,u')]))).app [(r,jf tr'),(ds,jf (.same r q))] [(r,q.length+1),(ds,1)]):=by
 simp only[J4]at sd;obtain⟨⟨⟨⟨⟨⟨s1,s2⟩,s3⟩,s4⟩,s5⟩,s6⟩,s7⟩:=sd;have d1:d≠ds:=by simpa using s2
 have d2:d≠r:=by simpa using s3
 have d3:ds≠r:=by simpa using s4
 obtain⟨u1,u2,u3⟩:=tE s5 [];obtain⟨v1,v2,v3⟩:=tE s6 [];have bi:cLv u'=1:=by simp[cLv,v3]
 subst gv;intro S
 by_cases pF:q=[]
 ·subst pF
  have htu:tr=u:=by
   have:tr.get []=jf tr:=by cases tr<;>rfl
   simp only[Hw]at hq;rw[this]at hq;exact Hm.inj hq
  subst htu;have mz:∀a b:T,a.set [] b=b:=fun a b=>by cases a<;>rfl
  have bK:(vR E ds r [] tr tr) ds=jf tr:=by simp[vR,Env.app,Wr.find]
  have pU:((vR E ds r [] tr tr).app (cWr d res [(i,ds,u')]) (uC d [(i,ds,u')])) r=jf (.same ds []):=by
   have h1:(vR E ds r [] tr tr) r=jf (.same ds []):=by simp[vR,Env.app,Wr.find,d3]
   have h2:(cWr d res [(i,ds,u')]).find r=jg:=by simp[cWr,Wr.find,d2,d3]
   have h3:(T.same ds []).okB (uC d [(i,ds,u')])=jh:=by simp[T.okB,kU,uC,d1,bi]
   simp only[Env.app,h2,h1,h3,if_true]
  have pV:((vR E ds r [] tr tr).app (cWr d res [(i,ds,u')]) (uC d [(i,ds,u')])) ds=jf u':=by simp[Env.app,Wr.find,cWr,d1]
  have:=zLV (P:=P) (Γ:=Γ.at S) (E:=E) (o:=⟨jf d,.call { callee:=.value (.func f),args:=xs.toArray,argTypes:=ats },ty,ps,af,gd⟩) f (.func f) xs ats us res i ds r [] tr tr u' rfl rfl (yF s1) gn rfl hs hr hq u3 fb d3 d2 (tE s7 _).1 (tE s7 []).2.1
   (vR E ds r [] tr tr) _ rfl rfl hc gj (.one d1 hx eT v3 b7 bK u3 hu) gw (.same ds []) (.same ds []) pU rfl rfl pV eT v3 (by simp[T.okB,kU]) rfl (tE s6 _).1 v2
  rw[Hw,mz]at this ⊢
  exact this
 ·have uz:q.reverse≠[]:=by simpa using pF
  have bK:(vR E ds r q tr u) ds=jf u:=by simp[vR,Env.app,Wr.find]
  have j8:=zUh s7 q.reverse (u:=.any) uz;have pU:((vR E ds r q tr u).app (cWr d res [(i,ds,u')]) (uC d [(i,ds,u')])) r=jf (tr.set q.reverse .any):=by
   have h1:(vR E ds r q tr u) r=jf (tr.set q.reverse .any):=by simp[vR,Env.app,Wr.find,d3,pF]
   have h2:(cWr d res [(i,ds,u')]).find r=jg:=by simp[cWr,Wr.find,d2,d3]
   simp[Env.app,h2,h1,(tE j8 _).1]
  have pV:((vR E ds r q tr u).app (cWr d res [(i,ds,u')]) (uC d [(i,ds,u')])) ds=jf u':=by simp[Env.app,Wr.find,cWr,d1]
  have:=zLV (P:=P) (Γ:=Γ.at S) (E:=E) (o:=⟨jf d,.call { callee:=.value (.func f),args:=xs.toArray,argTypes:=ats },ty,ps,af,gd⟩) f (.func f) xs ats us res i ds r q tr u u' rfl rfl (yF s1) gn rfl hs hr hq u3 fb d3 d2 (tE s7 _).1 (tE s7 []).2.1
   (vR E ds r q tr u) _ rfl rfl hc gj (.one d1 hx eT v3 b7 bK u3 hu) gw (tr.set q.reverse .any) .any pU (zK3 _ _ _ _ hq) rfl pV eT v3 (tE j8 _).1 (tE j8 []).2.1 (tE s6 _).1 v2
  rw[set_set _ _ _ _ _ hq]at this;exact this
theorem zGA{f:FuncId}{xs:List Operand}{res:List T}{xf:Operand}(hf:opT E xf=jf (.lit (.func (.func f) #[] #[])))(gn:kQ P f)(hc:FnC P f us res [])(gj:xK E [] 0 xs us)(gw:zBj res)(sd:J6 d Γ.N=jh):
  Ok P Γ ⟨jf d,.call { callee:=.value xf,args:=xs.toArray,argTypes:=ats },ty,ps,af,gd⟩ E (E.app (cWr d res []) (uC d [])):=
 fun _=>zKy f xf xs ats us res [] rfl rfl (yF sd) gn hf hc gj .nil gw
def zDK(E:Env):List Operand->List T->Prop
 | [],[]=>True
 |x::xs,u::us=>(opT E x=jf u/\u.flat=jh)/\zDK E xs us
 |_,_=>False
theorem afN:zDK E [] []:=trivial
theorem afC{xs:List Operand}(h:opT E x=jf u)(h1:u.flat=jh)(h2:zDK E xs us):zDK E (x::xs) (u::us):=⟨⟨h,h1⟩,h2⟩
theorem zDK.get:(xs:List Operand)->(us:List T)->zDK E xs us-> ∀(i:Nat) u,us[i]? =jf u-> ∃x,xs[i]? =jf x/\opT E x=jf u/\u.flat=jh
 | [],[],_,i,u,h=>by simp at h
 |x::xs,v::us,h,i,u,hi=>by
  cases i with
  |zero=>simp at hi;subst hi;exact⟨x,by simp,h.1⟩
  |succ i=>obtain⟨y,h1,h2⟩:=zDK.get xs us h.2 i u (by simpa using hi);exact⟨y,by simpa using h1,h2⟩
 | [],_::_,h,_,_,_=>by simp[zDK]at h
 |_::_,[],h,_,_,_=>by simp[zDK]at h
theorem zGB{f:FuncId}{xs:List Operand}{res:List T}(gn:kQ P f)(hc:FnC P f us res [])(ha:zDK E xs us)(gf:xs.length=us.length)(gw:yZ res)(cC:yM res=jh)(sd:J6 d Γ.N=jh):
  Ok P Γ ⟨jf d,.call { callee:=.value (.func f),args:=xs.toArray,argTypes:=ats },ty,ps,af,gd⟩ E (E.app (cWr d res []) (uC d [])):=
 zXX gn hc gf (zDK.get _ _ ha) ⟨gw,cC⟩ sd
end
noncomputable def zCo {α:Type} (g:Nat->Option α):Option α:=
 open Classical in if h:∃r,∃n,∀m,n<=m->g m=jf r then jf h.choose else jg
theorem qL{α:Type}{g:Nat->Option α}{r:α}(h:zCo g=jf r):∃n,g n=jf r:=by
 unfold zCo at h;split at h
 ·rename_i he
  simp at h;obtain⟨n,hn⟩:=he.choose_spec;exact⟨n,by rw[<-h];exact hn n (Je _)⟩
 ·cases h
theorem zAr{α:Type}{g:Nat->Option α}{r:α}(n:Nat)(h:∀m,n<=m->g m=jf r):zCo g=jf r:=by have he:∃r,∃n,∀m,n<=m->g m=jf r:=⟨r,n,h⟩;unfold zCo;rw[dif_pos he];obtain⟨n',hn'⟩:=he.choose_spec;have h1:=h (max n n') (by omega);have h2:=hn' (max n n') (by omega);rw[h1]at h2;exact h2.symm
section
variable {P:Program}{Γ:Ctx}{ops:Array Oper}{o:Oper}{E:Env}
theorem wF.skipW(hd:o.dst=jf d)(sd:J6 d Γ.N=jh)(hw:∀(a:Act)(w:World),qJ Γ E a w->Region.wanted o (yielded ops a.tmps)=ji):wF P Γ ops o E (E.app [(d,jf (.tup []))] [(d,0)]):=by
 intro a w K Q hs hK;rw[if_neg (by grind)];obtain⟨S,hS,gJ,G,g9⟩:=hs;refine hK _ _ ⟨S,hS,by rw[hd];exact gJ,G.put d (fun _=>.bool ji),?_⟩ ?_
 ·rw[hd]
  have hu:(Value.bool ji).oneCell'=jh:=rfl;refine wW g9 (by simp[Act.put]) (G.put_keep rfl d _) (g9.mem.put rfl d _ fun _=>hu) ?_ ?_
  ·grind[uB,Act.put]
  ·intro s t' hs
   rw[uB]at hs;split at hs
   ·rename_i e;subst e
    simp at hs;subst hs;have gr:=g9.size;have gC:=yF sd;refine⟨?_,by simp[R,RF],by simp[Top,uK]⟩
    grind[Act.put,mkV,jY,undef]
   ·cases hs
 grind[Act.put]
theorem wF.skip2(g:Nat)(b b':Bool)(s:Nat)(hd:o.dst=jf d)(sd:J6 d Γ.N=jh)(fx:(b==b')=ji)(hg:o.guard=jf (g,b))(fm:(ops[g]?).bind (·.dst)=jf s)(hb:E s=jf (.lit (.bool b'))):
  wF P Γ ops o E (E.app [(d,jf (.tup []))] [(d,0)]):=.skipW hd sd fun a w hs=>by
 simp only[Region.wanted,hg,zHl hs fm hb]
 grind
theorem wF.skip3(g:Nat)(b:Bool)(s:Nat)(hd:o.dst=jf d)(sd:J6 d Γ.N=jh)(hg:o.guard=jf (g,b))(fm:(ops[g]?).bind (·.dst)=jf s)(hb:E s=jf (.tup [])):
  wF P Γ ops o E (E.app [(d,jf (.tup []))] [(d,0)]):=.skipW hd sd fun a w hs=>by
 obtain⟨_,_,_,G,hr⟩:=hs;obtain⟨h1,_,_⟩:=hr.ent s _ hb
 grind[Region.wanted,yielded,mkV]
theorem wF.opE(h:Ok P Γ o E E1)(e:E1=E')(hg:o.guard=jg:=by rfl):wF P Γ ops o E E':=e▸wF.op h hg
end
def vK(Γ:Ctx)(P:Program)(rs:Array ResultVar)(us res:List T)(rws:List (Nat×T)):Exit->Env->Prop:=fun e E=> ∃E',zR Γ E E'/\yCQ P rs us res rws e E'
theorem FnC.of_bodyG{f:FuncId}{res:List T}(hf:P.funcs[f]? =jf fn)(hb:fn.body=jf c)(hn:us.length<=fn.ntmps)(ht:uK us)(hr:rws.all (fun x=>decide (x.1<us.length))=jh)
  (h:∀(Γ:Ctx)(v:Nat->Value),Γ.N=fn.ntmps->CW P Γ (zCk v (rws.map (·.1))) c (vW (zIE 0 us)) (vK Γ P fn.results us res rws)):FnC P f us res rws:=by
 refine FnC.of_body hf hb hn ht hr fun Γ v hN=>?_
 intro a w Q' hs hp hQ;refine h Γ v hN a w Q' hs hp ?_
 rintro e E a' w' ⟨E',hg,hq⟩ gF cP
 exact hQ e E' a' w' hq (hg a' w' gF) cP
def zYa(t:T):Prop:=zZ t/\vA t=jh/\strip t=t/\t.okTup=jh/\zFq t=jh
def zUi:List T->Prop
 | []=>True
 |x::xs=>zYa x/\zUi xs
theorem Enc.t(h:Enc f)(x:α):zYa (f x):=⟨h.clean x,h.rofree x,h.strip x,h.okTup x,h.rook x⟩
theorem Enc.of{α:Type}{f:α->T}(h:∀x,zYa (f x)):Enc f:=⟨fun x=>(h x).1,fun x=>(h x).2.1,fun x=>(h x).2.2.1,fun x=>(h x).2.2.2.1,fun x=>(h x).2.2.2.2⟩
theorem zMe{xs:List T}(h:zUi xs):zYa (.agg xs):=by
 have key:∀xs:List T,zUi xs->yZ xs/\vV xs=jh/\wU xs=xs/\yM xs=jh/\zBc xs=jh:=by
  intro xs
  induction xs with
  |nil=>intro _;exact⟨trivial,rfl,rfl,rfl,rfl⟩
  |cons x xs ih=>
   rintro⟨⟨h1,h2,h3,h4,h5⟩,h⟩
   obtain⟨g1,g2,g3,g4,g5⟩:=ih h;exact⟨⟨h1,g1⟩,by grind[vV],by grind[wU],by grind[yM],by grind[zBc]⟩
 obtain⟨g1,g2,g3,g4,g5⟩:=key xs h;exact⟨zOp g1,by grind[vA],by grind[strip],by grind[T.okTup],by grind[zFq]⟩
section
variable {Γ:Ctx}{E:Env}{d:Nat}
def Gh.cut(G:Gh)(d s0 b lo hi:Nat)(v:Value):Gh where
 hd s z:=if s=d then(if z=[]then v else G.hd s0 z)else G.hd s z
 ad s z:=if s=d then G.ad s0 z else G.ad s z
 lb b' o:=if b'=b/\lo<=o/\o<hi then jf (jh,d,[])else match G.lb b' o with
  |some (f,s,z)=>if s=s0 then jf (f,d,z)else jf (f,s,z)
  |none=>jg
 ow b':=match G.ow b' with
  |some (s,z)=>if s=s0 then jf (d,z)else jf (s,z)
  |none=>jg
theorem zQw{w:World}(g9:Rep Γ E G tmps w)(hd:d<Γ.N){h cap':Nat}{xs:List T}(ep:E s0=jf (.sl k xs))(gc:s0≠d)(hk:0<k)
  {b cap:Nat}{cs:Array Value}(h1:G.hd s0 []=.slice (jf ⟨b,o0,jg⟩) xs.length cap)(h2:w.heap[b]? =jf (.cells cs e (0,0)))(_h3:xs.length<=cap)(h4:cap<=maxLen)(h5:o0+cap*k<=cs.size)(h6:G.ow b=jf (s0,[]))
  (h7:∀o,o0+xs.length*k<=o->o<o0+cap*k->G.lb b o=jf (jh,s0,[]))(h8:RL Γ.St G w s0 xs [] 0 b o0 k)(hh:h<=xs.length)(hc:h<=cap')(po:cap'<=cap):
  ∃G',Rep Γ (E.app [(d,jf (.sl k (xs.take h))),(s0,jf .any)] [(d,0),(s0,1)]) G' (tmps.setIfInBounds d (.slice (jf ⟨b,o0,jg⟩) h cap')) w:=by
 have hm:=g9.mem;obtain⟨e1,_,e3⟩:=g9.ent s0 _ ep
 let v:Value:=.slice (jf ⟨b,o0,jg⟩) h cap'
 let G':=G.cut d s0 b (o0+h*k) (o0+cap'*k) v
 have gH:=hm.ow b _ h6;have mM:∀o f z i,o0+h*k<=o->o<o0+cap'*k->G.lb b o=jf (f,s0,z++[i])->h<=i:=by
  intro o f z i cR cG hl;obtain⟨o,rfl⟩:∃o',o=o0+o':=⟨o-o0,by have:o0<=o0+h*k:=Nat.le_add_right _ _;omega⟩
  replace cR:h*k<=o:=by omega
  by_cases ho:o<xs.length*k
  ·have hj:o/k<xs.length:=(H6 hk).2 ho
   obtain⟨g1,g2,_⟩:=sV xs [] 0 b o0 k (o/k) xs[o/k] h8 (by simp[hj]);obtain⟨y,hy⟩:=zKo xs[o/k] _ b _ (o%k) g1 (by rw[g2];exact Hu _ hk);rw[Ji,Ha,Nat.mul_comm,Lx,hl]at hy;simp only[Hm.injEq,Jah.injEq]at hy;have:=hy.2.2;have hi:i=o/k:=by have:=congrArg List.getLast? this;simpa using this
   rw[hi];exact(Nat.le_div_iff_mul_le hk).2 cR
  ·have:=h7 (o0+o) (by omega) (by have:=Kc k po;omega)
   rw[hl]at this;simp at this
 have glb:∀b' o f z,G.lb b' o=jf (f,s0,z)-> ¬(b'=b/\o0+h*k<=o/\o<o0+cap'*k)->G'.lb b' o=jf (f,d,z):=fun b' o f z hl hn=>by show(if _ then _ else _)=_;rw[if_neg hn];simp[hl]
 have gow:∀b' z,G.ow b'=jf (s0,z)->G'.ow b'=jf (d,z):=fun b' z hl=>by simp[G',Gh.cut,hl]
 have mv:∀i,i<h->zGR G w G' w s0 [i] d [i]:=fun i hi=>by
  have hn:∀b' o f z,G.lb b' o=jf (f,s0,z++[i])-> ¬(b'=b/\o0+h*k<=o/\o<o0+cap'*k):=by
   rintro b' o f z hl ⟨rfl,cR,cG⟩
   have:=mM o f z i cR cG hl;omega
  refine⟨⟨fun z=>by simp[G',Gh.cut],fun z _=>by simp[G',Gh.cut],fun b' o f z _ _ hl=>⟨glb _ _ _ _ hl (hn _ _ _ _ hl),rfl⟩,fun b' z _ hl=>gow _ _ hl,fun b' cs' e' hb=>⟨cs',hb,rfl⟩⟩,fun b' o _ hl=>⟨glb _ _ _ _ hl (hn b' o jh [] (by simpa using hl)),rfl⟩,fun b' hl=>gow _ _ hl⟩
 have gu:sM [(d,0),(s0,1)] G w G' w:=by
  refine⟨fun s p ho=>?_,fun s p ho=>?_,fun b' o f s p gV hl hs=>?_,fun b' s p hl hs=>?_,fun b' cs' e' hb=>⟨cs',hb,rfl⟩⟩
  ·have:s≠d:=fun e=>absurd (ho 0 (by simp[e])) (by simp)
   simp[G',Gh.cut,this]
  ·have:s≠d:=fun e=>absurd (ho 0 (by simp[e])) (by simp)
   simp[G',Gh.cut,this]
  ·have eI:s≠s0:=fun e=>hs 1 (by simp[e])
   obtain⟨y,hy⟩:=gV;have fx:b'≠b:=by
    rintro rfl
    rw[h6]at hy;simp at hy;exact eI hy.1.symm
   refine⟨?_,rfl⟩;show(if _ then _ else _)=_;rw[if_neg (fun hn=>fx hn.1)];simp[hl,eI]
  ·have eI:s≠s0:=fun e=>hs 1 (by simp[e])
   simp[G',Gh.cut,hl,eI]
 have gp:Mem Γ G' w:=by
  refine⟨fun s z=>?_,fun b' o l hl=>?_,fun b' l hl=>?_,hm.st,hm.fr,hm.sz,hm.bk⟩
  ·show(if _ then _ else _:Value).oneCell'=jh
   split
   ·split
    ·rfl
    ·exact hm.one _ _
   ·exact hm.one _ _
  ·change(if _ then _ else _)=_ at hl
   split at hl
   ·rename_i hn;rw[hn.1];exact gH
   ·cases hg:G.lb b' o with
    |none=>simp[hg]at hl
    |some x=>exact hm.lb b' o x hg
  ·cases hg:G.ow b' with
   |none=>simp[G',Gh.cut,hg]at hl
   |some x=>exact hm.ow b' x hg
 refine⟨G',wW g9 (by simp) gu gp ?_ ?_⟩
 ·intro s hs
  have fI:s≠d:=by rintro rfl;simp[Wr.find]at hs
  have fJ:s≠s0:=by rintro rfl;simp[Wr.find,gc.symm]at hs
  exact⟨fun n hn=>by simp at hn;rcases hn with h|h;exact fI h.1;exact fJ h.1,by rw[Jj];simp[fI.symm]⟩
 ·intro s t' hs
  by_cases eI:s=d
  ·subst eI
   simp[Wr.find]at hs;subst hs;have gf:(xs.take h).length=h:=by simp;omega
   simp only[Top]at e3;have iD:∀ys:List T,yZ ys-> ∀n,yZ (ys.take n):=by
    intro ys
    induction ys with
    |nil=>intro _ n;simp[yZ,xP]
    |cons y ys ih=>intro hy n;cases n with
     |zero=>simp[yZ,xP]
     |succ n=>exact⟨hy.1,ih hy.2 n⟩
   refine⟨?_,?_,by simp only[Top];exact iD xs e3 h⟩
   ·rw[Jj]
    simp[g9.size,hd,mkV,G',Gh.cut,v]
   ·simp only[R]
    refine .inr ⟨b,o0,cap',cs,e,by rw[gf];simp[G',Gh.cut,v],h2,by omega,by omega,by have:=Kc k po;omega,gow b _ h6,fun o cR cG=>?_,?_⟩
    ·rw[gf]at cR
     show(if _ then _ else _)=_;rw[if_pos ⟨rfl,cR,cG⟩]
    ·refine zDF _ [] 0 b o0 fun i x hx=>?_
     rw[Hd]at hx;split at hx
     ·rename_i hi
      obtain⟨g1,g2,g3⟩:=sV xs [] 0 b o0 k i x h8 hx;rw[Ji]at g1 g3 ⊢
      refine⟨?_,g2,jP (mv i hi) x (yU.mono (fun _ _=>False.elim) _ (uI xs e3 i x hx)) g3⟩;refine zEo x [i] [i] b _ (fun z=>by simp[G',Gh.cut]) (fun z=>by simp[G',Gh.cut]) (fun b' o z hl=>⟨glb _ _ _ _ hl ?_,rfl⟩) g1
      rintro⟨rfl,cR,cG⟩
      have:=mM o ji z i cR cG hl;omega
     ·cases hx
  ·have h9:s=s0/\t'=.any:=by
    simp only[Wr.find]at hs;rw[if_neg (fun h=>eI h.symm)]at hs;split at hs
    ·rename_i h;simp at hs;exact⟨h.symm,hs.symm⟩
    ·cases hs
   obtain⟨rfl,rfl⟩:=h9;refine⟨?_,by simp only[R],by simp[Top]⟩;rw[Jj];simp only[Ne.symm eI,if_false,mkV];rw[e1,yV rfl];simp[G',Gh.cut,eI]
theorem zMf{w:World}(g9:Rep Γ E G tmps w)(hd:d<Γ.N)(ep:E s0=jf (.sl k []))(gc:s0≠d)(a:Option Addr):
  ∃G',Rep Γ (E.app [(d,jf (.sl k [])),(s0,jf .any)] [(d,0),(s0,1)]) G' (tmps.setIfInBounds d (.slice a 0 0)) w:=by
 obtain⟨e1,_,_⟩:=g9.ent s0 _ ep;refine⟨G.put d (fun _=>.slice a 0 0),?_⟩;have hk:sM [(d,0),(s0,1)] G w (G.put d fun _=>.slice a 0 0) w:=by have h0:=G.put_keep (w:=w) (w':=w) rfl d (fun _=>.slice a 0 0);refine⟨fun s p ho=>h0.hd s p (fun n hn=>ho n (by simp at hn ⊢;exact .inl hn)),fun s p ho=>h0.ad s p (fun n hn=>ho n (by simp at hn ⊢;exact .inl hn)),fun b o f s p h1 h2 h3=>h0.lb b o f s p h1 h2 (fun n hn=>h3 n (by simp at hn ⊢;exact .inl hn)),fun b s p h1 h3=>h0.ow b s p h1 (fun n hn=>h3 n (by simp at hn ⊢;exact .inl hn)),h0.blk⟩
 refine wW g9 (by simp) hk (g9.mem.put rfl d _ (fun _=>rfl)) ?_ ?_
 ·intro s hs
  have fI:s≠d:=by rintro rfl;simp[Wr.find]at hs
  have fJ:s≠s0:=by rintro rfl;simp[Wr.find,gc.symm]at hs
  exact⟨fun n hn=>by simp at hn;rcases hn with h|h;exact fI h.1;exact fJ h.1,by rw[Jj];simp[fI.symm]⟩
 ·intro s t' hs
  by_cases eI:s=d
  ·subst eI
   simp[Wr.find]at hs;subst hs;refine⟨by rw[Jj];simp[g9.size,hd,mkV,Gh.put],by simp only[R];exact .inl ⟨trivial,a,by simp[Gh.put]⟩,by simp[Top,yZ,xP]⟩
  ·have h9:s=s0/\t'=.any:=by
    simp only[Wr.find]at hs;rw[if_neg (fun h=>eI h.symm)]at hs;split at hs
    ·rename_i h;simp at hs;exact⟨h.symm,hs.symm⟩
    ·cases hs
   obtain⟨rfl,rfl⟩:=h9;refine⟨?_,by simp only[R],by simp[Top]⟩;rw[Jj];simp only[Ne.symm eI,if_false,mkV];rw[e1,yV rfl];simp[Gh.put,eI]
end
section
variable {P:Program}{Γ:Ctx}{pn:sH}{E E':Env}{Q:Exit->Env->Prop}{d:Nat}{x y:Operand}{ty:TypeId}{ps:String}{af:Array Edge}{gd:Option (Nat×Bool)}
theorem zQx{α:Type}{t:TypeId}{f:α->T}{xs ys:List α}{mx:Option Operand}(ht:ElT P t e ti k u)(hv:zS xs 0 h=jf ys)(h0:E s0=jf (L k f xs))(hy:opT E y=jf (I h))(hmx:mx=jg\/ ∃z,mx=jf z/\opT E z=jf (I h))(sd:(J6 d Γ.N&&(s0 != d))=jh):
  Ok P Γ ⟨jf d,.slice t (.tmp s0) jg (jf y) mx,ty,ps,af,gd⟩ E (E.app [(d,jf (L k f ys)),(s0,jf .any)] [(d,0),(s0,1)]):=by
 obtain⟨_,cX,fd,rfl⟩:=uU hv;simp only[J4]at sd;have gc:s0≠d:=by simpa using sd.2
 obtain⟨n,rfl⟩:∃n:Nat,h=n:=⟨h.toNat,by omega⟩;have hn:n<=xs.length:=by omega
 intro S;refine xZ.value rfl fun a w G g9=>?_
 obtain⟨e1,e2,_⟩:=g9.ent s0 _ h0;have eE:=(xY g9 hy).1;have pm:a.eval (.tmp s0)=G.hd s0 []:=by rw[xW e1,yV rfl]
 have p6:=ht.un;have gK:=ht.info;have gr:=ht.size;have fZ:List.map f ((xs.drop (0:Int).toNat).take ((n:Int).toNat-(0:Int).toNat))=(xs.map f).take n:=by simp[Uw]
 rw[show L k f ((xs.drop (0:Int).toNat).take ((n:Int).toNat-(0:Int).toNat))=.sl k ((xs.map f).take n)by simp only[L,fZ]];have e2':=e2;simp only[R]at e2;rcases e2 with⟨bf,ad,h1⟩|⟨b,o0,cap,cs,e',h1,h2,h3,h4,h5,h6,h7,h8⟩
 ·have eH:xs=[]:=by simpa using bf
  subst eH;simp at hn;subst hn;obtain⟨G',gm⟩:=zMf g9 (yF sd.1) (k:=k) (by rw[h0];rfl) gc ad;refine⟨_,w,?_,G',by simpa using gm⟩;rcases hmx with rfl|⟨z,rfl,hz⟩
  ·simp[execOp,Instr.sliceAt,Instr.slice,run_underlying p6,pm,h1,eE,sizeOf,typeInfo,gK,Instr.sliceBounds,Instr.sliceBound,asIntOf]
  ·have mR:=(xY g9 hz).1
   simp[execOp,Instr.sliceAt,Instr.slice,run_underlying p6,pm,h1,eE,mR,sizeOf,typeInfo,gK,Instr.sliceBounds,Instr.sliceBound,asIntOf]
 ·rw[Jf]at h1 h3
  have cU:n<=cap:=by omega
  have cJ:cap=0->n=0:=by omega
  rcases hmx with rfl|⟨z,rfl,hz⟩
  ·obtain⟨G',gm⟩:=zQw g9 (yF sd.1) h0 gc ht.pos (by rw[Jf];exact h1) h2 (by rw[Jf];exact h3) h4 h5 h6 h7 h8 (h:=n) (cap':=cap) (by simpa using hn) cU (Je _)
   refine⟨_,w,?_,G',gm⟩;simp[execOp,Instr.sliceAt,Instr.slice,run_underlying p6,pm,h1,eE,sizeOf,typeInfo,gK,Instr.sliceBounds,Instr.sliceBound,asIntOf,cU,uO]
  ·have mR:=(xY g9 hz).1
   obtain⟨G',gm⟩:=zQw g9 (yF sd.1) h0 gc ht.pos (by rw[Jf];exact h1) h2 (by rw[Jf];exact h3) h4 h5 h6 h7 h8 (h:=n) (cap':=n) (by simpa using hn) (Je _) cU;refine⟨_,w,?_,G',gm⟩;simp[execOp,Instr.sliceAt,Instr.slice,run_underlying p6,pm,h1,eE,mR,sizeOf,typeInfo,gK,Instr.sliceBounds,Instr.sliceBound,asIntOf,cU,uO]
end
section
variable {P:Program}{Γ:Ctx}{pn:sH}{E E':Env}{Q:Exit->Env->Prop}{d:Nat}{x y:Operand}{ty:TypeId}{ps:String}{af:Array Edge}{gd:Option (Nat×Bool)}{ops:Array Oper}{os:List Oper}
theorem zJt{P:Program}{w:World}{t:TypeId}{a:Option Addr}{n c:Nat}(m:Nat)(h:P.underlying t=jf (.slice e)):(Op.equalIn (m+1) t (.slice a n c) (.slice jg 0 0)).run P w=.ok a.isNone w:=by simp only[Op.equalIn,Sem.run_bind,run_underlying h];cases a<;>rfl
theorem RW.isnil{α:Type}{f:α->T}{xs:List α}(hu:P.underlying xt=jf (.slice e))(hx:tD E x=jf (r,q,u))(cy:u=.ro (L k f xs)\/u=L k f xs)(sd:J6 d Γ.N=jh)(hp:pn.ok (jf d)=jh)
  (h:∀b,(b=jh->xs=[])->RW P Γ pn ops os (E.app [(d,jf (B b))] [(d,0)]) Q):RW P Γ pn ops (⟨jf d,.binOp .eql xt x (.const (.slice jg 0 0)) yt,ty,ps,af,jg⟩::os) E Q:=by
 intro a w Q' hs fH hQ;obtain⟨S,hS,gJ,G,g9⟩:=id hs;have fP:u.single=jh:=by rcases cy with rfl|rfl<;>rfl
 obtain⟨h1,h2⟩:=qS g9 hx fP;obtain⟨ad,n,c,h3,h4⟩:∃ad n c,a.eval x=.slice ad n c/\(ad.isNone=jh->xs=[]):=by
  rcases cy with rfl|rfl
  ·obtain⟨ad,c,g1,_,_,g2⟩:=zCL h1
   refine⟨ad,_,c,by rw[h2,g1],fun hn=>?_⟩;apply Classical.byContradiction;intro gc;obtain⟨b,o',_,_,_,rfl,_⟩:=g2 (by simpa using gc);simp at hn
  ·simp only[R]at h1
   rcases h1 with⟨g1,ad,g2⟩|⟨b,_,cap,cs,e',g1,_⟩
   ·exact⟨ad,0,0,by rw[h2,g2],fun _=>by simpa using g1⟩
   ·exact⟨_,_,_,by rw[h2,g1],fun hn=>by simp at hn⟩
 have gx:(execOp a.eval ⟨jf d,.binOp .eql xt x (.const (.slice jg 0 0)) yt,ty,ps,af,jg⟩).run P w=.ok (.value (.bool ad.isNone)) w:=by have h5:(Op.equalIn 10000 xt (.slice ad n c) (.slice jg 0 0)).run P w=.ok ad.isNone w:=zJt 9999 hu;have h6:a.eval (.const (.slice jg 0 0))=.slice jg 0 0:=rfl;simp[execOp,h3,h6,eqGuard,binOp,zEw,h5]
 simp only[wpL,Region.wanted,if_true];refine .inl ?_;unfold Oper.wp;rw[gx,Oper.upon_value];have fD:=vE g9 rfl (yF sd) (fun _=>.bool ad.isNone) (fun _=>rfl) (B ad.isNone) (.bool ad.isNone) (by simp[mkV,Gh.put]) (by simp[R,Gh.put]) (by simp[Top]);refine h ad.isNone h4 _ w Q' ⟨S,hS,gJ,_,fD⟩ ?_ hQ;refine fH.frame hp fun s gF=>?_
 have:d≠s:=fun e=>gF (by rw[e])
 simp[Act.put,Array.getElem?_setIfInBounds_ne this]
theorem zEx{t:TypeId}(hu:P.underlying t=jf (.slice e))(hx:opT E x=jf (.lit (.slice jg 0 0)))(sd:J6 d Γ.N=jh):Ok P Γ ⟨jf d,.call { callee:=.builtin .len,args:=#[x],argTypes:=#[t] },ty,ps,af,gd⟩ E (E.app [(d,jf (I 0))] [(d,0)]):=by
 intro S;refine kN (.int .i64 0) rfl rfl (yF sd) fun a w G g9=>?_
 have h1:=(xY g9 hx).1;simp[execOp,resolve,invoke,builtin,h1,Builtin.len_,run_underlying hu,goInt]
theorem zEy{t:TypeId}(hu:P.underlying t=jf (.slice e))(hx:opT E x=jf (.lit (.slice jg 0 0)))(sd:J6 d Γ.N=jh):Ok P Γ ⟨jf d,.call { callee:=.builtin .cap,args:=#[x],argTypes:=#[t] },ty,ps,af,gd⟩ E (E.app [(d,jf (I 0))] [(d,0)]):=by
 intro S;refine kN (.int .i64 0) rfl rfl (yF sd) fun a w G g9=>?_
 have h1:=(xY g9 hx).1;simp[execOp,resolve,invoke,builtin,h1,Builtin.cap_,run_underlying hu,goInt]
theorem zQy{t:TypeId}(ht:ElT P t e ti k u)(hx:opT E x=jf (.lit (.slice jg 0 0)))(hy:opT E y=jf (I 0))(sd:J6 d Γ.N=jh):Ok P Γ ⟨jf d,.slice t x jg (jf y) jg,ty,ps,af,gd⟩ E (E.app [(d,jf (.sl k []))] [(d,0)]):=by
 intro S;refine xZ.value rfl fun a w G g9=>?_
 have h1:=(xY g9 hx).1;have h2:=(xY g9 hy).1;refine⟨.slice jg 0 0,w,?_,_,vE g9 rfl (yF sd) (fun _=>.slice jg 0 0) (fun _=>rfl) (.sl k []) (.slice jg 0 0) (by simp[mkV,Gh.put]) (by simp[R,Gh.put]) (by simp[Top,yZ,xP])⟩;simp[execOp,Instr.sliceAt,Instr.slice,run_underlying ht.un,h1,h2,sizeOf,typeInfo,ht.info,Instr.sliceBounds,Instr.sliceBound,asIntOf]
theorem zR.nil(s k:Nat)(hs:E s=jf (.lit (.slice jg 0 0))):zR Γ E (E.app [(s,jf (.sl k []))] [(s,0)]):=by
 rintro a w ⟨S,hS,gJ,G,g9⟩
 refine⟨S,hS,gJ,G,?_⟩;have hk:sM [(s,0)] G w G w:=⟨fun _ _ _=>rfl,fun _ _ _=>rfl,fun _ _ _ _ _ _ h _=>⟨h,rfl⟩,fun _ _ _ h _=>h,fun b cs e h=>⟨cs,h,rfl⟩⟩;refine wW g9 rfl hk g9.mem (fun s' gF=>⟨fun n hn=>?_,rfl⟩) fun s' t gF=>?_
 ·simp at hn
  simp[Wr.find,hn.1]at gF
 ·simp only[Wr.find]at gF
  split at gF
  ·rename_i e;subst e
   simp at gF;subst gF;obtain⟨h1,h2,_⟩:=g9.ent s _ hs;simp only[R]at h2;exact⟨by rw[h1];rfl,by simp only[R];exact .inl ⟨trivial,jg,h2⟩,by simp[Top,yZ,xP]⟩
  ·cases gF
theorem zK4{src dst:TypeId}{ds:TypeDesc}{k k':IntKind}{n:Int}(hs:P.underlying src=jf ds)(ht:P.underlying dst=jf (.int k'))(hx:opT E x=jf (IK k n))(sd:J6 d Γ.N=jh):
  Ok P Γ ⟨jf d,.convert src dst x,ty,ps,af,gd⟩ E (E.app [(d,jf (IK k' (k'.wrap n)))] [(d,0)]):=fun _=>zXL src dst ds x k k' n rfl rfl (yF sd) hs ht hx
theorem yAT{k:IntKind}{n:Int}(hx:opT E x=jf (IK k m))(hy:opT E y=jf (IK k n))(sd:J6 d Γ.N=jh):Ok P Γ ⟨jf d,.binOp .add xt x y yt,ty,ps,af,gd⟩ E (E.app [(d,jf (IK k (k.wrap (m+n))))] [(d,0)]):=
 fun _=>tV .add xt yt x y k m n _ rfl rfl (yF sd) hx hy rfl
theorem yAU{k:IntKind}{n:Int}(hx:opT E x=jf (IK k m))(hy:opT E y=jf (IK k n))(sd:J6 d Γ.N=jh):Ok P Γ ⟨jf d,.binOp .mul xt x y yt,ty,ps,af,gd⟩ E (E.app [(d,jf (IK k (k.wrap (m*n))))] [(d,0)]):=
 fun _=>tV .mul xt yt x y k m n _ rfl rfl (yF sd) hx hy rfl
theorem zUj{k:IntKind}{n:Int}(hx:opT E x=jf (IK k m))(hy:opT E y=jf (IK k n))(sd:J6 d Γ.N=jh):Ok P Γ ⟨jf d,.binOp .gtr xt x y yt,ty,ps,af,gd⟩ E (E.app [(d,jf (B (decide (m> n))))] [(d,0)]):=
 fun _=>tV .gtr xt yt x y k m n _ rfl rfl (yF sd) hx hy rfl
def zGw(k:IntKind)(m n:Int):Int:=k.wrap ((BitVec.ofInt k.bits m &&& BitVec.ofInt k.bits n).toNat:Int)
theorem yAV{k:IntKind}{n:Int}(hx:opT E x=jf (IK k m))(hy:opT E y=jf (IK k n))(sd:J6 d Γ.N=jh):Ok P Γ ⟨jf d,.binOp .and xt x y yt,ty,ps,af,gd⟩ E (E.app [(d,jf (IK k (zGw k m n)))] [(d,0)]):=by
 intro S;refine kN (.int k (zGw k m n)) rfl rfl (yF sd) fun a w G g9=>?_
 have h1:=(xY g9 hx).1;have h2:=(xY g9 hy).1;simp[execOp,h1,h2,eqGuard,binOp,Op.intBits,zGw]
theorem yAW{k k':IntKind}{n:Int}(hn:0<=n)(hx:opT E x=jf (IK k m))(hy:opT E y=jf (IK k' n))(sd:J6 d Γ.N=jh):Ok P Γ ⟨jf d,.binOp .shr xt x y yt,ty,ps,af,gd⟩ E (E.app [(d,jf (IK k (m.fdiv (2 ^ (min n.toNat k.bits)))))] [(d,0)]):=by
 intro S;refine kN (.int k (m.fdiv (2 ^ (min n.toNat k.bits)))) rfl rfl (yF sd) fun a w G g9=>?_
 have h1:=(xY g9 hx).1;have h2:=(xY g9 hy).1;have h3:¬n<0:=by omega
 simp[execOp,h1,h2,eqGuard,binOp,Op.shift,h3]
end
structure zUk (P:Program) (f:Field) (i:Nat):Prop where
 name:f.name≠ "_"
 off:f.offset=i
 ty:P.underlying f.type=jf (.int .i64)
class zYb (P:Program) (t:TypeId):Prop where
 h:∃f0 f1 f2 f3:Field,P.underlying t=jf (.struct #[f0,f1,f2,f3])/\zUk P f0 0/\zUk P f1 1/\zUk P f2 2/\zUk P f3 3
 st:P.stoodInHeld t=ji
 gd:P.eqGuardType P.depth t=ji
theorem zEz{w:World}{f:Field}{i:Nat}(h:zUk P f i)(cs:Array Value)(v:Value)(hv:cs[i]? =jf v):(part f.type cs f.offset).run P w=.ok v w:=by simp[part,qP h.ty,zFl,h.off,hv]
theorem zUl{w:World}{t:TypeId}(h:zYb P t)(a b c d a' b' c' d':Int)(m:Nat):
  (Op.equalIn (m+2) t (.agg #[.int .i64 a,.int .i64 b,.int .i64 c,.int .i64 d]) (.agg #[.int .i64 a',.int .i64 b',.int .i64 c',.int .i64 d'])).run P w=.ok (a==a'&&(b==b'&&(c==c'&&d==d'))) w:=by
 obtain⟨f0,f1,f2,f3,h1,g0,g1,g2,g3⟩:=h.h;have k0:=fun(x y:Int)=>zG9 (P:=P) (w:=w) (a:=x) (b:=y) m g0.ty
 have k1:=fun(x y:Int)=>zG9 (P:=P) (w:=w) (a:=x) (b:=y) m g1.ty
 have k2:=fun(x y:Int)=>zG9 (P:=P) (w:=w) (a:=x) (b:=y) m g2.ty
 have k3:=fun(x y:Int)=>zG9 (P:=P) (w:=w) (a:=x) (b:=y) m g3.ty
 have gA:=h.st;rw[Op.equalIn];simp only[Sem.run_bind,run_underlying h1];have q0:=fun(a b c d:Int)=>zEz (w:=w) g0 #[.int .i64 a,.int .i64 b,.int .i64 c,.int .i64 d] (.int .i64 a) rfl
 have q1:=fun(a b c d:Int)=>zEz (w:=w) g1 #[.int .i64 a,.int .i64 b,.int .i64 c,.int .i64 d] (.int .i64 b) rfl
 have q2:=fun(a b c d:Int)=>zEz (w:=w) g2 #[.int .i64 a,.int .i64 b,.int .i64 c,.int .i64 d] (.int .i64 c) rfl
 have q3:=fun(a b c d:Int)=>zEz (w:=w) g3 #[.int .i64 a,.int .i64 b,.int .i64 c,.int .i64 d] (.int .i64 d) rfl
 by_cases e0:a=a'<;>by_cases e1:b=b'<;>by_cases e2:c=c'<;>by_cases e3:d=d'<;>
  simp[gA,g0.name,g1.name,g2.name,g3.name,q0,q1,q2,q3,k0,k1,k2,k3,e0,e1,e2,e3]
section
variable {P:Program}{Γ:Ctx}{E E':Env}{d:Nat}{x y:Operand}{ty:TypeId}{ps:String}{af:Array Edge}{gd:Option (Nat×Bool)}
theorem yAX{t t':TypeId}{s s':Nat}{a b c e a' b' c' e':Int}(h:zYb P t)(hx:E s=jf (.agg [I a,I b,I c,I e]))(hy:E s'=jf (.agg [I a',I b',I c',I e']))(sd:J6 d Γ.N=jh):
  Ok P Γ ⟨jf d,.binOp .eql t (.tmp s) (.tmp s') t',ty,ps,af,gd⟩ E (E.app [(d,jf (B (a==a'&&(b==b'&&(c==c'&&e==e')))))] [(d,0)]):=by
 intro S;refine kN _ rfl rfl (yF sd) fun A w G g9=>?_
 obtain⟨h1,h2,_⟩:=g9.ent s _ hx;obtain⟨h3,h4,_⟩:=g9.ent s' _ hy;simp only[R,RF]at h2 h4;have e1:A.eval (.tmp s)=.agg #[.int .i64 a,.int .i64 b,.int .i64 c,.int .i64 e]:=by rw[xW h1];simp[mkV,yE,vals,h2]
 have e2:A.eval (.tmp s')=.agg #[.int .i64 a',.int .i64 b',.int .i64 c',.int .i64 e']:=by rw[xW h3];simp[mkV,yE,vals,h4]
 have h5:(Op.equalIn 10000 t (.agg #[.int .i64 a,.int .i64 b,.int .i64 c,.int .i64 e]) (.agg #[.int .i64 a',.int .i64 b',.int .i64 c',.int .i64 e'])).run P w=_:=zUl (w:=w) h a b c e a' b' c' e' 9998;have hg:=h.gd;simp[execOp,e1,e2,eqGuard,binOp,zEw,h5,hg]
end
abbrev vI(n:Int):Value:=.int .i64 n
section
variable {Γ:Ctx}{E:Env}
theorem zMg{w:World}(g9:Rep Γ E G tmps w){xs us:List Int}(ep:E s0=jf (L 1 I xs))(gf:us.length=xs.length)
  {b cap:Nat}{cs cs':Array Value}(h1:G.hd s0 []=.slice (jf ⟨b,o0,jg⟩) xs.length cap)(h2:w.heap[b]? =jf (.cells cs e (0,0)))(h3:xs.length<=cap)(h4:cap<=maxLen)(h5:o0+cap*1<=cs.size)(h6:G.ow b=jf (s0,[]))
  (h7:∀o,o0+xs.length*1<=o->o<o0+cap*1->G.lb b o=jf (jh,s0,[]))(h8:RL Γ.St G w s0 (xs.map I) [] 0 b o0 1)
  (k1:w'.heap[b]? =jf (.cells cs' e (0,0)))(k2:cs'.size=cs.size)(k3:∀b',b'≠b->w'.heap[b']? =w.heap[b']?)(k4:w'.heap.size=w.heap.size)(ko:w'.os=w.os)(kq:w'.output=w.output)(k5:∀(i:Nat) u,us[i]? =jf u->cs'[o0+i]? =jf (vI u)):
  ∃G',Rep Γ (E.app [(s0,jf (L 1 I us))] [(s0,1)]) G' tmps w':=by
 have hm:=g9.mem;obtain⟨e1,_,_⟩:=g9.ent s0 _ ep;have gH:=hm.ow b _ h6
 let G':Gh:={ G with hd:=fun s z=>if s=s0 then(match z with
  | [i]=>(match us[i]? with
   |some u=>vI u
   |none=>G.hd s0 z)
  |_=>G.hd s0 z)else G.hd s z }
 have hB:Blk w w':=by
  intro b' cs2 e2 hb
  by_cases fx:b'=b
  ·subst fx
   rw[h2]at hb;simp at hb;obtain⟨rfl,rfl⟩:=hb;exact⟨cs',k1,k2⟩
  ·exact⟨cs2,by rw[k3 b' fx];exact hb,rfl⟩
 have gu:sM [(s0,1)] G w G' w':=by
  refine⟨fun s p ho=>?_,fun _ _ _=>rfl,fun b' o f s p gV hl hs=>⟨hl,?_⟩,fun _ _ _ hl _=>hl,hB⟩
  ·by_cases h:s=s0
   ·subst h
    have:p=[]:=Kf (by have:=ho 1 (by simp);omega);subst this;simp[G']
   ·simp[G',h]
  ·have eI:s≠s0:=fun e=>hs 1 (by simp[e])
   obtain⟨y,hy⟩:=gV;have fx:b'≠b:=by
    rintro rfl
    rw[h6]at hy;simp at hy;exact eI hy.1.symm
   simp[yN,World.cell?,k3 b' fx]
 have gp:Mem Γ G' w':=by
  refine⟨fun s z=>?_,fun b' o l hl=>?_,fun b' l hl=>?_,fun b' x hx=>?_,fun b' h h'=>?_,by rw[k4];exact hm.sz,hm.bk.trans hB ko kq⟩
  ·show(if _ then _ else _:Value).oneCell'=jh
   split
   ·split
    ·split
     ·rfl
     ·exact hm.one _ _
    ·exact hm.one _ _
   ·exact hm.one _ _
  ·have:=hm.lb b' o l hl;exact⟨by rw[k4];exact this.1,this.2⟩
  ·have:=hm.ow b' l hl;exact⟨by rw[k4];exact this.1,this.2⟩
  ·have:b'≠b:=by rintro rfl;rw[gH.2.2]at hx;cases hx
   rw[k3 b' this];exact hm.st b' x hx
  ·have:b'≠b:=by
    rintro rfl
    rcases gH.2.1 with h0|h0
    ·omega
    ·exact h' h0
   rw[k3 b' this];exact hm.fr b' h h'
 refine⟨G',wW g9 rfl gu gp ?_ ?_⟩
 ·intro s hs
  rw[uB]at hs;split at hs
  ·cases hs
  ·rename_i gc
   exact⟨fun n hn=>gc (by simp at hn;exact hn.1.symm),rfl⟩
 ·intro s t' hs
  rw[uB]at hs;split at hs
  ·rename_i he;subst he
   simp at hs;subst hs;refine⟨by rw[e1];simp[mkV,G'],?_,by simp only[Top];exact jI zQr us⟩;simp only[R];refine .inr ⟨b,o0,cap,cs',e,by simp[G',h1,gf],k1,by simp[gf];exact h3,h4,by omega,h6,fun o cR cG=>h7 o (by simpa[gf]using cR) cG,?_⟩;refine zDF _ [] 0 b o0 fun i x hx=>?_
   rw[Jw,Kg]at hx;obtain⟨u,hu,rfl⟩:=hx;have hi:=(Jm.1 hu).1;obtain⟨g1,g2,_⟩:=sV _ [] 0 b o0 1 i (I xs[i]) h8 (by simp[show i<xs.length by omega]);simp only[Ji,Lz,Loc]at g1 ⊢
   refine⟨⟨g1.1,g1.2.1,?_⟩,rfl,by simp[R,G',hu]⟩;have:=k5 i u hu;simp[yN,World.cell?,k1,this,G',hu]
  ·cases hs
def zGe(P:Program)(Γ:Ctx)(E:Env)(y:Operand)(ys:List Int):Prop:=∀(a:Act)(w:World)(G:Gh),Rep Γ E G a.tmps w-> ∃xa c,a.eval y=.slice xa ys.length c/\
 ∀(n:Nat),n<=ys.length->(Builtin.firstCells 1 n (.slice xa ys.length c)).run P w=.ok ((ys.take n).map vI).toArray w
theorem zBP{w:World}{b o:Nat}{cs:Array Value}{fr:Nat×Nat}(hb:w.heap[b]? =jf (.cells cs e fr))(ys:List Int)(hv:∀(i:Nat) u,ys[i]? =jf u->cs[o+i]? =jf (vI u))(n:Nat)(hn:n<=ys.length)(len cap:Nat):
  (Builtin.firstCells 1 n (.slice (jf ⟨b,o,jg⟩) len cap)).run P w=.ok ((ys.take n).map vI).toArray w:=by
 refine run_firstCells_some (P:=P) w 1 n ⟨b,o,jg⟩ len cap _ (by simp;omega) fun j v hj=>?_
 rw[Jw,Kg]at hj;obtain⟨u,hu,rfl⟩:=hj;rw[Hd]at hu;split at hu
 ·rw[uO]
  have:=hv j u hu;simp[World.cell?,hb,this]
 ·cases hu
theorem zCp{w:World}{a:Option Addr}{c:Nat}:(Builtin.firstCells 1 0 (.slice a 0 c)).run P w=.ok #[] w:=by cases a<;>simp[Builtin.firstCells,loadCells,loadCellsFrom]
theorem zGe.ro{y:Operand}{ys:List Int}(h:tD E y=jf (r,q,.ro (L 1 I ys))):zGe P Γ E y ys:=fun a w G g9=>by
 obtain⟨h1,h2⟩:=qS g9 h rfl;obtain⟨xa,c,g1,_,_,g2⟩:=zCL h1;rw[Jf]at g1;refine⟨xa,c,by rw[h2,g1],fun n hn=>?_⟩
 by_cases hy:ys=[]
 ·subst hy
  simp at hn;subst hn;simpa using zCp
 ·obtain⟨b,o,cs,e,fr,rfl,g3,g4⟩:=g2 (by simpa using hy)
  refine zBP (g9.mem.st b _ g3) ys (fun i u hu=>?_) n hn _ _;have:=zG5 _ cs o 1 i (I u) g4 (by simp[hu]);simp only[RoC,Lz]at this;exact this.1
theorem zQz{w:World}{s b:Nat}{cs:Array Value}{xs:List Int}{St:Stb}(h2:w.heap[b]? =jf (.cells cs e (0,0)))(h8:RL St G w s (xs.map I) q 0 b o0 1)(i:Nat)(u:Int)(hu:xs[i]? =jf u):cs[o0+i]? =jf (vI u):=by obtain⟨g1,_,g3⟩:=sV _ q 0 b o0 1 i (I u) h8 (by simp[hu]);simp only[Loc,R,Ji,Lz]at g1 g3;have:=g1.2.2;simp only[yN,World.cell?,h2]at this;simpa[g3]using this
theorem zGe.sub{s:Nat}{tr:T}{xs ys:List Int}(hs:E s=jf (.sub r q 1 l.toNat h.toNat))(hr:E r=jf tr)(hg:tr.get q.reverse=jf (L 1 I xs))(hv:zS xs l h=jf ys):zGe P Γ E (.tmp s) ys:=fun a w G g9=>by
 obtain⟨k1,k2,k3,rfl⟩:=uU hv;obtain⟨e1,e2,_⟩:=g9.ent s _ hs;obtain⟨_,e4,_⟩:=g9.ent r _ hr;simp only[R]at e2;have h5:=(zA3 q.reverse tr _ [] e4 hg).1;simp only[rp,Ki,Jh,R]at h5;have gf:((xs.drop l.toNat).take (h.toNat-l.toNat)).length=h.toNat-l.toNat:=by simp;omega
 rw[gf];have pm:a.eval (.tmp s)=G.hd s []:=by rw[xW e1,yV rfl]
 rcases h5 with⟨g1,ad,g2⟩|⟨b,o0,cap,cs,e,g1,g2,g3,_,_,_,_,g8⟩
 ·have hy:xs=[]:=by simpa using g1
  subst hy;have iB:l.toNat=0:=by simp at k3;omega
  have tp:h.toNat=0:=by simp at k3;omega
  refine⟨ad,0,by rw[pm,e2,g2,iB,tp];simp[zAU],fun n hn=>?_⟩;simp[tp]at hn;subst hn;rw[iB,tp];simpa using zCp
 ·rw[Jf]at g1 g3
  refine⟨if cap=l.toNat then jf ⟨b,o0,jg⟩else jf ⟨b,o0+l.toNat,jg⟩,cap-l.toNat,by rw[pm,e2,g1];simp only[zAU,He,uO,Lz],fun n hn=>?_⟩;split
  ·have:n=0:=by omega
   subst this;simp[Builtin.firstCells,loadCells,loadCellsFrom]
  ·refine zBP g2 _ (fun i u hu=>?_) n (by rw[gf];exact hn) _ _
   rw[Hd]at hu;split at hu
   ·rw[Ly]at hu
    rw[Ha];exact zQz g2 g8 _ u hu
   ·cases hu
def zCq(Γ:Ctx)(E:Env)(x:Operand)(s0 lo hi:Nat):Prop:=∀(a:Act)(w:World)(G:Gh),Rep Γ E G a.tmps w->a.eval x=zAU (G.hd s0 []) 1 lo hi
theorem zCq.slot{xs:List Int}(h:E s0=jf (L 1 I xs)):zCq Γ E (.tmp s0) s0 0 xs.length:=fun a w G g9=>by obtain⟨e1,e2,_⟩:=g9.ent s0 _ h;obtain⟨ad,c,g⟩:=zKi e2;rw[Jf]at g;rw[xW e1,yV rfl,g];simp[zAU];intro;cases ad<;>simp[Addr.add]
theorem zCq.same{s:Nat}{xs:List Int}(hs:E s=jf (.same s0 []))(h:E s0=jf (L 1 I xs)):zCq Γ E (.tmp s) s0 0 xs.length:=fun a w G g9=>by obtain⟨e1,e2,_⟩:=g9.ent s _ hs;have:=zCq.slot h a w G g9;obtain⟨e3,_,_⟩:=g9.ent s0 _ h;simp only[R]at e2;rw[xW e3,yV rfl]at this;rw[xW e1,yV rfl,e2];exact this
theorem zCq.sub{s lo hi:Nat}(hs:E s=jf (.sub s0 [] 1 lo hi)):zCq Γ E (.tmp s) s0 lo hi:=fun a w G g9=>by obtain⟨e1,e2,_⟩:=g9.ent s _ hs;simp only[R]at e2;rw[xW e1,yV rfl,e2]
end
theorem zRN{α:Type}{xs ys:List α}(hv:zS xs l h=jf ys):l.toNat<=h.toNat:=by have:=uU hv;omega
theorem zRO{α:Type}{xs ys:List α}(hv:zS xs l h=jf ys):h.toNat<=xs.length:=by have:=uU hv;omega
theorem zQ0(l z:List α)(lo i:Nat)(eK:lo+z.length<=l.length):(l.take lo++z++l.drop (lo+z.length))[i]? =if i<lo then l[i]? else if i<lo+z.length then z[i-lo]? else l[i]?:=by
 have hm:min lo l.length=lo:=by omega
 by_cases c1:i<lo
 ·rw[if_pos c1,Jg,Jy (by simp;omega),Hd,if_pos c1]
 ·rw[if_neg c1]
  by_cases c2:i<lo+z.length
  ·rw[if_pos c2,Jg,Jk (by simp;omega),Ke,hm,Jy (by omega)]
  ·rw[if_neg c2,Jg,Jk (by simp;omega),Ke,hm,Jk (by omega),Ly]
   congr 1;omega
def wQ(xs:List Int)(lo:Nat)(zs:List Int):List Int:=xs.take lo++zs++xs.drop (lo+zs.length)
theorem zK5{lo hi:Nat}{y:Operand}{ty:TypeId}{ps:String}{af:Array Edge}{gd:Option (Nat×Bool)}{t t2:TypeId}{xs ys:List Int}(ht:ElT P t e ti 1 u)(h0:E s0=jf (L 1 I xs))(hx:∀S,zCq (Γ.at S) E x s0 lo hi)(hy:∀S,zGe P (Γ.at S) E y ys)(h1:lo<=hi)(h2:hi<=xs.length)(sd:(J6 d Γ.N&&(s0 != d))=jh):
  Ok P Γ ⟨jf d,.call { callee:=.builtin .copy,args:=#[x,y],argTypes:=#[t,t2] },ty,ps,af,gd⟩ E ((E.app [(s0,jf (L 1 I (wQ xs lo (ys.take (hi-lo)))))] [(s0,1)]).app [(d,jf (I ((min ys.length (hi-lo):Nat):Int)))] [(d,0)]):=by
 simp only[J4]at sd;have gc:s0≠d:=by simpa using sd.2
 intro S;refine xZ.value rfl fun a w G g9=>?_
 obtain⟨e1,e2,_⟩:=g9.ent s0 _ h0;obtain⟨xa,c,g1,g2⟩:=hy S a w G g9;have g3:=hx S a w G g9;have fc:min ys.length (hi-lo)<=ys.length:=by omega
 have g4:=g2 _ fc;have eF:ys.take (hi-lo)=ys.take (min ys.length (hi-lo)):=by rw[List.take_eq_take_iff];omega
 rw[eF]
 generalize hn:min ys.length (hi-lo)=n at*
 have ck:(ys.take n).length=n:=by simp;omega
 have gf:(wQ xs lo (ys.take n)).length=xs.length:=by simp[wQ,ck];omega
 have key:∃w',(Builtin.copy_ #[t,t2] ty #[a.eval x,a.eval y]).run P w=.ok (goInt n) w'/\ ∃G',Rep (Γ.at S) (E.app [(s0,jf (L 1 I (wQ xs lo (ys.take n))))] [(s0,1)]) G' a.tmps w':=by
  have e2':=e2;simp only[R]at e2;rcases e2 with⟨k1,ad,k2⟩|⟨b,o0,cap,cs,e',k1,k2,k3,k4,k5,k6,k7,k8⟩
  ·have eH:xs=[]:=by simpa using k1
   subst eH;simp at h2;subst h2;have m8:n=0:=by omega
   subst m8;have eK:lo=0:=by omega
   subst eK;refine⟨w,?_,G,?_⟩
   ·rw[g3,k2,g1]
    cases ad<;>cases xa<;>simp[zAU,Builtin.copy_,run_underlying ht.un,Builtin.lenOf,sizeOf,typeInfo,ht.info,Builtin.firstCells,loadCells,loadCellsFrom,storeCells]
   ·refine wW g9 rfl ⟨fun _ _ _=>rfl,fun _ _ _=>rfl,fun _ _ _ _ _ _ h _=>⟨h,rfl⟩,fun _ _ _ h _=>h,fun b cs e h=>⟨cs,h,rfl⟩⟩ g9.mem (fun s hs=>⟨fun n hn=>by simp at hn;simp[Wr.find,hn.1]at hs,rfl⟩) fun s t' hs=>?_
    rw[uB]at hs;split at hs
    ·rename_i he;subst he
     simp at hs;subst hs;simpa[wQ]using g9.ent s0 _ h0
    ·cases hs
  ·rw[Jf]at k1 k3 k7
   have gr:o0+cap<=cs.size:=by omega
   have gA:=run_storeCells_at P b (o0+lo) e' ((ys.take n).map vI) 0 cs w k2 (by simp;omega) (by intro v hv;obtain⟨u,_,rfl⟩:=Jc.1 hv;rfl);simp only[Um,Jf]at gA
   generalize ek:w.setRow b (cs.toList.take (o0+lo)++(ys.take n).map vI++cs.toList.drop (o0+lo+(ys.take n).length)).toArray=w' at gA
   have gy:cs.toList.length=cs.size:=Km ..
   by_cases mo:cap=lo
   ·have m8:n=0:=by omega
    subst m8;refine⟨w,?_,G,?_⟩
    ·rw[g3,k1,g1]
     have g5:(Builtin.firstCells 1 0 (.slice xa ys.length c)).run P w=.ok #[] w:=by simpa using g4
     simp[zAU,Builtin.copy_,run_underlying ht.un,Builtin.lenOf,sizeOf,typeInfo,ht.info,ht.size,show hi-lo=0 by omega,g5,storeCells,mo]
    ·refine wW g9 rfl ⟨fun _ _ _=>rfl,fun _ _ _=>rfl,fun _ _ _ _ _ _ h _=>⟨h,rfl⟩,fun _ _ _ h _=>h,fun b cs e h=>⟨cs,h,rfl⟩⟩ g9.mem (fun s hs=>⟨fun n hn=>by simp at hn;simp[Wr.find,hn.1]at hs,rfl⟩) fun s t' hs=>?_
     rw[uB]at hs;split at hs
     ·rename_i he;subst he
      simp at hs;subst hs;simpa[wQ]using g9.ent s0 _ h0
     ·cases hs
   ·refine⟨w',?_,zMg g9 h0 gf k1 k2 k3 k4 k5 k6 k7 k8 (by rw[<-ek];exact setRow_heap w b cs _ e' _ k2) ?_ (fun b' h=>by rw[<-ek];exact setRow_other w b b' _ h) (by rw[<-ek];exact size_setRow w b _) (by rw[<-ek];rfl) (by rw[<-ek];rfl) fun i v hv=>?_⟩
    ·rw[g3,k1,g1]
     have h9:Nat.min ys.length (hi-lo)=n:=hn;simp only[zAU,mo,if_false,He,uO,Lz];simp only[Builtin.copy_];rw[Uw]at gA;simp[run_underlying ht.un,Builtin.lenOf,sizeOf,typeInfo,ht.info,ht.size,h9,g4,gA]
    ·simp[ck];omega
    ·rw[wQ,zQ0 _ _ _ _ (by rw[ck];omega)]at hv
     have h11:o0+lo+((ys.take n).map vI).length<=cs.toList.length:=by simp;omega
     have h10:=zQ0 cs.toList ((ys.take n).map vI) (o0+lo) (o0+i) h11;rw[Jf]at h10;rw[List.getElem?_toArray,h10];have fQ:=fun i u hu=>zQz k2 k8 i u hu
     by_cases c1:i<lo
     ·rw[if_pos c1]at hv
      rw[if_pos (by omega)];simpa using fQ i v hv
     ·rw[if_neg c1]at hv
      rw[if_neg (by omega)]
      by_cases c2:i<lo+(ys.take n).length
      ·rw[if_pos c2]at hv
       rw[if_pos (by omega),show o0+i-(o0+lo)=i-lo from by omega];rw[Jw,hv];rfl
      ·rw[if_neg c2]at hv
       rw[if_neg (by omega)];simpa using fQ i v hv
 obtain⟨w',gx,G',gm⟩:=key;refine⟨_,w',?_,_,vE gm rfl (yF sd.1) (fun _=>vI n) (fun _=>rfl) (I n) (vI n) (by simp[mkV,Gh.put]) (by simp[R,Gh.put]) (by simp[Top])⟩;simp[execOp,resolve,invoke,builtin,gx,goInt]
theorem zJu{G G':Gh}{s d:Nat}(hd:∀z,G'.hd d z=G.hd s z):(xs:List T)->yM xs=jh-> ∀(j:Nat),jY G' d (cpF s xs [] j) [] j=jY G s xs [] j
 | [],_,_=>by rfl
 |x::xs,h,j=>by
  simp only[yM,J4]at h;simp only[cpF,jY];have hJ:∀ys,x≠.tup ys:=by rintro ys rfl;grind[T.okTup]
  have h1:=zAk (G:=G) (G':=G') (s:=s) (d:=d) x [j] [j] hJ (fun z=>hd _);have h2:∀ys,cpT s x [j]≠.tup ys:=by intro ys;cases x<;>simp[cpT]
  rw[jZ _ _ _ _ h2]at h1;rw[h1,zJu hd xs h.2 (j+1)]
section
variable {P:Program}{Γ:Ctx}{E E':Env}{d:Nat}{x y:Operand}{ty:TypeId}{ps:String}{af:Array Edge}{gd:Option (Nat×Bool)}
theorem zZS{s:Nat}(hx:E s=jf (.tup ts))(sd:(J6 d Γ.N&&yM ts&&(s != d)&&zL7 [(d,0)] (cpF s ts [] 0))=jh):Ok P Γ ⟨jf d,.move (.tmp s),ty,ps,af,gd⟩ E (E.app [(d,jf (.tup (cpF s ts [] 0)))] [(d,0)]):=by
 simp only[J4]at sd;obtain⟨⟨⟨s1,s2⟩,s3⟩,s4⟩:=sd;have gc:s≠d:=by grind
 intro S;refine xZ.value rfl fun a w G g9=>?_
 obtain⟨h1,h2,_⟩:=g9.ent s _ hx;simp only[R]at h2;have hk:=G.put_keep (w:=w) (w':=w) rfl d (fun z=>G.hd s z);have hz:∀z,(G.put d (fun z=>G.hd s z)).hd d z=G.hd s z:=by grind[Gh.put_self]
 have ma:∀(xs:List T)(j:Nat),uK (cpF s xs [] j):=by
  intro xs
  induction xs with
  |nil=>intro j;simp only[cpF,uK]
  |cons x xs ih=>intro j;simp only[cpF,uK];grind[qD]
 refine⟨mkV G s (.tup ts) [],w,?_,_,vE g9 rfl (yF s1) (fun z=>G.hd s z) (fun z=>g9.mem.one _ _) _ _ (by grind[mkV,zJu])
  (by simp only[R];exact zKg (fun p=>G.put_other _ p gc) ts [] [] 0 (fun z=>hz _) (xP.mono (fun r p hr=>⟨hk.hd r p hr,hk.ad r p hr⟩) _ (by grind[zGS])) h2) (by simp only[Top];grind)⟩
 simp[execOp,xW h1]
end
def tW:List T->Bool
 | []=>jh
 |x::xs=>x.single&&tW xs
section
variable {P:Program}{Γ:Ctx}{E:Env}{d:Nat}{x:Operand}{ty:TypeId}{ps:String}{af:Array Edge}{gd:Option (Nat×Bool)}
class zYc (P:Program) (t:TypeId) (e:outParam TypeId) (ti:outParam TypeInfo) (n:outParam Nat) (k:outParam Nat):Prop where
 un:P.underlying t=jf (.array n e)
 info:P.info? e=jf ti
 size:ti.size=k
theorem zZT{t:TypeId}{n:Nat}{xs:List T}(i:Nat)(ht:zYc P t e ti n k)(hx:tD E x=jf (r,q,.ptr (.agg xs)))(hu:xs[i]? =jf u)(gB:T.sizes (xs.take i)=i*k)(sd:(J6 d Γ.N&&J6 i n)=jh):
  Ok P Γ ⟨jf d,.indexAddr t x (.const (.int .i64 i)),ty,ps,af,gd⟩ E (E.app [(d,jf (.addr r (i::0::q)))] [(d,0)]):=by
 simp only[J4]at sd;have gK:=yF sd.2;intro S;refine xZ.value rfl fun a w G g9=>?_
 obtain⟨g1,g2⟩:=qS g9 hx rfl;simp only[R]at g1;obtain⟨b,cs,e',g4,_,_,_,g5,_⟩:=g1;simp only[Loc]at g5;have g6:=zCa xs (0::q) 0 b 0 i u g5.2 hu;simp only[Ji]at g6;have g3:a.eval (.const (.int .i64 i))=.int .i64 i:=rfl;refine⟨.pointer (jf (G.ad r (i::0::q))),w,?_,_,vE g9 rfl (yF sd.1) (fun _=>.pointer (jf (G.ad r (i::0::q)))) (fun _=>rfl) _ _ (by simp[mkV,Gh.put]) (by simp[R,Gh.put]) (by simp[Top])⟩;have gC:(i:Int)<(n:Int):=by omega
 have h0:(0:Int)<=i:=by omega
 have g7:=zB0 g6;have br:i<n:=gK;simp[execOp,Instr.indexAt,g3,g2,g4,asIntOf,run_underlying ht.un,h0,br,sizeOf,typeInfo,ht.info,ht.size,uO,uY,g7,gB]
end
theorem zQ1{ds s:Nat}{tr t:T}(h:E s=jf t)(gc:(G3 ds s||G3 r s)=ji:=by rfl)(hb:t.okB [(ds,1),(r,q.length+1)]=jh:=by rfl):opT (vR E ds r q tr u) (.tmp s)=jf t:=by
 have h1:ds≠s:=by rintro rfl;simp at gc
 have h2:r≠s:=by rintro rfl;simp at gc
 simp[opT,vR,Env.app,Wr.find,h1,h2,h,hb]
section
variable {P:Program}{Γ:Ctx}{pn:sH}{E E':Env}{Q Q1:Exit->Env->Prop}{c c1 c2:Code}{ops:Array Oper}{o:Oper}{os:List Oper}{id:Nat}
theorem sR(h:RW P Γ pn ops ops.toList E (yR P Γ pn c Q)):CW P Γ pn (.seq (.region id ops ji) c) E Q:=CW.seq (CW.region h)
theorem rN(h:CW P Γ pn c E Q):RW P Γ pn ops [] E (yR P Γ pn c Q):=RW.nil h
theorem oP(h:Ok P Γ o E E')(k:RW P Γ pn ops os E' Q)(hg:o.guard=jg:=by rfl)(hp:pn.ok o.dst=jh:=by rfl):RW P Γ pn ops (o::os) E Q:=RW.op h k hg hp
def yAY(ops:List Oper):List (List Nat):=(ops.foldl (fun(acc:Array (List Nat)) o=>acc.push ((zBg o).foldl (fun l m=>m::(acc.getD m [])++l) [])) #[]).toList
theorem CW.lp(body:σ->Option (σ⊕ρ))(en:σ->Env)(Q1:ρ->Exit->Env->Prop){s:σ}{r:ρ}(hg:zR Γ E (en s))(h:∀s x,body s=jf x->CW P Γ pn c (en s) (wH Γ en Q1 x))(hr:zE body s=jf r)(hq:∀e E',Q1 r e E'->Q e E'):CW P Γ pn (.loop c) E Q:=
 (CW.mono (CW.loop body en Q1 h hr) hq).ghost hg
end
open Go Go.ChangeShapes
abbrev zMh(w:World):Stb:=fun b=>w.heap[b]?
theorem zRP{w:World}{a:Addr}{n:Nat}{cs:List Value}(h:w.cells? 0 a n=jf cs):cs.length=n/\ ∀(i:Nat) v,cs[i]? =jf v->w.cell? (a.add i)=jf v:=by
 unfold World.cells? at h;rw[if_pos (Lf _)]at h;refine⟨by simpa using mapM_some_length h,fun i v hv=>?_⟩;have hi:i<n:=by have:=(Jm.1 hv).1;have h2:=mapM_some_length h;rw[Lh]at h2;omega
 rw[<-hv];exact mapM_some_get h i i (by simp[hi])
theorem zQ2{w:World}{a:Addr}{v:Value}(h:w.cell? a=jf v):a.spot=jg/\ ∃c e fr,w.heap[a.block]? =jf (.cells c e fr)/\c[a.off]? =jf v:=by
 simp only[World.cell?]at h;split at h
 ·rename_i c e fr hb
  split at h
  ·cases h
  ·rename_i hs
   exact⟨by cases hq:a.spot with|none=>rfl|some _=>rw[hq]at hs;simp at hs,c,e,fr,hb,h⟩
 ·cases h
theorem zMi{b o m:Nat}:(Addr.mk b o jg).add m=⟨b,o+m,jg⟩:=by
 unfold Addr.add;split
 ·rename_i h;subst h;rfl
 ·rfl
theorem zGf{α:Type}{Q:Nat->α->Prop}:∀(n:Nat),(∀i,i<n-> ∃x,Q i x)-> ∃xs:List α,xs.length=n/\ ∀i x,xs[i]? =jf x->Q i x
 |0,_=>⟨[],rfl,fun i x h=>by simp at h⟩
 |n+1,h=>by
  obtain⟨xs,h1,h2⟩:=zGf n fun i hi=>h i (by omega)
  obtain⟨y,hy⟩:=h n (by omega);refine⟨xs++[y],by simp[h1],fun i x hx=>?_⟩;rw[Ks]at hx;split at hx
  ·exact h2 i x hx
  ·rename_i hge
   have:i-xs.length=0:=by have:=(Jm.1 hx).1;simpa using this
   rw[this]at hx;simp at hx;subst hx
   rwa [show i=n from by omega]
theorem zQ3{St:Stb}:(xs:List T)-> ∀(cs:Array Value)(o k:Nat),(∀i x,xs[i]? =jf x->RoC St x cs (o+i*k))->RoL St xs cs o k
 | [],_,_,_,_=>by simp only[RoL]
 |x::xs,cs,o,k,h=>by
  simp only[RoL];refine⟨by simpa using h 0 x rfl,zQ3 xs cs (o+k) k fun i y hy=>?_⟩;have:=h (i+1) y (by simpa using hy)
  rwa [show o+k+i*k=o+(i+1)*k from by rw[K8];omega]
section
variable {P:Program}
def RdT(P:Program)(t:TypeId)(k:Nat){α:Type}(f:α->T)(V:α->Prop):Prop:=
 ∀{H:Type}(enc:TypeId×Value->H)(w:World)(fuel:Nat)(cs:List Value)(x:DataW H×List MemPlace),DataW.trod enc P w 0 (fun _=>jh) jh fuel t cs=jf x->
  cs.length=k-> ∃d,V d/\ ∀(A:Array Value)(o:Nat),(∀(i:Nat) v,cs[i]? =jf v->A[o+i]? =jf v)->RoC (zMh w) (f d) A o
theorem yAZ{t:TypeId}{q:IntKind}(hu:P.underlying t=jf (.int q)):RdT P t 1 (IK q) (fun n=>(Lit.int q n).wf=jh):=by intro H enc w fuel cs x h _;obtain⟨n,rfl,_,hw⟩:=DataW.trod_int hu h;exact⟨n,hw,fun A o hA=>by simp only[RoC];exact⟨by simpa using hA 0 _ rfl,rfl⟩⟩
theorem yBa{α:Type}{f:α->T}{V:α->Prop}{t:TypeId}(hu:P.underlying t=jf (.slice e))(hk:P.cellsOf e=k)(fe:0<k)(h:RdT P e k f V):
  RdT P t 1 (L k f) (fun xs=>xs.length<=maxLen/\ ∀x∈xs,V x):=by
 intro H enc w fuel cs x hx _;rcases DataW.trod_slice hu hx with⟨rfl,_⟩|⟨a,len,cap,elems,rest,n,rfl,rfl,_,_,fd,mo,dA,fM,_⟩
 ·refine⟨[],⟨by simp,by simp⟩,fun A o hA=>?_⟩
  simp only[RoC,Le,Jt];exact⟨jg,0,by simpa using hA 0 _ rfl,Je _,by simp[maxLen],fun h=>absurd rfl h⟩
 ·subst hk
  have key:∀i,i<len-> ∃y,V y/\ ∃cs':List Value,cs'.length=P.cellsOf e/\(∀(j:Nat) v,cs'[j]? =jf v->w.cell? ((a.add (i*P.cellsOf e)).add j)=jf v)/\
    ∀(A:Array Value)(o:Nat),(∀(j:Nat) v,cs'[j]? =jf v->A[o+j]? =jf v)->RoC (zMh w) (f y) A o:=by
   intro i hi;have h1:=fM i hi;rw[J3 (by omega)]at h1;obtain⟨cs',h2,h3⟩:=Option.bind_eq_some_iff.1 h1;obtain⟨h4,h5⟩:=zRP h2;obtain⟨y,h6,h7⟩:=h enc w n cs' _ h3 h4;exact⟨y,h6,cs',h4,h5,h7⟩
  obtain⟨xs,hxl,eH⟩:=zGf len key;refine⟨xs,⟨by omega,fun y hy=>?_⟩,fun A o hA=>?_⟩
  ·obtain⟨i,hi,rfl⟩:=Ld.1 hy
   exact(eH i _ (J3 hi)).1
  ·simp only[RoC,Jf,hxl]
   refine⟨jf a,cap,by simpa using hA 0 _ rfl,fd,mo,fun gc=>?_⟩;have pG:0<xs.length:=by
    cases xs with
    |nil=>simp at gc
    |cons _ _=>simp
   obtain⟨_,cs0,g1,g2,_⟩:=eH 0 _ (J3 pG);have hz:a.add (0*P.cellsOf e)=a:=by simp[Addr.add]
   have g3:=g2 0 cs0[0] (J3 (by omega));rw[hz,show a.add 0=a from by simp[Addr.add]]at g3;obtain⟨p8,c,e',fr,hb,_⟩:=zQ2 g3;obtain⟨b,off,sp⟩:=a;simp only at p8 hb;subst p8;refine⟨b,off,c,e',fr,rfl,hb,zQ3 _ _ _ _ fun i y hy=>?_⟩;rw[Jw,Kg]at hy;obtain⟨z,mR,rfl⟩:=hy;obtain⟨_,cs',g1',g2',g4⟩:=eH i z mR;refine g4 c _ fun j v hv=>?_
   have:=g2' j v hv;rw[zMi,zMi]at this;obtain⟨_,c2,e2,fr2,ch,cu⟩:=zQ2 this;simp only at ch cu;rw[hb]at ch;cases ch;exact cu
theorem zK6{H:Type}{enc:TypeId×Value->H}{w:World}{t:TypeId}{fs:Array Field}{fuel:Nat}{cs:List Value}{x:DataW H×List MemPlace}(hu:P.underlying t=jf (.struct fs))(h:DataW.trod enc P w 0 (fun _=>jh) jh fuel t cs=jf x)
  {i:Nat}{f:Field}(hf:fs[i]? =jf f)(hj:f.offset=j)(hk:P.cellsOf f.type=k):∃n y,DataW.trod enc P w 0 (fun _=>jh) jh n f.type ((cs.drop j).take k)=jf y:=by
 obtain⟨xs,n,_,_,_,gf,fM⟩:=DataW.trod_struct hu h;have hi:i<xs.length:=by rw[gf];exact(H7.1 hf).1
 have:=fM i f hf;rw[hj,hk,J3 hi]at this;exact⟨n,_,this⟩
end
def zRQ(v:Value):Value:=if v.oneCell' then v else .bool ji
theorem zMj(v:Value):(zRQ v).oneCell'=jh:=by unfold zRQ;split;assumption;rfl
theorem zK7{v:Value}(h:v.oneCell'=jh):zRQ v=v:=by simp[zRQ,h]
def hd0(vs:Array Value)(s:Nat)(p:List Nat):Value:=
 match vs[s]?,p with
 |some (.agg cs),[j]=>zRQ (cs[j]?.getD (.bool ji))
 |some v,[]=>zRQ v
 |_,_=>.bool ji
def G0(vs:Array Value):Gh:={ hd:=hd0 vs,ad:=fun _ _=>default,lb:=fun _ _=>jg,ow:=fun _=>jg }
theorem yFj(w:World)(vs:Array Value):Mem ⟨zMh w,fun _=>False,w,0⟩ (G0 vs) w where
 one s p:=by
  simp only[G0,hd0];split
  ·exact zMj _
  ·exact zMj _
  ·rfl
 lb b o l h:=by simp[G0]at h
 ow b l h:=by simp[G0]at h
 st b x h:=h
 fr b _ _:=rfl
 sz:=Je _
 bk:=⟨fun b cs e h=>⟨cs,h,rfl⟩,rfl,rfl⟩
def RdA(P:Program)(t:TypeId){α:Type}(u:α->T)(V:α->Prop):Prop:=
 ∀{H:Type}(enc:TypeId×Value->H)(w:World)(base fuel:Nat)(v:Value)(x:DataW H×List MemPlace),DataW.trod enc P w 0 (fun _=>jh) jh fuel t v.cells.toList=jf x->
  Value.okWide P w .any base t v-> ∃d,V d/\ ∀(vs:Array Value)(s:Nat),vs[s]? =jf v->jf v=jf (mkV (G0 vs) s (u d) [])/\R (zMh w) (G0 vs) w s (u d) []
def RdC(P:Program)(t:TypeId){α:Type}(u:α->T)(V:α->Prop):Prop:=
 ∀{H:Type}(enc:TypeId×Value->H)(w:World)(fuel:Nat)(c:Value)(x:DataW H×List MemPlace),DataW.trod enc P w 0 (fun _=>jh) jh fuel t [c]=jf x->
  ∃d,V d/\c.oneCell'=jh/\ ∀(G:Gh)(s:Nat)(p:List Nat),G.hd s p=c->vals G s (u d) p=[c]/\R (zMh w) G w s (u d) p
section
variable {P:Program}
theorem yBb{t:TypeId}{q:IntKind}(hu:P.underlying t=jf (.int q)):RdC P t (IK q) (fun n=>(Lit.int q n).wf=jh):=by intro H enc w fuel c x h;obtain⟨n,h1,_,hw⟩:=DataW.trod_int hu h;simp only[Qd.injEq,and_true]at h1;subst h1;exact⟨n,hw,rfl,fun G s p hp=>⟨by simp only[vals,hp],by simp only[R,hp]⟩⟩
theorem yDl{α:Type}{f:α->T}{V:α->Prop}{t:TypeId}(h:RdT P t 1 f V)(h1:∀{H:Type}(enc:TypeId×Value->H)(w:World)(fuel:Nat)(c:Value)(x:DataW H×List MemPlace),DataW.trod enc P w 0 (fun _=>jh) jh fuel t [c]=jf x->c.oneCell'=jh):
  RdC P t (fun x=>T.ro (f x)) V:=by
 intro H enc w fuel c x hx;obtain⟨d,g1,g2⟩:=h enc w fuel [c] x hx rfl;refine⟨d,g1,h1 enc w fuel c x hx,fun G s p hp=>⟨by simp only[vals,hp],?_⟩⟩;simp only[R,hp];exact g2 _ _ fun i v hv=>by
  cases i with
  |zero=>simpa using hv
  |succ i=>simp at hv
theorem yBc{α:Type}{f:α->T}{V:α->Prop}{t:TypeId}(hu:P.underlying t=jf (.slice e))(hk:P.cellsOf e=k)(fe:0<k)(h:RdT P e k f V):RdC P t (fun xs=>T.ro (L k f xs)) (fun xs=>xs.length<=maxLen/\ ∀x∈xs,V x):=
 yDl (yBa hu hk fe h) fun enc w fuel c x hx=>by
  rcases DataW.trod_slice hu hx with⟨h1,_⟩|⟨a,len,cap,_,_,_,_,h1,_⟩<;>
  ·simp only[Qd.injEq,and_true]at h1
   subst h1;rfl
theorem zIF{w:World}{base:Nat}{t:TypeId}{fs:Array Field}{v:Value}(hu:P.underlying t=jf (.struct fs))(h:Value.okWide P w .any base t v):∃cs,v=.agg cs/\cs.size=P.cellsOf t:=by simp only[Value.okWide,hu]at h;obtain⟨cs,h1,h2,_⟩:=h;exact⟨cs,h1,h2⟩
theorem zZU{β γ δ:Type}{ua:α->T}{ub:β->T}{uc:γ->T}{Va:α->Prop}{Vb:β->Prop}{Vc:γ->Prop}{t:TypeId}{f0 f1 f2:Field}(mk:α->β->γ->δ){u:δ->T}{V:δ->Prop}
  (hu:P.underlying t=jf (.struct #[f0,f1,f2]))(hc:P.cellsOf t=3)(h0:f0.offset=0/\P.cellsOf f0.type=1)(h1:f1.offset=1/\P.cellsOf f1.type=1)(h2:f2.offset=2/\P.cellsOf f2.type=1)
  (ra:RdC P f0.type ua Va)(rb:RdC P f1.type ub Vb)(rc:RdC P f2.type uc Vc)(hmk:∀a b c,u (mk a b c)=T.agg [ua a,ub b,uc c])(hV:∀a b c,Va a->Vb b->Vc c->V (mk a b c)):RdA P t u V:=by
 intro H enc w base fuel v x hx gz;obtain⟨cs,rfl,gr⟩:=zIF hu gz;obtain⟨l,rfl⟩:∃l:List Value,cs=l.toArray:=⟨cs.toList,by simp⟩;rw[hc,Jbm]at gr;obtain⟨c0,c1,c2,rfl⟩:∃a b c,l=[a,b,c]:=by
  match l,gr with
  | [a,b,c],_=>exact⟨a,b,c,rfl⟩
 simp only[Value.cells]at hx;obtain⟨n0,y0,g0⟩:=zK6 hu hx (i:=0) rfl h0.1 h0.2;obtain⟨n1,y1,g1⟩:=zK6 hu hx (i:=1) rfl h1.1 h1.2;obtain⟨n2,y2,g2⟩:=zK6 hu hx (i:=2) rfl h2.1 h2.2;simp only[List.drop_succ_cons,Uf,L5,Kd]at g0 g1 g2;obtain⟨a,a1,a2,a3⟩:=ra enc w n0 c0 _ g0;obtain⟨b,b1,b2,b3⟩:=rb enc w n1 c1 _ g1;obtain⟨c,e1,e2,e3⟩:=rc enc w n2 c2 _ g2;refine⟨mk a b c,hV a b c a1 b1 e1,fun vs s cY=>?_⟩;have k0:(G0 vs).hd s [0]=c0:=by simp[G0,hd0,cY,zK7 a2]
 have k1:(G0 vs).hd s [1]=c1:=by simp[G0,hd0,cY,zK7 b2]
 have k2:(G0 vs).hd s [2]=c2:=by simp[G0,hd0,cY,zK7 e2]
 rw[hmk];simp only[mkV,yE,(a3 _ _ _ k0).1,(b3 _ _ _ k1).1,(e3 _ _ _ k2).1,K9,K0,R,RF];exact⟨trivial,(a3 _ _ _ k0).2,(b3 _ _ _ k1).2,(e3 _ _ _ k2).2,trivial⟩
end
theorem FnC.top{f:FuncId}(h:FnC P f us [B jh] []){w:World}{vs:Array Value}(gr:vs.size=us.length)
  (ha:∀(i:Nat) u,us[i]? =jf u->vs[i]? =jf (mkV (G0 vs) i u [])/\R (zMh w) (G0 vs) w i u []):
  Calls P f vs w fun e w'=>e=.returned (.bool jh)/\w'.os=w.os/\w'.output=w.output/\w.heap.size<=w'.heap.size/\ ∀b,b<w.heap.size->w'.heap[b]? =w.heap[b]?:=by
 refine(h (zMh w) (fun _=>False) w (G0 vs) vs gr (fun i u hu=>?_) (yFj w vs)).mono fun e w'=>?_
 ·obtain⟨h1,h2⟩:=ha i u hu
  refine⟨?_,h2⟩;rw[h1]
 ·rintro⟨S',G',nd,_,he,hm,fX,hr,_,_⟩
  match nd,fX with
  | [(s,p,t)],fX=>
   simp only[Ju,Le,Qd.injEq,and_true]at fX;subst fX;have:=(hr (s,p,B jh) (by simp)).1;simp only[R]at this;exact⟨by rw[he];simp only[zLO,sD,this],hm.bk.os,hm.bk.out,hm.sz,fun b hb=>hm.fr b hb (fun h=>h)⟩
theorem zDw{H:Type}{enc:TypeId×Value->H}{P:Program}(hl:laidOutB P=jh){W W':World}{sp:Nat->Bool}:∀{ts:List TypeId}{vs:List Value}{ds:List (DataW H)}{ps:List MemPlace},(∀t∈ts,P.readableRec t=jh/\t<P.types.size)->
  DataW.TrodAll enc P W 0 (fun _=>jh) jh ts vs ds ps->(∀p∈ps,W.sameAt W' p)->(∀p∈ps,sp p.block=jh)->DataW.TrodAll enc P W' 0 sp jh ts vs ds ps
 | [],[],[],_,_,h,_,_=>h
 |t::ts,v::vs,d::ds,ps,hr,h,h1,h2=>by
  obtain⟨p,q,g1,g2,rfl⟩:=h;exact⟨p,q,Go.WideElems.Trod_stays hl (hr t (by simp)).1 (hr t (by simp)).2 g1 (fun x hx=>h1 x (by simp[hx])) (fun x hx=>h2 x (by simp[hx])),
   zDw hl (fun t' ax=>hr t' (by simp[ax])) g2 (fun x hx=>h1 x (by simp[hx])) (fun x hx=>h2 x (by simp[hx])),rfl⟩
 | [],_::_,_,_,_,h,_,_| [],[],_::_,_,_,h,_,_|_::_,[],_,_,_,h,_,_|_::_,_::_,[],_,_,h,_,_=>h.elim
theorem zOr{C:Checked}{os:Os}(own:ownKnob C.prog.godebug=jg)(started:os.Started){f:FuncId}(noInit:C.prog.inits.idxOf? f=jg)(iJ:C.prog.funcs[f]? =jf fn){H:Type}{enc:TypeId×Value->H}{s:ChangeSpec}{conds:List PathCond}{apart fresh handsOn again:Bool}
  (witness:∃(w:World)(tape:Tape)(i:Input),w.os=os/\(w.forCall tape i).Shaped C.prog/\i.vars=[]/\Input.okWide C.prog (w.forCall tape i) .any w.heap.size f i/\
   s.pre6 enc C.prog fn conds apart (w.forCall tape i).memory i.args/\Assume.holds {} C.prog (lone (Frame.enter C.prog f i.args .normal) [] (w.forCall tape i)))
  (hs:∀(l:List (DataW H)),l.length=fn.params.size->(s.fn H l).results=[.lit (.bool jh)]/\(s.fn H l).args=l/\(s.fn H l).vars=[])(ms:s.vars=[]){tb:TypeId}(fh:fn.resultTypes= #[tb])(hb:C.prog.underlying tb=jf .bool)
  (laid:laidOutB C.prog=jh)(aD:fn.params.toList.all (fun t=>C.prog.readableRec t&&decide (t<C.prog.types.size))=jh)
  (law:∀(W:World)(base:Nat)(args:Array Value)(ds:List (DataW H))(p:List MemPlace),(∀(j:Nat) t v,fn.params[j]? =jf t->args[j]? =jf v->Value.okWide C.prog W .any base t v)->
   DataW.TrodAll enc C.prog W 0 (fun _=>jh) jh fn.params.toList args.toList ds p->
   ∃us:List T,args.size=us.length/\FnC C.prog f us [B jh] []/\ ∀(i:Nat) u,us[i]? =jf u->args[i]? =jf (mkV (G0 args) i u [])/\R (zMh W) (G0 args) W i u []):
  ReturnsInHanded {} C os f .any (s.pre6 enc C.prog fn conds apart) (s.post enc C.prog fn apart fresh handsOn again):=by
 refine returnsInHanded_of_change (C:=C) own started noInit iJ witness ?_;intro W base args ds gs before hval hW _ _;have bJ:=hW;obtain⟨p,q,hA,hV,hbq,hfz,fX⟩:=hW;obtain⟨us,h1,h2,h3⟩:=law W base args ds p hval hA;have hl:ds.length=fn.params.size:=by
  have:∀{ts:List TypeId}{vs:List Value}{ds:List (DataW H)}{p:List MemPlace},DataW.TrodAll enc C.prog W 0 (fun _=>jh) jh ts vs ds p->ds.length=ts.length:=by
   intro ts
   induction ts with
   |nil=>intro vs ds p h;cases vs<;>cases ds<;>first|rfl|exact h.elim
   |cons t ts ih=>intro vs ds p h;cases vs<;>cases ds<;>first|exact h.elim|(obtain⟨_,_,_,g,_⟩:=h;simp[ih g])
  simpa using this hA
 rw[ms]at hV;have hq:gs=[]/\q=[]:=by
  cases gs with
  |nil=>exact⟨rfl,hV⟩
  |cons _ _=>exact hV.elim
 obtain⟨rfl,rfl⟩:=hq;have gC:=bJ.lt;refine(h2.top h1 h3).mono fun e w' ⟨he,ho,hq,gr,hh⟩=>⟨_,he,?_⟩
 have gQ:∀p∈before,W.sameAt w' p:=fun p hp=>by
  have:=gC p hp;cases p with
  |cell b off=>simp only[World.sameAt,World.cell?,hh b this]
  |map b=>exact hh b this
 obtain⟨k1,k2,k3⟩:=hs ds hl;have hbp:before=p:=by simpa using hbq
 subst hbp;have gN:∀t∈fn.params.toList,C.prog.readableRec t=jh/\t<C.prog.types.size:=fun t ht=>by have:=Kj.1 aD t ht;simpa using this
 have gw:∀(b:Nat)(sp:Nat->Bool)(hd:Bool),DataW.TrodAll enc C.prog w' b sp hd fn.resultTypes.toList ((Value.bool jh).resultList fn.resultTypes.size) (s.fn H (ds++[])).results []:=fun b sp hd=>by rw[fh,Jh,k1];exact⟨[],[],⟨1,by simp[DataW.trod,hb,Value.cells]⟩,⟨rfl,rfl⟩⟩
 have gj:∀sp:Nat->Bool,(∀p∈before,sp p.block=jh)->DataW.TrodAll enc C.prog w' 0 sp jh fn.params.toList args.toList (s.fn H (ds++[])).args before:=fun sp p8=>by rw[Jh,k2];exact zDw laid gN hA gQ p8
 have ah:∀sp:Nat->Bool,DataW.TrodVars enc C.prog w' sp s.vars (s.fn H (ds++[])).vars []:=fun sp=>by rw[ms,Jh,k3];rfl
 have gD:∀p∈before,(fun b=>decide (b<W.heap.size)) p.block=jh:=fun p hp=>by simpa using gC p hp
 have mj:∀p∈before,∀o,w'.frozen? ⟨p.block,o,jg⟩=W.frozen? ⟨p.block,o,jg⟩:=fun p hp o=>by simp only[World.frozen?,hh _ (gC p hp)]
 refine⟨ds,[],before,[],before,[],bJ,gw _ _ _,gj _ gD,ah _,⟨ho,hq,fun i hi=>?_⟩,fun _=>⟨fun j t r hj hr=>?_,_,_,([]++before)++[],⟨[]++before,[],trodAll_append (gj _ (fun _ _=>rfl)) (gw _ _ _),ah _,rfl,fun b off hp=>?_,fun ha=>?_⟩,fun p hp _=>?_⟩⟩
 ·rw[hh i hi]
  cases hx:W.heap[i]? with
  |none=>rfl
  |some o=>cases o<;>simp
 ·rw[fh]at hj hr
  match j,hj,hr with
  |0,hj,hr=>
   simp[Value.resultList]at hj hr;subst hj;subst hr;simp[Value.okWide,hb,Cell.okWide,Cell.ok]
 ·have cP:MemPlace.cell b off∈before:=by simpa using hp
  exact(mj _ cP off).trans (hfz b off cP)
 ·have:=fX ha
  simpa using this
 ·simpa using hp
def jA(hs:List Nat)(E:Env):Prop:=∀s,hs.contains s=jh-> ∃t,E s=jf t/\kE t=jh
def yBd(hs:List Nat)(z:Nat×Option T):Bool:=!hs.contains z.1||match z.2 with
 |some t=>kE t
 |none=>ji
def wrS(hs:List Nat)(X:Stp):Bool:=X.l.all fun y=>y.1.all (yBd hs)
theorem zMk{s:Nat}{x:Option T}:∀{wr:Wr},wr.find s=jf x->(s,x)∈wr
 | [],h=>by grind[Wr.find]
 |(k,y)::wr,h=>by
  simp only[Wr.find]at h;split at h
  ·grind
  ·exact Qn _ (zMk h)
theorem jA.apps{hs:List Nat}:∀(l:zBU)(E:Env),jA hs E->(l.all fun y=>y.1.all (yBd hs))=jh->jA hs (E.apps l)
 | [],_,h,_=>h
 |x::l,E,h,hw=>by
  simp only[Un,J4]at hw;refine jA.apps l (E.app x.1 x.2) (fun s gF=>?_) hw.2;obtain⟨t,he,ht⟩:=h s gF;unfold Env.app;cases hf:x.1.find s with
  |some y=>
   have h1:=Kj.1 hw.1 _ (zMk hf);simp only[yBd,gF,Kb,Bool.false_or]at h1
   grind
  |none=>grind[tE]
theorem jA.runD{hs:List Nat}:∀(l:List (Bool×Stp))(E:Env),jA hs E->(∀y∈l,wrS hs y.2=jh)->jA hs (runD E l)
 | [],_,h,_=>h
 |(b,X)::l,E,h,hw=>by
  simp only[Go.Ab.runD];refine jA.runD l _ ?_ fun y hy=>hw y (by simp[hy])
  cases b with
  |true=>exact jA.apps X.l E h (hw (jh,X) (by simp))
  |false=>exact h
section
variable {P:Program}{Γ:Ctx}{pn:sH}{E E':Env}{Q:Exit->Env->Prop}{ops:Array Oper}{o:Oper}{os:List Oper}{id:Nat}{wr:Wr}{chg:Chg}{hs:List Nat}
def zH2(P:Program)(Γ:Ctx)(pn:sH)(ops:Array Oper)(o:Oper)(E E':Env):Prop:=
 ∀(a:Act)(w:World)(K:Act->World->Prop)(Q:Exit->Act->World->Prop),pn.Hold a->qJ Γ E a w->(∀a' w',qJ Γ E' a' w'->(∀s,o.dst≠jf s->a'.tmps[s]? =a.tmps[s]?)->K a' w')->
  if Region.wanted o (yielded ops a.tmps)then o.wp P a w K Q\/(o.asks P a w/\LetsOut Q)else K (a.put o.dst undef) w
def vY(P:Program)(Γ:Ctx)(pn:sH)(hs:List Nat)(ops:Array Oper):List Oper->List Stp->Prop
 | [],[]=>True
 |o::os,X::Xs=>(∀E:Env,E.Has X.rd->jA hs E->zH2 P Γ pn ops o E (E.apps X.l))/\vY P Γ pn hs ops os Xs
 |_,_=>False
theorem vY.get:∀(os:List Oper)(Xs:List Stp),vY P Γ pn hs ops os Xs->os.length=Xs.length/\ ∀(i:Nat)(o:Oper)(X:Stp),os[i]? =jf o->Xs[i]? =jf X-> ∀E:Env,E.Has X.rd->jA hs E->zH2 P Γ pn ops o E (E.apps X.l)
 | [],[],_=>by simp
 |o::os,X::Xs,h=>by
  obtain⟨h1,h2⟩:=vY.get os Xs h.2;refine⟨by simp[h1],fun i o' X' ho hX=>?_⟩;cases i with
  |zero=>simp at ho hX;subst ho hX;exact h.1
  |succ i=>exact h2 i o' X' (by simpa using ho) (by simpa using hX)
 | [],_::_,h=>by simp[vY]at h
 |_::_,[],h=>by simp[vY]at h
theorem vY.snoc{X:Stp}:∀(os:List Oper)(Xs:List Stp),vY P Γ pn hs ops os Xs->(∀E:Env,E.Has X.rd->jA hs E->zH2 P Γ pn ops o E (E.apps X.l))->vY P Γ pn hs ops (os++[o]) (Xs++[X])
 | [],[],_,h=>⟨h,trivial⟩
 |_::os,_::Xs,h1,h=>⟨h1.1,vY.snoc os Xs h1.2 h⟩
 | [],_::_,h,_=>by simp[vY]at h
 |_::_,[],h,_=>by simp[vY]at h
theorem sO.snoc{X:Stp}:∀(Xs:List Stp)(E:Env),sO E Xs->(runD E (Xs.map fun y=>(jh,y))).Has X.rd->sO E (Xs++[X])
 | [],_,_,h=>⟨by grind[runD],trivial⟩
 |_::Xs,_,h1,h=>⟨h1.1,sO.snoc Xs _ h1.2 (by simpa[runD]using h)⟩
theorem zK8{E0:Env}{ep:List Nat}{an:List (List Nat)}{Q':Exit->Act->World->Prop}(hf:zA6 0 ops.toList=jh)(ha:kY an an ops.toList=jh)(hp:jH Xs 0 an Xs=jh)
  (gA:vY P Γ pn ep ops ops.toList Xs)(hI:jA ep E0)(hw:Xs.all (wrS ep)=jh)(hh:sO E0 Xs)(aF:ops.toList.all (fun o=>pn.ok o.dst)=jh)(hQ:∀a' w',qJ Γ (runD E0 (Xs.map fun y=>(jh,y))) a' w'->pn.Hold a'->Q' .normal a' w'):
  ∀(fuel:Nat)(L:List Bool)(a:Act)(w:World),L.length=ops.size->L.count ji=fuel->zTU ops L->qJ Γ (runD E0 (L.zip Xs)) a w->pn.Hold a->wpAny P .any ops Q' fuel L.toArray a w:=by
 obtain⟨gf,cx⟩:=vY.get _ _ gA;have mK:Xs.length=ops.size:=by grind
 intro fuel
 induction fuel with
 |zero=>
  intro L a w hL hcnt gy hs fH;have pS:∀b∈L,b=jh:=by grind
  have jd:L=J1 ops.size jh:=by rw[<-hL];exact List.eq_replicate_iff.2 ⟨rfl,pS⟩
  refine⟨?_,?_⟩
  ·apply List.eq_nil_iff_forall_not_mem.2
   intro j hj;obtain⟨h1,o,ho,_⟩:=mem_ready.1 hj;have gC:=(H7.1 ho).1;rw[jd]at h1;simp[gC]at h1
  ·refine hQ a w ?_ fH
   have:L.zip Xs=Xs.map fun y=>(jh,y):=by
    rw[jd,<-mK]
    clear hs hL jd pS hcnt gy gA hw hh hp gf mK cx hQ
    induction Xs with
    |nil=>rfl
    |cons X Xs ih=>simp[Jv,ih]
   grind
 |succ fuel ih=>
  intro L a w hL hcnt gy hs fH;refine⟨fun hr=>?_,fun i hi=>?_⟩
  ·
   exfalso
   have ph:∃m:Nat,L[m]? =jf ji:=by
    have:ji∈L:=by grind
    grind[Qe]
   obtain⟨m,hm,fc⟩:=zDt ph;have hmlt:=(Jm.1 hm).1;have dx:ops[m]? =jf ops[m]:=by simp
   have:m∈Region.ready .any ops L.toArray:=by
    refine mem_ready.2 ⟨by simp_all,ops[m],dx,fun e he hb=>?_⟩;have hpm:e.on∈zBg ops[m]:=by
     simp only[zBg,Jc,Jb7]
     grind
    have gC:=zG7 ops.toList 0 m _ hf (by simp) _ hpm;rw[Ji]at gC;cases hL1:L[e.on]? with
    |none=>grind
    |some b=>
     cases b with
     |false=>grind
     |true=>simp_all
   grind
  ·obtain⟨h1,o,ho,pS⟩:=mem_ready.1 hi
   have gC:=(H7.1 ho).1;have hLi:L[i]? =jf ji:=by simp_all
   have eh:∀m∈zBg o,L[m]? =jf jh:=by
    intro m hm;simp only[zBg,Jc,Jb7]at hm;obtain⟨e,⟨he,hb⟩,rfl⟩:=hm;have:=pS e (by grind) hb;cases hL1:L[e.on]? with
    |none=>grind
    |some b=>simp_all
   have hanc:=zHp hf ha gy i i (Je _) o ho eh;have tw:Xs[i]? =jf Xs[i]:=by simp
   generalize hXe:Xs[i]=X at tw
   have aS:∀(j:Nat)(Y:Stp),Xs[j]? =jf Y->i<j->L[j]? =jf jh->X.apart Y=jh:=by
    intro j Y hY gI hj;rcases zFw Xs Xs 0 an j Y hp hY i X (by omega) tw with h|h
    ·have hjlt:=(Jm.1 hY).1
     have hoj:ops[j]? =jf ops[j]:=by simp
     have:=zHp hf ha gy j j (Je _) _ hoj (gy j _ hoj hj) i h
     grind
    ·exact h
   have bz:∀(j:Nat)(Y:Stp),Xs[j]? =jf Y->j<i->L[j]? =jf ji->Y.apart X=jh:=by grind[zFw]
   have mb:∀y∈(L.take i).zip (Xs.take i),∃j:Nat,j<i/\L[j]? =jf y.1/\Xs[j]? =jf y.2:=by
    intro y hy;obtain⟨j,g1,g2⟩:=zK1 hy;rw[Hd]at g1 g2
    grind
   have mE:∀y∈(L.drop (i+1)).zip (Xs.drop (i+1)),∃j:Nat,i<j/\L[j]? =jf y.1/\Xs[j]? =jf y.2:=by
    intro y hy;obtain⟨j,g1,g2⟩:=zK1 hy;rw[Ly]at g1 g2
    grind
   have p8:=zJo hLi tw;have iH:(runD E0 (L.zip Xs)).Has X.rd:=by
    rw[p8,kD];simp only[runD,Hs,if_false];have h0:=sO.get Xs E0 hh i X tw;refine h0.of fun s t gA ep=>?_
    have hsm:s∈X.rd.map (·.1):=by grind
    refine zJn _ _ (fun y hy hb=>?_) ?_
    ·obtain⟨j,g1,g2,g3⟩:=mE y hy
     have:=Stp.apart_spec (aS j y.2 g3 g1 (by rw[g2,hb]));exact⟨by grind,by grind⟩
    ·have hmp:((L.take i).zip (Xs.take i)).map (fun y=>(jh,y.2))=(Xs.take i).map fun y=>(jh,y):=by
      have aT:(L.take i).length=(Xs.take i).length:=by simp;omega
      rw[show(fun y:Bool×Stp=>(jh,y.2))=(fun y=>(jh,y))∘Prod.snd from rfl,<-Jaz,List.map_snd_zip (by omega)]
     refine zJm _ E0 E0 (fun y hy hb gF=>?_) (fun _ h=>h) t (by grind);obtain⟨j,g1,g2,g3⟩:=mb y hy;have:=Stp.apart_spec (bz j y.2 g3 g1 (by rw[g2,hb]))
     grind
   have hnext:runD E0 ((L.set i jh).zip Xs)=(runD E0 (L.zip Xs)).apps X.l:=by
    have hLs:(L.set i jh)[i]? =jf jh:=by grind
    rw[zJo hLs tw,p8,kD,kD];simp only[runD,if_true,Hs,if_false,List.take_set_of_le (Je i),List.drop_set_of_lt (Nat.lt_succ_self i)];refine zFv _ X _ fun y hy hb=>?_
    obtain⟨j,g1,g2,g3⟩:=mE y hy;exact(Stp.apart_spec (by grind)).1
   have u4:=cx i o X (by grind) tw _ iH (jA.runD (L.zip Xs) E0 hI fun y hy=>Kj.1 hw _ (by obtain⟨j,_,g⟩:=zK1 hy;grind));unfold wpOp;simp only[ho];refine u4 a w _ Q' fH hs fun a' w' gF mj=>?_
   rw[List.setIfInBounds_toArray];have gz:pn.ok o.dst=jh:=by grind
   refine ih (L.set i jh) a' w' (by simp[hL]) (by grind) ?_ (by grind) (fH.frame gz mj);intro k ok hk hkt m hm
   by_cases hki:k=i
   ·subst hki
    rw[ho]at hk;simp at hk;subst hk;rw[Jan];split
    ·grind
    grind
   ·rw[Jb0 (Ne.symm hki)]at hkt
    rw[Jan];split
    ·grind
    ·exact gy k ok hk hkt m hm
theorem CW.drawnI{ep:List Nat}{id:Nat}{E:Env}{Q:Exit->Env->Prop}(Xs:List Stp)(an:List (List Nat))(hm:P.follows .mixedOrders=jh)(gA:vY P Γ pn ep ops ops.toList Xs)(hI:jA ep E)(hw:Xs.all (wrS ep)=jh)(hh:sO E Xs)
  (hQ:Q .normal (runD E (Xs.map fun y=>(jh,y))))(hf:zA6 0 ops.toList=jh:=by rfl)(ha:kY an an ops.toList=jh:=by rfl)(hp:jH Xs 0 an Xs=jh:=by rfl)
  (aF:ops.toList.all (fun o=>pn.ok o.dst)=jh:=by rfl):CW P Γ pn (.region id ops jh) E Q:=by
 intro a w Q' hs fH hQ';refine wp_region_any hm ?_;have gF:qJ Γ E a { w with drawn:=w.drawn+1 }:=by obtain⟨S,hS,gJ,G,hr⟩:=hs;exact⟨S,hS,gJ,G,hr.heap rfl⟩
 have:=zK8 (P:=P) (Γ:=Γ) (pn:=pn) (E0:=E) (Q':=Q') hf ha hp gA hI hw hh aF (by grind) ops.size (J1 ops.size ji) a { w with drawn:=w.drawn+1 } (by simp) (by simp)
  (fun i o ho hi=>by
   grind) (by
   have:runD E ((J1 ops.size ji).zip Xs)=E:=by
    generalize ops.size=n
    clear gA hI hw hh hQ hf ha hp gF
    induction n generalizing Xs with
    |zero=>simp[runD]
    |succ n ih=>
     cases Xs with
     |nil=>simp[runD]
     |cons X Xs=>simpa[Jv,runD]using ih Xs
   grind) fH
 grind
def DK(P:Program)(Γ:Ctx)(pn:sH)(ops:Array Oper)(id:Nat)(hs:List Nat)(E0:Env)(Q:Exit->Env->Prop)(os:List Oper)(E:Env)(acc:List Stp):Prop:=
 ∀don,don++os=ops.toList->vY P Γ pn hs ops don acc.reverse->sO E0 acc.reverse->E=runD E0 (acc.reverse.map fun y=>(jh,y))->CW P Γ pn (.region id ops jh) E0 Q
variable {E0:Env}{acc:List Stp}
theorem CW.dk(h:DK P Γ pn ops id [] E Q ops.toList E []):CW P Γ pn (.region id ops jh) E Q:=h [] rfl trivial trivial rfl
theorem CW.dkS(hs:List Nat)(h:DK P Γ pn ops id hs E Q ops.toList E []):CW P Γ pn (.region id ops jh) E Q:=h [] rfl trivial trivial rfl
theorem dGP(rd:List (Nat×T))(l:zBU)(gN:E.Has rd)(gA:∀E':Env,E'.Has rd->jA hs E'->zH2 P Γ pn ops o E' (E'.apps l))(k:DK P Γ pn ops id hs E0 Q os (E.apps l) (⟨rd,l⟩::acc)):DK P Γ pn ops id hs E0 Q (o::os) E acc:=by
 intro don hd hso hh hE;subst hE;have hr:=fun X=>G8 (a:=X) (as:=acc)
 refine k (don++[o]) (by simp[hd]) ?_ ?_ ?_
 ·grind[vY.snoc]
 ·grind[sO.snoc]
 ·rw[hr,K6,kD];rfl
theorem dGS(rd:List (Nat×T))(l:zBU)(gN:E.Has rd)(gA:∀E':Env,E'.Has rd->jA hs E'->wF P Γ ops o E' (E'.apps l))(k:DK P Γ pn ops id hs E0 Q os (E.apps l) (⟨rd,l⟩::acc)):DK P Γ pn ops id hs E0 Q (o::os) E acc:=
 dGP rd l gN (fun E' h h' a w K Q _=>gA E' h h' a w K Q) k
theorem dG(rd:List (Nat×T))(l:zBU)(gN:E.Has rd)(gA:∀E':Env,E'.Has rd->wF P Γ ops o E' (E'.apps l))(k:DK P Γ pn ops id hs E0 Q os (E.apps l) (⟨rd,l⟩::acc)):DK P Γ pn ops id hs E0 Q (o::os) E acc:=
 by grind[dGS]
def zUm(hs:List Nat)(E:Env):Bool:=hs.all fun s=>match E s with
 |some t=>kE t
 |none=>ji
theorem zUn(h:zUm hs E=jh):jA hs E:=by
 intro s gF;have h1:=Kj.1 h s (by grind)
 grind
theorem dN(an:List (List Nat))(hm:P.follows .mixedOrders=jh)(hQ:Q .normal E)(hf:zA6 0 ops.toList=jh:=by rfl)(ha:kY an an ops.toList=jh:=by rfl)(hp:jH acc.reverse 0 an acc.reverse=jh:=by rfl)
  (aF:ops.toList.all (fun o=>pn.ok o.dst)=jh:=by rfl)(tp:zUm hs E0=jh:=by rfl)(hw:acc.reverse.all (wrS hs)=jh:=by rfl):DK P Γ pn ops id hs E0 Q [] E acc:=by
 intro don hd gA hh hE
 grind[CW.drawnI,zUn]
end
section
variable {P:Program}{Γ:Ctx}{pn:sH}{E E':Env}{Q:Exit->Env->Prop}{ops:Array Oper}{o:Oper}{os:List Oper}{id d:Nat}{wr:Wr}{chg:Chg}{hs:List Nat}{E0:Env}{acc:List Stp}{x y:Operand}{ty:TypeId}{ps:String}{af:Array Edge}{gd:Option (Nat×Bool)}
class zGx (P:Program) (t:TypeId) (e:outParam TypeId):Prop where
 h:P.underlying t=jf (.slice e)
class qY (P:Program) (t:TypeId) (b:outParam Bool) (n:outParam Nat):Prop where
 h:∀u:T,u.single=b->u.size=n->zTY P t u
theorem hE{s:Nat}{t:T}(h:E.Has rd)(hr:vW rd s=jf t):E s=jf t:=h.le s t hr
theorem hO{t:T}(h:E.Has rd)(hr:opT (vW rd) x=jf t):opT E x=jf t:=by
 cases x<;>simp only[opT]at hr ⊢
 ·exact h.le _ _ hr
 all_goals exact hr
mutual
def zDL:T->Bool
 |.ro _|.lit _|.any=>jh
 |.agg xs|.tup xs=>zGC xs
 |.ptr t=>zDL t
 |.sl _ []=>jh
 |_=>ji
def zGC:List T->Bool
 | []=>jh
 |x::xs=>zDL x&&zGC xs
end
mutual
theorem zCS:{t:T}->zDL t=jh->zZ t
 |.ro _,_|.lit _,_|.any,_=>by simp[zZ,yU]
 |.agg xs,h|.tup xs,h=>by simp only[zDL]at h;simpa only[zZ,yU]using zH3 h
 |.ptr t,h=>by simp only[zDL]at h;exact zAq (zCS h)
 |.sl _ [],_=>by simp[zZ,yU,xP]
 |.sl _ (_::_),h=>by simp[zDL]at h
 |.same _ _,h|.addr _ _,h|.sub _ _ _ _ _,h=>by simp[zDL]at h
theorem zH3:{xs:List T}->zGC xs=jh->yZ xs
 | [],_=>trivial
 |x::xs,h=>by simp only[zGC,J4]at h;exact⟨zCS h.1,zH3 h.2⟩
end
theorem yFk{α:Type}{t:TypeId}{f:α->T}{xs:List α}{v:α}[ht:zAN P t e ti k](hx:tD E x=jf (r,q,L k f xs))(hy:opT E y=jf (I i))(hv:ixO xs i=jf v)(sd:J6 d Γ.N=jh):
  Ok P Γ ⟨jf d,.indexAddr t x y,ty,ps,af,gd⟩ E (E.app [(d,jf (.addr r (i.toNat::q)))] [(d,0)]):=yCR ht hv hx hy sd
theorem zZV{α:Type}{t:TypeId}{f:α->T}{xs:List α}{v:α}[ht:zAN P t e ti k](hx:tD E x=jf (r,q,.ro (L k f xs)))(hy:opT E y=jf (I i))(hv:ixO xs i=jf v)(sd:J6 d Γ.N=jh):
  Ok P Γ ⟨jf d,.indexAddr t x y,ty,ps,af,gd⟩ E (E.app [(d,jf (.ro (.ptr (f v))))] [(d,0)]):=zZJ ht hv hx hy sd
theorem zUo{t:TypeId}{b:Bool}{n:Nat}[i:qY P t b n](hx:opT E x=jf (.ro (.ptr u)))(h1:u.single=b)(h2:u.size=n)(sd:J6 d Γ.N=jh):Ok P Γ ⟨jf d,.load t x,ty,ps,af,gd⟩ E (E.app [(d,jf (roT u))] [(d,0)]):=yCS (i.h u h1 h2) hx sd
theorem zUp{t:TypeId}{tr:T}{b:Bool}{n:Nat}[i:qY P t b n](hx:opT E x=jf (.addr r q))(hr:E r=jf tr)(hg:tr.get q.reverse=jf u)(h1:u.single=b)(h2:u.size=n)(sd:(J6 d Γ.N&&tr.locd q.reverse&&(r != d)&&T.okB [(d,0)] (cpT r u q))=jh):
  Ok P Γ ⟨jf d,.load t x,ty,ps,af,gd⟩ E (E.app [(d,jf (cpT r u q))] [(d,0)]):=yFh (i.h u h1 h2) hx hr hg sd
theorem zMl{t:TypeId}{tr:T}{b:Bool}{n:Nat}[i:qY P t b n](hx:tD E x=jf (r,q,.ptr t0))(hr:E r=jf tr)(hg:tr.get (0::q).reverse=jf u)(h1:u.single=b)(h2:u.size=n)(sd:(J6 d Γ.N&&tr.locd (0::q).reverse&&(r != d)&&T.okB [(d,0)] (cpT r u (0::q)))=jh):
  Ok P Γ ⟨jf d,.load t x,ty,ps,af,gd⟩ E (E.app [(d,jf (cpT r u (0::q)))] [(d,0)]):=yDj (i.h u h1 h2) hx hr hg sd
theorem yDm{α:Type}{t:TypeId}{f:α->T}{xs:List α}[i:zGx P t e](hx:tD E x=jf (r,q,L k f xs))(sd:J6 d Γ.N=jh):
  Ok P Γ ⟨jf d,.call { callee:=.builtin .len,args:=#[x],argTypes:=#[t] },ty,ps,af,gd⟩ E (E.app [(d,jf (I (xs.length:Int)))] [(d,0)]):=zZK i.h hx sd
theorem zUq{α:Type}{t:TypeId}{f:α->T}{xs:List α}[i:zGx P t e](hx:tD E x=jf (r,q,.ro (L k f xs)))(sd:J6 d Γ.N=jh):
  Ok P Γ ⟨jf d,.call { callee:=.builtin .len,args:=#[x],argTypes:=#[t] },ty,ps,af,gd⟩ E (E.app [(d,jf (I (xs.length:Int)))] [(d,0)]):=zTX i.h hx sd
theorem xN(k:RW P Γ pn ops os (E.app wr chg) Q)(h:Ok P Γ o E (E.app wr chg):=by exact zRL rfl rfl)(hg:o.guard=jg:=by rfl)(hp:pn.ok o.dst=jh:=by rfl):RW P Γ pn ops (o::os) E Q:=oP h k hg hp
theorem yFl{g s:Nat}{b:Bool}(k:RW P Γ pn ops os (E.app wr chg) Q)(hg:o.guard=jf (g,b):=by rfl)(fm:(ops[g]?).bind (·.dst)=jf s:=by rfl)(hb:E s=jf (.lit (.bool b)):=by rfl)(h:Ok P Γ o E (E.app wr chg):=by exact zRL rfl rfl)(hp:pn.ok o.dst=jh:=by rfl):RW P Γ pn ops (o::os) E Q:=RW.cons (wF.guard g b s h hg fm hb) k hp
theorem uQ(k:RW P Γ pn ops os (E.app wr chg) Q)(h:Ok P Γ o E (E.app wr chg):=by exact zXV rfl rfl)(hg:o.guard=jg:=by rfl)(hp:pn.ok o.dst=jh:=by rfl):RW P Γ pn ops (o::os) E Q:=oP h k hg hp
theorem zMm(k:RW P Γ pn ops os (E.app wr chg) Q)(h:Ok P Γ o E (E.app wr chg):=by exact zUo rfl rfl rfl rfl)(hg:o.guard=jg:=by rfl)(hp:pn.ok o.dst=jh:=by rfl):RW P Γ pn ops (o::os) E Q:=oP h k hg hp
theorem zZW(k:RW P Γ pn ops os (E.app wr chg) Q)(h:Ok P Γ o E (E.app wr chg):=by exact zZV (by first|exact zAp rfl rfl|exact zDi rfl rfl (by first|rfl|exact yB (by assumption) rfl|exact yB (by assumption) (yB (by assumption) rfl)|exact wS rfl (yB (by assumption) rfl)|exact wR (yB (by assumption) rfl)|exact wR (wS rfl (yB (by assumption) rfl))|exact wR (wS rfl (yB (by assumption) (yB (by assumption) rfl)))) rfl) rfl (by assumption) rfl)(hg:o.guard=jg:=by rfl)(hp:pn.ok o.dst=jh:=by rfl):RW P Γ pn ops (o::os) E Q:=oP h k hg hp
theorem zUr(k:RW P Γ pn ops os (E.app wr chg) Q)(h:Ok P Γ o E (E.app wr chg):=by exact zUq (by first|exact zAp rfl rfl|exact zDi rfl rfl (by first|rfl|exact yB (by assumption) rfl|exact yB (by assumption) (yB (by assumption) rfl)|exact wS rfl (yB (by assumption) rfl)|exact wR (yB (by assumption) rfl)|exact wR (wS rfl (yB (by assumption) rfl))|exact wR (wS rfl (yB (by assumption) (yB (by assumption) rfl)))) rfl) rfl)(hg:o.guard=jg:=by rfl)(hp:pn.ok o.dst=jh:=by rfl):RW P Γ pn ops (o::os) E Q:=oP h k hg hp
theorem zBk(k:RW P Γ pn ops os (E.app wr chg) Q)(h:Ok P Γ o E (E.app wr chg):=by exact zTV (by assumption) rfl rfl rfl)(hg:o.guard=jg:=by rfl)(hp:pn.ok o.dst=jh:=by rfl):RW P Γ pn ops (o::os) E Q:=oP h k hg hp
theorem zQ4(k:RW P Γ pn ops os (E.app wr chg) Q)(h:Ok P Γ o E (E.app wr chg):=by exact zZI rfl rfl rfl)(hg:o.guard=jg:=by rfl)(hp:pn.ok o.dst=jh:=by rfl):RW P Γ pn ops (o::os) E Q:=oP h k hg hp
theorem zUs(k:RW P Γ pn ops os (E.app wr chg) Q)(h:Ok P Γ o E (E.app wr chg):=by exact zTZ rfl rfl rfl)(hg:o.guard=jg:=by rfl)(hp:pn.ok o.dst=jh:=by rfl):RW P Γ pn ops (o::os) E Q:=oP h k hg hp
theorem yDn(k:RW P Γ pn ops os (E.app wr chg) Q)(h:Ok P Γ o E (E.app wr chg):=by first|exact zUp rfl rfl rfl rfl rfl rfl|exact zUp rfl rfl (by first|rfl|exact yB (by assumption) rfl|exact yB (by assumption) (yB (by assumption) rfl)|exact wS rfl (yB (by assumption) rfl)|exact wR (yB (by assumption) rfl)|exact wR (wS rfl (yB (by assumption) rfl))|exact wR (wS rfl (yB (by assumption) (yB (by assumption) rfl)))) (by rfl) (by rfl) (by rfl))(hg:o.guard=jg:=by rfl)(hp:pn.ok o.dst=jh:=by rfl):RW P Γ pn ops (o::os) E Q:=oP h k hg hp
theorem zH4(k:RW P Γ pn ops os (E.app wr chg) Q)(h:Ok P Γ o E (E.app wr chg):=by first|exact zMl (by first|exact zAp rfl rfl|exact zDi rfl rfl (by first|rfl|exact yB (by assumption) rfl|exact yB (by assumption) (yB (by assumption) rfl)|exact wS rfl (yB (by assumption) rfl)|exact wR (yB (by assumption) rfl)|exact wR (wS rfl (yB (by assumption) rfl))|exact wR (wS rfl (yB (by assumption) (yB (by assumption) rfl)))) rfl) rfl rfl rfl rfl rfl|exact zMl (by first|exact zAp rfl rfl|exact zDi rfl rfl (by first|rfl|exact yB (by assumption) rfl|exact yB (by assumption) (yB (by assumption) rfl)|exact wS rfl (yB (by assumption) rfl)|exact wR (yB (by assumption) rfl)|exact wR (wS rfl (yB (by assumption) rfl))|exact wR (wS rfl (yB (by assumption) (yB (by assumption) rfl)))) rfl) rfl (by first|rfl|exact yB (by assumption) rfl|exact yB (by assumption) (yB (by assumption) rfl)|exact wS rfl (yB (by assumption) rfl)|exact wR (yB (by assumption) rfl)|exact wR (wS rfl (yB (by assumption) rfl))|exact wR (wS rfl (yB (by assumption) (yB (by assumption) rfl)))) (by rfl) (by rfl) (by rfl))(hg:o.guard=jg:=by rfl)(hp:pn.ok o.dst=jh:=by rfl):RW P Γ pn ops (o::os) E Q:=oP h k hg hp
theorem zJv(k:RW P Γ pn ops os (E.app wr chg) Q)(h:Ok P Γ o E (E.app wr chg):=by exact zHr (by assumption) rfl rfl rfl)(hg:o.guard=jg:=by rfl)(hp:pn.ok o.dst=jh:=by rfl):RW P Γ pn ops (o::os) E Q:=oP h k hg hp
theorem yDo(k:RW P Γ pn ops os (E.app wr chg) Q)(h:Ok P Γ o E (E.app wr chg):=by exact zZN rfl rfl rfl)(hg:o.guard=jg:=by rfl)(hp:pn.ok o.dst=jh:=by rfl):RW P Γ pn ops (o::os) E Q:=oP h k hg hp
theorem zZX(k:RW P Γ pn ops os (E.app wr chg) Q)(h:Ok P Γ o E (E.app wr chg):=by exact zZM rfl rfl rfl)(hg:o.guard=jg:=by rfl)(hp:pn.ok o.dst=jh:=by rfl):RW P Γ pn ops (o::os) E Q:=oP h k hg hp
theorem zGg(k:RW P Γ pn ops os (E.app wr chg) Q)(h:Ok P Γ o E (E.app wr chg):=by exact zZL rfl rfl rfl)(hg:o.guard=jg:=by rfl)(hp:pn.ok o.dst=jh:=by rfl):RW P Γ pn ops (o::os) E Q:=oP h k hg hp
theorem zUt(k:RW P Γ pn ops os (E.app wr chg) Q)(h:Ok P Γ o E (E.app wr chg):=by exact zUd inferInstance rfl rfl rfl rfl)(hg:o.guard=jg:=by rfl)(hp:pn.ok o.dst=jh:=by rfl):RW P Γ pn ops (o::os) E Q:=oP h k hg hp
theorem zOs(k:RW P Γ pn ops os (E.app wr chg) Q)(h:Ok P Γ o E (E.app wr chg):=by first|exact zCn rfl (zHy rfl) rfl|exact zCn rfl (isPtr_addr rfl) rfl|exact zCn rfl (zFz (by first|exact zAp rfl rfl|exact zDi rfl rfl (by first|rfl|exact yB (by assumption) rfl|exact yB (by assumption) (yB (by assumption) rfl)|exact wS rfl (yB (by assumption) rfl)|exact wR (yB (by assumption) rfl)|exact wR (wS rfl (yB (by assumption) rfl))|exact wR (wS rfl (yB (by assumption) (yB (by assumption) rfl)))) rfl)) rfl)(hg:o.guard=jg:=by rfl)(hp:pn.ok o.dst=jh:=by rfl):RW P Γ pn ops (o::os) E Q:=oP h k hg hp
theorem yDp(k:RW P Γ pn ops os (E.app wr chg) Q)(h:Ok P Γ o E (E.app wr chg):=by exact yFk (by first|exact zAp rfl rfl|exact zDi rfl rfl (by first|rfl|exact yB (by assumption) rfl|exact yB (by assumption) (yB (by assumption) rfl)|exact wS rfl (yB (by assumption) rfl)|exact wR (yB (by assumption) rfl)|exact wR (wS rfl (yB (by assumption) rfl))|exact wR (wS rfl (yB (by assumption) (yB (by assumption) rfl)))) rfl) rfl (by assumption) rfl)(hg:o.guard=jg:=by rfl)(hp:pn.ok o.dst=jh:=by rfl):RW P Γ pn ops (o::os) E Q:=oP h k hg hp
theorem zUu(k:RW P Γ pn ops os (E.app wr chg) Q)(h:Ok P Γ o E (E.app wr chg):=by exact yDm (by first|exact zAp rfl rfl|exact zDi rfl rfl (by first|rfl|exact yB (by assumption) rfl|exact yB (by assumption) (yB (by assumption) rfl)|exact wS rfl (yB (by assumption) rfl)|exact wR (yB (by assumption) rfl)|exact wR (wS rfl (yB (by assumption) rfl))|exact wR (wS rfl (yB (by assumption) (yB (by assumption) rfl)))) rfl) rfl)(hg:o.guard=jg:=by rfl)(hp:pn.ok o.dst=jh:=by rfl):RW P Γ pn ops (o::os) E Q:=oP h k hg hp
theorem zYd(k:RW P Γ pn ops os (E.app wr chg) Q)(h:Ok P Γ o E (E.app wr chg):=by exact zQs inferInstance rfl)(hg:o.guard=jg:=by rfl)(hp:pn.ok o.dst=jh:=by rfl):RW P Γ pn ops (o::os) E Q:=oP h k hg hp
theorem zQ5(k:RW P Γ pn ops os (E.app wr chg) Q)(h:Ok P Γ o E (E.app wr chg):=by exact zZO rfl rfl rfl)(hg:o.guard=jg:=by rfl)(hp:pn.ok o.dst=jh:=by rfl):RW P Γ pn ops (o::os) E Q:=oP h k hg hp
theorem zMn(k:RW P Γ pn ops os (E.app wr chg) Q)(h:Ok P Γ o E (E.app wr chg):=by exact zZP rfl (zCS rfl) rfl)(hg:o.guard=jg:=by rfl)(hp:pn.ok o.dst=jh:=by rfl):RW P Γ pn ops (o::os) E Q:=oP h k hg hp
theorem zZY(k:RW P Γ pn ops os (E.app wr chg) Q)(h:Ok P Γ o E (E.app wr chg):=by exact zZS rfl rfl)(hg:o.guard=jg:=by rfl)(hp:pn.ok o.dst=jh:=by rfl):RW P Γ pn ops (o::os) E Q:=oP h k hg hp
theorem zCr(rd:List (Nat×T))(k:DK P Γ pn ops id hs E0 Q os (E.app wr chg) (⟨rd,[(wr,chg)]⟩::acc))(gN:E.Has rd:=by exact Q0)(h:∀E':Env,E'.Has rd->Ok P Γ o E' (E'.app wr chg):=by intro E' h;exact zRL (hO h rfl) rfl)(hg:o.guard=jg:=by rfl):DK P Γ pn ops id hs E0 Q (o::os) E acc:=dG rd [(wr,chg)] gN (fun E' h'=>wF.op (h E' h') hg) k
theorem yBe(rd:List (Nat×T))(k:DK P Γ pn ops id hs E0 Q os (E.app wr chg) (⟨rd,[(wr,chg)]⟩::acc))(gN:E.Has rd:=by exact Q0)(h:∀E':Env,E'.Has rd->Ok P Γ o E' (E'.app wr chg):=by intro E' h;exact zXV (hO h rfl) rfl)(hg:o.guard=jg:=by rfl):DK P Γ pn ops id hs E0 Q (o::os) E acc:=dG rd [(wr,chg)] gN (fun E' h'=>wF.op (h E' h') hg) k
theorem zJw(rd:List (Nat×T))(k:DK P Γ pn ops id hs E0 Q os (E.app wr chg) (⟨rd,[(wr,chg)]⟩::acc))(gN:E.Has rd:=by exact Q0)(h:∀E':Env,E'.Has rd->Ok P Γ o E' (E'.app wr chg):=by intro E' h;exact zUo (hO h rfl) rfl rfl rfl)(hg:o.guard=jg:=by rfl):DK P Γ pn ops id hs E0 Q (o::os) E acc:=dG rd [(wr,chg)] gN (fun E' h'=>wF.op (h E' h') hg) k
theorem zZZ(rd:List (Nat×T))(k:DK P Γ pn ops id hs E0 Q os (E.app wr chg) (⟨rd,[(wr,chg)]⟩::acc))(gN:E.Has rd:=by exact Q0)(h:∀E':Env,E'.Has rd->Ok P Γ o E' (E'.app wr chg):=by intro E' h;exact zZV (by first|exact zAp (hE h rfl) rfl|exact zDi (hE h rfl) (hE h rfl) (by first|rfl|exact yB (by assumption) rfl|exact yB (by assumption) (yB (by assumption) rfl)|exact wS rfl (yB (by assumption) rfl)|exact wR (yB (by assumption) rfl)|exact wR (wS rfl (yB (by assumption) rfl))|exact wR (wS rfl (yB (by assumption) (yB (by assumption) rfl)))) rfl) (hO h rfl) (by assumption) rfl)(hg:o.guard=jg:=by rfl):DK P Γ pn ops id hs E0 Q (o::os) E acc:=dG rd [(wr,chg)] gN (fun E' h'=>wF.op (h E' h') hg) k
theorem yBf(rd:List (Nat×T))(k:DK P Γ pn ops id hs E0 Q os (E.app wr chg) (⟨rd,[(wr,chg)]⟩::acc))(gN:E.Has rd:=by exact Q0)(h:∀E':Env,E'.Has rd->Ok P Γ o E' (E'.app wr chg):=by intro E' h;exact zUq (by first|exact zAp (hE h rfl) rfl|exact zDi (hE h rfl) (hE h rfl) (by first|rfl|exact yB (by assumption) rfl|exact yB (by assumption) (yB (by assumption) rfl)|exact wS rfl (yB (by assumption) rfl)|exact wR (yB (by assumption) rfl)|exact wR (wS rfl (yB (by assumption) rfl))|exact wR (wS rfl (yB (by assumption) (yB (by assumption) rfl)))) rfl) rfl)(hg:o.guard=jg:=by rfl):DK P Γ pn ops id hs E0 Q (o::os) E acc:=dG rd [(wr,chg)] gN (fun E' h'=>wF.op (h E' h') hg) k
theorem yDq(rd:List (Nat×T))(k:DK P Γ pn ops id hs E0 Q os (E.app wr chg) (⟨rd,[(wr,chg)]⟩::acc))(gN:E.Has rd:=by exact Q0)(h:∀E':Env,E'.Has rd->Ok P Γ o E' (E'.app wr chg):=by intro E' h;exact zTV (by assumption) (hO h rfl) (hO h rfl) rfl)(hg:o.guard=jg:=by rfl):DK P Γ pn ops id hs E0 Q (o::os) E acc:=dG rd [(wr,chg)] gN (fun E' h'=>wF.op (h E' h') hg) k
theorem yDr(rd:List (Nat×T))(k:DK P Γ pn ops id hs E0 Q os (E.app wr chg) (⟨rd,[(wr,chg)]⟩::acc))(gN:E.Has rd:=by exact Q0)(h:∀E':Env,E'.Has rd->Ok P Γ o E' (E'.app wr chg):=by intro E' h;exact yDe inferInstance (by first|exact zAp (hE h rfl) rfl|exact zDi (hE h rfl) (hE h rfl) (by first|rfl|exact yB (by assumption) rfl|exact yB (by assumption) (yB (by assumption) rfl)|exact wS rfl (yB (by assumption) rfl)|exact wR (yB (by assumption) rfl)|exact wR (wS rfl (yB (by assumption) rfl))|exact wR (wS rfl (yB (by assumption) (yB (by assumption) rfl)))) rfl) rfl rfl rfl)(hg:o.guard=jg:=by rfl):DK P Γ pn ops id hs E0 Q (o::os) E acc:=dG rd [(wr,chg)] gN (fun E' h'=>wF.op (h E' h') hg) k
theorem yDs(rd:List (Nat×T))(k:DK P Γ pn ops id hs E0 Q os (E.app wr chg) (⟨rd,[(wr,chg)]⟩::acc))(gN:E.Has rd:=by exact Q0)(h:∀E':Env,E'.Has rd->Ok P Γ o E' (E'.app wr chg):=by intro E' h;first|exact zUp (hO h rfl) (hE h rfl) rfl rfl rfl rfl|exact zUp (hO h rfl) (hE h rfl) (by first|rfl|exact yB (by assumption) rfl|exact yB (by assumption) (yB (by assumption) rfl)|exact wS rfl (yB (by assumption) rfl)|exact wR (yB (by assumption) rfl)|exact wR (wS rfl (yB (by assumption) rfl))|exact wR (wS rfl (yB (by assumption) (yB (by assumption) rfl)))) (by rfl) (by rfl) (by rfl))(hg:o.guard=jg:=by rfl):DK P Γ pn ops id hs E0 Q (o::os) E acc:=dG rd [(wr,chg)] gN (fun E' h'=>wF.op (h E' h') hg) k
theorem zQ6(rd:List (Nat×T))(k:DK P Γ pn ops id hs E0 Q os (E.app wr chg) (⟨rd,[(wr,chg)]⟩::acc))(gN:E.Has rd:=by exact Q0)(h:∀E':Env,E'.Has rd->Ok P Γ o E' (E'.app wr chg):=by intro E' h;first|exact zMl (by first|exact zAp (hE h rfl) rfl|exact zDi (hE h rfl) (hE h rfl) (by first|rfl|exact yB (by assumption) rfl|exact yB (by assumption) (yB (by assumption) rfl)|exact wS rfl (yB (by assumption) rfl)|exact wR (yB (by assumption) rfl)|exact wR (wS rfl (yB (by assumption) rfl))|exact wR (wS rfl (yB (by assumption) (yB (by assumption) rfl)))) rfl) (hE h rfl) rfl rfl rfl rfl|exact zMl (by first|exact zAp (hE h rfl) rfl|exact zDi (hE h rfl) (hE h rfl) (by first|rfl|exact yB (by assumption) rfl|exact yB (by assumption) (yB (by assumption) rfl)|exact wS rfl (yB (by assumption) rfl)|exact wR (yB (by assumption) rfl)|exact wR (wS rfl (yB (by assumption) rfl))|exact wR (wS rfl (yB (by assumption) (yB (by assumption) rfl)))) rfl) (hE h rfl) (by first|rfl|exact yB (by assumption) rfl|exact yB (by assumption) (yB (by assumption) rfl)|exact wS rfl (yB (by assumption) rfl)|exact wR (yB (by assumption) rfl)|exact wR (wS rfl (yB (by assumption) rfl))|exact wR (wS rfl (yB (by assumption) (yB (by assumption) rfl)))) (by rfl) (by rfl) (by rfl))(hg:o.guard=jg:=by rfl):DK P Γ pn ops id hs E0 Q (o::os) E acc:=dG rd [(wr,chg)] gN (fun E' h'=>wF.op (h E' h') hg) k
theorem yDt(rd:List (Nat×T))(k:DK P Γ pn ops id hs E0 Q os (E.app wr chg) (⟨rd,[(wr,chg)]⟩::acc))(gN:E.Has rd:=by exact Q0)(h:∀E':Env,E'.Has rd->Ok P Γ o E' (E'.app wr chg):=by intro E' h;exact zHr (by assumption) (hO h rfl) (hO h rfl) rfl)(hg:o.guard=jg:=by rfl):DK P Γ pn ops id hs E0 Q (o::os) E acc:=dG rd [(wr,chg)] gN (fun E' h'=>wF.op (h E' h') hg) k
theorem yAa(rd:List (Nat×T))(k:DK P Γ pn ops id hs E0 Q os (E.app wr chg) (⟨rd,[(wr,chg)]⟩::acc))(gN:E.Has rd:=by exact Q0)(h:∀E':Env,E'.Has rd->Ok P Γ o E' (E'.app wr chg):=by intro E' h;exact zUd inferInstance (hO h rfl) rfl rfl rfl)(hg:o.guard=jg:=by rfl):DK P Γ pn ops id hs E0 Q (o::os) E acc:=dG rd [(wr,chg)] gN (fun E' h'=>wF.op (h E' h') hg) k
theorem zUv(rd:List (Nat×T))(k:DK P Γ pn ops id hs E0 Q os (E.app wr chg) (⟨rd,[(wr,chg)]⟩::acc))(gN:E.Has rd:=by exact Q0)(h:∀E':Env,E'.Has rd->Ok P Γ o E' (E'.app wr chg):=by intro E' h;first|exact zCn (hO h rfl) (zHy (hO h rfl)) rfl|exact zCn (hO h rfl) (isPtr_addr (hO h rfl)) rfl|exact zCn (hO h rfl) (zFz (by first|exact zAp (hE h rfl) rfl|exact zDi (hE h rfl) (hE h rfl) (by first|rfl|exact yB (by assumption) rfl|exact yB (by assumption) (yB (by assumption) rfl)|exact wS rfl (yB (by assumption) rfl)|exact wR (yB (by assumption) rfl)|exact wR (wS rfl (yB (by assumption) rfl))|exact wR (wS rfl (yB (by assumption) (yB (by assumption) rfl)))) rfl)) rfl)(hg:o.guard=jg:=by rfl):DK P Γ pn ops id hs E0 Q (o::os) E acc:=dG rd [(wr,chg)] gN (fun E' h'=>wF.op (h E' h') hg) k
theorem cA{f:FuncId}{xs:List Operand}{res:List T}(gn:kQ P f)(hc:FnC P f us res [])(k:RW P Γ pn ops os (E.app (cWr d res []) (uC d [])) Q)(gj:xK E [] 0 xs us:=by repeat (first|exact trivial|refine⟨agC _ rfl (by first|rfl|exact zUb inferInstance|exact zOn rfl (by first|rfl|exact yB (by assumption) rfl|exact yB (by assumption) (yB (by assumption) rfl)|exact wS rfl (yB (by assumption) rfl)|exact wR (yB (by assumption) rfl)|exact wR (wS rfl (yB (by assumption) rfl))|exact wR (wS rfl (yB (by assumption) (yB (by assumption) rfl)))) inferInstance|exact cloSR rfl (by first|rfl|exact yB (by assumption) rfl|exact yB (by assumption) (yB (by assumption) rfl)|exact wS rfl (yB (by assumption) rfl)|exact wR (yB (by assumption) rfl)|exact wR (wS rfl (yB (by assumption) rfl))|exact wR (wS rfl (yB (by assumption) (yB (by assumption) rfl))))) rfl,?_⟩))(gw:zBj res:=by repeat (first|exact zFy|refine zMa inferInstance ?_))(sd:J6 d Γ.N=jh:=by rfl)(hg:gd=jg:=by rfl)(hp:pn.ok (jf d)=jh:=by rfl):
  RW P Γ pn ops (⟨jf d,.call { callee:=.value (.func f),args:=xs.toArray,argTypes:=ats },ty,ps,af,gd⟩::os) E Q:=oP (zOo gn hc gj gw sd) k hg hp
theorem dC{f:FuncId}{xs:List Operand}{res:List T}(rd:List (Nat×T))(gn:kQ P f)(hc:FnC P f us res [])(k:DK P Γ pn ops id hs E0 Q os (E.app (cWr d res []) (uC d [])) (⟨rd,[(cWr d res [],uC d [])]⟩::acc))(gN:E.Has rd:=by exact Q0)(gj:∀E':Env,E'.Has rd->xK E' [] 0 xs us:=by intro E' h;repeat (first|exact trivial|refine⟨agC _ (hO h rfl) (by first|rfl|exact zUb inferInstance|exact zOn (hE h rfl) (by first|rfl|exact yB (by assumption) rfl|exact yB (by assumption) (yB (by assumption) rfl)|exact wS rfl (yB (by assumption) rfl)|exact wR (yB (by assumption) rfl)|exact wR (wS rfl (yB (by assumption) rfl))|exact wR (wS rfl (yB (by assumption) (yB (by assumption) rfl)))) inferInstance|exact cloSR (hE h rfl) (by first|rfl|exact yB (by assumption) rfl|exact yB (by assumption) (yB (by assumption) rfl)|exact wS rfl (yB (by assumption) rfl)|exact wR (yB (by assumption) rfl)|exact wR (wS rfl (yB (by assumption) rfl))|exact wR (wS rfl (yB (by assumption) (yB (by assumption) rfl))))) rfl,?_⟩))(gw:zBj res:=by repeat (first|exact zFy|refine zMa inferInstance ?_))(sd:J6 d Γ.N=jh:=by rfl)(hg:gd=jg:=by rfl):
  DK P Γ pn ops id hs E0 Q (⟨jf d,.call { callee:=.value (.func f),args:=xs.toArray,argTypes:=ats },ty,ps,af,gd⟩::os) E acc:=
 dG rd [(cWr d res [],uC d [])] gN (fun E' h'=>wF.op (zOo gn hc (gj E' h') gw sd) hg) k
theorem sk2{g s:Nat}{b b':Bool}(k:RW P Γ pn ops os (E.app [(d,jf (.tup []))] [(d,0)]) Q)(hd:o.dst=jf d:=by rfl)(hg:o.guard=jf (g,b):=by rfl)(fm:(ops[g]?).bind (·.dst)=jf s:=by rfl)(hb:E s=jf (.lit (.bool b')):=by rfl)(fx:(b==b')=ji:=by rfl)(sd:J6 d Γ.N=jh:=by rfl)(hp:pn.ok o.dst=jh:=by rfl):
  RW P Γ pn ops (o::os) E Q:=RW.cons (wF.skip2 g b b' s hd sd fx hg fm hb) k hp
theorem yFm{g s:Nat}{b b':Bool}(k:DK P Γ pn ops id hs E0 Q os (E.app [(d,jf (.tup []))] [(d,0)]) (⟨[(s,.lit (.bool b'))],[([(d,jf (.tup []))],[(d,0)])]⟩::acc))(hd:o.dst=jf d:=by rfl)(hg:o.guard=jf (g,b):=by rfl)(fm:(ops[g]?).bind (·.dst)=jf s:=by rfl)(hb:E s=jf (.lit (.bool b')):=by rfl)(fx:(b==b')=ji:=by rfl)(sd:J6 d Γ.N=jh:=by rfl):
  DK P Γ pn ops id hs E0 Q (o::os) E acc:=dG [(s,.lit (.bool b'))] [([(d,jf (.tup []))],[(d,0)])] ⟨hb,trivial⟩ (fun _E' h=>wF.skip2 g b b' s hd sd fx hg fm h.1) k
theorem yFn{g s:Nat}{b:Bool}(k:DK P Γ pn ops id hs E0 Q os (E.app [(d,jf (.tup []))] [(d,0)]) (⟨[(s,.tup [])],[([(d,jf (.tup []))],[(d,0)])]⟩::acc))(hd:o.dst=jf d:=by rfl)(hg:o.guard=jf (g,b):=by rfl)(fm:(ops[g]?).bind (·.dst)=jf s:=by rfl)(hb:E s=jf (.tup []):=by rfl)(sd:J6 d Γ.N=jh:=by rfl):
  DK P Γ pn ops id hs E0 Q (o::os) E acc:=dG [(s,.tup [])] [([(d,jf (.tup []))],[(d,0)])] ⟨hb,trivial⟩ (fun _E' h=>wF.skip3 g b s hd sd hg fm h.1) k
theorem dNA(hm:P.follows .mixedOrders=jh)(hQ:Q .normal E)(hf:zA6 0 ops.toList=jh:=by rfl)(ha:kY (yAY ops.toList) (yAY ops.toList) ops.toList=jh:=by rfl)(hp:jH acc.reverse 0 (yAY ops.toList) acc.reverse=jh:=by rfl)
  (aF:ops.toList.all (fun o=>pn.ok o.dst)=jh:=by rfl)(tp:zUm hs E0=jh:=by rfl)(hw:acc.reverse.all (wrS hs)=jh:=by rfl):DK P Γ pn ops id hs E0 Q [] E acc:=dN _ hm hQ hf ha hp aF tp hw
theorem cn{c1 c2:Code}{α:Type}{b:Bool}{u v z:α}(h:cond b u v=z)(ht:b=jh->u=z->CW P Γ pn c1 E Q)(hf:b=ji->v=z->CW P Γ pn c2 E Q)(hb:opT E x=jf (.lit (.bool b)):=by rfl):CW P Γ pn (.cond x c1 c2) E Q:=
 CW.cond b hb (fun hc=>ht hc (cT hc h)) fun hc=>hf hc (cF hc h)
theorem fB{f:FuncId}{res:List T}(hf:P.funcs[f]? =jf fn)(h:∀(St:Stb)(W:Nat->Prop)(w0:World)(v:Nat->Value),CW P ⟨St,W,w0,fn.ntmps⟩ (zCk v (rws.map (·.1))) c (vW (zIE 0 us)) (vK ⟨St,W,w0,fn.ntmps⟩ P fn.results us res rws))(hb:fn.body=jf c:=by rfl)(hn:us.length<=fn.ntmps:=by exact Nat.le_of_ble_eq_true rfl)
  (ht:uK us:=by exact Q4)(hr:rws.all (fun x=>decide (x.1<us.length))=jh:=by rfl):FnC P f us res rws:=
 FnC.of_bodyG hf hb hn ht hr (by rintro⟨St,W,w0,N⟩ v hN;subst hN;exact h St W w0 v)
def zCs:List ResultVar->Option (List Nat)
 | []=>jf []
 |.tmp s::l=>(zCs l).map (s::·)
 |.cell _ _::_=>jg
theorem zJx:∀(rs:List ResultVar)(ss:List Nat)(res:List T),zCs rs=jf ss->ss.map E=res.map jf->res.all T.okTup=jh-> ∃nd:Nds,zRJ P E rs nd/\nd.map (·.2.2)=res/\nd.map (·.1)=ss
 | [],ss,res,h,hE,_=>by
  simp[zCs]at h;subst h;cases res with
  |nil=>exact⟨[],trivial,rfl,rfl⟩
  |cons _ _=>simp at hE
 |.tmp s::rs,ss,res,h,hE,ht=>by
  simp only[zCs,Kg]at h;obtain⟨ss',h,rfl⟩:=h;cases res with
  |nil=>simp at hE
  |cons t res=>
   simp only[Ju,Qd.injEq]at hE;simp only[Un,J4]at ht;obtain⟨nd,h1,h2,h3⟩:=zJx rs ss' res h hE.2 ht.2;exact⟨(s,[],t)::nd,⟨⟨rfl,rfl,hE.1,ht.1⟩,h1⟩,by simp[h2],by simp[h3]⟩
 |.cell _ _::_,_,_,h,_,_=>by simp[zCs]at h
theorem rT{rs:Array ResultVar}{res:List T}{e:Exit}{ss:List Nat}(hs:zCs rs.toList=jf ss:=by rfl)(hE:ss.map E=res.map jf:=by rfl)(ht:res.all T.okTup=jh:=by rfl)(hl:ss.all (fun s=>Nat.ble us.length s)=jh:=by rfl)(hn:zB4 ss=jh:=by rfl)
  (hw:LOk E us rws:=by repeat (first|exact trivial|refine⟨⟨rfl,_,rfl⟩,?_⟩))(he:e=.ret\/e=.normal:=by first|exact .inl rfl|exact .inr rfl):vK Γ P rs us res rws e E:=by
 obtain⟨nd,h1,h2,h3⟩:=zJx (P:=P) rs.toList ss res hs hE ht;refine⟨E,zR.refl,he,nd,h1,h2,fun x hx=>?_,by rw[h3];exact zF0 hn,hw⟩;have:x.1∈ss:=by rw[<-h3];exact Jc.2 ⟨x,hx,rfl⟩
 exact Nat.le_of_ble_eq_true (Kj.1 hl _ this)
theorem eN{σ ρ:Type}{en:σ->Env}{Q1:ρ->Exit->Env->Prop}{y:σ}{x:σ⊕ρ}(h:jf (Sum.inl y)=jf x)(q:zR Γ E (en y):=by exact .has (by repeat (first|exact trivial|refine⟨rfl,?_⟩))):wH Γ en Q1 x .normal E:=by obtain rfl:=sI h;exact⟨rfl,q⟩
theorem rTg{rs:Array ResultVar}{res:List T}{e:Exit}(hg:zR Γ E E')(h:vK Γ P rs us res rws e E'):vK Γ P rs us res rws e E:=by obtain⟨E2,h1,h2⟩:=h;exact⟨E2,hg.trans h1,h2⟩
theorem eX{σ ρ:Type}{en:σ->Env}{Q1:ρ->Exit->Env->Prop}{y:ρ}{x:σ⊕ρ}{e:Exit}(h:jf (Sum.inr y)=jf x)(q:Q1 y e E:=by first|exact⟨rfl,.has (by repeat (first|exact trivial|refine⟨rfl,?_⟩))⟩|exact⟨rfl,rT⟩)(gc:e≠.normal:=by first|exact neX|exact neR):wH Γ en Q1 x e E:=by obtain rfl:=sI h;exact⟨gc,q⟩
end
section
variable {Γ:Ctx}{E:Env}
theorem zR.frzG(s:Nat)(t:T){t':T}(hs:E s=jf t)(h:vM t=t'):zR Γ E (E.app [(s,jf t')] [(s,1)]):=h▸zR.freeze s t hs
theorem fzO{α:Type}{f g:α->T}{xs:List α}(h:uG f g):vM (L k f xs)=.ro (L k g xs):=by simp only[vM,strip,tG h.h xs]
theorem fzP{t:T}(h:strip t=u):vM (.ptr t)=.ro (.ptr u):=by grind[vM,strip]
theorem fzA{xs ys:List T}(h:vG xs=ys):vM (.agg xs)=.agg ys:=by grind[vM]
theorem fzN:vG []=[]:=rfl
theorem fzC{x y:T}{xs ys:List T}(h:vM x=y)(h2:vG xs=ys):vG (x::xs)=y::ys:=by grind[vG]
end
theorem zQ7{α:Type}{f:α->T}{xs:List α}{j:Int}{a b:α}{X:T}(hi:ixO xs i=jf a)(hj:ixO xs j=jf b)(gc:(i != j)=jh):
  (if[i.toNat]=[]then X else(L k f xs).set [i.toNat].reverse T.any).get [j.toNat].reverse=jf (f b):=by
 have h1:=(uL hi);have h2:=(uL hj);have h3:i≠j:=by grind
 have h4:i.toNat≠j.toNat:=by omega
 simp only[List.cons_ne_nil,if_false,G8,Hw,K0]
 grind[T.set,T.get]
theorem zUw{rs:List Nat}{s:Nat}{tr:T}(hr:E r=jf tr)(hg:tr.get q.reverse=jf u)(h4:kZ u=jh)(hn:rs.contains r=ji):zJg E rs (.tmp s) (.same r q)=jh:=by simp only[zJg,sU,zBi hr hg h4,hn,Ky]
section
variable {P:Program}{Γ:Ctx}{pn:sH}{E E' E0:Env}{Q:Exit->Env->Prop}{ops:Array Oper}{o:Oper}{os:List Oper}{id d:Nat}{hs:List Nat}{acc:List Stp}{x y:Operand}{ty:TypeId}{ps:String}{af:Array Edge}{gd:Option (Nat×Bool)}
theorem dGk{l:zBU}(k:DK P Γ pn ops id hs E0 Q os (E.apps l) (⟨rd,l⟩::acc))(gN:E.Has rd)(gA:∀E':Env,E'.Has rd->wF P Γ ops o E' (E'.apps l)):DK P Γ pn ops id hs E0 Q (o::os) E acc:=dG rd l gN gA k
theorem yAb(s:Nat)(k:DK P Γ pn ops id hs E0 Q os (E.app [(d,jf (.same s []))] [(d,0)]) (⟨[],[([(d,jf (.same s []))],[(d,0)])]⟩::acc))(gF:hs.contains s=jh:=by rfl)(sd:(J6 d Γ.N&&s != d)=jh:=by rfl)(hg:gd=jg:=by rfl):
  DK P Γ pn ops id hs E0 Q (⟨jf d,.move (.tmp s),ty,ps,af,gd⟩::os) E acc:=
 dGS [] [([(d,jf (.same s []))],[(d,0)])] trivial (fun E' _ hh=>by
  obtain⟨t,he,ht⟩:=hh s gF;have hc:tC (.tmp s) t=.same s []:=by cases t<;>simp[kE]at ht<;>rfl
  have hk:t.okTup=jh:=by cases t<;>simp[kE]at ht<;>rfl
  simp only[J4]at sd;have h1:=zRL (P:=P) (Γ:=Γ) (d:=d) (ty:=ty) (ps:=ps) (af:=af) (gd:=gd) (x:=.tmp s) (t:=t) (E:=E') he (by
   simp only[mvB,sd.1,hk,neD,hc,T.okB,Qs,Bool.and_true];have:s≠d:=by grind
   simp[this,Ne.symm this,kU])
  rw[hc]at h1;exact wF.op h1 hg) k
theorem yDu{t:TypeId}{ys:List T}[ht:zAN P t e ti k](hx:tD E x=jf (r,q,.sl k ys))(hy:opT E y=jf (I i))(h:0<=i/\i.toNat<ys.length)(sd:J6 d Γ.N=jh):
  Ok P Γ ⟨jf d,.indexAddr t x y,ty,ps,af,gd⟩ E (E.app [(d,jf (.addr r (i.toNat::q)))] [(d,0)]):=
 fun _=>zT2 x y t e ti r q k ys .i64 i rfl rfl (yF sd) ht.un ht.info ht.size hx hy h.1 h.2
theorem zR.red(d1 d2 r:Nat)(q q':List Nat)(h1:E d1=jf (.same r q))(h2:E d2=jf (.same r q'))(hq:q=q'):zR Γ E (E.app [(d2,jf (.same d1 []))] []):=by
 subst hq
 rintro a w ⟨S,hS,gJ,G,g9⟩
 refine⟨S,hS,gJ,G,?_⟩;have hk:sM [] G w G w:=⟨fun _ _ _=>rfl,fun _ _ _=>rfl,by simp,fun _ _ _ h _=>h,fun b cs e h=>⟨cs,h,rfl⟩⟩;refine wW g9 rfl hk g9.mem (by simp) fun s t hs=>?_
 simp only[Wr.find]at hs;split at hs
 ·rename_i e;subst e
  simp at hs;subst hs;obtain⟨g1,g2,_⟩:=g9.ent d2 _ h2;obtain⟨_,g4,_⟩:=g9.ent d1 _ h1;simp only[R]at g2 g4;exact⟨by rw[g1];rfl,by simp only[R];rw[g2,g4],by simp[Top]⟩
 ·cases hs
theorem zR.red2(d1 d2 r:Nat)(q:List Nat)(h1:E d1=jf (.same r q))(h2:E d2=jf (.same d1 [])):zR Γ E (E.app [(d2,jf (.same r q))] []):=by
 rintro a w ⟨S,hS,gJ,G,g9⟩
 refine⟨S,hS,gJ,G,?_⟩;have hk:sM [] G w G w:=⟨fun _ _ _=>rfl,fun _ _ _=>rfl,by simp,fun _ _ _ h _=>h,fun b cs e h=>⟨cs,h,rfl⟩⟩;refine wW g9 rfl hk g9.mem (by simp) fun s t hs=>?_
 simp only[Wr.find]at hs;split at hs
 ·rename_i e;subst e
  simp at hs;subst hs;obtain⟨g1,g2,_⟩:=g9.ent d2 _ h2;obtain⟨_,g4,_⟩:=g9.ent d1 _ h1;simp only[R]at g2 g4;exact⟨by rw[g1];rfl,by simp only[R];rw[g2,g4],by simp[Top]⟩
 ·cases hs
theorem slG{n:Nat}{ys:List T}(h:ys[n]? =jf u):(T.sl k ys).get [n]=jf u:=by simp[T.get,h]
theorem slS{n:Nat}{ys:List T}{v:T}(h:ys[n]? =jf u):(T.sl k ys).set [n] v=.sl k (ys.set n v):=by simp[T.set,h]
theorem mpG{α:Type}{f:α->T}{xs:List α}{a:α}(h:ixO xs i=jf a):(xs.map f)[i.toNat]? =jf (f a):=by simp[(uL h).2]
theorem stE{ys:List T}{n:Nat}{v:T}(h:ys[n]? =jf u):(ys.set n v)[n]? =jf v:=by grind
theorem stN{ys:List T}{n m:Nat}{v:T}(h:ys[m]? =jf u)(gc:n≠m):(ys.set n v)[m]? =jf u:=by grind
theorem zUx{α:Type}{xs:List α}{j:Int}{a b:α}(ha:ixO xs i=jf a)(hb:ixO xs j=jf b)(h:(i==j)=ji):i.toNat≠j.toNat:=by
 have h1:=(uL ha).1;have h2:=(uL hb).1
 grind
theorem yDv{α:Type}{xs:List α}{a:α}(h:ixO xs i=jf a){ys:List T}(hl:ys.length=xs.length):0<=i/\i.toNat<ys.length:=by
 obtain⟨h1,h2⟩:=uL h
 grind
def jB{α:Type}(xs:List α)(j i:Int)(a b:α):List α:=(xs.set j.toNat a).set i.toNat b
theorem yDw{α:Type}{f:α->T}{xs:List α}{j:Int}{a b:α}(gc:i.toNat≠j.toNat):
  ((((xs.map f).set i.toNat .any).set j.toNat .any).set j.toNat (f a)).set i.toNat (f b)=(jB xs j i a b).map f:=by
 grind[Jax,List.set_comm,jB,Uk]
theorem yDx{α:Type}{f:α->T}{xs:List α}{j:Int}{a b:α}(ha:ixO xs i=jf a)(hb:ixO xs j=jf b)(h:i=j):
  ((((xs.map f).set i.toNat .any).set j.toNat (f a)).set j.toNat .any).set i.toNat (f a)=(jB xs j i a b).map f:=by
 subst h;have:a=b:=by grind
 subst this;simp[jB,Uk]
theorem CW.midA{c1 c2:Code}(l:List (Nat×T))(h1:CW P Γ pn c1 E fun e E'=>e=.normal/\zR Γ E' (vW l))(h2:CW P Γ pn c2 (vW l) Q):CW P Γ pn c1 E (yR P Γ pn c2 Q):=
 CW.mono h1 fun e E' h=>by obtain⟨rfl,hg⟩:=h;exact CW.ghost hg h2
section
variable {β:Type}{g:β->T}{k2 k:Nat}{xs:List (List β)}{i j:Int}{a b:List β}{t:TypeId}{ti:TypeInfo}{A U V r:Nat}
abbrev neB(A U V r:Nat):Bool:=U != r&&V != r&&U != V&&A != r&&A != U&&A != V
theorem zH5(h:neB A U V r=jh):U≠r/\V≠r/\U≠V/\A≠r/\A≠U/\A≠V:=by grind
theorem yFo[he:Enc g](hi:P.info? t=jf ti)(gr:(ti.size==1&&J6 0 ti.size)=jh)(ha:ixO xs i=jf a)(hb:ixO xs j=jf b)(hn:i.toNat≠j.toNat)
  (kk:DK P Γ pn ops id hs E0 Q os (E.apps [([(U,jf (L k2 g a)),(r,jf (.sl k ((xs.map (L k2 g)).set i.toNat .any)))],[(U,1),(r,2)]),([(V,jf (L k2 g b)),(r,jf (.sl k (((xs.map (L k2 g)).set i.toNat .any).set j.toNat .any)))],[(V,1),(r,2)]),([(r,jf (.sl k ((((xs.map (L k2 g)).set i.toNat .any).set j.toNat .any).set j.toNat (L k2 g a)))),(U,jf (.same r [j.toNat]))],[(r,1),(U,1)])])
   (⟨[(A,.addr r [j.toNat]),(U,.same r [i.toNat]),(V,.same r [j.toNat]),(r,L k (L k2 g) xs)],[([(U,jf (L k2 g a)),(r,jf (.sl k ((xs.map (L k2 g)).set i.toNat .any)))],[(U,1),(r,2)]),([(V,jf (L k2 g b)),(r,jf (.sl k (((xs.map (L k2 g)).set i.toNat .any).set j.toNat .any)))],[(V,1),(r,2)]),([(r,jf (.sl k ((((xs.map (L k2 g)).set i.toNat .any).set j.toNat .any).set j.toNat (L k2 g a)))),(U,jf (.same r [j.toNat]))],[(r,1),(U,1)])]⟩::acc))
  (hA:E A=jf (.addr r [j.toNat]):=by rfl)(hU:E U=jf (.same r [i.toNat]):=by rfl)(hV:E V=jf (.same r [j.toNat]):=by rfl)(hr:E r=jf (L k (L k2 g) xs):=by rfl)(gc:neB A U V r=jh:=by rfl)(hg:gd=jg:=by rfl):
  DK P Γ pn ops id hs E0 Q (⟨jg,.store t (.tmp A) (.tmp U),ty,ps,af,gd⟩::os) E acc:=by
 obtain⟨n1,n2,n3,n4,n5,n6⟩:=zH5 gc;refine dGk kk ⟨hA,hU,hV,hr,trivial⟩ (fun E' h=>?_);obtain⟨h1,h2,h3,h4,_⟩:=h;refine wF.gh (zR.trq (u:=L k2 g a) U r [i.toNat] h2 h4 (slG (mpG ha)) (xE he.clean) (by grind[T.single,wP,T.okB]) (slS (mpG ha))) ?_;refine wF.gh (zR.trq (u:=L k2 g b) V r [j.toNat] (tr:=.sl k ((xs.map (L k2 g)).set i.toNat .any)) (by simp[Env.app,Wr.find,n1,n3,h3,T.okB,kU,Ne.symm n2]) (by grind[Env.app,Wr.find]) (slG (stN (mpG hb) hn)) (xE he.clean) (by grind[T.single,wP,T.okB]) (slS (stN (mpG hb) hn))) ?_;refine wF.opE (E1:=_) (zRM (tr:=.sl k (((xs.map (L k2 g)).set i.toNat .any).set j.toNat .any)) (u:=L k2 g a) (u0:=.any) (r:=r) (q:=[j.toNat]) hi (by grind[T.size]) ?_ ?_ (slG (stE (stN (mpG hb) hn))) (slS (stE (stN (mpG hb) hn))) ?_ (xE he.clean) ?_) rfl hg
 ·simp[opT,Env.app,Wr.find,h1,n1,n2,Ne.symm n4,Ne.symm n5,Ne.symm n6,T.okB,kU]
 ·grind[Env.app,Wr.find]
 ·simp[Env.app,Wr.find,Ne.symm n1,Ne.symm n3,T.okB]
 ·simp[T.single,T.locd,vT,T.okTup,Ne.symm n1]
theorem yFp[he:Enc g](hi:P.info? t=jf ti)(gr:(ti.size==1&&J6 0 ti.size)=jh)(ha:ixO xs i=jf a)(_hb:ixO xs j=jf b)(hn:i.toNat≠j.toNat)
  (kk:DK P Γ pn ops id hs E0 Q os (E.apps [([(r,jf (L k (L k2 g) (jB xs j i a b))),(V,jf (.same r [i.toNat]))],[(r,1),(V,1)])]) (⟨[(A,.addr r [i.toNat]),(V,L k2 g b),(r,.sl k ((((xs.map (L k2 g)).set i.toNat .any).set j.toNat .any).set j.toNat (L k2 g a)))],[([(r,jf (L k (L k2 g) (jB xs j i a b))),(V,jf (.same r [i.toNat]))],[(r,1),(V,1)])]⟩::acc))
  (hA:E A=jf (.addr r [i.toNat]):=by rfl)(hV:E V=jf (L k2 g b):=by rfl)(hr:E r=jf (.sl k ((((xs.map (L k2 g)).set i.toNat .any).set j.toNat .any).set j.toNat (L k2 g a))):=by rfl)(gc:(r != V)=jh:=by rfl)(hg:gd=jg:=by rfl):
  DK P Γ pn ops id hs E0 Q (⟨jg,.store t (.tmp A) (.tmp V),ty,ps,af,gd⟩::os) E acc:=by
 refine dGk kk ⟨hA,hV,hr,trivial⟩ (fun E' h=>?_);obtain⟨h1,h3,h4,_⟩:=h;have hh:((((xs.map (L k2 g)).set i.toNat .any).set j.toNat .any).set j.toNat (L k2 g a))[i.toNat]? =jf .any:=stN (stN (stE (mpG ha)) (Ne.symm hn)) (Ne.symm hn);refine wF.opE (zRM (u:=L k2 g b) (q:=[i.toNat]) (E:=E') hi (by grind[T.size]) h1 h4 (slG hh) ((slS hh).trans (congrArg (T.sl k) (yDw hn))) h3 (xE he.clean) ?_) rfl hg
 grind[T.single,T.locd,vT,T.okTup]
theorem yFq[he:Enc g](hi:P.info? t=jf ti)(gr:(ti.size==1&&J6 0 ti.size)=jh)(ha:ixO xs i=jf a)(gI:i=j)
  (kk:DK P Γ pn ops id hs E0 Q os (E.apps [([(V,jf (.same U []))],[]),([(U,jf (L k2 g a)),(r,jf (.sl k ((xs.map (L k2 g)).set i.toNat .any)))],[(U,1),(r,2)]),([(r,jf (.sl k (((xs.map (L k2 g)).set i.toNat .any).set j.toNat (L k2 g a)))),(U,jf (.same r [j.toNat]))],[(r,1),(U,1)])])
   (⟨[(A,.addr r [j.toNat]),(U,.same r [i.toNat]),(V,.same r [j.toNat]),(r,L k (L k2 g) xs)],[([(V,jf (.same U []))],[]),([(U,jf (L k2 g a)),(r,jf (.sl k ((xs.map (L k2 g)).set i.toNat .any)))],[(U,1),(r,2)]),([(r,jf (.sl k (((xs.map (L k2 g)).set i.toNat .any).set j.toNat (L k2 g a)))),(U,jf (.same r [j.toNat]))],[(r,1),(U,1)])]⟩::acc))
  (hA:E A=jf (.addr r [j.toNat]):=by rfl)(hU:E U=jf (.same r [i.toNat]):=by rfl)(hV:E V=jf (.same r [j.toNat]):=by rfl)(hr:E r=jf (L k (L k2 g) xs):=by rfl)(gc:neB A U V r=jh:=by rfl)(hg:gd=jg:=by rfl):
  DK P Γ pn ops id hs E0 Q (⟨jg,.store t (.tmp A) (.tmp U),ty,ps,af,gd⟩::os) E acc:=by
 obtain⟨n1,n2,n3,n4,n5,n6⟩:=zH5 gc;refine dGk kk ⟨hA,hU,hV,hr,trivial⟩ (fun E' h=>?_);subst gI;obtain⟨h1,h2,h3,h4,_⟩:=h;refine wF.gh (zR.red U V r _ _ h2 h3 rfl) ?_;refine wF.gh (zR.trq (u:=L k2 g a) U r [i.toNat] (tr:=L k (L k2 g) xs) (by simp[Env.app,Wr.find,Ne.symm n3,h2,T.okB,kU]) (by grind[Env.app,Wr.find,T.okB]) (slG (mpG ha)) (xE he.clean) (by grind[T.single,wP,T.okB]) (slS (mpG ha))) ?_;refine wF.opE (zRM (tr:=.sl k ((xs.map (L k2 g)).set i.toNat .any)) (u:=L k2 g a) (u0:=.any) (r:=r) (q:=[i.toNat]) hi (by grind[T.size]) ?_ ?_ (slG (stE (mpG ha))) (slS (stE (mpG ha))) ?_ (xE he.clean) ?_) rfl hg
 ·simp[opT,Env.app,Wr.find,h1,n1,Ne.symm n4,Ne.symm n5,Ne.symm n6,T.okB,kU]
 ·grind[Env.app,Wr.find]
 ·simp[Env.app,Wr.find]
 ·simp[T.single,T.locd,vT,T.okTup,Ne.symm n1]
theorem yFr[he:Enc g](hi:P.info? t=jf ti)(gr:(ti.size==1&&J6 0 ti.size)=jh)(ha:ixO xs i=jf a)(hb:ixO xs j=jf b)(gI:i=j)
  (kk:DK P Γ pn ops id hs E0 Q os (E.apps [([(V,jf (.same r [j.toNat]))],[]),([(V,jf (L k2 g a)),(r,jf (.sl k ((((xs.map (L k2 g)).set i.toNat .any).set j.toNat (L k2 g a)).set j.toNat .any)))],[(V,1),(r,2)]),([(r,jf (L k (L k2 g) (jB xs j i a b))),(V,jf (.same r [i.toNat]))],[(r,1),(V,1)])])
   (⟨[(A,.addr r [i.toNat]),(V,.same U []),(U,.same r [j.toNat]),(r,.sl k (((xs.map (L k2 g)).set i.toNat .any).set j.toNat (L k2 g a)))],[([(V,jf (.same r [j.toNat]))],[]),([(V,jf (L k2 g a)),(r,jf (.sl k ((((xs.map (L k2 g)).set i.toNat .any).set j.toNat (L k2 g a)).set j.toNat .any)))],[(V,1),(r,2)]),([(r,jf (L k (L k2 g) (jB xs j i a b))),(V,jf (.same r [i.toNat]))],[(r,1),(V,1)])]⟩::acc))
  (hA:E A=jf (.addr r [i.toNat]):=by rfl)(hV:E V=jf (.same U []):=by rfl)(hU:E U=jf (.same r [j.toNat]):=by rfl)(hr:E r=jf (.sl k (((xs.map (L k2 g)).set i.toNat .any).set j.toNat (L k2 g a))):=by rfl)(gc:neB A U V r=jh:=by rfl)(hg:gd=jg:=by rfl):
  DK P Γ pn ops id hs E0 Q (⟨jg,.store t (.tmp A) (.tmp V),ty,ps,af,gd⟩::os) E acc:=by
 obtain⟨n1,n2,n3,n4,n5,n6⟩:=zH5 gc;refine dGk kk ⟨hA,hV,hU,hr,trivial⟩ (fun E' h=>?_);obtain⟨h1,h3,h2,h4,_⟩:=h;have bY:=yDx (f:=L k2 g) ha hb gI;subst gI;have g1:(((xs.map (L k2 g)).set i.toNat .any).set i.toNat (L k2 g a))[i.toNat]? =jf (L k2 g a):=stE (stE (mpG ha));refine wF.gh (zR.red2 U V r _ h2 h3) ?_;refine wF.gh (zR.trq (u:=L k2 g a) V r [i.toNat] (tr:=.sl k (((xs.map (L k2 g)).set i.toNat .any).set i.toNat (L k2 g a))) (by simp[Env.app,Wr.find]) (by grind[Env.app,Wr.find,T.okB]) (slG g1) (xE he.clean) (by grind[T.single,wP,T.okB]) (slS g1)) ?_;refine wF.opE (zRM (tr:=.sl k ((((xs.map (L k2 g)).set i.toNat .any).set i.toNat (L k2 g a)).set i.toNat .any)) (u:=L k2 g a) (u0:=.any) (r:=r) (q:=[i.toNat]) hi (by grind[T.size]) ?_ ?_ (slG (stE g1)) ((slS (stE g1)).trans (by grind)) ?_ (xE he.clean) ?_) rfl hg
 ·simp[opT,Env.app,Wr.find,h1,n2,Ne.symm n4,Ne.symm n6,T.okB,kU]
 ·grind[Env.app,Wr.find]
 ·simp[Env.app,Wr.find]
 ·simp[T.single,T.locd,vT,T.okTup,Ne.symm n2]
end
end
theorem zUy{ds s:Nat}{tr t:T}(h:E s=jf t)(gc:(G3 ds s||G3 r s)=ji:=by rfl)(hb:t.okB [(ds,1),(r,q.length+1)]=jh:=by rfl):vR E ds r q tr u s=jf t:=zQ1 h gc hb
section
variable {α:Type}{k:Nat}{f:α->T}{xs:List α}{i:Int}{v w:α}{u:T}
theorem yFs(h:ixO xs i=jf v):(L k f xs).set [i.toNat] u=.sl k ((xs.map f).set i.toNat u):=by simp[T.set,(uL h).2]
theorem yFt(h:ixO xs i=jf v):(T.sl k ((xs.map f).set i.toNat u)).get [i.toNat]=jf u:=by have hl:=(Jm.1 (uL h).2).1;simp[T.get,hl]
theorem yFu(h:ixO xs i=jf v):(T.sl k ((xs.map f).set i.toNat u)).set [i.toNat] (f w)=L k f (xs.set i.toNat w):=by have hl:=(Jm.1 (uL h).2).1;simp[T.set,L,hl,Uk]
end
theorem zR.trh{α:Type}(d r:Nat){f:α->T}{xs:List α}{v:α}(hd:E d=jf (.same r [i.toNat]))(hr:E r=jf (L k f xs))(hv:ixO xs i=jf v)(fb:zZ (f v))(sd:((f v).single&&(d != r))=jh):
  zR Γ E (E.app [(d,jf (f v)),(r,jf (.sl k ((xs.map f).set i.toNat .any)))] [(d,1),(r,2)]):=by
 refine zR.trq d r [i.toNat] hd hr (yB hv rfl) fb ?_ ?_
 ·simp only[J4]at sd ⊢
  exact⟨⟨⟨sd.1,rfl⟩,rfl⟩,sd.2⟩
 ·rw[if_neg (by simp)]
  exact yFs hv
theorem yDy{ty:TypeId}{ps:String}{af:Array Edge}{gd:Option (Nat×Bool)}{y:Operand}{α:Type}{t:TypeId}{f:α->T}{xs:List α}{v:α}(ht:zAN P t e ti k)(hv:ixO xs i=jf v)(hx:tD E x=jf (r,q,.sl k ((xs.map f).set i.toNat u)))(hy:opT E y=jf (I i))(sd:J6 d Γ.N=jh):
  Ok P Γ ⟨jf d,.indexAddr t x y,ty,ps,af,gd⟩ E (E.app [(d,jf (.addr r (i.toNat::q)))] [(d,0)]):=by
 obtain⟨h1,h2⟩:=uL hv;exact fun S=>zT2 x y t e ti r q k _ .i64 i rfl rfl (yF sd) ht.un ht.info ht.size hx hy h1 (by grind)
end Go.Ab
