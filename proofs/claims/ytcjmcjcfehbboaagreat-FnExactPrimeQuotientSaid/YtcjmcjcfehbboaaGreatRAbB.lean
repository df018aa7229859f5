/- x -/
import Derived.Test.YtcjmcjcfehbboaaGreatRAbA
import Derived.Laws.CopyRow
import Derived.ProofKit
open List renaming replicate→J0,getElem?_eq_getElem→J3,length_append→J5,length_cons→J8,getElem?_append_right→Ja,mem_cons→Je,append_assoc→Jg,append_nil→Jh,mem_append→Ji,eq_nil_of_length_eq_zero→Jj,getElem?_eq_some_iff→Jl,length_map→Jm,getElem?_map→Jn,mem_map→Jq,map_cons→Jr,nil_append→Js,range→Ju,replicate_succ→Jw,cons_append→K0,getElem?_append_left→K1,reverse_reverse→K6,all_eq_true→Ka,range'→Ke,length_nil→Kh,getElem?_append→Km,length_take→Kv,getElem?_drop→Kw,mem_of_getElem?→Ky,range'_succ→L3,nodup_cons→L4,take_succ_cons→La,range_eq_range'→Ld,flatMap_cons→Lm,map_append→Lq,singleton_append→Lv,contains_eq_mem→Lx,reverse_cons→Ly,getElem?_take→H1,reverse_nil→Hk,mem_iff_getElem→Hy,length_range→Gv,mem_iff_getElem?→U2,cons→Ul,map_map→Q5,map_take→Qa,find?_cons_of_neg→Qi,getLast?_append→Qr,dropLast_concat→Qs,all_cons→Qt,map_set→Ja4,find?_eq_none→Ja5,map_nil→Jai,mem_filter→Jam,getD→Jao,getElem?_set_self→Jat,getElem?_cons_succ→Jb8,map_drop→Jbj
open Bool renaming and_eq_true->J4,not_false->Ko,and_self->H3,false_eq_true->Hg,not_eq_true'->Gj
open Nat renaming blt->J6,le_refl->J9,zero_add->Jd,lt_or_ge->Jk,zero_le->K4,sub_zero->Li,succ_mul->Lo,mul_le_mul_right->Lp,add_assoc->H4,beq->Ha,mul_one->Gd,le_trans->U1,le_add_right->Qw,add_zero->Jae,ble->Jb6
open Array renaming getElem?_setIfInBounds->Jb,getElem?_toList->Kc,length_toList->Ki,getD_eq_getD_getElem?->Kk,getElem?_eq_some_iff->L2,replicate->Uu
open Option renaming map_eq_some_iff->Kg,getD_some->Le,some->Lr,map_some->H9,map_eq_none_iff->Q4,bind_eq_some_iff->Q9
open Prod renaming mk->Jak
open Option renaming some->Wu,none->Wv
open Bool renaming true->Ww,false->Wx
namespace Go.Ab
open Go
variable {i d id r k s0 j off o0 ds:Nat}{x:Operand}{Γ:Ctx}{E E' E1:Env}{G:Gh}{tmps:Array Value}{w':World}{wr:Wr}{chg:Chg}{a:Act}{us ts:List T}{u u' tr' u0 t0:T}{ats:Array TypeId}{P:Program}{o:Oper}{l n m h:Int}{σ ρ α:Type}{fn:Func}{c:Code}{rws:List (Nat×T)}{ti:TypeInfo}{xt yt e:TypeId}{q:List Nat}{f:α->T}
abbrev Rw:=List (Nat×Nat×T)
variable {rw:Rw}
def rwI(rw:Rw)(s:Nat):Option Nat:=(rw.find? fun x=>x.2.1==s).map (·.1)
def rwS(rw:Rw)(i:Nat):Option Nat:=(rw.find? fun x=>x.1==i).map (·.2.1)
theorem zC0:(rw:Rw)->(rw.map (·.2.1)).Nodup-> ∀{i s:Nat}{u:T},(i,s,u)∈rw->rwI rw s=Wu i
 | [],_,_,_,_,h=>by simp at h
 |(i0,s0,u0)::rw,hn,i,s,u,h=>by
  simp only[Jr,L4,Jq]at hn;rcases Je.1 h with h|h
  ·simp at h;obtain⟨rfl,rfl,rfl⟩:=h;simp[rwI]
  ·have gf:s0≠s:=fun e=>hn.1 ⟨_,h,e.symm⟩
   have:=zC0 rw hn.2 h;simp only[rwI]at this ⊢
   rw[Qi (by simpa using gf)];exact this
theorem zL7:(rw:Rw)->(rw.map (·.1)).Nodup-> ∀{i s:Nat}{u:T},(i,s,u)∈rw->rwS rw i=Wu s
 | [],_,_,_,_,h=>by simp at h
 |(i0,s0,u0)::rw,hn,i,s,u,h=>by
  simp only[Jr,L4,Jq]at hn;rcases Je.1 h with h|h
  ·simp at h;obtain⟨rfl,rfl,rfl⟩:=h;simp[rwS]
  ·have gf:i0≠i:=fun e=>hn.1 ⟨_,h,e.symm⟩
   have:=zL7 rw hn.2 h;simp only[rwS]at this ⊢
   rw[Qi (by simpa using gf)];exact this
theorem zL8{s:Nat}(h:s∉rw.map (·.2.1)):rwI rw s=Wv:=by simp only[rwI,Q4,Ja5];intro x hx;simp only[beq_iff_eq];exact fun e=>h (Jq.2 ⟨x,hx,e⟩)
theorem zS5(h:∀x∈rw,x.1≠i):rwS rw i=Wv:=by simp only[rwS,Q4,Ja5];intro x hx;simpa using h x hx
theorem zPb{s:Nat}(h:rwI rw s=Wu i):s∈rw.map (·.2.1):=by simp only[rwI,Kg]at h;obtain⟨x,hx,_⟩:=h;have h1:=List.mem_of_find?_eq_some hx;have h2:=List.find?_some hx;exact Jq.2 ⟨x,h1,by simpa using h2⟩
abbrev Nd:=List (Nat×List Nat×T)
def zS6(nd:Nd)(k s:Nat):Option (Nat×List Nat):=
 match nd with
 | []=>Wv
 |x::r=>if x.1=s then Wu (k,x.2.1)else zS6 r (k+1) s
def ndB(d:Nat)(nd:Nd)(s:Nat)(z:List Nat):Option (Nat×List Nat):=
 match nd with
 | [x]=>if x.1=s/\x.2.1<:+z then Wu (d,z.take (z.length-x.2.1.length))else Wv
 |nd=>match zS6 nd 0 s with
  |some (k,q)=>if q<:+z then Wu (d,z.take (z.length-q.length)++[k])else Wv
  |none=>Wv
theorem zIX:(nd:Nd)->(nd.map (·.1)).Nodup-> ∀{k k0:Nat}{x:Nat×List Nat×T},nd[k]? =Wu x->zS6 nd k0 x.1=Wu (k0+k,x.2.1)
 | [],_,_,_,_,h=>by simp at h
 |y::nd,hn,k,k0,x,h=>by
  simp only[Jr,L4,Jq]at hn;cases k with
  |zero=>simp at h;subst h;simp[zS6]
  |succ k=>
   simp only[Jb8]at h;have gf:y.1≠x.1:=fun e=>hn.1 ⟨x,Ky h,e.symm⟩
   simp only[zS6,gf,if_false];rw[zIX nd hn.2 h]
   congr 2;omega
def zS7(G:Gh)(nd:Nd)(z:List Nat):Value:=
 match nd with
 | [x]=>G.hd x.1 (z++x.2.1)
 |nd=>match z.getLast? with
  |some k=>(match nd[k]? with
   |some x=>G.hd x.1 (z.dropLast++x.2.1)
   |none=>.bool Wx)
  |none=>.bool Wx
def zWi(G:Gh)(nd:Nd)(z:List Nat):Addr:=
 match nd with
 | [x]=>G.ad x.1 (z++x.2.1)
 |nd=>match z.getLast? with
  |some k=>(match nd[k]? with
   |some x=>G.ad x.1 (z.dropLast++x.2.1)
   |none=>default)
  |none=>default
def Gh.arg(G:Gh)(a:Act)(xs:List Operand)(rw:Rw):Gh where
 hd i z:=match xs[i]? with
  |some (.tmp s)=>G.hd s z
  |some x=>kE (a.eval x)
  |none=>.bool Wx
 ad i z:=match xs[i]? with
  |some (.tmp s)=>G.ad s z
  |_=>default
 lb b o:=match G.lb b o with
  |some (f,s,z)=>(match rwI rw s,G.ow b with
   |some i,Wu (s',_)=>if s'=s then Wu (f,i,z)else Wv
   |_,_=>Wv)
  |none=>Wv
 ow b:=match G.ow b with
  |some (s,z)=>(match rwI rw s with
   |some i=>Wu (i,z)
   |none=>Wv)
  |none=>Wv
def zAQ(G:Gh)(rw:Rw)(b:Nat):Prop:=∃s z,G.ow b=Wu (s,z)/\s∈rw.map (·.2.1)
def zD8(d:Nat)(rw:Rw)(nd:Nd)(s:Nat)(z:List Nat):Option (Nat×List Nat):=
 match rwS rw s with
 |some s'=>Wu (s',z)
 |none=>ndB d nd s z
open Classical in
noncomputable def Gh.back (G G':Gh) (n0 d:Nat) (rw:Rw) (nd:Nd):Gh where
 hd s z:=if s=d then zS7 G' nd z else match rwI rw s with
  |some i=>G'.hd i z
  |none=>G.hd s z
 ad s z:=if s=d then zWi G' nd z else match rwI rw s with
  |some i=>if z=[]then G.ad s z else G'.ad i z
  |none=>G.ad s z
 lb b o:=if zAQ G rw b\/n0<=b then(match G'.lb b o with
  |some (f,s,z)=>(match zD8 d rw nd s z with
   |some (s',z')=>Wu (f,s',z')
   |none=>Wv)
  |none=>Wv)else G.lb b o
 ow b:=if zAQ G rw b\/n0<=b then(match G'.ow b with
  |some (s,z)=>zD8 d rw nd s z
  |none=>Wv)else G.ow b
def zDz(res:List T):T:=match res with
 | [u]=>u
 |us=>.tup us
def cWr(d:Nat)(res:List T)(rw:Rw):Wr:=(d,Wu (zDz res))::rw.map fun x=>(x.2.1,Wu x.2.2)
def cLv(t:T):Nat:=if t.single then 1 else 0
def vH(d:Nat)(rw:Rw):Chg:=(d,0)::rw.map fun x=>(x.2.1,cLv x.2.2)
theorem zHk{x:Nat×Nat×T}(h:x∈rw):(x.2.1,cLv x.2.2)∈vH d rw:=List.mem_cons_of_mem _ (Jq.2 ⟨x,h,rfl⟩)
theorem zPc{Gn G':Gh}{d:Nat}:(nd:Nd)-> ∀(j:Nat),(∀k x,nd[k]? =Wu x-> ∀z,Gn.hd d (z++[j+k])=G'.hd x.1 (z++x.2.1))->kA Gn d (nd.map (·.2.2)) [] j=nd.map fun x=>sB G' x.1 x.2.2 x.2.1
 | [],_,_=>by simp[kA]
 |x::nd,j,h=>by
  have ih:=zPc (Gn:=Gn) (G':=G') (d:=d) nd (j+1) (fun k y hy z=>by rw[show j+1+k=j+(k+1)from by omega];exact h (k+1) y (by simpa using hy) z)
  simp only[Jr,kA,ih];rw[zBJ x.2.2 x.2.1 [j] (by simpa using h 0 x (by simp))]
theorem zS8{res:List T}{s:Nat}{x:Option T}(h:(cWr d res rw).find s=Wu x):(s=d/\x=Wu (zDz res))\/(s≠d/\ ∃i u,(i,s,u)∈rw/\x=Wu u):=by
 simp only[cWr,Wr.find]at h;split at h
 ·rename_i he;simp at h;exact .inl ⟨he.symm,h.symm⟩
 ·rename_i gf
  refine .inr ⟨fun e=>gf e.symm,?_⟩
  clear gf
  induction rw with
  |nil=>simp[Wr.find]at h
  |cons y rw ih=>
   simp only[Jr,Wr.find]at h;split at h
   ·rename_i he;simp at h;subst he;exact⟨y.1,y.2.2,by simp,h.symm⟩
   ·obtain⟨i,u,h1,h2⟩:=ih h;exact⟨i,u,by simp[h1],h2⟩
theorem zS9{res:List T}{s:Nat}(h:(cWr d res rw).find s=Wv):s≠d/\s∉rw.map (·.2.1):=by
 simp only[cWr,Wr.find]at h;split at h
 ·cases h
 ·rename_i gf
  refine⟨fun e=>gf e.symm,?_⟩
  clear gf
  induction rw with
  |nil=>simp
  |cons y rw ih=>
   simp only[Jr,Wr.find]at h;split at h
   ·cases h
   ·rename_i he
    simp only[Jr,Je,not_or];exact⟨fun e=>he e.symm,ih h⟩
def aft(S Sc S':Stb):Stb:=fun b=>match Sc b with
 |none=>S' b
 |some _=>S b
theorem Rep.up{tmps':Array Value}{w:World}{G':Gh}{S:Stb}(h:Rep Γ E G tmps w)(hS:∀b x,Γ.St b=Wu x->S b=Wu x)
  (gU:tmps'.size=tmps.size)(hk:sE chg G w G' w')(gy:Mem (Γ.at S) G' w')
  (gx:∀s,wr.find s=Wv->(∀n,(s,n)∉chg)/\tmps'[s]? =tmps[s]?)
  (eb:∀s t,wr.find s=Wu (Wu t)->Ent (Γ.at S) G' w' tmps'[s]? s t):Rep (Γ.at S) (E.app wr chg) G' tmps' w' where
 size:=by rw[gU];exact h.size
 mem:=gy
 ent s t hs:=by
  unfold Env.app at hs;cases hf:wr.find s with
  |some x=>
   rw[hf]at hs;simp at hs;subst hs;exact eb s t hf
  |none=>
   rw[hf]at hs;simp at hs;cases he:E s with
   |none=>simp[he]at hs
   |some u=>
    simp[he]at hs;obtain⟨gD,rfl⟩:=hs;rw[(gx s hf).2];obtain⟨e1,e2,e3⟩:=Ent.keep hk (gx s hf).1 gD (h.ent s u he);exact⟨e1,zKi hS u [] e2,e3⟩
section
variable {P:Program}{Γ:Ctx}{E:Env}{d:Nat}
theorem zHl{w:World}(gc:Rep Γ E G a.tmps w)(hd:d<Γ.N){Sc:Stb}(hS1:∀b x,Sc b=Wu x->w.heap[b]? =Wu x/\ ¬zAQ G rw b)(hS0:∀b x,Γ.St b=Wu x->Sc b=Wu x){f:FuncId}{res:List T}
  (hc:FnC P f us res (rw.map fun x=>(x.1,x.2.2))){xs:List Operand}(gm:xs.length=us.length)
  (gn:∀(i:Nat) u,us[i]? =Wu u->(∃x,xs[i]? =Wu x/\a.eval x=mkV (G.arg a xs rw) i u []/\R Sc (G.arg a xs rw) w i u []))
  (hn1:(d::rw.map (·.2.1)).Nodup)(mC:(rw.map (·.1)).Nodup)(eZ:∀x∈rw,xs[x.1]? =Wu (.tmp x.2.1))
  (gz:∀u∈res,zZ u/\u.okTup=Ww/\ ∀(S':Stb)(G:Gh)(w:World)(s:Nat)(p:List Nat),(∀b x,Sc b=Wu x->S' b=Wu x)->R S' G w s u p->R (aft Γ.St Sc S') G w s u p)
  (dw:∀x∈rw,zZ x.2.2/\(∀(S':Stb)(G:Gh)(w:World)(s:Nat)(p:List Nat),(∀b x,Sc b=Wu x->S' b=Wu x)->R S' G w s x.2.2 p->R (aft Γ.St Sc S') G w s x.2.2 p)/\ ∃u,E x.2.1=Wu u/\x.2.2.single=u.single/\us[x.1]? =Wu u):
  Calls P f (xs.map a.eval).toArray w fun e w'=> ∃v,e=.returned v/\ ∃S G',zDy Γ.St S Γ.W Γ.w0.heap.size/\sE (vH d rw) G w G' w'/\Rep (Γ.at S) (E.app (cWr d res rw) (vH d rw)) G' (a.tmps.setIfInBounds d v) w':=by
 have hm:=gc.mem;have bq:=L4.1 hn1;have hmc:Mem ⟨Sc,zAQ G rw,w,0⟩ (G.arg a xs rw) w:=by
  have gE:∀b,zAQ G rw b->Sc b=Wv:=fun b h=>by
   cases hs:Sc b with
   |none=>rfl
   |some x=>exact absurd h (hS1 b x hs).2
  refine⟨fun i z=>?_,fun b o l hl=>?_,fun b l hl=>?_,fun b x hx=>(hS1 b x hx).1,fun b _ _=>rfl,J9 _,⟨fun b cs e h=>⟨cs,h,rfl⟩,rfl,rfl⟩⟩
  ·simp only[Gh.arg]
   split
   ·exact hm.one _ _
   ·exact zBv _
   ·rfl
  ·simp only[Gh.arg]at hl
   split at hl
   ·rename_i f' s z hg
    split at hl
    ·rename_i i s' y hi ho
     split at hl
     ·rename_i he;subst he
      have hL:zAQ G rw b:=⟨s',y,ho,zPb hi⟩;exact⟨(hm.lb b o _ hg).1,.inr hL,gE b hL⟩
     ·cases hl
    ·cases hl
   ·cases hl
  ·simp only[Gh.arg]at hl
   split at hl
   ·rename_i s z hg
    split at hl
    ·rename_i i hi
     have hL:zAQ G rw b:=⟨s,z,hg,zPb hi⟩;exact⟨(hm.ow b _ hg).1,.inr hL,gE b hL⟩
    ·cases hl
   ·cases hl
 have gu:=hc Sc (zAQ G rw) w (G.arg a xs rw) (xs.map a.eval).toArray (by simp[gm]) (fun i u hu=>by obtain⟨x,h1,h2,h3⟩:=gn i u hu;exact⟨by simp[h1,h2],h3⟩) hmc
 refine gu.mono ?_
 rintro e w' ⟨S',G',nd,eh,rfl,gV,cD,mB,mA,dv⟩
 have ff:∀b x,Γ.St b=Wu x->aft Γ.St Sc S' b=Wu x:=fun b x hx=>by simp only[aft,hS0 b x hx,hx]
 have ud:zDy Γ.St (aft Γ.St Sc S') Γ.W Γ.w0.heap.size:=⟨ff,fun b hb ev=>by
  simp only[aft]at ev;split at ev
  ·rename_i hs
   rcases eh.nw b hs ev with h|⟨s,z,h,_⟩
   ·exact .inl (by have:=hm.sz;omega)
   ·exact(hm.ow b _ h).2.1
  ·exact absurd hb ev⟩
 refine⟨_,rfl,aft Γ.St Sc S',G.back G' w.heap.size d rw nd,ud,?_⟩;have mg:∀b,b<w.heap.size-> ¬zAQ G rw b->w'.heap[b]? =w.heap[b]?:=gV.fr;have gv:w.heap.size<=w'.heap.size:=gV.sz;have gG:Blk w w':=gV.bk.blk
 generalize hGn:G.back G' w.heap.size d rw nd=Gn
 have ghdd:∀z,Gn.hd d z=zS7 G' nd z:=fun z=>by rw[<-hGn];simp[Gh.back]
 have gadd:∀z,Gn.ad d z=zWi G' nd z:=fun z=>by rw[<-hGn];simp[Gh.back]
 have ghd0:∀s z,s≠d->s∉rw.map (·.2.1)->Gn.hd s z=G.hd s z:=fun s z h1 h2=>by rw[<-hGn];simp[Gh.back,h1,zL8 h2]
 have gad0:∀s z,s≠d->s∉rw.map (·.2.1)->Gn.ad s z=G.ad s z:=fun s z h1 h2=>by rw[<-hGn];simp[Gh.back,h1,zL8 h2]
 have eG:∀i s u,(i,s,u)∈rw->s≠d:=fun i s u h e=>bq.1 (e▸Jq.2 ⟨_,h,rfl⟩)
 have ghdr:∀i s u z,(i,s,u)∈rw->Gn.hd s z=G'.hd i z:=fun i s u z h=>by rw[<-hGn];simp[Gh.back,eG i s u h,zC0 rw bq.2 h]
 have gadr:∀i s u z,(i,s,u)∈rw->z≠[]->Gn.ad s z=G'.ad i z:=fun i s u z h h0=>by rw[<-hGn];simp[Gh.back,eG i s u h,zC0 rw bq.2 h,h0]
 have gadr0:∀i s u,(i,s,u)∈rw->Gn.ad s []=G.ad s []:=fun i s u h=>by rw[<-hGn];simp[Gh.back,eG i s u h,zC0 rw bq.2 h]
 have glb0:∀b o l,¬zAQ G rw b->G.lb b o=Wu l->Gn.lb b o=Wu l:=fun b o l h1 h2=>by have:=(hm.lb b o _ h2).1;rw[<-hGn];simp only[Gh.back];rw[if_neg (by rintro(h|h);exact h1 h;omega)];exact h2
 have gow0:∀b l,¬zAQ G rw b->G.ow b=Wu l->Gn.ow b=Wu l:=fun b l h1 h2=>by have:=(hm.ow b _ h2).1;rw[<-hGn];simp only[Gh.back];rw[if_neg (by rintro(h|h);exact h1 h;omega)];exact h2
 have gK:∀b o l,G'.lb b o=Wu l->zAQ G rw b\/w.heap.size<=b:=fun b o l h=>(gV.lb b o l h).2.1.symm
 have VJ:∀b l,G'.ow b=Wu l->zAQ G rw b\/w.heap.size<=b:=fun b l h=>(gV.ow b l h).2.1.symm
 have glb1:∀b o fl s z s' z',G'.lb b o=Wu (fl,s,z)->zD8 d rw nd s z=Wu (s',z')->Gn.lb b o=Wu (fl,s',z'):=fun b o fl s z s' z' h1 h2=>by rw[<-hGn];simp only[Gh.back];rw[if_pos (gK b o _ h1),h1];simp[h2]
 have gow1:∀b s z l,G'.ow b=Wu (s,z)->zD8 d rw nd s z=Wu l->Gn.ow b=Wu l:=fun b s z l h1 h2=>by rw[<-hGn];simp only[Gh.back];rw[if_pos (VJ b _ h1),h1];simp[h2]
 have iB:∀i s u z,(i,s,u)∈rw->zD8 d rw nd i z=Wu (s,z):=fun i s u z h=>by simp[zD8,zL7 rw mC h]
 have gI:∀x∈rw,x.1<us.length:=fun x hx=>by have:=(Jl.1 (eZ x hx)).1;omega
 have hbn:∀x∈nd,∀z,zD8 d rw nd x.1 z=ndB d nd x.1 z:=fun x hx z=>by have h1:=(mB x hx).2;have h2:rwS rw x.1=Wv:=zS5 (fun y hy e=>by have:=gI y hy;omega);simp[zD8,h2]
 have bG:∀(k:Nat) x,nd[k]? =Wu x-> ∃tgt,(nd.length=1->tgt=[])/\(nd.length≠1->tgt=[k])/\(∀z,Gn.hd d (z++tgt)=G'.hd x.1 (z++x.2.1))/\(∀z,Gn.ad d (z++tgt)=G'.ad x.1 (z++x.2.1))/\ ∀z,zD8 d rw nd x.1 (z++x.2.1)=Wu (d,z++tgt):=by
  intro k x hk;have au:=Ky hk
  match nd,hk,mA,hbn x au,ghdd,gadd with
  | [y],hk,mA,hb,ghdd,gadd=>
   have VE:y=x:=by
    cases k with
    |zero=>simpa using hk
    |succ k=>simp at hk
   subst VE;exact⟨[],fun _=>rfl,fun h=>absurd rfl h,fun z=>by rw[ghdd];simp[zS7],fun z=>by rw[gadd];simp[zWi],fun z=>by rw[hb];simp[ndB]⟩
  | [],hk,_,_,_,_=>simp at hk
  |y1::y2::r,hk,mA,hb,ghdd,gadd=>
   refine⟨[k],fun h=>by simp at h,fun _=>rfl,fun z=>by rw[ghdd];simp only[zS7,Qr,Qs];simp[hk],fun z=>by rw[gadd];simp only[zWi,Qr,Qs];simp[hk],fun z=>?_⟩;rw[hb];have:=zIX (y1::y2::r) mA (k0:=0) hk;rw[Jd]at this;simp only[ndB,this];simp
 have mZ:∀(k:Nat) x,nd[k]? =Wu x-> ∀tgt,(∀z,Gn.hd d (z++tgt)=G'.hd x.1 (z++x.2.1))->(∀z,Gn.ad d (z++tgt)=G'.ad x.1 (z++x.2.1))->(∀z,zD8 d rw nd x.1 (z++x.2.1)=Wu (d,z++tgt))->R (aft Γ.St Sc S') Gn w' d x.2.2 tgt:=by intro k x hk tgt h1 h2 h3;have au:=Ky hk;obtain⟨c1,c2,c3⟩:=gz x.2.2 (by rw[<-cD];exact Jq.2 ⟨x,au,rfl⟩);refine kL (G:=G') (w:=w') (s:=x.1) (p:=x.2.1) ⟨⟨h1,fun z _=>h2 z,fun b o f' z _ _ hl=>⟨glb1 b o f' _ _ _ _ hl (h3 z),rfl⟩,fun b z _ hl=>gow1 b _ _ _ hl (h3 z),fun b cs e h=>⟨cs,h,rfl⟩,by intros;assumption⟩,fun b o _ hl=>⟨glb1 b o Ww _ _ _ _ hl (by simpa using h3 []),rfl⟩,fun b hl=>gow1 b _ _ _ hl (by simpa using h3 [])⟩ _ (xF.mono (fun _ _=>False.elim) _ c1) (c3 _ _ _ _ _ eh.le (mB x au).1)
 have gA:sE (vH d rw) G w Gn w':=by
  have gH:∀s,(∀n,(s,n)∉vH d rw)->s≠d/\s∉rw.map (·.2.1):=fun s h=>⟨fun e=>h 0 (by simp[vH,e]),fun hm=>by obtain⟨x,hx,rfl⟩:=Jq.1 hm;exact h _ (zHk hx)⟩
  have mz:∀b s y,G.ow b=Wu (s,y)->s∉rw.map (·.2.1)-> ¬zAQ G rw b:=by
   rintro b s y h1 h2 ⟨s',z',h3,h4⟩
   rw[h1]at h3;simp at h3;exact h2 (h3.1▸h4)
  refine⟨fun s p h=>?_,fun s p h=>?_,fun b o fl s p gZ h1 h2=>?_,fun b s p h1 h2=>?_,gG,fun b s p ms c h1 h2 hb=>by rw[mg b (hm.ow b _ h1).1 (mz b s p h1 (gH s h2).2)];exact hb⟩
  ·have h1:s≠d:=fun e=>absurd (h 0 (by simp[vH,e])) (by simp)
   by_cases h2:s∈rw.map (·.2.1)
   ·
    obtain⟨x,hx,rfl⟩:=Jq.1 h2;have hc:=h _ (zHk hx);have c2:x.2.2.single=Ww:=by
     cases eE:x.2.2.single with
     |true=>rfl
     |false=>simp[cLv,eE]at hc
    have h3:p=[]:=Jj (by simp only[cLv,c2,if_true]at hc;omega);subst h3;obtain⟨_,_,u,c4,c5,c6⟩:=dw x hx;rw[c2]at c5;have c5:=c5.symm;obtain⟨_,u0,e1,e2⟩:=dv x.1 x.2.2 (Jq.2 ⟨x,hx,rfl⟩);rw[c6]at e1;simp at e1;subst e1;rw[xH c2,xH c5]at e2;rw[ghdr x.1 x.2.1 x.2.2 [] hx,e2];simp[Gh.arg,eZ x hx]
   ·exact ghd0 s p h1 h2
  ·have h1:s≠d:=fun e=>absurd (h 0 (by simp[vH,e])) (by simp)
   by_cases h2:s∈rw.map (·.2.1)
   ·obtain⟨x,hx,rfl⟩:=Jq.1 h2
    have hc:=h _ (zHk hx);have h3:p=[]:=Jj (by have:cLv x.2.2<=1:=(by unfold cLv;split<;>omega);omega);subst h3;exact gadr0 x.1 x.2.1 x.2.2 hx
   ·exact gad0 s p h1 h2
  ·obtain⟨h3,h4⟩:=gH s h2
   obtain⟨y,hy⟩:=gZ;have h5:=mz b s y hy h4;exact⟨glb0 b o _ h5 h1,by simp[yQ,World.cell?,mg b (hm.lb b o _ h1).1 h5]⟩
  ·obtain⟨h3,h4⟩:=gH s h2
   exact gow0 b _ (mz b s p h1 h4) h1
 have gy:Mem (Γ.at (aft Γ.St Sc S')) Gn w':=by
  have gD:∀b,b<w'.heap.size/\(w.heap.size<=b\/zAQ G rw b)/\S' b=Wv->zAU (Γ.at (aft Γ.St Sc S')) w' b:=fun b ⟨hb,h,gC⟩=>by
   have ax:Sc b=Wv:=by
    cases hs:Sc b with
    |none=>rfl
    |some x=>rw[eh.le b x hs]at gC;cases gC
   refine⟨hb,?_,by simp only[aft,ax];exact gC⟩;rcases h with h|⟨s,z,h1,_⟩
   ·exact .inl (by have:=hm.sz;show Γ.w0.heap.size<=b;omega)
   ·exact(hm.ow b _ h1).2.1
  have gx:∀b,¬(zAQ G rw b\/w.heap.size<=b)->zAU Γ w b->zAU (Γ.at (aft Γ.St Sc S')) w' b:=fun b h ⟨h1,h2,h3⟩=>by
   refine⟨by omega,h2,?_⟩;simp only[aft];split
   ·rename_i hs
    cases gC:S' b with
    |none=>rfl
    |some x=>
     rcases eh.nw b hs (by rw[gC];simp)with h4|h4
     ·exact absurd (.inr h4) h
     ·exact absurd (.inl h4) h
   ·exact h3
  refine⟨fun s z=>?_,fun b o l hl=>?_,fun b l hl=>?_,fun b x hx=>?_,fun b(h1:b<Γ.w0.heap.size) h2=>?_,U1 hm.sz gv,hm.bk.trans gG gV.bk.os gV.bk.out⟩
  ·by_cases h1:s=d
   ·subst h1
    rw[ghdd];unfold zS7;split
    ·exact gV.one _ _
    ·split
     ·split
      ·exact gV.one _ _
      ·rfl
     ·rfl
   ·by_cases h2:s∈rw.map (·.2.1)
    ·obtain⟨x,hx,rfl⟩:=Jq.1 h2
     rw[ghdr x.1 x.2.1 x.2.2 z hx];exact gV.one _ _
    ·rw[ghd0 s z h1 h2];exact hm.one _ _
  ·rw[<-hGn]at hl
   simp only[Gh.back]at hl;split at hl
   ·rename_i mM
    split at hl
    ·rename_i hg
     exact gD b (gV.lb b o _ hg)
    ·cases hl
   ·rename_i mM
    exact gx b mM (hm.lb b o l hl)
  ·rw[<-hGn]at hl
   simp only[Gh.back]at hl;split at hl
   ·rename_i mM
    split at hl
    ·rename_i hg
     exact gD b (gV.ow b _ hg)
    ·cases hl
   ·rename_i mM
    exact gx b mM (hm.ow b l hl)
  ·simp only[aft]at hx
   split at hx
   ·exact gV.st b x hx
   have h1:=hm.st b x hx;have h2:=(L2.1 h1).1;have h3:¬zAQ G rw b:=by
    rintro⟨s,z,h4,_⟩
    rw[(hm.ow b _ h4).2.2]at hx;cases hx
   rw[mg b h2 h3];exact h1
  ·have h3:¬zAQ G rw b:=by
    rintro⟨s,z,h4,_⟩
    rcases(hm.ow b _ h4).2.1 with h5|h5
    ·omega
    ·exact h2 h5
   rw[mg b (by have:=hm.sz;omega) h3];exact hm.fr b h1 h2
 have Vw:nd.length=res.length:=by rw[<-cD];simp
 refine⟨gA,gc.up ff (by simp) gA gy ?_ ?_⟩
 ·intro s hs
  obtain⟨h1,h2⟩:=zS9 hs;refine⟨fun n hn=>?_,by rw[Jb];simp[Ne.symm h1]⟩;simp only[vH,Je,Jak.injEq,Jq]at hn;rcases hn with⟨e,_⟩|⟨x,hx,e,_⟩
  ·exact h1 e
  ·exact h2 (Jq.2 ⟨x,hx,e⟩)
 ·intro s t hs
  rcases zS8 hs with⟨rfl,ht⟩|⟨gf,i,u,cR,ht⟩
  ·simp at ht
   subst ht;rw[Jb];simp only[gc.size,hd,if_true];have pD:res=nd.map (·.2.2):=cD.symm
   by_cases hl:nd.length=1
   ·obtain⟨x,hx⟩:∃x,nd=[x]:=List.length_eq_one_iff.1 hl
    obtain⟨tgt,t1,_,t3,t4,t5⟩:=bG 0 x (by simp[hx]);obtain rfl:=t1 hl;have hr:=mZ 0 x (by simp[hx]) [] t3 t4 t5;obtain⟨c1,c2,_⟩:=gz x.2.2 (by rw[pD,hx];simp);have fh:zDz res=x.2.2:=by rw[pD,hx];rfl
    have ei:∀ys,x.2.2≠.tup ys:=fun ys e=>by rw[e]at c2;simp[T.okTup]at c2
    rw[fh];refine⟨?_,hr,Top.of_clean _ c1⟩;rw[kY Gn s _ [] ei,zBJ x.2.2 x.2.1 [] t3,hx];rfl
   ·have fh:zDz res=.tup res:=by
     rw[Vw]at hl
     match res,hl with
     | [],_=>rfl
     | [u],hl=>simp at hl
     |_::_::_,_=>rfl
    rw[fh];have gL:∀k x,nd[k]? =Wu x-> ∀z,Gn.hd s (z++[0+k])=G'.hd x.1 (z++x.2.1):=fun k x hk z=>by obtain⟨tgt,_,t2,t3,_,_⟩:=bG k x hk;rw[t2 hl]at t3;rw[Jd];exact t3 z
    refine⟨?_,?_,?_⟩
    ·have hv:=zPc (Gn:=Gn) (G':=G') (d:=s) nd 0 gL
     rw[cD]at hv;simp only[mkV,hv];unfold zL2;split
     ·simp at hl
     ·rfl
    ·simp only[R]
     rw[pD];refine zOR _ [] 0 (fun k u hu=>?_);rw[Jn]at hu;cases hk:nd[k]? with
     |none=>simp[hk]at hu
     |some x=>
      simp[hk]at hu;subst hu;obtain⟨tgt,_,t2,t3,t4,t5⟩:=bG k x hk;rw[t2 hl]at t3 t4 t5;rw[Jd];exact mZ k x hk [k] t3 t4 t5
    ·simp only[Top]
     refine vV.of_clean _ ?_;have:∀us:List T,(∀u∈us,zZ u)->xG us:=by
      intro us
      induction us with
      |nil=>intro _;trivial
      |cons u us ih=>intro h;exact⟨h u (by simp),ih fun v hv=>h v (by simp[hv])⟩
     exact this res fun u hu=>(gz u hu).1
  ·simp at ht
   subst ht;obtain⟨c1,c3,u0,c4,_,c6⟩:=dw _ cR;obtain⟨r1,u1,e1,e2⟩:=dv i t (Jq.2 ⟨_,cR,rfl⟩);simp only at c4 c6;rw[c6]at e1;simp at e1;subst e1;refine⟨?_,?_,Top.of_clean _ c1⟩
   ·rw[Jb]
    simp only[Ne.symm gf,if_false];have hxi:=eZ _ cR;simp only at hxi;have m1:mkV Gn s t []=mkV G' i t []:=zFn t [] [] (fun z=>by rw[Jh];exact ghdr i s t z cR);have m2:mkV (G.arg a xs rw) i u0 []=mkV G s u0 []:=zFn u0 [] [] (fun z=>by simp[Gh.arg,hxi]);rw[(gc.ent s u0 c4).1,m1,e2,m2]
   ·refine kL (G:=G') (w:=w') (s:=i) (p:=[]) ⟨⟨fun z=>by rw[Jh];exact ghdr i s t z cR,fun z hz=>by rw[Jh];exact gadr i s t z cR hz,fun b o f' z _ _ hl=>?_,fun b z _ hl=>?_,fun b cs e h=>⟨cs,h,rfl⟩,by intros;assumption⟩,fun b o _ hl=>⟨glb1 b o Ww _ _ _ _ hl (iB i s t [] cR),rfl⟩,fun b hl=>gow1 b _ _ _ hl (iB i s t [] cR)⟩ t (xF.mono (fun _ _=>False.elim) _ c1) (c3 _ _ _ _ _ eh.le r1)
    ·rw[Jh]at hl ⊢;exact⟨glb1 b o f' _ _ _ _ hl (iB i s t z cR),rfl⟩
    ·rw[Jh]at hl ⊢;exact gow1 b _ _ _ hl (iB i s t z cR)
end
def zIY(E:Env)(rs:List Nat)(x:Operand)(t:T):Bool:=
 match x with
 |.tmp s=>sU E rs s t
 |_=>Ww
def zB2(E:Env)(rw:Rw)(i:Nat)(x:Operand)(u:T):Prop:=
 (∃s u',x=.tmp s/\(i,s,u')∈rw/\E s=Wu u/\zZ u/\u.okTup=Ww/\wT u=Ww)\/(∃t,opT E x=Wu t/\clo E t=u/\zIY E (rw.map (·.2.1)) x t=Ww)
def wA(E:Env)(rw:Rw):Nat->List Operand->List T->Prop
 |_,[],[]=>True
 |i,x::xs,u::us=>zB2 E rw i x u/\wA E rw (i+1) xs us
 |_,_,_=>False
theorem wA.length{E:Env}{rw:Rw}:(xs:List Operand)->(us:List T)-> ∀i,wA E rw i xs us->xs.length=us.length
 | [],[],_,_=>rfl
 |_::xs,_::us,i,h=>by simp[wA.length xs us (i+1) h.2]
 | [],_::_,_,h=>by simp[wA]at h
 |_::_,[],_,h=>by simp[wA]at h
theorem wA.get{E:Env}{rw:Rw}:(xs:List Operand)->(us:List T)-> ∀i,wA E rw i xs us-> ∀(j:Nat) u,us[j]? =Wu u-> ∃x,xs[j]? =Wu x/\zB2 E rw (i+j) x u
 | [],[],_,_,_,_,h=>by simp at h
 |x::xs,v::us,i,h,j,u,hj=>by
  cases j with
  |zero=>simp at hj;subst hj;exact⟨x,by simp,h.1⟩
  |succ j=>
   obtain⟨y,h1,h2⟩:=wA.get xs us (i+1) h.2 j u (by simpa using hj);exact⟨y,by simpa using h1,by rwa [show i+(j+1)=i+1+j from by omega]⟩
 | [],_::_,_,h,_,_,_=>by simp[wA]at h
 |_::_,[],_,h,_,_,_=>by grind
structure zHm (E:Env) (d:Nat) (xs:List Operand) (us:List T) (rw:Rw):Prop where
 nodup:(d::rw.map (·.2.1)).Nodup
 nodup2:(rw.map (·.1)).Nodup
 at_:∀x∈rw,xs[x.1]? =Wu (.tmp x.2.1)
 tree:∀x∈rw,zZ x.2.2/\wT x.2.2=Ww/\ ∃u,E x.2.1=Wu u/\x.2.2.single=u.single/\us[x.1]? =Wu u
theorem zHm.nil{xs:List Operand}:zHm E d xs us []:=⟨by simp,by simp,by simp,by simp⟩
theorem zHm.one{s:Nat}{xs:List Operand}(h1:d≠s)(h2:xs[i]? =Wu (.tmp s))(h3:zZ u')(h4:u'.single=Ww)(h5:wT u'=Ww)(h6:E s=Wu u)(h7:u.single=Ww)(h8:us[i]? =Wu u):
  zHm E d xs us [(i,s,u')]:=⟨by grind,by simp,by grind,by grind⟩
theorem zHm.one'{s:Nat}{xs:List Operand}(h1:d≠s)(h2:xs[i]? =Wu (.tmp s))(h3:zZ u')(h4:u'.single=u.single)(h5:wT u'=Ww)(h6:E s=Wu u)(h8:us[i]? =Wu u):
  zHm E d xs us [(i,s,u')]:=⟨by grind,by simp,by grind,by grind⟩
section
variable {P:Program}{Γ:Ctx}{E:Env}{o:Oper}{d:Nat}
theorem zWj{w:World}(gc:Rep Γ E G a.tmps w){xs:List Operand}(hr:zHm E d xs us rw){Sc:Stb}(ew:∀b x,Γ.St b=Wu x->Sc b=Wu x)
  (ey:∀r,r∉rw.map (·.2.1)-> ∀b,(∃y,G.ow b=Wu (r,y))->Sc b=w.heap[b]?)(hx:xs[i]? =Wu x)(hu:us[i]? =Wu u)(h:zB2 E rw i x u):
  a.eval x=mkV (G.arg a xs rw) i u []/\R Sc (G.arg a xs rw) w i u []:=by
 rcases h with⟨s,u',rfl,h1,h2,h3,h4,h5⟩|⟨t,h1,rfl,h3⟩
 ·obtain⟨e1,e2,_⟩:=gc.ent s u h2
  have gL:∀z,(G.arg a xs rw).hd i z=G.hd s z:=by grind[Gh.arg]
  have fq:∀z,(G.arg a xs rw).ad i z=G.ad s z:=by grind[Gh.arg]
  have hi:=zC0 rw (L4.1 hr.nodup).2 h1;refine⟨by grind[wH,zFn],?_⟩;refine zQz u [] h5 (kL (St:=Γ.St) (G:=G) (w:=w) (s:=s) (p:=[]) ⟨⟨by grind,by grind,fun b o' f' z _ gZ hl=>?_,fun b z _ hl=>?_,fun b cs e h=>⟨cs,h,rfl⟩,by intros;assumption⟩,fun b o' gZ hl=>?_,fun b hl=>?_⟩ u (by grind[xF.mono]) e2)
  ·obtain⟨y,hy⟩:=gZ
   exact⟨by grind[Gh.arg],rfl⟩
  ·grind[Gh.arg]
  ·obtain⟨y,hy⟩:=gZ
   exact⟨by grind[Gh.arg],rfl⟩
  grind[Gh.arg]
 ·cases x with
  |tmp s=>
   have gL:∀z,(G.arg a xs rw).hd i z=G.hd s z:=by grind[Gh.arg]
   obtain⟨e1,e2,_⟩:=gc.ent s t h1
   grind[zIY,wH,zKj,zYl]
  |const v=>
   simp only[opT]at h1;split at h1
   ·rename_i gw
    simp at h1;subst h1;have gL:(G.arg a xs rw).hd i []=v:=by grind[Gh.arg,Act.eval,zAs]
    exact⟨by grind[clo,mkV,Act.eval],by simp[clo,R,gL]⟩
   ·cases h1
  |func f=>
   simp only[opT]at h1;simp at h1;subst h1;have gL:(G.arg a xs rw).hd i []=.func (.func f) #[] #[]:=by grind[Gh.arg,Act.eval,kE,Value.oneCell']
   exact⟨by grind[clo,mkV,Act.eval],by simp[clo,R,gL]⟩
  |global g=>grind[opT]
theorem zCZ{E:Env}:(t:T)->t.flat=Ww->(∀rs s,sU E rs s t=Ww)/\clo E t=t
 |.lit _,_|.ro _,_=>by simp[sU,clo]
 |.agg ts,h=>by
  simp only[T.flat]at h;have:=go ts h
  grind[sU,clo]
 |.any,h|.same _ _,h|.addr _ _,h|.sub _ _ _ _ _,h|.sl _ _,h|.ptr _,h|.mp _ _,h|.tup _,h=>by grind[T.flat]
where go:(ts:List T)->zAm ts=Ww->(∀rs s,zA8 E rs s ts=Ww)/\zB1 E ts=ts
 | [],_=>by simp[zA8,zB1]
 |x::xs,h=>by simp only[zAm,J4]at h;simp only[zA8,zB1,J4];exact⟨fun rs s=>⟨(zCZ x h.1).1 rs s,(go xs h.2).1 rs s⟩,by rw[(zCZ x h.1).2,(go xs h.2).2]⟩
theorem zB3{w:World}{K:Act->World->Prop}{Q:Exit->Act->World->Prop}{f:FuncId}{xf:Operand}{xs:List Operand}(ho:o.op=.call { callee:=.value xf,args:=xs.toArray,argTypes:=ats })(gg:o.dst=Wu d)
  (gu:∀args w,(callFunc f args).run P w=.ok (.enter f args) w)(hf:a.eval xf=.func (.func f) #[] #[])
  (h:Calls P f (xs.map a.eval).toArray w fun e w'=> ∃v,e=.returned v/\K (a.put (Wu d) v) w'):o.wp P a w K Q:=by
 have gB:(execOp a.eval o).run P w=.ok (.enter f (xs.map a.eval).toArray) w:=by simp[execOp,ho,resolve,hf,Deferred.ofValue,invoke,gu]
 unfold Oper.wp;rw[gB,Oper.upon_enter];refine h.mono ?_
 grind
theorem zHn{w:World}(gc:Rep Γ E G a.tmps w)(hd:d<Γ.N)(f:FuncId)(xs:List Operand)(us res:List T)(rw:Rw)
  (hc:FnC P f us res (rw.map fun x=>(x.1,x.2.2)))(gn:wA E rw 0 xs us)(hr:zHm E d xs us rw)(gz:xG res/\yU res=Ww/\vY res=Ww):
  Calls P f (xs.map a.eval).toArray w fun e w'=> ∃v,e=.returned v/\ ∃S G',zDy Γ.St S Γ.W Γ.w0.heap.size/\sE (vH d rw) G w G' w'/\Rep (Γ.at S) (E.app (cWr d res rw) (vH d rw)) G' (a.tmps.setIfInBounds d v) w':=by
 classical
 have hm:=gc.mem
 let Sc:Stb:=fun b=>if zAQ G rw b then Wv else w.heap[b]?
 have ew:∀b x,Γ.St b=Wu x->Sc b=Wu x:=fun b x hx=>by
  have h3:¬zAQ G rw b:=by
   rintro⟨s,z,h4,_⟩
   rw[(hm.ow b _ h4).2.2]at hx;cases hx
  simp only[Sc,h3,if_false];exact hm.st b x hx
 have ey:∀r,r∉rw.map (·.2.1)-> ∀b,(∃y,G.ow b=Wu (r,y))->Sc b=w.heap[b]?:=fun r ik b ⟨y,hy⟩=>by
  have h3:¬zAQ G rw b:=by
   rintro⟨s,z,h4,h5⟩
   grind
  grind
 have ck:∀(us:List T),xG us/\yU us=Ww/\vY us=Ww-> ∀u∈us,zZ u/\u.okTup=Ww/\wT u=Ww:=by
  intro us
  induction us with
  |nil=>simp
  |cons v us ih=>
   intro⟨h1,h2,h3⟩ u hu;simp only[yU,vY,J4]at h2 h3;rcases Je.1 hu with rfl|hu
   ·exact⟨h1.1,h2.1,h3.1⟩
   ·exact ih ⟨h1.2,h2.2,h3.2⟩ u hu
 exact zHl gc hd (Sc:=Sc) (rw:=rw) (by grind) ew hc (wA.length xs us 0 gn) (fun i u hu=>by
   obtain⟨x,h1,h2⟩:=wA.get xs us 0 gn i u hu;rw[Jd]at h2
   grind[zWj]) hr.nodup hr.nodup2 hr.at_
  (by grind[zQz])
  (fun x hx=>by
   obtain⟨h1,h3,h4⟩:=hr.tree x hx
   grind[zQz])
theorem zKk(f:FuncId)(xf:Operand)(xs:List Operand)(ats:Array TypeId)(us res:List T)(rw:Rw)(ho:o.op=.call { callee:=.value xf,args:=xs.toArray,argTypes:=ats })(gg:o.dst=Wu d)(hd:d<Γ.N)
  (gu:∀args w,(callFunc f args).run P w=.ok (.enter f args) w)(hf:opT E xf=Wu (.lit (.func (.func f) #[] #[])))
  (hc:FnC P f us res (rw.map fun x=>(x.1,x.2.2)))(gn:wA E rw 0 xs us)(hr:zHm E d xs us rw)(gz:xG res/\yU res=Ww/\vY res=Ww):
  wF P Γ o E (E.app (cWr d res rw) (vH d rw)):=by
 intro a w K Q ⟨gN,G,gc⟩ hK;refine zB3 ho gg gu (xX gc hf).1 ?_;refine(zHn gc hd f xs us res rw hc gn hr gz).mono ?_
 rintro e w' ⟨v,rfl,S,G',hS,_,gr⟩
 exact⟨v,rfl,hK _ _ ⟨S,hS,gN,G',gr⟩⟩
theorem zL9(f:FuncId)(xf:Operand)(xs:List Operand)(ats:Array TypeId)(us res:List T)(i ds r:Nat)(q:List Nat)(tr u u':T)(ho:o.op=.call { callee:=.value xf,args:=xs.toArray,argTypes:=ats })(gg:o.dst=Wu d)(hd:d<Γ.N)
  (gu:∀args w,(callFunc f args).run P w=.ok (.enter f args) w)(hf:opT E xf=Wu (.lit (.func (.func f) #[] #[])))
  (hs:E ds=Wu (.same r q))(hr:E r=Wu tr)(hq:tr.get q.reverse=Wu u)(hu:u.single=Ww)(ez:zZ u)(ee:ds≠r)(hdr2:d≠r)(gD:tr.okB [(ds,1),(r,q.length+1)]=Ww)(eE:wB tr=Ww)
  (E1 E2:Env)(ai:E1=E.app [(ds,Wu u),(r,Wu (if q=[]then .same ds []else tr.set q.reverse .any))] [(ds,1),(r,q.length+1)])(gM:E2=E1.app (cWr d res [(i,ds,u')]) (vH d [(i,ds,u')]))
  (hc:FnC P f us res [(i,u')])(gn:wA E1 [(i,ds,u')] 0 xs us)(cR:zHm E1 d xs us [(i,ds,u')])(gz:xG res/\yU res=Ww/\vY res=Ww)
  (tr2 v0:T)(pf:E2 r=Wu tr2)(Vk:tr2.get q.reverse=Wu v0)(dh:v0.single=Ww)(cx:E2 ds=Wu u')(ep:zZ u')(mU:u'.single=Ww)(my:tr2.okB [(r,q.length+1),(ds,1)]=Ww)(hc3:wB tr2=Ww)(hok3:u'.okB [(r,q.length+1),(ds,1)]=Ww)(hc4:wB u'=Ww):
  wF P Γ o E (E2.app [(r,Wu (tr2.set q.reverse u')),(ds,Wu (.same r q))] [(r,q.length+1),(ds,1)]):=by
 have mc:cLv u'=1:=by grind[cLv]
 intro a w K Q ⟨gN,G,gc⟩ hK;refine zB3 ho gg gu (xX gc hf).1 ?_;have gW:G.hd ds []=G.hd r q:=by have:=(gc.ent ds _ hs).2.1;simpa only[R]using this
 obtain⟨cB,VM⟩:=zDK gc ds [] r q (.same r q) tr u (.same r q) hs rfl rfl gW hr hq hu ez ee (by grind[T.okB,zAl]) (by omega) rfl eE;have Wq:E.app [(ds,Wu ((T.same r q).set [].reverse u)),(r,Wu (if q=[]then .same ds []else tr.set q.reverse .any))] [(ds,([]:List Nat).length+1),(r,q.length+1)]=E1:=by rw[ai];rfl
 rw[Wq]at cB;refine(zHn cB hd f xs us res [(i,ds,u')] hc gn cR gz).mono ?_
 rintro e w' ⟨v,rfl,S,G',hS,hk,gr⟩
 rw[<-gM]at gr;have hdds:d≠ds:=by have:=cR.nodup;grind
 have h1:G'.hd r q=(G.tr ds [] r q).hd r q:=hk.hd r q (fun n hn=>by grind[vH]);have h2:G'.hd ds []=(G.tr ds [] r q).hd ds []:=hk.hd ds [] (fun n hn=>by grind[vH]);have fX:G'.hd r q=G'.hd ds []:=by grind
 obtain⟨cz,_⟩:=zDK gr r q ds [] tr2 u' u' v0 pf Vk dh fX cx rfl mU ep (Ne.symm ee) (by omega) (by omega) hc3 hc4;refine⟨v,rfl,hK _ _ ⟨S,hS,gN,G'.tr r q ds [],?_⟩⟩;have hw:(if([]:List Nat)=[]then T.same r q else u'.set ([]:List Nat).reverse .any)=T.same r q:=if_pos rfl;rw[hw]at cz;exact cz
theorem zSA(f:FuncId)(xf:Operand)(xs:List Operand)(ats:Array TypeId)(us res:List T)(ho:o.op=.call { callee:=.value xf,args:=xs.toArray,argTypes:=ats })(gg:o.dst=Wu d)(hd:d<Γ.N)
  (gu:∀args w,(callFunc f args).run P w=.ok (.enter f args) w)(hf:opT E xf=Wu (.lit (.func (.func f) #[] #[])))
  (hc:FnC P f us res [])(gm:xs.length=us.length)(gn:∀(i:Nat) u,us[i]? =Wu u-> ∃x,xs[i]? =Wu x/\opT E x=Wu u/\u.flat=Ww)(gz:xG res/\yU res=Ww):
  wF P Γ o E (E.app (cWr d res []) (vH d [])):=by
 intro a w K Q ⟨gN,G,gc⟩ hK;have hm:=gc.mem;refine zB3 ho gg gu (xX gc hf).1 ?_;have mz:∀b,¬zAQ G [] b:=by rintro b ⟨s,z,_,h⟩;simp at h
 have ck:∀(us:List T),xG us/\yU us=Ww-> ∀u∈us,zZ u/\u.okTup=Ww:=by
  intro us
  induction us with
  |nil=>simp
  |cons v us ih=>
   intro⟨h1,h2⟩ u hu;simp only[yU,J4]at h2;rcases Je.1 hu with rfl|hu
   ·exact⟨h1.1,h2.1⟩
   ·exact ih ⟨h1.2,h2.2⟩ u hu
 have:=zHl gc hd (Sc:=Γ.St) (rw:=[]) (fun b x hx=>⟨hm.st b x hx,mz b⟩) (fun _ _ h=>h) hc gm (fun i u hu=>by
   obtain⟨x,h1,h2,h3⟩:=gn i u hu;refine⟨x,h1,?_⟩;have VR:=zCZ (E:=E) u h3;cases x with
   |tmp s=>
    have gL:∀z,(G.arg a xs []).hd i z=G.hd s z:=by grind[Gh.arg]
    obtain⟨e1,e2,_⟩:=gc.ent s u h2;refine⟨?_,by grind[zKe]⟩;have:=zKj (E:=E) gL u (VR.1 [] s)
    grind[wH]
   |const v=>
    simp only[opT]at h2;split at h2
    ·rename_i gw
     simp at h2;subst h2;have gL:(G.arg a xs []).hd i []=v:=by grind[Gh.arg,Act.eval,zAs]
     exact⟨by grind[mkV,Act.eval],by simp[R,gL]⟩
    ·cases h2
   |func f=>
    simp only[opT]at h2;simp at h2;subst h2;have gL:(G.arg a xs []).hd i []=.func (.func f) #[] #[]:=by grind[Gh.arg,Act.eval,kE,Value.oneCell']
    exact⟨by grind[mkV,Act.eval],by simp[R,gL]⟩
   |global g=>grind[opT]) (by simp) (by simp) (by simp)
  (fun u hu=>⟨by grind,by grind,fun S' G w s p hS h=>by
   have:aft Γ.St Γ.St S'=S':=funext (by grind[aft])
   grind⟩) (by simp)
 refine this.mono ?_
 rintro e w' ⟨v,rfl,S,G',hS,_,gr⟩
 exact⟨v,rfl,hK _ _ ⟨S,hS,gN,G',gr⟩⟩
end
def xR:List (Nat×T)->Env
 | [],_=>Wv
 |(k,t)::l,s=>if k=s then Wu t else xR l s
def Env.Has(E:Env):List (Nat×T)->Prop
 | []=>True
 |(s,t)::l=>E s=Wu t/\E.Has l
theorem Env.Has.le:{l:List (Nat×T)}->E.Has l-> ∀s t,xR l s=Wu t->E s=Wu t
 | [],_,s,t,h=>by grind[xR]
 |(k,u)::l,hh,s,t,h=>by
  simp only[xR]at h;split at h
  ·rename_i e
   subst e;rw[hh.1];exact h
  ·exact hh.2.le s t h
theorem Sim.weaken{w:World}(h:Sim Γ E a w)(fR:∀s t,E' s=Wu t->E s=Wu t):Sim Γ E' a w:=by obtain⟨h1,G,h2⟩:=h;exact⟨h1,G,⟨h2.size,fun s t hs=>h2.ent s t (fR s t hs),h2.mem⟩⟩
theorem qW.weaken{w:World}(h:qW Γ E a w)(fR:∀s t,E' s=Wu t->E s=Wu t):qW Γ E' a w:=by obtain⟨S,h1,h2⟩:=h;exact⟨S,h1,h2.weaken fR⟩
abbrev sG:=List (Nat×Value)
def sG.Hold(pn:sG)(a:Act):Prop:=∀x∈pn,a.tmps[x.1]? =Wu x.2
def sG.ok(pn:sG)(d:Option Nat):Bool:=match d with
 |none=>Ww
 |some d=>pn.all fun x=>x.1 != d
theorem Oper.wp_frame{w:World}{K:Act->World->Prop}{Q:Exit->Act->World->Prop}(h:o.wp P a w K Q):
  o.wp P a w (fun a' w'=>K a' w'/\ ∀s,o.dst≠Wu s->a'.tmps[s]? =a.tmps[s]?) Q:=by
 have key:∀(v:Value)(ds:List Deferred),∀s,o.dst≠Wu s->(({ a with defers:=ds }:Act).put o.dst v).tmps[s]? =a.tmps[s]?:=by
  intro v ds s hs;cases hd:o.dst with
  |none=>rfl
  |some d=>
   grind[Act.put]
 have key0:∀(v:Value),∀s,o.dst≠Wu s->(a.put o.dst v).tmps[s]? =a.tmps[s]?:=fun v=>key v a.defers
 unfold Oper.wp at*
 generalize (execOp a.eval o).run P w=r at*
 cases r with
 |ok n w'=>
  cases n<;>simp only[Oper.upon]at h ⊢
  all_goals grind
 |halt x w'=>cases x<;>simp only[Oper.upon]at h ⊢ <;>exact h
theorem sG.Hold.frame{pn:sG}{a':Act}{d:Option Nat}(h:pn.Hold a)(gD:pn.ok d=Ww)(hf:∀s,d≠Wu s->a'.tmps[s]? =a.tmps[s]?):pn.Hold a':=by
 intro x hx;rw[hf x.1 ?_]
 ·exact h x hx
 ·rintro rfl
  have:=Ka.1 gD x hx
  grind
section
variable (P:Program) (Γ:Ctx) (pn:sG)
def CW(c:Code)(E:Env)(Q:Exit->Env->Prop):Prop:=
 ∀(a:Act)(w:World)(Q':Exit->Act->World->Prop),qW Γ E a w->pn.Hold a->(∀e E' a' w',Q e E'->qW Γ E' a' w'->pn.Hold a'->Q' e a' w')->c.wp P Q' a w
def xN(ops:Array Oper)(o:Oper)(E E':Env):Prop:=
 ∀(a:Act)(w:World)(K:Act->World->Prop)(Q:Exit->Act->World->Prop),qW Γ E a w->(∀a' w',qW Γ E' a' w'->(∀s,o.dst≠Wu s->a'.tmps[s]? =a.tmps[s]?)->K a' w')->
  if Region.wanted o (yielded ops a.tmps)then o.wp P a w K Q\/(o.asks P a w/\LetsOut Q)else K (a.put o.dst undef) w
def wpL(ops:Array Oper)(Q:Exit->Act->World->Prop):List Oper->Act->World->Prop
 | [],a,w=>Q .normal a w
 |o::os,a,w=>if Region.wanted o (yielded ops a.tmps)then o.wp P a w (wpL ops Q os) Q\/(o.asks P a w/\LetsOut Q)else wpL ops Q os (a.put o.dst undef) w
def RW(ops:Array Oper)(os:List Oper)(E:Env)(Q:Exit->Env->Prop):Prop:=
 ∀(a:Act)(w:World)(Q':Exit->Act->World->Prop),qW Γ E a w->pn.Hold a->(∀e E' a' w',Q e E'->qW Γ E' a' w'->pn.Hold a'->Q' e a' w')->wpL P ops Q' os a w
end
section
variable {P:Program}{Γ:Ctx}{pn:sG}{E E':Env}{Q Q1:Exit->Env->Prop}{c c1 c2:Code}{ops:Array Oper}{o:Oper}{os:List Oper}{d:Nat}
theorem zKl{Q':Exit->Act->World->Prop}:∀(os:List Oper)(n:Nat)(a:Act)(w:World),ops.toList.drop n=os->wpL P ops Q' os a w->wpOps P ops Q' (Ke n os.length) a w
 | [],n,a,w,_,h=>by simpa[wpOps,wpL]using h
 |o::os,n,a,w,hd,h=>by
  have ho:ops[n]? =Wu o:=by
   have:=congrArg (·[0]?) hd
   grind
  have br:ops.toList.drop (n+1)=os:=by
   have:=congrArg List.tail hd
   grind[List.tail_drop]
  simp only[J8,L3,wpOps,ho];simp only[wpL]at h;split
  ·rename_i hw
   simp only[hw,if_true]at h;exact h.imp (Oper.wp_mono fun a w=>zKl os (n+1) a w br) id
  ·rename_i hw
   simp only[hw]at h;exact zKl os (n+1) _ w br h
theorem CW.region(h:RW P Γ pn ops ops.toList E Q):CW P Γ pn (.region id ops Wx) E Q:=by
 intro a w Q' hs hp hQ;refine wp_region ?_;have:=zKl (P:=P) ops.toList 0 a w (by simp) (h a w Q' hs hp hQ)
 grind[Ld]
theorem RW.nil(h:Q .normal E):RW P Γ pn ops [] E Q:=fun a w Q' hs hp hQ=>by
 simp only[wpL]
 grind
theorem RW.cons(h1:xN P Γ ops o E E')(h3:RW P Γ pn ops os E' Q)(h2:pn.ok o.dst=Ww:=by rfl):RW P Γ pn ops (o::os) E Q:=by
 intro a w Q' hs hp hQ;simp only[wpL];have:=h1 a w (wpL P ops Q' os) Q' hs fun a' w' gC hf=>h3 a' w' Q' gC (hp.frame h2 hf) hQ
 exact this
theorem xN.op(h:∀S,wF P (Γ.at S) o E E')(hg:o.guard=Wv:=by rfl):xN P Γ ops o E E':=by
 intro a w K Q hs hK;have hw:Region.wanted o (yielded ops a.tmps)=Ww:=by simp[Region.wanted,hg]
 rw[if_pos hw];refine .inl ?_;obtain⟨S,hS,hs⟩:=hs;have:=Oper.wp_frame (h S a w (fun a' w'=>qW Γ E' a' w') Q hs fun a' w' h=>h.up hS)
 grind[Oper.wp_mono]
theorem zHo{w:World}(hs:qW Γ E a w){g s:Nat}{b:Bool}(eA:(ops[g]?).bind (·.dst)=Wu s)(h:E s=Wu (.lit (.bool b))):yielded ops a.tmps g=Wu b:=by
 obtain⟨_,_,_,G,hr⟩:=hs;obtain⟨h1,h2,_⟩:=hr.ent s _ h;simp only[R]at h2
 grind[yielded,mkV]
theorem xN.guard(g:Nat)(b:Bool)(s:Nat)(h:∀S,wF P (Γ.at S) o E E')(hg:o.guard=Wu (g,b):=by rfl)(eA:(ops[g]?).bind (·.dst)=Wu s:=by rfl)(hb:E s=Wu (.lit (.bool b)):=by rfl):xN P Γ ops o E E':=by
 intro a w K Q hs hK;have hw:Region.wanted o (yielded ops a.tmps)=Ww:=by grind[Region.wanted,zHo]
 rw[if_pos hw];refine .inl ?_;obtain⟨S,hS,hs⟩:=hs;have:=Oper.wp_frame (h S a w (fun a' w'=>qW Γ E' a' w') Q hs fun a' w' h=>h.up hS)
 grind[Oper.wp_mono]
def zI(Γ:Ctx)(E E':Env):Prop:=∀(a:Act)(w:World),qW Γ E a w->qW Γ E' a w
theorem zI.refl:zI Γ E E:=fun _ _ h=>h
theorem zI.trans{E2 E3:Env}(h:zI Γ E1 E2)(h':zI Γ E2 E3):zI Γ E1 E3:=fun a w hs=>h' a w (h a w hs)
theorem zI.has{l:List (Nat×T)}(h:E.Has l):zI Γ E (xR l):=fun _ _ hs=>hs.weaken h.le
theorem CW.ghost(h1:zI Γ E E')(h:CW P Γ pn c E' Q):CW P Γ pn c E Q:=fun a w Q' hs=>h a w Q' (h1 a w hs)
theorem RW.ghost(h1:zI Γ E E')(h:RW P Γ pn ops os E' Q):RW P Γ pn ops os E Q:=fun a w Q' hs=>h a w Q' (h1 a w hs)
theorem CW.to(l:List (Nat×T))(h1:E.Has l)(h:CW P Γ pn c (xR l) Q):CW P Γ pn c E Q:=h.ghost (.has h1)
theorem CW.mono(h:CW P Γ pn c E Q1)(hq:∀e E',Q1 e E'->Q e E'):CW P Γ pn c E Q:=fun a w Q' hs hp hQ=>h a w Q' hs hp (by grind)
theorem CW.skip(h:Q .normal E):CW P Γ pn .skip E Q:=fun _ _ _ hs hp hQ=>by grind[wp_skip]
theorem CW.ret(h:Q .ret E):CW P Γ pn .ret E Q:=fun _ _ _ hs hp hQ=>by grind[wp_ret]
theorem CW.exit(h:Q (.exit id) E):CW P Γ pn (.exit id) E Q:=fun _ _ _ hs hp hQ=>by grind[wp_exit]
def yX(P:Program)(Γ:Ctx)(pn:sG)(c:Code)(Q:Exit->Env->Prop):Exit->Env->Prop
 |.normal,E=>CW P Γ pn c E Q
 |e,E=>Q e E
theorem CW.seq(h:CW P Γ pn c1 E (yX P Γ pn c2 Q)):CW P Γ pn (.seq c1 c2) E Q:=by
 intro a w Q' hs hp hQ;refine wp_seq (h a w _ hs hp fun e E' a' w' h1 gC cW=>?_);cases e with
 |normal=>exact h1 a' w' Q' gC cW hQ
 |_=>exact hQ _ _ _ _ h1 gC cW
theorem CW.cond(b:Bool)(hb:opT E x=Wu (.lit (.bool b)))(ht:b=Ww->CW P Γ pn c1 E Q)(hf:b=Wx->CW P Γ pn c2 E Q):CW P Γ pn (.cond x c1 c2) E Q:=by intro a w Q' hs hp hQ;obtain⟨_,_,_,G,hr⟩:=id hs;refine wp_cond_split (xX hr hb).1 (fun h=>ht h a w Q' hs hp hQ) (fun h=>hf h a w Q' hs hp hQ)
def xC(id:Nat)(Q:Exit->Env->Prop):Exit->Env->Prop
 |.exit id',E=>if id'=id then Q .normal E else Q (.exit id') E
 |e,E=>Q e E
theorem CW.block(h:CW P Γ pn c E (xC id Q)):CW P Γ pn (.block id c) E Q:=by
 intro a w Q' hs hp hQ;refine wp_block (h a w _ hs hp fun e E' a' w' h1 gC cW=>?_);cases e with
 |exit id'=>
  simp only[xC]at h1;simp only[Exit.inBlock]
  grind
 |_=>exact hQ _ _ _ _ h1 gC cW
end
def jV{σ ρ:Type}(body:σ->Option (σ⊕ρ)):Nat->σ->Option ρ
 |0,_=>Wv
 |n+1,s=>match body s with
  |none=>Wv
  |some (.inl s')=>jV body n s'
  |some (.inr r)=>Wu r
theorem zHp{σ ρ:Type}{body:σ->Option (σ⊕ρ)}{r:ρ}:∀{n m:Nat}{s:σ},jV body n s=Wu r->n<=m->jV body m s=Wu r
 |0,_,_,h,_=>by grind[jV]
 |n+1,0,_,_,hm=>by omega
 |n+1,m+1,s,h,hm=>by
  simp only[jV]at h ⊢
  cases hb:body s with
  |none=>grind
  |some x=>
   cases x with
   |inl s'=>simp only[hb]at h ⊢;exact zHp h (by omega)
   |inr r'=>grind
open Classical in
noncomputable def zF {σ ρ:Type} (body:σ->Option (σ⊕ρ)) (s:σ):Option ρ:=
 if h:∃(n:Nat)(r:ρ),jV body n s=Wu r then Wu h.choose_spec.choose else Wv
theorem zDP{σ ρ:Type}{body:σ->Option (σ⊕ρ)}{s:σ}{r:ρ}:zF body s=Wu r↔ ∃n,jV body n s=Wu r:=by
 unfold zF;constructor
 ·intro h
  split at h
  all_goals grind
 ·rintro⟨n,hn⟩
  have he:∃(n:Nat)(r:ρ),jV body n s=Wu r:=⟨n,r,hn⟩;rw[dif_pos he]
  grind[zHp]
theorem yW(body:σ->Option (σ⊕ρ))(s:σ):zF body s=match body s with
  |none=>Wv
  |some (.inl s')=>zF body s'
  |some (.inr r)=>Wu r:=by
 apply Option.ext;intro r;rw[zDP];cases hb:body s with
 |none=>
  simp only[reduceCtorEq,iff_false]
  rintro⟨n,hn⟩
  cases n<;>simp[jV,hb]at hn
 |some x=>
  cases x with
  |inl s'=>
   simp only[];rw[zDP];constructor
   ·rintro⟨n,hn⟩
    cases n with
    |zero=>grind[jV]
    |succ n=>grind[jV]
   ·rintro⟨n,hn⟩
    exact⟨n+1,by grind[jV]⟩
  |inr r'=>
   simp only[Lr.injEq];constructor
   ·rintro⟨n,hn⟩
    cases n with
    |zero=>grind[jV]
    |succ n=>grind[jV]
   ·rintro rfl
    exact⟨1,by simp[jV,hb]⟩
section
variable {P:Program}{Γ:Ctx}{pn:sG}{E:Env}{Q:Exit->Env->Prop}{c:Code}
def wK{σ ρ:Type}(Γ:Ctx)(en:σ->Env)(Q:ρ->Exit->Env->Prop)(x:σ⊕ρ):Exit->Env->Prop:=fun e E'=>
 match x with
 |.inl s'=>e=.normal/\zI Γ E' (en s')
 |.inr r=>e≠.normal/\Q r e E'
theorem zCm{p:Nat->Prop}(h:∃m,p m):∃m,p m/\ ∀k,k<m-> ¬p k:=by
 refine Classical.byContradiction fun hn=>?_
 have key:∀n,∀k,k<n-> ¬p k:=by
  intro n
  induction n with
  |zero=>simp
  |succ n ih=>
   grind
 grind
theorem CW.loop(body:σ->Option (σ⊕ρ))(en:σ->Env)(Q:ρ->Exit->Env->Prop)(h:∀s x,body s=Wu x->CW P Γ pn c (en s) (wK Γ en Q x)){s:σ}{r:ρ}(hr:zF body s=Wu r):
  CW P Γ pn (.loop c) (en s) (Q r):=by
 classical
 intro a w Q' hs hp hQ
 let p:Act->World->Nat->Prop:=fun a w m=> ∃s,jV body m s=Wu r/\qW Γ (en s) a w/\pn.Hold a
 let μ:Act->World->Nat:=fun a w=>if h:∃m,p a w m then(zCm h).choose else 0
 obtain⟨n,hn⟩:=zDP.1 hr;refine wp_loop (fun a w=> ∃m,p a w m) μ (by grind) ?_;intro a w cE;have hμ:μ a w=(zCm cE).choose:=dif_pos cE;obtain⟨s,h1,h2,h3⟩:=(zCm cE).choose_spec.1;have fc:=(zCm cE).choose_spec.2;rw[<-hμ]at h1;cases hm:μ a w with
 |zero=>grind[jV]
 |succ k=>
  rw[hm]at h1;simp only[jV]at h1;cases hb:body s with
  |none=>grind
  |some x=>
   refine h s x hb a w _ h2 h3 fun e E' a' w' hq gC cW=>?_
   cases x with
   |inl s'=>
    simp only[hb]at h1;obtain⟨rfl,hg⟩:=hq;have fb:p a' w' k:=⟨s',h1,hg a' w' gC,cW⟩;refine⟨⟨k,fb⟩,?_⟩;have hex':∃m,p a' w' m:=⟨k,fb⟩
    grind
   |inr r'=>
    simp only[hb]at h1;have:r'=r:=by grind
    subst this;obtain⟨gf,hq⟩:=hq;have:=hQ e E' a' w' hq gC cW;cases e with
    |normal=>grind
    |_=>exact this
end
abbrev Nds:=List (Nat×List Nat×T)
def ROk(P:Program)(E:Env):ResultVar->(Nat×List Nat×T)->Prop
 |.tmp s,x=>x.1=s/\x.2.1=[]/\E s=Wu x.2.2/\x.2.2.okTup=Ww
 |.cell a T,x=>x.1=a/\x.2.1=[0]/\E a=Wu (.ptr x.2.2)/\ ∃ds ti,P.underlying T=Wu ds/\P.info? T=Wu ti/\zGT ds= !x.2.2.single/\ti.size=x.2.2.size
def zGx(P:Program)(E:Env):List ResultVar->Nds->Prop
 | [],[]=>True
 |x::xs,y::ys=>ROk P E x y/\zGx P E xs ys
 |_,_=>False
def LOk(E:Env)(us:List T):List (Nat×T)->Prop
 | []=>True
 |(i,u')::l=>(E i=Wu u'/\ ∃u,us[i]? =Wu u)/\LOk E us l
def yAX(P:Program)(rs:Array ResultVar)(us res:List T)(rws:List (Nat×T)):Exit->Env->Prop:=fun e E=>
 (e=.ret\/e=.normal)/\ ∃nd:Nds,zGx P E rs.toList nd/\nd.map (·.2.2)=res/\(∀x∈nd,us.length<=x.1)/\(nd.map (·.1)).Nodup/\LOk E us rws
def zC1(v:Nat->Value)(is:List Nat):sG:=is.map fun i=>(i,v i)
def zIC:Nat->List T->List (Nat×T)
 |_,[]=>[]
 |i,u::us=>(i,u)::zIC (i+1) us
theorem zLA:∀(us:List T)(i s:Nat)(t:T),xR (zIC i us) s=Wu t->i<=s/\us[s-i]? =Wu t
 | [],i,s,t,h=>by grind[zIC,xR]
 |u::us,i,s,t,h=>by
  simp only[zIC,xR]at h;split at h
  ·grind
  ·rename_i e
   obtain⟨h1,h2⟩:=zLA us (i+1) s t h
   grind
def zSB(tmps:Array Value):ResultVar->Sem Value
 |.tmp t=>pure (tmps.getD t undef)
 |.cell a t=>do loadVar t (<-asAddr (tmps.getD a undef))
theorem zNw(fn:Func)(tmps:Array Value):results fn tmps=(do
  let vs <-fn.results.mapM (zSB tmps)
  pure (if h:vs.size=1 then vs[0]else .tuple vs)):=rfl
theorem vV.get:(xs:List T)->vV xs-> ∀(i:Nat)(x:T),xs[i]? =Wu x->Top x
 | [],_,i,x,h=>by simp at h
 |y::ys,ht,i,x,h=>by
  simp only[vV]at ht;cases i with
  |zero=>simp at h;subst h;exact ht.1
  |succ i=>exact vV.get ys ht.2 i x (by simpa using h)
theorem LOk.get{E:Env}{us:List T}:(l:List (Nat×T))->LOk E us l-> ∀i u',(i,u')∈l->E i=Wu u'/\ ∃u,us[i]? =Wu u
 | [],_,_,_,h=>by simp at h
 |x::l,h,i,u',hm=>by
  rcases Je.1 hm with rfl|hm
  ·exact h.1
  ·exact LOk.get l h.2 i u' hm
theorem yDm{w:World}(gc:Rep Γ E G tmps w)(x:ResultVar)(s:Nat)(q:List Nat)(t:T)(h:ROk P E x (s,q,t)):
  (zSB tmps x).run P w=.ok (sB G s t q) w/\R Γ.St G w s t q:=by
 cases x with
 |tmp s'=>
  obtain⟨h0,cZ,h1,h2⟩:=h;dsimp only at h0 cZ h1 h2;subst h0 cZ;obtain⟨g1,g2,_⟩:=gc.ent _ _ h1;have ei:∀xs,t≠.tup xs:=by rintro xs rfl;grind[T.okTup]
  refine⟨?_,g2⟩;rw[<-kY G s t [] ei];simp[zSB,Kk,g1]
 |cell a T'=>
  obtain⟨h0,cZ,h1,ds,ti,h2,h3,h4,h5⟩:=h;dsimp only at h0 cZ h1 h4 h5;subst h0 cZ;obtain⟨g1,g2,_⟩:=gc.ent _ _ h1;simp only[R]at g2;obtain⟨b,cs,e,k1,k2,k3,k4,k5,k6⟩:=g2;refine⟨?_,k6⟩;rw[xH rfl,k1]at g1;have h6:=zFY (w:=w) h2 h3 k5 h4 h5;simp[zSB,Kk,g1,asAddr,h6]
theorem zGf{P:Program}{Γ:Ctx}{E:Env}{G:Gh}{tmps:Array Value}{w:World}(gc:Rep Γ E G tmps w):(rs:List ResultVar)->(nd:Nds)->zGx P E rs nd->
  (rs.mapM (zSB tmps)).run P w=.ok (nd.map fun x=>sB G x.1 x.2.2 x.2.1) w/\ ∀x∈nd,R Γ.St G w x.1 x.2.2 x.2.1
 | [],[],_=>by simp
 |x::xs,y::ys,h=>by
  obtain⟨h1,h2⟩:=zGf gc xs ys h.2;obtain⟨h3,h4⟩:=yDm gc x y.1 y.2.1 y.2.2 h.1
  simp_all
 | [],_::_,h=>by simp[zGx]at h
 |_::_,[],h=>by simp[zGx]at h
theorem FnC.of_body{f:FuncId}{res:List T}(hf:P.funcs[f]? =Wu fn)(hb:fn.body=Wu c)(hn:us.length<=fn.ntmps)(ht:vV us)(hr:rws.all (fun x=>decide (x.1<us.length))=Ww)
  (h:∀(Γ:Ctx)(v:Nat->Value),Γ.N=fn.ntmps->CW P Γ (zC1 v (rws.map (·.1))) c (xR (zIC 0 us)) (yAX P fn.results us res rws)):FnC P f us res rws:=by
 intro St W w G vs cJ gn gy
 let Γ:Ctx:=⟨St,W,w,fn.ntmps⟩
 let v:Nat->Value:=fun i=>vs.getD i undef
 have hm:Mem Γ G w:=⟨gy.one,gy.lb,gy.ow,gy.st,gy.fr,gy.sz,gy.bk⟩;have gv:(vs++Uu (fn.ntmps-vs.size) undef).size=fn.ntmps:=by simp;omega
 have bJ:Sim Γ (xR (zIC 0 us)) { tmps:=vs++Uu (fn.ntmps-vs.size) undef,defers:=[] } w:=by
  refine⟨rfl,G,gv,?_,hm⟩;intro s t hs;obtain⟨_,h2⟩:=zLA us 0 s t hs;simp only[Li]at h2;obtain⟨h3,h4⟩:=gn s t h2;have gI:s<vs.size:=by grind
  exact⟨by grind,h4,vV.get us ht s t h2⟩
 have Vn:(zC1 v (rws.map (·.1))).Hold { tmps:=vs++Uu (fn.ntmps-vs.size) undef,defers:=[] }:=by
  intro x hx;simp only[zC1,Jq]at hx;obtain⟨i,⟨y,hy,rfl⟩,rfl⟩:=hx;have h1:=Ka.1 hr y hy;simp at h1;have h2:y.1<vs.size:=by omega
  simp[Array.getElem?_append,h2,v]
 refine calls_of_wp hf hb (h Γ v rfl _ _ _ (.of bJ) Vn ?_)
 rintro e E' a' w' ⟨he,nd,h1,h2,h3,h4,h5⟩ ⟨S',eh,gN,G',gc⟩ hp
 obtain⟨g1,g2⟩:=zGf gc _ _ h1;have gz:(results fn a'.tmps).run P w'=.ok (zL2 G' nd) w':=by
  rw[zNw,Array.mapM_eq_mapM_toList];simp only[Sem.run_bind,Sem.run_map,g1];cases nd with
  |nil=>simp[zL2]
  |cons y ys=>
   cases ys with
   |nil=>simp[zL2]
   |cons z zs=>simp[zL2]
 have gV:Mem ⟨S',W,w,0⟩ G' w':=⟨gc.mem.one,gc.mem.lb,gc.mem.ow,gc.mem.st,gc.mem.fr,gc.mem.sz,gc.mem.bk⟩;have tu:bodyPost P fn (fun e w'=> ∃(S':Stb)(G':Gh)(nd:List (Nat×List Nat×T)),zDy St S' W w.heap.size/\e=.returned (zL2 G' nd)/\Mem ⟨S',W,w,0⟩ G' w'/\nd.map (·.2.2)=res/\
   (∀x∈nd,R S' G' w' x.1 x.2.2 x.2.1/\us.length<=x.1)/\(nd.map (·.1)).Nodup/\
   ∀i u',(i,u')∈rws->R S' G' w' i u' []/\ ∃u,us[i]? =Wu u/\mkV G' i u' []=mkV G i u []) .ret a' w':=by
  refine⟨gN,_,gz,S',G',nd,eh,rfl,gV,h2,by grind,h4,?_⟩;intro i u' hiu;obtain⟨k1,u,k3⟩:=LOk.get _ h5 i u' hiu;obtain⟨k5,k6,_⟩:=gc.ent i u' k1;refine⟨k6,u,k3,?_⟩;have k7:=hp (i,v i) (by simp only[zC1,Jq];grind);have k8:=(gn i u k3).1;rw[k5]at k7;simp[v,Kk,k8]at k7;exact k7
 rcases he with rfl|rfl<;>exact tu
mutual
def vR:T->T
 |.sl k xs=>.ro (strip (.sl k xs))
 |.ptr t=>.ro (strip (.ptr t))
 |.agg xs=>.agg (uM xs)
 |.tup xs=>.tup (uM xs)
 |.any=>.any
 |.lit v=>.lit v
 |.ro t=>.ro t
 |.same r p=>.same r p
 |.addr r p=>.addr r p
 |.sub r p k lo hi=>.sub r p k lo hi
 |.mp _ _=>.any
def uM:List T->List T
 | []=>[]
 |x::xs=>vR x::uM xs
end
mutual
theorem zSC(G:Gh)(s:Nat):(t:T)-> ∀p,vals G s (vR t) p=vals G s t p
 |.agg xs,p=>by simp only[vR,vals];exact zDa G s xs p 0
 |.sl _ _,_|.ptr _,_|.mp _ _,_|.tup _,_|.any,_|.lit _,_|.ro _,_|.same _ _,_|.addr _ _,_|.sub _ _ _ _ _,_=>by rfl
theorem zDa(G:Gh)(s:Nat):(xs:List T)-> ∀p j,yJ G s (uM xs) p j=yJ G s xs p j
 | [],_,_=>by rfl
 |x::xs,p,j=>by simp only[uM,yJ,zSC G s x,zDa G s xs]
end
theorem zSD(G:Gh)(s:Nat)(t:T)(p:List Nat):sB G s (vR t) p=sB G s t p:=by cases t<;>simp only[vR,sB,zDa]
theorem zLB(G:Gh)(s:Nat):(xs:List T)-> ∀p j,kA G s (uM xs) p j=kA G s xs p j
 | [],_,_=>by rfl
 |x::xs,p,j=>by simp only[uM,kA,zSD,zLB G s xs]
theorem zWk(G:Gh)(s:Nat)(t:T)(p:List Nat):mkV G s (vR t) p=mkV G s t p:=by cases t<;>simp only[vR,mkV,zDa,zLB]
mutual
theorem zLC:(t:T)->Top t->Top (vR t)
 |.agg xs,h|.tup xs,h=>by simp only[vR,Top]at h ⊢;exact zIZ xs h
 |.sl _ _,_|.ptr _,_|.mp _ _,_|.any,_|.lit _,_|.ro _,_|.same _ _,_|.addr _ _,_|.sub _ _ _ _ _,_=>by simp only[vR,Top]
theorem zIZ:(xs:List T)->vV xs->vV (uM xs)
 | [],_=>by grind[uM]
 |x::xs,h=>by simp only[uM,vV]at h ⊢;exact⟨zLC x h.1,zIZ xs h.2⟩
end
section
variable {St Sc:Stb}{G G':Gh}{w:World}{s:Nat} (gw:∀s p,(G.hd s p).oneCell'=Ww) (ew:∀b x,St b=Wu x->Sc b=Wu x) (ey:∀b,(∃y,G.ow b=Wu (s,y))->Sc b=w.heap[b]?) (gL:∀s z,G'.hd s z=G.hd s z) (fq:∀s z,G'.ad s z=G.ad s z)
 include gw ew ey gL fq
mutual
theorem zYm:(t:T)-> ∀(p:List Nat),R St G w s t p->R Sc G' w s (vR t) p
 |.agg xs,p,hr|.tup xs,p,hr=>by simp only[vR,R]at hr ⊢;exact zSE xs p 0 hr
 |.sl k xs,p,hr=>by have:=zL6 gw ew ey (.sl k xs) p rfl hr;simp only[vR,R,gL];exact this
 |.ptr t,p,hr=>by have:=zL6 gw ew ey (.ptr t) p rfl hr;simp only[vR,R,gL];exact this
 |.ro u,p,hr=>by simp only[vR,R,gL]at hr ⊢;grind[uR]
 |.mp _ _,_,_=>by simp only[vR,R]
 |.any,_,_=>by simp only[vR,R]
 |.lit _,_,hr|.same _ _,_,hr|.sub _ _ _ _ _,_,hr=>by simp only[vR,R,gL]at hr ⊢;exact hr
 |.addr _ _,_,hr=>by simp only[vR,R,gL,fq]at hr ⊢;exact hr
theorem zSE:(xs:List T)-> ∀(p:List Nat)(j:Nat),RF St G w s xs p j->RF Sc G' w s (uM xs) p j
 | [],_,_,_=>by have _:=gw;have _:=ew;have _:=ey;have _:=gL;have _:=fq;simp only[uM,RF]
 |x::xs,p,j,hr=>by simp only[uM,RF]at hr ⊢;exact⟨zYm x _ hr.1,zSE xs p (j+1) hr.2⟩
end
end
theorem zI.freeze(s:Nat)(t:T)(hs:E s=Wu t):zI Γ E (E.app [(s,Wu (vR t))] [(s,1)]):=by
 classical
 rintro a w ⟨S,hS,gN,G,gc⟩
 have hm:=gc.mem
 let own:Nat->Prop:=fun b=> ∃y,G.ow b=Wu (s,y)
 let Sc:Stb:=fun b=>if own b then w.heap[b]? else S b
 let G':Gh:={ hd:=G.hd,ad:=G.ad,lb:=fun b o=>if own b then Wv else G.lb b o,ow:=fun b=>if own b then Wv else G.ow b }
 have ff:∀b x,S b=Wu x->Sc b=Wu x:=fun b x hx=>by
  have:¬own b:=by
   rintro⟨y,hy⟩
   have:=(hm.ow b _ hy).2.2
   grind
  grind
 have ud:zDy S Sc Γ.W Γ.w0.heap.size:=⟨ff,fun b hb ev=>by
  by_cases h:own b
  ·obtain⟨y,hy⟩:=h
   exact(hm.ow b _ hy).2.1
  grind⟩
 have gy:Mem ((Γ.at S).at Sc) G' w:=by
  refine⟨hm.one,fun b o l hl=>?_,fun b l hl=>?_,fun b x hx=>?_,hm.fr,hm.sz,hm.bk⟩
  ·by_cases h:own b
   ·grind
   ·simp only[G',h,if_false]at hl
    have:=hm.lb b o l hl;exact⟨this.1,this.2.1,by simp only[Sc,h,if_false];exact this.2.2⟩
  ·by_cases h:own b
   ·grind
   ·simp only[G',h,if_false]at hl
    have:=hm.ow b l hl;exact⟨this.1,this.2.1,by simp only[Sc,h,if_false];exact this.2.2⟩
  ·by_cases h:own b
   ·grind
   ·simp only[Sc,h,if_false]at hx;exact hm.st b x hx
 have gA:sE [(s,1)] G w G' w:=by
  have Vu:∀b s0 y,G.ow b=Wu (s0,y)->(∀n,(s0,n)∉([(s,1)]:Chg))-> ¬own b:=by grind
  refine⟨fun _ _ _=>rfl,fun _ _ _=>rfl,by grind,by grind,fun b cs e h=>⟨cs,h,rfl⟩,by intros;assumption⟩
  all_goals grind
 obtain⟨e1,e2,e3⟩:=gc.ent s t hs;refine⟨Sc,hS.trans ud,gN,G',gc.up ff rfl gA gy (fun s0 h0=>⟨fun n hn=>?_,rfl⟩) (fun s0 t0 h0=>?_)⟩
 ·grind[uO]
 ·rw[uO]at h0
  split at h0
  ·rename_i he;subst he
   simp at h0;subst h0;have hR:=zYm (G':=G') hm.one ff (fun b hb=>by grind) (fun _ _=>rfl) (fun _ _=>rfl) t [] e2;refine⟨?_,hR,zLC t e3⟩;rw[e1];have h1:mkV G' s (vR t) []=mkV G s (vR t) []:=zFn _ _ _ (fun _=>rfl);rw[h1,zWk]
  ·cases h0
abbrev zB4:=List (Wr×Chg)
def Env.apps(E:Env)(l:zB4):Env:=l.foldl (fun E x=>E.app x.1 x.2) E
structure Stp where
 rd:List (Nat×T)
 l:zB4
variable {Xs:List Stp}
def sM(wr:Wr):List Nat:=wr.map (·.1)
def Stp.slots(X:Stp):List Nat:=X.l.flatMap fun x=>sM x.1
def oOk(chg:Chg):Option T->Bool
 |none=>Ww
 |some t=>t.okB chg
def zNx(chg:Chg)(wr:Wr):Bool:=wr.all fun x=>oOk chg x.2
def zQ0(a b:List Nat):Bool:=a.all fun x=> !b.contains x
def zFv(a b:zB4):Bool:=a.all fun x=>b.all fun y=>zQ0 (sM x.1) (sM y.1)&&zNx y.2 x.1&&zNx x.2 y.1
def Stp.apart(a b:Stp):Bool:=zFv a.l b.l&&zQ0 a.slots (b.rd.map (·.1))&&zQ0 b.slots (a.rd.map (·.1))&&a.rd.all fun x=>b.l.all fun y=>x.2.okB y.2
theorem zFw{s:Nat}(h:s∉sM wr):wr.find s=Wv:=by
 induction wr with
 |nil=>rfl
 |cons x wr ih=>
  simp only[sM,Jr,Je,not_or]at h;simp only[Wr.find,Ne.symm h.1,if_false];exact ih h.2
theorem zJa{s:Nat}{x:Option T}(h:wr.find s=Wu x):s∈sM wr/\ ∃y∈wr,y.2=x:=by
 induction wr with
 |nil=>grind[Wr.find]
 |cons y wr ih=>
  grind[Wr.find,sM]
theorem zHq{a b:List Nat}(h:zQ0 a b=Ww){s:Nat}(hs:s∈a):s∉b:=by
 have:=Ka.1 h s hs
 grind
theorem zSF(E:Env)(w1 w2:Wr)(c1 c2:Chg)(h:zQ0 (sM w1) (sM w2)=Ww)(h1:zNx c2 w1=Ww)(h2:zNx c1 w2=Ww):
  (E.app w1 c1).app w2 c2=(E.app w2 c2).app w1 c1:=by
 funext s
 have ok:∀{c:Chg}{w:Wr}{s:Nat}{x:Option T},zNx c w=Ww->w.find s=Wu x->(match x with|some t=>if t.okB c then Wu t else Wv|none=>Wv)=x:=by
  intro c w s x hw hf;obtain⟨_,y,hy,rfl⟩:=zJa hf;have:=Ka.1 hw y hy
  grind[oOk]
 unfold Env.app;cases hf1:w1.find s with
 |some x=>
  grind[zFw,zHq,zJa]
 |none=>
  grind
theorem zD9(w:Wr)(c:Chg):∀(l:zB4)(E:Env),(∀y∈l,zQ0 (sM w) (sM y.1)=Ww/\zNx y.2 w=Ww/\zNx c y.1=Ww)->(E.app w c).apps l=(E.apps l).app w c
 | [],E,_=>rfl
 |y::l,E,h=>by obtain⟨h1,h2,h3⟩:=h y (by simp);show((E.app w c).app y.1 y.2).apps l=_;rw[zSF E w y.1 c y.2 h1 h2 h3];exact zD9 w c l _ (by grind)
theorem zJb:∀(l1 l2:zB4)(E:Env),zFv l1 l2=Ww->(E.apps l1).apps l2=(E.apps l2).apps l1
 | [],l2,E,_=>rfl
 |x::l1,l2,E,h=>by simp only[zFv,Qt,J4]at h;show((E.app x.1 x.2).apps l1).apps l2=((E.apps l2).app x.1 x.2).apps l1;rw[zJb l1 l2 _ (by grind[zFv]),zD9 x.1 x.2 l2 E (by grind)]
def runD:Env->List (Bool×Stp)->Env
 |E,[]=>E
 |E,(b,X)::l=>runD (if b then E.apps X.l else E) l
theorem zAa:∀(l1 l2:List (Bool×Stp))(E:Env),runD E (l1++l2)=runD (runD E l1) l2
 | [],_,_=>rfl
 |(b,X)::l1,l2,E=>by simp only[K0,runD];exact zAa l1 l2 _
theorem zFx:∀(l:List (Bool×Stp))(X:Stp)(E:Env),(∀y∈l,y.1=Ww->zFv X.l y.2.l=Ww)->runD (E.apps X.l) l=(runD E l).apps X.l
 | [],_,_,_=>rfl
 |(b,Y)::l,X,E,h=>by
  simp only[runD];cases b with
  |false=>exact zFx l X E (by grind)
  |true=>
   have:=h (Ww,Y) (by simp) rfl;simp only[if_true];rw[zJb X.l Y.l E this];exact zFx l X _ (by grind)
theorem zHr{s:Nat}:∀(l:zB4)(E:Env),s∉l.flatMap (fun x=>sM x.1)-> ∀t,(E.apps l) s=Wu t->E s=Wu t
 | [],_,_,_,h=>h
 |x::l,E,hs,t,h=>by
  simp only[Lm,Ji,not_or]at hs;have:=zHr l (E.app x.1 x.2) hs.2 t h
  grind[Env.app,zFw]
theorem zJc{s:Nat}{t:T}:∀(l:zB4)(E:Env),s∉l.flatMap (fun x=>sM x.1)->(∀y∈l,t.okB y.2=Ww)->E s=Wu t->(E.apps l) s=Wu t
 | [],_,_,_,h=>h
 |x::l,E,hs,gD,h=>by
  simp only[Lm,Ji,not_or]at hs;refine zJc l (E.app x.1 x.2) hs.2 (by grind) ?_
  grind[Env.app,zFw]
theorem zJd{s:Nat}:∀(l:zB4)(E1 E2:Env),(∀t,E2 s=Wu t->E1 s=Wu t)-> ∀t,(E2.apps l) s=Wu t->(E1.apps l) s=Wu t
 | [],_,_,h,t,ht=>h t ht
 |x::l,E1,E2,h,t,ht=>by
  refine zJd l (E1.app x.1 x.2) (E2.app x.1 x.2) (fun u hu=>?_) t ht
  grind[Env.app]
theorem zJe{s:Nat}:∀(l:List (Bool×Stp))(E1 E2:Env),(∀y∈l,y.1=Wx->s∉y.2.slots)->(∀t,E2 s=Wu t->E1 s=Wu t)->
  ∀t,runD E2 (l.map fun y=>(Ww,y.2)) s=Wu t->runD E1 l s=Wu t
 | [],_,_,_,h,t,ht=>h t ht
 |(b,X)::l,E1,E2,hl,h,t,ht=>by
  simp only[Jr,runD,if_true]at ht ⊢
  refine zJe l _ _ (by grind) (fun u hu=>?_) t ht;cases b with
  |true=>grind[zJd]
  |false=>exact h u (zHr X.l E2 (hl (Wx,X) (by simp) rfl) u hu)
theorem zJf{s:Nat}{t:T}:∀(l:List (Bool×Stp))(E:Env),(∀y∈l,y.1=Ww->s∉y.2.slots/\ ∀z∈y.2.l,t.okB z.2=Ww)->E s=Wu t->runD E l s=Wu t
 | [],_,_,h=>h
 |(b,X)::l,E,hl,h=>by
  simp only[runD];refine zJf l _ (fun y hy=>hl y (by simp[hy])) ?_;cases b with
  |false=>exact h
  |true=>obtain⟨h1,h2⟩:=hl (Ww,X) (by simp) rfl;exact zJc X.l E h1 h2 h
theorem Env.Has.of{E E':Env}:{l:List (Nat×T)}->E.Has l->(∀s t,(s,t)∈l->E s=Wu t->E' s=Wu t)->E'.Has l
 | [],_,_=>trivial
 |(s,t)::l,h,h'=>⟨h' s t (by simp) h.1,Env.Has.of h.2 fun s t hm=>h' s t (by simp[hm])⟩
def zB5(o:Oper):List Nat:=(o.after.toList.filter (Region.binds .any)).map (·.on)
def zAY:Nat->List Oper->Bool
 |_,[]=>Ww
 |i,o::os=>((zB5 o).all fun m=>decide (m<i))&&zAY (i+1) os
def zAu(an:List (List Nat)):List (List Nat)->List Oper->Bool
 | [],_=>Ww
 |_::_,[]=>Wx
 |l::ls,o::os=>(l.all fun k=>(zB5 o).contains k||(zB5 o).any fun m=>(an.getD m []).contains k)&&zAu an ls os
def kG(Xs:List Stp):Nat->List (List Nat)->List Stp->Bool
 |_,_,[]=>Ww
 |j,an,Y::Ys=>((Ju j).all fun i=>(an.headD []).contains i||match Xs[i]? with
   |some X=>X.apart Y
   |none=>Ww)&&kG Xs (j+1) an.tail Ys
theorem zG6:∀(os:List Oper)(i0 j:Nat)(o:Oper),zAY i0 os=Ww->os[j]? =Wu o-> ∀m∈zB5 o,m<i0+j
 | [],_,j,_,_,h=>by simp at h
 |x::os,i0,j,o,hf,h=>by
  simp only[zAY,J4]at hf;cases j with
  |zero=>
   grind
  |succ j=>
   intro m hm;have:=zG6 os (i0+1) j o hf.2 (by grind) m hm;omega
theorem zKm(an:List (List Nat)):∀(ls:List (List Nat))(os:List Oper)(j:Nat)(l:List Nat),zAu an ls os=Ww->ls[j]? =Wu l-> ∃o,os[j]? =Wu o/\ ∀k∈l,k∈zB5 o\/ ∃m∈zB5 o,k∈an.getD m []
 | [],_,j,_,_,h=>by simp at h
 |_::_,[],_,_,h,_=>by grind[zAu]
 |x::ls,o::os,j,l,ha,h=>by
  simp only[zAu,J4]at ha;cases j with
  |zero=>
   simp_all
  |succ j=>
   obtain⟨o',h1,h2⟩:=zKm an ls os j l ha.2 (by grind)
   grind
theorem zFy(Xs:List Stp):∀(Ys:List Stp)(j0:Nat)(an:List (List Nat))(j:Nat)(Y:Stp),kG Xs j0 an Ys=Ww->Ys[j]? =Wu Y-> ∀i X,i<j0+j->Xs[i]? =Wu X->i∈an.getD j []\/X.apart Y=Ww
 | [],_,_,j,_,_,h=>by simp at h
 |Z::Ys,j0,an,j,Y,hp,h=>by
  simp only[kG,J4]at hp;intro i X hi hX;cases j with
  |zero=>
   simp at h;subst h;have:=Ka.1 hp.1 i (by grind);simp only[hX,Bool.or_eq_true,Lx,decide_eq_true_eq]at this;rcases this with h|h
   ·left
    cases an with
    |nil=>simp at h
    |cons l an=>grind
   grind
  |succ j=>
   rcases zFy Xs Ys (j0+1) an.tail j Y hp.2 (by grind) i X (by omega) hX with h|h
   all_goals grind
section
variable {P:Program}{Γ:Ctx}{pn:sG}{ops:Array Oper}
def zSG(ops:Array Oper)(L:List Bool):Prop:=∀(i:Nat)(o:Oper),ops[i]? =Wu o->L[i]? =Wu Ww-> ∀m∈zB5 o,L[m]? =Wu Ww
theorem zHs{L:List Bool}{an:List (List Nat)}(hf:zAY 0 ops.toList=Ww)(ha:zAu an an ops.toList=Ww)(hc:zSG ops L):
  ∀(n i:Nat),i<=n-> ∀o,ops[i]? =Wu o->(∀m∈zB5 o,L[m]? =Wu Ww)-> ∀k∈an.getD i [],L[k]? =Wu Ww:=by
 intro n
 induction n with
 |zero=>
  intro i hi o ho hp k hk;have iw:i=0:=by omega
  subst iw;cases hl:an[0]? with
  |none=>grind
  |some l=>
   obtain⟨o',h1,h2⟩:=zKm an an ops.toList 0 l ha hl;rw[Kc,ho]at h1;simp at h1;subst h1;simp only[Jao,hl,Le]at hk;rcases h2 k hk with h|⟨m,h,_⟩
   ·grind
   ·have:=zG6 ops.toList 0 0 o hf (by grind) m h
    omega
 |succ n ih=>
  intro i hi o ho hp k hk;cases hl:an[i]? with
  |none=>grind
  |some l=>
   obtain⟨o',h1,h2⟩:=zKm an an ops.toList i l ha hl;rw[Kc,ho]at h1;simp at h1;subst h1;simp only[Jao,hl,Le]at hk;rcases h2 k hk with h|⟨m,h,hkm⟩
   ·grind
   ·have gI:=zG6 ops.toList 0 i o hf (by grind) m h
    have hLm:=hp m h;cases ir:ops[m]? with
    |none=>
     grind
    |some om=>exact ih m (by omega) om ir (hc m om ir hLm) k hkm
theorem zJg{L:List Bool}{b:Bool}{X:Stp}(hL:L[i]? =Wu b)(hX:Xs[i]? =Wu X):L.zip Xs=(L.take i).zip (Xs.take i)++(b,X)::(L.drop (i+1)).zip (Xs.drop (i+1)):=by
 have h1:L=L.take i++b::L.drop (i+1):=by obtain⟨h,rfl⟩:=Jl.1 hL;simp
 have h2:Xs=Xs.take i++X::Xs.drop (i+1):=by obtain⟨h,rfl⟩:=Jl.1 hX;simp
 grind[List.zip_cons_cons]
theorem zKn{L:List Bool}{y:Bool×Stp}(h:y∈L.zip Xs):∃j:Nat,L[j]? =Wu y.1/\Xs[j]? =Wu y.2:=by grind[U2,List.getElem?_zip_eq_some]
def sO:Env->List Stp->Prop
 |_,[]=>True
 |E,X::Xs=>E.Has X.rd/\sO (E.apps X.l) Xs
theorem sO.get:∀(Xs:List Stp)(E:Env),sO E Xs-> ∀(i:Nat)(X:Stp),Xs[i]? =Wu X->(runD E ((Xs.take i).map fun y=>(Ww,y))).Has X.rd
 | [],_,_,i,_,h=>by simp at h
 |Y::Xs,E,hh,i,X,h=>by
  cases i with
  |zero=>simp at h;subst h;simpa[runD]using hh.1
  |succ i=>
   have:=sO.get Xs _ hh.2 i X (by grind)
   grind[runD]
theorem Stp.apart_spec{a b:Stp}(h:a.apart b=Ww):zFv a.l b.l=Ww/\(∀s∈a.slots,s∉b.rd.map (·.1))/\(∀s∈b.slots,s∉a.rd.map (·.1))/\ ∀x∈a.rd,∀y∈b.l,x.2.okB y.2=Ww:=by simp only[Stp.apart,J4]at h;refine⟨h.1.1.1,by grind[zHq],by grind[zHq],fun x hx y hy=>?_⟩;exact Ka.1 (Ka.1 h.2 x hx) y hy
mutual
theorem zG7:(t:T)->t.okB []=Ww
 |.same _ _|.addr _ _|.sub _ _ _ _ _=>by rfl
 |.agg xs|.tup xs=>by simp only[T.okB];exact zLD xs
 |.any|.lit _|.ro _|.sl _ _|.ptr _|.mp _ _=>by rfl
theorem zLD:(xs:List T)->zLm [] xs=Ww
 | []=>by rfl
 |x::xs=>by simp only[zLm,zG7 x,zLD xs,H3]
end
theorem Rep.heap{w:World}(h:Rep Γ E G tmps w)(hw:w'.heap=w.heap)(ho:w'.os=w.os:=by rfl)(hq:w'.output=w.output:=by rfl):Rep Γ E G tmps w' where
 size:=h.size
 ent s t hs:=Ent.keep (chg:=[]) ⟨fun _ _ _=>rfl,fun _ _ _=>rfl,by grind[yQ,World.cell?],fun _ _ _ h _=>h,fun b cs e h=>⟨cs,by grind,rfl⟩,fun b _ _ ms c _ _ h=>by grind⟩ (by simp) (zG7 t) (h.ent s t hs)
 mem:=by
  have hm:=h.mem;exact⟨hm.one,fun b o l hl=>by have:=hm.lb b o l hl;exact⟨by rw[hw];exact this.1,this.2⟩,fun b l hl=>by have:=hm.ow b l hl;exact⟨by rw[hw];exact this.1,this.2⟩,
   fun b x hx=>by rw[hw];exact hm.st b x hx,fun b h1 h2=>by rw[hw];exact hm.fr b h1 h2,by rw[hw];exact hm.sz,hm.bk.trans (fun b cs e hb=>⟨cs,by grind,rfl⟩) ho hq⟩
end
abbrev I(n:Int):T:=.lit (.int .i64 n)
abbrev B(b:Bool):T:=.lit (.bool b)
abbrev L{α:Type}(k:Nat)(f:α->T)(xs:List α):T:=.sl k (xs.map f)
theorem zO{t:TypeId}(h:P.types[t]? =Wu ti):P.info? t=Wu ti:=by grind[Tables.info?]
def Ok(P:Program)(Γ:Ctx)(o:Oper)(E E':Env):Prop:=∀S,wF P (Γ.at S) o E E'
section
variable {P:Program}{Γ:Ctx}{pn:sG}{ops:Array Oper}{o:Oper}{os:List Oper}{E E':Env}{Q:Exit->Env->Prop}{d:Nat}
theorem RW.op(h:Ok P Γ o E E')(k:RW P Γ pn ops os E' Q)(hg:o.guard=Wv:=by rfl)(hp:pn.ok o.dst=Ww:=by rfl):RW P Γ pn ops (o::os) E Q:=RW.cons (xN.op h hg) k hp
def neD(x:Operand)(d:Nat):Bool:=match x with
 |.tmp s=>s != d
 |_=>Ww
theorem zEw{d:Nat}(h:neD x d=Ww):∀s,x=.tmp s->s≠d:=by rintro s rfl;grind[neD]
theorem zB6{t:T}(h:t.okTup=Ww):∀xs,t≠.tup xs:=by rintro xs rfl;grind[T.okTup]
abbrev mvB(Γ:Ctx)(x:Operand)(t:T)(d:Nat):Bool:=J6 d Γ.N&&t.okTup&&neD x d&&T.okB [(d,0)] (uY x t)
section
variable {x y:Operand}{t:T}{ty:TypeId}{ps:String}{af:Array Edge}{gd:Option (Nat×Bool)}
theorem yK{a b:Nat}(h:J6 a b=Ww):a<b:=by grind[Nat.blt_eq]
theorem zNy(hx:opT E x=Wu t)(sd:mvB Γ x t d=Ww):Ok P Γ ⟨Wu d,.move x,ty,ps,af,gd⟩ E (E.app [(d,Wu (uY x t))] [(d,0)]):=by simp only[mvB,J4]at sd;exact fun S=>zOO x t (.inl rfl) rfl (yK sd.1.1.1) hx (zB6 sd.1.1.2) (zEw sd.1.2) sd.2
theorem zWl(hx:opT E x=Wu t)(sd:mvB Γ x t d=Ww):Ok P Γ ⟨Wu d,.assign x,ty,ps,af,gd⟩ E (E.app [(d,Wu (uY x t))] [(d,0)]):=by simp only[mvB,J4]at sd;exact fun S=>zOO x t (.inr rfl) rfl (yK sd.1.1.1) hx (zB6 sd.1.1.2) (zEw sd.1.2) sd.2
def inR(n:Int):Bool:=decide (-9223372036854775808<=n)&&decide (n<=9223372036854775807)
theorem zC2(h:inR n=Ww):IntKind.i64.wrap n=n:=by
 simp only[inR,J4,decide_eq_true_eq]at h;have hb:IntKind.i64.bits=64:=rfl;have hs:IntKind.i64.signed=Ww:=rfl;simp only[IntKind.wrap,hb,hs,Bool.true_and]
 grind
def rng(n:Int):Option Int:=if inR n then Wu n else Wv
theorem zC3(h:rng n=Wu m):m=n/\inR n=Ww:=by grind[rng]
theorem zSH{c:Int}(hv:rng (m+n)=Wu c)(hx:opT E x=Wu (I m))(hy:opT E y=Wu (I n))(sd:J6 d Γ.N=Ww):Ok P Γ ⟨Wu d,.binOp .add xt x y yt,ty,ps,af,gd⟩ E (E.app [(d,Wu (I c))] [(d,0)]):=by obtain⟨rfl,h⟩:=zC3 hv;exact fun S=>tU .add xt yt x y .i64 m n _ rfl rfl (yK sd) hx hy (by grind[zJV,zC2])
theorem zYn(hx:opT E x=Wu (I m))(hy:opT E y=Wu (I n))(sd:J6 d Γ.N=Ww):Ok P Γ ⟨Wu d,.binOp .lss xt x y yt,ty,ps,af,gd⟩ E (E.app [(d,Wu (B (decide (m<n))))] [(d,0)]):=
 fun _S=>tU .lss xt yt x y .i64 m n _ rfl rfl (yK sd) hx hy rfl
theorem zAn(k:Nat)(sd:J6 d Γ.N=Ww):Ok P Γ ⟨Wu d,.assign (.const (.slice Wv 0 0)),ty,ps,af,gd⟩ E (E.app [(d,Wu (.sl k []))] [(d,0)]):=
 fun _=>zLt k _ (.inr rfl) rfl rfl (yK sd)
def yO(n:Int):Option Nat:=if 0<=n/\n<=68719476736 then Wu n.toNat else Wv
theorem zHt{m:Nat}(h:yO n=Wu m):n=(m:Int)/\m<=68719476736:=by grind[yO]
class ElT (P:Program) (t:TypeId) (e:outParam TypeId) (ti:outParam TypeInfo) (k:outParam Nat) (u:outParam T):Prop where
 un:P.underlying t=Wu (.slice e)
 info:P.info? e=Wu ti
 zero:∃z,ti.zero=Wu z/\tW u=z.cells.toList
 size:ti.size=k
 pos:0<k
 zok:u.zOk=Ww
 us:u.size=k
 bytes:ti.bytes<=2048
theorem zSI{t:TypeId}{n m:Nat}{a b:Int}(ht:ElT P t e ti k u)(hn:yO a=Wu n)(hx:opT E x=Wu (I a))(hm:yO b=Wu m)(hy:opT E y=Wu (I b))(pg:n<=m)(sd:J6 d Γ.N=Ww):
  Ok P Γ ⟨Wu d,.makeSlice t x y,ty,ps,af,gd⟩ E (E.app [(d,Wu (.sl k (J0 n u)))] [(d,0)]):=by
 obtain⟨rfl,h1⟩:=zHt hn;obtain⟨rfl,h2⟩:=zHt hm;obtain⟨z,hz,hv⟩:=ht.zero;exact fun S=>zWf t e ti z u k x y n m .i64 .i64 rfl rfl (yK sd) ht.un ht.info hz ht.size ht.pos ht.zok hv ht.us (U1 ht.bytes (by decide)) hx hy pg h2
end
end
def ixO{α:Type}(xs:List α)(i:Int):Option α:=if 0<=i then xs[i.toNat]? else Wv
theorem uF{α:Type}{xs:List α}{i:Int}{v:α}(h:ixO xs i=Wu v):0<=i/\xs[i.toNat]? =Wu v:=by grind[ixO]
def zAv:T->Bool
 |.same _ _=>Wx
 |_=>Ww
theorem jR{s:Nat}{t:T}(h1:E s=Wu (.same r q))(h2:E r=Wu t)(h3:t.get q.reverse=Wu u)(h4:zAv u=Ww):uP E (.tmp s)=Wu (r,q,u):=by
 have hg:∀t:T,t.get []=Wu t:=fun t=>by rfl
 grind[zAv,uP,qI]
theorem uB{s:Nat}{t:T}(h1:E s=Wu t)(h4:zAv t=Ww):uP E (.tmp s)=Wu (s,[],t):=by
 have hg:∀t:T,t.get []=Wu t:=fun t=>by rfl
 grind[zAv,uP,qI]
section
variable {P:Program}{Γ:Ctx}{E:Env}{d:Nat}{x y:Operand}{ty:TypeId}{ps:String}{af:Array Edge}{gd:Option (Nat×Bool)}
class zAR (P:Program) (t:TypeId) (e:outParam TypeId) (ti:outParam TypeInfo) (k:outParam Nat):Prop where
 un:P.underlying t=Wu (.slice e)
 info:P.info? e=Wu ti
 size:ti.size=k
theorem yAY{α:Type}{t:TypeId}{f:α->T}{xs:List α}{v:α}{i:Int}(ht:zAR P t e ti k)(hv:ixO xs i=Wu v)(hx:uP E x=Wu (r,q,L k f xs))(hy:opT E y=Wu (I i))(sd:J6 d Γ.N=Ww):
  Ok P Γ ⟨Wu d,.indexAddr t x y,ty,ps,af,gd⟩ E (E.app [(d,Wu (.addr r (i.toNat::q)))] [(d,0)]):=by
 obtain⟨h1,h2⟩:=uF hv;exact fun S=>zSo x y t e ti r q k _ .i64 i rfl rfl (yK sd) ht.un ht.info ht.size hx hy h1 (by grind)
theorem zYo{α:Type}{t:TypeId}{f:α->T}{xs:List α}{v:α}{i:Int}(ht:zAR P t e ti k)(hv:ixO xs i=Wu v)(hx:uP E x=Wu (r,q,.ro (L k f xs)))(hy:opT E y=Wu (I i))(sd:J6 d Γ.N=Ww):
  Ok P Γ ⟨Wu d,.indexAddr t x y,ty,ps,af,gd⟩ E (E.app [(d,Wu (.ro (.ptr (f v))))] [(d,0)]):=by
 obtain⟨h1,h2⟩:=uF hv;exact fun S=>zSp x y t e ti r q k _ .i64 i _ rfl rfl (yK sd) ht.un ht.info ht.size hx hy h1 (by simp[h2])
theorem zYp{α:Type}{t:TypeId}{f:α->T}{xs:List α}(hu:P.underlying t=Wu (.slice e))(hx:uP E x=Wu (r,q,L k f xs))(sd:J6 d Γ.N=Ww):
  Ok P Γ ⟨Wu d,.call { callee:=.builtin .len,args:=#[x],argTypes:=#[t] },ty,ps,af,gd⟩ E (E.app [(d,Wu (I xs.length))] [(d,0)]):=
 fun _=>zSn x t _ r q (L k f xs) xs.length rfl rfl (yK sd) hu hx (by simp[zLn]) rfl
theorem zSJ{α:Type}{t:TypeId}{f:α->T}{xs:List α}(hu:P.underlying t=Wu (.slice e))(hx:uP E x=Wu (r,q,.ro (L k f xs)))(sd:J6 d Γ.N=Ww):
  Ok P Γ ⟨Wu d,.call { callee:=.builtin .len,args:=#[x],argTypes:=#[t] },ty,ps,af,gd⟩ E (E.app [(d,Wu (I xs.length))] [(d,0)]):=
 fun _=>zSn x t _ r q (.ro (L k f xs)) xs.length rfl rfl (yK sd) hu hx (by simp[zLn]) rfl
structure zSK (P:Program) (t:TypeId) (u:T):Prop where
 h:∃ds ti,P.underlying t=Wu ds/\P.info? t=Wu ti/\zGT ds= !u.single/\ti.size=u.size
theorem yAZ{t:TypeId}(ht:zSK P t u)(hx:opT E x=Wu (.ro (.ptr u)))(sd:J6 d Γ.N=Ww):Ok P Γ ⟨Wu d,.load t x,ty,ps,af,gd⟩ E (E.app [(d,Wu (roT u))] [(d,0)]):=by obtain⟨ds,ti,h1,h2,h3,h4⟩:=ht.h;exact fun S=>zNr x t ds ti u rfl rfl (yK sd) h1 h2 h3 h4 hx
theorem yDn{t:TypeId}{tr:T}(ht:zSK P t u)(hx:opT E x=Wu (.addr r q))(hr:E r=Wu tr)(hg:tr.get q.reverse=Wu u)(sd:(J6 d Γ.N&&tr.locd q.reverse&&(r != d)&&T.okB [(d,0)] (cpT r u q))=Ww):
  Ok P Γ ⟨Wu d,.load t x,ty,ps,af,gd⟩ E (E.app [(d,Wu (cpT r u q))] [(d,0)]):=by
 obtain⟨ds,ti,h1,h2,h3,h4⟩:=ht.h;simp only[J4]at sd;exact fun S=>zWe x t ds ti r q tr u rfl rfl (yK sd.1.1.1) h1 h2 h3 h4 hx hr hg sd.1.1.2 (by grind) sd.2
end
section
variable {P:Program}{Γ:Ctx}{E:Env}{x:Operand}{ty:TypeId}{ps:String}{af:Array Edge}{gd:Option (Nat×Bool)}
theorem yEs{t:TypeId}{s:Nat}{tr:T}{v:Value}(hi:P.info? t=Wu ti)(gv:ti.size=1)(hx:opT E x=Wu (.addr r q))(hr:E r=Wu tr)(hg:tr.get q.reverse=Wu u0)(gp:tr.set q.reverse (.lit v)=tr')(hy:E s=Wu (.lit v))
  (sd:(tr.single&&tr.locd q.reverse&&vD (.lit v) u0&&(r != s))=Ww):Ok P Γ ⟨Wv,.store t x (.tmp s),ty,ps,af,gd⟩ E (E.app [(r,Wu tr')] [(r,q.length)]):=by
 simp only[J4]at sd;subst gp;intro S;have:=zLw (P:=P) (Γ:=Γ.at S) (E:=E) (o:=⟨Wv,.store t x (.tmp s),ty,ps,af,gd⟩) t ti x (.tmp s) r q tr u0 (.slot s (.lit v)) rfl rfl hi (by rw[gv];rfl) (by omega) hx hr sd.1.1.1 hg sd.1.1.2 sd.1.2 (.slot s _)
  ⟨fun s' t' h=>by simp at h;obtain⟨rfl,rfl⟩:=h;exact⟨hy,by simp[zZ,xF],rfl⟩,by simp,by simp[xV,sF]⟩
 exact this
theorem yBa{t:TypeId}{tr:T}{v:Value}(hi:P.info? t=Wu ti)(gv:ti.size=1)(hx:opT E x=Wu (.addr r q))(hr:E r=Wu tr)(hg:tr.get q.reverse=Wu u0)(gp:tr.set q.reverse (.lit v)=tr')
  (sd:(tr.single&&tr.locd q.reverse&&vD (.lit v) u0&&(T.lit v).zOk)=Ww)(hz:tW (.lit v)=v.cells.toList):Ok P Γ ⟨Wv,.store t x (.const v),ty,ps,af,gd⟩ E (E.app [(r,Wu tr')] [(r,q.length)]):=by
 simp only[J4]at sd;subst gp;intro S;have:=zLw (P:=P) (Γ:=Γ.at S) (E:=E) (o:=⟨Wv,.store t x (.const v),ty,ps,af,gd⟩) t ti x (.const v) r q tr u0 (.zero (.lit v)) rfl rfl hi (by rw[gv];rfl) (by omega) hx hr sd.1.1.1 hg sd.1.1.2 sd.1.2 (.zero v _ hz)
  ⟨by simp,by grind,by simp[xV]⟩
 exact this
end
theorem zI.tr(d r:Nat)(u:T)(hd:E d=Wu (.same r []))(hr:E r=Wu u)(ez:zZ u)(sd:(u.single&&wB u&&u.okB [(d,1),(r,1)]&&(d != r))=Ww):
  zI Γ E (E.app [(d,Wu u),(r,Wu (.same d []))] [(d,1),(r,1)]):=by
 simp only[J4]at sd
 rintro a w ⟨S,hS,hs⟩
 have gf:d≠r:=by grind
 have hg:∀t:T,t.get []=Wu t:=fun t=>by rfl
 have:=zNv hs d [] r [] (.same r []) u u hd rfl hr (hg u) sd.1.1.1 ez gf (by simp[T.okB,zAl]) sd.1.2 rfl sd.1.1.2;exact⟨S,hS,this⟩
theorem kH{α:Type}{f:α->T}(hf:∀x,zZ (f x)):(xs:List α)->xG (xs.map f)
 | []=>trivial
 |x::xs=>⟨hf x,kH hf xs⟩
theorem zPd{α:Type}{f:α->T}{xs:List α}(hf:∀x,zZ (f x)):zZ (L k f xs):=by simp only[zZ,xF];grind[kH]
theorem zPe(n:Int):zZ (I n):=by simp[zZ,xF]
theorem zWm(b:Bool):zZ (B b):=by simp[zZ,xF]
section
variable {P:Program}{Γ:Ctx}{E:Env}{d:Nat}{x y:Operand}{ty:TypeId}{ps:String}{af:Array Edge}{gd:Option (Nat×Bool)}{m n c:Int}{xt yt:TypeId}
theorem zJh(hv:rng (m-n)=Wu c)(hx:opT E x=Wu (I m))(hy:opT E y=Wu (I n))(sd:J6 d Γ.N=Ww):Ok P Γ ⟨Wu d,.binOp .sub xt x y yt,ty,ps,af,gd⟩ E (E.app [(d,Wu (I c))] [(d,0)]):=by obtain⟨rfl,h⟩:=zC3 hv;exact fun _=>tU .sub xt yt x y .i64 m n _ rfl rfl (yK sd) hx hy (by grind[zJV,zC2])
theorem zYq(hv:rng (m*n)=Wu c)(hx:opT E x=Wu (I m))(hy:opT E y=Wu (I n))(sd:J6 d Γ.N=Ww):Ok P Γ ⟨Wu d,.binOp .mul xt x y yt,ty,ps,af,gd⟩ E (E.app [(d,Wu (I c))] [(d,0)]):=by obtain⟨rfl,h⟩:=zC3 hv;exact fun _=>tU .mul xt yt x y .i64 m n _ rfl rfl (yK sd) hx hy (by grind[zJV,zC2])
def vP(m n:Int):Option Int:=if n=0 then Wv else rng (m.tdiv n)
def vL(m n:Int):Option Int:=if n=0 then Wv else Wu (m.tmod n)
theorem yBb(hv:vP m n=Wu c)(hx:opT E x=Wu (I m))(hy:opT E y=Wu (I n))(sd:J6 d Γ.N=Ww):Ok P Γ ⟨Wu d,.binOp .quo xt x y yt,ty,ps,af,gd⟩ E (E.app [(d,Wu (I c))] [(d,0)]):=by
 unfold vP at hv;split at hv
 ·cases hv
 ·rename_i h0
  obtain⟨rfl,h⟩:=zC3 hv;exact fun _=>tU .quo xt yt x y .i64 m n _ rfl rfl (yK sd) hx hy (by simp only[zJV,h0,if_false,zC2 h])
theorem yBc(hv:vL m n=Wu c)(hx:opT E x=Wu (I m))(hy:opT E y=Wu (I n))(sd:J6 d Γ.N=Ww):Ok P Γ ⟨Wu d,.binOp .rem xt x y yt,ty,ps,af,gd⟩ E (E.app [(d,Wu (I c))] [(d,0)]):=by
 unfold vL at hv;split at hv
 ·cases hv
 ·rename_i h0
  simp at hv;subst hv;exact fun _=>tU .rem xt yt x y .i64 m n _ rfl rfl (yK sd) hx hy (by simp only[zJV,h0,if_false])
theorem zYr(hx:opT E x=Wu (I m))(hy:opT E y=Wu (I n))(sd:J6 d Γ.N=Ww):Ok P Γ ⟨Wu d,.binOp .leq xt x y yt,ty,ps,af,gd⟩ E (E.app [(d,Wu (B (decide (m<=n))))] [(d,0)]):=
 fun _=>tU .leq xt yt x y .i64 m n _ rfl rfl (yK sd) hx hy rfl
theorem zYs(hx:opT E x=Wu (I m))(hy:opT E y=Wu (I n))(sd:J6 d Γ.N=Ww):Ok P Γ ⟨Wu d,.binOp .gtr xt x y yt,ty,ps,af,gd⟩ E (E.app [(d,Wu (B (decide (m> n))))] [(d,0)]):=
 fun _=>tU .gtr xt yt x y .i64 m n _ rfl rfl (yK sd) hx hy rfl
theorem yBd(hx:opT E x=Wu (I m))(hy:opT E y=Wu (I n))(sd:J6 d Γ.N=Ww):Ok P Γ ⟨Wu d,.binOp .geq xt x y yt,ty,ps,af,gd⟩ E (E.app [(d,Wu (B (decide (m>=n))))] [(d,0)]):=
 fun _=>tU .geq xt yt x y .i64 m n _ rfl rfl (yK sd) hx hy rfl
theorem zPf(hx:opT E x=Wu (I m))(hy:opT E y=Wu (I n))(sd:J6 d Γ.N=Ww):Ok P Γ ⟨Wu d,.binOp .eql xt x y yt,ty,ps,af,gd⟩ E (E.app [(d,Wu (B (m==n)))] [(d,0)]):=
 fun _=>tU .eql xt yt x y .i64 m n _ rfl rfl (yK sd) hx hy rfl
theorem zYt(hx:opT E x=Wu (I m))(hy:opT E y=Wu (I n))(sd:J6 d Γ.N=Ww):Ok P Γ ⟨Wu d,.binOp .neq xt x y yt,ty,ps,af,gd⟩ E (E.app [(d,Wu (B (m != n)))] [(d,0)]):=
 fun _=>tU .neq xt yt x y .i64 m n _ rfl rfl (yK sd) hx hy rfl
theorem zYu{b:Bool}(hx:opT E x=Wu (B b))(sd:J6 d Γ.N=Ww):Ok P Γ ⟨Wu d,.unOp .not xt x,ty,ps,af,gd⟩ E (E.app [(d,Wu (B (!b)))] [(d,0)]):=
 fun _=>zZh xt x b rfl rfl (yK sd) hx
theorem yBe(hv:rng (0-n)=Wu c)(hx:opT E x=Wu (I n))(sd:J6 d Γ.N=Ww):Ok P Γ ⟨Wu d,.unOp .neg xt x,ty,ps,af,gd⟩ E (E.app [(d,Wu (I c))] [(d,0)]):=by
 obtain⟨rfl,h⟩:=zC3 hv;have:=fun S=>zZi (P:=P) (Γ:=Γ.at S) (E:=E) (o:=⟨Wu d,.unOp .neg xt x,ty,ps,af,gd⟩) xt x .i64 n rfl rfl (yK sd) hx
 rw[zC2 h]at this;exact this
end
section
variable {P:Program}{Γ:Ctx}{E:Env}{d:Nat}{x y:Operand}{ty:TypeId}{ps:String}{af:Array Edge}{gd:Option (Nat×Bool)}
class zKo (P:Program) (t:TypeId) (u:outParam T):Prop where
 h:∃ti z,P.info? t=Wu ti/\ti.zero=Wu z/\u.zOk=Ww/\tW u=z.cells.toList/\z.cells.size=u.size
theorem zKp{t:TypeId}(ht:zKo P t u)(sd:J6 d Γ.N=Ww):Ok P Γ ⟨Wu d,.alloc t,ty,ps,af,gd⟩ E (E.app [(d,Wu (.ptr u))] [(d,0)]):=by obtain⟨ti,z,h1,h2,h3,h4,h5⟩:=ht.h;exact fun S=>zSy t ti z u rfl rfl (yK sd) h1 h2 h3 h4 h5
theorem zYv{s:Nat}{t:T}(hs:E s=Wu (.tup ts))(hi:ts[i]? =Wu t)(sd:(J6 d Γ.N&&t.okTup&&(s != d)&&T.okB [(d,0)] (cpT s t [i]))=Ww):
  Ok P Γ ⟨Wu d,.extract (.tmp s) i,ty,ps,af,gd⟩ E (E.app [(d,Wu (cpT s t [i]))] [(d,0)]):=by
 simp only[J4]at sd;exact fun S=>zNs s i ts t rfl rfl (yK sd.1.1.1) hs hi (zB6 sd.1.1.2) (by grind) sd.2
theorem zC4{t:T}(hx:opT E x=Wu t)(hp:zFZ E x=Ww)(sd:mvB Γ x t d=Ww):Ok P Γ ⟨Wu d,.nilCheck x,ty,ps,af,gd⟩ E (E.app [(d,Wu (uY x t))] [(d,0)]):=by simp only[mvB,J4]at sd;exact fun S=>zZj x t rfl rfl (yK sd.1.1.1) hx hp (zB6 sd.1.1.2) (zEw sd.1.2) sd.2
theorem zNz{c:Operand}{b:Bool}{t:T}(hc:opT E c=Wu (B b))(hx:opT E (if b then x else y)=Wu t)(sd:mvB Γ (if b then x else y) t d=Ww):Ok P Γ ⟨Wu d,.pick c x y,ty,ps,af,gd⟩ E (E.app [(d,Wu (uY (if b then x else y) t))] [(d,0)]):=by simp only[mvB,J4]at sd;exact fun S=>zWb c x y b t rfl rfl (yK sd.1.1.1) hc hx (zB6 sd.1.1.2) (zEw sd.1.2) sd.2
theorem zYw{t:TypeId}{s:Nat}(hs:E s=Wu u)(hu:zZ u)(sd:(J6 d Γ.N&&u.okTup&&(s != d))=Ww):
  Ok P Γ ⟨Wu d,.box t (.tmp s),ty,ps,af,gd⟩ E (E.app ((d,Wu (.ptr u))::pWr d [.slot s u] 0) ((d,0)::sC [.slot s u])):=by
 simp only[J4]at sd;have gf:s≠d:=by grind
 refine fun S=>zZl t (.tmp s) (.slot s u) rfl rfl (yK sd.1.1) (.slot s u) ⟨by grind,by simp,?_⟩
 simp only[xV]
 grind
end
def yR{α:Type}(xs ys:List α):Option (List α):=if xs.length+ys.length<=68719476736 then Wu (xs++ys)else Wv
theorem zFz{α:Type}{xs ys zs:List α}(h:yR xs ys=Wu zs):zs=xs++ys/\xs.length+ys.length<=68719476736:=by grind[yR]
section
variable {P:Program}{Γ:Ctx}{E:Env}{d:Nat}{x y:Operand}{ty:TypeId}{ps:String}{af:Array Edge}{gd:Option (Nat×Bool)}
theorem ElT.zsize{t:TypeId}(h:ElT P t e ti k u):∃z,ti.zero=Wu z/\z.cells.size=k:=by obtain⟨z,h1,h2⟩:=h.zero;exact⟨z,h1,by rw[<-Ki,<-h2,vO u h.zok,h.us]⟩
theorem zBN{α:Type}{t:TypeId}{f:α->T}{xs ys zs:List α}{s1:Nat}(ht:ElT P t e ti k u)(hv:yR xs ys=Wu zs)(h0:E s0=Wu (L k f xs))(h1:E s1=Wu (L k f ys))(sd:(J6 d Γ.N&&(s0 != d)&&(s1 != d)&&(s1 != s0))=Ww):
  Ok P Γ ⟨Wu d,.call { callee:=.builtin .append,args:=#[.tmp s0,.tmp s1],argTypes:=#[t,t] },ty,ps,af,gd⟩ E (E.app [(d,Wu (L k f zs)),(s0,Wu .any),(s1,Wu .any)] [(d,0),(s0,1),(s1,1)]):=by
 obtain⟨rfl,hl⟩:=zFz hv;obtain⟨z,hz,fT⟩:=ht.zsize;simp only[J4]at sd;intro S;have:=zKf (P:=P) (Γ:=Γ.at S) (E:=E) (o:=⟨Wu d,.call { callee:=.builtin .append,args:=#[.tmp s0,.tmp s1],argTypes:=#[t,t] },ty,ps,af,gd⟩) t e ti z k s0 s1 (xs.map f) (ys.map f) rfl rfl (yK sd.1.1.1) ht.un ht.info hz ht.size ht.pos fT ht.bytes h0 h1
  (by grind) (by grind) (by grind) (by grind)
 rw[<-Lq]at this;exact this
theorem zJi{α:Type}{f:α->T}(hf:∀x,(f x).flat=Ww):(xs:List α)->zAm (xs.map f)=Ww
 | []=>rfl
 |x::xs=>by simp only[Jr,zAm,hf x,zJi hf xs,H3]
theorem zF0{α:Type}{t:TypeId}{f:α->T}{xs ys zs:List α}(ht:ElT P t e ti k u)(hf:∀x,(f x).flat=Ww)(hv:yR xs ys=Wu zs)(h0:E s0=Wu (L k f xs))(h1:uP E y=Wu (r,q,L k f ys))(sd:(J6 d Γ.N&&(s0 != d))=Ww):
  Ok P Γ ⟨Wu d,.call { callee:=.builtin .append,args:=#[.tmp s0,y],argTypes:=#[t,t] },ty,ps,af,gd⟩ E (E.app [(d,Wu (L k f zs)),(s0,Wu .any)] [(d,0),(s0,1)]):=by
 obtain⟨rfl,hl⟩:=zFz hv;obtain⟨z,hz,fT⟩:=ht.zsize;simp only[J4]at sd;intro S;have:=zKg (P:=P) (Γ:=Γ.at S) (E:=E) (o:=⟨Wu d,.call { callee:=.builtin .append,args:=#[.tmp s0,y],argTypes:=#[t,t] },ty,ps,af,gd⟩) t e ti z k s0 y r q (xs.map f) (ys.map f) rfl rfl (yK sd.1) ht.un ht.info hz ht.size ht.pos fT ht.bytes h0 h1 (zJi hf ys)
  (by grind) (by grind)
 rw[<-Lq]at this;exact this
end
abbrev IK(k:IntKind)(n:Int):T:=.lit (.int k n)
abbrev Str(s:ByteArray):T:=.lit (.string s)
abbrev Pt{α:Type}(f:α->T)(x:α):T:=.ptr (f x)
abbrev Ro{α:Type}(f:α->T)(x:α):T:=.ro (f x)
theorem bd{α β:Type}{o:Option α}{f:α->Option β}{r:β}(h:o.bind f=Wu r):∃v,o=Wu v/\f v=Wu r:=by
 cases o with
 |none=>simp at h
 |some v=>grind
theorem cT{α:Type}{b:Bool}{x y:α}{z:α}(hc:b=Ww)(h:cond b x y=z):x=z:=by grind
theorem cF{α:Type}{b:Bool}{x y:α}{z:α}(hc:b=Wx)(h:cond b x y=z):y=z:=by grind
theorem sI{α:Type}{x y:α}(h:Wu x=Wu y):x=y:=Lr.inj h
section
variable {P:Program}{Γ:Ctx}{pn:sG}{E E':Env}{Q:Exit->Env->Prop}{c:Code}{id id':Nat}
theorem nA(h:CW P Γ pn c E Q):yX P Γ pn c Q .normal E:=h
theorem xA(h:Q (.exit id) E):yX P Γ pn c Q (.exit id) E:=h
theorem rA(h:Q .ret E):yX P Γ pn c Q .ret E:=h
theorem nB(h:Q .normal E):xC id Q .normal E:=h
theorem rB(h:Q .ret E):xC id Q .ret E:=h
theorem xB(h:Q .normal E):xC id Q (.exit id) E:=by simp only[xC,if_true];exact h
theorem neX:Exit.exit id≠.normal:=by simp
theorem neR:Exit.ret≠.normal:=by simp
theorem RW.cases{ops:Array Oper}{os:List Oper}(s:Nat)(b:Bool)(hb:E s=Wu (B b))(ht:b=Ww->RW P Γ pn ops os (E.app [(s,Wu (B Ww))] []) Q)(hf:b=Wx->RW P Γ pn ops os (E.app [(s,Wu (B Wx))] []) Q):RW P Γ pn ops os E Q:=by
 have key:∀c:Bool,b=c->zI Γ E (E.app [(s,Wu (B c))] []):=by
  rintro c rfl a w hs
  refine hs.weaken fun s' t h=>?_
  by_cases e:s=s'
  ·grind[Env.app,Wr.find]
  ·simp only[Env.app,Wr.find,e,if_false]at h
   grind
 cases hc:b with
 |true=>grind[ghost]
 |false=>grind[ghost]
end
theorem zX{α:Type}{f:α->T}{xs:List α}{i:Int}{v:α}{p:List Nat}(h:ixO xs i=Wu v)(hr:(f v).get p=Wu u):(L k f xs).get (i.toNat::p)=Wu u:=by simp[T.get,(uF h).2,hr]
theorem wC{t:T}{p:List Nat}(h:t.get p=Wu u):(T.ptr t).get (0::p)=Wu u:=h
theorem wD{xs:List T}{x:T}{p:List Nat}(hj:xs[j]? =Wu x)(h:x.get p=Wu u):(T.agg xs).get (j::p)=Wu u:=by grind[T.get]
theorem zF1{α:Type}{f:α->T}{xs:List α}{i:Int}{v w:α}{p:List Nat}(h:ixO xs i=Wu v)(hr:(f v).set p u=f w):(L k f xs).set (i.toNat::p) u=L k f (xs.set i.toNat w):=by simp[L,T.set,(uF h).2,hr,Ja4]
theorem zC5{t t':T}{p:List Nat}(h:t.set p u=t'):(T.ptr t).set (0::p) u=T.ptr t':=by simp[T.set,h]
theorem zQ1{xs:List T}{x x':T}{p:List Nat}(hj:xs[j]? =Wu x)(h:x.set p u=x'):(T.agg xs).set (j::p) u=.agg (xs.set j x'):=by grind[T.set]
class Enc {α:Type} (f:α->T):Prop where
 clean:∀x,zZ (f x)
 rofree:∀x,wT (f x)=Ww
 strip:∀x,strip (f x)=f x
 okTup:∀x,(f x).okTup=Ww
 rook:∀x,zGw (f x)=Ww
theorem zDQ{α:Type}{f:α->T}(h:∀x,wT (f x)=Ww):(xs:List α)->vY (xs.map f)=Ww
 | []=>rfl
 |x::xs=>by simp only[Jr,vY,h x,zDQ h xs,H3]
theorem zHu{α:Type}{f:α->T}(h:∀x,zGw (f x)=Ww):(xs:List α)->zCl (xs.map f)=Ww
 | []=>rfl
 |x::xs=>by simp only[Jr,zCl,h x,zHu h xs,H3]
theorem tC{α:Type}{f g:α->T}(h:∀x,strip (f x)=g x):(xs:List α)->vA (xs.map f)=xs.map g
 | []=>rfl
 |x::xs=>by simp only[Jr,vA,h x,tC h xs]
instance:Enc I:=⟨zPe,fun _=>rfl,fun _=>rfl,fun _=>rfl,fun _=>rfl⟩
instance:Enc B:=⟨zWm,fun _=>rfl,fun _=>rfl,fun _=>rfl,fun _=>rfl⟩
instance{k:IntKind}:Enc (IK k):=⟨fun _=>by simp[zZ,xF],fun _=>rfl,fun _=>rfl,fun _=>rfl,fun _=>rfl⟩
instance:Enc Str:=⟨fun _=>by simp[zZ,xF],fun _=>rfl,fun _=>rfl,fun _=>rfl,fun _=>rfl⟩
instance{α:Type}{k:Nat}{f:α->T}[h:Enc f]:Enc (L k f):=
 ⟨fun _=>zPd h.clean,fun xs=>by simp only[wT];exact zDQ h.rofree xs,fun xs=>by simp only[L,strip,tC h.strip xs],fun _=>rfl,fun xs=>by simp only[zGw,zHu h.rook xs]⟩
instance{α:Type}{f:α->T}[h:Enc f]:Enc (Pt f):=
 ⟨fun x=>by simp only[zZ,xF];exact h.clean x,fun x=>by simp only[wT,h.rofree],fun x=>by simp only[Pt,strip,h.strip],fun _=>rfl,fun x=>by simp only[zGw,h.rook]⟩
class xK {α:Type} (f g:α->T):Prop where
 h:∀x,strip (f x)=g x
instance{α:Type}{f:α->T}[h:Enc f]:xK f f:=⟨h.strip⟩
instance{α:Type}{k:Nat}{f g:α->T}[h:xK f g]:xK (L k f) (L k g):=⟨fun xs=>by simp only[L,strip,tC h.h xs]⟩
instance{α:Type}{k:Nat}{g:α->T}:xK (Ro (L k g)) (L k g):=⟨fun _=>rfl⟩
instance{α:Type}{g:α->T}:xK (Ro (Pt g)) (Pt g):=⟨fun _=>rfl⟩
theorem stA{xs ys:List T}(h:vA xs=ys):strip (.agg xs)=.agg ys:=by grind[strip]
theorem stC{x y:T}{xs ys:List T}(h:strip x=y)(h2:vA xs=ys):vA (x::xs)=y::ys:=by grind[vA]
section
variable {E:Env}{rw:Rw}{i s r:Nat}{q:List Nat}{x:Operand}
theorem zQ2{α:Type}{f g:α->T}{xs:List α}(h:xK f g):clo E (L k f xs)=.ro (L k g xs):=by simp only[clo,L,strip,tC h.h xs]
theorem zGy{t:T}(h:strip t=u):clo E (.ptr t)=.ro (.ptr u):=by grind[clo,strip]
theorem zDb{tr:T}(hr:E r=Wu tr)(hg:tr.get q.reverse=Wu u)(h4:zAv u=Ww):qI E 4 r q=Wu (r,q,u):=by grind[zAv,qI]
theorem zAS{α:Type}{f g:α->T}{xs:List α}{tr:T}(hr:E r=Wu tr)(hg:tr.get q.reverse=Wu (L k f xs))(h:xK f g):clo E (.same r q)=.ro (L k g xs):=by simp only[clo,zDb hr hg rfl,T.single,if_true,L,strip,tC h.h xs]
theorem zJj{t tr:T}(hr:E r=Wu tr)(hg:tr.get q.reverse=Wu (.ptr t))(h:strip t=u):clo E (.same r q)=.ro (.ptr u):=by simp only[clo,zDb hr hg rfl,T.single,if_true,strip,h]
theorem zZm{α:Type}{l h:Nat}{f g:α->T}{xs:List α}{tr:T}(hr:E r=Wu tr)(hg:tr.get q.reverse=Wu (L k f xs))(hs:xK f g)(h1:l<=h)(h2:h<=xs.length):clo E (.sub r q k l h)=.ro (L k g ((xs.drop l).take (h-l))):=by simp only[clo,zDb hr hg rfl,L,tC hs.h xs,Jm,h1,h2,and_self,if_true,Jbj,Qa]
theorem yBf{xs ys:List T}(h:zB1 E xs=ys):clo E (.agg xs)=.agg ys:=by grind[clo]
theorem yDo:zB1 E []=[]:=rfl
theorem yBg{x y:T}{xs ys:List T}(h:clo E x=y)(h2:zB1 E xs=ys):zB1 E (x::xs)=y::ys:=by grind[zB1]
mutual
theorem zJk(s:Nat):(t:T)->t.okTup=Ww->sU E [] s t=Ww
 |.agg xs,h=>by simp only[sU,T.okTup]at h ⊢;exact zHv s xs h
 |.tup _,h=>by grind[T.okTup]
 |.same r q,_|.sub r q _ _ _,_=>by grind[sU]
 |.sl _ _,_|.ptr _,_|.mp _ _,_=>by rfl
 |.lit _,_|.ro _,_|.any,_|.addr _ _,_=>by rfl
theorem zHv(s:Nat):(xs:List T)->yU xs=Ww->zA8 E [] s xs=Ww
 | [],_=>rfl
 |x::xs,h=>by simp only[yU,J4]at h;simp only[zA8,zJk s x h.1,zHv s xs h.2,H3]
end
theorem agC(t:T)(h:opT E x=Wu t)(h1:clo E t=u)(h2:t.okTup=Ww):zB2 E [] i x u:=.inr ⟨t,h,h1,by
 cases x with
 |tmp s=>exact zJk s t h2
 |_=>rfl⟩
end
section
variable {P:Program}{Γ:Ctx}{E:Env}{d:Nat}{x y:Operand}{ty:TypeId}{ps:String}{af:Array Edge}{gd:Option (Nat×Bool)}
abbrev zAZ(res:List T):Prop:=xG res/\yU res=Ww/\vY res=Ww
theorem jS:zAZ []:=⟨trivial,rfl,rfl⟩
theorem zAb{α:Type}{f:α->T}{x:α}(h:Enc f)(h2:zAZ ts):zAZ (f x::ts):=
 ⟨⟨h.clean x,h2.1⟩,by simp only[yU,h.okTup,h2.2.1,H3],by simp only[vY,h.rofree,h2.2.2,H3]⟩
abbrev kI(P:Program)(f:FuncId):Prop:=∀args w,(callFunc f args).run P w=.ok (.enter f args) w
theorem sH{f:FuncId}{xs:List Operand}{res:List T}(gu:kI P f)(hc:FnC P f us res [])(gn:wA E [] 0 xs us)(gz:zAZ res)(sd:J6 d Γ.N=Ww):
  Ok P Γ ⟨Wu d,.call { callee:=.value (.func f),args:=xs.toArray,argTypes:=ats },ty,ps,af,gd⟩ E (E.app (cWr d res []) (vH d [])):=
 fun _S=>zKk f (.func f) xs ats us res [] rfl rfl (yK sd) gu rfl hc gn .nil gz
theorem zWn{f:FuncId}{xs:List Operand}{res:List T}(gu:kI P f)(hc:FnC P f us res [])(gm:xs.length=us.length)(gn:∀(i:Nat) u,us[i]? =Wu u-> ∃x,xs[i]? =Wu x/\opT E x=Wu u/\u.flat=Ww)(gz:xG res/\yU res=Ww)(sd:J6 d Γ.N=Ww):
  Ok P Γ ⟨Wu d,.call { callee:=.value (.func f),args:=xs.toArray,argTypes:=ats },ty,ps,af,gd⟩ E (E.app (cWr d res []) (vH d [])):=
 fun _S=>zSA f (.func f) xs ats us res rfl rfl (yK sd) gu rfl hc gm gn gz
class qK (P:Program) (S:TypeId) (j:Nat) (off:outParam Nat):Prop where
 h:∃fs f fi,P.underlying S=Wu (.struct fs)/\fs[j]? =Wu f/\P.info? f.type=Wu fi/\fi.size≠0/\off=f.offset
theorem zZn{S:TypeId}{xs:List T}(ht:qK P S j off)(hx:uP E x=Wu (r,q,.ptr (.agg xs)))(hu:xs[j]? =Wu u)(gH:T.sizes (xs.take j)=off)(sd:J6 d Γ.N=Ww):
  Ok P Γ ⟨Wu d,.fieldAddr S x j,ty,ps,af,gd⟩ E (E.app [(d,Wu (.addr r (j::0::q)))] [(d,0)]):=by
 obtain⟨fs,f,fi,h1,h2,h3,h4,h5⟩:=ht.h;exact fun _=>yAU x S fs f fi j r q xs u rfl rfl (yK sd) h1 h2 h3 h4 hx hu
theorem yBh{S:TypeId}{t:T}{xs:List T}(ht:qK P S j off)(hx:opT E x=Wu (.addr r q))(hr:E r=Wu t)(hg:t.get q.reverse=Wu (.agg xs))(hu:xs[j]? =Wu u)(gH:T.sizes (xs.take j)=off)(sd:(J6 d Γ.N&&t.locd q.reverse)=Ww):
  Ok P Γ ⟨Wu d,.fieldAddr S x j,ty,ps,af,gd⟩ E (E.app [(d,Wu (.addr r (j::q)))] [(d,0)]):=by
 obtain⟨fs,f,fi,h1,h2,h3,h4,h5⟩:=ht.h;simp only[J4]at sd;exact fun _=>zNq x S fs f fi j r q t xs u rfl rfl (yK sd.1) h1 h2 h3 h4 hx hr hg sd.2 hu
theorem zSL{S:TypeId}{xs:List T}(ht:qK P S j off)(hx:opT E x=Wu (.ro (.ptr (.agg xs))))(hu:xs[j]? =Wu u)(gH:T.sizes (xs.take j)=off)(sd:J6 d Γ.N=Ww):
  Ok P Γ ⟨Wu d,.fieldAddr S x j,ty,ps,af,gd⟩ E (E.app [(d,Wu (.ro (.ptr u)))] [(d,0)]):=by
 obtain⟨fs,f,fi,h1,h2,h3,h4,h5⟩:=ht.h;exact fun _=>zSq x S fs f fi j xs u rfl rfl (yK sd) h1 h2 h3 h4 hx hu
def zT{α:Type}(xs:List α)(l h:Int):Option (List α):=if 0<=l/\l<=h/\h<=(xs.length:Int)then Wu ((xs.drop l.toNat).take (h.toNat-l.toNat))else Wv
theorem zYx{α:Type}{t:TypeId}{f:α->T}{xs ys:List α}{lo hi:Option Operand}(ht:zAR P t e ti k)(hv:zT xs l h=Wu ys)(hx:uP E x=Wu (r,q,.ro (L k f xs)))(eg:zBK E lo 0 l.toNat)(fx:zBK E hi xs.length h.toNat)(sd:J6 d Γ.N=Ww):
  Ok P Γ ⟨Wu d,.slice t x lo hi Wv,ty,ps,af,gd⟩ E (E.app [(d,Wu (.ro (L k f ys)))] [(d,0)]):=by
 unfold zT at hv;split at hv
 ·rename_i hc
  simp at hv;subst hv;intro S;have:=zLr (P:=P) (Γ:=Γ.at S) (E:=E) (o:=⟨Wu d,.slice t x lo hi Wv,ty,ps,af,gd⟩) x lo hi t e ti r q k (xs.map f) l.toNat h.toNat rfl rfl (yK sd) ht.un ht.info ht.size hx eg (by grind) (by omega) (by simp;omega);simpa[L,Jbj,Qa]using this
 ·cases hv
theorem zSM{α:Type}{t:TypeId}{f:α->T}{xs ys:List α}{lo hi:Option Operand}(ht:zAR P t e ti k)(hv:zT xs l h=Wu ys)(hx:uP E x=Wu (r,q,L k f xs))(eg:zBK E lo 0 l.toNat)(fx:zBK E hi xs.length h.toNat)(sd:(J6 d Γ.N&&(r != d))=Ww):
  Ok P Γ ⟨Wu d,.slice t x lo hi Wv,ty,ps,af,gd⟩ E (E.app [(d,Wu (.sub r q k l.toNat h.toNat))] [(d,0)]):=by
 unfold zT at hv;simp only[J4]at sd;split at hv
 ·rename_i hc
  intro S;exact zJY (P:=P) (Γ:=Γ.at S) (E:=E) (o:=⟨Wu d,.slice t x lo hi Wv,ty,ps,af,gd⟩) x lo hi t e ti r q k (xs.map f) l.toNat h.toNat rfl rfl (yK sd.1) ht.un ht.info ht.size hx eg (by grind) (by omega) (by simp;omega) (by grind)
 ·cases hv
end
theorem zE{t:T}(h:zZ t):zZ t:=h
theorem zJ{α:Type}{f:α->T}{xs:List α}(hf:∀x,zZ (f x)):zZ (L k f xs):=zPd hf
theorem wJ{t:T}(h:zZ t):zZ (.ptr t):=by simpa only[zZ,xF]using h
theorem xY{xs:List T}(h:xG xs):zZ (.agg xs):=by simpa only[zZ,xF]using h
section
variable {P:Program}{Γ:Ctx}{pn:sG}{E E':Env}{Q:Exit->Env->Prop}{c c1 c2:Code}{x:Operand}
theorem CW.condT(hx:opT E x=Wu (B Ww))(h:CW P Γ pn c1 E Q):CW P Γ pn (.cond x c1 c2) E Q:=by grind[CW.cond]
theorem CW.condF(hx:opT E x=Wu (B Wx))(h:CW P Γ pn c2 E Q):CW P Γ pn (.cond x c1 c2) E Q:=by grind[CW.cond]
theorem CW.casesB(b:Bool)(ht:b=Ww->CW P Γ pn c E Q)(hf:b=Wx->CW P Γ pn c E Q):CW P Γ pn c E Q:=by grind
theorem zDA{s:Nat}{t:T}(h:E s=Wu t)(hf:wr.find s=Wv:=by rfl)(hb:t.okB chg=Ww:=by rfl):E.app wr chg s=Wu t:=by grind[Env.app]
theorem xN.gh{ops:Array Oper}(hg:zI Γ E E1)(h:xN P Γ ops o E1 E'):xN P Γ ops o E E':=fun a w K Q hs hK=>h a w K Q (hg a w hs) hK
theorem zHw{t:T}(h:opT E x=Wu (.ro (.ptr t))):zFZ E x=Ww:=by simp[zFZ,h]
theorem zF2{t:T}(h:uP E x=Wu (r,q,.ptr t)):zFZ E x=Ww:=by grind[zFZ]
end
theorem zZo{n:Nat}:zBK E Wv n (n:Int).toNat:=by simp[zBK]
theorem yBi:zBK E Wv 0 (0:Int).toNat:=by simp[zBK]
theorem zWo(h0:0<=n)(h:opT E x=Wu (I n)):zBK E (Wu x) d n.toNat:=⟨.i64,by grind⟩
theorem uS{α:Type}{xs ys:List α}(hv:zT xs l h=Wu ys):0<=l/\l<=h/\h<=xs.length/\ys=(xs.drop l.toNat).take (h.toNat-l.toNat):=by grind[zT]
theorem zF3{α:Type}{xs ys:List α}(hv:zT xs l h=Wu ys):0<=l:=(uS hv).1
theorem zJl{α:Type}{xs ys:List α}(hv:zT xs l h=Wu ys):0<=h:=by have:=uS hv;omega
theorem zWp{α:Type}{f g:α->T}{xs ys:List α}{tr:T}(hr:E r=Wu tr)(hg:tr.get q.reverse=Wu (L k f xs))(hs:xK f g)(hv:zT xs l h=Wu ys):
  clo E (.sub r q k l.toNat h.toNat)=.ro (L k g ys):=by
 obtain⟨h1,h2,h3,rfl⟩:=uS hv
 grind[zZm]
section
variable {P:Program}{Γ:Ctx}{E E':Env}{d:Nat}{x y:Operand}{ty:TypeId}{ps:String}{af:Array Edge}{gd:Option (Nat×Bool)}
theorem zSN{e b:Bool}{d:Nat}(he:e=b)(h:Ok P Γ o E (E.app ((d,Wu (B e))::wr) chg)):Ok P Γ o E (E.app ((d,Wu (B b))::wr) chg):=he▸h
theorem yBj{t:TypeId}{tr:T}(ht:zSK P t u)(hx:uP E x=Wu (r,q,.ptr t0))(hr:E r=Wu tr)(hg:tr.get (0::q).reverse=Wu u)(sd:(J6 d Γ.N&&tr.locd (0::q).reverse&&(r != d)&&T.okB [(d,0)] (cpT r u (0::q)))=Ww):
  Ok P Γ ⟨Wu d,.load t x,ty,ps,af,gd⟩ E (E.app [(d,Wu (cpT r u (0::q)))] [(d,0)]):=by
 obtain⟨ds,ti,h1,h2,h3,h4⟩:=ht.h;simp only[J4]at sd;exact fun S=>zLo x t ds ti r (0::q) tr u rfl rfl (yK sd.1.1.1) h1 h2 h3 h4 (zAW.ptr hx) hr hg sd.1.1.2 (by grind) sd.2
theorem zYy{t:TypeId}{s:Nat}{tr:T}(hi:P.info? t=Wu ti)(gv:(ti.size==u.size&&J6 0 ti.size)=Ww)(hx:∀S,zAW (Γ.at S) E x r q)(hr:E r=Wu tr)(hg:tr.get q.reverse=Wu u0)(gp:tr.set q.reverse u=tr')(hy:E s=Wu u)(hu:zZ u)
  (sd:(tr.single&&tr.locd q.reverse&&vD u u0&&(r != s)&&u.okTup)=Ww):Ok P Γ ⟨Wv,.store t x (.tmp s),ty,ps,af,gd⟩ E (E.app ((r,Wu tr')::sWr r q (.slot s u)) ((r,q.length)::sC [.slot s u])):=by
 simp only[J4]at sd gv;subst gp;intro S;refine zFs (P:=P) (Γ:=Γ.at S) (E:=E) (o:=⟨Wv,.store t x (.tmp s),ty,ps,af,gd⟩) t ti x (.tmp s) r q tr u0 (.slot s u) rfl rfl hi (by grind[yV.tree]) (yK gv.2) (hx S) hr sd.1.1.1.1 hg sd.1.1.1.2 sd.1.1.2 (.slot s _)
  ⟨by grind,by simp,?_⟩
 grind[xV]
theorem zGz{t:TypeId}{s:Nat}{tr:T}(hi:P.info? t=Wu ti)(gv:(ti.size==u.size&&J6 0 ti.size)=Ww)(hx:opT E x=Wu (.addr r q))(hr:E r=Wu tr)(hg:tr.get q.reverse=Wu u0)(gp:tr.set q.reverse u=tr')(hy:E s=Wu u)(hu:zZ u)
  (sd:(tr.single&&tr.locd q.reverse&&vD u u0&&(r != s)&&u.okTup)=Ww):Ok P Γ ⟨Wv,.store t x (.tmp s),ty,ps,af,gd⟩ E (E.app ((r,Wu tr')::sWr r q (.slot s u)) ((r,q.length)::sC [.slot s u])):=
 zYy hi gv (fun _=>zAW.addr hx) hr hg gp hy hu sd
theorem zA9{t:TypeId}{s:Nat}{tr:T}(hi:P.info? t=Wu ti)(gv:(ti.size==u.size&&J6 0 ti.size)=Ww)(hx:uP E x=Wu (r,q,.ptr t0))(hr:E r=Wu tr)(hg:tr.get (0::q).reverse=Wu u0)(gp:tr.set (0::q).reverse u=tr')(hy:E s=Wu u)(hu:zZ u)
  (sd:(tr.single&&tr.locd (0::q).reverse&&vD u u0&&(r != s)&&u.okTup)=Ww):Ok P Γ ⟨Wv,.store t x (.tmp s),ty,ps,af,gd⟩ E (E.app ((r,Wu tr')::sWr r (0::q) (.slot s u)) ((r,(0::q).length)::sC [.slot s u])):=
 zYy hi gv (fun _=>zAW.ptr hx) hr hg gp hy hu sd
theorem zZp{t:TypeId}{tr:T}{v:Value}(hi:P.info? t=Wu ti)(gv:(ti.size==u.size&&J6 0 ti.size)=Ww)(hx:∀S,zAW (Γ.at S) E x r q)(hr:E r=Wu tr)(hg:tr.get q.reverse=Wu u0)(gp:tr.set q.reverse u=tr')
  (sd:(tr.single&&tr.locd q.reverse&&vD u u0&&u.zOk)=Ww)(hz:tW u=v.cells.toList):Ok P Γ ⟨Wv,.store t x (.const v),ty,ps,af,gd⟩ E (E.app [(r,Wu tr')] [(r,q.length)]):=by
 simp only[J4]at sd gv;subst gp;intro S;have:=zFs (P:=P) (Γ:=Γ.at S) (E:=E) (o:=⟨Wv,.store t x (.const v),ty,ps,af,gd⟩) t ti x (.const v) r q tr u0 (.zero u) rfl rfl hi (by grind[yV.tree]) (yK gv.2) (hx S) hr sd.1.1.1 hg sd.1.1.2 sd.1.2 (.zero v _ hz)
  ⟨by simp,by grind,by simp[xV]⟩
 exact this
theorem zZq{t:TypeId}{tr:T}{v:Value}(hi:P.info? t=Wu ti)(gv:(ti.size==u.size&&J6 0 ti.size)=Ww)(hx:opT E x=Wu (.addr r q))(hr:E r=Wu tr)(hg:tr.get q.reverse=Wu u0)(gp:tr.set q.reverse u=tr')
  (sd:(tr.single&&tr.locd q.reverse&&vD u u0&&u.zOk)=Ww)(hz:tW u=v.cells.toList):Ok P Γ ⟨Wv,.store t x (.const v),ty,ps,af,gd⟩ E (E.app [(r,Wu tr')] [(r,q.length)]):=
 by grind[zZp,zAW.addr]
theorem zHx{G:Gh}{s:Nat}:(xs:List T)->yU xs=Ww-> ∀(p:List Nat)(i j:Nat)(u:T),xs[j]? =Wu u-> ∃l1 l2,yJ G s xs p i=l1++vals G s u ((i+j)::p)++l2/\l1.length=T.sizes (xs.take j)
 | [],_,_,_,_,_,h=>by simp at h
 |x::xs,ht,p,i,j,u,h=>by
  simp only[yU,J4]at ht;cases j with
  |zero=>simp at h;subst h;exact⟨[],yJ G s xs p (i+1),by rfl,by rfl⟩
  |succ j=>
   obtain⟨l1,l2,h1,h2⟩:=zHx xs ht.2 p (i+1) j u (by grind);refine⟨vals G s x (i::p)++l1,l2,by rw[yJ,h1,show i+(j+1)=i+1+j from by omega];simp,?_⟩;rw[J5,vG x _ (by rintro ys rfl;grind[T.okTup]),h2,La,T.sizes]
theorem yBk{S:TypeId}{s:Nat}{xs:List T}(ht:qK P S j off)(hv:∃ds ti fs f,P.underlying S=Wu (.struct fs)/\fs[j]? =Wu f/\P.underlying f.type=Wu ds/\P.info? f.type=Wu ti/\zGT ds= !u.single/\ti.size=u.size)(hx:E s=Wu (.agg xs))(hu:xs[j]? =Wu u)(gH:T.sizes (xs.take j)=off)
  (sd:(J6 d Γ.N&&yU xs&&u.okTup&&(s != d)&&T.okB [(d,0)] (cpT s u [j]))=Ww):
  Ok P Γ ⟨Wu d,.field S (.tmp s) j,ty,ps,af,gd⟩ E (E.app [(d,Wu (cpT s u [j]))] [(d,0)]):=by
 obtain⟨fs,f,fi,h1,h2,h3,h4,h5⟩:=ht.h;obtain⟨ds,ti,fs',f',g1,g2,g3,g4,g5,g6⟩:=hv;simp only[J4]at sd;rw[h1]at g1;simp at g1;subst g1;rw[h2]at g2;simp at g2;subst g2;rw[h3]at g4;simp at g4;subst g4;intro S';refine wF.value rfl fun a w G gc=>?_
 obtain⟨k1,k2,_⟩:=gc.ent s _ hx;simp only[R]at k2;have k3:=zBk xs [] 0 j u k2 hu;simp only[Jd]at k3;have gf:s≠d:=by grind
 have ei:∀ys,u≠.tup ys:=zB6 sd.1.1.2;have hk:=G.put_keep (w:=w) (w':=w) rfl d (fun z=>G.hd s (z++[j]));have hz:∀z,(G.put d (fun z=>G.hd s (z++[j]))).hd d (z++[])=G.hd s (z++[j]):=by grind[Gh.put_self]
 refine⟨sB G s u [j],w,?_,_,vJ gc rfl (yK sd.1.1.1.1) (fun z=>G.hd s (z++[j])) (fun z=>gc.mem.one _ _) _ _ (by grind[zA4])
  (zDE (fun p=>G.put_other _ p gf) u [j] [] hz ei (hk.keepR (by grind[zAr,qH])) k3) (qH s u [j])⟩
 obtain⟨l1,l2,e1,e2⟩:=zHx (G:=G) (s:=s) xs sd.1.1.1.2 [] 0 j u hu;simp only[Jd]at e1;have e3:l1.length=f.offset:=by omega
 have e4:=vG (G:=G) (s:=s) u [j] ei;have dK:(part f.type (yJ G s xs [] 0).toArray f.offset).run P w=.ok (sB G s u [j]) w:=by
  rw[e1];cases u with
  |agg ys=>
   simp[T.single]at g5;simp only[vals,T.size]at e4 g6 ⊢
   simp[part,kD g3,g5,sizeOf,typeInfo,h3,sB]
   grind
  |tup ys=>grind
  |_=>
   simp[T.single]at g5;simp[part,kD g3,g5,sB,vals,<-e3]
 simp[execOp,wH k1,mkV,Instr.field,run_underlying h1,h2,asAgg,dK]
theorem zBO{α:Type}{t:TypeId}{n:Nat}{a:Int}{f:α->T}{z:α}(ht:ElT P t e ti k u)(hz:f z=u)(hn:yO a=Wu n)(hx:opT E x=Wu (I a))(hy:opT E y=Wu (I a))(sd:J6 d Γ.N=Ww):
  Ok P Γ ⟨Wu d,.makeSlice t x y,ty,ps,af,gd⟩ E (E.app [(d,Wu (L k f (J0 n z)))] [(d,0)]):=by
 have:=zSI (P:=P) (Γ:=Γ) (E:=E) (d:=d) (ty:=ty) (ps:=ps) (af:=af) (gd:=gd) ht hn hx hn hy (J9 _) sd;rw[<-hz]at this;simpa[L]using this
theorem zSO{t:TypeId}(ht:ElT P t e ti k u)(sd:J6 d Γ.N=Ww):Ok P Γ ⟨Wu d,.buildSlice t 0 #[],ty,ps,af,gd⟩ E (E.app [(d,Wu (.sl k []))] [(d,0)]):=
 fun _=>zHb t e ti k rfl rfl (yK sd) ht.un ht.info
theorem zLE(t:TypeId)(x y:Value):Op.equal t x y=Op.equalIn (9999+1) t x y:=rfl
end
def zBm:List Nat->Bool
 | []=>Ww
 |x::xs=> !xs.contains x&&zBm xs
theorem zDc:{l:List Nat}->zBm l=Ww->l.Nodup
 | [],_=>by simp
 |x::xs,h=>by simp only[zBm,J4,Gj,Lx,decide_eq_false_iff_not]at h;exact L4.2 ⟨h.1,zDc h.2⟩
def zBP(E:Env):List yV->Prop
 | []=>True
 |.slot s t::l=>(E s=Wu t/\zZ t/\t.okTup=Ww)/\zBP E l
 |.zero u::l=>u.zOk=Ww/\zBP E l
theorem zBP.get{E:Env}:(l:List yV)->zBP E l->(∀s t,yV.slot s t∈l->E s=Wu t/\zZ t/\t.okTup=Ww)/\ ∀u,yV.zero u∈l->u.zOk=Ww
 | [],_=>⟨fun _ _ h=>by simp at h,fun _ h=>by simp at h⟩
 |.slot s t::l,h=>by
  obtain⟨h1,h2⟩:=zBP.get l h.2;exact⟨fun s' t' hm=>by
   rcases Je.1 hm with e|hm
   ·cases e;exact h.1
   ·exact h1 s' t' hm,fun u hm=>by
   rcases Je.1 hm with e|hm
   ·cases e
   ·exact h2 u hm⟩
 |.zero u::l,h=>by
  obtain⟨h1,h2⟩:=zBP.get l h.2;exact⟨fun s' t' hm=>by
   rcases Je.1 hm with e|hm
   ·cases e
   ·exact h1 s' t' hm,fun u' hm=>by
   rcases Je.1 hm with e|hm
   ·cases e;exact h.1
   ·exact h2 u' hm⟩
section
variable {E:Env}
theorem pkN:zBP E []:=trivial
theorem pkS{s:Nat}{t:T}{l:List yV}(h:E s=Wu t)(hc:zZ t)(h3:t.okTup=Ww)(hl:zBP E l):zBP E (.slot s t::l):=⟨⟨h,hc,h3⟩,hl⟩
theorem pkZ{l:List yV}(h:u.zOk=Ww)(hl:zBP E l):zBP E (.zero u::l):=⟨h,hl⟩
theorem zBP.parts{l:List yV}(h:zBP E l)(hn:zBm (d::xV l)=Ww):tJ E d l:=⟨(zBP.get l h).1,(zBP.get l h).2,zDc hn⟩
def zCq(E:Env)(zs:List T)(ps:List yV):List (Nat×Operand)->List (Nat×yV)->Prop
 | [],[]=>True
 |x::xs,q::qs=>(x.1=q.1/\zAg E x.2 q.2/\ps[q.1]? =Wu q.2/\ ∃u,zs[q.1]? =Wu u/\u.size=q.2.tree.size)/\zCq E zs ps xs qs
 |_,_=>False
theorem bqN{zs:List T}{ps:List yV}:zCq E zs ps [] []:=trivial
theorem bqC{zs:List T}{ps:List yV}{q:yV}{xs:List (Nat×Operand)}{qs:List (Nat×yV)}(h:zAg E x q)(hl:zCq E zs ps xs qs)(h1:ps[i]? =Wu q:=by rfl)(h2:∃u,zs[i]? =Wu u/\u.size=q.tree.size:=by exact⟨_,rfl,rfl⟩):zCq E zs ps ((i,x)::xs) ((i,q)::qs):=⟨⟨rfl,h,h1,h2⟩,hl⟩
theorem zCq.ix{zs:List T}{ps:List yV}:(pl:List (Nat×Operand))->(qs:List (Nat×yV))->zCq E zs ps pl qs->pl.map (·.1)=qs.map (·.1)
 | [],[],_=>rfl
 |x::xs,q::qs,h=>by simp[h.1.1,zCq.ix xs qs h.2]
 | [],_::_,h=>by simp[zCq]at h
 |_::_,[],h=>by simp[zCq]at h
theorem zCq.get{zs:List T}{ps:List yV}:(pl:List (Nat×Operand))->(qs:List (Nat×yV))->zCq E zs ps pl qs-> ∀(j:Nat)(x:Nat×Operand)(q:Nat×yV),pl[j]? =Wu x->qs[j]? =Wu q->zAg E x.2 q.2/\q.2∈ps/\ ∃u,zs[q.1]? =Wu u/\u.size=q.2.tree.size
 | [],[],_,j,_,_,h,_=>by simp at h
 |x::xs,q::qs,h,j,x',q',h1,h2=>by
  cases j with
  |zero=>simp at h1 h2;subst h1;subst h2;exact⟨h.1.2.1,Ky h.1.2.2.1,h.1.2.2.2⟩
  |succ j=>exact zCq.get xs qs h.2 j x' q' (by simpa using h1) (by simpa using h2)
 | [],_::_,h,_,_,_,_,_=>by simp[zCq]at h
 |_::_,[],h,_,_,_,_,_=>by simp[zCq]at h
end
class zHy (P:Program) (t:TypeId) (zs:outParam (List T)):Prop where
 h:∃(place:Nat->Option (Nat×Nat))(z:Value),(∀parts,P.built t parts=Instr.fill place z.cells parts)/\sZ zs=z.cells.toList/\zAt zs=Ww/\ ∀i u,zs[i]? =Wu u->place i=Wu (T.sizes (zs.take i),u.size)
section
variable {P:Program}{Γ:Ctx}{E E':Env}{d:Nat}{x y:Operand}{ty:TypeId}{ps:String}{af:Array Edge}{gd:Option (Nat×Bool)}
theorem zKq{t:TypeId}{zs:List T}{pa:Array (Nat×Operand)}(hb:zHy P t zs)(pl:List (Nat×Operand))(qs:List (Nat×yV))(pp:List yV)(gD:zBP E pp)(hq:zCq E zs pp pl qs)(sd:(J6 d Γ.N&&zBm (d::xV pp))=Ww)
  (fY:pa=pl.toArray:=by rfl)(ef:qs.foldl (fun ps q=>ps.set q.1 q.2) (zs.map yV.zero)=pp:=by rfl):Ok P Γ ⟨Wu d,.build t pa,ty,ps,af,gd⟩ E (E.app ((d,Wu (.agg (pp.map yV.tree)))::pWr d pp 0) ((d,0)::sC pp)):=by
 obtain⟨place,z,h1,h2,h3,h4⟩:=hb.h;simp only[J4]at sd;subst fY;exact fun S=>zSz t place z zs pl qs pp rfl rfl (yK sd.1) h1 h2 h3 h4 ef (gD.parts sd.2) (zCq.ix _ _ hq) (zCq.get _ _ hq)
def zLF(k:Nat):List yV->Bool
 | []=>Ww
 |p::l=>(p.tree.size==k)&&zLF k l
theorem zLG{k:Nat}:(l:List yV)->zLF k l=Ww-> ∀p∈l,p.tree.size=k
 | [],_,_,h=>by simp at h
 |p::l,h,q,hm=>by
  simp only[zLF,J4,beq_iff_eq]at h;rcases Je.1 hm with rfl|hm
  ·exact h.1
  ·exact zLG l h.2 q hm
theorem zD0{t:TypeId}{n:Nat}{pa:Array (Nat×Operand)}(ht:ElT P t e ti k u)(xs:List Operand)(pp:List yV)(ys:List α)(f:α->T)(hx:uK E xs pp)(gD:zBP E pp)
  (sd:(J6 d Γ.N&&zBm (d::xV pp)&&zLF k pp&&J6 0 n&&Jb6 (n*k) 65536)=Ww)(hn:xs.length=n)(fY:pa=((xs.zipIdx 0).map fun x=>(x.2,x.1)).toArray:=by rfl)(hy:pp.map yV.tree=ys.map f:=by rfl):
  Ok P Γ ⟨Wu d,.buildSlice t n pa,ty,ps,af,gd⟩ E (E.app ((d,Wu (L k f ys))::pWr d pp 0) ((d,0)::sC pp)):=by
 obtain⟨z,hz,_⟩:=ht.zero;simp only[J4]at sd;subst fY;intro S;have fR:n*k<=65536:=by simpa[Nat.ble_eq]using sd.2
 have:=zIB (P:=P) (Γ:=Γ.at S) (E:=E) (o:=⟨Wu d,.buildSlice t n ((xs.zipIdx 0).map fun x=>(x.2,x.1)).toArray,ty,ps,af,gd⟩) t e ti z k n xs pp rfl rfl (yK sd.1.1.1.1) ht.un ht.info hz ht.size ht.pos hn (yK sd.1.2) (by omega) hx (gD.parts sd.1.1.1.2) (zLG pp sd.1.1.2);rw[hy]at this;exact this
theorem zLH{α:Type}{f g:α->T}(h:∀y,roT (g y)=f y):(ys:List α)->roT.roTs (ys.map g)=ys.map f
 | []=>rfl
 |y::ys=>by simp only[Jr,roT.roTs,h y,zLH h ys]
theorem zDR{α:Type}{t:TypeId}{f g:α->T}{xs ys zs:List α}(ht:ElT P t e ti k u)(ug:∀y,roT (g y)=f y)(gv:∀y,(g y).size=k)(hg:Enc g)(hv:yR xs ys=Wu zs)(h0:E s0=Wu (L k f xs))(h1:uP E y=Wu (r,q,.ro (L k g ys)))(sd:(J6 d Γ.N&&(s0 != d))=Ww):
  Ok P Γ ⟨Wu d,.call { callee:=.builtin .append,args:=#[.tmp s0,y],argTypes:=#[t,t] },ty,ps,af,gd⟩ E (E.app [(d,Wu (L k f zs)),(s0,Wu .any)] [(d,0),(s0,1)]):=by
 obtain⟨rfl,hl⟩:=zFz hv;obtain⟨z,hz,fT⟩:=ht.zsize;simp only[J4]at sd;intro S;have:=zKh (P:=P) (Γ:=Γ.at S) (E:=E) (o:=⟨Wu d,.call { callee:=.builtin .append,args:=#[.tmp s0,y],argTypes:=#[t,t] },ty,ps,af,gd⟩) t e ti z k s0 y r q (xs.map f) (ys.map g) rfl rfl (yK sd.1) ht.un ht.info hz ht.size ht.pos fT ht.bytes h0 h1 (zHu hg.rook ys)
  (by intro v hv;obtain⟨y,_,rfl⟩:=Jq.1 hv;exact gv y) (by simpa using sd.2) (by simpa using hl)
 rw[zLH ug,<-Lq]at this;exact this
def wN{α:Type}(xs:List α)(m:Int)(z:α):Option (List α):=if 0<=m/\xs.length+m.toNat<=68719476736 then Wu (xs++J0 m.toNat z)else Wv
theorem zSP{α:Type}{t t2:TypeId}{k2:IntKind}{f:α->T}{z:α}{xs zs:List α}(ht:ElT P t e ti k u)(mr:P.underlying t2=Wu (.int k2))(hz:f z=u)(hv:wN xs m z=Wu zs)(h0:E s0=Wu (L k f xs))(h1:opT E y=Wu (I m))(sd:(J6 d Γ.N&&(s0 != d))=Ww):
  Ok P Γ ⟨Wu d,.call { callee:=.builtin .append,args:=#[.tmp s0,y],argTypes:=#[t,t2] },ty,ps,af,gd⟩ E (E.app [(d,Wu (L k f zs)),(s0,Wu .any)] [(d,0),(s0,1)]):=by
 unfold wN at hv;split at hv
 ·rename_i hc
  simp at hv;subst hv;obtain⟨zv,bu,eT⟩:=ht.zero;simp only[J4]at sd;obtain⟨n,rfl⟩:∃n:Nat,m=n:=⟨m.toNat,by omega⟩;intro S;have:=zHi (P:=P) (Γ:=Γ.at S) (E:=E) (o:=⟨Wu d,.call { callee:=.builtin .append,args:=#[.tmp s0,y],argTypes:=#[t,t2] },ty,ps,af,gd⟩) t t2 e k2 ti zv u k s0 y .i64 n (xs.map f) rfl rfl (yK sd.1) ht.un mr ht.info bu ht.size ht.pos ht.bytes ht.zok eT ht.us h0 h1
   (by simpa using sd.2) (by simp at hc ⊢;omega)
  have e:xs.map f++J0 n u=(xs++J0 n z).map f:=by simp[hz]
  rw[e]at this;have h2:((n:Int)).toNat=n:=by simp
  rw[h2];exact this
 ·cases hv
end
section
variable {Γ:Ctx}{E:Env}
theorem zI.trq(d r:Nat)(q:List Nat){tr:T}(hd:E d=Wu (.same r q))(hr:E r=Wu tr)(hg:tr.get q.reverse=Wu u)(ez:zZ u)(sd:(u.single&&wB tr&&tr.okB [(d,1),(r,q.length+1)]&&(d != r))=Ww)(gp:(if q=[]then .same d []else tr.set q.reverse .any)=tr':=by rfl):
  zI Γ E (E.app [(d,Wu u),(r,Wu tr')] [(d,1),(r,q.length+1)]):=by
 simp only[J4]at sd
 rintro a w ⟨S,hS,hs⟩
 have gf:d≠r:=by simpa using sd.2
 have:=zNv hs d [] r q (.same r q) tr u hd rfl hr hg sd.1.1.1 ez gf (by simp[T.okB,zAl,gf]) sd.1.2 rfl sd.1.1.2;subst gp;exact⟨S,hS,this⟩
theorem zI.trf(d:Nat)(g:List Nat)(r:Nat)(q:List Nat)(td tr:T){td':T}(hd:E d=Wu td)(mE:td.get g.reverse=Wu (.same r q))(hr:E r=Wu tr)(hg:tr.get q.reverse=Wu u)(gp:td.set g.reverse u=td')(ez:zZ u)
  (sd:(u.single&&wB td&&wB tr&&td.okB [(d,g.length+1),(r,q.length+1)]&&tr.okB [(d,g.length+1),(r,q.length+1)]&&(d != r))=Ww)(py:(if q=[]then .same d g else tr.set q.reverse .any)=tr':=by rfl):
  zI Γ E (E.app [(d,Wu td'),(r,Wu tr')] [(d,g.length+1),(r,q.length+1)]):=by
 simp only[J4]at sd
 rintro a w ⟨S,hS,hs⟩
 have gf:d≠r:=by simpa using sd.2
 have:=zNv hs d g r q td tr u hd mE hr hg sd.1.1.1.1.1 ez gf sd.1.1.2 sd.1.2 sd.1.1.1.1.2 sd.1.1.1.2;subst gp py;exact⟨S,hS,this⟩
theorem zI.frz(s:Nat){g:α->T}(xs:List α)(hs:E s=Wu (L k f xs))(h:xK f g):zI Γ E (E.app [(s,Wu (.ro (L k g xs)))] [(s,1)]):=by have:=zI.freeze (Γ:=Γ) s _ hs;simp only[vR,strip,tC h.h xs]at this;exact this
theorem zI.res(d r:Nat)(q:List Nat)(tr:T)(hd:E d=Wu (.same r q))(hr:E r=Wu tr)(hg:tr.get q.reverse=Wu (.ro u)):zI Γ E (E.app [(d,Wu (.ro u))] []):=by
 rintro a w ⟨S,hS,gN,G,gc⟩
 refine⟨S,hS,gN,G,?_⟩;have hk:sE [] G w G w:=⟨fun _ _ _=>rfl,fun _ _ _=>rfl,fun _ _ _ _ _ _ h _=>⟨h,rfl⟩,fun _ _ _ h _=>h,fun b cs e h=>⟨cs,h,rfl⟩,by intros;assumption⟩;refine wV gc rfl hk gc.mem (fun s _=>⟨fun n hn=>by simp at hn,rfl⟩) fun s t hs=>?_
 simp only[Wr.find]at hs;split at hs
 ·rename_i e;subst e
  simp at hs;subst hs;obtain⟨h1,h2,_⟩:=gc.ent d _ hd;obtain⟨_,h4,_⟩:=gc.ent r _ hr;simp only[R]at h2;have h5:=(zA3 q.reverse tr _ [] h4 hg).1;simp only[rp,K6,Jh,R]at h5;exact⟨by rw[h1];rfl,by simp only[R];rw[h2];exact h5,by simp[Top]⟩
 ·cases hs
end
theorem zKr:(p:List Nat)-> ∀(t u0 a:T),t.get p=Wu u0->(t.set p a).get p=Wu a
 | [],t,_,a,_=>by cases t<;>cases a<;>rfl
 |i::p,t,u0,a,h=>by
  cases t with
  |sl k xs|agg xs|tup xs=>
   simp only[T.get,T.set]at h ⊢
   cases hx:xs[i]? with
   |none=>rw[hx]at h;cases h
   |some x=>
    rw[hx]at h;have hi:=(Jl.1 hx).1;simp only[];simp only[T.get,Jat hi];exact zKr p x u0 a h
  |ptr t=>
   simp only[T.get,T.set]at h ⊢
   split at h
   ·rename_i e;subst e;simp only[if_true,T.get];exact zKr p t u0 a h
   ·cases h
  |_=>simp[T.get]at h
theorem set_set:(p:List Nat)-> ∀(t u0 a b:T),t.get p=Wu u0->(t.set p a).set p b=t.set p b
 | [],t,_,a,_,_=>by cases t<;>cases a<;>rfl
 |i::p,t,u0,a,b,h=>by
  cases t with
  |sl k xs|agg xs|tup xs=>
   simp only[T.get,T.set]at h ⊢
   cases hx:xs[i]? with
   |none=>rw[hx]at h;cases h
   |some x=>
    rw[hx]at h;have hi:=(Jl.1 hx).1;simp only[];simp only[T.set,Jat hi,List.set_set,set_set p x u0 a b h]
  |ptr t=>
   simp only[T.get,T.set]at h ⊢
   split at h
   ·rename_i e;subst e;simp only[if_true,T.set,set_set p t u0 a b h]
   ·cases h
  |_=>simp[T.get]at h
def qU:T->Bool
 |.sl _ _|.ptr _=>Ww
 |_=>Wx
theorem zSQ{t:T}(h:qU t=Ww)(p:List Nat)(hp:p≠[]):qU (t.set p u)=Ww:=by
 cases p with
 |nil=>exact absurd rfl hp
 |cons i p=>cases t<;>simp[qU]at h<;>simp only[T.set]<;>split<;>rfl
theorem uZ{t:T}(h:qU t=Ww)(chg:Chg):t.okB chg=Ww/\wB t=Ww/\t.single=Ww:=by cases t<;>simp[qU]at h<;>simp[T.okB,wB,T.single]
section
variable {P:Program}{Γ:Ctx}{E E':Env}{d:Nat}{ty:TypeId}{ps:String}{af:Array Edge}{gd:Option (Nat×Bool)}
theorem agM{E:Env}(t:T)(h:opT E x=Wu t)(h1:clo E t=u)(h2:zIY E (rw.map (·.2.1)) x t=Ww):zB2 E rw i x u:=.inr ⟨t,h,h1,h2⟩
theorem zF4{E:Env}{s:Nat}(h:E s=Wu u)(hc:zZ u)(hr:wT u=Ww)(hs:u.okTup=Ww:=by rfl)(hm:(i,s,u')∈rw:=by exact List.mem_singleton.2 rfl):zB2 E rw i (.tmp s) u:=.inl ⟨s,u',rfl,hm,h,hc,hs,hr⟩
abbrev vE(E:Env)(ds r:Nat)(q:List Nat)(tr u:T):Env:=E.app [(ds,Wu u),(r,Wu (if q=[]then .same ds []else tr.set q.reverse .any))] [(ds,1),(r,q.length+1)]
theorem zG8{f:FuncId}{xs:List Operand}{res:List T}{tr:T}(i ds r:Nat)(q:List Nat)(gu:kI P f)(hc:FnC P f us res [(i,u')])(hs:E ds=Wu (.same r q))(hr:E r=Wu tr)(hq:tr.get q.reverse=Wu u)
  (ez:zZ u)(ep:zZ u')(_:wT u=Ww)(pC:wT u'=Ww)(gn:wA (vE E ds r q tr u) [(i,ds,u')] 0 xs us)(gz:zAZ res)(gp:tr.set q.reverse u'=tr')
  (sd:(J6 d Γ.N&&(d != ds)&&(d != r)&&(ds != r)&&qU u&&qU u'&&qU tr)=Ww)(hx:xs[i]? =Wu (.tmp ds))(hu:us[i]? =Wu u):
  Ok P Γ ⟨Wu d,.call { callee:=.value (.func f),args:=xs.toArray,argTypes:=ats },ty,ps,af,gd⟩ E ((((vE E ds r q tr u).app (cWr d res [(i,ds,u')]) (vH d [(i,ds,u')]))).app [(r,Wu tr'),(ds,Wu (.same r q))] [(r,q.length+1),(ds,1)]):=by
 simp only[J4]at sd;obtain⟨⟨⟨⟨⟨⟨s1,s2⟩,s3⟩,s4⟩,s5⟩,s6⟩,s7⟩:=sd;have d1:d≠ds:=by simpa using s2
 have d2:d≠r:=by simpa using s3
 have d3:ds≠r:=by simpa using s4
 obtain⟨u1,u2,u3⟩:=uZ s5 [];obtain⟨v1,v2,v3⟩:=uZ s6 [];have mc:cLv u'=1:=by simp[cLv,v3]
 subst gp;intro S
 by_cases az:q=[]
 ·subst az
  have htu:tr=u:=by
   have:tr.get []=Wu tr:=by cases tr<;>rfl
   simp only[Hk]at hq;rw[this]at hq;exact Lr.inj hq
  subst htu;have mX:∀a b:T,a.set [] b=b:=fun a b=>by cases a<;>rfl
  have ai:(vE E ds r [] tr tr) ds=Wu tr:=by simp[vE,Env.app,Wr.find]
  have pW:((vE E ds r [] tr tr).app (cWr d res [(i,ds,u')]) (vH d [(i,ds,u')])) r=Wu (.same ds []):=by
   have h1:(vE E ds r [] tr tr) r=Wu (.same ds []):=by simp[vE,Env.app,Wr.find,d3]
   have h2:(cWr d res [(i,ds,u')]).find r=Wv:=by simp[cWr,Wr.find,d2,d3]
   have h3:(T.same ds []).okB (vH d [(i,ds,u')])=Ww:=by simp[T.okB,zAl,vH,d1,mc]
   simp only[Env.app,h2,h1,h3,if_true]
  have pX:((vE E ds r [] tr tr).app (cWr d res [(i,ds,u')]) (vH d [(i,ds,u')])) ds=Wu u':=by simp[Env.app,Wr.find,cWr,d1]
  have:=zL9 (P:=P) (Γ:=Γ.at S) (E:=E) (o:=⟨Wu d,.call { callee:=.value (.func f),args:=xs.toArray,argTypes:=ats },ty,ps,af,gd⟩) f (.func f) xs ats us res i ds r [] tr tr u' rfl rfl (yK s1) gu rfl hs hr hq u3 ez d3 d2 (uZ s7 _).1 (uZ s7 []).2.1
   (vE E ds r [] tr tr) _ rfl rfl hc gn (.one d1 hx ep v3 pC ai u3 hu) gz (.same ds []) (.same ds []) pW rfl rfl pX ep v3 (by simp[T.okB,zAl]) rfl (uZ s6 _).1 v2
  rw[Hk,mX]at this ⊢
  exact this
 ·have Vj:q.reverse≠[]:=by simpa using az
  have ai:(vE E ds r q tr u) ds=Wu u:=by simp[vE,Env.app,Wr.find]
  have Wh:=zSQ s7 q.reverse (u:=.any) Vj;have pW:((vE E ds r q tr u).app (cWr d res [(i,ds,u')]) (vH d [(i,ds,u')])) r=Wu (tr.set q.reverse .any):=by
   have h1:(vE E ds r q tr u) r=Wu (tr.set q.reverse .any):=by simp[vE,Env.app,Wr.find,d3,az]
   have h2:(cWr d res [(i,ds,u')]).find r=Wv:=by simp[cWr,Wr.find,d2,d3]
   simp[Env.app,h2,h1,(uZ Wh _).1]
  have pX:((vE E ds r q tr u).app (cWr d res [(i,ds,u')]) (vH d [(i,ds,u')])) ds=Wu u':=by simp[Env.app,Wr.find,cWr,d1]
  have:=zL9 (P:=P) (Γ:=Γ.at S) (E:=E) (o:=⟨Wu d,.call { callee:=.value (.func f),args:=xs.toArray,argTypes:=ats },ty,ps,af,gd⟩) f (.func f) xs ats us res i ds r q tr u u' rfl rfl (yK s1) gu rfl hs hr hq u3 ez d3 d2 (uZ s7 _).1 (uZ s7 []).2.1
   (vE E ds r q tr u) _ rfl rfl hc gn (.one d1 hx ep v3 pC ai u3 hu) gz (tr.set q.reverse .any) .any pW (zKr _ _ _ _ hq) rfl pX ep v3 (uZ Wh _).1 (uZ Wh []).2.1 (uZ s6 _).1 v2
  rw[set_set _ _ _ _ _ hq]at this;exact this
theorem zG9{f:FuncId}{xs:List Operand}{res:List T}{xf:Operand}(hf:opT E xf=Wu (.lit (.func (.func f) #[] #[])))(gu:kI P f)(hc:FnC P f us res [])(gn:wA E [] 0 xs us)(gz:zAZ res)(sd:J6 d Γ.N=Ww):
  Ok P Γ ⟨Wu d,.call { callee:=.value xf,args:=xs.toArray,argTypes:=ats },ty,ps,af,gd⟩ E (E.app (cWr d res []) (vH d [])):=
 fun _=>zKk f xf xs ats us res [] rfl rfl (yK sd) gu hf hc gn .nil gz
def zDS(E:Env):List Operand->List T->Prop
 | [],[]=>True
 |x::xs,u::us=>(opT E x=Wu u/\u.flat=Ww)/\zDS E xs us
 |_,_=>False
theorem afN:zDS E [] []:=trivial
theorem afC{xs:List Operand}(h:opT E x=Wu u)(h1:u.flat=Ww)(h2:zDS E xs us):zDS E (x::xs) (u::us):=⟨⟨h,h1⟩,h2⟩
theorem zDS.get:(xs:List Operand)->(us:List T)->zDS E xs us-> ∀(i:Nat) u,us[i]? =Wu u-> ∃x,xs[i]? =Wu x/\opT E x=Wu u/\u.flat=Ww
 | [],[],_,i,u,h=>by simp at h
 |x::xs,v::us,h,i,u,hi=>by
  cases i with
  |zero=>simp at hi;subst hi;exact⟨x,by simp,h.1⟩
  |succ i=>obtain⟨y,h1,h2⟩:=zDS.get xs us h.2 i u (by simpa using hi);exact⟨y,by simpa using h1,h2⟩
 | [],_::_,h,_,_,_=>by simp[zDS]at h
 |_::_,[],h,_,_,_=>by simp[zDS]at h
theorem zWq{f:FuncId}{xs:List Operand}{res:List T}(gu:kI P f)(hc:FnC P f us res [])(ha:zDS E xs us)(gm:xs.length=us.length)(gz:xG res)(fj:yU res=Ww)(sd:J6 d Γ.N=Ww):
  Ok P Γ ⟨Wu d,.call { callee:=.value (.func f),args:=xs.toArray,argTypes:=ats },ty,ps,af,gd⟩ E (E.app (cWr d res []) (vH d [])):=
 zWn gu hc gm (zDS.get _ _ ha) ⟨gz,fj⟩ sd
end
noncomputable def zGg {α:Type} (g:Nat->Option α):Option α:=
 open Classical in if h:∃r,∃n,∀m,n<=m->g m=Wu r then Wu h.choose else Wv
theorem zBQ{α:Type}{g:Nat->Option α}{r:α}(h:zGg g=Wu r):∃n,g n=Wu r:=by
 unfold zGg at h;split at h
 ·rename_i he
  simp at h;obtain⟨n,hn⟩:=he.choose_spec;exact⟨n,by rw[<-h];exact hn n (J9 _)⟩
 ·cases h
theorem zEx{α:Type}{g:Nat->Option α}{r:α}(n:Nat)(h:∀m,n<=m->g m=Wu r):zGg g=Wu r:=by have he:∃r,∃n,∀m,n<=m->g m=Wu r:=⟨r,n,h⟩;unfold zGg;rw[dif_pos he];obtain⟨n',hn'⟩:=he.choose_spec;have h1:=h (max n n') (by omega);have h2:=hn' (max n n') (by omega);rw[h1]at h2;exact h2.symm
section
variable {P:Program}{Γ:Ctx}{ops:Array Oper}{o:Oper}{E:Env}
theorem xN.skipW(hd:o.dst=Wu d)(sd:J6 d Γ.N=Ww)(hw:∀(a:Act)(w:World),qW Γ E a w->Region.wanted o (yielded ops a.tmps)=Wx):xN P Γ ops o E (E.app [(d,Wu (.tup []))] [(d,0)]):=by
 intro a w K Q hs hK;rw[if_neg (by grind)];obtain⟨S,hS,gN,G,gc⟩:=hs;refine hK _ _ ⟨S,hS,by rw[hd];exact gN,G.put d (fun _=>.bool Wx),?_⟩ ?_
 ·rw[hd]
  have hu:(Value.bool Wx).oneCell'=Ww:=rfl;refine wV gc (by simp[Act.put]) (G.put_keep rfl d _) (gc.mem.put rfl d _ fun _=>hu) ?_ ?_
  ·grind[uO,Act.put]
  ·intro s t' hs
   rw[uO]at hs;split at hs
   ·rename_i e;subst e
    simp at hs;subst hs;have gv:=gc.size;have gI:=yK sd;refine⟨?_,by simp[R,RF],by simp[Top,vV]⟩
    grind[Act.put,mkV,kA,undef]
   ·cases hs
 grind[Act.put]
theorem xN.skip2(g:Nat)(b b':Bool)(s:Nat)(hd:o.dst=Wu d)(sd:J6 d Γ.N=Ww)(eY:(b==b')=Wx)(hg:o.guard=Wu (g,b))(eA:(ops[g]?).bind (·.dst)=Wu s)(hb:E s=Wu (.lit (.bool b'))):
  xN P Γ ops o E (E.app [(d,Wu (.tup []))] [(d,0)]):=.skipW hd sd fun a w hs=>by
 simp only[Region.wanted,hg,zHo hs eA hb]
 grind
theorem xN.opE(h:Ok P Γ o E E1)(e:E1=E')(hg:o.guard=Wv:=by rfl):xN P Γ ops o E E':=e▸xN.op h hg
end
def wY(Γ:Ctx)(P:Program)(rs:Array ResultVar)(us res:List T)(rws:List (Nat×T)):Exit->Env->Prop:=fun e E=> ∃E',zI Γ E E'/\yAX P rs us res rws e E'
theorem FnC.of_bodyG{f:FuncId}{res:List T}(hf:P.funcs[f]? =Wu fn)(hb:fn.body=Wu c)(hn:us.length<=fn.ntmps)(ht:vV us)(hr:rws.all (fun x=>decide (x.1<us.length))=Ww)
  (h:∀(Γ:Ctx)(v:Nat->Value),Γ.N=fn.ntmps->CW P Γ (zC1 v (rws.map (·.1))) c (xR (zIC 0 us)) (wY Γ P fn.results us res rws)):FnC P f us res rws:=by
 refine FnC.of_body hf hb hn ht hr fun Γ v hN=>?_
 intro a w Q' hs hp hQ;refine h Γ v hN a w Q' hs hp ?_
 rintro e E a' w' ⟨E',hg,hq⟩ gC cW
 exact hQ e E' a' w' hq (hg a' w' gC) cW
def zWr(t:T):Prop:=zZ t/\wT t=Ww/\strip t=t/\t.okTup=Ww/\zGw t=Ww
def zSR:List T->Prop
 | []=>True
 |x::xs=>zWr x/\zSR xs
theorem Enc.t(h:Enc f)(x:α):zWr (f x):=⟨h.clean x,h.rofree x,h.strip x,h.okTup x,h.rook x⟩
theorem Enc.of{α:Type}{f:α->T}(h:∀x,zWr (f x)):Enc f:=⟨fun x=>(h x).1,fun x=>(h x).2.1,fun x=>(h x).2.2.1,fun x=>(h x).2.2.2.1,fun x=>(h x).2.2.2.2⟩
theorem zN0{xs:List T}(h:zSR xs):zWr (.agg xs):=by
 have key:∀xs:List T,zSR xs->xG xs/\vY xs=Ww/\vA xs=xs/\yU xs=Ww/\zCl xs=Ww:=by
  intro xs
  induction xs with
  |nil=>intro _;exact⟨trivial,rfl,rfl,rfl,rfl⟩
  |cons x xs ih=>
   rintro⟨⟨h1,h2,h3,h4,h5⟩,h⟩
   obtain⟨g1,g2,g3,g4,g5⟩:=ih h;exact⟨⟨h1,g1⟩,by grind[vY],by grind[vA],by grind[yU],by grind[zCl]⟩
 obtain⟨g1,g2,g3,g4,g5⟩:=key xs h;exact⟨xY g1,by grind[wT],by grind[strip],by grind[T.okTup],by grind[zGw]⟩
section
variable {Γ:Ctx}{E:Env}{d:Nat}
def Gh.cut(G:Gh)(d s0 b lo hi:Nat)(v:Value):Gh where
 hd s z:=if s=d then(if z=[]then v else G.hd s0 z)else G.hd s z
 ad s z:=if s=d then G.ad s0 z else G.ad s z
 lb b' o:=if b'=b/\lo<=o/\o<hi then Wu (Ww,d,[])else match G.lb b' o with
  |some (f,s,z)=>if s=s0 then Wu (f,d,z)else Wu (f,s,z)
  |none=>Wv
 ow b':=match G.ow b' with
  |some (s,z)=>if s=s0 then Wu (d,z)else Wu (s,z)
  |none=>Wv
theorem zPg{w:World}(gc:Rep Γ E G tmps w)(hd:d<Γ.N){h cap':Nat}{xs:List T}(er:E s0=Wu (.sl k xs))(gf:s0≠d)(hk:0<k)
  {b cap:Nat}{cs:Array Value}(h1:G.hd s0 []=.slice (Wu ⟨b,o0,Wv⟩) xs.length cap)(h2:w.heap[b]? =Wu (.cells cs e (0,0)))(_h3:xs.length<=cap)(h4:cap<=maxLen)(h5:o0+cap*k<=cs.size)(h6:G.ow b=Wu (s0,[]))
  (h7:∀o,o0+xs.length*k<=o->o<o0+cap*k->G.lb b o=Wu (Ww,s0,[]))(h8:RL Γ.St G w s0 xs [] 0 b o0 k)(hh:h<=xs.length)(hc:h<=cap')(eE:cap'<=cap):
  ∃G',Rep Γ (E.app [(d,Wu (.sl k (xs.take h))),(s0,Wu .any)] [(d,0),(s0,1)]) G' (tmps.setIfInBounds d (.slice (Wu ⟨b,o0,Wv⟩) h cap')) w:=by
 have hm:=gc.mem;obtain⟨e1,_,e3⟩:=gc.ent s0 _ er
 let v:Value:=.slice (Wu ⟨b,o0,Wv⟩) h cap'
 let G':=G.cut d s0 b (o0+h*k) (o0+cap'*k) v
 have gG:=hm.ow b _ h6;have bp:∀o f z i,o0+h*k<=o->o<o0+cap'*k->G.lb b o=Wu (f,s0,z++[i])->h<=i:=by
  intro o f z i cX cC hl;obtain⟨o,rfl⟩:∃o',o=o0+o':=⟨o-o0,by have:o0<=o0+h*k:=Qw _ _;omega⟩
  replace cX:h*k<=o:=by omega
  by_cases ho:o<xs.length*k
  ·have hj:o/k<xs.length:=(Nat.div_lt_iff_lt_mul hk).2 ho
   obtain⟨g1,g2,_⟩:=sY xs [] 0 b o0 k (o/k) xs[o/k] h8 (by simp[hj]);obtain⟨y,hy⟩:=zKb xs[o/k] _ b _ (o%k) g1 (by rw[g2];exact Nat.mod_lt _ hk);rw[Jd,H4,Nat.mul_comm,Nat.div_add_mod,hl]at hy;simp only[Lr.injEq,Jak.injEq]at hy;have:=hy.2.2;have hi:i=o/k:=by have:=congrArg List.getLast? this;simpa using this
   rw[hi];exact(Nat.le_div_iff_mul_le hk).2 cX
  ·have:=h7 (o0+o) (by omega) (by have:=Lp k eE;omega)
   rw[hl]at this;simp at this
 have glb:∀b' o f z,G.lb b' o=Wu (f,s0,z)-> ¬(b'=b/\o0+h*k<=o/\o<o0+cap'*k)->G'.lb b' o=Wu (f,d,z):=fun b' o f z hl hn=>by show(if _ then _ else _)=_;rw[if_neg hn];simp[hl]
 have gow:∀b' z,G.ow b'=Wu (s0,z)->G'.ow b'=Wu (d,z):=fun b' z hl=>by simp[G',Gh.cut,hl]
 have mv:∀i,i<h->zGQ G w G' w s0 [i] d [i]:=fun i hi=>by
  have hn:∀b' o f z,G.lb b' o=Wu (f,s0,z++[i])-> ¬(b'=b/\o0+h*k<=o/\o<o0+cap'*k):=by
   rintro b' o f z hl ⟨rfl,cX,cC⟩
   have:=bp o f z i cX cC hl;omega
  refine⟨⟨fun z=>by simp[G',Gh.cut],fun z _=>by simp[G',Gh.cut],fun b' o f z _ _ hl=>⟨glb _ _ _ _ hl (hn _ _ _ _ hl),rfl⟩,fun b' z _ hl=>gow _ _ hl,fun b' cs' e' hb=>⟨cs',hb,rfl⟩,by intros;assumption⟩,fun b' o _ hl=>⟨glb _ _ _ _ hl (hn b' o Ww [] (by simpa using hl)),rfl⟩,fun b' hl=>gow _ _ hl⟩
 have gA:sE [(d,0),(s0,1)] G w G' w:=by
  refine⟨fun s p ho=>?_,fun s p ho=>?_,fun b' o f s p gZ hl hs=>?_,fun b' s p hl hs=>?_,fun b' cs' e' hb=>⟨cs',hb,rfl⟩,by intros;assumption⟩
  ·have:s≠d:=fun e=>absurd (ho 0 (by simp[e])) (by simp)
   simp[G',Gh.cut,this]
  ·have:s≠d:=fun e=>absurd (ho 0 (by simp[e])) (by simp)
   simp[G',Gh.cut,this]
  ·have eG:s≠s0:=fun e=>hs 1 (by simp[e])
   obtain⟨y,hy⟩:=gZ;have eY:b'≠b:=by
    rintro rfl
    rw[h6]at hy;simp at hy;exact eG hy.1.symm
   refine⟨?_,rfl⟩;show(if _ then _ else _)=_;rw[if_neg (fun hn=>eY hn.1)];simp[hl,eG]
  ·have eG:s≠s0:=fun e=>hs 1 (by simp[e])
   simp[G',Gh.cut,hl,eG]
 have gy:Mem Γ G' w:=by
  refine⟨fun s z=>?_,fun b' o l hl=>?_,fun b' l hl=>?_,hm.st,hm.fr,hm.sz,hm.bk⟩
  ·show(if _ then _ else _:Value).oneCell'=Ww
   split
   ·split
    ·rfl
    ·exact hm.one _ _
   ·exact hm.one _ _
  ·change(if _ then _ else _)=_ at hl
   split at hl
   ·rename_i hn;rw[hn.1];exact gG
   ·cases hg:G.lb b' o with
    |none=>simp[hg]at hl
    |some x=>exact hm.lb b' o x hg
  ·cases hg:G.ow b' with
   |none=>simp[G',Gh.cut,hg]at hl
   |some x=>exact hm.ow b' x hg
 refine⟨G',wV gc (by simp) gA gy ?_ ?_⟩
 ·intro s hs
  have fJ:s≠d:=by rintro rfl;simp[Wr.find]at hs
  have fK:s≠s0:=by rintro rfl;simp[Wr.find,gf.symm]at hs
  exact⟨fun n hn=>by simp at hn;rcases hn with h|h;exact fJ h.1;exact fK h.1,by rw[Jb];simp[fJ.symm]⟩
 ·intro s t' hs
  by_cases eG:s=d
  ·subst eG
   simp[Wr.find]at hs;subst hs;have gm:(xs.take h).length=h:=by simp;omega
   simp only[Top]at e3;have VF:∀ys:List T,xG ys-> ∀n,xG (ys.take n):=by
    intro ys
    induction ys with
    |nil=>intro _ n;simp[xG,xW]
    |cons y ys ih=>intro hy n;cases n with
     |zero=>simp[xG,xW]
     |succ n=>exact⟨hy.1,ih hy.2 n⟩
   refine⟨?_,?_,by simp only[Top];exact VF xs e3 h⟩
   ·rw[Jb]
    simp[gc.size,hd,mkV,G',Gh.cut,v]
   ·simp only[R]
    refine .inr ⟨b,o0,cap',cs,e,by rw[gm];simp[G',Gh.cut,v],h2,by omega,by omega,by have:=Lp k eE;omega,gow b _ h6,fun o cX cC=>?_,?_⟩
    ·rw[gm]at cX
     show(if _ then _ else _)=_;rw[if_pos ⟨rfl,cX,cC⟩]
    ·refine zDL _ [] 0 b o0 fun i x hx=>?_
     rw[H1]at hx;split at hx
     ·rename_i hi
      obtain⟨g1,g2,g3⟩:=sY xs [] 0 b o0 k i x h8 hx;rw[Jd]at g1 g3 ⊢
      refine⟨?_,g2,kL (mv i hi) x (xF.mono (fun _ _=>False.elim) _ (uA xs e3 i x hx)) g3⟩;refine zEr x [i] [i] b _ (fun z=>by simp[G',Gh.cut]) (fun z=>by simp[G',Gh.cut]) (fun b' o z hl=>⟨glb _ _ _ _ hl ?_,rfl⟩) g1
      rintro⟨rfl,cX,cC⟩
      have:=bp o Wx z i cX cC hl;omega
     ·cases hx
  ·have h9:s=s0/\t'=.any:=by
    simp only[Wr.find]at hs;rw[if_neg (fun h=>eG h.symm)]at hs;split at hs
    ·rename_i h;simp at hs;exact⟨h.symm,hs.symm⟩
    ·cases hs
   obtain⟨rfl,rfl⟩:=h9;refine⟨?_,by simp only[R],by simp[Top]⟩;rw[Jb];simp only[Ne.symm eG,if_false,mkV];rw[e1,xH rfl];simp[G',Gh.cut,eG]
theorem zLI{w:World}(gc:Rep Γ E G tmps w)(hd:d<Γ.N)(er:E s0=Wu (.sl k []))(gf:s0≠d)(a:Option Addr):
  ∃G',Rep Γ (E.app [(d,Wu (.sl k [])),(s0,Wu .any)] [(d,0),(s0,1)]) G' (tmps.setIfInBounds d (.slice a 0 0)) w:=by
 obtain⟨e1,_,_⟩:=gc.ent s0 _ er;refine⟨G.put d (fun _=>.slice a 0 0),?_⟩;have hk:sE [(d,0),(s0,1)] G w (G.put d fun _=>.slice a 0 0) w:=by have h0:=G.put_keep (w:=w) (w':=w) rfl d (fun _=>.slice a 0 0);refine⟨fun s p ho=>h0.hd s p (fun n hn=>ho n (by simp at hn ⊢;exact .inl hn)),fun s p ho=>h0.ad s p (fun n hn=>ho n (by simp at hn ⊢;exact .inl hn)),fun b o f s p h1 h2 h3=>h0.lb b o f s p h1 h2 (fun n hn=>h3 n (by simp at hn ⊢;exact .inl hn)),fun b s p h1 h3=>h0.ow b s p h1 (fun n hn=>h3 n (by simp at hn ⊢;exact .inl hn)),h0.blk,by intros;assumption⟩
 refine wV gc (by simp) hk (gc.mem.put rfl d _ (fun _=>rfl)) ?_ ?_
 ·intro s hs
  have fJ:s≠d:=by rintro rfl;simp[Wr.find]at hs
  have fK:s≠s0:=by rintro rfl;simp[Wr.find,gf.symm]at hs
  exact⟨fun n hn=>by simp at hn;rcases hn with h|h;exact fJ h.1;exact fK h.1,by rw[Jb];simp[fJ.symm]⟩
 ·intro s t' hs
  by_cases eG:s=d
  ·subst eG
   simp[Wr.find]at hs;subst hs;refine⟨by rw[Jb];simp[gc.size,hd,mkV,Gh.put],by simp only[R];exact .inl ⟨trivial,a,by simp[Gh.put]⟩,by simp[Top,xG,xW]⟩
  ·have h9:s=s0/\t'=.any:=by
    simp only[Wr.find]at hs;rw[if_neg (fun h=>eG h.symm)]at hs;split at hs
    ·rename_i h;simp at hs;exact⟨h.symm,hs.symm⟩
    ·cases hs
   obtain⟨rfl,rfl⟩:=h9;refine⟨?_,by simp only[R],by simp[Top]⟩;rw[Jb];simp only[Ne.symm eG,if_false,mkV];rw[e1,xH rfl];simp[Gh.put,eG]
end
section
variable {P:Program}{Γ:Ctx}{pn:sG}{E E':Env}{Q:Exit->Env->Prop}{d:Nat}{x y:Operand}{ty:TypeId}{ps:String}{af:Array Edge}{gd:Option (Nat×Bool)}
theorem zSS{α:Type}{t:TypeId}{f:α->T}{xs ys:List α}{mx:Option Operand}(ht:ElT P t e ti k u)(hv:zT xs 0 h=Wu ys)(h0:E s0=Wu (L k f xs))(hy:opT E y=Wu (I h))(hmx:mx=Wv\/ ∃z,mx=Wu z/\opT E z=Wu (I h))(sd:(J6 d Γ.N&&(s0 != d))=Ww):
  Ok P Γ ⟨Wu d,.slice t (.tmp s0) Wv (Wu y) mx,ty,ps,af,gd⟩ E (E.app [(d,Wu (L k f ys)),(s0,Wu .any)] [(d,0),(s0,1)]):=by
 obtain⟨_,cZ,fR,rfl⟩:=uS hv;simp only[J4]at sd;have gf:s0≠d:=by simpa using sd.2
 obtain⟨n,rfl⟩:∃n:Nat,h=n:=⟨h.toNat,by omega⟩;have hn:n<=xs.length:=by omega
 intro S;refine wF.value rfl fun a w G gc=>?_
 obtain⟨e1,e2,_⟩:=gc.ent s0 _ h0;have eF:=(xX gc hy).1;have fp:a.eval (.tmp s0)=G.hd s0 []:=by rw[wH e1,xH rfl]
 have fV:=ht.un;have gK:=ht.info;have gv:=ht.size;have pQ:List.map f ((xs.drop (0:Int).toNat).take ((n:Int).toNat-(0:Int).toNat))=(xs.map f).take n:=by simp[Qa]
 rw[show L k f ((xs.drop (0:Int).toNat).take ((n:Int).toNat-(0:Int).toNat))=.sl k ((xs.map f).take n)by simp only[L,pQ]];have e2':=e2;simp only[R]at e2;rcases e2 with⟨fI,ad,h1⟩|⟨b,o0,cap,cs,e',h1,h2,h3,h4,h5,h6,h7,h8⟩
 ·have eZ:xs=[]:=by simpa using fI
  subst eZ;simp at hn;subst hn;obtain⟨G',gr⟩:=zLI gc (yK sd.1) (k:=k) (by rw[h0];rfl) gf ad;refine⟨_,w,?_,G',by simpa using gr⟩;rcases hmx with rfl|⟨z,rfl,hz⟩
  ·simp[execOp,Instr.sliceAt,Instr.slice,run_underlying fV,fp,h1,eF,sizeOf,typeInfo,gK,Instr.sliceBounds,Instr.sliceBound,asIntOf]
  ·have bu:=(xX gc hz).1
   simp[execOp,Instr.sliceAt,Instr.slice,run_underlying fV,fp,h1,eF,bu,sizeOf,typeInfo,gK,Instr.sliceBounds,Instr.sliceBound,asIntOf]
 ·rw[Jm]at h1 h3
  have cY:n<=cap:=by omega
  have cG:cap=0->n=0:=by omega
  rcases hmx with rfl|⟨z,rfl,hz⟩
  ·obtain⟨G',gr⟩:=zPg gc (yK sd.1) h0 gf ht.pos (by rw[Jm];exact h1) h2 (by rw[Jm];exact h3) h4 h5 h6 h7 h8 (h:=n) (cap':=cap) (by simpa using hn) cY (J9 _)
   refine⟨_,w,?_,G',gr⟩;simp[execOp,Instr.sliceAt,Instr.slice,run_underlying fV,fp,h1,eF,sizeOf,typeInfo,gK,Instr.sliceBounds,Instr.sliceBound,asIntOf,cY,uQ]
  ·have bu:=(xX gc hz).1
   obtain⟨G',gr⟩:=zPg gc (yK sd.1) h0 gf ht.pos (by rw[Jm];exact h1) h2 (by rw[Jm];exact h3) h4 h5 h6 h7 h8 (h:=n) (cap':=n) (by simpa using hn) (J9 _) cY;refine⟨_,w,?_,G',gr⟩;simp[execOp,Instr.sliceAt,Instr.slice,run_underlying fV,fp,h1,eF,bu,sizeOf,typeInfo,gK,Instr.sliceBounds,Instr.sliceBound,asIntOf,cY,uQ]
end
section
variable {P:Program}{Γ:Ctx}{pn:sG}{E E':Env}{Q:Exit->Env->Prop}{d:Nat}{x y:Operand}{ty:TypeId}{ps:String}{af:Array Edge}{gd:Option (Nat×Bool)}{ops:Array Oper}{os:List Oper}
theorem zJm{P:Program}{w:World}{t:TypeId}{a:Option Addr}{n c:Nat}(m:Nat)(h:P.underlying t=Wu (.slice e)):(Op.equalIn (m+1) t (.slice a n c) (.slice Wv 0 0)).run P w=.ok a.isNone w:=by simp only[Op.equalIn,Sem.run_bind,run_underlying h];cases a<;>rfl
theorem RW.isnil{α:Type}{f:α->T}{xs:List α}(hu:P.underlying xt=Wu (.slice e))(hx:uP E x=Wu (r,q,u))(fW:u=.ro (L k f xs)\/u=L k f xs)(sd:J6 d Γ.N=Ww)(hp:pn.ok (Wu d)=Ww)
  (h:∀b,(b=Ww->xs=[])->RW P Γ pn ops os (E.app [(d,Wu (B b))] [(d,0)]) Q):RW P Γ pn ops (⟨Wu d,.binOp .eql xt x (.const (.slice Wv 0 0)) yt,ty,ps,af,Wv⟩::os) E Q:=by
 intro a w Q' hs fY hQ;obtain⟨S,hS,gN,G,gc⟩:=id hs;have fQ:u.single=Ww:=by rcases fW with rfl|rfl<;>rfl
 obtain⟨h1,h2⟩:=qJ gc hx fQ;obtain⟨ad,n,c,h3,h4⟩:∃ad n c,a.eval x=.slice ad n c/\(ad.isNone=Ww->xs=[]):=by
  rcases fW with rfl|rfl
  ·obtain⟨ad,c,g1,_,_,g2⟩:=zCU h1
   refine⟨ad,_,c,by rw[h2,g1],fun hn=>?_⟩;apply Classical.byContradiction;intro gf;obtain⟨b,o',_,_,_,rfl,_⟩:=g2 (by simpa using gf);simp at hn
  ·simp only[R]at h1
   rcases h1 with⟨g1,ad,g2⟩|⟨b,_,cap,cs,e',g1,_⟩
   ·exact⟨ad,0,0,by rw[h2,g2],fun _=>by simpa using g1⟩
   ·exact⟨_,_,_,by rw[h2,g1],fun hn=>by simp at hn⟩
 have gB:(execOp a.eval ⟨Wu d,.binOp .eql xt x (.const (.slice Wv 0 0)) yt,ty,ps,af,Wv⟩).run P w=.ok (.value (.bool ad.isNone)) w:=by have h5:(Op.equalIn 10000 xt (.slice ad n c) (.slice Wv 0 0)).run P w=.ok ad.isNone w:=zJm 9999 hu;have h6:a.eval (.const (.slice Wv 0 0))=.slice Wv 0 0:=rfl;simp[execOp,h3,h6,eqGuard,binOp,zLE,h5]
 simp only[wpL,Region.wanted,if_true];refine .inl ?_;unfold Oper.wp;rw[gB,Oper.upon_value];have fE:=vJ gc rfl (yK sd) (fun _=>.bool ad.isNone) (fun _=>rfl) (B ad.isNone) (.bool ad.isNone) (by simp[mkV,Gh.put]) (by simp[R,Gh.put]) (by simp[Top]);refine h ad.isNone h4 _ w Q' ⟨S,hS,gN,_,fE⟩ ?_ hQ;refine fY.frame hp fun s gC=>?_
 have:d≠s:=fun e=>gC (by rw[e])
 simp[Act.put,Array.getElem?_setIfInBounds_ne this]
theorem zLJ{t:TypeId}(hu:P.underlying t=Wu (.slice e))(hx:opT E x=Wu (.lit (.slice Wv 0 0)))(sd:J6 d Γ.N=Ww):Ok P Γ ⟨Wu d,.call { callee:=.builtin .len,args:=#[x],argTypes:=#[t] },ty,ps,af,gd⟩ E (E.app [(d,Wu (I 0))] [(d,0)]):=by
 intro S;refine zA5 (.int .i64 0) rfl rfl (yK sd) fun a w G gc=>?_
 have h1:=(xX gc hx).1;simp[execOp,resolve,invoke,builtin,h1,Builtin.len_,run_underlying hu,goInt]
theorem zLK{t:TypeId}(hu:P.underlying t=Wu (.slice e))(hx:opT E x=Wu (.lit (.slice Wv 0 0)))(sd:J6 d Γ.N=Ww):Ok P Γ ⟨Wu d,.call { callee:=.builtin .cap,args:=#[x],argTypes:=#[t] },ty,ps,af,gd⟩ E (E.app [(d,Wu (I 0))] [(d,0)]):=by
 intro S;refine zA5 (.int .i64 0) rfl rfl (yK sd) fun a w G gc=>?_
 have h1:=(xX gc hx).1;simp[execOp,resolve,invoke,builtin,h1,Builtin.cap_,run_underlying hu,goInt]
theorem zWs{t:TypeId}(ht:ElT P t e ti k u)(hx:opT E x=Wu (.lit (.slice Wv 0 0)))(hy:opT E y=Wu (I 0))(sd:J6 d Γ.N=Ww):Ok P Γ ⟨Wu d,.slice t x Wv (Wu y) Wv,ty,ps,af,gd⟩ E (E.app [(d,Wu (.sl k []))] [(d,0)]):=by
 intro S;refine wF.value rfl fun a w G gc=>?_
 have h1:=(xX gc hx).1;have h2:=(xX gc hy).1;refine⟨.slice Wv 0 0,w,?_,_,vJ gc rfl (yK sd) (fun _=>.slice Wv 0 0) (fun _=>rfl) (.sl k []) (.slice Wv 0 0) (by simp[mkV,Gh.put]) (by simp[R,Gh.put]) (by simp[Top,xG,xW])⟩;simp[execOp,Instr.sliceAt,Instr.slice,run_underlying ht.un,h1,h2,sizeOf,typeInfo,ht.info,Instr.sliceBounds,Instr.sliceBound,asIntOf]
theorem zI.nil(s k:Nat)(hs:E s=Wu (.lit (.slice Wv 0 0))):zI Γ E (E.app [(s,Wu (.sl k []))] [(s,0)]):=by
 rintro a w ⟨S,hS,gN,G,gc⟩
 refine⟨S,hS,gN,G,?_⟩;have hk:sE [(s,0)] G w G w:=⟨fun _ _ _=>rfl,fun _ _ _=>rfl,fun _ _ _ _ _ _ h _=>⟨h,rfl⟩,fun _ _ _ h _=>h,fun b cs e h=>⟨cs,h,rfl⟩,by intros;assumption⟩;refine wV gc rfl hk gc.mem (fun s' gC=>⟨fun n hn=>?_,rfl⟩) fun s' t gC=>?_
 ·simp at hn
  simp[Wr.find,hn.1]at gC
 ·simp only[Wr.find]at gC
  split at gC
  ·rename_i e;subst e
   simp at gC;subst gC;obtain⟨h1,h2,_⟩:=gc.ent s _ hs;simp only[R]at h2;exact⟨by rw[h1];rfl,by simp only[R];exact .inl ⟨trivial,Wv,h2⟩,by simp[Top,xG,xW]⟩
  ·cases gC
theorem zKs{src dst:TypeId}{ds:TypeDesc}{k k':IntKind}(hs:P.underlying src=Wu ds)(ht:P.underlying dst=Wu (.int k'))(hx:opT E x=Wu (IK k n))(sd:J6 d Γ.N=Ww):
  Ok P Γ ⟨Wu d,.convert src dst x,ty,ps,af,gd⟩ E (E.app [(d,Wu (IK k' (k'.wrap n)))] [(d,0)]):=fun _=>zWa src dst ds x k k' n rfl rfl (yK sd) hs ht hx
theorem zZr{k:IntKind}(hx:opT E x=Wu (IK k m))(hy:opT E y=Wu (IK k n))(sd:J6 d Γ.N=Ww):Ok P Γ ⟨Wu d,.binOp .add xt x y yt,ty,ps,af,gd⟩ E (E.app [(d,Wu (IK k (k.wrap (m+n))))] [(d,0)]):=
 fun _=>tU .add xt yt x y k m n _ rfl rfl (yK sd) hx hy rfl
theorem zZs{k:IntKind}(hx:opT E x=Wu (IK k m))(hy:opT E y=Wu (IK k n))(sd:J6 d Γ.N=Ww):Ok P Γ ⟨Wu d,.binOp .mul xt x y yt,ty,ps,af,gd⟩ E (E.app [(d,Wu (IK k (k.wrap (m*n))))] [(d,0)]):=
 fun _=>tU .mul xt yt x y k m n _ rfl rfl (yK sd) hx hy rfl
theorem zST{k:IntKind}(hx:opT E x=Wu (IK k m))(hy:opT E y=Wu (IK k n))(sd:J6 d Γ.N=Ww):Ok P Γ ⟨Wu d,.binOp .gtr xt x y yt,ty,ps,af,gd⟩ E (E.app [(d,Wu (B (decide (m> n))))] [(d,0)]):=
 fun _=>tU .gtr xt yt x y k m n _ rfl rfl (yK sd) hx hy rfl
def zG0(k:IntKind)(m n:Int):Int:=k.wrap ((BitVec.ofInt k.bits m &&& BitVec.ofInt k.bits n).toNat:Int)
theorem zZt{k:IntKind}(hx:opT E x=Wu (IK k m))(hy:opT E y=Wu (IK k n))(sd:J6 d Γ.N=Ww):Ok P Γ ⟨Wu d,.binOp .and xt x y yt,ty,ps,af,gd⟩ E (E.app [(d,Wu (IK k (zG0 k m n)))] [(d,0)]):=by
 intro S;refine zA5 (.int k (zG0 k m n)) rfl rfl (yK sd) fun a w G gc=>?_
 have h1:=(xX gc hx).1;have h2:=(xX gc hy).1;simp[execOp,h1,h2,eqGuard,binOp,Op.intBits,zG0]
theorem zZu{k k':IntKind}(hn:0<=n)(hx:opT E x=Wu (IK k m))(hy:opT E y=Wu (IK k' n))(sd:J6 d Γ.N=Ww):Ok P Γ ⟨Wu d,.binOp .shr xt x y yt,ty,ps,af,gd⟩ E (E.app [(d,Wu (IK k (m.fdiv (2 ^ (min n.toNat k.bits)))))] [(d,0)]):=by
 intro S;refine zA5 (.int k (m.fdiv (2 ^ (min n.toNat k.bits)))) rfl rfl (yK sd) fun a w G gc=>?_
 have h1:=(xX gc hx).1;have h2:=(xX gc hy).1;have h3:¬n<0:=by omega
 simp[execOp,h1,h2,eqGuard,binOp,Op.shift,h3]
end
abbrev vI(n:Int):Value:=.int .i64 n
section
variable {Γ:Ctx}{E:Env}
theorem zLL{w:World}(gc:Rep Γ E G tmps w){xs us:List Int}(er:E s0=Wu (L 1 I xs))(gm:us.length=xs.length)
  {b cap:Nat}{cs cs':Array Value}(h1:G.hd s0 []=.slice (Wu ⟨b,o0,Wv⟩) xs.length cap)(h2:w.heap[b]? =Wu (.cells cs e (0,0)))(h3:xs.length<=cap)(h4:cap<=maxLen)(h5:o0+cap*1<=cs.size)(h6:G.ow b=Wu (s0,[]))
  (h7:∀o,o0+xs.length*1<=o->o<o0+cap*1->G.lb b o=Wu (Ww,s0,[]))(h8:RL Γ.St G w s0 (xs.map I) [] 0 b o0 1)
  (k1:w'.heap[b]? =Wu (.cells cs' e (0,0)))(k2:cs'.size=cs.size)(k3:∀b',b'≠b->w'.heap[b']? =w.heap[b']?)(k4:w'.heap.size=w.heap.size)(ko:w'.os=w.os)(kq:w'.output=w.output)(k5:∀(i:Nat) u,us[i]? =Wu u->cs'[o0+i]? =Wu (vI u)):
  ∃G',Rep Γ (E.app [(s0,Wu (L 1 I us))] [(s0,1)]) G' tmps w':=by
 have hm:=gc.mem;obtain⟨e1,_,_⟩:=gc.ent s0 _ er;have gG:=hm.ow b _ h6
 let G':Gh:={ G with hd:=fun s z=>if s=s0 then(match z with
  | [i]=>(match us[i]? with
   |some u=>vI u
   |none=>G.hd s0 z)
  |_=>G.hd s0 z)else G.hd s z }
 have hB:Blk w w':=by
  intro b' cs2 e2 hb
  by_cases eY:b'=b
  ·subst eY
   rw[h2]at hb;simp at hb;obtain⟨rfl,rfl⟩:=hb;exact⟨cs',k1,k2⟩
  ·exact⟨cs2,by rw[k3 b' eY];exact hb,rfl⟩
 have gA:sE [(s0,1)] G w G' w':=by
  refine⟨fun s p ho=>?_,fun _ _ _=>rfl,fun b' o f s p gZ hl hs=>⟨hl,?_⟩,fun _ _ _ hl _=>hl,hB,fun b' _ _ ms c _ _ hb=>by
   by_cases eY:b'=b
   ·subst eY;rw[h2]at hb;cases hb
   ·rw[k3 b' eY];exact hb⟩
  ·by_cases h:s=s0
   ·subst h
    have:p=[]:=Jj (by have:=ho 1 (by simp);omega);subst this;simp[G']
   ·simp[G',h]
  ·have eG:s≠s0:=fun e=>hs 1 (by simp[e])
   obtain⟨y,hy⟩:=gZ;have eY:b'≠b:=by
    rintro rfl
    rw[h6]at hy;simp at hy;exact eG hy.1.symm
   simp[yQ,World.cell?,k3 b' eY]
 have gy:Mem Γ G' w':=by
  refine⟨fun s z=>?_,fun b' o l hl=>?_,fun b' l hl=>?_,fun b' x hx=>?_,fun b' h h'=>?_,by rw[k4];exact hm.sz,hm.bk.trans hB ko kq⟩
  ·show(if _ then _ else _:Value).oneCell'=Ww
   split
   ·split
    ·split
     ·rfl
     ·exact hm.one _ _
    ·exact hm.one _ _
   ·exact hm.one _ _
  ·have:=hm.lb b' o l hl;exact⟨by rw[k4];exact this.1,this.2⟩
  ·have:=hm.ow b' l hl;exact⟨by rw[k4];exact this.1,this.2⟩
  ·have:b'≠b:=by rintro rfl;rw[gG.2.2]at hx;cases hx
   rw[k3 b' this];exact hm.st b' x hx
  ·have:b'≠b:=by
    rintro rfl
    rcases gG.2.1 with h0|h0
    ·omega
    ·exact h' h0
   rw[k3 b' this];exact hm.fr b' h h'
 refine⟨G',wV gc rfl gA gy ?_ ?_⟩
 ·intro s hs
  rw[uO]at hs;split at hs
  ·cases hs
  ·rename_i gf
   exact⟨fun n hn=>gf (by simp at hn;exact hn.1.symm),rfl⟩
 ·intro s t' hs
  rw[uO]at hs;split at hs
  ·rename_i he;subst he
   simp at hs;subst hs;refine⟨by rw[e1];simp[mkV,G'],?_,by simp only[Top];exact kH zPe us⟩;simp only[R];refine .inr ⟨b,o0,cap,cs',e,by simp[G',h1,gm],k1,by simp[gm];exact h3,h4,by omega,h6,fun o cX cC=>h7 o (by simpa[gm]using cX) cC,?_⟩;refine zDL _ [] 0 b o0 fun i x hx=>?_
   rw[Jn,Kg]at hx;obtain⟨u,hu,rfl⟩:=hx;have hi:=(Jl.1 hu).1;obtain⟨g1,g2,_⟩:=sY _ [] 0 b o0 1 i (I xs[i]) h8 (by simp[show i<xs.length by omega]);simp only[Jd,Gd,Loc]at g1 ⊢
   refine⟨⟨g1.1,g1.2.1,?_⟩,rfl,by simp[R,G',hu]⟩;have:=k5 i u hu;simp[yQ,World.cell?,k1,this,G',hu]
  ·cases hs
def zGh(P:Program)(Γ:Ctx)(E:Env)(y:Operand)(ys:List Int):Prop:=∀(a:Act)(w:World)(G:Gh),Rep Γ E G a.tmps w-> ∃xa c,a.eval y=.slice xa ys.length c/\
 ∀(n:Nat),n<=ys.length->(Builtin.firstCells 1 n (.slice xa ys.length c)).run P w=.ok ((ys.take n).map vI).toArray w
theorem zCn{w:World}{b o:Nat}{cs:Array Value}{fr:Nat×Nat}(hb:w.heap[b]? =Wu (.cells cs e fr))(ys:List Int)(hv:∀(i:Nat) u,ys[i]? =Wu u->cs[o+i]? =Wu (vI u))(n:Nat)(hn:n<=ys.length)(len cap:Nat):
  (Builtin.firstCells 1 n (.slice (Wu ⟨b,o,Wv⟩) len cap)).run P w=.ok ((ys.take n).map vI).toArray w:=by
 refine run_firstCells_some (P:=P) w 1 n ⟨b,o,Wv⟩ len cap _ (by simp;omega) fun j v hj=>?_
 rw[Jn,Kg]at hj;obtain⟨u,hu,rfl⟩:=hj;rw[H1]at hu;split at hu
 ·rw[uQ]
  have:=hv j u hu;simp[World.cell?,hb,this]
 ·cases hu
theorem zC6{w:World}{a:Option Addr}{c:Nat}:(Builtin.firstCells 1 0 (.slice a 0 c)).run P w=.ok #[] w:=by cases a<;>simp[Builtin.firstCells,loadCells,loadCellsFrom]
theorem zGh.ro{y:Operand}{ys:List Int}(h:uP E y=Wu (r,q,.ro (L 1 I ys))):zGh P Γ E y ys:=fun a w G gc=>by
 obtain⟨h1,h2⟩:=qJ gc h rfl;obtain⟨xa,c,g1,_,_,g2⟩:=zCU h1;rw[Jm]at g1;refine⟨xa,c,by rw[h2,g1],fun n hn=>?_⟩
 by_cases hy:ys=[]
 ·subst hy
  simp at hn;subst hn;simpa using zC6
 ·obtain⟨b,o,cs,e,fr,rfl,g3,g4⟩:=g2 (by simpa using hy)
  refine zCn (gc.mem.st b _ g3) ys (fun i u hu=>?_) n hn _ _;have:=zG4 _ cs o 1 i (I u) g4 (by simp[hu]);simp only[RoC,Gd]at this;exact this.1
theorem zPh{w:World}{s b:Nat}{cs:Array Value}{xs:List Int}{St:Stb}(h2:w.heap[b]? =Wu (.cells cs e (0,0)))(h8:RL St G w s (xs.map I) q 0 b o0 1)(i:Nat)(u:Int)(hu:xs[i]? =Wu u):cs[o0+i]? =Wu (vI u):=by obtain⟨g1,_,g3⟩:=sY _ q 0 b o0 1 i (I u) h8 (by simp[hu]);simp only[Loc,R,Jd,Gd]at g1 g3;have:=g1.2.2;simp only[yQ,World.cell?,h2]at this;simpa[g3]using this
theorem zGh.sub{s:Nat}{tr:T}{xs ys:List Int}(hs:E s=Wu (.sub r q 1 l.toNat h.toNat))(hr:E r=Wu tr)(hg:tr.get q.reverse=Wu (L 1 I xs))(hv:zT xs l h=Wu ys):zGh P Γ E (.tmp s) ys:=fun a w G gc=>by
 obtain⟨k1,k2,k3,rfl⟩:=uS hv;obtain⟨e1,e2,_⟩:=gc.ent s _ hs;obtain⟨_,e4,_⟩:=gc.ent r _ hr;simp only[R]at e2;have h5:=(zA3 q.reverse tr _ [] e4 hg).1;simp only[rp,K6,Jh,R]at h5;have gm:((xs.drop l.toNat).take (h.toNat-l.toNat)).length=h.toNat-l.toNat:=by simp;omega
 rw[gm];have fp:a.eval (.tmp s)=G.hd s []:=by rw[wH e1,xH rfl]
 rcases h5 with⟨g1,ad,g2⟩|⟨b,o0,cap,cs,e,g1,g2,g3,_,_,_,_,g8⟩
 ·have hy:xs=[]:=by simpa using g1
  subst hy;have hl0:l.toNat=0:=by simp at k3;omega
  have aF:h.toNat=0:=by simp at k3;omega
  refine⟨ad,0,by rw[fp,e2,g2,hl0,aF];simp[zBs],fun n hn=>?_⟩;simp[aF]at hn;subst hn;rw[hl0,aF];simpa using zC6
 ·rw[Jm]at g1 g3
  refine⟨if cap=l.toNat then Wu ⟨b,o0,Wv⟩else Wu ⟨b,o0+l.toNat,Wv⟩,cap-l.toNat,by rw[fp,e2,g1];simp only[zBs,H9,uQ,Gd],fun n hn=>?_⟩;split
  ·have:n=0:=by omega
   subst this;simp[Builtin.firstCells,loadCells,loadCellsFrom]
  ·refine zCn g2 _ (fun i u hu=>?_) n (by rw[gm];exact hn) _ _
   rw[H1]at hu;split at hu
   ·rw[Kw]at hu
    rw[H4];exact zPh g2 g8 _ u hu
   ·cases hu
def zC7(Γ:Ctx)(E:Env)(x:Operand)(s0 lo hi:Nat):Prop:=∀(a:Act)(w:World)(G:Gh),Rep Γ E G a.tmps w->a.eval x=zBs (G.hd s0 []) 1 lo hi
theorem zC7.slot{xs:List Int}(h:E s0=Wu (L 1 I xs)):zC7 Γ E (.tmp s0) s0 0 xs.length:=fun a w G gc=>by obtain⟨e1,e2,_⟩:=gc.ent s0 _ h;obtain⟨ad,c,g⟩:=zJW e2;rw[Jm]at g;rw[wH e1,xH rfl,g];simp[zBs];intro;cases ad<;>simp[Addr.add]
theorem zC7.same{s:Nat}{xs:List Int}(hs:E s=Wu (.same s0 []))(h:E s0=Wu (L 1 I xs)):zC7 Γ E (.tmp s) s0 0 xs.length:=fun a w G gc=>by obtain⟨e1,e2,_⟩:=gc.ent s _ hs;have:=zC7.slot h a w G gc;obtain⟨e3,_,_⟩:=gc.ent s0 _ h;simp only[R]at e2;rw[wH e3,xH rfl]at this;rw[wH e1,xH rfl,e2];exact this
theorem zC7.sub{s lo hi:Nat}(hs:E s=Wu (.sub s0 [] 1 lo hi)):zC7 Γ E (.tmp s) s0 lo hi:=fun a w G gc=>by obtain⟨e1,e2,_⟩:=gc.ent s _ hs;simp only[R]at e2;rw[wH e1,xH rfl,e2]
end
theorem zQ3{α:Type}{xs ys:List α}(hv:zT xs l h=Wu ys):l.toNat<=h.toNat:=by have:=uS hv;omega
theorem zQ4{α:Type}{xs ys:List α}(hv:zT xs l h=Wu ys):h.toNat<=xs.length:=by have:=uS hv;omega
theorem zPi(l z:List α)(lo i:Nat)(eg:lo+z.length<=l.length):(l.take lo++z++l.drop (lo+z.length))[i]? =if i<lo then l[i]? else if i<lo+z.length then z[i-lo]? else l[i]?:=by
 have hm:min lo l.length=lo:=by omega
 by_cases c1:i<lo
 ·rw[if_pos c1,Jg,K1 (by simp;omega),H1,if_pos c1]
 ·rw[if_neg c1]
  by_cases c2:i<lo+z.length
  ·rw[if_pos c2,Jg,Ja (by simp;omega),Kv,hm,K1 (by omega)]
  ·rw[if_neg c2,Jg,Ja (by simp;omega),Kv,hm,Ja (by omega),Kw]
   congr 1;omega
def wU(xs:List Int)(lo:Nat)(zs:List Int):List Int:=xs.take lo++zs++xs.drop (lo+zs.length)
theorem zKt{lo hi:Nat}{y:Operand}{ty:TypeId}{ps:String}{af:Array Edge}{gd:Option (Nat×Bool)}{t t2:TypeId}{xs ys:List Int}(ht:ElT P t e ti 1 u)(h0:E s0=Wu (L 1 I xs))(hx:∀S,zC7 (Γ.at S) E x s0 lo hi)(hy:∀S,zGh P (Γ.at S) E y ys)(h1:lo<=hi)(h2:hi<=xs.length)(sd:(J6 d Γ.N&&(s0 != d))=Ww):
  Ok P Γ ⟨Wu d,.call { callee:=.builtin .copy,args:=#[x,y],argTypes:=#[t,t2] },ty,ps,af,gd⟩ E ((E.app [(s0,Wu (L 1 I (wU xs lo (ys.take (hi-lo)))))] [(s0,1)]).app [(d,Wu (I ((min ys.length (hi-lo):Nat):Int)))] [(d,0)]):=by
 simp only[J4]at sd;have gf:s0≠d:=by simpa using sd.2
 intro S;refine wF.value rfl fun a w G gc=>?_
 obtain⟨e1,e2,_⟩:=gc.ent s0 _ h0;obtain⟨xa,c,g1,g2⟩:=hy S a w G gc;have g3:=hx S a w G gc;have fc:min ys.length (hi-lo)<=ys.length:=by omega
 have g4:=g2 _ fc;have ek:ys.take (hi-lo)=ys.take (min ys.length (hi-lo)):=by rw[List.take_eq_take_iff];omega
 rw[ek]
 generalize hn:min ys.length (hi-lo)=n at*
 have pb:(ys.take n).length=n:=by simp;omega
 have gm:(wU xs lo (ys.take n)).length=xs.length:=by simp[wU,pb];omega
 have key:∃w',(Builtin.copy_ #[t,t2] ty #[a.eval x,a.eval y]).run P w=.ok (goInt n) w'/\ ∃G',Rep (Γ.at S) (E.app [(s0,Wu (L 1 I (wU xs lo (ys.take n))))] [(s0,1)]) G' a.tmps w':=by
  have e2':=e2;simp only[R]at e2;rcases e2 with⟨k1,ad,k2⟩|⟨b,o0,cap,cs,e',k1,k2,k3,k4,k5,k6,k7,k8⟩
  ·have eZ:xs=[]:=by simpa using k1
   subst eZ;simp at h2;subst h2;have dS:n=0:=by omega
   subst dS;have eg:lo=0:=by omega
   subst eg;refine⟨w,?_,G,?_⟩
   ·rw[g3,k2,g1]
    cases ad<;>cases xa<;>simp[zBs,Builtin.copy_,run_underlying ht.un,Builtin.lenOf,sizeOf,typeInfo,ht.info,Builtin.firstCells,loadCells,loadCellsFrom,storeCells]
   ·refine wV gc rfl ⟨fun _ _ _=>rfl,fun _ _ _=>rfl,fun _ _ _ _ _ _ h _=>⟨h,rfl⟩,fun _ _ _ h _=>h,fun b cs e h=>⟨cs,h,rfl⟩,by intros;assumption⟩ gc.mem (fun s hs=>⟨fun n hn=>by simp at hn;simp[Wr.find,hn.1]at hs,rfl⟩) fun s t' hs=>?_
    rw[uO]at hs;split at hs
    ·rename_i he;subst he
     simp at hs;subst hs;simpa[wU]using gc.ent s0 _ h0
    ·cases hs
  ·rw[Jm]at k1 k3 k7
   have gv:o0+cap<=cs.size:=by omega
   have gE:=run_storeCells_at P b (o0+lo) e' ((ys.take n).map vI) 0 cs w k2 (by simp;omega) (by intro v hv;obtain⟨u,_,rfl⟩:=Jq.1 hv;rfl);simp only[Jae,Jm]at gE
   generalize gS:w.setRow b (cs.toList.take (o0+lo)++(ys.take n).map vI++cs.toList.drop (o0+lo+(ys.take n).length)).toArray=w' at gE
   have gF:cs.toList.length=cs.size:=Ki ..
   by_cases mK:cap=lo
   ·have dS:n=0:=by omega
    subst dS;refine⟨w,?_,G,?_⟩
    ·rw[g3,k1,g1]
     have g5:(Builtin.firstCells 1 0 (.slice xa ys.length c)).run P w=.ok #[] w:=by simpa using g4
     simp[zBs,Builtin.copy_,run_underlying ht.un,Builtin.lenOf,sizeOf,typeInfo,ht.info,ht.size,show hi-lo=0 by omega,g5,storeCells,mK]
    ·refine wV gc rfl ⟨fun _ _ _=>rfl,fun _ _ _=>rfl,fun _ _ _ _ _ _ h _=>⟨h,rfl⟩,fun _ _ _ h _=>h,fun b cs e h=>⟨cs,h,rfl⟩,by intros;assumption⟩ gc.mem (fun s hs=>⟨fun n hn=>by simp at hn;simp[Wr.find,hn.1]at hs,rfl⟩) fun s t' hs=>?_
     rw[uO]at hs;split at hs
     ·rename_i he;subst he
      simp at hs;subst hs;simpa[wU]using gc.ent s0 _ h0
     ·cases hs
   ·refine⟨w',?_,zLL gc h0 gm k1 k2 k3 k4 k5 k6 k7 k8 (by rw[<-gS];exact setRow_heap w b cs _ e' _ k2) ?_ (fun b' h=>by rw[<-gS];exact setRow_other w b b' _ h) (by rw[<-gS];exact size_setRow w b _) (by rw[<-gS];rfl) (by rw[<-gS];rfl) fun i v hv=>?_⟩
    ·rw[g3,k1,g1]
     have h9:Nat.min ys.length (hi-lo)=n:=hn;simp only[zBs,mK,if_false,H9,uQ,Gd];simp only[Builtin.copy_];rw[Qa]at gE;simp[run_underlying ht.un,Builtin.lenOf,sizeOf,typeInfo,ht.info,ht.size,h9,g4,gE]
    ·simp[pb];omega
    ·rw[wU,zPi _ _ _ _ (by rw[pb];omega)]at hv
     have h11:o0+lo+((ys.take n).map vI).length<=cs.toList.length:=by simp;omega
     have h10:=zPi cs.toList ((ys.take n).map vI) (o0+lo) (o0+i) h11;rw[Jm]at h10;rw[List.getElem?_toArray,h10];have gT:=fun i u hu=>zPh k2 k8 i u hu
     by_cases c1:i<lo
     ·rw[if_pos c1]at hv
      rw[if_pos (by omega)];simpa using gT i v hv
     ·rw[if_neg c1]at hv
      rw[if_neg (by omega)]
      by_cases c2:i<lo+(ys.take n).length
      ·rw[if_pos c2]at hv
       rw[if_pos (by omega),show o0+i-(o0+lo)=i-lo from by omega];rw[Jn,hv];rfl
      ·rw[if_neg c2]at hv
       rw[if_neg (by omega)];simpa using gT i v hv
 obtain⟨w',gB,G',gr⟩:=key;refine⟨_,w',?_,_,vJ gr rfl (yK sd.1) (fun _=>vI n) (fun _=>rfl) (I n) (vI n) (by simp[mkV,Gh.put]) (by simp[R,Gh.put]) (by simp[Top])⟩;simp[execOp,resolve,invoke,builtin,gB,goInt]
theorem zJn{G G':Gh}{s d:Nat}(hd:∀z,G'.hd d z=G.hd s z):(xs:List T)->yU xs=Ww-> ∀(j:Nat),kA G' d (cpF s xs [] j) [] j=kA G s xs [] j
 | [],_,_=>by rfl
 |x::xs,h,j=>by
  simp only[yU,J4]at h;simp only[cpF,kA];have ei:∀ys,x≠.tup ys:=by rintro ys rfl;grind[T.okTup]
  have h1:=zA4 (G:=G) (G':=G') (s:=s) (d:=d) x [j] [j] ei (fun z=>hd _);have h2:∀ys,cpT s x [j]≠.tup ys:=by intro ys;cases x<;>simp[cpT]
  rw[kY _ _ _ _ h2]at h1;rw[h1,zJn hd xs h.2 (j+1)]
section
variable {P:Program}{Γ:Ctx}{E E':Env}{d:Nat}{x y:Operand}{ty:TypeId}{ps:String}{af:Array Edge}{gd:Option (Nat×Bool)}
theorem zYz{s:Nat}(hx:E s=Wu (.tup ts))(sd:(J6 d Γ.N&&yU ts&&(s != d)&&zLm [(d,0)] (cpF s ts [] 0))=Ww):Ok P Γ ⟨Wu d,.move (.tmp s),ty,ps,af,gd⟩ E (E.app [(d,Wu (.tup (cpF s ts [] 0)))] [(d,0)]):=by
 simp only[J4]at sd;obtain⟨⟨⟨s1,s2⟩,s3⟩,s4⟩:=sd;have gf:s≠d:=by grind
 intro S;refine wF.value rfl fun a w G gc=>?_
 obtain⟨h1,h2,_⟩:=gc.ent s _ hx;simp only[R]at h2;have hk:=G.put_keep (w:=w) (w':=w) rfl d (fun z=>G.hd s z);have hz:∀z,(G.put d (fun z=>G.hd s z)).hd d z=G.hd s z:=by grind[Gh.put_self]
 have mq:∀(xs:List T)(j:Nat),vV (cpF s xs [] j):=by
  intro xs
  induction xs with
  |nil=>intro j;simp only[cpF,vV]
  |cons x xs ih=>intro j;simp only[cpF,vV];grind[qH]
 refine⟨mkV G s (.tup ts) [],w,?_,_,vJ gc rfl (yK s1) (fun z=>G.hd s z) (fun z=>gc.mem.one _ _) _ _ (by grind[mkV,zJn])
  (by simp only[R];exact zJU (fun p=>G.put_other _ p gf) ts [] [] 0 (fun z=>hz _) (xW.mono (fun r p hr=>⟨hk.hd r p hr,hk.ad r p hr⟩) _ (by grind[zGR])) h2) (by simp only[Top];grind)⟩
 simp[execOp,wH h1]
end
section
variable (ds r:Nat)
inductive zKu:Env->List (Nat×List Nat)->Env->Prop where
 |nil (E:Env):zKu E [] E
 |cons {E E':Env}{l:List (Nat×List Nat)} (j:Nat) (q:List Nat) (td td' tr tr' u:T) (hd:E ds=Wu td) (hg:td.get [j]=Wu (.same r q)) (hr:E r=Wu tr) (hp:tr.get q.reverse=Wu u) (ez:zZ u)
   (pA:td.set [j] u=td') (cx:tr.set q.reverse .any=tr') (sd:(u.single&&td.okB [(ds,2),(r,q.length+1)]&&tr.okB [(ds,2),(r,q.length+1)]&&wB td&&wB tr&&(ds != r)&& !q.isEmpty)=Ww)
   (h:zKu (E.app [(ds,Wu td'),(r,Wu tr')] [(ds,2),(r,q.length+1)]) l E'):zKu E ((j,q)::l) E'
inductive zEy:Env->List (Nat×List Nat)->Env->Prop where
 |nil (E:Env):zEy E [] E
 |cons {E E':Env}{l:List (Nat×List Nat)} (j:Nat) (q:List Nat) (td td' tr tr' u v0:T) (hd:E ds=Wu td) (hg:td.get [j]=Wu u) (hr:E r=Wu tr) (hp:tr.get q.reverse=Wu v0) (ez:zZ u)
   (pA:td.set [j] .any=td') (cx:tr.set q.reverse u=tr') (sd:(u.single&&v0.single&&td.okB [(r,q.length+1),(ds,2)]&&tr.okB [(r,q.length+1),(ds,2)]&&wB td&&wB tr&&(ds != r)&& !q.isEmpty)=Ww)
   (h:zEy (E.app [(r,Wu tr'),(ds,Wu td')] [(r,q.length+1),(ds,2)]) l E'):zEy E ((j,q)::l) E'
end
theorem zWt{g z:List Nat}(h:g<:+z)(hn:z≠g):g.length<z.length:=by
 have h1:=h.length_le;rcases Jk g.length z.length with h2|h2
 ·exact h2
 ·exact absurd (h.eq_of_length (by omega)).symm hn
theorem zKu.rep{w:World}{l:List (Nat×List Nat)}(h:zKu ds r E l E'):∀{G:Gh},Rep Γ E G tmps w->
  ∃G',Rep Γ E' G' tmps w/\(∀z,G'.hd r z=G.hd r z)/\(∀j,G'.hd ds [j]=G.hd ds [j])/\ ∀x∈l,G.hd ds [x.1]=G.hd r x.2:=by
 induction h with
 |nil E=>intro G hr;exact⟨G,hr,fun _=>rfl,fun _=>rfl,by simp⟩
 |cons j q td td' tr tr' u hd hg hr hp ez pA cx sd _ ih=>
  intro G gc;simp only[J4]at sd;obtain⟨⟨⟨⟨⟨⟨s1,s2⟩,s3⟩,s4⟩,s5⟩,s6⟩,s7⟩:=sd;have gf:ds≠r:=by grind
  have hq:q≠[]:=by grind
  have gW:G.hd ds [j]=G.hd r q:=by have:=(zA3 [j] td _ [] (gc.ent ds td hd).2.1 hg).1;simpa[rp,R]using this
  obtain⟨h1,h2⟩:=zDK gc ds [j] r q td tr u (.same r q) hd (by grind) rfl gW hr hp s1 ez gf (by omega) (by omega) s4 s5;rw[if_neg hq,show([j]:List Nat).reverse=[j]from rfl,pA,cx]at h1;obtain⟨G',g1,g2,g3,g4⟩:=ih (by omega)
  grind
theorem zEy.rep{w:World}{l:List (Nat×List Nat)}(m:Nat)(h:zEy ds r E l E'):(∀x∈l,x.2.length=m)-> ∀{G:Gh},Rep Γ E G tmps w->(∀x∈l,G.hd ds [x.1]=G.hd r x.2)-> ∃G',Rep Γ E' G' tmps w:=by
 induction h with
 |nil E=>grind
 | @cons E E' l j q td td' tr tr' u v0 hd hg hr hp ez pA cx sd _ ih=>
  intro hm G gc jl;simp only[J4]at sd;obtain⟨⟨⟨⟨⟨⟨⟨s1,s1'⟩,s2⟩,s3⟩,s4⟩,s5⟩,s6⟩,s7⟩:=sd;have gf:ds≠r:=by grind
  have hq:q≠[]:=by grind
  obtain⟨h1,h2⟩:=zDK gc r q ds [j] tr td u v0 hr hp s1' (jl (j,q) (by simp)).symm hd (by grind) s1 ez (Ne.symm gf) (by omega) (by omega) s5 s4;rw[if_neg (by simp),show([j]:List Nat).reverse=[j]from rfl,pA,cx]at h1;refine ih (by grind) (by omega) fun x hx=>?_
  have e1:∀z,(G.tr r q ds [j]).hd ds z=G.hd ds z:=by grind
  by_cases hz:q<:+x.2/\x.2≠q
  ·have h3:=zWt hz.1 hz.2
   rw[hm x (by simp[hx]),hm (j,q) (by simp)]at h3;omega
  grind
theorem zGi{G G':Gh}{s:Nat}:(xs ys:List T)->(∀x∈xs,x.single=Ww)->(∀x∈ys,x.single=Ww)->xs.length=ys.length-> ∀(j:Nat),yJ G s xs [] j=yJ G' s ys [] j-> ∀i,i<xs.length->G.hd s [j+i]=G'.hd s [j+i]
 | [],_,_,_,_,_,_,i,hi=>by simp at hi
 |x::xs,[],_,_,hl,_,_,_,_=>by simp at hl
 |x::xs,y::ys,h1,h2,hl,j,h,i,hi=>by
  have v1:∀(G:Gh)(t:T)(p:List Nat),t.single=Ww->vals G s t p=[G.hd s p]:=fun G t p ht=>by cases t<;>simp[T.single]at ht<;>simp[vals]
  simp only[yJ,v1 G x _ (h1 x (by simp)),v1 G' y _ (h2 y (by simp)),Lv,Ul.injEq]at h;cases i with
  |zero=>exact h.1
  |succ i=>
   have:=zGi xs ys (by grind) (by grind) (by grind) (j+1) h.2 i (by grind)
   grind
def zBR:List T->Bool
 | []=>Ww
 |x::xs=>x.single&&zBR xs
theorem zDT:{xs:List T}->zBR xs=Ww-> ∀x∈xs,x.single=Ww
 | [],_,_,h=>by simp at h
 |x::xs,h,y,hy=>by
  simp only[zBR,J4]at h;rcases Je.1 hy with rfl|hy
  ·exact h.1
  ·exact zDT h.2 y hy
theorem zWu{E3:Env}{ty:TypeId}{ps:String}{af:Array Edge}{gd:Option (Nat×Bool)}{f:FuncId}{xs:List Operand}{res:List T}{ts':List T}(i ds r:Nat)(l:List (Nat×List Nat))(m:Nat)(gu:kI P f)(hc:FnC P f us res [(i,.agg ts')])
  (gK:zKu ds r E l E1)(hs:E1 ds=Wu (.agg ts))(ep:zZ (.agg ts'))(pC:wT (.agg ts')=Ww)(gn:wA E1 [(i,ds,.agg ts')] 0 xs us)(gz:zAZ res)
  (fZ:zEy ds r (E1.app (cWr d res [(i,ds,.agg ts')]) (vH d [(i,ds,.agg ts')])) l E3)
  (sd:(J6 d Γ.N&&(d != ds)&&(d != r)&&(ds != r)&&zBR ts&&zBR ts'&&(ts.length==ts'.length)&&(l.all fun x=>x.2.length==m&&J6 x.1 ts.length))=Ww)(hx:xs[i]? =Wu (.tmp ds))(hu:us[i]? =Wu (.agg ts)):
  Ok P Γ ⟨Wu d,.call { callee:=.value (.func f),args:=xs.toArray,argTypes:=ats },ty,ps,af,gd⟩ E E3:=by
 simp only[J4]at sd;obtain⟨⟨⟨⟨⟨⟨⟨s1,s2⟩,s3⟩,s4⟩,s5⟩,s6⟩,s7⟩,s8⟩:=sd;have d1:d≠ds:=by grind
 have d2:d≠r:=by grind
 have d3:ds≠r:=by grind
 have gm:ts.length=ts'.length:=by grind
 have hl:∀x∈l,x.2.length=m/\x.1<ts.length:=fun x hx=>by
  have:=Ka.1 s8 x hx
  simp_all
 intro S a w K Q ⟨gN,G,gc⟩ hK;refine zB3 (xf:=.func f) rfl rfl gu rfl ?_;obtain⟨G1,g1,g2,g3,g4⟩:=gK.rep gc;refine(zHn g1 (yK s1) f xs us res [(i,ds,.agg ts')] hc gn (zHm.one' (u:=.agg ts) d1 hx ep rfl pC hs hu) gz).mono ?_
 rintro e w' ⟨v,rfl,S',G',hS,hk,gr⟩
 have gM:(E1.app (cWr d res [(i,ds,.agg ts')]) (vH d [(i,ds,.agg ts')])) ds=Wu (.agg ts'):=by grind[Env.app,Wr.find,cWr]
 have hv:mkV G' ds (.agg ts') []=mkV G1 ds (.agg ts) []:=by
  have a1:=(gr.ent ds _ gM).1;have a2:=(g1.ent ds _ hs).1
  grind
 simp only[mkV,Value.agg.injEq]at hv;have eU:yJ G' ds ts' [] 0=yJ G1 ds ts [] 0:=by grind
 have tt:=zGi ts' ts (zDT s6) (zDT s5) gm.symm 0 eU;obtain⟨G3,hG3⟩:=fZ.rep m (by grind) gr fun x hx=>by
  have h1:=tt x.1 (by grind);rw[Jd]at h1;have h2:G'.hd r x.2=G1.hd r x.2:=hk.hd r x.2 (fun n hn=>by grind[vH])
  grind
 exact⟨v,rfl,hK _ _ ⟨S',hS,gN,G3,hG3⟩⟩
theorem zLM{s:Nat}{tr t:T}(h:E s=Wu t)(gf:(Ha ds s||Ha r s)=Wx:=by rfl)(hb:t.okB [(ds,1),(r,q.length+1)]=Ww:=by rfl):opT (vE E ds r q tr u) (.tmp s)=Wu t:=by
 have h1:ds≠s:=by rintro rfl;simp at gf
 have h2:r≠s:=by rintro rfl;simp at gf
 simp[opT,vE,Env.app,Wr.find,h1,h2,h,hb]
section
variable {P:Program}{Γ:Ctx}{pn:sG}{E E':Env}{Q Q1:Exit->Env->Prop}{c c1 c2:Code}{ops:Array Oper}{o:Oper}{os:List Oper}{id:Nat}
theorem sR(h:RW P Γ pn ops ops.toList E (yX P Γ pn c Q)):CW P Γ pn (.seq (.region id ops Wx) c) E Q:=CW.seq (CW.region h)
theorem rN(h:CW P Γ pn c E Q):RW P Γ pn ops [] E (yX P Γ pn c Q):=RW.nil h
theorem oP(h:Ok P Γ o E E')(k:RW P Γ pn ops os E' Q)(hg:o.guard=Wv:=by rfl)(hp:pn.ok o.dst=Ww:=by rfl):RW P Γ pn ops (o::os) E Q:=RW.op h k hg hp
def zZv(ops:List Oper):List (List Nat):=(ops.foldl (fun(acc:Array (List Nat)) o=>acc.push ((zB5 o).foldl (fun l m=>m::(acc.getD m [])++l) [])) #[]).toList
theorem CW.lp(body:σ->Option (σ⊕ρ))(en:σ->Env)(Q1:ρ->Exit->Env->Prop){s:σ}{r:ρ}(hg:zI Γ E (en s))(h:∀s x,body s=Wu x->CW P Γ pn c (en s) (wK Γ en Q1 x))(hr:zF body s=Wu r)(hq:∀e E',Q1 r e E'->Q e E'):CW P Γ pn (.loop c) E Q:=
 (CW.mono (CW.loop body en Q1 h hr) hq).ghost hg
end
open Go Go.ChangeShapes
abbrev zLN(w:World):Stb:=fun b=>w.heap[b]?
theorem zQ5{w:World}{a:Addr}{n:Nat}{cs:List Value}(h:w.cells? 0 a n=Wu cs):cs.length=n/\ ∀(i:Nat) v,cs[i]? =Wu v->w.cell? (a.add i)=Wu v:=by
 unfold World.cells? at h;rw[if_pos (K4 _)]at h;refine⟨by simpa using mapM_some_length h,fun i v hv=>?_⟩;have hi:i<n:=by have:=(Jl.1 hv).1;have h2:=mapM_some_length h;rw[Gv]at h2;omega
 rw[<-hv];exact mapM_some_get h i i (by simp[hi])
theorem zPj{w:World}{a:Addr}{v:Value}(h:w.cell? a=Wu v):a.spot=Wv/\ ∃c e fr,w.heap[a.block]? =Wu (.cells c e fr)/\c[a.off]? =Wu v:=by
 simp only[World.cell?]at h;split at h
 ·rename_i c e fr hb
  split at h
  ·cases h
  ·rename_i hs
   exact⟨by cases hq:a.spot with|none=>rfl|some _=>rw[hq]at hs;simp at hs,c,e,fr,hb,h⟩
 ·cases h
theorem zLO{b o m:Nat}:(Addr.mk b o Wv).add m=⟨b,o+m,Wv⟩:=by
 unfold Addr.add;split
 ·rename_i h;subst h;rfl
 ·rfl
theorem zGj{α:Type}{Q:Nat->α->Prop}:∀(n:Nat),(∀i,i<n-> ∃x,Q i x)-> ∃xs:List α,xs.length=n/\ ∀i x,xs[i]? =Wu x->Q i x
 |0,_=>⟨[],rfl,fun i x h=>by simp at h⟩
 |n+1,h=>by
  obtain⟨xs,h1,h2⟩:=zGj n fun i hi=>h i (by omega)
  obtain⟨y,hy⟩:=h n (by omega);refine⟨xs++[y],by simp[h1],fun i x hx=>?_⟩;rw[Km]at hx;split at hx
  ·exact h2 i x hx
  ·rename_i hge
   have:i-xs.length=0:=by have:=(Jl.1 hx).1;simpa using this
   rw[this]at hx;simp at hx;subst hx
   rwa [show i=n from by omega]
theorem zPk{St:Stb}:(xs:List T)-> ∀(cs:Array Value)(o k:Nat),(∀i x,xs[i]? =Wu x->RoC St x cs (o+i*k))->RoL St xs cs o k
 | [],_,_,_,_=>by simp only[RoL]
 |x::xs,cs,o,k,h=>by
  simp only[RoL];refine⟨by simpa using h 0 x rfl,zPk xs cs (o+k) k fun i y hy=>?_⟩;have:=h (i+1) y (by simpa using hy)
  rwa [show o+k+i*k=o+(i+1)*k from by rw[Lo];omega]
section
variable {P:Program}
def RdT(P:Program)(t:TypeId)(k:Nat){α:Type}(f:α->T)(V:α->Prop):Prop:=
 ∀{H:Type}(enc:TypeId×Value->H)(w:World)(fuel:Nat)(cs:List Value)(x:DataW H×List MemPlace),DataW.trod enc P w 0 (fun _=>Ww) Ww fuel t cs=Wu x->
  cs.length=k-> ∃d,V d/\ ∀(A:Array Value)(o:Nat),(∀(i:Nat) v,cs[i]? =Wu v->A[o+i]? =Wu v)->RoC (zLN w) (f d) A o
theorem zZw{t:TypeId}{q:IntKind}(hu:P.underlying t=Wu (.int q)):RdT P t 1 (IK q) (fun n=>(Lit.int q n).wf=Ww):=by intro H enc w fuel cs x h _;obtain⟨n,rfl,_,hw⟩:=DataW.trod_int hu h;exact⟨n,hw,fun A o hA=>by simp only[RoC];exact⟨by simpa using hA 0 _ rfl,rfl⟩⟩
theorem yBl{α:Type}{f:α->T}{V:α->Prop}{t:TypeId}(hu:P.underlying t=Wu (.slice e))(hk:P.cellsOf e=k)(fd:0<k)(h:RdT P e k f V):
  RdT P t 1 (L k f) (fun xs=>xs.length<=maxLen/\ ∀x∈xs,V x):=by
 intro H enc w fuel cs x hx _;rcases DataW.trod_slice hu hx with⟨rfl,_⟩|⟨a,len,cap,elems,rest,n,rfl,rfl,_,_,fR,mK,hel,ck,_⟩
 ·refine⟨[],⟨by simp,by simp⟩,fun A o hA=>?_⟩
  simp only[RoC,Jai,Kh];exact⟨Wv,0,by simpa using hA 0 _ rfl,J9 _,by simp[maxLen],fun h=>absurd rfl h⟩
 ·subst hk
  have key:∀i,i<len-> ∃y,V y/\ ∃cs':List Value,cs'.length=P.cellsOf e/\(∀(j:Nat) v,cs'[j]? =Wu v->w.cell? ((a.add (i*P.cellsOf e)).add j)=Wu v)/\
    ∀(A:Array Value)(o:Nat),(∀(j:Nat) v,cs'[j]? =Wu v->A[o+j]? =Wu v)->RoC (zLN w) (f y) A o:=by
   intro i hi;have h1:=ck i hi;rw[J3 (by omega)]at h1;obtain⟨cs',h2,h3⟩:=Q9.1 h1;obtain⟨h4,h5⟩:=zQ5 h2;obtain⟨y,h6,h7⟩:=h enc w n cs' _ h3 h4;exact⟨y,h6,cs',h4,h5,h7⟩
  obtain⟨xs,hxl,eZ⟩:=zGj len key;refine⟨xs,⟨by omega,fun y hy=>?_⟩,fun A o hA=>?_⟩
  ·obtain⟨i,hi,rfl⟩:=Hy.1 hy
   exact(eZ i _ (J3 hi)).1
  ·simp only[RoC,Jm,hxl]
   refine⟨Wu a,cap,by simpa using hA 0 _ rfl,fR,mK,fun gf=>?_⟩;have pL:0<xs.length:=by
    cases xs with
    |nil=>simp at gf
    |cons _ _=>simp
   obtain⟨_,cs0,g1,g2,_⟩:=eZ 0 _ (J3 pL);have hz:a.add (0*P.cellsOf e)=a:=by simp[Addr.add]
   have g3:=g2 0 cs0[0] (J3 (by omega));rw[hz,show a.add 0=a from by simp[Addr.add]]at g3;obtain⟨mu,c,e',fr,hb,_⟩:=zPj g3;obtain⟨b,off,sp⟩:=a;simp only at mu hb;subst mu;refine⟨b,off,c,e',fr,rfl,hb,zPk _ _ _ _ fun i y hy=>?_⟩;rw[Jn,Kg]at hy;obtain⟨z,bu,rfl⟩:=hy;obtain⟨_,cs',g1',g2',g4⟩:=eZ i z bu;refine g4 c _ fun j v hv=>?_
   have:=g2' j v hv;rw[zLO,zLO]at this;obtain⟨_,c2,e2,fr2,cH,eU⟩:=zPj this;simp only at cH eU;rw[hb]at cH;cases cH;exact eU
theorem zPl{H:Type}{enc:TypeId×Value->H}{w:World}{t:TypeId}{fs:Array Field}{fuel:Nat}{cs:List Value}{x:DataW H×List MemPlace}(hu:P.underlying t=Wu (.struct fs))(h:DataW.trod enc P w 0 (fun _=>Ww) Ww fuel t cs=Wu x)
  {f:Field}(hf:fs[i]? =Wu f)(hj:f.offset=j)(hk:P.cellsOf f.type=k):∃n y,DataW.trod enc P w 0 (fun _=>Ww) Ww n f.type ((cs.drop j).take k)=Wu y:=by
 obtain⟨xs,n,_,_,_,gm,ck⟩:=DataW.trod_struct hu h;have hi:i<xs.length:=by rw[gm];exact(L2.1 hf).1
 have:=ck i f hf;rw[hj,hk,J3 hi]at this;exact⟨n,_,this⟩
end
def zQ6(v:Value):Value:=if v.oneCell' then v else .bool Wx
theorem zLP(v:Value):(zQ6 v).oneCell'=Ww:=by unfold zQ6;split;assumption;rfl
theorem zPm{v:Value}(h:v.oneCell'=Ww):zQ6 v=v:=by simp[zQ6,h]
def hd0(vs:Array Value)(s:Nat)(p:List Nat):Value:=
 match vs[s]?,p with
 |some (.agg cs),[j]=>zQ6 (cs[j]?.getD (.bool Wx))
 |some v,[]=>zQ6 v
 |_,_=>.bool Wx
def G0(vs:Array Value):Gh:={ hd:=hd0 vs,ad:=fun _ _=>default,lb:=fun _ _=>Wv,ow:=fun _=>Wv }
theorem yDp(w:World)(vs:Array Value):Mem ⟨zLN w,fun _=>False,w,0⟩ (G0 vs) w where
 one s p:=by
  simp only[G0,hd0];split
  ·exact zLP _
  ·exact zLP _
  ·rfl
 lb b o l h:=by simp[G0]at h
 ow b l h:=by simp[G0]at h
 st b x h:=h
 fr b _ _:=rfl
 sz:=J9 _
 bk:=⟨fun b cs e h=>⟨cs,h,rfl⟩,rfl,rfl⟩
def RdA(P:Program)(t:TypeId){α:Type}(u:α->T)(V:α->Prop):Prop:=
 ∀{H:Type}(enc:TypeId×Value->H)(w:World)(base fuel:Nat)(v:Value)(x:DataW H×List MemPlace),DataW.trod enc P w 0 (fun _=>Ww) Ww fuel t v.cells.toList=Wu x->
  Value.okWide P w .any base t v-> ∃d,V d/\ ∀(vs:Array Value)(s:Nat),vs[s]? =Wu v->Wu v=Wu (mkV (G0 vs) s (u d) [])/\R (zLN w) (G0 vs) w s (u d) []
def RdC(P:Program)(t:TypeId){α:Type}(u:α->T)(V:α->Prop):Prop:=
 ∀{H:Type}(enc:TypeId×Value->H)(w:World)(fuel:Nat)(c:Value)(x:DataW H×List MemPlace),DataW.trod enc P w 0 (fun _=>Ww) Ww fuel t [c]=Wu x->
  ∃d,V d/\c.oneCell'=Ww/\ ∀(G:Gh)(s:Nat)(p:List Nat),G.hd s p=c->vals G s (u d) p=[c]/\R (zLN w) G w s (u d) p
section
variable {P:Program}
theorem zSU{t:TypeId}{q:IntKind}(hu:P.underlying t=Wu (.int q)):RdC P t (IK q) (fun n=>(Lit.int q n).wf=Ww):=by intro H enc w fuel c x h;obtain⟨n,h1,_,hw⟩:=DataW.trod_int hu h;simp only[Ul.injEq,and_true]at h1;subst h1;exact⟨n,hw,rfl,fun G s p hp=>⟨by simp only[vals,hp],by simp only[R,hp]⟩⟩
theorem yBm{α:Type}{f:α->T}{V:α->Prop}{t:TypeId}(h:RdT P t 1 f V)(h1:∀{H:Type}(enc:TypeId×Value->H)(w:World)(fuel:Nat)(c:Value)(x:DataW H×List MemPlace),DataW.trod enc P w 0 (fun _=>Ww) Ww fuel t [c]=Wu x->c.oneCell'=Ww):
  RdC P t (fun x=>T.ro (f x)) V:=by
 intro H enc w fuel c x hx;obtain⟨d,g1,g2⟩:=h enc w fuel [c] x hx rfl;refine⟨d,g1,h1 enc w fuel c x hx,fun G s p hp=>⟨by simp only[vals,hp],?_⟩⟩;simp only[R,hp];exact g2 _ _ fun i v hv=>by
  cases i with
  |zero=>simpa using hv
  |succ i=>simp at hv
theorem yDq{α:Type}{f:α->T}{V:α->Prop}{t:TypeId}(hu:P.underlying t=Wu (.slice e))(hk:P.cellsOf e=k)(fd:0<k)(h:RdT P e k f V):RdC P t (fun xs=>T.ro (L k f xs)) (fun xs=>xs.length<=maxLen/\ ∀x∈xs,V x):=
 yBm (yBl hu hk fd h) fun enc w fuel c x hx=>by
  rcases DataW.trod_slice hu hx with⟨h1,_⟩|⟨a,len,cap,_,_,_,_,h1,_⟩<;>
  ·simp only[Ul.injEq,and_true]at h1
   subst h1;rfl
theorem zWv{α:Type}{u:α->T}{V:α->Prop}{t:TypeId}(hs:∀x,(u x).single=Ww/\ ∀G s,mkV G s (u x) []=G.hd s [])(h:RdC P t u V)
  (hv:∀{w:World}{base:Nat}{v:Value},Value.okWide P w .any base t v->v.oneCell'=Ww):RdA P t u V:=by
 intro H enc w base fuel v x hx gD;have h1:v.cells.toList=[v]:=by have:=hv gD;cases v<;>simp_all [Value.oneCell',Value.cells]
 rw[h1]at hx;obtain⟨d,g1,g2,g3⟩:=h enc w fuel v x hx;refine⟨d,g1,fun vs s cJ=>?_⟩;have gL:(G0 vs).hd s []=v:=by simp only[G0,hd0,cJ];cases v<;>first|rfl|simp[Value.oneCell']at g2
 exact⟨by rw[(hs d).2,gL],(g3 _ _ _ gL).2⟩
theorem zID{w:World}{base:Nat}{t:TypeId}{fs:Array Field}{v:Value}(hu:P.underlying t=Wu (.struct fs))(h:Value.okWide P w .any base t v):∃cs,v=.agg cs/\cs.size=P.cellsOf t:=by simp only[Value.okWide,hu]at h;obtain⟨cs,h1,h2,_⟩:=h;exact⟨cs,h1,h2⟩
end
theorem FnC.top{f:FuncId}(h:FnC P f us [B Ww] []){w:World}{vs:Array Value}(gv:vs.size=us.length)
  (ha:∀(i:Nat) u,us[i]? =Wu u->vs[i]? =Wu (mkV (G0 vs) i u [])/\R (zLN w) (G0 vs) w i u []):
  Calls P f vs w fun e w'=>e=.returned (.bool Ww)/\w'.os=w.os/\w'.output=w.output/\w.heap.size<=w'.heap.size/\ ∀b,b<w.heap.size->w'.heap[b]? =w.heap[b]?:=by
 refine(h (zLN w) (fun _=>False) w (G0 vs) vs gv (fun i u hu=>?_) (yDp w vs)).mono fun e w'=>?_
 ·obtain⟨h1,h2⟩:=ha i u hu
  refine⟨?_,h2⟩;rw[h1]
 ·rintro⟨S',G',nd,_,he,hm,mB,hr,_,_⟩
  match nd,mB with
  | [(s,p,t)],mB=>
   simp only[Jr,Jai,Ul.injEq,and_true]at mB;subst mB;have:=(hr (s,p,B Ww) (by simp)).1;simp only[R]at this;exact⟨by rw[he];simp only[zL2,sB,this],hm.bk.os,hm.bk.out,hm.sz,fun b hb=>hm.fr b hb (fun h=>h)⟩
theorem zDB{H:Type}{enc:TypeId×Value->H}{P:Program}(hl:laidOutB P=Ww){W W':World}{sp:Nat->Bool}:∀{ts:List TypeId}{vs:List Value}{ds:List (DataW H)}{ps:List MemPlace},(∀t∈ts,P.readableRec t=Ww/\t<P.types.size)->
  DataW.TrodAll enc P W 0 (fun _=>Ww) Ww ts vs ds ps->(∀p∈ps,W.sameAt W' p)->(∀p∈ps,sp p.block=Ww)->DataW.TrodAll enc P W' 0 sp Ww ts vs ds ps
 | [],[],[],_,_,h,_,_=>h
 |t::ts,v::vs,d::ds,ps,hr,h,h1,h2=>by
  obtain⟨p,q,g1,g2,rfl⟩:=h;exact⟨p,q,Go.WideElems.Trod_stays hl (hr t (by simp)).1 (hr t (by simp)).2 g1 (fun x hx=>h1 x (by simp[hx])) (fun x hx=>h2 x (by simp[hx])),
   zDB hl (fun t' dt=>hr t' (by simp[dt])) g2 (fun x hx=>h1 x (by simp[hx])) (fun x hx=>h2 x (by simp[hx])),rfl⟩
 | [],_::_,_,_,_,h,_,_| [],[],_::_,_,_,h,_,_|_::_,[],_,_,_,h,_,_|_::_,_::_,[],_,_,h,_,_=>h.elim
theorem zN1{C:Checked}{os:Os}(own:ownKnob C.prog.godebug=Wv)(started:os.Started){f:FuncId}(noInit:C.prog.inits.idxOf? f=Wv)(VQ:C.prog.funcs[f]? =Wu fn){H:Type}{enc:TypeId×Value->H}{s:ChangeSpec}{conds:List PathCond}{apart fresh handsOn again:Bool}
  (witness:∃(w:World)(tape:Tape)(i:Input),w.os=os/\(w.forCall tape i).Shaped C.prog/\i.vars=[]/\Input.okWide C.prog (w.forCall tape i) .any w.heap.size f i/\
   s.pre6 enc C.prog fn conds apart (w.forCall tape i).memory i.args/\Assume.holds {} C.prog (lone (Frame.enter C.prog f i.args .normal) [] (w.forCall tape i)))
  (hs:∀(l:List (DataW H)),l.length=fn.params.size->(s.fn H l).results=[.lit (.bool Ww)]/\(s.fn H l).args=l/\(s.fn H l).vars=[])(mS:s.vars=[]){tb:TypeId}(fh:fn.resultTypes= #[tb])(hb:C.prog.underlying tb=Wu .bool)
  (laid:laidOutB C.prog=Ww)(dA:fn.params.toList.all (fun t=>C.prog.readableRec t&&decide (t<C.prog.types.size))=Ww)
  (law:∀(W:World)(base:Nat)(args:Array Value)(ds:List (DataW H))(p:List MemPlace),(∀(j:Nat) t v,fn.params[j]? =Wu t->args[j]? =Wu v->Value.okWide C.prog W .any base t v)->
   DataW.TrodAll enc C.prog W 0 (fun _=>Ww) Ww fn.params.toList args.toList ds p->
   ∃us:List T,args.size=us.length/\FnC C.prog f us [B Ww] []/\ ∀(i:Nat) u,us[i]? =Wu u->args[i]? =Wu (mkV (G0 args) i u [])/\R (zLN W) (G0 args) W i u []):
  ReturnsInHanded {} C os f .any (s.pre6 enc C.prog fn conds apart) (s.post enc C.prog fn apart fresh handsOn again):=by
 refine returnsInHanded_of_change (C:=C) own started noInit VQ witness ?_;intro W base args ds gs before hval hW _ _;have ah:=hW;obtain⟨p,q,hA,hV,hbq,hfz,mB⟩:=hW;obtain⟨us,h1,h2,h3⟩:=law W base args ds p hval hA;have hl:ds.length=fn.params.size:=by
  have:∀{ts:List TypeId}{vs:List Value}{ds:List (DataW H)}{p:List MemPlace},DataW.TrodAll enc C.prog W 0 (fun _=>Ww) Ww ts vs ds p->ds.length=ts.length:=by
   intro ts
   induction ts with
   |nil=>intro vs ds p h;cases vs<;>cases ds<;>first|rfl|exact h.elim
   |cons t ts ih=>intro vs ds p h;cases vs<;>cases ds<;>first|exact h.elim|(obtain⟨_,_,_,g,_⟩:=h;simp[ih g])
  simpa using this hA
 rw[mS]at hV;have hq:gs=[]/\q=[]:=by
  cases gs with
  |nil=>exact⟨rfl,hV⟩
  |cons _ _=>exact hV.elim
 obtain⟨rfl,rfl⟩:=hq;have gI:=ah.lt;refine(h2.top h1 h3).mono fun e w' ⟨he,ho,hq,gv,hh⟩=>⟨_,he,?_⟩
 have gW:∀p∈before,W.sameAt w' p:=fun p hp=>by
  have:=gI p hp;cases p with
  |cell b off=>simp only[World.sameAt,World.cell?,hh b this]
  |map b=>exact hh b this
 obtain⟨k1,k2,k3⟩:=hs ds hl;have hbp:before=p:=by simpa using hbq
 subst hbp;have gJ:∀t∈fn.params.toList,C.prog.readableRec t=Ww/\t<C.prog.types.size:=fun t ht=>by have:=Ka.1 dA t ht;simpa using this
 have gz:∀(b:Nat)(sp:Nat->Bool)(hd:Bool),DataW.TrodAll enc C.prog w' b sp hd fn.resultTypes.toList ((Value.bool Ww).resultList fn.resultTypes.size) (s.fn H (ds++[])).results []:=fun b sp hd=>by rw[fh,Jh,k1];exact⟨[],[],⟨1,by simp[DataW.trod,hb,Value.cells]⟩,⟨rfl,rfl⟩⟩
 have gn:∀sp:Nat->Bool,(∀p∈before,sp p.block=Ww)->DataW.TrodAll enc C.prog w' 0 sp Ww fn.params.toList args.toList (s.fn H (ds++[])).args before:=fun sp mu=>by rw[Jh,k2];exact zDB laid gJ hA gW mu
 have aV:∀sp:Nat->Bool,DataW.TrodVars enc C.prog w' sp s.vars (s.fn H (ds++[])).vars []:=fun sp=>by rw[mS,Jh,k3];rfl
 have gx:∀p∈before,(fun b=>decide (b<W.heap.size)) p.block=Ww:=fun p hp=>by simpa using gI p hp
 have mg:∀p∈before,∀o,w'.frozen? ⟨p.block,o,Wv⟩=W.frozen? ⟨p.block,o,Wv⟩:=fun p hp o=>by simp only[World.frozen?,hh _ (gI p hp)]
 refine⟨ds,[],before,[],before,[],ah,gz _ _ _,gn _ gx,aV _,⟨ho,hq,fun i hi=>?_⟩,fun _=>⟨fun j t r hj hr=>?_,_,_,([]++before)++[],⟨[]++before,[],trodAll_append (gn _ (fun _ _=>rfl)) (gz _ _ _),aV _,rfl,fun b off hp=>?_,fun ha=>?_⟩,fun p hp _=>?_⟩⟩
 ·rw[hh i hi]
  cases hx:W.heap[i]? with
  |none=>rfl
  |some o=>cases o<;>simp
 ·rw[fh]at hj hr
  match j,hj,hr with
  |0,hj,hr=>
   simp[Value.resultList]at hj hr;subst hj;subst hr;simp[Value.okWide,hb,Cell.okWide,Cell.ok]
 ·have cW:MemPlace.cell b off∈before:=by simpa using hp
  exact(mg _ cW off).trans (hfz b off cW)
 ·have:=mB ha
  simpa using this
 ·simpa using hp
def zAc(hs:List Nat)(E:Env):Prop:=∀s,hs.contains s=Ww-> ∃t,E s=Wu t/\qU t=Ww
def lsS(s:Nat):zB4->Bool->Bool
 | [],b=>b
 |y::l,b=>lsS s l (match y.1.find s with
  |some (Wu t)=>qU t
  |some Wv=>Wx
  |none=>b)
def wrS(hs:List Nat)(X:Stp):Bool:=hs.all fun s=>lsS s X.l Ww
theorem zSV{s:Nat}:∀(l:zB4)(E:Env)(b:Bool),(b=Ww-> ∃t,E s=Wu t/\qU t=Ww)->lsS s l b=Ww-> ∃t,(E.apps l) s=Wu t/\qU t=Ww
 | [],_,_,h,hw=>h hw
 |x::l,E,b,h,hw=>by
  simp only[lsS]at hw;refine zSV l (E.app x.1 x.2) _ (fun hb=>?_) hw;unfold Env.app;cases hf:x.1.find s with
  |some y=>cases y<;>simp_all
  |none=>
   rw[hf]at hb;obtain⟨t,he,ht⟩:=h hb
   grind[uZ]
theorem zAc.apps{hs:List Nat}(l:zB4)(E:Env)(h:zAc hs E)(hw:(hs.all fun s=>lsS s l Ww)=Ww):zAc hs (E.apps l):=fun s gC=>
 zSV l E Ww (fun _=>h s gC) (Ka.1 hw s (by grind))
theorem zAc.runD{hs:List Nat}:∀(l:List (Bool×Stp))(E:Env),zAc hs E->(∀y∈l,wrS hs y.2=Ww)->zAc hs (runD E l)
 | [],_,h,_=>h
 |(b,X)::l,E,h,hw=>by
  simp only[Go.Ab.runD];refine zAc.runD l _ ?_ fun y hy=>hw y (by simp[hy])
  cases b with
  |true=>exact zAc.apps X.l E h (hw (Ww,X) (by simp))
  |false=>exact h
section
variable {P:Program}{Γ:Ctx}{pn:sG}{E E':Env}{Q:Exit->Env->Prop}{ops:Array Oper}{o:Oper}{os:List Oper}{id:Nat}{wr:Wr}{chg:Chg}{hs:List Nat}
def zHz(P:Program)(Γ:Ctx)(pn:sG)(ops:Array Oper)(o:Oper)(E E':Env):Prop:=
 ∀(a:Act)(w:World)(K:Act->World->Prop)(Q:Exit->Act->World->Prop),pn.Hold a->qW Γ E a w->(∀a' w',qW Γ E' a' w'->(∀s,o.dst≠Wu s->a'.tmps[s]? =a.tmps[s]?)->K a' w')->
  if Region.wanted o (yielded ops a.tmps)then o.wp P a w K Q\/(o.asks P a w/\LetsOut Q)else K (a.put o.dst undef) w
def vS(P:Program)(Γ:Ctx)(pn:sG)(hs:List Nat)(ops:Array Oper):List Oper->List Stp->Prop
 | [],[]=>True
 |o::os,X::Xs=>(∀E:Env,E.Has X.rd->zAc hs E->zHz P Γ pn ops o E (E.apps X.l))/\vS P Γ pn hs ops os Xs
 |_,_=>False
theorem vS.get:∀(os:List Oper)(Xs:List Stp),vS P Γ pn hs ops os Xs->os.length=Xs.length/\ ∀(i:Nat)(o:Oper)(X:Stp),os[i]? =Wu o->Xs[i]? =Wu X-> ∀E:Env,E.Has X.rd->zAc hs E->zHz P Γ pn ops o E (E.apps X.l)
 | [],[],_=>by simp
 |o::os,X::Xs,h=>by
  obtain⟨h1,h2⟩:=vS.get os Xs h.2;refine⟨by simp[h1],fun i o' X' ho hX=>?_⟩;cases i with
  |zero=>simp at ho hX;subst ho hX;exact h.1
  |succ i=>exact h2 i o' X' (by simpa using ho) (by simpa using hX)
 | [],_::_,h=>by simp[vS]at h
 |_::_,[],h=>by simp[vS]at h
theorem vS.snoc{X:Stp}:∀(os:List Oper)(Xs:List Stp),vS P Γ pn hs ops os Xs->(∀E:Env,E.Has X.rd->zAc hs E->zHz P Γ pn ops o E (E.apps X.l))->vS P Γ pn hs ops (os++[o]) (Xs++[X])
 | [],[],_,h=>⟨h,trivial⟩
 |_::os,_::Xs,h1,h=>⟨h1.1,vS.snoc os Xs h1.2 h⟩
 | [],_::_,h,_=>by simp[vS]at h
 |_::_,[],h,_=>by simp[vS]at h
theorem sO.snoc{X:Stp}:∀(Xs:List Stp)(E:Env),sO E Xs->(runD E (Xs.map fun y=>(Ww,y))).Has X.rd->sO E (Xs++[X])
 | [],_,_,h=>⟨by grind[runD],trivial⟩
 |_::Xs,_,h1,h=>⟨h1.1,sO.snoc Xs _ h1.2 (by simpa[runD]using h)⟩
theorem zKv{E0:Env}{er:List Nat}{an:List (List Nat)}{Q':Exit->Act->World->Prop}(hf:zAY 0 ops.toList=Ww)(ha:zAu an an ops.toList=Ww)(hp:kG Xs 0 an Xs=Ww)
  (gE:vS P Γ pn er ops ops.toList Xs)(hI:zAc er E0)(hw:Xs.all (wrS er)=Ww)(hh:sO E0 Xs)(dI:ops.toList.all (fun o=>pn.ok o.dst)=Ww)(hQ:∀a' w',qW Γ (runD E0 (Xs.map fun y=>(Ww,y))) a' w'->pn.Hold a'->Q' .normal a' w'):
  ∀(fuel:Nat)(L:List Bool)(a:Act)(w:World),L.length=ops.size->L.count Wx=fuel->zSG ops L->qW Γ (runD E0 (L.zip Xs)) a w->pn.Hold a->wpAny P .any ops Q' fuel L.toArray a w:=by
 obtain⟨gm,cw⟩:=vS.get _ _ gE;have bl:Xs.length=ops.size:=by grind
 intro fuel
 induction fuel with
 |zero=>
  intro L a w hL mH gF hs fY;have cu:∀b∈L,b=Ww:=by grind
  have Wo:L=J0 ops.size Ww:=by rw[<-hL];exact List.eq_replicate_iff.2 ⟨rfl,cu⟩
  refine⟨?_,?_⟩
  ·apply List.eq_nil_iff_forall_not_mem.2
   intro j hj;obtain⟨h1,o,ho,_⟩:=mem_ready.1 hj;have gI:=(L2.1 ho).1;rw[Wo]at h1;simp[gI]at h1
  ·refine hQ a w ?_ fY
   have:L.zip Xs=Xs.map fun y=>(Ww,y):=by
    rw[Wo,<-bl]
    clear hs hL Wo cu mH gF gE hw hh hp gm bl cw hQ
    induction Xs with
    |nil=>rfl
    |cons X Xs ih=>simp[Jw,ih]
   grind
 |succ fuel ih=>
  intro L a w hL mH gF hs fY;refine⟨fun hr=>?_,fun i hi=>?_⟩
  ·
   exfalso
   have cE:∃m:Nat,L[m]? =Wu Wx:=by
    have:Wx∈L:=by grind
    grind[U2]
   obtain⟨m,hm,fc⟩:=zCm cE;have hmlt:=(Jl.1 hm).1;have ir:ops[m]? =Wu ops[m]:=by simp
   have:m∈Region.ready .any ops L.toArray:=by
    refine mem_ready.2 ⟨by simp_all,ops[m],ir,fun e he hb=>?_⟩;have hpm:e.on∈zB5 ops[m]:=by
     simp only[zB5,Jq,Jam]
     grind
    have gI:=zG6 ops.toList 0 m _ hf (by simp) _ hpm;rw[Jd]at gI;cases hL1:L[e.on]? with
    |none=>grind
    |some b=>
     cases b with
     |false=>grind
     |true=>simp_all
   grind
  ·obtain⟨h1,o,ho,cu⟩:=mem_ready.1 hi
   have gI:=(L2.1 ho).1;have hLi:L[i]? =Wu Wx:=by simp_all
   have fm:∀m∈zB5 o,L[m]? =Wu Ww:=by
    intro m hm;simp only[zB5,Jq,Jam]at hm;obtain⟨e,⟨he,hb⟩,rfl⟩:=hm;have:=cu e (by grind) hb;cases hL1:L[e.on]? with
    |none=>grind
    |some b=>simp_all
   have hanc:=zHs hf ha gF i i (J9 _) o ho fm;have aH:Xs[i]? =Wu Xs[i]:=by simp
   generalize hXe:Xs[i]=X at aH
   have dY:∀(j:Nat)(Y:Stp),Xs[j]? =Wu Y->i<j->L[j]? =Wu Ww->X.apart Y=Ww:=by
    intro j Y hY gQ hj;rcases zFy Xs Xs 0 an j Y hp hY i X (by omega) aH with h|h
    ·have hjlt:=(Jl.1 hY).1
     have bf:ops[j]? =Wu ops[j]:=by simp
     have:=zHs hf ha gF j j (J9 _) _ bf (gF j _ bf hj) i h
     grind
    ·exact h
   have tx:∀(j:Nat)(Y:Stp),Xs[j]? =Wu Y->j<i->L[j]? =Wu Wx->Y.apart X=Ww:=by grind[zFy]
   have mw:∀y∈(L.take i).zip (Xs.take i),∃j:Nat,j<i/\L[j]? =Wu y.1/\Xs[j]? =Wu y.2:=by
    intro y hy;obtain⟨j,g1,g2⟩:=zKn hy;rw[H1]at g1 g2
    grind
   have ba:∀y∈(L.drop (i+1)).zip (Xs.drop (i+1)),∃j:Nat,i<j/\L[j]? =Wu y.1/\Xs[j]? =Wu y.2:=by
    intro y hy;obtain⟨j,g1,g2⟩:=zKn hy;rw[Kw]at g1 g2
    grind
   have mu:=zJg hLi aH;have VN:(runD E0 (L.zip Xs)).Has X.rd:=by
    rw[mu,zAa];simp only[runD,Hg,if_false];have h0:=sO.get Xs E0 hh i X aH;refine h0.of fun s t gE er=>?_
    have jl:s∈X.rd.map (·.1):=by grind
    refine zJf _ _ (fun y hy hb=>?_) ?_
    ·obtain⟨j,g1,g2,g3⟩:=ba y hy
     have:=Stp.apart_spec (dY j y.2 g3 g1 (by rw[g2,hb]));exact⟨by grind,by grind⟩
    ·have bi:((L.take i).zip (Xs.take i)).map (fun y=>(Ww,y.2))=(Xs.take i).map fun y=>(Ww,y):=by
      have dZ:(L.take i).length=(Xs.take i).length:=by simp;omega
      rw[show(fun y:Bool×Stp=>(Ww,y.2))=(fun y=>(Ww,y))∘Prod.snd from rfl,<-Q5,List.map_snd_zip (by omega)]
     refine zJe _ E0 E0 (fun y hy hb gC=>?_) (fun _ h=>h) t (by grind);obtain⟨j,g1,g2,g3⟩:=mw y hy;have:=Stp.apart_spec (tx j y.2 g3 g1 (by rw[g2,hb]))
     grind
   have hnext:runD E0 ((L.set i Ww).zip Xs)=(runD E0 (L.zip Xs)).apps X.l:=by
    have hLs:(L.set i Ww)[i]? =Wu Ww:=by grind
    rw[zJg hLs aH,mu,zAa,zAa];simp only[runD,if_true,Hg,if_false,List.take_set_of_le (J9 i),List.drop_set_of_lt (Nat.lt_succ_self i)];refine zFx _ X _ fun y hy hb=>?_
    obtain⟨j,g1,g2,g3⟩:=ba y hy;exact(Stp.apart_spec (by grind)).1
   have jj:=cw i o X (by grind) aH _ VN (zAc.runD (L.zip Xs) E0 hI fun y hy=>Ka.1 hw _ (by obtain⟨j,_,g⟩:=zKn hy;grind));unfold wpOp;simp only[ho];refine jj a w _ Q' fY hs fun a' w' gC mg=>?_
   rw[List.setIfInBounds_toArray];have gD:pn.ok o.dst=Ww:=by grind
   refine ih (L.set i Ww) a' w' (by simp[hL]) (by grind) ?_ (by grind) (fY.frame gD mg);intro k ok hk hkt m hm
   by_cases hki:k=i
   ·subst hki
    rw[ho]at hk;simp at hk;subst hk;rw[List.getElem?_set];split
    ·grind
    grind
   ·rw[List.getElem?_set_ne (Ne.symm hki)]at hkt
    rw[List.getElem?_set];split
    ·grind
    ·exact gF k ok hk hkt m hm
theorem CW.drawnI{er:List Nat}{id:Nat}{E:Env}{Q:Exit->Env->Prop}(Xs:List Stp)(an:List (List Nat))(hm:P.follows .mixedOrders=Ww)(gE:vS P Γ pn er ops ops.toList Xs)(hI:zAc er E)(hw:Xs.all (wrS er)=Ww)(hh:sO E Xs)
  (hQ:Q .normal (runD E (Xs.map fun y=>(Ww,y))))(hf:zAY 0 ops.toList=Ww:=by rfl)(ha:zAu an an ops.toList=Ww:=by rfl)(hp:kG Xs 0 an Xs=Ww:=by rfl)
  (dI:ops.toList.all (fun o=>pn.ok o.dst)=Ww:=by rfl):CW P Γ pn (.region id ops Ww) E Q:=by
 intro a w Q' hs fY hQ';refine wp_region_any hm ?_;have gC:qW Γ E a { w with drawn:=w.drawn+1 }:=by obtain⟨S,hS,gN,G,hr⟩:=hs;exact⟨S,hS,gN,G,hr.heap rfl⟩
 have:=zKv (P:=P) (Γ:=Γ) (pn:=pn) (E0:=E) (Q':=Q') hf ha hp gE hI hw hh dI (by grind) ops.size (J0 ops.size Wx) a { w with drawn:=w.drawn+1 } (by simp) (by simp)
  (fun i o ho hi=>by
   grind) (by
   have:runD E ((J0 ops.size Wx).zip Xs)=E:=by
    generalize ops.size=n
    clear gE hI hw hh hQ hf ha hp gC
    induction n generalizing Xs with
    |zero=>simp[runD]
    |succ n ih=>
     cases Xs with
     |nil=>simp[runD]
     |cons X Xs=>simpa[Jw,runD]using ih Xs
   grind) fY
 grind
def DK(P:Program)(Γ:Ctx)(pn:sG)(ops:Array Oper)(id:Nat)(hs:List Nat)(E0:Env)(Q:Exit->Env->Prop)(os:List Oper)(E:Env)(acc:List Stp):Prop:=
 ∀don,don++os=ops.toList->vS P Γ pn hs ops don acc.reverse->sO E0 acc.reverse->E=runD E0 (acc.reverse.map fun y=>(Ww,y))->CW P Γ pn (.region id ops Ww) E0 Q
variable {E0:Env}{acc:List Stp}
theorem CW.dk(h:DK P Γ pn ops id [] E Q ops.toList E []):CW P Γ pn (.region id ops Ww) E Q:=h [] rfl trivial trivial rfl
theorem CW.dkS(hs:List Nat)(h:DK P Γ pn ops id hs E Q ops.toList E []):CW P Γ pn (.region id ops Ww) E Q:=h [] rfl trivial trivial rfl
theorem dGP(rd:List (Nat×T))(l:zB4)(gJ:E.Has rd)(gE:∀E':Env,E'.Has rd->zAc hs E'->zHz P Γ pn ops o E' (E'.apps l))(k:DK P Γ pn ops id hs E0 Q os (E.apps l) (⟨rd,l⟩::acc)):DK P Γ pn ops id hs E0 Q (o::os) E acc:=by
 intro don hd hso hh hE;subst hE;have hr:=fun X=>Ly (a:=X) (as:=acc)
 refine k (don++[o]) (by simp[hd]) ?_ ?_ ?_
 ·grind[vS.snoc]
 ·grind[sO.snoc]
 ·rw[hr,Lq,zAa];rfl
theorem dGS(rd:List (Nat×T))(l:zB4)(gJ:E.Has rd)(gE:∀E':Env,E'.Has rd->zAc hs E'->xN P Γ ops o E' (E'.apps l))(k:DK P Γ pn ops id hs E0 Q os (E.apps l) (⟨rd,l⟩::acc)):DK P Γ pn ops id hs E0 Q (o::os) E acc:=
 dGP rd l gJ (fun E' h h' a w K Q _=>gE E' h h' a w K Q) k
theorem dG(rd:List (Nat×T))(l:zB4)(gJ:E.Has rd)(gE:∀E':Env,E'.Has rd->xN P Γ ops o E' (E'.apps l))(k:DK P Γ pn ops id hs E0 Q os (E.apps l) (⟨rd,l⟩::acc)):DK P Γ pn ops id hs E0 Q (o::os) E acc:=
 by grind[dGS]
def zSW(hs:List Nat)(E:Env):Bool:=hs.all fun s=>match E s with
 |some t=>qU t
 |none=>Wx
theorem zSX(h:zSW hs E=Ww):zAc hs E:=by
 intro s gC;have h1:=Ka.1 h s (by grind)
 grind
theorem dN(an:List (List Nat))(hm:P.follows .mixedOrders=Ww)(hQ:Q .normal E)(hf:zAY 0 ops.toList=Ww:=by rfl)(ha:zAu an an ops.toList=Ww:=by rfl)(hp:kG acc.reverse 0 an acc.reverse=Ww:=by rfl)
  (dI:ops.toList.all (fun o=>pn.ok o.dst)=Ww:=by rfl)(aF:zSW hs E0=Ww:=by rfl)(hw:acc.reverse.all (wrS hs)=Ww:=by rfl):DK P Γ pn ops id hs E0 Q [] E acc:=by
 intro don hd gE hh hE
 grind[CW.drawnI,zSX]
end
section
variable {P:Program}{Γ:Ctx}{pn:sG}{E E':Env}{Q:Exit->Env->Prop}{ops:Array Oper}{o:Oper}{os:List Oper}{id d:Nat}{wr:Wr}{chg:Chg}{hs:List Nat}{E0:Env}{acc:List Stp}{x y:Operand}{ty:TypeId}{ps:String}{af:Array Edge}{gd:Option (Nat×Bool)}
class zF5 (P:Program) (t:TypeId) (e:outParam TypeId):Prop where
 h:P.underlying t=Wu (.slice e)
class qX (P:Program) (t:TypeId) (b:outParam Bool) (n:outParam Nat):Prop where
 h:∀u:T,u.single=b->u.size=n->zSK P t u
theorem hE{rd:List (Nat×T)}{s:Nat}{t:T}(h:E.Has rd)(hr:xR rd s=Wu t):E s=Wu t:=h.le s t hr
theorem hO{rd:List (Nat×T)}{t:T}(h:E.Has rd)(hr:opT (xR rd) x=Wu t):opT E x=Wu t:=by
 cases x<;>simp only[opT]at hr ⊢
 ·exact h.le _ _ hr
 all_goals exact hr
mutual
def zDU:T->Bool
 |.ro _|.lit _|.any=>Ww
 |.agg xs|.tup xs=>zGA xs
 |.ptr t=>zDU t
 |.sl _ []=>Ww
 |_=>Wx
def zGA:List T->Bool
 | []=>Ww
 |x::xs=>zDU x&&zGA xs
end
mutual
theorem zDd:{t:T}->zDU t=Ww->zZ t
 |.ro _,_|.lit _,_|.any,_=>by simp[zZ,xF]
 |.agg xs,h|.tup xs,h=>by simp only[zDU]at h;simpa only[zZ,xF]using zH0 h
 |.ptr t,h=>by simp only[zDU]at h;exact wJ (zDd h)
 |.sl _ [],_=>by simp[zZ,xF,xW]
 |.sl _ (_::_),h=>by simp[zDU]at h
 |.same _ _,h|.addr _ _,h|.sub _ _ _ _ _,h=>by simp[zDU]at h
theorem zH0:{xs:List T}->zGA xs=Ww->xG xs
 | [],_=>trivial
 |x::xs,h=>by simp only[zGA,J4]at h;exact⟨zDd h.1,zH0 h.2⟩
end
theorem yBn{α:Type}{t:TypeId}{f:α->T}{xs:List α}{v:α}{i:Int}[ht:zAR P t e ti k](hx:uP E x=Wu (r,q,L k f xs))(hy:opT E y=Wu (I i))(hv:ixO xs i=Wu v)(sd:J6 d Γ.N=Ww):
  Ok P Γ ⟨Wu d,.indexAddr t x y,ty,ps,af,gd⟩ E (E.app [(d,Wu (.addr r (i.toNat::q)))] [(d,0)]):=yAY ht hv hx hy sd
theorem zSY{α:Type}{t:TypeId}{f:α->T}{xs:List α}{v:α}{i:Int}[ht:zAR P t e ti k](hx:uP E x=Wu (r,q,.ro (L k f xs)))(hy:opT E y=Wu (I i))(hv:ixO xs i=Wu v)(sd:J6 d Γ.N=Ww):
  Ok P Γ ⟨Wu d,.indexAddr t x y,ty,ps,af,gd⟩ E (E.app [(d,Wu (.ro (.ptr (f v))))] [(d,0)]):=zYo ht hv hx hy sd
theorem zPn{t:TypeId}{b:Bool}{n:Nat}[i:qX P t b n](hx:opT E x=Wu (.ro (.ptr u)))(h1:u.single=b)(h2:u.size=n)(sd:J6 d Γ.N=Ww):Ok P Γ ⟨Wu d,.load t x,ty,ps,af,gd⟩ E (E.app [(d,Wu (roT u))] [(d,0)]):=yAZ (i.h u h1 h2) hx sd
theorem zSZ{t:TypeId}{tr:T}{b:Bool}{n:Nat}[i:qX P t b n](hx:opT E x=Wu (.addr r q))(hr:E r=Wu tr)(hg:tr.get q.reverse=Wu u)(h1:u.single=b)(h2:u.size=n)(sd:(J6 d Γ.N&&tr.locd q.reverse&&(r != d)&&T.okB [(d,0)] (cpT r u q))=Ww):
  Ok P Γ ⟨Wu d,.load t x,ty,ps,af,gd⟩ E (E.app [(d,Wu (cpT r u q))] [(d,0)]):=yDn (i.h u h1 h2) hx hr hg sd
theorem zLQ{t:TypeId}{tr:T}{b:Bool}{n:Nat}[i:qX P t b n](hx:uP E x=Wu (r,q,.ptr t0))(hr:E r=Wu tr)(hg:tr.get (0::q).reverse=Wu u)(h1:u.single=b)(h2:u.size=n)(sd:(J6 d Γ.N&&tr.locd (0::q).reverse&&(r != d)&&T.okB [(d,0)] (cpT r u (0::q)))=Ww):
  Ok P Γ ⟨Wu d,.load t x,ty,ps,af,gd⟩ E (E.app [(d,Wu (cpT r u (0::q)))] [(d,0)]):=yBj (i.h u h1 h2) hx hr hg sd
theorem zY0{α:Type}{t:TypeId}{f:α->T}{xs:List α}[i:zF5 P t e](hx:uP E x=Wu (r,q,L k f xs))(sd:J6 d Γ.N=Ww):
  Ok P Γ ⟨Wu d,.call { callee:=.builtin .len,args:=#[x],argTypes:=#[t] },ty,ps,af,gd⟩ E (E.app [(d,Wu (I (xs.length:Int)))] [(d,0)]):=zYp i.h hx sd
theorem zN2{α:Type}{t:TypeId}{f:α->T}{xs:List α}[i:zF5 P t e](hx:uP E x=Wu (r,q,.ro (L k f xs)))(sd:J6 d Γ.N=Ww):
  Ok P Γ ⟨Wu d,.call { callee:=.builtin .len,args:=#[x],argTypes:=#[t] },ty,ps,af,gd⟩ E (E.app [(d,Wu (I (xs.length:Int)))] [(d,0)]):=zSJ i.h hx sd
theorem zP(k:RW P Γ pn ops os (E.app wr chg) Q)(h:Ok P Γ o E (E.app wr chg):=by exact zNy rfl rfl)(hg:o.guard=Wv:=by rfl)(hp:pn.ok o.dst=Ww:=by rfl):RW P Γ pn ops (o::os) E Q:=oP h k hg hp
theorem yDr{g s:Nat}{b:Bool}(k:RW P Γ pn ops os (E.app wr chg) Q)(hg:o.guard=Wu (g,b):=by rfl)(eA:(ops[g]?).bind (·.dst)=Wu s:=by rfl)(hb:E s=Wu (.lit (.bool b)):=by rfl)(h:Ok P Γ o E (E.app wr chg):=by exact zNy rfl rfl)(hp:pn.ok o.dst=Ww:=by rfl):RW P Γ pn ops (o::os) E Q:=RW.cons (xN.guard g b s h hg eA hb) k hp
theorem xP(k:RW P Γ pn ops os (E.app wr chg) Q)(h:Ok P Γ o E (E.app wr chg):=by exact zWl rfl rfl)(hg:o.guard=Wv:=by rfl)(hp:pn.ok o.dst=Ww:=by rfl):RW P Γ pn ops (o::os) E Q:=oP h k hg hp
theorem jW(k:RW P Γ pn ops os (E.app wr chg) Q)(h:Ok P Γ o E (E.app wr chg):=by exact zPn rfl rfl rfl rfl)(hg:o.guard=Wv:=by rfl)(hp:pn.ok o.dst=Ww:=by rfl):RW P Γ pn ops (o::os) E Q:=oP h k hg hp
theorem zC8(k:RW P Γ pn ops os (E.app wr chg) Q)(h:Ok P Γ o E (E.app wr chg):=by exact zSY (by first|exact uB rfl rfl|exact jR rfl rfl (by first|rfl|exact zX (by assumption) rfl|exact zX (by assumption) (zX (by assumption) rfl)|exact wD rfl (zX (by assumption) rfl)|exact wC (zX (by assumption) rfl)|exact wC (wD rfl (zX (by assumption) rfl))|exact wC (wD rfl (zX (by assumption) (zX (by assumption) rfl)))) rfl) rfl (by assumption) rfl)(hg:o.guard=Wv:=by rfl)(hp:pn.ok o.dst=Ww:=by rfl):RW P Γ pn ops (o::os) E Q:=oP h k hg hp
theorem qA(k:RW P Γ pn ops os (E.app wr chg) Q)(h:Ok P Γ o E (E.app wr chg):=by exact zN2 (by first|exact uB rfl rfl|exact jR rfl rfl (by first|rfl|exact zX (by assumption) rfl|exact zX (by assumption) (zX (by assumption) rfl)|exact wD rfl (zX (by assumption) rfl)|exact wC (zX (by assumption) rfl)|exact wC (wD rfl (zX (by assumption) rfl))|exact wC (wD rfl (zX (by assumption) (zX (by assumption) rfl)))) rfl) rfl)(hg:o.guard=Wv:=by rfl)(hp:pn.ok o.dst=Ww:=by rfl):RW P Γ pn ops (o::os) E Q:=oP h k hg hp
theorem wZ(k:RW P Γ pn ops os (E.app wr chg) Q)(h:Ok P Γ o E (E.app wr chg):=by exact zSH (by assumption) rfl rfl rfl)(hg:o.guard=Wv:=by rfl)(hp:pn.ok o.dst=Ww:=by rfl):RW P Γ pn ops (o::os) E Q:=oP h k hg hp
theorem sV(k:RW P Γ pn ops os (E.app wr chg) Q)(h:Ok P Γ o E (E.app wr chg):=by exact zYn rfl rfl rfl)(hg:o.guard=Wv:=by rfl)(hp:pn.ok o.dst=Ww:=by rfl):RW P Γ pn ops (o::os) E Q:=oP h k hg hp
theorem zTa(k:RW P Γ pn ops os (E.app wr chg) Q)(h:Ok P Γ o E (E.app wr chg):=by exact zNz rfl rfl rfl)(hg:o.guard=Wv:=by rfl)(hp:pn.ok o.dst=Ww:=by rfl):RW P Γ pn ops (o::os) E Q:=oP h k hg hp
theorem zDV(k:RW P Γ pn ops os (E.app wr chg) Q)(h:Ok P Γ o E (E.app wr chg):=by exact zZn inferInstance (by first|exact uB rfl rfl|exact jR rfl rfl (by first|rfl|exact zX (by assumption) rfl|exact zX (by assumption) (zX (by assumption) rfl)|exact wD rfl (zX (by assumption) rfl)|exact wC (zX (by assumption) rfl)|exact wC (wD rfl (zX (by assumption) rfl))|exact wC (wD rfl (zX (by assumption) (zX (by assumption) rfl)))) rfl) rfl rfl rfl)(hg:o.guard=Wv:=by rfl)(hp:pn.ok o.dst=Ww:=by rfl):RW P Γ pn ops (o::os) E Q:=oP h k hg hp
theorem qB(k:RW P Γ pn ops os (E.app wr chg) Q)(h:Ok P Γ o E (E.app wr chg):=by first|exact zSZ rfl rfl rfl rfl rfl rfl|exact zSZ rfl rfl (by first|rfl|exact zX (by assumption) rfl|exact zX (by assumption) (zX (by assumption) rfl)|exact wD rfl (zX (by assumption) rfl)|exact wC (zX (by assumption) rfl)|exact wC (wD rfl (zX (by assumption) rfl))|exact wC (wD rfl (zX (by assumption) (zX (by assumption) rfl)))) (by rfl) (by rfl) (by rfl))(hg:o.guard=Wv:=by rfl)(hp:pn.ok o.dst=Ww:=by rfl):RW P Γ pn ops (o::os) E Q:=oP h k hg hp
theorem zH1(k:RW P Γ pn ops os (E.app wr chg) Q)(h:Ok P Γ o E (E.app wr chg):=by first|exact zLQ (by first|exact uB rfl rfl|exact jR rfl rfl (by first|rfl|exact zX (by assumption) rfl|exact zX (by assumption) (zX (by assumption) rfl)|exact wD rfl (zX (by assumption) rfl)|exact wC (zX (by assumption) rfl)|exact wC (wD rfl (zX (by assumption) rfl))|exact wC (wD rfl (zX (by assumption) (zX (by assumption) rfl)))) rfl) rfl rfl rfl rfl rfl|exact zLQ (by first|exact uB rfl rfl|exact jR rfl rfl (by first|rfl|exact zX (by assumption) rfl|exact zX (by assumption) (zX (by assumption) rfl)|exact wD rfl (zX (by assumption) rfl)|exact wC (zX (by assumption) rfl)|exact wC (wD rfl (zX (by assumption) rfl))|exact wC (wD rfl (zX (by assumption) (zX (by assumption) rfl)))) rfl) rfl (by first|rfl|exact zX (by assumption) rfl|exact zX (by assumption) (zX (by assumption) rfl)|exact wD rfl (zX (by assumption) rfl)|exact wC (zX (by assumption) rfl)|exact wC (wD rfl (zX (by assumption) rfl))|exact wC (wD rfl (zX (by assumption) (zX (by assumption) rfl)))) (by rfl) (by rfl) (by rfl))(hg:o.guard=Wv:=by rfl)(hp:pn.ok o.dst=Ww:=by rfl):RW P Γ pn ops (o::os) E Q:=oP h k hg hp
theorem zLR(k:RW P Γ pn ops os (E.app wr chg) Q)(h:Ok P Γ o E (E.app wr chg):=by exact zJh (by assumption) rfl rfl rfl)(hg:o.guard=Wv:=by rfl)(hp:pn.ok o.dst=Ww:=by rfl):RW P Γ pn ops (o::os) E Q:=oP h k hg hp
theorem yBo(k:RW P Γ pn ops os (E.app wr chg) Q)(h:Ok P Γ o E (E.app wr chg):=by exact zYu rfl rfl)(hg:o.guard=Wv:=by rfl)(hp:pn.ok o.dst=Ww:=by rfl):RW P Γ pn ops (o::os) E Q:=oP h k hg hp
theorem yBp(k:RW P Γ pn ops os (E.app wr chg) Q)(h:Ok P Γ o E (E.app wr chg):=by exact zPf rfl rfl rfl)(hg:o.guard=Wv:=by rfl)(hp:pn.ok o.dst=Ww:=by rfl):RW P Γ pn ops (o::os) E Q:=oP h k hg hp
theorem zTb(k:RW P Γ pn ops os (E.app wr chg) Q)(h:Ok P Γ o E (E.app wr chg):=by exact zYs rfl rfl rfl)(hg:o.guard=Wv:=by rfl)(hp:pn.ok o.dst=Ww:=by rfl):RW P Γ pn ops (o::os) E Q:=oP h k hg hp
theorem zGk(k:RW P Γ pn ops os (E.app wr chg) Q)(h:Ok P Γ o E (E.app wr chg):=by exact zYr rfl rfl rfl)(hg:o.guard=Wv:=by rfl)(hp:pn.ok o.dst=Ww:=by rfl):RW P Γ pn ops (o::os) E Q:=oP h k hg hp
theorem zH2(k:RW P Γ pn ops os (E.app wr chg) Q)(h:Ok P Γ o E (E.app wr chg):=by exact zSL inferInstance rfl rfl rfl rfl)(hg:o.guard=Wv:=by rfl)(hp:pn.ok o.dst=Ww:=by rfl):RW P Γ pn ops (o::os) E Q:=oP h k hg hp
theorem zAA(k:RW P Γ pn ops os (E.app wr chg) Q)(h:Ok P Γ o E (E.app wr chg):=by first|exact zC4 rfl (zHw rfl) rfl|exact zC4 rfl (isPtr_addr rfl) rfl|exact zC4 rfl (zF2 (by first|exact uB rfl rfl|exact jR rfl rfl (by first|rfl|exact zX (by assumption) rfl|exact zX (by assumption) (zX (by assumption) rfl)|exact wD rfl (zX (by assumption) rfl)|exact wC (zX (by assumption) rfl)|exact wC (wD rfl (zX (by assumption) rfl))|exact wC (wD rfl (zX (by assumption) (zX (by assumption) rfl)))) rfl)) rfl)(hg:o.guard=Wv:=by rfl)(hp:pn.ok o.dst=Ww:=by rfl):RW P Γ pn ops (o::os) E Q:=oP h k hg hp
theorem zBS(k:RW P Γ pn ops os (E.app wr chg) Q)(h:Ok P Γ o E (E.app wr chg):=by exact yBn (by first|exact uB rfl rfl|exact jR rfl rfl (by first|rfl|exact zX (by assumption) rfl|exact zX (by assumption) (zX (by assumption) rfl)|exact wD rfl (zX (by assumption) rfl)|exact wC (zX (by assumption) rfl)|exact wC (wD rfl (zX (by assumption) rfl))|exact wC (wD rfl (zX (by assumption) (zX (by assumption) rfl)))) rfl) rfl (by assumption) rfl)(hg:o.guard=Wv:=by rfl)(hp:pn.ok o.dst=Ww:=by rfl):RW P Γ pn ops (o::os) E Q:=oP h k hg hp
theorem zAB(k:RW P Γ pn ops os (E.app wr chg) Q)(h:Ok P Γ o E (E.app wr chg):=by exact zY0 (by first|exact uB rfl rfl|exact jR rfl rfl (by first|rfl|exact zX (by assumption) rfl|exact zX (by assumption) (zX (by assumption) rfl)|exact wD rfl (zX (by assumption) rfl)|exact wC (zX (by assumption) rfl)|exact wC (wD rfl (zX (by assumption) rfl))|exact wC (wD rfl (zX (by assumption) (zX (by assumption) rfl)))) rfl) rfl)(hg:o.guard=Wv:=by rfl)(hp:pn.ok o.dst=Ww:=by rfl):RW P Γ pn ops (o::os) E Q:=oP h k hg hp
theorem zH3(k:RW P Γ pn ops os (E.app wr chg) Q)(h:Ok P Γ o E (E.app wr chg):=by exact zYq (by assumption) rfl rfl rfl)(hg:o.guard=Wv:=by rfl)(hp:pn.ok o.dst=Ww:=by rfl):RW P Γ pn ops (o::os) E Q:=oP h k hg hp
theorem zAw(k:RW P Γ pn ops os (E.app wr chg) Q)(h:Ok P Γ o E (E.app wr chg):=by exact zKp inferInstance rfl)(hg:o.guard=Wv:=by rfl)(hp:pn.ok o.dst=Ww:=by rfl):RW P Γ pn ops (o::os) E Q:=oP h k hg hp
theorem zBa(k:RW P Γ pn ops os (E.app wr chg) Q)(h:Ok P Γ o E (E.app wr chg):=by exact zYv rfl rfl rfl)(hg:o.guard=Wv:=by rfl)(hp:pn.ok o.dst=Ww:=by rfl):RW P Γ pn ops (o::os) E Q:=oP h k hg hp
theorem zY1(k:RW P Γ pn ops os (E.app wr chg) Q)(h:Ok P Γ o E (E.app wr chg):=by exact zYw rfl (zDd rfl) rfl)(hg:o.guard=Wv:=by rfl)(hp:pn.ok o.dst=Ww:=by rfl):RW P Γ pn ops (o::os) E Q:=oP h k hg hp
theorem zH4(k:RW P Γ pn ops os (E.app wr chg) Q)(h:Ok P Γ o E (E.app wr chg):=by exact zYz rfl rfl)(hg:o.guard=Wv:=by rfl)(hp:pn.ok o.dst=Ww:=by rfl):RW P Γ pn ops (o::os) E Q:=oP h k hg hp
theorem sP(rd:List (Nat×T))(k:DK P Γ pn ops id hs E0 Q os (E.app wr chg) (⟨rd,[(wr,chg)]⟩::acc))(gJ:E.Has rd:=by exact Q0)(h:∀E':Env,E'.Has rd->Ok P Γ o E' (E'.app wr chg):=by intro E' h;exact zNy (hO h rfl) rfl)(hg:o.guard=Wv:=by rfl):DK P Γ pn ops id hs E0 Q (o::os) E acc:=dG rd [(wr,chg)] gJ (fun E' h'=>xN.op (h E' h') hg) k
theorem zZx{g s:Nat}{b:Bool}(rd:List (Nat×T))(k:DK P Γ pn ops id hs E0 Q os (E.app wr chg) (⟨rd,[(wr,chg)]⟩::acc))(gJ:E.Has rd:=by exact Q0)(hg:o.guard=Wu (g,b):=by rfl)(eA:(ops[g]?).bind (·.dst)=Wu s:=by rfl)(hb:xR rd s=Wu (.lit (.bool b)):=by rfl)(h:∀E':Env,E'.Has rd->Ok P Γ o E' (E'.app wr chg):=by intro E' h;exact zNy (hO h rfl) rfl):DK P Γ pn ops id hs E0 Q (o::os) E acc:=dG rd [(wr,chg)] gJ (fun E' h'=>xN.guard g b s (h E' h') hg eA (hE h' hb)) k
theorem zTc(rd:List (Nat×T))(k:DK P Γ pn ops id hs E0 Q os (E.app wr chg) (⟨rd,[(wr,chg)]⟩::acc))(gJ:E.Has rd:=by exact Q0)(h:∀E':Env,E'.Has rd->Ok P Γ o E' (E'.app wr chg):=by intro E' h;exact zWl (hO h rfl) rfl)(hg:o.guard=Wv:=by rfl):DK P Γ pn ops id hs E0 Q (o::os) E acc:=dG rd [(wr,chg)] gJ (fun E' h'=>xN.op (h E' h') hg) k
theorem zB7(rd:List (Nat×T))(k:DK P Γ pn ops id hs E0 Q os (E.app wr chg) (⟨rd,[(wr,chg)]⟩::acc))(gJ:E.Has rd:=by exact Q0)(h:∀E':Env,E'.Has rd->Ok P Γ o E' (E'.app wr chg):=by intro E' h;exact zPn (hO h rfl) rfl rfl rfl)(hg:o.guard=Wv:=by rfl):DK P Γ pn ops id hs E0 Q (o::os) E acc:=dG rd [(wr,chg)] gJ (fun E' h'=>xN.op (h E' h') hg) k
theorem zY2{g s:Nat}{b:Bool}(rd:List (Nat×T))(k:DK P Γ pn ops id hs E0 Q os (E.app wr chg) (⟨rd,[(wr,chg)]⟩::acc))(gJ:E.Has rd:=by exact Q0)(hg:o.guard=Wu (g,b):=by rfl)(eA:(ops[g]?).bind (·.dst)=Wu s:=by rfl)(hb:xR rd s=Wu (.lit (.bool b)):=by rfl)(h:∀E':Env,E'.Has rd->Ok P Γ o E' (E'.app wr chg):=by intro E' h;exact zPn (hO h rfl) rfl rfl rfl):DK P Γ pn ops id hs E0 Q (o::os) E acc:=dG rd [(wr,chg)] gJ (fun E' h'=>xN.guard g b s (h E' h') hg eA (hE h' hb)) k
theorem zJo(rd:List (Nat×T))(k:DK P Γ pn ops id hs E0 Q os (E.app wr chg) (⟨rd,[(wr,chg)]⟩::acc))(gJ:E.Has rd:=by exact Q0)(h:∀E':Env,E'.Has rd->Ok P Γ o E' (E'.app wr chg):=by exact Q2)(hg:o.guard=Wv:=by rfl):DK P Γ pn ops id hs E0 Q (o::os) E acc:=dG rd [(wr,chg)] gJ (fun E' h'=>xN.op (h E' h') hg) k
theorem zY3{g s:Nat}{b:Bool}(rd:List (Nat×T))(k:DK P Γ pn ops id hs E0 Q os (E.app wr chg) (⟨rd,[(wr,chg)]⟩::acc))(gJ:E.Has rd:=by exact Q0)(hg:o.guard=Wu (g,b):=by rfl)(eA:(ops[g]?).bind (·.dst)=Wu s:=by rfl)(hb:xR rd s=Wu (.lit (.bool b)):=by rfl)(h:∀E':Env,E'.Has rd->Ok P Γ o E' (E'.app wr chg):=by exact Q2):DK P Γ pn ops id hs E0 Q (o::os) E acc:=dG rd [(wr,chg)] gJ (fun E' h'=>xN.guard g b s (h E' h') hg eA (hE h' hb)) k
theorem zZy(rd:List (Nat×T))(k:DK P Γ pn ops id hs E0 Q os (E.app wr chg) (⟨rd,[(wr,chg)]⟩::acc))(gJ:E.Has rd:=by exact Q0)(h:∀E':Env,E'.Has rd->Ok P Γ o E' (E'.app wr chg):=by exact Q3)(hg:o.guard=Wv:=by rfl):DK P Γ pn ops id hs E0 Q (o::os) E acc:=dG rd [(wr,chg)] gJ (fun E' h'=>xN.op (h E' h') hg) k
theorem zZz{g s:Nat}{b:Bool}(rd:List (Nat×T))(k:DK P Γ pn ops id hs E0 Q os (E.app wr chg) (⟨rd,[(wr,chg)]⟩::acc))(gJ:E.Has rd:=by exact Q0)(hg:o.guard=Wu (g,b):=by rfl)(eA:(ops[g]?).bind (·.dst)=Wu s:=by rfl)(hb:xR rd s=Wu (.lit (.bool b)):=by rfl)(h:∀E':Env,E'.Has rd->Ok P Γ o E' (E'.app wr chg):=by exact Q3):DK P Γ pn ops id hs E0 Q (o::os) E acc:=dG rd [(wr,chg)] gJ (fun E' h'=>xN.guard g b s (h E' h') hg eA (hE h' hb)) k
theorem yBq(rd:List (Nat×T))(k:DK P Γ pn ops id hs E0 Q os (E.app wr chg) (⟨rd,[(wr,chg)]⟩::acc))(gJ:E.Has rd:=by exact Q0)(h:∀E':Env,E'.Has rd->Ok P Γ o E' (E'.app wr chg):=by intro E' h;exact zSH (by assumption) (hO h rfl) (hO h rfl) rfl)(hg:o.guard=Wv:=by rfl):DK P Γ pn ops id hs E0 Q (o::os) E acc:=dG rd [(wr,chg)] gJ (fun E' h'=>xN.op (h E' h') hg) k
theorem zTd(rd:List (Nat×T))(k:DK P Γ pn ops id hs E0 Q os (E.app wr chg) (⟨rd,[(wr,chg)]⟩::acc))(gJ:E.Has rd:=by exact Q0)(h:∀E':Env,E'.Has rd->Ok P Γ o E' (E'.app wr chg):=by intro E' h;exact zNz (hO h rfl) (hO h rfl) rfl)(hg:o.guard=Wv:=by rfl):DK P Γ pn ops id hs E0 Q (o::os) E acc:=dG rd [(wr,chg)] gJ (fun E' h'=>xN.op (h E' h') hg) k
theorem zZ0(rd:List (Nat×T))(k:DK P Γ pn ops id hs E0 Q os (E.app wr chg) (⟨rd,[(wr,chg)]⟩::acc))(gJ:E.Has rd:=by exact Q0)(h:∀E':Env,E'.Has rd->Ok P Γ o E' (E'.app wr chg):=by intro E' h;exact zZn inferInstance (by first|exact uB (hE h rfl) rfl|exact jR (hE h rfl) (hE h rfl) (by first|rfl|exact zX (by assumption) rfl|exact zX (by assumption) (zX (by assumption) rfl)|exact wD rfl (zX (by assumption) rfl)|exact wC (zX (by assumption) rfl)|exact wC (wD rfl (zX (by assumption) rfl))|exact wC (wD rfl (zX (by assumption) (zX (by assumption) rfl)))) rfl) rfl rfl rfl)(hg:o.guard=Wv:=by rfl):DK P Γ pn ops id hs E0 Q (o::os) E acc:=dG rd [(wr,chg)] gJ (fun E' h'=>xN.op (h E' h') hg) k
theorem zZ1(rd:List (Nat×T))(k:DK P Γ pn ops id hs E0 Q os (E.app wr chg) (⟨rd,[(wr,chg)]⟩::acc))(gJ:E.Has rd:=by exact Q0)(h:∀E':Env,E'.Has rd->Ok P Γ o E' (E'.app wr chg):=by intro E' h;first|exact zSZ (hO h rfl) (hE h rfl) rfl rfl rfl rfl|exact zSZ (hO h rfl) (hE h rfl) (by first|rfl|exact zX (by assumption) rfl|exact zX (by assumption) (zX (by assumption) rfl)|exact wD rfl (zX (by assumption) rfl)|exact wC (zX (by assumption) rfl)|exact wC (wD rfl (zX (by assumption) rfl))|exact wC (wD rfl (zX (by assumption) (zX (by assumption) rfl)))) (by rfl) (by rfl) (by rfl))(hg:o.guard=Wv:=by rfl):DK P Γ pn ops id hs E0 Q (o::os) E acc:=dG rd [(wr,chg)] gJ (fun E' h'=>xN.op (h E' h') hg) k
theorem zPo(rd:List (Nat×T))(k:DK P Γ pn ops id hs E0 Q os (E.app wr chg) (⟨rd,[(wr,chg)]⟩::acc))(gJ:E.Has rd:=by exact Q0)(h:∀E':Env,E'.Has rd->Ok P Γ o E' (E'.app wr chg):=by intro E' h;first|exact zLQ (by first|exact uB (hE h rfl) rfl|exact jR (hE h rfl) (hE h rfl) (by first|rfl|exact zX (by assumption) rfl|exact zX (by assumption) (zX (by assumption) rfl)|exact wD rfl (zX (by assumption) rfl)|exact wC (zX (by assumption) rfl)|exact wC (wD rfl (zX (by assumption) rfl))|exact wC (wD rfl (zX (by assumption) (zX (by assumption) rfl)))) rfl) (hE h rfl) rfl rfl rfl rfl|exact zLQ (by first|exact uB (hE h rfl) rfl|exact jR (hE h rfl) (hE h rfl) (by first|rfl|exact zX (by assumption) rfl|exact zX (by assumption) (zX (by assumption) rfl)|exact wD rfl (zX (by assumption) rfl)|exact wC (zX (by assumption) rfl)|exact wC (wD rfl (zX (by assumption) rfl))|exact wC (wD rfl (zX (by assumption) (zX (by assumption) rfl)))) rfl) (hE h rfl) (by first|rfl|exact zX (by assumption) rfl|exact zX (by assumption) (zX (by assumption) rfl)|exact wD rfl (zX (by assumption) rfl)|exact wC (zX (by assumption) rfl)|exact wC (wD rfl (zX (by assumption) rfl))|exact wC (wD rfl (zX (by assumption) (zX (by assumption) rfl)))) (by rfl) (by rfl) (by rfl))(hg:o.guard=Wv:=by rfl):DK P Γ pn ops id hs E0 Q (o::os) E acc:=dG rd [(wr,chg)] gJ (fun E' h'=>xN.op (h E' h') hg) k
theorem yBr(rd:List (Nat×T))(k:DK P Γ pn ops id hs E0 Q os (E.app wr chg) (⟨rd,[(wr,chg)]⟩::acc))(gJ:E.Has rd:=by exact Q0)(h:∀E':Env,E'.Has rd->Ok P Γ o E' (E'.app wr chg):=by intro E' h;exact zJh (by assumption) (hO h rfl) (hO h rfl) rfl)(hg:o.guard=Wv:=by rfl):DK P Γ pn ops id hs E0 Q (o::os) E acc:=dG rd [(wr,chg)] gJ (fun E' h'=>xN.op (h E' h') hg) k
theorem yBs{g s:Nat}{b:Bool}(rd:List (Nat×T))(k:DK P Γ pn ops id hs E0 Q os (E.app wr chg) (⟨rd,[(wr,chg)]⟩::acc))(gJ:E.Has rd:=by exact Q0)(hg:o.guard=Wu (g,b):=by rfl)(eA:(ops[g]?).bind (·.dst)=Wu s:=by rfl)(hb:xR rd s=Wu (.lit (.bool b)):=by rfl)(h:∀E':Env,E'.Has rd->Ok P Γ o E' (E'.app wr chg):=by intro E' h;exact zJh (by assumption) (hO h rfl) (hO h rfl) rfl):DK P Γ pn ops id hs E0 Q (o::os) E acc:=dG rd [(wr,chg)] gJ (fun E' h'=>xN.guard g b s (h E' h') hg eA (hE h' hb)) k
theorem yBt{g s:Nat}{b:Bool}(rd:List (Nat×T))(k:DK P Γ pn ops id hs E0 Q os (E.app wr chg) (⟨rd,[(wr,chg)]⟩::acc))(gJ:E.Has rd:=by exact Q0)(hg:o.guard=Wu (g,b):=by rfl)(eA:(ops[g]?).bind (·.dst)=Wu s:=by rfl)(hb:xR rd s=Wu (.lit (.bool b)):=by rfl)(h:∀E':Env,E'.Has rd->Ok P Γ o E' (E'.app wr chg):=by intro E' h;exact zYt (hO h rfl) (hO h rfl) rfl):DK P Γ pn ops id hs E0 Q (o::os) E acc:=dG rd [(wr,chg)] gJ (fun E' h'=>xN.guard g b s (h E' h') hg eA (hE h' hb)) k
theorem zLS(rd:List (Nat×T))(k:DK P Γ pn ops id hs E0 Q os (E.app wr chg) (⟨rd,[(wr,chg)]⟩::acc))(gJ:E.Has rd:=by exact Q0)(h:∀E':Env,E'.Has rd->Ok P Γ o E' (E'.app wr chg):=by intro E' h;exact zSL inferInstance (hO h rfl) rfl rfl rfl)(hg:o.guard=Wv:=by rfl):DK P Γ pn ops id hs E0 Q (o::os) E acc:=dG rd [(wr,chg)] gJ (fun E' h'=>xN.op (h E' h') hg) k
theorem zC9(rd:List (Nat×T))(k:DK P Γ pn ops id hs E0 Q os (E.app wr chg) (⟨rd,[(wr,chg)]⟩::acc))(gJ:E.Has rd:=by exact Q0)(h:∀E':Env,E'.Has rd->Ok P Γ o E' (E'.app wr chg):=by intro E' h;first|exact zC4 (hO h rfl) (zHw (hO h rfl)) rfl|exact zC4 (hO h rfl) (isPtr_addr (hO h rfl)) rfl|exact zC4 (hO h rfl) (zF2 (by first|exact uB (hE h rfl) rfl|exact jR (hE h rfl) (hE h rfl) (by first|rfl|exact zX (by assumption) rfl|exact zX (by assumption) (zX (by assumption) rfl)|exact wD rfl (zX (by assumption) rfl)|exact wC (zX (by assumption) rfl)|exact wC (wD rfl (zX (by assumption) rfl))|exact wC (wD rfl (zX (by assumption) (zX (by assumption) rfl)))) rfl)) rfl)(hg:o.guard=Wv:=by rfl):DK P Γ pn ops id hs E0 Q (o::os) E acc:=dG rd [(wr,chg)] gJ (fun E' h'=>xN.op (h E' h') hg) k
theorem yDs(rd:List (Nat×T))(k:DK P Γ pn ops id hs E0 Q os (E.app wr chg) (⟨rd,[(wr,chg)]⟩::acc))(gJ:E.Has rd:=by exact Q0)(h:∀E':Env,E'.Has rd->Ok P Γ o E' (E'.app wr chg):=by intro E' h;exact yBn (by first|exact uB (hE h rfl) rfl|exact jR (hE h rfl) (hE h rfl) (by first|rfl|exact zX (by assumption) rfl|exact zX (by assumption) (zX (by assumption) rfl)|exact wD rfl (zX (by assumption) rfl)|exact wC (zX (by assumption) rfl)|exact wC (wD rfl (zX (by assumption) rfl))|exact wC (wD rfl (zX (by assumption) (zX (by assumption) rfl)))) rfl) (hO h rfl) (by assumption) rfl)(hg:o.guard=Wv:=by rfl):DK P Γ pn ops id hs E0 Q (o::os) E acc:=dG rd [(wr,chg)] gJ (fun E' h'=>xN.op (h E' h') hg) k
theorem yBu(rd:List (Nat×T))(k:DK P Γ pn ops id hs E0 Q os (E.app wr chg) (⟨rd,[(wr,chg)]⟩::acc))(gJ:E.Has rd:=by exact Q0)(h:∀E':Env,E'.Has rd->Ok P Γ o E' (E'.app wr chg):=by intro E' h;exact zY0 (by first|exact uB (hE h rfl) rfl|exact jR (hE h rfl) (hE h rfl) (by first|rfl|exact zX (by assumption) rfl|exact zX (by assumption) (zX (by assumption) rfl)|exact wD rfl (zX (by assumption) rfl)|exact wC (zX (by assumption) rfl)|exact wC (wD rfl (zX (by assumption) rfl))|exact wC (wD rfl (zX (by assumption) (zX (by assumption) rfl)))) rfl) rfl)(hg:o.guard=Wv:=by rfl):DK P Γ pn ops id hs E0 Q (o::os) E acc:=dG rd [(wr,chg)] gJ (fun E' h'=>xN.op (h E' h') hg) k
theorem zWw(rd:List (Nat×T))(k:DK P Γ pn ops id hs E0 Q os (E.app wr chg) (⟨rd,[(wr,chg)]⟩::acc))(gJ:E.Has rd:=by exact Q0)(h:∀E':Env,E'.Has rd->Ok P Γ o E' (E'.app wr chg):=by intro E' h;exact zKp inferInstance rfl)(hg:o.guard=Wv:=by rfl):DK P Γ pn ops id hs E0 Q (o::os) E acc:=dG rd [(wr,chg)] gJ (fun E' h'=>xN.op (h E' h') hg) k
theorem cA{f:FuncId}{xs:List Operand}{res:List T}(gu:kI P f)(hc:FnC P f us res [])(k:RW P Γ pn ops os (E.app (cWr d res []) (vH d [])) Q)(gn:wA E [] 0 xs us:=by repeat (first|exact trivial|refine⟨agC _ rfl (by first|rfl|exact zQ2 inferInstance|exact zAS rfl (by first|rfl|exact zX (by assumption) rfl|exact zX (by assumption) (zX (by assumption) rfl)|exact wD rfl (zX (by assumption) rfl)|exact wC (zX (by assumption) rfl)|exact wC (wD rfl (zX (by assumption) rfl))|exact wC (wD rfl (zX (by assumption) (zX (by assumption) rfl)))) inferInstance|exact cloSR rfl (by first|rfl|exact zX (by assumption) rfl|exact zX (by assumption) (zX (by assumption) rfl)|exact wD rfl (zX (by assumption) rfl)|exact wC (zX (by assumption) rfl)|exact wC (wD rfl (zX (by assumption) rfl))|exact wC (wD rfl (zX (by assumption) (zX (by assumption) rfl))))) rfl,?_⟩))(gz:zAZ res:=by repeat (first|exact jS|refine zAb inferInstance ?_))(sd:J6 d Γ.N=Ww:=by rfl)(hg:gd=Wv:=by rfl)(hp:pn.ok (Wu d)=Ww:=by rfl):
  RW P Γ pn ops (⟨Wu d,.call { callee:=.value (.func f),args:=xs.toArray,argTypes:=ats },ty,ps,af,gd⟩::os) E Q:=oP (sH gu hc gn gz sd) k hg hp
theorem dC{f:FuncId}{xs:List Operand}{res:List T}(rd:List (Nat×T))(gu:kI P f)(hc:FnC P f us res [])(k:DK P Γ pn ops id hs E0 Q os (E.app (cWr d res []) (vH d [])) (⟨rd,[(cWr d res [],vH d [])]⟩::acc))(gJ:E.Has rd:=by exact Q0)(gn:∀E':Env,E'.Has rd->wA E' [] 0 xs us:=by intro E' h;repeat (first|exact trivial|refine⟨agC _ (hO h rfl) (by first|rfl|exact zQ2 inferInstance|exact zAS (hE h rfl) (by first|rfl|exact zX (by assumption) rfl|exact zX (by assumption) (zX (by assumption) rfl)|exact wD rfl (zX (by assumption) rfl)|exact wC (zX (by assumption) rfl)|exact wC (wD rfl (zX (by assumption) rfl))|exact wC (wD rfl (zX (by assumption) (zX (by assumption) rfl)))) inferInstance|exact cloSR (hE h rfl) (by first|rfl|exact zX (by assumption) rfl|exact zX (by assumption) (zX (by assumption) rfl)|exact wD rfl (zX (by assumption) rfl)|exact wC (zX (by assumption) rfl)|exact wC (wD rfl (zX (by assumption) rfl))|exact wC (wD rfl (zX (by assumption) (zX (by assumption) rfl))))) rfl,?_⟩))(gz:zAZ res:=by repeat (first|exact jS|refine zAb inferInstance ?_))(sd:J6 d Γ.N=Ww:=by rfl)(hg:gd=Wv:=by rfl):
  DK P Γ pn ops id hs E0 Q (⟨Wu d,.call { callee:=.value (.func f),args:=xs.toArray,argTypes:=ats },ty,ps,af,gd⟩::os) E acc:=
 dG rd [(cWr d res [],vH d [])] gJ (fun E' h'=>xN.op (sH gu hc (gn E' h') gz sd) hg) k
theorem sk2{g s:Nat}{b b':Bool}(k:RW P Γ pn ops os (E.app [(d,Wu (.tup []))] [(d,0)]) Q)(hd:o.dst=Wu d:=by rfl)(hg:o.guard=Wu (g,b):=by rfl)(eA:(ops[g]?).bind (·.dst)=Wu s:=by rfl)(hb:E s=Wu (.lit (.bool b')):=by rfl)(eY:(b==b')=Wx:=by rfl)(sd:J6 d Γ.N=Ww:=by rfl)(hp:pn.ok o.dst=Ww:=by rfl):
  RW P Γ pn ops (o::os) E Q:=RW.cons (xN.skip2 g b b' s hd sd eY hg eA hb) k hp
theorem zH5{g s:Nat}{b b':Bool}(k:DK P Γ pn ops id hs E0 Q os (E.app [(d,Wu (.tup []))] [(d,0)]) (⟨[(s,.lit (.bool b'))],[([(d,Wu (.tup []))],[(d,0)])]⟩::acc))(hd:o.dst=Wu d:=by rfl)(hg:o.guard=Wu (g,b):=by rfl)(eA:(ops[g]?).bind (·.dst)=Wu s:=by rfl)(hb:E s=Wu (.lit (.bool b')):=by rfl)(eY:(b==b')=Wx:=by rfl)(sd:J6 d Γ.N=Ww:=by rfl):
  DK P Γ pn ops id hs E0 Q (o::os) E acc:=dG [(s,.lit (.bool b'))] [([(d,Wu (.tup []))],[(d,0)])] ⟨hb,trivial⟩ (fun _E' h=>xN.skip2 g b b' s hd sd eY hg eA h.1) k
theorem dNA(hm:P.follows .mixedOrders=Ww)(hQ:Q .normal E)(hf:zAY 0 ops.toList=Ww:=by rfl)(ha:zAu (zZv ops.toList) (zZv ops.toList) ops.toList=Ww:=by rfl)(hp:kG acc.reverse 0 (zZv ops.toList) acc.reverse=Ww:=by rfl)
  (dI:ops.toList.all (fun o=>pn.ok o.dst)=Ww:=by rfl)(aF:zSW hs E0=Ww:=by rfl)(hw:acc.reverse.all (wrS hs)=Ww:=by rfl):DK P Γ pn ops id hs E0 Q [] E acc:=dN _ hm hQ hf ha hp dI aF hw
theorem cn{c1 c2:Code}{α:Type}{b:Bool}{u v z:α}(h:cond b u v=z)(ht:b=Ww->u=z->CW P Γ pn c1 E Q)(hf:b=Wx->v=z->CW P Γ pn c2 E Q)(hb:opT E x=Wu (.lit (.bool b)):=by rfl):CW P Γ pn (.cond x c1 c2) E Q:=
 CW.cond b hb (fun hc=>ht hc (cT hc h)) fun hc=>hf hc (cF hc h)
theorem fB{f:FuncId}{res:List T}(hf:P.funcs[f]? =Wu fn)(h:∀(St:Stb)(W:Nat->Prop)(w0:World)(v:Nat->Value),CW P ⟨St,W,w0,fn.ntmps⟩ (zC1 v (rws.map (·.1))) c (xR (zIC 0 us)) (wY ⟨St,W,w0,fn.ntmps⟩ P fn.results us res rws))(hb:fn.body=Wu c:=by rfl)(hn:us.length<=fn.ntmps:=by exact Nat.le_of_ble_eq_true rfl)
  (ht:vV us:=by exact Q8)(hr:rws.all (fun x=>decide (x.1<us.length))=Ww:=by rfl):FnC P f us res rws:=
 FnC.of_bodyG hf hb hn ht hr (by rintro⟨St,W,w0,N⟩ v hN;subst hN;exact h St W w0 v)
def zBT:List ResultVar->Option (List Nat)
 | []=>Wu []
 |.tmp s::l=>(zBT l).map (s::·)
 |.cell _ _::_=>Wv
theorem zJp:∀(rs:List ResultVar)(ss:List Nat)(res:List T),zBT rs=Wu ss->ss.map E=res.map Wu->res.all T.okTup=Ww-> ∃nd:Nds,zGx P E rs nd/\nd.map (·.2.2)=res/\nd.map (·.1)=ss
 | [],ss,res,h,hE,_=>by
  simp[zBT]at h;subst h;cases res with
  |nil=>exact⟨[],trivial,rfl,rfl⟩
  |cons _ _=>simp at hE
 |.tmp s::rs,ss,res,h,hE,ht=>by
  simp only[zBT,Kg]at h;obtain⟨ss',h,rfl⟩:=h;cases res with
  |nil=>simp at hE
  |cons t res=>
   simp only[Jr,Ul.injEq]at hE;simp only[Qt,J4]at ht;obtain⟨nd,h1,h2,h3⟩:=zJp rs ss' res h hE.2 ht.2;exact⟨(s,[],t)::nd,⟨⟨rfl,rfl,hE.1,ht.1⟩,h1⟩,by simp[h2],by simp[h3]⟩
 |.cell _ _::_,_,_,h,_,_=>by simp[zBT]at h
theorem rT{rs:Array ResultVar}{res:List T}{e:Exit}{ss:List Nat}(hs:zBT rs.toList=Wu ss:=by rfl)(hE:ss.map E=res.map Wu:=by rfl)(ht:res.all T.okTup=Ww:=by rfl)(hl:ss.all (fun s=>Jb6 us.length s)=Ww:=by rfl)(hn:zBm ss=Ww:=by rfl)
  (hw:LOk E us rws:=by repeat (first|exact trivial|refine⟨⟨rfl,_,rfl⟩,?_⟩))(he:e=.ret\/e=.normal:=by first|exact .inl rfl|exact .inr rfl):wY Γ P rs us res rws e E:=by
 obtain⟨nd,h1,h2,h3⟩:=zJp (P:=P) rs.toList ss res hs hE ht;refine⟨E,zI.refl,he,nd,h1,h2,fun x hx=>?_,by rw[h3];exact zDc hn,hw⟩;have:x.1∈ss:=by rw[<-h3];exact Jq.2 ⟨x,hx,rfl⟩
 exact Nat.le_of_ble_eq_true (Ka.1 hl _ this)
theorem eN{σ ρ:Type}{en:σ->Env}{Q1:ρ->Exit->Env->Prop}{y:σ}{x:σ⊕ρ}(h:Wu (Sum.inl y)=Wu x)(q:zI Γ E (en y):=by exact .has (by repeat (first|exact trivial|refine⟨rfl,?_⟩))):wK Γ en Q1 x .normal E:=by obtain rfl:=sI h;exact⟨rfl,q⟩
theorem rTg{rs:Array ResultVar}{res:List T}{e:Exit}(hg:zI Γ E E')(h:wY Γ P rs us res rws e E'):wY Γ P rs us res rws e E:=by obtain⟨E2,h1,h2⟩:=h;exact⟨E2,hg.trans h1,h2⟩
theorem eX{σ ρ:Type}{en:σ->Env}{Q1:ρ->Exit->Env->Prop}{y:ρ}{x:σ⊕ρ}{e:Exit}(h:Wu (Sum.inr y)=Wu x)(q:Q1 y e E:=by first|exact⟨rfl,.has (by repeat (first|exact trivial|refine⟨rfl,?_⟩))⟩|exact⟨rfl,rT⟩)(gf:e≠.normal:=by first|exact neX|exact neR):wK Γ en Q1 x e E:=by obtain rfl:=sI h;exact⟨gf,q⟩
end
section
variable {Γ:Ctx}{E:Env}
theorem zI.frzG(s:Nat)(t:T){t':T}(hs:E s=Wu t)(h:vR t=t'):zI Γ E (E.app [(s,Wu t')] [(s,1)]):=h▸zI.freeze s t hs
theorem fzO{α:Type}{f g:α->T}{xs:List α}(h:xK f g):vR (L k f xs)=.ro (L k g xs):=by simp only[vR,strip,tC h.h xs]
theorem fzP{t:T}(h:strip t=u):vR (.ptr t)=.ro (.ptr u):=by grind[vR,strip]
theorem fzA{xs ys:List T}(h:uM xs=ys):vR (.agg xs)=.agg ys:=by grind[vR]
theorem fzN:uM []=[]:=rfl
theorem fzC{x y:T}{xs ys:List T}(h:vR x=y)(h2:uM xs=ys):uM (x::xs)=y::ys:=by grind[uM]
end
theorem zPp{α:Type}{f:α->T}{xs:List α}{i j:Int}{a b:α}{X:T}(hi:ixO xs i=Wu a)(hj:ixO xs j=Wu b)(gf:(i != j)=Ww):
  (if[i.toNat]=[]then X else(L k f xs).set [i.toNat].reverse T.any).get [j.toNat].reverse=Wu (f b):=by
 have h1:=(uF hi);have h2:=(uF hj);have h3:i≠j:=by grind
 have h4:i.toNat≠j.toNat:=by omega
 simp only[List.cons_ne_nil,if_false,Ly,Hk,Js]
 grind[T.set,T.get]
theorem yBv{s:Nat}{t:T}(h:E s=Wu t)(hf:wr.find s=Wv:=by rfl)(hb:t.okB chg=Ww:=by rfl):opT (E.app wr chg) (.tmp s)=Wu t:=zDA h hf hb
theorem zKw{rs:List Nat}{s:Nat}{tr:T}(hr:E r=Wu tr)(hg:tr.get q.reverse=Wu u)(h4:zAv u=Ww)(hn:rs.contains r=Wx):zIY E rs (.tmp s) (.same r q)=Ww:=by simp only[zIY,sU,zDb hr hg h4,hn,Ko]
end Go.Ab
