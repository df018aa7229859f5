/- The program's NucleusOf returns what the reference's returns,for all arguments;no conditions. -/
import Derived.Test.YtfeijieociajaaaGreatAbA
import Derived.Laws.CopyRow
import Derived.ProofKit
open List renaming replicate→J1,getElem?_eq_getElem→J3,length_append→J5,length_cons→J7,mem_cons→J9,mem_append→Ja,append_assoc→Jc,mem_map→Je,range→Jf,length_map→Jg,append_nil→Jh,getElem?_eq_some_iff→Jl,getElem?_append_right→Jm,length_nil→Jt,map_cons→Ju,replicate_succ→Jv,getElem?_map→Jw,nil_append→K0,getElem?_append_left→K3,cons_append→K6,map_append→K7,range'→K8,take_zero→Ka,length_take→Kb,eq_nil_of_length_eq_zero→Ke,all_eq_true→Kh,reverse_reverse→Ki,flatMap_cons→Kr,getElem?_append→Ks,range_eq_range'→Kw,take_succ_cons→L4,nodup_cons→La,map_nil→Ld,length_range→Lh,mem_iff_getElem→Lq,singleton_append→Lr,mem_of_getElem?→Lt,getElem?_drop→Ly,contains_eq_mem→Ha,getElem?_take→He,range'_succ→Hp,reverse_nil→Hw,reverse_cons→Ga,getD→Ua,drop_zero→Ui,all_cons→Uo,map_take→Uy,find?_cons_of_neg→Qe,cons→Qf,mem_iff_getElem?→Qg,mem_cons_of_mem→Qp,getLast?_append→Qq,dropLast_concat→Qr,map_set→Ja1,find?_eq_none→Ja3,getElem?_set_self→Jan,getElem?_set→Jaq,map_map→Jb1,getElem?_set_ne→Jb2,mem_filter→Jb8,getElem?_cons_succ→Jba,size_toArray→Jbn,map_drop→Jbo
open Bool renaming and_eq_true->J4,not_true->Kj,and_self->Lp,not_false->H5,false_eq_true->Hs,not_eq_true'->Gy
open Nat renaming blt->J6,le_refl->Jd,zero_add->Ji,lt_or_ge->Jp,succ_mul->K9,mul_le_mul_right->Kd,zero_le->Le,div_add_mod->Lx,mul_one->H0,div_lt_iff_lt_mul->H7,le_trans->H9,add_assoc->Hb,mod_lt->Hu,beq->G5,add_zero->U1,ble->Jac
open Array renaming getElem?_setIfInBounds->Jj,length_toList->Km,getD_eq_getD_getElem?->Ko,getElem?_toList->Kx,getElem?_eq_some_iff->H8,replicate->Uv
open Option renaming map_eq_some_iff->Kf,getD_some->Lu,map_some->Hf,some->Hn,map_eq_none_iff->Q5
open Prod renaming mk->Jal
open Option renaming some->jh,none->ji
open Bool renaming true->jj,false->jk
namespace Go.Ab
open Go
variable {i d id r k s0 j off o0 ds:Nat}{x:Operand}{Γ:Ctx}{E E' E1:Env}{G:Gh}{tmps:Array Value}{w':World}{wr:Wr}{a:Act}{us ts:List T}{u u' tr' u0 t0:T}{ats:Array TypeId}{P:Program}{l m h:Int}{σ ρ α:Type}{fn:Func}{c:Code}{rws:List (Nat×T)}{ti:TypeInfo}{xt yt e:TypeId}{q:List Nat}{f:α->T}
abbrev Rw:=List (Nat×Nat×T)
variable {rw:Rw}
def rwI(rw:Rw)(s:Nat):Option Nat:=(rw.find? fun x=>x.2.1==s).map (·.1)
def rwS(rw:Rw)(i:Nat):Option Nat:=(rw.find? fun x=>x.1==i).map (·.2.1)
theorem zCh:(rw:Rw)->(rw.map (·.2.1)).Nodup-> ∀{i s:Nat}{u:T},(i,s,u)∈rw->rwI rw s=jh i
 | [],_,_,_,_,h=>by simp at h
 |(i0,s0,u0)::rw,hn,i,s,u,h=>by
  simp only[Ju,La,Je]at hn;rcases J9.1 h with h|h
  ·simp at h;obtain⟨rfl,rfl,rfl⟩:=h;simp[rwI]
  ·have gc:s0≠s:=fun e=>hn.1 ⟨_,h,e.symm⟩
   have:=zCh rw hn.2 h;simp only[rwI]at this ⊢
   rw[Qe (by simpa using gc)];exact this
theorem zLX:(rw:Rw)->(rw.map (·.1)).Nodup-> ∀{i s:Nat}{u:T},(i,s,u)∈rw->rwS rw i=jh s
 | [],_,_,_,_,h=>by simp at h
 |(i0,s0,u0)::rw,hn,i,s,u,h=>by
  simp only[Ju,La,Je]at hn;rcases J9.1 h with h|h
  ·simp at h;obtain⟨rfl,rfl,rfl⟩:=h;simp[rwS]
  ·have gc:i0≠i:=fun e=>hn.1 ⟨_,h,e.symm⟩
   have:=zLX rw hn.2 h;simp only[rwS]at this ⊢
   rw[Qe (by simpa using gc)];exact this
theorem zLY{s:Nat}(h:s∉rw.map (·.2.1)):rwI rw s=ji:=by simp only[rwI,Q5,Ja3];intro x hx;simp only[beq_iff_eq];exact fun e=>h (Je.2 ⟨x,hx,e⟩)
theorem zTN(h:∀x∈rw,x.1≠i):rwS rw i=ji:=by simp only[rwS,Q5,Ja3];intro x hx;simpa using h x hx
theorem zQx{s:Nat}(h:rwI rw s=jh i):s∈rw.map (·.2.1):=by simp only[rwI,Kf]at h;obtain⟨x,hx,_⟩:=h;have h1:=List.mem_of_find?_eq_some hx;have h2:=List.find?_some hx;exact Je.2 ⟨x,h1,by simpa using h2⟩
abbrev Nd:=List (Nat×List Nat×T)
def zTO(nd:Nd)(k s:Nat):Option (Nat×List Nat):=
 match nd with
 | []=>ji
 |x::r=>if x.1=s then jh (k,x.2.1)else zTO r (k+1) s
def ndB(d:Nat)(nd:Nd)(s:Nat)(z:List Nat):Option (Nat×List Nat):=
 match nd with
 | [x]=>if x.1=s/\x.2.1<:+z then jh (d,z.take (z.length-x.2.1.length))else ji
 |nd=>match zTO nd 0 s with
  |some (k,q)=>if q<:+z then jh (d,z.take (z.length-q.length)++[k])else ji
  |none=>ji
theorem zJh:(nd:Nd)->(nd.map (·.1)).Nodup-> ∀{k k0:Nat}{x:Nat×List Nat×T},nd[k]? =jh x->zTO nd k0 x.1=jh (k0+k,x.2.1)
 | [],_,_,_,_,h=>by simp at h
 |y::nd,hn,k,k0,x,h=>by
  simp only[Ju,La,Je]at hn;cases k with
  |zero=>simp at h;subst h;simp[zTO]
  |succ k=>
   simp only[Jba]at h;have gc:y.1≠x.1:=fun e=>hn.1 ⟨x,Lt h,e.symm⟩
   simp only[zTO,gc,if_false];rw[zJh nd hn.2 h]
   congr 2;omega
def zTP(G:Gh)(nd:Nd)(z:List Nat):Value:=
 match nd with
 | [x]=>G.hd x.1 (z++x.2.1)
 |nd=>match z.getLast? with
  |some k=>(match nd[k]? with
   |some x=>G.hd x.1 (z.dropLast++x.2.1)
   |none=>.bool jk)
  |none=>.bool jk
def zXV(G:Gh)(nd:Nd)(z:List Nat):Addr:=
 match nd with
 | [x]=>G.ad x.1 (z++x.2.1)
 |nd=>match z.getLast? with
  |some k=>(match nd[k]? with
   |some x=>G.ad x.1 (z.dropLast++x.2.1)
   |none=>default)
  |none=>default
def Gh.arg(G:Gh)(a:Act)(xs:List Operand)(rw:Rw):Gh where
 hd i z:=match xs[i]? with
  |some (.tmp s)=>G.hd s z
  |some x=>jC (a.eval x)
  |none=>.bool jk
 ad i z:=match xs[i]? with
  |some (.tmp s)=>G.ad s z
  |_=>default
 lb b o:=match G.lb b o with
  |some (f,s,z)=>(match rwI rw s,G.ow b with
   |some i,jh (s',_)=>if s'=s then jh (f,i,z)else ji
   |_,_=>ji)
  |none=>ji
 ow b:=match G.ow b with
  |some (s,z)=>(match rwI rw s with
   |some i=>jh (i,z)
   |none=>ji)
  |none=>ji
def zAo(G:Gh)(rw:Rw)(b:Nat):Prop:=∃s z,G.ow b=jh (s,z)/\s∈rw.map (·.2.1)
def zDq(d:Nat)(rw:Rw)(nd:Nd)(s:Nat)(z:List Nat):Option (Nat×List Nat):=
 match rwS rw s with
 |some s'=>jh (s',z)
 |none=>ndB d nd s z
open Classical in
noncomputable def Gh.back (G G':Gh) (n0 d:Nat) (rw:Rw) (nd:Nd):Gh where
 hd s z:=if s=d then zTP G' nd z else match rwI rw s with
  |some i=>G'.hd i z
  |none=>G.hd s z
 ad s z:=if s=d then zXV G' nd z else match rwI rw s with
  |some i=>if z=[]then G.ad s z else G'.ad i z
  |none=>G.ad s z
 lb b o:=if zAo G rw b\/n0<=b then(match G'.lb b o with
  |some (f,s,z)=>(match zDq d rw nd s z with
   |some (s',z')=>jh (f,s',z')
   |none=>ji)
  |none=>ji)else G.lb b o
 ow b:=if zAo G rw b\/n0<=b then(match G'.ow b with
  |some (s,z)=>zDq d rw nd s z
  |none=>ji)else G.ow b
def zFs(res:List T):T:=match res with
 | [u]=>u
 |us=>.tup us
def cWr(d:Nat)(res:List T)(rw:Rw):Wr:=(d,jh (zFs res))::rw.map fun x=>(x.2.1,jh x.2.2)
def cLv(t:T):Nat:=if t.single then 1 else 0
def vV(d:Nat)(rw:Rw):Chg:=(d,0)::rw.map fun x=>(x.2.1,cLv x.2.2)
theorem zHk{x:Nat×Nat×T}(h:x∈rw):(x.2.1,cLv x.2.2)∈vV d rw:=Qp _ (Je.2 ⟨x,h,rfl⟩)
theorem zQy{Gn G':Gh}{d:Nat}:(nd:Nd)-> ∀(j:Nat),(∀k x,nd[k]? =jh x-> ∀z,Gn.hd d (z++[j+k])=G'.hd x.1 (z++x.2.1))->jY Gn d (nd.map (·.2.2)) [] j=nd.map fun x=>sC G' x.1 x.2.2 x.2.1
 | [],_,_=>by simp[jY]
 |x::nd,j,h=>by
  have ih:=zQy (Gn:=Gn) (G':=G') (d:=d) nd (j+1) (fun k y hy z=>by rw[show j+1+k=j+(k+1)from by omega];exact h (k+1) y (by simpa using hy) z)
  simp only[Ju,jY,ih];rw[zBu x.2.2 x.2.1 [j] (by simpa using h 0 x (by simp))]
theorem zTQ{res:List T}{s:Nat}{x:Option T}(h:(cWr d res rw).find s=jh x):(s=d/\x=jh (zFs res))\/(s≠d/\ ∃i u,(i,s,u)∈rw/\x=jh u):=by
 simp only[cWr,Wr.find]at h;split at h
 ·rename_i he;simp at h;exact .inl ⟨he.symm,h.symm⟩
 ·rename_i gc
  refine .inr ⟨fun e=>gc e.symm,?_⟩
  clear gc
  induction rw with
  |nil=>simp[Wr.find]at h
  |cons y rw ih=>
   simp only[Ju,Wr.find]at h;split at h
   ·rename_i he;simp at h;subst he;exact⟨y.1,y.2.2,by simp,h.symm⟩
   ·obtain⟨i,u,h1,h2⟩:=ih h;exact⟨i,u,by simp[h1],h2⟩
theorem zTR{res:List T}{s:Nat}(h:(cWr d res rw).find s=ji):s≠d/\s∉rw.map (·.2.1):=by
 simp only[cWr,Wr.find]at h;split at h
 ·cases h
 ·rename_i gc
  refine⟨fun e=>gc e.symm,?_⟩
  clear gc
  induction rw with
  |nil=>simp
  |cons y rw ih=>
   simp only[Ju,Wr.find]at h;split at h
   ·cases h
   ·rename_i he
    simp only[Ju,J9,not_or];exact⟨fun e=>he e.symm,ih h⟩
def aft(S Sc S':Stb):Stb:=fun b=>match Sc b with
 |none=>S' b
 |some _=>S b
theorem Rep.up{tmps':Array Value}{w:World}{G':Gh}{chg:Chg}{S:Stb}(h:Rep Γ E G tmps w)(hS:∀b x,Γ.St b=jh x->S b=jh x)
  (gO:tmps'.size=tmps.size)(hk:sM chg G w G' w')(gp:Mem (Γ.at S) G' w')
  (gD:∀s,wr.find s=ji->(∀n,(s,n)∉chg)/\tmps'[s]? =tmps[s]?)
  (eA:∀s t,wr.find s=jh (jh t)->Ent (Γ.at S) G' w' tmps'[s]? s t):Rep (Γ.at S) (E.app wr chg) G' tmps' w' where
 size:=by rw[gO];exact h.size
 mem:=gp
 ent s t hs:=by
  unfold Env.app at hs;cases hf:wr.find s with
  |some x=>
   rw[hf]at hs;simp at hs;subst hs;exact eA s t hf
  |none=>
   rw[hf]at hs;simp at hs;cases he:E s with
   |none=>simp[he]at hs
   |some u=>
    simp[he]at hs;obtain⟨gz,rfl⟩:=hs;rw[(gD s hf).2];obtain⟨e1,e2,e3⟩:=Ent.keep hk (gD s hf).1 gz (h.ent s u he);exact⟨e1,zKy hS u [] e2,e3⟩
section
variable {P:Program}{Γ:Ctx}{E:Env}{d:Nat}
theorem zEv{w:World}(g9:Rep Γ E G a.tmps w)(hd:d<Γ.N){Sc:Stb}(hS1:∀b x,Sc b=jh x->w.heap[b]? =jh x/\ ¬zAo G rw b)(hS0:∀b x,Γ.St b=jh x->Sc b=jh x){f:FuncId}{res:List T}
  (hc:FnC P f us res (rw.map fun x=>(x.1,x.2.2))){xs:List Operand}(gf:xs.length=us.length)
  (gj:∀(i:Nat) u,us[i]? =jh u->(∃x,xs[i]? =jh x/\a.eval x=mkV (G.arg a xs rw) i u []/\R Sc (G.arg a xs rw) w i u []))
  (bh:(d::rw.map (·.2.1)).Nodup)(bg:(rw.map (·.1)).Nodup)(eG:∀x∈rw,xs[x.1]? =jh (.tmp x.2.1))
  (gw:∀u∈res,zY u/\u.okTup=jj/\ ∀(S':Stb)(G:Gh)(w:World)(s:Nat)(p:List Nat),(∀b x,Sc b=jh x->S' b=jh x)->R S' G w s u p->R (aft Γ.St Sc S') G w s u p)
  (aA:∀x∈rw,zY x.2.2/\(∀(S':Stb)(G:Gh)(w:World)(s:Nat)(p:List Nat),(∀b x,Sc b=jh x->S' b=jh x)->R S' G w s x.2.2 p->R (aft Γ.St Sc S') G w s x.2.2 p)/\ ∃u,E x.2.1=jh u/\x.2.2.single=u.single/\us[x.1]? =jh u):
  Calls P f (xs.map a.eval).toArray w fun e w'=> ∃v,e=.returned v/\ ∃S G',zBX Γ.St S Γ.W Γ.w0.heap.size/\sM (vV d rw) G w G' w'/\Rep (Γ.at S) (E.app (cWr d res rw) (vV d rw)) G' (a.tmps.setIfInBounds d v) w':=by
 have hm:=g9.mem;have mO:=La.1 bh;have hmc:Mem ⟨Sc,zAo G rw,w,0⟩ (G.arg a xs rw) w:=by
  have gA:∀b,zAo G rw b->Sc b=ji:=fun b h=>by
   cases hs:Sc b with
   |none=>rfl
   |some x=>exact absurd h (hS1 b x hs).2
  refine⟨fun i z=>?_,fun b o l hl=>?_,fun b l hl=>?_,fun b x hx=>(hS1 b x hx).1,fun b _ _=>rfl,Jd _,⟨fun b cs e h=>⟨cs,h,rfl⟩,rfl,rfl⟩⟩
  ·simp only[Gh.arg]
   split
   ·exact hm.one _ _
   ·exact zAT _
   ·rfl
  ·simp only[Gh.arg]at hl
   split at hl
   ·rename_i f' s z hg
    split at hl
    ·rename_i i s' y hi ho
     split at hl
     ·rename_i he;subst he
      have hL:zAo G rw b:=⟨s',y,ho,zQx hi⟩;exact⟨(hm.lb b o _ hg).1,.inr hL,gA b hL⟩
     ·cases hl
    ·cases hl
   ·cases hl
  ·simp only[Gh.arg]at hl
   split at hl
   ·rename_i s z hg
    split at hl
    ·rename_i i hi
     have hL:zAo G rw b:=⟨s,z,hg,zQx hi⟩;exact⟨(hm.ow b _ hg).1,.inr hL,gA b hL⟩
    ·cases hl
   ·cases hl
 have gk:=hc Sc (zAo G rw) w (G.arg a xs rw) (xs.map a.eval).toArray (by simp[gf]) (fun i u hu=>by obtain⟨x,h1,h2,h3⟩:=gj i u hu;exact⟨by simp[h1,h2],h3⟩) hmc
 refine gk.mono ?_
 rintro e w' ⟨S',G',nd,gW,rfl,gP,cG,fX,mf,az⟩
 have fb:∀b x,Γ.St b=jh x->aft Γ.St Sc S' b=jh x:=fun b x hx=>by simp only[aft,hS0 b x hx,hx]
 have bw:zBX Γ.St (aft Γ.St Sc S') Γ.W Γ.w0.heap.size:=⟨fb,fun b hb gZ=>by
  simp only[aft]at gZ;split at gZ
  ·rename_i hs
   rcases gW.nw b hs gZ with h|⟨s,z,h,_⟩
   ·exact .inl (by have:=hm.sz;omega)
   ·exact(hm.ow b _ h).2.1
  ·exact absurd hb gZ⟩
 refine⟨_,rfl,aft Γ.St Sc S',G.back G' w.heap.size d rw nd,bw,?_⟩;have mj:∀b,b<w.heap.size-> ¬zAo G rw b->w'.heap[b]? =w.heap[b]?:=gP.fr;have gr:w.heap.size<=w'.heap.size:=gP.sz;have gH:Blk w w':=gP.bk.blk
 generalize hGn:G.back G' w.heap.size d rw nd=Gn
 have ghdd:∀z,Gn.hd d z=zTP G' nd z:=fun z=>by rw[<-hGn];simp[Gh.back]
 have gadd:∀z,Gn.ad d z=zXV G' nd z:=fun z=>by rw[<-hGn];simp[Gh.back]
 have ghd0:∀s z,s≠d->s∉rw.map (·.2.1)->Gn.hd s z=G.hd s z:=fun s z h1 h2=>by rw[<-hGn];simp[Gh.back,h1,zLY h2]
 have gad0:∀s z,s≠d->s∉rw.map (·.2.1)->Gn.ad s z=G.ad s z:=fun s z h1 h2=>by rw[<-hGn];simp[Gh.back,h1,zLY h2]
 have eJ:∀i s u,(i,s,u)∈rw->s≠d:=fun i s u h e=>mO.1 (e▸Je.2 ⟨_,h,rfl⟩)
 have ghdr:∀i s u z,(i,s,u)∈rw->Gn.hd s z=G'.hd i z:=fun i s u z h=>by rw[<-hGn];simp[Gh.back,eJ i s u h,zCh rw mO.2 h]
 have gadr:∀i s u z,(i,s,u)∈rw->z≠[]->Gn.ad s z=G'.ad i z:=fun i s u z h h0=>by rw[<-hGn];simp[Gh.back,eJ i s u h,zCh rw mO.2 h,h0]
 have gadr0:∀i s u,(i,s,u)∈rw->Gn.ad s []=G.ad s []:=fun i s u h=>by rw[<-hGn];simp[Gh.back,eJ i s u h,zCh rw mO.2 h]
 have glb0:∀b o l,¬zAo G rw b->G.lb b o=jh l->Gn.lb b o=jh l:=fun b o l h1 h2=>by have:=(hm.lb b o _ h2).1;rw[<-hGn];simp only[Gh.back];rw[if_neg (by rintro(h|h);exact h1 h;omega)];exact h2
 have gow0:∀b l,¬zAo G rw b->G.ow b=jh l->Gn.ow b=jh l:=fun b l h1 h2=>by have:=(hm.ow b _ h2).1;rw[<-hGn];simp only[Gh.back];rw[if_neg (by rintro(h|h);exact h1 h;omega)];exact h2
 have gI:∀b o l,G'.lb b o=jh l->zAo G rw b\/w.heap.size<=b:=fun b o l h=>(gP.lb b o l h).2.1.symm
 have br:∀b l,G'.ow b=jh l->zAo G rw b\/w.heap.size<=b:=fun b l h=>(gP.ow b l h).2.1.symm
 have glb1:∀b o fl s z s' z',G'.lb b o=jh (fl,s,z)->zDq d rw nd s z=jh (s',z')->Gn.lb b o=jh (fl,s',z'):=fun b o fl s z s' z' h1 h2=>by rw[<-hGn];simp only[Gh.back];rw[if_pos (gI b o _ h1),h1];simp[h2]
 have gow1:∀b s z l,G'.ow b=jh (s,z)->zDq d rw nd s z=jh l->Gn.ow b=jh l:=fun b s z l h1 h2=>by rw[<-hGn];simp only[Gh.back];rw[if_pos (br b _ h1),h1];simp[h2]
 have dD:∀i s u z,(i,s,u)∈rw->zDq d rw nd i z=jh (s,z):=fun i s u z h=>by simp[zDq,zLX rw bg h]
 have gC:∀x∈rw,x.1<us.length:=fun x hx=>by have:=(Jl.1 (eG x hx)).1;omega
 have hbn:∀x∈nd,∀z,zDq d rw nd x.1 z=ndB d nd x.1 z:=fun x hx z=>by have h1:=(fX x hx).2;have h2:rwS rw x.1=ji:=zTN (fun y hy e=>by have:=gC y hy;omega);simp[zDq,h2]
 have mY:∀(k:Nat) x,nd[k]? =jh x-> ∃tgt,(nd.length=1->tgt=[])/\(nd.length≠1->tgt=[k])/\(∀z,Gn.hd d (z++tgt)=G'.hd x.1 (z++x.2.1))/\(∀z,Gn.ad d (z++tgt)=G'.ad x.1 (z++x.2.1))/\ ∀z,zDq d rw nd x.1 (z++x.2.1)=jh (d,z++tgt):=by
  intro k x hk;have bU:=Lt hk
  match nd,hk,mf,hbn x bU,ghdd,gadd with
  | [y],hk,mf,hb,ghdd,gadd=>
   have hkx:y=x:=by
    cases k with
    |zero=>simpa using hk
    |succ k=>simp at hk
   subst hkx;exact⟨[],fun _=>rfl,fun h=>absurd rfl h,fun z=>by rw[ghdd];simp[zTP],fun z=>by rw[gadd];simp[zXV],fun z=>by rw[hb];simp[ndB]⟩
  | [],hk,_,_,_,_=>simp at hk
  |y1::y2::r,hk,mf,hb,ghdd,gadd=>
   refine⟨[k],fun h=>by simp at h,fun _=>rfl,fun z=>by rw[ghdd];simp only[zTP,Qq,Qr];simp[hk],fun z=>by rw[gadd];simp only[zXV,Qq,Qr];simp[hk],fun z=>?_⟩;rw[hb];have:=zJh (y1::y2::r) mf (k0:=0) hk;rw[Ji]at this;simp only[ndB,this];simp
 have mC:∀(k:Nat) x,nd[k]? =jh x-> ∀tgt,(∀z,Gn.hd d (z++tgt)=G'.hd x.1 (z++x.2.1))->(∀z,Gn.ad d (z++tgt)=G'.ad x.1 (z++x.2.1))->(∀z,zDq d rw nd x.1 (z++x.2.1)=jh (d,z++tgt))->R (aft Γ.St Sc S') Gn w' d x.2.2 tgt:=by intro k x hk tgt h1 h2 h3;have bU:=Lt hk;obtain⟨c1,c2,c3⟩:=gw x.2.2 (by rw[<-cG];exact Je.2 ⟨x,bU,rfl⟩);refine jO (G:=G') (w:=w') (s:=x.1) (p:=x.2.1) ⟨⟨h1,fun z _=>h2 z,fun b o f' z _ _ hl=>⟨glb1 b o f' _ _ _ _ hl (h3 z),rfl⟩,fun b z _ hl=>gow1 b _ _ _ hl (h3 z),fun b cs e h=>⟨cs,h,rfl⟩⟩,fun b o _ hl=>⟨glb1 b o jj _ _ _ _ hl (by simpa using h3 []),rfl⟩,fun b hl=>gow1 b _ _ _ hl (by simpa using h3 [])⟩ _ (yU.mono (fun _ _=>False.elim) _ c1) (c3 _ _ _ _ _ gW.le (fX x bU).1)
 have gu:sM (vV d rw) G w Gn w':=by
  have gB:∀s,(∀n,(s,n)∉vV d rw)->s≠d/\s∉rw.map (·.2.1):=fun s h=>⟨fun e=>h 0 (by simp[vV,e]),fun hm=>by obtain⟨x,hx,rfl⟩:=Je.1 hm;exact h _ (zHk hx)⟩
  have cH:∀b s y,G.ow b=jh (s,y)->s∉rw.map (·.2.1)-> ¬zAo G rw b:=by
   rintro b s y h1 h2 ⟨s',z',h3,h4⟩
   rw[h1]at h3;simp at h3;exact h2 (h3.1▸h4)
  refine⟨fun s p h=>?_,fun s p h=>?_,fun b o fl s p gV h1 h2=>?_,fun b s p h1 h2=>?_,gH⟩
  ·have h1:s≠d:=fun e=>absurd (h 0 (by simp[vV,e])) (by simp)
   by_cases h2:s∈rw.map (·.2.1)
   ·
    obtain⟨x,hx,rfl⟩:=Je.1 h2;have hc:=h _ (zHk hx);have c2:x.2.2.single=jj:=by
     cases pm:x.2.2.single with
     |true=>rfl
     |false=>simp[cLv,pm]at hc
    have h3:p=[]:=Ke (by simp only[cLv,c2,if_true]at hc;omega);subst h3;obtain⟨_,_,u,c4,c5,c6⟩:=aA x hx;rw[c2]at c5;have c5:=c5.symm;obtain⟨_,u0,e1,e2⟩:=az x.1 x.2.2 (Je.2 ⟨x,hx,rfl⟩);rw[c6]at e1;simp at e1;subst e1;rw[yW c2,yW c5]at e2;rw[ghdr x.1 x.2.1 x.2.2 [] hx,e2];simp[Gh.arg,eG x hx]
   ·exact ghd0 s p h1 h2
  ·have h1:s≠d:=fun e=>absurd (h 0 (by simp[vV,e])) (by simp)
   by_cases h2:s∈rw.map (·.2.1)
   ·obtain⟨x,hx,rfl⟩:=Je.1 h2
    have hc:=h _ (zHk hx);have h3:p=[]:=Ke (by have:cLv x.2.2<=1:=(by unfold cLv;split<;>omega);omega);subst h3;exact gadr0 x.1 x.2.1 x.2.2 hx
   ·exact gad0 s p h1 h2
  ·obtain⟨h3,h4⟩:=gB s h2
   obtain⟨y,hy⟩:=gV;have h5:=cH b s y hy h4;exact⟨glb0 b o _ h5 h1,by simp[yN,World.cell?,mj b (hm.lb b o _ h1).1 h5]⟩
  ·obtain⟨h3,h4⟩:=gB s h2
   exact gow0 b _ (cH b s p h1 h4) h1
 have gp:Mem (Γ.at (aft Γ.St Sc S')) Gn w':=by
  have gz:∀b,b<w'.heap.size/\(w.heap.size<=b\/zAo G rw b)/\S' b=ji->zBW (Γ.at (aft Γ.St Sc S')) w' b:=fun b ⟨hb,h,gF⟩=>by
   have t8:Sc b=ji:=by
    cases hs:Sc b with
    |none=>rfl
    |some x=>rw[gW.le b x hs]at gF;cases gF
   refine⟨hb,?_,by simp only[aft,t8];exact gF⟩;rcases h with h|⟨s,z,h1,_⟩
   ·exact .inl (by have:=hm.sz;show Γ.w0.heap.size<=b;omega)
   ·exact(hm.ow b _ h1).2.1
  have gD:∀b,¬(zAo G rw b\/w.heap.size<=b)->zBW Γ w b->zBW (Γ.at (aft Γ.St Sc S')) w' b:=fun b h ⟨h1,h2,h3⟩=>by
   refine⟨by omega,h2,?_⟩;simp only[aft];split
   ·rename_i hs
    cases gF:S' b with
    |none=>rfl
    |some x=>
     rcases gW.nw b hs (by rw[gF];simp)with h4|h4
     ·exact absurd (.inr h4) h
     ·exact absurd (.inl h4) h
   ·exact h3
  refine⟨fun s z=>?_,fun b o l hl=>?_,fun b l hl=>?_,fun b x hx=>?_,fun b(h1:b<Γ.w0.heap.size) h2=>?_,H9 hm.sz gr,hm.bk.trans gH gP.bk.os gP.bk.out⟩
  ·by_cases h1:s=d
   ·subst h1
    rw[ghdd];unfold zTP;split
    ·exact gP.one _ _
    ·split
     ·split
      ·exact gP.one _ _
      ·rfl
     ·rfl
   ·by_cases h2:s∈rw.map (·.2.1)
    ·obtain⟨x,hx,rfl⟩:=Je.1 h2
     rw[ghdr x.1 x.2.1 x.2.2 z hx];exact gP.one _ _
    ·rw[ghd0 s z h1 h2];exact hm.one _ _
  ·rw[<-hGn]at hl
   simp only[Gh.back]at hl;split at hl
   ·rename_i pQ
    split at hl
    ·rename_i hg
     exact gz b (gP.lb b o _ hg)
    ·cases hl
   ·rename_i pQ
    exact gD b pQ (hm.lb b o l hl)
  ·rw[<-hGn]at hl
   simp only[Gh.back]at hl;split at hl
   ·rename_i pQ
    split at hl
    ·rename_i hg
     exact gz b (gP.ow b _ hg)
    ·cases hl
   ·rename_i pQ
    exact gD b pQ (hm.ow b l hl)
  ·simp only[aft]at hx
   split at hx
   ·exact gP.st b x hx
   have h1:=hm.st b x hx;have h2:=(H8.1 h1).1;have h3:¬zAo G rw b:=by
    rintro⟨s,z,h4,_⟩
    rw[(hm.ow b _ h4).2.2]at hx;cases hx
   rw[mj b h2 h3];exact h1
  ·have h3:¬zAo G rw b:=by
    rintro⟨s,z,h4,_⟩
    rcases(hm.ow b _ h4).2.1 with h5|h5
    ·omega
    ·exact h2 h5
   rw[mj b (by have:=hm.sz;omega) h3];exact hm.fr b h1 h2
 have iw:nd.length=res.length:=by rw[<-cG];simp
 refine⟨gu,g9.up fb (by simp) gu gp ?_ ?_⟩
 ·intro s hs
  obtain⟨h1,h2⟩:=zTR hs;refine⟨fun n hn=>?_,by rw[Jj];simp[Ne.symm h1]⟩;simp only[vV,J9,Jal.injEq,Je]at hn;rcases hn with⟨e,_⟩|⟨x,hx,e,_⟩
  ·exact h1 e
  ·exact h2 (Je.2 ⟨x,hx,e⟩)
 ·intro s t hs
  rcases zTQ hs with⟨rfl,ht⟩|⟨gc,i,u,cK,ht⟩
  ·simp at ht
   subst ht;rw[Jj];simp only[g9.size,hd,if_true];have pD:res=nd.map (·.2.2):=cG.symm
   by_cases hl:nd.length=1
   ·obtain⟨x,hx⟩:∃x,nd=[x]:=List.length_eq_one_iff.1 hl
    obtain⟨tgt,t1,_,t3,t4,t5⟩:=mY 0 x (by simp[hx]);obtain rfl:=t1 hl;have hr:=mC 0 x (by simp[hx]) [] t3 t4 t5;obtain⟨c1,c2,_⟩:=gw x.2.2 (by rw[pD,hx];simp);have fh:zFs res=x.2.2:=by rw[pD,hx];rfl
    have hJ:∀ys,x.2.2≠.tup ys:=fun ys e=>by rw[e]at c2;simp[T.okTup]at c2
    rw[fh];refine⟨?_,hr,Top.of_clean _ c1⟩;rw[jZ Gn s _ [] hJ,zBu x.2.2 x.2.1 [] t3,hx];rfl
   ·have fh:zFs res=.tup res:=by
     rw[iw]at hl
     match res,hl with
     | [],_=>rfl
     | [u],hl=>simp at hl
     |_::_::_,_=>rfl
    rw[fh];have gE:∀k x,nd[k]? =jh x-> ∀z,Gn.hd s (z++[0+k])=G'.hd x.1 (z++x.2.1):=fun k x hk z=>by obtain⟨tgt,_,t2,t3,_,_⟩:=mY k x hk;rw[t2 hl]at t3;rw[Ji];exact t3 z
    refine⟨?_,?_,?_⟩
    ·have hv:=zQy (Gn:=Gn) (G':=G') (d:=s) nd 0 gE
     rw[cG]at hv;simp only[mkV,hv];unfold zLT;split
     ·simp at hl
     ·rfl
    ·simp only[R]
     rw[pD];refine zQn _ [] 0 (fun k u hu=>?_);rw[Jw]at hu;cases hk:nd[k]? with
     |none=>simp[hk]at hu
     |some x=>
      simp[hk]at hu;subst hu;obtain⟨tgt,_,t2,t3,t4,t5⟩:=mY k x hk;rw[t2 hl]at t3 t4 t5;rw[Ji];exact mC k x hk [k] t3 t4 t5
    ·simp only[Top]
     refine uK.of_clean _ ?_;have:∀us:List T,(∀u∈us,zY u)->yZ us:=by
      intro us
      induction us with
      |nil=>intro _;trivial
      |cons u us ih=>intro h;exact⟨h u (by simp),ih fun v hv=>h v (by simp[hv])⟩
     exact this res fun u hu=>(gw u hu).1
  ·simp at ht
   subst ht;obtain⟨c1,c3,u0,c4,_,c6⟩:=aA _ cK;obtain⟨r1,u1,e1,e2⟩:=az i t (Je.2 ⟨_,cK,rfl⟩);simp only at c4 c6;rw[c6]at e1;simp at e1;subst e1;refine⟨?_,?_,Top.of_clean _ c1⟩
   ·rw[Jj]
    simp only[Ne.symm gc,if_false];have dl:=eG _ cK;simp only at dl;have m1:mkV Gn s t []=mkV G' i t []:=zFj t [] [] (fun z=>by rw[Jh];exact ghdr i s t z cK);have m2:mkV (G.arg a xs rw) i u0 []=mkV G s u0 []:=zFj u0 [] [] (fun z=>by simp[Gh.arg,dl]);rw[(g9.ent s u0 c4).1,m1,e2,m2]
   ·refine jO (G:=G') (w:=w') (s:=i) (p:=[]) ⟨⟨fun z=>by rw[Jh];exact ghdr i s t z cK,fun z hz=>by rw[Jh];exact gadr i s t z cK hz,fun b o f' z _ _ hl=>?_,fun b z _ hl=>?_,fun b cs e h=>⟨cs,h,rfl⟩⟩,fun b o _ hl=>⟨glb1 b o jj _ _ _ _ hl (dD i s t [] cK),rfl⟩,fun b hl=>gow1 b _ _ _ hl (dD i s t [] cK)⟩ t (yU.mono (fun _ _=>False.elim) _ c1) (c3 _ _ _ _ _ gW.le r1)
    ·rw[Jh]at hl ⊢;exact⟨glb1 b o f' _ _ _ _ hl (dD i s t z cK),rfl⟩
    ·rw[Jh]at hl ⊢;exact gow1 b _ _ _ hl (dD i s t z cK)
end
def zJi(E:Env)(rs:List Nat)(x:Operand)(t:T):Bool:=
 match x with
 |.tmp s=>sU E rs s t
 |_=>jj
def zBb(E:Env)(rw:Rw)(i:Nat)(x:Operand)(u:T):Prop:=
 (∃s u',x=.tmp s/\(i,s,u')∈rw/\E s=jh u/\zY u/\u.okTup=jj/\wI u=jj)\/(∃t,opT E x=jh t/\clo E t=u/\zJi E (rw.map (·.2.1)) x t=jj)
def xI(E:Env)(rw:Rw):Nat->List Operand->List T->Prop
 |_,[],[]=>True
 |i,x::xs,u::us=>zBb E rw i x u/\xI E rw (i+1) xs us
 |_,_,_=>False
theorem xI.length{E:Env}{rw:Rw}:(xs:List Operand)->(us:List T)-> ∀i,xI E rw i xs us->xs.length=us.length
 | [],[],_,_=>rfl
 |_::xs,_::us,i,h=>by simp[xI.length xs us (i+1) h.2]
 | [],_::_,_,h=>by simp[xI]at h
 |_::_,[],_,h=>by simp[xI]at h
theorem xI.get{E:Env}{rw:Rw}:(xs:List Operand)->(us:List T)-> ∀i,xI E rw i xs us-> ∀(j:Nat) u,us[j]? =jh u-> ∃x,xs[j]? =jh x/\zBb E rw (i+j) x u
 | [],[],_,_,_,_,h=>by simp at h
 |x::xs,v::us,i,h,j,u,hj=>by
  cases j with
  |zero=>simp at hj;subst hj;exact⟨x,by simp,h.1⟩
  |succ j=>
   obtain⟨y,h1,h2⟩:=xI.get xs us (i+1) h.2 j u (by simpa using hj);exact⟨y,by simpa using h1,by rwa [show i+(j+1)=i+1+j from by omega]⟩
 | [],_::_,_,h,_,_,_=>by simp[xI]at h
 |_::_,[],_,h,_,_,_=>by grind
structure zGu (E:Env) (d:Nat) (xs:List Operand) (us:List T) (rw:Rw):Prop where
 nodup:(d::rw.map (·.2.1)).Nodup
 nodup2:(rw.map (·.1)).Nodup
 at_:∀x∈rw,xs[x.1]? =jh (.tmp x.2.1)
 tree:∀x∈rw,zY x.2.2/\wI x.2.2=jj/\ ∃u,E x.2.1=jh u/\x.2.2.single=u.single/\us[x.1]? =jh u
theorem zGu.nil{xs:List Operand}:zGu E d xs us []:=⟨by simp,by simp,by simp,by simp⟩
theorem zGu.one{s:Nat}{xs:List Operand}(h1:d≠s)(h2:xs[i]? =jh (.tmp s))(h3:zY u')(h4:u'.single=jj)(h5:wI u'=jj)(h6:E s=jh u)(h7:u.single=jj)(h8:us[i]? =jh u):
  zGu E d xs us [(i,s,u')]:=⟨by grind,by simp,by grind,by grind⟩
theorem zGu.one'{s:Nat}{xs:List Operand}(h1:d≠s)(h2:xs[i]? =jh (.tmp s))(h3:zY u')(h4:u'.single=u.single)(h5:wI u'=jj)(h6:E s=jh u)(h8:us[i]? =jh u):
  zGu E d xs us [(i,s,u')]:=⟨by grind,by simp,by grind,by grind⟩
section
variable {P:Program}{Γ:Ctx}{E:Env}{o:Oper}{d:Nat}
theorem zQz{w:World}(g9:Rep Γ E G a.tmps w){xs:List Operand}(hr:zGu E d xs us rw){Sc:Stb}(ee:∀b x,Γ.St b=jh x->Sc b=jh x)
  (ef:∀r,r∉rw.map (·.2.1)-> ∀b,(∃y,G.ow b=jh (r,y))->Sc b=w.heap[b]?)(hx:xs[i]? =jh x)(hu:us[i]? =jh u)(h:zBb E rw i x u):
  a.eval x=mkV (G.arg a xs rw) i u []/\R Sc (G.arg a xs rw) w i u []:=by
 rcases h with⟨s,u',rfl,h1,h2,h3,h4,h5⟩|⟨t,h1,rfl,h3⟩
 ·obtain⟨e1,e2,_⟩:=g9.ent s u h2
  have gE:∀z,(G.arg a xs rw).hd i z=G.hd s z:=by grind[Gh.arg]
  have eQ:∀z,(G.arg a xs rw).ad i z=G.ad s z:=by grind[Gh.arg]
  have hi:=zCh rw (La.1 hr.nodup).2 h1;refine⟨by grind[xV,zFj],?_⟩;refine zOq u [] h5 (jO (St:=Γ.St) (G:=G) (w:=w) (s:=s) (p:=[]) ⟨⟨by grind,by grind,fun b o' f' z _ gV hl=>?_,fun b z _ hl=>?_,fun b cs e h=>⟨cs,h,rfl⟩⟩,fun b o' gV hl=>?_,fun b hl=>?_⟩ u (by grind[yU.mono]) e2)
  ·obtain⟨y,hy⟩:=gV
   exact⟨by grind[Gh.arg],rfl⟩
  ·grind[Gh.arg]
  ·obtain⟨y,hy⟩:=gV
   exact⟨by grind[Gh.arg],rfl⟩
  grind[Gh.arg]
 ·cases x with
  |tmp s=>
   have gE:∀z,(G.arg a xs rw).hd i z=G.hd s z:=by grind[Gh.arg]
   obtain⟨e1,e2,_⟩:=g9.ent s t h1
   grind[zJi,xV,zKz,zZG]
  |const v=>
   simp only[opT]at h1;split at h1
   ·rename_i gn
    simp at h1;subst h1;have gE:(G.arg a xs rw).hd i []=v:=by grind[Gh.arg,Act.eval,jQ]
    exact⟨by grind[clo,mkV,Act.eval],by simp[clo,R,gE]⟩
   ·cases h1
  |func f=>
   simp only[opT]at h1;simp at h1;subst h1;have gE:(G.arg a xs rw).hd i []=.func (.func f) #[] #[]:=by grind[Gh.arg,Act.eval,jC,Value.oneCell']
   exact⟨by grind[clo,mkV,Act.eval],by simp[clo,R,gE]⟩
  |global g=>grind[opT]
theorem zCN{E:Env}:(t:T)->t.flat=jj->(∀rs s,sU E rs s t=jj)/\clo E t=t
 |.lit _,_|.ro _,_=>by simp[sU,clo]
 |.agg ts,h=>by
  simp only[T.flat]at h;have:=go ts h
  grind[sU,clo]
 |.any,h|.same _ _,h|.addr _ _,h|.sub _ _ _ _ _,h|.sl _ _,h|.ptr _,h|.tup _,h=>by grind[T.flat]
where go:(ts:List T)->kT ts=jj->(∀rs s,zAn E rs s ts=jj)/\zBa E ts=ts
 | [],_=>by simp[zAn,zBa]
 |x::xs,h=>by simp only[kT,J4]at h;simp only[zAn,zBa,J4];exact⟨fun rs s=>⟨(zCN x h.1).1 rs s,(go xs h.2).1 rs s⟩,by rw[(zCN x h.1).2,(go xs h.2).2]⟩
theorem zCi{w:World}{K:Act->World->Prop}{Q:Exit->Act->World->Prop}{f:FuncId}{xf:Operand}{xs:List Operand}(ho:o.op=.call { callee:=.value xf,args:=xs.toArray,argTypes:=ats })(gg:o.dst=jh d)
  (gk:∀args w,(callFunc f args).run P w=.ok (.enter f args) w)(hf:a.eval xf=.func (.func f) #[] #[])
  (h:Calls P f (xs.map a.eval).toArray w fun e w'=> ∃v,e=.returned v/\K (a.put (jh d) v) w'):o.wp P a w K Q:=by
 have gx:(execOp a.eval o).run P w=.ok (.enter f (xs.map a.eval).toArray) w:=by simp[execOp,ho,resolve,hf,Deferred.ofValue,invoke,gk]
 unfold Oper.wp;rw[gx,Oper.upon_enter];refine h.mono ?_
 grind
theorem zHl{w:World}(g9:Rep Γ E G a.tmps w)(hd:d<Γ.N)(f:FuncId)(xs:List Operand)(us res:List T)(rw:Rw)
  (hc:FnC P f us res (rw.map fun x=>(x.1,x.2.2)))(gj:xI E rw 0 xs us)(hr:zGu E d xs us rw)(gw:yZ res/\yM res=jj/\vE res=jj):
  Calls P f (xs.map a.eval).toArray w fun e w'=> ∃v,e=.returned v/\ ∃S G',zBX Γ.St S Γ.W Γ.w0.heap.size/\sM (vV d rw) G w G' w'/\Rep (Γ.at S) (E.app (cWr d res rw) (vV d rw)) G' (a.tmps.setIfInBounds d v) w':=by
 classical
 have hm:=g9.mem
 let Sc:Stb:=fun b=>if zAo G rw b then ji else w.heap[b]?
 have ee:∀b x,Γ.St b=jh x->Sc b=jh x:=fun b x hx=>by
  have h3:¬zAo G rw b:=by
   rintro⟨s,z,h4,_⟩
   rw[(hm.ow b _ h4).2.2]at hx;cases hx
  simp only[Sc,h3,if_false];exact hm.st b x hx
 have ef:∀r,r∉rw.map (·.2.1)-> ∀b,(∃y,G.ow b=jh (r,y))->Sc b=w.heap[b]?:=fun r tc b ⟨y,hy⟩=>by
  have h3:¬zAo G rw b:=by
   rintro⟨s,z,h4,h5⟩
   grind
  grind
 have fM:∀(us:List T),yZ us/\yM us=jj/\vE us=jj-> ∀u∈us,zY u/\u.okTup=jj/\wI u=jj:=by
  intro us
  induction us with
  |nil=>simp
  |cons v us ih=>
   intro⟨h1,h2,h3⟩ u hu;simp only[yM,vE,J4]at h2 h3;rcases J9.1 hu with rfl|hu
   ·exact⟨h1.1,h2.1,h3.1⟩
   ·exact ih ⟨h1.2,h2.2,h3.2⟩ u hu
 exact zEv g9 hd (Sc:=Sc) (rw:=rw) (by grind) ee hc (xI.length xs us 0 gj) (fun i u hu=>by
   obtain⟨x,h1,h2⟩:=xI.get xs us 0 gj i u hu;rw[Ji]at h2
   grind[zQz]) hr.nodup hr.nodup2 hr.at_
  (by grind[zOq])
  (fun x hx=>by
   obtain⟨h1,h3,h4⟩:=hr.tree x hx
   grind[zOq])
theorem zK0(f:FuncId)(xf:Operand)(xs:List Operand)(ats:Array TypeId)(us res:List T)(rw:Rw)(ho:o.op=.call { callee:=.value xf,args:=xs.toArray,argTypes:=ats })(gg:o.dst=jh d)(hd:d<Γ.N)
  (gk:∀args w,(callFunc f args).run P w=.ok (.enter f args) w)(hf:opT E xf=jh (.lit (.func (.func f) #[] #[])))
  (hc:FnC P f us res (rw.map fun x=>(x.1,x.2.2)))(gj:xI E rw 0 xs us)(hr:zGu E d xs us rw)(gw:yZ res/\yM res=jj/\vE res=jj):
  xX P Γ o E (E.app (cWr d res rw) (vV d rw)):=by
 intro a w K Q ⟨gK,G,g9⟩ hK;refine zCi ho gg gk (wC g9 hf).1 ?_;refine(zHl g9 hd f xs us res rw hc gj hr gw).mono ?_
 rintro e w' ⟨v,rfl,S,G',hS,_,gm⟩
 exact⟨v,rfl,hK _ _ ⟨S,hS,gK,G',gm⟩⟩
theorem zLZ(f:FuncId)(xf:Operand)(xs:List Operand)(ats:Array TypeId)(us res:List T)(i ds r:Nat)(q:List Nat)(tr u u':T)(ho:o.op=.call { callee:=.value xf,args:=xs.toArray,argTypes:=ats })(gg:o.dst=jh d)(hd:d<Γ.N)
  (gk:∀args w,(callFunc f args).run P w=.ok (.enter f args) w)(hf:opT E xf=jh (.lit (.func (.func f) #[] #[])))
  (hs:E ds=jh (.same r q))(hr:E r=jh tr)(hq:tr.get q.reverse=jh u)(hu:u.single=jj)(eI:zY u)(gX:ds≠r)(hdr2:d≠r)(gz:tr.okB [(ds,1),(r,q.length+1)]=jj)(pm:xZ tr=jj)
  (E1 E2:Env)(bL:E1=E.app [(ds,jh u),(r,jh (if q=[]then .same ds []else tr.set q.reverse .any))] [(ds,1),(r,q.length+1)])(gN:E2=E1.app (cWr d res [(i,ds,u')]) (vV d [(i,ds,u')]))
  (hc:FnC P f us res [(i,u')])(gj:xI E1 [(i,ds,u')] 0 xs us)(cK:zGu E1 d xs us [(i,ds,u')])(gw:yZ res/\yM res=jj/\vE res=jj)
  (tr2 v0:T)(ma:E2 r=jh tr2)(i7:tr2.get q.reverse=jh v0)(aj:v0.single=jj)(pA:E2 ds=jh u')(eH:zY u')(fq:u'.single=jj)(me:tr2.okB [(r,q.length+1),(ds,1)]=jj)(hc3:xZ tr2=jj)(hok3:u'.okB [(r,q.length+1),(ds,1)]=jj)(hc4:xZ u'=jj):
  xX P Γ o E (E2.app [(r,jh (tr2.set q.reverse u')),(ds,jh (.same r q))] [(r,q.length+1),(ds,1)]):=by
 have bi:cLv u'=1:=by grind[cLv]
 intro a w K Q ⟨gK,G,g9⟩ hK;refine zCi ho gg gk (wC g9 hf).1 ?_;have gL:G.hd ds []=G.hd r q:=by have:=(g9.ent ds _ hs).2.1;simpa only[R]using this
 obtain⟨cD,iI⟩:=zDD g9 ds [] r q (.same r q) tr u (.same r q) hs rfl rfl gL hr hq hu eI gX (by grind[T.okB,kS]) (by omega) rfl pm;have jg:E.app [(ds,jh ((T.same r q).set [].reverse u)),(r,jh (if q=[]then .same ds []else tr.set q.reverse .any))] [(ds,([]:List Nat).length+1),(r,q.length+1)]=E1:=by rw[bL];rfl
 rw[jg]at cD;refine(zHl cD hd f xs us res [(i,ds,u')] hc gj cK gw).mono ?_
 rintro e w' ⟨v,rfl,S,G',hS,hk,gm⟩
 rw[<-gN]at gm;have hdds:d≠ds:=by have:=cK.nodup;grind
 have h1:G'.hd r q=(G.tr ds [] r q).hd r q:=hk.hd r q (fun n hn=>by grind[vV]);have h2:G'.hd ds []=(G.tr ds [] r q).hd ds []:=hk.hd ds [] (fun n hn=>by grind[vV]);have fV:G'.hd r q=G'.hd ds []:=by grind
 obtain⟨cC,_⟩:=zDD gm r q ds [] tr2 u' u' v0 ma i7 aj fV pA rfl fq eH (Ne.symm gX) (by omega) (by omega) hc3 hc4;refine⟨v,rfl,hK _ _ ⟨S,hS,gK,G'.tr r q ds [],?_⟩⟩;have hw:(if([]:List Nat)=[]then T.same r q else u'.set ([]:List Nat).reverse .any)=T.same r q:=if_pos rfl;rw[hw]at cC;exact cC
theorem zTS(f:FuncId)(xf:Operand)(xs:List Operand)(ats:Array TypeId)(us res:List T)(ho:o.op=.call { callee:=.value xf,args:=xs.toArray,argTypes:=ats })(gg:o.dst=jh d)(hd:d<Γ.N)
  (gk:∀args w,(callFunc f args).run P w=.ok (.enter f args) w)(hf:opT E xf=jh (.lit (.func (.func f) #[] #[])))
  (hc:FnC P f us res [])(gf:xs.length=us.length)(gj:∀(i:Nat) u,us[i]? =jh u-> ∃x,xs[i]? =jh x/\opT E x=jh u/\u.flat=jj)(gw:yZ res/\yM res=jj):
  xX P Γ o E (E.app (cWr d res []) (vV d [])):=by
 intro a w K Q ⟨gK,G,g9⟩ hK;have hm:=g9.mem;refine zCi ho gg gk (wC g9 hf).1 ?_;have cH:∀b,¬zAo G [] b:=by rintro b ⟨s,z,_,h⟩;simp at h
 have fM:∀(us:List T),yZ us/\yM us=jj-> ∀u∈us,zY u/\u.okTup=jj:=by
  intro us
  induction us with
  |nil=>simp
  |cons v us ih=>
   intro⟨h1,h2⟩ u hu;simp only[yM,J4]at h2;rcases J9.1 hu with rfl|hu
   ·exact⟨h1.1,h2.1⟩
   ·exact ih ⟨h1.2,h2.2⟩ u hu
 have:=zEv g9 hd (Sc:=Γ.St) (rw:=[]) (fun b x hx=>⟨hm.st b x hx,cH b⟩) (fun _ _ h=>h) hc gf (fun i u hu=>by
   obtain⟨x,h1,h2,h3⟩:=gj i u hu;refine⟨x,h1,?_⟩;have bx:=zCN (E:=E) u h3;cases x with
   |tmp s=>
    have gE:∀z,(G.arg a xs []).hd i z=G.hd s z:=by grind[Gh.arg]
    obtain⟨e1,e2,_⟩:=g9.ent s u h2;refine⟨?_,by grind[zKu]⟩;have:=zKz (E:=E) gE u (bx.1 [] s)
    grind[xV]
   |const v=>
    simp only[opT]at h2;split at h2
    ·rename_i gn
     simp at h2;subst h2;have gE:(G.arg a xs []).hd i []=v:=by grind[Gh.arg,Act.eval,jQ]
     exact⟨by grind[mkV,Act.eval],by simp[R,gE]⟩
    ·cases h2
   |func f=>
    simp only[opT]at h2;simp at h2;subst h2;have gE:(G.arg a xs []).hd i []=.func (.func f) #[] #[]:=by grind[Gh.arg,Act.eval,jC,Value.oneCell']
    exact⟨by grind[mkV,Act.eval],by simp[R,gE]⟩
   |global g=>grind[opT]) (by simp) (by simp) (by simp)
  (fun u hu=>⟨by grind,by grind,fun S' G w s p hS h=>by
   have:aft Γ.St Γ.St S'=S':=funext (by grind[aft])
   grind⟩) (by simp)
 refine this.mono ?_
 rintro e w' ⟨v,rfl,S,G',hS,_,gm⟩
 exact⟨v,rfl,hK _ _ ⟨S,hS,gK,G',gm⟩⟩
end
def vW:List (Nat×T)->Env
 | [],_=>ji
 |(k,t)::l,s=>if k=s then jh t else vW l s
def Env.Has(E:Env):List (Nat×T)->Prop
 | []=>True
 |(s,t)::l=>E s=jh t/\E.Has l
theorem Env.Has.le:{l:List (Nat×T)}->E.Has l-> ∀s t,vW l s=jh t->E s=jh t
 | [],_,s,t,h=>by grind[vW]
 |(k,u)::l,hh,s,t,h=>by
  simp only[vW]at h;split at h
  ·rename_i e
   subst e;rw[hh.1];exact h
  ·exact hh.2.le s t h
theorem Sim.weaken{w:World}(h:Sim Γ E a w)(fd:∀s t,E' s=jh t->E s=jh t):Sim Γ E' a w:=by obtain⟨h1,G,h2⟩:=h;exact⟨h1,G,⟨h2.size,fun s t hs=>h2.ent s t (fd s t hs),h2.mem⟩⟩
theorem qJ.weaken{w:World}(h:qJ Γ E a w)(fd:∀s t,E' s=jh t->E s=jh t):qJ Γ E' a w:=by obtain⟨S,h1,h2⟩:=h;exact⟨S,h1,h2.weaken fd⟩
abbrev sG:=List (Nat×Value)
def sG.Hold(pn:sG)(a:Act):Prop:=∀x∈pn,a.tmps[x.1]? =jh x.2
def sG.ok(pn:sG)(d:Option Nat):Bool:=match d with
 |none=>jj
 |some d=>pn.all fun x=>x.1 != d
theorem Oper.wp_frame{o:Oper}{w:World}{K:Act->World->Prop}{Q:Exit->Act->World->Prop}(h:o.wp P a w K Q):
  o.wp P a w (fun a' w'=>K a' w'/\ ∀s,o.dst≠jh s->a'.tmps[s]? =a.tmps[s]?) Q:=by
 have key:∀(v:Value)(ds:List Deferred),∀s,o.dst≠jh s->(({ a with defers:=ds }:Act).put o.dst v).tmps[s]? =a.tmps[s]?:=by
  intro v ds s hs;cases hd:o.dst with
  |none=>rfl
  |some d=>
   grind[Act.put]
 have key0:∀(v:Value),∀s,o.dst≠jh s->(a.put o.dst v).tmps[s]? =a.tmps[s]?:=fun v=>key v a.defers
 unfold Oper.wp at*
 generalize (execOp a.eval o).run P w=r at*
 cases r with
 |ok n w'=>
  cases n<;>simp only[Oper.upon]at h ⊢
  all_goals grind
 |halt x w'=>cases x<;>simp only[Oper.upon]at h ⊢ <;>exact h
theorem sG.Hold.frame{pn:sG}{a':Act}{d:Option Nat}(h:pn.Hold a)(gz:pn.ok d=jj)(hf:∀s,d≠jh s->a'.tmps[s]? =a.tmps[s]?):pn.Hold a':=by
 intro x hx;rw[hf x.1 ?_]
 ·exact h x hx
 ·rintro rfl
  have:=Kh.1 gz x hx
  grind
section
variable (P:Program) (Γ:Ctx) (pn:sG)
def CW(c:Code)(E:Env)(Q:Exit->Env->Prop):Prop:=
 ∀(a:Act)(w:World)(Q':Exit->Act->World->Prop),qJ Γ E a w->pn.Hold a->(∀e E' a' w',Q e E'->qJ Γ E' a' w'->pn.Hold a'->Q' e a' w')->c.wp P Q' a w
def wK(ops:Array Oper)(o:Oper)(E E':Env):Prop:=
 ∀(a:Act)(w:World)(K:Act->World->Prop)(Q:Exit->Act->World->Prop),qJ Γ E a w->(∀a' w',qJ Γ E' a' w'->(∀s,o.dst≠jh s->a'.tmps[s]? =a.tmps[s]?)->K a' w')->
  if Region.wanted o (yielded ops a.tmps)then o.wp P a w K Q\/(o.asks P a w/\LetsOut Q)else K (a.put o.dst undef) w
def wpL(ops:Array Oper)(Q:Exit->Act->World->Prop):List Oper->Act->World->Prop
 | [],a,w=>Q .normal a w
 |o::os,a,w=>if Region.wanted o (yielded ops a.tmps)then o.wp P a w (wpL ops Q os) Q\/(o.asks P a w/\LetsOut Q)else wpL ops Q os (a.put o.dst undef) w
def RW(ops:Array Oper)(os:List Oper)(E:Env)(Q:Exit->Env->Prop):Prop:=
 ∀(a:Act)(w:World)(Q':Exit->Act->World->Prop),qJ Γ E a w->pn.Hold a->(∀e E' a' w',Q e E'->qJ Γ E' a' w'->pn.Hold a'->Q' e a' w')->wpL P ops Q' os a w
end
section
variable {P:Program}{Γ:Ctx}{pn:sG}{E E':Env}{Q Q1:Exit->Env->Prop}{c c1 c2:Code}{ops:Array Oper}{o:Oper}{os:List Oper}{d:Nat}
theorem zK1{Q':Exit->Act->World->Prop}:∀(os:List Oper)(n:Nat)(a:Act)(w:World),ops.toList.drop n=os->wpL P ops Q' os a w->wpOps P ops Q' (K8 n os.length) a w
 | [],n,a,w,_,h=>by simpa[wpOps,wpL]using h
 |o::os,n,a,w,hd,h=>by
  have ho:ops[n]? =jh o:=by
   have:=congrArg (·[0]?) hd
   grind
  have mP:ops.toList.drop (n+1)=os:=by
   have:=congrArg List.tail hd
   grind[List.tail_drop]
  simp only[J7,Hp,wpOps,ho];simp only[wpL]at h;split
  ·rename_i hw
   simp only[hw,if_true]at h;exact h.imp (Oper.wp_mono fun a w=>zK1 os (n+1) a w mP) id
  ·rename_i hw
   simp only[hw]at h;exact zK1 os (n+1) _ w mP h
theorem CW.region(h:RW P Γ pn ops ops.toList E Q):CW P Γ pn (.region id ops jk) E Q:=by
 intro a w Q' hs hp hQ;refine wp_region ?_;have:=zK1 (P:=P) ops.toList 0 a w (by simp) (h a w Q' hs hp hQ)
 grind[Kw]
theorem RW.nil(h:Q .normal E):RW P Γ pn ops [] E Q:=fun a w Q' hs hp hQ=>by
 simp only[wpL]
 grind
theorem RW.cons(h1:wK P Γ ops o E E')(h3:RW P Γ pn ops os E' Q)(h2:pn.ok o.dst=jj:=by rfl):RW P Γ pn ops (o::os) E Q:=by
 intro a w Q' hs hp hQ;simp only[wpL];have:=h1 a w (wpL P ops Q' os) Q' hs fun a' w' gF hf=>h3 a' w' Q' gF (hp.frame h2 hf) hQ
 exact this
theorem wK.op(h:∀S,xX P (Γ.at S) o E E')(hg:o.guard=ji:=by rfl):wK P Γ ops o E E':=by
 intro a w K Q hs hK;have hw:Region.wanted o (yielded ops a.tmps)=jj:=by simp[Region.wanted,hg]
 rw[if_pos hw];refine .inl ?_;obtain⟨S,hS,hs⟩:=hs;have:=Oper.wp_frame (h S a w (fun a' w'=>qJ Γ E' a' w') Q hs fun a' w' h=>h.up hS)
 grind[Oper.wp_mono]
theorem zHm{w:World}(hs:qJ Γ E a w){g s:Nat}{b:Bool}(fm:(ops[g]?).bind (·.dst)=jh s)(h:E s=jh (.lit (.bool b))):yielded ops a.tmps g=jh b:=by
 obtain⟨_,_,_,G,hr⟩:=hs;obtain⟨h1,h2,_⟩:=hr.ent s _ h;simp only[R]at h2
 grind[yielded,mkV]
theorem wK.guard(g:Nat)(b:Bool)(s:Nat)(h:∀S,xX P (Γ.at S) o E E')(hg:o.guard=jh (g,b):=by rfl)(fm:(ops[g]?).bind (·.dst)=jh s:=by rfl)(hb:E s=jh (.lit (.bool b)):=by rfl):wK P Γ ops o E E':=by
 intro a w K Q hs hK;have hw:Region.wanted o (yielded ops a.tmps)=jj:=by grind[Region.wanted,zHm]
 rw[if_pos hw];refine .inl ?_;obtain⟨S,hS,hs⟩:=hs;have:=Oper.wp_frame (h S a w (fun a' w'=>qJ Γ E' a' w') Q hs fun a' w' h=>h.up hS)
 grind[Oper.wp_mono]
def zR(Γ:Ctx)(E E':Env):Prop:=∀(a:Act)(w:World),qJ Γ E a w->qJ Γ E' a w
theorem zR.refl:zR Γ E E:=fun _ _ h=>h
theorem zR.trans{E2 E3:Env}(h:zR Γ E1 E2)(h':zR Γ E2 E3):zR Γ E1 E3:=fun a w hs=>h' a w (h a w hs)
theorem zR.has{l:List (Nat×T)}(h:E.Has l):zR Γ E (vW l):=fun _ _ hs=>hs.weaken h.le
theorem CW.ghost(h1:zR Γ E E')(h:CW P Γ pn c E' Q):CW P Γ pn c E Q:=fun a w Q' hs=>h a w Q' (h1 a w hs)
theorem RW.ghost(h1:zR Γ E E')(h:RW P Γ pn ops os E' Q):RW P Γ pn ops os E Q:=fun a w Q' hs=>h a w Q' (h1 a w hs)
theorem CW.to(l:List (Nat×T))(h1:E.Has l)(h:CW P Γ pn c (vW l) Q):CW P Γ pn c E Q:=h.ghost (.has h1)
theorem CW.mono(h:CW P Γ pn c E Q1)(hq:∀e E',Q1 e E'->Q e E'):CW P Γ pn c E Q:=fun a w Q' hs hp hQ=>h a w Q' hs hp (by grind)
theorem CW.skip(h:Q .normal E):CW P Γ pn .skip E Q:=fun _ _ _ hs hp hQ=>by grind[wp_skip]
theorem CW.ret(h:Q .ret E):CW P Γ pn .ret E Q:=fun _ _ _ hs hp hQ=>by grind[wp_ret]
theorem CW.exit(h:Q (.exit id) E):CW P Γ pn (.exit id) E Q:=fun _ _ _ hs hp hQ=>by grind[wp_exit]
def yQ(P:Program)(Γ:Ctx)(pn:sG)(c:Code)(Q:Exit->Env->Prop):Exit->Env->Prop
 |.normal,E=>CW P Γ pn c E Q
 |e,E=>Q e E
theorem CW.seq(h:CW P Γ pn c1 E (yQ P Γ pn c2 Q)):CW P Γ pn (.seq c1 c2) E Q:=by
 intro a w Q' hs hp hQ;refine wp_seq (h a w _ hs hp fun e E' a' w' h1 gF cO=>?_);cases e with
 |normal=>exact h1 a' w' Q' gF cO hQ
 |_=>exact hQ _ _ _ _ h1 gF cO
theorem CW.cond(b:Bool)(hb:opT E x=jh (.lit (.bool b)))(ht:b=jj->CW P Γ pn c1 E Q)(hf:b=jk->CW P Γ pn c2 E Q):CW P Γ pn (.cond x c1 c2) E Q:=by intro a w Q' hs hp hQ;obtain⟨_,_,_,G,hr⟩:=id hs;refine wp_cond_split (wC hr hb).1 (fun h=>ht h a w Q' hs hp hQ) (fun h=>hf h a w Q' hs hp hQ)
def yT(id:Nat)(Q:Exit->Env->Prop):Exit->Env->Prop
 |.exit id',E=>if id'=id then Q .normal E else Q (.exit id') E
 |e,E=>Q e E
theorem CW.block(h:CW P Γ pn c E (yT id Q)):CW P Γ pn (.block id c) E Q:=by
 intro a w Q' hs hp hQ;refine wp_block (h a w _ hs hp fun e E' a' w' h1 gF cO=>?_);cases e with
 |exit id'=>
  simp only[yT]at h1;simp only[Exit.inBlock]
  grind
 |_=>exact hQ _ _ _ _ h1 gF cO
end
def qX{σ ρ:Type}(body:σ->Option (σ⊕ρ)):Nat->σ->Option ρ
 |0,_=>ji
 |n+1,s=>match body s with
  |none=>ji
  |some (.inl s')=>qX body n s'
  |some (.inr r)=>jh r
theorem zHn{σ ρ:Type}{body:σ->Option (σ⊕ρ)}{r:ρ}:∀{n m:Nat}{s:σ},qX body n s=jh r->n<=m->qX body m s=jh r
 |0,_,_,h,_=>by grind[qX]
 |n+1,0,_,_,hm=>by omega
 |n+1,m+1,s,h,hm=>by
  simp only[qX]at h ⊢
  cases hb:body s with
  |none=>grind
  |some x=>
   cases x with
   |inl s'=>simp only[hb]at h ⊢;exact zHn h (by omega)
   |inr r'=>grind
open Classical in
noncomputable def zF {σ ρ:Type} (body:σ->Option (σ⊕ρ)) (s:σ):Option ρ:=
 if h:∃(n:Nat)(r:ρ),qX body n s=jh r then jh h.choose_spec.choose else ji
theorem zDI{σ ρ:Type}{body:σ->Option (σ⊕ρ)}{s:σ}{r:ρ}:zF body s=jh r↔ ∃n,qX body n s=jh r:=by
 unfold zF;constructor
 ·intro h
  split at h
  all_goals grind
 ·rintro⟨n,hn⟩
  have he:∃(n:Nat)(r:ρ),qX body n s=jh r:=⟨n,r,hn⟩;rw[dif_pos he]
  grind[zHn]
theorem yP(body:σ->Option (σ⊕ρ))(s:σ):zF body s=match body s with
  |none=>ji
  |some (.inl s')=>zF body s'
  |some (.inr r)=>jh r:=by
 apply Option.ext;intro r;rw[zDI];cases hb:body s with
 |none=>
  simp only[reduceCtorEq,iff_false]
  rintro⟨n,hn⟩
  cases n<;>simp[qX,hb]at hn
 |some x=>
  cases x with
  |inl s'=>
   simp only[];rw[zDI];constructor
   ·rintro⟨n,hn⟩
    cases n with
    |zero=>grind[qX]
    |succ n=>grind[qX]
   ·rintro⟨n,hn⟩
    exact⟨n+1,by grind[qX]⟩
  |inr r'=>
   simp only[Hn.injEq];constructor
   ·rintro⟨n,hn⟩
    cases n with
    |zero=>grind[qX]
    |succ n=>grind[qX]
   ·rintro rfl
    exact⟨1,by simp[qX,hb]⟩
section
variable {P:Program}{Γ:Ctx}{pn:sG}{E:Env}{Q:Exit->Env->Prop}{c:Code}
def wG{σ ρ:Type}(Γ:Ctx)(en:σ->Env)(Q:ρ->Exit->Env->Prop)(x:σ⊕ρ):Exit->Env->Prop:=fun e E'=>
 match x with
 |.inl s'=>e=.normal/\zR Γ E' (en s')
 |.inr r=>e≠.normal/\Q r e E'
theorem zDr{p:Nat->Prop}(h:∃m,p m):∃m,p m/\ ∀k,k<m-> ¬p k:=by
 refine Classical.byContradiction fun hn=>?_
 have key:∀n,∀k,k<n-> ¬p k:=by
  intro n
  induction n with
  |zero=>simp
  |succ n ih=>
   grind
 grind
theorem CW.loop(body:σ->Option (σ⊕ρ))(en:σ->Env)(Q:ρ->Exit->Env->Prop)(h:∀s x,body s=jh x->CW P Γ pn c (en s) (wG Γ en Q x)){s:σ}{r:ρ}(hr:zF body s=jh r):
  CW P Γ pn (.loop c) (en s) (Q r):=by
 classical
 intro a w Q' hs hp hQ
 let p:Act->World->Nat->Prop:=fun a w m=> ∃s,qX body m s=jh r/\qJ Γ (en s) a w/\pn.Hold a
 let μ:Act->World->Nat:=fun a w=>if h:∃m,p a w m then(zDr h).choose else 0
 obtain⟨n,hn⟩:=zDI.1 hr;refine wp_loop (fun a w=> ∃m,p a w m) μ (by grind) ?_;intro a w pf;have hμ:μ a w=(zDr pf).choose:=dif_pos pf;obtain⟨s,h1,h2,h3⟩:=(zDr pf).choose_spec.1;have fc:=(zDr pf).choose_spec.2;rw[<-hμ]at h1;cases hm:μ a w with
 |zero=>grind[qX]
 |succ k=>
  rw[hm]at h1;simp only[qX]at h1;cases hb:body s with
  |none=>grind
  |some x=>
   refine h s x hb a w _ h2 h3 fun e E' a' w' hq gF cO=>?_
   cases x with
   |inl s'=>
    simp only[hb]at h1;obtain⟨rfl,hg⟩:=hq;have mc:p a' w' k:=⟨s',h1,hg a' w' gF,cO⟩;refine⟨⟨k,mc⟩,?_⟩;have hex':∃m,p a' w' m:=⟨k,mc⟩
    grind
   |inr r'=>
    simp only[hb]at h1;have:r'=r:=by grind
    subst this;obtain⟨gc,hq⟩:=hq;have:=hQ e E' a' w' hq gF cO;cases e with
    |normal=>grind
    |_=>exact this
end
abbrev Nds:=List (Nat×List Nat×T)
def ROk(P:Program)(E:Env):ResultVar->(Nat×List Nat×T)->Prop
 |.tmp s,x=>x.1=s/\x.2.1=[]/\E s=jh x.2.2/\x.2.2.okTup=jj
 |.cell a T,x=>x.1=a/\x.2.1=[0]/\E a=jh (.ptr x.2.2)/\ ∃ds ti,P.underlying T=jh ds/\P.info? T=jh ti/\zFk ds= !x.2.2.single/\ti.size=x.2.2.size
def zRR(P:Program)(E:Env):List ResultVar->Nds->Prop
 | [],[]=>True
 |x::xs,y::ys=>ROk P E x y/\zRR P E xs ys
 |_,_=>False
def LOk(E:Env)(us:List T):List (Nat×T)->Prop
 | []=>True
 |(i,u')::l=>(E i=jh u'/\ ∃u,us[i]? =jh u)/\LOk E us l
def yCJ(P:Program)(rs:Array ResultVar)(us res:List T)(rws:List (Nat×T)):Exit->Env->Prop:=fun e E=>
 (e=.ret\/e=.normal)/\ ∃nd:Nds,zRR P E rs.toList nd/\nd.map (·.2.2)=res/\(∀x∈nd,us.length<=x.1)/\(nd.map (·.1)).Nodup/\LOk E us rws
def zCj(v:Nat->Value)(is:List Nat):sG:=is.map fun i=>(i,v i)
def zIF:Nat->List T->List (Nat×T)
 |_,[]=>[]
 |i,u::us=>(i,u)::zIF (i+1) us
theorem zMa:∀(us:List T)(i s:Nat)(t:T),vW (zIF i us) s=jh t->i<=s/\us[s-i]? =jh t
 | [],i,s,t,h=>by grind[zIF,vW]
 |u::us,i,s,t,h=>by
  simp only[zIF,vW]at h;split at h
  ·grind
  ·rename_i e
   obtain⟨h1,h2⟩:=zMa us (i+1) s t h
   grind
def zTT(tmps:Array Value):ResultVar->Sem Value
 |.tmp t=>pure (tmps.getD t undef)
 |.cell a t=>do loadVar t (<-asAddr (tmps.getD a undef))
theorem zOr(fn:Func)(tmps:Array Value):results fn tmps=(do
  let vs <-fn.results.mapM (zTT tmps)
  pure (if h:vs.size=1 then vs[0]else .tuple vs)):=rfl
theorem uK.get:(xs:List T)->uK xs-> ∀(i:Nat)(x:T),xs[i]? =jh x->Top x
 | [],_,i,x,h=>by simp at h
 |y::ys,ht,i,x,h=>by
  simp only[uK]at ht;cases i with
  |zero=>simp at h;subst h;exact ht.1
  |succ i=>exact uK.get ys ht.2 i x (by simpa using h)
theorem LOk.get{E:Env}{us:List T}:(l:List (Nat×T))->LOk E us l-> ∀i u',(i,u')∈l->E i=jh u'/\ ∃u,us[i]? =jh u
 | [],_,_,_,h=>by simp at h
 |x::l,h,i,u',hm=>by
  rcases J9.1 hm with rfl|hm
  ·exact h.1
  ·exact LOk.get l h.2 i u' hm
theorem yEY{w:World}(g9:Rep Γ E G tmps w)(x:ResultVar)(s:Nat)(q:List Nat)(t:T)(h:ROk P E x (s,q,t)):
  (zTT tmps x).run P w=.ok (sC G s t q) w/\R Γ.St G w s t q:=by
 cases x with
 |tmp s'=>
  obtain⟨h0,cX,h1,h2⟩:=h;dsimp only at h0 cX h1 h2;subst h0 cX;obtain⟨g1,g2,_⟩:=g9.ent _ _ h1;have hJ:∀xs,t≠.tup xs:=by rintro xs rfl;grind[T.okTup]
  refine⟨?_,g2⟩;rw[<-jZ G s t [] hJ];simp[zTT,Ko,g1]
 |cell a T'=>
  obtain⟨h0,cX,h1,ds,ti,h2,h3,h4,h5⟩:=h;dsimp only at h0 cX h1 h4 h5;subst h0 cX;obtain⟨g1,g2,_⟩:=g9.ent _ _ h1;simp only[R]at g2;obtain⟨b,cs,e,k1,k2,k3,k4,k5,k6⟩:=g2;refine⟨?_,k6⟩;rw[yW rfl,k1]at g1;have h6:=zFU (w:=w) h2 h3 k5 h4 h5;simp[zTT,Ko,g1,asAddr,h6]
theorem zGb{P:Program}{Γ:Ctx}{E:Env}{G:Gh}{tmps:Array Value}{w:World}(g9:Rep Γ E G tmps w):(rs:List ResultVar)->(nd:Nds)->zRR P E rs nd->
  (rs.mapM (zTT tmps)).run P w=.ok (nd.map fun x=>sC G x.1 x.2.2 x.2.1) w/\ ∀x∈nd,R Γ.St G w x.1 x.2.2 x.2.1
 | [],[],_=>by simp
 |x::xs,y::ys,h=>by
  obtain⟨h1,h2⟩:=zGb g9 xs ys h.2;obtain⟨h3,h4⟩:=yEY g9 x y.1 y.2.1 y.2.2 h.1
  simp_all
 | [],_::_,h=>by simp[zRR]at h
 |_::_,[],h=>by simp[zRR]at h
theorem FnC.of_body{f:FuncId}{res:List T}(hf:P.funcs[f]? =jh fn)(hb:fn.body=jh c)(hn:us.length<=fn.ntmps)(ht:uK us)(hr:rws.all (fun x=>decide (x.1<us.length))=jj)
  (h:∀(Γ:Ctx)(v:Nat->Value),Γ.N=fn.ntmps->CW P Γ (zCj v (rws.map (·.1))) c (vW (zIF 0 us)) (yCJ P fn.results us res rws)):FnC P f us res rws:=by
 intro St W w G vs cY gj gp
 let Γ:Ctx:=⟨St,W,w,fn.ntmps⟩
 let v:Nat->Value:=fun i=>vs.getD i undef
 have hm:Mem Γ G w:=⟨gp.one,gp.lb,gp.ow,gp.st,gp.fr,gp.sz,gp.bk⟩;have gr:(vs++Uv (fn.ntmps-vs.size) undef).size=fn.ntmps:=by simp;omega
 have py:Sim Γ (vW (zIF 0 us)) { tmps:=vs++Uv (fn.ntmps-vs.size) undef,defers:=[] } w:=by
  refine⟨rfl,G,gr,?_,hm⟩;intro s t hs;obtain⟨_,h2⟩:=zMa us 0 s t hs;simp only[Nat.sub_zero]at h2;obtain⟨h3,h4⟩:=gj s t h2;have gC:s<vs.size:=by grind
  exact⟨by grind,h4,uK.get us ht s t h2⟩
 have ig:(zCj v (rws.map (·.1))).Hold { tmps:=vs++Uv (fn.ntmps-vs.size) undef,defers:=[] }:=by
  intro x hx;simp only[zCj,Je]at hx;obtain⟨i,⟨y,hy,rfl⟩,rfl⟩:=hx;have h1:=Kh.1 hr y hy;simp at h1;have h2:y.1<vs.size:=by omega
  simp[Array.getElem?_append,h2,v]
 refine calls_of_wp hf hb (h Γ v rfl _ _ _ (.of py) ig ?_)
 rintro e E' a' w' ⟨he,nd,h1,h2,h3,h4,h5⟩ ⟨S',gW,gK,G',g9⟩ hp
 obtain⟨g1,g2⟩:=zGb g9 _ _ h1;have gw:(results fn a'.tmps).run P w'=.ok (zLT G' nd) w':=by
  rw[zOr,Array.mapM_eq_mapM_toList];simp only[Sem.run_bind,Sem.run_map,g1];cases nd with
  |nil=>simp[zLT]
  |cons y ys=>
   cases ys with
   |nil=>simp[zLT]
   |cons z zs=>simp[zLT]
 have gP:Mem ⟨S',W,w,0⟩ G' w':=⟨g9.mem.one,g9.mem.lb,g9.mem.ow,g9.mem.st,g9.mem.fr,g9.mem.sz,g9.mem.bk⟩;have bz:bodyPost P fn (fun e w'=> ∃(S':Stb)(G':Gh)(nd:List (Nat×List Nat×T)),zBX St S' W w.heap.size/\e=.returned (zLT G' nd)/\Mem ⟨S',W,w,0⟩ G' w'/\nd.map (·.2.2)=res/\
   (∀x∈nd,R S' G' w' x.1 x.2.2 x.2.1/\us.length<=x.1)/\(nd.map (·.1)).Nodup/\
   ∀i u',(i,u')∈rws->R S' G' w' i u' []/\ ∃u,us[i]? =jh u/\mkV G' i u' []=mkV G i u []) .ret a' w':=by
  refine⟨gK,_,gw,S',G',nd,gW,rfl,gP,h2,by grind,h4,?_⟩;intro i u' hiu;obtain⟨k1,u,k3⟩:=LOk.get _ h5 i u' hiu;obtain⟨k5,k6,_⟩:=g9.ent i u' k1;refine⟨k6,u,k3,?_⟩;have k7:=hp (i,v i) (by simp only[zCj,Je];grind);have k8:=(gj i u k3).1;rw[k5]at k7;simp[v,Ko,k8]at k7;exact k7
 rcases he with rfl|rfl<;>exact bz
mutual
def vT:T->T
 |.sl k xs=>.ro (strip (.sl k xs))
 |.ptr t=>.ro (strip (.ptr t))
 |.agg xs=>.agg (vP xs)
 |.tup xs=>.tup (vP xs)
 |.any=>.any
 |.lit v=>.lit v
 |.ro t=>.ro t
 |.same r p=>.same r p
 |.addr r p=>.addr r p
 |.sub r p k lo hi=>.sub r p k lo hi
def vP:List T->List T
 | []=>[]
 |x::xs=>vT x::vP xs
end
mutual
theorem zTU(G:Gh)(s:Nat):(t:T)-> ∀p,vals G s (vT t) p=vals G s t p
 |.agg xs,p=>by simp only[vT,vals];exact zCO G s xs p 0
 |.sl _ _,_|.ptr _,_|.tup _,_|.any,_|.lit _,_|.ro _,_|.same _ _,_|.addr _ _,_|.sub _ _ _ _ _,_=>by rfl
theorem zCO(G:Gh)(s:Nat):(xs:List T)-> ∀p j,yC G s (vP xs) p j=yC G s xs p j
 | [],_,_=>by rfl
 |x::xs,p,j=>by simp only[vP,yC,zTU G s x,zCO G s xs]
end
theorem zTV(G:Gh)(s:Nat)(t:T)(p:List Nat):sC G s (vT t) p=sC G s t p:=by cases t<;>simp only[vT,sC,zCO]
theorem zMb(G:Gh)(s:Nat):(xs:List T)-> ∀p j,jY G s (vP xs) p j=jY G s xs p j
 | [],_,_=>by rfl
 |x::xs,p,j=>by simp only[vP,jY,zTV,zMb G s xs]
theorem zXW(G:Gh)(s:Nat)(t:T)(p:List Nat):mkV G s (vT t) p=mkV G s t p:=by cases t<;>simp only[vT,mkV,zCO,zMb]
mutual
theorem zMc:(t:T)->Top t->Top (vT t)
 |.agg xs,h|.tup xs,h=>by simp only[vT,Top]at h ⊢;exact zJj xs h
 |.sl _ _,_|.ptr _,_|.any,_|.lit _,_|.ro _,_|.same _ _,_|.addr _ _,_|.sub _ _ _ _ _,_=>by simp only[vT,Top]
theorem zJj:(xs:List T)->uK xs->uK (vP xs)
 | [],_=>by grind[vP]
 |x::xs,h=>by simp only[vP,uK]at h ⊢;exact⟨zMc x h.1,zJj xs h.2⟩
end
section
variable {St Sc:Stb}{G G':Gh}{w:World}{s:Nat} (gn:∀s p,(G.hd s p).oneCell'=jj) (ee:∀b x,St b=jh x->Sc b=jh x) (ef:∀b,(∃y,G.ow b=jh (s,y))->Sc b=w.heap[b]?) (gE:∀s z,G'.hd s z=G.hd s z) (eQ:∀s z,G'.ad s z=G.ad s z)
 include gn ee ef gE eQ
mutual
theorem zZH:(t:T)-> ∀(p:List Nat),R St G w s t p->R Sc G' w s (vT t) p
 |.agg xs,p,hr|.tup xs,p,hr=>by simp only[vT,R]at hr ⊢;exact zTW xs p 0 hr
 |.sl k xs,p,hr=>by have:=zLW gn ee ef (.sl k xs) p rfl hr;simp only[vT,R,gE];exact this
 |.ptr t,p,hr=>by have:=zLW gn ee ef (.ptr t) p rfl hr;simp only[vT,R,gE];exact this
 |.ro u,p,hr=>by simp only[vT,R,gE]at hr ⊢;grind[uQ]
 |.any,_,_=>by simp only[vT,R]
 |.lit _,_,hr|.same _ _,_,hr|.sub _ _ _ _ _,_,hr=>by simp only[vT,R,gE]at hr ⊢;exact hr
 |.addr _ _,_,hr=>by simp only[vT,R,gE,eQ]at hr ⊢;exact hr
theorem zTW:(xs:List T)-> ∀(p:List Nat)(j:Nat),RF St G w s xs p j->RF Sc G' w s (vP xs) p j
 | [],_,_,_=>by have _:=gn;have _:=ee;have _:=ef;have _:=gE;have _:=eQ;simp only[vP,RF]
 |x::xs,p,j,hr=>by simp only[vP,RF]at hr ⊢;exact⟨zZH x _ hr.1,zTW xs p (j+1) hr.2⟩
end
end
theorem zR.freeze(s:Nat)(t:T)(hs:E s=jh t):zR Γ E (E.app [(s,jh (vT t))] [(s,1)]):=by
 classical
 rintro a w ⟨S,hS,gK,G,g9⟩
 have hm:=g9.mem
 let own:Nat->Prop:=fun b=> ∃y,G.ow b=jh (s,y)
 let Sc:Stb:=fun b=>if own b then w.heap[b]? else S b
 let G':Gh:={ hd:=G.hd,ad:=G.ad,lb:=fun b o=>if own b then ji else G.lb b o,ow:=fun b=>if own b then ji else G.ow b }
 have fb:∀b x,S b=jh x->Sc b=jh x:=fun b x hx=>by
  have:¬own b:=by
   rintro⟨y,hy⟩
   have:=(hm.ow b _ hy).2.2
   grind
  grind
 have bw:zBX S Sc Γ.W Γ.w0.heap.size:=⟨fb,fun b hb gZ=>by
  by_cases h:own b
  ·obtain⟨y,hy⟩:=h
   exact(hm.ow b _ hy).2.1
  grind⟩
 have gp:Mem ((Γ.at S).at Sc) G' w:=by
  refine⟨hm.one,fun b o l hl=>?_,fun b l hl=>?_,fun b x hx=>?_,hm.fr,hm.sz,hm.bk⟩
  ·by_cases h:own b
   ·grind
   ·simp only[G',h,if_false]at hl
    have:=hm.lb b o l hl;exact⟨this.1,this.2.1,by simp only[Sc,h,if_false];exact this.2.2⟩
  ·by_cases h:own b
   ·grind
   ·simp only[G',h,if_false]at hl
    have:=hm.ow b l hl;exact⟨this.1,this.2.1,by simp only[Sc,h,if_false];exact this.2.2⟩
  ·by_cases h:own b
   ·grind
   ·simp only[Sc,h,if_false]at hx;exact hm.st b x hx
 have gu:sM [(s,1)] G w G' w:=by
  have tk:∀b s0 y,G.ow b=jh (s0,y)->(∀n,(s0,n)∉([(s,1)]:Chg))-> ¬own b:=by grind
  refine⟨fun _ _ _=>rfl,fun _ _ _=>rfl,by grind,by grind,fun b cs e h=>⟨cs,h,rfl⟩⟩
  all_goals grind
 obtain⟨e1,e2,e3⟩:=g9.ent s t hs;refine⟨Sc,hS.trans bw,gK,G',g9.up fb rfl gu gp (fun s0 h0=>⟨fun n hn=>?_,rfl⟩) (fun s0 t0 h0=>?_)⟩
 ·grind[uC]
 ·rw[uC]at h0
  split at h0
  ·rename_i he;subst he
   simp at h0;subst h0;have hR:=zZH (G':=G') hm.one fb (fun b hb=>by grind) (fun _ _=>rfl) (fun _ _=>rfl) t [] e2;refine⟨?_,hR,zMc t e3⟩;rw[e1];have h1:mkV G' s (vT t) []=mkV G s (vT t) []:=zFj _ _ _ (fun _=>rfl);rw[h1,zXW]
  ·cases h0
abbrev zBS:=List (Wr×Chg)
def Env.apps(E:Env)(l:zBS):Env:=l.foldl (fun E x=>E.app x.1 x.2) E
structure Stp where
 rd:List (Nat×T)
 l:zBS
variable {Xs:List Stp}
def sN(wr:Wr):List Nat:=wr.map (·.1)
def Stp.slots(X:Stp):List Nat:=X.l.flatMap fun x=>sN x.1
def oOk(chg:Chg):Option T->Bool
 |none=>jj
 |some t=>t.okB chg
def zOs(chg:Chg)(wr:Wr):Bool:=wr.all fun x=>oOk chg x.2
def zRS(a b:List Nat):Bool:=a.all fun x=> !b.contains x
def zFt(a b:zBS):Bool:=a.all fun x=>b.all fun y=>zRS (sN x.1) (sN y.1)&&zOs y.2 x.1&&zOs x.2 y.1
def Stp.apart(a b:Stp):Bool:=zFt a.l b.l&&zRS a.slots (b.rd.map (·.1))&&zRS b.slots (a.rd.map (·.1))&&a.rd.all fun x=>b.l.all fun y=>x.2.okB y.2
theorem zFu{s:Nat}(h:s∉sN wr):wr.find s=ji:=by
 induction wr with
 |nil=>rfl
 |cons x wr ih=>
  simp only[sN,Ju,J9,not_or]at h;simp only[Wr.find,Ne.symm h.1,if_false];exact ih h.2
theorem zJk{s:Nat}{x:Option T}(h:wr.find s=jh x):s∈sN wr/\ ∃y∈wr,y.2=x:=by
 induction wr with
 |nil=>grind[Wr.find]
 |cons y wr ih=>
  grind[Wr.find,sN]
theorem zHo{a b:List Nat}(h:zRS a b=jj){s:Nat}(hs:s∈a):s∉b:=by
 have:=Kh.1 h s hs
 grind
theorem zTX(E:Env)(w1 w2:Wr)(c1 c2:Chg)(h:zRS (sN w1) (sN w2)=jj)(h1:zOs c2 w1=jj)(h2:zOs c1 w2=jj):
  (E.app w1 c1).app w2 c2=(E.app w2 c2).app w1 c1:=by
 funext s
 have ok:∀{c:Chg}{w:Wr}{s:Nat}{x:Option T},zOs c w=jj->w.find s=jh x->(match x with|some t=>if t.okB c then jh t else ji|none=>ji)=x:=by
  intro c w s x hw hf;obtain⟨_,y,hy,rfl⟩:=zJk hf;have:=Kh.1 hw y hy
  grind[oOk]
 unfold Env.app;cases hf1:w1.find s with
 |some x=>
  grind[zFu,zHo,zJk]
 |none=>
  grind
theorem zDs(w:Wr)(c:Chg):∀(l:zBS)(E:Env),(∀y∈l,zRS (sN w) (sN y.1)=jj/\zOs y.2 w=jj/\zOs c y.1=jj)->(E.app w c).apps l=(E.apps l).app w c
 | [],E,_=>rfl
 |y::l,E,h=>by obtain⟨h1,h2,h3⟩:=h y (by simp);show((E.app w c).app y.1 y.2).apps l=_;rw[zTX E w y.1 c y.2 h1 h2 h3];exact zDs w c l _ (by grind)
theorem zJl:∀(l1 l2:zBS)(E:Env),zFt l1 l2=jj->(E.apps l1).apps l2=(E.apps l2).apps l1
 | [],l2,E,_=>rfl
 |x::l1,l2,E,h=>by simp only[zFt,Uo,J4]at h;show((E.app x.1 x.2).apps l1).apps l2=((E.apps l2).app x.1 x.2).apps l1;rw[zJl l1 l2 _ (by grind[zFt]),zDs x.1 x.2 l2 E (by grind)]
def runD:Env->List (Bool×Stp)->Env
 |E,[]=>E
 |E,(b,X)::l=>runD (if b then E.apps X.l else E) l
theorem kD:∀(l1 l2:List (Bool×Stp))(E:Env),runD E (l1++l2)=runD (runD E l1) l2
 | [],_,_=>rfl
 |(b,X)::l1,l2,E=>by simp only[K6,runD];exact kD l1 l2 _
theorem zFv:∀(l:List (Bool×Stp))(X:Stp)(E:Env),(∀y∈l,y.1=jj->zFt X.l y.2.l=jj)->runD (E.apps X.l) l=(runD E l).apps X.l
 | [],_,_,_=>rfl
 |(b,Y)::l,X,E,h=>by
  simp only[runD];cases b with
  |false=>exact zFv l X E (by grind)
  |true=>
   have:=h (jj,Y) (by simp) rfl;simp only[if_true];rw[zJl X.l Y.l E this];exact zFv l X _ (by grind)
theorem zHp{s:Nat}:∀(l:zBS)(E:Env),s∉l.flatMap (fun x=>sN x.1)-> ∀t,(E.apps l) s=jh t->E s=jh t
 | [],_,_,_,h=>h
 |x::l,E,hs,t,h=>by
  simp only[Kr,Ja,not_or]at hs;have:=zHp l (E.app x.1 x.2) hs.2 t h
  grind[Env.app,zFu]
theorem zJm{s:Nat}{t:T}:∀(l:zBS)(E:Env),s∉l.flatMap (fun x=>sN x.1)->(∀y∈l,t.okB y.2=jj)->E s=jh t->(E.apps l) s=jh t
 | [],_,_,_,h=>h
 |x::l,E,hs,gz,h=>by
  simp only[Kr,Ja,not_or]at hs;refine zJm l (E.app x.1 x.2) hs.2 (by grind) ?_
  grind[Env.app,zFu]
theorem zJn{s:Nat}:∀(l:zBS)(E1 E2:Env),(∀t,E2 s=jh t->E1 s=jh t)-> ∀t,(E2.apps l) s=jh t->(E1.apps l) s=jh t
 | [],_,_,h,t,ht=>h t ht
 |x::l,E1,E2,h,t,ht=>by
  refine zJn l (E1.app x.1 x.2) (E2.app x.1 x.2) (fun u hu=>?_) t ht
  grind[Env.app]
theorem zJo{s:Nat}:∀(l:List (Bool×Stp))(E1 E2:Env),(∀y∈l,y.1=jk->s∉y.2.slots)->(∀t,E2 s=jh t->E1 s=jh t)->
  ∀t,runD E2 (l.map fun y=>(jj,y.2)) s=jh t->runD E1 l s=jh t
 | [],_,_,_,h,t,ht=>h t ht
 |(b,X)::l,E1,E2,hl,h,t,ht=>by
  simp only[Ju,runD,if_true]at ht ⊢
  refine zJo l _ _ (by grind) (fun u hu=>?_) t ht;cases b with
  |true=>grind[zJn]
  |false=>exact h u (zHp X.l E2 (hl (jk,X) (by simp) rfl) u hu)
theorem zJp{s:Nat}{t:T}:∀(l:List (Bool×Stp))(E:Env),(∀y∈l,y.1=jj->s∉y.2.slots/\ ∀z∈y.2.l,t.okB z.2=jj)->E s=jh t->runD E l s=jh t
 | [],_,_,h=>h
 |(b,X)::l,E,hl,h=>by
  simp only[runD];refine zJp l _ (fun y hy=>hl y (by simp[hy])) ?_;cases b with
  |false=>exact h
  |true=>obtain⟨h1,h2⟩:=hl (jj,X) (by simp) rfl;exact zJm X.l E h1 h2 h
theorem Env.Has.of{E E':Env}:{l:List (Nat×T)}->E.Has l->(∀s t,(s,t)∈l->E s=jh t->E' s=jh t)->E'.Has l
 | [],_,_=>trivial
 |(s,t)::l,h,h'=>⟨h' s t (by simp) h.1,Env.Has.of h.2 fun s t hm=>h' s t (by simp[hm])⟩
def zBc(o:Oper):List Nat:=(o.after.toList.filter (Region.binds .any)).map (·.on)
def zA3:Nat->List Oper->Bool
 |_,[]=>jj
 |i,o::os=>((zBc o).all fun m=>decide (m<i))&&zA3 (i+1) os
def kW(an:List (List Nat)):List (List Nat)->List Oper->Bool
 | [],_=>jj
 |_::_,[]=>jk
 |l::ls,o::os=>(l.all fun k=>(zBc o).contains k||(zBc o).any fun m=>(an.getD m []).contains k)&&kW an ls os
def jE(Xs:List Stp):Nat->List (List Nat)->List Stp->Bool
 |_,_,[]=>jj
 |j,an,Y::Ys=>((Jf j).all fun i=>(an.headD []).contains i||match Xs[i]? with
   |some X=>X.apart Y
   |none=>jj)&&jE Xs (j+1) an.tail Ys
theorem zG8:∀(os:List Oper)(i0 j:Nat)(o:Oper),zA3 i0 os=jj->os[j]? =jh o-> ∀m∈zBc o,m<i0+j
 | [],_,j,_,_,h=>by simp at h
 |x::os,i0,j,o,hf,h=>by
  simp only[zA3,J4]at hf;cases j with
  |zero=>
   grind
  |succ j=>
   intro m hm;have:=zG8 os (i0+1) j o hf.2 (by grind) m hm;omega
theorem zK2(an:List (List Nat)):∀(ls:List (List Nat))(os:List Oper)(j:Nat)(l:List Nat),kW an ls os=jj->ls[j]? =jh l-> ∃o,os[j]? =jh o/\ ∀k∈l,k∈zBc o\/ ∃m∈zBc o,k∈an.getD m []
 | [],_,j,_,_,h=>by simp at h
 |_::_,[],_,_,h,_=>by grind[kW]
 |x::ls,o::os,j,l,ha,h=>by
  simp only[kW,J4]at ha;cases j with
  |zero=>
   simp_all
  |succ j=>
   obtain⟨o',h1,h2⟩:=zK2 an ls os j l ha.2 (by grind)
   grind
theorem zFw(Xs:List Stp):∀(Ys:List Stp)(j0:Nat)(an:List (List Nat))(j:Nat)(Y:Stp),jE Xs j0 an Ys=jj->Ys[j]? =jh Y-> ∀i X,i<j0+j->Xs[i]? =jh X->i∈an.getD j []\/X.apart Y=jj
 | [],_,_,j,_,_,h=>by simp at h
 |Z::Ys,j0,an,j,Y,hp,h=>by
  simp only[jE,J4]at hp;intro i X hi hX;cases j with
  |zero=>
   simp at h;subst h;have:=Kh.1 hp.1 i (by grind);simp only[hX,Bool.or_eq_true,Ha,decide_eq_true_eq]at this;rcases this with h|h
   ·left
    cases an with
    |nil=>simp at h
    |cons l an=>grind
   grind
  |succ j=>
   rcases zFw Xs Ys (j0+1) an.tail j Y hp.2 (by grind) i X (by omega) hX with h|h
   all_goals grind
section
variable {P:Program}{Γ:Ctx}{pn:sG}{ops:Array Oper}
def zTY(ops:Array Oper)(L:List Bool):Prop:=∀(i:Nat)(o:Oper),ops[i]? =jh o->L[i]? =jh jj-> ∀m∈zBc o,L[m]? =jh jj
theorem zHq{L:List Bool}{an:List (List Nat)}(hf:zA3 0 ops.toList=jj)(ha:kW an an ops.toList=jj)(hc:zTY ops L):
  ∀(n i:Nat),i<=n-> ∀o,ops[i]? =jh o->(∀m∈zBc o,L[m]? =jh jj)-> ∀k∈an.getD i [],L[k]? =jh jj:=by
 intro n
 induction n with
 |zero=>
  intro i hi o ho hp k hk;have iH:i=0:=by omega
  subst iH;cases hl:an[0]? with
  |none=>grind
  |some l=>
   obtain⟨o',h1,h2⟩:=zK2 an an ops.toList 0 l ha hl;rw[Kx,ho]at h1;simp at h1;subst h1;simp only[Ua,hl,Lu]at hk;rcases h2 k hk with h|⟨m,h,_⟩
   ·grind
   ·have:=zG8 ops.toList 0 0 o hf (by grind) m h
    omega
 |succ n ih=>
  intro i hi o ho hp k hk;cases hl:an[i]? with
  |none=>grind
  |some l=>
   obtain⟨o',h1,h2⟩:=zK2 an an ops.toList i l ha hl;rw[Kx,ho]at h1;simp at h1;subst h1;simp only[Ua,hl,Lu]at hk;rcases h2 k hk with h|⟨m,h,hkm⟩
   ·grind
   ·have gC:=zG8 ops.toList 0 i o hf (by grind) m h
    have hLm:=hp m h;cases dx:ops[m]? with
    |none=>
     grind
    |some om=>exact ih m (by omega) om dx (hc m om dx hLm) k hkm
theorem zJq{L:List Bool}{b:Bool}{X:Stp}(hL:L[i]? =jh b)(hX:Xs[i]? =jh X):L.zip Xs=(L.take i).zip (Xs.take i)++(b,X)::(L.drop (i+1)).zip (Xs.drop (i+1)):=by
 have h1:L=L.take i++b::L.drop (i+1):=by obtain⟨h,rfl⟩:=Jl.1 hL;simp
 have h2:Xs=Xs.take i++X::Xs.drop (i+1):=by obtain⟨h,rfl⟩:=Jl.1 hX;simp
 grind[List.zip_cons_cons]
theorem zK3{L:List Bool}{y:Bool×Stp}(h:y∈L.zip Xs):∃j:Nat,L[j]? =jh y.1/\Xs[j]? =jh y.2:=by grind[Qg,List.getElem?_zip_eq_some]
def sO:Env->List Stp->Prop
 |_,[]=>True
 |E,X::Xs=>E.Has X.rd/\sO (E.apps X.l) Xs
theorem sO.get:∀(Xs:List Stp)(E:Env),sO E Xs-> ∀(i:Nat)(X:Stp),Xs[i]? =jh X->(runD E ((Xs.take i).map fun y=>(jj,y))).Has X.rd
 | [],_,_,i,_,h=>by simp at h
 |Y::Xs,E,hh,i,X,h=>by
  cases i with
  |zero=>simp at h;subst h;simpa[runD]using hh.1
  |succ i=>
   have:=sO.get Xs _ hh.2 i X (by grind)
   grind[runD]
theorem Stp.apart_spec{a b:Stp}(h:a.apart b=jj):zFt a.l b.l=jj/\(∀s∈a.slots,s∉b.rd.map (·.1))/\(∀s∈b.slots,s∉a.rd.map (·.1))/\ ∀x∈a.rd,∀y∈b.l,x.2.okB y.2=jj:=by simp only[Stp.apart,J4]at h;refine⟨h.1.1.1,by grind[zHo],by grind[zHo],fun x hx y hy=>?_⟩;exact Kh.1 (Kh.1 h.2 x hx) y hy
mutual
theorem zG9:(t:T)->t.okB []=jj
 |.same _ _|.addr _ _|.sub _ _ _ _ _=>by rfl
 |.agg xs|.tup xs=>by simp only[T.okB];exact zMd xs
 |.any|.lit _|.ro _|.sl _ _|.ptr _=>by rfl
theorem zMd:(xs:List T)->zLC [] xs=jj
 | []=>by rfl
 |x::xs=>by simp only[zLC,zG9 x,zMd xs,Lp]
end
theorem Rep.heap{w:World}(h:Rep Γ E G tmps w)(hw:w'.heap=w.heap)(ho:w'.os=w.os:=by rfl)(hq:w'.output=w.output:=by rfl):Rep Γ E G tmps w' where
 size:=h.size
 ent s t hs:=Ent.keep (chg:=[]) ⟨fun _ _ _=>rfl,fun _ _ _=>rfl,by grind[yN,World.cell?],fun _ _ _ h _=>h,fun b cs e h=>⟨cs,by grind,rfl⟩⟩ (by simp) (zG9 t) (h.ent s t hs)
 mem:=by
  have hm:=h.mem;exact⟨hm.one,fun b o l hl=>by have:=hm.lb b o l hl;exact⟨by rw[hw];exact this.1,this.2⟩,fun b l hl=>by have:=hm.ow b l hl;exact⟨by rw[hw];exact this.1,this.2⟩,
   fun b x hx=>by rw[hw];exact hm.st b x hx,fun b h1 h2=>by rw[hw];exact hm.fr b h1 h2,by rw[hw];exact hm.sz,hm.bk.trans (fun b cs e hb=>⟨cs,by grind,rfl⟩) ho hq⟩
end
abbrev I(n:Int):T:=.lit (.int .i64 n)
abbrev B(b:Bool):T:=.lit (.bool b)
abbrev L{α:Type}(k:Nat)(f:α->T)(xs:List α):T:=.sl k (xs.map f)
theorem zO{t:TypeId}(h:P.types[t]? =jh ti):P.info? t=jh ti:=by grind[Tables.info?]
def Ok(P:Program)(Γ:Ctx)(o:Oper)(E E':Env):Prop:=∀S,xX P (Γ.at S) o E E'
section
variable {P:Program}{Γ:Ctx}{pn:sG}{ops:Array Oper}{o:Oper}{os:List Oper}{E E':Env}{Q:Exit->Env->Prop}{d:Nat}
theorem RW.op(h:Ok P Γ o E E')(k:RW P Γ pn ops os E' Q)(hg:o.guard=ji:=by rfl)(hp:pn.ok o.dst=jj:=by rfl):RW P Γ pn ops (o::os) E Q:=RW.cons (wK.op h hg) k hp
def neD(x:Operand)(d:Nat):Bool:=match x with
 |.tmp s=>s != d
 |_=>jj
theorem zEw{d:Nat}(h:neD x d=jj):∀s,x=.tmp s->s≠d:=by rintro s rfl;grind[neD]
theorem zBd{t:T}(h:t.okTup=jj):∀xs,t≠.tup xs:=by rintro xs rfl;grind[T.okTup]
abbrev mvB(Γ:Ctx)(x:Operand)(t:T)(d:Nat):Bool:=J6 d Γ.N&&t.okTup&&neD x d&&T.okB [(d,0)] (tA x t)
section
variable {x y:Operand}{t:T}{ty:TypeId}{ps:String}{af:Array Edge}{gd:Option (Nat×Bool)}
theorem yE{a b:Nat}(h:J6 a b=jj):a<b:=by grind[Nat.blt_eq]
theorem zRT(hx:opT E x=jh t)(sd:mvB Γ x t d=jj):Ok P Γ ⟨jh d,.move x,ty,ps,af,gd⟩ E (E.app [(d,jh (tA x t))] [(d,0)]):=by simp only[mvB,J4]at sd;exact fun S=>zQl x t (.inl rfl) rfl (yE sd.1.1.1) hx (zBd sd.1.1.2) (zEw sd.1.2) sd.2
theorem zXX(hx:opT E x=jh t)(sd:mvB Γ x t d=jj):Ok P Γ ⟨jh d,.assign x,ty,ps,af,gd⟩ E (E.app [(d,jh (tA x t))] [(d,0)]):=by simp only[mvB,J4]at sd;exact fun S=>zQl x t (.inr rfl) rfl (yE sd.1.1.1) hx (zBd sd.1.1.2) (zEw sd.1.2) sd.2
def inR(n:Int):Bool:=decide (-9223372036854775808<=n)&&decide (n<=9223372036854775807)
theorem zCk{n:Int}(h:inR n=jj):IntKind.i64.wrap n=n:=by
 simp only[inR,J4,decide_eq_true_eq]at h;have hb:IntKind.i64.bits=64:=rfl;have hs:IntKind.i64.signed=jj:=rfl;simp only[IntKind.wrap,hb,hs,Bool.true_and]
 grind
def rng(n:Int):Option Int:=if inR n then jh n else ji
theorem zCl{n:Int}(h:rng n=jh m):m=n/\inR n=jj:=by grind[rng]
theorem zTZ{n c:Int}(hv:rng (m+n)=jh c)(hx:opT E x=jh (I m))(hy:opT E y=jh (I n))(sd:J6 d Γ.N=jj):Ok P Γ ⟨jh d,.binOp .add xt x y yt,ty,ps,af,gd⟩ E (E.app [(d,jh (I c))] [(d,0)]):=by obtain⟨rfl,h⟩:=zCl hv;exact fun S=>tV .add xt yt x y .i64 m n _ rfl rfl (yE sd) hx hy (by grind[zKk,zCk])
theorem zZI{n:Int}(hx:opT E x=jh (I m))(hy:opT E y=jh (I n))(sd:J6 d Γ.N=jj):Ok P Γ ⟨jh d,.binOp .lss xt x y yt,ty,ps,af,gd⟩ E (E.app [(d,jh (B (decide (m<n))))] [(d,0)]):=
 fun _S=>tV .lss xt yt x y .i64 m n _ rfl rfl (yE sd) hx hy rfl
theorem zDt(k:Nat)(sd:J6 d Γ.N=jj):Ok P Γ ⟨jh d,.assign (.const (.slice ji 0 0)),ty,ps,af,gd⟩ E (E.app [(d,jh (.sl k []))] [(d,0)]):=
 fun _=>zLJ k _ (.inr rfl) rfl rfl (yE sd)
def yG(n:Int):Option Nat:=if 0<=n/\n<=68719476736 then jh n.toNat else ji
theorem zHr{n:Int}{m:Nat}(h:yG n=jh m):n=(m:Int)/\m<=68719476736:=by grind[yG]
class ElT (P:Program) (t:TypeId) (e:outParam TypeId) (ti:outParam TypeInfo) (k:outParam Nat) (u:outParam T):Prop where
 un:P.underlying t=jh (.slice e)
 info:P.info? e=jh ti
 zero:∃z,ti.zero=jh z/\sE u=z.cells.toList
 size:ti.size=k
 pos:0<k
 zok:u.zOk=jj
 us:u.size=k
 bytes:ti.bytes<=2048
theorem zUa{t:TypeId}{n m:Nat}{a b:Int}(ht:ElT P t e ti k u)(hn:yG a=jh n)(hx:opT E x=jh (I a))(hm:yG b=jh m)(hy:opT E y=jh (I b))(pd:n<=m)(sd:J6 d Γ.N=jj):
  Ok P Γ ⟨jh d,.makeSlice t x y,ty,ps,af,gd⟩ E (E.app [(d,jh (.sl k (J1 n u)))] [(d,0)]):=by
 obtain⟨rfl,h1⟩:=zHr hn;obtain⟨rfl,h2⟩:=zHr hm;obtain⟨z,hz,hv⟩:=ht.zero;exact fun S=>zXS t e ti z u k x y n m .i64 .i64 rfl rfl (yE sd) ht.un ht.info hz ht.size ht.pos ht.zok hv ht.us (H9 ht.bytes (by decide)) hx hy pd h2
end
end
def ixO{α:Type}(xs:List α)(i:Int):Option α:=if 0<=i then xs[i.toNat]? else ji
theorem uL{α:Type}{xs:List α}{i:Int}{v:α}(h:ixO xs i=jh v):0<=i/\xs[i.toNat]? =jh v:=by grind[ixO]
def kX:T->Bool
 |.same _ _=>jk
 |_=>jj
theorem zEx{s:Nat}{t:T}(h1:E s=jh (.same r q))(h2:E r=jh t)(h3:t.get q.reverse=jh u)(h4:kX u=jj):tB E (.tmp s)=jh (r,q,u):=by
 have hg:∀t:T,t.get []=jh t:=fun t=>by rfl
 grind[kX,tB,qK]
theorem zAI{s:Nat}{t:T}(h1:E s=jh t)(h4:kX t=jj):tB E (.tmp s)=jh (s,[],t):=by
 have hg:∀t:T,t.get []=jh t:=fun t=>by rfl
 grind[kX,tB,qK]
section
variable {P:Program}{Γ:Ctx}{E:Env}{d:Nat}{x y:Operand}{ty:TypeId}{ps:String}{af:Array Edge}{gd:Option (Nat×Bool)}
class zAJ (P:Program) (t:TypeId) (e:outParam TypeId) (ti:outParam TypeInfo) (k:outParam Nat):Prop where
 un:P.underlying t=jh (.slice e)
 info:P.info? e=jh ti
 size:ti.size=k
theorem yCK{α:Type}{t:TypeId}{f:α->T}{xs:List α}{v:α}{i:Int}(ht:zAJ P t e ti k)(hv:ixO xs i=jh v)(hx:tB E x=jh (r,q,L k f xs))(hy:opT E y=jh (I i))(sd:J6 d Γ.N=jj):
  Ok P Γ ⟨jh d,.indexAddr t x y,ty,ps,af,gd⟩ E (E.app [(d,jh (.addr r (i.toNat::q)))] [(d,0)]):=by
 obtain⟨h1,h2⟩:=uL hv;exact fun S=>zT6 x y t e ti r q k _ .i64 i rfl rfl (yE sd) ht.un ht.info ht.size hx hy h1 (by grind)
theorem zZJ{α:Type}{t:TypeId}{f:α->T}{xs:List α}{v:α}{i:Int}(ht:zAJ P t e ti k)(hv:ixO xs i=jh v)(hx:tB E x=jh (r,q,.ro (L k f xs)))(hy:opT E y=jh (I i))(sd:J6 d Γ.N=jj):
  Ok P Γ ⟨jh d,.indexAddr t x y,ty,ps,af,gd⟩ E (E.app [(d,jh (.ro (.ptr (f v))))] [(d,0)]):=by
 obtain⟨h1,h2⟩:=uL hv;exact fun S=>zT7 x y t e ti r q k _ .i64 i _ rfl rfl (yE sd) ht.un ht.info ht.size hx hy h1 (by simp[h2])
theorem zZK{α:Type}{t:TypeId}{f:α->T}{xs:List α}(hu:P.underlying t=jh (.slice e))(hx:tB E x=jh (r,q,L k f xs))(sd:J6 d Γ.N=jj):
  Ok P Γ ⟨jh d,.call { callee:=.builtin .len,args:=#[x],argTypes:=#[t] },ty,ps,af,gd⟩ E (E.app [(d,jh (I xs.length))] [(d,0)]):=
 fun _=>zT5 x t _ r q (L k f xs) xs.length rfl rfl (yE sd) hu hx (by simp[zLD]) rfl
theorem zUb{α:Type}{t:TypeId}{f:α->T}{xs:List α}(hu:P.underlying t=jh (.slice e))(hx:tB E x=jh (r,q,.ro (L k f xs)))(sd:J6 d Γ.N=jj):
  Ok P Γ ⟨jh d,.call { callee:=.builtin .len,args:=#[x],argTypes:=#[t] },ty,ps,af,gd⟩ E (E.app [(d,jh (I xs.length))] [(d,0)]):=
 fun _=>zT5 x t _ r q (.ro (L k f xs)) xs.length rfl rfl (yE sd) hu hx (by simp[zLD]) rfl
structure zUc (P:Program) (t:TypeId) (u:T):Prop where
 h:∃ds ti,P.underlying t=jh ds/\P.info? t=jh ti/\zFk ds= !u.single/\ti.size=u.size
theorem yCL{t:TypeId}(ht:zUc P t u)(hx:opT E x=jh (.ro (.ptr u)))(sd:J6 d Γ.N=jj):Ok P Γ ⟨jh d,.load t x,ty,ps,af,gd⟩ E (E.app [(d,jh (roT u))] [(d,0)]):=by obtain⟨ds,ti,h1,h2,h3,h4⟩:=ht.h;exact fun S=>zOl x t ds ti u rfl rfl (yE sd) h1 h2 h3 h4 hx
theorem yEZ{t:TypeId}{tr:T}(ht:zUc P t u)(hx:opT E x=jh (.addr r q))(hr:E r=jh tr)(hg:tr.get q.reverse=jh u)(sd:(J6 d Γ.N&&tr.locd q.reverse&&(r != d)&&T.okB [(d,0)] (cpT r u q))=jj):
  Ok P Γ ⟨jh d,.load t x,ty,ps,af,gd⟩ E (E.app [(d,jh (cpT r u q))] [(d,0)]):=by
 obtain⟨ds,ti,h1,h2,h3,h4⟩:=ht.h;simp only[J4]at sd;exact fun S=>zXR x t ds ti r q tr u rfl rfl (yE sd.1.1.1) h1 h2 h3 h4 hx hr hg sd.1.1.2 (by grind) sd.2
end
section
variable {P:Program}{Γ:Ctx}{E:Env}{x:Operand}{ty:TypeId}{ps:String}{af:Array Edge}{gd:Option (Nat×Bool)}
theorem yGs{t:TypeId}{s:Nat}{tr:T}{v:Value}(hi:P.info? t=jh ti)(gr:ti.size=1)(hx:opT E x=jh (.addr r q))(hr:E r=jh tr)(hg:tr.get q.reverse=jh u0)(gv:tr.set q.reverse (.lit v)=tr')(hy:E s=jh (.lit v))
  (sd:(tr.single&&tr.locd q.reverse&&vS (.lit v) u0&&(r != s))=jj):Ok P Γ ⟨ji,.store t x (.tmp s),ty,ps,af,gd⟩ E (E.app [(r,jh tr')] [(r,q.length)]):=by
 simp only[J4]at sd;subst gv;intro S;have:=zLN (P:=P) (Γ:=Γ.at S) (E:=E) (o:=⟨ji,.store t x (.tmp s),ty,ps,af,gd⟩) t ti x (.tmp s) r q tr u0 (.slot s (.lit v)) rfl rfl hi (by rw[gr];rfl) (by omega) hx hr sd.1.1.1 hg sd.1.1.2 sd.1.2 (.slot s _)
  ⟨fun s' t' h=>by simp at h;obtain⟨rfl,rfl⟩:=h;exact⟨hy,by simp[zY,yU],rfl⟩,by simp,by simp[xM,sD]⟩
 exact this
theorem yCM{t:TypeId}{tr:T}{v:Value}(hi:P.info? t=jh ti)(gr:ti.size=1)(hx:opT E x=jh (.addr r q))(hr:E r=jh tr)(hg:tr.get q.reverse=jh u0)(gv:tr.set q.reverse (.lit v)=tr')
  (sd:(tr.single&&tr.locd q.reverse&&vS (.lit v) u0&&(T.lit v).zOk)=jj)(hz:sE (.lit v)=v.cells.toList):Ok P Γ ⟨ji,.store t x (.const v),ty,ps,af,gd⟩ E (E.app [(r,jh tr')] [(r,q.length)]):=by
 simp only[J4]at sd;subst gv;intro S;have:=zLN (P:=P) (Γ:=Γ.at S) (E:=E) (o:=⟨ji,.store t x (.const v),ty,ps,af,gd⟩) t ti x (.const v) r q tr u0 (.zero (.lit v)) rfl rfl hi (by rw[gr];rfl) (by omega) hx hr sd.1.1.1 hg sd.1.1.2 sd.1.2 (.zero v _ hz)
  ⟨by simp,by grind,by simp[xM]⟩
 exact this
end
theorem zR.tr(d r:Nat)(u:T)(hd:E d=jh (.same r []))(hr:E r=jh u)(eI:zY u)(sd:(u.single&&xZ u&&u.okB [(d,1),(r,1)]&&(d != r))=jj):
  zR Γ E (E.app [(d,jh u),(r,jh (.same d []))] [(d,1),(r,1)]):=by
 simp only[J4]at sd
 rintro a w ⟨S,hS,hs⟩
 have gc:d≠r:=by grind
 have hg:∀t:T,t.get []=jh t:=fun t=>by rfl
 have:=zOp hs d [] r [] (.same r []) u u hd rfl hr (hg u) sd.1.1.1 eI gc (by simp[T.okB,kS]) sd.1.2 rfl sd.1.1.2;exact⟨S,hS,this⟩
theorem jF{α:Type}{f:α->T}(hf:∀x,zY (f x)):(xs:List α)->yZ (xs.map f)
 | []=>trivial
 |x::xs=>⟨hf x,jF hf xs⟩
theorem zQ0{α:Type}{f:α->T}{xs:List α}(hf:∀x,zY (f x)):zY (L k f xs):=by simp only[zY,yU];grind[jF]
theorem zQ1(n:Int):zY (I n):=by simp[zY,yU]
theorem zXY(b:Bool):zY (B b):=by simp[zY,yU]
section
variable {P:Program}{Γ:Ctx}{E:Env}{d:Nat}{x y:Operand}{ty:TypeId}{ps:String}{af:Array Edge}{gd:Option (Nat×Bool)}{m n c:Int}{xt yt:TypeId}
theorem zHs(hv:rng (m-n)=jh c)(hx:opT E x=jh (I m))(hy:opT E y=jh (I n))(sd:J6 d Γ.N=jj):Ok P Γ ⟨jh d,.binOp .sub xt x y yt,ty,ps,af,gd⟩ E (E.app [(d,jh (I c))] [(d,0)]):=by obtain⟨rfl,h⟩:=zCl hv;exact fun _=>tV .sub xt yt x y .i64 m n _ rfl rfl (yE sd) hx hy (by grind[zKk,zCk])
theorem yCN(hv:rng (m*n)=jh c)(hx:opT E x=jh (I m))(hy:opT E y=jh (I n))(sd:J6 d Γ.N=jj):Ok P Γ ⟨jh d,.binOp .mul xt x y yt,ty,ps,af,gd⟩ E (E.app [(d,jh (I c))] [(d,0)]):=by obtain⟨rfl,h⟩:=zCl hv;exact fun _=>tV .mul xt yt x y .i64 m n _ rfl rfl (yE sd) hx hy (by grind[zKk,zCk])
def vK(m n:Int):Option Int:=if n=0 then ji else rng (m.tdiv n)
def vB(m n:Int):Option Int:=if n=0 then ji else jh (m.tmod n)
theorem yCO(hv:vK m n=jh c)(hx:opT E x=jh (I m))(hy:opT E y=jh (I n))(sd:J6 d Γ.N=jj):Ok P Γ ⟨jh d,.binOp .quo xt x y yt,ty,ps,af,gd⟩ E (E.app [(d,jh (I c))] [(d,0)]):=by
 unfold vK at hv;split at hv
 ·cases hv
 ·rename_i h0
  obtain⟨rfl,h⟩:=zCl hv;exact fun _=>tV .quo xt yt x y .i64 m n _ rfl rfl (yE sd) hx hy (by simp only[zKk,h0,if_false,zCk h])
theorem yCP(hv:vB m n=jh c)(hx:opT E x=jh (I m))(hy:opT E y=jh (I n))(sd:J6 d Γ.N=jj):Ok P Γ ⟨jh d,.binOp .rem xt x y yt,ty,ps,af,gd⟩ E (E.app [(d,jh (I c))] [(d,0)]):=by
 unfold vB at hv;split at hv
 ·cases hv
 ·rename_i h0
  simp at hv;subst hv;exact fun _=>tV .rem xt yt x y .i64 m n _ rfl rfl (yE sd) hx hy (by simp only[zKk,h0,if_false])
theorem zZL(hx:opT E x=jh (I m))(hy:opT E y=jh (I n))(sd:J6 d Γ.N=jj):Ok P Γ ⟨jh d,.binOp .leq xt x y yt,ty,ps,af,gd⟩ E (E.app [(d,jh (B (decide (m<=n))))] [(d,0)]):=
 fun _=>tV .leq xt yt x y .i64 m n _ rfl rfl (yE sd) hx hy rfl
theorem zZM(hx:opT E x=jh (I m))(hy:opT E y=jh (I n))(sd:J6 d Γ.N=jj):Ok P Γ ⟨jh d,.binOp .gtr xt x y yt,ty,ps,af,gd⟩ E (E.app [(d,jh (B (decide (m> n))))] [(d,0)]):=
 fun _=>tV .gtr xt yt x y .i64 m n _ rfl rfl (yE sd) hx hy rfl
theorem yCQ(hx:opT E x=jh (I m))(hy:opT E y=jh (I n))(sd:J6 d Γ.N=jj):Ok P Γ ⟨jh d,.binOp .geq xt x y yt,ty,ps,af,gd⟩ E (E.app [(d,jh (B (decide (m>=n))))] [(d,0)]):=
 fun _=>tV .geq xt yt x y .i64 m n _ rfl rfl (yE sd) hx hy rfl
theorem yCR(hx:opT E x=jh (I m))(hy:opT E y=jh (I n))(sd:J6 d Γ.N=jj):Ok P Γ ⟨jh d,.binOp .eql xt x y yt,ty,ps,af,gd⟩ E (E.app [(d,jh (B (m==n)))] [(d,0)]):=
 fun _=>tV .eql xt yt x y .i64 m n _ rfl rfl (yE sd) hx hy rfl
theorem yCS(hx:opT E x=jh (I m))(hy:opT E y=jh (I n))(sd:J6 d Γ.N=jj):Ok P Γ ⟨jh d,.binOp .neq xt x y yt,ty,ps,af,gd⟩ E (E.app [(d,jh (B (m != n)))] [(d,0)]):=
 fun _=>tV .neq xt yt x y .i64 m n _ rfl rfl (yE sd) hx hy rfl
theorem yCT{b:Bool}(hx:opT E x=jh (B b))(sd:J6 d Γ.N=jj):Ok P Γ ⟨jh d,.unOp .not xt x,ty,ps,af,gd⟩ E (E.app [(d,jh (B (!b)))] [(d,0)]):=
 fun _=>yAI xt x b rfl rfl (yE sd) hx
theorem yCU(hv:rng (0-n)=jh c)(hx:opT E x=jh (I n))(sd:J6 d Γ.N=jj):Ok P Γ ⟨jh d,.unOp .neg xt x,ty,ps,af,gd⟩ E (E.app [(d,jh (I c))] [(d,0)]):=by
 obtain⟨rfl,h⟩:=zCl hv;have:=fun S=>yAJ (P:=P) (Γ:=Γ.at S) (E:=E) (o:=⟨jh d,.unOp .neg xt x,ty,ps,af,gd⟩) xt x .i64 n rfl rfl (yE sd) hx
 rw[zCk h]at this;exact this
end
section
variable {P:Program}{Γ:Ctx}{E:Env}{d:Nat}{x y:Operand}{ty:TypeId}{ps:String}{af:Array Edge}{gd:Option (Nat×Bool)}
class zHt (P:Program) (t:TypeId) (u:outParam T):Prop where
 h:∃ti z,P.info? t=jh ti/\ti.zero=jh z/\u.zOk=jj/\sE u=z.cells.toList/\z.cells.size=u.size
theorem zQ2{t:TypeId}(ht:zHt P t u)(sd:J6 d Γ.N=jj):Ok P Γ ⟨jh d,.alloc t,ty,ps,af,gd⟩ E (E.app [(d,jh (.ptr u))] [(d,0)]):=by obtain⟨ti,z,h1,h2,h3,h4,h5⟩:=ht.h;exact fun S=>zTG t ti z u rfl rfl (yE sd) h1 h2 h3 h4 h5
theorem zZN{s:Nat}{t:T}(hs:E s=jh (.tup ts))(hi:ts[i]? =jh t)(sd:(J6 d Γ.N&&t.okTup&&(s != d)&&T.okB [(d,0)] (cpT s t [i]))=jj):
  Ok P Γ ⟨jh d,.extract (.tmp s) i,ty,ps,af,gd⟩ E (E.app [(d,jh (cpT s t [i]))] [(d,0)]):=by
 simp only[J4]at sd;exact fun S=>zOm s i ts t rfl rfl (yE sd.1.1.1) hs hi (zBd sd.1.1.2) (by grind) sd.2
theorem zCm{t:T}(hx:opT E x=jh t)(hp:zFV E x=jj)(sd:mvB Γ x t d=jj):Ok P Γ ⟨jh d,.nilCheck x,ty,ps,af,gd⟩ E (E.app [(d,jh (tA x t))] [(d,0)]):=by simp only[mvB,J4]at sd;exact fun S=>yAK x t rfl rfl (yE sd.1.1.1) hx hp (zBd sd.1.1.2) (zEw sd.1.2) sd.2
theorem zUd{c:Operand}{b:Bool}{t:T}(hc:opT E c=jh (B b))(hx:opT E (if b then x else y)=jh t)(sd:mvB Γ (if b then x else y) t d=jj):Ok P Γ ⟨jh d,.pick c x y,ty,ps,af,gd⟩ E (E.app [(d,jh (tA (if b then x else y) t))] [(d,0)]):=by simp only[mvB,J4]at sd;exact fun S=>zXO c x y b t rfl rfl (yE sd.1.1.1) hc hx (zBd sd.1.1.2) (zEw sd.1.2) sd.2
theorem zZO{t:TypeId}{s:Nat}(hs:E s=jh u)(hu:zY u)(sd:(J6 d Γ.N&&u.okTup&&(s != d))=jj):
  Ok P Γ ⟨jh d,.box t (.tmp s),ty,ps,af,gd⟩ E (E.app ((d,jh (.ptr u))::pWr d [.slot s u] 0) ((d,0)::sA [.slot s u])):=by
 simp only[J4]at sd;have gc:s≠d:=by grind
 refine fun S=>yAM t (.tmp s) (.slot s u) rfl rfl (yE sd.1.1) (.slot s u) ⟨by grind,by simp,?_⟩
 simp only[xM]
 grind
end
def yI{α:Type}(xs ys:List α):Option (List α):=if xs.length+ys.length<=68719476736 then jh (xs++ys)else ji
theorem zFx{α:Type}{xs ys zs:List α}(h:yI xs ys=jh zs):zs=xs++ys/\xs.length+ys.length<=68719476736:=by grind[yI]
section
variable {P:Program}{Γ:Ctx}{E:Env}{d:Nat}{x y:Operand}{ty:TypeId}{ps:String}{af:Array Edge}{gd:Option (Nat×Bool)}
theorem ElT.zsize{t:TypeId}(h:ElT P t e ti k u):∃z,ti.zero=jh z/\z.cells.size=k:=by obtain⟨z,h1,h2⟩:=h.zero;exact⟨z,h1,by rw[<-Km,<-h2,vU u h.zok,h.us]⟩
theorem zUe{α:Type}{t:TypeId}{f:α->T}{xs ys zs:List α}{s1:Nat}(ht:ElT P t e ti k u)(hv:yI xs ys=jh zs)(h0:E s0=jh (L k f xs))(h1:E s1=jh (L k f ys))(sd:(J6 d Γ.N&&(s0 != d)&&(s1 != d)&&(s1 != s0))=jj):
  Ok P Γ ⟨jh d,.call { callee:=.builtin .append,args:=#[.tmp s0,.tmp s1],argTypes:=#[t,t] },ty,ps,af,gd⟩ E (E.app [(d,jh (L k f zs)),(s0,jh .any),(s1,jh .any)] [(d,0),(s0,1),(s1,1)]):=by
 obtain⟨rfl,hl⟩:=zFx hv;obtain⟨z,hz,fS⟩:=ht.zsize;simp only[J4]at sd;intro S;have:=zKv (P:=P) (Γ:=Γ.at S) (E:=E) (o:=⟨jh d,.call { callee:=.builtin .append,args:=#[.tmp s0,.tmp s1],argTypes:=#[t,t] },ty,ps,af,gd⟩) t e ti z k s0 s1 (xs.map f) (ys.map f) rfl rfl (yE sd.1.1.1) ht.un ht.info hz ht.size ht.pos fS ht.bytes h0 h1
  (by grind) (by grind) (by grind) (by grind)
 rw[<-K7]at this;exact this
theorem zJr{α:Type}{f:α->T}(hf:∀x,(f x).flat=jj):(xs:List α)->kT (xs.map f)=jj
 | []=>rfl
 |x::xs=>by simp only[Ju,kT,hf x,zJr hf xs,Lp]
theorem zK4{α:Type}{t:TypeId}{f:α->T}{xs ys zs:List α}(ht:ElT P t e ti k u)(hf:∀x,(f x).flat=jj)(hv:yI xs ys=jh zs)(h0:E s0=jh (L k f xs))(h1:tB E y=jh (r,q,L k f ys))(sd:(J6 d Γ.N&&(s0 != d))=jj):
  Ok P Γ ⟨jh d,.call { callee:=.builtin .append,args:=#[.tmp s0,y],argTypes:=#[t,t] },ty,ps,af,gd⟩ E (E.app [(d,jh (L k f zs)),(s0,jh .any)] [(d,0),(s0,1)]):=by
 obtain⟨rfl,hl⟩:=zFx hv;obtain⟨z,hz,fS⟩:=ht.zsize;simp only[J4]at sd;intro S;have:=zKw (P:=P) (Γ:=Γ.at S) (E:=E) (o:=⟨jh d,.call { callee:=.builtin .append,args:=#[.tmp s0,y],argTypes:=#[t,t] },ty,ps,af,gd⟩) t e ti z k s0 y r q (xs.map f) (ys.map f) rfl rfl (yE sd.1) ht.un ht.info hz ht.size ht.pos fS ht.bytes h0 h1 (zJr hf ys)
  (by grind) (by grind)
 rw[<-K7]at this;exact this
end
abbrev IK(k:IntKind)(n:Int):T:=.lit (.int k n)
abbrev Str(s:ByteArray):T:=.lit (.string s)
abbrev Pt{α:Type}(f:α->T)(x:α):T:=.ptr (f x)
abbrev Ro{α:Type}(f:α->T)(x:α):T:=.ro (f x)
abbrev A2{α:Type}(f:α->T)(x:α×α):T:=.agg [f x.1,f x.2]
theorem bd{α β:Type}{o:Option α}{f:α->Option β}{r:β}(h:o.bind f=jh r):∃v,o=jh v/\f v=jh r:=by
 cases o with
 |none=>simp at h
 |some v=>grind
theorem cT{α:Type}{b:Bool}{x y:α}{z:α}(hc:b=jj)(h:cond b x y=z):x=z:=by grind
theorem cF{α:Type}{b:Bool}{x y:α}{z:α}(hc:b=jk)(h:cond b x y=z):y=z:=by grind
theorem sI{α:Type}{x y:α}(h:jh x=jh y):x=y:=Hn.inj h
section
variable {P:Program}{Γ:Ctx}{pn:sG}{E E':Env}{Q:Exit->Env->Prop}{c:Code}{id id':Nat}
theorem nA(h:CW P Γ pn c E Q):yQ P Γ pn c Q .normal E:=h
theorem xA(h:Q (.exit id) E):yQ P Γ pn c Q (.exit id) E:=h
theorem rA(h:Q .ret E):yQ P Γ pn c Q .ret E:=h
theorem nB(h:Q .normal E):yT id Q .normal E:=h
theorem rB(h:Q .ret E):yT id Q .ret E:=h
theorem xB(h:Q .normal E):yT id Q (.exit id) E:=by simp only[yT,if_true];exact h
theorem neX:Exit.exit id≠.normal:=by simp
theorem neR:Exit.ret≠.normal:=by simp
theorem RW.cases{ops:Array Oper}{os:List Oper}(s:Nat)(b:Bool)(hb:E s=jh (B b))(ht:b=jj->RW P Γ pn ops os (E.app [(s,jh (B jj))] []) Q)(hf:b=jk->RW P Γ pn ops os (E.app [(s,jh (B jk))] []) Q):RW P Γ pn ops os E Q:=by
 have key:∀c:Bool,b=c->zR Γ E (E.app [(s,jh (B c))] []):=by
  rintro c rfl a w hs
  refine hs.weaken fun s' t h=>?_
  by_cases e:s=s'
  ·grind[Env.app,Wr.find]
  ·simp only[Env.app,Wr.find,e,if_false]at h
   grind
 cases hc:b with
 |true=>grind[ghost]
 |false=>grind[ghost]
end
theorem yF{α:Type}{f:α->T}{xs:List α}{i:Int}{v:α}{p:List Nat}(h:ixO xs i=jh v)(hr:(f v).get p=jh u):(L k f xs).get (i.toNat::p)=jh u:=by simp[T.get,(uL h).2,hr]
theorem vG{t:T}{p:List Nat}(h:t.get p=jh u):(T.ptr t).get (0::p)=jh u:=h
theorem vH{xs:List T}{x:T}{p:List Nat}(hj:xs[j]? =jh x)(h:x.get p=jh u):(T.agg xs).get (j::p)=jh u:=by grind[T.get]
theorem zHu{α:Type}{f:α->T}{xs:List α}{i:Int}{v w:α}{p:List Nat}(h:ixO xs i=jh v)(hr:(f v).set p u=f w):(L k f xs).set (i.toNat::p) u=L k f (xs.set i.toNat w):=by simp[L,T.set,(uL h).2,hr,Ja1]
theorem zDg{t t':T}{p:List Nat}(h:t.set p u=t'):(T.ptr t).set (0::p) u=T.ptr t':=by simp[T.set,h]
class Enc {α:Type} (f:α->T):Prop where
 clean:∀x,zY (f x)
 rofree:∀x,wI (f x)=jj
 strip:∀x,strip (f x)=f x
 okTup:∀x,(f x).okTup=jj
 rook:∀x,zFp (f x)=jj
theorem zDJ{α:Type}{f:α->T}(h:∀x,wI (f x)=jj):(xs:List α)->vE (xs.map f)=jj
 | []=>rfl
 |x::xs=>by simp only[Ju,vE,h x,zDJ h xs,Lp]
theorem zHv{α:Type}{f:α->T}(h:∀x,zFp (f x)=jj):(xs:List α)->zAY (xs.map f)=jj
 | []=>rfl
 |x::xs=>by simp only[Ju,zAY,h x,zHv h xs,Lp]
theorem tE{α:Type}{f g:α->T}(h:∀x,strip (f x)=g x):(xs:List α)->wS (xs.map f)=xs.map g
 | []=>rfl
 |x::xs=>by simp only[Ju,wS,h x,tE h xs]
instance:Enc I:=⟨zQ1,fun _=>rfl,fun _=>rfl,fun _=>rfl,fun _=>rfl⟩
instance:Enc B:=⟨zXY,fun _=>rfl,fun _=>rfl,fun _=>rfl,fun _=>rfl⟩
instance{k:IntKind}:Enc (IK k):=⟨fun _=>by simp[zY,yU],fun _=>rfl,fun _=>rfl,fun _=>rfl,fun _=>rfl⟩
instance:Enc Str:=⟨fun _=>by simp[zY,yU],fun _=>rfl,fun _=>rfl,fun _=>rfl,fun _=>rfl⟩
instance{α:Type}{k:Nat}{f:α->T}[h:Enc f]:Enc (L k f):=
 ⟨fun _=>zQ0 h.clean,fun xs=>by simp only[wI];exact zDJ h.rofree xs,fun xs=>by simp only[L,strip,tE h.strip xs],fun _=>rfl,fun xs=>by simp only[zFp,zHv h.rook xs]⟩
instance{α:Type}{f:α->T}[h:Enc f]:Enc (A2 f):=
 ⟨fun x=>by simp only[zY,yU,xN];exact⟨h.clean _,h.clean _,trivial⟩,fun x=>by simp only[wI,vE,h.rofree,Lp],fun x=>by simp only[A2,strip,wS,h.strip],
  fun x=>by simp only[T.okTup,yM,h.okTup,Lp],fun x=>by simp only[zFp,zAY,h.rook,Lp]⟩
instance{α:Type}{f:α->T}[h:Enc f]:Enc (Pt f):=
 ⟨fun x=>by simp only[zY,yU];exact h.clean x,fun x=>by simp only[wI,h.rofree],fun x=>by simp only[Pt,strip,h.strip],fun _=>rfl,fun x=>by simp only[zFp,h.rook]⟩
class uG {α:Type} (f g:α->T):Prop where
 h:∀x,strip (f x)=g x
instance{α:Type}{f:α->T}[h:Enc f]:uG f f:=⟨h.strip⟩
instance{α:Type}{k:Nat}{f g:α->T}[h:uG f g]:uG (L k f) (L k g):=⟨fun xs=>by simp only[L,strip,tE h.h xs]⟩
instance{α:Type}{k:Nat}{g:α->T}:uG (Ro (L k g)) (L k g):=⟨fun _=>rfl⟩
instance{α:Type}{g:α->T}:uG (Ro (Pt g)) (Pt g):=⟨fun _=>rfl⟩
theorem stA{xs ys:List T}(h:wS xs=ys):strip (.agg xs)=.agg ys:=by grind[strip]
theorem stC{x y:T}{xs ys:List T}(h:strip x=y)(h2:wS xs=ys):wS (x::xs)=y::ys:=by grind[wS]
section
variable {E:Env}{rw:Rw}{i s r:Nat}{q:List Nat}{x:Operand}
theorem zUf{α:Type}{f g:α->T}{xs:List α}(h:uG f g):clo E (L k f xs)=.ro (L k g xs):=by simp only[clo,L,strip,tE h.h xs]
theorem zUg{t:T}(h:strip t=u):clo E (.ptr t)=.ro (.ptr u):=by grind[clo,strip]
theorem zBe{tr:T}(hr:E r=jh tr)(hg:tr.get q.reverse=jh u)(h4:kX u=jj):qK E 4 r q=jh (r,q,u):=by grind[kX,qK]
theorem zOt{α:Type}{f g:α->T}{xs:List α}{tr:T}(hr:E r=jh tr)(hg:tr.get q.reverse=jh (L k f xs))(h:uG f g):clo E (.same r q)=.ro (L k g xs):=by simp only[clo,zBe hr hg rfl,T.single,if_true,L,strip,tE h.h xs]
theorem yCV{t tr:T}(hr:E r=jh tr)(hg:tr.get q.reverse=jh (.ptr t))(h:strip t=u):clo E (.same r q)=.ro (.ptr u):=by simp only[clo,zBe hr hg rfl,T.single,if_true,strip,h]
theorem yAN{α:Type}{l h:Nat}{f g:α->T}{xs:List α}{tr:T}(hr:E r=jh tr)(hg:tr.get q.reverse=jh (L k f xs))(hs:uG f g)(h1:l<=h)(h2:h<=xs.length):clo E (.sub r q k l h)=.ro (L k g ((xs.drop l).take (h-l))):=by simp only[clo,zBe hr hg rfl,L,tE hs.h xs,Jg,h1,h2,and_self,if_true,Jbo,Uy]
theorem yCW{xs ys:List T}(h:zBa E xs=ys):clo E (.agg xs)=.agg ys:=by grind[clo]
theorem yFa:zBa E []=[]:=rfl
theorem yCX{x y:T}{xs ys:List T}(h:clo E x=y)(h2:zBa E xs=ys):zBa E (x::xs)=y::ys:=by grind[zBa]
mutual
theorem zJs(s:Nat):(t:T)->t.okTup=jj->sU E [] s t=jj
 |.agg xs,h=>by simp only[sU,T.okTup]at h ⊢;exact zHw s xs h
 |.tup _,h=>by grind[T.okTup]
 |.same r q,_|.sub r q _ _ _,_=>by grind[sU]
 |.sl _ _,_|.ptr _,_=>by rfl
 |.lit _,_|.ro _,_|.any,_|.addr _ _,_=>by rfl
theorem zHw(s:Nat):(xs:List T)->yM xs=jj->zAn E [] s xs=jj
 | [],_=>rfl
 |x::xs,h=>by simp only[yM,J4]at h;simp only[zAn,zJs s x h.1,zHw s xs h.2,Lp]
end
theorem agC(t:T)(h:opT E x=jh t)(h1:clo E t=u)(h2:t.okTup=jj):zBb E [] i x u:=.inr ⟨t,h,h1,by
 cases x with
 |tmp s=>exact zJs s t h2
 |_=>rfl⟩
end
section
variable {P:Program}{Γ:Ctx}{E:Env}{d:Nat}{x y:Operand}{ty:TypeId}{ps:String}{af:Array Edge}{gd:Option (Nat×Bool)}
abbrev zAp(res:List T):Prop:=yZ res/\yM res=jj/\vE res=jj
theorem zFy:zAp []:=⟨trivial,rfl,rfl⟩
theorem zMe{α:Type}{f:α->T}{x:α}(h:Enc f)(h2:zAp ts):zAp (f x::ts):=
 ⟨⟨h.clean x,h2.1⟩,by simp only[yM,h.okTup,h2.2.1,Lp],by simp only[vE,h.rofree,h2.2.2,Lp]⟩
abbrev jH(P:Program)(f:FuncId):Prop:=∀args w,(callFunc f args).run P w=.ok (.enter f args) w
theorem zOu{f:FuncId}{xs:List Operand}{res:List T}(gk:jH P f)(hc:FnC P f us res [])(gj:xI E [] 0 xs us)(gw:zAp res)(sd:J6 d Γ.N=jj):
  Ok P Γ ⟨jh d,.call { callee:=.value (.func f),args:=xs.toArray,argTypes:=ats },ty,ps,af,gd⟩ E (E.app (cWr d res []) (vV d [])):=
 fun _S=>zK0 f (.func f) xs ats us res [] rfl rfl (yE sd) gk rfl hc gj .nil gw
theorem zXZ{f:FuncId}{xs:List Operand}{res:List T}(gk:jH P f)(hc:FnC P f us res [])(gf:xs.length=us.length)(gj:∀(i:Nat) u,us[i]? =jh u-> ∃x,xs[i]? =jh x/\opT E x=jh u/\u.flat=jj)(gw:yZ res/\yM res=jj)(sd:J6 d Γ.N=jj):
  Ok P Γ ⟨jh d,.call { callee:=.value (.func f),args:=xs.toArray,argTypes:=ats },ty,ps,af,gd⟩ E (E.app (cWr d res []) (vV d [])):=
 fun _S=>zTS f (.func f) xs ats us res rfl rfl (yE sd) gk rfl hc gf gj gw
class sH (P:Program) (S:TypeId) (j:Nat) (off:outParam Nat):Prop where
 h:∃fs f fi,P.underlying S=jh (.struct fs)/\fs[j]? =jh f/\P.info? f.type=jh fi/\fi.size≠0/\off=f.offset
theorem yFb{S:TypeId}{xs:List T}(ht:sH P S j off)(hx:tB E x=jh (r,q,.ptr (.agg xs)))(hu:xs[j]? =jh u)(gB:T.sizes (xs.take j)=off)(sd:J6 d Γ.N=jj):
  Ok P Γ ⟨jh d,.fieldAddr S x j,ty,ps,af,gd⟩ E (E.app [(d,jh (.addr r (j::0::q)))] [(d,0)]):=by
 obtain⟨fs,f,fi,h1,h2,h3,h4,h5⟩:=ht.h;exact fun _=>yCH x S fs f fi j r q xs u rfl rfl (yE sd) h1 h2 h3 h4 hx hu
theorem yCY{S:TypeId}{t:T}{xs:List T}(ht:sH P S j off)(hx:opT E x=jh (.addr r q))(hr:E r=jh t)(hg:t.get q.reverse=jh (.agg xs))(hu:xs[j]? =jh u)(gB:T.sizes (xs.take j)=off)(sd:(J6 d Γ.N&&t.locd q.reverse)=jj):
  Ok P Γ ⟨jh d,.fieldAddr S x j,ty,ps,af,gd⟩ E (E.app [(d,jh (.addr r (j::q)))] [(d,0)]):=by
 obtain⟨fs,f,fi,h1,h2,h3,h4,h5⟩:=ht.h;simp only[J4]at sd;exact fun _=>zOj x S fs f fi j r q t xs u rfl rfl (yE sd.1) h1 h2 h3 h4 hx hr hg sd.2 hu
theorem zUh{S:TypeId}{xs:List T}(ht:sH P S j off)(hx:opT E x=jh (.ro (.ptr (.agg xs))))(hu:xs[j]? =jh u)(gB:T.sizes (xs.take j)=off)(sd:J6 d Γ.N=jj):
  Ok P Γ ⟨jh d,.fieldAddr S x j,ty,ps,af,gd⟩ E (E.app [(d,jh (.ro (.ptr u)))] [(d,0)]):=by
 obtain⟨fs,f,fi,h1,h2,h3,h4,h5⟩:=ht.h;exact fun _=>zT8 x S fs f fi j xs u rfl rfl (yE sd) h1 h2 h3 h4 hx hu
def zS{α:Type}(xs:List α)(l h:Int):Option (List α):=if 0<=l/\l<=h/\h<=(xs.length:Int)then jh ((xs.drop l.toNat).take (h.toNat-l.toNat))else ji
theorem yCZ{α:Type}{t:TypeId}{f:α->T}{xs ys:List α}{lo hi:Option Operand}(ht:zAJ P t e ti k)(hv:zS xs l h=jh ys)(hx:tB E x=jh (r,q,.ro (L k f xs)))(eM:zBw E lo 0 l.toNat)(fy:zBw E hi xs.length h.toNat)(sd:J6 d Γ.N=jj):
  Ok P Γ ⟨jh d,.slice t x lo hi ji,ty,ps,af,gd⟩ E (E.app [(d,jh (.ro (L k f ys)))] [(d,0)]):=by
 unfold zS at hv;split at hv
 ·rename_i hc
  simp at hv;subst hv;intro S;have:=zLH (P:=P) (Γ:=Γ.at S) (E:=E) (o:=⟨jh d,.slice t x lo hi ji,ty,ps,af,gd⟩) x lo hi t e ti r q k (xs.map f) l.toNat h.toNat rfl rfl (yE sd) ht.un ht.info ht.size hx eM (by grind) (by omega) (by simp;omega);simpa[L,Jbo,Uy]using this
 ·cases hv
theorem zUi{α:Type}{t:TypeId}{f:α->T}{xs ys:List α}{lo hi:Option Operand}(ht:zAJ P t e ti k)(hv:zS xs l h=jh ys)(hx:tB E x=jh (r,q,L k f xs))(eM:zBw E lo 0 l.toNat)(fy:zBw E hi xs.length h.toNat)(sd:(J6 d Γ.N&&(r != d))=jj):
  Ok P Γ ⟨jh d,.slice t x lo hi ji,ty,ps,af,gd⟩ E (E.app [(d,jh (.sub r q k l.toNat h.toNat))] [(d,0)]):=by
 unfold zS at hv;simp only[J4]at sd;split at hv
 ·rename_i hc
  intro S;exact zKo (P:=P) (Γ:=Γ.at S) (E:=E) (o:=⟨jh d,.slice t x lo hi ji,ty,ps,af,gd⟩) x lo hi t e ti r q k (xs.map f) l.toNat h.toNat rfl rfl (yE sd.1) ht.un ht.info ht.size hx eM (by grind) (by omega) (by simp;omega) (by grind)
 ·cases hv
end
theorem yL{t:T}(h:zY t):zY t:=h
theorem xF{α:Type}{f:α->T}{xs:List α}(hf:∀x,zY (f x)):zY (L k f xs):=zQ0 hf
theorem zAq{t:T}(h:zY t):zY (.ptr t):=by simpa only[zY,yU]using h
theorem zOv{xs:List T}(h:yZ xs):zY (.agg xs):=by simpa only[zY,yU]using h
section
variable {P:Program}{Γ:Ctx}{pn:sG}{E E':Env}{Q:Exit->Env->Prop}{c c1 c2:Code}{x:Operand}
theorem CW.condT(hx:opT E x=jh (B jj))(h:CW P Γ pn c1 E Q):CW P Γ pn (.cond x c1 c2) E Q:=by grind[CW.cond]
theorem CW.condF(hx:opT E x=jh (B jk))(h:CW P Γ pn c2 E Q):CW P Γ pn (.cond x c1 c2) E Q:=by grind[CW.cond]
theorem zHx{chg:Chg}{s:Nat}{t:T}(h:E s=jh t)(hf:wr.find s=ji:=by rfl)(hb:t.okB chg=jj:=by rfl):E.app wr chg s=jh t:=by grind[Env.app]
theorem wK.gh{ops:Array Oper}{o:Oper}(hg:zR Γ E E1)(h:wK P Γ ops o E1 E'):wK P Γ ops o E E':=fun a w K Q hs hK=>h a w K Q (hg a w hs) hK
theorem zHy{t:T}(h:opT E x=jh (.ro (.ptr t))):zFV E x=jj:=by simp[zFV,h]
theorem zFz{t:T}(h:tB E x=jh (r,q,.ptr t)):zFV E x=jj:=by grind[zFV]
end
theorem yDa{n:Nat}:zBw E ji n (n:Int).toNat:=by simp[zBw]
theorem yDb:zBw E ji 0 (0:Int).toNat:=by simp[zBw]
theorem yAO{n:Int}(h0:0<=n)(h:opT E x=jh (I n)):zBw E (jh x) d n.toNat:=⟨.i64,by grind⟩
theorem uR{α:Type}{xs ys:List α}(hv:zS xs l h=jh ys):0<=l/\l<=h/\h<=xs.length/\ys=(xs.drop l.toNat).take (h.toNat-l.toNat):=by grind[zS]
theorem zJt{α:Type}{xs ys:List α}(hv:zS xs l h=jh ys):0<=l:=(uR hv).1
theorem zJu{α:Type}{xs ys:List α}(hv:zS xs l h=jh ys):0<=h:=by have:=uR hv;omega
theorem zYa{α:Type}{f g:α->T}{xs ys:List α}{tr:T}(hr:E r=jh tr)(hg:tr.get q.reverse=jh (L k f xs))(hs:uG f g)(hv:zS xs l h=jh ys):
  clo E (.sub r q k l.toNat h.toNat)=.ro (L k g ys):=by
 obtain⟨h1,h2,h3,rfl⟩:=uR hv
 grind[yAN]
section
variable {P:Program}{Γ:Ctx}{E E':Env}{d:Nat}{x y:Operand}{ty:TypeId}{ps:String}{af:Array Edge}{gd:Option (Nat×Bool)}
theorem yDc{t:TypeId}{tr:T}(ht:zUc P t u)(hx:tB E x=jh (r,q,.ptr t0))(hr:E r=jh tr)(hg:tr.get (0::q).reverse=jh u)(sd:(J6 d Γ.N&&tr.locd (0::q).reverse&&(r != d)&&T.okB [(d,0)] (cpT r u (0::q)))=jj):
  Ok P Γ ⟨jh d,.load t x,ty,ps,af,gd⟩ E (E.app [(d,jh (cpT r u (0::q)))] [(d,0)]):=by
 obtain⟨ds,ti,h1,h2,h3,h4⟩:=ht.h;simp only[J4]at sd;exact fun S=>zLE x t ds ti r (0::q) tr u rfl rfl (yE sd.1.1.1) h1 h2 h3 h4 (zBM.ptr hx) hr hg sd.1.1.2 (by grind) sd.2
theorem zZP{t:TypeId}{s:Nat}{tr:T}(hi:P.info? t=jh ti)(gr:(ti.size==u.size&&J6 0 ti.size)=jj)(hx:∀S,zBM (Γ.at S) E x r q)(hr:E r=jh tr)(hg:tr.get q.reverse=jh u0)(gv:tr.set q.reverse u=tr')(hy:E s=jh u)(hu:zY u)
  (sd:(tr.single&&tr.locd q.reverse&&vS u u0&&(r != s)&&u.okTup)=jj):Ok P Γ ⟨ji,.store t x (.tmp s),ty,ps,af,gd⟩ E (E.app ((r,jh tr')::sWr r q (.slot s u)) ((r,q.length)::sA [.slot s u])):=by
 simp only[J4]at sd gr;subst gv;intro S;refine zJe (P:=P) (Γ:=Γ.at S) (E:=E) (o:=⟨ji,.store t x (.tmp s),ty,ps,af,gd⟩) t ti x (.tmp s) r q tr u0 (.slot s u) rfl rfl hi (by grind[yR.tree]) (yE gr.2) (hx S) hr sd.1.1.1.1 hg sd.1.1.1.2 sd.1.1.2 (.slot s _)
  ⟨by grind,by simp,?_⟩
 grind[xM]
theorem zRU{t:TypeId}{s:Nat}{tr:T}(hi:P.info? t=jh ti)(gr:(ti.size==u.size&&J6 0 ti.size)=jj)(hx:opT E x=jh (.addr r q))(hr:E r=jh tr)(hg:tr.get q.reverse=jh u0)(gv:tr.set q.reverse u=tr')(hy:E s=jh u)(hu:zY u)
  (sd:(tr.single&&tr.locd q.reverse&&vS u u0&&(r != s)&&u.okTup)=jj):Ok P Γ ⟨ji,.store t x (.tmp s),ty,ps,af,gd⟩ E (E.app ((r,jh tr')::sWr r q (.slot s u)) ((r,q.length)::sA [.slot s u])):=
 zZP hi gr (fun _=>zBM.addr hx) hr hg gv hy hu sd
theorem zZQ{t:TypeId}{s:Nat}{tr:T}(hi:P.info? t=jh ti)(gr:(ti.size==u.size&&J6 0 ti.size)=jj)(hx:tB E x=jh (r,q,.ptr t0))(hr:E r=jh tr)(hg:tr.get (0::q).reverse=jh u0)(gv:tr.set (0::q).reverse u=tr')(hy:E s=jh u)(hu:zY u)
  (sd:(tr.single&&tr.locd (0::q).reverse&&vS u u0&&(r != s)&&u.okTup)=jj):Ok P Γ ⟨ji,.store t x (.tmp s),ty,ps,af,gd⟩ E (E.app ((r,jh tr')::sWr r (0::q) (.slot s u)) ((r,(0::q).length)::sA [.slot s u])):=
 zZP hi gr (fun _=>zBM.ptr hx) hr hg gv hy hu sd
theorem zHz{G:Gh}{s:Nat}:(xs:List T)->yM xs=jj-> ∀(p:List Nat)(i j:Nat)(u:T),xs[j]? =jh u-> ∃l1 l2,yC G s xs p i=l1++vals G s u ((i+j)::p)++l2/\l1.length=T.sizes (xs.take j)
 | [],_,_,_,_,_,h=>by simp at h
 |x::xs,ht,p,i,j,u,h=>by
  simp only[yM,J4]at ht;cases j with
  |zero=>simp at h;subst h;exact⟨[],yC G s xs p (i+1),by rfl,by rfl⟩
  |succ j=>
   obtain⟨l1,l2,h1,h2⟩:=zHz xs ht.2 p (i+1) j u (by grind);refine⟨vals G s x (i::p)++l1,l2,by rw[yC,h1,show i+(j+1)=i+1+j from by omega];simp,?_⟩;rw[J5,vJ x _ (by rintro ys rfl;grind[T.okTup]),h2,L4,T.sizes]
theorem yDd{S:TypeId}{s:Nat}{xs:List T}(ht:sH P S j off)(hv:∃ds ti fs f,P.underlying S=jh (.struct fs)/\fs[j]? =jh f/\P.underlying f.type=jh ds/\P.info? f.type=jh ti/\zFk ds= !u.single/\ti.size=u.size)(hx:E s=jh (.agg xs))(hu:xs[j]? =jh u)(gB:T.sizes (xs.take j)=off)
  (sd:(J6 d Γ.N&&yM xs&&u.okTup&&(s != d)&&T.okB [(d,0)] (cpT s u [j]))=jj):
  Ok P Γ ⟨jh d,.field S (.tmp s) j,ty,ps,af,gd⟩ E (E.app [(d,jh (cpT s u [j]))] [(d,0)]):=by
 obtain⟨fs,f,fi,h1,h2,h3,h4,h5⟩:=ht.h;obtain⟨ds,ti,fs',f',g1,g2,g3,g4,g5,g6⟩:=hv;simp only[J4]at sd;rw[h1]at g1;simp at g1;subst g1;rw[h2]at g2;simp at g2;subst g2;rw[h3]at g4;simp at g4;subst g4;intro S';refine xX.value rfl fun a w G g9=>?_
 obtain⟨k1,k2,_⟩:=g9.ent s _ hx;simp only[R]at k2;have k3:=zAG xs [] 0 j u k2 hu;simp only[Ji]at k3;have gc:s≠d:=by grind
 have hJ:∀ys,u≠.tup ys:=zBd sd.1.1.2;have hk:=G.put_keep (w:=w) (w':=w) rfl d (fun z=>G.hd s (z++[j]));have hz:∀z,(G.put d (fun z=>G.hd s (z++[j]))).hd d (z++[])=G.hd s (z++[j]):=by grind[Gh.put_self]
 refine⟨sC G s u [j],w,?_,_,vC g9 rfl (yE sd.1.1.1.1) (fun z=>G.hd s (z++[j])) (fun z=>g9.mem.one _ _) _ _ (by grind[zAj])
  (zD6 (fun p=>G.put_other _ p gc) u [j] [] hz hJ (hk.keepR (by grind[kU,qD])) k3) (qD s u [j])⟩
 obtain⟨l1,l2,e1,e2⟩:=zHz (G:=G) (s:=s) xs sd.1.1.1.2 [] 0 j u hu;simp only[Ji]at e1;have e3:l1.length=f.offset:=by omega
 have e4:=vJ (G:=G) (s:=s) u [j] hJ;have aH:(part f.type (yC G s xs [] 0).toArray f.offset).run P w=.ok (sC G s u [j]) w:=by
  rw[e1];cases u with
  |agg ys=>
   simp[T.single]at g5;simp only[vals,T.size]at e4 g6 ⊢
   simp[part,qO g3,g5,sizeOf,typeInfo,h3,sC]
   grind
  |tup ys=>grind
  |_=>
   simp[T.single]at g5;simp[part,qO g3,g5,sC,vals,<-e3]
 simp[execOp,xV k1,mkV,Instr.field,run_underlying h1,h2,asAgg,aH]
theorem zQ3{α:Type}{t:TypeId}{n:Nat}{a:Int}{f:α->T}{z:α}(ht:ElT P t e ti k u)(hz:f z=u)(hn:yG a=jh n)(hx:opT E x=jh (I a))(hy:opT E y=jh (I a))(sd:J6 d Γ.N=jj):
  Ok P Γ ⟨jh d,.makeSlice t x y,ty,ps,af,gd⟩ E (E.app [(d,jh (L k f (J1 n z)))] [(d,0)]):=by
 have:=zUa (P:=P) (Γ:=Γ) (E:=E) (d:=d) (ty:=ty) (ps:=ps) (af:=af) (gd:=gd) ht hn hx hn hy (Jd _) sd;rw[<-hz]at this;simpa[L]using this
theorem zUj{t:TypeId}(ht:ElT P t e ti k u)(sd:J6 d Γ.N=jj):Ok P Γ ⟨jh d,.buildSlice t 0 #[],ty,ps,af,gd⟩ E (E.app [(d,jh (.sl k []))] [(d,0)]):=
 fun _=>zHb t e ti k rfl rfl (yE sd) ht.un ht.info
theorem zH0(t:TypeId)(x y:Value):Op.equal t x y=Op.equalIn (9999+1) t x y:=rfl
theorem zGA{P:Program}{w:World}{t:TypeId}{k:IntKind}{a b:Int}(n:Nat)(h:P.underlying t=jh (.int k)):(Op.equalIn (n+1) t (.int k a) (.int k b)).run P w=.ok (a==b) w:=by simp only[Op.equalIn,Sem.run_bind,run_underlying h];simp
end
def zBz:List Nat->Bool
 | []=>jj
 |x::xs=> !xs.contains x&&zBz xs
theorem zF0:{l:List Nat}->zBz l=jj->l.Nodup
 | [],_=>by simp
 |x::xs,h=>by simp only[zBz,J4,Gy,Ha,decide_eq_false_iff_not]at h;exact La.2 ⟨h.1,zF0 h.2⟩
def zB0(E:Env):List yR->Prop
 | []=>True
 |.slot s t::l=>(E s=jh t/\zY t/\t.okTup=jj)/\zB0 E l
 |.zero u::l=>u.zOk=jj/\zB0 E l
theorem zB0.get{E:Env}:(l:List yR)->zB0 E l->(∀s t,yR.slot s t∈l->E s=jh t/\zY t/\t.okTup=jj)/\ ∀u,yR.zero u∈l->u.zOk=jj
 | [],_=>⟨fun _ _ h=>by simp at h,fun _ h=>by simp at h⟩
 |.slot s t::l,h=>by
  obtain⟨h1,h2⟩:=zB0.get l h.2;exact⟨fun s' t' hm=>by
   rcases J9.1 hm with e|hm
   ·cases e;exact h.1
   ·exact h1 s' t' hm,fun u hm=>by
   rcases J9.1 hm with e|hm
   ·cases e
   ·exact h2 u hm⟩
 |.zero u::l,h=>by
  obtain⟨h1,h2⟩:=zB0.get l h.2;exact⟨fun s' t' hm=>by
   rcases J9.1 hm with e|hm
   ·cases e
   ·exact h1 s' t' hm,fun u' hm=>by
   rcases J9.1 hm with e|hm
   ·cases e;exact h.1
   ·exact h2 u' hm⟩
section
variable {E:Env}
theorem pkN:zB0 E []:=trivial
theorem pkS{s:Nat}{t:T}{l:List yR}(h:E s=jh t)(hc:zY t)(h3:t.okTup=jj)(hl:zB0 E l):zB0 E (.slot s t::l):=⟨⟨h,hc,h3⟩,hl⟩
theorem pkZ{l:List yR}(h:u.zOk=jj)(hl:zB0 E l):zB0 E (.zero u::l):=⟨h,hl⟩
theorem zB0.parts{l:List yR}(h:zB0 E l)(hn:zBz (d::xM l)=jj):tJ E d l:=⟨(zB0.get l h).1,(zB0.get l h).2,zF0 hn⟩
def zBT(E:Env)(zs:List T)(ps:List yR):List (Nat×Operand)->List (Nat×yR)->Prop
 | [],[]=>True
 |x::xs,q::qs=>(x.1=q.1/\kN E x.2 q.2/\ps[q.1]? =jh q.2/\ ∃u,zs[q.1]? =jh u/\u.size=q.2.tree.size)/\zBT E zs ps xs qs
 |_,_=>False
theorem bqN{zs:List T}{ps:List yR}:zBT E zs ps [] []:=trivial
theorem bqC{zs:List T}{ps:List yR}{q:yR}{xs:List (Nat×Operand)}{qs:List (Nat×yR)}(h:kN E x q)(hl:zBT E zs ps xs qs)(h1:ps[i]? =jh q:=by rfl)(h2:∃u,zs[i]? =jh u/\u.size=q.tree.size:=by exact⟨_,rfl,rfl⟩):zBT E zs ps ((i,x)::xs) ((i,q)::qs):=⟨⟨rfl,h,h1,h2⟩,hl⟩
theorem zBT.ix{zs:List T}{ps:List yR}:(pl:List (Nat×Operand))->(qs:List (Nat×yR))->zBT E zs ps pl qs->pl.map (·.1)=qs.map (·.1)
 | [],[],_=>rfl
 |x::xs,q::qs,h=>by simp[h.1.1,zBT.ix xs qs h.2]
 | [],_::_,h=>by simp[zBT]at h
 |_::_,[],h=>by simp[zBT]at h
theorem zBT.get{zs:List T}{ps:List yR}:(pl:List (Nat×Operand))->(qs:List (Nat×yR))->zBT E zs ps pl qs-> ∀(j:Nat)(x:Nat×Operand)(q:Nat×yR),pl[j]? =jh x->qs[j]? =jh q->kN E x.2 q.2/\q.2∈ps/\ ∃u,zs[q.1]? =jh u/\u.size=q.2.tree.size
 | [],[],_,j,_,_,h,_=>by simp at h
 |x::xs,q::qs,h,j,x',q',h1,h2=>by
  cases j with
  |zero=>simp at h1 h2;subst h1;subst h2;exact⟨h.1.2.1,Lt h.1.2.2.1,h.1.2.2.2⟩
  |succ j=>exact zBT.get xs qs h.2 j x' q' (by simpa using h1) (by simpa using h2)
 | [],_::_,h,_,_,_,_,_=>by simp[zBT]at h
 |_::_,[],h,_,_,_,_,_=>by simp[zBT]at h
end
class zGv (P:Program) (t:TypeId) (zs:outParam (List T)):Prop where
 h:∃(place:Nat->Option (Nat×Nat))(z:Value),(∀parts,P.built t parts=Instr.fill place z.cells parts)/\sW zs=z.cells.toList/\kV zs=jj/\ ∀i u,zs[i]? =jh u->place i=jh (T.sizes (zs.take i),u.size)
section
variable {P:Program}{Γ:Ctx}{E E':Env}{d:Nat}{x y:Operand}{ty:TypeId}{ps:String}{af:Array Edge}{gd:Option (Nat×Bool)}
theorem zQ4{t:TypeId}{zs:List T}{pa:Array (Nat×Operand)}(hb:zGv P t zs)(pl:List (Nat×Operand))(qs:List (Nat×yR))(pp:List yR)(gz:zB0 E pp)(hq:zBT E zs pp pl qs)(sd:(J6 d Γ.N&&zBz (d::xM pp))=jj)
  (fH:pa=pl.toArray:=by rfl)(gS:qs.foldl (fun ps q=>ps.set q.1 q.2) (zs.map yR.zero)=pp:=by rfl):Ok P Γ ⟨jh d,.build t pa,ty,ps,af,gd⟩ E (E.app ((d,jh (.agg (pp.map yR.tree)))::pWr d pp 0) ((d,0)::sA pp)):=by
 obtain⟨place,z,h1,h2,h3,h4⟩:=hb.h;simp only[J4]at sd;subst fH;exact fun S=>zTH t place z zs pl qs pp rfl rfl (yE sd.1) h1 h2 h3 h4 gS (gz.parts sd.2) (zBT.ix _ _ hq) (zBT.get _ _ hq)
def zMf(k:Nat):List yR->Bool
 | []=>jj
 |p::l=>(p.tree.size==k)&&zMf k l
theorem zMg{k:Nat}:(l:List yR)->zMf k l=jj-> ∀p∈l,p.tree.size=k
 | [],_,_,h=>by simp at h
 |p::l,h,q,hm=>by
  simp only[zMf,J4,beq_iff_eq]at h;rcases J9.1 hm with rfl|hm
  ·exact h.1
  ·exact zMg l h.2 q hm
theorem zOw{t:TypeId}{n:Nat}{pa:Array (Nat×Operand)}(ht:ElT P t e ti k u)(xs:List Operand)(pp:List yR)(ys:List α)(f:α->T)(hx:uN E xs pp)(gz:zB0 E pp)
  (sd:(J6 d Γ.N&&zBz (d::xM pp)&&zMf k pp&&J6 0 n&&Jac (n*k) 65536)=jj)(hn:xs.length=n)(fH:pa=((xs.zipIdx 0).map fun x=>(x.2,x.1)).toArray:=by rfl)(hy:pp.map yR.tree=ys.map f:=by rfl):
  Ok P Γ ⟨jh d,.buildSlice t n pa,ty,ps,af,gd⟩ E (E.app ((d,jh (L k f ys))::pWr d pp 0) ((d,0)::sA pp)):=by
 obtain⟨z,hz,_⟩:=ht.zero;simp only[J4]at sd;subst fH;intro S;have fd:n*k<=65536:=by simpa[Nat.ble_eq]using sd.2
 have:=zIE (P:=P) (Γ:=Γ.at S) (E:=E) (o:=⟨jh d,.buildSlice t n ((xs.zipIdx 0).map fun x=>(x.2,x.1)).toArray,ty,ps,af,gd⟩) t e ti z k n xs pp rfl rfl (yE sd.1.1.1.1) ht.un ht.info hz ht.size ht.pos hn (yE sd.1.2) (by omega) hx (gz.parts sd.1.1.1.2) (zMg pp sd.1.1.2);rw[hy]at this;exact this
theorem zMh{α:Type}{f g:α->T}(h:∀y,roT (g y)=f y):(ys:List α)->roT.roTs (ys.map g)=ys.map f
 | []=>rfl
 |y::ys=>by simp only[Ju,roT.roTs,h y,zMh h ys]
theorem zH1{α:Type}{t:TypeId}{f g:α->T}{xs ys zs:List α}(ht:ElT P t e ti k u)(ml:∀y,roT (g y)=f y)(gr:∀y,(g y).size=k)(hg:Enc g)(hv:yI xs ys=jh zs)(h0:E s0=jh (L k f xs))(h1:tB E y=jh (r,q,.ro (L k g ys)))(sd:(J6 d Γ.N&&(s0 != d))=jj):
  Ok P Γ ⟨jh d,.call { callee:=.builtin .append,args:=#[.tmp s0,y],argTypes:=#[t,t] },ty,ps,af,gd⟩ E (E.app [(d,jh (L k f zs)),(s0,jh .any)] [(d,0),(s0,1)]):=by
 obtain⟨rfl,hl⟩:=zFx hv;obtain⟨z,hz,fS⟩:=ht.zsize;simp only[J4]at sd;intro S;have:=zKx (P:=P) (Γ:=Γ.at S) (E:=E) (o:=⟨jh d,.call { callee:=.builtin .append,args:=#[.tmp s0,y],argTypes:=#[t,t] },ty,ps,af,gd⟩) t e ti z k s0 y r q (xs.map f) (ys.map g) rfl rfl (yE sd.1) ht.un ht.info hz ht.size ht.pos fS ht.bytes h0 h1 (zHv hg.rook ys)
  (by intro v hv;obtain⟨y,_,rfl⟩:=Je.1 hv;exact gr y) (by simpa using sd.2) (by simpa using hl)
 rw[zMh ml,<-K7]at this;exact this
def wL{α:Type}(xs:List α)(m:Int)(z:α):Option (List α):=if 0<=m/\xs.length+m.toNat<=68719476736 then jh (xs++J1 m.toNat z)else ji
theorem zUk{α:Type}{t t2:TypeId}{k2:IntKind}{f:α->T}{z:α}{xs zs:List α}(ht:ElT P t e ti k u)(mZ:P.underlying t2=jh (.int k2))(hz:f z=u)(hv:wL xs m z=jh zs)(h0:E s0=jh (L k f xs))(h1:opT E y=jh (I m))(sd:(J6 d Γ.N&&(s0 != d))=jj):
  Ok P Γ ⟨jh d,.call { callee:=.builtin .append,args:=#[.tmp s0,y],argTypes:=#[t,t2] },ty,ps,af,gd⟩ E (E.app [(d,jh (L k f zs)),(s0,jh .any)] [(d,0),(s0,1)]):=by
 unfold wL at hv;split at hv
 ·rename_i hc
  simp at hv;subst hv;obtain⟨zv,mS,eY⟩:=ht.zero;simp only[J4]at sd;obtain⟨n,rfl⟩:∃n:Nat,m=n:=⟨m.toNat,by omega⟩;intro S;have:=zHi (P:=P) (Γ:=Γ.at S) (E:=E) (o:=⟨jh d,.call { callee:=.builtin .append,args:=#[.tmp s0,y],argTypes:=#[t,t2] },ty,ps,af,gd⟩) t t2 e k2 ti zv u k s0 y .i64 n (xs.map f) rfl rfl (yE sd.1) ht.un mZ ht.info mS ht.size ht.pos ht.bytes ht.zok eY ht.us h0 h1
   (by simpa using sd.2) (by simp at hc ⊢;omega)
  have e:xs.map f++J1 n u=(xs++J1 n z).map f:=by simp[hz]
  rw[e]at this;have h2:((n:Int)).toNat=n:=by simp
  rw[h2];exact this
 ·cases hv
end
section
variable {Γ:Ctx}{E:Env}
theorem zR.trq(d r:Nat)(q:List Nat){tr:T}(hd:E d=jh (.same r q))(hr:E r=jh tr)(hg:tr.get q.reverse=jh u)(eI:zY u)(sd:(u.single&&xZ tr&&tr.okB [(d,1),(r,q.length+1)]&&(d != r))=jj)(gv:(if q=[]then .same d []else tr.set q.reverse .any)=tr':=by rfl):
  zR Γ E (E.app [(d,jh u),(r,jh tr')] [(d,1),(r,q.length+1)]):=by
 simp only[J4]at sd
 rintro a w ⟨S,hS,hs⟩
 have gc:d≠r:=by simpa using sd.2
 have:=zOp hs d [] r q (.same r q) tr u hd rfl hr hg sd.1.1.1 eI gc (by simp[T.okB,kS,gc]) sd.1.2 rfl sd.1.1.2;subst gv;exact⟨S,hS,this⟩
theorem zR.trf(d:Nat)(g:List Nat)(r:Nat)(q:List Nat)(td tr:T){td':T}(hd:E d=jh td)(mi:td.get g.reverse=jh (.same r q))(hr:E r=jh tr)(hg:tr.get q.reverse=jh u)(gv:td.set g.reverse u=td')(eI:zY u)
  (sd:(u.single&&xZ td&&xZ tr&&td.okB [(d,g.length+1),(r,q.length+1)]&&tr.okB [(d,g.length+1),(r,q.length+1)]&&(d != r))=jj)(pz:(if q=[]then .same d g else tr.set q.reverse .any)=tr':=by rfl):
  zR Γ E (E.app [(d,jh td'),(r,jh tr')] [(d,g.length+1),(r,q.length+1)]):=by
 simp only[J4]at sd
 rintro a w ⟨S,hS,hs⟩
 have gc:d≠r:=by simpa using sd.2
 have:=zOp hs d g r q td tr u hd mi hr hg sd.1.1.1.1.1 eI gc sd.1.1.2 sd.1.2 sd.1.1.1.1.2 sd.1.1.1.2;subst gv pz;exact⟨S,hS,this⟩
theorem zR.frz(s:Nat){g:α->T}(xs:List α)(hs:E s=jh (L k f xs))(h:uG f g):zR Γ E (E.app [(s,jh (.ro (L k g xs)))] [(s,1)]):=by have:=zR.freeze (Γ:=Γ) s _ hs;simp only[vT,strip,tE h.h xs]at this;exact this
theorem zR.res(d r:Nat)(q:List Nat)(tr:T)(hd:E d=jh (.same r q))(hr:E r=jh tr)(hg:tr.get q.reverse=jh (.ro u)):zR Γ E (E.app [(d,jh (.ro u))] []):=by
 rintro a w ⟨S,hS,gK,G,g9⟩
 refine⟨S,hS,gK,G,?_⟩;have hk:sM [] G w G w:=⟨fun _ _ _=>rfl,fun _ _ _=>rfl,fun _ _ _ _ _ _ h _=>⟨h,rfl⟩,fun _ _ _ h _=>h,fun b cs e h=>⟨cs,h,rfl⟩⟩;refine wU g9 rfl hk g9.mem (fun s _=>⟨fun n hn=>by simp at hn,rfl⟩) fun s t hs=>?_
 simp only[Wr.find]at hs;split at hs
 ·rename_i e;subst e
  simp at hs;subst hs;obtain⟨h1,h2,_⟩:=g9.ent d _ hd;obtain⟨_,h4,_⟩:=g9.ent r _ hr;simp only[R]at h2;have h5:=(zAi q.reverse tr _ [] h4 hg).1;simp only[rp,Ki,Jh,R]at h5;exact⟨by rw[h1];rfl,by simp only[R];rw[h2];exact h5,by simp[Top]⟩
 ·cases hs
end
theorem zK5:(p:List Nat)-> ∀(t u0 a:T),t.get p=jh u0->(t.set p a).get p=jh a
 | [],t,_,a,_=>by cases t<;>cases a<;>rfl
 |i::p,t,u0,a,h=>by
  cases t with
  |sl k xs|agg xs|tup xs=>
   simp only[T.get,T.set]at h ⊢
   cases hx:xs[i]? with
   |none=>rw[hx]at h;cases h
   |some x=>
    rw[hx]at h;have hi:=(Jl.1 hx).1;simp only[];simp only[T.get,Jan hi];exact zK5 p x u0 a h
  |ptr t=>
   simp only[T.get,T.set]at h ⊢
   split at h
   ·rename_i e;subst e;simp only[if_true,T.get];exact zK5 p t u0 a h
   ·cases h
  |_=>simp[T.get]at h
theorem set_set:(p:List Nat)-> ∀(t u0 a b:T),t.get p=jh u0->(t.set p a).set p b=t.set p b
 | [],t,_,a,_,_=>by cases t<;>cases a<;>rfl
 |i::p,t,u0,a,b,h=>by
  cases t with
  |sl k xs|agg xs|tup xs=>
   simp only[T.get,T.set]at h ⊢
   cases hx:xs[i]? with
   |none=>rw[hx]at h;cases h
   |some x=>
    rw[hx]at h;have hi:=(Jl.1 hx).1;simp only[];simp only[T.set,Jan hi,List.set_set,set_set p x u0 a b h]
  |ptr t=>
   simp only[T.get,T.set]at h ⊢
   split at h
   ·rename_i e;subst e;simp only[if_true,T.set,set_set p t u0 a b h]
   ·cases h
  |_=>simp[T.get]at h
def kE:T->Bool
 |.sl _ _|.ptr _=>jj
 |_=>jk
theorem zUl{t:T}(h:kE t=jj)(p:List Nat)(hp:p≠[]):kE (t.set p u)=jj:=by
 cases p with
 |nil=>exact absurd rfl hp
 |cons i p=>cases t<;>simp[kE]at h<;>simp only[T.set]<;>split<;>rfl
theorem tC{t:T}(h:kE t=jj)(chg:Chg):t.okB chg=jj/\xZ t=jj/\t.single=jj:=by cases t<;>simp[kE]at h<;>simp[T.okB,xZ,T.single]
section
variable {P:Program}{Γ:Ctx}{E E':Env}{d:Nat}{ty:TypeId}{ps:String}{af:Array Edge}{gd:Option (Nat×Bool)}
theorem agM{E:Env}(t:T)(h:opT E x=jh t)(h1:clo E t=u)(h2:zJi E (rw.map (·.2.1)) x t=jj):zBb E rw i x u:=.inr ⟨t,h,h1,h2⟩
theorem zH2{E:Env}{s:Nat}(h:E s=jh u)(hc:zY u)(hr:wI u=jj)(hs:u.okTup=jj:=by rfl)(hm:(i,s,u')∈rw:=by exact List.mem_singleton.2 rfl):zBb E rw i (.tmp s) u:=.inl ⟨s,u',rfl,hm,h,hc,hs,hr⟩
abbrev vQ(E:Env)(ds r:Nat)(q:List Nat)(tr u:T):Env:=E.app [(ds,jh u),(r,jh (if q=[]then .same ds []else tr.set q.reverse .any))] [(ds,1),(r,q.length+1)]
theorem zQ5{f:FuncId}{xs:List Operand}{res:List T}{tr:T}(i ds r:Nat)(q:List Nat)(gk:jH P f)(hc:FnC P f us res [(i,u')])(hs:E ds=jh (.same r q))(hr:E r=jh tr)(hq:tr.get q.reverse=jh u)
  (eI:zY u)(eH:zY u')(_:wI u=jj)(pC:wI u'=jj)(gj:xI (vQ E ds r q tr u) [(i,ds,u')] 0 xs us)(gw:zAp res)(gv:tr.set q.reverse u'=tr')
  (sd:(J6 d Γ.N&&(d != ds)&&(d != r)&&(ds != r)&&kE u&&kE u'&&kE tr)=jj)(hx:xs[i]? =jh (.tmp ds))(hu:us[i]? =jh u):
  Ok P Γ ⟨jh d,.call { callee:=.value (.func f),args:=xs.toArray,argTypes:=ats },ty,ps,af,gd⟩ E ((((vQ E ds r q tr u).app (cWr d res [(i,ds,u')]) (vV d [(i,ds,u')]))).app [(r,jh tr'),(ds,jh (.same r q))] [(r,q.length+1),(ds,1)]):=by
 simp only[J4]at sd;obtain⟨⟨⟨⟨⟨⟨s1,s2⟩,s3⟩,s4⟩,s5⟩,s6⟩,s7⟩:=sd;have d1:d≠ds:=by simpa using s2
 have d2:d≠r:=by simpa using s3
 have d3:ds≠r:=by simpa using s4
 obtain⟨u1,u2,u3⟩:=tC s5 [];obtain⟨v1,v2,v3⟩:=tC s6 [];have bi:cLv u'=1:=by simp[cLv,v3]
 subst gv;intro S
 by_cases pE:q=[]
 ·subst pE
  have htu:tr=u:=by
   have:tr.get []=jh tr:=by cases tr<;>rfl
   simp only[Hw]at hq;rw[this]at hq;exact Hn.inj hq
  subst htu;have mz:∀a b:T,a.set [] b=b:=fun a b=>by cases a<;>rfl
  have bL:(vQ E ds r [] tr tr) ds=jh tr:=by simp[vQ,Env.app,Wr.find]
  have pT:((vQ E ds r [] tr tr).app (cWr d res [(i,ds,u')]) (vV d [(i,ds,u')])) r=jh (.same ds []):=by
   have h1:(vQ E ds r [] tr tr) r=jh (.same ds []):=by simp[vQ,Env.app,Wr.find,d3]
   have h2:(cWr d res [(i,ds,u')]).find r=ji:=by simp[cWr,Wr.find,d2,d3]
   have h3:(T.same ds []).okB (vV d [(i,ds,u')])=jj:=by simp[T.okB,kS,vV,d1,bi]
   simp only[Env.app,h2,h1,h3,if_true]
  have pU:((vQ E ds r [] tr tr).app (cWr d res [(i,ds,u')]) (vV d [(i,ds,u')])) ds=jh u':=by simp[Env.app,Wr.find,cWr,d1]
  have:=zLZ (P:=P) (Γ:=Γ.at S) (E:=E) (o:=⟨jh d,.call { callee:=.value (.func f),args:=xs.toArray,argTypes:=ats },ty,ps,af,gd⟩) f (.func f) xs ats us res i ds r [] tr tr u' rfl rfl (yE s1) gk rfl hs hr hq u3 eI d3 d2 (tC s7 _).1 (tC s7 []).2.1
   (vQ E ds r [] tr tr) _ rfl rfl hc gj (.one d1 hx eH v3 pC bL u3 hu) gw (.same ds []) (.same ds []) pT rfl rfl pU eH v3 (by simp[T.okB,kS]) rfl (tC s6 _).1 v2
  rw[Hw,mz]at this ⊢
  exact this
 ·have i5:q.reverse≠[]:=by simpa using pE
  have bL:(vQ E ds r q tr u) ds=jh u:=by simp[vQ,Env.app,Wr.find]
  have ja:=zUl s7 q.reverse (u:=.any) i5;have pT:((vQ E ds r q tr u).app (cWr d res [(i,ds,u')]) (vV d [(i,ds,u')])) r=jh (tr.set q.reverse .any):=by
   have h1:(vQ E ds r q tr u) r=jh (tr.set q.reverse .any):=by simp[vQ,Env.app,Wr.find,d3,pE]
   have h2:(cWr d res [(i,ds,u')]).find r=ji:=by simp[cWr,Wr.find,d2,d3]
   simp[Env.app,h2,h1,(tC ja _).1]
  have pU:((vQ E ds r q tr u).app (cWr d res [(i,ds,u')]) (vV d [(i,ds,u')])) ds=jh u':=by simp[Env.app,Wr.find,cWr,d1]
  have:=zLZ (P:=P) (Γ:=Γ.at S) (E:=E) (o:=⟨jh d,.call { callee:=.value (.func f),args:=xs.toArray,argTypes:=ats },ty,ps,af,gd⟩) f (.func f) xs ats us res i ds r q tr u u' rfl rfl (yE s1) gk rfl hs hr hq u3 eI d3 d2 (tC s7 _).1 (tC s7 []).2.1
   (vQ E ds r q tr u) _ rfl rfl hc gj (.one d1 hx eH v3 pC bL u3 hu) gw (tr.set q.reverse .any) .any pT (zK5 _ _ _ _ hq) rfl pU eH v3 (tC ja _).1 (tC ja []).2.1 (tC s6 _).1 v2
  rw[set_set _ _ _ _ _ hq]at this;exact this
theorem zGB{f:FuncId}{xs:List Operand}{res:List T}{xf:Operand}(hf:opT E xf=jh (.lit (.func (.func f) #[] #[])))(gk:jH P f)(hc:FnC P f us res [])(gj:xI E [] 0 xs us)(gw:zAp res)(sd:J6 d Γ.N=jj):
  Ok P Γ ⟨jh d,.call { callee:=.value xf,args:=xs.toArray,argTypes:=ats },ty,ps,af,gd⟩ E (E.app (cWr d res []) (vV d [])):=
 fun _=>zK0 f xf xs ats us res [] rfl rfl (yE sd) gk hf hc gj .nil gw
def zDK(E:Env):List Operand->List T->Prop
 | [],[]=>True
 |x::xs,u::us=>(opT E x=jh u/\u.flat=jj)/\zDK E xs us
 |_,_=>False
theorem afN:zDK E [] []:=trivial
theorem afC{xs:List Operand}(h:opT E x=jh u)(h1:u.flat=jj)(h2:zDK E xs us):zDK E (x::xs) (u::us):=⟨⟨h,h1⟩,h2⟩
theorem zDK.get:(xs:List Operand)->(us:List T)->zDK E xs us-> ∀(i:Nat) u,us[i]? =jh u-> ∃x,xs[i]? =jh x/\opT E x=jh u/\u.flat=jj
 | [],[],_,i,u,h=>by simp at h
 |x::xs,v::us,h,i,u,hi=>by
  cases i with
  |zero=>simp at hi;subst hi;exact⟨x,by simp,h.1⟩
  |succ i=>obtain⟨y,h1,h2⟩:=zDK.get xs us h.2 i u (by simpa using hi);exact⟨y,by simpa using h1,h2⟩
 | [],_::_,h,_,_,_=>by simp[zDK]at h
 |_::_,[],h,_,_,_=>by simp[zDK]at h
theorem zQ6{f:FuncId}{xs:List Operand}{res:List T}(gk:jH P f)(hc:FnC P f us res [])(ha:zDK E xs us)(gf:xs.length=us.length)(gw:yZ res)(cB:yM res=jj)(sd:J6 d Γ.N=jj):
  Ok P Γ ⟨jh d,.call { callee:=.value (.func f),args:=xs.toArray,argTypes:=ats },ty,ps,af,gd⟩ E (E.app (cWr d res []) (vV d [])):=
 zXZ gk hc gf (zDK.get _ _ ha) ⟨gw,cB⟩ sd
end
noncomputable def zCn {α:Type} (g:Nat->Option α):Option α:=
 open Classical in if h:∃r,∃n,∀m,n<=m->g m=jh r then jh h.choose else ji
theorem qL{α:Type}{g:Nat->Option α}{r:α}(h:zCn g=jh r):∃n,g n=jh r:=by
 unfold zCn at h;split at h
 ·rename_i he
  simp at h;obtain⟨n,hn⟩:=he.choose_spec;exact⟨n,by rw[<-h];exact hn n (Jd _)⟩
 ·cases h
theorem zAr{α:Type}{g:Nat->Option α}{r:α}(n:Nat)(h:∀m,n<=m->g m=jh r):zCn g=jh r:=by have he:∃r,∃n,∀m,n<=m->g m=jh r:=⟨r,n,h⟩;unfold zCn;rw[dif_pos he];obtain⟨n',hn'⟩:=he.choose_spec;have h1:=h (max n n') (by omega);have h2:=hn' (max n n') (by omega);rw[h1]at h2;exact h2.symm
section
variable {P:Program}{Γ:Ctx}{ops:Array Oper}{o:Oper}{E:Env}
theorem wK.skipW(hd:o.dst=jh d)(sd:J6 d Γ.N=jj)(hw:∀(a:Act)(w:World),qJ Γ E a w->Region.wanted o (yielded ops a.tmps)=jk):wK P Γ ops o E (E.app [(d,jh (.tup []))] [(d,0)]):=by
 intro a w K Q hs hK;rw[if_neg (by grind)];obtain⟨S,hS,gK,G,g9⟩:=hs;refine hK _ _ ⟨S,hS,by rw[hd];exact gK,G.put d (fun _=>.bool jk),?_⟩ ?_
 ·rw[hd]
  have hu:(Value.bool jk).oneCell'=jj:=rfl;refine wU g9 (by simp[Act.put]) (G.put_keep rfl d _) (g9.mem.put rfl d _ fun _=>hu) ?_ ?_
  ·grind[uC,Act.put]
  ·intro s t' hs
   rw[uC]at hs;split at hs
   ·rename_i e;subst e
    simp at hs;subst hs;have gr:=g9.size;have gC:=yE sd;refine⟨?_,by simp[R,RF],by simp[Top,uK]⟩
    grind[Act.put,mkV,jY,undef]
   ·cases hs
 grind[Act.put]
theorem wK.skip2(g:Nat)(b b':Bool)(s:Nat)(hd:o.dst=jh d)(sd:J6 d Γ.N=jj)(fx:(b==b')=jk)(hg:o.guard=jh (g,b))(fm:(ops[g]?).bind (·.dst)=jh s)(hb:E s=jh (.lit (.bool b'))):
  wK P Γ ops o E (E.app [(d,jh (.tup []))] [(d,0)]):=.skipW hd sd fun a w hs=>by
 simp only[Region.wanted,hg,zHm hs fm hb]
 grind
theorem wK.skip3(g:Nat)(b:Bool)(s:Nat)(hd:o.dst=jh d)(sd:J6 d Γ.N=jj)(hg:o.guard=jh (g,b))(fm:(ops[g]?).bind (·.dst)=jh s)(hb:E s=jh (.tup [])):
  wK P Γ ops o E (E.app [(d,jh (.tup []))] [(d,0)]):=.skipW hd sd fun a w hs=>by
 obtain⟨_,_,_,G,hr⟩:=hs;obtain⟨h1,_,_⟩:=hr.ent s _ hb
 grind[Region.wanted,yielded,mkV]
theorem wK.opE(h:Ok P Γ o E E1)(e:E1=E')(hg:o.guard=ji:=by rfl):wK P Γ ops o E E':=e▸wK.op h hg
end
def vL(Γ:Ctx)(P:Program)(rs:Array ResultVar)(us res:List T)(rws:List (Nat×T)):Exit->Env->Prop:=fun e E=> ∃E',zR Γ E E'/\yCJ P rs us res rws e E'
theorem FnC.of_bodyG{f:FuncId}{res:List T}(hf:P.funcs[f]? =jh fn)(hb:fn.body=jh c)(hn:us.length<=fn.ntmps)(ht:uK us)(hr:rws.all (fun x=>decide (x.1<us.length))=jj)
  (h:∀(Γ:Ctx)(v:Nat->Value),Γ.N=fn.ntmps->CW P Γ (zCj v (rws.map (·.1))) c (vW (zIF 0 us)) (vL Γ P fn.results us res rws)):FnC P f us res rws:=by
 refine FnC.of_body hf hb hn ht hr fun Γ v hN=>?_
 intro a w Q' hs hp hQ;refine h Γ v hN a w Q' hs hp ?_
 rintro e E a' w' ⟨E',hg,hq⟩ gF cO
 exact hQ e E' a' w' hq (hg a' w' gF) cO
def zYb(t:T):Prop:=zY t/\wI t=jj/\strip t=t/\t.okTup=jj/\zFp t=jj
def zUm:List T->Prop
 | []=>True
 |x::xs=>zYb x/\zUm xs
theorem Enc.t(h:Enc f)(x:α):zYb (f x):=⟨h.clean x,h.rofree x,h.strip x,h.okTup x,h.rook x⟩
theorem Enc.of{α:Type}{f:α->T}(h:∀x,zYb (f x)):Enc f:=⟨fun x=>(h x).1,fun x=>(h x).2.1,fun x=>(h x).2.2.1,fun x=>(h x).2.2.2.1,fun x=>(h x).2.2.2.2⟩
theorem zMi{xs:List T}(h:zUm xs):zYb (.agg xs):=by
 have key:∀xs:List T,zUm xs->yZ xs/\vE xs=jj/\wS xs=xs/\yM xs=jj/\zAY xs=jj:=by
  intro xs
  induction xs with
  |nil=>intro _;exact⟨trivial,rfl,rfl,rfl,rfl⟩
  |cons x xs ih=>
   rintro⟨⟨h1,h2,h3,h4,h5⟩,h⟩
   obtain⟨g1,g2,g3,g4,g5⟩:=ih h;exact⟨⟨h1,g1⟩,by grind[vE],by grind[wS],by grind[yM],by grind[zAY]⟩
 obtain⟨g1,g2,g3,g4,g5⟩:=key xs h;exact⟨zOv g1,by grind[wI],by grind[strip],by grind[T.okTup],by grind[zFp]⟩
section
variable {Γ:Ctx}{E:Env}{d:Nat}
def Gh.cut(G:Gh)(d s0 b lo hi:Nat)(v:Value):Gh where
 hd s z:=if s=d then(if z=[]then v else G.hd s0 z)else G.hd s z
 ad s z:=if s=d then G.ad s0 z else G.ad s z
 lb b' o:=if b'=b/\lo<=o/\o<hi then jh (jj,d,[])else match G.lb b' o with
  |some (f,s,z)=>if s=s0 then jh (f,d,z)else jh (f,s,z)
  |none=>ji
 ow b':=match G.ow b' with
  |some (s,z)=>if s=s0 then jh (d,z)else jh (s,z)
  |none=>ji
theorem zQ7{w:World}(g9:Rep Γ E G tmps w)(hd:d<Γ.N){h cap':Nat}{xs:List T}(ek:E s0=jh (.sl k xs))(gc:s0≠d)(hk:0<k)
  {b cap:Nat}{cs:Array Value}(h1:G.hd s0 []=.slice (jh ⟨b,o0,ji⟩) xs.length cap)(h2:w.heap[b]? =jh (.cells cs e (0,0)))(_h3:xs.length<=cap)(h4:cap<=maxLen)(h5:o0+cap*k<=cs.size)(h6:G.ow b=jh (s0,[]))
  (h7:∀o,o0+xs.length*k<=o->o<o0+cap*k->G.lb b o=jh (jj,s0,[]))(h8:RL Γ.St G w s0 xs [] 0 b o0 k)(hh:h<=xs.length)(hc:h<=cap')(pm:cap'<=cap):
  ∃G',Rep Γ (E.app [(d,jh (.sl k (xs.take h))),(s0,jh .any)] [(d,0),(s0,1)]) G' (tmps.setIfInBounds d (.slice (jh ⟨b,o0,ji⟩) h cap')) w:=by
 have hm:=g9.mem;obtain⟨e1,_,e3⟩:=g9.ent s0 _ ek
 let v:Value:=.slice (jh ⟨b,o0,ji⟩) h cap'
 let G':=G.cut d s0 b (o0+h*k) (o0+cap'*k) v
 have gH:=hm.ow b _ h6;have mN:∀o f z i,o0+h*k<=o->o<o0+cap'*k->G.lb b o=jh (f,s0,z++[i])->h<=i:=by
  intro o f z i cP cE hl;obtain⟨o,rfl⟩:∃o',o=o0+o':=⟨o-o0,by have:o0<=o0+h*k:=Nat.le_add_right _ _;omega⟩
  replace cP:h*k<=o:=by omega
  by_cases ho:o<xs.length*k
  ·have hj:o/k<xs.length:=(H7 hk).2 ho
   obtain⟨g1,g2,_⟩:=sV xs [] 0 b o0 k (o/k) xs[o/k] h8 (by simp[hj]);obtain⟨y,hy⟩:=zKr xs[o/k] _ b _ (o%k) g1 (by rw[g2];exact Hu _ hk);rw[Ji,Hb,Nat.mul_comm,Lx,hl]at hy;simp only[Hn.injEq,Jal.injEq]at hy;have:=hy.2.2;have hi:i=o/k:=by have:=congrArg List.getLast? this;simpa using this
   rw[hi];exact(Nat.le_div_iff_mul_le hk).2 cP
  ·have:=h7 (o0+o) (by omega) (by have:=Kd k pm;omega)
   rw[hl]at this;simp at this
 have glb:∀b' o f z,G.lb b' o=jh (f,s0,z)-> ¬(b'=b/\o0+h*k<=o/\o<o0+cap'*k)->G'.lb b' o=jh (f,d,z):=fun b' o f z hl hn=>by show(if _ then _ else _)=_;rw[if_neg hn];simp[hl]
 have gow:∀b' z,G.ow b'=jh (s0,z)->G'.ow b'=jh (d,z):=fun b' z hl=>by simp[G',Gh.cut,hl]
 have mv:∀i,i<h->zGS G w G' w s0 [i] d [i]:=fun i hi=>by
  have hn:∀b' o f z,G.lb b' o=jh (f,s0,z++[i])-> ¬(b'=b/\o0+h*k<=o/\o<o0+cap'*k):=by
   rintro b' o f z hl ⟨rfl,cP,cE⟩
   have:=mN o f z i cP cE hl;omega
  refine⟨⟨fun z=>by simp[G',Gh.cut],fun z _=>by simp[G',Gh.cut],fun b' o f z _ _ hl=>⟨glb _ _ _ _ hl (hn _ _ _ _ hl),rfl⟩,fun b' z _ hl=>gow _ _ hl,fun b' cs' e' hb=>⟨cs',hb,rfl⟩⟩,fun b' o _ hl=>⟨glb _ _ _ _ hl (hn b' o jj [] (by simpa using hl)),rfl⟩,fun b' hl=>gow _ _ hl⟩
 have gu:sM [(d,0),(s0,1)] G w G' w:=by
  refine⟨fun s p ho=>?_,fun s p ho=>?_,fun b' o f s p gV hl hs=>?_,fun b' s p hl hs=>?_,fun b' cs' e' hb=>⟨cs',hb,rfl⟩⟩
  ·have:s≠d:=fun e=>absurd (ho 0 (by simp[e])) (by simp)
   simp[G',Gh.cut,this]
  ·have:s≠d:=fun e=>absurd (ho 0 (by simp[e])) (by simp)
   simp[G',Gh.cut,this]
  ·have eJ:s≠s0:=fun e=>hs 1 (by simp[e])
   obtain⟨y,hy⟩:=gV;have fx:b'≠b:=by
    rintro rfl
    rw[h6]at hy;simp at hy;exact eJ hy.1.symm
   refine⟨?_,rfl⟩;show(if _ then _ else _)=_;rw[if_neg (fun hn=>fx hn.1)];simp[hl,eJ]
  ·have eJ:s≠s0:=fun e=>hs 1 (by simp[e])
   simp[G',Gh.cut,hl,eJ]
 have gp:Mem Γ G' w:=by
  refine⟨fun s z=>?_,fun b' o l hl=>?_,fun b' l hl=>?_,hm.st,hm.fr,hm.sz,hm.bk⟩
  ·show(if _ then _ else _:Value).oneCell'=jj
   split
   ·split
    ·rfl
    ·exact hm.one _ _
   ·exact hm.one _ _
  ·change(if _ then _ else _)=_ at hl
   split at hl
   ·rename_i hn;rw[hn.1];exact gH
   ·cases hg:G.lb b' o with
    |none=>simp[hg]at hl
    |some x=>exact hm.lb b' o x hg
  ·cases hg:G.ow b' with
   |none=>simp[G',Gh.cut,hg]at hl
   |some x=>exact hm.ow b' x hg
 refine⟨G',wU g9 (by simp) gu gp ?_ ?_⟩
 ·intro s hs
  have fI:s≠d:=by rintro rfl;simp[Wr.find]at hs
  have fJ:s≠s0:=by rintro rfl;simp[Wr.find,gc.symm]at hs
  exact⟨fun n hn=>by simp at hn;rcases hn with h|h;exact fI h.1;exact fJ h.1,by rw[Jj];simp[fI.symm]⟩
 ·intro s t' hs
  by_cases eJ:s=d
  ·subst eJ
   simp[Wr.find]at hs;subst hs;have gf:(xs.take h).length=h:=by simp;omega
   simp only[Top]at e3;have iF:∀ys:List T,yZ ys-> ∀n,yZ (ys.take n):=by
    intro ys
    induction ys with
    |nil=>intro _ n;simp[yZ,xN]
    |cons y ys ih=>intro hy n;cases n with
     |zero=>simp[yZ,xN]
     |succ n=>exact⟨hy.1,ih hy.2 n⟩
   refine⟨?_,?_,by simp only[Top];exact iF xs e3 h⟩
   ·rw[Jj]
    simp[g9.size,hd,mkV,G',Gh.cut,v]
   ·simp only[R]
    refine .inr ⟨b,o0,cap',cs,e,by rw[gf];simp[G',Gh.cut,v],h2,by omega,by omega,by have:=Kd k pm;omega,gow b _ h6,fun o cP cE=>?_,?_⟩
    ·rw[gf]at cP
     show(if _ then _ else _)=_;rw[if_pos ⟨rfl,cP,cE⟩]
    ·refine zDE _ [] 0 b o0 fun i x hx=>?_
     rw[He]at hx;split at hx
     ·rename_i hi
      obtain⟨g1,g2,g3⟩:=sV xs [] 0 b o0 k i x h8 hx;rw[Ji]at g1 g3 ⊢
      refine⟨?_,g2,jO (mv i hi) x (yU.mono (fun _ _=>False.elim) _ (uI xs e3 i x hx)) g3⟩;refine zEq x [i] [i] b _ (fun z=>by simp[G',Gh.cut]) (fun z=>by simp[G',Gh.cut]) (fun b' o z hl=>⟨glb _ _ _ _ hl ?_,rfl⟩) g1
      rintro⟨rfl,cP,cE⟩
      have:=mN o jk z i cP cE hl;omega
     ·cases hx
  ·have h9:s=s0/\t'=.any:=by
    simp only[Wr.find]at hs;rw[if_neg (fun h=>eJ h.symm)]at hs;split at hs
    ·rename_i h;simp at hs;exact⟨h.symm,hs.symm⟩
    ·cases hs
   obtain⟨rfl,rfl⟩:=h9;refine⟨?_,by simp only[R],by simp[Top]⟩;rw[Jj];simp only[Ne.symm eJ,if_false,mkV];rw[e1,yW rfl];simp[G',Gh.cut,eJ]
theorem zMj{w:World}(g9:Rep Γ E G tmps w)(hd:d<Γ.N)(ek:E s0=jh (.sl k []))(gc:s0≠d)(a:Option Addr):
  ∃G',Rep Γ (E.app [(d,jh (.sl k [])),(s0,jh .any)] [(d,0),(s0,1)]) G' (tmps.setIfInBounds d (.slice a 0 0)) w:=by
 obtain⟨e1,_,_⟩:=g9.ent s0 _ ek;refine⟨G.put d (fun _=>.slice a 0 0),?_⟩;have hk:sM [(d,0),(s0,1)] G w (G.put d fun _=>.slice a 0 0) w:=by have h0:=G.put_keep (w:=w) (w':=w) rfl d (fun _=>.slice a 0 0);refine⟨fun s p ho=>h0.hd s p (fun n hn=>ho n (by simp at hn ⊢;exact .inl hn)),fun s p ho=>h0.ad s p (fun n hn=>ho n (by simp at hn ⊢;exact .inl hn)),fun b o f s p h1 h2 h3=>h0.lb b o f s p h1 h2 (fun n hn=>h3 n (by simp at hn ⊢;exact .inl hn)),fun b s p h1 h3=>h0.ow b s p h1 (fun n hn=>h3 n (by simp at hn ⊢;exact .inl hn)),h0.blk⟩
 refine wU g9 (by simp) hk (g9.mem.put rfl d _ (fun _=>rfl)) ?_ ?_
 ·intro s hs
  have fI:s≠d:=by rintro rfl;simp[Wr.find]at hs
  have fJ:s≠s0:=by rintro rfl;simp[Wr.find,gc.symm]at hs
  exact⟨fun n hn=>by simp at hn;rcases hn with h|h;exact fI h.1;exact fJ h.1,by rw[Jj];simp[fI.symm]⟩
 ·intro s t' hs
  by_cases eJ:s=d
  ·subst eJ
   simp[Wr.find]at hs;subst hs;refine⟨by rw[Jj];simp[g9.size,hd,mkV,Gh.put],by simp only[R];exact .inl ⟨trivial,a,by simp[Gh.put]⟩,by simp[Top,yZ,xN]⟩
  ·have h9:s=s0/\t'=.any:=by
    simp only[Wr.find]at hs;rw[if_neg (fun h=>eJ h.symm)]at hs;split at hs
    ·rename_i h;simp at hs;exact⟨h.symm,hs.symm⟩
    ·cases hs
   obtain⟨rfl,rfl⟩:=h9;refine⟨?_,by simp only[R],by simp[Top]⟩;rw[Jj];simp only[Ne.symm eJ,if_false,mkV];rw[e1,yW rfl];simp[Gh.put,eJ]
end
section
variable {P:Program}{Γ:Ctx}{pn:sG}{E E':Env}{Q:Exit->Env->Prop}{d:Nat}{x y:Operand}{ty:TypeId}{ps:String}{af:Array Edge}{gd:Option (Nat×Bool)}
theorem zQ8{α:Type}{t:TypeId}{f:α->T}{xs ys:List α}{mx:Option Operand}(ht:ElT P t e ti k u)(hv:zS xs 0 h=jh ys)(h0:E s0=jh (L k f xs))(hy:opT E y=jh (I h))(hmx:mx=ji\/ ∃z,mx=jh z/\opT E z=jh (I h))(sd:(J6 d Γ.N&&(s0 != d))=jj):
  Ok P Γ ⟨jh d,.slice t (.tmp s0) ji (jh y) mx,ty,ps,af,gd⟩ E (E.app [(d,jh (L k f ys)),(s0,jh .any)] [(d,0),(s0,1)]):=by
 obtain⟨_,cX,fd,rfl⟩:=uR hv;simp only[J4]at sd;have gc:s0≠d:=by simpa using sd.2
 obtain⟨n,rfl⟩:∃n:Nat,h=n:=⟨h.toNat,by omega⟩;have hn:n<=xs.length:=by omega
 intro S;refine xX.value rfl fun a w G g9=>?_
 obtain⟨e1,e2,_⟩:=g9.ent s0 _ h0;have eD:=(wC g9 hy).1;have ph:a.eval (.tmp s0)=G.hd s0 []:=by rw[xV e1,yW rfl]
 have p6:=ht.un;have gI:=ht.info;have gr:=ht.size;have fZ:List.map f ((xs.drop (0:Int).toNat).take ((n:Int).toNat-(0:Int).toNat))=(xs.map f).take n:=by simp[Uy]
 rw[show L k f ((xs.drop (0:Int).toNat).take ((n:Int).toNat-(0:Int).toNat))=.sl k ((xs.map f).take n)by simp only[L,fZ]];have e2':=e2;simp only[R]at e2;rcases e2 with⟨cR,ad,h1⟩|⟨b,o0,cap,cs,e',h1,h2,h3,h4,h5,h6,h7,h8⟩
 ·have eG:xs=[]:=by simpa using cR
  subst eG;simp at hn;subst hn;obtain⟨G',gm⟩:=zMj g9 (yE sd.1) (k:=k) (by rw[h0];rfl) gc ad;refine⟨_,w,?_,G',by simpa using gm⟩;rcases hmx with rfl|⟨z,rfl,hz⟩
  ·simp[execOp,Instr.sliceAt,Instr.slice,run_underlying p6,ph,h1,eD,sizeOf,typeInfo,gI,Instr.sliceBounds,Instr.sliceBound,asIntOf]
  ·have mS:=(wC g9 hz).1
   simp[execOp,Instr.sliceAt,Instr.slice,run_underlying p6,ph,h1,eD,mS,sizeOf,typeInfo,gI,Instr.sliceBounds,Instr.sliceBound,asIntOf]
 ·rw[Jg]at h1 h3
  have cU:n<=cap:=by omega
  have cI:cap=0->n=0:=by omega
  rcases hmx with rfl|⟨z,rfl,hz⟩
  ·obtain⟨G',gm⟩:=zQ7 g9 (yE sd.1) h0 gc ht.pos (by rw[Jg];exact h1) h2 (by rw[Jg];exact h3) h4 h5 h6 h7 h8 (h:=n) (cap':=cap) (by simpa using hn) cU (Jd _)
   refine⟨_,w,?_,G',gm⟩;simp[execOp,Instr.sliceAt,Instr.slice,run_underlying p6,ph,h1,eD,sizeOf,typeInfo,gI,Instr.sliceBounds,Instr.sliceBound,asIntOf,cU,uM]
  ·have mS:=(wC g9 hz).1
   obtain⟨G',gm⟩:=zQ7 g9 (yE sd.1) h0 gc ht.pos (by rw[Jg];exact h1) h2 (by rw[Jg];exact h3) h4 h5 h6 h7 h8 (h:=n) (cap':=n) (by simpa using hn) (Jd _) cU;refine⟨_,w,?_,G',gm⟩;simp[execOp,Instr.sliceAt,Instr.slice,run_underlying p6,ph,h1,eD,mS,sizeOf,typeInfo,gI,Instr.sliceBounds,Instr.sliceBound,asIntOf,cU,uM]
end
section
variable {P:Program}{Γ:Ctx}{pn:sG}{E E':Env}{Q:Exit->Env->Prop}{d:Nat}{x y:Operand}{ty:TypeId}{ps:String}{af:Array Edge}{gd:Option (Nat×Bool)}{ops:Array Oper}{os:List Oper}
theorem zJv{P:Program}{w:World}{t:TypeId}{a:Option Addr}{n c:Nat}(m:Nat)(h:P.underlying t=jh (.slice e)):(Op.equalIn (m+1) t (.slice a n c) (.slice ji 0 0)).run P w=.ok a.isNone w:=by simp only[Op.equalIn,Sem.run_bind,run_underlying h];cases a<;>rfl
theorem RW.isnil{α:Type}{f:α->T}{xs:List α}(hu:P.underlying xt=jh (.slice e))(hx:tB E x=jh (r,q,u))(cx:u=.ro (L k f xs)\/u=L k f xs)(sd:J6 d Γ.N=jj)(hp:pn.ok (jh d)=jj)
  (h:∀b,(b=jj->xs=[])->RW P Γ pn ops os (E.app [(d,jh (B b))] [(d,0)]) Q):RW P Γ pn ops (⟨jh d,.binOp .eql xt x (.const (.slice ji 0 0)) yt,ty,ps,af,ji⟩::os) E Q:=by
 intro a w Q' hs fH hQ;obtain⟨S,hS,gK,G,g9⟩:=id hs;have fQ:u.single=jj:=by rcases cx with rfl|rfl<;>rfl
 obtain⟨h1,h2⟩:=qS g9 hx fQ;obtain⟨ad,n,c,h3,h4⟩:∃ad n c,a.eval x=.slice ad n c/\(ad.isNone=jj->xs=[]):=by
  rcases cx with rfl|rfl
  ·obtain⟨ad,c,g1,_,_,g2⟩:=zCI h1
   refine⟨ad,_,c,by rw[h2,g1],fun hn=>?_⟩;apply Classical.byContradiction;intro gc;obtain⟨b,o',_,_,_,rfl,_⟩:=g2 (by simpa using gc);simp at hn
  ·simp only[R]at h1
   rcases h1 with⟨g1,ad,g2⟩|⟨b,_,cap,cs,e',g1,_⟩
   ·exact⟨ad,0,0,by rw[h2,g2],fun _=>by simpa using g1⟩
   ·exact⟨_,_,_,by rw[h2,g1],fun hn=>by simp at hn⟩
 have gx:(execOp a.eval ⟨jh d,.binOp .eql xt x (.const (.slice ji 0 0)) yt,ty,ps,af,ji⟩).run P w=.ok (.value (.bool ad.isNone)) w:=by have h5:(Op.equalIn 10000 xt (.slice ad n c) (.slice ji 0 0)).run P w=.ok ad.isNone w:=zJv 9999 hu;have h6:a.eval (.const (.slice ji 0 0))=.slice ji 0 0:=rfl;simp[execOp,h3,h6,eqGuard,binOp,zH0,h5]
 simp only[wpL,Region.wanted,if_true];refine .inl ?_;unfold Oper.wp;rw[gx,Oper.upon_value];have fD:=vC g9 rfl (yE sd) (fun _=>.bool ad.isNone) (fun _=>rfl) (B ad.isNone) (.bool ad.isNone) (by simp[mkV,Gh.put]) (by simp[R,Gh.put]) (by simp[Top]);refine h ad.isNone h4 _ w Q' ⟨S,hS,gK,_,fD⟩ ?_ hQ;refine fH.frame hp fun s gF=>?_
 have:d≠s:=fun e=>gF (by rw[e])
 simp[Act.put,Array.getElem?_setIfInBounds_ne this]
theorem zEy{t:TypeId}(hu:P.underlying t=jh (.slice e))(hx:opT E x=jh (.lit (.slice ji 0 0)))(sd:J6 d Γ.N=jj):Ok P Γ ⟨jh d,.call { callee:=.builtin .len,args:=#[x],argTypes:=#[t] },ty,ps,af,gd⟩ E (E.app [(d,jh (I 0))] [(d,0)]):=by
 intro S;refine zAk (.int .i64 0) rfl rfl (yE sd) fun a w G g9=>?_
 have h1:=(wC g9 hx).1;simp[execOp,resolve,invoke,builtin,h1,Builtin.len_,run_underlying hu,goInt]
theorem zEz{t:TypeId}(hu:P.underlying t=jh (.slice e))(hx:opT E x=jh (.lit (.slice ji 0 0)))(sd:J6 d Γ.N=jj):Ok P Γ ⟨jh d,.call { callee:=.builtin .cap,args:=#[x],argTypes:=#[t] },ty,ps,af,gd⟩ E (E.app [(d,jh (I 0))] [(d,0)]):=by
 intro S;refine zAk (.int .i64 0) rfl rfl (yE sd) fun a w G g9=>?_
 have h1:=(wC g9 hx).1;simp[execOp,resolve,invoke,builtin,h1,Builtin.cap_,run_underlying hu,goInt]
theorem zQ9{t:TypeId}(ht:ElT P t e ti k u)(hx:opT E x=jh (.lit (.slice ji 0 0)))(hy:opT E y=jh (I 0))(sd:J6 d Γ.N=jj):Ok P Γ ⟨jh d,.slice t x ji (jh y) ji,ty,ps,af,gd⟩ E (E.app [(d,jh (.sl k []))] [(d,0)]):=by
 intro S;refine xX.value rfl fun a w G g9=>?_
 have h1:=(wC g9 hx).1;have h2:=(wC g9 hy).1;refine⟨.slice ji 0 0,w,?_,_,vC g9 rfl (yE sd) (fun _=>.slice ji 0 0) (fun _=>rfl) (.sl k []) (.slice ji 0 0) (by simp[mkV,Gh.put]) (by simp[R,Gh.put]) (by simp[Top,yZ,xN])⟩;simp[execOp,Instr.sliceAt,Instr.slice,run_underlying ht.un,h1,h2,sizeOf,typeInfo,ht.info,Instr.sliceBounds,Instr.sliceBound,asIntOf]
theorem zR.nil(s k:Nat)(hs:E s=jh (.lit (.slice ji 0 0))):zR Γ E (E.app [(s,jh (.sl k []))] [(s,0)]):=by
 rintro a w ⟨S,hS,gK,G,g9⟩
 refine⟨S,hS,gK,G,?_⟩;have hk:sM [(s,0)] G w G w:=⟨fun _ _ _=>rfl,fun _ _ _=>rfl,fun _ _ _ _ _ _ h _=>⟨h,rfl⟩,fun _ _ _ h _=>h,fun b cs e h=>⟨cs,h,rfl⟩⟩;refine wU g9 rfl hk g9.mem (fun s' gF=>⟨fun n hn=>?_,rfl⟩) fun s' t gF=>?_
 ·simp at hn
  simp[Wr.find,hn.1]at gF
 ·simp only[Wr.find]at gF
  split at gF
  ·rename_i e;subst e
   simp at gF;subst gF;obtain⟨h1,h2,_⟩:=g9.ent s _ hs;simp only[R]at h2;exact⟨by rw[h1];rfl,by simp only[R];exact .inl ⟨trivial,ji,h2⟩,by simp[Top,yZ,xN]⟩
  ·cases gF
theorem zK6{src dst:TypeId}{ds:TypeDesc}{k k':IntKind}{n:Int}(hs:P.underlying src=jh ds)(ht:P.underlying dst=jh (.int k'))(hx:opT E x=jh (IK k n))(sd:J6 d Γ.N=jj):
  Ok P Γ ⟨jh d,.convert src dst x,ty,ps,af,gd⟩ E (E.app [(d,jh (IK k' (k'.wrap n)))] [(d,0)]):=fun _=>zXN src dst ds x k k' n rfl rfl (yE sd) hs ht hx
theorem yAP{k:IntKind}{n:Int}(hx:opT E x=jh (IK k m))(hy:opT E y=jh (IK k n))(sd:J6 d Γ.N=jj):Ok P Γ ⟨jh d,.binOp .add xt x y yt,ty,ps,af,gd⟩ E (E.app [(d,jh (IK k (k.wrap (m+n))))] [(d,0)]):=
 fun _=>tV .add xt yt x y k m n _ rfl rfl (yE sd) hx hy rfl
theorem yAQ{k:IntKind}{n:Int}(hx:opT E x=jh (IK k m))(hy:opT E y=jh (IK k n))(sd:J6 d Γ.N=jj):Ok P Γ ⟨jh d,.binOp .mul xt x y yt,ty,ps,af,gd⟩ E (E.app [(d,jh (IK k (k.wrap (m*n))))] [(d,0)]):=
 fun _=>tV .mul xt yt x y k m n _ rfl rfl (yE sd) hx hy rfl
theorem zUn{k:IntKind}{n:Int}(hx:opT E x=jh (IK k m))(hy:opT E y=jh (IK k n))(sd:J6 d Γ.N=jj):Ok P Γ ⟨jh d,.binOp .gtr xt x y yt,ty,ps,af,gd⟩ E (E.app [(d,jh (B (decide (m> n))))] [(d,0)]):=
 fun _=>tV .gtr xt yt x y k m n _ rfl rfl (yE sd) hx hy rfl
def zGw(k:IntKind)(m n:Int):Int:=k.wrap ((BitVec.ofInt k.bits m &&& BitVec.ofInt k.bits n).toNat:Int)
theorem yAR{k:IntKind}{n:Int}(hx:opT E x=jh (IK k m))(hy:opT E y=jh (IK k n))(sd:J6 d Γ.N=jj):Ok P Γ ⟨jh d,.binOp .and xt x y yt,ty,ps,af,gd⟩ E (E.app [(d,jh (IK k (zGw k m n)))] [(d,0)]):=by
 intro S;refine zAk (.int k (zGw k m n)) rfl rfl (yE sd) fun a w G g9=>?_
 have h1:=(wC g9 hx).1;have h2:=(wC g9 hy).1;simp[execOp,h1,h2,eqGuard,binOp,Op.intBits,zGw]
theorem yAS{k k':IntKind}{n:Int}(hn:0<=n)(hx:opT E x=jh (IK k m))(hy:opT E y=jh (IK k' n))(sd:J6 d Γ.N=jj):Ok P Γ ⟨jh d,.binOp .shr xt x y yt,ty,ps,af,gd⟩ E (E.app [(d,jh (IK k (m.fdiv (2 ^ (min n.toNat k.bits)))))] [(d,0)]):=by
 intro S;refine zAk (.int k (m.fdiv (2 ^ (min n.toNat k.bits)))) rfl rfl (yE sd) fun a w G g9=>?_
 have h1:=(wC g9 hx).1;have h2:=(wC g9 hy).1;have h3:¬n<0:=by omega
 simp[execOp,h1,h2,eqGuard,binOp,Op.shift,h3]
end
structure zUo (P:Program) (f:Field) (i:Nat):Prop where
 name:f.name≠ "_"
 off:f.offset=i
 ty:P.underlying f.type=jh (.int .i64)
class zYc (P:Program) (t:TypeId):Prop where
 h:∃f0 f1 f2 f3:Field,P.underlying t=jh (.struct #[f0,f1,f2,f3])/\zUo P f0 0/\zUo P f1 1/\zUo P f2 2/\zUo P f3 3
 st:P.stoodInHeld t=jk
 gd:P.eqGuardType P.depth t=jk
theorem zE0{w:World}{f:Field}(h:zUo P f i)(cs:Array Value)(v:Value)(hv:cs[i]? =jh v):(part f.type cs f.offset).run P w=.ok v w:=by simp[part,qO h.ty,zFk,h.off,hv]
theorem zUp{w:World}{t:TypeId}(h:zYc P t)(a b c d a' b' c' d':Int)(m:Nat):
  (Op.equalIn (m+2) t (.agg #[.int .i64 a,.int .i64 b,.int .i64 c,.int .i64 d]) (.agg #[.int .i64 a',.int .i64 b',.int .i64 c',.int .i64 d'])).run P w=.ok (a==a'&&(b==b'&&(c==c'&&d==d'))) w:=by
 obtain⟨f0,f1,f2,f3,h1,g0,g1,g2,g3⟩:=h.h;have k0:=fun(x y:Int)=>zGA (P:=P) (w:=w) (a:=x) (b:=y) m g0.ty
 have k1:=fun(x y:Int)=>zGA (P:=P) (w:=w) (a:=x) (b:=y) m g1.ty
 have k2:=fun(x y:Int)=>zGA (P:=P) (w:=w) (a:=x) (b:=y) m g2.ty
 have k3:=fun(x y:Int)=>zGA (P:=P) (w:=w) (a:=x) (b:=y) m g3.ty
 have gA:=h.st;rw[Op.equalIn];simp only[Sem.run_bind,run_underlying h1];have q0:=fun(a b c d:Int)=>zE0 (w:=w) g0 #[.int .i64 a,.int .i64 b,.int .i64 c,.int .i64 d] (.int .i64 a) rfl
 have q1:=fun(a b c d:Int)=>zE0 (w:=w) g1 #[.int .i64 a,.int .i64 b,.int .i64 c,.int .i64 d] (.int .i64 b) rfl
 have q2:=fun(a b c d:Int)=>zE0 (w:=w) g2 #[.int .i64 a,.int .i64 b,.int .i64 c,.int .i64 d] (.int .i64 c) rfl
 have q3:=fun(a b c d:Int)=>zE0 (w:=w) g3 #[.int .i64 a,.int .i64 b,.int .i64 c,.int .i64 d] (.int .i64 d) rfl
 by_cases e0:a=a'<;>by_cases e1:b=b'<;>by_cases e2:c=c'<;>by_cases e3:d=d'<;>
  simp[gA,g0.name,g1.name,g2.name,g3.name,q0,q1,q2,q3,k0,k1,k2,k3,e0,e1,e2,e3]
section
variable {P:Program}{Γ:Ctx}{E E':Env}{d:Nat}{x y:Operand}{ty:TypeId}{ps:String}{af:Array Edge}{gd:Option (Nat×Bool)}
theorem yAT{t t':TypeId}{s s':Nat}{a b c e a' b' c' e':Int}(h:zYc P t)(hx:E s=jh (.agg [I a,I b,I c,I e]))(hy:E s'=jh (.agg [I a',I b',I c',I e']))(sd:J6 d Γ.N=jj):
  Ok P Γ ⟨jh d,.binOp .eql t (.tmp s) (.tmp s') t',ty,ps,af,gd⟩ E (E.app [(d,jh (B (a==a'&&(b==b'&&(c==c'&&e==e')))))] [(d,0)]):=by
 intro S;refine zAk _ rfl rfl (yE sd) fun A w G g9=>?_
 obtain⟨h1,h2,_⟩:=g9.ent s _ hx;obtain⟨h3,h4,_⟩:=g9.ent s' _ hy;simp only[R,RF]at h2 h4;have e1:A.eval (.tmp s)=.agg #[.int .i64 a,.int .i64 b,.int .i64 c,.int .i64 e]:=by rw[xV h1];simp[mkV,yC,vals,h2]
 have e2:A.eval (.tmp s')=.agg #[.int .i64 a',.int .i64 b',.int .i64 c',.int .i64 e']:=by rw[xV h3];simp[mkV,yC,vals,h4]
 have h5:(Op.equalIn 10000 t (.agg #[.int .i64 a,.int .i64 b,.int .i64 c,.int .i64 e]) (.agg #[.int .i64 a',.int .i64 b',.int .i64 c',.int .i64 e'])).run P w=_:=zUp (w:=w) h a b c e a' b' c' e' 9998;have hg:=h.gd;simp[execOp,e1,e2,eqGuard,binOp,zH0,h5,hg]
end
abbrev vI(n:Int):Value:=.int .i64 n
section
variable {Γ:Ctx}{E:Env}
theorem zMk{w:World}(g9:Rep Γ E G tmps w){xs us:List Int}(ek:E s0=jh (L 1 I xs))(gf:us.length=xs.length)
  {b cap:Nat}{cs cs':Array Value}(h1:G.hd s0 []=.slice (jh ⟨b,o0,ji⟩) xs.length cap)(h2:w.heap[b]? =jh (.cells cs e (0,0)))(h3:xs.length<=cap)(h4:cap<=maxLen)(h5:o0+cap*1<=cs.size)(h6:G.ow b=jh (s0,[]))
  (h7:∀o,o0+xs.length*1<=o->o<o0+cap*1->G.lb b o=jh (jj,s0,[]))(h8:RL Γ.St G w s0 (xs.map I) [] 0 b o0 1)
  (k1:w'.heap[b]? =jh (.cells cs' e (0,0)))(k2:cs'.size=cs.size)(k3:∀b',b'≠b->w'.heap[b']? =w.heap[b']?)(k4:w'.heap.size=w.heap.size)(ko:w'.os=w.os)(kq:w'.output=w.output)(k5:∀(i:Nat) u,us[i]? =jh u->cs'[o0+i]? =jh (vI u)):
  ∃G',Rep Γ (E.app [(s0,jh (L 1 I us))] [(s0,1)]) G' tmps w':=by
 have hm:=g9.mem;obtain⟨e1,_,_⟩:=g9.ent s0 _ ek;have gH:=hm.ow b _ h6
 let G':Gh:={ G with hd:=fun s z=>if s=s0 then(match z with
  | [i]=>(match us[i]? with
   |some u=>vI u
   |none=>G.hd s0 z)
  |_=>G.hd s0 z)else G.hd s z }
 have hB:Blk w w':=by
  intro b' cs2 e2 hb
  by_cases fx:b'=b
  ·subst fx
   rw[h2]at hb;simp at hb;obtain⟨rfl,rfl⟩:=hb;exact⟨cs',k1,k2⟩
  ·exact⟨cs2,by rw[k3 b' fx];exact hb,rfl⟩
 have gu:sM [(s0,1)] G w G' w':=by
  refine⟨fun s p ho=>?_,fun _ _ _=>rfl,fun b' o f s p gV hl hs=>⟨hl,?_⟩,fun _ _ _ hl _=>hl,hB⟩
  ·by_cases h:s=s0
   ·subst h
    have:p=[]:=Ke (by have:=ho 1 (by simp);omega);subst this;simp[G']
   ·simp[G',h]
  ·have eJ:s≠s0:=fun e=>hs 1 (by simp[e])
   obtain⟨y,hy⟩:=gV;have fx:b'≠b:=by
    rintro rfl
    rw[h6]at hy;simp at hy;exact eJ hy.1.symm
   simp[yN,World.cell?,k3 b' fx]
 have gp:Mem Γ G' w':=by
  refine⟨fun s z=>?_,fun b' o l hl=>?_,fun b' l hl=>?_,fun b' x hx=>?_,fun b' h h'=>?_,by rw[k4];exact hm.sz,hm.bk.trans hB ko kq⟩
  ·show(if _ then _ else _:Value).oneCell'=jj
   split
   ·split
    ·split
     ·rfl
     ·exact hm.one _ _
    ·exact hm.one _ _
   ·exact hm.one _ _
  ·have:=hm.lb b' o l hl;exact⟨by rw[k4];exact this.1,this.2⟩
  ·have:=hm.ow b' l hl;exact⟨by rw[k4];exact this.1,this.2⟩
  ·have:b'≠b:=by rintro rfl;rw[gH.2.2]at hx;cases hx
   rw[k3 b' this];exact hm.st b' x hx
  ·have:b'≠b:=by
    rintro rfl
    rcases gH.2.1 with h0|h0
    ·omega
    ·exact h' h0
   rw[k3 b' this];exact hm.fr b' h h'
 refine⟨G',wU g9 rfl gu gp ?_ ?_⟩
 ·intro s hs
  rw[uC]at hs;split at hs
  ·cases hs
  ·rename_i gc
   exact⟨fun n hn=>gc (by simp at hn;exact hn.1.symm),rfl⟩
 ·intro s t' hs
  rw[uC]at hs;split at hs
  ·rename_i he;subst he
   simp at hs;subst hs;refine⟨by rw[e1];simp[mkV,G'],?_,by simp only[Top];exact jF zQ1 us⟩;simp only[R];refine .inr ⟨b,o0,cap,cs',e,by simp[G',h1,gf],k1,by simp[gf];exact h3,h4,by omega,h6,fun o cP cE=>h7 o (by simpa[gf]using cP) cE,?_⟩;refine zDE _ [] 0 b o0 fun i x hx=>?_
   rw[Jw,Kf]at hx;obtain⟨u,hu,rfl⟩:=hx;have hi:=(Jl.1 hu).1;obtain⟨g1,g2,_⟩:=sV _ [] 0 b o0 1 i (I xs[i]) h8 (by simp[show i<xs.length by omega]);simp only[Ji,H0,Loc]at g1 ⊢
   refine⟨⟨g1.1,g1.2.1,?_⟩,rfl,by simp[R,G',hu]⟩;have:=k5 i u hu;simp[yN,World.cell?,k1,this,G',hu]
  ·cases hs
def zGc(P:Program)(Γ:Ctx)(E:Env)(y:Operand)(ys:List Int):Prop:=∀(a:Act)(w:World)(G:Gh),Rep Γ E G a.tmps w-> ∃xa c,a.eval y=.slice xa ys.length c/\
 ∀(n:Nat),n<=ys.length->(Builtin.firstCells 1 n (.slice xa ys.length c)).run P w=.ok ((ys.take n).map vI).toArray w
theorem zBN{w:World}{b o:Nat}{cs:Array Value}{fr:Nat×Nat}(hb:w.heap[b]? =jh (.cells cs e fr))(ys:List Int)(hv:∀(i:Nat) u,ys[i]? =jh u->cs[o+i]? =jh (vI u))(n:Nat)(hn:n<=ys.length)(len cap:Nat):
  (Builtin.firstCells 1 n (.slice (jh ⟨b,o,ji⟩) len cap)).run P w=.ok ((ys.take n).map vI).toArray w:=by
 refine run_firstCells_some (P:=P) w 1 n ⟨b,o,ji⟩ len cap _ (by simp;omega) fun j v hj=>?_
 rw[Jw,Kf]at hj;obtain⟨u,hu,rfl⟩:=hj;rw[He]at hu;split at hu
 ·rw[uM]
  have:=hv j u hu;simp[World.cell?,hb,this]
 ·cases hu
theorem zCo{w:World}{a:Option Addr}{c:Nat}:(Builtin.firstCells 1 0 (.slice a 0 c)).run P w=.ok #[] w:=by cases a<;>simp[Builtin.firstCells,loadCells,loadCellsFrom]
theorem zGc.ro{y:Operand}{ys:List Int}(h:tB E y=jh (r,q,.ro (L 1 I ys))):zGc P Γ E y ys:=fun a w G g9=>by
 obtain⟨h1,h2⟩:=qS g9 h rfl;obtain⟨xa,c,g1,_,_,g2⟩:=zCI h1;rw[Jg]at g1;refine⟨xa,c,by rw[h2,g1],fun n hn=>?_⟩
 by_cases hy:ys=[]
 ·subst hy
  simp at hn;subst hn;simpa using zCo
 ·obtain⟨b,o,cs,e,fr,rfl,g3,g4⟩:=g2 (by simpa using hy)
  refine zBN (g9.mem.st b _ g3) ys (fun i u hu=>?_) n hn _ _;have:=zG6 _ cs o 1 i (I u) g4 (by simp[hu]);simp only[RoC,H0]at this;exact this.1
theorem zQA{w:World}{s b:Nat}{cs:Array Value}{xs:List Int}{St:Stb}(h2:w.heap[b]? =jh (.cells cs e (0,0)))(h8:RL St G w s (xs.map I) q 0 b o0 1)(i:Nat)(u:Int)(hu:xs[i]? =jh u):cs[o0+i]? =jh (vI u):=by obtain⟨g1,_,g3⟩:=sV _ q 0 b o0 1 i (I u) h8 (by simp[hu]);simp only[Loc,R,Ji,H0]at g1 g3;have:=g1.2.2;simp only[yN,World.cell?,h2]at this;simpa[g3]using this
theorem zGc.sub{s:Nat}{tr:T}{xs ys:List Int}(hs:E s=jh (.sub r q 1 l.toNat h.toNat))(hr:E r=jh tr)(hg:tr.get q.reverse=jh (L 1 I xs))(hv:zS xs l h=jh ys):zGc P Γ E (.tmp s) ys:=fun a w G g9=>by
 obtain⟨k1,k2,k3,rfl⟩:=uR hv;obtain⟨e1,e2,_⟩:=g9.ent s _ hs;obtain⟨_,e4,_⟩:=g9.ent r _ hr;simp only[R]at e2;have h5:=(zAi q.reverse tr _ [] e4 hg).1;simp only[rp,Ki,Jh,R]at h5;have gf:((xs.drop l.toNat).take (h.toNat-l.toNat)).length=h.toNat-l.toNat:=by simp;omega
 rw[gf];have ph:a.eval (.tmp s)=G.hd s []:=by rw[xV e1,yW rfl]
 rcases h5 with⟨g1,ad,g2⟩|⟨b,o0,cap,cs,e,g1,g2,g3,_,_,_,_,g8⟩
 ·have hy:xs=[]:=by simpa using g1
  subst hy;have iD:l.toNat=0:=by simp at k3;omega
  have tq:h.toNat=0:=by simp at k3;omega
  refine⟨ad,0,by rw[ph,e2,g2,iD,tq];simp[zAQ],fun n hn=>?_⟩;simp[tq]at hn;subst hn;rw[iD,tq];simpa using zCo
 ·rw[Jg]at g1 g3
  refine⟨if cap=l.toNat then jh ⟨b,o0,ji⟩else jh ⟨b,o0+l.toNat,ji⟩,cap-l.toNat,by rw[ph,e2,g1];simp only[zAQ,Hf,uM,H0],fun n hn=>?_⟩;split
  ·have:n=0:=by omega
   subst this;simp[Builtin.firstCells,loadCells,loadCellsFrom]
  ·refine zBN g2 _ (fun i u hu=>?_) n (by rw[gf];exact hn) _ _
   rw[He]at hu;split at hu
   ·rw[Ly]at hu
    rw[Hb];exact zQA g2 g8 _ u hu
   ·cases hu
def zCp(Γ:Ctx)(E:Env)(x:Operand)(s0 lo hi:Nat):Prop:=∀(a:Act)(w:World)(G:Gh),Rep Γ E G a.tmps w->a.eval x=zAQ (G.hd s0 []) 1 lo hi
theorem zCp.slot{xs:List Int}(h:E s0=jh (L 1 I xs)):zCp Γ E (.tmp s0) s0 0 xs.length:=fun a w G g9=>by obtain⟨e1,e2,_⟩:=g9.ent s0 _ h;obtain⟨ad,c,g⟩:=zKl e2;rw[Jg]at g;rw[xV e1,yW rfl,g];simp[zAQ];intro;cases ad<;>simp[Addr.add]
theorem zCp.same{s:Nat}{xs:List Int}(hs:E s=jh (.same s0 []))(h:E s0=jh (L 1 I xs)):zCp Γ E (.tmp s) s0 0 xs.length:=fun a w G g9=>by obtain⟨e1,e2,_⟩:=g9.ent s _ hs;have:=zCp.slot h a w G g9;obtain⟨e3,_,_⟩:=g9.ent s0 _ h;simp only[R]at e2;rw[xV e3,yW rfl]at this;rw[xV e1,yW rfl,e2];exact this
theorem zCp.sub{s lo hi:Nat}(hs:E s=jh (.sub s0 [] 1 lo hi)):zCp Γ E (.tmp s) s0 lo hi:=fun a w G g9=>by obtain⟨e1,e2,_⟩:=g9.ent s _ hs;simp only[R]at e2;rw[xV e1,yW rfl,e2]
end
theorem zRV{α:Type}{xs ys:List α}(hv:zS xs l h=jh ys):l.toNat<=h.toNat:=by have:=uR hv;omega
theorem zRW{α:Type}{xs ys:List α}(hv:zS xs l h=jh ys):h.toNat<=xs.length:=by have:=uR hv;omega
theorem zQB(l z:List α)(lo i:Nat)(eM:lo+z.length<=l.length):(l.take lo++z++l.drop (lo+z.length))[i]? =if i<lo then l[i]? else if i<lo+z.length then z[i-lo]? else l[i]?:=by
 have hm:min lo l.length=lo:=by omega
 by_cases c1:i<lo
 ·rw[if_pos c1,Jc,K3 (by simp;omega),He,if_pos c1]
 ·rw[if_neg c1]
  by_cases c2:i<lo+z.length
  ·rw[if_pos c2,Jc,Jm (by simp;omega),Kb,hm,K3 (by omega)]
  ·rw[if_neg c2,Jc,Jm (by simp;omega),Kb,hm,Jm (by omega),Ly]
   congr 1;omega
def wQ(xs:List Int)(lo:Nat)(zs:List Int):List Int:=xs.take lo++zs++xs.drop (lo+zs.length)
theorem zK7{lo hi:Nat}{y:Operand}{ty:TypeId}{ps:String}{af:Array Edge}{gd:Option (Nat×Bool)}{t t2:TypeId}{xs ys:List Int}(ht:ElT P t e ti 1 u)(h0:E s0=jh (L 1 I xs))(hx:∀S,zCp (Γ.at S) E x s0 lo hi)(hy:∀S,zGc P (Γ.at S) E y ys)(h1:lo<=hi)(h2:hi<=xs.length)(sd:(J6 d Γ.N&&(s0 != d))=jj):
  Ok P Γ ⟨jh d,.call { callee:=.builtin .copy,args:=#[x,y],argTypes:=#[t,t2] },ty,ps,af,gd⟩ E ((E.app [(s0,jh (L 1 I (wQ xs lo (ys.take (hi-lo)))))] [(s0,1)]).app [(d,jh (I ((min ys.length (hi-lo):Nat):Int)))] [(d,0)]):=by
 simp only[J4]at sd;have gc:s0≠d:=by simpa using sd.2
 intro S;refine xX.value rfl fun a w G g9=>?_
 obtain⟨e1,e2,_⟩:=g9.ent s0 _ h0;obtain⟨xa,c,g1,g2⟩:=hy S a w G g9;have g3:=hx S a w G g9;have fc:min ys.length (hi-lo)<=ys.length:=by omega
 have g4:=g2 _ fc;have eE:ys.take (hi-lo)=ys.take (min ys.length (hi-lo)):=by rw[List.take_eq_take_iff];omega
 rw[eE]
 generalize hn:min ys.length (hi-lo)=n at*
 have ck:(ys.take n).length=n:=by simp;omega
 have gf:(wQ xs lo (ys.take n)).length=xs.length:=by simp[wQ,ck];omega
 have key:∃w',(Builtin.copy_ #[t,t2] ty #[a.eval x,a.eval y]).run P w=.ok (goInt n) w'/\ ∃G',Rep (Γ.at S) (E.app [(s0,jh (L 1 I (wQ xs lo (ys.take n))))] [(s0,1)]) G' a.tmps w':=by
  have e2':=e2;simp only[R]at e2;rcases e2 with⟨k1,ad,k2⟩|⟨b,o0,cap,cs,e',k1,k2,k3,k4,k5,k6,k7,k8⟩
  ·have eG:xs=[]:=by simpa using k1
   subst eG;simp at h2;subst h2;have pZ:n=0:=by omega
   subst pZ;have eM:lo=0:=by omega
   subst eM;refine⟨w,?_,G,?_⟩
   ·rw[g3,k2,g1]
    cases ad<;>cases xa<;>simp[zAQ,Builtin.copy_,run_underlying ht.un,Builtin.lenOf,sizeOf,typeInfo,ht.info,Builtin.firstCells,loadCells,loadCellsFrom,storeCells]
   ·refine wU g9 rfl ⟨fun _ _ _=>rfl,fun _ _ _=>rfl,fun _ _ _ _ _ _ h _=>⟨h,rfl⟩,fun _ _ _ h _=>h,fun b cs e h=>⟨cs,h,rfl⟩⟩ g9.mem (fun s hs=>⟨fun n hn=>by simp at hn;simp[Wr.find,hn.1]at hs,rfl⟩) fun s t' hs=>?_
    rw[uC]at hs;split at hs
    ·rename_i he;subst he
     simp at hs;subst hs;simpa[wQ]using g9.ent s0 _ h0
    ·cases hs
  ·rw[Jg]at k1 k3 k7
   have gr:o0+cap<=cs.size:=by omega
   have gA:=run_storeCells_at P b (o0+lo) e' ((ys.take n).map vI) 0 cs w k2 (by simp;omega) (by intro v hv;obtain⟨u,_,rfl⟩:=Je.1 hv;rfl);simp only[U1,Jg]at gA
   generalize ej:w.setRow b (cs.toList.take (o0+lo)++(ys.take n).map vI++cs.toList.drop (o0+lo+(ys.take n).length)).toArray=w' at gA
   have gy:cs.toList.length=cs.size:=Km ..
   by_cases mo:cap=lo
   ·have pZ:n=0:=by omega
    subst pZ;refine⟨w,?_,G,?_⟩
    ·rw[g3,k1,g1]
     have g5:(Builtin.firstCells 1 0 (.slice xa ys.length c)).run P w=.ok #[] w:=by simpa using g4
     simp[zAQ,Builtin.copy_,run_underlying ht.un,Builtin.lenOf,sizeOf,typeInfo,ht.info,ht.size,show hi-lo=0 by omega,g5,storeCells,mo]
    ·refine wU g9 rfl ⟨fun _ _ _=>rfl,fun _ _ _=>rfl,fun _ _ _ _ _ _ h _=>⟨h,rfl⟩,fun _ _ _ h _=>h,fun b cs e h=>⟨cs,h,rfl⟩⟩ g9.mem (fun s hs=>⟨fun n hn=>by simp at hn;simp[Wr.find,hn.1]at hs,rfl⟩) fun s t' hs=>?_
     rw[uC]at hs;split at hs
     ·rename_i he;subst he
      simp at hs;subst hs;simpa[wQ]using g9.ent s0 _ h0
     ·cases hs
   ·refine⟨w',?_,zMk g9 h0 gf k1 k2 k3 k4 k5 k6 k7 k8 (by rw[<-ej];exact setRow_heap w b cs _ e' _ k2) ?_ (fun b' h=>by rw[<-ej];exact setRow_other w b b' _ h) (by rw[<-ej];exact size_setRow w b _) (by rw[<-ej];rfl) (by rw[<-ej];rfl) fun i v hv=>?_⟩
    ·rw[g3,k1,g1]
     have h9:Nat.min ys.length (hi-lo)=n:=hn;simp only[zAQ,mo,if_false,Hf,uM,H0];simp only[Builtin.copy_];rw[Uy]at gA;simp[run_underlying ht.un,Builtin.lenOf,sizeOf,typeInfo,ht.info,ht.size,h9,g4,gA]
    ·simp[ck];omega
    ·rw[wQ,zQB _ _ _ _ (by rw[ck];omega)]at hv
     have h11:o0+lo+((ys.take n).map vI).length<=cs.toList.length:=by simp;omega
     have h10:=zQB cs.toList ((ys.take n).map vI) (o0+lo) (o0+i) h11;rw[Jg]at h10;rw[List.getElem?_toArray,h10];have fR:=fun i u hu=>zQA k2 k8 i u hu
     by_cases c1:i<lo
     ·rw[if_pos c1]at hv
      rw[if_pos (by omega)];simpa using fR i v hv
     ·rw[if_neg c1]at hv
      rw[if_neg (by omega)]
      by_cases c2:i<lo+(ys.take n).length
      ·rw[if_pos c2]at hv
       rw[if_pos (by omega),show o0+i-(o0+lo)=i-lo from by omega];rw[Jw,hv];rfl
      ·rw[if_neg c2]at hv
       rw[if_neg (by omega)];simpa using fR i v hv
 obtain⟨w',gx,G',gm⟩:=key;refine⟨_,w',?_,_,vC gm rfl (yE sd.1) (fun _=>vI n) (fun _=>rfl) (I n) (vI n) (by simp[mkV,Gh.put]) (by simp[R,Gh.put]) (by simp[Top])⟩;simp[execOp,resolve,invoke,builtin,gx,goInt]
theorem zJw{G G':Gh}{s d:Nat}(hd:∀z,G'.hd d z=G.hd s z):(xs:List T)->yM xs=jj-> ∀(j:Nat),jY G' d (cpF s xs [] j) [] j=jY G s xs [] j
 | [],_,_=>by rfl
 |x::xs,h,j=>by
  simp only[yM,J4]at h;simp only[cpF,jY];have hJ:∀ys,x≠.tup ys:=by rintro ys rfl;grind[T.okTup]
  have h1:=zAj (G:=G) (G':=G') (s:=s) (d:=d) x [j] [j] hJ (fun z=>hd _);have h2:∀ys,cpT s x [j]≠.tup ys:=by intro ys;cases x<;>simp[cpT]
  rw[jZ _ _ _ _ h2]at h1;rw[h1,zJw hd xs h.2 (j+1)]
section
variable {P:Program}{Γ:Ctx}{E E':Env}{d:Nat}{x y:Operand}{ty:TypeId}{ps:String}{af:Array Edge}{gd:Option (Nat×Bool)}
theorem zZR{s:Nat}(hx:E s=jh (.tup ts))(sd:(J6 d Γ.N&&yM ts&&(s != d)&&zLC [(d,0)] (cpF s ts [] 0))=jj):Ok P Γ ⟨jh d,.move (.tmp s),ty,ps,af,gd⟩ E (E.app [(d,jh (.tup (cpF s ts [] 0)))] [(d,0)]):=by
 simp only[J4]at sd;obtain⟨⟨⟨s1,s2⟩,s3⟩,s4⟩:=sd;have gc:s≠d:=by grind
 intro S;refine xX.value rfl fun a w G g9=>?_
 obtain⟨h1,h2,_⟩:=g9.ent s _ hx;simp only[R]at h2;have hk:=G.put_keep (w:=w) (w':=w) rfl d (fun z=>G.hd s z);have hz:∀z,(G.put d (fun z=>G.hd s z)).hd d z=G.hd s z:=by grind[Gh.put_self]
 have m8:∀(xs:List T)(j:Nat),uK (cpF s xs [] j):=by
  intro xs
  induction xs with
  |nil=>intro j;simp only[cpF,uK]
  |cons x xs ih=>intro j;simp only[cpF,uK];grind[qD]
 refine⟨mkV G s (.tup ts) [],w,?_,_,vC g9 rfl (yE s1) (fun z=>G.hd s z) (fun z=>g9.mem.one _ _) _ _ (by grind[mkV,zJw])
  (by simp only[R];exact zKj (fun p=>G.put_other _ p gc) ts [] [] 0 (fun z=>hz _) (xN.mono (fun r p hr=>⟨hk.hd r p hr,hk.ad r p hr⟩) _ (by grind[zGT])) h2) (by simp only[Top];grind)⟩
 simp[execOp,xV h1]
end
section
variable (ds r:Nat)
inductive zK8:Env->List (Nat×List Nat)->Env->Prop where
 |nil (E:Env):zK8 E [] E
 |cons {E E':Env}{l:List (Nat×List Nat)} (j:Nat) (q:List Nat) (td td' tr tr' u:T) (hd:E ds=jh td) (hg:td.get [j]=jh (.same r q)) (hr:E r=jh tr) (hp:tr.get q.reverse=jh u) (eI:zY u)
   (m9:td.set [j] u=td') (pA:tr.set q.reverse .any=tr') (sd:(u.single&&td.okB [(ds,2),(r,q.length+1)]&&tr.okB [(ds,2),(r,q.length+1)]&&xZ td&&xZ tr&&(ds != r)&& !q.isEmpty)=jj)
   (h:zK8 (E.app [(ds,jh td'),(r,jh tr')] [(ds,2),(r,q.length+1)]) l E'):zK8 E ((j,q)::l) E'
inductive zE1:Env->List (Nat×List Nat)->Env->Prop where
 |nil (E:Env):zE1 E [] E
 |cons {E E':Env}{l:List (Nat×List Nat)} (j:Nat) (q:List Nat) (td td' tr tr' u v0:T) (hd:E ds=jh td) (hg:td.get [j]=jh u) (hr:E r=jh tr) (hp:tr.get q.reverse=jh v0) (eI:zY u)
   (m9:td.set [j] .any=td') (pA:tr.set q.reverse u=tr') (sd:(u.single&&v0.single&&td.okB [(r,q.length+1),(ds,2)]&&tr.okB [(r,q.length+1),(ds,2)]&&xZ td&&xZ tr&&(ds != r)&& !q.isEmpty)=jj)
   (h:zE1 (E.app [(r,jh tr'),(ds,jh td')] [(r,q.length+1),(ds,2)]) l E'):zE1 E ((j,q)::l) E'
end
theorem zYd{g z:List Nat}(h:g<:+z)(hn:z≠g):g.length<z.length:=by
 have h1:=h.length_le;rcases Jp g.length z.length with h2|h2
 ·exact h2
 ·exact absurd (h.eq_of_length (by omega)).symm hn
theorem zK8.rep{w:World}{l:List (Nat×List Nat)}(h:zK8 ds r E l E'):∀{G:Gh},Rep Γ E G tmps w->
  ∃G',Rep Γ E' G' tmps w/\(∀z,G'.hd r z=G.hd r z)/\(∀j,G'.hd ds [j]=G.hd ds [j])/\ ∀x∈l,G.hd ds [x.1]=G.hd r x.2:=by
 induction h with
 |nil E=>intro G hr;exact⟨G,hr,fun _=>rfl,fun _=>rfl,by simp⟩
 |cons j q td td' tr tr' u hd hg hr hp eI m9 pA sd _ ih=>
  intro G g9;simp only[J4]at sd;obtain⟨⟨⟨⟨⟨⟨s1,s2⟩,s3⟩,s4⟩,s5⟩,s6⟩,s7⟩:=sd;have gc:ds≠r:=by grind
  have hq:q≠[]:=by grind
  have gL:G.hd ds [j]=G.hd r q:=by have:=(zAi [j] td _ [] (g9.ent ds td hd).2.1 hg).1;simpa[rp,R]using this
  obtain⟨h1,h2⟩:=zDD g9 ds [j] r q td tr u (.same r q) hd (by grind) rfl gL hr hp s1 eI gc (by omega) (by omega) s4 s5;rw[if_neg hq,show([j]:List Nat).reverse=[j]from rfl,m9,pA]at h1;obtain⟨G',g1,g2,g3,g4⟩:=ih (by omega)
  grind
theorem zE1.rep{w:World}{l:List (Nat×List Nat)}(m:Nat)(h:zE1 ds r E l E'):(∀x∈l,x.2.length=m)-> ∀{G:Gh},Rep Γ E G tmps w->(∀x∈l,G.hd ds [x.1]=G.hd r x.2)-> ∃G',Rep Γ E' G' tmps w:=by
 induction h with
 |nil E=>grind
 | @cons E E' l j q td td' tr tr' u v0 hd hg hr hp eI m9 pA sd _ ih=>
  intro hm G g9 u7;simp only[J4]at sd;obtain⟨⟨⟨⟨⟨⟨⟨s1,s1'⟩,s2⟩,s3⟩,s4⟩,s5⟩,s6⟩,s7⟩:=sd;have gc:ds≠r:=by grind
  have hq:q≠[]:=by grind
  obtain⟨h1,h2⟩:=zDD g9 r q ds [j] tr td u v0 hr hp s1' (u7 (j,q) (by simp)).symm hd (by grind) s1 eI (Ne.symm gc) (by omega) (by omega) s5 s4;rw[if_neg (by simp),show([j]:List Nat).reverse=[j]from rfl,m9,pA]at h1;refine ih (by grind) (by omega) fun x hx=>?_
  have e1:∀z,(G.tr r q ds [j]).hd ds z=G.hd ds z:=by grind
  by_cases hz:q<:+x.2/\x.2≠q
  ·have h3:=zYd hz.1 hz.2
   rw[hm x (by simp[hx]),hm (j,q) (by simp)]at h3;omega
  grind
theorem zGd{G G':Gh}{s:Nat}:(xs ys:List T)->(∀x∈xs,x.single=jj)->(∀x∈ys,x.single=jj)->xs.length=ys.length-> ∀(j:Nat),yC G s xs [] j=yC G' s ys [] j-> ∀i,i<xs.length->G.hd s [j+i]=G'.hd s [j+i]
 | [],_,_,_,_,_,_,i,hi=>by simp at hi
 |x::xs,[],_,_,hl,_,_,_,_=>by simp at hl
 |x::xs,y::ys,h1,h2,hl,j,h,i,hi=>by
  have v1:∀(G:Gh)(t:T)(p:List Nat),t.single=jj->vals G s t p=[G.hd s p]:=fun G t p ht=>by cases t<;>simp[T.single]at ht<;>simp[vals]
  simp only[yC,v1 G x _ (h1 x (by simp)),v1 G' y _ (h2 y (by simp)),Lr,Qf.injEq]at h;cases i with
  |zero=>exact h.1
  |succ i=>
   have:=zGd xs ys (by grind) (by grind) (by grind) (j+1) h.2 i (by grind)
   grind
def vZ:List T->Bool
 | []=>jj
 |x::xs=>x.single&&vZ xs
theorem zDL:{xs:List T}->vZ xs=jj-> ∀x∈xs,x.single=jj
 | [],_,_,h=>by simp at h
 |x::xs,h,y,hy=>by
  simp only[vZ,J4]at h;rcases J9.1 hy with rfl|hy
  ·exact h.1
  ·exact zDL h.2 y hy
theorem zYe{E3:Env}{ty:TypeId}{ps:String}{af:Array Edge}{gd:Option (Nat×Bool)}{f:FuncId}{xs:List Operand}{res:List T}{ts':List T}(i ds r:Nat)(l:List (Nat×List Nat))(m:Nat)(gk:jH P f)(hc:FnC P f us res [(i,.agg ts')])
  (gI:zK8 ds r E l E1)(hs:E1 ds=jh (.agg ts))(eH:zY (.agg ts'))(pC:wI (.agg ts')=jj)(gj:xI E1 [(i,ds,.agg ts')] 0 xs us)(gw:zAp res)
  (bc:zE1 ds r (E1.app (cWr d res [(i,ds,.agg ts')]) (vV d [(i,ds,.agg ts')])) l E3)
  (sd:(J6 d Γ.N&&(d != ds)&&(d != r)&&(ds != r)&&vZ ts&&vZ ts'&&(ts.length==ts'.length)&&(l.all fun x=>x.2.length==m&&J6 x.1 ts.length))=jj)(hx:xs[i]? =jh (.tmp ds))(hu:us[i]? =jh (.agg ts)):
  Ok P Γ ⟨jh d,.call { callee:=.value (.func f),args:=xs.toArray,argTypes:=ats },ty,ps,af,gd⟩ E E3:=by
 simp only[J4]at sd;obtain⟨⟨⟨⟨⟨⟨⟨s1,s2⟩,s3⟩,s4⟩,s5⟩,s6⟩,s7⟩,s8⟩:=sd;have d1:d≠ds:=by grind
 have d2:d≠r:=by grind
 have d3:ds≠r:=by grind
 have gf:ts.length=ts'.length:=by grind
 have hl:∀x∈l,x.2.length=m/\x.1<ts.length:=fun x hx=>by
  have:=Kh.1 s8 x hx
  simp_all
 intro S a w K Q ⟨gK,G,g9⟩ hK;refine zCi (xf:=.func f) rfl rfl gk rfl ?_;obtain⟨G1,g1,g2,g3,g4⟩:=gI.rep g9;refine(zHl g1 (yE s1) f xs us res [(i,ds,.agg ts')] hc gj (zGu.one' (u:=.agg ts) d1 hx eH rfl pC hs hu) gw).mono ?_
 rintro e w' ⟨v,rfl,S',G',hS,hk,gm⟩
 have gN:(E1.app (cWr d res [(i,ds,.agg ts')]) (vV d [(i,ds,.agg ts')])) ds=jh (.agg ts'):=by grind[Env.app,Wr.find,cWr]
 have hv:mkV G' ds (.agg ts') []=mkV G1 ds (.agg ts) []:=by
  have a1:=(gm.ent ds _ gN).1;have a2:=(g1.ent ds _ hs).1
  grind
 simp only[mkV,Value.agg.injEq]at hv;have fP:yC G' ds ts' [] 0=yC G1 ds ts [] 0:=by grind
 have bv:=zGd ts' ts (zDL s6) (zDL s5) gf.symm 0 fP;obtain⟨G3,hG3⟩:=bc.rep m (by grind) gm fun x hx=>by
  have h1:=bv x.1 (by grind);rw[Ji]at h1;have h2:G'.hd r x.2=G1.hd r x.2:=hk.hd r x.2 (fun n hn=>by grind[vV])
  grind
 exact⟨v,rfl,hK _ _ ⟨S',hS,gK,G3,hG3⟩⟩
section
variable {P:Program}{Γ:Ctx}{E:Env}{d:Nat}{x:Operand}{ty:TypeId}{ps:String}{af:Array Edge}{gd:Option (Nat×Bool)}
class zYf (P:Program) (t:TypeId) (e:outParam TypeId) (ti:outParam TypeInfo) (n:outParam Nat) (k:outParam Nat):Prop where
 un:P.underlying t=jh (.array n e)
 info:P.info? e=jh ti
 size:ti.size=k
theorem zZS{t:TypeId}{n:Nat}{xs:List T}(i:Nat)(ht:zYf P t e ti n k)(hx:tB E x=jh (r,q,.ptr (.agg xs)))(hu:xs[i]? =jh u)(gB:T.sizes (xs.take i)=i*k)(sd:(J6 d Γ.N&&J6 i n)=jj):
  Ok P Γ ⟨jh d,.indexAddr t x (.const (.int .i64 i)),ty,ps,af,gd⟩ E (E.app [(d,jh (.addr r (i::0::q)))] [(d,0)]):=by
 simp only[J4]at sd;have gI:=yE sd.2;intro S;refine xX.value rfl fun a w G g9=>?_
 obtain⟨g1,g2⟩:=qS g9 hx rfl;simp only[R]at g1;obtain⟨b,cs,e',g4,_,_,_,g5,_⟩:=g1;simp only[Loc]at g5;have g6:=zBY xs (0::q) 0 b 0 i u g5.2 hu;simp only[Ji]at g6;have g3:a.eval (.const (.int .i64 i))=.int .i64 i:=rfl;refine⟨.pointer (jh (G.ad r (i::0::q))),w,?_,_,vC g9 rfl (yE sd.1) (fun _=>.pointer (jh (G.ad r (i::0::q)))) (fun _=>rfl) _ _ (by simp[mkV,Gh.put]) (by simp[R,Gh.put]) (by simp[Top])⟩;have gC:(i:Int)<(n:Int):=by omega
 have h0:(0:Int)<=i:=by omega
 have g7:=zBv g6;have br:i<n:=gI;simp[execOp,Instr.indexAt,g3,g2,g4,asIntOf,run_underlying ht.un,h0,br,sizeOf,typeInfo,ht.info,ht.size,uM,uV,g7,gB]
end
theorem zQC{s:Nat}{tr t:T}(h:E s=jh t)(gc:(G5 ds s||G5 r s)=jk:=by rfl)(hb:t.okB [(ds,1),(r,q.length+1)]=jj:=by rfl):opT (vQ E ds r q tr u) (.tmp s)=jh t:=by
 have h1:ds≠s:=by rintro rfl;simp at gc
 have h2:r≠s:=by rintro rfl;simp at gc
 simp[opT,vQ,Env.app,Wr.find,h1,h2,h,hb]
section
variable {P:Program}{Γ:Ctx}{pn:sG}{E E':Env}{Q Q1:Exit->Env->Prop}{c c1 c2:Code}{ops:Array Oper}{o:Oper}{os:List Oper}{id:Nat}
theorem sR(h:RW P Γ pn ops ops.toList E (yQ P Γ pn c Q)):CW P Γ pn (.seq (.region id ops jk) c) E Q:=CW.seq (CW.region h)
theorem rN(h:CW P Γ pn c E Q):RW P Γ pn ops [] E (yQ P Γ pn c Q):=RW.nil h
theorem oP(h:Ok P Γ o E E')(k:RW P Γ pn ops os E' Q)(hg:o.guard=ji:=by rfl)(hp:pn.ok o.dst=jj:=by rfl):RW P Γ pn ops (o::os) E Q:=RW.op h k hg hp
def yAU(ops:List Oper):List (List Nat):=(ops.foldl (fun(acc:Array (List Nat)) o=>acc.push ((zBc o).foldl (fun l m=>m::(acc.getD m [])++l) [])) #[]).toList
theorem CW.lp(body:σ->Option (σ⊕ρ))(en:σ->Env)(Q1:ρ->Exit->Env->Prop){s:σ}{r:ρ}(hg:zR Γ E (en s))(h:∀s x,body s=jh x->CW P Γ pn c (en s) (wG Γ en Q1 x))(hr:zF body s=jh r)(hq:∀e E',Q1 r e E'->Q e E'):CW P Γ pn (.loop c) E Q:=
 (CW.mono (CW.loop body en Q1 h hr) hq).ghost hg
end
open Go Go.ChangeShapes
abbrev zMl(w:World):Stb:=fun b=>w.heap[b]?
theorem zRX{w:World}{a:Addr}{n:Nat}{cs:List Value}(h:w.cells? 0 a n=jh cs):cs.length=n/\ ∀(i:Nat) v,cs[i]? =jh v->w.cell? (a.add i)=jh v:=by
 unfold World.cells? at h;rw[if_pos (Le _)]at h;refine⟨by simpa using mapM_some_length h,fun i v hv=>?_⟩;have hi:i<n:=by have:=(Jl.1 hv).1;have h2:=mapM_some_length h;rw[Lh]at h2;omega
 rw[<-hv];exact mapM_some_get h i i (by simp[hi])
theorem zQD{w:World}{a:Addr}{v:Value}(h:w.cell? a=jh v):a.spot=ji/\ ∃c e fr,w.heap[a.block]? =jh (.cells c e fr)/\c[a.off]? =jh v:=by
 simp only[World.cell?]at h;split at h
 ·rename_i c e fr hb
  split at h
  ·cases h
  ·rename_i hs
   exact⟨by cases hq:a.spot with|none=>rfl|some _=>rw[hq]at hs;simp at hs,c,e,fr,hb,h⟩
 ·cases h
theorem zMm{b o m:Nat}:(Addr.mk b o ji).add m=⟨b,o+m,ji⟩:=by
 unfold Addr.add;split
 ·rename_i h;subst h;rfl
 ·rfl
theorem zGe{α:Type}{Q:Nat->α->Prop}:∀(n:Nat),(∀i,i<n-> ∃x,Q i x)-> ∃xs:List α,xs.length=n/\ ∀i x,xs[i]? =jh x->Q i x
 |0,_=>⟨[],rfl,fun i x h=>by simp at h⟩
 |n+1,h=>by
  obtain⟨xs,h1,h2⟩:=zGe n fun i hi=>h i (by omega)
  obtain⟨y,hy⟩:=h n (by omega);refine⟨xs++[y],by simp[h1],fun i x hx=>?_⟩;rw[Ks]at hx;split at hx
  ·exact h2 i x hx
  ·rename_i hge
   have:i-xs.length=0:=by have:=(Jl.1 hx).1;simpa using this
   rw[this]at hx;simp at hx;subst hx
   rwa [show i=n from by omega]
theorem zQE{St:Stb}:(xs:List T)-> ∀(cs:Array Value)(o k:Nat),(∀i x,xs[i]? =jh x->RoC St x cs (o+i*k))->RoL St xs cs o k
 | [],_,_,_,_=>by simp only[RoL]
 |x::xs,cs,o,k,h=>by
  simp only[RoL];refine⟨by simpa using h 0 x rfl,zQE xs cs (o+k) k fun i y hy=>?_⟩;have:=h (i+1) y (by simpa using hy)
  rwa [show o+k+i*k=o+(i+1)*k from by rw[K9];omega]
section
variable {P:Program}
def RdT(P:Program)(t:TypeId)(k:Nat){α:Type}(f:α->T)(V:α->Prop):Prop:=
 ∀{H:Type}(enc:TypeId×Value->H)(w:World)(fuel:Nat)(cs:List Value)(x:DataW H×List MemPlace),DataW.trod enc P w 0 (fun _=>jj) jj fuel t cs=jh x->
  cs.length=k-> ∃d,V d/\ ∀(A:Array Value)(o:Nat),(∀(i:Nat) v,cs[i]? =jh v->A[o+i]? =jh v)->RoC (zMl w) (f d) A o
theorem yAV{t:TypeId}{q:IntKind}(hu:P.underlying t=jh (.int q)):RdT P t 1 (IK q) (fun n=>(Lit.int q n).wf=jj):=by intro H enc w fuel cs x h _;obtain⟨n,rfl,_,hw⟩:=DataW.trod_int hu h;exact⟨n,hw,fun A o hA=>by simp only[RoC];exact⟨by simpa using hA 0 _ rfl,rfl⟩⟩
theorem yAW{α:Type}{f:α->T}{V:α->Prop}{t:TypeId}(hu:P.underlying t=jh (.slice e))(hk:P.cellsOf e=k)(fe:0<k)(h:RdT P e k f V):
  RdT P t 1 (L k f) (fun xs=>xs.length<=maxLen/\ ∀x∈xs,V x):=by
 intro H enc w fuel cs x hx _;rcases DataW.trod_slice hu hx with⟨rfl,_⟩|⟨a,len,cap,elems,rest,n,rfl,rfl,_,_,fd,mo,dA,fM,_⟩
 ·refine⟨[],⟨by simp,by simp⟩,fun A o hA=>?_⟩
  simp only[RoC,Ld,Jt];exact⟨ji,0,by simpa using hA 0 _ rfl,Jd _,by simp[maxLen],fun h=>absurd rfl h⟩
 ·subst hk
  have key:∀i,i<len-> ∃y,V y/\ ∃cs':List Value,cs'.length=P.cellsOf e/\(∀(j:Nat) v,cs'[j]? =jh v->w.cell? ((a.add (i*P.cellsOf e)).add j)=jh v)/\
    ∀(A:Array Value)(o:Nat),(∀(j:Nat) v,cs'[j]? =jh v->A[o+j]? =jh v)->RoC (zMl w) (f y) A o:=by
   intro i hi;have h1:=fM i hi;rw[J3 (by omega)]at h1;obtain⟨cs',h2,h3⟩:=Option.bind_eq_some_iff.1 h1;obtain⟨h4,h5⟩:=zRX h2;obtain⟨y,h6,h7⟩:=h enc w n cs' _ h3 h4;exact⟨y,h6,cs',h4,h5,h7⟩
  obtain⟨xs,hxl,eG⟩:=zGe len key;refine⟨xs,⟨by omega,fun y hy=>?_⟩,fun A o hA=>?_⟩
  ·obtain⟨i,hi,rfl⟩:=Lq.1 hy
   exact(eG i _ (J3 hi)).1
  ·simp only[RoC,Jg,hxl]
   refine⟨jh a,cap,by simpa using hA 0 _ rfl,fd,mo,fun gc=>?_⟩;have pF:0<xs.length:=by
    cases xs with
    |nil=>simp at gc
    |cons _ _=>simp
   obtain⟨_,cs0,g1,g2,_⟩:=eG 0 _ (J3 pF);have hz:a.add (0*P.cellsOf e)=a:=by simp[Addr.add]
   have g3:=g2 0 cs0[0] (J3 (by omega));rw[hz,show a.add 0=a from by simp[Addr.add]]at g3;obtain⟨p8,c,e',fr,hb,_⟩:=zQD g3;obtain⟨b,off,sp⟩:=a;simp only at p8 hb;subst p8;refine⟨b,off,c,e',fr,rfl,hb,zQE _ _ _ _ fun i y hy=>?_⟩;rw[Jw,Kf]at hy;obtain⟨z,mS,rfl⟩:=hy;obtain⟨_,cs',g1',g2',g4⟩:=eG i z mS;refine g4 c _ fun j v hv=>?_
   have:=g2' j v hv;rw[zMm,zMm]at this;obtain⟨_,c2,e2,fr2,ch,fP⟩:=zQD this;simp only at ch fP;rw[hb]at ch;cases ch;exact fP
theorem zK9{H:Type}{enc:TypeId×Value->H}{w:World}{t:TypeId}{fs:Array Field}{fuel:Nat}{cs:List Value}{x:DataW H×List MemPlace}(hu:P.underlying t=jh (.struct fs))(h:DataW.trod enc P w 0 (fun _=>jj) jj fuel t cs=jh x)
  {f:Field}(hf:fs[i]? =jh f)(hj:f.offset=j)(hk:P.cellsOf f.type=k):∃n y,DataW.trod enc P w 0 (fun _=>jj) jj n f.type ((cs.drop j).take k)=jh y:=by
 obtain⟨xs,n,_,_,_,gf,fM⟩:=DataW.trod_struct hu h;have hi:i<xs.length:=by rw[gf];exact(H8.1 hf).1
 have:=fM i f hf;rw[hj,hk,J3 hi]at this;exact⟨n,_,this⟩
end
def zRY(v:Value):Value:=if v.oneCell' then v else .bool jk
theorem zMn(v:Value):(zRY v).oneCell'=jj:=by unfold zRY;split;assumption;rfl
theorem zKA{v:Value}(h:v.oneCell'=jj):zRY v=v:=by simp[zRY,h]
def hd0(vs:Array Value)(s:Nat)(p:List Nat):Value:=
 match vs[s]?,p with
 |some (.agg cs),[j]=>zRY (cs[j]?.getD (.bool jk))
 |some v,[]=>zRY v
 |_,_=>.bool jk
def G0(vs:Array Value):Gh:={ hd:=hd0 vs,ad:=fun _ _=>default,lb:=fun _ _=>ji,ow:=fun _=>ji }
theorem yFc(w:World)(vs:Array Value):Mem ⟨zMl w,fun _=>False,w,0⟩ (G0 vs) w where
 one s p:=by
  simp only[G0,hd0];split
  ·exact zMn _
  ·exact zMn _
  ·rfl
 lb b o l h:=by simp[G0]at h
 ow b l h:=by simp[G0]at h
 st b x h:=h
 fr b _ _:=rfl
 sz:=Jd _
 bk:=⟨fun b cs e h=>⟨cs,h,rfl⟩,rfl,rfl⟩
def RdA(P:Program)(t:TypeId){α:Type}(u:α->T)(V:α->Prop):Prop:=
 ∀{H:Type}(enc:TypeId×Value->H)(w:World)(base fuel:Nat)(v:Value)(x:DataW H×List MemPlace),DataW.trod enc P w 0 (fun _=>jj) jj fuel t v.cells.toList=jh x->
  Value.okWide P w .any base t v-> ∃d,V d/\ ∀(vs:Array Value)(s:Nat),vs[s]? =jh v->jh v=jh (mkV (G0 vs) s (u d) [])/\R (zMl w) (G0 vs) w s (u d) []
def RdC(P:Program)(t:TypeId){α:Type}(u:α->T)(V:α->Prop):Prop:=
 ∀{H:Type}(enc:TypeId×Value->H)(w:World)(fuel:Nat)(c:Value)(x:DataW H×List MemPlace),DataW.trod enc P w 0 (fun _=>jj) jj fuel t [c]=jh x->
  ∃d,V d/\c.oneCell'=jj/\ ∀(G:Gh)(s:Nat)(p:List Nat),G.hd s p=c->vals G s (u d) p=[c]/\R (zMl w) G w s (u d) p
section
variable {P:Program}
theorem yDe{α:Type}{f:α->T}{V:α->Prop}{t:TypeId}(h:RdT P t 1 f V)(h1:∀{H:Type}(enc:TypeId×Value->H)(w:World)(fuel:Nat)(c:Value)(x:DataW H×List MemPlace),DataW.trod enc P w 0 (fun _=>jj) jj fuel t [c]=jh x->c.oneCell'=jj):
  RdC P t (fun x=>T.ro (f x)) V:=by
 intro H enc w fuel c x hx;obtain⟨d,g1,g2⟩:=h enc w fuel [c] x hx rfl;refine⟨d,g1,h1 enc w fuel c x hx,fun G s p hp=>⟨by simp only[vals,hp],?_⟩⟩;simp only[R,hp];exact g2 _ _ fun i v hv=>by
  cases i with
  |zero=>simpa using hv
  |succ i=>simp at hv
theorem yAX{α:Type}{f:α->T}{V:α->Prop}{t:TypeId}(hu:P.underlying t=jh (.slice e))(hk:P.cellsOf e=k)(fe:0<k)(h:RdT P e k f V):RdC P t (fun xs=>T.ro (L k f xs)) (fun xs=>xs.length<=maxLen/\ ∀x∈xs,V x):=
 yDe (yAW hu hk fe h) fun enc w fuel c x hx=>by
  rcases DataW.trod_slice hu hx with⟨h1,_⟩|⟨a,len,cap,_,_,_,_,h1,_⟩<;>
  ·simp only[Qf.injEq,and_true]at h1
   subst h1;rfl
theorem zIG{w:World}{base:Nat}{t:TypeId}{fs:Array Field}{v:Value}(hu:P.underlying t=jh (.struct fs))(h:Value.okWide P w .any base t v):∃cs,v=.agg cs/\cs.size=P.cellsOf t:=by simp only[Value.okWide,hu]at h;obtain⟨cs,h1,h2,_⟩:=h;exact⟨cs,h1,h2⟩
theorem yDf{β γ δ:Type}{ua:α->T}{ub:β->T}{uc:γ->T}{Va:α->Prop}{Vb:β->Prop}{Vc:γ->Prop}{t:TypeId}{f0 f1 f2:Field}(mk:α->β->γ->δ){u:δ->T}{V:δ->Prop}
  (hu:P.underlying t=jh (.struct #[f0,f1,f2]))(hc:P.cellsOf t=3)(h0:f0.offset=0/\P.cellsOf f0.type=1)(h1:f1.offset=1/\P.cellsOf f1.type=1)(h2:f2.offset=2/\P.cellsOf f2.type=1)
  (ra:RdC P f0.type ua Va)(rb:RdC P f1.type ub Vb)(rc:RdC P f2.type uc Vc)(hmk:∀a b c,u (mk a b c)=T.agg [ua a,ub b,uc c])(hV:∀a b c,Va a->Vb b->Vc c->V (mk a b c)):RdA P t u V:=by
 intro H enc w base fuel v x hx gz;obtain⟨cs,rfl,gr⟩:=zIG hu gz;obtain⟨l,rfl⟩:∃l:List Value,cs=l.toArray:=⟨cs.toList,by simp⟩;rw[hc,Jbn]at gr;obtain⟨c0,c1,c2,rfl⟩:∃a b c,l=[a,b,c]:=by
  match l,gr with
  | [a,b,c],_=>exact⟨a,b,c,rfl⟩
 simp only[Value.cells]at hx;obtain⟨n0,y0,g0⟩:=zK9 hu hx (i:=0) rfl h0.1 h0.2;obtain⟨n1,y1,g1⟩:=zK9 hu hx (i:=1) rfl h1.1 h1.2;obtain⟨n2,y2,g2⟩:=zK9 hu hx (i:=2) rfl h2.1 h2.2;simp only[List.drop_succ_cons,Ui,L4,Ka]at g0 g1 g2;obtain⟨a,a1,a2,a3⟩:=ra enc w n0 c0 _ g0;obtain⟨b,b1,b2,b3⟩:=rb enc w n1 c1 _ g1;obtain⟨c,e1,e2,e3⟩:=rc enc w n2 c2 _ g2;refine⟨mk a b c,hV a b c a1 b1 e1,fun vs s cY=>?_⟩;have k0:(G0 vs).hd s [0]=c0:=by simp[G0,hd0,cY,zKA a2]
 have k1:(G0 vs).hd s [1]=c1:=by simp[G0,hd0,cY,zKA b2]
 have k2:(G0 vs).hd s [2]=c2:=by simp[G0,hd0,cY,zKA e2]
 rw[hmk];simp only[mkV,yC,(a3 _ _ _ k0).1,(b3 _ _ _ k1).1,(e3 _ _ _ k2).1,K6,K0,R,RF];exact⟨trivial,(a3 _ _ _ k0).2,(b3 _ _ _ k1).2,(e3 _ _ _ k2).2,trivial⟩
end
theorem FnC.top{f:FuncId}(h:FnC P f us [B jj] []){w:World}{vs:Array Value}(gr:vs.size=us.length)
  (ha:∀(i:Nat) u,us[i]? =jh u->vs[i]? =jh (mkV (G0 vs) i u [])/\R (zMl w) (G0 vs) w i u []):
  Calls P f vs w fun e w'=>e=.returned (.bool jj)/\w'.os=w.os/\w'.output=w.output/\w.heap.size<=w'.heap.size/\ ∀b,b<w.heap.size->w'.heap[b]? =w.heap[b]?:=by
 refine(h (zMl w) (fun _=>False) w (G0 vs) vs gr (fun i u hu=>?_) (yFc w vs)).mono fun e w'=>?_
 ·obtain⟨h1,h2⟩:=ha i u hu
  refine⟨?_,h2⟩;rw[h1]
 ·rintro⟨S',G',nd,_,he,hm,fX,hr,_,_⟩
  match nd,fX with
  | [(s,p,t)],fX=>
   simp only[Ju,Ld,Qf.injEq,and_true]at fX;subst fX;have:=(hr (s,p,B jj) (by simp)).1;simp only[R]at this;exact⟨by rw[he];simp only[zLT,sC,this],hm.bk.os,hm.bk.out,hm.sz,fun b hb=>hm.fr b hb (fun h=>h)⟩
theorem zDu{H:Type}{enc:TypeId×Value->H}{P:Program}(hl:laidOutB P=jj){W W':World}{sp:Nat->Bool}:∀{ts:List TypeId}{vs:List Value}{ds:List (DataW H)}{ps:List MemPlace},(∀t∈ts,P.readableRec t=jj/\t<P.types.size)->
  DataW.TrodAll enc P W 0 (fun _=>jj) jj ts vs ds ps->(∀p∈ps,W.sameAt W' p)->(∀p∈ps,sp p.block=jj)->DataW.TrodAll enc P W' 0 sp jj ts vs ds ps
 | [],[],[],_,_,h,_,_=>h
 |t::ts,v::vs,d::ds,ps,hr,h,h1,h2=>by
  obtain⟨p,q,g1,g2,rfl⟩:=h;exact⟨p,q,Go.WideElems.Trod_stays hl (hr t (by simp)).1 (hr t (by simp)).2 g1 (fun x hx=>h1 x (by simp[hx])) (fun x hx=>h2 x (by simp[hx])),
   zDu hl (fun t' ax=>hr t' (by simp[ax])) g2 (fun x hx=>h1 x (by simp[hx])) (fun x hx=>h2 x (by simp[hx])),rfl⟩
 | [],_::_,_,_,_,h,_,_| [],[],_::_,_,_,h,_,_|_::_,[],_,_,_,h,_,_|_::_,_::_,[],_,_,h,_,_=>h.elim
theorem zOx{C:Checked}{os:Os}(own:ownKnob C.prog.godebug=ji)(started:os.Started){f:FuncId}(noInit:C.prog.inits.idxOf? f=ji)(iL:C.prog.funcs[f]? =jh fn){H:Type}{enc:TypeId×Value->H}{s:ChangeSpec}{conds:List PathCond}{apart fresh handsOn again:Bool}
  (witness:∃(w:World)(tape:Tape)(i:Input),w.os=os/\(w.forCall tape i).Shaped C.prog/\i.vars=[]/\Input.okWide C.prog (w.forCall tape i) .any w.heap.size f i/\
   s.pre6 enc C.prog fn conds apart (w.forCall tape i).memory i.args/\Assume.holds {} C.prog (lone (Frame.enter C.prog f i.args .normal) [] (w.forCall tape i)))
  (hs:∀(l:List (DataW H)),l.length=fn.params.size->(s.fn H l).results=[.lit (.bool jj)]/\(s.fn H l).args=l/\(s.fn H l).vars=[])(ms:s.vars=[]){tb:TypeId}(fh:fn.resultTypes= #[tb])(hb:C.prog.underlying tb=jh .bool)
  (laid:laidOutB C.prog=jj)(aC:fn.params.toList.all (fun t=>C.prog.readableRec t&&decide (t<C.prog.types.size))=jj)
  (law:∀(W:World)(base:Nat)(args:Array Value)(ds:List (DataW H))(p:List MemPlace),(∀(j:Nat) t v,fn.params[j]? =jh t->args[j]? =jh v->Value.okWide C.prog W .any base t v)->
   DataW.TrodAll enc C.prog W 0 (fun _=>jj) jj fn.params.toList args.toList ds p->
   ∃us:List T,args.size=us.length/\FnC C.prog f us [B jj] []/\ ∀(i:Nat) u,us[i]? =jh u->args[i]? =jh (mkV (G0 args) i u [])/\R (zMl W) (G0 args) W i u []):
  ReturnsInHanded {} C os f .any (s.pre6 enc C.prog fn conds apart) (s.post enc C.prog fn apart fresh handsOn again):=by
 refine returnsInHanded_of_change (C:=C) own started noInit iL witness ?_;intro W base args ds gs before hval hW _ _;have bK:=hW;obtain⟨p,q,hA,hV,hbq,hfz,fX⟩:=hW;obtain⟨us,h1,h2,h3⟩:=law W base args ds p hval hA;have hl:ds.length=fn.params.size:=by
  have:∀{ts:List TypeId}{vs:List Value}{ds:List (DataW H)}{p:List MemPlace},DataW.TrodAll enc C.prog W 0 (fun _=>jj) jj ts vs ds p->ds.length=ts.length:=by
   intro ts
   induction ts with
   |nil=>intro vs ds p h;cases vs<;>cases ds<;>first|rfl|exact h.elim
   |cons t ts ih=>intro vs ds p h;cases vs<;>cases ds<;>first|exact h.elim|(obtain⟨_,_,_,g,_⟩:=h;simp[ih g])
  simpa using this hA
 rw[ms]at hV;have hq:gs=[]/\q=[]:=by
  cases gs with
  |nil=>exact⟨rfl,hV⟩
  |cons _ _=>exact hV.elim
 obtain⟨rfl,rfl⟩:=hq;have gC:=bK.lt;refine(h2.top h1 h3).mono fun e w' ⟨he,ho,hq,gr,hh⟩=>⟨_,he,?_⟩
 have gL:∀p∈before,W.sameAt w' p:=fun p hp=>by
  have:=gC p hp;cases p with
  |cell b off=>simp only[World.sameAt,World.cell?,hh b this]
  |map b=>exact hh b this
 obtain⟨k1,k2,k3⟩:=hs ds hl;have hbp:before=p:=by simpa using hbq
 subst hbp;have gU:∀t∈fn.params.toList,C.prog.readableRec t=jj/\t<C.prog.types.size:=fun t ht=>by have:=Kh.1 aC t ht;simpa using this
 have gw:∀(b:Nat)(sp:Nat->Bool)(hd:Bool),DataW.TrodAll enc C.prog w' b sp hd fn.resultTypes.toList ((Value.bool jj).resultList fn.resultTypes.size) (s.fn H (ds++[])).results []:=fun b sp hd=>by rw[fh,Jh,k1];exact⟨[],[],⟨1,by simp[DataW.trod,hb,Value.cells]⟩,⟨rfl,rfl⟩⟩
 have gj:∀sp:Nat->Bool,(∀p∈before,sp p.block=jj)->DataW.TrodAll enc C.prog w' 0 sp jj fn.params.toList args.toList (s.fn H (ds++[])).args before:=fun sp p8=>by rw[Jh,k2];exact zDu laid gU hA gL p8
 have ai:∀sp:Nat->Bool,DataW.TrodVars enc C.prog w' sp s.vars (s.fn H (ds++[])).vars []:=fun sp=>by rw[ms,Jh,k3];rfl
 have gD:∀p∈before,(fun b=>decide (b<W.heap.size)) p.block=jj:=fun p hp=>by simpa using gC p hp
 have mj:∀p∈before,∀o,w'.frozen? ⟨p.block,o,ji⟩=W.frozen? ⟨p.block,o,ji⟩:=fun p hp o=>by simp only[World.frozen?,hh _ (gC p hp)]
 refine⟨ds,[],before,[],before,[],bK,gw _ _ _,gj _ gD,ai _,⟨ho,hq,fun i hi=>?_⟩,fun _=>⟨fun j t r hj hr=>?_,_,_,([]++before)++[],⟨[]++before,[],trodAll_append (gj _ (fun _ _=>rfl)) (gw _ _ _),ai _,rfl,fun b off hp=>?_,fun ha=>?_⟩,fun p hp _=>?_⟩⟩
 ·rw[hh i hi]
  cases hx:W.heap[i]? with
  |none=>rfl
  |some o=>cases o<;>simp
 ·rw[fh]at hj hr
  match j,hj,hr with
  |0,hj,hr=>
   simp[Value.resultList]at hj hr;subst hj;subst hr;simp[Value.okWide,hb,Cell.okWide,Cell.ok]
 ·have cO:MemPlace.cell b off∈before:=by simpa using hp
  exact(mj _ cO off).trans (hfz b off cO)
 ·have:=fX ha
  simpa using this
 ·simpa using hp
def qY(hs:List Nat)(E:Env):Prop:=∀s,hs.contains s=jj-> ∃t,E s=jh t/\kE t=jj
def yAY(hs:List Nat)(z:Nat×Option T):Bool:=!hs.contains z.1||match z.2 with
 |some t=>kE t
 |none=>jk
def wrS(hs:List Nat)(X:Stp):Bool:=X.l.all fun y=>y.1.all (yAY hs)
theorem zMo{s:Nat}{x:Option T}:∀{wr:Wr},wr.find s=jh x->(s,x)∈wr
 | [],h=>by grind[Wr.find]
 |(k,y)::wr,h=>by
  simp only[Wr.find]at h;split at h
  ·grind
  ·exact Qp _ (zMo h)
theorem qY.apps{hs:List Nat}:∀(l:zBS)(E:Env),qY hs E->(l.all fun y=>y.1.all (yAY hs))=jj->qY hs (E.apps l)
 | [],_,h,_=>h
 |x::l,E,h,hw=>by
  simp only[Uo,J4]at hw;refine qY.apps l (E.app x.1 x.2) (fun s gF=>?_) hw.2;obtain⟨t,he,ht⟩:=h s gF;unfold Env.app;cases hf:x.1.find s with
  |some y=>
   have h1:=Kh.1 hw.1 _ (zMo hf);simp only[yAY,gF,Kj,Bool.false_or]at h1
   grind
  |none=>grind[tC]
theorem qY.runD{hs:List Nat}:∀(l:List (Bool×Stp))(E:Env),qY hs E->(∀y∈l,wrS hs y.2=jj)->qY hs (runD E l)
 | [],_,h,_=>h
 |(b,X)::l,E,h,hw=>by
  simp only[Go.Ab.runD];refine qY.runD l _ ?_ fun y hy=>hw y (by simp[hy])
  cases b with
  |true=>exact qY.apps X.l E h (hw (jj,X) (by simp))
  |false=>exact h
section
variable {P:Program}{Γ:Ctx}{pn:sG}{E E':Env}{Q:Exit->Env->Prop}{ops:Array Oper}{o:Oper}{os:List Oper}{id:Nat}{wr:Wr}{chg:Chg}{hs:List Nat}
def zH3(P:Program)(Γ:Ctx)(pn:sG)(ops:Array Oper)(o:Oper)(E E':Env):Prop:=
 ∀(a:Act)(w:World)(K:Act->World->Prop)(Q:Exit->Act->World->Prop),pn.Hold a->qJ Γ E a w->(∀a' w',qJ Γ E' a' w'->(∀s,o.dst≠jh s->a'.tmps[s]? =a.tmps[s]?)->K a' w')->
  if Region.wanted o (yielded ops a.tmps)then o.wp P a w K Q\/(o.asks P a w/\LetsOut Q)else K (a.put o.dst undef) w
def vY(P:Program)(Γ:Ctx)(pn:sG)(hs:List Nat)(ops:Array Oper):List Oper->List Stp->Prop
 | [],[]=>True
 |o::os,X::Xs=>(∀E:Env,E.Has X.rd->qY hs E->zH3 P Γ pn ops o E (E.apps X.l))/\vY P Γ pn hs ops os Xs
 |_,_=>False
theorem vY.get:∀(os:List Oper)(Xs:List Stp),vY P Γ pn hs ops os Xs->os.length=Xs.length/\ ∀(i:Nat)(o:Oper)(X:Stp),os[i]? =jh o->Xs[i]? =jh X-> ∀E:Env,E.Has X.rd->qY hs E->zH3 P Γ pn ops o E (E.apps X.l)
 | [],[],_=>by simp
 |o::os,X::Xs,h=>by
  obtain⟨h1,h2⟩:=vY.get os Xs h.2;refine⟨by simp[h1],fun i o' X' ho hX=>?_⟩;cases i with
  |zero=>simp at ho hX;subst ho hX;exact h.1
  |succ i=>exact h2 i o' X' (by simpa using ho) (by simpa using hX)
 | [],_::_,h=>by simp[vY]at h
 |_::_,[],h=>by simp[vY]at h
theorem vY.snoc{X:Stp}:∀(os:List Oper)(Xs:List Stp),vY P Γ pn hs ops os Xs->(∀E:Env,E.Has X.rd->qY hs E->zH3 P Γ pn ops o E (E.apps X.l))->vY P Γ pn hs ops (os++[o]) (Xs++[X])
 | [],[],_,h=>⟨h,trivial⟩
 |_::os,_::Xs,h1,h=>⟨h1.1,vY.snoc os Xs h1.2 h⟩
 | [],_::_,h,_=>by simp[vY]at h
 |_::_,[],h,_=>by simp[vY]at h
theorem sO.snoc{X:Stp}:∀(Xs:List Stp)(E:Env),sO E Xs->(runD E (Xs.map fun y=>(jj,y))).Has X.rd->sO E (Xs++[X])
 | [],_,_,h=>⟨by grind[runD],trivial⟩
 |_::Xs,_,h1,h=>⟨h1.1,sO.snoc Xs _ h1.2 (by simpa[runD]using h)⟩
theorem zKB{E0:Env}{ek:List Nat}{an:List (List Nat)}{Q':Exit->Act->World->Prop}(hf:zA3 0 ops.toList=jj)(ha:kW an an ops.toList=jj)(hp:jE Xs 0 an Xs=jj)
  (gA:vY P Γ pn ek ops ops.toList Xs)(hI:qY ek E0)(hw:Xs.all (wrS ek)=jj)(hh:sO E0 Xs)(aF:ops.toList.all (fun o=>pn.ok o.dst)=jj)(hQ:∀a' w',qJ Γ (runD E0 (Xs.map fun y=>(jj,y))) a' w'->pn.Hold a'->Q' .normal a' w'):
  ∀(fuel:Nat)(L:List Bool)(a:Act)(w:World),L.length=ops.size->L.count jk=fuel->zTY ops L->qJ Γ (runD E0 (L.zip Xs)) a w->pn.Hold a->wpAny P .any ops Q' fuel L.toArray a w:=by
 obtain⟨gf,cv⟩:=vY.get _ _ gA;have mL:Xs.length=ops.size:=by grind
 intro fuel
 induction fuel with
 |zero=>
  intro L a w hL hcnt gy hs fH;have pR:∀b∈L,b=jj:=by grind
  have jf:L=J1 ops.size jj:=by rw[<-hL];exact List.eq_replicate_iff.2 ⟨rfl,pR⟩
  refine⟨?_,?_⟩
  ·apply List.eq_nil_iff_forall_not_mem.2
   intro j hj;obtain⟨h1,o,ho,_⟩:=mem_ready.1 hj;have gC:=(H8.1 ho).1;rw[jf]at h1;simp[gC]at h1
  ·refine hQ a w ?_ fH
   have:L.zip Xs=Xs.map fun y=>(jj,y):=by
    rw[jf,<-mL]
    clear hs hL jf pR hcnt gy gA hw hh hp gf mL cv hQ
    induction Xs with
    |nil=>rfl
    |cons X Xs ih=>simp[Jv,ih]
   grind
 |succ fuel ih=>
  intro L a w hL hcnt gy hs fH;refine⟨fun hr=>?_,fun i hi=>?_⟩
  ·
   exfalso
   have pf:∃m:Nat,L[m]? =jh jk:=by
    have:jk∈L:=by grind
    grind[Qg]
   obtain⟨m,hm,fc⟩:=zDr pf;have hmlt:=(Jl.1 hm).1;have dx:ops[m]? =jh ops[m]:=by simp
   have:m∈Region.ready .any ops L.toArray:=by
    refine mem_ready.2 ⟨by simp_all,ops[m],dx,fun e he hb=>?_⟩;have hpm:e.on∈zBc ops[m]:=by
     simp only[zBc,Je,Jb8]
     grind
    have gC:=zG8 ops.toList 0 m _ hf (by simp) _ hpm;rw[Ji]at gC;cases hL1:L[e.on]? with
    |none=>grind
    |some b=>
     cases b with
     |false=>grind
     |true=>simp_all
   grind
  ·obtain⟨h1,o,ho,pR⟩:=mem_ready.1 hi
   have gC:=(H8.1 ho).1;have hLi:L[i]? =jh jk:=by simp_all
   have eK:∀m∈zBc o,L[m]? =jh jj:=by
    intro m hm;simp only[zBc,Je,Jb8]at hm;obtain⟨e,⟨he,hb⟩,rfl⟩:=hm;have:=pR e (by grind) hb;cases hL1:L[e.on]? with
    |none=>grind
    |some b=>simp_all
   have hanc:=zHq hf ha gy i i (Jd _) o ho eK;have tx:Xs[i]? =jh Xs[i]:=by simp
   generalize hXe:Xs[i]=X at tx
   have aS:∀(j:Nat)(Y:Stp),Xs[j]? =jh Y->i<j->L[j]? =jh jj->X.apart Y=jj:=by
    intro j Y hY gJ hj;rcases zFw Xs Xs 0 an j Y hp hY i X (by omega) tx with h|h
    ·have hjlt:=(Jl.1 hY).1
     have hoj:ops[j]? =jh ops[j]:=by simp
     have:=zHq hf ha gy j j (Jd _) _ hoj (gy j _ hoj hj) i h
     grind
    ·exact h
   have bA:∀(j:Nat)(Y:Stp),Xs[j]? =jh Y->j<i->L[j]? =jh jk->Y.apart X=jj:=by grind[zFw]
   have mb:∀y∈(L.take i).zip (Xs.take i),∃j:Nat,j<i/\L[j]? =jh y.1/\Xs[j]? =jh y.2:=by
    intro y hy;obtain⟨j,g1,g2⟩:=zK3 hy;rw[He]at g1 g2
    grind
   have mF:∀y∈(L.drop (i+1)).zip (Xs.drop (i+1)),∃j:Nat,i<j/\L[j]? =jh y.1/\Xs[j]? =jh y.2:=by
    intro y hy;obtain⟨j,g1,g2⟩:=zK3 hy;rw[Ly]at g1 g2
    grind
   have p8:=zJq hLi tx;have iJ:(runD E0 (L.zip Xs)).Has X.rd:=by
    rw[p8,kD];simp only[runD,Hs,if_false];have h0:=sO.get Xs E0 hh i X tx;refine h0.of fun s t gA ek=>?_
    have u7:s∈X.rd.map (·.1):=by grind
    refine zJp _ _ (fun y hy hb=>?_) ?_
    ·obtain⟨j,g1,g2,g3⟩:=mF y hy
     have:=Stp.apart_spec (aS j y.2 g3 g1 (by rw[g2,hb]));exact⟨by grind,by grind⟩
    ·have hmp:((L.take i).zip (Xs.take i)).map (fun y=>(jj,y.2))=(Xs.take i).map fun y=>(jj,y):=by
      have aT:(L.take i).length=(Xs.take i).length:=by simp;omega
      rw[show(fun y:Bool×Stp=>(jj,y.2))=(fun y=>(jj,y))∘Prod.snd from rfl,<-Jb1,List.map_snd_zip (by omega)]
     refine zJo _ E0 E0 (fun y hy hb gF=>?_) (fun _ h=>h) t (by grind);obtain⟨j,g1,g2,g3⟩:=mb y hy;have:=Stp.apart_spec (bA j y.2 g3 g1 (by rw[g2,hb]))
     grind
   have hnext:runD E0 ((L.set i jj).zip Xs)=(runD E0 (L.zip Xs)).apps X.l:=by
    have hLs:(L.set i jj)[i]? =jh jj:=by grind
    rw[zJq hLs tx,p8,kD,kD];simp only[runD,if_true,Hs,if_false,List.take_set_of_le (Jd i),List.drop_set_of_lt (Nat.lt_succ_self i)];refine zFv _ X _ fun y hy hb=>?_
    obtain⟨j,g1,g2,g3⟩:=mF y hy;exact(Stp.apart_spec (by grind)).1
   have u4:=cv i o X (by grind) tx _ iJ (qY.runD (L.zip Xs) E0 hI fun y hy=>Kh.1 hw _ (by obtain⟨j,_,g⟩:=zK3 hy;grind));unfold wpOp;simp only[ho];refine u4 a w _ Q' fH hs fun a' w' gF mj=>?_
   rw[List.setIfInBounds_toArray];have gz:pn.ok o.dst=jj:=by grind
   refine ih (L.set i jj) a' w' (by simp[hL]) (by grind) ?_ (by grind) (fH.frame gz mj);intro k ok hk hkt m hm
   by_cases hki:k=i
   ·subst hki
    rw[ho]at hk;simp at hk;subst hk;rw[Jaq];split
    ·grind
    grind
   ·rw[Jb2 (Ne.symm hki)]at hkt
    rw[Jaq];split
    ·grind
    ·exact gy k ok hk hkt m hm
theorem CW.drawnI{ek:List Nat}{id:Nat}{E:Env}{Q:Exit->Env->Prop}(Xs:List Stp)(an:List (List Nat))(hm:P.follows .mixedOrders=jj)(gA:vY P Γ pn ek ops ops.toList Xs)(hI:qY ek E)(hw:Xs.all (wrS ek)=jj)(hh:sO E Xs)
  (hQ:Q .normal (runD E (Xs.map fun y=>(jj,y))))(hf:zA3 0 ops.toList=jj:=by rfl)(ha:kW an an ops.toList=jj:=by rfl)(hp:jE Xs 0 an Xs=jj:=by rfl)
  (aF:ops.toList.all (fun o=>pn.ok o.dst)=jj:=by rfl):CW P Γ pn (.region id ops jj) E Q:=by
 intro a w Q' hs fH hQ';refine wp_region_any hm ?_;have gF:qJ Γ E a { w with drawn:=w.drawn+1 }:=by obtain⟨S,hS,gK,G,hr⟩:=hs;exact⟨S,hS,gK,G,hr.heap rfl⟩
 have:=zKB (P:=P) (Γ:=Γ) (pn:=pn) (E0:=E) (Q':=Q') hf ha hp gA hI hw hh aF (by grind) ops.size (J1 ops.size jk) a { w with drawn:=w.drawn+1 } (by simp) (by simp)
  (fun i o ho hi=>by
   grind) (by
   have:runD E ((J1 ops.size jk).zip Xs)=E:=by
    generalize ops.size=n
    clear gA hI hw hh hQ hf ha hp gF
    induction n generalizing Xs with
    |zero=>simp[runD]
    |succ n ih=>
     cases Xs with
     |nil=>simp[runD]
     |cons X Xs=>simpa[Jv,runD]using ih Xs
   grind) fH
 grind
def DK(P:Program)(Γ:Ctx)(pn:sG)(ops:Array Oper)(id:Nat)(hs:List Nat)(E0:Env)(Q:Exit->Env->Prop)(os:List Oper)(E:Env)(acc:List Stp):Prop:=
 ∀don,don++os=ops.toList->vY P Γ pn hs ops don acc.reverse->sO E0 acc.reverse->E=runD E0 (acc.reverse.map fun y=>(jj,y))->CW P Γ pn (.region id ops jj) E0 Q
variable {E0:Env}{acc:List Stp}
theorem CW.dk(h:DK P Γ pn ops id [] E Q ops.toList E []):CW P Γ pn (.region id ops jj) E Q:=h [] rfl trivial trivial rfl
theorem CW.dkS(hs:List Nat)(h:DK P Γ pn ops id hs E Q ops.toList E []):CW P Γ pn (.region id ops jj) E Q:=h [] rfl trivial trivial rfl
theorem dGP(rd:List (Nat×T))(l:zBS)(gU:E.Has rd)(gA:∀E':Env,E'.Has rd->qY hs E'->zH3 P Γ pn ops o E' (E'.apps l))(k:DK P Γ pn ops id hs E0 Q os (E.apps l) (⟨rd,l⟩::acc)):DK P Γ pn ops id hs E0 Q (o::os) E acc:=by
 intro don hd hso hh hE;subst hE;have hr:=fun X=>Ga (a:=X) (as:=acc)
 refine k (don++[o]) (by simp[hd]) ?_ ?_ ?_
 ·grind[vY.snoc]
 ·grind[sO.snoc]
 ·rw[hr,K7,kD];rfl
theorem dGS(rd:List (Nat×T))(l:zBS)(gU:E.Has rd)(gA:∀E':Env,E'.Has rd->qY hs E'->wK P Γ ops o E' (E'.apps l))(k:DK P Γ pn ops id hs E0 Q os (E.apps l) (⟨rd,l⟩::acc)):DK P Γ pn ops id hs E0 Q (o::os) E acc:=
 dGP rd l gU (fun E' h h' a w K Q _=>gA E' h h' a w K Q) k
theorem dG(rd:List (Nat×T))(l:zBS)(gU:E.Has rd)(gA:∀E':Env,E'.Has rd->wK P Γ ops o E' (E'.apps l))(k:DK P Γ pn ops id hs E0 Q os (E.apps l) (⟨rd,l⟩::acc)):DK P Γ pn ops id hs E0 Q (o::os) E acc:=
 by grind[dGS]
def zUq(hs:List Nat)(E:Env):Bool:=hs.all fun s=>match E s with
 |some t=>kE t
 |none=>jk
theorem zUr(h:zUq hs E=jj):qY hs E:=by
 intro s gF;have h1:=Kh.1 h s (by grind)
 grind
theorem dN(an:List (List Nat))(hm:P.follows .mixedOrders=jj)(hQ:Q .normal E)(hf:zA3 0 ops.toList=jj:=by rfl)(ha:kW an an ops.toList=jj:=by rfl)(hp:jE acc.reverse 0 an acc.reverse=jj:=by rfl)
  (aF:ops.toList.all (fun o=>pn.ok o.dst)=jj:=by rfl)(tq:zUq hs E0=jj:=by rfl)(hw:acc.reverse.all (wrS hs)=jj:=by rfl):DK P Γ pn ops id hs E0 Q [] E acc:=by
 intro don hd gA hh hE
 grind[CW.drawnI,zUr]
end
section
variable {P:Program}{Γ:Ctx}{pn:sG}{E E':Env}{Q:Exit->Env->Prop}{ops:Array Oper}{o:Oper}{os:List Oper}{id d:Nat}{wr:Wr}{chg:Chg}{hs:List Nat}{E0:Env}{acc:List Stp}{x y:Operand}{ty:TypeId}{ps:String}{af:Array Edge}{gd:Option (Nat×Bool)}
class zGx (P:Program) (t:TypeId) (e:outParam TypeId):Prop where
 h:P.underlying t=jh (.slice e)
class qT (P:Program) (t:TypeId) (b:outParam Bool) (n:outParam Nat):Prop where
 h:∀u:T,u.single=b->u.size=n->zUc P t u
theorem hE{rd:List (Nat×T)}{s:Nat}{t:T}(h:E.Has rd)(hr:vW rd s=jh t):E s=jh t:=h.le s t hr
theorem hO{rd:List (Nat×T)}{t:T}(h:E.Has rd)(hr:opT (vW rd) x=jh t):opT E x=jh t:=by
 cases x<;>simp only[opT]at hr ⊢
 ·exact h.le _ _ hr
 all_goals exact hr
mutual
def zDM:T->Bool
 |.ro _|.lit _|.any=>jj
 |.agg xs|.tup xs=>zGC xs
 |.ptr t=>zDM t
 |.sl _ []=>jj
 |_=>jk
def zGC:List T->Bool
 | []=>jj
 |x::xs=>zDM x&&zGC xs
end
mutual
theorem zCP:{t:T}->zDM t=jj->zY t
 |.ro _,_|.lit _,_|.any,_=>by simp[zY,yU]
 |.agg xs,h|.tup xs,h=>by simp only[zDM]at h;simpa only[zY,yU]using zH4 h
 |.ptr t,h=>by simp only[zDM]at h;exact zAq (zCP h)
 |.sl _ [],_=>by simp[zY,yU,xN]
 |.sl _ (_::_),h=>by simp[zDM]at h
 |.same _ _,h|.addr _ _,h|.sub _ _ _ _ _,h=>by simp[zDM]at h
theorem zH4:{xs:List T}->zGC xs=jj->yZ xs
 | [],_=>trivial
 |x::xs,h=>by simp only[zGC,J4]at h;exact⟨zCP h.1,zH4 h.2⟩
end
theorem yFd{α:Type}{t:TypeId}{f:α->T}{xs:List α}{v:α}{i:Int}[ht:zAJ P t e ti k](hx:tB E x=jh (r,q,L k f xs))(hy:opT E y=jh (I i))(hv:ixO xs i=jh v)(sd:J6 d Γ.N=jj):
  Ok P Γ ⟨jh d,.indexAddr t x y,ty,ps,af,gd⟩ E (E.app [(d,jh (.addr r (i.toNat::q)))] [(d,0)]):=yCK ht hv hx hy sd
theorem zZT{α:Type}{t:TypeId}{f:α->T}{xs:List α}{v:α}{i:Int}[ht:zAJ P t e ti k](hx:tB E x=jh (r,q,.ro (L k f xs)))(hy:opT E y=jh (I i))(hv:ixO xs i=jh v)(sd:J6 d Γ.N=jj):
  Ok P Γ ⟨jh d,.indexAddr t x y,ty,ps,af,gd⟩ E (E.app [(d,jh (.ro (.ptr (f v))))] [(d,0)]):=zZJ ht hv hx hy sd
theorem zUs{t:TypeId}{b:Bool}{n:Nat}[i:qT P t b n](hx:opT E x=jh (.ro (.ptr u)))(h1:u.single=b)(h2:u.size=n)(sd:J6 d Γ.N=jj):Ok P Γ ⟨jh d,.load t x,ty,ps,af,gd⟩ E (E.app [(d,jh (roT u))] [(d,0)]):=yCL (i.h u h1 h2) hx sd
theorem yAZ{t:TypeId}{tr:T}{b:Bool}{n:Nat}[i:qT P t b n](hx:opT E x=jh (.addr r q))(hr:E r=jh tr)(hg:tr.get q.reverse=jh u)(h1:u.single=b)(h2:u.size=n)(sd:(J6 d Γ.N&&tr.locd q.reverse&&(r != d)&&T.okB [(d,0)] (cpT r u q))=jj):
  Ok P Γ ⟨jh d,.load t x,ty,ps,af,gd⟩ E (E.app [(d,jh (cpT r u q))] [(d,0)]):=yEZ (i.h u h1 h2) hx hr hg sd
theorem zMp{t:TypeId}{tr:T}{b:Bool}{n:Nat}[i:qT P t b n](hx:tB E x=jh (r,q,.ptr t0))(hr:E r=jh tr)(hg:tr.get (0::q).reverse=jh u)(h1:u.single=b)(h2:u.size=n)(sd:(J6 d Γ.N&&tr.locd (0::q).reverse&&(r != d)&&T.okB [(d,0)] (cpT r u (0::q)))=jj):
  Ok P Γ ⟨jh d,.load t x,ty,ps,af,gd⟩ E (E.app [(d,jh (cpT r u (0::q)))] [(d,0)]):=yDc (i.h u h1 h2) hx hr hg sd
theorem yDg{α:Type}{t:TypeId}{f:α->T}{xs:List α}[i:zGx P t e](hx:tB E x=jh (r,q,L k f xs))(sd:J6 d Γ.N=jj):
  Ok P Γ ⟨jh d,.call { callee:=.builtin .len,args:=#[x],argTypes:=#[t] },ty,ps,af,gd⟩ E (E.app [(d,jh (I (xs.length:Int)))] [(d,0)]):=zZK i.h hx sd
theorem yBa{α:Type}{t:TypeId}{f:α->T}{xs:List α}[i:zGx P t e](hx:tB E x=jh (r,q,.ro (L k f xs)))(sd:J6 d Γ.N=jj):
  Ok P Γ ⟨jh d,.call { callee:=.builtin .len,args:=#[x],argTypes:=#[t] },ty,ps,af,gd⟩ E (E.app [(d,jh (I (xs.length:Int)))] [(d,0)]):=zUb i.h hx sd
theorem xS(k:RW P Γ pn ops os (E.app wr chg) Q)(h:Ok P Γ o E (E.app wr chg):=by exact zRT rfl rfl)(hg:o.guard=ji:=by rfl)(hp:pn.ok o.dst=jj:=by rfl):RW P Γ pn ops (o::os) E Q:=oP h k hg hp
theorem yFe{g s:Nat}{b:Bool}(k:RW P Γ pn ops os (E.app wr chg) Q)(hg:o.guard=jh (g,b):=by rfl)(fm:(ops[g]?).bind (·.dst)=jh s:=by rfl)(hb:E s=jh (.lit (.bool b)):=by rfl)(h:Ok P Γ o E (E.app wr chg):=by exact zRT rfl rfl)(hp:pn.ok o.dst=jj:=by rfl):RW P Γ pn ops (o::os) E Q:=RW.cons (wK.guard g b s h hg fm hb) k hp
theorem tI(k:RW P Γ pn ops os (E.app wr chg) Q)(h:Ok P Γ o E (E.app wr chg):=by exact zXX rfl rfl)(hg:o.guard=ji:=by rfl)(hp:pn.ok o.dst=jj:=by rfl):RW P Γ pn ops (o::os) E Q:=oP h k hg hp
theorem zMq(k:RW P Γ pn ops os (E.app wr chg) Q)(h:Ok P Γ o E (E.app wr chg):=by exact zUs rfl rfl rfl rfl)(hg:o.guard=ji:=by rfl)(hp:pn.ok o.dst=jj:=by rfl):RW P Γ pn ops (o::os) E Q:=oP h k hg hp
theorem zZU(k:RW P Γ pn ops os (E.app wr chg) Q)(h:Ok P Γ o E (E.app wr chg):=by exact zZT (by first|exact zAI rfl rfl|exact zEx rfl rfl (by first|rfl|exact yF (by assumption) rfl|exact yF (by assumption) (yF (by assumption) rfl)|exact vH rfl (yF (by assumption) rfl)|exact vG (yF (by assumption) rfl)|exact vG (vH rfl (yF (by assumption) rfl))|exact vG (vH rfl (yF (by assumption) (yF (by assumption) rfl)))) rfl) rfl (by assumption) rfl)(hg:o.guard=ji:=by rfl)(hp:pn.ok o.dst=jj:=by rfl):RW P Γ pn ops (o::os) E Q:=oP h k hg hp
theorem zUt(k:RW P Γ pn ops os (E.app wr chg) Q)(h:Ok P Γ o E (E.app wr chg):=by exact yBa (by first|exact zAI rfl rfl|exact zEx rfl rfl (by first|rfl|exact yF (by assumption) rfl|exact yF (by assumption) (yF (by assumption) rfl)|exact vH rfl (yF (by assumption) rfl)|exact vG (yF (by assumption) rfl)|exact vG (vH rfl (yF (by assumption) rfl))|exact vG (vH rfl (yF (by assumption) (yF (by assumption) rfl)))) rfl) rfl)(hg:o.guard=ji:=by rfl)(hp:pn.ok o.dst=jj:=by rfl):RW P Γ pn ops (o::os) E Q:=oP h k hg hp
theorem zBf(k:RW P Γ pn ops os (E.app wr chg) Q)(h:Ok P Γ o E (E.app wr chg):=by exact zTZ (by assumption) rfl rfl rfl)(hg:o.guard=ji:=by rfl)(hp:pn.ok o.dst=jj:=by rfl):RW P Γ pn ops (o::os) E Q:=oP h k hg hp
theorem zQF(k:RW P Γ pn ops os (E.app wr chg) Q)(h:Ok P Γ o E (E.app wr chg):=by exact zZI rfl rfl rfl)(hg:o.guard=ji:=by rfl)(hp:pn.ok o.dst=jj:=by rfl):RW P Γ pn ops (o::os) E Q:=oP h k hg hp
theorem zUu(k:RW P Γ pn ops os (E.app wr chg) Q)(h:Ok P Γ o E (E.app wr chg):=by exact zUd rfl rfl rfl)(hg:o.guard=ji:=by rfl)(hp:pn.ok o.dst=jj:=by rfl):RW P Γ pn ops (o::os) E Q:=oP h k hg hp
theorem yDh(k:RW P Γ pn ops os (E.app wr chg) Q)(h:Ok P Γ o E (E.app wr chg):=by first|exact yAZ rfl rfl rfl rfl rfl rfl|exact yAZ rfl rfl (by first|rfl|exact yF (by assumption) rfl|exact yF (by assumption) (yF (by assumption) rfl)|exact vH rfl (yF (by assumption) rfl)|exact vG (yF (by assumption) rfl)|exact vG (vH rfl (yF (by assumption) rfl))|exact vG (vH rfl (yF (by assumption) (yF (by assumption) rfl)))) (by rfl) (by rfl) (by rfl))(hg:o.guard=ji:=by rfl)(hp:pn.ok o.dst=jj:=by rfl):RW P Γ pn ops (o::os) E Q:=oP h k hg hp
theorem zMr(k:RW P Γ pn ops os (E.app wr chg) Q)(h:Ok P Γ o E (E.app wr chg):=by first|exact zMp (by first|exact zAI rfl rfl|exact zEx rfl rfl (by first|rfl|exact yF (by assumption) rfl|exact yF (by assumption) (yF (by assumption) rfl)|exact vH rfl (yF (by assumption) rfl)|exact vG (yF (by assumption) rfl)|exact vG (vH rfl (yF (by assumption) rfl))|exact vG (vH rfl (yF (by assumption) (yF (by assumption) rfl)))) rfl) rfl rfl rfl rfl rfl|exact zMp (by first|exact zAI rfl rfl|exact zEx rfl rfl (by first|rfl|exact yF (by assumption) rfl|exact yF (by assumption) (yF (by assumption) rfl)|exact vH rfl (yF (by assumption) rfl)|exact vG (yF (by assumption) rfl)|exact vG (vH rfl (yF (by assumption) rfl))|exact vG (vH rfl (yF (by assumption) (yF (by assumption) rfl)))) rfl) rfl (by first|rfl|exact yF (by assumption) rfl|exact yF (by assumption) (yF (by assumption) rfl)|exact vH rfl (yF (by assumption) rfl)|exact vG (yF (by assumption) rfl)|exact vG (vH rfl (yF (by assumption) rfl))|exact vG (vH rfl (yF (by assumption) (yF (by assumption) rfl)))) (by rfl) (by rfl) (by rfl))(hg:o.guard=ji:=by rfl)(hp:pn.ok o.dst=jj:=by rfl):RW P Γ pn ops (o::os) E Q:=oP h k hg hp
theorem zJx(k:RW P Γ pn ops os (E.app wr chg) Q)(h:Ok P Γ o E (E.app wr chg):=by exact zHs (by assumption) rfl rfl rfl)(hg:o.guard=ji:=by rfl)(hp:pn.ok o.dst=jj:=by rfl):RW P Γ pn ops (o::os) E Q:=oP h k hg hp
theorem zZV(k:RW P Γ pn ops os (E.app wr chg) Q)(h:Ok P Γ o E (E.app wr chg):=by exact zZM rfl rfl rfl)(hg:o.guard=ji:=by rfl)(hp:pn.ok o.dst=jj:=by rfl):RW P Γ pn ops (o::os) E Q:=oP h k hg hp
theorem zGf(k:RW P Γ pn ops os (E.app wr chg) Q)(h:Ok P Γ o E (E.app wr chg):=by exact zZL rfl rfl rfl)(hg:o.guard=ji:=by rfl)(hp:pn.ok o.dst=jj:=by rfl):RW P Γ pn ops (o::os) E Q:=oP h k hg hp
theorem zUv(k:RW P Γ pn ops os (E.app wr chg) Q)(h:Ok P Γ o E (E.app wr chg):=by exact zUh inferInstance rfl rfl rfl rfl)(hg:o.guard=ji:=by rfl)(hp:pn.ok o.dst=jj:=by rfl):RW P Γ pn ops (o::os) E Q:=oP h k hg hp
theorem zOy(k:RW P Γ pn ops os (E.app wr chg) Q)(h:Ok P Γ o E (E.app wr chg):=by first|exact zCm rfl (zHy rfl) rfl|exact zCm rfl (isPtr_addr rfl) rfl|exact zCm rfl (zFz (by first|exact zAI rfl rfl|exact zEx rfl rfl (by first|rfl|exact yF (by assumption) rfl|exact yF (by assumption) (yF (by assumption) rfl)|exact vH rfl (yF (by assumption) rfl)|exact vG (yF (by assumption) rfl)|exact vG (vH rfl (yF (by assumption) rfl))|exact vG (vH rfl (yF (by assumption) (yF (by assumption) rfl)))) rfl)) rfl)(hg:o.guard=ji:=by rfl)(hp:pn.ok o.dst=jj:=by rfl):RW P Γ pn ops (o::os) E Q:=oP h k hg hp
theorem yDi(k:RW P Γ pn ops os (E.app wr chg) Q)(h:Ok P Γ o E (E.app wr chg):=by exact yFd (by first|exact zAI rfl rfl|exact zEx rfl rfl (by first|rfl|exact yF (by assumption) rfl|exact yF (by assumption) (yF (by assumption) rfl)|exact vH rfl (yF (by assumption) rfl)|exact vG (yF (by assumption) rfl)|exact vG (vH rfl (yF (by assumption) rfl))|exact vG (vH rfl (yF (by assumption) (yF (by assumption) rfl)))) rfl) rfl (by assumption) rfl)(hg:o.guard=ji:=by rfl)(hp:pn.ok o.dst=jj:=by rfl):RW P Γ pn ops (o::os) E Q:=oP h k hg hp
theorem zUw(k:RW P Γ pn ops os (E.app wr chg) Q)(h:Ok P Γ o E (E.app wr chg):=by exact yDg (by first|exact zAI rfl rfl|exact zEx rfl rfl (by first|rfl|exact yF (by assumption) rfl|exact yF (by assumption) (yF (by assumption) rfl)|exact vH rfl (yF (by assumption) rfl)|exact vG (yF (by assumption) rfl)|exact vG (vH rfl (yF (by assumption) rfl))|exact vG (vH rfl (yF (by assumption) (yF (by assumption) rfl)))) rfl) rfl)(hg:o.guard=ji:=by rfl)(hp:pn.ok o.dst=jj:=by rfl):RW P Γ pn ops (o::os) E Q:=oP h k hg hp
theorem zYg(k:RW P Γ pn ops os (E.app wr chg) Q)(h:Ok P Γ o E (E.app wr chg):=by exact zQ2 inferInstance rfl)(hg:o.guard=ji:=by rfl)(hp:pn.ok o.dst=jj:=by rfl):RW P Γ pn ops (o::os) E Q:=oP h k hg hp
theorem zZW(k:RW P Γ pn ops os (E.app wr chg) Q)(h:Ok P Γ o E (E.app wr chg):=by exact zZN rfl rfl rfl)(hg:o.guard=ji:=by rfl)(hp:pn.ok o.dst=jj:=by rfl):RW P Γ pn ops (o::os) E Q:=oP h k hg hp
theorem zUx(k:RW P Γ pn ops os (E.app wr chg) Q)(h:Ok P Γ o E (E.app wr chg):=by exact zZO rfl (zCP rfl) rfl)(hg:o.guard=ji:=by rfl)(hp:pn.ok o.dst=jj:=by rfl):RW P Γ pn ops (o::os) E Q:=oP h k hg hp
theorem yDj(k:RW P Γ pn ops os (E.app wr chg) Q)(h:Ok P Γ o E (E.app wr chg):=by exact zZR rfl rfl)(hg:o.guard=ji:=by rfl)(hp:pn.ok o.dst=jj:=by rfl):RW P Γ pn ops (o::os) E Q:=oP h k hg hp
theorem zDN(rd:List (Nat×T))(k:DK P Γ pn ops id hs E0 Q os (E.app wr chg) (⟨rd,[(wr,chg)]⟩::acc))(gU:E.Has rd:=by exact Q0)(h:∀E':Env,E'.Has rd->Ok P Γ o E' (E'.app wr chg):=by intro E' h;exact zRT (hO h rfl) rfl)(hg:o.guard=ji:=by rfl):DK P Γ pn ops id hs E0 Q (o::os) E acc:=dG rd [(wr,chg)] gU (fun E' h'=>wK.op (h E' h') hg) k
theorem yFf(rd:List (Nat×T))(k:DK P Γ pn ops id hs E0 Q os (E.app wr chg) (⟨rd,[(wr,chg)]⟩::acc))(gU:E.Has rd:=by exact Q0)(h:∀E':Env,E'.Has rd->Ok P Γ o E' (E'.app wr chg):=by intro E' h;exact zXX (hO h rfl) rfl)(hg:o.guard=ji:=by rfl):DK P Γ pn ops id hs E0 Q (o::os) E acc:=dG rd [(wr,chg)] gU (fun E' h'=>wK.op (h E' h') hg) k
theorem zJy(rd:List (Nat×T))(k:DK P Γ pn ops id hs E0 Q os (E.app wr chg) (⟨rd,[(wr,chg)]⟩::acc))(gU:E.Has rd:=by exact Q0)(h:∀E':Env,E'.Has rd->Ok P Γ o E' (E'.app wr chg):=by intro E' h;exact zUs (hO h rfl) rfl rfl rfl)(hg:o.guard=ji:=by rfl):DK P Γ pn ops id hs E0 Q (o::os) E acc:=dG rd [(wr,chg)] gU (fun E' h'=>wK.op (h E' h') hg) k
theorem zZX(rd:List (Nat×T))(k:DK P Γ pn ops id hs E0 Q os (E.app wr chg) (⟨rd,[(wr,chg)]⟩::acc))(gU:E.Has rd:=by exact Q0)(h:∀E':Env,E'.Has rd->Ok P Γ o E' (E'.app wr chg):=by intro E' h;exact zZT (by first|exact zAI (hE h rfl) rfl|exact zEx (hE h rfl) (hE h rfl) (by first|rfl|exact yF (by assumption) rfl|exact yF (by assumption) (yF (by assumption) rfl)|exact vH rfl (yF (by assumption) rfl)|exact vG (yF (by assumption) rfl)|exact vG (vH rfl (yF (by assumption) rfl))|exact vG (vH rfl (yF (by assumption) (yF (by assumption) rfl)))) rfl) (hO h rfl) (by assumption) rfl)(hg:o.guard=ji:=by rfl):DK P Γ pn ops id hs E0 Q (o::os) E acc:=dG rd [(wr,chg)] gU (fun E' h'=>wK.op (h E' h') hg) k
theorem yDk(rd:List (Nat×T))(k:DK P Γ pn ops id hs E0 Q os (E.app wr chg) (⟨rd,[(wr,chg)]⟩::acc))(gU:E.Has rd:=by exact Q0)(h:∀E':Env,E'.Has rd->Ok P Γ o E' (E'.app wr chg):=by intro E' h;exact zTZ (by assumption) (hO h rfl) (hO h rfl) rfl)(hg:o.guard=ji:=by rfl):DK P Γ pn ops id hs E0 Q (o::os) E acc:=dG rd [(wr,chg)] gU (fun E' h'=>wK.op (h E' h') hg) k
theorem zUy(rd:List (Nat×T))(k:DK P Γ pn ops id hs E0 Q os (E.app wr chg) (⟨rd,[(wr,chg)]⟩::acc))(gU:E.Has rd:=by exact Q0)(h:∀E':Env,E'.Has rd->Ok P Γ o E' (E'.app wr chg):=by intro E' h;first|exact zMp (by first|exact zAI (hE h rfl) rfl|exact zEx (hE h rfl) (hE h rfl) (by first|rfl|exact yF (by assumption) rfl|exact yF (by assumption) (yF (by assumption) rfl)|exact vH rfl (yF (by assumption) rfl)|exact vG (yF (by assumption) rfl)|exact vG (vH rfl (yF (by assumption) rfl))|exact vG (vH rfl (yF (by assumption) (yF (by assumption) rfl)))) rfl) (hE h rfl) rfl rfl rfl rfl|exact zMp (by first|exact zAI (hE h rfl) rfl|exact zEx (hE h rfl) (hE h rfl) (by first|rfl|exact yF (by assumption) rfl|exact yF (by assumption) (yF (by assumption) rfl)|exact vH rfl (yF (by assumption) rfl)|exact vG (yF (by assumption) rfl)|exact vG (vH rfl (yF (by assumption) rfl))|exact vG (vH rfl (yF (by assumption) (yF (by assumption) rfl)))) rfl) (hE h rfl) (by first|rfl|exact yF (by assumption) rfl|exact yF (by assumption) (yF (by assumption) rfl)|exact vH rfl (yF (by assumption) rfl)|exact vG (yF (by assumption) rfl)|exact vG (vH rfl (yF (by assumption) rfl))|exact vG (vH rfl (yF (by assumption) (yF (by assumption) rfl)))) (by rfl) (by rfl) (by rfl))(hg:o.guard=ji:=by rfl):DK P Γ pn ops id hs E0 Q (o::os) E acc:=dG rd [(wr,chg)] gU (fun E' h'=>wK.op (h E' h') hg) k
theorem yDl(rd:List (Nat×T))(k:DK P Γ pn ops id hs E0 Q os (E.app wr chg) (⟨rd,[(wr,chg)]⟩::acc))(gU:E.Has rd:=by exact Q0)(h:∀E':Env,E'.Has rd->Ok P Γ o E' (E'.app wr chg):=by intro E' h;exact zHs (by assumption) (hO h rfl) (hO h rfl) rfl)(hg:o.guard=ji:=by rfl):DK P Γ pn ops id hs E0 Q (o::os) E acc:=dG rd [(wr,chg)] gU (fun E' h'=>wK.op (h E' h') hg) k
theorem zZY(rd:List (Nat×T))(k:DK P Γ pn ops id hs E0 Q os (E.app wr chg) (⟨rd,[(wr,chg)]⟩::acc))(gU:E.Has rd:=by exact Q0)(h:∀E':Env,E'.Has rd->Ok P Γ o E' (E'.app wr chg):=by intro E' h;exact zUh inferInstance (hO h rfl) rfl rfl rfl)(hg:o.guard=ji:=by rfl):DK P Γ pn ops id hs E0 Q (o::os) E acc:=dG rd [(wr,chg)] gU (fun E' h'=>wK.op (h E' h') hg) k
theorem zUz(rd:List (Nat×T))(k:DK P Γ pn ops id hs E0 Q os (E.app wr chg) (⟨rd,[(wr,chg)]⟩::acc))(gU:E.Has rd:=by exact Q0)(h:∀E':Env,E'.Has rd->Ok P Γ o E' (E'.app wr chg):=by intro E' h;first|exact zCm (hO h rfl) (zHy (hO h rfl)) rfl|exact zCm (hO h rfl) (isPtr_addr (hO h rfl)) rfl|exact zCm (hO h rfl) (zFz (by first|exact zAI (hE h rfl) rfl|exact zEx (hE h rfl) (hE h rfl) (by first|rfl|exact yF (by assumption) rfl|exact yF (by assumption) (yF (by assumption) rfl)|exact vH rfl (yF (by assumption) rfl)|exact vG (yF (by assumption) rfl)|exact vG (vH rfl (yF (by assumption) rfl))|exact vG (vH rfl (yF (by assumption) (yF (by assumption) rfl)))) rfl)) rfl)(hg:o.guard=ji:=by rfl):DK P Γ pn ops id hs E0 Q (o::os) E acc:=dG rd [(wr,chg)] gU (fun E' h'=>wK.op (h E' h') hg) k
theorem cA{f:FuncId}{xs:List Operand}{res:List T}(gk:jH P f)(hc:FnC P f us res [])(k:RW P Γ pn ops os (E.app (cWr d res []) (vV d [])) Q)(gj:xI E [] 0 xs us:=by repeat (first|exact trivial|refine⟨agC _ rfl (by first|rfl|exact zUf inferInstance|exact zOt rfl (by first|rfl|exact yF (by assumption) rfl|exact yF (by assumption) (yF (by assumption) rfl)|exact vH rfl (yF (by assumption) rfl)|exact vG (yF (by assumption) rfl)|exact vG (vH rfl (yF (by assumption) rfl))|exact vG (vH rfl (yF (by assumption) (yF (by assumption) rfl)))) inferInstance|exact cloSR rfl (by first|rfl|exact yF (by assumption) rfl|exact yF (by assumption) (yF (by assumption) rfl)|exact vH rfl (yF (by assumption) rfl)|exact vG (yF (by assumption) rfl)|exact vG (vH rfl (yF (by assumption) rfl))|exact vG (vH rfl (yF (by assumption) (yF (by assumption) rfl))))) rfl,?_⟩))(gw:zAp res:=by repeat (first|exact zFy|refine zMe inferInstance ?_))(sd:J6 d Γ.N=jj:=by rfl)(hg:gd=ji:=by rfl)(hp:pn.ok (jh d)=jj:=by rfl):
  RW P Γ pn ops (⟨jh d,.call { callee:=.value (.func f),args:=xs.toArray,argTypes:=ats },ty,ps,af,gd⟩::os) E Q:=oP (zOu gk hc gj gw sd) k hg hp
theorem dC{f:FuncId}{xs:List Operand}{res:List T}(rd:List (Nat×T))(gk:jH P f)(hc:FnC P f us res [])(k:DK P Γ pn ops id hs E0 Q os (E.app (cWr d res []) (vV d [])) (⟨rd,[(cWr d res [],vV d [])]⟩::acc))(gU:E.Has rd:=by exact Q0)(gj:∀E':Env,E'.Has rd->xI E' [] 0 xs us:=by intro E' h;repeat (first|exact trivial|refine⟨agC _ (hO h rfl) (by first|rfl|exact zUf inferInstance|exact zOt (hE h rfl) (by first|rfl|exact yF (by assumption) rfl|exact yF (by assumption) (yF (by assumption) rfl)|exact vH rfl (yF (by assumption) rfl)|exact vG (yF (by assumption) rfl)|exact vG (vH rfl (yF (by assumption) rfl))|exact vG (vH rfl (yF (by assumption) (yF (by assumption) rfl)))) inferInstance|exact cloSR (hE h rfl) (by first|rfl|exact yF (by assumption) rfl|exact yF (by assumption) (yF (by assumption) rfl)|exact vH rfl (yF (by assumption) rfl)|exact vG (yF (by assumption) rfl)|exact vG (vH rfl (yF (by assumption) rfl))|exact vG (vH rfl (yF (by assumption) (yF (by assumption) rfl))))) rfl,?_⟩))(gw:zAp res:=by repeat (first|exact zFy|refine zMe inferInstance ?_))(sd:J6 d Γ.N=jj:=by rfl)(hg:gd=ji:=by rfl):
  DK P Γ pn ops id hs E0 Q (⟨jh d,.call { callee:=.value (.func f),args:=xs.toArray,argTypes:=ats },ty,ps,af,gd⟩::os) E acc:=
 dG rd [(cWr d res [],vV d [])] gU (fun E' h'=>wK.op (zOu gk hc (gj E' h') gw sd) hg) k
theorem sk2{g s:Nat}{b b':Bool}(k:RW P Γ pn ops os (E.app [(d,jh (.tup []))] [(d,0)]) Q)(hd:o.dst=jh d:=by rfl)(hg:o.guard=jh (g,b):=by rfl)(fm:(ops[g]?).bind (·.dst)=jh s:=by rfl)(hb:E s=jh (.lit (.bool b')):=by rfl)(fx:(b==b')=jk:=by rfl)(sd:J6 d Γ.N=jj:=by rfl)(hp:pn.ok o.dst=jj:=by rfl):
  RW P Γ pn ops (o::os) E Q:=RW.cons (wK.skip2 g b b' s hd sd fx hg fm hb) k hp
theorem yFg{g s:Nat}{b b':Bool}(k:DK P Γ pn ops id hs E0 Q os (E.app [(d,jh (.tup []))] [(d,0)]) (⟨[(s,.lit (.bool b'))],[([(d,jh (.tup []))],[(d,0)])]⟩::acc))(hd:o.dst=jh d:=by rfl)(hg:o.guard=jh (g,b):=by rfl)(fm:(ops[g]?).bind (·.dst)=jh s:=by rfl)(hb:E s=jh (.lit (.bool b')):=by rfl)(fx:(b==b')=jk:=by rfl)(sd:J6 d Γ.N=jj:=by rfl):
  DK P Γ pn ops id hs E0 Q (o::os) E acc:=dG [(s,.lit (.bool b'))] [([(d,jh (.tup []))],[(d,0)])] ⟨hb,trivial⟩ (fun _E' h=>wK.skip2 g b b' s hd sd fx hg fm h.1) k
theorem yFh{g s:Nat}{b:Bool}(k:DK P Γ pn ops id hs E0 Q os (E.app [(d,jh (.tup []))] [(d,0)]) (⟨[(s,.tup [])],[([(d,jh (.tup []))],[(d,0)])]⟩::acc))(hd:o.dst=jh d:=by rfl)(hg:o.guard=jh (g,b):=by rfl)(fm:(ops[g]?).bind (·.dst)=jh s:=by rfl)(hb:E s=jh (.tup []):=by rfl)(sd:J6 d Γ.N=jj:=by rfl):
  DK P Γ pn ops id hs E0 Q (o::os) E acc:=dG [(s,.tup [])] [([(d,jh (.tup []))],[(d,0)])] ⟨hb,trivial⟩ (fun _E' h=>wK.skip3 g b s hd sd hg fm h.1) k
theorem dNA(hm:P.follows .mixedOrders=jj)(hQ:Q .normal E)(hf:zA3 0 ops.toList=jj:=by rfl)(ha:kW (yAU ops.toList) (yAU ops.toList) ops.toList=jj:=by rfl)(hp:jE acc.reverse 0 (yAU ops.toList) acc.reverse=jj:=by rfl)
  (aF:ops.toList.all (fun o=>pn.ok o.dst)=jj:=by rfl)(tq:zUq hs E0=jj:=by rfl)(hw:acc.reverse.all (wrS hs)=jj:=by rfl):DK P Γ pn ops id hs E0 Q [] E acc:=dN _ hm hQ hf ha hp aF tq hw
theorem cn{c1 c2:Code}{α:Type}{b:Bool}{u v z:α}(h:cond b u v=z)(ht:b=jj->u=z->CW P Γ pn c1 E Q)(hf:b=jk->v=z->CW P Γ pn c2 E Q)(hb:opT E x=jh (.lit (.bool b)):=by rfl):CW P Γ pn (.cond x c1 c2) E Q:=
 CW.cond b hb (fun hc=>ht hc (cT hc h)) fun hc=>hf hc (cF hc h)
theorem fB{f:FuncId}{res:List T}(hf:P.funcs[f]? =jh fn)(h:∀(St:Stb)(W:Nat->Prop)(w0:World)(v:Nat->Value),CW P ⟨St,W,w0,fn.ntmps⟩ (zCj v (rws.map (·.1))) c (vW (zIF 0 us)) (vL ⟨St,W,w0,fn.ntmps⟩ P fn.results us res rws))(hb:fn.body=jh c:=by rfl)(hn:us.length<=fn.ntmps:=by exact Nat.le_of_ble_eq_true rfl)
  (ht:uK us:=by exact Q3)(hr:rws.all (fun x=>decide (x.1<us.length))=jj:=by rfl):FnC P f us res rws:=
 FnC.of_bodyG hf hb hn ht hr (by rintro⟨St,W,w0,N⟩ v hN;subst hN;exact h St W w0 v)
def zDO:List ResultVar->Option (List Nat)
 | []=>jh []
 |.tmp s::l=>(zDO l).map (s::·)
 |.cell _ _::_=>ji
theorem zJz:∀(rs:List ResultVar)(ss:List Nat)(res:List T),zDO rs=jh ss->ss.map E=res.map jh->res.all T.okTup=jj-> ∃nd:Nds,zRR P E rs nd/\nd.map (·.2.2)=res/\nd.map (·.1)=ss
 | [],ss,res,h,hE,_=>by
  simp[zDO]at h;subst h;cases res with
  |nil=>exact⟨[],trivial,rfl,rfl⟩
  |cons _ _=>simp at hE
 |.tmp s::rs,ss,res,h,hE,ht=>by
  simp only[zDO,Kf]at h;obtain⟨ss',h,rfl⟩:=h;cases res with
  |nil=>simp at hE
  |cons t res=>
   simp only[Ju,Qf.injEq]at hE;simp only[Uo,J4]at ht;obtain⟨nd,h1,h2,h3⟩:=zJz rs ss' res h hE.2 ht.2;exact⟨(s,[],t)::nd,⟨⟨rfl,rfl,hE.1,ht.1⟩,h1⟩,by simp[h2],by simp[h3]⟩
 |.cell _ _::_,_,_,h,_,_=>by simp[zDO]at h
theorem rT{rs:Array ResultVar}{res:List T}{e:Exit}{ss:List Nat}(hs:zDO rs.toList=jh ss:=by rfl)(hE:ss.map E=res.map jh:=by rfl)(ht:res.all T.okTup=jj:=by rfl)(hl:ss.all (fun s=>Jac us.length s)=jj:=by rfl)(hn:zBz ss=jj:=by rfl)
  (hw:LOk E us rws:=by repeat (first|exact trivial|refine⟨⟨rfl,_,rfl⟩,?_⟩))(he:e=.ret\/e=.normal:=by first|exact .inl rfl|exact .inr rfl):vL Γ P rs us res rws e E:=by
 obtain⟨nd,h1,h2,h3⟩:=zJz (P:=P) rs.toList ss res hs hE ht;refine⟨E,zR.refl,he,nd,h1,h2,fun x hx=>?_,by rw[h3];exact zF0 hn,hw⟩;have:x.1∈ss:=by rw[<-h3];exact Je.2 ⟨x,hx,rfl⟩
 exact Nat.le_of_ble_eq_true (Kh.1 hl _ this)
theorem eN{σ ρ:Type}{en:σ->Env}{Q1:ρ->Exit->Env->Prop}{y:σ}{x:σ⊕ρ}(h:jh (Sum.inl y)=jh x)(q:zR Γ E (en y):=by exact .has (by repeat (first|exact trivial|refine⟨rfl,?_⟩))):wG Γ en Q1 x .normal E:=by obtain rfl:=sI h;exact⟨rfl,q⟩
theorem rTg{rs:Array ResultVar}{res:List T}{e:Exit}(hg:zR Γ E E')(h:vL Γ P rs us res rws e E'):vL Γ P rs us res rws e E:=by obtain⟨E2,h1,h2⟩:=h;exact⟨E2,hg.trans h1,h2⟩
theorem eX{σ ρ:Type}{en:σ->Env}{Q1:ρ->Exit->Env->Prop}{y:ρ}{x:σ⊕ρ}{e:Exit}(h:jh (Sum.inr y)=jh x)(q:Q1 y e E:=by first|exact⟨rfl,.has (by repeat (first|exact trivial|refine⟨rfl,?_⟩))⟩|exact⟨rfl,rT⟩)(gc:e≠.normal:=by first|exact neX|exact neR):wG Γ en Q1 x e E:=by obtain rfl:=sI h;exact⟨gc,q⟩
end
section
variable {Γ:Ctx}{E:Env}
theorem zR.frzG(s:Nat)(t:T){t':T}(hs:E s=jh t)(h:vT t=t'):zR Γ E (E.app [(s,jh t')] [(s,1)]):=h▸zR.freeze s t hs
theorem fzO{α:Type}{f g:α->T}{xs:List α}(h:uG f g):vT (L k f xs)=.ro (L k g xs):=by simp only[vT,strip,tE h.h xs]
theorem fzP{t:T}(h:strip t=u):vT (.ptr t)=.ro (.ptr u):=by grind[vT,strip]
theorem fzA{xs ys:List T}(h:vP xs=ys):vT (.agg xs)=.agg ys:=by grind[vT]
theorem fzC{x y:T}{xs ys:List T}(h:vT x=y)(h2:vP xs=ys):vP (x::xs)=y::ys:=by grind[vP]
end
theorem zQG{α:Type}{f:α->T}{xs:List α}{i j:Int}{a b:α}{X:T}(hi:ixO xs i=jh a)(hj:ixO xs j=jh b)(gc:(i != j)=jj):
  (if[i.toNat]=[]then X else(L k f xs).set [i.toNat].reverse T.any).get [j.toNat].reverse=jh (f b):=by
 have h1:=(uL hi);have h2:=(uL hj);have h3:i≠j:=by grind
 have h4:i.toNat≠j.toNat:=by omega
 simp only[List.cons_ne_nil,if_false,Ga,Hw,K0]
 grind[T.set,T.get]
theorem zU0{rs:List Nat}{s:Nat}{tr:T}(hr:E r=jh tr)(hg:tr.get q.reverse=jh u)(h4:kX u=jj)(hn:rs.contains r=jk):zJi E rs (.tmp s) (.same r q)=jj:=by simp only[zJi,sU,zBe hr hg h4,hn,H5]
end Go.Ab
