/- x -/
import Derived.Test.YtcjmcjcfehbboaaGreatRAbB
import Derived.Test.YtcjmcjcfehbboaaGreatRWF
open List renaming replicate→J0,getD_eq_getElem?_getD→J2,getElem?_eq_getElem→J3,length_append→J5,length_cons→J8,getElem?_append_right→Ja,length_replicate→Jc,length_singleton→Jf,append_assoc→Jg,append_nil→Jh,mem_append→Ji,getElem?_eq_some_iff→Jl,getElem?_map→Jn,getElem_mem→Jp,mem_map→Jq,map_cons→Jr,nil_append→Js,take_of_length_le→Jt,range→Ju,replicate_succ→Jw,replicate_append_replicate→Jx,take_succ_eq_append_getElem→Jy,take_left'→Jz,cons_append→K0,getElem?_append_left→K1,getElem?_replicate→K3,length_drop→K8,range'→Ke,length_nil→Kh,getElem?_append→Km,replicate_zero→Kt,drop_eq_getElem_cons→Ku,length_take→Kv,getElem?_drop→Kw,ext_getElem?→Kx,range'_succ→L3,set_cons_zero→L7,take_zero→L9,take_succ_cons→La,range_eq_range'→Ld,replicate_succ'→Lf,set_append_right→Lg,mem_range→Ll,drop_replicate→Ln,singleton_append→Lv,drop_of_length_le→Lw,drop_zero→Hr,getD_cons_zero→Ht,mem_iff_getElem→Hy,take_length→Gg,range_succ→Ub,map_congr_left→Uj,length→Uq,map_map→Q5,foldl_append→Q7,getElem?_cons_zero→Qc,suffix_cons_iff→Qq,all_cons→Qt,range_succ_eq_map→Ja2,take_append_drop→Ja7,map_nil→Jai,findSome?_cons→Jaq,drop_append→Jb3,getElem?_cons_succ→Jb8,flatten_nil→Jbr
open Bool renaming and_eq_true->J4,not_true->K7,not_false->Ko
open Int renaming toNat_natCast->J7,emod_eq_of_lt->Jo,mul_emod->Jv,emod_emod->K2,emod_lt_of_pos->K9,add_emod->Kb,add_zero->Kf,emod_nonneg->Kl,mul_one->Kz,zero_add->L5,mul_zero->L6,tmod_eq_emod_of_nonneg->Lh,mul_comm->Lu,toNat_zero->H6,mul_assoc->Hi,add_mul_emod_self_left->Hv,mul_nonneg->Gi,emod_add_emod->Gk,emod_self->Gs,zero_mul->U3,sub_emod_right->Uc,emod_eq_emod_iff_emod_sub_eq_zero->Um,add_emod_right->Ux,one_mul->Uy,mul_le_mul->Q3,tmod_add_mul_tdiv->Qu,tmod_lt_of_pos->Ja8,natCast_add->Ja9,lt_tmod_of_pos->Jaa,zero_emod->Jaz,tmod->Jb0,sub_zero->Jb9,sub_mul->Jbc,add_assoc->Jc2
open Nat renaming le_refl->J9,zero_add->Jd,lt_or_ge->Jk,zero_le->K4,sub_self->Kr,sub_zero->Li,succ_mul->Lo,add_assoc->H4,lt_trichotomy->Hh,eq_zero_or_pos->Gu,add_sub_cancel_left->Gx,le_trans->U1,strongRecOn->U4,min_eq_left->Up,add_zero->Jae,lt_of_not_le->Jal,lt_irrefl->Jax,zero_sub->Jb5
open Option renaming map_eq_some_iff->Kg,some->Lr,map_some->H9,isSome_iff_exists->Uz
open Option renaming some->Wu,none->Wv
open Bool renaming true->Ww,false->Wx
namespace Go.Pc
variable {k d:Nat}
abbrev Vec:=List Int
structure Lvl where
 o:Int
 w:Vec
 cs:List Vec
abbrev Pcp:=List Lvl
def zeros(n:Nat):Vec:=J0 n 0
def iter{α:Type}:Nat->(α->α)->α->α
 |0,_,x=>x
 |n+1,f,x=>iter n f (f x)
theorem wG{α:Type}(f:α->α):∀(n:Nat)(x:α),iter (n+1) f x=f (iter n f x)
 |0,_=>rfl
 |n+1,x=>by rw[iter,wG f n (f x)];rfl
theorem zE1{α:Type}(f:α->α)(a:Nat):∀(b:Nat)(x:α),iter (a+b) f x=iter a f (iter b f x)
 |0,_=>rfl
 |b+1,x=>by show iter (a+b) f (f x)=_;rw[zE1 f a b (f x)];rfl
def img{α:Type}(m:α->α->α):List α->Vec->α->α
 |c::cs,x::xs,acc=>img m cs xs (iter x.toNat (fun v=>m v c) acc)
 |_,_,acc=>acc
def V:Pcp->Vec->Prop
 | [],v=>v=[]
 |l::P,v=>match v with
  | []=>False
  |a::x=>(0<=a/\a<l.o)/\V P x
def mul:Pcp->Vec->Vec->Vec
 |l::P,a::x,b::y=>
  let r:=mul P (iter b.toNat (fun v=>img (mul P) l.cs v (zeros P.length)) x) y
  if a+b>=l.o then(a+b-l.o)::mul P l.w r else(a+b)::r
 |_,_,_=>[]
def Ok:Pcp->Prop
 | []=>True
 |l::P=>1<l.o/\V P l.w/\l.cs.length=P.length/\(∀c∈l.cs,V P c)/\Ok P
structure Mon {α:Type} (S:α->Prop) (m:α->α->α) (e:α):Prop where
 cl:∀{a b},S a->S b->S (m a b)
 ein:S e
 assoc:∀{a b c},S a->S b->S c->m (m a b) c=m a (m b c)
 onel:∀{a},S a->m e a=a
 oner:∀{a},S a->m a e=a
structure Grp {α:Type} (S:α->Prop) (m:α->α->α) (e:α):Prop extends Mon S m e where
 inv:∀{a},S a-> ∃b,S b/\m a b=e
theorem Grp.invl{α:Type}{S:α->Prop}{m:α->α->α}{e:α}(h:Grp S m e){a:α}(ha:S a):∃b,S b/\m a b=e/\m b a=e:=by
 obtain⟨b,hb,h1⟩:=h.inv ha;obtain⟨c,hc,h2⟩:=h.inv hb;refine⟨b,hb,h1,?_⟩;have:a=c:=by rw[<-h.oner ha,<-h2,<-h.assoc ha hb hc,h1,h.onel hc]
 grind
theorem Grp.cancel_l{α:Type}{S:α->Prop}{m:α->α->α}{e:α}(h:Grp S m e){a b c:α}(ha:S a)(hb:S b)(hc:S c)(hh:m a b=m a c):b=c:=by obtain⟨d,hd,_,h2⟩:=h.invl ha;rw[<-h.onel hb,<-h.onel hc,<-h2,h.assoc hd ha hb,h.assoc hd ha hc,hh]
section
variable {α:Type}{S:α->Prop}{m:α->α->α}{e:α}
def pw(m:α->α->α)(e:α)(x:α)(k:Nat):α:=iter k (fun v=>m v x) e
theorem wO(h:Mon S m e){x:α}(hx:S x):∀k,S (pw m e x k)
 |0=>h.ein
 |k+1=>by rw[pw,wG];exact h.cl (wO h hx k) hx
theorem tA{f:α->α}(hf:∀a,S a->S (f a)):∀(k:Nat){x:α},S x->S (iter k f x)
 |0,_,hx=>hx
 |k+1,_,hx=>tA hf k (hf _ hx)
theorem zE2(h:Mon S m e){x a:α}(hx:S x)(ha:S a):∀k,iter k (fun v=>m v x) a=m a (pw m e x k)
 |0=>(h.oner ha).symm
 |k+1=>by rw[wG,zE2 h hx ha k];show _=m a (iter (k+1) (fun v=>m v x) e);rw[wG];exact h.assoc ha (wO h hx k) hx
theorem zCA(h:Mon S m e){x:α}(hx:S x)(a b:Nat):pw m e x (a+b)=m (pw m e x a) (pw m e x b):=by rw[Nat.add_comm,pw,zE1,<-zE2 h hx (wO h hx a) b];rfl
theorem zN5(h:Mon S m e){x:α}(hx:S x):pw m e x 1=x:=h.onel hx
theorem zE3(h:Mon S m e){x:α}(hx:S x)(k:Nat):pw m e x (k+1)=m x (pw m e x k):=by rw[Nat.add_comm,zCA h hx 1 k,zN5 h hx]
theorem kR(h:∀{a b},S a->S b->S (m a b)):∀(cs:List α)(x:Vec){a:α},(∀c∈cs,S c)->S a->S (img m cs x a)
 |c::cs,x::xs,_,hc,ha=>by simp only[img];exact kR h cs xs (by grind) (tA (by simp_all) _ ha)
 | [],_,_,_,ha=>by grind[img]
 |_::_,[],_,_,ha=>by grind[img]
theorem zAD(h:Mon S m e)(cs:List α)(x:Vec){a:α}(hc:∀c∈cs,S c)(ha:S a):S (img m cs x a):=kR h.cl cs x hc ha
theorem zDf(h:Mon S m e):∀(cs:List α)(x:Vec){a:α},(∀c∈cs,S c)->S a->img m cs x a=m a (img m cs x e)
 |c::cs,x::xs,a,hc,ha=>by
  have h1:S c:=hc c (by simp);have h2:∀c∈cs,S c:=by grind
  simp only[img];rw[zE2 h h1 ha,zDf h cs xs h2 (h.cl ha (wO h h1 _)),zE2 h h1 h.ein,zDf h cs xs h2 (h.cl h.ein (wO h h1 _)),h.onel (wO h h1 _),
   h.assoc ha (wO h h1 _) (zAD h cs xs h2 h.ein)]
 | [],_,a,_,ha=>by simp[img,h.oner ha]
 |_::_,[],a,_,ha=>by simp[img,h.oner ha]
theorem tD(h:Mon S m e){c:α}{cs:List α}{x:Int}{xs:Vec}(hc:S c)(eu:∀c∈cs,S c):img m (c::cs) (x::xs) e=m (pw m e c x.toNat) (img m cs xs e):=by simp only[img];rw[zDf h cs xs eu (tA (fun a ha=>h.cl ha hc) _ h.ein)];rfl
theorem uD(m:α->α->α):∀(cs:List α)(n:Nat)(a:α),img m cs (zeros n) a=a
 | [],_,_=>by simp[img]
 |_::_,0,_=>by rfl
 |c::cs,n+1,a=>by simp only[zeros,Jw,img,H6,iter];exact uD m cs n a
theorem zHA(h:Mon S m e){g:α}(hg:S g):∀(cs ds:List α)(x:Vec),(∀c∈cs,S c)->(∀c∈ds,S c)->cs.length=ds.length->(∀(k:Nat) c d,cs[k]? =Wu c->ds[k]? =Wu d->m c g=m g d)->m (img m cs x e) g=m g (img m ds x e)
 | [],[],x,_,_,_,_=>by simp[img,h.onel hg,h.oner hg]
 |c::cs,d::ds,[],_,_,_,_=>by simp[img,h.onel hg,h.oner hg]
 |c::cs,d::ds,x::xs,hc,hd,hl,hp=>by
  have fw:S c:=hc c (by simp);have hd0:S d:=hd d (by simp);have eu:∀c∈cs,S c:=by grind
  have mG:∀c∈ds,S c:=by grind
  have key:∀k,m (pw m e c k) g=m g (pw m e d k):=by
   intro k
   induction k with
   |zero=>simp[pw,iter,h.onel hg,h.oner hg]
   |succ k ih=>
    have h0:m c g=m g d:=hp 0 c d rfl rfl;rw[pw,wG,pw,wG];show m (m (pw m e c k) c) g=m g (m (pw m e d k) d);rw[h.assoc (wO h fw k) fw hg,h0,<-h.assoc (wO h fw k) hg hd0,ih,h.assoc hg (wO h hd0 k) hd0]
  rw[tD h fw eu,tD h hd0 mG,h.assoc (wO h fw _) (zAD h _ _ eu h.ein) hg,zHA h hg cs ds xs eu mG (by grind) (fun k c d h1 h2=>hp (k+1) c d (by grind) (by grind)),
   <-h.assoc (wO h fw _) hg (zAD h _ _ mG h.ein),key,h.assoc hg (wO h hd0 _) (zAD h _ _ mG h.ein)]
theorem zDg{β:Type}{T:β->Prop}{n:β->β->β}{f:β}(h:Mon S m e)(h':Mon T n f)(φ:α->β)(gK:∀a,S a->T (φ a))(h1:φ e=f)(hm:∀a b,S a->S b->φ (m a b)=n (φ a) (φ b)):∀(cs:List α)(x:Vec),(∀c∈cs,S c)->φ (img m cs x e)=img n (cs.map φ) x f
 | [],_,_=>by simp[img,h1]
 |c::cs,[],_=>by simp[img,h1]
 |c::cs,x::xs,hc=>by
  have fw:S c:=hc c (by simp);have eu:∀c∈cs,S c:=by grind
  have key:∀k,φ (pw m e c k)=pw n f (φ c) k:=by
   intro k
   induction k with
   |zero=>grind[pw,iter]
   |succ k ih=>
    grind[pw,wG,wO]
  rw[tD h fw eu,Jr,tD h' (gK c fw) (by simp_all),hm _ _ (wO h fw _) (zAD h _ _ eu h.ein),key,zDg h h' φ gK h1 hm cs xs eu]
end
theorem qE:∀{P:Pcp}{v:Vec},V P v->v.length=P.length
 | [],_,h=>by grind[V]
 |_::_,[],h=>by grind[V]
 |_::P,_::_,h=>by simp only[V]at h;simp[qE h.2]
theorem xT:∀{P:Pcp},Ok P->V P (zeros P.length)
 | [],_=>rfl
 |l::P,h=>by simp only[Ok]at h;simp only[J8,zeros,Jw,V];exact⟨by omega,xT h.2.2.2.2⟩
theorem yT:∀{P:Pcp},Ok P-> ∀{x y:Vec},V P x->V P y->V P (mul P x y)
 | [],_,_,_,hx,hy=>by rfl
 |l::P,h,[],_,hx,_=>by grind[V]
 |l::P,h,_::_,[],_,hy=>by grind[V]
 |l::P,h,a::x,b::y,hx,hy=>by
  simp only[Ok]at h;simp only[V]at hx hy;have h1:∀v,V P v->V P (img (mul P) l.cs v (zeros P.length)):=fun v hv=>kR (yT h.2.2.2.2) l.cs v h.2.2.2.1 (xT h.2.2.2.2)
  have h2:=yT h.2.2.2.2 (tA h1 b.toNat hx.2) hy.2;simp only[mul];split
  ·exact⟨by omega,yT h.2.2.2.2 h.2.1 h2⟩
  ·exact⟨by omega,h2⟩
def Rel{α:Type}(m:α->α->α)(e:α):Pcp->List α->Prop
 | [],s=>s=[]
 |l::P,s=>match s with
  | []=>False
  |g::s=>pw m e g l.o.toNat=img m s l.w e/\(∀(k:Nat) c d,s[k]? =Wu c->l.cs[k]? =Wu d->m c g=m g (img m s d e))/\Rel m e P s
section
variable {α:Type}{S:α->Prop}{m:α->α->α}{e:α}
theorem zZN(h:Mon S m e):∀(P:Pcp)(s:List α),Ok P->(∀g∈s,S g)->Rel m e P s-> ∀x y,V P x->V P y->img m s (mul P x y) e=m (img m s x e) (img m s y e)
 | [],s,_,_,hr,x,y,hx,hy=>by simp only[Rel]at hr;subst hr;simp[img,h.onel h.ein]
 |l::P,[],_,_,hr,_,_,_,_=>by grind[Rel]
 |l::P,g::s,_,_,_,[],_,hx,_=>by grind[V]
 |l::P,g::s,_,_,_,_::_,[],_,hy=>by grind[V]
 |l::P,g::s,hk,hs,hr,a::x,b::y,hx,hy=>by
  simp only[Ok]at hk;simp only[Rel]at hr;simp only[V]at hx hy;obtain⟨ho,hw,gF,eu,iu⟩:=hk;obtain⟨eO,pf,dE⟩:=hr;have hg:S g:=hs g (by simp);have mW:∀c∈s,S c:=by grind
  have gm:s.length=P.length:=by
   clear eO pf hx hy hw gF eu hs mW
   induction P generalizing s with
   |nil=>grind[Rel]
   |cons l P ih=>
    cases s with
    |nil=>grind[Rel]
    |cons c s=>grind[Rel,Ok]
  have ih:=zZN h P s iu mW dE;have hφ:∀v,S (img m s v e):=fun v=>zAD h s v mW h.ein
  have hmP:∀{a b},V P a->V P b->V P (mul P a b):=yT iu;have aL:∀v,V P v->V P (img (mul P) l.cs v (zeros P.length)):=fun v hv=>kR hmP l.cs v eu (xT iu)
  have hσ:∀v,V P v->m (img m s v e) g=m g (img m s (img (mul P) l.cs v (zeros P.length)) e):=by
   intro v hv;have key:∀(cs:List Vec)(v:Vec)(acc:Vec),(∀c∈cs,V P c)->V P acc->img m s (img (mul P) cs v acc) e=img m (cs.map fun c=>img m s c e) v (img m s acc e):=by
    intro cs
    induction cs with
    |nil=>grind[img]
    |cons c cs ihc=>
     intro v acc hc hacc;cases v with
     |nil=>simp[img]
     |cons z v=>
      have fw:V P c:=hc c (by simp);have it:∀k acc,V P acc->img m s (iter k (fun v=>mul P v c) acc) e=iter k (fun v=>m v (img m s c e)) (img m s acc e):=by
       intro k
       induction k with
       |zero=>intro acc _;rfl
       |succ k ihk=>
        simp_all[iter]
      simp only[img,Jr];rw[ihc v _ (by simp_all) (tA (by grind) _ hacc),it _ _ hacc]
   rw[key l.cs v (zeros P.length) eu (xT iu),uD];refine zHA h hg s _ v mW (by simp_all) (by grind) ?_;intro k c d hc hd;simp only[Jn,Kg]at hd;obtain⟨d',br,rfl⟩:=hd
   grind
  have hσk:∀k v,V P v->m (img m s v e) (pw m e g k)=m (pw m e g k) (img m s (iter k (fun v=>img (mul P) l.cs v (zeros P.length)) v) e):=by
   intro k
   induction k with
   |zero=>intro v _;simp[pw,iter,h.onel (hφ v),h.oner (hφ v)]
   |succ k ihk=>
    intro v hv;rw[zE3 h hg,<-h.assoc (hφ v) hg (wO h hg k),hσ v hv,h.assoc hg (hφ _) (wO h hg k),ihk _ (aL v hv),<-h.assoc hg (wO h hg k) (hφ _)];rfl
  have fY:=wO h hg a.toNat;have iq:=wO h hg b.toNat;have eV:V P (iter b.toNat (fun v=>img (mul P) l.cs v (zeros P.length)) x):=tA aL _ hx.2;have dT:m (img m (g::s) (a::x) e) (img m (g::s) (b::y) e)=m (pw m e g (a.toNat+b.toNat)) (img m s (mul P (iter b.toNat (fun v=>img (mul P) l.cs v (zeros P.length)) x) y) e):=by rw[tD h hg mW,tD h hg mW,h.assoc fY (hφ x) (h.cl iq (hφ y)),<-h.assoc (hφ x) iq (hφ y),hσk _ _ hx.2,h.assoc iq (hφ _) (hφ y),<-ih _ _ eV hy.2,<-h.assoc fY iq (hφ _),zCA h hg]
  rw[dT];simp only[mul];split
  ·rename_i hge
   rw[tD h hg mW,ih _ _ hw (hmP eV hy.2),<-eO,<-h.assoc (wO h hg _) (wO h hg _) (hφ _),<-zCA h hg]
   congr 2
   omega
  ·rw[tD h hg mW]
   congr 2
   omega
end
def wL(n j:Nat):Vec:=(zeros n).set j 1
def sig(P:Pcp)(l:Lvl)(v:Vec):Vec:=img (mul P) l.cs v (zeros P.length)
def xS:Pcp->Prop
 | []=>True
 |l::P=>xS P/\Rel (mul P) (zeros P.length) P l.cs/\sig P l l.w=l.w/\ ∀j,j<P.length->mul P l.w (iter l.o.toNat (sig P l) (wL P.length j))=mul P (wL P.length j) l.w
theorem zDh(n:Nat):wL (n+1) 0=1::zeros n:=rfl
theorem zF7(n j:Nat):wL (n+1) (j+1)=0::wL n j:=rfl
def wI(n:Nat):List Vec:=(Ju n).map (wL n)
theorem zN6(n:Nat):wI (n+1)=(1::zeros n)::(wI n).map (0::·):=by
 simp only[wI,Ja2,Jr,Q5,zDh]
 congr 1
theorem zCB:∀{P:Pcp},Ok P-> ∀{j:Nat},j<P.length->V P (wL P.length j)
 | [],_,_,hj=>by simp at hj
 |l::P,h,0,_=>by grind[Ok,zDh,V,xT]
 |l::P,h,j+1,hj=>by simp only[Ok]at h;rw[J8,zF7];simp only[V];exact⟨by omega,zCB h.2.2.2.2 (by grind)⟩
theorem zAh{l:Lvl}{P:Pcp}(h:Ok (l::P)){v:Vec}(_hv:V P v):V P (sig P l v):=by simp only[Ok]at h;exact kR (yT h.2.2.2.2) l.cs v h.2.2.2.1 (xT h.2.2.2.2)
theorem yN(l:Lvl)(P:Pcp)(a b:Int)(x y:Vec):mul (l::P) (a::x) (b::y)=if a+b>=l.o then(a+b-l.o)::mul P l.w (mul P (iter b.toNat (sig P l) x) y)else(a+b)::mul P (iter b.toNat (sig P l) x) y:=rfl
theorem zQB{n:Nat}{c:Vec}(h:(wI n)[k]? =Wu c):k<n/\c=wL n k:=by
 simp only[wI,Jn,Kg]at h
 grind
theorem normal:∀(P:Pcp),Ok P->(∀Q,Q<:+P->Mon (V Q) (mul Q) (zeros Q.length))-> ∀x,V P x->img (mul P) (wI P.length) x (zeros P.length)=x
 | [],_,_,x,hx=>by grind[V,img,zeros]
 |l::P,_,_,[],hx=>by grind[V]
 |l::P,h,hM,a::x,hx=>by
  have hMl:=hM (l::P) (List.suffix_refl _);have hMP:=hM P (by simp);have h':=h;simp only[Ok]at h;simp only[V]at hx;rw[J8,zN6];have hz:V P (zeros P.length):=xT h.2.2.2.2;have ii:V (l::P) (1::zeros P.length):=by grind[V]
  have fQ:∀c∈(wI P.length).map (0::·),V (l::P) c:=by
   intro c hc;simp only[wI,Q5,Jq,Ll]at hc;obtain⟨j,hj,rfl⟩:=hc;simp only[Function.comp,V]
   grind[zCB]
  have pb:V (l::P) (zeros (P.length+1)):=by grind[xT]
  rw[show zeros (P.length+1)=zeros (l::P).length from rfl];rw[tD hMl ii fQ];have sz:∀k:Nat,iter k (sig P l) (zeros P.length)=zeros P.length:=by
   intro k
   induction k with
   |zero=>rfl
   |succ k ih=>grind[iter,sig,uD]
  have h1:∀k:Nat,(k:Int)<l.o->pw (mul (l::P)) (zeros (l::P).length) (1::zeros P.length) k=(k:Int)::zeros P.length:=by
   intro k
   induction k with
   |zero=>intro _;rfl
   |succ k ih=>
    intro hk;rw[pw,wG];show mul (l::P) (pw (mul (l::P)) (zeros (l::P).length) (1::zeros P.length) k) (1::zeros P.length)=_;rw[ih (by omega),yN,if_neg (by omega)];rw[sz,hMP.onel hz];rfl
  have h2:∀(cs:List Vec)(y acc:Vec),(∀c∈cs,V P c)->V P acc->img (mul (l::P)) (cs.map (0::·)) y (0::acc)=0::img (mul P) cs y acc:=by
   intro cs
   induction cs with
   |nil=>grind[img]
   |cons c cs ih=>
    intro y acc hc hacc;cases y with
    |nil=>simp[img]
    |cons z y=>
     have fw:V P c:=hc c (by simp);have it:∀(k:Nat)(acc:Vec),V P acc->iter k (fun v=>mul (l::P) v (0::c)) (0::acc)=0::iter k (fun v=>mul P v c) acc:=by
      intro k
      induction k with
      |zero=>intro _ _;rfl
      |succ k ihk=>
       intro acc hacc;simp only[iter];rw[yN,if_neg (by omega)];exact ihk _ (yT h.2.2.2.2 hacc fw)
     simp only[Jr,img];rw[it _ _ hacc,ih _ _ (by grind) (tA (by grind[yT]) _ hacc)]
  have fV:∀c∈wI P.length,V P c:=by
   intro c hc;simp only[wI,Jq,Ll]at hc;obtain⟨j,hj,rfl⟩:=hc
   grind[zCB]
  rw[h1 a.toNat (by omega),show zeros (l::P).length=0::zeros P.length from rfl,h2 _ _ _ fV hz,normal P h.2.2.2.2 (by grind) x hx.2,yN,if_neg (by omega)];simp only[H6,iter];rw[hMP.onel hx.2]
  grind
theorem zAo:∀(P:Pcp),Ok P->xS P->Grp (V P) (mul P) (zeros P.length)
 | [],_,_=>by
  refine⟨⟨fun _ _=>rfl,rfl,fun _ _ _=>rfl,?_,?_⟩,fun ha=>⟨[],rfl,rfl⟩⟩<;>
  ·intro a ha
   simp only[V]at ha;subst ha;rfl
 |l::P,h,hc=>by
  have h':=h;simp only[Ok]at h;simp only[xS]at hc;obtain⟨ho,hw,gF,eu,hP⟩:=h;obtain⟨VZ,bK,ue,uc⟩:=hc;have N:=zAo P hP VZ;have hM:∀Q,Q<:+P->Mon (V Q) (mul Q) (zeros Q.length):=by
   intro Q hQ;obtain⟨t,ht⟩:=hQ;have:Ok Q/\xS Q:=by
    clear N hw gF eu bK ue uc h'
    induction t generalizing P with
    |nil=>grind
    |cons a t ih=>
     simp at ht;subst ht;simp only[Ok]at hP;simp only[xS]at VZ
     grind
   have gI:SizeOf.sizeOf Q<=SizeOf.sizeOf P:=by
    rw[<-ht]
    clear N hw gF eu bK ue uc h' hP VZ ht this
    induction t with
    |nil=>simp
    |cons a t ih=>grind
   exact(zAo Q this.1 this.2).toMon
  have hz:V P (zeros P.length):=xT hP;have σin:∀v,V P v->V P (sig P l v):=by grind[zAh]
  have σhom:∀x y,V P x->V P y->sig P l (mul P x y)=mul P (sig P l x) (sig P l y):=fun x y hx hy=>zZN N.toMon P l.cs hP eu bK x y hx hy
  have σz:sig P l (zeros P.length)=zeros P.length:=uD _ _ _ _;have itin:∀(k:Nat) v,V P v->V P (iter k (sig P l) v):=fun k v hv=>tA σin k hv
  have ithom:∀(k:Nat) x y,V P x->V P y->iter k (sig P l) (mul P x y)=mul P (iter k (sig P l) x) (iter k (sig P l) y):=by
   intro k
   induction k with
   |zero=>intro _ _ _ _;rfl
   |succ k ih=>simp_all[iter]
  have itz:∀k:Nat,iter k (sig P l) (zeros P.length)=zeros P.length:=by
   intro k
   induction k with
   |zero=>rfl
   |succ k ih=>grind[iter]
  have itw:∀k:Nat,iter k (sig P l) l.w=l.w:=by
   intro k
   induction k with
   |zero=>rfl
   |succ k ih=>grind[iter]
  have fV:∀c∈wI P.length,V P c:=by
   intro c hc;simp only[wI,Jq,Ll]at hc;obtain⟨j,hj,rfl⟩:=hc
   grind[zCB]
  have inner:∀x,V P x->mul P x l.w=mul P l.w (iter l.o.toNat (sig P l) x):=by
   intro x hx;have hnf:=normal P hP hM x hx;have pQ:=zDg N.toMon N.toMon (iter l.o.toNat (sig P l)) (by grind) (itz _) (by grind) (wI P.length) x fV;rw[<-hnf,pQ];refine zHA N.toMon hw _ _ x fV (by simp_all) (by simp) ?_;intro k c d hc hd;rw[Jn,Kg]at hd;obtain⟨c',mM,rfl⟩:=hd;rw[hc]at mM;simp at mM;subst mM;obtain⟨hk,rfl⟩:=zQB hc
   grind
  have e:∀(x y z:Vec)(b c:Int),V P x->V P y->V P z->0<=b->0<=c->
    mul P (iter c.toNat (sig P l) (mul P (iter b.toNat (sig P l) x) y)) z=mul P (iter (b+c).toNat (sig P l) x) (mul P (iter c.toNat (sig P l) y) z)/\
    mul P (iter c.toNat (sig P l) (mul P l.w (mul P (iter b.toNat (sig P l) x) y))) z=mul P l.w (mul P (iter (b+c).toNat (sig P l) x) (mul P (iter c.toNat (sig P l) y) z))/\
    (l.o<=b+c->mul P (iter (b+c-l.o).toNat (sig P l) x) (mul P l.w (mul P (iter c.toNat (sig P l) y) z))=mul P l.w (mul P (iter (b+c).toNat (sig P l) x) (mul P (iter c.toNat (sig P l) y) z))):=by
   intro x y z b c hx hy hz hb hcc;have Wa:=itin b.toNat x hx;have hcy:=itin c.toNat y hy;have hbc:iter c.toNat (sig P l) (iter b.toNat (sig P l) x)=iter (b+c).toNat (sig P l) x:=by rw[<-zE1];congr 1;omega
   have Wb:=itin (b+c).toNat x hx;have e1:mul P (iter c.toNat (sig P l) (mul P (iter b.toNat (sig P l) x) y)) z=mul P (iter (b+c).toNat (sig P l) x) (mul P (iter c.toNat (sig P l) y) z):=by rw[ithom _ _ _ Wa hy,hbc,N.assoc Wb hcy hz]
   refine⟨e1,?_,?_⟩
   ·rw[ithom _ _ _ hw (N.cl Wa hy),itw,N.assoc hw (itin _ _ (N.cl Wa hy)) hz,e1]
   ·intro hge
    have uh:=N.cl hcy hz;rw[<-N.assoc (itin _ x hx) hw uh,inner _ (itin _ x hx),<-zE1,N.assoc hw (itin _ x hx) uh]
    congr 3
    omega
  refine⟨⟨by grind[yT],xT h',?_,?_,?_⟩,?_⟩
  ·intro A B C hA hB hC
   match A,B,C,hA,hB,hC with
   |a::x,b::y,c::z,hA,hB,hC=>
    simp only[V]at hA hB hC;obtain⟨e1,e2,e3⟩:=e x y z b c hA.2 hB.2 hC.2 hB.1.1 hC.1.1
    by_cases c1:a+b>=l.o<;>by_cases c2:b+c>=l.o
    ·rw[yN,if_pos c1,yN l P b c,if_pos c2,yN,yN,e2,e3 c2]
     grind
    ·rw[yN,if_pos c1,yN l P b c,if_neg c2,yN,yN,e2,if_neg (by omega),if_pos (by omega)]
     grind
    ·rw[yN,if_neg c1,yN l P b c,if_pos c2,yN,yN,e1,e3 c2,if_pos (by omega),if_neg (by omega)]
     grind
    ·rw[yN,if_neg c1,yN l P b c,if_neg c2,yN,yN,e1]
     grind
  ·intro A hA
   match A,hA with
   |a::x,hA=>
    simp only[V]at hA;show mul (l::P) (0::zeros P.length) (a::x)=_;rw[yN,if_neg (by omega),itz,N.onel hA.2,L5]
  ·intro A hA
   match A,hA with
   |a::x,hA=>
    simp only[V]at hA;show mul (l::P) (a::x) (0::zeros P.length)=_;rw[yN,if_neg (by omega)];simp only[H6,iter];rw[N.oner hA.2,Kf]
  ·intro A hA
   match A,hA with
   |a::x,hA=>
    simp only[V]at hA
    by_cases ha:a=0
    ·obtain⟨y,hy,h1⟩:=N.inv hA.2
     refine⟨0::y,by simp only[V];grind,?_⟩;rw[yN,if_neg (by omega)];simp only[H6,iter];rw[h1,ha];rfl
    ·have aS:=itin (l.o-a).toNat x hA.2
     obtain⟨y,hy,h1⟩:=N.inv (N.cl hw aS);refine⟨(l.o-a)::y,by simp only[V];grind,?_⟩;rw[yN,if_pos (by omega),<-N.assoc hw aS hy,h1,show a+(l.o-a)-l.o=0 by omega];rfl
termination_by P=>P
structure Fil {α:Type} (S:α->Prop) (m:α->α->α) (e:α) (n:Nat) (o:Nat->Int) (co:α->Nat->Int):Prop where
 g:Grp S m e
 r:∀{a d},S a->d<n->0<=co a d/\co a d<o d
 e0:∀{d},d<n->co e d=0
 ex:∀{a b},S a->S b->(∀d,d<n->co a d=co b d)->a=b
 ad:∀{a b d},S a->S b->d<n->(∀j,j<d->co b j=0)->(∀j,j<d->co (m a b) j=co a j)/\co (m a b) d=(co a d+co b d)%o d
inductive Gen {α:Type} (S:α->Prop) (m:α->α->α) (e:α) (X:α->Prop):α->Prop
 |one:Gen S m e X e
 |x {a}:X a->Gen S m e X a
 |m {a b}:Gen S m e X a->Gen S m e X b->Gen S m e X (m a b)
 |i {a b}:Gen S m e X a->S b->m a b=e->Gen S m e X b
section
variable {α:Type}{S:α->Prop}{m:α->α->α}{e:α}{X Y:α->Prop}
theorem Gen.to(h:∀a,X a->Gen S m e Y a){a:α}(ha:Gen S m e X a):Gen S m e Y a:=by
 induction ha with
 |one=>exact .one
 |x hx=>exact h _ hx
 |m _ _ h1 h2=>exact .m h1 h2
 |i _ hb hh h1=>exact .i h1 hb hh
theorem Gen.mono(h:∀a,X a->Y a){a:α}(ha:Gen S m e X a):Gen S m e Y a:=ha.to fun _ h'=>.x (h _ h')
theorem Gen.pw{a:α}(ha:Gen S m e X a):∀k,Gen S m e X (pw m e a k)
 |0=>.one
 |k+1=>by rw[Pc.pw,wG];exact .m (ha.pw k) ha
variable (g:Grp S m e)
 include g
theorem Gen.in(hX:∀a,X a->S a){a:α}(ha:Gen S m e X a):S a:=by
 induction ha with
 |one=>exact g.ein
 |x hx=>exact hX _ hx
 |m _ _ h1 h2=>exact g.cl h1 h2
 |i _ hb _ _=>exact hb
theorem Grp.inv_l{a b:α}(ha:S a)(hb:S b)(h:m a b=e):m b a=e:=by obtain⟨c,hc,h1,h2⟩:=g.invl ha;rw[show b=c from g.cancel_l ha hb hc (h.trans h1.symm)];exact h2
theorem Gen.left(hX:∀a,X a->S a){a b:α}(ha:S a)(hb:Gen S m e X b)(h:Gen S m e X (m a b)):Gen S m e X a:=by
 have iA:=hb.in g hX;obtain⟨c,hc,h1,_⟩:=g.invl iA;have:=Gen.m h (.i hb hc h1)
 rwa [g.assoc ha iA hc,h1,g.oner ha]at this
theorem Gen.right(hX:∀a,X a->S a){a b:α}(ha:Gen S m e X a)(hb:S b)(h:Gen S m e X (m a b)):Gen S m e X b:=by
 have has:=ha.in g hX;obtain⟨c,hc,h1,h2⟩:=g.invl has;have:=Gen.m (.i ha hc h1) h
 rwa [<-g.assoc hc has hb,h2,g.onel hb]at this
end
section
variable {α:Type}{S:α->Prop}{m:α->α->α}{e:α}{n:Nat}{o:Nat->Int}{co:α->Nat->Int} (F:Fil S m e n o co)
 include F
theorem Fil.dm{a b:α}(hd:d<=n)(ha:S a)(hb:S b)(za:∀j,j<d->co a j=0)(zb:∀j,j<d->co b j=0):∀j,j<d->co (m a b) j=0:=fun j hj=>by have h:=(F.ad ha hb (by omega:j<n) fun i hi=>zb i (by omega)).2;rw[h,za j hj,zb j hj];simp
theorem Fil.md{x:Int}(hd:d<n){a:α}(ha:S a)(h:co a d=x):x%o d=x:=by have:=F.r ha hd;rw[<-h];exact Jo this.1 this.2
theorem Fil.pwc{t:α}{d:Nat}(hd:d<n)(ht:S t)(zt:∀j,j<d->co t j=0):∀k,(∀j,j<d->co (pw m e t k) j=0)/\co (pw m e t k) d=(k*co t d)%o d
 |0=>⟨fun j hj=>F.e0 (by omega),by rw[pw,iter,F.e0 hd];simp⟩
 |k+1=>by
  have ih:=Fil.pwc hd ht zt k;have hp:=wO F.g.toMon ht k;have e1:pw m e t (k+1)=m (pw m e t k) t:=by rw[pw,wG];rfl
  have h:=F.ad hp ht hd zt;rw[e1];refine⟨fun j hj=>(h.1 j hj).trans (ih.1 j hj),?_⟩;rw[h.2,ih.2,Gk]
  congr 1
  rw[Int.natCast_succ,Int.add_mul,Uy]
theorem Fil.cmd{a b w:α}(hk:k<n)(ha:S a)(hb:S b)(hw:S w)(za:∀j,j<k->co a j=0)(zb:∀j,j<k+1->co b j=0)(h:m (m b a) w=m a b\/m (m a b) w=m b a):∀j,j<k+1->co w j=0:=by
 have e1:∀j,j<k+1->co (m b a) j=co a j:=fun j hj=>by have h:=(F.ad hb ha (by omega:j<n) fun i hi=>za i (by omega)).2;rw[h,zb j hj,L5];exact F.md (by omega) ha rfl
 have e2:∀j,j<k+1->co (m a b) j=co a j:=fun j hj=>by have h:=(F.ad ha hb (by omega:j<n) fun i hi=>zb i (by omega)).2;rw[h,zb j hj,Kf];exact F.md (by omega) ha rfl
 intro j
 induction j using U4 with
 |ind j ih=>
  intro hj;have ph:j<n:=by omega
  have hr:=F.r ha ph;have pZ:=F.r hw ph;have key:(co a j+co w j)%o j=co a j:=by
   rcases h with h|h
   ·have h1:=(F.ad (F.g.cl hb ha) hw ph fun i hi=>ih i hi (by omega)).2
    rw[h,e2 j hj,e1 j hj]at h1;exact h1.symm
   ·have h1:=(F.ad (F.g.cl ha hb) hw ph fun i hi=>ih i hi (by omega)).2
    rw[h,e1 j hj,e2 j hj]at h1;exact h1.symm
  by_cases g:co a j+co w j<o j
  ·rw[Jo (by omega) g]at key;omega
  ·rw[<-Uc,Jo (by omega) (by omega)]at key;omega
structure Tab (S:α->Prop) (n:Nat) (co:α->Nat->Int) (T:Nat->Option α):Prop where
 h:∀{k t},T k=Wu t->k<n/\S t/\(∀j,j<k->co t j=0)/\co t k=1
def GX(n:Nat)(co:α->Nat->Int)(T:Nat->Option α)(Q:List α)(k:Nat)(a:α):Prop:=(∃j,k<=j/\T j=Wu a)\/(a∈Q/\ ∀j,j<k->j<n->co a j=0)
 omit F in
theorem GX.s{T:Nat->Option α}{Q:List α}(hT:Tab S n co T)(hQ:∀a∈Q,S a):∀a,GX n co T Q k a->S a
  |_,.inl ⟨_,_,h⟩=>(hT.h h).2.1
  |a,.inr h=>hQ a h.1
section
variable {T:Nat->Option α} (hT:Tab S n co T)
structure Clo (S:α->Prop) (m:α->α->α) (e:α) (n:Nat) (o:Nat->Int) (co:α->Nat->Int) (T:Nat->Option α) (Q:List α):Prop where
 p:∀{k t},T k=Wu t->Gen S m e (GX n co T Q (k+1)) (pw m e t (o k).toNat)
 c:∀{k j t u},T k=Wu t->T j=Wu u->k<j-> ∃c,Gen S m e (GX n co T Q (k+1)) c/\m u t=m t c
variable (hC:Clo S m e n o co T [])
 include hT hC
theorem Clo.conj{t:α}(ht:T k=Wu t){y:α}(hy:Gen S m e (GX n co T [] (k+1)) y):∃c,Gen S m e (GX n co T [] (k+1)) c/\m y t=m t c:=by
 have eL:=(hT.h ht).2.1;have hG:∀{a},Gen S m e (GX n co T [] (k+1)) a->S a:=fun h=>h.in F.g (GX.s hT (by simp))
 induction hy with
 |one=>exact⟨e,.one,by rw[F.g.onel eL,F.g.oner eL]⟩
 |x hx=>
  rcases hx with⟨j,h1,h2⟩|⟨h,_⟩
  ·exact hC.c ht h2 (by omega)
  ·simp at h
 | @m a b ga gb ha hb=>
  obtain⟨c,c1,c2⟩:=ha;obtain⟨d,d1,d2⟩:=hb;refine⟨m c d,.m c1 d1,?_⟩;rw[F.g.assoc (hG ga) (hG gb) eL,d2,<-F.g.assoc (hG ga) eL (hG d1),c2,F.g.assoc eL (hG c1) (hG d1)]
 | @i a b ga hb hh ha=>
  obtain⟨c,c1,c2⟩:=ha;obtain⟨d,d1,d2,_⟩:=F.g.invl (hG c1);have hl:=F.g.inv_l (hG ga) hb hh;refine⟨d,.i c1 d1 d2,F.g.cancel_l (hG ga) (F.g.cl hb eL) (F.g.cl eL d1) ?_⟩;rw[<-F.g.assoc (hG ga) hb eL,hh,F.g.onel eL,<-F.g.assoc (hG ga) eL d1,c2,F.g.assoc eL (hG c1) d1,d2,F.g.oner eL]
theorem Clo.conjs{k:Nat}{t:α}(ht:T k=Wu t):∀(a:Nat){y:α},Gen S m e (GX n co T [] (k+1)) y-> ∃c,Gen S m e (GX n co T [] (k+1)) c/\m y (pw m e t a)=m (pw m e t a) c
 |0,y,hy=>⟨y,hy,by have:=hy.in F.g (GX.s hT (by simp));show m y e=m e y;rw[F.g.onel this,F.g.oner this]⟩
 |a+1,y,hy=>by
  have hG:∀{a},Gen S m e (GX n co T [] (k+1)) a->S a:=fun h=>h.in F.g (GX.s hT (by simp))
  have eL:=(hT.h ht).2.1;obtain⟨c,c1,c2⟩:=Clo.conjs ht a hy;obtain⟨d,d1,d2⟩:=Clo.conj F hT hC ht c1;have hp:=wO F.g.toMon eL a;refine⟨d,d1,?_⟩;rw[show pw m e t (a+1)=m (pw m e t a) t from by rw[pw,wG];rfl,<-F.g.assoc (hG hy) hp eL,c2,F.g.assoc hp (hG c1) eL,d2,F.g.assoc hp eL (hG d1)]
theorem Clo.pws{k:Nat}{t:α}(ht:T k=Wu t):∀N:Nat,Gen S m e (GX n co T [] (k+1)) (pw m e t (N*(o k).toNat))
 |0=>by rw[Nat.zero_mul];exact .one
 |N+1=>by rw[Lo,zCA F.g.toMon (hT.h ht).2.1];exact .m (Clo.pws ht N) (hC.p ht)
theorem Clo.form{t:α}(ht:T k=Wu t){x:α}(hx:Gen S m e (GX n co T [] k) x):∃(a:Nat)(y:α),Gen S m e (GX n co T [] (k+1)) y/\x=m (pw m e t a) y:=by
 have eL:=(hT.h ht).2.1;have hG:∀{j a},Gen S m e (GX n co T [] j) a->S a:=fun h=>h.in F.g (GX.s hT (by simp))
 have hP:=fun a=>wO F.g.toMon eL a
 induction hx with
 |one=>exact⟨0,e,.one,(F.g.onel F.g.ein).symm⟩
 | @x a hx=>
  rcases hx with⟨j,h1,h2⟩|⟨h,_⟩
  ·by_cases hj:j=k
   ·subst hj
    rw[ht]at h2;cases h2;exact⟨1,e,.one,by rw[zN5 F.g.toMon eL,F.g.oner eL]⟩
   ·exact⟨0,a,.x (.inl ⟨j,by omega,h2⟩),(F.g.onel (hT.h h2).2.1).symm⟩
  ·simp at h
 | @m a b _ _ ha hb=>
  obtain⟨i,y,hy,rfl⟩:=ha;obtain⟨j,z,hz,rfl⟩:=hb;obtain⟨c,c1,c2⟩:=Clo.conjs F hT hC ht j hy;refine⟨i+j,m c z,.m c1 hz,?_⟩;rw[zCA F.g.toMon eL,F.g.assoc (hP i) (hG hy) (F.g.cl (hP j) (hG hz)),<-F.g.assoc (hG hy) (hP j) (hG hz),c2,F.g.assoc (hP j) (hG c1) (hG hz),F.g.assoc (hP i) (hP j) (F.g.cl (hG c1) (hG hz))]
 | @i a b ga hb hh ha=>
  obtain⟨i,y,hy,rfl⟩:=ha;obtain⟨y',y1,y2,_⟩:=F.g.invl (hG hy);have ho:1<=(o k).toNat:=by have:=F.r eL (hT.h ht).1;omega
  have fR:i<=i*(o k).toNat:=Nat.le_mul_of_pos_right i ho;have e1:i*(o k).toNat=i+(i*(o k).toNat-i):=by omega
  have hw:=Clo.pws F hT hC ht i;obtain⟨w,w1,w2,_⟩:=F.g.invl (hG hw);obtain⟨c,c1,c2⟩:=Clo.conjs F hT hC ht (i*(o k).toNat-i) (.i hy y1 y2);refine⟨i*(o k).toNat-i,m c w,.m c1 (.i hw w1 w2),?_⟩;refine F.g.cancel_l (F.g.cl (hP i) (hG hy)) hb (F.g.cl (hP _) (F.g.cl (hG c1) w1)) ?_;rw[hh,<-F.g.assoc (hP _) (hG c1) w1,<-c2,F.g.assoc y1 (hP _) w1,F.g.assoc (hP i) (hG hy) (F.g.cl y1 (F.g.cl (hP _) w1)),<-F.g.assoc (hG hy) y1 (F.g.cl (hP _) w1),y2,F.g.onel (F.g.cl (hP _) w1),<-F.g.assoc (hP i) (hP _) w1,<-zCA F.g.toMon eL,<-e1,w2]
theorem Clo.depth:∀(l k:Nat),k+l=n-> ∀{x:α},Gen S m e (GX n co T [] k) x->(∀j,j<k->co x j=0)->x≠e-> ∃j,k<=j/\j<n/\(T j).isSome=Ww/\(∀i,i<j->co x i=0)/\co x j≠0
 |0,k,hk,x,hx,hz,gf=>by
  have hG:∀{j a},Gen S m e (GX n co T [] j) a->S a:=fun h=>h.in F.g (GX.s hT (by simp))
  exact absurd (F.ex (hG hx) F.g.ein fun d hd=>by rw[hz d (by omega),F.e0 hd]) gf
 |l+1,k,hk,x,hx,hz,gf=>by
  have hG:∀{j a},Gen S m e (GX n co T [] j) a->S a:=fun h=>h.in F.g (GX.s hT (by simp))
  have ci:k<n:=by omega
  have deep:∀{y},Gen S m e (GX n co T [] (k+1)) y-> ∀j,j<k+1->co y j=0:=fun{y} hy=>by
   induction hy with
   |one=>exact fun j hj=>F.e0 (by omega)
   |x hx=>
    rcases hx with⟨j,h1,h2⟩|⟨h,_⟩
    ·exact fun i hi=>(hT.h h2).2.2.1 i (by omega)
    ·simp at h
   |m ga gb ha hb=>exact F.dm (by omega) (hG ga) (hG gb) ha hb
   | @i a b ga hb hh ha=>
    intro j
    induction j using U4 with
    |ind j ih=>
     intro hj;have h1:=(F.ad (hG ga) hb (by omega:j<n) fun i hi=>ih i hi (by omega)).2;rw[hh,F.e0 (by omega),ha j hj,L5]at h1;rw[<-F.md (by omega) hb rfl];exact h1.symm
  have next:Gen S m e (GX n co T [] (k+1)) x-> ∃j,k<=j/\j<n/\(T j).isSome=Ww/\(∀i,i<j->co x i=0)/\co x j≠0:=fun h=>by obtain⟨j,j1,j2⟩:=Clo.depth l (k+1) (by omega) h (deep h) gf;exact⟨j,by omega,j2⟩
  cases ht:T k with
  |none=>
   refine next (hx.mono fun a ha=>?_);rcases ha with⟨j,h1,h2⟩|⟨h,_⟩
   ·by_cases hj:j=k
    ·subst hj;rw[ht]at h2;cases h2
    ·exact .inl ⟨j,by omega,h2⟩
   ·simp at h
  |some t=>
   by_cases h0:co x k=0
   ·obtain⟨a,y,hy,rfl⟩:=Clo.form F hT hC ht hx
    have dl:=hT.h ht;have hp:=F.pwc ci dl.2.1 dl.2.2.1 a;have h1:=(F.ad (wO F.g.toMon dl.2.1 a) (hG hy) ci fun j hj=>deep hy j (by omega)).2;rw[h0,deep hy k (by omega),hp.2,dl.2.2.2,Kf,Kz,K2]at h1;have ho:=F.r dl.2.1 ci;have hd:(o k).toNat∣a:=by have:=Int.dvd_of_emod_eq_zero h1.symm;rw[show o k=((o k).toNat:Int)from by omega]at this;exact Int.natCast_dvd_natCast.1 this
    obtain⟨N,rfl⟩:=hd;rw[Nat.mul_comm]at next ⊢
    exact next (.m (Clo.pws F hT hC ht N) hy)
   ·exact⟨k,J9 _,ci,by rw[ht];rfl,hz,h0⟩
end
structure Can (S:α->Prop) (n:Nat) (co:α->Nat->Int) (H:α->Prop) (C:Nat->Option α):Prop where
 i:∀{k t},C k=Wu t->k<n/\H t/\S t/\(∀j,j<k->co t j=0)/\co t k=1/\ ∀j,k<j->j<n->(C j).isSome=Ww->co t j=0
 d:∀{x},H x->x≠e-> ∃j,j<n/\(C j).isSome=Ww/\(∀i,i<j->co x i=0)/\co x j≠0
theorem Can.uniq{H:α->Prop}(hm:∀{a b},H a->H b->H (m a b))(hi:∀{a b},H a->S b->m a b=e->H b){C D:Nat->Option α}(hC:Can (e:=e) S n co H C)(hD:Can (e:=e) S n co H D):∀k,C k=D k:=by
 have ae:∀{C D:Nat->Option α},Can (e:=e) S n co H C->Can (e:=e) S n co H D-> ∀k,(C k).isSome=Ww->(D k).isSome=Ww:=fun{C D} hC hD k hk=>by
  obtain⟨t,ht⟩:=Uz.1 hk;obtain⟨a1,a2,a3,a4,a5,_⟩:=hC.i ht;obtain⟨j,j1,j2,j3,j4⟩:=hD.d a2 fun h=>by rw[h,F.e0 a1]at a5;cases a5
  rcases Hh j k with h|h|h
  ·exact absurd (a4 j h) j4
  ·rwa [<-h]
  ·have:=j3 k h;omega
 intro k;cases hc:C k with
 |none=>
  cases hd:D k with
  |none=>rfl
  |some u=>
   have:=ae hD hC k (by rw[hd];rfl);rw[hc]at this;cases this
 |some t=>
  cases hd:D k with
  |none=>
   have:=ae hC hD k (by rw[hc];rfl);rw[hd]at this;cases this
  |some u=>
   obtain⟨a1,a2,a3,a4,a5,a6⟩:=hC.i hc;obtain⟨_,b2,b3,b4,b5,b6⟩:=hD.i hd;obtain⟨t',t1,t2,t3⟩:=F.g.invl a3;have hh:H (m t' u):=hm (hi a2 t1 t2) b2;have hhs:S (m t' u):=F.g.cl t1 b3;have e1:m t (m t' u)=u:=by rw[<-F.g.assoc a3 t1 b3,t2,F.g.onel b3]
   have same:∀j,j<n->(C j).isSome=Ww->co t j=co u j:=fun j hj mJ=>by
    rcases Hh j k with h|h|h
    ·rw[a4 j h,b4 j h]
    ·rw[h,a5,b5]
    ·rw[a6 j h hj mJ,b6 j h hj (ae hC hD j mJ)]
   have hz:m t' u=e:=by
    refine Classical.byContradiction fun gf=>?_
    obtain⟨j,j1,j2,j3,j4⟩:=hC.d hh gf;have h1:=(F.ad a3 hhs j1 j3).2;rw[e1,<-same j j1 j2]at h1;have r1:=F.r a3 j1;have r2:=F.r hhs j1
    by_cases g:co t j+co (m t' u) j<o j
    ·rw[Jo (by omega) g]at h1;omega
    ·rw[<-Uc,Jo (by omega) (by omega)]at h1;omega
   rw[hz,F.g.oner a3]at e1;rw[e1]
end
section
variable {α:Type}{S:α->Prop}{m:α->α->α}{e:α}{n:Nat}{o:Nat->Int}{co:α->Nat->Int}
def Dp(n:Nat)(co:α->Nat->Int)(k:Nat)(a:α):Prop:=∀j,j<k->j<n->co a j=0
theorem Gen.tr{T T':Nat->Option α}{Q Q':List α}(hT:∀k t,T k=Wu t->T' k=Wu t)(hq:∀a∈Q,∀k,Dp n co k a->Gen S m e (GX n co T' Q' k) a){a:α}(h:Gen S m e (GX n co T Q k) a):Gen S m e (GX n co T' Q' k) a:=
 h.to fun a ha=>by
  rcases ha with⟨j,h1,h2⟩|⟨h1,h2⟩
  ·exact .x (.inl ⟨j,h1,hT _ _ h2⟩)
  ·exact hq a h1 k h2
structure Wl (S:α->Prop) (m:α->α->α) (e:α) (n:Nat) (o:Nat->Int) (co:α->Nat->Int) (L:α->Prop) (T:Nat->Option α) (Q:List α):Prop where
 t:Tab S n co T
 th:∀{k t},T k=Wu t->Gen S m e L t
 q:∀a∈Q,S a/\Gen S m e L a
 g:∀a,L a->Gen S m e (GX n co T Q 0) a
 c:Clo S m e n o co T Q
theorem Wl.start(L:List α)(hL:∀a∈L,S a):Wl S m e n o co (· ∈L) (fun _=>Wv) L:=
 ⟨⟨fun h=>by cases h⟩,(fun h=>by cases h),(fun a h=>⟨hL a h,.x h⟩),(fun a h=>.x (.inr ⟨h,fun j hj=>by omega⟩)),⟨(fun h=>by cases h),(fun h=>by cases h)⟩⟩
theorem Wl.drop{L:α->Prop}{T:Nat->Option α}{Q Q':List α}(h:Wl S m e n o co L T Q){x:α}(hx:∀k,Dp n co k x->Gen S m e (GX n co T Q' k) x)(h1:∀a∈Q',a∈Q)(h2:∀a∈Q,a=x\/a∈Q'):Wl S m e n o co L T Q':=by
 have tr:∀{k a},Gen S m e (GX n co T Q k) a->Gen S m e (GX n co T Q' k) a:=fun g=>g.tr (fun _ _ h=>h) fun a ha k hk=>by
  rcases h2 a ha with rfl|h
  ·exact hx k hk
  ·exact .x (.inr ⟨h,hk⟩)
 exact⟨h.t,h.th,fun a ha=>h.q a (h1 a ha),fun a ha=>tr (h.g a ha),⟨fun ht=>tr (h.c.p ht),fun a b c=>by obtain⟨w,w1,w2⟩:=h.c.c a b c;exact⟨w,tr w1,w2⟩⟩⟩
variable (F:Fil S m e n o co)
 include F
theorem Wl.add{L:α->Prop}{T:Nat->Option α}{Q Q':List α}(h:Wl S m e n o co L T Q){x y:α}(hd:d<n)(hTd:T d=Wv)(hy:S y)(pm:Gen S m e L y)(zy:∀j,j<d->co y j=0)(oy:co y d=1)
  (hx:∀k,Dp n co k x->Gen S m e (GX n co (fun j=>if j=d then Wu y else T j) Q' k) x)(hq:∀a∈Q',S a/\Gen S m e L a)(h2:∀a∈Q,a=x\/a∈Q')
  (hp:pw m e y (o d).toNat∈Q')(hc:∀k u,T k=Wu u-> ∃w,w∈Q'/\(m (m u y) w=m y u\/m (m y u) w=m u y)):Wl S m e n o co L (fun j=>if j=d then Wu y else T j) Q':=by
 have hT:∀k t,T k=Wu t->(fun j=>if j=d then Wu y else T j) k=Wu t:=fun k t hk=>by
  show(if k=d then Wu y else T k)=Wu t;rw[if_neg]
  ·exact hk
  ·intro g;rw[g,hTd]at hk;cases hk
 have mP:Tab S n co (fun j=>if j=d then Wu y else T j):=⟨fun{k t} hk=>by
  replace hk:(if k=d then Wu y else T k)=Wu t:=hk
  split at hk
  ·rename_i g;cases hk;subst g;exact⟨hd,hy,zy,oy⟩
  ·exact h.t.h hk⟩
 have hS:∀{k a},Gen S m e (GX n co (fun j=>if j=d then Wu y else T j) Q' k) a->S a:=fun g=>g.in F.g (GX.s mP fun a ha=>(hq a ha).1)
 have tr:∀{k a},Gen S m e (GX n co T Q k) a->Gen S m e (GX n co (fun j=>if j=d then Wu y else T j) Q' k) a:=fun g=>g.tr hT fun a ha k hk=>by
  rcases h2 a ha with rfl|h
  ·exact hx k hk
  ·exact .x (.inr ⟨h,hk⟩)
 have new:∀{k j t u w},k<n->S t->S u->(∀i,i<k->co t i=0)->(∀i,i<j->co u i=0)->k<j->(fun i=>if i=d then Wu y else T i) j=Wu u->w∈Q'->(m (m u t) w=m t u\/m (m t u) w=m u t)-> ∃c,Gen S m e (GX n co (fun j=>if j=d then Wu y else T j) Q' (k+1)) c/\m u t=m t c:=fun{k j t u w} hk ht hu zt zu tj hju hw hh=>by
  have ic:=(hq w hw).1;have tz:=F.cmd hk ht hu ic zt (fun i hi=>zu i (by omega)) hh;have g1:Gen S m e (GX n co (fun j=>if j=d then Wu y else T j) Q' (k+1)) w:=.x (.inr ⟨hw,fun i hi _=>tz i hi⟩);have g2:Gen S m e (GX n co (fun j=>if j=d then Wu y else T j) Q' (k+1)) u:=.x (.inl ⟨j,tj,hju⟩);rcases hh with hh|hh
  ·obtain⟨v,v1,v2,_⟩:=F.g.invl ic
   refine⟨m u v,.m g2 (.i g1 v1 v2),?_⟩;rw[<-F.g.assoc ht hu v1,<-hh,F.g.assoc (F.g.cl hu ht) ic v1,v2,F.g.oner (F.g.cl hu ht)]
  ·exact⟨m u w,.m g2 g1,by rw[<-F.g.assoc ht hu ic,hh]⟩
 refine⟨mP,fun{k t} hk=>?_,hq,fun a ha=>tr (h.g a ha),fun{k t} hk=>?_,fun{k j t u} hk hj tj=>?_⟩
 ·replace hk:(if k=d then Wu y else T k)=Wu t:=hk
  split at hk
  ·cases hk;exact pm
  ·exact h.th hk
 ·replace hk:(if k=d then Wu y else T k)=Wu t:=hk
  split at hk
  ·rename_i g
   cases hk;subst g;have Vo:=F.pwc hd hy zy (o k).toNat;have ho:=F.r hy hd;refine .x (.inr ⟨hp,fun i hi gK=>?_⟩)
   by_cases g:i=k
   ·rw[g,Vo.2,oy,Kz,show(((o k).toNat:Nat):Int)=o k from by omega,Gs]
   ·exact Vo.1 i (by omega)
  ·exact tr (h.c.p hk)
 ·have a1:=mP.h hk
  have a2:=mP.h hj;have iv:(if k=d then Wu y else T k)=Wu t:=hk;have pR:(if j=d then Wu y else T j)=Wu u:=hj;split at iv
  ·rename_i g
   cases iv;subst g;rw[if_neg (by omega)]at pR;obtain⟨w,w1,w2⟩:=hc j u pR;exact new hd hy a2.2.1 zy a2.2.2.1 tj hj w1 w2
  ·split at pR
   ·rename_i g2
    cases pR;subst g2;obtain⟨w,w1,w2⟩:=hc k t iv;exact new a1.1 a1.2.1 hy a1.2.2.1 zy tj hj w1 w2.symm
   ·obtain⟨c,c1,c2⟩:=h.c.c iv pR tj
    exact⟨c,tr c1,c2⟩
structure Sf (S:α->Prop) (m:α->α->α) (e:α) (n:Nat) (co:α->Nat->Int) (T:Nat->Option α) (x y:α):Prop where
 s:S y
 d:∀k,Dp n co k x->Dp n co k y
 g:∀k Q,(∀a∈Q,S a)->Dp n co k x->Gen S m e (GX n co T Q k) y->Gen S m e (GX n co T Q k) x
 h:∀H:α->Prop,(∀a,H a->S a)->(∀{k t},T k=Wu t->Gen S m e H t)->Gen S m e H x->Gen S m e H y
 omit F in
theorem Sf.refl{T:Nat->Option α}{x:α}(hx:S x):Sf S m e n co T x x:=⟨hx,fun _ h=>h,fun _ _ _ _ h=>h,fun _ _ _ h=>h⟩
 omit F in
theorem Sf.trans{T:Nat->Option α}{x y z:α}(h1:Sf S m e n co T x y)(h2:Sf S m e n co T y z):Sf S m e n co T x z:=
  ⟨h2.s,fun k h=>h2.d k (h1.d k h),fun k Q hQ h g=>h1.g k Q hQ h (h2.g k Q hQ (h1.d k h) g),fun H hS hT g=>h2.h H hS hT (h1.h H hS hT g)⟩
theorem Sf.right{T:Nat->Option α}(hT:Tab S n co T){x t z:α}(hd:d<n)(hx:S x)(zx:∀j,j<d->co x j=0)(nx:co x d≠0)(ht:T d=Wu t)(hz:∀{Y:α->Prop},(∀a,Y a->S a)->Gen S m e Y t->Gen S m e Y z)(ap:S z)(zz:∀j,j<d->co z j=0)(hr:co (m x z) d=0):Sf S m e n co T x (m x z)/\ ∀j,j<d+1->co (m x z) j=0:=by
 have mh:=F.dm (by omega) hx ap zx zz;have tz:∀j,j<d+1->co (m x z) j=0:=fun j hj=>by
  by_cases g:j=d
  ·rw[g];exact hr
  ·exact mh j (by omega)
 have hk:∀k,Dp n co k x->k<=d:=fun k h=>by
  by_cases g:k<=d
  ·exact g
  ·exact absurd (h d (by omega) hd) nx
 refine⟨⟨F.g.cl hx ap,fun k h=>fun j hj _=>tz j (by have:=hk k h;omega),fun k Q hQ h g=>?_,fun H hS hT' g=>.m g (hz hS (hT' ht))⟩,tz⟩;exact Gen.left F.g (GX.s hT hQ) hx (hz (GX.s hT hQ) (.x (.inl ⟨d,hk k h,ht⟩))) g
theorem Sf.left{T:Nat->Option α}(hT:Tab S n co T){x t z:α}(hd:d<n)(hx:S x)(zx:∀j,j<d->co x j=0)(nx:co x d≠0)(ht:T d=Wu t)(hz:∀{Y:α->Prop},(∀a,Y a->S a)->Gen S m e Y t->Gen S m e Y z)(ap:S z)(zz:∀j,j<d->co z j=0)(hr:co (m z x) d=0):Sf S m e n co T x (m z x)/\ ∀j,j<d+1->co (m z x) j=0:=by
 have mh:=F.dm (by omega) ap hx zz zx;have tz:∀j,j<d+1->co (m z x) j=0:=fun j hj=>by
  by_cases g:j=d
  ·rw[g];exact hr
  ·exact mh j (by omega)
 have hk:∀k,Dp n co k x->k<=d:=fun k h=>by
  by_cases g:k<=d
  ·exact g
  ·exact absurd (h d (by omega) hd) nx
 refine⟨⟨F.g.cl ap hx,fun k h=>fun j hj _=>tz j (by have:=hk k h;omega),fun k Q hQ h g=>?_,fun H hS hT' g=>.m (hz hS (hT' ht)) g⟩,tz⟩;exact Gen.right F.g (GX.s hT hQ) (hz (GX.s hT hQ) (.x (.inl ⟨d,hk k h,ht⟩))) hx g
theorem Wl.can{L:α->Prop}{T:Nat->Option α}(h:Wl S m e n o co L T []){C:Nat->Option α}(h1:∀k,(C k).isSome=(T k).isSome)
  (h2:∀{k t},C k=Wu t->Gen S m e L t/\S t/\(∀j,j<k->co t j=0)/\co t k=1/\ ∀j,k<j->j<n->(C j).isSome=Ww->co t j=0):Can (e:=e) S n co (Gen S m e L) C:=by
 refine⟨fun{k t} hk=>⟨?_,h2 hk⟩,fun{x} hx gf=>?_⟩
 ·have:=h1 k
  rw[hk]at this;obtain⟨u,hu⟩:=Uz.1 this.symm;exact(h.t.h hu).1
 ·obtain⟨j,_,j2,j3,j4⟩:=Clo.depth F h.t h.c n 0 (by omega) (hx.to h.g) (fun j hj=>by omega) gf
  exact⟨j,j2,by rw[h1];exact j3,j4⟩
end
def cd(v:Vec)(j:Nat):Int:=v.getD j 0
def od(P:Pcp)(j:Nat):Int:=match P[j]? with
 |some l=>l.o
 |none=>1
theorem zW6(l:Lvl)(P:Pcp):od (l::P) 0=l.o:=rfl
theorem zPy(l:Lvl)(P:Pcp)(j:Nat):od (l::P) (j+1)=od P j:=by simp[od]
theorem zZO:∀{P:Pcp}{v:Vec},V P v-> ∀{d:Nat},d<P.length->0<=cd v d/\cd v d<od P d
 | [],_,_,d,hd=>by simp at hd
 |l::P,[],h,_,_=>by simp[V]at h
 |l::P,a::x,h,0,_=>by simp only[V]at h;exact h.1
 |l::P,a::x,h,d+1,hd=>by simp only[V]at h;rw[zPy];exact zZO h.2 (by simpa using hd)
theorem zYB:∀{P:Pcp}{a b:Vec},V P a->V P b->(∀d,d<P.length->cd a d=cd b d)->a=b
 | [],a,b,ha,hb,_=>by simp only[V]at ha hb;rw[ha,hb]
 |l::P,[],_,h,_,_=>by simp[V]at h
 |l::P,_::_,[],_,h,_=>by simp[V]at h
 |l::P,a::x,b::y,ha,hb,h=>by simp only[V]at ha hb;have h0:a=b:=h 0 (by simp);rw[h0,zYB ha.2 hb.2 fun d hd=>h (d+1) (by simpa using hd)]
theorem zYC:∀{P:Pcp}{x y:Vec},V P x->V P y-> ∀{d:Nat},d<P.length->(∀j,j<d->cd y j=0)->(∀j,j<d->cd (mul P x y) j=cd x j)/\cd (mul P x y) d=(cd x d+cd y d)%od P d
 | [],_,_,_,_,d,hd,_=>by simp at hd
 |l::P,[],_,h,_,_,_,_=>by simp[V]at h
 |l::P,_::_,[],_,h,_,_,_=>by simp[V]at h
 |l::P,a::x,b::y,hx,hy,0,_,_=>by
  simp only[V]at hx hy;refine⟨fun j hj=>by omega,?_⟩;rw[yN,zW6];show cd _ 0=(a+b)%l.o
  by_cases g:a+b>=l.o
  ·rw[if_pos g,<-Uc,Jo (by omega) (by omega)];rfl
  ·rw[if_neg g,Jo (by omega) (by omega)];rfl
 |l::P,a::x,b::y,hx,hy,d+1,hd,hz=>by
  simp only[V]at hx hy;have hb:b=0:=hz 0 (by omega);subst hb;have ih:=zYC hx.2 hy.2 (d:=d) (by simpa using hd) fun j hj=>hz (j+1) (by omega)
  rw[yN,if_neg (by omega),zPy];show(∀j,j<d+1->cd ((a+0)::mul P x y) j=cd (a::x) j)/\_;rw[Kf];refine⟨fun j hj=>?_,ih.2⟩;cases j with
  |zero=>rfl
  |succ j=>exact ih.1 j (by omega)
theorem zTr{n:Nat}:cd (zeros n) d=0:=by unfold cd zeros;rw[J2,K3];split<;>rfl
theorem fil{P:Pcp}(h:Ok P)(hc:xS P):Fil (V P) (mul P) (zeros P.length) P.length (od P) cd:=
 ⟨zAo P h hc,fun ha hd=>zZO ha hd,fun _=>zTr,fun ha hb h=>zYB ha hb h,fun ha hb hd hz=>zYC ha hb hd hz⟩
section
variable {α:Type}{S:α->Prop}{m:α->α->α}{e:α}{n:Nat}{o:Nat->Int}{co:α->Nat->Int} (F:Fil S m e n o co)
 include F
theorem Fil.pw1{t:α}(hd:d<n)(ht:S t)(zt:∀j,j<d->co t j=0)(h1:co t d=1)(k:Nat):S (pw m e t k)/\(∀j,j<d->co (pw m e t k) j=0)/\co (pw m e t k) d=k%o d:=by have h:=F.pwc hd ht zt k;rw[h1,Kz]at h;exact⟨wO F.g.toMon ht k,h⟩
theorem Fil.killl{t x:α}(hd:d<n)(ht:S t)(zt:∀j,j<d->co t j=0)(h1:co t d=1)(hx:S x)(zx:∀j,j<d->co x j=0):co (m (pw m e t (o d-co x d).toNat) x) d=0:=by have hr:=F.r hx hd;obtain⟨p1,p2,p3⟩:=F.pw1 hd ht zt h1 (o d-co x d).toNat;rw[(F.ad p1 hx hd zx).2,p3,Gk,show(((o d-co x d).toNat:Nat):Int)=o d-co x d from by omega,show o d-co x d+co x d=o d from by omega,Gs]
theorem Fil.invc{t u:α}(hd:d<n)(ht:S t)(hu:S u)(h:m t u=e)(zt:∀j,j<d->co t j=0):(∀j,j<d->co u j=0)/\(co t d+co u d)%o d=0:=by
 have z:∀j,j<d->co u j=0:=by
  intro j
  induction j using U4 with
  |ind j ih=>
   intro hj;have h1:=(F.ad ht hu (by omega:j<n) fun i hi=>ih i hi (by omega)).2;rw[h,F.e0 (by omega),zt j hj,L5]at h1;rw[<-F.md (by omega) hu rfl];exact h1.symm
 refine⟨z,?_⟩;have h1:=(F.ad ht hu hd z).2;rw[h,F.e0 hd]at h1;exact h1.symm
theorem Fil.killr{t u x:α}(hd:d<n)(ht:S t)(hu:S u)(h:m t u=e)(zt:∀j,j<d->co t j=0)(h1:co t d=1)(hx:S x):S (pw m e u (co x d).toNat)/\(∀j,j<d->co (pw m e u (co x d).toNat) j=0)/\co (m x (pw m e u (co x d).toNat)) d=0:=by
 have hr:=F.r hx hd;obtain⟨z,c⟩:=F.invc hd ht hu h zt;have hp:=F.pwc hd hu z (co x d).toNat;have hs:=wO F.g.toMon hu (co x d).toNat;refine⟨hs,hp.1,?_⟩;rw[(F.ad hx hs hd hp.1).2,hp.2,Int.add_emod_emod,show(((co x d).toNat:Nat):Int)=co x d from by omega];have e1:co x d+co x d*co u d=co x d*(co t d+co u d):=by rw[h1,Int.mul_add,Kz]
 rw[e1,Jv,c,L6,Jaz]
structure Rd (S:α->Prop) (m:α->α->α) (e:α) (n:Nat) (co:α->Nat->Int) (L:α->Prop) (C:Nat->Option α) (k j:Nat) (x:α):Prop where
 s:S x
 l:Gen S m e L x
 z:∀i,i<k->co x i=0
 o:co x k=1
 r:∀i,k<i->i<j->(C i).isSome=Ww->co x i=0
theorem Rd.step{L:α->Prop}{C:Nat->Option α}{k j:Nat}{x z:α}(h:Rd S m e n co L C k j x)(tj:k<j)(hj:j<n)(hz:S z)(hl:Gen S m e L z)(zz:∀i,i<j->co z i=0)(hk:co (m x z) j=0):Rd S m e n co L C k (j+1) (m x z):=by
 have h1:=(F.ad h.s hz hj zz).1;refine⟨F.g.cl h.s hz,.m h.l hl,fun i hi=>?_,?_,fun i hi gQ hc=>?_⟩
 ·rw[h1 i (by omega)];exact h.z i hi
 ·rw[h1 k tj];exact h.o
 ·by_cases g:i=j
  ·rw[g];exact hk
  ·rw[h1 i (by omega)];exact h.r i hi (by omega) hc
 omit F in
theorem Rd.skip{L:α->Prop}{C:Nat->Option α}{j:Nat}{x:α}(h:Rd S m e n co L C k j x)(hc:C j=Wv\/co x j=0):Rd S m e n co L C k (j+1) x:=
  ⟨h.s,h.l,h.z,h.o,fun i hi gQ eD=>by
    by_cases g:i=j
    · subst g
      rcases hc with hc|hc
      ·rw[hc]at eD;cases eD
      ·exact hc
    ·exact h.r i hi (by omega) eD⟩
end
section
variable {A:Type}
end
end Go.Pc

namespace Go.Pl
open Go Go.Ab
variable {α β ρ:Type}{n i c m k j D:Nat}{body:Int->Option (Int⊕(Unit⊕Bool))}{r v u:List Int}{f:Nat->Int}{x:Go.Wk.SPr}{P:Nat->Prop}{a q:Int}{F:Nat->List Int}{pv:Nat->Nat}{xs:List α}
theorem bs(x:α)(f:α->Option β):(Wu x).bind f=f x:=by simp only[Option.bind_some]
theorem zK(x y:α):cond Ww x y=x:=by simp only[cond_true]
theorem zL(x y:α):cond Wx x y=y:=by simp only[cond_false]
theorem zB{n:Int}(h1:-9223372036854775808<=n:=by omega)(h2:n<=9223372036854775807:=by omega):rng n=Wu n:=by unfold rng;rw[if_pos];simp only[inR,J4,decide_eq_true_eq];omega
theorem uL(xs:List α)(i:Nat):ixO xs (i:Int)=xs[i]?:=by unfold ixO;rw[if_pos (by omega)];simp
theorem tB{α:Type}{xs:List α}(h:i<xs.length):ixO xs (i:Int)=Wu xs[i]:=by rw[uL];exact J3 h
theorem yZ(h:n<=68719476736:=by omega):yO (n:Int)=Wu n:=by unfold yO;rw[if_pos (by omega)];simp
theorem yA{α:Type}{xs ys:List α}(h:xs.length+ys.length<=68719476736:=by omega):yR xs ys=Wu (xs++ys):=by unfold yR;rw[if_pos h]
theorem zN{σ ρ:Type}{body:σ->Option (σ⊕ρ)}{r:ρ}(S:Nat->σ)(n:Nat)(h:∀i,i<n->body (S i)=Wu (.inl (S (i+1))))(he:body (S n)=Wu (.inr r)):zF body (S 0)=Wu r:=by
 have key:∀k i,i+k=n->zF body (S i)=Wu r:=by
  intro k
  induction k with
  |zero=>intro i hi;rw[yW,show i=n from by omega,he]
  |succ k ih=>intro i hi;rw[yW,h i (by omega)];exact ih (i+1) (by omega)
 exact key n 0 (by omega)
theorem uE{σ ρ:Type}{body:σ->Option (σ⊕ρ)}{Q:ρ->Prop}(I:Nat->σ->Prop)(n:Nat)(h:∀i s,i<n->I i s->(∃s',body s=Wu (.inl s')/\I (i+1) s')\/ ∃r,body s=Wu (.inr r)/\Q r)
  (he:∀s,I n s-> ∃r,body s=Wu (.inr r)/\Q r){s:σ}(h0:I 0 s):∃r,zF body s=Wu r/\Q r:=by
 have key:∀k i s,i+k=n->I i s-> ∃r,zF body s=Wu r/\Q r:=by
  intro k
  induction k with
  |zero=>
   intro i s hi hs;obtain rfl:i=n:=by omega
   obtain⟨r,h1,h2⟩:=he s hs;exact⟨r,by rw[yW,h1],h2⟩
  |succ k ih=>
   intro i s hi hs;rcases h i s (by omega) hs with⟨s',h1,h2⟩|⟨r,h1,h2⟩
   ·rw[yW,h1];exact ih (i+1) s' (by omega) h2
   ·exact⟨r,by rw[yW,h1],h2⟩
 exact key n 0 s (by omega) h0
def zLV{ρ:Type}:Option ρ->Unit⊕ρ
 |none=>.inl ()
 |some r=>.inr r
theorem cs(i:Nat):(i:Int)+1=((i+1:Nat):Int):=by omega
theorem zJv{body:Int->Option (Int⊕(Unit⊕ρ))}(n:Nat)(t:Nat->Option ρ)(i0:Nat)(hn:i0<=n)
  (h:∀i,i0<=i->i<n->(∀j,i0<=j->j<i->t j=Wv)->body (i:Int)=Wu (match t i with|none=>.inl ((i+1:Nat):Int)|some r=>.inr (.inr r)))
  (he:(∀j,i0<=j->j<n->t j=Wv)->body (n:Int)=Wu (.inr (.inl ()))):
  zF body (i0:Int)=Wu (zLV ((Ke i0 (n-i0)).findSome? t)):=by
 have key:∀k i,i0<=i->i+k=n->(∀j,i0<=j->j<i->t j=Wv)->zF body (i:Int)=Wu (zLV ((Ke i k).findSome? t)):=by
  intro k
  induction k with
  |zero=>
   intro i hi hk hp;obtain rfl:i=n:=by omega
   rw[yW,he hp];rfl
  |succ k ih=>
   intro i hi hk hp;rw[yW,h i hi (by omega) hp,L3,Jaq];cases ht:t i with
   |some r=>rfl
   |none=>
    simp only
    exact ih (i+1) (by omega) (by omega) fun j h1 h2=>by
     rcases Jk j i with h3|h3
     ·exact hp j h1 h3
     ·rw[show j=i from by omega];exact ht
 exact key (n-i0) i0 (J9 _) (by omega) fun j h1 h2=>by omega
theorem zTs{b:Nat->Bool}:zLV ((Ke 0 n).findSome? (fun i=>if b i then Wv else Wu Wx))=if(Ju n).all b then .inl ()else .inr Wx:=by
 have key:∀l:List Nat,zLV (l.findSome? (fun i=>if b i then Wv else Wu Wx))=if l.all b then .inl ()else .inr Wx:=by
  intro l
  induction l with
  |nil=>rfl
  |cons x l ih=>
   rw[Jaq,Qt];cases hb:b x
   ·rfl
   ·simpa using ih
 rw[key,Ld]
theorem zJw(n:Nat)(b:Nat->Bool)
  (h:∀i,i<n->(∀j,j<i->b j=Ww)->body (i:Int)=Wu (if b i then .inl ((i+1:Nat):Int)else .inr (.inr Wx)))
  (he:(∀j,j<n->b j=Ww)->body (n:Int)=Wu (.inr (.inl ()))):
  zF body 0=Wu (if(Ju n).all b then .inl ()else .inr Wx):=by
 have:=zJv (body:=body) n (fun i=>if b i then Wv else Wu Wx) 0 (K4 _) (fun i _ hi hp=>by
  rw[h i hi fun j hj=>by
   have:=hp j (K4 _) hj;split at this
   ·assumption
   ·cases this]
  cases b i<;>rfl) (fun hp=>he fun j hj=>by
   have:=hp j (K4 _) hj;split at this
   ·assumption
   ·cases this)
 rw[Li]at this;exact this.trans (congrArg Wu (zTs (n:=n) (b:=b)))
theorem zTt{α:Type}{xs:List α}{z:α}(h:i<xs.length):(xs.take i++J0 (xs.length-i) z).set i xs[i]=xs.take (i+1)++J0 (xs.length-(i+1)) z:=by
 have h1:(xs.take i).length=i:=by rw[Kv];omega
 rw[Lg _ _ (by omega),h1,Kr,show xs.length-i=(xs.length-(i+1))+1 from by omega,Jw,L7,Jy h];simp only[Jg,Lv]
theorem zPz{α:Type}{f:α->Option α}{body:List α×Int->Option ((List α×Int)⊕List α)}{x0:List α}{z:α}
  (hb:∀s,body s=cond (decide (s.2<(x0.length:Int))) ((ixO x0 s.2).bind fun v2=>(f v2).bind fun r3=>(ixO s.1 s.2).bind fun _=>(rng (s.2+1)).bind fun v5=>Wu (.inl (s.1.set s.2.toNat r3,v5))) (Wu (.inr s.1)))
  (hl:x0.length<=68719476736)(hf:∀x∈x0,f x=Wu x):zF body (J0 x0.length z,0)=Wu x0:=by
 have:=zN (body:=body) (r:=x0) (fun i=>(x0.take i++J0 (x0.length-i) z,(i:Int))) x0.length (fun i hi=>by
  rw[hb];simp only[Wz (show((i:Int))<(x0.length:Int)from by omega),zK];rw[tB hi,uL];simp only[bs,hf _ (Jp hi)];rw[J3 (by simp;omega),bs,zB,bs];simp only[J7,zTt hi,cs]) (by
  rw[hb];simp only[Wy (show¬((x0.length:Int))<(x0.length:Int)from by omega),zL,Gg,Kr,Kt,Jh])
 simpa using this
theorem zW7[BEq α]{t:α->α->Option Bool}{x y:List α}
  (hb:∀i,body i=cond (decide (i<(x.length:Int))) ((ixO x i).bind fun v1=>(ixO y i).bind fun v2=>(t v1 v2).bind fun r3=>cond (!r3) (Wu (.inr (.inr Wx))) ((rng (i+1)).bind fun v4=>Wu (.inl v4))) (Wu (.inr (.inl ()))))
  (hl:x.length<=68719476736)(aR:x.length=y.length)(ht:∀u∈x,∀v∈y,t u v=Wu (u==v)):zF body 0=Wu (if x==y then .inl ()else .inr Wx):=by
 have h:=zJw (body:=body) x.length (fun i=>match x[i]?,y[i]? with|some u,Wu v=>u==v|_,_=>Ww) (fun i hi _=>by
  have eK:i<y.length:=by omega
  rw[hb];simp only[Wz (show((i:Int))<(x.length:Int)from by omega),zK];rw[tB hi,tB eK];simp only[bs,ht _ (Jp hi) _ (Jp eK),J3 hi,J3 eK];cases x[i]==y[i]
  ·rfl
  ·simp only[K7,zL,if_true]
   rw[zB,cs];rfl) (fun _=>by
  rw[hb];simp only[Wy (show¬((x.length:Int))<(x.length:Int)from by omega),zL])
 rw[h]
 congr 2
 have key:∀(x y:List α),x.length=y.length->((Ju x.length).all (fun i=>match x[i]?,y[i]? with|some u,Wu v=>u==v|_,_=>Ww))=(x==y):=by
  intro x
  induction x with
  |nil=>intro y hy;cases y with|nil=>rfl|cons _ _=>simp at hy
  |cons u x ih=>
   intro y hy;cases y with
   |nil=>simp at hy
   |cons v y=>
    rw[J8,Ja2,Qt,List.all_map];simp only[Qc,Function.comp_def,Jb8];rw[ih y (by simpa using hy)];rfl
 rw[key x y aR]
theorem zTu[BEq α]{t:α->α->Option Bool}{f:Option Bool}{x y:List α}
  (hf:f=cond ((x.length:Int) != (y.length:Int)) (Wu Wx) ((zF body 0).bind fun r=>match r with|.inl _=>Wu Ww|.inr r=>Wu r))
  (hb:∀i,body i=cond (decide (i<(x.length:Int))) ((ixO x i).bind fun v1=>(ixO y i).bind fun v2=>(t v1 v2).bind fun r3=>cond (!r3) (Wu (.inr (.inr Wx))) ((rng (i+1)).bind fun v4=>Wu (.inl v4))) (Wu (.inr (.inl ()))))
  (hl:x.length<=68719476736)(ht:∀u∈x,∀v∈y,t u v=Wu (u==v)):f=Wu (x==y):=by
 rw[hf]
 by_cases aR:x.length=y.length
 ·rw[zW7 hb hl aR ht]
  have:((x.length:Int) != (y.length:Int))=Wx:=by simp[aR]
  rw[this];cases x==y<;>rfl
 ·have:((x.length:Int) != (y.length:Int))=Ww:=by simp;omega
  rw[this];have h2:(x==y)=Wx:=by
   have key:∀(x y:List α),x.length≠y.length->(x==y)=Wx:=by
    intro x
    induction x with
    |nil=>intro y hy;cases y with|nil=>simp at hy|cons _ _=>rfl
    |cons u x ih=>
     intro y hy;cases y with
     |nil=>rfl
     |cons v y=>
      show(u==v&&x==y)=Wx;rw[ih y (by simpa using hy),Bool.and_false]
   exact key x y aR
  rw[h2];rfl
def sm{α:Type}(c:α->Nat):List α->Nat
 | []=>0
 |x::xs=>c x+sm c xs
theorem zDi{α:Type}(c:α->Nat):∀xs ys:List α,sm c (xs++ys)=sm c xs+sm c ys
 | [],ys=>by simp[sm]
 |x::xs,ys=>by simp only[K0,sm,zDi c xs ys];omega
theorem zGC(c:α->Nat)(h:i<xs.length):sm c (xs.take (i+1))=sm c (xs.take i)+c xs[i]:=by grind[Jy,zDi,sm]
theorem zBV(c:α->Nat)(xs:List α)(i:Nat):sm c (xs.take i)<=sm c xs:=by grind[zDi,Ja7]
theorem zZP(c:α->Nat){x:α}(h:x∈xs):c x<=sm c xs:=by
 obtain⟨i,hi,rfl⟩:=Hy.1 h;have:=zGC c hi
 grind[zBV]
def szR(c:Nat)(b:Int):Int:=if(c:Int)<=b then b-c else -1
theorem yCs{α:Type}{c:α->Nat}{t:α->Int->Option Int}{f:Option Int}{body:Int×Int->Option ((Int×Int)⊕(Int⊕Int))}{xs:List α}{b:Int}
  (hf:f=(rng (b-(xs.length:Int))).bind fun v1=>cond (decide (v1<0)) (Wu (-1)) ((zF body (v1,0)).bind fun r=>match r with|.inl r=>Wu r|.inr r=>Wu r))
  (hb:∀s,body s=cond (decide (s.2<(xs.length:Int))) ((ixO xs s.2).bind fun v2=>(t v2 s.1).bind fun r3=>cond (decide (r3<0)) (Wu (.inr (.inr (-1)))) ((rng (s.2+1)).bind fun v4=>Wu (.inl (r3,v4)))) (Wu (.inr (.inl s.1))))
  (hl:xs.length<=9223372036854775807)(b0:0<=b)(b1:b<=1048576)(ht:∀x∈xs,∀b',0<=b'->b'<=1048576->t x b'=Wu (szR (c x) b')):f=Wu (szR (xs.length+sm c xs) b):=by
 rw[hf,zB,bs]
 by_cases h0:b-(xs.length:Int)<0
 ·rw[Wz h0,zK,szR,if_neg (by omega)]
 ·rw[Wy h0,zL]
  obtain⟨r,h1,h2⟩:=uE (body:=body) (Q:=fun r=>(match r with|.inl r=>Wu r|.inr r=>Wu r)=Wu (szR (xs.length+sm c xs) b)) (fun i s=>s.2=(i:Int)/\0<=s.1/\s.1=b-xs.length-sm c (xs.take i)) xs.length (fun i s hi ⟨e1,e2,e3⟩=>by
   rw[hb,e1,Wz,zK,tB hi,bs,ht _ (Jp hi) _ e2 (by omega),bs];have h3:=zGC c hi;have h4:=zBV c xs (i+1);unfold szR
   by_cases h5:(c xs[i]:Int)<=s.1
   ·rw[if_pos h5,Wy (by omega),zL,zB,bs,cs]
    grind
   grind) (fun s ⟨e1,e2,e3⟩=>by
   rw[hb,e1,Wy (by omega),zL];rw[Gg]at e3;refine⟨_,rfl,?_⟩;simp only
   rw[szR,if_pos (by omega),e3]
   grind) (s:=(b-(xs.length:Int),0)) ⟨rfl,by omega,by simp[sm]⟩
  grind
def mkL{α:Type}(m:Int->α->α)(c:α->Nat):Int->List α->List α
 |_,[]=>[]
 |k,x::xs=>m k x::mkL m c (k+c x) xs
theorem zDY{α:Type}(m:Int->α->α)(c:α->Nat):∀(xs ys:List α)(k:Int),mkL m c k (xs++ys)=mkL m c k xs++mkL m c (k+sm c xs) ys
 | [],ys,k=>by simp[mkL,sm]
 |x::xs,ys,k=>by
  simp only[K0,mkL,sm,zDY m c xs ys]
  grind
theorem tK{α:Type}(m:Int->α->α)(c:α->Nat):∀(xs:List α)(k:Int),(mkL m c k xs).length=xs.length
 | [],_=>rfl
 |x::xs,k=>by simp[mkL,tK m c xs]
theorem zP0(m:Int->α->α)(c:α->Nat)(h:i<xs.length)(k:Int):(mkL m c k xs)[i]'(by grind[tK])=m (k+sm c (xs.take i)) xs[i]:=by
 have h1:xs=xs.take i++xs[i]::xs.drop (i+1):=by simp
 have h2:=zDY m c (xs.take i) (xs[i]::xs.drop (i+1)) k;rw[<-h1]at h2;rw[List.getElem_of_eq h2]
 grind[tK,mkL]
theorem zJx{α:Type}{m:Int->α->α}{c:α->Nat}{t:α->Int->Option (Int×α)}{body:List α×Int×Int->Option ((List α×Int×Int)⊕(List α×Int))}{xs:List α}{k:Int}
  (hb:∀s,body s=cond (decide (s.2.2<(s.1.length:Int))) ((ixO s.1 s.2.2).bind fun v1=>(t v1 s.2.1).bind fun r2=>(rng (s.2.2+1)).bind fun v3=>Wu (.inl (s.1.set s.2.2.toNat r2.2,r2.1,v3))) (Wu (.inr (s.1,s.2.1))))
  (hl:xs.length<=1048576)(k0:0<=k)(k1:k+sm c xs<=9223372036854775807)(ht:∀x∈xs,∀k':Int,0<=k'->k'+c x<=9223372036854775807->t x k'=Wu (k'+c x,m k' x)):zF body (xs,k,0)=Wu (mkL m c k xs,k+sm c xs):=by
 have:=zN (body:=body) (r:=(mkL m c k xs,k+sm c xs)) (fun i=>(mkL m c k (xs.take i)++xs.drop i,k+sm c (xs.take i),(i:Int))) xs.length (fun i hi=>by
  have h1:=zGC c hi;have h2:=zBV c xs (i+1);have gm:(mkL m c k (xs.take i)).length=i:=by grind[tK]
  have hg:(mkL m c k (xs.take i)++xs.drop i)[i]? =Wu xs[i]:=by grind
  rw[hb];simp only
  rw[Wz (by grind),zK,uL,hg,bs,ht _ (Jp hi) _ (by omega) (by omega),bs,zB,bs,cs];simp only[J7];rw[Lg _ _ (by omega),gm,Kr,Ku hi,L7,Jy hi,zDY,zDi,Jg];simp only[mkL,sm,Lv,Jae]
  grind) (by
  rw[hb];simp only
  rw[Wy (by grind[tK]),zL];simp)
 grind[mkL,sm]
theorem zQC{α:Type}{m:Int->α->α}{c:α->Nat}{t:α->Int->Option Int}{f:Option Int}{xs:List α}{k:Int}{body:Int×Int->Option ((Int×Int)⊕(Int⊕Int))}
  (hf:f=(zF body (k,0)).bind fun r=>match r with|.inl r=>Wu r|.inr r=>Wu r)
  (hb:∀s,body s=cond (decide (s.2<((mkL m c k xs).length:Int))) ((ixO (mkL m c k xs) s.2).bind fun v1=>(t v1 s.1).bind fun r2=>cond (decide (r2<0)) (Wu (.inr (.inr (-1)))) ((rng (s.2+1)).bind fun v3=>Wu (.inl (r2,v3)))) (Wu (.inr (.inl s.1))))
  (hl:xs.length<=1048576)(k0:0<=k)(k1:k+sm c xs<=9223372036854775807)(ht:∀x∈xs,∀k':Int,0<=k'->k'+c x<=9223372036854775807->t (m k' x) k'=Wu (k'+c x)):f=Wu (k+sm c xs):=by
 have:=zN (body:=body) (r:=.inl (k+sm c xs)) (fun i=>(k+sm c (xs.take i),(i:Int))) xs.length (fun i hi=>by
  have h1:=zGC c hi;have h2:=zBV c xs (i+1);rw[hb];simp only
  rw[tK,Wz,zK,tB (by grind[tK]),bs,zP0 m c hi,ht _ (Jp hi) _ (by omega) (by omega),bs,Wy (by omega),zL,zB,bs,cs,h1]
  grind) (by
  rw[hb];simp only
  rw[tK,Wy (by omega),zL,Gg])
 rw[hf];simp only[L9,sm]at this
 grind
open Go Go.Ab Go.Wk
abbrev VI(n:Int):Prop:=(Lit.int .i64 n).wf=Ww
abbrev VL{α:Type}(V:α->Prop)(xs:List α):Prop:=xs.length<=maxLen/\ ∀x∈xs,V x
abbrev c1(x:List Int):Nat:=x.length
abbrev c2(x:List (List Int)):Nat:=x.length+sm c1 x
theorem zTv{x:List Int}{b:Int}(hl:x.length<=9223372036854775807)(b0:0<=b)(b1:b<=1048576):zX7 x b=Wu (szR (c1 x) b):=by
 unfold zX7 szR;rw[zB,bs]
 grind
theorem zQD{x:List (List Int)}{b:Int}(h:VL (VL VI) x)(b0:0<=b)(b1:b<=1048576):yA9 x b=Wu (szR (c2 x) b):=
 yCs (c:=c1) rfl (fun _=>rfl) h.1 b0 b1 fun y hy _ h1 h2=>zTv (h.2 y hy).1 h1 h2
abbrev S1(x:List Int):Prop:=c1 x<=1048576
abbrev S2(x:List (List Int)):Prop:=c2 x<=1048576
theorem S2.mem{x:List (List Int)}(h:S2 x){y:List Int}(hy:y∈x):S1 y:=by
 have:=zZP c1 hy
 grind
theorem S1.len{x:List Int}(h:S1 x):x.length<=1048576:=h
theorem S2.len{x:List (List Int)}(h:S2 x):x.length<=1048576:=by grind
theorem zTw{x:List Int}(h:S1 x):zVa x=Wu x:=by unfold zVa;rw[yZ (U1 h (by decide)),bs,zPz (body:=zUZ x) (f:=Wu) (fun _=>rfl) (by grind) (fun _ _=>rfl),bs]
theorem zQE{x:List (List Int)}(h:S2 x):zX8 x=Wu x:=by unfold zX8;rw[yZ (by grind),bs,zPz (body:=zVb x) (f:=zVa) (fun _=>rfl) (by grind) (fun _ hx=>zTw (h.mem hx)),bs]
theorem zTx{x y:List Int}(h:S1 x):zXE x y=Wu (x==y):=
 zTu (t:=fun u v=>Wu (u==v)) (body:=zVv x y) rfl (fun _=>rfl) (by grind) fun _ _ _ _=>rfl
theorem zF8{x y:List (List Int)}(h:S2 x):zR3 x y=Wu (x==y):=
 zTu (t:=zXE) (body:=zVw x y) rfl (fun _=>rfl) (by grind) fun _ hu _ _=>zTx (h.mem hu)
def m1(k:Int)(x:List Int):List Int:=mkL (fun k _=>k) (fun _=>1) k x
def m2(k:Int)(x:List (List Int)):List (List Int):=mkL m1 c1 k x
theorem zN7{α:Type}:∀xs:List α,sm (fun _=>1) xs=xs.length
 | []=>rfl
 |x::xs=>by simp[sm,zN7 xs];omega
theorem zN8{x:List Int}{k:Int}(h:S1 x)(k0:0<=k)(k1:k+c1 x<=9223372036854775807):zVx x k=Wu (k+c1 x,m1 k x):=by have h1:=zN7 x;have:=zJx (m:=fun k _=>k) (c:=fun _=>1) (t:=fun v k=>(rng (k+1)).bind fun v2=>Wu (v2,k)) (body:=zQn) (xs:=x) (k:=k) (by grind[zQn]) h.len k0 (by grind) (by grind[zB]);unfold zVx;rw[this,bs,h1];rfl
theorem zGl{x:List (List Int)}{k:Int}(h:S2 x)(k0:0<=k)(k1:k+sm c1 x<=9223372036854775807:=by omega):zVz x k=Wu (k+sm c1 x,m2 k x):=by unfold zVz;rw[zJx (body:=zVy) (m:=m1) (c:=c1) (t:=zVx) (fun _=>rfl) h.len k0 k1 fun y hy _ h1 h2=>zN8 (h.mem hy) h1 h2,bs];rfl
theorem zN9{x:List Int}{k:Int}(h:S1 x)(k0:0<=k)(k1:k+c1 x<=9223372036854775807):zV0 (m1 k x) k=Wu (k+c1 x):=by
 have hl:=h.len;have hml:(m1 k x).length=x.length:=tK _ _ _ _;have:=zN (body:=zMQ (m1 k x)) (r:=.inl (k+c1 x)) (fun i=>(k+(i:Int),(i:Int))) x.length (fun i hi=>by
  have hg:(m1 k x)[i]'(by omega)=k+sm (fun _=>1) (x.take i):=zP0 _ _ hi _;unfold zMQ;rw[Wz,zK,tB (by rw[hml];exact hi),bs,hg,zN7,Kv,Up (by omega),show(k+(i:Int) != k+(i:Int))=Wx from by simp,zL,zB (by omega) (by grind),bs,zB,bs,cs]
  grind) (by
  unfold zMQ
  grind)
 unfold zV0
 grind
theorem zLW{x:List (List Int)}{k:Int}(h:S2 x)(k0:0<=k)(k1:k+sm c1 x<=9223372036854775807:=by omega):zXF (m2 k x) k=Wu (k+sm c1 x):=
 zQC (body:=zV1 (m2 k x)) (m:=m1) (c:=c1) (t:=zV0) rfl (fun _=>rfl) h.len k0 k1 fun _ hy _ h1 h2=>zN9 (h.mem hy) h1 h2
theorem zW8{b:Int}(_:0<=b)(b1:b<=1048576):(decide (szR c b<0)=Ww)\/(decide (szR c b<0)=Wx/\0<=szR c b/\szR c b<=1048576/\c<=1048576):=by
 unfold szR
 grind
theorem zTy{x:List (List Int)}:sm c1 x<=c2 x:=by simp
def IsB(o:Option Bool)(P:Prop):Prop:=(o=Wu Ww/\P)\/(o=Wu Wx/\ ¬P)
theorem IsB.of_bool{b:Bool}{P:Prop}(h:b=Ww↔P):IsB (Wu b) P:=by
 cases b
 ·exact .inr (by grind)
 ·exact .inl ⟨rfl,h.1 rfl⟩
theorem chk{body:Int->Option (Int⊕(Unit⊕ρ))}(n i0:Nat)(hn:i0<=n)(P:Nat->Prop)(bad:Nat->ρ)
  (h:∀i,i0<=i->i<n->(∀j,i0<=j->j<i->P j)->(body (i:Int)=Wu (.inl ((i+1:Nat):Int))/\P i)\/(body (i:Int)=Wu (.inr (.inr (bad i)))/\ ¬P i))
  (he:body (n:Int)=Wu (.inr (.inl ()))):
  (zF body (i0:Int)=Wu (.inl ())/\ ∀j,i0<=j->j<n->P j)\/ ∃i,i0<=i/\i<n/\zF body (i0:Int)=Wu (.inr (bad i))/\ ¬P i:=by
 have key:∀k i,i0<=i->i+k=n->(∀j,i0<=j->j<i->P j)->(zF body (i:Int)=Wu (.inl ())/\ ∀j,i0<=j->j<n->P j)\/ ∃q,i0<=q/\q<n/\zF body (i:Int)=Wu (.inr (bad q))/\ ¬P q:=by
  intro k
  induction k with
  |zero=>
   intro i hi hk hp;obtain rfl:i=n:=by omega
   grind[yW]
  |succ k ih=>
   intro i hi hk hp;rcases h i hi (by omega) hp with⟨h1,h2⟩|⟨h1,h2⟩
   ·have:=ih (i+1) (by omega) (by omega) (by grind)
    rw[yW,h1];exact this
   grind[yW]
 exact key (n-i0) i0 (J9 _) (by omega) fun j a b=>by omega
theorem zTz{f:Option Bool}(n:Nat)(P:Nat->Prop)
  (hf:f=(zF body 0).bind fun r=>match r with|.inl _=>Wu Ww|.inr r=>Wu r)
  (h:∀i,i<n->(∀j,j<i->P j)->(body (i:Int)=Wu (.inl ((i+1:Nat):Int))/\P i)\/(body (i:Int)=Wu (.inr (.inr Wx))/\ ¬P i))
  (he:body (n:Int)=Wu (.inr (.inl ()))):IsB f (∀i,i<n->P i):=by
 rcases chk n 0 (K4 _) P (fun _=>Wx) (fun i _ hi hp=>h i hi fun j hj=>hp j (K4 _) hj) he with⟨h1,h2⟩|⟨i,_,hi,h1,h2⟩
 ·refine .inl ⟨?_,fun i hi=>h2 i (K4 _) hi⟩
  rw[hf];rw[show((0:Nat):Int)=0 from rfl]at h1;rw[h1,bs]
 ·refine .inr ⟨?_,fun hp=>h2 (hp i hi)⟩
  rw[hf];rw[show((0:Nat):Int)=0 from rfl]at h1;rw[h1,bs]
theorem zP1{o:Option Bool}{P:Prop}{ρ:Type}{bad:ρ}{g:Option (Int⊕(Unit⊕ρ))}(h:IsB o P)(hi:i<9223372036854775807)
  (hg:g=o.bind fun r=>cond (!r) (Wu (.inr (.inr bad))) ((rng ((i:Int)+1)).bind fun v=>Wu (.inl v))):(g=Wu (.inl ((i+1:Nat):Int))/\P)\/(g=Wu (.inr (.inr bad))/\ ¬P):=by
 subst hg;rcases h with⟨h1,h2⟩|⟨h1,h2⟩
 ·refine .inl ⟨?_,h2⟩
  rw[h1,bs,K7,zL,zB,bs,cs]
 grind
theorem xD(h:i<n:=by omega):decide ((i:Int)<(n:Int))=Ww:=by grind
theorem wX:decide ((n:Int)<(n:Int))=Wx:=by simp
theorem zAd(x a b:Int):IsB (zOv x a b) (a<=x/\x<=b):=by
 unfold zOv
 by_cases h:x>=a
 ·rw[Wz h,zK];grind[IsB.of_bool]
 ·rw[Wy h,zL];exact .inr ⟨rfl,by omega⟩
theorem zCC(x a b:Int):IsB (zVc x a b) (a<=x/\x<=b):=zAd x a b
def Prime(p:Int):Prop:=p=2\/p=3\/p=5\/p=7
theorem zHB(x:Int):IsB (zXA x) (Prime x):=by
 unfold zXA Prime
 by_cases h2:x=2
 ·subst h2;exact .inl ⟨rfl,.inl rfl⟩
 ·rw[show(x==2)=Wx from by grind,zL]
  by_cases h3:x=3
  ·subst h3;exact .inl (by simp)
  ·rw[show(x==3)=Wx from by grind,zL]
   by_cases h5:x=5
   ·subst h5;exact .inl (by simp)
   ·rw[show(x==5)=Wx from by grind,zL]
    grind[IsB.of_bool]
theorem zNA(x:Int):IsB (yAA x) (Prime x):=zHB x
abbrev at0(v:List Int)(i:Nat):Int:=v.getD i 0
theorem xM(h:i<v.length:=by omega):ixO v (i:Int)=Wu (at0 v i):=by rw[tB h,at0,J2,J3 h];rfl
def zZQ(os v:List Int):Prop:=v.length=os.length/\ ∀i,i<v.length->0<=at0 v i/\at0 v i<=at0 os i-1
def Exp(os v:List Int)(k:Nat):Prop:=zZQ os v/\ ∀i,i<=k->at0 v i=0
def Os(os:List Int):Prop:=os.length<=40/\ ∀i,i<os.length->Prime (at0 os i)
theorem Prime.pos{p:Int}(h:Prime p):2<=p/\p<=7:=by unfold Prime at h;omega
theorem zLX(hl:v.length<=40:=by omega):IsB (zVg v) (∀i,i<v.length->at0 v i=0):=by
 refine zTz v.length (fun i=>at0 v i=0) rfl (fun i hi _=>?_) ?_
 ·refine zP1 (o:=Wu (at0 v i==0)) (IsB.of_bool (by simp)) (by omega) ?_
  unfold zJK;rw[xD hi,zK,xM hi,bs,bs];rfl
 ·unfold zJK
  simp
theorem zP2{b:Int}(h:a=b):(a != b)=Wx:=by simp[h]
theorem zP3{b:Int}(h:a≠b:=by omega):(a != b)=Ww:=by simp[h]
def pr(os:List Int):Nat->Int
 |0=>1
 |i+1=>pr os i*at0 os i
def zYD(x:SPr)(i:Nat):Prop:=Exp x.zA (x.zQ.getD i []) i/\(x.zG.getD i []).length+i+1=x.zA.length/\ ∀j,j<(x.zG.getD i []).length->Exp x.zA ((x.zG.getD i []).getD j []) i
structure zCo (x:SPr):Prop where
 os:True/\ ∀i,i<x.zA.length->Prime (at0 x.zA i)
 pl:x.zQ.length=x.zA.length
 cl:x.zG.length=x.zA.length
 tl:∀i,i<x.zA.length->zYD x i
structure Pres (x:SPr):Prop where
 os:Os x.zA
 pl:x.zQ.length=x.zA.length
 cl:x.zG.length=x.zA.length
 tl:∀i,i<x.zA.length->zYD x i
theorem Pres.w(h:Pres x):zCo x:=⟨⟨trivial,h.os.2⟩,h.pl,h.cl,h.tl⟩
structure zGm (x:SPr):Prop extends Pres x where
 n6:x.zA.length<=7
 pr:pr x.zA x.zA.length<=729
theorem yS{v:List α}(d:α)(h:i<v.length:=by omega):ixO v (i:Int)=Wu (v.getD i d):=by grind[tB]
open Go Go.Ab Go.Wk Go.Pc
def lvl(x:SPr)(i:Nat):Lvl:=⟨at0 x.zA i,(x.zQ.getD i []).drop (i+1),(x.zG.getD i []).map (·.drop (i+1))⟩
def suf(x:SPr)(k:Nat):Pcp:=(Ke k (x.zA.length-k)).map (lvl x)
theorem yC(x:SPr)(k:Nat):(suf x k).length=x.zA.length-k:=by simp[suf]
theorem yB(h:k<x.zA.length:=by omega):suf x k=lvl x k::suf x (k+1):=by unfold suf;rw[show x.zA.length-k=(x.zA.length-(k+1))+1 from by omega,L3,Jr]
theorem vQ(h:x.zA.length<=k:=by omega):suf x k=[]:=by unfold suf;simp_all
theorem zA0{os:List Int}(h:Exp os v k)(hk:k<os.length):v=zeros (k+1)++v.drop (k+1):=by
 have h1:=h.1.1;apply Kx;intro i;rw[Km];simp only[zeros,Jc,K3,Kw];split
 ·rename_i hi
  have h2:=h.2 i (by omega)
  grind
 grind
theorem zW9{x:SPr}:∀(d k:Nat)(v:List Int),k+d=x.zA.length->v.length=d->(∀i,i<d->0<=at0 v i/\at0 v i<=at0 x.zA (k+i)-1)->V (suf x k) v
 |0,k,v,hk,hv,_=>by rw[vQ];simpa[V]using hv
 |d+1,k,v,hk,hv,h=>by
  rw[yB]
  match v,hv with
  |a::v,hv=>
   have h0:=h 0 (by omega);simp only[at0,Ht,Jae]at h0;refine⟨⟨h0.1,by simp only[lvl,at0];omega⟩,zW9 d (k+1) v (by omega) (by grind) fun i hi=>?_⟩
   grind
theorem zAp(h:Exp x.zA v k)(hk:k<x.zA.length:=by omega):V (suf x (k+1)) (v.drop (k+1)):=by
 have h1:=h.1.1;refine zW9 (x.zA.length-(k+1)) (k+1) _ (by omega) (by grind) fun i hi=>?_
 have:=h.1.2 (k+1+i) (by omega)
 grind
theorem zCo.ok{x:SPr}(h:zCo x):∀(d k:Nat),k+d=x.zA.length->Pc.Ok (suf x k)
 |0,k,hk=>by rw[vQ];simp only[Pc.Ok]
 |d+1,k,hk=>by
  rw[yB];obtain⟨t1,t2,t3⟩:=h.tl k (by omega);refine⟨by simp only[lvl];have:=(h.os.2 k (by omega)).pos;omega,zAp t1,?_,fun c hc=>?_,zCo.ok h d (k+1) (by omega)⟩
  ·grind[yC,lvl]
  ·simp only[lvl,Jq]at hc
   obtain⟨u,hu,rfl⟩:=hc;obtain⟨j,hj,rfl⟩:=Hy.1 hu
   grind[zAp]
theorem zCo.okAt(h:zCo x)(hk:k<=x.zA.length):Pc.Ok (suf x k):=h.ok (x.zA.length-k) k (by omega)
theorem Pres.okAt(h:Pres x)(hk:k<=x.zA.length):Pc.Ok (suf x k):=h.w.okAt hk
theorem yD(n:Nat):(zeros n).length=n:=by simp[zeros]
theorem zCD(k:Nat):zeros (k+1)=zeros k++[0]:=by simp[zeros,Lf]
theorem zHC{b:Int}{v:Vec}:(zeros k++a::v).set k b=zeros k++b::v:=by rw[Lg _ _ (by grind[yD]),yD,Kr,L7]
theorem zHD{v:Vec}:ixO (zeros k++a::v) (k:Int)=Wu a:=by rw[uL,Ja (by grind[yD]),yD,Kr];rfl
theorem zBn{v:Vec}:zeros k++0::v=zeros (k+1)++v:=by rw[zCD,Jg];rfl
theorem sJ(h:v.length<=1000000:=by omega):f_P v=Wu v:=by grind[f_P,yA]
theorem zE4{m:Vec->Vec->Vec}:∀(cs:List Vec)(x:Vec)(i:Nat)(acc:Vec),i<cs.length->i<x.length->
  img m (cs.take (i+1)) (x.take (i+1)) acc=iter (at0 x i).toNat (fun v=>m v (cs.getD i [])) (img m (cs.take i) (x.take i) acc)
 | [],_,_,_,h,_=>by simp at h
 |_::_,[],_,_,_,h=>by simp at h
 |c::cs,a::x,0,acc,_,_=>by rfl
 |c::cs,a::x,i+1,acc,h,h'=>by simp only[La,img,at0,List.getD_cons_succ];exact zE4 cs x i _ (by grind) (by grind)
theorem zAE{body:α×Int->Option ((α×Int)⊕α)}{S:β->Prop}(e:β->α)(g:β->β)(n:Int)(hn:0<=n)(hS:∀a,S a->S (g a))
  (h:∀a(i:Nat),S a->(i:Int)<n->body (e a,(i:Int))=Wu (.inl (e (g a),((i+1:Nat):Int))))(he:∀a,S a->body (e a,n)=Wu (.inr (e a))){a:β}(ha:S a):
  zF body (e a,0)=Wu (e (iter n.toNat g a)):=by
 have eV:∀k,S (iter k g a):=fun k=>tA (S:=S) hS k ha
 exact zN (body:=body) (r:=e (iter n.toNat g a)) (fun i=>(e (iter i g a),(i:Int))) n.toNat (by grind[wG]) (by grind)
theorem zT0{v:Vec}(h:i<v.length:=by omega):ixO (zeros k++v) ((k+i:Nat):Int)=Wu (at0 v i):=by rw[uL,Ja (by grind[yD]),yD,show k+i-k=i from by omega,J3 h,at0,J2,J3 h];rfl
theorem zF9{x:SPr}(ho:Os x.zA):∀(d k:Nat)(v:List Int),k+d=x.zA.length->V (suf x k) v->v.length=d/\ ∀i,i<d->0<=at0 v i/\at0 v i<at0 x.zA (k+i)/\at0 v i<=6
 |0,k,v,hk,hv=>by
  rw[vQ]at hv;simp only[V]at hv
  grind
 |d+1,k,v,hk,hv=>by
  rw[yB]at hv
  match v,hv with
  |a::v,hv=>
   obtain⟨h1,h2⟩:=zF9 ho d (k+1) v (by omega) hv.2;refine⟨by simp[h1],fun i hi=>?_⟩;cases i with
   |zero=>
    have h3:=hv.1;simp only[lvl]at h3;have:=(ho.2 k (by omega)).pos
    grind
   |succ i=>
    grind
theorem zGD(h:Pres x)(hk:k<x.zA.length)(hi:i<x.zA.length-(k+1):=by omega):
  ∃c,ixO x.zG (k:Int)=Wu (x.zG.getD k [])/\ixO (x.zG.getD k []) (i:Int)=Wu (zeros (k+1)++c)/\V (suf x (k+1)) c/\(lvl x k).cs.getD i []=c:=by
 obtain⟨t1,t2,t3⟩:=h.tl k hk;have hc:=h.cl
 grind[yS,zAp,zA0,lvl]
def FAt(x:SPr)(k:Nat)(g:SPr->Int->List Int->List Int->Option (List Int)):Prop:=
 ∀a b,V (suf x k) a->V (suf x k) b->g x k (zeros k++a) (zeros k++b)=Wu (zeros k++mul (suf x k) a b)
def FIm(x:SPr)(k:Nat)(g:SPr->Int->List Int->Option (List Int)):Prop:=
 ∀v,V (suf x (k+1)) v->g x k (zeros (k+1)++v)=Wu (zeros (k+1)++sig (suf x (k+1)) (lvl x k) v)
theorem zNB(h:Pres x)(hk:k<x.zA.length){g:SPr->Int->List Int->List Int->Option (List Int)}(hg:FAt x (k+1) g):FIm x k (b_h g):=by
 intro v hv;have h6:=h.os.1;have ok:=h.okAt (k:=k+1) (by omega);obtain⟨pq,hvr⟩:=zF9 h.os (x.zA.length-(k+1)) (k+1) v (by omega) hv;have gm:=yC x (k+1);have gF:(lvl x k).cs.length=x.zA.length-(k+1):=by have:=h.okAt (k:=k) (by omega);rw[yB hk]at this;rw[this.2.2.1,gm]
 have eu:∀c∈(lvl x k).cs,V (suf x (k+1)) c:=by have:=h.okAt (k:=k) (by omega);rw[yB hk]at this;exact this.2.2.2.1
 have hA:∀i,V (suf x (k+1)) (img (mul (suf x (k+1))) ((lvl x k).cs.take i) (v.take i) (zeros (suf x (k+1)).length)):=fun i=>
  kR (yT ok) _ _ (by grind) (xT ok)
 unfold b_h;rw[yZ,bs,zB,bs,cs];have hz:J0 x.zA.length (0:Int)=zeros (k+1)++zeros (suf x (k+1)).length:=by rw[gm];simp only[zeros,Jx];congr 1;omega
 rw[hz];have:=zN (body:=zVe g x k (zeros (k+1)++v)) (r:=zeros (k+1)++sig (suf x (k+1)) (lvl x k) v)
  (fun i=>(zeros (k+1)++img (mul (suf x (k+1))) ((lvl x k).cs.take i) (v.take i) (zeros (suf x (k+1)).length),((k+1+i:Nat):Int))) (x.zA.length-(k+1)) (fun i hi=>by
  have hr:=hvr i hi;obtain⟨c,c1,c2,c3,c4⟩:=zGD h hk hi;unfold zVe;rw[Wz,zK];rw[zAE (S:=V (suf x (k+1))) (body:=zVd g x k (zeros (k+1)++v) (zeros (k+1)++img (mul (suf x (k+1))) ((lvl x k).cs.take i) (v.take i) (zeros (suf x (k+1)).length),((k+1+i:Nat):Int))) (fun u=>zeros (k+1)++u) (fun u=>mul (suf x (k+1)) u c) (at0 v i) hr.1 (by grind[yT]) (fun u q hu hq=>by
   unfold zVd;simp only
   rw[zT0,bs,Wz hq,zK,zB,bs,c1,bs,zB,bs,zB,bs,
    show(((k+1+i:Nat):Int)-(k:Int)-1)=(i:Int)from by omega,c2,bs,cs,hg u c hu c3,bs,zB,bs,cs]) (fun u hu=>by
   unfold zVd;simp only
   rw[zT0,bs,Wy (by omega),zL]) (hA i),bs,zB,bs,cs]
  rw[zE4 _ _ _ _ (by omega) (by omega),c4];rfl) (by
  unfold zVe;rw[Wy (by omega),zL,Jt (by omega),Jt (by omega)];rfl)
 grind[img]
theorem zWA(h:Pres x)(hk:k<x.zA.length){g:SPr->Int->List Int->List Int->Option (List Int)}{gi:SPr->Int->List Int->Option (List Int)}(hg:FAt x (k+1) g)(hi:FIm x k gi):FAt x k (b_a gi g):=by
 intro a b ha hb;have h6:=h.os.1;have hp:=(h.os.2 k hk).pos;have ok:=h.okAt (k:=k+1) (by omega);have ok0:=h.okAt (k:=k) (by omega);obtain⟨hal,har⟩:=zF9 h.os (x.zA.length-k) k a (by omega) ha;obtain⟨mN,hbr⟩:=zF9 h.os (x.zA.length-k) k b (by omega) hb;rw[yB hk]at ha hb ok0;obtain⟨a0,a,rfl⟩:∃a0 a',a=a0::a':=by cases a with|nil=>grind|cons p q=>simp
 obtain⟨b0,b,rfl⟩:∃a0 a',b=a0::a':=by cases b with|nil=>grind|cons p q=>simp
 obtain⟨⟨a1,a2⟩,ha⟩:=ha;obtain⟨⟨b1,b2⟩,hb⟩:=hb;have gT:(lvl x k).o=at0 x.zA k:=rfl;rw[gT]at a2 b2;unfold b_a;rw[Wy (by omega),zL,sJ (by grind[yD]),bs,sJ (by simp[yD]at mN ⊢;omega),bs,zHD,bs,zHD,bs,J7,zHC,zHC,zBn,zBn];have fa:∀u,V (suf x (k+1)) u->V (suf x (k+1)) (sig (suf x (k+1)) (lvl x k) u):=by grind[zAh]
 have eV:V (suf x (k+1)) (iter b0.toNat (sig (suf x (k+1)) (lvl x k)) a):=tA fa _ ha;rw[zAE (S:=V (suf x (k+1))) (fun u=>zeros (k+1)++u) (sig (suf x (k+1)) (lvl x k)) b0 b1 fa (fun u q hu hq=>by
   unfold zX9;simp only
   rw[zHD,bs,Wz hq,zK,hi u hu,bs,zB,bs,cs]) (fun u hu=>by
   unfold zX9;simp only
   rw[zHD,bs,Wy (by omega),zL]) ha,bs,zB,bs,cs,hg _ _ eV hb,bs,bs,bs,zB,bs,xM hk,bs]
 have hm:=yT ok eV hb;have hml:=(zF9 h.os (x.zA.length-(k+1)) (k+1) _ (by omega) hm).1;have own:∀u,V (suf x (k+1)) u->f_P (zeros (k+1)++u)=Wu (zeros (k+1)++u):=fun u hu=>sJ (by
  have:=(zF9 h.os (x.zA.length-(k+1)) (k+1) _ (by omega) hu).1
  grind[yD])
 rw[yB hk,yN,gT]
 by_cases hge:a0+b0>=at0 x.zA k
 ·have t1:=(h.tl k hk).1
  have hw:=zAp t1 hk;have iL:=h.pl;rw[Wz hge,zK,if_pos hge,bs,zB,bs,bs,yS [],bs,zA0 t1 hk,hg _ _ hw hm,bs,own _ (yT ok hw hm),bs];rw[<-zBn,zHD,bs,zHC];rfl
 ·rw[Wy hge,zL,if_neg hge,own _ hm,bs,<-zBn,zHD,bs,zHC]
theorem zJy{x:SPr}(h:Pres x):∀(d k:Nat),k+d=x.zA.length->(∀m,2*d+1<=m->FAt x k (zOu m))/\(1<=d-> ∀m,2*d<=m->FIm x k (zR0 m))
 |0,k,hk=>by
  refine⟨fun m hm a b ha hb=>?_,fun h=>by omega⟩;have h6:=h.os.1;obtain⟨m,rfl⟩:∃m',m=m'+1:=⟨m-1,by omega⟩;show b_a _ _ x k _ _=_;unfold b_a;rw[Wz,zK,yZ,bs,vQ]
  grind[mul,zeros]
 |d+1,k,hk=>by
  obtain⟨h1,h2⟩:=zJy h d (k+1) (by omega);have hI:∀m,2*(d+1)<=m->FIm x k (zR0 m):=fun m hm=>by obtain⟨m,rfl⟩:∃m',m=m'+1:=⟨m-1,by omega⟩;exact zNB h (by omega) (h1 m (by omega))
  refine⟨fun m hm=>?_,fun _=>hI⟩;obtain⟨m,rfl⟩:∃m',m=m'+1:=⟨m-1,by omega⟩;exact zWA h (by omega) (h1 m (by omega)) (hI m (by omega))
theorem zGE(h:Pres x)(hk:k<=x.zA.length):FAt x k f_a:=fun a b ha hb=>
 zEx (2*(x.zA.length-k)+1) fun m hm=>(zJy h (x.zA.length-k) k (by omega)).1 m hm a b ha hb
theorem zCE:∀{P Q:Pcp},Q<:+P->xS P->xS Q
 | [],Q,h,_=>by grind
 |l::P,Q,h,hc=>by
  rcases Qq.1 h with rfl|h
  ·exact hc
  ·exact zCE h hc.1
theorem zJz:∀{P Q:Pcp},Q<:+P->Pc.Ok P->Pc.Ok Q
 | [],Q,h,_=>by grind
 |l::P,Q,h,hc=>by
  rcases Qq.1 h with rfl|h
  ·exact hc
  ·exact zJz h hc.2.2.2.2
theorem zNC(x:SPr)(k:Nat):suf x (k+1)<:+suf x k:=by grind[yB,vQ]
theorem zCF{x:SPr}{k:Nat}(h:xS (suf x k)):∀i,xS (suf x (k+i))
 |0=>h
 |i+1=>zCE (zNC x (k+i)) (zCF h i)
theorem zDC(h:Pres x)(hk:k<=x.zA.length)(hc:xS (suf x k)):Grp (V (suf x k)) (mul (suf x k)) (zeros (suf x k).length):=zAo _ (h.okAt hk) hc
theorem zGF{x:SPr}:∀(i k:Nat)(v:Vec),k+i<=x.zA.length->V (suf x k) v-> ∃q v',v=q++v'/\q.length=i/\V (suf x (k+i)) v'/\
  ∀a b,V (suf x (k+i)) a->V (suf x (k+i)) b->mul (suf x k) (q++a) (zeros i++b)=q++mul (suf x (k+i)) a b
 |0,k,v,_,hv=>⟨[],v,rfl,rfl,hv,fun a b _ _=>rfl⟩
 |i+1,k,v,hk,hv=>by
  rw[yB]at hv
  match v,hv with
  |e::v,hv=>
   obtain⟨q,v',h1,h2,h3,h4⟩:=zGF i (k+1) v (by omega) hv.2;rw[show k+1+i=k+(i+1)from by omega]at h3 h4;refine⟨e::q,v',by grind,by simp[h2],h3,fun a b ha hb=>?_⟩;have he:=hv.1;rw[yB];show mul (lvl x k::suf x (k+1)) (e::(q++a)) (0::(zeros i++b))=_;rw[yN,Kf,if_neg (by omega)]
   grind[iter]
def FTV(x:SPr)(k:Nat)(g:SPr->List Int->List Int->Option (List Int)):Prop:=
 ∀p v u,p.length=k->V (suf x k) v->V (suf x k) u->g x (p++v) (zeros k++u)=Wu (p++mul (suf x k) v u)
def FTG(x:SPr)(k:Nat)(g:SPr->List Int->Int->Option (List Int)):Prop:=
 ∀p v,p.length=k->V (suf x k) v->g x (p++v) (k:Int)=Wu (p++mul (suf x k) v (1::zeros (x.zA.length-(k+1))))
theorem zJ0(h:Pres x)(hk:k<x.zA.length){g:SPr->List Int->List Int->Option (List Int)}(hg:FTV x (k+1) g){t:Vec}(ht:V (suf x (k+1)) t)
  {body1:List Int×Int->Int->List Int×Int->Option ((List Int×Int)⊕List Int)}{body2:List Int×Int->Option ((List Int×Int)⊕List Int)}
  (cH:∀s,body2 s=cond (decide (s.2<(t.length:Int))) ((ixO t s.2).bind fun v17=>(zF (body1 s v17) (s.1,0)).bind fun r=>(rng (s.2+1)).bind fun v=>Wu (.inl (r,v))) (Wu (.inr s.1)))
  (uv:∀s v q,body1 s v q=cond (decide (q.2<v)) ((ixO x.zG (k:Int)).bind fun cl=>(ixO cl s.2).bind fun c=>(g x q.1 c).bind fun r=>(rng (q.2+1)).bind fun w=>Wu (.inl (r,w))) (Wu (.inr q.1)))
  {p:Vec}(hp:p.length=k+1){u:Vec}(hu:V (suf x (k+1)) u):zF body2 (p++u,0)=Wu (p++img (mul (suf x (k+1))) (lvl x k).cs t u):=by
 have h6:=h.os.1;have ok:=h.okAt (k:=k+1) (by omega);have ok0:=h.okAt (k:=k) (by omega);rw[yB hk]at ok0;obtain⟨fC,dn⟩:=zF9 h.os (x.zA.length-(k+1)) (k+1) t (by omega) ht;have gF:(lvl x k).cs.length=x.zA.length-(k+1):=by rw[ok0.2.2.1,yC]
 have hA:∀i,V (suf x (k+1)) (img (mul (suf x (k+1))) ((lvl x k).cs.take i) (t.take i) u):=fun i=>
  kR (yT ok) _ _ (fun c hc=>ok0.2.2.2.1 c (by grind)) hu
 have:=zN (body:=body2) (r:=p++img (mul (suf x (k+1))) (lvl x k).cs t u) (fun i=>(p++img (mul (suf x (k+1))) ((lvl x k).cs.take i) (t.take i) u,(i:Int))) t.length (fun i hi=>by
  have hr:=dn i (by omega);obtain⟨c,c1,c2,c3,c4⟩:=zGD h hk (i:=i);rw[cH];simp only
  rw[xD hi,zK,xM hi,bs];rw[zAE (S:=V (suf x (k+1))) (fun u=>p++u) (fun u=>mul (suf x (k+1)) u c) (at0 t i) hr.1 (by grind[yT]) (fun u q hu hq=>by
   rw[uv];simp only
   rw[Wz hq,zK,c1,bs,c2,bs,hg p u c hp hu c3,bs,zB,bs,cs]) (by grind) (hA i),bs,zB,bs,cs]
  rw[zE4 _ _ _ _ (by omega) (by omega),c4]) (by
  grind)
 grind[img]
theorem zYE{p v:Vec}(hp:p.length=k):ixO (p++a::v) (k:Int)=Wu a:=by rw[uL,Ja (by omega),hp,Kr];rfl
theorem p_set{p v:Vec}{b:Int}(hp:p.length=k):(p++a::v).set k b=p++b::v:=by simp_all
theorem zLY(h:Pres x)(hk:k<x.zA.length)(hc:xS (suf x (k+1))){g:SPr->List Int->List Int->Option (List Int)}(hg:FTV x (k+1) g):FTG x k (b_c g):=by
 intro p v hp hv;have h6:=h.os.1;have G:=zDC h (k:=k+1) (by omega) hc;have ok:=h.okAt (k:=k+1) (by omega);have ok0:=h.okAt (k:=k) (by omega);obtain⟨pq,hvr⟩:=zF9 h.os (x.zA.length-k) k v (by omega) hv;rw[yB hk]at hv ok0;obtain⟨e,t,rfl⟩:∃a0 a',v=a0::a':=by cases v with|nil=>grind|cons p q=>simp
 obtain⟨⟨e1,e2⟩,ht⟩:=hv;have gT:(lvl x k).o=at0 x.zA k:=rfl;rw[gT]at e2;have fm:=(h.os.2 k hk).pos;have fC:=(zF9 h.os (x.zA.length-(k+1)) (k+1) t (by omega) ht).1;have fW:=yC x (k+1);unfold b_c;have hs:zT (p++e::t) ((k+1:Nat):Int) ((p++e::t).length:Int)=Wu t:=by
  unfold zT;rw[if_pos (by grind)];have e3:(p++e::t).drop (k+1)=t:=by rw[Jb3,Lw (by omega),hp,show k+1-k=1 from by omega];rfl
  grind[J7]
 have aa:f_A t=Wu t:=by grind[f_A,yA]
 rw[zB,bs,cs,hs,bs,aa,bs];have hz:=zN (body:=zVh k t) (r:=(p++[e])++zeros t.length) (fun i=>((p++[e])++(zeros i++t.drop i),(i:Int))) t.length (fun i hi=>by
  have hl:((p++[e])++zeros i).length=k+1+i:=by grind[yD]
  unfold zVh;simp only
  rw[xD hi,zK,zB,bs,zB,bs,show(k:Int)+1+(i:Int)=((k+1+i:Nat):Int)from by omega,uL,<-Jg,Ja (by omega),hl,Kr,
   Ku hi,Qc,bs,zB,bs,cs,J7,Lg _ _ (by omega),hl,Kr,L7,zCD]
  simp) (by
  unfold zVh;simp)
 simp only[zeros,Kt,Hr,Js,Jg,Lv]at hz;rw[show((0:Nat):Int)=0 from rfl]at hz;rw[hz,bs,J7,zYE hp,bs,zB,bs,bs,p_set hp,zYE hp,bs,xM hk,bs];have eT:J0 t.length (0:Int)=zeros (suf x (k+1)).length:=by rw[fW,fC];rfl
 rw[yB hk,yN,gT];have gw:mul (suf x (k+1)) (iter (1:Int).toNat (sig (suf x (k+1)) (lvl x k)) t) (zeros (x.zA.length-(k+1)))=sig (suf x (k+1)) (lvl x k) t:=by rw[<-fW];show mul _ (sig (suf x (k+1)) (lvl x k) t) _=_;exact G.oner (zAh ok0 ht)
 rw[gw,eT]
 by_cases heq:e+1=at0 x.zA k
 ·have t1:=(h.tl k hk).1
  have hw:=zAp t1 hk;have iL:=h.pl;have dL:(p++[(0:Int)]).length=k+1:=by simp[hp]
  rw[show(e+1==at0 x.zA k)=Ww from by grind,zK,if_pos (by omega),bs,yS [],bs,p_set hp];have iH:p++0::zeros (suf x (k+1)).length=(p++[0])++zeros (suf x (k+1)).length:=by simp
  rw[iH,zA0 t1 hk,hg _ _ _ dL G.ein hw,bs,G.onel hw];rw[zJ0 (body1:=yAD g x k) (body2:=yAE g x k t) h hk hg ht (fun _=>rfl) (fun _ _ _=>rfl) dL hw,bs];rw[zDf G.toMon _ _ ok0.2.2.2.1 hw,show e+1-at0 x.zA k=0 from by omega];simp only[Jg,Lv];rfl
 ·have dL:(p++[e+1]).length=k+1:=by simp[hp]
  rw[show(e+1==at0 x.zA k)=Wx from by grind,zL,if_neg (by omega)];have iH:p++(e+1)::zeros (suf x (k+1)).length=(p++[e+1])++zeros (suf x (k+1)).length:=by simp
  rw[iH,zJ0 (body1:=yAF g x k) (body2:=yAG g x k t) h hk hg ht (fun _=>rfl) (fun _ _ _=>rfl) dL G.ein,bs];simp only[Jg,Lv];rfl
theorem zBW(h:i<n:=by omega):wL n i=zeros i++1::zeros (n-(i+1)):=by
 have:zeros n=zeros i++0::zeros (n-(i+1)):=by
  simp only[zeros];rw[<-Jw,Jx]
  grind
 grind[wL,zHC]
theorem zE5(n:Nat):(wI n).length=n:=by simp[wI]
theorem zHE(h:i<n):(wI n).getD i []=wL n i:=by simp[wI,J2,h]
theorem zT1(h:Pres x)(hk:k<=x.zA.length)(hc:xS (suf x k)){g:SPr->List Int->Int->Option (List Int)}(hg:∀j,k<=j->j<x.zA.length->FTG x j g):FTV x k (b_b g):=by
 intro p v u hp hv hu;have h6:=h.os.1;have G:=zDC h hk hc;have ok:=h.okAt hk;obtain⟨px,je⟩:=zF9 h.os (x.zA.length-k) k u (by omega) hu;have fW:=yC x k;have hV1:∀j,j<=x.zA.length->j<x.zA.length->V (suf x j) (1::zeros (x.zA.length-(j+1))):=fun j hj pR=>by rw[yB pR];have:=(h.os.2 j pR).pos;refine⟨⟨by omega,by show 1<at0 x.zA j;omega⟩,?_⟩;rw[<-yC];exact xT (h.okAt (by omega))
 have hUn:∀i,i<x.zA.length-k->V (suf x k) (wL (x.zA.length-k) i):=by grind[zCB]
 have hUs:∀c∈wI (x.zA.length-k),V (suf x k) c:=fun c hc=>by
  simp only[wI,Jq,Ll]at hc
  grind
 have hA:∀i,V (suf x k) (img (mul (suf x k)) ((wI (x.zA.length-k)).take i) (u.take i) v):=fun i=>
  kR (yT ok) _ _ (by grind) hv
 have VO:∀i w,i<x.zA.length-k->V (suf x k) w->g x (p++w) ((k+i:Nat):Int)=Wu (p++mul (suf x k) w (wL (x.zA.length-k) i)):=fun i w hi hw=>by obtain⟨q,w',h1,h2,h3,h4⟩:=zGF i k w (by omega) hw;have h5:=hg (k+i) (by omega) (by omega) (p++q) w' (by grind) h3;rw[Jg,<-h1]at h5;rw[h5,zBW hi,h1,show x.zA.length-k-(i+1)=x.zA.length-(k+i+1)from by omega,h4 w' _ h3 (hV1 (k+i) (by omega) (by omega)),Jg]
 unfold b_b;have dj:(zeros k++u).length=x.zA.length:=by grind[yD]
 have:=zN (body:=zVj g x (zeros k++u)) (r:=p++mul (suf x k) v u) (fun j=>(p++img (mul (suf x k)) ((wI (x.zA.length-k)).take (j-k)) (u.take (j-k)) v,(j:Int))) x.zA.length (fun j hj=>by
  unfold zVj;simp only
  rw[dj,xD hj,zK];rcases Jk j k with hjk|hjk
  ·have e0:ixO (zeros k++u) (j:Int)=Wu 0:=by
    rw[uL,K1 (by grind)]
    grind[zeros]
   rw[e0,bs,show j-k=0 from by omega,show j+1-k=0 from by omega];rw[yW];unfold zVi;simp only
   rw[show decide ((0:Int)<0)=Wx from rfl,zL];simp only
   rw[bs,zB,bs,cs]
  ·obtain⟨i,rfl⟩:∃i,j=k+i:=⟨j-k,by omega⟩
   have hi:i<x.zA.length-k:=by omega
   have hr:=je i hi;rw[zT0,bs,show k+i-k=i from by omega,show k+i+1-k=i+1 from by omega];rw[zAE (S:=V (suf x k)) (fun w=>p++w) (fun w=>mul (suf x k) w (wL (x.zA.length-k) i)) (at0 u i) hr.1 (by grind[yT]) (fun w q hw hq=>by
    unfold zVi;simp only
    rw[Wz hq,zK,VO i w hi hw,bs,zB,bs,cs]) (fun w hw=>by
    unfold zVi;simp) (hA i),bs,zB,bs,cs]
   rw[zE4 _ _ _ _ (by grind[zE5]) (by omega),zHE hi]) (by
  unfold zVj;simp only
  rw[dj,wX,zL,Jt (by grind[zE5]),Jt (by omega),zDf G.toMon _ _ hUs hv];have hn:=normal (suf x k) ok (fun Q hQ=>(zAo Q (zJz hQ ok) (zCE hQ hc)).toMon) u hu
  grind)
 simp only[Jb5,L9,img]at this
 grind
theorem zFA{x:SPr}(h:Pres x):∀(d k:Nat),k+d=x.zA.length->xS (suf x k)->(∀m,2*d+1<=m->FTV x k (zR1 m))
 |d,k,hk,hc=>fun m hm=>by
  obtain⟨m,rfl⟩:∃m',m=m'+1:=⟨m-1,by omega⟩;refine zT1 h (by omega) hc fun j hj ph=>?_
  obtain⟨m,rfl⟩:∃m',m=m'+1:=⟨m-1,by omega⟩;have mJ:xS (suf x (j+1)):=by
   have:=zCF hc (j+1-k)
   grind
  exact zLY h ph mJ (zFA h (x.zA.length-(j+1)) (j+1) (by omega) mJ m (by omega))
 termination_by d=>d
 decreasing_by omega
theorem zWB(h:Pres x)(hk:k<=x.zA.length)(hc:xS (suf x k)):FTV x k f_b:=fun p v u hp hv hu=>
 zEx (2*(x.zA.length-k)+1) fun m hm=>zFA h (x.zA.length-k) k (by omega) hc m hm p v u hp hv hu
theorem zWC(h:Pres x)(hk:k<x.zA.length)(hc:xS (suf x (k+1))):FTG x k f_c:=fun p v hp hv=>
 zEx (2*(x.zA.length-k)) fun m hm=>by obtain⟨m,rfl⟩:∃m',m=m'+1:=⟨m-1,by omega⟩;exact zLY h hk hc (zFA h (x.zA.length-(k+1)) (k+1) (by omega) hc m (by omega)) p v hp hv
abbrev fv(k:Nat)(v:Vec):Vec:=zeros k++v
section
variable {x:SPr} (h:Pres x) {k:Nat} (hk:k<=x.zA.length) (hc:xS (suf x k))
 include h hk
theorem uG{v:Vec}(hv:V (suf x k) v):v.length=x.zA.length-k:=(zF9 h.os (x.zA.length-k) k v (by omega) hv).1
theorem zHF{v:Vec}(hv:V (suf x k) v):(fv k v).length=x.zA.length:=by grind[yD,uG]
theorem zT2:J0 x.zA.length (0:Int)=fv k (zeros (suf x k).length):=by
 have _:=h;rw[yC];simp only[fv,zeros,Jx];grind
 include hc
theorem zZR(hi:i<x.zA.length-k):V (suf x k) (wL (x.zA.length-k) i):=by
 have _:=hc;have:=yC x k;rw[<-this]at hi ⊢
 exact zCB (h.okAt hk) hi
theorem zLZ{p:Vec}(hp:p.length=k)(hi:i<x.zA.length-k){w:Vec}(hw:V (suf x k) w):f_c x (p++w) ((k+i:Nat):Int)=Wu (p++mul (suf x k) w (wL (x.zA.length-k) i)):=by
 obtain⟨q,w',h1,h2,h3,h4⟩:=zGF i k w (by omega) hw;have mJ:xS (suf x (k+i+1)):=zCF hc (i+1);have h5:=zWC h (k:=k+i) (by omega) mJ (p++q) w' (by grind) h3;have h7:V (suf x (k+i)) (1::zeros (x.zA.length-(k+i+1))):=by
  have pR:k+i<x.zA.length:=by omega
  rw[yB pR];have:=(h.os.2 (k+i) pR).pos;refine⟨⟨by omega,by show 1<at0 x.zA (k+i);omega⟩,?_⟩;rw[<-yC];exact xT (h.okAt (by omega))
 grind[zBW]
theorem zHG{a b:Vec}(ha:V (suf x k) a)(hb:V (suf x k) b):f_b x (fv k a) (fv k b)=Wu (fv k (mul (suf x k) a b)):=
 zWB h hk hc (zeros k) a b (yD k) ha hb
theorem zHH{a:Vec}(ha:V (suf x k) a):f_A (fv k a)=Wu (fv k a):=by
 have _:=hc;have:=zHF h hk ha;have h6:=h.os.1
 grind[f_A,yA]
theorem zDD{a b:Vec}(ha:V (suf x k) a)(hb:V (suf x k) b):zI5 x (fv k a) (fv k b)=Wu (fv k (mul (suf x k) a b)):=by grind[zI5,zHH,zHG]
theorem zND{c:Vec}(fO:V (suf x k) c){e:Int}(e0:0<=e)(e1:e<=1000):f_Q x (fv k c) e=Wu (fv k (pw (mul (suf x k)) (zeros (suf x k).length) c e.toNat)):=by
 have h6:=h.os.1;have ok:=h.okAt hk;unfold f_Q;rw[zHF h hk fO,yZ,bs,zT2 h hk];rw[zAE (S:=V (suf x k)) (body:=zVl x (fv k c) e) (fun u=>fv k u) (fun u=>mul (suf x k) u c) e e0 (by grind[yT]) (fun u i hu hi=>by
  unfold zVl;simp only
  rw[Wz hi,zK,zHG h hk hc hu fO,bs,zB,bs,cs]) (fun u hu=>by
  unfold zVl;simp) (xT ok),bs]
 rfl
theorem zBb{v:Vec}(hv:V (suf x k) v):∃w,V (suf x k) w/\mul (suf x k) v w=zeros (suf x k).length/\f_B x (fv k v)=Wu (fv k w):=by
 have h6:=h.os.1;have ok:=h.okAt hk;have G:=zDC h hk hc;have pq:=zHF h hk hv;have fW:=yC x k;unfold f_B;rw[zHH h hk hc hv,bs,pq,yZ,bs,zT2 h hk]
 let I:Nat->(List Int×List Int×Int)->Prop:=fun j s=> ∃A w,s=(fv k A,fv k w,(j:Int))/\V (suf x k) A/\V (suf x k) w/\mul (suf x k) v w=A/\ ∃A',A=zeros (j-k)++A'
 have key:=uE (body:=zVm x (fv k v)) (Q:=fun r=> ∃w,V (suf x k) w/\mul (suf x k) v w=zeros (suf x k).length/\r=fv k w) I x.zA.length (fun j s hj hI=>by
  obtain⟨A,w,rfl,hA,hw,hm,A',hA'⟩:=hI;left;unfold zVm;simp only
  rw[pq,xD hj,zK];rcases Jk j k with hjk|hjk
  ·have e0:ixO (fv k A) (j:Int)=Wu 0:=by
    grind[uL,zeros]
   rw[yW];unfold zR2;simp only
   rw[e0,bs,show((0:Int) != 0)=Wx from rfl,zL];simp only
   rw[bs,zB,bs,cs]
   grind
  ·obtain⟨i,rfl⟩:∃i,j=k+i:=⟨j-k,by omega⟩
   have hi:i<x.zA.length-k:=by omega
   rw[show k+i-k=i from by omega]at hA';have ak:=uG h hk hA;obtain⟨a0,A',rfl⟩:∃p q,A'=p::q:=by
    cases A' with
    |nil=>grind[yD]
    |cons p q=>simp
   have fm:=(h.os.2 (k+i) hj).pos;have inner:=uE (body:=zR2 x (fv k A,fv k w,((k+i:Nat):Int))) (s:=(fv k A,fv k w))
    (Q:=fun r=> ∃B u,r=(fv k B,fv k u)/\V (suf x k) B/\V (suf x k) u/\mul (suf x k) v u=B/\ ∃B',B=zeros (i+1)++B')
    (fun q s=> ∃B u b B',s=(fv k B,fv k u)/\V (suf x k) B/\V (suf x k) u/\mul (suf x k) v u=B/\B=zeros i++b::B'/\(b=0\/b=a0+q)) 10 (fun q s hq hs=>by
     obtain⟨B,u,b,B',rfl,hB,hu,aC,aj,hb⟩:=hs;have hz:ixO (fv k B) ((k+i:Nat):Int)=Wu b:=by rw[fv,zT0 (by grind[uG]),aj,at0,J2,Ja (by rw[yD];omega),yD,Kr];rfl
     unfold zR2;simp only
     rw[hz,bs]
     by_cases Wc:b=0
     ·subst Wc
      right;rw[show((0:Int) != 0)=Wx from rfl,zL];exact⟨_,rfl,B,u,rfl,hB,hu,aC,B',by rw[aj,zBn]⟩
     ·left
      have hbq:b=a0+q:=by omega
      rw[show(b != 0)=Ww from by grind,zK,zLZ h hk hc (yD k) hi hB,bs,zLZ h hk hc (yD k) hi hu,bs];have hU:=zZR h hk hc hi;obtain⟨q',v',h1,h2,h3,h4⟩:=zGF i k B (by omega) hB;have hqv:q'=zeros i/\v'=b::B':=by grind[List.append_inj,yD]
      obtain⟨rfl,rfl⟩:=hqv;have h7:V (suf x (k+i)) (1::zeros (x.zA.length-(k+i+1))):=by rw[yB hj];refine⟨⟨by omega,by show 1<at0 x.zA (k+i);omega⟩,?_⟩;rw[<-yC];exact xT (h.okAt (by omega))
      have h8:=h4 (b::B') _ h3 h7;rw[show x.zA.length-(k+i+1)=x.zA.length-k-(i+1)from by omega,<-zBW hi,<-h1,yB hj,yN]at h8;refine⟨_,rfl,mul (suf x k) B (wL (x.zA.length-k) i),mul (suf x k) u (wL (x.zA.length-k) i),?_⟩;have gT:(lvl x (k+i)).o=at0 x.zA (k+i):=rfl;rw[gT]at h8
      by_cases hge:b+1>=at0 x.zA (k+i)
      ·rw[if_pos hge]at h8
       refine⟨_,_,rfl,yT ok hB hU,yT ok hu hU,?_,h8,?_⟩
       ·rw[<-G.assoc hv hu hU,aC]
       ·left
        rw[yB hj]at h3;have:=h3.1.2;omega
      ·rw[if_neg hge]at h8
       refine⟨_,_,rfl,yT ok hB hU,yT ok hu hU,?_,h8,?_⟩
       ·rw[<-G.assoc hv hu hU,aC]
       omega) (fun s hs=>by
     obtain⟨B,u,b,B',rfl,hB,hu,aC,aj,hb⟩:=hs;have hz:ixO (fv k B) ((k+i:Nat):Int)=Wu b:=by rw[fv,zT0 (by grind[uG]),aj,at0,J2,Ja (by rw[yD];omega),yD,Kr];rfl
     have hbr:=(zF9 h.os (x.zA.length-k) k B (by omega) hB).2 i hi;have ha:=(zF9 h.os (x.zA.length-k) k A (by omega) hA).2 i hi;have e1:at0 B i=b:=by rw[aj,at0,J2,Ja (by grind[yD]),yD,Kr];rfl
     have e2:at0 A i=a0:=by rw[hA',at0,J2,Ja (by grind[yD]),yD,Kr];rfl
     have Wc:b=0:=by omega
     subst Wc;unfold zR2;simp only
     rw[hz,bs,show((0:Int) != 0)=Wx from rfl,zL];exact⟨_,rfl,B,u,rfl,hB,hu,aC,B',by rw[aj,zBn]⟩) (by grind)
   obtain⟨r,r1,B,u,rfl,hB,hu,aC,B',aj⟩:=inner;rw[r1,bs,zB,bs,cs]
   grind) (fun s hI=>by
  obtain⟨A,w,rfl,hA,hw,hm,A',hA'⟩:=hI;unfold zVm;simp only
  rw[pq,wX,zL];refine⟨_,rfl,w,hw,?_,rfl⟩;have ak:=uG h hk hA;rw[hA',J5,yD]at ak
  grind) (s:=(fv k v,fv k (zeros (suf x k).length),0))
  ⟨v,_,rfl,hv,xT ok,G.oner hv,v,by rw[Jb5];rfl⟩
 grind
theorem zCG{a b:Vec}(ha:V (suf x k) a)(hb:V (suf x k) b):∃c,V (suf x k) c/\mul (suf x k) b c=mul (suf x k) a b/\zML x (fv k a) (fv k b)=Wu (fv k c):=by
 have ok:=h.okAt hk;have G:=zDC h hk hc;obtain⟨w,hw,hm,h1⟩:=zBb h hk hc hb;have fA:=yT ok ha hb;refine⟨mul (suf x k) w (mul (suf x k) a b),yT ok hw fA,?_,?_⟩
 ·rw[<-G.assoc hb hw fA,hm,G.onel fA]
 grind[zML,zDD]
end
theorem zNE{a b:List Int}(h:a.length<=1000000):yEr a b=Wu (a==b):=
 zTu (t:=fun u v=>Wu (u==v)) (body:=zZd a b) rfl (fun _=>rfl) (by omega) fun _ _ _ _=>rfl
theorem zJ1{a b:List Int}(h:a.length<=1000000):yAB a b=Wu (a==b):=zNE h
theorem uH{σ ρ:Type}{body:σ->Option (σ⊕ρ)}{Q:ρ->Prop}(I:σ->Prop)(m:σ->Nat)
  (h:∀s,I s->(∃s',body s=Wu (.inl s')/\I s'/\m s'<m s)\/ ∃r,body s=Wu (.inr r)/\Q r):∀(k:Nat)(s:σ),m s<=k->I s-> ∃r,zF body s=Wu r/\Q r
 |k,s,hk,hs=>by
  rcases h s hs with⟨s',h1,h2,h3⟩|⟨r,h1,h2⟩
  ·cases k with
   |zero=>omega
   |succ k=>
    obtain⟨r,h4,h5⟩:=uH I m h k s' (by omega) h2
    grind[yW]
  grind[yW]
theorem zMa(h:Exp x.zA v i)(hk:k<=i+1:=by omega)(hn:k<=x.zA.length:=by omega):v=fv k (v.drop k)/\V (suf x k) (v.drop k):=by
 have h1:=h.1.1;constructor
 ·apply Kx
  intro j;rw[fv,Km];simp only[zeros,Jc,K3,Kw];split
  ·rename_i hj
   have h2:=h.2 j (by omega)
   grind
  grind
 ·refine zW9 (x.zA.length-k) k _ (by omega) (by grind) fun j hj=>?_
  have:=h.1.2 (k+j) (by omega)
  grind
structure LC (x:SPr) (k:Nat):Prop where
 c1:∀j,k+1<=j->j<x.zA.length->pw (mul (suf x (k+1))) (zeros (suf x (k+1)).length) ((lvl x k).cs.getD (j-(k+1)) []) (at0 x.zA j).toNat=sig (suf x (k+1)) (lvl x k) ((x.zQ.getD j []).drop (k+1))
 c2:∀i,k+1<=i->i<x.zA.length-> ∀j,i+1<=j->j<x.zA.length->
  mul (suf x (k+1)) ((lvl x k).cs.getD (j-(k+1)) []) ((lvl x k).cs.getD (i-(k+1)) [])=mul (suf x (k+1)) ((lvl x k).cs.getD (i-(k+1)) []) (sig (suf x (k+1)) (lvl x k) (((x.zG.getD i []).getD (j-(i+1)) []).drop (k+1)))
 c3:sig (suf x (k+1)) (lvl x k) (lvl x k).w=(lvl x k).w
 c4:∀j,k+1<=j->j<x.zA.length->mul (suf x (k+1)) (lvl x k).w (iter (lvl x k).o.toNat (sig (suf x (k+1)) (lvl x k)) (wL (x.zA.length-(k+1)) (j-(k+1))))=mul (suf x (k+1)) (wL (x.zA.length-(k+1)) (j-(k+1))) (lvl x k).w
section
variable {x:SPr} (h:Pres x) {k:Nat} (hk:k<x.zA.length) (hc:xS (suf x (k+1)))
 include h hk
theorem zMb(h1:k+1<=j)(h2:j<x.zA.length):ixO x.zG (k:Int)=Wu (x.zG.getD k [])/\ixO (x.zG.getD k []) ((j:Int)-(k:Int)-1)=Wu (fv (k+1) ((lvl x k).cs.getD (j-(k+1)) []))/\V (suf x (k+1)) ((lvl x k).cs.getD (j-(k+1)) []):=by
 obtain⟨c,c1,c2,c3,c4⟩:=zGD h hk (i:=j-(k+1))
 grind
theorem yCt(h1:k+1<=i)(h2:i+1<=j)(h3:j<x.zA.length):ixO x.zG (i:Int)=Wu (x.zG.getD i [])/\ixO (x.zG.getD i []) ((j:Int)-(i:Int)-1)=Wu (fv (k+1) (((x.zG.getD i []).getD (j-(i+1)) []).drop (k+1)))/\V (suf x (k+1)) (((x.zG.getD i []).getD (j-(i+1)) []).drop (k+1)):=by
 obtain⟨_,t2,t3⟩:=h.tl i (by omega)
 grind[zMa,yS]
theorem yCu:ixO x.zQ (k:Int)=Wu (fv (k+1) (lvl x k).w)/\V (suf x (k+1)) (lvl x k).w:=by
 have t1:=(h.tl k hk).1;have hl:=h.pl;obtain⟨e1,e2⟩:=zMa (k:=k+1) t1;exact⟨by rw[yS []];exact congrArg Wu e1,e2⟩
 include hc
end
theorem zA1{m:Vec->Vec->Vec}:∀(i:Nat)(cs:List Vec)(w acc:Vec),i<=cs.length->img m cs (zeros i++w) acc=img m (cs.drop i) w acc
 |0,cs,w,acc,_=>rfl
 |i+1,[],w,acc,h=>by simp at h
 |i+1,c::cs,w,acc,h=>by show img m (c::cs) (0::(zeros i++w)) acc=_;simp only[img,H6,iter,List.drop_succ_cons];exact zA1 i cs w acc (by grind)
theorem zBX(h:Exp x.zA v j)(hj:j<x.zA.length)(hk:k<=j+1:=by omega):v.drop k=zeros (j+1-k)++v.drop (j+1):=by
 have:=zA0 h hj
 grind[zeros]
section
variable {x:SPr} (h:zCo x) {k:Nat} (hk:k<x.zA.length)
 include h hk
theorem sQ:(lvl x k).cs.length=x.zA.length-(k+1):=by have ok0:=h.okAt (k:=k) (by omega);rw[yB hk]at ok0;rw[ok0.2.2.1,yC]
theorem zWD(h1:k+1<=j)(h2:j<x.zA.length):sig (suf x (k+1)) (lvl x k) ((x.zQ.getD j []).drop (k+1))=img (mul (suf x (k+1))) ((lvl x k).cs.drop (j-k)) (lvl x j).w (zeros (suf x (k+1)).length):=by have t1:=(h.tl j h2).1;have gF:=sQ h hk;rw[zBX t1 h2,sig,zA1 _ _ _ _ (by omega),show j+1-(k+1)=j-k from by omega];rfl
theorem zP4:∀(d i:Nat),k+1+i+d=x.zA.length->(Rel (mul (suf x (k+1))) (zeros (suf x (k+1)).length) (suf x (k+1+i)) ((lvl x k).cs.drop i)↔
  (∀j,k+1+i<=j->j<x.zA.length->pw (mul (suf x (k+1))) (zeros (suf x (k+1)).length) ((lvl x k).cs.getD (j-(k+1)) []) (at0 x.zA j).toNat=sig (suf x (k+1)) (lvl x k) ((x.zQ.getD j []).drop (k+1)))/\
  (∀a,k+1+i<=a->a<x.zA.length-> ∀j,a+1<=j->j<x.zA.length->
   mul (suf x (k+1)) ((lvl x k).cs.getD (j-(k+1)) []) ((lvl x k).cs.getD (a-(k+1)) [])=mul (suf x (k+1)) ((lvl x k).cs.getD (a-(k+1)) []) (sig (suf x (k+1)) (lvl x k) (((x.zG.getD a []).getD (j-(a+1)) []).drop (k+1)))))
 |0,i,hi=>by
  have gF:=sQ h hk;rw[vQ (x:=x) (k:=k+1+i),Lw (by omega)];simp only[Rel,true_iff]
  grind
 |d+1,i,hi=>by
  have gF:=sQ h hk;have ih:=zP4 d (i+1) (by omega);rw[show k+1+(i+1)=k+1+i+1 from by omega]at ih;have hj:k+1+i<x.zA.length:=by omega
  have hg:(lvl x k).cs.drop i=(lvl x k).cs.getD i []::(lvl x k).cs.drop (i+1):=by rw[Ku (by omega),J2,J3 (by omega)];rfl
  rw[yB hj,hg];simp only[Rel];rw[ih];have e1:=zWD h hk (j:=k+1+i) (by omega) hj;rw[show k+1+i-k=i+1 from by omega]at e1;have ho:(lvl x (k+1+i)).o=at0 x.zA (k+1+i):=rfl;rw[ho,<-e1];have e2:∀j,k+1+i+1<=j->j<x.zA.length-> ∀dd,(lvl x (k+1+i)).cs[j-(k+1+i+1)]? =Wu dd->img (mul (suf x (k+1))) ((lvl x k).cs.drop (i+1)) dd (zeros (suf x (k+1)).length)=sig (suf x (k+1)) (lvl x k) (((x.zG.getD (k+1+i) []).getD (j-(k+1+i+1)) []).drop (k+1)):=fun j h1 h2 dd VV=>by
   obtain⟨_,t2,t3⟩:=h.tl (k+1+i) hj;have t:=t3 (j-(k+1+i+1)) (by omega);rw[zBX t hj,sig,zA1 _ _ _ _ (by omega),show k+1+i+1-(k+1)=i+1 from by omega]
   congr 1
   simp only[lvl,Jn,Kg]at VV
   grind
  have e3:∀j,k+1+i+1<=j->j<x.zA.length->((lvl x k).cs.drop (i+1))[j-(k+1+i+1)]? =Wu ((lvl x k).cs.getD (j-(k+1)) [])/\ ∃dd,(lvl x (k+1+i)).cs[j-(k+1+i+1)]? =Wu dd:=fun j h1 h2=>by
   have hcl2:=sQ h hj;refine⟨?_,?_⟩
   ·rw[Kw,show i+1+(j-(k+1+i+1))=j-(k+1)from by omega,J2,J3 (by omega)];rfl
   ·exact⟨_,J3 (by omega)⟩
  constructor
  ·rintro⟨a1,a2,a3,a4⟩
   refine⟨fun j h1 h2=>?_,fun a h1 h2 j h3 h4=>?_⟩
   ·rcases Jk (k+1+i) j with gI|hge
    ·grind
    ·obtain rfl:j=k+1+i:=by omega
     rw[show k+1+i-(k+1)=i from by omega];exact a1
   ·rcases Jk (k+1+i) a with gI|hge
    ·exact a4 a (by omega) h2 j h3 h4
    ·obtain rfl:a=k+1+i:=by omega
     obtain⟨f1,dd,f2⟩:=e3 j (by omega) h4;have:=a2 _ _ _ f1 f2;rw[e2 j (by omega) h4 dd f2]at this;rw[show k+1+i-(k+1)=i from by omega];exact this
  ·rintro⟨a1,a2⟩
   refine⟨?_,fun kk c dd h1 h2=>?_,by grind,by grind⟩
   ·have:=a1 (k+1+i) (by omega) hj
    rw[show k+1+i-(k+1)=i from by omega]at this;exact this
   ·have gI:kk<x.zA.length-(k+1+i+1):=by
     have:=(Jl.1 h1).1;rw[K8]at this;omega
    have g:=a2 (k+1+i) (by omega) hj (k+1+i+1+kk) (by omega) (by omega);obtain⟨f1,_⟩:=e3 (k+1+i+1+kk) (by omega) (by omega);rw[show k+1+i+1+kk-(k+1+i+1)=kk from by omega]at f1 g;rw[h1]at f1;have f1:=Lr.inj f1;have g2:=e2 (k+1+i+1+kk) (by omega) (by omega) dd (by rw[show k+1+i+1+kk-(k+1+i+1)=kk from by omega];exact h2);rw[show k+1+i+1+kk-(k+1+i+1)=kk from by omega]at g2;rw[g2,f1];rw[show k+1+i-(k+1)=i from by omega]at g;exact g
theorem zCH:xS (suf x k)↔xS (suf x (k+1))/\LC x k:=by
 have hr:=zP4 h hk (x.zA.length-(k+1)) 0 (by omega);have hl:=yC x (k+1);rw[Hr,Jae]at hr;rw[yB hk];simp only[xS];rw[hr];constructor
 ·rintro⟨a,⟨b1,b2⟩,c,d⟩
  refine⟨a,⟨b1,b2,c,fun j h1 h2=>?_⟩⟩
  grind
 ·rintro⟨a,b⟩
  refine⟨a,⟨b.c1,b.c2⟩,b.c3,fun j hj=>?_⟩;have:=b.c4 (k+1+j) (by omega) (by omega);rw[show k+1+j-(k+1)=j from by omega]at this
  rwa [hl]
end
theorem zJ2(h:xS (suf x 0))(k:Nat):xS (suf x k):=by
 have:=zCF h k
 grind
abbrev Mx:=List (List Int)
variable {A R':Mx}
def S:Nat->(Nat->Int)->Int
 |0,_=>0
 |n+1,f=>S n f+f n
theorem xL{g:Nat->Int}(h:∀i,i<n->f i=g i):S n f=S n g:=by
 induction n with
 |zero=>rfl
 |succ n ih=>grind[S]
theorem zAe{p:Int}{f g:Nat->Int}:∀{n:Nat},(∀i,i<n->f i%p=g i%p)->S n f%p=S n g%p
 |0,_=>rfl
 |n+1,h=>by simp only[S];rw[Kb,zAe (n:=n) fun i hi=>h i (by omega),h n (by omega),<-Kb]
theorem uU:∀n:Nat,S n (fun _=>0)=0
 |0=>rfl
 |n+1=>by simp only[S,uU n];rfl
theorem zCp{f g:Nat->Int}:∀n:Nat,S n (fun i=>f i+g i)=S n f+S n g
 |0=>rfl
 |n+1=>by simp only[S,zCp n];omega
theorem zP5{f:Nat->Int}(a:Int):∀n:Nat,S n (fun i=>f i*a)=S n f*a
 |0=>by simp[S]
 |n+1=>by simp only[S,zP5 a n,Int.add_mul]
theorem zBo{f:Nat->Int}(a:Int):∀n:Nat,S n (fun i=>a*f i)=a*S n f
 |0=>by simp[S]
 |n+1=>by simp only[S,zBo a n,Int.mul_add]
theorem zHI{f:Nat->Nat->Int}(m:Nat):∀n:Nat,S n (fun i=>S m (fun j=>f i j))=S m (fun j=>S n (fun i=>f i j))
 |0=>by simp only[S];grind[uU]
 |n+1=>by simp only[S];rw[zHI m n,zCp]
theorem zAq{f:Nat->Int}{k:Nat}:∀{n:Nat},k<n->(∀i,i<n->i≠k->f i=0)->S n f=f k
 |0,h,_=>by omega
 |n+1,h,hz=>by
  simp only[S]
  by_cases hk:k=n
  ·subst hk
   rw[xL (g:=fun _=>0) fun i hi=>hz i (by omega) (by omega),uU];omega
  ·rw[zAq (n:=n) (by omega) fun i hi=>hz i (by omega),hz n (by omega) (by omega)];omega
def mkv(D:Nat)(f:Nat->Int):List Int:=(Ju D).map f
theorem yI(D:Nat)(f:Nat->Int):(mkv D f).length=D:=by simp[mkv]
theorem zDj(h:i<D):(mkv D f)[i]? =Wu (f i):=by simp[mkv,h]
theorem zY(h:i<D:=by omega):at0 (mkv D f) i=f i:=by rw[at0,J2,zDj h];rfl
theorem yH{g:Nat->Int}(h:∀i,i<D->f i=g i):mkv D f=mkv D g:=by grind[mkv,Uj]
theorem kS:(mkv D f).set j a=mkv D (fun i=>if i=j then a else f i):=by
 apply Kx;intro i;rw[List.getElem?_set,yI]
 by_cases hi:i<D
 ·by_cases gQ:j=i
  ·subst gQ;rw[if_pos rfl,if_pos hi,zDj hi,if_pos rfl]
  ·rw[if_neg gQ,zDj hi,zDj hi,if_neg fun h=>gQ h.symm]
 ·have h1:∀g:Nat->Int,(mkv D g)[i]? =Wv:=by grind[yI]
  grind
theorem vT(h:v.length=D):v=mkv D (at0 v):=by
 apply Kx;intro i
 by_cases hi:i<D
 ·rw[zDj hi,at0,J2,J3 (by omega)];rfl
 grind[yI]
theorem sK(D:Nat):J0 D (0:Int)=mkv D (fun _=>0):=by
 apply Kx
 grind[zDj,yI]
abbrev ent(B:Mx)(l j:Nat):Int:=at0 (B.getD l []) j
def wQ(p:Int)(D:Nat)(r:List Int)(B:Mx):List Int:=mkv D fun j=>S D (fun l=>at0 r l*ent B l j)%p
def PM(p:Int)(D:Nat)(A B:Mx):Mx:=A.map fun r=>wQ p D r B
def idM(D:Nat):Mx:=(Ju D).map fun i=>mkv D fun j=>if j=i then 1 else 0
def Row(p:Int)(D:Nat)(r:List Int):Prop:=r.length=D/\ ∀i,i<D->0<=at0 r i/\at0 r i<=p-1
def Mat(p:Int)(D:Nat)(A:Mx):Prop:=A.length=D/\ ∀i,i<D->Row p D (A.getD i [])
theorem zBY{p:Int}{B:Mx}(h:i<A.length:=by omega):(PM p D A B).getD i []=wQ p D (A.getD i []) B:=by grind[PM]
theorem tP{p:Int}{B:Mx}:(PM p D A B).length=A.length:=by simp[PM]
theorem zHJ{p:Int}{B:Mx}(hp:0<p)(hA:A.length=D):Mat p D (PM p D A B):=by refine⟨by rw[tP,hA],fun i hi=>?_⟩;rw[zBY];refine⟨by rw[wQ,yI],fun j hj=>?_⟩;rw[wQ,zY hj];have h1:=Kl (S D fun l=>at0 (A.getD i []) l*ent B l j) (show p≠0 by omega);have h2:=K9 (S D fun l=>at0 (A.getD i []) l*ent B l j) hp;omega
theorem zNF{p:Int}{B:Mx}(hA:A.length=D)(hi:i<D)(hj:j<D):ent (PM p D A B) i j=S D (fun l=>ent A i l*ent B l j)%p:=by rw[ent,zBY,wQ,zY hj]
theorem zHK{B:Mx}(hA:A.length=D)(hB:B.length=D)(h:∀i,i<D->A.getD i []=B.getD i []):A=B:=by
 apply Kx
 grind
theorem zMc{p:Int}{B C:Mx}(hA:A.length=D)(hB:B.length=D):PM p D (PM p D A B) C=PM p D A (PM p D B C):=by
 refine zHK (by rw[tP,tP,hA]) (by rw[tP,hA]) fun i hi=>?_
 rw[zBY (A:=PM p D A B) (by rw[tP];omega),zBY (A:=A) (B:=PM p D B C)];unfold wQ;refine yH fun j hj=>?_
 have e1:S D (fun l=>at0 ((PM p D A B).getD i []) l*ent C l j)%p=S D (fun l=>S D (fun q=>ent A i q*ent B q l)*ent C l j)%p:=zAe fun l hl=>by
  have:=zNF (p:=p) (B:=B) hA hi hl;simp only[ent]at this ⊢
  rw[this,Jv,K2,<-Jv]
 have e2:S D (fun l=>at0 (A.getD i []) l*ent (PM p D B C) l j)%p=S D (fun q=>ent A i q*S D (fun l=>ent B q l*ent C l j))%p:=zAe fun q hq=>by rw[zNF hB hq hj,Jv,K2,<-Jv]
 rw[e1,e2]
 congr 1
 have e3:(fun l=>S D (fun q=>ent A i q*ent B q l)*ent C l j)=fun l=>S D (fun q=>ent A i q*ent B q l*ent C l j):=funext fun l=>(zP5 _ _).symm
 have e4:(fun q=>ent A i q*S D (fun l=>ent B q l*ent C l j))=fun q=>S D (fun l=>ent A i q*ent B q l*ent C l j):=funext fun q=>by rw[<-zBo];exact xL fun l _=>by rw[Hi]
 rw[e3,e4];exact zHI D D
theorem qM(D:Nat):(idM D).length=D:=by simp[idM]
theorem zBc(h:i<D:=by omega):(idM D).getD i []=mkv D fun j=>if j=i then 1 else 0:=by simp[idM,J2,h]
theorem tX{p:Int}(hp:2<=p:=by omega):Mat p D (idM D):=by
 refine⟨qM D,fun i hi=>?_⟩;rw[zBc hi];refine⟨yI _ _,fun j hj=>?_⟩
 grind[zY]
theorem vN{p a:Int}(h:0<=a/\a<=p-1):a%p=a:=Jo h.1 (by omega)
theorem zE6{p:Int}{B:Mx}(hB:Mat p D B):PM p D (idM D) B=B:=by
 refine zHK (by rw[tP,qM]) hB.1 fun i hi=>?_
 rw[zBY (by grind[qM]),zBc hi,wQ];obtain⟨h1,h2⟩:=hB.2 i hi;refine Eq.trans (yH fun j hj=>?_) (vT h1).symm;rw[zAq (k:=i) hi fun l hl gf=>by rw[zY hl,if_neg gf,U3],zY hi,if_pos rfl,Uy]
 grind[vN]
theorem zCI{p:Int}(hA:Mat p D A):PM p D A (idM D)=A:=by
 refine zHK (by rw[tP,hA.1]) hA.1 fun i hi=>?_
 rw[zBY (by rw[hA.1];exact hi),wQ];obtain⟨h1,h2⟩:=hA.2 i hi;refine Eq.trans (yH fun j hj=>?_) (vT h1).symm;rw[zAq (k:=j) hj fun l hl gf=>by rw[ent,zBc hl,zY hj,if_neg (fun h=>gf h.symm),L6],ent,zBc hj,zY hj,if_pos rfl,Kz]
 grind[vN]
theorem zZS{p:Int}{B:Mx}(hB:Mat p D B)(hi:i<D)(hj:j<D):ixO B (i:Int)=Wu (B.getD i [])/\ixO (B.getD i []) (j:Int)=Wu (ent B i j)/\(B.getD i []).length=D/\0<=ent B i j/\ent B i j<=p-1:=by
 obtain⟨h1,h2⟩:=hB.2 i hi
 grind[yS]
def acc(p:Int)(D i:Nat)(r:List Int)(B:Mx):List Int:=mkv D fun j=>S i (fun l=>at0 r l*ent B l j)%p
def zFB(p:Int)(D i k:Nat)(r:List Int)(B:Mx):List Int:=mkv D fun j=>if j<k then S (i+1) (fun l=>at0 r l*ent B l j)%p else S i (fun l=>at0 r l*ent B l j)%p
theorem zQF{p:Int}{B:Mx}:zFB p D i 0 r B=acc p D i r B:=rfl
theorem zQG{p:Int}{B:Mx}:zFB p D i D r B=acc p D (i+1) r B:=yH (by omega)
theorem zT3{p:Int}{B:Mx}(hk:k<D)(ha:a=(at0 (zFB p D i k r B) k+at0 r i*ent B i k)%p):(zFB p D i k r B).set k a=zFB p D i (k+1) r B:=by
 subst ha;simp only[zFB];rw[kS,zY hk,if_neg (by omega)];refine yH fun j hj=>?_
 by_cases hjk:j=k
 ·subst hjk
  rw[if_pos rfl,if_pos (by omega)]
  grind[S,Gk]
 omega
theorem zT4{p:Int}{B:Mx}(hp:0<p)(hj:j<D):0<=at0 (zFB p D i k r B) j/\at0 (zFB p D i k r B) j<=p-1:=by
 rw[zFB,zY hj];split
 ·have h1:=Kl (S (i+1) fun l=>at0 r l*ent B l j) (show p≠0 by omega)
  have h2:=K9 (S (i+1) fun l=>at0 r l*ent B l j) hp;omega
 ·have h1:=Kl (S i fun l=>at0 r l*ent B l j) (show p≠0 by omega)
  have h2:=K9 (S i fun l=>at0 r l*ent B l j) hp;omega
theorem zT5{p:Int}{B:Mx}:(zFB p D i k r B).length=D:=yI _ _
theorem zWE{p:Int}{B:Mx}(hj:j<D):ixO (zFB p D i k r B) (j:Int)=Wu (at0 (zFB p D i k r B) j):=by grind[xM,zT5]
theorem zT6{p:Int}{B:Mx}:J0 D (0:Int)=acc p D 0 r B:=by rw[sK];rfl
theorem zQH{b p:Int}(hp:p<=7)(ha:0<=a/\a<=p-1)(hb:0<=b/\b<=p-1):0<=a*b/\a*b<=42:=by have h1:0<=a*b:=Gi ha.1 hb.1;have h2:a*b<=6*6:=Q3 (by omega) (by omega) hb.1 (by omega);omega
section
variable {p:Int}{D:Nat} (hp:Prime p) (hD:D<=8)
 include hp hD
theorem zKy(h0:0<=a)(_h1:a<=1000):zLg a p=Wu (a%p):=by have _:=hD;have h7:=hp.pos;have e1:=Kl a (show p≠0 by omega);have e2:=K9 a (show 0<p by omega);unfold zLg vL;rw[if_neg (by omega),bs,Lh h0,zB,bs,if_neg (by omega),bs,Lh (by omega)];simp
theorem zFC{B:Mx}(hi:i<D)(hr:Row p D r)(hB:Mat p D B):f_s (acc p D i r B) (B.getD i []) (at0 r i) p=Wu (acc p D (i+1) r B):=by
 have h7:=hp.pos;have dz:=hr.2 i hi;unfold f_s;have hl:(acc p D i r B).length=D:=yI _ _;have inner:=zN (body:=zMM (acc p D i r B) (B.getD i []) (at0 r i) p) (r:=acc p D (i+1) r B) (fun k=>(zFB p D i k r B,(k:Int))) D (fun k hk=>by
  obtain⟨b1,b2,b3,b4⟩:=zZS hB hi hk;have ha:=zT4 (p:=p) (i:=i) (k:=k) (r:=r) (B:=B) (by omega) hk;have hm:=zQH (by omega) dz b4;unfold zMM;simp only
  rw[hl,xD hk,zK,zWE hk,bs,b2,bs,zB,bs,zB,bs,zKy hp hD (by omega) (by omega),bs,bs,zB,bs,cs,J7,zT3 hk rfl]) (by
  unfold zMM;simp only
  rw[hl,wX,zL,zQG])
 rw[zQF,show((0:Nat):Int)=0 from rfl]at inner
 grind
theorem zFD{B:Mx}(hr:Row p D r)(hB:Mat p D B)(hq:q=(D:Int)):zXC r (zM.mk p q B)=Wu (wQ p D r B):=by
 subst hq;have hrl:=hr.1;unfold zXC;simp only
 rw[yZ,bs,zT6 (p:=p) (r:=r) (B:=B)];have:=zN (body:=zMN r (zM.mk p (D:Int) B)) (r:=acc p D D r B) (fun i=>(acc p D i r B,(i:Int))) D (fun i hi=>by
  have hBl:=hB.1;unfold zMN;simp only
  rw[hrl,xD hi,zK,xM,bs,yS [],bs,zFC hp hD hi hr hB,bs,zB,bs,cs]) (by
  unfold zMN
  grind)
 rw[show((0:Nat):Int)=0 from rfl]at this;rw[this,bs];rfl
theorem zQI{B:Mx}(hi:i<A.length):(PM p D A B).take i++[wQ p D (A.getD i []) B]=(PM p D A B).take (i+1):=by
 have _:=hp;have _:=hD;rw[Jy (by grind[tP])]
 congr 2
 have:=zBY (p:=p) (D:=D) (B:=B) hi
 grind
theorem zIF{B:Mx}(hA:Mat p D A)(hB:Mat p D B):zXD (zM.mk p q A) (zM.mk p (D:Int) B)=Wu (zM.mk p (D:Int) (PM p D A B)):=by
 have ak:=hA.1;unfold zXD;have:=zN (body:=zMO (zM.mk p q A) (zM.mk p (D:Int) B)) (r:=PM p D A B) (fun i=>((PM p D A B).take i,(i:Int))) D (fun i hi=>by
  unfold zMO;simp only
  rw[ak,xD hi,zK,yS [],bs,zFD hp hD (hA.2 i hi) hB rfl,bs,yA (by rw[Kv,tP];simp;omega),bs,zB,bs,cs,zQI hp hD (by omega)]) (by
  unfold zMO;simp only
  rw[ak,wX,zL,Jt (by grind[tP])])
 grind
theorem zT7(_hi:i<D):(J0 D (0:Int)).set i 1=mkv D fun j=>if j=i then 1 else 0:=by have _:=hp;have _:=hD;rw[sK,kS]
theorem zWF(hi:i<D):(idM D).take i++[mkv D fun j=>if j=i then 1 else 0]=(idM D).take (i+1):=by
 have _:=hp;have _:=hD;rw[Jy (by grind[qM])]
 congr 2
 have:=zBc hi
 grind
theorem zBp:f_G p (D:Int)=Wu (zM.mk p (D:Int) (idM D)):=by
 unfold f_G;have:=zN (body:=zLf (D:Int)) (r:=idM D) (fun i=>((idM D).take i,(i:Int))) D (fun i hi=>by
  unfold zLf;simp only
  rw[xD hi,zK,yZ,bs,uL,K3,if_pos hi,bs,J7,zT7 hp hD hi,yA (by grind),bs,zB,bs,cs,zWF hp hD hi]) (by
  unfold zLf;simp only
  rw[wX,zL,Jt (by grind[qM])])
 grind
end
def nw:Nat->List Int->List Nat
 |_,[]=>[]
 |o,a::v=>J0 a.toNat o++nw (o+1) v
theorem zDk:∀(o:Nat)(u v:List Int),nw o (u++v)=nw o u++nw (o+u.length) v
 |o,[],v=>by simp[nw]
 |o,a::u,v=>by
  simp only[K0,nw,zDk (o+1) u v,Jg,J8]
  grind
theorem zWG(h:i<v.length):nw 0 (v.take (i+1))=nw 0 (v.take i)++J0 (at0 v i).toNat i:=by
 rw[Jy h,zDk,Kv,Up (by omega),Jd];simp only[nw,Jh]
 grind
theorem zT8{n:Nat}:∀(o:Nat)(v:List Int),o+v.length<=n-> ∀w∈nw o v,w<n
 |o,[],_,w,h=>by grind[nw]
 |o,a::v,hv,w,h=>by
  simp only[nw,Ji,J8]at h hv;rcases h with h|h
  ·grind
  ·exact zT8 (o+1) v (by omega) w h
theorem zNG:∀(o:Nat)(v:List Int),(∀i,i<v.length->at0 v i<=6)->(nw o v).length<=6*v.length
 |o,[],_=>by simp[nw]
 |o,a::v,h=>by
  have h0:=h 0 (by simp);have:=zNG (o+1) v fun i hi=>by
   have:=h (i+1) (by grind)
   grind
  simp only[at0,Ht]at h0
  grind[nw]
def wM(p:Int)(D:Nat)(A:List Mx)(ws:List Nat)(B:Mx):Mx:=ws.foldl (fun B w=>PM p D B (A.getD w [])) B
theorem zFE{p:Int}{A:List Mx}{u v:List Nat}{B:Mx}:wM p D A (u++v) B=wM p D A v (wM p D A u B):=by simp[wM,Q7]
theorem zNH{p:Int}{D:Nat}{A:List Mx}{w:Nat}:∀(k:Nat)(B:Mx),wM p D A (J0 k w) B=iter k (fun B=>PM p D B (A.getD w [])) B
 |0,_=>rfl
 |k+1,B=>by rw[Jw];show wM p D A (J0 k w) (PM p D B (A.getD w []))=_;rw[zNH k];rfl
theorem zHL{p:Int}{D:Nat}{A:List Mx}(hp:0<p):∀(ws:List Nat){B:Mx},Mat p D B->Mat p D (wM p D A ws B)
 | [],_,hB=>hB
 |_w::ws,_,hB=>zHL hp ws (zHJ hp hB.1)
theorem zKz{p:Int}{D:Nat}{A:List Mx}(hp:0<p){C:Mx}(hC:C.length=D):∀(ws:List Nat){B:Mx},Mat p D B->wM p D A ws (PM p D C B)=PM p D C (wM p D A ws B)
 | [],_,_=>rfl
 |w::ws,B,hB=>by show wM p D A ws (PM p D (PM p D C B) (A.getD w []))=PM p D C (wM p D A ws (PM p D B (A.getD w [])));rw[zMc hC hB.1,zKz hp hC ws (zHJ hp hB.1)]
structure MOk (n:Nat) (m:zS) (D:Nat):Prop where
 p:Prime m.Prime
 d:m.Dim=(D:Int)
 d1:1<=D
 d3:D<=3
 len:m.zR.length=n
 mat:∀i,i<n->Mat m.Prime D (m.zR.getD i [])
structure zZT (n:Nat) (m:zS) (D:Nat):Prop where
 p:Prime m.Prime
 d:m.Dim=(D:Int)
 d3:D<=40
 len:m.zR.length=n
 mat:∀i,i<n->Mat m.Prime D (m.zR.getD i [])
structure zQJ (n:Nat) (m:zS) (D:Nat):Prop where
 p:Prime m.Prime
 d3:D<=300
 len:m.zR.length=n
 mat:∀i,i<n->Mat m.Prime D (m.zR.getD i [])
theorem MOk.b{m:zS}(h:MOk n m D):zQJ n m D:=⟨h.p,by have:=h.d3;omega,h.len,h.mat⟩
section
variable {n D:Nat}{m:zS} (hm:MOk n m D) (hn:n<=40)
 include hm hn
abbrev enW(ws:List Nat):List Int:=ws.map fun(w:Nat)=>(w:Int)+1
theorem zIG(hi:i<n):zXB m (i:Int)=Wu (zM.mk m.Prime (D:Int) (m.zR.getD i [])):=by have _:=hn;have gm:=hm.len;unfold zXB;rw[yS [],bs,hm.d]
theorem zIH{ws:List Nat}(hw:∀w∈ws,w<n)(hl:ws.length<=1000000):zOw m (enW ws)=Wu (zM.mk m.Prime (D:Int) (wM m.Prime D m.zR ws (idM D))):=by
 have h7:=hm.p.pos;have h3:=hm.d3;unfold zOw;rw[hm.d,zBp hm.p (by omega),bs];have hI:∀i,Mat m.Prime D (wM m.Prime D m.zR (ws.take i) (idM D)):=by grind[zHL,tX]
 have hel:(enW ws).length=ws.length:=by simp
 have:=zN (body:=zMP m (enW ws)) (r:=(m.Prime,(D:Int),wM m.Prime D m.zR ws (idM D))) (fun i=>(m.Prime,(D:Int),wM m.Prime D m.zR (ws.take i) (idM D),(i:Int))) ws.length (fun i hi=>by
  have hwi:=hw ws[i] (Jp hi);unfold zMP;simp only
  rw[hel,xD hi,zK,uL,Jn,J3 hi];simp only[H9];rw[bs,zB,bs,show((ws[i]:Nat):Int)+1-1=((ws[i]:Nat):Int)from by omega,zIG hm hn hwi,bs,zIF hm.p (by omega) (hI i) (hm.mat _ hwi),bs,zB,bs,cs,Jy hi,zFE];rfl) (by
  unfold zMP;simp)
 rw[show((0:Nat):Int)=0 from rfl,L9]at this
 grind[wM]
end
theorem zG1(hl:v.length<=40)(hv:∀i,i<v.length->0<=at0 v i/\at0 v i<=6):f_C v=Wu (enW (nw 0 v)):=by
 unfold f_C;have gm:∀i,(nw 0 (v.take i)).length<=240:=fun i=>by
  have:=zNG 0 (v.take i) (by grind)
  grind
 have:=zN (body:=zVq v) (r:=enW (nw 0 v)) (fun i=>(enW (nw 0 (v.take i)),(i:Int))) v.length (fun i hi=>by
  have hvi:=hv i hi;have hli:=gm i;unfold zVq;simp only
  rw[xD hi,zK,xM hi,bs];have inner:=zN (body:=zVp (enW (nw 0 (v.take i)),(i:Int)) (at0 v i)) (r:=enW (nw 0 (v.take (i+1)))) (fun k=>(enW (nw 0 (v.take i)++J0 k i),(k:Int))) (at0 v i).toNat (fun k hk=>by
   unfold zVp;simp only
   rw[Wz,zK,zB,bs,yA (by grind),bs,zB,bs,cs]
   congr 3
   rw[Lf,<-Jg];simp) (by
   unfold zVp;simp only
   rw[Wy (by omega),zL,zWG hi])
  rw[show((0:Nat):Int)=0 from rfl,Kt,Jh]at inner
  grind[zB]) (by
  unfold zVq;simp)
 rw[show((0:Nat):Int)=0 from rfl,L9]at this;simp only[nw,enW,Jai]at this
 grind
theorem zMd{v o:Int}(h:zVo 1 (IntKind.wrap .u64 o)=Wu (0,o)):zVo (IntKind.wrap .u64 (([v]:List Int).length:Int)) (IntKind.wrap .u64 o)=Wu (0,o):=by rw[show IntKind.wrap .u64 (([v]:List Int).length:Int)=1 from by rfl];exact h
theorem zGn{v o:Int}(ho:Prime o):f_k [v] o=Wu (J0 o.toNat v):=by
 unfold f_k;rcases ho with rfl|rfl|rfl|rfl
 ·have h:=zN (body:=zCj) (r:=[v,v]) (fun i=>match i with|0=>([v,0],1)|_=>([v,v],2)) 1 (fun i hi=>by
   match i,hi with
   |0,_=>rfl) (by rfl)
  rw[zMd (by rfl),bs];have hl:yO (IntKind.wrap .i64 2)=Wu 2:=by rfl
  simp only[hl,bs];rw[show decide ((2:Int)<0)=Wx from rfl,zL,show decide ((0:Int)> 0)=Wx from rfl,zL,show decide ((2:Int)> 9223372036854775807)=Wx from by decide,zL]
  grind[wU]
 ·have h:=zN (body:=zCj) (r:=[v,v,v]) (fun i=>match i with|0=>([v,0,0],1)|1=>([v,v,0],2)|_=>([v,v,v],3)) 2 (fun i hi=>by
   match i,hi with
   |0,_=>rfl
   |1,_=>rfl) (by rfl)
  rw[zMd (by rfl),bs];have hl:yO (IntKind.wrap .i64 3)=Wu 3:=by rfl
  simp only[hl,bs];rw[show decide ((3:Int)<0)=Wx from rfl,zL,show decide ((0:Int)> 0)=Wx from rfl,zL,show decide ((3:Int)> 9223372036854775807)=Wx from by decide,zL]
  grind[wU]
 ·have h:=zN (body:=zCj) (r:=[v,v,v,v,v]) (fun i=>match i with|0=>([v,0,0,0,0],1)|1=>([v,v,0,0,0],2)|2=>([v,v,v,v,0],4)|_=>([v,v,v,v,v],5)) 3 (fun i hi=>by
   match i,hi with
   |0,_=>rfl
   |1,_=>simp[zCj,zT,wU,rng,inR]
   |2,_=>rfl) (by rfl)
  rw[zMd (by rfl),bs];have hl:yO (IntKind.wrap .i64 5)=Wu 5:=by rfl
  simp only[hl,bs];rw[show decide ((5:Int)<0)=Wx from rfl,zL,show decide ((0:Int)> 0)=Wx from rfl,zL,show decide ((5:Int)> 9223372036854775807)=Wx from by decide,zL];have e2:wU (J0 5 (0:Int)) 0 (([v]:List Int).take ((J0 5 (0:Int)).length-0))=[v,0,0,0,0]:=by rfl
  grind
 ·have h:=zN (body:=zCj) (r:=[v,v,v,v,v,v,v]) (fun i=>match i with|0=>([v,0,0,0,0,0,0],1)|1=>([v,v,0,0,0,0,0],2)|2=>([v,v,v,v,0,0,0],4)|_=>([v,v,v,v,v,v,v],7)) 3 (fun i hi=>by
   match i,hi with
   |0,_=>rfl
   |1,_=>simp[zCj,zT,wU,rng,inR]
   |2,_=>rfl) (by rfl)
  rw[zMd (by rfl),bs];have hl:yO (IntKind.wrap .i64 7)=Wu 7:=by rfl
  simp only[hl,bs];rw[show decide ((7:Int)<0)=Wx from rfl,zL,show decide ((0:Int)> 0)=Wx from rfl,zL,show decide ((7:Int)> 9223372036854775807)=Wx from by decide,zL];have e2:wU (J0 7 (0:Int)) 0 (([v]:List Int).take ((J0 7 (0:Int)).length-0))=[v,0,0,0,0,0,0]:=by rfl
  simp_all
def zII(x:SPr)(m:zS)(D:Nat):Prop:=
 ∀i,i<x.zA.length->wM m.Prime D m.zR (J0 (at0 x.zA i).toNat i) (idM D)=wM m.Prime D m.zR (nw 0 (x.zQ.getD i [])) (idM D)/\
  ∀j,i+1<=j->j<x.zA.length->PM m.Prime D (m.zR.getD j []) (m.zR.getD i [])=PM m.Prime D (m.zR.getD i []) (wM m.Prime D m.zR (nw 0 ((x.zG.getD i []).getD (j-(i+1)) [])) (idM D))
theorem zJ3{xs:List (List Int)}(h:i<xs.length):(xs.take (i+1)).flatten=(xs.take i).flatten++xs.getD i []:=by grind[Jy]
theorem zP6{xs:List (List Int)}(i:Nat):(xs.take i).flatten.length<=xs.flatten.length:=by grind[Ja7]
theorem zQK(hk:k<=1000000):zVr (k:Int)=Wu []:=by
 unfold zVr;rw[Wy (by omega),zL,zB (by decide) (by decide),bs,zB,bs]
 by_cases h:(k:Int)-(0-0)> 0
 ·rw[Wz h,zK]
  have e:wN ([]:List Int) ((k:Int)-(0-0)) 0=Wu (J0 k 0):=by
   unfold wN
   grind
  rw[e,bs];rfl
 grind
theorem zBd{xs:List (List Int)}(hx:xs.length<=1000)(hf:xs.flatten.length<=1000000):f_u xs=Wu xs.flatten:=by
 unfold f_u;have l1:=zN (body:=zVs xs) (r:=((xs.flatten.length:Nat):Int)) (fun i=>((((xs.take i).flatten.length:Nat):Int),(i:Int))) xs.length (fun i hi=>by
  have h1:=zJ3 hi;have h2:=zP6 (xs:=xs) (i+1);have h3:=congrArg Uq h1;rw[J5]at h3;unfold zVs;simp only
  rw[xD hi,zK,yS [] hi,bs,zB,bs,Wy (by omega),zL,zB,bs,cs,h3]
  congr 3) (by
  unfold zVs;simp)
 rw[show((0:Nat):Int)=0 from rfl]at l1;simp only[L9,Jbr,Kh]at l1;rw[show((0:Nat):Int)=0 from rfl]at l1;rw[l1,bs,zQK hf,bs];have l2:=zN (body:=zVt xs) (r:=xs.flatten) (fun i=>((xs.take i).flatten,(i:Int))) xs.length (fun i hi=>by
  have h1:=zJ3 hi;have h2:=zP6 (xs:=xs) (i+1);have h3:=congrArg Uq h1;rw[J5]at h3;unfold zVt;simp only
  rw[xD hi,zK,yS [] hi,bs,yA,bs,zB,bs,cs,h1]) (by
  unfold zVt;simp)
 grind
theorem zGo{a b:Nat}(hr:r.length<=1000:=by omega)(ha:a<=1000:=by omega)(hb:b<=1000:=by omega):zVu r (a:Int) (b:Int)=Wu (J0 a 0++(r++J0 b 0)):=by grind[zVu,yZ,zBd]
section
variable {p:Int}
def tN(p:Int)(D:Nat)(r:List Int)(k:Int)(s:List Int):List Int:=mkv D fun j=>(at0 r j+k*at0 s j)%p
def zIJ(p:Int)(D i:Nat)(r:List Int)(k:Int)(s:List Int):List Int:=mkv D fun j=>if j<i then(at0 r j+k*at0 s j)%p else at0 r j
theorem zJ4{s:List Int}{k:Int}(hr:r.length=D):zIJ p D 0 r k s=r:=by
 conv=>rhs;rw[vT hr]
 rfl
theorem zJ5{s:List Int}{k:Int}:zIJ p D D r k s=tN p D r k s:=yH (by omega)
theorem zMe{s:List Int}{k:Int}(ha:a=(at0 r i+k*at0 s i)%p):(zIJ p D i r k s).set i a=zIJ p D (i+1) r k s:=by
 simp only[zIJ];rw[kS]
 grind
theorem zP7{s:List Int}{k:Int}(hi:i<D):at0 (zIJ p D i r k s) i=at0 r i:=by rw[zIJ,zY hi,if_neg (by omega)]
theorem zE7{s:List Int}{k:Int}:(zIJ p D i r k s).length=D:=yI _ _
end
section
variable {p:Int} (hp:Prime p)
 include hp
theorem zMf(_h0:-1000<=a)(_h1:a<=1000):zLg a p=Wu (a%p):=by
 have h7:=hp.pos;have e1:=Ja8 a (show 0<p by omega);have e2:=Jaa a (show 0<p by omega);have e3:(Jb0 a p+p)%p=a%p:=by
  rw[Ux];have:=Qu a p
  conv=>rhs;rw[<-this]
  simp
 unfold zLg vL;rw[if_neg (by omega),bs,zB,bs,if_neg (by omega),bs,Lh (by omega),e3]
theorem zMg(_h0:-1000<=a)(_h1:a<=1000):zV4 a p=Wu (a%p):=by
 have h7:=hp.pos;have e1:=Ja8 a (show 0<p by omega);have e2:=Jaa a (show 0<p by omega);have e3:(Jb0 a p+p)%p=a%p:=by
  rw[Ux];have:=Qu a p
  conv=>rhs;rw[<-this]
  simp
 unfold zV4 vL;rw[if_neg (by omega),bs]
 by_cases h:Jb0 a p<0
 ·rw[Wz h,zK,zB,bs,<-e3,Jo (by omega) (by omega)]
 ·rw[Wy h,zL,<-e3,Ux,Jo (by omega) (by omega)]
theorem zCJ{s:List Int}{k:Int}:Row p D (tN p D r k s):=by have h7:=hp.pos;refine⟨yI _ _,fun i hi=>?_⟩;have e:at0 (tN p D r k s) i=(at0 r i+k*at0 s i)%p:=zY hi;have e1:=Kl (at0 r i+k*at0 s i) (show p≠0 by omega);have e2:=K9 (at0 r i+k*at0 s i) (show 0<p by omega);omega
theorem zBZ{k b:Int}(hk:-7<=k/\k<=7)(hb:0<=b/\b<=p-1):-49<=k*b/\k*b<=49:=by
 have h7:=hp.pos;rcases Int.le_total 0 k with h|h
 ·have h1:=Gi h hb.1
  have h2:=Q3 hk.2 (show b<=7 by omega) hb.1 (by omega);omega
 ·have h1:=Gi (show 0<= -k by omega) hb.1
  have h2:=Q3 (show -k<=7 by omega) (show b<=7 by omega) hb.1 (by omega);rw[Int.neg_mul]at h1 h2;omega
theorem zDl{s:List Int}{k:Int}(hr:Row p D r)(hs:Row p D s)(hk:-7<=k/\k<=7)(hD:D<=1000000):f_s r s k p=Wu (tN p D r k s):=by
 have h7:=hp.pos;have:=zN (body:=zMM r s k p) (r:=tN p D r k s) (fun i=>(zIJ p D i r k s,(i:Int))) D (fun i hi=>by
  have a1:=hr.2 i hi;have a2:=hs.2 i hi;have a3:=zBZ hp hk a2;unfold zMM;simp only
  rw[hr.1,xD hi,zK,xM (by grind[zE7]),bs,xM (by rw[hs.1];exact hi),bs,zB,bs,zP7 hi,zB,bs,zMf hp (by omega) (by omega),bs,bs,zB,bs,cs,J7,zMe rfl]) (by
  unfold zMM;simp only
  rw[hr.1,wX,zL,zJ5])
 rw[show((0:Nat):Int)=0 from rfl,zJ4 hr.1]at this
 grind[f_s]
theorem zBe{s:List Int}{k:Int}(hr:Row p D r)(hs:Row p D s)(hk:-7<=k/\k<=7)(hD:D<=1000000):f_R p r k s=Wu (tN p D r k s):=by
 have h7:=hp.pos;have:=zN (body:=zV5 p k s) (r:=tN p D r k s) (fun i=>(zIJ p D i r k s,(i:Int))) D (fun i hi=>by
  have a1:=hr.2 i hi;have a2:=hs.2 i hi;have a3:=zBZ hp hk a2;unfold zV5;simp only
  rw[zE7,xD hi,zK,hs.1,xD hi,zK,xM (by grind[zE7]),bs,xM (by rw[hs.1];exact hi),bs,zB,bs,zP7 hi,zB,bs,zMg hp (by omega) (by omega),bs,bs,zB,bs,cs,J7,zMe rfl]) (by
  unfold zV5;simp only
  rw[zE7,wX,zL,zJ5])
 rw[show((0:Nat):Int)=0 from rfl,zJ4 hr.1]at this;unfold f_R;rw[sJ (by rw[hr.1];omega),bs,this,bs]
end
theorem zNI{p:Int}{s:List Int}:tN p D r (p-1) s=tN p D r (-1) s:=yH fun j _=>by rw[show at0 r j+(p-1)*at0 s j=at0 r j+ -1*at0 s j+p*at0 s j from by grind,Hv]
def VOk(n:Nat)(p:Int)(D:Nat)(vals:Mx):Prop:=vals.length=n/\ ∀i,i<n->Row p D (vals.getD i [])
abbrev z0(D:Nat):List Int:=J0 D 0
theorem zT9{p:Int}(hp:0<p:=by omega):Row p D (z0 D):=by
 refine⟨by simp,fun i hi=>?_⟩
 grind
theorem vU{p:Int}{B:Mx}(hp:0<p:=by omega):Row p D (wQ p D r B):=by
 refine⟨yI _ _,fun i hi=>?_⟩;have e1:=Kl (S D (fun l=>at0 r l*ent B l i)) (show p≠0 by omega);have e2:=K9 (S D (fun l=>at0 r l*ent B l i)) hp
 grind[wQ,zY]
theorem zP8{b:Int}(h:a=b:=by omega):(a==b)=Ww:=by simp[h]
theorem zCK{b:Int}(h:a≠b:=by omega):(a==b)=Wx:=by simp[h]
def Sp(p:Int)(n:Nat)(R:Mx)(v:List Int):Prop:=∃c:Nat->Int,∀j,j<n->(S R.length fun i=>c i*ent R i j)%p=at0 v j%p
section
variable {p:Int}{n:Nat}{R R':Mx}{u v w:List Int}
theorem qC(hi:i<R.length:=by omega):Sp p n R (R.getD i []):=by
 refine⟨fun l=>if l=i then 1 else 0,fun j _=>?_⟩
 grind[zAq]
theorem qZ{k:Int}(hv:Sp p n R v)(hw:Sp p n R w)(h:∀j,j<n->at0 u j%p=(at0 v j+k*at0 w j)%p):Sp p n R u:=by
 obtain⟨c,hc⟩:=hv;obtain⟨d,hd⟩:=hw;refine⟨fun i=>c i+k*d i,fun j hj=>?_⟩;have e:(S R.length fun i=>(c i+k*d i)*ent R i j)=(S R.length fun i=>c i*ent R i j)+k*(S R.length fun i=>d i*ent R i j):=by
  rw[<-zBo,<-zCp]
  grind
 rw[e,h j hj,Kb,hc j hj,Jv,hd j hj,<-Jv,<-Kb]
theorem kT(h:∀j,j<n->at0 u j%p=0):Sp p n R u:=by refine⟨fun _=>0,fun j hj=>?_⟩;rw[h j hj,xL (g:=fun _=>0) (fun i _=>by simp),uU];simp
theorem zAf(h:∀i,i<R.length->Sp p n R' (R.getD i []))(hv:Sp p n R v):Sp p n R' v:=by
 obtain⟨c,hc⟩:=hv;have key:∀m,m<=R.length-> ∃d:Nat->Int,∀j,j<n->(S R'.length fun i=>d i*ent R' i j)%p=(S m fun i=>c i*ent R i j)%p:=by
  intro m
  induction m with
  |zero=>intro _;exact⟨fun _=>0,fun j _=>by rw[xL (g:=fun _=>0) (fun i _=>by simp),uU];rfl⟩
  |succ m ih=>
   intro hm;obtain⟨d,hd⟩:=ih (by omega);obtain⟨e,he⟩:=h m (by omega);refine⟨fun i=>d i+c m*e i,fun j hj=>?_⟩;have e1:(S R'.length fun i=>(d i+c m*e i)*ent R' i j)=(S R'.length fun i=>d i*ent R' i j)+c m*(S R'.length fun i=>e i*ent R' i j):=by
    rw[<-zBo,<-zCp]
    grind
   rw[e1,Kb,hd j hj,Jv,he j hj,<-Jv,<-Kb];rfl
 obtain⟨d,hd⟩:=key R.length (J9 _);exact⟨d,by grind⟩
end
def qN(p:Int)(n:Nat)(R R':Mx):Prop:=(∀i,i<R.length->Sp p n R' (R.getD i []))/\ ∀i,i<R'.length->Sp p n R (R'.getD i [])
theorem qN.refl{p:Int}{R:Mx}:qN p n R R:=⟨fun _ h=>qC h,fun _ h=>qC h⟩
theorem qN.symm{p:Int}{R:Mx}(h:qN p n R R'):qN p n R' R:=⟨h.2,h.1⟩
theorem qN.trans{p:Int}{R R2:Mx}(h:qN p n R R')(h':qN p n R' R2):qN p n R R2:=⟨fun i hi=>zAf h'.1 (h.1 i hi),fun i hi=>zAf h.2 (h'.2 i hi)⟩
theorem qN.iff{p:Int}{R:Mx}(h:qN p n R R'):Sp p n R v↔Sp p n R' v:=⟨fun g=>zAf h.1 g,fun g=>zAf h.2 g⟩
structure Red (p:Int) (n:Nat) (R:Mx) (pv:Nat->Nat):Prop where
 row:∀i,i<R.length->Row p n (R.getD i [])
 lt:∀i,i<R.length->pv i<n
 one:∀i,i<R.length->ent R i (pv i)=1
 low:∀i,i<R.length-> ∀j,j<pv i->ent R i j=0
 off:∀i k,i<R.length->k<R.length->k≠i->ent R k (pv i)=0
 mono:∀i j,i<j->j<R.length->pv i<pv j
section
variable {p:Int} (hp:1<p) {n:Nat}{R R':Mx}{pv pv':Nat->Nat}{v:List Int}
theorem Red.coef(h:Red p n R pv){c:Nat->Int}(hc:∀j,j<n->(S R.length fun i=>c i*ent R i j)%p=at0 v j%p)(hk:k<R.length):c k%p=at0 v (pv k)%p:=by rw[<-hc (pv k) (h.lt k hk),zAq (k:=k) hk (fun i hi gf=>by rw[h.off k i hk hi gf];simp),h.one k hk];simp
theorem Red.expand(h:Red p n R pv)(hv:Sp p n R v):∀j,j<n->at0 v j%p=(S R.length fun i=>at0 v (pv i)*ent R i j)%p:=by obtain⟨c,hc⟩:=hv;intro j hj;rw[<-hc j hj];exact zAe fun i hi=>by rw[Jv,h.coef hc hi,<-Jv]
theorem Red.lead(h:Red p n R pv)(hv:Sp p n R v)(gf:∃j,j<n/\at0 v j%p≠0):∃i,i<R.length/\(∀j,j<pv i->at0 v j%p=0)/\at0 v (pv i)%p≠0:=by
 have hx:=h.expand hv;have h1:∃i,i<R.length/\at0 v (pv i)%p≠0:=by
  refine Classical.byContradiction fun hn=>?_
  obtain⟨j,hj,tm⟩:=gf;refine tm ?_;rw[hx j hj,zAe (g:=fun _=>0) (fun i hi=>by
   have:at0 v (pv i)%p=0:=by grind
   rw[Jv,this];simp),uU];rfl
 obtain⟨i,⟨hi,eD⟩,fc⟩:=zCm h1;refine⟨i,hi,fun j hj=>?_,eD⟩;have ph:j<n:=Nat.lt_trans hj (h.lt i hi);rw[hx j ph,zAe (g:=fun _=>0) (fun k hk=>by
  rcases Jk k i with hki|hki
  ·have:at0 v (pv k)%p=0:=by grind
   rw[Jv,this];simp
  ·have h2:pv i<=pv k:=by
    rcases Jk i k with h3|h3
    ·exact Nat.le_of_lt (h.mono i k h3 hk)
    grind
   rw[h.low k hk j (by omega)];simp),uU];rfl
 include hp
theorem Red.row_lead(h:Red p n R pv)(hi:i<R.length):(∃j,j<n/\at0 (R.getD i []) j%p≠0)/\(∀j,j<pv i->at0 (R.getD i []) j%p=0)/\at0 (R.getD i []) (pv i)%p≠0:=by
 have h1:at0 (R.getD i []) (pv i)%p≠0:=by have:=h.one i hi;simp only[ent]at this;rw[this,Jo (by omega) hp];omega
 refine⟨⟨pv i,h.lt i hi,h1⟩,fun j hj=>?_,h1⟩;have:=h.low i hi j hj
 simp_all
theorem Red.piv_in(h:Red p n R pv)(h':Red p n R' pv')(hs:∀i,i<R.length->Sp p n R' (R.getD i []))(hi:i<R.length):∃k,k<R'.length/\pv' k=pv i:=by
 obtain⟨g1,g2,g3⟩:=h.row_lead hp hi;obtain⟨k,hk,g4,g5⟩:=h'.lead (hs i hi) g1
 grind
theorem Red.piv_eq(h:Red p n R pv)(h':Red p n R' pv')(hs:qN p n R R'):∀i,(i<R.length↔i<R'.length)/\(i<R.length->pv i=pv' i):=by
 intro i
 induction i using U4 with
 |_ i ih=>
  have a:i<R.length->i<R'.length/\pv' i<=pv i:=fun hi=>by
   obtain⟨k,hk,e⟩:=h.piv_in hp h' hs.1 hi;have hki:i<=k:=by
    refine Classical.byContradiction fun hn=>?_
    have h1:=(ih k (by omega)).2 (by omega);have h2:=h.mono k i (by omega) hi;omega
   refine⟨by omega,?_⟩;rcases Jk i k with h3|h3
   ·have:=h'.mono i k h3 hk;omega
   grind
  have b:i<R'.length->i<R.length/\pv i<=pv' i:=fun hi=>by
   obtain⟨k,hk,e⟩:=h'.piv_in hp h hs.2 hi;have hki:i<=k:=by
    refine Classical.byContradiction fun hn=>?_
    have h1:=(ih k (by omega)).2 hk;have h2:=h'.mono k i (by omega) hi;omega
   refine⟨by omega,?_⟩;rcases Jk i k with h3|h3
   ·have:=h.mono i k h3 hk;omega
   grind
  omega
theorem Red.unique(h:Red p n R pv)(h':Red p n R' pv')(hs:qN p n R R'):R=R':=by
 have ma:=h.piv_eq hp h' hs;have hl:R.length=R'.length:=by
  rcases Hh R.length R'.length with g|g|g
  all_goals grind
 refine zHK (D:=R.length) rfl hl.symm fun i hi=>?_
 have eK:i<R'.length:=by omega
 have r1:=h.row i hi;have r2:=h'.row i eK;rw[vT r1.1,vT r2.1];refine yH fun j hj=>?_
 have hx:=h'.expand (hs.1 i hi) j hj;rw[xL (g:=fun k=>(if k=i then 1 else 0)*ent R' k j) (fun k hk=>by
  congr 1
  have e:=(ma k).2 (by omega)
  by_cases hki:k=i
  ·subst hki;rw[if_pos rfl,<-e];exact h.one k hi
  ·rw[if_neg hki,<-e];exact h.off k i (by omega) hi (Ne.symm hki)),zAq (k:=i) eK (fun k _ hk=>by simp[hk])]at hx
 simp only[if_true,Uy,ent]at hx;have a1:=r1.2 j hj;have a2:=r2.2 j hj;rw[Jo a1.1 (by omega),Jo a2.1 (by omega)]at hx;exact hx
end
def mkR(m:Nat)(F:Nat->List Int):Mx:=(Ju m).map F
theorem tY:(mkR m F).length=m:=by simp[mkR]
theorem kU(h:i<m):(mkR m F).getD i []=F i:=by simp[mkR,J2,h]
theorem zK0(h:i<m):ixO (mkR m F) (i:Int)=Wu (F i):=by rw[yS [] (by grind[tY]),kU h]
theorem kJ{G:Nat->List Int}(h:∀i,i<m->F i=G i):mkR m F=mkR m G:=by grind[mkR,Uj]
theorem zTA{R:Mx}(h:R.length=m):R=mkR m (fun i=>R.getD i []):=zHK (D:=m) h tY (by grind[kU])
theorem zGG{a:List Int}:(mkR m F).set i a=mkR m (fun k=>if k=i then a else F k):=by
 apply Kx;intro k
 by_cases hk:k<m
 ·by_cases h:i=k
  ·grind[mkR]
  ·rw[List.getElem?_set_ne h];simp[mkR,hk,Ne.symm h]
 grind[mkR]
theorem zE8(h:i<m):ent (mkR m F) i j=at0 (F i) j:=by simp only[ent,kU h]
theorem zTB{s:Nat->Int×Int×Int×Int}(n:Nat){r:Int×Int}(h:∀i,i<n->zR4 (s i)=Wu (.inl (s (i+1))))(he:zR4 (s n)=Wu (.inr r)){p:Int}(hq:zLg r.2 p=Wu q)(h1:r.1=1)(hs:s 0=(p,(s 0).2.1,0,1)):
  f_U (s 0).2.1 p=Wu (q,Ww):=by
 unfold f_U;rw[<-hs,zN s n h he,bs,hq,bs,h1];rfl
def zTC:List (Int×Int×Int×Int)->Nat->Int×Int×Int×Int:=fun l i=>l.getD i (0,0,0,0)
theorem tE(l:List (Int×Int×Int×Int))(n:Nat){r:Int×Int}(h:∀i,i<n->zR4 (zTC l i)=Wu (.inl (zTC l (i+1))))(he:zR4 (zTC l n)=Wu (.inr r)){p x:Int}(hq:zLg r.2 p=Wu q)(h1:r.1=1)(hs:zTC l 0=(p,x,0,1)):
  f_U x p=Wu (q,Ww):=by
 have:=zTB (s:=zTC l) n h he hq h1 (by rw[hs])
 grind
theorem lt1(h0:P 0):∀i,i<1->P i:=by grind
theorem lt2(h0:P 0)(h1:P 1):∀i,i<2->P i:=by grind
theorem lt3(h0:P 0)(h1:P 1)(h2:P 2):∀i,i<3->P i:=by grind
theorem zCa{p x:Int}(hp:Prime p)(h0:1<=x)(h1:x<=p-1):∃r,f_U x p=Wu (r,Ww)/\0<=r/\r<=p-1/\(x*r)%p=1:=by
 have c:(p=2/\x=1)\/(p=3/\(x=1\/x=2))\/(p=5/\(x=1\/x=2\/x=3\/x=4))\/(p=7/\(x=1\/x=2\/x=3\/x=4\/x=5\/x=6)):=by unfold Prime at hp;omega
 rcases c with⟨rfl,rfl⟩|⟨rfl,rfl|rfl⟩|⟨rfl,rfl|rfl|rfl|rfl⟩|⟨rfl,rfl|rfl|rfl|rfl|rfl|rfl⟩
 ·exact⟨1,tE [(2,1,0,1),(1,0,1,-2)] 1 (lt1 (by rfl)) (r:=(1,1)) (by rfl) (by rfl) rfl rfl,by decide,by decide,by decide⟩
 ·exact⟨1,tE [(3,1,0,1),(1,0,1,-3)] 1 (lt1 (by rfl)) (r:=(1,1)) (by rfl) (by rfl) rfl rfl,by decide,by decide,by decide⟩
 ·exact⟨2,tE [(3,2,0,1),(2,1,1,-1),(1,0,-1,3)] 2 (lt2 (by rfl) (by rfl)) (r:=(1,-1)) (by rfl) (by rfl) rfl rfl,by decide,by decide,by decide⟩
 ·exact⟨1,tE [(5,1,0,1),(1,0,1,-5)] 1 (lt1 (by rfl)) (r:=(1,1)) (by rfl) (by rfl) rfl rfl,by decide,by decide,by decide⟩
 ·exact⟨3,tE [(5,2,0,1),(2,1,1,-2),(1,0,-2,5)] 2 (lt2 (by rfl) (by rfl)) (r:=(1,-2)) (by rfl) (by rfl) rfl rfl,by decide,by decide,by decide⟩
 ·exact⟨2,tE [(5,3,0,1),(3,2,1,-1),(2,1,-1,2),(1,0,2,-5)] 3 (lt3 (by rfl) (by rfl) (by rfl)) (r:=(1,2)) (by rfl) (by rfl) rfl rfl,by decide,by decide,by decide⟩
 ·exact⟨4,tE [(5,4,0,1),(4,1,1,-1),(1,0,-1,5)] 2 (lt2 (by rfl) (by rfl)) (r:=(1,-1)) (by rfl) (by rfl) rfl rfl,by decide,by decide,by decide⟩
 ·exact⟨1,tE [(7,1,0,1),(1,0,1,-7)] 1 (lt1 (by rfl)) (r:=(1,1)) (by rfl) (by rfl) rfl rfl,by decide,by decide,by decide⟩
 ·exact⟨4,tE [(7,2,0,1),(2,1,1,-3),(1,0,-3,7)] 2 (lt2 (by rfl) (by rfl)) (r:=(1,-3)) (by rfl) (by rfl) rfl rfl,by decide,by decide,by decide⟩
 ·exact⟨5,tE [(7,3,0,1),(3,1,1,-2),(1,0,-2,7)] 2 (lt2 (by rfl) (by rfl)) (r:=(1,-2)) (by rfl) (by rfl) rfl rfl,by decide,by decide,by decide⟩
 ·exact⟨2,tE [(7,4,0,1),(4,3,1,-1),(3,1,-1,2),(1,0,2,-7)] 3 (lt3 (by rfl) (by rfl) (by rfl)) (r:=(1,2)) (by rfl) (by rfl) rfl rfl,by decide,by decide,by decide⟩
 ·exact⟨3,tE [(7,5,0,1),(5,2,1,-1),(2,1,-1,3),(1,0,3,-7)] 3 (lt3 (by rfl) (by rfl) (by rfl)) (r:=(1,3)) (by rfl) (by rfl) rfl rfl,by decide,by decide,by decide⟩
 ·exact⟨6,tE [(7,6,0,1),(6,1,1,-1),(1,0,-1,7)] 2 (lt2 (by rfl) (by rfl)) (r:=(1,-1)) (by rfl) (by rfl) rfl rfl,by decide,by decide,by decide⟩
structure zQL (p:Int) (n m:Nat) (rows:Mx) (c:Nat) (M:Mx) (d:Nat) (pv:Nat->Nat):Prop where
 len:M.length=m
 row:∀i,i<m->Row p n (M.getD i [])
 dm:d<=m
 lt:∀i,i<d->pv i<c
 one:∀i,i<d->ent M i (pv i)=1
 low:∀i,i<d-> ∀j,j<pv i->ent M i j=0
 off:∀i k,i<d->k<m->k≠i->ent M k (pv i)=0
 mono:∀i j,i<j->j<d->pv i<pv j
 zero:∀k,d<=k->k<m-> ∀j,j<c->ent M k j=0
 sp:qN p n M rows
theorem zCb{p:Int}(h:i<m:=by omega):Sp p n (mkR m F) (F i):=by
 have:=qC (p:=p) (n:=n) (R:=mkR m F) (i:=i) (by grind[tY])
 grind[kU]
theorem zTD(a e r p:Int):a%p=((a+(0-e)*r)%p+e*r)%p:=by rw[Kb,K2,<-Kb,show a+(0-e)*r+e*r=a from by grind]
section
variable {p:Int} (hp:Prime p) {n m:Nat}{rows:Mx}{c:Nat}{M:Mx}{d:Nat}{pv:Nat->Nat} (h:zQL p n m rows c M d pv) (hc:c<n) (hd:d<m)
 include hp h hc hd
theorem zQL.pivot{t:Nat}(ht:d<=t)(dp:t<m)(gf:ent M t c≠0)(hq:(ent M t c*q)%p=1):
  zQL p n m rows (c+1) (mkR m fun i=>if i=d then mkv n fun j=>(ent M t j*q)%p else tN p n (if i=t then M.getD d []else M.getD i []) (0-at0 (if i=t then M.getD d []else M.getD i []) c) (mkv n fun j=>(ent M t j*q)%p)) (d+1) (fun i=>if i=d then c else pv i):=by
 have h7:=hp.pos;have pr:∀j,j<n->at0 (mkv n fun j=>(ent M t j*q)%p) j=(ent M t j*q)%p:=fun j hj=>zY hj
 have p0:∀j,j<c->(ent M t j*q)%p=0:=fun j hj=>by rw[h.zero t ht dp j hj];simp
 have prow:Row p n (mkv n fun j=>(ent M t j*q)%p):=⟨yI _ _,fun j hj=>by have e1:=Kl (ent M t j*q) (show p≠0 by omega);have e2:=K9 (ent M t j*q) (show 0<p by omega);rw[pr j hj];omega⟩
 have hG:∀i,i<m->i≠d->Row p n (if i=t then M.getD d []else M.getD i []):=fun i hi _=>by
  split
  ·exact h.row d hd
  ·exact h.row i hi
 have eo:∀i j,i<m->i≠d->j<n->ent (mkR m fun i=>if i=d then mkv n fun j=>(ent M t j*q)%p else tN p n (if i=t then M.getD d []else M.getD i []) (0-at0 (if i=t then M.getD d []else M.getD i []) c) (mkv n fun j=>(ent M t j*q)%p)) i j=(at0 (if i=t then M.getD d []else M.getD i []) j+(0-at0 (if i=t then M.getD d []else M.getD i []) c)*((ent M t j*q)%p))%p:=fun i j hi eH hj=>by rw[zE8 hi,if_neg eH,tN,zY hj,pr j hj]
 have el:∀i j,i<m->i≠d->j<c->ent (mkR m fun i=>if i=d then mkv n fun j=>(ent M t j*q)%p else tN p n (if i=t then M.getD d []else M.getD i []) (0-at0 (if i=t then M.getD d []else M.getD i []) c) (mkv n fun j=>(ent M t j*q)%p)) i j=at0 (if i=t then M.getD d []else M.getD i []) j:=fun i j hi eH hj=>by rw[eo i j hi eH (by omega),p0 j hj,L6,Kf];have:=(hG i hi eH).2 j (by omega);exact Jo this.1 (by omega)
 have ed:∀j,j<n->ent (mkR m fun i=>if i=d then mkv n fun j=>(ent M t j*q)%p else tN p n (if i=t then M.getD d []else M.getD i []) (0-at0 (if i=t then M.getD d []else M.getD i []) c) (mkv n fun j=>(ent M t j*q)%p)) d j=(ent M t j*q)%p:=fun j hj=>by rw[zE8 hd,if_pos rfl,pr j hj]
 have ec:∀i,i<m->i≠d->ent (mkR m fun i=>if i=d then mkv n fun j=>(ent M t j*q)%p else tN p n (if i=t then M.getD d []else M.getD i []) (0-at0 (if i=t then M.getD d []else M.getD i []) c) (mkv n fun j=>(ent M t j*q)%p)) i c=0:=fun i hi eH=>by rw[eo i c hi eH hc,hq,Kz];rw[show at0 (if i=t then M.getD d []else M.getD i []) c+(0-at0 (if i=t then M.getD d []else M.getD i []) c)=0 from by omega];simp
 have fL:∀i,i<d->(if i=t then M.getD d []else M.getD i [])=M.getD i []:=fun i hi=>by rw[if_neg (by omega)]
 have ar:∀i,d<=i->i<m-> ∀j,j<c->at0 (if i=t then M.getD d []else M.getD i []) j=0:=fun i hi eD j hj=>by
  split
  ·exact h.zero d (J9 _) hd j hj
  ·exact h.zero i hi eD j hj
 refine⟨tY,fun i hi=>?_,by omega,fun i hi=>?_,fun i hi=>?_,fun i hi j hj=>?_,fun i k hi hk eH=>?_,fun i j gQ hj=>?_,fun k hk eR j hj=>?_,?_⟩
 ·rw[kU hi]
  split
  ·exact prow
  ·exact zCJ hp
 ·by_cases eC:i=d
  ·rw[if_pos eC];omega
  ·rw[if_neg eC];have:=h.lt i (by omega);omega
 ·by_cases eC:i=d
  ·subst eC;rw[if_pos rfl,ed c hc,hq]
  ·have h1:=h.lt i (by omega)
   rw[if_neg eC,el i _ (by omega) eC h1,fL i (by omega)];exact h.one i (by omega)
 ·by_cases eC:i=d
  ·subst eC
   rw[if_pos rfl]at hj;rw[ed j (by omega),p0 j hj]
  ·rw[if_neg eC]at hj
   have h1:=h.lt i (by omega);rw[el i j (by omega) eC (by omega),fL i (by omega)];exact h.low i (by omega) j hj
 ·by_cases eC:i=d
  ·subst eC
   rw[if_pos rfl];exact ec k hk eH
  ·have h1:=h.lt i (by omega)
   rw[if_neg eC]
   by_cases bn:k=d
   ·subst bn
    rw[ed _ (by omega),h.off i t (by omega) dp (by omega)];simp
   ·rw[el k _ hk bn h1]
    split
    ·exact h.off i d (by omega) hd (Ne.symm eC)
    ·exact h.off i k (by omega) hk eH
 ·by_cases hjd:j=d
  ·subst hjd
   rw[if_pos rfl,if_neg (by omega)];exact h.lt i (by omega)
  ·rw[if_neg hjd,if_neg (by omega)];exact h.mono i j gQ (by omega)
 ·rcases Jk j c with hjc|hjc
  ·rw[el k j eR (by omega) hjc];exact ar k (by omega) eR j hjc
  ·rw[show j=c from by omega];exact ec k eR (by omega)
 ·refine qN.trans ⟨fun i hi=>?_,fun i hi=>?_⟩ h.sp
  ·rw[tY]at hi
   rw[kU hi];have hr:Sp p n M (mkv n fun j=>(ent M t j*q)%p):=by
    refine qZ (k:=q) (kT (u:=[]) fun j _=>by simp[at0]) (qC (R:=M) (i:=t) (by rw[h.len];exact dp)) fun j hj=>?_
    rw[pr j hj,K2,Lu];simp[at0]
   split
   ·exact hr
   ·refine qZ (k:=0-at0 (if i=t then M.getD d []else M.getD i []) c) (v:=if i=t then M.getD d []else M.getD i []) ?_ hr fun j hj=>?_
    ·split
     ·exact qC (by rw[h.len];exact hd)
     ·exact qC (by rw[h.len];exact hi)
    ·rw[tN,zY hj,K2]
  ·rw[h.len]at hi
   have hr:=zCb (p:=p) (n:=n) (m:=m) (F:=fun i=>if i=d then mkv n fun j=>(ent M t j*q)%p else tN p n (if i=t then M.getD d []else M.getD i []) (0-at0 (if i=t then M.getD d []else M.getD i []) c) (mkv n fun j=>(ent M t j*q)%p)) hd;simp only[if_true]at hr;have hg:∀k,k<m->k≠d->Sp p n (mkR m fun i=>if i=d then mkv n fun j=>(ent M t j*q)%p else tN p n (if i=t then M.getD d []else M.getD i []) (0-at0 (if i=t then M.getD d []else M.getD i []) c) (mkv n fun j=>(ent M t j*q)%p)) (if k=t then M.getD d []else M.getD k []):=fun k hk bn=>by
    have h1:=zCb (p:=p) (n:=n) (m:=m) (F:=fun i=>if i=d then mkv n fun j=>(ent M t j*q)%p else tN p n (if i=t then M.getD d []else M.getD i []) (0-at0 (if i=t then M.getD d []else M.getD i []) c) (mkv n fun j=>(ent M t j*q)%p)) hk;simp only[if_neg bn]at h1;refine qZ (k:=at0 (if k=t then M.getD d []else M.getD k []) c) h1 hr fun j hj=>?_
    rw[tN,zY hj,pr j hj];exact zTD _ _ _ _
   by_cases eV:i=t
   ·
    subst eV;refine qZ (k:=ent M i c) (kT (u:=[]) fun j _=>by simp[at0]) hr fun j hj=>?_
    rw[pr j hj];have e1:(ent M i c*((ent M i j*q)%p))%p=(ent M i j*((ent M i c*q)%p))%p:=by
     rw[Jv,K2,<-Jv,Jv (ent M i j),K2,<-Jv]
     congr 1
     rw[<-Hi,<-Hi,Lu (ent M i c)]
    rw[show at0 ([]:List Int) j=0 from by simp[at0],L5,e1,hq,Kz]
   ·by_cases eC:i=d
    ·subst eC
     have:=hg t dp (by omega);rw[if_pos rfl]at this;exact this
    ·have:=hg i hi eC
     rw[if_neg eV]at this;exact this
end
theorem zCc(h:v.length<=1000000:=by omega):f_A v=Wu v:=by grind[f_A,yA]
theorem zIK{rows:Mx}(hm:rows.length<=1000000)(hn:∀i,i<rows.length->(rows.getD i []).length<=1000000):zXH rows=Wu rows:=by
 unfold zXH;have:=zN (body:=zMS rows) (r:=rows) (fun i=>(rows.take i,(i:Int))) rows.length (fun i hi=>by
  unfold zMS;simp only
  rw[xD hi,zK,yS [] hi,bs,zCc (hn i hi),bs,yA (by simp;omega),bs,zB,bs,cs,Jy hi,J2,J3 hi];rfl) (by
  unfold zMS;simp)
 grind
theorem zQM{M:Mx}{d:Nat}(hm:M.length=m)(hd:d<=m)(hmm:m<=1000000)(fD:∀i,i<m->(M.getD i []).length=n)(hc:c<n):
  ∃t:Nat,d<=t/\t<=m/\zF (zIN (M,(d:Int),(c:Int))) (d:Int)=Wu (t:Int)/\(∀k,d<=k->k<t->ent M k c=0)/\(t<m->ent M t c≠0):=by
 have key:∀k,k<=m-d-> ∃t:Nat,m-k<=t/\t<=m/\zF (zIN (M,(d:Int),(c:Int))) ((m-k:Nat):Int)=Wu (t:Int)/\(∀q,m-k<=q->q<t->ent M q c=0)/\(t<m->ent M t c≠0):=by
  intro k
  induction k with
  |zero=>
   intro _;refine⟨m,by omega,J9 _,?_,by omega,fun h=>by omega⟩;rw[yW];unfold zIN
   grind
  |succ k ih=>
   intro hk;obtain⟨t,h1,h2,h3,h4,h5⟩:=ih (by omega);have gI:m-(k+1)<m:=by omega
   by_cases hz:ent M (m-(k+1)) c=0
   ·refine⟨t,by omega,h2,?_,fun q q1 q2=>?_,h5⟩
    ·rw[yW]
     have e:zIN (M,(d:Int),(c:Int)) ((m-(k+1):Nat):Int)=Wu (.inl ((m-k:Nat):Int)):=by
      unfold zIN;simp only
      rw[hm,xD gI,zK,yS [],bs,xM (by rw[fD _ gI];exact hc),bs,zP8 hz,zK,zB,bs,cs,show m-(k+1)+1=m-k from by omega]
     grind
    grind
   ·refine⟨m-(k+1),J9 _,by omega,?_,by omega,fun _=>hz⟩
    rw[yW];have e:zIN (M,(d:Int),(c:Int)) ((m-(k+1):Nat):Int)=Wu (.inr ((m-(k+1):Nat):Int)):=by
     unfold zIN;simp only
     rw[hm,xD gI,zK,yS [],bs,xM (by rw[fD _ gI];exact hc),bs,zCK hz,zL]
    rw[e]
 obtain⟨t,h1,h2,h3,h4,h5⟩:=key (m-d) (J9 _);rw[show m-(m-d)=d from by omega]at h1 h3 h4
 grind
section
variable {p:Int} (hp:Prime p) {n m:Nat}{M:Mx}{d c t:Nat}
 include hp
theorem zNJ{b:Bool}(hd:d<m)(hr:Row p n (F d))(hn:n<=1000000)(hq:0<=q/\q<=p-1)(hv:v.length=n){s:Mx×Int×Int}(hs:s.2.1=(d:Int)):
  zF (zMT p s (q,b) v) (mkR m F,0)=Wu (mkR m fun i=>if i=d then mkv n fun j=>(at0 (F d) j*q)%p else F i):=by
 have h7:=hp.pos;have:=zN (body:=zMT p s (q,b) v) (r:=mkR m fun i=>if i=d then mkv n fun j=>(at0 (F d) j*q)%p else F i) (fun k=>(mkR m fun i=>if i=d then mkv n (fun j=>if j<k then(at0 (F d) j*q)%p else at0 (F d) j)else F i,(k:Int))) n (fun k hk=>by
  have a1:=hr.2 k hk;have a2:=zBZ hp (k:=q) (by omega) a1;have a3:=Gi a1.1 hq.1;rw[Lu]at a2;unfold zMT;simp only
  rw[hv,xD hk,zK,hs,zK0 hd];simp only[bs,if_true];rw[xM (by grind[yI]),zY hk,if_neg (by omega)];simp only[bs];rw[zB];simp only[bs,vL];rw[if_neg (by omega)];simp only[bs];rw[Lh a3,zB];simp only[bs,J7,cs];rw[zGG]
  congr 3
  refine kJ fun i _=>?_
  by_cases hi:i=d
  ·rw[if_pos hi,if_pos hi,kS]
   grind
  grind) (by
  unfold zMT;simp only
  rw[hv,wX,zL]
  congr 2
  refine kJ fun i _=>?_
  split
  ·exact yH (by omega)
  ·rfl)
 rw[show((0:Nat):Int)=0 from rfl]at this;rw[<-this]
 congr 2
 refine kJ fun i _=>?_
 split
 ·rename_i e;subst e
  conv=>lhs;rw[vT hr.1]
  rfl
 ·rfl
theorem zNK(hd:d<m)(hc:c<n)(hr:∀i,i<m->Row p n (F i))(hn:n<=1000000)(hm:m<=1000000){r21:Mx}(hl:r21.length=m){s:Mx×Int×Int}(hs:s.2.1=(d:Int))(cx:s.2.2=(c:Int)):
  zF (zOz p s r21) (mkR m F,0)=Wu (mkR m fun i=>if i=d then F d else tN p n (F i) (0-at0 (F i) c) (F d)):=by
 have h7:=hp.pos;have:=zN (body:=zOz p s r21) (r:=mkR m fun i=>if i=d then F d else tN p n (F i) (0-at0 (F i) c) (F d)) (fun k=>(mkR m fun i=>if i<k/\i≠d then tN p n (F i) (0-at0 (F i) c) (F d)else F i,(k:Int))) m (fun k hk=>by
  have a1:=(hr k hk).2 c hc;unfold zOz;simp only
  rw[hl,xD hk,zK,hs,cx]
  by_cases bn:k=d
  ·subst bn
   rw[zP2 rfl,zL,zB,bs,cs]
   grind
  ·rw[zP3,zK,zK0 hk,zK0 hd]
   simp only[bs,ne_eq,not_true_eq_false,and_false,if_false,Jax,false_and];rw[xM (by rw[(hr k hk).1];exact hc)];simp only[bs];rw[zB];simp only[bs];rw[zDl hp (hr k hk) (hr d hd) (by omega) hn,bs,zB];simp only[bs,J7,cs];rw[zGG]
   grind) (by
  unfold zOz;simp only
  rw[hl,wX,zL]
  congr 2
  refine kJ fun i hi=>?_
  grind)
 grind
end
theorem Red.empty{p:Int}:Red p n [] (fun _=>0):=⟨by simp,by simp,by simp,by simp,by simp,by simp⟩
theorem zQL.take{p:Int}{rows:Mx}{M:Mx}{d:Nat}(h:zQL p n m rows c M d pv)(um:c<=n)(hz:∀k,d<=k->k<m-> ∀j,j<n->ent M k j=0):Red p n (M.take d) pv/\qN p n (M.take d) rows:=by
 have hl:(M.take d).length=d:=by rw[Kv,h.len];exact Up h.dm
 have hg:∀i,i<d->(M.take d).getD i []=M.getD i []:=by grind
 have dm:=h.dm;refine⟨⟨fun i hi=>?_,fun i hi=>?_,fun i hi=>?_,fun i hi j hj=>?_,fun i k hi hk gf=>?_,fun i j gQ hj=>?_⟩,qN.trans ⟨fun i hi=>?_,fun i hi=>?_⟩ h.sp⟩
 ·rw[hl]at hi;rw[hg i hi];exact h.row i (by omega)
 ·rw[hl]at hi;have:=h.lt i hi;omega
 ·rw[hl]at hi;simp only[ent,hg i hi];exact h.one i hi
 ·rw[hl]at hi;simp only[ent,hg i hi];exact h.low i hi j hj
 ·rw[hl]at hi hk;simp only[ent,hg k hk];exact h.off i k hi (by omega) gf
 ·rw[hl]at hj;exact h.mono i j gQ hj
 ·grind[qC]
 ·rw[h.len]at hi
  rcases Jk i d with g|g
  ·grind[qC]
  ·exact kT fun j hj=>by simp_all
section
variable {p:Int} (hp:Prime p) {n:Nat}{rows:Mx} (hn:n<=100000) (hm:rows.length<=600000) (hr:∀i,i<rows.length->Row p n (rows.getD i []))
 include hp hn hm hr
theorem zMh:∃R pv,f_g p rows=Wu R/\Red p n R pv/\qN p n R rows:=by
 have h7:=hp.pos;unfold f_g;rw[zIK (by omega) (fun i hi=>by have:=(hr i hi).1;omega),bs];have main:=uE (body:=zO0 p) (s:=(rows,0,0)) (Q:=fun r=> ∃(M:Mx)(d:Nat)(pv:Nat->Nat),r=(M,(d:Int))/\d<=M.length/\Red p n (M.take d) pv/\qN p n (M.take d) rows)
  (fun i s=> ∃(M:Mx)(d:Nat)(pv:Nat->Nat),s=(M,(d:Int),(i:Int))/\zQL p n rows.length rows i M d pv/\i<=n) n (fun c s hc hI=>?_) (fun s hI=>?_) ⟨rows,0,fun _=>0,rfl,⟨rfl,hr,K4 _,fun _ h=>by omega,fun _ h=>by omega,fun _ h=>by omega,fun _ _ h=>by omega,fun _ _ _ h=>by omega,fun _ _ _ _ h=>by omega,qN.refl⟩,K4 _⟩
 ·obtain⟨r,h1,M,d,pv,rfl,hd,hR,hS⟩:=main
  rw[h1,bs];simp only
  have e:zT M 0 (d:Int)=Wu (M.take d):=by unfold zT;rw[if_pos ⟨by omega,by omega,by omega⟩];simp
  rw[e,bs];exact⟨_,_,rfl,hR,hS⟩
 ·
  obtain⟨M,d,pv,rfl,h,um⟩:=hI;have hl:=h.len;have mh:=h.dm
  by_cases h0:rows.length=0
  ·refine .inr ⟨(M,(d:Int)),?_,M,d,pv,rfl,by omega,h.take um fun k hk eR=>by omega⟩
   unfold zO0;simp only
   rw[Wy (by omega),zL]
  have e0:zO0 p (M,(d:Int),(c:Int))=cond (decide ((d:Int)<(M.length:Int))) ((zF (zIN (M,(d:Int),(c:Int))) (d:Int)).bind fun r6=>
    cond (r6==(M.length:Int)) ((rng ((c:Int)+1)).bind fun v7=>Wu (.inl (M,(d:Int),v7))) (
     (ixO M r6).bind fun v8=>(ixO M (d:Int)).bind fun v9=>(ixO (jY M (d:Int) r6 v8 v9) (d:Int)).bind fun v10=>(ixO v10 (c:Int)).bind fun v11=>(f_U v11 p).bind fun r12=>
     (ixO (jY M (d:Int) r6 v8 v9) (d:Int)).bind fun v13=>(zF (zMT p (M,(d:Int),(c:Int)) r12 v13) (jY M (d:Int) r6 v8 v9,0)).bind fun r21=>
     (zF (zOz p (M,(d:Int),(c:Int)) r21) (r21,0)).bind fun r30=>(rng ((d:Int)+1)).bind fun v31=>(rng ((c:Int)+1)).bind fun v32=>Wu (.inl (r30,v31,v32)))) (Wu (.inr (M,(d:Int)))):=by
   unfold zO0;simp only
   have hx:ixO M (0:Int)=Wu (M.getD 0 []):=by have:=yS (v:=M) (i:=0) [];exact this
   rw[Wz,zK,hx];simp only[bs];rw[(h.row 0 (by omega)).1,xD hc,zK]
  rcases Jk d rows.length with hd|hd
  ·obtain⟨t,t1,t2,t3,t4,t5⟩:=zQM (M:=M) (d:=d) (c:=c) (m:=rows.length) (n:=n) hl mh (by omega) (fun i hi=>(h.row i hi).1) hc
   rw[e0,hl,xD hd,zK,t3];simp only[bs]
   by_cases dp:t=rows.length
   ·
    left;refine⟨(M,(d:Int),((c+1:Nat):Int)),?_,M,d,pv,rfl,⟨hl,h.row,mh,fun i hi=>by have:=h.lt i hi;omega,h.one,h.low,h.off,h.mono,fun k k1 k2 j hj=>?_,h.sp⟩,by omega⟩
    ·rw[zP8,zK,zB,bs,cs]
    ·rcases Jk j c with g|g
     ·exact h.zero k k1 k2 j g
     ·rw[show j=c from by omega];exact t4 k k1 (by omega)
   ·have fC:t<rows.length:=by omega
    have gf:=t5 fC;have fh:=h.row t fC;have hrc:=fh.2 c hc;obtain⟨q,q1,q2,q3,q4⟩:=zCa (p:=p) (x:=ent M t c) hp (by simp only[ent]at gf ⊢;omega) (by simp only[ent];omega);left;have hM:M=mkR rows.length (fun i=>M.getD i []):=zTA hl;obtain⟨F,hF⟩:∃F:Nat->List Int,∀i,F i=if i=t then M.getD d []else if i=d then M.getD t []else M.getD i []:=⟨_,fun _=>rfl⟩
    have aw:jY M (d:Int) (t:Int) (M.getD t []) (M.getD d [])=mkR rows.length F:=by
     unfold jY;rw[J7,J7]
     conv=>lhs;rw[hM]
     rw[zGG,zGG];exact kJ fun i hi=>by rw[hF,kU hd,kU fC]
    have mY:∀i,i<rows.length->Row p n (F i):=fun i hi=>by
     rw[hF];split
     ·exact h.row d hd
     ·split
      ·exact fh
      ·exact h.row i hi
    have hFd:F d=M.getD t []:=by
     rw[hF]
     by_cases e:d=t
     ·rw[if_pos e,e]
     ·rw[if_neg e,if_pos rfl]
    obtain⟨G,hG⟩:∃G:Nat->List Int,∀i,G i=if i=d then mkv n fun j=>(at0 (F d) j*q)%p else F i:=⟨_,fun _=>rfl⟩
    have hGd:G d=mkv n fun j=>(ent M t j*q)%p:=by rw[hG,if_pos rfl,hFd]
    have hGo:∀i,i≠d->G i=if i=t then M.getD d []else M.getD i []:=fun i eC=>by rw[hG,if_neg eC,hF];simp only[eC,if_false]
    have ax:zF (zMT p (M,(d:Int),(c:Int)) (q,Ww) (M.getD t [])) (mkR rows.length F,0)=Wu (mkR rows.length G):=by
     rw[zNJ hp (F:=F) hd (mY d hd) (by omega) ⟨q2,q3⟩ fh.1 rfl]
     congr 1
     exact kJ fun i _=>(hG i).symm
    have hF3:∀i,i<rows.length->Row p n (G i):=fun i hi=>by
     rw[hG];split
     ·refine⟨yI _ _,fun j hj=>?_⟩
      have e1:=Kl (at0 (F d) j*q) (show p≠0 by omega);have e2:=K9 (at0 (F d) j*q) (show 0<p by omega);rw[zY hj];omega
     ·exact mY i hi
    have gF:=zNK hp (c:=c) (F:=G) hd hc hF3 (by omega) (by omega) (r21:=mkR rows.length G) tY (s:=(M,(d:Int),(c:Int))) rfl rfl;rw[zCK,zL,yS [],yS []];simp only[bs];rw[aw,zK0 hd,hFd];simp only[bs];rw[xM (by rw[fh.1];exact hc)];simp only[bs];rw[show at0 (M.getD t []) c=ent M t c from rfl,q1];simp only[bs];rw[ax];simp only[bs];rw[gF];simp only[bs];rw[zB,zB];simp only[bs,cs];have tu:=h.pivot hp hc hd t1 fC gf q4;refine⟨_,rfl,_,d+1,fun i=>if i=d then c else pv i,rfl,?_,by omega⟩;have e3:(mkR rows.length fun i=>if i=d then G d else tN p n (G i) (0-at0 (G i) c) (G d))=(mkR rows.length fun i=>if i=d then mkv n fun j=>(ent M t j*q)%p else tN p n (if i=t then M.getD d []else M.getD i []) (0-at0 (if i=t then M.getD d []else M.getD i []) c) (mkv n fun j=>(ent M t j*q)%p)):=by
     refine kJ fun i hi=>?_
     rw[hGd]
     by_cases eC:i=d
     ·rw[if_pos eC,if_pos eC]
     ·rw[if_neg eC,if_neg eC,hGo i eC]
    rw[e3];exact tu
  ·
   refine .inr ⟨(M,(d:Int)),?_,M,d,pv,rfl,by omega,h.take um fun k hk eR=>by omega⟩;rw[e0,Wy (by omega),zL]
 ·
  obtain⟨M,d,pv,rfl,h,um⟩:=hI;have hl:=h.len;have mh:=h.dm;refine⟨(M,(d:Int)),?_,M,d,pv,rfl,by omega,h.take um fun k hk eR j hj=>h.zero k hk eR j hj⟩;unfold zO0;simp only
  by_cases h0:rows.length=0
  ·rw[Wy (by omega),zL]
  ·have hx:ixO M (0:Int)=Wu (M.getD 0 []):=by
    have:=yS (v:=M) (i:=0) [];exact this
   rw[Wz,zK,hx];simp only[bs];rw[(h.row 0 (by omega)).1,wX,zL]
end
theorem zJ6(hl:v.length=n)(hn:n<=1000000:=by omega):∃k:Nat,k<=n/\f_w v=Wu (k:Int)/\(∀j,j<k->at0 v j=0)/\(k<n->at0 v k≠0):=by
 unfold f_w;rcases chk (body:=zIO v) n 0 (K4 _) (fun i=>at0 v i=0) (fun i=>(i:Int)) (fun i _ hi _=>by
   unfold zIO;rw[hl,xD hi,zK,xM,bs]
   by_cases h:at0 v i=0
   ·rw[zP2 h,zL,zB,bs,cs];grind
   grind) (by
   unfold zIO
   grind)with⟨h1,h2⟩|⟨i,_,hi,h1,h2⟩
 ·grind
 ·rw[show((0:Nat):Int)=0 from rfl]at h1
  rw[h1,bs];obtain⟨k,⟨hk1,eR⟩,fc⟩:=zCm (p:=fun k=>k<n/\at0 v k≠0) ⟨i,hi,h2⟩;have hz:∀j,j<k->at0 v j=0:=by grind
  have hki:k=i:=by
   have fM:∀q,q<=k->zF (zIO v) ((k-q:Nat):Int)=Wu (.inr (k:Int)):=by
    intro q
    induction q with
    |zero=>
     intro _;rw[yW];have e:zIO v ((k-0:Nat):Int)=Wu (.inr (.inr (k:Int))):=by unfold zIO;rw[show k-0=k from rfl,hl,xD hk1,zK,xM,bs,zP3 eR,zK]
     rw[e]
    |succ q ih=>
     intro hq;rw[yW];have e:zIO v ((k-(q+1):Nat):Int)=Wu (.inl ((k-q:Nat):Int)):=by unfold zIO;rw[hl,xD,zK,xM,bs,zP2 (hz _ (by omega)),zL,zB,bs,cs,show k-(q+1)+1=k-q from by omega]
     grind
   have:=fM k (J9 _)
   grind
  grind
theorem zE9(hl:v.length=n)(hn:n<=1000000)(hk:k<n)(h0:∀j,j<k->at0 v j=0)(h1:at0 v k≠0:=by omega):f_w v=Wu (k:Int):=by grind[zJ6]
theorem zMi{p x:Int}(hp:Prime p)(h0:1<=x:=by omega)(h1:x<=p-1:=by omega):∃r,zV7 x p=Wu r/\0<=r/\r<=p-1/\(x*r)%p=1:=by
 have h7:=hp.pos;have hx:∃k:Nat,1<=k/\(k:Int)<p/\(x*(k:Int))%p=1:=by
  obtain⟨r,_,r1,r2,r3⟩:=zCa hp h0 h1;refine⟨r.toNat,?_,by omega,by grind⟩;rcases Int.lt_or_eq_of_le r1 with g|g
  ·omega
  ·rw[<-g]at r3;simp at r3
 obtain⟨k,⟨k1,k2,k3⟩,fc⟩:=zCm hx;have body:∀i:Nat,1<=i->(i:Int)<p->zMV x p (i:Int)=cond ((x*(i:Int))%p==1) (Wu (.inr (.inr (i:Int)))) (Wu (.inl ((i+1:Nat):Int))):=fun i hi VG=>by
  have a3:=Gi (show 0<=x by omega) (show 0<=(i:Int)by omega);have a4:=zBZ hp (k:=(i:Int)) (by omega) (b:=x) ⟨by omega,h1⟩;rw[Lu]at a4;unfold zMV;rw[Wz VG,zK,zMg hp (by omega) (by omega),bs,Jo (by omega) (by omega),zB,bs];unfold vL;rw[if_neg (by omega),bs,Lh a3]
  by_cases hh:(x*(i:Int))%p=1
  ·grind
  ·rw[zCK hh,zL,zL,zB,bs,cs]
 have fM:∀q,q+1<=k->zF (zMV x p) ((k-q:Nat):Int)=Wu (.inr (k:Int)):=by
  intro q
  induction q with
  |zero=>
   intro _;rw[yW,show k-0=k from rfl,body k k1 k2,zP8 k3,zK]
  |succ q ih=>
   intro hq;have gf:(x*((k-(q+1):Nat):Int))%p≠1:=by grind
   rw[yW,body _ (by omega) (by omega),zCK gf,zL,show k-(q+1)+1=k-q from by omega]
   grind
 have:=fM (k-1) (by omega);rw[show k-(k-1)=1 from by omega,show((1:Nat):Int)=1 from rfl]at this
 grind[zV7]
section
variable {p:Int} (hp:Prime p) {n:Nat} (hn:n<=100000)
 include hp hn
theorem zZU{s:List Int}(hr:Row p n r):tN p n r p s=r:=by
 have _:=hp;have _:=hn
 conv=>rhs;rw[vT hr.1]
 refine yH fun j hj=>?_
 have:=hr.2 j hj;rw[Hv];exact Jo this.1 (by omega)
def cl(p:Int)(n:Nat)(out:Mx)(pv:Nat->Nat)(v:List Int):Nat->List Int
 |0=>v
 |i+1=>tN p n (cl p n out pv v i) (p-at0 (cl p n out pv v i) (pv i)) (out.getD i [])
variable {out:Mx}{pv:Nat->Nat} (h:Red p n out pv) {v:List Int} (hv:Row p n v)
 include h hv
theorem zAF:∀i,Row p n (cl p n out pv v i):=by
 have _:=hn;have _:=h;intro i;cases i with
 |zero=>exact hv
 |succ i=>exact zCJ hp
theorem zFF:∀i,i<=out.length-> ∀k,k<i->at0 (cl p n out pv v i) (pv k)=0:=by
 have _:=hn;have _:=hv;have h7:=hp.pos;intro i
 induction i with
 |zero=>simp
 |succ i ih=>
  intro hi k hk;have gI:=h.lt k (by omega);rw[cl,tN,zY gI];rcases Jk k i with g|g
  ·have h1:=ih (by omega) k g
   have h2:=h.off k i (by omega) (by omega) (by omega)
   simp_all
  ·have hki:k=i:=by omega
   subst hki;have h2:=h.one k (by omega);simp only[ent]at h2;rw[h2,Kz,show at0 (cl p n out pv v k) (pv k)+(p-at0 (cl p n out pv v k) (pv k))=p from by omega,Gs]
theorem zK1:∀i,i<=out.length-> ∃cf:Nat->Int,∀j,j<n->at0 (cl p n out pv v i) j%p=(at0 v j+S out.length fun k=>cf k*ent out k j)%p:=by
 have _:=hp;have _:=h;have _:=hv;have _:=hn;intro i
 induction i with
 |zero=>intro _;exact⟨fun _=>0,fun j _=>by rw[xL (g:=fun _=>0) (fun i _=>by simp),uU,Kf];rfl⟩
 |succ i ih=>
  intro hi;obtain⟨cf,fy⟩:=ih (by omega);refine⟨fun k=>cf k+(if k=i then p-at0 (cl p n out pv v i) (pv i)else 0),fun j hj=>?_⟩;have e1:(S out.length fun k=>(cf k+(if k=i then p-at0 (cl p n out pv v i) (pv i)else 0))*ent out k j)=(S out.length fun k=>cf k*ent out k j)+(p-at0 (cl p n out pv v i) (pv i))*ent out i j:=by rw[xL (g:=fun k=>cf k*ent out k j+(if k=i then p-at0 (cl p n out pv v i) (pv i)else 0)*ent out k j) (by grind),zCp,zAq (f:=fun k=>(if k=i then p-at0 (cl p n out pv v i) (pv i)else 0)*ent out k j) (k:=i) (by omega) (by grind)];simp
  rw[e1,cl,tN,zY hj,K2,<-Jc2,Kb,fy j hj,<-Kb]
theorem zHM(hm:out.length<=100000):zV6 p out v=Wu (cl p n out pv v out.length):=by
 have h7:=hp.pos;unfold zV6;rw[sJ (by rw[hv.1];omega),bs];have:=zN (body:=zMU p out) (r:=cl p n out pv v out.length) (fun i=>(cl p n out pv v i,(i:Int))) out.length (fun i hi=>by
  have hr:=zAF hp hn h hv i;have ho:=h.row i hi;have gI:=h.lt i hi;have gw:=h.one i hi;have fL:=h.low i hi;simp only[ent]at gw fL;have he:=hr.2 (pv i) gI;unfold zMU;simp only
  rw[xD hi,zK,yS [] hi,bs,zE9 ho.1 (by omega) gI fL,bs,hr.1,xD gI,zK,xM (by rw[hr.1];exact gI),bs]
  by_cases hz:at0 (cl p n out pv v i) (pv i)=0
  ·rw[zP2 hz,zL,zB,bs,cs,cl,hz,Jb9,zZU hp hn hr]
  ·rw[zP3 hz,zK,bs,zB,bs,bs,zBe hp hr ho (by omega) (by omega),bs,zB,bs,cs]
   rfl) (by
  unfold zMU;simp)
 rw[show((0:Nat):Int)=0 from rfl]at this
 grind[cl]
end
section
variable {p:Int} (hp:Prime p) {n:Nat}{out:Mx}{pv:Nat->Nat} (h:Red p n out pv) {u:List Int}{k q:Nat} (hu:Row p n u) (hk:k<n) (u1:at0 u k=1) (ul:∀j,j<k->at0 u j=0) (up:∀i,i<out.length->at0 u (pv i)=0) (hq:q<=out.length) (q1:∀i,i<q->pv i<k) (q2:∀i,q<=i->i<out.length->k<pv i)
def oth(p:Int)(n:Nat)(out:Mx)(u:List Int)(k i:Nat):List Int:=tN p n (out.getD i []) (p-at0 (out.getD i []) k) u
def sD(p:Int)(n:Nat)(out:Mx)(u:List Int)(k q i:Nat):List Int:=if i<q then oth p n out u k i else if i=q then u else oth p n out u k (i-1)
def zWH(pv:Nat->Nat)(k q i:Nat):Nat:=if i<q then pv i else if i=q then k else pv (i-1)
 include hp h hu hk u1 ul up hq q1 q2
theorem zNL(hj:j<n):at0 (oth p n out u k i) j=(at0 (out.getD i []) j-at0 (out.getD i []) k*at0 u j)%p:=by have _:=hp;have _:=h;have _:=hu;have _:=hk;have _:=u1;have _:=ul;have _:=up;have _:=hq;have _:=q1;have _:=q2;rw[oth,tN,zY hj,show at0 (out.getD i []) j+(p-at0 (out.getD i []) k)*at0 u j=at0 (out.getD i []) j-at0 (out.getD i []) k*at0 u j+p*at0 u j from by grind,Hv]
theorem zEA(hi:i<out.length)(hj:j<n)(hz:at0 (out.getD i []) k=0\/at0 u j=0):at0 (oth p n out u k i) j=ent out i j:=by
 rw[zNL hp h hu hk u1 ul up hq q1 q2 hj];have:=(h.row i hi).2 j hj;have e:at0 (out.getD i []) k*at0 u j=0:=by grind
 rw[e,Jb9];exact Jo this.1 (by omega)
theorem yCv:at0 (oth p n out u k i) k=0:=by rw[zNL hp h hu hk u1 ul up hq q1 q2 hk,u1,Kz,Int.sub_self];rfl
theorem zWI(hi:i<out.length)(hj:j<pv i)(gf:pv i≠k):at0 (oth p n out u k i) j=0:=by
 have gI:=h.lt i hi;rcases Jk (pv i) k with g|g
 ·rw[zEA hp h hu hk u1 ul up hq q1 q2 hi (by omega) (by grind)];exact h.low i hi j hj
 ·have:=h.low i hi k (by omega)
  rw[zEA hp h hu hk u1 ul up hq q1 q2 hi (by omega) (.inl this)];exact h.low i hi j hj
theorem yCw(hi:i<out.length):pv i≠k:=by have _:=hp;have _:=h;have _:=hu;have _:=hk;have _:=ul;have _:=hq;have _:=q1;have _:=q2;grind
theorem zJ7(hi:i<out.length+1):(i=q/\sD p n out u k q i=u/\zWH pv k q i=k)\/ ∃a,a<out.length/\(i<q/\a=i\/q<i/\i=a+1)/\sD p n out u k q i=oth p n out u k a/\zWH pv k q i=pv a:=by
 have _:=hp;have _:=h;have _:=hu;have _:=hk;have _:=u1;have _:=ul;have _:=up;have _:=q1;have _:=q2;unfold sD zWH
 grind
theorem zNM:Red p n (mkR (out.length+1) (sD p n out u k q)) (zWH pv k q):=by
 have nc:=fun i hi=>zJ7 hp h hu hk u1 ul up hq q1 q2 (i:=i) hi
 have pn:=fun i hi=>yCw hp h hu hk u1 ul up hq q1 q2 (i:=i) hi
 refine⟨fun i hi=>?_,fun i hi=>?_,fun i hi=>?_,fun i hi j hj=>?_,fun i j hi hj gf=>?_,fun i j gQ hj=>?_⟩<;>rw[tY]at*
 ·rw[kU hi]
  rcases nc i hi with⟨_,e,_⟩|⟨a,_,_,e,_⟩<;>rw[e]
  ·exact hu
  ·exact zCJ hp
 ·rcases nc i hi with⟨_,_,e⟩|⟨a,ha,_,_,e⟩<;>rw[e]
  ·exact hk
  ·exact h.lt a ha
 ·rw[zE8 hi]
  rcases nc i hi with⟨_,e1,e2⟩|⟨a,ha,_,e1,e2⟩<;>rw[e1,e2]
  ·exact u1
  ·rw[zEA hp h hu hk u1 ul up hq q1 q2 ha (h.lt a ha) (.inr (up a ha))];exact h.one a ha
 ·rw[zE8 hi]
  rcases nc i hi with⟨_,e1,e2⟩|⟨a,ha,_,e1,e2⟩<;>rw[e2]at hj<;>rw[e1]
  ·grind
  ·exact zWI hp h hu hk u1 ul up hq q1 q2 ha hj (pn a ha)
 ·rw[zE8 hj]
  rcases nc i hi with⟨g1,_,e2⟩|⟨a,ha,ga,_,e2⟩<;>rw[e2]<;>rcases nc j hj with⟨g3,e3,_⟩|⟨b,hb,gb,e3,_⟩<;>rw[e3]
  ·omega
  ·exact yCv hp h hu hk u1 ul up hq q1 q2
  ·grind
  ·rw[zEA hp h hu hk u1 ul up hq q1 q2 hb (h.lt a ha) (.inr (up a ha))]
   exact h.off a b ha hb (by omega)
 ·rcases nc i (by omega)with⟨g1,_,e2⟩|⟨a,ha,ga,_,e2⟩<;>rw[e2]<;>rcases nc j hj with⟨g3,_,e4⟩|⟨b,hb,gb,_,e4⟩<;>rw[e4]
  ·omega
  ·grind
  ·grind
  ·exact h.mono a b (by omega) hb
theorem zQN:(∀i,i<out.length+1->Sp p n (out++[u]) (sD p n out u k q i))/\(∀i,i<out.length->Sp p n (mkR (out.length+1) (sD p n out u k q)) (out.getD i []))/\Sp p n (mkR (out.length+1) (sD p n out u k q)) u:=by
 have px:Sp p n (out++[u]) u:=by
  have:=qC (p:=p) (n:=n) (R:=out++[u]) (i:=out.length) (by simp)
  grind
 have hol:∀i,i<out.length->Sp p n (out++[u]) (out.getD i []):=fun i hi=>by
  have:=qC (p:=p) (n:=n) (R:=out++[u]) (i:=i) (by simp;omega)
  grind
 have hoth:∀i,i<out.length->Sp p n (out++[u]) (oth p n out u k i):=fun i hi=>
  qZ (k:=p-at0 (out.getD i []) k) (hol i hi) px (by grind[oth,tN,zY,K2])
 have du:Sp p n (mkR (out.length+1) (sD p n out u k q)) u:=by have:=zCb (p:=p) (n:=n) (m:=out.length+1) (F:=sD p n out u k q) (i:=q);rw[show sD p n out u k q q=u from by unfold sD;simp]at this;exact this
 refine⟨fun i hi=>?_,fun i hi=>?_,du⟩
 ·rcases zJ7 hp h hu hk u1 ul up hq q1 q2 hi with⟨_,e,_⟩|⟨a,ha,_,e,_⟩<;>rw[e]
  all_goals grind
 ·have eD:∃b,b<out.length+1/\sD p n out u k q b=oth p n out u k i:=by
   rcases Jk i q with g|g
   ·exact⟨i,by omega,by unfold sD;grind⟩
   ·exact⟨i+1,by omega,by unfold sD;grind⟩
  obtain⟨b,hb,e⟩:=eD;have h1:=zCb (p:=p) (n:=n) (m:=out.length+1) (F:=sD p n out u k q) hb;rw[e]at h1;refine qZ (k:=at0 (out.getD i []) k) h1 du fun j hj=>?_
  rw[zNL hp h hu hk u1 ul up hq q1 q2 hj,Kb,K2,<-Kb,show at0 (out.getD i []) j-at0 (out.getD i []) k*at0 u j+at0 (out.getD i []) k*at0 u j=at0 (out.getD i []) j from by omega]
theorem zMj(hn:n<=100000)(hm:out.length<=100000){x:Int}:
  ((zF (zIP p (out,x) (k:Int) u) ([],Wx,0)).bind fun r32=>cond (!r32.2) ((yR r32.1 [u]).bind fun v33=>Wu v33) (Wu r32.1))=Wu (mkR (out.length+1) (sD p n out u k q)):=by
 have _:=u1;have _:=ul;have _:=up;have h7:=hp.pos;have ho:∀i,i<out.length->f_R p (out.getD i []) (p-at0 (out.getD i []) k) u=Wu (oth p n out u k i)/\ixO (out.getD i []) (k:Int)=Wu (at0 (out.getD i []) k)/\0<=at0 (out.getD i []) k/\at0 (out.getD i []) k<=p-1/\f_w (out.getD i [])=Wu (pv i:Int):=fun i hi=>by have hr:=h.row i hi;have eR:=hr.2 k hk;have gw:=h.one i hi;have fL:=h.low i hi;simp only[ent]at gw fL;exact⟨by rw[zBe hp hr hu (by omega) (by omega)];rfl,xM (by rw[hr.1];exact hk),eR.1,eR.2,zE9 hr.1 (by omega) (h.lt i hi) fL⟩
 have hsn:∀{m:Nat}{F:Nat->List Int},mkR m F++[F m]=mkR (m+1) F:=by grind[mkR,Ub]
 have:=zN (body:=zIP p (out,x) (k:Int) u) (r:=(if out.length<=q then(mkR out.length (sD p n out u k q),Wx)else(mkR (out.length+1) (sD p n out u k q),Ww)))
  (fun j=>if j<=q then(mkR j (sD p n out u k q),Wx,(j:Int))else(mkR (j+1) (sD p n out u k q),Ww,(j:Int))) out.length (fun j hj=>by
   obtain⟨a1,a2,a3,a4,a5⟩:=ho j hj;have jo:rng (p-at0 (out.getD j []) k)=Wu (p-at0 (out.getD j []) k):=by grind[zB]
   rcases Hh j q with g|g|g
   ·have hpj:=q1 j g
    rw[if_pos (by omega),if_pos (by omega)];unfold zIP;simp only
    rw[xD hj,zK,Ko,zK,yS [] hj];simp only[bs,a5];rw[Wy (by omega),zL,a2];simp only[bs,jo,a1];rw[yA (by rw[tY];simp;omega),bs,zB,bs,cs];have:sD p n out u k q j=oth p n out u k j:=by unfold sD;grind
    grind
   ·subst g
    have hpj:=q2 j (J9 _) hj;rw[if_pos (by omega),if_neg (by omega)];unfold zIP;simp only
    rw[xD hj,zK,Ko,zK,yS [] hj];simp only[bs,a5];rw[Wz,zK,yA (by rw[tY];simp;omega),a2];simp only[bs,jo,a1];have e1:sD p n out u k j j=u:=by unfold sD;simp
    have e2:sD p n out u k j (j+1)=oth p n out u k j:=by unfold sD;grind
    have e3:mkR j (sD p n out u k j)++[u]=mkR (j+1) (sD p n out u k j):=by grind
    rw[e3,yA (by rw[tY];simp;omega),bs,zB,bs,cs,<-e2,hsn]
   ·rw[if_neg (by omega),if_neg (by omega)]
    unfold zIP;simp only
    rw[xD hj,zK,K7,zL,yS [] hj];simp only[bs,a2,jo,a1];have e2:sD p n out u k q (j+1)=oth p n out u k j:=by unfold sD;rw[if_neg (by omega),if_neg (by omega)];rfl
    rw[yA (by rw[tY];simp;omega),bs,zB,bs,cs,<-e2,hsn]) (by
   by_cases g:out.length<=q
   ·rw[if_pos g,if_pos g]
    unfold zIP;simp
   ·rw[if_neg g,if_neg g]
    unfold zIP;simp)
 rw[if_pos (K4 _),show((0:Nat):Int)=0 from rfl,show mkR 0 (sD p n out u k q)=[]from rfl]at this;rw[this,bs]
 by_cases g:out.length<=q
 ·have e1:sD p n out u k q out.length=u:=by unfold sD;grind
  rw[if_pos g];simp only
  rw[Ko,zK,yA (by rw[tY];simp;omega),bs]
  grind
 grind
end
theorem zK2{p:Int}{R out:Mx}{cf:Nat->Int}(ho:∀i,i<out.length->Sp p n R (out.getD i []))(hu:∀j,j<n->at0 u j%p=(S out.length fun k=>cf k*ent out k j)%p):Sp p n R u:=
 zAf ho ⟨cf,by grind⟩
theorem Red.len_le{p:Int}{R:Mx}(h:Red p n R pv):R.length<=n:=by
 have key:∀i,i<R.length->i<=pv i:=by
  intro i
  induction i with
  |zero=>simp
  |succ i ih=>
   intro hi;have h1:=ih (by omega);have h2:=h.mono i (i+1) (by omega) hi;omega
 rcases Gu R.length with g|g
 ·omega
 ·have h1:=key (R.length-1) (by omega)
  have h2:=h.lt (R.length-1) (by omega);omega
theorem zDm{xs:Mx}(h:i<xs.length:=by omega):(xs++[v]).getD i []=xs.getD i []:=by grind
theorem zDn{xs:Mx}:(xs++[v]).getD xs.length []=v:=by simp
section
variable {p:Int} (hp:Prime p) {n:Nat} (hn:n<=100000)
 include hp hn
theorem zNN{w:List Int}(hw:Row p n w){r:Int}(h0:0<=r)(h1:r<=p-1):zXI p r w=Wu (mkv n fun j=>(at0 w j*r)%p):=by
 have h7:=hp.pos;unfold zXI;rw[hw.1,yZ,bs,zBe hp (zT9) hw (by omega) (by omega),bs]
 congr 1
 refine yH fun j hj=>?_
 grind
variable {rows:Mx} (hm:rows.length<=600000) (hr:∀i,i<rows.length->Row p n (rows.getD i []))
 include hm hr
theorem zEB:∃R pv,f_p p rows=Wu R/\(Red p n R pv/\R.length<=rows.length)/\qN p n R rows:=by
 have h7:=hp.pos;unfold f_p;have main:=uE (body:=zR5 p rows) (s:=([],0)) (Q:=fun R=> ∃pv,(Red p n R pv/\R.length<=rows.length)/\qN p n R rows)
  (fun i s=> ∃(out:Mx)(pv:Nat->Nat),s=(out,(i:Int))/\Red p n out pv/\qN p n out (rows.take i)/\out.length<=i/\i<=rows.length) rows.length (fun i s hi hI=>?_) (fun s hI=>?_) ⟨[],fun _=>0,rfl,Red.empty,by rw[L9];exact qN.refl,K4 _,K4 _⟩
 ·obtain⟨R,h1,pv,h2,h3⟩:=main
  rw[h1,bs];exact⟨R,pv,rfl,h2,h3⟩
 ·obtain⟨out,pv,rfl,h,hs,hl,_⟩:=hI
  have hon:out.length<=n:=h.len_le;left;have hv:=hr i hi;have hw:=zAF hp hn h hv out.length;have gF:=zHM hp hn h hv (by omega);have hpz:=zFF hp hn h hv out.length (J9 _);obtain⟨cf,fy⟩:=zK1 hp hn h hv out.length (J9 _);obtain⟨k,k1,k2,k3,k4⟩:=zJ6 hw.1;have ek:rows.take (i+1)=rows.take i++[rows.getD i []]:=by rw[Jy hi,J2,J3 hi];rfl
  have av:(rows.take i).length=i:=by rw[Kv];omega
  have ff:∀u,Sp p n (rows.take i) u->Sp p n (rows.take (i+1)) u:=fun u hu=>zAf (fun a ha=>by have:=qC (p:=p) (n:=n) (R:=rows.take (i+1)) (i:=a) (by rw[ek,J5];omega);rw[ek,zDm ha,<-ek]at this;exact this) hu
  have cJ:Sp p n (rows.take (i+1)) (rows.getD i []):=by
   have:=qC (p:=p) (n:=n) (R:=rows.take (i+1)) (i:=i) (by rw[ek,J5,av];simp);rw[ek]at this;have e:(rows.take i++[rows.getD i []]).getD i []=rows.getD i []:=by have:=zDn (xs:=rows.take i) (v:=rows.getD i []);rw[av]at this;exact this
   rw[e,<-ek]at this;exact this
  by_cases ci:k=n
  ·
   refine⟨(out,((i+1:Nat):Int)),?_,out,pv,rfl,h,⟨fun a ha=>ff _ (hs.1 a ha),fun a ha=>?_⟩,by omega,by omega⟩
   ·unfold zR5
    simp only
    rw[xD hi,zK,yS [] hi];simp only[bs,gF,k2];rw[hw.1,zP8,zK,zB,bs,cs]
   ·rw[ek,J5,av,Jf]at ha
    rw[ek];rcases Jk a i with g|g
    ·rw[zDm];exact hs.2 a (by omega)
    ·have:a=i:=by omega
     subst this;have e:(rows.take a++[rows.getD a []]).getD a []=rows.getD a []:=by have:=zDn (xs:=rows.take a) (v:=rows.getD a []);rw[av]at this;exact this
     rw[e];refine zK2 (out:=out) (cf:=fun q=> -1*cf q) (fun a ha=>qC ha) fun j hj=>?_
     have h1:=fy j hj;rw[k3 j (by omega)]at h1;rw[xL (g:=fun q=> -1*(cf q*ent out q j)) (fun q _=>by rw[Hi]),zBo];have h2:(at0 (rows.getD a []) j+S out.length fun q=>cf q*ent out q j)%p=0:=by rw[<-h1];rfl
     rw[show at0 (rows.getD a []) j=(at0 (rows.getD a []) j+S out.length fun q=>cf q*ent out q j)+ -1*(S out.length fun q=>cf q*ent out q j)from by omega,Kb,h2,L5,K2]
  ·have hk:k<n:=by omega
   have hwk:=hw.2 k hk;have gf:=k4 hk;obtain⟨r,r1,r2,r3,r4⟩:=zMi hp (x:=at0 (cl p n out pv (rows.getD i []) out.length) k);have ax:=zNN hp hn hw r2 r3;have hu:Row p n (mkv n fun j=>(at0 (cl p n out pv (rows.getD i []) out.length) j*r)%p):=⟨yI _ _,fun j hj=>by have e1:=Kl (at0 (cl p n out pv (rows.getD i []) out.length) j*r) (show p≠0 by omega);have e2:=K9 (at0 (cl p n out pv (rows.getD i []) out.length) j*r) (show 0<p by omega);rw[zY hj];omega⟩
   have ua:∀j,j<n->at0 (mkv n fun j=>(at0 (cl p n out pv (rows.getD i []) out.length) j*r)%p) j=(at0 (cl p n out pv (rows.getD i []) out.length) j*r)%p:=fun j hj=>zY hj
   generalize mkv n (fun j=>(at0 (cl p n out pv (rows.getD i []) out.length) j*r)%p)=u at ax hu ua
   have u1:at0 u k=1:=by rw[ua k hk];exact r4
   have ul:∀j,j<k->at0 u j=0:=fun j hj=>by rw[ua j (by omega),k3 j hj];simp
   have up:∀a,a<out.length->at0 u (pv a)=0:=fun a ha=>by rw[ua _ (h.lt a ha),hpz a ha];simp
   obtain⟨q,⟨hq,Vk⟩,fc⟩:=zCm (p:=fun q=>q<=out.length/\(q<out.length->k<pv q)) ⟨out.length,J9 _,fun g=>by omega⟩;have q1:∀a,a<q->pv a<k:=fun a ha=>by
    have h1:¬(k<pv a):=fun g=>fc a ha ⟨by omega,fun _=>g⟩
    have h2:pv a≠k:=fun e=>by have:=up a (by omega);rw[e,u1]at this;cases this
    omega
   have q2:∀a,q<=a->a<out.length->k<pv a:=fun a ha We=>by
    have h1:=Vk (by omega);rcases Jk q a with g|g
    ·have:=h.mono q a g We;omega
    ·rw[show a=q from by omega];exact h1
   have fe:=zMj hp h hu hk u1 ul up hq q1 q2 hn (by omega) (x:=(i:Int));have jp:=zNM hp h hu hk u1 ul up hq q1 q2;obtain⟨s1,s2,s3⟩:=zQN hp h hu hk u1 ul up hq q1 q2;refine⟨(mkR (out.length+1) (sD p n out u k q),((i+1:Nat):Int)),?_,_,_,rfl,jp,⟨fun a ha=>?_,fun a ha=>?_⟩,by rw[tY];omega,by omega⟩
   ·unfold zR5
    simp only
    rw[xD hi,zK,yS [] hi];simp only[bs,gF,k2];rw[hw.1,zCK,zL,xM (by rw[hw.1];exact hk)];simp only[bs,r1,ax];cases eg:zF (zIP p (out,(i:Int)) (k:Int) u) ([],Wx,0)with
    |none=>rw[eg]at fe;cases fe
    |some r32=>
     rw[eg,bs]at fe;simp only[bs];obtain⟨a1,a2⟩:=r32;cases a2 with
     |true=>
      simp only[K7,zL]at fe ⊢
      rw[zB,bs,cs,Lr.inj fe]
     |false=>
      simp only[Ko,zK]at fe ⊢
      cases hap:yR a1 [u]with
      |none=>rw[hap]at fe;cases fe
      |some v33=>
       rw[hap,bs]at fe;simp only[bs];rw[zB,bs,cs,Lr.inj fe]
   ·rw[tY]at ha
    rw[kU ha];refine zAf (fun b hb=>?_) (s1 a ha);rw[J5,Jf]at hb;rcases Jk b out.length with g|g
    ·rw[zDm g];exact ff _ (hs.1 b g)
    ·rw[show b=out.length from by omega,zDn]
     have iN:Sp p n (rows.take (i+1)) (cl p n out pv (rows.getD i []) out.length):=by
      have mL:Sp p n (rows.take (i+1)) (mkv n fun j=>S out.length fun k=>cf k*ent out k j):=zK2 (out:=out) (cf:=cf) (fun b hb=>ff _ (hs.1 b hb)) fun j hj=>by rw[zY hj]
      refine qZ (k:=1) cJ mL fun j hj=>?_
      rw[fy j hj,zY hj,Uy]
     refine qZ (k:=r) (kT (u:=[]) fun j _=>by simp[at0]) iN fun j hj=>?_
     rw[ua j hj,K2,show at0 ([]:List Int) j=0 from by simp[at0],L5,Lu]
   ·rw[ek,J5,av,Jf]at ha
    rw[ek];rcases Jk a i with g|g
    ·rw[zDm]
     exact zAf s2 (hs.2 a (by omega))
    ·have hai:a=i:=by omega
     subst hai;have e:(rows.take a++[rows.getD a []]).getD a []=rows.getD a []:=by have:=zDn (xs:=rows.take a) (v:=rows.getD a []);rw[av]at this;exact this
     rw[e];have iN:Sp p n (mkR (out.length+1) (sD p n out u k q)) (cl p n out pv (rows.getD a []) out.length):=by
      refine qZ (k:=at0 (cl p n out pv (rows.getD a []) out.length) k) (kT (u:=[]) fun j _=>by simp[at0]) s3 fun j hj=>?_
      rw[ua j hj,show at0 ([]:List Int) j=0 from by simp[at0],L5];rw[Jv,K2,<-Jv,<-Hi,Lu (at0 (cl p n out pv (rows.getD a []) out.length) k),Hi,Jv,r4,Kz,K2]
     have mL:Sp p n (mkR (out.length+1) (sD p n out u k q)) (mkv n fun j=>S out.length fun k=>cf k*ent out k j):=zK2 (out:=out) (cf:=cf) s2 fun j hj=>by rw[zY hj]
     refine qZ (k:=-1) iN mL fun j hj=>?_
     rw[zY hj,Kb,fy j hj,<-Kb]
     congr 1;omega
 ·obtain⟨out,pv,rfl,h,hs,hl,_⟩:=hI
  refine⟨out,?_,pv,⟨h,hl⟩,by rw[Gg]at hs;exact hs⟩;unfold zR5;simp only
  rw[wX,zL]
theorem zMk:∃R pv,f_p p rows=Wu R/\Red p n R pv/\qN p n R rows:=by grind[zEB]
theorem zHN{R:Mx}(h:Red p n R pv)(hs:qN p n R rows):R.length<=rows.length:=by have h7:=hp.pos;obtain⟨R',pv',_,h2,h3⟩:=zEB hp hn hm hr;rw[h.unique (by omega) h2.1 (hs.trans h3.symm)];exact h2.2
theorem qR:∃R pv,f_p p rows=Wu R/\f_g p rows=Wu R/\Red p n R pv/\qN p n R rows:=by
 have h7:=hp.pos;obtain⟨R,pv,h1,h2,h3⟩:=zMk hp hn hm hr;obtain⟨R',pv',g1,g2,g3⟩:=zMh hp hn hm hr;have e:=h2.unique (by omega) g2 (h3.trans g3.symm)
 grind
end
theorem tF{body:List β×Int->Option ((List β×Int)⊕List β)}(n:Nat)(F:Nat->β)(h:∀i acc,i<n->acc.length=i->body (acc,(i:Int))=Wu (.inl (acc++[F i],((i+1:Nat):Int))))(he:∀acc,body (acc,(n:Int))=Wu (.inr acc)):
  zF body ([],0)=Wu ((Ju n).map F):=by
 have:=zN (body:=body) (r:=(Ju n).map F) (fun i=>((Ju i).map F,(i:Int))) n (by grind[Ub]) (he _);exact this
def xE(D k:Nat):List Int:=mkv D fun j=>if j=k then 1 else 0
theorem tQ{p:Int}(hp:2<=p):Row p D (xE D k):=⟨yI _ _,by grind[xE,zY]⟩
theorem zAi(hk:k<D:=by omega)(hD:D<=1000000:=by omega):zVn (D:Int) (k:Int)=Wu (xE D k):=by grind[zVn,yZ,xM,sK,kS,xE]
abbrev gl{β:Type}(m:Nat)(F:Nat->β):List β:=(Ju m).map F
theorem yG{β:Type}{F:Nat->β}:(gl m F).length=m:=by simp[gl]
theorem vM{β:Type}{F:Nat->β}(h:i<m:=by omega):ixO (gl m F) (i:Int)=Wu (F i):=by rw[tB (by grind)];simp[gl]
theorem xZ{β:Type}{F G:Nat->β}(h:∀i,i<m->F i=G i):gl m F=gl m G:=by grind[Uj]
theorem zAG{β:Type}{F:Nat->β}{a:β}:(gl m F).set i a=gl m (fun k=>if k=i then a else F k):=by
 apply Kx
 grind
theorem vZ{β:Type}{F:Nat->β}:gl m F++[F m]=gl (m+1) F:=by simp[gl,Ub]
def base(n i:Nat):Nat:=n+i*n-i*(i+1)/2
theorem zFG:∀n,n<8-> ∀i,i<n->base n (i+1)=base n i+(n-1-i):=by decide
theorem zBf:∀n,n<8-> ∀i,i<n->base n i+(n-1-i)<=base n n:=by decide
theorem vF:∀n,n<8->n<=base n n/\base n n<=28/\base n 0=n:=by decide
def exP(n D:Nat)(x:SPr)(T:Mx)(i:Nat):List Int:=if i<n then x.zQ.getD i []++T.getD i []else J0 (n+D) 0
def exF(n:Nat)(x:SPr)(m:zS)(T:Mx)(i j:Nat):List Int:=if j<n-1-i then(x.zG.getD i []).getD j []++T.getD (base n i+j) []else J0 n 0++(m.zR.getD i []).getD (j-(n-1-i)) []
def unC(N i:Nat):Mx:=gl (N-1-i) fun j=>xE N (i+1+j)
def exC(n D:Nat)(x:SPr)(m:zS)(T:Mx)(i:Nat):Mx:=if i<n then gl (n+D-1-i) (exF n x m T i)else unC (n+D) i
def ext(n D:Nat)(x:SPr)(m:zS)(T:Mx):SPr:=⟨x.zA++J0 D m.Prime,gl (n+D) (exP n D x T),gl (n+D) (exC n D x m T)⟩
structure zWJ (n D:Nat) (x:SPr) (m:zS) (T:Mx):Prop where
 hn:n<=7
 o:x.zA.length=n
 p:x.zQ.length=n
 c:x.zG.length=n
 cl:∀i,i<n->(x.zG.getD i []).length=n-1-i
 pl:∀i,(x.zQ.getD i []).length<=7
 ce:∀i j,((x.zG.getD i []).getD j []).length<=7
 t:T.length=base n n
 tl:∀i,(T.getD i []).length<=40
 m:zZT n m D
theorem zK3{a b:List Int}(ha:a.length<=1000:=by omega)(hb:b.length<=1000:=by omega):f_u [a,b]=Wu (a++b):=by grind[zBd]
theorem zJ8{v:Int}(hk:k<=1000):∀d c:Nat,c<=k->(c=0->k=0)->k-c<=d->zF zCj (J0 c v++J0 (k-c) 0,(c:Int))=Wu (J0 k v):=by
 intro d
 induction d with
 |zero=>
  intro c h1 _ h3;obtain rfl:c=k:=by omega
  rw[yW];unfold zCj;simp
 |succ d ih=>
  intro c h1 h2 h3
  by_cases hc:c=k
  ·grind
  ·have hl:(J0 c v++J0 (k-c) (0:Int)).length=k:=by simp;omega
   have s1:zT (J0 c v++J0 (k-c) (0:Int)) (c:Int) (k:Int)=Wu (((J0 c v++J0 (k-c) (0:Int)).drop c).take (k-c)):=by
    unfold zT
    simp_all
   have s2:zT (J0 c v++J0 (k-c) (0:Int)) 0 (c:Int)=Wu (J0 c v):=by
    unfold zT
    simp_all
   have e1:(J0 c v).take (k-c)=J0 (min (k-c) c) v:=by simp
   have e2:wU (J0 c v++J0 (k-c) (0:Int)) c (J0 (min (k-c) c) v)=J0 (c+min c (k-c)) v++J0 (k-(c+min c (k-c))) 0:=by
    unfold wU;rw[Jz (by simp),Jc,Nat.min_comm (k-c) c,Jx,Jb3,Jc,Lw (by rw[Jc];omega),Js,Ln]
    congr 2;omega
   have hb:zCj (J0 c v++J0 (k-c) 0,(c:Int))=Wu (.inl (J0 (c+min c (k-c)) v++J0 (k-(c+min c (k-c))) 0,((c+min c (k-c):Nat):Int))):=by
    unfold zCj;simp only
    rw[hl,xD,zK,s1,bs,s2,bs,Jc];simp only[J7];rw[e1,e2,<-Ja9,zB,bs]
   rw[yW,hb];exact ih (c+min c (k-c)) (by omega) (by omega) (by omega)
theorem zNO{v:Int}(hk:k<=40):f_k [v] (k:Int)=Wu (J0 k v):=by
 have key:∀k:Nat,k<41->zVo 1 (IntKind.wrap .u64 (k:Int))=Wu (0,(k:Int))/\yO (IntKind.wrap .i64 (k:Int))=Wu k:=by decide+kernel
 obtain⟨k1,k2⟩:=key k (by omega);unfold f_k;rw[Wy (by omega),zL,zMd k1,bs];simp only[k2,bs];rw[show decide ((0:Int)> 0)=Wx from rfl,zL,Wy (by omega),zL]
 by_cases h0:k=0
 ·subst h0
  have:=zJ8 (v:=v) (k:=0) (by omega) 0 0 (by omega) (by omega) (by omega);rw[show wU (J0 0 (0:Int)) 0 (([v]:List Int).take ((J0 0 (0:Int)).length-0))=J0 0 v++J0 (0-0) 0 from rfl,show((min ([v]:List Int).length ((J0 0 (0:Int)).length-0):Nat):Int)=((0:Nat):Int)from rfl,this,bs]
 ·have:=zJ8 (v:=v) (k:=k) (by omega) k 1 (by omega) (by omega) (by omega)
  have e1:wU (J0 k (0:Int)) 0 (([v]:List Int).take ((J0 k (0:Int)).length-0))=J0 1 v++J0 (k-1) 0:=by
   unfold wU
   grind
  grind
theorem zQO{O:List Int}{N:Nat}(hO:O.length=N)(hN:N<=100:=by omega):f_L O=Wu ⟨O,gl N (fun _=>J0 N 0),gl N (unC N)⟩:=by
 have gK:∀i,i<N->zF (zR6 O) ([],((i+1:Nat):Int))=Wu (unC N i):=fun i hi=>by
  have:=zN (body:=zR6 O) (r:=unC N i) (fun j=>(gl j fun j=>xE N (i+1+j),((i+1+j:Nat):Int))) (N-1-i) (fun j hj=>by
   unfold zR6;simp only
   rw[hO,xD,zK,zAi,bs,yA (by grind),bs,zB,bs,cs,vZ (F:=fun j=>xE N (i+1+j))];rfl) (by
   unfold zR6;simp only
   rw[hO,show i+1+(N-1-i)=N from by omega,wX,zL,unC])
  exact this
 have:=zN (body:=zR7 O) (r:=(gl N (fun _=>J0 N 0),gl N (unC N))) (fun i=>(gl i (fun _=>J0 N (0:Int)),gl i (unC N),((i:Nat):Int))) N (fun i hi=>by
  unfold zR7;simp only
  rw[hO,xD hi,zK,yZ,bs,yA (by grind),bs,zB,bs,cs,gK i hi,bs,yA (by rw[yG];simp;omega),bs,bs,vZ (F:=unC N),vZ (F:=fun _=>J0 N (0:Int))]) (by
  unfold zR7
  grind)
 unfold f_L;rw[zCc,bs]
 grind
section
variable {n D:Nat}{x:SPr}{m:zS}{T:Mx} (h:zWJ n D x m T)
 include h
def exG(n N:Nat)(x:SPr)(m:zS)(T:Mx)(i t q:Nat):List Int:=if q<t then exF n x m T i q else xE N (i+1+q)
def exE(n D:Nat)(x:SPr)(m:zS)(T:Mx)(i t k:Nat):Mx:=if k<i then exC n D x m T k else if k=i then gl (n+D-1-i) (exG n (n+D) x m T i t)else unC (n+D) k
theorem zHO{t:Nat}:exE n D x m T i t i=gl (n+D-1-i) (exG n (n+D) x m T i t):=by have _:=h;rw[exE,if_neg (by omega),if_pos rfl]
theorem zGH{t:Nat}:(gl (n+D) (exE n D x m T i t)).set i ((gl (n+D-1-i) (exG n (n+D) x m T i t)).set t (exF n x m T i t))=gl (n+D) (exE n D x m T i (t+1)):=by
 have _:=h;rw[zAG,zAG];refine xZ fun k _=>?_
 by_cases hk:k=i
 ·subst hk
  rw[if_pos rfl,zHO h];refine xZ fun q _=>?_
  simp only[exG]
  grind
 ·rw[if_neg hk,exE,exE,if_neg hk,if_neg hk]
theorem zAH:exE n D x m T i 0 k=if k<i then exC n D x m T k else unC (n+D) k:=by
 have _:=h;rw[exE]
 by_cases h1:k<i
 ·grind
 ·rw[if_neg h1,if_neg h1]
  by_cases h2:k=i
  ·subst h2
   rw[if_pos rfl];rfl
  grind
theorem zHP(hi:i<n):gl (n+D) (exE n D x m T i (n+D-1-i))=gl (n+D) (exE n D x m T (i+1) 0):=by
 refine xZ fun k _=>?_
 rw[zAH h,exE]
 by_cases h1:k<i
 ·grind
 ·rw[if_neg h1]
  by_cases h2:k=i
  ·subst h2
   rw[if_pos rfl,if_pos (by omega),exC,if_pos hi];exact xZ fun q hq=>by rw[exG,if_pos hq]
  grind
theorem yCx(hi:i<n){C:List Mx}{w:Int}:zF (zO3 T (C,w,(i:Int)) (x.zG.getD i [])) (gl (n+D) (exE n D x m T i 0),((base n i:Nat):Int),0)=Wu (gl (n+D) (exE n D x m T i (n-1-i)),((base n (i+1):Nat):Int)):=by
 have h6:=h.hn;have h3:=h.m.d3;have hc:=h.cl i hi;have hb:=zBf n (by omega) i hi;have eY:=vF n (by omega);have:=zN (body:=zO3 T (C,w,(i:Int)) (x.zG.getD i [])) (r:=(gl (n+D) (exE n D x m T i (n-1-i)),((base n (i+1):Nat):Int))) (fun j=>(gl (n+D) (exE n D x m T i j),((base n i+j:Nat):Int),((j:Nat):Int))) (n-1-i) (fun j hj=>by
  have a1:=h.ce i j;have a2:=h.tl (base n i+j);have e:exF n x m T i j=(x.zG.getD i []).getD j []++T.getD (base n i+j) []:=if_pos hj;unfold zO3;simp only
  rw[hc,xD hj,zK,yS [],bs,vM,bs,yS [] (by rw[h.t];omega),bs,zK3,bs,zHO h,vM,bs,zB,bs,zB,bs,cs,cs,<-e,J7,J7,zGH h];rfl) (by
  unfold zO3;simp only
  rw[hc,wX,zL,zFG n (by omega) i hi])
 exact this
theorem yCy(hi:i<n){C:List Mx}{w:Int}:zF (zO4 x (C,w,(i:Int)) (m.zR.getD i [])) (gl (n+D) (exE n D x m T i (n-1-i)),0)=Wu (gl (n+D) (exE n D x m T (i+1) 0)):=by
 have h6:=h.hn;have h3:=h.m.d3;have Vy:=h.m.mat i hi;have:=zN (body:=zO4 x (C,w,(i:Int)) (m.zR.getD i [])) (r:=gl (n+D) (exE n D x m T (i+1) 0)) (fun j=>(gl (n+D) (exE n D x m T i (n-1-i+j)),((j:Nat):Int))) D (fun j hj=>by
  have e:exF n x m T i (n-1-i+j)=J0 n 0++(m.zR.getD i []).getD j []:=by rw[exF,if_neg (by omega),show n-1-i+j-(n-1-i)=j from by omega]
  have hr:=(Vy.2 j hj).1;unfold zO4;simp only
  rw[Vy.1,xD hj,zK,yS [] (by grind),bs,vM,bs,h.o,zB,bs,zB,bs,zB,bs,show(0:Int)=((0:Nat):Int)from rfl,zGo,bs,
   show(n:Int)-1-(i:Int)+(j:Int)=((n-1-i+j:Nat):Int)from by omega,zHO h,vM,bs,zB,bs,cs,Kt,Jh,<-e,J7,J7,zGH h];rfl) (by
  unfold zO4;simp only
  rw[Vy.1,wX,zL,show n-1-i+D=n+D-1-i from by omega,zHP h hi])
 exact this
theorem yCz:zF (zO5 x m T) (gl (n+D) (unC (n+D)),((n:Nat):Int),0)=Wu (gl (n+D) (exC n D x m T)):=by
 have h6:=h.hn;have h3:=h.m.d3;have eY:=vF n (by omega);have:=zN (body:=zO5 x m T) (r:=gl (n+D) (exC n D x m T)) (fun i=>(gl (n+D) (exE n D x m T i 0),((base n i:Nat):Int),((i:Nat):Int))) n (fun i hi=>by
  unfold zO5;simp only
  rw[h.o,xD hi,zK,yS [] (by rw[h.c];exact hi),bs,yCx h hi,bs,yS [] (by rw[h.m.len];exact hi),bs,yCy h hi,bs,zB,bs,cs]) (by
  unfold zO5;simp only
  rw[h.o,wX,zL]
  congr 2
  refine xZ fun k _=>?_
  rw[zAH h,exC]
  grind)
 have e:gl (n+D) (exE n D x m T 0 0)=gl (n+D) (unC (n+D)):=xZ fun k _=>by rw[zAH h,if_neg (by omega)]
 grind
theorem yC0:zF (zO2 x T) (gl (n+D) (fun _=>J0 (n+D) 0),0,0)=Wu (gl (n+D) (exP n D x T),((n:Nat):Int)):=by
 have h6:=h.hn;have h3:=h.m.d3;have eY:=vF n (by omega);have:=zN (body:=zO2 x T) (r:=(gl (n+D) (exP n D x T),((n:Nat):Int))) (fun i=>(gl (n+D) (fun k=>if k<i then exP n D x T k else J0 (n+D) 0),((i:Nat):Int),((i:Nat):Int))) n (fun i hi=>by
  have a1:=h.pl i;have a2:=h.tl i;have e:exP n D x T i=x.zQ.getD i []++T.getD i []:=if_pos hi;unfold zO2;simp only
  rw[h.p,xD hi,zK,yS [] (by rw[h.p];exact hi),bs,yS [] (by rw[h.t];omega),bs,zK3,bs,vM,bs,zB,bs,bs,cs,<-e,J7,zAG]
  grind) (by
  unfold zO2;simp only
  rw[h.p,wX,zL]
  congr 3
  refine xZ fun k _=>?_
  by_cases hk:k<n
  ·grind
  ·rw[if_neg hk,exP,if_neg hk])
 grind
theorem zWK{v:Int}:f_k [v] m.Dim=Wu (J0 D v):=by rw[h.m.d];exact zNO (by have:=h.m.d3;omega)
theorem zTE:f_l x m T=Wu (ext n D x m T):=by
 have h6:=h.hn;have h3:=h.m.d3;unfold f_l;rw[zCc (by rw[h.o];omega),bs,zWK h,bs,yA (by rw[h.o];simp;omega),bs,zQO (N:=n+D) (by rw[J5,h.o];simp),bs];simp only
 rw[yC0 h,bs,yCz h,bs];rfl
end
theorem zFH{xs:Mx}{b:Nat}(h:∀i,i<xs.length->(xs.getD i []).length<=b)(i:Nat):(xs.getD i []).length<=b:=by grind
theorem zAI(ho:x.zA.length=n)(hn:n<=7):zO1 x=Wu ((base n n:Nat):Int):=by
 unfold zO1;rw[ho];have key:∀n:Nat,n<8->((rng ((n:Int)+1)).bind fun v1=>(rng ((n:Int)*v1)).bind fun v2=>(vP v2 2).bind fun v3=>Wu v3)=Wu ((base n n:Nat):Int):=by decide+kernel
 grind
theorem zQP{xs:Mx}(h:xs.length<=100000)(hl:∀i,i<xs.length->(xs.getD i []).length<=1000000):zXJ xs=Wu xs:=by
 unfold zXJ;rw[tF (body:=zMW xs) xs.length (fun i=>xs.getD i []) (fun i acc hi ha=>by
  unfold zMW;simp only
  rw[xD hi,zK,yS [] hi,bs,sJ (hl i hi),bs,yA (by simp;omega),bs,zB,bs,cs]) (fun acc=>by
  unfold zMW;simp),bs]
 congr 1
 exact(zTA rfl).symm
theorem zNP(hl:v.length<=1000000)(hk:k<v.length)(h0:∀j,j<k->at0 v j=0)(h1:at0 v k≠0):f_W v=Wu (k:Int):=by
 unfold f_W;have:=zN (body:=zMX v) (r:=.inr (k:Int)) (fun i=>(i:Int)) k (fun i hi=>by
  unfold zMX zR8;rw[xD,zK,xM,bs,bs,h0 i hi,bne_self_eq_false,zL,zB,bs,cs]) (by
  unfold zMX zR8;rw[xD hk,zK,xM hk,bs,bs,zP3 h1,zK])
 grind
section
variable {p:Int} (hp:Prime p) {n:Nat} (hn:n<=100000) {R:Mx}{pv:Nat->Nat} (h:Red p n R pv) {v:List Int} (hv:Row p n v)
 include hp hn h
theorem zGp(hm:R.length<=100000):f_y R=Wu (gl R.length fun i=>(pv i:Int)):=by
 have h7:=hp.pos;unfold f_y;rw[tF (body:=zIQ R) R.length (fun i=>(pv i:Int)) (fun i acc hi ha=>by
  have hr:=h.row i hi;have h1:=h.one i hi;unfold zIQ;simp only
  rw[xD hi,zK,yS [] hi,bs,zNP (k:=pv i) (by rw[hr.1];omega) (by grind) (fun j hj=>h.low i hi j hj) (by grind),bs,yA (by simp;omega),bs,zB,bs,cs]) (fun acc=>by
  unfold zIQ;simp),bs]
 include hv
theorem zZV(hi:i<R.length):tN p n (cl p n R pv v i) (0-at0 (cl p n R pv v i) (pv i)) (R.getD i [])=cl p n R pv v (i+1):=by
 have _:=hp;have _:=hn;have _:=h;have _:=hv;have _:=hi;rw[cl];refine yH fun j _=>?_
 generalize at0 (cl p n R pv v i) (pv i)=a
 generalize at0 (R.getD i []) j=b
 rw[Jbc,Jbc,U3];have e:at0 (cl p n R pv v i) j+(p*b-a*b)=at0 (cl p n R pv v i) j+(0-a*b)+p*b:=by omega
 simp_all
theorem zHQ{c:Int}(hm:R.length<=100000):zXK (zM.mk p c R) v=Wu (cl p n R pv v R.length):=by
 have h7:=hp.pos;have:=zN (body:=zJL (zM.mk p c R) (gl R.length fun i=>(pv i:Int))) (r:=cl p n R pv v R.length) (fun i=>(cl p n R pv v i,(i:Int))) R.length (fun i hi=>by
  have hr:=zAF hp hn h hv i;have ha:=hr.2 (pv i) (h.lt i hi);unfold zJL;simp only
  rw[yG,xD hi,zK,vM hi,bs,yS [] hi,bs,xM (by rw[hr.1];exact h.lt i hi),bs,zB,bs,zDl hp hr (h.row i hi) (by omega) (by omega),bs,zB,bs,cs,zZV hp hn h hv hi]) (by
  unfold zJL;simp)
 unfold zXK;rw[zCc (by rw[hv.1];omega),bs];simp only
 rw[zGp hp hn h hm,bs];have e:zF (zJL (zM.mk p c R) (gl R.length fun i=>(pv i:Int))) (v,0)=Wu (cl p n R pv v R.length):=this;rw[e,bs]
theorem zK4:(∀j,j<n->at0 (cl p n R pv v R.length) j=0)↔Sp p n R v:=by
 have h7:=hp.pos;obtain⟨cf,fy⟩:=zK1 hp hn h hv R.length (J9 _);have hr:=zAF hp hn h hv R.length;have hs:Sp p n R (mkv n fun j=>S R.length fun k=>cf k*ent R k j):=⟨cf,by grind[zY]⟩;constructor
 ·intro h0
  refine qZ (v:=mkv n fun _=>0) (w:=mkv n fun j=>S R.length fun k=>cf k*ent R k j) (k:=-1) (kT fun j hj=>by rw[zY hj];rfl) hs fun j hj=>?_
  have h1:=fy j hj;rw[h0 j hj]at h1;rw[zY hj,zY hj]
  generalize (S R.length fun k=>cf k*ent R k j)=s at h1 ⊢
  have h2:(at0 v j+s)%p=0:=by rw[<-h1];rfl
  have h3:(at0 v j-(0+ -1*s))%p=0:=by grind
  exact Um.2 h3
 ·intro mu j hj
  have h1:Sp p n R (cl p n R pv v R.length):=qZ (k:=1) mu hs fun j hj=>by rw[fy j hj,zY hj,Uy]
  have h2:=h.expand h1 j hj;rw[xL (g:=fun _=>0) (fun i hi=>by rw[zFF hp hn h hv R.length (J9 _) i hi,U3]),uU]at h2;have h3:=hr.2 j hj;rw[Jo h3.1 (by omega)]at h2;rw[h2];rfl
end
section
variable {p:Int} (hp:1<p) {n:Nat}{R R':Mx}{pv pv':Nat->Nat} (h:Red p n R pv) (h':Red p n R' pv') (hs:∀i,i<R.length->Sp p n R' (R.getD i []))
 include hp h h' hs
theorem Red.lt_of{i2 k2:Nat}(mf:i<i2)(eD:i2<R.length)(hk:k<R'.length)(e:pv' k=pv i)(e2:pv' k2=pv i2):k<k2:=by
 have _:=hp;have _:=hs;have h1:=h.mono i i2 mf eD;refine Classical.byContradiction fun hn=>?_
 rcases Jk k2 k with g|g
 ·have:=h'.mono k2 k g hk;omega
 grind
theorem Red.low_in:∀i,i<R.length-> ∃k,k<R'.length/\pv' k=pv i/\i<=k:=by
 intro i
 induction i with
 |zero=>intro hi;obtain⟨k,hk,e⟩:=h.piv_in hp h' hs hi;grind
 |succ i ih=>
  intro hi;obtain⟨k,hk,e,aE⟩:=ih (by omega);obtain⟨k2,eR,e2⟩:=h.piv_in hp h' hs hi;have:=h.lt_of hp h' hs (by simp) hi hk e e2
  grind
theorem Red.le_of:R.length<=R'.length:=by
 rcases Gu R.length with g|g
 ·omega
 ·obtain⟨k,hk,_,aE⟩:=h.low_in hp h' hs (R.length-1) (by omega)
  omega
end
theorem zK5:at0 (u++v) j=if j<u.length then at0 u j else at0 v (j-u.length):=by grind
theorem zHR:at0 (v.drop c) j=at0 v (c+j):=by simp
theorem zBA(h:j<c:=by omega):at0 (v.take c) j=at0 v j:=by grind
theorem zEC{f:Nat->Int}(t:Nat):∀d:Nat,S (t+d) f=S t f+S d (fun i=>f (t+i))
 |0=>by simp[S]
 |d+1=>by rw[<-H4];simp only[S];rw[zEC t d];omega
theorem zZW{t:Nat}(ht:t<=n)(h:∀i,i<t->f i=0):S n f=S (n-t) (fun i=>f (t+i)):=by
 have e:n=t+(n-t):=by omega
 conv=>lhs;rw[e,zEC,xL (g:=fun _=>0) h,uU]
 omega
theorem yY(h:i<m:=by omega):(gl m F).getD i []=F i:=by grind
def ur(N i:Nat):List Int:=mkv N fun j=>if j=i then 1 else 0
def wd(N:Nat)(A:Mx):Mx:=gl N fun i=>A.getD i []++ur N i
def Gr(p:Int)(c N:Nat)(A:Mx)(u:List Int):Prop:=∀j,j<c->at0 u j%p=(S N fun k=>at0 u (c+k)*ent A k j)%p
section
variable {p:Int} (hp:1<p) {c N:Nat}{A:Mx} (hA:∀i,i<N->Row p c (A.getD i []))
 include hA
theorem zCL:(wd N A).length=N:=by have _:=hA;exact yG
theorem zK6(hi:i<N)(hj:j<c):ent (wd N A) i j=ent A i j:=by rw[ent,wd,yY hi,zK5,(hA i hi).1,if_pos hj]
theorem zBB{l:Nat}(hi:i<N)(hl:l<N):ent (wd N A) i (c+l)=if l=i then 1 else 0:=by
 rw[ent,wd,yY hi,zK5,(hA i hi).1,if_neg (by omega),Gx,ur,zY hl]
 include hp
theorem zTF(hi:i<N):Row p (c+N) ((wd N A).getD i []):=by
 refine⟨by rw[wd,yY hi,J5,(hA i hi).1,ur,yI],fun j hj=>?_⟩;rcases Jk j c with g|g
 ·have:=(hA i hi).2 j g
  have e:=zK6 hA hi g
  grind
 ·have e:=zBB hA (l:=j-c) hi (by omega)
  grind
theorem yC1:Sp p (c+N) (wd N A) u↔Gr p c N A u:=by
 have _:=hp;constructor
 ·rintro⟨cf,fy⟩ j hj
  rw[zCL hA]at fy;rw[<-fy j (by omega)];refine zAe fun k hk=>?_
  have h1:=fy (c+k) (by omega);rw[zAq (k:=k) hk (fun i hi gf=>by rw[zBB hA hi hk,if_neg (Ne.symm gf),L6]),zBB hA hk hk,if_pos rfl,Kz]at h1;rw[zK6 hA hk hj,Jv,h1,<-Jv]
 ·intro h
  refine⟨fun k=>at0 u (c+k),fun j hj=>?_⟩;rw[zCL hA];rcases Jk j c with g|g
  ·rw[h j g]
   refine congrArg (· %p) (xL fun k hk=>?_);rw[zK6 hA hk g]
  ·obtain⟨l,rfl⟩:∃l,j=c+l:=⟨j-c,by omega⟩
   rw[zAq (k:=l) (by omega) (fun i hi gf=>by rw[zBB hA hi (by omega),if_neg (Ne.symm gf),L6]),zBB hA (by omega) (by omega),if_pos rfl,Kz]
variable {W:Mx}{pv:Nat->Nat} (hW:Red p (c+N) W pv) (hs:qN p (c+N) W (wd N A))
 include hW
theorem zZX:∃t,t<=W.length/\(∀i,i<t->pv i<c)/\ ∀i,t<=i->i<W.length->c<=pv i:=by
 have _:=hA;have _:=hp;obtain⟨t,ht,fc⟩:=zCm (p:=fun t=>W.length<=t\/c<=pv t) ⟨W.length,.inl (J9 _)⟩;have gI:∀i,i<t->i<W.length/\pv i<c:=fun i hi=>by have:=fc i hi;exact⟨Jal fun h=>this (.inl h),Jal fun h=>this (.inr h)⟩
 refine⟨t,Nat.le_of_not_lt fun h=>?_,fun i hi=>(gI i hi).2,fun i hi eD=>?_⟩
 ·have:=(gI W.length h).1;omega
 ·rcases ht with h|h
  ·omega
  ·rcases Jk t i with g|g
   ·have:=hW.mono t i g eD;omega
   ·rw[show i=t from by omega];exact h
def nul(c t:Nat)(W:Mx):Mx:=gl (W.length-t) fun i=>(W.getD (t+i) []).drop c
 omit hp hA hW in
theorem zED{t:Nat}(hi:t+i<W.length:=by omega):ent (nul c t W) i j=ent W (t+i) (c+j):=by rw[ent,nul,yY,zHR]
variable {t:Nat} (ht:t<=W.length) (h1:∀i,i<t->pv i<c) (h2:∀i,t<=i->i<W.length->c<=pv i)
 include ht h1 h2
theorem zWL:Red p N (nul c t W) (fun i=>pv (t+i)-c):=by
 have _:=hp;have _:=hA;have _:=h1;have _:=ht;have hl:(nul c t W).length=W.length-t:=yG;have Vo:∀i,i<W.length-t->c<=pv (t+i):=by grind
 refine⟨fun i hi=>?_,fun i hi=>?_,fun i hi=>?_,fun i hi j hj=>?_,fun i k hi hk gf=>?_,fun i j gQ hj=>?_⟩
 ·rw[hl]at hi
  have hr:=hW.row (t+i) (by omega);refine⟨by rw[nul,yY hi,K8,hr.1];omega,fun j hj=>?_⟩;have:=hr.2 (c+j) (by omega)
  grind[nul]
 ·rw[hl]at hi
  have:=hW.lt (t+i) (by omega)
  grind
 ·rw[hl]at hi
  rw[zED,show c+(pv (t+i)-c)=pv (t+i)from by grind];exact hW.one _ (by omega)
 ·rw[hl]at hi
  rw[zED];exact hW.low _ (by omega) _ (by omega)
 ·rw[hl]at hi hk
  rw[zED,show c+(pv (t+i)-c)=pv (t+i)from by grind];exact hW.off _ _ (by omega) (by omega) (by omega)
 ·rw[hl]at hj
  have:=hW.mono (t+i) (t+j) (by omega) (by omega)
  grind
 include hs
theorem yC2:Sp p (c+N) W u↔Gr p c N A u:=by have _:=hW;have _:=ht;have _:=h1;have _:=h2;exact hs.iff.trans (yC1 hp hA)
theorem zZY{x:List Int}:Sp p N (nul c t W) x↔ ∀j,j<c->(S N fun k=>at0 x k*ent A k j)%p=0:=by
 have hl:(nul c t W).length=W.length-t:=yG;constructor
 ·rintro⟨cf,fy⟩ j hj
  rw[hl]at fy;have e1:(S N fun k=>at0 x k*ent A k j)%p=(S N fun k=>(S (W.length-t) fun i=>cf i*ent (nul c t W) i k)*ent A k j)%p:=by grind[zAe,Jv]
  have e2:(S N fun k=>(S (W.length-t) fun i=>cf i*ent (nul c t W) i k)*ent A k j)=S (W.length-t) fun i=>cf i*S N fun k=>ent W (t+i) (c+k)*ent A k j:=by
   rw[xL (g:=fun k=>S (W.length-t) fun i=>cf i*(ent W (t+i) (c+k)*ent A k j)) (fun k hk=>by rw[<-zP5];exact xL (by grind[zED])),zHI]
   grind[zBo]
  have e3:(S (W.length-t) fun i=>cf i*S N fun k=>ent W (t+i) (c+k)*ent A k j)%p=(S (W.length-t) fun _=>0)%p:=zAe fun i hi=>by have h:=(yC2 hp hA hW hs ht h1 h2).1 (qC (p:=p) (n:=c+N) (R:=W) (i:=t+i)) j hj;have hz:=hW.low (t+i) (by omega) j (by grind);simp only[ent]at hz;rw[hz]at h;rw[Jv,show(S N fun k=>ent W (t+i) (c+k)*ent A k j)%p=0 from h.symm,L6]
  rw[e1,e2,e3,uU];rfl
 ·intro h0
  let u:List Int:=mkv (c+N) fun j=>if j<c then 0 else at0 x (j-c)
  have pe:∀j,j<c->at0 u j=0:=fun j hj=>by rw[zY,if_pos hj]
  have pd:∀k,k<N->at0 u (c+k)=at0 x k:=fun k hk=>by rw[zY,if_neg (by omega),Gx]
  have hg:Gr p c N A u:=fun j hj=>by rw[pe j hj,xL (g:=fun k=>at0 x k*ent A k j) (by grind),h0 j hj];rfl
  have hx:=hW.expand ((yC2 hp hA hW hs ht h1 h2).2 hg);refine⟨fun i=>at0 u (pv (t+i)),fun j hj=>?_⟩;have h3:=hx (c+j) (by omega);rw[pd j hj,zZW ht (by grind)]at h3;rw[hl,h3];exact congrArg (· %p) (xL (by grind[zED]))
end
theorem zK7(hl:v.length<=1000000:=by omega):IsB (zVg v) (∀i,i<v.length->at0 v i=0):=by
 refine zTz v.length (fun i=>at0 v i=0) rfl (fun i hi _=>?_) ?_
 ·refine zP1 (o:=Wu (at0 v i==0)) (IsB.of_bool (by simp)) (by omega) ?_
  unfold zJK;rw[xD hi,zK,xM hi,bs,bs];rfl
 ·unfold zJK
  simp
structure Nul (p:Int) (c N:Nat) (A W:Mx) (pv:Nat->Nat) (t:Nat):Prop where
 row:∀i,i<N->Row p c (A.getD i [])
 len:A.length=N
 red:Red p (c+N) W pv
 sp:qN p (c+N) W (wd N A)
 le:t<=W.length
 lo:∀i,i<t->pv i<c
 hi:∀i,t<=i->i<W.length->c<=pv i
section
variable {p:Int} (hp:Prime p) {c N:Nat} (fS:c+N<=100000) {A W:Mx}{pv:Nat->Nat}{t:Nat}
 include hp fS
theorem Nul.get(hr:∀i,i<N->Row p c (A.getD i []))(hl:A.length=N):∃W pv t,Nul p c N A W pv t/\f_p p (wd N A)=Wu W/\f_g p (wd N A)=Wu W:=by have h7:=hp.pos;obtain⟨W,pv,r1,r2,r3,r4⟩:=qR hp (n:=c+N) fS (rows:=wd N A) (by rw[zCL hr];omega) (fun i hi=>zTF (by omega) hr (by rwa [zCL hr]at hi));obtain⟨t,t1,t2,t3⟩:=zZX (by omega) hr r3;exact⟨W,pv,t,⟨hr,hl,r3,r4,t1,t2,t3⟩,r1,r2⟩
variable (h:Nul p c N A W pv t)
 include h
theorem Nul.nred:Red p N (nul c t W) (fun i=>pv (t+i)-c):=by have _:=fS;have h7:=hp.pos;exact zWL (by omega) h.row h.red h.le h.lo h.hi
theorem Nul.nsp{x:List Int}:Sp p N (nul c t W) x↔ ∀j,j<c->(S N fun k=>at0 x k*ent A k j)%p=0:=by have _:=fS;have h7:=hp.pos;exact zZY (by omega) h.row h.red h.sp h.le h.lo h.hi
theorem Nul.full:W.length=N:=by
 have h7:=hp.pos;have g1:W.length<=(wd N A).length:=zHN hp (n:=c+N) fS (by rw[zCL h.row];omega) (fun i hi=>zTF (by omega) h.row (by rwa [zCL h.row]at hi)) h.red h.sp;rw[zCL h.row]at g1;have hl:(gl W.length fun i=>(W.getD i []).drop c).length=W.length:=yG;have hR:∀i,i<W.length->Row p N ((gl W.length fun i=>(W.getD i []).drop c).getD i []):=fun i hi=>by have hr:=h.red.row i hi;rw[yY hi];refine⟨by rw[K8,hr.1];omega,fun j hj=>?_⟩;rw[zHR];exact hr.2 (c+j) (by omega)
 obtain⟨R3,pv3,_,_,g3,g4⟩:=qR hp (n:=N) (by omega) (rows:=gl W.length fun i=>(W.getD i []).drop c) (by omega) (by grind);have g5:=zHN hp (n:=N) (by omega) (by omega) (by grind) g3 g4;have px:(gl N (ur N)).length=N:=yG;have mF:∀i j,i<N->j<N->ent (gl N (ur N)) i j=if j=i then 1 else 0:=fun i j hi hj=>by rw[ent,yY hi,ur,zY hj]
 have eC:Red p N (gl N (ur N)) (fun i=>i):=by
  refine⟨fun i hi=>?_,fun i hi=>by omega,fun i hi=>?_,fun i hi j hj=>?_,by grind,fun i j gQ hj=>gQ⟩
  ·rw[px]at hi
   rw[yY hi];refine⟨yI _ _,fun j hj=>?_⟩
   grind
  all_goals grind
 have g6:=eC.le_of (by omega) g3 (fun i hi=>by rw[px]at hi;refine g4.iff.2 ?_;obtain⟨cf,fy⟩:=h.sp.2 i (by rw[zCL h.row];exact hi);refine⟨cf,fun j hj=>?_⟩;have h1:=fy (c+j) (by omega);have h2:=zBB h.row hi hj;simp only[ent]at h2;rw[h2]at h1;have h3:=mF i j hi hj;simp only[ent]at h3;rw[h3,hl,<-h1];exact congrArg (· %p) (xL (by grind)))
 omega
end
theorem zEE{α:Type}{f:α->α}{a:α}(h:f a=a):∀k,iter k f a=a
 |0=>rfl
 |k+1=>by show iter k f (f a)=a;rw[h];exact zEE h k
theorem zFI{x:SPr}(h:Pres x):∀(d k:Nat),k+d=x.zA.length->xS (suf x k)-> ∀m,d+1<=m-> ∀v,V (suf x k) v-> ∃w,V (suf x k) w/\mul (suf x k) v w=zeros (suf x k).length/\zOx m x k (fv k v)=Wu (fv k w)
 |0,k,hk,_,m,hm,v,hv=>by
  have h6:=h.os.1;obtain⟨m,rfl⟩:∃m',m=m'+1:=⟨m-1,by omega⟩;rw[vQ]at hv ⊢
  obtain rfl:v=[]:=hv;refine⟨[],rfl,rfl,?_⟩;show b_i _ x k _=_;unfold b_i;rw[Wz,zK,yZ,bs]
  simp_all[zeros]
 |d+1,k,bn,hc,m,hm,v,hv=>by
  have h6:=h.os.1;obtain⟨m,rfl⟩:∃m',m=m'+1:=⟨m-1,by omega⟩;have hk:k<x.zA.length:=by omega
  have fm:=(h.os.2 k hk).pos;have hcQ:xS (suf x (k+1)):=zCF hc 1;have ih:=zFI h d (k+1) (by omega) hcQ m (by omega);have G:=zDC h (by omega) hc;have GQ:=zDC h (by omega) hcQ;have okP:=h.okAt (k:=k) (by omega);have okQ:=h.okAt (k:=k+1) (by omega);have pq:=zHF h (by omega) hv;have fW:=yC x (k+1);obtain⟨w1,w2⟩:=yCu h hk;rw[yB hk]at hv G okP;obtain⟨a,r,rfl⟩:∃a r,v=a::r:=by
   cases v with
   |nil=>exact hv.elim
   |cons a r=>simp
  have gT:(lvl x k).o=at0 x.zA k:=rfl;obtain⟨⟨a0,a1⟩,hr⟩:=hv;rw[gT]at a1;obtain⟨r',ik,hmr,mg⟩:=ih r hr;have hz:V (suf x (k+1)) (zeros (suf x (k+1)).length):=xT okQ;have hzc:zeros (lvl x k::suf x (k+1)).length=0::zeros (suf x (k+1)).length:=rfl;have aJ:∀(c:Int)(u:Vec),0<=c->c<at0 x.zA k->V (suf x (k+1)) u->V (lvl x k::suf x (k+1)) (c::u):=fun c u h0 h1 hu=>⟨⟨h0,h1⟩,hu⟩
  have e2:mul (lvl x k::suf x (k+1)) (0::r) (0::r')=zeros (lvl x k::suf x (k+1)).length:=by
   rw[yN,gT,if_neg (by omega),hzc]
   grind[iter]
  show∃w,_/\_/\b_i (zOx m) x k (fv k (a::r))=Wu (fv k w);unfold b_i;rw[Wy (by omega),zL,sJ,bs,zHD,bs,zB,bs,cs,J7,zHC,zBn,show zeros (k+1)++r=fv (k+1) r from rfl,mg,bs,bs];rw[yB hk]
  by_cases ha:a=0
  ·subst ha
   rw[show((0:Int)==0)=Ww from rfl,zK];exact⟨0::r',by grind,e2,by rw[fv,<-zBn]⟩
  ·rw[show(a==0)=Wx from by grind,zL,yZ,bs,xM hk,bs,bs,zB,bs,uL,K3,if_pos hk,bs]
   have mq:(J0 x.zA.length (0:Int)).set k (at0 x.zA k-a)=zeros k++(at0 x.zA k-a)::zeros (suf x (k+1)).length:=by
    have e:J0 x.zA.length (0:Int)=zeros k++0::zeros (x.zA.length-(k+1)):=by simp only[zeros];rw[<-Jw,Jx];congr 1;omega
    grind[zHC]
   obtain⟨w',gS,hmw,hfw⟩:=ih (lvl x k).w w2;have hA:=aJ a _ a0 a1 hz;have hR:=aJ 0 r (by omega) (by omega) hr;have iC:=aJ 0 r' (by omega) (by omega) ik;have hT:=aJ (at0 x.zA k-a) _ (by omega) (by omega) hz;have hW:=aJ 0 (lvl x k).w (by omega) (by omega) w2;have ah:=aJ 0 w' (by omega) (by omega) gS;have gv:sig (suf x (k+1)) (lvl x k) (zeros (suf x (k+1)).length)=zeros (suf x (k+1)).length:=by grind[sig,uD]
   have e1:mul (lvl x k::suf x (k+1)) (a::zeros (suf x (k+1)).length) (0::r)=a::r:=by rw[yN,gT,if_neg (by omega),show iter (0:Int).toNat (sig (suf x (k+1)) (lvl x k)) (zeros (suf x (k+1)).length)=zeros (suf x (k+1)).length from rfl,GQ.onel hr,Kf]
   have e3:mul (lvl x k::suf x (k+1)) (a::zeros (suf x (k+1)).length) ((at0 x.zA k-a)::zeros (suf x (k+1)).length)=0::(lvl x k).w:=by
    rw[yN,gT,if_pos (by omega),zEE gv,GQ.oner hz,GQ.oner w2]
    grind
   have e4:mul (lvl x k::suf x (k+1)) (0::(lvl x k).w) (0::w')=zeros (lvl x k::suf x (k+1)).length:=by
    rw[yN,gT,if_neg (by omega),hzc]
    grind[iter]
   have Wi:=G.cl iC hT;have uz:=G.cl Wi ah;have spA:=zGE h (k:=k) (by omega);rw[mq,show fv (k+1) r'=zeros k++0::r' from by rw[zBn],spA _ _ (by grind[yB]) (by grind[yB]),bs,bs,w1,bs,hfw,bs,show fv (k+1) w'=zeros k++0::w' from by rw[zBn],yB hk];have:=spA _ _ (by rw[yB hk];exact Wi) (by rw[yB hk];exact ah);rw[yB hk]at this;rw[this,bs];refine⟨_,uz,?_,rfl⟩;rw[<-e1,G.assoc hA hR uz,<-G.assoc hR Wi ah,<-G.assoc hR iC hT,e2,G.onel hT,<-G.assoc hA hT ah,e3,e4]
theorem zEF(h:Pres x)(hc:xS (suf x 0)){v:Vec}(hv:V (suf x 0) v):∃w,V (suf x 0) w/\mul (suf x 0) v w=zeros (suf x 0).length/\zOy x v=Wu w:=by obtain⟨w,h1,h2,_⟩:=zFI h x.zA.length 0 (by omega) hc (x.zA.length+1) (by omega) v hv;refine⟨w,h1,h2,?_⟩;unfold zOy f_i;rw[zEx (r:=w) (x.zA.length+1) fun m hm=>?_,bs];obtain⟨w',g1,g2,g3⟩:=zFI h x.zA.length 0 (by omega) hc m hm v hv;have G:=zDC h (by omega) hc;have e:w=w':=G.cancel_l hv h1 g1 (by rw[h2,g2]);rw[e];exact g3
theorem zTG{p:Int}{D:Nat}{A:List Mx}:∀(v:Vec)(o:Nat)(B:Mx),o+v.length<=A.length->wM p D A (nw o v) B=img (PM p D) (A.drop o) v B
 | [],o,B,_=>by simp[nw,wM,img]
 |a::v,o,B,h=>by
  simp only[J8]at h;have e:A.drop o=A.getD o []::A.drop (o+1):=by grind[Ku]
  rw[e];simp only[nw,img];rw[zFE,zNH,zTG v (o+1) _ (by omega)]
theorem zCM:∀(k o:Nat),nw o (zeros k)=[]
 |0,_=>rfl
 |k+1,o=>by rw[show zeros (k+1)=0::zeros k from rfl];simp only[nw];rw[zCM k];rfl
section
variable {x:SPr}{m:zS}{D:Nat} (h:Pres x) (hm:zQJ x.zA.length m D) (hr:zII x m D)
 include hm
 include h hr
theorem zP9:∀(d k:Nat),k+d=x.zA.length->Rel (PM m.Prime D) (idM D) (suf x k) (m.zR.drop k)
 |0,k,hk=>by rw[vQ,Lw (by rw[hm.len];omega)];exact rfl
 |d+1,k,bn=>by
  have h6:=h.os.1;have hk:k<x.zA.length:=by omega
  have gm:=hm.len;have e:m.zR.drop k=m.zR.getD k []::m.zR.drop (k+1):=by simp_all
  obtain⟨t1,t2,t3⟩:=h.tl k hk;obtain⟨r1,r2⟩:=hr k hk;have aT:∀v,Exp x.zA v k->wM m.Prime D m.zR (nw 0 v) (idM D)=img (PM m.Prime D) (m.zR.drop (k+1)) (v.drop (k+1)) (idM D):=fun v hv=>by
   have hl:=hv.1.1
   conv=>lhs;rw[zA0 hv hk]
   rw[zDk,zCM,Js,yD,zTG _ _ _ (by grind),Jd]
  rw[yB hk,e];refine⟨?_,fun q c dd hc hd=>?_,zP9 d (k+1) (by omega)⟩
  ·grind[pw,lvl,zNH]
  ·rw[Kw]at hc
   have hq:k+1+q<m.zR.length:=by grind
   have iy:c=m.zR.getD (k+1+q) []:=by grind
   have mh:dd=((x.zG.getD k []).getD q []).drop (k+1):=by grind[lvl]
   have:=r2 (k+1+q) (by omega) (by omega);rw[show k+1+q-(k+1)=q from by omega]at this;rw[iy,mh,this,aT _ (t3 q (by omega))]
end
theorem zEG{p:Int}{N:Nat}(fS:c+N<=100000)(hr:∀i,i<N->Row p c (A.getD i []))(hl:A.length=N):zXG A=Wu (wd N A):=by
 unfold zXG;rw[tF (body:=zMR A) N (fun i=>A.getD i []++ur N i) (fun i acc hi ha=>by
  have h1:=(hr i hi).1;have e:wU (J0 (c+N) (0:Int)) 0 ((A.getD i []).take (((J0 (c+N) (0:Int)).length)-0))=A.getD i []++J0 N 0:=by unfold wU;rw[Jc,Jt (l:=A.getD i []) (by omega),L9,Js,h1,Ln];simp
  have e2:ixO (A.getD i []++J0 N (0:Int)) ((c+i:Nat):Int)=Wu 0:=by rw[uL,Ja (by omega),h1,K3,if_pos (by omega)]
  unfold zMR;simp only
  rw[hl,xD hi,zK,yS [],bs,h1,<-Ja9,zB,bs,yZ,bs,<-Ja9,zB,bs,e,e2,bs,J7,Lg _ _ (by omega),h1,Gx,sK,kS,yA (by simp;omega),bs,zB,bs,cs];rfl) (fun acc=>by
  unfold zMR
  grind),bs]
 rfl
end Go.Pl
