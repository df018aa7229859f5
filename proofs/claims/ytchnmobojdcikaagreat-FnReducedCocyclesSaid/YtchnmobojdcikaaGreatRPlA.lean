/- x -/
import Derived.Test.YtchnmobojdcikaaGreatRAbB
import Derived.Test.YtchnmobojdcikaaGreatRWF
open List renaming replicate→J1,getD_eq_getElem?_getD→J2,getElem?_eq_getElem→J5,length_append→J7,range→J8,append_nil→J9,length_replicate→Ja,mem_cons→Jb,length_cons→Jd,mem_append→Jf,length_map→Jg,append_assoc→Jh,getElem?_append_right→Ji,replicate_append_replicate→Jl,getElem?_eq_some_iff→Jm,mem_map→Jn,take_of_length_le→Jo,map_cons→Js,replicate_succ→Jt,nil_append→Jv,getElem?_map→Jx,mem_iff_getElem→Jz,getElem?_append_left→K0,take_succ_eq_append_getElem→K1,getElem_mem→K3,length_nil→K9,cons_append→Kc,length_take→Kf,take_zero→Ki,range'→Kk,getElem?_replicate→Km,range_eq_range'→Kn,getElem?_append→Ko,length_singleton→Ku,length_drop→Kv,ext_getElem?→Kw,replicate_succ'→Kz,length_range→L8,range_succ→Lb,take_succ_cons→Lf,mem_range→Ll,mem_flatMap→Ls,getElem?_drop→Lt,map_append→Lu,set_cons_zero→Lw,replicate_zero→Hb,eq_of_mem_replicate→He,singleton_append→Hf,drop_zero→Hq,getD_cons_zero→Gd,foldl_append→Gi,flatMap_append→Gm,drop_of_length_le→Gv,map_nil→Gy,drop_eq_getElem_cons→Gz,map_congr_left→Uc,all_cons→Uf,flatten_nil→Up,getElem?_cons_zero→Uv,range'_succ→Uw,suffix_cons_iff→Q3,map_map→Q6,range_succ_eq_map→Qg,not_mem_nil→Qh,set_append_right→Qs,findSome?_cons→Ja7,length→Jad,getElem?_cons_succ→Jai,getElem?_set→Jau
open Bool renaming and_eq_true->J3,not_true->Jq,not_false->Kb
open Int renaming toNat_natCast->J6,mul_emod->Ju,emod_emod->Jy,emod_eq_of_lt->K5,add_emod->Kd,emod_lt_of_pos->Ke,emod_nonneg->Kr,zero_add->L4,tmod_eq_emod_of_nonneg->Lm,mul_le_mul->Ln,mul_zero->Lp,add_zero->Lv,mul_le_mul_of_nonneg_left->Ly,mul_one->H2,mul_assoc->Hm,mul_comm->Ht,mul_nonneg->Hz,add_mul_emod_self_left->G1,toNat_zero->Ge,tdiv_eq_ediv_of_nonneg->Gf,zero_mul->U0,add_emod_right->Um,tmod_add_mul_tdiv->Q9,one_mul->Qm,lt_tmod_of_pos->Qu,tmod->Jac,tmod_lt_of_pos->Jae,sub_zero->Jaj,emod_add_emod->Jak
open Nat renaming zero_add->Jc,le_refl->Je,lt_or_ge->Jk,zero_le->Kg,sub_self->Kx,div_add_mod->Lr,min_eq_left->Hl,le_trans->Hs,sub_zero->Uo,lt_trichotomy->Qx,add_zero->Qy,zero_sub->Jag,lt_irrefl->Jb6,eq_zero_or_pos->Jb7
open Option renaming map_eq_some_iff->Kl,some->Kt,map_some->H6,getD_some->Gp
open Option renaming some->iW,none->iY
open Bool renaming true->iZ,false->ja
namespace Go.Pc
abbrev Vec:=List Int
structure Lvl where
 o:Int
 w:Vec
 cs:List Vec
abbrev Pcp:=List Lvl
def zeros(n:Nat):Vec:=J1 n 0
def iter{α:Type}:Nat->(α->α)->α->α
 |0,_,x=>x
 |n+1,f,x=>iter n f (f x)
theorem vF{α:Type}(f:α->α):∀(n:Nat)(x:α),iter (n+1) f x=f (iter n f x)
 |0,_=>rfl
 |n+1,x=>by rw[iter,vF f n (f x)];rfl
theorem zF3{α:Type}(f:α->α)(a:Nat):∀(b:Nat)(x:α),iter (a+b) f x=iter a f (iter b f x)
 |0,_=>rfl
 |b+1,x=>by show iter (a+b) f (f x)=_;rw[zF3 f a b (f x)];rfl
def img{α:Type}(m:α->α->α):List α->Vec->α->α
 |c::cs,x::xs,acc=>img m cs xs (iter x.toNat (fun v=>m v c) acc)
 |_,_,acc=>acc
def V:Pcp->Vec->Prop
 | [],v=>v=[]
 |l::P,v=>match v with
  | []=>False
  |a::x=>(0<=a/\a<l.o)/\V P x
def mul:Pcp->Vec->Vec->Vec
 |l::P,a::x,b::y=>
  let r:=mul P (iter b.toNat (fun v=>img (mul P) l.cs v (zeros P.length)) x) y
  if a+b>=l.o then(a+b-l.o)::mul P l.w r else(a+b)::r
 |_,_,_=>[]
def Ok:Pcp->Prop
 | []=>True
 |l::P=>1<l.o/\V P l.w/\l.cs.length=P.length/\(∀c∈l.cs,V P c)/\Ok P
structure Mon {α:Type} (S:α->Prop) (m:α->α->α) (e:α):Prop where
 cl:∀{a b},S a->S b->S (m a b)
 ein:S e
 assoc:∀{a b c},S a->S b->S c->m (m a b) c=m a (m b c)
 onel:∀{a},S a->m e a=a
 oner:∀{a},S a->m a e=a
structure Grp {α:Type} (S:α->Prop) (m:α->α->α) (e:α):Prop extends Mon S m e where
 inv:∀{a},S a-> ∃b,S b/\m a b=e
theorem Grp.invl{α:Type}{S:α->Prop}{m:α->α->α}{e:α}(h:Grp S m e){a:α}(ha:S a):∃b,S b/\m a b=e/\m b a=e:=by
 obtain⟨b,hb,h1⟩:=h.inv ha;obtain⟨c,hc,h2⟩:=h.inv hb;refine⟨b,hb,h1,?_⟩;have:a=c:=by rw[<-h.oner ha,<-h2,<-h.assoc ha hb hc,h1,h.onel hc]
 grind
theorem Grp.cancel_l{α:Type}{S:α->Prop}{m:α->α->α}{e:α}(h:Grp S m e){a b c:α}(ha:S a)(hb:S b)(hc:S c)(hh:m a b=m a c):b=c:=by obtain⟨d,hd,_,h2⟩:=h.invl ha;rw[<-h.onel hb,<-h.onel hc,<-h2,h.assoc hd ha hb,h.assoc hd ha hc,hh]
section
variable {α:Type}{S:α->Prop}{m:α->α->α}{e:α}
def pw(m:α->α->α)(e:α)(x:α)(k:Nat):α:=iter k (fun v=>m v x) e
theorem tU(h:Mon S m e){x:α}(hx:S x):∀k,S (pw m e x k)
 |0=>h.ein
 |k+1=>by rw[pw,vF];exact h.cl (tU h hx k) hx
theorem vS{f:α->α}(hf:∀a,S a->S (f a)):∀(k:Nat){x:α},S x->S (iter k f x)
 |0,_,hx=>hx
 |k+1,_,hx=>vS hf k (hf _ hx)
theorem zF4(h:Mon S m e){x a:α}(hx:S x)(ha:S a):∀k,iter k (fun v=>m v x) a=m a (pw m e x k)
 |0=>(h.oner ha).symm
 |k+1=>by rw[vF,zF4 h hx ha k];show _=m a (iter (k+1) (fun v=>m v x) e);rw[vF];exact h.assoc ha (tU h hx k) hx
theorem zI4(h:Mon S m e){x:α}(hx:S x)(a b:Nat):pw m e x (a+b)=m (pw m e x a) (pw m e x b):=by rw[Nat.add_comm,pw,zF3,<-zF4 h hx (tU h hx a) b];rfl
theorem zTO(h:Mon S m e){x:α}(hx:S x):pw m e x 1=x:=h.onel hx
theorem zTP(h:Mon S m e){x:α}(hx:S x)(k:Nat):pw m e x (k+1)=m x (pw m e x k):=by rw[Nat.add_comm,zI4 h hx 1 k,zTO h hx]
theorem kY(h:∀{a b},S a->S b->S (m a b)):∀(cs:List α)(x:Vec){a:α},(∀c∈cs,S c)->S a->S (img m cs x a)
 |c::cs,x::xs,_,hc,ha=>by simp only[img];exact kY h cs xs (by grind) (vS (by simp_all) _ ha)
 | [],_,_,_,ha=>by grind[img]
 |_::_,[],_,_,ha=>by grind[img]
theorem zGy(h:Mon S m e)(cs:List α)(x:Vec){a:α}(hc:∀c∈cs,S c)(ha:S a):S (img m cs x a):=kY h.cl cs x hc ha
theorem zF5(h:Mon S m e):∀(cs:List α)(x:Vec){a:α},(∀c∈cs,S c)->S a->img m cs x a=m a (img m cs x e)
 |c::cs,x::xs,a,hc,ha=>by
  have h1:S c:=hc c (by simp);have h2:∀c∈cs,S c:=by grind
  simp only[img];rw[zF4 h h1 ha,zF5 h cs xs h2 (h.cl ha (tU h h1 _)),zF4 h h1 h.ein,zF5 h cs xs h2 (h.cl h.ein (tU h h1 _)),h.onel (tU h h1 _),
   h.assoc ha (tU h h1 _) (zGy h cs xs h2 h.ein)]
 | [],_,a,_,ha=>by simp[img,h.oner ha]
 |_::_,[],a,_,ha=>by simp[img,h.oner ha]
theorem qY(h:Mon S m e){c:α}{cs:List α}{x:Int}{xs:Vec}(hc:S c)(gY:∀c∈cs,S c):img m (c::cs) (x::xs) e=m (pw m e c x.toNat) (img m cs xs e):=by simp only[img];rw[zF5 h cs xs gY (vS (fun a ha=>h.cl ha hc) _ h.ein)];rfl
theorem qI(m:α->α->α):∀(cs:List α)(n:Nat)(a:α),img m cs (zeros n) a=a
 | [],_,_=>by simp[img]
 |_::_,0,_=>by rfl
 |c::cs,n+1,a=>by simp only[zeros,Jt,img,Ge,iter];exact qI m cs n a
theorem zI5(h:Mon S m e){g:α}(hg:S g):∀(cs ds:List α)(x:Vec),(∀c∈cs,S c)->(∀c∈ds,S c)->cs.length=ds.length->(∀(k:Nat) c d,cs[k]? =iW c->ds[k]? =iW d->m c g=m g d)->m (img m cs x e) g=m g (img m ds x e)
 | [],[],x,_,_,_,_=>by simp[img,h.onel hg,h.oner hg]
 |c::cs,d::ds,[],_,_,_,_=>by simp[img,h.onel hg,h.oner hg]
 |c::cs,d::ds,x::xs,hc,hd,hl,hp=>by
  have eZ:S c:=hc c (by simp);have hd0:S d:=hd d (by simp);have gY:∀c∈cs,S c:=by grind
  have pW:∀c∈ds,S c:=by grind
  have key:∀k,m (pw m e c k) g=m g (pw m e d k):=by
   intro k
   induction k with
   |zero=>simp[pw,iter,h.onel hg,h.oner hg]
   |succ k ih=>
    have h0:m c g=m g d:=hp 0 c d rfl rfl;rw[pw,vF,pw,vF];show m (m (pw m e c k) c) g=m g (m (pw m e d k) d);rw[h.assoc (tU h eZ k) eZ hg,h0,<-h.assoc (tU h eZ k) hg hd0,ih,h.assoc hg (tU h hd0 k) hd0]
  rw[qY h eZ gY,qY h hd0 pW,h.assoc (tU h eZ _) (zGy h _ _ gY h.ein) hg,zI5 h hg cs ds xs gY pW (by grind) (fun k c d h1 h2=>hp (k+1) c d (by grind) (by grind)),
   <-h.assoc (tU h eZ _) hg (zGy h _ _ pW h.ein),key,h.assoc hg (tU h hd0 _) (zGy h _ _ pW h.ein)]
theorem zQv{β:Type}{T:β->Prop}{n:β->β->β}{f:β}(h:Mon S m e)(h':Mon T n f)(φ:α->β)(gS:∀a,S a->T (φ a))(h1:φ e=f)(hm:∀a b,S a->S b->φ (m a b)=n (φ a) (φ b)):∀(cs:List α)(x:Vec),(∀c∈cs,S c)->φ (img m cs x e)=img n (cs.map φ) x f
 | [],_,_=>by simp[img,h1]
 |c::cs,[],_=>by simp[img,h1]
 |c::cs,x::xs,hc=>by
  have eZ:S c:=hc c (by simp);have gY:∀c∈cs,S c:=by grind
  have key:∀k,φ (pw m e c k)=pw n f (φ c) k:=by
   intro k
   induction k with
   |zero=>grind[pw,iter]
   |succ k ih=>
    grind[pw,vF,tU]
  rw[qY h eZ gY,Js,qY h' (gS c eZ) (by simp_all),hm _ _ (tU h eZ _) (zGy h _ _ gY h.ein),key,zQv h h' φ gS h1 hm cs xs gY]
end
theorem wG:∀{P:Pcp},Ok P->V P (zeros P.length)
 | [],_=>rfl
 |l::P,h=>by simp only[Ok]at h;simp only[Jd,zeros,Jt,V];exact⟨by omega,wG h.2.2.2.2⟩
theorem yU:∀{P:Pcp},Ok P-> ∀{x y:Vec},V P x->V P y->V P (mul P x y)
 | [],_,_,_,hx,hy=>by rfl
 |l::P,h,[],_,hx,_=>by grind[V]
 |l::P,h,_::_,[],_,hy=>by grind[V]
 |l::P,h,a::x,b::y,hx,hy=>by
  simp only[Ok]at h;simp only[V]at hx hy;have h1:∀v,V P v->V P (img (mul P) l.cs v (zeros P.length)):=fun v hv=>kY (yU h.2.2.2.2) l.cs v h.2.2.2.1 (wG h.2.2.2.2)
  have h2:=yU h.2.2.2.2 (vS h1 b.toNat hx.2) hy.2;simp only[mul];split
  ·exact⟨by omega,yU h.2.2.2.2 h.2.1 h2⟩
  ·exact⟨by omega,h2⟩
def Rel{α:Type}(m:α->α->α)(e:α):Pcp->List α->Prop
 | [],s=>s=[]
 |l::P,s=>match s with
  | []=>False
  |g::s=>pw m e g l.o.toNat=img m s l.w e/\(∀(k:Nat) c d,s[k]? =iW c->l.cs[k]? =iW d->m c g=m g (img m s d e))/\Rel m e P s
section
variable {α:Type}{S:α->Prop}{m:α->α->α}{e:α}
theorem yDZ(h:Mon S m e):∀(P:Pcp)(s:List α),Ok P->(∀g∈s,S g)->Rel m e P s-> ∀x y,V P x->V P y->img m s (mul P x y) e=m (img m s x e) (img m s y e)
 | [],s,_,_,hr,x,y,hx,hy=>by simp only[Rel]at hr;subst hr;simp[img,h.onel h.ein]
 |l::P,[],_,_,hr,_,_,_,_=>by grind[Rel]
 |l::P,g::s,_,_,_,[],_,hx,_=>by grind[V]
 |l::P,g::s,_,_,_,_::_,[],_,hy=>by grind[V]
 |l::P,g::s,hk,hs,hr,a::x,b::y,hx,hy=>by
  simp only[Ok]at hk;simp only[Rel]at hr;simp only[V]at hx hy;obtain⟨ho,hw,gy,gY,dl⟩:=hk;obtain⟨gK,gF,eE⟩:=hr;have hg:S g:=hs g (by simp);have mi:∀c∈s,S c:=by grind
  have gn:s.length=P.length:=by
   clear gK gF hx hy hw gy gY hs mi
   induction P generalizing s with
   |nil=>grind[Rel]
   |cons l P ih=>
    cases s with
    |nil=>grind[Rel]
    |cons c s=>grind[Rel,Ok]
  have ih:=yDZ h P s dl mi eE;have hφ:∀v,S (img m s v e):=fun v=>zGy h s v mi h.ein
  have hmP:∀{a b},V P a->V P b->V P (mul P a b):=yU dl;have bT:∀v,V P v->V P (img (mul P) l.cs v (zeros P.length)):=fun v hv=>kY hmP l.cs v gY (wG dl)
  have hσ:∀v,V P v->m (img m s v e) g=m g (img m s (img (mul P) l.cs v (zeros P.length)) e):=by
   intro v hv;have key:∀(cs:List Vec)(v:Vec)(acc:Vec),(∀c∈cs,V P c)->V P acc->img m s (img (mul P) cs v acc) e=img m (cs.map fun c=>img m s c e) v (img m s acc e):=by
    intro cs
    induction cs with
    |nil=>grind[img]
    |cons c cs ihc=>
     intro v acc hc hacc;cases v with
     |nil=>simp[img]
     |cons z v=>
      have eZ:V P c:=hc c (by simp);have it:∀k acc,V P acc->img m s (iter k (fun v=>mul P v c) acc) e=iter k (fun v=>m v (img m s c e)) (img m s acc e):=by
       intro k
       induction k with
       |zero=>intro acc _;rfl
       |succ k ihk=>
        simp_all[iter]
      simp only[img,Js];rw[ihc v _ (by simp_all) (vS (by grind) _ hacc),it _ _ hacc]
   rw[key l.cs v (zeros P.length) gY (wG dl),qI];refine zI5 h hg s _ v mi (by simp_all) (by grind) ?_;intro k c d hc hd;simp only[Jx,Kl]at hd;obtain⟨d',my,rfl⟩:=hd
   grind
  have hσk:∀k v,V P v->m (img m s v e) (pw m e g k)=m (pw m e g k) (img m s (iter k (fun v=>img (mul P) l.cs v (zeros P.length)) v) e):=by
   intro k
   induction k with
   |zero=>intro v _;simp[pw,iter,h.onel (hφ v),h.oner (hφ v)]
   |succ k ihk=>
    intro v hv;rw[zTP h hg,<-h.assoc (hφ v) hg (tU h hg k),hσ v hv,h.assoc hg (hφ _) (tU h hg k),ihk _ (bT v hv),<-h.assoc hg (tU h hg k) (hφ _)];rfl
  have fI:=tU h hg a.toNat;have bG:=tU h hg b.toNat;have ew:V P (iter b.toNat (fun v=>img (mul P) l.cs v (zeros P.length)) x):=vS bT _ hx.2;have ar:m (img m (g::s) (a::x) e) (img m (g::s) (b::y) e)=m (pw m e g (a.toNat+b.toNat)) (img m s (mul P (iter b.toNat (fun v=>img (mul P) l.cs v (zeros P.length)) x) y) e):=by rw[qY h hg mi,qY h hg mi,h.assoc fI (hφ x) (h.cl bG (hφ y)),<-h.assoc (hφ x) bG (hφ y),hσk _ _ hx.2,h.assoc bG (hφ _) (hφ y),<-ih _ _ ew hy.2,<-h.assoc fI bG (hφ _),zI4 h hg]
  rw[ar];simp only[mul];split
  ·rename_i hge
   rw[qY h hg mi,ih _ _ hw (hmP ew hy.2),<-gK,<-h.assoc (tU h hg _) (tU h hg _) (hφ _),<-zI4 h hg]
   congr 2
   omega
  ·rw[qY h hg mi]
   congr 2
   omega
end
def xE(n j:Nat):Vec:=(zeros n).set j 1
def sig(P:Pcp)(l:Lvl)(v:Vec):Vec:=img (mul P) l.cs v (zeros P.length)
def xU:Pcp->Prop
 | []=>True
 |l::P=>xU P/\Rel (mul P) (zeros P.length) P l.cs/\sig P l l.w=l.w/\ ∀j,j<P.length->mul P l.w (iter l.o.toNat (sig P l) (xE P.length j))=mul P (xE P.length j) l.w
theorem zEi(n:Nat):xE (n+1) 0=1::zeros n:=rfl
theorem zGz(n j:Nat):xE (n+1) (j+1)=0::xE n j:=rfl
def wB(n:Nat):List Vec:=(J8 n).map (xE n)
theorem zO3(n:Nat):wB (n+1)=(1::zeros n)::(wB n).map (0::·):=by
 simp only[wB,Qg,Js,Q6,zEi]
 congr 1
theorem zD5:∀{P:Pcp},Ok P-> ∀{j:Nat},j<P.length->V P (xE P.length j)
 | [],_,_,hj=>by simp at hj
 |l::P,h,0,_=>by grind[Ok,zEi,V,wG]
 |l::P,h,j+1,hj=>by simp only[Ok]at h;rw[Jd,zGz];simp only[V];exact⟨by omega,zD5 h.2.2.2.2 (by grind)⟩
theorem zD6{l:Lvl}{P:Pcp}(h:Ok (l::P)){v:Vec}(_hv:V P v):V P (sig P l v):=by simp only[Ok]at h;exact kY (yU h.2.2.2.2) l.cs v h.2.2.2.1 (wG h.2.2.2.2)
theorem yQ(l:Lvl)(P:Pcp)(a b:Int)(x y:Vec):mul (l::P) (a::x) (b::y)=if a+b>=l.o then(a+b-l.o)::mul P l.w (mul P (iter b.toNat (sig P l) x) y)else(a+b)::mul P (iter b.toNat (sig P l) x) y:=rfl
theorem zRF{n k:Nat}{c:Vec}(h:(wB n)[k]? =iW c):k<n/\c=xE n k:=by
 simp only[wB,Jx,Kl]at h
 grind
theorem normal:∀(P:Pcp),Ok P->(∀Q,Q<:+P->Mon (V Q) (mul Q) (zeros Q.length))-> ∀x,V P x->img (mul P) (wB P.length) x (zeros P.length)=x
 | [],_,_,x,hx=>by grind[V,img,zeros]
 |l::P,_,_,[],hx=>by grind[V]
 |l::P,h,hM,a::x,hx=>by
  have hMl:=hM (l::P) (List.suffix_refl _);have hMP:=hM P (by simp);have h':=h;simp only[Ok]at h;simp only[V]at hx;rw[Jd,zO3];have hz:V P (zeros P.length):=wG h.2.2.2.2;have dc:V (l::P) (1::zeros P.length):=by grind[V]
  have fO:∀c∈(wB P.length).map (0::·),V (l::P) c:=by
   intro c hc;simp only[wB,Q6,Jn,Ll]at hc;obtain⟨j,hj,rfl⟩:=hc;simp only[Function.comp,V]
   grind[zD5]
  have cX:V (l::P) (zeros (P.length+1)):=by grind[wG]
  rw[show zeros (P.length+1)=zeros (l::P).length from rfl];rw[qY hMl dc fO];have sz:∀k:Nat,iter k (sig P l) (zeros P.length)=zeros P.length:=by
   intro k
   induction k with
   |zero=>rfl
   |succ k ih=>grind[iter,sig,qI]
  have h1:∀k:Nat,(k:Int)<l.o->pw (mul (l::P)) (zeros (l::P).length) (1::zeros P.length) k=(k:Int)::zeros P.length:=by
   intro k
   induction k with
   |zero=>intro _;rfl
   |succ k ih=>
    intro hk;rw[pw,vF];show mul (l::P) (pw (mul (l::P)) (zeros (l::P).length) (1::zeros P.length) k) (1::zeros P.length)=_;rw[ih (by omega),yQ,if_neg (by omega)];rw[sz,hMP.onel hz];rfl
  have h2:∀(cs:List Vec)(y acc:Vec),(∀c∈cs,V P c)->V P acc->img (mul (l::P)) (cs.map (0::·)) y (0::acc)=0::img (mul P) cs y acc:=by
   intro cs
   induction cs with
   |nil=>grind[img]
   |cons c cs ih=>
    intro y acc hc hacc;cases y with
    |nil=>simp[img]
    |cons z y=>
     have eZ:V P c:=hc c (by simp);have it:∀(k:Nat)(acc:Vec),V P acc->iter k (fun v=>mul (l::P) v (0::c)) (0::acc)=0::iter k (fun v=>mul P v c) acc:=by
      intro k
      induction k with
      |zero=>intro _ _;rfl
      |succ k ihk=>
       intro acc hacc;simp only[iter];rw[yQ,if_neg (by omega)];exact ihk _ (yU h.2.2.2.2 hacc eZ)
     simp only[Js,img];rw[it _ _ hacc,ih _ _ (by grind) (vS (by grind[yU]) _ hacc)]
  have pQ:∀c∈wB P.length,V P c:=by
   intro c hc;simp only[wB,Jn,Ll]at hc;obtain⟨j,hj,rfl⟩:=hc
   grind[zD5]
  rw[h1 a.toNat (by omega),show zeros (l::P).length=0::zeros P.length from rfl,h2 _ _ _ pQ hz,normal P h.2.2.2.2 (by grind) x hx.2,yQ,if_neg (by omega)];simp only[Ge,iter];rw[hMP.onel hx.2]
  grind
theorem zD7:∀(P:Pcp),Ok P->xU P->Grp (V P) (mul P) (zeros P.length)
 | [],_,_=>by
  refine⟨⟨fun _ _=>rfl,rfl,fun _ _ _=>rfl,?_,?_⟩,fun ha=>⟨[],rfl,rfl⟩⟩<;>
  ·intro a ha
   simp only[V]at ha;subst ha;rfl
 |l::P,h,hc=>by
  have h':=h;simp only[Ok]at h;simp only[xU]at hc;obtain⟨ho,hw,gy,gY,hP⟩:=h;obtain⟨iL,mL,aE,aB⟩:=hc;have N:=zD7 P hP iL;have hM:∀Q,Q<:+P->Mon (V Q) (mul Q) (zeros Q.length):=by
   intro Q hQ;obtain⟨t,ht⟩:=hQ;have:Ok Q/\xU Q:=by
    clear N hw gy gY mL aE aB h'
    induction t generalizing P with
    |nil=>grind
    |cons a t ih=>
     simp at ht;subst ht;simp only[Ok]at hP;simp only[xU]at iL
     grind
   have gJ:SizeOf.sizeOf Q<=SizeOf.sizeOf P:=by
    rw[<-ht]
    clear N hw gy gY mL aE aB h' hP iL ht this
    induction t with
    |nil=>simp
    |cons a t ih=>grind
   exact(zD7 Q this.1 this.2).toMon
  have hz:V P (zeros P.length):=wG hP;have σin:∀v,V P v->V P (sig P l v):=by grind[zD6]
  have σhom:∀x y,V P x->V P y->sig P l (mul P x y)=mul P (sig P l x) (sig P l y):=fun x y hx hy=>yDZ N.toMon P l.cs hP gY mL x y hx hy
  have σz:sig P l (zeros P.length)=zeros P.length:=qI _ _ _ _;have itin:∀(k:Nat) v,V P v->V P (iter k (sig P l) v):=fun k v hv=>vS σin k hv
  have ithom:∀(k:Nat) x y,V P x->V P y->iter k (sig P l) (mul P x y)=mul P (iter k (sig P l) x) (iter k (sig P l) y):=by
   intro k
   induction k with
   |zero=>intro _ _ _ _;rfl
   |succ k ih=>simp_all[iter]
  have itz:∀k:Nat,iter k (sig P l) (zeros P.length)=zeros P.length:=by
   intro k
   induction k with
   |zero=>rfl
   |succ k ih=>grind[iter]
  have itw:∀k:Nat,iter k (sig P l) l.w=l.w:=by
   intro k
   induction k with
   |zero=>rfl
   |succ k ih=>grind[iter]
  have pQ:∀c∈wB P.length,V P c:=by
   intro c hc;simp only[wB,Jn,Ll]at hc;obtain⟨j,hj,rfl⟩:=hc
   grind[zD5]
  have inner:∀x,V P x->mul P x l.w=mul P l.w (iter l.o.toNat (sig P l) x):=by
   intro x hx;have hnf:=normal P hP hM x hx;have mR:=zQv N.toMon N.toMon (iter l.o.toNat (sig P l)) (by grind) (itz _) (by grind) (wB P.length) x pQ;rw[<-hnf,mR];refine zI5 N.toMon hw _ _ x pQ (by simp_all) (by simp) ?_;intro k c d hc hd;rw[Jx,Kl]at hd;obtain⟨c',ma,rfl⟩:=hd;rw[hc]at ma;simp at ma;subst ma;obtain⟨hk,rfl⟩:=zRF hc
   grind
  have e:∀(x y z:Vec)(b c:Int),V P x->V P y->V P z->0<=b->0<=c->
    mul P (iter c.toNat (sig P l) (mul P (iter b.toNat (sig P l) x) y)) z=mul P (iter (b+c).toNat (sig P l) x) (mul P (iter c.toNat (sig P l) y) z)/\
    mul P (iter c.toNat (sig P l) (mul P l.w (mul P (iter b.toNat (sig P l) x) y))) z=mul P l.w (mul P (iter (b+c).toNat (sig P l) x) (mul P (iter c.toNat (sig P l) y) z))/\
    (l.o<=b+c->mul P (iter (b+c-l.o).toNat (sig P l) x) (mul P l.w (mul P (iter c.toNat (sig P l) y) z))=mul P l.w (mul P (iter (b+c).toNat (sig P l) x) (mul P (iter c.toNat (sig P l) y) z))):=by
   intro x y z b c hx hy hz hb hcc;have iN:=itin b.toNat x hx;have hcy:=itin c.toNat y hy;have hbc:iter c.toNat (sig P l) (iter b.toNat (sig P l) x)=iter (b+c).toNat (sig P l) x:=by rw[<-zF3];congr 1;omega
   have iP:=itin (b+c).toNat x hx;have e1:mul P (iter c.toNat (sig P l) (mul P (iter b.toNat (sig P l) x) y)) z=mul P (iter (b+c).toNat (sig P l) x) (mul P (iter c.toNat (sig P l) y) z):=by rw[ithom _ _ _ iN hy,hbc,N.assoc iP hcy hz]
   refine⟨e1,?_,?_⟩
   ·rw[ithom _ _ _ hw (N.cl iN hy),itw,N.assoc hw (itin _ _ (N.cl iN hy)) hz,e1]
   ·intro hge
    have aH:=N.cl hcy hz;rw[<-N.assoc (itin _ x hx) hw aH,inner _ (itin _ x hx),<-zF3,N.assoc hw (itin _ x hx) aH]
    congr 3
    omega
  refine⟨⟨by grind[yU],wG h',?_,?_,?_⟩,?_⟩
  ·intro A B C hA hB hC
   match A,B,C,hA,hB,hC with
   |a::x,b::y,c::z,hA,hB,hC=>
    simp only[V]at hA hB hC;obtain⟨e1,e2,e3⟩:=e x y z b c hA.2 hB.2 hC.2 hB.1.1 hC.1.1
    by_cases c1:a+b>=l.o<;>by_cases c2:b+c>=l.o
    ·rw[yQ,if_pos c1,yQ l P b c,if_pos c2,yQ,yQ,e2,e3 c2]
     grind
    ·rw[yQ,if_pos c1,yQ l P b c,if_neg c2,yQ,yQ,e2,if_neg (by omega),if_pos (by omega)]
     grind
    ·rw[yQ,if_neg c1,yQ l P b c,if_pos c2,yQ,yQ,e1,e3 c2,if_pos (by omega),if_neg (by omega)]
     grind
    ·rw[yQ,if_neg c1,yQ l P b c,if_neg c2,yQ,yQ,e1]
     grind
  ·intro A hA
   match A,hA with
   |a::x,hA=>
    simp only[V]at hA;show mul (l::P) (0::zeros P.length) (a::x)=_;rw[yQ,if_neg (by omega),itz,N.onel hA.2,L4]
  ·intro A hA
   match A,hA with
   |a::x,hA=>
    simp only[V]at hA;show mul (l::P) (a::x) (0::zeros P.length)=_;rw[yQ,if_neg (by omega)];simp only[Ge,iter];rw[N.oner hA.2,Lv]
  ·intro A hA
   match A,hA with
   |a::x,hA=>
    simp only[V]at hA
    by_cases ha:a=0
    ·obtain⟨y,hy,h1⟩:=N.inv hA.2
     refine⟨0::y,by simp only[V];grind,?_⟩;rw[yQ,if_neg (by omega)];simp only[Ge,iter];rw[h1,ha];rfl
    ·have bW:=itin (l.o-a).toNat x hA.2
     obtain⟨y,hy,h1⟩:=N.inv (N.cl hw bW);refine⟨(l.o-a)::y,by simp only[V];grind,?_⟩;rw[yQ,if_pos (by omega),<-N.assoc hw bW hy,h1,show a+(l.o-a)-l.o=0 by omega];rfl
termination_by P=>P
section
variable {A:Type}
end
end Go.Pc

namespace Go.Pl
open Go Go.Ab
theorem bs{α β:Type}(x:α)(f:α->Option β):(iW x).bind f=f x:=by simp only[Option.bind_some]
theorem zK{α:Type}(x y:α):cond iZ x y=x:=by simp only[cond_true]
theorem zM{α:Type}(x y:α):cond ja x y=y:=by simp only[cond_false]
theorem zG{n:Int}(h1:-9223372036854775808<=n:=by omega)(h2:n<=9223372036854775807:=by omega):rng n=iW n:=by unfold rng;rw[if_pos];simp only[inR,J3,decide_eq_true_eq];omega
theorem uG{α:Type}(xs:List α)(i:Nat):ixO xs (i:Int)=xs[i]?:=by unfold ixO;rw[if_pos (by omega)];simp
theorem zAK{α:Type}{xs:List α}{i:Nat}(h:i<xs.length:=by omega):ixO xs (i:Int)=iW xs[i]:=by rw[uG];exact J5 h
theorem yP{n:Nat}(h:n<=68719476736:=by omega):yD (n:Int)=iW n:=by unfold yD;rw[if_pos (by omega)];simp
theorem zX{α:Type}{xs ys:List α}(h:xs.length+ys.length<=68719476736:=by omega):yE xs ys=iW (xs++ys):=by unfold yE;rw[if_pos h]
theorem zQ{σ ρ:Type}{body:σ->Option (σ⊕ρ)}{r:ρ}(S:Nat->σ)(n:Nat)(h:∀i,i<n->body (S i)=iW (.inl (S (i+1))))(he:body (S n)=iW (.inr r)):zH body (S 0)=iW r:=by
 have key:∀k i,i+k=n->zH body (S i)=iW r:=by
  intro k
  induction k with
  |zero=>intro i hi;rw[yR,show i=n from by omega,he]
  |succ k ih=>intro i hi;rw[yR,h i (by omega)];exact ih (i+1) (by omega)
 exact key n 0 (by omega)
theorem uU{σ ρ:Type}{body:σ->Option (σ⊕ρ)}{Q:ρ->Prop}(I:Nat->σ->Prop)(n:Nat)(h:∀i s,i<n->I i s->(∃s',body s=iW (.inl s')/\I (i+1) s')\/ ∃r,body s=iW (.inr r)/\Q r)
  (he:∀s,I n s-> ∃r,body s=iW (.inr r)/\Q r){s:σ}(h0:I 0 s):∃r,zH body s=iW r/\Q r:=by
 have key:∀k i s,i+k=n->I i s-> ∃r,zH body s=iW r/\Q r:=by
  intro k
  induction k with
  |zero=>
   intro i s hi hs;obtain rfl:i=n:=by omega
   obtain⟨r,h1,h2⟩:=he s hs;exact⟨r,by rw[yR,h1],h2⟩
  |succ k ih=>
   intro i s hi hs;rcases h i s (by omega) hs with⟨s',h1,h2⟩|⟨r,h1,h2⟩
   ·rw[yR,h1];exact ih (i+1) s' (by omega) h2
   ·exact⟨r,by rw[yR,h1],h2⟩
 exact key n 0 s (by omega) h0
def zMD{ρ:Type}:Option ρ->Unit⊕ρ
 |none=>.inl ()
 |some r=>.inr r
theorem cs(i:Nat):(i:Int)+1=((i+1:Nat):Int):=by omega
theorem zKd{ρ:Type}{body:Int->Option (Int⊕(Unit⊕ρ))}(n:Nat)(t:Nat->Option ρ)(i0:Nat)(hn:i0<=n)
  (h:∀i,i0<=i->i<n->(∀j,i0<=j->j<i->t j=iY)->body (i:Int)=iW (match t i with|none=>.inl ((i+1:Nat):Int)|some r=>.inr (.inr r)))
  (he:(∀j,i0<=j->j<n->t j=iY)->body (n:Int)=iW (.inr (.inl ()))):
  zH body (i0:Int)=iW (zMD ((Kk i0 (n-i0)).findSome? t)):=by
 have key:∀k i,i0<=i->i+k=n->(∀j,i0<=j->j<i->t j=iY)->zH body (i:Int)=iW (zMD ((Kk i k).findSome? t)):=by
  intro k
  induction k with
  |zero=>
   intro i hi hk hp;obtain rfl:i=n:=by omega
   rw[yR,he hp];rfl
  |succ k ih=>
   intro i hi hk hp;rw[yR,h i hi (by omega) hp,Uw,Ja7];cases ht:t i with
   |some r=>rfl
   |none=>
    simp only
    exact ih (i+1) (by omega) (by omega) fun j h1 h2=>by
     rcases Jk j i with h3|h3
     ·exact hp j h1 h3
     ·rw[show j=i from by omega];exact ht
 exact key (n-i0) i0 (Je _) (by omega) fun j h1 h2=>by omega
theorem zTQ{n:Nat}{b:Nat->Bool}:zMD ((Kk 0 n).findSome? (fun i=>if b i then iY else iW ja))=if(J8 n).all b then .inl ()else .inr ja:=by
 have key:∀l:List Nat,zMD (l.findSome? (fun i=>if b i then iY else iW ja))=if l.all b then .inl ()else .inr ja:=by
  intro l
  induction l with
  |nil=>rfl
  |cons x l ih=>
   rw[Ja7,Uf];cases hb:b x
   ·rfl
   ·simpa using ih
 rw[key,Kn]
theorem zKe{body:Int->Option (Int⊕(Unit⊕Bool))}(n:Nat)(b:Nat->Bool)
  (h:∀i,i<n->(∀j,j<i->b j=iZ)->body (i:Int)=iW (if b i then .inl ((i+1:Nat):Int)else .inr (.inr ja)))
  (he:(∀j,j<n->b j=iZ)->body (n:Int)=iW (.inr (.inl ()))):
  zH body 0=iW (if(J8 n).all b then .inl ()else .inr ja):=by
 have:=zKd (body:=body) n (fun i=>if b i then iY else iW ja) 0 (Kg _) (fun i _ hi hp=>by
  rw[h i hi fun j hj=>by
   have:=hp j (Kg _) hj;split at this
   ·assumption
   ·cases this]
  cases b i<;>rfl) (fun hp=>he fun j hj=>by
   have:=hp j (Kg _) hj;split at this
   ·assumption
   ·cases this)
 rw[Uo]at this;exact this.trans (congrArg iW (zTQ (n:=n) (b:=b)))
theorem zXL{α:Type}[BEq α]{t:α->α->Option Bool}{body:Int->Option (Int⊕(Unit⊕Bool))}{x y:List α}
  (hb:∀i,body i=cond (decide (i<(x.length:Int))) ((ixO x i).bind fun v1=>(ixO y i).bind fun v2=>(t v1 v2).bind fun r3=>cond (!r3) (iW (.inr (.inr ja))) ((rng (i+1)).bind fun v4=>iW (.inl v4))) (iW (.inr (.inl ()))))
  (hl:x.length<=68719476736)(bV:x.length=y.length)(ht:∀u∈x,∀v∈y,t u v=iW (u==v)):zH body 0=iW (if x==y then .inl ()else .inr ja):=by
 have h:=zKe (body:=body) x.length (fun i=>match x[i]?,y[i]? with|some u,iW v=>u==v|_,_=>iZ) (fun i hi _=>by
  have ex:i<y.length:=by omega
  rw[hb];simp only[jc (show((i:Int))<(x.length:Int)from by omega),zK];rw[zAK hi,zAK ex];simp only[bs,ht _ (K3 hi) _ (K3 ex),J5 hi,J5 ex];cases x[i]==y[i]
  ·rfl
  ·simp only[Jq,zM,if_true]
   rw[zG,cs];rfl) (fun _=>by
  rw[hb];simp only[jb (show¬((x.length:Int))<(x.length:Int)from by omega),zM])
 rw[h]
 congr 2
 have key:∀(x y:List α),x.length=y.length->((J8 x.length).all (fun i=>match x[i]?,y[i]? with|some u,iW v=>u==v|_,_=>iZ))=(x==y):=by
  intro x
  induction x with
  |nil=>intro y hy;cases y with|nil=>rfl|cons _ _=>simp at hy
  |cons u x ih=>
   intro y hy;cases y with
   |nil=>simp at hy
   |cons v y=>
    rw[Jd,Qg,Uf,List.all_map];simp only[Uv,Function.comp_def,Jai];rw[ih y (by simpa using hy)];rfl
 rw[key x y bV]
theorem zQw{α:Type}[BEq α]{t:α->α->Option Bool}{f:Option Bool}{body:Int->Option (Int⊕(Unit⊕Bool))}{x y:List α}
  (hf:f=cond ((x.length:Int) != (y.length:Int)) (iW ja) ((zH body 0).bind fun r=>match r with|.inl _=>iW iZ|.inr r=>iW r))
  (hb:∀i,body i=cond (decide (i<(x.length:Int))) ((ixO x i).bind fun v1=>(ixO y i).bind fun v2=>(t v1 v2).bind fun r3=>cond (!r3) (iW (.inr (.inr ja))) ((rng (i+1)).bind fun v4=>iW (.inl v4))) (iW (.inr (.inl ()))))
  (hl:x.length<=68719476736)(ht:∀u∈x,∀v∈y,t u v=iW (u==v)):f=iW (x==y):=by
 rw[hf]
 by_cases bV:x.length=y.length
 ·rw[zXL hb hl bV ht]
  have:((x.length:Int) != (y.length:Int))=ja:=by simp[bV]
  rw[this];cases x==y<;>rfl
 ·have:((x.length:Int) != (y.length:Int))=iZ:=by simp;omega
  rw[this];have h2:(x==y)=ja:=by
   have key:∀(x y:List α),x.length≠y.length->(x==y)=ja:=by
    intro x
    induction x with
    |nil=>intro y hy;cases y with|nil=>simp at hy|cons _ _=>rfl
    |cons u x ih=>
     intro y hy;cases y with
     |nil=>rfl
     |cons v y=>
      show(u==v&&x==y)=ja;rw[ih y (by simpa using hy),Bool.and_false]
   exact key x y bV
  rw[h2];rfl
def sm{α:Type}(c:α->Nat):List α->Nat
 | []=>0
 |x::xs=>c x+sm c xs
end Go.Pl

namespace Go.Pl
open Go Go.Ab Go.Wk
abbrev VL{α:Type}(V:α->Prop)(xs:List α):Prop:=xs.length<=maxLen/\ ∀x∈xs,V x
abbrev c1(x:List Int):Nat:=x.length
abbrev c2(x:List (List Int)):Nat:=x.length+sm c1 x
abbrev c3(x:List (List (List Int))):Nat:=x.length+sm c2 x
abbrev S1(x:List Int):Prop:=c1 x<=1048576
abbrev S2(x:List (List Int)):Prop:=c2 x<=1048576
abbrev S3(x:List (List (List Int))):Prop:=c3 x<=1048576
theorem S3.len{x:List (List (List Int))}(h:S3 x):x.length<=1048576:=by grind
def yAd(x:SPr):Prop:=S1 x.zA/\S2 x.zJ/\S3 x.zC
def yBw(x:zB):Prop:=S3 x.zF
def IsB(o:Option Bool)(P:Prop):Prop:=(o=iW iZ/\P)\/(o=iW ja/\ ¬P)
theorem IsB.iff{o:Option Bool}{P Q:Prop}(h:IsB o P)(hpq:P↔Q):IsB o Q:=by grind
theorem IsB.of_bool{b:Bool}{P:Prop}(h:b=iZ↔P):IsB (iW b) P:=by
 cases b
 ·exact .inr (by grind)
 ·exact .inl ⟨rfl,h.1 rfl⟩
theorem chk{ρ:Type}{body:Int->Option (Int⊕(Unit⊕ρ))}(n i0:Nat)(hn:i0<=n)(P:Nat->Prop)(bad:Nat->ρ)
  (h:∀i,i0<=i->i<n->(∀j,i0<=j->j<i->P j)->(body (i:Int)=iW (.inl ((i+1:Nat):Int))/\P i)\/(body (i:Int)=iW (.inr (.inr (bad i)))/\ ¬P i))
  (he:body (n:Int)=iW (.inr (.inl ()))):
  (zH body (i0:Int)=iW (.inl ())/\ ∀j,i0<=j->j<n->P j)\/ ∃i,i0<=i/\i<n/\zH body (i0:Int)=iW (.inr (bad i))/\ ¬P i:=by
 have key:∀k i,i0<=i->i+k=n->(∀j,i0<=j->j<i->P j)->(zH body (i:Int)=iW (.inl ())/\ ∀j,i0<=j->j<n->P j)\/ ∃q,i0<=q/\q<n/\zH body (i:Int)=iW (.inr (bad q))/\ ¬P q:=by
  intro k
  induction k with
  |zero=>
   intro i hi hk hp;obtain rfl:i=n:=by omega
   grind[yR]
  |succ k ih=>
   intro i hi hk hp;rcases h i hi (by omega) hp with⟨h1,h2⟩|⟨h1,h2⟩
   ·have:=ih (i+1) (by omega) (by omega) (by grind)
    rw[yR,h1];exact this
   grind[yR]
 exact key (n-i0) i0 (Je _) (by omega) fun j a b=>by omega
theorem qS{f:Option Bool}{body:Int->Option (Int⊕(Unit⊕Bool))}(n:Nat)(P:Nat->Prop)
  (hf:f=(zH body 0).bind fun r=>match r with|.inl _=>iW iZ|.inr r=>iW r)
  (h:∀i,i<n->(∀j,j<i->P j)->(body (i:Int)=iW (.inl ((i+1:Nat):Int))/\P i)\/(body (i:Int)=iW (.inr (.inr ja))/\ ¬P i))
  (he:body (n:Int)=iW (.inr (.inl ()))):IsB f (∀i,i<n->P i):=by
 rcases chk n 0 (Kg _) P (fun _=>ja) (fun i _ hi hp=>h i hi fun j hj=>hp j (Kg _) hj) he with⟨h1,h2⟩|⟨i,_,hi,h1,h2⟩
 ·refine .inl ⟨?_,fun i hi=>h2 i (Kg _) hi⟩
  rw[hf];rw[show((0:Nat):Int)=0 from rfl]at h1;rw[h1,bs]
 ·refine .inr ⟨?_,fun hp=>h2 (hp i hi)⟩
  rw[hf];rw[show((0:Nat):Int)=0 from rfl]at h1;rw[h1,bs]
theorem uW{o:Option Bool}{P:Prop}{ρ:Type}{bad:ρ}{i:Nat}{g:Option (Int⊕(Unit⊕ρ))}(h:IsB o P)(hi:i<9223372036854775807)
  (hg:g=o.bind fun r=>cond (!r) (iW (.inr (.inr bad))) ((rng ((i:Int)+1)).bind fun v=>iW (.inl v))):(g=iW (.inl ((i+1:Nat):Int))/\P)\/(g=iW (.inr (.inr bad))/\ ¬P):=by
 subst hg;rcases h with⟨h1,h2⟩|⟨h1,h2⟩
 ·refine .inl ⟨?_,h2⟩
  rw[h1,bs,Jq,zM,zG,bs,cs]
 grind
theorem yN{i n:Nat}(h:i<n:=by omega):decide ((i:Int)<(n:Int))=iZ:=by grind
theorem qT{n:Nat}:decide ((n:Int)<(n:Int))=ja:=by simp
theorem zAT(x a b:Int):IsB (zPm x a b) (a<=x/\x<=b):=by
 unfold zPm
 by_cases h:x>=a
 ·rw[jc h,zK];grind[IsB.of_bool]
 ·rw[jb h,zM];exact .inr ⟨rfl,by omega⟩
theorem zBT(x a b:Int):IsB (zJ7 x a b) (a<=x/\x<=b):=zAT x a b
def Prime(p:Int):Prop:=p=2\/p=3\/p=5\/p=7
theorem zCM(x:Int):IsB (zSq x) (Prime x):=by
 unfold zSq Prime
 by_cases h2:x=2
 ·subst h2;exact .inl ⟨rfl,.inl rfl⟩
 ·rw[show(x==2)=ja from by grind,zM]
  by_cases h3:x=3
  ·subst h3;exact .inl (by simp)
  ·rw[show(x==3)=ja from by grind,zM]
   by_cases h5:x=5
   ·subst h5;exact .inl (by simp)
   ·rw[show(x==5)=ja from by grind,zM]
    grind[IsB.of_bool]
theorem zI6(x:Int):IsB (zPf x) (Prime x):=zCM x
abbrev at0(v:List Int)(i:Nat):Int:=v.getD i 0
theorem yJ{v:List Int}{i:Nat}(h:i<v.length:=by omega):ixO v (i:Int)=iW (at0 v i):=by rw[zAK h,at0,J2,J5 h];rfl
def yBx(os v:List Int):Prop:=v.length=os.length/\ ∀i,i<v.length->0<=at0 v i/\at0 v i<=at0 os i-1
def Exp(os v:List Int)(k:Nat):Prop:=yBx os v/\ ∀i,i<=k->at0 v i=0
def Os(os:List Int):Prop:=os.length<=14/\ ∀i,i<os.length->Prime (at0 os i)
theorem Prime.pos{p:Int}(h:Prime p):2<=p/\p<=7:=by unfold Prime at h;omega
theorem zG0{x:SPr}{v:List Int}(ho:Os x.zA):IsB (zY0 x v) (yBx x.zA v):=by
 unfold zY0
 by_cases h:v.length=x.zA.length
 ·rw[show((v.length:Int) != (x.zA.length:Int))=ja from by simp[h],zM]
  have h6:=ho.1;refine(qS v.length (fun i=>0<=at0 v i/\at0 v i<=at0 x.zA i-1) rfl (fun i hi _=>?_) ?_).iff ⟨fun g=>⟨h,g⟩,fun g=>g.2⟩
  ·have hp:=(ho.2 i (by omega)).pos
   refine uW (zAT _ _ _) (by omega) ?_;unfold zRn;rw[yN hi,zK,yJ hi,bs,yJ,bs,zG,bs]
  ·unfold zRn
   simp
 ·rw[show((v.length:Int) != (x.zA.length:Int))=iZ from by simp;omega,zK]
  exact .inr ⟨rfl,fun g=>h g.1⟩
theorem zME{v:List Int}(hl:v.length<=14):IsB (f_V v) (∀i,i<v.length->at0 v i=0):=by
 refine qS v.length (fun i=>at0 v i=0) rfl (fun i hi _=>?_) ?_
 ·refine uW (o:=iW (at0 v i==0)) (IsB.of_bool (by simp)) (by omega) ?_
  unfold zNA;rw[yN hi,zK,yJ hi,bs,bs];rfl
 ·unfold zNA
  simp
theorem zDl{x:SPr}{k:Nat}{v:List Int}(ho:Os x.zA)(hk:k<x.zA.length):IsB (zV3 x k v) (Exp x.zA v k):=by
 have h6:=ho.1;unfold zV3;rcases zG0 (v:=v) ho with⟨h1,h2⟩|⟨h1,h2⟩
 ·have hl:=h2.1
  rw[h1,bs,zK,zG,bs];have hs:zL v 0 ((k:Int)+1)=iW (v.take (k+1)):=by
   unfold zL
   grind
  rw[hs,bs];have hb:=zME (v:=v.take (k+1)) (by grind);have pA:(∀i,i<(v.take (k+1)).length->at0 (v.take (k+1)) i=0)↔Exp x.zA v k:=by
   have e:∀i,i<=k->at0 (v.take (k+1)) i=at0 v i:=by grind
   rw[Kf,Hl (by omega)];exact⟨fun g=>⟨h2,by grind⟩,fun g i hi=>by rw[e i (by omega)];exact g.2 i (by omega)⟩
  grind
 ·rw[h1,bs,zM]
  exact .inr ⟨rfl,fun g=>h2 g.1⟩
theorem zD8{os v:List Int}{k:Nat}(ho:Os os)(hk:k<os.length):IsB (zPg os v k) (Exp os v k):=by
 have h6:=ho.1;unfold zPg
 by_cases h:v.length=os.length
 ·rw[show((v.length:Int) != (os.length:Int))=ja from by simp[h],zM]
  refine(qS v.length (fun i=>(0<=at0 v i/\at0 v i<=at0 os i-1)/\(i<=k->at0 v i=0)) rfl (fun i hi _=>?_) ?_).iff ⟨fun g=>⟨⟨h,by grind⟩,by grind⟩,fun g i hi=>⟨g.1.2 i hi,fun hk=>g.2 i hk⟩⟩
  ·have hp:=(ho.2 i (by omega)).pos
   unfold zN5;rw[yN hi,zK,yJ hi,bs,yJ,bs,zG,bs];rcases zBT (at0 v i) 0 (at0 os i-1)with⟨h1,h2⟩|⟨h1,h2⟩
   ·rw[h1,bs,Jq,zM]
    by_cases h3:(i:Int)<=(k:Int)
    ·rw[jc h3,zK,bs]
     by_cases h4:at0 v i=0
     ·rw[show(at0 v i != 0)=ja from by grind,zM,zG,bs,cs]
      grind
     grind
    ·rw[jb h3,zM,zG,bs,cs]
     grind
   grind
  ·unfold zN5
   simp
 ·rw[show((v.length:Int) != (os.length:Int))=iZ from by simp;omega,zK]
  exact .inr ⟨rfl,fun g=>h g.1.1⟩
theorem yFm{σ ρ:Type}{body:σ->Option (σ⊕(Unit⊕ρ))}(S:Nat->σ)(n i0:Nat)(hn:i0<=n)(P:Nat->Prop)(bad:Nat->ρ)
  (h:∀i,i0<=i->i<n->(∀j,i0<=j->j<i->P j)->(body (S i)=iW (.inl (S (i+1)))/\P i)\/(body (S i)=iW (.inr (.inr (bad i)))/\ ¬P i))
  (he:body (S n)=iW (.inr (.inl ()))):
  (zH body (S i0)=iW (.inl ())/\ ∀j,i0<=j->j<n->P j)\/ ∃i,i0<=i/\i<n/\zH body (S i0)=iW (.inr (bad i))/\ ¬P i:=by
 have key:∀k i,i0<=i->i+k=n->(∀j,i0<=j->j<i->P j)->(zH body (S i)=iW (.inl ())/\ ∀j,i0<=j->j<n->P j)\/ ∃q,i0<=q/\q<n/\zH body (S i)=iW (.inr (bad q))/\ ¬P q:=by
  intro k
  induction k with
  |zero=>
   intro i hi hk hp;obtain rfl:i=n:=by omega
   grind[yR]
  |succ k ih=>
   intro i hi hk hp;rcases h i hi (by omega) hp with⟨h1,h2⟩|⟨h1,h2⟩
   ·have:=ih (i+1) (by omega) (by omega) (by grind)
    rw[yR,h1];exact this
   grind[yR]
 exact key (n-i0) i0 (Je _) (by omega) fun j a b=>by omega
theorem zBn{a b:Int}(h:a=b:=by omega):(a != b)=ja:=by simp[h]
theorem kZ{a b:Int}(h:a≠b:=by omega):(a != b)=iZ:=by simp[h]
def pr(os:List Int):Nat->Int
 |0=>1
 |i+1=>pr os i*at0 os i
def cp(os:List Int):Nat->Int
 |0=>1
 |i+1=>if cp os i<=729 then cp os i*at0 os i else cp os i
theorem zI7{os:List Int}:∀{i:Nat},(∀j,j<i->Prime (at0 os j))->1<=pr os i
 |0,_=>by simp[pr]
 |i+1,h=>by have h1:=zI7 (os:=os) (i:=i) (by grind);have h2:=(h i (by omega)).pos;simp only[pr];have:(1:Int)*1<=pr os i*at0 os i:=Ln h1 (by omega) (by omega) (by omega);omega
theorem zQx{os:List Int}{i:Nat}(h:∀j,j<=i->Prime (at0 os j)):pr os i<=pr os (i+1):=by have h1:=zI7 (os:=os) (i:=i) (by grind);have h2:=(h i (Je _)).pos;simp only[pr];have:pr os i*1<=pr os i*at0 os i:=Ly (by omega) (by omega);omega
theorem zQy{os:List Int}{n:Nat}(h:∀j,j<n->Prime (at0 os j)):∀k,k<=n->pr os (n-k)<=pr os n
 |0,_=>Int.le_refl _
 |k+1,hk=>by
  have h1:=zQy h k (by omega);have h2:=zQx (os:=os) (i:=n-(k+1)) (by grind)
  grind
theorem zTR{os:List Int}:∀{i:Nat},(∀j,j<i->Prime (at0 os j))->(cp os i=pr os i/\pr os i<=729\/729<cp os i/\cp os i<=5103/\729<pr os i)
 |0,_=>by simp[cp,pr]
 |i+1,h=>by
  have h0:∀j,j<i->Prime (at0 os j):=by grind
  have h2:=(h i (by omega)).pos;have h3:=zQx (os:=os) (i:=i) (by grind);have uw:=zI7 h0;simp only[cp];rcases zTR h0 with⟨h1,h4⟩|⟨h1,h4,h5⟩
  ·rw[h1,if_pos h4]
   have h6:pr os i*at0 os i<=729*7:=Ln h4 h2.2 (by omega) (by omega);simp only[pr]at h3 ⊢
   grind
  omega
def zHi(x:SPr)(i:Nat):Prop:=Exp x.zA (x.zJ.getD i []) i/\(x.zC.getD i []).length+i+1=x.zA.length/\ ∀j,j<(x.zC.getD i []).length->Exp x.zA ((x.zC.getD i []).getD j []) i
structure zEA (x:SPr):Prop where
 os:True/\ ∀i,i<x.zA.length->Prime (at0 x.zA i)
 pl:x.zJ.length=x.zA.length
 cl:x.zC.length=x.zA.length
 tl:∀i,i<x.zA.length->zHi x i
structure Pres (x:SPr):Prop where
 os:Os x.zA
 pl:x.zJ.length=x.zA.length
 cl:x.zC.length=x.zA.length
 tl:∀i,i<x.zA.length->zHi x i
theorem Pres.w{x:SPr}(h:Pres x):zEA x:=⟨⟨trivial,h.os.2⟩,h.pl,h.cl,h.tl⟩
structure sJ (x:SPr):Prop extends Pres x where
 n6:x.zA.length<=6
 pr:pr x.zA x.zA.length<=729
theorem zY{α:Type}{v:List α}{i:Nat}(d:α)(h:i<v.length:=by omega):ixO v (i:Int)=iW (v.getD i d):=by grind[zAK]
theorem zO4{x:SPr}(ho:Os x.zA)(hp:x.zJ.length=x.zA.length)(hc:x.zC.length=x.zA.length){i:Nat}(hi:i<x.zA.length):
  (zPo x i=iW (.inl ((i+1:Nat):Int))/\zHi x i)\/(zPo x i=iW (.inr (.inr ja))/\ ¬zHi x i):=by
 have h6:=ho.1;unfold zPo;rw[yN hi,zK,zY [],bs];rcases zDl (v:=x.zJ.getD i []) ho hi with⟨h1,h2⟩|⟨h1,h2⟩
 ·rw[h1,bs,Jq,zM,zY [],bs,zG,bs,zG,bs]
  by_cases hl:(x.zC.getD i []).length+i+1=x.zA.length
  ·rw[zBn,zM,bs]
   rcases chk (body:=zV4 x i (x.zC.getD i [])) (x.zC.getD i []).length 0 (Kg _) (fun j=>Exp x.zA ((x.zC.getD i []).getD j []) i) (fun _=>ja) (fun j _ hj _=>by
     refine uW (zDl ho hi) (by omega) ?_;unfold zV4;rw[yN hj,zK,zY [] hj,bs]) (by
     unfold zV4;simp)with⟨g1,g2⟩|⟨j,_,hj,g1,g2⟩
   ·rw[show((0:Nat):Int)=0 from rfl]at g1
    rw[g1,bs];simp only
    rw[zG,bs,cs];exact .inl ⟨rfl,h2,hl,by grind⟩
   ·rw[show((0:Nat):Int)=0 from rfl]at g1
    rw[g1,bs];exact .inr ⟨rfl,fun g=>g2 (g.2.2 j hj)⟩
  ·rw[kZ,zK]
   exact .inr ⟨rfl,fun g=>hl g.2.1⟩
 ·rw[h1,bs,Kb,zK]
  exact .inr ⟨rfl,fun g=>h2 g.1⟩
theorem zO5{x:SPr}(ho:Os x.zA)(hp:x.zJ.length=x.zA.length)(hc:x.zC.length=x.zA.length){i:Nat}(hi:i<x.zA.length):
  (zLG x i=iW (.inl ((i+1:Nat):Int))/\zHi x i)\/(zLG x i=iW (.inr (.inr ja))/\ ¬zHi x i):=by
 have h6:=ho.1;unfold zLG;rw[yN hi,zK,zY [],bs];rcases zD8 (v:=x.zJ.getD i []) ho hi with⟨h1,h2⟩|⟨h1,h2⟩
 ·rw[h1,bs,Jq,zM,zY [],bs,zG,bs,zG,bs]
  by_cases hl:(x.zC.getD i []).length+i+1=x.zA.length
  ·rw[zBn,zM]
   rcases chk (body:=zPh x i) (x.zC.getD i []).length 0 (Kg _) (fun j=>Exp x.zA ((x.zC.getD i []).getD j []) i) (fun _=>ja) (fun j _ hj _=>by
     refine uW (zD8 ho hi) (by omega) ?_;unfold zPh;rw[zY [],bs,yN hj,zK,bs,zY [] hj,bs]) (by
     unfold zPh;rw[zY [],bs,qT,zM])with⟨g1,g2⟩|⟨j,_,hj,g1,g2⟩
   ·rw[show((0:Nat):Int)=0 from rfl]at g1
    rw[g1,bs];simp only
    rw[zG,bs,cs];exact .inl ⟨rfl,h2,hl,by grind⟩
   ·rw[show((0:Nat):Int)=0 from rfl]at g1
    rw[g1,bs];exact .inr ⟨rfl,fun g=>g2 (g.2.2 j hj)⟩
  ·rw[kZ,zK]
   exact .inr ⟨rfl,fun g=>hl g.2.1⟩
 ·rw[h1,bs,Kb,zK]
  exact .inr ⟨rfl,fun g=>h2 g.1⟩
theorem zMF{x:SPr}(h6:x.zA.length<=6):
  (zH (zPn x) (1,0)=iW (.inl ())/\Os x.zA/\pr x.zA x.zA.length<=729)\/(zH (zPn x) (1,0)=iW (.inr ja)/\ ¬(Os x.zA/\pr x.zA x.zA.length<=729)):=by
 rcases yFm (body:=zPn x) (fun i=>(pr x.zA i,(i:Int))) x.zA.length 0 (Kg _) (fun i=>Prime (at0 x.zA i)/\pr x.zA (i+1)<=729) (fun _=>ja) (fun i _ hi fW=>by
   have hp:∀j,j<i->Prime (at0 x.zA j):=by grind
   have uw:=zI7 hp;have eW:pr x.zA i<=729:=by
    cases i with
    |zero=>simp[pr]
    |succ i=>grind
   unfold zPn;rw[yN hi,zK,yJ hi,bs];rcases zCM (at0 x.zA i)with⟨h1,h2⟩|⟨h1,h2⟩
   ·have h3:=h2.pos
    have h4:pr x.zA i*at0 x.zA i<=729*7:=Ln eW h3.2 (by omega) (by omega);have h5:1*1<=pr x.zA i*at0 x.zA i:=Ln uw (by omega) (by omega) (by omega);simp only
    rw[h1,bs,Jq,zM,zG,bs]
    by_cases h7:pr x.zA i*at0 x.zA i> 729
    ·rw[jc h7,zK]
     exact .inr ⟨rfl,by grind[pr]⟩
    ·rw[jb h7,zM,bs,zG,bs,cs]
     exact .inl ⟨rfl,h2,by grind[pr]⟩
   grind) (by
   unfold zPn;simp)with⟨g1,g2⟩|⟨i,_,hi,g1,g2⟩
 ·refine .inl ⟨g1,⟨by omega,by grind⟩,?_⟩
  cases hn:x.zA.length with
  |zero=>simp[pr]
  |succ n=>grind
 ·refine .inr ⟨g1,fun⟨h1,h2⟩=>g2 ⟨h1.2 i hi,?_⟩⟩
  have:=zQy (os:=x.zA) (n:=x.zA.length) h1.2 (x.zA.length-(i+1)) (by omega)
  grind
theorem zF6{os:List Int}(ho:Os os):f_Y os=iW (cp os os.length):=by
 have h6:=ho.1;unfold f_Y;rw[show(1,0)=(fun i=>(cp os i,(i:Int))) 0 from rfl,zQ (body:=zSm os) (r:=cp os os.length) (fun i=>(cp os i,(i:Int))) os.length (fun i hi=>by
  have hp:=(ho.2 i hi).pos;have hc:=zTR (os:=os) (i:=i) fun j hj=>ho.2 j (by omega)
  have uw:=zI7 (os:=os) (i:=i) fun j hj=>ho.2 j (by omega)
  unfold zSm;rw[yN hi,zK];simp only[cp]
  by_cases h:cp os i<=729
  ·have h4:cp os i*at0 os i<=729*7:=Ln h hp.2 (by omega) (by omega)
   have h5:1*1<=cp os i*at0 os i:=Ln (by omega) (by omega) (by omega) (by omega);rw[jc h,zK,yJ hi,bs,zG,bs,zG,bs,cs,if_pos h]
  ·rw[jb h,zM,zG,bs,cs,if_neg h]) (by
  unfold zSm;simp),bs]
theorem zEz{x:SPr}(hl:x.zA.length<=1048576):IsB (f_G x) (sJ x):=by
 unfold f_G
 by_cases h6:x.zA.length<=6
 ·rw[jb (by omega),zM]
  by_cases hp:x.zJ.length=x.zA.length
  ·rw[zBn,zM]
   by_cases hc:x.zC.length=x.zA.length
   ·rw[zBn,zM]
    rcases zMF h6 with⟨h1,h2,h3⟩|⟨h1,h2⟩
    ·rw[h1,bs]
     exact(qS (f:=(zH (zPo x) 0).bind fun r=>match r with|.inl _=>iW iZ|.inr r=>iW r) x.zA.length (zHi x) rfl (by grind[zO4]) (by unfold zPo;simp)).iff ⟨fun g=>⟨⟨h2,hp,hc,g⟩,h6,h3⟩,fun g=>g.tl⟩
    ·rw[h1,bs]
     exact .inr ⟨rfl,fun g=>h2 ⟨g.os,g.pr⟩⟩
   ·rw[kZ,zK]
    exact .inr ⟨rfl,fun g=>hc g.cl⟩
  ·rw[kZ,zK]
   exact .inr ⟨rfl,fun g=>hp g.pl⟩
 ·rw[jc,zK]
  exact .inr ⟨rfl,fun g=>h6 g.n6⟩
theorem tH{x:SPr}(hl:x.zA.length<=1048576:=by omega):IsB (f_p x) (sJ x):=by
 unfold f_p
 by_cases h6:x.zA.length<=6
 ·rw[jb (by omega),zM]
  by_cases hp:x.zJ.length=x.zA.length
  ·rw[zBn,zM]
   by_cases hc:x.zC.length=x.zA.length
   ·rw[zBn,zM]
    rcases chk (body:=zSn x) x.zA.length 0 (Kg _) (fun i=>Prime (at0 x.zA i)) (fun _=>ja) (fun i _ hi _=>by
      refine uW (zI6 _) (by omega) ?_;unfold zSn;rw[yN hi,zK,yJ hi,bs]) (by
      unfold zSn;simp)with⟨g1,g2⟩|⟨i,_,hi,g1,g2⟩
    ·rw[show((0:Nat):Int)=0 from rfl]at g1
     have ho:Os x.zA:=⟨by omega,by grind⟩;have hcp:=zTR (os:=x.zA) (i:=x.zA.length) ho.2;rw[g1,bs];simp only
     rw[zF6 ho,bs]
     by_cases h7:cp x.zA x.zA.length> 729
     ·rw[jc h7,zK]
      exact .inr ⟨rfl,fun g=>by have:=g.pr;omega⟩
     ·rw[jb h7,zM]
      exact(qS (f:=(zH (zLG x) 0).bind fun r=>match r with|.inl _=>iW iZ|.inr r=>iW r) x.zA.length (zHi x) rfl (by grind[zO5]) (by unfold zLG;simp)).iff ⟨fun g=>⟨⟨ho,hp,hc,g⟩,h6,by omega⟩,fun g=>g.tl⟩
    ·rw[show((0:Nat):Int)=0 from rfl]at g1
     rw[g1,bs];exact .inr ⟨rfl,fun g=>g2 (g.os.2 i hi)⟩
   ·rw[kZ,zK]
    exact .inr ⟨rfl,fun g=>hc g.cl⟩
  ·rw[kZ,zK]
   exact .inr ⟨rfl,fun g=>hp g.pl⟩
 ·rw[jc,zK]
  exact .inr ⟨rfl,fun g=>h6 g.n6⟩
end Go.Pl

namespace Go.Pl
open Go Go.Ab Go.Wk Go.Pc
def lvl(x:SPr)(i:Nat):Lvl:=⟨at0 x.zA i,(x.zJ.getD i []).drop (i+1),(x.zC.getD i []).map (·.drop (i+1))⟩
def suf(x:SPr)(k:Nat):Pcp:=(Kk k (x.zA.length-k)).map (lvl x)
theorem yK(x:SPr)(k:Nat):(suf x k).length=x.zA.length-k:=by simp[suf]
theorem yC{x:SPr}{k:Nat}(h:k<x.zA.length:=by omega):suf x k=lvl x k::suf x (k+1):=by unfold suf;rw[show x.zA.length-k=(x.zA.length-(k+1))+1 from by omega,Uw,Js]
theorem vN{x:SPr}{k:Nat}(h:x.zA.length<=k:=by omega):suf x k=[]:=by unfold suf;simp_all
theorem zB1{os v:List Int}{k:Nat}(h:Exp os v k)(hk:k<os.length):v=zeros (k+1)++v.drop (k+1):=by
 have h1:=h.1.1;apply Kw;intro i;rw[Ko];simp only[zeros,Ja,Km,Lt];split
 ·rename_i hi
  have h2:=h.2 i (by omega)
  grind
 grind
theorem yBy{x:SPr}:∀(d k:Nat)(v:List Int),k+d=x.zA.length->v.length=d->(∀i,i<d->0<=at0 v i/\at0 v i<=at0 x.zA (k+i)-1)->V (suf x k) v
 |0,k,v,hk,hv,_=>by rw[vN];simpa[V]using hv
 |d+1,k,v,hk,hv,h=>by
  rw[yC]
  match v,hv with
  |a::v,hv=>
   have h0:=h 0 (by omega);simp only[at0,Gd,Qy]at h0;refine⟨⟨h0.1,by simp only[lvl,at0];omega⟩,yBy d (k+1) v (by omega) (by grind) fun i hi=>?_⟩
   grind
theorem zAk{x:SPr}{v:List Int}{k:Nat}(h:Exp x.zA v k)(hk:k<x.zA.length:=by omega):V (suf x (k+1)) (v.drop (k+1)):=by
 have h1:=h.1.1;refine yBy (x.zA.length-(k+1)) (k+1) _ (by omega) (by grind) fun i hi=>?_
 have:=h.1.2 (k+1+i) (by omega)
 grind
theorem zEA.ok{x:SPr}(h:zEA x):∀(d k:Nat),k+d=x.zA.length->Pc.Ok (suf x k)
 |0,k,hk=>by rw[vN];simp only[Pc.Ok]
 |d+1,k,hk=>by
  rw[yC];obtain⟨t1,t2,t3⟩:=h.tl k (by omega);refine⟨by simp only[lvl];have:=(h.os.2 k (by omega)).pos;omega,zAk t1,?_,fun c hc=>?_,zEA.ok h d (k+1) (by omega)⟩
  ·grind[yK,lvl]
  ·simp only[lvl,Jn]at hc
   obtain⟨u,hu,rfl⟩:=hc;obtain⟨j,hj,rfl⟩:=Jz.1 hu
   grind[zAk]
theorem zEA.okAt{x:SPr}(h:zEA x){k:Nat}(hk:k<=x.zA.length):Pc.Ok (suf x k):=h.ok (x.zA.length-k) k (by omega)
theorem Pres.okAt{x:SPr}(h:Pres x){k:Nat}(hk:k<=x.zA.length):Pc.Ok (suf x k):=h.w.okAt hk
theorem zW(n:Nat):(zeros n).length=n:=by simp[zeros]
theorem zHj(k:Nat):zeros (k+1)=zeros k++[0]:=by simp[zeros,Kz]
theorem zEB{k:Nat}{a b:Int}{v:Vec}:(zeros k++a::v).set k b=zeros k++b::v:=by rw[Qs _ _ (by grind[zW]),zW,Kx,Lw]
theorem zD9{k:Nat}{a:Int}{v:Vec}:ixO (zeros k++a::v) (k:Int)=iW a:=by rw[uG,Ji (by grind[zW]),zW,Kx];rfl
theorem zCN{k:Nat}{v:Vec}:zeros k++0::v=zeros (k+1)++v:=by rw[zHj,Jh];rfl
theorem wZ{v:List Int}(h:v.length<=1000000:=by omega):f_q v=iW v:=by grind[f_q,zX]
theorem zC0{m:Vec->Vec->Vec}:∀(cs:List Vec)(x:Vec)(i:Nat)(acc:Vec),i<cs.length->i<x.length->
  img m (cs.take (i+1)) (x.take (i+1)) acc=iter (at0 x i).toNat (fun v=>m v (cs.getD i [])) (img m (cs.take i) (x.take i) acc)
 | [],_,_,_,h,_=>by simp at h
 |_::_,[],_,_,_,h=>by simp at h
 |c::cs,a::x,0,acc,_,_=>by rfl
 |c::cs,a::x,i+1,acc,h,h'=>by simp only[Lf,img,at0,List.getD_cons_succ];exact zC0 cs x i _ (by grind) (by grind)
theorem uA{α β:Type}{body:α×Int->Option ((α×Int)⊕α)}{S:β->Prop}(e:β->α)(g:β->β)(n:Int)(hn:0<=n)(hS:∀a,S a->S (g a))
  (h:∀a(i:Nat),S a->(i:Int)<n->body (e a,(i:Int))=iW (.inl (e (g a),((i+1:Nat):Int))))(he:∀a,S a->body (e a,n)=iW (.inr (e a))){a:β}(ha:S a):
  zH body (e a,0)=iW (e (iter n.toNat g a)):=by
 have ew:∀k,S (iter k g a):=fun k=>vS (S:=S) hS k ha
 exact zQ (body:=body) (r:=e (iter n.toNat g a)) (fun i=>(e (iter i g a),(i:Int))) n.toNat (by grind[vF]) (by grind)
theorem zMG{k i:Nat}{v:Vec}(h:i<v.length:=by omega):ixO (zeros k++v) ((k+i:Nat):Int)=iW (at0 v i):=by rw[uG,Ji (by grind[zW]),zW,show k+i-k=i from by omega,J5 h,at0,J2,J5 h];rfl
theorem zEV{x:SPr}(ho:Os x.zA):∀(d k:Nat)(v:List Int),k+d=x.zA.length->V (suf x k) v->v.length=d/\ ∀i,i<d->0<=at0 v i/\at0 v i<at0 x.zA (k+i)/\at0 v i<=6
 |0,k,v,hk,hv=>by
  rw[vN]at hv;simp only[V]at hv
  grind
 |d+1,k,v,hk,hv=>by
  rw[yC]at hv
  match v,hv with
  |a::v,hv=>
   obtain⟨h1,h2⟩:=zEV ho d (k+1) v (by omega) hv.2;refine⟨by simp[h1],fun i hi=>?_⟩;cases i with
   |zero=>
    have h3:=hv.1;simp only[lvl]at h3;have:=(ho.2 k (by omega)).pos
    grind
   |succ i=>
    grind
theorem zF7{x:SPr}(h:Pres x){k i:Nat}(hk:k<x.zA.length)(hi:i<x.zA.length-(k+1):=by omega):
  ∃c,ixO x.zC (k:Int)=iW (x.zC.getD k [])/\ixO (x.zC.getD k []) (i:Int)=iW (zeros (k+1)++c)/\V (suf x (k+1)) c/\(lvl x k).cs.getD i []=c:=by
 obtain⟨t1,t2,t3⟩:=h.tl k hk;have hc:=h.cl
 grind[zY,zAk,zB1,lvl]
def FAt(x:SPr)(k:Nat)(g:SPr->Int->List Int->List Int->Option (List Int)):Prop:=
 ∀a b,V (suf x k) a->V (suf x k) b->g x k (zeros k++a) (zeros k++b)=iW (zeros k++mul (suf x k) a b)
def FIm(x:SPr)(k:Nat)(g:SPr->Int->List Int->Option (List Int)):Prop:=
 ∀v,V (suf x (k+1)) v->g x k (zeros (k+1)++v)=iW (zeros (k+1)++sig (suf x (k+1)) (lvl x k) v)
theorem zO6{x:SPr}(h:Pres x){k:Nat}(hk:k<x.zA.length){g:SPr->Int->List Int->List Int->Option (List Int)}(hg:FAt x (k+1) g):FIm x k (b_e g):=by
 intro v hv;have h6:=h.os.1;have ok:=h.okAt (k:=k+1) (by omega);obtain⟨cD,aZ⟩:=zEV h.os (x.zA.length-(k+1)) (k+1) v (by omega) hv;have gn:=yK x (k+1);have gy:(lvl x k).cs.length=x.zA.length-(k+1):=by have:=h.okAt (k:=k) (by omega);rw[yC hk]at this;rw[this.2.2.1,gn]
 have gY:∀c∈(lvl x k).cs,V (suf x (k+1)) c:=by have:=h.okAt (k:=k) (by omega);rw[yC hk]at this;exact this.2.2.2.1
 have hA:∀i,V (suf x (k+1)) (img (mul (suf x (k+1))) ((lvl x k).cs.take i) (v.take i) (zeros (suf x (k+1)).length)):=fun i=>
  kY (yU ok) _ _ (by grind) (wG ok)
 unfold b_e;rw[yP,bs,zG,bs,cs];have hz:J1 x.zA.length (0:Int)=zeros (k+1)++zeros (suf x (k+1)).length:=by rw[gn];simp only[zeros,Jl];congr 1;omega
 rw[hz];have:=zQ (body:=zVp g x k (zeros (k+1)++v)) (r:=zeros (k+1)++sig (suf x (k+1)) (lvl x k) v)
  (fun i=>(zeros (k+1)++img (mul (suf x (k+1))) ((lvl x k).cs.take i) (v.take i) (zeros (suf x (k+1)).length),((k+1+i:Nat):Int))) (x.zA.length-(k+1)) (fun i hi=>by
  have hr:=aZ i hi;obtain⟨c,c1,c2,c3,c4⟩:=zF7 h hk hi;unfold zVp;rw[jc,zK];rw[uA (S:=V (suf x (k+1))) (body:=zVo g x k (zeros (k+1)++v) (zeros (k+1)++img (mul (suf x (k+1))) ((lvl x k).cs.take i) (v.take i) (zeros (suf x (k+1)).length),((k+1+i:Nat):Int))) (fun u=>zeros (k+1)++u) (fun u=>mul (suf x (k+1)) u c) (at0 v i) hr.1 (by grind[yU]) (fun u q hu hq=>by
   unfold zVo;simp only
   rw[zMG,bs,jc hq,zK,zG,bs,c1,bs,zG,bs,zG,bs,
    show(((k+1+i:Nat):Int)-(k:Int)-1)=(i:Int)from by omega,c2,bs,cs,hg u c hu c3,bs,zG,bs,cs]) (fun u hu=>by
   unfold zVo;simp only
   rw[zMG,bs,jb (by omega),zM]) (hA i),bs,zG,bs,cs]
  rw[zC0 _ _ _ _ (by omega) (by omega),c4];rfl) (by
  unfold zVp;rw[jb (by omega),zM,Jo (by omega),Jo (by omega)];rfl)
 grind[img]
theorem zXM{x:SPr}(h:Pres x){k:Nat}(hk:k<x.zA.length){g:SPr->Int->List Int->List Int->Option (List Int)}{gi:SPr->Int->List Int->Option (List Int)}(hg:FAt x (k+1) g)(hi:FIm x k gi):FAt x k (b_a gi g):=by
 intro a b ha hb;have h6:=h.os.1;have hp:=(h.os.2 k hk).pos;have ok:=h.okAt (k:=k+1) (by omega);have ok0:=h.okAt (k:=k) (by omega);obtain⟨bm,har⟩:=zEV h.os (x.zA.length-k) k a (by omega) ha;obtain⟨cC,hbr⟩:=zEV h.os (x.zA.length-k) k b (by omega) hb;rw[yC hk]at ha hb ok0;obtain⟨a0,a,rfl⟩:∃a0 a',a=a0::a':=by cases a with|nil=>grind|cons p q=>simp
 obtain⟨b0,b,rfl⟩:∃a0 a',b=a0::a':=by cases b with|nil=>grind|cons p q=>simp
 obtain⟨⟨a1,a2⟩,ha⟩:=ha;obtain⟨⟨b1,b2⟩,hb⟩:=hb;have pK:(lvl x k).o=at0 x.zA k:=rfl;rw[pK]at a2 b2;unfold b_a;rw[jb (by omega),zM,wZ (by grind[zW]),bs,wZ (by simp[zW]at cC ⊢;omega),bs,zD9,bs,zD9,bs,J6,zEB,zEB,zCN,zCN];have eD:∀u,V (suf x (k+1)) u->V (suf x (k+1)) (sig (suf x (k+1)) (lvl x k) u):=by grind[zD6]
 have ew:V (suf x (k+1)) (iter b0.toNat (sig (suf x (k+1)) (lvl x k)) a):=vS eD _ ha;rw[uA (S:=V (suf x (k+1))) (fun u=>zeros (k+1)++u) (sig (suf x (k+1)) (lvl x k)) b0 b1 eD (fun u q hu hq=>by
   unfold zYw;simp only
   rw[zD9,bs,jc hq,zK,hi u hu,bs,zG,bs,cs]) (fun u hu=>by
   unfold zYw;simp only
   rw[zD9,bs,jb (by omega),zM]) ha,bs,zG,bs,cs,hg _ _ ew hb,bs,bs,bs,zG,bs,yJ hk,bs]
 have hm:=yU ok ew hb;have iq:=(zEV h.os (x.zA.length-(k+1)) (k+1) _ (by omega) hm).1;have own:∀u,V (suf x (k+1)) u->f_q (zeros (k+1)++u)=iW (zeros (k+1)++u):=fun u hu=>wZ (by
  have:=(zEV h.os (x.zA.length-(k+1)) (k+1) _ (by omega) hu).1
  grind[zW])
 rw[yC hk,yQ,pK]
 by_cases hge:a0+b0>=at0 x.zA k
 ·have t1:=(h.tl k hk).1
  have hw:=zAk t1 hk;have hwl:=h.pl;rw[jc hge,zK,if_pos hge,bs,zG,bs,bs,zY [],bs,zB1 t1 hk,hg _ _ hw hm,bs,own _ (yU ok hw hm),bs];rw[<-zCN,zD9,bs,zEB];rfl
 ·rw[jb hge,zM,if_neg hge,own _ hm,bs,<-zCN,zD9,bs,zEB]
theorem zG1{x:SPr}(h:Pres x):∀(d k:Nat),k+d=x.zA.length->(∀m,2*d+1<=m->FAt x k (zPj m))/\(1<=d-> ∀m,2*d<=m->FIm x k (zPi m))
 |0,k,hk=>by
  refine⟨fun m hm a b ha hb=>?_,fun h=>by omega⟩;have h6:=h.os.1;obtain⟨m,rfl⟩:∃m',m=m'+1:=⟨m-1,by omega⟩;show b_a _ _ x k _ _=_;unfold b_a;rw[jc,zK,yP,bs,vN]
  grind[mul,zeros]
 |d+1,k,hk=>by
  obtain⟨h1,h2⟩:=zG1 h d (k+1) (by omega);have hI:∀m,2*(d+1)<=m->FIm x k (zPi m):=fun m hm=>by obtain⟨m,rfl⟩:∃m',m=m'+1:=⟨m-1,by omega⟩;exact zO6 h (by omega) (h1 m (by omega))
  refine⟨fun m hm=>?_,fun _=>hI⟩;obtain⟨m,rfl⟩:∃m',m=m'+1:=⟨m-1,by omega⟩;exact zXM h (by omega) (h1 m (by omega)) (hI m (by omega))
theorem zQz{x:SPr}(h:Pres x){k:Nat}(hk:k<=x.zA.length:=by omega):FAt x k f_a:=fun a b ha hb=>
 zBA (2*(x.zA.length-k)+1) fun m hm=>(zG1 h (x.zA.length-k) k (by omega)).1 m hm a b ha hb
theorem zO7{x:SPr}(h:Pres x){k:Nat}(hk:k<x.zA.length):FIm x k f_e:=fun v hv=>
 zBA (2*(x.zA.length-k)) fun m hm=>(zG1 h (x.zA.length-k) k (by omega)).2 (by omega) m hm v hv
theorem zDA:∀{P Q:Pcp},Q<:+P->xU P->xU Q
 | [],Q,h,_=>by grind
 |l::P,Q,h,hc=>by
  rcases Q3.1 h with rfl|h
  ·exact hc
  ·exact zDA h hc.1
theorem zKf:∀{P Q:Pcp},Q<:+P->Pc.Ok P->Pc.Ok Q
 | [],Q,h,_=>by grind
 |l::P,Q,h,hc=>by
  rcases Q3.1 h with rfl|h
  ·exact hc
  ·exact zKf h hc.2.2.2.2
theorem zO8(x:SPr)(k:Nat):suf x (k+1)<:+suf x k:=by grind[yC,vN]
theorem zF8{x:SPr}{k:Nat}(h:xU (suf x k)):∀i,xU (suf x (k+i))
 |0=>h
 |i+1=>zDA (zO8 x (k+i)) (zF8 h i)
theorem zI8{x:SPr}(h:Pres x){k:Nat}(hk:k<=x.zA.length)(hc:xU (suf x k)):Grp (V (suf x k)) (mul (suf x k)) (zeros (suf x k).length):=zD7 _ (h.okAt hk) hc
theorem zHB{x:SPr}:∀(i k:Nat)(v:Vec),k+i<=x.zA.length->V (suf x k) v-> ∃q v',v=q++v'/\q.length=i/\V (suf x (k+i)) v'/\
  ∀a b,V (suf x (k+i)) a->V (suf x (k+i)) b->mul (suf x k) (q++a) (zeros i++b)=q++mul (suf x (k+i)) a b
 |0,k,v,_,hv=>⟨[],v,rfl,rfl,hv,fun a b _ _=>rfl⟩
 |i+1,k,v,hk,hv=>by
  rw[yC]at hv
  match v,hv with
  |e::v,hv=>
   obtain⟨q,v',h1,h2,h3,h4⟩:=zHB i (k+1) v (by omega) hv.2;rw[show k+1+i=k+(i+1)from by omega]at h3 h4;refine⟨e::q,v',by grind,by simp[h2],h3,fun a b ha hb=>?_⟩;have he:=hv.1;rw[yC];show mul (lvl x k::suf x (k+1)) (e::(q++a)) (0::(zeros i++b))=_;rw[yQ,Lv,if_neg (by omega)]
   grind[iter]
def FTV(x:SPr)(k:Nat)(g:SPr->List Int->List Int->Option (List Int)):Prop:=
 ∀p v u,p.length=k->V (suf x k) v->V (suf x k) u->g x (p++v) (zeros k++u)=iW (p++mul (suf x k) v u)
def FTG(x:SPr)(k:Nat)(g:SPr->List Int->Int->Option (List Int)):Prop:=
 ∀p v,p.length=k->V (suf x k) v->g x (p++v) (k:Int)=iW (p++mul (suf x k) v (1::zeros (x.zA.length-(k+1))))
theorem zKg{x:SPr}(h:Pres x){k:Nat}(hk:k<x.zA.length){g:SPr->List Int->List Int->Option (List Int)}(hg:FTV x (k+1) g){t:Vec}(ht:V (suf x (k+1)) t)
  {body1:List Int×Int->Int->List Int×Int->Option ((List Int×Int)⊕List Int)}{body2:List Int×Int->Option ((List Int×Int)⊕List Int)}
  (pO:∀s,body2 s=cond (decide (s.2<(t.length:Int))) ((ixO t s.2).bind fun v17=>(zH (body1 s v17) (s.1,0)).bind fun r=>(rng (s.2+1)).bind fun v=>iW (.inl (r,v))) (iW (.inr s.1)))
  (iQ:∀s v q,body1 s v q=cond (decide (q.2<v)) ((ixO x.zC (k:Int)).bind fun cl=>(ixO cl s.2).bind fun c=>(g x q.1 c).bind fun r=>(rng (q.2+1)).bind fun w=>iW (.inl (r,w))) (iW (.inr q.1)))
  {p:Vec}(hp:p.length=k+1){u:Vec}(hu:V (suf x (k+1)) u):zH body2 (p++u,0)=iW (p++img (mul (suf x (k+1))) (lvl x k).cs t u):=by
 have h6:=h.os.1;have ok:=h.okAt (k:=k+1) (by omega);have ok0:=h.okAt (k:=k) (by omega);rw[yC hk]at ok0;obtain⟨fa,tj⟩:=zEV h.os (x.zA.length-(k+1)) (k+1) t (by omega) ht;have gy:(lvl x k).cs.length=x.zA.length-(k+1):=by rw[ok0.2.2.1,yK]
 have hA:∀i,V (suf x (k+1)) (img (mul (suf x (k+1))) ((lvl x k).cs.take i) (t.take i) u):=fun i=>
  kY (yU ok) _ _ (fun c hc=>ok0.2.2.2.1 c (by grind)) hu
 have:=zQ (body:=body2) (r:=p++img (mul (suf x (k+1))) (lvl x k).cs t u) (fun i=>(p++img (mul (suf x (k+1))) ((lvl x k).cs.take i) (t.take i) u,(i:Int))) t.length (fun i hi=>by
  have hr:=tj i (by omega);obtain⟨c,c1,c2,c3,c4⟩:=zF7 h hk (i:=i);rw[pO];simp only
  rw[yN hi,zK,yJ hi,bs];rw[uA (S:=V (suf x (k+1))) (fun u=>p++u) (fun u=>mul (suf x (k+1)) u c) (at0 t i) hr.1 (by grind[yU]) (fun u q hu hq=>by
   rw[iQ];simp only
   rw[jc hq,zK,c1,bs,c2,bs,hg p u c hp hu c3,bs,zG,bs,cs]) (by grind) (hA i),bs,zG,bs,cs]
  rw[zC0 _ _ _ _ (by omega) (by omega),c4]) (by
  grind)
 grind[img]
theorem yAe{p v:Vec}{a:Int}{k:Nat}(hp:p.length=k):ixO (p++a::v) (k:Int)=iW a:=by rw[uG,Ji (by omega),hp,Kx];rfl
theorem p_set{p v:Vec}{a b:Int}{k:Nat}(hp:p.length=k):(p++a::v).set k b=p++b::v:=by simp_all
theorem zMH{x:SPr}(h:Pres x){k:Nat}(hk:k<x.zA.length)(hc:xU (suf x (k+1))){g:SPr->List Int->List Int->Option (List Int)}(hg:FTV x (k+1) g):FTG x k (b_b g):=by
 intro p v hp hv;have h6:=h.os.1;have G:=zI8 h (k:=k+1) (by omega) hc;have ok:=h.okAt (k:=k+1) (by omega);have ok0:=h.okAt (k:=k) (by omega);obtain⟨cD,aZ⟩:=zEV h.os (x.zA.length-k) k v (by omega) hv;rw[yC hk]at hv ok0;obtain⟨e,t,rfl⟩:∃a0 a',v=a0::a':=by cases v with|nil=>grind|cons p q=>simp
 obtain⟨⟨e1,e2⟩,ht⟩:=hv;have pK:(lvl x k).o=at0 x.zA k:=rfl;rw[pK]at e2;have fX:=(h.os.2 k hk).pos;have fa:=(zEV h.os (x.zA.length-(k+1)) (k+1) t (by omega) ht).1;have fU:=yK x (k+1);unfold b_b;have hs:zL (p++e::t) ((k+1:Nat):Int) ((p++e::t).length:Int)=iW t:=by
  unfold zL;rw[if_pos (by grind)];have e3:(p++e::t).drop (k+1)=t:=by rw[List.drop_append,Gv (by omega),hp,show k+1-k=1 from by omega];rfl
  grind[J6]
 have bh:f_O t=iW t:=by grind[f_O,zX]
 rw[zG,bs,cs,hs,bs,bh,bs];have hz:=zQ (body:=zV5 k t) (r:=(p++[e])++zeros t.length) (fun i=>((p++[e])++(zeros i++t.drop i),(i:Int))) t.length (fun i hi=>by
  have hl:((p++[e])++zeros i).length=k+1+i:=by grind[zW]
  unfold zV5;simp only
  rw[yN hi,zK,zG,bs,zG,bs,show(k:Int)+1+(i:Int)=((k+1+i:Nat):Int)from by omega,uG,<-Jh,Ji (by omega),hl,Kx,
   Gz hi,Uv,bs,zG,bs,cs,J6,Qs _ _ (by omega),hl,Kx,Lw,zHj]
  simp) (by
  unfold zV5;simp)
 simp only[zeros,Hb,Hq,Jv,Jh,Hf]at hz;rw[show((0:Nat):Int)=0 from rfl]at hz;rw[hz,bs,J6,yAe hp,bs,zG,bs,bs,p_set hp,yAe hp,bs,yJ hk,bs];have eS:J1 t.length (0:Int)=zeros (suf x (k+1)).length:=by rw[fU,fa];rfl
 rw[yC hk,yQ,pK];have gv:mul (suf x (k+1)) (iter (1:Int).toNat (sig (suf x (k+1)) (lvl x k)) t) (zeros (x.zA.length-(k+1)))=sig (suf x (k+1)) (lvl x k) t:=by rw[<-fU];show mul _ (sig (suf x (k+1)) (lvl x k) t) _=_;exact G.oner (zD6 ok0 ht)
 rw[gv,eS]
 by_cases heq:e+1=at0 x.zA k
 ·have t1:=(h.tl k hk).1
  have hw:=zAk t1 hk;have hwl:=h.pl;have dh:(p++[(0:Int)]).length=k+1:=by simp[hp]
  rw[show(e+1==at0 x.zA k)=iZ from by grind,zK,if_pos (by omega),bs,zY [],bs,p_set hp];have dD:p++0::zeros (suf x (k+1)).length=(p++[0])++zeros (suf x (k+1)).length:=by simp
  rw[dD,zB1 t1 hk,hg _ _ _ dh G.ein hw,bs,G.onel hw];rw[zKg (body1:=yCd g x k) (body2:=yCe g x k t) h hk hg ht (fun _=>rfl) (fun _ _ _=>rfl) dh hw,bs];rw[zF5 G.toMon _ _ ok0.2.2.2.1 hw,show e+1-at0 x.zA k=0 from by omega];simp only[Jh,Hf];rfl
 ·have dh:(p++[e+1]).length=k+1:=by simp[hp]
  rw[show(e+1==at0 x.zA k)=ja from by grind,zM,if_neg (by omega)];have dD:p++(e+1)::zeros (suf x (k+1)).length=(p++[e+1])++zeros (suf x (k+1)).length:=by simp
  rw[dD,zKg (body1:=yCf g x k) (body2:=yCg g x k t) h hk hg ht (fun _=>rfl) (fun _ _ _=>rfl) dh G.ein,bs];simp only[Jh,Hf];rfl
theorem zBv{n i:Nat}(h:i<n:=by omega):xE n i=zeros i++1::zeros (n-(i+1)):=by
 have:zeros n=zeros i++0::zeros (n-(i+1)):=by
  simp only[zeros];rw[<-Jt,Jl]
  grind
 grind[xE,zEB]
theorem zF9(n:Nat):(wB n).length=n:=by simp[wB]
theorem zI9{n i:Nat}(h:i<n):(wB n).getD i []=xE n i:=by simp[wB,J2,h]
theorem zTS{x:SPr}(h:Pres x){k:Nat}(hk:k<=x.zA.length)(hc:xU (suf x k)){g:SPr->List Int->Int->Option (List Int)}(hg:∀j,k<=j->j<x.zA.length->FTG x j g):FTV x k (b_d g):=by
 intro p v u hp hv hu;have h6:=h.os.1;have G:=zI8 h hk hc;have ok:=h.okAt hk;obtain⟨eQ,dL⟩:=zEV h.os (x.zA.length-k) k u (by omega) hu;have fU:=yK x k;have hV1:∀j,j<=x.zA.length->j<x.zA.length->V (suf x j) (1::zeros (x.zA.length-(j+1))):=fun j hj mX=>by rw[yC mX];have:=(h.os.2 j mX).pos;refine⟨⟨by omega,by show 1<at0 x.zA j;omega⟩,?_⟩;rw[<-yK];exact wG (h.okAt (by omega))
 have hUn:∀i,i<x.zA.length-k->V (suf x k) (xE (x.zA.length-k) i):=by grind[zD5]
 have hUs:∀c∈wB (x.zA.length-k),V (suf x k) c:=fun c hc=>by
  simp only[wB,Jn,Ll]at hc
  grind
 have hA:∀i,V (suf x k) (img (mul (suf x k)) ((wB (x.zA.length-k)).take i) (u.take i) v):=fun i=>
  kY (yU ok) _ _ (by grind) hv
 have iB:∀i w,i<x.zA.length-k->V (suf x k) w->g x (p++w) ((k+i:Nat):Int)=iW (p++mul (suf x k) w (xE (x.zA.length-k) i)):=fun i w hi hw=>by obtain⟨q,w',h1,h2,h3,h4⟩:=zHB i k w (by omega) hw;have h5:=hg (k+i) (by omega) (by omega) (p++q) w' (by grind) h3;rw[Jh,<-h1]at h5;rw[h5,zBv hi,h1,show x.zA.length-k-(i+1)=x.zA.length-(k+i+1)from by omega,h4 w' _ h3 (hV1 (k+i) (by omega) (by omega)),Jh]
 unfold b_d;have th:(zeros k++u).length=x.zA.length:=by grind[zW]
 have:=zQ (body:=zV7 g x (zeros k++u)) (r:=p++mul (suf x k) v u) (fun j=>(p++img (mul (suf x k)) ((wB (x.zA.length-k)).take (j-k)) (u.take (j-k)) v,(j:Int))) x.zA.length (fun j hj=>by
  unfold zV7;simp only
  rw[th,yN hj,zK];rcases Jk j k with hjk|hjk
  ·have e0:ixO (zeros k++u) (j:Int)=iW 0:=by
    rw[uG,K0 (by grind)]
    grind[zeros]
   rw[e0,bs,show j-k=0 from by omega,show j+1-k=0 from by omega];rw[yR];unfold zV6;simp only
   rw[show decide ((0:Int)<0)=ja from rfl,zM];simp only
   rw[bs,zG,bs,cs]
  ·obtain⟨i,rfl⟩:∃i,j=k+i:=⟨j-k,by omega⟩
   have hi:i<x.zA.length-k:=by omega
   have hr:=dL i hi;rw[zMG,bs,show k+i-k=i from by omega,show k+i+1-k=i+1 from by omega];rw[uA (S:=V (suf x k)) (fun w=>p++w) (fun w=>mul (suf x k) w (xE (x.zA.length-k) i)) (at0 u i) hr.1 (by grind[yU]) (fun w q hw hq=>by
    unfold zV6;simp only
    rw[jc hq,zK,iB i w hi hw,bs,zG,bs,cs]) (fun w hw=>by
    unfold zV6;simp) (hA i),bs,zG,bs,cs]
   rw[zC0 _ _ _ _ (by grind[zF9]) (by omega),zI9 hi]) (by
  unfold zV7;simp only
  rw[th,qT,zM,Jo (by grind[zF9]),Jo (by omega),zF5 G.toMon _ _ hUs hv];have hn:=normal (suf x k) ok (fun Q hQ=>(zD7 Q (zKf hQ ok) (zDA hQ hc)).toMon) u hu
  grind)
 simp only[Jag,Ki,img]at this
 grind
theorem zG2{x:SPr}(h:Pres x):∀(d k:Nat),k+d=x.zA.length->xU (suf x k)->(∀m,2*d+1<=m->FTV x k (zSr m))
 |d,k,hk,hc=>fun m hm=>by
  obtain⟨m,rfl⟩:∃m',m=m'+1:=⟨m-1,by omega⟩;refine zTS h (by omega) hc fun j hj bM=>?_
  obtain⟨m,rfl⟩:∃m',m=m'+1:=⟨m-1,by omega⟩;have dv:xU (suf x (j+1)):=by
   have:=zF8 hc (j+1-k)
   grind
  exact zMH h bM dv (zG2 h (x.zA.length-(j+1)) (j+1) (by omega) dv m (by omega))
 termination_by d=>d
 decreasing_by omega
theorem zXN{x:SPr}(h:Pres x){k:Nat}(hk:k<=x.zA.length)(hc:xU (suf x k)):FTV x k f_d:=fun p v u hp hv hu=>
 zBA (2*(x.zA.length-k)+1) fun m hm=>zG2 h (x.zA.length-k) k (by omega) hc m hm p v u hp hv hu
theorem zXO{x:SPr}(h:Pres x){k:Nat}(hk:k<x.zA.length)(hc:xU (suf x (k+1))):FTG x k f_b:=fun p v hp hv=>
 zBA (2*(x.zA.length-k)) fun m hm=>by obtain⟨m,rfl⟩:∃m',m=m'+1:=⟨m-1,by omega⟩;exact zMH h hk hc (zG2 h (x.zA.length-(k+1)) (k+1) (by omega) hc m (by omega)) p v hp hv
abbrev fv(k:Nat)(v:Vec):Vec:=zeros k++v
section
variable {x:SPr} (h:Pres x) {k:Nat} (hk:k<=x.zA.length) (hc:xU (suf x k))
 include h hk
theorem vC{v:Vec}(hv:V (suf x k) v):v.length=x.zA.length-k:=(zEV h.os (x.zA.length-k) k v (by omega) hv).1
theorem zDB{v:Vec}(hv:V (suf x k) v):(fv k v).length=x.zA.length:=by grind[zW,vC]
theorem zQ0:J1 x.zA.length (0:Int)=fv k (zeros (suf x k).length):=by
 have _:=h;rw[yK];simp only[fv,zeros,Jl];grind
 include hc
theorem zO9{i:Nat}(hi:i<x.zA.length-k):V (suf x k) (xE (x.zA.length-k) i):=by
 have _:=hc;have:=yK x k;rw[<-this]at hi ⊢
 exact zD5 (h.okAt hk) hi
theorem zMI{p:Vec}(hp:p.length=k){i:Nat}(hi:i<x.zA.length-k){w:Vec}(hw:V (suf x k) w):f_b x (p++w) ((k+i:Nat):Int)=iW (p++mul (suf x k) w (xE (x.zA.length-k) i)):=by
 obtain⟨q,w',h1,h2,h3,h4⟩:=zHB i k w (by omega) hw;have dv:xU (suf x (k+i+1)):=zF8 hc (i+1);have h5:=zXO h (k:=k+i) (by omega) dv (p++q) w' (by grind) h3;have h7:V (suf x (k+i)) (1::zeros (x.zA.length-(k+i+1))):=by
  have mX:k+i<x.zA.length:=by omega
  rw[yC mX];have:=(h.os.2 (k+i) mX).pos;refine⟨⟨by omega,by show 1<at0 x.zA (k+i);omega⟩,?_⟩;rw[<-yK];exact wG (h.okAt (by omega))
 grind[zBv]
theorem zIA{a b:Vec}(ha:V (suf x k) a)(hb:V (suf x k) b):f_d x (fv k a) (fv k b)=iW (fv k (mul (suf x k) a b)):=
 zXN h hk hc (zeros k) a b (zW k) ha hb
theorem zMJ{a:Vec}(ha:V (suf x k) a):f_O (fv k a)=iW (fv k a):=by
 have _:=hc;have:=zDB h hk ha;have h6:=h.os.1
 grind[f_O,zX]
theorem zJ0{a b:Vec}(ha:V (suf x k) a)(hb:V (suf x k) b):zVD x (fv k a) (fv k b)=iW (fv k (mul (suf x k) a b)):=by grind[zVD,zMJ,zIA]
theorem zOA{c:Vec}(pD:V (suf x k) c){e:Int}(e0:0<=e)(e1:e<=1000):zY1 x (fv k c) e=iW (fv k (pw (mul (suf x k)) (zeros (suf x k).length) c e.toNat)):=by
 have h6:=h.os.1;have ok:=h.okAt hk;unfold zY1;rw[zDB h hk pD,yP,bs,zQ0 h hk];rw[uA (S:=V (suf x k)) (body:=zNB x (fv k c) e) (fun u=>fv k u) (fun u=>mul (suf x k) u c) e e0 (by grind[yU]) (fun u i hu hi=>by
  unfold zNB;simp only
  rw[jc hi,zK,zIA h hk hc hu pD,bs,zG,bs,cs]) (fun u hu=>by
  unfold zNB;simp) (wG ok),bs]
 rfl
theorem zMK{v:Vec}(hv:V (suf x k) v):∃w,V (suf x k) w/\mul (suf x k) v w=zeros (suf x k).length/\f_Z x (fv k v)=iW (fv k w):=by
 have h6:=h.os.1;have ok:=h.okAt hk;have G:=zI8 h hk hc;have cD:=zDB h hk hv;have fU:=yK x k;unfold f_Z;rw[zMJ h hk hc hv,bs,cD,yP,bs,zQ0 h hk]
 let I:Nat->(List Int×List Int×Int)->Prop:=fun j s=> ∃A w,s=(fv k A,fv k w,(j:Int))/\V (suf x k) A/\V (suf x k) w/\mul (suf x k) v w=A/\ ∃A',A=zeros (j-k)++A'
 have key:=uU (body:=zVC x (fv k v)) (Q:=fun r=> ∃w,V (suf x k) w/\mul (suf x k) v w=zeros (suf x k).length/\r=fv k w) I x.zA.length (fun j s hj hI=>by
  obtain⟨A,w,rfl,hA,hw,hm,A',hA'⟩:=hI;left;unfold zVC;simp only
  rw[cD,yN hj,zK];rcases Jk j k with hjk|hjk
  ·have e0:ixO (fv k A) (j:Int)=iW 0:=by
    grind[uG,zeros]
   rw[yR];unfold zSs;simp only
   rw[e0,bs,show((0:Int) != 0)=ja from rfl,zM];simp only
   rw[bs,zG,bs,cs]
   grind
  ·obtain⟨i,rfl⟩:∃i,j=k+i:=⟨j-k,by omega⟩
   have hi:i<x.zA.length-k:=by omega
   rw[show k+i-k=i from by omega]at hA';have fN:=vC h hk hA;obtain⟨a0,A',rfl⟩:∃p q,A'=p::q:=by
    cases A' with
    |nil=>grind[zW]
    |cons p q=>simp
   have fX:=(h.os.2 (k+i) hj).pos;have inner:=uU (body:=zSs x (fv k A,fv k w,((k+i:Nat):Int))) (s:=(fv k A,fv k w))
    (Q:=fun r=> ∃B u,r=(fv k B,fv k u)/\V (suf x k) B/\V (suf x k) u/\mul (suf x k) v u=B/\ ∃B',B=zeros (i+1)++B')
    (fun q s=> ∃B u b B',s=(fv k B,fv k u)/\V (suf x k) B/\V (suf x k) u/\mul (suf x k) v u=B/\B=zeros i++b::B'/\(b=0\/b=a0+q)) 10 (fun q s hq hs=>by
     obtain⟨B,u,b,B',rfl,hB,hu,bJ,bp,hb⟩:=hs;have hz:ixO (fv k B) ((k+i:Nat):Int)=iW b:=by rw[fv,zMG (by grind[vC]),bp,at0,J2,Ji (by rw[zW];omega),zW,Kx];rfl
     unfold zSs;simp only
     rw[hz,bs]
     by_cases dy:b=0
     ·subst dy
      right;rw[show((0:Int) != 0)=ja from rfl,zM];exact⟨_,rfl,B,u,rfl,hB,hu,bJ,B',by rw[bp,zCN]⟩
     ·left
      have hbq:b=a0+q:=by omega
      rw[show(b != 0)=iZ from by grind,zK,zMI h hk hc (zW k) hi hB,bs,zMI h hk hc (zW k) hi hu,bs];have hU:=zO9 h hk hc hi;obtain⟨q',v',h1,h2,h3,h4⟩:=zHB i k B (by omega) hB;have hqv:q'=zeros i/\v'=b::B':=by grind[List.append_inj,zW]
      obtain⟨rfl,rfl⟩:=hqv;have h7:V (suf x (k+i)) (1::zeros (x.zA.length-(k+i+1))):=by rw[yC hj];refine⟨⟨by omega,by show 1<at0 x.zA (k+i);omega⟩,?_⟩;rw[<-yK];exact wG (h.okAt (by omega))
      have h8:=h4 (b::B') _ h3 h7;rw[show x.zA.length-(k+i+1)=x.zA.length-k-(i+1)from by omega,<-zBv hi,<-h1,yC hj,yQ]at h8;refine⟨_,rfl,mul (suf x k) B (xE (x.zA.length-k) i),mul (suf x k) u (xE (x.zA.length-k) i),?_⟩;have pK:(lvl x (k+i)).o=at0 x.zA (k+i):=rfl;rw[pK]at h8
      by_cases hge:b+1>=at0 x.zA (k+i)
      ·rw[if_pos hge]at h8
       refine⟨_,_,rfl,yU ok hB hU,yU ok hu hU,?_,h8,?_⟩
       ·rw[<-G.assoc hv hu hU,bJ]
       ·left
        rw[yC hj]at h3;have:=h3.1.2;omega
      ·rw[if_neg hge]at h8
       refine⟨_,_,rfl,yU ok hB hU,yU ok hu hU,?_,h8,?_⟩
       ·rw[<-G.assoc hv hu hU,bJ]
       omega) (fun s hs=>by
     obtain⟨B,u,b,B',rfl,hB,hu,bJ,bp,hb⟩:=hs;have hz:ixO (fv k B) ((k+i:Nat):Int)=iW b:=by rw[fv,zMG (by grind[vC]),bp,at0,J2,Ji (by rw[zW];omega),zW,Kx];rfl
     have hbr:=(zEV h.os (x.zA.length-k) k B (by omega) hB).2 i hi;have ha:=(zEV h.os (x.zA.length-k) k A (by omega) hA).2 i hi;have e1:at0 B i=b:=by rw[bp,at0,J2,Ji (by grind[zW]),zW,Kx];rfl
     have e2:at0 A i=a0:=by rw[hA',at0,J2,Ji (by grind[zW]),zW,Kx];rfl
     have dy:b=0:=by omega
     subst dy;unfold zSs;simp only
     rw[hz,bs,show((0:Int) != 0)=ja from rfl,zM];exact⟨_,rfl,B,u,rfl,hB,hu,bJ,B',by rw[bp,zCN]⟩) (by grind)
   obtain⟨r,r1,B,u,rfl,hB,hu,bJ,B',bp⟩:=inner;rw[r1,bs,zG,bs,cs]
   grind) (fun s hI=>by
  obtain⟨A,w,rfl,hA,hw,hm,A',hA'⟩:=hI;unfold zVC;simp only
  rw[cD,qT,zM];refine⟨_,rfl,w,hw,?_,rfl⟩;have fN:=vC h hk hA;rw[hA',J7,zW]at fN
  grind) (s:=(fv k v,fv k (zeros (suf x k).length),0))
  ⟨v,_,rfl,hv,wG ok,G.oner hv,v,by rw[Jag];rfl⟩
 grind
theorem zDC{a b:Vec}(ha:V (suf x k) a)(hb:V (suf x k) b):∃c,V (suf x k) c/\mul (suf x k) b c=mul (suf x k) a b/\zVE x (fv k a) (fv k b)=iW (fv k c):=by
 have ok:=h.okAt hk;have G:=zI8 h hk hc;obtain⟨w,hw,hm,h1⟩:=zMK h hk hc hb;have dz:=yU ok ha hb;refine⟨mul (suf x k) w (mul (suf x k) a b),yU ok hw dz,?_,?_⟩
 ·rw[<-G.assoc hb hw dz,hm,G.onel dz]
 grind[zVE,zJ0]
end
theorem zEW{a b:List Int}(h:a.length<=1000000):zLH a b=iW (a==b):=
 zQw (t:=fun u v=>iW (u==v)) (body:=zVB a b) rfl (fun _=>rfl) (by omega) fun _ _ _ _=>rfl
theorem zG3{a b:List Int}(h:a.length<=1000000:=by omega):zGU a b=iW (a==b):=zEW h
theorem zML{ρ:Type}{body:Int->Option (Int⊕(Unit⊕ρ))}(n i0:Nat)(hn:i0<=n)(P:Nat->Prop)(B:ρ->Prop)
  (h:∀i,i0<=i->i<n->(∀j,i0<=j->j<i->P j)->(body (i:Int)=iW (.inl ((i+1:Nat):Int))/\P i)\/(∃r,body (i:Int)=iW (.inr (.inr r))/\B r/\ ¬P i))
  (he:body (n:Int)=iW (.inr (.inl ()))):
  (zH body (i0:Int)=iW (.inl ())/\ ∀j,i0<=j->j<n->P j)\/ ∃r i,i0<=i/\i<n/\zH body (i0:Int)=iW (.inr r)/\B r/\ ¬P i:=by
 have key:∀k i,i0<=i->i+k=n->(∀j,i0<=j->j<i->P j)->(zH body (i:Int)=iW (.inl ())/\ ∀j,i0<=j->j<n->P j)\/ ∃r q,i0<=q/\q<n/\zH body (i:Int)=iW (.inr r)/\B r/\ ¬P q:=by
  intro k
  induction k with
  |zero=>
   intro i hi hk hp;obtain rfl:i=n:=by omega
   grind[yR]
  |succ k ih=>
   intro i hi hk hp;rcases h i hi (by omega) hp with⟨h1,h2⟩|⟨r,h1,h2,h3⟩
   ·have:=ih (i+1) (by omega) (by omega) (by grind)
    rw[yR,h1];exact this
   ·exact .inr ⟨r,i,hi,by omega,by rw[yR,h1],h2,h3⟩
 exact key (n-i0) i0 (Je _) (by omega) fun j a b=>by omega
theorem zIB{σ ρ:Type}{body:σ->Option (σ⊕ρ)}{Q:ρ->Prop}(I:σ->Prop)(m:σ->Nat)
  (h:∀s,I s->(∃s',body s=iW (.inl s')/\I s'/\m s'<m s)\/ ∃r,body s=iW (.inr r)/\Q r):∀(k:Nat)(s:σ),m s<=k->I s-> ∃r,zH body s=iW r/\Q r
 |k,s,hk,hs=>by
  rcases h s hs with⟨s',h1,h2,h3⟩|⟨r,h1,h2⟩
  ·cases k with
   |zero=>omega
   |succ k=>
    obtain⟨r,h4,h5⟩:=zIB I m h k s' (by omega) h2
    grind[yR]
  grind[yR]
theorem yBz{k:Nat}{a b:Vec}:(fv k a==fv k b)=iZ↔a=b:=by simp
theorem zDD{x:SPr}{v:List Int}{i k:Nat}(h:Exp x.zA v i)(hk:k<=i+1:=by omega)(hn:k<=x.zA.length:=by omega):v=fv k (v.drop k)/\V (suf x k) (v.drop k):=by
 have h1:=h.1.1;constructor
 ·apply Kw
  intro j;rw[fv,Ko];simp only[zeros,Ja,Km,Lt];split
  ·rename_i hj
   have h2:=h.2 j (by omega)
   grind
  grind
 ·refine yBy (x.zA.length-k) k _ (by omega) (by grind) fun j hj=>?_
  have:=h.1.2 (k+j) (by omega)
  grind
structure LC (x:SPr) (k:Nat):Prop where
 c1:∀j,k+1<=j->j<x.zA.length->pw (mul (suf x (k+1))) (zeros (suf x (k+1)).length) ((lvl x k).cs.getD (j-(k+1)) []) (at0 x.zA j).toNat=sig (suf x (k+1)) (lvl x k) ((x.zJ.getD j []).drop (k+1))
 c2:∀i,k+1<=i->i<x.zA.length-> ∀j,i+1<=j->j<x.zA.length->
  mul (suf x (k+1)) ((lvl x k).cs.getD (j-(k+1)) []) ((lvl x k).cs.getD (i-(k+1)) [])=mul (suf x (k+1)) ((lvl x k).cs.getD (i-(k+1)) []) (sig (suf x (k+1)) (lvl x k) (((x.zC.getD i []).getD (j-(i+1)) []).drop (k+1)))
 c3:sig (suf x (k+1)) (lvl x k) (lvl x k).w=(lvl x k).w
 c4:∀j,k+1<=j->j<x.zA.length->mul (suf x (k+1)) (lvl x k).w (iter (lvl x k).o.toNat (sig (suf x (k+1)) (lvl x k)) (xE (x.zA.length-(k+1)) (j-(k+1))))=mul (suf x (k+1)) (xE (x.zA.length-(k+1)) (j-(k+1))) (lvl x k).w
section
variable {x:SPr} (h:Pres x) {k:Nat} (hk:k<x.zA.length) (hc:xU (suf x (k+1)))
 include h hk
theorem zAU{j:Nat}(h1:k+1<=j)(h2:j<x.zA.length):ixO x.zC (k:Int)=iW (x.zC.getD k [])/\ixO (x.zC.getD k []) ((j:Int)-(k:Int)-1)=iW (fv (k+1) ((lvl x k).cs.getD (j-(k+1)) []))/\V (suf x (k+1)) ((lvl x k).cs.getD (j-(k+1)) []):=by
 obtain⟨c,c1,c2,c3,c4⟩:=zF7 h hk (i:=j-(k+1))
 grind
theorem zTT{j:Nat}(h1:k+1<=j)(h2:j<x.zA.length):ixO x.zJ (j:Int)=iW (fv (k+1) ((x.zJ.getD j []).drop (k+1)))/\V (suf x (k+1)) ((x.zJ.getD j []).drop (k+1)):=by
 have t1:=(h.tl j h2).1;have hl:=h.pl
 grind[zDD,zY]
theorem zTU{i j:Nat}(h1:k+1<=i)(h2:i+1<=j)(h3:j<x.zA.length):ixO x.zC (i:Int)=iW (x.zC.getD i [])/\ixO (x.zC.getD i []) ((j:Int)-(i:Int)-1)=iW (fv (k+1) (((x.zC.getD i []).getD (j-(i+1)) []).drop (k+1)))/\V (suf x (k+1)) (((x.zC.getD i []).getD (j-(i+1)) []).drop (k+1)):=by
 obtain⟨_,t2,t3⟩:=h.tl i (by omega)
 grind[zDD,zY]
theorem yB0:ixO x.zJ (k:Int)=iW (fv (k+1) (lvl x k).w)/\V (suf x (k+1)) (lvl x k).w:=by have t1:=(h.tl k hk).1;have hl:=h.pl;obtain⟨e1,e2⟩:=zDD (k:=k+1) t1;exact⟨by rw[zY []];exact congrArg iW e1,e2⟩
theorem yAf{v:Vec}(hv:V (suf x (k+1)) v):V (suf x (k+1)) (sig (suf x (k+1)) (lvl x k) v):=by
 have ok0:=h.okAt (k:=k) (by omega)
 grind[yC,zD6]
theorem zKh{j:Nat}(h1:k+1<=j)(h2:j<x.zA.length):zLI (x.zA.length:Int) (j:Int)=iW (fv (k+1) (xE (x.zA.length-(k+1)) (j-(k+1)))):=by
 have h6:=h.os.1;unfold zLI;rw[yP,bs,uG,Km,if_pos h2,bs,J6]
 congr 1
 rw[fv,zBv,<-Jh];have e1:zeros (k+1)++zeros (j-(k+1))=zeros j:=by grind[zeros,Jl]
 have e2:J1 x.zA.length (0:Int)=zeros j++0::zeros (x.zA.length-(j+1)):=by simp only[zeros];rw[<-Jt,Jl];grind
 grind[zEB]
theorem zRG{j:Nat}(h1:k+1<=j)(h2:j<x.zA.length):zJs (x.zA.length:Int) (j:Int)=iW (fv (k+1) (xE (x.zA.length-(k+1)) (j-(k+1)))):=zKh h hk h1 h2
 include hc
theorem zBw{v:Vec}(hv:V (suf x (k+1)) v):f_T x k (fv (k+1) v)=iW (fv (k+1) (sig (suf x (k+1)) (lvl x k) v)):=by
 have h6:=h.os.1;have ok:=h.okAt (k:=k+1) (by omega);have ok0:=h.okAt (k:=k) (by omega);rw[yC hk]at ok0;obtain⟨cD,aZ⟩:=zEV h.os (x.zA.length-(k+1)) (k+1) v (by omega) hv;have gy:(lvl x k).cs.length=x.zA.length-(k+1):=by rw[ok0.2.2.1,yK]
 have t2:=(h.tl k hk).2.1;have iJ:=h.cl;have hA:∀i,V (suf x (k+1)) (img (mul (suf x (k+1))) ((lvl x k).cs.take i) (v.take i) (zeros (suf x (k+1)).length)):=fun i=>
  kY (yU ok) _ _ (fun c hc=>ok0.2.2.2.1 c (by grind)) (wG ok)
 unfold f_T;rw[zDB h (by omega) hv,yP,bs,zY [],bs,zQ0 h (k:=k+1) (by omega)];have:=zQ (body:=zVA x k (fv (k+1) v) (x.zC.getD k [])) (r:=fv (k+1) (sig (suf x (k+1)) (lvl x k) v))
  (fun i=>(fv (k+1) (img (mul (suf x (k+1))) ((lvl x k).cs.take i) (v.take i) (zeros (suf x (k+1)).length)),(i:Int))) (x.zC.getD k []).length (fun i hi=>by
  have hr:=aZ i (by omega);obtain⟨c,c1,c2,c3,c4⟩:=zF7 h hk (i:=i);unfold zVA;simp only
  rw[yN hi,zK,c2,bs,zG,bs,zG,bs,show(k:Int)+1+(i:Int)=((k+1+i:Nat):Int)from by omega,fv,zMG,bs];rw[uA (S:=V (suf x (k+1))) (body:=zV9 x (zeros (k+1)++c) (at0 v i)) (fun u=>fv (k+1) u) (fun u=>mul (suf x (k+1)) u c) (at0 v i) hr.1 (by grind[yU]) (fun u q hu hq=>by
   unfold zV9;simp only
   rw[jc hq,zK,zIA h (by omega) hc hu c3,bs,zG,bs,cs]) (fun u hu=>by
   unfold zV9;simp) (hA i),bs,zG,bs,cs]
  rw[zC0 _ _ _ _ (by omega) (by omega),c4]) (by
  unfold zVA;simp only
  rw[qT,zM,Jo (by omega),Jo (by omega)];rfl)
 simp only[Ki,img]at this
 grind
theorem zDE{a b:Vec}(ha:V (suf x (k+1)) a):IsB (zLH (fv (k+1) a) (fv (k+1) b)) (a=b):=by
 have _:=hc;have h6:=h.os.1
 grind[zEW,zDB,IsB.of_bool,yBz]
theorem zMM{c:Vec}(pD:V (suf x (k+1)) c){e:Int}(e0:0<=e)(e1:e<=1000):zYx x ((k+1:Nat):Int) (fv (k+1) c) e=iW (fv (k+1) (pw (mul (suf x (k+1))) (zeros (suf x (k+1)).length) c e.toNat)):=by
 have h6:=h.os.1;have ok:=h.okAt (k:=k+1) (by omega);have G:=zI8 h (k:=k+1) (by omega) hc;have hA:=zQz h (k:=k+1);have pwV:∀a,V (suf x (k+1)) (pw (mul (suf x (k+1))) (zeros (suf x (k+1)).length) c a):=fun a=>tU G.toMon pD a
 unfold zYx;rw[yP,bs,zQ0 h (k:=k+1) (by omega)];obtain⟨r,r1,r2⟩:=zIB (body:=zRk x ((k+1:Nat):Int)) (Q:=fun r=>r=fv (k+1) (pw (mul (suf x (k+1))) (zeros (suf x (k+1)).length) c e.toNat))
  (fun s=> ∃(m a q:Nat),s=((m:Int),fv (k+1) (pw (mul (suf x (k+1))) (zeros (suf x (k+1)).length) c a),fv (k+1) (pw (mul (suf x (k+1))) (zeros (suf x (k+1)).length) c q))/\a+q*m=e.toNat/\m<=1000) (fun s=>s.1.toNat) (fun s ⟨m,a,q,hs,he,hm⟩=>by
   subst hs;unfold zRk;simp only
   by_cases hm0:m=0
   ·grind
   ·left
    have hr:xC (m:Int) 2=iW ((m%2:Nat):Int):=by rfl
    have hq:xV (m:Int) 2=iW ((m/2:Nat):Int):=by
     unfold xV;rw[if_neg (by decide),Gf (by omega)]
     grind[zG]
    have bg:=Lr m 2;have ae:mul (suf x (k+1)) (pw (mul (suf x (k+1))) (zeros (suf x (k+1)).length) c q) (pw (mul (suf x (k+1))) (zeros (suf x (k+1)).length) c q)=pw (mul (suf x (k+1))) (zeros (suf x (k+1)).length) c (q+q):=(zI4 G.toMon pD q q).symm;rw[jc,zK,hr,bs];rcases Nat.mod_two_eq_zero_or_one m with h2|h2
    ·rw[h2,show((((0:Nat):Int))==1)=ja from rfl,zM,hA _ _ (pwV q) (pwV q),bs,hq,bs,ae]
     refine⟨_,rfl,⟨m/2,a,q+q,rfl,?_,by omega⟩,by omega⟩
     grind
    ·rw[h2,show((((1:Nat):Int))==1)=iZ from rfl,zK,hA _ _ (pwV a) (pwV q),bs,hA _ _ (pwV q) (pwV q),bs,hq,bs,ae,<-zI4 G.toMon pD a q]
     refine⟨_,rfl,⟨m/2,a+q,q+q,rfl,?_,by omega⟩,by omega⟩
     grind) 1000000 (e,fv (k+1) (zeros (suf x (k+1)).length),fv (k+1) c) (by omega) ⟨e.toNat,0,1,by rw[zTO G.toMon pD,show((e.toNat:Nat):Int)=e from by omega];rfl,by omega,by omega⟩
 grind
end
def yEa(o:Option yW)(P:Prop):Prop:=(o=iW (yW.mk 0 0 0 0)/\P)\/ ∃r,o=iW r/\r.Kind≠0/\ ¬P
theorem kb{a b c d:Int}(h:a≠0):(yW.mk a b c d).Kind≠0:=h
abbrev KB(r:yW):Prop:=r.Kind≠0
theorem zC1{o:Option Bool}{P:Prop}{bad:yW}{i:Nat}{g:Option (Int⊕(Unit⊕yW))}(h:IsB o P)(hi:i<9223372036854775807)(hbad:bad.Kind≠0)
  (hg:g=o.bind fun r=>cond (!r) (iW (.inr (.inr bad))) ((rng ((i:Int)+1)).bind fun v=>iW (.inl v))):(g=iW (.inl ((i+1:Nat):Int))/\P)\/(∃r,g=iW (.inr (.inr r))/\KB r/\ ¬P):=by
 rcases uW h hi hg with h|⟨h1,h2⟩
 all_goals grind
section
variable {x:SPr} (h:Pres x) {k:Nat} (hk:k<x.zA.length) (hc:xU (suf x (k+1)))
 include h hk hc
theorem zIC:yEa (f_u x k) (LC x k):=by
 have h6:=h.os.1;have ok:=h.okAt (k:=k+1) (by omega);have G:=zI8 h (k:=k+1) (by omega) hc;obtain⟨w1,w2⟩:=yB0 h hk;have cR:∀v,V (suf x (k+1)) v->V (suf x (k+1)) (sig (suf x (k+1)) (lvl x k) v):=by grind[yAf]
 unfold f_u;rw[zG,bs,cs];rcases zML (body:=zVF x k) x.zA.length (k+1) (by omega) (fun j=>pw (mul (suf x (k+1))) (zeros (suf x (k+1)).length) ((lvl x k).cs.getD (j-(k+1)) []) (at0 x.zA j).toNat=sig (suf x (k+1)) (lvl x k) ((x.zJ.getD j []).drop (k+1))) KB (fun j h1 h2 _=>by
   obtain⟨c1,c2,c3⟩:=zAU h hk h1 h2;obtain⟨p1,p2⟩:=zTT h hk h1 h2;have fX:=(h.os.2 j h2).pos;refine zC1 (zDE h hk hc (tU G.toMon c3 (at0 x.zA j).toNat)) (by omega) (bad:=yW.mk 1 k j 0) (kb (by decide)) ?_;unfold zVF;rw[yN h2,zK,c1,bs,zG,bs,zG,bs,c2,bs,yJ h2,bs,zOA h (by omega) hc c3 (by omega) (by omega),bs,p1,bs,zBw h hk hc p2,bs]) (by
   unfold zVF;simp)with⟨g1,g2⟩|⟨r,j,j1,j2,g1,g2,g3⟩
 rotate_left
 ·rw[g1,bs]
  exact .inr ⟨r,rfl,g2,fun q=>g3 (q.c1 j j1 j2)⟩
 rw[g1,bs];simp only
 rw[bs];rcases zML (body:=zVH x k) x.zA.length (k+1) (by omega) (fun i=> ∀j,i+1<=j->j<x.zA.length->
   mul (suf x (k+1)) ((lvl x k).cs.getD (j-(k+1)) []) ((lvl x k).cs.getD (i-(k+1)) [])=mul (suf x (k+1)) ((lvl x k).cs.getD (i-(k+1)) []) (sig (suf x (k+1)) (lvl x k) (((x.zC.getD i []).getD (j-(i+1)) []).drop (k+1)))) KB (fun i h1 h2 _=>by
   obtain⟨c1,c2,c3⟩:=zAU h hk h1 h2;unfold zVH;rw[yN h2,zK,zG,bs,cs];rcases zML (body:=zVG x k i) x.zA.length (i+1) (by omega) (fun j=>mul (suf x (k+1)) ((lvl x k).cs.getD (j-(k+1)) []) ((lvl x k).cs.getD (i-(k+1)) [])=mul (suf x (k+1)) ((lvl x k).cs.getD (i-(k+1)) []) (sig (suf x (k+1)) (lvl x k) (((x.zC.getD i []).getD (j-(i+1)) []).drop (k+1)))) KB (fun j h3 h4 _=>by
     obtain⟨d1,d2,d3⟩:=zAU h hk (j:=j) (by omega) h4;obtain⟨e1,e2,e3⟩:=zTU h hk h1 h3 h4;obtain⟨q,q1,q2,q3⟩:=zDC h (by omega) hc d3 c3;refine zC1 ((zDE h hk hc (b:=sig (suf x (k+1)) (lvl x k) (((x.zC.getD i []).getD (j-(i+1)) []).drop (k+1))) q1).iff (Q:=mul (suf x (k+1)) ((lvl x k).cs.getD (j-(k+1)) []) ((lvl x k).cs.getD (i-(k+1)) [])=mul (suf x (k+1)) ((lvl x k).cs.getD (i-(k+1)) []) (sig (suf x (k+1)) (lvl x k) (((x.zC.getD i []).getD (j-(i+1)) []).drop (k+1)))) ?_) (by omega) (bad:=yW.mk 2 k i j) (kb (by decide)) ?_
     ·exact⟨by grind,fun e=>G.cancel_l c3 q1 (cR _ e3) (by rw[q2,e])⟩
     ·unfold zVG
      rw[yN h4,zK,d1,bs,zG,bs,zG,bs,d2,bs,bs,zG,bs,zG,bs,c2,bs,q3,bs,e1,bs,zG,bs,zG,bs,e2,bs,zBw h hk hc e3,bs]) (by
     unfold zVG;simp)with⟨g1,g2⟩|⟨r,j,j1,j2,g1,g2,g3⟩
   ·grind
   grind) (by
   unfold zVH;simp)with⟨k1,k2⟩|⟨r,j,j1,j2,k1,k2,k3⟩
 rotate_left
 ·rw[k1,bs]
  exact .inr ⟨r,rfl,k2,fun q=>k3 (q.c2 j j1 j2)⟩
 rw[k1,bs];simp only
 rw[w1,bs,zBw h hk hc w2,bs];rcases zDE h hk hc (b:=(lvl x k).w) (cR _ w2)with⟨m1,m2⟩|⟨m1,m2⟩
 rotate_left
 ·rw[m1,bs,Kb,zK]
  exact .inr ⟨_,rfl,kb (by decide),fun q=>m2 q.c3⟩
 rw[m1,bs,Jq,zM,bs];rcases zML (body:=zVJ x k (fv (k+1) (lvl x k).w)) x.zA.length (k+1) (by omega) (fun j=>mul (suf x (k+1)) (lvl x k).w (iter (lvl x k).o.toNat (sig (suf x (k+1)) (lvl x k)) (xE (x.zA.length-(k+1)) (j-(k+1))))=mul (suf x (k+1)) (xE (x.zA.length-(k+1)) (j-(k+1))) (lvl x k).w) KB (fun j h1 h2 _=>by
   have hU:=zO9 h (k:=k+1) (by omega) hc (i:=j-(k+1)) (by omega);have fX:=(h.os.2 k hk).pos;obtain⟨q,q1,q2,q3⟩:=zDC h (k:=k+1) (by omega) hc hU w2;have ew:V (suf x (k+1)) (iter (lvl x k).o.toNat (sig (suf x (k+1)) (lvl x k)) (xE (x.zA.length-(k+1)) (j-(k+1)))):=vS cR _ hU;refine zC1 ((zDE h hk hc (b:=q) ew).iff ⟨by grind,fun e=>G.cancel_l w2 ew q1 (by rw[e,q2])⟩) (by omega) (bad:=yW.mk 4 k j 0) (kb (by decide)) ?_;unfold zVJ;rw[yN h2,zK,zKh h hk h1 h2,bs,yJ hk,bs];rw[uA (S:=V (suf x (k+1))) (body:=zVI x k (at0 x.zA k)) (fun u=>fv (k+1) u) (sig (suf x (k+1)) (lvl x k)) (at0 x.zA k) (by omega) cR (fun u i hu hi=>by
    unfold zVI;simp only
    rw[jc hi,zK,zBw h hk hc hu,bs,zG,bs,cs]) (fun u hu=>by
    unfold zVI;simp) hU,bs,bs,q3,bs]
   rfl) (by
   unfold zVJ;simp)with⟨n1,n2⟩|⟨r,j,j1,j2,n1,n2,n3⟩
 ·rw[n1,bs]
  exact .inl ⟨rfl,⟨g2,k2,m2,n2⟩⟩
 ·rw[n1,bs]
  exact .inr ⟨r,rfl,n2,fun q=>n3 (q.c4 j j1 j2)⟩
theorem zOB:yEa (f_v x k) (LC x k):=by
 have h6:=h.os.1;have ok:=h.okAt (k:=k+1) (by omega);have G:=zI8 h (k:=k+1) (by omega) hc;obtain⟨w1,w2⟩:=yB0 h hk;have hA:=zQz h (k:=k+1);have hI:=zO7 h hk;have cR:∀v,V (suf x (k+1)) v->V (suf x (k+1)) (sig (suf x (k+1)) (lvl x k) v):=by grind[yAf]
 have eqB:∀{a b:Vec},V (suf x (k+1)) a->IsB (zGU (fv (k+1) a) (fv (k+1) b)) (a=b):=fun ha=>zDE h hk hc ha
 unfold f_v;rw[zG,bs,cs];rcases zML (body:=zVr x k) x.zA.length (k+1) (by omega) (fun j=>pw (mul (suf x (k+1))) (zeros (suf x (k+1)).length) ((lvl x k).cs.getD (j-(k+1)) []) (at0 x.zA j).toNat=sig (suf x (k+1)) (lvl x k) ((x.zJ.getD j []).drop (k+1))) KB (fun j h1 h2 _=>by
   obtain⟨c1,c2,c3⟩:=zAU h hk h1 h2;obtain⟨p1,p2⟩:=zTT h hk h1 h2;have fX:=(h.os.2 j h2).pos;refine zC1 (eqB (tU G.toMon c3 (at0 x.zA j).toNat)) (by omega) (bad:=yW.mk 1 k j 0) (kb (by decide)) ?_;unfold zVr;rw[yN h2,zK,zG,bs,cs,c1,bs,zG,bs,zG,bs,c2,bs,yJ h2,bs,zMM h hk hc c3 (by omega) (by omega),bs,p1,bs,hI _ p2,bs]) (by
   unfold zVr;simp)with⟨g1,g2⟩|⟨r,j,j1,j2,g1,g2,g3⟩
 rotate_left
 ·rw[g1,bs]
  exact .inr ⟨r,rfl,g2,fun q=>g3 (q.c1 j j1 j2)⟩
 rw[g1,bs];simp only
 rw[bs];rcases zML (body:=zVt x k) x.zA.length (k+1) (by omega) (fun i=> ∀j,i+1<=j->j<x.zA.length->
   mul (suf x (k+1)) ((lvl x k).cs.getD (j-(k+1)) []) ((lvl x k).cs.getD (i-(k+1)) [])=mul (suf x (k+1)) ((lvl x k).cs.getD (i-(k+1)) []) (sig (suf x (k+1)) (lvl x k) (((x.zC.getD i []).getD (j-(i+1)) []).drop (k+1)))) KB (fun i h1 h2 _=>by
   obtain⟨c1,c2,c3⟩:=zAU h hk h1 h2;unfold zVt;rw[yN h2,zK,zG,bs,cs];rcases zML (body:=zVs x k i) x.zA.length (i+1) (by omega) (fun j=>mul (suf x (k+1)) ((lvl x k).cs.getD (j-(k+1)) []) ((lvl x k).cs.getD (i-(k+1)) [])=mul (suf x (k+1)) ((lvl x k).cs.getD (i-(k+1)) []) (sig (suf x (k+1)) (lvl x k) (((x.zC.getD i []).getD (j-(i+1)) []).drop (k+1)))) KB (fun j h3 h4 _=>by
     obtain⟨d1,d2,d3⟩:=zAU h hk (j:=j) (by omega) h4;obtain⟨e1,e2,e3⟩:=zTU h hk h1 h3 h4;refine zC1 (eqB (yU ok d3 c3)) (by omega) (bad:=yW.mk 2 k i j) (kb (by decide)) ?_;unfold zVs;rw[yN h4,zK,d1,bs,zG,bs,zG,bs,c2,bs,bs,zG,bs,zG,bs,d2,bs,e1,bs,zG,bs,zG,bs,e2,bs,hI _ e3,bs,zG,bs,cs,hA _ _ d3 c3,bs,bs,hA _ _ c3 (cR _ e3),bs]) (by
     unfold zVs;simp)with⟨g1,g2⟩|⟨r,j,j1,j2,g1,g2,g3⟩
   ·grind
   grind) (by
   unfold zVt;simp)with⟨k1,k2⟩|⟨r,j,j1,j2,k1,k2,k3⟩
 rotate_left
 ·rw[k1,bs]
  exact .inr ⟨r,rfl,k2,fun q=>k3 (q.c2 j j1 j2)⟩
 rw[k1,bs];simp only
 rw[w1,bs,hI _ w2,bs];rcases eqB (b:=(lvl x k).w) (cR _ w2)with⟨m1,m2⟩|⟨m1,m2⟩
 rotate_left
 ·rw[m1,bs,Kb,zK]
  exact .inr ⟨_,rfl,kb (by decide),fun q=>m2 q.c3⟩
 rw[m1,bs,Jq,zM,bs];rcases zML (body:=zVv x k (fv (k+1) (lvl x k).w)) x.zA.length (k+1) (by omega) (fun j=>mul (suf x (k+1)) (lvl x k).w (iter (lvl x k).o.toNat (sig (suf x (k+1)) (lvl x k)) (xE (x.zA.length-(k+1)) (j-(k+1))))=mul (suf x (k+1)) (xE (x.zA.length-(k+1)) (j-(k+1))) (lvl x k).w) KB (fun j h1 h2 _=>by
   have hU:=zO9 h (k:=k+1) (by omega) hc (i:=j-(k+1)) (by omega);have fX:=(h.os.2 k hk).pos;have ew:V (suf x (k+1)) (iter (lvl x k).o.toNat (sig (suf x (k+1)) (lvl x k)) (xE (x.zA.length-(k+1)) (j-(k+1)))):=vS cR _ hU;refine zC1 (eqB (yU ok w2 ew)) (by omega) (bad:=yW.mk 4 k j 0) (kb (by decide)) ?_;unfold zVv;rw[yN h2,zK,zRG h hk h1 h2,bs];rw[uA (S:=V (suf x (k+1))) (body:=zVu x k) (fun u=>fv (k+1) u) (sig (suf x (k+1)) (lvl x k)) (at0 x.zA k) (by omega) cR (fun u i hu hi=>by
    unfold zVu;simp only
    rw[yJ hk,bs,jc hi,zK,hI _ hu,bs,zG,bs,cs]) (fun u hu=>by
    unfold zVu;simp only
    rw[yJ hk,bs,jb (by omega),zM]) hU,bs,zG,bs,cs]
   have ho:(lvl x k).o=at0 x.zA k:=rfl;rw[<-ho,hA _ _ w2 ew,bs,bs,hA _ _ hU w2,bs]) (by
   unfold zVv;simp)with⟨n1,n2⟩|⟨r,j,j1,j2,n1,n2,n3⟩
 ·rw[n1,bs]
  exact .inl ⟨rfl,⟨g2,k2,m2,n2⟩⟩
 ·rw[n1,bs]
  exact .inr ⟨r,rfl,n2,fun q=>n3 (q.c4 j j1 j2)⟩
end
theorem zG4{m:Vec->Vec->Vec}:∀(i:Nat)(cs:List Vec)(w acc:Vec),i<=cs.length->img m cs (zeros i++w) acc=img m (cs.drop i) w acc
 |0,cs,w,acc,_=>rfl
 |i+1,[],w,acc,h=>by simp at h
 |i+1,c::cs,w,acc,h=>by show img m (c::cs) (0::(zeros i++w)) acc=_;simp only[img,Ge,iter,List.drop_succ_cons];exact zG4 i cs w acc (by grind)
theorem zID{x:SPr}{v:List Int}{j k:Nat}(h:Exp x.zA v j)(hj:j<x.zA.length)(hk:k<=j+1:=by omega):v.drop k=zeros (j+1-k)++v.drop (j+1):=by
 have:=zB1 h hj
 grind[zeros]
section
variable {x:SPr} (h:zEA x) {k:Nat} (hk:k<x.zA.length)
 include h hk
theorem zB2:(lvl x k).cs.length=x.zA.length-(k+1):=by have ok0:=h.okAt (k:=k) (by omega);rw[yC hk]at ok0;rw[ok0.2.2.1,yK]
theorem zXP{j:Nat}(h1:k+1<=j)(h2:j<x.zA.length):sig (suf x (k+1)) (lvl x k) ((x.zJ.getD j []).drop (k+1))=img (mul (suf x (k+1))) ((lvl x k).cs.drop (j-k)) (lvl x j).w (zeros (suf x (k+1)).length):=by have t1:=(h.tl j h2).1;have gy:=zB2 h hk;rw[zID t1 h2,sig,zG4 _ _ _ _ (by omega),show j+1-(k+1)=j-k from by omega];rfl
theorem zQ1:∀(d i:Nat),k+1+i+d=x.zA.length->(Rel (mul (suf x (k+1))) (zeros (suf x (k+1)).length) (suf x (k+1+i)) ((lvl x k).cs.drop i)↔
  (∀j,k+1+i<=j->j<x.zA.length->pw (mul (suf x (k+1))) (zeros (suf x (k+1)).length) ((lvl x k).cs.getD (j-(k+1)) []) (at0 x.zA j).toNat=sig (suf x (k+1)) (lvl x k) ((x.zJ.getD j []).drop (k+1)))/\
  (∀a,k+1+i<=a->a<x.zA.length-> ∀j,a+1<=j->j<x.zA.length->
   mul (suf x (k+1)) ((lvl x k).cs.getD (j-(k+1)) []) ((lvl x k).cs.getD (a-(k+1)) [])=mul (suf x (k+1)) ((lvl x k).cs.getD (a-(k+1)) []) (sig (suf x (k+1)) (lvl x k) (((x.zC.getD a []).getD (j-(a+1)) []).drop (k+1)))))
 |0,i,hi=>by
  have gy:=zB2 h hk;rw[vN (x:=x) (k:=k+1+i),Gv (by omega)];simp only[Rel,true_iff]
  grind
 |d+1,i,hi=>by
  have gy:=zB2 h hk;have ih:=zQ1 d (i+1) (by omega);rw[show k+1+(i+1)=k+1+i+1 from by omega]at ih;have hj:k+1+i<x.zA.length:=by omega
  have hg:(lvl x k).cs.drop i=(lvl x k).cs.getD i []::(lvl x k).cs.drop (i+1):=by rw[Gz (by omega),J2,J5 (by omega)];rfl
  rw[yC hj,hg];simp only[Rel];rw[ih];have e1:=zXP h hk (j:=k+1+i) (by omega) hj;rw[show k+1+i-k=i+1 from by omega]at e1;have ho:(lvl x (k+1+i)).o=at0 x.zA (k+1+i):=rfl;rw[ho,<-e1];have e2:∀j,k+1+i+1<=j->j<x.zA.length-> ∀dd,(lvl x (k+1+i)).cs[j-(k+1+i+1)]? =iW dd->img (mul (suf x (k+1))) ((lvl x k).cs.drop (i+1)) dd (zeros (suf x (k+1)).length)=sig (suf x (k+1)) (lvl x k) (((x.zC.getD (k+1+i) []).getD (j-(k+1+i+1)) []).drop (k+1)):=fun j h1 h2 dd hdd=>by
   obtain⟨_,t2,t3⟩:=h.tl (k+1+i) hj;have t:=t3 (j-(k+1+i+1)) (by omega);rw[zID t hj,sig,zG4 _ _ _ _ (by omega),show k+1+i+1-(k+1)=i+1 from by omega]
   congr 1
   simp only[lvl,Jx,Kl]at hdd
   grind
  have e3:∀j,k+1+i+1<=j->j<x.zA.length->((lvl x k).cs.drop (i+1))[j-(k+1+i+1)]? =iW ((lvl x k).cs.getD (j-(k+1)) [])/\ ∃dd,(lvl x (k+1+i)).cs[j-(k+1+i+1)]? =iW dd:=fun j h1 h2=>by
   have iJ:=zB2 h hj;refine⟨?_,?_⟩
   ·rw[Lt,show i+1+(j-(k+1+i+1))=j-(k+1)from by omega,J2,J5 (by omega)];rfl
   ·exact⟨_,J5 (by omega)⟩
  constructor
  ·rintro⟨a1,a2,a3,a4⟩
   refine⟨fun j h1 h2=>?_,fun a h1 h2 j h3 h4=>?_⟩
   ·rcases Jk (k+1+i) j with gJ|hge
    ·grind
    ·obtain rfl:j=k+1+i:=by omega
     rw[show k+1+i-(k+1)=i from by omega];exact a1
   ·rcases Jk (k+1+i) a with gJ|hge
    ·exact a4 a (by omega) h2 j h3 h4
    ·obtain rfl:a=k+1+i:=by omega
     obtain⟨f1,dd,f2⟩:=e3 j (by omega) h4;have:=a2 _ _ _ f1 f2;rw[e2 j (by omega) h4 dd f2]at this;rw[show k+1+i-(k+1)=i from by omega];exact this
  ·rintro⟨a1,a2⟩
   refine⟨?_,fun kk c dd h1 h2=>?_,by grind,by grind⟩
   ·have:=a1 (k+1+i) (by omega) hj
    rw[show k+1+i-(k+1)=i from by omega]at this;exact this
   ·have gJ:kk<x.zA.length-(k+1+i+1):=by
     have:=(Jm.1 h1).1;rw[Kv]at this;omega
    have g:=a2 (k+1+i) (by omega) hj (k+1+i+1+kk) (by omega) (by omega);obtain⟨f1,_⟩:=e3 (k+1+i+1+kk) (by omega) (by omega);rw[show k+1+i+1+kk-(k+1+i+1)=kk from by omega]at f1 g;rw[h1]at f1;have f1:=Kt.inj f1;have g2:=e2 (k+1+i+1+kk) (by omega) (by omega) dd (by rw[show k+1+i+1+kk-(k+1+i+1)=kk from by omega];exact h2);rw[show k+1+i+1+kk-(k+1+i+1)=kk from by omega]at g2;rw[g2,f1];rw[show k+1+i-(k+1)=i from by omega]at g;exact g
theorem qZ:xU (suf x k)↔xU (suf x (k+1))/\LC x k:=by
 have hr:=zQ1 h hk (x.zA.length-(k+1)) 0 (by omega);have hl:=yK x (k+1);rw[Hq,Qy]at hr;rw[yC hk];simp only[xU];rw[hr];constructor
 ·rintro⟨a,⟨b1,b2⟩,c,d⟩
  refine⟨a,⟨b1,b2,c,fun j h1 h2=>?_⟩⟩
  grind
 ·rintro⟨a,b⟩
  refine⟨a,⟨b.c1,b.c2⟩,b.c3,fun j hj=>?_⟩;have:=b.c4 (k+1+j) (by omega) (by omega);rw[show k+1+j-(k+1)=j from by omega]at this
  rwa [hl]
end
theorem zAt{x:SPr}(h:xU (suf x 0))(k:Nat):xU (suf x k):=by
 have:=zF8 h k
 grind
def zBB(x:SPr):Prop:=Pres x/\xU (suf x 0)/\sJ x
theorem zFA{x:SPr}(hl:x.zA.length<=1048576):IsB (zY2 x) (zBB x):=by
 unfold zY2;rcases zEz hl with⟨h1,h2⟩|⟨h1,h2⟩
 ·have h6:=h2.os.1
  rw[h1,bs,zK];unfold zSt;obtain⟨r,r1,r2⟩:=uU (body:=zHs x) (Q:=fun r=> ∃s:Nat,r=(s:Int)/\xU (suf x s)/\(s=0\/ ¬xU (suf x (s-1)))) (fun i s=>i<=x.zA.length/\s=((x.zA.length-i:Nat):Int)/\xU (suf x (x.zA.length-i))) x.zA.length (fun i s hi ⟨_,hs,gY⟩=>by
    subst hs;have hk:x.zA.length-i-1<x.zA.length:=by omega
    have e9:x.zA.length-(i+1)=x.zA.length-i-1:=by omega
    rw[e9];have e8:i+1<=x.zA.length:=by omega
    rw[show x.zA.length-i=x.zA.length-i-1+1 from by omega]at gY ⊢
    have px:=zIC h2.toPres hk gY;have pA:=qZ h2.toPres.w hk
    generalize x.zA.length-i-1=k at*
    unfold zHs;rw[jc,zK,zG,bs,show(((k+1:Nat):Int)-1)=(k:Int)from by omega];rcases px with⟨g1,g2⟩|⟨r,g1,g2,g3⟩
    ·simp_all
    grind) (fun s ⟨_,hs,gY⟩=>by
    rw[Kx]at hs gY;subst hs;unfold zHs
    grind) (s:=(x.zA.length:Int)) ⟨by omega,by rfl,by rw[Uo,vN];simp only[xU]⟩
  obtain⟨s,rfl,gY,hs⟩:=r2;rw[r1,bs,bs];cases s with
  |zero=>exact .inl ⟨rfl,h2.toPres,gY,h2⟩
  |succ s=>
   refine .inr ⟨?_,fun q=>?_⟩
   ·congr 1
   ·rcases hs with hs|hs
    ·omega
    ·exact hs (zAt q.2.1 _)
 ·rw[h1,bs,zM]
  exact .inr ⟨rfl,fun q=>h2 q.2.2⟩
theorem zIE{x:SPr}(hl:x.zA.length<=1048576:=by omega):IsB (zVw x) (zBB x):=by
 unfold zVw;rcases tH hl with⟨h1,h2⟩|⟨h1,h2⟩
 ·have h6:=h2.os.1
  rw[h1,bs,zK];unfold yCc yCb;rw[zG,bs];obtain⟨r,r1,r2⟩:=uU (body:=zN6 x) (Q:=fun r=>(r=.inl ()/\xU (suf x 0))\/ ∃f,r=.inr f/\f.Kind≠0/\ ¬xU (suf x 0)) (fun i s=>i<=x.zA.length/\s=((x.zA.length-i:Nat):Int)-1/\xU (suf x (x.zA.length-i))) x.zA.length (fun i s hi ⟨_,hs,gY⟩=>by
    subst hs;have hk:x.zA.length-i-1<x.zA.length:=by omega
    have e9:x.zA.length-(i+1)=x.zA.length-i-1:=by omega
    rw[e9];have e8:i+1<=x.zA.length:=by omega
    rw[show x.zA.length-i=x.zA.length-i-1+1 from by omega]at gY ⊢
    have px:=zOB h2.toPres hk gY;have pA:=qZ h2.toPres.w hk
    generalize x.zA.length-i-1=k at*
    unfold zN6;rw[show(((k+1:Nat):Int)-1)=(k:Int)from by omega,jc,zK];rcases px with⟨g1,g2⟩|⟨r,g1,g2,g3⟩
    ·left
     rw[g1,bs];simp only
     rw[show((0:Int) != 0)=ja from rfl,zM,zG,bs]
     grind
    ·right
     rw[g1,bs,show(r.Kind != 0)=iZ from by grind,zK];exact⟨_,rfl,.inr ⟨r,rfl,g2,by grind[zAt]⟩⟩) (fun s ⟨_,hs,gY⟩=>by
    rw[Kx]at hs gY;subst hs;unfold zN6
    grind) (s:=(x.zA.length:Int)-1) ⟨by omega,by rfl,by rw[Uo,vN];simp only[xU]⟩
  rw[r1,bs];rcases r2 with⟨rfl,q⟩|⟨f,rfl,g1,g2⟩
  ·exact .inl ⟨rfl,h2.toPres,q,h2⟩
  ·simp only
   rw[bs,show(f.Kind==0)=ja from by grind];exact .inr ⟨rfl,fun q=>g2 q.2.1⟩
 ·rw[h1,bs,zM]
  exact .inr ⟨rfl,fun q=>h2 q.2.2⟩
end Go.Pl

namespace Go.Pl
open Go Go.Ab Go.Wk
abbrev Mx:=List (List Int)
def S:Nat->(Nat->Int)->Int
 |0,_=>0
 |n+1,f=>S n f+f n
theorem xK{n:Nat}{f g:Nat->Int}(h:∀i,i<n->f i=g i):S n f=S n g:=by
 induction n with
 |zero=>rfl
 |succ n ih=>grind[S]
theorem zAV{p:Int}{f g:Nat->Int}:∀{n:Nat},(∀i,i<n->f i%p=g i%p)->S n f%p=S n g%p
 |0,_=>rfl
 |n+1,h=>by simp only[S];rw[Kd,zAV (n:=n) fun i hi=>h i (by omega),h n (by omega),<-Kd]
theorem tZ:∀n:Nat,S n (fun _=>0)=0
 |0=>rfl
 |n+1=>by simp only[S,tZ n];rfl
theorem zDF{f g:Nat->Int}:∀n:Nat,S n (fun i=>f i+g i)=S n f+S n g
 |0=>rfl
 |n+1=>by simp only[S,zDF n];omega
theorem zMN{f:Nat->Int}(a:Int):∀n:Nat,S n (fun i=>f i*a)=S n f*a
 |0=>by simp[S]
 |n+1=>by simp only[S,zMN a n,Int.add_mul]
theorem zDG{f:Nat->Int}(a:Int):∀n:Nat,S n (fun i=>a*f i)=a*S n f
 |0=>by simp[S]
 |n+1=>by simp only[S,zDG a n,Int.mul_add]
theorem zIF{f:Nat->Nat->Int}(m:Nat):∀n:Nat,S n (fun i=>S m (fun j=>f i j))=S m (fun j=>S n (fun i=>f i j))
 |0=>by simp only[S];grind[tZ]
 |n+1=>by simp only[S];rw[zIF m n,zDF]
theorem zBo{f:Nat->Int}{k:Nat}:∀{n:Nat},k<n->(∀i,i<n->i≠k->f i=0)->S n f=f k
 |0,h,_=>by omega
 |n+1,h,hz=>by
  simp only[S]
  by_cases hk:k=n
  ·subst hk
   rw[xK (g:=fun _=>0) fun i hi=>hz i (by omega) (by omega),tZ];omega
  ·rw[zBo (n:=n) (by omega) fun i hi=>hz i (by omega),hz n (by omega) (by omega)];omega
def mkv(D:Nat)(f:Nat->Int):List Int:=(J8 D).map f
theorem zU(D:Nat)(f:Nat->Int):(mkv D f).length=D:=by simp[mkv]
theorem zEj{D:Nat}{f:Nat->Int}{i:Nat}(h:i<D):(mkv D f)[i]? =iW (f i):=by simp[mkv,h]
theorem zT{D:Nat}{f:Nat->Int}{i:Nat}(h:i<D:=by omega):at0 (mkv D f) i=f i:=by rw[at0,J2,zEj h];rfl
theorem zV{D:Nat}{f g:Nat->Int}(h:∀i,i<D->f i=g i):mkv D f=mkv D g:=by grind[mkv,Uc]
theorem qJ{D:Nat}{f:Nat->Int}{j:Nat}{a:Int}:(mkv D f).set j a=mkv D (fun i=>if i=j then a else f i):=by
 apply Kw;intro i;rw[Jau,zU]
 by_cases hi:i<D
 ·by_cases gR:j=i
  ·subst gR;rw[if_pos rfl,if_pos hi,zEj hi,if_pos rfl]
  ·rw[if_neg gR,zEj hi,zEj hi,if_neg fun h=>gR h.symm]
 ·have h1:∀g:Nat->Int,(mkv D g)[i]? =iY:=by grind[zU]
  grind
theorem wI{v:List Int}{D:Nat}(h:v.length=D):v=mkv D (at0 v):=by
 apply Kw;intro i
 by_cases hi:i<D
 ·rw[zEj hi,at0,J2,J5 (by omega)];rfl
 grind[zU]
theorem uB(D:Nat):J1 D (0:Int)=mkv D (fun _=>0):=by
 apply Kw
 grind[zEj,zU]
abbrev ent(B:Mx)(l j:Nat):Int:=at0 (B.getD l []) j
def xG(p:Int)(D:Nat)(r:List Int)(B:Mx):List Int:=mkv D fun j=>S D (fun l=>at0 r l*ent B l j)%p
def PM(p:Int)(D:Nat)(A B:Mx):Mx:=A.map fun r=>xG p D r B
def idM(D:Nat):Mx:=(J8 D).map fun i=>mkv D fun j=>if j=i then 1 else 0
def Row(p:Int)(D:Nat)(r:List Int):Prop:=r.length=D/\ ∀i,i<D->0<=at0 r i/\at0 r i<=p-1
def Mat(p:Int)(D:Nat)(A:Mx):Prop:=A.length=D/\ ∀i,i<D->Row p D (A.getD i [])
theorem zCO{p:Int}{D i:Nat}{A B:Mx}(h:i<A.length:=by omega):(PM p D A B).getD i []=xG p D (A.getD i []) B:=by grind[PM]
theorem uV{p:Int}{D:Nat}{A B:Mx}:(PM p D A B).length=A.length:=by simp[PM]
theorem zDH{p:Int}{D:Nat}{A B:Mx}(hp:0<p)(hA:A.length=D):Mat p D (PM p D A B):=by refine⟨by rw[uV,hA],fun i hi=>?_⟩;rw[zCO];refine⟨by rw[xG,zU],fun j hj=>?_⟩;rw[xG,zT hj];have h1:=Kr (S D fun l=>at0 (A.getD i []) l*ent B l j) (show p≠0 by omega);have h2:=Ke (S D fun l=>at0 (A.getD i []) l*ent B l j) hp;omega
theorem zOC{p:Int}{D i j:Nat}{A B:Mx}(hA:A.length=D)(hi:i<D)(hj:j<D):ent (PM p D A B) i j=S D (fun l=>ent A i l*ent B l j)%p:=by rw[ent,zCO,xG,zT hj]
theorem zG5{D:Nat}{A B:Mx}(hA:A.length=D)(hB:B.length=D)(h:∀i,i<D->A.getD i []=B.getD i []):A=B:=by
 apply Kw
 grind
theorem zMO{p:Int}{D:Nat}{A B C:Mx}(hA:A.length=D)(hB:B.length=D):PM p D (PM p D A B) C=PM p D A (PM p D B C):=by
 refine zG5 (by rw[uV,uV,hA]) (by rw[uV,hA]) fun i hi=>?_
 rw[zCO (A:=PM p D A B) (by rw[uV];omega),zCO (A:=A) (B:=PM p D B C)];unfold xG;refine zV fun j hj=>?_
 have e1:S D (fun l=>at0 ((PM p D A B).getD i []) l*ent C l j)%p=S D (fun l=>S D (fun q=>ent A i q*ent B q l)*ent C l j)%p:=zAV fun l hl=>by
  have:=zOC (p:=p) (B:=B) hA hi hl;simp only[ent]at this ⊢
  rw[this,Ju,Jy,<-Ju]
 have e2:S D (fun l=>at0 (A.getD i []) l*ent (PM p D B C) l j)%p=S D (fun q=>ent A i q*S D (fun l=>ent B q l*ent C l j))%p:=zAV fun q hq=>by rw[zOC hB hq hj,Ju,Jy,<-Ju]
 rw[e1,e2]
 congr 1
 have e3:(fun l=>S D (fun q=>ent A i q*ent B q l)*ent C l j)=fun l=>S D (fun q=>ent A i q*ent B q l*ent C l j):=funext fun l=>(zMN _ _).symm
 have e4:(fun q=>ent A i q*S D (fun l=>ent B q l*ent C l j))=fun q=>S D (fun l=>ent A i q*ent B q l*ent C l j):=funext fun q=>by rw[<-zDG];exact xK fun l _=>by rw[Hm]
 rw[e3,e4];exact zIF D D
theorem qC(D:Nat):(idM D).length=D:=by simp[idM]
theorem zEk{D i:Nat}(h:i<D):(idM D).getD i []=mkv D fun j=>if j=i then 1 else 0:=by simp[idM,J2,h]
theorem sS{p:Int}{D:Nat}(hp:2<=p:=by omega):Mat p D (idM D):=by
 refine⟨qC D,fun i hi=>?_⟩;rw[zEk hi];refine⟨zU _ _,fun j hj=>?_⟩
 grind[zT]
theorem tM{p a:Int}(h:0<=a/\a<=p-1):a%p=a:=K5 h.1 (by omega)
theorem zBU{p:Int}{D:Nat}{B:Mx}(hB:Mat p D B):PM p D (idM D) B=B:=by
 refine zG5 (by rw[uV,qC]) hB.1 fun i hi=>?_
 rw[zCO (by grind[qC]),zEk hi,xG];obtain⟨h1,h2⟩:=hB.2 i hi;refine Eq.trans (zV fun j hj=>?_) (wI h1).symm;rw[zBo (k:=i) hi fun l hl gk=>by rw[zT hl,if_neg gk,U0],zT hi,if_pos rfl,Qm]
 grind[tM]
theorem zDI{p:Int}{D:Nat}{A:Mx}(hA:Mat p D A):PM p D A (idM D)=A:=by
 refine zG5 (by rw[uV,hA.1]) hA.1 fun i hi=>?_
 rw[zCO (by rw[hA.1];exact hi),xG];obtain⟨h1,h2⟩:=hA.2 i hi;refine Eq.trans (zV fun j hj=>?_) (wI h1).symm;rw[zBo (k:=j) hj fun l hl gk=>by rw[ent,zEk hl,zT hj,if_neg (fun h=>gk h.symm),Lp],ent,zEk hj,zT hj,if_pos rfl,H2]
 grind[tM]
theorem zTV{p:Int}{D i j:Nat}{B:Mx}(hB:Mat p D B)(hi:i<D)(hj:j<D):ixO B (i:Int)=iW (B.getD i [])/\ixO (B.getD i []) (j:Int)=iW (ent B i j)/\(B.getD i []).length=D/\0<=ent B i j/\ent B i j<=p-1:=by
 obtain⟨h1,h2⟩:=hB.2 i hi
 grind[zY]
def acc(p:Int)(D i:Nat)(r:List Int)(B:Mx):List Int:=mkv D fun j=>S i (fun l=>at0 r l*ent B l j)%p
def zE0(p:Int)(D i k:Nat)(r:List Int)(B:Mx):List Int:=mkv D fun j=>if j<k then S (i+1) (fun l=>at0 r l*ent B l j)%p else S i (fun l=>at0 r l*ent B l j)%p
theorem zKi{p:Int}{D i:Nat}{r:List Int}{B:Mx}:zE0 p D i 0 r B=acc p D i r B:=rfl
theorem zKj{p:Int}{D i:Nat}{r:List Int}{B:Mx}:zE0 p D i D r B=acc p D (i+1) r B:=zV (by omega)
theorem zMP{p:Int}{D i k:Nat}{r:List Int}{B:Mx}(hk:k<D){a:Int}(ha:a=(at0 (zE0 p D i k r B) k+at0 r i*ent B i k)%p):(zE0 p D i k r B).set k a=zE0 p D i (k+1) r B:=by
 subst ha;simp only[zE0];rw[qJ,zT hk,if_neg (by omega)];refine zV fun j hj=>?_
 by_cases hjk:j=k
 ·subst hjk
  rw[if_pos rfl,if_pos (by omega)]
  grind[S,Jak]
 omega
theorem zMQ{p:Int}{D i k j:Nat}{r:List Int}{B:Mx}(hp:0<p)(hj:j<D):0<=at0 (zE0 p D i k r B) j/\at0 (zE0 p D i k r B) j<=p-1:=by
 rw[zE0,zT hj];split
 ·have h1:=Kr (S (i+1) fun l=>at0 r l*ent B l j) (show p≠0 by omega)
  have h2:=Ke (S (i+1) fun l=>at0 r l*ent B l j) hp;omega
 ·have h1:=Kr (S i fun l=>at0 r l*ent B l j) (show p≠0 by omega)
  have h2:=Ke (S i fun l=>at0 r l*ent B l j) hp;omega
theorem zIG{p:Int}{D i k:Nat}{r:List Int}{B:Mx}:(zE0 p D i k r B).length=D:=zU _ _
theorem zQ2{p:Int}{D i k j:Nat}{r:List Int}{B:Mx}(hj:j<D):ixO (zE0 p D i k r B) (j:Int)=iW (at0 (zE0 p D i k r B) j):=by grind[yJ,zIG]
theorem zMR{p:Int}{D:Nat}{r:List Int}{B:Mx}:J1 D (0:Int)=acc p D 0 r B:=by rw[uB];rfl
theorem zKk{a b p:Int}(hp:p<=7)(ha:0<=a/\a<=p-1)(hb:0<=b/\b<=p-1):0<=a*b/\a*b<=36:=by have h1:0<=a*b:=Hz ha.1 hb.1;have h2:a*b<=6*6:=Ln (by omega) (by omega) hb.1 (by omega);omega
section
variable {p:Int}{D:Nat} (hp:Prime p) (hD:D<=8)
 include hp hD
theorem zCP{r:List Int}{B:Mx}(hr:Row p D r)(hB:Mat p D B):f_K p r B (D:Int)=iW (xG p D r B):=by
 have h7:=hp.pos;have aU:=hB.1;have ft:=hr.1;unfold f_K;rw[yP,bs,zMR (p:=p) (r:=r) (B:=B)];have:=zQ (body:=zPk p r B) (r:=acc p D D r B) (fun i=>(acc p D i r B,(i:Int))) D (fun i hi=>by
  have dX:=hr.2 i hi;unfold zPk;simp only
  rw[ft,aU,yN hi,zK,zK];have inner:=zQ (body:=zSp p r B (acc p D i r B,(i:Int))) (r:=acc p D (i+1) r B) (fun k=>(zE0 p D i k r B,(k:Int))) D (fun k hk=>by
   obtain⟨b1,b2,b3,b4⟩:=zTV hB hi hk;have ha:=zMQ (p:=p) (i:=i) (k:=k) (r:=r) (B:=B) (by omega) hk;have hm:=zKk (by omega) dX b4;unfold zSp;simp only
   rw[zIG,yN hk,zK,b1,bs,b3,yN hk,zK,zQ2 hk,bs,yJ,bs,bs,b2,bs,zG,bs,zG,bs];have dZ:xC (at0 (zE0 p D i k r B) k+at0 r i*ent B i k) p=iW ((at0 (zE0 p D i k r B) k+at0 r i*ent B i k)%p):=by
    unfold xC
    grind
   rw[dZ,bs,bs,zG,bs,cs,J6,zMP hk rfl]) (by
   unfold zSp;simp only
   rw[zIG,qT,zM,zKj])
  rw[zKi,show((0:Nat):Int)=0 from rfl]at inner
  grind[zG]) (by
  unfold zPk
  grind)
 rw[show((0:Nat):Int)=0 from rfl]at this;rw[this,bs];rfl
theorem zLi{a:Int}(h0:0<=a)(_h1:a<=1000):zJ8 a p=iW (a%p):=by have _:=hD;have h7:=hp.pos;have e1:=Kr a (show p≠0 by omega);have e2:=Ke a (show 0<p by omega);unfold zJ8 xC;rw[if_neg (by omega),bs,Lm h0,zG,bs,if_neg (by omega),bs,Lm (by omega)];simp
theorem zG6{i:Nat}{r:List Int}{B:Mx}(hi:i<D)(hr:Row p D r)(hB:Mat p D B):f_D (acc p D i r B) (B.getD i []) (at0 r i) p=iW (acc p D (i+1) r B):=by
 have h7:=hp.pos;have dX:=hr.2 i hi;unfold f_D;have hl:(acc p D i r B).length=D:=zU _ _;have inner:=zQ (body:=zND (acc p D i r B) (B.getD i []) (at0 r i) p) (r:=acc p D (i+1) r B) (fun k=>(zE0 p D i k r B,(k:Int))) D (fun k hk=>by
  obtain⟨b1,b2,b3,b4⟩:=zTV hB hi hk;have ha:=zMQ (p:=p) (i:=i) (k:=k) (r:=r) (B:=B) (by omega) hk;have hm:=zKk (by omega) dX b4;unfold zND;simp only
  rw[hl,yN hk,zK,zQ2 hk,bs,b2,bs,zG,bs,zG,bs,zLi hp hD (by omega) (by omega),bs,bs,zG,bs,cs,J6,zMP hk rfl]) (by
  unfold zND;simp only
  rw[hl,qT,zM,zKj])
 rw[zKi,show((0:Nat):Int)=0 from rfl]at inner
 grind
theorem zC2{r:List Int}{B:Mx}{q:Int}(hr:Row p D r)(hB:Mat p D B)(hq:q=(D:Int)):zVS r (zN.mk p q B)=iW (xG p D r B):=by
 subst hq;have ft:=hr.1;unfold zVS;simp only
 rw[yP,bs,zMR (p:=p) (r:=r) (B:=B)];have:=zQ (body:=zNE r (zN.mk p (D:Int) B)) (r:=acc p D D r B) (fun i=>(acc p D i r B,(i:Int))) D (fun i hi=>by
  have aU:=hB.1;unfold zNE;simp only
  rw[ft,yN hi,zK,yJ,bs,zY [],bs,zG6 hp hD hi hr hB,bs,zG,bs,cs]) (by
  unfold zNE
  grind)
 rw[show((0:Nat):Int)=0 from rfl]at this;rw[this,bs];rfl
theorem zKl{A B:Mx}{i:Nat}(hi:i<A.length):(PM p D A B).take i++[xG p D (A.getD i []) B]=(PM p D A B).take (i+1):=by
 have _:=hp;have _:=hD;rw[K1 (by grind[uV])]
 congr 2
 have:=zCO (p:=p) (D:=D) (B:=B) hi
 grind
theorem zAL{A B:Mx}(hA:Mat p D A)(hB:Mat p D B):f_W p A B (D:Int)=iW (PM p D A B):=by
 have fN:=hA.1;unfold f_W;have:=zQ (body:=zPl p A B (D:Int)) (r:=PM p D A B) (fun i=>((PM p D A B).take i,(i:Int))) D (fun i hi=>by
  unfold zPl;simp only
  rw[fN,yN hi,zK,zY [],bs,zCP hp hD (hA.2 i hi) hB,bs,zX (by rw[Kf,uV];simp;omega),bs,zG,bs,cs,zKl hp hD (by omega)]) (by
  unfold zPl;simp only
  rw[fN,qT,zM,Jo (by grind[uV])])
 grind
theorem zJ1{A B:Mx}{q:Int}(hA:Mat p D A)(hB:Mat p D B):zY4 (zN.mk p q A) (zN.mk p (D:Int) B)=iW (zN.mk p (D:Int) (PM p D A B)):=by
 have fN:=hA.1;unfold zY4;have:=zQ (body:=zNF (zN.mk p q A) (zN.mk p (D:Int) B)) (r:=PM p D A B) (fun i=>((PM p D A B).take i,(i:Int))) D (fun i hi=>by
  unfold zNF;simp only
  rw[fN,yN hi,zK,zY [],bs,zC2 hp hD (hA.2 i hi) hB rfl,bs,zX (by rw[Kf,uV];simp;omega),bs,zG,bs,cs,zKl hp hD (by omega)]) (by
  unfold zNF;simp only
  rw[fN,qT,zM,Jo (by grind[uV])])
 grind
theorem zMS{i:Nat}(_hi:i<D):(J1 D (0:Int)).set i 1=mkv D fun j=>if j=i then 1 else 0:=by have _:=hp;have _:=hD;rw[uB,qJ]
theorem zQ3{i:Nat}(hi:i<D):(idM D).take i++[mkv D fun j=>if j=i then 1 else 0]=(idM D).take (i+1):=by
 have _:=hp;have _:=hD;rw[K1 (by grind[qC])]
 congr 2
 have:=zEk hi
 grind
theorem zIH:f_E (D:Int)=iW (idM D):=by
 unfold f_E;have:=zQ (body:=zJt (D:Int)) (r:=idM D) (fun i=>((idM D).take i,(i:Int))) D (fun i hi=>by
  unfold zJt;simp only
  rw[yN hi,zK,yP,bs,uG,Km,if_pos hi,bs,J6,zMS hp hD hi,zX (by grind),bs,zG,bs,cs,zQ3 hp hD hi]) (by
  unfold zJt;simp only
  rw[qT,zM,Jo (by grind[qC])])
 grind
theorem zEC:zVR p (D:Int)=iW (zN.mk p (D:Int) (idM D)):=by
 unfold zVR;have:=zQ (body:=zK3 (D:Int)) (r:=idM D) (fun i=>((idM D).take i,(i:Int))) D (fun i hi=>by
  unfold zK3;simp only
  rw[yN hi,zK,yP,bs,uG,Km,if_pos hi,bs,J6,zMS hp hD hi,zX (by grind),bs,zG,bs,cs,zQ3 hp hD hi]) (by
  unfold zK3;simp only
  rw[qT,zM,Jo (by grind[qC])])
 grind
end
end Go.Pl

namespace Go.Pl
open Go Go.Ab Go.Wk Go.Pc
def nw:Nat->List Int->List Nat
 |_,[]=>[]
 |o,a::v=>J1 a.toNat o++nw (o+1) v
theorem zEl:∀(o:Nat)(u v:List Int),nw o (u++v)=nw o u++nw (o+u.length) v
 |o,[],v=>by simp[nw]
 |o,a::u,v=>by
  simp only[Kc,nw,zEl (o+1) u v,Jh,Jd]
  grind
theorem zLj{v:List Int}{i:Nat}(h:i<v.length):nw 0 (v.take (i+1))=nw 0 (v.take i)++J1 (at0 v i).toNat i:=by
 rw[K1 h,zEl,Kf,Hl (by omega),Jc];simp only[nw,J9]
 grind
theorem zMT{n:Nat}:∀(o:Nat)(v:List Int),o+v.length<=n-> ∀w∈nw o v,w<n
 |o,[],_,w,h=>by grind[nw]
 |o,a::v,hv,w,h=>by
  simp only[nw,Jf,Jd]at h hv;rcases h with h|h
  ·grind
  ·exact zMT (o+1) v (by omega) w h
theorem zG7:∀(o:Nat)(v:List Int),(∀i,i<v.length->at0 v i<=6)->(nw o v).length<=6*v.length
 |o,[],_=>by simp[nw]
 |o,a::v,h=>by
  have h0:=h 0 (by simp);have:=zG7 (o+1) v fun i hi=>by
   have:=h (i+1) (by grind)
   grind
  simp only[at0,Gd]at h0
  grind[nw]
def wM(p:Int)(D:Nat)(A:List Mx)(ws:List Nat)(B:Mx):Mx:=ws.foldl (fun B w=>PM p D B (A.getD w [])) B
theorem zEm{p:Int}{D:Nat}{A:List Mx}{u v:List Nat}{B:Mx}:wM p D A (u++v) B=wM p D A v (wM p D A u B):=by simp[wM,Gi]
theorem zII{p:Int}{D:Nat}{A:List Mx}{w:Nat}:∀(k:Nat)(B:Mx),wM p D A (J1 k w) B=iter k (fun B=>PM p D B (A.getD w [])) B
 |0,_=>rfl
 |k+1,B=>by rw[Jt];show wM p D A (J1 k w) (PM p D B (A.getD w []))=_;rw[zII k];rfl
theorem zCQ{p:Int}{D:Nat}{A:List Mx}(hp:0<p):∀(ws:List Nat){B:Mx},Mat p D B->Mat p D (wM p D A ws B)
 | [],_,hB=>hB
 |_w::ws,_,hB=>zCQ hp ws (zDH hp hB.1)
theorem zIJ{p:Int}{D:Nat}{A:List Mx}(hp:0<p){C:Mx}(hC:C.length=D):∀(ws:List Nat){B:Mx},Mat p D B->wM p D A ws (PM p D C B)=PM p D C (wM p D A ws B)
 | [],_,_=>rfl
 |w::ws,B,hB=>by show wM p D A ws (PM p D (PM p D C B) (A.getD w []))=PM p D C (wM p D A ws (PM p D B (A.getD w [])));rw[zMO hC hB.1,zIJ hp hC ws (zDH hp hB.1)]
structure MOk (n:Nat) (m:zB) (D:Nat):Prop where
 p:Prime m.Prime
 d:m.Dim=(D:Int)
 d1:1<=D
 d3:D<=3
 len:m.zF.length=n
 mat:∀i,i<n->Mat m.Prime D (m.zF.getD i [])
structure yB1 (n:Nat) (m:zB) (D:Nat):Prop where
 p:Prime m.Prime
 d:m.Dim=(D:Int)
 d3:D<=30
 len:m.zF.length=n
 mat:∀i,i<n->Mat m.Prime D (m.zF.getD i [])
theorem MOk.x{n D:Nat}{m:zB}(h:MOk n m D):yB1 n m D:=⟨h.p,h.d,by have:=h.d3;omega,h.len,h.mat⟩
structure zTW (n:Nat) (m:zB) (D:Nat):Prop where
 p:Prime m.Prime
 d3:D<=200
 len:m.zF.length=n
 mat:∀i,i<n->Mat m.Prime D (m.zF.getD i [])
theorem MOk.b{n D:Nat}{m:zB}(h:MOk n m D):zTW n m D:=⟨h.p,by have:=h.d3;omega,h.len,h.mat⟩
section
variable {n D:Nat}{m:zB} (hm:MOk n m D) (hn:n<=14)
 include hm hn
theorem zMU{v:List Int}(hl:v.length=n)(hv:∀i,i<n->0<=at0 v i/\at0 v i<=6):zVx m v=iW (wM m.Prime D m.zF (nw 0 v) (idM D)):=by
 have h7:=hm.p.pos;have h3:=hm.d3;have gn:=hm.len;unfold zVx;rw[hm.d,zIH hm.p (by omega),bs];have hI:∀i,Mat m.Prime D (wM m.Prime D m.zF (nw 0 (v.take i)) (idM D)):=by grind[zCQ,sS]
 have:=zQ (body:=zN8 m v) (r:=wM m.Prime D m.zF (nw 0 v) (idM D)) (fun i=>(wM m.Prime D m.zF (nw 0 (v.take i)) (idM D),(i:Int))) n (fun i hi=>by
  have hvi:=hv i hi;unfold zN8;simp only
  rw[hl,yN hi,zK];rw[uA (S:=Mat m.Prime D) (body:=zN7 m v (wM m.Prime D m.zF (nw 0 (v.take i)) (idM D),(i:Int))) (fun B=>B) (fun B=>PM m.Prime D B (m.zF.getD i [])) (at0 v i) hvi.1 (fun B hB=>zDH (by omega) hB.1) (fun B q hB hq=>by
   unfold zN7;simp only
   rw[yJ,bs,jc hq,zK,zY [],bs,hm.d,zAL hm.p (by omega) hB (hm.mat i hi),bs,zG,bs,cs]) (fun B hB=>by
   unfold zN7;simp only
   rw[yJ,bs,jb (by omega),zM]) (hI i),bs,zG,bs,cs]
  grind[zLj,zEm,zII]) (by
  unfold zN8
  grind)
 rw[show((0:Nat):Int)=0 from rfl,Ki]at this
 grind[nw,wM]
abbrev enW(ws:List Nat):List Int:=ws.map fun(w:Nat)=>(w:Int)+1
theorem zED{i:Nat}(hi:i<n):zPp m (i:Int)=iW (zN.mk m.Prime (D:Int) (m.zF.getD i [])):=by have _:=hn;have gn:=hm.len;unfold zPp;rw[zY [],bs,hm.d]
theorem zCe{ws:List Nat}(hw:∀w∈ws,w<n)(hl:ws.length<=1000000):zLJ m (enW ws)=iW (zN.mk m.Prime (D:Int) (wM m.Prime D m.zF ws (idM D))):=by
 have h7:=hm.p.pos;have h3:=hm.d3;unfold zLJ;rw[hm.d,zEC hm.p (by omega),bs];have hI:∀i,Mat m.Prime D (wM m.Prime D m.zF (ws.take i) (idM D)):=by grind[zCQ,sS]
 have dt:(enW ws).length=ws.length:=by simp
 have:=zQ (body:=zNG m (enW ws)) (r:=(m.Prime,(D:Int),wM m.Prime D m.zF ws (idM D))) (fun i=>(m.Prime,(D:Int),wM m.Prime D m.zF (ws.take i) (idM D),(i:Int))) ws.length (fun i hi=>by
  have mD:=hw ws[i] (K3 hi);unfold zNG;simp only
  rw[dt,yN hi,zK,uG,Jx,J5 hi];simp only[H6];rw[bs,zG,bs,show((ws[i]:Nat):Int)+1-1=((ws[i]:Nat):Int)from by omega,zED hm hn mD,bs,zJ1 hm.p (by omega) (hI i) (hm.mat _ mD),bs,zG,bs,cs,K1 hi,zEm];rfl) (by
  unfold zNG;simp)
 rw[show((0:Nat):Int)=0 from rfl,Ki]at this
 grind[wM]
end
theorem zBc{v:List Int}(hl:v.length<=14)(hv:∀i,i<v.length->0<=at0 v i/\at0 v i<=6):f_L v=iW (enW (nw 0 v)):=by
 unfold f_L;have gn:∀i,(nw 0 (v.take i)).length<=84:=fun i=>by
  have:=zG7 0 (v.take i) (by grind)
  grind
 have:=zQ (body:=zVN v) (r:=enW (nw 0 v)) (fun i=>(enW (nw 0 (v.take i)),(i:Int))) v.length (fun i hi=>by
  have hvi:=hv i hi;have hli:=gn i;unfold zVN;simp only
  rw[yN hi,zK,yJ hi,bs];have inner:=zQ (body:=zVM (enW (nw 0 (v.take i)),(i:Int)) (at0 v i)) (r:=enW (nw 0 (v.take (i+1)))) (fun k=>(enW (nw 0 (v.take i)++J1 k i),(k:Int))) (at0 v i).toNat (fun k hk=>by
   unfold zVM;simp only
   rw[jc,zK,zG,bs,zX (by grind),bs,zG,bs,cs]
   congr 3
   rw[Kz,<-Jh];simp) (by
   unfold zVM;simp only
   rw[jb (by omega),zM,zLj hi])
  rw[show((0:Nat):Int)=0 from rfl,Hb,J9]at inner
  grind[zG]) (by
  unfold zVN;simp)
 rw[show((0:Nat):Int)=0 from rfl,Ki]at this;simp only[nw,enW,Gy]at this
 grind
theorem zMV{v o:Int}(h:zVL 1 (IntKind.wrap .u64 o)=iW (0,o)):zVL (IntKind.wrap .u64 (([v]:List Int).length:Int)) (IntKind.wrap .u64 o)=iW (0,o):=by rw[show IntKind.wrap .u64 (([v]:List Int).length:Int)=1 from by rfl];exact h
theorem zDJ{v o:Int}(ho:Prime o):f_n [v] o=iW (J1 o.toNat v):=by
 unfold f_n;rcases ho with rfl|rfl|rfl|rfl
 ·have h:=zQ (body:=zDf) (r:=[v,v]) (fun i=>match i with|0=>([v,0],1)|_=>([v,v],2)) 1 (fun i hi=>by
   match i,hi with
   |0,_=>rfl) (by rfl)
  rw[zMV (by rfl),bs];have hl:yD (IntKind.wrap .i64 2)=iW 2:=by rfl
  simp only[hl,bs];rw[show decide ((2:Int)<0)=ja from rfl,zM,show decide ((0:Int)> 0)=ja from rfl,zM,show decide ((2:Int)> 9223372036854775807)=ja from by decide,zM]
  grind[wP]
 ·have h:=zQ (body:=zDf) (r:=[v,v,v]) (fun i=>match i with|0=>([v,0,0],1)|1=>([v,v,0],2)|_=>([v,v,v],3)) 2 (fun i hi=>by
   match i,hi with
   |0,_=>rfl
   |1,_=>rfl) (by rfl)
  rw[zMV (by rfl),bs];have hl:yD (IntKind.wrap .i64 3)=iW 3:=by rfl
  simp only[hl,bs];rw[show decide ((3:Int)<0)=ja from rfl,zM,show decide ((0:Int)> 0)=ja from rfl,zM,show decide ((3:Int)> 9223372036854775807)=ja from by decide,zM]
  grind[wP]
 ·have h:=zQ (body:=zDf) (r:=[v,v,v,v,v]) (fun i=>match i with|0=>([v,0,0,0,0],1)|1=>([v,v,0,0,0],2)|2=>([v,v,v,v,0],4)|_=>([v,v,v,v,v],5)) 3 (fun i hi=>by
   match i,hi with
   |0,_=>rfl
   |1,_=>simp[zDf,zL,wP,rng,inR]
   |2,_=>rfl) (by rfl)
  rw[zMV (by rfl),bs];have hl:yD (IntKind.wrap .i64 5)=iW 5:=by rfl
  simp only[hl,bs];rw[show decide ((5:Int)<0)=ja from rfl,zM,show decide ((0:Int)> 0)=ja from rfl,zM,show decide ((5:Int)> 9223372036854775807)=ja from by decide,zM];have e2:wP (J1 5 (0:Int)) 0 (([v]:List Int).take ((J1 5 (0:Int)).length-0))=[v,0,0,0,0]:=by rfl
  grind
 ·have h:=zQ (body:=zDf) (r:=[v,v,v,v,v,v,v]) (fun i=>match i with|0=>([v,0,0,0,0,0,0],1)|1=>([v,v,0,0,0,0,0],2)|2=>([v,v,v,v,0,0,0],4)|_=>([v,v,v,v,v,v,v],7)) 3 (fun i hi=>by
   match i,hi with
   |0,_=>rfl
   |1,_=>simp[zDf,zL,wP,rng,inR]
   |2,_=>rfl) (by rfl)
  rw[zMV (by rfl),bs];have hl:yD (IntKind.wrap .i64 7)=iW 7:=by rfl
  simp only[hl,bs];rw[show decide ((7:Int)<0)=ja from rfl,zM,show decide ((0:Int)> 0)=ja from rfl,zM,show decide ((7:Int)> 9223372036854775807)=ja from by decide,zM];have e2:wP (J1 7 (0:Int)) 0 (([v]:List Int).take ((J1 7 (0:Int)).length-0))=[v,0,0,0,0,0,0]:=by rfl
  simp_all
theorem IsB.b{o:Option Bool}{P:Prop}(h:IsB o P):IsB (o.bind fun r=>iW r) P:=by grind
theorem zHk{p:Int}{D:Nat}{r:List Int}(hp:Prime p)(hD:D<=8):IsB (zVK r p (D:Int)) (Row p D r):=by
 have h7:=hp.pos;unfold zVK
 by_cases h:r.length=D
 ·rw[zBn,zM]
  refine(qS r.length (fun i=>0<=at0 r i/\at0 r i<=p-1) rfl (fun i hi _=>?_) ?_).iff ⟨fun g=>⟨h,by grind⟩,fun g=>by rw[h];exact g.2⟩
  ·refine uW (zAT _ _ _) (by omega) ?_
   unfold zRo;rw[yN hi,zK,yJ hi,bs,zG,bs]
  ·unfold zRo
   simp
 ·rw[kZ,zK]
  exact .inr ⟨rfl,fun g=>h g.1⟩
theorem zDK{p:Int}{D:Nat}{r:List Int}(hp:Prime p)(hD:D<=8:=by omega):IsB (zSo p (D:Int) r) (Row p D r):=by
 have h7:=hp.pos;unfold zSo
 by_cases h:r.length=D
 ·rw[zBn,zM]
  refine(qS r.length (fun i=>0<=at0 r i/\at0 r i<=p-1) rfl (fun i hi _=>?_) ?_).iff ⟨fun g=>⟨h,by grind⟩,fun g=>by rw[h];exact g.2⟩
  ·refine uW (zBT _ _ _) (by omega) ?_
   unfold zRl;rw[yN hi,zK,yJ hi,bs,zG,bs]
  ·unfold zRl
   simp
 ·rw[kZ,zK]
  exact .inr ⟨rfl,fun g=>h g.1⟩
theorem zRH{p:Int}{D:Nat}{B:Mx}(hp:Prime p)(hD:D<=8:=by omega):IsB (zYy p (D:Int) B) (Mat p D B):=by
 unfold zYy
 by_cases h:B.length=D
 ·rw[zBn,zM]
  refine(qS B.length (fun i=>Row p D (B.getD i [])) rfl (fun i hi _=>?_) ?_).iff ⟨fun g=>⟨h,by grind⟩,fun g=>by rw[h];exact g.2⟩
  ·refine uW (zDK hp hD) (by omega) ?_
   unfold zRm;rw[yN hi,zK,zY [] hi,bs]
  ·unfold zRm
   simp
 ·rw[kZ,zK]
  exact .inr ⟨rfl,fun g=>h g.1⟩
theorem zJ2{p:Int}{D:Nat}{B:Mx}(hp:Prime p)(hD:D<=8)(hB:B.length=D):IsB (zY3 (zN.mk p (D:Int) B)) (Mat p D B):=by
 unfold zY3;simp only
 rcases zCM p with⟨h1,_⟩|⟨_,h2⟩
 ·rw[h1,bs,Jq,zM]
  rcases zAT (D:Int) 0 8 with⟨h3,_⟩|⟨_,h4⟩
  ·rw[h3,bs,Jq,zM,jb (by omega),zM]
   refine(qS (body:=zNC (zN.mk p (D:Int) B)) D (fun i=>Row p D (B.getD i [])) rfl (fun i hi _=>?_) ?_).iff ⟨fun g=>⟨hB,g⟩,fun g=>g.2⟩
   ·refine uW (zHk hp hD) (by omega) ?_
    unfold zNC;simp only
    rw[hB,yN hi,zK,zY [],bs]
   ·unfold zNC
    grind
  omega
 grind
theorem zIK{A B:Mx}(hA:A.length<=1000)(h:∀r∈A,r.length<=1000):zYz A B=iW (A==B):=
 zQw (t:=zGU) (body:=zVy A B) rfl (fun _=>rfl) (by omega) (by grind[zG3])
theorem zJ3{A B:Mx}(hA:A.length<=1000)(h:∀r∈A,r.length<=1000):zY5 A B=iW (A==B):=by unfold zY5;rw[zQw (f:=yCh A B) (t:=zLH) (body:=zVT A B) rfl (fun _=>rfl) (by omega) (by grind[zEW]),bs]
theorem Mat.small{p:Int}{D:Nat}{A:Mx}(h:Mat p D A)(hD:D<=8):A.length<=1000/\ ∀r∈A,r.length<=1000:=by
 refine⟨by have:=h.1;omega,fun r hr=>?_⟩;obtain⟨i,hi,rfl⟩:=Jz.1 hr;have:=h.2 i (by rw[<-h.1];exact hi);rw[J2,J5 hi]at this;have:=this.1
 grind
def zC3(x:SPr)(m:zB)(D:Nat):Prop:=
 ∀i,i<x.zA.length->wM m.Prime D m.zF (J1 (at0 x.zA i).toNat i) (idM D)=wM m.Prime D m.zF (nw 0 (x.zJ.getD i [])) (idM D)/\
  ∀j,i+1<=j->j<x.zA.length->PM m.Prime D (m.zF.getD j []) (m.zF.getD i [])=PM m.Prime D (m.zF.getD i []) (wM m.Prime D m.zF (nw 0 ((x.zC.getD i []).getD (j-(i+1)) [])) (idM D))
theorem kN{x:SPr}{v:List Int}{i:Nat}(ho:Os x.zA)(h:Exp x.zA v i):v.length=x.zA.length/\ ∀j,j<x.zA.length->0<=at0 v j/\at0 v j<=6:=by have h1:=h.1.1;refine⟨h1,fun j hj=>?_⟩;have:=h.1.2 j (by omega);have:=(ho.2 j hj).pos;omega
section
variable {x:SPr}{m:zB}{D:Nat} (h:Pres x) (hm:MOk x.zA.length m D)
 include h hm
theorem zRI{i:Nat}(hi:i<x.zA.length):(x.zJ.getD i []).length=x.zA.length/\ ∀j,j<x.zA.length->0<=at0 (x.zJ.getD i []) j/\at0 (x.zJ.getD i []) j<=6:=have _:=hm;kN h.os (h.tl i hi).1
theorem zOD{i j:Nat}(hi:i<x.zA.length)(hj:j<(x.zC.getD i []).length):((x.zC.getD i []).getD j []).length=x.zA.length/\ ∀q,q<x.zA.length->0<=at0 ((x.zC.getD i []).getD j []) q/\at0 ((x.zC.getD i []).getD j []) q<=6:=have _:=hm;kN h.os ((h.tl i hi).2.2 j hj)
theorem zRJ:IsB ((zH (zV2 x m) 0).bind fun r=>match r with|.inl _=>iW iZ|.inr r=>iW r) (zC3 x m D):=by
 have h6:=h.os.1;have h7:=hm.p.pos;have h3:=hm.d3;have gn:=hm.len;refine qS x.zA.length (fun i=>wM m.Prime D m.zF (J1 (at0 x.zA i).toNat i) (idM D)=wM m.Prime D m.zF (nw 0 (x.zJ.getD i [])) (idM D)/\
  ∀j,i+1<=j->j<x.zA.length->PM m.Prime D (m.zF.getD j []) (m.zF.getD i [])=PM m.Prime D (m.zF.getD i []) (wM m.Prime D m.zF (nw 0 ((x.zC.getD i []).getD (j-(i+1)) [])) (idM D))) rfl (fun i hi _=>?_) ?_
 ·have fX:=(h.os.2 i hi).pos
  have fP:=h.pl;have gy:=h.cl;obtain⟨p1,p2⟩:=zRI h hm hi;have t2:=(h.tl i hi).2.1;have hI:=sS (p:=m.Prime) (D:=D) h7.1;unfold zV2;rw[yN hi,zK,hm.d,zIH hm.p (by omega),bs];rw[uA (S:=Mat m.Prime D) (body:=zV0 x m (i:Int)) (fun B=>B) (fun B=>PM m.Prime D B (m.zF.getD i [])) (at0 x.zA i) (by omega) (fun B hB=>zDH (by omega) hB.1) (fun B q hB hq=>by
   unfold zV0;simp only
   rw[yJ hi,bs,jc hq,zK,zY [],bs,hm.d,zAL hm.p (by omega) hB (hm.mat i hi),bs,zG,bs,cs]) (fun B hB=>by
   unfold zV0;simp only
   rw[yJ hi,bs,jb (by omega),zM]) hI,bs,zY [],bs,zMU hm (by omega) p1 p2,bs,<-zII]
  have hs:=(zCQ (p:=m.Prime) (D:=D) (A:=m.zF) (by omega) (J1 (at0 x.zA i).toNat i) hI).small (by omega);rw[zIK hs.1 hs.2,bs]
  by_cases hq:wM m.Prime D m.zF (J1 (at0 x.zA i).toNat i) (idM D)=wM m.Prime D m.zF (nw 0 (x.zJ.getD i [])) (idM D)
  ·rw[show(wM m.Prime D m.zF (J1 (at0 x.zA i).toNat i) (idM D)==wM m.Prime D m.zF (nw 0 (x.zJ.getD i [])) (idM D))=iZ from by grind,Jq,zM,zG,bs,cs]
   rcases chk (body:=zV1 x m (i:Int)) x.zA.length (i+1) (by omega) (fun j=>PM m.Prime D (m.zF.getD j []) (m.zF.getD i [])=PM m.Prime D (m.zF.getD i []) (wM m.Prime D m.zF (nw 0 ((x.zC.getD i []).getD (j-(i+1)) [])) (idM D))) (fun _=>ja) (fun j h1 h2 _=>by
     obtain⟨c1,c2⟩:=zOD h hm (j:=j-(i+1)) hi (by omega);have hjm:=hm.mat j h2;have him:=hm.mat i hi;have hw:=zCQ (p:=m.Prime) (D:=D) (A:=m.zF) (by omega) (nw 0 ((x.zC.getD i []).getD (j-(i+1)) [])) hI;have hs:=(zDH (p:=m.Prime) (B:=m.zF.getD i []) (by omega) hjm.1).small (by omega);refine uW (o:=iW (PM m.Prime D (m.zF.getD j []) (m.zF.getD i [])==PM m.Prime D (m.zF.getD i []) (wM m.Prime D m.zF (nw 0 ((x.zC.getD i []).getD (j-(i+1)) [])) (idM D)))) (IsB.of_bool (by simp)) (by omega) ?_;unfold zV1;rw[yN h2,zK,zY (i:=j) [],bs,zY (i:=i) [],bs,hm.d,zAL hm.p (by omega) hjm him,bs,bs,zY (i:=i) [],bs,zG,bs,zG,bs,show(j:Int)-(i:Int)-1=((j-(i+1):Nat):Int)from by omega,zY [],bs,zMU hm (by omega) c1 c2,bs,zAL hm.p (by omega) him hw,bs,zIK hs.1 hs.2]) (by
     unfold zV1;simp)with⟨g1,g2⟩|⟨j,j1,j2,g1,g2⟩
   ·grind
   ·right
    rw[g1,bs]
    grind
  grind
 ·unfold zV2
  simp
end
def zTX(x:SPr)(m:zB):Prop:=zBB x/\ ∃D,MOk x.zA.length m D/\zC3 x m D
theorem zIL{x:SPr}{m:zB}(h2:Pres x):IsB (f_B x m) (∃D,MOk x.zA.length m D/\zC3 x m D):=by
 have h6:=h2.os.1;unfold f_B;rcases zI6 m.Prime with⟨p1,p2⟩|⟨p1,p2⟩
 ·rw[p1,bs,Jq,zM]
  rcases zBT m.Dim 1 3 with⟨d1,d2⟩|⟨d1,d2⟩
  ·rw[d1,bs,Jq,zM]
   obtain⟨D,hD⟩:∃D:Nat,m.Dim=(D:Int):=⟨m.Dim.toNat,by omega⟩
   by_cases gn:m.zF.length=x.zA.length
   ·rw[zBn,zM]
    rcases chk (body:=zVz x m) x.zA.length 0 (Kg _) (fun i=>Mat m.Prime D (m.zF.getD i [])) (fun _=>ja) (fun i _ hi _=>by
      refine uW (zRH p2 (D:=D)) (by omega) ?_;unfold zVz;rw[yN hi,zK,zY [],bs,hD]) (by
      unfold zVz;simp)with⟨g1,g2⟩|⟨i,_,hi,g1,g2⟩
    ·rw[show((0:Nat):Int)=0 from rfl]at g1
     have hm:MOk x.zA.length m D:=⟨p2,hD,by omega,by omega,gn,by grind⟩;rw[g1,bs];refine IsB.iff (Q:=∃D,MOk x.zA.length m D/\zC3 x m D) (zRJ h2 hm) ⟨fun k2=>⟨D,hm,k2⟩,fun⟨D',gI,hr⟩=>?_⟩;have:D'=D:=by have:=gI.d;omega
     grind
    ·rw[show((0:Nat):Int)=0 from rfl]at g1
     rw[g1,bs];refine .inr ⟨rfl,fun⟨D',gI,_⟩=>g2 ?_⟩;have:D'=D:=by have:=gI.d;omega
     rw[<-this];exact gI.mat i hi
   ·rw[kZ,zK]
    exact .inr ⟨rfl,fun⟨D',gI,_⟩=>gn gI.len⟩
  ·rw[d1,bs,Kb,zK]
   exact .inr ⟨rfl,fun⟨D',gI,_⟩=>d2 (by have:=gI.d;have:=gI.d1;have:=gI.d3;omega)⟩
 ·rw[p1,bs,Kb,zK]
  exact .inr ⟨rfl,fun⟨D',gI,_⟩=>p2 gI.p⟩
theorem zCf{x:SPr}{m:zB}(hl:x.zA.length<=1048576:=by omega):IsB (zN9 x m) (zTX x m):=by
 unfold zN9;rcases zIE hl with⟨h1,h2⟩|⟨h1,h2⟩
 ·rw[h1,bs,zK]
  exact IsB.iff (Q:=zTX x m) (IsB.b (zIL h2.1)) ⟨fun g=>⟨h2,g⟩,fun g=>g.2⟩
 ·rw[h1,bs,zM]
  exact .inr ⟨rfl,fun g=>h2 g.1⟩
abbrev Rl:=List Nat×List Nat
def r1(x:SPr)(i:Nat):Rl:=(J1 (at0 x.zA i).toNat i,nw 0 (x.zJ.getD i []))
def r2(x:SPr)(i j:Nat):Rl:=([i+j+1,i],i::nw 0 ((x.zC.getD i []).getD j []))
def R2(x:SPr)(i:Nat):List Rl:=(J8 (x.zC.getD i []).length).map (r2 x i)
def xL(x:SPr):List Rl:=(J8 x.zA.length).map (r1 x)++(J8 x.zA.length).flatMap (R2 x)
abbrev enR(q:Rl):List Int×List Int:=(enW q.1,enW q.2)
section
variable {x:SPr} (h:Pres x)
 include h
theorem yB2{i:Nat}(hi:i<x.zA.length):(R2 x i).length<=14:=by
 have:=(h.tl i hi).2.1;have:=h.os.1
 grind[R2]
theorem zIM:∀i,i<=x.zA.length->((J8 i).flatMap (R2 x)).length<=14*i
 |0,_=>by simp
 |i+1,hi=>by
  have:=zIM i (by omega)
  grind[yB2,Lb]
theorem zXQ{k i:Nat}:enW (J1 k i)=J1 k ((i:Int)+1):=by have _:=h;simp
theorem zBC:f_H x=iW ((xL x).map enR):=by
 have h6:=h.os.1;have fP:=h.pl;have gy:=h.cl;unfold f_H;have l1:=zQ (body:=zVO x) (r:=((J8 x.zA.length).map (r1 x)).map enR) (fun i=>(((J8 i).map (r1 x)).map enR,(i:Int))) x.zA.length (fun i hi=>by
  obtain⟨p1,p2⟩:=kN h.os (h.tl i hi).1;unfold zVO;simp only
  rw[yN hi,zK,yJ hi,bs,zG,bs,zDJ (h.os.2 i hi),bs,zY [],bs,zBc (by omega) (by rw[p1];exact p2),bs,zX (by simp only[Jg,L8,Jd,K9];omega),bs,bs,cs,Lb];simp only[Lu,Js,Gy,r1,enR,zXQ h,cs]) (by
  unfold zVO;simp)
 rw[show((0:Nat):Int)=0 from rfl]at l1;simp only[List.range_zero,Gy]at l1;rw[l1,bs];have l3:=zQ (body:=zVQ x) (r:=(xL x).map enR) (fun i=>(((J8 x.zA.length).map (r1 x)++(J8 i).flatMap (R2 x)).map enR,(i:Int))) x.zA.length (fun i hi=>by
  have t2:=(h.tl i hi).2.1;have dq:=zIM h i (by omega);unfold zVQ;simp only
  rw[yN hi,zK,zY [],bs];have l2:=zQ (body:=zVP (((J8 x.zA.length).map (r1 x)++(J8 i).flatMap (R2 x)).map enR,(i:Int)) (x.zC.getD i [])) (r:=((J8 x.zA.length).map (r1 x)++(J8 (i+1)).flatMap (R2 x)).map enR)
   (fun j=>(((J8 x.zA.length).map (r1 x)++(J8 i).flatMap (R2 x)++(J8 j).map (r2 x i)).map enR,(j:Int))) (x.zC.getD i []).length (fun j hj=>by
    obtain⟨p1,p2⟩:=kN h.os ((h.tl i hi).2.2 j hj);have po:=zG7 0 ((x.zC.getD i []).getD j []) (by grind);unfold zVP;simp only
    rw[yN hj,zK,zY [] hj,bs,zG,bs,zG,bs,zG,bs,zBc (by omega) (by rw[p1];exact p2),bs,zX (by simp only[Jg,Jd,K9];omega),bs,zX (by simp only[Jg,J7,L8,Jd,K9];omega),bs,zG,bs,cs,Lb];have e1:(i:Int)+(j:Int)+2=((i+j+1:Nat):Int)+1:=by omega
    simp only[Lu,Js,Gy,r2,enR,enW,Jh,Hf,e1];rfl) (by
    unfold zVP;simp only
    rw[qT,zM,Lb,Gm]
    grind[R2])
  rw[show((0:Nat):Int)=0 from rfl]at l2
  grind[zG]) (by
  unfold zVQ;simp only
  rw[qT,zM];rfl)
 grind
theorem zEn{q:Rl}(hq:q∈xL x):((∀w∈q.1,w<x.zA.length)/\q.1.length<=1000)/\(∀w∈q.2,w<x.zA.length)/\q.2.length<=1000:=by
 have h6:=h.os.1;simp only[xL,Jf,Jn,Ll,Ls,R2]at hq;rcases hq with⟨i,hi,rfl⟩|⟨i,hi,j,hj,rfl⟩
 ·obtain⟨p1,p2⟩:=kN h.os (h.tl i hi).1
  have po:=zG7 0 (x.zJ.getD i []) (by rw[p1];exact fun i hi=>(p2 i hi).2);have fX:=(h.os.2 i hi).pos;refine⟨⟨fun w hw=>?_,?_⟩,fun w hw=>zMT 0 _ (by omega) w hw,by simp only[r1];omega⟩
  ·have:=He hw;omega
  ·simp only[r1,Ja];omega
 ·obtain⟨p1,p2⟩:=kN h.os ((h.tl i hi).2.2 j hj)
  have t2:=(h.tl i hi).2.1;have po:=zG7 0 ((x.zC.getD i []).getD j []) (by rw[p1];exact fun i hi=>(p2 i hi).2);refine⟨⟨fun w hw=>?_,by simp[r2]⟩,fun w hw=>?_,by simp only[r2,Jd];omega⟩
  ·simp only[r2,Jb,Qh,or_false]at hw;omega
  ·simp only[r2,Jb]at hw
   rcases hw with rfl|hw
   ·exact hi
   ·exact zMT 0 _ (by omega) w hw
variable {m:zB}{D:Nat} (hm:MOk x.zA.length m D)
 include hm
theorem zFB:(∀q∈xL x,wM m.Prime D m.zF q.1 (idM D)=wM m.Prime D m.zF q.2 (idM D))↔zC3 x m D:=by
 have h7:=hm.p.pos;have hI:=sS (p:=m.Prime) (D:=D) h7.1;have key:∀i j,i<x.zA.length->j<x.zA.length-> ∀ws,(wM m.Prime D m.zF [j,i] (idM D)=wM m.Prime D m.zF (i::ws) (idM D)↔PM m.Prime D (m.zF.getD j []) (m.zF.getD i [])=PM m.Prime D (m.zF.getD i []) (wM m.Prime D m.zF ws (idM D))):=fun i j hi hj ws=>by
  have ex:=hm.mat i hi;have mX:=hm.mat j hj;have e1:wM m.Prime D m.zF [j,i] (idM D)=PM m.Prime D (m.zF.getD j []) (m.zF.getD i []):=by show PM _ _ (PM _ _ (idM D) _) _=_;rw[zBU mX]
  have e2:wM m.Prime D m.zF (i::ws) (idM D)=PM m.Prime D (m.zF.getD i []) (wM m.Prime D m.zF ws (idM D)):=by show wM _ _ _ ws (PM _ _ (idM D) _)=_;rw[zBU ex,<-zIJ (by omega) ex.1 ws hI,zDI ex]
  rw[e1,e2]
 constructor
 ·intro g i hi
  have t2:=(h.tl i hi).2.1;refine⟨g (r1 x i) (by simp only[xL,Jf,Jn,Ll];grind),fun j h1 h2=>?_⟩;have:=g (r2 x i (j-(i+1))) (by
   simp only[xL,Jf,Ls,Ll,R2,Jn]
   grind)
  simp only[r2]at this;rw[show i+(j-(i+1))+1=j from by omega]at this
  grind
 ·intro g q hq
  simp only[xL,Jf,Jn,Ll,Ls,R2]at hq;rcases hq with⟨i,hi,rfl⟩|⟨i,hi,j,hj,rfl⟩
  ·exact(g i hi).1
  ·have t2:=(h.tl i hi).2.1
   have:=(g i hi).2 (i+j+1) (by omega) (by omega);rw[show i+j+1-(i+1)=j from by omega]at this;exact(key i (i+j+1) hi (by omega) _).2 this
theorem zRK:IsB ((zH (zVV m ((xL x).map enR)) 0).bind fun r=>match r with|.inl _=>iW iZ|.inr r=>iW r) (zC3 x m D):=by
 have h6:=h.os.1;have h7:=hm.p.pos;have h3:=hm.d3;have hI:=sS (p:=m.Prime) (D:=D) h7.1;have dq:=zIM h x.zA.length (Je _);have ft:(xL x).length<=1000:=by simp only[xL,J7,Jg,L8];omega
 refine(qS (xL x).length (fun k=>wM m.Prime D m.zF ((xL x).getD k ([],[])).1 (idM D)=wM m.Prime D m.zF ((xL x).getD k ([],[])).2 (idM D)) rfl (fun k hk _=>?_) ?_).iff ⟨fun g=>(zFB h hm).1 fun q hq=>?_,fun g k hk=>(zFB h hm).2 g _ ?_⟩
 ·have gu:(xL x).getD k ([],[])∈xL x:=by
   rw[J2,J5 hk];exact K3 hk
  obtain⟨⟨g1,g2⟩,g3,g4⟩:=zEn h gu;have hs:=(zCQ (p:=m.Prime) (D:=D) (A:=m.zF) (by omega) ((xL x).getD k ([],[])).1 hI).small (by omega);refine uW (o:=iW (wM m.Prime D m.zF ((xL x).getD k ([],[])).1 (idM D)==wM m.Prime D m.zF ((xL x).getD k ([],[])).2 (idM D))) (IsB.of_bool (by rw[beq_iff_eq])) (by omega) ?_;unfold zVV;rw[Jg,yN hk,zK,uG,Jx,J5 hk];rw[J2,J5 hk]at g1 g2 g3 g4 hs ⊢
  simp only[H6,Gp]at g1 g2 g3 g4 hs ⊢
  rw[bs,zCe hm h6 g1 (Hs g2 (by omega)),bs,zCe hm h6 g3 (Hs g4 (by omega)),bs];simp only
  rw[zJ3 hs.1 hs.2]
 ·unfold zVV
  rw[Jg,qT,zM]
 ·obtain⟨k,hk,rfl⟩:=Jz.1 hq
  have:=g k hk;rw[J2,J5 hk]at this;exact this
 ·rw[J2,J5 hk];exact K3 hk
end
theorem zEE{x:SPr}{m:zB}(hl:x.zA.length<=1048576:=by omega)(_hal:m.zF.length<=1048576:=by omega):IsB (f_Q x m) (zTX x m):=by
 unfold f_Q;rcases zFA hl with⟨h1,h2⟩|⟨h1,h2⟩
 ·have h6:=h2.1.os.1
  rw[h1,bs,Jq,zM];rcases zCM m.Prime with⟨p1,p2⟩|⟨p1,p2⟩
  ·rw[p1,bs,Jq,zM]
   rcases zAT m.Dim 1 3 with⟨d1,d2⟩|⟨d1,d2⟩
   ·rw[d1,bs,Jq,zM]
    obtain⟨D,hD⟩:∃D:Nat,m.Dim=(D:Int):=⟨m.Dim.toNat,by omega⟩
    by_cases gn:m.zF.length=x.zA.length
    ·rw[zBn,zM]
     rcases chk (body:=zVU m) m.zF.length 0 (Kg _) (fun i=>Mat m.Prime D (m.zF.getD i [])) (fun _=>ja) (fun i _ hi _=>by
       unfold zVU;rw[yN hi,zK,zY [] hi,bs,hD]
       by_cases hr:(m.zF.getD i []).length=D
       ·rw[zBn,zM]
        refine uW (zJ2 p2 (D:=D) (by omega) hr) (by omega) ?_
        grind[zPp,zY]
       ·rw[kZ,zK]
        exact .inr ⟨rfl,fun g=>hr g.1⟩) (by
       unfold zVU;simp)with⟨g1,g2⟩|⟨i,_,hi,g1,g2⟩
     ·rw[show((0:Nat):Int)=0 from rfl]at g1
      have hm:MOk x.zA.length m D:=⟨p2,hD,by omega,by omega,gn,by grind⟩;rw[g1,bs,zBC h2.1];simp only
      rw[bs];refine(zRK h2.1 hm).iff ⟨fun k2=>⟨h2,D,hm,k2⟩,fun⟨_,D',gI,hr⟩=>?_⟩;have:D'=D:=by have:=gI.d;omega
      grind
     ·rw[show((0:Nat):Int)=0 from rfl]at g1
      rw[g1,bs];refine .inr ⟨rfl,fun⟨_,D',gI,_⟩=>g2 ?_⟩;have:D'=D:=by have:=gI.d;omega
      rw[<-this];exact gI.mat i (by omega)
    ·rw[kZ,zK]
     exact .inr ⟨rfl,fun⟨_,D',gI,_⟩=>gn gI.len⟩
   ·rw[d1,bs,Kb,zK]
    exact .inr ⟨rfl,fun⟨_,D',gI,_⟩=>d2 (by have:=gI.d;have:=gI.d1;have:=gI.d3;omega)⟩
  ·rw[p1,bs,Kb,zK]
   exact .inr ⟨rfl,fun⟨_,D',gI,_⟩=>p2 gI.p⟩
 ·rw[h1,bs,Kb,zK]
  exact .inr ⟨rfl,fun g=>h2 g.1⟩
theorem zG8{xs:List (List Int)}{i:Nat}(h:i<xs.length):(xs.take (i+1)).flatten=(xs.take i).flatten++xs.getD i []:=by grind[K1]
theorem zLk{xs:List (List Int)}(i:Nat):(xs.take i).flatten.length<=xs.flatten.length:=by grind[List.take_append_drop]
theorem zRL{k:Nat}(hk:k<=1000000):zVW (k:Int)=iW []:=by
 unfold zVW;rw[jb (by omega),zM,zG (by decide) (by decide),bs,zG,bs]
 by_cases h:(k:Int)-(0-0)> 0
 ·rw[jc h,zK]
  have e:yT ([]:List Int) ((k:Int)-(0-0)) 0=iW (J1 k 0):=by
   unfold yT
   grind
  rw[e,bs];rfl
 grind
theorem kO{xs:List (List Int)}(hx:xs.length<=1000)(hf:xs.flatten.length<=1000000):f_z xs=iW xs.flatten:=by
 unfold f_z;have l1:=zQ (body:=zVX xs) (r:=((xs.flatten.length:Nat):Int)) (fun i=>((((xs.take i).flatten.length:Nat):Int),(i:Int))) xs.length (fun i hi=>by
  have h1:=zG8 hi;have h2:=zLk (xs:=xs) (i+1);have h3:=congrArg Jad h1;rw[J7]at h3;unfold zVX;simp only
  rw[yN hi,zK,zY [] hi,bs,zG,bs,jb (by omega),zM,zG,bs,cs,h3]
  congr 3) (by
  unfold zVX;simp)
 rw[show((0:Nat):Int)=0 from rfl]at l1;simp only[Ki,Up,K9]at l1;rw[show((0:Nat):Int)=0 from rfl]at l1;rw[l1,bs,zRL hf,bs];have l2:=zQ (body:=zVY xs) (r:=xs.flatten) (fun i=>((xs.take i).flatten,(i:Int))) xs.length (fun i hi=>by
  have h1:=zG8 hi;have h2:=zLk (xs:=xs) (i+1);have h3:=congrArg Jad h1;rw[J7]at h3;unfold zVY;simp only
  rw[yN hi,zK,zY [] hi,bs,zX,bs,zG,bs,cs,h1]) (by
  unfold zVY;simp)
 grind
theorem zMW{r:List Int}{a b:Nat}(hr:r.length<=1000:=by omega)(ha:a<=1000:=by omega)(hb:b<=1000:=by omega):zY6 r (a:Int) (b:Int)=iW (J1 a 0++(r++J1 b 0)):=by grind[zY6,yP,kO]
section
variable {p:Int}
def wQ(p:Int)(D:Nat)(r:List Int)(k:Int)(s:List Int):List Int:=mkv D fun j=>(at0 r j+k*at0 s j)%p
theorem zFC{D:Nat}{r s:List Int}{k:Int}:(wQ p D r k s).length=D:=zU _ _
def zJ4(p:Int)(D i:Nat)(r:List Int)(k:Int)(s:List Int):List Int:=mkv D fun j=>if j<i then(at0 r j+k*at0 s j)%p else at0 r j
theorem zKm{D:Nat}{r s:List Int}{k:Int}(hr:r.length=D):zJ4 p D 0 r k s=r:=by
 conv=>rhs;rw[wI hr]
 rfl
theorem zKn{D:Nat}{r s:List Int}{k:Int}:zJ4 p D D r k s=wQ p D r k s:=zV (by omega)
theorem zMX{D i:Nat}{r s:List Int}{k a:Int}(ha:a=(at0 r i+k*at0 s i)%p):(zJ4 p D i r k s).set i a=zJ4 p D (i+1) r k s:=by
 simp only[zJ4];rw[qJ]
 grind
theorem zQ4{D i:Nat}{r s:List Int}{k:Int}(hi:i<D):at0 (zJ4 p D i r k s) i=at0 r i:=by rw[zJ4,zT hi,if_neg (by omega)]
theorem zFD{D i:Nat}{r s:List Int}{k:Int}:(zJ4 p D i r k s).length=D:=zU _ _
end
section
variable {p:Int} (hp:Prime p)
 include hp
theorem zHl{a:Int}(_h0:-1000<=a)(_h1:a<=1000):zJ8 a p=iW (a%p):=by
 have h7:=hp.pos;have e1:=Jae a (show 0<p by omega);have e2:=Qu a (show 0<p by omega);have e3:(Jac a p+p)%p=a%p:=by
  rw[Um];have:=Q9 a p
  conv=>rhs;rw[<-this]
  simp
 unfold zJ8 xC;rw[if_neg (by omega),bs,zG,bs,if_neg (by omega),bs,Lm (by omega),e3]
theorem zMY{a:Int}(_h0:-1000<=a)(_h1:a<=1000):zWa a p=iW (a%p):=by
 have h7:=hp.pos;have e1:=Jae a (show 0<p by omega);have e2:=Qu a (show 0<p by omega);have e3:(Jac a p+p)%p=a%p:=by
  rw[Um];have:=Q9 a p
  conv=>rhs;rw[<-this]
  simp
 unfold zWa xC;rw[if_neg (by omega),bs]
 by_cases h:Jac a p<0
 ·rw[jc h,zK,zG,bs,<-e3,K5 (by omega) (by omega)]
 ·rw[jb h,zM,<-e3,Um,K5 (by omega) (by omega)]
theorem uC{D:Nat}{r s:List Int}{k:Int}:Row p D (wQ p D r k s):=by have h7:=hp.pos;refine⟨zU _ _,fun i hi=>?_⟩;have e:at0 (wQ p D r k s) i=(at0 r i+k*at0 s i)%p:=zT hi;have e1:=Kr (at0 r i+k*at0 s i) (show p≠0 by omega);have e2:=Ke (at0 r i+k*at0 s i) (show 0<p by omega);omega
theorem zCR{k b:Int}(hk:-7<=k/\k<=7)(hb:0<=b/\b<=p-1):-49<=k*b/\k*b<=49:=by
 have h7:=hp.pos;rcases Int.le_total 0 k with h|h
 ·have h1:=Hz h hb.1
  have h2:=Ln hk.2 (show b<=7 by omega) hb.1 (by omega);omega
 ·have h1:=Hz (show 0<= -k by omega) hb.1
  have h2:=Ln (show -k<=7 by omega) (show b<=7 by omega) hb.1 (by omega);rw[Int.neg_mul]at h1 h2;omega
theorem qK{D:Nat}{r s:List Int}{k:Int}(hr:Row p D r)(hs:Row p D s)(hk:-7<=k/\k<=7)(hD:D<=1000000):f_D r s k p=iW (wQ p D r k s):=by
 have h7:=hp.pos;have:=zQ (body:=zND r s k p) (r:=wQ p D r k s) (fun i=>(zJ4 p D i r k s,(i:Int))) D (fun i hi=>by
  have a1:=hr.2 i hi;have a2:=hs.2 i hi;have a3:=zCR hp hk a2;unfold zND;simp only
  rw[hr.1,yN hi,zK,yJ (by grind[zFD]),bs,yJ (by rw[hs.1];exact hi),bs,zG,bs,zQ4 hi,zG,bs,zHl hp (by omega) (by omega),bs,bs,zG,bs,cs,J6,zMX rfl]) (by
  unfold zND;simp only
  rw[hr.1,qT,zM,zKn])
 rw[show((0:Nat):Int)=0 from rfl,zKm hr.1]at this
 grind[f_D]
theorem vJ{D:Nat}{r s:List Int}{k:Int}(hr:Row p D r)(hs:Row p D s)(hk:-7<=k/\k<=7)(hD:D<=1000000):f_A p r k s=iW (wQ p D r k s):=by
 have h7:=hp.pos;have:=zQ (body:=zWb p k s) (r:=wQ p D r k s) (fun i=>(zJ4 p D i r k s,(i:Int))) D (fun i hi=>by
  have a1:=hr.2 i hi;have a2:=hs.2 i hi;have a3:=zCR hp hk a2;unfold zWb;simp only
  rw[zFD,yN hi,zK,hs.1,yN hi,zK,yJ (by grind[zFD]),bs,yJ (by rw[hs.1];exact hi),bs,zG,bs,zQ4 hi,zG,bs,zMY hp (by omega) (by omega),bs,bs,zG,bs,cs,J6,zMX rfl]) (by
  unfold zWb;simp only
  rw[zFD,qT,zM,zKn])
 rw[show((0:Nat):Int)=0 from rfl,zKm hr.1]at this;unfold f_A;rw[wZ (by rw[hr.1];omega),bs,this,bs]
end
theorem zCS{p:Int}{D:Nat}{r s:List Int}:wQ p D r (p-1) s=wQ p D r (-1) s:=zV fun j _=>by rw[show at0 r j+(p-1)*at0 s j=at0 r j+ -1*at0 s j+p*at0 s j from by grind,G1]
theorem zRM{p:Int}{D:Nat}{r s:List Int}(hr:Row p D r)(hs:Row p D s):(∀j,j<D->at0 (wQ p D r (-1) s) j=0)↔r=s:=by
 constructor
 ·intro h
  rw[wI hr.1,wI hs.1];refine zV fun j hj=>?_
  have h1:=h j hj;rw[wQ,zT hj]at h1;have a1:=hr.2 j hj;have a2:=hs.2 j hj;obtain⟨c,hc⟩:=Int.dvd_of_emod_eq_zero h1;have:c=0:=by
   rcases Int.lt_trichotomy c 0 with h|h|h
   ·have:=Ly (show c<= -1 by omega) (show 0<=p by omega);omega
   ·exact h
   ·have:=Ly (show 1<=c by omega) (show 0<=p by omega);omega
  grind
 ·rintro rfl j hj
  rw[wQ,zT hj,show at0 r j+ -1*at0 r j=0 from by omega];simp
def VOk(n:Nat)(p:Int)(D:Nat)(vals:Mx):Prop:=vals.length=n/\ ∀i,i<n->Row p D (vals.getD i [])
def stp(m:zB)(D:Nat)(vals:Mx)(v:List Int)(w:Nat):List Int:=wQ m.Prime D (xG m.Prime D v (m.zF.getD w [])) 1 (vals.getD w [])
def ev(m:zB)(D:Nat)(vals:Mx)(v:List Int)(ws:List Nat):List Int:=ws.foldl (stp m D vals) v
theorem kQ{m:zB}{D:Nat}{vals:Mx}{v:List Int}{a b:List Nat}:ev m D vals v (a++b)=ev m D vals (ev m D vals v a) b:=by simp[ev,Gi]
theorem zOE{m:zB}{D:Nat}{vals:Mx}{w:Nat}:∀(k:Nat)(v:List Int),ev m D vals v (J1 k w)=iter k (fun v=>stp m D vals v w) v
 |0,_=>rfl
 |k+1,v=>by rw[Jt];show ev m D vals (stp m D vals v w) (J1 k w)=_;rw[zOE k];rfl
abbrev z0(D:Nat):List Int:=J1 D 0
theorem zBD{p:Int}{D:Nat}(hp:0<p:=by omega):Row p D (z0 D):=by
 refine⟨by simp,fun i hi=>?_⟩
 grind
theorem vA{p:Int}{D:Nat}{r:List Int}{B:Mx}(hp:0<p:=by omega):Row p D (xG p D r B):=by
 refine⟨zU _ _,fun i hi=>?_⟩;have e1:=Kr (S D (fun l=>at0 r l*ent B l i)) (show p≠0 by omega);have e2:=Ke (S D (fun l=>at0 r l*ent B l i)) hp
 grind[xG,zT]
section
variable {n D:Nat}{m:zB} (hm:MOk n m D) (hn:n<=14) {vals:Mx} (hv:VOk n m.Prime D vals)
 include hm hn hv
theorem zCT{v:List Int}{w:Nat}:Row m.Prime D (stp m D vals v w):=by have _:=hn;have _:=hv;exact uC hm.p
theorem zAu{v:List Int}(h:Row m.Prime D v):∀ws,Row m.Prime D (ev m D vals v ws):=by
 intro ws
 induction ws generalizing v with
 |nil=>exact h
 |cons w ws ih=>exact ih (zCT hm hn hv)
theorem zC4{v:List Int}{w:Nat}(h:Row m.Prime D v)(hw:w<n):zNQ m vals v (w:Int)=iW (stp m D vals v w):=by have _:=hn;have h7:=hm.p.pos;have h3:=hm.d3;unfold zNQ;rw[zY [] (by rw[hm.len];exact hw),bs,hm.d,zCP hm.p (by omega) h (hm.mat w hw),bs,zY [] (by rw[hv.1];exact hw),bs,vJ hm.p (vA) (hv.2 w hw) (by omega) (by omega),bs];rfl
theorem zHm{v x:List Int}(h:Row m.Prime D v)(hl:x.length=n)(hx:∀i,i<n->0<=at0 x i/\at0 x i<=6):zWf m vals v x=iW (ev m D vals v (nw 0 x)):=by
 have:=zQ (body:=zNS m vals x) (r:=ev m D vals v (nw 0 x)) (fun i=>(ev m D vals v (nw 0 (x.take i)),(i:Int))) n (fun i hi=>by
  have aW:=hx i hi;unfold zNS;simp only
  rw[hl,yN hi,zK];rw[uA (S:=Row m.Prime D) (body:=zNR m vals x (ev m D vals v (nw 0 (x.take i)),(i:Int))) (fun v=>v) (fun v=>stp m D vals v i) (at0 x i) aW.1 (by grind[zCT]) (fun u q hu hq=>by
   unfold zNR;simp only
   rw[yJ,bs,jc hq,zK,zC4 hm hn hv hu hi,bs,zG,bs,cs]) (fun u hu=>by
   unfold zNR;simp only
   rw[yJ,bs,jb (by omega),zM]) (zAu hm hn hv h _),bs,zG,bs,cs]
  grind[zLj,kQ,zOE]) (by
  unfold zNS
  grind)
 rw[show((0:Nat):Int)=0 from rfl,Ki]at this
 grind[nw,ev,zWf]
theorem zFE{ws:List Nat}(hw:∀w∈ws,w<n)(hl:ws.length<=1000):zWh m vals (enW ws)=iW (ev m D vals (z0 D) ws):=by
 have h7:=hm.p.pos;have h3:=hm.d3;unfold zWh;rw[hm.d,yP,bs];have hz:=zBD (p:=m.Prime) (D:=D);have dt:(enW ws).length=ws.length:=by simp
 have:=zQ (body:=zNT m vals (enW ws)) (r:=ev m D vals (z0 D) ws) (fun i=>(ev m D vals (z0 D) (ws.take i),(i:Int))) ws.length (fun i hi=>by
  have mD:=hw ws[i] (K3 hi);have hr:=zAu hm hn hv hz (ws.take i);unfold zNT;simp only
  rw[dt,yN hi,zK,uG,Jx,J5 hi];simp only[H6];rw[bs,zG,bs,show((ws[i]:Nat):Int)+1-1=((ws[i]:Nat):Int)from by omega,zED hm hn mD,bs,zC2 hm.p (by omega) hr (hm.mat _ mD) rfl,bs,bs,zY [] (by rw[hv.1];exact mD),bs,qK hm.p (vA) (hv.2 _ mD) (by omega) (by omega),bs,zG,bs,cs,K1 hi,kQ];rfl) (by
  unfold zNT;simp)
 rw[show((0:Nat):Int)=0 from rfl,Ki]at this
 grind[ev]
end
theorem zTY{v:List Int}(hl:v.length<=1000000):IsB (f_V v) (∀i,i<v.length->at0 v i=0):=by
 refine qS v.length (fun i=>at0 v i=0) rfl (fun i hi _=>?_) ?_
 ·unfold zNA
  rw[yN hi,zK,yJ hi,bs]
  by_cases h:at0 v i=0
  ·rw[show(at0 v i != 0)=ja from by grind,zM,zG,bs,cs];grind
  grind
 ·unfold zNA
  simp
theorem zAv{v:List Int}(hl:v.length<=1000000:=by omega):IsB (zJu v) (∀i,i<v.length->at0 v i=0):=zTY hl
section
variable {x:SPr} (h:Pres x) {m:zB}{D:Nat} (hm:MOk x.zA.length m D) {vals:Mx} (hv:VOk x.zA.length m.Prime D vals)
 include h hm hv
abbrev dfc(m:zB)(D:Nat)(vals:Mx)(q:Rl):List Int:=wQ m.Prime D (ev m D vals (z0 D) q.1) (-1) (ev m D vals (z0 D) q.2)
theorem zHC:(xL x).length<=300:=by
 have _:=hv;have _:=hm;have h6:=h.os.1;have dq:=zIM h x.zA.length (Je _)
 grind[xL]
theorem zLl:zY9 x m vals=iW ((xL x).map (dfc m D vals)):=by
 have h6:=h.os.1;have h7:=hm.p.pos;have h3:=hm.d3;have ft:=zHC h hm hv;have hz:=zBD (p:=m.Prime) (D:=D);unfold zY9;rw[zBC h,bs];have:=zQ (body:=zNU m vals ((xL x).map enR)) (r:=(xL x).map (dfc m D vals)) (fun i=>(((xL x).map (dfc m D vals)).take i,(i:Int))) (xL x).length (fun i hi=>by
  have gu:(xL x)[i]∈xL x:=K3 hi;obtain⟨⟨g1,g2⟩,g3,g4⟩:=zEn h gu;unfold zNU;simp only
  rw[Jg,yN hi,zK,uG,Jx,J5 hi];simp only[H6];rw[bs,zFE hm h6 hv g1 g2,bs,zFE hm h6 hv g3 g4,bs,qK hm.p (zAu hm h6 hv hz _) (zAu hm h6 hv hz _) (by omega) (by omega),bs,zX (by simp;omega),bs,zG,bs,cs,K1 (by simpa using hi)];simp) (by
  unfold zNU;simp only
  rw[Jg,qT,zM,Jo (by simp)])
 grind
end
theorem zRN{m:zB}{D:Nat}{vals:Mx}(hp:Prime m.Prime)(hd:m.Dim=(D:Int))(hD:D<=8)(hl:vals.length<=1048576):IsB (yCk m vals) (∀i,i<vals.length->Row m.Prime D (vals.getD i [])):=by
 refine qS vals.length (fun i=>Row m.Prime D (vals.getD i [])) rfl (fun i hi _=>?_) ?_
 ·refine uW (zHk hp hD (r:=vals.getD i [])) (by omega) ?_
  unfold zRp;rw[yN hi,zK,zY [] hi,bs,hd]
 ·unfold zRp
  simp
theorem zQ5{a b:Int}(h:a=b:=by omega):(a==b)=iZ:=by simp[h]
theorem zMZ{a b:Int}(h:a≠b:=by omega):(a==b)=ja:=by simp[h]
theorem IsB.both{o o':Option Bool}{P:Prop}(h:IsB o P)(h':IsB o' P):(o=iW iZ/\o'=iW iZ/\P)\/(o=iW ja/\o'=iW ja/\ ¬P):=by
 rcases h with⟨h1,h2⟩|⟨h1,h2⟩<;>rcases h' with⟨h3,h4⟩|⟨h3,h4⟩
 all_goals grind
def Sp(p:Int)(n:Nat)(R:Mx)(v:List Int):Prop:=∃c:Nat->Int,∀j,j<n->(S R.length fun i=>c i*ent R i j)%p=at0 v j%p
section
variable {p:Int}{n:Nat}{R R':Mx}{u v w:List Int}
theorem qD{i:Nat}(hi:i<R.length:=by omega):Sp p n R (R.getD i []):=by
 refine⟨fun l=>if l=i then 1 else 0,fun j _=>?_⟩
 grind[zBo]
theorem tN{k:Int}(hv:Sp p n R v)(hw:Sp p n R w)(h:∀j,j<n->at0 u j%p=(at0 v j+k*at0 w j)%p):Sp p n R u:=by
 obtain⟨c,hc⟩:=hv;obtain⟨d,hd⟩:=hw;refine⟨fun i=>c i+k*d i,fun j hj=>?_⟩;have e:(S R.length fun i=>(c i+k*d i)*ent R i j)=(S R.length fun i=>c i*ent R i j)+k*(S R.length fun i=>d i*ent R i j):=by
  rw[<-zDG,<-zDF]
  grind
 rw[e,h j hj,Kd,hc j hj,Ju,hd j hj,<-Ju,<-Kd]
theorem zTZ(hv:Sp p n R v)(h:∀j,j<n->at0 u j%p=at0 v j%p):Sp p n R u:=by obtain⟨c,hc⟩:=hv;exact⟨c,by grind⟩
theorem zAa(h:∀j,j<n->at0 u j%p=0):Sp p n R u:=by refine⟨fun _=>0,fun j hj=>?_⟩;rw[h j hj,xK (g:=fun _=>0) (fun i _=>by simp),tZ];simp
theorem zAb(h:∀i,i<R.length->Sp p n R' (R.getD i []))(hv:Sp p n R v):Sp p n R' v:=by
 obtain⟨c,hc⟩:=hv;have key:∀m,m<=R.length-> ∃d:Nat->Int,∀j,j<n->(S R'.length fun i=>d i*ent R' i j)%p=(S m fun i=>c i*ent R i j)%p:=by
  intro m
  induction m with
  |zero=>intro _;exact⟨fun _=>0,fun j _=>by rw[xK (g:=fun _=>0) (fun i _=>by simp),tZ];rfl⟩
  |succ m ih=>
   intro hm;obtain⟨d,hd⟩:=ih (by omega);obtain⟨e,he⟩:=h m (by omega);refine⟨fun i=>d i+c m*e i,fun j hj=>?_⟩;have e1:(S R'.length fun i=>(d i+c m*e i)*ent R' i j)=(S R'.length fun i=>d i*ent R' i j)+c m*(S R'.length fun i=>e i*ent R' i j):=by
    rw[<-zDG,<-zDF]
    grind
   rw[e1,Kd,hd j hj,Ju,he j hj,<-Ju,<-Kd];rfl
 obtain⟨d,hd⟩:=key R.length (Je _);exact⟨d,by grind⟩
end
def kW(p:Int)(n:Nat)(R R':Mx):Prop:=(∀i,i<R.length->Sp p n R' (R.getD i []))/\ ∀i,i<R'.length->Sp p n R (R'.getD i [])
theorem kW.refl{p:Int}{n:Nat}{R:Mx}:kW p n R R:=⟨fun _ h=>qD h,fun _ h=>qD h⟩
theorem kW.symm{p:Int}{n:Nat}{R R':Mx}(h:kW p n R R'):kW p n R' R:=⟨h.2,h.1⟩
theorem kW.trans{p:Int}{n:Nat}{R R' R2:Mx}(h:kW p n R R')(h':kW p n R' R2):kW p n R R2:=⟨fun i hi=>zAb h'.1 (h.1 i hi),fun i hi=>zAb h.2 (h'.2 i hi)⟩
theorem kW.iff{p:Int}{n:Nat}{R R':Mx}{v:List Int}(h:kW p n R R'):Sp p n R v↔Sp p n R' v:=⟨fun g=>zAb h.1 g,fun g=>zAb h.2 g⟩
structure Red (p:Int) (n:Nat) (R:Mx) (pv:Nat->Nat):Prop where
 row:∀i,i<R.length->Row p n (R.getD i [])
 lt:∀i,i<R.length->pv i<n
 one:∀i,i<R.length->ent R i (pv i)=1
 low:∀i,i<R.length-> ∀j,j<pv i->ent R i j=0
 off:∀i k,i<R.length->k<R.length->k≠i->ent R k (pv i)=0
 mono:∀i j,i<j->j<R.length->pv i<pv j
section
variable {p:Int} (hp:1<p) {n:Nat}{R R':Mx}{pv pv':Nat->Nat}{v:List Int}
theorem Red.coef(h:Red p n R pv){c:Nat->Int}(hc:∀j,j<n->(S R.length fun i=>c i*ent R i j)%p=at0 v j%p){k:Nat}(hk:k<R.length):c k%p=at0 v (pv k)%p:=by rw[<-hc (pv k) (h.lt k hk),zBo (k:=k) hk (fun i hi gk=>by rw[h.off k i hk hi gk];simp),h.one k hk];simp
theorem Red.expand(h:Red p n R pv)(hv:Sp p n R v):∀j,j<n->at0 v j%p=(S R.length fun i=>at0 v (pv i)*ent R i j)%p:=by obtain⟨c,hc⟩:=hv;intro j hj;rw[<-hc j hj];exact zAV fun i hi=>by rw[Ju,h.coef hc hi,<-Ju]
theorem Red.lead(h:Red p n R pv)(hv:Sp p n R v)(gk:∃j,j<n/\at0 v j%p≠0):∃i,i<R.length/\(∀j,j<pv i->at0 v j%p=0)/\at0 v (pv i)%p≠0:=by
 have hx:=h.expand hv;have h1:∃i,i<R.length/\at0 v (pv i)%p≠0:=by
  refine Classical.byContradiction fun hn=>?_
  obtain⟨j,hj,dn⟩:=gk;refine dn ?_;rw[hx j hj,zAV (g:=fun _=>0) (fun i hi=>by
   have:at0 v (pv i)%p=0:=by grind
   rw[Ju,this];simp),tZ];rfl
 obtain⟨i,⟨hi,fx⟩,eV⟩:=zE7 h1;refine⟨i,hi,fun j hj=>?_,fx⟩;have bM:j<n:=Nat.lt_trans hj (h.lt i hi);rw[hx j bM,zAV (g:=fun _=>0) (fun k hk=>by
  rcases Jk k i with hki|hki
  ·have:at0 v (pv k)%p=0:=by grind
   rw[Ju,this];simp
  ·have h2:pv i<=pv k:=by
    rcases Jk i k with h3|h3
    ·exact Nat.le_of_lt (h.mono i k h3 hk)
    grind
   rw[h.low k hk j (by omega)];simp),tZ];rfl
 include hp
theorem Red.row_lead(h:Red p n R pv){i:Nat}(hi:i<R.length):(∃j,j<n/\at0 (R.getD i []) j%p≠0)/\(∀j,j<pv i->at0 (R.getD i []) j%p=0)/\at0 (R.getD i []) (pv i)%p≠0:=by
 have h1:at0 (R.getD i []) (pv i)%p≠0:=by have:=h.one i hi;simp only[ent]at this;rw[this,K5 (by omega) hp];omega
 refine⟨⟨pv i,h.lt i hi,h1⟩,fun j hj=>?_,h1⟩;have:=h.low i hi j hj
 simp_all
theorem Red.piv_in(h:Red p n R pv)(h':Red p n R' pv')(hs:∀i,i<R.length->Sp p n R' (R.getD i [])){i:Nat}(hi:i<R.length):∃k,k<R'.length/\pv' k=pv i:=by
 obtain⟨g1,g2,g3⟩:=h.row_lead hp hi;obtain⟨k,hk,g4,g5⟩:=h'.lead (hs i hi) g1
 grind
theorem Red.piv_eq(h:Red p n R pv)(h':Red p n R' pv')(hs:kW p n R R'):∀i,(i<R.length↔i<R'.length)/\(i<R.length->pv i=pv' i):=by
 intro i
 induction i using Nat.strongRecOn with
 |_ i ih=>
  have a:i<R.length->i<R'.length/\pv' i<=pv i:=fun hi=>by
   obtain⟨k,hk,e⟩:=h.piv_in hp h' hs.1 hi;have hki:i<=k:=by
    refine Classical.byContradiction fun hn=>?_
    have h1:=(ih k (by omega)).2 (by omega);have h2:=h.mono k i (by omega) hi;omega
   refine⟨by omega,?_⟩;rcases Jk i k with h3|h3
   ·have:=h'.mono i k h3 hk;omega
   grind
  have b:i<R'.length->i<R.length/\pv i<=pv' i:=fun hi=>by
   obtain⟨k,hk,e⟩:=h'.piv_in hp h hs.2 hi;have hki:i<=k:=by
    refine Classical.byContradiction fun hn=>?_
    have h1:=(ih k (by omega)).2 hk;have h2:=h'.mono k i (by omega) hi;omega
   refine⟨by omega,?_⟩;rcases Jk i k with h3|h3
   ·have:=h.mono i k h3 hk;omega
   grind
  omega
theorem Red.unique(h:Red p n R pv)(h':Red p n R' pv')(hs:kW p n R R'):R=R':=by
 have pJ:=h.piv_eq hp h' hs;have hl:R.length=R'.length:=by
  rcases Qx R.length R'.length with g|g|g
  all_goals grind
 refine zG5 (D:=R.length) rfl hl.symm fun i hi=>?_
 have ex:i<R'.length:=by omega
 have r1:=h.row i hi;have r2:=h'.row i ex;rw[wI r1.1,wI r2.1];refine zV fun j hj=>?_
 have hx:=h'.expand (hs.1 i hi) j hj;rw[xK (g:=fun k=>(if k=i then 1 else 0)*ent R' k j) (fun k hk=>by
  congr 1
  have e:=(pJ k).2 (by omega)
  by_cases hki:k=i
  ·subst hki;rw[if_pos rfl,<-e];exact h.one k hi
  ·rw[if_neg hki,<-e];exact h.off k i (by omega) hi (Ne.symm hki)),zBo (k:=i) ex (fun k _ hk=>by simp[hk])]at hx
 simp only[if_true,Qm,ent]at hx;have a1:=r1.2 j hj;have a2:=r2.2 j hj;rw[K5 a1.1 (by omega),K5 a2.1 (by omega)]at hx;exact hx
end
def mkR(m:Nat)(F:Nat->List Int):Mx:=(J8 m).map F
theorem sT{m:Nat}{F:Nat->List Int}:(mkR m F).length=m:=by simp[mkR]
theorem zAM{m:Nat}{F:Nat->List Int}{i:Nat}(h:i<m):(mkR m F).getD i []=F i:=by simp[mkR,J2,h]
theorem zLm{m:Nat}{F:Nat->List Int}{i:Nat}(h:i<m):ixO (mkR m F) (i:Int)=iW (F i):=by rw[zY [] (by grind[sT]),zAM h]
theorem zAw{m:Nat}{F G:Nat->List Int}(h:∀i,i<m->F i=G i):mkR m F=mkR m G:=by grind[mkR,Uc]
theorem zUa{R:Mx}{m:Nat}(h:R.length=m):R=mkR m (fun i=>R.getD i []):=zG5 (D:=m) h sT (by grind[zAM])
theorem zHD{m:Nat}{F:Nat->List Int}{i:Nat}{a:List Int}:(mkR m F).set i a=mkR m (fun k=>if k=i then a else F k):=by
 apply Kw;intro k
 by_cases hk:k<m
 ·by_cases h:i=k
  ·grind[mkR]
  ·rw[List.getElem?_set_ne h];simp[mkR,hk,Ne.symm h]
 grind[mkR]
theorem zFF{m:Nat}{F:Nat->List Int}{i j:Nat}(h:i<m):ent (mkR m F) i j=at0 (F i) j:=by simp only[ent,zAM h]
theorem zUb{s:Nat->Int×Int×Int×Int}(n:Nat){r:Int×Int}(h:∀i,i<n->zK4 (s i)=iW (.inl (s (i+1))))(he:zK4 (s n)=iW (.inr r)){p q:Int}(hq:zJ8 r.2 p=iW q)(h1:r.1=1)(hs:s 0=(p,(s 0).2.1,0,1)):
  zPq (s 0).2.1 p=iW (q,iZ):=by
 unfold zPq;rw[<-hs,zQ s n h he,bs,hq,bs,h1];rfl
def zUc:List (Int×Int×Int×Int)->Nat->Int×Int×Int×Int:=fun l i=>l.getD i (0,0,0,0)
theorem tO(l:List (Int×Int×Int×Int))(n:Nat){r:Int×Int}(h:∀i,i<n->zK4 (zUc l i)=iW (.inl (zUc l (i+1))))(he:zK4 (zUc l n)=iW (.inr r)){p q x:Int}(hq:zJ8 r.2 p=iW q)(h1:r.1=1)(hs:zUc l 0=(p,x,0,1)):
  zPq x p=iW (q,iZ):=by
 have:=zUb (s:=zUc l) n h he hq h1 (by rw[hs])
 grind
theorem lt1{P:Nat->Prop}(h0:P 0):∀i,i<1->P i:=by grind
theorem lt2{P:Nat->Prop}(h0:P 0)(h1:P 1):∀i,i<2->P i:=by grind
theorem lt3{P:Nat->Prop}(h0:P 0)(h1:P 1)(h2:P 2):∀i,i<3->P i:=by grind
theorem zFG{p x:Int}(hp:Prime p)(h0:1<=x)(h1:x<=p-1):∃r,zPq x p=iW (r,iZ)/\0<=r/\r<=p-1/\(x*r)%p=1:=by
 have c:(p=2/\x=1)\/(p=3/\(x=1\/x=2))\/(p=5/\(x=1\/x=2\/x=3\/x=4))\/(p=7/\(x=1\/x=2\/x=3\/x=4\/x=5\/x=6)):=by unfold Prime at hp;omega
 rcases c with⟨rfl,rfl⟩|⟨rfl,rfl|rfl⟩|⟨rfl,rfl|rfl|rfl|rfl⟩|⟨rfl,rfl|rfl|rfl|rfl|rfl|rfl⟩
 ·exact⟨1,tO [(2,1,0,1),(1,0,1,-2)] 1 (lt1 (by rfl)) (r:=(1,1)) (by rfl) (by rfl) rfl rfl,by decide,by decide,by decide⟩
 ·exact⟨1,tO [(3,1,0,1),(1,0,1,-3)] 1 (lt1 (by rfl)) (r:=(1,1)) (by rfl) (by rfl) rfl rfl,by decide,by decide,by decide⟩
 ·exact⟨2,tO [(3,2,0,1),(2,1,1,-1),(1,0,-1,3)] 2 (lt2 (by rfl) (by rfl)) (r:=(1,-1)) (by rfl) (by rfl) rfl rfl,by decide,by decide,by decide⟩
 ·exact⟨1,tO [(5,1,0,1),(1,0,1,-5)] 1 (lt1 (by rfl)) (r:=(1,1)) (by rfl) (by rfl) rfl rfl,by decide,by decide,by decide⟩
 ·exact⟨3,tO [(5,2,0,1),(2,1,1,-2),(1,0,-2,5)] 2 (lt2 (by rfl) (by rfl)) (r:=(1,-2)) (by rfl) (by rfl) rfl rfl,by decide,by decide,by decide⟩
 ·exact⟨2,tO [(5,3,0,1),(3,2,1,-1),(2,1,-1,2),(1,0,2,-5)] 3 (lt3 (by rfl) (by rfl) (by rfl)) (r:=(1,2)) (by rfl) (by rfl) rfl rfl,by decide,by decide,by decide⟩
 ·exact⟨4,tO [(5,4,0,1),(4,1,1,-1),(1,0,-1,5)] 2 (lt2 (by rfl) (by rfl)) (r:=(1,-1)) (by rfl) (by rfl) rfl rfl,by decide,by decide,by decide⟩
 ·exact⟨1,tO [(7,1,0,1),(1,0,1,-7)] 1 (lt1 (by rfl)) (r:=(1,1)) (by rfl) (by rfl) rfl rfl,by decide,by decide,by decide⟩
 ·exact⟨4,tO [(7,2,0,1),(2,1,1,-3),(1,0,-3,7)] 2 (lt2 (by rfl) (by rfl)) (r:=(1,-3)) (by rfl) (by rfl) rfl rfl,by decide,by decide,by decide⟩
 ·exact⟨5,tO [(7,3,0,1),(3,1,1,-2),(1,0,-2,7)] 2 (lt2 (by rfl) (by rfl)) (r:=(1,-2)) (by rfl) (by rfl) rfl rfl,by decide,by decide,by decide⟩
 ·exact⟨2,tO [(7,4,0,1),(4,3,1,-1),(3,1,-1,2),(1,0,2,-7)] 3 (lt3 (by rfl) (by rfl) (by rfl)) (r:=(1,2)) (by rfl) (by rfl) rfl rfl,by decide,by decide,by decide⟩
 ·exact⟨3,tO [(7,5,0,1),(5,2,1,-1),(2,1,-1,3),(1,0,3,-7)] 3 (lt3 (by rfl) (by rfl) (by rfl)) (r:=(1,3)) (by rfl) (by rfl) rfl rfl,by decide,by decide,by decide⟩
 ·exact⟨6,tO [(7,6,0,1),(6,1,1,-1),(1,0,-1,7)] 2 (lt2 (by rfl) (by rfl)) (r:=(1,-1)) (by rfl) (by rfl) rfl rfl,by decide,by decide,by decide⟩
structure zRO (p:Int) (n m:Nat) (rows:Mx) (c:Nat) (M:Mx) (d:Nat) (pv:Nat->Nat):Prop where
 len:M.length=m
 row:∀i,i<m->Row p n (M.getD i [])
 dm:d<=m
 lt:∀i,i<d->pv i<c
 one:∀i,i<d->ent M i (pv i)=1
 low:∀i,i<d-> ∀j,j<pv i->ent M i j=0
 off:∀i k,i<d->k<m->k≠i->ent M k (pv i)=0
 mono:∀i j,i<j->j<d->pv i<pv j
 zero:∀k,d<=k->k<m-> ∀j,j<c->ent M k j=0
 sp:kW p n M rows
theorem zCU{p:Int}{n m:Nat}{F:Nat->List Int}{i:Nat}(h:i<m:=by omega):Sp p n (mkR m F) (F i):=by
 have:=qD (p:=p) (n:=n) (R:=mkR m F) (i:=i) (by grind[sT])
 grind[zAM]
theorem zUd(a e r p:Int):a%p=((a+(0-e)*r)%p+e*r)%p:=by rw[Kd,Jy,<-Kd,show a+(0-e)*r+e*r=a from by grind]
section
variable {p:Int} (hp:Prime p) {n m:Nat}{rows:Mx}{c:Nat}{M:Mx}{d:Nat}{pv:Nat->Nat} (h:zRO p n m rows c M d pv) (hc:c<n) (hd:d<m)
 include hp h hc hd
theorem zRO.pivot{t:Nat}(ht:d<=t)(tk:t<m)(gk:ent M t c≠0){q:Int}(hq:(ent M t c*q)%p=1):
  zRO p n m rows (c+1) (mkR m fun i=>if i=d then mkv n fun j=>(ent M t j*q)%p else wQ p n (if i=t then M.getD d []else M.getD i []) (0-at0 (if i=t then M.getD d []else M.getD i []) c) (mkv n fun j=>(ent M t j*q)%p)) (d+1) (fun i=>if i=d then c else pv i):=by
 have h7:=hp.pos;have pr:∀j,j<n->at0 (mkv n fun j=>(ent M t j*q)%p) j=(ent M t j*q)%p:=fun j hj=>zT hj
 have p0:∀j,j<c->(ent M t j*q)%p=0:=fun j hj=>by rw[h.zero t ht tk j hj];simp
 have prow:Row p n (mkv n fun j=>(ent M t j*q)%p):=⟨zU _ _,fun j hj=>by have e1:=Kr (ent M t j*q) (show p≠0 by omega);have e2:=Ke (ent M t j*q) (show 0<p by omega);rw[pr j hj];omega⟩
 have hG:∀i,i<m->i≠d->Row p n (if i=t then M.getD d []else M.getD i []):=fun i hi _=>by
  split
  ·exact h.row d hd
  ·exact h.row i hi
 have eo:∀i j,i<m->i≠d->j<n->ent (mkR m fun i=>if i=d then mkv n fun j=>(ent M t j*q)%p else wQ p n (if i=t then M.getD d []else M.getD i []) (0-at0 (if i=t then M.getD d []else M.getD i []) c) (mkv n fun j=>(ent M t j*q)%p)) i j=(at0 (if i=t then M.getD d []else M.getD i []) j+(0-at0 (if i=t then M.getD d []else M.getD i []) c)*((ent M t j*q)%p))%p:=fun i j hi eM hj=>by rw[zFF hi,if_neg eM,wQ,zT hj,pr j hj]
 have el:∀i j,i<m->i≠d->j<c->ent (mkR m fun i=>if i=d then mkv n fun j=>(ent M t j*q)%p else wQ p n (if i=t then M.getD d []else M.getD i []) (0-at0 (if i=t then M.getD d []else M.getD i []) c) (mkv n fun j=>(ent M t j*q)%p)) i j=at0 (if i=t then M.getD d []else M.getD i []) j:=fun i j hi eM hj=>by rw[eo i j hi eM (by omega),p0 j hj,Lp,Lv];have:=(hG i hi eM).2 j (by omega);exact K5 this.1 (by omega)
 have ed:∀j,j<n->ent (mkR m fun i=>if i=d then mkv n fun j=>(ent M t j*q)%p else wQ p n (if i=t then M.getD d []else M.getD i []) (0-at0 (if i=t then M.getD d []else M.getD i []) c) (mkv n fun j=>(ent M t j*q)%p)) d j=(ent M t j*q)%p:=fun j hj=>by rw[zFF hd,if_pos rfl,pr j hj]
 have ec:∀i,i<m->i≠d->ent (mkR m fun i=>if i=d then mkv n fun j=>(ent M t j*q)%p else wQ p n (if i=t then M.getD d []else M.getD i []) (0-at0 (if i=t then M.getD d []else M.getD i []) c) (mkv n fun j=>(ent M t j*q)%p)) i c=0:=fun i hi eM=>by rw[eo i c hi eM hc,hq,H2];rw[show at0 (if i=t then M.getD d []else M.getD i []) c+(0-at0 (if i=t then M.getD d []else M.getD i []) c)=0 from by omega];simp
 have fJ:∀i,i<d->(if i=t then M.getD d []else M.getD i [])=M.getD i []:=fun i hi=>by rw[if_neg (by omega)]
 have bv:∀i,d<=i->i<m-> ∀j,j<c->at0 (if i=t then M.getD d []else M.getD i []) j=0:=fun i hi fx j hj=>by
  split
  ·exact h.zero d (Je _) hd j hj
  ·exact h.zero i hi fx j hj
 refine⟨sT,fun i hi=>?_,by omega,fun i hi=>?_,fun i hi=>?_,fun i hi j hj=>?_,fun i k hi hk eM=>?_,fun i j gR hj=>?_,fun k hk fd j hj=>?_,?_⟩
 ·rw[zAM hi]
  split
  ·exact prow
  ·exact uC hp
 ·by_cases eL:i=d
  ·rw[if_pos eL];omega
  ·rw[if_neg eL];have:=h.lt i (by omega);omega
 ·by_cases eL:i=d
  ·subst eL;rw[if_pos rfl,ed c hc,hq]
  ·have h1:=h.lt i (by omega)
   rw[if_neg eL,el i _ (by omega) eL h1,fJ i (by omega)];exact h.one i (by omega)
 ·by_cases eL:i=d
  ·subst eL
   rw[if_pos rfl]at hj;rw[ed j (by omega),p0 j hj]
  ·rw[if_neg eL]at hj
   have h1:=h.lt i (by omega);rw[el i j (by omega) eL (by omega),fJ i (by omega)];exact h.low i (by omega) j hj
 ·by_cases eL:i=d
  ·subst eL
   rw[if_pos rfl];exact ec k hk eM
  ·have h1:=h.lt i (by omega)
   rw[if_neg eL]
   by_cases mW:k=d
   ·subst mW
    rw[ed _ (by omega),h.off i t (by omega) tk (by omega)];simp
   ·rw[el k _ hk mW h1]
    split
    ·exact h.off i d (by omega) hd (Ne.symm eL)
    ·exact h.off i k (by omega) hk eM
 ·by_cases hjd:j=d
  ·subst hjd
   rw[if_pos rfl,if_neg (by omega)];exact h.lt i (by omega)
  ·rw[if_neg hjd,if_neg (by omega)];exact h.mono i j gR (by omega)
 ·rcases Jk j c with hjc|hjc
  ·rw[el k j fd (by omega) hjc];exact bv k (by omega) fd j hjc
  ·rw[show j=c from by omega];exact ec k fd (by omega)
 ·refine kW.trans ⟨fun i hi=>?_,fun i hi=>?_⟩ h.sp
  ·rw[sT]at hi
   rw[zAM hi];have hr:Sp p n M (mkv n fun j=>(ent M t j*q)%p):=by
    refine tN (k:=q) (zAa (u:=[]) fun j _=>by simp[at0]) (qD (R:=M) (i:=t) (by rw[h.len];exact tk)) fun j hj=>?_
    rw[pr j hj,Jy,Ht];simp[at0]
   split
   ·exact hr
   ·refine tN (k:=0-at0 (if i=t then M.getD d []else M.getD i []) c) (v:=if i=t then M.getD d []else M.getD i []) ?_ hr fun j hj=>?_
    ·split
     ·exact qD (by rw[h.len];exact hd)
     ·exact qD (by rw[h.len];exact hi)
    ·rw[wQ,zT hj,Jy]
  ·rw[h.len]at hi
   have hr:=zCU (p:=p) (n:=n) (m:=m) (F:=fun i=>if i=d then mkv n fun j=>(ent M t j*q)%p else wQ p n (if i=t then M.getD d []else M.getD i []) (0-at0 (if i=t then M.getD d []else M.getD i []) c) (mkv n fun j=>(ent M t j*q)%p)) hd;simp only[if_true]at hr;have hg:∀k,k<m->k≠d->Sp p n (mkR m fun i=>if i=d then mkv n fun j=>(ent M t j*q)%p else wQ p n (if i=t then M.getD d []else M.getD i []) (0-at0 (if i=t then M.getD d []else M.getD i []) c) (mkv n fun j=>(ent M t j*q)%p)) (if k=t then M.getD d []else M.getD k []):=fun k hk mW=>by
    have h1:=zCU (p:=p) (n:=n) (m:=m) (F:=fun i=>if i=d then mkv n fun j=>(ent M t j*q)%p else wQ p n (if i=t then M.getD d []else M.getD i []) (0-at0 (if i=t then M.getD d []else M.getD i []) c) (mkv n fun j=>(ent M t j*q)%p)) hk;simp only[if_neg mW]at h1;refine tN (k:=at0 (if k=t then M.getD d []else M.getD k []) c) h1 hr fun j hj=>?_
    rw[wQ,zT hj,pr j hj];exact zUd _ _ _ _
   by_cases ew:i=t
   ·
    subst ew;refine tN (k:=ent M i c) (zAa (u:=[]) fun j _=>by simp[at0]) hr fun j hj=>?_
    rw[pr j hj];have e1:(ent M i c*((ent M i j*q)%p))%p=(ent M i j*((ent M i c*q)%p))%p:=by
     rw[Ju,Jy,<-Ju,Ju (ent M i j),Jy,<-Ju]
     congr 1
     rw[<-Hm,<-Hm,Ht (ent M i c)]
    rw[show at0 ([]:List Int) j=0 from by simp[at0],L4,e1,hq,H2]
   ·by_cases eL:i=d
    ·subst eL
     have:=hg t tk (by omega);rw[if_pos rfl]at this;exact this
    ·have:=hg i hi eL
     rw[if_neg ew]at this;exact this
end
theorem zAx{v:List Int}(h:v.length<=1000000:=by omega):f_O v=iW v:=by grind[f_O,zX]
theorem zJ5{rows:Mx}(hm:rows.length<=1000000)(hn:∀i,i<rows.length->(rows.getD i []).length<=1000000):zY7 rows=iW rows:=by
 unfold zY7;have:=zQ (body:=zNI rows) (r:=rows) (fun i=>(rows.take i,(i:Int))) rows.length (fun i hi=>by
  unfold zNI;simp only
  rw[yN hi,zK,zY [] hi,bs,zAx (hn i hi),bs,zX (by simp;omega),bs,zG,bs,cs,K1 hi,J2,J5 hi];rfl) (by
  unfold zNI;simp)
 grind
theorem zRP{M:Mx}{d c m n:Nat}(hm:M.length=m)(hd:d<=m)(hmm:m<=1000000)(gX:∀i,i<m->(M.getD i []).length=n)(hc:c<n):
  ∃t:Nat,d<=t/\t<=m/\zH (zJ9 (M,(d:Int),(c:Int))) (d:Int)=iW (t:Int)/\(∀k,d<=k->k<t->ent M k c=0)/\(t<m->ent M t c≠0):=by
 have key:∀k,k<=m-d-> ∃t:Nat,m-k<=t/\t<=m/\zH (zJ9 (M,(d:Int),(c:Int))) ((m-k:Nat):Int)=iW (t:Int)/\(∀q,m-k<=q->q<t->ent M q c=0)/\(t<m->ent M t c≠0):=by
  intro k
  induction k with
  |zero=>
   intro _;refine⟨m,by omega,Je _,?_,by omega,fun h=>by omega⟩;rw[yR];unfold zJ9
   grind
  |succ k ih=>
   intro hk;obtain⟨t,h1,h2,h3,h4,h5⟩:=ih (by omega);have gJ:m-(k+1)<m:=by omega
   by_cases hz:ent M (m-(k+1)) c=0
   ·refine⟨t,by omega,h2,?_,fun q q1 q2=>?_,h5⟩
    ·rw[yR]
     have e:zJ9 (M,(d:Int),(c:Int)) ((m-(k+1):Nat):Int)=iW (.inl ((m-k:Nat):Int)):=by
      unfold zJ9;simp only
      rw[hm,yN gJ,zK,zY [],bs,yJ (by rw[gX _ gJ];exact hc),bs,zQ5 hz,zK,zG,bs,cs,show m-(k+1)+1=m-k from by omega]
     grind
    grind
   ·refine⟨m-(k+1),Je _,by omega,?_,by omega,fun _=>hz⟩
    rw[yR];have e:zJ9 (M,(d:Int),(c:Int)) ((m-(k+1):Nat):Int)=iW (.inr ((m-(k+1):Nat):Int)):=by
     unfold zJ9;simp only
     rw[hm,yN gJ,zK,zY [],bs,yJ (by rw[gX _ gJ];exact hc),bs,zMZ hz,zM]
    rw[e]
 obtain⟨t,h1,h2,h3,h4,h5⟩:=key (m-d) (Je _);rw[show m-(m-d)=d from by omega]at h1 h3 h4
 grind
section
variable {p:Int} (hp:Prime p) {n m:Nat}{M:Mx}{d c t:Nat}
 include hp
theorem zOF{F:Nat->List Int}{q:Int}{b:Bool}(hd:d<m)(hr:Row p n (F d))(hn:n<=1000000)(hq:0<=q/\q<=p-1){v:List Int}(hv:v.length=n){s:Mx×Int×Int}(hs:s.2.1=(d:Int)):
  zH (zNJ p s (q,b) v) (mkR m F,0)=iW (mkR m fun i=>if i=d then mkv n fun j=>(at0 (F d) j*q)%p else F i):=by
 have h7:=hp.pos;have:=zQ (body:=zNJ p s (q,b) v) (r:=mkR m fun i=>if i=d then mkv n fun j=>(at0 (F d) j*q)%p else F i) (fun k=>(mkR m fun i=>if i=d then mkv n (fun j=>if j<k then(at0 (F d) j*q)%p else at0 (F d) j)else F i,(k:Int))) n (fun k hk=>by
  have a1:=hr.2 k hk;have a2:=zCR hp (k:=q) (by omega) a1;have a3:=Hz a1.1 hq.1;rw[Ht]at a2;unfold zNJ;simp only
  rw[hv,yN hk,zK,hs,zLm hd];simp only[bs,if_true];rw[yJ (by grind[zU]),zT hk,if_neg (by omega)];simp only[bs];rw[zG];simp only[bs,xC];rw[if_neg (by omega)];simp only[bs];rw[Lm a3,zG];simp only[bs,J6,cs];rw[zHD]
  congr 3
  refine zAw fun i _=>?_
  by_cases hi:i=d
  ·rw[if_pos hi,if_pos hi,qJ]
   grind
  grind) (by
  unfold zNJ;simp only
  rw[hv,qT,zM]
  congr 2
  refine zAw fun i _=>?_
  split
  ·exact zV (by omega)
  ·rfl)
 rw[show((0:Nat):Int)=0 from rfl]at this;rw[<-this]
 congr 2
 refine zAw fun i _=>?_
 split
 ·rename_i e;subst e
  conv=>lhs;rw[wI hr.1]
  rfl
 ·rfl
theorem zOG{F:Nat->List Int}(hd:d<m)(hc:c<n)(hr:∀i,i<m->Row p n (F i))(hn:n<=1000000)(hm:m<=1000000){r21:Mx}(hl:r21.length=m){s:Mx×Int×Int}(hs:s.2.1=(d:Int))(pd:s.2.2=(c:Int)):
  zH (zPr p s r21) (mkR m F,0)=iW (mkR m fun i=>if i=d then F d else wQ p n (F i) (0-at0 (F i) c) (F d)):=by
 have h7:=hp.pos;have:=zQ (body:=zPr p s r21) (r:=mkR m fun i=>if i=d then F d else wQ p n (F i) (0-at0 (F i) c) (F d)) (fun k=>(mkR m fun i=>if i<k/\i≠d then wQ p n (F i) (0-at0 (F i) c) (F d)else F i,(k:Int))) m (fun k hk=>by
  have a1:=(hr k hk).2 c hc;unfold zPr;simp only
  rw[hl,yN hk,zK,hs,pd]
  by_cases mW:k=d
  ·subst mW
   rw[zBn rfl,zM,zG,bs,cs]
   grind
  ·rw[kZ,zK,zLm hk,zLm hd]
   simp only[bs,ne_eq,not_true_eq_false,and_false,if_false,Jb6,false_and];rw[yJ (by rw[(hr k hk).1];exact hc)];simp only[bs];rw[zG];simp only[bs];rw[qK hp (hr k hk) (hr d hd) (by omega) hn,bs,zG];simp only[bs,J6,cs];rw[zHD]
   grind) (by
  unfold zPr;simp only
  rw[hl,qT,zM]
  congr 2
  refine zAw fun i hi=>?_
  grind)
 grind
end
theorem Red.empty{p:Int}{n:Nat}:Red p n [] (fun _=>0):=⟨by simp,by simp,by simp,by simp,by simp,by simp⟩
theorem zRO.take{p:Int}{n m:Nat}{rows:Mx}{c:Nat}{M:Mx}{d:Nat}{pv:Nat->Nat}(h:zRO p n m rows c M d pv)(aL:c<=n)(hz:∀k,d<=k->k<m-> ∀j,j<n->ent M k j=0):Red p n (M.take d) pv/\kW p n (M.take d) rows:=by
 have hl:(M.take d).length=d:=by rw[Kf,h.len];exact Hl h.dm
 have hg:∀i,i<d->(M.take d).getD i []=M.getD i []:=by grind
 have dm:=h.dm;refine⟨⟨fun i hi=>?_,fun i hi=>?_,fun i hi=>?_,fun i hi j hj=>?_,fun i k hi hk gk=>?_,fun i j gR hj=>?_⟩,kW.trans ⟨fun i hi=>?_,fun i hi=>?_⟩ h.sp⟩
 ·rw[hl]at hi;rw[hg i hi];exact h.row i (by omega)
 ·rw[hl]at hi;have:=h.lt i hi;omega
 ·rw[hl]at hi;simp only[ent,hg i hi];exact h.one i hi
 ·rw[hl]at hi;simp only[ent,hg i hi];exact h.low i hi j hj
 ·rw[hl]at hi hk;simp only[ent,hg k hk];exact h.off i k hi (by omega) gk
 ·rw[hl]at hj;exact h.mono i j gR hj
 ·grind[qD]
 ·rw[h.len]at hi
  rcases Jk i d with g|g
  ·grind[qD]
  ·exact zAa fun j hj=>by simp_all
section
variable {p:Int} (hp:Prime p) {n:Nat}{rows:Mx} (hn:n<=100000) (hm:rows.length<=600000) (hr:∀i,i<rows.length->Row p n (rows.getD i []))
 include hp hn hm hr
theorem zNa:∃R pv,f_i p rows=iW R/\Red p n R pv/\kW p n R rows:=by
 have h7:=hp.pos;unfold f_i;rw[zJ5 (by omega) (fun i hi=>by have:=(hr i hi).1;omega),bs];have main:=uU (body:=zPs p) (s:=(rows,0,0)) (Q:=fun r=> ∃(M:Mx)(d:Nat)(pv:Nat->Nat),r=(M,(d:Int))/\d<=M.length/\Red p n (M.take d) pv/\kW p n (M.take d) rows)
  (fun i s=> ∃(M:Mx)(d:Nat)(pv:Nat->Nat),s=(M,(d:Int),(i:Int))/\zRO p n rows.length rows i M d pv/\i<=n) n (fun c s hc hI=>?_) (fun s hI=>?_) ⟨rows,0,fun _=>0,rfl,⟨rfl,hr,Kg _,fun _ h=>by omega,fun _ h=>by omega,fun _ h=>by omega,fun _ _ h=>by omega,fun _ _ _ h=>by omega,fun _ _ _ _ h=>by omega,kW.refl⟩,Kg _⟩
 ·obtain⟨r,h1,M,d,pv,rfl,hd,hR,hS⟩:=main
  rw[h1,bs];simp only
  have e:zL M 0 (d:Int)=iW (M.take d):=by unfold zL;rw[if_pos ⟨by omega,by omega,by omega⟩];simp
  rw[e,bs];exact⟨_,_,rfl,hR,hS⟩
 ·
  obtain⟨M,d,pv,rfl,h,aL⟩:=hI;have hl:=h.len;have bg:=h.dm
  by_cases h0:rows.length=0
  ·refine .inr ⟨(M,(d:Int)),?_,M,d,pv,rfl,by omega,h.take aL fun k hk fd=>by omega⟩
   unfold zPs;simp only
   rw[jb (by omega),zM]
  have e0:zPs p (M,(d:Int),(c:Int))=cond (decide ((d:Int)<(M.length:Int))) ((zH (zJ9 (M,(d:Int),(c:Int))) (d:Int)).bind fun r6=>
    cond (r6==(M.length:Int)) ((rng ((c:Int)+1)).bind fun v7=>iW (.inl (M,(d:Int),v7))) (
     (ixO M r6).bind fun v8=>(ixO M (d:Int)).bind fun v9=>(ixO (zAj M (d:Int) r6 v8 v9) (d:Int)).bind fun v10=>(ixO v10 (c:Int)).bind fun v11=>(zPq v11 p).bind fun r12=>
     (ixO (zAj M (d:Int) r6 v8 v9) (d:Int)).bind fun v13=>(zH (zNJ p (M,(d:Int),(c:Int)) r12 v13) (zAj M (d:Int) r6 v8 v9,0)).bind fun r21=>
     (zH (zPr p (M,(d:Int),(c:Int)) r21) (r21,0)).bind fun r30=>(rng ((d:Int)+1)).bind fun v31=>(rng ((c:Int)+1)).bind fun v32=>iW (.inl (r30,v31,v32)))) (iW (.inr (M,(d:Int)))):=by
   unfold zPs;simp only
   have hx:ixO M (0:Int)=iW (M.getD 0 []):=by have:=zY (v:=M) (i:=0) [];exact this
   rw[jc,zK,hx];simp only[bs];rw[(h.row 0 (by omega)).1,yN hc,zK]
  rcases Jk d rows.length with hd|hd
  ·obtain⟨t,t1,t2,t3,t4,t5⟩:=zRP (M:=M) (d:=d) (c:=c) (m:=rows.length) (n:=n) hl bg (by omega) (fun i hi=>(h.row i hi).1) hc
   rw[e0,hl,yN hd,zK,t3];simp only[bs]
   by_cases tk:t=rows.length
   ·
    left;refine⟨(M,(d:Int),((c+1:Nat):Int)),?_,M,d,pv,rfl,⟨hl,h.row,bg,fun i hi=>by have:=h.lt i hi;omega,h.one,h.low,h.off,h.mono,fun k k1 k2 j hj=>?_,h.sp⟩,by omega⟩
    ·rw[zQ5,zK,zG,bs,cs]
    ·rcases Jk j c with g|g
     ·exact h.zero k k1 k2 j g
     ·rw[show j=c from by omega];exact t4 k k1 (by omega)
   ·have fa:t<rows.length:=by omega
    have gk:=t5 fa;have fb:=h.row t fa;have hrc:=fb.2 c hc;obtain⟨q,q1,q2,q3,q4⟩:=zFG (p:=p) (x:=ent M t c) hp (by simp only[ent]at gk ⊢;omega) (by simp only[ent];omega);left;have hM:M=mkR rows.length (fun i=>M.getD i []):=zUa hl;obtain⟨F,hF⟩:∃F:Nat->List Int,∀i,F i=if i=t then M.getD d []else if i=d then M.getD t []else M.getD i []:=⟨_,fun _=>rfl⟩
    have fT:zAj M (d:Int) (t:Int) (M.getD t []) (M.getD d [])=mkR rows.length F:=by
     unfold zAj;rw[J6,J6]
     conv=>lhs;rw[hM]
     rw[zHD,zHD];exact zAw fun i hi=>by rw[hF,zAM hd,zAM fa]
    have ml:∀i,i<rows.length->Row p n (F i):=fun i hi=>by
     rw[hF];split
     ·exact h.row d hd
     ·split
      ·exact fb
      ·exact h.row i hi
    have hFd:F d=M.getD t []:=by
     rw[hF]
     by_cases e:d=t
     ·rw[if_pos e,e]
     ·rw[if_neg e,if_pos rfl]
    obtain⟨G,hG⟩:∃G:Nat->List Int,∀i,G i=if i=d then mkv n fun j=>(at0 (F d) j*q)%p else F i:=⟨_,fun _=>rfl⟩
    have hGd:G d=mkv n fun j=>(ent M t j*q)%p:=by rw[hG,if_pos rfl,hFd]
    have hGo:∀i,i≠d->G i=if i=t then M.getD d []else M.getD i []:=fun i eL=>by rw[hG,if_neg eL,hF];simp only[eL,if_false]
    have bC:zH (zNJ p (M,(d:Int),(c:Int)) (q,iZ) (M.getD t [])) (mkR rows.length F,0)=iW (mkR rows.length G):=by
     rw[zOF hp (F:=F) hd (ml d hd) (by omega) ⟨q2,q3⟩ fb.1 rfl]
     congr 1
     exact zAw fun i _=>(hG i).symm
    have hF3:∀i,i<rows.length->Row p n (G i):=fun i hi=>by
     rw[hG];split
     ·refine⟨zU _ _,fun j hj=>?_⟩
      have e1:=Kr (at0 (F d) j*q) (show p≠0 by omega);have e2:=Ke (at0 (F d) j*q) (show 0<p by omega);rw[zT hj];omega
     ·exact ml i hi
    have gy:=zOG hp (c:=c) (F:=G) hd hc hF3 (by omega) (by omega) (r21:=mkR rows.length G) sT (s:=(M,(d:Int),(c:Int))) rfl rfl;rw[zMZ,zM,zY [],zY []];simp only[bs];rw[fT,zLm hd,hFd];simp only[bs];rw[yJ (by rw[fb.1];exact hc)];simp only[bs];rw[show at0 (M.getD t []) c=ent M t c from rfl,q1];simp only[bs];rw[bC];simp only[bs];rw[gy];simp only[bs];rw[zG,zG];simp only[bs,cs];have bc:=h.pivot hp hc hd t1 fa gk q4;refine⟨_,rfl,_,d+1,fun i=>if i=d then c else pv i,rfl,?_,by omega⟩;have e3:(mkR rows.length fun i=>if i=d then G d else wQ p n (G i) (0-at0 (G i) c) (G d))=(mkR rows.length fun i=>if i=d then mkv n fun j=>(ent M t j*q)%p else wQ p n (if i=t then M.getD d []else M.getD i []) (0-at0 (if i=t then M.getD d []else M.getD i []) c) (mkv n fun j=>(ent M t j*q)%p)):=by
     refine zAw fun i hi=>?_
     rw[hGd]
     by_cases eL:i=d
     ·rw[if_pos eL,if_pos eL]
     ·rw[if_neg eL,if_neg eL,hGo i eL]
    rw[e3];exact bc
  ·
   refine .inr ⟨(M,(d:Int)),?_,M,d,pv,rfl,by omega,h.take aL fun k hk fd=>by omega⟩;rw[e0,jb (by omega),zM]
 ·
  obtain⟨M,d,pv,rfl,h,aL⟩:=hI;have hl:=h.len;have bg:=h.dm;refine⟨(M,(d:Int)),?_,M,d,pv,rfl,by omega,h.take aL fun k hk fd j hj=>h.zero k hk fd j hj⟩;unfold zPs;simp only
  by_cases h0:rows.length=0
  ·rw[jb (by omega),zM]
  ·have hx:ixO M (0:Int)=iW (M.getD 0 []):=by
    have:=zY (v:=M) (i:=0) [];exact this
   rw[jc,zK,hx];simp only[bs];rw[(h.row 0 (by omega)).1,qT,zM]
end
theorem zKo{v:List Int}{n:Nat}(hl:v.length=n)(hn:n<=1000000:=by omega):∃k:Nat,k<=n/\f_P v=iW (k:Int)/\(∀j,j<k->at0 v j=0)/\(k<n->at0 v k≠0):=by
 unfold f_P;rcases chk (body:=zJA v) n 0 (Kg _) (fun i=>at0 v i=0) (fun i=>(i:Int)) (fun i _ hi _=>by
   unfold zJA;rw[hl,yN hi,zK,yJ,bs]
   by_cases h:at0 v i=0
   ·rw[zBn h,zM,zG,bs,cs];grind
   grind) (by
   unfold zJA
   grind)with⟨h1,h2⟩|⟨i,_,hi,h1,h2⟩
 ·grind
 ·rw[show((0:Nat):Int)=0 from rfl]at h1
  rw[h1,bs];obtain⟨k,⟨hk1,fd⟩,eV⟩:=zE7 (p:=fun k=>k<n/\at0 v k≠0) ⟨i,hi,h2⟩;have hz:∀j,j<k->at0 v j=0:=by grind
  have hki:k=i:=by
   have fK:∀q,q<=k->zH (zJA v) ((k-q:Nat):Int)=iW (.inr (k:Int)):=by
    intro q
    induction q with
    |zero=>
     intro _;rw[yR];have e:zJA v ((k-0:Nat):Int)=iW (.inr (.inr (k:Int))):=by unfold zJA;rw[show k-0=k from rfl,hl,yN hk1,zK,yJ,bs,kZ fd,zK]
     rw[e]
    |succ q ih=>
     intro hq;rw[yR];have e:zJA v ((k-(q+1):Nat):Int)=iW (.inl ((k-q:Nat):Int)):=by unfold zJA;rw[hl,yN,zK,yJ,bs,zBn (hz _ (by omega)),zM,zG,bs,cs,show k-(q+1)+1=k-q from by omega]
     grind
   have:=fK k (Je _)
   grind
  grind
theorem zHE{v:List Int}{n k:Nat}(hl:v.length=n)(hn:n<=1000000)(hk:k<n)(h0:∀j,j<k->at0 v j=0)(h1:at0 v k≠0:=by omega):f_P v=iW (k:Int):=by grind[zKo]
theorem zUe{p x:Int}(hp:Prime p)(h0:1<=x:=by omega)(h1:x<=p-1:=by omega):∃r,zY8 x p=iW r/\0<=r/\r<=p-1/\(x*r)%p=1:=by
 have h7:=hp.pos;have hx:∃k:Nat,1<=k/\(k:Int)<p/\(x*(k:Int))%p=1:=by
  obtain⟨r,_,r1,r2,r3⟩:=zFG hp h0 h1;refine⟨r.toNat,?_,by omega,by grind⟩;rcases Int.lt_or_eq_of_le r1 with g|g
  ·omega
  ·rw[<-g]at r3;simp at r3
 obtain⟨k,⟨k1,k2,k3⟩,eV⟩:=zE7 hx;have body:∀i:Nat,1<=i->(i:Int)<p->zNM x p (i:Int)=cond ((x*(i:Int))%p==1) (iW (.inr (.inr (i:Int)))) (iW (.inl ((i+1:Nat):Int))):=fun i hi hip=>by
  have a3:=Hz (show 0<=x by omega) (show 0<=(i:Int)by omega);have a4:=zCR hp (k:=(i:Int)) (by omega) (b:=x) ⟨by omega,h1⟩;rw[Ht]at a4;unfold zNM;rw[jc hip,zK,zMY hp (by omega) (by omega),bs,K5 (by omega) (by omega),zG,bs];unfold xC;rw[if_neg (by omega),bs,Lm a3]
  by_cases hh:(x*(i:Int))%p=1
  ·grind
  ·rw[zMZ hh,zM,zM,zG,bs,cs]
 have fK:∀q,q+1<=k->zH (zNM x p) ((k-q:Nat):Int)=iW (.inr (k:Int)):=by
  intro q
  induction q with
  |zero=>
   intro _;rw[yR,show k-0=k from rfl,body k k1 k2,zQ5 k3,zK]
  |succ q ih=>
   intro hq;have gk:(x*((k-(q+1):Nat):Int))%p≠1:=by grind
   rw[yR,body _ (by omega) (by omega),zMZ gk,zM,show k-(q+1)+1=k-q from by omega]
   grind
 have:=fK (k-1) (by omega);rw[show k-(k-1)=1 from by omega,show((1:Nat):Int)=1 from rfl]at this
 grind[zY8]
section
variable {p:Int} (hp:Prime p) {n:Nat} (hn:n<=100000)
 include hp hn
theorem yB3{r s:List Int}(hr:Row p n r):wQ p n r p s=r:=by
 have _:=hp;have _:=hn
 conv=>rhs;rw[wI hr.1]
 refine zV fun j hj=>?_
 have:=hr.2 j hj;rw[G1];exact K5 this.1 (by omega)
def cl(p:Int)(n:Nat)(out:Mx)(pv:Nat->Nat)(v:List Int):Nat->List Int
 |0=>v
 |i+1=>wQ p n (cl p n out pv v i) (p-at0 (cl p n out pv v i) (pv i)) (out.getD i [])
variable {out:Mx}{pv:Nat->Nat} (h:Red p n out pv) {v:List Int} (hv:Row p n v)
 include h hv
theorem zAy:∀i,Row p n (cl p n out pv v i):=by
 have _:=hn;have _:=h;intro i;cases i with
 |zero=>exact hv
 |succ i=>exact uC hp
theorem zLn:∀i,i<=out.length-> ∀k,k<i->at0 (cl p n out pv v i) (pv k)=0:=by
 have _:=hn;have _:=hv;have h7:=hp.pos;intro i
 induction i with
 |zero=>simp
 |succ i ih=>
  intro hi k hk;have gJ:=h.lt k (by omega);rw[cl,wQ,zT gJ];rcases Jk k i with g|g
  ·have h1:=ih (by omega) k g
   have h2:=h.off k i (by omega) (by omega) (by omega)
   simp_all
  ·have hki:k=i:=by omega
   subst hki;have h2:=h.one k (by omega);simp only[ent]at h2;rw[h2,H2,show at0 (cl p n out pv v k) (pv k)+(p-at0 (cl p n out pv v k) (pv k))=p from by omega,Int.emod_self]
theorem zLo:∀i,i<=out.length-> ∃cf:Nat->Int,∀j,j<n->at0 (cl p n out pv v i) j%p=(at0 v j+S out.length fun k=>cf k*ent out k j)%p:=by
 have _:=hp;have _:=h;have _:=hv;have _:=hn;intro i
 induction i with
 |zero=>intro _;exact⟨fun _=>0,fun j _=>by rw[xK (g:=fun _=>0) (fun i _=>by simp),tZ,Lv];rfl⟩
 |succ i ih=>
  intro hi;obtain⟨cf,fe⟩:=ih (by omega);refine⟨fun k=>cf k+(if k=i then p-at0 (cl p n out pv v i) (pv i)else 0),fun j hj=>?_⟩;have e1:(S out.length fun k=>(cf k+(if k=i then p-at0 (cl p n out pv v i) (pv i)else 0))*ent out k j)=(S out.length fun k=>cf k*ent out k j)+(p-at0 (cl p n out pv v i) (pv i))*ent out i j:=by rw[xK (g:=fun k=>cf k*ent out k j+(if k=i then p-at0 (cl p n out pv v i) (pv i)else 0)*ent out k j) (by grind),zDF,zBo (f:=fun k=>(if k=i then p-at0 (cl p n out pv v i) (pv i)else 0)*ent out k j) (k:=i) (by omega) (by grind)];simp
  rw[e1,cl,wQ,zT hj,Jy,<-Int.add_assoc,Kd,fe j hj,<-Kd]
theorem zBE(hm:out.length<=100000):zNL p out v=iW (cl p n out pv v out.length):=by
 have h7:=hp.pos;unfold zNL;rw[wZ (by rw[hv.1];omega),bs];have:=zQ (body:=zNK p out) (r:=cl p n out pv v out.length) (fun i=>(cl p n out pv v i,(i:Int))) out.length (fun i hi=>by
  have hr:=zAy hp hn h hv i;have ho:=h.row i hi;have gJ:=h.lt i hi;have gv:=h.one i hi;have fJ:=h.low i hi;simp only[ent]at gv fJ;have he:=hr.2 (pv i) gJ;unfold zNK;simp only
  rw[yN hi,zK,zY [] hi,bs,zHE ho.1 (by omega) gJ fJ,bs,hr.1,yN gJ,zK,yJ (by rw[hr.1];exact gJ),bs]
  by_cases hz:at0 (cl p n out pv v i) (pv i)=0
  ·rw[zBn hz,zM,zG,bs,cs,cl,hz,Jaj,yB3 hp hn hr]
  ·rw[kZ hz,zK,bs,zG,bs,bs,vJ hp hr ho (by omega) (by omega),bs,zG,bs,cs]
   rfl) (by
  unfold zNK;simp)
 rw[show((0:Nat):Int)=0 from rfl]at this
 grind[cl]
end
section
variable {p:Int} (hp:Prime p) {n:Nat}{out:Mx}{pv:Nat->Nat} (h:Red p n out pv) {u:List Int}{k q:Nat} (hu:Row p n u) (hk:k<n) (u1:at0 u k=1) (ul:∀j,j<k->at0 u j=0) (up:∀i,i<out.length->at0 u (pv i)=0) (hq:q<=out.length) (q1:∀i,i<q->pv i<k) (q2:∀i,q<=i->i<out.length->k<pv i)
def oth(p:Int)(n:Nat)(out:Mx)(u:List Int)(k i:Nat):List Int:=wQ p n (out.getD i []) (p-at0 (out.getD i []) k) u
def sY(p:Int)(n:Nat)(out:Mx)(u:List Int)(k q i:Nat):List Int:=if i<q then oth p n out u k i else if i=q then u else oth p n out u k (i-1)
def zXR(pv:Nat->Nat)(k q i:Nat):Nat:=if i<q then pv i else if i=q then k else pv (i-1)
 include hp h hu hk u1 ul up hq q1 q2
theorem zOH{i j:Nat}(hj:j<n):at0 (oth p n out u k i) j=(at0 (out.getD i []) j-at0 (out.getD i []) k*at0 u j)%p:=by have _:=hp;have _:=h;have _:=hu;have _:=hk;have _:=u1;have _:=ul;have _:=up;have _:=hq;have _:=q1;have _:=q2;rw[oth,wQ,zT hj,show at0 (out.getD i []) j+(p-at0 (out.getD i []) k)*at0 u j=at0 (out.getD i []) j-at0 (out.getD i []) k*at0 u j+p*at0 u j from by grind,G1]
theorem zFH{i j:Nat}(hi:i<out.length)(hj:j<n)(hz:at0 (out.getD i []) k=0\/at0 u j=0):at0 (oth p n out u k i) j=ent out i j:=by
 rw[zOH hp h hu hk u1 ul up hq q1 q2 hj];have:=(h.row i hi).2 j hj;have e:at0 (out.getD i []) k*at0 u j=0:=by grind
 rw[e,Jaj];exact K5 this.1 (by omega)
theorem yEb{i:Nat}:at0 (oth p n out u k i) k=0:=by rw[zOH hp h hu hk u1 ul up hq q1 q2 hk,u1,H2,Int.sub_self];rfl
theorem zXS{i j:Nat}(hi:i<out.length)(hj:j<pv i)(gk:pv i≠k):at0 (oth p n out u k i) j=0:=by
 have gJ:=h.lt i hi;rcases Jk (pv i) k with g|g
 ·rw[zFH hp h hu hk u1 ul up hq q1 q2 hi (by omega) (by grind)];exact h.low i hi j hj
 ·have:=h.low i hi k (by omega)
  rw[zFH hp h hu hk u1 ul up hq q1 q2 hi (by omega) (.inl this)];exact h.low i hi j hj
theorem yEc{i:Nat}(hi:i<out.length):pv i≠k:=by have _:=hp;have _:=h;have _:=hu;have _:=hk;have _:=ul;have _:=hq;have _:=q1;have _:=q2;grind
theorem zKp{i:Nat}(hi:i<out.length+1):(i=q/\sY p n out u k q i=u/\zXR pv k q i=k)\/ ∃a,a<out.length/\(i<q/\a=i\/q<i/\i=a+1)/\sY p n out u k q i=oth p n out u k a/\zXR pv k q i=pv a:=by
 have _:=hp;have _:=h;have _:=hu;have _:=hk;have _:=u1;have _:=ul;have _:=up;have _:=q1;have _:=q2;unfold sY zXR
 grind
theorem zOI:Red p n (mkR (out.length+1) (sY p n out u k q)) (zXR pv k q):=by
 have nc:=fun i hi=>zKp hp h hu hk u1 ul up hq q1 q2 (i:=i) hi
 have pn:=fun i hi=>yEc hp h hu hk u1 ul up hq q1 q2 (i:=i) hi
 refine⟨fun i hi=>?_,fun i hi=>?_,fun i hi=>?_,fun i hi j hj=>?_,fun i j hi hj gk=>?_,fun i j gR hj=>?_⟩<;>rw[sT]at*
 ·rw[zAM hi]
  rcases nc i hi with⟨_,e,_⟩|⟨a,_,_,e,_⟩<;>rw[e]
  ·exact hu
  ·exact uC hp
 ·rcases nc i hi with⟨_,_,e⟩|⟨a,ha,_,_,e⟩<;>rw[e]
  ·exact hk
  ·exact h.lt a ha
 ·rw[zFF hi]
  rcases nc i hi with⟨_,e1,e2⟩|⟨a,ha,_,e1,e2⟩<;>rw[e1,e2]
  ·exact u1
  ·rw[zFH hp h hu hk u1 ul up hq q1 q2 ha (h.lt a ha) (.inr (up a ha))];exact h.one a ha
 ·rw[zFF hi]
  rcases nc i hi with⟨_,e1,e2⟩|⟨a,ha,_,e1,e2⟩<;>rw[e2]at hj<;>rw[e1]
  ·grind
  ·exact zXS hp h hu hk u1 ul up hq q1 q2 ha hj (pn a ha)
 ·rw[zFF hj]
  rcases nc i hi with⟨g1,_,e2⟩|⟨a,ha,ga,_,e2⟩<;>rw[e2]<;>rcases nc j hj with⟨g3,e3,_⟩|⟨b,hb,gb,e3,_⟩<;>rw[e3]
  ·omega
  ·exact yEb hp h hu hk u1 ul up hq q1 q2
  ·grind
  ·rw[zFH hp h hu hk u1 ul up hq q1 q2 hb (h.lt a ha) (.inr (up a ha))]
   exact h.off a b ha hb (by omega)
 ·rcases nc i (by omega)with⟨g1,_,e2⟩|⟨a,ha,ga,_,e2⟩<;>rw[e2]<;>rcases nc j hj with⟨g3,_,e4⟩|⟨b,hb,gb,_,e4⟩<;>rw[e4]
  ·omega
  ·grind
  ·grind
  ·exact h.mono a b (by omega) hb
theorem zRQ:(∀i,i<out.length+1->Sp p n (out++[u]) (sY p n out u k q i))/\(∀i,i<out.length->Sp p n (mkR (out.length+1) (sY p n out u k q)) (out.getD i []))/\Sp p n (mkR (out.length+1) (sY p n out u k q)) u:=by
 have eQ:Sp p n (out++[u]) u:=by
  have:=qD (p:=p) (n:=n) (R:=out++[u]) (i:=out.length) (by simp)
  grind
 have hol:∀i,i<out.length->Sp p n (out++[u]) (out.getD i []):=fun i hi=>by
  have:=qD (p:=p) (n:=n) (R:=out++[u]) (i:=i) (by simp;omega)
  grind
 have hoth:∀i,i<out.length->Sp p n (out++[u]) (oth p n out u k i):=fun i hi=>
  tN (k:=p-at0 (out.getD i []) k) (hol i hi) eQ (by grind[oth,wQ,zT,Jy])
 have tq:Sp p n (mkR (out.length+1) (sY p n out u k q)) u:=by have:=zCU (p:=p) (n:=n) (m:=out.length+1) (F:=sY p n out u k q) (i:=q);rw[show sY p n out u k q q=u from by unfold sY;simp]at this;exact this
 refine⟨fun i hi=>?_,fun i hi=>?_,tq⟩
 ·rcases zKp hp h hu hk u1 ul up hq q1 q2 hi with⟨_,e,_⟩|⟨a,ha,_,e,_⟩<;>rw[e]
  all_goals grind
 ·have fx:∃b,b<out.length+1/\sY p n out u k q b=oth p n out u k i:=by
   rcases Jk i q with g|g
   ·exact⟨i,by omega,by unfold sY;grind⟩
   ·exact⟨i+1,by omega,by unfold sY;grind⟩
  obtain⟨b,hb,e⟩:=fx;have h1:=zCU (p:=p) (n:=n) (m:=out.length+1) (F:=sY p n out u k q) hb;rw[e]at h1;refine tN (k:=at0 (out.getD i []) k) h1 tq fun j hj=>?_
  rw[zOH hp h hu hk u1 ul up hq q1 q2 hj,Kd,Jy,<-Kd,show at0 (out.getD i []) j-at0 (out.getD i []) k*at0 u j+at0 (out.getD i []) k*at0 u j=at0 (out.getD i []) j from by omega]
theorem zNb(hn:n<=100000)(hm:out.length<=100000){x:Int}:
  ((zH (zJB p (out,x) (k:Int) u) ([],ja,0)).bind fun r32=>cond (!r32.2) ((yE r32.1 [u]).bind fun v33=>iW v33) (iW r32.1))=iW (mkR (out.length+1) (sY p n out u k q)):=by
 have _:=u1;have _:=ul;have _:=up;have h7:=hp.pos;have ho:∀i,i<out.length->f_A p (out.getD i []) (p-at0 (out.getD i []) k) u=iW (oth p n out u k i)/\ixO (out.getD i []) (k:Int)=iW (at0 (out.getD i []) k)/\0<=at0 (out.getD i []) k/\at0 (out.getD i []) k<=p-1/\f_P (out.getD i [])=iW (pv i:Int):=fun i hi=>by have hr:=h.row i hi;have fd:=hr.2 k hk;have gv:=h.one i hi;have fJ:=h.low i hi;simp only[ent]at gv fJ;exact⟨by rw[vJ hp hr hu (by omega) (by omega)];rfl,yJ (by rw[hr.1];exact hk),fd.1,fd.2,zHE hr.1 (by omega) (h.lt i hi) fJ⟩
 have hsn:∀{m:Nat}{F:Nat->List Int},mkR m F++[F m]=mkR (m+1) F:=by grind[mkR,Lb]
 have:=zQ (body:=zJB p (out,x) (k:Int) u) (r:=(if out.length<=q then(mkR out.length (sY p n out u k q),ja)else(mkR (out.length+1) (sY p n out u k q),iZ)))
  (fun j=>if j<=q then(mkR j (sY p n out u k q),ja,(j:Int))else(mkR (j+1) (sY p n out u k q),iZ,(j:Int))) out.length (fun j hj=>by
   obtain⟨a1,a2,a3,a4,a5⟩:=ho j hj;have dY:rng (p-at0 (out.getD j []) k)=iW (p-at0 (out.getD j []) k):=by grind[zG]
   rcases Qx j q with g|g|g
   ·have hpj:=q1 j g
    rw[if_pos (by omega),if_pos (by omega)];unfold zJB;simp only
    rw[yN hj,zK,Kb,zK,zY [] hj];simp only[bs,a5];rw[jb (by omega),zM,a2];simp only[bs,dY,a1];rw[zX (by rw[sT];simp;omega),bs,zG,bs,cs];have:sY p n out u k q j=oth p n out u k j:=by unfold sY;grind
    grind
   ·subst g
    have hpj:=q2 j (Je _) hj;rw[if_pos (by omega),if_neg (by omega)];unfold zJB;simp only
    rw[yN hj,zK,Kb,zK,zY [] hj];simp only[bs,a5];rw[jc,zK,zX (by rw[sT];simp;omega),a2];simp only[bs,dY,a1];have e1:sY p n out u k j j=u:=by unfold sY;simp
    have e2:sY p n out u k j (j+1)=oth p n out u k j:=by unfold sY;grind
    have e3:mkR j (sY p n out u k j)++[u]=mkR (j+1) (sY p n out u k j):=by grind
    rw[e3,zX (by rw[sT];simp;omega),bs,zG,bs,cs,<-e2,hsn]
   ·rw[if_neg (by omega),if_neg (by omega)]
    unfold zJB;simp only
    rw[yN hj,zK,Jq,zM,zY [] hj];simp only[bs,a2,dY,a1];have e2:sY p n out u k q (j+1)=oth p n out u k j:=by unfold sY;rw[if_neg (by omega),if_neg (by omega)];rfl
    rw[zX (by rw[sT];simp;omega),bs,zG,bs,cs,<-e2,hsn]) (by
   by_cases g:out.length<=q
   ·rw[if_pos g,if_pos g]
    unfold zJB;simp
   ·rw[if_neg g,if_neg g]
    unfold zJB;simp)
 rw[if_pos (Kg _),show((0:Nat):Int)=0 from rfl,show mkR 0 (sY p n out u k q)=[]from rfl]at this;rw[this,bs]
 by_cases g:out.length<=q
 ·have e1:sY p n out u k q out.length=u:=by unfold sY;grind
  rw[if_pos g];simp only
  rw[Kb,zK,zX (by rw[sT];simp;omega),bs]
  grind
 grind
end
theorem zOJ{p:Int}{n:Nat}{R out:Mx}{cf:Nat->Int}(ho:∀i,i<out.length->Sp p n R (out.getD i [])){u:List Int}(hu:∀j,j<n->at0 u j%p=(S out.length fun k=>cf k*ent out k j)%p):Sp p n R u:=
 zAb ho ⟨cf,by grind⟩
theorem Red.len_le{p:Int}{n:Nat}{R:Mx}{pv:Nat->Nat}(h:Red p n R pv):R.length<=n:=by
 have key:∀i,i<R.length->i<=pv i:=by
  intro i
  induction i with
  |zero=>simp
  |succ i ih=>
   intro hi;have h1:=ih (by omega);have h2:=h.mono i (i+1) (by omega) hi;omega
 rcases Jb7 R.length with g|g
 ·omega
 ·have h1:=key (R.length-1) (by omega)
  have h2:=h.lt (R.length-1) (by omega);omega
theorem zEo{xs:Mx}{v:List Int}{i:Nat}(h:i<xs.length:=by omega):(xs++[v]).getD i []=xs.getD i []:=by grind
theorem zEp{xs:Mx}{v:List Int}:(xs++[v]).getD xs.length []=v:=by simp
section
variable {p:Int} (hp:Prime p) {n:Nat} (hn:n<=100000)
 include hp hn
theorem zIN{w:List Int}(hw:Row p n w){r:Int}(h0:0<=r)(h1:r<=p-1):zWc p r w=iW (mkv n fun j=>(at0 w j*r)%p):=by
 have h7:=hp.pos;unfold zWc;rw[hw.1,yP,bs,vJ hp (zBD) hw (by omega) (by omega),bs]
 congr 1
 refine zV fun j hj=>?_
 grind
variable {rows:Mx} (hm:rows.length<=600000) (hr:∀i,i<rows.length->Row p n (rows.getD i []))
 include hm hr
theorem zFI:∃R pv,f_C p rows=iW R/\(Red p n R pv/\R.length<=rows.length)/\kW p n R rows:=by
 have h7:=hp.pos;unfold f_C;have main:=uU (body:=zSu p rows) (s:=([],0)) (Q:=fun R=> ∃pv,(Red p n R pv/\R.length<=rows.length)/\kW p n R rows)
  (fun i s=> ∃(out:Mx)(pv:Nat->Nat),s=(out,(i:Int))/\Red p n out pv/\kW p n out (rows.take i)/\out.length<=i/\i<=rows.length) rows.length (fun i s hi hI=>?_) (fun s hI=>?_) ⟨[],fun _=>0,rfl,Red.empty,by rw[Ki];exact kW.refl,Kg _,Kg _⟩
 ·obtain⟨R,h1,pv,h2,h3⟩:=main
  rw[h1,bs];exact⟨R,pv,rfl,h2,h3⟩
 ·obtain⟨out,pv,rfl,h,hs,hl,_⟩:=hI
  have hon:out.length<=n:=h.len_le;left;have hv:=hr i hi;have hw:=zAy hp hn h hv out.length;have gy:=zBE hp hn h hv (by omega);have hpz:=zLn hp hn h hv out.length (Je _);obtain⟨cf,fe⟩:=zLo hp hn h hv out.length (Je _);obtain⟨k,k1,k2,k3,k4⟩:=zKo hw.1;have eI:rows.take (i+1)=rows.take i++[rows.getD i []]:=by rw[K1 hi,J2,J5 hi];rfl
  have bB:(rows.take i).length=i:=by rw[Kf];omega
  have fC:∀u,Sp p n (rows.take i) u->Sp p n (rows.take (i+1)) u:=fun u hu=>zAb (fun a ha=>by have:=qD (p:=p) (n:=n) (R:=rows.take (i+1)) (i:=a) (by rw[eI,J7];omega);rw[eI,zEo ha,<-eI]at this;exact this) hu
  have pI:Sp p n (rows.take (i+1)) (rows.getD i []):=by
   have:=qD (p:=p) (n:=n) (R:=rows.take (i+1)) (i:=i) (by rw[eI,J7,bB];simp);rw[eI]at this;have e:(rows.take i++[rows.getD i []]).getD i []=rows.getD i []:=by have:=zEp (xs:=rows.take i) (v:=rows.getD i []);rw[bB]at this;exact this
   rw[e,<-eI]at this;exact this
  by_cases pM:k=n
  ·
   refine⟨(out,((i+1:Nat):Int)),?_,out,pv,rfl,h,⟨fun a ha=>fC _ (hs.1 a ha),fun a ha=>?_⟩,by omega,by omega⟩
   ·unfold zSu
    simp only
    rw[yN hi,zK,zY [] hi];simp only[bs,gy,k2];rw[hw.1,zQ5,zK,zG,bs,cs]
   ·rw[eI,J7,bB,Ku]at ha
    rw[eI];rcases Jk a i with g|g
    ·rw[zEo];exact hs.2 a (by omega)
    ·have:a=i:=by omega
     subst this;have e:(rows.take a++[rows.getD a []]).getD a []=rows.getD a []:=by have:=zEp (xs:=rows.take a) (v:=rows.getD a []);rw[bB]at this;exact this
     rw[e];refine zOJ (out:=out) (cf:=fun q=> -1*cf q) (fun a ha=>qD ha) fun j hj=>?_
     have h1:=fe j hj;rw[k3 j (by omega)]at h1;rw[xK (g:=fun q=> -1*(cf q*ent out q j)) (fun q _=>by rw[Hm]),zDG];have h2:(at0 (rows.getD a []) j+S out.length fun q=>cf q*ent out q j)%p=0:=by rw[<-h1];rfl
     rw[show at0 (rows.getD a []) j=(at0 (rows.getD a []) j+S out.length fun q=>cf q*ent out q j)+ -1*(S out.length fun q=>cf q*ent out q j)from by omega,Kd,h2,L4,Jy]
  ·have hk:k<n:=by omega
   have hwk:=hw.2 k hk;have gk:=k4 hk;obtain⟨r,r1,r2,r3,r4⟩:=zUe hp (x:=at0 (cl p n out pv (rows.getD i []) out.length) k);have bC:=zIN hp hn hw r2 r3;have hu:Row p n (mkv n fun j=>(at0 (cl p n out pv (rows.getD i []) out.length) j*r)%p):=⟨zU _ _,fun j hj=>by have e1:=Kr (at0 (cl p n out pv (rows.getD i []) out.length) j*r) (show p≠0 by omega);have e2:=Ke (at0 (cl p n out pv (rows.getD i []) out.length) j*r) (show 0<p by omega);rw[zT hj];omega⟩
   have ua:∀j,j<n->at0 (mkv n fun j=>(at0 (cl p n out pv (rows.getD i []) out.length) j*r)%p) j=(at0 (cl p n out pv (rows.getD i []) out.length) j*r)%p:=fun j hj=>zT hj
   generalize mkv n (fun j=>(at0 (cl p n out pv (rows.getD i []) out.length) j*r)%p)=u at bC hu ua
   have u1:at0 u k=1:=by rw[ua k hk];exact r4
   have ul:∀j,j<k->at0 u j=0:=fun j hj=>by rw[ua j (by omega),k3 j hj];simp
   have up:∀a,a<out.length->at0 u (pv a)=0:=fun a ha=>by rw[ua _ (h.lt a ha),hpz a ha];simp
   obtain⟨q,⟨hq,uo⟩,eV⟩:=zE7 (p:=fun q=>q<=out.length/\(q<out.length->k<pv q)) ⟨out.length,Je _,fun g=>by omega⟩;have q1:∀a,a<q->pv a<k:=fun a ha=>by
    have h1:¬(k<pv a):=fun g=>eV a ha ⟨by omega,fun _=>g⟩
    have h2:pv a≠k:=fun e=>by have:=up a (by omega);rw[e,u1]at this;cases this
    omega
   have q2:∀a,q<=a->a<out.length->k<pv a:=fun a ha ha2=>by
    have h1:=uo (by omega);rcases Jk q a with g|g
    ·have:=h.mono q a g ha2;omega
    ·rw[show a=q from by omega];exact h1
   have eY:=zNb hp h hu hk u1 ul up hq q1 q2 hn (by omega) (x:=(i:Int));have ub:=zOI hp h hu hk u1 ul up hq q1 q2;obtain⟨s1,s2,s3⟩:=zRQ hp h hu hk u1 ul up hq q1 q2;refine⟨(mkR (out.length+1) (sY p n out u k q),((i+1:Nat):Int)),?_,_,_,rfl,ub,⟨fun a ha=>?_,fun a ha=>?_⟩,by rw[sT];omega,by omega⟩
   ·unfold zSu
    simp only
    rw[yN hi,zK,zY [] hi];simp only[bs,gy,k2];rw[hw.1,zMZ,zM,yJ (by rw[hw.1];exact hk)];simp only[bs,r1,bC];cases gZ:zH (zJB p (out,(i:Int)) (k:Int) u) ([],ja,0)with
    |none=>rw[gZ]at eY;cases eY
    |some r32=>
     rw[gZ,bs]at eY;simp only[bs];obtain⟨a1,a2⟩:=r32;cases a2 with
     |true=>
      simp only[Jq,zM]at eY ⊢
      rw[zG,bs,cs,Kt.inj eY]
     |false=>
      simp only[Kb,zK]at eY ⊢
      cases hap:yE a1 [u]with
      |none=>rw[hap]at eY;cases eY
      |some v33=>
       rw[hap,bs]at eY;simp only[bs];rw[zG,bs,cs,Kt.inj eY]
   ·rw[sT]at ha
    rw[zAM ha];refine zAb (fun b hb=>?_) (s1 a ha);rw[J7,Ku]at hb;rcases Jk b out.length with g|g
    ·rw[zEo g];exact fC _ (hs.1 b g)
    ·rw[show b=out.length from by omega,zEp]
     have dF:Sp p n (rows.take (i+1)) (cl p n out pv (rows.getD i []) out.length):=by
      have pZ:Sp p n (rows.take (i+1)) (mkv n fun j=>S out.length fun k=>cf k*ent out k j):=zOJ (out:=out) (cf:=cf) (fun b hb=>fC _ (hs.1 b hb)) fun j hj=>by rw[zT hj]
      refine tN (k:=1) pI pZ fun j hj=>?_
      rw[fe j hj,zT hj,Qm]
     refine tN (k:=r) (zAa (u:=[]) fun j _=>by simp[at0]) dF fun j hj=>?_
     rw[ua j hj,Jy,show at0 ([]:List Int) j=0 from by simp[at0],L4,Ht]
   ·rw[eI,J7,bB,Ku]at ha
    rw[eI];rcases Jk a i with g|g
    ·rw[zEo]
     exact zAb s2 (hs.2 a (by omega))
    ·have hai:a=i:=by omega
     subst hai;have e:(rows.take a++[rows.getD a []]).getD a []=rows.getD a []:=by have:=zEp (xs:=rows.take a) (v:=rows.getD a []);rw[bB]at this;exact this
     rw[e];have dF:Sp p n (mkR (out.length+1) (sY p n out u k q)) (cl p n out pv (rows.getD a []) out.length):=by
      refine tN (k:=at0 (cl p n out pv (rows.getD a []) out.length) k) (zAa (u:=[]) fun j _=>by simp[at0]) s3 fun j hj=>?_
      rw[ua j hj,show at0 ([]:List Int) j=0 from by simp[at0],L4];rw[Ju,Jy,<-Ju,<-Hm,Ht (at0 (cl p n out pv (rows.getD a []) out.length) k),Hm,Ju,r4,H2,Jy]
     have pZ:Sp p n (mkR (out.length+1) (sY p n out u k q)) (mkv n fun j=>S out.length fun k=>cf k*ent out k j):=zOJ (out:=out) (cf:=cf) s2 fun j hj=>by rw[zT hj]
     refine tN (k:=-1) dF pZ fun j hj=>?_
     rw[zT hj,Kd,fe j hj,<-Kd]
     congr 1;omega
 ·obtain⟨out,pv,rfl,h,hs,hl,_⟩:=hI
  refine⟨out,?_,pv,⟨h,hl⟩,by rw[List.take_length]at hs;exact hs⟩;unfold zSu;simp only
  rw[qT,zM]
theorem zNc:∃R pv,f_C p rows=iW R/\Red p n R pv/\kW p n R rows:=by grind[zFI]
theorem zIO{R:Mx}{pv:Nat->Nat}(h:Red p n R pv)(hs:kW p n R rows):R.length<=rows.length:=by have h7:=hp.pos;obtain⟨R',pv',_,h2,h3⟩:=zFI hp hn hm hr;rw[h.unique (by omega) h2.1 (hs.trans h3.symm)];exact h2.2
theorem zAW:∃R pv,f_C p rows=iW R/\f_i p rows=iW R/\Red p n R pv/\kW p n R rows:=by
 have h7:=hp.pos;obtain⟨R,pv,h1,h2,h3⟩:=zNc hp hn hm hr;obtain⟨R',pv',g1,g2,g3⟩:=zNa hp hn hm hr;have e:=h2.unique (by omega) g2 (h3.trans g3.symm)
 grind
end
theorem uX{β:Type}{body:List β×Int->Option ((List β×Int)⊕List β)}(n:Nat)(F:Nat->β)(h:∀i acc,i<n->acc.length=i->body (acc,(i:Int))=iW (.inl (acc++[F i],((i+1:Nat):Int))))(he:∀acc,body (acc,(n:Int))=iW (.inr acc)):
  zH body ([],0)=iW ((J8 n).map F):=by
 have:=zQ (body:=body) (r:=(J8 n).map F) (fun i=>((J8 i).map F,(i:Int))) n (by grind[Lb]) (he _);exact this
theorem zKq{xs:Mx}(hx:xs.length<=100000)(hf:xs.flatten.length<=1000000):f_M xs=iW xs.flatten:=by
 unfold f_M;have:=zQ (body:=zWn xs) (r:=xs.flatten) (fun i=>((xs.take i).flatten,(i:Int))) xs.length (fun i hi=>by
  have h1:=zG8 hi;have h2:=zLk (xs:=xs) (i+1);have h3:=congrArg Jad h1;rw[J7]at h3;unfold zWn;simp only
  rw[yN hi,zK,zY [] hi,bs,zX,bs,zG,bs,cs,h1]) (by
  unfold zWn;simp)
 grind
theorem zLp{p:Int}{L:Nat}{v:List Int}:Row p L v↔v.length=L/\ ∀a∈v,0<=a/\a<=p-1:=by
 constructor
 ·rintro⟨h1,h2⟩
  refine⟨h1,fun a ha=>?_⟩;obtain⟨i,hi,rfl⟩:=Jz.1 ha
  grind
 ·rintro⟨h1,h2⟩
  refine⟨h1,fun i hi=>?_⟩
  simp_all
theorem zFJ{D:Nat}:∀{xs:Mx},(∀r∈xs,r.length=D)->xs.flatten.length=xs.length*D
 | [],_=>by simp
 |x::xs,h=>by
  have:=zFJ (xs:=xs) fun r hr=>h r (by simp[hr])
  grind
theorem zUf{p:Int}{D:Nat}{xs:Mx}(h:∀r∈xs,Row p D r):Row p (xs.length*D) xs.flatten:=by grind[zLp,zFJ,List.mem_flatten]
def tV(D k:Nat):List Int:=mkv D fun j=>if j=k then 1 else 0
theorem zRR{p:Int}{D k:Nat}(hp:2<=p):Row p D (tV D k):=⟨zU _ _,by grind[tV,zT]⟩
theorem zBd{D k:Nat}(hk:k<D:=by omega)(hD:D<=1000000:=by omega):zLI (D:Int) (k:Int)=iW (tV D k):=by grind[zLI,yP,yJ,uB,qJ,tV]
abbrev gl{β:Type}(m:Nat)(F:Nat->β):List β:=(J8 m).map F
theorem xI{β:Type}{m:Nat}{F:Nat->β}:(gl m F).length=m:=by simp[gl]
theorem zBV{β:Type}{m:Nat}{F:Nat->β}{i:Nat}(h:i<m:=by omega):ixO (gl m F) (i:Int)=iW (F i):=by rw[zAK (by grind)];simp[gl]
theorem zAX{β:Type}{m:Nat}{F G:Nat->β}(h:∀i,i<m->F i=G i):gl m F=gl m G:=by grind[Uc]
theorem zEX{β:Type}{m:Nat}{F:Nat->β}{i:Nat}{a:β}:(gl m F).set i a=gl m (fun k=>if k=i then a else F k):=by
 apply Kw
 grind
theorem jR{β:Type}{m:Nat}{F:Nat->β}:gl m F++[F m]=gl (m+1) F:=by simp[gl,Lb]
def base(n i:Nat):Nat:=n+i*n-i*(i+1)/2
theorem zKr:∀n,n<7-> ∀i,i<n->base n (i+1)=base n i+(n-1-i):=by decide
theorem zBW:∀n,n<7-> ∀i,i<n->base n i+(n-1-i)<=base n n:=by decide
theorem xY:∀n,n<7->n<=base n n/\base n n<=21/\base n 0=n:=by decide
theorem zOK:∀n:Nat,n<7-> ∀j:Nat,j<n-> ∀i:Nat,i<j->yCi (n:Int) (i:Int) (j:Int)=iW ((base n i+(j-i-1):Nat):Int):=by decide+kernel
def exP(n D:Nat)(x:SPr)(T:Mx)(i:Nat):List Int:=if i<n then x.zJ.getD i []++T.getD i []else J1 (n+D) 0
def exF(n:Nat)(x:SPr)(m:zB)(T:Mx)(i j:Nat):List Int:=if j<n-1-i then(x.zC.getD i []).getD j []++T.getD (base n i+j) []else J1 n 0++(m.zF.getD i []).getD (j-(n-1-i)) []
def unC(N i:Nat):Mx:=gl (N-1-i) fun j=>tV N (i+1+j)
def exC(n D:Nat)(x:SPr)(m:zB)(T:Mx)(i:Nat):Mx:=if i<n then gl (n+D-1-i) (exF n x m T i)else unC (n+D) i
def ext(n D:Nat)(x:SPr)(m:zB)(T:Mx):SPr:=⟨x.zA++J1 D m.Prime,gl (n+D) (exP n D x T),gl (n+D) (exC n D x m T)⟩
structure zLq (n D:Nat) (x:SPr) (m:zB) (T:Mx):Prop where
 hn:n<=6
 o:x.zA.length=n
 p:x.zJ.length=n
 c:x.zC.length=n
 cl:∀i,i<n->(x.zC.getD i []).length=n-1-i
 pl:∀i,(x.zJ.getD i []).length<=6
 ce:∀i j,((x.zC.getD i []).getD j []).length<=6
 t:T.length=base n n
 tl:∀i,(T.getD i []).length<=30
 m:yB1 n m D
end Go.Pl
