/- The program's IsTerminal returns what the reference's returns,for all arguments;no conditions. -/
import Derived.Test.YtfeijieociajaaaGreatAbB
import Derived.Test.YtfeijieociajaaaGreatWF
open List renaming replicate→J1,getD_eq_getElem?_getD→J2,getElem?_eq_getElem→J3,length_append→J5,length_cons→J7,mem_cons→J9,mem_append→Ja,mem_map→Jc,range→Jd,length_map→Jf,append_assoc→Jg,append_nil→Jh,length_replicate→Jk,getElem?_eq_some_iff→Jl,getElem?_append_right→Jm,replicate_append_replicate→Jn,getElem_mem→Js,length_nil→Jt,map_cons→Ju,replicate_succ→Jv,getElem?_map→Jw,take_of_length_le→Jx,nil_append→Jz,getElem?_append_left→K1,getElem?_replicate→K4,take_succ_eq_append_getElem→K5,map_append→K6,range'→K7,cons_append→K9,take_zero→Kc,length_take→Kd,length_drop→Kk,getElem?_append→Kr,range_eq_range'→Ku,ext_getElem?→Kx,take_succ_cons→Ky,range_succ→Kz,map_nil→La,length_range→Le,mem_range→Lh,mem_flatMap→Li,take_length→Lm,set_cons_zero→Lr,replicate_succ'→Lv,getElem?_drop→Lx,replicate_zero→Lz,singleton_append→H0,eq_of_mem_replicate→H1,mem_iff_getElem→H3,filterMap_cons→Hk,range'_succ→Ho,drop_eq_getElem_cons→Hq,not_mem_nil→G9,getD_cons_zero→Gp,foldl_append→Gv,flatMap_append→U5,set_append_right→U6,drop_zero→Uf,all_cons→Un,drop_of_length_le→Uo,map_congr_left→Uu,flatten_nil→Uz,getElem?_cons_zero→Q6,length→Qd,suffix_cons_iff→Qi,range_succ_eq_map→Qy,findSome?_cons→Jad,getElem?_set→Jan,map_map→Jb1,getElem?_set_ne→Jb2,getElem?_cons_succ→Jbb,take_append_drop→Jbm,range_zero→Jc0
open Bool renaming and_eq_true->J4,not_true->L5,not_false->H5
open Int renaming toNat_natCast->J8,emod_eq_of_lt->Jp,mul_emod->Jy,emod_emod->K3,add_emod->Ka,emod_lt_of_pos->Kg,emod_nonneg->Kj,zero_add->Ko,mul_one->L6,add_zero->L7,mul_zero->Ln,mul_le_mul->Lq,tmod_eq_emod_of_nonneg->Hg,emod_add_emod->G4,one_mul->Gs,toNat_zero->Gu,mul_comm->Gz,mul_assoc->U2,sub_emod_right->Ug,mul_nonneg->Ul,add_emod_right->Uv,zero_mul->qa9,mul_le_mul_of_nonneg_left->Q7,tmod_add_mul_tdiv->Qo,add_mul_emod_self_left->Qp,tmod_lt_of_pos->Ja5,lt_tmod_of_pos->Ja6,mul_add->Jak,tmod->Jao,emod_self->Jap,natCast_succ->Jbe,add_mul->Jbp
open Nat renaming le_refl->Je,zero_add->Ji,lt_or_ge->Jo,succ_mul->K8,sub_self->Kn,zero_le->Lb,le_trans->Lu,div_add_mod->Lw,add_assoc->Ha,lt_trichotomy->G1,strongRecOn->U1,add_zero->Um,zero_mul->Uy,lt_irrefl->Jam,le_mul_of_pos_right->Jav,zero_sub->Jb7
open Option renaming map_eq_some_iff->Kf,isSome_iff_exists->Kt,map_some->He,some->Hm
open Option renaming some->jd,none->je
open Bool renaming true->jf,false->jg
namespace Go.Pc
variable {k d q:Nat}
abbrev Vec:=List Int
structure Lvl where
 o:Int
 w:Vec
 cs:List Vec
abbrev Pcp:=List Lvl
def zeros(n:Nat):Vec:=J1 n 0
def iter{α:Type}:Nat->(α->α)->α->α
 |0,_,x=>x
 |n+1,f,x=>iter n f (f x)
theorem xP{α:Type}(f:α->α):∀(n:Nat)(x:α),iter (n+1) f x=f (iter n f x)
 |0,_=>rfl
 |n+1,x=>by rw[iter,xP f n (f x)];rfl
theorem zEt{α:Type}(f:α->α)(a:Nat):∀(b:Nat)(x:α),iter (a+b) f x=iter a f (iter b f x)
 |0,_=>rfl
 |b+1,x=>by show iter (a+b) f (f x)=_;rw[zEt f a b (f x)];rfl
def img{α:Type}(m:α->α->α):List α->Vec->α->α
 |c::cs,x::xs,acc=>img m cs xs (iter x.toNat (fun v=>m v c) acc)
 |_,_,acc=>acc
def V:Pcp->Vec->Prop
 | [],v=>v=[]
 |l::P,v=>match v with
  | []=>False
  |a::x=>(0<=a/\a<l.o)/\V P x
def mul:Pcp->Vec->Vec->Vec
 |l::P,a::x,b::y=>
  let r:=mul P (iter b.toNat (fun v=>img (mul P) l.cs v (zeros P.length)) x) y
  if a+b>=l.o then(a+b-l.o)::mul P l.w r else(a+b)::r
 |_,_,_=>[]
def Ok:Pcp->Prop
 | []=>True
 |l::P=>1<l.o/\V P l.w/\l.cs.length=P.length/\(∀c∈l.cs,V P c)/\Ok P
structure Mon {α:Type} (S:α->Prop) (m:α->α->α) (e:α):Prop where
 cl:∀{a b},S a->S b->S (m a b)
 ein:S e
 assoc:∀{a b c},S a->S b->S c->m (m a b) c=m a (m b c)
 onel:∀{a},S a->m e a=a
 oner:∀{a},S a->m a e=a
structure Grp {α:Type} (S:α->Prop) (m:α->α->α) (e:α):Prop extends Mon S m e where
 inv:∀{a},S a-> ∃b,S b/\m a b=e
theorem Grp.invl{α:Type}{S:α->Prop}{m:α->α->α}{e:α}(h:Grp S m e){a:α}(ha:S a):∃b,S b/\m a b=e/\m b a=e:=by
 obtain⟨b,hb,h1⟩:=h.inv ha;obtain⟨c,hc,h2⟩:=h.inv hb;refine⟨b,hb,h1,?_⟩;have:a=c:=by rw[<-h.oner ha,<-h2,<-h.assoc ha hb hc,h1,h.onel hc]
 grind
theorem Grp.cancel_l{α:Type}{S:α->Prop}{m:α->α->α}{e:α}(h:Grp S m e){a b c:α}(ha:S a)(hb:S b)(hc:S c)(hh:m a b=m a c):b=c:=by obtain⟨d,hd,_,h2⟩:=h.invl ha;rw[<-h.onel hb,<-h.onel hc,<-h2,h.assoc hd ha hb,h.assoc hd ha hc,hh]
section
variable {α:Type}{S:α->Prop}{m:α->α->α}{e:α}
def pw(m:α->α->α)(e:α)(x:α)(k:Nat):α:=iter k (fun v=>m v x) e
theorem wS(h:Mon S m e){x:α}(hx:S x):∀k,S (pw m e x k)
 |0=>h.ein
 |k+1=>by rw[pw,xP];exact h.cl (wS h hx k) hx
theorem vV{f:α->α}(hf:∀a,S a->S (f a)):∀(k:Nat){x:α},S x->S (iter k f x)
 |0,_,hx=>hx
 |k+1,_,hx=>vV hf k (hf _ hx)
theorem zEu(h:Mon S m e){x a:α}(hx:S x)(ha:S a):∀k,iter k (fun v=>m v x) a=m a (pw m e x k)
 |0=>(h.oner ha).symm
 |k+1=>by rw[xP,zEu h hx ha k];show _=m a (iter (k+1) (fun v=>m v x) e);rw[xP];exact h.assoc ha (wS h hx k) hx
theorem zAJ(h:Mon S m e){x:α}(hx:S x)(a b:Nat):pw m e x (a+b)=m (pw m e x a) (pw m e x b):=by rw[Nat.add_comm,pw,zEt,<-zEu h hx (wS h hx a) b];rfl
theorem zK2(h:Mon S m e){x:α}(hx:S x):pw m e x 1=x:=h.onel hx
theorem zUk(h:Mon S m e){x:α}(hx:S x)(k:Nat):pw m e x (k+1)=m x (pw m e x k):=by rw[Nat.add_comm,zAJ h hx 1 k,zK2 h hx]
theorem qD(h:∀{a b},S a->S b->S (m a b)):∀(cs:List α)(x:Vec){a:α},(∀c∈cs,S c)->S a->S (img m cs x a)
 |c::cs,x::xs,_,hc,ha=>by simp only[img];exact qD h cs xs (by grind) (vV (by simp_all) _ ha)
 | [],_,_,_,ha=>by grind[img]
 |_::_,[],_,_,ha=>by grind[img]
theorem zFp(h:Mon S m e)(cs:List α)(x:Vec){a:α}(hc:∀c∈cs,S c)(ha:S a):S (img m cs x a):=qD h.cl cs x hc ha
theorem zEv(h:Mon S m e):∀(cs:List α)(x:Vec){a:α},(∀c∈cs,S c)->S a->img m cs x a=m a (img m cs x e)
 |c::cs,x::xs,a,hc,ha=>by
  have h1:S c:=hc c (by simp);have h2:∀c∈cs,S c:=by grind
  simp only[img];rw[zEu h h1 ha,zEv h cs xs h2 (h.cl ha (wS h h1 _)),zEu h h1 h.ein,zEv h cs xs h2 (h.cl h.ein (wS h h1 _)),h.onel (wS h h1 _),
   h.assoc ha (wS h h1 _) (zFp h cs xs h2 h.ein)]
 | [],_,a,_,ha=>by simp[img,h.oner ha]
 |_::_,[],a,_,ha=>by simp[img,h.oner ha]
theorem sX(h:Mon S m e){c:α}{cs:List α}{x:Int}{xs:Vec}(hc:S c)(gY:∀c∈cs,S c):img m (c::cs) (x::xs) e=m (pw m e c x.toNat) (img m cs xs e):=by simp only[img];rw[zEv h cs xs gY (vV (fun a ha=>h.cl ha hc) _ h.ein)];rfl
theorem tL(m:α->α->α):∀(cs:List α)(n:Nat)(a:α),img m cs (zeros n) a=a
 | [],_,_=>by simp[img]
 |_::_,0,_=>by rfl
 |c::cs,n+1,a=>by simp only[zeros,Jv,img,Gu,iter];exact tL m cs n a
theorem zHu(h:Mon S m e){g:α}(hg:S g):∀(cs ds:List α)(x:Vec),(∀c∈cs,S c)->(∀c∈ds,S c)->cs.length=ds.length->(∀(k:Nat) c d,cs[k]? =jd c->ds[k]? =jd d->m c g=m g d)->m (img m cs x e) g=m g (img m ds x e)
 | [],[],x,_,_,_,_=>by simp[img,h.onel hg,h.oner hg]
 |c::cs,d::ds,[],_,_,_,_=>by simp[img,h.onel hg,h.oner hg]
 |c::cs,d::ds,x::xs,hc,hd,hl,hp=>by
  have cV:S c:=hc c (by simp);have hd0:S d:=hd d (by simp);have gY:∀c∈cs,S c:=by grind
  have mh:∀c∈ds,S c:=by grind
  have key:∀k,m (pw m e c k) g=m g (pw m e d k):=by
   intro k
   induction k with
   |zero=>simp[pw,iter,h.onel hg,h.oner hg]
   |succ k ih=>
    have h0:m c g=m g d:=hp 0 c d rfl rfl;rw[pw,xP,pw,xP];show m (m (pw m e c k) c) g=m g (m (pw m e d k) d);rw[h.assoc (wS h cV k) cV hg,h0,<-h.assoc (wS h cV k) hg hd0,ih,h.assoc hg (wS h hd0 k) hd0]
  rw[sX h cV gY,sX h hd0 mh,h.assoc (wS h cV _) (zFp h _ _ gY h.ein) hg,zHu h hg cs ds xs gY mh (by grind) (fun k c d h1 h2=>hp (k+1) c d (by grind) (by grind)),
   <-h.assoc (wS h cV _) hg (zFp h _ _ mh h.ein),key,h.assoc hg (wS h hd0 _) (zFp h _ _ mh h.ein)]
theorem zQ0{β:Type}{T:β->Prop}{n:β->β->β}{f:β}(h:Mon S m e)(h':Mon T n f)(φ:α->β)(gK:∀a,S a->T (φ a))(h1:φ e=f)(hm:∀a b,S a->S b->φ (m a b)=n (φ a) (φ b)):∀(cs:List α)(x:Vec),(∀c∈cs,S c)->φ (img m cs x e)=img n (cs.map φ) x f
 | [],_,_=>by simp[img,h1]
 |c::cs,[],_=>by simp[img,h1]
 |c::cs,x::xs,hc=>by
  have cV:S c:=hc c (by simp);have gY:∀c∈cs,S c:=by grind
  have key:∀k,φ (pw m e c k)=pw n f (φ c) k:=by
   intro k
   induction k with
   |zero=>grind[pw,iter]
   |succ k ih=>
    grind[pw,xP,wS]
  rw[sX h cV gY,Ju,sX h' (gK c cV) (by simp_all),hm _ _ (wS h cV _) (zFp h _ _ gY h.ein),key,zQ0 h h' φ gK h1 hm cs xs gY]
end
theorem wC:∀{P:Pcp},Ok P->V P (zeros P.length)
 | [],_=>rfl
 |l::P,h=>by simp only[Ok]at h;simp only[J7,zeros,Jv,V];exact⟨by omega,wC h.2.2.2.2⟩
theorem yO:∀{P:Pcp},Ok P-> ∀{x y:Vec},V P x->V P y->V P (mul P x y)
 | [],_,_,_,hx,hy=>by rfl
 |l::P,h,[],_,hx,_=>by grind[V]
 |l::P,h,_::_,[],_,hy=>by grind[V]
 |l::P,h,a::x,b::y,hx,hy=>by
  simp only[Ok]at h;simp only[V]at hx hy;have h1:∀v,V P v->V P (img (mul P) l.cs v (zeros P.length)):=fun v hv=>qD (yO h.2.2.2.2) l.cs v h.2.2.2.1 (wC h.2.2.2.2)
  have h2:=yO h.2.2.2.2 (vV h1 b.toNat hx.2) hy.2;simp only[mul];split
  ·exact⟨by omega,yO h.2.2.2.2 h.2.1 h2⟩
  ·exact⟨by omega,h2⟩
def Rel{α:Type}(m:α->α->α)(e:α):Pcp->List α->Prop
 | [],s=>s=[]
 |l::P,s=>match s with
  | []=>False
  |g::s=>pw m e g l.o.toNat=img m s l.w e/\(∀(k:Nat) c d,s[k]? =jd c->l.cs[k]? =jd d->m c g=m g (img m s d e))/\Rel m e P s
section
variable {α:Type}{S:α->Prop}{m:α->α->α}{e:α}
theorem yD2(h:Mon S m e):∀(P:Pcp)(s:List α),Ok P->(∀g∈s,S g)->Rel m e P s-> ∀x y,V P x->V P y->img m s (mul P x y) e=m (img m s x e) (img m s y e)
 | [],s,_,_,hr,x,y,hx,hy=>by simp only[Rel]at hr;subst hr;simp[img,h.onel h.ein]
 |l::P,[],_,_,hr,_,_,_,_=>by grind[Rel]
 |l::P,g::s,_,_,_,[],_,hx,_=>by grind[V]
 |l::P,g::s,_,_,_,_::_,[],_,hy=>by grind[V]
 |l::P,g::s,hk,hs,hr,a::x,b::y,hx,hy=>by
  simp only[Ok]at hk;simp only[Rel]at hr;simp only[V]at hx hy;obtain⟨ho,hw,gy,gY,dw⟩:=hk;obtain⟨mz,pZ,aB⟩:=hr;have hg:S g:=hs g (by simp);have mr:∀c∈s,S c:=by grind
  have gf:s.length=P.length:=by
   clear mz pZ hx hy hw gy gY hs mr
   induction P generalizing s with
   |nil=>grind[Rel]
   |cons l P ih=>
    cases s with
    |nil=>grind[Rel]
    |cons c s=>grind[Rel,Ok]
  have ih:=yD2 h P s dw mr aB;have hφ:∀v,S (img m s v e):=fun v=>zFp h s v mr h.ein
  have hmP:∀{a b},V P a->V P b->V P (mul P a b):=yO dw;have tw:∀v,V P v->V P (img (mul P) l.cs v (zeros P.length)):=fun v hv=>qD hmP l.cs v gY (wC dw)
  have hσ:∀v,V P v->m (img m s v e) g=m g (img m s (img (mul P) l.cs v (zeros P.length)) e):=by
   intro v hv;have key:∀(cs:List Vec)(v:Vec)(acc:Vec),(∀c∈cs,V P c)->V P acc->img m s (img (mul P) cs v acc) e=img m (cs.map fun c=>img m s c e) v (img m s acc e):=by
    intro cs
    induction cs with
    |nil=>grind[img]
    |cons c cs ihc=>
     intro v acc hc hacc;cases v with
     |nil=>simp[img]
     |cons z v=>
      have cV:V P c:=hc c (by simp);have it:∀k acc,V P acc->img m s (iter k (fun v=>mul P v c) acc) e=iter k (fun v=>m v (img m s c e)) (img m s acc e):=by
       intro k
       induction k with
       |zero=>intro acc _;rfl
       |succ k ihk=>
        simp_all[iter]
      simp only[img,Ju];rw[ihc v _ (by simp_all) (vV (by grind) _ hacc),it _ _ hacc]
   rw[key l.cs v (zeros P.length) gY (wC dw),tL];refine zHu h hg s _ v mr (by simp_all) (by grind) ?_;intro k c d hc hd;simp only[Jw,Kf]at hd;obtain⟨d',mL,rfl⟩:=hd
   grind
  have hσk:∀k v,V P v->m (img m s v e) (pw m e g k)=m (pw m e g k) (img m s (iter k (fun v=>img (mul P) l.cs v (zeros P.length)) v) e):=by
   intro k
   induction k with
   |zero=>intro v _;simp[pw,iter,h.onel (hφ v),h.oner (hφ v)]
   |succ k ihk=>
    intro v hv;rw[zUk h hg,<-h.assoc (hφ v) hg (wS h hg k),hσ v hv,h.assoc hg (hφ _) (wS h hg k),ihk _ (tw v hv),<-h.assoc hg (wS h hg k) (hφ _)];rfl
  have fH:=wS h hg a.toNat;have t8:=wS h hg b.toNat;have eh:V P (iter b.toNat (fun v=>img (mul P) l.cs v (zeros P.length)) x):=vV tw _ hx.2;have aI:m (img m (g::s) (a::x) e) (img m (g::s) (b::y) e)=m (pw m e g (a.toNat+b.toNat)) (img m s (mul P (iter b.toNat (fun v=>img (mul P) l.cs v (zeros P.length)) x) y) e):=by rw[sX h hg mr,sX h hg mr,h.assoc fH (hφ x) (h.cl t8 (hφ y)),<-h.assoc (hφ x) t8 (hφ y),hσk _ _ hx.2,h.assoc t8 (hφ _) (hφ y),<-ih _ _ eh hy.2,<-h.assoc fH t8 (hφ _),zAJ h hg]
  rw[aI];simp only[mul];split
  ·rename_i hge
   rw[sX h hg mr,ih _ _ hw (hmP eh hy.2),<-mz,<-h.assoc (wS h hg _) (wS h hg _) (hφ _),<-zAJ h hg]
   congr 2
   omega
  ·rw[sX h hg mr]
   congr 2
   omega
end
def xG(n j:Nat):Vec:=(zeros n).set j 1
def sig(P:Pcp)(l:Lvl)(v:Vec):Vec:=img (mul P) l.cs v (zeros P.length)
def xC:Pcp->Prop
 | []=>True
 |l::P=>xC P/\Rel (mul P) (zeros P.length) P l.cs/\sig P l l.w=l.w/\ ∀j,j<P.length->mul P l.w (iter l.o.toNat (sig P l) (xG P.length j))=mul P (xG P.length j) l.w
theorem zCO(n:Nat):xG (n+1) 0=1::zeros n:=rfl
theorem zFq(n j:Nat):xG (n+1) (j+1)=0::xG n j:=rfl
def wA(n:Nat):List Vec:=(Jd n).map (xG n)
theorem zOl(n:Nat):wA (n+1)=(1::zeros n)::(wA n).map (0::·):=by
 simp only[wA,Qy,Ju,Jb1,zCO]
 congr 1
theorem zCn:∀{P:Pcp},Ok P-> ∀{j:Nat},j<P.length->V P (xG P.length j)
 | [],_,_,hj=>by simp at hj
 |l::P,h,0,_=>by grind[Ok,zCO,V,wC]
 |l::P,h,j+1,hj=>by simp only[Ok]at h;rw[J7,zFq];simp only[V];exact⟨by omega,zCn h.2.2.2.2 (by grind)⟩
theorem zCo{l:Lvl}{P:Pcp}(h:Ok (l::P)){v:Vec}(_hv:V P v):V P (sig P l v):=by simp only[Ok]at h;exact qD (yO h.2.2.2.2) l.cs v h.2.2.2.1 (wC h.2.2.2.2)
theorem yJ(l:Lvl)(P:Pcp)(a b:Int)(x y:Vec):mul (l::P) (a::x) (b::y)=if a+b>=l.o then(a+b-l.o)::mul P l.w (mul P (iter b.toNat (sig P l) x) y)else(a+b)::mul P (iter b.toNat (sig P l) x) y:=rfl
theorem zRA{n:Nat}{c:Vec}(h:(wA n)[k]? =jd c):k<n/\c=xG n k:=by
 simp only[wA,Jw,Kf]at h
 grind
theorem normal:∀(P:Pcp),Ok P->(∀Q,Q<:+P->Mon (V Q) (mul Q) (zeros Q.length))-> ∀x,V P x->img (mul P) (wA P.length) x (zeros P.length)=x
 | [],_,_,x,hx=>by grind[V,img,zeros]
 |l::P,_,_,[],hx=>by grind[V]
 |l::P,h,hM,a::x,hx=>by
  have ja:=hM (l::P) (List.suffix_refl _);have hMP:=hM P (by simp);have h':=h;simp only[Ok]at h;simp only[V]at hx;rw[J7,zOl];have hz:V P (zeros P.length):=wC h.2.2.2.2;have dp:V (l::P) (1::zeros P.length):=by grind[V]
  have fP:∀c∈(wA P.length).map (0::·),V (l::P) c:=by
   intro c hc;simp only[wA,Jb1,Jc,Lh]at hc;obtain⟨j,hj,rfl⟩:=hc;simp only[Function.comp,V]
   grind[zCn]
  have ch:V (l::P) (zeros (P.length+1)):=by grind[wC]
  rw[show zeros (P.length+1)=zeros (l::P).length from rfl];rw[sX ja dp fP];have sz:∀k:Nat,iter k (sig P l) (zeros P.length)=zeros P.length:=by
   intro k
   induction k with
   |zero=>rfl
   |succ k ih=>grind[iter,sig,tL]
  have h1:∀k:Nat,(k:Int)<l.o->pw (mul (l::P)) (zeros (l::P).length) (1::zeros P.length) k=(k:Int)::zeros P.length:=by
   intro k
   induction k with
   |zero=>intro _;rfl
   |succ k ih=>
    intro hk;rw[pw,xP];show mul (l::P) (pw (mul (l::P)) (zeros (l::P).length) (1::zeros P.length) k) (1::zeros P.length)=_;rw[ih (by omega),yJ,if_neg (by omega)];rw[sz,hMP.onel hz];rfl
  have h2:∀(cs:List Vec)(y acc:Vec),(∀c∈cs,V P c)->V P acc->img (mul (l::P)) (cs.map (0::·)) y (0::acc)=0::img (mul P) cs y acc:=by
   intro cs
   induction cs with
   |nil=>grind[img]
   |cons c cs ih=>
    intro y acc hc hacc;cases y with
    |nil=>simp[img]
    |cons z y=>
     have cV:V P c:=hc c (by simp);have it:∀(k:Nat)(acc:Vec),V P acc->iter k (fun v=>mul (l::P) v (0::c)) (0::acc)=0::iter k (fun v=>mul P v c) acc:=by
      intro k
      induction k with
      |zero=>intro _ _;rfl
      |succ k ihk=>
       intro acc hacc;simp only[iter];rw[yJ,if_neg (by omega)];exact ihk _ (yO h.2.2.2.2 hacc cV)
     simp only[Ju,img];rw[it _ _ hacc,ih _ _ (by grind) (vV (by grind[yO]) _ hacc)]
  have cZ:∀c∈wA P.length,V P c:=by
   intro c hc;simp only[wA,Jc,Lh]at hc;obtain⟨j,hj,rfl⟩:=hc
   grind[zCn]
  rw[h1 a.toNat (by omega),show zeros (l::P).length=0::zeros P.length from rfl,h2 _ _ _ cZ hz,normal P h.2.2.2.2 (by grind) x hx.2,yJ,if_neg (by omega)];simp only[Gu,iter];rw[hMP.onel hx.2]
  grind
theorem zBL:∀(P:Pcp),Ok P->xC P->Grp (V P) (mul P) (zeros P.length)
 | [],_,_=>by
  refine⟨⟨fun _ _=>rfl,rfl,fun _ _ _=>rfl,?_,?_⟩,fun ha=>⟨[],rfl,rfl⟩⟩<;>
  ·intro a ha
   simp only[V]at ha;subst ha;rfl
 |l::P,h,hc=>by
  have h':=h;simp only[Ok]at h;simp only[xC]at hc;obtain⟨ho,hw,gy,gY,hP⟩:=h;obtain⟨iT,mY,aU,aR⟩:=hc;have N:=zBL P hP iT;have hM:∀Q,Q<:+P->Mon (V Q) (mul Q) (zeros Q.length):=by
   intro Q hQ;obtain⟨t,ht⟩:=hQ;have:Ok Q/\xC Q:=by
    clear N hw gy gY mY aU aR h'
    induction t generalizing P with
    |nil=>grind
    |cons a t ih=>
     simp at ht;subst ht;simp only[Ok]at hP;simp only[xC]at iT
     grind
   have gC:SizeOf.sizeOf Q<=SizeOf.sizeOf P:=by
    rw[<-ht]
    clear N hw gy gY mY aU aR h' hP iT ht this
    induction t with
    |nil=>simp
    |cons a t ih=>grind
   exact(zBL Q this.1 this.2).toMon
  have hz:V P (zeros P.length):=wC hP;have σin:∀v,V P v->V P (sig P l v):=by grind[zCo]
  have σhom:∀x y,V P x->V P y->sig P l (mul P x y)=mul P (sig P l x) (sig P l y):=fun x y hx hy=>yD2 N.toMon P l.cs hP gY mY x y hx hy
  have σz:sig P l (zeros P.length)=zeros P.length:=tL _ _ _ _;have itin:∀(k:Nat) v,V P v->V P (iter k (sig P l) v):=fun k v hv=>vV σin k hv
  have ithom:∀(k:Nat) x y,V P x->V P y->iter k (sig P l) (mul P x y)=mul P (iter k (sig P l) x) (iter k (sig P l) y):=by
   intro k
   induction k with
   |zero=>intro _ _ _ _;rfl
   |succ k ih=>simp_all[iter]
  have itz:∀k:Nat,iter k (sig P l) (zeros P.length)=zeros P.length:=by
   intro k
   induction k with
   |zero=>rfl
   |succ k ih=>grind[iter]
  have itw:∀k:Nat,iter k (sig P l) l.w=l.w:=by
   intro k
   induction k with
   |zero=>rfl
   |succ k ih=>grind[iter]
  have cZ:∀c∈wA P.length,V P c:=by
   intro c hc;simp only[wA,Jc,Lh]at hc;obtain⟨j,hj,rfl⟩:=hc
   grind[zCn]
  have inner:∀x,V P x->mul P x l.w=mul P l.w (iter l.o.toNat (sig P l) x):=by
   intro x hx;have hnf:=normal P hP hM x hx;have fY:=zQ0 N.toMon N.toMon (iter l.o.toNat (sig P l)) (by grind) (itz _) (by grind) (wA P.length) x cZ;rw[<-hnf,fY];refine zHu N.toMon hw _ _ x cZ (by simp_all) (by simp) ?_;intro k c d hc hd;rw[Jw,Kf]at hd;obtain⟨c',pN,rfl⟩:=hd;rw[hc]at pN;simp at pN;subst pN;obtain⟨hk,rfl⟩:=zRA hc
   grind
  have e:∀(x y z:Vec)(b c:Int),V P x->V P y->V P z->0<=b->0<=c->
    mul P (iter c.toNat (sig P l) (mul P (iter b.toNat (sig P l) x) y)) z=mul P (iter (b+c).toNat (sig P l) x) (mul P (iter c.toNat (sig P l) y) z)/\
    mul P (iter c.toNat (sig P l) (mul P l.w (mul P (iter b.toNat (sig P l) x) y))) z=mul P l.w (mul P (iter (b+c).toNat (sig P l) x) (mul P (iter c.toNat (sig P l) y) z))/\
    (l.o<=b+c->mul P (iter (b+c-l.o).toNat (sig P l) x) (mul P l.w (mul P (iter c.toNat (sig P l) y) z))=mul P l.w (mul P (iter (b+c).toNat (sig P l) x) (mul P (iter c.toNat (sig P l) y) z))):=by
   intro x y z b c hx hy hz hb hcc;have iU:=itin b.toNat x hx;have hcy:=itin c.toNat y hy;have hbc:iter c.toNat (sig P l) (iter b.toNat (sig P l) x)=iter (b+c).toNat (sig P l) x:=by rw[<-zEt];congr 1;omega
   have iY:=itin (b+c).toNat x hx;have e1:mul P (iter c.toNat (sig P l) (mul P (iter b.toNat (sig P l) x) y)) z=mul P (iter (b+c).toNat (sig P l) x) (mul P (iter c.toNat (sig P l) y) z):=by rw[ithom _ _ _ iU hy,hbc,N.assoc iY hcy hz]
   refine⟨e1,?_,?_⟩
   ·rw[ithom _ _ _ hw (N.cl iU hy),itw,N.assoc hw (itin _ _ (N.cl iU hy)) hz,e1]
   ·intro hge
    have aW:=N.cl hcy hz;rw[<-N.assoc (itin _ x hx) hw aW,inner _ (itin _ x hx),<-zEt,N.assoc hw (itin _ x hx) aW]
    congr 3
    omega
  refine⟨⟨by grind[yO],wC h',?_,?_,?_⟩,?_⟩
  ·intro A B C hA hB hC
   match A,B,C,hA,hB,hC with
   |a::x,b::y,c::z,hA,hB,hC=>
    simp only[V]at hA hB hC;obtain⟨e1,e2,e3⟩:=e x y z b c hA.2 hB.2 hC.2 hB.1.1 hC.1.1
    by_cases c1:a+b>=l.o<;>by_cases c2:b+c>=l.o
    ·rw[yJ,if_pos c1,yJ l P b c,if_pos c2,yJ,yJ,e2,e3 c2]
     grind
    ·rw[yJ,if_pos c1,yJ l P b c,if_neg c2,yJ,yJ,e2,if_neg (by omega),if_pos (by omega)]
     grind
    ·rw[yJ,if_neg c1,yJ l P b c,if_pos c2,yJ,yJ,e1,e3 c2,if_pos (by omega),if_neg (by omega)]
     grind
    ·rw[yJ,if_neg c1,yJ l P b c,if_neg c2,yJ,yJ,e1]
     grind
  ·intro A hA
   match A,hA with
   |a::x,hA=>
    simp only[V]at hA;show mul (l::P) (0::zeros P.length) (a::x)=_;rw[yJ,if_neg (by omega),itz,N.onel hA.2,Ko]
  ·intro A hA
   match A,hA with
   |a::x,hA=>
    simp only[V]at hA;show mul (l::P) (a::x) (0::zeros P.length)=_;rw[yJ,if_neg (by omega)];simp only[Gu,iter];rw[N.oner hA.2,L7]
  ·intro A hA
   match A,hA with
   |a::x,hA=>
    simp only[V]at hA
    by_cases ha:a=0
    ·obtain⟨y,hy,h1⟩:=N.inv hA.2
     refine⟨0::y,by simp only[V];grind,?_⟩;rw[yJ,if_neg (by omega)];simp only[Gu,iter];rw[h1,ha];rfl
    ·have a9:=itin (l.o-a).toNat x hA.2
     obtain⟨y,hy,h1⟩:=N.inv (N.cl hw a9);refine⟨(l.o-a)::y,by simp only[V];grind,?_⟩;rw[yJ,if_pos (by omega),<-N.assoc hw a9 hy,h1,show a+(l.o-a)-l.o=0 by omega];rfl
termination_by P=>P
structure Fil {α:Type} (S:α->Prop) (m:α->α->α) (e:α) (n:Nat) (o:Nat->Int) (co:α->Nat->Int):Prop where
 g:Grp S m e
 r:∀{a d},S a->d<n->0<=co a d/\co a d<o d
 e0:∀{d},d<n->co e d=0
 ex:∀{a b},S a->S b->(∀d,d<n->co a d=co b d)->a=b
 ad:∀{a b d},S a->S b->d<n->(∀j,j<d->co b j=0)->(∀j,j<d->co (m a b) j=co a j)/\co (m a b) d=(co a d+co b d)%o d
inductive Gen {α:Type} (S:α->Prop) (m:α->α->α) (e:α) (X:α->Prop):α->Prop
 |one:Gen S m e X e
 |x {a}:X a->Gen S m e X a
 |m {a b}:Gen S m e X a->Gen S m e X b->Gen S m e X (m a b)
 |i {a b}:Gen S m e X a->S b->m a b=e->Gen S m e X b
section
variable {α:Type}{S:α->Prop}{m:α->α->α}{e:α}{X Y:α->Prop}
theorem Gen.to(h:∀a,X a->Gen S m e Y a){a:α}(ha:Gen S m e X a):Gen S m e Y a:=by
 induction ha with
 |one=>exact .one
 |x hx=>exact h _ hx
 |m _ _ h1 h2=>exact .m h1 h2
 |i _ hb hh h1=>exact .i h1 hb hh
theorem Gen.mono(h:∀a,X a->Y a){a:α}(ha:Gen S m e X a):Gen S m e Y a:=ha.to fun _ h'=>.x (h _ h')
theorem Gen.pw{a:α}(ha:Gen S m e X a):∀k,Gen S m e X (pw m e a k)
 |0=>.one
 |k+1=>by rw[Pc.pw,xP];exact .m (ha.pw k) ha
variable (g:Grp S m e)
 include g
theorem Gen.in(hX:∀a,X a->S a){a:α}(ha:Gen S m e X a):S a:=by
 induction ha with
 |one=>exact g.ein
 |x hx=>exact hX _ hx
 |m _ _ h1 h2=>exact g.cl h1 h2
 |i _ hb _ _=>exact hb
theorem Grp.inv_l{a b:α}(ha:S a)(hb:S b)(h:m a b=e):m b a=e:=by obtain⟨c,hc,h1,h2⟩:=g.invl ha;rw[show b=c from g.cancel_l ha hb hc (h.trans h1.symm)];exact h2
theorem Gen.left(hX:∀a,X a->S a){a b:α}(ha:S a)(hb:Gen S m e X b)(h:Gen S m e X (m a b)):Gen S m e X a:=by
 have hbs:=hb.in g hX;obtain⟨c,hc,h1,_⟩:=g.invl hbs;have:=Gen.m h (.i hb hc h1)
 rwa [g.assoc ha hbs hc,h1,g.oner ha]at this
theorem Gen.right(hX:∀a,X a->S a){a b:α}(ha:Gen S m e X a)(hb:S b)(h:Gen S m e X (m a b)):Gen S m e X b:=by
 have has:=ha.in g hX;obtain⟨c,hc,h1,h2⟩:=g.invl has;have:=Gen.m (.i ha hc h1) h
 rwa [<-g.assoc hc has hb,h2,g.onel hb]at this
end
section
variable {α:Type}{S:α->Prop}{m:α->α->α}{e:α}{n:Nat}{o:Nat->Int}{co:α->Nat->Int} (F:Fil S m e n o co)
 include F
theorem Fil.dm{a b:α}(hd:d<=n)(ha:S a)(hb:S b)(za:∀j,j<d->co a j=0)(zb:∀j,j<d->co b j=0):∀j,j<d->co (m a b) j=0:=fun j hj=>by have h:=(F.ad ha hb (by omega:j<n) fun i hi=>zb i (by omega)).2;rw[h,za j hj,zb j hj];simp
theorem Fil.md{x:Int}(hd:d<n){a:α}(ha:S a)(h:co a d=x):x%o d=x:=by have:=F.r ha hd;rw[<-h];exact Jp this.1 this.2
theorem Fil.pwc{t:α}{d:Nat}(hd:d<n)(ht:S t)(zt:∀j,j<d->co t j=0):∀k,(∀j,j<d->co (pw m e t k) j=0)/\co (pw m e t k) d=(k*co t d)%o d
 |0=>⟨fun j hj=>F.e0 (by omega),by rw[pw,iter,F.e0 hd];simp⟩
 |k+1=>by
  have ih:=Fil.pwc hd ht zt k;have hp:=wS F.g.toMon ht k;have e1:pw m e t (k+1)=m (pw m e t k) t:=by rw[pw,xP];rfl
  have h:=F.ad hp ht hd zt;rw[e1];refine⟨fun j hj=>(h.1 j hj).trans (ih.1 j hj),?_⟩;rw[h.2,ih.2,G4]
  congr 1
  rw[Jbe,Jbp,Gs]
theorem Fil.cmd{a b w:α}(hk:k<n)(ha:S a)(hb:S b)(hw:S w)(za:∀j,j<k->co a j=0)(zb:∀j,j<k+1->co b j=0)(h:m (m b a) w=m a b\/m (m a b) w=m b a):∀j,j<k+1->co w j=0:=by
 have e1:∀j,j<k+1->co (m b a) j=co a j:=fun j hj=>by have h:=(F.ad hb ha (by omega:j<n) fun i hi=>za i (by omega)).2;rw[h,zb j hj,Ko];exact F.md (by omega) ha rfl
 have e2:∀j,j<k+1->co (m a b) j=co a j:=fun j hj=>by have h:=(F.ad ha hb (by omega:j<n) fun i hi=>zb i (by omega)).2;rw[h,zb j hj,L7];exact F.md (by omega) ha rfl
 intro j
 induction j using U1 with
 |ind j ih=>
  intro hj;have fL:j<n:=by omega
  have hr:=F.r ha fL;have bQ:=F.r hw fL;have key:(co a j+co w j)%o j=co a j:=by
   rcases h with h|h
   ·have h1:=(F.ad (F.g.cl hb ha) hw fL fun i hi=>ih i hi (by omega)).2
    rw[h,e2 j hj,e1 j hj]at h1;exact h1.symm
   ·have h1:=(F.ad (F.g.cl ha hb) hw fL fun i hi=>ih i hi (by omega)).2
    rw[h,e1 j hj,e2 j hj]at h1;exact h1.symm
  by_cases g:co a j+co w j<o j
  ·rw[Jp (by omega) g]at key;omega
  ·rw[<-Ug,Jp (by omega) (by omega)]at key;omega
structure Tab (S:α->Prop) (n:Nat) (co:α->Nat->Int) (T:Nat->Option α):Prop where
 h:∀{k t},T k=jd t->k<n/\S t/\(∀j,j<k->co t j=0)/\co t k=1
def GX(n:Nat)(co:α->Nat->Int)(T:Nat->Option α)(Q:List α)(k:Nat)(a:α):Prop:=(∃j,k<=j/\T j=jd a)\/(a∈Q/\ ∀j,j<k->j<n->co a j=0)
 omit F in
theorem GX.s{T:Nat->Option α}{Q:List α}(hT:Tab S n co T)(hQ:∀a∈Q,S a):∀a,GX n co T Q k a->S a
  |_,.inl ⟨_,_,h⟩=>(hT.h h).2.1
  |a,.inr h=>hQ a h.1
section
variable {T:Nat->Option α} (hT:Tab S n co T)
structure Clo (S:α->Prop) (m:α->α->α) (e:α) (n:Nat) (o:Nat->Int) (co:α->Nat->Int) (T:Nat->Option α) (Q:List α):Prop where
 p:∀{k t},T k=jd t->Gen S m e (GX n co T Q (k+1)) (pw m e t (o k).toNat)
 c:∀{k j t u},T k=jd t->T j=jd u->k<j-> ∃c,Gen S m e (GX n co T Q (k+1)) c/\m u t=m t c
variable (hC:Clo S m e n o co T [])
 include hT hC
theorem Clo.conj{t:α}(ht:T k=jd t){y:α}(hy:Gen S m e (GX n co T [] (k+1)) y):∃c,Gen S m e (GX n co T [] (k+1)) c/\m y t=m t c:=by
 have eP:=(hT.h ht).2.1;have hG:∀{a},Gen S m e (GX n co T [] (k+1)) a->S a:=fun h=>h.in F.g (GX.s hT (by simp))
 induction hy with
 |one=>exact⟨e,.one,by rw[F.g.onel eP,F.g.oner eP]⟩
 |x hx=>
  rcases hx with⟨j,h1,h2⟩|⟨h,_⟩
  ·exact hC.c ht h2 (by omega)
  ·simp at h
 | @m a b ga gb ha hb=>
  obtain⟨c,c1,c2⟩:=ha;obtain⟨d,d1,d2⟩:=hb;refine⟨m c d,.m c1 d1,?_⟩;rw[F.g.assoc (hG ga) (hG gb) eP,d2,<-F.g.assoc (hG ga) eP (hG d1),c2,F.g.assoc eP (hG c1) (hG d1)]
 | @i a b ga hb hh ha=>
  obtain⟨c,c1,c2⟩:=ha;obtain⟨d,d1,d2,_⟩:=F.g.invl (hG c1);have hl:=F.g.inv_l (hG ga) hb hh;refine⟨d,.i c1 d1 d2,F.g.cancel_l (hG ga) (F.g.cl hb eP) (F.g.cl eP d1) ?_⟩;rw[<-F.g.assoc (hG ga) hb eP,hh,F.g.onel eP,<-F.g.assoc (hG ga) eP d1,c2,F.g.assoc eP (hG c1) d1,d2,F.g.oner eP]
theorem Clo.conjs{k:Nat}{t:α}(ht:T k=jd t):∀(a:Nat){y:α},Gen S m e (GX n co T [] (k+1)) y-> ∃c,Gen S m e (GX n co T [] (k+1)) c/\m y (pw m e t a)=m (pw m e t a) c
 |0,y,hy=>⟨y,hy,by have:=hy.in F.g (GX.s hT (by simp));show m y e=m e y;rw[F.g.onel this,F.g.oner this]⟩
 |a+1,y,hy=>by
  have hG:∀{a},Gen S m e (GX n co T [] (k+1)) a->S a:=fun h=>h.in F.g (GX.s hT (by simp))
  have eP:=(hT.h ht).2.1;obtain⟨c,c1,c2⟩:=Clo.conjs ht a hy;obtain⟨d,d1,d2⟩:=Clo.conj F hT hC ht c1;have hp:=wS F.g.toMon eP a;refine⟨d,d1,?_⟩;rw[show pw m e t (a+1)=m (pw m e t a) t from by rw[pw,xP];rfl,<-F.g.assoc (hG hy) hp eP,c2,F.g.assoc hp (hG c1) eP,d2,F.g.assoc hp eP (hG d1)]
theorem Clo.pws{k:Nat}{t:α}(ht:T k=jd t):∀N:Nat,Gen S m e (GX n co T [] (k+1)) (pw m e t (N*(o k).toNat))
 |0=>by rw[Uy];exact .one
 |N+1=>by rw[K8,zAJ F.g.toMon (hT.h ht).2.1];exact .m (Clo.pws ht N) (hC.p ht)
theorem Clo.form{t:α}(ht:T k=jd t){x:α}(hx:Gen S m e (GX n co T [] k) x):∃(a:Nat)(y:α),Gen S m e (GX n co T [] (k+1)) y/\x=m (pw m e t a) y:=by
 have eP:=(hT.h ht).2.1;have hG:∀{j a},Gen S m e (GX n co T [] j) a->S a:=fun h=>h.in F.g (GX.s hT (by simp))
 have hP:=fun a=>wS F.g.toMon eP a
 induction hx with
 |one=>exact⟨0,e,.one,(F.g.onel F.g.ein).symm⟩
 | @x a hx=>
  rcases hx with⟨j,h1,h2⟩|⟨h,_⟩
  ·by_cases hj:j=k
   ·subst hj
    rw[ht]at h2;cases h2;exact⟨1,e,.one,by rw[zK2 F.g.toMon eP,F.g.oner eP]⟩
   ·exact⟨0,a,.x (.inl ⟨j,by omega,h2⟩),(F.g.onel (hT.h h2).2.1).symm⟩
  ·simp at h
 | @m a b _ _ ha hb=>
  obtain⟨i,y,hy,rfl⟩:=ha;obtain⟨j,z,hz,rfl⟩:=hb;obtain⟨c,c1,c2⟩:=Clo.conjs F hT hC ht j hy;refine⟨i+j,m c z,.m c1 hz,?_⟩;rw[zAJ F.g.toMon eP,F.g.assoc (hP i) (hG hy) (F.g.cl (hP j) (hG hz)),<-F.g.assoc (hG hy) (hP j) (hG hz),c2,F.g.assoc (hP j) (hG c1) (hG hz),F.g.assoc (hP i) (hP j) (F.g.cl (hG c1) (hG hz))]
 | @i a b ga hb hh ha=>
  obtain⟨i,y,hy,rfl⟩:=ha;obtain⟨y',y1,y2,_⟩:=F.g.invl (hG hy);have ho:1<=(o k).toNat:=by have:=F.r eP (hT.h ht).1;omega
  have fd:i<=i*(o k).toNat:=Jav i ho;have e1:i*(o k).toNat=i+(i*(o k).toNat-i):=by omega
  have hw:=Clo.pws F hT hC ht i;obtain⟨w,w1,w2,_⟩:=F.g.invl (hG hw);obtain⟨c,c1,c2⟩:=Clo.conjs F hT hC ht (i*(o k).toNat-i) (.i hy y1 y2);refine⟨i*(o k).toNat-i,m c w,.m c1 (.i hw w1 w2),?_⟩;refine F.g.cancel_l (F.g.cl (hP i) (hG hy)) hb (F.g.cl (hP _) (F.g.cl (hG c1) w1)) ?_;rw[hh,<-F.g.assoc (hP _) (hG c1) w1,<-c2,F.g.assoc y1 (hP _) w1,F.g.assoc (hP i) (hG hy) (F.g.cl y1 (F.g.cl (hP _) w1)),<-F.g.assoc (hG hy) y1 (F.g.cl (hP _) w1),y2,F.g.onel (F.g.cl (hP _) w1),<-F.g.assoc (hP i) (hP _) w1,<-zAJ F.g.toMon eP,<-e1,w2]
theorem Clo.depth:∀(l k:Nat),k+l=n-> ∀{x:α},Gen S m e (GX n co T [] k) x->(∀j,j<k->co x j=0)->x≠e-> ∃j,k<=j/\j<n/\(T j).isSome=jf/\(∀i,i<j->co x i=0)/\co x j≠0
 |0,k,hk,x,hx,hz,gc=>by
  have hG:∀{j a},Gen S m e (GX n co T [] j) a->S a:=fun h=>h.in F.g (GX.s hT (by simp))
  exact absurd (F.ex (hG hx) F.g.ein fun d hd=>by rw[hz d (by omega),F.e0 hd]) gc
 |l+1,k,hk,x,hx,hz,gc=>by
  have hG:∀{j a},Gen S m e (GX n co T [] j) a->S a:=fun h=>h.in F.g (GX.s hT (by simp))
  have eY:k<n:=by omega
  have deep:∀{y},Gen S m e (GX n co T [] (k+1)) y-> ∀j,j<k+1->co y j=0:=fun{y} hy=>by
   induction hy with
   |one=>exact fun j hj=>F.e0 (by omega)
   |x hx=>
    rcases hx with⟨j,h1,h2⟩|⟨h,_⟩
    ·exact fun i hi=>(hT.h h2).2.2.1 i (by omega)
    ·simp at h
   |m ga gb ha hb=>exact F.dm (by omega) (hG ga) (hG gb) ha hb
   | @i a b ga hb hh ha=>
    intro j
    induction j using U1 with
    |ind j ih=>
     intro hj;have h1:=(F.ad (hG ga) hb (by omega:j<n) fun i hi=>ih i hi (by omega)).2;rw[hh,F.e0 (by omega),ha j hj,Ko]at h1;rw[<-F.md (by omega) hb rfl];exact h1.symm
  have next:Gen S m e (GX n co T [] (k+1)) x-> ∃j,k<=j/\j<n/\(T j).isSome=jf/\(∀i,i<j->co x i=0)/\co x j≠0:=fun h=>by obtain⟨j,j1,j2⟩:=Clo.depth l (k+1) (by omega) h (deep h) gc;exact⟨j,by omega,j2⟩
  cases ht:T k with
  |none=>
   refine next (hx.mono fun a ha=>?_);rcases ha with⟨j,h1,h2⟩|⟨h,_⟩
   ·by_cases hj:j=k
    ·subst hj;rw[ht]at h2;cases h2
    ·exact .inl ⟨j,by omega,h2⟩
   ·simp at h
  |some t=>
   by_cases h0:co x k=0
   ·obtain⟨a,y,hy,rfl⟩:=Clo.form F hT hC ht hx
    have ah:=hT.h ht;have hp:=F.pwc eY ah.2.1 ah.2.2.1 a;have h1:=(F.ad (wS F.g.toMon ah.2.1 a) (hG hy) eY fun j hj=>deep hy j (by omega)).2;rw[h0,deep hy k (by omega),hp.2,ah.2.2.2,L7,L6,K3]at h1;have ho:=F.r ah.2.1 eY;have hd:(o k).toNat∣a:=by have:=Int.dvd_of_emod_eq_zero h1.symm;rw[show o k=((o k).toNat:Int)from by omega]at this;exact Int.natCast_dvd_natCast.1 this
    obtain⟨N,rfl⟩:=hd;rw[Nat.mul_comm]at next ⊢
    exact next (.m (Clo.pws F hT hC ht N) hy)
   ·exact⟨k,Je _,eY,by rw[ht];rfl,hz,h0⟩
end
structure Can (S:α->Prop) (n:Nat) (co:α->Nat->Int) (H:α->Prop) (C:Nat->Option α):Prop where
 i:∀{k t},C k=jd t->k<n/\H t/\S t/\(∀j,j<k->co t j=0)/\co t k=1/\ ∀j,k<j->j<n->(C j).isSome=jf->co t j=0
 d:∀{x},H x->x≠e-> ∃j,j<n/\(C j).isSome=jf/\(∀i,i<j->co x i=0)/\co x j≠0
theorem Can.uniq{H:α->Prop}(hm:∀{a b},H a->H b->H (m a b))(hi:∀{a b},H a->S b->m a b=e->H b){C D:Nat->Option α}(hC:Can (e:=e) S n co H C)(hD:Can (e:=e) S n co H D):∀k,C k=D k:=by
 have bC:∀{C D:Nat->Option α},Can (e:=e) S n co H C->Can (e:=e) S n co H D-> ∀k,(C k).isSome=jf->(D k).isSome=jf:=fun{C D} hC hD k hk=>by
  obtain⟨t,ht⟩:=Kt.1 hk;obtain⟨a1,a2,a3,a4,a5,_⟩:=hC.i ht;obtain⟨j,j1,j2,j3,j4⟩:=hD.d a2 fun h=>by rw[h,F.e0 a1]at a5;cases a5
  rcases G1 j k with h|h|h
  ·exact absurd (a4 j h) j4
  ·rwa [<-h]
  ·have:=j3 k h;omega
 intro k;cases hc:C k with
 |none=>
  cases hd:D k with
  |none=>rfl
  |some u=>
   have:=bC hD hC k (by rw[hd];rfl);rw[hc]at this;cases this
 |some t=>
  cases hd:D k with
  |none=>
   have:=bC hC hD k (by rw[hc];rfl);rw[hd]at this;cases this
  |some u=>
   obtain⟨a1,a2,a3,a4,a5,a6⟩:=hC.i hc;obtain⟨_,b2,b3,b4,b5,b6⟩:=hD.i hd;obtain⟨t',t1,t2,t3⟩:=F.g.invl a3;have hh:H (m t' u):=hm (hi a2 t1 t2) b2;have hhs:S (m t' u):=F.g.cl t1 b3;have e1:m t (m t' u)=u:=by rw[<-F.g.assoc a3 t1 b3,t2,F.g.onel b3]
   have same:∀j,j<n->(C j).isSome=jf->co t j=co u j:=fun j hj bz=>by
    rcases G1 j k with h|h|h
    ·rw[a4 j h,b4 j h]
    ·rw[h,a5,b5]
    ·rw[a6 j h hj bz,b6 j h hj (bC hC hD j bz)]
   have hz:m t' u=e:=by
    refine Classical.byContradiction fun gc=>?_
    obtain⟨j,j1,j2,j3,j4⟩:=hC.d hh gc;have h1:=(F.ad a3 hhs j1 j3).2;rw[e1,<-same j j1 j2]at h1;have r1:=F.r a3 j1;have r2:=F.r hhs j1
    by_cases g:co t j+co (m t' u) j<o j
    ·rw[Jp (by omega) g]at h1;omega
    ·rw[<-Ug,Jp (by omega) (by omega)]at h1;omega
   rw[hz,F.g.oner a3]at e1;rw[e1]
end
section
variable {α:Type}{S:α->Prop}{m:α->α->α}{e:α}{n:Nat}{o:Nat->Int}{co:α->Nat->Int}
def Dp(n:Nat)(co:α->Nat->Int)(k:Nat)(a:α):Prop:=∀j,j<k->j<n->co a j=0
theorem Gen.tr{T T':Nat->Option α}{Q Q':List α}(hT:∀k t,T k=jd t->T' k=jd t)(hq:∀a∈Q,∀k,Dp n co k a->Gen S m e (GX n co T' Q' k) a){a:α}(h:Gen S m e (GX n co T Q k) a):Gen S m e (GX n co T' Q' k) a:=
 h.to fun a ha=>by
  rcases ha with⟨j,h1,h2⟩|⟨h1,h2⟩
  ·exact .x (.inl ⟨j,h1,hT _ _ h2⟩)
  ·exact hq a h1 k h2
structure Wl (S:α->Prop) (m:α->α->α) (e:α) (n:Nat) (o:Nat->Int) (co:α->Nat->Int) (L:α->Prop) (T:Nat->Option α) (Q:List α):Prop where
 t:Tab S n co T
 th:∀{k t},T k=jd t->Gen S m e L t
 q:∀a∈Q,S a/\Gen S m e L a
 g:∀a,L a->Gen S m e (GX n co T Q 0) a
 c:Clo S m e n o co T Q
theorem Wl.start(L:List α)(hL:∀a∈L,S a):Wl S m e n o co (· ∈L) (fun _=>je) L:=
 ⟨⟨fun h=>by cases h⟩,(fun h=>by cases h),(fun a h=>⟨hL a h,.x h⟩),(fun a h=>.x (.inr ⟨h,fun j hj=>by omega⟩)),⟨(fun h=>by cases h),(fun h=>by cases h)⟩⟩
theorem Wl.more{L:α->Prop}{T:Nat->Option α}(h:Wl S m e n o co L T []){M:List α}(hM:∀a∈M,S a):Wl S m e n o co (fun a=>L a\/a∈M) T M:=by
 have tr:∀{k a},Gen S m e (GX n co T [] k) a->Gen S m e (GX n co T M k) a:=fun g=>g.tr (fun _ _ h=>h) (by simp)
 refine⟨h.t,fun ht=>(h.th ht).mono fun _ h=>.inl h,fun a ha=>⟨hM a ha,.x (.inr ha)⟩,fun a ha=>?_,fun ht=>tr (h.c.p ht),fun h1 h2 h3=>?_⟩
 ·rcases ha with ha|ha
  ·exact tr (h.g a ha)
  ·exact .x (.inr ⟨ha,fun j hj=>by omega⟩)
 ·obtain⟨c,c1,c2⟩:=h.c.c h1 h2 h3
  exact⟨c,tr c1,c2⟩
theorem Wl.drop{L:α->Prop}{T:Nat->Option α}{Q Q':List α}(h:Wl S m e n o co L T Q){x:α}(hx:∀k,Dp n co k x->Gen S m e (GX n co T Q' k) x)(h1:∀a∈Q',a∈Q)(h2:∀a∈Q,a=x\/a∈Q'):Wl S m e n o co L T Q':=by
 have tr:∀{k a},Gen S m e (GX n co T Q k) a->Gen S m e (GX n co T Q' k) a:=fun g=>g.tr (fun _ _ h=>h) fun a ha k hk=>by
  rcases h2 a ha with rfl|h
  ·exact hx k hk
  ·exact .x (.inr ⟨h,hk⟩)
 exact⟨h.t,h.th,fun a ha=>h.q a (h1 a ha),fun a ha=>tr (h.g a ha),⟨fun ht=>tr (h.c.p ht),fun a b c=>by obtain⟨w,w1,w2⟩:=h.c.c a b c;exact⟨w,tr w1,w2⟩⟩⟩
variable (F:Fil S m e n o co)
 include F
theorem Wl.add{L:α->Prop}{T:Nat->Option α}{Q Q':List α}(h:Wl S m e n o co L T Q){x y:α}(hd:d<n)(hTd:T d=je)(hy:S y)(pt:Gen S m e L y)(zy:∀j,j<d->co y j=0)(oy:co y d=1)
  (hx:∀k,Dp n co k x->Gen S m e (GX n co (fun j=>if j=d then jd y else T j) Q' k) x)(hq:∀a∈Q',S a/\Gen S m e L a)(h2:∀a∈Q,a=x\/a∈Q')
  (hp:pw m e y (o d).toNat∈Q')(hc:∀k u,T k=jd u-> ∃w,w∈Q'/\(m (m u y) w=m y u\/m (m y u) w=m u y)):Wl S m e n o co L (fun j=>if j=d then jd y else T j) Q':=by
 have hT:∀k t,T k=jd t->(fun j=>if j=d then jd y else T j) k=jd t:=fun k t hk=>by
  show(if k=d then jd y else T k)=jd t;rw[if_neg]
  ·exact hk
  ·intro g;rw[g,hTd]at hk;cases hk
 have mm:Tab S n co (fun j=>if j=d then jd y else T j):=⟨fun{k t} hk=>by
  replace hk:(if k=d then jd y else T k)=jd t:=hk
  split at hk
  ·rename_i g;cases hk;subst g;exact⟨hd,hy,zy,oy⟩
  ·exact h.t.h hk⟩
 have hS:∀{k a},Gen S m e (GX n co (fun j=>if j=d then jd y else T j) Q' k) a->S a:=fun g=>g.in F.g (GX.s mm fun a ha=>(hq a ha).1)
 have tr:∀{k a},Gen S m e (GX n co T Q k) a->Gen S m e (GX n co (fun j=>if j=d then jd y else T j) Q' k) a:=fun g=>g.tr hT fun a ha k hk=>by
  rcases h2 a ha with rfl|h
  ·exact hx k hk
  ·exact .x (.inr ⟨h,hk⟩)
 have new:∀{k j t u w},k<n->S t->S u->(∀i,i<k->co t i=0)->(∀i,i<j->co u i=0)->k<j->(fun i=>if i=d then jd y else T i) j=jd u->w∈Q'->(m (m u t) w=m t u\/m (m t u) w=m u t)-> ∃c,Gen S m e (GX n co (fun j=>if j=d then jd y else T j) Q' (k+1)) c/\m u t=m t c:=fun{k j t u w} hk ht hu zt zu bi hju hw hh=>by
  have di:=(hq w hw).1;have bv:=F.cmd hk ht hu di zt (fun i hi=>zu i (by omega)) hh;have g1:Gen S m e (GX n co (fun j=>if j=d then jd y else T j) Q' (k+1)) w:=.x (.inr ⟨hw,fun i hi _=>bv i hi⟩);have g2:Gen S m e (GX n co (fun j=>if j=d then jd y else T j) Q' (k+1)) u:=.x (.inl ⟨j,bi,hju⟩);rcases hh with hh|hh
  ·obtain⟨v,v1,v2,_⟩:=F.g.invl di
   refine⟨m u v,.m g2 (.i g1 v1 v2),?_⟩;rw[<-F.g.assoc ht hu v1,<-hh,F.g.assoc (F.g.cl hu ht) di v1,v2,F.g.oner (F.g.cl hu ht)]
  ·exact⟨m u w,.m g2 g1,by rw[<-F.g.assoc ht hu di,hh]⟩
 refine⟨mm,fun{k t} hk=>?_,hq,fun a ha=>tr (h.g a ha),fun{k t} hk=>?_,fun{k j t u} hk hj bi=>?_⟩
 ·replace hk:(if k=d then jd y else T k)=jd t:=hk
  split at hk
  ·cases hk;exact pt
  ·exact h.th hk
 ·replace hk:(if k=d then jd y else T k)=jd t:=hk
  split at hk
  ·rename_i g
   cases hk;subst g;have ib:=F.pwc hd hy zy (o k).toNat;have ho:=F.r hy hd;refine .x (.inr ⟨hp,fun i hi gK=>?_⟩)
   by_cases g:i=k
   ·rw[g,ib.2,oy,L6,show(((o k).toNat:Nat):Int)=o k from by omega,Jap]
   ·exact ib.1 i (by omega)
  ·exact tr (h.c.p hk)
 ·have a1:=mm.h hk
  have a2:=mm.h hj;have bj:(if k=d then jd y else T k)=jd t:=hk;have pH:(if j=d then jd y else T j)=jd u:=hj;split at bj
  ·rename_i g
   cases bj;subst g;rw[if_neg (by omega)]at pH;obtain⟨w,w1,w2⟩:=hc j u pH;exact new hd hy a2.2.1 zy a2.2.2.1 bi hj w1 w2
  ·split at pH
   ·rename_i g2
    cases pH;subst g2;obtain⟨w,w1,w2⟩:=hc k t bj;exact new a1.1 a1.2.1 hy a1.2.2.1 zy bi hj w1 w2.symm
   ·obtain⟨c,c1,c2⟩:=h.c.c bj pH bi
    exact⟨c,tr c1,c2⟩
structure Sf (S:α->Prop) (m:α->α->α) (e:α) (n:Nat) (co:α->Nat->Int) (T:Nat->Option α) (x y:α):Prop where
 s:S y
 d:∀k,Dp n co k x->Dp n co k y
 g:∀k Q,(∀a∈Q,S a)->Dp n co k x->Gen S m e (GX n co T Q k) y->Gen S m e (GX n co T Q k) x
 h:∀H:α->Prop,(∀a,H a->S a)->(∀{k t},T k=jd t->Gen S m e H t)->Gen S m e H x->Gen S m e H y
 omit F in
theorem Sf.refl{T:Nat->Option α}{x:α}(hx:S x):Sf S m e n co T x x:=⟨hx,fun _ h=>h,fun _ _ _ _ h=>h,fun _ _ _ h=>h⟩
 omit F in
theorem Sf.trans{T:Nat->Option α}{x y z:α}(h1:Sf S m e n co T x y)(h2:Sf S m e n co T y z):Sf S m e n co T x z:=
  ⟨h2.s,fun k h=>h2.d k (h1.d k h),fun k Q hQ h g=>h1.g k Q hQ h (h2.g k Q hQ (h1.d k h) g),fun H hS hT g=>h2.h H hS hT (h1.h H hS hT g)⟩
theorem Sf.right{T:Nat->Option α}(hT:Tab S n co T){x t z:α}(hd:d<n)(hx:S x)(zx:∀j,j<d->co x j=0)(nx:co x d≠0)(ht:T d=jd t)(hz:∀{Y:α->Prop},(∀a,Y a->S a)->Gen S m e Y t->Gen S m e Y z)(bM:S z)(zz:∀j,j<d->co z j=0)(hr:co (m x z) d=0):Sf S m e n co T x (m x z)/\ ∀j,j<d+1->co (m x z) j=0:=by
 have pJ:=F.dm (by omega) hx bM zx zz;have bv:∀j,j<d+1->co (m x z) j=0:=fun j hj=>by
  by_cases g:j=d
  ·rw[g];exact hr
  ·exact pJ j (by omega)
 have hk:∀k,Dp n co k x->k<=d:=fun k h=>by
  by_cases g:k<=d
  ·exact g
  ·exact absurd (h d (by omega) hd) nx
 refine⟨⟨F.g.cl hx bM,fun k h=>fun j hj _=>bv j (by have:=hk k h;omega),fun k Q hQ h g=>?_,fun H hS hT' g=>.m g (hz hS (hT' ht))⟩,bv⟩;exact Gen.left F.g (GX.s hT hQ) hx (hz (GX.s hT hQ) (.x (.inl ⟨d,hk k h,ht⟩))) g
theorem Sf.left{T:Nat->Option α}(hT:Tab S n co T){x t z:α}(hd:d<n)(hx:S x)(zx:∀j,j<d->co x j=0)(nx:co x d≠0)(ht:T d=jd t)(hz:∀{Y:α->Prop},(∀a,Y a->S a)->Gen S m e Y t->Gen S m e Y z)(bM:S z)(zz:∀j,j<d->co z j=0)(hr:co (m z x) d=0):Sf S m e n co T x (m z x)/\ ∀j,j<d+1->co (m z x) j=0:=by
 have pJ:=F.dm (by omega) bM hx zz zx;have bv:∀j,j<d+1->co (m z x) j=0:=fun j hj=>by
  by_cases g:j=d
  ·rw[g];exact hr
  ·exact pJ j (by omega)
 have hk:∀k,Dp n co k x->k<=d:=fun k h=>by
  by_cases g:k<=d
  ·exact g
  ·exact absurd (h d (by omega) hd) nx
 refine⟨⟨F.g.cl bM hx,fun k h=>fun j hj _=>bv j (by have:=hk k h;omega),fun k Q hQ h g=>?_,fun H hS hT' g=>.m (hz hS (hT' ht)) g⟩,bv⟩;exact Gen.right F.g (GX.s hT hQ) (hz (GX.s hT hQ) (.x (.inl ⟨d,hk k h,ht⟩))) hx g
theorem Wl.can{L:α->Prop}{T:Nat->Option α}(h:Wl S m e n o co L T []){C:Nat->Option α}(h1:∀k,(C k).isSome=(T k).isSome)
  (h2:∀{k t},C k=jd t->Gen S m e L t/\S t/\(∀j,j<k->co t j=0)/\co t k=1/\ ∀j,k<j->j<n->(C j).isSome=jf->co t j=0):Can (e:=e) S n co (Gen S m e L) C:=by
 refine⟨fun{k t} hk=>⟨?_,h2 hk⟩,fun{x} hx gc=>?_⟩
 ·have:=h1 k
  rw[hk]at this;obtain⟨u,hu⟩:=Kt.1 this.symm;exact(h.t.h hu).1
 ·obtain⟨j,_,j2,j3,j4⟩:=Clo.depth F h.t h.c n 0 (by omega) (hx.to h.g) (fun j hj=>by omega) gc
  exact⟨j,j2,by rw[h1];exact j3,j4⟩
end
def cd(v:Vec)(j:Nat):Int:=v.getD j 0
def od(P:Pcp)(j:Nat):Int:=match P[j]? with
 |some l=>l.o
 |none=>1
theorem zXI(l:Lvl)(P:Pcp):od (l::P) 0=l.o:=rfl
theorem zQ1(l:Lvl)(P:Pcp)(j:Nat):od (l::P) (j+1)=od P j:=by simp[od]
theorem yD3:∀{P:Pcp}{v:Vec},V P v-> ∀{d:Nat},d<P.length->0<=cd v d/\cd v d<od P d
 | [],_,_,d,hd=>by simp at hd
 |l::P,[],h,_,_=>by simp[V]at h
 |l::P,a::x,h,0,_=>by simp only[V]at h;exact h.1
 |l::P,a::x,h,d+1,hd=>by simp only[V]at h;rw[zQ1];exact yD3 h.2 (by simpa using hd)
theorem zZA:∀{P:Pcp}{a b:Vec},V P a->V P b->(∀d,d<P.length->cd a d=cd b d)->a=b
 | [],a,b,ha,hb,_=>by simp only[V]at ha hb;rw[ha,hb]
 |l::P,[],_,h,_,_=>by simp[V]at h
 |l::P,_::_,[],_,h,_=>by simp[V]at h
 |l::P,a::x,b::y,ha,hb,h=>by simp only[V]at ha hb;have h0:a=b:=h 0 (by simp);rw[h0,zZA ha.2 hb.2 fun d hd=>h (d+1) (by simpa using hd)]
theorem zZB:∀{P:Pcp}{x y:Vec},V P x->V P y-> ∀{d:Nat},d<P.length->(∀j,j<d->cd y j=0)->(∀j,j<d->cd (mul P x y) j=cd x j)/\cd (mul P x y) d=(cd x d+cd y d)%od P d
 | [],_,_,_,_,d,hd,_=>by simp at hd
 |l::P,[],_,h,_,_,_,_=>by simp[V]at h
 |l::P,_::_,[],_,h,_,_,_=>by simp[V]at h
 |l::P,a::x,b::y,hx,hy,0,_,_=>by
  simp only[V]at hx hy;refine⟨fun j hj=>by omega,?_⟩;rw[yJ,zXI];show cd _ 0=(a+b)%l.o
  by_cases g:a+b>=l.o
  ·rw[if_pos g,<-Ug,Jp (by omega) (by omega)];rfl
  ·rw[if_neg g,Jp (by omega) (by omega)];rfl
 |l::P,a::x,b::y,hx,hy,d+1,hd,hz=>by
  simp only[V]at hx hy;have hb:b=0:=hz 0 (by omega);subst hb;have ih:=zZB hx.2 hy.2 (d:=d) (by simpa using hd) fun j hj=>hz (j+1) (by omega)
  rw[yJ,if_neg (by omega),zQ1];show(∀j,j<d+1->cd ((a+0)::mul P x y) j=cd (a::x) j)/\_;rw[L7];refine⟨fun j hj=>?_,ih.2⟩;cases j with
  |zero=>rfl
  |succ j=>exact ih.1 j (by omega)
theorem zUl{n:Nat}:cd (zeros n) d=0:=by unfold cd zeros;rw[J2,K4];split<;>rfl
theorem fil{P:Pcp}(h:Ok P)(hc:xC P):Fil (V P) (mul P) (zeros P.length) P.length (od P) cd:=
 ⟨zBL P h hc,fun ha hd=>yD3 ha hd,fun _=>zUl,fun ha hb h=>zZA ha hb h,fun ha hb hd hz=>zZB ha hb hd hz⟩
section
variable {α:Type}{S:α->Prop}{m:α->α->α}{e:α}{n:Nat}{o:Nat->Int}{co:α->Nat->Int} (F:Fil S m e n o co)
 include F
theorem Fil.op{t:α}(hd:d<n)(ht:S t):0<o d:=by have:=F.r ht hd;omega
theorem Fil.pw1{t:α}(hd:d<n)(ht:S t)(zt:∀j,j<d->co t j=0)(h1:co t d=1)(k:Nat):S (pw m e t k)/\(∀j,j<d->co (pw m e t k) j=0)/\co (pw m e t k) d=k%o d:=by have h:=F.pwc hd ht zt k;rw[h1,L6]at h;exact⟨wS F.g.toMon ht k,h⟩
theorem Fil.killl{t x:α}(hd:d<n)(ht:S t)(zt:∀j,j<d->co t j=0)(h1:co t d=1)(hx:S x)(zx:∀j,j<d->co x j=0):co (m (pw m e t (o d-co x d).toNat) x) d=0:=by have hr:=F.r hx hd;obtain⟨p1,p2,p3⟩:=F.pw1 hd ht zt h1 (o d-co x d).toNat;rw[(F.ad p1 hx hd zx).2,p3,G4,show(((o d-co x d).toNat:Nat):Int)=o d-co x d from by omega,show o d-co x d+co x d=o d from by omega,Jap]
theorem Fil.invc{t u:α}(hd:d<n)(ht:S t)(hu:S u)(h:m t u=e)(zt:∀j,j<d->co t j=0):(∀j,j<d->co u j=0)/\(co t d+co u d)%o d=0:=by
 have z:∀j,j<d->co u j=0:=by
  intro j
  induction j using U1 with
  |ind j ih=>
   intro hj;have h1:=(F.ad ht hu (by omega:j<n) fun i hi=>ih i hi (by omega)).2;rw[h,F.e0 (by omega),zt j hj,Ko]at h1;rw[<-F.md (by omega) hu rfl];exact h1.symm
 refine⟨z,?_⟩;have h1:=(F.ad ht hu hd z).2;rw[h,F.e0 hd]at h1;exact h1.symm
theorem Fil.killr{t u x:α}(hd:d<n)(ht:S t)(hu:S u)(h:m t u=e)(zt:∀j,j<d->co t j=0)(h1:co t d=1)(hx:S x):S (pw m e u (co x d).toNat)/\(∀j,j<d->co (pw m e u (co x d).toNat) j=0)/\co (m x (pw m e u (co x d).toNat)) d=0:=by
 have hr:=F.r hx hd;obtain⟨z,c⟩:=F.invc hd ht hu h zt;have hp:=F.pwc hd hu z (co x d).toNat;have hs:=wS F.g.toMon hu (co x d).toNat;refine⟨hs,hp.1,?_⟩;rw[(F.ad hx hs hd hp.1).2,hp.2,Int.add_emod_emod,show(((co x d).toNat:Nat):Int)=co x d from by omega];have e1:co x d+co x d*co u d=co x d*(co t d+co u d):=by rw[h1,Jak,L6]
 rw[e1,Jy,c,Ln,Int.zero_emod]
structure Rd (S:α->Prop) (m:α->α->α) (e:α) (n:Nat) (co:α->Nat->Int) (L:α->Prop) (C:Nat->Option α) (k j:Nat) (x:α):Prop where
 s:S x
 l:Gen S m e L x
 z:∀i,i<k->co x i=0
 o:co x k=1
 r:∀i,k<i->i<j->(C i).isSome=jf->co x i=0
theorem Rd.step{L:α->Prop}{C:Nat->Option α}{k j:Nat}{x z:α}(h:Rd S m e n co L C k j x)(bi:k<j)(hj:j<n)(hz:S z)(hl:Gen S m e L z)(zz:∀i,i<j->co z i=0)(hk:co (m x z) j=0):Rd S m e n co L C k (j+1) (m x z):=by
 have h1:=(F.ad h.s hz hj zz).1;refine⟨F.g.cl h.s hz,.m h.l hl,fun i hi=>?_,?_,fun i hi gI hc=>?_⟩
 ·rw[h1 i (by omega)];exact h.z i hi
 ·rw[h1 k bi];exact h.o
 ·by_cases g:i=j
  ·rw[g];exact hk
  ·rw[h1 i (by omega)];exact h.r i hi (by omega) hc
 omit F in
theorem Rd.skip{L:α->Prop}{C:Nat->Option α}{j:Nat}{x:α}(h:Rd S m e n co L C k j x)(hc:C j=je\/co x j=0):Rd S m e n co L C k (j+1) x:=
  ⟨h.s,h.l,h.z,h.o,fun i hi gI eR=>by
    by_cases g:i=j
    · subst g
      rcases hc with hc|hc
      ·rw[hc]at eR;cases eR
      ·exact hc
    ·exact h.r i hi (by omega) eR⟩
end
abbrev En{α:Type}(C:Nat->Option α):α->Prop:=fun a=> ∃k,C k=jd a
section
variable {α:Type}{S:α->Prop}{m:α->α->α}{e:α}{n:Nat}{o:Nat->Int}{co:α->Nat->Int} (F:Fil S m e n o co)
 include F
theorem Can.red{L:α->Prop}(hL:∀a,L a->S a){C T:Nat->Option α}(hC:Can (e:=e) S n co (Gen S m e L) C)
  (hT:∀k,k<n->(C k).isSome=jf-> ∃t,T k=jd t/\Gen S m e L t/\S t/\(∀j,j<k->co t j=0)/\co t k=1){x:α}(hx:Gen S m e L x):Gen S m e (fun a=>En T a/\S a) x:=by
 have G:=F.g;have key:∀l k:Nat,k+l=n-> ∀{x:α},Gen S m e L x->(∀j,j<k->co x j=0)->Gen S m e (fun a=>En T a/\S a) x:=by
  intro l
  induction l with
  |zero=>
   intro k hk x hx zx;have eG:=hx.in G hL;rw[F.ex eG G.ein fun d hd=>by rw[zx d (by omega),F.e0 hd]];exact .one
  |succ l ih=>
   intro k hk x hx zx;have eG:=hx.in G hL
   by_cases h0:co x k=0
   ·exact ih (k+1) (by omega) hx fun j hj=>by
     by_cases hjk:j=k
     ·subst hjk;exact h0
     ·exact zx j (by omega)
   ·obtain⟨j,j1,j2,j3,j4⟩:=hC.d hx fun h=>h0 (by rw[h];exact F.e0 (by omega))
    have hjk:j=k:=by
     rcases G1 j k with h|h|h
     ·exact absurd (zx j h) j4
     ·exact h
     ·exact absurd (j3 k h) h0
    subst hjk;obtain⟨t,t1,t2,t3,t4,t5⟩:=hT j (by omega) j2;have hk:=F.killl (d:=j) (by omega) t3 t4 t5 eG zx;have hp:=F.pw1 (d:=j) (by omega) t3 t4 t5 (o j-co x j).toNat;have hy:=ih (j+1) (by omega) (.m (t2.pw (o j-co x j).toNat) hx) fun i hi=>by
     by_cases gI:i=j
     ·subst gI;exact hk
     ·exact F.dm (d:=j) (by omega) hp.1 eG hp.2.1 zx i (by omega)
    exact Gen.right G (fun a h=>h.2) (Gen.pw (.x ⟨⟨j,t1⟩,t3⟩) _) eG hy
 exact key n 0 (by omega) hx (fun j hj=>by omega)
theorem Can.gen{L:α->Prop}(hL:∀a,L a->S a){C:Nat->Option α}(hC:Can (e:=e) S n co (Gen S m e L) C){x:α}(hx:Gen S m e L x):Gen S m e (fun a=>En C a/\S a) x:=
 Can.red F hL hC (T:=C) (fun k _ h=>by obtain⟨t,ht⟩:=Kt.1 h;obtain⟨_,a2,a3,a4,a5,_⟩:=hC.i ht;exact⟨t,ht,a2,a3,a4,a5⟩) hx
theorem Can.sub{L M:α->Prop}{C D:Nat->Option α}(hC:Can (e:=e) S n co (Gen S m e L) C)(hD:Can (e:=e) S n co (Gen S m e M) D)(hs:∀a,Gen S m e L a->Gen S m e M a)(hk:(C k).isSome=jf):(D k).isSome=jf:=by
 obtain⟨t,ht⟩:=Kt.1 hk;obtain⟨a1,a2,a3,a4,a5,_⟩:=hC.i ht;obtain⟨j,j1,j2,j3,j4⟩:=hD.d (hs _ a2) fun h=>by rw[h,F.e0 a1]at a5;cases a5
 have hjk:j=k:=by
  rcases G1 j k with h|h|h
  ·exact absurd (a4 j h) j4
  ·exact h
  ·have:=j3 k h;rw[a5]at this;cases this
 subst hjk;exact j2
theorem Can.back{L M:α->Prop}(hM:∀a,M a->S a){C D:Nat->Option α}(hC:Can (e:=e) S n co (Gen S m e L) C)(hD:Can (e:=e) S n co (Gen S m e M) D)(hs:∀a,Gen S m e L a->Gen S m e M a)
  (hk:∀k,k<n->(D k).isSome=jf->(C k).isSome=jf){x:α}(hx:Gen S m e M x):Gen S m e L x:=
 (Can.red F hM hD (T:=C) (fun k hn h=>by
  obtain⟨t,ht⟩:=Kt.1 (hk k hn h);obtain⟨_,a2,a3,a4,a5,_⟩:=hC.i ht;exact⟨t,ht,hs _ a2,a3,a4,a5⟩) hx).to fun a ha=>by obtain⟨⟨k,hk⟩,_⟩:=ha;exact(hC.i hk).2.1
end
theorem some_len{α:Type}{C D:Nat->Option α}:∀l:List Nat,(∀k∈l,(C k).isSome=jf->(D k).isSome=jf)->(l.filterMap C).length<=(l.filterMap D).length/\
  ((l.filterMap C).length=(l.filterMap D).length-> ∀k∈l,(D k).isSome=jf->(C k).isSome=jf)
 | [],_=>⟨Je _,fun _ k h=>by simp at h⟩
 |a::l,h=>by
  obtain⟨i1,i2⟩:=some_len l fun k hk=>h k (by simp[hk])
  have h0:=h a (by simp);simp only[Hk];cases hc:C a with
  |none=>
   cases hd:D a with
   |none=>
    refine⟨i1,fun e k hk h1=>?_⟩;rcases J9.1 hk with rfl|hk
    ·rw[hd]at h1;cases h1
    ·exact i2 e k hk h1
   |some y=>exact⟨by simp only[J7];omega,fun e=>by simp only[J7]at e;omega⟩
  |some y=>
   rw[hc]at h0;obtain⟨z,hz⟩:=Kt.1 (h0 rfl);rw[hz];refine⟨by simp only[J7];omega,fun e k hk h1=>?_⟩;rcases J9.1 hk with rfl|hk
   ·rw[hc];rfl
   ·exact i2 (by simpa using e) k hk h1
inductive NCl {α:Type} (S:α->Prop) (m:α->α->α) (e:α) (L B:α->Prop):α->Prop
 |one:NCl S m e L B e
 |x {a}:L a->NCl S m e L B a
 |m {a b}:NCl S m e L B a->NCl S m e L B b->NCl S m e L B (m a b)
 |i {a b}:NCl S m e L B a->S b->m a b=e->NCl S m e L B b
 |c {a b c}:NCl S m e L B a->B b->S c->m b c=m a b->NCl S m e L B c
section
variable {α:Type}{S:α->Prop}{m:α->α->α}{e:α} (g:Grp S m e)
 include g
theorem Grp.conj{a b:α}(ha:S a)(hb:S b):∃c,S c/\m b c=m a b:=by obtain⟨d,hd,h1,_⟩:=g.invl hb;refine⟨m d (m a b),g.cl hd (g.cl ha hb),?_⟩;rw[<-g.assoc hb hd (g.cl ha hb),h1,g.onel (g.cl ha hb)]
theorem Gen.conj{L U:α->Prop}(hU:∀a,U a->S a){b:α}(hb:S b)(h:∀u c,U u->S c->m b c=m u b->Gen S m e L c){a:α}(ha:Gen S m e U a):∀{c:α},S c->m b c=m a b->Gen S m e L c:=by
 induction ha with
 |one=>
  intro c hc hh;rw[g.onel hb]at hh;rw[g.cancel_l hb hc g.ein (hh.trans (g.oner hb).symm)];exact .one
 |x hu=>exact fun hc hh=>h _ _ hu hc hh
 | @m a1 a2 h1 h2 i1 i2=>
  intro c hc hh;have s1:=h1.in g hU;have s2:=h2.in g hU;obtain⟨c1,k1,e1⟩:=g.conj s1 hb;obtain⟨c2,k2,e2⟩:=g.conj s2 hb;have:c=m c1 c2:=g.cancel_l hb hc (g.cl k1 k2) (by rw[hh,<-g.assoc hb k1 k2,e1,g.assoc s1 hb k2,e2,g.assoc s1 s2 hb]);rw[this];exact .m (i1 k1 e1) (i2 k2 e2)
 | @i a1 a2 h1 ca hh2 i1=>
  intro c hc hh;have s1:=h1.in g hU;obtain⟨c1,k1,e1⟩:=g.conj s1 hb;have:m c1 c=e:=g.cancel_l hb (g.cl k1 hc) g.ein (by rw[<-g.assoc hb k1 hc,e1,g.assoc s1 hb hc,hh,<-g.assoc s1 ca hb,hh2,g.onel hb,g.oner hb]);exact .i (i1 k1 e1) hc this
theorem NCl.iff{L B L1:α->Prop}(h1:∀a,L1 a->NCl S m e L B a)(h2:∀a,L a->Gen S m e L1 a)(h3:∀a b c,Gen S m e L1 a->B b->S c->m b c=m a b->Gen S m e L1 c)(a:α):Gen S m e L1 a↔NCl S m e L B a:=by
 have _:=g;constructor
 ·intro h
  induction h with
  |one=>exact .one
  |x hx=>exact h1 _ hx
  |m _ _ i1 i2=>exact .m i1 i2
  |i _ hb hh i1=>exact .i i1 hb hh
 ·intro h
  induction h with
  |one=>exact .one
  |x hx=>exact h2 _ hx
  |m _ _ i1 i2=>exact .m i1 i2
  |i _ hb hh i1=>exact .i i1 hb hh
  |c _ hb hc hh i1=>exact h3 _ _ _ i1 hb hc hh
end
class GrT (A:Type) extends Mul A,One A,Inv A where
 as:∀a b c:A,a*b*c=a*(b*c)
 ol:∀a:A,1*a=a
 or1:∀a:A,a*1=a
 il:∀a:A,a⁻¹*a=1
 ir:∀a:A,a*a⁻¹=1
section
variable {A:Type} [GrT A]
open GrT
theorem cl1(a b:A):a⁻¹*(a*b)=b:=by rw[<-as,il,ol]
theorem cl2(a b:A):a*(a⁻¹*b)=b:=by rw[<-as,ir,ol]
theorem zQ2{a b c:A}(h:a*b=a*c):b=c:=by rw[<-cl1 a b,h,cl1]
theorem zDE{a b:A}(h:a*b=1):b=a⁻¹:=zQ2 (a:=a) (by rw[h,ir])
theorem ii(a:A):a⁻¹⁻¹=a:=(zDE (il a)).symm
theorem i1:(1:A)⁻¹=1:=(zDE (ol 1)).symm
theorem im(a b:A):(a*b)⁻¹=b⁻¹*a⁻¹:=(zDE (by rw[as,cl2,ir])).symm
def pg(a:A):Nat->A
 |0=>1
 |k+1=>pg a k*a
theorem yD4(a b:A):∀k,b⁻¹*pg a k*b=pg (b⁻¹*a*b) k
 |0=>by simp[pg,or1,il]
 |k+1=>by rw[pg,pg,<-yD4 a b k];simp[as,cl2]
theorem zOm:∀k,pg (1:A) k=1
 |0=>rfl
 |k+1=>by rw[pg,zOm k,or1]
theorem yAS(a:A):∀k,a*pg a k=pg a k*a
 |0=>by simp[pg,ol,or1]
 |k+1=>by rw[pg,<-as,yAS a k]
structure Sg (H:A->Prop):Prop where
 o:H 1
 m:∀{a b},H a->H b->H (a*b)
 i:∀{a},H a->H a⁻¹
structure Nm (H:A->Prop):Prop extends Sg H where
 c:∀{a} b,H a->H (b⁻¹*a*b)
theorem Sg.pg{H:A->Prop}(h:Sg H){a:A}(ha:H a):∀k,H (pg a k)
 |0=>h.o
 |k+1=>h.m (h.pg ha k) ha
theorem Nm.c'{H:A->Prop}(h:Nm H){a:A}(b:A)(ha:H a):H (b*a*b⁻¹):=by
 have:=h.c b⁻¹ ha
 rwa [ii]at this
theorem Nm.cm{H:A->Prop}(h:Nm H){a:A}(b:A)(ha:H a):H (a⁻¹*b⁻¹*a*b):=by have:=h.m (h.i ha) (h.c b ha);simpa[as]using this
inductive Ge (X:A->Prop):A->Prop
 |o:Ge X 1
 |x {a}:X a->Ge X a
 |m {a b}:Ge X a->Ge X b->Ge X (a*b)
 |i {a}:Ge X a->Ge X a⁻¹
theorem Ge.s(X:A->Prop):Sg (Ge X):=⟨.o,.m,.i⟩
theorem Ge.to{X H:A->Prop}(h:Sg H)(hx:∀a,X a->H a){a:A}(ha:Ge X a):H a:=by
 induction ha with
 |o=>exact h.o
 |x k=>exact hx _ k
 |m _ _ k1 k2=>exact h.m k1 k2
 |i _ k=>exact h.i k
theorem Ge.n{X:A->Prop}(h:∀{a} b,X a->X (b⁻¹*a*b)):Nm (Ge X):=⟨Ge.s X,fun{a} b ha=>by
 induction ha with
 |o=>simp[or1,il];exact .o
 |x k=>exact .x (h b k)
 | @m a c _ _ k1 k2=>
  have:=Ge.m k1 k2;simpa[as,cl2]using this
 |i _ k=>
  have:=Ge.i k;simpa[as,im,ii]using this⟩
def NX(q:Nat)(H:A->Prop)(a:A):Prop:=(∃h b,H h/\a=h⁻¹*b⁻¹*h*b)\/ ∃h,H h/\a=pg h q
def Qm(q:Nat):Nat->A->Prop
 |0=>fun _=>True
 |k+1=>Ge (NX q (Qm q k))
theorem Nm.next{H:A->Prop}(h:Nm H):Nm (Ge (NX q H)):=Ge.n fun{a} b ha=>by
 rcases ha with⟨y,g,hy,rfl⟩|⟨y,hy,rfl⟩
 ·exact .inl ⟨b⁻¹*y*b,b⁻¹*g*b,h.c b hy,by simp[as,im,ii,cl2]⟩
 ·exact .inr ⟨b⁻¹*y*b,h.c b hy,yD4 _ _ _⟩
theorem Nm.sub{H:A->Prop}(h:Nm H){a:A}(ha:Ge (NX q H) a):H a:=ha.to h.toSg fun b hb=>by
 rcases hb with⟨y,g,hy,rfl⟩|⟨y,hy,rfl⟩
 ·exact h.cm g hy
 ·exact h.toSg.pg hy q
theorem Qm.n(q:Nat):∀k,Nm (A:=A) (Qm q k)
 |0=>⟨⟨trivial,fun _ _=>trivial,fun _=>trivial⟩,fun _ _=>trivial⟩
 |k+1=>(Qm.n q k).next
theorem zOn{N:A->Prop}(h:Nm N){a b:A}(hc:∀y,N (a⁻¹*y⁻¹*a*y)):∀k,∃n,N n/\pg (a*b) k=pg a k*pg b k*n
 |0=>⟨1,h.o,by simp[pg,or1]⟩
 |k+1=>by
  obtain⟨n,n1,n2⟩:=zOn (b:=b) h hc k;refine⟨b⁻¹*((a⁻¹*(pg b k)⁻¹*a*pg b k)⁻¹*(a⁻¹*n*a))*b,h.c b (h.m (h.i ?_) (h.c a n1)),?_⟩
  ·exact hc (pg b k)
  ·rw[pg,n2];simp[pg,as,im,ii,cl2]
end
open GrT
theorem zOo{P:Nat->Prop}:∀d,P d-> ∃k,k<=d/\P k/\ ∀j,j<k-> ¬P j
 |d,h=>by
  by_cases k:∃j,j<d/\P j
  ·obtain⟨j,h1,h2⟩:=k
   obtain⟨k,k1,k2,k3⟩:=zOo j h2;exact⟨k,by omega,k2,k3⟩
  ·exact⟨d,Je _,h,fun j hj hp=>k ⟨j,hj,hp⟩⟩
section
variable {A:Type} [GrT A] {n q:Nat}{co:A->Nat->Int} (F:Fil (fun _:A=>True) (· *·) 1 n (fun _=>(q:Int)) co)
def Gd(co:A->Nat->Int)(i:Nat)(a:A):Prop:=∀j,j<i->co a j=0
structure If (q:Nat) (H:A->Prop) (co:A->Nat->Int) (i:Nat) (f:A->Int):Prop where
 a:∀{a b},H a->H b->(f (a*b)-f a-f b)%q=0
 z:∃a,H a/\f a%q≠0
 c:∀{a} g,H a->Gd co i g->(f (g⁻¹*a*g)-f a)%q=0
def fs(f:A->Int)(t:A):Nat->A->Int
 |0=>f
 |j+1=>fun a=>fs f t j (t⁻¹*a*t)-fs f t j a
 include F
theorem yFe{i:Nat}(hi:i<n){t g:A}(ht:Gd co i t)(hg:Gd co (i+1) g):Gd co (i+1) (t⁻¹*g*t):=by have h:=F.cmd hi (a:=t) (b:=g) (w:=g⁻¹*(t⁻¹*g*t)) trivial trivial trivial ht hg (.inr (by simp[as,cl2]));have:=F.dm (d:=i+1) (by omega) trivial trivial hg h;simp only[cl2]at this;exact this
theorem yAT(hq:q=2\/q=3\/q=5\/q=7)(ht:∀i,i<n-> ∃t,Gd co i t/\co t i=1){H:A->Prop}(hH:Nm H){i:Nat}(hi:i<n){f:A->Int}(hf:If q H co (i+1) f):∃g,If q H co i g:=by
 obtain⟨t,t1,t2⟩:=ht i hi;have hA:∀j{a b},H a->H b->(fs f t j (a*b)-fs f t j a-fs f t j b)%q=0:=by
  intro j
  induction j with
  |zero=>exact hf.a
  |succ j ih=>
   intro a b ha hb;have h1:=ih (hH.c t ha) (hH.c t hb);have h2:=ih ha hb;simp only[fs];rw[show t⁻¹*(a*b)*t=t⁻¹*a*t*(t⁻¹*b*t)by simp[as,cl2]];rcases hq with rfl|rfl|rfl|rfl<;>omega
 have hC:∀j{a} g,H a->Gd co (i+1) g->(fs f t j (g⁻¹*a*g)-fs f t j a)%q=0:=by
  intro j
  induction j with
  |zero=>exact hf.c
  |succ j ih=>
   intro a g ha hg;have h1:=ih (t⁻¹*g*t) (hH.c t ha) (yFe F hi t1 hg);have h2:=ih g ha hg;rw[show(t⁻¹*g*t)⁻¹*(t⁻¹*a*t)*(t⁻¹*g*t)=t⁻¹*(g⁻¹*a*g)*t by simp[as,im,ii,cl2]]at h1;simp only[fs];rcases hq with rfl|rfl|rfl|rfl<;>omega
 have hp:∀k,pw (· *·) 1 t k=pg t k:=fun k=>by
  induction k with
  |zero=>rfl
  |succ k ih=>rw[pw,xP];exact congrArg (· *t) ih
 have hG:Gd co (i+1) (pg t q):=fun j hj=>by
  have h:=Fil.pwc F hi (t:=t) trivial t1 q;rw[hp]at h
  by_cases e:j=i
  ·rw[e,h.2,t2];simp
  ·exact h.1 j (by omega)
 have hZ:∀a,H a->fs f t q a%q=0:=fun a ha=>by have h:=hf.c (pg t q) ha hG;rcases hq with rfl|rfl|rfl|rfl<;>simp[fs,pg,as,im,ol]at h ⊢ <;>omega
 obtain⟨k,k1,k2,k3⟩:=zOo (P:=fun j=> ∀a,H a->fs f t j a%q=0) q hZ;obtain⟨b,b1,b2⟩:=hf.z;cases k with
 |zero=>exact absurd (k2 b b1) b2
 |succ k=>
  have hz:∃a,H a/\fs f t k a%q≠0:=Classical.byContradiction fun hn=>k3 k (by omega) fun a ha=>Classical.byContradiction fun h=>hn ⟨a,ha,h⟩
  have ct:∀k'{a},H a->(fs f t k ((pg t k')⁻¹*a*pg t k')-fs f t k a)%q=0:=fun k'=>by
   induction k' with
   |zero=>intro a _;simp[pg,i1,ol,or1]
   |succ k' ih=>
    intro a ha;have h1:=ih ha;have h2:=k2 ((pg t k')⁻¹*a*pg t k') (hH.c _ ha);simp only[fs]at h2;rw[show(pg t (k'+1))⁻¹*a*pg t (k'+1)=t⁻¹*((pg t k')⁻¹*a*pg t k')*t by simp[pg,as,im]];rcases hq with rfl|rfl|rfl|rfl<;>omega
  refine⟨fs f t k,hA k,hz,fun{a} g ha hg=>?_⟩;have hk:=F.killl hi (t:=t) (x:=g) trivial t1 t2 trivial hg;rw[hp]at hk;have hw:=F.pw1 hi (t:=t) trivial t1 t2 ((q:Int)-co g i).toNat;rw[hp]at hw;have bO:Gd co (i+1) (pg t ((q:Int)-co g i).toNat*g):=fun j hj=>by
   by_cases e:j=i
   ·rw[e];exact hk
   ·exact F.dm (d:=i) (by omega) trivial trivial hw.2.1 hg j (by omega)
  have cw:=fun a=>ct ((q:Int)-co g i).toNat (a:=a)
  generalize pg t ((q:Int)-co g i).toNat=w at bO cw
  have h1:=cw _ (hH.c' w ha);have h2:=hC k (w*g) (hH.c' w ha) bO;rw[show w⁻¹*(w*a*w⁻¹)*w=a by simp[as,il,cl1,or1]]at h1;rw[show(w*g)⁻¹*(w*a*w⁻¹)*(w*g)=g⁻¹*a*g by simp[as,im,cl1]]at h2;rcases hq with rfl|rfl|rfl|rfl<;>omega
theorem yD5(hq:q=2\/q=3\/q=5\/q=7)(ht:∀i,i<n-> ∃t,Gd co i t/\co t i=1){H:A->Prop}(hH:Nm H)(h1:∃a,H a/\a≠1):∃a,H a/\ ¬Ge (NX q H) a:=by
 obtain⟨a,a1,a2⟩:=h1;have hd:∃d,d<n/\ ∃a,H a/\co a d≠0:=Classical.byContradiction fun hn=>a2 (F.ex trivial trivial fun d hd=>by rw[F.e0 hd];exact Classical.byContradiction fun h=>hn ⟨d,hd,a,a1,h⟩)
 obtain⟨d0,d1,d2⟩:=hd;obtain⟨d,d3,⟨b,b1,b2⟩,d4⟩:=zOo (P:=fun d=> ∃a,H a/\co a d≠0) d0 d2;have hz:∀{a},H a->Gd co d a:=fun{a} ha j hj=>Classical.byContradiction fun h=>d4 j hj ⟨a,ha,h⟩
 have key:∀l,l<=n-> ∃f,If q H co (n-l) f:=by
  intro l
  induction l with
  |zero=>
   intro _;refine⟨fun a=>co a d,⟨fun{a b} ha hb=>?_,⟨b,b1,?_⟩,fun{a} g ha hg=>?_⟩⟩
   ·have:=(F.ad (a:=a) (b:=b) trivial trivial (by omega:d<n) (hz hb)).2
    show((co (a*b) d-co a d-co b d)%q=0);rw[this];rcases hq with rfl|rfl|rfl|rfl<;>omega
   ·have:=F.r (a:=b) trivial (by omega:d<n)
    show co b d%q≠0;rw[Jp this.1 this.2];exact b2
   ·have:g=1:=F.ex trivial trivial fun d hd=>by rw[F.e0 hd];exact hg d (by omega)
    simp[this,i1,ol,or1]
  |succ l ih=>
   intro hl;obtain⟨f,hf⟩:=ih (by omega);rw[show n-l=n-(l+1)+1 by omega]at hf;exact yAT F hq ht hH (by omega) hf
 obtain⟨f,hf⟩:=key n (Je n);rw[Kn]at hf;obtain⟨c,c1,c2⟩:=hf.z;refine⟨c,c1,fun hc=>c2 ?_⟩;have f1:f 1%q=0:=by have:=hf.a hH.o hH.o;rw[ol]at this;rcases hq with rfl|rfl|rfl|rfl<;>omega
 have fi:∀{a},H a->(f a⁻¹+f a)%q=0:=fun{a} ha=>by have:=hf.a (hH.i ha) ha;rw[il]at this;rcases hq with rfl|rfl|rfl|rfl<;>omega
 have hs:Sg fun a=>H a/\f a%q=0:=⟨⟨hH.o,f1⟩,fun{a b} ha hb=>⟨hH.m ha.1 hb.1,by
  have:=hf.a ha.1 hb.1;have h2:=ha.2;have h3:=hb.2;rcases hq with rfl|rfl|rfl|rfl<;>omega⟩,fun{a} ha=>⟨hH.i ha.1,by
  have:=fi ha.1;have h2:=ha.2;rcases hq with rfl|rfl|rfl|rfl<;>omega⟩⟩
 refine(Ge.to hs (fun a ha=>?_) hc).2;rcases ha with⟨y,g,hy,rfl⟩|⟨y,hy,rfl⟩
 ·refine⟨hH.cm g hy,?_⟩
  have e:=hf.a (hH.i hy) (hH.c g hy);have e2:=hf.c g hy (fun j hj=>by omega);have e3:=fi hy;rw[show y⁻¹*(g⁻¹*y*g)=y⁻¹*g⁻¹*y*g by simp[as]]at e;rcases hq with rfl|rfl|rfl|rfl<;>omega
 ·refine⟨hH.toSg.pg hy q,?_⟩
  have:∀k,(f (pg y k)-k*f y)%q=0:=fun k=>by
   induction k with
   |zero=>simpa[pg]using f1
   |succ k ih=>
    have:=hf.a (hH.toSg.pg hy k) hy;simp only[pg];rw[Jbe,Jbp,Gs]
    generalize (k:Int)*f y=z at*
    rcases hq with rfl|rfl|rfl|rfl<;>omega
  have:=this q;rcases hq with rfl|rfl|rfl|rfl<;>omega
end
section
variable {A:Type} [GrT A] {n:Nat}{o:Nat->Int}{co:A->Nat->Int}
theorem zOp(a:A)(i:Nat):∀j,pg a (i+j)=pg a i*pg a j
 |0=>(or1 _).symm
 |j+1=>by rw[<-Ha,pg,zOp a i j,as];rfl
theorem zUm(a:A)(c:Nat):∀j,pg (pg a c) j=pg a (c*j)
 |0=>rfl
 |j+1=>by rw[pg,zUm a c j,Nat.mul_succ,zOp]
theorem yAU(a:A):∀k,pg a⁻¹ k=(pg a k)⁻¹
 |0=>i1.symm
 |k+1=>by rw[pg,yAU a k,pg,<-yAS,im]
theorem zZC(t:A):∀k,pw (· *·) 1 t k=pg t k
 |0=>rfl
 |k+1=>by rw[pw,xP];exact congrArg (· *t) (zZC t k)
section
variable (F:Fil (fun _:A=>True) (· *·) 1 n o co)
 include F
theorem yAV(a:A):∃k,a*pg a k=1:=by
 have key:∀l k,k+l=n-> ∀a,Gd co k a-> ∃j,a*pg a j=1:=by
  intro l
  induction l with
  |zero=>
   intro k hk a ha;exact⟨0,by rw[pg,or1];exact F.ex trivial trivial fun d hd=>by rw[F.e0 hd];exact ha d (by omega)⟩
  |succ l ih=>
   intro k hk a ha;have ho:=F.op (t:=a) (d:=k) (by omega) trivial;have hz:=Fil.pwc F (d:=k) (by omega) (t:=a) trivial ha (o k).toNat;rw[zZC]at hz;obtain⟨j,hj⟩:=ih (k+1) (by omega) (pg a (o k).toNat) fun i hi=>by
    by_cases e:i=k
    ·rw[e,hz.2,show(((o k).toNat:Nat):Int)=o k by omega];simp
    ·exact hz.1 i (by omega)
   obtain⟨c,hc⟩:∃c,(o k).toNat=c+1:=⟨(o k).toNat-1,by omega⟩;refine⟨c+(c+1)*j,?_⟩;rw[zUm,hc,<-zOp]at hj;rw[yAS,<-hj,show c+1+(c+1)*j=(c+(c+1)*j)+1 by omega,pg]
 exact key n 0 (by omega) a fun j hj=>by omega
theorem Nm.of{N B:A->Prop}(hs:Sg N)(hB:∀a:A,Ge B a)(hc:∀{a b},N a->B b->N (b⁻¹*a*b)):Nm N:=by
 refine⟨hs,fun{a} b ha=>?_⟩;have key:∀{b},Ge B b-> ∀{a},N a->N (b⁻¹*a*b):=fun{b} hb=>by
  induction hb with
  |o=>intro a ha;simpa[i1,ol,or1]using ha
  |x k=>exact fun ha=>hc ha k
  | @m b c _ _ k1 k2=>
   intro a ha;have:=k2 (k1 ha);simpa[as,im]using this
  | @i b _ k=>
   intro a ha;obtain⟨j,hj⟩:=yAV F b;rw[<-zDE hj];have:∀j,N ((pg b j)⁻¹*a*pg b j):=fun j=>by
    induction j with
    |zero=>simpa[pg,i1,ol,or1]using ha
    |succ j ih=>
     have:=k ih;simpa[pg,as,im]using this
   exact this j
 exact key (hB b) ha
end
theorem zXJ{U B N K:A->Prop}(hB:∀a:A,Ge B a)(hN:Nm N)(hc:∀{u b},U u->B b->N (u⁻¹*b⁻¹*u*b))(hK:Sg K)(hNK:∀a,N a->K a)(hUK:∀u,U u->K (pg u q)){a:A}(ha:Ge (NX q (Ge U)) a):K a:=by
 have h1:∀{b},Ge B b-> ∀{h},Ge U h->N (h⁻¹*b⁻¹*h*b):=fun{b} hb=>by
  induction hb with
  |o=>intro h _;simpa[as,i1,ol,il,or1]using hN.o
  | @x b kb=>
   intro h hh
   induction hh with
   |o=>simpa[as,i1,ol,il,or1]using hN.o
   |x ku=>exact hc ku kb
   | @m y z _ _ k1 k2=>
    have:=hN.m (hN.c z k1) k2;simpa[as,im,cl2]using this
   | @i y _ k=>
    have:=hN.i (hN.c' y k);simpa[as,im,ii,cl2]using this
  | @m y z _ _ k1 k2=>
   intro h hh;have:=hN.m (k2 hh) (hN.c z (k1 hh));simpa[as,im,cl2]using this
  | @i y _ k=>
   intro h hh;have:=hN.c' y (hN.i (k hh));simpa[as,im,ii,cl2]using this
 refine ha.to hK fun b hb=>?_
 rcases hb with⟨y,g,hy,rfl⟩|⟨y,hy,rfl⟩
 ·exact hNK _ (h1 (hB g) hy)
 ·clear ha
  induction hy with
  |o=>rw[zOm];exact hK.o
  |x ku=>exact hUK _ ku
  | @m y z ky _ k1 k2=>
   obtain⟨n,n1,n2⟩:=zOn (b:=z) hN (fun g=>h1 (hB g) ky) q;rw[n2];exact hK.m (hK.m k1 k2) (hNK n n1)
  |i _ k=>rw[yAU];exact hK.i k
end
section
variable {A B:Type} [GrT A] [GrT B] {f:A->B} (hm:∀a b,f (a*b)=f a*f b)
 include hm
theorem h_1:f 1=1:=zQ2 (a:=f 1) (by rw[<-hm,or1,or1])
theorem h_i(a:A):f a⁻¹=(f a)⁻¹:=zDE (by rw[<-hm,ir,h_1 hm])
theorem zRB(a:A):∀k,f (pg a k)=pg (f a) k
 |0=>h_1 hm
 |k+1=>by rw[pg,hm,zRB a k];rfl
theorem Qm.to(q:Nat):∀i{a:A},Qm q i a->Qm q i (f a)
 |0,_,_=>trivial
 |i+1,a,h=>by
  refine Ge.to (H:=fun a=>Qm q (i+1) (f a)) ⟨?_,fun h1 h2=>?_,fun h1=>?_⟩ (fun b hb=>?_) h
  ·rw[h_1 hm];exact .o
  ·rw[hm];exact .m h1 h2
  ·rw[h_i hm];exact .i h1
  ·rcases hb with⟨y,g,hy,rfl⟩|⟨y,hy,rfl⟩
   ·exact .x (.inl ⟨f y,f g,Qm.to q i hy,by simp only[hm,h_i hm]⟩)
   ·exact .x (.inr ⟨f y,Qm.to q i hy,zRB hm _ _⟩)
section
variable {s:B->A} (hs:∀b,f (s b)=b)
 include hs
theorem Qm.back(q:Nat):∀i{b:B},Qm q i b-> ∃a,Qm q i a/\f a=b
 |0,b,_=>⟨s b,trivial,hs b⟩
 |i+1,b,h=>by
  refine Ge.to (H:=fun b=> ∃a,Qm q (i+1) a/\f a=b) ⟨⟨1,.o,h_1 hm⟩,?_,?_⟩ (fun b hb=>?_) h
  ·rintro _ _ ⟨a,a1,rfl⟩ ⟨c,c1,rfl⟩
   exact⟨_,.m a1 c1,hm _ _⟩
  ·rintro _ ⟨a,a1,rfl⟩
   exact⟨_,.i a1,h_i hm _⟩
  ·rcases hb with⟨y,g,hy,rfl⟩|⟨y,hy,rfl⟩
   ·obtain⟨a,a1,rfl⟩:=Qm.back q i hy
    exact⟨_,.x (.inl ⟨a,s g,a1,rfl⟩),by simp only[hm,h_i hm,hs]⟩
   ·obtain⟨a,a1,rfl⟩:=Qm.back q i hy
    exact⟨_,.x (.inr ⟨a,a1,rfl⟩),zRB hm _ _⟩
variable {q:Nat} (hz:∀z,f z=1-> ∀a,z*a=a*z) (hq:∀z,f z=1->pg z q=1)
 include hz hq
 omit hs hm hq in
theorem yFf{z:A}(h:f z=1)(a:A):z⁻¹*a⁻¹*z*a=1:=by
  rw[as,hz z h a];simp[as,cl1,il]
 omit hz hq in
theorem sec(a:A):∃z,f z=1/\a=s (f a)*z:=⟨(s (f a))⁻¹*a,by rw[hm,h_i hm,hs,il],by rw[cl2]⟩
 omit hs in
theorem yD6{a z:A}(h:f z=1):pg (a*z) q=pg a q:=by
  have:∀k,pg (a*z) k=pg a k*pg z k:=fun k=>by
    induction k with
    |zero=>exact(or1 1).symm
    |succ k ih=>
      have hk:∀k,f (pg z k)=1:=fun k=>by rw[zRB hm,h,zOm]
      simp only[pg];rw[ih,as,<-as (pg z k) a z,hz _ (hk k) a];simp[as]
  rw[this,hq z h,or1]
 omit hs hm hq in
theorem yD7{h y z:A}(k:f z=1):(h*z)⁻¹*y⁻¹*(h*z)*y=h⁻¹*y⁻¹*h*y:=by
  have e1:=hz z k y;have e2:=hz z k (y⁻¹*(h*y));simp only[im,as];rw[e1,<-as h y z,<-as y⁻¹ _ z,show z⁻¹*(h⁻¹*(y⁻¹*(h*y)*z))=z⁻¹*(h⁻¹*(z*(y⁻¹*(h*y))))by rw[e2],<-as h⁻¹ z,<-hz z k h⁻¹,as z,cl1]
 omit hs hm hq in
theorem yD8{h y z:A}(k:f z=1):h⁻¹*(y*z)⁻¹*h*(y*z)=h⁻¹*y⁻¹*h*y:=by
  have e2:=hz z k (h⁻¹*(z⁻¹*(y⁻¹*(h*y))));simp only[im,as]at e2 ⊢
  rw[<-e2,<-as z h⁻¹,hz z k h⁻¹,as,cl2]
def RwC(s:B->A)(q:Nat)(L G:B->Prop)(a:A):Prop:=∃x,L x/\((∃b,G b/\a=(s x)⁻¹*(s b)⁻¹*s x*s b)\/a=pg (s x) q)
theorem cov{L G:B->Prop}(hG:∀b,Ge G b)(hk:∀b:B,Qm q (k+1) b->b=1)(hL:∀b:B,Ge L b↔Qm q k b)(a:A):Qm q (k+1) a↔Ge (RwC s q L G) a:=by
 have iA:∀a,Ge (RwC s q L G) a->f a=1:=fun a ha=>Ge.to (H:=fun a=>f a=1) ⟨h_1 hm,fun h1 h2=>by rw[hm,h1,h2,or1],fun h1=>by rw[h_i hm,h1,i1]⟩ (fun b hb=>hk _ (by
  obtain⟨x,hx,⟨g,_,rfl⟩|rfl⟩:=hb
  ·exact .x (.inl ⟨x,g,(hL x).1 (.x hx),by simp only[hm,h_i hm,hs]⟩)
  ·exact .x (.inr ⟨x,(hL x).1 (.x hx),by rw[zRB hm,hs]⟩))) ha
 have hN:Nm (Ge (RwC s q L G)):=⟨Ge.s _,fun{a} b ha=>by rw[as,hz a (iA a ha) b,cl1];exact ha⟩;have N1:∀{x},L x-> ∀{b},Ge G b-> ∀y,f y=b->Ge (RwC s q L G) ((s x)⁻¹*y⁻¹*s x*y):=fun{x} hx{b} hb=>by
  induction hb with
  |o=>
   intro y hy;have e:=hz y hy (s x);rw[as,<-e,as,cl1,il];exact .o
  | @x b hb=>
   intro y hy;obtain⟨z,z1,z2⟩:=sec hm hs y;rw[z2,yD8 hz z1,hy];exact .x ⟨x,hx,.inl ⟨b,hb,rfl⟩⟩
  | @m b c _ _ k1 k2=>
   intro y hy;have h1:=k1 (s b) (hs b);have h2:=k2 ((s b)⁻¹*y) (by rw[hm,h_i hm,hs,hy,cl1]);have:=hN.m h2 (hN.c ((s b)⁻¹*y) h1);simpa[as,im,ii,cl1,cl2]using this
  | @i b _ k=>
   intro y hy;have h1:=k y⁻¹ (by rw[h_i hm,hy,ii]);have:=hN.c y (hN.i h1);simpa[as,im,ii,cl1,cl2]using this
 have N2:∀{h},Ge L h-> ∀a,f a=h->(∀y,Ge (RwC s q L G) (a⁻¹*y⁻¹*a*y))/\Ge (RwC s q L G) (pg a q):=fun{h} hh=>by
  induction hh with
  |o=>exact fun a ha=>⟨fun y=>by rw[yFf hz ha];exact .o,by rw[hq a ha];exact .o⟩
  | @x x hx=>
   intro a ha;obtain⟨z,z1,z2⟩:=sec hm hs a;rw[z2,ha];exact⟨fun y=>by rw[yD7 hz z1];exact N1 hx (hG _) y rfl,by rw[yD6 hm hz hq z1];exact .x ⟨x,hx,.inr rfl⟩⟩
  | @m h c _ _ k1 k2=>
   intro a ha;have h1:=k1 (s h) (hs h);have h2:=k2 ((s h)⁻¹*a) (by rw[hm,h_i hm,hs,ha,cl1]);rw[show a=s h*((s h)⁻¹*a)by rw[cl2]];refine⟨fun y=>?_,?_⟩
   ·have:=hN.m (hN.c ((s h)⁻¹*a) (h1.1 y)) (h2.1 y)
    simpa[as,im,ii,cl1,cl2]using this
   ·obtain⟨n,n1,n2⟩:=zOn (b:=(s h)⁻¹*a) hN h1.1 q
    rw[n2];exact hN.m (hN.m h1.2 h2.2) n1
  | @i h _ k=>
   intro a ha;have h1:=k a⁻¹ (by rw[h_i hm,ha,ii]);refine⟨fun y=>?_,?_⟩
   ·have:=hN.c a (hN.i (h1.1 y))
    simpa[as,im,ii,cl1,cl2,il,or1]using this
   ·have:=hN.i h1.2
    rwa [yAU,ii]at this
 constructor
 ·intro ha
  refine Ge.to hN.toSg (fun b hb=>?_) ha;rcases hb with⟨y,g,hy,rfl⟩|⟨y,hy,rfl⟩
  ·exact(N2 ((hL _).2 (Qm.to hm q k hy)) y rfl).1 g
  ·exact(N2 ((hL _).2 (Qm.to hm q k hy)) y rfl).2
 ·refine fun ha=>Ge.to (Ge.s _) (fun b hb=>?_) ha
  obtain⟨x,hx,hb⟩:=hb;obtain⟨c,c1,c2⟩:=Qm.back hm hs q k ((hL x).1 (.x hx));obtain⟨z,z1,z2⟩:=sec hm hs c;rw[c2]at z2;rcases hb with⟨g,_,rfl⟩|rfl
  ·exact .x (.inl ⟨c,s g,c1,by rw[z2,yD7 hz z1]⟩)
  ·exact .x (.inr ⟨c,c1,by rw[z2,yD6 hm hz hq z1]⟩)
end
end
end Go.Pc

namespace Go.Pl
open Go Go.Ab Go.Wk
variable {α σ ρ:Type}{i k j D m:Nat}{body:Int->Option (Int⊕(Unit⊕Bool))}{r os:List Int}{f:Nat->Int}{x:SPr}{a q:Int}{o:Option Bool}{P:Prop}{xs:List α}
theorem bs{β:Type}(x:α)(f:α->Option β):(jd x).bind f=f x:=by simp only[Option.bind_some]
theorem zH(x y:α):cond jf x y=x:=by simp only[cond_true]
theorem zJ(x y:α):cond jg x y=y:=by simp only[cond_false]
theorem zB{n:Int}(h1:-9223372036854775808<=n:=by omega)(h2:n<=9223372036854775807:=by omega):rng n=jd n:=by unfold rng;rw[if_pos];simp only[inR,J4,decide_eq_true_eq];omega
theorem vD(xs:List α)(i:Nat):ixO xs (i:Int)=xs[i]?:=by unfold ixO;rw[if_pos (by omega)];simp
theorem zA1{α:Type}{xs:List α}(h:i<xs.length):ixO xs (i:Int)=jd xs[i]:=by rw[vD];exact J3 h
theorem yH{n:Nat}(h:n<=68719476736:=by omega):yG (n:Int)=jd n:=by unfold yG;rw[if_pos (by omega)];simp
theorem zV{α:Type}{xs ys:List α}(h:xs.length+ys.length<=68719476736:=by omega):yI xs ys=jd (xs++ys):=by unfold yI;rw[if_pos h]
theorem zN{ρ:Type}{body:σ->Option (σ⊕ρ)}{r:ρ}(S:Nat->σ)(n:Nat)(h:∀i,i<n->body (S i)=jd (.inl (S (i+1))))(he:body (S n)=jd (.inr r)):zG body (S 0)=jd r:=by
 have key:∀k i,i+k=n->zG body (S i)=jd r:=by
  intro k
  induction k with
  |zero=>intro i hi;rw[yP,show i=n from by omega,he]
  |succ k ih=>intro i hi;rw[yP,h i (by omega)];exact ih (i+1) (by omega)
 exact key n 0 (by omega)
theorem wV{ρ:Type}{body:σ->Option (σ⊕ρ)}{Q:ρ->Prop}(I:Nat->σ->Prop)(n:Nat)(h:∀i s,i<n->I i s->(∃s',body s=jd (.inl s')/\I (i+1) s')\/ ∃r,body s=jd (.inr r)/\Q r)
  (he:∀s,I n s-> ∃r,body s=jd (.inr r)/\Q r){s:σ}(h0:I 0 s):∃r,zG body s=jd r/\Q r:=by
 have key:∀k i s,i+k=n->I i s-> ∃r,zG body s=jd r/\Q r:=by
  intro k
  induction k with
  |zero=>
   intro i s hi hs;obtain rfl:i=n:=by omega
   obtain⟨r,h1,h2⟩:=he s hs;exact⟨r,by rw[yP,h1],h2⟩
  |succ k ih=>
   intro i s hi hs;rcases h i s (by omega) hs with⟨s',h1,h2⟩|⟨r,h1,h2⟩
   ·rw[yP,h1];exact ih (i+1) s' (by omega) h2
   ·exact⟨r,by rw[yP,h1],h2⟩
 exact key n 0 s (by omega) h0
def zMh{ρ:Type}:Option ρ->Unit⊕ρ
 |none=>.inl ()
 |some r=>.inr r
theorem cs(i:Nat):(i:Int)+1=((i+1:Nat):Int):=by omega
theorem zJp{body:Int->Option (Int⊕(Unit⊕ρ))}(n:Nat)(t:Nat->Option ρ)(i0:Nat)(hn:i0<=n)
  (h:∀i,i0<=i->i<n->(∀j,i0<=j->j<i->t j=je)->body (i:Int)=jd (match t i with|none=>.inl ((i+1:Nat):Int)|some r=>.inr (.inr r)))
  (he:(∀j,i0<=j->j<n->t j=je)->body (n:Int)=jd (.inr (.inl ()))):
  zG body (i0:Int)=jd (zMh ((K7 i0 (n-i0)).findSome? t)):=by
 have key:∀k i,i0<=i->i+k=n->(∀j,i0<=j->j<i->t j=je)->zG body (i:Int)=jd (zMh ((K7 i k).findSome? t)):=by
  intro k
  induction k with
  |zero=>
   intro i hi hk hp;obtain rfl:i=n:=by omega
   rw[yP,he hp];rfl
  |succ k ih=>
   intro i hi hk hp;rw[yP,h i hi (by omega) hp,Ho,Jad];cases ht:t i with
   |some r=>rfl
   |none=>
    simp only
    exact ih (i+1) (by omega) (by omega) fun j h1 h2=>by
     rcases Jo j i with h3|h3
     ·exact hp j h1 h3
     ·rw[show j=i from by omega];exact ht
 exact key (n-i0) i0 (Je _) (by omega) fun j h1 h2=>by omega
theorem zUn{n:Nat}{b:Nat->Bool}:zMh ((K7 0 n).findSome? (fun i=>if b i then je else jd jg))=if(Jd n).all b then .inl ()else .inr jg:=by
 have key:∀l:List Nat,zMh (l.findSome? (fun i=>if b i then je else jd jg))=if l.all b then .inl ()else .inr jg:=by
  intro l
  induction l with
  |nil=>rfl
  |cons x l ih=>
   rw[Jad,Un];cases hb:b x
   ·rfl
   ·simpa using ih
 rw[key,Ku]
theorem zJq(n:Nat)(b:Nat->Bool)
  (h:∀i,i<n->(∀j,j<i->b j=jf)->body (i:Int)=jd (if b i then .inl ((i+1:Nat):Int)else .inr (.inr jg)))
  (he:(∀j,j<n->b j=jf)->body (n:Int)=jd (.inr (.inl ()))):
  zG body 0=jd (if(Jd n).all b then .inl ()else .inr jg):=by
 have:=zJp (body:=body) n (fun i=>if b i then je else jd jg) 0 (Lb _) (fun i _ hi hp=>by
  rw[h i hi fun j hj=>by
   have:=hp j (Lb _) hj;split at this
   ·assumption
   ·cases this]
  cases b i<;>rfl) (fun hp=>he fun j hj=>by
   have:=hp j (Lb _) hj;split at this
   ·assumption
   ·cases this)
 rw[Nat.sub_zero]at this;exact this.trans (congrArg jd (zUn (n:=n) (b:=b)))
theorem zUo{α:Type}{xs:List α}{z:α}(h:i<xs.length):(xs.take i++J1 (xs.length-i) z).set i xs[i]=xs.take (i+1)++J1 (xs.length-(i+1)) z:=by
 have h1:(xs.take i).length=i:=by rw[Kd];omega
 rw[U6 _ _ (by omega),h1,Kn,show xs.length-i=(xs.length-(i+1))+1 from by omega,Jv,Lr,K5 h];simp only[Jg,H0]
theorem zK3{α:Type}{f:α->Option α}{body:List α×Int->Option ((List α×Int)⊕List α)}{x0:List α}{z:α}
  (hb:∀s,body s=cond (decide (s.2<(x0.length:Int))) ((ixO x0 s.2).bind fun v2=>(f v2).bind fun r3=>(ixO s.1 s.2).bind fun _=>(rng (s.2+1)).bind fun v5=>jd (.inl (s.1.set s.2.toNat r3,v5))) (jd (.inr s.1)))
  (hl:x0.length<=68719476736)(hf:∀x∈x0,f x=jd x):zG body (J1 x0.length z,0)=jd x0:=by
 have:=zN (body:=body) (r:=x0) (fun i=>(x0.take i++J1 (x0.length-i) z,(i:Int))) x0.length (fun i hi=>by
  rw[hb];simp only[ji (show((i:Int))<(x0.length:Int)from by omega),zH];rw[zA1 hi,vD];simp only[bs,hf _ (Js hi)];rw[J3 (by simp;omega),bs,zB,bs];simp only[J8,zUo hi,cs]) (by
  rw[hb];simp only[jh (show¬((x0.length:Int))<(x0.length:Int)from by omega),zJ,Lm,Kn,Lz,Jh])
 simpa using this
theorem zXK[BEq α]{t:α->α->Option Bool}{x y:List α}
  (hb:∀i,body i=cond (decide (i<(x.length:Int))) ((ixO x i).bind fun v1=>(ixO y i).bind fun v2=>(t v1 v2).bind fun r3=>cond (!r3) (jd (.inr (.inr jg))) ((rng (i+1)).bind fun v4=>jd (.inl v4))) (jd (.inr (.inl ()))))
  (hl:x.length<=68719476736)(a8:x.length=y.length)(ht:∀u∈x,∀v∈y,t u v=jd (u==v)):zG body 0=jd (if x==y then .inl ()else .inr jg):=by
 have h:=zJq (body:=body) x.length (fun i=>match x[i]?,y[i]? with|some u,jd v=>u==v|_,_=>jf) (fun i hi _=>by
  have fj:i<y.length:=by omega
  rw[hb];simp only[ji (show((i:Int))<(x.length:Int)from by omega),zH];rw[zA1 hi,zA1 fj];simp only[bs,ht _ (Js hi) _ (Js fj),J3 hi,J3 fj];cases x[i]==y[i]
  ·rfl
  ·simp only[L5,zJ,if_true]
   rw[zB,cs];rfl) (fun _=>by
  rw[hb];simp only[jh (show¬((x.length:Int))<(x.length:Int)from by omega),zJ])
 rw[h]
 congr 2
 have key:∀(x y:List α),x.length=y.length->((Jd x.length).all (fun i=>match x[i]?,y[i]? with|some u,jd v=>u==v|_,_=>jf))=(x==y):=by
  intro x
  induction x with
  |nil=>intro y hy;cases y with|nil=>rfl|cons _ _=>simp at hy
  |cons u x ih=>
   intro y hy;cases y with
   |nil=>simp at hy
   |cons v y=>
    rw[J7,Qy,Un,List.all_map];simp only[Q6,Function.comp_def,Jbb];rw[ih y (by simpa using hy)];rfl
 rw[key x y a8]
theorem zMi[BEq α]{t:α->α->Option Bool}{f:Option Bool}{x y:List α}
  (hf:f=cond ((x.length:Int) != (y.length:Int)) (jd jg) ((zG body 0).bind fun r=>match r with|.inl _=>jd jf|.inr r=>jd r))
  (hb:∀i,body i=cond (decide (i<(x.length:Int))) ((ixO x i).bind fun v1=>(ixO y i).bind fun v2=>(t v1 v2).bind fun r3=>cond (!r3) (jd (.inr (.inr jg))) ((rng (i+1)).bind fun v4=>jd (.inl v4))) (jd (.inr (.inl ()))))
  (hl:x.length<=68719476736)(ht:∀u∈x,∀v∈y,t u v=jd (u==v)):f=jd (x==y):=by
 rw[hf]
 by_cases a8:x.length=y.length
 ·rw[zXK hb hl a8 ht]
  have:((x.length:Int) != (y.length:Int))=jg:=by simp[a8]
  rw[this];cases x==y<;>rfl
 ·have:((x.length:Int) != (y.length:Int))=jf:=by simp;omega
  rw[this];have h2:(x==y)=jg:=by
   have key:∀(x y:List α),x.length≠y.length->(x==y)=jg:=by
    intro x
    induction x with
    |nil=>intro y hy;cases y with|nil=>simp at hy|cons _ _=>rfl
    |cons u x ih=>
     intro y hy;cases y with
     |nil=>rfl
     |cons v y=>
      show(u==v&&x==y)=jg;rw[ih y (by simpa using hy),Bool.and_false]
   exact key x y a8
  rw[h2];rfl
def sm{α:Type}(c:α->Nat):List α->Nat
 | []=>0
 |x::xs=>c x+sm c xs
theorem zFr{α:Type}(c:α->Nat):∀xs ys:List α,sm c (xs++ys)=sm c xs+sm c ys
 | [],ys=>by simp[sm]
 |x::xs,ys=>by simp only[K9,sm,zFr c xs ys];omega
theorem zQ3(c:α->Nat)(h:i<xs.length):sm c (xs.take (i+1))=sm c (xs.take i)+c xs[i]:=by grind[K5,zFr,sm]
theorem zHv(c:α->Nat)(xs:List α)(i:Nat):sm c (xs.take i)<=sm c xs:=by grind[zFr,Jbm]
theorem zUp(c:α->Nat){x:α}(h:x∈xs):c x<=sm c xs:=by
 obtain⟨i,hi,rfl⟩:=H3.1 h;have:=zQ3 c hi
 grind[zHv]
def szR(c:Nat)(b:Int):Int:=if(c:Int)<=b then b-c else -1
theorem zZD{α:Type}{c:α->Nat}{t:α->Int->Option Int}{f:Option Int}{body:Int×Int->Option ((Int×Int)⊕(Int⊕Int))}{xs:List α}{b:Int}
  (hf:f=(rng (b-(xs.length:Int))).bind fun v1=>cond (decide (v1<0)) (jd (-1)) ((zG body (v1,0)).bind fun r=>match r with|.inl r=>jd r|.inr r=>jd r))
  (hb:∀s,body s=cond (decide (s.2<(xs.length:Int))) ((ixO xs s.2).bind fun v2=>(t v2 s.1).bind fun r3=>cond (decide (r3<0)) (jd (.inr (.inr (-1)))) ((rng (s.2+1)).bind fun v4=>jd (.inl (r3,v4)))) (jd (.inr (.inl s.1))))
  (hl:xs.length<=9223372036854775807)(b0:0<=b)(b1:b<=1048576)(ht:∀x∈xs,∀b',0<=b'->b'<=1048576->t x b'=jd (szR (c x) b')):f=jd (szR (xs.length+sm c xs) b):=by
 rw[hf,zB,bs]
 by_cases h0:b-(xs.length:Int)<0
 ·rw[ji h0,zH,szR,if_neg (by omega)]
 ·rw[jh h0,zJ]
  obtain⟨r,h1,h2⟩:=wV (body:=body) (Q:=fun r=>(match r with|.inl r=>jd r|.inr r=>jd r)=jd (szR (xs.length+sm c xs) b)) (fun i s=>s.2=(i:Int)/\0<=s.1/\s.1=b-xs.length-sm c (xs.take i)) xs.length (fun i s hi ⟨e1,e2,e3⟩=>by
   rw[hb,e1,ji,zH,zA1 hi,bs,ht _ (Js hi) _ e2 (by omega),bs];have h3:=zQ3 c hi;have h4:=zHv c xs (i+1);unfold szR
   by_cases h5:(c xs[i]:Int)<=s.1
   ·rw[if_pos h5,jh (by omega),zJ,zB,bs,cs]
    grind
   grind) (fun s ⟨e1,e2,e3⟩=>by
   rw[hb,e1,jh (by omega),zJ];rw[Lm]at e3;refine⟨_,rfl,?_⟩;simp only
   rw[szR,if_pos (by omega),e3]
   grind) (s:=(b-(xs.length:Int),0)) ⟨rfl,by omega,by simp[sm]⟩
  grind
open Go Go.Ab Go.Wk
abbrev VI(n:Int):Prop:=(Lit.int .i64 n).wf=jf
abbrev VL{α:Type}(V:α->Prop)(xs:List α):Prop:=xs.length<=maxLen/\ ∀x∈xs,V x
abbrev c1(x:List Int):Nat:=x.length
abbrev c2(x:List (List Int)):Nat:=x.length+sm c1 x
abbrev c3(x:List (List (List Int))):Nat:=x.length+sm c2 x
theorem zMj{x:List Int}{b:Int}(hl:x.length<=9223372036854775807)(b0:0<=b)(b1:b<=1048576):zVB x b=jd (szR (c1 x) b):=by
 unfold zVB szR;rw[zB,bs]
 grind
theorem zJr{x:List (List Int)}{b:Int}(h:VL (VL VI) x)(b0:0<=b)(b1:b<=1048576:=by omega):zYw x b=jd (szR (c2 x) b):=
 zZD (c:=c1) rfl (fun _=>rfl) h.1 b0 b1 fun y hy _ h1 h2=>zMj (h.2 y hy).1 h1 h2
theorem zOq{x:List (List (List Int))}{b:Int}(h:VL (VL (VL VI)) x)(b0:0<=b)(b1:b<=1048576:=by omega):yBG x b=jd (szR (c3 x) b):=
 zZD (c:=c2) rfl (fun _=>rfl) h.1 b0 b1 (by grind[zJr])
abbrev S1(x:List Int):Prop:=c1 x<=1048576
abbrev S2(x:List (List Int)):Prop:=c2 x<=1048576
abbrev S3(x:List (List (List Int))):Prop:=c3 x<=1048576
theorem S2.mem{x:List (List Int)}(h:S2 x){y:List Int}(hy:y∈x):S1 y:=by
 have:=zUp c1 hy
 grind
theorem S3.mem{x:List (List (List Int))}(h:S3 x){y:List (List Int)}(hy:y∈x):S2 y:=by
 have:=zUp c2 hy
 grind
theorem zMk{x:List Int}(h:S1 x):zSm x=jd x:=by unfold zSm;rw[yH (Lu h (by decide)),bs,zK3 (body:=zVC x) (f:=jd) (fun _=>rfl) (by grind) (fun _ _=>rfl),bs]
theorem zJs{x:List (List Int)}(h:S2 x):zSn x=jd x:=by unfold zSn;rw[yH (by grind),bs,zK3 (body:=zVD x) (f:=zSm) (fun _=>rfl) (by grind) (fun _ hx=>zMk (h.mem hx)),bs]
theorem zOr{x:List (List (List Int))}(h:S3 x):zYy x=jd x:=by unfold zYy;rw[yH (by grind),bs,zK3 (body:=zVE x) (f:=zSn) (fun _=>rfl) (by grind) (fun _ hx=>zJs (h.mem hx)),bs]
theorem zMl{x y:List Int}(h:S1 x):zWy x y=jd (x==y):=
 zMi (t:=fun u v=>jd (u==v)) (body:=zWx x y) rfl (fun _=>rfl) (by grind) fun _ _ _ _=>rfl
theorem zJt{x y:List (List Int)}(h:S2 x):zW0 x y=jd (x==y):=
 zMi (t:=zWy) (body:=zWz x y) rfl (fun _=>rfl) (by grind) fun _ hu _ _=>zMl (h.mem hu)
theorem zOs{x y:List (List (List Int))}(h:S3 x):yBR x y=jd (x==y):=
 zMi (t:=zW0) (body:=zW1 x y) rfl (fun _=>rfl) (by grind) fun _ hu _ _=>zJt (h.mem hu)
def zQ4(x:SPr):Prop:=VL VI x.zA/\VL (VL VI) x.zP/\VL (VL (VL VI)) x.zF
def zMm(x:SPr):Nat:=c1 x.zA+c2 x.zP+c3 x.zF
def zEw(x:SPr):Prop:=S1 x.zA/\S2 x.zP/\S3 x.zF
theorem zMn{a b:Nat}{n:Int}:(szR a n<0/\szR (a+b) n= -1)\/(0<=szR a n/\szR a n<=n/\szR b (szR a n)=szR (a+b) n/\(a:Int)<=n)\/n<0:=by unfold szR;omega
theorem zHw{b:Int}(h:zQ4 x)(b0:0<=b)(b1:b<=1048576):zYx x b=jd (szR (zMm x) b):=by
 obtain⟨h1,h2,h3⟩:=h;unfold zYx zMm;rw[zMj h1.1 b0 b1,bs];rcases zMn (a:=c1 x.zA) (b:=c2 x.zP+c3 x.zF) (n:=b)with⟨g1,g2⟩|⟨g1,g2,g3,g4⟩|g1
 ·grind
 ·rw[jh (by omega),zJ,zJr h2 g1,bs,Ha,<-g3]
  generalize szR (c1 x.zA) b=b' at g1 g2
  rcases zMn (a:=c2 x.zP) (b:=c3 x.zF) (n:=b')with⟨k1,k2⟩|⟨k1,k2,k3,k4⟩|k1
  ·grind
  ·rw[jh (by omega),zJ,zOq h3 k1,bs,<-k3]
   generalize szR (c2 x.zP) b'=b'' at k1 k2
   unfold szR
   grind
  ·omega
 ·omega
theorem zXL{c:Nat}{b:Int}(_b0:0<=b)(b1:b<=1048576):(decide (szR c b<0)=jf)\/(decide (szR c b<0)=jg/\0<=szR c b/\szR c b<=1048576/\c<=1048576):=by
 unfold szR
 grind
theorem zEw.of(h:zMm x<=1048576):zEw x:=by unfold zMm at h;exact⟨by omega,by omega,by omega⟩
theorem zHx(h:zEw x):zSo x=jd x:=by unfold zSo;rw[zMk h.1,bs,zJs h.2.1,bs,zOr h.2.2,bs]
theorem zHy(h:zEw x):zY7 x x=jd jf:=by unfold zY7;rw[zMl h.1,bs,zJt h.2.1,bs,zOs h.2.2,bs];simp
def IsB(o:Option Bool)(P:Prop):Prop:=(o=jd jf/\P)\/(o=jd jg/\ ¬P)
theorem IsB.iff{Q:Prop}(h:IsB o P)(hpq:P↔Q):IsB o Q:=by grind
theorem IsB.of_bool{b:Bool}(h:b=jf↔P):IsB (jd b) P:=by
 cases b
 ·exact .inr (by grind)
 ·exact .inl ⟨rfl,h.1 rfl⟩
theorem chk{body:Int->Option (Int⊕(Unit⊕ρ))}(n i0:Nat)(hn:i0<=n)(P:Nat->Prop)(bad:Nat->ρ)
  (h:∀i,i0<=i->i<n->(∀j,i0<=j->j<i->P j)->(body (i:Int)=jd (.inl ((i+1:Nat):Int))/\P i)\/(body (i:Int)=jd (.inr (.inr (bad i)))/\ ¬P i))
  (he:body (n:Int)=jd (.inr (.inl ()))):
  (zG body (i0:Int)=jd (.inl ())/\ ∀j,i0<=j->j<n->P j)\/ ∃i,i0<=i/\i<n/\zG body (i0:Int)=jd (.inr (bad i))/\ ¬P i:=by
 have key:∀k i,i0<=i->i+k=n->(∀j,i0<=j->j<i->P j)->(zG body (i:Int)=jd (.inl ())/\ ∀j,i0<=j->j<n->P j)\/ ∃q,i0<=q/\q<n/\zG body (i:Int)=jd (.inr (bad q))/\ ¬P q:=by
  intro k
  induction k with
  |zero=>
   intro i hi hk hp;obtain rfl:i=n:=by omega
   grind[yP]
  |succ k ih=>
   intro i hi hk hp;rcases h i hi (by omega) hp with⟨h1,h2⟩|⟨h1,h2⟩
   ·have:=ih (i+1) (by omega) (by omega) (by grind)
    rw[yP,h1];exact this
   grind[yP]
 exact key (n-i0) i0 (Je _) (by omega) fun j a b=>by omega
theorem zDF{f:Option Bool}(n:Nat)(P:Nat->Prop)
  (hf:f=(zG body 0).bind fun r=>match r with|.inl _=>jd jf|.inr r=>jd r)
  (h:∀i,i<n->(∀j,j<i->P j)->(body (i:Int)=jd (.inl ((i+1:Nat):Int))/\P i)\/(body (i:Int)=jd (.inr (.inr jg))/\ ¬P i))
  (he:body (n:Int)=jd (.inr (.inl ()))):IsB f (∀i,i<n->P i):=by
 rcases chk n 0 (Lb _) P (fun _=>jg) (fun i _ hi hp=>h i hi fun j hj=>hp j (Lb _) hj) he with⟨h1,h2⟩|⟨i,_,hi,h1,h2⟩
 ·refine .inl ⟨?_,fun i hi=>h2 i (Lb _) hi⟩
  rw[hf];rw[show((0:Nat):Int)=0 from rfl]at h1;rw[h1,bs]
 ·refine .inr ⟨?_,fun hp=>h2 (hp i hi)⟩
  rw[hf];rw[show((0:Nat):Int)=0 from rfl]at h1;rw[h1,bs]
theorem zB0{ρ:Type}{bad:ρ}{g:Option (Int⊕(Unit⊕ρ))}(h:IsB o P)(hi:i<9223372036854775807)
  (hg:g=o.bind fun r=>cond (!r) (jd (.inr (.inr bad))) ((rng ((i:Int)+1)).bind fun v=>jd (.inl v))):(g=jd (.inl ((i+1:Nat):Int))/\P)\/(g=jd (.inr (.inr bad))/\ ¬P):=by
 subst hg;rcases h with⟨h1,h2⟩|⟨h1,h2⟩
 ·refine .inl ⟨?_,h2⟩
  rw[h1,bs,L5,zJ,zB,bs,cs]
 grind
theorem yS{n:Nat}(h:i<n:=by omega):decide ((i:Int)<(n:Int))=jf:=by grind
theorem tQ{n:Nat}:decide ((n:Int)<(n:Int))=jg:=by simp
theorem zFV(x a b:Int):IsB (zY2 x a b) (a<=x/\x<=b):=by
 unfold zY2
 by_cases h:x>=a
 ·rw[ji h,zH];grind[IsB.of_bool]
 ·rw[jh h,zJ];exact .inr ⟨rfl,by omega⟩
theorem zMo(x a b:Int):IsB (yBI x a b) (a<=x/\x<=b):=zFV x a b
def Prime(p:Int):Prop:=p=2\/p=3\/p=5\/p=7
theorem zHz(x:Int):IsB (zY1 x) (Prime x):=by
 unfold zY1 Prime
 by_cases h2:x=2
 ·subst h2;exact .inl ⟨rfl,.inl rfl⟩
 ·rw[show(x==2)=jg from by grind,zJ]
  by_cases h3:x=3
  ·subst h3;exact .inl (by simp)
  ·rw[show(x==3)=jg from by grind,zJ]
   by_cases h5:x=5
   ·subst h5;exact .inl (by simp)
   ·rw[show(x==5)=jg from by grind,zJ]
    grind[IsB.of_bool]
theorem zOt(x:Int):IsB (yBH x) (Prime x):=zHz x
abbrev at0(v:List Int)(i:Nat):Int:=v.getD i 0
theorem yK{v:List Int}(h:i<v.length:=by omega):ixO v (i:Int)=jd (at0 v i):=by rw[zA1 h,at0,J2,J3 h];rfl
def yAW(os v:List Int):Prop:=v.length=os.length/\ ∀i,i<v.length->0<=at0 v i/\at0 v i<=at0 os i-1
def Exp(os v:List Int)(k:Nat):Prop:=yAW os v/\ ∀i,i<=k->at0 v i=0
def Os(os:List Int):Prop:=os.length<=14/\ ∀i,i<os.length->Prime (at0 os i)
theorem Prime.pos{p:Int}(h:Prime p):2<=p/\p<=7:=by unfold Prime at h;omega
theorem zFs{v:List Int}(ho:Os x.zA):IsB (zY3 x v) (yAW x.zA v):=by
 unfold zY3
 by_cases h:v.length=x.zA.length
 ·rw[show((v.length:Int) != (x.zA.length:Int))=jg from by simp[h],zJ]
  have h6:=ho.1;refine(zDF v.length (fun i=>0<=at0 v i/\at0 v i<=at0 x.zA i-1) rfl (fun i hi _=>?_) ?_).iff ⟨fun g=>⟨h,g⟩,fun g=>g.2⟩
  ·have hp:=(ho.2 i (by omega)).pos
   refine zB0 (zFV _ _ _) (by omega) ?_;unfold zRq;rw[yS hi,zH,yK hi,bs,yK,bs,zB,bs]
  ·unfold zRq
   simp
 ·rw[show((v.length:Int) != (x.zA.length:Int))=jf from by simp;omega,zH]
  exact .inr ⟨rfl,fun g=>h g.1⟩
theorem zMp{v:List Int}(hl:v.length<=14):IsB (zVT v) (∀i,i<v.length->at0 v i=0):=by
 refine zDF v.length (fun i=>at0 v i=0) rfl (fun i hi _=>?_) ?_
 ·refine zB0 (o:=jd (at0 v i==0)) (IsB.of_bool (by simp)) (by omega) ?_
  unfold zJL;rw[yS hi,zH,yK hi,bs,bs];rfl
 ·unfold zJL
  simp
theorem zBM{v:List Int}(ho:Os x.zA)(hk:k<x.zA.length):IsB (zVU x k v) (Exp x.zA v k):=by
 have h6:=ho.1;unfold zVU;rcases zFs (v:=v) ho with⟨h1,h2⟩|⟨h1,h2⟩
 ·have hl:=h2.1
  rw[h1,bs,zH,zB,bs];have hs:zR v 0 ((k:Int)+1)=jd (v.take (k+1)):=by
   unfold zR
   grind
  rw[hs,bs];have hb:=zMp (v:=v.take (k+1)) (by grind);have mc:(∀i,i<(v.take (k+1)).length->at0 (v.take (k+1)) i=0)↔Exp x.zA v k:=by
   have e:∀i,i<=k->at0 (v.take (k+1)) i=at0 v i:=by grind
   rw[Kd,Nat.min_eq_left (by omega)];exact⟨fun g=>⟨h2,by grind⟩,fun g i hi=>by rw[e i (by omega)];exact g.2 i (by omega)⟩
  grind
 ·rw[h1,bs,zJ]
  exact .inr ⟨rfl,fun g=>h2 g.1⟩
theorem zCp{v:List Int}(ho:Os os)(hk:k<os.length):IsB (zVF os v k) (Exp os v k):=by
 have h6:=ho.1;unfold zVF
 by_cases h:v.length=os.length
 ·rw[show((v.length:Int) != (os.length:Int))=jg from by simp[h],zJ]
  refine(zDF v.length (fun i=>(0<=at0 v i/\at0 v i<=at0 os i-1)/\(i<=k->at0 v i=0)) rfl (fun i hi _=>?_) ?_).iff ⟨fun g=>⟨⟨h,by grind⟩,by grind⟩,fun g i hi=>⟨g.1.2 i hi,fun hk=>g.2 i hk⟩⟩
  ·have hp:=(ho.2 i (by omega)).pos
   unfold zRp;rw[yS hi,zH,yK hi,bs,yK,bs,zB,bs];rcases zMo (at0 v i) 0 (at0 os i-1)with⟨h1,h2⟩|⟨h1,h2⟩
   ·rw[h1,bs,L5,zJ]
    by_cases h3:(i:Int)<=(k:Int)
    ·rw[ji h3,zH,bs]
     by_cases h4:at0 v i=0
     ·rw[show(at0 v i != 0)=jg from by grind,zJ,zB,bs,cs]
      grind
     grind
    ·rw[jh h3,zJ,zB,bs,cs]
     grind
   grind
  ·unfold zRp
   simp
 ·rw[show((v.length:Int) != (os.length:Int))=jf from by simp;omega,zH]
  exact .inr ⟨rfl,fun g=>h g.1.1⟩
theorem yFg{body:σ->Option (σ⊕(Unit⊕ρ))}(S:Nat->σ)(n i0:Nat)(hn:i0<=n)(P:Nat->Prop)(bad:Nat->ρ)
  (h:∀i,i0<=i->i<n->(∀j,i0<=j->j<i->P j)->(body (S i)=jd (.inl (S (i+1)))/\P i)\/(body (S i)=jd (.inr (.inr (bad i)))/\ ¬P i))
  (he:body (S n)=jd (.inr (.inl ()))):
  (zG body (S i0)=jd (.inl ())/\ ∀j,i0<=j->j<n->P j)\/ ∃i,i0<=i/\i<n/\zG body (S i0)=jd (.inr (bad i))/\ ¬P i:=by
 have key:∀k i,i0<=i->i+k=n->(∀j,i0<=j->j<i->P j)->(zG body (S i)=jd (.inl ())/\ ∀j,i0<=j->j<n->P j)\/ ∃q,i0<=q/\q<n/\zG body (S i)=jd (.inr (bad q))/\ ¬P q:=by
  intro k
  induction k with
  |zero=>
   intro i hi hk hp;obtain rfl:i=n:=by omega
   grind[yP]
  |succ k ih=>
   intro i hi hk hp;rcases h i hi (by omega) hp with⟨h1,h2⟩|⟨h1,h2⟩
   ·have:=ih (i+1) (by omega) (by omega) (by grind)
    rw[yP,h1];exact this
   grind[yP]
 exact key (n-i0) i0 (Je _) (by omega) fun j a b=>by omega
theorem zCq{b:Int}(h:a=b:=by omega):(a != b)=jg:=by simp[h]
theorem zDo{b:Int}(h:a≠b:=by omega):(a != b)=jf:=by simp[h]
def pr(os:List Int):Nat->Int
 |0=>1
 |i+1=>pr os i*at0 os i
def cp(os:List Int):Nat->Int
 |0=>1
 |i+1=>if cp os i<=729 then cp os i*at0 os i else cp os i
theorem zFt{os:List Int}:∀{i:Nat},(∀j,j<i->Prime (at0 os j))->1<=pr os i
 |0,_=>by simp[pr]
 |i+1,h=>by have h1:=zFt (os:=os) (i:=i) (by grind);have h2:=(h i (by omega)).pos;simp only[pr];have:(1:Int)*1<=pr os i*at0 os i:=Lq h1 (by omega) (by omega) (by omega);omega
theorem zQ5(h:∀j,j<=i->Prime (at0 os j)):pr os i<=pr os (i+1):=by have h1:=zFt (os:=os) (i:=i) (by grind);have h2:=(h i (Je _)).pos;simp only[pr];have:pr os i*1<=pr os i*at0 os i:=Q7 (by omega) (by omega);omega
theorem zK4{os:List Int}{n:Nat}(h:∀j,j<n->Prime (at0 os j)):∀k,k<=n->pr os (n-k)<=pr os n
 |0,_=>Int.le_refl _
 |k+1,hk=>by
  have h1:=zK4 h k (by omega);have h2:=zQ5 (os:=os) (i:=n-(k+1)) (by grind)
  grind
theorem zUq{os:List Int}:∀{i:Nat},(∀j,j<i->Prime (at0 os j))->(cp os i=pr os i/\pr os i<=729\/729<cp os i/\cp os i<=5103/\729<pr os i)
 |0,_=>by simp[cp,pr]
 |i+1,h=>by
  have h0:∀j,j<i->Prime (at0 os j):=by grind
  have h2:=(h i (by omega)).pos;have h3:=zQ5 (os:=os) (i:=i) (by grind);have i7:=zFt h0;simp only[cp];rcases zUq h0 with⟨h1,h4⟩|⟨h1,h4,h5⟩
  ·rw[h1,if_pos h4]
   have h6:pr os i*at0 os i<=729*7:=Lq h4 h2.2 (by omega) (by omega);simp only[pr]at h3 ⊢
   grind
  omega
def zFW(x:SPr)(i:Nat):Prop:=Exp x.zA (x.zP.getD i []) i/\(x.zF.getD i []).length+i+1=x.zA.length/\ ∀j,j<(x.zF.getD i []).length->Exp x.zA ((x.zF.getD i []).getD j []) i
structure zDp (x:SPr):Prop where
 os:True/\ ∀i,i<x.zA.length->Prime (at0 x.zA i)
 pl:x.zP.length=x.zA.length
 cl:x.zF.length=x.zA.length
 tl:∀i,i<x.zA.length->zFW x i
structure Pres (x:SPr):Prop where
 os:Os x.zA
 pl:x.zP.length=x.zA.length
 cl:x.zF.length=x.zA.length
 tl:∀i,i<x.zA.length->zFW x i
theorem Pres.w(h:Pres x):zDp x:=⟨⟨trivial,h.os.2⟩,h.pl,h.cl,h.tl⟩
structure zA2 (x:SPr):Prop extends Pres x where
 n6:x.zA.length<=6
 pr:pr x.zA x.zA.length<=729
theorem yA{v:List α}(d:α)(h:i<v.length:=by omega):ixO v (i:Int)=jd (v.getD i d):=by grind[zA1]
theorem zOu(ho:Os x.zA)(hp:x.zP.length=x.zA.length)(hc:x.zF.length=x.zA.length)(hi:i<x.zA.length):
  (zPz x i=jd (.inl ((i+1:Nat):Int))/\zFW x i)\/(zPz x i=jd (.inr (.inr jg))/\ ¬zFW x i):=by
 have h6:=ho.1;unfold zPz;rw[yS hi,zH,yA [],bs];rcases zBM (v:=x.zP.getD i []) ho hi with⟨h1,h2⟩|⟨h1,h2⟩
 ·rw[h1,bs,L5,zJ,yA [],bs,zB,bs,zB,bs]
  by_cases hl:(x.zF.getD i []).length+i+1=x.zA.length
  ·rw[zCq,zJ,bs]
   rcases chk (body:=zVV x i (x.zF.getD i [])) (x.zF.getD i []).length 0 (Lb _) (fun j=>Exp x.zA ((x.zF.getD i []).getD j []) i) (fun _=>jg) (fun j _ hj _=>by
     refine zB0 (zBM ho hi) (by omega) ?_;unfold zVV;rw[yS hj,zH,yA [] hj,bs]) (by
     unfold zVV;simp)with⟨g1,g2⟩|⟨j,_,hj,g1,g2⟩
   ·rw[show((0:Nat):Int)=0 from rfl]at g1
    rw[g1,bs];simp only
    rw[zB,bs,cs];exact .inl ⟨rfl,h2,hl,by grind⟩
   ·rw[show((0:Nat):Int)=0 from rfl]at g1
    rw[g1,bs];exact .inr ⟨rfl,fun g=>g2 (g.2.2 j hj)⟩
  ·rw[zDo,zH]
   exact .inr ⟨rfl,fun g=>hl g.2.1⟩
 ·rw[h1,bs,H5,zH]
  exact .inr ⟨rfl,fun g=>h2 g.1⟩
theorem zOv(ho:Os x.zA)(hp:x.zP.length=x.zA.length)(hc:x.zF.length=x.zA.length)(hi:i<x.zA.length):
  (zPv x i=jd (.inl ((i+1:Nat):Int))/\zFW x i)\/(zPv x i=jd (.inr (.inr jg))/\ ¬zFW x i):=by
 have h6:=ho.1;unfold zPv;rw[yS hi,zH,yA [],bs];rcases zCp (v:=x.zP.getD i []) ho hi with⟨h1,h2⟩|⟨h1,h2⟩
 ·rw[h1,bs,L5,zJ,yA [],bs,zB,bs,zB,bs]
  by_cases hl:(x.zF.getD i []).length+i+1=x.zA.length
  ·rw[zCq,zJ]
   rcases chk (body:=zVH x i) (x.zF.getD i []).length 0 (Lb _) (fun j=>Exp x.zA ((x.zF.getD i []).getD j []) i) (fun _=>jg) (fun j _ hj _=>by
     refine zB0 (zCp ho hi) (by omega) ?_;unfold zVH;rw[yA [],bs,yS hj,zH,bs,yA [] hj,bs]) (by
     unfold zVH;rw[yA [],bs,tQ,zJ])with⟨g1,g2⟩|⟨j,_,hj,g1,g2⟩
   ·rw[show((0:Nat):Int)=0 from rfl]at g1
    rw[g1,bs];simp only
    rw[zB,bs,cs];exact .inl ⟨rfl,h2,hl,by grind⟩
   ·rw[show((0:Nat):Int)=0 from rfl]at g1
    rw[g1,bs];exact .inr ⟨rfl,fun g=>g2 (g.2.2 j hj)⟩
  ·rw[zDo,zH]
   exact .inr ⟨rfl,fun g=>hl g.2.1⟩
 ·rw[h1,bs,H5,zH]
  exact .inr ⟨rfl,fun g=>h2 g.1⟩
theorem zMq(h6:x.zA.length<=6):
  (zG (zPy x) (1,0)=jd (.inl ())/\Os x.zA/\pr x.zA x.zA.length<=729)\/(zG (zPy x) (1,0)=jd (.inr jg)/\ ¬(Os x.zA/\pr x.zA x.zA.length<=729)):=by
 rcases yFg (body:=zPy x) (fun i=>(pr x.zA i,(i:Int))) x.zA.length 0 (Lb _) (fun i=>Prime (at0 x.zA i)/\pr x.zA (i+1)<=729) (fun _=>jg) (fun i _ hi m6=>by
   have hp:∀j,j<i->Prime (at0 x.zA j):=by grind
   have i7:=zFt hp;have fd:pr x.zA i<=729:=by
    cases i with
    |zero=>simp[pr]
    |succ i=>grind
   unfold zPy;rw[yS hi,zH,yK hi,bs];rcases zHz (at0 x.zA i)with⟨h1,h2⟩|⟨h1,h2⟩
   ·have h3:=h2.pos
    have h4:pr x.zA i*at0 x.zA i<=729*7:=Lq fd h3.2 (by omega) (by omega);have h5:1*1<=pr x.zA i*at0 x.zA i:=Lq i7 (by omega) (by omega) (by omega);simp only
    rw[h1,bs,L5,zJ,zB,bs]
    by_cases h7:pr x.zA i*at0 x.zA i> 729
    ·rw[ji h7,zH]
     exact .inr ⟨rfl,by grind[pr]⟩
    ·rw[jh h7,zJ,bs,zB,bs,cs]
     exact .inl ⟨rfl,h2,by grind[pr]⟩
   grind) (by
   unfold zPy;simp)with⟨g1,g2⟩|⟨i,_,hi,g1,g2⟩
 ·refine .inl ⟨g1,⟨by omega,by grind⟩,?_⟩
  cases hn:x.zA.length with
  |zero=>simp[pr]
  |succ n=>grind
 ·refine .inr ⟨g1,fun⟨h1,h2⟩=>g2 ⟨h1.2 i hi,?_⟩⟩
  have:=zK4 (os:=x.zA) (n:=x.zA.length) h1.2 (x.zA.length-(i+1)) (by omega)
  grind
theorem zK5(ho:Os os):zYz os=jd (cp os os.length):=by
 have h6:=ho.1;unfold zYz;rw[show(1,0)=(fun i=>(cp os i,(i:Int))) 0 from rfl,zN (body:=zNq os) (r:=cp os os.length) (fun i=>(cp os i,(i:Int))) os.length (fun i hi=>by
  have hp:=(ho.2 i hi).pos;have hc:=zUq (os:=os) (i:=i) fun j hj=>ho.2 j (by omega)
  have i7:=zFt (os:=os) (i:=i) fun j hj=>ho.2 j (by omega)
  unfold zNq;rw[yS hi,zH];simp only[cp]
  by_cases h:cp os i<=729
  ·have h4:cp os i*at0 os i<=729*7:=Lq h hp.2 (by omega) (by omega)
   have h5:1*1<=cp os i*at0 os i:=Lq (by omega) (by omega) (by omega) (by omega);rw[ji h,zH,yK hi,bs,zB,bs,zB,bs,cs,if_pos h]
  ·rw[jh h,zJ,zB,bs,cs,if_neg h]) (by
  unfold zNq;simp),bs]
theorem zDb(hl:x.zA.length<=1048576):IsB (f_u x) (zA2 x):=by
 unfold f_u
 by_cases h6:x.zA.length<=6
 ·rw[jh (by omega),zJ]
  by_cases hp:x.zP.length=x.zA.length
  ·rw[zCq,zJ]
   by_cases hc:x.zF.length=x.zA.length
   ·rw[zCq,zJ]
    rcases zMq h6 with⟨h1,h2,h3⟩|⟨h1,h2⟩
    ·rw[h1,bs]
     exact(zDF (f:=(zG (zPz x) 0).bind fun r=>match r with|.inl _=>jd jf|.inr r=>jd r) x.zA.length (zFW x) rfl (by grind[zOu]) (by unfold zPz;simp)).iff ⟨fun g=>⟨⟨h2,hp,hc,g⟩,h6,h3⟩,fun g=>g.tl⟩
    ·rw[h1,bs]
     exact .inr ⟨rfl,fun g=>h2 ⟨g.os,g.pr⟩⟩
   ·rw[zDo,zH]
    exact .inr ⟨rfl,fun g=>hc g.cl⟩
  ·rw[zDo,zH]
   exact .inr ⟨rfl,fun g=>hp g.pl⟩
 ·rw[ji,zH]
  exact .inr ⟨rfl,fun g=>h6 g.n6⟩
theorem zDc(hl:x.zA.length<=1048576):IsB (f_w x) (zA2 x):=by
 unfold f_w
 by_cases h6:x.zA.length<=6
 ·rw[jh (by omega),zJ]
  by_cases hp:x.zP.length=x.zA.length
  ·rw[zCq,zJ]
   by_cases hc:x.zF.length=x.zA.length
   ·rw[zCq,zJ]
    rcases chk (body:=zVG x) x.zA.length 0 (Lb _) (fun i=>Prime (at0 x.zA i)) (fun _=>jg) (fun i _ hi _=>by
      refine zB0 (zOt _) (by omega) ?_;unfold zVG;rw[yS hi,zH,yK hi,bs]) (by
      unfold zVG;simp)with⟨g1,g2⟩|⟨i,_,hi,g1,g2⟩
    ·rw[show((0:Nat):Int)=0 from rfl]at g1
     have ho:Os x.zA:=⟨by omega,by grind⟩;have hcp:=zUq (os:=x.zA) (i:=x.zA.length) ho.2;rw[g1,bs];simp only
     rw[zK5 ho,bs]
     by_cases h7:cp x.zA x.zA.length> 729
     ·rw[ji h7,zH]
      exact .inr ⟨rfl,fun g=>by have:=g.pr;omega⟩
     ·rw[jh h7,zJ]
      exact(zDF (f:=(zG (zPv x) 0).bind fun r=>match r with|.inl _=>jd jf|.inr r=>jd r) x.zA.length (zFW x) rfl (by grind[zOv]) (by unfold zPv;simp)).iff ⟨fun g=>⟨⟨ho,hp,hc,g⟩,h6,by omega⟩,fun g=>g.tl⟩
    ·rw[show((0:Nat):Int)=0 from rfl]at g1
     rw[g1,bs];exact .inr ⟨rfl,fun g=>g2 (g.os.2 i hi)⟩
   ·rw[zDo,zH]
    exact .inr ⟨rfl,fun g=>hc g.cl⟩
  ·rw[zDo,zH]
   exact .inr ⟨rfl,fun g=>hp g.pl⟩
 ·rw[ji,zH]
  exact .inr ⟨rfl,fun g=>h6 g.n6⟩
open Go Go.Ab Go.Wk Go.Pc
def lvl(x:SPr)(i:Nat):Lvl:=⟨at0 x.zA i,(x.zP.getD i []).drop (i+1),(x.zF.getD i []).map (·.drop (i+1))⟩
def suf(x:SPr)(k:Nat):Pcp:=(K7 k (x.zA.length-k)).map (lvl x)
theorem yB(x:SPr)(k:Nat):(suf x k).length=x.zA.length-k:=by simp[suf]
theorem zY(h:k<x.zA.length:=by omega):suf x k=lvl x k::suf x (k+1):=by unfold suf;rw[show x.zA.length-k=(x.zA.length-(k+1))+1 from by omega,Ho,Ju]
theorem vL(h:x.zA.length<=k:=by omega):suf x k=[]:=by unfold suf;simp_all
theorem zAd{v:List Int}(h:Exp os v k)(hk:k<os.length):v=zeros (k+1)++v.drop (k+1):=by
 have h1:=h.1.1;apply Kx;intro i;rw[Kr];simp only[zeros,Jk,K4,Lx];split
 ·rename_i hi
  have h2:=h.2 i (by omega)
  grind
 grind
theorem zXM{x:SPr}:∀(d k:Nat)(v:List Int),k+d=x.zA.length->v.length=d->(∀i,i<d->0<=at0 v i/\at0 v i<=at0 x.zA (k+i)-1)->V (suf x k) v
 |0,k,v,hk,hv,_=>by rw[vL];simpa[V]using hv
 |d+1,k,v,hk,hv,h=>by
  rw[zY]
  match v,hv with
  |a::v,hv=>
   have h0:=h 0 (by omega);simp only[at0,Gp,Um]at h0;refine⟨⟨h0.1,by simp only[lvl,at0];omega⟩,zXM d (k+1) v (by omega) (by grind) fun i hi=>?_⟩
   grind
theorem qZ{v:List Int}(h:Exp x.zA v k)(hk:k<x.zA.length:=by omega):V (suf x (k+1)) (v.drop (k+1)):=by
 have h1:=h.1.1;refine zXM (x.zA.length-(k+1)) (k+1) _ (by omega) (by grind) fun i hi=>?_
 have:=h.1.2 (k+1+i) (by omega)
 grind
theorem zDp.ok{x:SPr}(h:zDp x):∀(d k:Nat),k+d=x.zA.length->Pc.Ok (suf x k)
 |0,k,hk=>by rw[vL];simp only[Pc.Ok]
 |d+1,k,hk=>by
  rw[zY];obtain⟨t1,t2,t3⟩:=h.tl k (by omega);refine⟨by simp only[lvl];have:=(h.os.2 k (by omega)).pos;omega,qZ t1,?_,fun c hc=>?_,zDp.ok h d (k+1) (by omega)⟩
  ·grind[yB,lvl]
  ·simp only[lvl,Jc]at hc
   obtain⟨u,hu,rfl⟩:=hc;obtain⟨j,hj,rfl⟩:=H3.1 hu
   grind[qZ]
theorem zDp.okAt(h:zDp x)(hk:k<=x.zA.length):Pc.Ok (suf x k):=h.ok (x.zA.length-k) k (by omega)
theorem Pres.okAt(h:Pres x)(hk:k<=x.zA.length):Pc.Ok (suf x k):=h.w.okAt hk
theorem zT(n:Nat):(zeros n).length=n:=by simp[zeros]
theorem zFX(k:Nat):zeros (k+1)=zeros k++[0]:=by simp[zeros,Lv]
theorem zBN{b:Int}{v:Vec}:(zeros k++a::v).set k b=zeros k++b::v:=by rw[U6 _ _ (by grind[zT]),zT,Kn,Lr]
theorem zBO{v:Vec}:ixO (zeros k++a::v) (k:Int)=jd a:=by rw[vD,Jm (by grind[zT]),zT,Kn];rfl
theorem jF{v:Vec}:zeros k++0::v=zeros (k+1)++v:=by rw[zFX,Jg];rfl
theorem tE{v:List Int}(h:v.length<=1000000:=by omega):f_y v=jd v:=by grind[f_y,zV]
theorem zBh{m:Vec->Vec->Vec}:∀(cs:List Vec)(x:Vec)(i:Nat)(acc:Vec),i<cs.length->i<x.length->
  img m (cs.take (i+1)) (x.take (i+1)) acc=iter (at0 x i).toNat (fun v=>m v (cs.getD i [])) (img m (cs.take i) (x.take i) acc)
 | [],_,_,_,h,_=>by simp at h
 |_::_,[],_,_,_,h=>by simp at h
 |c::cs,a::x,0,acc,_,_=>by rfl
 |c::cs,a::x,i+1,acc,h,h'=>by simp only[Ky,img,at0,List.getD_cons_succ];exact zBh cs x i _ (by grind) (by grind)
theorem uV{β:Type}{body:α×Int->Option ((α×Int)⊕α)}{S:β->Prop}(e:β->α)(g:β->β)(n:Int)(hn:0<=n)(hS:∀a,S a->S (g a))
  (h:∀a(i:Nat),S a->(i:Int)<n->body (e a,(i:Int))=jd (.inl (e (g a),((i+1:Nat):Int))))(he:∀a,S a->body (e a,n)=jd (.inr (e a))){a:β}(ha:S a):
  zG body (e a,0)=jd (e (iter n.toNat g a)):=by
 have eh:∀k,S (iter k g a):=fun k=>vV (S:=S) hS k ha
 exact zN (body:=body) (r:=e (iter n.toNat g a)) (fun i=>(e (iter i g a),(i:Int))) n.toNat (by grind[xP]) (by grind)
theorem zMr{v:Vec}(h:i<v.length:=by omega):ixO (zeros k++v) ((k+i:Nat):Int)=jd (at0 v i):=by rw[vD,Jm (by grind[zT]),zT,show k+i-k=i from by omega,J3 h,at0,J2,J3 h];rfl
theorem zDG{x:SPr}(ho:Os x.zA):∀(d k:Nat)(v:List Int),k+d=x.zA.length->V (suf x k) v->v.length=d/\ ∀i,i<d->0<=at0 v i/\at0 v i<at0 x.zA (k+i)/\at0 v i<=6
 |0,k,v,hk,hv=>by
  rw[vL]at hv;simp only[V]at hv
  grind
 |d+1,k,v,hk,hv=>by
  rw[zY]at hv
  match v,hv with
  |a::v,hv=>
   obtain⟨h1,h2⟩:=zDG ho d (k+1) v (by omega) hv.2;refine⟨by simp[h1],fun i hi=>?_⟩;cases i with
   |zero=>
    have h3:=hv.1;simp only[lvl]at h3;have:=(ho.2 k (by omega)).pos
    grind
   |succ i=>
    grind
theorem zEx(h:Pres x)(hk:k<x.zA.length)(hi:i<x.zA.length-(k+1):=by omega):
  ∃c,ixO x.zF (k:Int)=jd (x.zF.getD k [])/\ixO (x.zF.getD k []) (i:Int)=jd (zeros (k+1)++c)/\V (suf x (k+1)) c/\(lvl x k).cs.getD i []=c:=by
 obtain⟨t1,t2,t3⟩:=h.tl k hk;have hc:=h.cl
 grind[yA,qZ,zAd,lvl]
def FAt(x:SPr)(k:Nat)(g:SPr->Int->List Int->List Int->Option (List Int)):Prop:=
 ∀a b,V (suf x k) a->V (suf x k) b->g x k (zeros k++a) (zeros k++b)=jd (zeros k++mul (suf x k) a b)
def FIm(x:SPr)(k:Nat)(g:SPr->Int->List Int->Option (List Int)):Prop:=
 ∀v,V (suf x (k+1)) v->g x k (zeros (k+1)++v)=jd (zeros (k+1)++sig (suf x (k+1)) (lvl x k) v)
theorem zOw(h:Pres x)(hk:k<x.zA.length){g:SPr->Int->List Int->List Int->Option (List Int)}(hg:FAt x (k+1) g):FIm x k (b_g g):=by
 intro v hv;have h6:=h.os.1;have ok:=h.okAt (k:=k+1) (by omega);obtain⟨fT,dl⟩:=zDG h.os (x.zA.length-(k+1)) (k+1) v (by omega) hv;have gf:=yB x (k+1);have gy:(lvl x k).cs.length=x.zA.length-(k+1):=by have:=h.okAt (k:=k) (by omega);rw[zY hk]at this;rw[this.2.2.1,gf]
 have gY:∀c∈(lvl x k).cs,V (suf x (k+1)) c:=by have:=h.okAt (k:=k) (by omega);rw[zY hk]at this;exact this.2.2.2.1
 have hA:∀i,V (suf x (k+1)) (img (mul (suf x (k+1))) ((lvl x k).cs.take i) (v.take i) (zeros (suf x (k+1)).length)):=fun i=>
  qD (yO ok) _ _ (by grind) (wC ok)
 unfold b_g;rw[yH,bs,zB,bs,cs];have hz:J1 x.zA.length (0:Int)=zeros (k+1)++zeros (suf x (k+1)).length:=by rw[gf];simp only[zeros,Jn];congr 1;omega
 rw[hz];have:=zN (body:=zVJ g x k (zeros (k+1)++v)) (r:=zeros (k+1)++sig (suf x (k+1)) (lvl x k) v)
  (fun i=>(zeros (k+1)++img (mul (suf x (k+1))) ((lvl x k).cs.take i) (v.take i) (zeros (suf x (k+1)).length),((k+1+i:Nat):Int))) (x.zA.length-(k+1)) (fun i hi=>by
  have hr:=dl i hi;obtain⟨c,c1,c2,c3,c4⟩:=zEx h hk hi;unfold zVJ;rw[ji,zH];rw[uV (S:=V (suf x (k+1))) (body:=zVI g x k (zeros (k+1)++v) (zeros (k+1)++img (mul (suf x (k+1))) ((lvl x k).cs.take i) (v.take i) (zeros (suf x (k+1)).length),((k+1+i:Nat):Int))) (fun u=>zeros (k+1)++u) (fun u=>mul (suf x (k+1)) u c) (at0 v i) hr.1 (by grind[yO]) (fun u q hu hq=>by
   unfold zVI;simp only
   rw[zMr,bs,ji hq,zH,zB,bs,c1,bs,zB,bs,zB,bs,
    show(((k+1+i:Nat):Int)-(k:Int)-1)=(i:Int)from by omega,c2,bs,cs,hg u c hu c3,bs,zB,bs,cs]) (fun u hu=>by
   unfold zVI;simp only
   rw[zMr,bs,jh (by omega),zJ]) (hA i),bs,zB,bs,cs]
  rw[zBh _ _ _ _ (by omega) (by omega),c4];rfl) (by
  unfold zVJ;rw[jh (by omega),zJ,Jx (by omega),Jx (by omega)];rfl)
 grind[img]
theorem zXN(h:Pres x)(hk:k<x.zA.length){g:SPr->Int->List Int->List Int->Option (List Int)}{gi:SPr->Int->List Int->Option (List Int)}(hg:FAt x (k+1) g)(hi:FIm x k gi):FAt x k (b_a gi g):=by
 intro a b ha hb;have h6:=h.os.1;have hp:=(h.os.2 k hk).pos;have ok:=h.okAt (k:=k+1) (by omega);have ok0:=h.okAt (k:=k) (by omega);obtain⟨bD,har⟩:=zDG h.os (x.zA.length-k) k a (by omega) ha;obtain⟨fw,hbr⟩:=zDG h.os (x.zA.length-k) k b (by omega) hb;rw[zY hk]at ha hb ok0;obtain⟨a0,a,rfl⟩:∃a0 a',a=a0::a':=by cases a with|nil=>grind|cons p q=>simp
 obtain⟨b0,b,rfl⟩:∃a0 a',b=a0::a':=by cases b with|nil=>grind|cons p q=>simp
 obtain⟨⟨a1,a2⟩,ha⟩:=ha;obtain⟨⟨b1,b2⟩,hb⟩:=hb;have fQ:(lvl x k).o=at0 x.zA k:=rfl;rw[fQ]at a2 b2;unfold b_a;rw[jh (by omega),zJ,tE (by grind[zT]),bs,tE (by simp[zT]at fw ⊢;omega),bs,zBO,bs,zBO,bs,J8,zBN,zBN,jF,jF];have ey:∀u,V (suf x (k+1)) u->V (suf x (k+1)) (sig (suf x (k+1)) (lvl x k) u):=by grind[zCo]
 have eh:V (suf x (k+1)) (iter b0.toNat (sig (suf x (k+1)) (lvl x k)) a):=vV ey _ ha;rw[uV (S:=V (suf x (k+1))) (fun u=>zeros (k+1)++u) (sig (suf x (k+1)) (lvl x k)) b0 b1 ey (fun u q hu hq=>by
   unfold zY0;simp only
   rw[zBO,bs,ji hq,zH,hi u hu,bs,zB,bs,cs]) (fun u hu=>by
   unfold zY0;simp only
   rw[zBO,bs,jh (by omega),zJ]) ha,bs,zB,bs,cs,hg _ _ eh hb,bs,bs,bs,zB,bs,yK hk,bs]
 have hm:=yO ok eh hb;have hml:=(zDG h.os (x.zA.length-(k+1)) (k+1) _ (by omega) hm).1;have own:∀u,V (suf x (k+1)) u->f_y (zeros (k+1)++u)=jd (zeros (k+1)++u):=fun u hu=>tE (by
  have:=(zDG h.os (x.zA.length-(k+1)) (k+1) _ (by omega) hu).1
  grind[zT])
 rw[zY hk,yJ,fQ]
 by_cases hge:a0+b0>=at0 x.zA k
 ·have t1:=(h.tl k hk).1
  have hw:=qZ t1 hk;have hwl:=h.pl;rw[ji hge,zH,if_pos hge,bs,zB,bs,bs,yA [],bs,zAd t1 hk,hg _ _ hw hm,bs,own _ (yO ok hw hm),bs];rw[<-jF,zBO,bs,zBN];rfl
 ·rw[jh hge,zJ,if_neg hge,own _ hm,bs,<-jF,zBO,bs,zBN]
theorem zFu{x:SPr}(h:Pres x):∀(d k:Nat),k+d=x.zA.length->(∀m,2*d+1<=m->FAt x k (zPx m))/\(1<=d-> ∀m,2*d<=m->FIm x k (zPw m))
 |0,k,hk=>by
  refine⟨fun m hm a b ha hb=>?_,fun h=>by omega⟩;have h6:=h.os.1;obtain⟨m,rfl⟩:∃m',m=m'+1:=⟨m-1,by omega⟩;show b_a _ _ x k _ _=_;unfold b_a;rw[ji,zH,yH,bs,vL]
  grind[mul,zeros]
 |d+1,k,hk=>by
  obtain⟨h1,h2⟩:=zFu h d (k+1) (by omega);have hI:∀m,2*(d+1)<=m->FIm x k (zPw m):=fun m hm=>by obtain⟨m,rfl⟩:∃m',m=m'+1:=⟨m-1,by omega⟩;exact zOw h (by omega) (h1 m (by omega))
  refine⟨fun m hm=>?_,fun _=>hI⟩;obtain⟨m,rfl⟩:∃m',m=m'+1:=⟨m-1,by omega⟩;exact zXN h (by omega) (h1 m (by omega)) (hI m (by omega))
theorem zEy(h:Pres x)(hk:k<=x.zA.length):FAt x k f_a:=fun a b ha hb=>
 zAn (2*(x.zA.length-k)+1) fun m hm=>(zFu h (x.zA.length-k) k (by omega)).1 m hm a b ha hb
theorem zOx(h:Pres x)(hk:k<x.zA.length):FIm x k f_g:=fun v hv=>
 zAn (2*(x.zA.length-k)) fun m hm=>(zFu h (x.zA.length-k) k (by omega)).2 (by omega) m hm v hv
theorem zCr:∀{P Q:Pcp},Q<:+P->xC P->xC Q
 | [],Q,h,_=>by grind
 |l::P,Q,h,hc=>by
  rcases Qi.1 h with rfl|h
  ·exact hc
  ·exact zCr h hc.1
theorem zJu:∀{P Q:Pcp},Q<:+P->Pc.Ok P->Pc.Ok Q
 | [],Q,h,_=>by grind
 |l::P,Q,h,hc=>by
  rcases Qi.1 h with rfl|h
  ·exact hc
  ·exact zJu h hc.2.2.2.2
theorem zOy(x:SPr)(k:Nat):suf x (k+1)<:+suf x k:=by grind[zY,vL]
theorem zCs{x:SPr}{k:Nat}(h:xC (suf x k)):∀i,xC (suf x (k+i))
 |0=>h
 |i+1=>zCr (zOy x (k+i)) (zCs h i)
theorem zCt(h:Pres x)(hk:k<=x.zA.length)(hc:xC (suf x k)):Grp (V (suf x k)) (mul (suf x k)) (zeros (suf x k).length):=zBL _ (h.okAt hk) hc
theorem zG1{x:SPr}:∀(i k:Nat)(v:Vec),k+i<=x.zA.length->V (suf x k) v-> ∃q v',v=q++v'/\q.length=i/\V (suf x (k+i)) v'/\
  ∀a b,V (suf x (k+i)) a->V (suf x (k+i)) b->mul (suf x k) (q++a) (zeros i++b)=q++mul (suf x (k+i)) a b
 |0,k,v,_,hv=>⟨[],v,rfl,rfl,hv,fun a b _ _=>rfl⟩
 |i+1,k,v,hk,hv=>by
  rw[zY]at hv
  match v,hv with
  |e::v,hv=>
   obtain⟨q,v',h1,h2,h3,h4⟩:=zG1 i (k+1) v (by omega) hv.2;rw[show k+1+i=k+(i+1)from by omega]at h3 h4;refine⟨e::q,v',by grind,by simp[h2],h3,fun a b ha hb=>?_⟩;have he:=hv.1;rw[zY];show mul (lvl x k::suf x (k+1)) (e::(q++a)) (0::(zeros i++b))=_;rw[yJ,L7,if_neg (by omega)]
   grind[iter]
def FTV(x:SPr)(k:Nat)(g:SPr->List Int->List Int->Option (List Int)):Prop:=
 ∀p v u,p.length=k->V (suf x k) v->V (suf x k) u->g x (p++v) (zeros k++u)=jd (p++mul (suf x k) v u)
def FTG(x:SPr)(k:Nat)(g:SPr->List Int->Int->Option (List Int)):Prop:=
 ∀p v,p.length=k->V (suf x k) v->g x (p++v) (k:Int)=jd (p++mul (suf x k) v (1::zeros (x.zA.length-(k+1))))
theorem zJv(h:Pres x)(hk:k<x.zA.length){g:SPr->List Int->List Int->Option (List Int)}(hg:FTV x (k+1) g){t:Vec}(ht:V (suf x (k+1)) t)
  {body1:List Int×Int->Int->List Int×Int->Option ((List Int×Int)⊕List Int)}{body2:List Int×Int->Option ((List Int×Int)⊕List Int)}
  (ca:∀s,body2 s=cond (decide (s.2<(t.length:Int))) ((ixO t s.2).bind fun v17=>(zG (body1 s v17) (s.1,0)).bind fun r=>(rng (s.2+1)).bind fun v=>jd (.inl (r,v))) (jd (.inr s.1)))
  (d8:∀s v q,body1 s v q=cond (decide (q.2<v)) ((ixO x.zF (k:Int)).bind fun cl=>(ixO cl s.2).bind fun c=>(g x q.1 c).bind fun r=>(rng (q.2+1)).bind fun w=>jd (.inl (r,w))) (jd (.inr q.1)))
  {p:Vec}(hp:p.length=k+1){u:Vec}(hu:V (suf x (k+1)) u):zG body2 (p++u,0)=jd (p++img (mul (suf x (k+1))) (lvl x k).cs t u):=by
 have h6:=h.os.1;have ok:=h.okAt (k:=k+1) (by omega);have ok0:=h.okAt (k:=k) (by omega);rw[zY hk]at ok0;obtain⟨eM,ai⟩:=zDG h.os (x.zA.length-(k+1)) (k+1) t (by omega) ht;have gy:(lvl x k).cs.length=x.zA.length-(k+1):=by rw[ok0.2.2.1,yB]
 have hA:∀i,V (suf x (k+1)) (img (mul (suf x (k+1))) ((lvl x k).cs.take i) (t.take i) u):=fun i=>
  qD (yO ok) _ _ (fun c hc=>ok0.2.2.2.1 c (by grind)) hu
 have:=zN (body:=body2) (r:=p++img (mul (suf x (k+1))) (lvl x k).cs t u) (fun i=>(p++img (mul (suf x (k+1))) ((lvl x k).cs.take i) (t.take i) u,(i:Int))) t.length (fun i hi=>by
  have hr:=ai i (by omega);obtain⟨c,c1,c2,c3,c4⟩:=zEx h hk (i:=i);rw[ca];simp only
  rw[yS hi,zH,yK hi,bs];rw[uV (S:=V (suf x (k+1))) (fun u=>p++u) (fun u=>mul (suf x (k+1)) u c) (at0 t i) hr.1 (by grind[yO]) (fun u q hu hq=>by
   rw[d8];simp only
   rw[ji hq,zH,c1,bs,c2,bs,hg p u c hp hu c3,bs,zB,bs,cs]) (by grind) (hA i),bs,zB,bs,cs]
  rw[zBh _ _ _ _ (by omega) (by omega),c4]) (by
  grind)
 grind[img]
theorem zZE{p v:Vec}(hp:p.length=k):ixO (p++a::v) (k:Int)=jd a:=by rw[vD,Jm (by omega),hp,Kn];rfl
theorem p_set{p v:Vec}{b:Int}(hp:p.length=k):(p++a::v).set k b=p++b::v:=by simp_all
theorem zMs(h:Pres x)(hk:k<x.zA.length)(hc:xC (suf x (k+1))){g:SPr->List Int->List Int->Option (List Int)}(hg:FTV x (k+1) g):FTG x k (b_d g):=by
 intro p v hp hv;have h6:=h.os.1;have G:=zCt h (k:=k+1) (by omega) hc;have ok:=h.okAt (k:=k+1) (by omega);have ok0:=h.okAt (k:=k) (by omega);obtain⟨fT,dl⟩:=zDG h.os (x.zA.length-k) k v (by omega) hv;rw[zY hk]at hv ok0;obtain⟨e,t,rfl⟩:∃a0 a',v=a0::a':=by cases v with|nil=>grind|cons p q=>simp
 obtain⟨⟨e1,e2⟩,ht⟩:=hv;have fQ:(lvl x k).o=at0 x.zA k:=rfl;rw[fQ]at e2;have eI:=(h.os.2 k hk).pos;have eM:=(zDG h.os (x.zA.length-(k+1)) (k+1) t (by omega) ht).1;have cx:=yB x (k+1);unfold b_d;have hs:zR (p++e::t) ((k+1:Nat):Int) ((p++e::t).length:Int)=jd t:=by
  unfold zR;rw[if_pos (by grind)];have e3:(p++e::t).drop (k+1)=t:=by rw[List.drop_append,Uo (by omega),hp,show k+1-k=1 from by omega];rfl
  grind[J8]
 have bx:f_B t=jd t:=by grind[f_B,zV]
 rw[zB,bs,cs,hs,bs,bx,bs];have hz:=zN (body:=zVW k t) (r:=(p++[e])++zeros t.length) (fun i=>((p++[e])++(zeros i++t.drop i),(i:Int))) t.length (fun i hi=>by
  have hl:((p++[e])++zeros i).length=k+1+i:=by grind[zT]
  unfold zVW;simp only
  rw[yS hi,zH,zB,bs,zB,bs,show(k:Int)+1+(i:Int)=((k+1+i:Nat):Int)from by omega,vD,<-Jg,Jm (by omega),hl,Kn,
   Hq hi,Q6,bs,zB,bs,cs,J8,U6 _ _ (by omega),hl,Kn,Lr,zFX]
  simp) (by
  unfold zVW;simp)
 simp only[zeros,Lz,Uf,Jz,Jg,H0]at hz;rw[show((0:Nat):Int)=0 from rfl]at hz;rw[hz,bs,J8,zZE hp,bs,zB,bs,bs,p_set hp,zZE hp,bs,yK hk,bs];have eW:J1 t.length (0:Int)=zeros (suf x (k+1)).length:=by rw[cx,eM];rfl
 rw[zY hk,yJ,fQ];have gk:mul (suf x (k+1)) (iter (1:Int).toNat (sig (suf x (k+1)) (lvl x k)) t) (zeros (x.zA.length-(k+1)))=sig (suf x (k+1)) (lvl x k) t:=by rw[<-cx];show mul _ (sig (suf x (k+1)) (lvl x k) t) _=_;exact G.oner (zCo ok0 ht)
 rw[gk,eW]
 by_cases heq:e+1=at0 x.zA k
 ·have t1:=(h.tl k hk).1
  have hw:=qZ t1 hk;have hwl:=h.pl;have dt:(p++[(0:Int)]).length=k+1:=by simp[hp]
  rw[show(e+1==at0 x.zA k)=jf from by grind,zH,if_pos (by omega),bs,yA [],bs,p_set hp];have dJ:p++0::zeros (suf x (k+1)).length=(p++[0])++zeros (suf x (k+1)).length:=by simp
  rw[dJ,zAd t1 hk,hg _ _ _ dt G.ein hw,bs,G.onel hw];rw[zJv (body1:=yBL g x k) (body2:=yBM g x k t) h hk hg ht (fun _=>rfl) (fun _ _ _=>rfl) dt hw,bs];rw[zEv G.toMon _ _ ok0.2.2.2.1 hw,show e+1-at0 x.zA k=0 from by omega];simp only[Jg,H0];rfl
 ·have dt:(p++[e+1]).length=k+1:=by simp[hp]
  rw[show(e+1==at0 x.zA k)=jg from by grind,zJ,if_neg (by omega)];have dJ:p++(e+1)::zeros (suf x (k+1)).length=(p++[e+1])++zeros (suf x (k+1)).length:=by simp
  rw[dJ,zJv (body1:=yBN g x k) (body2:=yBO g x k t) h hk hg ht (fun _=>rfl) (fun _ _ _=>rfl) dt G.ein,bs];simp only[Jg,H0];rfl
theorem kY{n:Nat}(h:i<n:=by omega):xG n i=zeros i++1::zeros (n-(i+1)):=by
 have:zeros n=zeros i++0::zeros (n-(i+1)):=by
  simp only[zeros];rw[<-Jv,Jn]
  grind
 grind[xG,zBN]
theorem zEz(n:Nat):(wA n).length=n:=by simp[wA]
theorem zH0{n:Nat}(h:i<n):(wA n).getD i []=xG n i:=by simp[wA,J2,h]
theorem zUr(h:Pres x)(hk:k<=x.zA.length)(hc:xC (suf x k)){g:SPr->List Int->Int->Option (List Int)}(hg:∀j,k<=j->j<x.zA.length->FTG x j g):FTV x k (b_c g):=by
 intro p v u hp hv hu;have h6:=h.os.1;have G:=zCt h hk hc;have ok:=h.okAt hk;obtain⟨gT,dS⟩:=zDG h.os (x.zA.length-k) k u (by omega) hu;have cx:=yB x k;have hV1:∀j,j<=x.zA.length->j<x.zA.length->V (suf x j) (1::zeros (x.zA.length-(j+1))):=fun j hj pH=>by rw[zY pH];have:=(h.os.2 j pH).pos;refine⟨⟨by omega,by show 1<at0 x.zA j;omega⟩,?_⟩;rw[<-yB];exact wC (h.okAt (by omega))
 have hUn:∀i,i<x.zA.length-k->V (suf x k) (xG (x.zA.length-k) i):=by grind[zCn]
 have hUs:∀c∈wA (x.zA.length-k),V (suf x k) c:=fun c hc=>by
  simp only[wA,Jc,Lh]at hc
  grind
 have hA:∀i,V (suf x k) (img (mul (suf x k)) ((wA (x.zA.length-k)).take i) (u.take i) v):=fun i=>
  qD (yO ok) _ _ (by grind) hv
 have iF:∀i w,i<x.zA.length-k->V (suf x k) w->g x (p++w) ((k+i:Nat):Int)=jd (p++mul (suf x k) w (xG (x.zA.length-k) i)):=fun i w hi hw=>by obtain⟨q,w',h1,h2,h3,h4⟩:=zG1 i k w (by omega) hw;have h5:=hg (k+i) (by omega) (by omega) (p++q) w' (by grind) h3;rw[Jg,<-h1]at h5;rw[h5,kY hi,h1,show x.zA.length-k-(i+1)=x.zA.length-(k+i+1)from by omega,h4 w' _ h3 (hV1 (k+i) (by omega) (by omega)),Jg]
 unfold b_c;have ag:(zeros k++u).length=x.zA.length:=by grind[zT]
 have:=zN (body:=zVY g x (zeros k++u)) (r:=p++mul (suf x k) v u) (fun j=>(p++img (mul (suf x k)) ((wA (x.zA.length-k)).take (j-k)) (u.take (j-k)) v,(j:Int))) x.zA.length (fun j hj=>by
  unfold zVY;simp only
  rw[ag,yS hj,zH];rcases Jo j k with hjk|hjk
  ·have e0:ixO (zeros k++u) (j:Int)=jd 0:=by
    rw[vD,K1 (by grind)]
    grind[zeros]
   rw[e0,bs,show j-k=0 from by omega,show j+1-k=0 from by omega];rw[yP];unfold zVX;simp only
   rw[show decide ((0:Int)<0)=jg from rfl,zJ];simp only
   rw[bs,zB,bs,cs]
  ·obtain⟨i,rfl⟩:∃i,j=k+i:=⟨j-k,by omega⟩
   have hi:i<x.zA.length-k:=by omega
   have hr:=dS i hi;rw[zMr,bs,show k+i-k=i from by omega,show k+i+1-k=i+1 from by omega];rw[uV (S:=V (suf x k)) (fun w=>p++w) (fun w=>mul (suf x k) w (xG (x.zA.length-k) i)) (at0 u i) hr.1 (by grind[yO]) (fun w q hw hq=>by
    unfold zVX;simp only
    rw[ji hq,zH,iF i w hi hw,bs,zB,bs,cs]) (fun w hw=>by
    unfold zVX;simp) (hA i),bs,zB,bs,cs]
   rw[zBh _ _ _ _ (by grind[zEz]) (by omega),zH0 hi]) (by
  unfold zVY;simp only
  rw[ag,tQ,zJ,Jx (by grind[zEz]),Jx (by omega),zEv G.toMon _ _ hUs hv];have hn:=normal (suf x k) ok (fun Q hQ=>(zBL Q (zJu hQ ok) (zCr hQ hc)).toMon) u hu
  grind)
 simp only[Jb7,Kc,img]at this
 grind
theorem zFv{x:SPr}(h:Pres x):∀(d k:Nat),k+d=x.zA.length->xC (suf x k)->(∀m,2*d+1<=m->FTV x k (zSq m))
 |d,k,hk,hc=>fun m hm=>by
  obtain⟨m,rfl⟩:∃m',m=m'+1:=⟨m-1,by omega⟩;refine zUr h (by omega) hc fun j hj fL=>?_
  obtain⟨m,rfl⟩:∃m',m=m'+1:=⟨m-1,by omega⟩;have bz:xC (suf x (j+1)):=by
   have:=zCs hc (j+1-k)
   grind
  exact zMs h fL bz (zFv h (x.zA.length-(j+1)) (j+1) (by omega) bz m (by omega))
 termination_by d=>d
 decreasing_by omega
theorem zXO(h:Pres x)(hk:k<=x.zA.length)(hc:xC (suf x k)):FTV x k f_c:=fun p v u hp hv hu=>
 zAn (2*(x.zA.length-k)+1) fun m hm=>zFv h (x.zA.length-k) k (by omega) hc m hm p v u hp hv hu
theorem zXP(h:Pres x)(hk:k<x.zA.length)(hc:xC (suf x (k+1))):FTG x k f_d:=fun p v hp hv=>
 zAn (2*(x.zA.length-k)) fun m hm=>by obtain⟨m,rfl⟩:∃m',m=m'+1:=⟨m-1,by omega⟩;exact zMs h hk hc (zFv h (x.zA.length-(k+1)) (k+1) (by omega) hc m (by omega)) p v hp hv
abbrev fv(k:Nat)(v:Vec):Vec:=zeros k++v
section
variable {x:SPr} (h:Pres x) {k:Nat} (hk:k<=x.zA.length) (hc:xC (suf x k))
 include h hk
theorem wY{v:Vec}(hv:V (suf x k) v):v.length=x.zA.length-k:=(zDG h.os (x.zA.length-k) k v (by omega) hv).1
theorem zAK{v:Vec}(hv:V (suf x k) v):(fv k v).length=x.zA.length:=by grind[zT,wY]
theorem zMt:J1 x.zA.length (0:Int)=fv k (zeros (suf x k).length):=by
 have _:=h;rw[yB];simp only[fv,zeros,Jn];grind
 include hc
theorem zOz(hi:i<x.zA.length-k):V (suf x k) (xG (x.zA.length-k) i):=by
 have _:=hc;have:=yB x k;rw[<-this]at hi ⊢
 exact zCn (h.okAt hk) hi
theorem zMu{p:Vec}(hp:p.length=k)(hi:i<x.zA.length-k){w:Vec}(hw:V (suf x k) w):f_d x (p++w) ((k+i:Nat):Int)=jd (p++mul (suf x k) w (xG (x.zA.length-k) i)):=by
 obtain⟨q,w',h1,h2,h3,h4⟩:=zG1 i k w (by omega) hw;have bz:xC (suf x (k+i+1)):=zCs hc (i+1);have h5:=zXP h (k:=k+i) (by omega) bz (p++q) w' (by grind) h3;have h7:V (suf x (k+i)) (1::zeros (x.zA.length-(k+i+1))):=by
  have pH:k+i<x.zA.length:=by omega
  rw[zY pH];have:=(h.os.2 (k+i) pH).pos;refine⟨⟨by omega,by show 1<at0 x.zA (k+i);omega⟩,?_⟩;rw[<-yB];exact wC (h.okAt (by omega))
 grind[kY]
theorem zE0{a b:Vec}(ha:V (suf x k) a)(hb:V (suf x k) b):f_c x (fv k a) (fv k b)=jd (fv k (mul (suf x k) a b)):=
 zXO h hk hc (zeros k) a b (zT k) ha hb
theorem zH1{a:Vec}(ha:V (suf x k) a):f_B (fv k a)=jd (fv k a):=by
 have _:=hc;have:=zAK h hk ha;have h6:=h.os.1
 grind[f_B,zV]
theorem zDq{a b:Vec}(ha:V (suf x k) a)(hb:V (suf x k) b):zLn x (fv k a) (fv k b)=jd (fv k (mul (suf x k) a b)):=by grind[zLn,zH1,zE0]
theorem zH2{c:Vec}(eL:V (suf x k) c){e:Int}(e0:0<=e)(e1:e<=1000):f_Y x (fv k c) e=jd (fv k (pw (mul (suf x k)) (zeros (suf x k).length) c e.toNat)):=by
 have h6:=h.os.1;have ok:=h.okAt hk;unfold f_Y;rw[zAK h hk eL,yH,bs,zMt h hk];rw[uV (S:=V (suf x k)) (body:=zWa x (fv k c) e) (fun u=>fv k u) (fun u=>mul (suf x k) u c) e e0 (by grind[yO]) (fun u i hu hi=>by
  unfold zWa;simp only
  rw[ji hi,zH,zE0 h hk hc hu eL,bs,zB,bs,cs]) (fun u hu=>by
  unfold zWa;simp) (wC ok),bs]
 rfl
theorem zFY{v:Vec}(hv:V (suf x k) v):∃w,V (suf x k) w/\mul (suf x k) v w=zeros (suf x k).length/\f_N x (fv k v)=jd (fv k w):=by
 have h6:=h.os.1;have ok:=h.okAt hk;have G:=zCt h hk hc;have fT:=zAK h hk hv;have cx:=yB x k;unfold f_N;rw[zH1 h hk hc hv,bs,fT,yH,bs,zMt h hk]
 let I:Nat->(List Int×List Int×Int)->Prop:=fun j s=> ∃A w,s=(fv k A,fv k w,(j:Int))/\V (suf x k) A/\V (suf x k) w/\mul (suf x k) v w=A/\ ∃A',A=zeros (j-k)++A'
 have key:=wV (body:=zWe x (fv k v)) (Q:=fun r=> ∃w,V (suf x k) w/\mul (suf x k) v w=zeros (suf x k).length/\r=fv k w) I x.zA.length (fun j s hj hI=>by
  obtain⟨A,w,rfl,hA,hw,hm,A',hA'⟩:=hI;left;unfold zWe;simp only
  rw[fT,yS hj,zH];rcases Jo j k with hjk|hjk
  ·have e0:ixO (fv k A) (j:Int)=jd 0:=by
    grind[vD,zeros]
   rw[yP];unfold zSr;simp only
   rw[e0,bs,show((0:Int) != 0)=jg from rfl,zJ];simp only
   rw[bs,zB,bs,cs]
   grind
  ·obtain⟨i,rfl⟩:∃i,j=k+i:=⟨j-k,by omega⟩
   have hi:i<x.zA.length-k:=by omega
   rw[show k+i-k=i from by omega]at hA';have bI:=wY h hk hA;obtain⟨a0,A',rfl⟩:∃p q,A'=p::q:=by
    cases A' with
    |nil=>grind[zT]
    |cons p q=>simp
   have eI:=(h.os.2 (k+i) hj).pos;have inner:=wV (body:=zSr x (fv k A,fv k w,((k+i:Nat):Int))) (s:=(fv k A,fv k w))
    (Q:=fun r=> ∃B u,r=(fv k B,fv k u)/\V (suf x k) B/\V (suf x k) u/\mul (suf x k) v u=B/\ ∃B',B=zeros (i+1)++B')
    (fun q s=> ∃B u b B',s=(fv k B,fv k u)/\V (suf x k) B/\V (suf x k) u/\mul (suf x k) v u=B/\B=zeros i++b::B'/\(b=0\/b=a0+q)) 10 (fun q s hq hs=>by
     obtain⟨B,u,b,B',rfl,hB,hu,mG,bH,hb⟩:=hs;have hz:ixO (fv k B) ((k+i:Nat):Int)=jd b:=by rw[fv,zMr (by grind[wY]),bH,at0,J2,Jm (by rw[zT];omega),zT,Kn];rfl
     unfold zSr;simp only
     rw[hz,bs]
     by_cases d9:b=0
     ·subst d9
      right;rw[show((0:Int) != 0)=jg from rfl,zJ];exact⟨_,rfl,B,u,rfl,hB,hu,mG,B',by rw[bH,jF]⟩
     ·left
      have hbq:b=a0+q:=by omega
      rw[show(b != 0)=jf from by grind,zH,zMu h hk hc (zT k) hi hB,bs,zMu h hk hc (zT k) hi hu,bs];have hU:=zOz h hk hc hi;obtain⟨q',v',h1,h2,h3,h4⟩:=zG1 i k B (by omega) hB;have hqv:q'=zeros i/\v'=b::B':=by grind[List.append_inj,zT]
      obtain⟨rfl,rfl⟩:=hqv;have h7:V (suf x (k+i)) (1::zeros (x.zA.length-(k+i+1))):=by rw[zY hj];refine⟨⟨by omega,by show 1<at0 x.zA (k+i);omega⟩,?_⟩;rw[<-yB];exact wC (h.okAt (by omega))
      have h8:=h4 (b::B') _ h3 h7;rw[show x.zA.length-(k+i+1)=x.zA.length-k-(i+1)from by omega,<-kY hi,<-h1,zY hj,yJ]at h8;refine⟨_,rfl,mul (suf x k) B (xG (x.zA.length-k) i),mul (suf x k) u (xG (x.zA.length-k) i),?_⟩;have fQ:(lvl x (k+i)).o=at0 x.zA (k+i):=rfl;rw[fQ]at h8
      by_cases hge:b+1>=at0 x.zA (k+i)
      ·rw[if_pos hge]at h8
       refine⟨_,_,rfl,yO ok hB hU,yO ok hu hU,?_,h8,?_⟩
       ·rw[<-G.assoc hv hu hU,mG]
       ·left
        rw[zY hj]at h3;have:=h3.1.2;omega
      ·rw[if_neg hge]at h8
       refine⟨_,_,rfl,yO ok hB hU,yO ok hu hU,?_,h8,?_⟩
       ·rw[<-G.assoc hv hu hU,mG]
       omega) (fun s hs=>by
     obtain⟨B,u,b,B',rfl,hB,hu,mG,bH,hb⟩:=hs;have hz:ixO (fv k B) ((k+i:Nat):Int)=jd b:=by rw[fv,zMr (by grind[wY]),bH,at0,J2,Jm (by rw[zT];omega),zT,Kn];rfl
     have hbr:=(zDG h.os (x.zA.length-k) k B (by omega) hB).2 i hi;have ha:=(zDG h.os (x.zA.length-k) k A (by omega) hA).2 i hi;have e1:at0 B i=b:=by rw[bH,at0,J2,Jm (by grind[zT]),zT,Kn];rfl
     have e2:at0 A i=a0:=by rw[hA',at0,J2,Jm (by grind[zT]),zT,Kn];rfl
     have d9:b=0:=by omega
     subst d9;unfold zSr;simp only
     rw[hz,bs,show((0:Int) != 0)=jg from rfl,zJ];exact⟨_,rfl,B,u,rfl,hB,hu,mG,B',by rw[bH,jF]⟩) (by grind)
   obtain⟨r,r1,B,u,rfl,hB,hu,mG,B',bH⟩:=inner;rw[r1,bs,zB,bs,cs]
   grind) (fun s hI=>by
  obtain⟨A,w,rfl,hA,hw,hm,A',hA'⟩:=hI;unfold zWe;simp only
  rw[fT,tQ,zJ];refine⟨_,rfl,w,hw,?_,rfl⟩;have bI:=wY h hk hA;rw[hA',J5,zT]at bI
  grind) (s:=(fv k v,fv k (zeros (suf x k).length),0))
  ⟨v,_,rfl,hv,wC ok,G.oner hv,v,by rw[Jb7];rfl⟩
 grind
theorem qS{a b:Vec}(ha:V (suf x k) a)(hb:V (suf x k) b):∃c,V (suf x k) c/\mul (suf x k) b c=mul (suf x k) a b/\zIG x (fv k a) (fv k b)=jd (fv k c):=by
 have ok:=h.okAt hk;have G:=zCt h hk hc;obtain⟨w,hw,hm,h1⟩:=zFY h hk hc hb;have fC:=yO ok ha hb;refine⟨mul (suf x k) w (mul (suf x k) a b),yO ok hw fC,?_,?_⟩
 ·rw[<-G.assoc hb hw fC,hm,G.onel fC]
 grind[zIG,zDq]
end
theorem zH3{a b:List Int}(h:a.length<=1000000):zLm a b=jd (a==b):=
 zMi (t:=fun u v=>jd (u==v)) (body:=zWd a b) rfl (fun _=>rfl) (by omega) fun _ _ _ _=>rfl
theorem zMv{body:Int->Option (Int⊕(Unit⊕ρ))}(n i0:Nat)(hn:i0<=n)(P:Nat->Prop)(B:ρ->Prop)
  (h:∀i,i0<=i->i<n->(∀j,i0<=j->j<i->P j)->(body (i:Int)=jd (.inl ((i+1:Nat):Int))/\P i)\/(∃r,body (i:Int)=jd (.inr (.inr r))/\B r/\ ¬P i))
  (he:body (n:Int)=jd (.inr (.inl ()))):
  (zG body (i0:Int)=jd (.inl ())/\ ∀j,i0<=j->j<n->P j)\/ ∃r i,i0<=i/\i<n/\zG body (i0:Int)=jd (.inr r)/\B r/\ ¬P i:=by
 have key:∀k i,i0<=i->i+k=n->(∀j,i0<=j->j<i->P j)->(zG body (i:Int)=jd (.inl ())/\ ∀j,i0<=j->j<n->P j)\/ ∃r q,i0<=q/\q<n/\zG body (i:Int)=jd (.inr r)/\B r/\ ¬P q:=by
  intro k
  induction k with
  |zero=>
   intro i hi hk hp;obtain rfl:i=n:=by omega
   grind[yP]
  |succ k ih=>
   intro i hi hk hp;rcases h i hi (by omega) hp with⟨h1,h2⟩|⟨r,h1,h2,h3⟩
   ·have:=ih (i+1) (by omega) (by omega) (by grind)
    rw[yP,h1];exact this
   ·exact .inr ⟨r,i,hi,by omega,by rw[yP,h1],h2,h3⟩
 exact key (n-i0) i0 (Je _) (by omega) fun j a b=>by omega
theorem vX{σ ρ:Type}{body:σ->Option (σ⊕ρ)}{Q:ρ->Prop}(I:σ->Prop)(m:σ->Nat)
  (h:∀s,I s->(∃s',body s=jd (.inl s')/\I s'/\m s'<m s)\/ ∃r,body s=jd (.inr r)/\Q r):∀(k:Nat)(s:σ),m s<=k->I s-> ∃r,zG body s=jd r/\Q r
 |k,s,hk,hs=>by
  rcases h s hs with⟨s',h1,h2,h3⟩|⟨r,h1,h2⟩
  ·cases k with
   |zero=>omega
   |succ k=>
    obtain⟨r,h4,h5⟩:=vX I m h k s' (by omega) h2
    grind[yP]
  grind[yP]
theorem yAX{a b:Vec}:(fv k a==fv k b)=jf↔a=b:=by simp
theorem zCu{v:List Int}(h:Exp x.zA v i)(hk:k<=i+1:=by omega)(hn:k<=x.zA.length:=by omega):v=fv k (v.drop k)/\V (suf x k) (v.drop k):=by
 have h1:=h.1.1;constructor
 ·apply Kx
  intro j;rw[fv,Kr];simp only[zeros,Jk,K4,Lx];split
  ·rename_i hj
   have h2:=h.2 j (by omega)
   grind
  grind
 ·refine zXM (x.zA.length-k) k _ (by omega) (by grind) fun j hj=>?_
  have:=h.1.2 (k+j) (by omega)
  grind
structure LC (x:SPr) (k:Nat):Prop where
 c1:∀j,k+1<=j->j<x.zA.length->pw (mul (suf x (k+1))) (zeros (suf x (k+1)).length) ((lvl x k).cs.getD (j-(k+1)) []) (at0 x.zA j).toNat=sig (suf x (k+1)) (lvl x k) ((x.zP.getD j []).drop (k+1))
 c2:∀i,k+1<=i->i<x.zA.length-> ∀j,i+1<=j->j<x.zA.length->
  mul (suf x (k+1)) ((lvl x k).cs.getD (j-(k+1)) []) ((lvl x k).cs.getD (i-(k+1)) [])=mul (suf x (k+1)) ((lvl x k).cs.getD (i-(k+1)) []) (sig (suf x (k+1)) (lvl x k) (((x.zF.getD i []).getD (j-(i+1)) []).drop (k+1)))
 c3:sig (suf x (k+1)) (lvl x k) (lvl x k).w=(lvl x k).w
 c4:∀j,k+1<=j->j<x.zA.length->mul (suf x (k+1)) (lvl x k).w (iter (lvl x k).o.toNat (sig (suf x (k+1)) (lvl x k)) (xG (x.zA.length-(k+1)) (j-(k+1))))=mul (suf x (k+1)) (xG (x.zA.length-(k+1)) (j-(k+1))) (lvl x k).w
section
variable {x:SPr} (h:Pres x) {k:Nat} (hk:k<x.zA.length) (hc:xC (suf x (k+1)))
 include h hk
theorem kA(h1:k+1<=j)(h2:j<x.zA.length):ixO x.zF (k:Int)=jd (x.zF.getD k [])/\ixO (x.zF.getD k []) ((j:Int)-(k:Int)-1)=jd (fv (k+1) ((lvl x k).cs.getD (j-(k+1)) []))/\V (suf x (k+1)) ((lvl x k).cs.getD (j-(k+1)) []):=by
 obtain⟨c,c1,c2,c3,c4⟩:=zEx h hk (i:=j-(k+1))
 grind
theorem zUs(h1:k+1<=j)(h2:j<x.zA.length):ixO x.zP (j:Int)=jd (fv (k+1) ((x.zP.getD j []).drop (k+1)))/\V (suf x (k+1)) ((x.zP.getD j []).drop (k+1)):=by
 have t1:=(h.tl j h2).1;have hl:=h.pl
 grind[zCu,yA]
theorem zUt(h1:k+1<=i)(h2:i+1<=j)(h3:j<x.zA.length):ixO x.zF (i:Int)=jd (x.zF.getD i [])/\ixO (x.zF.getD i []) ((j:Int)-(i:Int)-1)=jd (fv (k+1) (((x.zF.getD i []).getD (j-(i+1)) []).drop (k+1)))/\V (suf x (k+1)) (((x.zF.getD i []).getD (j-(i+1)) []).drop (k+1)):=by
 obtain⟨_,t2,t3⟩:=h.tl i (by omega)
 grind[zCu,yA]
theorem zXQ:ixO x.zP (k:Int)=jd (fv (k+1) (lvl x k).w)/\V (suf x (k+1)) (lvl x k).w:=by have t1:=(h.tl k hk).1;have hl:=h.pl;obtain⟨e1,e2⟩:=zCu (k:=k+1) t1;exact⟨by rw[yA []];exact congrArg jd e1,e2⟩
theorem zZF{v:Vec}(hv:V (suf x (k+1)) v):V (suf x (k+1)) (sig (suf x (k+1)) (lvl x k) v):=by
 have ok0:=h.okAt (k:=k) (by omega)
 grind[zY,zCo]
theorem zJw(h1:k+1<=j)(h2:j<x.zA.length):zIH (x.zA.length:Int) (j:Int)=jd (fv (k+1) (xG (x.zA.length-(k+1)) (j-(k+1)))):=by
 have h6:=h.os.1;unfold zIH;rw[yH,bs,vD,K4,if_pos h2,bs,J8]
 congr 1
 rw[fv,kY,<-Jg];have e1:zeros (k+1)++zeros (j-(k+1))=zeros j:=by grind[zeros,Jn]
 have e2:J1 x.zA.length (0:Int)=zeros j++0::zeros (x.zA.length-(j+1)):=by simp only[zeros];rw[<-Jv,Jn];grind
 grind[zBN]
theorem zRC(h1:k+1<=j)(h2:j<x.zA.length):zVK (x.zA.length:Int) (j:Int)=jd (fv (k+1) (xG (x.zA.length-(k+1)) (j-(k+1)))):=zJw h hk h1 h2
 include hc
theorem kZ{v:Vec}(hv:V (suf x (k+1)) v):f_K x k (fv (k+1) v)=jd (fv (k+1) (sig (suf x (k+1)) (lvl x k) v)):=by
 have h6:=h.os.1;have ok:=h.okAt (k:=k+1) (by omega);have ok0:=h.okAt (k:=k) (by omega);rw[zY hk]at ok0;obtain⟨fT,dl⟩:=zDG h.os (x.zA.length-(k+1)) (k+1) v (by omega) hv;have gy:(lvl x k).cs.length=x.zA.length-(k+1):=by rw[ok0.2.2.1,yB]
 have t2:=(h.tl k hk).2.1;have iS:=h.cl;have hA:∀i,V (suf x (k+1)) (img (mul (suf x (k+1))) ((lvl x k).cs.take i) (v.take i) (zeros (suf x (k+1)).length)):=fun i=>
  qD (yO ok) _ _ (fun c hc=>ok0.2.2.2.1 c (by grind)) (wC ok)
 unfold f_K;rw[zAK h (by omega) hv,yH,bs,yA [],bs,zMt h (k:=k+1) (by omega)];have:=zN (body:=zWc x k (fv (k+1) v) (x.zF.getD k [])) (r:=fv (k+1) (sig (suf x (k+1)) (lvl x k) v))
  (fun i=>(fv (k+1) (img (mul (suf x (k+1))) ((lvl x k).cs.take i) (v.take i) (zeros (suf x (k+1)).length)),(i:Int))) (x.zF.getD k []).length (fun i hi=>by
  have hr:=dl i (by omega);obtain⟨c,c1,c2,c3,c4⟩:=zEx h hk (i:=i);unfold zWc;simp only
  rw[yS hi,zH,c2,bs,zB,bs,zB,bs,show(k:Int)+1+(i:Int)=((k+1+i:Nat):Int)from by omega,fv,zMr,bs];rw[uV (S:=V (suf x (k+1))) (body:=zWb x (zeros (k+1)++c) (at0 v i)) (fun u=>fv (k+1) u) (fun u=>mul (suf x (k+1)) u c) (at0 v i) hr.1 (by grind[yO]) (fun u q hu hq=>by
   unfold zWb;simp only
   rw[ji hq,zH,zE0 h (by omega) hc hu c3,bs,zB,bs,cs]) (fun u hu=>by
   unfold zWb;simp) (hA i),bs,zB,bs,cs]
  rw[zBh _ _ _ _ (by omega) (by omega),c4]) (by
  unfold zWc;simp only
  rw[tQ,zJ,Jx (by omega),Jx (by omega)];rfl)
 simp only[Kc,img]at this
 grind
theorem zCv{a b:Vec}(ha:V (suf x (k+1)) a):IsB (zLm (fv (k+1) a) (fv (k+1) b)) (a=b):=by
 have _:=hc;have h6:=h.os.1
 grind[zH3,zAK,IsB.of_bool,yAX]
theorem zMw{c:Vec}(eL:V (suf x (k+1)) c){e:Int}(e0:0<=e)(e1:e<=1000):zNr x ((k+1:Nat):Int) (fv (k+1) c) e=jd (fv (k+1) (pw (mul (suf x (k+1))) (zeros (suf x (k+1)).length) c e.toNat)):=by
 have h6:=h.os.1;have ok:=h.okAt (k:=k+1) (by omega);have G:=zCt h (k:=k+1) (by omega) hc;have hA:=zEy h (k:=k+1) (by omega);have pwV:∀a,V (suf x (k+1)) (pw (mul (suf x (k+1))) (zeros (suf x (k+1)).length) c a):=fun a=>wS G.toMon eL a
 unfold zNr;rw[yH,bs,zMt h (k:=k+1) (by omega)];obtain⟨r,r1,r2⟩:=vX (body:=zJK x ((k+1:Nat):Int)) (Q:=fun r=>r=fv (k+1) (pw (mul (suf x (k+1))) (zeros (suf x (k+1)).length) c e.toNat))
  (fun s=> ∃(m a q:Nat),s=((m:Int),fv (k+1) (pw (mul (suf x (k+1))) (zeros (suf x (k+1)).length) c a),fv (k+1) (pw (mul (suf x (k+1))) (zeros (suf x (k+1)).length) c q))/\a+q*m=e.toNat/\m<=1000) (fun s=>s.1.toNat) (fun s ⟨m,a,q,hs,he,hm⟩=>by
   subst hs;unfold zJK;simp only
   by_cases dv:m=0
   ·grind
   ·left
    have hr:vA (m:Int) 2=jd ((m%2:Nat):Int):=by rfl
    have hq:vK (m:Int) 2=jd ((m/2:Nat):Int):=by
     unfold vK;rw[if_neg (by decide),Int.tdiv_eq_ediv_of_nonneg (by omega)]
     grind[zB]
    have pJ:=Lw m 2;have mA:mul (suf x (k+1)) (pw (mul (suf x (k+1))) (zeros (suf x (k+1)).length) c q) (pw (mul (suf x (k+1))) (zeros (suf x (k+1)).length) c q)=pw (mul (suf x (k+1))) (zeros (suf x (k+1)).length) c (q+q):=(zAJ G.toMon eL q q).symm;rw[ji,zH,hr,bs];rcases Nat.mod_two_eq_zero_or_one m with h2|h2
    ·rw[h2,show((((0:Nat):Int))==1)=jg from rfl,zJ,hA _ _ (pwV q) (pwV q),bs,hq,bs,mA]
     refine⟨_,rfl,⟨m/2,a,q+q,rfl,?_,by omega⟩,by omega⟩
     grind
    ·rw[h2,show((((1:Nat):Int))==1)=jf from rfl,zH,hA _ _ (pwV a) (pwV q),bs,hA _ _ (pwV q) (pwV q),bs,hq,bs,mA,<-zAJ G.toMon eL a q]
     refine⟨_,rfl,⟨m/2,a+q,q+q,rfl,?_,by omega⟩,by omega⟩
     grind) 1000000 (e,fv (k+1) (zeros (suf x (k+1)).length),fv (k+1) c) (by omega) ⟨e.toNat,0,1,by rw[zK2 G.toMon eL,show((e.toNat:Nat):Int)=e from by omega];rfl,by omega,by omega⟩
 grind
end
def yD9(o:Option xE)(P:Prop):Prop:=(o=jd (xE.mk 0 0 0 0)/\P)\/ ∃r,o=jd r/\r.Kind≠0/\ ¬P
theorem kb{b c d:Int}(h:a≠0):(xE.mk a b c d).Kind≠0:=h
abbrev KB(r:xE):Prop:=r.Kind≠0
theorem zBi{bad:xE}{g:Option (Int⊕(Unit⊕xE))}(h:IsB o P)(hi:i<9223372036854775807)(hbad:bad.Kind≠0)
  (hg:g=o.bind fun r=>cond (!r) (jd (.inr (.inr bad))) ((rng ((i:Int)+1)).bind fun v=>jd (.inl v))):(g=jd (.inl ((i+1:Nat):Int))/\P)\/(∃r,g=jd (.inr (.inr r))/\KB r/\ ¬P):=by
 rcases zB0 h hi hg with h|⟨h1,h2⟩
 all_goals grind
section
variable {x:SPr} (h:Pres x) {k:Nat} (hk:k<x.zA.length) (hc:xC (suf x (k+1)))
 include h hk hc
theorem zO0:yD9 (f_o x k) (LC x k):=by
 have h6:=h.os.1;have ok:=h.okAt (k:=k+1) (by omega);have G:=zCt h (k:=k+1) (by omega) hc;obtain⟨w1,w2⟩:=zXQ h hk;have p8:∀v,V (suf x (k+1)) v->V (suf x (k+1)) (sig (suf x (k+1)) (lvl x k) v):=by grind[zZF]
 unfold f_o;rw[zB,bs,cs];rcases zMv (body:=zWf x k) x.zA.length (k+1) (by omega) (fun j=>pw (mul (suf x (k+1))) (zeros (suf x (k+1)).length) ((lvl x k).cs.getD (j-(k+1)) []) (at0 x.zA j).toNat=sig (suf x (k+1)) (lvl x k) ((x.zP.getD j []).drop (k+1))) KB (fun j h1 h2 _=>by
   obtain⟨c1,c2,c3⟩:=kA h hk h1 h2;obtain⟨p1,p2⟩:=zUs h hk h1 h2;have eI:=(h.os.2 j h2).pos;refine zBi (zCv h hk hc (wS G.toMon c3 (at0 x.zA j).toNat)) (by omega) (bad:=xE.mk 1 k j 0) (kb (by decide)) ?_;unfold zWf;rw[yS h2,zH,c1,bs,zB,bs,zB,bs,c2,bs,yK h2,bs,zH2 h (by omega) hc c3 (by omega) (by omega),bs,p1,bs,kZ h hk hc p2,bs]) (by
   unfold zWf;simp)with⟨g1,g2⟩|⟨r,j,j1,j2,g1,g2,g3⟩
 rotate_left
 ·rw[g1,bs]
  exact .inr ⟨r,rfl,g2,fun q=>g3 (q.c1 j j1 j2)⟩
 rw[g1,bs];simp only
 rw[bs];rcases zMv (body:=zWh x k) x.zA.length (k+1) (by omega) (fun i=> ∀j,i+1<=j->j<x.zA.length->
   mul (suf x (k+1)) ((lvl x k).cs.getD (j-(k+1)) []) ((lvl x k).cs.getD (i-(k+1)) [])=mul (suf x (k+1)) ((lvl x k).cs.getD (i-(k+1)) []) (sig (suf x (k+1)) (lvl x k) (((x.zF.getD i []).getD (j-(i+1)) []).drop (k+1)))) KB (fun i h1 h2 _=>by
   obtain⟨c1,c2,c3⟩:=kA h hk h1 h2;unfold zWh;rw[yS h2,zH,zB,bs,cs];rcases zMv (body:=zWg x k i) x.zA.length (i+1) (by omega) (fun j=>mul (suf x (k+1)) ((lvl x k).cs.getD (j-(k+1)) []) ((lvl x k).cs.getD (i-(k+1)) [])=mul (suf x (k+1)) ((lvl x k).cs.getD (i-(k+1)) []) (sig (suf x (k+1)) (lvl x k) (((x.zF.getD i []).getD (j-(i+1)) []).drop (k+1)))) KB (fun j h3 h4 _=>by
     obtain⟨d1,d2,d3⟩:=kA h hk (j:=j) (by omega) h4;obtain⟨e1,e2,e3⟩:=zUt h hk h1 h3 h4;obtain⟨q,q1,q2,q3⟩:=qS h (by omega) hc d3 c3;refine zBi ((zCv h hk hc (b:=sig (suf x (k+1)) (lvl x k) (((x.zF.getD i []).getD (j-(i+1)) []).drop (k+1))) q1).iff (Q:=mul (suf x (k+1)) ((lvl x k).cs.getD (j-(k+1)) []) ((lvl x k).cs.getD (i-(k+1)) [])=mul (suf x (k+1)) ((lvl x k).cs.getD (i-(k+1)) []) (sig (suf x (k+1)) (lvl x k) (((x.zF.getD i []).getD (j-(i+1)) []).drop (k+1)))) ?_) (by omega) (bad:=xE.mk 2 k i j) (kb (by decide)) ?_
     ·exact⟨by grind,fun e=>G.cancel_l c3 q1 (p8 _ e3) (by rw[q2,e])⟩
     ·unfold zWg
      rw[yS h4,zH,d1,bs,zB,bs,zB,bs,d2,bs,bs,zB,bs,zB,bs,c2,bs,q3,bs,e1,bs,zB,bs,zB,bs,e2,bs,kZ h hk hc e3,bs]) (by
     unfold zWg;simp)with⟨g1,g2⟩|⟨r,j,j1,j2,g1,g2,g3⟩
   ·grind
   grind) (by
   unfold zWh;simp)with⟨k1,k2⟩|⟨r,j,j1,j2,k1,k2,k3⟩
 rotate_left
 ·rw[k1,bs]
  exact .inr ⟨r,rfl,k2,fun q=>k3 (q.c2 j j1 j2)⟩
 rw[k1,bs];simp only
 rw[w1,bs,kZ h hk hc w2,bs];rcases zCv h hk hc (b:=(lvl x k).w) (p8 _ w2)with⟨m1,m2⟩|⟨m1,m2⟩
 rotate_left
 ·rw[m1,bs,H5,zH]
  exact .inr ⟨_,rfl,kb (by decide),fun q=>m2 q.c3⟩
 rw[m1,bs,L5,zJ,bs];rcases zMv (body:=zWj x k (fv (k+1) (lvl x k).w)) x.zA.length (k+1) (by omega) (fun j=>mul (suf x (k+1)) (lvl x k).w (iter (lvl x k).o.toNat (sig (suf x (k+1)) (lvl x k)) (xG (x.zA.length-(k+1)) (j-(k+1))))=mul (suf x (k+1)) (xG (x.zA.length-(k+1)) (j-(k+1))) (lvl x k).w) KB (fun j h1 h2 _=>by
   have hU:=zOz h (k:=k+1) (by omega) hc (i:=j-(k+1)) (by omega);have eI:=(h.os.2 k hk).pos;obtain⟨q,q1,q2,q3⟩:=qS h (k:=k+1) (by omega) hc hU w2;have eh:V (suf x (k+1)) (iter (lvl x k).o.toNat (sig (suf x (k+1)) (lvl x k)) (xG (x.zA.length-(k+1)) (j-(k+1)))):=vV p8 _ hU;refine zBi ((zCv h hk hc (b:=q) eh).iff ⟨by grind,fun e=>G.cancel_l w2 eh q1 (by rw[e,q2])⟩) (by omega) (bad:=xE.mk 4 k j 0) (kb (by decide)) ?_;unfold zWj;rw[yS h2,zH,zJw h hk h1 h2,bs,yK hk,bs];rw[uV (S:=V (suf x (k+1))) (body:=zWi x k (at0 x.zA k)) (fun u=>fv (k+1) u) (sig (suf x (k+1)) (lvl x k)) (at0 x.zA k) (by omega) p8 (fun u i hu hi=>by
    unfold zWi;simp only
    rw[ji hi,zH,kZ h hk hc hu,bs,zB,bs,cs]) (fun u hu=>by
    unfold zWi;simp) hU,bs,bs,q3,bs]
   rfl) (by
   unfold zWj;simp)with⟨n1,n2⟩|⟨r,j,j1,j2,n1,n2,n3⟩
 ·rw[n1,bs]
  exact .inl ⟨rfl,⟨g2,k2,m2,n2⟩⟩
 ·rw[n1,bs]
  exact .inr ⟨r,rfl,n2,fun q=>n3 (q.c4 j j1 j2)⟩
theorem zO1:yD9 (f_p x k) (LC x k):=by
 have h6:=h.os.1;have ok:=h.okAt (k:=k+1) (by omega);have G:=zCt h (k:=k+1) (by omega) hc;obtain⟨w1,w2⟩:=zXQ h hk;have hA:=zEy h (k:=k+1) (by omega);have hI:=zOx h hk;have p8:∀v,V (suf x (k+1)) v->V (suf x (k+1)) (sig (suf x (k+1)) (lvl x k) v):=by grind[zZF]
 have eqB:∀{a b:Vec},V (suf x (k+1)) a->IsB (zSp (fv (k+1) a) (fv (k+1) b)) (a=b):=fun ha=>zCv h hk hc ha
 unfold f_p;rw[zB,bs,cs];rcases zMv (body:=zVL x k) x.zA.length (k+1) (by omega) (fun j=>pw (mul (suf x (k+1))) (zeros (suf x (k+1)).length) ((lvl x k).cs.getD (j-(k+1)) []) (at0 x.zA j).toNat=sig (suf x (k+1)) (lvl x k) ((x.zP.getD j []).drop (k+1))) KB (fun j h1 h2 _=>by
   obtain⟨c1,c2,c3⟩:=kA h hk h1 h2;obtain⟨p1,p2⟩:=zUs h hk h1 h2;have eI:=(h.os.2 j h2).pos;refine zBi (eqB (wS G.toMon c3 (at0 x.zA j).toNat)) (by omega) (bad:=xE.mk 1 k j 0) (kb (by decide)) ?_;unfold zVL;rw[yS h2,zH,zB,bs,cs,c1,bs,zB,bs,zB,bs,c2,bs,yK h2,bs,zMw h hk hc c3 (by omega) (by omega),bs,p1,bs,hI _ p2,bs]) (by
   unfold zVL;simp)with⟨g1,g2⟩|⟨r,j,j1,j2,g1,g2,g3⟩
 rotate_left
 ·rw[g1,bs]
  exact .inr ⟨r,rfl,g2,fun q=>g3 (q.c1 j j1 j2)⟩
 rw[g1,bs];simp only
 rw[bs];rcases zMv (body:=zVN x k) x.zA.length (k+1) (by omega) (fun i=> ∀j,i+1<=j->j<x.zA.length->
   mul (suf x (k+1)) ((lvl x k).cs.getD (j-(k+1)) []) ((lvl x k).cs.getD (i-(k+1)) [])=mul (suf x (k+1)) ((lvl x k).cs.getD (i-(k+1)) []) (sig (suf x (k+1)) (lvl x k) (((x.zF.getD i []).getD (j-(i+1)) []).drop (k+1)))) KB (fun i h1 h2 _=>by
   obtain⟨c1,c2,c3⟩:=kA h hk h1 h2;unfold zVN;rw[yS h2,zH,zB,bs,cs];rcases zMv (body:=zVM x k i) x.zA.length (i+1) (by omega) (fun j=>mul (suf x (k+1)) ((lvl x k).cs.getD (j-(k+1)) []) ((lvl x k).cs.getD (i-(k+1)) [])=mul (suf x (k+1)) ((lvl x k).cs.getD (i-(k+1)) []) (sig (suf x (k+1)) (lvl x k) (((x.zF.getD i []).getD (j-(i+1)) []).drop (k+1)))) KB (fun j h3 h4 _=>by
     obtain⟨d1,d2,d3⟩:=kA h hk (j:=j) (by omega) h4;obtain⟨e1,e2,e3⟩:=zUt h hk h1 h3 h4;refine zBi (eqB (yO ok d3 c3)) (by omega) (bad:=xE.mk 2 k i j) (kb (by decide)) ?_;unfold zVM;rw[yS h4,zH,d1,bs,zB,bs,zB,bs,c2,bs,bs,zB,bs,zB,bs,d2,bs,e1,bs,zB,bs,zB,bs,e2,bs,hI _ e3,bs,zB,bs,cs,hA _ _ d3 c3,bs,bs,hA _ _ c3 (p8 _ e3),bs]) (by
     unfold zVM;simp)with⟨g1,g2⟩|⟨r,j,j1,j2,g1,g2,g3⟩
   ·grind
   grind) (by
   unfold zVN;simp)with⟨k1,k2⟩|⟨r,j,j1,j2,k1,k2,k3⟩
 rotate_left
 ·rw[k1,bs]
  exact .inr ⟨r,rfl,k2,fun q=>k3 (q.c2 j j1 j2)⟩
 rw[k1,bs];simp only
 rw[w1,bs,hI _ w2,bs];rcases eqB (b:=(lvl x k).w) (p8 _ w2)with⟨m1,m2⟩|⟨m1,m2⟩
 rotate_left
 ·rw[m1,bs,H5,zH]
  exact .inr ⟨_,rfl,kb (by decide),fun q=>m2 q.c3⟩
 rw[m1,bs,L5,zJ,bs];rcases zMv (body:=zVP x k (fv (k+1) (lvl x k).w)) x.zA.length (k+1) (by omega) (fun j=>mul (suf x (k+1)) (lvl x k).w (iter (lvl x k).o.toNat (sig (suf x (k+1)) (lvl x k)) (xG (x.zA.length-(k+1)) (j-(k+1))))=mul (suf x (k+1)) (xG (x.zA.length-(k+1)) (j-(k+1))) (lvl x k).w) KB (fun j h1 h2 _=>by
   have hU:=zOz h (k:=k+1) (by omega) hc (i:=j-(k+1)) (by omega);have eI:=(h.os.2 k hk).pos;have eh:V (suf x (k+1)) (iter (lvl x k).o.toNat (sig (suf x (k+1)) (lvl x k)) (xG (x.zA.length-(k+1)) (j-(k+1)))):=vV p8 _ hU;refine zBi (eqB (yO ok w2 eh)) (by omega) (bad:=xE.mk 4 k j 0) (kb (by decide)) ?_;unfold zVP;rw[yS h2,zH,zRC h hk h1 h2,bs];rw[uV (S:=V (suf x (k+1))) (body:=zVO x k) (fun u=>fv (k+1) u) (sig (suf x (k+1)) (lvl x k)) (at0 x.zA k) (by omega) p8 (fun u i hu hi=>by
    unfold zVO;simp only
    rw[yK hk,bs,ji hi,zH,hI _ hu,bs,zB,bs,cs]) (fun u hu=>by
    unfold zVO;simp only
    rw[yK hk,bs,jh (by omega),zJ]) hU,bs,zB,bs,cs]
   have ho:(lvl x k).o=at0 x.zA k:=rfl;rw[<-ho,hA _ _ w2 eh,bs,bs,hA _ _ hU w2,bs]) (by
   unfold zVP;simp)with⟨n1,n2⟩|⟨r,j,j1,j2,n1,n2,n3⟩
 ·rw[n1,bs]
  exact .inl ⟨rfl,⟨g2,k2,m2,n2⟩⟩
 ·rw[n1,bs]
  exact .inr ⟨r,rfl,n2,fun q=>n3 (q.c4 j j1 j2)⟩
end
theorem zFw{m:Vec->Vec->Vec}:∀(i:Nat)(cs:List Vec)(w acc:Vec),i<=cs.length->img m cs (zeros i++w) acc=img m (cs.drop i) w acc
 |0,cs,w,acc,_=>rfl
 |i+1,[],w,acc,h=>by simp at h
 |i+1,c::cs,w,acc,h=>by show img m (c::cs) (0::(zeros i++w)) acc=_;simp only[img,Gu,iter,List.drop_succ_cons];exact zFw i cs w acc (by grind)
theorem zH4{v:List Int}(h:Exp x.zA v j)(hj:j<x.zA.length)(hk:k<=j+1:=by omega):v.drop k=zeros (j+1-k)++v.drop (j+1):=by
 have:=zAd h hj
 grind[zeros]
section
variable {x:SPr} (h:zDp x) {k:Nat} (hk:k<x.zA.length)
 include h hk
theorem zAe:(lvl x k).cs.length=x.zA.length-(k+1):=by have ok0:=h.okAt (k:=k) (by omega);rw[zY hk]at ok0;rw[ok0.2.2.1,yB]
theorem zXR(h1:k+1<=j)(h2:j<x.zA.length):sig (suf x (k+1)) (lvl x k) ((x.zP.getD j []).drop (k+1))=img (mul (suf x (k+1))) ((lvl x k).cs.drop (j-k)) (lvl x j).w (zeros (suf x (k+1)).length):=by have t1:=(h.tl j h2).1;have gy:=zAe h hk;rw[zH4 t1 h2,sig,zFw _ _ _ _ (by omega),show j+1-(k+1)=j-k from by omega];rfl
theorem zQ6:∀(d i:Nat),k+1+i+d=x.zA.length->(Rel (mul (suf x (k+1))) (zeros (suf x (k+1)).length) (suf x (k+1+i)) ((lvl x k).cs.drop i)↔
  (∀j,k+1+i<=j->j<x.zA.length->pw (mul (suf x (k+1))) (zeros (suf x (k+1)).length) ((lvl x k).cs.getD (j-(k+1)) []) (at0 x.zA j).toNat=sig (suf x (k+1)) (lvl x k) ((x.zP.getD j []).drop (k+1)))/\
  (∀a,k+1+i<=a->a<x.zA.length-> ∀j,a+1<=j->j<x.zA.length->
   mul (suf x (k+1)) ((lvl x k).cs.getD (j-(k+1)) []) ((lvl x k).cs.getD (a-(k+1)) [])=mul (suf x (k+1)) ((lvl x k).cs.getD (a-(k+1)) []) (sig (suf x (k+1)) (lvl x k) (((x.zF.getD a []).getD (j-(a+1)) []).drop (k+1)))))
 |0,i,hi=>by
  have gy:=zAe h hk;rw[vL (x:=x) (k:=k+1+i),Uo (by omega)];simp only[Rel,true_iff]
  grind
 |d+1,i,hi=>by
  have gy:=zAe h hk;have ih:=zQ6 d (i+1) (by omega);rw[show k+1+(i+1)=k+1+i+1 from by omega]at ih;have hj:k+1+i<x.zA.length:=by omega
  have hg:(lvl x k).cs.drop i=(lvl x k).cs.getD i []::(lvl x k).cs.drop (i+1):=by rw[Hq (by omega),J2,J3 (by omega)];rfl
  rw[zY hj,hg];simp only[Rel];rw[ih];have e1:=zXR h hk (j:=k+1+i) (by omega) hj;rw[show k+1+i-k=i+1 from by omega]at e1;have ho:(lvl x (k+1+i)).o=at0 x.zA (k+1+i):=rfl;rw[ho,<-e1];have e2:∀j,k+1+i+1<=j->j<x.zA.length-> ∀dd,(lvl x (k+1+i)).cs[j-(k+1+i+1)]? =jd dd->img (mul (suf x (k+1))) ((lvl x k).cs.drop (i+1)) dd (zeros (suf x (k+1)).length)=sig (suf x (k+1)) (lvl x k) (((x.zF.getD (k+1+i) []).getD (j-(k+1+i+1)) []).drop (k+1)):=fun j h1 h2 dd iP=>by
   obtain⟨_,t2,t3⟩:=h.tl (k+1+i) hj;have t:=t3 (j-(k+1+i+1)) (by omega);rw[zH4 t hj,sig,zFw _ _ _ _ (by omega),show k+1+i+1-(k+1)=i+1 from by omega]
   congr 1
   simp only[lvl,Jw,Kf]at iP
   grind
  have e3:∀j,k+1+i+1<=j->j<x.zA.length->((lvl x k).cs.drop (i+1))[j-(k+1+i+1)]? =jd ((lvl x k).cs.getD (j-(k+1)) [])/\ ∃dd,(lvl x (k+1+i)).cs[j-(k+1+i+1)]? =jd dd:=fun j h1 h2=>by
   have iS:=zAe h hj;refine⟨?_,?_⟩
   ·rw[Lx,show i+1+(j-(k+1+i+1))=j-(k+1)from by omega,J2,J3 (by omega)];rfl
   ·exact⟨_,J3 (by omega)⟩
  constructor
  ·rintro⟨a1,a2,a3,a4⟩
   refine⟨fun j h1 h2=>?_,fun a h1 h2 j h3 h4=>?_⟩
   ·rcases Jo (k+1+i) j with gC|hge
    ·grind
    ·obtain rfl:j=k+1+i:=by omega
     rw[show k+1+i-(k+1)=i from by omega];exact a1
   ·rcases Jo (k+1+i) a with gC|hge
    ·exact a4 a (by omega) h2 j h3 h4
    ·obtain rfl:a=k+1+i:=by omega
     obtain⟨f1,dd,f2⟩:=e3 j (by omega) h4;have:=a2 _ _ _ f1 f2;rw[e2 j (by omega) h4 dd f2]at this;rw[show k+1+i-(k+1)=i from by omega];exact this
  ·rintro⟨a1,a2⟩
   refine⟨?_,fun kk c dd h1 h2=>?_,by grind,by grind⟩
   ·have:=a1 (k+1+i) (by omega) hj
    rw[show k+1+i-(k+1)=i from by omega]at this;exact this
   ·have gC:kk<x.zA.length-(k+1+i+1):=by
     have:=(Jl.1 h1).1;rw[Kk]at this;omega
    have g:=a2 (k+1+i) (by omega) hj (k+1+i+1+kk) (by omega) (by omega);obtain⟨f1,_⟩:=e3 (k+1+i+1+kk) (by omega) (by omega);rw[show k+1+i+1+kk-(k+1+i+1)=kk from by omega]at f1 g;rw[h1]at f1;have f1:=Hm.inj f1;have g2:=e2 (k+1+i+1+kk) (by omega) (by omega) dd (by rw[show k+1+i+1+kk-(k+1+i+1)=kk from by omega];exact h2);rw[show k+1+i+1+kk-(k+1+i+1)=kk from by omega]at g2;rw[g2,f1];rw[show k+1+i-(k+1)=i from by omega]at g;exact g
theorem kD:xC (suf x k)↔xC (suf x (k+1))/\LC x k:=by
 have hr:=zQ6 h hk (x.zA.length-(k+1)) 0 (by omega);have hl:=yB x (k+1);rw[Uf,Um]at hr;rw[zY hk];simp only[xC];rw[hr];constructor
 ·rintro⟨a,⟨b1,b2⟩,c,d⟩
  refine⟨a,⟨b1,b2,c,fun j h1 h2=>?_⟩⟩
  grind
 ·rintro⟨a,b⟩
  refine⟨a,⟨b.c1,b.c2⟩,b.c3,fun j hj=>?_⟩;have:=b.c4 (k+1+j) (by omega) (by omega);rw[show k+1+j-(k+1)=j from by omega]at this
  rwa [hl]
end
theorem tM(h:xC (suf x 0))(k:Nat):xC (suf x k):=by
 have:=zCs h k
 grind
def uK(x:SPr):Prop:=Pres x/\xC (suf x 0)/\zA2 x
theorem zA3(hl:x.zA.length<=1048576):IsB (zWk x) (uK x):=by
 unfold zWk;rcases zDb hl with⟨h1,h2⟩|⟨h1,h2⟩
 ·have h6:=h2.os.1
  rw[h1,bs,zH];unfold yBP;obtain⟨r,r1,r2⟩:=wV (body:=zNt x) (Q:=fun r=> ∃s:Nat,r=(s:Int)/\xC (suf x s)/\(s=0\/ ¬xC (suf x (s-1)))) (fun i s=>i<=x.zA.length/\s=((x.zA.length-i:Nat):Int)/\xC (suf x (x.zA.length-i))) x.zA.length (fun i s hi ⟨_,hs,gY⟩=>by
    subst hs;have hk:x.zA.length-i-1<x.zA.length:=by omega
    have e9:x.zA.length-(i+1)=x.zA.length-i-1:=by omega
    rw[e9];have e8:i+1<=x.zA.length:=by omega
    rw[show x.zA.length-i=x.zA.length-i-1+1 from by omega]at gY ⊢
    have bg:=zO0 h2.toPres hk gY;have mc:=kD h2.toPres.w hk
    generalize x.zA.length-i-1=k at*
    unfold zNt;rw[ji,zH,zB,bs,show(((k+1:Nat):Int)-1)=(k:Int)from by omega];rcases bg with⟨g1,g2⟩|⟨r,g1,g2,g3⟩
    ·simp_all
    grind) (fun s ⟨_,hs,gY⟩=>by
    rw[Kn]at hs gY;subst hs;unfold zNt
    grind) (s:=(x.zA.length:Int)) ⟨by omega,by rfl,by rw[Nat.sub_zero,vL];simp only[xC]⟩
  obtain⟨s,rfl,gY,hs⟩:=r2;rw[r1,bs,bs];cases s with
  |zero=>exact .inl ⟨rfl,h2.toPres,gY,h2⟩
  |succ s=>
   refine .inr ⟨?_,fun q=>?_⟩
   ·congr 1
   ·rcases hs with hs|hs
    ·omega
    ·exact hs (tM q.2.1 _)
 ·rw[h1,bs,zJ]
  exact .inr ⟨rfl,fun q=>h2 q.2.2⟩
theorem zH5(hl:x.zA.length<=1048576):IsB (zVQ x) (uK x):=by
 unfold zVQ;rcases zDc hl with⟨h1,h2⟩|⟨h1,h2⟩
 ·have h6:=h2.os.1
  rw[h1,bs,zH];unfold yBK yBJ;rw[zB,bs];obtain⟨r,r1,r2⟩:=wV (body:=zNs x) (Q:=fun r=>(r=.inl ()/\xC (suf x 0))\/ ∃f,r=.inr f/\f.Kind≠0/\ ¬xC (suf x 0)) (fun i s=>i<=x.zA.length/\s=((x.zA.length-i:Nat):Int)-1/\xC (suf x (x.zA.length-i))) x.zA.length (fun i s hi ⟨_,hs,gY⟩=>by
    subst hs;have hk:x.zA.length-i-1<x.zA.length:=by omega
    have e9:x.zA.length-(i+1)=x.zA.length-i-1:=by omega
    rw[e9];have e8:i+1<=x.zA.length:=by omega
    rw[show x.zA.length-i=x.zA.length-i-1+1 from by omega]at gY ⊢
    have bg:=zO1 h2.toPres hk gY;have mc:=kD h2.toPres.w hk
    generalize x.zA.length-i-1=k at*
    unfold zNs;rw[show(((k+1:Nat):Int)-1)=(k:Int)from by omega,ji,zH];rcases bg with⟨g1,g2⟩|⟨r,g1,g2,g3⟩
    ·left
     rw[g1,bs];simp only
     rw[show((0:Int) != 0)=jg from rfl,zJ,zB,bs]
     grind
    ·right
     rw[g1,bs,show(r.Kind != 0)=jf from by grind,zH];exact⟨_,rfl,.inr ⟨r,rfl,g2,by grind[tM]⟩⟩) (fun s ⟨_,hs,gY⟩=>by
    rw[Kn]at hs gY;subst hs;unfold zNs
    grind) (s:=(x.zA.length:Int)-1) ⟨by omega,by rfl,by rw[Nat.sub_zero,vL];simp only[xC]⟩
  rw[r1,bs];rcases r2 with⟨rfl,q⟩|⟨f,rfl,g1,g2⟩
  ·exact .inl ⟨rfl,h2.toPres,q,h2⟩
  ·simp only
   rw[bs,show(f.Kind==0)=jg from by grind];exact .inr ⟨rfl,fun q=>g2 q.2.1⟩
 ·rw[h1,bs,zJ]
  exact .inr ⟨rfl,fun q=>h2 q.2.2⟩
abbrev Mx:=List (List Int)
variable {A R':Mx}
def S:Nat->(Nat->Int)->Int
 |0,_=>0
 |n+1,f=>S n f+f n
theorem xT{n:Nat}{g:Nat->Int}(h:∀i,i<n->f i=g i):S n f=S n g:=by
 induction n with
 |zero=>rfl
 |succ n ih=>grind[S]
theorem kE{p:Int}{f g:Nat->Int}:∀{n:Nat},(∀i,i<n->f i%p=g i%p)->S n f%p=S n g%p
 |0,_=>rfl
 |n+1,h=>by simp only[S];rw[Ka,kE (n:=n) fun i hi=>h i (by omega),h n (by omega),<-Ka]
theorem sW:∀n:Nat,S n (fun _=>0)=0
 |0=>rfl
 |n+1=>by simp only[S,sW n];rfl
theorem zCw{f g:Nat->Int}:∀n:Nat,S n (fun i=>f i+g i)=S n f+S n g
 |0=>rfl
 |n+1=>by simp only[S,zCw n];omega
theorem zMx{f:Nat->Int}(a:Int):∀n:Nat,S n (fun i=>f i*a)=S n f*a
 |0=>by simp[S]
 |n+1=>by simp only[S,zMx a n,Jbp]
theorem zCx{f:Nat->Int}(a:Int):∀n:Nat,S n (fun i=>a*f i)=a*S n f
 |0=>by simp[S]
 |n+1=>by simp only[S,zCx a n,Jak]
theorem zH6{f:Nat->Nat->Int}(m:Nat):∀n:Nat,S n (fun i=>S m (fun j=>f i j))=S m (fun j=>S n (fun i=>f i j))
 |0=>by simp only[S];grind[sW]
 |n+1=>by simp only[S];rw[zH6 m n,zCw]
theorem kF{f:Nat->Int}{k:Nat}:∀{n:Nat},k<n->(∀i,i<n->i≠k->f i=0)->S n f=f k
 |0,h,_=>by omega
 |n+1,h,hz=>by
  simp only[S]
  by_cases hk:k=n
  ·subst hk
   rw[xT (g:=fun _=>0) fun i hi=>hz i (by omega) (by omega),sW];omega
  ·rw[kF (n:=n) (by omega) fun i hi=>hz i (by omega),hz n (by omega) (by omega)];omega
def mkv(D:Nat)(f:Nat->Int):List Int:=(Jd D).map f
theorem zU(D:Nat)(f:Nat->Int):(mkv D f).length=D:=by simp[mkv]
theorem zCP(h:i<D):(mkv D f)[i]? =jd (f i):=by simp[mkv,h]
theorem zW(h:i<D:=by omega):at0 (mkv D f) i=f i:=by rw[at0,J2,zCP h];rfl
theorem zX{g:Nat->Int}(h:∀i,i<D->f i=g i):mkv D f=mkv D g:=by grind[mkv,Uu]
theorem sO:(mkv D f).set j a=mkv D (fun i=>if i=j then a else f i):=by
 apply Kx;intro i;rw[Jan,zU]
 by_cases hi:i<D
 ·by_cases gI:j=i
  ·subst gI;rw[if_pos rfl,if_pos hi,zCP hi,if_pos rfl]
  ·rw[if_neg gI,zCP hi,zCP hi,if_neg fun h=>gI h.symm]
 ·have h1:∀g:Nat->Int,(mkv D g)[i]? =je:=by grind[zU]
  grind
theorem vE{v:List Int}(h:v.length=D):v=mkv D (at0 v):=by
 apply Kx;intro i
 by_cases hi:i<D
 ·rw[zCP hi,at0,J2,J3 (by omega)];rfl
 grind[zU]
theorem uB(D:Nat):J1 D (0:Int)=mkv D (fun _=>0):=by
 apply Kx
 grind[zCP,zU]
abbrev ent(B:Mx)(l j:Nat):Int:=at0 (B.getD l []) j
def xK(p:Int)(D:Nat)(r:List Int)(B:Mx):List Int:=mkv D fun j=>S D (fun l=>at0 r l*ent B l j)%p
def PM(p:Int)(D:Nat)(A B:Mx):Mx:=A.map fun r=>xK p D r B
def idM(D:Nat):Mx:=(Jd D).map fun i=>mkv D fun j=>if j=i then 1 else 0
def Row(p:Int)(D:Nat)(r:List Int):Prop:=r.length=D/\ ∀i,i<D->0<=at0 r i/\at0 r i<=p-1
def Mat(p:Int)(D:Nat)(A:Mx):Prop:=A.length=D/\ ∀i,i<D->Row p D (A.getD i [])
theorem zB1{p:Int}{B:Mx}(h:i<A.length:=by omega):(PM p D A B).getD i []=xK p D (A.getD i []) B:=by grind[PM]
theorem tN{p:Int}{B:Mx}:(PM p D A B).length=A.length:=by simp[PM]
theorem zH7{p:Int}{B:Mx}(hp:0<p)(hA:A.length=D):Mat p D (PM p D A B):=by refine⟨by rw[tN,hA],fun i hi=>?_⟩;rw[zB1];refine⟨by rw[xK,zU],fun j hj=>?_⟩;rw[xK,zW hj];have h1:=Kj (S D fun l=>at0 (A.getD i []) l*ent B l j) (show p≠0 by omega);have h2:=Kg (S D fun l=>at0 (A.getD i []) l*ent B l j) hp;omega
theorem zO2{p:Int}{B:Mx}(hA:A.length=D)(hi:i<D)(hj:j<D):ent (PM p D A B) i j=S D (fun l=>ent A i l*ent B l j)%p:=by rw[ent,zB1,xK,zW hj]
theorem zH8{B:Mx}(hA:A.length=D)(hB:B.length=D)(h:∀i,i<D->A.getD i []=B.getD i []):A=B:=by
 apply Kx
 grind
theorem zMy{p:Int}{B C:Mx}(hA:A.length=D)(hB:B.length=D):PM p D (PM p D A B) C=PM p D A (PM p D B C):=by
 refine zH8 (by rw[tN,tN,hA]) (by rw[tN,hA]) fun i hi=>?_
 rw[zB1 (A:=PM p D A B) (by rw[tN];omega),zB1 (A:=A) (B:=PM p D B C)];unfold xK;refine zX fun j hj=>?_
 have e1:S D (fun l=>at0 ((PM p D A B).getD i []) l*ent C l j)%p=S D (fun l=>S D (fun q=>ent A i q*ent B q l)*ent C l j)%p:=kE fun l hl=>by
  have:=zO2 (p:=p) (B:=B) hA hi hl;simp only[ent]at this ⊢
  rw[this,Jy,K3,<-Jy]
 have e2:S D (fun l=>at0 (A.getD i []) l*ent (PM p D B C) l j)%p=S D (fun q=>ent A i q*S D (fun l=>ent B q l*ent C l j))%p:=kE fun q hq=>by rw[zO2 hB hq hj,Jy,K3,<-Jy]
 rw[e1,e2]
 congr 1
 have e3:(fun l=>S D (fun q=>ent A i q*ent B q l)*ent C l j)=fun l=>S D (fun q=>ent A i q*ent B q l*ent C l j):=funext fun l=>(zMx _ _).symm
 have e4:(fun q=>ent A i q*S D (fun l=>ent B q l*ent C l j))=fun q=>S D (fun l=>ent A i q*ent B q l*ent C l j):=funext fun q=>by rw[<-zCx];exact xT fun l _=>by rw[U2]
 rw[e3,e4];exact zH6 D D
theorem sH(D:Nat):(idM D).length=D:=by simp[idM]
theorem zA4(h:i<D):(idM D).getD i []=mkv D fun j=>if j=i then 1 else 0:=by simp[idM,J2,h]
theorem tJ{p:Int}(hp:2<=p:=by omega):Mat p D (idM D):=by
 refine⟨sH D,fun i hi=>?_⟩;rw[zA4 hi];refine⟨zU _ _,fun j hj=>?_⟩
 grind[zW]
theorem tO{p a:Int}(h:0<=a/\a<=p-1):a%p=a:=Jp h.1 (by omega)
theorem zCQ{p:Int}{B:Mx}(hB:Mat p D B):PM p D (idM D) B=B:=by
 refine zH8 (by rw[tN,sH]) hB.1 fun i hi=>?_
 rw[zB1 (by grind[sH]),zA4 hi,xK];obtain⟨h1,h2⟩:=hB.2 i hi;refine Eq.trans (zX fun j hj=>?_) (vE h1).symm;rw[kF (k:=i) hi fun l hl gc=>by rw[zW hl,if_neg gc,qa9],zW hi,if_pos rfl,Gs]
 exact tO (h2 j hj)
theorem zCy{p:Int}(hA:Mat p D A):PM p D A (idM D)=A:=by
 refine zH8 (by rw[tN,hA.1]) hA.1 fun i hi=>?_
 rw[zB1 (by rw[hA.1];exact hi),xK];obtain⟨h1,h2⟩:=hA.2 i hi;refine Eq.trans (zX fun j hj=>?_) (vE h1).symm;rw[kF (k:=j) hj fun l hl gc=>by rw[ent,zA4 hl,zW hj,if_neg (fun h=>gc h.symm),Ln],ent,zA4 hj,zW hj,if_pos rfl,L6]
 exact tO (h2 j hj)
theorem zUu{p:Int}{B:Mx}(hB:Mat p D B)(hi:i<D)(hj:j<D):ixO B (i:Int)=jd (B.getD i [])/\ixO (B.getD i []) (j:Int)=jd (ent B i j)/\(B.getD i []).length=D/\0<=ent B i j/\ent B i j<=p-1:=by
 obtain⟨h1,h2⟩:=hB.2 i hi
 grind[yA]
def acc(p:Int)(D i:Nat)(r:List Int)(B:Mx):List Int:=mkv D fun j=>S i (fun l=>at0 r l*ent B l j)%p
def zDd(p:Int)(D i k:Nat)(r:List Int)(B:Mx):List Int:=mkv D fun j=>if j<k then S (i+1) (fun l=>at0 r l*ent B l j)%p else S i (fun l=>at0 r l*ent B l j)%p
theorem zJx{p:Int}{B:Mx}:zDd p D i 0 r B=acc p D i r B:=rfl
theorem zJy{p:Int}{B:Mx}:zDd p D i D r B=acc p D (i+1) r B:=zX (by omega)
theorem zMz{p:Int}{B:Mx}(hk:k<D)(ha:a=(at0 (zDd p D i k r B) k+at0 r i*ent B i k)%p):(zDd p D i k r B).set k a=zDd p D i (k+1) r B:=by
 subst ha;simp only[zDd];rw[sO,zW hk,if_neg (by omega)];refine zX fun j hj=>?_
 by_cases hjk:j=k
 ·subst hjk
  rw[if_pos rfl,if_pos (by omega)]
  grind[S,G4]
 omega
theorem zM0{p:Int}{B:Mx}(hp:0<p)(hj:j<D):0<=at0 (zDd p D i k r B) j/\at0 (zDd p D i k r B) j<=p-1:=by
 rw[zDd,zW hj];split
 ·have h1:=Kj (S (i+1) fun l=>at0 r l*ent B l j) (show p≠0 by omega)
  have h2:=Kg (S (i+1) fun l=>at0 r l*ent B l j) hp;omega
 ·have h1:=Kj (S i fun l=>at0 r l*ent B l j) (show p≠0 by omega)
  have h2:=Kg (S i fun l=>at0 r l*ent B l j) hp;omega
theorem zH9{p:Int}{B:Mx}:(zDd p D i k r B).length=D:=zU _ _
theorem zQ7{p:Int}{B:Mx}(hj:j<D):ixO (zDd p D i k r B) (j:Int)=jd (at0 (zDd p D i k r B) j):=by grind[yK,zH9]
theorem zM1{p:Int}{B:Mx}:J1 D (0:Int)=acc p D 0 r B:=by rw[uB];rfl
theorem zJz{b p:Int}(hp:p<=7)(ha:0<=a/\a<=p-1)(hb:0<=b/\b<=p-1):0<=a*b/\a*b<=36:=by have h1:0<=a*b:=Ul ha.1 hb.1;have h2:a*b<=6*6:=Lq (by omega) (by omega) hb.1 (by omega);omega
section
variable {p:Int}{D:Nat} (hp:Prime p) (hD:D<=8)
 include hp hD
theorem zDH{B:Mx}(hr:Row p D r)(hB:Mat p D B):f_R p r B (D:Int)=jd (xK p D r B):=by
 have h7:=hp.pos;have pm:=hB.1;have cz:=hr.1;unfold f_R;rw[yH,bs,zM1 (p:=p) (r:=r) (B:=B)];have:=zN (body:=zVS p r B) (r:=acc p D D r B) (fun i=>(acc p D i r B,(i:Int))) D (fun i hi=>by
  have bX:=hr.2 i hi;unfold zVS;simp only
  rw[cz,pm,yS hi,zH,zH];have inner:=zN (body:=zVR p r B (acc p D i r B,(i:Int))) (r:=acc p D (i+1) r B) (fun k=>(zDd p D i k r B,(k:Int))) D (fun k hk=>by
   obtain⟨b1,b2,b3,b4⟩:=zUu hB hi hk;have ha:=zM0 (p:=p) (i:=i) (k:=k) (r:=r) (B:=B) (by omega) hk;have hm:=zJz (by omega) bX b4;unfold zVR;simp only
   rw[zH9,yS hk,zH,b1,bs,b3,yS hk,zH,zQ7 hk,bs,yK,bs,bs,b2,bs,zB,bs,zB,bs];have u8:vA (at0 (zDd p D i k r B) k+at0 r i*ent B i k) p=jd ((at0 (zDd p D i k r B) k+at0 r i*ent B i k)%p):=by
    unfold vA
    grind
   rw[u8,bs,bs,zB,bs,cs,J8,zMz hk rfl]) (by
   unfold zVR;simp only
   rw[zH9,tQ,zJ,zJy])
  rw[zJx,show((0:Nat):Int)=0 from rfl]at inner
  grind[zB]) (by
  unfold zVS
  grind)
 rw[show((0:Nat):Int)=0 from rfl]at this;rw[this,bs];rfl
theorem zK6(h0:0<=a)(_h1:a<=1000):zLp a p=jd (a%p):=by have _:=hD;have h7:=hp.pos;have e1:=Kj a (show p≠0 by omega);have e2:=Kg a (show 0<p by omega);unfold zLp vA;rw[if_neg (by omega),bs,Hg h0,zB,bs,if_neg (by omega),bs,Hg (by omega)];simp
theorem zFx{B:Mx}(hi:i<D)(hr:Row p D r)(hB:Mat p D B):f_z (acc p D i r B) (B.getD i []) (at0 r i) p=jd (acc p D (i+1) r B):=by
 have h7:=hp.pos;have bX:=hr.2 i hi;unfold f_z;have hl:(acc p D i r B).length=D:=zU _ _;have inner:=zN (body:=zNu (acc p D i r B) (B.getD i []) (at0 r i) p) (r:=acc p D (i+1) r B) (fun k=>(zDd p D i k r B,(k:Int))) D (fun k hk=>by
  obtain⟨b1,b2,b3,b4⟩:=zUu hB hi hk;have ha:=zM0 (p:=p) (i:=i) (k:=k) (r:=r) (B:=B) (by omega) hk;have hm:=zJz (by omega) bX b4;unfold zNu;simp only
  rw[hl,yS hk,zH,zQ7 hk,bs,b2,bs,zB,bs,zB,bs,zK6 hp hD (by omega) (by omega),bs,bs,zB,bs,cs,J8,zMz hk rfl]) (by
  unfold zNu;simp only
  rw[hl,tQ,zJ,zJy])
 rw[zJx,show((0:Nat):Int)=0 from rfl]at inner
 grind
theorem zBj{B:Mx}(hr:Row p D r)(hB:Mat p D B)(hq:q=(D:Int)):zWs r (zS.mk p q B)=jd (xK p D r B):=by
 subst hq;have cz:=hr.1;unfold zWs;simp only
 rw[yH,bs,zM1 (p:=p) (r:=r) (B:=B)];have:=zN (body:=zNv r (zS.mk p (D:Int) B)) (r:=acc p D D r B) (fun i=>(acc p D i r B,(i:Int))) D (fun i hi=>by
  have pm:=hB.1;unfold zNv;simp only
  rw[cz,yS hi,zH,yK,bs,yA [],bs,zFx hp hD hi hr hB,bs,zB,bs,cs]) (by
  unfold zNv
  grind)
 rw[show((0:Nat):Int)=0 from rfl]at this;rw[this,bs];rfl
theorem zRD{B:Mx}(hi:i<A.length):(PM p D A B).take i++[xK p D (A.getD i []) B]=(PM p D A B).take (i+1):=by
 have _:=hp;have _:=hD;rw[K5 (by grind[tN])]
 congr 2
 have:=zB1 (p:=p) (D:=D) (B:=B) hi
 grind
theorem zI6{B:Mx}(hA:Mat p D A)(hB:Mat p D B):zY4 (zS.mk p q A) (zS.mk p (D:Int) B)=jd (zS.mk p (D:Int) (PM p D A B)):=by
 have bI:=hA.1;unfold zY4;have:=zN (body:=zNw (zS.mk p q A) (zS.mk p (D:Int) B)) (r:=PM p D A B) (fun i=>((PM p D A B).take i,(i:Int))) D (fun i hi=>by
  unfold zNw;simp only
  rw[bI,yS hi,zH,yA [],bs,zBj hp hD (hA.2 i hi) hB rfl,bs,zV (by rw[Kd,tN];simp;omega),bs,zB,bs,cs,zRD hp hD (by omega)]) (by
  unfold zNw;simp only
  rw[bI,tQ,zJ,Jx (by grind[tN])])
 grind
theorem zM2(_hi:i<D):(J1 D (0:Int)).set i 1=mkv D fun j=>if j=i then 1 else 0:=by have _:=hp;have _:=hD;rw[uB,sO]
theorem zQ8(hi:i<D):(idM D).take i++[mkv D fun j=>if j=i then 1 else 0]=(idM D).take (i+1):=by
 have _:=hp;have _:=hD;rw[K5 (by grind[sH])]
 congr 2
 have:=zA4 hi
 grind
theorem zO3:f_v (D:Int)=jd (idM D):=by
 unfold f_v;have:=zN (body:=zEX (D:Int)) (r:=idM D) (fun i=>((idM D).take i,(i:Int))) D (fun i hi=>by
  unfold zEX;simp only
  rw[yS hi,zH,yH,bs,vD,K4,if_pos hi,bs,J8,zM2 hp hD hi,zV (by grind),bs,zB,bs,cs,zQ8 hp hD hi]) (by
  unfold zEX;simp only
  rw[tQ,zJ,Jx (by grind[sH])])
 grind
theorem zAL:f_O p (D:Int)=jd (zS.mk p (D:Int) (idM D)):=by
 unfold f_O;have:=zN (body:=zLo (D:Int)) (r:=idM D) (fun i=>((idM D).take i,(i:Int))) D (fun i hi=>by
  unfold zLo;simp only
  rw[yS hi,zH,yH,bs,vD,K4,if_pos hi,bs,J8,zM2 hp hD hi,zV (by grind),bs,zB,bs,cs,zQ8 hp hD hi]) (by
  unfold zLo;simp only
  rw[tQ,zJ,Jx (by grind[sH])])
 grind
end
def nw:Nat->List Int->List Nat
 |_,[]=>[]
 |o,a::v=>J1 a.toNat o++nw (o+1) v
theorem zCR:∀(o:Nat)(u v:List Int),nw o (u++v)=nw o u++nw (o+u.length) v
 |o,[],v=>by simp[nw]
 |o,a::u,v=>by
  simp only[K9,nw,zCR (o+1) u v,Jg,J7]
  grind
theorem zQ9{v:List Int}(h:i<v.length):nw 0 (v.take (i+1))=nw 0 (v.take i)++J1 (at0 v i).toNat i:=by
 rw[K5 h,zCR,Kd,Nat.min_eq_left (by omega),Ji];simp only[nw,Jh]
 grind
theorem zM3{n:Nat}:∀(o:Nat)(v:List Int),o+v.length<=n-> ∀w∈nw o v,w<n
 |o,[],_,w,h=>by grind[nw]
 |o,a::v,hv,w,h=>by
  simp only[nw,Ja,J7]at h hv;rcases h with h|h
  ·grind
  ·exact zM3 (o+1) v (by omega) w h
theorem zFy:∀(o:Nat)(v:List Int),(∀i,i<v.length->at0 v i<=6)->(nw o v).length<=6*v.length
 |o,[],_=>by simp[nw]
 |o,a::v,h=>by
  have h0:=h 0 (by simp);have:=zFy (o+1) v fun i hi=>by
   have:=h (i+1) (by grind)
   grind
  simp only[at0,Gp]at h0
  grind[nw]
def wM(p:Int)(D:Nat)(A:List Mx)(ws:List Nat)(B:Mx):Mx:=ws.foldl (fun B w=>PM p D B (A.getD w [])) B
theorem zFz{p:Int}{A:List Mx}{u v:List Nat}{B:Mx}:wM p D A (u++v) B=wM p D A v (wM p D A u B):=by simp[wM,Gv]
theorem zO4{p:Int}{D:Nat}{A:List Mx}{w:Nat}:∀(k:Nat)(B:Mx),wM p D A (J1 k w) B=iter k (fun B=>PM p D B (A.getD w [])) B
 |0,_=>rfl
 |k+1,B=>by rw[Jv];show wM p D A (J1 k w) (PM p D B (A.getD w []))=_;rw[zO4 k];rfl
theorem zHA{p:Int}{D:Nat}{A:List Mx}(hp:0<p):∀(ws:List Nat){B:Mx},Mat p D B->Mat p D (wM p D A ws B)
 | [],_,hB=>hB
 |_w::ws,_,hB=>zHA hp ws (zH7 hp hB.1)
theorem zK7{p:Int}{D:Nat}{A:List Mx}(hp:0<p){C:Mx}(hC:C.length=D):∀(ws:List Nat){B:Mx},Mat p D B->wM p D A ws (PM p D C B)=PM p D C (wM p D A ws B)
 | [],_,_=>rfl
 |w::ws,B,hB=>by show wM p D A ws (PM p D (PM p D C B) (A.getD w []))=PM p D C (wM p D A ws (PM p D B (A.getD w [])));rw[zMy hC hB.1,zK7 hp hC ws (zH7 hp hB.1)]
structure MOk (n:Nat) (m:zE) (D:Nat):Prop where
 p:Prime m.Prime
 d:m.Dim=(D:Int)
 d1:1<=D
 d3:D<=3
 len:m.zL.length=n
 mat:∀i,i<n->Mat m.Prime D (m.zL.getD i [])
structure yAY (n:Nat) (m:zE) (D:Nat):Prop where
 p:Prime m.Prime
 d:m.Dim=(D:Int)
 d3:D<=30
 len:m.zL.length=n
 mat:∀i,i<n->Mat m.Prime D (m.zL.getD i [])
structure zUv (n:Nat) (m:zE) (D:Nat):Prop where
 p:Prime m.Prime
 d3:D<=200
 len:m.zL.length=n
 mat:∀i,i<n->Mat m.Prime D (m.zL.getD i [])
theorem MOk.b{n:Nat}{m:zE}(h:MOk n m D):zUv n m D:=⟨h.p,by have:=h.d3;omega,h.len,h.mat⟩
section
variable {n D:Nat}{m:zE} (hm:MOk n m D) (hn:n<=14)
 include hm hn
abbrev enW(ws:List Nat):List Int:=ws.map fun(w:Nat)=>(w:Int)+1
theorem zDr(hi:i<n):zWl m (i:Int)=jd (zS.mk m.Prime (D:Int) (m.zL.getD i [])):=by have _:=hn;have gf:=hm.len;unfold zWl;rw[yA [],bs,hm.d]
theorem zI7{ws:List Nat}(hw:∀w∈ws,w<n)(hl:ws.length<=1000000):zP0 m (enW ws)=jd (zS.mk m.Prime (D:Int) (wM m.Prime D m.zL ws (idM D))):=by
 have h7:=hm.p.pos;have h3:=hm.d3;unfold zP0;rw[hm.d,zAL hm.p (by omega),bs];have hI:∀i,Mat m.Prime D (wM m.Prime D m.zL (ws.take i) (idM D)):=by grind[zHA,tJ]
 have dx:(enW ws).length=ws.length:=by simp
 have:=zN (body:=zNx m (enW ws)) (r:=(m.Prime,(D:Int),wM m.Prime D m.zL ws (idM D))) (fun i=>(m.Prime,(D:Int),wM m.Prime D m.zL (ws.take i) (idM D),(i:Int))) ws.length (fun i hi=>by
  have mS:=hw ws[i] (Js hi);unfold zNx;simp only
  rw[dx,yS hi,zH,vD,Jw,J3 hi];simp only[He];rw[bs,zB,bs,show((ws[i]:Nat):Int)+1-1=((ws[i]:Nat):Int)from by omega,zDr hm hn mS,bs,zI6 hm.p (by omega) (hI i) (hm.mat _ mS),bs,zB,bs,cs,K5 hi,zFz];rfl) (by
  unfold zNx;simp)
 rw[show((0:Nat):Int)=0 from rfl,Kc]at this
 grind[wM]
end
theorem kN{v:List Int}(hl:v.length<=14)(hv:∀i,i<v.length->0<=at0 v i/\at0 v i<=6):f_C v=jd (enW (nw 0 v)):=by
 unfold f_C;have gf:∀i,(nw 0 (v.take i)).length<=84:=fun i=>by
  have:=zFy 0 (v.take i) (by grind)
  grind
 have:=zN (body:=zWo v) (r:=enW (nw 0 v)) (fun i=>(enW (nw 0 (v.take i)),(i:Int))) v.length (fun i hi=>by
  have hvi:=hv i hi;have hli:=gf i;unfold zWo;simp only
  rw[yS hi,zH,yK hi,bs];have inner:=zN (body:=zWn (enW (nw 0 (v.take i)),(i:Int)) (at0 v i)) (r:=enW (nw 0 (v.take (i+1)))) (fun k=>(enW (nw 0 (v.take i)++J1 k i),(k:Int))) (at0 v i).toNat (fun k hk=>by
   unfold zWn;simp only
   rw[ji,zH,zB,bs,zV (by grind),bs,zB,bs,cs]
   congr 3
   rw[Lv,<-Jg];simp) (by
   unfold zWn;simp only
   rw[jh (by omega),zJ,zQ9 hi])
  rw[show((0:Nat):Int)=0 from rfl,Lz,Jh]at inner
  grind[zB]) (by
  unfold zWo;simp)
 rw[show((0:Nat):Int)=0 from rfl,Kc]at this;simp only[nw,enW,La]at this
 grind
theorem zM4{v o:Int}(h:zWm 1 (IntKind.wrap .u64 o)=jd (0,o)):zWm (IntKind.wrap .u64 (([v]:List Int).length:Int)) (IntKind.wrap .u64 o)=jd (0,o):=by rw[show IntKind.wrap .u64 (([v]:List Int).length:Int)=1 from by rfl];exact h
theorem zCz{v o:Int}(ho:Prime o):f_k [v] o=jd (J1 o.toNat v):=by
 unfold f_k;rcases ho with rfl|rfl|rfl|rfl
 ·have h:=zN (body:=zBI) (r:=[v,v]) (fun i=>match i with|0=>([v,0],1)|_=>([v,v],2)) 1 (fun i hi=>by
   match i,hi with
   |0,_=>rfl) (by rfl)
  rw[zM4 (by rfl),bs];have hl:yG (IntKind.wrap .i64 2)=jd 2:=by rfl
  simp only[hl,bs];rw[show decide ((2:Int)<0)=jg from rfl,zJ,show decide ((0:Int)> 0)=jg from rfl,zJ,show decide ((2:Int)> 9223372036854775807)=jg from by decide,zJ]
  grind[wP]
 ·have h:=zN (body:=zBI) (r:=[v,v,v]) (fun i=>match i with|0=>([v,0,0],1)|1=>([v,v,0],2)|_=>([v,v,v],3)) 2 (fun i hi=>by
   match i,hi with
   |0,_=>rfl
   |1,_=>rfl) (by rfl)
  rw[zM4 (by rfl),bs];have hl:yG (IntKind.wrap .i64 3)=jd 3:=by rfl
  simp only[hl,bs];rw[show decide ((3:Int)<0)=jg from rfl,zJ,show decide ((0:Int)> 0)=jg from rfl,zJ,show decide ((3:Int)> 9223372036854775807)=jg from by decide,zJ]
  grind[wP]
 ·have h:=zN (body:=zBI) (r:=[v,v,v,v,v]) (fun i=>match i with|0=>([v,0,0,0,0],1)|1=>([v,v,0,0,0],2)|2=>([v,v,v,v,0],4)|_=>([v,v,v,v,v],5)) 3 (fun i hi=>by
   match i,hi with
   |0,_=>rfl
   |1,_=>simp[zBI,zR,wP,rng,inR]
   |2,_=>rfl) (by rfl)
  rw[zM4 (by rfl),bs];have hl:yG (IntKind.wrap .i64 5)=jd 5:=by rfl
  simp only[hl,bs];rw[show decide ((5:Int)<0)=jg from rfl,zJ,show decide ((0:Int)> 0)=jg from rfl,zJ,show decide ((5:Int)> 9223372036854775807)=jg from by decide,zJ];have e2:wP (J1 5 (0:Int)) 0 (([v]:List Int).take ((J1 5 (0:Int)).length-0))=[v,0,0,0,0]:=by rfl
  grind
 ·have h:=zN (body:=zBI) (r:=[v,v,v,v,v,v,v]) (fun i=>match i with|0=>([v,0,0,0,0,0,0],1)|1=>([v,v,0,0,0,0,0],2)|2=>([v,v,v,v,0,0,0],4)|_=>([v,v,v,v,v,v,v],7)) 3 (fun i hi=>by
   match i,hi with
   |0,_=>rfl
   |1,_=>simp[zBI,zR,wP,rng,inR]
   |2,_=>rfl) (by rfl)
  rw[zM4 (by rfl),bs];have hl:yG (IntKind.wrap .i64 7)=jd 7:=by rfl
  simp only[hl,bs];rw[show decide ((7:Int)<0)=jg from rfl,zJ,show decide ((0:Int)> 0)=jg from rfl,zJ,show decide ((7:Int)> 9223372036854775807)=jg from by decide,zJ];have e2:wP (J1 7 (0:Int)) 0 (([v]:List Int).take ((J1 7 (0:Int)).length-0))=[v,0,0,0,0,0,0]:=by rfl
  simp_all
theorem zI8{B:Mx}(hA:A.length<=1000)(h:∀r∈A,r.length<=1000):zY5 A B=jd (A==B):=by unfold zY5;rw[zMi (f:=yBQ A B) (t:=zLm) (body:=zWt A B) rfl (fun _=>rfl) (by omega) (by grind[zH3]),bs]
def zF0(x:SPr)(m:zE)(D:Nat):Prop:=
 ∀i,i<x.zA.length->wM m.Prime D m.zL (J1 (at0 x.zA i).toNat i) (idM D)=wM m.Prime D m.zL (nw 0 (x.zP.getD i [])) (idM D)/\
  ∀j,i+1<=j->j<x.zA.length->PM m.Prime D (m.zL.getD j []) (m.zL.getD i [])=PM m.Prime D (m.zL.getD i []) (wM m.Prime D m.zL (nw 0 ((x.zF.getD i []).getD (j-(i+1)) [])) (idM D))
theorem zAf{v:List Int}(ho:Os x.zA)(h:Exp x.zA v i):v.length=x.zA.length/\ ∀j,j<x.zA.length->0<=at0 v j/\at0 v j<=6:=by have h1:=h.1.1;refine⟨h1,fun j hj=>?_⟩;have:=h.1.2 j (by omega);have:=(ho.2 j hj).pos;omega
abbrev Rl:=List Nat×List Nat
def r1(x:SPr)(i:Nat):Rl:=(J1 (at0 x.zA i).toNat i,nw 0 (x.zP.getD i []))
def r2(x:SPr)(i j:Nat):Rl:=([i+j+1,i],i::nw 0 ((x.zF.getD i []).getD j []))
def R2(x:SPr)(i:Nat):List Rl:=(Jd (x.zF.getD i []).length).map (r2 x i)
def wL(x:SPr):List Rl:=(Jd x.zA.length).map (r1 x)++(Jd x.zA.length).flatMap (R2 x)
abbrev enR(q:Rl):List Int×List Int:=(enW q.1,enW q.2)
section
variable {x:SPr} (h:Pres x)
 include h
theorem yAZ(hi:i<x.zA.length):(R2 x i).length<=14:=by
 have:=(h.tl i hi).2.1;have:=h.os.1
 grind[R2]
theorem zK8:∀i,i<=x.zA.length->((Jd i).flatMap (R2 x)).length<=14*i
 |0,_=>by simp
 |i+1,hi=>by
  have:=zK8 i (by omega)
  grind[yAZ,Kz]
theorem zXS:enW (J1 k i)=J1 k ((i:Int)+1):=by have _:=h;simp
theorem zDI:f_D x=jd ((wL x).map enR):=by
 have h6:=h.os.1;have p9:=h.pl;have gy:=h.cl;unfold f_D;have l1:=zN (body:=zWp x) (r:=((Jd x.zA.length).map (r1 x)).map enR) (fun i=>(((Jd i).map (r1 x)).map enR,(i:Int))) x.zA.length (fun i hi=>by
  obtain⟨p1,p2⟩:=zAf h.os (h.tl i hi).1;unfold zWp;simp only
  rw[yS hi,zH,yK hi,bs,zB,bs,zCz (h.os.2 i hi),bs,yA [],bs,kN (by omega) (by rw[p1];exact p2),bs,zV (by simp only[Jf,Le,J7,Jt];omega),bs,bs,cs,Kz];simp only[K6,Ju,La,r1,enR,zXS h,cs]) (by
  unfold zWp;simp)
 rw[show((0:Nat):Int)=0 from rfl]at l1;simp only[Jc0,La]at l1;rw[l1,bs];have l3:=zN (body:=zWr x) (r:=(wL x).map enR) (fun i=>(((Jd x.zA.length).map (r1 x)++(Jd i).flatMap (R2 x)).map enR,(i:Int))) x.zA.length (fun i hi=>by
  have t2:=(h.tl i hi).2.1;have iI:=zK8 h i (by omega);unfold zWr;simp only
  rw[yS hi,zH,yA [],bs];have l2:=zN (body:=zWq (((Jd x.zA.length).map (r1 x)++(Jd i).flatMap (R2 x)).map enR,(i:Int)) (x.zF.getD i [])) (r:=((Jd x.zA.length).map (r1 x)++(Jd (i+1)).flatMap (R2 x)).map enR)
   (fun j=>(((Jd x.zA.length).map (r1 x)++(Jd i).flatMap (R2 x)++(Jd j).map (r2 x i)).map enR,(j:Int))) (x.zF.getD i []).length (fun j hj=>by
    obtain⟨p1,p2⟩:=zAf h.os ((h.tl i hi).2.2 j hj);have cH:=zFy 0 ((x.zF.getD i []).getD j []) (by grind);unfold zWq;simp only
    rw[yS hj,zH,yA [] hj,bs,zB,bs,zB,bs,zB,bs,kN (by omega) (by rw[p1];exact p2),bs,zV (by simp only[Jf,J7,Jt];omega),bs,zV (by simp only[Jf,J5,Le,J7,Jt];omega),bs,zB,bs,cs,Kz];have e1:(i:Int)+(j:Int)+2=((i+j+1:Nat):Int)+1:=by omega
    simp only[K6,Ju,La,r2,enR,enW,Jg,H0,e1];rfl) (by
    unfold zWq;simp only
    rw[tQ,zJ,Kz,U5]
    grind[R2])
  rw[show((0:Nat):Int)=0 from rfl]at l2
  grind[zB]) (by
  unfold zWr;simp only
  rw[tQ,zJ];rfl)
 grind
theorem zRE{q:Rl}(hq:q∈wL x):((∀w∈q.1,w<x.zA.length)/\q.1.length<=1000)/\(∀w∈q.2,w<x.zA.length)/\q.2.length<=1000:=by
 have h6:=h.os.1;simp only[wL,Ja,Jc,Lh,Li,R2]at hq;rcases hq with⟨i,hi,rfl⟩|⟨i,hi,j,hj,rfl⟩
 ·obtain⟨p1,p2⟩:=zAf h.os (h.tl i hi).1
  have cH:=zFy 0 (x.zP.getD i []) (by rw[p1];exact fun i hi=>(p2 i hi).2);have eI:=(h.os.2 i hi).pos;refine⟨⟨fun w hw=>?_,?_⟩,fun w hw=>zM3 0 _ (by omega) w hw,by simp only[r1];omega⟩
  ·have:=H1 hw;omega
  ·simp only[r1,Jk];omega
 ·obtain⟨p1,p2⟩:=zAf h.os ((h.tl i hi).2.2 j hj)
  have t2:=(h.tl i hi).2.1;have cH:=zFy 0 ((x.zF.getD i []).getD j []) (by rw[p1];exact fun i hi=>(p2 i hi).2);refine⟨⟨fun w hw=>?_,by simp[r2]⟩,fun w hw=>?_,by simp only[r2,J7];omega⟩
  ·simp only[r2,J9,G9,or_false]at hw;omega
  ·simp only[r2,J9]at hw
   rcases hw with rfl|hw
   ·exact hi
   ·exact zM3 0 _ (by omega) w hw
variable {m:zE}{D:Nat} (hm:MOk x.zA.length m D)
 include hm
end
theorem zF1{xs:List (List Int)}(h:i<xs.length):(xs.take (i+1)).flatten=(xs.take i).flatten++xs.getD i []:=by grind[K5]
theorem zK9{xs:List (List Int)}(i:Nat):(xs.take i).flatten.length<=xs.flatten.length:=by grind[Jbm]
theorem zRF(hk:k<=1000000):zWu (k:Int)=jd []:=by
 unfold zWu;rw[jh (by omega),zJ,zB (by decide) (by decide),bs,zB,bs]
 by_cases h:(k:Int)-(0-0)> 0
 ·rw[ji h,zH]
  have e:wJ ([]:List Int) ((k:Int)-(0-0)) 0=jd (J1 k 0):=by
   unfold wJ
   grind
  rw[e,bs];rfl
 grind
theorem qO{xs:List (List Int)}(hx:xs.length<=1000)(hf:xs.flatten.length<=1000000):f_t xs=jd xs.flatten:=by
 unfold f_t;have l1:=zN (body:=zWv xs) (r:=((xs.flatten.length:Nat):Int)) (fun i=>((((xs.take i).flatten.length:Nat):Int),(i:Int))) xs.length (fun i hi=>by
  have h1:=zF1 hi;have h2:=zK9 (xs:=xs) (i+1);have h3:=congrArg Qd h1;rw[J5]at h3;unfold zWv;simp only
  rw[yS hi,zH,yA [] hi,bs,zB,bs,jh (by omega),zJ,zB,bs,cs,h3]
  congr 3) (by
  unfold zWv;simp)
 rw[show((0:Nat):Int)=0 from rfl]at l1;simp only[Kc,Uz,Jt]at l1;rw[show((0:Nat):Int)=0 from rfl]at l1;rw[l1,bs,zRF hf,bs];have l2:=zN (body:=zWw xs) (r:=xs.flatten) (fun i=>((xs.take i).flatten,(i:Int))) xs.length (fun i hi=>by
  have h1:=zF1 hi;have h2:=zK9 (xs:=xs) (i+1);have h3:=congrArg Qd h1;rw[J5]at h3;unfold zWw;simp only
  rw[yS hi,zH,yA [] hi,bs,zV,bs,zB,bs,cs,h1]) (by
  unfold zWw;simp)
 grind
theorem zM5{a b:Nat}(hr:r.length<=1000:=by omega)(ha:a<=1000:=by omega)(hb:b<=1000:=by omega):zY6 r (a:Int) (b:Int)=jd (J1 a 0++(r++J1 b 0)):=by grind[zY6,yH,qO]
section
variable {p:Int}
def uN(p:Int)(D:Nat)(r:List Int)(k:Int)(s:List Int):List Int:=mkv D fun j=>(at0 r j+k*at0 s j)%p
theorem zM6{s:List Int}{k:Int}:(uN p D r k s).length=D:=zU _ _
def zI9(p:Int)(D i:Nat)(r:List Int)(k:Int)(s:List Int):List Int:=mkv D fun j=>if j<i then(at0 r j+k*at0 s j)%p else at0 r j
theorem zJ0{s:List Int}{k:Int}(hr:r.length=D):zI9 p D 0 r k s=r:=by
 conv=>rhs;rw[vE hr]
 rfl
theorem zJ1{s:List Int}{k:Int}:zI9 p D D r k s=uN p D r k s:=zX (by omega)
theorem zM7{s:List Int}{k:Int}(ha:a=(at0 r i+k*at0 s i)%p):(zI9 p D i r k s).set i a=zI9 p D (i+1) r k s:=by
 simp only[zI9];rw[sO]
 grind
theorem zQA{s:List Int}{k:Int}(hi:i<D):at0 (zI9 p D i r k s) i=at0 r i:=by rw[zI9,zW hi,if_neg (by omega)]
theorem zE1{s:List Int}{k:Int}:(zI9 p D i r k s).length=D:=zU _ _
end
section
variable {p:Int} (hp:Prime p)
 include hp
theorem zM8(_h0:-1000<=a)(_h1:a<=1000):zLp a p=jd (a%p):=by
 have h7:=hp.pos;have e1:=Ja5 a (show 0<p by omega);have e2:=Ja6 a (show 0<p by omega);have e3:(Jao a p+p)%p=a%p:=by
  rw[Uv];have:=Qo a p
  conv=>rhs;rw[<-this]
  simp
 unfold zLp vA;rw[if_neg (by omega),bs,zB,bs,if_neg (by omega),bs,Hg (by omega),e3]
theorem zM9(_h0:-1000<=a)(_h1:a<=1000):zW2 a p=jd (a%p):=by
 have h7:=hp.pos;have e1:=Ja5 a (show 0<p by omega);have e2:=Ja6 a (show 0<p by omega);have e3:(Jao a p+p)%p=a%p:=by
  rw[Uv];have:=Qo a p
  conv=>rhs;rw[<-this]
  simp
 unfold zW2 vA;rw[if_neg (by omega),bs]
 by_cases h:Jao a p<0
 ·rw[ji h,zH,zB,bs,<-e3,Jp (by omega) (by omega)]
 ·rw[jh h,zJ,<-e3,Uv,Jp (by omega) (by omega)]
theorem qT{s:List Int}{k:Int}:Row p D (uN p D r k s):=by have h7:=hp.pos;refine⟨zU _ _,fun i hi=>?_⟩;have e:at0 (uN p D r k s) i=(at0 r i+k*at0 s i)%p:=zW hi;have e1:=Kj (at0 r i+k*at0 s i) (show p≠0 by omega);have e2:=Kg (at0 r i+k*at0 s i) (show 0<p by omega);omega
theorem zB2{k b:Int}(hk:-7<=k/\k<=7)(hb:0<=b/\b<=p-1):-49<=k*b/\k*b<=49:=by
 have h7:=hp.pos;rcases Int.le_total 0 k with h|h
 ·have h1:=Ul h hb.1
  have h2:=Lq hk.2 (show b<=7 by omega) hb.1 (by omega);omega
 ·have h1:=Ul (show 0<= -k by omega) hb.1
  have h2:=Lq (show -k<=7 by omega) (show b<=7 by omega) hb.1 (by omega);rw[Int.neg_mul]at h1 h2;omega
theorem zBk{s:List Int}{k:Int}(hr:Row p D r)(hs:Row p D s)(hk:-7<=k/\k<=7)(hD:D<=1000000):f_z r s k p=jd (uN p D r k s):=by
 have h7:=hp.pos;have:=zN (body:=zNu r s k p) (r:=uN p D r k s) (fun i=>(zI9 p D i r k s,(i:Int))) D (fun i hi=>by
  have a1:=hr.2 i hi;have a2:=hs.2 i hi;have a3:=zB2 hp hk a2;unfold zNu;simp only
  rw[hr.1,yS hi,zH,yK (by grind[zE1]),bs,yK (by rw[hs.1];exact hi),bs,zB,bs,zQA hi,zB,bs,zM8 hp (by omega) (by omega),bs,bs,zB,bs,cs,J8,zM7 rfl]) (by
  unfold zNu;simp only
  rw[hr.1,tQ,zJ,zJ1])
 rw[show((0:Nat):Int)=0 from rfl,zJ0 hr.1]at this
 grind[f_z]
theorem uR{s:List Int}{k:Int}(hr:Row p D r)(hs:Row p D s)(hk:-7<=k/\k<=7)(hD:D<=1000000):f_x p r k s=jd (uN p D r k s):=by
 have h7:=hp.pos;have:=zN (body:=zW3 p k s) (r:=uN p D r k s) (fun i=>(zI9 p D i r k s,(i:Int))) D (fun i hi=>by
  have a1:=hr.2 i hi;have a2:=hs.2 i hi;have a3:=zB2 hp hk a2;unfold zW3;simp only
  rw[zE1,yS hi,zH,hs.1,yS hi,zH,yK (by grind[zE1]),bs,yK (by rw[hs.1];exact hi),bs,zB,bs,zQA hi,zB,bs,zM9 hp (by omega) (by omega),bs,bs,zB,bs,cs,J8,zM7 rfl]) (by
  unfold zW3;simp only
  rw[zE1,tQ,zJ,zJ1])
 rw[show((0:Nat):Int)=0 from rfl,zJ0 hr.1]at this;unfold f_x;rw[tE (by rw[hr.1];omega),bs,this,bs]
end
theorem zB3{p:Int}{s:List Int}:uN p D r (p-1) s=uN p D r (-1) s:=zX fun j _=>by rw[show at0 r j+(p-1)*at0 s j=at0 r j+ -1*at0 s j+p*at0 s j from by grind,Qp]
def VOk(n:Nat)(p:Int)(D:Nat)(vals:Mx):Prop:=vals.length=n/\ ∀i,i<n->Row p D (vals.getD i [])
def stp(m:zE)(D:Nat)(vals:Mx)(v:List Int)(w:Nat):List Int:=uN m.Prime D (xK m.Prime D v (m.zL.getD w [])) 1 (vals.getD w [])
def ev(m:zE)(D:Nat)(vals:Mx)(v:List Int)(ws:List Nat):List Int:=ws.foldl (stp m D vals) v
theorem zJ2{m:zE}{vals:Mx}{v:List Int}{a b:List Nat}:ev m D vals v (a++b)=ev m D vals (ev m D vals v a) b:=by simp[ev,Gv]
theorem zO5{m:zE}{D:Nat}{vals:Mx}{w:Nat}:∀(k:Nat)(v:List Int),ev m D vals v (J1 k w)=iter k (fun v=>stp m D vals v w) v
 |0,_=>rfl
 |k+1,v=>by rw[Jv];show ev m D vals (stp m D vals v w) (J1 k w)=_;rw[zO5 k];rfl
abbrev z0(D:Nat):List Int:=J1 D 0
theorem zF2{p:Int}(hp:0<p:=by omega):Row p D (z0 D):=by
 refine⟨by simp,fun i hi=>?_⟩
 grind
theorem wW{p:Int}{B:Mx}(hp:0<p:=by omega):Row p D (xK p D r B):=by
 refine⟨zU _ _,fun i hi=>?_⟩;have e1:=Kj (S D (fun l=>at0 r l*ent B l i)) (show p≠0 by omega);have e2:=Kg (S D (fun l=>at0 r l*ent B l i)) hp
 grind[xK,zW]
section
variable {n D:Nat}{m:zE} (hm:MOk n m D) (hn:n<=14) {vals:Mx} (hv:VOk n m.Prime D vals)
 include hm hn hv
theorem zB4{v:List Int}{w:Nat}:Row m.Prime D (stp m D vals v w):=by have _:=hn;have _:=hv;exact qT hm.p
theorem zDJ{v:List Int}(h:Row m.Prime D v):∀ws,Row m.Prime D (ev m D vals v ws):=by
 intro ws
 induction ws generalizing v with
 |nil=>exact h
 |cons w ws ih=>exact ih (zB4 hm hn hv)
theorem zBl{v:List Int}{w:Nat}(h:Row m.Prime D v)(hw:w<n):zN6 m vals v (w:Int)=jd (stp m D vals v w):=by have _:=hn;have h7:=hm.p.pos;have h3:=hm.d3;unfold zN6;rw[yA [] (by rw[hm.len];exact hw),bs,hm.d,zDH hm.p (by omega) h (hm.mat w hw),bs,yA [] (by rw[hv.1];exact hw),bs,uR hm.p (wW) (hv.2 w hw) (by omega) (by omega),bs];rfl
theorem zFZ{v x:List Int}(h:Row m.Prime D v)(hl:x.length=n)(hx:∀i,i<n->0<=at0 x i/\at0 x i<=6):f_S m vals v x=jd (ev m D vals v (nw 0 x)):=by
 have:=zN (body:=zW8 m vals x) (r:=ev m D vals v (nw 0 x)) (fun i=>(ev m D vals v (nw 0 (x.take i)),(i:Int))) n (fun i hi=>by
  have dh:=hx i hi;unfold zW8;simp only
  rw[hl,yS hi,zH];rw[uV (S:=Row m.Prime D) (body:=zW7 m vals x (ev m D vals v (nw 0 (x.take i)),(i:Int))) (fun v=>v) (fun v=>stp m D vals v i) (at0 x i) dh.1 (by grind[zB4]) (fun u q hu hq=>by
   unfold zW7;simp only
   rw[yK,bs,ji hq,zH,zBl hm hn hv hu hi,bs,zB,bs,cs]) (fun u hu=>by
   unfold zW7;simp only
   rw[yK,bs,jh (by omega),zJ]) (zDJ hm hn hv h _),bs,zB,bs,cs]
  grind[zQ9,zJ2,zO5]) (by
  unfold zW8
  grind)
 rw[show((0:Nat):Int)=0 from rfl,Kc]at this
 grind[nw,ev,f_S]
theorem zE2{ws:List Nat}(hw:∀w∈ws,w<n)(hl:ws.length<=1000):zW9 m vals (enW ws)=jd (ev m D vals (z0 D) ws):=by
 have h7:=hm.p.pos;have h3:=hm.d3;unfold zW9;rw[hm.d,yH,bs];have hz:=zF2 (p:=m.Prime) (D:=D);have dx:(enW ws).length=ws.length:=by simp
 have:=zN (body:=zN7 m vals (enW ws)) (r:=ev m D vals (z0 D) ws) (fun i=>(ev m D vals (z0 D) (ws.take i),(i:Int))) ws.length (fun i hi=>by
  have mS:=hw ws[i] (Js hi);have hr:=zDJ hm hn hv hz (ws.take i);unfold zN7;simp only
  rw[dx,yS hi,zH,vD,Jw,J3 hi];simp only[He];rw[bs,zB,bs,show((ws[i]:Nat):Int)+1-1=((ws[i]:Nat):Int)from by omega,zDr hm hn mS,bs,zBj hm.p (by omega) hr (hm.mat _ mS) rfl,bs,bs,yA [] (by rw[hv.1];exact mS),bs,zBk hm.p (wW) (hv.2 _ mS) (by omega) (by omega),bs,zB,bs,cs,K5 hi,zJ2];rfl) (by
  unfold zN7;simp)
 rw[show((0:Nat):Int)=0 from rfl,Kc]at this
 grind[ev]
end
section
variable {x:SPr} (h:Pres x) {m:zE}{D:Nat} (hm:MOk x.zA.length m D) {vals:Mx} (hv:VOk x.zA.length m.Prime D vals)
 include h hm hv
abbrev dfc(m:zE)(D:Nat)(vals:Mx)(q:Rl):List Int:=uN m.Prime D (ev m D vals (z0 D) q.1) (-1) (ev m D vals (z0 D) q.2)
theorem zKA:(wL x).length<=300:=by
 have _:=hv;have _:=hm;have h6:=h.os.1;have iI:=zK8 h x.zA.length (Je _)
 grind[wL]
theorem zKB:zYD x m vals=jd ((wL x).map (dfc m D vals)):=by
 have h6:=h.os.1;have h7:=hm.p.pos;have h3:=hm.d3;have cz:=zKA h hm hv;have hz:=zF2 (p:=m.Prime) (D:=D);unfold zYD;rw[zDI h,bs];have:=zN (body:=zN8 m vals ((wL x).map enR)) (r:=(wL x).map (dfc m D vals)) (fun i=>(((wL x).map (dfc m D vals)).take i,(i:Int))) (wL x).length (fun i hi=>by
  have gp:(wL x)[i]∈wL x:=Js hi;obtain⟨⟨g1,g2⟩,g3,g4⟩:=zRE h gp;unfold zN8;simp only
  rw[Jf,yS hi,zH,vD,Jw,J3 hi];simp only[He];rw[bs,zE2 hm h6 hv g1 g2,bs,zE2 hm h6 hv g3 g4,bs,zBk hm.p (zDJ hm h6 hv hz _) (zDJ hm h6 hv hz _) (by omega) (by omega),bs,zV (by simp;omega),bs,zB,bs,cs,K5 (by simpa using hi)];simp) (by
  unfold zN8;simp only
  rw[Jf,tQ,zJ,Jx (by simp)])
 grind
end
theorem zQB{b:Int}(h:a=b:=by omega):(a==b)=jf:=by simp[h]
theorem zMA{b:Int}(h:a≠b:=by omega):(a==b)=jg:=by simp[h]
theorem IsB.both{o':Option Bool}(h:IsB o P)(h':IsB o' P):(o=jd jf/\o'=jd jf/\P)\/(o=jd jg/\o'=jd jg/\ ¬P):=by
 rcases h with⟨h1,h2⟩|⟨h1,h2⟩<;>rcases h' with⟨h3,h4⟩|⟨h3,h4⟩
 all_goals grind
def Sp(p:Int)(n:Nat)(R:Mx)(v:List Int):Prop:=∃c:Nat->Int,∀j,j<n->(S R.length fun i=>c i*ent R i j)%p=at0 v j%p
section
variable {p:Int}{n:Nat}{R R':Mx}{u v w:List Int}
theorem uO(hi:i<R.length:=by omega):Sp p n R (R.getD i []):=by
 refine⟨fun l=>if l=i then 1 else 0,fun j _=>?_⟩
 grind[kF]
theorem jH{k:Int}(hv:Sp p n R v)(hw:Sp p n R w)(h:∀j,j<n->at0 u j%p=(at0 v j+k*at0 w j)%p):Sp p n R u:=by
 obtain⟨c,hc⟩:=hv;obtain⟨d,hd⟩:=hw;refine⟨fun i=>c i+k*d i,fun j hj=>?_⟩;have e:(S R.length fun i=>(c i+k*d i)*ent R i j)=(S R.length fun i=>c i*ent R i j)+k*(S R.length fun i=>d i*ent R i j):=by
  rw[<-zCx,<-zCw]
  grind
 rw[e,h j hj,Ka,hc j hj,Jy,hd j hj,<-Jy,<-Ka]
theorem zA5(h:∀j,j<n->at0 u j%p=0):Sp p n R u:=by refine⟨fun _=>0,fun j hj=>?_⟩;rw[h j hj,xT (g:=fun _=>0) (fun i _=>by simp),sW];simp
theorem sJ(h:∀i,i<R.length->Sp p n R' (R.getD i []))(hv:Sp p n R v):Sp p n R' v:=by
 obtain⟨c,hc⟩:=hv;have key:∀m,m<=R.length-> ∃d:Nat->Int,∀j,j<n->(S R'.length fun i=>d i*ent R' i j)%p=(S m fun i=>c i*ent R i j)%p:=by
  intro m
  induction m with
  |zero=>intro _;exact⟨fun _=>0,fun j _=>by rw[xT (g:=fun _=>0) (fun i _=>by simp),sW];rfl⟩
  |succ m ih=>
   intro hm;obtain⟨d,hd⟩:=ih (by omega);obtain⟨e,he⟩:=h m (by omega);refine⟨fun i=>d i+c m*e i,fun j hj=>?_⟩;have e1:(S R'.length fun i=>(d i+c m*e i)*ent R' i j)=(S R'.length fun i=>d i*ent R' i j)+c m*(S R'.length fun i=>e i*ent R' i j):=by
    rw[<-zCx,<-zCw]
    grind
   rw[e1,Ka,hd j hj,Jy,he j hj,<-Jy,<-Ka];rfl
 obtain⟨d,hd⟩:=key R.length (Je _);exact⟨d,by grind⟩
end
def qQ(p:Int)(n:Nat)(R R':Mx):Prop:=(∀i,i<R.length->Sp p n R' (R.getD i []))/\ ∀i,i<R'.length->Sp p n R (R'.getD i [])
theorem qQ.refl{p:Int}{n:Nat}{R:Mx}:qQ p n R R:=⟨fun _ h=>uO h,fun _ h=>uO h⟩
theorem qQ.symm{p:Int}{n:Nat}{R:Mx}(h:qQ p n R R'):qQ p n R' R:=⟨h.2,h.1⟩
theorem qQ.trans{p:Int}{n:Nat}{R R2:Mx}(h:qQ p n R R')(h':qQ p n R' R2):qQ p n R R2:=⟨fun i hi=>sJ h'.1 (h.1 i hi),fun i hi=>sJ h.2 (h'.2 i hi)⟩
theorem qQ.iff{p:Int}{n:Nat}{R:Mx}{v:List Int}(h:qQ p n R R'):Sp p n R v↔Sp p n R' v:=⟨fun g=>sJ h.1 g,fun g=>sJ h.2 g⟩
structure Red (p:Int) (n:Nat) (R:Mx) (pv:Nat->Nat):Prop where
 row:∀i,i<R.length->Row p n (R.getD i [])
 lt:∀i,i<R.length->pv i<n
 one:∀i,i<R.length->ent R i (pv i)=1
 low:∀i,i<R.length-> ∀j,j<pv i->ent R i j=0
 off:∀i k,i<R.length->k<R.length->k≠i->ent R k (pv i)=0
 mono:∀i j,i<j->j<R.length->pv i<pv j
section
variable {p:Int} (hp:1<p) {n:Nat}{R R':Mx}{pv pv':Nat->Nat}{v:List Int}
theorem Red.coef(h:Red p n R pv){c:Nat->Int}(hc:∀j,j<n->(S R.length fun i=>c i*ent R i j)%p=at0 v j%p)(hk:k<R.length):c k%p=at0 v (pv k)%p:=by rw[<-hc (pv k) (h.lt k hk),kF (k:=k) hk (fun i hi gc=>by rw[h.off k i hk hi gc];simp),h.one k hk];simp
theorem Red.expand(h:Red p n R pv)(hv:Sp p n R v):∀j,j<n->at0 v j%p=(S R.length fun i=>at0 v (pv i)*ent R i j)%p:=by obtain⟨c,hc⟩:=hv;intro j hj;rw[<-hc j hj];exact kE fun i hi=>by rw[Jy,h.coef hc hi,<-Jy]
theorem Red.lead(h:Red p n R pv)(hv:Sp p n R v)(gc:∃j,j<n/\at0 v j%p≠0):∃i,i<R.length/\(∀j,j<pv i->at0 v j%p=0)/\at0 v (pv i)%p≠0:=by
 have hx:=h.expand hv;have h1:∃i,i<R.length/\at0 v (pv i)%p≠0:=by
  refine Classical.byContradiction fun hn=>?_
  obtain⟨j,hj,bm⟩:=gc;refine bm ?_;rw[hx j hj,kE (g:=fun _=>0) (fun i hi=>by
   have:at0 v (pv i)%p=0:=by grind
   rw[Jy,this];simp),sW];rfl
 obtain⟨i,⟨hi,eR⟩,fc⟩:=zDk h1;refine⟨i,hi,fun j hj=>?_,eR⟩;have fL:j<n:=Nat.lt_trans hj (h.lt i hi);rw[hx j fL,kE (g:=fun _=>0) (fun k hk=>by
  rcases Jo k i with hki|hki
  ·have:at0 v (pv k)%p=0:=by grind
   rw[Jy,this];simp
  ·have h2:pv i<=pv k:=by
    rcases Jo i k with h3|h3
    ·exact Nat.le_of_lt (h.mono i k h3 hk)
    grind
   rw[h.low k hk j (by omega)];simp),sW];rfl
 include hp
theorem Red.row_lead(h:Red p n R pv)(hi:i<R.length):(∃j,j<n/\at0 (R.getD i []) j%p≠0)/\(∀j,j<pv i->at0 (R.getD i []) j%p=0)/\at0 (R.getD i []) (pv i)%p≠0:=by
 have h1:at0 (R.getD i []) (pv i)%p≠0:=by have:=h.one i hi;simp only[ent]at this;rw[this,Jp (by omega) hp];omega
 refine⟨⟨pv i,h.lt i hi,h1⟩,fun j hj=>?_,h1⟩;have:=h.low i hi j hj
 simp_all
theorem Red.piv_in(h:Red p n R pv)(h':Red p n R' pv')(hs:∀i,i<R.length->Sp p n R' (R.getD i []))(hi:i<R.length):∃k,k<R'.length/\pv' k=pv i:=by
 obtain⟨g1,g2,g3⟩:=h.row_lead hp hi;obtain⟨k,hk,g4,g5⟩:=h'.lead (hs i hi) g1
 grind
theorem Red.piv_eq(h:Red p n R pv)(h':Red p n R' pv')(hs:qQ p n R R'):∀i,(i<R.length↔i<R'.length)/\(i<R.length->pv i=pv' i):=by
 intro i
 induction i using U1 with
 |_ i ih=>
  have a:i<R.length->i<R'.length/\pv' i<=pv i:=fun hi=>by
   obtain⟨k,hk,e⟩:=h.piv_in hp h' hs.1 hi;have hki:i<=k:=by
    refine Classical.byContradiction fun hn=>?_
    have h1:=(ih k (by omega)).2 (by omega);have h2:=h.mono k i (by omega) hi;omega
   refine⟨by omega,?_⟩;rcases Jo i k with h3|h3
   ·have:=h'.mono i k h3 hk;omega
   grind
  have b:i<R'.length->i<R.length/\pv i<=pv' i:=fun hi=>by
   obtain⟨k,hk,e⟩:=h'.piv_in hp h hs.2 hi;have hki:i<=k:=by
    refine Classical.byContradiction fun hn=>?_
    have h1:=(ih k (by omega)).2 hk;have h2:=h'.mono k i (by omega) hi;omega
   refine⟨by omega,?_⟩;rcases Jo i k with h3|h3
   ·have:=h.mono i k h3 hk;omega
   grind
  omega
theorem Red.unique(h:Red p n R pv)(h':Red p n R' pv')(hs:qQ p n R R'):R=R':=by
 have pU:=h.piv_eq hp h' hs;have hl:R.length=R'.length:=by
  rcases G1 R.length R'.length with g|g|g
  all_goals grind
 refine zH8 (D:=R.length) rfl hl.symm fun i hi=>?_
 have fj:i<R'.length:=by omega
 have r1:=h.row i hi;have r2:=h'.row i fj;rw[vE r1.1,vE r2.1];refine zX fun j hj=>?_
 have hx:=h'.expand (hs.1 i hi) j hj;rw[xT (g:=fun k=>(if k=i then 1 else 0)*ent R' k j) (fun k hk=>by
  congr 1
  have e:=(pU k).2 (by omega)
  by_cases hki:k=i
  ·subst hki;rw[if_pos rfl,<-e];exact h.one k hi
  ·rw[if_neg hki,<-e];exact h.off k i (by omega) hi (Ne.symm hki)),kF (k:=i) fj (fun k _ hk=>by simp[hk])]at hx
 simp only[if_true,Gs,ent]at hx;have a1:=r1.2 j hj;have a2:=r2.2 j hj;rw[Jp a1.1 (by omega),Jp a2.1 (by omega)]at hx;exact hx
end
def mkR(m:Nat)(F:Nat->List Int):Mx:=(Jd m).map F
theorem tW{F:Nat->List Int}:(mkR m F).length=m:=by simp[mkR]
theorem jS{F:Nat->List Int}(h:i<m):(mkR m F).getD i []=F i:=by simp[mkR,J2,h]
theorem zKC{F:Nat->List Int}(h:i<m):ixO (mkR m F) (i:Int)=jd (F i):=by rw[yA [] (by grind[tW]),jS h]
theorem jI{F G:Nat->List Int}(h:∀i,i<m->F i=G i):mkR m F=mkR m G:=by grind[mkR,Uu]
theorem zUw{R:Mx}(h:R.length=m):R=mkR m (fun i=>R.getD i []):=zH8 (D:=m) h tW (by grind[jS])
theorem zG2{F:Nat->List Int}{a:List Int}:(mkR m F).set i a=mkR m (fun k=>if k=i then a else F k):=by
 apply Kx;intro k
 by_cases hk:k<m
 ·by_cases h:i=k
  ·grind[mkR]
  ·rw[Jb2 h];simp[mkR,hk,Ne.symm h]
 grind[mkR]
theorem zE3{F:Nat->List Int}(h:i<m):ent (mkR m F) i j=at0 (F i) j:=by simp only[ent,jS h]
theorem zUx{s:Nat->Int×Int×Int×Int}(n:Nat){r:Int×Int}(h:∀i,i<n->zJM (s i)=jd (.inl (s (i+1))))(he:zJM (s n)=jd (.inr r)){p:Int}(hq:zLp r.2 p=jd q)(h1:r.1=1)(hs:s 0=(p,(s 0).2.1,0,1)):
  zN0 (s 0).2.1 p=jd (q,jf):=by
 unfold zN0;rw[<-hs,zN s n h he,bs,hq,bs,h1];rfl
def zUy:List (Int×Int×Int×Int)->Nat->Int×Int×Int×Int:=fun l i=>l.getD i (0,0,0,0)
theorem tF(l:List (Int×Int×Int×Int))(n:Nat){r:Int×Int}(h:∀i,i<n->zJM (zUy l i)=jd (.inl (zUy l (i+1))))(he:zJM (zUy l n)=jd (.inr r)){p x:Int}(hq:zLp r.2 p=jd q)(h1:r.1=1)(hs:zUy l 0=(p,x,0,1)):
  zN0 x p=jd (q,jf):=by
 have:=zUx (s:=zUy l) n h he hq h1 (by rw[hs])
 grind
theorem lt1{P:Nat->Prop}(h0:P 0):∀i,i<1->P i:=by grind
theorem lt2{P:Nat->Prop}(h0:P 0)(h1:P 1):∀i,i<2->P i:=by grind
theorem lt3{P:Nat->Prop}(h0:P 0)(h1:P 1)(h2:P 2):∀i,i<3->P i:=by grind
theorem zB5{p x:Int}(hp:Prime p)(h0:1<=x)(h1:x<=p-1):∃r,zN0 x p=jd (r,jf)/\0<=r/\r<=p-1/\(x*r)%p=1:=by
 have c:(p=2/\x=1)\/(p=3/\(x=1\/x=2))\/(p=5/\(x=1\/x=2\/x=3\/x=4))\/(p=7/\(x=1\/x=2\/x=3\/x=4\/x=5\/x=6)):=by unfold Prime at hp;omega
 rcases c with⟨rfl,rfl⟩|⟨rfl,rfl|rfl⟩|⟨rfl,rfl|rfl|rfl|rfl⟩|⟨rfl,rfl|rfl|rfl|rfl|rfl|rfl⟩
 ·exact⟨1,tF [(2,1,0,1),(1,0,1,-2)] 1 (lt1 (by rfl)) (r:=(1,1)) (by rfl) (by rfl) rfl rfl,by decide,by decide,by decide⟩
 ·exact⟨1,tF [(3,1,0,1),(1,0,1,-3)] 1 (lt1 (by rfl)) (r:=(1,1)) (by rfl) (by rfl) rfl rfl,by decide,by decide,by decide⟩
 ·exact⟨2,tF [(3,2,0,1),(2,1,1,-1),(1,0,-1,3)] 2 (lt2 (by rfl) (by rfl)) (r:=(1,-1)) (by rfl) (by rfl) rfl rfl,by decide,by decide,by decide⟩
 ·exact⟨1,tF [(5,1,0,1),(1,0,1,-5)] 1 (lt1 (by rfl)) (r:=(1,1)) (by rfl) (by rfl) rfl rfl,by decide,by decide,by decide⟩
 ·exact⟨3,tF [(5,2,0,1),(2,1,1,-2),(1,0,-2,5)] 2 (lt2 (by rfl) (by rfl)) (r:=(1,-2)) (by rfl) (by rfl) rfl rfl,by decide,by decide,by decide⟩
 ·exact⟨2,tF [(5,3,0,1),(3,2,1,-1),(2,1,-1,2),(1,0,2,-5)] 3 (lt3 (by rfl) (by rfl) (by rfl)) (r:=(1,2)) (by rfl) (by rfl) rfl rfl,by decide,by decide,by decide⟩
 ·exact⟨4,tF [(5,4,0,1),(4,1,1,-1),(1,0,-1,5)] 2 (lt2 (by rfl) (by rfl)) (r:=(1,-1)) (by rfl) (by rfl) rfl rfl,by decide,by decide,by decide⟩
 ·exact⟨1,tF [(7,1,0,1),(1,0,1,-7)] 1 (lt1 (by rfl)) (r:=(1,1)) (by rfl) (by rfl) rfl rfl,by decide,by decide,by decide⟩
 ·exact⟨4,tF [(7,2,0,1),(2,1,1,-3),(1,0,-3,7)] 2 (lt2 (by rfl) (by rfl)) (r:=(1,-3)) (by rfl) (by rfl) rfl rfl,by decide,by decide,by decide⟩
 ·exact⟨5,tF [(7,3,0,1),(3,1,1,-2),(1,0,-2,7)] 2 (lt2 (by rfl) (by rfl)) (r:=(1,-2)) (by rfl) (by rfl) rfl rfl,by decide,by decide,by decide⟩
 ·exact⟨2,tF [(7,4,0,1),(4,3,1,-1),(3,1,-1,2),(1,0,2,-7)] 3 (lt3 (by rfl) (by rfl) (by rfl)) (r:=(1,2)) (by rfl) (by rfl) rfl rfl,by decide,by decide,by decide⟩
 ·exact⟨3,tF [(7,5,0,1),(5,2,1,-1),(2,1,-1,3),(1,0,3,-7)] 3 (lt3 (by rfl) (by rfl) (by rfl)) (r:=(1,3)) (by rfl) (by rfl) rfl rfl,by decide,by decide,by decide⟩
 ·exact⟨6,tF [(7,6,0,1),(6,1,1,-1),(1,0,-1,7)] 2 (lt2 (by rfl) (by rfl)) (r:=(1,-1)) (by rfl) (by rfl) rfl rfl,by decide,by decide,by decide⟩
structure zRG (p:Int) (n m:Nat) (rows:Mx) (c:Nat) (M:Mx) (d:Nat) (pv:Nat->Nat):Prop where
 len:M.length=m
 row:∀i,i<m->Row p n (M.getD i [])
 dm:d<=m
 lt:∀i,i<d->pv i<c
 one:∀i,i<d->ent M i (pv i)=1
 low:∀i,i<d-> ∀j,j<pv i->ent M i j=0
 off:∀i k,i<d->k<m->k≠i->ent M k (pv i)=0
 mono:∀i j,i<j->j<d->pv i<pv j
 zero:∀k,d<=k->k<m-> ∀j,j<c->ent M k j=0
 sp:qQ p n M rows
theorem zB6{p:Int}{n:Nat}{F:Nat->List Int}(h:i<m:=by omega):Sp p n (mkR m F) (F i):=by
 have:=uO (p:=p) (n:=n) (R:=mkR m F) (i:=i) (by grind[tW])
 grind[jS]
theorem zUz(a e r p:Int):a%p=((a+(0-e)*r)%p+e*r)%p:=by rw[Ka,K3,<-Ka,show a+(0-e)*r+e*r=a from by grind]
section
variable {p:Int} (hp:Prime p) {n m:Nat}{rows:Mx}{c:Nat}{M:Mx}{d:Nat}{pv:Nat->Nat} (h:zRG p n m rows c M d pv) (hc:c<n) (hd:d<m)
 include hp h hc hd
theorem zRG.pivot{t:Nat}(ht:d<=t)(aj:t<m)(gc:ent M t c≠0)(hq:(ent M t c*q)%p=1):
  zRG p n m rows (c+1) (mkR m fun i=>if i=d then mkv n fun j=>(ent M t j*q)%p else uN p n (if i=t then M.getD d []else M.getD i []) (0-at0 (if i=t then M.getD d []else M.getD i []) c) (mkv n fun j=>(ent M t j*q)%p)) (d+1) (fun i=>if i=d then c else pv i):=by
 have h7:=hp.pos;have pr:∀j,j<n->at0 (mkv n fun j=>(ent M t j*q)%p) j=(ent M t j*q)%p:=fun j hj=>zW hj
 have p0:∀j,j<c->(ent M t j*q)%p=0:=fun j hj=>by rw[h.zero t ht aj j hj];simp
 have prow:Row p n (mkv n fun j=>(ent M t j*q)%p):=⟨zU _ _,fun j hj=>by have e1:=Kj (ent M t j*q) (show p≠0 by omega);have e2:=Kg (ent M t j*q) (show 0<p by omega);rw[pr j hj];omega⟩
 have hG:∀i,i<m->i≠d->Row p n (if i=t then M.getD d []else M.getD i []):=fun i hi _=>by
  split
  ·exact h.row d hd
  ·exact h.row i hi
 have eo:∀i j,i<m->i≠d->j<n->ent (mkR m fun i=>if i=d then mkv n fun j=>(ent M t j*q)%p else uN p n (if i=t then M.getD d []else M.getD i []) (0-at0 (if i=t then M.getD d []else M.getD i []) c) (mkv n fun j=>(ent M t j*q)%p)) i j=(at0 (if i=t then M.getD d []else M.getD i []) j+(0-at0 (if i=t then M.getD d []else M.getD i []) c)*((ent M t j*q)%p))%p:=fun i j hi eJ hj=>by rw[zE3 hi,if_neg eJ,uN,zW hj,pr j hj]
 have el:∀i j,i<m->i≠d->j<c->ent (mkR m fun i=>if i=d then mkv n fun j=>(ent M t j*q)%p else uN p n (if i=t then M.getD d []else M.getD i []) (0-at0 (if i=t then M.getD d []else M.getD i []) c) (mkv n fun j=>(ent M t j*q)%p)) i j=at0 (if i=t then M.getD d []else M.getD i []) j:=fun i j hi eJ hj=>by rw[eo i j hi eJ (by omega),p0 j hj,Ln,L7];have:=(hG i hi eJ).2 j (by omega);exact Jp this.1 (by omega)
 have ed:∀j,j<n->ent (mkR m fun i=>if i=d then mkv n fun j=>(ent M t j*q)%p else uN p n (if i=t then M.getD d []else M.getD i []) (0-at0 (if i=t then M.getD d []else M.getD i []) c) (mkv n fun j=>(ent M t j*q)%p)) d j=(ent M t j*q)%p:=fun j hj=>by rw[zE3 hd,if_pos rfl,pr j hj]
 have ec:∀i,i<m->i≠d->ent (mkR m fun i=>if i=d then mkv n fun j=>(ent M t j*q)%p else uN p n (if i=t then M.getD d []else M.getD i []) (0-at0 (if i=t then M.getD d []else M.getD i []) c) (mkv n fun j=>(ent M t j*q)%p)) i c=0:=fun i hi eJ=>by rw[eo i c hi eJ hc,hq,L6];rw[show at0 (if i=t then M.getD d []else M.getD i []) c+(0-at0 (if i=t then M.getD d []else M.getD i []) c)=0 from by omega];simp
 have fK:∀i,i<d->(if i=t then M.getD d []else M.getD i [])=M.getD i []:=fun i hi=>by rw[if_neg (by omega)]
 have bN:∀i,d<=i->i<m-> ∀j,j<c->at0 (if i=t then M.getD d []else M.getD i []) j=0:=fun i hi eR j hj=>by
  split
  ·exact h.zero d (Je _) hd j hj
  ·exact h.zero i hi eR j hj
 refine⟨tW,fun i hi=>?_,by omega,fun i hi=>?_,fun i hi=>?_,fun i hi j hj=>?_,fun i k hi hk eJ=>?_,fun i j gI hj=>?_,fun k hk eZ j hj=>?_,?_⟩
 ·rw[jS hi]
  split
  ·exact prow
  ·exact qT hp
 ·by_cases eF:i=d
  ·rw[if_pos eF];omega
  ·rw[if_neg eF];have:=h.lt i (by omega);omega
 ·by_cases eF:i=d
  ·subst eF;rw[if_pos rfl,ed c hc,hq]
  ·have h1:=h.lt i (by omega)
   rw[if_neg eF,el i _ (by omega) eF h1,fK i (by omega)];exact h.one i (by omega)
 ·by_cases eF:i=d
  ·subst eF
   rw[if_pos rfl]at hj;rw[ed j (by omega),p0 j hj]
  ·rw[if_neg eF]at hj
   have h1:=h.lt i (by omega);rw[el i j (by omega) eF (by omega),fK i (by omega)];exact h.low i (by omega) j hj
 ·by_cases eF:i=d
  ·subst eF
   rw[if_pos rfl];exact ec k hk eJ
  ·have h1:=h.lt i (by omega)
   rw[if_neg eF]
   by_cases mI:k=d
   ·subst mI
    rw[ed _ (by omega),h.off i t (by omega) aj (by omega)];simp
   ·rw[el k _ hk mI h1]
    split
    ·exact h.off i d (by omega) hd (Ne.symm eF)
    ·exact h.off i k (by omega) hk eJ
 ·by_cases hjd:j=d
  ·subst hjd
   rw[if_pos rfl,if_neg (by omega)];exact h.lt i (by omega)
  ·rw[if_neg hjd,if_neg (by omega)];exact h.mono i j gI (by omega)
 ·rcases Jo j c with hjc|hjc
  ·rw[el k j eZ (by omega) hjc];exact bN k (by omega) eZ j hjc
  ·rw[show j=c from by omega];exact ec k eZ (by omega)
 ·refine qQ.trans ⟨fun i hi=>?_,fun i hi=>?_⟩ h.sp
  ·rw[tW]at hi
   rw[jS hi];have hr:Sp p n M (mkv n fun j=>(ent M t j*q)%p):=by
    refine jH (k:=q) (zA5 (u:=[]) fun j _=>by simp[at0]) (uO (R:=M) (i:=t) (by rw[h.len];exact aj)) fun j hj=>?_
    rw[pr j hj,K3,Gz];simp[at0]
   split
   ·exact hr
   ·refine jH (k:=0-at0 (if i=t then M.getD d []else M.getD i []) c) (v:=if i=t then M.getD d []else M.getD i []) ?_ hr fun j hj=>?_
    ·split
     ·exact uO (by rw[h.len];exact hd)
     ·exact uO (by rw[h.len];exact hi)
    ·rw[uN,zW hj,K3]
  ·rw[h.len]at hi
   have hr:=zB6 (p:=p) (n:=n) (m:=m) (F:=fun i=>if i=d then mkv n fun j=>(ent M t j*q)%p else uN p n (if i=t then M.getD d []else M.getD i []) (0-at0 (if i=t then M.getD d []else M.getD i []) c) (mkv n fun j=>(ent M t j*q)%p)) hd;simp only[if_true]at hr;have hg:∀k,k<m->k≠d->Sp p n (mkR m fun i=>if i=d then mkv n fun j=>(ent M t j*q)%p else uN p n (if i=t then M.getD d []else M.getD i []) (0-at0 (if i=t then M.getD d []else M.getD i []) c) (mkv n fun j=>(ent M t j*q)%p)) (if k=t then M.getD d []else M.getD k []):=fun k hk mI=>by
    have h1:=zB6 (p:=p) (n:=n) (m:=m) (F:=fun i=>if i=d then mkv n fun j=>(ent M t j*q)%p else uN p n (if i=t then M.getD d []else M.getD i []) (0-at0 (if i=t then M.getD d []else M.getD i []) c) (mkv n fun j=>(ent M t j*q)%p)) hk;simp only[if_neg mI]at h1;refine jH (k:=at0 (if k=t then M.getD d []else M.getD k []) c) h1 hr fun j hj=>?_
    rw[uN,zW hj,pr j hj];exact zUz _ _ _ _
   by_cases eh:i=t
   ·
    subst eh;refine jH (k:=ent M i c) (zA5 (u:=[]) fun j _=>by simp[at0]) hr fun j hj=>?_
    rw[pr j hj];have e1:(ent M i c*((ent M i j*q)%p))%p=(ent M i j*((ent M i c*q)%p))%p:=by
     rw[Jy,K3,<-Jy,Jy (ent M i j),K3,<-Jy]
     congr 1
     rw[<-U2,<-U2,Gz (ent M i c)]
    rw[show at0 ([]:List Int) j=0 from by simp[at0],Ko,e1,hq,L6]
   ·by_cases eF:i=d
    ·subst eF
     have:=hg t aj (by omega);rw[if_pos rfl]at this;exact this
    ·have:=hg i hi eF
     rw[if_neg eh]at this;exact this
end
theorem jJ{v:List Int}(h:v.length<=1000000:=by omega):f_B v=jd v:=by grind[f_B,zV]
theorem zIA{rows:Mx}(hm:rows.length<=1000000)(hn:∀i,i<rows.length->(rows.getD i []).length<=1000000):zY9 rows=jd rows:=by
 unfold zY9;have:=zN (body:=zNz rows) (r:=rows) (fun i=>(rows.take i,(i:Int))) rows.length (fun i hi=>by
  unfold zNz;simp only
  rw[yS hi,zH,yA [] hi,bs,jJ (hn i hi),bs,zV (by simp;omega),bs,zB,bs,cs,K5 hi,J2,J3 hi];rfl) (by
  unfold zNz;simp)
 grind
theorem zRH{M:Mx}{d c n:Nat}(hm:M.length=m)(hd:d<=m)(hmm:m<=1000000)(gG:∀i,i<m->(M.getD i []).length=n)(hc:c<n):
  ∃t:Nat,d<=t/\t<=m/\zG (zII (M,(d:Int),(c:Int))) (d:Int)=jd (t:Int)/\(∀k,d<=k->k<t->ent M k c=0)/\(t<m->ent M t c≠0):=by
 have key:∀k,k<=m-d-> ∃t:Nat,m-k<=t/\t<=m/\zG (zII (M,(d:Int),(c:Int))) ((m-k:Nat):Int)=jd (t:Int)/\(∀q,m-k<=q->q<t->ent M q c=0)/\(t<m->ent M t c≠0):=by
  intro k
  induction k with
  |zero=>
   intro _;refine⟨m,by omega,Je _,?_,by omega,fun h=>by omega⟩;rw[yP];unfold zII
   grind
  |succ k ih=>
   intro hk;obtain⟨t,h1,h2,h3,h4,h5⟩:=ih (by omega);have gC:m-(k+1)<m:=by omega
   by_cases hz:ent M (m-(k+1)) c=0
   ·refine⟨t,by omega,h2,?_,fun q q1 q2=>?_,h5⟩
    ·rw[yP]
     have e:zII (M,(d:Int),(c:Int)) ((m-(k+1):Nat):Int)=jd (.inl ((m-k:Nat):Int)):=by
      unfold zII;simp only
      rw[hm,yS gC,zH,yA [],bs,yK (by rw[gG _ gC];exact hc),bs,zQB hz,zH,zB,bs,cs,show m-(k+1)+1=m-k from by omega]
     grind
    grind
   ·refine⟨m-(k+1),Je _,by omega,?_,by omega,fun _=>hz⟩
    rw[yP];have e:zII (M,(d:Int),(c:Int)) ((m-(k+1):Nat):Int)=jd (.inr ((m-(k+1):Nat):Int)):=by
     unfold zII;simp only
     rw[hm,yS gC,zH,yA [],bs,yK (by rw[gG _ gC];exact hc),bs,zMA hz,zJ]
    rw[e]
 obtain⟨t,h1,h2,h3,h4,h5⟩:=key (m-d) (Je _);rw[show m-(m-d)=d from by omega]at h1 h3 h4
 grind
section
variable {p:Int} (hp:Prime p) {n m:Nat}{M:Mx}{d c t:Nat}
 include hp
theorem zO6{F:Nat->List Int}{b:Bool}(hd:d<m)(hr:Row p n (F d))(hn:n<=1000000)(hq:0<=q/\q<=p-1){v:List Int}(hv:v.length=n){s:Mx×Int×Int}(hs:s.2.1=(d:Int)):
  zG (zN1 p s (q,b) v) (mkR m F,0)=jd (mkR m fun i=>if i=d then mkv n fun j=>(at0 (F d) j*q)%p else F i):=by
 have h7:=hp.pos;have:=zN (body:=zN1 p s (q,b) v) (r:=mkR m fun i=>if i=d then mkv n fun j=>(at0 (F d) j*q)%p else F i) (fun k=>(mkR m fun i=>if i=d then mkv n (fun j=>if j<k then(at0 (F d) j*q)%p else at0 (F d) j)else F i,(k:Int))) n (fun k hk=>by
  have a1:=hr.2 k hk;have a2:=zB2 hp (k:=q) (by omega) a1;have a3:=Ul a1.1 hq.1;rw[Gz]at a2;unfold zN1;simp only
  rw[hv,yS hk,zH,hs,zKC hd];simp only[bs,if_true];rw[yK (by grind[zU]),zW hk,if_neg (by omega)];simp only[bs];rw[zB];simp only[bs,vA];rw[if_neg (by omega)];simp only[bs];rw[Hg a3,zB];simp only[bs,J8,cs];rw[zG2]
  congr 3
  refine jI fun i _=>?_
  by_cases hi:i=d
  ·rw[if_pos hi,if_pos hi,sO]
   grind
  grind) (by
  unfold zN1;simp only
  rw[hv,tQ,zJ]
  congr 2
  refine jI fun i _=>?_
  split
  ·exact zX (by omega)
  ·rfl)
 rw[show((0:Nat):Int)=0 from rfl]at this;rw[<-this]
 congr 2
 refine jI fun i _=>?_
 split
 ·rename_i e;subst e
  conv=>lhs;rw[vE hr.1]
  rfl
 ·rfl
theorem zO7{F:Nat->List Int}(hd:d<m)(hc:c<n)(hr:∀i,i<m->Row p n (F i))(hn:n<=1000000)(hm:m<=1000000){r21:Mx}(hl:r21.length=m){s:Mx×Int×Int}(hs:s.2.1=(d:Int))(av:s.2.2=(c:Int)):
  zG (zP2 p s r21) (mkR m F,0)=jd (mkR m fun i=>if i=d then F d else uN p n (F i) (0-at0 (F i) c) (F d)):=by
 have h7:=hp.pos;have:=zN (body:=zP2 p s r21) (r:=mkR m fun i=>if i=d then F d else uN p n (F i) (0-at0 (F i) c) (F d)) (fun k=>(mkR m fun i=>if i<k/\i≠d then uN p n (F i) (0-at0 (F i) c) (F d)else F i,(k:Int))) m (fun k hk=>by
  have a1:=(hr k hk).2 c hc;unfold zP2;simp only
  rw[hl,yS hk,zH,hs,av]
  by_cases mI:k=d
  ·subst mI
   rw[zCq rfl,zJ,zB,bs,cs]
   grind
  ·rw[zDo,zH,zKC hk,zKC hd]
   simp only[bs,ne_eq,not_true_eq_false,and_false,if_false,Jam,false_and];rw[yK (by rw[(hr k hk).1];exact hc)];simp only[bs];rw[zB];simp only[bs];rw[zBk hp (hr k hk) (hr d hd) (by omega) hn,bs,zB];simp only[bs,J8,cs];rw[zG2]
   grind) (by
  unfold zP2;simp only
  rw[hl,tQ,zJ]
  congr 2
  refine jI fun i hi=>?_
  grind)
 grind
end
end Go.Pl
