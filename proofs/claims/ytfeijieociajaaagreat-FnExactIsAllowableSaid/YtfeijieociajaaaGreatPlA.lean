/- The program's IsAllowable returns what the reference's returns,for all arguments;no conditions. -/
import Derived.Test.YtfeijieociajaaaGreatAbB
import Derived.Test.YtfeijieociajaaaGreatWF
open List renaming replicate→J1,getD_eq_getElem?_getD→J2,getElem?_eq_getElem→J3,length_append→J5,length_cons→J7,mem_cons→J9,mem_append→Ja,mem_map→Jc,range→Jd,length_map→Jf,append_assoc→Jg,append_nil→Jh,getElem?_append_right→Jk,length_replicate→Jl,getElem?_eq_some_iff→Jm,replicate_append_replicate→Jn,getElem_mem→Jp,length_nil→Jt,map_cons→Ju,replicate_succ→Jv,getElem?_map→Jw,take_of_length_le→Jx,getElem?_append_left→Jy,nil_append→K0,getElem?_replicate→K4,take_succ_eq_append_getElem→K5,map_append→K6,range'→K7,cons_append→K9,take_zero→Kd,length_take→Ke,length_drop→Kl,getElem?_append→Ks,range_succ→Kt,range_eq_range'→Kw,ext_getElem?→L4,take_succ_cons→L5,mem_iff_getElem→Ld,map_nil→Le,length_range→Lh,mem_range→Lj,mem_flatMap→Ll,take_length→Ln,set_cons_zero→Ls,replicate_succ'→Lw,getElem?_drop→Ly,replicate_zero→H0,singleton_append→H1,eq_of_mem_replicate→H2,filterMap_cons→Hk,range'_succ→Ho,drop_eq_getElem_cons→Hq,not_mem_nil→G9,getD_cons_zero→Gm,foldl_append→Gu,flatMap_append→U4,set_append_right→U6,drop_zero→Uf,all_cons→Un,drop_of_length_le→Uo,map_congr_left→Uu,flatten_nil→Uz,range_zero→qa9,getElem?_cons_zero→Q7,length→Qf,suffix_cons_iff→Qk,range_succ_eq_map→Qz,findSome?_cons→Jae,getElem?_set→Jan,map_map→Jaz,getElem?_set_ne→Jb0,getElem?_cons_succ→Jb9,take_append_drop→Jbl
open Bool renaming and_eq_true->J4,not_true->Kb,not_false->Ky
open Int renaming toNat_natCast->J8,emod_eq_of_lt->Jq,mul_emod->Jz,emod_emod->K3,add_emod->Ka,emod_lt_of_pos->Kh,emod_nonneg->Kk,zero_add->Kq,mul_one->L8,add_zero->L9,mul_zero->Lo,mul_le_mul->Lr,tmod_eq_emod_of_nonneg->Hg,emod_add_emod->G4,one_mul->Gp,toNat_zero->Gt,mul_comm->Gy,mul_assoc->U1,sub_emod_right->Uh,mul_nonneg->Ul,add_emod_right->Uv,zero_mul->qb9,mul_le_mul_of_nonneg_left->Q8,tmod_add_mul_tdiv->Qq,add_mul_emod_self_left->Qr,tmod_lt_of_pos->Ja6,lt_tmod_of_pos->Ja7,mul_add->Jak,tmod->Jao,emod_self->Jap,natCast_succ->Jbd,add_mul->Jbo
open Nat renaming le_refl->Je,zero_add->Ji,lt_or_ge->Jo,succ_mul->K8,sub_self->Ko,zero_le->Lf,div_add_mod->Lx,le_trans->H8,add_assoc->Ha,lt_trichotomy->G1,strongRecOn->U0,add_zero->Um,zero_mul->Uy,lt_irrefl->Jam,le_mul_of_pos_right->Jau,zero_sub->Jb5
open Option renaming map_eq_some_iff->Kg,isSome_iff_exists->Kv,map_some->He,some->Hm
open Option renaming some->jf,none->jg
open Bool renaming true->jh,false->ji
namespace Go.Pc
variable {k d q:Nat}
abbrev Vec:=List Int
structure Lvl where
 o:Int
 w:Vec
 cs:List Vec
abbrev Pcp:=List Lvl
def zeros(n:Nat):Vec:=J1 n 0
def iter{α:Type}:Nat->(α->α)->α->α
 |0,_,x=>x
 |n+1,f,x=>iter n f (f x)
theorem xR{α:Type}(f:α->α):∀(n:Nat)(x:α),iter (n+1) f x=f (iter n f x)
 |0,_=>rfl
 |n+1,x=>by rw[iter,xR f n (f x)];rfl
theorem zE3{α:Type}(f:α->α)(a:Nat):∀(b:Nat)(x:α),iter (a+b) f x=iter a f (iter b f x)
 |0,_=>rfl
 |b+1,x=>by show iter (a+b) f (f x)=_;rw[zE3 f a b (f x)];rfl
def img{α:Type}(m:α->α->α):List α->Vec->α->α
 |c::cs,x::xs,acc=>img m cs xs (iter x.toNat (fun v=>m v c) acc)
 |_,_,acc=>acc
def V:Pcp->Vec->Prop
 | [],v=>v=[]
 |l::P,v=>match v with
  | []=>False
  |a::x=>(0<=a/\a<l.o)/\V P x
def mul:Pcp->Vec->Vec->Vec
 |l::P,a::x,b::y=>
  let r:=mul P (iter b.toNat (fun v=>img (mul P) l.cs v (zeros P.length)) x) y
  if a+b>=l.o then(a+b-l.o)::mul P l.w r else(a+b)::r
 |_,_,_=>[]
def Ok:Pcp->Prop
 | []=>True
 |l::P=>1<l.o/\V P l.w/\l.cs.length=P.length/\(∀c∈l.cs,V P c)/\Ok P
structure Mon {α:Type} (S:α->Prop) (m:α->α->α) (e:α):Prop where
 cl:∀{a b},S a->S b->S (m a b)
 ein:S e
 assoc:∀{a b c},S a->S b->S c->m (m a b) c=m a (m b c)
 onel:∀{a},S a->m e a=a
 oner:∀{a},S a->m a e=a
structure Grp {α:Type} (S:α->Prop) (m:α->α->α) (e:α):Prop extends Mon S m e where
 inv:∀{a},S a-> ∃b,S b/\m a b=e
theorem Grp.invl{α:Type}{S:α->Prop}{m:α->α->α}{e:α}(h:Grp S m e){a:α}(ha:S a):∃b,S b/\m a b=e/\m b a=e:=by
 obtain⟨b,hb,h1⟩:=h.inv ha;obtain⟨c,hc,h2⟩:=h.inv hb;refine⟨b,hb,h1,?_⟩;have:a=c:=by rw[<-h.oner ha,<-h2,<-h.assoc ha hb hc,h1,h.onel hc]
 grind
theorem Grp.cancel_l{α:Type}{S:α->Prop}{m:α->α->α}{e:α}(h:Grp S m e){a b c:α}(ha:S a)(hb:S b)(hc:S c)(hh:m a b=m a c):b=c:=by obtain⟨d,hd,_,h2⟩:=h.invl ha;rw[<-h.onel hb,<-h.onel hc,<-h2,h.assoc hd ha hb,h.assoc hd ha hc,hh]
section
variable {α:Type}{S:α->Prop}{m:α->α->α}{e:α}
def pw(m:α->α->α)(e:α)(x:α)(k:Nat):α:=iter k (fun v=>m v x) e
theorem wV(h:Mon S m e){x:α}(hx:S x):∀k,S (pw m e x k)
 |0=>h.ein
 |k+1=>by rw[pw,xR];exact h.cl (wV h hx k) hx
theorem vX{f:α->α}(hf:∀a,S a->S (f a)):∀(k:Nat){x:α},S x->S (iter k f x)
 |0,_,hx=>hx
 |k+1,_,hx=>vX hf k (hf _ hx)
theorem zE4(h:Mon S m e){x a:α}(hx:S x)(ha:S a):∀k,iter k (fun v=>m v x) a=m a (pw m e x k)
 |0=>(h.oner ha).symm
 |k+1=>by rw[xR,zE4 h hx ha k];show _=m a (iter (k+1) (fun v=>m v x) e);rw[xR];exact h.assoc ha (wV h hx k) hx
theorem zAP(h:Mon S m e){x:α}(hx:S x)(a b:Nat):pw m e x (a+b)=m (pw m e x a) (pw m e x b):=by rw[Nat.add_comm,pw,zE3,<-zE4 h hx (wV h hx a) b];rfl
theorem zKB(h:Mon S m e){x:α}(hx:S x):pw m e x 1=x:=h.onel hx
theorem zU8(h:Mon S m e){x:α}(hx:S x)(k:Nat):pw m e x (k+1)=m x (pw m e x k):=by rw[Nat.add_comm,zAP h hx 1 k,zKB h hx]
theorem qE(h:∀{a b},S a->S b->S (m a b)):∀(cs:List α)(x:Vec){a:α},(∀c∈cs,S c)->S a->S (img m cs x a)
 |c::cs,x::xs,_,hc,ha=>by simp only[img];exact qE h cs xs (by grind) (vX (by simp_all) _ ha)
 | [],_,_,_,ha=>by grind[img]
 |_::_,[],_,_,ha=>by grind[img]
theorem zF1(h:Mon S m e)(cs:List α)(x:Vec){a:α}(hc:∀c∈cs,S c)(ha:S a):S (img m cs x a):=qE h.cl cs x hc ha
theorem zE5(h:Mon S m e):∀(cs:List α)(x:Vec){a:α},(∀c∈cs,S c)->S a->img m cs x a=m a (img m cs x e)
 |c::cs,x::xs,a,hc,ha=>by
  have h1:S c:=hc c (by simp);have h2:∀c∈cs,S c:=by grind
  simp only[img];rw[zE4 h h1 ha,zE5 h cs xs h2 (h.cl ha (wV h h1 _)),zE4 h h1 h.ein,zE5 h cs xs h2 (h.cl h.ein (wV h h1 _)),h.onel (wV h h1 _),
   h.assoc ha (wV h h1 _) (zF1 h cs xs h2 h.ein)]
 | [],_,a,_,ha=>by simp[img,h.oner ha]
 |_::_,[],a,_,ha=>by simp[img,h.oner ha]
theorem sY(h:Mon S m e){c:α}{cs:List α}{x:Int}{xs:Vec}(hc:S c)(gY:∀c∈cs,S c):img m (c::cs) (x::xs) e=m (pw m e c x.toNat) (img m cs xs e):=by simp only[img];rw[zE5 h cs xs gY (vX (fun a ha=>h.cl ha hc) _ h.ein)];rfl
theorem tN(m:α->α->α):∀(cs:List α)(n:Nat)(a:α),img m cs (zeros n) a=a
 | [],_,_=>by simp[img]
 |_::_,0,_=>by rfl
 |c::cs,n+1,a=>by simp only[zeros,Jv,img,Gt,iter];exact tN m cs n a
theorem zH7(h:Mon S m e){g:α}(hg:S g):∀(cs ds:List α)(x:Vec),(∀c∈cs,S c)->(∀c∈ds,S c)->cs.length=ds.length->(∀(k:Nat) c d,cs[k]? =jf c->ds[k]? =jf d->m c g=m g d)->m (img m cs x e) g=m g (img m ds x e)
 | [],[],x,_,_,_,_=>by simp[img,h.onel hg,h.oner hg]
 |c::cs,d::ds,[],_,_,_,_=>by simp[img,h.onel hg,h.oner hg]
 |c::cs,d::ds,x::xs,hc,hd,hl,hp=>by
  have cW:S c:=hc c (by simp);have hd0:S d:=hd d (by simp);have gY:∀c∈cs,S c:=by grind
  have mm:∀c∈ds,S c:=by grind
  have key:∀k,m (pw m e c k) g=m g (pw m e d k):=by
   intro k
   induction k with
   |zero=>simp[pw,iter,h.onel hg,h.oner hg]
   |succ k ih=>
    have h0:m c g=m g d:=hp 0 c d rfl rfl;rw[pw,xR,pw,xR];show m (m (pw m e c k) c) g=m g (m (pw m e d k) d);rw[h.assoc (wV h cW k) cW hg,h0,<-h.assoc (wV h cW k) hg hd0,ih,h.assoc hg (wV h hd0 k) hd0]
  rw[sY h cW gY,sY h hd0 mm,h.assoc (wV h cW _) (zF1 h _ _ gY h.ein) hg,zH7 h hg cs ds xs gY mm (by grind) (fun k c d h1 h2=>hp (k+1) c d (by grind) (by grind)),
   <-h.assoc (wV h cW _) hg (zF1 h _ _ mm h.ein),key,h.assoc hg (wV h hd0 _) (zF1 h _ _ mm h.ein)]
theorem zQE{β:Type}{T:β->Prop}{n:β->β->β}{f:β}(h:Mon S m e)(h':Mon T n f)(φ:α->β)(gK:∀a,S a->T (φ a))(h1:φ e=f)(hm:∀a b,S a->S b->φ (m a b)=n (φ a) (φ b)):∀(cs:List α)(x:Vec),(∀c∈cs,S c)->φ (img m cs x e)=img n (cs.map φ) x f
 | [],_,_=>by simp[img,h1]
 |c::cs,[],_=>by simp[img,h1]
 |c::cs,x::xs,hc=>by
  have cW:S c:=hc c (by simp);have gY:∀c∈cs,S c:=by grind
  have key:∀k,φ (pw m e c k)=pw n f (φ c) k:=by
   intro k
   induction k with
   |zero=>grind[pw,iter]
   |succ k ih=>
    grind[pw,xR,wV]
  rw[sY h cW gY,Ju,sY h' (gK c cW) (by simp_all),hm _ _ (wV h cW _) (zF1 h _ _ gY h.ein),key,zQE h h' φ gK h1 hm cs xs gY]
end
theorem wD:∀{P:Pcp},Ok P->V P (zeros P.length)
 | [],_=>rfl
 |l::P,h=>by simp only[Ok]at h;simp only[J7,zeros,Jv,V];exact⟨by omega,wD h.2.2.2.2⟩
theorem yO:∀{P:Pcp},Ok P-> ∀{x y:Vec},V P x->V P y->V P (mul P x y)
 | [],_,_,_,hx,hy=>by rfl
 |l::P,h,[],_,hx,_=>by grind[V]
 |l::P,h,_::_,[],_,hy=>by grind[V]
 |l::P,h,a::x,b::y,hx,hy=>by
  simp only[Ok]at h;simp only[V]at hx hy;have h1:∀v,V P v->V P (img (mul P) l.cs v (zeros P.length)):=fun v hv=>qE (yO h.2.2.2.2) l.cs v h.2.2.2.1 (wD h.2.2.2.2)
  have h2:=yO h.2.2.2.2 (vX h1 b.toNat hx.2) hy.2;simp only[mul];split
  ·exact⟨by omega,yO h.2.2.2.2 h.2.1 h2⟩
  ·exact⟨by omega,h2⟩
def Rel{α:Type}(m:α->α->α)(e:α):Pcp->List α->Prop
 | [],s=>s=[]
 |l::P,s=>match s with
  | []=>False
  |g::s=>pw m e g l.o.toNat=img m s l.w e/\(∀(k:Nat) c d,s[k]? =jf c->l.cs[k]? =jf d->m c g=m g (img m s d e))/\Rel m e P s
section
variable {α:Type}{S:α->Prop}{m:α->α->α}{e:α}
theorem yEk(h:Mon S m e):∀(P:Pcp)(s:List α),Ok P->(∀g∈s,S g)->Rel m e P s-> ∀x y,V P x->V P y->img m s (mul P x y) e=m (img m s x e) (img m s y e)
 | [],s,_,_,hr,x,y,hx,hy=>by simp only[Rel]at hr;subst hr;simp[img,h.onel h.ein]
 |l::P,[],_,_,hr,_,_,_,_=>by grind[Rel]
 |l::P,g::s,_,_,_,[],_,hx,_=>by grind[V]
 |l::P,g::s,_,_,_,_::_,[],_,hy=>by grind[V]
 |l::P,g::s,hk,hs,hr,a::x,b::y,hx,hy=>by
  simp only[Ok]at hk;simp only[Rel]at hr;simp only[V]at hx hy;obtain⟨ho,hw,gy,gY,dz⟩:=hk;obtain⟨pY,pE,b9⟩:=hr;have hg:S g:=hs g (by simp);have my:∀c∈s,S c:=by grind
  have gf:s.length=P.length:=by
   clear pY pE hx hy hw gy gY hs my
   induction P generalizing s with
   |nil=>grind[Rel]
   |cons l P ih=>
    cases s with
    |nil=>grind[Rel]
    |cons c s=>grind[Rel,Ok]
  have ih:=yEk h P s dz my b9;have hφ:∀v,S (img m s v e):=fun v=>zF1 h s v my h.ein
  have hmP:∀{a b},V P a->V P b->V P (mul P a b):=yO dz;have a8:∀v,V P v->V P (img (mul P) l.cs v (zeros P.length)):=fun v hv=>qE hmP l.cs v gY (wD dz)
  have hσ:∀v,V P v->m (img m s v e) g=m g (img m s (img (mul P) l.cs v (zeros P.length)) e):=by
   intro v hv;have key:∀(cs:List Vec)(v:Vec)(acc:Vec),(∀c∈cs,V P c)->V P acc->img m s (img (mul P) cs v acc) e=img m (cs.map fun c=>img m s c e) v (img m s acc e):=by
    intro cs
    induction cs with
    |nil=>grind[img]
    |cons c cs ihc=>
     intro v acc hc hacc;cases v with
     |nil=>simp[img]
     |cons z v=>
      have cW:V P c:=hc c (by simp);have it:∀k acc,V P acc->img m s (iter k (fun v=>mul P v c) acc) e=iter k (fun v=>m v (img m s c e)) (img m s acc e):=by
       intro k
       induction k with
       |zero=>intro acc _;rfl
       |succ k ihk=>
        simp_all[iter]
      simp only[img,Ju];rw[ihc v _ (by simp_all) (vX (by grind) _ hacc),it _ _ hacc]
   rw[key l.cs v (zeros P.length) gY (wD dz),tN];refine zH7 h hg s _ v my (by simp_all) (by grind) ?_;intro k c d hc hd;simp only[Jw,Kg]at hd;obtain⟨d',mO,rfl⟩:=hd
   grind
  have hσk:∀k v,V P v->m (img m s v e) (pw m e g k)=m (pw m e g k) (img m s (iter k (fun v=>img (mul P) l.cs v (zeros P.length)) v) e):=by
   intro k
   induction k with
   |zero=>intro v _;simp[pw,iter,h.onel (hφ v),h.oner (hφ v)]
   |succ k ihk=>
    intro v hv;rw[zU8 h hg,<-h.assoc (hφ v) hg (wV h hg k),hσ v hv,h.assoc hg (hφ _) (wV h hg k),ihk _ (a8 v hv),<-h.assoc hg (wV h hg k) (hφ _)];rfl
  have fH:=wV h hg a.toNat;have te:=wV h hg b.toNat;have ej:V P (iter b.toNat (fun v=>img (mul P) l.cs v (zeros P.length)) x):=vX a8 _ hx.2;have aL:m (img m (g::s) (a::x) e) (img m (g::s) (b::y) e)=m (pw m e g (a.toNat+b.toNat)) (img m s (mul P (iter b.toNat (fun v=>img (mul P) l.cs v (zeros P.length)) x) y) e):=by rw[sY h hg my,sY h hg my,h.assoc fH (hφ x) (h.cl te (hφ y)),<-h.assoc (hφ x) te (hφ y),hσk _ _ hx.2,h.assoc te (hφ _) (hφ y),<-ih _ _ ej hy.2,<-h.assoc fH te (hφ _),zAP h hg]
  rw[aL];simp only[mul];split
  ·rename_i hge
   rw[sY h hg my,ih _ _ hw (hmP ej hy.2),<-pY,<-h.assoc (wV h hg _) (wV h hg _) (hφ _),<-zAP h hg]
   congr 2
   omega
  ·rw[sY h hg my]
   congr 2
   omega
end
def xH(n j:Nat):Vec:=(zeros n).set j 1
def sig(P:Pcp)(l:Lvl)(v:Vec):Vec:=img (mul P) l.cs v (zeros P.length)
def xC:Pcp->Prop
 | []=>True
 |l::P=>xC P/\Rel (mul P) (zeros P.length) P l.cs/\sig P l l.w=l.w/\ ∀j,j<P.length->mul P l.w (iter l.o.toNat (sig P l) (xH P.length j))=mul P (xH P.length j) l.w
theorem zCV(n:Nat):xH (n+1) 0=1::zeros n:=rfl
theorem zF2(n j:Nat):xH (n+1) (j+1)=0::xH n j:=rfl
def wC(n:Nat):List Vec:=(Jd n).map (xH n)
theorem zOv(n:Nat):wC (n+1)=(1::zeros n)::(wC n).map (0::·):=by
 simp only[wC,Qz,Ju,Jaz,zCV]
 congr 1
theorem zCt:∀{P:Pcp},Ok P-> ∀{j:Nat},j<P.length->V P (xH P.length j)
 | [],_,_,hj=>by simp at hj
 |l::P,h,0,_=>by grind[Ok,zCV,V,wD]
 |l::P,h,j+1,hj=>by simp only[Ok]at h;rw[J7,zF2];simp only[V];exact⟨by omega,zCt h.2.2.2.2 (by grind)⟩
theorem zCu{l:Lvl}{P:Pcp}(h:Ok (l::P)){v:Vec}(_hv:V P v):V P (sig P l v):=by simp only[Ok]at h;exact qE (yO h.2.2.2.2) l.cs v h.2.2.2.1 (wD h.2.2.2.2)
theorem yK(l:Lvl)(P:Pcp)(a b:Int)(x y:Vec):mul (l::P) (a::x) (b::y)=if a+b>=l.o then(a+b-l.o)::mul P l.w (mul P (iter b.toNat (sig P l) x) y)else(a+b)::mul P (iter b.toNat (sig P l) x) y:=rfl
theorem zRS{n:Nat}{c:Vec}(h:(wC n)[k]? =jf c):k<n/\c=xH n k:=by
 simp only[wC,Jw,Kg]at h
 grind
theorem normal:∀(P:Pcp),Ok P->(∀Q,Q<:+P->Mon (V Q) (mul Q) (zeros Q.length))-> ∀x,V P x->img (mul P) (wC P.length) x (zeros P.length)=x
 | [],_,_,x,hx=>by grind[V,img,zeros]
 |l::P,_,_,[],hx=>by grind[V]
 |l::P,h,hM,a::x,hx=>by
  have jc:=hM (l::P) (List.suffix_refl _);have hMP:=hM P (by simp);have h':=h;simp only[Ok]at h;simp only[V]at hx;rw[J7,zOv];have hz:V P (zeros P.length):=wD h.2.2.2.2;have dt:V (l::P) (1::zeros P.length):=by grind[V]
  have fP:∀c∈(wC P.length).map (0::·),V (l::P) c:=by
   intro c hc;simp only[wC,Jaz,Jc,Lj]at hc;obtain⟨j,hj,rfl⟩:=hc;simp only[Function.comp,V]
   grind[zCt]
  have ck:V (l::P) (zeros (P.length+1)):=by grind[wD]
  rw[show zeros (P.length+1)=zeros (l::P).length from rfl];rw[sY jc dt fP];have sz:∀k:Nat,iter k (sig P l) (zeros P.length)=zeros P.length:=by
   intro k
   induction k with
   |zero=>rfl
   |succ k ih=>grind[iter,sig,tN]
  have h1:∀k:Nat,(k:Int)<l.o->pw (mul (l::P)) (zeros (l::P).length) (1::zeros P.length) k=(k:Int)::zeros P.length:=by
   intro k
   induction k with
   |zero=>intro _;rfl
   |succ k ih=>
    intro hk;rw[pw,xR];show mul (l::P) (pw (mul (l::P)) (zeros (l::P).length) (1::zeros P.length) k) (1::zeros P.length)=_;rw[ih (by omega),yK,if_neg (by omega)];rw[sz,hMP.onel hz];rfl
  have h2:∀(cs:List Vec)(y acc:Vec),(∀c∈cs,V P c)->V P acc->img (mul (l::P)) (cs.map (0::·)) y (0::acc)=0::img (mul P) cs y acc:=by
   intro cs
   induction cs with
   |nil=>grind[img]
   |cons c cs ih=>
    intro y acc hc hacc;cases y with
    |nil=>simp[img]
    |cons z y=>
     have cW:V P c:=hc c (by simp);have it:∀(k:Nat)(acc:Vec),V P acc->iter k (fun v=>mul (l::P) v (0::c)) (0::acc)=0::iter k (fun v=>mul P v c) acc:=by
      intro k
      induction k with
      |zero=>intro _ _;rfl
      |succ k ihk=>
       intro acc hacc;simp only[iter];rw[yK,if_neg (by omega)];exact ihk _ (yO h.2.2.2.2 hacc cW)
     simp only[Ju,img];rw[it _ _ hacc,ih _ _ (by grind) (vX (by grind[yO]) _ hacc)]
  have p6:∀c∈wC P.length,V P c:=by
   intro c hc;simp only[wC,Jc,Lj]at hc;obtain⟨j,hj,rfl⟩:=hc
   grind[zCt]
  rw[h1 a.toNat (by omega),show zeros (l::P).length=0::zeros P.length from rfl,h2 _ _ _ p6 hz,normal P h.2.2.2.2 (by grind) x hx.2,yK,if_neg (by omega)];simp only[Gt,iter];rw[hMP.onel hx.2]
  grind
theorem zBQ:∀(P:Pcp),Ok P->xC P->Grp (V P) (mul P) (zeros P.length)
 | [],_,_=>by
  refine⟨⟨fun _ _=>rfl,rfl,fun _ _ _=>rfl,?_,?_⟩,fun ha=>⟨[],rfl,rfl⟩⟩<;>
  ·intro a ha
   simp only[V]at ha;subst ha;rfl
 |l::P,h,hc=>by
  have h':=h;simp only[Ok]at h;simp only[xC]at hc;obtain⟨ho,hw,gy,gY,hP⟩:=h;obtain⟨iV,b8,aX,aU⟩:=hc;have N:=zBQ P hP iV;have hM:∀Q,Q<:+P->Mon (V Q) (mul Q) (zeros Q.length):=by
   intro Q hQ;obtain⟨t,ht⟩:=hQ;have:Ok Q/\xC Q:=by
    clear N hw gy gY b8 aX aU h'
    induction t generalizing P with
    |nil=>grind
    |cons a t ih=>
     simp at ht;subst ht;simp only[Ok]at hP;simp only[xC]at iV
     grind
   have gC:SizeOf.sizeOf Q<=SizeOf.sizeOf P:=by
    rw[<-ht]
    clear N hw gy gY b8 aX aU h' hP iV ht this
    induction t with
    |nil=>simp
    |cons a t ih=>grind
   exact(zBQ Q this.1 this.2).toMon
  have hz:V P (zeros P.length):=wD hP;have σin:∀v,V P v->V P (sig P l v):=by grind[zCu]
  have σhom:∀x y,V P x->V P y->sig P l (mul P x y)=mul P (sig P l x) (sig P l y):=fun x y hx hy=>yEk N.toMon P l.cs hP gY b8 x y hx hy
  have σz:sig P l (zeros P.length)=zeros P.length:=tN _ _ _ _;have itin:∀(k:Nat) v,V P v->V P (iter k (sig P l) v):=fun k v hv=>vX σin k hv
  have ithom:∀(k:Nat) x y,V P x->V P y->iter k (sig P l) (mul P x y)=mul P (iter k (sig P l) x) (iter k (sig P l) y):=by
   intro k
   induction k with
   |zero=>intro _ _ _ _;rfl
   |succ k ih=>simp_all[iter]
  have itz:∀k:Nat,iter k (sig P l) (zeros P.length)=zeros P.length:=by
   intro k
   induction k with
   |zero=>rfl
   |succ k ih=>grind[iter]
  have itw:∀k:Nat,iter k (sig P l) l.w=l.w:=by
   intro k
   induction k with
   |zero=>rfl
   |succ k ih=>grind[iter]
  have p6:∀c∈wC P.length,V P c:=by
   intro c hc;simp only[wC,Jc,Lj]at hc;obtain⟨j,hj,rfl⟩:=hc
   grind[zCt]
  have inner:∀x,V P x->mul P x l.w=mul P l.w (iter l.o.toNat (sig P l) x):=by
   intro x hx;have hnf:=normal P hP hM x hx;have fZ:=zQE N.toMon N.toMon (iter l.o.toNat (sig P l)) (by grind) (itz _) (by grind) (wC P.length) x p6;rw[<-hnf,fZ];refine zH7 N.toMon hw _ _ x p6 (by simp_all) (by simp) ?_;intro k c d hc hd;rw[Jw,Kg]at hd;obtain⟨c',pR,rfl⟩:=hd;rw[hc]at pR;simp at pR;subst pR;obtain⟨hk,rfl⟩:=zRS hc
   grind
  have e:∀(x y z:Vec)(b c:Int),V P x->V P y->V P z->0<=b->0<=c->
    mul P (iter c.toNat (sig P l) (mul P (iter b.toNat (sig P l) x) y)) z=mul P (iter (b+c).toNat (sig P l) x) (mul P (iter c.toNat (sig P l) y) z)/\
    mul P (iter c.toNat (sig P l) (mul P l.w (mul P (iter b.toNat (sig P l) x) y))) z=mul P l.w (mul P (iter (b+c).toNat (sig P l) x) (mul P (iter c.toNat (sig P l) y) z))/\
    (l.o<=b+c->mul P (iter (b+c-l.o).toNat (sig P l) x) (mul P l.w (mul P (iter c.toNat (sig P l) y) z))=mul P l.w (mul P (iter (b+c).toNat (sig P l) x) (mul P (iter c.toNat (sig P l) y) z))):=by
   intro x y z b c hx hy hz hb hcc;have iW:=itin b.toNat x hx;have hcy:=itin c.toNat y hy;have hbc:iter c.toNat (sig P l) (iter b.toNat (sig P l) x)=iter (b+c).toNat (sig P l) x:=by rw[<-zE3];congr 1;omega
   have j5:=itin (b+c).toNat x hx;have e1:mul P (iter c.toNat (sig P l) (mul P (iter b.toNat (sig P l) x) y)) z=mul P (iter (b+c).toNat (sig P l) x) (mul P (iter c.toNat (sig P l) y) z):=by rw[ithom _ _ _ iW hy,hbc,N.assoc j5 hcy hz]
   refine⟨e1,?_,?_⟩
   ·rw[ithom _ _ _ hw (N.cl iW hy),itw,N.assoc hw (itin _ _ (N.cl iW hy)) hz,e1]
   ·intro hge
    have aZ:=N.cl hcy hz;rw[<-N.assoc (itin _ x hx) hw aZ,inner _ (itin _ x hx),<-zE3,N.assoc hw (itin _ x hx) aZ]
    congr 3
    omega
  refine⟨⟨by grind[yO],wD h',?_,?_,?_⟩,?_⟩
  ·intro A B C hA hB hC
   match A,B,C,hA,hB,hC with
   |a::x,b::y,c::z,hA,hB,hC=>
    simp only[V]at hA hB hC;obtain⟨e1,e2,e3⟩:=e x y z b c hA.2 hB.2 hC.2 hB.1.1 hC.1.1
    by_cases c1:a+b>=l.o<;>by_cases c2:b+c>=l.o
    ·rw[yK,if_pos c1,yK l P b c,if_pos c2,yK,yK,e2,e3 c2]
     grind
    ·rw[yK,if_pos c1,yK l P b c,if_neg c2,yK,yK,e2,if_neg (by omega),if_pos (by omega)]
     grind
    ·rw[yK,if_neg c1,yK l P b c,if_pos c2,yK,yK,e1,e3 c2,if_pos (by omega),if_neg (by omega)]
     grind
    ·rw[yK,if_neg c1,yK l P b c,if_neg c2,yK,yK,e1]
     grind
  ·intro A hA
   match A,hA with
   |a::x,hA=>
    simp only[V]at hA;show mul (l::P) (0::zeros P.length) (a::x)=_;rw[yK,if_neg (by omega),itz,N.onel hA.2,Kq]
  ·intro A hA
   match A,hA with
   |a::x,hA=>
    simp only[V]at hA;show mul (l::P) (a::x) (0::zeros P.length)=_;rw[yK,if_neg (by omega)];simp only[Gt,iter];rw[N.oner hA.2,L9]
  ·intro A hA
   match A,hA with
   |a::x,hA=>
    simp only[V]at hA
    by_cases ha:a=0
    ·obtain⟨y,hy,h1⟩:=N.inv hA.2
     refine⟨0::y,by simp only[V];grind,?_⟩;rw[yK,if_neg (by omega)];simp only[Gt,iter];rw[h1,ha];rfl
    ·have ae:=itin (l.o-a).toNat x hA.2
     obtain⟨y,hy,h1⟩:=N.inv (N.cl hw ae);refine⟨(l.o-a)::y,by simp only[V];grind,?_⟩;rw[yK,if_pos (by omega),<-N.assoc hw ae hy,h1,show a+(l.o-a)-l.o=0 by omega];rfl
termination_by P=>P
structure Fil {α:Type} (S:α->Prop) (m:α->α->α) (e:α) (n:Nat) (o:Nat->Int) (co:α->Nat->Int):Prop where
 g:Grp S m e
 r:∀{a d},S a->d<n->0<=co a d/\co a d<o d
 e0:∀{d},d<n->co e d=0
 ex:∀{a b},S a->S b->(∀d,d<n->co a d=co b d)->a=b
 ad:∀{a b d},S a->S b->d<n->(∀j,j<d->co b j=0)->(∀j,j<d->co (m a b) j=co a j)/\co (m a b) d=(co a d+co b d)%o d
inductive Gen {α:Type} (S:α->Prop) (m:α->α->α) (e:α) (X:α->Prop):α->Prop
 |one:Gen S m e X e
 |x {a}:X a->Gen S m e X a
 |m {a b}:Gen S m e X a->Gen S m e X b->Gen S m e X (m a b)
 |i {a b}:Gen S m e X a->S b->m a b=e->Gen S m e X b
section
variable {α:Type}{S:α->Prop}{m:α->α->α}{e:α}{X Y:α->Prop}
theorem Gen.to(h:∀a,X a->Gen S m e Y a){a:α}(ha:Gen S m e X a):Gen S m e Y a:=by
 induction ha with
 |one=>exact .one
 |x hx=>exact h _ hx
 |m _ _ h1 h2=>exact .m h1 h2
 |i _ hb hh h1=>exact .i h1 hb hh
theorem Gen.mono(h:∀a,X a->Y a){a:α}(ha:Gen S m e X a):Gen S m e Y a:=ha.to fun _ h'=>.x (h _ h')
theorem Gen.pw{a:α}(ha:Gen S m e X a):∀k,Gen S m e X (pw m e a k)
 |0=>.one
 |k+1=>by rw[Pc.pw,xR];exact .m (ha.pw k) ha
variable (g:Grp S m e)
 include g
theorem Gen.in(hX:∀a,X a->S a){a:α}(ha:Gen S m e X a):S a:=by
 induction ha with
 |one=>exact g.ein
 |x hx=>exact hX _ hx
 |m _ _ h1 h2=>exact g.cl h1 h2
 |i _ hb _ _=>exact hb
theorem Grp.inv_l{a b:α}(ha:S a)(hb:S b)(h:m a b=e):m b a=e:=by obtain⟨c,hc,h1,h2⟩:=g.invl ha;rw[show b=c from g.cancel_l ha hb hc (h.trans h1.symm)];exact h2
theorem Gen.left(hX:∀a,X a->S a){a b:α}(ha:S a)(hb:Gen S m e X b)(h:Gen S m e X (m a b)):Gen S m e X a:=by
 have hbs:=hb.in g hX;obtain⟨c,hc,h1,_⟩:=g.invl hbs;have:=Gen.m h (.i hb hc h1)
 rwa [g.assoc ha hbs hc,h1,g.oner ha]at this
theorem Gen.right(hX:∀a,X a->S a){a b:α}(ha:Gen S m e X a)(hb:S b)(h:Gen S m e X (m a b)):Gen S m e X b:=by
 have has:=ha.in g hX;obtain⟨c,hc,h1,h2⟩:=g.invl has;have:=Gen.m (.i ha hc h1) h
 rwa [<-g.assoc hc has hb,h2,g.onel hb]at this
end
section
variable {α:Type}{S:α->Prop}{m:α->α->α}{e:α}{n:Nat}{o:Nat->Int}{co:α->Nat->Int} (F:Fil S m e n o co)
 include F
theorem Fil.dm{a b:α}(hd:d<=n)(ha:S a)(hb:S b)(za:∀j,j<d->co a j=0)(zb:∀j,j<d->co b j=0):∀j,j<d->co (m a b) j=0:=fun j hj=>by have h:=(F.ad ha hb (by omega:j<n) fun i hi=>zb i (by omega)).2;rw[h,za j hj,zb j hj];simp
theorem Fil.md{x:Int}(hd:d<n){a:α}(ha:S a)(h:co a d=x):x%o d=x:=by have:=F.r ha hd;rw[<-h];exact Jq this.1 this.2
theorem Fil.pwc{t:α}{d:Nat}(hd:d<n)(ht:S t)(zt:∀j,j<d->co t j=0):∀k,(∀j,j<d->co (pw m e t k) j=0)/\co (pw m e t k) d=(k*co t d)%o d
 |0=>⟨fun j hj=>F.e0 (by omega),by rw[pw,iter,F.e0 hd];simp⟩
 |k+1=>by
  have ih:=Fil.pwc hd ht zt k;have hp:=wV F.g.toMon ht k;have e1:pw m e t (k+1)=m (pw m e t k) t:=by rw[pw,xR];rfl
  have h:=F.ad hp ht hd zt;rw[e1];refine⟨fun j hj=>(h.1 j hj).trans (ih.1 j hj),?_⟩;rw[h.2,ih.2,G4]
  congr 1
  rw[Jbd,Jbo,Gp]
theorem Fil.cmd{a b w:α}(hk:k<n)(ha:S a)(hb:S b)(hw:S w)(za:∀j,j<k->co a j=0)(zb:∀j,j<k+1->co b j=0)(h:m (m b a) w=m a b\/m (m a b) w=m b a):∀j,j<k+1->co w j=0:=by
 have e1:∀j,j<k+1->co (m b a) j=co a j:=fun j hj=>by have h:=(F.ad hb ha (by omega:j<n) fun i hi=>za i (by omega)).2;rw[h,zb j hj,Kq];exact F.md (by omega) ha rfl
 have e2:∀j,j<k+1->co (m a b) j=co a j:=fun j hj=>by have h:=(F.ad ha hb (by omega:j<n) fun i hi=>zb i (by omega)).2;rw[h,zb j hj,L9];exact F.md (by omega) ha rfl
 intro j
 induction j using U0 with
 |ind j ih=>
  intro hj;have fL:j<n:=by omega
  have hr:=F.r ha fL;have bU:=F.r hw fL;have key:(co a j+co w j)%o j=co a j:=by
   rcases h with h|h
   ·have h1:=(F.ad (F.g.cl hb ha) hw fL fun i hi=>ih i hi (by omega)).2
    rw[h,e2 j hj,e1 j hj]at h1;exact h1.symm
   ·have h1:=(F.ad (F.g.cl ha hb) hw fL fun i hi=>ih i hi (by omega)).2
    rw[h,e1 j hj,e2 j hj]at h1;exact h1.symm
  by_cases g:co a j+co w j<o j
  ·rw[Jq (by omega) g]at key;omega
  ·rw[<-Uh,Jq (by omega) (by omega)]at key;omega
structure Tab (S:α->Prop) (n:Nat) (co:α->Nat->Int) (T:Nat->Option α):Prop where
 h:∀{k t},T k=jf t->k<n/\S t/\(∀j,j<k->co t j=0)/\co t k=1
def GX(n:Nat)(co:α->Nat->Int)(T:Nat->Option α)(Q:List α)(k:Nat)(a:α):Prop:=(∃j,k<=j/\T j=jf a)\/(a∈Q/\ ∀j,j<k->j<n->co a j=0)
 omit F in
theorem GX.s{T:Nat->Option α}{Q:List α}(hT:Tab S n co T)(hQ:∀a∈Q,S a):∀a,GX n co T Q k a->S a
  |_,.inl ⟨_,_,h⟩=>(hT.h h).2.1
  |a,.inr h=>hQ a h.1
section
variable {T:Nat->Option α} (hT:Tab S n co T)
structure Clo (S:α->Prop) (m:α->α->α) (e:α) (n:Nat) (o:Nat->Int) (co:α->Nat->Int) (T:Nat->Option α) (Q:List α):Prop where
 p:∀{k t},T k=jf t->Gen S m e (GX n co T Q (k+1)) (pw m e t (o k).toNat)
 c:∀{k j t u},T k=jf t->T j=jf u->k<j-> ∃c,Gen S m e (GX n co T Q (k+1)) c/\m u t=m t c
variable (hC:Clo S m e n o co T [])
 include hT hC
theorem Clo.conj{t:α}(ht:T k=jf t){y:α}(hy:Gen S m e (GX n co T [] (k+1)) y):∃c,Gen S m e (GX n co T [] (k+1)) c/\m y t=m t c:=by
 have eP:=(hT.h ht).2.1;have hG:∀{a},Gen S m e (GX n co T [] (k+1)) a->S a:=fun h=>h.in F.g (GX.s hT (by simp))
 induction hy with
 |one=>exact⟨e,.one,by rw[F.g.onel eP,F.g.oner eP]⟩
 |x hx=>
  rcases hx with⟨j,h1,h2⟩|⟨h,_⟩
  ·exact hC.c ht h2 (by omega)
  ·simp at h
 | @m a b ga gb ha hb=>
  obtain⟨c,c1,c2⟩:=ha;obtain⟨d,d1,d2⟩:=hb;refine⟨m c d,.m c1 d1,?_⟩;rw[F.g.assoc (hG ga) (hG gb) eP,d2,<-F.g.assoc (hG ga) eP (hG d1),c2,F.g.assoc eP (hG c1) (hG d1)]
 | @i a b ga hb hh ha=>
  obtain⟨c,c1,c2⟩:=ha;obtain⟨d,d1,d2,_⟩:=F.g.invl (hG c1);have hl:=F.g.inv_l (hG ga) hb hh;refine⟨d,.i c1 d1 d2,F.g.cancel_l (hG ga) (F.g.cl hb eP) (F.g.cl eP d1) ?_⟩;rw[<-F.g.assoc (hG ga) hb eP,hh,F.g.onel eP,<-F.g.assoc (hG ga) eP d1,c2,F.g.assoc eP (hG c1) d1,d2,F.g.oner eP]
theorem Clo.conjs{k:Nat}{t:α}(ht:T k=jf t):∀(a:Nat){y:α},Gen S m e (GX n co T [] (k+1)) y-> ∃c,Gen S m e (GX n co T [] (k+1)) c/\m y (pw m e t a)=m (pw m e t a) c
 |0,y,hy=>⟨y,hy,by have:=hy.in F.g (GX.s hT (by simp));show m y e=m e y;rw[F.g.onel this,F.g.oner this]⟩
 |a+1,y,hy=>by
  have hG:∀{a},Gen S m e (GX n co T [] (k+1)) a->S a:=fun h=>h.in F.g (GX.s hT (by simp))
  have eP:=(hT.h ht).2.1;obtain⟨c,c1,c2⟩:=Clo.conjs ht a hy;obtain⟨d,d1,d2⟩:=Clo.conj F hT hC ht c1;have hp:=wV F.g.toMon eP a;refine⟨d,d1,?_⟩;rw[show pw m e t (a+1)=m (pw m e t a) t from by rw[pw,xR];rfl,<-F.g.assoc (hG hy) hp eP,c2,F.g.assoc hp (hG c1) eP,d2,F.g.assoc hp eP (hG d1)]
theorem Clo.pws{k:Nat}{t:α}(ht:T k=jf t):∀N:Nat,Gen S m e (GX n co T [] (k+1)) (pw m e t (N*(o k).toNat))
 |0=>by rw[Uy];exact .one
 |N+1=>by rw[K8,zAP F.g.toMon (hT.h ht).2.1];exact .m (Clo.pws ht N) (hC.p ht)
theorem Clo.form{t:α}(ht:T k=jf t){x:α}(hx:Gen S m e (GX n co T [] k) x):∃(a:Nat)(y:α),Gen S m e (GX n co T [] (k+1)) y/\x=m (pw m e t a) y:=by
 have eP:=(hT.h ht).2.1;have hG:∀{j a},Gen S m e (GX n co T [] j) a->S a:=fun h=>h.in F.g (GX.s hT (by simp))
 have hP:=fun a=>wV F.g.toMon eP a
 induction hx with
 |one=>exact⟨0,e,.one,(F.g.onel F.g.ein).symm⟩
 | @x a hx=>
  rcases hx with⟨j,h1,h2⟩|⟨h,_⟩
  ·by_cases hj:j=k
   ·subst hj
    rw[ht]at h2;cases h2;exact⟨1,e,.one,by rw[zKB F.g.toMon eP,F.g.oner eP]⟩
   ·exact⟨0,a,.x (.inl ⟨j,by omega,h2⟩),(F.g.onel (hT.h h2).2.1).symm⟩
  ·simp at h
 | @m a b _ _ ha hb=>
  obtain⟨i,y,hy,rfl⟩:=ha;obtain⟨j,z,hz,rfl⟩:=hb;obtain⟨c,c1,c2⟩:=Clo.conjs F hT hC ht j hy;refine⟨i+j,m c z,.m c1 hz,?_⟩;rw[zAP F.g.toMon eP,F.g.assoc (hP i) (hG hy) (F.g.cl (hP j) (hG hz)),<-F.g.assoc (hG hy) (hP j) (hG hz),c2,F.g.assoc (hP j) (hG c1) (hG hz),F.g.assoc (hP i) (hP j) (F.g.cl (hG c1) (hG hz))]
 | @i a b ga hb hh ha=>
  obtain⟨i,y,hy,rfl⟩:=ha;obtain⟨y',y1,y2,_⟩:=F.g.invl (hG hy);have ho:1<=(o k).toNat:=by have:=F.r eP (hT.h ht).1;omega
  have fd:i<=i*(o k).toNat:=Jau i ho;have e1:i*(o k).toNat=i+(i*(o k).toNat-i):=by omega
  have hw:=Clo.pws F hT hC ht i;obtain⟨w,w1,w2,_⟩:=F.g.invl (hG hw);obtain⟨c,c1,c2⟩:=Clo.conjs F hT hC ht (i*(o k).toNat-i) (.i hy y1 y2);refine⟨i*(o k).toNat-i,m c w,.m c1 (.i hw w1 w2),?_⟩;refine F.g.cancel_l (F.g.cl (hP i) (hG hy)) hb (F.g.cl (hP _) (F.g.cl (hG c1) w1)) ?_;rw[hh,<-F.g.assoc (hP _) (hG c1) w1,<-c2,F.g.assoc y1 (hP _) w1,F.g.assoc (hP i) (hG hy) (F.g.cl y1 (F.g.cl (hP _) w1)),<-F.g.assoc (hG hy) y1 (F.g.cl (hP _) w1),y2,F.g.onel (F.g.cl (hP _) w1),<-F.g.assoc (hP i) (hP _) w1,<-zAP F.g.toMon eP,<-e1,w2]
theorem Clo.depth:∀(l k:Nat),k+l=n-> ∀{x:α},Gen S m e (GX n co T [] k) x->(∀j,j<k->co x j=0)->x≠e-> ∃j,k<=j/\j<n/\(T j).isSome=jh/\(∀i,i<j->co x i=0)/\co x j≠0
 |0,k,hk,x,hx,hz,gc=>by
  have hG:∀{j a},Gen S m e (GX n co T [] j) a->S a:=fun h=>h.in F.g (GX.s hT (by simp))
  exact absurd (F.ex (hG hx) F.g.ein fun d hd=>by rw[hz d (by omega),F.e0 hd]) gc
 |l+1,k,hk,x,hx,hz,gc=>by
  have hG:∀{j a},Gen S m e (GX n co T [] j) a->S a:=fun h=>h.in F.g (GX.s hT (by simp))
  have eY:k<n:=by omega
  have deep:∀{y},Gen S m e (GX n co T [] (k+1)) y-> ∀j,j<k+1->co y j=0:=fun{y} hy=>by
   induction hy with
   |one=>exact fun j hj=>F.e0 (by omega)
   |x hx=>
    rcases hx with⟨j,h1,h2⟩|⟨h,_⟩
    ·exact fun i hi=>(hT.h h2).2.2.1 i (by omega)
    ·simp at h
   |m ga gb ha hb=>exact F.dm (by omega) (hG ga) (hG gb) ha hb
   | @i a b ga hb hh ha=>
    intro j
    induction j using U0 with
    |ind j ih=>
     intro hj;have h1:=(F.ad (hG ga) hb (by omega:j<n) fun i hi=>ih i hi (by omega)).2;rw[hh,F.e0 (by omega),ha j hj,Kq]at h1;rw[<-F.md (by omega) hb rfl];exact h1.symm
  have next:Gen S m e (GX n co T [] (k+1)) x-> ∃j,k<=j/\j<n/\(T j).isSome=jh/\(∀i,i<j->co x i=0)/\co x j≠0:=fun h=>by obtain⟨j,j1,j2⟩:=Clo.depth l (k+1) (by omega) h (deep h) gc;exact⟨j,by omega,j2⟩
  cases ht:T k with
  |none=>
   refine next (hx.mono fun a ha=>?_);rcases ha with⟨j,h1,h2⟩|⟨h,_⟩
   ·by_cases hj:j=k
    ·subst hj;rw[ht]at h2;cases h2
    ·exact .inl ⟨j,by omega,h2⟩
   ·simp at h
  |some t=>
   by_cases h0:co x k=0
   ·obtain⟨a,y,hy,rfl⟩:=Clo.form F hT hC ht hx
    have am:=hT.h ht;have hp:=F.pwc eY am.2.1 am.2.2.1 a;have h1:=(F.ad (wV F.g.toMon am.2.1 a) (hG hy) eY fun j hj=>deep hy j (by omega)).2;rw[h0,deep hy k (by omega),hp.2,am.2.2.2,L9,L8,K3]at h1;have ho:=F.r am.2.1 eY;have hd:(o k).toNat∣a:=by have:=Int.dvd_of_emod_eq_zero h1.symm;rw[show o k=((o k).toNat:Int)from by omega]at this;exact Int.natCast_dvd_natCast.1 this
    obtain⟨N,rfl⟩:=hd;rw[Nat.mul_comm]at next ⊢
    exact next (.m (Clo.pws F hT hC ht N) hy)
   ·exact⟨k,Je _,eY,by rw[ht];rfl,hz,h0⟩
end
structure Can (S:α->Prop) (n:Nat) (co:α->Nat->Int) (H:α->Prop) (C:Nat->Option α):Prop where
 i:∀{k t},C k=jf t->k<n/\H t/\S t/\(∀j,j<k->co t j=0)/\co t k=1/\ ∀j,k<j->j<n->(C j).isSome=jh->co t j=0
 d:∀{x},H x->x≠e-> ∃j,j<n/\(C j).isSome=jh/\(∀i,i<j->co x i=0)/\co x j≠0
theorem Can.uniq{H:α->Prop}(hm:∀{a b},H a->H b->H (m a b))(hi:∀{a b},H a->S b->m a b=e->H b){C D:Nat->Option α}(hC:Can (e:=e) S n co H C)(hD:Can (e:=e) S n co H D):∀k,C k=D k:=by
 have bG:∀{C D:Nat->Option α},Can (e:=e) S n co H C->Can (e:=e) S n co H D-> ∀k,(C k).isSome=jh->(D k).isSome=jh:=fun{C D} hC hD k hk=>by
  obtain⟨t,ht⟩:=Kv.1 hk;obtain⟨a1,a2,a3,a4,a5,_⟩:=hC.i ht;obtain⟨j,j1,j2,j3,j4⟩:=hD.d a2 fun h=>by rw[h,F.e0 a1]at a5;cases a5
  rcases G1 j k with h|h|h
  ·exact absurd (a4 j h) j4
  ·rwa [<-h]
  ·have:=j3 k h;omega
 intro k;cases hc:C k with
 |none=>
  cases hd:D k with
  |none=>rfl
  |some u=>
   have:=bG hD hC k (by rw[hd];rfl);rw[hc]at this;cases this
 |some t=>
  cases hd:D k with
  |none=>
   have:=bG hC hD k (by rw[hc];rfl);rw[hd]at this;cases this
  |some u=>
   obtain⟨a1,a2,a3,a4,a5,a6⟩:=hC.i hc;obtain⟨_,b2,b3,b4,b5,b6⟩:=hD.i hd;obtain⟨t',t1,t2,t3⟩:=F.g.invl a3;have hh:H (m t' u):=hm (hi a2 t1 t2) b2;have hhs:S (m t' u):=F.g.cl t1 b3;have e1:m t (m t' u)=u:=by rw[<-F.g.assoc a3 t1 b3,t2,F.g.onel b3]
   have same:∀j,j<n->(C j).isSome=jh->co t j=co u j:=fun j hj bD=>by
    rcases G1 j k with h|h|h
    ·rw[a4 j h,b4 j h]
    ·rw[h,a5,b5]
    ·rw[a6 j h hj bD,b6 j h hj (bG hC hD j bD)]
   have hz:m t' u=e:=by
    refine Classical.byContradiction fun gc=>?_
    obtain⟨j,j1,j2,j3,j4⟩:=hC.d hh gc;have h1:=(F.ad a3 hhs j1 j3).2;rw[e1,<-same j j1 j2]at h1;have r1:=F.r a3 j1;have r2:=F.r hhs j1
    by_cases g:co t j+co (m t' u) j<o j
    ·rw[Jq (by omega) g]at h1;omega
    ·rw[<-Uh,Jq (by omega) (by omega)]at h1;omega
   rw[hz,F.g.oner a3]at e1;rw[e1]
end
section
variable {α:Type}{S:α->Prop}{m:α->α->α}{e:α}{n:Nat}{o:Nat->Int}{co:α->Nat->Int}
def Dp(n:Nat)(co:α->Nat->Int)(k:Nat)(a:α):Prop:=∀j,j<k->j<n->co a j=0
theorem Gen.tr{T T':Nat->Option α}{Q Q':List α}(hT:∀k t,T k=jf t->T' k=jf t)(hq:∀a∈Q,∀k,Dp n co k a->Gen S m e (GX n co T' Q' k) a){a:α}(h:Gen S m e (GX n co T Q k) a):Gen S m e (GX n co T' Q' k) a:=
 h.to fun a ha=>by
  rcases ha with⟨j,h1,h2⟩|⟨h1,h2⟩
  ·exact .x (.inl ⟨j,h1,hT _ _ h2⟩)
  ·exact hq a h1 k h2
structure Wl (S:α->Prop) (m:α->α->α) (e:α) (n:Nat) (o:Nat->Int) (co:α->Nat->Int) (L:α->Prop) (T:Nat->Option α) (Q:List α):Prop where
 t:Tab S n co T
 th:∀{k t},T k=jf t->Gen S m e L t
 q:∀a∈Q,S a/\Gen S m e L a
 g:∀a,L a->Gen S m e (GX n co T Q 0) a
 c:Clo S m e n o co T Q
theorem Wl.start(L:List α)(hL:∀a∈L,S a):Wl S m e n o co (· ∈L) (fun _=>jg) L:=
 ⟨⟨fun h=>by cases h⟩,(fun h=>by cases h),(fun a h=>⟨hL a h,.x h⟩),(fun a h=>.x (.inr ⟨h,fun j hj=>by omega⟩)),⟨(fun h=>by cases h),(fun h=>by cases h)⟩⟩
theorem Wl.more{L:α->Prop}{T:Nat->Option α}(h:Wl S m e n o co L T []){M:List α}(hM:∀a∈M,S a):Wl S m e n o co (fun a=>L a\/a∈M) T M:=by
 have tr:∀{k a},Gen S m e (GX n co T [] k) a->Gen S m e (GX n co T M k) a:=fun g=>g.tr (fun _ _ h=>h) (by simp)
 refine⟨h.t,fun ht=>(h.th ht).mono fun _ h=>.inl h,fun a ha=>⟨hM a ha,.x (.inr ha)⟩,fun a ha=>?_,fun ht=>tr (h.c.p ht),fun h1 h2 h3=>?_⟩
 ·rcases ha with ha|ha
  ·exact tr (h.g a ha)
  ·exact .x (.inr ⟨ha,fun j hj=>by omega⟩)
 ·obtain⟨c,c1,c2⟩:=h.c.c h1 h2 h3
  exact⟨c,tr c1,c2⟩
theorem Wl.drop{L:α->Prop}{T:Nat->Option α}{Q Q':List α}(h:Wl S m e n o co L T Q){x:α}(hx:∀k,Dp n co k x->Gen S m e (GX n co T Q' k) x)(h1:∀a∈Q',a∈Q)(h2:∀a∈Q,a=x\/a∈Q'):Wl S m e n o co L T Q':=by
 have tr:∀{k a},Gen S m e (GX n co T Q k) a->Gen S m e (GX n co T Q' k) a:=fun g=>g.tr (fun _ _ h=>h) fun a ha k hk=>by
  rcases h2 a ha with rfl|h
  ·exact hx k hk
  ·exact .x (.inr ⟨h,hk⟩)
 exact⟨h.t,h.th,fun a ha=>h.q a (h1 a ha),fun a ha=>tr (h.g a ha),⟨fun ht=>tr (h.c.p ht),fun a b c=>by obtain⟨w,w1,w2⟩:=h.c.c a b c;exact⟨w,tr w1,w2⟩⟩⟩
variable (F:Fil S m e n o co)
 include F
theorem Wl.add{L:α->Prop}{T:Nat->Option α}{Q Q':List α}(h:Wl S m e n o co L T Q){x y:α}(hd:d<n)(hTd:T d=jg)(hy:S y)(py:Gen S m e L y)(zy:∀j,j<d->co y j=0)(oy:co y d=1)
  (hx:∀k,Dp n co k x->Gen S m e (GX n co (fun j=>if j=d then jf y else T j) Q' k) x)(hq:∀a∈Q',S a/\Gen S m e L a)(h2:∀a∈Q,a=x\/a∈Q')
  (hp:pw m e y (o d).toNat∈Q')(hc:∀k u,T k=jf u-> ∃w,w∈Q'/\(m (m u y) w=m y u\/m (m y u) w=m u y)):Wl S m e n o co L (fun j=>if j=d then jf y else T j) Q':=by
 have hT:∀k t,T k=jf t->(fun j=>if j=d then jf y else T j) k=jf t:=fun k t hk=>by
  show(if k=d then jf y else T k)=jf t;rw[if_neg]
  ·exact hk
  ·intro g;rw[g,hTd]at hk;cases hk
 have mq:Tab S n co (fun j=>if j=d then jf y else T j):=⟨fun{k t} hk=>by
  replace hk:(if k=d then jf y else T k)=jf t:=hk
  split at hk
  ·rename_i g;cases hk;subst g;exact⟨hd,hy,zy,oy⟩
  ·exact h.t.h hk⟩
 have hS:∀{k a},Gen S m e (GX n co (fun j=>if j=d then jf y else T j) Q' k) a->S a:=fun g=>g.in F.g (GX.s mq fun a ha=>(hq a ha).1)
 have tr:∀{k a},Gen S m e (GX n co T Q k) a->Gen S m e (GX n co (fun j=>if j=d then jf y else T j) Q' k) a:=fun g=>g.tr hT fun a ha k hk=>by
  rcases h2 a ha with rfl|h
  ·exact hx k hk
  ·exact .x (.inr ⟨h,hk⟩)
 have new:∀{k j t u w},k<n->S t->S u->(∀i,i<k->co t i=0)->(∀i,i<j->co u i=0)->k<j->(fun i=>if i=d then jf y else T i) j=jf u->w∈Q'->(m (m u t) w=m t u\/m (m t u) w=m u t)-> ∃c,Gen S m e (GX n co (fun j=>if j=d then jf y else T j) Q' (k+1)) c/\m u t=m t c:=fun{k j t u w} hk ht hu zt zu bo hju hw hh=>by
  have dn:=(hq w hw).1;have bA:=F.cmd hk ht hu dn zt (fun i hi=>zu i (by omega)) hh;have g1:Gen S m e (GX n co (fun j=>if j=d then jf y else T j) Q' (k+1)) w:=.x (.inr ⟨hw,fun i hi _=>bA i hi⟩);have g2:Gen S m e (GX n co (fun j=>if j=d then jf y else T j) Q' (k+1)) u:=.x (.inl ⟨j,bo,hju⟩);rcases hh with hh|hh
  ·obtain⟨v,v1,v2,_⟩:=F.g.invl dn
   refine⟨m u v,.m g2 (.i g1 v1 v2),?_⟩;rw[<-F.g.assoc ht hu v1,<-hh,F.g.assoc (F.g.cl hu ht) dn v1,v2,F.g.oner (F.g.cl hu ht)]
  ·exact⟨m u w,.m g2 g1,by rw[<-F.g.assoc ht hu dn,hh]⟩
 refine⟨mq,fun{k t} hk=>?_,hq,fun a ha=>tr (h.g a ha),fun{k t} hk=>?_,fun{k j t u} hk hj bo=>?_⟩
 ·replace hk:(if k=d then jf y else T k)=jf t:=hk
  split at hk
  ·cases hk;exact py
  ·exact h.th hk
 ·replace hk:(if k=d then jf y else T k)=jf t:=hk
  split at hk
  ·rename_i g
   cases hk;subst g;have ig:=F.pwc hd hy zy (o k).toNat;have ho:=F.r hy hd;refine .x (.inr ⟨hp,fun i hi gK=>?_⟩)
   by_cases g:i=k
   ·rw[g,ig.2,oy,L8,show(((o k).toNat:Nat):Int)=o k from by omega,Jap]
   ·exact ig.1 i (by omega)
  ·exact tr (h.c.p hk)
 ·have a1:=mq.h hk
  have a2:=mq.h hj;have bp:(if k=d then jf y else T k)=jf t:=hk;have pL:(if j=d then jf y else T j)=jf u:=hj;split at bp
  ·rename_i g
   cases bp;subst g;rw[if_neg (by omega)]at pL;obtain⟨w,w1,w2⟩:=hc j u pL;exact new hd hy a2.2.1 zy a2.2.2.1 bo hj w1 w2
  ·split at pL
   ·rename_i g2
    cases pL;subst g2;obtain⟨w,w1,w2⟩:=hc k t bp;exact new a1.1 a1.2.1 hy a1.2.2.1 zy bo hj w1 w2.symm
   ·obtain⟨c,c1,c2⟩:=h.c.c bp pL bo
    exact⟨c,tr c1,c2⟩
structure Sf (S:α->Prop) (m:α->α->α) (e:α) (n:Nat) (co:α->Nat->Int) (T:Nat->Option α) (x y:α):Prop where
 s:S y
 d:∀k,Dp n co k x->Dp n co k y
 g:∀k Q,(∀a∈Q,S a)->Dp n co k x->Gen S m e (GX n co T Q k) y->Gen S m e (GX n co T Q k) x
 h:∀H:α->Prop,(∀a,H a->S a)->(∀{k t},T k=jf t->Gen S m e H t)->Gen S m e H x->Gen S m e H y
 omit F in
theorem Sf.refl{T:Nat->Option α}{x:α}(hx:S x):Sf S m e n co T x x:=⟨hx,fun _ h=>h,fun _ _ _ _ h=>h,fun _ _ _ h=>h⟩
 omit F in
theorem Sf.trans{T:Nat->Option α}{x y z:α}(h1:Sf S m e n co T x y)(h2:Sf S m e n co T y z):Sf S m e n co T x z:=
  ⟨h2.s,fun k h=>h2.d k (h1.d k h),fun k Q hQ h g=>h1.g k Q hQ h (h2.g k Q hQ (h1.d k h) g),fun H hS hT g=>h2.h H hS hT (h1.h H hS hT g)⟩
theorem Sf.right{T:Nat->Option α}(hT:Tab S n co T){x t z:α}(hd:d<n)(hx:S x)(zx:∀j,j<d->co x j=0)(nx:co x d≠0)(ht:T d=jf t)(hz:∀{Y:α->Prop},(∀a,Y a->S a)->Gen S m e Y t->Gen S m e Y z)(bQ:S z)(zz:∀j,j<d->co z j=0)(hr:co (m x z) d=0):Sf S m e n co T x (m x z)/\ ∀j,j<d+1->co (m x z) j=0:=by
 have pN:=F.dm (by omega) hx bQ zx zz;have bA:∀j,j<d+1->co (m x z) j=0:=fun j hj=>by
  by_cases g:j=d
  ·rw[g];exact hr
  ·exact pN j (by omega)
 have hk:∀k,Dp n co k x->k<=d:=fun k h=>by
  by_cases g:k<=d
  ·exact g
  ·exact absurd (h d (by omega) hd) nx
 refine⟨⟨F.g.cl hx bQ,fun k h=>fun j hj _=>bA j (by have:=hk k h;omega),fun k Q hQ h g=>?_,fun H hS hT' g=>.m g (hz hS (hT' ht))⟩,bA⟩;exact Gen.left F.g (GX.s hT hQ) hx (hz (GX.s hT hQ) (.x (.inl ⟨d,hk k h,ht⟩))) g
theorem Sf.left{T:Nat->Option α}(hT:Tab S n co T){x t z:α}(hd:d<n)(hx:S x)(zx:∀j,j<d->co x j=0)(nx:co x d≠0)(ht:T d=jf t)(hz:∀{Y:α->Prop},(∀a,Y a->S a)->Gen S m e Y t->Gen S m e Y z)(bQ:S z)(zz:∀j,j<d->co z j=0)(hr:co (m z x) d=0):Sf S m e n co T x (m z x)/\ ∀j,j<d+1->co (m z x) j=0:=by
 have pN:=F.dm (by omega) bQ hx zz zx;have bA:∀j,j<d+1->co (m z x) j=0:=fun j hj=>by
  by_cases g:j=d
  ·rw[g];exact hr
  ·exact pN j (by omega)
 have hk:∀k,Dp n co k x->k<=d:=fun k h=>by
  by_cases g:k<=d
  ·exact g
  ·exact absurd (h d (by omega) hd) nx
 refine⟨⟨F.g.cl bQ hx,fun k h=>fun j hj _=>bA j (by have:=hk k h;omega),fun k Q hQ h g=>?_,fun H hS hT' g=>.m (hz hS (hT' ht)) g⟩,bA⟩;exact Gen.right F.g (GX.s hT hQ) (hz (GX.s hT hQ) (.x (.inl ⟨d,hk k h,ht⟩))) hx g
theorem Wl.can{L:α->Prop}{T:Nat->Option α}(h:Wl S m e n o co L T []){C:Nat->Option α}(h1:∀k,(C k).isSome=(T k).isSome)
  (h2:∀{k t},C k=jf t->Gen S m e L t/\S t/\(∀j,j<k->co t j=0)/\co t k=1/\ ∀j,k<j->j<n->(C j).isSome=jh->co t j=0):Can (e:=e) S n co (Gen S m e L) C:=by
 refine⟨fun{k t} hk=>⟨?_,h2 hk⟩,fun{x} hx gc=>?_⟩
 ·have:=h1 k
  rw[hk]at this;obtain⟨u,hu⟩:=Kv.1 this.symm;exact(h.t.h hu).1
 ·obtain⟨j,_,j2,j3,j4⟩:=Clo.depth F h.t h.c n 0 (by omega) (hx.to h.g) (fun j hj=>by omega) gc
  exact⟨j,j2,by rw[h1];exact j3,j4⟩
end
def cd(v:Vec)(j:Nat):Int:=v.getD j 0
def od(P:Pcp)(j:Nat):Int:=match P[j]? with
 |some l=>l.o
 |none=>1
theorem zYm(l:Lvl)(P:Pcp):od (l::P) 0=l.o:=rfl
theorem zQF(l:Lvl)(P:Pcp)(j:Nat):od (l::P) (j+1)=od P j:=by simp[od]
theorem yEl:∀{P:Pcp}{v:Vec},V P v-> ∀{d:Nat},d<P.length->0<=cd v d/\cd v d<od P d
 | [],_,_,d,hd=>by simp at hd
 |l::P,[],h,_,_=>by simp[V]at h
 |l::P,a::x,h,0,_=>by simp only[V]at h;exact h.1
 |l::P,a::x,h,d+1,hd=>by simp only[V]at h;rw[zQF];exact yEl h.2 (by simpa using hd)
theorem yAl:∀{P:Pcp}{a b:Vec},V P a->V P b->(∀d,d<P.length->cd a d=cd b d)->a=b
 | [],a,b,ha,hb,_=>by simp only[V]at ha hb;rw[ha,hb]
 |l::P,[],_,h,_,_=>by simp[V]at h
 |l::P,_::_,[],_,h,_=>by simp[V]at h
 |l::P,a::x,b::y,ha,hb,h=>by simp only[V]at ha hb;have h0:a=b:=h 0 (by simp);rw[h0,yAl ha.2 hb.2 fun d hd=>h (d+1) (by simpa using hd)]
theorem yAm:∀{P:Pcp}{x y:Vec},V P x->V P y-> ∀{d:Nat},d<P.length->(∀j,j<d->cd y j=0)->(∀j,j<d->cd (mul P x y) j=cd x j)/\cd (mul P x y) d=(cd x d+cd y d)%od P d
 | [],_,_,_,_,d,hd,_=>by simp at hd
 |l::P,[],_,h,_,_,_,_=>by simp[V]at h
 |l::P,_::_,[],_,h,_,_,_=>by simp[V]at h
 |l::P,a::x,b::y,hx,hy,0,_,_=>by
  simp only[V]at hx hy;refine⟨fun j hj=>by omega,?_⟩;rw[yK,zYm];show cd _ 0=(a+b)%l.o
  by_cases g:a+b>=l.o
  ·rw[if_pos g,<-Uh,Jq (by omega) (by omega)];rfl
  ·rw[if_neg g,Jq (by omega) (by omega)];rfl
 |l::P,a::x,b::y,hx,hy,d+1,hd,hz=>by
  simp only[V]at hx hy;have hb:b=0:=hz 0 (by omega);subst hb;have ih:=yAm hx.2 hy.2 (d:=d) (by simpa using hd) fun j hj=>hz (j+1) (by omega)
  rw[yK,if_neg (by omega),zQF];show(∀j,j<d+1->cd ((a+0)::mul P x y) j=cd (a::x) j)/\_;rw[L9];refine⟨fun j hj=>?_,ih.2⟩;cases j with
  |zero=>rfl
  |succ j=>exact ih.1 j (by omega)
theorem zU9{n:Nat}:cd (zeros n) d=0:=by unfold cd zeros;rw[J2,K4];split<;>rfl
theorem fil{P:Pcp}(h:Ok P)(hc:xC P):Fil (V P) (mul P) (zeros P.length) P.length (od P) cd:=
 ⟨zBQ P h hc,fun ha hd=>yEl ha hd,fun _=>zU9,fun ha hb h=>yAl ha hb h,fun ha hb hd hz=>yAm ha hb hd hz⟩
section
variable {α:Type}{S:α->Prop}{m:α->α->α}{e:α}{n:Nat}{o:Nat->Int}{co:α->Nat->Int} (F:Fil S m e n o co)
 include F
theorem Fil.op{t:α}(hd:d<n)(ht:S t):0<o d:=by have:=F.r ht hd;omega
theorem Fil.pw1{t:α}(hd:d<n)(ht:S t)(zt:∀j,j<d->co t j=0)(h1:co t d=1)(k:Nat):S (pw m e t k)/\(∀j,j<d->co (pw m e t k) j=0)/\co (pw m e t k) d=k%o d:=by have h:=F.pwc hd ht zt k;rw[h1,L8]at h;exact⟨wV F.g.toMon ht k,h⟩
theorem Fil.killl{t x:α}(hd:d<n)(ht:S t)(zt:∀j,j<d->co t j=0)(h1:co t d=1)(hx:S x)(zx:∀j,j<d->co x j=0):co (m (pw m e t (o d-co x d).toNat) x) d=0:=by have hr:=F.r hx hd;obtain⟨p1,p2,p3⟩:=F.pw1 hd ht zt h1 (o d-co x d).toNat;rw[(F.ad p1 hx hd zx).2,p3,G4,show(((o d-co x d).toNat:Nat):Int)=o d-co x d from by omega,show o d-co x d+co x d=o d from by omega,Jap]
theorem Fil.invc{t u:α}(hd:d<n)(ht:S t)(hu:S u)(h:m t u=e)(zt:∀j,j<d->co t j=0):(∀j,j<d->co u j=0)/\(co t d+co u d)%o d=0:=by
 have z:∀j,j<d->co u j=0:=by
  intro j
  induction j using U0 with
  |ind j ih=>
   intro hj;have h1:=(F.ad ht hu (by omega:j<n) fun i hi=>ih i hi (by omega)).2;rw[h,F.e0 (by omega),zt j hj,Kq]at h1;rw[<-F.md (by omega) hu rfl];exact h1.symm
 refine⟨z,?_⟩;have h1:=(F.ad ht hu hd z).2;rw[h,F.e0 hd]at h1;exact h1.symm
theorem Fil.killr{t u x:α}(hd:d<n)(ht:S t)(hu:S u)(h:m t u=e)(zt:∀j,j<d->co t j=0)(h1:co t d=1)(hx:S x):S (pw m e u (co x d).toNat)/\(∀j,j<d->co (pw m e u (co x d).toNat) j=0)/\co (m x (pw m e u (co x d).toNat)) d=0:=by
 have hr:=F.r hx hd;obtain⟨z,c⟩:=F.invc hd ht hu h zt;have hp:=F.pwc hd hu z (co x d).toNat;have hs:=wV F.g.toMon hu (co x d).toNat;refine⟨hs,hp.1,?_⟩;rw[(F.ad hx hs hd hp.1).2,hp.2,Int.add_emod_emod,show(((co x d).toNat:Nat):Int)=co x d from by omega];have e1:co x d+co x d*co u d=co x d*(co t d+co u d):=by rw[h1,Jak,L8]
 rw[e1,Jz,c,Lo,Int.zero_emod]
structure Rd (S:α->Prop) (m:α->α->α) (e:α) (n:Nat) (co:α->Nat->Int) (L:α->Prop) (C:Nat->Option α) (k j:Nat) (x:α):Prop where
 s:S x
 l:Gen S m e L x
 z:∀i,i<k->co x i=0
 o:co x k=1
 r:∀i,k<i->i<j->(C i).isSome=jh->co x i=0
theorem Rd.step{L:α->Prop}{C:Nat->Option α}{k j:Nat}{x z:α}(h:Rd S m e n co L C k j x)(bo:k<j)(hj:j<n)(hz:S z)(hl:Gen S m e L z)(zz:∀i,i<j->co z i=0)(hk:co (m x z) j=0):Rd S m e n co L C k (j+1) (m x z):=by
 have h1:=(F.ad h.s hz hj zz).1;refine⟨F.g.cl h.s hz,.m h.l hl,fun i hi=>?_,?_,fun i hi gI hc=>?_⟩
 ·rw[h1 i (by omega)];exact h.z i hi
 ·rw[h1 k bo];exact h.o
 ·by_cases g:i=j
  ·rw[g];exact hk
  ·rw[h1 i (by omega)];exact h.r i hi (by omega) hc
 omit F in
theorem Rd.skip{L:α->Prop}{C:Nat->Option α}{j:Nat}{x:α}(h:Rd S m e n co L C k j x)(hc:C j=jg\/co x j=0):Rd S m e n co L C k (j+1) x:=
  ⟨h.s,h.l,h.z,h.o,fun i hi gI eR=>by
    by_cases g:i=j
    · subst g
      rcases hc with hc|hc
      ·rw[hc]at eR;cases eR
      ·exact hc
    ·exact h.r i hi (by omega) eR⟩
end
abbrev En{α:Type}(C:Nat->Option α):α->Prop:=fun a=> ∃k,C k=jf a
section
variable {α:Type}{S:α->Prop}{m:α->α->α}{e:α}{n:Nat}{o:Nat->Int}{co:α->Nat->Int} (F:Fil S m e n o co)
 include F
theorem Can.red{L:α->Prop}(hL:∀a,L a->S a){C T:Nat->Option α}(hC:Can (e:=e) S n co (Gen S m e L) C)
  (hT:∀k,k<n->(C k).isSome=jh-> ∃t,T k=jf t/\Gen S m e L t/\S t/\(∀j,j<k->co t j=0)/\co t k=1){x:α}(hx:Gen S m e L x):Gen S m e (fun a=>En T a/\S a) x:=by
 have G:=F.g;have key:∀l k:Nat,k+l=n-> ∀{x:α},Gen S m e L x->(∀j,j<k->co x j=0)->Gen S m e (fun a=>En T a/\S a) x:=by
  intro l
  induction l with
  |zero=>
   intro k hk x hx zx;have eH:=hx.in G hL;rw[F.ex eH G.ein fun d hd=>by rw[zx d (by omega),F.e0 hd]];exact .one
  |succ l ih=>
   intro k hk x hx zx;have eH:=hx.in G hL
   by_cases h0:co x k=0
   ·exact ih (k+1) (by omega) hx fun j hj=>by
     by_cases hjk:j=k
     ·subst hjk;exact h0
     ·exact zx j (by omega)
   ·obtain⟨j,j1,j2,j3,j4⟩:=hC.d hx fun h=>h0 (by rw[h];exact F.e0 (by omega))
    have hjk:j=k:=by
     rcases G1 j k with h|h|h
     ·exact absurd (zx j h) j4
     ·exact h
     ·exact absurd (j3 k h) h0
    subst hjk;obtain⟨t,t1,t2,t3,t4,t5⟩:=hT j (by omega) j2;have hk:=F.killl (d:=j) (by omega) t3 t4 t5 eH zx;have hp:=F.pw1 (d:=j) (by omega) t3 t4 t5 (o j-co x j).toNat;have hy:=ih (j+1) (by omega) (.m (t2.pw (o j-co x j).toNat) hx) fun i hi=>by
     by_cases gI:i=j
     ·subst gI;exact hk
     ·exact F.dm (d:=j) (by omega) hp.1 eH hp.2.1 zx i (by omega)
    exact Gen.right G (fun a h=>h.2) (Gen.pw (.x ⟨⟨j,t1⟩,t3⟩) _) eH hy
 exact key n 0 (by omega) hx (fun j hj=>by omega)
theorem Can.gen{L:α->Prop}(hL:∀a,L a->S a){C:Nat->Option α}(hC:Can (e:=e) S n co (Gen S m e L) C){x:α}(hx:Gen S m e L x):Gen S m e (fun a=>En C a/\S a) x:=
 Can.red F hL hC (T:=C) (fun k _ h=>by obtain⟨t,ht⟩:=Kv.1 h;obtain⟨_,a2,a3,a4,a5,_⟩:=hC.i ht;exact⟨t,ht,a2,a3,a4,a5⟩) hx
theorem Can.sub{L M:α->Prop}{C D:Nat->Option α}(hC:Can (e:=e) S n co (Gen S m e L) C)(hD:Can (e:=e) S n co (Gen S m e M) D)(hs:∀a,Gen S m e L a->Gen S m e M a)(hk:(C k).isSome=jh):(D k).isSome=jh:=by
 obtain⟨t,ht⟩:=Kv.1 hk;obtain⟨a1,a2,a3,a4,a5,_⟩:=hC.i ht;obtain⟨j,j1,j2,j3,j4⟩:=hD.d (hs _ a2) fun h=>by rw[h,F.e0 a1]at a5;cases a5
 have hjk:j=k:=by
  rcases G1 j k with h|h|h
  ·exact absurd (a4 j h) j4
  ·exact h
  ·have:=j3 k h;rw[a5]at this;cases this
 subst hjk;exact j2
theorem Can.back{L M:α->Prop}(hM:∀a,M a->S a){C D:Nat->Option α}(hC:Can (e:=e) S n co (Gen S m e L) C)(hD:Can (e:=e) S n co (Gen S m e M) D)(hs:∀a,Gen S m e L a->Gen S m e M a)
  (hk:∀k,k<n->(D k).isSome=jh->(C k).isSome=jh){x:α}(hx:Gen S m e M x):Gen S m e L x:=
 (Can.red F hM hD (T:=C) (fun k hn h=>by
  obtain⟨t,ht⟩:=Kv.1 (hk k hn h);obtain⟨_,a2,a3,a4,a5,_⟩:=hC.i ht;exact⟨t,ht,hs _ a2,a3,a4,a5⟩) hx).to fun a ha=>by obtain⟨⟨k,hk⟩,_⟩:=ha;exact(hC.i hk).2.1
end
theorem some_len{α:Type}{C D:Nat->Option α}:∀l:List Nat,(∀k∈l,(C k).isSome=jh->(D k).isSome=jh)->(l.filterMap C).length<=(l.filterMap D).length/\
  ((l.filterMap C).length=(l.filterMap D).length-> ∀k∈l,(D k).isSome=jh->(C k).isSome=jh)
 | [],_=>⟨Je _,fun _ k h=>by simp at h⟩
 |a::l,h=>by
  obtain⟨i1,i2⟩:=some_len l fun k hk=>h k (by simp[hk])
  have h0:=h a (by simp);simp only[Hk];cases hc:C a with
  |none=>
   cases hd:D a with
   |none=>
    refine⟨i1,fun e k hk h1=>?_⟩;rcases J9.1 hk with rfl|hk
    ·rw[hd]at h1;cases h1
    ·exact i2 e k hk h1
   |some y=>exact⟨by simp only[J7];omega,fun e=>by simp only[J7]at e;omega⟩
  |some y=>
   rw[hc]at h0;obtain⟨z,hz⟩:=Kv.1 (h0 rfl);rw[hz];refine⟨by simp only[J7];omega,fun e k hk h1=>?_⟩;rcases J9.1 hk with rfl|hk
   ·rw[hc];rfl
   ·exact i2 (by simpa using e) k hk h1
inductive NCl {α:Type} (S:α->Prop) (m:α->α->α) (e:α) (L B:α->Prop):α->Prop
 |one:NCl S m e L B e
 |x {a}:L a->NCl S m e L B a
 |m {a b}:NCl S m e L B a->NCl S m e L B b->NCl S m e L B (m a b)
 |i {a b}:NCl S m e L B a->S b->m a b=e->NCl S m e L B b
 |c {a b c}:NCl S m e L B a->B b->S c->m b c=m a b->NCl S m e L B c
section
variable {α:Type}{S:α->Prop}{m:α->α->α}{e:α} (g:Grp S m e)
 include g
theorem Grp.conj{a b:α}(ha:S a)(hb:S b):∃c,S c/\m b c=m a b:=by obtain⟨d,hd,h1,_⟩:=g.invl hb;refine⟨m d (m a b),g.cl hd (g.cl ha hb),?_⟩;rw[<-g.assoc hb hd (g.cl ha hb),h1,g.onel (g.cl ha hb)]
theorem Gen.conj{L U:α->Prop}(hU:∀a,U a->S a){b:α}(hb:S b)(h:∀u c,U u->S c->m b c=m u b->Gen S m e L c){a:α}(ha:Gen S m e U a):∀{c:α},S c->m b c=m a b->Gen S m e L c:=by
 induction ha with
 |one=>
  intro c hc hh;rw[g.onel hb]at hh;rw[g.cancel_l hb hc g.ein (hh.trans (g.oner hb).symm)];exact .one
 |x hu=>exact fun hc hh=>h _ _ hu hc hh
 | @m a1 a2 h1 h2 i1 i2=>
  intro c hc hh;have s1:=h1.in g hU;have s2:=h2.in g hU;obtain⟨c1,k1,e1⟩:=g.conj s1 hb;obtain⟨c2,k2,e2⟩:=g.conj s2 hb;have:c=m c1 c2:=g.cancel_l hb hc (g.cl k1 k2) (by rw[hh,<-g.assoc hb k1 k2,e1,g.assoc s1 hb k2,e2,g.assoc s1 s2 hb]);rw[this];exact .m (i1 k1 e1) (i2 k2 e2)
 | @i a1 a2 h1 ch hh2 i1=>
  intro c hc hh;have s1:=h1.in g hU;obtain⟨c1,k1,e1⟩:=g.conj s1 hb;have:m c1 c=e:=g.cancel_l hb (g.cl k1 hc) g.ein (by rw[<-g.assoc hb k1 hc,e1,g.assoc s1 hb hc,hh,<-g.assoc s1 ch hb,hh2,g.onel hb,g.oner hb]);exact .i (i1 k1 e1) hc this
theorem NCl.iff{L B L1:α->Prop}(h1:∀a,L1 a->NCl S m e L B a)(h2:∀a,L a->Gen S m e L1 a)(h3:∀a b c,Gen S m e L1 a->B b->S c->m b c=m a b->Gen S m e L1 c)(a:α):Gen S m e L1 a↔NCl S m e L B a:=by
 have _:=g;constructor
 ·intro h
  induction h with
  |one=>exact .one
  |x hx=>exact h1 _ hx
  |m _ _ i1 i2=>exact .m i1 i2
  |i _ hb hh i1=>exact .i i1 hb hh
 ·intro h
  induction h with
  |one=>exact .one
  |x hx=>exact h2 _ hx
  |m _ _ i1 i2=>exact .m i1 i2
  |i _ hb hh i1=>exact .i i1 hb hh
  |c _ hb hc hh i1=>exact h3 _ _ _ i1 hb hc hh
end
class GrT (A:Type) extends Mul A,One A,Inv A where
 as:∀a b c:A,a*b*c=a*(b*c)
 ol:∀a:A,1*a=a
 or1:∀a:A,a*1=a
 il:∀a:A,a⁻¹*a=1
 ir:∀a:A,a*a⁻¹=1
section
variable {A:Type} [GrT A]
open GrT
theorem cl1(a b:A):a⁻¹*(a*b)=b:=by rw[<-as,il,ol]
theorem cl2(a b:A):a*(a⁻¹*b)=b:=by rw[<-as,ir,ol]
theorem zQG{a b c:A}(h:a*b=a*c):b=c:=by rw[<-cl1 a b,h,cl1]
theorem zDN{a b:A}(h:a*b=1):b=a⁻¹:=zQG (a:=a) (by rw[h,ir])
theorem ii(a:A):a⁻¹⁻¹=a:=(zDN (il a)).symm
theorem i1:(1:A)⁻¹=1:=(zDN (ol 1)).symm
theorem im(a b:A):(a*b)⁻¹=b⁻¹*a⁻¹:=(zDN (by rw[as,cl2,ir])).symm
def pg(a:A):Nat->A
 |0=>1
 |k+1=>pg a k*a
theorem yEm(a b:A):∀k,b⁻¹*pg a k*b=pg (b⁻¹*a*b) k
 |0=>by simp[pg,or1,il]
 |k+1=>by rw[pg,pg,<-yEm a b k];simp[as,cl2]
theorem zOw:∀k,pg (1:A) k=1
 |0=>rfl
 |k+1=>by rw[pg,zOw k,or1]
theorem yB5(a:A):∀k,a*pg a k=pg a k*a
 |0=>by simp[pg,ol,or1]
 |k+1=>by rw[pg,<-as,yB5 a k]
structure Sg (H:A->Prop):Prop where
 o:H 1
 m:∀{a b},H a->H b->H (a*b)
 i:∀{a},H a->H a⁻¹
structure Nm (H:A->Prop):Prop extends Sg H where
 c:∀{a} b,H a->H (b⁻¹*a*b)
theorem Sg.pg{H:A->Prop}(h:Sg H){a:A}(ha:H a):∀k,H (pg a k)
 |0=>h.o
 |k+1=>h.m (h.pg ha k) ha
theorem Nm.c'{H:A->Prop}(h:Nm H){a:A}(b:A)(ha:H a):H (b*a*b⁻¹):=by
 have:=h.c b⁻¹ ha
 rwa [ii]at this
theorem Nm.cm{H:A->Prop}(h:Nm H){a:A}(b:A)(ha:H a):H (a⁻¹*b⁻¹*a*b):=by have:=h.m (h.i ha) (h.c b ha);simpa[as]using this
inductive Ge (X:A->Prop):A->Prop
 |o:Ge X 1
 |x {a}:X a->Ge X a
 |m {a b}:Ge X a->Ge X b->Ge X (a*b)
 |i {a}:Ge X a->Ge X a⁻¹
theorem Ge.s(X:A->Prop):Sg (Ge X):=⟨.o,.m,.i⟩
theorem Ge.to{X H:A->Prop}(h:Sg H)(hx:∀a,X a->H a){a:A}(ha:Ge X a):H a:=by
 induction ha with
 |o=>exact h.o
 |x k=>exact hx _ k
 |m _ _ k1 k2=>exact h.m k1 k2
 |i _ k=>exact h.i k
theorem Ge.n{X:A->Prop}(h:∀{a} b,X a->X (b⁻¹*a*b)):Nm (Ge X):=⟨Ge.s X,fun{a} b ha=>by
 induction ha with
 |o=>simp[or1,il];exact .o
 |x k=>exact .x (h b k)
 | @m a c _ _ k1 k2=>
  have:=Ge.m k1 k2;simpa[as,cl2]using this
 |i _ k=>
  have:=Ge.i k;simpa[as,im,ii]using this⟩
def NX(q:Nat)(H:A->Prop)(a:A):Prop:=(∃h b,H h/\a=h⁻¹*b⁻¹*h*b)\/ ∃h,H h/\a=pg h q
def Qm(q:Nat):Nat->A->Prop
 |0=>fun _=>True
 |k+1=>Ge (NX q (Qm q k))
theorem Nm.next{H:A->Prop}(h:Nm H):Nm (Ge (NX q H)):=Ge.n fun{a} b ha=>by
 rcases ha with⟨y,g,hy,rfl⟩|⟨y,hy,rfl⟩
 ·exact .inl ⟨b⁻¹*y*b,b⁻¹*g*b,h.c b hy,by simp[as,im,ii,cl2]⟩
 ·exact .inr ⟨b⁻¹*y*b,h.c b hy,yEm _ _ _⟩
theorem Nm.sub{H:A->Prop}(h:Nm H){a:A}(ha:Ge (NX q H) a):H a:=ha.to h.toSg fun b hb=>by
 rcases hb with⟨y,g,hy,rfl⟩|⟨y,hy,rfl⟩
 ·exact h.cm g hy
 ·exact h.toSg.pg hy q
theorem Qm.n(q:Nat):∀k,Nm (A:=A) (Qm q k)
 |0=>⟨⟨trivial,fun _ _=>trivial,fun _=>trivial⟩,fun _ _=>trivial⟩
 |k+1=>(Qm.n q k).next
theorem zOx{N:A->Prop}(h:Nm N){a b:A}(hc:∀y,N (a⁻¹*y⁻¹*a*y)):∀k,∃n,N n/\pg (a*b) k=pg a k*pg b k*n
 |0=>⟨1,h.o,by simp[pg,or1]⟩
 |k+1=>by
  obtain⟨n,n1,n2⟩:=zOx (b:=b) h hc k;refine⟨b⁻¹*((a⁻¹*(pg b k)⁻¹*a*pg b k)⁻¹*(a⁻¹*n*a))*b,h.c b (h.m (h.i ?_) (h.c a n1)),?_⟩
  ·exact hc (pg b k)
  ·rw[pg,n2];simp[pg,as,im,ii,cl2]
end
open GrT
theorem zOy{P:Nat->Prop}:∀d,P d-> ∃k,k<=d/\P k/\ ∀j,j<k-> ¬P j
 |d,h=>by
  by_cases k:∃j,j<d/\P j
  ·obtain⟨j,h1,h2⟩:=k
   obtain⟨k,k1,k2,k3⟩:=zOy j h2;exact⟨k,by omega,k2,k3⟩
  ·exact⟨d,Je _,h,fun j hj hp=>k ⟨j,hj,hp⟩⟩
section
variable {A:Type} [GrT A] {n q:Nat}{co:A->Nat->Int} (F:Fil (fun _:A=>True) (· *·) 1 n (fun _=>(q:Int)) co)
def Gd(co:A->Nat->Int)(i:Nat)(a:A):Prop:=∀j,j<i->co a j=0
structure If (q:Nat) (H:A->Prop) (co:A->Nat->Int) (i:Nat) (f:A->Int):Prop where
 a:∀{a b},H a->H b->(f (a*b)-f a-f b)%q=0
 z:∃a,H a/\f a%q≠0
 c:∀{a} g,H a->Gd co i g->(f (g⁻¹*a*g)-f a)%q=0
def fs(f:A->Int)(t:A):Nat->A->Int
 |0=>f
 |j+1=>fun a=>fs f t j (t⁻¹*a*t)-fs f t j a
 include F
theorem yFL{i:Nat}(hi:i<n){t g:A}(ht:Gd co i t)(hg:Gd co (i+1) g):Gd co (i+1) (t⁻¹*g*t):=by have h:=F.cmd hi (a:=t) (b:=g) (w:=g⁻¹*(t⁻¹*g*t)) trivial trivial trivial ht hg (.inr (by simp[as,cl2]));have:=F.dm (d:=i+1) (by omega) trivial trivial hg h;simp only[cl2]at this;exact this
theorem yB6(hq:q=2\/q=3\/q=5\/q=7)(ht:∀i,i<n-> ∃t,Gd co i t/\co t i=1){H:A->Prop}(hH:Nm H){i:Nat}(hi:i<n){f:A->Int}(hf:If q H co (i+1) f):∃g,If q H co i g:=by
 obtain⟨t,t1,t2⟩:=ht i hi;have hA:∀j{a b},H a->H b->(fs f t j (a*b)-fs f t j a-fs f t j b)%q=0:=by
  intro j
  induction j with
  |zero=>exact hf.a
  |succ j ih=>
   intro a b ha hb;have h1:=ih (hH.c t ha) (hH.c t hb);have h2:=ih ha hb;simp only[fs];rw[show t⁻¹*(a*b)*t=t⁻¹*a*t*(t⁻¹*b*t)by simp[as,cl2]];rcases hq with rfl|rfl|rfl|rfl<;>omega
 have hC:∀j{a} g,H a->Gd co (i+1) g->(fs f t j (g⁻¹*a*g)-fs f t j a)%q=0:=by
  intro j
  induction j with
  |zero=>exact hf.c
  |succ j ih=>
   intro a g ha hg;have h1:=ih (t⁻¹*g*t) (hH.c t ha) (yFL F hi t1 hg);have h2:=ih g ha hg;rw[show(t⁻¹*g*t)⁻¹*(t⁻¹*a*t)*(t⁻¹*g*t)=t⁻¹*(g⁻¹*a*g)*t by simp[as,im,ii,cl2]]at h1;simp only[fs];rcases hq with rfl|rfl|rfl|rfl<;>omega
 have hp:∀k,pw (· *·) 1 t k=pg t k:=fun k=>by
  induction k with
  |zero=>rfl
  |succ k ih=>rw[pw,xR];exact congrArg (· *t) ih
 have hG:Gd co (i+1) (pg t q):=fun j hj=>by
  have h:=Fil.pwc F hi (t:=t) trivial t1 q;rw[hp]at h
  by_cases e:j=i
  ·rw[e,h.2,t2];simp
  ·exact h.1 j (by omega)
 have hZ:∀a,H a->fs f t q a%q=0:=fun a ha=>by have h:=hf.c (pg t q) ha hG;rcases hq with rfl|rfl|rfl|rfl<;>simp[fs,pg,as,im,ol]at h ⊢ <;>omega
 obtain⟨k,k1,k2,k3⟩:=zOy (P:=fun j=> ∀a,H a->fs f t j a%q=0) q hZ;obtain⟨b,b1,b2⟩:=hf.z;cases k with
 |zero=>exact absurd (k2 b b1) b2
 |succ k=>
  have hz:∃a,H a/\fs f t k a%q≠0:=Classical.byContradiction fun hn=>k3 k (by omega) fun a ha=>Classical.byContradiction fun h=>hn ⟨a,ha,h⟩
  have ct:∀k'{a},H a->(fs f t k ((pg t k')⁻¹*a*pg t k')-fs f t k a)%q=0:=fun k'=>by
   induction k' with
   |zero=>intro a _;simp[pg,i1,ol,or1]
   |succ k' ih=>
    intro a ha;have h1:=ih ha;have h2:=k2 ((pg t k')⁻¹*a*pg t k') (hH.c _ ha);simp only[fs]at h2;rw[show(pg t (k'+1))⁻¹*a*pg t (k'+1)=t⁻¹*((pg t k')⁻¹*a*pg t k')*t by simp[pg,as,im]];rcases hq with rfl|rfl|rfl|rfl<;>omega
  refine⟨fs f t k,hA k,hz,fun{a} g ha hg=>?_⟩;have hk:=F.killl hi (t:=t) (x:=g) trivial t1 t2 trivial hg;rw[hp]at hk;have hw:=F.pw1 hi (t:=t) trivial t1 t2 ((q:Int)-co g i).toNat;rw[hp]at hw;have bS:Gd co (i+1) (pg t ((q:Int)-co g i).toNat*g):=fun j hj=>by
   by_cases e:j=i
   ·rw[e];exact hk
   ·exact F.dm (d:=i) (by omega) trivial trivial hw.2.1 hg j (by omega)
  have cw:=fun a=>ct ((q:Int)-co g i).toNat (a:=a)
  generalize pg t ((q:Int)-co g i).toNat=w at bS cw
  have h1:=cw _ (hH.c' w ha);have h2:=hC k (w*g) (hH.c' w ha) bS;rw[show w⁻¹*(w*a*w⁻¹)*w=a by simp[as,il,cl1,or1]]at h1;rw[show(w*g)⁻¹*(w*a*w⁻¹)*(w*g)=g⁻¹*a*g by simp[as,im,cl1]]at h2;rcases hq with rfl|rfl|rfl|rfl<;>omega
theorem yEn(hq:q=2\/q=3\/q=5\/q=7)(ht:∀i,i<n-> ∃t,Gd co i t/\co t i=1){H:A->Prop}(hH:Nm H)(h1:∃a,H a/\a≠1):∃a,H a/\ ¬Ge (NX q H) a:=by
 obtain⟨a,a1,a2⟩:=h1;have hd:∃d,d<n/\ ∃a,H a/\co a d≠0:=Classical.byContradiction fun hn=>a2 (F.ex trivial trivial fun d hd=>by rw[F.e0 hd];exact Classical.byContradiction fun h=>hn ⟨d,hd,a,a1,h⟩)
 obtain⟨d0,d1,d2⟩:=hd;obtain⟨d,d3,⟨b,b1,b2⟩,d4⟩:=zOy (P:=fun d=> ∃a,H a/\co a d≠0) d0 d2;have hz:∀{a},H a->Gd co d a:=fun{a} ha j hj=>Classical.byContradiction fun h=>d4 j hj ⟨a,ha,h⟩
 have key:∀l,l<=n-> ∃f,If q H co (n-l) f:=by
  intro l
  induction l with
  |zero=>
   intro _;refine⟨fun a=>co a d,⟨fun{a b} ha hb=>?_,⟨b,b1,?_⟩,fun{a} g ha hg=>?_⟩⟩
   ·have:=(F.ad (a:=a) (b:=b) trivial trivial (by omega:d<n) (hz hb)).2
    show((co (a*b) d-co a d-co b d)%q=0);rw[this];rcases hq with rfl|rfl|rfl|rfl<;>omega
   ·have:=F.r (a:=b) trivial (by omega:d<n)
    show co b d%q≠0;rw[Jq this.1 this.2];exact b2
   ·have:g=1:=F.ex trivial trivial fun d hd=>by rw[F.e0 hd];exact hg d (by omega)
    simp[this,i1,ol,or1]
  |succ l ih=>
   intro hl;obtain⟨f,hf⟩:=ih (by omega);rw[show n-l=n-(l+1)+1 by omega]at hf;exact yB6 F hq ht hH (by omega) hf
 obtain⟨f,hf⟩:=key n (Je n);rw[Ko]at hf;obtain⟨c,c1,c2⟩:=hf.z;refine⟨c,c1,fun hc=>c2 ?_⟩;have f1:f 1%q=0:=by have:=hf.a hH.o hH.o;rw[ol]at this;rcases hq with rfl|rfl|rfl|rfl<;>omega
 have fi:∀{a},H a->(f a⁻¹+f a)%q=0:=fun{a} ha=>by have:=hf.a (hH.i ha) ha;rw[il]at this;rcases hq with rfl|rfl|rfl|rfl<;>omega
 have hs:Sg fun a=>H a/\f a%q=0:=⟨⟨hH.o,f1⟩,fun{a b} ha hb=>⟨hH.m ha.1 hb.1,by
  have:=hf.a ha.1 hb.1;have h2:=ha.2;have h3:=hb.2;rcases hq with rfl|rfl|rfl|rfl<;>omega⟩,fun{a} ha=>⟨hH.i ha.1,by
  have:=fi ha.1;have h2:=ha.2;rcases hq with rfl|rfl|rfl|rfl<;>omega⟩⟩
 refine(Ge.to hs (fun a ha=>?_) hc).2;rcases ha with⟨y,g,hy,rfl⟩|⟨y,hy,rfl⟩
 ·refine⟨hH.cm g hy,?_⟩
  have e:=hf.a (hH.i hy) (hH.c g hy);have e2:=hf.c g hy (fun j hj=>by omega);have e3:=fi hy;rw[show y⁻¹*(g⁻¹*y*g)=y⁻¹*g⁻¹*y*g by simp[as]]at e;rcases hq with rfl|rfl|rfl|rfl<;>omega
 ·refine⟨hH.toSg.pg hy q,?_⟩
  have:∀k,(f (pg y k)-k*f y)%q=0:=fun k=>by
   induction k with
   |zero=>simpa[pg]using f1
   |succ k ih=>
    have:=hf.a (hH.toSg.pg hy k) hy;simp only[pg];rw[Jbd,Jbo,Gp]
    generalize (k:Int)*f y=z at*
    rcases hq with rfl|rfl|rfl|rfl<;>omega
  have:=this q;rcases hq with rfl|rfl|rfl|rfl<;>omega
end
section
variable {A:Type} [GrT A] {n:Nat}{o:Nat->Int}{co:A->Nat->Int}
theorem zOz(a:A)(i:Nat):∀j,pg a (i+j)=pg a i*pg a j
 |0=>(or1 _).symm
 |j+1=>by rw[<-Ha,pg,zOz a i j,as];rfl
theorem zUA(a:A)(c:Nat):∀j,pg (pg a c) j=pg a (c*j)
 |0=>rfl
 |j+1=>by rw[pg,zUA a c j,Nat.mul_succ,zOz]
theorem yB7(a:A):∀k,pg a⁻¹ k=(pg a k)⁻¹
 |0=>i1.symm
 |k+1=>by rw[pg,yB7 a k,pg,<-yB5,im]
theorem yAn(t:A):∀k,pw (· *·) 1 t k=pg t k
 |0=>rfl
 |k+1=>by rw[pw,xR];exact congrArg (· *t) (yAn t k)
section
variable (F:Fil (fun _:A=>True) (· *·) 1 n o co)
 include F
theorem yB8(a:A):∃k,a*pg a k=1:=by
 have key:∀l k,k+l=n-> ∀a,Gd co k a-> ∃j,a*pg a j=1:=by
  intro l
  induction l with
  |zero=>
   intro k hk a ha;exact⟨0,by rw[pg,or1];exact F.ex trivial trivial fun d hd=>by rw[F.e0 hd];exact ha d (by omega)⟩
  |succ l ih=>
   intro k hk a ha;have ho:=F.op (t:=a) (d:=k) (by omega) trivial;have hz:=Fil.pwc F (d:=k) (by omega) (t:=a) trivial ha (o k).toNat;rw[yAn]at hz;obtain⟨j,hj⟩:=ih (k+1) (by omega) (pg a (o k).toNat) fun i hi=>by
    by_cases e:i=k
    ·rw[e,hz.2,show(((o k).toNat:Nat):Int)=o k by omega];simp
    ·exact hz.1 i (by omega)
   obtain⟨c,hc⟩:∃c,(o k).toNat=c+1:=⟨(o k).toNat-1,by omega⟩;refine⟨c+(c+1)*j,?_⟩;rw[zUA,hc,<-zOz]at hj;rw[yB5,<-hj,show c+1+(c+1)*j=(c+(c+1)*j)+1 by omega,pg]
 exact key n 0 (by omega) a fun j hj=>by omega
theorem Nm.of{N B:A->Prop}(hs:Sg N)(hB:∀a:A,Ge B a)(hc:∀{a b},N a->B b->N (b⁻¹*a*b)):Nm N:=by
 refine⟨hs,fun{a} b ha=>?_⟩;have key:∀{b},Ge B b-> ∀{a},N a->N (b⁻¹*a*b):=fun{b} hb=>by
  induction hb with
  |o=>intro a ha;simpa[i1,ol,or1]using ha
  |x k=>exact fun ha=>hc ha k
  | @m b c _ _ k1 k2=>
   intro a ha;have:=k2 (k1 ha);simpa[as,im]using this
  | @i b _ k=>
   intro a ha;obtain⟨j,hj⟩:=yB8 F b;rw[<-zDN hj];have:∀j,N ((pg b j)⁻¹*a*pg b j):=fun j=>by
    induction j with
    |zero=>simpa[pg,i1,ol,or1]using ha
    |succ j ih=>
     have:=k ih;simpa[pg,as,im]using this
   exact this j
 exact key (hB b) ha
end
theorem zYn{U B N K:A->Prop}(hB:∀a:A,Ge B a)(hN:Nm N)(hc:∀{u b},U u->B b->N (u⁻¹*b⁻¹*u*b))(hK:Sg K)(hNK:∀a,N a->K a)(hUK:∀u,U u->K (pg u q)){a:A}(ha:Ge (NX q (Ge U)) a):K a:=by
 have h1:∀{b},Ge B b-> ∀{h},Ge U h->N (h⁻¹*b⁻¹*h*b):=fun{b} hb=>by
  induction hb with
  |o=>intro h _;simpa[as,i1,ol,il,or1]using hN.o
  | @x b kb=>
   intro h hh
   induction hh with
   |o=>simpa[as,i1,ol,il,or1]using hN.o
   |x ku=>exact hc ku kb
   | @m y z _ _ k1 k2=>
    have:=hN.m (hN.c z k1) k2;simpa[as,im,cl2]using this
   | @i y _ k=>
    have:=hN.i (hN.c' y k);simpa[as,im,ii,cl2]using this
  | @m y z _ _ k1 k2=>
   intro h hh;have:=hN.m (k2 hh) (hN.c z (k1 hh));simpa[as,im,cl2]using this
  | @i y _ k=>
   intro h hh;have:=hN.c' y (hN.i (k hh));simpa[as,im,ii,cl2]using this
 refine ha.to hK fun b hb=>?_
 rcases hb with⟨y,g,hy,rfl⟩|⟨y,hy,rfl⟩
 ·exact hNK _ (h1 (hB g) hy)
 ·clear ha
  induction hy with
  |o=>rw[zOw];exact hK.o
  |x ku=>exact hUK _ ku
  | @m y z ky _ k1 k2=>
   obtain⟨n,n1,n2⟩:=zOx (b:=z) hN (fun g=>h1 (hB g) ky) q;rw[n2];exact hK.m (hK.m k1 k2) (hNK n n1)
  |i _ k=>rw[yB7];exact hK.i k
end
section
variable {A B:Type} [GrT A] [GrT B] {f:A->B} (hm:∀a b,f (a*b)=f a*f b)
 include hm
theorem h_1:f 1=1:=zQG (a:=f 1) (by rw[<-hm,or1,or1])
theorem h_i(a:A):f a⁻¹=(f a)⁻¹:=zDN (by rw[<-hm,ir,h_1 hm])
theorem zRT(a:A):∀k,f (pg a k)=pg (f a) k
 |0=>h_1 hm
 |k+1=>by rw[pg,hm,zRT a k];rfl
theorem Qm.to(q:Nat):∀i{a:A},Qm q i a->Qm q i (f a)
 |0,_,_=>trivial
 |i+1,a,h=>by
  refine Ge.to (H:=fun a=>Qm q (i+1) (f a)) ⟨?_,fun h1 h2=>?_,fun h1=>?_⟩ (fun b hb=>?_) h
  ·rw[h_1 hm];exact .o
  ·rw[hm];exact .m h1 h2
  ·rw[h_i hm];exact .i h1
  ·rcases hb with⟨y,g,hy,rfl⟩|⟨y,hy,rfl⟩
   ·exact .x (.inl ⟨f y,f g,Qm.to q i hy,by simp only[hm,h_i hm]⟩)
   ·exact .x (.inr ⟨f y,Qm.to q i hy,zRT hm _ _⟩)
section
variable {s:B->A} (hs:∀b,f (s b)=b)
 include hs
theorem Qm.back(q:Nat):∀i{b:B},Qm q i b-> ∃a,Qm q i a/\f a=b
 |0,b,_=>⟨s b,trivial,hs b⟩
 |i+1,b,h=>by
  refine Ge.to (H:=fun b=> ∃a,Qm q (i+1) a/\f a=b) ⟨⟨1,.o,h_1 hm⟩,?_,?_⟩ (fun b hb=>?_) h
  ·rintro _ _ ⟨a,a1,rfl⟩ ⟨c,c1,rfl⟩
   exact⟨_,.m a1 c1,hm _ _⟩
  ·rintro _ ⟨a,a1,rfl⟩
   exact⟨_,.i a1,h_i hm _⟩
  ·rcases hb with⟨y,g,hy,rfl⟩|⟨y,hy,rfl⟩
   ·obtain⟨a,a1,rfl⟩:=Qm.back q i hy
    exact⟨_,.x (.inl ⟨a,s g,a1,rfl⟩),by simp only[hm,h_i hm,hs]⟩
   ·obtain⟨a,a1,rfl⟩:=Qm.back q i hy
    exact⟨_,.x (.inr ⟨a,a1,rfl⟩),zRT hm _ _⟩
variable {q:Nat} (hz:∀z,f z=1-> ∀a,z*a=a*z) (hq:∀z,f z=1->pg z q=1)
 include hz hq
 omit hs hm hq in
theorem yFM{z:A}(h:f z=1)(a:A):z⁻¹*a⁻¹*z*a=1:=by
  rw[as,hz z h a];simp[as,cl1,il]
 omit hz hq in
theorem sec(a:A):∃z,f z=1/\a=s (f a)*z:=⟨(s (f a))⁻¹*a,by rw[hm,h_i hm,hs,il],by rw[cl2]⟩
 omit hs in
theorem yEo{a z:A}(h:f z=1):pg (a*z) q=pg a q:=by
  have:∀k,pg (a*z) k=pg a k*pg z k:=fun k=>by
    induction k with
    |zero=>exact(or1 1).symm
    |succ k ih=>
      have hk:∀k,f (pg z k)=1:=fun k=>by rw[zRT hm,h,zOw]
      simp only[pg];rw[ih,as,<-as (pg z k) a z,hz _ (hk k) a];simp[as]
  rw[this,hq z h,or1]
 omit hs hm hq in
theorem yEp{h y z:A}(k:f z=1):(h*z)⁻¹*y⁻¹*(h*z)*y=h⁻¹*y⁻¹*h*y:=by
  have e1:=hz z k y;have e2:=hz z k (y⁻¹*(h*y));simp only[im,as];rw[e1,<-as h y z,<-as y⁻¹ _ z,show z⁻¹*(h⁻¹*(y⁻¹*(h*y)*z))=z⁻¹*(h⁻¹*(z*(y⁻¹*(h*y))))by rw[e2],<-as h⁻¹ z,<-hz z k h⁻¹,as z,cl1]
 omit hs hm hq in
theorem yEq{h y z:A}(k:f z=1):h⁻¹*(y*z)⁻¹*h*(y*z)=h⁻¹*y⁻¹*h*y:=by
  have e2:=hz z k (h⁻¹*(z⁻¹*(y⁻¹*(h*y))));simp only[im,as]at e2 ⊢
  rw[<-e2,<-as z h⁻¹,hz z k h⁻¹,as,cl2]
def RwC(s:B->A)(q:Nat)(L G:B->Prop)(a:A):Prop:=∃x,L x/\((∃b,G b/\a=(s x)⁻¹*(s b)⁻¹*s x*s b)\/a=pg (s x) q)
theorem cov{L G:B->Prop}(hG:∀b,Ge G b)(hk:∀b:B,Qm q (k+1) b->b=1)(hL:∀b:B,Ge L b↔Qm q k b)(a:A):Qm q (k+1) a↔Ge (RwC s q L G) a:=by
 have iC:∀a,Ge (RwC s q L G) a->f a=1:=fun a ha=>Ge.to (H:=fun a=>f a=1) ⟨h_1 hm,fun h1 h2=>by rw[hm,h1,h2,or1],fun h1=>by rw[h_i hm,h1,i1]⟩ (fun b hb=>hk _ (by
  obtain⟨x,hx,⟨g,_,rfl⟩|rfl⟩:=hb
  ·exact .x (.inl ⟨x,g,(hL x).1 (.x hx),by simp only[hm,h_i hm,hs]⟩)
  ·exact .x (.inr ⟨x,(hL x).1 (.x hx),by rw[zRT hm,hs]⟩))) ha
 have hN:Nm (Ge (RwC s q L G)):=⟨Ge.s _,fun{a} b ha=>by rw[as,hz a (iC a ha) b,cl1];exact ha⟩;have N1:∀{x},L x-> ∀{b},Ge G b-> ∀y,f y=b->Ge (RwC s q L G) ((s x)⁻¹*y⁻¹*s x*y):=fun{x} hx{b} hb=>by
  induction hb with
  |o=>
   intro y hy;have e:=hz y hy (s x);rw[as,<-e,as,cl1,il];exact .o
  | @x b hb=>
   intro y hy;obtain⟨z,z1,z2⟩:=sec hm hs y;rw[z2,yEq hz z1,hy];exact .x ⟨x,hx,.inl ⟨b,hb,rfl⟩⟩
  | @m b c _ _ k1 k2=>
   intro y hy;have h1:=k1 (s b) (hs b);have h2:=k2 ((s b)⁻¹*y) (by rw[hm,h_i hm,hs,hy,cl1]);have:=hN.m h2 (hN.c ((s b)⁻¹*y) h1);simpa[as,im,ii,cl1,cl2]using this
  | @i b _ k=>
   intro y hy;have h1:=k y⁻¹ (by rw[h_i hm,hy,ii]);have:=hN.c y (hN.i h1);simpa[as,im,ii,cl1,cl2]using this
 have N2:∀{h},Ge L h-> ∀a,f a=h->(∀y,Ge (RwC s q L G) (a⁻¹*y⁻¹*a*y))/\Ge (RwC s q L G) (pg a q):=fun{h} hh=>by
  induction hh with
  |o=>exact fun a ha=>⟨fun y=>by rw[yFM hz ha];exact .o,by rw[hq a ha];exact .o⟩
  | @x x hx=>
   intro a ha;obtain⟨z,z1,z2⟩:=sec hm hs a;rw[z2,ha];exact⟨fun y=>by rw[yEp hz z1];exact N1 hx (hG _) y rfl,by rw[yEo hm hz hq z1];exact .x ⟨x,hx,.inr rfl⟩⟩
  | @m h c _ _ k1 k2=>
   intro a ha;have h1:=k1 (s h) (hs h);have h2:=k2 ((s h)⁻¹*a) (by rw[hm,h_i hm,hs,ha,cl1]);rw[show a=s h*((s h)⁻¹*a)by rw[cl2]];refine⟨fun y=>?_,?_⟩
   ·have:=hN.m (hN.c ((s h)⁻¹*a) (h1.1 y)) (h2.1 y)
    simpa[as,im,ii,cl1,cl2]using this
   ·obtain⟨n,n1,n2⟩:=zOx (b:=(s h)⁻¹*a) hN h1.1 q
    rw[n2];exact hN.m (hN.m h1.2 h2.2) n1
  | @i h _ k=>
   intro a ha;have h1:=k a⁻¹ (by rw[h_i hm,ha,ii]);refine⟨fun y=>?_,?_⟩
   ·have:=hN.c a (hN.i (h1.1 y))
    simpa[as,im,ii,cl1,cl2,il,or1]using this
   ·have:=hN.i h1.2
    rwa [yB7,ii]at this
 constructor
 ·intro ha
  refine Ge.to hN.toSg (fun b hb=>?_) ha;rcases hb with⟨y,g,hy,rfl⟩|⟨y,hy,rfl⟩
  ·exact(N2 ((hL _).2 (Qm.to hm q k hy)) y rfl).1 g
  ·exact(N2 ((hL _).2 (Qm.to hm q k hy)) y rfl).2
 ·refine fun ha=>Ge.to (Ge.s _) (fun b hb=>?_) ha
  obtain⟨x,hx,hb⟩:=hb;obtain⟨c,c1,c2⟩:=Qm.back hm hs q k ((hL x).1 (.x hx));obtain⟨z,z1,z2⟩:=sec hm hs c;rw[c2]at z2;rcases hb with⟨g,_,rfl⟩|rfl
  ·exact .x (.inl ⟨c,s g,c1,by rw[z2,yEp hz z1]⟩)
  ·exact .x (.inr ⟨c,c1,by rw[z2,yEo hm hz hq z1]⟩)
end
end
end Go.Pc

namespace Go.Pl
open Go Go.Ab Go.Wk
variable {α σ ρ:Type}{i k j D m:Nat}{body:Int->Option (Int⊕(Unit⊕Bool))}{r os:List Int}{f:Nat->Int}{x:SPr}{a q:Int}{o:Option Bool}{P:Prop}{xs:List α}
theorem bs{β:Type}(x:α)(f:α->Option β):(jf x).bind f=f x:=by simp only[Option.bind_some]
theorem zH(x y:α):cond jh x y=x:=by simp only[cond_true]
theorem zK(x y:α):cond ji x y=y:=by simp only[cond_false]
theorem zB{n:Int}(h1:-9223372036854775808<=n:=by omega)(h2:n<=9223372036854775807:=by omega):rng n=jf n:=by unfold rng;rw[if_pos];simp only[inR,J4,decide_eq_true_eq];omega
theorem vH(xs:List α)(i:Nat):ixO xs (i:Int)=xs[i]?:=by unfold ixO;rw[if_pos (by omega)];simp
theorem zA7{α:Type}{xs:List α}(h:i<xs.length):ixO xs (i:Int)=jf xs[i]:=by rw[vH];exact J3 h
theorem yI{n:Nat}(h:n<=68719476736:=by omega):yG (n:Int)=jf n:=by unfold yG;rw[if_pos (by omega)];simp
theorem zV{α:Type}{xs ys:List α}(h:xs.length+ys.length<=68719476736:=by omega):yH xs ys=jf (xs++ys):=by unfold yH;rw[if_pos h]
theorem zO{ρ:Type}{body:σ->Option (σ⊕ρ)}{r:ρ}(S:Nat->σ)(n:Nat)(h:∀i,i<n->body (S i)=jf (.inl (S (i+1))))(he:body (S n)=jf (.inr r)):zE body (S 0)=jf r:=by
 have key:∀k i,i+k=n->zE body (S i)=jf r:=by
  intro k
  induction k with
  |zero=>intro i hi;rw[yQ,show i=n from by omega,he]
  |succ k ih=>intro i hi;rw[yQ,h i (by omega)];exact ih (i+1) (by omega)
 exact key n 0 (by omega)
theorem wY{ρ:Type}{body:σ->Option (σ⊕ρ)}{Q:ρ->Prop}(I:Nat->σ->Prop)(n:Nat)(h:∀i s,i<n->I i s->(∃s',body s=jf (.inl s')/\I (i+1) s')\/ ∃r,body s=jf (.inr r)/\Q r)
  (he:∀s,I n s-> ∃r,body s=jf (.inr r)/\Q r){s:σ}(h0:I 0 s):∃r,zE body s=jf r/\Q r:=by
 have key:∀k i s,i+k=n->I i s-> ∃r,zE body s=jf r/\Q r:=by
  intro k
  induction k with
  |zero=>
   intro i s hi hs;obtain rfl:i=n:=by omega
   obtain⟨r,h1,h2⟩:=he s hs;exact⟨r,by rw[yQ,h1],h2⟩
  |succ k ih=>
   intro i s hi hs;rcases h i s (by omega) hs with⟨s',h1,h2⟩|⟨r,h1,h2⟩
   ·rw[yQ,h1];exact ih (i+1) s' (by omega) h2
   ·exact⟨r,by rw[yQ,h1],h2⟩
 exact key n 0 s (by omega) h0
def zMq{ρ:Type}:Option ρ->Unit⊕ρ
 |none=>.inl ()
 |some r=>.inr r
theorem cs(i:Nat):(i:Int)+1=((i+1:Nat):Int):=by omega
theorem zJ0{body:Int->Option (Int⊕(Unit⊕ρ))}(n:Nat)(t:Nat->Option ρ)(i0:Nat)(hn:i0<=n)
  (h:∀i,i0<=i->i<n->(∀j,i0<=j->j<i->t j=jg)->body (i:Int)=jf (match t i with|none=>.inl ((i+1:Nat):Int)|some r=>.inr (.inr r)))
  (he:(∀j,i0<=j->j<n->t j=jg)->body (n:Int)=jf (.inr (.inl ()))):
  zE body (i0:Int)=jf (zMq ((K7 i0 (n-i0)).findSome? t)):=by
 have key:∀k i,i0<=i->i+k=n->(∀j,i0<=j->j<i->t j=jg)->zE body (i:Int)=jf (zMq ((K7 i k).findSome? t)):=by
  intro k
  induction k with
  |zero=>
   intro i hi hk hp;obtain rfl:i=n:=by omega
   rw[yQ,he hp];rfl
  |succ k ih=>
   intro i hi hk hp;rw[yQ,h i hi (by omega) hp,Ho,Jae];cases ht:t i with
   |some r=>rfl
   |none=>
    simp only
    exact ih (i+1) (by omega) (by omega) fun j h1 h2=>by
     rcases Jo j i with h3|h3
     ·exact hp j h1 h3
     ·rw[show j=i from by omega];exact ht
 exact key (n-i0) i0 (Je _) (by omega) fun j h1 h2=>by omega
theorem zUB{n:Nat}{b:Nat->Bool}:zMq ((K7 0 n).findSome? (fun i=>if b i then jg else jf ji))=if(Jd n).all b then .inl ()else .inr ji:=by
 have key:∀l:List Nat,zMq (l.findSome? (fun i=>if b i then jg else jf ji))=if l.all b then .inl ()else .inr ji:=by
  intro l
  induction l with
  |nil=>rfl
  |cons x l ih=>
   rw[Jae,Un];cases hb:b x
   ·rfl
   ·simpa using ih
 rw[key,Kw]
theorem zJ1(n:Nat)(b:Nat->Bool)
  (h:∀i,i<n->(∀j,j<i->b j=jh)->body (i:Int)=jf (if b i then .inl ((i+1:Nat):Int)else .inr (.inr ji)))
  (he:(∀j,j<n->b j=jh)->body (n:Int)=jf (.inr (.inl ()))):
  zE body 0=jf (if(Jd n).all b then .inl ()else .inr ji):=by
 have:=zJ0 (body:=body) n (fun i=>if b i then jg else jf ji) 0 (Lf _) (fun i _ hi hp=>by
  rw[h i hi fun j hj=>by
   have:=hp j (Lf _) hj;split at this
   ·assumption
   ·cases this]
  cases b i<;>rfl) (fun hp=>he fun j hj=>by
   have:=hp j (Lf _) hj;split at this
   ·assumption
   ·cases this)
 rw[Nat.sub_zero]at this;exact this.trans (congrArg jf (zUB (n:=n) (b:=b)))
theorem zUC{α:Type}{xs:List α}{z:α}(h:i<xs.length):(xs.take i++J1 (xs.length-i) z).set i xs[i]=xs.take (i+1)++J1 (xs.length-(i+1)) z:=by
 have h1:(xs.take i).length=i:=by rw[Ke];omega
 rw[U6 _ _ (by omega),h1,Ko,show xs.length-i=(xs.length-(i+1))+1 from by omega,Jv,Ls,K5 h];simp only[Jg,H1]
theorem zKC{α:Type}{f:α->Option α}{body:List α×Int->Option ((List α×Int)⊕List α)}{x0:List α}{z:α}
  (hb:∀s,body s=cond (decide (s.2<(x0.length:Int))) ((ixO x0 s.2).bind fun v2=>(f v2).bind fun r3=>(ixO s.1 s.2).bind fun _=>(rng (s.2+1)).bind fun v5=>jf (.inl (s.1.set s.2.toNat r3,v5))) (jf (.inr s.1)))
  (hl:x0.length<=68719476736)(hf:∀x∈x0,f x=jf x):zE body (J1 x0.length z,0)=jf x0:=by
 have:=zO (body:=body) (r:=x0) (fun i=>(x0.take i++J1 (x0.length-i) z,(i:Int))) x0.length (fun i hi=>by
  rw[hb];simp only[jk (show((i:Int))<(x0.length:Int)from by omega),zH];rw[zA7 hi,vH];simp only[bs,hf _ (Jp hi)];rw[J3 (by simp;omega),bs,zB,bs];simp only[J8,zUC hi,cs]) (by
  rw[hb];simp only[jj (show¬((x0.length:Int))<(x0.length:Int)from by omega),zK,Ln,Ko,H0,Jh])
 simpa using this
theorem zYo[BEq α]{t:α->α->Option Bool}{x y:List α}
  (hb:∀i,body i=cond (decide (i<(x.length:Int))) ((ixO x i).bind fun v1=>(ixO y i).bind fun v2=>(t v1 v2).bind fun r3=>cond (!r3) (jf (.inr (.inr ji))) ((rng (i+1)).bind fun v4=>jf (.inl v4))) (jf (.inr (.inl ()))))
  (hl:x.length<=68719476736)(ac:x.length=y.length)(ht:∀u∈x,∀v∈y,t u v=jf (u==v)):zE body 0=jf (if x==y then .inl ()else .inr ji):=by
 have h:=zJ1 (body:=body) x.length (fun i=>match x[i]?,y[i]? with|some u,jf v=>u==v|_,_=>jh) (fun i hi _=>by
  have fj:i<y.length:=by omega
  rw[hb];simp only[jk (show((i:Int))<(x.length:Int)from by omega),zH];rw[zA7 hi,zA7 fj];simp only[bs,ht _ (Jp hi) _ (Jp fj),J3 hi,J3 fj];cases x[i]==y[i]
  ·rfl
  ·simp only[Kb,zK,if_true]
   rw[zB,cs];rfl) (fun _=>by
  rw[hb];simp only[jj (show¬((x.length:Int))<(x.length:Int)from by omega),zK])
 rw[h]
 congr 2
 have key:∀(x y:List α),x.length=y.length->((Jd x.length).all (fun i=>match x[i]?,y[i]? with|some u,jf v=>u==v|_,_=>jh))=(x==y):=by
  intro x
  induction x with
  |nil=>intro y hy;cases y with|nil=>rfl|cons _ _=>simp at hy
  |cons u x ih=>
   intro y hy;cases y with
   |nil=>simp at hy
   |cons v y=>
    rw[J7,Qz,Un,List.all_map];simp only[Q7,Function.comp_def,Jb9];rw[ih y (by simpa using hy)];rfl
 rw[key x y ac]
theorem zJ2[BEq α]{t:α->α->Option Bool}{f:Option Bool}{x y:List α}
  (hf:f=cond ((x.length:Int) != (y.length:Int)) (jf ji) ((zE body 0).bind fun r=>match r with|.inl _=>jf jh|.inr r=>jf r))
  (hb:∀i,body i=cond (decide (i<(x.length:Int))) ((ixO x i).bind fun v1=>(ixO y i).bind fun v2=>(t v1 v2).bind fun r3=>cond (!r3) (jf (.inr (.inr ji))) ((rng (i+1)).bind fun v4=>jf (.inl v4))) (jf (.inr (.inl ()))))
  (hl:x.length<=68719476736)(ht:∀u∈x,∀v∈y,t u v=jf (u==v)):f=jf (x==y):=by
 rw[hf]
 by_cases ac:x.length=y.length
 ·rw[zYo hb hl ac ht]
  have:((x.length:Int) != (y.length:Int))=ji:=by simp[ac]
  rw[this];cases x==y<;>rfl
 ·have:((x.length:Int) != (y.length:Int))=jh:=by simp;omega
  rw[this];have h2:(x==y)=ji:=by
   have key:∀(x y:List α),x.length≠y.length->(x==y)=ji:=by
    intro x
    induction x with
    |nil=>intro y hy;cases y with|nil=>simp at hy|cons _ _=>rfl
    |cons u x ih=>
     intro y hy;cases y with
     |nil=>rfl
     |cons v y=>
      show(u==v&&x==y)=ji;rw[ih y (by simpa using hy),Bool.and_false]
   exact key x y ac
  rw[h2];rfl
def sm{α:Type}(c:α->Nat):List α->Nat
 | []=>0
 |x::xs=>c x+sm c xs
theorem zF3{α:Type}(c:α->Nat):∀xs ys:List α,sm c (xs++ys)=sm c xs+sm c ys
 | [],ys=>by simp[sm]
 |x::xs,ys=>by simp only[K9,sm,zF3 c xs ys];omega
theorem zQH(c:α->Nat)(h:i<xs.length):sm c (xs.take (i+1))=sm c (xs.take i)+c xs[i]:=by grind[K5,zF3,sm]
theorem zH8(c:α->Nat)(xs:List α)(i:Nat):sm c (xs.take i)<=sm c xs:=by grind[zF3,Jbl]
theorem zUD(c:α->Nat){x:α}(h:x∈xs):c x<=sm c xs:=by
 obtain⟨i,hi,rfl⟩:=Ld.1 h;have:=zQH c hi
 grind[zH8]
def szR(c:Nat)(b:Int):Int:=if(c:Int)<=b then b-c else -1
theorem yAo{α:Type}{c:α->Nat}{t:α->Int->Option Int}{f:Option Int}{body:Int×Int->Option ((Int×Int)⊕(Int⊕Int))}{xs:List α}{b:Int}
  (hf:f=(rng (b-(xs.length:Int))).bind fun v1=>cond (decide (v1<0)) (jf (-1)) ((zE body (v1,0)).bind fun r=>match r with|.inl r=>jf r|.inr r=>jf r))
  (hb:∀s,body s=cond (decide (s.2<(xs.length:Int))) ((ixO xs s.2).bind fun v2=>(t v2 s.1).bind fun r3=>cond (decide (r3<0)) (jf (.inr (.inr (-1)))) ((rng (s.2+1)).bind fun v4=>jf (.inl (r3,v4)))) (jf (.inr (.inl s.1))))
  (hl:xs.length<=9223372036854775807)(b0:0<=b)(b1:b<=1048576)(ht:∀x∈xs,∀b',0<=b'->b'<=1048576->t x b'=jf (szR (c x) b')):f=jf (szR (xs.length+sm c xs) b):=by
 rw[hf,zB,bs]
 by_cases h0:b-(xs.length:Int)<0
 ·rw[jk h0,zH,szR,if_neg (by omega)]
 ·rw[jj h0,zK]
  obtain⟨r,h1,h2⟩:=wY (body:=body) (Q:=fun r=>(match r with|.inl r=>jf r|.inr r=>jf r)=jf (szR (xs.length+sm c xs) b)) (fun i s=>s.2=(i:Int)/\0<=s.1/\s.1=b-xs.length-sm c (xs.take i)) xs.length (fun i s hi ⟨e1,e2,e3⟩=>by
   rw[hb,e1,jk,zH,zA7 hi,bs,ht _ (Jp hi) _ e2 (by omega),bs];have h3:=zQH c hi;have h4:=zH8 c xs (i+1);unfold szR
   by_cases h5:(c xs[i]:Int)<=s.1
   ·rw[if_pos h5,jj (by omega),zK,zB,bs,cs]
    grind
   grind) (fun s ⟨e1,e2,e3⟩=>by
   rw[hb,e1,jj (by omega),zK];rw[Ln]at e3;refine⟨_,rfl,?_⟩;simp only
   rw[szR,if_pos (by omega),e3]
   grind) (s:=(b-(xs.length:Int),0)) ⟨rfl,by omega,by simp[sm]⟩
  grind
open Go Go.Ab Go.Wk
abbrev VI(n:Int):Prop:=(Lit.int .i64 n).wf=jh
abbrev VL{α:Type}(V:α->Prop)(xs:List α):Prop:=xs.length<=maxLen/\ ∀x∈xs,V x
abbrev c1(x:List Int):Nat:=x.length
abbrev c2(x:List (List Int)):Nat:=x.length+sm c1 x
abbrev c3(x:List (List (List Int))):Nat:=x.length+sm c2 x
theorem zMr{x:List Int}{b:Int}(hl:x.length<=9223372036854775807)(b0:0<=b)(b1:b<=1048576):zWd x b=jf (szR (c1 x) b):=by
 unfold zWd szR;rw[zB,bs]
 grind
theorem zF4{x:List (List Int)}{b:Int}(h:VL (VL VI) x)(b0:0<=b)(b1:b<=1048576:=by omega):zWe x b=jf (szR (c2 x) b):=
 yAo (c:=c1) rfl (fun _=>rfl) h.1 b0 b1 fun y hy _ h1 h2=>zMr (h.2 y hy).1 h1 h2
theorem zO0{x:List (List (List Int))}{b:Int}(h:VL (VL (VL VI)) x)(b0:0<=b)(b1:b<=1048576:=by omega):yCu x b=jf (szR (c3 x) b):=
 yAo (c:=c2) rfl (fun _=>rfl) h.1 b0 b1 (by grind[zF4])
abbrev S1(x:List Int):Prop:=c1 x<=1048576
abbrev S2(x:List (List Int)):Prop:=c2 x<=1048576
abbrev S3(x:List (List (List Int))):Prop:=c3 x<=1048576
theorem S2.mem{x:List (List Int)}(h:S2 x){y:List Int}(hy:y∈x):S1 y:=by
 have:=zUD c1 hy
 grind
theorem S3.mem{x:List (List (List Int))}(h:S3 x){y:List (List Int)}(hy:y∈x):S2 y:=by
 have:=zUD c2 hy
 grind
theorem zMs{x:List Int}(h:S1 x):zS7 x=jf x:=by unfold zS7;rw[yI (H8 h (by decide)),bs,zKC (body:=zWf x) (f:=jf) (fun _=>rfl) (by grind) (fun _ _=>rfl),bs]
theorem zF5{x:List (List Int)}(h:S2 x):zP5 x=jf x:=by unfold zP5;rw[yI (by grind),bs,zKC (body:=zWg x) (f:=zS7) (fun _=>rfl) (by grind) (fun _ hx=>zMs (h.mem hx)),bs]
theorem zO1{x:List (List (List Int))}(h:S3 x):zYS x=jf x:=by unfold zYS;rw[yI (by grind),bs,zKC (body:=zWh x) (f:=zP5) (fun _=>rfl) (by grind) (fun _ hx=>zF5 (h.mem hx)),bs]
theorem zMt{x y:List Int}(h:S1 x):zWT x y=jf (x==y):=
 zJ2 (t:=fun u v=>jf (u==v)) (body:=zWS x y) rfl (fun _=>rfl) (by grind) fun _ _ _ _=>rfl
theorem zF6{x y:List (List Int)}(h:S2 x):zSE x y=jf (x==y):=
 zJ2 (t:=zWT) (body:=zWU x y) rfl (fun _=>rfl) (by grind) fun _ hu _ _=>zMt (h.mem hu)
theorem zO2{x y:List (List (List Int))}(h:S3 x):yC4 x y=jf (x==y):=
 zJ2 (t:=zSE) (body:=zWV x y) rfl (fun _=>rfl) (by grind) fun _ hu _ _=>zF6 (h.mem hu)
def zQI(x:SPr):Prop:=VL VI x.zA/\VL (VL VI) x.zQ/\VL (VL (VL VI)) x.zG
def zMu(x:SPr):Nat:=c1 x.zA+c2 x.zQ+c3 x.zG
def zE6(x:SPr):Prop:=S1 x.zA/\S2 x.zQ/\S3 x.zG
theorem zMv{a b:Nat}{n:Int}:(szR a n<0/\szR (a+b) n= -1)\/(0<=szR a n/\szR a n<=n/\szR b (szR a n)=szR (a+b) n/\(a:Int)<=n)\/n<0:=by unfold szR;omega
theorem zH9{b:Int}(h:zQI x)(b0:0<=b)(b1:b<=1048576):zYR x b=jf (szR (zMu x) b):=by
 obtain⟨h1,h2,h3⟩:=h;unfold zYR zMu;rw[zMr h1.1 b0 b1,bs];rcases zMv (a:=c1 x.zA) (b:=c2 x.zQ+c3 x.zG) (n:=b)with⟨g1,g2⟩|⟨g1,g2,g3,g4⟩|g1
 ·grind
 ·rw[jj (by omega),zK,zF4 h2 g1,bs,Ha,<-g3]
  generalize szR (c1 x.zA) b=b' at g1 g2
  rcases zMv (a:=c2 x.zQ) (b:=c3 x.zG) (n:=b')with⟨k1,k2⟩|⟨k1,k2,k3,k4⟩|k1
  ·grind
  ·rw[jj (by omega),zK,zO0 h3 k1,bs,<-k3]
   generalize szR (c2 x.zQ) b'=b'' at k1 k2
   unfold szR
   grind
  ·omega
 ·omega
theorem zQJ{c:Nat}{b:Int}(_b0:0<=b)(b1:b<=1048576):(decide (szR c b<0)=jh)\/(decide (szR c b<0)=ji/\0<=szR c b/\szR c b<=1048576/\c<=1048576):=by
 unfold szR
 grind
theorem zE6.of(h:zMu x<=1048576):zE6 x:=by unfold zMu at h;exact⟨by omega,by omega,by omega⟩
theorem zHA(h:zE6 x):zS8 x=jf x:=by unfold zS8;rw[zMs h.1,bs,zF5 h.2.1,bs,zO1 h.2.2,bs]
theorem zHB(h:zE6 x):zZc x x=jf jh:=by unfold zZc;rw[zMt h.1,bs,zF6 h.2.1,bs,zO2 h.2.2,bs];simp
def IsB(o:Option Bool)(P:Prop):Prop:=(o=jf jh/\P)\/(o=jf ji/\ ¬P)
theorem IsB.iff{Q:Prop}(h:IsB o P)(hpq:P↔Q):IsB o Q:=by grind
theorem IsB.of_bool{b:Bool}(h:b=jh↔P):IsB (jf b) P:=by
 cases b
 ·exact .inr (by grind)
 ·exact .inl ⟨rfl,h.1 rfl⟩
theorem chk{body:Int->Option (Int⊕(Unit⊕ρ))}(n i0:Nat)(hn:i0<=n)(P:Nat->Prop)(bad:Nat->ρ)
  (h:∀i,i0<=i->i<n->(∀j,i0<=j->j<i->P j)->(body (i:Int)=jf (.inl ((i+1:Nat):Int))/\P i)\/(body (i:Int)=jf (.inr (.inr (bad i)))/\ ¬P i))
  (he:body (n:Int)=jf (.inr (.inl ()))):
  (zE body (i0:Int)=jf (.inl ())/\ ∀j,i0<=j->j<n->P j)\/ ∃i,i0<=i/\i<n/\zE body (i0:Int)=jf (.inr (bad i))/\ ¬P i:=by
 have key:∀k i,i0<=i->i+k=n->(∀j,i0<=j->j<i->P j)->(zE body (i:Int)=jf (.inl ())/\ ∀j,i0<=j->j<n->P j)\/ ∃q,i0<=q/\q<n/\zE body (i:Int)=jf (.inr (bad q))/\ ¬P q:=by
  intro k
  induction k with
  |zero=>
   intro i hi hk hp;obtain rfl:i=n:=by omega
   grind[yQ]
  |succ k ih=>
   intro i hi hk hp;rcases h i hi (by omega) hp with⟨h1,h2⟩|⟨h1,h2⟩
   ·have:=ih (i+1) (by omega) (by omega) (by grind)
    rw[yQ,h1];exact this
   grind[yQ]
 exact key (n-i0) i0 (Je _) (by omega) fun j a b=>by omega
theorem zAt{f:Option Bool}(n:Nat)(P:Nat->Prop)
  (hf:f=(zE body 0).bind fun r=>match r with|.inl _=>jf jh|.inr r=>jf r)
  (h:∀i,i<n->(∀j,j<i->P j)->(body (i:Int)=jf (.inl ((i+1:Nat):Int))/\P i)\/(body (i:Int)=jf (.inr (.inr ji))/\ ¬P i))
  (he:body (n:Int)=jf (.inr (.inl ()))):IsB f (∀i,i<n->P i):=by
 rcases chk n 0 (Lf _) P (fun _=>ji) (fun i _ hi hp=>h i hi fun j hj=>hp j (Lf _) hj) he with⟨h1,h2⟩|⟨i,_,hi,h1,h2⟩
 ·refine .inl ⟨?_,fun i hi=>h2 i (Lf _) hi⟩
  rw[hf];rw[show((0:Nat):Int)=0 from rfl]at h1;rw[h1,bs]
 ·refine .inr ⟨?_,fun hp=>h2 (hp i hi)⟩
  rw[hf];rw[show((0:Nat):Int)=0 from rfl]at h1;rw[h1,bs]
theorem qT{ρ:Type}{bad:ρ}{g:Option (Int⊕(Unit⊕ρ))}(h:IsB o P)(hi:i<9223372036854775807)
  (hg:g=o.bind fun r=>cond (!r) (jf (.inr (.inr bad))) ((rng ((i:Int)+1)).bind fun v=>jf (.inl v))):(g=jf (.inl ((i+1:Nat):Int))/\P)\/(g=jf (.inr (.inr bad))/\ ¬P):=by
 subst hg;rcases h with⟨h1,h2⟩|⟨h1,h2⟩
 ·refine .inl ⟨?_,h2⟩
  rw[h1,bs,Kb,zK,zB,bs,cs]
 grind
theorem yP{n:Nat}(h:i<n:=by omega):decide ((i:Int)<(n:Int))=jh:=by grind
theorem tS{n:Nat}:decide ((n:Int)<(n:Int))=ji:=by simp
theorem zA8(x a b:Int):IsB (zSA x a b) (a<=x/\x<=b):=by
 unfold zSA
 by_cases h:x>=a
 ·rw[jk h,zH];grind[IsB.of_bool]
 ·rw[jj h,zK];exact .inr ⟨rfl,by omega⟩
theorem zCv(x a b:Int):IsB (zWi x a b) (a<=x/\x<=b):=zA8 x a b
def Prime(p:Int):Prop:=p=2\/p=3\/p=5\/p=7
theorem zDO(x:Int):IsB (zWx x) (Prime x):=by
 unfold zWx Prime
 by_cases h2:x=2
 ·subst h2;exact .inl ⟨rfl,.inl rfl⟩
 ·rw[show(x==2)=ji from by grind,zK]
  by_cases h3:x=3
  ·subst h3;exact .inl (by simp)
  ·rw[show(x==3)=ji from by grind,zK]
   by_cases h5:x=5
   ·subst h5;exact .inl (by simp)
   ·rw[show(x==5)=ji from by grind,zK]
    grind[IsB.of_bool]
theorem zHC(x:Int):IsB (zYT x) (Prime x):=zDO x
abbrev at0(v:List Int)(i:Nat):Int:=v.getD i 0
theorem yJ{v:List Int}(h:i<v.length:=by omega):ixO v (i:Int)=jf (at0 v i):=by rw[zA7 h,at0,J2,J3 h];rfl
def yB9(os v:List Int):Prop:=v.length=os.length/\ ∀i,i<v.length->0<=at0 v i/\at0 v i<=at0 os i-1
def Exp(os v:List Int)(k:Nat):Prop:=yB9 os v/\ ∀i,i<=k->at0 v i=0
def Os(os:List Int):Prop:=os.length<=14/\ ∀i,i<os.length->Prime (at0 os i)
theorem Prime.pos{p:Int}(h:Prime p):2<=p/\p<=7:=by unfold Prime at h;omega
theorem zF7{v:List Int}(ho:Os x.zA):IsB (zYX x v) (yB9 x.zA v):=by
 unfold zYX
 by_cases h:v.length=x.zA.length
 ·rw[show((v.length:Int) != (x.zA.length:Int))=ji from by simp[h],zK]
  have h6:=ho.1;refine(zAt v.length (fun i=>0<=at0 v i/\at0 v i<=at0 x.zA i-1) rfl (fun i hi _=>?_) ?_).iff ⟨fun g=>⟨h,g⟩,fun g=>g.2⟩
  ·have hp:=(ho.2 i (by omega)).pos
   refine qT (zA8 _ _ _) (by omega) ?_;unfold zR7;rw[yP hi,zH,yJ hi,bs,yJ,bs,zB,bs]
  ·unfold zR7
   simp
 ·rw[show((v.length:Int) != (x.zA.length:Int))=jh from by simp;omega,zH]
  exact .inr ⟨rfl,fun g=>h g.1⟩
theorem zMw{v:List Int}(hl:v.length<=14):IsB (zWy v) (∀i,i<v.length->at0 v i=0):=by
 refine zAt v.length (fun i=>at0 v i=0) rfl (fun i hi _=>?_) ?_
 ·refine qT (o:=jf (at0 v i==0)) (IsB.of_bool (by simp)) (by omega) ?_
  unfold zJU;rw[yP hi,zH,yJ hi,bs,bs];rfl
 ·unfold zJU
  simp
theorem zBR{v:List Int}(ho:Os x.zA)(hk:k<x.zA.length):IsB (zWz x k v) (Exp x.zA v k):=by
 have h6:=ho.1;unfold zWz;rcases zF7 (v:=v) ho with⟨h1,h2⟩|⟨h1,h2⟩
 ·have hl:=h2.1
  rw[h1,bs,zH,zB,bs];have hs:zS v 0 ((k:Int)+1)=jf (v.take (k+1)):=by
   unfold zS
   grind
  rw[hs,bs];have hb:=zMw (v:=v.take (k+1)) (by grind);have mh:(∀i,i<(v.take (k+1)).length->at0 (v.take (k+1)) i=0)↔Exp x.zA v k:=by
   have e:∀i,i<=k->at0 (v.take (k+1)) i=at0 v i:=by grind
   rw[Ke,Nat.min_eq_left (by omega)];exact⟨fun g=>⟨h2,by grind⟩,fun g i hi=>by rw[e i (by omega)];exact g.2 i (by omega)⟩
  grind
 ·rw[h1,bs,zK]
  exact .inr ⟨rfl,fun g=>h2 g.1⟩
theorem zCw{v:List Int}(ho:Os os)(hk:k<os.length):IsB (zWj os v k) (Exp os v k):=by
 have h6:=ho.1;unfold zWj
 by_cases h:v.length=os.length
 ·rw[show((v.length:Int) != (os.length:Int))=ji from by simp[h],zK]
  refine(zAt v.length (fun i=>(0<=at0 v i/\at0 v i<=at0 os i-1)/\(i<=k->at0 v i=0)) rfl (fun i hi _=>?_) ?_).iff ⟨fun g=>⟨⟨h,by grind⟩,by grind⟩,fun g i hi=>⟨g.1.2 i hi,fun hk=>g.2 i hk⟩⟩
  ·have hp:=(ho.2 i (by omega)).pos
   unfold zR5;rw[yP hi,zH,yJ hi,bs,yJ,bs,zB,bs];rcases zCv (at0 v i) 0 (at0 os i-1)with⟨h1,h2⟩|⟨h1,h2⟩
   ·rw[h1,bs,Kb,zK]
    by_cases h3:(i:Int)<=(k:Int)
    ·rw[jk h3,zH,bs]
     by_cases h4:at0 v i=0
     ·rw[show(at0 v i != 0)=ji from by grind,zK,zB,bs,cs]
      grind
     grind
    ·rw[jj h3,zK,zB,bs,cs]
     grind
   grind
  ·unfold zR5
   simp
 ·rw[show((v.length:Int) != (os.length:Int))=jh from by simp;omega,zH]
  exact .inr ⟨rfl,fun g=>h g.1.1⟩
theorem yFN{body:σ->Option (σ⊕(Unit⊕ρ))}(S:Nat->σ)(n i0:Nat)(hn:i0<=n)(P:Nat->Prop)(bad:Nat->ρ)
  (h:∀i,i0<=i->i<n->(∀j,i0<=j->j<i->P j)->(body (S i)=jf (.inl (S (i+1)))/\P i)\/(body (S i)=jf (.inr (.inr (bad i)))/\ ¬P i))
  (he:body (S n)=jf (.inr (.inl ()))):
  (zE body (S i0)=jf (.inl ())/\ ∀j,i0<=j->j<n->P j)\/ ∃i,i0<=i/\i<n/\zE body (S i0)=jf (.inr (bad i))/\ ¬P i:=by
 have key:∀k i,i0<=i->i+k=n->(∀j,i0<=j->j<i->P j)->(zE body (S i)=jf (.inl ())/\ ∀j,i0<=j->j<n->P j)\/ ∃q,i0<=q/\q<n/\zE body (S i)=jf (.inr (bad q))/\ ¬P q:=by
  intro k
  induction k with
  |zero=>
   intro i hi hk hp;obtain rfl:i=n:=by omega
   grind[yQ]
  |succ k ih=>
   intro i hi hk hp;rcases h i hi (by omega) hp with⟨h1,h2⟩|⟨h1,h2⟩
   ·have:=ih (i+1) (by omega) (by omega) (by grind)
    rw[yQ,h1];exact this
   grind[yQ]
 exact key (n-i0) i0 (Je _) (by omega) fun j a b=>by omega
theorem zAu{b:Int}(h:a=b:=by omega):(a != b)=ji:=by simp[h]
theorem zA9{b:Int}(h:a≠b:=by omega):(a != b)=jh:=by simp[h]
def pr(os:List Int):Nat->Int
 |0=>1
 |i+1=>pr os i*at0 os i
def cp(os:List Int):Nat->Int
 |0=>1
 |i+1=>if cp os i<=729 then cp os i*at0 os i else cp os i
theorem zF8{os:List Int}:∀{i:Nat},(∀j,j<i->Prime (at0 os j))->1<=pr os i
 |0,_=>by simp[pr]
 |i+1,h=>by have h1:=zF8 (os:=os) (i:=i) (by grind);have h2:=(h i (by omega)).pos;simp only[pr];have:(1:Int)*1<=pr os i*at0 os i:=Lr h1 (by omega) (by omega) (by omega);omega
theorem zQK(h:∀j,j<=i->Prime (at0 os j)):pr os i<=pr os (i+1):=by have h1:=zF8 (os:=os) (i:=i) (by grind);have h2:=(h i (Je _)).pos;simp only[pr];have:pr os i*1<=pr os i*at0 os i:=Q8 (by omega) (by omega);omega
theorem zKD{os:List Int}{n:Nat}(h:∀j,j<n->Prime (at0 os j)):∀k,k<=n->pr os (n-k)<=pr os n
 |0,_=>Int.le_refl _
 |k+1,hk=>by
  have h1:=zKD h k (by omega);have h2:=zQK (os:=os) (i:=n-(k+1)) (by grind)
  grind
theorem zUE{os:List Int}:∀{i:Nat},(∀j,j<i->Prime (at0 os j))->(cp os i=pr os i/\pr os i<=729\/729<cp os i/\cp os i<=5103/\729<pr os i)
 |0,_=>by simp[cp,pr]
 |i+1,h=>by
  have h0:∀j,j<i->Prime (at0 os j):=by grind
  have h2:=(h i (by omega)).pos;have h3:=zQK (os:=os) (i:=i) (by grind);have i9:=zF8 h0;simp only[cp];rcases zUE h0 with⟨h1,h4⟩|⟨h1,h4,h5⟩
  ·rw[h1,if_pos h4]
   have h6:pr os i*at0 os i<=729*7:=Lr h4 h2.2 (by omega) (by omega);simp only[pr]at h3 ⊢
   grind
  omega
def zGh(x:SPr)(i:Nat):Prop:=Exp x.zA (x.zQ.getD i []) i/\(x.zG.getD i []).length+i+1=x.zA.length/\ ∀j,j<(x.zG.getD i []).length->Exp x.zA ((x.zG.getD i []).getD j []) i
structure zDx (x:SPr):Prop where
 os:True/\ ∀i,i<x.zA.length->Prime (at0 x.zA i)
 pl:x.zQ.length=x.zA.length
 cl:x.zG.length=x.zA.length
 tl:∀i,i<x.zA.length->zGh x i
structure Pres (x:SPr):Prop where
 os:Os x.zA
 pl:x.zQ.length=x.zA.length
 cl:x.zG.length=x.zA.length
 tl:∀i,i<x.zA.length->zGh x i
theorem Pres.w(h:Pres x):zDx x:=⟨⟨trivial,h.os.2⟩,h.pl,h.cl,h.tl⟩
structure zAA (x:SPr):Prop extends Pres x where
 n6:x.zA.length<=6
 pr:pr x.zA x.zA.length<=729
theorem yA{v:List α}(d:α)(h:i<v.length:=by omega):ixO v (i:Int)=jf (v.getD i d):=by grind[zA7]
theorem zO3(ho:Os x.zA)(hp:x.zQ.length=x.zA.length)(hc:x.zG.length=x.zA.length)(hi:i<x.zA.length):
  (zPA x i=jf (.inl ((i+1:Nat):Int))/\zGh x i)\/(zPA x i=jf (.inr (.inr ji))/\ ¬zGh x i):=by
 have h6:=ho.1;unfold zPA;rw[yP hi,zH,yA [],bs];rcases zBR (v:=x.zQ.getD i []) ho hi with⟨h1,h2⟩|⟨h1,h2⟩
 ·rw[h1,bs,Kb,zK,yA [],bs,zB,bs,zB,bs]
  by_cases hl:(x.zG.getD i []).length+i+1=x.zA.length
  ·rw[zAu,zK,bs]
   rcases chk (body:=zW0 x i (x.zG.getD i [])) (x.zG.getD i []).length 0 (Lf _) (fun j=>Exp x.zA ((x.zG.getD i []).getD j []) i) (fun _=>ji) (fun j _ hj _=>by
     refine qT (zBR ho hi) (by omega) ?_;unfold zW0;rw[yP hj,zH,yA [] hj,bs]) (by
     unfold zW0;simp)with⟨g1,g2⟩|⟨j,_,hj,g1,g2⟩
   ·rw[show((0:Nat):Int)=0 from rfl]at g1
    rw[g1,bs];simp only
    rw[zB,bs,cs];exact .inl ⟨rfl,h2,hl,by grind⟩
   ·rw[show((0:Nat):Int)=0 from rfl]at g1
    rw[g1,bs];exact .inr ⟨rfl,fun g=>g2 (g.2.2 j hj)⟩
  ·rw[zA9,zH]
   exact .inr ⟨rfl,fun g=>hl g.2.1⟩
 ·rw[h1,bs,Ky,zH]
  exact .inr ⟨rfl,fun g=>h2 g.1⟩
theorem zO4(ho:Os x.zA)(hp:x.zQ.length=x.zA.length)(hc:x.zG.length=x.zA.length)(hi:i<x.zA.length):
  (zP6 x i=jf (.inl ((i+1:Nat):Int))/\zGh x i)\/(zP6 x i=jf (.inr (.inr ji))/\ ¬zGh x i):=by
 have h6:=ho.1;unfold zP6;rw[yP hi,zH,yA [],bs];rcases zCw (v:=x.zQ.getD i []) ho hi with⟨h1,h2⟩|⟨h1,h2⟩
 ·rw[h1,bs,Kb,zK,yA [],bs,zB,bs,zB,bs]
  by_cases hl:(x.zG.getD i []).length+i+1=x.zA.length
  ·rw[zAu,zK]
   rcases chk (body:=zWl x i) (x.zG.getD i []).length 0 (Lf _) (fun j=>Exp x.zA ((x.zG.getD i []).getD j []) i) (fun _=>ji) (fun j _ hj _=>by
     refine qT (zCw ho hi) (by omega) ?_;unfold zWl;rw[yA [],bs,yP hj,zH,bs,yA [] hj,bs]) (by
     unfold zWl;rw[yA [],bs,tS,zK])with⟨g1,g2⟩|⟨j,_,hj,g1,g2⟩
   ·rw[show((0:Nat):Int)=0 from rfl]at g1
    rw[g1,bs];simp only
    rw[zB,bs,cs];exact .inl ⟨rfl,h2,hl,by grind⟩
   ·rw[show((0:Nat):Int)=0 from rfl]at g1
    rw[g1,bs];exact .inr ⟨rfl,fun g=>g2 (g.2.2 j hj)⟩
  ·rw[zA9,zH]
   exact .inr ⟨rfl,fun g=>hl g.2.1⟩
 ·rw[h1,bs,Ky,zH]
  exact .inr ⟨rfl,fun g=>h2 g.1⟩
theorem zMx(h6:x.zA.length<=6):
  (zE (zP9 x) (1,0)=jf (.inl ())/\Os x.zA/\pr x.zA x.zA.length<=729)\/(zE (zP9 x) (1,0)=jf (.inr ji)/\ ¬(Os x.zA/\pr x.zA x.zA.length<=729)):=by
 rcases yFN (body:=zP9 x) (fun i=>(pr x.zA i,(i:Int))) x.zA.length 0 (Lf _) (fun i=>Prime (at0 x.zA i)/\pr x.zA (i+1)<=729) (fun _=>ji) (fun i _ hi mb=>by
   have hp:∀j,j<i->Prime (at0 x.zA j):=by grind
   have i9:=zF8 hp;have fd:pr x.zA i<=729:=by
    cases i with
    |zero=>simp[pr]
    |succ i=>grind
   unfold zP9;rw[yP hi,zH,yJ hi,bs];rcases zDO (at0 x.zA i)with⟨h1,h2⟩|⟨h1,h2⟩
   ·have h3:=h2.pos
    have h4:pr x.zA i*at0 x.zA i<=729*7:=Lr fd h3.2 (by omega) (by omega);have h5:1*1<=pr x.zA i*at0 x.zA i:=Lr i9 (by omega) (by omega) (by omega);simp only
    rw[h1,bs,Kb,zK,zB,bs]
    by_cases h7:pr x.zA i*at0 x.zA i> 729
    ·rw[jk h7,zH]
     exact .inr ⟨rfl,by grind[pr]⟩
    ·rw[jj h7,zK,bs,zB,bs,cs]
     exact .inl ⟨rfl,h2,by grind[pr]⟩
   grind) (by
   unfold zP9;simp)with⟨g1,g2⟩|⟨i,_,hi,g1,g2⟩
 ·refine .inl ⟨g1,⟨by omega,by grind⟩,?_⟩
  cases hn:x.zA.length with
  |zero=>simp[pr]
  |succ n=>grind
 ·refine .inr ⟨g1,fun⟨h1,h2⟩=>g2 ⟨h1.2 i hi,?_⟩⟩
  have:=zKD (os:=x.zA) (n:=x.zA.length) h1.2 (x.zA.length-(i+1)) (by omega)
  grind
theorem zKE(ho:Os os):zYU os=jf (cp os os.length):=by
 have h6:=ho.1;unfold zYU;rw[show(1,0)=(fun i=>(cp os i,(i:Int))) 0 from rfl,zO (body:=zNy os) (r:=cp os os.length) (fun i=>(cp os i,(i:Int))) os.length (fun i hi=>by
  have hp:=(ho.2 i hi).pos;have hc:=zUE (os:=os) (i:=i) fun j hj=>ho.2 j (by omega)
  have i9:=zF8 (os:=os) (i:=i) fun j hj=>ho.2 j (by omega)
  unfold zNy;rw[yP hi,zH];simp only[cp]
  by_cases h:cp os i<=729
  ·have h4:cp os i*at0 os i<=729*7:=Lr h hp.2 (by omega) (by omega)
   have h5:1*1<=cp os i*at0 os i:=Lr (by omega) (by omega) (by omega) (by omega);rw[jk h,zH,yJ hi,bs,zB,bs,zB,bs,cs,if_pos h]
  ·rw[jj h,zK,zB,bs,cs,if_neg h]) (by
  unfold zNy;simp),bs]
theorem zDk(hl:x.zA.length<=1048576):IsB (f_u x) (zAA x):=by
 unfold f_u
 by_cases h6:x.zA.length<=6
 ·rw[jj (by omega),zK]
  by_cases hp:x.zQ.length=x.zA.length
  ·rw[zAu,zK]
   by_cases hc:x.zG.length=x.zA.length
   ·rw[zAu,zK]
    rcases zMx h6 with⟨h1,h2,h3⟩|⟨h1,h2⟩
    ·rw[h1,bs]
     exact(zAt (f:=(zE (zPA x) 0).bind fun r=>match r with|.inl _=>jf jh|.inr r=>jf r) x.zA.length (zGh x) rfl (by grind[zO3]) (by unfold zPA;simp)).iff ⟨fun g=>⟨⟨h2,hp,hc,g⟩,h6,h3⟩,fun g=>g.tl⟩
    ·rw[h1,bs]
     exact .inr ⟨rfl,fun g=>h2 ⟨g.os,g.pr⟩⟩
   ·rw[zA9,zH]
    exact .inr ⟨rfl,fun g=>hc g.cl⟩
  ·rw[zA9,zH]
   exact .inr ⟨rfl,fun g=>hp g.pl⟩
 ·rw[jk,zH]
  exact .inr ⟨rfl,fun g=>h6 g.n6⟩
theorem zDl(hl:x.zA.length<=1048576):IsB (f_w x) (zAA x):=by
 unfold f_w
 by_cases h6:x.zA.length<=6
 ·rw[jj (by omega),zK]
  by_cases hp:x.zQ.length=x.zA.length
  ·rw[zAu,zK]
   by_cases hc:x.zG.length=x.zA.length
   ·rw[zAu,zK]
    rcases chk (body:=zWk x) x.zA.length 0 (Lf _) (fun i=>Prime (at0 x.zA i)) (fun _=>ji) (fun i _ hi _=>by
      refine qT (zHC _) (by omega) ?_;unfold zWk;rw[yP hi,zH,yJ hi,bs]) (by
      unfold zWk;simp)with⟨g1,g2⟩|⟨i,_,hi,g1,g2⟩
    ·rw[show((0:Nat):Int)=0 from rfl]at g1
     have ho:Os x.zA:=⟨by omega,by grind⟩;have hcp:=zUE (os:=x.zA) (i:=x.zA.length) ho.2;rw[g1,bs];simp only
     rw[zKE ho,bs]
     by_cases h7:cp x.zA x.zA.length> 729
     ·rw[jk h7,zH]
      exact .inr ⟨rfl,fun g=>by have:=g.pr;omega⟩
     ·rw[jj h7,zK]
      exact(zAt (f:=(zE (zP6 x) 0).bind fun r=>match r with|.inl _=>jf jh|.inr r=>jf r) x.zA.length (zGh x) rfl (by grind[zO4]) (by unfold zP6;simp)).iff ⟨fun g=>⟨⟨ho,hp,hc,g⟩,h6,by omega⟩,fun g=>g.tl⟩
    ·rw[show((0:Nat):Int)=0 from rfl]at g1
     rw[g1,bs];exact .inr ⟨rfl,fun g=>g2 (g.os.2 i hi)⟩
   ·rw[zA9,zH]
    exact .inr ⟨rfl,fun g=>hc g.cl⟩
  ·rw[zA9,zH]
   exact .inr ⟨rfl,fun g=>hp g.pl⟩
 ·rw[jk,zH]
  exact .inr ⟨rfl,fun g=>h6 g.n6⟩
open Go Go.Ab Go.Wk Go.Pc
def lvl(x:SPr)(i:Nat):Lvl:=⟨at0 x.zA i,(x.zQ.getD i []).drop (i+1),(x.zG.getD i []).map (·.drop (i+1))⟩
def suf(x:SPr)(k:Nat):Pcp:=(K7 k (x.zA.length-k)).map (lvl x)
theorem yC(x:SPr)(k:Nat):(suf x k).length=x.zA.length-k:=by simp[suf]
theorem zY(h:k<x.zA.length:=by omega):suf x k=lvl x k::suf x (k+1):=by unfold suf;rw[show x.zA.length-k=(x.zA.length-(k+1))+1 from by omega,Ho,Ju]
theorem vO(h:x.zA.length<=k:=by omega):suf x k=[]:=by unfold suf;simp_all
theorem zAg{v:List Int}(h:Exp os v k)(hk:k<os.length):v=zeros (k+1)++v.drop (k+1):=by
 have h1:=h.1.1;apply L4;intro i;rw[Ks];simp only[zeros,Jl,K4,Ly];split
 ·rename_i hi
  have h2:=h.2 i (by omega)
  grind
 grind
theorem zYp{x:SPr}:∀(d k:Nat)(v:List Int),k+d=x.zA.length->v.length=d->(∀i,i<d->0<=at0 v i/\at0 v i<=at0 x.zA (k+i)-1)->V (suf x k) v
 |0,k,v,hk,hv,_=>by rw[vO];simpa[V]using hv
 |d+1,k,v,hk,hv,h=>by
  rw[zY]
  match v,hv with
  |a::v,hv=>
   have h0:=h 0 (by omega);simp only[at0,Gm,Um]at h0;refine⟨⟨h0.1,by simp only[lvl,at0];omega⟩,zYp d (k+1) v (by omega) (by grind) fun i hi=>?_⟩
   grind
theorem jC{v:List Int}(h:Exp x.zA v k)(hk:k<x.zA.length:=by omega):V (suf x (k+1)) (v.drop (k+1)):=by
 have h1:=h.1.1;refine zYp (x.zA.length-(k+1)) (k+1) _ (by omega) (by grind) fun i hi=>?_
 have:=h.1.2 (k+1+i) (by omega)
 grind
theorem zDx.ok{x:SPr}(h:zDx x):∀(d k:Nat),k+d=x.zA.length->Pc.Ok (suf x k)
 |0,k,hk=>by rw[vO];simp only[Pc.Ok]
 |d+1,k,hk=>by
  rw[zY];obtain⟨t1,t2,t3⟩:=h.tl k (by omega);refine⟨by simp only[lvl];have:=(h.os.2 k (by omega)).pos;omega,jC t1,?_,fun c hc=>?_,zDx.ok h d (k+1) (by omega)⟩
  ·grind[yC,lvl]
  ·simp only[lvl,Jc]at hc
   obtain⟨u,hu,rfl⟩:=hc;obtain⟨j,hj,rfl⟩:=Ld.1 hu
   grind[jC]
theorem zDx.okAt(h:zDx x)(hk:k<=x.zA.length):Pc.Ok (suf x k):=h.ok (x.zA.length-k) k (by omega)
theorem Pres.okAt(h:Pres x)(hk:k<=x.zA.length):Pc.Ok (suf x k):=h.w.okAt hk
theorem zT(n:Nat):(zeros n).length=n:=by simp[zeros]
theorem zGi(k:Nat):zeros (k+1)=zeros k++[0]:=by simp[zeros,Lw]
theorem zBS{b:Int}{v:Vec}:(zeros k++a::v).set k b=zeros k++b::v:=by rw[U6 _ _ (by grind[zT]),zT,Ko,Ls]
theorem zBT{v:Vec}:ixO (zeros k++a::v) (k:Int)=jf a:=by rw[vH,Jk (by grind[zT]),zT,Ko];rfl
theorem jJ{v:Vec}:zeros k++0::v=zeros (k+1)++v:=by rw[zGi,Jg];rfl
theorem tH{v:List Int}(h:v.length<=1000000:=by omega):f_z v=jf v:=by grind[f_z,zV]
theorem zBn{m:Vec->Vec->Vec}:∀(cs:List Vec)(x:Vec)(i:Nat)(acc:Vec),i<cs.length->i<x.length->
  img m (cs.take (i+1)) (x.take (i+1)) acc=iter (at0 x i).toNat (fun v=>m v (cs.getD i [])) (img m (cs.take i) (x.take i) acc)
 | [],_,_,_,h,_=>by simp at h
 |_::_,[],_,_,_,h=>by simp at h
 |c::cs,a::x,0,acc,_,_=>by rfl
 |c::cs,a::x,i+1,acc,h,h'=>by simp only[L5,img,at0,List.getD_cons_succ];exact zBn cs x i _ (by grind) (by grind)
theorem uZ{β:Type}{body:α×Int->Option ((α×Int)⊕α)}{S:β->Prop}(e:β->α)(g:β->β)(n:Int)(hn:0<=n)(hS:∀a,S a->S (g a))
  (h:∀a(i:Nat),S a->(i:Int)<n->body (e a,(i:Int))=jf (.inl (e (g a),((i+1:Nat):Int))))(he:∀a,S a->body (e a,n)=jf (.inr (e a))){a:β}(ha:S a):
  zE body (e a,0)=jf (e (iter n.toNat g a)):=by
 have ej:∀k,S (iter k g a):=fun k=>vX (S:=S) hS k ha
 exact zO (body:=body) (r:=e (iter n.toNat g a)) (fun i=>(e (iter i g a),(i:Int))) n.toNat (by grind[xR]) (by grind)
theorem zMy{v:Vec}(h:i<v.length:=by omega):ixO (zeros k++v) ((k+i:Nat):Int)=jf (at0 v i):=by rw[vH,Jk (by grind[zT]),zT,show k+i-k=i from by omega,J3 h,at0,J2,J3 h];rfl
theorem zDP{x:SPr}(ho:Os x.zA):∀(d k:Nat)(v:List Int),k+d=x.zA.length->V (suf x k) v->v.length=d/\ ∀i,i<d->0<=at0 v i/\at0 v i<at0 x.zA (k+i)/\at0 v i<=6
 |0,k,v,hk,hv=>by
  rw[vO]at hv;simp only[V]at hv
  grind
 |d+1,k,v,hk,hv=>by
  rw[zY]at hv
  match v,hv with
  |a::v,hv=>
   obtain⟨h1,h2⟩:=zDP ho d (k+1) v (by omega) hv.2;refine⟨by simp[h1],fun i hi=>?_⟩;cases i with
   |zero=>
    have h3:=hv.1;simp only[lvl]at h3;have:=(ho.2 k (by omega)).pos
    grind
   |succ i=>
    grind
theorem zE7(h:Pres x)(hk:k<x.zA.length)(hi:i<x.zA.length-(k+1):=by omega):
  ∃c,ixO x.zG (k:Int)=jf (x.zG.getD k [])/\ixO (x.zG.getD k []) (i:Int)=jf (zeros (k+1)++c)/\V (suf x (k+1)) c/\(lvl x k).cs.getD i []=c:=by
 obtain⟨t1,t2,t3⟩:=h.tl k hk;have hc:=h.cl
 grind[yA,jC,zAg,lvl]
def FAt(x:SPr)(k:Nat)(g:SPr->Int->List Int->List Int->Option (List Int)):Prop:=
 ∀a b,V (suf x k) a->V (suf x k) b->g x k (zeros k++a) (zeros k++b)=jf (zeros k++mul (suf x k) a b)
def FIm(x:SPr)(k:Nat)(g:SPr->Int->List Int->Option (List Int)):Prop:=
 ∀v,V (suf x (k+1)) v->g x k (zeros (k+1)++v)=jf (zeros (k+1)++sig (suf x (k+1)) (lvl x k) v)
theorem zO5(h:Pres x)(hk:k<x.zA.length){g:SPr->Int->List Int->List Int->Option (List Int)}(hg:FAt x (k+1) g):FIm x k (b_g g):=by
 intro v hv;have h6:=h.os.1;have ok:=h.okAt (k:=k+1) (by omega);obtain⟨fT,dq⟩:=zDP h.os (x.zA.length-(k+1)) (k+1) v (by omega) hv;have gf:=yC x (k+1);have gy:(lvl x k).cs.length=x.zA.length-(k+1):=by have:=h.okAt (k:=k) (by omega);rw[zY hk]at this;rw[this.2.2.1,gf]
 have gY:∀c∈(lvl x k).cs,V (suf x (k+1)) c:=by have:=h.okAt (k:=k) (by omega);rw[zY hk]at this;exact this.2.2.2.1
 have hA:∀i,V (suf x (k+1)) (img (mul (suf x (k+1))) ((lvl x k).cs.take i) (v.take i) (zeros (suf x (k+1)).length)):=fun i=>
  qE (yO ok) _ _ (by grind) (wD ok)
 unfold b_g;rw[yI,bs,zB,bs,cs];have hz:J1 x.zA.length (0:Int)=zeros (k+1)++zeros (suf x (k+1)).length:=by rw[gf];simp only[zeros,Jn];congr 1;omega
 rw[hz];have:=zO (body:=zWn g x k (zeros (k+1)++v)) (r:=zeros (k+1)++sig (suf x (k+1)) (lvl x k) v)
  (fun i=>(zeros (k+1)++img (mul (suf x (k+1))) ((lvl x k).cs.take i) (v.take i) (zeros (suf x (k+1)).length),((k+1+i:Nat):Int))) (x.zA.length-(k+1)) (fun i hi=>by
  have hr:=dq i hi;obtain⟨c,c1,c2,c3,c4⟩:=zE7 h hk hi;unfold zWn;rw[jk,zH];rw[uZ (S:=V (suf x (k+1))) (body:=zWm g x k (zeros (k+1)++v) (zeros (k+1)++img (mul (suf x (k+1))) ((lvl x k).cs.take i) (v.take i) (zeros (suf x (k+1)).length),((k+1+i:Nat):Int))) (fun u=>zeros (k+1)++u) (fun u=>mul (suf x (k+1)) u c) (at0 v i) hr.1 (by grind[yO]) (fun u q hu hq=>by
   unfold zWm;simp only
   rw[zMy,bs,jk hq,zH,zB,bs,c1,bs,zB,bs,zB,bs,
    show(((k+1+i:Nat):Int)-(k:Int)-1)=(i:Int)from by omega,c2,bs,cs,hg u c hu c3,bs,zB,bs,cs]) (fun u hu=>by
   unfold zWm;simp only
   rw[zMy,bs,jj (by omega),zK]) (hA i),bs,zB,bs,cs]
  rw[zBn _ _ _ _ (by omega) (by omega),c4];rfl) (by
  unfold zWn;rw[jj (by omega),zK,Jx (by omega),Jx (by omega)];rfl)
 grind[img]
theorem zYq(h:Pres x)(hk:k<x.zA.length){g:SPr->Int->List Int->List Int->Option (List Int)}{gi:SPr->Int->List Int->Option (List Int)}(hg:FAt x (k+1) g)(hi:FIm x k gi):FAt x k (b_a gi g):=by
 intro a b ha hb;have h6:=h.os.1;have hp:=(h.os.2 k hk).pos;have ok:=h.okAt (k:=k+1) (by omega);have ok0:=h.okAt (k:=k) (by omega);obtain⟨bH,har⟩:=zDP h.os (x.zA.length-k) k a (by omega) ha;obtain⟨fw,hbr⟩:=zDP h.os (x.zA.length-k) k b (by omega) hb;rw[zY hk]at ha hb ok0;obtain⟨a0,a,rfl⟩:∃a0 a',a=a0::a':=by cases a with|nil=>grind|cons p q=>simp
 obtain⟨b0,b,rfl⟩:∃a0 a',b=a0::a':=by cases b with|nil=>grind|cons p q=>simp
 obtain⟨⟨a1,a2⟩,ha⟩:=ha;obtain⟨⟨b1,b2⟩,hb⟩:=hb;have fQ:(lvl x k).o=at0 x.zA k:=rfl;rw[fQ]at a2 b2;unfold b_a;rw[jj (by omega),zK,tH (by grind[zT]),bs,tH (by simp[zT]at fw ⊢;omega),bs,zBT,bs,zBT,bs,J8,zBS,zBS,jJ,jJ];have eA:∀u,V (suf x (k+1)) u->V (suf x (k+1)) (sig (suf x (k+1)) (lvl x k) u):=by grind[zCu]
 have ej:V (suf x (k+1)) (iter b0.toNat (sig (suf x (k+1)) (lvl x k)) a):=vX eA _ ha;rw[uZ (S:=V (suf x (k+1))) (fun u=>zeros (k+1)++u) (sig (suf x (k+1)) (lvl x k)) b0 b1 eA (fun u q hu hq=>by
   unfold zYV;simp only
   rw[zBT,bs,jk hq,zH,hi u hu,bs,zB,bs,cs]) (fun u hu=>by
   unfold zYV;simp only
   rw[zBT,bs,jj (by omega),zK]) ha,bs,zB,bs,cs,hg _ _ ej hb,bs,bs,bs,zB,bs,yJ hk,bs]
 have hm:=yO ok ej hb;have hml:=(zDP h.os (x.zA.length-(k+1)) (k+1) _ (by omega) hm).1;have own:∀u,V (suf x (k+1)) u->f_z (zeros (k+1)++u)=jf (zeros (k+1)++u):=fun u hu=>tH (by
  have:=(zDP h.os (x.zA.length-(k+1)) (k+1) _ (by omega) hu).1
  grind[zT])
 rw[zY hk,yK,fQ]
 by_cases hge:a0+b0>=at0 x.zA k
 ·have t1:=(h.tl k hk).1
  have hw:=jC t1 hk;have hwl:=h.pl;rw[jk hge,zH,if_pos hge,bs,zB,bs,bs,yA [],bs,zAg t1 hk,hg _ _ hw hm,bs,own _ (yO ok hw hm),bs];rw[<-jJ,zBT,bs,zBS];rfl
 ·rw[jj hge,zK,if_neg hge,own _ hm,bs,<-jJ,zBT,bs,zBS]
theorem zF9{x:SPr}(h:Pres x):∀(d k:Nat),k+d=x.zA.length->(∀m,2*d+1<=m->FAt x k (zP8 m))/\(1<=d-> ∀m,2*d<=m->FIm x k (zP7 m))
 |0,k,hk=>by
  refine⟨fun m hm a b ha hb=>?_,fun h=>by omega⟩;have h6:=h.os.1;obtain⟨m,rfl⟩:∃m',m=m'+1:=⟨m-1,by omega⟩;show b_a _ _ x k _ _=_;unfold b_a;rw[jk,zH,yI,bs,vO]
  grind[mul,zeros]
 |d+1,k,hk=>by
  obtain⟨h1,h2⟩:=zF9 h d (k+1) (by omega);have hI:∀m,2*(d+1)<=m->FIm x k (zP7 m):=fun m hm=>by obtain⟨m,rfl⟩:∃m',m=m'+1:=⟨m-1,by omega⟩;exact zO5 h (by omega) (h1 m (by omega))
  refine⟨fun m hm=>?_,fun _=>hI⟩;obtain⟨m,rfl⟩:∃m',m=m'+1:=⟨m-1,by omega⟩;exact zYq h (by omega) (h1 m (by omega)) (hI m (by omega))
theorem zE8(h:Pres x)(hk:k<=x.zA.length):FAt x k f_a:=fun a b ha hb=>
 zAr (2*(x.zA.length-k)+1) fun m hm=>(zF9 h (x.zA.length-k) k (by omega)).1 m hm a b ha hb
theorem zO6(h:Pres x)(hk:k<x.zA.length):FIm x k f_g:=fun v hv=>
 zAr (2*(x.zA.length-k)) fun m hm=>(zF9 h (x.zA.length-k) k (by omega)).2 (by omega) m hm v hv
theorem zCx:∀{P Q:Pcp},Q<:+P->xC P->xC Q
 | [],Q,h,_=>by grind
 |l::P,Q,h,hc=>by
  rcases Qk.1 h with rfl|h
  ·exact hc
  ·exact zCx h hc.1
theorem zJ3:∀{P Q:Pcp},Q<:+P->Pc.Ok P->Pc.Ok Q
 | [],Q,h,_=>by grind
 |l::P,Q,h,hc=>by
  rcases Qk.1 h with rfl|h
  ·exact hc
  ·exact zJ3 h hc.2.2.2.2
theorem zO7(x:SPr)(k:Nat):suf x (k+1)<:+suf x k:=by grind[zY,vO]
theorem zCy{x:SPr}{k:Nat}(h:xC (suf x k)):∀i,xC (suf x (k+i))
 |0=>h
 |i+1=>zCx (zO7 x (k+i)) (zCy h i)
theorem zCz(h:Pres x)(hk:k<=x.zA.length)(hc:xC (suf x k)):Grp (V (suf x k)) (mul (suf x k)) (zeros (suf x k).length):=zBQ _ (h.okAt hk) hc
theorem zGE{x:SPr}:∀(i k:Nat)(v:Vec),k+i<=x.zA.length->V (suf x k) v-> ∃q v',v=q++v'/\q.length=i/\V (suf x (k+i)) v'/\
  ∀a b,V (suf x (k+i)) a->V (suf x (k+i)) b->mul (suf x k) (q++a) (zeros i++b)=q++mul (suf x (k+i)) a b
 |0,k,v,_,hv=>⟨[],v,rfl,rfl,hv,fun a b _ _=>rfl⟩
 |i+1,k,v,hk,hv=>by
  rw[zY]at hv
  match v,hv with
  |e::v,hv=>
   obtain⟨q,v',h1,h2,h3,h4⟩:=zGE i (k+1) v (by omega) hv.2;rw[show k+1+i=k+(i+1)from by omega]at h3 h4;refine⟨e::q,v',by grind,by simp[h2],h3,fun a b ha hb=>?_⟩;have he:=hv.1;rw[zY];show mul (lvl x k::suf x (k+1)) (e::(q++a)) (0::(zeros i++b))=_;rw[yK,L9,if_neg (by omega)]
   grind[iter]
def FTV(x:SPr)(k:Nat)(g:SPr->List Int->List Int->Option (List Int)):Prop:=
 ∀p v u,p.length=k->V (suf x k) v->V (suf x k) u->g x (p++v) (zeros k++u)=jf (p++mul (suf x k) v u)
def FTG(x:SPr)(k:Nat)(g:SPr->List Int->Int->Option (List Int)):Prop:=
 ∀p v,p.length=k->V (suf x k) v->g x (p++v) (k:Int)=jf (p++mul (suf x k) v (1::zeros (x.zA.length-(k+1))))
theorem zJ4(h:Pres x)(hk:k<x.zA.length){g:SPr->List Int->List Int->Option (List Int)}(hg:FTV x (k+1) g){t:Vec}(ht:V (suf x (k+1)) t)
  {body1:List Int×Int->Int->List Int×Int->Option ((List Int×Int)⊕List Int)}{body2:List Int×Int->Option ((List Int×Int)⊕List Int)}
  (ch:∀s,body2 s=cond (decide (s.2<(t.length:Int))) ((ixO t s.2).bind fun v17=>(zE (body1 s v17) (s.1,0)).bind fun r=>(rng (s.2+1)).bind fun v=>jf (.inl (r,v))) (jf (.inr s.1)))
  (db:∀s v q,body1 s v q=cond (decide (q.2<v)) ((ixO x.zG (k:Int)).bind fun cl=>(ixO cl s.2).bind fun c=>(g x q.1 c).bind fun r=>(rng (q.2+1)).bind fun w=>jf (.inl (r,w))) (jf (.inr q.1)))
  {p:Vec}(hp:p.length=k+1){u:Vec}(hu:V (suf x (k+1)) u):zE body2 (p++u,0)=jf (p++img (mul (suf x (k+1))) (lvl x k).cs t u):=by
 have h6:=h.os.1;have ok:=h.okAt (k:=k+1) (by omega);have ok0:=h.okAt (k:=k) (by omega);rw[zY hk]at ok0;obtain⟨eM,ao⟩:=zDP h.os (x.zA.length-(k+1)) (k+1) t (by omega) ht;have gy:(lvl x k).cs.length=x.zA.length-(k+1):=by rw[ok0.2.2.1,yC]
 have hA:∀i,V (suf x (k+1)) (img (mul (suf x (k+1))) ((lvl x k).cs.take i) (t.take i) u):=fun i=>
  qE (yO ok) _ _ (fun c hc=>ok0.2.2.2.1 c (by grind)) hu
 have:=zO (body:=body2) (r:=p++img (mul (suf x (k+1))) (lvl x k).cs t u) (fun i=>(p++img (mul (suf x (k+1))) ((lvl x k).cs.take i) (t.take i) u,(i:Int))) t.length (fun i hi=>by
  have hr:=ao i (by omega);obtain⟨c,c1,c2,c3,c4⟩:=zE7 h hk (i:=i);rw[ch];simp only
  rw[yP hi,zH,yJ hi,bs];rw[uZ (S:=V (suf x (k+1))) (fun u=>p++u) (fun u=>mul (suf x (k+1)) u c) (at0 t i) hr.1 (by grind[yO]) (fun u q hu hq=>by
   rw[db];simp only
   rw[jk hq,zH,c1,bs,c2,bs,hg p u c hp hu c3,bs,zB,bs,cs]) (by grind) (hA i),bs,zB,bs,cs]
  rw[zBn _ _ _ _ (by omega) (by omega),c4]) (by
  grind)
 grind[img]
theorem yAp{p v:Vec}(hp:p.length=k):ixO (p++a::v) (k:Int)=jf a:=by rw[vH,Jk (by omega),hp,Ko];rfl
theorem p_set{p v:Vec}{b:Int}(hp:p.length=k):(p++a::v).set k b=p++b::v:=by simp_all
theorem zMz(h:Pres x)(hk:k<x.zA.length)(hc:xC (suf x (k+1))){g:SPr->List Int->List Int->Option (List Int)}(hg:FTV x (k+1) g):FTG x k (b_d g):=by
 intro p v hp hv;have h6:=h.os.1;have G:=zCz h (k:=k+1) (by omega) hc;have ok:=h.okAt (k:=k+1) (by omega);have ok0:=h.okAt (k:=k) (by omega);obtain⟨fT,dq⟩:=zDP h.os (x.zA.length-k) k v (by omega) hv;rw[zY hk]at hv ok0;obtain⟨e,t,rfl⟩:∃a0 a',v=a0::a':=by cases v with|nil=>grind|cons p q=>simp
 obtain⟨⟨e1,e2⟩,ht⟩:=hv;have fQ:(lvl x k).o=at0 x.zA k:=rfl;rw[fQ]at e2;have eh:=(h.os.2 k hk).pos;have eM:=(zDP h.os (x.zA.length-(k+1)) (k+1) t (by omega) ht).1;have cy:=yC x (k+1);unfold b_d;have hs:zS (p++e::t) ((k+1:Nat):Int) ((p++e::t).length:Int)=jf t:=by
  unfold zS;rw[if_pos (by grind)];have e3:(p++e::t).drop (k+1)=t:=by rw[List.drop_append,Uo (by omega),hp,show k+1-k=1 from by omega];rfl
  grind[J8]
 have bC:f_B t=jf t:=by grind[f_B,zV]
 rw[zB,bs,cs,hs,bs,bC,bs];have hz:=zO (body:=zW1 k t) (r:=(p++[e])++zeros t.length) (fun i=>((p++[e])++(zeros i++t.drop i),(i:Int))) t.length (fun i hi=>by
  have hl:((p++[e])++zeros i).length=k+1+i:=by grind[zT]
  unfold zW1;simp only
  rw[yP hi,zH,zB,bs,zB,bs,show(k:Int)+1+(i:Int)=((k+1+i:Nat):Int)from by omega,vH,<-Jg,Jk (by omega),hl,Ko,
   Hq hi,Q7,bs,zB,bs,cs,J8,U6 _ _ (by omega),hl,Ko,Ls,zGi]
  simp) (by
  unfold zW1;simp)
 simp only[zeros,H0,Uf,K0,Jg,H1]at hz;rw[show((0:Nat):Int)=0 from rfl]at hz;rw[hz,bs,J8,yAp hp,bs,zB,bs,bs,p_set hp,yAp hp,bs,yJ hk,bs];have eW:J1 t.length (0:Int)=zeros (suf x (k+1)).length:=by rw[cy,eM];rfl
 rw[zY hk,yK,fQ];have gk:mul (suf x (k+1)) (iter (1:Int).toNat (sig (suf x (k+1)) (lvl x k)) t) (zeros (x.zA.length-(k+1)))=sig (suf x (k+1)) (lvl x k) t:=by rw[<-cy];show mul _ (sig (suf x (k+1)) (lvl x k) t) _=_;exact G.oner (zCu ok0 ht)
 rw[gk,eW]
 by_cases heq:e+1=at0 x.zA k
 ·have t1:=(h.tl k hk).1
  have hw:=jC t1 hk;have hwl:=h.pl;have dw:(p++[(0:Int)]).length=k+1:=by simp[hp]
  rw[show(e+1==at0 x.zA k)=jh from by grind,zH,if_pos (by omega),bs,yA [],bs,p_set hp];have dM:p++0::zeros (suf x (k+1)).length=(p++[0])++zeros (suf x (k+1)).length:=by simp
  rw[dM,zAg t1 hk,hg _ _ _ dw G.ein hw,bs,G.onel hw];rw[zJ4 (body1:=yCy g x k) (body2:=yCz g x k t) h hk hg ht (fun _=>rfl) (fun _ _ _=>rfl) dw hw,bs];rw[zE5 G.toMon _ _ ok0.2.2.2.1 hw,show e+1-at0 x.zA k=0 from by omega];simp only[Jg,H1];rfl
 ·have dw:(p++[e+1]).length=k+1:=by simp[hp]
  rw[show(e+1==at0 x.zA k)=ji from by grind,zK,if_neg (by omega)];have dM:p++(e+1)::zeros (suf x (k+1)).length=(p++[e+1])++zeros (suf x (k+1)).length:=by simp
  rw[dM,zJ4 (body1:=yC0 g x k) (body2:=yC1 g x k t) h hk hg ht (fun _=>rfl) (fun _ _ _=>rfl) dw G.ein,bs];simp only[Jg,H1];rfl
theorem zAb{n:Nat}(h:i<n:=by omega):xH n i=zeros i++1::zeros (n-(i+1)):=by
 have:zeros n=zeros i++0::zeros (n-(i+1)):=by
  simp only[zeros];rw[<-Jv,Jn]
  grind
 grind[xH,zBS]
theorem zE9(n:Nat):(wC n).length=n:=by simp[wC]
theorem zHD{n:Nat}(h:i<n):(wC n).getD i []=xH n i:=by simp[wC,J2,h]
theorem zUF(h:Pres x)(hk:k<=x.zA.length)(hc:xC (suf x k)){g:SPr->List Int->Int->Option (List Int)}(hg:∀j,k<=j->j<x.zA.length->FTG x j g):FTV x k (b_c g):=by
 intro p v u hp hv hu;have h6:=h.os.1;have G:=zCz h hk hc;have ok:=h.okAt hk;obtain⟨gU,dV⟩:=zDP h.os (x.zA.length-k) k u (by omega) hu;have cy:=yC x k;have hV1:∀j,j<=x.zA.length->j<x.zA.length->V (suf x j) (1::zeros (x.zA.length-(j+1))):=fun j hj pL=>by rw[zY pL];have:=(h.os.2 j pL).pos;refine⟨⟨by omega,by show 1<at0 x.zA j;omega⟩,?_⟩;rw[<-yC];exact wD (h.okAt (by omega))
 have hUn:∀i,i<x.zA.length-k->V (suf x k) (xH (x.zA.length-k) i):=by grind[zCt]
 have hUs:∀c∈wC (x.zA.length-k),V (suf x k) c:=fun c hc=>by
  simp only[wC,Jc,Lj]at hc
  grind
 have hA:∀i,V (suf x k) (img (mul (suf x k)) ((wC (x.zA.length-k)).take i) (u.take i) v):=fun i=>
  qE (yO ok) _ _ (by grind) hv
 have iI:∀i w,i<x.zA.length-k->V (suf x k) w->g x (p++w) ((k+i:Nat):Int)=jf (p++mul (suf x k) w (xH (x.zA.length-k) i)):=fun i w hi hw=>by obtain⟨q,w',h1,h2,h3,h4⟩:=zGE i k w (by omega) hw;have h5:=hg (k+i) (by omega) (by omega) (p++q) w' (by grind) h3;rw[Jg,<-h1]at h5;rw[h5,zAb hi,h1,show x.zA.length-k-(i+1)=x.zA.length-(k+i+1)from by omega,h4 w' _ h3 (hV1 (k+i) (by omega) (by omega)),Jg]
 unfold b_c;have ak:(zeros k++u).length=x.zA.length:=by grind[zT]
 have:=zO (body:=zW3 g x (zeros k++u)) (r:=p++mul (suf x k) v u) (fun j=>(p++img (mul (suf x k)) ((wC (x.zA.length-k)).take (j-k)) (u.take (j-k)) v,(j:Int))) x.zA.length (fun j hj=>by
  unfold zW3;simp only
  rw[ak,yP hj,zH];rcases Jo j k with hjk|hjk
  ·have e0:ixO (zeros k++u) (j:Int)=jf 0:=by
    rw[vH,Jy (by grind)]
    grind[zeros]
   rw[e0,bs,show j-k=0 from by omega,show j+1-k=0 from by omega];rw[yQ];unfold zW2;simp only
   rw[show decide ((0:Int)<0)=ji from rfl,zK];simp only
   rw[bs,zB,bs,cs]
  ·obtain⟨i,rfl⟩:∃i,j=k+i:=⟨j-k,by omega⟩
   have hi:i<x.zA.length-k:=by omega
   have hr:=dV i hi;rw[zMy,bs,show k+i-k=i from by omega,show k+i+1-k=i+1 from by omega];rw[uZ (S:=V (suf x k)) (fun w=>p++w) (fun w=>mul (suf x k) w (xH (x.zA.length-k) i)) (at0 u i) hr.1 (by grind[yO]) (fun w q hw hq=>by
    unfold zW2;simp only
    rw[jk hq,zH,iI i w hi hw,bs,zB,bs,cs]) (fun w hw=>by
    unfold zW2;simp) (hA i),bs,zB,bs,cs]
   rw[zBn _ _ _ _ (by grind[zE9]) (by omega),zHD hi]) (by
  unfold zW3;simp only
  rw[ak,tS,zK,Jx (by grind[zE9]),Jx (by omega),zE5 G.toMon _ _ hUs hv];have hn:=normal (suf x k) ok (fun Q hQ=>(zBQ Q (zJ3 hQ ok) (zCx hQ hc)).toMon) u hu
  grind)
 simp only[Jb5,Kd,img]at this
 grind
theorem zFA{x:SPr}(h:Pres x):∀(d k:Nat),k+d=x.zA.length->xC (suf x k)->(∀m,2*d+1<=m->FTV x k (zSB m))
 |d,k,hk,hc=>fun m hm=>by
  obtain⟨m,rfl⟩:∃m',m=m'+1:=⟨m-1,by omega⟩;refine zUF h (by omega) hc fun j hj fL=>?_
  obtain⟨m,rfl⟩:∃m',m=m'+1:=⟨m-1,by omega⟩;have bD:xC (suf x (j+1)):=by
   have:=zCy hc (j+1-k)
   grind
  exact zMz h fL bD (zFA h (x.zA.length-(j+1)) (j+1) (by omega) bD m (by omega))
 termination_by d=>d
 decreasing_by omega
theorem zYr(h:Pres x)(hk:k<=x.zA.length)(hc:xC (suf x k)):FTV x k f_c:=fun p v u hp hv hu=>
 zAr (2*(x.zA.length-k)+1) fun m hm=>zFA h (x.zA.length-k) k (by omega) hc m hm p v u hp hv hu
theorem zYs(h:Pres x)(hk:k<x.zA.length)(hc:xC (suf x (k+1))):FTG x k f_d:=fun p v hp hv=>
 zAr (2*(x.zA.length-k)) fun m hm=>by obtain⟨m,rfl⟩:∃m',m=m'+1:=⟨m-1,by omega⟩;exact zMz h hk hc (zFA h (x.zA.length-(k+1)) (k+1) (by omega) hc m (by omega)) p v hp hv
abbrev fv(k:Nat)(v:Vec):Vec:=zeros k++v
section
variable {x:SPr} (h:Pres x) {k:Nat} (hk:k<=x.zA.length) (hc:xC (suf x k))
 include h hk
theorem vB{v:Vec}(hv:V (suf x k) v):v.length=x.zA.length-k:=(zDP h.os (x.zA.length-k) k v (by omega) hv).1
theorem zAQ{v:Vec}(hv:V (suf x k) v):(fv k v).length=x.zA.length:=by grind[zT,vB]
theorem zM0:J1 x.zA.length (0:Int)=fv k (zeros (suf x k).length):=by
 have _:=h;rw[yC];simp only[fv,zeros,Jn];grind
 include hc
theorem zO8(hi:i<x.zA.length-k):V (suf x k) (xH (x.zA.length-k) i):=by
 have _:=hc;have:=yC x k;rw[<-this]at hi ⊢
 exact zCt (h.okAt hk) hi
theorem zM1{p:Vec}(hp:p.length=k)(hi:i<x.zA.length-k){w:Vec}(hw:V (suf x k) w):f_d x (p++w) ((k+i:Nat):Int)=jf (p++mul (suf x k) w (xH (x.zA.length-k) i)):=by
 obtain⟨q,w',h1,h2,h3,h4⟩:=zGE i k w (by omega) hw;have bD:xC (suf x (k+i+1)):=zCy hc (i+1);have h5:=zYs h (k:=k+i) (by omega) bD (p++q) w' (by grind) h3;have h7:V (suf x (k+i)) (1::zeros (x.zA.length-(k+i+1))):=by
  have pL:k+i<x.zA.length:=by omega
  rw[zY pL];have:=(h.os.2 (k+i) pL).pos;refine⟨⟨by omega,by show 1<at0 x.zA (k+i);omega⟩,?_⟩;rw[<-yC];exact wD (h.okAt (by omega))
 grind[zAb]
theorem zEA{a b:Vec}(ha:V (suf x k) a)(hb:V (suf x k) b):f_c x (fv k a) (fv k b)=jf (fv k (mul (suf x k) a b)):=
 zYr h hk hc (zeros k) a b (zT k) ha hb
theorem zHE{a:Vec}(ha:V (suf x k) a):f_B (fv k a)=jf (fv k a):=by
 have _:=hc;have:=zAQ h hk ha;have h6:=h.os.1
 grind[f_B,zV]
theorem zDy{a b:Vec}(ha:V (suf x k) a)(hb:V (suf x k) b):zLx x (fv k a) (fv k b)=jf (fv k (mul (suf x k) a b)):=by grind[zLx,zHE,zEA]
theorem zHF{c:Vec}(eL:V (suf x k) c){e:Int}(e0:0<=e)(e1:e<=1000):f_Y x (fv k c) e=jf (fv k (pw (mul (suf x k)) (zeros (suf x k).length) c e.toNat)):=by
 have h6:=h.os.1;have ok:=h.okAt hk;unfold f_Y;rw[zAQ h hk eL,yI,bs,zM0 h hk];rw[uZ (S:=V (suf x k)) (body:=zW5 x (fv k c) e) (fun u=>fv k u) (fun u=>mul (suf x k) u c) e e0 (by grind[yO]) (fun u i hu hi=>by
  unfold zW5;simp only
  rw[jk hi,zH,zEA h hk hc hu eL,bs,zB,bs,cs]) (fun u hu=>by
  unfold zW5;simp) (wD ok),bs]
 rfl
theorem zGj{v:Vec}(hv:V (suf x k) v):∃w,V (suf x k) w/\mul (suf x k) v w=zeros (suf x k).length/\f_N x (fv k v)=jf (fv k w):=by
 have h6:=h.os.1;have ok:=h.okAt hk;have G:=zCz h hk hc;have fT:=zAQ h hk hv;have cy:=yC x k;unfold f_N;rw[zHE h hk hc hv,bs,fT,yI,bs,zM0 h hk]
 let I:Nat->(List Int×List Int×Int)->Prop:=fun j s=> ∃A w,s=(fv k A,fv k w,(j:Int))/\V (suf x k) A/\V (suf x k) w/\mul (suf x k) v w=A/\ ∃A',A=zeros (j-k)++A'
 have key:=wY (body:=zW9 x (fv k v)) (Q:=fun r=> ∃w,V (suf x k) w/\mul (suf x k) v w=zeros (suf x k).length/\r=fv k w) I x.zA.length (fun j s hj hI=>by
  obtain⟨A,w,rfl,hA,hw,hm,A',hA'⟩:=hI;left;unfold zW9;simp only
  rw[fT,yP hj,zH];rcases Jo j k with hjk|hjk
  ·have e0:ixO (fv k A) (j:Int)=jf 0:=by
    grind[vH,zeros]
   rw[yQ];unfold zSC;simp only
   rw[e0,bs,show((0:Int) != 0)=ji from rfl,zK];simp only
   rw[bs,zB,bs,cs]
   grind
  ·obtain⟨i,rfl⟩:∃i,j=k+i:=⟨j-k,by omega⟩
   have hi:i<x.zA.length-k:=by omega
   rw[show k+i-k=i from by omega]at hA';have bM:=vB h hk hA;obtain⟨a0,A',rfl⟩:∃p q,A'=p::q:=by
    cases A' with
    |nil=>grind[zT]
    |cons p q=>simp
   have eh:=(h.os.2 (k+i) hj).pos;have inner:=wY (body:=zSC x (fv k A,fv k w,((k+i:Nat):Int))) (s:=(fv k A,fv k w))
    (Q:=fun r=> ∃B u,r=(fv k B,fv k u)/\V (suf x k) B/\V (suf x k) u/\mul (suf x k) v u=B/\ ∃B',B=zeros (i+1)++B')
    (fun q s=> ∃B u b B',s=(fv k B,fv k u)/\V (suf x k) B/\V (suf x k) u/\mul (suf x k) v u=B/\B=zeros i++b::B'/\(b=0\/b=a0+q)) 10 (fun q s hq hs=>by
     obtain⟨B,u,b,B',rfl,hB,hu,mJ,bL,hb⟩:=hs;have hz:ixO (fv k B) ((k+i:Nat):Int)=jf b:=by rw[fv,zMy (by grind[vB]),bL,at0,J2,Jk (by rw[zT];omega),zT,Ko];rfl
     unfold zSC;simp only
     rw[hz,bs]
     by_cases dc:b=0
     ·subst dc
      right;rw[show((0:Int) != 0)=ji from rfl,zK];exact⟨_,rfl,B,u,rfl,hB,hu,mJ,B',by rw[bL,jJ]⟩
     ·left
      have hbq:b=a0+q:=by omega
      rw[show(b != 0)=jh from by grind,zH,zM1 h hk hc (zT k) hi hB,bs,zM1 h hk hc (zT k) hi hu,bs];have hU:=zO8 h hk hc hi;obtain⟨q',v',h1,h2,h3,h4⟩:=zGE i k B (by omega) hB;have hqv:q'=zeros i/\v'=b::B':=by grind[List.append_inj,zT]
      obtain⟨rfl,rfl⟩:=hqv;have h7:V (suf x (k+i)) (1::zeros (x.zA.length-(k+i+1))):=by rw[zY hj];refine⟨⟨by omega,by show 1<at0 x.zA (k+i);omega⟩,?_⟩;rw[<-yC];exact wD (h.okAt (by omega))
      have h8:=h4 (b::B') _ h3 h7;rw[show x.zA.length-(k+i+1)=x.zA.length-k-(i+1)from by omega,<-zAb hi,<-h1,zY hj,yK]at h8;refine⟨_,rfl,mul (suf x k) B (xH (x.zA.length-k) i),mul (suf x k) u (xH (x.zA.length-k) i),?_⟩;have fQ:(lvl x (k+i)).o=at0 x.zA (k+i):=rfl;rw[fQ]at h8
      by_cases hge:b+1>=at0 x.zA (k+i)
      ·rw[if_pos hge]at h8
       refine⟨_,_,rfl,yO ok hB hU,yO ok hu hU,?_,h8,?_⟩
       ·rw[<-G.assoc hv hu hU,mJ]
       ·left
        rw[zY hj]at h3;have:=h3.1.2;omega
      ·rw[if_neg hge]at h8
       refine⟨_,_,rfl,yO ok hB hU,yO ok hu hU,?_,h8,?_⟩
       ·rw[<-G.assoc hv hu hU,mJ]
       omega) (fun s hs=>by
     obtain⟨B,u,b,B',rfl,hB,hu,mJ,bL,hb⟩:=hs;have hz:ixO (fv k B) ((k+i:Nat):Int)=jf b:=by rw[fv,zMy (by grind[vB]),bL,at0,J2,Jk (by rw[zT];omega),zT,Ko];rfl
     have hbr:=(zDP h.os (x.zA.length-k) k B (by omega) hB).2 i hi;have ha:=(zDP h.os (x.zA.length-k) k A (by omega) hA).2 i hi;have e1:at0 B i=b:=by rw[bL,at0,J2,Jk (by grind[zT]),zT,Ko];rfl
     have e2:at0 A i=a0:=by rw[hA',at0,J2,Jk (by grind[zT]),zT,Ko];rfl
     have dc:b=0:=by omega
     subst dc;unfold zSC;simp only
     rw[hz,bs,show((0:Int) != 0)=ji from rfl,zK];exact⟨_,rfl,B,u,rfl,hB,hu,mJ,B',by rw[bL,jJ]⟩) (by grind)
   obtain⟨r,r1,B,u,rfl,hB,hu,mJ,B',bL⟩:=inner;rw[r1,bs,zB,bs,cs]
   grind) (fun s hI=>by
  obtain⟨A,w,rfl,hA,hw,hm,A',hA'⟩:=hI;unfold zW9;simp only
  rw[fT,tS,zK];refine⟨_,rfl,w,hw,?_,rfl⟩;have bM:=vB h hk hA;rw[hA',J5,zT]at bM
  grind) (s:=(fv k v,fv k (zeros (suf x k).length),0))
  ⟨v,_,rfl,hv,wD ok,G.oner hv,v,by rw[Jb5];rfl⟩
 grind
theorem qU{a b:Vec}(ha:V (suf x k) a)(hb:V (suf x k) b):∃c,V (suf x k) c/\mul (suf x k) b c=mul (suf x k) a b/\zIR x (fv k a) (fv k b)=jf (fv k c):=by
 have ok:=h.okAt hk;have G:=zCz h hk hc;obtain⟨w,hw,hm,h1⟩:=zGj h hk hc hb;have fC:=yO ok ha hb;refine⟨mul (suf x k) w (mul (suf x k) a b),yO ok hw fC,?_,?_⟩
 ·rw[<-G.assoc hb hw fC,hm,G.onel fC]
 grind[zIR,zDy]
end
theorem zDQ{a b:List Int}(h:a.length<=1000000):zLw a b=jf (a==b):=
 zJ2 (t:=fun u v=>jf (u==v)) (body:=zW8 a b) rfl (fun _=>rfl) (by omega) fun _ _ _ _=>rfl
theorem zRU{a b:List Int}(h:a.length<=1000000):zLv a b=jf (a==b):=zDQ h
theorem zM2{body:Int->Option (Int⊕(Unit⊕ρ))}(n i0:Nat)(hn:i0<=n)(P:Nat->Prop)(B:ρ->Prop)
  (h:∀i,i0<=i->i<n->(∀j,i0<=j->j<i->P j)->(body (i:Int)=jf (.inl ((i+1:Nat):Int))/\P i)\/(∃r,body (i:Int)=jf (.inr (.inr r))/\B r/\ ¬P i))
  (he:body (n:Int)=jf (.inr (.inl ()))):
  (zE body (i0:Int)=jf (.inl ())/\ ∀j,i0<=j->j<n->P j)\/ ∃r i,i0<=i/\i<n/\zE body (i0:Int)=jf (.inr r)/\B r/\ ¬P i:=by
 have key:∀k i,i0<=i->i+k=n->(∀j,i0<=j->j<i->P j)->(zE body (i:Int)=jf (.inl ())/\ ∀j,i0<=j->j<n->P j)\/ ∃r q,i0<=q/\q<n/\zE body (i:Int)=jf (.inr r)/\B r/\ ¬P q:=by
  intro k
  induction k with
  |zero=>
   intro i hi hk hp;obtain rfl:i=n:=by omega
   grind[yQ]
  |succ k ih=>
   intro i hi hk hp;rcases h i hi (by omega) hp with⟨h1,h2⟩|⟨r,h1,h2,h3⟩
   ·have:=ih (i+1) (by omega) (by omega) (by grind)
    rw[yQ,h1];exact this
   ·exact .inr ⟨r,i,hi,by omega,by rw[yQ,h1],h2,h3⟩
 exact key (n-i0) i0 (Je _) (by omega) fun j a b=>by omega
theorem vZ{σ ρ:Type}{body:σ->Option (σ⊕ρ)}{Q:ρ->Prop}(I:σ->Prop)(m:σ->Nat)
  (h:∀s,I s->(∃s',body s=jf (.inl s')/\I s'/\m s'<m s)\/ ∃r,body s=jf (.inr r)/\Q r):∀(k:Nat)(s:σ),m s<=k->I s-> ∃r,zE body s=jf r/\Q r
 |k,s,hk,hs=>by
  rcases h s hs with⟨s',h1,h2,h3⟩|⟨r,h1,h2⟩
  ·cases k with
   |zero=>omega
   |succ k=>
    obtain⟨r,h4,h5⟩:=vZ I m h k s' (by omega) h2
    grind[yQ]
  grind[yQ]
theorem yBA{a b:Vec}:(fv k a==fv k b)=jh↔a=b:=by simp
theorem zC0{v:List Int}(h:Exp x.zA v i)(hk:k<=i+1:=by omega)(hn:k<=x.zA.length:=by omega):v=fv k (v.drop k)/\V (suf x k) (v.drop k):=by
 have h1:=h.1.1;constructor
 ·apply L4
  intro j;rw[fv,Ks];simp only[zeros,Jl,K4,Ly];split
  ·rename_i hj
   have h2:=h.2 j (by omega)
   grind
  grind
 ·refine zYp (x.zA.length-k) k _ (by omega) (by grind) fun j hj=>?_
  have:=h.1.2 (k+j) (by omega)
  grind
structure LC (x:SPr) (k:Nat):Prop where
 c1:∀j,k+1<=j->j<x.zA.length->pw (mul (suf x (k+1))) (zeros (suf x (k+1)).length) ((lvl x k).cs.getD (j-(k+1)) []) (at0 x.zA j).toNat=sig (suf x (k+1)) (lvl x k) ((x.zQ.getD j []).drop (k+1))
 c2:∀i,k+1<=i->i<x.zA.length-> ∀j,i+1<=j->j<x.zA.length->
  mul (suf x (k+1)) ((lvl x k).cs.getD (j-(k+1)) []) ((lvl x k).cs.getD (i-(k+1)) [])=mul (suf x (k+1)) ((lvl x k).cs.getD (i-(k+1)) []) (sig (suf x (k+1)) (lvl x k) (((x.zG.getD i []).getD (j-(i+1)) []).drop (k+1)))
 c3:sig (suf x (k+1)) (lvl x k) (lvl x k).w=(lvl x k).w
 c4:∀j,k+1<=j->j<x.zA.length->mul (suf x (k+1)) (lvl x k).w (iter (lvl x k).o.toNat (sig (suf x (k+1)) (lvl x k)) (xH (x.zA.length-(k+1)) (j-(k+1))))=mul (suf x (k+1)) (xH (x.zA.length-(k+1)) (j-(k+1))) (lvl x k).w
section
variable {x:SPr} (h:Pres x) {k:Nat} (hk:k<x.zA.length) (hc:xC (suf x (k+1)))
 include h hk
theorem kF(h1:k+1<=j)(h2:j<x.zA.length):ixO x.zG (k:Int)=jf (x.zG.getD k [])/\ixO (x.zG.getD k []) ((j:Int)-(k:Int)-1)=jf (fv (k+1) ((lvl x k).cs.getD (j-(k+1)) []))/\V (suf x (k+1)) ((lvl x k).cs.getD (j-(k+1)) []):=by
 obtain⟨c,c1,c2,c3,c4⟩:=zE7 h hk (i:=j-(k+1))
 grind
theorem zUG(h1:k+1<=j)(h2:j<x.zA.length):ixO x.zQ (j:Int)=jf (fv (k+1) ((x.zQ.getD j []).drop (k+1)))/\V (suf x (k+1)) ((x.zQ.getD j []).drop (k+1)):=by
 have t1:=(h.tl j h2).1;have hl:=h.pl
 grind[zC0,yA]
theorem zUH(h1:k+1<=i)(h2:i+1<=j)(h3:j<x.zA.length):ixO x.zG (i:Int)=jf (x.zG.getD i [])/\ixO (x.zG.getD i []) ((j:Int)-(i:Int)-1)=jf (fv (k+1) (((x.zG.getD i []).getD (j-(i+1)) []).drop (k+1)))/\V (suf x (k+1)) (((x.zG.getD i []).getD (j-(i+1)) []).drop (k+1)):=by
 obtain⟨_,t2,t3⟩:=h.tl i (by omega)
 grind[zC0,yA]
theorem zYt:ixO x.zQ (k:Int)=jf (fv (k+1) (lvl x k).w)/\V (suf x (k+1)) (lvl x k).w:=by have t1:=(h.tl k hk).1;have hl:=h.pl;obtain⟨e1,e2⟩:=zC0 (k:=k+1) t1;exact⟨by rw[yA []];exact congrArg jf e1,e2⟩
theorem yAq{v:Vec}(hv:V (suf x (k+1)) v):V (suf x (k+1)) (sig (suf x (k+1)) (lvl x k) v):=by
 have ok0:=h.okAt (k:=k) (by omega)
 grind[zY,zCu]
theorem zJ5(h1:k+1<=j)(h2:j<x.zA.length):zIS (x.zA.length:Int) (j:Int)=jf (fv (k+1) (xH (x.zA.length-(k+1)) (j-(k+1)))):=by
 have h6:=h.os.1;unfold zIS;rw[yI,bs,vH,K4,if_pos h2,bs,J8]
 congr 1
 rw[fv,zAb,<-Jg];have e1:zeros (k+1)++zeros (j-(k+1))=zeros j:=by grind[zeros,Jn]
 have e2:J1 x.zA.length (0:Int)=zeros j++0::zeros (x.zA.length-(j+1)):=by simp only[zeros];rw[<-Jv,Jn];grind
 grind[zBS]
theorem zRV(h1:k+1<=j)(h2:j<x.zA.length):zWo (x.zA.length:Int) (j:Int)=jf (fv (k+1) (xH (x.zA.length-(k+1)) (j-(k+1)))):=zJ5 h hk h1 h2
 include hc
theorem zAc{v:Vec}(hv:V (suf x (k+1)) v):f_K x k (fv (k+1) v)=jf (fv (k+1) (sig (suf x (k+1)) (lvl x k) v)):=by
 have h6:=h.os.1;have ok:=h.okAt (k:=k+1) (by omega);have ok0:=h.okAt (k:=k) (by omega);rw[zY hk]at ok0;obtain⟨fT,dq⟩:=zDP h.os (x.zA.length-(k+1)) (k+1) v (by omega) hv;have gy:(lvl x k).cs.length=x.zA.length-(k+1):=by rw[ok0.2.2.1,yC]
 have t2:=(h.tl k hk).2.1;have iU:=h.cl;have hA:∀i,V (suf x (k+1)) (img (mul (suf x (k+1))) ((lvl x k).cs.take i) (v.take i) (zeros (suf x (k+1)).length)):=fun i=>
  qE (yO ok) _ _ (fun c hc=>ok0.2.2.2.1 c (by grind)) (wD ok)
 unfold f_K;rw[zAQ h (by omega) hv,yI,bs,yA [],bs,zM0 h (k:=k+1) (by omega)];have:=zO (body:=zW7 x k (fv (k+1) v) (x.zG.getD k [])) (r:=fv (k+1) (sig (suf x (k+1)) (lvl x k) v))
  (fun i=>(fv (k+1) (img (mul (suf x (k+1))) ((lvl x k).cs.take i) (v.take i) (zeros (suf x (k+1)).length)),(i:Int))) (x.zG.getD k []).length (fun i hi=>by
  have hr:=dq i (by omega);obtain⟨c,c1,c2,c3,c4⟩:=zE7 h hk (i:=i);unfold zW7;simp only
  rw[yP hi,zH,c2,bs,zB,bs,zB,bs,show(k:Int)+1+(i:Int)=((k+1+i:Nat):Int)from by omega,fv,zMy,bs];rw[uZ (S:=V (suf x (k+1))) (body:=zW6 x (zeros (k+1)++c) (at0 v i)) (fun u=>fv (k+1) u) (fun u=>mul (suf x (k+1)) u c) (at0 v i) hr.1 (by grind[yO]) (fun u q hu hq=>by
   unfold zW6;simp only
   rw[jk hq,zH,zEA h (by omega) hc hu c3,bs,zB,bs,cs]) (fun u hu=>by
   unfold zW6;simp) (hA i),bs,zB,bs,cs]
  rw[zBn _ _ _ _ (by omega) (by omega),c4]) (by
  unfold zW7;simp only
  rw[tS,zK,Jx (by omega),Jx (by omega)];rfl)
 simp only[Kd,img]at this
 grind
theorem zC1{a b:Vec}(ha:V (suf x (k+1)) a):IsB (zLw (fv (k+1) a) (fv (k+1) b)) (a=b):=by
 have _:=hc;have h6:=h.os.1
 grind[zDQ,zAQ,IsB.of_bool,yBA]
theorem zM3{c:Vec}(eL:V (suf x (k+1)) c){e:Int}(e0:0<=e)(e1:e<=1000):zNz x ((k+1:Nat):Int) (fv (k+1) c) e=jf (fv (k+1) (pw (mul (suf x (k+1))) (zeros (suf x (k+1)).length) c e.toNat)):=by
 have h6:=h.os.1;have ok:=h.okAt (k:=k+1) (by omega);have G:=zCz h (k:=k+1) (by omega) hc;have hA:=zE8 h (k:=k+1) (by omega);have pwV:∀a,V (suf x (k+1)) (pw (mul (suf x (k+1))) (zeros (suf x (k+1)).length) c a):=fun a=>wV G.toMon eL a
 unfold zNz;rw[yI,bs,zM0 h (k:=k+1) (by omega)];obtain⟨r,r1,r2⟩:=vZ (body:=zJT x ((k+1:Nat):Int)) (Q:=fun r=>r=fv (k+1) (pw (mul (suf x (k+1))) (zeros (suf x (k+1)).length) c e.toNat))
  (fun s=> ∃(m a q:Nat),s=((m:Int),fv (k+1) (pw (mul (suf x (k+1))) (zeros (suf x (k+1)).length) c a),fv (k+1) (pw (mul (suf x (k+1))) (zeros (suf x (k+1)).length) c q))/\a+q*m=e.toNat/\m<=1000) (fun s=>s.1.toNat) (fun s ⟨m,a,q,hs,he,hm⟩=>by
   subst hs;unfold zJT;simp only
   by_cases dy:m=0
   ·grind
   ·left
    have hr:vD (m:Int) 2=jf ((m%2:Nat):Int):=by rfl
    have hq:vN (m:Int) 2=jf ((m/2:Nat):Int):=by
     unfold vN;rw[if_neg (by decide),Int.tdiv_eq_ediv_of_nonneg (by omega)]
     grind[zB]
    have pN:=Lx m 2;have mD:mul (suf x (k+1)) (pw (mul (suf x (k+1))) (zeros (suf x (k+1)).length) c q) (pw (mul (suf x (k+1))) (zeros (suf x (k+1)).length) c q)=pw (mul (suf x (k+1))) (zeros (suf x (k+1)).length) c (q+q):=(zAP G.toMon eL q q).symm;rw[jk,zH,hr,bs];rcases Nat.mod_two_eq_zero_or_one m with h2|h2
    ·rw[h2,show((((0:Nat):Int))==1)=ji from rfl,zK,hA _ _ (pwV q) (pwV q),bs,hq,bs,mD]
     refine⟨_,rfl,⟨m/2,a,q+q,rfl,?_,by omega⟩,by omega⟩
     grind
    ·rw[h2,show((((1:Nat):Int))==1)=jh from rfl,zH,hA _ _ (pwV a) (pwV q),bs,hA _ _ (pwV q) (pwV q),bs,hq,bs,mD,<-zAP G.toMon eL a q]
     refine⟨_,rfl,⟨m/2,a+q,q+q,rfl,?_,by omega⟩,by omega⟩
     grind) 1000000 (e,fv (k+1) (zeros (suf x (k+1)).length),fv (k+1) c) (by omega) ⟨e.toNat,0,1,by rw[zKB G.toMon eL,show((e.toNat:Nat):Int)=e from by omega];rfl,by omega,by omega⟩
 grind
end
def yEr(o:Option xG)(P:Prop):Prop:=(o=jf (xG.mk 0 0 0 0)/\P)\/ ∃r,o=jf r/\r.Kind≠0/\ ¬P
theorem kb{b c d:Int}(h:a≠0):(xG.mk a b c d).Kind≠0:=h
abbrev KB(r:xG):Prop:=r.Kind≠0
theorem zBo{bad:xG}{g:Option (Int⊕(Unit⊕xG))}(h:IsB o P)(hi:i<9223372036854775807)(hbad:bad.Kind≠0)
  (hg:g=o.bind fun r=>cond (!r) (jf (.inr (.inr bad))) ((rng ((i:Int)+1)).bind fun v=>jf (.inl v))):(g=jf (.inl ((i+1:Nat):Int))/\P)\/(∃r,g=jf (.inr (.inr r))/\KB r/\ ¬P):=by
 rcases qT h hi hg with h|⟨h1,h2⟩
 all_goals grind
section
variable {x:SPr} (h:Pres x) {k:Nat} (hk:k<x.zA.length) (hc:xC (suf x (k+1)))
 include h hk hc
theorem zO9:yEr (f_o x k) (LC x k):=by
 have h6:=h.os.1;have ok:=h.okAt (k:=k+1) (by omega);have G:=zCz h (k:=k+1) (by omega) hc;obtain⟨w1,w2⟩:=zYt h hk;have p9:∀v,V (suf x (k+1)) v->V (suf x (k+1)) (sig (suf x (k+1)) (lvl x k) v):=by grind[yAq]
 unfold f_o;rw[zB,bs,cs];rcases zM2 (body:=zWA x k) x.zA.length (k+1) (by omega) (fun j=>pw (mul (suf x (k+1))) (zeros (suf x (k+1)).length) ((lvl x k).cs.getD (j-(k+1)) []) (at0 x.zA j).toNat=sig (suf x (k+1)) (lvl x k) ((x.zQ.getD j []).drop (k+1))) KB (fun j h1 h2 _=>by
   obtain⟨c1,c2,c3⟩:=kF h hk h1 h2;obtain⟨p1,p2⟩:=zUG h hk h1 h2;have eh:=(h.os.2 j h2).pos;refine zBo (zC1 h hk hc (wV G.toMon c3 (at0 x.zA j).toNat)) (by omega) (bad:=xG.mk 1 k j 0) (kb (by decide)) ?_;unfold zWA;rw[yP h2,zH,c1,bs,zB,bs,zB,bs,c2,bs,yJ h2,bs,zHF h (by omega) hc c3 (by omega) (by omega),bs,p1,bs,zAc h hk hc p2,bs]) (by
   unfold zWA;simp)with⟨g1,g2⟩|⟨r,j,j1,j2,g1,g2,g3⟩
 rotate_left
 ·rw[g1,bs]
  exact .inr ⟨r,rfl,g2,fun q=>g3 (q.c1 j j1 j2)⟩
 rw[g1,bs];simp only
 rw[bs];rcases zM2 (body:=zWC x k) x.zA.length (k+1) (by omega) (fun i=> ∀j,i+1<=j->j<x.zA.length->
   mul (suf x (k+1)) ((lvl x k).cs.getD (j-(k+1)) []) ((lvl x k).cs.getD (i-(k+1)) [])=mul (suf x (k+1)) ((lvl x k).cs.getD (i-(k+1)) []) (sig (suf x (k+1)) (lvl x k) (((x.zG.getD i []).getD (j-(i+1)) []).drop (k+1)))) KB (fun i h1 h2 _=>by
   obtain⟨c1,c2,c3⟩:=kF h hk h1 h2;unfold zWC;rw[yP h2,zH,zB,bs,cs];rcases zM2 (body:=zWB x k i) x.zA.length (i+1) (by omega) (fun j=>mul (suf x (k+1)) ((lvl x k).cs.getD (j-(k+1)) []) ((lvl x k).cs.getD (i-(k+1)) [])=mul (suf x (k+1)) ((lvl x k).cs.getD (i-(k+1)) []) (sig (suf x (k+1)) (lvl x k) (((x.zG.getD i []).getD (j-(i+1)) []).drop (k+1)))) KB (fun j h3 h4 _=>by
     obtain⟨d1,d2,d3⟩:=kF h hk (j:=j) (by omega) h4;obtain⟨e1,e2,e3⟩:=zUH h hk h1 h3 h4;obtain⟨q,q1,q2,q3⟩:=qU h (by omega) hc d3 c3;refine zBo ((zC1 h hk hc (b:=sig (suf x (k+1)) (lvl x k) (((x.zG.getD i []).getD (j-(i+1)) []).drop (k+1))) q1).iff (Q:=mul (suf x (k+1)) ((lvl x k).cs.getD (j-(k+1)) []) ((lvl x k).cs.getD (i-(k+1)) [])=mul (suf x (k+1)) ((lvl x k).cs.getD (i-(k+1)) []) (sig (suf x (k+1)) (lvl x k) (((x.zG.getD i []).getD (j-(i+1)) []).drop (k+1)))) ?_) (by omega) (bad:=xG.mk 2 k i j) (kb (by decide)) ?_
     ·exact⟨by grind,fun e=>G.cancel_l c3 q1 (p9 _ e3) (by rw[q2,e])⟩
     ·unfold zWB
      rw[yP h4,zH,d1,bs,zB,bs,zB,bs,d2,bs,bs,zB,bs,zB,bs,c2,bs,q3,bs,e1,bs,zB,bs,zB,bs,e2,bs,zAc h hk hc e3,bs]) (by
     unfold zWB;simp)with⟨g1,g2⟩|⟨r,j,j1,j2,g1,g2,g3⟩
   ·grind
   grind) (by
   unfold zWC;simp)with⟨k1,k2⟩|⟨r,j,j1,j2,k1,k2,k3⟩
 rotate_left
 ·rw[k1,bs]
  exact .inr ⟨r,rfl,k2,fun q=>k3 (q.c2 j j1 j2)⟩
 rw[k1,bs];simp only
 rw[w1,bs,zAc h hk hc w2,bs];rcases zC1 h hk hc (b:=(lvl x k).w) (p9 _ w2)with⟨m1,m2⟩|⟨m1,m2⟩
 rotate_left
 ·rw[m1,bs,Ky,zH]
  exact .inr ⟨_,rfl,kb (by decide),fun q=>m2 q.c3⟩
 rw[m1,bs,Kb,zK,bs];rcases zM2 (body:=zWE x k (fv (k+1) (lvl x k).w)) x.zA.length (k+1) (by omega) (fun j=>mul (suf x (k+1)) (lvl x k).w (iter (lvl x k).o.toNat (sig (suf x (k+1)) (lvl x k)) (xH (x.zA.length-(k+1)) (j-(k+1))))=mul (suf x (k+1)) (xH (x.zA.length-(k+1)) (j-(k+1))) (lvl x k).w) KB (fun j h1 h2 _=>by
   have hU:=zO8 h (k:=k+1) (by omega) hc (i:=j-(k+1)) (by omega);have eh:=(h.os.2 k hk).pos;obtain⟨q,q1,q2,q3⟩:=qU h (k:=k+1) (by omega) hc hU w2;have ej:V (suf x (k+1)) (iter (lvl x k).o.toNat (sig (suf x (k+1)) (lvl x k)) (xH (x.zA.length-(k+1)) (j-(k+1)))):=vX p9 _ hU;refine zBo ((zC1 h hk hc (b:=q) ej).iff ⟨by grind,fun e=>G.cancel_l w2 ej q1 (by rw[e,q2])⟩) (by omega) (bad:=xG.mk 4 k j 0) (kb (by decide)) ?_;unfold zWE;rw[yP h2,zH,zJ5 h hk h1 h2,bs,yJ hk,bs];rw[uZ (S:=V (suf x (k+1))) (body:=zWD x k (at0 x.zA k)) (fun u=>fv (k+1) u) (sig (suf x (k+1)) (lvl x k)) (at0 x.zA k) (by omega) p9 (fun u i hu hi=>by
    unfold zWD;simp only
    rw[jk hi,zH,zAc h hk hc hu,bs,zB,bs,cs]) (fun u hu=>by
    unfold zWD;simp) hU,bs,bs,q3,bs]
   rfl) (by
   unfold zWE;simp)with⟨n1,n2⟩|⟨r,j,j1,j2,n1,n2,n3⟩
 ·rw[n1,bs]
  exact .inl ⟨rfl,⟨g2,k2,m2,n2⟩⟩
 ·rw[n1,bs]
  exact .inr ⟨r,rfl,n2,fun q=>n3 (q.c4 j j1 j2)⟩
theorem zOA:yEr (f_p x k) (LC x k):=by
 have h6:=h.os.1;have ok:=h.okAt (k:=k+1) (by omega);have G:=zCz h (k:=k+1) (by omega) hc;obtain⟨w1,w2⟩:=zYt h hk;have hA:=zE8 h (k:=k+1) (by omega);have hI:=zO6 h hk;have p9:∀v,V (suf x (k+1)) v->V (suf x (k+1)) (sig (suf x (k+1)) (lvl x k) v):=by grind[yAq]
 have eqB:∀{a b:Vec},V (suf x (k+1)) a->IsB (zLv (fv (k+1) a) (fv (k+1) b)) (a=b):=fun ha=>zC1 h hk hc ha
 unfold f_p;rw[zB,bs,cs];rcases zM2 (body:=zWp x k) x.zA.length (k+1) (by omega) (fun j=>pw (mul (suf x (k+1))) (zeros (suf x (k+1)).length) ((lvl x k).cs.getD (j-(k+1)) []) (at0 x.zA j).toNat=sig (suf x (k+1)) (lvl x k) ((x.zQ.getD j []).drop (k+1))) KB (fun j h1 h2 _=>by
   obtain⟨c1,c2,c3⟩:=kF h hk h1 h2;obtain⟨p1,p2⟩:=zUG h hk h1 h2;have eh:=(h.os.2 j h2).pos;refine zBo (eqB (wV G.toMon c3 (at0 x.zA j).toNat)) (by omega) (bad:=xG.mk 1 k j 0) (kb (by decide)) ?_;unfold zWp;rw[yP h2,zH,zB,bs,cs,c1,bs,zB,bs,zB,bs,c2,bs,yJ h2,bs,zM3 h hk hc c3 (by omega) (by omega),bs,p1,bs,hI _ p2,bs]) (by
   unfold zWp;simp)with⟨g1,g2⟩|⟨r,j,j1,j2,g1,g2,g3⟩
 rotate_left
 ·rw[g1,bs]
  exact .inr ⟨r,rfl,g2,fun q=>g3 (q.c1 j j1 j2)⟩
 rw[g1,bs];simp only
 rw[bs];rcases zM2 (body:=zWr x k) x.zA.length (k+1) (by omega) (fun i=> ∀j,i+1<=j->j<x.zA.length->
   mul (suf x (k+1)) ((lvl x k).cs.getD (j-(k+1)) []) ((lvl x k).cs.getD (i-(k+1)) [])=mul (suf x (k+1)) ((lvl x k).cs.getD (i-(k+1)) []) (sig (suf x (k+1)) (lvl x k) (((x.zG.getD i []).getD (j-(i+1)) []).drop (k+1)))) KB (fun i h1 h2 _=>by
   obtain⟨c1,c2,c3⟩:=kF h hk h1 h2;unfold zWr;rw[yP h2,zH,zB,bs,cs];rcases zM2 (body:=zWq x k i) x.zA.length (i+1) (by omega) (fun j=>mul (suf x (k+1)) ((lvl x k).cs.getD (j-(k+1)) []) ((lvl x k).cs.getD (i-(k+1)) [])=mul (suf x (k+1)) ((lvl x k).cs.getD (i-(k+1)) []) (sig (suf x (k+1)) (lvl x k) (((x.zG.getD i []).getD (j-(i+1)) []).drop (k+1)))) KB (fun j h3 h4 _=>by
     obtain⟨d1,d2,d3⟩:=kF h hk (j:=j) (by omega) h4;obtain⟨e1,e2,e3⟩:=zUH h hk h1 h3 h4;refine zBo (eqB (yO ok d3 c3)) (by omega) (bad:=xG.mk 2 k i j) (kb (by decide)) ?_;unfold zWq;rw[yP h4,zH,d1,bs,zB,bs,zB,bs,c2,bs,bs,zB,bs,zB,bs,d2,bs,e1,bs,zB,bs,zB,bs,e2,bs,hI _ e3,bs,zB,bs,cs,hA _ _ d3 c3,bs,bs,hA _ _ c3 (p9 _ e3),bs]) (by
     unfold zWq;simp)with⟨g1,g2⟩|⟨r,j,j1,j2,g1,g2,g3⟩
   ·grind
   grind) (by
   unfold zWr;simp)with⟨k1,k2⟩|⟨r,j,j1,j2,k1,k2,k3⟩
 rotate_left
 ·rw[k1,bs]
  exact .inr ⟨r,rfl,k2,fun q=>k3 (q.c2 j j1 j2)⟩
 rw[k1,bs];simp only
 rw[w1,bs,hI _ w2,bs];rcases eqB (b:=(lvl x k).w) (p9 _ w2)with⟨m1,m2⟩|⟨m1,m2⟩
 rotate_left
 ·rw[m1,bs,Ky,zH]
  exact .inr ⟨_,rfl,kb (by decide),fun q=>m2 q.c3⟩
 rw[m1,bs,Kb,zK,bs];rcases zM2 (body:=zWt x k (fv (k+1) (lvl x k).w)) x.zA.length (k+1) (by omega) (fun j=>mul (suf x (k+1)) (lvl x k).w (iter (lvl x k).o.toNat (sig (suf x (k+1)) (lvl x k)) (xH (x.zA.length-(k+1)) (j-(k+1))))=mul (suf x (k+1)) (xH (x.zA.length-(k+1)) (j-(k+1))) (lvl x k).w) KB (fun j h1 h2 _=>by
   have hU:=zO8 h (k:=k+1) (by omega) hc (i:=j-(k+1)) (by omega);have eh:=(h.os.2 k hk).pos;have ej:V (suf x (k+1)) (iter (lvl x k).o.toNat (sig (suf x (k+1)) (lvl x k)) (xH (x.zA.length-(k+1)) (j-(k+1)))):=vX p9 _ hU;refine zBo (eqB (yO ok w2 ej)) (by omega) (bad:=xG.mk 4 k j 0) (kb (by decide)) ?_;unfold zWt;rw[yP h2,zH,zRV h hk h1 h2,bs];rw[uZ (S:=V (suf x (k+1))) (body:=zWs x k) (fun u=>fv (k+1) u) (sig (suf x (k+1)) (lvl x k)) (at0 x.zA k) (by omega) p9 (fun u i hu hi=>by
    unfold zWs;simp only
    rw[yJ hk,bs,jk hi,zH,hI _ hu,bs,zB,bs,cs]) (fun u hu=>by
    unfold zWs;simp only
    rw[yJ hk,bs,jj (by omega),zK]) hU,bs,zB,bs,cs]
   have ho:(lvl x k).o=at0 x.zA k:=rfl;rw[<-ho,hA _ _ w2 ej,bs,bs,hA _ _ hU w2,bs]) (by
   unfold zWt;simp)with⟨n1,n2⟩|⟨r,j,j1,j2,n1,n2,n3⟩
 ·rw[n1,bs]
  exact .inl ⟨rfl,⟨g2,k2,m2,n2⟩⟩
 ·rw[n1,bs]
  exact .inr ⟨r,rfl,n2,fun q=>n3 (q.c4 j j1 j2)⟩
end
theorem zFB{m:Vec->Vec->Vec}:∀(i:Nat)(cs:List Vec)(w acc:Vec),i<=cs.length->img m cs (zeros i++w) acc=img m (cs.drop i) w acc
 |0,cs,w,acc,_=>rfl
 |i+1,[],w,acc,h=>by simp at h
 |i+1,c::cs,w,acc,h=>by show img m (c::cs) (0::(zeros i++w)) acc=_;simp only[img,Gt,iter,List.drop_succ_cons];exact zFB i cs w acc (by grind)
theorem zHG{v:List Int}(h:Exp x.zA v j)(hj:j<x.zA.length)(hk:k<=j+1:=by omega):v.drop k=zeros (j+1-k)++v.drop (j+1):=by
 have:=zAg h hj
 grind[zeros]
section
variable {x:SPr} (h:zDx x) {k:Nat} (hk:k<x.zA.length)
 include h hk
theorem zAh:(lvl x k).cs.length=x.zA.length-(k+1):=by have ok0:=h.okAt (k:=k) (by omega);rw[zY hk]at ok0;rw[ok0.2.2.1,yC]
theorem zYu(h1:k+1<=j)(h2:j<x.zA.length):sig (suf x (k+1)) (lvl x k) ((x.zQ.getD j []).drop (k+1))=img (mul (suf x (k+1))) ((lvl x k).cs.drop (j-k)) (lvl x j).w (zeros (suf x (k+1)).length):=by have t1:=(h.tl j h2).1;have gy:=zAh h hk;rw[zHG t1 h2,sig,zFB _ _ _ _ (by omega),show j+1-(k+1)=j-k from by omega];rfl
theorem zQL:∀(d i:Nat),k+1+i+d=x.zA.length->(Rel (mul (suf x (k+1))) (zeros (suf x (k+1)).length) (suf x (k+1+i)) ((lvl x k).cs.drop i)↔
  (∀j,k+1+i<=j->j<x.zA.length->pw (mul (suf x (k+1))) (zeros (suf x (k+1)).length) ((lvl x k).cs.getD (j-(k+1)) []) (at0 x.zA j).toNat=sig (suf x (k+1)) (lvl x k) ((x.zQ.getD j []).drop (k+1)))/\
  (∀a,k+1+i<=a->a<x.zA.length-> ∀j,a+1<=j->j<x.zA.length->
   mul (suf x (k+1)) ((lvl x k).cs.getD (j-(k+1)) []) ((lvl x k).cs.getD (a-(k+1)) [])=mul (suf x (k+1)) ((lvl x k).cs.getD (a-(k+1)) []) (sig (suf x (k+1)) (lvl x k) (((x.zG.getD a []).getD (j-(a+1)) []).drop (k+1)))))
 |0,i,hi=>by
  have gy:=zAh h hk;rw[vO (x:=x) (k:=k+1+i),Uo (by omega)];simp only[Rel,true_iff]
  grind
 |d+1,i,hi=>by
  have gy:=zAh h hk;have ih:=zQL d (i+1) (by omega);rw[show k+1+(i+1)=k+1+i+1 from by omega]at ih;have hj:k+1+i<x.zA.length:=by omega
  have hg:(lvl x k).cs.drop i=(lvl x k).cs.getD i []::(lvl x k).cs.drop (i+1):=by rw[Hq (by omega),J2,J3 (by omega)];rfl
  rw[zY hj,hg];simp only[Rel];rw[ih];have e1:=zYu h hk (j:=k+1+i) (by omega) hj;rw[show k+1+i-k=i+1 from by omega]at e1;have ho:(lvl x (k+1+i)).o=at0 x.zA (k+1+i):=rfl;rw[ho,<-e1];have e2:∀j,k+1+i+1<=j->j<x.zA.length-> ∀dd,(lvl x (k+1+i)).cs[j-(k+1+i+1)]? =jf dd->img (mul (suf x (k+1))) ((lvl x k).cs.drop (i+1)) dd (zeros (suf x (k+1)).length)=sig (suf x (k+1)) (lvl x k) (((x.zG.getD (k+1+i) []).getD (j-(k+1+i+1)) []).drop (k+1)):=fun j h1 h2 dd iR=>by
   obtain⟨_,t2,t3⟩:=h.tl (k+1+i) hj;have t:=t3 (j-(k+1+i+1)) (by omega);rw[zHG t hj,sig,zFB _ _ _ _ (by omega),show k+1+i+1-(k+1)=i+1 from by omega]
   congr 1
   simp only[lvl,Jw,Kg]at iR
   grind
  have e3:∀j,k+1+i+1<=j->j<x.zA.length->((lvl x k).cs.drop (i+1))[j-(k+1+i+1)]? =jf ((lvl x k).cs.getD (j-(k+1)) [])/\ ∃dd,(lvl x (k+1+i)).cs[j-(k+1+i+1)]? =jf dd:=fun j h1 h2=>by
   have iU:=zAh h hj;refine⟨?_,?_⟩
   ·rw[Ly,show i+1+(j-(k+1+i+1))=j-(k+1)from by omega,J2,J3 (by omega)];rfl
   ·exact⟨_,J3 (by omega)⟩
  constructor
  ·rintro⟨a1,a2,a3,a4⟩
   refine⟨fun j h1 h2=>?_,fun a h1 h2 j h3 h4=>?_⟩
   ·rcases Jo (k+1+i) j with gC|hge
    ·grind
    ·obtain rfl:j=k+1+i:=by omega
     rw[show k+1+i-(k+1)=i from by omega];exact a1
   ·rcases Jo (k+1+i) a with gC|hge
    ·exact a4 a (by omega) h2 j h3 h4
    ·obtain rfl:a=k+1+i:=by omega
     obtain⟨f1,dd,f2⟩:=e3 j (by omega) h4;have:=a2 _ _ _ f1 f2;rw[e2 j (by omega) h4 dd f2]at this;rw[show k+1+i-(k+1)=i from by omega];exact this
  ·rintro⟨a1,a2⟩
   refine⟨?_,fun kk c dd h1 h2=>?_,by grind,by grind⟩
   ·have:=a1 (k+1+i) (by omega) hj
    rw[show k+1+i-(k+1)=i from by omega]at this;exact this
   ·have gC:kk<x.zA.length-(k+1+i+1):=by
     have:=(Jm.1 h1).1;rw[Kl]at this;omega
    have g:=a2 (k+1+i) (by omega) hj (k+1+i+1+kk) (by omega) (by omega);obtain⟨f1,_⟩:=e3 (k+1+i+1+kk) (by omega) (by omega);rw[show k+1+i+1+kk-(k+1+i+1)=kk from by omega]at f1 g;rw[h1]at f1;have f1:=Hm.inj f1;have g2:=e2 (k+1+i+1+kk) (by omega) (by omega) dd (by rw[show k+1+i+1+kk-(k+1+i+1)=kk from by omega];exact h2);rw[show k+1+i+1+kk-(k+1+i+1)=kk from by omega]at g2;rw[g2,f1];rw[show k+1+i-(k+1)=i from by omega]at g;exact g
theorem kG:xC (suf x k)↔xC (suf x (k+1))/\LC x k:=by
 have hr:=zQL h hk (x.zA.length-(k+1)) 0 (by omega);have hl:=yC x (k+1);rw[Uf,Um]at hr;rw[zY hk];simp only[xC];rw[hr];constructor
 ·rintro⟨a,⟨b1,b2⟩,c,d⟩
  refine⟨a,⟨b1,b2,c,fun j h1 h2=>?_⟩⟩
  grind
 ·rintro⟨a,b⟩
  refine⟨a,⟨b.c1,b.c2⟩,b.c3,fun j hj=>?_⟩;have:=b.c4 (k+1+j) (by omega) (by omega);rw[show k+1+j-(k+1)=j from by omega]at this
  rwa [hl]
end
theorem tO(h:xC (suf x 0))(k:Nat):xC (suf x k):=by
 have:=zCy h k
 grind
def uM(x:SPr):Prop:=Pres x/\xC (suf x 0)/\zAA x
theorem qV(hl:x.zA.length<=1048576):IsB (zSD x) (uM x):=by
 unfold zSD;rcases zDk hl with⟨h1,h2⟩|⟨h1,h2⟩
 ·have h6:=h2.os.1
  rw[h1,bs,zH];unfold yC2;obtain⟨r,r1,r2⟩:=wY (body:=zN1 x) (Q:=fun r=> ∃s:Nat,r=(s:Int)/\xC (suf x s)/\(s=0\/ ¬xC (suf x (s-1)))) (fun i s=>i<=x.zA.length/\s=((x.zA.length-i:Nat):Int)/\xC (suf x (x.zA.length-i))) x.zA.length (fun i s hi ⟨_,hs,gY⟩=>by
    subst hs;have hk:x.zA.length-i-1<x.zA.length:=by omega
    have e9:x.zA.length-(i+1)=x.zA.length-i-1:=by omega
    rw[e9];have e8:i+1<=x.zA.length:=by omega
    rw[show x.zA.length-i=x.zA.length-i-1+1 from by omega]at gY ⊢
    have bm:=zO9 h2.toPres hk gY;have mh:=kG h2.toPres.w hk
    generalize x.zA.length-i-1=k at*
    unfold zN1;rw[jk,zH,zB,bs,show(((k+1:Nat):Int)-1)=(k:Int)from by omega];rcases bm with⟨g1,g2⟩|⟨r,g1,g2,g3⟩
    ·simp_all
    grind) (fun s ⟨_,hs,gY⟩=>by
    rw[Ko]at hs gY;subst hs;unfold zN1
    grind) (s:=(x.zA.length:Int)) ⟨by omega,by rfl,by rw[Nat.sub_zero,vO];simp only[xC]⟩
  obtain⟨s,rfl,gY,hs⟩:=r2;rw[r1,bs,bs];cases s with
  |zero=>exact .inl ⟨rfl,h2.toPres,gY,h2⟩
  |succ s=>
   refine .inr ⟨?_,fun q=>?_⟩
   ·congr 1
   ·rcases hs with hs|hs
    ·omega
    ·exact hs (tO q.2.1 _)
 ·rw[h1,bs,zK]
  exact .inr ⟨rfl,fun q=>h2 q.2.2⟩
theorem zDR(hl:x.zA.length<=1048576):IsB (zS9 x) (uM x):=by
 unfold zS9;rcases zDl hl with⟨h1,h2⟩|⟨h1,h2⟩
 ·have h6:=h2.os.1
  rw[h1,bs,zH];unfold yCw yCv;rw[zB,bs];obtain⟨r,r1,r2⟩:=wY (body:=zN0 x) (Q:=fun r=>(r=.inl ()/\xC (suf x 0))\/ ∃f,r=.inr f/\f.Kind≠0/\ ¬xC (suf x 0)) (fun i s=>i<=x.zA.length/\s=((x.zA.length-i:Nat):Int)-1/\xC (suf x (x.zA.length-i))) x.zA.length (fun i s hi ⟨_,hs,gY⟩=>by
    subst hs;have hk:x.zA.length-i-1<x.zA.length:=by omega
    have e9:x.zA.length-(i+1)=x.zA.length-i-1:=by omega
    rw[e9];have e8:i+1<=x.zA.length:=by omega
    rw[show x.zA.length-i=x.zA.length-i-1+1 from by omega]at gY ⊢
    have bm:=zOA h2.toPres hk gY;have mh:=kG h2.toPres.w hk
    generalize x.zA.length-i-1=k at*
    unfold zN0;rw[show(((k+1:Nat):Int)-1)=(k:Int)from by omega,jk,zH];rcases bm with⟨g1,g2⟩|⟨r,g1,g2,g3⟩
    ·left
     rw[g1,bs];simp only
     rw[show((0:Int) != 0)=ji from rfl,zK,zB,bs]
     grind
    ·right
     rw[g1,bs,show(r.Kind != 0)=jh from by grind,zH];exact⟨_,rfl,.inr ⟨r,rfl,g2,by grind[tO]⟩⟩) (fun s ⟨_,hs,gY⟩=>by
    rw[Ko]at hs gY;subst hs;unfold zN0
    grind) (s:=(x.zA.length:Int)-1) ⟨by omega,by rfl,by rw[Nat.sub_zero,vO];simp only[xC]⟩
  rw[r1,bs];rcases r2 with⟨rfl,q⟩|⟨f,rfl,g1,g2⟩
  ·exact .inl ⟨rfl,h2.toPres,q,h2⟩
  ·simp only
   rw[bs,show(f.Kind==0)=ji from by grind];exact .inr ⟨rfl,fun q=>g2 q.2.1⟩
 ·rw[h1,bs,zK]
  exact .inr ⟨rfl,fun q=>h2 q.2.2⟩
abbrev Mx:=List (List Int)
variable {A R':Mx}
def S:Nat->(Nat->Int)->Int
 |0,_=>0
 |n+1,f=>S n f+f n
theorem xV{n:Nat}{g:Nat->Int}(h:∀i,i<n->f i=g i):S n f=S n g:=by
 induction n with
 |zero=>rfl
 |succ n ih=>grind[S]
theorem kH{p:Int}{f g:Nat->Int}:∀{n:Nat},(∀i,i<n->f i%p=g i%p)->S n f%p=S n g%p
 |0,_=>rfl
 |n+1,h=>by simp only[S];rw[Ka,kH (n:=n) fun i hi=>h i (by omega),h n (by omega),<-Ka]
theorem sX:∀n:Nat,S n (fun _=>0)=0
 |0=>rfl
 |n+1=>by simp only[S,sX n];rfl
theorem zC2{f g:Nat->Int}:∀n:Nat,S n (fun i=>f i+g i)=S n f+S n g
 |0=>rfl
 |n+1=>by simp only[S,zC2 n];omega
theorem zM4{f:Nat->Int}(a:Int):∀n:Nat,S n (fun i=>f i*a)=S n f*a
 |0=>by simp[S]
 |n+1=>by simp only[S,zM4 a n,Jbo]
theorem zC3{f:Nat->Int}(a:Int):∀n:Nat,S n (fun i=>a*f i)=a*S n f
 |0=>by simp[S]
 |n+1=>by simp only[S,zC3 a n,Jak]
theorem zHH{f:Nat->Nat->Int}(m:Nat):∀n:Nat,S n (fun i=>S m (fun j=>f i j))=S m (fun j=>S n (fun i=>f i j))
 |0=>by simp only[S];grind[sX]
 |n+1=>by simp only[S];rw[zHH m n,zC2]
theorem kI{f:Nat->Int}{k:Nat}:∀{n:Nat},k<n->(∀i,i<n->i≠k->f i=0)->S n f=f k
 |0,h,_=>by omega
 |n+1,h,hz=>by
  simp only[S]
  by_cases hk:k=n
  ·subst hk
   rw[xV (g:=fun _=>0) fun i hi=>hz i (by omega) (by omega),sX];omega
  ·rw[kI (n:=n) (by omega) fun i hi=>hz i (by omega),hz n (by omega) (by omega)];omega
def mkv(D:Nat)(f:Nat->Int):List Int:=(Jd D).map f
theorem zU(D:Nat)(f:Nat->Int):(mkv D f).length=D:=by simp[mkv]
theorem zCW(h:i<D):(mkv D f)[i]? =jf (f i):=by simp[mkv,h]
theorem zW(h:i<D:=by omega):at0 (mkv D f) i=f i:=by rw[at0,J2,zCW h];rfl
theorem zX{g:Nat->Int}(h:∀i,i<D->f i=g i):mkv D f=mkv D g:=by grind[mkv,Uu]
theorem sP:(mkv D f).set j a=mkv D (fun i=>if i=j then a else f i):=by
 apply L4;intro i;rw[Jan,zU]
 by_cases hi:i<D
 ·by_cases gI:j=i
  ·subst gI;rw[if_pos rfl,if_pos hi,zCW hi,if_pos rfl]
  ·rw[if_neg gI,zCW hi,zCW hi,if_neg fun h=>gI h.symm]
 ·have h1:∀g:Nat->Int,(mkv D g)[i]? =jg:=by grind[zU]
  grind
theorem vJ{v:List Int}(h:v.length=D):v=mkv D (at0 v):=by
 apply L4;intro i
 by_cases hi:i<D
 ·rw[zCW hi,at0,J2,J3 (by omega)];rfl
 grind[zU]
theorem uD(D:Nat):J1 D (0:Int)=mkv D (fun _=>0):=by
 apply L4
 grind[zCW,zU]
abbrev ent(B:Mx)(l j:Nat):Int:=at0 (B.getD l []) j
def xL(p:Int)(D:Nat)(r:List Int)(B:Mx):List Int:=mkv D fun j=>S D (fun l=>at0 r l*ent B l j)%p
def PM(p:Int)(D:Nat)(A B:Mx):Mx:=A.map fun r=>xL p D r B
def idM(D:Nat):Mx:=(Jd D).map fun i=>mkv D fun j=>if j=i then 1 else 0
def Row(p:Int)(D:Nat)(r:List Int):Prop:=r.length=D/\ ∀i,i<D->0<=at0 r i/\at0 r i<=p-1
def Mat(p:Int)(D:Nat)(A:Mx):Prop:=A.length=D/\ ∀i,i<D->Row p D (A.getD i [])
theorem zB6{p:Int}{B:Mx}(h:i<A.length:=by omega):(PM p D A B).getD i []=xL p D (A.getD i []) B:=by grind[PM]
theorem tP{p:Int}{B:Mx}:(PM p D A B).length=A.length:=by simp[PM]
theorem zHI{p:Int}{B:Mx}(hp:0<p)(hA:A.length=D):Mat p D (PM p D A B):=by refine⟨by rw[tP,hA],fun i hi=>?_⟩;rw[zB6];refine⟨by rw[xL,zU],fun j hj=>?_⟩;rw[xL,zW hj];have h1:=Kk (S D fun l=>at0 (A.getD i []) l*ent B l j) (show p≠0 by omega);have h2:=Kh (S D fun l=>at0 (A.getD i []) l*ent B l j) hp;omega
theorem zOB{p:Int}{B:Mx}(hA:A.length=D)(hi:i<D)(hj:j<D):ent (PM p D A B) i j=S D (fun l=>ent A i l*ent B l j)%p:=by rw[ent,zB6,xL,zW hj]
theorem zHJ{B:Mx}(hA:A.length=D)(hB:B.length=D)(h:∀i,i<D->A.getD i []=B.getD i []):A=B:=by
 apply L4
 grind
theorem zM5{p:Int}{B C:Mx}(hA:A.length=D)(hB:B.length=D):PM p D (PM p D A B) C=PM p D A (PM p D B C):=by
 refine zHJ (by rw[tP,tP,hA]) (by rw[tP,hA]) fun i hi=>?_
 rw[zB6 (A:=PM p D A B) (by rw[tP];omega),zB6 (A:=A) (B:=PM p D B C)];unfold xL;refine zX fun j hj=>?_
 have e1:S D (fun l=>at0 ((PM p D A B).getD i []) l*ent C l j)%p=S D (fun l=>S D (fun q=>ent A i q*ent B q l)*ent C l j)%p:=kH fun l hl=>by
  have:=zOB (p:=p) (B:=B) hA hi hl;simp only[ent]at this ⊢
  rw[this,Jz,K3,<-Jz]
 have e2:S D (fun l=>at0 (A.getD i []) l*ent (PM p D B C) l j)%p=S D (fun q=>ent A i q*S D (fun l=>ent B q l*ent C l j))%p:=kH fun q hq=>by rw[zOB hB hq hj,Jz,K3,<-Jz]
 rw[e1,e2]
 congr 1
 have e3:(fun l=>S D (fun q=>ent A i q*ent B q l)*ent C l j)=fun l=>S D (fun q=>ent A i q*ent B q l*ent C l j):=funext fun l=>(zM4 _ _).symm
 have e4:(fun q=>ent A i q*S D (fun l=>ent B q l*ent C l j))=fun q=>S D (fun l=>ent A i q*ent B q l*ent C l j):=funext fun q=>by rw[<-zC3];exact xV fun l _=>by rw[U1]
 rw[e3,e4];exact zHH D D
theorem sK(D:Nat):(idM D).length=D:=by simp[idM]
theorem zAB(h:i<D):(idM D).getD i []=mkv D fun j=>if j=i then 1 else 0:=by simp[idM,J2,h]
theorem tL{p:Int}(hp:2<=p:=by omega):Mat p D (idM D):=by
 refine⟨sK D,fun i hi=>?_⟩;rw[zAB hi];refine⟨zU _ _,fun j hj=>?_⟩
 grind[zW]
theorem tQ{p a:Int}(h:0<=a/\a<=p-1):a%p=a:=Jq h.1 (by omega)
theorem zCX{p:Int}{B:Mx}(hB:Mat p D B):PM p D (idM D) B=B:=by
 refine zHJ (by rw[tP,sK]) hB.1 fun i hi=>?_
 rw[zB6 (by grind[sK]),zAB hi,xL];obtain⟨h1,h2⟩:=hB.2 i hi;refine Eq.trans (zX fun j hj=>?_) (vJ h1).symm;rw[kI (k:=i) hi fun l hl gc=>by rw[zW hl,if_neg gc,qb9],zW hi,if_pos rfl,Gp]
 exact tQ (h2 j hj)
theorem zC4{p:Int}(hA:Mat p D A):PM p D A (idM D)=A:=by
 refine zHJ (by rw[tP,hA.1]) hA.1 fun i hi=>?_
 rw[zB6 (by rw[hA.1];exact hi),xL];obtain⟨h1,h2⟩:=hA.2 i hi;refine Eq.trans (zX fun j hj=>?_) (vJ h1).symm;rw[kI (k:=j) hj fun l hl gc=>by rw[ent,zAB hl,zW hj,if_neg (fun h=>gc h.symm),Lo],ent,zAB hj,zW hj,if_pos rfl,L8]
 exact tQ (h2 j hj)
theorem zUI{p:Int}{B:Mx}(hB:Mat p D B)(hi:i<D)(hj:j<D):ixO B (i:Int)=jf (B.getD i [])/\ixO (B.getD i []) (j:Int)=jf (ent B i j)/\(B.getD i []).length=D/\0<=ent B i j/\ent B i j<=p-1:=by
 obtain⟨h1,h2⟩:=hB.2 i hi
 grind[yA]
def acc(p:Int)(D i:Nat)(r:List Int)(B:Mx):List Int:=mkv D fun j=>S i (fun l=>at0 r l*ent B l j)%p
def zDm(p:Int)(D i k:Nat)(r:List Int)(B:Mx):List Int:=mkv D fun j=>if j<k then S (i+1) (fun l=>at0 r l*ent B l j)%p else S i (fun l=>at0 r l*ent B l j)%p
theorem zJ6{p:Int}{B:Mx}:zDm p D i 0 r B=acc p D i r B:=rfl
theorem zJ7{p:Int}{B:Mx}:zDm p D i D r B=acc p D (i+1) r B:=zX (by omega)
theorem zM6{p:Int}{B:Mx}(hk:k<D)(ha:a=(at0 (zDm p D i k r B) k+at0 r i*ent B i k)%p):(zDm p D i k r B).set k a=zDm p D i (k+1) r B:=by
 subst ha;simp only[zDm];rw[sP,zW hk,if_neg (by omega)];refine zX fun j hj=>?_
 by_cases hjk:j=k
 ·subst hjk
  rw[if_pos rfl,if_pos (by omega)]
  grind[S,G4]
 omega
theorem zM7{p:Int}{B:Mx}(hp:0<p)(hj:j<D):0<=at0 (zDm p D i k r B) j/\at0 (zDm p D i k r B) j<=p-1:=by
 rw[zDm,zW hj];split
 ·have h1:=Kk (S (i+1) fun l=>at0 r l*ent B l j) (show p≠0 by omega)
  have h2:=Kh (S (i+1) fun l=>at0 r l*ent B l j) hp;omega
 ·have h1:=Kk (S i fun l=>at0 r l*ent B l j) (show p≠0 by omega)
  have h2:=Kh (S i fun l=>at0 r l*ent B l j) hp;omega
theorem zHK{p:Int}{B:Mx}:(zDm p D i k r B).length=D:=zU _ _
theorem zQM{p:Int}{B:Mx}(hj:j<D):ixO (zDm p D i k r B) (j:Int)=jf (at0 (zDm p D i k r B) j):=by grind[yJ,zHK]
theorem zM8{p:Int}{B:Mx}:J1 D (0:Int)=acc p D 0 r B:=by rw[uD];rfl
theorem zJ8{b p:Int}(hp:p<=7)(ha:0<=a/\a<=p-1)(hb:0<=b/\b<=p-1):0<=a*b/\a*b<=36:=by have h1:0<=a*b:=Ul ha.1 hb.1;have h2:a*b<=6*6:=Lr (by omega) (by omega) hb.1 (by omega);omega
section
variable {p:Int}{D:Nat} (hp:Prime p) (hD:D<=8)
 include hp hD
theorem zDS{B:Mx}(hr:Row p D r)(hB:Mat p D B):f_R p r B (D:Int)=jf (xL p D r B):=by
 have h7:=hp.pos;have pq:=hB.1;have cB:=hr.1;unfold f_R;rw[yI,bs,zM8 (p:=p) (r:=r) (B:=B)];have:=zO (body:=zWv p r B) (r:=acc p D D r B) (fun i=>(acc p D i r B,(i:Int))) D (fun i hi=>by
  have t9:=hr.2 i hi;unfold zWv;simp only
  rw[cB,pq,yP hi,zH,zH];have inner:=zO (body:=zWu p r B (acc p D i r B,(i:Int))) (r:=acc p D (i+1) r B) (fun k=>(zDm p D i k r B,(k:Int))) D (fun k hk=>by
   obtain⟨b1,b2,b3,b4⟩:=zUI hB hi hk;have ha:=zM7 (p:=p) (i:=i) (k:=k) (r:=r) (B:=B) (by omega) hk;have hm:=zJ8 (by omega) t9 b4;unfold zWu;simp only
   rw[zHK,yP hk,zH,b1,bs,b3,yP hk,zH,zQM hk,bs,yJ,bs,bs,b2,bs,zB,bs,zB,bs];have ue:vD (at0 (zDm p D i k r B) k+at0 r i*ent B i k) p=jf ((at0 (zDm p D i k r B) k+at0 r i*ent B i k)%p):=by
    unfold vD
    grind
   rw[ue,bs,bs,zB,bs,cs,J8,zM6 hk rfl]) (by
   unfold zWu;simp only
   rw[zHK,tS,zK,zJ7])
  rw[zJ6,show((0:Nat):Int)=0 from rfl]at inner
  grind[zB]) (by
  unfold zWv
  grind)
 rw[show((0:Nat):Int)=0 from rfl]at this;rw[this,bs];rfl
theorem zKF(h0:0<=a)(_h1:a<=1000):zLz a p=jf (a%p):=by have _:=hD;have h7:=hp.pos;have e1:=Kk a (show p≠0 by omega);have e2:=Kh a (show 0<p by omega);unfold zLz vD;rw[if_neg (by omega),bs,Hg h0,zB,bs,if_neg (by omega),bs,Hg (by omega)];simp
theorem zFC{B:Mx}(hi:i<D)(hr:Row p D r)(hB:Mat p D B):f_A (acc p D i r B) (B.getD i []) (at0 r i) p=jf (acc p D (i+1) r B):=by
 have h7:=hp.pos;have t9:=hr.2 i hi;unfold f_A;have hl:(acc p D i r B).length=D:=zU _ _;have inner:=zO (body:=zN3 (acc p D i r B) (B.getD i []) (at0 r i) p) (r:=acc p D (i+1) r B) (fun k=>(zDm p D i k r B,(k:Int))) D (fun k hk=>by
  obtain⟨b1,b2,b3,b4⟩:=zUI hB hi hk;have ha:=zM7 (p:=p) (i:=i) (k:=k) (r:=r) (B:=B) (by omega) hk;have hm:=zJ8 (by omega) t9 b4;unfold zN3;simp only
  rw[hl,yP hk,zH,zQM hk,bs,b2,bs,zB,bs,zB,bs,zKF hp hD (by omega) (by omega),bs,bs,zB,bs,cs,J8,zM6 hk rfl]) (by
  unfold zN3;simp only
  rw[hl,tS,zK,zJ7])
 rw[zJ6,show((0:Nat):Int)=0 from rfl]at inner
 grind
theorem zBp{B:Mx}(hr:Row p D r)(hB:Mat p D B)(hq:q=(D:Int)):zWM r (zI.mk p q B)=jf (xL p D r B):=by
 subst hq;have cB:=hr.1;unfold zWM;simp only
 rw[yI,bs,zM8 (p:=p) (r:=r) (B:=B)];have:=zO (body:=zN4 r (zI.mk p (D:Int) B)) (r:=acc p D D r B) (fun i=>(acc p D i r B,(i:Int))) D (fun i hi=>by
  have pq:=hB.1;unfold zN4;simp only
  rw[cB,yP hi,zH,yJ,bs,yA [],bs,zFC hp hD hi hr hB,bs,zB,bs,cs]) (by
  unfold zN4
  grind)
 rw[show((0:Nat):Int)=0 from rfl]at this;rw[this,bs];rfl
theorem zRW{B:Mx}(hi:i<A.length):(PM p D A B).take i++[xL p D (A.getD i []) B]=(PM p D A B).take (i+1):=by
 have _:=hp;have _:=hD;rw[K5 (by grind[tP])]
 congr 2
 have:=zB6 (p:=p) (D:=D) (B:=B) hi
 grind
theorem zIH{B:Mx}(hA:Mat p D A)(hB:Mat p D B):zZa (zI.mk p q A) (zI.mk p (D:Int) B)=jf (zI.mk p (D:Int) (PM p D A B)):=by
 have bM:=hA.1;unfold zZa;have:=zO (body:=zN5 (zI.mk p q A) (zI.mk p (D:Int) B)) (r:=PM p D A B) (fun i=>((PM p D A B).take i,(i:Int))) D (fun i hi=>by
  unfold zN5;simp only
  rw[bM,yP hi,zH,yA [],bs,zBp hp hD (hA.2 i hi) hB rfl,bs,zV (by rw[Ke,tP];simp;omega),bs,zB,bs,cs,zRW hp hD (by omega)]) (by
  unfold zN5;simp only
  rw[bM,tS,zK,Jx (by grind[tP])])
 grind
theorem zM9(_hi:i<D):(J1 D (0:Int)).set i 1=mkv D fun j=>if j=i then 1 else 0:=by have _:=hp;have _:=hD;rw[uD,sP]
theorem zQN(hi:i<D):(idM D).take i++[mkv D fun j=>if j=i then 1 else 0]=(idM D).take (i+1):=by
 have _:=hp;have _:=hD;rw[K5 (by grind[sK])]
 congr 2
 have:=zAB hi
 grind
theorem zOC:f_v (D:Int)=jf (idM D):=by
 unfold f_v;have:=zO (body:=zFj (D:Int)) (r:=idM D) (fun i=>((idM D).take i,(i:Int))) D (fun i hi=>by
  unfold zFj;simp only
  rw[yP hi,zH,yI,bs,vH,K4,if_pos hi,bs,J8,zM9 hp hD hi,zV (by grind),bs,zB,bs,cs,zQN hp hD hi]) (by
  unfold zFj;simp only
  rw[tS,zK,Jx (by grind[sK])])
 grind
theorem zAR:f_O p (D:Int)=jf (zI.mk p (D:Int) (idM D)):=by
 unfold f_O;have:=zO (body:=zLy (D:Int)) (r:=idM D) (fun i=>((idM D).take i,(i:Int))) D (fun i hi=>by
  unfold zLy;simp only
  rw[yP hi,zH,yI,bs,vH,K4,if_pos hi,bs,J8,zM9 hp hD hi,zV (by grind),bs,zB,bs,cs,zQN hp hD hi]) (by
  unfold zLy;simp only
  rw[tS,zK,Jx (by grind[sK])])
 grind
end
def nw:Nat->List Int->List Nat
 |_,[]=>[]
 |o,a::v=>J1 a.toNat o++nw (o+1) v
theorem zCY:∀(o:Nat)(u v:List Int),nw o (u++v)=nw o u++nw (o+u.length) v
 |o,[],v=>by simp[nw]
 |o,a::u,v=>by
  simp only[K9,nw,zCY (o+1) u v,Jg,J7]
  grind
theorem zQO{v:List Int}(h:i<v.length):nw 0 (v.take (i+1))=nw 0 (v.take i)++J1 (at0 v i).toNat i:=by
 rw[K5 h,zCY,Ke,Nat.min_eq_left (by omega),Ji];simp only[nw,Jh]
 grind
theorem zMA{n:Nat}:∀(o:Nat)(v:List Int),o+v.length<=n-> ∀w∈nw o v,w<n
 |o,[],_,w,h=>by grind[nw]
 |o,a::v,hv,w,h=>by
  simp only[nw,Ja,J7]at h hv;rcases h with h|h
  ·grind
  ·exact zMA (o+1) v (by omega) w h
theorem zFD:∀(o:Nat)(v:List Int),(∀i,i<v.length->at0 v i<=6)->(nw o v).length<=6*v.length
 |o,[],_=>by simp[nw]
 |o,a::v,h=>by
  have h0:=h 0 (by simp);have:=zFD (o+1) v fun i hi=>by
   have:=h (i+1) (by grind)
   grind
  simp only[at0,Gm]at h0
  grind[nw]
def wM(p:Int)(D:Nat)(A:List Mx)(ws:List Nat)(B:Mx):Mx:=ws.foldl (fun B w=>PM p D B (A.getD w [])) B
theorem zFE{p:Int}{A:List Mx}{u v:List Nat}{B:Mx}:wM p D A (u++v) B=wM p D A v (wM p D A u B):=by simp[wM,Gu]
theorem zOD{p:Int}{D:Nat}{A:List Mx}{w:Nat}:∀(k:Nat)(B:Mx),wM p D A (J1 k w) B=iter k (fun B=>PM p D B (A.getD w [])) B
 |0,_=>rfl
 |k+1,B=>by rw[Jv];show wM p D A (J1 k w) (PM p D B (A.getD w []))=_;rw[zOD k];rfl
theorem zHL{p:Int}{D:Nat}{A:List Mx}(hp:0<p):∀(ws:List Nat){B:Mx},Mat p D B->Mat p D (wM p D A ws B)
 | [],_,hB=>hB
 |_w::ws,_,hB=>zHL hp ws (zHI hp hB.1)
theorem zKG{p:Int}{D:Nat}{A:List Mx}(hp:0<p){C:Mx}(hC:C.length=D):∀(ws:List Nat){B:Mx},Mat p D B->wM p D A ws (PM p D C B)=PM p D C (wM p D A ws B)
 | [],_,_=>rfl
 |w::ws,B,hB=>by show wM p D A ws (PM p D (PM p D C B) (A.getD w []))=PM p D C (wM p D A ws (PM p D B (A.getD w [])));rw[zM5 hC hB.1,zKG hp hC ws (zHI hp hB.1)]
structure MOk (n:Nat) (m:zF) (D:Nat):Prop where
 p:Prime m.Prime
 d:m.Dim=(D:Int)
 d1:1<=D
 d3:D<=3
 len:m.zM.length=n
 mat:∀i,i<n->Mat m.Prime D (m.zM.getD i [])
structure yBB (n:Nat) (m:zF) (D:Nat):Prop where
 p:Prime m.Prime
 d:m.Dim=(D:Int)
 d3:D<=30
 len:m.zM.length=n
 mat:∀i,i<n->Mat m.Prime D (m.zM.getD i [])
structure zUJ (n:Nat) (m:zF) (D:Nat):Prop where
 p:Prime m.Prime
 d3:D<=200
 len:m.zM.length=n
 mat:∀i,i<n->Mat m.Prime D (m.zM.getD i [])
theorem MOk.b{n:Nat}{m:zF}(h:MOk n m D):zUJ n m D:=⟨h.p,by have:=h.d3;omega,h.len,h.mat⟩
section
variable {n D:Nat}{m:zF} (hm:MOk n m D) (hn:n<=14)
 include hm hn
abbrev enW(ws:List Nat):List Int:=ws.map fun(w:Nat)=>(w:Int)+1
theorem zDz(hi:i<n):zWF m (i:Int)=jf (zI.mk m.Prime (D:Int) (m.zM.getD i [])):=by have _:=hn;have gf:=hm.len;unfold zWF;rw[yA [],bs,hm.d]
theorem zII{ws:List Nat}(hw:∀w∈ws,w<n)(hl:ws.length<=1000000):zPB m (enW ws)=jf (zI.mk m.Prime (D:Int) (wM m.Prime D m.zM ws (idM D))):=by
 have h7:=hm.p.pos;have h3:=hm.d3;unfold zPB;rw[hm.d,zAR hm.p (by omega),bs];have hI:∀i,Mat m.Prime D (wM m.Prime D m.zM (ws.take i) (idM D)):=by grind[zHL,tL]
 have dA:(enW ws).length=ws.length:=by simp
 have:=zO (body:=zN6 m (enW ws)) (r:=(m.Prime,(D:Int),wM m.Prime D m.zM ws (idM D))) (fun i=>(m.Prime,(D:Int),wM m.Prime D m.zM (ws.take i) (idM D),(i:Int))) ws.length (fun i hi=>by
  have mV:=hw ws[i] (Jp hi);unfold zN6;simp only
  rw[dA,yP hi,zH,vH,Jw,J3 hi];simp only[He];rw[bs,zB,bs,show((ws[i]:Nat):Int)+1-1=((ws[i]:Nat):Int)from by omega,zDz hm hn mV,bs,zIH hm.p (by omega) (hI i) (hm.mat _ mV),bs,zB,bs,cs,K5 hi,zFE];rfl) (by
  unfold zN6;simp)
 rw[show((0:Nat):Int)=0 from rfl,Kd]at this
 grind[wM]
end
theorem kR{v:List Int}(hl:v.length<=14)(hv:∀i,i<v.length->0<=at0 v i/\at0 v i<=6):f_C v=jf (enW (nw 0 v)):=by
 unfold f_C;have gf:∀i,(nw 0 (v.take i)).length<=84:=fun i=>by
  have:=zFD 0 (v.take i) (by grind)
  grind
 have:=zO (body:=zWI v) (r:=enW (nw 0 v)) (fun i=>(enW (nw 0 (v.take i)),(i:Int))) v.length (fun i hi=>by
  have hvi:=hv i hi;have hli:=gf i;unfold zWI;simp only
  rw[yP hi,zH,yJ hi,bs];have inner:=zO (body:=zWH (enW (nw 0 (v.take i)),(i:Int)) (at0 v i)) (r:=enW (nw 0 (v.take (i+1)))) (fun k=>(enW (nw 0 (v.take i)++J1 k i),(k:Int))) (at0 v i).toNat (fun k hk=>by
   unfold zWH;simp only
   rw[jk,zH,zB,bs,zV (by grind),bs,zB,bs,cs]
   congr 3
   rw[Lw,<-Jg];simp) (by
   unfold zWH;simp only
   rw[jj (by omega),zK,zQO hi])
  rw[show((0:Nat):Int)=0 from rfl,H0,Jh]at inner
  grind[zB]) (by
  unfold zWI;simp)
 rw[show((0:Nat):Int)=0 from rfl,Kd]at this;simp only[nw,enW,Le]at this
 grind
theorem zMB{v o:Int}(h:zWG 1 (IntKind.wrap .u64 o)=jf (0,o)):zWG (IntKind.wrap .u64 (([v]:List Int).length:Int)) (IntKind.wrap .u64 o)=jf (0,o):=by rw[show IntKind.wrap .u64 (([v]:List Int).length:Int)=1 from by rfl];exact h
theorem zC5{v o:Int}(ho:Prime o):f_k [v] o=jf (J1 o.toNat v):=by
 unfold f_k;rcases ho with rfl|rfl|rfl|rfl
 ·have h:=zO (body:=zBN) (r:=[v,v]) (fun i=>match i with|0=>([v,0],1)|_=>([v,v],2)) 1 (fun i hi=>by
   match i,hi with
   |0,_=>rfl) (by rfl)
  rw[zMB (by rfl),bs];have hl:yG (IntKind.wrap .i64 2)=jf 2:=by rfl
  simp only[hl,bs];rw[show decide ((2:Int)<0)=ji from rfl,zK,show decide ((0:Int)> 0)=ji from rfl,zK,show decide ((2:Int)> 9223372036854775807)=ji from by decide,zK]
  grind[wQ]
 ·have h:=zO (body:=zBN) (r:=[v,v,v]) (fun i=>match i with|0=>([v,0,0],1)|1=>([v,v,0],2)|_=>([v,v,v],3)) 2 (fun i hi=>by
   match i,hi with
   |0,_=>rfl
   |1,_=>rfl) (by rfl)
  rw[zMB (by rfl),bs];have hl:yG (IntKind.wrap .i64 3)=jf 3:=by rfl
  simp only[hl,bs];rw[show decide ((3:Int)<0)=ji from rfl,zK,show decide ((0:Int)> 0)=ji from rfl,zK,show decide ((3:Int)> 9223372036854775807)=ji from by decide,zK]
  grind[wQ]
 ·have h:=zO (body:=zBN) (r:=[v,v,v,v,v]) (fun i=>match i with|0=>([v,0,0,0,0],1)|1=>([v,v,0,0,0],2)|2=>([v,v,v,v,0],4)|_=>([v,v,v,v,v],5)) 3 (fun i hi=>by
   match i,hi with
   |0,_=>rfl
   |1,_=>simp[zBN,zS,wQ,rng,inR]
   |2,_=>rfl) (by rfl)
  rw[zMB (by rfl),bs];have hl:yG (IntKind.wrap .i64 5)=jf 5:=by rfl
  simp only[hl,bs];rw[show decide ((5:Int)<0)=ji from rfl,zK,show decide ((0:Int)> 0)=ji from rfl,zK,show decide ((5:Int)> 9223372036854775807)=ji from by decide,zK];have e2:wQ (J1 5 (0:Int)) 0 (([v]:List Int).take ((J1 5 (0:Int)).length-0))=[v,0,0,0,0]:=by rfl
  grind
 ·have h:=zO (body:=zBN) (r:=[v,v,v,v,v,v,v]) (fun i=>match i with|0=>([v,0,0,0,0,0,0],1)|1=>([v,v,0,0,0,0,0],2)|2=>([v,v,v,v,0,0,0],4)|_=>([v,v,v,v,v,v,v],7)) 3 (fun i hi=>by
   match i,hi with
   |0,_=>rfl
   |1,_=>simp[zBN,zS,wQ,rng,inR]
   |2,_=>rfl) (by rfl)
  rw[zMB (by rfl),bs];have hl:yG (IntKind.wrap .i64 7)=jf 7:=by rfl
  simp only[hl,bs];rw[show decide ((7:Int)<0)=ji from rfl,zK,show decide ((0:Int)> 0)=ji from rfl,zK,show decide ((7:Int)> 9223372036854775807)=ji from by decide,zK];have e2:wQ (J1 7 (0:Int)) 0 (([v]:List Int).take ((J1 7 (0:Int)).length-0))=[v,0,0,0,0,0,0]:=by rfl
  simp_all
theorem zMC{p:Int}(hp:Prime p)(hD:D<=8:=by omega):IsB (zYY r p (D:Int)) (Row p D r):=by
 have h7:=hp.pos;unfold zYY
 by_cases h:r.length=D
 ·rw[zAu,zK]
  refine(zAt r.length (fun i=>0<=at0 r i/\at0 r i<=p-1) rfl (fun i hi _=>?_) ?_).iff ⟨fun g=>⟨h,by grind⟩,fun g=>by rw[h];exact g.2⟩
  ·refine qT (zA8 _ _ _) (by omega) ?_
   unfold zR8;rw[yP hi,zH,yJ hi,bs,zB,bs]
  ·unfold zR8
   simp
 ·rw[zA9,zH]
  exact .inr ⟨rfl,fun g=>h g.1⟩
theorem zMD{p:Int}(hp:Prime p)(hD:D<=8:=by omega):IsB (zYW p (D:Int) r) (Row p D r):=by
 have h7:=hp.pos;unfold zYW
 by_cases h:r.length=D
 ·rw[zAu,zK]
  refine(zAt r.length (fun i=>0<=at0 r i/\at0 r i<=p-1) rfl (fun i hi _=>?_) ?_).iff ⟨fun g=>⟨h,by grind⟩,fun g=>by rw[h];exact g.2⟩
  ·refine qT (zCv _ _ _) (by omega) ?_
   unfold zR6;rw[yP hi,zH,yJ hi,bs,zB,bs]
  ·unfold zR6
   simp
 ·rw[zA9,zH]
  exact .inr ⟨rfl,fun g=>h g.1⟩
theorem zOE{B:Mx}(hA:A.length<=1000)(h:∀r∈A,r.length<=1000):yCx A B=jf (A==B):=
 zJ2 (t:=zLv) (body:=zWw A B) rfl (fun _=>rfl) (by omega) (by grind[zRU])
theorem zD0{B:Mx}(hA:A.length<=1000)(h:∀r∈A,r.length<=1000):zWO A B=jf (A==B):=by unfold zWO;rw[zJ2 (f:=yC3 A B) (t:=zLw) (body:=zWN A B) rfl (fun _=>rfl) (by omega) (by grind[zDQ]),bs]
def zFF(x:SPr)(m:zF)(D:Nat):Prop:=
 ∀i,i<x.zA.length->wM m.Prime D m.zM (J1 (at0 x.zA i).toNat i) (idM D)=wM m.Prime D m.zM (nw 0 (x.zQ.getD i [])) (idM D)/\
  ∀j,i+1<=j->j<x.zA.length->PM m.Prime D (m.zM.getD j []) (m.zM.getD i [])=PM m.Prime D (m.zM.getD i []) (wM m.Prime D m.zM (nw 0 ((x.zG.getD i []).getD (j-(i+1)) [])) (idM D))
theorem zAi{v:List Int}(ho:Os x.zA)(h:Exp x.zA v i):v.length=x.zA.length/\ ∀j,j<x.zA.length->0<=at0 v j/\at0 v j<=6:=by have h1:=h.1.1;refine⟨h1,fun j hj=>?_⟩;have:=h.1.2 j (by omega);have:=(ho.2 j hj).pos;omega
abbrev Rl:=List Nat×List Nat
def r1(x:SPr)(i:Nat):Rl:=(J1 (at0 x.zA i).toNat i,nw 0 (x.zQ.getD i []))
def r2(x:SPr)(i j:Nat):Rl:=([i+j+1,i],i::nw 0 ((x.zG.getD i []).getD j []))
def R2(x:SPr)(i:Nat):List Rl:=(Jd (x.zG.getD i []).length).map (r2 x i)
def wN(x:SPr):List Rl:=(Jd x.zA.length).map (r1 x)++(Jd x.zA.length).flatMap (R2 x)
abbrev enR(q:Rl):List Int×List Int:=(enW q.1,enW q.2)
section
variable {x:SPr} (h:Pres x)
 include h
theorem yBC(hi:i<x.zA.length):(R2 x i).length<=14:=by
 have:=(h.tl i hi).2.1;have:=h.os.1
 grind[R2]
theorem zKH:∀i,i<=x.zA.length->((Jd i).flatMap (R2 x)).length<=14*i
 |0,_=>by simp
 |i+1,hi=>by
  have:=zKH i (by omega)
  grind[yBC,Kt]
theorem zYv:enW (J1 k i)=J1 k ((i:Int)+1):=by have _:=h;simp
theorem zDT:f_D x=jf ((wN x).map enR):=by
 have h6:=h.os.1;have pd:=h.pl;have gy:=h.cl;unfold f_D;have l1:=zO (body:=zWJ x) (r:=((Jd x.zA.length).map (r1 x)).map enR) (fun i=>(((Jd i).map (r1 x)).map enR,(i:Int))) x.zA.length (fun i hi=>by
  obtain⟨p1,p2⟩:=zAi h.os (h.tl i hi).1;unfold zWJ;simp only
  rw[yP hi,zH,yJ hi,bs,zB,bs,zC5 (h.os.2 i hi),bs,yA [],bs,kR (by omega) (by rw[p1];exact p2),bs,zV (by simp only[Jf,Lh,J7,Jt];omega),bs,bs,cs,Kt];simp only[K6,Ju,Le,r1,enR,zYv h,cs]) (by
  unfold zWJ;simp)
 rw[show((0:Nat):Int)=0 from rfl]at l1;simp only[qa9,Le]at l1;rw[l1,bs];have l3:=zO (body:=zWL x) (r:=(wN x).map enR) (fun i=>(((Jd x.zA.length).map (r1 x)++(Jd i).flatMap (R2 x)).map enR,(i:Int))) x.zA.length (fun i hi=>by
  have t2:=(h.tl i hi).2.1;have iK:=zKH h i (by omega);unfold zWL;simp only
  rw[yP hi,zH,yA [],bs];have l2:=zO (body:=zWK (((Jd x.zA.length).map (r1 x)++(Jd i).flatMap (R2 x)).map enR,(i:Int)) (x.zG.getD i [])) (r:=((Jd x.zA.length).map (r1 x)++(Jd (i+1)).flatMap (R2 x)).map enR)
   (fun j=>(((Jd x.zA.length).map (r1 x)++(Jd i).flatMap (R2 x)++(Jd j).map (r2 x i)).map enR,(j:Int))) (x.zG.getD i []).length (fun j hj=>by
    obtain⟨p1,p2⟩:=zAi h.os ((h.tl i hi).2.2 j hj);have cI:=zFD 0 ((x.zG.getD i []).getD j []) (by grind);unfold zWK;simp only
    rw[yP hj,zH,yA [] hj,bs,zB,bs,zB,bs,zB,bs,kR (by omega) (by rw[p1];exact p2),bs,zV (by simp only[Jf,J7,Jt];omega),bs,zV (by simp only[Jf,J5,Lh,J7,Jt];omega),bs,zB,bs,cs,Kt];have e1:(i:Int)+(j:Int)+2=((i+j+1:Nat):Int)+1:=by omega
    simp only[K6,Ju,Le,r2,enR,enW,Jg,H1,e1];rfl) (by
    unfold zWK;simp only
    rw[tS,zK,Kt,U4]
    grind[R2])
  rw[show((0:Nat):Int)=0 from rfl]at l2
  grind[zB]) (by
  unfold zWL;simp only
  rw[tS,zK];rfl)
 grind
theorem zRX{q:Rl}(hq:q∈wN x):((∀w∈q.1,w<x.zA.length)/\q.1.length<=1000)/\(∀w∈q.2,w<x.zA.length)/\q.2.length<=1000:=by
 have h6:=h.os.1;simp only[wN,Ja,Jc,Lj,Ll,R2]at hq;rcases hq with⟨i,hi,rfl⟩|⟨i,hi,j,hj,rfl⟩
 ·obtain⟨p1,p2⟩:=zAi h.os (h.tl i hi).1
  have cI:=zFD 0 (x.zQ.getD i []) (by rw[p1];exact fun i hi=>(p2 i hi).2);have eh:=(h.os.2 i hi).pos;refine⟨⟨fun w hw=>?_,?_⟩,fun w hw=>zMA 0 _ (by omega) w hw,by simp only[r1];omega⟩
  ·have:=H2 hw;omega
  ·simp only[r1,Jl];omega
 ·obtain⟨p1,p2⟩:=zAi h.os ((h.tl i hi).2.2 j hj)
  have t2:=(h.tl i hi).2.1;have cI:=zFD 0 ((x.zG.getD i []).getD j []) (by rw[p1];exact fun i hi=>(p2 i hi).2);refine⟨⟨fun w hw=>?_,by simp[r2]⟩,fun w hw=>?_,by simp only[r2,J7];omega⟩
  ·simp only[r2,J9,G9,or_false]at hw;omega
  ·simp only[r2,J9]at hw
   rcases hw with rfl|hw
   ·exact hi
   ·exact zMA 0 _ (by omega) w hw
variable {m:zF}{D:Nat} (hm:MOk x.zA.length m D)
 include hm
end
theorem zFG{xs:List (List Int)}(h:i<xs.length):(xs.take (i+1)).flatten=(xs.take i).flatten++xs.getD i []:=by grind[K5]
theorem zKI{xs:List (List Int)}(i:Nat):(xs.take i).flatten.length<=xs.flatten.length:=by grind[Jbl]
theorem zRY(hk:k<=1000000):zWP (k:Int)=jf []:=by
 unfold zWP;rw[jj (by omega),zK,zB (by decide) (by decide),bs,zB,bs]
 by_cases h:(k:Int)-(0-0)> 0
 ·rw[jk h,zH]
  have e:wK ([]:List Int) ((k:Int)-(0-0)) 0=jf (J1 k 0):=by
   unfold wK
   grind
  rw[e,bs];rfl
 grind
theorem qQ{xs:List (List Int)}(hx:xs.length<=1000)(hf:xs.flatten.length<=1000000):f_t xs=jf xs.flatten:=by
 unfold f_t;have l1:=zO (body:=zWQ xs) (r:=((xs.flatten.length:Nat):Int)) (fun i=>((((xs.take i).flatten.length:Nat):Int),(i:Int))) xs.length (fun i hi=>by
  have h1:=zFG hi;have h2:=zKI (xs:=xs) (i+1);have h3:=congrArg Qf h1;rw[J5]at h3;unfold zWQ;simp only
  rw[yP hi,zH,yA [] hi,bs,zB,bs,jj (by omega),zK,zB,bs,cs,h3]
  congr 3) (by
  unfold zWQ;simp)
 rw[show((0:Nat):Int)=0 from rfl]at l1;simp only[Kd,Uz,Jt]at l1;rw[show((0:Nat):Int)=0 from rfl]at l1;rw[l1,bs,zRY hf,bs];have l2:=zO (body:=zWR xs) (r:=xs.flatten) (fun i=>((xs.take i).flatten,(i:Int))) xs.length (fun i hi=>by
  have h1:=zFG hi;have h2:=zKI (xs:=xs) (i+1);have h3:=congrArg Qf h1;rw[J5]at h3;unfold zWR;simp only
  rw[yP hi,zH,yA [] hi,bs,zV,bs,zB,bs,cs,h1]) (by
  unfold zWR;simp)
 grind
theorem zME{a b:Nat}(hr:r.length<=1000:=by omega)(ha:a<=1000:=by omega)(hb:b<=1000:=by omega):zZb r (a:Int) (b:Int)=jf (J1 a 0++(r++J1 b 0)):=by grind[zZb,yI,qQ]
section
variable {p:Int}
def uR(p:Int)(D:Nat)(r:List Int)(k:Int)(s:List Int):List Int:=mkv D fun j=>(at0 r j+k*at0 s j)%p
theorem zMF{s:List Int}{k:Int}:(uR p D r k s).length=D:=zU _ _
def zIJ(p:Int)(D i:Nat)(r:List Int)(k:Int)(s:List Int):List Int:=mkv D fun j=>if j<i then(at0 r j+k*at0 s j)%p else at0 r j
theorem zJ9{s:List Int}{k:Int}(hr:r.length=D):zIJ p D 0 r k s=r:=by
 conv=>rhs;rw[vJ hr]
 rfl
theorem zJA{s:List Int}{k:Int}:zIJ p D D r k s=uR p D r k s:=zX (by omega)
theorem zMG{s:List Int}{k:Int}(ha:a=(at0 r i+k*at0 s i)%p):(zIJ p D i r k s).set i a=zIJ p D (i+1) r k s:=by
 simp only[zIJ];rw[sP]
 grind
theorem zQP{s:List Int}{k:Int}(hi:i<D):at0 (zIJ p D i r k s) i=at0 r i:=by rw[zIJ,zW hi,if_neg (by omega)]
theorem zEB{s:List Int}{k:Int}:(zIJ p D i r k s).length=D:=zU _ _
end
section
variable {p:Int} (hp:Prime p)
 include hp
theorem zMH(_h0:-1000<=a)(_h1:a<=1000):zLz a p=jf (a%p):=by
 have h7:=hp.pos;have e1:=Ja6 a (show 0<p by omega);have e2:=Ja7 a (show 0<p by omega);have e3:(Jao a p+p)%p=a%p:=by
  rw[Uv];have:=Qq a p
  conv=>rhs;rw[<-this]
  simp
 unfold zLz vD;rw[if_neg (by omega),bs,zB,bs,if_neg (by omega),bs,Hg (by omega),e3]
theorem zMI(_h0:-1000<=a)(_h1:a<=1000):zWX a p=jf (a%p):=by
 have h7:=hp.pos;have e1:=Ja6 a (show 0<p by omega);have e2:=Ja7 a (show 0<p by omega);have e3:(Jao a p+p)%p=a%p:=by
  rw[Uv];have:=Qq a p
  conv=>rhs;rw[<-this]
  simp
 unfold zWX vD;rw[if_neg (by omega),bs]
 by_cases h:Jao a p<0
 ·rw[jk h,zH,zB,bs,<-e3,Jq (by omega) (by omega)]
 ·rw[jj h,zK,<-e3,Uv,Jq (by omega) (by omega)]
theorem qW{s:List Int}{k:Int}:Row p D (uR p D r k s):=by have h7:=hp.pos;refine⟨zU _ _,fun i hi=>?_⟩;have e:at0 (uR p D r k s) i=(at0 r i+k*at0 s i)%p:=zW hi;have e1:=Kk (at0 r i+k*at0 s i) (show p≠0 by omega);have e2:=Kh (at0 r i+k*at0 s i) (show 0<p by omega);omega
theorem zB7{k b:Int}(hk:-7<=k/\k<=7)(hb:0<=b/\b<=p-1):-49<=k*b/\k*b<=49:=by
 have h7:=hp.pos;rcases Int.le_total 0 k with h|h
 ·have h1:=Ul h hb.1
  have h2:=Lr hk.2 (show b<=7 by omega) hb.1 (by omega);omega
 ·have h1:=Ul (show 0<= -k by omega) hb.1
  have h2:=Lr (show -k<=7 by omega) (show b<=7 by omega) hb.1 (by omega);rw[Int.neg_mul]at h1 h2;omega
theorem zBq{s:List Int}{k:Int}(hr:Row p D r)(hs:Row p D s)(hk:-7<=k/\k<=7)(hD:D<=1000000):f_A r s k p=jf (uR p D r k s):=by
 have h7:=hp.pos;have:=zO (body:=zN3 r s k p) (r:=uR p D r k s) (fun i=>(zIJ p D i r k s,(i:Int))) D (fun i hi=>by
  have a1:=hr.2 i hi;have a2:=hs.2 i hi;have a3:=zB7 hp hk a2;unfold zN3;simp only
  rw[hr.1,yP hi,zH,yJ (by grind[zEB]),bs,yJ (by rw[hs.1];exact hi),bs,zB,bs,zQP hi,zB,bs,zMH hp (by omega) (by omega),bs,bs,zB,bs,cs,J8,zMG rfl]) (by
  unfold zN3;simp only
  rw[hr.1,tS,zK,zJA])
 rw[show((0:Nat):Int)=0 from rfl,zJ9 hr.1]at this
 grind[f_A]
theorem uV{s:List Int}{k:Int}(hr:Row p D r)(hs:Row p D s)(hk:-7<=k/\k<=7)(hD:D<=1000000):f_x p r k s=jf (uR p D r k s):=by
 have h7:=hp.pos;have:=zO (body:=zWY p k s) (r:=uR p D r k s) (fun i=>(zIJ p D i r k s,(i:Int))) D (fun i hi=>by
  have a1:=hr.2 i hi;have a2:=hs.2 i hi;have a3:=zB7 hp hk a2;unfold zWY;simp only
  rw[zEB,yP hi,zH,hs.1,yP hi,zH,yJ (by grind[zEB]),bs,yJ (by rw[hs.1];exact hi),bs,zB,bs,zQP hi,zB,bs,zMI hp (by omega) (by omega),bs,bs,zB,bs,cs,J8,zMG rfl]) (by
  unfold zWY;simp only
  rw[zEB,tS,zK,zJA])
 rw[show((0:Nat):Int)=0 from rfl,zJ9 hr.1]at this;unfold f_x;rw[tH (by rw[hr.1];omega),bs,this,bs]
end
theorem zB8{p:Int}{s:List Int}:uR p D r (p-1) s=uR p D r (-1) s:=zX fun j _=>by rw[show at0 r j+(p-1)*at0 s j=at0 r j+ -1*at0 s j+p*at0 s j from by grind,Qr]
def VOk(n:Nat)(p:Int)(D:Nat)(vals:Mx):Prop:=vals.length=n/\ ∀i,i<n->Row p D (vals.getD i [])
def stp(m:zF)(D:Nat)(vals:Mx)(v:List Int)(w:Nat):List Int:=uR m.Prime D (xL m.Prime D v (m.zM.getD w [])) 1 (vals.getD w [])
def ev(m:zF)(D:Nat)(vals:Mx)(v:List Int)(ws:List Nat):List Int:=ws.foldl (stp m D vals) v
theorem zJB{m:zF}{vals:Mx}{v:List Int}{a b:List Nat}:ev m D vals v (a++b)=ev m D vals (ev m D vals v a) b:=by simp[ev,Gu]
theorem zOF{m:zF}{D:Nat}{vals:Mx}{w:Nat}:∀(k:Nat)(v:List Int),ev m D vals v (J1 k w)=iter k (fun v=>stp m D vals v w) v
 |0,_=>rfl
 |k+1,v=>by rw[Jv];show ev m D vals (stp m D vals v w) (J1 k w)=_;rw[zOF k];rfl
abbrev z0(D:Nat):List Int:=J1 D 0
theorem zFH{p:Int}(hp:0<p:=by omega):Row p D (z0 D):=by
 refine⟨by simp,fun i hi=>?_⟩
 grind
theorem wZ{p:Int}{B:Mx}(hp:0<p:=by omega):Row p D (xL p D r B):=by
 refine⟨zU _ _,fun i hi=>?_⟩;have e1:=Kk (S D (fun l=>at0 r l*ent B l i)) (show p≠0 by omega);have e2:=Kh (S D (fun l=>at0 r l*ent B l i)) hp
 grind[xL,zW]
section
variable {n D:Nat}{m:zF} (hm:MOk n m D) (hn:n<=14) {vals:Mx} (hv:VOk n m.Prime D vals)
 include hm hn hv
theorem zB9{v:List Int}{w:Nat}:Row m.Prime D (stp m D vals v w):=by have _:=hn;have _:=hv;exact qW hm.p
theorem zDU{v:List Int}(h:Row m.Prime D v):∀ws,Row m.Prime D (ev m D vals v ws):=by
 intro ws
 induction ws generalizing v with
 |nil=>exact h
 |cons w ws ih=>exact ih (zB9 hm hn hv)
theorem zBr{v:List Int}{w:Nat}(h:Row m.Prime D v)(hw:w<n):zNF m vals v (w:Int)=jf (stp m D vals v w):=by have _:=hn;have h7:=hm.p.pos;have h3:=hm.d3;unfold zNF;rw[yA [] (by rw[hm.len];exact hw),bs,hm.d,zDS hm.p (by omega) h (hm.mat w hw),bs,yA [] (by rw[hv.1];exact hw),bs,uV hm.p (wZ) (hv.2 w hw) (by omega) (by omega),bs];rfl
theorem zGk{v x:List Int}(h:Row m.Prime D v)(hl:x.length=n)(hx:∀i,i<n->0<=at0 x i/\at0 x i<=6):f_S m vals v x=jf (ev m D vals v (nw 0 x)):=by
 have:=zO (body:=zXd m vals x) (r:=ev m D vals v (nw 0 x)) (fun i=>(ev m D vals v (nw 0 (x.take i)),(i:Int))) n (fun i hi=>by
  have dl:=hx i hi;unfold zXd;simp only
  rw[hl,yP hi,zH];rw[uZ (S:=Row m.Prime D) (body:=zXc m vals x (ev m D vals v (nw 0 (x.take i)),(i:Int))) (fun v=>v) (fun v=>stp m D vals v i) (at0 x i) dl.1 (by grind[zB9]) (fun u q hu hq=>by
   unfold zXc;simp only
   rw[yJ,bs,jk hq,zH,zBr hm hn hv hu hi,bs,zB,bs,cs]) (fun u hu=>by
   unfold zXc;simp only
   rw[yJ,bs,jj (by omega),zK]) (zDU hm hn hv h _),bs,zB,bs,cs]
  grind[zQO,zJB,zOF]) (by
  unfold zXd
  grind)
 rw[show((0:Nat):Int)=0 from rfl,Kd]at this
 grind[nw,ev,f_S]
theorem zEC{ws:List Nat}(hw:∀w∈ws,w<n)(hl:ws.length<=1000):zXe m vals (enW ws)=jf (ev m D vals (z0 D) ws):=by
 have h7:=hm.p.pos;have h3:=hm.d3;unfold zXe;rw[hm.d,yI,bs];have hz:=zFH (p:=m.Prime) (D:=D);have dA:(enW ws).length=ws.length:=by simp
 have:=zO (body:=zNG m vals (enW ws)) (r:=ev m D vals (z0 D) ws) (fun i=>(ev m D vals (z0 D) (ws.take i),(i:Int))) ws.length (fun i hi=>by
  have mV:=hw ws[i] (Jp hi);have hr:=zDU hm hn hv hz (ws.take i);unfold zNG;simp only
  rw[dA,yP hi,zH,vH,Jw,J3 hi];simp only[He];rw[bs,zB,bs,show((ws[i]:Nat):Int)+1-1=((ws[i]:Nat):Int)from by omega,zDz hm hn mV,bs,zBp hm.p (by omega) hr (hm.mat _ mV) rfl,bs,bs,yA [] (by rw[hv.1];exact mV),bs,zBq hm.p (wZ) (hv.2 _ mV) (by omega) (by omega),bs,zB,bs,cs,K5 hi,zJB];rfl) (by
  unfold zNG;simp)
 rw[show((0:Nat):Int)=0 from rfl,Kd]at this
 grind[ev]
end
section
variable {x:SPr} (h:Pres x) {m:zF}{D:Nat} (hm:MOk x.zA.length m D) {vals:Mx} (hv:VOk x.zA.length m.Prime D vals)
 include h hm hv
abbrev dfc(m:zF)(D:Nat)(vals:Mx)(q:Rl):List Int:=uR m.Prime D (ev m D vals (z0 D) q.1) (-1) (ev m D vals (z0 D) q.2)
theorem zKJ:(wN x).length<=300:=by
 have _:=hv;have _:=hm;have h6:=h.os.1;have iK:=zKH h x.zA.length (Je _)
 grind[wN]
theorem zKK:zZh x m vals=jf ((wN x).map (dfc m D vals)):=by
 have h6:=h.os.1;have h7:=hm.p.pos;have h3:=hm.d3;have cB:=zKJ h hm hv;have hz:=zFH (p:=m.Prime) (D:=D);unfold zZh;rw[zDT h,bs];have:=zO (body:=zNH m vals ((wN x).map enR)) (r:=(wN x).map (dfc m D vals)) (fun i=>(((wN x).map (dfc m D vals)).take i,(i:Int))) (wN x).length (fun i hi=>by
  have gp:(wN x)[i]∈wN x:=Jp hi;obtain⟨⟨g1,g2⟩,g3,g4⟩:=zRX h gp;unfold zNH;simp only
  rw[Jf,yP hi,zH,vH,Jw,J3 hi];simp only[He];rw[bs,zEC hm h6 hv g1 g2,bs,zEC hm h6 hv g3 g4,bs,zBq hm.p (zDU hm h6 hv hz _) (zDU hm h6 hv hz _) (by omega) (by omega),bs,zV (by simp;omega),bs,zB,bs,cs,K5 (by simpa using hi)];simp) (by
  unfold zNH;simp only
  rw[Jf,tS,zK,Jx (by simp)])
 grind
end
theorem zQQ{b:Int}(h:a=b:=by omega):(a==b)=jh:=by simp[h]
theorem zMJ{b:Int}(h:a≠b:=by omega):(a==b)=ji:=by simp[h]
theorem IsB.both{o':Option Bool}(h:IsB o P)(h':IsB o' P):(o=jf jh/\o'=jf jh/\P)\/(o=jf ji/\o'=jf ji/\ ¬P):=by
 rcases h with⟨h1,h2⟩|⟨h1,h2⟩<;>rcases h' with⟨h3,h4⟩|⟨h3,h4⟩
 all_goals grind
def Sp(p:Int)(n:Nat)(R:Mx)(v:List Int):Prop:=∃c:Nat->Int,∀j,j<n->(S R.length fun i=>c i*ent R i j)%p=at0 v j%p
section
variable {p:Int}{n:Nat}{R R':Mx}{u v w:List Int}
theorem uN(hi:i<R.length:=by omega):Sp p n R (R.getD i []):=by
 refine⟨fun l=>if l=i then 1 else 0,fun j _=>?_⟩
 grind[kI]
theorem jK{k:Int}(hv:Sp p n R v)(hw:Sp p n R w)(h:∀j,j<n->at0 u j%p=(at0 v j+k*at0 w j)%p):Sp p n R u:=by
 obtain⟨c,hc⟩:=hv;obtain⟨d,hd⟩:=hw;refine⟨fun i=>c i+k*d i,fun j hj=>?_⟩;have e:(S R.length fun i=>(c i+k*d i)*ent R i j)=(S R.length fun i=>c i*ent R i j)+k*(S R.length fun i=>d i*ent R i j):=by
  rw[<-zC3,<-zC2]
  grind
 rw[e,h j hj,Ka,hc j hj,Jz,hd j hj,<-Jz,<-Ka]
theorem zAC(h:∀j,j<n->at0 u j%p=0):Sp p n R u:=by refine⟨fun _=>0,fun j hj=>?_⟩;rw[h j hj,xV (g:=fun _=>0) (fun i _=>by simp),sX];simp
theorem sL(h:∀i,i<R.length->Sp p n R' (R.getD i []))(hv:Sp p n R v):Sp p n R' v:=by
 obtain⟨c,hc⟩:=hv;have key:∀m,m<=R.length-> ∃d:Nat->Int,∀j,j<n->(S R'.length fun i=>d i*ent R' i j)%p=(S m fun i=>c i*ent R i j)%p:=by
  intro m
  induction m with
  |zero=>intro _;exact⟨fun _=>0,fun j _=>by rw[xV (g:=fun _=>0) (fun i _=>by simp),sX];rfl⟩
  |succ m ih=>
   intro hm;obtain⟨d,hd⟩:=ih (by omega);obtain⟨e,he⟩:=h m (by omega);refine⟨fun i=>d i+c m*e i,fun j hj=>?_⟩;have e1:(S R'.length fun i=>(d i+c m*e i)*ent R' i j)=(S R'.length fun i=>d i*ent R' i j)+c m*(S R'.length fun i=>e i*ent R' i j):=by
    rw[<-zC3,<-zC2]
    grind
   rw[e1,Ka,hd j hj,Jz,he j hj,<-Jz,<-Ka];rfl
 obtain⟨d,hd⟩:=key R.length (Je _);exact⟨d,by grind⟩
end
def qN(p:Int)(n:Nat)(R R':Mx):Prop:=(∀i,i<R.length->Sp p n R' (R.getD i []))/\ ∀i,i<R'.length->Sp p n R (R'.getD i [])
theorem qN.refl{p:Int}{n:Nat}{R:Mx}:qN p n R R:=⟨fun _ h=>uN h,fun _ h=>uN h⟩
theorem qN.symm{p:Int}{n:Nat}{R:Mx}(h:qN p n R R'):qN p n R' R:=⟨h.2,h.1⟩
theorem qN.trans{p:Int}{n:Nat}{R R2:Mx}(h:qN p n R R')(h':qN p n R' R2):qN p n R R2:=⟨fun i hi=>sL h'.1 (h.1 i hi),fun i hi=>sL h.2 (h'.2 i hi)⟩
theorem qN.iff{p:Int}{n:Nat}{R:Mx}{v:List Int}(h:qN p n R R'):Sp p n R v↔Sp p n R' v:=⟨fun g=>sL h.1 g,fun g=>sL h.2 g⟩
structure Red (p:Int) (n:Nat) (R:Mx) (pv:Nat->Nat):Prop where
 row:∀i,i<R.length->Row p n (R.getD i [])
 lt:∀i,i<R.length->pv i<n
 one:∀i,i<R.length->ent R i (pv i)=1
 low:∀i,i<R.length-> ∀j,j<pv i->ent R i j=0
 off:∀i k,i<R.length->k<R.length->k≠i->ent R k (pv i)=0
 mono:∀i j,i<j->j<R.length->pv i<pv j
section
variable {p:Int} (hp:1<p) {n:Nat}{R R':Mx}{pv pv':Nat->Nat}{v:List Int}
theorem Red.coef(h:Red p n R pv){c:Nat->Int}(hc:∀j,j<n->(S R.length fun i=>c i*ent R i j)%p=at0 v j%p)(hk:k<R.length):c k%p=at0 v (pv k)%p:=by rw[<-hc (pv k) (h.lt k hk),kI (k:=k) hk (fun i hi gc=>by rw[h.off k i hk hi gc];simp),h.one k hk];simp
theorem Red.expand(h:Red p n R pv)(hv:Sp p n R v):∀j,j<n->at0 v j%p=(S R.length fun i=>at0 v (pv i)*ent R i j)%p:=by obtain⟨c,hc⟩:=hv;intro j hj;rw[<-hc j hj];exact kH fun i hi=>by rw[Jz,h.coef hc hi,<-Jz]
theorem Red.lead(h:Red p n R pv)(hv:Sp p n R v)(gc:∃j,j<n/\at0 v j%p≠0):∃i,i<R.length/\(∀j,j<pv i->at0 v j%p=0)/\at0 v (pv i)%p≠0:=by
 have hx:=h.expand hv;have h1:∃i,i<R.length/\at0 v (pv i)%p≠0:=by
  refine Classical.byContradiction fun hn=>?_
  obtain⟨j,hj,bq⟩:=gc;refine bq ?_;rw[hx j hj,kH (g:=fun _=>0) (fun i hi=>by
   have:at0 v (pv i)%p=0:=by grind
   rw[Jz,this];simp),sX];rfl
 obtain⟨i,⟨hi,eR⟩,fc⟩:=zDt h1;refine⟨i,hi,fun j hj=>?_,eR⟩;have fL:j<n:=Nat.lt_trans hj (h.lt i hi);rw[hx j fL,kH (g:=fun _=>0) (fun k hk=>by
  rcases Jo k i with hki|hki
  ·have:at0 v (pv k)%p=0:=by grind
   rw[Jz,this];simp
  ·have h2:pv i<=pv k:=by
    rcases Jo i k with h3|h3
    ·exact Nat.le_of_lt (h.mono i k h3 hk)
    grind
   rw[h.low k hk j (by omega)];simp),sX];rfl
 include hp
theorem Red.row_lead(h:Red p n R pv)(hi:i<R.length):(∃j,j<n/\at0 (R.getD i []) j%p≠0)/\(∀j,j<pv i->at0 (R.getD i []) j%p=0)/\at0 (R.getD i []) (pv i)%p≠0:=by
 have h1:at0 (R.getD i []) (pv i)%p≠0:=by have:=h.one i hi;simp only[ent]at this;rw[this,Jq (by omega) hp];omega
 refine⟨⟨pv i,h.lt i hi,h1⟩,fun j hj=>?_,h1⟩;have:=h.low i hi j hj
 simp_all
theorem Red.piv_in(h:Red p n R pv)(h':Red p n R' pv')(hs:∀i,i<R.length->Sp p n R' (R.getD i []))(hi:i<R.length):∃k,k<R'.length/\pv' k=pv i:=by
 obtain⟨g1,g2,g3⟩:=h.row_lead hp hi;obtain⟨k,hk,g4,g5⟩:=h'.lead (hs i hi) g1
 grind
theorem Red.piv_eq(h:Red p n R pv)(h':Red p n R' pv')(hs:qN p n R R'):∀i,(i<R.length↔i<R'.length)/\(i<R.length->pv i=pv' i):=by
 intro i
 induction i using U0 with
 |_ i ih=>
  have a:i<R.length->i<R'.length/\pv' i<=pv i:=fun hi=>by
   obtain⟨k,hk,e⟩:=h.piv_in hp h' hs.1 hi;have hki:i<=k:=by
    refine Classical.byContradiction fun hn=>?_
    have h1:=(ih k (by omega)).2 (by omega);have h2:=h.mono k i (by omega) hi;omega
   refine⟨by omega,?_⟩;rcases Jo i k with h3|h3
   ·have:=h'.mono i k h3 hk;omega
   grind
  have b:i<R'.length->i<R.length/\pv i<=pv' i:=fun hi=>by
   obtain⟨k,hk,e⟩:=h'.piv_in hp h hs.2 hi;have hki:i<=k:=by
    refine Classical.byContradiction fun hn=>?_
    have h1:=(ih k (by omega)).2 hk;have h2:=h'.mono k i (by omega) hi;omega
   refine⟨by omega,?_⟩;rcases Jo i k with h3|h3
   ·have:=h.mono i k h3 hk;omega
   grind
  omega
theorem Red.unique(h:Red p n R pv)(h':Red p n R' pv')(hs:qN p n R R'):R=R':=by
 have pZ:=h.piv_eq hp h' hs;have hl:R.length=R'.length:=by
  rcases G1 R.length R'.length with g|g|g
  all_goals grind
 refine zHJ (D:=R.length) rfl hl.symm fun i hi=>?_
 have fj:i<R'.length:=by omega
 have r1:=h.row i hi;have r2:=h'.row i fj;rw[vJ r1.1,vJ r2.1];refine zX fun j hj=>?_
 have hx:=h'.expand (hs.1 i hi) j hj;rw[xV (g:=fun k=>(if k=i then 1 else 0)*ent R' k j) (fun k hk=>by
  congr 1
  have e:=(pZ k).2 (by omega)
  by_cases hki:k=i
  ·subst hki;rw[if_pos rfl,<-e];exact h.one k hi
  ·rw[if_neg hki,<-e];exact h.off k i (by omega) hi (Ne.symm hki)),kI (k:=i) fj (fun k _ hk=>by simp[hk])]at hx
 simp only[if_true,Gp,ent]at hx;have a1:=r1.2 j hj;have a2:=r2.2 j hj;rw[Jq a1.1 (by omega),Jq a2.1 (by omega)]at hx;exact hx
end
def mkR(m:Nat)(F:Nat->List Int):Mx:=(Jd m).map F
theorem tY{F:Nat->List Int}:(mkR m F).length=m:=by simp[mkR]
theorem jV{F:Nat->List Int}(h:i<m):(mkR m F).getD i []=F i:=by simp[mkR,J2,h]
theorem zKL{F:Nat->List Int}(h:i<m):ixO (mkR m F) (i:Int)=jf (F i):=by rw[yA [] (by grind[tY]),jV h]
theorem jL{F G:Nat->List Int}(h:∀i,i<m->F i=G i):mkR m F=mkR m G:=by grind[mkR,Uu]
theorem zUK{R:Mx}(h:R.length=m):R=mkR m (fun i=>R.getD i []):=zHJ (D:=m) h tY (by grind[jV])
theorem zGF{F:Nat->List Int}{a:List Int}:(mkR m F).set i a=mkR m (fun k=>if k=i then a else F k):=by
 apply L4;intro k
 by_cases hk:k<m
 ·by_cases h:i=k
  ·grind[mkR]
  ·rw[Jb0 h];simp[mkR,hk,Ne.symm h]
 grind[mkR]
theorem zED{F:Nat->List Int}(h:i<m):ent (mkR m F) i j=at0 (F i) j:=by simp only[ent,jV h]
theorem zUL{s:Nat->Int×Int×Int×Int}(n:Nat){r:Int×Int}(h:∀i,i<n->zJV (s i)=jf (.inl (s (i+1))))(he:zJV (s n)=jf (.inr r)){p:Int}(hq:zLz r.2 p=jf q)(h1:r.1=1)(hs:s 0=(p,(s 0).2.1,0,1)):
  zN9 (s 0).2.1 p=jf (q,jh):=by
 unfold zN9;rw[<-hs,zO s n h he,bs,hq,bs,h1];rfl
def zUM:List (Int×Int×Int×Int)->Nat->Int×Int×Int×Int:=fun l i=>l.getD i (0,0,0,0)
theorem tI(l:List (Int×Int×Int×Int))(n:Nat){r:Int×Int}(h:∀i,i<n->zJV (zUM l i)=jf (.inl (zUM l (i+1))))(he:zJV (zUM l n)=jf (.inr r)){p x:Int}(hq:zLz r.2 p=jf q)(h1:r.1=1)(hs:zUM l 0=(p,x,0,1)):
  zN9 x p=jf (q,jh):=by
 have:=zUL (s:=zUM l) n h he hq h1 (by rw[hs])
 grind
theorem lt1{P:Nat->Prop}(h0:P 0):∀i,i<1->P i:=by grind
theorem lt2{P:Nat->Prop}(h0:P 0)(h1:P 1):∀i,i<2->P i:=by grind
theorem lt3{P:Nat->Prop}(h0:P 0)(h1:P 1)(h2:P 2):∀i,i<3->P i:=by grind
theorem zBA{p x:Int}(hp:Prime p)(h0:1<=x)(h1:x<=p-1):∃r,zN9 x p=jf (r,jh)/\0<=r/\r<=p-1/\(x*r)%p=1:=by
 have c:(p=2/\x=1)\/(p=3/\(x=1\/x=2))\/(p=5/\(x=1\/x=2\/x=3\/x=4))\/(p=7/\(x=1\/x=2\/x=3\/x=4\/x=5\/x=6)):=by unfold Prime at hp;omega
 rcases c with⟨rfl,rfl⟩|⟨rfl,rfl|rfl⟩|⟨rfl,rfl|rfl|rfl|rfl⟩|⟨rfl,rfl|rfl|rfl|rfl|rfl|rfl⟩
 ·exact⟨1,tI [(2,1,0,1),(1,0,1,-2)] 1 (lt1 (by rfl)) (r:=(1,1)) (by rfl) (by rfl) rfl rfl,by decide,by decide,by decide⟩
 ·exact⟨1,tI [(3,1,0,1),(1,0,1,-3)] 1 (lt1 (by rfl)) (r:=(1,1)) (by rfl) (by rfl) rfl rfl,by decide,by decide,by decide⟩
 ·exact⟨2,tI [(3,2,0,1),(2,1,1,-1),(1,0,-1,3)] 2 (lt2 (by rfl) (by rfl)) (r:=(1,-1)) (by rfl) (by rfl) rfl rfl,by decide,by decide,by decide⟩
 ·exact⟨1,tI [(5,1,0,1),(1,0,1,-5)] 1 (lt1 (by rfl)) (r:=(1,1)) (by rfl) (by rfl) rfl rfl,by decide,by decide,by decide⟩
 ·exact⟨3,tI [(5,2,0,1),(2,1,1,-2),(1,0,-2,5)] 2 (lt2 (by rfl) (by rfl)) (r:=(1,-2)) (by rfl) (by rfl) rfl rfl,by decide,by decide,by decide⟩
 ·exact⟨2,tI [(5,3,0,1),(3,2,1,-1),(2,1,-1,2),(1,0,2,-5)] 3 (lt3 (by rfl) (by rfl) (by rfl)) (r:=(1,2)) (by rfl) (by rfl) rfl rfl,by decide,by decide,by decide⟩
 ·exact⟨4,tI [(5,4,0,1),(4,1,1,-1),(1,0,-1,5)] 2 (lt2 (by rfl) (by rfl)) (r:=(1,-1)) (by rfl) (by rfl) rfl rfl,by decide,by decide,by decide⟩
 ·exact⟨1,tI [(7,1,0,1),(1,0,1,-7)] 1 (lt1 (by rfl)) (r:=(1,1)) (by rfl) (by rfl) rfl rfl,by decide,by decide,by decide⟩
 ·exact⟨4,tI [(7,2,0,1),(2,1,1,-3),(1,0,-3,7)] 2 (lt2 (by rfl) (by rfl)) (r:=(1,-3)) (by rfl) (by rfl) rfl rfl,by decide,by decide,by decide⟩
 ·exact⟨5,tI [(7,3,0,1),(3,1,1,-2),(1,0,-2,7)] 2 (lt2 (by rfl) (by rfl)) (r:=(1,-2)) (by rfl) (by rfl) rfl rfl,by decide,by decide,by decide⟩
 ·exact⟨2,tI [(7,4,0,1),(4,3,1,-1),(3,1,-1,2),(1,0,2,-7)] 3 (lt3 (by rfl) (by rfl) (by rfl)) (r:=(1,2)) (by rfl) (by rfl) rfl rfl,by decide,by decide,by decide⟩
 ·exact⟨3,tI [(7,5,0,1),(5,2,1,-1),(2,1,-1,3),(1,0,3,-7)] 3 (lt3 (by rfl) (by rfl) (by rfl)) (r:=(1,3)) (by rfl) (by rfl) rfl rfl,by decide,by decide,by decide⟩
 ·exact⟨6,tI [(7,6,0,1),(6,1,1,-1),(1,0,-1,7)] 2 (lt2 (by rfl) (by rfl)) (r:=(1,-1)) (by rfl) (by rfl) rfl rfl,by decide,by decide,by decide⟩
structure zRZ (p:Int) (n m:Nat) (rows:Mx) (c:Nat) (M:Mx) (d:Nat) (pv:Nat->Nat):Prop where
 len:M.length=m
 row:∀i,i<m->Row p n (M.getD i [])
 dm:d<=m
 lt:∀i,i<d->pv i<c
 one:∀i,i<d->ent M i (pv i)=1
 low:∀i,i<d-> ∀j,j<pv i->ent M i j=0
 off:∀i k,i<d->k<m->k≠i->ent M k (pv i)=0
 mono:∀i j,i<j->j<d->pv i<pv j
 zero:∀k,d<=k->k<m-> ∀j,j<c->ent M k j=0
 sp:qN p n M rows
theorem zBB{p:Int}{n:Nat}{F:Nat->List Int}(h:i<m:=by omega):Sp p n (mkR m F) (F i):=by
 have:=uN (p:=p) (n:=n) (R:=mkR m F) (i:=i) (by grind[tY])
 grind[jV]
theorem zUN(a e r p:Int):a%p=((a+(0-e)*r)%p+e*r)%p:=by rw[Ka,K3,<-Ka,show a+(0-e)*r+e*r=a from by grind]
section
variable {p:Int} (hp:Prime p) {n m:Nat}{rows:Mx}{c:Nat}{M:Mx}{d:Nat}{pv:Nat->Nat} (h:zRZ p n m rows c M d pv) (hc:c<n) (hd:d<m)
 include hp h hc hd
theorem zRZ.pivot{t:Nat}(ht:d<=t)(ap:t<m)(gc:ent M t c≠0)(hq:(ent M t c*q)%p=1):
  zRZ p n m rows (c+1) (mkR m fun i=>if i=d then mkv n fun j=>(ent M t j*q)%p else uR p n (if i=t then M.getD d []else M.getD i []) (0-at0 (if i=t then M.getD d []else M.getD i []) c) (mkv n fun j=>(ent M t j*q)%p)) (d+1) (fun i=>if i=d then c else pv i):=by
 have h7:=hp.pos;have pr:∀j,j<n->at0 (mkv n fun j=>(ent M t j*q)%p) j=(ent M t j*q)%p:=fun j hj=>zW hj
 have p0:∀j,j<c->(ent M t j*q)%p=0:=fun j hj=>by rw[h.zero t ht ap j hj];simp
 have prow:Row p n (mkv n fun j=>(ent M t j*q)%p):=⟨zU _ _,fun j hj=>by have e1:=Kk (ent M t j*q) (show p≠0 by omega);have e2:=Kh (ent M t j*q) (show 0<p by omega);rw[pr j hj];omega⟩
 have hG:∀i,i<m->i≠d->Row p n (if i=t then M.getD d []else M.getD i []):=fun i hi _=>by
  split
  ·exact h.row d hd
  ·exact h.row i hi
 have eo:∀i j,i<m->i≠d->j<n->ent (mkR m fun i=>if i=d then mkv n fun j=>(ent M t j*q)%p else uR p n (if i=t then M.getD d []else M.getD i []) (0-at0 (if i=t then M.getD d []else M.getD i []) c) (mkv n fun j=>(ent M t j*q)%p)) i j=(at0 (if i=t then M.getD d []else M.getD i []) j+(0-at0 (if i=t then M.getD d []else M.getD i []) c)*((ent M t j*q)%p))%p:=fun i j hi eJ hj=>by rw[zED hi,if_neg eJ,uR,zW hj,pr j hj]
 have el:∀i j,i<m->i≠d->j<c->ent (mkR m fun i=>if i=d then mkv n fun j=>(ent M t j*q)%p else uR p n (if i=t then M.getD d []else M.getD i []) (0-at0 (if i=t then M.getD d []else M.getD i []) c) (mkv n fun j=>(ent M t j*q)%p)) i j=at0 (if i=t then M.getD d []else M.getD i []) j:=fun i j hi eJ hj=>by rw[eo i j hi eJ (by omega),p0 j hj,Lo,L9];have:=(hG i hi eJ).2 j (by omega);exact Jq this.1 (by omega)
 have ed:∀j,j<n->ent (mkR m fun i=>if i=d then mkv n fun j=>(ent M t j*q)%p else uR p n (if i=t then M.getD d []else M.getD i []) (0-at0 (if i=t then M.getD d []else M.getD i []) c) (mkv n fun j=>(ent M t j*q)%p)) d j=(ent M t j*q)%p:=fun j hj=>by rw[zED hd,if_pos rfl,pr j hj]
 have ec:∀i,i<m->i≠d->ent (mkR m fun i=>if i=d then mkv n fun j=>(ent M t j*q)%p else uR p n (if i=t then M.getD d []else M.getD i []) (0-at0 (if i=t then M.getD d []else M.getD i []) c) (mkv n fun j=>(ent M t j*q)%p)) i c=0:=fun i hi eJ=>by rw[eo i c hi eJ hc,hq,L8];rw[show at0 (if i=t then M.getD d []else M.getD i []) c+(0-at0 (if i=t then M.getD d []else M.getD i []) c)=0 from by omega];simp
 have fK:∀i,i<d->(if i=t then M.getD d []else M.getD i [])=M.getD i []:=fun i hi=>by rw[if_neg (by omega)]
 have bR:∀i,d<=i->i<m-> ∀j,j<c->at0 (if i=t then M.getD d []else M.getD i []) j=0:=fun i hi eR j hj=>by
  split
  ·exact h.zero d (Je _) hd j hj
  ·exact h.zero i hi eR j hj
 refine⟨tY,fun i hi=>?_,by omega,fun i hi=>?_,fun i hi=>?_,fun i hi j hj=>?_,fun i k hi hk eJ=>?_,fun i j gI hj=>?_,fun k hk eZ j hj=>?_,?_⟩
 ·rw[jV hi]
  split
  ·exact prow
  ·exact qW hp
 ·by_cases eG:i=d
  ·rw[if_pos eG];omega
  ·rw[if_neg eG];have:=h.lt i (by omega);omega
 ·by_cases eG:i=d
  ·subst eG;rw[if_pos rfl,ed c hc,hq]
  ·have h1:=h.lt i (by omega)
   rw[if_neg eG,el i _ (by omega) eG h1,fK i (by omega)];exact h.one i (by omega)
 ·by_cases eG:i=d
  ·subst eG
   rw[if_pos rfl]at hj;rw[ed j (by omega),p0 j hj]
  ·rw[if_neg eG]at hj
   have h1:=h.lt i (by omega);rw[el i j (by omega) eG (by omega),fK i (by omega)];exact h.low i (by omega) j hj
 ·by_cases eG:i=d
  ·subst eG
   rw[if_pos rfl];exact ec k hk eJ
  ·have h1:=h.lt i (by omega)
   rw[if_neg eG]
   by_cases mL:k=d
   ·subst mL
    rw[ed _ (by omega),h.off i t (by omega) ap (by omega)];simp
   ·rw[el k _ hk mL h1]
    split
    ·exact h.off i d (by omega) hd (Ne.symm eG)
    ·exact h.off i k (by omega) hk eJ
 ·by_cases hjd:j=d
  ·subst hjd
   rw[if_pos rfl,if_neg (by omega)];exact h.lt i (by omega)
  ·rw[if_neg hjd,if_neg (by omega)];exact h.mono i j gI (by omega)
 ·rcases Jo j c with hjc|hjc
  ·rw[el k j eZ (by omega) hjc];exact bR k (by omega) eZ j hjc
  ·rw[show j=c from by omega];exact ec k eZ (by omega)
 ·refine qN.trans ⟨fun i hi=>?_,fun i hi=>?_⟩ h.sp
  ·rw[tY]at hi
   rw[jV hi];have hr:Sp p n M (mkv n fun j=>(ent M t j*q)%p):=by
    refine jK (k:=q) (zAC (u:=[]) fun j _=>by simp[at0]) (uN (R:=M) (i:=t) (by rw[h.len];exact ap)) fun j hj=>?_
    rw[pr j hj,K3,Gy];simp[at0]
   split
   ·exact hr
   ·refine jK (k:=0-at0 (if i=t then M.getD d []else M.getD i []) c) (v:=if i=t then M.getD d []else M.getD i []) ?_ hr fun j hj=>?_
    ·split
     ·exact uN (by rw[h.len];exact hd)
     ·exact uN (by rw[h.len];exact hi)
    ·rw[uR,zW hj,K3]
  ·rw[h.len]at hi
   have hr:=zBB (p:=p) (n:=n) (m:=m) (F:=fun i=>if i=d then mkv n fun j=>(ent M t j*q)%p else uR p n (if i=t then M.getD d []else M.getD i []) (0-at0 (if i=t then M.getD d []else M.getD i []) c) (mkv n fun j=>(ent M t j*q)%p)) hd;simp only[if_true]at hr;have hg:∀k,k<m->k≠d->Sp p n (mkR m fun i=>if i=d then mkv n fun j=>(ent M t j*q)%p else uR p n (if i=t then M.getD d []else M.getD i []) (0-at0 (if i=t then M.getD d []else M.getD i []) c) (mkv n fun j=>(ent M t j*q)%p)) (if k=t then M.getD d []else M.getD k []):=fun k hk mL=>by
    have h1:=zBB (p:=p) (n:=n) (m:=m) (F:=fun i=>if i=d then mkv n fun j=>(ent M t j*q)%p else uR p n (if i=t then M.getD d []else M.getD i []) (0-at0 (if i=t then M.getD d []else M.getD i []) c) (mkv n fun j=>(ent M t j*q)%p)) hk;simp only[if_neg mL]at h1;refine jK (k:=at0 (if k=t then M.getD d []else M.getD k []) c) h1 hr fun j hj=>?_
    rw[uR,zW hj,pr j hj];exact zUN _ _ _ _
   by_cases ej:i=t
   ·
    subst ej;refine jK (k:=ent M i c) (zAC (u:=[]) fun j _=>by simp[at0]) hr fun j hj=>?_
    rw[pr j hj];have e1:(ent M i c*((ent M i j*q)%p))%p=(ent M i j*((ent M i c*q)%p))%p:=by
     rw[Jz,K3,<-Jz,Jz (ent M i j),K3,<-Jz]
     congr 1
     rw[<-U1,<-U1,Gy (ent M i c)]
    rw[show at0 ([]:List Int) j=0 from by simp[at0],Kq,e1,hq,L8]
   ·by_cases eG:i=d
    ·subst eG
     have:=hg t ap (by omega);rw[if_pos rfl]at this;exact this
    ·have:=hg i hi eG
     rw[if_neg ej]at this;exact this
end
theorem jM{v:List Int}(h:v.length<=1000000:=by omega):f_B v=jf v:=by grind[f_B,zV]
theorem zD1{rows:Mx}(hm:rows.length<=1000000)(hn:∀i,i<rows.length->(rows.getD i []).length<=1000000):zWW rows=jf rows:=by
 unfold zWW;have:=zO (body:=zN8 rows) (r:=rows) (fun i=>(rows.take i,(i:Int))) rows.length (fun i hi=>by
  unfold zN8;simp only
  rw[yP hi,zH,yA [] hi,bs,jM (hn i hi),bs,zV (by simp;omega),bs,zB,bs,cs,K5 hi,J2,J3 hi];rfl) (by
  unfold zN8;simp)
 grind
theorem zSa{M:Mx}{d c n:Nat}(hm:M.length=m)(hd:d<=m)(hmm:m<=1000000)(gG:∀i,i<m->(M.getD i []).length=n)(hc:c<n):
  ∃t:Nat,d<=t/\t<=m/\zE (zIT (M,(d:Int),(c:Int))) (d:Int)=jf (t:Int)/\(∀k,d<=k->k<t->ent M k c=0)/\(t<m->ent M t c≠0):=by
 have key:∀k,k<=m-d-> ∃t:Nat,m-k<=t/\t<=m/\zE (zIT (M,(d:Int),(c:Int))) ((m-k:Nat):Int)=jf (t:Int)/\(∀q,m-k<=q->q<t->ent M q c=0)/\(t<m->ent M t c≠0):=by
  intro k
  induction k with
  |zero=>
   intro _;refine⟨m,by omega,Je _,?_,by omega,fun h=>by omega⟩;rw[yQ];unfold zIT
   grind
  |succ k ih=>
   intro hk;obtain⟨t,h1,h2,h3,h4,h5⟩:=ih (by omega);have gC:m-(k+1)<m:=by omega
   by_cases hz:ent M (m-(k+1)) c=0
   ·refine⟨t,by omega,h2,?_,fun q q1 q2=>?_,h5⟩
    ·rw[yQ]
     have e:zIT (M,(d:Int),(c:Int)) ((m-(k+1):Nat):Int)=jf (.inl ((m-k:Nat):Int)):=by
      unfold zIT;simp only
      rw[hm,yP gC,zH,yA [],bs,yJ (by rw[gG _ gC];exact hc),bs,zQQ hz,zH,zB,bs,cs,show m-(k+1)+1=m-k from by omega]
     grind
    grind
   ·refine⟨m-(k+1),Je _,by omega,?_,by omega,fun _=>hz⟩
    rw[yQ];have e:zIT (M,(d:Int),(c:Int)) ((m-(k+1):Nat):Int)=jf (.inr ((m-(k+1):Nat):Int)):=by
     unfold zIT;simp only
     rw[hm,yP gC,zH,yA [],bs,yJ (by rw[gG _ gC];exact hc),bs,zMJ hz,zK]
    rw[e]
 obtain⟨t,h1,h2,h3,h4,h5⟩:=key (m-d) (Je _);rw[show m-(m-d)=d from by omega]at h1 h3 h4
 grind
section
variable {p:Int} (hp:Prime p) {n m:Nat}{M:Mx}{d c t:Nat}
 include hp
theorem zOG{F:Nat->List Int}{b:Bool}(hd:d<m)(hr:Row p n (F d))(hn:n<=1000000)(hq:0<=q/\q<=p-1){v:List Int}(hv:v.length=n){s:Mx×Int×Int}(hs:s.2.1=(d:Int)):
  zE (zNA p s (q,b) v) (mkR m F,0)=jf (mkR m fun i=>if i=d then mkv n fun j=>(at0 (F d) j*q)%p else F i):=by
 have h7:=hp.pos;have:=zO (body:=zNA p s (q,b) v) (r:=mkR m fun i=>if i=d then mkv n fun j=>(at0 (F d) j*q)%p else F i) (fun k=>(mkR m fun i=>if i=d then mkv n (fun j=>if j<k then(at0 (F d) j*q)%p else at0 (F d) j)else F i,(k:Int))) n (fun k hk=>by
  have a1:=hr.2 k hk;have a2:=zB7 hp (k:=q) (by omega) a1;have a3:=Ul a1.1 hq.1;rw[Gy]at a2;unfold zNA;simp only
  rw[hv,yP hk,zH,hs,zKL hd];simp only[bs,if_true];rw[yJ (by grind[zU]),zW hk,if_neg (by omega)];simp only[bs];rw[zB];simp only[bs,vD];rw[if_neg (by omega)];simp only[bs];rw[Hg a3,zB];simp only[bs,J8,cs];rw[zGF]
  congr 3
  refine jL fun i _=>?_
  by_cases hi:i=d
  ·rw[if_pos hi,if_pos hi,sP]
   grind
  grind) (by
  unfold zNA;simp only
  rw[hv,tS,zK]
  congr 2
  refine jL fun i _=>?_
  split
  ·exact zX (by omega)
  ·rfl)
 rw[show((0:Nat):Int)=0 from rfl]at this;rw[<-this]
 congr 2
 refine jL fun i _=>?_
 split
 ·rename_i e;subst e
  conv=>lhs;rw[vJ hr.1]
  rfl
 ·rfl
theorem zOH{F:Nat->List Int}(hd:d<m)(hc:c<n)(hr:∀i,i<m->Row p n (F i))(hn:n<=1000000)(hm:m<=1000000){r21:Mx}(hl:r21.length=m){s:Mx×Int×Int}(hs:s.2.1=(d:Int))(az:s.2.2=(c:Int)):
  zE (zPD p s r21) (mkR m F,0)=jf (mkR m fun i=>if i=d then F d else uR p n (F i) (0-at0 (F i) c) (F d)):=by
 have h7:=hp.pos;have:=zO (body:=zPD p s r21) (r:=mkR m fun i=>if i=d then F d else uR p n (F i) (0-at0 (F i) c) (F d)) (fun k=>(mkR m fun i=>if i<k/\i≠d then uR p n (F i) (0-at0 (F i) c) (F d)else F i,(k:Int))) m (fun k hk=>by
  have a1:=(hr k hk).2 c hc;unfold zPD;simp only
  rw[hl,yP hk,zH,hs,az]
  by_cases mL:k=d
  ·subst mL
   rw[zAu rfl,zK,zB,bs,cs]
   grind
  ·rw[zA9,zH,zKL hk,zKL hd]
   simp only[bs,ne_eq,not_true_eq_false,and_false,if_false,Jam,false_and];rw[yJ (by rw[(hr k hk).1];exact hc)];simp only[bs];rw[zB];simp only[bs];rw[zBq hp (hr k hk) (hr d hd) (by omega) hn,bs,zB];simp only[bs,J8,cs];rw[zGF]
   grind) (by
  unfold zPD;simp only
  rw[hl,tS,zK]
  congr 2
  refine jL fun i hi=>?_
  grind)
 grind
end
end Go.Pl
