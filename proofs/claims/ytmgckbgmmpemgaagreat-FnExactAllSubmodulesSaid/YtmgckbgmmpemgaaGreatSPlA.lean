/- x -/
import Derived.Test.YtmgckbgmmpemgaaGreatSAbB
import Derived.Test.YtmgckbgmmpemgaaGreatSWF
open Bool renaming and_eq_true→J1,not_true→Jg,not_false→Jv
open List renaming replicate→J2,getElem?_eq_getElem→J5,getD_eq_getElem?_getD→J7,getElem?_eq_some_iff→J9,append_nil→Ja,mem_map→Jb,getElem?_append_right→Jc,append_assoc→Jd,map_cons→Jh,length_append→Ji,mem_cons→Jj,take_succ_eq_append_getElem→Jk,length_map→Jn,take_of_length_le→Jo,range→Jq,getElem?_map→Jr,length_cons→K5,getElem_mem→K7,getElem?_append→K8,nil_append→K9,mem_append→Ka,mem_iff_getElem→Kh,replicate_append_replicate→Ki,length_take→Kj,replicate_succ→Km,set_cons_zero→Kn,take_succ_cons→Kw,singleton_append→Kx,ext_getElem?→Kz,getElem?_replicate→L0,getElem?_append_left→L1,mem_range→L3,getElem?_drop→L6,cons_append→L7,take_zero→Lb,range_succ→Ll,set_append_right→Lq,map_append→H6,take_length→Ha,length_singleton→Hf,drop_eq_getElem_cons→Hh,replicate_zero→Hk,length_replicate→Hl,mem_flatMap→Hz,map_nil→G4,length_nil→G5,length_range→Ga,range'→Gg,getElem?_cons_zero→Gm,range_succ_eq_map→Gu,drop_of_length_le→Gw,suffix_cons_iff→U7,replicate_succ'→U8,map_congr_left→Ue,getD_cons_zero→Uf,findSome?_cons→Ug,all_cons→Ux,getElem?_cons_succ→Uy,flatMap_append→Uz,getElem?_set→Q7,range'_succ→Q9,drop_zero→Qh,map_map→Qv
open Nat renaming zero_add→J6,le_refl→Jf,lt_or_ge→Jt,zero_le→K6,sub_self→Kc,succ_mul→La,add_assoc→Lf,le_trans→Lh,min_eq_left→Hb,add_zero→Gx,sub_zero→Ut,lt_trichotomy→Uu,zero_sub→Qb
open Int renaming toNat_natCast→Jl,mul_emod→Ju,emod_eq_of_lt→Jx,emod_emod→K3,add_emod→K4,emod_lt_of_pos→Kd,emod_nonneg→Kq,tmod_eq_emod_of_nonneg→Kt,mul_le_mul→Ku,mul_assoc→Lp,mul_comm→Ls,toNat_zero→Lu,mul_nonneg→Lv,mul_one→H7,zero_add→Hd,add_emod_right→Hm,add_zero→Hx,add_mul_emod_self_left→Gi,one_mul→Gp,tmod_add_mul_tdiv→Uc,tmod_lt_of_pos→Uo,lt_tmod_of_pos→Up,tmod→Q8,sub_zero→Qe,mul_zero→Qf
open Option renaming map_eq_some_iff→Kg,some→H8,map_some→Ge,getD_some→Us
open Option renaming some→VU,none→VV
open Bool renaming true→VW,false→VX
namespace Go.Pc
abbrev Vec:=List Int
structure Lvl where
 o:Int
 w:Vec
 cs:List Vec
abbrev Pcp:=List Lvl
def zeros(n:Nat):Vec:=J2 n 0
def iter{α:Type}:Nat→(α→α)→α→α
 |0,_,x=>x
 |n+1,f,x=>iter n f (f x)
theorem qU{α:Type}(f:α→α):∀(n:Nat)(x:α),iter (n+1) f x=f (iter n f x)
 |0,_=>rfl
 |n+1,x=>by rw[iter,qU f n (f x)];rfl
theorem zE4{α:Type}(f:α→α)(a:Nat):∀(b:Nat)(x:α),iter (a+b) f x=iter a f (iter b f x)
 |0,_=>rfl
 |b+1,x=>by show iter (a+b) f (f x)=_;rw[zE4 f a b (f x)];rfl
def img{α:Type}(m:α→α→α):List α→Vec→α→α
 |c::cs,x::xs,acc=>img m cs xs (iter x.toNat (fun v=>m v c) acc)
 |_,_,acc=>acc
def V:Pcp→Vec→Prop
 | [],v=>v=[]
 |l::P,v=>match v with
  | []=>False
  |a::x=>(0≤a∧a<l.o)∧V P x
def mul:Pcp→Vec→Vec→Vec
 |l::P,a::x,b::y=>
  let r:=mul P (iter b.toNat (fun v=>img (mul P) l.cs v (zeros P.length)) x) y
  if a+b≥l.o then(a+b-l.o)::mul P l.w r else(a+b)::r
 |_,_,_=>[]
def Ok:Pcp→Prop
 | []=>True
 |l::P=>1<l.o∧V P l.w∧l.cs.length=P.length∧(∀c∈l.cs,V P c)∧Ok P
structure Mon {α:Type} (S:α→Prop) (m:α→α→α) (e:α):Prop where
 cl:∀{a b},S a→S b→S (m a b)
 ein:S e
 assoc:∀{a b c},S a→S b→S c→m (m a b) c=m a (m b c)
 onel:∀{a},S a→m e a=a
 oner:∀{a},S a→m a e=a
structure Grp {α:Type} (S:α→Prop) (m:α→α→α) (e:α):Prop extends Mon S m e where
 inv:∀{a},S a→ ∃b,S b∧m a b=e
theorem Grp.invl{α:Type}{S:α→Prop}{m:α→α→α}{e:α}(h:Grp S m e){a:α}(ha:S a):∃b,S b∧m a b=e∧m b a=e:=by
 obtain⟨b,hb,h1⟩:=h.inv ha;obtain⟨c,hc,h2⟩:=h.inv hb;refine⟨b,hb,h1,?_⟩;have:a=c:=by rw[←h.oner ha,←h2,←h.assoc ha hb hc,h1,h.onel hc]
 grind
theorem Grp.cancel_l{α:Type}{S:α→Prop}{m:α→α→α}{e:α}(h:Grp S m e){a b c:α}(ha:S a)(hb:S b)(hc:S c)(hh:m a b=m a c):b=c:=by obtain⟨d,hd,_,h2⟩:=h.invl ha;rw[←h.onel hb,←h.onel hc,←h2,h.assoc hd ha hb,h.assoc hd ha hc,hh]
section
variable {α:Type}{S:α→Prop}{m:α→α→α}{e:α}
def pw(m:α→α→α)(e:α)(x:α)(k:Nat):α:=iter k (fun v=>m v x) e
theorem sN(h:Mon S m e){x:α}(hx:S x):∀k,S (pw m e x k)
 |0=>h.ein
 |k+1=>by rw[pw,qU];exact h.cl (sN h hx k) hx
theorem jT{f:α→α}(hf:∀a,S a→S (f a)):∀(k:Nat){x:α},S x→S (iter k f x)
 |0,_,hx=>hx
 |k+1,_,hx=>jT hf k (hf _ hx)
theorem zE5(h:Mon S m e){x a:α}(hx:S x)(ha:S a):∀k,iter k (fun v=>m v x) a=m a (pw m e x k)
 |0=>(h.oner ha).symm
 |k+1=>by rw[qU,zE5 h hx ha k];show _=m a (iter (k+1) (fun v=>m v x) e);rw[qU];exact h.assoc ha (sN h hx k) hx
theorem zGP(h:Mon S m e){x:α}(hx:S x)(a b:Nat):pw m e x (a+b)=m (pw m e x a) (pw m e x b):=by rw[Nat.add_comm,pw,zE4,←zE5 h hx (sN h hx a) b];rfl
theorem zPp(h:Mon S m e){x:α}(hx:S x):pw m e x 1=x:=h.onel hx
theorem zPq(h:Mon S m e){x:α}(hx:S x)(k:Nat):pw m e x (k+1)=m x (pw m e x k):=by rw[Nat.add_comm,zGP h hx 1 k,zPp h hx]
theorem zAZ(h:∀{a b},S a→S b→S (m a b)):∀(cs:List α)(x:Vec){a:α},(∀c∈cs,S c)→S a→S (img m cs x a)
 |c::cs,x::xs,_,hc,ha=>by simp only[img];exact zAZ h cs xs (by grind) (jT (by simp_all) _ ha)
 | [],_,_,_,ha=>by grind[img]
 |_::_,[],_,_,ha=>by grind[img]
theorem zFm(h:Mon S m e)(cs:List α)(x:Vec){a:α}(hc:∀c∈cs,S c)(ha:S a):S (img m cs x a):=zAZ h.cl cs x hc ha
theorem zE6(h:Mon S m e):∀(cs:List α)(x:Vec){a:α},(∀c∈cs,S c)→S a→img m cs x a=m a (img m cs x e)
 |c::cs,x::xs,a,hc,ha=>by
  have h1:S c:=hc c (by simp);have h2:∀c∈cs,S c:=by grind
  simp only[img];rw[zE5 h h1 ha,zE6 h cs xs h2 (h.cl ha (sN h h1 _)),zE5 h h1 h.ein,zE6 h cs xs h2 (h.cl h.ein (sN h h1 _)),h.onel (sN h h1 _),
   h.assoc ha (sN h h1 _) (zFm h cs xs h2 h.ein)]
 | [],_,a,_,ha=>by simp[img,h.oner ha]
 |_::_,[],a,_,ha=>by simp[img,h.oner ha]
theorem kN(h:Mon S m e){c:α}{cs:List α}{x:Int}{xs:Vec}(hc:S c)(gW:∀c∈cs,S c):img m (c::cs) (x::xs) e=m (pw m e c x.toNat) (img m cs xs e):=by simp only[img];rw[zE6 h cs xs gW (jT (fun a ha=>h.cl ha hc) _ h.ein)];rfl
theorem zDe(m:α→α→α):∀(cs:List α)(n:Nat)(a:α),img m cs (zeros n) a=a
 | [],_,_=>by simp[img]
 |_::_,0,_=>by rfl
 |c::cs,n+1,a=>by simp only[zeros,Km,img,Lu,iter];exact zDe m cs n a
theorem zGQ(h:Mon S m e){g:α}(hg:S g):∀(cs ds:List α)(x:Vec),(∀c∈cs,S c)→(∀c∈ds,S c)→cs.length=ds.length→(∀(k:Nat) c d,cs[k]? =VU c→ds[k]? =VU d→m c g=m g d)→m (img m cs x e) g=m g (img m ds x e)
 | [],[],x,_,_,_,_=>by simp[img,h.onel hg,h.oner hg]
 |c::cs,d::ds,[],_,_,_,_=>by simp[img,h.onel hg,h.oner hg]
 |c::cs,d::ds,x::xs,hc,hd,hl,hp=>by
  have gf:S c:=hc c (by simp);have hd0:S d:=hd d (by simp);have gW:∀c∈cs,S c:=by grind
  have pG:∀c∈ds,S c:=by grind
  have key:∀k,m (pw m e c k) g=m g (pw m e d k):=by
   intro k
   induction k with
   |zero=>simp[pw,iter,h.onel hg,h.oner hg]
   |succ k ih=>
    have h0:m c g=m g d:=hp 0 c d rfl rfl;rw[pw,qU,pw,qU];show m (m (pw m e c k) c) g=m g (m (pw m e d k) d);rw[h.assoc (sN h gf k) gf hg,h0,←h.assoc (sN h gf k) hg hd0,ih,h.assoc hg (sN h hd0 k) hd0]
  rw[kN h gf gW,kN h hd0 pG,h.assoc (sN h gf _) (zFm h _ _ gW h.ein) hg,zGQ h hg cs ds xs gW pG (by grind) (fun k c d h1 h2=>hp (k+1) c d (by grind) (by grind)),
   ←h.assoc (sN h gf _) hg (zFm h _ _ pG h.ein),key,h.assoc hg (sN h hd0 _) (zFm h _ _ pG h.ein)]
theorem zMJ{β:Type}{T:β→Prop}{n:β→β→β}{f:β}(h:Mon S m e)(h':Mon T n f)(φ:α→β)(ej:∀a,S a→T (φ a))(h1:φ e=f)(hm:∀a b,S a→S b→φ (m a b)=n (φ a) (φ b)):∀(cs:List α)(x:Vec),(∀c∈cs,S c)→φ (img m cs x e)=img n (cs.map φ) x f
 | [],_,_=>by simp[img,h1]
 |c::cs,[],_=>by simp[img,h1]
 |c::cs,x::xs,hc=>by
  have gf:S c:=hc c (by simp);have gW:∀c∈cs,S c:=by grind
  have key:∀k,φ (pw m e c k)=pw n f (φ c) k:=by
   intro k
   induction k with
   |zero=>grind[pw,iter]
   |succ k ih=>
    grind[pw,qU,sN]
  rw[kN h gf gW,Jh,kN h' (ej c gf) (by simp_all),hm _ _ (sN h gf _) (zFm h _ _ gW h.ein),key,zMJ h h' φ ej h1 hm cs xs gW]
end
theorem tO:∀{P:Pcp},Ok P→V P (zeros P.length)
 | [],_=>rfl
 |l::P,h=>by simp only[Ok]at h;simp only[K5,zeros,Km,V];exact⟨by omega,tO h.2.2.2.2⟩
theorem uD:∀{P:Pcp},Ok P→ ∀{x y:Vec},V P x→V P y→V P (mul P x y)
 | [],_,_,_,hx,hy=>by rfl
 |l::P,h,[],_,hx,_=>by grind[V]
 |l::P,h,_::_,[],_,hy=>by grind[V]
 |l::P,h,a::x,b::y,hx,hy=>by
  simp only[Ok]at h;simp only[V]at hx hy;have h1:∀v,V P v→V P (img (mul P) l.cs v (zeros P.length)):=fun v hv=>zAZ (uD h.2.2.2.2) l.cs v h.2.2.2.1 (tO h.2.2.2.2)
  have h2:=uD h.2.2.2.2 (jT h1 b.toNat hx.2) hy.2;simp only[mul];split
  ·exact⟨by omega,uD h.2.2.2.2 h.2.1 h2⟩
  ·exact⟨by omega,h2⟩
def Rel{α:Type}(m:α→α→α)(e:α):Pcp→List α→Prop
 | [],s=>s=[]
 |l::P,s=>match s with
  | []=>False
  |g::s=>pw m e g l.o.toNat=img m s l.w e∧(∀(k:Nat) c d,s[k]? =VU c→l.cs[k]? =VU d→m c g=m g (img m s d e))∧Rel m e P s
section
variable {α:Type}{S:α→Prop}{m:α→α→α}{e:α}
theorem zWp(h:Mon S m e):∀(P:Pcp)(s:List α),Ok P→(∀g∈s,S g)→Rel m e P s→ ∀x y,V P x→V P y→img m s (mul P x y) e=m (img m s x e) (img m s y e)
 | [],s,_,_,hr,x,y,hx,hy=>by simp only[Rel]at hr;subst hr;simp[img,h.onel h.ein]
 |l::P,[],_,_,hr,_,_,_,_=>by grind[Rel]
 |l::P,g::s,_,_,_,[],_,hx,_=>by grind[V]
 |l::P,g::s,_,_,_,_::_,[],_,hy=>by grind[V]
 |l::P,g::s,hk,hs,hr,a::x,b::y,hx,hy=>by
  simp only[Ok]at hk;simp only[Rel]at hr;simp only[V]at hx hy;obtain⟨ho,hw,gK,gW,dT⟩:=hk;obtain⟨ez,eT,fk⟩:=hr;have hg:S g:=hs g (by simp);have pT:∀c∈s,S c:=by grind
  have gm:s.length=P.length:=by
   clear ez eT hx hy hw gK gW hs pT
   induction P generalizing s with
   |nil=>grind[Rel]
   |cons l P ih=>
    cases s with
    |nil=>grind[Rel]
    |cons c s=>grind[Rel,Ok]
  have ih:=zWp h P s dT pT fk;have hφ:∀v,S (img m s v e):=fun v=>zFm h s v pT h.ein
  have hmP:∀{a b},V P a→V P b→V P (mul P a b):=uD dT;have bR:∀v,V P v→V P (img (mul P) l.cs v (zeros P.length)):=fun v hv=>zAZ hmP l.cs v gW (tO dT)
  have hσ:∀v,V P v→m (img m s v e) g=m g (img m s (img (mul P) l.cs v (zeros P.length)) e):=by
   intro v hv;have key:∀(cs:List Vec)(v:Vec)(acc:Vec),(∀c∈cs,V P c)→V P acc→img m s (img (mul P) cs v acc) e=img m (cs.map fun c=>img m s c e) v (img m s acc e):=by
    intro cs
    induction cs with
    |nil=>grind[img]
    |cons c cs ihc=>
     intro v acc hc hacc;cases v with
     |nil=>simp[img]
     |cons z v=>
      have gf:V P c:=hc c (by simp);have it:∀k acc,V P acc→img m s (iter k (fun v=>mul P v c) acc) e=iter k (fun v=>m v (img m s c e)) (img m s acc e):=by
       intro k
       induction k with
       |zero=>intro acc _;rfl
       |succ k ihk=>
        simp_all[iter]
      simp only[img,Jh];rw[ihc v _ (by simp_all) (jT (by grind) _ hacc),it _ _ hacc]
   rw[key l.cs v (zeros P.length) gW (tO dT),zDe];refine zGQ h hg s _ v pT (by simp_all) (by grind) ?_;intro k c d hc hd;simp only[Jr,Kg]at hd;obtain⟨d',mg,rfl⟩:=hd
   grind
  have hσk:∀k v,V P v→m (img m s v e) (pw m e g k)=m (pw m e g k) (img m s (iter k (fun v=>img (mul P) l.cs v (zeros P.length)) v) e):=by
   intro k
   induction k with
   |zero=>intro v _;simp[pw,iter,h.onel (hφ v),h.oner (hφ v)]
   |succ k ihk=>
    intro v hv;rw[zPq h hg,←h.assoc (hφ v) hg (sN h hg k),hσ v hv,h.assoc hg (hφ _) (sN h hg k),ihk _ (bR v hv),←h.assoc hg (sN h hg k) (hφ _)];rfl
  have fx:=sN h hg a.toNat;have dO:=sN h hg b.toNat;have fC:V P (iter b.toNat (fun v=>img (mul P) l.cs v (zeros P.length)) x):=jT bR _ hx.2;have dl:m (img m (g::s) (a::x) e) (img m (g::s) (b::y) e)=m (pw m e g (a.toNat+b.toNat)) (img m s (mul P (iter b.toNat (fun v=>img (mul P) l.cs v (zeros P.length)) x) y) e):=by rw[kN h hg pT,kN h hg pT,h.assoc fx (hφ x) (h.cl dO (hφ y)),←h.assoc (hφ x) dO (hφ y),hσk _ _ hx.2,h.assoc dO (hφ _) (hφ y),←ih _ _ fC hy.2,←h.assoc fx dO (hφ _),zGP h hg]
  rw[dl];simp only[mul];split
  ·rename_i hge
   rw[kN h hg pT,ih _ _ hw (hmP fC hy.2),←ez,←h.assoc (sN h hg _) (sN h hg _) (hφ _),←zGP h hg]
   congr 2
   omega
  ·rw[kN h hg pT]
   congr 2
   omega
end
def zAb(n j:Nat):Vec:=(zeros n).set j 1
def sig(P:Pcp)(l:Lvl)(v:Vec):Vec:=img (mul P) l.cs v (zeros P.length)
def qE:Pcp→Prop
 | []=>True
 |l::P=>qE P∧Rel (mul P) (zeros P.length) P l.cs∧sig P l l.w=l.w∧ ∀j,j<P.length→mul P l.w (iter l.o.toNat (sig P l) (zAb P.length j))=mul P (zAb P.length j) l.w
theorem zIg(n:Nat):zAb (n+1) 0=1::zeros n:=rfl
theorem zN9(n j:Nat):zAb (n+1) (j+1)=0::zAb n j:=rfl
def jR(n:Nat):List Vec:=(Jq n).map (zAb n)
theorem zLl(n:Nat):jR (n+1)=(1::zeros n)::(jR n).map (0::·):=by
 simp only[jR,Gu,Jh,Qv,zIg]
 congr 1
theorem zFn:∀{P:Pcp},Ok P→ ∀{j:Nat},j<P.length→V P (zAb P.length j)
 | [],_,_,hj=>by simp at hj
 |l::P,h,0,_=>by grind[Ok,zIg,V,tO]
 |l::P,h,j+1,hj=>by simp only[Ok]at h;rw[K5,zN9];simp only[V];exact⟨by omega,zFn h.2.2.2.2 (by grind)⟩
theorem zJe{l:Lvl}{P:Pcp}(h:Ok (l::P)){v:Vec}(_hv:V P v):V P (sig P l v):=by simp only[Ok]at h;exact zAZ (uD h.2.2.2.2) l.cs v h.2.2.2.1 (tO h.2.2.2.2)
theorem wC(l:Lvl)(P:Pcp)(a b:Int)(x y:Vec):mul (l::P) (a::x) (b::y)=if a+b≥l.o then(a+b-l.o)::mul P l.w (mul P (iter b.toNat (sig P l) x) y)else(a+b)::mul P (iter b.toNat (sig P l) x) y:=rfl
theorem zNA{n k:Nat}{c:Vec}(h:(jR n)[k]? =VU c):k<n∧c=zAb n k:=by
 simp only[jR,Jr,Kg]at h
 grind
theorem normal:∀(P:Pcp),Ok P→(∀Q,Q<:+P→Mon (V Q) (mul Q) (zeros Q.length))→ ∀x,V P x→img (mul P) (jR P.length) x (zeros P.length)=x
 | [],_,_,x,hx=>by grind[V,img,zeros]
 |l::P,_,_,[],hx=>by grind[V]
 |l::P,h,hM,a::x,hx=>by
  have hMl:=hM (l::P) (List.suffix_refl _);have hMP:=hM P (by simp);have h':=h;simp only[Ok]at h;simp only[V]at hx;rw[K5,zLl];have hz:V P (zeros P.length):=tO h.2.2.2.2;have dK:V (l::P) (1::zeros P.length):=by grind[V]
  have fj:∀c∈(jR P.length).map (0::·),V (l::P) c:=by
   intro c hc;simp only[jR,Qv,Jb,L3]at hc;obtain⟨j,hj,rfl⟩:=hc;simp only[Function.comp,V]
   grind[zFn]
  have dF:V (l::P) (zeros (P.length+1)):=by grind[tO]
  rw[show zeros (P.length+1)=zeros (l::P).length from rfl];rw[kN hMl dK fj];have sz:∀k:Nat,iter k (sig P l) (zeros P.length)=zeros P.length:=by
   intro k
   induction k with
   |zero=>rfl
   |succ k ih=>grind[iter,sig,zDe]
  have h1:∀k:Nat,(k:Int)<l.o→pw (mul (l::P)) (zeros (l::P).length) (1::zeros P.length) k=(k:Int)::zeros P.length:=by
   intro k
   induction k with
   |zero=>intro _;rfl
   |succ k ih=>
    intro hk;rw[pw,qU];show mul (l::P) (pw (mul (l::P)) (zeros (l::P).length) (1::zeros P.length) k) (1::zeros P.length)=_;rw[ih (by omega),wC,if_neg (by omega)];rw[sz,hMP.onel hz];rfl
  have h2:∀(cs:List Vec)(y acc:Vec),(∀c∈cs,V P c)→V P acc→img (mul (l::P)) (cs.map (0::·)) y (0::acc)=0::img (mul P) cs y acc:=by
   intro cs
   induction cs with
   |nil=>grind[img]
   |cons c cs ih=>
    intro y acc hc hacc;cases y with
    |nil=>simp[img]
    |cons z y=>
     have gf:V P c:=hc c (by simp);have it:∀(k:Nat)(acc:Vec),V P acc→iter k (fun v=>mul (l::P) v (0::c)) (0::acc)=0::iter k (fun v=>mul P v c) acc:=by
      intro k
      induction k with
      |zero=>intro _ _;rfl
      |succ k ihk=>
       intro acc hacc;simp only[iter];rw[wC,if_neg (by omega)];exact ihk _ (uD h.2.2.2.2 hacc gf)
     simp only[Jh,img];rw[it _ _ hacc,ih _ _ (by grind) (jT (by grind[uD]) _ hacc)]
  have po:∀c∈jR P.length,V P c:=by
   intro c hc;simp only[jR,Jb,L3]at hc;obtain⟨j,hj,rfl⟩:=hc
   grind[zFn]
  rw[h1 a.toNat (by omega),show zeros (l::P).length=0::zeros P.length from rfl,h2 _ _ _ po hz,normal P h.2.2.2.2 (by grind) x hx.2,wC,if_neg (by omega)];simp only[Lu,iter];rw[hMP.onel hx.2]
  grind
theorem zMK:∀(P:Pcp),Ok P→qE P→Grp (V P) (mul P) (zeros P.length)
 | [],_,_=>by
  refine⟨⟨fun _ _=>rfl,rfl,fun _ _ _=>rfl,?_,?_⟩,fun ha=>⟨[],rfl,rfl⟩⟩<;>
  ·intro a ha
   simp only[V]at ha;subst ha;rfl
 |l::P,h,hc=>by
  have h':=h;simp only[Ok]at h;simp only[qE]at hc;obtain⟨ho,hw,gK,gW,hP⟩:=h;obtain⟨VJ,mL,dv,dt⟩:=hc;have N:=zMK P hP VJ;have hM:∀Q,Q<:+P→Mon (V Q) (mul Q) (zeros Q.length):=by
   intro Q hQ;obtain⟨t,ht⟩:=hQ;have:Ok Q∧qE Q:=by
    clear N hw gK gW mL dv dt h'
    induction t generalizing P with
    |nil=>grind
    |cons a t ih=>
     simp at ht;subst ht;simp only[Ok]at hP;simp only[qE]at VJ
     grind
   have gI:SizeOf.sizeOf Q≤SizeOf.sizeOf P:=by
    rw[←ht]
    clear N hw gK gW mL dv dt h' hP VJ ht this
    induction t with
    |nil=>simp
    |cons a t ih=>grind
   exact(zMK Q this.1 this.2).toMon
  have hz:V P (zeros P.length):=tO hP;have σin:∀v,V P v→V P (sig P l v):=by grind[zJe]
  have σhom:∀x y,V P x→V P y→sig P l (mul P x y)=mul P (sig P l x) (sig P l y):=fun x y hx hy=>zWp N.toMon P l.cs hP gW mL x y hx hy
  have σz:sig P l (zeros P.length)=zeros P.length:=zDe _ _ _ _;have itin:∀(k:Nat) v,V P v→V P (iter k (sig P l) v):=fun k v hv=>jT σin k hv
  have ithom:∀(k:Nat) x y,V P x→V P y→iter k (sig P l) (mul P x y)=mul P (iter k (sig P l) x) (iter k (sig P l) y):=by
   intro k
   induction k with
   |zero=>intro _ _ _ _;rfl
   |succ k ih=>simp_all[iter]
  have itz:∀k:Nat,iter k (sig P l) (zeros P.length)=zeros P.length:=by
   intro k
   induction k with
   |zero=>rfl
   |succ k ih=>grind[iter]
  have itw:∀k:Nat,iter k (sig P l) l.w=l.w:=by
   intro k
   induction k with
   |zero=>rfl
   |succ k ih=>grind[iter]
  have po:∀c∈jR P.length,V P c:=by
   intro c hc;simp only[jR,Jb,L3]at hc;obtain⟨j,hj,rfl⟩:=hc
   grind[zFn]
  have inner:∀x,V P x→mul P x l.w=mul P l.w (iter l.o.toNat (sig P l) x):=by
   intro x hx;have hnf:=normal P hP hM x hx;have bf:=zMJ N.toMon N.toMon (iter l.o.toNat (sig P l)) (by grind) (itz _) (by grind) (jR P.length) x po;rw[←hnf,bf];refine zGQ N.toMon hw _ _ x po (by simp_all) (by simp) ?_;intro k c d hc hd;rw[Jr,Kg]at hd;obtain⟨c',pI,rfl⟩:=hd;rw[hc]at pI;simp at pI;subst pI;obtain⟨hk,rfl⟩:=zNA hc
   grind
  have e:∀(x y z:Vec)(b c:Int),V P x→V P y→V P z→0≤b→0≤c→
    mul P (iter c.toNat (sig P l) (mul P (iter b.toNat (sig P l) x) y)) z=mul P (iter (b+c).toNat (sig P l) x) (mul P (iter c.toNat (sig P l) y) z)∧
    mul P (iter c.toNat (sig P l) (mul P l.w (mul P (iter b.toNat (sig P l) x) y))) z=mul P l.w (mul P (iter (b+c).toNat (sig P l) x) (mul P (iter c.toNat (sig P l) y) z))∧
    (l.o≤b+c→mul P (iter (b+c-l.o).toNat (sig P l) x) (mul P l.w (mul P (iter c.toNat (sig P l) y) z))=mul P l.w (mul P (iter (b+c).toNat (sig P l) x) (mul P (iter c.toNat (sig P l) y) z))):=by
   intro x y z b c hx hy hz hb hcc;have VK:=itin b.toNat x hx;have hcy:=itin c.toNat y hy;have hbc:iter c.toNat (sig P l) (iter b.toNat (sig P l) x)=iter (b+c).toNat (sig P l) x:=by rw[←zE4];congr 1;omega
   have VM:=itin (b+c).toNat x hx;have e1:mul P (iter c.toNat (sig P l) (mul P (iter b.toNat (sig P l) x) y)) z=mul P (iter (b+c).toNat (sig P l) x) (mul P (iter c.toNat (sig P l) y) z):=by rw[ithom _ _ _ VK hy,hbc,N.assoc VM hcy hz]
   refine⟨e1,?_,?_⟩
   ·rw[ithom _ _ _ hw (N.cl VK hy),itw,N.assoc hw (itin _ _ (N.cl VK hy)) hz,e1]
   ·intro hge
    have dy:=N.cl hcy hz;rw[←N.assoc (itin _ x hx) hw dy,inner _ (itin _ x hx),←zE4,N.assoc hw (itin _ x hx) dy]
    congr 3
    omega
  refine⟨⟨by grind[uD],tO h',?_,?_,?_⟩,?_⟩
  ·intro A B C hA hB hC
   match A,B,C,hA,hB,hC with
   |a::x,b::y,c::z,hA,hB,hC=>
    simp only[V]at hA hB hC;obtain⟨e1,e2,e3⟩:=e x y z b c hA.2 hB.2 hC.2 hB.1.1 hC.1.1
    by_cases c1:a+b≥l.o<;>by_cases c2:b+c≥l.o
    ·rw[wC,if_pos c1,wC l P b c,if_pos c2,wC,wC,e2,e3 c2]
     grind
    ·rw[wC,if_pos c1,wC l P b c,if_neg c2,wC,wC,e2,if_neg (by omega),if_pos (by omega)]
     grind
    ·rw[wC,if_neg c1,wC l P b c,if_pos c2,wC,wC,e1,e3 c2,if_pos (by omega),if_neg (by omega)]
     grind
    ·rw[wC,if_neg c1,wC l P b c,if_neg c2,wC,wC,e1]
     grind
  ·intro A hA
   match A,hA with
   |a::x,hA=>
    simp only[V]at hA;show mul (l::P) (0::zeros P.length) (a::x)=_;rw[wC,if_neg (by omega),itz,N.onel hA.2,Hd]
  ·intro A hA
   match A,hA with
   |a::x,hA=>
    simp only[V]at hA;show mul (l::P) (a::x) (0::zeros P.length)=_;rw[wC,if_neg (by omega)];simp only[Lu,iter];rw[N.oner hA.2,Hx]
  ·intro A hA
   match A,hA with
   |a::x,hA=>
    simp only[V]at hA
    by_cases ha:a=0
    ·obtain⟨y,hy,h1⟩:=N.inv hA.2
     refine⟨0::y,by simp only[V];grind,?_⟩;rw[wC,if_neg (by omega)];simp only[Lu,iter];rw[h1,ha];rfl
    ·have bS:=itin (l.o-a).toNat x hA.2
     obtain⟨y,hy,h1⟩:=N.inv (N.cl hw bS);refine⟨(l.o-a)::y,by simp only[V];grind,?_⟩;rw[wC,if_pos (by omega),←N.assoc hw bS hy,h1,show a+(l.o-a)-l.o=0 by omega];rfl
termination_by P=>P
end Go.Pc

namespace Go.Pc
end Go.Pc

namespace Go.Pc
end Go.Pc

namespace Go.Pc
end Go.Pc

namespace Go.Pc
end Go.Pc

namespace Go.Pc
end Go.Pc

namespace Go.Pc
end Go.Pc

namespace Go.Pc
section
variable {A:Type}
end
end Go.Pc

namespace Go.Pc
end Go.Pc

namespace Go.Pc
end Go.Pc

namespace Go.Pc
end Go.Pc

namespace Go.Pl
open Go Go.Ab
theorem bs{α β:Type}(x:α)(f:α→Option β):(VU x).bind f=f x:=by simp only[Option.bind_some]
theorem zR{α:Type}(x y:α):cond VW x y=x:=by simp only[cond_true]
theorem zT{α:Type}(x y:α):cond VX x y=y:=by simp only[cond_false]
theorem zL{n:Int}(h1:-9223372036854775808≤n)(h2:n≤9223372036854775807):rng n=VU n:=by unfold rng;rw[if_pos];simp only[inR,J1,decide_eq_true_eq];omega
theorem qC{α:Type}(xs:List α)(i:Nat):ixO xs (i:Int)=xs[i]?:=by unfold ixO;rw[if_pos (by omega)];simp
theorem jU{α:Type}{xs:List α}{i:Nat}(h:i<xs.length):ixO xs (i:Int)=VU xs[i]:=by rw[qC];exact J5 h
theorem uE{n:Nat}(h:n≤68719476736):yW (n:Int)=VU n:=by unfold yW;rw[if_pos (by omega)];simp
theorem vP{α:Type}{xs ys:List α}(h:xs.length+ys.length≤68719476736):xC xs ys=VU (xs++ys):=by unfold xC;rw[if_pos h]
theorem yB{σ ρ:Type}{body:σ→Option (σ⊕ρ)}{r:ρ}(S:Nat→σ)(n:Nat)(h:∀i,i<n→body (S i)=VU (.inl (S (i+1))))(he:body (S n)=VU (.inr r)):zI body (S 0)=VU r:=by
 have key:∀k i,i+k=n→zI body (S i)=VU r:=by
  intro k
  induction k with
  |zero=>intro i hi;rw[xW,show i=n from by omega,he]
  |succ k ih=>intro i hi;rw[xW,h i (by omega)];exact ih (i+1) (by omega)
 exact key n 0 (by omega)
theorem zAn{σ ρ:Type}{body:σ→Option (σ⊕ρ)}{Q:ρ→Prop}(I:Nat→σ→Prop)(n:Nat)(h:∀i s,i<n→I i s→(∃s',body s=VU (.inl s')∧I (i+1) s')∨ ∃r,body s=VU (.inr r)∧Q r)
  (he:∀s,I n s→ ∃r,body s=VU (.inr r)∧Q r){s:σ}(h0:I 0 s):∃r,zI body s=VU r∧Q r:=by
 have key:∀k i s,i+k=n→I i s→ ∃r,zI body s=VU r∧Q r:=by
  intro k
  induction k with
  |zero=>
   intro i s hi hs;obtain rfl:i=n:=by omega
   obtain⟨r,h1,h2⟩:=he s hs;exact⟨r,by rw[xW,h1],h2⟩
  |succ k ih=>
   intro i s hi hs;rcases h i s (by omega) hs with⟨s',h1,h2⟩|⟨r,h1,h2⟩
   ·rw[xW,h1];exact ih (i+1) s' (by omega) h2
   ·exact⟨r,by rw[xW,h1],h2⟩
 exact key n 0 s (by omega) h0
def zML{ρ:Type}:Option ρ→Unit⊕ρ
 |none=>.inl ()
 |some r=>.inr r
theorem cs(i:Nat):(i:Int)+1=((i+1:Nat):Int):=by omega
theorem zNB{ρ:Type}{body:Int→Option (Int⊕(Unit⊕ρ))}(n:Nat)(t:Nat→Option ρ)(i0:Nat)(hn:i0≤n)
  (h:∀i,i0≤i→i<n→(∀j,i0≤j→j<i→t j=VV)→body (i:Int)=VU (match t i with|none=>.inl ((i+1:Nat):Int)|some r=>.inr (.inr r)))
  (he:(∀j,i0≤j→j<n→t j=VV)→body (n:Int)=VU (.inr (.inl ()))):
  zI body (i0:Int)=VU (zML ((Gg i0 (n-i0)).findSome? t)):=by
 have key:∀k i,i0≤i→i+k=n→(∀j,i0≤j→j<i→t j=VV)→zI body (i:Int)=VU (zML ((Gg i k).findSome? t)):=by
  intro k
  induction k with
  |zero=>
   intro i hi hk hp;obtain rfl:i=n:=by omega
   rw[xW,he hp];rfl
  |succ k ih=>
   intro i hi hk hp;rw[xW,h i hi (by omega) hp,Q9,Ug];cases ht:t i with
   |some r=>rfl
   |none=>
    simp only
    exact ih (i+1) (by omega) (by omega) fun j h1 h2=>by
     rcases Jt j i with h3|h3
     ·exact hp j h1 h3
     ·rw[show j=i from by omega];exact ht
 exact key (n-i0) i0 (Jf _) (by omega) fun j h1 h2=>by omega
theorem zPr{n:Nat}{b:Nat→Bool}:zML ((Gg 0 n).findSome? (fun i=>if b i then VV else VU VX))=if(Jq n).all b then .inl ()else .inr VX:=by
 have key:∀l:List Nat,zML (l.findSome? (fun i=>if b i then VV else VU VX))=if l.all b then .inl ()else .inr VX:=by
  intro l
  induction l with
  |nil=>rfl
  |cons x l ih=>
   rw[Ug,Ux];cases hb:b x
   ·rfl
   ·simpa using ih
 rw[key,List.range_eq_range']
theorem zNC{body:Int→Option (Int⊕(Unit⊕Bool))}(n:Nat)(b:Nat→Bool)
  (h:∀i,i<n→(∀j,j<i→b j=VW)→body (i:Int)=VU (if b i then .inl ((i+1:Nat):Int)else .inr (.inr VX)))
  (he:(∀j,j<n→b j=VW)→body (n:Int)=VU (.inr (.inl ()))):
  zI body 0=VU (if(Jq n).all b then .inl ()else .inr VX):=by
 have:=zNB (body:=body) n (fun i=>if b i then VV else VU VX) 0 (K6 _) (fun i _ hi hp=>by
  rw[h i hi fun j hj=>by
   have:=hp j (K6 _) hj;split at this
   ·assumption
   ·cases this]
  cases b i<;>rfl) (fun hp=>he fun j hj=>by
   have:=hp j (K6 _) hj;split at this
   ·assumption
   ·cases this)
 rw[Ut]at this;exact this.trans (congrArg VU (zPr (n:=n) (b:=b)))
theorem zPs{α:Type}{xs:List α}{z:α}{i:Nat}(h:i<xs.length):(xs.take i++J2 (xs.length-i) z).set i xs[i]=xs.take (i+1)++J2 (xs.length-(i+1)) z:=by
 have h1:(xs.take i).length=i:=by rw[Kj];omega
 rw[Lq _ _ (by omega),h1,Kc,show xs.length-i=(xs.length-(i+1))+1 from by omega,Km,Kn,Jk h];simp only[Jd,Kx]
theorem zJf{α:Type}{f:α→Option α}{body:List α×Int→Option ((List α×Int)⊕List α)}{x0:List α}{z:α}
  (hb:∀s,body s=cond (decide (s.2<(x0.length:Int))) ((ixO x0 s.2).bind fun v2=>(f v2).bind fun r3=>(ixO s.1 s.2).bind fun _=>(rng (s.2+1)).bind fun v5=>VU (.inl (s.1.set s.2.toNat r3,v5))) (VU (.inr s.1)))
  (hl:x0.length≤68719476736)(hf:∀x∈x0,f x=VU x):zI body (J2 x0.length z,0)=VU x0:=by
 have:=yB (body:=body) (r:=x0) (fun i=>(x0.take i++J2 (x0.length-i) z,(i:Int))) x0.length (fun i hi=>by
  rw[hb];simp only[VZ (show((i:Int))<(x0.length:Int)from by omega),zR];rw[jU hi,qC];simp only[bs,hf _ (K7 hi)];rw[J5 (by simp;omega),bs,zL (by omega) (by omega),bs];simp only[Jl,zPs hi,cs]) (by
  rw[hb];simp only[VY (show¬((x0.length:Int))<(x0.length:Int)from by omega),zT,Ha,Kc,Hk,Ja])
 simpa using this
theorem zRF{α:Type}[BEq α]{t:α→α→Option Bool}{body:Int→Option (Int⊕(Unit⊕Bool))}{x y:List α}
  (hb:∀i,body i=cond (decide (i<(x.length:Int))) ((ixO x i).bind fun v1=>(ixO y i).bind fun v2=>(t v1 v2).bind fun r3=>cond (!r3) (VU (.inr (.inr VX))) ((rng (i+1)).bind fun v4=>VU (.inl v4))) (VU (.inr (.inl ()))))
  (hl:x.length≤68719476736)(pK:x.length=y.length)(ht:∀u∈x,∀v∈y,t u v=VU (u==v)):zI body 0=VU (if x==y then .inl ()else .inr VX):=by
 have h:=zNC (body:=body) x.length (fun i=>match x[i]?,y[i]? with|some u,VU v=>u==v|_,_=>VW) (fun i hi _=>by
  have ek:i<y.length:=by omega
  rw[hb];simp only[VZ (show((i:Int))<(x.length:Int)from by omega),zR];rw[jU hi,jU ek];simp only[bs,ht _ (K7 hi) _ (K7 ek),J5 hi,J5 ek];cases x[i]==y[i]
  ·rfl
  ·simp only[Jg,zT,if_true]
   rw[zL (by omega) (by omega),cs];rfl) (fun _=>by
  rw[hb];simp only[VY (show¬((x.length:Int))<(x.length:Int)from by omega),zT])
 rw[h]
 congr 2
 have key:∀(x y:List α),x.length=y.length→((Jq x.length).all (fun i=>match x[i]?,y[i]? with|some u,VU v=>u==v|_,_=>VW))=(x==y):=by
  intro x
  induction x with
  |nil=>intro y hy;cases y with|nil=>rfl|cons _ _=>simp at hy
  |cons u x ih=>
   intro y hy;cases y with
   |nil=>simp at hy
   |cons v y=>
    rw[K5,Gu,Ux,List.all_map];simp only[Gm,Function.comp_def,Uy];rw[ih y (by simpa using hy)];rfl
 rw[key x y pK]
theorem zIh{α:Type}[BEq α]{t:α→α→Option Bool}{f:Option Bool}{body:Int→Option (Int⊕(Unit⊕Bool))}{x y:List α}
  (hf:f=cond ((x.length:Int) != (y.length:Int)) (VU VX) ((zI body 0).bind fun r=>match r with|.inl _=>VU VW|.inr r=>VU r))
  (hb:∀i,body i=cond (decide (i<(x.length:Int))) ((ixO x i).bind fun v1=>(ixO y i).bind fun v2=>(t v1 v2).bind fun r3=>cond (!r3) (VU (.inr (.inr VX))) ((rng (i+1)).bind fun v4=>VU (.inl v4))) (VU (.inr (.inl ()))))
  (hl:x.length≤68719476736)(ht:∀u∈x,∀v∈y,t u v=VU (u==v)):f=VU (x==y):=by
 rw[hf]
 by_cases pK:x.length=y.length
 ·rw[zRF hb hl pK ht]
  have:((x.length:Int) != (y.length:Int))=VX:=by simp[pK]
  rw[this];cases x==y<;>rfl
 ·have:((x.length:Int) != (y.length:Int))=VW:=by simp;omega
  rw[this];have h2:(x==y)=VX:=by
   have key:∀(x y:List α),x.length≠y.length→(x==y)=VX:=by
    intro x
    induction x with
    |nil=>intro y hy;cases y with|nil=>simp at hy|cons _ _=>rfl
    |cons u x ih=>
     intro y hy;cases y with
     |nil=>rfl
     |cons v y=>
      show(u==v&&x==y)=VX;rw[ih y (by simpa using hy),Bool.and_false]
   exact key x y pK
  rw[h2];rfl
end Go.Pl

namespace Go.Pl
open Go Go.Ab
def sm{α:Type}(c:α→Nat):List α→Nat
 | []=>0
 |x::xs=>c x+sm c xs
theorem zDf{α:Type}(c:α→Nat):∀xs ys:List α,sm c (xs++ys)=sm c xs+sm c ys
 | [],ys=>by simp[sm]
 |x::xs,ys=>by simp only[L7,sm,zDf c xs ys];omega
theorem zGa{α:Type}(c:α→Nat){xs:List α}{i:Nat}(h:i<xs.length):sm c (xs.take (i+1))=sm c (xs.take i)+c xs[i]:=by grind[Jk,zDf,sm]
theorem zCi{α:Type}(c:α→Nat)(xs:List α)(i:Nat):sm c (xs.take i)≤sm c xs:=by grind[zDf,List.take_append_drop]
theorem zPt{α:Type}(c:α→Nat){xs:List α}{x:α}(h:x∈xs):c x≤sm c xs:=by
 obtain⟨i,hi,rfl⟩:=Kh.1 h;have:=zGa c hi
 grind[zCi]
def szR(c:Nat)(b:Int):Int:=if(c:Int)≤b then b-c else -1
theorem zTx{α:Type}{c:α→Nat}{t:α→Int→Option Int}{f:Option Int}{body:Int×Int→Option ((Int×Int)⊕(Int⊕Int))}{xs:List α}{b:Int}
  (hf:f=(rng (b-(xs.length:Int))).bind fun v1=>cond (decide (v1<0)) (VU (-1)) ((zI body (v1,0)).bind fun r=>match r with|.inl r=>VU r|.inr r=>VU r))
  (hb:∀s,body s=cond (decide (s.2<(xs.length:Int))) ((ixO xs s.2).bind fun v2=>(t v2 s.1).bind fun r3=>cond (decide (r3<0)) (VU (.inr (.inr (-1)))) ((rng (s.2+1)).bind fun v4=>VU (.inl (r3,v4)))) (VU (.inr (.inl s.1))))
  (hl:xs.length≤9223372036854775807)(b0:0≤b)(b1:b≤1048576)(ht:∀x∈xs,∀b',0≤b'→b'≤1048576→t x b'=VU (szR (c x) b')):f=VU (szR (xs.length+sm c xs) b):=by
 rw[hf,zL (by omega) (by omega),bs]
 by_cases h0:b-(xs.length:Int)<0
 ·rw[VZ h0,zR,szR,if_neg (by omega)]
 ·rw[VY h0,zT]
  obtain⟨r,h1,h2⟩:=zAn (body:=body) (Q:=fun r=>(match r with|.inl r=>VU r|.inr r=>VU r)=VU (szR (xs.length+sm c xs) b)) (fun i s=>s.2=(i:Int)∧0≤s.1∧s.1=b-xs.length-sm c (xs.take i)) xs.length (fun i s hi ⟨e1,e2,e3⟩=>by
   rw[hb,e1,VZ (by omega),zR,jU hi,bs,ht _ (K7 hi) _ e2 (by omega),bs];have h3:=zGa c hi;have h4:=zCi c xs (i+1);unfold szR
   by_cases h5:(c xs[i]:Int)≤s.1
   ·rw[if_pos h5,VY (by omega),zT,zL (by omega) (by omega),bs,cs]
    grind
   grind) (fun s ⟨e1,e2,e3⟩=>by
   rw[hb,e1,VY (by omega),zT];rw[Ha]at e3;refine⟨_,rfl,?_⟩;simp only
   rw[szR,if_pos (by omega),e3]
   grind) (s:=(b-(xs.length:Int),0)) ⟨rfl,by omega,by simp[sm]⟩
  grind
def mkL{α:Type}(m:Int→α→α)(c:α→Nat):Int→List α→List α
 |_,[]=>[]
 |k,x::xs=>m k x::mkL m c (k+c x) xs
theorem zDV{α:Type}(m:Int→α→α)(c:α→Nat):∀(xs ys:List α)(k:Int),mkL m c k (xs++ys)=mkL m c k xs++mkL m c (k+sm c xs) ys
 | [],ys,k=>by simp[mkL,sm]
 |x::xs,ys,k=>by
  simp only[L7,mkL,sm,zDV m c xs ys]
  grind
theorem sK{α:Type}(m:Int→α→α)(c:α→Nat):∀(xs:List α)(k:Int),(mkL m c k xs).length=xs.length
 | [],_=>rfl
 |x::xs,k=>by simp[mkL,sK m c xs]
theorem zMM{α:Type}(m:Int→α→α)(c:α→Nat){xs:List α}{i:Nat}(h:i<xs.length)(k:Int):(mkL m c k xs)[i]'(by grind[sK])=m (k+sm c (xs.take i)) xs[i]:=by
 have h1:xs=xs.take i++xs[i]::xs.drop (i+1):=by simp
 have h2:=zDV m c (xs.take i) (xs[i]::xs.drop (i+1)) k;rw[←h1]at h2;rw[List.getElem_of_eq h2]
 grind[sK,mkL]
theorem zDg{α:Type}{m:Int→α→α}{c:α→Nat}{t:α→Int→Option (Int×α)}{body:List α×Int×Int→Option ((List α×Int×Int)⊕(List α×Int))}{xs:List α}{k:Int}
  (hb:∀s,body s=cond (decide (s.2.2<(s.1.length:Int))) ((ixO s.1 s.2.2).bind fun v1=>(t v1 s.2.1).bind fun r2=>(rng (s.2.2+1)).bind fun v3=>VU (.inl (s.1.set s.2.2.toNat r2.2,r2.1,v3))) (VU (.inr (s.1,s.2.1))))
  (hl:xs.length≤1048576)(k0:0≤k)(k1:k+sm c xs≤9223372036854775807)(ht:∀x∈xs,∀k':Int,0≤k'→k'+c x≤9223372036854775807→t x k'=VU (k'+c x,m k' x)):zI body (xs,k,0)=VU (mkL m c k xs,k+sm c xs):=by
 have:=yB (body:=body) (r:=(mkL m c k xs,k+sm c xs)) (fun i=>(mkL m c k (xs.take i)++xs.drop i,k+sm c (xs.take i),(i:Int))) xs.length (fun i hi=>by
  have h1:=zGa c hi;have h2:=zCi c xs (i+1);have gm:(mkL m c k (xs.take i)).length=i:=by grind[sK]
  have hg:(mkL m c k (xs.take i)++xs.drop i)[i]? =VU xs[i]:=by grind
  rw[hb];simp only
  rw[VZ (by grind),zR,qC,hg,bs,ht _ (K7 hi) _ (by omega) (by omega),bs,zL (by omega) (by omega),bs,cs];simp only[Jl];rw[Lq _ _ (by omega),gm,Kc,Hh hi,Kn,Jk hi,zDV,zDf,Jd];simp only[mkL,sm,Kx,Gx]
  grind) (by
  rw[hb];simp only
  rw[VY (by grind[sK]),zT];simp)
 grind[mkL,sm]
theorem zIi{α:Type}{m:Int→α→α}{c:α→Nat}{t:α→Int→Option Int}{f:Option Int}{xs:List α}{k:Int}{body:Int×Int→Option ((Int×Int)⊕(Int⊕Int))}
  (hf:f=(zI body (k,0)).bind fun r=>match r with|.inl r=>VU r|.inr r=>VU r)
  (hb:∀s,body s=cond (decide (s.2<((mkL m c k xs).length:Int))) ((ixO (mkL m c k xs) s.2).bind fun v1=>(t v1 s.1).bind fun r2=>cond (decide (r2<0)) (VU (.inr (.inr (-1)))) ((rng (s.2+1)).bind fun v3=>VU (.inl (r2,v3)))) (VU (.inr (.inl s.1))))
  (hl:xs.length≤1048576)(k0:0≤k)(k1:k+sm c xs≤9223372036854775807)(ht:∀x∈xs,∀k':Int,0≤k'→k'+c x≤9223372036854775807→t (m k' x) k'=VU (k'+c x)):f=VU (k+sm c xs):=by
 have:=yB (body:=body) (r:=.inl (k+sm c xs)) (fun i=>(k+sm c (xs.take i),(i:Int))) xs.length (fun i hi=>by
  have h1:=zGa c hi;have h2:=zCi c xs (i+1);rw[hb];simp only
  rw[sK,VZ (by omega),zR,jU (by grind[sK]),bs,zMM m c hi,ht _ (K7 hi) _ (by omega) (by omega),bs,VY (by omega),zT,zL (by omega) (by omega),bs,cs,h1]
  grind) (by
  rw[hb];simp only
  rw[sK,VY (by omega),zT,Ha])
 rw[hf];simp only[Lb,sm]at this
 grind
end Go.Pl

namespace Go.Pl
open Go Go.Ab Go.Wk
abbrev VI(n:Int):Prop:=(Lit.int .i64 n).wf=VW
abbrev VL{α:Type}(V:α→Prop)(xs:List α):Prop:=xs.length≤maxLen∧ ∀x∈xs,V x
abbrev c1(x:List Int):Nat:=x.length
abbrev c2(x:List (List Int)):Nat:=x.length+sm c1 x
abbrev c3(x:List (List (List Int))):Nat:=x.length+sm c2 x
theorem zJZ{x:List Int}{b:Int}(hl:x.length≤9223372036854775807)(b0:0≤b)(b1:b≤1048576):zPT x b=VU (szR (c1 x) b):=by
 unfold zPT szR;rw[zL (by omega) (by omega),bs]
 grind
theorem zIj{x:List (List Int)}{b:Int}(h:VL (VL VI) x)(b0:0≤b)(b1:b≤1048576):zRR x b=VU (szR (c2 x) b):=
 zTx (c:=c1) rfl (fun _=>rfl) h.1 b0 b1 fun y hy _ h1 h2=>zJZ (h.2 y hy).1 h1 h2
theorem zGR{x:List (List (List Int))}{b:Int}(h:VL (VL (VL VI)) x)(b0:0≤b)(b1:b≤1048576):zRS x b=VU (szR (c3 x) b):=
 zTx (c:=c2) rfl (fun _=>rfl) h.1 b0 b1 (by grind[zIj])
abbrev S1(x:List Int):Prop:=c1 x≤1048576
abbrev S2(x:List (List Int)):Prop:=c2 x≤1048576
abbrev S3(x:List (List (List Int))):Prop:=c3 x≤1048576
theorem S2.mem{x:List (List Int)}(h:S2 x){y:List Int}(hy:y∈x):S1 y:=by
 have:=zPt c1 hy
 grind
theorem S3.mem{x:List (List (List Int))}(h:S3 x){y:List (List Int)}(hy:y∈x):S2 y:=by
 have:=zPt c2 hy
 grind
theorem S1.len{x:List Int}(h:S1 x):x.length≤1048576:=h
theorem S2.len{x:List (List Int)}(h:S2 x):x.length≤1048576:=by grind
theorem S3.len{x:List (List (List Int))}(h:S3 x):x.length≤1048576:=by grind
theorem zKa{x:List Int}(h:S1 x):zNS x=VU x:=by unfold zNS;rw[uE (Lh h (by decide)),bs,zJf (body:=zPU x) (f:=VU) (fun _=>rfl) (by grind) (fun _ _=>rfl),bs]
theorem zIk{x:List (List Int)}(h:S2 x):zNT x=VU x:=by unfold zNT;rw[uE (by grind),bs,zJf (body:=zPV x) (f:=zNS) (fun _=>rfl) (by grind) (fun _ hx=>zKa (h.mem hx)),bs]
theorem zGS{x:List (List (List Int))}(h:S3 x):zPX x=VU x:=by unfold zPX;rw[uE (by grind),bs,zJf (body:=zPW x) (f:=zNT) (fun _=>rfl) (by grind) (fun _ hx=>zIk (h.mem hx)),bs]
theorem zKb{x y:List Int}(h:S1 x):zQL x y=VU (x==y):=
 zIh (t:=fun u v=>VU (u==v)) (body:=zQK x y) rfl (fun _=>rfl) (by grind) fun _ _ _ _=>rfl
theorem zFo{x y:List (List Int)}(h:S2 x):zNX x y=VU (x==y):=
 zIh (t:=zQL) (body:=zQM x y) rfl (fun _=>rfl) (by grind) fun _ hu _ _=>zKb (h.mem hu)
theorem zGT{x y:List (List (List Int))}(h:S3 x):zSm x y=VU (x==y):=
 zIh (t:=zNX) (body:=zQN x y) rfl (fun _=>rfl) (by grind) fun _ hu _ _=>zFo (h.mem hu)
def m1(k:Int)(x:List Int):List Int:=mkL (fun k _=>k) (fun _=>1) k x
def m2(k:Int)(x:List (List Int)):List (List Int):=mkL m1 c1 k x
def m3(k:Int)(x:List (List (List Int))):List (List (List Int)):=mkL m2 (sm c1) k x
theorem zLm{α:Type}:∀xs:List α,sm (fun _=>1) xs=xs.length
 | []=>rfl
 |x::xs=>by simp[sm,zLm xs];omega
theorem zGU{x:List Int}{k:Int}(h:S1 x)(k0:0≤k)(k1:k+c1 x≤9223372036854775807):zNY x k=VU (k+c1 x,m1 k x):=by have h1:=zLm x;have:=zDg (m:=fun k _=>k) (c:=fun _=>1) (t:=fun v k=>(rng (k+1)).bind fun v2=>VU (v2,k)) (body:=zNm) (xs:=x) (k:=k) (by grind[zNm]) h.len k0 (by grind) (by grind[zL]);unfold zNY;rw[this,bs,h1];rfl
theorem zCK{x:List (List Int)}{k:Int}(h:S2 x)(k0:0≤k)(k1:k+sm c1 x≤9223372036854775807):f_R x k=VU (k+sm c1 x,m2 k x):=by unfold f_R;rw[zDg (body:=zUX) (m:=m1) (c:=c1) (t:=zNY) (fun _=>rfl) h.len k0 k1 fun y hy _ h1 h2=>zGU (h.mem hy) h1 h2,bs];rfl
theorem zE7{x:List (List (List Int))}{k:Int}(h:S3 x)(k0:0≤k)(k1:k+sm (sm c1) x≤9223372036854775807):zQP x k=VU (k+sm (sm c1) x,m3 k x):=by unfold zQP;rw[zDg (body:=zQO) (m:=m2) (c:=sm c1) (t:=f_R) (fun _=>rfl) h.len k0 k1 fun y hy _ h1 h2=>zCK (h.mem hy) h1 h2,bs];rfl
theorem zLn{x:List Int}{k:Int}(h:S1 x)(k0:0≤k)(k1:k+c1 x≤9223372036854775807):zQQ (m1 k x) k=VU (k+c1 x):=by
 have hl:=h.len;have dS:(m1 k x).length=x.length:=sK _ _ _ _;have:=yB (body:=zKP (m1 k x)) (r:=.inl (k+c1 x)) (fun i=>(k+(i:Int),(i:Int))) x.length (fun i hi=>by
  have hg:(m1 k x)[i]'(by omega)=k+sm (fun _=>1) (x.take i):=zMM _ _ hi _;unfold zKP;rw[VZ (by omega),zR,jU (by rw[dS];exact hi),bs,hg,zLm,Kj,Hb (by omega),show(k+(i:Int) != k+(i:Int))=VX from by simp,zT,zL (by omega) (by grind),bs,zL (by omega) (by omega),bs,cs]
  grind) (by
  unfold zKP
  grind)
 unfold zQQ
 grind
theorem zKc{x:List (List Int)}{k:Int}(h:S2 x)(k0:0≤k)(k1:k+sm c1 x≤9223372036854775807):zSr (m2 k x) k=VU (k+sm c1 x):=
 zIi (body:=zQR (m2 k x)) (m:=m1) (c:=c1) (t:=zQQ) rfl (fun _=>rfl) h.len k0 k1 fun _ hy _ h1 h2=>zLn (h.mem hy) h1 h2
def zMN(x:SPr):Prop:=VL VI x.zF∧VL (VL VI) x.yV∧VL (VL (VL VI)) x.zJ
def zRG(x:zS):Prop:=VI x.Prime∧VI x.Dim∧VL (VL (VL VI)) x.zP
def zKd(x:SPr):Nat:=c1 x.zF+c2 x.yV+c3 x.zJ
def zPu(x:zS):Nat:=c3 x.zP
def zD9(x:SPr):Prop:=S1 x.zF∧S2 x.yV∧S3 x.zJ
def zH0(x:zS):Prop:=S3 x.zP
theorem zKe{a b:Nat}{n:Int}:(szR a n<0∧szR (a+b) n= -1)∨(0≤szR a n∧szR a n≤n∧szR b (szR a n)=szR (a+b) n∧(a:Int)≤n)∨n<0:=by unfold szR;omega
theorem zGV{x:SPr}{b:Int}(h:zMN x)(b0:0≤b)(b1:b≤1048576):zRT x b=VU (szR (zKd x) b):=by
 obtain⟨h1,h2,h3⟩:=h;unfold zRT zKd;rw[zJZ h1.1 b0 b1,bs];rcases zKe (a:=c1 x.zF) (b:=c2 x.yV+c3 x.zJ) (n:=b)with⟨g1,g2⟩|⟨g1,g2,g3,g4⟩|g1
 ·grind
 ·rw[VY (by omega),zT,zIj h2 g1 (by omega),bs,Lf,←g3]
  generalize szR (c1 x.zF) b=b' at g1 g2
  rcases zKe (a:=c2 x.yV) (b:=c3 x.zJ) (n:=b')with⟨k1,k2⟩|⟨k1,k2,k3,k4⟩|k1
  ·grind
  ·rw[VY (by omega),zT,zGR h3 k1 (by omega),bs,←k3]
   generalize szR (c2 x.yV) b'=b'' at k1 k2
   unfold szR
   grind
  ·omega
 ·omega
theorem zPv{x:zS}{b:Int}(h:zRG x)(b0:0≤b)(b1:b≤1048576):zRU x b=VU (szR (zPu x) b):=by
 obtain⟨_,_,h3⟩:=h;unfold zRU zPu;rw[zGR h3 b0 b1,bs];unfold szR
 grind
theorem zMO{c:Nat}{b:Int}(_:0≤b)(b1:b≤1048576):(decide (szR c b<0)=VW)∨(decide (szR c b<0)=VX∧0≤szR c b∧szR c b≤1048576∧c≤1048576):=by
 unfold szR
 grind
theorem zD9.of{x:SPr}(h:zKd x≤1048576):zD9 x:=by unfold zKd at h;exact⟨by omega,by omega,by omega⟩
theorem zH0.of{x:zS}(h:zPu x≤1048576):zH0 x:=h
theorem zGW{x:SPr}(h:zD9 x):zLG x=VU x:=by unfold zLG;rw[zKa h.1,bs,zIk h.2.1,bs,zGS h.2.2,bs]
theorem zPw{x:zS}(h:zH0 x):zLH x=VU x:=by unfold zLH;rw[zGS h,bs]
theorem zPx{x:zS}(h:zH0 x):zSn x x=VU VW:=by unfold zSn;rw[zGT h,bs];simp
theorem zGX{x:SPr}(h:zD9 x):zSo x x=VU VW:=by unfold zSo;rw[zKb h.1,bs,zFo h.2.1,bs,zGT h.2.2,bs];simp
theorem zPy{x:List (List Int)}:sm c1 x≤c2 x:=by simp
theorem zMP{α:Type}{f g:α→Nat}(h:∀x,f x≤g x):∀xs:List α,sm f xs≤sm g xs
 | []=>Jf _
 |x::xs=>by have:=zMP h xs;grind[sm]
theorem zLo{x:List (List (List Int))}:sm (sm c1) x≤c3 x:=by
 have:=zMP (f:=sm c1) (g:=c2) (fun _=>zPy) x
 grind
theorem zLp{x:zS}{k:Int}(h:zH0 x)(k0:0≤k)(k1:k≤1000000000):zSq x k=VU (k+sm (sm c1) x.zP,zS.mk x.Prime x.Dim (m3 k x.zP)):=by
 have g3:=zLo (x:=x.zP);have h':=h;simp only[zH0,S3]at h'
 grind[zSq,zE7]
end Go.Pl

namespace Go.Pl
open Go Go.Ab Go.Wk
def IsB(o:Option Bool)(P:Prop):Prop:=(o=VU VW∧P)∨(o=VU VX∧ ¬P)
theorem IsB.iff{o:Option Bool}{P Q:Prop}(h:IsB o P)(hpq:P↔Q):IsB o Q:=by grind
theorem IsB.of_bool{b:Bool}{P:Prop}(h:b=VW↔P):IsB (VU b) P:=by
 cases b
 ·exact .inr (by grind)
 ·exact .inl ⟨rfl,h.1 rfl⟩
theorem chk{ρ:Type}{body:Int→Option (Int⊕(Unit⊕ρ))}(n i0:Nat)(hn:i0≤n)(P:Nat→Prop)(bad:Nat→ρ)
  (h:∀i,i0≤i→i<n→(∀j,i0≤j→j<i→P j)→(body (i:Int)=VU (.inl ((i+1:Nat):Int))∧P i)∨(body (i:Int)=VU (.inr (.inr (bad i)))∧ ¬P i))
  (he:body (n:Int)=VU (.inr (.inl ()))):
  (zI body (i0:Int)=VU (.inl ())∧ ∀j,i0≤j→j<n→P j)∨ ∃i,i0≤i∧i<n∧zI body (i0:Int)=VU (.inr (bad i))∧ ¬P i:=by
 have key:∀k i,i0≤i→i+k=n→(∀j,i0≤j→j<i→P j)→(zI body (i:Int)=VU (.inl ())∧ ∀j,i0≤j→j<n→P j)∨ ∃q,i0≤q∧q<n∧zI body (i:Int)=VU (.inr (bad q))∧ ¬P q:=by
  intro k
  induction k with
  |zero=>
   intro i hi hk hp;obtain rfl:i=n:=by omega
   grind[xW]
  |succ k ih=>
   intro i hi hk hp;rcases h i hi (by omega) hp with⟨h1,h2⟩|⟨h1,h2⟩
   ·have:=ih (i+1) (by omega) (by omega) (by grind)
    rw[xW,h1];exact this
   grind[xW]
 exact key (n-i0) i0 (Jf _) (by omega) fun j a b=>by omega
theorem kO{f:Option Bool}{body:Int→Option (Int⊕(Unit⊕Bool))}(n:Nat)(P:Nat→Prop)
  (hf:f=(zI body 0).bind fun r=>match r with|.inl _=>VU VW|.inr r=>VU r)
  (h:∀i,i<n→(∀j,j<i→P j)→(body (i:Int)=VU (.inl ((i+1:Nat):Int))∧P i)∨(body (i:Int)=VU (.inr (.inr VX))∧ ¬P i))
  (he:body (n:Int)=VU (.inr (.inl ()))):IsB f (∀i,i<n→P i):=by
 rcases chk n 0 (K6 _) P (fun _=>VX) (fun i _ hi hp=>h i hi fun j hj=>hp j (K6 _) hj) he with⟨h1,h2⟩|⟨i,_,hi,h1,h2⟩
 ·refine .inl ⟨?_,fun i hi=>h2 i (K6 _) hi⟩
  rw[hf];rw[show((0:Nat):Int)=0 from rfl]at h1;rw[h1,bs]
 ·refine .inr ⟨?_,fun hp=>h2 (hp i hi)⟩
  rw[hf];rw[show((0:Nat):Int)=0 from rfl]at h1;rw[h1,bs]
theorem tP{o:Option Bool}{P:Prop}{ρ:Type}{bad:ρ}{i:Nat}{g:Option (Int⊕(Unit⊕ρ))}(h:IsB o P)(hi:i<9223372036854775807)
  (hg:g=o.bind fun r=>cond (!r) (VU (.inr (.inr bad))) ((rng ((i:Int)+1)).bind fun v=>VU (.inl v))):(g=VU (.inl ((i+1:Nat):Int))∧P)∨(g=VU (.inr (.inr bad))∧ ¬P):=by
 subst hg;rcases h with⟨h1,h2⟩|⟨h1,h2⟩
 ·refine .inl ⟨?_,h2⟩
  rw[h1,bs,Jg,zT,zL (by omega) (by omega),bs,cs]
 grind
theorem wD{i n:Nat}(h:i<n):decide ((i:Int)<(n:Int))=VW:=by grind
theorem zBa{n:Nat}:decide ((n:Int)<(n:Int))=VX:=by simp
theorem zAC(x a b:Int):IsB (zLL x a b) (a≤x∧x≤b):=by
 unfold zLL
 by_cases h:x≥a
 ·rw[VZ h,zR];grind[IsB.of_bool]
 ·rw[VY h,zT];exact .inr ⟨rfl,by omega⟩
theorem zBy(x a b:Int):IsB (zHq x a b) (a≤x∧x≤b):=zAC x a b
def Prime(p:Int):Prop:=p=2∨p=3∨p=5∨p=7
theorem zCj(x:Int):IsB (zNU x) (Prime x):=by
 unfold zNU Prime
 by_cases h2:x=2
 ·subst h2;exact .inl ⟨rfl,.inl rfl⟩
 ·rw[show(x==2)=VX from by grind,zT]
  by_cases h3:x=3
  ·subst h3;exact .inl (by simp)
  ·rw[show(x==3)=VX from by grind,zT]
   by_cases h5:x=5
   ·subst h5;exact .inl (by simp)
   ·rw[show(x==5)=VX from by grind,zT]
    grind[IsB.of_bool]
theorem zDW(x:Int):IsB (zKD x) (Prime x):=zCj x
abbrev at0(v:List Int)(i:Nat):Int:=v.getD i 0
theorem xV{v:List Int}{i:Nat}(h:i<v.length):ixO v (i:Int)=VU (at0 v i):=by rw[jU h,at0,J7,J5 h];rfl
def zWq(os v:List Int):Prop:=v.length=os.length∧ ∀i,i<v.length→0≤at0 v i∧at0 v i≤at0 os i-1
def Exp(os v:List Int)(k:Nat):Prop:=zWq os v∧ ∀i,i≤k→at0 v i=0
def Os(os:List Int):Prop:=os.length≤14∧ ∀i,i<os.length→Prime (at0 os i)
theorem Prime.pos{p:Int}(h:Prime p):2≤p∧p≤7:=by unfold Prime at h;omega
theorem zFp{x:SPr}{v:List Int}(ho:Os x.zF):IsB (zSc x v) (zWq x.zF v):=by
 unfold zSc
 by_cases h:v.length=x.zF.length
 ·rw[show((v.length:Int) != (x.zF.length:Int))=VX from by simp[h],zT]
  have h6:=ho.1;refine(kO v.length (fun i=>0≤at0 v i∧at0 v i≤at0 x.zF i-1) rfl (fun i hi _=>?_) ?_).iff ⟨fun g=>⟨h,g⟩,fun g=>g.2⟩
  ·have hp:=(ho.2 i (by omega)).pos
   refine tP (zAC _ _ _) (by omega) ?_;unfold zNk;rw[wD hi,zR,xV hi,bs,xV (by omega),bs,zL (by omega) (by omega),bs]
  ·unfold zNk
   simp
 ·rw[show((v.length:Int) != (x.zF.length:Int))=VW from by simp;omega,zR]
  exact .inr ⟨rfl,fun g=>h g.1⟩
theorem zKf{v:List Int}(hl:v.length≤14):IsB (zQt v) (∀i,i<v.length→at0 v i=0):=by
 refine kO v.length (fun i=>at0 v i=0) rfl (fun i hi _=>?_) ?_
 ·refine tP (o:=VU (at0 v i==0)) (IsB.of_bool (by simp)) (by omega) ?_
  unfold zI5;rw[wD hi,zR,xV hi,bs,bs];rfl
 ·unfold zI5
  simp
theorem zCw{x:SPr}{k:Nat}{v:List Int}(ho:Os x.zF)(hk:k<x.zF.length):IsB (zQu x k v) (Exp x.zF v k):=by
 have h6:=ho.1;unfold zQu;rcases zFp (v:=v) ho with⟨h1,h2⟩|⟨h1,h2⟩
 ·have hl:=h2.1
  rw[h1,bs,zR,zL (by omega) (by omega),bs];have hs:yG v 0 ((k:Int)+1)=VU (v.take (k+1)):=by
   unfold yG
   grind
  rw[hs,bs];have hb:=zKf (v:=v.take (k+1)) (by grind);have du:(∀i,i<(v.take (k+1)).length→at0 (v.take (k+1)) i=0)↔Exp x.zF v k:=by
   have e:∀i,i≤k→at0 (v.take (k+1)) i=at0 v i:=by grind
   rw[Kj,Hb (by omega)];exact⟨fun g=>⟨h2,by grind⟩,fun g i hi=>by rw[e i (by omega)];exact g.2 i (by omega)⟩
  grind
 ·rw[h1,bs,zT]
  exact .inr ⟨rfl,fun g=>h2 g.1⟩
theorem zCL{os v:List Int}{k:Nat}(ho:Os os)(hk:k<os.length):IsB (zPY os v k) (Exp os v k):=by
 have h6:=ho.1;unfold zPY
 by_cases h:v.length=os.length
 ·rw[show((v.length:Int) != (os.length:Int))=VX from by simp[h],zT]
  refine(kO v.length (fun i=>(0≤at0 v i∧at0 v i≤at0 os i-1)∧(i≤k→at0 v i=0)) rfl (fun i hi _=>?_) ?_).iff ⟨fun g=>⟨⟨h,by grind⟩,by grind⟩,fun g i hi=>⟨g.1.2 i hi,fun hk=>g.2 i hk⟩⟩
  ·have hp:=(ho.2 i (by omega)).pos
   unfold zNh;rw[wD hi,zR,xV hi,bs,xV (by omega),bs,zL (by omega) (by omega),bs];rcases zBy (at0 v i) 0 (at0 os i-1)with⟨h1,h2⟩|⟨h1,h2⟩
   ·rw[h1,bs,Jg,zT]
    by_cases h3:(i:Int)≤(k:Int)
    ·rw[VZ h3,zR,bs]
     by_cases h4:at0 v i=0
     ·rw[show(at0 v i != 0)=VX from by grind,zT,zL (by omega) (by omega),bs,cs]
      grind
     grind
    ·rw[VY h3,zT,zL (by omega) (by omega),bs,cs]
     grind
   grind
  ·unfold zNh
   simp
 ·rw[show((v.length:Int) != (os.length:Int))=VW from by simp;omega,zR]
  exact .inr ⟨rfl,fun g=>h g.1.1⟩
end Go.Pl

namespace Go.Pl
open Go Go.Ab Go.Wk
theorem zXd{σ ρ:Type}{body:σ→Option (σ⊕(Unit⊕ρ))}(S:Nat→σ)(n i0:Nat)(hn:i0≤n)(P:Nat→Prop)(bad:Nat→ρ)
  (h:∀i,i0≤i→i<n→(∀j,i0≤j→j<i→P j)→(body (S i)=VU (.inl (S (i+1)))∧P i)∨(body (S i)=VU (.inr (.inr (bad i)))∧ ¬P i))
  (he:body (S n)=VU (.inr (.inl ()))):
  (zI body (S i0)=VU (.inl ())∧ ∀j,i0≤j→j<n→P j)∨ ∃i,i0≤i∧i<n∧zI body (S i0)=VU (.inr (bad i))∧ ¬P i:=by
 have key:∀k i,i0≤i→i+k=n→(∀j,i0≤j→j<i→P j)→(zI body (S i)=VU (.inl ())∧ ∀j,i0≤j→j<n→P j)∨ ∃q,i0≤q∧q<n∧zI body (S i)=VU (.inr (bad q))∧ ¬P q:=by
  intro k
  induction k with
  |zero=>
   intro i hi hk hp;obtain rfl:i=n:=by omega
   grind[xW]
  |succ k ih=>
   intro i hi hk hp;rcases h i hi (by omega) hp with⟨h1,h2⟩|⟨h1,h2⟩
   ·have:=ih (i+1) (by omega) (by omega) (by grind)
    rw[xW,h1];exact this
   grind[xW]
 exact key (n-i0) i0 (Jf _) (by omega) fun j a b=>by omega
theorem zAS{a b:Int}(h:a=b):(a != b)=VX:=by simp[h]
theorem zAT{a b:Int}(h:a≠b):(a != b)=VW:=by simp[h]
def pr(os:List Int):Nat→Int
 |0=>1
 |i+1=>pr os i*at0 os i
def cp(os:List Int):Nat→Int
 |0=>1
 |i+1=>if cp os i≤729 then cp os i*at0 os i else cp os i
theorem zGY{os:List Int}:∀{i:Nat},(∀j,j<i→Prime (at0 os j))→1≤pr os i
 |0,_=>by simp[pr]
 |i+1,h=>by have h1:=zGY (os:=os) (i:=i) (by grind);have h2:=(h i (by omega)).pos;simp only[pr];have:(1:Int)*1≤pr os i*at0 os i:=Ku h1 (by omega) (by omega) (by omega);omega
theorem zMQ{os:List Int}{i:Nat}(h:∀j,j≤i→Prime (at0 os j)):pr os i≤pr os (i+1):=by have h1:=zGY (os:=os) (i:=i) (by grind);have h2:=(h i (Jf _)).pos;simp only[pr];have:pr os i*1≤pr os i*at0 os i:=Int.mul_le_mul_of_nonneg_left (by omega) (by omega);omega
theorem zMR{os:List Int}{n:Nat}(h:∀j,j<n→Prime (at0 os j)):∀k,k≤n→pr os (n-k)≤pr os n
 |0,_=>Int.le_refl _
 |k+1,hk=>by
  have h1:=zMR h k (by omega);have h2:=zMQ (os:=os) (i:=n-(k+1)) (by grind)
  grind
theorem zPz{os:List Int}:∀{i:Nat},(∀j,j<i→Prime (at0 os j))→(cp os i=pr os i∧pr os i≤729∨729<cp os i∧cp os i≤5103∧729<pr os i)
 |0,_=>by simp[cp,pr]
 |i+1,h=>by
  have h0:∀j,j<i→Prime (at0 os j):=by grind
  have h2:=(h i (by omega)).pos;have h3:=zMQ (os:=os) (i:=i) (by grind);have Vi:=zGY h0;simp only[cp];rcases zPz h0 with⟨h1,h4⟩|⟨h1,h4,h5⟩
  ·rw[h1,if_pos h4]
   have h6:pr os i*at0 os i≤729*7:=Ku h4 h2.2 (by omega) (by omega);simp only[pr]at h3 ⊢
   grind
  omega
def zFJ(x:SPr)(i:Nat):Prop:=Exp x.zF (x.yV.getD i []) i∧(x.zJ.getD i []).length+i+1=x.zF.length∧ ∀j,j<(x.zJ.getD i []).length→Exp x.zF ((x.zJ.getD i []).getD j []) i
structure zGZ (x:SPr):Prop where
 os:True∧ ∀i,i<x.zF.length→Prime (at0 x.zF i)
 pl:x.yV.length=x.zF.length
 cl:x.zJ.length=x.zF.length
 tl:∀i,i<x.zF.length→zFJ x i
structure Pres (x:SPr):Prop where
 os:Os x.zF
 pl:x.yV.length=x.zF.length
 cl:x.zJ.length=x.zF.length
 tl:∀i,i<x.zF.length→zFJ x i
theorem Pres.w{x:SPr}(h:Pres x):zGZ x:=⟨⟨trivial,h.os.2⟩,h.pl,h.cl,h.tl⟩
structure zP0 (x:SPr):Prop extends Pres x where
 n6:x.zF.length≤6
 pr:pr x.zF x.zF.length≤729
theorem wA{α:Type}{v:List α}{i:Nat}(d:α)(h:i<v.length):ixO v (i:Int)=VU (v.getD i d):=by grind[jU]
theorem zLq{x:SPr}(ho:Os x.zF)(hp:x.yV.length=x.zF.length)(hc:x.zJ.length=x.zF.length){i:Nat}(hi:i<x.zF.length):
  (zLN x i=VU (.inl ((i+1:Nat):Int))∧zFJ x i)∨(zLN x i=VU (.inr (.inr VX))∧ ¬zFJ x i):=by
 have h6:=ho.1;unfold zLN;rw[wD hi,zR,wA [] (by omega),bs];rcases zCw (v:=x.yV.getD i []) ho hi with⟨h1,h2⟩|⟨h1,h2⟩
 ·rw[h1,bs,Jg,zT,wA [] (by omega),bs,zL (by omega) (by omega),bs,zL (by omega) (by omega),bs]
  by_cases hl:(x.zJ.getD i []).length+i+1=x.zF.length
  ·rw[zAS (by omega),zT,bs]
   rcases chk (body:=zQv x i (x.zJ.getD i [])) (x.zJ.getD i []).length 0 (K6 _) (fun j=>Exp x.zF ((x.zJ.getD i []).getD j []) i) (fun _=>VX) (fun j _ hj _=>by
     refine tP (zCw ho hi) (by omega) ?_;unfold zQv;rw[wD hj,zR,wA [] hj,bs]) (by
     unfold zQv;simp)with⟨g1,g2⟩|⟨j,_,hj,g1,g2⟩
   ·rw[show((0:Nat):Int)=0 from rfl]at g1
    rw[g1,bs];simp only
    rw[zL (by omega) (by omega),bs,cs];exact .inl ⟨rfl,h2,hl,by grind⟩
   ·rw[show((0:Nat):Int)=0 from rfl]at g1
    rw[g1,bs];exact .inr ⟨rfl,fun g=>g2 (g.2.2 j hj)⟩
  ·rw[zAT (by omega),zR]
   exact .inr ⟨rfl,fun g=>hl g.2.1⟩
 ·rw[h1,bs,Jv,zR]
  exact .inr ⟨rfl,fun g=>h2 g.1⟩
theorem zLr{x:SPr}(ho:Os x.zF)(hp:x.yV.length=x.zF.length)(hc:x.zJ.length=x.zF.length){i:Nat}(hi:i<x.zF.length):
  (zLI x i=VU (.inl ((i+1:Nat):Int))∧zFJ x i)∨(zLI x i=VU (.inr (.inr VX))∧ ¬zFJ x i):=by
 have h6:=ho.1;unfold zLI;rw[wD hi,zR,wA [] (by omega),bs];rcases zCL (v:=x.yV.getD i []) ho hi with⟨h1,h2⟩|⟨h1,h2⟩
 ·rw[h1,bs,Jg,zT,wA [] (by omega),bs,zL (by omega) (by omega),bs,zL (by omega) (by omega),bs]
  by_cases hl:(x.zJ.getD i []).length+i+1=x.zF.length
  ·rw[zAS (by omega),zT]
   rcases chk (body:=zQa x i) (x.zJ.getD i []).length 0 (K6 _) (fun j=>Exp x.zF ((x.zJ.getD i []).getD j []) i) (fun _=>VX) (fun j _ hj _=>by
     refine tP (zCL ho hi) (by omega) ?_;unfold zQa;rw[wA [] (by omega),bs,wD hj,zR,bs,wA [] hj,bs]) (by
     unfold zQa;rw[wA [] (by omega),bs,zBa,zT])with⟨g1,g2⟩|⟨j,_,hj,g1,g2⟩
   ·rw[show((0:Nat):Int)=0 from rfl]at g1
    rw[g1,bs];simp only
    rw[zL (by omega) (by omega),bs,cs];exact .inl ⟨rfl,h2,hl,by grind⟩
   ·rw[show((0:Nat):Int)=0 from rfl]at g1
    rw[g1,bs];exact .inr ⟨rfl,fun g=>g2 (g.2.2 j hj)⟩
  ·rw[zAT (by omega),zR]
   exact .inr ⟨rfl,fun g=>hl g.2.1⟩
 ·rw[h1,bs,Jv,zR]
  exact .inr ⟨rfl,fun g=>h2 g.1⟩
theorem zKg{x:SPr}(h6:x.zF.length≤6):
  (zI (zLM x) (1,0)=VU (.inl ())∧Os x.zF∧pr x.zF x.zF.length≤729)∨(zI (zLM x) (1,0)=VU (.inr VX)∧ ¬(Os x.zF∧pr x.zF x.zF.length≤729)):=by
 rcases zXd (body:=zLM x) (fun i=>(pr x.zF i,(i:Int))) x.zF.length 0 (K6 _) (fun i=>Prime (at0 x.zF i)∧pr x.zF (i+1)≤729) (fun _=>VX) (fun i _ hi db=>by
   have hp:∀j,j<i→Prime (at0 x.zF j):=by grind
   have Vi:=zGY hp;have pe:pr x.zF i≤729:=by
    cases i with
    |zero=>simp[pr]
    |succ i=>grind
   unfold zLM;rw[wD hi,zR,xV hi,bs];rcases zCj (at0 x.zF i)with⟨h1,h2⟩|⟨h1,h2⟩
   ·have h3:=h2.pos
    have h4:pr x.zF i*at0 x.zF i≤729*7:=Ku pe h3.2 (by omega) (by omega);have h5:1*1≤pr x.zF i*at0 x.zF i:=Ku Vi (by omega) (by omega) (by omega);simp only
    rw[h1,bs,Jg,zT,zL (by omega) (by omega),bs]
    by_cases h7:pr x.zF i*at0 x.zF i> 729
    ·rw[VZ h7,zR]
     exact .inr ⟨rfl,by grind[pr]⟩
    ·rw[VY h7,zT,bs,zL (by omega) (by omega),bs,cs]
     exact .inl ⟨rfl,h2,by grind[pr]⟩
   grind) (by
   unfold zLM;simp)with⟨g1,g2⟩|⟨i,_,hi,g1,g2⟩
 ·refine .inl ⟨g1,⟨by omega,by grind⟩,?_⟩
  cases hn:x.zF.length with
  |zero=>simp[pr]
  |succ n=>grind
 ·refine .inr ⟨g1,fun⟨h1,h2⟩=>g2 ⟨h1.2 i hi,?_⟩⟩
  have:=zMR (os:=x.zF) (n:=x.zF.length) h1.2 (x.zF.length-(i+1)) (by omega)
  grind
theorem zJg{os:List Int}(ho:Os os):zRV os=VU (cp os os.length):=by
 have h6:=ho.1;unfold zRV;rw[show(1,0)=(fun i=>(cp os i,(i:Int))) 0 from rfl,yB (body:=zKE os) (r:=cp os os.length) (fun i=>(cp os i,(i:Int))) os.length (fun i hi=>by
  have hp:=(ho.2 i hi).pos;have hc:=zPz (os:=os) (i:=i) fun j hj=>ho.2 j (by omega)
  have Vi:=zGY (os:=os) (i:=i) fun j hj=>ho.2 j (by omega)
  unfold zKE;rw[wD hi,zR];simp only[cp]
  by_cases h:cp os i≤729
  ·have h4:cp os i*at0 os i≤729*7:=Ku h hp.2 (by omega) (by omega)
   have h5:1*1≤cp os i*at0 os i:=Ku (by omega) (by omega) (by omega) (by omega);rw[VZ h,zR,xV hi,bs,zL (by omega) (by omega),bs,zL (by omega) (by omega),bs,cs,if_pos h]
  ·rw[VY h,zT,zL (by omega) (by omega),bs,cs,if_neg h]) (by
  unfold zKE;simp),bs]
theorem zDp{x:SPr}(hl:x.zF.length≤1048576):IsB (f_r x) (zP0 x):=by
 unfold f_r
 by_cases h6:x.zF.length≤6
 ·rw[VY (by omega),zT]
  by_cases hp:x.yV.length=x.zF.length
  ·rw[zAS (by omega),zT]
   by_cases hc:x.zJ.length=x.zF.length
   ·rw[zAS (by omega),zT]
    rcases zKg h6 with⟨h1,h2,h3⟩|⟨h1,h2⟩
    ·rw[h1,bs]
     exact(kO (f:=(zI (zLN x) 0).bind fun r=>match r with|.inl _=>VU VW|.inr r=>VU r) x.zF.length (zFJ x) rfl (by grind[zLq]) (by unfold zLN;simp)).iff ⟨fun g=>⟨⟨h2,hp,hc,g⟩,h6,h3⟩,fun g=>g.tl⟩
    ·rw[h1,bs]
     exact .inr ⟨rfl,fun g=>h2 ⟨g.os,g.pr⟩⟩
   ·rw[zAT (by omega),zR]
    exact .inr ⟨rfl,fun g=>hc g.cl⟩
  ·rw[zAT (by omega),zR]
   exact .inr ⟨rfl,fun g=>hp g.pl⟩
 ·rw[VZ (by omega),zR]
  exact .inr ⟨rfl,fun g=>h6 g.n6⟩
theorem zDq{x:SPr}(hl:x.zF.length≤1048576):IsB (f_s x) (zP0 x):=by
 unfold f_s
 by_cases h6:x.zF.length≤6
 ·rw[VY (by omega),zT]
  by_cases hp:x.yV.length=x.zF.length
  ·rw[zAS (by omega),zT]
   by_cases hc:x.zJ.length=x.zF.length
   ·rw[zAS (by omega),zT]
    rcases chk (body:=zPZ x) x.zF.length 0 (K6 _) (fun i=>Prime (at0 x.zF i)) (fun _=>VX) (fun i _ hi _=>by
      refine tP (zDW _) (by omega) ?_;unfold zPZ;rw[wD hi,zR,xV hi,bs]) (by
      unfold zPZ;simp)with⟨g1,g2⟩|⟨i,_,hi,g1,g2⟩
    ·rw[show((0:Nat):Int)=0 from rfl]at g1
     have ho:Os x.zF:=⟨by omega,by grind⟩;have hcp:=zPz (os:=x.zF) (i:=x.zF.length) ho.2;rw[g1,bs];simp only
     rw[zJg ho,bs]
     by_cases h7:cp x.zF x.zF.length> 729
     ·rw[VZ h7,zR]
      exact .inr ⟨rfl,fun g=>by have:=g.pr;omega⟩
     ·rw[VY h7,zT]
      exact(kO (f:=(zI (zLI x) 0).bind fun r=>match r with|.inl _=>VU VW|.inr r=>VU r) x.zF.length (zFJ x) rfl (by grind[zLr]) (by unfold zLI;simp)).iff ⟨fun g=>⟨⟨ho,hp,hc,g⟩,h6,by omega⟩,fun g=>g.tl⟩
    ·rw[show((0:Nat):Int)=0 from rfl]at g1
     rw[g1,bs];exact .inr ⟨rfl,fun g=>g2 (g.os.2 i hi)⟩
   ·rw[zAT (by omega),zR]
    exact .inr ⟨rfl,fun g=>hc g.cl⟩
  ·rw[zAT (by omega),zR]
   exact .inr ⟨rfl,fun g=>hp g.pl⟩
 ·rw[VZ (by omega),zR]
  exact .inr ⟨rfl,fun g=>h6 g.n6⟩
end Go.Pl

namespace Go.Pl
open Go Go.Ab Go.Wk Go.Pc
def lvl(x:SPr)(i:Nat):Lvl:=⟨at0 x.zF i,(x.yV.getD i []).drop (i+1),(x.zJ.getD i []).map (·.drop (i+1))⟩
def suf(x:SPr)(k:Nat):Pcp:=(Gg k (x.zF.length-k)).map (lvl x)
theorem vY(x:SPr)(k:Nat):(suf x k).length=x.zF.length-k:=by simp[suf]
theorem wW{x:SPr}{k:Nat}(h:k<x.zF.length):suf x k=lvl x k::suf x (k+1):=by unfold suf;rw[show x.zF.length-k=(x.zF.length-(k+1))+1 from by omega,Q9,Jh]
theorem zBz{x:SPr}{k:Nat}(h:x.zF.length≤k):suf x k=[]:=by unfold suf;simp_all
theorem zDh{os v:List Int}{k:Nat}(h:Exp os v k)(hk:k<os.length):v=zeros (k+1)++v.drop (k+1):=by
 have h1:=h.1.1;apply Kz;intro i;rw[K8];simp only[zeros,Hl,L0,L6];split
 ·rename_i hi
  have h2:=h.2 i (by omega)
  grind
 grind
theorem zUy{x:SPr}:∀(d k:Nat)(v:List Int),k+d=x.zF.length→v.length=d→(∀i,i<d→0≤at0 v i∧at0 v i≤at0 x.zF (k+i)-1)→V (suf x k) v
 |0,k,v,hk,hv,_=>by rw[zBz (by omega)];simpa[V]using hv
 |d+1,k,v,hk,hv,h=>by
  rw[wW (by omega)]
  match v,hv with
  |a::v,hv=>
   have h0:=h 0 (by omega);simp only[at0,Uf,Gx]at h0;refine⟨⟨h0.1,by simp only[lvl,at0];omega⟩,zUy d (k+1) v (by omega) (by grind) fun i hi=>?_⟩
   grind
theorem zKh{x:SPr}{v:List Int}{k:Nat}(h:Exp x.zF v k)(hk:k<x.zF.length):V (suf x (k+1)) (v.drop (k+1)):=by
 have h1:=h.1.1;refine zUy (x.zF.length-(k+1)) (k+1) _ (by omega) (by grind) fun i hi=>?_
 have:=h.1.2 (k+1+i) (by omega)
 grind
theorem zGZ.ok{x:SPr}(h:zGZ x):∀(d k:Nat),k+d=x.zF.length→Pc.Ok (suf x k)
 |0,k,hk=>by rw[zBz (by omega)];simp only[Pc.Ok]
 |d+1,k,hk=>by
  rw[wW (by omega)];obtain⟨t1,t2,t3⟩:=h.tl k (by omega);refine⟨by simp only[lvl];have:=(h.os.2 k (by omega)).pos;omega,zKh t1 (by omega),?_,fun c hc=>?_,zGZ.ok h d (k+1) (by omega)⟩
  ·grind[vY,lvl]
  ·simp only[lvl,Jb]at hc
   obtain⟨u,hu,rfl⟩:=hc;obtain⟨j,hj,rfl⟩:=Kh.1 hu
   grind[zKh]
theorem zGZ.okAt{x:SPr}(h:zGZ x){k:Nat}(hk:k≤x.zF.length):Pc.Ok (suf x k):=h.ok (x.zF.length-k) k (by omega)
theorem Pres.okAt{x:SPr}(h:Pres x){k:Nat}(hk:k≤x.zF.length):Pc.Ok (suf x k):=h.w.okAt hk
theorem yK(n:Nat):(zeros n).length=n:=by simp[zeros]
theorem zFK(k:Nat):zeros (k+1)=zeros k++[0]:=by simp[zeros,U8]
theorem zIl{k:Nat}{a b:Int}{v:Vec}:(zeros k++a::v).set k b=zeros k++b::v:=by rw[Lq _ _ (by grind[yK]),yK,Kc,Kn]
theorem zIm{k:Nat}{a:Int}{v:Vec}:ixO (zeros k++a::v) (k:Int)=VU a:=by rw[qC,Jc (by grind[yK]),yK,Kc];rfl
theorem zFq{k:Nat}{v:Vec}:zeros k++0::v=zeros (k+1)++v:=by rw[zFK,Jd];rfl
theorem zBO{v:List Int}(h:v.length≤1000000):f_S v=VU v:=by grind[f_S,vP]
end Go.Pl

namespace Go.Pl
open Go Go.Ab Go.Wk Go.Pc
theorem zCM{m:Vec→Vec→Vec}:∀(cs:List Vec)(x:Vec)(i:Nat)(acc:Vec),i<cs.length→i<x.length→
  img m (cs.take (i+1)) (x.take (i+1)) acc=iter (at0 x i).toNat (fun v=>m v (cs.getD i [])) (img m (cs.take i) (x.take i) acc)
 | [],_,_,_,h,_=>by simp at h
 |_::_,[],_,_,_,h=>by simp at h
 |c::cs,a::x,0,acc,_,_=>by rfl
 |c::cs,a::x,i+1,acc,h,h'=>by simp only[Kw,img,at0,List.getD_cons_succ];exact zCM cs x i _ (by grind) (by grind)
theorem tR{α β:Type}{body:α×Int→Option ((α×Int)⊕α)}{S:β→Prop}(e:β→α)(g:β→β)(n:Int)(hn:0≤n)(hS:∀a,S a→S (g a))
  (h:∀a(i:Nat),S a→(i:Int)<n→body (e a,(i:Int))=VU (.inl (e (g a),((i+1:Nat):Int))))(he:∀a,S a→body (e a,n)=VU (.inr (e a))){a:β}(ha:S a):
  zI body (e a,0)=VU (e (iter n.toNat g a)):=by
 have fC:∀k,S (iter k g a):=fun k=>jT (S:=S) hS k ha
 exact yB (body:=body) (r:=e (iter n.toNat g a)) (fun i=>(e (iter i g a),(i:Int))) n.toNat (by grind[qU]) (by grind)
theorem zND{k i:Nat}{v:Vec}(h:i<v.length):ixO (zeros k++v) ((k+i:Nat):Int)=VU (at0 v i):=by rw[qC,Jc (by grind[yK]),yK,show k+i-k=i from by omega,J5 h,at0,J7,J5 h];rfl
theorem zE8{x:SPr}(ho:Os x.zF):∀(d k:Nat)(v:List Int),k+d=x.zF.length→V (suf x k) v→v.length=d∧ ∀i,i<d→0≤at0 v i∧at0 v i<at0 x.zF (k+i)∧at0 v i≤6
 |0,k,v,hk,hv=>by
  rw[zBz (by omega)]at hv;simp only[V]at hv
  grind
 |d+1,k,v,hk,hv=>by
  rw[wW (by omega)]at hv
  match v,hv with
  |a::v,hv=>
   obtain⟨h1,h2⟩:=zE8 ho d (k+1) v (by omega) hv.2;refine⟨by simp[h1],fun i hi=>?_⟩;cases i with
   |zero=>
    have h3:=hv.1;simp only[lvl]at h3;have:=(ho.2 k (by omega)).pos
    grind
   |succ i=>
    grind
theorem zGb{x:SPr}(h:Pres x){k i:Nat}(hk:k<x.zF.length)(hi:i<x.zF.length-(k+1)):
  ∃c,ixO x.zJ (k:Int)=VU (x.zJ.getD k [])∧ixO (x.zJ.getD k []) (i:Int)=VU (zeros (k+1)++c)∧V (suf x (k+1)) c∧(lvl x k).cs.getD i []=c:=by
 obtain⟨t1,t2,t3⟩:=h.tl k hk;have hc:=h.cl
 grind[wA,zKh,zDh,lvl]
def FAt(x:SPr)(k:Nat)(g:SPr→Int→List Int→List Int→Option (List Int)):Prop:=
 ∀a b,V (suf x k) a→V (suf x k) b→g x k (zeros k++a) (zeros k++b)=VU (zeros k++mul (suf x k) a b)
def FIm(x:SPr)(k:Nat)(g:SPr→Int→List Int→Option (List Int)):Prop:=
 ∀v,V (suf x (k+1)) v→g x k (zeros (k+1)++v)=VU (zeros (k+1)++sig (suf x (k+1)) (lvl x k) v)
theorem zLs{x:SPr}(h:Pres x){k:Nat}(hk:k<x.zF.length){g:SPr→Int→List Int→List Int→Option (List Int)}(hg:FAt x (k+1) g):FIm x k (b_g g):=by
 intro v hv;have h6:=h.os.1;have ok:=h.okAt (k:=k+1) (by omega);obtain⟨mo,dJ⟩:=zE8 h.os (x.zF.length-(k+1)) (k+1) v (by omega) hv;have gm:=vY x (k+1);have gK:(lvl x k).cs.length=x.zF.length-(k+1):=by have:=h.okAt (k:=k) (by omega);rw[wW hk]at this;rw[this.2.2.1,gm]
 have gW:∀c∈(lvl x k).cs,V (suf x (k+1)) c:=by have:=h.okAt (k:=k) (by omega);rw[wW hk]at this;exact this.2.2.2.1
 have hA:∀i,V (suf x (k+1)) (img (mul (suf x (k+1))) ((lvl x k).cs.take i) (v.take i) (zeros (suf x (k+1)).length)):=fun i=>
  zAZ (uD ok) _ _ (by grind) (tO ok)
 unfold b_g;rw[uE (by omega),bs,zL (by omega) (by omega),bs,cs];have hz:J2 x.zF.length (0:Int)=zeros (k+1)++zeros (suf x (k+1)).length:=by rw[gm];simp only[zeros,Ki];congr 1;omega
 rw[hz];have:=yB (body:=zQc g x k (zeros (k+1)++v)) (r:=zeros (k+1)++sig (suf x (k+1)) (lvl x k) v)
  (fun i=>(zeros (k+1)++img (mul (suf x (k+1))) ((lvl x k).cs.take i) (v.take i) (zeros (suf x (k+1)).length),((k+1+i:Nat):Int))) (x.zF.length-(k+1)) (fun i hi=>by
  have hr:=dJ i hi;obtain⟨c,c1,c2,c3,c4⟩:=zGb h hk hi;unfold zQc;rw[VZ (by omega),zR];rw[tR (S:=V (suf x (k+1))) (body:=zQb g x k (zeros (k+1)++v) (zeros (k+1)++img (mul (suf x (k+1))) ((lvl x k).cs.take i) (v.take i) (zeros (suf x (k+1)).length),((k+1+i:Nat):Int))) (fun u=>zeros (k+1)++u) (fun u=>mul (suf x (k+1)) u c) (at0 v i) hr.1 (by grind[uD]) (fun u q hu hq=>by
   unfold zQb;simp only
   rw[zND (by omega),bs,VZ hq,zR,zL (by omega) (by omega),bs,c1,bs,zL (by omega) (by omega),bs,zL (by omega) (by omega),bs,
    show(((k+1+i:Nat):Int)-(k:Int)-1)=(i:Int)from by omega,c2,bs,cs,hg u c hu c3,bs,zL (by omega) (by omega),bs,cs]) (fun u hu=>by
   unfold zQb;simp only
   rw[zND (by omega),bs,VY (by omega),zT]) (hA i),bs,zL (by omega) (by omega),bs,cs]
  rw[zCM _ _ _ _ (by omega) (by omega),c4];rfl) (by
  unfold zQc;rw[VY (by omega),zT,Jo (by omega),Jo (by omega)];rfl)
 grind[img]
theorem zRH{x:SPr}(h:Pres x){k:Nat}(hk:k<x.zF.length){g:SPr→Int→List Int→List Int→Option (List Int)}{gi:SPr→Int→List Int→Option (List Int)}(hg:FAt x (k+1) g)(hi:FIm x k gi):FAt x k (b_c gi g):=by
 intro a b ha hb;have h6:=h.os.1;have hp:=(h.os.2 k hk).pos;have ok:=h.okAt (k:=k+1) (by omega);have ok0:=h.okAt (k:=k) (by omega);obtain⟨hal,har⟩:=zE8 h.os (x.zF.length-k) k a (by omega) ha;obtain⟨hbl,hbr⟩:=zE8 h.os (x.zF.length-k) k b (by omega) hb;rw[wW hk]at ha hb ok0;obtain⟨a0,a,rfl⟩:∃a0 a',a=a0::a':=by cases a with|nil=>grind|cons p q=>simp
 obtain⟨b0,b,rfl⟩:∃a0 a',b=a0::a':=by cases b with|nil=>grind|cons p q=>simp
 obtain⟨⟨a1,a2⟩,ha⟩:=ha;obtain⟨⟨b1,b2⟩,hb⟩:=hb;have pj:(lvl x k).o=at0 x.zF k:=rfl;rw[pj]at a2 b2;unfold b_c;rw[VY (by omega),zT,zBO (by grind[yK]),bs,zBO (by simp[yK]at hbl ⊢;omega),bs,zIm,bs,zIm,bs,Jl,zIl,zIl,zFq,zFq];have am:∀u,V (suf x (k+1)) u→V (suf x (k+1)) (sig (suf x (k+1)) (lvl x k) u):=by grind[zJe]
 have fC:V (suf x (k+1)) (iter b0.toNat (sig (suf x (k+1)) (lvl x k)) a):=jT am _ ha;rw[tR (S:=V (suf x (k+1))) (fun u=>zeros (k+1)++u) (sig (suf x (k+1)) (lvl x k)) b0 b1 am (fun u q hu hq=>by
   unfold zRW;simp only
   rw[zIm,bs,VZ hq,zR,hi u hu,bs,zL (by omega) (by omega),bs,cs]) (fun u hu=>by
   unfold zRW;simp only
   rw[zIm,bs,VY (by omega),zT]) ha,bs,zL (by omega) (by omega),bs,cs,hg _ _ fC hb,bs,bs,bs,zL (by omega) (by omega),bs,xV hk,bs]
 have hm:=uD ok fC hb;have dS:=(zE8 h.os (x.zF.length-(k+1)) (k+1) _ (by omega) hm).1;have own:∀u,V (suf x (k+1)) u→f_S (zeros (k+1)++u)=VU (zeros (k+1)++u):=fun u hu=>zBO (by
  have:=(zE8 h.os (x.zF.length-(k+1)) (k+1) _ (by omega) hu).1
  grind[yK])
 rw[wW hk,wC,pj]
 by_cases hge:a0+b0≥at0 x.zF k
 ·have t1:=(h.tl k hk).1
  have hw:=zKh t1 hk;have hwl:=h.pl;rw[VZ hge,zR,if_pos hge,bs,zL (by omega) (by omega),bs,bs,wA [] (by omega),bs,zDh t1 hk,hg _ _ hw hm,bs,own _ (uD ok hw hm),bs];rw[←zFq,zIm,bs,zIl];rfl
 ·rw[VY hge,zT,if_neg hge,own _ hm,bs,←zFq,zIm,bs,zIl]
theorem zFr{x:SPr}(h:Pres x):∀(d k:Nat),k+d=x.zF.length→(∀m,2*d+1≤m→FAt x k (zLK m))∧(1≤d→ ∀m,2*d≤m→FIm x k (zLJ m))
 |0,k,hk=>by
  refine⟨fun m hm a b ha hb=>?_,fun h=>by omega⟩;have h6:=h.os.1;obtain⟨m,rfl⟩:∃m',m=m'+1:=⟨m-1,by omega⟩;show b_c _ _ x k _ _=_;unfold b_c;rw[VZ (by omega),zR,uE (by omega),bs,zBz (by omega)]
  grind[mul,zeros]
 |d+1,k,hk=>by
  obtain⟨h1,h2⟩:=zFr h d (k+1) (by omega);have hI:∀m,2*(d+1)≤m→FIm x k (zLJ m):=fun m hm=>by obtain⟨m,rfl⟩:∃m',m=m'+1:=⟨m-1,by omega⟩;exact zLs h (by omega) (h1 m (by omega))
  refine⟨fun m hm=>?_,fun _=>hI⟩;obtain⟨m,rfl⟩:∃m',m=m'+1:=⟨m-1,by omega⟩;exact zRH h (by omega) (h1 m (by omega)) (hI m (by omega))
theorem zMS{x:SPr}(h:Pres x){k:Nat}(hk:k≤x.zF.length):FAt x k f_c:=fun a b ha hb=>
 zBL (2*(x.zF.length-k)+1) fun m hm=>(zFr h (x.zF.length-k) k (by omega)).1 m hm a b ha hb
theorem zLt{x:SPr}(h:Pres x){k:Nat}(hk:k<x.zF.length):FIm x k f_g:=fun v hv=>
 zBL (2*(x.zF.length-k)) fun m hm=>(zFr h (x.zF.length-k) k (by omega)).2 (by omega) m hm v hv
end Go.Pl

namespace Go.Pl
open Go Go.Ab Go.Wk Go.Pc
theorem zCN:∀{P Q:Pcp},Q<:+P→qE P→qE Q
 | [],Q,h,_=>by grind
 |l::P,Q,h,hc=>by
  rcases U7.1 h with rfl|h
  ·exact hc
  ·exact zCN h hc.1
theorem zIn:∀{P Q:Pcp},Q<:+P→Pc.Ok P→Pc.Ok Q
 | [],Q,h,_=>by grind
 |l::P,Q,h,hc=>by
  rcases U7.1 h with rfl|h
  ·exact hc
  ·exact zIn h hc.2.2.2.2
theorem zLu(x:SPr)(k:Nat):suf x (k+1)<:+suf x k:=by grind[wW,zBz]
theorem zE9{x:SPr}{k:Nat}(h:qE (suf x k)):∀i,qE (suf x (k+i))
 |0=>h
 |i+1=>zCN (zLu x (k+i)) (zE9 h i)
theorem zHa{x:SPr}(h:Pres x){k:Nat}(hk:k≤x.zF.length)(hc:qE (suf x k)):Grp (V (suf x k)) (mul (suf x k)) (zeros (suf x k).length):=zMK _ (h.okAt hk) hc
theorem zGc{x:SPr}:∀(i k:Nat)(v:Vec),k+i≤x.zF.length→V (suf x k) v→ ∃q v',v=q++v'∧q.length=i∧V (suf x (k+i)) v'∧
  ∀a b,V (suf x (k+i)) a→V (suf x (k+i)) b→mul (suf x k) (q++a) (zeros i++b)=q++mul (suf x (k+i)) a b
 |0,k,v,_,hv=>⟨[],v,rfl,rfl,hv,fun a b _ _=>rfl⟩
 |i+1,k,v,hk,hv=>by
  rw[wW (by omega)]at hv
  match v,hv with
  |e::v,hv=>
   obtain⟨q,v',h1,h2,h3,h4⟩:=zGc i (k+1) v (by omega) hv.2;rw[show k+1+i=k+(i+1)from by omega]at h3 h4;refine⟨e::q,v',by grind,by simp[h2],h3,fun a b ha hb=>?_⟩;have he:=hv.1;rw[wW (by omega)];show mul (lvl x k::suf x (k+1)) (e::(q++a)) (0::(zeros i++b))=_;rw[wC,Hx,if_neg (by omega)]
   grind[iter]
def FTV(x:SPr)(k:Nat)(g:SPr→List Int→List Int→Option (List Int)):Prop:=
 ∀p v u,p.length=k→V (suf x k) v→V (suf x k) u→g x (p++v) (zeros k++u)=VU (p++mul (suf x k) v u)
def FTG(x:SPr)(k:Nat)(g:SPr→List Int→Int→Option (List Int)):Prop:=
 ∀p v,p.length=k→V (suf x k) v→g x (p++v) (k:Int)=VU (p++mul (suf x k) v (1::zeros (x.zF.length-(k+1))))
theorem zIo{x:SPr}(h:Pres x){k:Nat}(hk:k<x.zF.length){g:SPr→List Int→List Int→Option (List Int)}(hg:FTV x (k+1) g){t:Vec}(ht:V (suf x (k+1)) t)
  {body1:List Int×Int→Int→List Int×Int→Option ((List Int×Int)⊕List Int)}{body2:List Int×Int→Option ((List Int×Int)⊕List Int)}
  (dD:∀s,body2 s=cond (decide (s.2<(t.length:Int))) ((ixO t s.2).bind fun v17=>(zI (body1 s v17) (s.1,0)).bind fun r=>(rng (s.2+1)).bind fun v=>VU (.inl (r,v))) (VU (.inr s.1)))
  (VN:∀s v q,body1 s v q=cond (decide (q.2<v)) ((ixO x.zJ (k:Int)).bind fun cl=>(ixO cl s.2).bind fun c=>(g x q.1 c).bind fun r=>(rng (q.2+1)).bind fun w=>VU (.inl (r,w))) (VU (.inr q.1)))
  {p:Vec}(hp:p.length=k+1){u:Vec}(hu:V (suf x (k+1)) u):zI body2 (p++u,0)=VU (p++img (mul (suf x (k+1))) (lvl x k).cs t u):=by
 have h6:=h.os.1;have ok:=h.okAt (k:=k+1) (by omega);have ok0:=h.okAt (k:=k) (by omega);rw[wW hk]at ok0;obtain⟨mE,ai⟩:=zE8 h.os (x.zF.length-(k+1)) (k+1) t (by omega) ht;have gK:(lvl x k).cs.length=x.zF.length-(k+1):=by rw[ok0.2.2.1,vY]
 have hA:∀i,V (suf x (k+1)) (img (mul (suf x (k+1))) ((lvl x k).cs.take i) (t.take i) u):=fun i=>
  zAZ (uD ok) _ _ (fun c hc=>ok0.2.2.2.1 c (by grind)) hu
 have:=yB (body:=body2) (r:=p++img (mul (suf x (k+1))) (lvl x k).cs t u) (fun i=>(p++img (mul (suf x (k+1))) ((lvl x k).cs.take i) (t.take i) u,(i:Int))) t.length (fun i hi=>by
  have hr:=ai i (by omega);obtain⟨c,c1,c2,c3,c4⟩:=zGb h hk (i:=i) (by omega);rw[dD];simp only
  rw[wD hi,zR,xV hi,bs];rw[tR (S:=V (suf x (k+1))) (fun u=>p++u) (fun u=>mul (suf x (k+1)) u c) (at0 t i) hr.1 (by grind[uD]) (fun u q hu hq=>by
   rw[VN];simp only
   rw[VZ hq,zR,c1,bs,c2,bs,hg p u c hp hu c3,bs,zL (by omega) (by omega),bs,cs]) (by grind) (hA i),bs,zL (by omega) (by omega),bs,cs]
  rw[zCM _ _ _ _ (by omega) (by omega),c4]) (by
  grind)
 grind[img]
theorem zTy{p v:Vec}{a:Int}{k:Nat}(hp:p.length=k):ixO (p++a::v) (k:Int)=VU a:=by rw[qC,Jc (by omega),hp,Kc];rfl
theorem p_set{p v:Vec}{a b:Int}{k:Nat}(hp:p.length=k):(p++a::v).set k b=p++b::v:=by simp_all
theorem zKi{x:SPr}(h:Pres x){k:Nat}(hk:k<x.zF.length)(hc:qE (suf x (k+1))){g:SPr→List Int→List Int→Option (List Int)}(hg:FTV x (k+1) g):FTG x k (b_d g):=by
 intro p v hp hv;have h6:=h.os.1;have G:=zHa h (k:=k+1) (by omega) hc;have ok:=h.okAt (k:=k+1) (by omega);have ok0:=h.okAt (k:=k) (by omega);obtain⟨mo,dJ⟩:=zE8 h.os (x.zF.length-k) k v (by omega) hv;rw[wW hk]at hv ok0;obtain⟨e,t,rfl⟩:∃a0 a',v=a0::a':=by cases v with|nil=>grind|cons p q=>simp
 obtain⟨⟨e1,e2⟩,ht⟩:=hv;have pj:(lvl x k).o=at0 x.zF k:=rfl;rw[pj]at e2;have cU:=(h.os.2 k hk).pos;have mE:=(zE8 h.os (x.zF.length-(k+1)) (k+1) t (by omega) ht).1;have mJ:=vY x (k+1);unfold b_d;have hs:yG (p++e::t) ((k+1:Nat):Int) ((p++e::t).length:Int)=VU t:=by
  unfold yG;rw[if_pos (by grind)];have e3:(p++e::t).drop (k+1)=t:=by rw[List.drop_append,Gw (by omega),hp,show k+1-k=1 from by omega];rfl
  grind[Jl]
 have br:f_J t=VU t:=by grind[f_J,vP]
 rw[zL (by omega) (by omega),bs,cs,hs,bs,br,bs];have hz:=yB (body:=zQw k t) (r:=(p++[e])++zeros t.length) (fun i=>((p++[e])++(zeros i++t.drop i),(i:Int))) t.length (fun i hi=>by
  have hl:((p++[e])++zeros i).length=k+1+i:=by grind[yK]
  unfold zQw;simp only
  rw[wD hi,zR,zL (by omega) (by omega),bs,zL (by omega) (by omega),bs,show(k:Int)+1+(i:Int)=((k+1+i:Nat):Int)from by omega,qC,←Jd,Jc (by omega),hl,Kc,
   Hh hi,Gm,bs,zL (by omega) (by omega),bs,cs,Jl,Lq _ _ (by omega),hl,Kc,Kn,zFK]
  simp) (by
  unfold zQw;simp)
 simp only[zeros,Hk,Qh,K9,Jd,Kx]at hz;rw[show((0:Nat):Int)=0 from rfl]at hz;rw[hz,bs,Jl,zTy hp,bs,zL (by omega) (by omega),bs,bs,p_set hp,zTy hp,bs,xV hk,bs];have dZ:J2 t.length (0:Int)=zeros (suf x (k+1)).length:=by rw[mJ,mE];rfl
 rw[wW hk,wC,pj];have gA:mul (suf x (k+1)) (iter (1:Int).toNat (sig (suf x (k+1)) (lvl x k)) t) (zeros (x.zF.length-(k+1)))=sig (suf x (k+1)) (lvl x k) t:=by rw[←mJ];show mul _ (sig (suf x (k+1)) (lvl x k) t) _=_;exact G.oner (zJe ok0 ht)
 rw[gA,dZ]
 by_cases heq:e+1=at0 x.zF k
 ·have t1:=(h.tl k hk).1
  have hw:=zKh t1 hk;have hwl:=h.pl;have dP:(p++[(0:Int)]).length=k+1:=by simp[hp]
  rw[show(e+1==at0 x.zF k)=VW from by grind,zR,if_pos (by omega),bs,wA [] (by omega),bs,p_set hp];have dY:p++0::zeros (suf x (k+1)).length=(p++[0])++zeros (suf x (k+1)).length:=by simp
  rw[dY,zDh t1 hk,hg _ _ _ dP G.ein hw,bs,G.onel hw];rw[zIo (body1:=zUO g x k) (body2:=zUP g x k t) h hk hg ht (fun _=>rfl) (fun _ _ _=>rfl) dP hw,bs];rw[zE6 G.toMon _ _ ok0.2.2.2.1 hw,show e+1-at0 x.zF k=0 from by omega];simp only[Jd,Kx];rfl
 ·have dP:(p++[e+1]).length=k+1:=by simp[hp]
  rw[show(e+1==at0 x.zF k)=VX from by grind,zT,if_neg (by omega)];have dY:p++(e+1)::zeros (suf x (k+1)).length=(p++[e+1])++zeros (suf x (k+1)).length:=by simp
  rw[dY,zIo (body1:=zUQ g x k) (body2:=zUR g x k t) h hk hg ht (fun _=>rfl) (fun _ _ _=>rfl) dP G.ein,bs];simp only[Jd,Kx];rfl
theorem zGd{n i:Nat}(h:i<n):zAb n i=zeros i++1::zeros (n-(i+1)):=by
 have:zeros n=zeros i++0::zeros (n-(i+1)):=by
  simp only[zeros];rw[←Km,Ki]
  grind
 grind[zAb,zIl]
theorem zEA(n:Nat):(jR n).length=n:=by simp[jR]
theorem zLv{n i:Nat}(h:i<n):(jR n).getD i []=zAb n i:=by simp[jR,J7,h]
theorem zP1{x:SPr}(h:Pres x){k:Nat}(hk:k≤x.zF.length)(hc:qE (suf x k)){g:SPr→List Int→Int→Option (List Int)}(hg:∀j,k≤j→j<x.zF.length→FTG x j g):FTV x k (b_e g):=by
 intro p v u hp hv hu;have h6:=h.os.1;have G:=zHa h hk hc;have ok:=h.okAt hk;obtain⟨hul,hur⟩:=zE8 h.os (x.zF.length-k) k u (by omega) hu;have mJ:=vY x k;have hV1:∀j,j≤x.zF.length→j<x.zF.length→V (suf x j) (1::zeros (x.zF.length-(j+1))):=fun j hj bj=>by rw[wW bj];have:=(h.os.2 j bj).pos;refine⟨⟨by omega,by show 1<at0 x.zF j;omega⟩,?_⟩;rw[←vY];exact tO (h.okAt (by omega))
 have hUn:∀i,i<x.zF.length-k→V (suf x k) (zAb (x.zF.length-k) i):=by grind[zFn]
 have hUs:∀c∈jR (x.zF.length-k),V (suf x k) c:=fun c hc=>by
  simp only[jR,Jb,L3]at hc
  grind
 have hA:∀i,V (suf x k) (img (mul (suf x k)) ((jR (x.zF.length-k)).take i) (u.take i) v):=fun i=>
  zAZ (uD ok) _ _ (by grind) hv
 have VB:∀i w,i<x.zF.length-k→V (suf x k) w→g x (p++w) ((k+i:Nat):Int)=VU (p++mul (suf x k) w (zAb (x.zF.length-k) i)):=fun i w hi hw=>by obtain⟨q,w',h1,h2,h3,h4⟩:=zGc i k w (by omega) hw;have h5:=hg (k+i) (by omega) (by omega) (p++q) w' (by grind) h3;rw[Jd,←h1]at h5;rw[h5,zGd hi,h1,show x.zF.length-k-(i+1)=x.zF.length-(k+i+1)from by omega,h4 w' _ h3 (hV1 (k+i) (by omega) (by omega)),Jd]
 unfold b_e;have ah:(zeros k++u).length=x.zF.length:=by grind[yK]
 have:=yB (body:=zQy g x (zeros k++u)) (r:=p++mul (suf x k) v u) (fun j=>(p++img (mul (suf x k)) ((jR (x.zF.length-k)).take (j-k)) (u.take (j-k)) v,(j:Int))) x.zF.length (fun j hj=>by
  unfold zQy;simp only
  rw[ah,wD hj,zR];rcases Jt j k with hjk|hjk
  ·have e0:ixO (zeros k++u) (j:Int)=VU 0:=by
    rw[qC,L1 (by grind)]
    grind[zeros]
   rw[e0,bs,show j-k=0 from by omega,show j+1-k=0 from by omega];rw[xW];unfold zQx;simp only
   rw[show decide ((0:Int)<0)=VX from rfl,zT];simp only
   rw[bs,zL (by omega) (by omega),bs,cs]
  ·obtain⟨i,rfl⟩:∃i,j=k+i:=⟨j-k,by omega⟩
   have hi:i<x.zF.length-k:=by omega
   have hr:=hur i hi;rw[zND (by omega),bs,show k+i-k=i from by omega,show k+i+1-k=i+1 from by omega];rw[tR (S:=V (suf x k)) (fun w=>p++w) (fun w=>mul (suf x k) w (zAb (x.zF.length-k) i)) (at0 u i) hr.1 (by grind[uD]) (fun w q hw hq=>by
    unfold zQx;simp only
    rw[VZ hq,zR,VB i w hi hw,bs,zL (by omega) (by omega),bs,cs]) (fun w hw=>by
    unfold zQx;simp) (hA i),bs,zL (by omega) (by omega),bs,cs]
   rw[zCM _ _ _ _ (by grind[zEA]) (by omega),zLv hi]) (by
  unfold zQy;simp only
  rw[ah,zBa,zT,Jo (by grind[zEA]),Jo (by omega),zE6 G.toMon _ _ hUs hv];have hn:=normal (suf x k) ok (fun Q hQ=>(zMK Q (zIn hQ ok) (zCN hQ hc)).toMon) u hu
  grind)
 simp only[Qb,Lb,img]at this
 grind
theorem zFs{x:SPr}(h:Pres x):∀(d k:Nat),k+d=x.zF.length→qE (suf x k)→(∀m,2*d+1≤m→FTV x k (zNV m))
 |d,k,hk,hc=>fun m hm=>by
  obtain⟨m,rfl⟩:∃m',m=m'+1:=⟨m-1,by omega⟩;refine zP1 h (by omega) hc fun j hj Vw=>?_
  obtain⟨m,rfl⟩:∃m',m=m'+1:=⟨m-1,by omega⟩;have dV:qE (suf x (j+1)):=by
   have:=zE9 hc (j+1-k)
   grind
  exact zKi h Vw dV (zFs h (x.zF.length-(j+1)) (j+1) (by omega) dV m (by omega))
 termination_by d=>d
 decreasing_by omega
theorem zRI{x:SPr}(h:Pres x){k:Nat}(hk:k≤x.zF.length)(hc:qE (suf x k)):FTV x k f_e:=fun p v u hp hv hu=>
 zBL (2*(x.zF.length-k)+1) fun m hm=>zFs h (x.zF.length-k) k (by omega) hc m hm p v u hp hv hu
theorem zRJ{x:SPr}(h:Pres x){k:Nat}(hk:k<x.zF.length)(hc:qE (suf x (k+1))):FTG x k f_d:=fun p v hp hv=>
 zBL (2*(x.zF.length-k)) fun m hm=>by obtain⟨m,rfl⟩:∃m',m=m'+1:=⟨m-1,by omega⟩;exact zKi h hk hc (zFs h (x.zF.length-(k+1)) (k+1) (by omega) hc m (by omega)) p v hp hv
end Go.Pl

namespace Go.Pl
open Go Go.Ab Go.Wk Go.Pc
abbrev fv(k:Nat)(v:Vec):Vec:=zeros k++v
section
variable {x:SPr} (h:Pres x) {k:Nat} (hk:k≤x.zF.length) (hc:qE (suf x k))
 include h hk
theorem zKj{v:Vec}(hv:V (suf x k) v):v.length=x.zF.length-k:=(zE8 h.os (x.zF.length-k) k v (by omega) hv).1
theorem zHb{v:Vec}(hv:V (suf x k) v):(fv k v).length=x.zF.length:=by grind[yK,zKj]
theorem zMT:J2 x.zF.length (0:Int)=fv k (zeros (suf x k).length):=by
 have _:=h;rw[vY];simp only[fv,zeros,Ki];grind
 include hc
theorem zLw{i:Nat}(hi:i<x.zF.length-k):V (suf x k) (zAb (x.zF.length-k) i):=by
 have _:=hc;have:=vY x k;rw[←this]at hi ⊢
 exact zFn (h.okAt hk) hi
theorem zKk{p:Vec}(hp:p.length=k){i:Nat}(hi:i<x.zF.length-k){w:Vec}(hw:V (suf x k) w):f_d x (p++w) ((k+i:Nat):Int)=VU (p++mul (suf x k) w (zAb (x.zF.length-k) i)):=by
 obtain⟨q,w',h1,h2,h3,h4⟩:=zGc i k w (by omega) hw;have dV:qE (suf x (k+i+1)):=zE9 hc (i+1);have h5:=zRJ h (k:=k+i) (by omega) dV (p++q) w' (by grind) h3;have h7:V (suf x (k+i)) (1::zeros (x.zF.length-(k+i+1))):=by
  have bj:k+i<x.zF.length:=by omega
  rw[wW bj];have:=(h.os.2 (k+i) bj).pos;refine⟨⟨by omega,by show 1<at0 x.zF (k+i);omega⟩,?_⟩;rw[←vY];exact tO (h.okAt (by omega))
 grind[zGd]
theorem zHc{a b:Vec}(ha:V (suf x k) a)(hb:V (suf x k) b):f_e x (fv k a) (fv k b)=VU (fv k (mul (suf x k) a b)):=
 zRI h hk hc (zeros k) a b (yK k) ha hb
theorem zKl{a:Vec}(ha:V (suf x k) a):f_J (fv k a)=VU (fv k a):=by
 have _:=hc;have:=zHb h hk ha;have h6:=h.os.1
 grind[f_J,vP]
theorem zH1{a b:Vec}(ha:V (suf x k) a)(hb:V (suf x k) b):zQ3 x (fv k a) (fv k b)=VU (fv k (mul (suf x k) a b)):=by grind[zQ3,zKl,zHc]
theorem zLx{c:Vec}(bq:V (suf x k) c){e:Int}(e0:0≤e)(e1:e≤1000):zSd x (fv k c) e=VU (fv k (pw (mul (suf x k)) (zeros (suf x k).length) c e.toNat)):=by
 have h6:=h.os.1;have ok:=h.okAt hk;unfold zSd;rw[zHb h hk bq,uE (by omega),bs,zMT h hk];rw[tR (S:=V (suf x k)) (body:=zKI x (fv k c) e) (fun u=>fv k u) (fun u=>mul (suf x k) u c) e e0 (by grind[uD]) (fun u i hu hi=>by
  unfold zKI;simp only
  rw[VZ hi,zR,zHc h hk hc hu bq,bs,zL (by omega) (by omega),bs,cs]) (fun u hu=>by
  unfold zKI;simp) (tO ok),bs]
 rfl
theorem zKm{v:Vec}(hv:V (suf x k) v):∃w,V (suf x k) w∧mul (suf x k) v w=zeros (suf x k).length∧f_E x (fv k v)=VU (fv k w):=by
 have h6:=h.os.1;have ok:=h.okAt hk;have G:=zHa h hk hc;have mo:=zHb h hk hv;have mJ:=vY x k;unfold f_E;rw[zKl h hk hc hv,bs,mo,uE (by omega),bs,zMT h hk]
 let I:Nat→(List Int×List Int×Int)→Prop:=fun j s=> ∃A w,s=(fv k A,fv k w,(j:Int))∧V (suf x k) A∧V (suf x k) w∧mul (suf x k) v w=A∧ ∃A',A=zeros (j-k)++A'
 have key:=zAn (body:=zQ2 x (fv k v)) (Q:=fun r=> ∃w,V (suf x k) w∧mul (suf x k) v w=zeros (suf x k).length∧r=fv k w) I x.zF.length (fun j s hj hI=>by
  obtain⟨A,w,rfl,hA,hw,hm,A',hA'⟩:=hI;left;unfold zQ2;simp only
  rw[mo,wD hj,zR];rcases Jt j k with hjk|hjk
  ·have e0:ixO (fv k A) (j:Int)=VU 0:=by
    grind[qC,zeros]
   rw[xW];unfold zNW;simp only
   rw[e0,bs,show((0:Int) != 0)=VX from rfl,zT];simp only
   rw[bs,zL (by omega) (by omega),bs,cs]
   grind
  ·obtain⟨i,rfl⟩:∃i,j=k+i:=⟨j-k,by omega⟩
   have hi:i<x.zF.length-k:=by omega
   rw[show k+i-k=i from by omega]at hA';have ml:=zKj h hk hA;obtain⟨a0,A',rfl⟩:∃p q,A'=p::q:=by
    cases A' with
    |nil=>grind[yK]
    |cons p q=>simp
   have cU:=(h.os.2 (k+i) hj).pos;have inner:=zAn (body:=zNW x (fv k A,fv k w,((k+i:Nat):Int))) (s:=(fv k A,fv k w))
    (Q:=fun r=> ∃B u,r=(fv k B,fv k u)∧V (suf x k) B∧V (suf x k) u∧mul (suf x k) v u=B∧ ∃B',B=zeros (i+1)++B')
    (fun q s=> ∃B u b B',s=(fv k B,fv k u)∧V (suf x k) B∧V (suf x k) u∧mul (suf x k) v u=B∧B=zeros i++b::B'∧(b=0∨b=a0+q)) 10 (fun q s hq hs=>by
     obtain⟨B,u,b,B',rfl,hB,hu,bK,bx,hb⟩:=hs;have hz:ixO (fv k B) ((k+i:Nat):Int)=VU b:=by rw[fv,zND (by grind[zKj]),bx,at0,J7,Jc (by rw[yK];omega),yK,Kc];rfl
     unfold zNW;simp only
     rw[hz,bs]
     by_cases VO:b=0
     ·subst VO
      right;rw[show((0:Int) != 0)=VX from rfl,zT];exact⟨_,rfl,B,u,rfl,hB,hu,bK,B',by rw[bx,zFq]⟩
     ·left
      have hbq:b=a0+q:=by omega
      rw[show(b != 0)=VW from by grind,zR,zKk h hk hc (yK k) hi hB,bs,zKk h hk hc (yK k) hi hu,bs];have hU:=zLw h hk hc hi;obtain⟨q',v',h1,h2,h3,h4⟩:=zGc i k B (by omega) hB;have hqv:q'=zeros i∧v'=b::B':=by grind[List.append_inj,yK]
      obtain⟨rfl,rfl⟩:=hqv;have h7:V (suf x (k+i)) (1::zeros (x.zF.length-(k+i+1))):=by rw[wW hj];refine⟨⟨by omega,by show 1<at0 x.zF (k+i);omega⟩,?_⟩;rw[←vY];exact tO (h.okAt (by omega))
      have h8:=h4 (b::B') _ h3 h7;rw[show x.zF.length-(k+i+1)=x.zF.length-k-(i+1)from by omega,←zGd hi,←h1,wW hj,wC]at h8;refine⟨_,rfl,mul (suf x k) B (zAb (x.zF.length-k) i),mul (suf x k) u (zAb (x.zF.length-k) i),?_⟩;have pj:(lvl x (k+i)).o=at0 x.zF (k+i):=rfl;rw[pj]at h8
      by_cases hge:b+1≥at0 x.zF (k+i)
      ·rw[if_pos hge]at h8
       refine⟨_,_,rfl,uD ok hB hU,uD ok hu hU,?_,h8,?_⟩
       ·rw[←G.assoc hv hu hU,bK]
       ·left
        rw[wW hj]at h3;have:=h3.1.2;omega
      ·rw[if_neg hge]at h8
       refine⟨_,_,rfl,uD ok hB hU,uD ok hu hU,?_,h8,?_⟩
       ·rw[←G.assoc hv hu hU,bK]
       omega) (fun s hs=>by
     obtain⟨B,u,b,B',rfl,hB,hu,bK,bx,hb⟩:=hs;have hz:ixO (fv k B) ((k+i:Nat):Int)=VU b:=by rw[fv,zND (by grind[zKj]),bx,at0,J7,Jc (by rw[yK];omega),yK,Kc];rfl
     have hbr:=(zE8 h.os (x.zF.length-k) k B (by omega) hB).2 i hi;have ha:=(zE8 h.os (x.zF.length-k) k A (by omega) hA).2 i hi;have e1:at0 B i=b:=by rw[bx,at0,J7,Jc (by grind[yK]),yK,Kc];rfl
     have e2:at0 A i=a0:=by rw[hA',at0,J7,Jc (by grind[yK]),yK,Kc];rfl
     have VO:b=0:=by omega
     subst VO;unfold zNW;simp only
     rw[hz,bs,show((0:Int) != 0)=VX from rfl,zT];exact⟨_,rfl,B,u,rfl,hB,hu,bK,B',by rw[bx,zFq]⟩) (by grind)
   obtain⟨r,r1,B,u,rfl,hB,hu,bK,B',bx⟩:=inner;rw[r1,bs,zL (by omega) (by omega),bs,cs]
   grind) (fun s hI=>by
  obtain⟨A,w,rfl,hA,hw,hm,A',hA'⟩:=hI;unfold zQ2;simp only
  rw[mo,zBa,zT];refine⟨_,rfl,w,hw,?_,rfl⟩;have ml:=zKj h hk hA;rw[hA',Ji,yK]at ml
  grind) (s:=(fv k v,fv k (zeros (suf x k).length),0))
  ⟨v,_,rfl,hv,tO ok,G.oner hv,v,by rw[Qb];rfl⟩
 grind
theorem zCO{a b:Vec}(ha:V (suf x k) a)(hb:V (suf x k) b):∃c,V (suf x k) c∧mul (suf x k) b c=mul (suf x k) a b∧zQ4 x (fv k a) (fv k b)=VU (fv k c):=by
 have ok:=h.okAt hk;have G:=zHa h hk hc;obtain⟨w,hw,hm,h1⟩:=zKm h hk hc hb;have VP:=uD ok ha hb;refine⟨mul (suf x k) w (mul (suf x k) a b),uD ok hw VP,?_,?_⟩
 ·rw[←G.assoc hb hw VP,hm,G.onel VP]
 grind[zQ4,zH1]
end
theorem zDX{a b:List Int}(h:a.length≤1000000):f_T a b=VU (a==b):=
 zIh (t:=fun u v=>VU (u==v)) (body:=zUS a b) rfl (fun _=>rfl) (by omega) fun _ _ _ _=>rfl
theorem zNE{a b:List Int}(h:a.length≤1000000):f_K a b=VU (a==b):=zDX h
end Go.Pl

namespace Go.Pl
open Go Go.Ab Go.Wk Go.Pc
theorem zKn{ρ:Type}{body:Int→Option (Int⊕(Unit⊕ρ))}(n i0:Nat)(hn:i0≤n)(P:Nat→Prop)(B:ρ→Prop)
  (h:∀i,i0≤i→i<n→(∀j,i0≤j→j<i→P j)→(body (i:Int)=VU (.inl ((i+1:Nat):Int))∧P i)∨(∃r,body (i:Int)=VU (.inr (.inr r))∧B r∧ ¬P i))
  (he:body (n:Int)=VU (.inr (.inl ()))):
  (zI body (i0:Int)=VU (.inl ())∧ ∀j,i0≤j→j<n→P j)∨ ∃r i,i0≤i∧i<n∧zI body (i0:Int)=VU (.inr r)∧B r∧ ¬P i:=by
 have key:∀k i,i0≤i→i+k=n→(∀j,i0≤j→j<i→P j)→(zI body (i:Int)=VU (.inl ())∧ ∀j,i0≤j→j<n→P j)∨ ∃r q,i0≤q∧q<n∧zI body (i:Int)=VU (.inr r)∧B r∧ ¬P q:=by
  intro k
  induction k with
  |zero=>
   intro i hi hk hp;obtain rfl:i=n:=by omega
   grind[xW]
  |succ k ih=>
   intro i hi hk hp;rcases h i hi (by omega) hp with⟨h1,h2⟩|⟨r,h1,h2,h3⟩
   ·have:=ih (i+1) (by omega) (by omega) (by grind)
    rw[xW,h1];exact this
   ·exact .inr ⟨r,i,hi,by omega,by rw[xW,h1],h2,h3⟩
 exact key (n-i0) i0 (Jf _) (by omega) fun j a b=>by omega
theorem zHd{σ ρ:Type}{body:σ→Option (σ⊕ρ)}{Q:ρ→Prop}(I:σ→Prop)(m:σ→Nat)
  (h:∀s,I s→(∃s',body s=VU (.inl s')∧I s'∧m s'<m s)∨ ∃r,body s=VU (.inr r)∧Q r):∀(k:Nat)(s:σ),m s≤k→I s→ ∃r,zI body s=VU r∧Q r
 |k,s,hk,hs=>by
  rcases h s hs with⟨s',h1,h2,h3⟩|⟨r,h1,h2⟩
  ·cases k with
   |zero=>omega
   |succ k=>
    obtain⟨r,h4,h5⟩:=zHd I m h k s' (by omega) h2
    grind[xW]
  grind[xW]
theorem zUz{k:Nat}{a b:Vec}:(fv k a==fv k b)=VW↔a=b:=by simp
theorem zHe{x:SPr}{v:List Int}{i k:Nat}(h:Exp x.zF v i)(hk:k≤i+1)(hn:k≤x.zF.length):v=fv k (v.drop k)∧V (suf x k) (v.drop k):=by
 have h1:=h.1.1;constructor
 ·apply Kz
  intro j;rw[fv,K8];simp only[zeros,Hl,L0,L6];split
  ·rename_i hj
   have h2:=h.2 j (by omega)
   grind
  grind
 ·refine zUy (x.zF.length-k) k _ (by omega) (by grind) fun j hj=>?_
  have:=h.1.2 (k+j) (by omega)
  grind
structure LC (x:SPr) (k:Nat):Prop where
 c1:∀j,k+1≤j→j<x.zF.length→pw (mul (suf x (k+1))) (zeros (suf x (k+1)).length) ((lvl x k).cs.getD (j-(k+1)) []) (at0 x.zF j).toNat=sig (suf x (k+1)) (lvl x k) ((x.yV.getD j []).drop (k+1))
 c2:∀i,k+1≤i→i<x.zF.length→ ∀j,i+1≤j→j<x.zF.length→
  mul (suf x (k+1)) ((lvl x k).cs.getD (j-(k+1)) []) ((lvl x k).cs.getD (i-(k+1)) [])=mul (suf x (k+1)) ((lvl x k).cs.getD (i-(k+1)) []) (sig (suf x (k+1)) (lvl x k) (((x.zJ.getD i []).getD (j-(i+1)) []).drop (k+1)))
 c3:sig (suf x (k+1)) (lvl x k) (lvl x k).w=(lvl x k).w
 c4:∀j,k+1≤j→j<x.zF.length→mul (suf x (k+1)) (lvl x k).w (iter (lvl x k).o.toNat (sig (suf x (k+1)) (lvl x k)) (zAb (x.zF.length-(k+1)) (j-(k+1))))=mul (suf x (k+1)) (zAb (x.zF.length-(k+1)) (j-(k+1))) (lvl x k).w
section
variable {x:SPr} (h:Pres x) {k:Nat} (hk:k<x.zF.length) (hc:qE (suf x (k+1)))
 include h hk
theorem zBP{j:Nat}(h1:k+1≤j)(h2:j<x.zF.length):ixO x.zJ (k:Int)=VU (x.zJ.getD k [])∧ixO (x.zJ.getD k []) ((j:Int)-(k:Int)-1)=VU (fv (k+1) ((lvl x k).cs.getD (j-(k+1)) []))∧V (suf x (k+1)) ((lvl x k).cs.getD (j-(k+1)) []):=by
 obtain⟨c,c1,c2,c3,c4⟩:=zGb h hk (i:=j-(k+1)) (by omega)
 grind
theorem zP2{j:Nat}(h1:k+1≤j)(h2:j<x.zF.length):ixO x.yV (j:Int)=VU (fv (k+1) ((x.yV.getD j []).drop (k+1)))∧V (suf x (k+1)) ((x.yV.getD j []).drop (k+1)):=by
 have t1:=(h.tl j h2).1;have hl:=h.pl
 grind[zHe,wA]
theorem zTz{i j:Nat}(h1:k+1≤i)(h2:i+1≤j)(h3:j<x.zF.length):ixO x.zJ (i:Int)=VU (x.zJ.getD i [])∧ixO (x.zJ.getD i []) ((j:Int)-(i:Int)-1)=VU (fv (k+1) (((x.zJ.getD i []).getD (j-(i+1)) []).drop (k+1)))∧V (suf x (k+1)) (((x.zJ.getD i []).getD (j-(i+1)) []).drop (k+1)):=by
 obtain⟨_,t2,t3⟩:=h.tl i (by omega)
 grind[zHe,wA]
theorem zWr:ixO x.yV (k:Int)=VU (fv (k+1) (lvl x k).w)∧V (suf x (k+1)) (lvl x k).w:=by have t1:=(h.tl k hk).1;have hl:=h.pl;obtain⟨e1,e2⟩:=zHe (k:=k+1) t1 (by omega) (by omega);exact⟨by rw[wA [] (by omega)];exact congrArg VU e1,e2⟩
theorem zT0{v:Vec}(hv:V (suf x (k+1)) v):V (suf x (k+1)) (sig (suf x (k+1)) (lvl x k) v):=by
 have ok0:=h.okAt (k:=k) (by omega)
 grind[wW,zJe]
theorem zIp{j:Nat}(h1:k+1≤j)(h2:j<x.zF.length):zQ5 (x.zF.length:Int) (j:Int)=VU (fv (k+1) (zAb (x.zF.length-(k+1)) (j-(k+1)))):=by
 have h6:=h.os.1;unfold zQ5;rw[uE (by omega),bs,qC,L0,if_pos h2,bs,Jl]
 congr 1
 rw[fv,zGd (by omega),←Jd];have e1:zeros (k+1)++zeros (j-(k+1))=zeros j:=by grind[zeros,Ki]
 have e2:J2 x.zF.length (0:Int)=zeros j++0::zeros (x.zF.length-(j+1)):=by simp only[zeros];rw[←Km,Ki];grind
 grind[zIl]
theorem zNF{j:Nat}(h1:k+1≤j)(h2:j<x.zF.length):zUL (x.zF.length:Int) (j:Int)=VU (fv (k+1) (zAb (x.zF.length-(k+1)) (j-(k+1)))):=zIp h hk h1 h2
 include hc
theorem zBb{v:Vec}(hv:V (suf x (k+1)) v):f_y x k (fv (k+1) v)=VU (fv (k+1) (sig (suf x (k+1)) (lvl x k) v)):=by
 have h6:=h.os.1;have ok:=h.okAt (k:=k+1) (by omega);have ok0:=h.okAt (k:=k) (by omega);rw[wW hk]at ok0;obtain⟨mo,dJ⟩:=zE8 h.os (x.zF.length-(k+1)) (k+1) v (by omega) hv;have gK:(lvl x k).cs.length=x.zF.length-(k+1):=by rw[ok0.2.2.1,vY]
 have t2:=(h.tl k hk).2.1;have VG:=h.cl;have hA:∀i,V (suf x (k+1)) (img (mul (suf x (k+1))) ((lvl x k).cs.take i) (v.take i) (zeros (suf x (k+1)).length)):=fun i=>
  zAZ (uD ok) _ _ (fun c hc=>ok0.2.2.2.1 c (by grind)) (tO ok)
 unfold f_y;rw[zHb h (by omega) hv,uE (by omega),bs,wA [] (by omega),bs,zMT h (k:=k+1) (by omega)];have:=yB (body:=zQ1 x k (fv (k+1) v) (x.zJ.getD k [])) (r:=fv (k+1) (sig (suf x (k+1)) (lvl x k) v))
  (fun i=>(fv (k+1) (img (mul (suf x (k+1))) ((lvl x k).cs.take i) (v.take i) (zeros (suf x (k+1)).length)),(i:Int))) (x.zJ.getD k []).length (fun i hi=>by
  have hr:=dJ i (by omega);obtain⟨c,c1,c2,c3,c4⟩:=zGb h hk (i:=i) (by omega);unfold zQ1;simp only
  rw[wD hi,zR,c2,bs,zL (by omega) (by omega),bs,zL (by omega) (by omega),bs,show(k:Int)+1+(i:Int)=((k+1+i:Nat):Int)from by omega,fv,zND (by omega),bs];rw[tR (S:=V (suf x (k+1))) (body:=zQ0 x (zeros (k+1)++c) (at0 v i)) (fun u=>fv (k+1) u) (fun u=>mul (suf x (k+1)) u c) (at0 v i) hr.1 (by grind[uD]) (fun u q hu hq=>by
   unfold zQ0;simp only
   rw[VZ hq,zR,zHc h (by omega) hc hu c3,bs,zL (by omega) (by omega),bs,cs]) (fun u hu=>by
   unfold zQ0;simp) (hA i),bs,zL (by omega) (by omega),bs,cs]
  rw[zCM _ _ _ _ (by omega) (by omega),c4]) (by
  unfold zQ1;simp only
  rw[zBa,zT,Jo (by omega),Jo (by omega)];rfl)
 simp only[Lb,img]at this
 grind
theorem zCP{a b:Vec}(ha:V (suf x (k+1)) a):IsB (f_T (fv (k+1) a) (fv (k+1) b)) (a=b):=by
 have _:=hc;have h6:=h.os.1
 grind[zDX,zHb,IsB.of_bool,zUz]
theorem zKo{c:Vec}(bq:V (suf x (k+1)) c){e:Int}(e0:0≤e)(e1:e≤1000):zRX x ((k+1:Nat):Int) (fv (k+1) c) e=VU (fv (k+1) (pw (mul (suf x (k+1))) (zeros (suf x (k+1)).length) c e.toNat)):=by
 have h6:=h.os.1;have ok:=h.okAt (k:=k+1) (by omega);have G:=zHa h (k:=k+1) (by omega) hc;have hA:=zMS h (k:=k+1) (by omega);have pwV:∀a,V (suf x (k+1)) (pw (mul (suf x (k+1))) (zeros (suf x (k+1)).length) c a):=fun a=>sN G.toMon bq a
 unfold zRX;rw[uE (by omega),bs,zMT h (k:=k+1) (by omega)];obtain⟨r,r1,r2⟩:=zHd (body:=zNi x ((k+1:Nat):Int)) (Q:=fun r=>r=fv (k+1) (pw (mul (suf x (k+1))) (zeros (suf x (k+1)).length) c e.toNat))
  (fun s=> ∃(m a q:Nat),s=((m:Int),fv (k+1) (pw (mul (suf x (k+1))) (zeros (suf x (k+1)).length) c a),fv (k+1) (pw (mul (suf x (k+1))) (zeros (suf x (k+1)).length) c q))∧a+q*m=e.toNat∧m≤1000) (fun s=>s.1.toNat) (fun s ⟨m,a,q,hs,he,hm⟩=>by
   subst hs;unfold zNi;simp only
   by_cases hm0:m=0
   ·grind
   ·left
    have hr:vN (m:Int) 2=VU ((m%2:Nat):Int):=by rfl
    have hq:yQ (m:Int) 2=VU ((m/2:Nat):Int):=by
     unfold yQ;rw[if_neg (by decide),Int.tdiv_eq_ediv_of_nonneg (by omega)]
     grind[zL]
    have dU:=Nat.div_add_mod m 2;have da:mul (suf x (k+1)) (pw (mul (suf x (k+1))) (zeros (suf x (k+1)).length) c q) (pw (mul (suf x (k+1))) (zeros (suf x (k+1)).length) c q)=pw (mul (suf x (k+1))) (zeros (suf x (k+1)).length) c (q+q):=(zGP G.toMon bq q q).symm;rw[VZ (by omega),zR,hr,bs];rcases Nat.mod_two_eq_zero_or_one m with h2|h2
    ·rw[h2,show((((0:Nat):Int))==1)=VX from rfl,zT,hA _ _ (pwV q) (pwV q),bs,hq,bs,da]
     refine⟨_,rfl,⟨m/2,a,q+q,rfl,?_,by omega⟩,by omega⟩
     grind
    ·rw[h2,show((((1:Nat):Int))==1)=VW from rfl,zR,hA _ _ (pwV a) (pwV q),bs,hA _ _ (pwV q) (pwV q),bs,hq,bs,da,←zGP G.toMon bq a q]
     refine⟨_,rfl,⟨m/2,a+q,q+q,rfl,?_,by omega⟩,by omega⟩
     grind) 1000000 (e,fv (k+1) (zeros (suf x (k+1)).length),fv (k+1) c) (by omega) ⟨e.toNat,0,1,by rw[zPp G.toMon bq,show((e.toNat:Nat):Int)=e from by omega];rfl,by omega,by omega⟩
 grind
end
end Go.Pl

namespace Go.Pl
open Go Go.Ab Go.Wk Go.Pc
def zWs(o:Option xJ)(P:Prop):Prop:=(o=VU (xJ.mk 0 0 0 0)∧P)∨ ∃r,o=VU r∧r.Kind≠0∧ ¬P
theorem kb{a b c d:Int}(h:a≠0):(xJ.mk a b c d).Kind≠0:=h
abbrev KB(r:xJ):Prop:=r.Kind≠0
theorem zBQ{o:Option Bool}{P:Prop}{bad:xJ}{i:Nat}{g:Option (Int⊕(Unit⊕xJ))}(h:IsB o P)(hi:i<9223372036854775807)(hbad:bad.Kind≠0)
  (hg:g=o.bind fun r=>cond (!r) (VU (.inr (.inr bad))) ((rng ((i:Int)+1)).bind fun v=>VU (.inl v))):(g=VU (.inl ((i+1:Nat):Int))∧P)∨(∃r,g=VU (.inr (.inr r))∧KB r∧ ¬P):=by
 rcases tP h hi hg with h|⟨h1,h2⟩
 all_goals grind
section
variable {x:SPr} (h:Pres x) {k:Nat} (hk:k<x.zF.length) (hc:qE (suf x (k+1)))
 include h hk hc
theorem zLy:zWs (f_m x k) (LC x k):=by
 have h6:=h.os.1;have ok:=h.okAt (k:=k+1) (by omega);have G:=zHa h (k:=k+1) (by omega) hc;obtain⟨w1,w2⟩:=zWr h hk;have pt:∀v,V (suf x (k+1)) v→V (suf x (k+1)) (sig (suf x (k+1)) (lvl x k) v):=by grind[zT0]
 unfold f_m;rw[zL (by omega) (by omega),bs,cs];rcases zKn (body:=zQ6 x k) x.zF.length (k+1) (by omega) (fun j=>pw (mul (suf x (k+1))) (zeros (suf x (k+1)).length) ((lvl x k).cs.getD (j-(k+1)) []) (at0 x.zF j).toNat=sig (suf x (k+1)) (lvl x k) ((x.yV.getD j []).drop (k+1))) KB (fun j h1 h2 _=>by
   obtain⟨c1,c2,c3⟩:=zBP h hk h1 h2;obtain⟨p1,p2⟩:=zP2 h hk h1 h2;have cU:=(h.os.2 j h2).pos;refine zBQ (zCP h hk hc (sN G.toMon c3 (at0 x.zF j).toNat)) (by omega) (bad:=xJ.mk 1 k j 0) (kb (by decide)) ?_;unfold zQ6;rw[wD h2,zR,c1,bs,zL (by omega) (by omega),bs,zL (by omega) (by omega),bs,c2,bs,xV h2,bs,zLx h (by omega) hc c3 (by omega) (by omega),bs,p1,bs,zBb h hk hc p2,bs]) (by
   unfold zQ6;simp)with⟨g1,g2⟩|⟨r,j,j1,j2,g1,g2,g3⟩
 rotate_left
 ·rw[g1,bs]
  exact .inr ⟨r,rfl,g2,fun q=>g3 (q.c1 j j1 j2)⟩
 rw[g1,bs];simp only
 rw[bs];rcases zKn (body:=zQ8 x k) x.zF.length (k+1) (by omega) (fun i=> ∀j,i+1≤j→j<x.zF.length→
   mul (suf x (k+1)) ((lvl x k).cs.getD (j-(k+1)) []) ((lvl x k).cs.getD (i-(k+1)) [])=mul (suf x (k+1)) ((lvl x k).cs.getD (i-(k+1)) []) (sig (suf x (k+1)) (lvl x k) (((x.zJ.getD i []).getD (j-(i+1)) []).drop (k+1)))) KB (fun i h1 h2 _=>by
   obtain⟨c1,c2,c3⟩:=zBP h hk h1 h2;unfold zQ8;rw[wD h2,zR,zL (by omega) (by omega),bs,cs];rcases zKn (body:=zQ7 x k i) x.zF.length (i+1) (by omega) (fun j=>mul (suf x (k+1)) ((lvl x k).cs.getD (j-(k+1)) []) ((lvl x k).cs.getD (i-(k+1)) [])=mul (suf x (k+1)) ((lvl x k).cs.getD (i-(k+1)) []) (sig (suf x (k+1)) (lvl x k) (((x.zJ.getD i []).getD (j-(i+1)) []).drop (k+1)))) KB (fun j h3 h4 _=>by
     obtain⟨d1,d2,d3⟩:=zBP h hk (j:=j) (by omega) h4;obtain⟨e1,e2,e3⟩:=zTz h hk h1 h3 h4;obtain⟨q,q1,q2,q3⟩:=zCO h (by omega) hc d3 c3;refine zBQ ((zCP h hk hc (b:=sig (suf x (k+1)) (lvl x k) (((x.zJ.getD i []).getD (j-(i+1)) []).drop (k+1))) q1).iff (Q:=mul (suf x (k+1)) ((lvl x k).cs.getD (j-(k+1)) []) ((lvl x k).cs.getD (i-(k+1)) [])=mul (suf x (k+1)) ((lvl x k).cs.getD (i-(k+1)) []) (sig (suf x (k+1)) (lvl x k) (((x.zJ.getD i []).getD (j-(i+1)) []).drop (k+1)))) ?_) (by omega) (bad:=xJ.mk 2 k i j) (kb (by decide)) ?_
     ·exact⟨by grind,fun e=>G.cancel_l c3 q1 (pt _ e3) (by rw[q2,e])⟩
     ·unfold zQ7
      rw[wD h4,zR,d1,bs,zL (by omega) (by omega),bs,zL (by omega) (by omega),bs,d2,bs,bs,zL (by omega) (by omega),bs,zL (by omega) (by omega),bs,c2,bs,q3,bs,e1,bs,zL (by omega) (by omega),bs,zL (by omega) (by omega),bs,e2,bs,zBb h hk hc e3,bs]) (by
     unfold zQ7;simp)with⟨g1,g2⟩|⟨r,j,j1,j2,g1,g2,g3⟩
   ·grind
   grind) (by
   unfold zQ8;simp)with⟨k1,k2⟩|⟨r,j,j1,j2,k1,k2,k3⟩
 rotate_left
 ·rw[k1,bs]
  exact .inr ⟨r,rfl,k2,fun q=>k3 (q.c2 j j1 j2)⟩
 rw[k1,bs];simp only
 rw[w1,bs,zBb h hk hc w2,bs];rcases zCP h hk hc (b:=(lvl x k).w) (pt _ w2)with⟨m1,m2⟩|⟨m1,m2⟩
 rotate_left
 ·rw[m1,bs,Jv,zR]
  exact .inr ⟨_,rfl,kb (by decide),fun q=>m2 q.c3⟩
 rw[m1,bs,Jg,zT,bs];rcases zKn (body:=zQA x k (fv (k+1) (lvl x k).w)) x.zF.length (k+1) (by omega) (fun j=>mul (suf x (k+1)) (lvl x k).w (iter (lvl x k).o.toNat (sig (suf x (k+1)) (lvl x k)) (zAb (x.zF.length-(k+1)) (j-(k+1))))=mul (suf x (k+1)) (zAb (x.zF.length-(k+1)) (j-(k+1))) (lvl x k).w) KB (fun j h1 h2 _=>by
   have hU:=zLw h (k:=k+1) (by omega) hc (i:=j-(k+1)) (by omega);have cU:=(h.os.2 k hk).pos;obtain⟨q,q1,q2,q3⟩:=zCO h (k:=k+1) (by omega) hc hU w2;have fC:V (suf x (k+1)) (iter (lvl x k).o.toNat (sig (suf x (k+1)) (lvl x k)) (zAb (x.zF.length-(k+1)) (j-(k+1)))):=jT pt _ hU;refine zBQ ((zCP h hk hc (b:=q) fC).iff ⟨by grind,fun e=>G.cancel_l w2 fC q1 (by rw[e,q2])⟩) (by omega) (bad:=xJ.mk 4 k j 0) (kb (by decide)) ?_;unfold zQA;rw[wD h2,zR,zIp h hk h1 h2,bs,xV hk,bs];rw[tR (S:=V (suf x (k+1))) (body:=zQ9 x k (at0 x.zF k)) (fun u=>fv (k+1) u) (sig (suf x (k+1)) (lvl x k)) (at0 x.zF k) (by omega) pt (fun u i hu hi=>by
    unfold zQ9;simp only
    rw[VZ hi,zR,zBb h hk hc hu,bs,zL (by omega) (by omega),bs,cs]) (fun u hu=>by
    unfold zQ9;simp) hU,bs,bs,q3,bs]
   rfl) (by
   unfold zQA;simp)with⟨n1,n2⟩|⟨r,j,j1,j2,n1,n2,n3⟩
 ·rw[n1,bs]
  exact .inl ⟨rfl,⟨g2,k2,m2,n2⟩⟩
 ·rw[n1,bs]
  exact .inr ⟨r,rfl,n2,fun q=>n3 (q.c4 j j1 j2)⟩
theorem zLz:zWs (f_n x k) (LC x k):=by
 have h6:=h.os.1;have ok:=h.okAt (k:=k+1) (by omega);have G:=zHa h (k:=k+1) (by omega) hc;obtain⟨w1,w2⟩:=zWr h hk;have hA:=zMS h (k:=k+1) (by omega);have hI:=zLt h hk;have pt:∀v,V (suf x (k+1)) v→V (suf x (k+1)) (sig (suf x (k+1)) (lvl x k) v):=by grind[zT0]
 have eqB:∀{a b:Vec},V (suf x (k+1)) a→IsB (f_K (fv (k+1) a) (fv (k+1) b)) (a=b):=fun ha=>zCP h hk hc ha
 unfold f_n;rw[zL (by omega) (by omega),bs,cs];rcases zKn (body:=zQd x k) x.zF.length (k+1) (by omega) (fun j=>pw (mul (suf x (k+1))) (zeros (suf x (k+1)).length) ((lvl x k).cs.getD (j-(k+1)) []) (at0 x.zF j).toNat=sig (suf x (k+1)) (lvl x k) ((x.yV.getD j []).drop (k+1))) KB (fun j h1 h2 _=>by
   obtain⟨c1,c2,c3⟩:=zBP h hk h1 h2;obtain⟨p1,p2⟩:=zP2 h hk h1 h2;have cU:=(h.os.2 j h2).pos;refine zBQ (eqB (sN G.toMon c3 (at0 x.zF j).toNat)) (by omega) (bad:=xJ.mk 1 k j 0) (kb (by decide)) ?_;unfold zQd;rw[wD h2,zR,zL (by omega) (by omega),bs,cs,c1,bs,zL (by omega) (by omega),bs,zL (by omega) (by omega),bs,c2,bs,xV h2,bs,zKo h hk hc c3 (by omega) (by omega),bs,p1,bs,hI _ p2,bs]) (by
   unfold zQd;simp)with⟨g1,g2⟩|⟨r,j,j1,j2,g1,g2,g3⟩
 rotate_left
 ·rw[g1,bs]
  exact .inr ⟨r,rfl,g2,fun q=>g3 (q.c1 j j1 j2)⟩
 rw[g1,bs];simp only
 rw[bs];rcases zKn (body:=zQf x k) x.zF.length (k+1) (by omega) (fun i=> ∀j,i+1≤j→j<x.zF.length→
   mul (suf x (k+1)) ((lvl x k).cs.getD (j-(k+1)) []) ((lvl x k).cs.getD (i-(k+1)) [])=mul (suf x (k+1)) ((lvl x k).cs.getD (i-(k+1)) []) (sig (suf x (k+1)) (lvl x k) (((x.zJ.getD i []).getD (j-(i+1)) []).drop (k+1)))) KB (fun i h1 h2 _=>by
   obtain⟨c1,c2,c3⟩:=zBP h hk h1 h2;unfold zQf;rw[wD h2,zR,zL (by omega) (by omega),bs,cs];rcases zKn (body:=zQe x k i) x.zF.length (i+1) (by omega) (fun j=>mul (suf x (k+1)) ((lvl x k).cs.getD (j-(k+1)) []) ((lvl x k).cs.getD (i-(k+1)) [])=mul (suf x (k+1)) ((lvl x k).cs.getD (i-(k+1)) []) (sig (suf x (k+1)) (lvl x k) (((x.zJ.getD i []).getD (j-(i+1)) []).drop (k+1)))) KB (fun j h3 h4 _=>by
     obtain⟨d1,d2,d3⟩:=zBP h hk (j:=j) (by omega) h4;obtain⟨e1,e2,e3⟩:=zTz h hk h1 h3 h4;refine zBQ (eqB (uD ok d3 c3)) (by omega) (bad:=xJ.mk 2 k i j) (kb (by decide)) ?_;unfold zQe;rw[wD h4,zR,d1,bs,zL (by omega) (by omega),bs,zL (by omega) (by omega),bs,c2,bs,bs,zL (by omega) (by omega),bs,zL (by omega) (by omega),bs,d2,bs,e1,bs,zL (by omega) (by omega),bs,zL (by omega) (by omega),bs,e2,bs,hI _ e3,bs,zL (by omega) (by omega),bs,cs,hA _ _ d3 c3,bs,bs,hA _ _ c3 (pt _ e3),bs]) (by
     unfold zQe;simp)with⟨g1,g2⟩|⟨r,j,j1,j2,g1,g2,g3⟩
   ·grind
   grind) (by
   unfold zQf;simp)with⟨k1,k2⟩|⟨r,j,j1,j2,k1,k2,k3⟩
 rotate_left
 ·rw[k1,bs]
  exact .inr ⟨r,rfl,k2,fun q=>k3 (q.c2 j j1 j2)⟩
 rw[k1,bs];simp only
 rw[w1,bs,hI _ w2,bs];rcases eqB (b:=(lvl x k).w) (pt _ w2)with⟨m1,m2⟩|⟨m1,m2⟩
 rotate_left
 ·rw[m1,bs,Jv,zR]
  exact .inr ⟨_,rfl,kb (by decide),fun q=>m2 q.c3⟩
 rw[m1,bs,Jg,zT,bs];rcases zKn (body:=zQh x k (fv (k+1) (lvl x k).w)) x.zF.length (k+1) (by omega) (fun j=>mul (suf x (k+1)) (lvl x k).w (iter (lvl x k).o.toNat (sig (suf x (k+1)) (lvl x k)) (zAb (x.zF.length-(k+1)) (j-(k+1))))=mul (suf x (k+1)) (zAb (x.zF.length-(k+1)) (j-(k+1))) (lvl x k).w) KB (fun j h1 h2 _=>by
   have hU:=zLw h (k:=k+1) (by omega) hc (i:=j-(k+1)) (by omega);have cU:=(h.os.2 k hk).pos;have fC:V (suf x (k+1)) (iter (lvl x k).o.toNat (sig (suf x (k+1)) (lvl x k)) (zAb (x.zF.length-(k+1)) (j-(k+1)))):=jT pt _ hU;refine zBQ (eqB (uD ok w2 fC)) (by omega) (bad:=xJ.mk 4 k j 0) (kb (by decide)) ?_;unfold zQh;rw[wD h2,zR,zNF h hk h1 h2,bs];rw[tR (S:=V (suf x (k+1))) (body:=zQg x k) (fun u=>fv (k+1) u) (sig (suf x (k+1)) (lvl x k)) (at0 x.zF k) (by omega) pt (fun u i hu hi=>by
    unfold zQg;simp only
    rw[xV hk,bs,VZ hi,zR,hI _ hu,bs,zL (by omega) (by omega),bs,cs]) (fun u hu=>by
    unfold zQg;simp only
    rw[xV hk,bs,VY (by omega),zT]) hU,bs,zL (by omega) (by omega),bs,cs]
   have ho:(lvl x k).o=at0 x.zF k:=rfl;rw[←ho,hA _ _ w2 fC,bs,bs,hA _ _ hU w2,bs]) (by
   unfold zQh;simp)with⟨n1,n2⟩|⟨r,j,j1,j2,n1,n2,n3⟩
 ·rw[n1,bs]
  exact .inl ⟨rfl,⟨g2,k2,m2,n2⟩⟩
 ·rw[n1,bs]
  exact .inr ⟨r,rfl,n2,fun q=>n3 (q.c4 j j1 j2)⟩
end
end Go.Pl

namespace Go.Pl
open Go Go.Ab Go.Wk Go.Pc
theorem zFt{m:Vec→Vec→Vec}:∀(i:Nat)(cs:List Vec)(w acc:Vec),i≤cs.length→img m cs (zeros i++w) acc=img m (cs.drop i) w acc
 |0,cs,w,acc,_=>rfl
 |i+1,[],w,acc,h=>by simp at h
 |i+1,c::cs,w,acc,h=>by show img m (c::cs) (0::(zeros i++w)) acc=_;simp only[img,Lu,iter,List.drop_succ_cons];exact zFt i cs w acc (by grind)
theorem zHf{x:SPr}{v:List Int}{j k:Nat}(h:Exp x.zF v j)(hj:j<x.zF.length)(hk:k≤j+1):v.drop k=zeros (j+1-k)++v.drop (j+1):=by
 have:=zDh h hj
 grind[zeros]
section
variable {x:SPr} (h:zGZ x) {k:Nat} (hk:k<x.zF.length)
 include h hk
theorem zDi:(lvl x k).cs.length=x.zF.length-(k+1):=by have ok0:=h.okAt (k:=k) (by omega);rw[wW hk]at ok0;rw[ok0.2.2.1,vY]
theorem zRK{j:Nat}(h1:k+1≤j)(h2:j<x.zF.length):sig (suf x (k+1)) (lvl x k) ((x.yV.getD j []).drop (k+1))=img (mul (suf x (k+1))) ((lvl x k).cs.drop (j-k)) (lvl x j).w (zeros (suf x (k+1)).length):=by have t1:=(h.tl j h2).1;have gK:=zDi h hk;rw[zHf t1 h2 (by omega),sig,zFt _ _ _ _ (by omega),show j+1-(k+1)=j-k from by omega];rfl
theorem zMU:∀(d i:Nat),k+1+i+d=x.zF.length→(Rel (mul (suf x (k+1))) (zeros (suf x (k+1)).length) (suf x (k+1+i)) ((lvl x k).cs.drop i)↔
  (∀j,k+1+i≤j→j<x.zF.length→pw (mul (suf x (k+1))) (zeros (suf x (k+1)).length) ((lvl x k).cs.getD (j-(k+1)) []) (at0 x.zF j).toNat=sig (suf x (k+1)) (lvl x k) ((x.yV.getD j []).drop (k+1)))∧
  (∀a,k+1+i≤a→a<x.zF.length→ ∀j,a+1≤j→j<x.zF.length→
   mul (suf x (k+1)) ((lvl x k).cs.getD (j-(k+1)) []) ((lvl x k).cs.getD (a-(k+1)) [])=mul (suf x (k+1)) ((lvl x k).cs.getD (a-(k+1)) []) (sig (suf x (k+1)) (lvl x k) (((x.zJ.getD a []).getD (j-(a+1)) []).drop (k+1)))))
 |0,i,hi=>by
  have gK:=zDi h hk;rw[zBz (x:=x) (k:=k+1+i) (by omega),Gw (by omega)];simp only[Rel,true_iff]
  grind
 |d+1,i,hi=>by
  have gK:=zDi h hk;have ih:=zMU d (i+1) (by omega);rw[show k+1+(i+1)=k+1+i+1 from by omega]at ih;have hj:k+1+i<x.zF.length:=by omega
  have hg:(lvl x k).cs.drop i=(lvl x k).cs.getD i []::(lvl x k).cs.drop (i+1):=by rw[Hh (by omega),J7,J5 (by omega)];rfl
  rw[wW hj,hg];simp only[Rel];rw[ih];have e1:=zRK h hk (j:=k+1+i) (by omega) hj;rw[show k+1+i-k=i+1 from by omega]at e1;have ho:(lvl x (k+1+i)).o=at0 x.zF (k+1+i):=rfl;rw[ho,←e1];have e2:∀j,k+1+i+1≤j→j<x.zF.length→ ∀dd,(lvl x (k+1+i)).cs[j-(k+1+i+1)]? =VU dd→img (mul (suf x (k+1))) ((lvl x k).cs.drop (i+1)) dd (zeros (suf x (k+1)).length)=sig (suf x (k+1)) (lvl x k) (((x.zJ.getD (k+1+i) []).getD (j-(k+1+i+1)) []).drop (k+1)):=fun j h1 h2 dd hdd=>by
   obtain⟨_,t2,t3⟩:=h.tl (k+1+i) hj;have t:=t3 (j-(k+1+i+1)) (by omega);rw[zHf t hj (by omega),sig,zFt _ _ _ _ (by omega),show k+1+i+1-(k+1)=i+1 from by omega]
   congr 1
   simp only[lvl,Jr,Kg]at hdd
   grind
  have e3:∀j,k+1+i+1≤j→j<x.zF.length→((lvl x k).cs.drop (i+1))[j-(k+1+i+1)]? =VU ((lvl x k).cs.getD (j-(k+1)) [])∧ ∃dd,(lvl x (k+1+i)).cs[j-(k+1+i+1)]? =VU dd:=fun j h1 h2=>by
   have VG:=zDi h hj;refine⟨?_,?_⟩
   ·rw[L6,show i+1+(j-(k+1+i+1))=j-(k+1)from by omega,J7,J5 (by omega)];rfl
   ·exact⟨_,J5 (by omega)⟩
  constructor
  ·rintro⟨a1,a2,a3,a4⟩
   refine⟨fun j h1 h2=>?_,fun a h1 h2 j h3 h4=>?_⟩
   ·rcases Jt (k+1+i) j with gI|hge
    ·grind
    ·obtain rfl:j=k+1+i:=by omega
     rw[show k+1+i-(k+1)=i from by omega];exact a1
   ·rcases Jt (k+1+i) a with gI|hge
    ·exact a4 a (by omega) h2 j h3 h4
    ·obtain rfl:a=k+1+i:=by omega
     obtain⟨f1,dd,f2⟩:=e3 j (by omega) h4;have:=a2 _ _ _ f1 f2;rw[e2 j (by omega) h4 dd f2]at this;rw[show k+1+i-(k+1)=i from by omega];exact this
  ·rintro⟨a1,a2⟩
   refine⟨?_,fun kk c dd h1 h2=>?_,by grind,by grind⟩
   ·have:=a1 (k+1+i) (by omega) hj
    rw[show k+1+i-(k+1)=i from by omega]at this;exact this
   ·have gI:kk<x.zF.length-(k+1+i+1):=by
     have:=(J9.1 h1).1;rw[List.length_drop]at this;omega
    have g:=a2 (k+1+i) (by omega) hj (k+1+i+1+kk) (by omega) (by omega);obtain⟨f1,_⟩:=e3 (k+1+i+1+kk) (by omega) (by omega);rw[show k+1+i+1+kk-(k+1+i+1)=kk from by omega]at f1 g;rw[h1]at f1;have f1:=H8.inj f1;have g2:=e2 (k+1+i+1+kk) (by omega) (by omega) dd (by rw[show k+1+i+1+kk-(k+1+i+1)=kk from by omega];exact h2);rw[show k+1+i+1+kk-(k+1+i+1)=kk from by omega]at g2;rw[g2,f1];rw[show k+1+i-(k+1)=i from by omega]at g;exact g
theorem zKp:qE (suf x k)↔qE (suf x (k+1))∧LC x k:=by
 have hr:=zMU h hk (x.zF.length-(k+1)) 0 (by omega);have hl:=vY x (k+1);rw[Qh,Gx]at hr;rw[wW hk];simp only[qE];rw[hr];constructor
 ·rintro⟨a,⟨b1,b2⟩,c,d⟩
  refine⟨a,⟨b1,b2,c,fun j h1 h2=>?_⟩⟩
  grind
 ·rintro⟨a,b⟩
  refine⟨a,⟨b.c1,b.c2⟩,b.c3,fun j hj=>?_⟩;have:=b.c4 (k+1+j) (by omega) (by omega);rw[show k+1+j-(k+1)=j from by omega]at this
  rwa [hl]
end
theorem zIq{x:SPr}(h:qE (suf x 0))(k:Nat):qE (suf x k):=by
 have:=zE9 h k
 grind
def zDY(x:SPr):Prop:=Pres x∧qE (suf x 0)∧zP0 x
theorem zEB{x:SPr}(hl:x.zF.length≤1048576):IsB (zSe x) (zDY x):=by
 unfold zSe;rcases zDp hl with⟨h1,h2⟩|⟨h1,h2⟩
 ·have h6:=h2.os.1
  rw[h1,bs,zR];unfold zUT;obtain⟨r,r1,r2⟩:=zAn (body:=zKJ x) (Q:=fun r=> ∃s:Nat,r=(s:Int)∧qE (suf x s)∧(s=0∨ ¬qE (suf x (s-1)))) (fun i s=>i≤x.zF.length∧s=((x.zF.length-i:Nat):Int)∧qE (suf x (x.zF.length-i))) x.zF.length (fun i s hi ⟨_,hs,gW⟩=>by
    subst hs;have hk:x.zF.length-i-1<x.zF.length:=by omega
    have e9:x.zF.length-(i+1)=x.zF.length-i-1:=by omega
    rw[e9];have e8:i+1≤x.zF.length:=by omega
    rw[show x.zF.length-i=x.zF.length-i-1+1 from by omega]at gW ⊢
    have bh:=zLy h2.toPres hk gW;have du:=zKp h2.toPres.w hk
    generalize x.zF.length-i-1=k at*
    unfold zKJ;rw[VZ (by omega),zR,zL (by omega) (by omega),bs,show(((k+1:Nat):Int)-1)=(k:Int)from by omega];rcases bh with⟨g1,g2⟩|⟨r,g1,g2,g3⟩
    ·simp_all
    grind) (fun s ⟨_,hs,gW⟩=>by
    rw[Kc]at hs gW;subst hs;unfold zKJ
    grind) (s:=(x.zF.length:Int)) ⟨by omega,by rfl,by rw[Ut,zBz (by omega)];simp only[qE]⟩
  obtain⟨s,rfl,gW,hs⟩:=r2;rw[r1,bs,bs];cases s with
  |zero=>exact .inl ⟨rfl,h2.toPres,gW,h2⟩
  |succ s=>
   refine .inr ⟨?_,fun q=>?_⟩
   ·congr 1
   ·rcases hs with hs|hs
    ·omega
    ·exact hs (zIq q.2.1 _)
 ·rw[h1,bs,zT]
  exact .inr ⟨rfl,fun q=>h2 q.2.2⟩
theorem zL0{x:SPr}(hl:x.zF.length≤1048576):IsB (zRZ x) (zDY x):=by
 unfold zRZ;rcases zDq hl with⟨h1,h2⟩|⟨h1,h2⟩
 ·have h6:=h2.os.1
  rw[h1,bs,zR];unfold zUN zUM;rw[zL (by omega) (by omega),bs];obtain⟨r,r1,r2⟩:=zAn (body:=zKF x) (Q:=fun r=>(r=.inl ()∧qE (suf x 0))∨ ∃f,r=.inr f∧f.Kind≠0∧ ¬qE (suf x 0)) (fun i s=>i≤x.zF.length∧s=((x.zF.length-i:Nat):Int)-1∧qE (suf x (x.zF.length-i))) x.zF.length (fun i s hi ⟨_,hs,gW⟩=>by
    subst hs;have hk:x.zF.length-i-1<x.zF.length:=by omega
    have e9:x.zF.length-(i+1)=x.zF.length-i-1:=by omega
    rw[e9];have e8:i+1≤x.zF.length:=by omega
    rw[show x.zF.length-i=x.zF.length-i-1+1 from by omega]at gW ⊢
    have bh:=zLz h2.toPres hk gW;have du:=zKp h2.toPres.w hk
    generalize x.zF.length-i-1=k at*
    unfold zKF;rw[show(((k+1:Nat):Int)-1)=(k:Int)from by omega,VZ (by omega),zR];rcases bh with⟨g1,g2⟩|⟨r,g1,g2,g3⟩
    ·left
     rw[g1,bs];simp only
     rw[show((0:Int) != 0)=VX from rfl,zT,zL (by omega) (by omega),bs]
     grind
    ·right
     rw[g1,bs,show(r.Kind != 0)=VW from by grind,zR];exact⟨_,rfl,.inr ⟨r,rfl,g2,by grind[zIq]⟩⟩) (fun s ⟨_,hs,gW⟩=>by
    rw[Kc]at hs gW;subst hs;unfold zKF
    grind) (s:=(x.zF.length:Int)-1) ⟨by omega,by rfl,by rw[Ut,zBz (by omega)];simp only[qE]⟩
  rw[r1,bs];rcases r2 with⟨rfl,q⟩|⟨f,rfl,g1,g2⟩
  ·exact .inl ⟨rfl,h2.toPres,q,h2⟩
  ·simp only
   rw[bs,show(f.Kind==0)=VX from by grind];exact .inr ⟨rfl,fun q=>g2 q.2.1⟩
 ·rw[h1,bs,zT]
  exact .inr ⟨rfl,fun q=>h2 q.2.2⟩
end Go.Pl

namespace Go.Pl
open Go Go.Ab Go.Wk
abbrev Mx:=List (List Int)
def S:Nat→(Nat→Int)→Int
 |0,_=>0
 |n+1,f=>S n f+f n
theorem zBc{n:Nat}{f g:Nat→Int}(h:∀i,i<n→f i=g i):S n f=S n g:=by
 induction n with
 |zero=>rfl
 |succ n ih=>grind[S]
theorem zIr{p:Int}{f g:Nat→Int}:∀{n:Nat},(∀i,i<n→f i%p=g i%p)→S n f%p=S n g%p
 |0,_=>rfl
 |n+1,h=>by simp only[S];rw[K4,zIr (n:=n) fun i hi=>h i (by omega),h n (by omega),←K4]
theorem zCk:∀n:Nat,S n (fun _=>0)=0
 |0=>rfl
 |n+1=>by simp only[S,zCk n];rfl
theorem zKq{f g:Nat→Int}:∀n:Nat,S n (fun i=>f i+g i)=S n f+S n g
 |0=>rfl
 |n+1=>by simp only[S,zKq n];omega
theorem zT1{f:Nat→Int}(a:Int):∀n:Nat,S n (fun i=>f i*a)=S n f*a
 |0=>by simp[S]
 |n+1=>by simp only[S,zT1 a n,Int.add_mul]
theorem zHg{f:Nat→Int}(a:Int):∀n:Nat,S n (fun i=>a*f i)=a*S n f
 |0=>by simp[S]
 |n+1=>by simp only[S,zHg a n,Int.mul_add]
theorem zP3{f:Nat→Nat→Int}(m:Nat):∀n:Nat,S n (fun i=>S m (fun j=>f i j))=S m (fun j=>S n (fun i=>f i j))
 |0=>by simp only[S];grind[zCk]
 |n+1=>by simp only[S];rw[zP3 m n,zKq]
theorem zFL{f:Nat→Int}{k:Nat}:∀{n:Nat},k<n→(∀i,i<n→i≠k→f i=0)→S n f=f k
 |0,h,_=>by omega
 |n+1,h,hz=>by
  simp only[S]
  by_cases hk:k=n
  ·subst hk
   rw[zBc (g:=fun _=>0) fun i hi=>hz i (by omega) (by omega),zCk];omega
  ·rw[zFL (n:=n) (by omega) fun i hi=>hz i (by omega),hz n (by omega) (by omega)];omega
def mkv(D:Nat)(f:Nat→Int):List Int:=(Jq D).map f
theorem vR(D:Nat)(f:Nat→Int):(mkv D f).length=D:=by simp[mkv]
theorem zDj{D:Nat}{f:Nat→Int}{i:Nat}(h:i<D):(mkv D f)[i]? =VU (f i):=by simp[mkv,h]
theorem vE{D:Nat}{f:Nat→Int}{i:Nat}(h:i<D):at0 (mkv D f) i=f i:=by rw[at0,J7,zDj h];rfl
theorem tJ{D:Nat}{f g:Nat→Int}(h:∀i,i<D→f i=g i):mkv D f=mkv D g:=by grind[mkv,Ue]
theorem zGe{D:Nat}{f:Nat→Int}{j:Nat}{a:Int}:(mkv D f).set j a=mkv D (fun i=>if i=j then a else f i):=by
 apply Kz;intro i;rw[Q7,vR]
 by_cases hi:i<D
 ·by_cases hij:j=i
  ·subst hij;rw[if_pos rfl,if_pos hi,zDj hi,if_pos rfl]
  ·rw[if_neg hij,zDj hi,zDj hi,if_neg fun h=>hij h.symm]
 ·have h1:∀g:Nat→Int,(mkv D g)[i]? =VV:=by grind[vR]
  grind
theorem zCl{v:List Int}{D:Nat}(h:v.length=D):v=mkv D (at0 v):=by
 apply Kz;intro i
 by_cases hi:i<D
 ·rw[zDj hi,at0,J7,J5 (by omega)];rfl
 grind[vR]
theorem zKr(D:Nat):J2 D (0:Int)=mkv D (fun _=>0):=by
 apply Kz
 grind[zDj,vR]
abbrev ent(B:Mx)(l j:Nat):Int:=at0 (B.getD l []) j
def zBR(p:Int)(D:Nat)(r:List Int)(B:Mx):List Int:=mkv D fun j=>S D (fun l=>at0 r l*ent B l j)%p
def PM(p:Int)(D:Nat)(A B:Mx):Mx:=A.map fun r=>zBR p D r B
def idM(D:Nat):Mx:=(Jq D).map fun i=>mkv D fun j=>if j=i then 1 else 0
def Row(p:Int)(D:Nat)(r:List Int):Prop:=r.length=D∧ ∀i,i<D→0≤at0 r i∧at0 r i≤p-1
def Mat(p:Int)(D:Nat)(A:Mx):Prop:=A.length=D∧ ∀i,i<D→Row p D (A.getD i [])
theorem zCQ{p:Int}{D i:Nat}{A B:Mx}(h:i<A.length):(PM p D A B).getD i []=zBR p D (A.getD i []) B:=by grind[PM]
theorem wO{p:Int}{D:Nat}{A B:Mx}:(PM p D A B).length=A.length:=by simp[PM]
theorem zHh{p:Int}{D:Nat}{A B:Mx}(hp:0<p)(hA:A.length=D):Mat p D (PM p D A B):=by refine⟨by rw[wO,hA],fun i hi=>?_⟩;rw[zCQ (by omega)];refine⟨by rw[zBR,vR],fun j hj=>?_⟩;rw[zBR,vE hj];have h1:=Kq (S D fun l=>at0 (A.getD i []) l*ent B l j) (show p≠0 by omega);have h2:=Kd (S D fun l=>at0 (A.getD i []) l*ent B l j) hp;omega
theorem zP4{p:Int}{D i j:Nat}{A B:Mx}(hA:A.length=D)(hi:i<D)(hj:j<D):ent (PM p D A B) i j=S D (fun l=>ent A i l*ent B l j)%p:=by rw[ent,zCQ (by omega),zBR,vE hj]
theorem zFu{D:Nat}{A B:Mx}(hA:A.length=D)(hB:B.length=D)(h:∀i,i<D→A.getD i []=B.getD i []):A=B:=by
 apply Kz
 grind
theorem zP5{p:Int}{D:Nat}{A B C:Mx}(hA:A.length=D)(hB:B.length=D):PM p D (PM p D A B) C=PM p D A (PM p D B C):=by
 refine zFu (by rw[wO,wO,hA]) (by rw[wO,hA]) fun i hi=>?_
 rw[zCQ (A:=PM p D A B) (by rw[wO];omega),zCQ (A:=A) (B:=PM p D B C) (by omega)];unfold zBR;refine tJ fun j hj=>?_
 have e1:S D (fun l=>at0 ((PM p D A B).getD i []) l*ent C l j)%p=S D (fun l=>S D (fun q=>ent A i q*ent B q l)*ent C l j)%p:=zIr fun l hl=>by
  have:=zP4 (p:=p) (B:=B) hA hi hl;simp only[ent]at this ⊢
  rw[this,Ju,K3,←Ju]
 have e2:S D (fun l=>at0 (A.getD i []) l*ent (PM p D B C) l j)%p=S D (fun q=>ent A i q*S D (fun l=>ent B q l*ent C l j))%p:=zIr fun q hq=>by rw[zP4 hB hq hj,Ju,K3,←Ju]
 rw[e1,e2]
 congr 1
 have e3:(fun l=>S D (fun q=>ent A i q*ent B q l)*ent C l j)=fun l=>S D (fun q=>ent A i q*ent B q l*ent C l j):=funext fun l=>(zT1 _ _).symm
 have e4:(fun q=>ent A i q*S D (fun l=>ent B q l*ent C l j))=fun q=>S D (fun l=>ent A i q*ent B q l*ent C l j):=funext fun q=>by rw[←zHg];exact zBc fun l _=>by rw[Lp]
 rw[e3,e4];exact zP3 D D
theorem zAo(D:Nat):(idM D).length=D:=by simp[idM]
theorem zEC{D i:Nat}(h:i<D):(idM D).getD i []=mkv D fun j=>if j=i then 1 else 0:=by simp[idM,J7,h]
theorem zED{p:Int}{D:Nat}(hp:2≤p):Mat p D (idM D):=by
 refine⟨zAo D,fun i hi=>?_⟩;rw[zEC hi];refine⟨vR _ _,fun j hj=>?_⟩
 grind[vE]
theorem zIs{p a:Int}(h:0≤a∧a≤p-1):a%p=a:=Jx h.1 (by omega)
theorem zMV{p:Int}{D:Nat}{B:Mx}(hB:Mat p D B):PM p D (idM D) B=B:=by
 refine zFu (by rw[wO,zAo]) hB.1 fun i hi=>?_
 rw[zCQ (by grind[zAo]),zEC hi,zBR];obtain⟨h1,h2⟩:=hB.2 i hi;refine Eq.trans (tJ fun j hj=>?_) (zCl h1).symm;rw[zFL (k:=i) hi fun l hl gk=>by rw[vE hl,if_neg gk,Int.zero_mul],vE hi,if_pos rfl,Gp]
 grind[zIs]
theorem zP6{p:Int}{D:Nat}{A:Mx}(hA:Mat p D A):PM p D A (idM D)=A:=by
 refine zFu (by rw[wO,hA.1]) hA.1 fun i hi=>?_
 rw[zCQ (by rw[hA.1];exact hi),zBR];obtain⟨h1,h2⟩:=hA.2 i hi;refine Eq.trans (tJ fun j hj=>?_) (zCl h1).symm;rw[zFL (k:=j) hj fun l hl gk=>by rw[ent,zEC hl,vE hj,if_neg (fun h=>gk h.symm),Qf],ent,zEC hj,vE hj,if_pos rfl,H7]
 grind[zIs]
theorem zP7{p:Int}{D i j:Nat}{B:Mx}(hB:Mat p D B)(hi:i<D)(hj:j<D):ixO B (i:Int)=VU (B.getD i [])∧ixO (B.getD i []) (j:Int)=VU (ent B i j)∧(B.getD i []).length=D∧0≤ent B i j∧ent B i j≤p-1:=by
 obtain⟨h1,h2⟩:=hB.2 i hi
 grind[wA]
def acc(p:Int)(D i:Nat)(r:List Int)(B:Mx):List Int:=mkv D fun j=>S i (fun l=>at0 r l*ent B l j)%p
def zDr(p:Int)(D i k:Nat)(r:List Int)(B:Mx):List Int:=mkv D fun j=>if j<k then S (i+1) (fun l=>at0 r l*ent B l j)%p else S i (fun l=>at0 r l*ent B l j)%p
theorem zIt{p:Int}{D i:Nat}{r:List Int}{B:Mx}:zDr p D i 0 r B=acc p D i r B:=rfl
theorem zIu{p:Int}{D i:Nat}{r:List Int}{B:Mx}:zDr p D i D r B=acc p D (i+1) r B:=tJ (by omega)
theorem zKs{p:Int}{D i k:Nat}{r:List Int}{B:Mx}(hk:k<D){a:Int}(ha:a=(at0 (zDr p D i k r B) k+at0 r i*ent B i k)%p):(zDr p D i k r B).set k a=zDr p D i (k+1) r B:=by
 subst ha;simp only[zDr];rw[zGe,vE hk,if_neg (by omega)];refine tJ fun j hj=>?_
 by_cases hjk:j=k
 ·subst hjk
  rw[if_pos rfl,if_pos (by omega)]
  grind[S,Int.emod_add_emod]
 omega
theorem zKt{p:Int}{D i k j:Nat}{r:List Int}{B:Mx}(hp:0<p)(hj:j<D):0≤at0 (zDr p D i k r B) j∧at0 (zDr p D i k r B) j≤p-1:=by
 rw[zDr,vE hj];split
 ·have h1:=Kq (S (i+1) fun l=>at0 r l*ent B l j) (show p≠0 by omega)
  have h2:=Kd (S (i+1) fun l=>at0 r l*ent B l j) hp;omega
 ·have h1:=Kq (S i fun l=>at0 r l*ent B l j) (show p≠0 by omega)
  have h2:=Kd (S i fun l=>at0 r l*ent B l j) hp;omega
theorem zHi{p:Int}{D i k:Nat}{r:List Int}{B:Mx}:(zDr p D i k r B).length=D:=vR _ _
theorem zMW{p:Int}{D i k j:Nat}{r:List Int}{B:Mx}(hj:j<D):ixO (zDr p D i k r B) (j:Int)=VU (at0 (zDr p D i k r B) j):=by grind[xV,zHi]
theorem zKu{p:Int}{D:Nat}{r:List Int}{B:Mx}:J2 D (0:Int)=acc p D 0 r B:=by rw[zKr];rfl
theorem zIv{a b p:Int}(hp:p≤7)(ha:0≤a∧a≤p-1)(hb:0≤b∧b≤p-1):0≤a*b∧a*b≤36:=by have h1:0≤a*b:=Lv ha.1 hb.1;have h2:a*b≤6*6:=Ku (by omega) (by omega) hb.1 (by omega);omega
section
variable {p:Int}{D:Nat} (hp:Prime p) (hD:D≤8)
 include hp hD
theorem zHj{r:List Int}{B:Mx}(hr:Row p D r)(hB:Mat p D B):f_L p r B (D:Int)=VU (zBR p D r B):=by
 have h7:=hp.pos;have hBl:=hB.1;have dM:=hr.1;unfold f_L;rw[uE (by omega),bs,zKu (p:=p) (r:=r) (B:=B)];have:=yB (body:=zQl p r B) (r:=acc p D D r B) (fun i=>(acc p D i r B,(i:Int))) D (fun i hi=>by
  have iH:=hr.2 i hi;unfold zQl;simp only
  rw[dM,hBl,wD hi,zR,zR];have inner:=yB (body:=zQk p r B (acc p D i r B,(i:Int))) (r:=acc p D (i+1) r B) (fun k=>(zDr p D i k r B,(k:Int))) D (fun k hk=>by
   obtain⟨b1,b2,b3,b4⟩:=zP7 hB hi hk;have ha:=zKt (p:=p) (i:=i) (k:=k) (r:=r) (B:=B) (by omega) hk;have hm:=zIv (by omega) iH b4;unfold zQk;simp only
   rw[zHi,wD hk,zR,b1,bs,b3,wD hk,zR,zMW hk,bs,xV (by omega),bs,bs,b2,bs,zL (by omega) (by omega),bs,zL (by omega) (by omega),bs];have iJ:vN (at0 (zDr p D i k r B) k+at0 r i*ent B i k) p=VU ((at0 (zDr p D i k r B) k+at0 r i*ent B i k)%p):=by
    unfold vN
    grind
   rw[iJ,bs,bs,zL (by omega) (by omega),bs,cs,Jl,zKs hk rfl]) (by
   unfold zQk;simp only
   rw[zHi,zBa,zT,zIu])
  rw[zIt,show((0:Nat):Int)=0 from rfl]at inner
  grind[zL]) (by
  unfold zQl
  grind)
 rw[show((0:Nat):Int)=0 from rfl]at this;rw[this,bs];rfl
theorem zJh{a:Int}(h0:0≤a)(_h1:a≤1000):zJo a p=VU (a%p):=by have _:=hD;have h7:=hp.pos;have e1:=Kq a (show p≠0 by omega);have e2:=Kd a (show 0<p by omega);unfold zJo vN;rw[if_neg (by omega),bs,Kt h0,zL (by omega) (by omega),bs,if_neg (by omega),bs,Kt (by omega)];simp
theorem zFv{i:Nat}{r:List Int}{B:Mx}(hi:i<D)(hr:Row p D r)(hB:Mat p D B):f_F (acc p D i r B) (B.getD i []) (at0 r i) p=VU (acc p D (i+1) r B):=by
 have h7:=hp.pos;have iH:=hr.2 i hi;unfold f_F;have hl:(acc p D i r B).length=D:=vR _ _;have inner:=yB (body:=zKM (acc p D i r B) (B.getD i []) (at0 r i) p) (r:=acc p D (i+1) r B) (fun k=>(zDr p D i k r B,(k:Int))) D (fun k hk=>by
  obtain⟨b1,b2,b3,b4⟩:=zP7 hB hi hk;have ha:=zKt (p:=p) (i:=i) (k:=k) (r:=r) (B:=B) (by omega) hk;have hm:=zIv (by omega) iH b4;unfold zKM;simp only
  rw[hl,wD hk,zR,zMW hk,bs,b2,bs,zL (by omega) (by omega),bs,zL (by omega) (by omega),bs,zJh hp hD (by omega) (by omega),bs,bs,zL (by omega) (by omega),bs,cs,Jl,zKs hk rfl]) (by
  unfold zKM;simp only
  rw[hl,zBa,zT,zIu])
 rw[zIt,show((0:Nat):Int)=0 from rfl]at inner
 grind
theorem zBS{r:List Int}{B:Mx}{q:Int}(hr:Row p D r)(hB:Mat p D B)(hq:q=(D:Int)):zSj r (zD.mk p q B)=VU (zBR p D r B):=by
 subst hq;have dM:=hr.1;unfold zSj;simp only
 rw[uE (by omega),bs,zKu (p:=p) (r:=r) (B:=B)];have:=yB (body:=zKN r (zD.mk p (D:Int) B)) (r:=acc p D D r B) (fun i=>(acc p D i r B,(i:Int))) D (fun i hi=>by
  have hBl:=hB.1;unfold zKN;simp only
  rw[dM,wD hi,zR,xV (by omega),bs,wA [] (by omega),bs,zFv hp hD hi hr hB,bs,zL (by omega) (by omega),bs,cs]) (by
  unfold zKN
  grind)
 rw[show((0:Nat):Int)=0 from rfl]at this;rw[this,bs];rfl
theorem zDk{A B:Mx}{i:Nat}(hi:i<A.length):(PM p D A B).take i++[zBR p D (A.getD i []) B]=(PM p D A B).take (i+1):=by
 have _:=hp;have _:=hD;rw[Jk (by grind[wO])]
 congr 2
 have:=zCQ (p:=p) (D:=D) (B:=B) hi
 grind
theorem zA6{A B:Mx}(hA:Mat p D A)(hB:Mat p D B):f_z p A B (D:Int)=VU (PM p D A B):=by
 have ml:=hA.1;unfold f_z;have:=yB (body:=zKH p A B (D:Int)) (r:=PM p D A B) (fun i=>((PM p D A B).take i,(i:Int))) D (fun i hi=>by
  unfold zKH;simp only
  rw[ml,wD hi,zR,wA [] (by omega),bs,zHj hp hD (hA.2 i hi) hB,bs,vP (by rw[Kj,wO];simp;omega),bs,zL (by omega) (by omega),bs,cs,zDk hp hD (by omega)]) (by
  unfold zKH;simp only
  rw[ml,zBa,zT,Jo (by grind[wO])])
 grind
theorem zH2{A B:Mx}{q:Int}(hA:Mat p D A)(hB:Mat p D B):f_G (zD.mk p q A) (zD.mk p (D:Int) B)=VU (zD.mk p (D:Int) (PM p D A B)):=by
 have ml:=hA.1;unfold f_G;have:=yB (body:=zKO (zD.mk p q A) (zD.mk p (D:Int) B)) (r:=PM p D A B) (fun i=>((PM p D A B).take i,(i:Int))) D (fun i hi=>by
  unfold zKO;simp only
  rw[ml,wD hi,zR,wA [] (by omega),bs,zBS hp hD (hA.2 i hi) hB rfl,bs,vP (by rw[Kj,wO];simp;omega),bs,zL (by omega) (by omega),bs,cs,zDk hp hD (by omega)]) (by
  unfold zKO;simp only
  rw[ml,zBa,zT,Jo (by grind[wO])])
 grind
theorem zKv{i:Nat}(_hi:i<D):(J2 D (0:Int)).set i 1=mkv D fun j=>if j=i then 1 else 0:=by have _:=hp;have _:=hD;rw[zKr,zGe]
theorem zMX{i:Nat}(hi:i<D):(idM D).take i++[mkv D fun j=>if j=i then 1 else 0]=(idM D).take (i+1):=by
 have _:=hp;have _:=hD;rw[Jk (by grind[zAo])]
 congr 2
 have:=zEC hi
 grind
theorem zHk:zQj (D:Int)=VU (idM D):=by
 unfold zQj;have:=yB (body:=zKG (D:Int)) (r:=idM D) (fun i=>((idM D).take i,(i:Int))) D (fun i hi=>by
  unfold zKG;simp only
  rw[wD hi,zR,uE (by omega),bs,qC,L0,if_pos hi,bs,Jl,zKv hp hD hi,vP (by grind),bs,zL (by omega) (by omega),bs,cs,zMX hp hD hi]) (by
  unfold zKG;simp only
  rw[zBa,zT,Jo (by grind[zAo])])
 grind
theorem zH3:zSi p (D:Int)=VU (zD.mk p (D:Int) (idM D)):=by
 unfold zSi;have:=yB (body:=zI6 (D:Int)) (r:=idM D) (fun i=>((idM D).take i,(i:Int))) D (fun i hi=>by
  unfold zI6;simp only
  rw[wD hi,zR,uE (by omega),bs,qC,L0,if_pos hi,bs,Jl,zKv hp hD hi,vP (by grind),bs,zL (by omega) (by omega),bs,cs,zMX hp hD hi]) (by
  unfold zI6;simp only
  rw[zBa,zT,Jo (by grind[zAo])])
 grind
end
end Go.Pl

namespace Go.Pl
open Go Go.Ab Go.Wk Go.Pc
def nw:Nat→List Int→List Nat
 |_,[]=>[]
 |o,a::v=>J2 a.toNat o++nw (o+1) v
theorem zIw:∀(o:Nat)(u v:List Int),nw o (u++v)=nw o u++nw (o+u.length) v
 |o,[],v=>by simp[nw]
 |o,a::u,v=>by
  simp only[L7,nw,zIw (o+1) u v,Jd,K5]
  grind
theorem zMY{v:List Int}{i:Nat}(h:i<v.length):nw 0 (v.take (i+1))=nw 0 (v.take i)++J2 (at0 v i).toNat i:=by
 rw[Jk h,zIw,Kj,Hb (by omega),J6];simp only[nw,Ja]
 grind
theorem zP8{n:Nat}:∀(o:Nat)(v:List Int),o+v.length≤n→ ∀w∈nw o v,w<n
 |o,[],_,w,h=>by grind[nw]
 |o,a::v,hv,w,h=>by
  simp only[nw,Ka,K5]at h hv;rcases h with h|h
  ·grind
  ·exact zP8 (o+1) v (by omega) w h
theorem zHl:∀(o:Nat)(v:List Int),(∀i,i<v.length→at0 v i≤6)→(nw o v).length≤6*v.length
 |o,[],_=>by simp[nw]
 |o,a::v,h=>by
  have h0:=h 0 (by simp);have:=zHl (o+1) v fun i hi=>by
   have:=h (i+1) (by grind)
   grind
  simp only[at0,Uf]at h0
  grind[nw]
def wM(p:Int)(D:Nat)(A:List Mx)(ws:List Nat)(B:Mx):Mx:=ws.foldl (fun B w=>PM p D B (A.getD w [])) B
theorem zIx{p:Int}{D:Nat}{A:List Mx}{u v:List Nat}{B:Mx}:wM p D A (u++v) B=wM p D A v (wM p D A u B):=by simp[wM,List.foldl_append]
theorem zL1{p:Int}{D:Nat}{A:List Mx}{w:Nat}:∀(k:Nat)(B:Mx),wM p D A (J2 k w) B=iter k (fun B=>PM p D B (A.getD w [])) B
 |0,_=>rfl
 |k+1,B=>by rw[Km];show wM p D A (J2 k w) (PM p D B (A.getD w []))=_;rw[zL1 k];rfl
theorem zFw{p:Int}{D:Nat}{A:List Mx}(hp:0<p):∀(ws:List Nat){B:Mx},Mat p D B→Mat p D (wM p D A ws B)
 | [],_,hB=>hB
 |_w::ws,_,hB=>zFw hp ws (zHh hp hB.1)
theorem zP9{p:Int}{D:Nat}{A:List Mx}(hp:0<p){C:Mx}(hC:C.length=D):∀(ws:List Nat){B:Mx},Mat p D B→wM p D A ws (PM p D C B)=PM p D C (wM p D A ws B)
 | [],_,_=>rfl
 |w::ws,B,hB=>by show wM p D A ws (PM p D (PM p D C B) (A.getD w []))=PM p D C (wM p D A ws (PM p D B (A.getD w [])));rw[zP5 hC hB.1,zP9 hp hC ws (zHh hp hB.1)]
structure MOk (n:Nat) (m:zS) (D:Nat):Prop where
 p:Prime m.Prime
 d:m.Dim=(D:Int)
 d1:1≤D
 d3:D≤3
 len:m.zP.length=n
 mat:∀i,i<n→Mat m.Prime D (m.zP.getD i [])
section
variable {n D:Nat}{m:zS} (hm:MOk n m D) (hn:n≤14)
 include hm hn
theorem zKw{v:List Int}(hl:v.length=n)(hv:∀i,i<n→0≤at0 v i∧at0 v i≤6):f_H m v=VU (wM m.Prime D m.zP (nw 0 v) (idM D)):=by
 have h7:=hm.p.pos;have h3:=hm.d3;have gm:=hm.len;unfold f_H;rw[hm.d,zHk hm.p (by omega),bs];have hI:∀i,Mat m.Prime D (wM m.Prime D m.zP (nw 0 (v.take i)) (idM D)):=by grind[zFw,zED]
 have:=yB (body:=zQn m v) (r:=wM m.Prime D m.zP (nw 0 v) (idM D)) (fun i=>(wM m.Prime D m.zP (nw 0 (v.take i)) (idM D),(i:Int))) n (fun i hi=>by
  have hvi:=hv i hi;unfold zQn;simp only
  rw[hl,wD hi,zR];rw[tR (S:=Mat m.Prime D) (body:=zQm m v (wM m.Prime D m.zP (nw 0 (v.take i)) (idM D),(i:Int))) (fun B=>B) (fun B=>PM m.Prime D B (m.zP.getD i [])) (at0 v i) hvi.1 (fun B hB=>zHh (by omega) hB.1) (fun B q hB hq=>by
   unfold zQm;simp only
   rw[xV (by omega),bs,VZ hq,zR,wA [] (by omega),bs,hm.d,zA6 hm.p (by omega) hB (hm.mat i hi),bs,zL (by omega) (by omega),bs,cs]) (fun B hB=>by
   unfold zQm;simp only
   rw[xV (by omega),bs,VY (by omega),zT]) (hI i),bs,zL (by omega) (by omega),bs,cs]
  grind[zMY,zIx,zL1]) (by
  unfold zQn
  grind)
 rw[show((0:Nat):Int)=0 from rfl,Lb]at this
 grind[nw,wM]
abbrev enW(ws:List Nat):List Int:=ws.map fun(w:Nat)=>(w:Int)+1
theorem zDA{i:Nat}(hi:i<n):zLO m (i:Int)=VU (zD.mk m.Prime (D:Int) (m.zP.getD i [])):=by have _:=hn;have gm:=hm.len;unfold zLO;rw[wA [] (by omega),bs,hm.d]
theorem zDB{ws:List Nat}(hw:∀w∈ws,w<n)(hl:ws.length≤1000000):f_U m (enW ws)=VU (zD.mk m.Prime (D:Int) (wM m.Prime D m.zP ws (idM D))):=by
 have h7:=hm.p.pos;have h3:=hm.d3;unfold f_U;rw[hm.d,zH3 hm.p (by omega),bs];have hI:∀i,Mat m.Prime D (wM m.Prime D m.zP (ws.take i) (idM D)):=by grind[zFw,zED]
 have hel:(enW ws).length=ws.length:=by simp
 have:=yB (body:=zQG m (enW ws)) (r:=(m.Prime,(D:Int),wM m.Prime D m.zP ws (idM D))) (fun i=>(m.Prime,(D:Int),wM m.Prime D m.zP (ws.take i) (idM D),(i:Int))) ws.length (fun i hi=>by
  have hwi:=hw ws[i] (K7 hi);unfold zQG;simp only
  rw[hel,wD hi,zR,qC,Jr,J5 hi];simp only[Ge];rw[bs,zL (by omega) (by omega),bs,show((ws[i]:Nat):Int)+1-1=((ws[i]:Nat):Int)from by omega,zDA hm hn hwi,bs,zH2 hm.p (by omega) (hI i) (hm.mat _ hwi),bs,zL (by omega) (by omega),bs,cs,Jk hi,zIx];rfl) (by
  unfold zQG;simp)
 rw[show((0:Nat):Int)=0 from rfl,Lb]at this
 grind[wM]
end
theorem zCx{v:List Int}(hl:v.length≤14)(hv:∀i,i<v.length→0≤at0 v i∧at0 v i≤6):f_I v=VU (enW (nw 0 v)):=by
 unfold f_I;have gm:∀i,(nw 0 (v.take i)).length≤84:=fun i=>by
  have:=zHl 0 (v.take i) (by grind)
  grind
 have:=yB (body:=zQC v) (r:=enW (nw 0 v)) (fun i=>(enW (nw 0 (v.take i)),(i:Int))) v.length (fun i hi=>by
  have hvi:=hv i hi;have hli:=gm i;unfold zQC;simp only
  rw[wD hi,zR,xV hi,bs];have inner:=yB (body:=zQB (enW (nw 0 (v.take i)),(i:Int)) (at0 v i)) (r:=enW (nw 0 (v.take (i+1)))) (fun k=>(enW (nw 0 (v.take i)++J2 k i),(k:Int))) (at0 v i).toNat (fun k hk=>by
   unfold zQB;simp only
   rw[VZ (by omega),zR,zL (by omega) (by omega),bs,vP (by grind),bs,zL (by omega) (by omega),bs,cs]
   congr 3
   rw[U8,←Jd];simp) (by
   unfold zQB;simp only
   rw[VY (by omega),zT,zMY hi])
  rw[show((0:Nat):Int)=0 from rfl,Hk,Ja]at inner
  grind[zL]) (by
  unfold zQC;simp)
 rw[show((0:Nat):Int)=0 from rfl,Lb]at this;simp only[nw,enW,G4]at this
 grind
theorem zRL{v o:Int}(h:zSh 1 (IntKind.wrap .u64 o)=VU (0,o)):zSh (IntKind.wrap .u64 (([v]:List Int).length:Int)) (IntKind.wrap .u64 o)=VU (0,o):=by rw[show IntKind.wrap .u64 (([v]:List Int).length:Int)=1 from by rfl];exact h
theorem zKx{v o:Int}(ho:Prime o):f_M [v] o=VU (J2 o.toNat v):=by
 unfold f_M;rcases ho with rfl|rfl|rfl|rfl
 ·have h:=yB (body:=zKL) (r:=[v,v]) (fun i=>match i with|0=>([v,0],1)|_=>([v,v],2)) 1 (fun i hi=>by
   match i,hi with
   |0,_=>rfl) (by rfl)
  rw[zRL (by rfl),bs];have hl:yW (IntKind.wrap .i64 2)=VU 2:=by rfl
  simp only[hl,bs];rw[show decide ((2:Int)<0)=VX from rfl,zT,show decide ((0:Int)> 0)=VX from rfl,zT,show decide ((2:Int)> 9223372036854775807)=VX from by decide,zT]
  grind[qM]
 ·have h:=yB (body:=zKL) (r:=[v,v,v]) (fun i=>match i with|0=>([v,0,0],1)|1=>([v,v,0],2)|_=>([v,v,v],3)) 2 (fun i hi=>by
   match i,hi with
   |0,_=>rfl
   |1,_=>rfl) (by rfl)
  rw[zRL (by rfl),bs];have hl:yW (IntKind.wrap .i64 3)=VU 3:=by rfl
  simp only[hl,bs];rw[show decide ((3:Int)<0)=VX from rfl,zT,show decide ((0:Int)> 0)=VX from rfl,zT,show decide ((3:Int)> 9223372036854775807)=VX from by decide,zT]
  grind[qM]
 ·have h:=yB (body:=zKL) (r:=[v,v,v,v,v]) (fun i=>match i with|0=>([v,0,0,0,0],1)|1=>([v,v,0,0,0],2)|2=>([v,v,v,v,0],4)|_=>([v,v,v,v,v],5)) 3 (fun i hi=>by
   match i,hi with
   |0,_=>rfl
   |1,_=>simp[zKL,yG,qM,rng,inR]
   |2,_=>rfl) (by rfl)
  rw[zRL (by rfl),bs];have hl:yW (IntKind.wrap .i64 5)=VU 5:=by rfl
  simp only[hl,bs];rw[show decide ((5:Int)<0)=VX from rfl,zT,show decide ((0:Int)> 0)=VX from rfl,zT,show decide ((5:Int)> 9223372036854775807)=VX from by decide,zT];have e2:qM (J2 5 (0:Int)) 0 (([v]:List Int).take ((J2 5 (0:Int)).length-0))=[v,0,0,0,0]:=by rfl
  grind
 ·have h:=yB (body:=zKL) (r:=[v,v,v,v,v,v,v]) (fun i=>match i with|0=>([v,0,0,0,0,0,0],1)|1=>([v,v,0,0,0,0,0],2)|2=>([v,v,v,v,0,0,0],4)|_=>([v,v,v,v,v,v,v],7)) 3 (fun i hi=>by
   match i,hi with
   |0,_=>rfl
   |1,_=>simp[zKL,yG,qM,rng,inR]
   |2,_=>rfl) (by rfl)
  rw[zRL (by rfl),bs];have hl:yW (IntKind.wrap .i64 7)=VU 7:=by rfl
  simp only[hl,bs];rw[show decide ((7:Int)<0)=VX from rfl,zT,show decide ((0:Int)> 0)=VX from rfl,zT,show decide ((7:Int)> 9223372036854775807)=VX from by decide,zT];have e2:qM (J2 7 (0:Int)) 0 (([v]:List Int).take ((J2 7 (0:Int)).length-0))=[v,0,0,0,0,0,0]:=by rfl
  simp_all
end Go.Pl

namespace Go.Pl
open Go Go.Ab Go.Wk Go.Pc
theorem IsB.b{o:Option Bool}{P:Prop}(h:IsB o P):IsB (o.bind fun r=>VU r) P:=by grind
theorem zKy{p:Int}{D:Nat}{r:List Int}(hp:Prime p)(hD:D≤8):IsB (zSf r p (D:Int)) (Row p D r):=by
 have h7:=hp.pos;unfold zSf
 by_cases h:r.length=D
 ·rw[zAS (by omega),zT]
  refine(kO r.length (fun i=>0≤at0 r i∧at0 r i≤p-1) rfl (fun i hi _=>?_) ?_).iff ⟨fun g=>⟨h,by grind⟩,fun g=>by rw[h];exact g.2⟩
  ·refine tP (zAC _ _ _) (by omega) ?_
   unfold zNl;rw[wD hi,zR,xV hi,bs,zL (by omega) (by omega),bs]
  ·unfold zNl
   simp
 ·rw[zAT (by omega),zR]
  exact .inr ⟨rfl,fun g=>h g.1⟩
theorem zFM{p:Int}{D:Nat}{r:List Int}(hp:Prime p)(hD:D≤8):IsB (f_V p (D:Int) r) (Row p D r):=by
 have h7:=hp.pos;unfold f_V
 by_cases h:r.length=D
 ·rw[zAS (by omega),zT]
  refine(kO r.length (fun i=>0≤at0 r i∧at0 r i≤p-1) rfl (fun i hi _=>?_) ?_).iff ⟨fun g=>⟨h,by grind⟩,fun g=>by rw[h];exact g.2⟩
  ·refine tP (zBy _ _ _) (by omega) ?_
   unfold zQi;rw[wD hi,zR,xV hi,bs,zL (by omega) (by omega),bs]
  ·unfold zQi
   simp
 ·rw[zAT (by omega),zR]
  exact .inr ⟨rfl,fun g=>h g.1⟩
theorem zNG{p:Int}{D:Nat}{B:Mx}(hp:Prime p)(hD:D≤8):IsB (zSa p (D:Int) B) (Mat p D B):=by
 unfold zSa
 by_cases h:B.length=D
 ·rw[zAS (by omega),zT]
  refine(kO B.length (fun i=>Row p D (B.getD i [])) rfl (fun i hi _=>?_) ?_).iff ⟨fun g=>⟨h,by grind⟩,fun g=>by rw[h];exact g.2⟩
  ·refine tP (zFM hp hD) (by omega) ?_
   unfold zNj;rw[wD hi,zR,wA [] hi,bs]
  ·unfold zNj
   simp
 ·rw[zAT (by omega),zR]
  exact .inr ⟨rfl,fun g=>h g.1⟩
theorem zH4{p:Int}{D:Nat}{B:Mx}(hp:Prime p)(hD:D≤8)(hB:B.length=D):IsB (zSg (zD.mk p (D:Int) B)) (Mat p D B):=by
 unfold zSg;simp only
 rcases zCj p with⟨h1,_⟩|⟨_,h2⟩
 ·rw[h1,bs,Jg,zT]
  rcases zAC (D:Int) 0 8 with⟨h3,_⟩|⟨_,h4⟩
  ·rw[h3,bs,Jg,zT,VY (by omega),zT]
   refine(kO (body:=zKK (zD.mk p (D:Int) B)) D (fun i=>Row p D (B.getD i [])) rfl (fun i hi _=>?_) ?_).iff ⟨fun g=>⟨hB,g⟩,fun g=>g.2⟩
   ·refine tP (zKy hp hD) (by omega) ?_
    unfold zKK;simp only
    rw[hB,wD hi,zR,wA [] (by omega),bs]
   ·unfold zKK
    grind
  omega
 grind
theorem zDZ{A B:Mx}(hA:A.length≤1000)(h:∀r∈A,r.length≤1000):f_W A B=VU (A==B):=
 zIh (t:=f_K) (body:=zQo A B) rfl (fun _=>rfl) (by omega) (by grind[zNE])
theorem zH5{A B:Mx}(hA:A.length≤1000)(h:∀r∈A,r.length≤1000):zSk A B=VU (A==B):=by unfold zSk;rw[zIh (f:=zUU A B) (t:=f_T) (body:=zQH A B) rfl (fun _=>rfl) (by omega) (by grind[zDX]),bs]
theorem Mat.small{p:Int}{D:Nat}{A:Mx}(h:Mat p D A)(hD:D≤8):A.length≤1000∧ ∀r∈A,r.length≤1000:=by
 refine⟨by have:=h.1;omega,fun r hr=>?_⟩;obtain⟨i,hi,rfl⟩:=Kh.1 hr;have:=h.2 i (by rw[←h.1];exact hi);rw[J7,J5 hi]at this;have:=this.1
 grind
def zNH(x:SPr)(m:zS)(D:Nat):Prop:=
 ∀i,i<x.zF.length→wM m.Prime D m.zP (J2 (at0 x.zF i).toNat i) (idM D)=wM m.Prime D m.zP (nw 0 (x.yV.getD i [])) (idM D)∧
  ∀j,i+1≤j→j<x.zF.length→PM m.Prime D (m.zP.getD j []) (m.zP.getD i [])=PM m.Prime D (m.zP.getD i []) (wM m.Prime D m.zP (nw 0 ((x.zJ.getD i []).getD (j-(i+1)) [])) (idM D))
theorem zBe{x:SPr}{v:List Int}{i:Nat}(ho:Os x.zF)(h:Exp x.zF v i):v.length=x.zF.length∧ ∀j,j<x.zF.length→0≤at0 v j∧at0 v j≤6:=by have h1:=h.1.1;refine⟨h1,fun j hj=>?_⟩;have:=h.1.2 j (by omega);have:=(ho.2 j hj).pos;omega
section
variable {x:SPr}{m:zS}{D:Nat} (h:Pres x) (hm:MOk x.zF.length m D)
 include h hm
theorem zNI{i:Nat}(hi:i<x.zF.length):(x.yV.getD i []).length=x.zF.length∧ ∀j,j<x.zF.length→0≤at0 (x.yV.getD i []) j∧at0 (x.yV.getD i []) j≤6:=have _:=hm;zBe h.os (h.tl i hi).1
theorem zL2{i j:Nat}(hi:i<x.zF.length)(hj:j<(x.zJ.getD i []).length):((x.zJ.getD i []).getD j []).length=x.zF.length∧ ∀q,q<x.zF.length→0≤at0 ((x.zJ.getD i []).getD j []) q∧at0 ((x.zJ.getD i []).getD j []) q≤6:=have _:=hm;zBe h.os ((h.tl i hi).2.2 j hj)
theorem zNJ:IsB ((zI (zQs x m) 0).bind fun r=>match r with|.inl _=>VU VW|.inr r=>VU r) (zNH x m D):=by
 have h6:=h.os.1;have h7:=hm.p.pos;have h3:=hm.d3;have gm:=hm.len;refine kO x.zF.length (fun i=>wM m.Prime D m.zP (J2 (at0 x.zF i).toNat i) (idM D)=wM m.Prime D m.zP (nw 0 (x.yV.getD i [])) (idM D)∧
  ∀j,i+1≤j→j<x.zF.length→PM m.Prime D (m.zP.getD j []) (m.zP.getD i [])=PM m.Prime D (m.zP.getD i []) (wM m.Prime D m.zP (nw 0 ((x.zJ.getD i []).getD (j-(i+1)) [])) (idM D))) rfl (fun i hi _=>?_) ?_
 ·have cU:=(h.os.2 i hi).pos
  have bH:=h.pl;have gK:=h.cl;obtain⟨p1,p2⟩:=zNI h hm hi;have t2:=(h.tl i hi).2.1;have hI:=zED (p:=m.Prime) (D:=D) h7.1;unfold zQs;rw[wD hi,zR,hm.d,zHk hm.p (by omega),bs];rw[tR (S:=Mat m.Prime D) (body:=zQq x m (i:Int)) (fun B=>B) (fun B=>PM m.Prime D B (m.zP.getD i [])) (at0 x.zF i) (by omega) (fun B hB=>zHh (by omega) hB.1) (fun B q hB hq=>by
   unfold zQq;simp only
   rw[xV hi,bs,VZ hq,zR,wA [] (by omega),bs,hm.d,zA6 hm.p (by omega) hB (hm.mat i hi),bs,zL (by omega) (by omega),bs,cs]) (fun B hB=>by
   unfold zQq;simp only
   rw[xV hi,bs,VY (by omega),zT]) hI,bs,wA [] (by omega),bs,zKw hm (by omega) p1 p2,bs,←zL1]
  have hs:=(zFw (p:=m.Prime) (D:=D) (A:=m.zP) (by omega) (J2 (at0 x.zF i).toNat i) hI).small (by omega);rw[zDZ hs.1 hs.2,bs]
  by_cases hq:wM m.Prime D m.zP (J2 (at0 x.zF i).toNat i) (idM D)=wM m.Prime D m.zP (nw 0 (x.yV.getD i [])) (idM D)
  ·rw[show(wM m.Prime D m.zP (J2 (at0 x.zF i).toNat i) (idM D)==wM m.Prime D m.zP (nw 0 (x.yV.getD i [])) (idM D))=VW from by grind,Jg,zT,zL (by omega) (by omega),bs,cs]
   rcases chk (body:=zQr x m (i:Int)) x.zF.length (i+1) (by omega) (fun j=>PM m.Prime D (m.zP.getD j []) (m.zP.getD i [])=PM m.Prime D (m.zP.getD i []) (wM m.Prime D m.zP (nw 0 ((x.zJ.getD i []).getD (j-(i+1)) [])) (idM D))) (fun _=>VX) (fun j h1 h2 _=>by
     obtain⟨c1,c2⟩:=zL2 h hm (j:=j-(i+1)) hi (by omega);have hjm:=hm.mat j h2;have him:=hm.mat i hi;have hw:=zFw (p:=m.Prime) (D:=D) (A:=m.zP) (by omega) (nw 0 ((x.zJ.getD i []).getD (j-(i+1)) [])) hI;have hs:=(zHh (p:=m.Prime) (B:=m.zP.getD i []) (by omega) hjm.1).small (by omega);refine tP (o:=VU (PM m.Prime D (m.zP.getD j []) (m.zP.getD i [])==PM m.Prime D (m.zP.getD i []) (wM m.Prime D m.zP (nw 0 ((x.zJ.getD i []).getD (j-(i+1)) [])) (idM D)))) (IsB.of_bool (by simp)) (by omega) ?_;unfold zQr;rw[wD h2,zR,wA (i:=j) [] (by omega),bs,wA (i:=i) [] (by omega),bs,hm.d,zA6 hm.p (by omega) hjm him,bs,bs,wA (i:=i) [] (by omega),bs,zL (by omega) (by omega),bs,zL (by omega) (by omega),bs,show(j:Int)-(i:Int)-1=((j-(i+1):Nat):Int)from by omega,wA [] (by omega),bs,zKw hm (by omega) c1 c2,bs,zA6 hm.p (by omega) him hw,bs,zDZ hs.1 hs.2]) (by
     unfold zQr;simp)with⟨g1,g2⟩|⟨j,j1,j2,g1,g2⟩
   ·grind
   ·right
    rw[g1,bs]
    grind
  grind
 ·unfold zQs
  simp
end
def zPA(x:SPr)(m:zS):Prop:=zDY x∧ ∃D,MOk x.zF.length m D∧zNH x m D
theorem zL3{x:SPr}{m:zS}(h2:Pres x):IsB (f_q x m) (∃D,MOk x.zF.length m D∧zNH x m D):=by
 have h6:=h2.os.1;unfold f_q;rcases zDW m.Prime with⟨p1,p2⟩|⟨p1,p2⟩
 ·rw[p1,bs,Jg,zT]
  rcases zBy m.Dim 1 3 with⟨d1,d2⟩|⟨d1,d2⟩
  ·rw[d1,bs,Jg,zT]
   obtain⟨D,hD⟩:∃D:Nat,m.Dim=(D:Int):=⟨m.Dim.toNat,by omega⟩
   by_cases gm:m.zP.length=x.zF.length
   ·rw[zAS (by omega),zT]
    rcases chk (body:=zQp x m) x.zF.length 0 (K6 _) (fun i=>Mat m.Prime D (m.zP.getD i [])) (fun _=>VX) (fun i _ hi _=>by
      refine tP (zNG p2 (D:=D) (by omega)) (by omega) ?_;unfold zQp;rw[wD hi,zR,wA [] (by omega),bs,hD]) (by
      unfold zQp;simp)with⟨g1,g2⟩|⟨i,_,hi,g1,g2⟩
    ·rw[show((0:Nat):Int)=0 from rfl]at g1
     have hm:MOk x.zF.length m D:=⟨p2,hD,by omega,by omega,gm,by grind⟩;rw[g1,bs];refine IsB.iff (Q:=∃D,MOk x.zF.length m D∧zNH x m D) (zNJ h2 hm) ⟨fun k2=>⟨D,hm,k2⟩,fun⟨D',gC,hr⟩=>?_⟩;have:D'=D:=by have:=gC.d;omega
     grind
    ·rw[show((0:Nat):Int)=0 from rfl]at g1
     rw[g1,bs];refine .inr ⟨rfl,fun⟨D',gC,_⟩=>g2 ?_⟩;have:D'=D:=by have:=gC.d;omega
     rw[←this];exact gC.mat i hi
   ·rw[zAT (by omega),zR]
    exact .inr ⟨rfl,fun⟨D',gC,_⟩=>gm gC.len⟩
  ·rw[d1,bs,Jv,zR]
   exact .inr ⟨rfl,fun⟨D',gC,_⟩=>d2 (by have:=gC.d;have:=gC.d1;have:=gC.d3;omega)⟩
 ·rw[p1,bs,Jv,zR]
  exact .inr ⟨rfl,fun⟨D',gC,_⟩=>p2 gC.p⟩
theorem zH6{x:SPr}{m:zS}(hl:x.zF.length≤1048576):IsB (zSb x m) (zPA x m):=by
 unfold zSb;rcases zL0 hl with⟨h1,h2⟩|⟨h1,h2⟩
 ·rw[h1,bs,zR]
  exact IsB.iff (Q:=zPA x m) (IsB.b (zL3 h2.1)) ⟨fun g=>⟨h2,g⟩,fun g=>g.2⟩
 ·rw[h1,bs,zT]
  exact .inr ⟨rfl,fun g=>h2 g.1⟩
end Go.Pl

namespace Go.Pl
open Go Go.Ab Go.Wk Go.Pc
abbrev Rl:=List Nat×List Nat
def r1(x:SPr)(i:Nat):Rl:=(J2 (at0 x.zF i).toNat i,nw 0 (x.yV.getD i []))
def r2(x:SPr)(i j:Nat):Rl:=([i+j+1,i],i::nw 0 ((x.zJ.getD i []).getD j []))
def R2(x:SPr)(i:Nat):List Rl:=(Jq (x.zJ.getD i []).length).map (r2 x i)
def kQ(x:SPr):List Rl:=(Jq x.zF.length).map (r1 x)++(Jq x.zF.length).flatMap (R2 x)
abbrev enR(q:Rl):List Int×List Int:=(enW q.1,enW q.2)
section
variable {x:SPr} (h:Pres x)
 include h
theorem zU0{i:Nat}(hi:i<x.zF.length):(R2 x i).length≤14:=by
 have:=(h.tl i hi).2.1;have:=h.os.1
 grind[R2]
theorem zL4:∀i,i≤x.zF.length→((Jq i).flatMap (R2 x)).length≤14*i
 |0,_=>by simp
 |i+1,hi=>by
  have:=zL4 i (by omega)
  grind[zU0,Ll]
theorem zRM{k i:Nat}:enW (J2 k i)=J2 k ((i:Int)+1):=by have _:=h;simp
theorem zEa:f_u x=VU ((kQ x).map enR):=by
 have h6:=h.os.1;have bH:=h.pl;have gK:=h.cl;unfold f_u;have l1:=yB (body:=zQD x) (r:=((Jq x.zF.length).map (r1 x)).map enR) (fun i=>(((Jq i).map (r1 x)).map enR,(i:Int))) x.zF.length (fun i hi=>by
  obtain⟨p1,p2⟩:=zBe h.os (h.tl i hi).1;unfold zQD;simp only
  rw[wD hi,zR,xV hi,bs,zL (by omega) (by omega),bs,zKx (h.os.2 i hi),bs,wA [] (by omega),bs,zCx (by omega) (by rw[p1];exact p2),bs,vP (by simp only[Jn,Ga,K5,G5];omega),bs,bs,cs,Ll];simp only[H6,Jh,G4,r1,enR,zRM h,cs]) (by
  unfold zQD;simp)
 rw[show((0:Nat):Int)=0 from rfl]at l1;simp only[List.range_zero,G4]at l1;rw[l1,bs];have l3:=yB (body:=zQF x) (r:=(kQ x).map enR) (fun i=>(((Jq x.zF.length).map (r1 x)++(Jq i).flatMap (R2 x)).map enR,(i:Int))) x.zF.length (fun i hi=>by
  have t2:=(h.tl i hi).2.1;have hfm:=zL4 h i (by omega);unfold zQF;simp only
  rw[wD hi,zR,wA [] (by omega),bs];have l2:=yB (body:=zQE (((Jq x.zF.length).map (r1 x)++(Jq i).flatMap (R2 x)).map enR,(i:Int)) (x.zJ.getD i [])) (r:=((Jq x.zF.length).map (r1 x)++(Jq (i+1)).flatMap (R2 x)).map enR)
   (fun j=>(((Jq x.zF.length).map (r1 x)++(Jq i).flatMap (R2 x)++(Jq j).map (r2 x i)).map enR,(j:Int))) (x.zJ.getD i []).length (fun j hj=>by
    obtain⟨p1,p2⟩:=zBe h.os ((h.tl i hi).2.2 j hj);have cb:=zHl 0 ((x.zJ.getD i []).getD j []) (by grind);unfold zQE;simp only
    rw[wD hj,zR,wA [] hj,bs,zL (by omega) (by omega),bs,zL (by omega) (by omega),bs,zL (by omega) (by omega),bs,zCx (by omega) (by rw[p1];exact p2),bs,vP (by simp only[Jn,K5,G5];omega),bs,vP (by simp only[Jn,Ji,Ga,K5,G5];omega),bs,zL (by omega) (by omega),bs,cs,Ll];have e1:(i:Int)+(j:Int)+2=((i+j+1:Nat):Int)+1:=by omega
    simp only[H6,Jh,G4,r2,enR,enW,Jd,Kx,e1];rfl) (by
    unfold zQE;simp only
    rw[zBa,zT,Ll,Uz]
    grind[R2])
  rw[show((0:Nat):Int)=0 from rfl]at l2
  grind[zL]) (by
  unfold zQF;simp only
  rw[zBa,zT];rfl)
 grind
theorem zNK{q:Rl}(hq:q∈kQ x):((∀w∈q.1,w<x.zF.length)∧q.1.length≤1000)∧(∀w∈q.2,w<x.zF.length)∧q.2.length≤1000:=by
 have h6:=h.os.1;simp only[kQ,Ka,Jb,L3,Hz,R2]at hq;rcases hq with⟨i,hi,rfl⟩|⟨i,hi,j,hj,rfl⟩
 ·obtain⟨p1,p2⟩:=zBe h.os (h.tl i hi).1
  have cb:=zHl 0 (x.yV.getD i []) (by rw[p1];exact fun i hi=>(p2 i hi).2);have cU:=(h.os.2 i hi).pos;refine⟨⟨fun w hw=>?_,?_⟩,fun w hw=>zP8 0 _ (by omega) w hw,by simp only[r1];omega⟩
  ·have:=List.eq_of_mem_replicate hw;omega
  ·simp only[r1,Hl];omega
 ·obtain⟨p1,p2⟩:=zBe h.os ((h.tl i hi).2.2 j hj)
  have t2:=(h.tl i hi).2.1;have cb:=zHl 0 ((x.zJ.getD i []).getD j []) (by rw[p1];exact fun i hi=>(p2 i hi).2);refine⟨⟨fun w hw=>?_,by simp[r2]⟩,fun w hw=>?_,by simp only[r2,K5];omega⟩
  ·simp only[r2,Jj,List.not_mem_nil,or_false]at hw;omega
  ·simp only[r2,Jj]at hw
   rcases hw with rfl|hw
   ·exact hi
   ·exact zP8 0 _ (by omega) w hw
variable {m:zS}{D:Nat} (hm:MOk x.zF.length m D)
 include hm
theorem zKz:(∀q∈kQ x,wM m.Prime D m.zP q.1 (idM D)=wM m.Prime D m.zP q.2 (idM D))↔zNH x m D:=by
 have h7:=hm.p.pos;have hI:=zED (p:=m.Prime) (D:=D) h7.1;have key:∀i j,i<x.zF.length→j<x.zF.length→ ∀ws,(wM m.Prime D m.zP [j,i] (idM D)=wM m.Prime D m.zP (i::ws) (idM D)↔PM m.Prime D (m.zP.getD j []) (m.zP.getD i [])=PM m.Prime D (m.zP.getD i []) (wM m.Prime D m.zP ws (idM D))):=fun i j hi hj ws=>by
  have ek:=hm.mat i hi;have bj:=hm.mat j hj;have e1:wM m.Prime D m.zP [j,i] (idM D)=PM m.Prime D (m.zP.getD j []) (m.zP.getD i []):=by show PM _ _ (PM _ _ (idM D) _) _=_;rw[zMV bj]
  have e2:wM m.Prime D m.zP (i::ws) (idM D)=PM m.Prime D (m.zP.getD i []) (wM m.Prime D m.zP ws (idM D)):=by show wM _ _ _ ws (PM _ _ (idM D) _)=_;rw[zMV ek,←zP9 (by omega) ek.1 ws hI,zP6 ek]
  rw[e1,e2]
 constructor
 ·intro g i hi
  have t2:=(h.tl i hi).2.1;refine⟨g (r1 x i) (by simp only[kQ,Ka,Jb,L3];grind),fun j h1 h2=>?_⟩;have:=g (r2 x i (j-(i+1))) (by
   simp only[kQ,Ka,Hz,L3,R2,Jb]
   grind)
  simp only[r2]at this;rw[show i+(j-(i+1))+1=j from by omega]at this
  grind
 ·intro g q hq
  simp only[kQ,Ka,Jb,L3,Hz,R2]at hq;rcases hq with⟨i,hi,rfl⟩|⟨i,hi,j,hj,rfl⟩
  ·exact(g i hi).1
  ·have t2:=(h.tl i hi).2.1
   have:=(g i hi).2 (i+j+1) (by omega) (by omega);rw[show i+j+1-(i+1)=j from by omega]at this;exact(key i (i+j+1) hi (by omega) _).2 this
theorem zNL:IsB ((zI (zQJ m ((kQ x).map enR)) 0).bind fun r=>match r with|.inl _=>VU VW|.inr r=>VU r) (zNH x m D):=by
 have h6:=h.os.1;have h7:=hm.p.pos;have h3:=hm.d3;have hI:=zED (p:=m.Prime) (D:=D) h7.1;have hfm:=zL4 h x.zF.length (Jf _);have dM:(kQ x).length≤1000:=by simp only[kQ,Ji,Jn,Ga];omega
 refine(kO (kQ x).length (fun k=>wM m.Prime D m.zP ((kQ x).getD k ([],[])).1 (idM D)=wM m.Prime D m.zP ((kQ x).getD k ([],[])).2 (idM D)) rfl (fun k hk _=>?_) ?_).iff ⟨fun g=>(zKz h hm).1 fun q hq=>?_,fun g k hk=>(zKz h hm).2 g _ ?_⟩
 ·have gE:(kQ x).getD k ([],[])∈kQ x:=by
   rw[J7,J5 hk];exact K7 hk
  obtain⟨⟨g1,g2⟩,g3,g4⟩:=zNK h gE;have hs:=(zFw (p:=m.Prime) (D:=D) (A:=m.zP) (by omega) ((kQ x).getD k ([],[])).1 hI).small (by omega);refine tP (o:=VU (wM m.Prime D m.zP ((kQ x).getD k ([],[])).1 (idM D)==wM m.Prime D m.zP ((kQ x).getD k ([],[])).2 (idM D))) (IsB.of_bool (by rw[beq_iff_eq])) (by omega) ?_;unfold zQJ;rw[Jn,wD hk,zR,qC,Jr,J5 hk];rw[J7,J5 hk]at g1 g2 g3 g4 hs ⊢
  simp only[Ge,Us]at g1 g2 g3 g4 hs ⊢
  rw[bs,zDB hm h6 g1 (Lh g2 (by omega)),bs,zDB hm h6 g3 (Lh g4 (by omega)),bs];simp only
  rw[zH5 hs.1 hs.2]
 ·unfold zQJ
  rw[Jn,zBa,zT]
 ·obtain⟨k,hk,rfl⟩:=Kh.1 hq
  have:=g k hk;rw[J7,J5 hk]at this;exact this
 ·rw[J7,J5 hk];exact K7 hk
end
theorem zH7{x:SPr}{m:zS}(hl:x.zF.length≤1048576)(_hal:m.zP.length≤1048576):IsB (f_x x m) (zPA x m):=by
 unfold f_x;rcases zEB hl with⟨h1,h2⟩|⟨h1,h2⟩
 ·have h6:=h2.1.os.1
  rw[h1,bs,Jg,zT];rcases zCj m.Prime with⟨p1,p2⟩|⟨p1,p2⟩
  ·rw[p1,bs,Jg,zT]
   rcases zAC m.Dim 1 3 with⟨d1,d2⟩|⟨d1,d2⟩
   ·rw[d1,bs,Jg,zT]
    obtain⟨D,hD⟩:∃D:Nat,m.Dim=(D:Int):=⟨m.Dim.toNat,by omega⟩
    by_cases gm:m.zP.length=x.zF.length
    ·rw[zAS (by omega),zT]
     rcases chk (body:=zQI m) m.zP.length 0 (K6 _) (fun i=>Mat m.Prime D (m.zP.getD i [])) (fun _=>VX) (fun i _ hi _=>by
       unfold zQI;rw[wD hi,zR,wA [] hi,bs,hD]
       by_cases hr:(m.zP.getD i []).length=D
       ·rw[zAS (by omega),zT]
        refine tP (zH4 p2 (D:=D) (by omega) hr) (by omega) ?_
        grind[zLO,wA]
       ·rw[zAT (by omega),zR]
        exact .inr ⟨rfl,fun g=>hr g.1⟩) (by
       unfold zQI;simp)with⟨g1,g2⟩|⟨i,_,hi,g1,g2⟩
     ·rw[show((0:Nat):Int)=0 from rfl]at g1
      have hm:MOk x.zF.length m D:=⟨p2,hD,by omega,by omega,gm,by grind⟩;rw[g1,bs,zEa h2.1];simp only
      rw[bs];refine(zNL h2.1 hm).iff ⟨fun k2=>⟨h2,D,hm,k2⟩,fun⟨_,D',gC,hr⟩=>?_⟩;have:D'=D:=by have:=gC.d;omega
      grind
     ·rw[show((0:Nat):Int)=0 from rfl]at g1
      rw[g1,bs];refine .inr ⟨rfl,fun⟨_,D',gC,_⟩=>g2 ?_⟩;have:D'=D:=by have:=gC.d;omega
      rw[←this];exact gC.mat i (by omega)
    ·rw[zAT (by omega),zR]
     exact .inr ⟨rfl,fun⟨_,D',gC,_⟩=>gm gC.len⟩
   ·rw[d1,bs,Jv,zR]
    exact .inr ⟨rfl,fun⟨_,D',gC,_⟩=>d2 (by have:=gC.d;have:=gC.d1;have:=gC.d3;omega)⟩
  ·rw[p1,bs,Jv,zR]
   exact .inr ⟨rfl,fun⟨_,D',gC,_⟩=>p2 gC.p⟩
 ·rw[h1,bs,Jv,zR]
  exact .inr ⟨rfl,fun g=>h2 g.1⟩
end Go.Pl

namespace Go.Pl
open Go Go.Ab Go.Wk Go.Pc
end Go.Pl

namespace Go.Pl
open Go Go.Ab Go.Wk Go.Pc
section
variable {p:Int}
def kD(p:Int)(D:Nat)(r:List Int)(k:Int)(s:List Int):List Int:=mkv D fun j=>(at0 r j+k*at0 s j)%p
def zH8(p:Int)(D i:Nat)(r:List Int)(k:Int)(s:List Int):List Int:=mkv D fun j=>if j<i then(at0 r j+k*at0 s j)%p else at0 r j
theorem zIy{D:Nat}{r s:List Int}{k:Int}(hr:r.length=D):zH8 p D 0 r k s=r:=by
 conv=>rhs;rw[zCl hr]
 rfl
theorem zIz{D:Nat}{r s:List Int}{k:Int}:zH8 p D D r k s=kD p D r k s:=tJ (by omega)
theorem zK0{D i:Nat}{r s:List Int}{k a:Int}(ha:a=(at0 r i+k*at0 s i)%p):(zH8 p D i r k s).set i a=zH8 p D (i+1) r k s:=by
 simp only[zH8];rw[zGe]
 grind
theorem zMZ{D i:Nat}{r s:List Int}{k:Int}(hi:i<D):at0 (zH8 p D i r k s) i=at0 r i:=by rw[zH8,vE hi,if_neg (by omega)]
theorem zEE{D i:Nat}{r s:List Int}{k:Int}:(zH8 p D i r k s).length=D:=vR _ _
end
section
variable {p:Int} (hp:Prime p)
 include hp
theorem zK1{a:Int}(_h0:-1000≤a)(_h1:a≤1000):zJo a p=VU (a%p):=by
 have h7:=hp.pos;have e1:=Uo a (show 0<p by omega);have e2:=Up a (show 0<p by omega);have e3:(Q8 a p+p)%p=a%p:=by
  rw[Hm];have:=Uc a p
  conv=>rhs;rw[←this]
  simp
 unfold zJo vN;rw[if_neg (by omega),bs,zL (by omega) (by omega),bs,if_neg (by omega),bs,Kt (by omega),e3]
theorem zK2{a:Int}(_h0:-1000≤a)(_h1:a≤1000):zQS a p=VU (a%p):=by
 have h7:=hp.pos;have e1:=Uo a (show 0<p by omega);have e2:=Up a (show 0<p by omega);have e3:(Q8 a p+p)%p=a%p:=by
  rw[Hm];have:=Uc a p
  conv=>rhs;rw[←this]
  simp
 unfold zQS vN;rw[if_neg (by omega),bs]
 by_cases h:Q8 a p<0
 ·rw[VZ h,zR,zL (by omega) (by omega),bs,←e3,Jx (by omega) (by omega)]
 ·rw[VY h,zT,←e3,Hm,Jx (by omega) (by omega)]
theorem zHm{D:Nat}{r s:List Int}{k:Int}:Row p D (kD p D r k s):=by have h7:=hp.pos;refine⟨vR _ _,fun i hi=>?_⟩;have e:at0 (kD p D r k s) i=(at0 r i+k*at0 s i)%p:=vE hi;have e1:=Kq (at0 r i+k*at0 s i) (show p≠0 by omega);have e2:=Kd (at0 r i+k*at0 s i) (show 0<p by omega);omega
theorem zCm{k b:Int}(hk:-7≤k∧k≤7)(hb:0≤b∧b≤p-1):-49≤k*b∧k*b≤49:=by
 have h7:=hp.pos;rcases Int.le_total 0 k with h|h
 ·have h1:=Lv h hb.1
  have h2:=Ku hk.2 (show b≤7 by omega) hb.1 (by omega);omega
 ·have h1:=Lv (show 0≤ -k by omega) hb.1
  have h2:=Ku (show -k≤7 by omega) (show b≤7 by omega) hb.1 (by omega);rw[Int.neg_mul]at h1 h2;omega
theorem zI0{D:Nat}{r s:List Int}{k:Int}(hr:Row p D r)(hs:Row p D s)(hk:-7≤k∧k≤7)(hD:D≤1000000):f_F r s k p=VU (kD p D r k s):=by
 have h7:=hp.pos;have:=yB (body:=zKM r s k p) (r:=kD p D r k s) (fun i=>(zH8 p D i r k s,(i:Int))) D (fun i hi=>by
  have a1:=hr.2 i hi;have a2:=hs.2 i hi;have a3:=zCm hp hk a2;unfold zKM;simp only
  rw[hr.1,wD hi,zR,xV (by grind[zEE]),bs,xV (by rw[hs.1];exact hi),bs,zL (by omega) (by omega),bs,zMZ hi,zL (by omega) (by omega),bs,zK1 hp (by omega) (by omega),bs,bs,zL (by omega) (by omega),bs,cs,Jl,zK0 rfl]) (by
  unfold zKM;simp only
  rw[hr.1,zBa,zT,zIz])
 rw[show((0:Nat):Int)=0 from rfl,zIy hr.1]at this
 grind[f_F]
theorem zCR{D:Nat}{r s:List Int}{k:Int}(hr:Row p D r)(hs:Row p D s)(hk:-7≤k∧k≤7)(hD:D≤1000000):f_A p r k s=VU (kD p D r k s):=by
 have h7:=hp.pos;have:=yB (body:=zOc p k s) (r:=kD p D r k s) (fun i=>(zH8 p D i r k s,(i:Int))) D (fun i hi=>by
  have a1:=hr.2 i hi;have a2:=hs.2 i hi;have a3:=zCm hp hk a2;unfold zOc;simp only
  rw[zEE,wD hi,zR,hs.1,wD hi,zR,xV (by grind[zEE]),bs,xV (by rw[hs.1];exact hi),bs,zL (by omega) (by omega),bs,zMZ hi,zL (by omega) (by omega),bs,zK2 hp (by omega) (by omega),bs,bs,zL (by omega) (by omega),bs,cs,Jl,zK0 rfl]) (by
  unfold zOc;simp only
  rw[zEE,zBa,zT,zIz])
 rw[show((0:Nat):Int)=0 from rfl,zIy hr.1]at this;unfold f_A;rw[zBO (by rw[hr.1];omega),bs,this,bs]
end
end Go.Pl

namespace Go.Pl
open Go Go.Ab Go.Wk Go.Pc
def VOk(n:Nat)(p:Int)(D:Nat)(vals:Mx):Prop:=vals.length=n∧ ∀i,i<n→Row p D (vals.getD i [])
abbrev z0(D:Nat):List Int:=J2 D 0
theorem zU1{p:Int}{D:Nat}(hp:0<p):Row p D (z0 D):=by
 refine⟨by simp,fun i hi=>?_⟩
 grind
theorem zK3{p:Int}{D:Nat}{r:List Int}{B:Mx}(hp:0<p):Row p D (zBR p D r B):=by
 refine⟨vR _ _,fun i hi=>?_⟩;have e1:=Kq (S D (fun l=>at0 r l*ent B l i)) (show p≠0 by omega);have e2:=Kd (S D (fun l=>at0 r l*ent B l i)) hp
 grind[zBR,vE]
end Go.Pl

namespace Go.Pl
open Go Go.Ab Go.Wk Go.Pc
theorem zNa{a b:Int}(h:a=b):(a==b)=VW:=by simp[h]
theorem zK4{a b:Int}(h:a≠b):(a==b)=VX:=by simp[h]
end Go.Pl

namespace Go.Pl
open Go Go.Ab Go.Wk Go.Pc
theorem IsB.both{o o':Option Bool}{P:Prop}(h:IsB o P)(h':IsB o' P):(o=VU VW∧o'=VU VW∧P)∨(o=VU VX∧o'=VU VX∧ ¬P):=by
 rcases h with⟨h1,h2⟩|⟨h1,h2⟩<;>rcases h' with⟨h3,h4⟩|⟨h3,h4⟩
 all_goals grind
end Go.Pl

namespace Go.Pl
open Go Go.Ab Go.Wk Go.Pc
def Sp(p:Int)(n:Nat)(R:Mx)(v:List Int):Prop:=∃c:Nat→Int,∀j,j<n→(S R.length fun i=>c i*ent R i j)%p=at0 v j%p
section
variable {p:Int}{n:Nat}{R R':Mx}{u v w:List Int}
theorem kR{i:Nat}(hi:i<R.length):Sp p n R (R.getD i []):=by
 refine⟨fun l=>if l=i then 1 else 0,fun j _=>?_⟩
 grind[zFL]
theorem zAJ{k:Int}(hv:Sp p n R v)(hw:Sp p n R w)(h:∀j,j<n→at0 u j%p=(at0 v j+k*at0 w j)%p):Sp p n R u:=by
 obtain⟨c,hc⟩:=hv;obtain⟨d,hd⟩:=hw;refine⟨fun i=>c i+k*d i,fun j hj=>?_⟩;have e:(S R.length fun i=>(c i+k*d i)*ent R i j)=(S R.length fun i=>c i*ent R i j)+k*(S R.length fun i=>d i*ent R i j):=by
  rw[←zHg,←zKq]
  grind
 rw[e,h j hj,K4,hc j hj,Ju,hd j hj,←Ju,←K4]
theorem zDl(h:∀j,j<n→at0 u j%p=0):Sp p n R u:=by refine⟨fun _=>0,fun j hj=>?_⟩;rw[h j hj,zBc (g:=fun _=>0) (fun i _=>by simp),zCk];simp
theorem kS(h:∀i,i<R.length→Sp p n R' (R.getD i []))(hv:Sp p n R v):Sp p n R' v:=by
 obtain⟨c,hc⟩:=hv;have key:∀m,m≤R.length→ ∃d:Nat→Int,∀j,j<n→(S R'.length fun i=>d i*ent R' i j)%p=(S m fun i=>c i*ent R i j)%p:=by
  intro m
  induction m with
  |zero=>intro _;exact⟨fun _=>0,fun j _=>by rw[zBc (g:=fun _=>0) (fun i _=>by simp),zCk];rfl⟩
  |succ m ih=>
   intro hm;obtain⟨d,hd⟩:=ih (by omega);obtain⟨e,he⟩:=h m (by omega);refine⟨fun i=>d i+c m*e i,fun j hj=>?_⟩;have e1:(S R'.length fun i=>(d i+c m*e i)*ent R' i j)=(S R'.length fun i=>d i*ent R' i j)+c m*(S R'.length fun i=>e i*ent R' i j):=by
    rw[←zHg,←zKq]
    grind
   rw[e1,K4,hd j hj,Ju,he j hj,←Ju,←K4];rfl
 obtain⟨d,hd⟩:=key R.length (Jf _);exact⟨d,by grind⟩
end
def zAD(p:Int)(n:Nat)(R R':Mx):Prop:=(∀i,i<R.length→Sp p n R' (R.getD i []))∧ ∀i,i<R'.length→Sp p n R (R'.getD i [])
theorem zAD.refl{p:Int}{n:Nat}{R:Mx}:zAD p n R R:=⟨fun _ h=>kR h,fun _ h=>kR h⟩
theorem zAD.symm{p:Int}{n:Nat}{R R':Mx}(h:zAD p n R R'):zAD p n R' R:=⟨h.2,h.1⟩
theorem zAD.trans{p:Int}{n:Nat}{R R' R2:Mx}(h:zAD p n R R')(h':zAD p n R' R2):zAD p n R R2:=⟨fun i hi=>kS h'.1 (h.1 i hi),fun i hi=>kS h.2 (h'.2 i hi)⟩
theorem zAD.iff{p:Int}{n:Nat}{R R':Mx}{v:List Int}(h:zAD p n R R'):Sp p n R v↔Sp p n R' v:=⟨fun g=>kS h.1 g,fun g=>kS h.2 g⟩
structure Red (p:Int) (n:Nat) (R:Mx) (pv:Nat→Nat):Prop where
 row:∀i,i<R.length→Row p n (R.getD i [])
 lt:∀i,i<R.length→pv i<n
 one:∀i,i<R.length→ent R i (pv i)=1
 low:∀i,i<R.length→ ∀j,j<pv i→ent R i j=0
 off:∀i k,i<R.length→k<R.length→k≠i→ent R k (pv i)=0
 mono:∀i j,i<j→j<R.length→pv i<pv j
section
variable {p:Int} (hp:1<p) {n:Nat}{R R':Mx}{pv pv':Nat→Nat}{v:List Int}
theorem Red.coef(h:Red p n R pv){c:Nat→Int}(hc:∀j,j<n→(S R.length fun i=>c i*ent R i j)%p=at0 v j%p){k:Nat}(hk:k<R.length):c k%p=at0 v (pv k)%p:=by rw[←hc (pv k) (h.lt k hk),zFL (k:=k) hk (fun i hi gk=>by rw[h.off k i hk hi gk];simp),h.one k hk];simp
theorem Red.expand(h:Red p n R pv)(hv:Sp p n R v):∀j,j<n→at0 v j%p=(S R.length fun i=>at0 v (pv i)*ent R i j)%p:=by obtain⟨c,hc⟩:=hv;intro j hj;rw[←hc j hj];exact zIr fun i hi=>by rw[Ju,h.coef hc hi,←Ju]
theorem Red.lead(h:Red p n R pv)(hv:Sp p n R v)(gk:∃j,j<n∧at0 v j%p≠0):∃i,i<R.length∧(∀j,j<pv i→at0 v j%p=0)∧at0 v (pv i)%p≠0:=by
 have hx:=h.expand hv;have h1:∃i,i<R.length∧at0 v (pv i)%p≠0:=by
  refine Classical.byContradiction fun hn=>?_
  obtain⟨j,hj,hj2⟩:=gk;refine hj2 ?_;rw[hx j hj,zIr (g:=fun _=>0) (fun i hi=>by
   have:at0 v (pv i)%p=0:=by grind
   rw[Ju,this];simp),zCk];rfl
 obtain⟨i,⟨hi,bl⟩,fb⟩:=zEv h1;refine⟨i,hi,fun j hj=>?_,bl⟩;have Vw:j<n:=Nat.lt_trans hj (h.lt i hi);rw[hx j Vw,zIr (g:=fun _=>0) (fun k hk=>by
  rcases Jt k i with hki|hki
  ·have:at0 v (pv k)%p=0:=by grind
   rw[Ju,this];simp
  ·have h2:pv i≤pv k:=by
    rcases Jt i k with h3|h3
    ·exact Nat.le_of_lt (h.mono i k h3 hk)
    grind
   rw[h.low k hk j (by omega)];simp),zCk];rfl
 include hp
theorem Red.row_lead(h:Red p n R pv){i:Nat}(hi:i<R.length):(∃j,j<n∧at0 (R.getD i []) j%p≠0)∧(∀j,j<pv i→at0 (R.getD i []) j%p=0)∧at0 (R.getD i []) (pv i)%p≠0:=by
 have h1:at0 (R.getD i []) (pv i)%p≠0:=by have:=h.one i hi;simp only[ent]at this;rw[this,Jx (by omega) hp];omega
 refine⟨⟨pv i,h.lt i hi,h1⟩,fun j hj=>?_,h1⟩;have:=h.low i hi j hj
 simp_all
theorem Red.piv_in(h:Red p n R pv)(h':Red p n R' pv')(hs:∀i,i<R.length→Sp p n R' (R.getD i [])){i:Nat}(hi:i<R.length):∃k,k<R'.length∧pv' k=pv i:=by
 obtain⟨g1,g2,g3⟩:=h.row_lead hp hi;obtain⟨k,hk,g4,g5⟩:=h'.lead (hs i hi) g1
 grind
theorem Red.piv_eq(h:Red p n R pv)(h':Red p n R' pv')(hs:zAD p n R R'):∀i,(i<R.length↔i<R'.length)∧(i<R.length→pv i=pv' i):=by
 intro i
 induction i using Nat.strongRecOn with
 |_ i ih=>
  have a:i<R.length→i<R'.length∧pv' i≤pv i:=fun hi=>by
   obtain⟨k,hk,e⟩:=h.piv_in hp h' hs.1 hi;have hki:i≤k:=by
    refine Classical.byContradiction fun hn=>?_
    have h1:=(ih k (by omega)).2 (by omega);have h2:=h.mono k i (by omega) hi;omega
   refine⟨by omega,?_⟩;rcases Jt i k with h3|h3
   ·have:=h'.mono i k h3 hk;omega
   grind
  have b:i<R'.length→i<R.length∧pv i≤pv' i:=fun hi=>by
   obtain⟨k,hk,e⟩:=h'.piv_in hp h hs.2 hi;have hki:i≤k:=by
    refine Classical.byContradiction fun hn=>?_
    have h1:=(ih k (by omega)).2 hk;have h2:=h'.mono k i (by omega) hi;omega
   refine⟨by omega,?_⟩;rcases Jt i k with h3|h3
   ·have:=h.mono i k h3 hk;omega
   grind
  omega
theorem Red.unique(h:Red p n R pv)(h':Red p n R' pv')(hs:zAD p n R R'):R=R':=by
 have hpe:=h.piv_eq hp h' hs;have hl:R.length=R'.length:=by
  rcases Uu R.length R'.length with g|g|g
  all_goals grind
 refine zFu (D:=R.length) rfl hl.symm fun i hi=>?_
 have ek:i<R'.length:=by omega
 have r1:=h.row i hi;have r2:=h'.row i ek;rw[zCl r1.1,zCl r2.1];refine tJ fun j hj=>?_
 have hx:=h'.expand (hs.1 i hi) j hj;rw[zBc (g:=fun k=>(if k=i then 1 else 0)*ent R' k j) (fun k hk=>by
  congr 1
  have e:=(hpe k).2 (by omega)
  by_cases hki:k=i
  ·subst hki;rw[if_pos rfl,←e];exact h.one k hi
  ·rw[if_neg hki,←e];exact h.off k i (by omega) hi (Ne.symm hki)),zFL (k:=i) ek (fun k _ hk=>by simp[hk])]at hx
 simp only[if_true,Gp,ent]at hx;have a1:=r1.2 j hj;have a2:=r2.2 j hj;rw[Jx a1.1 (by omega),Jx a2.1 (by omega)]at hx;exact hx
end
end Go.Pl

namespace Go.Pl
open Go Go.Ab Go.Wk Go.Pc
def mkR(m:Nat)(F:Nat→List Int):Mx:=(Jq m).map F
theorem qD{m:Nat}{F:Nat→List Int}:(mkR m F).length=m:=by simp[mkR]
theorem zA7{m:Nat}{F:Nat→List Int}{i:Nat}(h:i<m):(mkR m F).getD i []=F i:=by simp[mkR,J7,h]
theorem zJi{m:Nat}{F:Nat→List Int}{i:Nat}(h:i<m):ixO (mkR m F) (i:Int)=VU (F i):=by rw[wA [] (by grind[qD]),zA7 h]
theorem zAp{m:Nat}{F G:Nat→List Int}(h:∀i,i<m→F i=G i):mkR m F=mkR m G:=by grind[mkR,Ue]
theorem zPB{R:Mx}{m:Nat}(h:R.length=m):R=mkR m (fun i=>R.getD i []):=zFu (D:=m) h qD (by grind[zA7])
theorem zGf{m:Nat}{F:Nat→List Int}{i:Nat}{a:List Int}:(mkR m F).set i a=mkR m (fun k=>if k=i then a else F k):=by
 apply Kz;intro k
 by_cases hk:k<m
 ·by_cases h:i=k
  ·grind[mkR]
  ·rw[List.getElem?_set_ne h];simp[mkR,hk,Ne.symm h]
 grind[mkR]
theorem zEF{m:Nat}{F:Nat→List Int}{i j:Nat}(h:i<m):ent (mkR m F) i j=at0 (F i) j:=by simp only[ent,zA7 h]
theorem zPC{s:Nat→Int×Int×Int×Int}(n:Nat){r:Int×Int}(h:∀i,i<n→zKQ (s i)=VU (.inl (s (i+1))))(he:zKQ (s n)=VU (.inr r)){p q:Int}(hq:zJo r.2 p=VU q)(h1:r.1=1)(hs:s 0=(p,(s 0).2.1,0,1)):
  zNZ (s 0).2.1 p=VU (q,VW):=by
 unfold zNZ;rw[←hs,yB s n h he,bs,hq,bs,h1];rfl
def zPD:List (Int×Int×Int×Int)→Nat→Int×Int×Int×Int:=fun l i=>l.getD i (0,0,0,0)
theorem tX(l:List (Int×Int×Int×Int))(n:Nat){r:Int×Int}(h:∀i,i<n→zKQ (zPD l i)=VU (.inl (zPD l (i+1))))(he:zKQ (zPD l n)=VU (.inr r)){p q x:Int}(hq:zJo r.2 p=VU q)(h1:r.1=1)(hs:zPD l 0=(p,x,0,1)):
  zNZ x p=VU (q,VW):=by
 have:=zPC (s:=zPD l) n h he hq h1 (by rw[hs])
 grind
theorem lt1{P:Nat→Prop}(h0:P 0):∀i,i<1→P i:=by grind
theorem lt2{P:Nat→Prop}(h0:P 0)(h1:P 1):∀i,i<2→P i:=by grind
theorem lt3{P:Nat→Prop}(h0:P 0)(h1:P 1)(h2:P 2):∀i,i<3→P i:=by grind
theorem zEG{p x:Int}(hp:Prime p)(h0:1≤x)(h1:x≤p-1):∃r,zNZ x p=VU (r,VW)∧0≤r∧r≤p-1∧(x*r)%p=1:=by
 have c:(p=2∧x=1)∨(p=3∧(x=1∨x=2))∨(p=5∧(x=1∨x=2∨x=3∨x=4))∨(p=7∧(x=1∨x=2∨x=3∨x=4∨x=5∨x=6)):=by unfold Prime at hp;omega
 rcases c with⟨rfl,rfl⟩|⟨rfl,rfl|rfl⟩|⟨rfl,rfl|rfl|rfl|rfl⟩|⟨rfl,rfl|rfl|rfl|rfl|rfl|rfl⟩
 ·exact⟨1,tX [(2,1,0,1),(1,0,1,-2)] 1 (lt1 (by rfl)) (r:=(1,1)) (by rfl) (by rfl) rfl rfl,by decide,by decide,by decide⟩
 ·exact⟨1,tX [(3,1,0,1),(1,0,1,-3)] 1 (lt1 (by rfl)) (r:=(1,1)) (by rfl) (by rfl) rfl rfl,by decide,by decide,by decide⟩
 ·exact⟨2,tX [(3,2,0,1),(2,1,1,-1),(1,0,-1,3)] 2 (lt2 (by rfl) (by rfl)) (r:=(1,-1)) (by rfl) (by rfl) rfl rfl,by decide,by decide,by decide⟩
 ·exact⟨1,tX [(5,1,0,1),(1,0,1,-5)] 1 (lt1 (by rfl)) (r:=(1,1)) (by rfl) (by rfl) rfl rfl,by decide,by decide,by decide⟩
 ·exact⟨3,tX [(5,2,0,1),(2,1,1,-2),(1,0,-2,5)] 2 (lt2 (by rfl) (by rfl)) (r:=(1,-2)) (by rfl) (by rfl) rfl rfl,by decide,by decide,by decide⟩
 ·exact⟨2,tX [(5,3,0,1),(3,2,1,-1),(2,1,-1,2),(1,0,2,-5)] 3 (lt3 (by rfl) (by rfl) (by rfl)) (r:=(1,2)) (by rfl) (by rfl) rfl rfl,by decide,by decide,by decide⟩
 ·exact⟨4,tX [(5,4,0,1),(4,1,1,-1),(1,0,-1,5)] 2 (lt2 (by rfl) (by rfl)) (r:=(1,-1)) (by rfl) (by rfl) rfl rfl,by decide,by decide,by decide⟩
 ·exact⟨1,tX [(7,1,0,1),(1,0,1,-7)] 1 (lt1 (by rfl)) (r:=(1,1)) (by rfl) (by rfl) rfl rfl,by decide,by decide,by decide⟩
 ·exact⟨4,tX [(7,2,0,1),(2,1,1,-3),(1,0,-3,7)] 2 (lt2 (by rfl) (by rfl)) (r:=(1,-3)) (by rfl) (by rfl) rfl rfl,by decide,by decide,by decide⟩
 ·exact⟨5,tX [(7,3,0,1),(3,1,1,-2),(1,0,-2,7)] 2 (lt2 (by rfl) (by rfl)) (r:=(1,-2)) (by rfl) (by rfl) rfl rfl,by decide,by decide,by decide⟩
 ·exact⟨2,tX [(7,4,0,1),(4,3,1,-1),(3,1,-1,2),(1,0,2,-7)] 3 (lt3 (by rfl) (by rfl) (by rfl)) (r:=(1,2)) (by rfl) (by rfl) rfl rfl,by decide,by decide,by decide⟩
 ·exact⟨3,tX [(7,5,0,1),(5,2,1,-1),(2,1,-1,3),(1,0,3,-7)] 3 (lt3 (by rfl) (by rfl) (by rfl)) (r:=(1,3)) (by rfl) (by rfl) rfl rfl,by decide,by decide,by decide⟩
 ·exact⟨6,tX [(7,6,0,1),(6,1,1,-1),(1,0,-1,7)] 2 (lt2 (by rfl) (by rfl)) (r:=(1,-1)) (by rfl) (by rfl) rfl rfl,by decide,by decide,by decide⟩
end Go.Pl

namespace Go.Pl
open Go Go.Ab Go.Wk Go.Pc
structure zNM (p:Int) (n m:Nat) (rows:Mx) (c:Nat) (M:Mx) (d:Nat) (pv:Nat→Nat):Prop where
 len:M.length=m
 row:∀i,i<m→Row p n (M.getD i [])
 dm:d≤m
 lt:∀i,i<d→pv i<c
 one:∀i,i<d→ent M i (pv i)=1
 low:∀i,i<d→ ∀j,j<pv i→ent M i j=0
 off:∀i k,i<d→k<m→k≠i→ent M k (pv i)=0
 mono:∀i j,i<j→j<d→pv i<pv j
 zero:∀k,d≤k→k<m→ ∀j,j<c→ent M k j=0
 sp:zAD p n M rows
theorem zCn{p:Int}{n m:Nat}{F:Nat→List Int}{i:Nat}(h:i<m):Sp p n (mkR m F) (F i):=by
 have:=kR (p:=p) (n:=n) (R:=mkR m F) (i:=i) (by grind[qD])
 grind[zA7]
theorem zPE(a e r p:Int):a%p=((a+(0-e)*r)%p+e*r)%p:=by rw[K4,K3,←K4,show a+(0-e)*r+e*r=a from by grind]
section
variable {p:Int} (hp:Prime p) {n m:Nat}{rows:Mx}{c:Nat}{M:Mx}{d:Nat}{pv:Nat→Nat} (h:zNM p n m rows c M d pv) (hc:c<n) (hd:d<m)
 include hp h hc hd
theorem zNM.pivot{t:Nat}(ht:d≤t)(aj:t<m)(gk:ent M t c≠0){q:Int}(hq:(ent M t c*q)%p=1):
  zNM p n m rows (c+1) (mkR m fun i=>if i=d then mkv n fun j=>(ent M t j*q)%p else kD p n (if i=t then M.getD d []else M.getD i []) (0-at0 (if i=t then M.getD d []else M.getD i []) c) (mkv n fun j=>(ent M t j*q)%p)) (d+1) (fun i=>if i=d then c else pv i):=by
 have h7:=hp.pos;have pr:∀j,j<n→at0 (mkv n fun j=>(ent M t j*q)%p) j=(ent M t j*q)%p:=fun j hj=>vE hj
 have p0:∀j,j<c→(ent M t j*q)%p=0:=fun j hj=>by rw[h.zero t ht aj j hj];simp
 have prow:Row p n (mkv n fun j=>(ent M t j*q)%p):=⟨vR _ _,fun j hj=>by have e1:=Kq (ent M t j*q) (show p≠0 by omega);have e2:=Kd (ent M t j*q) (show 0<p by omega);rw[pr j hj];omega⟩
 have hG:∀i,i<m→i≠d→Row p n (if i=t then M.getD d []else M.getD i []):=fun i hi _=>by
  split
  ·exact h.row d hd
  ·exact h.row i hi
 have eo:∀i j,i<m→i≠d→j<n→ent (mkR m fun i=>if i=d then mkv n fun j=>(ent M t j*q)%p else kD p n (if i=t then M.getD d []else M.getD i []) (0-at0 (if i=t then M.getD d []else M.getD i []) c) (mkv n fun j=>(ent M t j*q)%p)) i j=(at0 (if i=t then M.getD d []else M.getD i []) j+(0-at0 (if i=t then M.getD d []else M.getD i []) c)*((ent M t j*q)%p))%p:=fun i j hi ei hj=>by rw[zEF hi,if_neg ei,kD,vE hj,pr j hj]
 have el:∀i j,i<m→i≠d→j<c→ent (mkR m fun i=>if i=d then mkv n fun j=>(ent M t j*q)%p else kD p n (if i=t then M.getD d []else M.getD i []) (0-at0 (if i=t then M.getD d []else M.getD i []) c) (mkv n fun j=>(ent M t j*q)%p)) i j=at0 (if i=t then M.getD d []else M.getD i []) j:=fun i j hi ei hj=>by rw[eo i j hi ei (by omega),p0 j hj,Qf,Hx];have:=(hG i hi ei).2 j (by omega);exact Jx this.1 (by omega)
 have ed:∀j,j<n→ent (mkR m fun i=>if i=d then mkv n fun j=>(ent M t j*q)%p else kD p n (if i=t then M.getD d []else M.getD i []) (0-at0 (if i=t then M.getD d []else M.getD i []) c) (mkv n fun j=>(ent M t j*q)%p)) d j=(ent M t j*q)%p:=fun j hj=>by rw[zEF hd,if_pos rfl,pr j hj]
 have ec:∀i,i<m→i≠d→ent (mkR m fun i=>if i=d then mkv n fun j=>(ent M t j*q)%p else kD p n (if i=t then M.getD d []else M.getD i []) (0-at0 (if i=t then M.getD d []else M.getD i []) c) (mkv n fun j=>(ent M t j*q)%p)) i c=0:=fun i hi ei=>by rw[eo i c hi ei hc,hq,H7];rw[show at0 (if i=t then M.getD d []else M.getD i []) c+(0-at0 (if i=t then M.getD d []else M.getD i []) c)=0 from by omega];simp
 have fc:∀i,i<d→(if i=t then M.getD d []else M.getD i [])=M.getD i []:=fun i hi=>by rw[if_neg (by omega)]
 have hzr:∀i,d≤i→i<m→ ∀j,j<c→at0 (if i=t then M.getD d []else M.getD i []) j=0:=fun i hi bl j hj=>by
  split
  ·exact h.zero d (Jf _) hd j hj
  ·exact h.zero i hi bl j hj
 refine⟨qD,fun i hi=>?_,by omega,fun i hi=>?_,fun i hi=>?_,fun i hi j hj=>?_,fun i k hi hk ei=>?_,fun i j hij hj=>?_,fun k hk fA j hj=>?_,?_⟩
 ·rw[zA7 hi]
  split
  ·exact prow
  ·exact zHm hp
 ·by_cases hid:i=d
  ·rw[if_pos hid];omega
  ·rw[if_neg hid];have:=h.lt i (by omega);omega
 ·by_cases hid:i=d
  ·subst hid;rw[if_pos rfl,ed c hc,hq]
  ·have h1:=h.lt i (by omega)
   rw[if_neg hid,el i _ (by omega) hid h1,fc i (by omega)];exact h.one i (by omega)
 ·by_cases hid:i=d
  ·subst hid
   rw[if_pos rfl]at hj;rw[ed j (by omega),p0 j hj]
  ·rw[if_neg hid]at hj
   have h1:=h.lt i (by omega);rw[el i j (by omega) hid (by omega),fc i (by omega)];exact h.low i (by omega) j hj
 ·by_cases hid:i=d
  ·subst hid
   rw[if_pos rfl];exact ec k hk ei
  ·have h1:=h.lt i (by omega)
   rw[if_neg hid]
   by_cases hkd:k=d
   ·subst hkd
    rw[ed _ (by omega),h.off i t (by omega) aj (by omega)];simp
   ·rw[el k _ hk hkd h1]
    split
    ·exact h.off i d (by omega) hd (Ne.symm hid)
    ·exact h.off i k (by omega) hk ei
 ·by_cases hjd:j=d
  ·subst hjd
   rw[if_pos rfl,if_neg (by omega)];exact h.lt i (by omega)
  ·rw[if_neg hjd,if_neg (by omega)];exact h.mono i j hij (by omega)
 ·rcases Jt j c with hjc|hjc
  ·rw[el k j fA (by omega) hjc];exact hzr k (by omega) fA j hjc
  ·rw[show j=c from by omega];exact ec k fA (by omega)
 ·refine zAD.trans ⟨fun i hi=>?_,fun i hi=>?_⟩ h.sp
  ·rw[qD]at hi
   rw[zA7 hi];have hr:Sp p n M (mkv n fun j=>(ent M t j*q)%p):=by
    refine zAJ (k:=q) (zDl (u:=[]) fun j _=>by simp[at0]) (kR (R:=M) (i:=t) (by rw[h.len];exact aj)) fun j hj=>?_
    rw[pr j hj,K3,Ls];simp[at0]
   split
   ·exact hr
   ·refine zAJ (k:=0-at0 (if i=t then M.getD d []else M.getD i []) c) (v:=if i=t then M.getD d []else M.getD i []) ?_ hr fun j hj=>?_
    ·split
     ·exact kR (by rw[h.len];exact hd)
     ·exact kR (by rw[h.len];exact hi)
    ·rw[kD,vE hj,K3]
  ·rw[h.len]at hi
   have hr:=zCn (p:=p) (n:=n) (m:=m) (F:=fun i=>if i=d then mkv n fun j=>(ent M t j*q)%p else kD p n (if i=t then M.getD d []else M.getD i []) (0-at0 (if i=t then M.getD d []else M.getD i []) c) (mkv n fun j=>(ent M t j*q)%p)) hd;simp only[if_true]at hr;have hg:∀k,k<m→k≠d→Sp p n (mkR m fun i=>if i=d then mkv n fun j=>(ent M t j*q)%p else kD p n (if i=t then M.getD d []else M.getD i []) (0-at0 (if i=t then M.getD d []else M.getD i []) c) (mkv n fun j=>(ent M t j*q)%p)) (if k=t then M.getD d []else M.getD k []):=fun k hk hkd=>by
    have h1:=zCn (p:=p) (n:=n) (m:=m) (F:=fun i=>if i=d then mkv n fun j=>(ent M t j*q)%p else kD p n (if i=t then M.getD d []else M.getD i []) (0-at0 (if i=t then M.getD d []else M.getD i []) c) (mkv n fun j=>(ent M t j*q)%p)) hk;simp only[if_neg hkd]at h1;refine zAJ (k:=at0 (if k=t then M.getD d []else M.getD k []) c) h1 hr fun j hj=>?_
    rw[kD,vE hj,pr j hj];exact zPE _ _ _ _
   by_cases fC:i=t
   ·
    subst fC;refine zAJ (k:=ent M i c) (zDl (u:=[]) fun j _=>by simp[at0]) hr fun j hj=>?_
    rw[pr j hj];have e1:(ent M i c*((ent M i j*q)%p))%p=(ent M i j*((ent M i c*q)%p))%p:=by
     rw[Ju,K3,←Ju,Ju (ent M i j),K3,←Ju]
     congr 1
     rw[←Lp,←Lp,Ls (ent M i c)]
    rw[show at0 ([]:List Int) j=0 from by simp[at0],Hd,e1,hq,H7]
   ·by_cases hid:i=d
    ·subst hid
     have:=hg t aj (by omega);rw[if_pos rfl]at this;exact this
    ·have:=hg i hi hid
     rw[if_neg fC]at this;exact this
end
end Go.Pl

namespace Go.Pl
open Go Go.Ab Go.Wk Go.Pc
theorem zHn{v:List Int}(h:v.length≤1000000):f_J v=VU v:=by grind[f_J,vP]
theorem zH9{rows:Mx}(hm:rows.length≤1000000)(hn:∀i,i<rows.length→(rows.getD i []).length≤1000000):zUY rows=VU rows:=by
 unfold zUY;have:=yB (body:=zNn rows) (r:=rows) (fun i=>(rows.take i,(i:Int))) rows.length (fun i hi=>by
  unfold zNn;simp only
  rw[wD hi,zR,wA [] hi,bs,zHn (hn i hi),bs,vP (by simp;omega),bs,zL (by omega) (by omega),bs,cs,Jk hi,J7,J5 hi];rfl) (by
  unfold zNn;simp)
 grind
theorem zNN{M:Mx}{d c m n:Nat}(hm:M.length=m)(hd:d≤m)(hmm:m≤1000000)(px:∀i,i<m→(M.getD i []).length=n)(hc:c<n):
  ∃t:Nat,d≤t∧t≤m∧zI (zJp (M,(d:Int),(c:Int))) (d:Int)=VU (t:Int)∧(∀k,d≤k→k<t→ent M k c=0)∧(t<m→ent M t c≠0):=by
 have key:∀k,k≤m-d→ ∃t:Nat,m-k≤t∧t≤m∧zI (zJp (M,(d:Int),(c:Int))) ((m-k:Nat):Int)=VU (t:Int)∧(∀q,m-k≤q→q<t→ent M q c=0)∧(t<m→ent M t c≠0):=by
  intro k
  induction k with
  |zero=>
   intro _;refine⟨m,by omega,Jf _,?_,by omega,fun h=>by omega⟩;rw[xW];unfold zJp
   grind
  |succ k ih=>
   intro hk;obtain⟨t,h1,h2,h3,h4,h5⟩:=ih (by omega);have gI:m-(k+1)<m:=by omega
   by_cases hz:ent M (m-(k+1)) c=0
   ·refine⟨t,by omega,h2,?_,fun q q1 q2=>?_,h5⟩
    ·rw[xW]
     have e:zJp (M,(d:Int),(c:Int)) ((m-(k+1):Nat):Int)=VU (.inl ((m-k:Nat):Int)):=by
      unfold zJp;simp only
      rw[hm,wD gI,zR,wA [] (by omega),bs,xV (by rw[px _ gI];exact hc),bs,zNa hz,zR,zL (by omega) (by omega),bs,cs,show m-(k+1)+1=m-k from by omega]
     grind
    grind
   ·refine⟨m-(k+1),Jf _,by omega,?_,by omega,fun _=>hz⟩
    rw[xW];have e:zJp (M,(d:Int),(c:Int)) ((m-(k+1):Nat):Int)=VU (.inr ((m-(k+1):Nat):Int)):=by
     unfold zJp;simp only
     rw[hm,wD gI,zR,wA [] (by omega),bs,xV (by rw[px _ gI];exact hc),bs,zK4 hz,zT]
    rw[e]
 obtain⟨t,h1,h2,h3,h4,h5⟩:=key (m-d) (Jf _);rw[show m-(m-d)=d from by omega]at h1 h3 h4
 grind
section
variable {p:Int} (hp:Prime p) {n m:Nat}{M:Mx}{d c t:Nat}
 include hp
theorem zL5{F:Nat→List Int}{q:Int}{b:Bool}(hd:d<m)(hr:Row p n (F d))(hn:n≤1000000)(hq:0≤q∧q≤p-1){v:List Int}(hv:v.length=n){s:Mx×Int×Int}(hs:s.2.1=(d:Int)):
  zI (zLP p s (q,b) v) (mkR m F,0)=VU (mkR m fun i=>if i=d then mkv n fun j=>(at0 (F d) j*q)%p else F i):=by
 have h7:=hp.pos;have:=yB (body:=zLP p s (q,b) v) (r:=mkR m fun i=>if i=d then mkv n fun j=>(at0 (F d) j*q)%p else F i) (fun k=>(mkR m fun i=>if i=d then mkv n (fun j=>if j<k then(at0 (F d) j*q)%p else at0 (F d) j)else F i,(k:Int))) n (fun k hk=>by
  have a1:=hr.2 k hk;have a2:=zCm hp (k:=q) (by omega) a1;have a3:=Lv a1.1 hq.1;rw[Ls]at a2;unfold zLP;simp only
  rw[hv,wD hk,zR,hs,zJi hd];simp only[bs,if_true];rw[xV (by grind[vR]),vE hk,if_neg (by omega)];simp only[bs];rw[zL (by omega) (by omega)];simp only[bs,vN];rw[if_neg (by omega)];simp only[bs];rw[Kt a3,zL (by omega) (by omega)];simp only[bs,Jl,cs];rw[zGf]
  congr 3
  refine zAp fun i _=>?_
  by_cases hi:i=d
  ·rw[if_pos hi,if_pos hi,zGe]
   grind
  grind) (by
  unfold zLP;simp only
  rw[hv,zBa,zT]
  congr 2
  refine zAp fun i _=>?_
  split
  ·exact tJ (by omega)
  ·rfl)
 rw[show((0:Nat):Int)=0 from rfl]at this;rw[←this]
 congr 2
 refine zAp fun i _=>?_
 split
 ·rename_i e;subst e
  conv=>lhs;rw[zCl hr.1]
  rfl
 ·rfl
theorem zL6{F:Nat→List Int}(hd:d<m)(hc:c<n)(hr:∀i,i<m→Row p n (F i))(hn:n≤1000000)(hm:m≤1000000){r21:Mx}(hl:r21.length=m){s:Mx×Int×Int}(hs:s.2.1=(d:Int))(pu:s.2.2=(c:Int)):
  zI (zOa p s r21) (mkR m F,0)=VU (mkR m fun i=>if i=d then F d else kD p n (F i) (0-at0 (F i) c) (F d)):=by
 have h7:=hp.pos;have:=yB (body:=zOa p s r21) (r:=mkR m fun i=>if i=d then F d else kD p n (F i) (0-at0 (F i) c) (F d)) (fun k=>(mkR m fun i=>if i<k∧i≠d then kD p n (F i) (0-at0 (F i) c) (F d)else F i,(k:Int))) m (fun k hk=>by
  have a1:=(hr k hk).2 c hc;unfold zOa;simp only
  rw[hl,wD hk,zR,hs,pu]
  by_cases hkd:k=d
  ·subst hkd
   rw[zAS rfl,zT,zL (by omega) (by omega),bs,cs]
   grind
  ·rw[zAT (by omega),zR,zJi hk,zJi hd]
   simp only[bs,ne_eq,not_true_eq_false,and_false,if_false,Nat.lt_irrefl,false_and];rw[xV (by rw[(hr k hk).1];exact hc)];simp only[bs];rw[zL (by omega) (by omega)];simp only[bs];rw[zI0 hp (hr k hk) (hr d hd) (by omega) hn,bs,zL (by omega) (by omega)];simp only[bs,Jl,cs];rw[zGf]
   grind) (by
  unfold zOa;simp only
  rw[hl,zBa,zT]
  congr 2
  refine zAp fun i hi=>?_
  grind)
 grind
end
end Go.Pl

namespace Go.Pl
open Go Go.Ab Go.Wk Go.Pc
theorem Red.empty{p:Int}{n:Nat}:Red p n [] (fun _=>0):=⟨by simp,by simp,by simp,by simp,by simp,by simp⟩
theorem zNM.take{p:Int}{n m:Nat}{rows:Mx}{c:Nat}{M:Mx}{d:Nat}{pv:Nat→Nat}(h:zNM p n m rows c M d pv)(dz:c≤n)(hz:∀k,d≤k→k<m→ ∀j,j<n→ent M k j=0):Red p n (M.take d) pv∧zAD p n (M.take d) rows:=by
 have hl:(M.take d).length=d:=by rw[Kj,h.len];exact Hb h.dm
 have hg:∀i,i<d→(M.take d).getD i []=M.getD i []:=by grind
 have dm:=h.dm;refine⟨⟨fun i hi=>?_,fun i hi=>?_,fun i hi=>?_,fun i hi j hj=>?_,fun i k hi hk gk=>?_,fun i j hij hj=>?_⟩,zAD.trans ⟨fun i hi=>?_,fun i hi=>?_⟩ h.sp⟩
 ·rw[hl]at hi;rw[hg i hi];exact h.row i (by omega)
 ·rw[hl]at hi;have:=h.lt i hi;omega
 ·rw[hl]at hi;simp only[ent,hg i hi];exact h.one i hi
 ·rw[hl]at hi;simp only[ent,hg i hi];exact h.low i hi j hj
 ·rw[hl]at hi hk;simp only[ent,hg k hk];exact h.off i k hi (by omega) gk
 ·rw[hl]at hj;exact h.mono i j hij hj
 ·grind[kR]
 ·rw[h.len]at hi
  rcases Jt i d with g|g
  ·grind[kR]
  ·exact zDl fun j hj=>by simp_all
section
variable {p:Int} (hp:Prime p) {n:Nat}{rows:Mx} (hn:n≤100000) (hm:rows.length≤600000) (hr:∀i,i<rows.length→Row p n (rows.getD i []))
 include hp hn hm hr
theorem zK5:∃R pv,f_l p rows=VU R∧Red p n R pv∧zAD p n R rows:=by
 have h7:=hp.pos;unfold f_l;rw[zH9 (by omega) (fun i hi=>by have:=(hr i hi).1;omega),bs];have main:=zAn (body:=zOb p) (s:=(rows,0,0)) (Q:=fun r=> ∃(M:Mx)(d:Nat)(pv:Nat→Nat),r=(M,(d:Int))∧d≤M.length∧Red p n (M.take d) pv∧zAD p n (M.take d) rows)
  (fun i s=> ∃(M:Mx)(d:Nat)(pv:Nat→Nat),s=(M,(d:Int),(i:Int))∧zNM p n rows.length rows i M d pv∧i≤n) n (fun c s hc hI=>?_) (fun s hI=>?_) ⟨rows,0,fun _=>0,rfl,⟨rfl,hr,K6 _,fun _ h=>by omega,fun _ h=>by omega,fun _ h=>by omega,fun _ _ h=>by omega,fun _ _ _ h=>by omega,fun _ _ _ _ h=>by omega,zAD.refl⟩,K6 _⟩
 ·obtain⟨r,h1,M,d,pv,rfl,hd,hR,hS⟩:=main
  rw[h1,bs];simp only
  have e:yG M 0 (d:Int)=VU (M.take d):=by unfold yG;rw[if_pos ⟨by omega,by omega,by omega⟩];simp
  rw[e,bs];exact⟨_,_,rfl,hR,hS⟩
 ·
  obtain⟨M,d,pv,rfl,h,dz⟩:=hI;have hl:=h.len;have dU:=h.dm
  by_cases h0:rows.length=0
  ·refine .inr ⟨(M,(d:Int)),?_,M,d,pv,rfl,by omega,h.take dz fun k hk fA=>by omega⟩
   unfold zOb;simp only
   rw[VY (by omega),zT]
  have e0:zOb p (M,(d:Int),(c:Int))=cond (decide ((d:Int)<(M.length:Int))) ((zI (zJp (M,(d:Int),(c:Int))) (d:Int)).bind fun r6=>
    cond (r6==(M.length:Int)) ((rng ((c:Int)+1)).bind fun v7=>VU (.inl (M,(d:Int),v7))) (
     (ixO M r6).bind fun v8=>(ixO M (d:Int)).bind fun v9=>(ixO (zFH M (d:Int) r6 v8 v9) (d:Int)).bind fun v10=>(ixO v10 (c:Int)).bind fun v11=>(zNZ v11 p).bind fun r12=>
     (ixO (zFH M (d:Int) r6 v8 v9) (d:Int)).bind fun v13=>(zI (zLP p (M,(d:Int),(c:Int)) r12 v13) (zFH M (d:Int) r6 v8 v9,0)).bind fun r21=>
     (zI (zOa p (M,(d:Int),(c:Int)) r21) (r21,0)).bind fun r30=>(rng ((d:Int)+1)).bind fun v31=>(rng ((c:Int)+1)).bind fun v32=>VU (.inl (r30,v31,v32)))) (VU (.inr (M,(d:Int)))):=by
   unfold zOb;simp only
   have hx:ixO M (0:Int)=VU (M.getD 0 []):=by have:=wA (v:=M) (i:=0) [] (by omega);exact this
   rw[VZ (by omega),zR,hx];simp only[bs];rw[(h.row 0 (by omega)).1,wD hc,zR]
  rcases Jt d rows.length with hd|hd
  ·obtain⟨t,t1,t2,t3,t4,t5⟩:=zNN (M:=M) (d:=d) (c:=c) (m:=rows.length) (n:=n) hl dU (by omega) (fun i hi=>(h.row i hi).1) hc
   rw[e0,hl,wD hd,zR,t3];simp only[bs]
   by_cases aj:t=rows.length
   ·
    left;refine⟨(M,(d:Int),((c+1:Nat):Int)),?_,M,d,pv,rfl,⟨hl,h.row,dU,fun i hi=>by have:=h.lt i hi;omega,h.one,h.low,h.off,h.mono,fun k k1 k2 j hj=>?_,h.sp⟩,by omega⟩
    ·rw[zNa (by omega),zR,zL (by omega) (by omega),bs,cs]
    ·rcases Jt j c with g|g
     ·exact h.zero k k1 k2 j g
     ·rw[show j=c from by omega];exact t4 k k1 (by omega)
   ·have mE:t<rows.length:=by omega
    have gk:=t5 mE;have eC:=h.row t mE;have hrc:=eC.2 c hc;obtain⟨q,q1,q2,q3,q4⟩:=zEG (p:=p) (x:=ent M t c) hp (by simp only[ent]at gk ⊢;omega) (by simp only[ent];omega);left;have hM:M=mkR rows.length (fun i=>M.getD i []):=zPB hl;obtain⟨F,hF⟩:∃F:Nat→List Int,∀i,F i=if i=t then M.getD d []else if i=d then M.getD t []else M.getD i []:=⟨_,fun _=>rfl⟩
    have hsw:zFH M (d:Int) (t:Int) (M.getD t []) (M.getD d [])=mkR rows.length F:=by
     unfold zFH;rw[Jl,Jl]
     conv=>lhs;rw[hM]
     rw[zGf,zGf];exact zAp fun i hi=>by rw[hF,zA7 hd,zA7 mE]
    have pV:∀i,i<rows.length→Row p n (F i):=fun i hi=>by
     rw[hF];split
     ·exact h.row d hd
     ·split
      ·exact eC
      ·exact h.row i hi
    have hFd:F d=M.getD t []:=by
     rw[hF]
     by_cases e:d=t
     ·rw[if_pos e,e]
     ·rw[if_neg e,if_pos rfl]
    obtain⟨G,hG⟩:∃G:Nat→List Int,∀i,G i=if i=d then mkv n fun j=>(at0 (F d) j*q)%p else F i:=⟨_,fun _=>rfl⟩
    have hGd:G d=mkv n fun j=>(ent M t j*q)%p:=by rw[hG,if_pos rfl,hFd]
    have hGo:∀i,i≠d→G i=if i=t then M.getD d []else M.getD i []:=fun i hid=>by rw[hG,if_neg hid,hF];simp only[hid,if_false]
    have bE:zI (zLP p (M,(d:Int),(c:Int)) (q,VW) (M.getD t [])) (mkR rows.length F,0)=VU (mkR rows.length G):=by
     rw[zL5 hp (F:=F) hd (pV d hd) (by omega) ⟨q2,q3⟩ eC.1 rfl]
     congr 1
     exact zAp fun i _=>(hG i).symm
    have hF3:∀i,i<rows.length→Row p n (G i):=fun i hi=>by
     rw[hG];split
     ·refine⟨vR _ _,fun j hj=>?_⟩
      have e1:=Kq (at0 (F d) j*q) (show p≠0 by omega);have e2:=Kd (at0 (F d) j*q) (show 0<p by omega);rw[vE hj];omega
     ·exact pV i hi
    have gK:=zL6 hp (c:=c) (F:=G) hd hc hF3 (by omega) (by omega) (r21:=mkR rows.length G) qD (s:=(M,(d:Int),(c:Int))) rfl rfl;rw[zK4 (by omega),zT,wA [] (by omega),wA [] (by omega)];simp only[bs];rw[hsw,zJi hd,hFd];simp only[bs];rw[xV (by rw[eC.1];exact hc)];simp only[bs];rw[show at0 (M.getD t []) c=ent M t c from rfl,q1];simp only[bs];rw[bE];simp only[bs];rw[gK];simp only[bs];rw[zL (by omega) (by omega),zL (by omega) (by omega)];simp only[bs,cs];have bn:=h.pivot hp hc hd t1 mE gk q4;refine⟨_,rfl,_,d+1,fun i=>if i=d then c else pv i,rfl,?_,by omega⟩;have e3:(mkR rows.length fun i=>if i=d then G d else kD p n (G i) (0-at0 (G i) c) (G d))=(mkR rows.length fun i=>if i=d then mkv n fun j=>(ent M t j*q)%p else kD p n (if i=t then M.getD d []else M.getD i []) (0-at0 (if i=t then M.getD d []else M.getD i []) c) (mkv n fun j=>(ent M t j*q)%p)):=by
     refine zAp fun i hi=>?_
     rw[hGd]
     by_cases hid:i=d
     ·rw[if_pos hid,if_pos hid]
     ·rw[if_neg hid,if_neg hid,hGo i hid]
    rw[e3];exact bn
  ·
   refine .inr ⟨(M,(d:Int)),?_,M,d,pv,rfl,by omega,h.take dz fun k hk fA=>by omega⟩;rw[e0,VY (by omega),zT]
 ·
  obtain⟨M,d,pv,rfl,h,dz⟩:=hI;have hl:=h.len;have dU:=h.dm;refine⟨(M,(d:Int)),?_,M,d,pv,rfl,by omega,h.take dz fun k hk fA j hj=>h.zero k hk fA j hj⟩;unfold zOb;simp only
  by_cases h0:rows.length=0
  ·rw[VY (by omega),zT]
  ·have hx:ixO M (0:Int)=VU (M.getD 0 []):=by
    have:=wA (v:=M) (i:=0) [] (by omega);exact this
   rw[VZ (by omega),zR,hx];simp only[bs];rw[(h.row 0 (by omega)).1,zBa,zT]
end
end Go.Pl

namespace Go.Pl
open Go Go.Ab Go.Wk Go.Pc
theorem zI1{v:List Int}{n:Nat}(hl:v.length=n)(hn:n≤1000000):∃k:Nat,k≤n∧f_v v=VU (k:Int)∧(∀j,j<k→at0 v j=0)∧(k<n→at0 v k≠0):=by
 unfold f_v;rcases chk (body:=zHr v) n 0 (K6 _) (fun i=>at0 v i=0) (fun i=>(i:Int)) (fun i _ hi _=>by
   unfold zHr;rw[hl,wD hi,zR,xV (by omega),bs]
   by_cases h:at0 v i=0
   ·rw[zAS h,zT,zL (by omega) (by omega),bs,cs];grind
   grind) (by
   unfold zHr
   grind)with⟨h1,h2⟩|⟨i,_,hi,h1,h2⟩
 ·grind
 ·rw[show((0:Nat):Int)=0 from rfl]at h1
  rw[h1,bs];obtain⟨k,⟨hk1,fA⟩,fb⟩:=zEv (p:=fun k=>k<n∧at0 v k≠0) ⟨i,hi,h2⟩;have hz:∀j,j<k→at0 v j=0:=by grind
  have hki:k=i:=by
   have pd:∀q,q≤k→zI (zHr v) ((k-q:Nat):Int)=VU (.inr (k:Int)):=by
    intro q
    induction q with
    |zero=>
     intro _;rw[xW];have e:zHr v ((k-0:Nat):Int)=VU (.inr (.inr (k:Int))):=by unfold zHr;rw[show k-0=k from rfl,hl,wD hk1,zR,xV (by omega),bs,zAT fA,zR]
     rw[e]
    |succ q ih=>
     intro hq;rw[xW];have e:zHr v ((k-(q+1):Nat):Int)=VU (.inl ((k-q:Nat):Int)):=by unfold zHr;rw[hl,wD (by omega),zR,xV (by omega),bs,zAS (hz _ (by omega)),zT,zL (by omega) (by omega),bs,cs,show k-(q+1)+1=k-q from by omega]
     grind
   have:=pd k (Jf _)
   grind
  grind
theorem zNb{v:List Int}{n k:Nat}(hl:v.length=n)(hn:n≤1000000)(hk:k<n)(h0:∀j,j<k→at0 v j=0)(h1:at0 v k≠0):f_v v=VU (k:Int):=by grind[zI1]
theorem zPF{p x:Int}(hp:Prime p)(h0:1≤x)(h1:x≤p-1):∃r,f_X x p=VU r∧0≤r∧r≤p-1∧(x*r)%p=1:=by
 have h7:=hp.pos;have hx:∃k:Nat,1≤k∧(k:Int)<p∧(x*(k:Int))%p=1:=by
  obtain⟨r,_,r1,r2,r3⟩:=zEG hp h0 h1;refine⟨r.toNat,?_,by omega,by grind⟩;rcases Int.lt_or_eq_of_le r1 with g|g
  ·omega
  ·rw[←g]at r3;simp at r3
 obtain⟨k,⟨k1,k2,k3⟩,fb⟩:=zEv hx;have body:∀i:Nat,1≤i→(i:Int)<p→zOd x p (i:Int)=cond ((x*(i:Int))%p==1) (VU (.inr (.inr (i:Int)))) (VU (.inl ((i+1:Nat):Int))):=fun i hi hip=>by
  have a3:=Lv (show 0≤x by omega) (show 0≤(i:Int)by omega);have a4:=zCm hp (k:=(i:Int)) (by omega) (b:=x) ⟨by omega,h1⟩;rw[Ls]at a4;unfold zOd;rw[VZ hip,zR,zK2 hp (by omega) (by omega),bs,Jx (by omega) (by omega),zL (by omega) (by omega),bs];unfold vN;rw[if_neg (by omega),bs,Kt a3]
  by_cases hh:(x*(i:Int))%p=1
  ·grind
  ·rw[zK4 hh,zT,zT,zL (by omega) (by omega),bs,cs]
 have pd:∀q,q+1≤k→zI (zOd x p) ((k-q:Nat):Int)=VU (.inr (k:Int)):=by
  intro q
  induction q with
  |zero=>
   intro _;rw[xW,show k-0=k from rfl,body k k1 k2,zNa k3,zR]
  |succ q ih=>
   intro hq;have gk:(x*((k-(q+1):Nat):Int))%p≠1:=by grind
   rw[xW,body _ (by omega) (by omega),zK4 gk,zT,show k-(q+1)+1=k-q from by omega]
   grind
 have:=pd (k-1) (by omega);rw[show k-(k-1)=1 from by omega,show((1:Nat):Int)=1 from rfl]at this
 grind[f_X]
section
variable {p:Int} (hp:Prime p) {n:Nat} (hn:n≤100000)
 include hp hn
theorem zU2{r s:List Int}(hr:Row p n r):kD p n r p s=r:=by
 have _:=hp;have _:=hn
 conv=>rhs;rw[zCl hr.1]
 refine tJ fun j hj=>?_
 have:=hr.2 j hj;rw[Gi];exact Jx this.1 (by omega)
def cl(p:Int)(n:Nat)(out:Mx)(pv:Nat→Nat)(v:List Int):Nat→List Int
 |0=>v
 |i+1=>kD p n (cl p n out pv v i) (p-at0 (cl p n out pv v i) (pv i)) (out.getD i [])
variable {out:Mx}{pv:Nat→Nat} (h:Red p n out pv) {v:List Int} (hv:Row p n v)
 include h hv
theorem zHo:∀i,Row p n (cl p n out pv v i):=by
 have _:=hn;have _:=h;intro i;cases i with
 |zero=>exact hv
 |succ i=>exact zHm hp
theorem zPG:∀i,i≤out.length→ ∀k,k<i→at0 (cl p n out pv v i) (pv k)=0:=by
 have _:=hn;have _:=hv;have h7:=hp.pos;intro i
 induction i with
 |zero=>simp
 |succ i ih=>
  intro hi k hk;have gI:=h.lt k (by omega);rw[cl,kD,vE gI];rcases Jt k i with g|g
  ·have h1:=ih (by omega) k g
   have h2:=h.off k i (by omega) (by omega) (by omega)
   simp_all
  ·have hki:k=i:=by omega
   subst hki;have h2:=h.one k (by omega);simp only[ent]at h2;rw[h2,H7,show at0 (cl p n out pv v k) (pv k)+(p-at0 (cl p n out pv v k) (pv k))=p from by omega,Int.emod_self]
theorem zNc:∀i,i≤out.length→ ∃cf:Nat→Int,∀j,j<n→at0 (cl p n out pv v i) j%p=(at0 v j+S out.length fun k=>cf k*ent out k j)%p:=by
 have _:=hp;have _:=h;have _:=hv;have _:=hn;intro i
 induction i with
 |zero=>intro _;exact⟨fun _=>0,fun j _=>by rw[zBc (g:=fun _=>0) (fun i _=>by simp),zCk,Hx];rfl⟩
 |succ i ih=>
  intro hi;obtain⟨cf,mi⟩:=ih (by omega);refine⟨fun k=>cf k+(if k=i then p-at0 (cl p n out pv v i) (pv i)else 0),fun j hj=>?_⟩;have e1:(S out.length fun k=>(cf k+(if k=i then p-at0 (cl p n out pv v i) (pv i)else 0))*ent out k j)=(S out.length fun k=>cf k*ent out k j)+(p-at0 (cl p n out pv v i) (pv i))*ent out i j:=by rw[zBc (g:=fun k=>cf k*ent out k j+(if k=i then p-at0 (cl p n out pv v i) (pv i)else 0)*ent out k j) (by grind),zKq,zFL (f:=fun k=>(if k=i then p-at0 (cl p n out pv v i) (pv i)else 0)*ent out k j) (k:=i) (by omega) (by grind)];simp
  rw[e1,cl,kD,vE hj,K3,←Int.add_assoc,K4,mi j hj,←K4]
theorem zL7(hm:out.length≤100000):f_Q p out v=VU (cl p n out pv v out.length):=by
 have h7:=hp.pos;unfold f_Q;rw[zBO (by rw[hv.1];omega),bs];have:=yB (body:=zLQ p out) (r:=cl p n out pv v out.length) (fun i=>(cl p n out pv v i,(i:Int))) out.length (fun i hi=>by
  have hr:=zHo hp hn h hv i;have ho:=h.row i hi;have gI:=h.lt i hi;have gA:=h.one i hi;have fc:=h.low i hi;simp only[ent]at gA fc;have he:=hr.2 (pv i) gI;unfold zLQ;simp only
  rw[wD hi,zR,wA [] hi,bs,zNb ho.1 (by omega) gI fc (by omega),bs,hr.1,wD gI,zR,xV (by rw[hr.1];exact gI),bs]
  by_cases hz:at0 (cl p n out pv v i) (pv i)=0
  ·rw[zAS hz,zT,zL (by omega) (by omega),bs,cs,cl,hz,Qe,zU2 hp hn hr]
  ·rw[zAT hz,zR,bs,zL (by omega) (by omega),bs,bs,zCR hp hr ho (by omega) (by omega),bs,zL (by omega) (by omega),bs,cs]
   rfl) (by
  unfold zLQ;simp)
 rw[show((0:Nat):Int)=0 from rfl]at this
 grind[cl]
end
end Go.Pl

namespace Go.Pl
open Go Go.Ab Go.Wk Go.Pc
section
variable {p:Int} (hp:Prime p) {n:Nat}{out:Mx}{pv:Nat→Nat} (h:Red p n out pv) {u:List Int}{k q:Nat} (hu:Row p n u) (hk:k<n) (u1:at0 u k=1) (ul:∀j,j<k→at0 u j=0) (up:∀i,i<out.length→at0 u (pv i)=0) (hq:q≤out.length) (q1:∀i,i<q→pv i<k) (q2:∀i,q≤i→i<out.length→k<pv i)
def oth(p:Int)(n:Nat)(out:Mx)(u:List Int)(k i:Nat):List Int:=kD p n (out.getD i []) (p-at0 (out.getD i []) k) u
def qF(p:Int)(n:Nat)(out:Mx)(u:List Int)(k q i:Nat):List Int:=if i<q then oth p n out u k i else if i=q then u else oth p n out u k (i-1)
def zRN(pv:Nat→Nat)(k q i:Nat):Nat:=if i<q then pv i else if i=q then k else pv (i-1)
 include hp h hu hk u1 ul up hq q1 q2
theorem zL8{i j:Nat}(hj:j<n):at0 (oth p n out u k i) j=(at0 (out.getD i []) j-at0 (out.getD i []) k*at0 u j)%p:=by have _:=hp;have _:=h;have _:=hu;have _:=hk;have _:=u1;have _:=ul;have _:=up;have _:=hq;have _:=q1;have _:=q2;rw[oth,kD,vE hj,show at0 (out.getD i []) j+(p-at0 (out.getD i []) k)*at0 u j=at0 (out.getD i []) j-at0 (out.getD i []) k*at0 u j+p*at0 u j from by grind,Gi]
theorem zEH{i j:Nat}(hi:i<out.length)(hj:j<n)(hz:at0 (out.getD i []) k=0∨at0 u j=0):at0 (oth p n out u k i) j=ent out i j:=by
 rw[zL8 hp h hu hk u1 ul up hq q1 q2 hj];have:=(h.row i hi).2 j hj;have e:at0 (out.getD i []) k*at0 u j=0:=by grind
 rw[e,Qe];exact Jx this.1 (by omega)
theorem zWt{i:Nat}:at0 (oth p n out u k i) k=0:=by rw[zL8 hp h hu hk u1 ul up hq q1 q2 hk,u1,H7,Int.sub_self];rfl
theorem zRO{i j:Nat}(hi:i<out.length)(hj:j<pv i)(gk:pv i≠k):at0 (oth p n out u k i) j=0:=by
 have gI:=h.lt i hi;rcases Jt (pv i) k with g|g
 ·rw[zEH hp h hu hk u1 ul up hq q1 q2 hi (by omega) (by grind)];exact h.low i hi j hj
 ·have:=h.low i hi k (by omega)
  rw[zEH hp h hu hk u1 ul up hq q1 q2 hi (by omega) (.inl this)];exact h.low i hi j hj
theorem zWu{i:Nat}(hi:i<out.length):pv i≠k:=by have _:=hp;have _:=h;have _:=hu;have _:=hk;have _:=ul;have _:=hq;have _:=q1;have _:=q2;grind
theorem zI2{i:Nat}(hi:i<out.length+1):(i=q∧qF p n out u k q i=u∧zRN pv k q i=k)∨ ∃a,a<out.length∧(i<q∧a=i∨q<i∧i=a+1)∧qF p n out u k q i=oth p n out u k a∧zRN pv k q i=pv a:=by
 have _:=hp;have _:=h;have _:=hu;have _:=hk;have _:=u1;have _:=ul;have _:=up;have _:=q1;have _:=q2;unfold qF zRN
 grind
theorem zL9:Red p n (mkR (out.length+1) (qF p n out u k q)) (zRN pv k q):=by
 have nc:=fun i hi=>zI2 hp h hu hk u1 ul up hq q1 q2 (i:=i) hi
 have pn:=fun i hi=>zWu hp h hu hk u1 ul up hq q1 q2 (i:=i) hi
 refine⟨fun i hi=>?_,fun i hi=>?_,fun i hi=>?_,fun i hi j hj=>?_,fun i j hi hj gk=>?_,fun i j hij hj=>?_⟩<;>rw[qD]at*
 ·rw[zA7 hi]
  rcases nc i hi with⟨_,e,_⟩|⟨a,_,_,e,_⟩<;>rw[e]
  ·exact hu
  ·exact zHm hp
 ·rcases nc i hi with⟨_,_,e⟩|⟨a,ha,_,_,e⟩<;>rw[e]
  ·exact hk
  ·exact h.lt a ha
 ·rw[zEF hi]
  rcases nc i hi with⟨_,e1,e2⟩|⟨a,ha,_,e1,e2⟩<;>rw[e1,e2]
  ·exact u1
  ·rw[zEH hp h hu hk u1 ul up hq q1 q2 ha (h.lt a ha) (.inr (up a ha))];exact h.one a ha
 ·rw[zEF hi]
  rcases nc i hi with⟨_,e1,e2⟩|⟨a,ha,_,e1,e2⟩<;>rw[e2]at hj<;>rw[e1]
  ·grind
  ·exact zRO hp h hu hk u1 ul up hq q1 q2 ha hj (pn a ha)
 ·rw[zEF hj]
  rcases nc i hi with⟨g1,_,e2⟩|⟨a,ha,ga,_,e2⟩<;>rw[e2]<;>rcases nc j hj with⟨g3,e3,_⟩|⟨b,hb,gb,e3,_⟩<;>rw[e3]
  ·omega
  ·exact zWt hp h hu hk u1 ul up hq q1 q2
  ·grind
  ·rw[zEH hp h hu hk u1 ul up hq q1 q2 hb (h.lt a ha) (.inr (up a ha))]
   exact h.off a b ha hb (by omega)
 ·rcases nc i (by omega)with⟨g1,_,e2⟩|⟨a,ha,ga,_,e2⟩<;>rw[e2]<;>rcases nc j hj with⟨g3,_,e4⟩|⟨b,hb,gb,_,e4⟩<;>rw[e4]
  ·omega
  ·grind
  ·grind
  ·exact h.mono a b (by omega) hb
theorem zNO:(∀i,i<out.length+1→Sp p n (out++[u]) (qF p n out u k q i))∧(∀i,i<out.length→Sp p n (mkR (out.length+1) (qF p n out u k q)) (out.getD i []))∧Sp p n (mkR (out.length+1) (qF p n out u k q)) u:=by
 have hul:Sp p n (out++[u]) u:=by
  have:=kR (p:=p) (n:=n) (R:=out++[u]) (i:=out.length) (by simp)
  grind
 have hol:∀i,i<out.length→Sp p n (out++[u]) (out.getD i []):=fun i hi=>by
  have:=kR (p:=p) (n:=n) (R:=out++[u]) (i:=i) (by simp;omega)
  grind
 have hoth:∀i,i<out.length→Sp p n (out++[u]) (oth p n out u k i):=fun i hi=>
  zAJ (k:=p-at0 (out.getD i []) k) (hol i hi) hul (by grind[oth,kD,vE,K3])
 have al:Sp p n (mkR (out.length+1) (qF p n out u k q)) u:=by have:=zCn (p:=p) (n:=n) (m:=out.length+1) (F:=qF p n out u k q) (i:=q) (by omega);rw[show qF p n out u k q q=u from by unfold qF;simp]at this;exact this
 refine⟨fun i hi=>?_,fun i hi=>?_,al⟩
 ·rcases zI2 hp h hu hk u1 ul up hq q1 q2 hi with⟨_,e,_⟩|⟨a,ha,_,e,_⟩<;>rw[e]
  all_goals grind
 ·have bl:∃b,b<out.length+1∧qF p n out u k q b=oth p n out u k i:=by
   rcases Jt i q with g|g
   ·exact⟨i,by omega,by unfold qF;grind⟩
   ·exact⟨i+1,by omega,by unfold qF;grind⟩
  obtain⟨b,hb,e⟩:=bl;have h1:=zCn (p:=p) (n:=n) (m:=out.length+1) (F:=qF p n out u k q) hb;rw[e]at h1;refine zAJ (k:=at0 (out.getD i []) k) h1 al fun j hj=>?_
  rw[zL8 hp h hu hk u1 ul up hq q1 q2 hj,K4,K3,←K4,show at0 (out.getD i []) j-at0 (out.getD i []) k*at0 u j+at0 (out.getD i []) k*at0 u j=at0 (out.getD i []) j from by omega]
theorem zK6(hn:n≤100000)(hm:out.length≤100000){x:Int}:
  ((zI (zFS p (out,x) (k:Int) u) ([],VX,0)).bind fun r32=>cond (!r32.2) ((xC r32.1 [u]).bind fun v33=>VU v33) (VU r32.1))=VU (mkR (out.length+1) (qF p n out u k q)):=by
 have _:=u1;have _:=ul;have _:=up;have h7:=hp.pos;have ho:∀i,i<out.length→f_A p (out.getD i []) (p-at0 (out.getD i []) k) u=VU (oth p n out u k i)∧ixO (out.getD i []) (k:Int)=VU (at0 (out.getD i []) k)∧0≤at0 (out.getD i []) k∧at0 (out.getD i []) k≤p-1∧f_v (out.getD i [])=VU (pv i:Int):=fun i hi=>by have hr:=h.row i hi;have fA:=hr.2 k hk;have gA:=h.one i hi;have fc:=h.low i hi;simp only[ent]at gA fc;exact⟨by rw[zCR hp hr hu (by omega) (by omega)];rfl,xV (by rw[hr.1];exact hk),fA.1,fA.2,zNb hr.1 (by omega) (h.lt i hi) fc (by omega)⟩
 have hsn:∀{m:Nat}{F:Nat→List Int},mkR m F++[F m]=mkR (m+1) F:=by grind[mkR,Ll]
 have:=yB (body:=zFS p (out,x) (k:Int) u) (r:=(if out.length≤q then(mkR out.length (qF p n out u k q),VX)else(mkR (out.length+1) (qF p n out u k q),VW)))
  (fun j=>if j≤q then(mkR j (qF p n out u k q),VX,(j:Int))else(mkR (j+1) (qF p n out u k q),VW,(j:Int))) out.length (fun j hj=>by
   obtain⟨a1,a2,a3,a4,a5⟩:=ho j hj;have iI:rng (p-at0 (out.getD j []) k)=VU (p-at0 (out.getD j []) k):=by grind[zL]
   rcases Uu j q with g|g|g
   ·have hpj:=q1 j g
    rw[if_pos (by omega),if_pos (by omega)];unfold zFS;simp only
    rw[wD hj,zR,Jv,zR,wA [] hj];simp only[bs,a5];rw[VY (by omega),zT,a2];simp only[bs,iI,a1];rw[vP (by rw[qD];simp;omega),bs,zL (by omega) (by omega),bs,cs];have:qF p n out u k q j=oth p n out u k j:=by unfold qF;grind
    grind
   ·subst g
    have hpj:=q2 j (Jf _) hj;rw[if_pos (by omega),if_neg (by omega)];unfold zFS;simp only
    rw[wD hj,zR,Jv,zR,wA [] hj];simp only[bs,a5];rw[VZ (by omega),zR,vP (by rw[qD];simp;omega),a2];simp only[bs,iI,a1];have e1:qF p n out u k j j=u:=by unfold qF;simp
    have e2:qF p n out u k j (j+1)=oth p n out u k j:=by unfold qF;grind
    have e3:mkR j (qF p n out u k j)++[u]=mkR (j+1) (qF p n out u k j):=by grind
    rw[e3,vP (by rw[qD];simp;omega),bs,zL (by omega) (by omega),bs,cs,←e2,hsn]
   ·rw[if_neg (by omega),if_neg (by omega)]
    unfold zFS;simp only
    rw[wD hj,zR,Jg,zT,wA [] hj];simp only[bs,a2,iI,a1];have e2:qF p n out u k q (j+1)=oth p n out u k j:=by unfold qF;rw[if_neg (by omega),if_neg (by omega)];rfl
    rw[vP (by rw[qD];simp;omega),bs,zL (by omega) (by omega),bs,cs,←e2,hsn]) (by
   by_cases g:out.length≤q
   ·rw[if_pos g,if_pos g]
    unfold zFS;simp
   ·rw[if_neg g,if_neg g]
    unfold zFS;simp)
 rw[if_pos (K6 _),show((0:Nat):Int)=0 from rfl,show mkR 0 (qF p n out u k q)=[]from rfl]at this;rw[this,bs]
 by_cases g:out.length≤q
 ·have e1:qF p n out u k q out.length=u:=by unfold qF;grind
  rw[if_pos g];simp only
  rw[Jv,zR,vP (by rw[qD];simp;omega),bs]
  grind
 grind
end
end Go.Pl

namespace Go.Pl
open Go Go.Ab Go.Wk Go.Pc
theorem zLA{p:Int}{n:Nat}{R out:Mx}{cf:Nat→Int}(ho:∀i,i<out.length→Sp p n R (out.getD i [])){u:List Int}(hu:∀j,j<n→at0 u j%p=(S out.length fun k=>cf k*ent out k j)%p):Sp p n R u:=
 kS ho ⟨cf,by grind⟩
theorem Red.len_le{p:Int}{n:Nat}{R:Mx}{pv:Nat→Nat}(h:Red p n R pv):R.length≤n:=by
 have key:∀i,i<R.length→i≤pv i:=by
  intro i
  induction i with
  |zero=>simp
  |succ i ih=>
   intro hi;have h1:=ih (by omega);have h2:=h.mono i (i+1) (by omega) hi;omega
 rcases Nat.eq_zero_or_pos R.length with g|g
 ·omega
 ·have h1:=key (R.length-1) (by omega)
  have h2:=h.lt (R.length-1) (by omega);omega
theorem zDm{xs:Mx}{v:List Int}{i:Nat}(h:i<xs.length):(xs++[v]).getD i []=xs.getD i []:=by grind
theorem zDn{xs:Mx}{v:List Int}:(xs++[v]).getD xs.length []=v:=by simp
section
variable {p:Int} (hp:Prime p) {n:Nat} (hn:n≤100000)
 include hp hn
theorem zLB{w:List Int}(hw:Row p n w){r:Int}(h0:0≤r)(h1:r≤p-1):zOe p r w=VU (mkv n fun j=>(at0 w j*r)%p):=by
 have h7:=hp.pos;unfold zOe;rw[hw.1,uE (by omega),bs,zCR hp (zU1 (by omega)) hw (by omega) (by omega),bs]
 congr 1
 refine tJ fun j hj=>?_
 grind
variable {rows:Mx} (hm:rows.length≤600000) (hr:∀i,i<rows.length→Row p n (rows.getD i []))
 include hm hr
theorem zJj:∃R pv,f_o p rows=VU R∧(Red p n R pv∧R.length≤rows.length)∧zAD p n R rows:=by
 have h7:=hp.pos;unfold f_o;have main:=zAn (body:=zKR p rows) (s:=([],0)) (Q:=fun R=> ∃pv,(Red p n R pv∧R.length≤rows.length)∧zAD p n R rows)
  (fun i s=> ∃(out:Mx)(pv:Nat→Nat),s=(out,(i:Int))∧Red p n out pv∧zAD p n out (rows.take i)∧out.length≤i∧i≤rows.length) rows.length (fun i s hi hI=>?_) (fun s hI=>?_) ⟨[],fun _=>0,rfl,Red.empty,by rw[Lb];exact zAD.refl,K6 _,K6 _⟩
 ·obtain⟨R,h1,pv,h2,h3⟩:=main
  rw[h1,bs];exact⟨R,pv,rfl,h2,h3⟩
 ·obtain⟨out,pv,rfl,h,hs,hl,_⟩:=hI
  have hon:out.length≤n:=h.len_le;left;have hv:=hr i hi;have hw:=zHo hp hn h hv out.length;have gK:=zL7 hp hn h hv (by omega);have hpz:=zPG hp hn h hv out.length (Jf _);obtain⟨cf,mi⟩:=zNc hp hn h hv out.length (Jf _);obtain⟨k,k1,k2,k3,k4⟩:=zI1 hw.1 (by omega);have fS:rows.take (i+1)=rows.take i++[rows.getD i []]:=by rw[Jk hi,J7,J5 hi];rfl
  have bD:(rows.take i).length=i:=by rw[Kj];omega
  have fR:∀u,Sp p n (rows.take i) u→Sp p n (rows.take (i+1)) u:=fun u hu=>kS (fun a ha=>by have:=kR (p:=p) (n:=n) (R:=rows.take (i+1)) (i:=a) (by rw[fS,Ji];omega);rw[fS,zDm ha,←fS]at this;exact this) hu
  have fY:Sp p n (rows.take (i+1)) (rows.getD i []):=by
   have:=kR (p:=p) (n:=n) (R:=rows.take (i+1)) (i:=i) (by rw[fS,Ji,bD];simp);rw[fS]at this;have e:(rows.take i++[rows.getD i []]).getD i []=rows.getD i []:=by have:=zDn (xs:=rows.take i) (v:=rows.getD i []);rw[bD]at this;exact this
   rw[e,←fS]at this;exact this
  by_cases hkn:k=n
  ·
   refine⟨(out,((i+1:Nat):Int)),?_,out,pv,rfl,h,⟨fun a ha=>fR _ (hs.1 a ha),fun a ha=>?_⟩,by omega,by omega⟩
   ·unfold zKR
    simp only
    rw[wD hi,zR,wA [] hi];simp only[bs,gK,k2];rw[hw.1,zNa (by omega),zR,zL (by omega) (by omega),bs,cs]
   ·rw[fS,Ji,bD,Hf]at ha
    rw[fS];rcases Jt a i with g|g
    ·rw[zDm (by omega)];exact hs.2 a (by omega)
    ·have:a=i:=by omega
     subst this;have e:(rows.take a++[rows.getD a []]).getD a []=rows.getD a []:=by have:=zDn (xs:=rows.take a) (v:=rows.getD a []);rw[bD]at this;exact this
     rw[e];refine zLA (out:=out) (cf:=fun q=> -1*cf q) (fun a ha=>kR ha) fun j hj=>?_
     have h1:=mi j hj;rw[k3 j (by omega)]at h1;rw[zBc (g:=fun q=> -1*(cf q*ent out q j)) (fun q _=>by rw[Lp]),zHg];have h2:(at0 (rows.getD a []) j+S out.length fun q=>cf q*ent out q j)%p=0:=by rw[←h1];rfl
     rw[show at0 (rows.getD a []) j=(at0 (rows.getD a []) j+S out.length fun q=>cf q*ent out q j)+ -1*(S out.length fun q=>cf q*ent out q j)from by omega,K4,h2,Hd,K3]
  ·have hk:k<n:=by omega
   have hwk:=hw.2 k hk;have gk:=k4 hk;obtain⟨r,r1,r2,r3,r4⟩:=zPF hp (x:=at0 (cl p n out pv (rows.getD i []) out.length) k) (by omega) (by omega);have bE:=zLB hp hn hw r2 r3;have hu:Row p n (mkv n fun j=>(at0 (cl p n out pv (rows.getD i []) out.length) j*r)%p):=⟨vR _ _,fun j hj=>by have e1:=Kq (at0 (cl p n out pv (rows.getD i []) out.length) j*r) (show p≠0 by omega);have e2:=Kd (at0 (cl p n out pv (rows.getD i []) out.length) j*r) (show 0<p by omega);rw[vE hj];omega⟩
   have ua:∀j,j<n→at0 (mkv n fun j=>(at0 (cl p n out pv (rows.getD i []) out.length) j*r)%p) j=(at0 (cl p n out pv (rows.getD i []) out.length) j*r)%p:=fun j hj=>vE hj
   generalize mkv n (fun j=>(at0 (cl p n out pv (rows.getD i []) out.length) j*r)%p)=u at bE hu ua
   have u1:at0 u k=1:=by rw[ua k hk];exact r4
   have ul:∀j,j<k→at0 u j=0:=fun j hj=>by rw[ua j (by omega),k3 j hj];simp
   have up:∀a,a<out.length→at0 u (pv a)=0:=fun a ha=>by rw[ua _ (h.lt a ha),hpz a ha];simp
   obtain⟨q,⟨hq,Vh⟩,fb⟩:=zEv (p:=fun q=>q≤out.length∧(q<out.length→k<pv q)) ⟨out.length,Jf _,fun g=>by omega⟩;have q1:∀a,a<q→pv a<k:=fun a ha=>by
    have h1:¬(k<pv a):=fun g=>fb a ha ⟨by omega,fun _=>g⟩
    have h2:pv a≠k:=fun e=>by have:=up a (by omega);rw[e,u1]at this;cases this
    omega
   have q2:∀a,q≤a→a<out.length→k<pv a:=fun a ha ha2=>by
    have h1:=Vh (by omega);rcases Jt q a with g|g
    ·have:=h.mono q a g ha2;omega
    ·rw[show a=q from by omega];exact h1
   have eA:=zK6 hp h hu hk u1 ul up hq q1 q2 hn (by omega) (x:=(i:Int));have iK:=zL9 hp h hu hk u1 ul up hq q1 q2;obtain⟨s1,s2,s3⟩:=zNO hp h hu hk u1 ul up hq q1 q2;refine⟨(mkR (out.length+1) (qF p n out u k q),((i+1:Nat):Int)),?_,_,_,rfl,iK,⟨fun a ha=>?_,fun a ha=>?_⟩,by rw[qD];omega,by omega⟩
   ·unfold zKR
    simp only
    rw[wD hi,zR,wA [] hi];simp only[bs,gK,k2];rw[hw.1,zK4 (by omega),zT,xV (by rw[hw.1];exact hk)];simp only[bs,r1,bE];cases ev:zI (zFS p (out,(i:Int)) (k:Int) u) ([],VX,0)with
    |none=>rw[ev]at eA;cases eA
    |some r32=>
     rw[ev,bs]at eA;simp only[bs];obtain⟨a1,a2⟩:=r32;cases a2 with
     |true=>
      simp only[Jg,zT]at eA ⊢
      rw[zL (by omega) (by omega),bs,cs,H8.inj eA]
     |false=>
      simp only[Jv,zR]at eA ⊢
      cases hap:xC a1 [u]with
      |none=>rw[hap]at eA;cases eA
      |some v33=>
       rw[hap,bs]at eA;simp only[bs];rw[zL (by omega) (by omega),bs,cs,H8.inj eA]
   ·rw[qD]at ha
    rw[zA7 ha];refine kS (fun b hb=>?_) (s1 a ha);rw[Ji,Hf]at hb;rcases Jt b out.length with g|g
    ·rw[zDm g];exact fR _ (hs.1 b g)
    ·rw[show b=out.length from by omega,zDn]
     have ue:Sp p n (rows.take (i+1)) (cl p n out pv (rows.getD i []) out.length):=by
      have VH:Sp p n (rows.take (i+1)) (mkv n fun j=>S out.length fun k=>cf k*ent out k j):=zLA (out:=out) (cf:=cf) (fun b hb=>fR _ (hs.1 b hb)) fun j hj=>by rw[vE hj]
      refine zAJ (k:=1) fY VH fun j hj=>?_
      rw[mi j hj,vE hj,Gp]
     refine zAJ (k:=r) (zDl (u:=[]) fun j _=>by simp[at0]) ue fun j hj=>?_
     rw[ua j hj,K3,show at0 ([]:List Int) j=0 from by simp[at0],Hd,Ls]
   ·rw[fS,Ji,bD,Hf]at ha
    rw[fS];rcases Jt a i with g|g
    ·rw[zDm (by omega)]
     exact kS s2 (hs.2 a (by omega))
    ·have hai:a=i:=by omega
     subst hai;have e:(rows.take a++[rows.getD a []]).getD a []=rows.getD a []:=by have:=zDn (xs:=rows.take a) (v:=rows.getD a []);rw[bD]at this;exact this
     rw[e];have ue:Sp p n (mkR (out.length+1) (qF p n out u k q)) (cl p n out pv (rows.getD a []) out.length):=by
      refine zAJ (k:=at0 (cl p n out pv (rows.getD a []) out.length) k) (zDl (u:=[]) fun j _=>by simp[at0]) s3 fun j hj=>?_
      rw[ua j hj,show at0 ([]:List Int) j=0 from by simp[at0],Hd];rw[Ju,K3,←Ju,←Lp,Ls (at0 (cl p n out pv (rows.getD a []) out.length) k),Lp,Ju,r4,H7,K3]
     have VH:Sp p n (mkR (out.length+1) (qF p n out u k q)) (mkv n fun j=>S out.length fun k=>cf k*ent out k j):=zLA (out:=out) (cf:=cf) s2 fun j hj=>by rw[vE hj]
     refine zAJ (k:=-1) ue VH fun j hj=>?_
     rw[vE hj,K4,mi j hj,←K4]
     congr 1;omega
 ·obtain⟨out,pv,rfl,h,hs,hl,_⟩:=hI
  refine⟨out,?_,pv,⟨h,hl⟩,by rw[Ha]at hs;exact hs⟩;unfold zKR;simp only
  rw[zBa,zT]
theorem zK7:∃R pv,f_o p rows=VU R∧Red p n R pv∧zAD p n R rows:=by grind[zJj]
theorem zCS:∃R pv,f_o p rows=VU R∧f_l p rows=VU R∧Red p n R pv∧zAD p n R rows:=by
 have h7:=hp.pos;obtain⟨R,pv,h1,h2,h3⟩:=zK7 hp hn hm hr;obtain⟨R',pv',g1,g2,g3⟩:=zK5 hp hn hm hr;have e:=h2.unique (by omega) g2 (h3.trans g3.symm)
 grind
end
end Go.Pl

namespace Go.Pl
open Go Go.Ab Go.Wk Go.Pc
theorem zK8{β:Type}{body:List β×Int→Option ((List β×Int)⊕List β)}(n:Nat)(F:Nat→β)(h:∀i acc,i<n→acc.length=i→body (acc,(i:Int))=VU (.inl (acc++[F i],((i+1:Nat):Int))))(he:∀acc,body (acc,(n:Int))=VU (.inr acc)):
  zI body ([],0)=VU ((Jq n).map F):=by
 have:=yB (body:=body) (r:=(Jq n).map F) (fun i=>((Jq i).map F,(i:Int))) n (by grind[Ll]) (he _);exact this
end Go.Pl

namespace Go.Pl
open Go Go.Ab Go.Wk Go.Pc
abbrev gl{β:Type}(m:Nat)(F:Nat→β):List β:=(Jq m).map F
theorem zU3{β:Type}{m:Nat}{F:Nat→β}:(gl m F).length=m:=by simp[gl]
theorem zWv{β:Type}{m:Nat}{F:Nat→β}{i:Nat}(h:i<m):ixO (gl m F) (i:Int)=VU (F i):=by rw[jU (by grind)];simp[gl]
end Go.Pl

namespace Go.Pl
open Go Go.Ab Go.Wk Go.Pc
end Go.Pl

namespace Go.Pl
open Go Go.Ab Go.Wk Go.Pc
theorem zPH{α:Type}{c:α→Nat}{b:Nat}:∀{xs:List α},(∀x∈xs,c x≤b)→sm c xs≤xs.length*b
 | [],_=>by simp[sm]
 |x::xs,h=>by
  have h1:=zPH (xs:=xs) fun y hy=>h y (by simp[hy])
  grind[sm,La]
end Go.Pl

namespace Go.Pl
open Go Go.Ab Go.Wk Go.Pc
def zPI(x:SPr):Nat:=c1 x.zF+sm c1 x.yV+sm (sm c1) x.zJ
def zT2(x:SPr)(k:Int):SPr:=⟨m1 k x.zF,m2 (k+c1 x.zF) x.yV,m3 (k+c1 x.zF+sm c1 x.yV) x.zJ⟩
theorem zNd{x:SPr}(h:zD9 x):zPI x≤3145728:=by
 obtain⟨h1,h2,h3⟩:=h;have g2:=zPy (x:=x.yV)
 grind[zLo,zPI]
theorem zDs{x:SPr}{k:Int}(h:zD9 x)(k0:0≤k)(k1:k≤1000000000):zSp x k=VU (k+zPI x,zT2 x k):=by
 have ht:=zNd h;simp only[zPI]at ht;unfold zSp;rw[zGU h.1 k0 (by omega),bs,zCK h.2.1 (by omega) (by omega),bs,zE7 h.2.2 (by omega) (by omega),bs]
 grind[zPI,zT2]
end Go.Pl

namespace Go.Pl
open Go Go.Ab Go.Wk Go.Pc
theorem zNP{xs:Mx}(h:xs.length≤100000)(hl:∀i,i<xs.length→(xs.getD i []).length≤1000000):zSt xs=VU xs:=by
 unfold zSt;rw[zK8 (body:=zKS xs) xs.length (fun i=>xs.getD i []) (fun i acc hi ha=>by
  unfold zKS;simp only
  rw[wD hi,zR,wA [] hi,bs,zBO (hl i hi),bs,vP (by simp;omega),bs,zL (by omega) (by omega),bs,cs]) (fun acc=>by
  unfold zKS;simp),bs]
 congr 1
 exact(zPB rfl).symm
theorem zJk{p:Int}(hp:Prime p){D:Nat}(hD:D≤3){A B:Mx}(hl:A.length≤1000)(hA:∀i,i<A.length→Row p D (A.getD i []))(hB:Mat p D B):f_z p A B (D:Int)=VU (PM p D A B):=by
 unfold f_z;have:=yB (body:=zKH p A B (D:Int)) (r:=PM p D A B) (fun i=>((PM p D A B).take i,(i:Int))) A.length (fun i hi=>by
  unfold zKH;simp only
  rw[wD hi,zR,wA [] (by omega),bs,zHj hp (by omega) (hA i hi) hB,bs,vP (by rw[Kj,wO];simp;omega),bs,zL (by omega) (by omega),bs,cs,zDk hp (by omega) (by omega)]) (by
  unfold zKH;simp only
  rw[zBa,zT,Jo (by grind[wO])])
 grind
theorem zLC{p:Int}{n:Nat}{R:Mx}{v:List Int}(h:v∈R):Sp p n R v:=by
 obtain⟨i,hi,rfl⟩:=Kh.1 h;have:=kR (p:=p) (n:=n) hi
 grind
theorem zPJ{R:Mx}{i:Nat}(hi:i<R.length):R.getD i []∈R:=by grind
section
variable {n D:Nat}{m:zS} (hm:MOk n m D) (hn:n≤14)
 include hm hn
def spA(m:zS)(D:Nat)(R:Mx):Nat→Mx
 |0=>R
 |i+1=>spA m D R i++PM m.Prime D R (m.zP.getD i [])
theorem zJl{R:Mx}:∀i,(spA m D R i).length=R.length+i*R.length
 |0=>by have _:=hm;have _:=hn;simp[spA]
 |i+1=>by rw[spA,Ji,zJl i,wO,La];omega
theorem zJm{R:Mx}{P:List Int→Prop}(h0:∀r∈R,P r)(h1:∀r∈R,∀i,i<n→P (zBR m.Prime D r (m.zP.getD i []))):∀i,i≤n→ ∀r∈spA m D R i,P r
 |0,_,r,hr=>by have _:=hm;have _:=hn;exact h0 r hr
 |i+1,hi,r,hr=>by
  rw[spA,Ka]at hr;rcases hr with h|h
  ·exact zJm h0 h1 i (by omega) r h
  ·obtain⟨s,hs,rfl⟩:=Jb.1 h
   grind
theorem zPK{R:Mx}:∀i,∀r∈R,r∈spA m D R i
 |0,_,h=>by have _:=hm;have _:=hn;exact h
 |i+1,r,h=>by rw[spA,Ka];exact .inl (zPK i r h)
end
end Go.Pl

namespace Go.Pl
open Go Go.Ab Go.Wk Go.Pc
theorem zPL{x:zD}(h:S2 x.Rows):zSy x x=VU VW:=by unfold zSy;rw[bne_self_eq_false,zT,bne_self_eq_false,zT,zFo h,bs,beq_self_eq_true,Jg,zT]
end Go.Pl
