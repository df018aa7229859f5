/- The program's CocycleClasses returns what the reference's returns,for all arguments;no conditions. -/
import Derived.Test.YtijcbaigdbgofaaGreatAbB
import Derived.Test.YtijcbaigdbgofaaGreatWF
open List renaming replicate→J1,getD_eq_getElem?_getD→J2,getElem?_eq_getElem→J4,length_append→J5,length_cons→J7,mem_cons→J8,getElem?_append_right→J9,append_assoc→Jb,append_nil→Jd,mem_append→Je,range→Jf,length_replicate→Jh,length_map→Ji,replicate_append_replicate→Jl,mem_map→Jm,getElem?_eq_some_iff→Jn,map_cons→Jo,length_nil→Jp,replicate_succ→Jq,take_succ_eq_append_getElem→Jr,take_of_length_le→Js,getElem?_append_left→Jv,length_take→Jw,nil_append→Jx,length_drop→Jz,getElem_mem→K3,cons_append→K4,getElem?_map→K5,getElem?_eq_none→K8,take_zero→Ka,eq_of_mem_replicate→Kc,getElem?_replicate→Ke,getElem?_append→Kl,mem_range→Kr,range'→Ku,ext_getElem?→Kv,mem_iff_getElem→L7,map_append→L8,length_range→Le,take_succ_cons→Lf,range_succ→Lj,range_eq_range'→Ll,eq_nil_of_length_eq_zero→Lm,mem_flatMap→Lo,set_cons_zero→Lq,singleton_append→Lr,replicate_succ'→Lw,getElem?_drop→Lz,drop_eq_getElem_cons→H1,take_length→H5,replicate_zero→Hm,flatMap_append→Ht,set_append_right→G5,flatten_nil→G6,drop_zero→Gf,getD_cons_zero→Gw,foldl_append→U1,map_nil→U6,getElem?_cons_succ→Un,map_congr_left→Qe,getElem?_cons_zero→Qp,suffix_cons_iff→Jaj,map_map→Jak,range_succ_eq_map→Jat,not_mem_nil→Jau,drop_of_length_le→Jax,take_append_drop→Jb3,length→Jbf,all_cons→Jbi,findSome?_cons→Jbm,getElem?_set→Jbu,getD_cons_succ→Jco,getElem?_take→Jcp,range'_succ→Jd3,getElem?_set_ne→Jd4
open Bool renaming and_eq_true→J3,not_true→K0,not_false→Kk
open Int renaming toNat_natCast→Ja,mul_emod→Jt,emod_emod→K6,emod_eq_of_lt→Kb,add_emod→Kd,emod_lt_of_pos→Kh,tmod_eq_emod_of_nonneg→Kw,emod_nonneg→Kx,mul_zero→Ld,zero_add→Lp,mul_le_mul→Ls,add_mul_emod_self_left→Lt,add_zero→H2,mul_one→Hb,mul_assoc→Hv,toNat_zero→Gz,mul_nonneg→U0,mul_comm→U9,add_emod_right→Uc,zero_mul→Uo,sub_mul→Qq,mul_le_mul_of_nonneg_left→Qr,mul_add→Qs,add_mul→Qt,tmod_add_mul_tdiv→Jan,tmod_lt_of_pos→Jb5,lt_tmod_of_pos→Jb6,one_mul→Jbq,tmod→Jbv,toNat_of_nonneg→Jd5
open Nat renaming zero_add→Jc,le_refl→Jg,lt_or_ge→Jk,sub_self→Kf,zero_le→Kn,div_add_mod→Ly,le_trans→Hc,min_eq_left→Hz,add_zero→Gv,lt_trichotomy→U8,sub_zero→Jb9,lt_irrefl→Jbs,zero_sub→Jcl,le_of_lt→Jcn
open Option renaming map_eq_some_iff→Ky,some→Ln,map_some→H4,getD_some→Qd
open Option renaming some→ik,none→im
open Bool renaming true→io,false→iq
namespace Go.Pc
abbrev Vec:=List Int
structure Lvl where
 o:Int
 w:Vec
 cs:List Vec
abbrev Pcp:=List Lvl
def zeros(n:Nat):Vec:=J1 n 0
def iter{α:Type}:Nat→(α→α)→α→α
 |0,_,x=>x
 |n+1,f,x=>iter n f (f x)
theorem vG{α:Type}(f:α→α):∀(n:Nat)(x:α),iter (n+1) f x=f (iter n f x)
 |0,_=>rfl
 |n+1,x=>by rw[iter,vG f n (f x)];rfl
theorem zEN{α:Type}(f:α→α)(a:Nat):∀(b:Nat)(x:α),iter (a+b) f x=iter a f (iter b f x)
 |0,_=>rfl
 |b+1,x=>by show iter (a+b) f (f x)=_;rw[zEN f a b (f x)];rfl
def img{α:Type}(m:α→α→α):List α→Vec→α→α
 |c::cs,x::xs,acc=>img m cs xs (iter x.toNat (fun v=>m v c) acc)
 |_,_,acc=>acc
def V:Pcp→Vec→Prop
 | [],v=>v=[]
 |l::P,v=>match v with
  | []=>False
  |a::x=>(0≤a∧a<l.o)∧V P x
def mul:Pcp→Vec→Vec→Vec
 |l::P,a::x,b::y=>
  let r:=mul P (iter b.toNat (fun v=>img (mul P) l.cs v (zeros P.length)) x) y
  if a+b≥l.o then(a+b-l.o)::mul P l.w r else(a+b)::r
 |_,_,_=>[]
def Ok:Pcp→Prop
 | []=>True
 |l::P=>1<l.o∧V P l.w∧l.cs.length=P.length∧(∀c∈l.cs,V P c)∧Ok P
structure Mon {α:Type} (S:α→Prop) (m:α→α→α) (e:α):Prop where
 cl:∀{a b},S a→S b→S (m a b)
 ein:S e
 assoc:∀{a b c},S a→S b→S c→m (m a b) c=m a (m b c)
 onel:∀{a},S a→m e a=a
 oner:∀{a},S a→m a e=a
structure Grp {α:Type} (S:α→Prop) (m:α→α→α) (e:α):Prop extends Mon S m e where
 inv:∀{a},S a→ ∃b,S b∧m a b=e
theorem Grp.invl{α:Type}{S:α→Prop}{m:α→α→α}{e:α}(h:Grp S m e){a:α}(ha:S a):∃b,S b∧m a b=e∧m b a=e:=by
 obtain⟨b,hb,h1⟩:=h.inv ha;obtain⟨c,hc,h2⟩:=h.inv hb;refine⟨b,hb,h1,?_⟩;have:a=c:=by rw[←h.oner ha,←h2,←h.assoc ha hb hc,h1,h.onel hc]
 grind
theorem Grp.cancel_l{α:Type}{S:α→Prop}{m:α→α→α}{e:α}(h:Grp S m e){a b c:α}(ha:S a)(hb:S b)(hc:S c)(hh:m a b=m a c):b=c:=by obtain⟨d,hd,_,h2⟩:=h.invl ha;rw[←h.onel hb,←h.onel hc,←h2,h.assoc hd ha hb,h.assoc hd ha hc,hh]
section
variable {α:Type}{S:α→Prop}{m:α→α→α}{e:α}
def pw(m:α→α→α)(e:α)(x:α)(k:Nat):α:=iter k (fun v=>m v x) e
theorem tS(h:Mon S m e){x:α}(hx:S x):∀k,S (pw m e x k)
 |0=>h.ein
 |k+1=>by rw[pw,vG];exact h.cl (tS h hx k) hx
theorem vO{f:α→α}(hf:∀a,S a→S (f a)):∀(k:Nat){x:α},S x→S (iter k f x)
 |0,_,hx=>hx
 |k+1,_,hx=>vO hf k (hf _ hx)
theorem zEO(h:Mon S m e){x a:α}(hx:S x)(ha:S a):∀k,iter k (fun v=>m v x) a=m a (pw m e x k)
 |0=>(h.oner ha).symm
 |k+1=>by rw[vG,zEO h hx ha k];show _=m a (iter (k+1) (fun v=>m v x) e);rw[vG];exact h.assoc ha (tS h hx k) hx
theorem zH7(h:Mon S m e){x:α}(hx:S x)(a b:Nat):pw m e x (a+b)=m (pw m e x a) (pw m e x b):=by rw[Nat.add_comm,pw,zEN,←zEO h hx (tS h hx a) b];rfl
theorem zSt(h:Mon S m e){x:α}(hx:S x):pw m e x 1=x:=h.onel hx
theorem zSu(h:Mon S m e){x:α}(hx:S x)(k:Nat):pw m e x (k+1)=m x (pw m e x k):=by rw[Nat.add_comm,zH7 h hx 1 k,zSt h hx]
theorem qV(h:∀{a b},S a→S b→S (m a b)):∀(cs:List α)(x:Vec){a:α},(∀c∈cs,S c)→S a→S (img m cs x a)
 |c::cs,x::xs,_,hc,ha=>by simp only[img];exact qV h cs xs (by grind) (vO (by simp_all) _ ha)
 | [],_,_,_,ha=>by grind[img]
 |_::_,[],_,_,ha=>by grind[img]
theorem zFF(h:Mon S m e)(cs:List α)(x:Vec){a:α}(hc:∀c∈cs,S c)(ha:S a):S (img m cs x a):=qV h.cl cs x hc ha
theorem zEP(h:Mon S m e):∀(cs:List α)(x:Vec){a:α},(∀c∈cs,S c)→S a→img m cs x a=m a (img m cs x e)
 |c::cs,x::xs,a,hc,ha=>by
  have h1:S c:=hc c (by simp);have h2:∀c∈cs,S c:=by grind
  simp only[img];rw[zEO h h1 ha,zEP h cs xs h2 (h.cl ha (tS h h1 _)),zEO h h1 h.ein,zEP h cs xs h2 (h.cl h.ein (tS h h1 _)),h.onel (tS h h1 _),
   h.assoc ha (tS h h1 _) (zFF h cs xs h2 h.ein)]
 | [],_,a,_,ha=>by simp[img,h.oner ha]
 |_::_,[],a,_,ha=>by simp[img,h.oner ha]
theorem qR(h:Mon S m e){c:α}{cs:List α}{x:Int}{xs:Vec}(hc:S c)(hJ:∀c∈cs,S c):img m (c::cs) (x::xs) e=m (pw m e c x.toNat) (img m cs xs e):=by simp only[img];rw[zEP h cs xs hJ (vO (fun a ha=>h.cl ha hc) _ h.ein)];rfl
theorem qD(m:α→α→α):∀(cs:List α)(n:Nat)(a:α),img m cs (zeros n) a=a
 | [],_,_=>by simp[img]
 |_::_,0,_=>by rfl
 |c::cs,n+1,a=>by simp only[zeros,Jq,img,Gz,iter];exact qD m cs n a
theorem zH8(h:Mon S m e){g:α}(hg:S g):∀(cs ds:List α)(x:Vec),(∀c∈cs,S c)→(∀c∈ds,S c)→cs.length=ds.length→(∀(k:Nat) c d,cs[k]? =ik c→ds[k]? =ik d→m c g=m g d)→m (img m cs x e) g=m g (img m ds x e)
 | [],[],x,_,_,_,_=>by simp[img,h.onel hg,h.oner hg]
 |c::cs,d::ds,[],_,_,_,_=>by simp[img,h.onel hg,h.oner hg]
 |c::cs,d::ds,x::xs,hc,hd,hl,hp=>by
  have gR:S c:=hc c (by simp);have hd0:S d:=hd d (by simp);have hJ:∀c∈cs,S c:=by grind
  have m7:∀c∈ds,S c:=by grind
  have key:∀k,m (pw m e c k) g=m g (pw m e d k):=by
   intro k
   induction k with
   |zero=>simp[pw,iter,h.onel hg,h.oner hg]
   |succ k ih=>
    have h0:m c g=m g d:=hp 0 c d rfl rfl;rw[pw,vG,pw,vG];show m (m (pw m e c k) c) g=m g (m (pw m e d k) d);rw[h.assoc (tS h gR k) gR hg,h0,←h.assoc (tS h gR k) hg hd0,ih,h.assoc hg (tS h hd0 k) hd0]
  rw[qR h gR hJ,qR h hd0 m7,h.assoc (tS h gR _) (zFF h _ _ hJ h.ein) hg,zH8 h hg cs ds xs hJ m7 (by grind) (fun k c d h1 h2=>hp (k+1) c d (by grind) (by grind)),
   ←h.assoc (tS h gR _) hg (zFF h _ _ m7 h.ein),key,h.assoc hg (tS h hd0 _) (zFF h _ _ m7 h.ein)]
theorem zPb{β:Type}{T:β→Prop}{n:β→β→β}{f:β}(h:Mon S m e)(h':Mon T n f)(φ:α→β)(gT:∀a,S a→T (φ a))(h1:φ e=f)(hm:∀a b,S a→S b→φ (m a b)=n (φ a) (φ b)):∀(cs:List α)(x:Vec),(∀c∈cs,S c)→φ (img m cs x e)=img n (cs.map φ) x f
 | [],_,_=>by simp[img,h1]
 |c::cs,[],_=>by simp[img,h1]
 |c::cs,x::xs,hc=>by
  have gR:S c:=hc c (by simp);have hJ:∀c∈cs,S c:=by grind
  have key:∀k,φ (pw m e c k)=pw n f (φ c) k:=by
   intro k
   induction k with
   |zero=>grind[pw,iter]
   |succ k ih=>
    grind[pw,vG,tS]
  rw[qR h gR hJ,Jo,qR h' (gT c gR) (by simp_all),hm _ _ (tS h gR _) (zFF h _ _ hJ h.ein),key,zPb h h' φ gT h1 hm cs xs hJ]
end
theorem wP:∀{P:Pcp},Ok P→V P (zeros P.length)
 | [],_=>rfl
 |l::P,h=>by simp only[Ok]at h;simp only[J7,zeros,Jq,V];exact⟨by omega,wP h.2.2.2.2⟩
theorem xG:∀{P:Pcp},Ok P→ ∀{x y:Vec},V P x→V P y→V P (mul P x y)
 | [],_,_,_,hx,hy=>by rfl
 |l::P,h,[],_,hx,_=>by grind[V]
 |l::P,h,_::_,[],_,hy=>by grind[V]
 |l::P,h,a::x,b::y,hx,hy=>by
  simp only[Ok]at h;simp only[V]at hx hy;have h1:∀v,V P v→V P (img (mul P) l.cs v (zeros P.length)):=fun v hv=>qV (xG h.2.2.2.2) l.cs v h.2.2.2.1 (wP h.2.2.2.2)
  have h2:=xG h.2.2.2.2 (vO h1 b.toNat hx.2) hy.2;simp only[mul];split
  ·exact⟨by omega,xG h.2.2.2.2 h.2.1 h2⟩
  ·exact⟨by omega,h2⟩
def Rel{α:Type}(m:α→α→α)(e:α):Pcp→List α→Prop
 | [],s=>s=[]
 |l::P,s=>match s with
  | []=>False
  |g::s=>pw m e g l.o.toNat=img m s l.w e∧(∀(k:Nat) c d,s[k]? =ik c→l.cs[k]? =ik d→m c g=m g (img m s d e))∧Rel m e P s
section
variable {α:Type}{S:α→Prop}{m:α→α→α}{e:α}
theorem yAq(h:Mon S m e):∀(P:Pcp)(s:List α),Ok P→(∀g∈s,S g)→Rel m e P s→ ∀x y,V P x→V P y→img m s (mul P x y) e=m (img m s x e) (img m s y e)
 | [],s,_,_,hr,x,y,hx,hy=>by simp only[Rel]at hr;subst hr;simp[img,h.onel h.ein]
 |l::P,[],_,_,hr,_,_,_,_=>by grind[Rel]
 |l::P,g::s,_,_,_,[],_,hx,_=>by grind[V]
 |l::P,g::s,_,_,_,_::_,[],_,hy=>by grind[V]
 |l::P,g::s,hk,hs,hr,a::x,b::y,hx,hy=>by
  simp only[Ok]at hk;simp only[Rel]at hr;simp only[V]at hx hy;obtain⟨ho,hw,gE,hJ,d9⟩:=hk;obtain⟨eR,fm,p6⟩:=hr;have hg:S g:=hs g (by simp);have mi:∀c∈s,S c:=by grind
  have gf:s.length=P.length:=by
   clear eR fm hx hy hw gE hJ hs mi
   induction P generalizing s with
   |nil=>grind[Rel]
   |cons l P ih=>
    cases s with
    |nil=>grind[Rel]
    |cons c s=>grind[Rel,Ok]
  have ih:=yAq h P s d9 mi p6;have hφ:∀v,S (img m s v e):=fun v=>zFF h s v mi h.ein
  have hmP:∀{a b},V P a→V P b→V P (mul P a b):=xG d9;have bZ:∀v,V P v→V P (img (mul P) l.cs v (zeros P.length)):=fun v hv=>qV hmP l.cs v hJ (wP d9)
  have hσ:∀v,V P v→m (img m s v e) g=m g (img m s (img (mul P) l.cs v (zeros P.length)) e):=by
   intro v hv;have key:∀(cs:List Vec)(v:Vec)(acc:Vec),(∀c∈cs,V P c)→V P acc→img m s (img (mul P) cs v acc) e=img m (cs.map fun c=>img m s c e) v (img m s acc e):=by
    intro cs
    induction cs with
    |nil=>grind[img]
    |cons c cs ihc=>
     intro v acc hc hacc;cases v with
     |nil=>simp[img]
     |cons z v=>
      have gR:V P c:=hc c (by simp);have it:∀k acc,V P acc→img m s (iter k (fun v=>mul P v c) acc) e=iter k (fun v=>m v (img m s c e)) (img m s acc e):=by
       intro k
       induction k with
       |zero=>intro acc _;rfl
       |succ k ihk=>
        simp_all[iter]
      simp only[img,Jo];rw[ihc v _ (by simp_all) (vO (by grind) _ hacc),it _ _ hacc]
   rw[key l.cs v (zeros P.length) hJ (wP d9),qD];refine zH8 h hg s _ v mi (by simp_all) (by grind) ?_;intro k c d hc hd;simp only[K5,Ky]at hd;obtain⟨d',bt,rfl⟩:=hd
   grind
  have hσk:∀k v,V P v→m (img m s v e) (pw m e g k)=m (pw m e g k) (img m s (iter k (fun v=>img (mul P) l.cs v (zeros P.length)) v) e):=by
   intro k
   induction k with
   |zero=>intro v _;simp[pw,iter,h.onel (hφ v),h.oner (hφ v)]
   |succ k ihk=>
    intro v hv;rw[zSu h hg,←h.assoc (hφ v) hg (tS h hg k),hσ v hv,h.assoc hg (hφ _) (tS h hg k),ihk _ (bZ v hv),←h.assoc hg (tS h hg k) (hφ _)];rfl
  have fR:=tS h hg a.toNat;have bM:=tS h hg b.toNat;have eg:V P (iter b.toNat (fun v=>img (mul P) l.cs v (zeros P.length)) x):=vO bZ _ hx.2;have aw:m (img m (g::s) (a::x) e) (img m (g::s) (b::y) e)=m (pw m e g (a.toNat+b.toNat)) (img m s (mul P (iter b.toNat (fun v=>img (mul P) l.cs v (zeros P.length)) x) y) e):=by rw[qR h hg mi,qR h hg mi,h.assoc fR (hφ x) (h.cl bM (hφ y)),←h.assoc (hφ x) bM (hφ y),hσk _ _ hx.2,h.assoc bM (hφ _) (hφ y),←ih _ _ eg hy.2,←h.assoc fR bM (hφ _),zH7 h hg]
  rw[aw];simp only[mul];split
  ·rename_i hge
   rw[qR h hg mi,ih _ _ hw (hmP eg hy.2),←eR,←h.assoc (tS h hg _) (tS h hg _) (hφ _),←zH7 h hg]
   congr 2
   omega
  ·rw[qR h hg mi]
   congr 2
   omega
end
def xN(n j:Nat):Vec:=(zeros n).set j 1
def sig(P:Pcp)(l:Lvl)(v:Vec):Vec:=img (mul P) l.cs v (zeros P.length)
def wR:Pcp→Prop
 | []=>True
 |l::P=>wR P∧Rel (mul P) (zeros P.length) P l.cs∧sig P l l.w=l.w∧ ∀j,j<P.length→mul P l.w (iter l.o.toNat (sig P l) (xN P.length j))=mul P (xN P.length j) l.w
theorem zDn(n:Nat):xN (n+1) 0=1::zeros n:=rfl
theorem zFG(n j:Nat):xN (n+1) (j+1)=0::xN n j:=rfl
def wL(n:Nat):List Vec:=(Jf n).map (xN n)
theorem zNv(n:Nat):wL (n+1)=(1::zeros n)::(wL n).map (0::·):=by
 simp only[wL,Jat,Jo,Jak,zDn]
 congr 1
theorem zCD:∀{P:Pcp},Ok P→ ∀{j:Nat},j<P.length→V P (xN P.length j)
 | [],_,_,hj=>by simp at hj
 |l::P,h,0,_=>by grind[Ok,zDn,V,wP]
 |l::P,h,j+1,hj=>by simp only[Ok]at h;rw[J7,zFG];simp only[V];exact⟨by omega,zCD h.2.2.2.2 (by grind)⟩
theorem zCE{l:Lvl}{P:Pcp}(h:Ok (l::P)){v:Vec}(_hv:V P v):V P (sig P l v):=by simp only[Ok]at h;exact qV (xG h.2.2.2.2) l.cs v h.2.2.2.1 (wP h.2.2.2.2)
theorem yY(l:Lvl)(P:Pcp)(a b:Int)(x y:Vec):mul (l::P) (a::x) (b::y)=if a+b≥l.o then(a+b-l.o)::mul P l.w (mul P (iter b.toNat (sig P l) x) y)else(a+b)::mul P (iter b.toNat (sig P l) x) y:=rfl
theorem zQi{n k:Nat}{c:Vec}(h:(wL n)[k]? =ik c):k<n∧c=xN n k:=by
 simp only[wL,K5,Ky]at h
 grind
theorem normal:∀(P:Pcp),Ok P→(∀Q,Q<:+P→Mon (V Q) (mul Q) (zeros Q.length))→ ∀x,V P x→img (mul P) (wL P.length) x (zeros P.length)=x
 | [],_,_,x,hx=>by grind[V,img,zeros]
 |l::P,_,_,[],hx=>by grind[V]
 |l::P,h,hM,a::x,hx=>by
  have hMl:=hM (l::P) (List.suffix_refl _);have hMP:=hM P (by simp);have h':=h;simp only[Ok]at h;simp only[V]at hx;rw[J7,zNv];have hz:V P (zeros P.length):=wP h.2.2.2.2;have hu0:V (l::P) (1::zeros P.length):=by grind[V]
  have fU:∀c∈(wL P.length).map (0::·),V (l::P) c:=by
   intro c hc;simp only[wL,Jak,Jm,Kr]at hc;obtain⟨j,hj,rfl⟩:=hc;simp only[Function.comp,V]
   grind[zCD]
  have mw:V (l::P) (zeros (P.length+1)):=by grind[wP]
  rw[show zeros (P.length+1)=zeros (l::P).length from rfl];rw[qR hMl hu0 fU];have sz:∀k:Nat,iter k (sig P l) (zeros P.length)=zeros P.length:=by
   intro k
   induction k with
   |zero=>rfl
   |succ k ih=>grind[iter,sig,qD]
  have h1:∀k:Nat,(k:Int)<l.o→pw (mul (l::P)) (zeros (l::P).length) (1::zeros P.length) k=(k:Int)::zeros P.length:=by
   intro k
   induction k with
   |zero=>intro _;rfl
   |succ k ih=>
    intro hk;rw[pw,vG];show mul (l::P) (pw (mul (l::P)) (zeros (l::P).length) (1::zeros P.length) k) (1::zeros P.length)=_;rw[ih (by omega),yY,if_neg (by omega)];rw[sz,hMP.onel hz];rfl
  have h2:∀(cs:List Vec)(y acc:Vec),(∀c∈cs,V P c)→V P acc→img (mul (l::P)) (cs.map (0::·)) y (0::acc)=0::img (mul P) cs y acc:=by
   intro cs
   induction cs with
   |nil=>grind[img]
   |cons c cs ih=>
    intro y acc hc hacc;cases y with
    |nil=>simp[img]
    |cons z y=>
     have gR:V P c:=hc c (by simp);have it:∀(k:Nat)(acc:Vec),V P acc→iter k (fun v=>mul (l::P) v (0::c)) (0::acc)=0::iter k (fun v=>mul P v c) acc:=by
      intro k
      induction k with
      |zero=>intro _ _;rfl
      |succ k ihk=>
       intro acc hacc;simp only[iter];rw[yY,if_neg (by omega)];exact ihk _ (xG h.2.2.2.2 hacc gR)
     simp only[Jo,img];rw[it _ _ hacc,ih _ _ (by grind) (vO (by grind[xG]) _ hacc)]
  have pS:∀c∈wL P.length,V P c:=by
   intro c hc;simp only[wL,Jm,Kr]at hc;obtain⟨j,hj,rfl⟩:=hc
   grind[zCD]
  rw[h1 a.toNat (by omega),show zeros (l::P).length=0::zeros P.length from rfl,h2 _ _ _ pS hz,normal P h.2.2.2.2 (by grind) x hx.2,yY,if_neg (by omega)];simp only[Gz,iter];rw[hMP.onel hx.2]
  grind
theorem zCF:∀(P:Pcp),Ok P→wR P→Grp (V P) (mul P) (zeros P.length)
 | [],_,_=>by
  refine⟨⟨fun _ _=>rfl,rfl,fun _ _ _=>rfl,?_,?_⟩,fun ha=>⟨[],rfl,rfl⟩⟩<;>
  ·intro a ha
   simp only[V]at ha;subst ha;rfl
 |l::P,h,hc=>by
  have h':=h;simp only[Ok]at h;simp only[wR]at hc;obtain⟨ho,hw,gE,hJ,hP⟩:=h;obtain⟨i7,mM,aG,aC⟩:=hc;have N:=zCF P hP i7;have hM:∀Q,Q<:+P→Mon (V Q) (mul Q) (zeros Q.length):=by
   intro Q hQ;obtain⟨t,ht⟩:=hQ;have:Ok Q∧wR Q:=by
    clear N hw gE hJ mM aG aC h'
    induction t generalizing P with
    |nil=>grind
    |cons a t ih=>
     simp at ht;subst ht;simp only[Ok]at hP;simp only[wR]at i7
     grind
   have gF:SizeOf.sizeOf Q≤SizeOf.sizeOf P:=by
    rw[←ht]
    clear N hw gE hJ mM aG aC h' hP i7 ht this
    induction t with
    |nil=>simp
    |cons a t ih=>grind
   exact(zCF Q this.1 this.2).toMon
  have hz:V P (zeros P.length):=wP hP;have σin:∀v,V P v→V P (sig P l v):=by grind[zCE]
  have σhom:∀x y,V P x→V P y→sig P l (mul P x y)=mul P (sig P l x) (sig P l y):=fun x y hx hy=>yAq N.toMon P l.cs hP hJ mM x y hx hy
  have σz:sig P l (zeros P.length)=zeros P.length:=qD _ _ _ _;have itin:∀(k:Nat) v,V P v→V P (iter k (sig P l) v):=fun k v hv=>vO σin k hv
  have ithom:∀(k:Nat) x y,V P x→V P y→iter k (sig P l) (mul P x y)=mul P (iter k (sig P l) x) (iter k (sig P l) y):=by
   intro k
   induction k with
   |zero=>intro _ _ _ _;rfl
   |succ k ih=>simp_all[iter]
  have itz:∀k:Nat,iter k (sig P l) (zeros P.length)=zeros P.length:=by
   intro k
   induction k with
   |zero=>rfl
   |succ k ih=>grind[iter]
  have itw:∀k:Nat,iter k (sig P l) l.w=l.w:=by
   intro k
   induction k with
   |zero=>rfl
   |succ k ih=>grind[iter]
  have pS:∀c∈wL P.length,V P c:=by
   intro c hc;simp only[wL,Jm,Kr]at hc;obtain⟨j,hj,rfl⟩:=hc
   grind[zCD]
  have inner:∀x,V P x→mul P x l.w=mul P l.w (iter l.o.toNat (sig P l) x):=by
   intro x hx;have hnf:=normal P hP hM x hx;have av:=zPb N.toMon N.toMon (iter l.o.toNat (sig P l)) (by grind) (itz _) (by grind) (wL P.length) x pS;rw[←hnf,av];refine zH8 N.toMon hw _ _ x pS (by simp_all) (by simp) ?_;intro k c d hc hd;rw[K5,Ky]at hd;obtain⟨c',mc,rfl⟩:=hd;rw[hc]at mc;simp at mc;subst mc;obtain⟨hk,rfl⟩:=zQi hc
   grind
  have e:∀(x y z:Vec)(b c:Int),V P x→V P y→V P z→0≤b→0≤c→
    mul P (iter c.toNat (sig P l) (mul P (iter b.toNat (sig P l) x) y)) z=mul P (iter (b+c).toNat (sig P l) x) (mul P (iter c.toNat (sig P l) y) z)∧
    mul P (iter c.toNat (sig P l) (mul P l.w (mul P (iter b.toNat (sig P l) x) y))) z=mul P l.w (mul P (iter (b+c).toNat (sig P l) x) (mul P (iter c.toNat (sig P l) y) z))∧
    (l.o≤b+c→mul P (iter (b+c-l.o).toNat (sig P l) x) (mul P l.w (mul P (iter c.toNat (sig P l) y) z))=mul P l.w (mul P (iter (b+c).toNat (sig P l) x) (mul P (iter c.toNat (sig P l) y) z))):=by
   intro x y z b c hx hy hz hb hcc;have i8:=itin b.toNat x hx;have hcy:=itin c.toNat y hy;have hbc:iter c.toNat (sig P l) (iter b.toNat (sig P l) x)=iter (b+c).toNat (sig P l) x:=by rw[←zEN];congr 1;omega
   have ia:=itin (b+c).toNat x hx;have e1:mul P (iter c.toNat (sig P l) (mul P (iter b.toNat (sig P l) x) y)) z=mul P (iter (b+c).toNat (sig P l) x) (mul P (iter c.toNat (sig P l) y) z):=by rw[ithom _ _ _ i8 hy,hbc,N.assoc ia hcy hz]
   refine⟨e1,?_,?_⟩
   ·rw[ithom _ _ _ hw (N.cl i8 hy),itw,N.assoc hw (itin _ _ (N.cl i8 hy)) hz,e1]
   ·intro hge
    have aJ:=N.cl hcy hz;rw[←N.assoc (itin _ x hx) hw aJ,inner _ (itin _ x hx),←zEN,N.assoc hw (itin _ x hx) aJ]
    congr 3
    omega
  refine⟨⟨by grind[xG],wP h',?_,?_,?_⟩,?_⟩
  ·intro A B C hA hB hC
   match A,B,C,hA,hB,hC with
   |a::x,b::y,c::z,hA,hB,hC=>
    simp only[V]at hA hB hC;obtain⟨e1,e2,e3⟩:=e x y z b c hA.2 hB.2 hC.2 hB.1.1 hC.1.1
    by_cases c1:a+b≥l.o<;>by_cases c2:b+c≥l.o
    ·rw[yY,if_pos c1,yY l P b c,if_pos c2,yY,yY,e2,e3 c2]
     grind
    ·rw[yY,if_pos c1,yY l P b c,if_neg c2,yY,yY,e2,if_neg (by omega),if_pos (by omega)]
     grind
    ·rw[yY,if_neg c1,yY l P b c,if_pos c2,yY,yY,e1,e3 c2,if_pos (by omega),if_neg (by omega)]
     grind
    ·rw[yY,if_neg c1,yY l P b c,if_neg c2,yY,yY,e1]
     grind
  ·intro A hA
   match A,hA with
   |a::x,hA=>
    simp only[V]at hA;show mul (l::P) (0::zeros P.length) (a::x)=_;rw[yY,if_neg (by omega),itz,N.onel hA.2,Lp]
  ·intro A hA
   match A,hA with
   |a::x,hA=>
    simp only[V]at hA;show mul (l::P) (a::x) (0::zeros P.length)=_;rw[yY,if_neg (by omega)];simp only[Gz,iter];rw[N.oner hA.2,H2]
  ·intro A hA
   match A,hA with
   |a::x,hA=>
    simp only[V]at hA
    by_cases ha:a=0
    ·obtain⟨y,hy,h1⟩:=N.inv hA.2
     refine⟨0::y,by simp only[V];grind,?_⟩;rw[yY,if_neg (by omega)];simp only[Gz,iter];rw[h1,ha];rfl
    ·have t8:=itin (l.o-a).toNat x hA.2
     obtain⟨y,hy,h1⟩:=N.inv (N.cl hw t8);refine⟨(l.o-a)::y,by simp only[V];grind,?_⟩;rw[yY,if_pos (by omega),←N.assoc hw t8 hy,h1,show a+(l.o-a)-l.o=0 by omega];rfl
termination_by P=>P
end Go.Pc

namespace Go.Pl
open Go Go.Ab
theorem bs{α β:Type}(x:α)(f:α→Option β):(ik x).bind f=f x:=by simp only[Option.bind_some]
theorem zM{α:Type}(x y:α):cond io x y=x:=by simp only[cond_true]
theorem zR{α:Type}(x y:α):cond iq x y=y:=by simp only[cond_false]
theorem zE{n:Int}(h1:-9223372036854775808≤n)(h2:n≤9223372036854775807):rng n=ik n:=by unfold rng;rw[if_pos];simp only[inR,J3,decide_eq_true_eq];omega
theorem vW{α:Type}(xs:List α)(i:Nat):ixO xs (i:Int)=xs[i]?:=by unfold ixO;rw[if_pos (by omega)];simp
theorem kK{α:Type}{xs:List α}{i:Nat}(h:i<xs.length):ixO xs (i:Int)=ik xs[i]:=by rw[vW];exact J4 h
theorem xL{n:Nat}(h:n≤68719476736):xF (n:Int)=ik n:=by unfold xF;rw[if_pos (by omega)];simp
theorem yO{α:Type}{xs ys:List α}(h:xs.length+ys.length≤68719476736):xW xs ys=ik (xs++ys):=by unfold xW;rw[if_pos h]
theorem zX{σ ρ:Type}{body:σ→Option (σ⊕ρ)}{r:ρ}(S:Nat→σ)(n:Nat)(h:∀i,i<n→body (S i)=ik (.inl (S (i+1))))(he:body (S n)=ik (.inr r)):zI body (S 0)=ik r:=by
 have key:∀k i,i+k=n→zI body (S i)=ik r:=by
  intro k
  induction k with
  |zero=>intro i hi;rw[xH,show i=n from by omega,he]
  |succ k ih=>intro i hi;rw[xH,h i (by omega)];exact ih (i+1) (by omega)
 exact key n 0 (by omega)
theorem tL{σ ρ:Type}{body:σ→Option (σ⊕ρ)}{Q:ρ→Prop}(I:Nat→σ→Prop)(n:Nat)(h:∀i s,i<n→I i s→(∃s',body s=ik (.inl s')∧I (i+1) s')∨ ∃r,body s=ik (.inr r)∧Q r)
  (he:∀s,I n s→ ∃r,body s=ik (.inr r)∧Q r){s:σ}(h0:I 0 s):∃r,zI body s=ik r∧Q r:=by
 have key:∀k i s,i+k=n→I i s→ ∃r,zI body s=ik r∧Q r:=by
  intro k
  induction k with
  |zero=>
   intro i s hi hs;obtain rfl:i=n:=by omega
   obtain⟨r,h1,h2⟩:=he s hs;exact⟨r,by rw[xH,h1],h2⟩
  |succ k ih=>
   intro i s hi hs;rcases h i s (by omega) hs with⟨s',h1,h2⟩|⟨r,h1,h2⟩
   ·rw[xH,h1];exact ih (i+1) s' (by omega) h2
   ·exact⟨r,by rw[xH,h1],h2⟩
 exact key n 0 s (by omega) h0
def zL8{ρ:Type}:Option ρ→Unit⊕ρ
 |none=>.inl ()
 |some r=>.inr r
theorem cs(i:Nat):(i:Int)+1=((i+1:Nat):Int):=by omega
theorem zJi{ρ:Type}{body:Int→Option (Int⊕(Unit⊕ρ))}(n:Nat)(t:Nat→Option ρ)(i0:Nat)(hn:i0≤n)
  (h:∀i,i0≤i→i<n→(∀j,i0≤j→j<i→t j=im)→body (i:Int)=ik (match t i with|none=>.inl ((i+1:Nat):Int)|some r=>.inr (.inr r)))
  (he:(∀j,i0≤j→j<n→t j=im)→body (n:Int)=ik (.inr (.inl ()))):
  zI body (i0:Int)=ik (zL8 ((Ku i0 (n-i0)).findSome? t)):=by
 have key:∀k i,i0≤i→i+k=n→(∀j,i0≤j→j<i→t j=im)→zI body (i:Int)=ik (zL8 ((Ku i k).findSome? t)):=by
  intro k
  induction k with
  |zero=>
   intro i hi hk hp;obtain rfl:i=n:=by omega
   rw[xH,he hp];rfl
  |succ k ih=>
   intro i hi hk hp;rw[xH,h i hi (by omega) hp,Jd3,Jbm];cases ht:t i with
   |some r=>rfl
   |none=>
    simp only
    exact ih (i+1) (by omega) (by omega) fun j h1 h2=>by
     rcases Jk j i with h3|h3
     ·exact hp j h1 h3
     ·rw[show j=i from by omega];exact ht
 exact key (n-i0) i0 (Jg _) (by omega) fun j h1 h2=>by omega
theorem zSv{n:Nat}{b:Nat→Bool}:zL8 ((Ku 0 n).findSome? (fun i=>if b i then im else ik iq))=if(Jf n).all b then .inl ()else .inr iq:=by
 have key:∀l:List Nat,zL8 (l.findSome? (fun i=>if b i then im else ik iq))=if l.all b then .inl ()else .inr iq:=by
  intro l
  induction l with
  |nil=>rfl
  |cons x l ih=>
   rw[Jbm,Jbi];cases hb:b x
   ·rfl
   ·simpa using ih
 rw[key,Ll]
theorem zJj{body:Int→Option (Int⊕(Unit⊕Bool))}(n:Nat)(b:Nat→Bool)
  (h:∀i,i<n→(∀j,j<i→b j=io)→body (i:Int)=ik (if b i then .inl ((i+1:Nat):Int)else .inr (.inr iq)))
  (he:(∀j,j<n→b j=io)→body (n:Int)=ik (.inr (.inl ()))):
  zI body 0=ik (if(Jf n).all b then .inl ()else .inr iq):=by
 have:=zJi (body:=body) n (fun i=>if b i then im else ik iq) 0 (Kn _) (fun i _ hi hp=>by
  rw[h i hi fun j hj=>by
   have:=hp j (Kn _) hj;split at this
   ·assumption
   ·cases this]
  cases b i<;>rfl) (fun hp=>he fun j hj=>by
   have:=hp j (Kn _) hj;split at this
   ·assumption
   ·cases this)
 rw[Jb9]at this;exact this.trans (congrArg ik (zSv (n:=n) (b:=b)))
theorem zSw{α:Type}{xs:List α}{z:α}{i:Nat}(h:i<xs.length):(xs.take i++J1 (xs.length-i) z).set i xs[i]=xs.take (i+1)++J1 (xs.length-(i+1)) z:=by
 have h1:(xs.take i).length=i:=by rw[Jw];omega
 rw[G5 _ _ (by omega),h1,Kf,show xs.length-i=(xs.length-(i+1))+1 from by omega,Jq,Lq,Jr h];simp only[Jb,Lr]
theorem zKg{α:Type}{f:α→Option α}{body:List α×Int→Option ((List α×Int)⊕List α)}{x0:List α}{z:α}
  (hb:∀s,body s=cond (decide (s.2<(x0.length:Int))) ((ixO x0 s.2).bind fun v2=>(f v2).bind fun r3=>(ixO s.1 s.2).bind fun _=>(rng (s.2+1)).bind fun v5=>ik (.inl (s.1.set s.2.toNat r3,v5))) (ik (.inr s.1)))
  (hl:x0.length≤68719476736)(hf:∀x∈x0,f x=ik x):zI body (J1 x0.length z,0)=ik x0:=by
 have:=zX (body:=body) (r:=x0) (fun i=>(x0.take i++J1 (x0.length-i) z,(i:Int))) x0.length (fun i hi=>by
  rw[hb];simp only[iu (show((i:Int))<(x0.length:Int)from by omega),zM];rw[kK hi,vW];simp only[bs,hf _ (K3 hi)];rw[J4 (by simp;omega),bs,zE (by omega) (by omega),bs];simp only[Ja,zSw hi,cs]) (by
  rw[hb];simp only[ir (show¬((x0.length:Int))<(x0.length:Int)from by omega),zR,H5,Kf,Hm,Jd])
 simpa using this
theorem zVu{α:Type}[BEq α]{t:α→α→Option Bool}{body:Int→Option (Int⊕(Unit⊕Bool))}{x y:List α}
  (hb:∀i,body i=cond (decide (i<(x.length:Int))) ((ixO x i).bind fun v1=>(ixO y i).bind fun v2=>(t v1 v2).bind fun r3=>cond (!r3) (ik (.inr (.inr iq))) ((rng (i+1)).bind fun v4=>ik (.inl v4))) (ik (.inr (.inl ()))))
  (hl:x.length≤68719476736)(t7:x.length=y.length)(ht:∀u∈x,∀v∈y,t u v=ik (u==v)):zI body 0=ik (if x==y then .inl ()else .inr iq):=by
 have h:=zJj (body:=body) x.length (fun i=>match x[i]?,y[i]? with|some u,ik v=>u==v|_,_=>io) (fun i hi _=>by
  have fE:i<y.length:=by omega
  rw[hb];simp only[iu (show((i:Int))<(x.length:Int)from by omega),zM];rw[kK hi,kK fE];simp only[bs,ht _ (K3 hi) _ (K3 fE),J4 hi,J4 fE];cases x[i]==y[i]
  ·rfl
  ·simp only[K0,zR,if_true]
   rw[zE (by omega) (by omega),cs];rfl) (fun _=>by
  rw[hb];simp only[ir (show¬((x.length:Int))<(x.length:Int)from by omega),zR])
 rw[h]
 congr 2
 have key:∀(x y:List α),x.length=y.length→((Jf x.length).all (fun i=>match x[i]?,y[i]? with|some u,ik v=>u==v|_,_=>io))=(x==y):=by
  intro x
  induction x with
  |nil=>intro y hy;cases y with|nil=>rfl|cons _ _=>simp at hy
  |cons u x ih=>
   intro y hy;cases y with
   |nil=>simp at hy
   |cons v y=>
    rw[J7,Jat,Jbi,List.all_map];simp only[Qp,Function.comp_def,Un];rw[ih y (by simpa using hy)];rfl
 rw[key x y t7]
theorem zJk{α:Type}[BEq α]{t:α→α→Option Bool}{f:Option Bool}{body:Int→Option (Int⊕(Unit⊕Bool))}{x y:List α}
  (hf:f=cond ((x.length:Int) != (y.length:Int)) (ik iq) ((zI body 0).bind fun r=>match r with|.inl _=>ik io|.inr r=>ik r))
  (hb:∀i,body i=cond (decide (i<(x.length:Int))) ((ixO x i).bind fun v1=>(ixO y i).bind fun v2=>(t v1 v2).bind fun r3=>cond (!r3) (ik (.inr (.inr iq))) ((rng (i+1)).bind fun v4=>ik (.inl v4))) (ik (.inr (.inl ()))))
  (hl:x.length≤68719476736)(ht:∀u∈x,∀v∈y,t u v=ik (u==v)):f=ik (x==y):=by
 rw[hf]
 by_cases t7:x.length=y.length
 ·rw[zVu hb hl t7 ht]
  have:((x.length:Int) != (y.length:Int))=iq:=by simp[t7]
  rw[this];cases x==y<;>rfl
 ·have:((x.length:Int) != (y.length:Int))=io:=by simp;omega
  rw[this];have h2:(x==y)=iq:=by
   have key:∀(x y:List α),x.length≠y.length→(x==y)=iq:=by
    intro x
    induction x with
    |nil=>intro y hy;cases y with|nil=>simp at hy|cons _ _=>rfl
    |cons u x ih=>
     intro y hy;cases y with
     |nil=>rfl
     |cons v y=>
      show(u==v&&x==y)=iq;rw[ih y (by simpa using hy),Bool.and_false]
   exact key x y t7
  rw[h2];rfl
end Go.Pl

namespace Go.Pl
open Go Go.Ab
def sm{α:Type}(c:α→Nat):List α→Nat
 | []=>0
 |x::xs=>c x+sm c xs
theorem zDo{α:Type}(c:α→Nat):∀xs ys:List α,sm c (xs++ys)=sm c xs+sm c ys
 | [],ys=>by simp[sm]
 |x::xs,ys=>by simp only[K4,sm,zDo c xs ys];omega
theorem zGA{α:Type}(c:α→Nat){xs:List α}{i:Nat}(h:i<xs.length):sm c (xs.take (i+1))=sm c (xs.take i)+c xs[i]:=by rw[Jr h,zDo];simp[sm]
theorem zBO{α:Type}(c:α→Nat)(xs:List α)(i:Nat):sm c (xs.take i)≤sm c xs:=by have:=zDo c (xs.take i) (xs.drop i);rw[Jb3]at this;omega
theorem zSx{α:Type}(c:α→Nat){xs:List α}{x:α}(h:x∈xs):c x≤sm c xs:=by obtain⟨i,hi,rfl⟩:=L7.1 h;have:=zGA c hi;have:=zBO c xs (i+1);omega
def szR(c:Nat)(b:Int):Int:=if(c:Int)≤b then b-c else -1
theorem zWT{α:Type}{c:α→Nat}{t:α→Int→Option Int}{f:Option Int}{body:Int×Int→Option ((Int×Int)⊕(Int⊕Int))}{xs:List α}{b:Int}
  (hf:f=(rng (b-(xs.length:Int))).bind fun v1=>cond (decide (v1<0)) (ik (-1)) ((zI body (v1,0)).bind fun r=>match r with|.inl r=>ik r|.inr r=>ik r))
  (hb:∀s,body s=cond (decide (s.2<(xs.length:Int))) ((ixO xs s.2).bind fun v2=>(t v2 s.1).bind fun r3=>cond (decide (r3<0)) (ik (.inr (.inr (-1)))) ((rng (s.2+1)).bind fun v4=>ik (.inl (r3,v4)))) (ik (.inr (.inl s.1))))
  (hl:xs.length≤9223372036854775807)(b0:0≤b)(b1:b≤1048576)(ht:∀x∈xs,∀b',0≤b'→b'≤1048576→t x b'=ik (szR (c x) b')):f=ik (szR (xs.length+sm c xs) b):=by
 rw[hf,zE (by omega) (by omega),bs]
 by_cases h0:b-(xs.length:Int)<0
 ·rw[iu h0,zM,szR,if_neg (by omega)]
 ·rw[ir h0,zR]
  obtain⟨r,h1,h2⟩:=tL (body:=body) (Q:=fun r=>(match r with|.inl r=>ik r|.inr r=>ik r)=ik (szR (xs.length+sm c xs) b)) (fun i s=>s.2=(i:Int)∧0≤s.1∧s.1=b-xs.length-sm c (xs.take i)) xs.length (fun i s hi ⟨e1,e2,e3⟩=>by
   rw[hb,e1,iu (by omega),zM,kK hi,bs,ht _ (K3 hi) _ e2 (by omega),bs];have h3:=zGA c hi;have h4:=zBO c xs (i+1);unfold szR
   by_cases h5:(c xs[i]:Int)≤s.1
   ·rw[if_pos h5,ir (by omega),zR,zE (by omega) (by omega),bs,cs]
    exact .inl ⟨_,rfl,rfl,by simp only;omega,by simp only;omega⟩
   ·rw[if_neg h5]
    refine .inr ⟨.inr (-1),rfl,?_⟩;simp only
    rw[if_neg (by omega)]) (fun s ⟨e1,e2,e3⟩=>by
   rw[hb,e1,ir (by omega),zR];rw[H5]at e3;refine⟨_,rfl,?_⟩;simp only
   rw[szR,if_pos (by omega),e3]
   congr 1;omega) (s:=(b-(xs.length:Int),0)) ⟨rfl,by simp only;omega,by simp[sm]⟩
  rw[h1,bs,h2]
def mkL{α:Type}(m:Int→α→α)(c:α→Nat):Int→List α→List α
 |_,[]=>[]
 |k,x::xs=>m k x::mkL m c (k+c x) xs
theorem zEi{α:Type}(m:Int→α→α)(c:α→Nat):∀(xs ys:List α)(k:Int),mkL m c k (xs++ys)=mkL m c k xs++mkL m c (k+sm c xs) ys
 | [],ys,k=>by simp[mkL,sm]
 |x::xs,ys,k=>by simp only[K4,mkL,sm,zEi m c xs ys];rw[show k+(c x:Int)+(sm c xs:Int)=k+((c x+sm c xs:Nat):Int)from by omega]
theorem tC{α:Type}(m:Int→α→α)(c:α→Nat):∀(xs:List α)(k:Int),(mkL m c k xs).length=xs.length
 | [],_=>rfl
 |x::xs,k=>by simp[mkL,tC m c xs]
theorem zPc{α:Type}(m:Int→α→α)(c:α→Nat){xs:List α}{i:Nat}(h:i<xs.length)(k:Int):(mkL m c k xs)[i]'(by rw[tC];exact h)=m (k+sm c (xs.take i)) xs[i]:=by
 have h1:xs=xs.take i++xs[i]::xs.drop (i+1):=by simp
 have h2:=zEi m c (xs.take i) (xs[i]::xs.drop (i+1)) k;rw[←h1]at h2;rw[List.getElem_of_eq h2];rw[List.getElem_append_right (by rw[tC,Jw];omega)];simp[mkL,tC,Hz (Jcn h)]
theorem zFH{α:Type}{m:Int→α→α}{c:α→Nat}{t:α→Int→Option (Int×α)}{body:List α×Int×Int→Option ((List α×Int×Int)⊕(List α×Int))}{xs:List α}{k:Int}
  (hb:∀s,body s=cond (decide (s.2.2<(s.1.length:Int))) ((ixO s.1 s.2.2).bind fun v1=>(t v1 s.2.1).bind fun r2=>(rng (s.2.2+1)).bind fun v3=>ik (.inl (s.1.set s.2.2.toNat r2.2,r2.1,v3))) (ik (.inr (s.1,s.2.1))))
  (hl:xs.length≤1048576)(k0:0≤k)(k1:k+sm c xs≤9223372036854775807)(ht:∀x∈xs,∀k':Int,0≤k'→k'+c x≤9223372036854775807→t x k'=ik (k'+c x,m k' x)):zI body (xs,k,0)=ik (mkL m c k xs,k+sm c xs):=by
 have:=zX (body:=body) (r:=(mkL m c k xs,k+sm c xs)) (fun i=>(mkL m c k (xs.take i)++xs.drop i,k+sm c (xs.take i),(i:Int))) xs.length (fun i hi=>by
  have h1:=zGA c hi;have h2:=zBO c xs (i+1);have gf:(mkL m c k (xs.take i)).length=i:=by rw[tC,Jw];omega
  have hg:(mkL m c k (xs.take i)++xs.drop i)[i]? =ik xs[i]:=by rw[J9 (by omega),gf,Kf,Lz,Gv,J4 hi]
  rw[hb];simp only
  rw[iu (by rw[J5,gf,Jz];omega),zM,vW,hg,bs,ht _ (K3 hi) _ (by omega) (by omega),bs,zE (by omega) (by omega),bs,cs];simp only[Ja];rw[G5 _ _ (by omega),gf,Kf,H1 hi,Lq,Jr hi,zEi,zDo,Jb];simp only[mkL,sm,Lr,Gv];rw[show k+(sm c (xs.take i):Int)+(c xs[i]:Int)=k+((sm c (xs.take i)+c xs[i]:Nat):Int)from by omega]) (by
  rw[hb];simp only
  rw[ir (by rw[J5,tC,Jw,Jz];omega),zR];simp only[H5,List.drop_length,Jd])
 simpa[mkL,sm]using this
theorem zJl{α:Type}{m:Int→α→α}{c:α→Nat}{t:α→Int→Option Int}{f:Option Int}{xs:List α}{k:Int}{body:Int×Int→Option ((Int×Int)⊕(Int⊕Int))}
  (hf:f=(zI body (k,0)).bind fun r=>match r with|.inl r=>ik r|.inr r=>ik r)
  (hb:∀s,body s=cond (decide (s.2<((mkL m c k xs).length:Int))) ((ixO (mkL m c k xs) s.2).bind fun v1=>(t v1 s.1).bind fun r2=>cond (decide (r2<0)) (ik (.inr (.inr (-1)))) ((rng (s.2+1)).bind fun v3=>ik (.inl (r2,v3)))) (ik (.inr (.inl s.1))))
  (hl:xs.length≤1048576)(k0:0≤k)(k1:k+sm c xs≤9223372036854775807)(ht:∀x∈xs,∀k':Int,0≤k'→k'+c x≤9223372036854775807→t (m k' x) k'=ik (k'+c x)):f=ik (k+sm c xs):=by
 have:=zX (body:=body) (r:=.inl (k+sm c xs)) (fun i=>(k+sm c (xs.take i),(i:Int))) xs.length (fun i hi=>by
  have h1:=zGA c hi;have h2:=zBO c xs (i+1);rw[hb];simp only
  rw[tC,iu (by omega),zM,kK (by rw[tC];exact hi),bs,zPc m c hi,ht _ (K3 hi) _ (by omega) (by omega),bs,ir (by omega),zR,zE (by omega) (by omega),bs,cs,h1];rw[show k+(sm c (xs.take i):Int)+(c xs[i]:Int)=k+((sm c (xs.take i)+c xs[i]:Nat):Int)from by omega]) (by
  rw[hb];simp only
  rw[tC,ir (by omega),zR,H5])
 rw[hf];simp only[Ka,sm]at this;rw[show k+((0:Nat):Int)=k from by omega]at this;rw[show((0:Nat):Int)=0 from rfl]at this;rw[this];rfl
end Go.Pl

namespace Go.Pl
open Go Go.Ab Go.Wk
abbrev VI(n:Int):Prop:=(Lit.int .i64 n).wf=io
abbrev VL{α:Type}(V:α→Prop)(xs:List α):Prop:=xs.length≤maxLen∧ ∀x∈xs,V x
abbrev c1(x:List Int):Nat:=x.length
abbrev c2(x:List (List Int)):Nat:=x.length+sm c1 x
abbrev c3(x:List (List (List Int))):Nat:=x.length+sm c2 x
theorem zL9{x:List Int}{b:Int}(hl:x.length≤9223372036854775807)(b0:0≤b)(b1:b≤1048576):zTy x b=ik (szR (c1 x) b):=by
 unfold zTy szR;rw[zE (by omega) (by omega),bs]
 grind
theorem zJm{x:List (List Int)}{b:Int}(h:VL (VL VI) x)(b0:0≤b)(b1:b≤1048576):zVO x b=ik (szR (c2 x) b):=
 zWT (c:=c1) rfl (fun _=>rfl) h.1 b0 b1 fun y hy _ h1 h2=>zL9 (h.2 y hy).1 h1 h2
theorem zH9{x:List (List (List Int))}{b:Int}(h:VL (VL (VL VI)) x)(b0:0≤b)(b1:b≤1048576):zVP x b=ik (szR (c3 x) b):=
 zWT (c:=c2) rfl (fun _=>rfl) h.1 b0 b1 (by grind[zJm])
abbrev S1(x:List Int):Prop:=c1 x≤1048576
abbrev S2(x:List (List Int)):Prop:=c2 x≤1048576
abbrev S3(x:List (List (List Int))):Prop:=c3 x≤1048576
theorem S2.mem{x:List (List Int)}(h:S2 x){y:List Int}(hy:y∈x):S1 y:=by
 have:=zSx c1 hy
 grind
theorem S3.mem{x:List (List (List Int))}(h:S3 x){y:List (List Int)}(hy:y∈x):S2 y:=by
 have:=zSx c2 hy
 grind
theorem S1.len{x:List Int}(h:S1 x):x.length≤1048576:=h
theorem S2.len{x:List (List Int)}(h:S2 x):x.length≤1048576:=by grind
theorem S3.len{x:List (List (List Int))}(h:S3 x):x.length≤1048576:=by grind
theorem zLA{x:List Int}(h:S1 x):zQE x=ik x:=by unfold zQE;rw[xL (Hc h (by decide)),bs,zKg (body:=zTz x) (f:=ik) (fun _=>rfl) (by grind) (fun _ _=>rfl),bs]
theorem zJn{x:List (List Int)}(h:S2 x):zQF x=ik x:=by unfold zQF;rw[xL (by grind),bs,zKg (body:=zT0 x) (f:=zQE) (fun _=>rfl) (by grind) (fun _ hx=>zLA (h.mem hx)),bs]
theorem zHA{x:List (List (List Int))}(h:S3 x):zT2 x=ik x:=by unfold zT2;rw[xL (by grind),bs,zKg (body:=zT1 x) (f:=zQF) (fun _=>rfl) (by grind) (fun _ hx=>zJn (h.mem hx)),bs]
theorem zLB{x y:List Int}(h:S1 x):zUt x y=ik (x==y):=
 zJk (t:=fun u v=>ik (u==v)) (body:=zUs x y) rfl (fun _=>rfl) (by grind) fun _ _ _ _=>rfl
theorem zJo{x y:List (List Int)}(h:S2 x):zUv x y=ik (x==y):=
 zJk (t:=zUt) (body:=zUu x y) rfl (fun _=>rfl) (by grind) fun _ hu _ _=>zLB (h.mem hu)
theorem zBP{x y:List (List (List Int))}(h:S3 x):f_S x y=ik (x==y):=
 zJk (t:=zUv) (body:=zYS x y) rfl (fun _=>rfl) (by grind) fun _ hu _ _=>zJo (h.mem hu)
def m1(k:Int)(x:List Int):List Int:=mkL (fun k _=>k) (fun _=>1) k x
def m2(k:Int)(x:List (List Int)):List (List Int):=mkL m1 c1 k x
def m3(k:Int)(x:List (List (List Int))):List (List (List Int)):=mkL m2 (sm c1) k x
theorem zNw{α:Type}:∀xs:List α,sm (fun _=>1) xs=xs.length
 | []=>rfl
 |x::xs=>by simp[sm,zNw xs];omega
theorem zHB{x:List Int}{k:Int}(h:S1 x)(k0:0≤k)(k1:k+c1 x≤9223372036854775807):zQK x k=ik (k+c1 x,m1 k x):=by have h1:=zNw x;have:=zFH (m:=fun k _=>k) (c:=fun _=>1) (t:=fun v k=>(rng (k+1)).bind fun v2=>ik (v2,k)) (body:=zPP) (xs:=x) (k:=k) (by grind[zPP]) h.len k0 (by grind) (by grind[zE]);unfold zQK;rw[this,bs,h1];rfl
theorem zGp{x:List (List Int)}{k:Int}(h:S2 x)(k0:0≤k)(k1:k+sm c1 x≤9223372036854775807):zQL x k=ik (k+sm c1 x,m2 k x):=by unfold zQL;rw[zFH (body:=zUw) (m:=m1) (c:=c1) (t:=zQK) (fun _=>rfl) h.len k0 k1 fun y hy _ h1 h2=>zHB (h.mem hy) h1 h2,bs];rfl
theorem zBQ{x:List (List (List Int))}{k:Int}(h:S3 x)(k0:0≤k)(k1:k+sm (sm c1) x≤9223372036854775807):zQM x k=ik (k+sm (sm c1) x,m3 k x):=by unfold zQM;rw[zFH (body:=zUx) (m:=m2) (c:=sm c1) (t:=zQL) (fun _=>rfl) h.len k0 k1 fun y hy _ h1 h2=>zGp (h.mem hy) h1 h2,bs];rfl
theorem zNx{x:List Int}{k:Int}(h:S1 x)(k0:0≤k)(k1:k+c1 x≤9223372036854775807):zUy (m1 k x) k=ik (k+c1 x):=by
 have hl:=h.len;have ar:(m1 k x).length=x.length:=tC _ _ _ _;have:=zX (body:=zMG (m1 k x)) (r:=.inl (k+c1 x)) (fun i=>(k+(i:Int),(i:Int))) x.length (fun i hi=>by
  have hg:(m1 k x)[i]'(by omega)=k+sm (fun _=>1) (x.take i):=zPc _ _ hi _;unfold zMG;rw[iu (by omega),zM,kK (by rw[ar];exact hi),bs,hg,zNw,Jw,Hz (by omega),show(k+(i:Int) != k+(i:Int))=iq from by simp,zR,zE (by omega) (by grind),bs,zE (by omega) (by omega),bs,cs]
  grind) (by
  unfold zMG
  grind)
 unfold zUy
 grind
theorem zLC{x:List (List Int)}{k:Int}(h:S2 x)(k0:0≤k)(k1:k+sm c1 x≤9223372036854775807):zWn (m2 k x) k=ik (k+sm c1 x):=
 zJl (body:=zUz (m2 k x)) (m:=m1) (c:=c1) (t:=zUy) rfl (fun _=>rfl) h.len k0 k1 fun _ hy _ h1 h2=>zNx (h.mem hy) h1 h2
theorem zKh{x:List (List (List Int))}{k:Int}(h:S3 x)(k0:0≤k)(k1:k+sm (sm c1) x≤9223372036854775807):zWo (m3 k x) k=ik (k+sm (sm c1) x):=
 zJl (body:=zU0 (m3 k x)) (m:=m2) (c:=sm c1) (t:=zWn) rfl (fun _=>rfl) h.len k0 k1 fun _ hy _ h1 h2=>zLC (h.mem hy) h1 h2
def zPd(x:SPr):Prop:=VL VI x.zA∧VL (VL VI) x.zU∧VL (VL (VL VI)) x.zF
def zVv(x:zB):Prop:=VI x.Prime∧VI x.Dim∧VL (VL (VL VI)) x.zG
def zLD(x:SPr):Nat:=c1 x.zA+c2 x.zU+c3 x.zF
def zSy(x:zB):Nat:=c3 x.zG
def zDJ(x:SPr):Prop:=S1 x.zA∧S2 x.zU∧S3 x.zF
def zI6(x:zB):Prop:=S3 x.zG
theorem zLE{a b:Nat}{n:Int}:(szR a n<0∧szR (a+b) n= -1)∨(0≤szR a n∧szR a n≤n∧szR b (szR a n)=szR (a+b) n∧(a:Int)≤n)∨n<0:=by unfold szR;omega
theorem zHC{x:SPr}{b:Int}(h:zPd x)(b0:0≤b)(b1:b≤1048576):zVQ x b=ik (szR (zLD x) b):=by
 obtain⟨h1,h2,h3⟩:=h;unfold zVQ zLD;rw[zL9 h1.1 b0 b1,bs];rcases zLE (a:=c1 x.zA) (b:=c2 x.zU+c3 x.zF) (n:=b)with⟨g1,g2⟩|⟨g1,g2,g3,g4⟩|g1
 ·grind
 ·rw[ir (by omega),zR,zJm h2 g1 (by omega),bs,Nat.add_assoc,←g3]
  generalize szR (c1 x.zA) b=b' at g1 g2
  rcases zLE (a:=c2 x.zU) (b:=c3 x.zF) (n:=b')with⟨k1,k2⟩|⟨k1,k2,k3,k4⟩|k1
  ·grind
  ·rw[ir (by omega),zR,zH9 h3 k1 (by omega),bs,←k3]
   generalize szR (c2 x.zU) b'=b'' at k1 k2
   unfold szR
   grind
  ·omega
 ·omega
theorem zSz{x:zB}{b:Int}(h:zVv x)(b0:0≤b)(b1:b≤1048576):zVR x b=ik (szR (zSy x) b):=by
 obtain⟨_,_,h3⟩:=h;unfold zVR zSy;rw[zH9 h3 b0 b1,bs];unfold szR
 grind
theorem zPe{c:Nat}{b:Int}(b0:0≤b)(b1:b≤1048576):(decide (szR c b<0)=io)∨(decide (szR c b<0)=iq∧0≤szR c b∧szR c b≤1048576∧c≤1048576):=by
 unfold szR
 grind
theorem zDJ.of{x:SPr}(h:zLD x≤1048576):zDJ x:=by unfold zLD at h;exact⟨by omega,by omega,by omega⟩
theorem zI6.of{x:zB}(h:zSy x≤1048576):zI6 x:=h
theorem zHD{x:SPr}(h:zDJ x):zNZ x=ik x:=by unfold zNZ;rw[zLA h.1,bs,zJn h.2.1,bs,zHA h.2.2,bs]
theorem zS0{x:zB}(h:zI6 x):zOa x=ik x:=by unfold zOa;rw[zHA h,bs]
theorem zS1{x:zB}(h:zI6 x):zWj x x=ik io:=by unfold zWj;rw[zBP h,bs];simp
theorem zHE{x:SPr}(h:zDJ x):zWk x x=ik io:=by unfold zWk;rw[zLB h.1,bs,zJo h.2.1,bs,zBP h.2.2,bs];simp
theorem zS2{x:List (List Int)}:sm c1 x≤c2 x:=by simp
theorem zPf{α:Type}{f g:α→Nat}(h:∀x,f x≤g x):∀xs:List α,sm f xs≤sm g xs
 | []=>Jg _
 |x::xs=>by have:=zPf h xs;grind[sm]
theorem zKi{x:List (List (List Int))}:sm (sm c1) x≤c3 x:=by
 have:=zPf (f:=sm c1) (g:=c2) (fun _=>zS2) x
 grind
theorem zNy{x:zB}{k:Int}(h:zI6 x)(k0:0≤k)(k1:k≤1000000000):zWm x k=ik (k+sm (sm c1) x.zG,zB.mk x.Prime x.Dim (m3 k x.zG)):=by
 have g3:=zKi (x:=x.zG);have h':=h;simp only[zI6,S3]at h'
 grind[zWm,zBQ]
end Go.Pl

namespace Go.Pl
open Go Go.Ab Go.Wk
def IsB(o:Option Bool)(P:Prop):Prop:=(o=ik io∧P)∨(o=ik iq∧ ¬P)
theorem IsB.iff{o:Option Bool}{P Q:Prop}(h:IsB o P)(hpq:P↔Q):IsB o Q:=by grind
theorem IsB.of_bool{b:Bool}{P:Prop}(h:b=io↔P):IsB (ik b) P:=by
 cases b
 ·exact .inr (by grind)
 ·exact .inl ⟨rfl,h.1 rfl⟩
theorem chk{ρ:Type}{body:Int→Option (Int⊕(Unit⊕ρ))}(n i0:Nat)(hn:i0≤n)(P:Nat→Prop)(bad:Nat→ρ)
  (h:∀i,i0≤i→i<n→(∀j,i0≤j→j<i→P j)→(body (i:Int)=ik (.inl ((i+1:Nat):Int))∧P i)∨(body (i:Int)=ik (.inr (.inr (bad i)))∧ ¬P i))
  (he:body (n:Int)=ik (.inr (.inl ()))):
  (zI body (i0:Int)=ik (.inl ())∧ ∀j,i0≤j→j<n→P j)∨ ∃i,i0≤i∧i<n∧zI body (i0:Int)=ik (.inr (bad i))∧ ¬P i:=by
 have key:∀k i,i0≤i→i+k=n→(∀j,i0≤j→j<i→P j)→(zI body (i:Int)=ik (.inl ())∧ ∀j,i0≤j→j<n→P j)∨ ∃q,i0≤q∧q<n∧zI body (i:Int)=ik (.inr (bad q))∧ ¬P q:=by
  intro k
  induction k with
  |zero=>
   intro i hi hk hp;obtain rfl:i=n:=by omega
   grind[xH]
  |succ k ih=>
   intro i hi hk hp;rcases h i hi (by omega) hp with⟨h1,h2⟩|⟨h1,h2⟩
   ·have:=ih (i+1) (by omega) (by omega) (by grind)
    rw[xH,h1];exact this
   grind[xH]
 exact key (n-i0) i0 (Jg _) (by omega) fun j a b=>by omega
theorem zAe{f:Option Bool}{body:Int→Option (Int⊕(Unit⊕Bool))}(n:Nat)(P:Nat→Prop)
  (hf:f=(zI body 0).bind fun r=>match r with|.inl _=>ik io|.inr r=>ik r)
  (h:∀i,i<n→(∀j,j<i→P j)→(body (i:Int)=ik (.inl ((i+1:Nat):Int))∧P i)∨(body (i:Int)=ik (.inr (.inr iq))∧ ¬P i))
  (he:body (n:Int)=ik (.inr (.inl ()))):IsB f (∀i,i<n→P i):=by
 rcases chk n 0 (Kn _) P (fun _=>iq) (fun i _ hi hp=>h i hi fun j hj=>hp j (Kn _) hj) he with⟨h1,h2⟩|⟨i,_,hi,h1,h2⟩
 ·refine .inl ⟨?_,fun i hi=>h2 i (Kn _) hi⟩
  rw[hf];rw[show((0:Nat):Int)=0 from rfl]at h1;rw[h1,bs]
 ·refine .inr ⟨?_,fun hp=>h2 (hp i hi)⟩
  rw[hf];rw[show((0:Nat):Int)=0 from rfl]at h1;rw[h1,bs]
theorem tV{o:Option Bool}{P:Prop}{ρ:Type}{bad:ρ}{i:Nat}{g:Option (Int⊕(Unit⊕ρ))}(h:IsB o P)(hi:i<9223372036854775807)
  (hg:g=o.bind fun r=>cond (!r) (ik (.inr (.inr bad))) ((rng ((i:Int)+1)).bind fun v=>ik (.inl v))):(g=ik (.inl ((i+1:Nat):Int))∧P)∨(g=ik (.inr (.inr bad))∧ ¬P):=by
 subst hg;rcases h with⟨h1,h2⟩|⟨h1,h2⟩
 ·refine .inl ⟨?_,h2⟩
  rw[h1,bs,K0,zR,zE (by omega) (by omega),bs,cs]
 grind
theorem yZ{i n:Nat}(h:i<n):decide ((i:Int)<(n:Int))=io:=by grind
theorem vU{n:Nat}:decide ((n:Int)<(n:Int))=iq:=by simp
theorem kQ(x a b:Int):IsB (zOe x a b) (a≤x∧x≤b):=by
 unfold zOe
 by_cases h:x≥a
 ·rw[iu h,zM];grind[IsB.of_bool]
 ·rw[ir h,zR];exact .inr ⟨rfl,by omega⟩
theorem zCG(x a b:Int):IsB (zT3 x a b) (a≤x∧x≤b):=kQ x a b
def Prime(p:Int):Prop:=p=2∨p=3∨p=5∨p=7
theorem zBR(x:Int):IsB (zQG x) (Prime x):=by
 unfold zQG Prime
 by_cases h2:x=2
 ·subst h2;exact .inl ⟨rfl,.inl rfl⟩
 ·rw[show(x==2)=iq from by grind,zR]
  by_cases h3:x=3
  ·subst h3;exact .inl (by simp)
  ·rw[show(x==3)=iq from by grind,zR]
   by_cases h5:x=5
   ·subst h5;exact .inl (by simp)
   ·rw[show(x==5)=iq from by grind,zR]
    grind[IsB.of_bool]
theorem zHF(x:Int):IsB (zVS x) (Prime x):=zBR x
abbrev at0(v:List Int)(i:Nat):Int:=v.getD i 0
theorem yV{v:List Int}{i:Nat}(h:i<v.length):ixO v (i:Int)=ik (at0 v i):=by rw[kK h,at0,J2,J4 h];rfl
def zYf(os v:List Int):Prop:=v.length=os.length∧ ∀i,i<v.length→0≤at0 v i∧at0 v i≤at0 os i-1
def Exp(os v:List Int)(k:Nat):Prop:=zYf os v∧ ∀i,i≤k→at0 v i=0
def Os(os:List Int):Prop:=os.length≤9∧ ∀i,i<os.length→Prime (at0 os i)
theorem Prime.pos{p:Int}(h:Prime p):2≤p∧p≤7:=by unfold Prime at h;omega
theorem zFI{x:SPr}{v:List Int}(ho:Os x.zA):IsB (zWb x v) (zYf x.zA v):=by
 unfold zWb
 by_cases h:v.length=x.zA.length
 ·rw[show((v.length:Int) != (x.zA.length:Int))=iq from by simp[h],zR]
  have h6:=ho.1;refine(zAe v.length (fun i=>0≤at0 v i∧at0 v i≤at0 x.zA i-1) rfl (fun i hi _=>?_) ?_).iff ⟨fun g=>⟨h,g⟩,fun g=>g.2⟩
  ·have hp:=(ho.2 i (by omega)).pos
   refine tV (kQ _ _ _) (by omega) ?_;unfold zPN;rw[yZ hi,zM,yV hi,bs,yV (by omega),bs,zE (by omega) (by omega),bs]
  ·unfold zPN
   simp
 ·rw[show((v.length:Int) != (x.zA.length:Int))=io from by simp;omega,zM]
  exact .inr ⟨rfl,fun g=>h g.1⟩
theorem zLF{v:List Int}(hl:v.length≤9):IsB (zTO v) (∀i,i<v.length→at0 v i=0):=by
 refine zAe v.length (fun i=>at0 v i=0) rfl (fun i hi _=>?_) ?_
 ·refine tV (o:=ik (at0 v i==0)) (IsB.of_bool (by simp)) (by omega) ?_
  unfold zJ6;rw[yZ hi,zM,yV hi,bs,bs];rfl
 ·unfold zJ6
  simp
theorem zCo{x:SPr}{k:Nat}{v:List Int}(ho:Os x.zA)(hk:k<x.zA.length):IsB (zTP x k v) (Exp x.zA v k):=by
 have h6:=ho.1;unfold zTP;rcases zFI (v:=v) ho with⟨h1,h2⟩|⟨h1,h2⟩
 ·have hl:=h2.1
  rw[h1,bs,zM,zE (by omega) (by omega),bs];have hs:yB v 0 ((k:Int)+1)=ik (v.take (k+1)):=by
   unfold yB
   grind
  rw[hs,bs];have hb:=zLF (v:=v.take (k+1)) (by grind);have pY:(∀i,i<(v.take (k+1)).length→at0 (v.take (k+1)) i=0)↔Exp x.zA v k:=by
   have e:∀i,i≤k→at0 (v.take (k+1)) i=at0 v i:=by grind
   rw[Jw,Hz (by omega)];exact⟨fun g=>⟨h2,by grind⟩,fun g i hi=>by rw[e i (by omega)];exact g.2 i (by omega)⟩
  grind
 ·rw[h1,bs,zR]
  exact .inr ⟨rfl,fun g=>h2 g.1⟩
theorem zCH{os v:List Int}{k:Nat}(ho:Os os)(hk:k<os.length):IsB (zT4 os v k) (Exp os v k):=by
 have h6:=ho.1;unfold zT4
 by_cases h:v.length=os.length
 ·rw[show((v.length:Int) != (os.length:Int))=iq from by simp[h],zR]
  refine(zAe v.length (fun i=>(0≤at0 v i∧at0 v i≤at0 os i-1)∧(i≤k→at0 v i=0)) rfl (fun i hi _=>?_) ?_).iff ⟨fun g=>⟨⟨h,by grind⟩,by grind⟩,fun g i hi=>⟨g.1.2 i hi,fun hk=>g.2 i hk⟩⟩
  ·have hp:=(ho.2 i (by omega)).pos
   unfold zPJ;rw[yZ hi,zM,yV hi,bs,yV (by omega),bs,zE (by omega) (by omega),bs];rcases zCG (at0 v i) 0 (at0 os i-1)with⟨h1,h2⟩|⟨h1,h2⟩
   ·rw[h1,bs,K0,zR]
    by_cases h3:(i:Int)≤(k:Int)
    ·rw[iu h3,zM,bs]
     by_cases h4:at0 v i=0
     ·rw[show(at0 v i != 0)=iq from by grind,zR,zE (by omega) (by omega),bs,cs]
      grind
     grind
    ·rw[ir h3,zR,zE (by omega) (by omega),bs,cs]
     grind
   grind
  ·unfold zPJ
   simp
 ·rw[show((v.length:Int) != (os.length:Int))=io from by simp;omega,zM]
  exact .inr ⟨rfl,fun g=>h g.1.1⟩
end Go.Pl

namespace Go.Pl
open Go Go.Ab Go.Wk
theorem yBp{σ ρ:Type}{body:σ→Option (σ⊕(Unit⊕ρ))}(S:Nat→σ)(n i0:Nat)(hn:i0≤n)(P:Nat→Prop)(bad:Nat→ρ)
  (h:∀i,i0≤i→i<n→(∀j,i0≤j→j<i→P j)→(body (S i)=ik (.inl (S (i+1)))∧P i)∨(body (S i)=ik (.inr (.inr (bad i)))∧ ¬P i))
  (he:body (S n)=ik (.inr (.inl ()))):
  (zI body (S i0)=ik (.inl ())∧ ∀j,i0≤j→j<n→P j)∨ ∃i,i0≤i∧i<n∧zI body (S i0)=ik (.inr (bad i))∧ ¬P i:=by
 have key:∀k i,i0≤i→i+k=n→(∀j,i0≤j→j<i→P j)→(zI body (S i)=ik (.inl ())∧ ∀j,i0≤j→j<n→P j)∨ ∃q,i0≤q∧q<n∧zI body (S i)=ik (.inr (bad q))∧ ¬P q:=by
  intro k
  induction k with
  |zero=>
   intro i hi hk hp;obtain rfl:i=n:=by omega
   grind[xH]
  |succ k ih=>
   intro i hi hk hp;rcases h i hi (by omega) hp with⟨h1,h2⟩|⟨h1,h2⟩
   ·have:=ih (i+1) (by omega) (by omega) (by grind)
    rw[xH,h1];exact this
   grind[xH]
 exact key (n-i0) i0 (Jg _) (by omega) fun j a b=>by omega
theorem zAl{a b:Int}(h:a=b):(a != b)=iq:=by simp[h]
theorem kR{a b:Int}(h:a≠b):(a != b)=io:=by simp[h]
def pr(os:List Int):Nat→Int
 |0=>1
 |i+1=>pr os i*at0 os i
def cp(os:List Int):Nat→Int
 |0=>1
 |i+1=>if cp os i≤729 then cp os i*at0 os i else cp os i
theorem zHG{os:List Int}:∀{i:Nat},(∀j,j<i→Prime (at0 os j))→1≤pr os i
 |0,_=>by simp[pr]
 |i+1,h=>by have h1:=zHG (os:=os) (i:=i) (by grind);have h2:=(h i (by omega)).pos;simp only[pr];have:(1:Int)*1≤pr os i*at0 os i:=Ls h1 (by omega) (by omega) (by omega);omega
theorem zPg{os:List Int}{i:Nat}(h:∀j,j≤i→Prime (at0 os j)):pr os i≤pr os (i+1):=by have h1:=zHG (os:=os) (i:=i) (by grind);have h2:=(h i (Jg _)).pos;simp only[pr];have:pr os i*1≤pr os i*at0 os i:=Qr (by omega) (by omega);omega
theorem zPh{os:List Int}{n:Nat}(h:∀j,j<n→Prime (at0 os j)):∀k,k≤n→pr os (n-k)≤pr os n
 |0,_=>Int.le_refl _
 |k+1,hk=>by
  have h1:=zPh h k (by omega);have h2:=zPg (os:=os) (i:=n-(k+1)) (by grind)
  grind
theorem zS3{os:List Int}:∀{i:Nat},(∀j,j<i→Prime (at0 os j))→(cp os i=pr os i∧pr os i≤729∨729<cp os i∧cp os i≤5103∧729<pr os i)
 |0,_=>by simp[cp,pr]
 |i+1,h=>by
  have h0:∀j,j<i→Prime (at0 os j):=by grind
  have h2:=(h i (by omega)).pos;have h3:=zPg (os:=os) (i:=i) (by grind);have u5:=zHG h0;simp only[cp];rcases zS3 h0 with⟨h1,h4⟩|⟨h1,h4,h5⟩
  ·rw[h1,if_pos h4]
   have h6:pr os i*at0 os i≤729*7:=Ls h4 h2.2 (by omega) (by omega);simp only[pr]at h3 ⊢
   grind
  omega
def zGq(x:SPr)(i:Nat):Prop:=Exp x.zA (x.zU.getD i []) i∧(x.zF.getD i []).length+i+1=x.zA.length∧ ∀j,j<(x.zF.getD i []).length→Exp x.zA ((x.zF.getD i []).getD j []) i
structure zGr (x:SPr):Prop where
 os:True∧ ∀i,i<x.zA.length→Prime (at0 x.zA i)
 pl:x.zU.length=x.zA.length
 cl:x.zF.length=x.zA.length
 tl:∀i,i<x.zA.length→zGq x i
structure Pres (x:SPr):Prop where
 os:Os x.zA
 pl:x.zU.length=x.zA.length
 cl:x.zF.length=x.zA.length
 tl:∀i,i<x.zA.length→zGq x i
theorem Pres.w{x:SPr}(h:Pres x):zGr x:=⟨⟨trivial,h.os.2⟩,h.pl,h.cl,h.tl⟩
structure zDK (x:SPr):Prop extends Pres x where
 n6:x.zA.length≤6
 pr:pr x.zA x.zA.length≤729
theorem yQ{α:Type}{v:List α}{i:Nat}(d:α)(h:i<v.length):ixO v (i:Int)=ik (v.getD i d):=by grind[kK]
theorem zNz{x:SPr}(ho:Os x.zA)(hp:x.zU.length=x.zA.length)(hc:x.zF.length=x.zA.length){i:Nat}(hi:i<x.zA.length):
  (zOg x i=ik (.inl ((i+1:Nat):Int))∧zGq x i)∨(zOg x i=ik (.inr (.inr iq))∧ ¬zGq x i):=by
 have h6:=ho.1;unfold zOg;rw[yZ hi,zM,yQ [] (by omega),bs];rcases zCo (v:=x.zU.getD i []) ho hi with⟨h1,h2⟩|⟨h1,h2⟩
 ·rw[h1,bs,K0,zR,yQ [] (by omega),bs,zE (by omega) (by omega),bs,zE (by omega) (by omega),bs]
  by_cases hl:(x.zF.getD i []).length+i+1=x.zA.length
  ·rw[zAl (by omega),zR,bs]
   rcases chk (body:=zTQ x i (x.zF.getD i [])) (x.zF.getD i []).length 0 (Kn _) (fun j=>Exp x.zA ((x.zF.getD i []).getD j []) i) (fun _=>iq) (fun j _ hj _=>by
     refine tV (zCo ho hi) (by omega) ?_;unfold zTQ;rw[yZ hj,zM,yQ [] hj,bs]) (by
     unfold zTQ;simp)with⟨g1,g2⟩|⟨j,_,hj,g1,g2⟩
   ·rw[show((0:Nat):Int)=0 from rfl]at g1
    rw[g1,bs];simp only
    rw[zE (by omega) (by omega),bs,cs];exact .inl ⟨rfl,h2,hl,by grind⟩
   ·rw[show((0:Nat):Int)=0 from rfl]at g1
    rw[g1,bs];exact .inr ⟨rfl,fun g=>g2 (g.2.2 j hj)⟩
  ·rw[kR (by omega),zM]
   exact .inr ⟨rfl,fun g=>hl g.2.1⟩
 ·rw[h1,bs,Kk,zM]
  exact .inr ⟨rfl,fun g=>h2 g.1⟩
theorem zN0{x:SPr}(ho:Os x.zA)(hp:x.zU.length=x.zA.length)(hc:x.zF.length=x.zA.length){i:Nat}(hi:i<x.zA.length):
  (zOb x i=ik (.inl ((i+1:Nat):Int))∧zGq x i)∨(zOb x i=ik (.inr (.inr iq))∧ ¬zGq x i):=by
 have h6:=ho.1;unfold zOb;rw[yZ hi,zM,yQ [] (by omega),bs];rcases zCH (v:=x.zU.getD i []) ho hi with⟨h1,h2⟩|⟨h1,h2⟩
 ·rw[h1,bs,K0,zR,yQ [] (by omega),bs,zE (by omega) (by omega),bs,zE (by omega) (by omega),bs]
  by_cases hl:(x.zF.getD i []).length+i+1=x.zA.length
  ·rw[zAl (by omega),zR]
   rcases chk (body:=zT6 x i) (x.zF.getD i []).length 0 (Kn _) (fun j=>Exp x.zA ((x.zF.getD i []).getD j []) i) (fun _=>iq) (fun j _ hj _=>by
     refine tV (zCH ho hi) (by omega) ?_;unfold zT6;rw[yQ [] (by omega),bs,yZ hj,zM,bs,yQ [] hj,bs]) (by
     unfold zT6;rw[yQ [] (by omega),bs,vU,zR])with⟨g1,g2⟩|⟨j,_,hj,g1,g2⟩
   ·rw[show((0:Nat):Int)=0 from rfl]at g1
    rw[g1,bs];simp only
    rw[zE (by omega) (by omega),bs,cs];exact .inl ⟨rfl,h2,hl,by grind⟩
   ·rw[show((0:Nat):Int)=0 from rfl]at g1
    rw[g1,bs];exact .inr ⟨rfl,fun g=>g2 (g.2.2 j hj)⟩
  ·rw[kR (by omega),zM]
   exact .inr ⟨rfl,fun g=>hl g.2.1⟩
 ·rw[h1,bs,Kk,zM]
  exact .inr ⟨rfl,fun g=>h2 g.1⟩
theorem zLG{x:SPr}(h6:x.zA.length≤6):
  (zI (zOf x) (1,0)=ik (.inl ())∧Os x.zA∧pr x.zA x.zA.length≤729)∨(zI (zOf x) (1,0)=ik (.inr iq)∧ ¬(Os x.zA∧pr x.zA x.zA.length≤729)):=by
 rcases yBp (body:=zOf x) (fun i=>(pr x.zA i,(i:Int))) x.zA.length 0 (Kn _) (fun i=>Prime (at0 x.zA i)∧pr x.zA (i+1)≤729) (fun _=>iq) (fun i _ hi px=>by
   have hp:∀j,j<i→Prime (at0 x.zA j):=by grind
   have u5:=zHG hp;have cV:pr x.zA i≤729:=by
    cases i with
    |zero=>simp[pr]
    |succ i=>grind
   unfold zOf;rw[yZ hi,zM,yV hi,bs];rcases zBR (at0 x.zA i)with⟨h1,h2⟩|⟨h1,h2⟩
   ·have h3:=h2.pos
    have h4:pr x.zA i*at0 x.zA i≤729*7:=Ls cV h3.2 (by omega) (by omega);have h5:1*1≤pr x.zA i*at0 x.zA i:=Ls u5 (by omega) (by omega) (by omega);simp only
    rw[h1,bs,K0,zR,zE (by omega) (by omega),bs]
    by_cases h7:pr x.zA i*at0 x.zA i> 729
    ·rw[iu h7,zM]
     exact .inr ⟨rfl,by grind[pr]⟩
    ·rw[ir h7,zR,bs,zE (by omega) (by omega),bs,cs]
     exact .inl ⟨rfl,h2,by grind[pr]⟩
   grind) (by
   unfold zOf;simp)with⟨g1,g2⟩|⟨i,_,hi,g1,g2⟩
 ·refine .inl ⟨g1,⟨by omega,by grind⟩,?_⟩
  cases hn:x.zA.length with
  |zero=>simp[pr]
  |succ n=>grind
 ·refine .inr ⟨g1,fun⟨h1,h2⟩=>g2 ⟨h1.2 i hi,?_⟩⟩
  have:=zPh (os:=x.zA) (n:=x.zA.length) h1.2 (x.zA.length-(i+1)) (by omega)
  grind
theorem zKj{os:List Int}(ho:Os os):zVT os=ik (cp os os.length):=by
 have h6:=ho.1;unfold zVT;rw[show(1,0)=(fun i=>(cp os i,(i:Int))) 0 from rfl,zX (body:=zM6 os) (r:=cp os os.length) (fun i=>(cp os i,(i:Int))) os.length (fun i hi=>by
  have hp:=(ho.2 i hi).pos;have hc:=zS3 (os:=os) (i:=i) fun j hj=>ho.2 j (by omega)
  have u5:=zHG (os:=os) (i:=i) fun j hj=>ho.2 j (by omega)
  unfold zM6;rw[yZ hi,zM];simp only[cp]
  by_cases h:cp os i≤729
  ·have h4:cp os i*at0 os i≤729*7:=Ls h hp.2 (by omega) (by omega)
   have h5:1*1≤cp os i*at0 os i:=Ls (by omega) (by omega) (by omega) (by omega);rw[iu h,zM,yV hi,bs,zE (by omega) (by omega),bs,zE (by omega) (by omega),bs,cs,if_pos h]
  ·rw[ir h,zR,zE (by omega) (by omega),bs,cs,if_neg h]) (by
  unfold zM6;simp),bs]
theorem zD3{x:SPr}(hl:x.zA.length≤1048576):IsB (f_v x) (zDK x):=by
 unfold f_v
 by_cases h6:x.zA.length≤6
 ·rw[ir (by omega),zR]
  by_cases hp:x.zU.length=x.zA.length
  ·rw[zAl (by omega),zR]
   by_cases hc:x.zF.length=x.zA.length
   ·rw[zAl (by omega),zR]
    rcases zLG h6 with⟨h1,h2,h3⟩|⟨h1,h2⟩
    ·rw[h1,bs]
     exact(zAe (f:=(zI (zOg x) 0).bind fun r=>match r with|.inl _=>ik io|.inr r=>ik r) x.zA.length (zGq x) rfl (by grind[zNz]) (by unfold zOg;simp)).iff ⟨fun g=>⟨⟨h2,hp,hc,g⟩,h6,h3⟩,fun g=>g.tl⟩
    ·rw[h1,bs]
     exact .inr ⟨rfl,fun g=>h2 ⟨g.os,g.pr⟩⟩
   ·rw[kR (by omega),zM]
    exact .inr ⟨rfl,fun g=>hc g.cl⟩
  ·rw[kR (by omega),zM]
   exact .inr ⟨rfl,fun g=>hp g.pl⟩
 ·rw[iu (by omega),zM]
  exact .inr ⟨rfl,fun g=>h6 g.n6⟩
theorem zD4{x:SPr}(hl:x.zA.length≤1048576):IsB (f_A x) (zDK x):=by
 unfold f_A
 by_cases h6:x.zA.length≤6
 ·rw[ir (by omega),zR]
  by_cases hp:x.zU.length=x.zA.length
  ·rw[zAl (by omega),zR]
   by_cases hc:x.zF.length=x.zA.length
   ·rw[zAl (by omega),zR]
    rcases chk (body:=zT5 x) x.zA.length 0 (Kn _) (fun i=>Prime (at0 x.zA i)) (fun _=>iq) (fun i _ hi _=>by
      refine tV (zHF _) (by omega) ?_;unfold zT5;rw[yZ hi,zM,yV hi,bs]) (by
      unfold zT5;simp)with⟨g1,g2⟩|⟨i,_,hi,g1,g2⟩
    ·rw[show((0:Nat):Int)=0 from rfl]at g1
     have ho:Os x.zA:=⟨by omega,by grind⟩;have hcp:=zS3 (os:=x.zA) (i:=x.zA.length) ho.2;rw[g1,bs];simp only
     rw[zKj ho,bs]
     by_cases h7:cp x.zA x.zA.length> 729
     ·rw[iu h7,zM]
      exact .inr ⟨rfl,fun g=>by have:=g.pr;omega⟩
     ·rw[ir h7,zR]
      exact(zAe (f:=(zI (zOb x) 0).bind fun r=>match r with|.inl _=>ik io|.inr r=>ik r) x.zA.length (zGq x) rfl (by grind[zN0]) (by unfold zOb;simp)).iff ⟨fun g=>⟨⟨ho,hp,hc,g⟩,h6,by omega⟩,fun g=>g.tl⟩
    ·rw[show((0:Nat):Int)=0 from rfl]at g1
     rw[g1,bs];exact .inr ⟨rfl,fun g=>g2 (g.os.2 i hi)⟩
   ·rw[kR (by omega),zM]
    exact .inr ⟨rfl,fun g=>hc g.cl⟩
  ·rw[kR (by omega),zM]
   exact .inr ⟨rfl,fun g=>hp g.pl⟩
 ·rw[iu (by omega),zM]
  exact .inr ⟨rfl,fun g=>h6 g.n6⟩
end Go.Pl

namespace Go.Pl
open Go Go.Ab Go.Wk Go.Pc
def lvl(x:SPr)(i:Nat):Lvl:=⟨at0 x.zA i,(x.zU.getD i []).drop (i+1),(x.zF.getD i []).map (·.drop (i+1))⟩
def suf(x:SPr)(k:Nat):Pcp:=(Ku k (x.zA.length-k)).map (lvl x)
theorem yP(x:SPr)(k:Nat):(suf x k).length=x.zA.length-k:=by simp[suf]
theorem yE{x:SPr}{k:Nat}(h:k<x.zA.length):suf x k=lvl x k::suf x (k+1):=by unfold suf;rw[show x.zA.length-k=(x.zA.length-(k+1))+1 from by omega,Jd3,Jo]
theorem vX{x:SPr}{k:Nat}(h:x.zA.length≤k):suf x k=[]:=by unfold suf;rw[show x.zA.length-k=0 from by omega];rfl
theorem zA1{os v:List Int}{k:Nat}(h:Exp os v k)(hk:k<os.length):v=zeros (k+1)++v.drop (k+1):=by
 have h1:=h.1.1;apply Kv;intro i;rw[Kl];simp only[zeros,Jh,Ke,Lz];split
 ·rename_i hi
  have h2:=h.2 i (by omega);rw[J4 (by omega)];rw[at0,J2,J4 (by omega)]at h2;simpa using h2
 ·rw[show k+1+(i-(k+1))=i from by omega]
theorem zYg{x:SPr}:∀(d k:Nat)(v:List Int),k+d=x.zA.length→v.length=d→(∀i,i<d→0≤at0 v i∧at0 v i≤at0 x.zA (k+i)-1)→V (suf x k) v
 |0,k,v,hk,hv,_=>by rw[vX (by omega)];simpa[V]using hv
 |d+1,k,v,hk,hv,h=>by
  rw[yE (by omega)]
  match v,hv with
  |a::v,hv=>
   have h0:=h 0 (by omega);simp only[at0,Gw,Gv]at h0;refine⟨⟨h0.1,by simp only[lvl,at0];omega⟩,zYg d (k+1) v (by omega) (by simpa using hv) fun i hi=>?_⟩;have:=h (i+1) (by omega);simp only[at0,Jco]at this;rw[show k+1+i=k+(i+1)from by omega];exact this
theorem jT{x:SPr}{v:List Int}{k:Nat}(h:Exp x.zA v k)(hk:k<x.zA.length):V (suf x (k+1)) (v.drop (k+1)):=by
 have h1:=h.1.1;refine zYg (x.zA.length-(k+1)) (k+1) _ (by omega) (by rw[Jz];omega) fun i hi=>?_
 have:=h.1.2 (k+1+i) (by omega);have e:at0 (v.drop (k+1)) i=at0 v (k+1+i):=by simp only[at0,J2,Lz]
 rw[e];exact this
theorem zGr.ok{x:SPr}(h:zGr x):∀(d k:Nat),k+d=x.zA.length→Pc.Ok (suf x k)
 |0,k,hk=>by rw[vX (by omega)];simp only[Pc.Ok]
 |d+1,k,hk=>by
  rw[yE (by omega)];obtain⟨t1,t2,t3⟩:=h.tl k (by omega);refine⟨by simp only[lvl];have:=(h.os.2 k (by omega)).pos;omega,jT t1 (by omega),?_,fun c hc=>?_,zGr.ok h d (k+1) (by omega)⟩
  ·rw[yP];simp only[lvl,Ji];omega
  ·simp only[lvl,Jm]at hc
   obtain⟨u,hu,rfl⟩:=hc;obtain⟨j,hj,rfl⟩:=L7.1 hu;have:=t3 j hj;rw[J2,J4 hj]at this;exact jT this (by omega)
theorem zGr.okAt{x:SPr}(h:zGr x){k:Nat}(hk:k≤x.zA.length):Pc.Ok (suf x k):=h.ok (x.zA.length-k) k (by omega)
theorem Pres.okAt{x:SPr}(h:Pres x){k:Nat}(hk:k≤x.zA.length):Pc.Ok (suf x k):=h.w.okAt hk
theorem yA(n:Nat):(zeros n).length=n:=by simp[zeros]
theorem zGs(k:Nat):zeros (k+1)=zeros k++[0]:=by simp[zeros,Lw]
theorem zDL{k:Nat}{a b:Int}{v:Vec}:(zeros k++a::v).set k b=zeros k++b::v:=by rw[G5 _ _ (by rw[yA];omega),yA,Kf,Lq]
theorem zCI{k:Nat}{a:Int}{v:Vec}:ixO (zeros k++a::v) (k:Int)=ik a:=by rw[vW,J9 (by rw[yA];omega),yA,Kf];rfl
theorem zBS{k:Nat}{v:Vec}:zeros k++0::v=zeros (k+1)++v:=by rw[zGs,Jb];rfl
theorem qS{v:List Int}(h:v.length≤1000000):f_B v=ik v:=by unfold f_B;rw[yO (by simp;omega),bs,Jx]
end Go.Pl

namespace Go.Pl
open Go Go.Ab Go.Wk Go.Pc
theorem zB2{m:Vec→Vec→Vec}:∀(cs:List Vec)(x:Vec)(i:Nat)(acc:Vec),i<cs.length→i<x.length→
  img m (cs.take (i+1)) (x.take (i+1)) acc=iter (at0 x i).toNat (fun v=>m v (cs.getD i [])) (img m (cs.take i) (x.take i) acc)
 | [],_,_,_,h,_=>by simp at h
 |_::_,[],_,_,_,h=>by simp at h
 |c::cs,a::x,0,acc,_,_=>by rfl
 |c::cs,a::x,i+1,acc,h,h'=>by simp only[Lf,img,at0,Jco];exact zB2 cs x i _ (by grind) (by grind)
theorem vZ{α β:Type}{body:α×Int→Option ((α×Int)⊕α)}{S:β→Prop}(e:β→α)(g:β→β)(n:Int)(hn:0≤n)(hS:∀a,S a→S (g a))
  (h:∀a(i:Nat),S a→(i:Int)<n→body (e a,(i:Int))=ik (.inl (e (g a),((i+1:Nat):Int))))(he:∀a,S a→body (e a,n)=ik (.inr (e a))){a:β}(ha:S a):
  zI body (e a,0)=ik (e (iter n.toNat g a)):=by
 have eg:∀k,S (iter k g a):=fun k=>vO (S:=S) hS k ha
 exact zX (body:=body) (r:=e (iter n.toNat g a)) (fun i=>(e (iter i g a),(i:Int))) n.toNat (by grind[vG]) (by grind)
theorem zLH{k i:Nat}{v:Vec}(h:i<v.length):ixO (zeros k++v) ((k+i:Nat):Int)=ik (at0 v i):=by rw[vW,J9 (by grind[yA]),yA,show k+i-k=i from by omega,J4 h,at0,J2,J4 h];rfl
theorem zEj{x:SPr}(ho:Os x.zA):∀(d k:Nat)(v:List Int),k+d=x.zA.length→V (suf x k) v→v.length=d∧ ∀i,i<d→0≤at0 v i∧at0 v i<at0 x.zA (k+i)∧at0 v i≤6
 |0,k,v,hk,hv=>by
  rw[vX (by omega)]at hv;simp only[V]at hv
  grind
 |d+1,k,v,hk,hv=>by
  rw[yE (by omega)]at hv
  match v,hv with
  |a::v,hv=>
   obtain⟨h1,h2⟩:=zEj ho d (k+1) v (by omega) hv.2;refine⟨by simp[h1],fun i hi=>?_⟩;cases i with
   |zero=>
    have h3:=hv.1;simp only[lvl]at h3;have:=(ho.2 k (by omega)).pos
    grind
   |succ i=>
    grind
theorem zEQ{x:SPr}(h:Pres x){k i:Nat}(hk:k<x.zA.length)(hi:i<x.zA.length-(k+1)):
  ∃c,ixO x.zF (k:Int)=ik (x.zF.getD k [])∧ixO (x.zF.getD k []) (i:Int)=ik (zeros (k+1)++c)∧V (suf x (k+1)) c∧(lvl x k).cs.getD i []=c:=by
 obtain⟨t1,t2,t3⟩:=h.tl k hk;have hc:=h.cl
 grind[yQ,jT,zA1,lvl]
def FAt(x:SPr)(k:Nat)(g:SPr→Int→List Int→List Int→Option (List Int)):Prop:=
 ∀a b,V (suf x k) a→V (suf x k) b→g x k (zeros k++a) (zeros k++b)=ik (zeros k++mul (suf x k) a b)
def FIm(x:SPr)(k:Nat)(g:SPr→Int→List Int→Option (List Int)):Prop:=
 ∀v,V (suf x (k+1)) v→g x k (zeros (k+1)++v)=ik (zeros (k+1)++sig (suf x (k+1)) (lvl x k) v)
theorem zN1{x:SPr}(h:Pres x){k:Nat}(hk:k<x.zA.length){g:SPr→Int→List Int→List Int→Option (List Int)}(hg:FAt x (k+1) g):FIm x k (b_g g):=by
 intro v hv;have h6:=h.os.1;have ok:=h.okAt (k:=k+1) (by omega);obtain⟨pe,aW⟩:=zEj h.os (x.zA.length-(k+1)) (k+1) v (by omega) hv;have gf:=yP x (k+1);have gE:(lvl x k).cs.length=x.zA.length-(k+1):=by have:=h.okAt (k:=k) (by omega);rw[yE hk]at this;rw[this.2.2.1,gf]
 have hJ:∀c∈(lvl x k).cs,V (suf x (k+1)) c:=by have:=h.okAt (k:=k) (by omega);rw[yE hk]at this;exact this.2.2.2.1
 have hA:∀i,V (suf x (k+1)) (img (mul (suf x (k+1))) ((lvl x k).cs.take i) (v.take i) (zeros (suf x (k+1)).length)):=fun i=>
  qV (xG ok) _ _ (by grind) (wP ok)
 unfold b_g;rw[xL (by omega),bs,zE (by omega) (by omega),bs,cs];have hz:J1 x.zA.length (0:Int)=zeros (k+1)++zeros (suf x (k+1)).length:=by rw[gf];simp only[zeros,Jl];congr 1;omega
 rw[hz];have:=zX (body:=zT8 g x k (zeros (k+1)++v)) (r:=zeros (k+1)++sig (suf x (k+1)) (lvl x k) v)
  (fun i=>(zeros (k+1)++img (mul (suf x (k+1))) ((lvl x k).cs.take i) (v.take i) (zeros (suf x (k+1)).length),((k+1+i:Nat):Int))) (x.zA.length-(k+1)) (fun i hi=>by
  have hr:=aW i hi;obtain⟨c,c1,c2,c3,c4⟩:=zEQ h hk hi;unfold zT8;rw[iu (by omega),zM];rw[vZ (S:=V (suf x (k+1))) (body:=zT7 g x k (zeros (k+1)++v) (zeros (k+1)++img (mul (suf x (k+1))) ((lvl x k).cs.take i) (v.take i) (zeros (suf x (k+1)).length),((k+1+i:Nat):Int))) (fun u=>zeros (k+1)++u) (fun u=>mul (suf x (k+1)) u c) (at0 v i) hr.1 (by grind[xG]) (fun u q hu hq=>by
   unfold zT7;simp only
   rw[zLH (by omega),bs,iu hq,zM,zE (by omega) (by omega),bs,c1,bs,zE (by omega) (by omega),bs,zE (by omega) (by omega),bs,
    show(((k+1+i:Nat):Int)-(k:Int)-1)=(i:Int)from by omega,c2,bs,cs,hg u c hu c3,bs,zE (by omega) (by omega),bs,cs]) (fun u hu=>by
   unfold zT7;simp only
   rw[zLH (by omega),bs,ir (by omega),zR]) (hA i),bs,zE (by omega) (by omega),bs,cs]
  rw[zB2 _ _ _ _ (by omega) (by omega),c4];rfl) (by
  unfold zT8;rw[ir (by omega),zR,Js (by omega),Js (by omega)];rfl)
 grind[img]
theorem zVw{x:SPr}(h:Pres x){k:Nat}(hk:k<x.zA.length){g:SPr→Int→List Int→List Int→Option (List Int)}{gi:SPr→Int→List Int→Option (List Int)}(hg:FAt x (k+1) g)(hi:FIm x k gi):FAt x k (b_a gi g):=by
 intro a b ha hb;have h6:=h.os.1;have hp:=(h.os.2 k hk).pos;have ok:=h.okAt (k:=k+1) (by omega);have ok0:=h.okAt (k:=k) (by omega);obtain⟨bz,har⟩:=zEj h.os (x.zA.length-k) k a (by omega) ha;obtain⟨cK,hbr⟩:=zEj h.os (x.zA.length-k) k b (by omega) hb;rw[yE hk]at ha hb ok0;obtain⟨a0,a,rfl⟩:∃a0 a',a=a0::a':=by cases a with|nil=>grind|cons p q=>simp
 obtain⟨b0,b,rfl⟩:∃a0 a',b=a0::a':=by cases b with|nil=>grind|cons p q=>simp
 obtain⟨⟨a1,a2⟩,ha⟩:=ha;obtain⟨⟨b1,b2⟩,hb⟩:=hb;have pU:(lvl x k).o=at0 x.zA k:=rfl;rw[pU]at a2 b2;unfold b_a;rw[ir (by omega),zR,qS (by grind[yA]),bs,qS (by simp[yA]at cK ⊢;omega),bs,zCI,bs,zCI,bs,Ja,zDL,zDL,zBS,zBS];have er:∀u,V (suf x (k+1)) u→V (suf x (k+1)) (sig (suf x (k+1)) (lvl x k) u):=by grind[zCE]
 have eg:V (suf x (k+1)) (iter b0.toNat (sig (suf x (k+1)) (lvl x k)) a):=vO er _ ha;rw[vZ (S:=V (suf x (k+1))) (fun u=>zeros (k+1)++u) (sig (suf x (k+1)) (lvl x k)) b0 b1 er (fun u q hu hq=>by
   unfold zVU;simp only
   rw[zCI,bs,iu hq,zM,hi u hu,bs,zE (by omega) (by omega),bs,cs]) (fun u hu=>by
   unfold zVU;simp only
   rw[zCI,bs,ir (by omega),zR]) ha,bs,zE (by omega) (by omega),bs,cs,hg _ _ eg hb,bs,bs,bs,zE (by omega) (by omega),bs,yV hk,bs]
 have hm:=xG ok eg hb;have ar:=(zEj h.os (x.zA.length-(k+1)) (k+1) _ (by omega) hm).1;have own:∀u,V (suf x (k+1)) u→f_B (zeros (k+1)++u)=ik (zeros (k+1)++u):=fun u hu=>qS (by
  have:=(zEj h.os (x.zA.length-(k+1)) (k+1) _ (by omega) hu).1
  grind[yA])
 rw[yE hk,yY,pU]
 by_cases hge:a0+b0≥at0 x.zA k
 ·have t1:=(h.tl k hk).1
  have hw:=jT t1 hk;have hwl:=h.pl;rw[iu hge,zM,if_pos hge,bs,zE (by omega) (by omega),bs,bs,yQ [] (by omega),bs,zA1 t1 hk,hg _ _ hw hm,bs,own _ (xG ok hw hm),bs];rw[←zBS,zCI,bs,zDL];rfl
 ·rw[ir hge,zR,if_neg hge,own _ hm,bs,←zBS,zCI,bs,zDL]
theorem zFJ{x:SPr}(h:Pres x):∀(d k:Nat),k+d=x.zA.length→(∀m,2*d+1≤m→FAt x k (zOd m))∧(1≤d→ ∀m,2*d≤m→FIm x k (zOc m))
 |0,k,hk=>by
  refine⟨fun m hm a b ha hb=>?_,fun h=>by omega⟩;have h6:=h.os.1;obtain⟨m,rfl⟩:∃m',m=m'+1:=⟨m-1,by omega⟩;show b_a _ _ x k _ _=_;unfold b_a;rw[iu (by omega),zM,xL (by omega),bs,vX (by omega)]
  grind[mul,zeros]
 |d+1,k,hk=>by
  obtain⟨h1,h2⟩:=zFJ h d (k+1) (by omega);have hI:∀m,2*(d+1)≤m→FIm x k (zOc m):=fun m hm=>by obtain⟨m,rfl⟩:∃m',m=m'+1:=⟨m-1,by omega⟩;exact zN1 h (by omega) (h1 m (by omega))
  refine⟨fun m hm=>?_,fun _=>hI⟩;obtain⟨m,rfl⟩:∃m',m=m'+1:=⟨m-1,by omega⟩;exact zVw h (by omega) (h1 m (by omega)) (hI m (by omega))
theorem zPi{x:SPr}(h:Pres x){k:Nat}(hk:k≤x.zA.length):FAt x k f_a:=fun a b ha hb=>
 zBy (2*(x.zA.length-k)+1) fun m hm=>(zFJ h (x.zA.length-k) k (by omega)).1 m hm a b ha hb
theorem zN2{x:SPr}(h:Pres x){k:Nat}(hk:k<x.zA.length):FIm x k f_g:=fun v hv=>
 zBy (2*(x.zA.length-k)) fun m hm=>(zFJ h (x.zA.length-k) k (by omega)).2 (by omega) m hm v hv
end Go.Pl

namespace Go.Pl
open Go Go.Ab Go.Wk Go.Pc
theorem zCJ:∀{P Q:Pcp},Q<:+P→wR P→wR Q
 | [],Q,h,_=>by grind
 |l::P,Q,h,hc=>by
  rcases Jaj.1 h with rfl|h
  ·exact hc
  ·exact zCJ h hc.1
theorem zJp:∀{P Q:Pcp},Q<:+P→Pc.Ok P→Pc.Ok Q
 | [],Q,h,_=>by grind
 |l::P,Q,h,hc=>by
  rcases Jaj.1 h with rfl|h
  ·exact hc
  ·exact zJp h hc.2.2.2.2
theorem zN3(x:SPr)(k:Nat):suf x (k+1)<:+suf x k:=by grind[yE,vX]
theorem zER{x:SPr}{k:Nat}(h:wR (suf x k)):∀i,wR (suf x (k+i))
 |0=>h
 |i+1=>zCJ (zN3 x (k+i)) (zER h i)
theorem zHH{x:SPr}(h:Pres x){k:Nat}(hk:k≤x.zA.length)(hc:wR (suf x k)):Grp (V (suf x k)) (mul (suf x k)) (zeros (suf x k).length):=zCF _ (h.okAt hk) hc
theorem zGB{x:SPr}:∀(i k:Nat)(v:Vec),k+i≤x.zA.length→V (suf x k) v→ ∃q v',v=q++v'∧q.length=i∧V (suf x (k+i)) v'∧
  ∀a b,V (suf x (k+i)) a→V (suf x (k+i)) b→mul (suf x k) (q++a) (zeros i++b)=q++mul (suf x (k+i)) a b
 |0,k,v,_,hv=>⟨[],v,rfl,rfl,hv,fun a b _ _=>rfl⟩
 |i+1,k,v,hk,hv=>by
  rw[yE (by omega)]at hv
  match v,hv with
  |e::v,hv=>
   obtain⟨q,v',h1,h2,h3,h4⟩:=zGB i (k+1) v (by omega) hv.2;rw[show k+1+i=k+(i+1)from by omega]at h3 h4;refine⟨e::q,v',by grind,by simp[h2],h3,fun a b ha hb=>?_⟩;have he:=hv.1;rw[yE (by omega)];show mul (lvl x k::suf x (k+1)) (e::(q++a)) (0::(zeros i++b))=_;rw[yY,H2,if_neg (by omega)]
   grind[iter]
def FTV(x:SPr)(k:Nat)(g:SPr→List Int→List Int→Option (List Int)):Prop:=
 ∀p v u,p.length=k→V (suf x k) v→V (suf x k) u→g x (p++v) (zeros k++u)=ik (p++mul (suf x k) v u)
def FTG(x:SPr)(k:Nat)(g:SPr→List Int→Int→Option (List Int)):Prop:=
 ∀p v,p.length=k→V (suf x k) v→g x (p++v) (k:Int)=ik (p++mul (suf x k) v (1::zeros (x.zA.length-(k+1))))
theorem zJq{x:SPr}(h:Pres x){k:Nat}(hk:k<x.zA.length){g:SPr→List Int→List Int→Option (List Int)}(hg:FTV x (k+1) g){t:Vec}(ht:V (suf x (k+1)) t)
  {body1:List Int×Int→Int→List Int×Int→Option ((List Int×Int)⊕List Int)}{body2:List Int×Int→Option ((List Int×Int)⊕List Int)}
  (pO:∀s,body2 s=cond (decide (s.2<(t.length:Int))) ((ixO t s.2).bind fun v17=>(zI (body1 s v17) (s.1,0)).bind fun r=>(rng (s.2+1)).bind fun v=>ik (.inl (r,v))) (ik (.inr s.1)))
  (ib:∀s v q,body1 s v q=cond (decide (q.2<v)) ((ixO x.zF (k:Int)).bind fun cl=>(ixO cl s.2).bind fun c=>(g x q.1 c).bind fun r=>(rng (q.2+1)).bind fun w=>ik (.inl (r,w))) (ik (.inr q.1)))
  {p:Vec}(hp:p.length=k+1){u:Vec}(hu:V (suf x (k+1)) u):zI body2 (p++u,0)=ik (p++img (mul (suf x (k+1))) (lvl x k).cs t u):=by
 have h6:=h.os.1;have ok:=h.okAt (k:=k+1) (by omega);have ok0:=h.okAt (k:=k) (by omega);rw[yE hk]at ok0;obtain⟨cC,tp⟩:=zEj h.os (x.zA.length-(k+1)) (k+1) t (by omega) ht;have gE:(lvl x k).cs.length=x.zA.length-(k+1):=by rw[ok0.2.2.1,yP]
 have hA:∀i,V (suf x (k+1)) (img (mul (suf x (k+1))) ((lvl x k).cs.take i) (t.take i) u):=fun i=>
  qV (xG ok) _ _ (fun c hc=>ok0.2.2.2.1 c (by grind)) hu
 have:=zX (body:=body2) (r:=p++img (mul (suf x (k+1))) (lvl x k).cs t u) (fun i=>(p++img (mul (suf x (k+1))) ((lvl x k).cs.take i) (t.take i) u,(i:Int))) t.length (fun i hi=>by
  have hr:=tp i (by omega);obtain⟨c,c1,c2,c3,c4⟩:=zEQ h hk (i:=i) (by omega);rw[pO];simp only
  rw[yZ hi,zM,yV hi,bs];rw[vZ (S:=V (suf x (k+1))) (fun u=>p++u) (fun u=>mul (suf x (k+1)) u c) (at0 t i) hr.1 (by grind[xG]) (fun u q hu hq=>by
   rw[ib];simp only
   rw[iu hq,zM,c1,bs,c2,bs,hg p u c hp hu c3,bs,zE (by omega) (by omega),bs,cs]) (by grind) (hA i),bs,zE (by omega) (by omega),bs,cs]
  rw[zB2 _ _ _ _ (by omega) (by omega),c4]) (by
  grind)
 grind[img]
theorem zWU{p v:Vec}{a:Int}{k:Nat}(hp:p.length=k):ixO (p++a::v) (k:Int)=ik a:=by rw[vW,J9 (by omega),hp,Kf];rfl
theorem p_set{p v:Vec}{a b:Int}{k:Nat}(hp:p.length=k):(p++a::v).set k b=p++b::v:=by simp_all
theorem zLI{x:SPr}(h:Pres x){k:Nat}(hk:k<x.zA.length)(hc:wR (suf x (k+1))){g:SPr→List Int→List Int→Option (List Int)}(hg:FTV x (k+1) g):FTG x k (b_b g):=by
 intro p v hp hv;have h6:=h.os.1;have G:=zHH h (k:=k+1) (by omega) hc;have ok:=h.okAt (k:=k+1) (by omega);have ok0:=h.okAt (k:=k) (by omega);obtain⟨pe,aW⟩:=zEj h.os (x.zA.length-k) k v (by omega) hv;rw[yE hk]at hv ok0;obtain⟨e,t,rfl⟩:∃a0 a',v=a0::a':=by cases v with|nil=>grind|cons p q=>simp
 obtain⟨⟨e1,e2⟩,ht⟩:=hv;have pU:(lvl x k).o=at0 x.zA k:=rfl;rw[pU]at e2;have ck:=(h.os.2 k hk).pos;have cC:=(zEj h.os (x.zA.length-(k+1)) (k+1) t (by omega) ht).1;have pL:=yP x (k+1);unfold b_b;have hs:yB (p++e::t) ((k+1:Nat):Int) ((p++e::t).length:Int)=ik t:=by
  unfold yB;rw[if_pos (by grind)];have e3:(p++e::t).drop (k+1)=t:=by rw[List.drop_append,Jax (by omega),hp,show k+1-k=1 from by omega];rfl
  grind[Ja]
 have bv:f_J t=ik t:=by grind[f_J,yO]
 rw[zE (by omega) (by omega),bs,cs,hs,bs,bv,bs];have hz:=zX (body:=zTR k t) (r:=(p++[e])++zeros t.length) (fun i=>((p++[e])++(zeros i++t.drop i),(i:Int))) t.length (fun i hi=>by
  have hl:((p++[e])++zeros i).length=k+1+i:=by grind[yA]
  unfold zTR;simp only
  rw[yZ hi,zM,zE (by omega) (by omega),bs,zE (by omega) (by omega),bs,show(k:Int)+1+(i:Int)=((k+1+i:Nat):Int)from by omega,vW,←Jb,J9 (by omega),hl,Kf,
   H1 hi,Qp,bs,zE (by omega) (by omega),bs,cs,Ja,G5 _ _ (by omega),hl,Kf,Lq,zGs]
  simp) (by
  unfold zTR;simp)
 simp only[zeros,Hm,Gf,Jx,Jb,Lr]at hz;rw[show((0:Nat):Int)=0 from rfl]at hz;rw[hz,bs,Ja,zWU hp,bs,zE (by omega) (by omega),bs,bs,p_set hp,zWU hp,bs,yV hk,bs];have eM:J1 t.length (0:Int)=zeros (suf x (k+1)).length:=by rw[pL,cC];rfl
 rw[yE hk,yY,pU];have gA:mul (suf x (k+1)) (iter (1:Int).toNat (sig (suf x (k+1)) (lvl x k)) t) (zeros (x.zA.length-(k+1)))=sig (suf x (k+1)) (lvl x k) t:=by rw[←pL];show mul _ (sig (suf x (k+1)) (lvl x k) t) _=_;exact G.oner (zCE ok0 ht)
 rw[gA,eM]
 by_cases heq:e+1=at0 x.zA k
 ·have t1:=(h.tl k hk).1
  have hw:=jT t1 hk;have hwl:=h.pl;have d5:(p++[(0:Int)]).length=k+1:=by simp[hp]
  rw[show(e+1==at0 x.zA k)=io from by grind,zM,if_pos (by omega),bs,yQ [] (by omega),bs,p_set hp];have dh:p++0::zeros (suf x (k+1)).length=(p++[0])++zeros (suf x (k+1)).length:=by simp
  rw[dh,zA1 t1 hk,hg _ _ _ d5 G.ein hw,bs,G.onel hw];rw[zJq (body1:=zYL g x k) (body2:=zYM g x k t) h hk hg ht (fun _=>rfl) (fun _ _ _=>rfl) d5 hw,bs];rw[zEP G.toMon _ _ ok0.2.2.2.1 hw,show e+1-at0 x.zA k=0 from by omega];simp only[Jb,Lr];rfl
 ·have d5:(p++[e+1]).length=k+1:=by simp[hp]
  rw[show(e+1==at0 x.zA k)=iq from by grind,zR,if_neg (by omega)];have dh:p++(e+1)::zeros (suf x (k+1)).length=(p++[e+1])++zeros (suf x (k+1)).length:=by simp
  rw[dh,zJq (body1:=zYN g x k) (body2:=zYO g x k t) h hk hg ht (fun _=>rfl) (fun _ _ _=>rfl) d5 G.ein,bs];simp only[Jb,Lr];rfl
theorem zAw{n i:Nat}(h:i<n):xN n i=zeros i++1::zeros (n-(i+1)):=by
 have:zeros n=zeros i++0::zeros (n-(i+1)):=by
  simp only[zeros];rw[←Jq,Jl]
  grind
 grind[xN,zDL]
theorem zES(n:Nat):(wL n).length=n:=by simp[wL]
theorem zHI{n i:Nat}(h:i<n):(wL n).getD i []=xN n i:=by simp[wL,J2,h]
theorem zS4{x:SPr}(h:Pres x){k:Nat}(hk:k≤x.zA.length)(hc:wR (suf x k)){g:SPr→List Int→Int→Option (List Int)}(hg:∀j,k≤j→j<x.zA.length→FTG x j g):FTV x k (b_c g):=by
 intro p v u hp hv hu;have h6:=h.os.1;have G:=zHH h hk hc;have ok:=h.okAt hk;obtain⟨eZ,dt⟩:=zEj h.os (x.zA.length-k) k u (by omega) hu;have pL:=yP x k;have hV1:∀j,j≤x.zA.length→j<x.zA.length→V (suf x j) (1::zeros (x.zA.length-(j+1))):=fun j hj bi=>by rw[yE bi];have:=(h.os.2 j bi).pos;refine⟨⟨by omega,by show 1<at0 x.zA j;omega⟩,?_⟩;rw[←yP];exact wP (h.okAt (by omega))
 have hUn:∀i,i<x.zA.length-k→V (suf x k) (xN (x.zA.length-k) i):=by grind[zCD]
 have hUs:∀c∈wL (x.zA.length-k),V (suf x k) c:=fun c hc=>by
  simp only[wL,Jm,Kr]at hc
  grind
 have hA:∀i,V (suf x k) (img (mul (suf x k)) ((wL (x.zA.length-k)).take i) (u.take i) v):=fun i=>
  qV (xG ok) _ _ (by grind) hv
 have uw:∀i w,i<x.zA.length-k→V (suf x k) w→g x (p++w) ((k+i:Nat):Int)=ik (p++mul (suf x k) w (xN (x.zA.length-k) i)):=fun i w hi hw=>by obtain⟨q,w',h1,h2,h3,h4⟩:=zGB i k w (by omega) hw;have h5:=hg (k+i) (by omega) (by omega) (p++q) w' (by grind) h3;rw[Jb,←h1]at h5;rw[h5,zAw hi,h1,show x.zA.length-k-(i+1)=x.zA.length-(k+i+1)from by omega,h4 w' _ h3 (hV1 (k+i) (by omega) (by omega)),Jb]
 unfold b_c;have tm:(zeros k++u).length=x.zA.length:=by grind[yA]
 have:=zX (body:=zTT g x (zeros k++u)) (r:=p++mul (suf x k) v u) (fun j=>(p++img (mul (suf x k)) ((wL (x.zA.length-k)).take (j-k)) (u.take (j-k)) v,(j:Int))) x.zA.length (fun j hj=>by
  unfold zTT;simp only
  rw[tm,yZ hj,zM];rcases Jk j k with hjk|hjk
  ·have e0:ixO (zeros k++u) (j:Int)=ik 0:=by
    rw[vW,Jv (by grind)]
    grind[zeros]
   rw[e0,bs,show j-k=0 from by omega,show j+1-k=0 from by omega];rw[xH];unfold zTS;simp only
   rw[show decide ((0:Int)<0)=iq from rfl,zR];simp only
   rw[bs,zE (by omega) (by omega),bs,cs]
  ·obtain⟨i,rfl⟩:∃i,j=k+i:=⟨j-k,by omega⟩
   have hi:i<x.zA.length-k:=by omega
   have hr:=dt i hi;rw[zLH (by omega),bs,show k+i-k=i from by omega,show k+i+1-k=i+1 from by omega];rw[vZ (S:=V (suf x k)) (fun w=>p++w) (fun w=>mul (suf x k) w (xN (x.zA.length-k) i)) (at0 u i) hr.1 (by grind[xG]) (fun w q hw hq=>by
    unfold zTS;simp only
    rw[iu hq,zM,uw i w hi hw,bs,zE (by omega) (by omega),bs,cs]) (fun w hw=>by
    unfold zTS;simp) (hA i),bs,zE (by omega) (by omega),bs,cs]
   rw[zB2 _ _ _ _ (by grind[zES]) (by omega),zHI hi]) (by
  unfold zTT;simp only
  rw[tm,vU,zR,Js (by grind[zES]),Js (by omega),zEP G.toMon _ _ hUs hv];have hn:=normal (suf x k) ok (fun Q hQ=>(zCF Q (zJp hQ ok) (zCJ hQ hc)).toMon) u hu
  grind)
 simp only[Jcl,Ka,img]at this
 grind
theorem zFK{x:SPr}(h:Pres x):∀(d k:Nat),k+d=x.zA.length→wR (suf x k)→(∀m,2*d+1≤m→FTV x k (zQH m))
 |d,k,hk,hc=>fun m hm=>by
  obtain⟨m,rfl⟩:∃m',m=m'+1:=⟨m-1,by omega⟩;refine zS4 h (by omega) hc fun j hj bR=>?_
  obtain⟨m,rfl⟩:∃m',m=m'+1:=⟨m-1,by omega⟩;have dc:wR (suf x (j+1)):=by
   have:=zER hc (j+1-k)
   grind
  exact zLI h bR dc (zFK h (x.zA.length-(j+1)) (j+1) (by omega) dc m (by omega))
 termination_by d=>d
 decreasing_by omega
theorem zVx{x:SPr}(h:Pres x){k:Nat}(hk:k≤x.zA.length)(hc:wR (suf x k)):FTV x k f_c:=fun p v u hp hv hu=>
 zBy (2*(x.zA.length-k)+1) fun m hm=>zFK h (x.zA.length-k) k (by omega) hc m hm p v u hp hv hu
theorem zVy{x:SPr}(h:Pres x){k:Nat}(hk:k<x.zA.length)(hc:wR (suf x (k+1))):FTG x k f_b:=fun p v hp hv=>
 zBy (2*(x.zA.length-k)) fun m hm=>by obtain⟨m,rfl⟩:∃m',m=m'+1:=⟨m-1,by omega⟩;exact zLI h hk hc (zFK h (x.zA.length-(k+1)) (k+1) (by omega) hc m (by omega)) p v hp hv
end Go.Pl

namespace Go.Pl
open Go Go.Ab Go.Wk Go.Pc
abbrev fv(k:Nat)(v:Vec):Vec:=zeros k++v
section
variable {x:SPr} (h:Pres x) {k:Nat} (hk:k≤x.zA.length) (hc:wR (suf x k))
 include h hk
theorem vC{v:Vec}(hv:V (suf x k) v):v.length=x.zA.length-k:=(zEj h.os (x.zA.length-k) k v (by omega) hv).1
theorem zCK{v:Vec}(hv:V (suf x k) v):(fv k v).length=x.zA.length:=by rw[J5,yA,vC h hk hv];omega
theorem zPj:J1 x.zA.length (0:Int)=fv k (zeros (suf x k).length):=by
 have _:=h;rw[yP];simp only[fv,zeros,Jl];congr 1;omega
 include hc
theorem zN4{i:Nat}(hi:i<x.zA.length-k):V (suf x k) (xN (x.zA.length-k) i):=by
 have _:=hc;have:=yP x k;rw[←this]at hi ⊢
 exact zCD (h.okAt hk) hi
theorem zLJ{p:Vec}(hp:p.length=k){i:Nat}(hi:i<x.zA.length-k){w:Vec}(hw:V (suf x k) w):f_b x (p++w) ((k+i:Nat):Int)=ik (p++mul (suf x k) w (xN (x.zA.length-k) i)):=by
 obtain⟨q,w',h1,h2,h3,h4⟩:=zGB i k w (by omega) hw;have dc:wR (suf x (k+i+1)):=zER hc (i+1);have h5:=zVy h (k:=k+i) (by omega) dc (p++q) w' (by simp[hp,h2]) h3;have h7:V (suf x (k+i)) (1::zeros (x.zA.length-(k+i+1))):=by
  have bi:k+i<x.zA.length:=by omega
  rw[yE bi];have:=(h.os.2 (k+i) bi).pos;refine⟨⟨by omega,by show 1<at0 x.zA (k+i);omega⟩,?_⟩;rw[←yP];exact wP (h.okAt (by omega))
 rw[Jb,←h1]at h5;rw[h5,zAw hi,h1,show x.zA.length-k-(i+1)=x.zA.length-(k+i+1)from by omega,h4 w' _ h3 h7,Jb]
theorem zHJ{a b:Vec}(ha:V (suf x k) a)(hb:V (suf x k) b):f_c x (fv k a) (fv k b)=ik (fv k (mul (suf x k) a b)):=
 zVx h hk hc (zeros k) a b (yA k) ha hb
theorem zLK{a:Vec}(ha:V (suf x k) a):f_J (fv k a)=ik (fv k a):=by have _:=hc;have:=zCK h hk ha;have h6:=h.os.1;unfold f_J;rw[yO (by simp only[Jp];omega),bs,Jx]
theorem zDM{a b:Vec}(ha:V (suf x k) a)(hb:V (suf x k) b):zTY x (fv k a) (fv k b)=ik (fv k (mul (suf x k) a b)):=by unfold zTY;rw[zLK h hk hc ha,bs,zHJ h hk hc ha hb,bs]
theorem zN5{c:Vec}(pb:V (suf x k) c){e:Int}(e0:0≤e)(e1:e≤1000):zWc x (fv k c) e=ik (fv k (pw (mul (suf x k)) (zeros (suf x k).length) c e.toNat)):=by
 have h6:=h.os.1;have ok:=h.okAt hk;unfold zWc;rw[zCK h hk pb,xL (by omega),bs,zPj h hk];rw[vZ (S:=V (suf x k)) (body:=zM9 x (fv k c) e) (fun u=>fv k u) (fun u=>mul (suf x k) u c) e e0 (fun u hu=>xG ok hu pb) (fun u i hu hi=>by
  unfold zM9;simp only
  rw[iu hi,zM,zHJ h hk hc hu pb,bs,zE (by omega) (by omega),bs,cs]) (fun u hu=>by
  unfold zM9;simp only
  rw[ir (by omega),zR]) (wP ok),bs]
 rfl
theorem zLL{v:Vec}(hv:V (suf x k) v):∃w,V (suf x k) w∧mul (suf x k) v w=zeros (suf x k).length∧f_M x (fv k v)=ik (fv k w):=by
 have h6:=h.os.1;have ok:=h.okAt hk;have G:=zHH h hk hc;have pe:=zCK h hk hv;have pL:=yP x k;unfold f_M;rw[zLK h hk hc hv,bs,pe,xL (by omega),bs,zPj h hk]
 let I:Nat→(List Int×List Int×Int)→Prop:=fun j s=> ∃A w,s=(fv k A,fv k w,(j:Int))∧V (suf x k) A∧V (suf x k) w∧mul (suf x k) v w=A∧ ∃A',A=zeros (j-k)++A'
 have key:=tL (body:=zTX x (fv k v)) (Q:=fun r=> ∃w,V (suf x k) w∧mul (suf x k) v w=zeros (suf x k).length∧r=fv k w) I x.zA.length (fun j s hj hI=>by
  obtain⟨A,w,rfl,hA,hw,hm,A',hA'⟩:=hI;left;unfold zTX;simp only
  rw[pe,yZ hj,zM];rcases Jk j k with hjk|hjk
  ·have e0:ixO (fv k A) (j:Int)=ik 0:=by
    rw[vW,Jv (by rw[yA];exact hjk)];simp[zeros,hjk]
   rw[xH];unfold zQI;simp only
   rw[e0,bs,show((0:Int) != 0)=iq from rfl,zR];simp only
   rw[bs,zE (by omega) (by omega),bs,cs];exact⟨_,rfl,A,w,rfl,hA,hw,hm,A,by rw[show j+1-k=0 from by omega];rfl⟩
  ·obtain⟨i,rfl⟩:∃i,j=k+i:=⟨j-k,by omega⟩
   have hi:i<x.zA.length-k:=by omega
   rw[show k+i-k=i from by omega]at hA';have fT:=vC h hk hA;obtain⟨a0,A',rfl⟩:∃p q,A'=p::q:=by
    cases A' with
    |nil=>rw[hA',J5,yA,Jp]at fT;omega
    |cons p q=>exact⟨p,q,rfl⟩
   have ck:=(h.os.2 (k+i) hj).pos;have inner:=tL (body:=zQI x (fv k A,fv k w,((k+i:Nat):Int))) (s:=(fv k A,fv k w))
    (Q:=fun r=> ∃B u,r=(fv k B,fv k u)∧V (suf x k) B∧V (suf x k) u∧mul (suf x k) v u=B∧ ∃B',B=zeros (i+1)++B')
    (fun q s=> ∃B u b B',s=(fv k B,fv k u)∧V (suf x k) B∧V (suf x k) u∧mul (suf x k) v u=B∧B=zeros i++b::B'∧(b=0∨b=a0+q)) 10 (fun q s hq hs=>by
     obtain⟨B,u,b,B',rfl,hB,hu,ba,hB',hb⟩:=hs;have hz:ixO (fv k B) ((k+i:Nat):Int)=ik b:=by rw[fv,zLH (by rw[vC h hk hB];exact hi),hB',at0,J2,J9 (by rw[yA];omega),yA,Kf];rfl
     unfold zQI;simp only
     rw[hz,bs]
     by_cases aQ:b=0
     ·subst aQ
      right;rw[show((0:Int) != 0)=iq from rfl,zR];exact⟨_,rfl,B,u,rfl,hB,hu,ba,B',by rw[hB',zBS]⟩
     ·left
      have hbq:b=a0+q:=by rcases hb with hb|hb;exact absurd hb aQ;exact hb
      rw[show(b != 0)=io from by simpa using aQ,zM,zLJ h hk hc (yA k) hi hB,bs,zLJ h hk hc (yA k) hi hu,bs];have hU:=zN4 h hk hc hi;obtain⟨q',v',h1,h2,h3,h4⟩:=zGB i k B (by omega) hB;have hqv:q'=zeros i∧v'=b::B':=by rw[hB']at h1;have:=List.append_inj h1 (by rw[yA,h2]);exact⟨this.1.symm,this.2.symm⟩
      obtain⟨rfl,rfl⟩:=hqv;have h7:V (suf x (k+i)) (1::zeros (x.zA.length-(k+i+1))):=by rw[yE hj];refine⟨⟨by omega,by show 1<at0 x.zA (k+i);omega⟩,?_⟩;rw[←yP];exact wP (h.okAt (by omega))
      have h8:=h4 (b::B') _ h3 h7;rw[show x.zA.length-(k+i+1)=x.zA.length-k-(i+1)from by omega,←zAw hi,←h1,yE hj,yY]at h8;refine⟨_,rfl,mul (suf x k) B (xN (x.zA.length-k) i),mul (suf x k) u (xN (x.zA.length-k) i),?_⟩;have pU:(lvl x (k+i)).o=at0 x.zA (k+i):=rfl;rw[pU]at h8
      by_cases hge:b+1≥at0 x.zA (k+i)
      ·rw[if_pos hge]at h8
       refine⟨_,_,rfl,xG ok hB hU,xG ok hu hU,?_,h8,?_⟩
       ·rw[←G.assoc hv hu hU,ba]
       ·left
        rw[yE hj]at h3;have:=h3.1.2;rw[pU]at this;omega
      ·rw[if_neg hge]at h8
       refine⟨_,_,rfl,xG ok hB hU,xG ok hu hU,?_,h8,?_⟩
       ·rw[←G.assoc hv hu hU,ba]
       ·right;omega) (fun s hs=>by
     obtain⟨B,u,b,B',rfl,hB,hu,ba,hB',hb⟩:=hs;have hz:ixO (fv k B) ((k+i:Nat):Int)=ik b:=by rw[fv,zLH (by rw[vC h hk hB];exact hi),hB',at0,J2,J9 (by rw[yA];omega),yA,Kf];rfl
     have hbr:=(zEj h.os (x.zA.length-k) k B (by omega) hB).2 i hi;have ha:=(zEj h.os (x.zA.length-k) k A (by omega) hA).2 i hi;have e1:at0 B i=b:=by rw[hB',at0,J2,J9 (by rw[yA];omega),yA,Kf];rfl
     have e2:at0 A i=a0:=by rw[hA',at0,J2,J9 (by rw[yA];omega),yA,Kf];rfl
     have aQ:b=0:=by omega
     subst aQ;unfold zQI;simp only
     rw[hz,bs,show((0:Int) != 0)=iq from rfl,zR];exact⟨_,rfl,B,u,rfl,hB,hu,ba,B',by rw[hB',zBS]⟩) ⟨A,w,a0,A',rfl,hA,hw,hm,hA',.inr (by omega)⟩
   obtain⟨r,r1,B,u,rfl,hB,hu,ba,B',hB'⟩:=inner;rw[r1,bs,zE (by omega) (by omega),bs,cs];exact⟨_,rfl,B,u,rfl,hB,hu,ba,B',by rw[hB',show k+i+1-k=i+1 from by omega]⟩) (fun s hI=>by
  obtain⟨A,w,rfl,hA,hw,hm,A',hA'⟩:=hI;unfold zTX;simp only
  rw[pe,vU,zR];refine⟨_,rfl,w,hw,?_,rfl⟩;have fT:=vC h hk hA;rw[hA',J5,yA]at fT;rw[hm,hA',Lm (l:=A') (by omega),Jd,pL]) (s:=(fv k v,fv k (zeros (suf x k).length),0))
  ⟨v,_,rfl,hv,wP ok,G.oner hv,v,by rw[Jcl];rfl⟩
 obtain⟨r,r1,w,hw,hm,rfl⟩:=key;rw[r1,bs];exact⟨w,hw,hm,rfl⟩
theorem zCL{a b:Vec}(ha:V (suf x k) a)(hb:V (suf x k) b):∃c,V (suf x k) c∧mul (suf x k) b c=mul (suf x k) a b∧zTZ x (fv k a) (fv k b)=ik (fv k c):=by
 have ok:=h.okAt hk;have G:=zHH h hk hc;obtain⟨w,hw,hm,h1⟩:=zLL h hk hc hb;have bV:=xG ok ha hb;refine⟨mul (suf x k) w (mul (suf x k) a b),xG ok hw bV,?_,?_⟩
 ·rw[←G.assoc hb hw bV,hm,G.onel bV]
 ·unfold zTZ
  rw[h1,bs,zDM h hk hc ha hb,bs,zDM h hk hc hw bV,bs]
end
theorem zEk{a b:List Int}(h:a.length≤1000000):f_V a b=ik (a==b):=
 zJk (t:=fun u v=>ik (u==v)) (body:=zYP a b) rfl (fun _=>rfl) (by omega) fun _ _ _ _=>rfl
theorem zQj{a b:List Int}(h:a.length≤1000000):zKK a b=ik (a==b):=zEk h
end Go.Pl

namespace Go.Pl
open Go Go.Ab Go.Wk Go.Pc
theorem zLM{ρ:Type}{body:Int→Option (Int⊕(Unit⊕ρ))}(n i0:Nat)(hn:i0≤n)(P:Nat→Prop)(B:ρ→Prop)
  (h:∀i,i0≤i→i<n→(∀j,i0≤j→j<i→P j)→(body (i:Int)=ik (.inl ((i+1:Nat):Int))∧P i)∨(∃r,body (i:Int)=ik (.inr (.inr r))∧B r∧ ¬P i))
  (he:body (n:Int)=ik (.inr (.inl ()))):
  (zI body (i0:Int)=ik (.inl ())∧ ∀j,i0≤j→j<n→P j)∨ ∃r i,i0≤i∧i<n∧zI body (i0:Int)=ik (.inr r)∧B r∧ ¬P i:=by
 have key:∀k i,i0≤i→i+k=n→(∀j,i0≤j→j<i→P j)→(zI body (i:Int)=ik (.inl ())∧ ∀j,i0≤j→j<n→P j)∨ ∃r q,i0≤q∧q<n∧zI body (i:Int)=ik (.inr r)∧B r∧ ¬P q:=by
  intro k
  induction k with
  |zero=>
   intro i hi hk hp;obtain rfl:i=n:=by omega
   grind[xH]
  |succ k ih=>
   intro i hi hk hp;rcases h i hi (by omega) hp with⟨h1,h2⟩|⟨r,h1,h2,h3⟩
   ·have:=ih (i+1) (by omega) (by omega) (by grind)
    rw[xH,h1];exact this
   ·exact .inr ⟨r,i,hi,by omega,by rw[xH,h1],h2,h3⟩
 exact key (n-i0) i0 (Jg _) (by omega) fun j a b=>by omega
theorem zHK{σ ρ:Type}{body:σ→Option (σ⊕ρ)}{Q:ρ→Prop}(I:σ→Prop)(m:σ→Nat)
  (h:∀s,I s→(∃s',body s=ik (.inl s')∧I s'∧m s'<m s)∨ ∃r,body s=ik (.inr r)∧Q r):∀(k:Nat)(s:σ),m s≤k→I s→ ∃r,zI body s=ik r∧Q r
 |k,s,hk,hs=>by
  rcases h s hs with⟨s',h1,h2,h3⟩|⟨r,h1,h2⟩
  ·cases k with
   |zero=>omega
   |succ k=>
    obtain⟨r,h4,h5⟩:=zHK I m h k s' (by omega) h2
    grind[xH]
  grind[xH]
theorem zYh{k:Nat}{a b:Vec}:(fv k a==fv k b)=io↔a=b:=by simp
theorem zCM{x:SPr}{v:List Int}{i k:Nat}(h:Exp x.zA v i)(hk:k≤i+1)(hn:k≤x.zA.length):v=fv k (v.drop k)∧V (suf x k) (v.drop k):=by
 have h1:=h.1.1;constructor
 ·apply Kv
  intro j;rw[fv,Kl];simp only[zeros,Jh,Ke,Lz];split
  ·rename_i hj
   have h2:=h.2 j (by omega)
   grind
  grind
 ·refine zYg (x.zA.length-k) k _ (by omega) (by grind) fun j hj=>?_
  have:=h.1.2 (k+j) (by omega)
  grind
structure LC (x:SPr) (k:Nat):Prop where
 c1:∀j,k+1≤j→j<x.zA.length→pw (mul (suf x (k+1))) (zeros (suf x (k+1)).length) ((lvl x k).cs.getD (j-(k+1)) []) (at0 x.zA j).toNat=sig (suf x (k+1)) (lvl x k) ((x.zU.getD j []).drop (k+1))
 c2:∀i,k+1≤i→i<x.zA.length→ ∀j,i+1≤j→j<x.zA.length→
  mul (suf x (k+1)) ((lvl x k).cs.getD (j-(k+1)) []) ((lvl x k).cs.getD (i-(k+1)) [])=mul (suf x (k+1)) ((lvl x k).cs.getD (i-(k+1)) []) (sig (suf x (k+1)) (lvl x k) (((x.zF.getD i []).getD (j-(i+1)) []).drop (k+1)))
 c3:sig (suf x (k+1)) (lvl x k) (lvl x k).w=(lvl x k).w
 c4:∀j,k+1≤j→j<x.zA.length→mul (suf x (k+1)) (lvl x k).w (iter (lvl x k).o.toNat (sig (suf x (k+1)) (lvl x k)) (xN (x.zA.length-(k+1)) (j-(k+1))))=mul (suf x (k+1)) (xN (x.zA.length-(k+1)) (j-(k+1))) (lvl x k).w
section
variable {x:SPr} (h:Pres x) {k:Nat} (hk:k<x.zA.length) (hc:wR (suf x (k+1)))
 include h hk
theorem kS{j:Nat}(h1:k+1≤j)(h2:j<x.zA.length):ixO x.zF (k:Int)=ik (x.zF.getD k [])∧ixO (x.zF.getD k []) ((j:Int)-(k:Int)-1)=ik (fv (k+1) ((lvl x k).cs.getD (j-(k+1)) []))∧V (suf x (k+1)) ((lvl x k).cs.getD (j-(k+1)) []):=by
 obtain⟨c,c1,c2,c3,c4⟩:=zEQ h hk (i:=j-(k+1)) (by omega)
 grind
theorem zS5{j:Nat}(h1:k+1≤j)(h2:j<x.zA.length):ixO x.zU (j:Int)=ik (fv (k+1) ((x.zU.getD j []).drop (k+1)))∧V (suf x (k+1)) ((x.zU.getD j []).drop (k+1)):=by
 have t1:=(h.tl j h2).1;have hl:=h.pl
 grind[zCM,yQ]
theorem zS6{i j:Nat}(h1:k+1≤i)(h2:i+1≤j)(h3:j<x.zA.length):ixO x.zF (i:Int)=ik (x.zF.getD i [])∧ixO (x.zF.getD i []) ((j:Int)-(i:Int)-1)=ik (fv (k+1) (((x.zF.getD i []).getD (j-(i+1)) []).drop (k+1)))∧V (suf x (k+1)) (((x.zF.getD i []).getD (j-(i+1)) []).drop (k+1)):=by
 obtain⟨_,t2,t3⟩:=h.tl i (by omega)
 grind[zCM,yQ]
theorem zYi:ixO x.zU (k:Int)=ik (fv (k+1) (lvl x k).w)∧V (suf x (k+1)) (lvl x k).w:=by have t1:=(h.tl k hk).1;have hl:=h.pl;obtain⟨e1,e2⟩:=zCM (k:=k+1) t1 (by omega) (by omega);exact⟨by rw[yQ [] (by omega)];exact congrArg ik e1,e2⟩
theorem zWV{v:Vec}(hv:V (suf x (k+1)) v):V (suf x (k+1)) (sig (suf x (k+1)) (lvl x k) v):=by
 have ok0:=h.okAt (k:=k) (by omega)
 grind[yE,zCE]
theorem zJr{j:Nat}(h1:k+1≤j)(h2:j<x.zA.length):zMA (x.zA.length:Int) (j:Int)=ik (fv (k+1) (xN (x.zA.length-(k+1)) (j-(k+1)))):=by
 have h6:=h.os.1;unfold zMA;rw[xL (by omega),bs,vW,Ke,if_pos h2,bs,Ja]
 congr 1
 rw[fv,zAw (by omega),←Jb];have e1:zeros (k+1)++zeros (j-(k+1))=zeros j:=by grind[zeros,Jl]
 have e2:J1 x.zA.length (0:Int)=zeros j++0::zeros (x.zA.length-(j+1)):=by simp only[zeros];rw[←Jq,Jl];grind
 grind[zDL]
theorem zQk{j:Nat}(h1:k+1≤j)(h2:j<x.zA.length):zYI (x.zA.length:Int) (j:Int)=ik (fv (k+1) (xN (x.zA.length-(k+1)) (j-(k+1)))):=zJr h hk h1 h2
 include hc
theorem zAx{v:Vec}(hv:V (suf x (k+1)) v):f_H x k (fv (k+1) v)=ik (fv (k+1) (sig (suf x (k+1)) (lvl x k) v)):=by
 have h6:=h.os.1;have ok:=h.okAt (k:=k+1) (by omega);have ok0:=h.okAt (k:=k) (by omega);rw[yE hk]at ok0;obtain⟨pe,aW⟩:=zEj h.os (x.zA.length-(k+1)) (k+1) v (by omega) hv;have gE:(lvl x k).cs.length=x.zA.length-(k+1):=by rw[ok0.2.2.1,yP]
 have t2:=(h.tl k hk).2.1;have i6:=h.cl;have hA:∀i,V (suf x (k+1)) (img (mul (suf x (k+1))) ((lvl x k).cs.take i) (v.take i) (zeros (suf x (k+1)).length)):=fun i=>
  qV (xG ok) _ _ (fun c hc=>ok0.2.2.2.1 c (by grind)) (wP ok)
 unfold f_H;rw[zCK h (by omega) hv,xL (by omega),bs,yQ [] (by omega),bs,zPj h (k:=k+1) (by omega)];have:=zX (body:=zTW x k (fv (k+1) v) (x.zF.getD k [])) (r:=fv (k+1) (sig (suf x (k+1)) (lvl x k) v))
  (fun i=>(fv (k+1) (img (mul (suf x (k+1))) ((lvl x k).cs.take i) (v.take i) (zeros (suf x (k+1)).length)),(i:Int))) (x.zF.getD k []).length (fun i hi=>by
  have hr:=aW i (by omega);obtain⟨c,c1,c2,c3,c4⟩:=zEQ h hk (i:=i) (by omega);unfold zTW;simp only
  rw[yZ hi,zM,c2,bs,zE (by omega) (by omega),bs,zE (by omega) (by omega),bs,show(k:Int)+1+(i:Int)=((k+1+i:Nat):Int)from by omega,fv,zLH (by omega),bs];rw[vZ (S:=V (suf x (k+1))) (body:=zTV x (zeros (k+1)++c) (at0 v i)) (fun u=>fv (k+1) u) (fun u=>mul (suf x (k+1)) u c) (at0 v i) hr.1 (by grind[xG]) (fun u q hu hq=>by
   unfold zTV;simp only
   rw[iu hq,zM,zHJ h (by omega) hc hu c3,bs,zE (by omega) (by omega),bs,cs]) (fun u hu=>by
   unfold zTV;simp) (hA i),bs,zE (by omega) (by omega),bs,cs]
  rw[zB2 _ _ _ _ (by omega) (by omega),c4]) (by
  unfold zTW;simp only
  rw[vU,zR,Js (by omega),Js (by omega)];rfl)
 simp only[Ka,img]at this
 grind
theorem zCN{a b:Vec}(ha:V (suf x (k+1)) a):IsB (f_V (fv (k+1) a) (fv (k+1) b)) (a=b):=by
 have _:=hc;have h6:=h.os.1
 grind[zEk,zCK,IsB.of_bool,zYh]
theorem zLN{c:Vec}(pb:V (suf x (k+1)) c){e:Int}(e0:0≤e)(e1:e≤1000):zVV x ((k+1:Nat):Int) (fv (k+1) c) e=ik (fv (k+1) (pw (mul (suf x (k+1))) (zeros (suf x (k+1)).length) c e.toNat)):=by
 have h6:=h.os.1;have ok:=h.okAt (k:=k+1) (by omega);have G:=zHH h (k:=k+1) (by omega) hc;have hA:=zPi h (k:=k+1) (by omega);have pwV:∀a,V (suf x (k+1)) (pw (mul (suf x (k+1))) (zeros (suf x (k+1)).length) c a):=fun a=>tS G.toMon pb a
 unfold zVV;rw[xL (by omega),bs,zPj h (k:=k+1) (by omega)];obtain⟨r,r1,r2⟩:=zHK (body:=zPK x ((k+1:Nat):Int)) (Q:=fun r=>r=fv (k+1) (pw (mul (suf x (k+1))) (zeros (suf x (k+1)).length) c e.toNat))
  (fun s=> ∃(m a q:Nat),s=((m:Int),fv (k+1) (pw (mul (suf x (k+1))) (zeros (suf x (k+1)).length) c a),fv (k+1) (pw (mul (suf x (k+1))) (zeros (suf x (k+1)).length) c q))∧a+q*m=e.toNat∧m≤1000) (fun s=>s.1.toNat) (fun s ⟨m,a,q,hs,he,hm⟩=>by
   subst hs;unfold zPK;simp only
   by_cases hm0:m=0
   ·grind
   ·left
    have hr:tB (m:Int) 2=ik ((m%2:Nat):Int):=by rfl
    have hq:tR (m:Int) 2=ik ((m/2:Nat):Int):=by
     unfold tR;rw[if_neg (by decide),Int.tdiv_eq_ediv_of_nonneg (by omega)]
     grind[zE]
    have m8:=Ly m 2;have ae:mul (suf x (k+1)) (pw (mul (suf x (k+1))) (zeros (suf x (k+1)).length) c q) (pw (mul (suf x (k+1))) (zeros (suf x (k+1)).length) c q)=pw (mul (suf x (k+1))) (zeros (suf x (k+1)).length) c (q+q):=(zH7 G.toMon pb q q).symm;rw[iu (by omega),zM,hr,bs];rcases Nat.mod_two_eq_zero_or_one m with h2|h2
    ·rw[h2,show((((0:Nat):Int))==1)=iq from rfl,zR,hA _ _ (pwV q) (pwV q),bs,hq,bs,ae]
     refine⟨_,rfl,⟨m/2,a,q+q,rfl,?_,by omega⟩,by omega⟩
     grind
    ·rw[h2,show((((1:Nat):Int))==1)=io from rfl,zM,hA _ _ (pwV a) (pwV q),bs,hA _ _ (pwV q) (pwV q),bs,hq,bs,ae,←zH7 G.toMon pb a q]
     refine⟨_,rfl,⟨m/2,a+q,q+q,rfl,?_,by omega⟩,by omega⟩
     grind) 1000000 (e,fv (k+1) (zeros (suf x (k+1)).length),fv (k+1) c) (by omega) ⟨e.toNat,0,1,by rw[zSt G.toMon pb,show((e.toNat:Nat):Int)=e from by omega];rfl,by omega,by omega⟩
 grind
end
end Go.Pl

namespace Go.Pl
open Go Go.Ab Go.Wk Go.Pc
def yAr(o:Option xJ)(P:Prop):Prop:=(o=ik (xJ.mk 0 0 0 0)∧P)∨ ∃r,o=ik r∧r.Kind≠0∧ ¬P
theorem kb{a b c d:Int}(h:a≠0):(xJ.mk a b c d).Kind≠0:=h
abbrev KB(r:xJ):Prop:=r.Kind≠0
theorem zB3{o:Option Bool}{P:Prop}{bad:xJ}{i:Nat}{g:Option (Int⊕(Unit⊕xJ))}(h:IsB o P)(hi:i<9223372036854775807)(hbad:bad.Kind≠0)
  (hg:g=o.bind fun r=>cond (!r) (ik (.inr (.inr bad))) ((rng ((i:Int)+1)).bind fun v=>ik (.inl v))):(g=ik (.inl ((i+1:Nat):Int))∧P)∨(∃r,g=ik (.inr (.inr r))∧KB r∧ ¬P):=by
 rcases tV h hi hg with h|⟨h1,h2⟩
 all_goals grind
section
variable {x:SPr} (h:Pres x) {k:Nat} (hk:k<x.zA.length) (hc:wR (suf x (k+1)))
 include h hk hc
theorem zN6:yAr (f_n x k) (LC x k):=by
 have h6:=h.os.1;have ok:=h.okAt (k:=k+1) (by omega);have G:=zHH h (k:=k+1) (by omega) hc;obtain⟨w1,w2⟩:=zYi h hk;have cZ:∀v,V (suf x (k+1)) v→V (suf x (k+1)) (sig (suf x (k+1)) (lvl x k) v):=by grind[zWV]
 unfold f_n;rw[zE (by omega) (by omega),bs,cs];rcases zLM (body:=zUa x k) x.zA.length (k+1) (by omega) (fun j=>pw (mul (suf x (k+1))) (zeros (suf x (k+1)).length) ((lvl x k).cs.getD (j-(k+1)) []) (at0 x.zA j).toNat=sig (suf x (k+1)) (lvl x k) ((x.zU.getD j []).drop (k+1))) KB (fun j h1 h2 _=>by
   obtain⟨c1,c2,c3⟩:=kS h hk h1 h2;obtain⟨p1,p2⟩:=zS5 h hk h1 h2;have ck:=(h.os.2 j h2).pos;refine zB3 (zCN h hk hc (tS G.toMon c3 (at0 x.zA j).toNat)) (by omega) (bad:=xJ.mk 1 k j 0) (kb (by decide)) ?_;unfold zUa;rw[yZ h2,zM,c1,bs,zE (by omega) (by omega),bs,zE (by omega) (by omega),bs,c2,bs,yV h2,bs,zN5 h (by omega) hc c3 (by omega) (by omega),bs,p1,bs,zAx h hk hc p2,bs]) (by
   unfold zUa;simp)with⟨g1,g2⟩|⟨r,j,j1,j2,g1,g2,g3⟩
 rotate_left
 ·rw[g1,bs]
  exact .inr ⟨r,rfl,g2,fun q=>g3 (q.c1 j j1 j2)⟩
 rw[g1,bs];simp only
 rw[bs];rcases zLM (body:=zUc x k) x.zA.length (k+1) (by omega) (fun i=> ∀j,i+1≤j→j<x.zA.length→
   mul (suf x (k+1)) ((lvl x k).cs.getD (j-(k+1)) []) ((lvl x k).cs.getD (i-(k+1)) [])=mul (suf x (k+1)) ((lvl x k).cs.getD (i-(k+1)) []) (sig (suf x (k+1)) (lvl x k) (((x.zF.getD i []).getD (j-(i+1)) []).drop (k+1)))) KB (fun i h1 h2 _=>by
   obtain⟨c1,c2,c3⟩:=kS h hk h1 h2;unfold zUc;rw[yZ h2,zM,zE (by omega) (by omega),bs,cs];rcases zLM (body:=zUb x k i) x.zA.length (i+1) (by omega) (fun j=>mul (suf x (k+1)) ((lvl x k).cs.getD (j-(k+1)) []) ((lvl x k).cs.getD (i-(k+1)) [])=mul (suf x (k+1)) ((lvl x k).cs.getD (i-(k+1)) []) (sig (suf x (k+1)) (lvl x k) (((x.zF.getD i []).getD (j-(i+1)) []).drop (k+1)))) KB (fun j h3 h4 _=>by
     obtain⟨d1,d2,d3⟩:=kS h hk (j:=j) (by omega) h4;obtain⟨e1,e2,e3⟩:=zS6 h hk h1 h3 h4;obtain⟨q,q1,q2,q3⟩:=zCL h (by omega) hc d3 c3;refine zB3 ((zCN h hk hc (b:=sig (suf x (k+1)) (lvl x k) (((x.zF.getD i []).getD (j-(i+1)) []).drop (k+1))) q1).iff (Q:=mul (suf x (k+1)) ((lvl x k).cs.getD (j-(k+1)) []) ((lvl x k).cs.getD (i-(k+1)) [])=mul (suf x (k+1)) ((lvl x k).cs.getD (i-(k+1)) []) (sig (suf x (k+1)) (lvl x k) (((x.zF.getD i []).getD (j-(i+1)) []).drop (k+1)))) ?_) (by omega) (bad:=xJ.mk 2 k i j) (kb (by decide)) ?_
     ·exact⟨by grind,fun e=>G.cancel_l c3 q1 (cZ _ e3) (by rw[q2,e])⟩
     ·unfold zUb
      rw[yZ h4,zM,d1,bs,zE (by omega) (by omega),bs,zE (by omega) (by omega),bs,d2,bs,bs,zE (by omega) (by omega),bs,zE (by omega) (by omega),bs,c2,bs,q3,bs,e1,bs,zE (by omega) (by omega),bs,zE (by omega) (by omega),bs,e2,bs,zAx h hk hc e3,bs]) (by
     unfold zUb;simp)with⟨g1,g2⟩|⟨r,j,j1,j2,g1,g2,g3⟩
   ·grind
   grind) (by
   unfold zUc;simp)with⟨k1,k2⟩|⟨r,j,j1,j2,k1,k2,k3⟩
 rotate_left
 ·rw[k1,bs]
  exact .inr ⟨r,rfl,k2,fun q=>k3 (q.c2 j j1 j2)⟩
 rw[k1,bs];simp only
 rw[w1,bs,zAx h hk hc w2,bs];rcases zCN h hk hc (b:=(lvl x k).w) (cZ _ w2)with⟨m1,m2⟩|⟨m1,m2⟩
 rotate_left
 ·rw[m1,bs,Kk,zM]
  exact .inr ⟨_,rfl,kb (by decide),fun q=>m2 q.c3⟩
 rw[m1,bs,K0,zR,bs];rcases zLM (body:=zUe x k (fv (k+1) (lvl x k).w)) x.zA.length (k+1) (by omega) (fun j=>mul (suf x (k+1)) (lvl x k).w (iter (lvl x k).o.toNat (sig (suf x (k+1)) (lvl x k)) (xN (x.zA.length-(k+1)) (j-(k+1))))=mul (suf x (k+1)) (xN (x.zA.length-(k+1)) (j-(k+1))) (lvl x k).w) KB (fun j h1 h2 _=>by
   have hU:=zN4 h (k:=k+1) (by omega) hc (i:=j-(k+1)) (by omega);have ck:=(h.os.2 k hk).pos;obtain⟨q,q1,q2,q3⟩:=zCL h (k:=k+1) (by omega) hc hU w2;have eg:V (suf x (k+1)) (iter (lvl x k).o.toNat (sig (suf x (k+1)) (lvl x k)) (xN (x.zA.length-(k+1)) (j-(k+1)))):=vO cZ _ hU;refine zB3 ((zCN h hk hc (b:=q) eg).iff ⟨by grind,fun e=>G.cancel_l w2 eg q1 (by rw[e,q2])⟩) (by omega) (bad:=xJ.mk 4 k j 0) (kb (by decide)) ?_;unfold zUe;rw[yZ h2,zM,zJr h hk h1 h2,bs,yV hk,bs];rw[vZ (S:=V (suf x (k+1))) (body:=zUd x k (at0 x.zA k)) (fun u=>fv (k+1) u) (sig (suf x (k+1)) (lvl x k)) (at0 x.zA k) (by omega) cZ (fun u i hu hi=>by
    unfold zUd;simp only
    rw[iu hi,zM,zAx h hk hc hu,bs,zE (by omega) (by omega),bs,cs]) (fun u hu=>by
    unfold zUd;simp) hU,bs,bs,q3,bs]
   rfl) (by
   unfold zUe;simp)with⟨n1,n2⟩|⟨r,j,j1,j2,n1,n2,n3⟩
 ·rw[n1,bs]
  exact .inl ⟨rfl,⟨g2,k2,m2,n2⟩⟩
 ·rw[n1,bs]
  exact .inr ⟨r,rfl,n2,fun q=>n3 (q.c4 j j1 j2)⟩
theorem zN7:yAr (f_o x k) (LC x k):=by
 have h6:=h.os.1;have ok:=h.okAt (k:=k+1) (by omega);have G:=zHH h (k:=k+1) (by omega) hc;obtain⟨w1,w2⟩:=zYi h hk;have hA:=zPi h (k:=k+1) (by omega);have hI:=zN2 h hk;have cZ:∀v,V (suf x (k+1)) v→V (suf x (k+1)) (sig (suf x (k+1)) (lvl x k) v):=by grind[zWV]
 have eqB:∀{a b:Vec},V (suf x (k+1)) a→IsB (zKK (fv (k+1) a) (fv (k+1) b)) (a=b):=fun ha=>zCN h hk hc ha
 unfold f_o;rw[zE (by omega) (by omega),bs,cs];rcases zLM (body:=zT9 x k) x.zA.length (k+1) (by omega) (fun j=>pw (mul (suf x (k+1))) (zeros (suf x (k+1)).length) ((lvl x k).cs.getD (j-(k+1)) []) (at0 x.zA j).toNat=sig (suf x (k+1)) (lvl x k) ((x.zU.getD j []).drop (k+1))) KB (fun j h1 h2 _=>by
   obtain⟨c1,c2,c3⟩:=kS h hk h1 h2;obtain⟨p1,p2⟩:=zS5 h hk h1 h2;have ck:=(h.os.2 j h2).pos;refine zB3 (eqB (tS G.toMon c3 (at0 x.zA j).toNat)) (by omega) (bad:=xJ.mk 1 k j 0) (kb (by decide)) ?_;unfold zT9;rw[yZ h2,zM,zE (by omega) (by omega),bs,cs,c1,bs,zE (by omega) (by omega),bs,zE (by omega) (by omega),bs,c2,bs,yV h2,bs,zLN h hk hc c3 (by omega) (by omega),bs,p1,bs,hI _ p2,bs]) (by
   unfold zT9;simp)with⟨g1,g2⟩|⟨r,j,j1,j2,g1,g2,g3⟩
 rotate_left
 ·rw[g1,bs]
  exact .inr ⟨r,rfl,g2,fun q=>g3 (q.c1 j j1 j2)⟩
 rw[g1,bs];simp only
 rw[bs];rcases zLM (body:=zTB x k) x.zA.length (k+1) (by omega) (fun i=> ∀j,i+1≤j→j<x.zA.length→
   mul (suf x (k+1)) ((lvl x k).cs.getD (j-(k+1)) []) ((lvl x k).cs.getD (i-(k+1)) [])=mul (suf x (k+1)) ((lvl x k).cs.getD (i-(k+1)) []) (sig (suf x (k+1)) (lvl x k) (((x.zF.getD i []).getD (j-(i+1)) []).drop (k+1)))) KB (fun i h1 h2 _=>by
   obtain⟨c1,c2,c3⟩:=kS h hk h1 h2;unfold zTB;rw[yZ h2,zM,zE (by omega) (by omega),bs,cs];rcases zLM (body:=zTA x k i) x.zA.length (i+1) (by omega) (fun j=>mul (suf x (k+1)) ((lvl x k).cs.getD (j-(k+1)) []) ((lvl x k).cs.getD (i-(k+1)) [])=mul (suf x (k+1)) ((lvl x k).cs.getD (i-(k+1)) []) (sig (suf x (k+1)) (lvl x k) (((x.zF.getD i []).getD (j-(i+1)) []).drop (k+1)))) KB (fun j h3 h4 _=>by
     obtain⟨d1,d2,d3⟩:=kS h hk (j:=j) (by omega) h4;obtain⟨e1,e2,e3⟩:=zS6 h hk h1 h3 h4;refine zB3 (eqB (xG ok d3 c3)) (by omega) (bad:=xJ.mk 2 k i j) (kb (by decide)) ?_;unfold zTA;rw[yZ h4,zM,d1,bs,zE (by omega) (by omega),bs,zE (by omega) (by omega),bs,c2,bs,bs,zE (by omega) (by omega),bs,zE (by omega) (by omega),bs,d2,bs,e1,bs,zE (by omega) (by omega),bs,zE (by omega) (by omega),bs,e2,bs,hI _ e3,bs,zE (by omega) (by omega),bs,cs,hA _ _ d3 c3,bs,bs,hA _ _ c3 (cZ _ e3),bs]) (by
     unfold zTA;simp)with⟨g1,g2⟩|⟨r,j,j1,j2,g1,g2,g3⟩
   ·grind
   grind) (by
   unfold zTB;simp)with⟨k1,k2⟩|⟨r,j,j1,j2,k1,k2,k3⟩
 rotate_left
 ·rw[k1,bs]
  exact .inr ⟨r,rfl,k2,fun q=>k3 (q.c2 j j1 j2)⟩
 rw[k1,bs];simp only
 rw[w1,bs,hI _ w2,bs];rcases eqB (b:=(lvl x k).w) (cZ _ w2)with⟨m1,m2⟩|⟨m1,m2⟩
 rotate_left
 ·rw[m1,bs,Kk,zM]
  exact .inr ⟨_,rfl,kb (by decide),fun q=>m2 q.c3⟩
 rw[m1,bs,K0,zR,bs];rcases zLM (body:=zTD x k (fv (k+1) (lvl x k).w)) x.zA.length (k+1) (by omega) (fun j=>mul (suf x (k+1)) (lvl x k).w (iter (lvl x k).o.toNat (sig (suf x (k+1)) (lvl x k)) (xN (x.zA.length-(k+1)) (j-(k+1))))=mul (suf x (k+1)) (xN (x.zA.length-(k+1)) (j-(k+1))) (lvl x k).w) KB (fun j h1 h2 _=>by
   have hU:=zN4 h (k:=k+1) (by omega) hc (i:=j-(k+1)) (by omega);have ck:=(h.os.2 k hk).pos;have eg:V (suf x (k+1)) (iter (lvl x k).o.toNat (sig (suf x (k+1)) (lvl x k)) (xN (x.zA.length-(k+1)) (j-(k+1)))):=vO cZ _ hU;refine zB3 (eqB (xG ok w2 eg)) (by omega) (bad:=xJ.mk 4 k j 0) (kb (by decide)) ?_;unfold zTD;rw[yZ h2,zM,zQk h hk h1 h2,bs];rw[vZ (S:=V (suf x (k+1))) (body:=zTC x k) (fun u=>fv (k+1) u) (sig (suf x (k+1)) (lvl x k)) (at0 x.zA k) (by omega) cZ (fun u i hu hi=>by
    unfold zTC;simp only
    rw[yV hk,bs,iu hi,zM,hI _ hu,bs,zE (by omega) (by omega),bs,cs]) (fun u hu=>by
    unfold zTC;simp only
    rw[yV hk,bs,ir (by omega),zR]) hU,bs,zE (by omega) (by omega),bs,cs]
   have ho:(lvl x k).o=at0 x.zA k:=rfl;rw[←ho,hA _ _ w2 eg,bs,bs,hA _ _ hU w2,bs]) (by
   unfold zTD;simp)with⟨n1,n2⟩|⟨r,j,j1,j2,n1,n2,n3⟩
 ·rw[n1,bs]
  exact .inl ⟨rfl,⟨g2,k2,m2,n2⟩⟩
 ·rw[n1,bs]
  exact .inr ⟨r,rfl,n2,fun q=>n3 (q.c4 j j1 j2)⟩
end
end Go.Pl

namespace Go.Pl
open Go Go.Ab Go.Wk Go.Pc
theorem zFL{m:Vec→Vec→Vec}:∀(i:Nat)(cs:List Vec)(w acc:Vec),i≤cs.length→img m cs (zeros i++w) acc=img m (cs.drop i) w acc
 |0,cs,w,acc,_=>rfl
 |i+1,[],w,acc,h=>by simp at h
 |i+1,c::cs,w,acc,h=>by show img m (c::cs) (0::(zeros i++w)) acc=_;simp only[img,Gz,iter,List.drop_succ_cons];exact zFL i cs w acc (by grind)
theorem zHL{x:SPr}{v:List Int}{j k:Nat}(h:Exp x.zA v j)(hj:j<x.zA.length)(hk:k≤j+1):v.drop k=zeros (j+1-k)++v.drop (j+1):=by
 have:=zA1 h hj
 grind[zeros]
section
variable {x:SPr} (h:zGr x) {k:Nat} (hk:k<x.zA.length)
 include h hk
theorem zA2:(lvl x k).cs.length=x.zA.length-(k+1):=by have ok0:=h.okAt (k:=k) (by omega);rw[yE hk]at ok0;rw[ok0.2.2.1,yP]
theorem zVz{j:Nat}(h1:k+1≤j)(h2:j<x.zA.length):sig (suf x (k+1)) (lvl x k) ((x.zU.getD j []).drop (k+1))=img (mul (suf x (k+1))) ((lvl x k).cs.drop (j-k)) (lvl x j).w (zeros (suf x (k+1)).length):=by have t1:=(h.tl j h2).1;have gE:=zA2 h hk;rw[zHL t1 h2 (by omega),sig,zFL _ _ _ _ (by omega),show j+1-(k+1)=j-k from by omega];rfl
theorem zPk:∀(d i:Nat),k+1+i+d=x.zA.length→(Rel (mul (suf x (k+1))) (zeros (suf x (k+1)).length) (suf x (k+1+i)) ((lvl x k).cs.drop i)↔
  (∀j,k+1+i≤j→j<x.zA.length→pw (mul (suf x (k+1))) (zeros (suf x (k+1)).length) ((lvl x k).cs.getD (j-(k+1)) []) (at0 x.zA j).toNat=sig (suf x (k+1)) (lvl x k) ((x.zU.getD j []).drop (k+1)))∧
  (∀a,k+1+i≤a→a<x.zA.length→ ∀j,a+1≤j→j<x.zA.length→
   mul (suf x (k+1)) ((lvl x k).cs.getD (j-(k+1)) []) ((lvl x k).cs.getD (a-(k+1)) [])=mul (suf x (k+1)) ((lvl x k).cs.getD (a-(k+1)) []) (sig (suf x (k+1)) (lvl x k) (((x.zF.getD a []).getD (j-(a+1)) []).drop (k+1)))))
 |0,i,hi=>by
  have gE:=zA2 h hk;rw[vX (x:=x) (k:=k+1+i) (by omega),Jax (by omega)];simp only[Rel,true_iff]
  grind
 |d+1,i,hi=>by
  have gE:=zA2 h hk;have ih:=zPk d (i+1) (by omega);rw[show k+1+(i+1)=k+1+i+1 from by omega]at ih;have hj:k+1+i<x.zA.length:=by omega
  have hg:(lvl x k).cs.drop i=(lvl x k).cs.getD i []::(lvl x k).cs.drop (i+1):=by rw[H1 (by omega),J2,J4 (by omega)];rfl
  rw[yE hj,hg];simp only[Rel];rw[ih];have e1:=zVz h hk (j:=k+1+i) (by omega) hj;rw[show k+1+i-k=i+1 from by omega]at e1;have ho:(lvl x (k+1+i)).o=at0 x.zA (k+1+i):=rfl;rw[ho,←e1];have e2:∀j,k+1+i+1≤j→j<x.zA.length→ ∀dd,(lvl x (k+1+i)).cs[j-(k+1+i+1)]? =ik dd→img (mul (suf x (k+1))) ((lvl x k).cs.drop (i+1)) dd (zeros (suf x (k+1)).length)=sig (suf x (k+1)) (lvl x k) (((x.zF.getD (k+1+i) []).getD (j-(k+1+i+1)) []).drop (k+1)):=fun j h1 h2 dd hdd=>by
   obtain⟨_,t2,t3⟩:=h.tl (k+1+i) hj;have t:=t3 (j-(k+1+i+1)) (by omega);rw[zHL t hj (by omega),sig,zFL _ _ _ _ (by omega),show k+1+i+1-(k+1)=i+1 from by omega]
   congr 1
   simp only[lvl,K5,Ky]at hdd
   grind
  have e3:∀j,k+1+i+1≤j→j<x.zA.length→((lvl x k).cs.drop (i+1))[j-(k+1+i+1)]? =ik ((lvl x k).cs.getD (j-(k+1)) [])∧ ∃dd,(lvl x (k+1+i)).cs[j-(k+1+i+1)]? =ik dd:=fun j h1 h2=>by
   have i6:=zA2 h hj;refine⟨?_,?_⟩
   ·rw[Lz,show i+1+(j-(k+1+i+1))=j-(k+1)from by omega,J2,J4 (by omega)];rfl
   ·exact⟨_,J4 (by omega)⟩
  constructor
  ·rintro⟨a1,a2,a3,a4⟩
   refine⟨fun j h1 h2=>?_,fun a h1 h2 j h3 h4=>?_⟩
   ·rcases Jk (k+1+i) j with gF|hge
    ·grind
    ·obtain rfl:j=k+1+i:=by omega
     rw[show k+1+i-(k+1)=i from by omega];exact a1
   ·rcases Jk (k+1+i) a with gF|hge
    ·exact a4 a (by omega) h2 j h3 h4
    ·obtain rfl:a=k+1+i:=by omega
     obtain⟨f1,dd,f2⟩:=e3 j (by omega) h4;have:=a2 _ _ _ f1 f2;rw[e2 j (by omega) h4 dd f2]at this;rw[show k+1+i-(k+1)=i from by omega];exact this
  ·rintro⟨a1,a2⟩
   refine⟨?_,fun kk c dd h1 h2=>?_,by grind,by grind⟩
   ·have:=a1 (k+1+i) (by omega) hj
    rw[show k+1+i-(k+1)=i from by omega]at this;exact this
   ·have gF:kk<x.zA.length-(k+1+i+1):=by
     have:=(Jn.1 h1).1;rw[Jz]at this;omega
    have g:=a2 (k+1+i) (by omega) hj (k+1+i+1+kk) (by omega) (by omega);obtain⟨f1,_⟩:=e3 (k+1+i+1+kk) (by omega) (by omega);rw[show k+1+i+1+kk-(k+1+i+1)=kk from by omega]at f1 g;rw[h1]at f1;have f1:=Ln.inj f1;have g2:=e2 (k+1+i+1+kk) (by omega) (by omega) dd (by rw[show k+1+i+1+kk-(k+1+i+1)=kk from by omega];exact h2);rw[show k+1+i+1+kk-(k+1+i+1)=kk from by omega]at g2;rw[g2,f1];rw[show k+1+i-(k+1)=i from by omega]at g;exact g
theorem zAF:wR (suf x k)↔wR (suf x (k+1))∧LC x k:=by
 have hr:=zPk h hk (x.zA.length-(k+1)) 0 (by omega);have hl:=yP x (k+1);rw[Gf,Gv]at hr;rw[yE hk];simp only[wR];rw[hr];constructor
 ·rintro⟨a,⟨b1,b2⟩,c,d⟩
  refine⟨a,⟨b1,b2,c,fun j h1 h2=>?_⟩⟩
  grind
 ·rintro⟨a,b⟩
  refine⟨a,⟨b.c1,b.c2⟩,b.c3,fun j hj=>?_⟩;have:=b.c4 (k+1+j) (by omega) (by omega);rw[show k+1+j-(k+1)=j from by omega]at this
  rwa [hl]
end
theorem zB4{x:SPr}(h:wR (suf x 0))(k:Nat):wR (suf x k):=by
 have:=zER h k
 grind
def zEl(x:SPr):Prop:=Pres x∧wR (suf x 0)∧zDK x
theorem zET{x:SPr}(hl:x.zA.length≤1048576):IsB (zWd x) (zEl x):=by
 unfold zWd;rcases zD3 hl with⟨h1,h2⟩|⟨h1,h2⟩
 ·have h6:=h2.os.1
  rw[h1,bs,zM];unfold zYQ;obtain⟨r,r1,r2⟩:=tL (body:=zMB x) (Q:=fun r=> ∃s:Nat,r=(s:Int)∧wR (suf x s)∧(s=0∨ ¬wR (suf x (s-1)))) (fun i s=>i≤x.zA.length∧s=((x.zA.length-i:Nat):Int)∧wR (suf x (x.zA.length-i))) x.zA.length (fun i s hi ⟨_,hs,hJ⟩=>by
    subst hs;have hk:x.zA.length-i-1<x.zA.length:=by omega
    have e9:x.zA.length-(i+1)=x.zA.length-i-1:=by omega
    rw[e9];have e8:i+1≤x.zA.length:=by omega
    rw[show x.zA.length-i=x.zA.length-i-1+1 from by omega]at hJ ⊢
    have be:=zN6 h2.toPres hk hJ;have pY:=zAF h2.toPres.w hk
    generalize x.zA.length-i-1=k at*
    unfold zMB;rw[iu (by omega),zM,zE (by omega) (by omega),bs,show(((k+1:Nat):Int)-1)=(k:Int)from by omega];rcases be with⟨g1,g2⟩|⟨r,g1,g2,g3⟩
    ·simp_all
    grind) (fun s ⟨_,hs,hJ⟩=>by
    rw[Kf]at hs hJ;subst hs;unfold zMB
    grind) (s:=(x.zA.length:Int)) ⟨by omega,by rfl,by rw[Jb9,vX (by omega)];simp only[wR]⟩
  obtain⟨s,rfl,hJ,hs⟩:=r2;rw[r1,bs,bs];cases s with
  |zero=>exact .inl ⟨rfl,h2.toPres,hJ,h2⟩
  |succ s=>
   refine .inr ⟨?_,fun q=>?_⟩
   ·congr 1
   ·rcases hs with hs|hs
    ·omega
    ·exact hs (zB4 q.2.1 _)
 ·rw[h1,bs,zR]
  exact .inr ⟨rfl,fun q=>h2 q.2.2⟩
theorem zN8{x:SPr}(hl:x.zA.length≤1048576):IsB (zVW x) (zEl x):=by
 unfold zVW;rcases zD4 hl with⟨h1,h2⟩|⟨h1,h2⟩
 ·have h6:=h2.os.1
  rw[h1,bs,zM];unfold zYK zYJ;rw[zE (by omega) (by omega),bs];obtain⟨r,r1,r2⟩:=tL (body:=zM7 x) (Q:=fun r=>(r=.inl ()∧wR (suf x 0))∨ ∃f,r=.inr f∧f.Kind≠0∧ ¬wR (suf x 0)) (fun i s=>i≤x.zA.length∧s=((x.zA.length-i:Nat):Int)-1∧wR (suf x (x.zA.length-i))) x.zA.length (fun i s hi ⟨_,hs,hJ⟩=>by
    subst hs;have hk:x.zA.length-i-1<x.zA.length:=by omega
    have e9:x.zA.length-(i+1)=x.zA.length-i-1:=by omega
    rw[e9];have e8:i+1≤x.zA.length:=by omega
    rw[show x.zA.length-i=x.zA.length-i-1+1 from by omega]at hJ ⊢
    have be:=zN7 h2.toPres hk hJ;have pY:=zAF h2.toPres.w hk
    generalize x.zA.length-i-1=k at*
    unfold zM7;rw[show(((k+1:Nat):Int)-1)=(k:Int)from by omega,iu (by omega),zM];rcases be with⟨g1,g2⟩|⟨r,g1,g2,g3⟩
    ·left
     rw[g1,bs];simp only
     rw[show((0:Int) != 0)=iq from rfl,zR,zE (by omega) (by omega),bs]
     grind
    ·right
     rw[g1,bs,show(r.Kind != 0)=io from by grind,zM];exact⟨_,rfl,.inr ⟨r,rfl,g2,by grind[zB4]⟩⟩) (fun s ⟨_,hs,hJ⟩=>by
    rw[Kf]at hs hJ;subst hs;unfold zM7
    grind) (s:=(x.zA.length:Int)-1) ⟨by omega,by rfl,by rw[Jb9,vX (by omega)];simp only[wR]⟩
  rw[r1,bs];rcases r2 with⟨rfl,q⟩|⟨f,rfl,g1,g2⟩
  ·exact .inl ⟨rfl,h2.toPres,q,h2⟩
  ·simp only
   rw[bs,show(f.Kind==0)=iq from by grind];exact .inr ⟨rfl,fun q=>g2 q.2.1⟩
 ·rw[h1,bs,zR]
  exact .inr ⟨rfl,fun q=>h2 q.2.2⟩
end Go.Pl

namespace Go.Pl
open Go Go.Ab Go.Wk
abbrev Mx:=List (List Int)
def S:Nat→(Nat→Int)→Int
 |0,_=>0
 |n+1,f=>S n f+f n
theorem xR{n:Nat}{f g:Nat→Int}(h:∀i,i<n→f i=g i):S n f=S n g:=by
 induction n with
 |zero=>rfl
 |succ n ih=>simp only[S];rw[ih fun i hi=>h i (by omega),h n (by omega)]
theorem kT{p:Int}{f g:Nat→Int}:∀{n:Nat},(∀i,i<n→f i%p=g i%p)→S n f%p=S n g%p
 |0,_=>rfl
 |n+1,h=>by simp only[S];rw[Kd,kT (n:=n) fun i hi=>h i (by omega),h n (by omega),←Kd]
theorem qM:∀n:Nat,S n (fun _=>0)=0
 |0=>rfl
 |n+1=>by simp only[S,qM n];rfl
theorem zCO{f g:Nat→Int}:∀n:Nat,S n (fun i=>f i+g i)=S n f+S n g
 |0=>rfl
 |n+1=>by simp only[S,zCO n];omega
theorem zLO{f:Nat→Int}(a:Int):∀n:Nat,S n (fun i=>f i*a)=S n f*a
 |0=>by simp[S]
 |n+1=>by simp only[S,zLO a n,Qt]
theorem zCP{f:Nat→Int}(a:Int):∀n:Nat,S n (fun i=>a*f i)=a*S n f
 |0=>by simp[S]
 |n+1=>by simp only[S,zCP a n,Qs]
theorem zHM{f:Nat→Nat→Int}(m:Nat):∀n:Nat,S n (fun i=>S m (fun j=>f i j))=S m (fun j=>S n (fun i=>f i j))
 |0=>by simp only[S];exact(qM m).symm
 |n+1=>by simp only[S];rw[zHM m n,zCO]
theorem zAm{f:Nat→Int}{k:Nat}:∀{n:Nat},k<n→(∀i,i<n→i≠k→f i=0)→S n f=f k
 |0,h,_=>by omega
 |n+1,h,hz=>by
  simp only[S]
  by_cases hk:k=n
  ·subst hk
   rw[xR (g:=fun _=>0) fun i hi=>hz i (by omega) (by omega),qM];omega
  ·rw[zAm (n:=n) (by omega) fun i hi=>hz i (by omega),hz n (by omega) (by omega)];omega
def mkv(D:Nat)(f:Nat→Int):List Int:=(Jf D).map f
theorem zZ(D:Nat)(f:Nat→Int):(mkv D f).length=D:=by simp[mkv]
theorem zDp{D:Nat}{f:Nat→Int}{i:Nat}(h:i<D):(mkv D f)[i]? =ik (f i):=by simp[mkv,h]
theorem yG{D:Nat}{f:Nat→Int}{i:Nat}(h:i<D):at0 (mkv D f) i=f i:=by rw[at0,J2,zDp h];rfl
theorem yC{D:Nat}{f g:Nat→Int}(h:∀i,i<D→f i=g i):mkv D f=mkv D g:=by unfold mkv;apply Qe;intro i hi;exact h i (by simpa using hi)
theorem jL{D:Nat}{f:Nat→Int}{j:Nat}{a:Int}:(mkv D f).set j a=mkv D (fun i=>if i=j then a else f i):=by
 apply Kv;intro i;rw[Jbu,zZ]
 by_cases hi:i<D
 ·by_cases gO:j=i
  ·subst gO;rw[if_pos rfl,if_pos hi,zDp hi,if_pos rfl]
  ·rw[if_neg gO,zDp hi,zDp hi,if_neg fun h=>gO h.symm]
 ·have h1:∀g:Nat→Int,(mkv D g)[i]? =im:=fun g=>K8 (by rw[zZ];omega)
  rw[h1,h1]
  by_cases gO:j=i
  ·subst gO;rw[if_pos rfl,if_neg hi]
  ·rw[if_neg gO]
theorem uA{v:List Int}{D:Nat}(h:v.length=D):v=mkv D (at0 v):=by
 apply Kv;intro i
 by_cases hi:i<D
 ·rw[zDp hi,at0,J2,J4 (by omega)];rfl
 ·rw[K8 (by omega),K8 (by rw[zZ];omega)]
theorem tM(D:Nat):J1 D (0:Int)=mkv D (fun _=>0):=by
 apply Kv;intro i
 by_cases hi:i<D
 ·rw[zDp hi];simp[hi]
 ·rw[K8 (by simp;omega),K8 (by rw[zZ];omega)]
abbrev ent(B:Mx)(l j:Nat):Int:=at0 (B.getD l []) j
def wC(p:Int)(D:Nat)(r:List Int)(B:Mx):List Int:=mkv D fun j=>S D (fun l=>at0 r l*ent B l j)%p
def PM(p:Int)(D:Nat)(A B:Mx):Mx:=A.map fun r=>wC p D r B
def idM(D:Nat):Mx:=(Jf D).map fun i=>mkv D fun j=>if j=i then 1 else 0
def Row(p:Int)(D:Nat)(r:List Int):Prop:=r.length=D∧ ∀i,i<D→0≤at0 r i∧at0 r i≤p-1
def Mat(p:Int)(D:Nat)(A:Mx):Prop:=A.length=D∧ ∀i,i<D→Row p D (A.getD i [])
theorem zBT{p:Int}{D i:Nat}{A B:Mx}(h:i<A.length):(PM p D A B).getD i []=wC p D (A.getD i []) B:=by simp only[PM,J2,K5,J4 h];rfl
theorem uG{p:Int}{D:Nat}{A B:Mx}:(PM p D A B).length=A.length:=by simp[PM]
theorem zBU{p:Int}{D:Nat}{A B:Mx}(hp:0<p)(hA:A.length=D):Mat p D (PM p D A B):=by refine⟨by rw[uG,hA],fun i hi=>?_⟩;rw[zBT (by omega)];refine⟨by rw[wC,zZ],fun j hj=>?_⟩;rw[wC,yG hj];have h1:=Kx (S D fun l=>at0 (A.getD i []) l*ent B l j) (show p≠0 by omega);have h2:=Kh (S D fun l=>at0 (A.getD i []) l*ent B l j) hp;omega
theorem zN9{p:Int}{D i j:Nat}{A B:Mx}(hA:A.length=D)(hi:i<D)(hj:j<D):ent (PM p D A B) i j=S D (fun l=>ent A i l*ent B l j)%p:=by rw[ent,zBT (by omega),wC,yG hj]
theorem zHN{D:Nat}{A B:Mx}(hA:A.length=D)(hB:B.length=D)(h:∀i,i<D→A.getD i []=B.getD i []):A=B:=by
 apply Kv;intro i
 by_cases hi:i<D
 ·have:=h i hi
  rw[J2,J2,J4 (by omega),J4 (by omega)]at this;rw[J4 (by omega),J4 (by omega)];exact congrArg ik this
 ·rw[K8 (by omega),K8 (by omega)]
theorem zLP{p:Int}{D:Nat}{A B C:Mx}(hA:A.length=D)(hB:B.length=D):PM p D (PM p D A B) C=PM p D A (PM p D B C):=by
 refine zHN (by rw[uG,uG,hA]) (by rw[uG,hA]) fun i hi=>?_
 rw[zBT (A:=PM p D A B) (by rw[uG];omega),zBT (A:=A) (B:=PM p D B C) (by omega)];unfold wC;refine yC fun j hj=>?_
 have e1:S D (fun l=>at0 ((PM p D A B).getD i []) l*ent C l j)%p=S D (fun l=>S D (fun q=>ent A i q*ent B q l)*ent C l j)%p:=kT fun l hl=>by
  have:=zN9 (p:=p) (B:=B) hA hi hl;simp only[ent]at this ⊢
  rw[this,Jt,K6,←Jt]
 have e2:S D (fun l=>at0 (A.getD i []) l*ent (PM p D B C) l j)%p=S D (fun q=>ent A i q*S D (fun l=>ent B q l*ent C l j))%p:=kT fun q hq=>by rw[zN9 hB hq hj,Jt,K6,←Jt]
 rw[e1,e2]
 congr 1
 have e3:(fun l=>S D (fun q=>ent A i q*ent B q l)*ent C l j)=fun l=>S D (fun q=>ent A i q*ent B q l*ent C l j):=funext fun l=>(zLO _ _).symm
 have e4:(fun q=>ent A i q*S D (fun l=>ent B q l*ent C l j))=fun q=>S D (fun l=>ent A i q*ent B q l*ent C l j):=funext fun q=>by rw[←zCP];exact xR fun l _=>by rw[Hv]
 rw[e3,e4];exact zHM D D
theorem uK(D:Nat):(idM D).length=D:=by simp[idM]
theorem zDq{D i:Nat}(h:i<D):(idM D).getD i []=mkv D fun j=>if j=i then 1 else 0:=by simp[idM,J2,h]
theorem tW{p:Int}{D:Nat}(hp:2≤p):Mat p D (idM D):=by refine⟨uK D,fun i hi=>?_⟩;rw[zDq hi];refine⟨zZ _ _,fun j hj=>?_⟩;rw[yG hj];split<;>omega
theorem qE{p a:Int}(h:0≤a∧a≤p-1):a%p=a:=Kb h.1 (by omega)
theorem zBV{p:Int}{D:Nat}{B:Mx}(hB:Mat p D B):PM p D (idM D) B=B:=by
 refine zHN (by rw[uG,uK]) hB.1 fun i hi=>?_
 rw[zBT (by rw[uK];exact hi),zDq hi,wC];obtain⟨h1,h2⟩:=hB.2 i hi;refine Eq.trans (yC fun j hj=>?_) (uA h1).symm;rw[zAm (k:=i) hi fun l hl gj=>by rw[yG hl,if_neg gj,Uo],yG hi,if_pos rfl,Jbq];exact qE (h2 j hj)
theorem zCQ{p:Int}{D:Nat}{A:Mx}(hA:Mat p D A):PM p D A (idM D)=A:=by
 refine zHN (by rw[uG,hA.1]) hA.1 fun i hi=>?_
 rw[zBT (by rw[hA.1];exact hi),wC];obtain⟨h1,h2⟩:=hA.2 i hi;refine Eq.trans (yC fun j hj=>?_) (uA h1).symm;rw[zAm (k:=j) hj fun l hl gj=>by rw[ent,zDq hl,yG hj,if_neg (fun h=>gj h.symm),Ld],ent,zDq hj,yG hj,if_pos rfl,Hb];exact qE (h2 j hj)
theorem zS7{p:Int}{D i j:Nat}{B:Mx}(hB:Mat p D B)(hi:i<D)(hj:j<D):ixO B (i:Int)=ik (B.getD i [])∧ixO (B.getD i []) (j:Int)=ik (ent B i j)∧(B.getD i []).length=D∧0≤ent B i j∧ent B i j≤p-1:=by obtain⟨h1,h2⟩:=hB.2 i hi;have:=hB.1;exact⟨yQ [] (by omega),yV (by omega),h1,h2 j hj⟩
def acc(p:Int)(D i:Nat)(r:List Int)(B:Mx):List Int:=mkv D fun j=>S i (fun l=>at0 r l*ent B l j)%p
def zD5(p:Int)(D i k:Nat)(r:List Int)(B:Mx):List Int:=mkv D fun j=>if j<k then S (i+1) (fun l=>at0 r l*ent B l j)%p else S i (fun l=>at0 r l*ent B l j)%p
theorem zJs{p:Int}{D i:Nat}{r:List Int}{B:Mx}:zD5 p D i 0 r B=acc p D i r B:=yC fun j _=>by rw[if_neg (by omega)]
theorem zJt{p:Int}{D i:Nat}{r:List Int}{B:Mx}:zD5 p D i D r B=acc p D (i+1) r B:=yC fun j hj=>by rw[if_pos hj]
theorem zLQ{p:Int}{D i k:Nat}{r:List Int}{B:Mx}(hk:k<D){a:Int}(ha:a=(at0 (zD5 p D i k r B) k+at0 r i*ent B i k)%p):(zD5 p D i k r B).set k a=zD5 p D i (k+1) r B:=by
 subst ha;simp only[zD5];rw[jL,yG hk,if_neg (by omega)];refine yC fun j hj=>?_
 by_cases hjk:j=k
 ·subst hjk
  rw[if_pos rfl,if_pos (by omega)];simp only[S];rw[Int.emod_add_emod]
 ·rw[if_neg hjk]
  by_cases gF:j<k
  ·rw[if_pos gF,if_pos (by omega)]
  ·rw[if_neg gF,if_neg (by omega)]
theorem zLR{p:Int}{D i k j:Nat}{r:List Int}{B:Mx}(hp:0<p)(hj:j<D):0≤at0 (zD5 p D i k r B) j∧at0 (zD5 p D i k r B) j≤p-1:=by
 rw[zD5,yG hj];split
 ·have h1:=Kx (S (i+1) fun l=>at0 r l*ent B l j) (show p≠0 by omega)
  have h2:=Kh (S (i+1) fun l=>at0 r l*ent B l j) hp;omega
 ·have h1:=Kx (S i fun l=>at0 r l*ent B l j) (show p≠0 by omega)
  have h2:=Kh (S i fun l=>at0 r l*ent B l j) hp;omega
theorem zHO{p:Int}{D i k:Nat}{r:List Int}{B:Mx}:(zD5 p D i k r B).length=D:=zZ _ _
theorem zPl{p:Int}{D i k j:Nat}{r:List Int}{B:Mx}(hj:j<D):ixO (zD5 p D i k r B) (j:Int)=ik (at0 (zD5 p D i k r B) j):=yV (by rw[zHO];exact hj)
theorem zLS{p:Int}{D:Nat}{r:List Int}{B:Mx}:J1 D (0:Int)=acc p D 0 r B:=by rw[tM];exact yC fun j _=>by simp[S]
theorem zJu{a b p:Int}(hp:p≤7)(ha:0≤a∧a≤p-1)(hb:0≤b∧b≤p-1):0≤a*b∧a*b≤36:=by have h1:0≤a*b:=U0 ha.1 hb.1;have h2:a*b≤6*6:=Ls (by omega) (by omega) hb.1 (by omega);omega
section
variable {p:Int}{D:Nat} (hp:Prime p) (hD:D≤8)
 include hp hD
theorem zEm{r:List Int}{B:Mx}(hr:Row p D r)(hB:Mat p D B):f_K p r B (D:Int)=ik (wC p D r B):=by
 have h7:=hp.pos;have hBl:=hB.1;have cO:=hr.1;unfold f_K;rw[xL (by omega),bs,zLS (p:=p) (r:=r) (B:=B)];have:=zX (body:=zTF p r B) (r:=acc p D D r B) (fun i=>(acc p D i r B,(i:Int))) D (fun i hi=>by
  have dD:=hr.2 i hi;unfold zTF;simp only
  rw[cO,hBl,yZ hi,zM,zM];have inner:=zX (body:=zTE p r B (acc p D i r B,(i:Int))) (r:=acc p D (i+1) r B) (fun k=>(zD5 p D i k r B,(k:Int))) D (fun k hk=>by
   obtain⟨b1,b2,b3,b4⟩:=zS7 hB hi hk;have ha:=zLR (p:=p) (i:=i) (k:=k) (r:=r) (B:=B) (by omega) hk;have hm:=zJu (by omega) dD b4;unfold zTE;simp only
   rw[zHO,yZ hk,zM,b1,bs,b3,yZ hk,zM,zPl hk,bs,yV (by omega),bs,bs,b2,bs,zE (by omega) (by omega),bs,zE (by omega) (by omega),bs];have dF:tB (at0 (zD5 p D i k r B) k+at0 r i*ent B i k) p=ik ((at0 (zD5 p D i k r B) k+at0 r i*ent B i k)%p):=by unfold tB;rw[if_neg (by omega),Kw (by omega)]
   rw[dF,bs,bs,zE (by omega) (by omega),bs,cs,Ja,zLQ hk rfl]) (by
   unfold zTE;simp only
   rw[zHO,vU,zR,zJt])
  rw[zJs,show((0:Nat):Int)=0 from rfl]at inner;rw[inner,bs,zE (by omega) (by omega),bs,cs]) (by
  unfold zTF;simp only
  rw[cO,vU,zR])
 rw[show((0:Nat):Int)=0 from rfl]at this;rw[this,bs];rfl
theorem zKk{a:Int}(h0:0≤a)(_h1:a≤1000):zKL a p=ik (a%p):=by
 have _:=hD;have h7:=hp.pos;have e1:=Kx a (show p≠0 by omega);have e2:=Kh a (show 0<p by omega);unfold zKL tB;rw[if_neg (by omega),bs,Kw h0,zE (by omega) (by omega),bs,if_neg (by omega),bs,Kw (by omega)]
 congr 1
 rw[Uc,K6]
theorem zFM{i:Nat}{r:List Int}{B:Mx}(hi:i<D)(hr:Row p D r)(hB:Mat p D B):f_s (acc p D i r B) (B.getD i []) (at0 r i) p=ik (acc p D (i+1) r B):=by
 have h7:=hp.pos;have dD:=hr.2 i hi;unfold f_s;have hl:(acc p D i r B).length=D:=zZ _ _;have inner:=zX (body:=zMD (acc p D i r B) (B.getD i []) (at0 r i) p) (r:=acc p D (i+1) r B) (fun k=>(zD5 p D i k r B,(k:Int))) D (fun k hk=>by
  obtain⟨b1,b2,b3,b4⟩:=zS7 hB hi hk;have ha:=zLR (p:=p) (i:=i) (k:=k) (r:=r) (B:=B) (by omega) hk;have hm:=zJu (by omega) dD b4;unfold zMD;simp only
  rw[hl,yZ hk,zM,zPl hk,bs,b2,bs,zE (by omega) (by omega),bs,zE (by omega) (by omega),bs,zKk hp hD (by omega) (by omega),bs,bs,zE (by omega) (by omega),bs,cs,Ja,zLQ hk rfl]) (by
  unfold zMD;simp only
  rw[hl,vU,zR,zJt])
 rw[zJs,show((0:Nat):Int)=0 from rfl]at inner;rw[inner,bs]
theorem zB5{r:List Int}{B:Mx}{q:Int}(hr:Row p D r)(hB:Mat p D B)(hq:q=(D:Int)):zUk r (zT.mk p q B)=ik (wC p D r B):=by
 subst hq;have cO:=hr.1;unfold zUk;simp only
 rw[xL (by omega),bs,zLS (p:=p) (r:=r) (B:=B)];have:=zX (body:=zME r (zT.mk p (D:Int) B)) (r:=acc p D D r B) (fun i=>(acc p D i r B,(i:Int))) D (fun i hi=>by
  have hBl:=hB.1;unfold zME;simp only
  rw[cO,yZ hi,zM,yV (by omega),bs,yQ [] (by omega),bs,zFM hp hD hi hr hB,bs,zE (by omega) (by omega),bs,cs]) (by
  unfold zME;simp only
  rw[cO,vU,zR])
 rw[show((0:Nat):Int)=0 from rfl]at this;rw[this,bs];rfl
theorem zJv{A B:Mx}{i:Nat}(hi:i<A.length):(PM p D A B).take i++[wC p D (A.getD i []) B]=(PM p D A B).take (i+1):=by
 have _:=hp;have _:=hD;rw[Jr (by rw[uG];exact hi)]
 congr 2
 have:=zBT (p:=p) (D:=D) (B:=B) hi;rw[J2,J4 (by rw[uG];exact hi)]at this;exact this.symm
theorem kL{A B:Mx}(hA:Mat p D A)(hB:Mat p D B):f_W p A B (D:Int)=ik (PM p D A B):=by
 have fT:=hA.1;unfold f_W;have:=zX (body:=zTG p A B (D:Int)) (r:=PM p D A B) (fun i=>((PM p D A B).take i,(i:Int))) D (fun i hi=>by
  unfold zTG;simp only
  rw[fT,yZ hi,zM,yQ [] (by omega),bs,zEm hp hD (hA.2 i hi) hB,bs,yO (by rw[Jw,uG];simp;omega),bs,zE (by omega) (by omega),bs,cs,zJv hp hD (by omega)]) (by
  unfold zTG;simp only
  rw[fT,vU,zR,Js (by rw[uG];omega)])
 rw[show((0:Nat):Int)=0 from rfl,Ka]at this;rw[this,bs]
theorem zI7{A B:Mx}{q:Int}(hA:Mat p D A)(hB:Mat p D B):zWh (zT.mk p q A) (zT.mk p (D:Int) B)=ik (zT.mk p (D:Int) (PM p D A B)):=by
 have fT:=hA.1;unfold zWh;have:=zX (body:=zMF (zT.mk p q A) (zT.mk p (D:Int) B)) (r:=PM p D A B) (fun i=>((PM p D A B).take i,(i:Int))) D (fun i hi=>by
  unfold zMF;simp only
  rw[fT,yZ hi,zM,yQ [] (by omega),bs,zB5 hp hD (hA.2 i hi) hB rfl,bs,yO (by rw[Jw,uG];simp;omega),bs,zE (by omega) (by omega),bs,cs,zJv hp hD (by omega)]) (by
  unfold zMF;simp only
  rw[fT,vU,zR,Js (by rw[uG];omega)])
 rw[show((0:Nat):Int)=0 from rfl,Ka]at this;rw[this,bs]
theorem zLT{i:Nat}(_hi:i<D):(J1 D (0:Int)).set i 1=mkv D fun j=>if j=i then 1 else 0:=by have _:=hp;have _:=hD;rw[tM,jL]
theorem zPm{i:Nat}(hi:i<D):(idM D).take i++[mkv D fun j=>if j=i then 1 else 0]=(idM D).take (i+1):=by
 have _:=hp;have _:=hD;rw[Jr (by rw[uK];exact hi)]
 congr 2
 have:=zDq hi;rw[J2,J4 (by rw[uK];exact hi)]at this;exact this.symm
theorem zHP:f_N (D:Int)=ik (idM D):=by
 unfold f_N;have:=zX (body:=zM8 (D:Int)) (r:=idM D) (fun i=>((idM D).take i,(i:Int))) D (fun i hi=>by
  unfold zM8;simp only
  rw[yZ hi,zM,xL (by omega),bs,vW,Ke,if_pos hi,bs,Ja,zLT hp hD hi,yO (by rw[Jw,uK];simp;omega),bs,zE (by omega) (by omega),bs,cs,zPm hp hD hi]) (by
  unfold zM8;simp only
  rw[vU,zR,Js (by rw[uK];omega)])
 rw[show((0:Nat):Int)=0 from rfl,Ka]at this;rw[this,bs]
theorem zDN:f_X p (D:Int)=ik (zT.mk p (D:Int) (idM D)):=by
 unfold f_X;have:=zX (body:=zQJ (D:Int)) (r:=idM D) (fun i=>((idM D).take i,(i:Int))) D (fun i hi=>by
  unfold zQJ;simp only
  rw[yZ hi,zM,xL (by omega),bs,vW,Ke,if_pos hi,bs,Ja,zLT hp hD hi,yO (by rw[Jw,uK];simp;omega),bs,zE (by omega) (by omega),bs,cs,zPm hp hD hi]) (by
  unfold zQJ;simp only
  rw[vU,zR,Js (by rw[uK];omega)])
 rw[show((0:Nat):Int)=0 from rfl,Ka]at this;rw[this,bs]
end
end Go.Pl

namespace Go.Pl
open Go Go.Ab Go.Wk Go.Pc
def nw:Nat→List Int→List Nat
 |_,[]=>[]
 |o,a::v=>J1 a.toNat o++nw (o+1) v
theorem zDr:∀(o:Nat)(u v:List Int),nw o (u++v)=nw o u++nw (o+u.length) v
 |o,[],v=>by simp[nw]
 |o,a::u,v=>by
  simp only[K4,nw,zDr (o+1) u v,Jb,J7]
  grind
theorem zKl{v:List Int}{i:Nat}(h:i<v.length):nw 0 (v.take (i+1))=nw 0 (v.take i)++J1 (at0 v i).toNat i:=by
 rw[Jr h,zDr,Jw,Hz (by omega),Jc];simp only[nw,Jd]
 grind
theorem zLU{n:Nat}:∀(o:Nat)(v:List Int),o+v.length≤n→ ∀w∈nw o v,w<n
 |o,[],_,w,h=>by grind[nw]
 |o,a::v,hv,w,h=>by
  simp only[nw,Je,J7]at h hv;rcases h with h|h
  ·grind
  ·exact zLU (o+1) v (by omega) w h
theorem zFN:∀(o:Nat)(v:List Int),(∀i,i<v.length→at0 v i≤6)→(nw o v).length≤6*v.length
 |o,[],_=>by simp[nw]
 |o,a::v,h=>by
  have h0:=h 0 (by simp);have:=zFN (o+1) v fun i hi=>by
   have:=h (i+1) (by grind)
   grind
  simp only[at0,Gw]at h0
  grind[nw]
def wM(p:Int)(D:Nat)(A:List Mx)(ws:List Nat)(B:Mx):Mx:=ws.foldl (fun B w=>PM p D B (A.getD w [])) B
theorem zDs{p:Int}{D:Nat}{A:List Mx}{u v:List Nat}{B:Mx}:wM p D A (u++v) B=wM p D A v (wM p D A u B):=by simp[wM,U1]
theorem zHQ{p:Int}{D:Nat}{A:List Mx}{w:Nat}:∀(k:Nat)(B:Mx),wM p D A (J1 k w) B=iter k (fun B=>PM p D B (A.getD w [])) B
 |0,_=>rfl
 |k+1,B=>by rw[Jq];show wM p D A (J1 k w) (PM p D B (A.getD w []))=_;rw[zHQ k];rfl
theorem zBW{p:Int}{D:Nat}{A:List Mx}(hp:0<p):∀(ws:List Nat){B:Mx},Mat p D B→Mat p D (wM p D A ws B)
 | [],_,hB=>hB
 |_w::ws,_,hB=>zBW hp ws (zBU hp hB.1)
theorem zHR{p:Int}{D:Nat}{A:List Mx}(hp:0<p){C:Mx}(hC:C.length=D):∀(ws:List Nat){B:Mx},Mat p D B→wM p D A ws (PM p D C B)=PM p D C (wM p D A ws B)
 | [],_,_=>rfl
 |w::ws,B,hB=>by show wM p D A ws (PM p D (PM p D C B) (A.getD w []))=PM p D C (wM p D A ws (PM p D B (A.getD w [])));rw[zLP hC hB.1,zHR hp hC ws (zBU hp hB.1)]
structure MOk (n:Nat) (m:zB) (D:Nat):Prop where
 p:Prime m.Prime
 d:m.Dim=(D:Int)
 d1:1≤D
 d3:D≤3
 len:m.zG.length=n
 mat:∀i,i<n→Mat m.Prime D (m.zG.getD i [])
structure zS8 (n:Nat) (m:zB) (D:Nat):Prop where
 p:Prime m.Prime
 d1:1≤D
 d3:D≤200
 len:m.zG.length=n
 mat:∀i,i<n→Mat m.Prime D (m.zG.getD i [])
theorem MOk.b{n D:Nat}{m:zB}(h:MOk n m D):zS8 n m D:=⟨h.p,h.d1,by have:=h.d3;omega,h.len,h.mat⟩
section
variable {n D:Nat}{m:zB} (hm:MOk n m D) (hn:n≤9)
 include hm hn
theorem zLV{v:List Int}(hl:v.length=n)(hv:∀i,i<n→0≤at0 v i∧at0 v i≤6):f_O m v=ik (wM m.Prime D m.zG (nw 0 v) (idM D)):=by
 have h7:=hm.p.pos;have h3:=hm.d3;have gf:=hm.len;unfold f_O;rw[hm.d,zHP hm.p (by omega),bs];have hI:∀i,Mat m.Prime D (wM m.Prime D m.zG (nw 0 (v.take i)) (idM D)):=by grind[zBW,tW]
 have:=zX (body:=zTI m v) (r:=wM m.Prime D m.zG (nw 0 v) (idM D)) (fun i=>(wM m.Prime D m.zG (nw 0 (v.take i)) (idM D),(i:Int))) n (fun i hi=>by
  have hvi:=hv i hi;unfold zTI;simp only
  rw[hl,yZ hi,zM];rw[vZ (S:=Mat m.Prime D) (body:=zTH m v (wM m.Prime D m.zG (nw 0 (v.take i)) (idM D),(i:Int))) (fun B=>B) (fun B=>PM m.Prime D B (m.zG.getD i [])) (at0 v i) hvi.1 (fun B hB=>zBU (by omega) hB.1) (fun B q hB hq=>by
   unfold zTH;simp only
   rw[yV (by omega),bs,iu hq,zM,yQ [] (by omega),bs,hm.d,kL hm.p (by omega) hB (hm.mat i hi),bs,zE (by omega) (by omega),bs,cs]) (fun B hB=>by
   unfold zTH;simp only
   rw[yV (by omega),bs,ir (by omega),zR]) (hI i),bs,zE (by omega) (by omega),bs,cs]
  grind[zKl,zDs,zHQ]) (by
  unfold zTI
  grind)
 rw[show((0:Nat):Int)=0 from rfl,Ka]at this
 grind[nw,wM]
abbrev enW(ws:List Nat):List Int:=ws.map fun(w:Nat)=>(w:Int)+1
theorem zDO{i:Nat}(hi:i<n):zOh m (i:Int)=ik (zT.mk m.Prime (D:Int) (m.zG.getD i [])):=by have _:=hn;have gf:=hm.len;unfold zOh;rw[yQ [] (by omega),bs,hm.d]
theorem zBe{ws:List Nat}(hw:∀w∈ws,w<n)(hl:ws.length≤1000000):f_E m (enW ws)=ik (zT.mk m.Prime (D:Int) (wM m.Prime D m.zG ws (idM D))):=by
 have h7:=hm.p.pos;have h3:=hm.d3;unfold f_E;rw[hm.d,zDN hm.p (by omega),bs];have hI:∀i,Mat m.Prime D (wM m.Prime D m.zG (ws.take i) (idM D)):=by grind[zBW,tW]
 have db:(enW ws).length=ws.length:=by simp
 have:=zX (body:=zUl m (enW ws)) (r:=(m.Prime,(D:Int),wM m.Prime D m.zG ws (idM D))) (fun i=>(m.Prime,(D:Int),wM m.Prime D m.zG (ws.take i) (idM D),(i:Int))) ws.length (fun i hi=>by
  have mC:=hw ws[i] (K3 hi);unfold zUl;simp only
  rw[db,yZ hi,zM,vW,K5,J4 hi];simp only[H4];rw[bs,zE (by omega) (by omega),bs,show((ws[i]:Nat):Int)+1-1=((ws[i]:Nat):Int)from by omega,zDO hm hn mC,bs,zI7 hm.p (by omega) (hI i) (hm.mat _ mC),bs,zE (by omega) (by omega),bs,cs,Jr hi,zDs];rfl) (by
  unfold zUl;simp)
 rw[show((0:Nat):Int)=0 from rfl,Ka]at this
 grind[wM]
end
theorem zAf{v:List Int}(hl:v.length≤9)(hv:∀i,i<v.length→0≤at0 v i∧at0 v i≤6):f_x v=ik (enW (nw 0 v)):=by
 unfold f_x;have gf:∀i,(nw 0 (v.take i)).length≤54:=fun i=>by
  have:=zFN 0 (v.take i) (by grind)
  grind
 have:=zX (body:=zUg v) (r:=enW (nw 0 v)) (fun i=>(enW (nw 0 (v.take i)),(i:Int))) v.length (fun i hi=>by
  have hvi:=hv i hi;have hli:=gf i;unfold zUg;simp only
  rw[yZ hi,zM,yV hi,bs];have inner:=zX (body:=zUf (enW (nw 0 (v.take i)),(i:Int)) (at0 v i)) (r:=enW (nw 0 (v.take (i+1)))) (fun k=>(enW (nw 0 (v.take i)++J1 k i),(k:Int))) (at0 v i).toNat (fun k hk=>by
   unfold zUf;simp only
   rw[iu (by omega),zM,zE (by omega) (by omega),bs,yO (by grind),bs,zE (by omega) (by omega),bs,cs]
   congr 3
   rw[Lw,←Jb];simp) (by
   unfold zUf;simp only
   rw[ir (by omega),zR,zKl hi])
  rw[show((0:Nat):Int)=0 from rfl,Hm,Jd]at inner
  grind[zE]) (by
  unfold zUg;simp)
 rw[show((0:Nat):Int)=0 from rfl,Ka]at this;simp only[nw,enW,U6]at this
 grind
theorem zNA{v o:Int}(h:zWg 1 (IntKind.wrap .u64 o)=ik (0,o)):zWg (IntKind.wrap .u64 (([v]:List Int).length:Int)) (IntKind.wrap .u64 o)=ik (0,o):=by rw[show IntKind.wrap .u64 (([v]:List Int).length:Int)=1 from by rfl];exact h
theorem zCR{v o:Int}(ho:Prime o):f_k [v] o=ik (J1 o.toNat v):=by
 unfold f_k;rcases ho with rfl|rfl|rfl|rfl
 ·have h:=zX (body:=zAh) (r:=[v,v]) (fun i=>match i with|0=>([v,0],1)|_=>([v,v],2)) 1 (fun i hi=>by
   match i,hi with
   |0,_=>rfl) (by rfl)
  rw[zNA (by rfl),bs];have hl:xF (IntKind.wrap .i64 2)=ik 2:=by rfl
  simp only[hl,bs];rw[show decide ((2:Int)<0)=iq from rfl,zR,show decide ((0:Int)> 0)=iq from rfl,zR,show decide ((2:Int)> 9223372036854775807)=iq from by decide,zR]
  grind[wQ]
 ·have h:=zX (body:=zAh) (r:=[v,v,v]) (fun i=>match i with|0=>([v,0,0],1)|1=>([v,v,0],2)|_=>([v,v,v],3)) 2 (fun i hi=>by
   match i,hi with
   |0,_=>rfl
   |1,_=>rfl) (by rfl)
  rw[zNA (by rfl),bs];have hl:xF (IntKind.wrap .i64 3)=ik 3:=by rfl
  simp only[hl,bs];rw[show decide ((3:Int)<0)=iq from rfl,zR,show decide ((0:Int)> 0)=iq from rfl,zR,show decide ((3:Int)> 9223372036854775807)=iq from by decide,zR]
  grind[wQ]
 ·have h:=zX (body:=zAh) (r:=[v,v,v,v,v]) (fun i=>match i with|0=>([v,0,0,0,0],1)|1=>([v,v,0,0,0],2)|2=>([v,v,v,v,0],4)|_=>([v,v,v,v,v],5)) 3 (fun i hi=>by
   match i,hi with
   |0,_=>rfl
   |1,_=>simp[zAh,yB,wQ,rng,inR]
   |2,_=>rfl) (by rfl)
  rw[zNA (by rfl),bs];have hl:xF (IntKind.wrap .i64 5)=ik 5:=by rfl
  simp only[hl,bs];rw[show decide ((5:Int)<0)=iq from rfl,zR,show decide ((0:Int)> 0)=iq from rfl,zR,show decide ((5:Int)> 9223372036854775807)=iq from by decide,zR];have e2:wQ (J1 5 (0:Int)) 0 (([v]:List Int).take ((J1 5 (0:Int)).length-0))=[v,0,0,0,0]:=by rfl
  grind
 ·have h:=zX (body:=zAh) (r:=[v,v,v,v,v,v,v]) (fun i=>match i with|0=>([v,0,0,0,0,0,0],1)|1=>([v,v,0,0,0,0,0],2)|2=>([v,v,v,v,0,0,0],4)|_=>([v,v,v,v,v,v,v],7)) 3 (fun i hi=>by
   match i,hi with
   |0,_=>rfl
   |1,_=>simp[zAh,yB,wQ,rng,inR]
   |2,_=>rfl) (by rfl)
  rw[zNA (by rfl),bs];have hl:xF (IntKind.wrap .i64 7)=ik 7:=by rfl
  simp only[hl,bs];rw[show decide ((7:Int)<0)=iq from rfl,zR,show decide ((0:Int)> 0)=iq from rfl,zR,show decide ((7:Int)> 9223372036854775807)=iq from by decide,zR];have e2:wQ (J1 7 (0:Int)) 0 (([v]:List Int).take ((J1 7 (0:Int)).length-0))=[v,0,0,0,0,0,0]:=by rfl
  simp_all
end Go.Pl

namespace Go.Pl
open Go Go.Ab Go.Wk Go.Pc
theorem IsB.b{o:Option Bool}{P:Prop}(h:IsB o P):IsB (o.bind fun r=>ik r) P:=by grind
theorem zLW{p:Int}{D:Nat}{r:List Int}(hp:Prime p)(hD:D≤8):IsB (zWe r p (D:Int)) (Row p D r):=by
 have h7:=hp.pos;unfold zWe
 by_cases h:r.length=D
 ·rw[zAl (by omega),zR]
  refine(zAe r.length (fun i=>0≤at0 r i∧at0 r i≤p-1) rfl (fun i hi _=>?_) ?_).iff ⟨fun g=>⟨h,by grind⟩,fun g=>by rw[h];exact g.2⟩
  ·refine tV (kQ _ _ _) (by omega) ?_
   unfold zPO;rw[yZ hi,zM,yV hi,bs,zE (by omega) (by omega),bs]
  ·unfold zPO
   simp
 ·rw[kR (by omega),zM]
  exact .inr ⟨rfl,fun g=>h g.1⟩
theorem zLX{p:Int}{D:Nat}{r:List Int}(hp:Prime p)(hD:D≤8):IsB (zVX p (D:Int) r) (Row p D r):=by
 have h7:=hp.pos;unfold zVX
 by_cases h:r.length=D
 ·rw[zAl (by omega),zR]
  refine(zAe r.length (fun i=>0≤at0 r i∧at0 r i≤p-1) rfl (fun i hi _=>?_) ?_).iff ⟨fun g=>⟨h,by grind⟩,fun g=>by rw[h];exact g.2⟩
  ·refine tV (zCG _ _ _) (by omega) ?_
   unfold zPL;rw[yZ hi,zM,yV hi,bs,zE (by omega) (by omega),bs]
  ·unfold zPL
   simp
 ·rw[kR (by omega),zM]
  exact .inr ⟨rfl,fun g=>h g.1⟩
theorem zQl{p:Int}{D:Nat}{B:Mx}(hp:Prime p)(hD:D≤8):IsB (zVY p (D:Int) B) (Mat p D B):=by
 unfold zVY
 by_cases h:B.length=D
 ·rw[zAl (by omega),zR]
  refine(zAe B.length (fun i=>Row p D (B.getD i [])) rfl (fun i hi _=>?_) ?_).iff ⟨fun g=>⟨h,by grind⟩,fun g=>by rw[h];exact g.2⟩
  ·refine tV (zLX hp hD) (by omega) ?_
   unfold zPM;rw[yZ hi,zM,yQ [] hi,bs]
  ·unfold zPM
   simp
 ·rw[kR (by omega),zM]
  exact .inr ⟨rfl,fun g=>h g.1⟩
theorem zI8{p:Int}{D:Nat}{B:Mx}(hp:Prime p)(hD:D≤8)(hB:B.length=D):IsB (zWf (zT.mk p (D:Int) B)) (Mat p D B):=by
 unfold zWf;simp only
 rcases zBR p with⟨h1,_⟩|⟨_,h2⟩
 ·rw[h1,bs,K0,zR]
  rcases kQ (D:Int) 0 8 with⟨h3,_⟩|⟨_,h4⟩
  ·rw[h3,bs,K0,zR,ir (by omega),zR]
   refine(zAe (body:=zMC (zT.mk p (D:Int) B)) D (fun i=>Row p D (B.getD i [])) rfl (fun i hi _=>?_) ?_).iff ⟨fun g=>⟨hB,g⟩,fun g=>g.2⟩
   ·refine tV (zLW hp hD) (by omega) ?_
    unfold zMC;simp only
    rw[hB,yZ hi,zM,yQ [] (by omega),bs]
   ·unfold zMC
    grind
  omega
 grind
theorem zHS{A B:Mx}(hA:A.length≤1000)(h:∀r∈A,r.length≤1000):zVZ A B=ik (A==B):=
 zJk (t:=zKK) (body:=zTJ A B) rfl (fun _=>rfl) (by omega) (by grind[zQj])
theorem zI9{A B:Mx}(hA:A.length≤1000)(h:∀r∈A,r.length≤1000):zWi A B=ik (A==B):=by unfold zWi;rw[zJk (f:=zYR A B) (t:=f_V) (body:=zUm A B) rfl (fun _=>rfl) (by omega) (by grind[zEk]),bs]
theorem Mat.small{p:Int}{D:Nat}{A:Mx}(h:Mat p D A)(hD:D≤8):A.length≤1000∧ ∀r∈A,r.length≤1000:=by
 refine⟨by have:=h.1;omega,fun r hr=>?_⟩;obtain⟨i,hi,rfl⟩:=L7.1 hr;have:=h.2 i (by rw[←h.1];exact hi);rw[J2,J4 hi]at this;have:=this.1
 grind
def zD6(x:SPr)(m:zB)(D:Nat):Prop:=
 ∀i,i<x.zA.length→wM m.Prime D m.zG (J1 (at0 x.zA i).toNat i) (idM D)=wM m.Prime D m.zG (nw 0 (x.zU.getD i [])) (idM D)∧
  ∀j,i+1≤j→j<x.zA.length→PM m.Prime D (m.zG.getD j []) (m.zG.getD i [])=PM m.Prime D (m.zG.getD i []) (wM m.Prime D m.zG (nw 0 ((x.zF.getD i []).getD (j-(i+1)) [])) (idM D))
theorem jE{x:SPr}{v:List Int}{i:Nat}(ho:Os x.zA)(h:Exp x.zA v i):v.length=x.zA.length∧ ∀j,j<x.zA.length→0≤at0 v j∧at0 v j≤6:=by have h1:=h.1.1;refine⟨h1,fun j hj=>?_⟩;have:=h.1.2 j (by omega);have:=(ho.2 j hj).pos;omega
section
variable {x:SPr}{m:zB}{D:Nat} (h:Pres x) (hm:MOk x.zA.length m D)
 include h hm
theorem zQm{i:Nat}(hi:i<x.zA.length):(x.zU.getD i []).length=x.zA.length∧ ∀j,j<x.zA.length→0≤at0 (x.zU.getD i []) j∧at0 (x.zU.getD i []) j≤6:=have _:=hm;jE h.os (h.tl i hi).1
theorem zNB{i j:Nat}(hi:i<x.zA.length)(hj:j<(x.zF.getD i []).length):((x.zF.getD i []).getD j []).length=x.zA.length∧ ∀q,q<x.zA.length→0≤at0 ((x.zF.getD i []).getD j []) q∧at0 ((x.zF.getD i []).getD j []) q≤6:=have _:=hm;jE h.os ((h.tl i hi).2.2 j hj)
theorem zQn:IsB ((zI (zTN x m) 0).bind fun r=>match r with|.inl _=>ik io|.inr r=>ik r) (zD6 x m D):=by
 have h6:=h.os.1;have h7:=hm.p.pos;have h3:=hm.d3;have gf:=hm.len;refine zAe x.zA.length (fun i=>wM m.Prime D m.zG (J1 (at0 x.zA i).toNat i) (idM D)=wM m.Prime D m.zG (nw 0 (x.zU.getD i [])) (idM D)∧
  ∀j,i+1≤j→j<x.zA.length→PM m.Prime D (m.zG.getD j []) (m.zG.getD i [])=PM m.Prime D (m.zG.getD i []) (wM m.Prime D m.zG (nw 0 ((x.zF.getD i []).getD (j-(i+1)) [])) (idM D))) rfl (fun i hi _=>?_) ?_
 ·have ck:=(h.os.2 i hi).pos
  have pz:=h.pl;have gE:=h.cl;obtain⟨p1,p2⟩:=zQm h hm hi;have t2:=(h.tl i hi).2.1;have hI:=tW (p:=m.Prime) (D:=D) h7.1;unfold zTN;rw[yZ hi,zM,hm.d,zHP hm.p (by omega),bs];rw[vZ (S:=Mat m.Prime D) (body:=zTL x m (i:Int)) (fun B=>B) (fun B=>PM m.Prime D B (m.zG.getD i [])) (at0 x.zA i) (by omega) (fun B hB=>zBU (by omega) hB.1) (fun B q hB hq=>by
   unfold zTL;simp only
   rw[yV hi,bs,iu hq,zM,yQ [] (by omega),bs,hm.d,kL hm.p (by omega) hB (hm.mat i hi),bs,zE (by omega) (by omega),bs,cs]) (fun B hB=>by
   unfold zTL;simp only
   rw[yV hi,bs,ir (by omega),zR]) hI,bs,yQ [] (by omega),bs,zLV hm (by omega) p1 p2,bs,←zHQ]
  have hs:=(zBW (p:=m.Prime) (D:=D) (A:=m.zG) (by omega) (J1 (at0 x.zA i).toNat i) hI).small (by omega);rw[zHS hs.1 hs.2,bs]
  by_cases hq:wM m.Prime D m.zG (J1 (at0 x.zA i).toNat i) (idM D)=wM m.Prime D m.zG (nw 0 (x.zU.getD i [])) (idM D)
  ·rw[show(wM m.Prime D m.zG (J1 (at0 x.zA i).toNat i) (idM D)==wM m.Prime D m.zG (nw 0 (x.zU.getD i [])) (idM D))=io from by grind,K0,zR,zE (by omega) (by omega),bs,cs]
   rcases chk (body:=zTM x m (i:Int)) x.zA.length (i+1) (by omega) (fun j=>PM m.Prime D (m.zG.getD j []) (m.zG.getD i [])=PM m.Prime D (m.zG.getD i []) (wM m.Prime D m.zG (nw 0 ((x.zF.getD i []).getD (j-(i+1)) [])) (idM D))) (fun _=>iq) (fun j h1 h2 _=>by
     obtain⟨c1,c2⟩:=zNB h hm (j:=j-(i+1)) hi (by omega);have hjm:=hm.mat j h2;have him:=hm.mat i hi;have hw:=zBW (p:=m.Prime) (D:=D) (A:=m.zG) (by omega) (nw 0 ((x.zF.getD i []).getD (j-(i+1)) [])) hI;have hs:=(zBU (p:=m.Prime) (B:=m.zG.getD i []) (by omega) hjm.1).small (by omega);refine tV (o:=ik (PM m.Prime D (m.zG.getD j []) (m.zG.getD i [])==PM m.Prime D (m.zG.getD i []) (wM m.Prime D m.zG (nw 0 ((x.zF.getD i []).getD (j-(i+1)) [])) (idM D)))) (IsB.of_bool (by simp)) (by omega) ?_;unfold zTM;rw[yZ h2,zM,yQ (i:=j) [] (by omega),bs,yQ (i:=i) [] (by omega),bs,hm.d,kL hm.p (by omega) hjm him,bs,bs,yQ (i:=i) [] (by omega),bs,zE (by omega) (by omega),bs,zE (by omega) (by omega),bs,show(j:Int)-(i:Int)-1=((j-(i+1):Nat):Int)from by omega,yQ [] (by omega),bs,zLV hm (by omega) c1 c2,bs,kL hm.p (by omega) him hw,bs,zHS hs.1 hs.2]) (by
     unfold zTM;simp)with⟨g1,g2⟩|⟨j,j1,j2,g1,g2⟩
   ·grind
   ·right
    rw[g1,bs]
    grind
  grind
 ·unfold zTN
  simp
end
def zWW(x:SPr)(m:zB):Prop:=zEl x∧ ∃D,MOk x.zA.length m D∧zD6 x m D
theorem zIA{x:SPr}{m:zB}(hl:x.zA.length≤1048576):IsB (zWa x m) (zWW x m):=by
 unfold zWa;rcases zN8 hl with⟨h1,h2⟩|⟨h1,h2⟩
 ·have h6:=h2.1.os.1
  rw[h1,bs,zM];unfold f_u;rcases zHF m.Prime with⟨p1,p2⟩|⟨p1,p2⟩
  ·rw[p1,bs,K0,zR]
   rcases zCG m.Dim 1 3 with⟨d1,d2⟩|⟨d1,d2⟩
   ·rw[d1,bs,K0,zR]
    obtain⟨D,hD⟩:∃D:Nat,m.Dim=(D:Int):=⟨m.Dim.toNat,by omega⟩
    by_cases gf:m.zG.length=x.zA.length
    ·rw[zAl (by omega),zR]
     rcases chk (body:=zTK x m) x.zA.length 0 (Kn _) (fun i=>Mat m.Prime D (m.zG.getD i [])) (fun _=>iq) (fun i _ hi _=>by
       refine tV (zQl p2 (D:=D) (by omega)) (by omega) ?_;unfold zTK;rw[yZ hi,zM,yQ [] (by omega),bs,hD]) (by
       unfold zTK;simp)with⟨g1,g2⟩|⟨i,_,hi,g1,g2⟩
     ·rw[show((0:Nat):Int)=0 from rfl]at g1
      have hm:MOk x.zA.length m D:=⟨p2,hD,by omega,by omega,gf,by grind⟩;rw[g1,bs];refine(zQn h2.1 hm).b.iff ⟨fun k2=>⟨h2,D,hm,k2⟩,fun⟨_,D',gD,hr⟩=>?_⟩;have:D'=D:=by have:=gD.d;omega
      grind
     ·rw[show((0:Nat):Int)=0 from rfl]at g1
      rw[g1,bs];refine .inr ⟨rfl,fun⟨_,D',gD,_⟩=>g2 ?_⟩;have:D'=D:=by have:=gD.d;omega
      rw[←this];exact gD.mat i hi
    ·rw[kR (by omega),zM]
     exact .inr ⟨rfl,fun⟨_,D',gD,_⟩=>gf gD.len⟩
   ·rw[d1,bs,Kk,zM]
    exact .inr ⟨rfl,fun⟨_,D',gD,_⟩=>d2 (by have:=gD.d;have:=gD.d1;have:=gD.d3;omega)⟩
  ·rw[p1,bs,Kk,zM]
   exact .inr ⟨rfl,fun⟨_,D',gD,_⟩=>p2 gD.p⟩
 ·rw[h1,bs,zR]
  exact .inr ⟨rfl,fun g=>h2 g.1⟩
end Go.Pl

namespace Go.Pl
open Go Go.Ab Go.Wk Go.Pc
abbrev Rl:=List Nat×List Nat
def r1(x:SPr)(i:Nat):Rl:=(J1 (at0 x.zA i).toNat i,nw 0 (x.zU.getD i []))
def r2(x:SPr)(i j:Nat):Rl:=([i+j+1,i],i::nw 0 ((x.zF.getD i []).getD j []))
def R2(x:SPr)(i:Nat):List Rl:=(Jf (x.zF.getD i []).length).map (r2 x i)
def wX(x:SPr):List Rl:=(Jf x.zA.length).map (r1 x)++(Jf x.zA.length).flatMap (R2 x)
abbrev enR(q:Rl):List Int×List Int:=(enW q.1,enW q.2)
section
variable {x:SPr} (h:Pres x)
 include h
theorem zYj{i:Nat}(hi:i<x.zA.length):(R2 x i).length≤9:=by
 have:=(h.tl i hi).2.1;have:=h.os.1
 grind[R2]
theorem zHT:∀i,i≤x.zA.length→((Jf i).flatMap (R2 x)).length≤9*i
 |0,_=>by simp
 |i+1,hi=>by
  have:=zHT i (by omega)
  grind[zYj,Lj]
theorem zV0{k i:Nat}:enW (J1 k i)=J1 k ((i:Int)+1):=by have _:=h;simp
theorem zAG:f_C x=ik ((wX x).map enR):=by
 have h6:=h.os.1;have pz:=h.pl;have gE:=h.cl;unfold f_C;have l1:=zX (body:=zUh x) (r:=((Jf x.zA.length).map (r1 x)).map enR) (fun i=>(((Jf i).map (r1 x)).map enR,(i:Int))) x.zA.length (fun i hi=>by
  obtain⟨p1,p2⟩:=jE h.os (h.tl i hi).1;unfold zUh;simp only
  rw[yZ hi,zM,yV hi,bs,zE (by omega) (by omega),bs,zCR (h.os.2 i hi),bs,yQ [] (by omega),bs,zAf (by omega) (by rw[p1];exact p2),bs,yO (by simp only[Ji,Le,J7,Jp];omega),bs,bs,cs,Lj];simp only[L8,Jo,U6,r1,enR,zV0 h,cs]) (by
  unfold zUh;simp)
 rw[show((0:Nat):Int)=0 from rfl]at l1;simp only[List.range_zero,U6]at l1;rw[l1,bs];have l3:=zX (body:=zUj x) (r:=(wX x).map enR) (fun i=>(((Jf x.zA.length).map (r1 x)++(Jf i).flatMap (R2 x)).map enR,(i:Int))) x.zA.length (fun i hi=>by
  have t2:=(h.tl i hi).2.1;have da:=zHT h i (by omega);unfold zUj;simp only
  rw[yZ hi,zM,yQ [] (by omega),bs];have l2:=zX (body:=zUi (((Jf x.zA.length).map (r1 x)++(Jf i).flatMap (R2 x)).map enR,(i:Int)) (x.zF.getD i [])) (r:=((Jf x.zA.length).map (r1 x)++(Jf (i+1)).flatMap (R2 x)).map enR)
   (fun j=>(((Jf x.zA.length).map (r1 x)++(Jf i).flatMap (R2 x)++(Jf j).map (r2 x i)).map enR,(j:Int))) (x.zF.getD i []).length (fun j hj=>by
    obtain⟨p1,p2⟩:=jE h.os ((h.tl i hi).2.2 j hj);have pD:=zFN 0 ((x.zF.getD i []).getD j []) (by grind);unfold zUi;simp only
    rw[yZ hj,zM,yQ [] hj,bs,zE (by omega) (by omega),bs,zE (by omega) (by omega),bs,zE (by omega) (by omega),bs,zAf (by omega) (by rw[p1];exact p2),bs,yO (by simp only[Ji,J7,Jp];omega),bs,yO (by simp only[Ji,J5,Le,J7,Jp];omega),bs,zE (by omega) (by omega),bs,cs,Lj];have e1:(i:Int)+(j:Int)+2=((i+j+1:Nat):Int)+1:=by omega
    simp only[L8,Jo,U6,r2,enR,enW,Jb,Lr,e1];rfl) (by
    unfold zUi;simp only
    rw[vU,zR,Lj,Ht]
    grind[R2])
  rw[show((0:Nat):Int)=0 from rfl]at l2
  grind[zE]) (by
  unfold zUj;simp only
  rw[vU,zR];rfl)
 grind
theorem zJw{q:Rl}(hq:q∈wX x):((∀w∈q.1,w<x.zA.length)∧q.1.length≤1000)∧(∀w∈q.2,w<x.zA.length)∧q.2.length≤1000:=by
 have h6:=h.os.1;simp only[wX,Je,Jm,Kr,Lo,R2]at hq;rcases hq with⟨i,hi,rfl⟩|⟨i,hi,j,hj,rfl⟩
 ·obtain⟨p1,p2⟩:=jE h.os (h.tl i hi).1
  have pD:=zFN 0 (x.zU.getD i []) (by rw[p1];exact fun i hi=>(p2 i hi).2);have ck:=(h.os.2 i hi).pos;refine⟨⟨fun w hw=>?_,?_⟩,fun w hw=>zLU 0 _ (by omega) w hw,by simp only[r1];omega⟩
  ·have:=Kc hw;omega
  ·simp only[r1,Jh];omega
 ·obtain⟨p1,p2⟩:=jE h.os ((h.tl i hi).2.2 j hj)
  have t2:=(h.tl i hi).2.1;have pD:=zFN 0 ((x.zF.getD i []).getD j []) (by rw[p1];exact fun i hi=>(p2 i hi).2);refine⟨⟨fun w hw=>?_,by simp[r2]⟩,fun w hw=>?_,by simp only[r2,J7];omega⟩
  ·simp only[r2,J8,Jau,or_false]at hw;omega
  ·simp only[r2,J8]at hw
   rcases hw with rfl|hw
   ·exact hi
   ·exact zLU 0 _ (by omega) w hw
variable {m:zB}{D:Nat} (hm:MOk x.zA.length m D)
 include hm
theorem zLY:(∀q∈wX x,wM m.Prime D m.zG q.1 (idM D)=wM m.Prime D m.zG q.2 (idM D))↔zD6 x m D:=by
 have h7:=hm.p.pos;have hI:=tW (p:=m.Prime) (D:=D) h7.1;have key:∀i j,i<x.zA.length→j<x.zA.length→ ∀ws,(wM m.Prime D m.zG [j,i] (idM D)=wM m.Prime D m.zG (i::ws) (idM D)↔PM m.Prime D (m.zG.getD j []) (m.zG.getD i [])=PM m.Prime D (m.zG.getD i []) (wM m.Prime D m.zG ws (idM D))):=fun i j hi hj ws=>by
  have fE:=hm.mat i hi;have bi:=hm.mat j hj;have e1:wM m.Prime D m.zG [j,i] (idM D)=PM m.Prime D (m.zG.getD j []) (m.zG.getD i []):=by show PM _ _ (PM _ _ (idM D) _) _=_;rw[zBV bi]
  have e2:wM m.Prime D m.zG (i::ws) (idM D)=PM m.Prime D (m.zG.getD i []) (wM m.Prime D m.zG ws (idM D)):=by show wM _ _ _ ws (PM _ _ (idM D) _)=_;rw[zBV fE,←zHR (by omega) fE.1 ws hI,zCQ fE]
  rw[e1,e2]
 constructor
 ·intro g i hi
  have t2:=(h.tl i hi).2.1;refine⟨g (r1 x i) (by simp only[wX,Je,Jm,Kr];grind),fun j h1 h2=>?_⟩;have:=g (r2 x i (j-(i+1))) (by
   simp only[wX,Je,Lo,Kr,R2,Jm]
   grind)
  simp only[r2]at this;rw[show i+(j-(i+1))+1=j from by omega]at this
  grind
 ·intro g q hq
  simp only[wX,Je,Jm,Kr,Lo,R2]at hq;rcases hq with⟨i,hi,rfl⟩|⟨i,hi,j,hj,rfl⟩
  ·exact(g i hi).1
  ·have t2:=(h.tl i hi).2.1
   have:=(g i hi).2 (i+j+1) (by omega) (by omega);rw[show i+j+1-(i+1)=j from by omega]at this;exact(key i (i+j+1) hi (by omega) _).2 this
theorem zQo:IsB ((zI (zUo m ((wX x).map enR)) 0).bind fun r=>match r with|.inl _=>ik io|.inr r=>ik r) (zD6 x m D):=by
 have h6:=h.os.1;have h7:=hm.p.pos;have h3:=hm.d3;have hI:=tW (p:=m.Prime) (D:=D) h7.1;have da:=zHT h x.zA.length (Jg _);have cO:(wX x).length≤1000:=by simp only[wX,J5,Ji,Le];omega
 refine(zAe (wX x).length (fun k=>wM m.Prime D m.zG ((wX x).getD k ([],[])).1 (idM D)=wM m.Prime D m.zG ((wX x).getD k ([],[])).2 (idM D)) rfl (fun k hk _=>?_) ?_).iff ⟨fun g=>(zLY h hm).1 fun q hq=>?_,fun g k hk=>(zLY h hm).2 g _ ?_⟩
 ·have gr:(wX x).getD k ([],[])∈wX x:=by
   rw[J2,J4 hk];exact K3 hk
  obtain⟨⟨g1,g2⟩,g3,g4⟩:=zJw h gr;have hs:=(zBW (p:=m.Prime) (D:=D) (A:=m.zG) (by omega) ((wX x).getD k ([],[])).1 hI).small (by omega);refine tV (o:=ik (wM m.Prime D m.zG ((wX x).getD k ([],[])).1 (idM D)==wM m.Prime D m.zG ((wX x).getD k ([],[])).2 (idM D))) (IsB.of_bool (by rw[beq_iff_eq])) (by omega) ?_;unfold zUo;rw[Ji,yZ hk,zM,vW,K5,J4 hk];rw[J2,J4 hk]at g1 g2 g3 g4 hs ⊢
  simp only[H4,Qd]at g1 g2 g3 g4 hs ⊢
  rw[bs,zBe hm h6 g1 (Hc g2 (by omega)),bs,zBe hm h6 g3 (Hc g4 (by omega)),bs];simp only
  rw[zI9 hs.1 hs.2]
 ·unfold zUo
  rw[Ji,vU,zR]
 ·obtain⟨k,hk,rfl⟩:=L7.1 hq
  have:=g k hk;rw[J2,J4 hk]at this;exact this
 ·rw[J2,J4 hk];exact K3 hk
end
theorem zIB{x:SPr}{m:zB}(hl:x.zA.length≤1048576)(_hal:m.zG.length≤1048576):IsB (f_I x m) (zWW x m):=by
 unfold f_I;rcases zET hl with⟨h1,h2⟩|⟨h1,h2⟩
 ·have h6:=h2.1.os.1
  rw[h1,bs,K0,zR];rcases zBR m.Prime with⟨p1,p2⟩|⟨p1,p2⟩
  ·rw[p1,bs,K0,zR]
   rcases kQ m.Dim 1 3 with⟨d1,d2⟩|⟨d1,d2⟩
   ·rw[d1,bs,K0,zR]
    obtain⟨D,hD⟩:∃D:Nat,m.Dim=(D:Int):=⟨m.Dim.toNat,by omega⟩
    by_cases gf:m.zG.length=x.zA.length
    ·rw[zAl (by omega),zR]
     rcases chk (body:=zUn m) m.zG.length 0 (Kn _) (fun i=>Mat m.Prime D (m.zG.getD i [])) (fun _=>iq) (fun i _ hi _=>by
       unfold zUn;rw[yZ hi,zM,yQ [] hi,bs,hD]
       by_cases hr:(m.zG.getD i []).length=D
       ·rw[zAl (by omega),zR]
        refine tV (zI8 p2 (D:=D) (by omega) hr) (by omega) ?_
        grind[zOh,yQ]
       ·rw[kR (by omega),zM]
        exact .inr ⟨rfl,fun g=>hr g.1⟩) (by
       unfold zUn;simp)with⟨g1,g2⟩|⟨i,_,hi,g1,g2⟩
     ·rw[show((0:Nat):Int)=0 from rfl]at g1
      have hm:MOk x.zA.length m D:=⟨p2,hD,by omega,by omega,gf,by grind⟩;rw[g1,bs,zAG h2.1];simp only
      rw[bs];refine(zQo h2.1 hm).iff ⟨fun k2=>⟨h2,D,hm,k2⟩,fun⟨_,D',gD,hr⟩=>?_⟩;have:D'=D:=by have:=gD.d;omega
      grind
     ·rw[show((0:Nat):Int)=0 from rfl]at g1
      rw[g1,bs];refine .inr ⟨rfl,fun⟨_,D',gD,_⟩=>g2 ?_⟩;have:D'=D:=by have:=gD.d;omega
      rw[←this];exact gD.mat i (by omega)
    ·rw[kR (by omega),zM]
     exact .inr ⟨rfl,fun⟨_,D',gD,_⟩=>gf gD.len⟩
   ·rw[d1,bs,Kk,zM]
    exact .inr ⟨rfl,fun⟨_,D',gD,_⟩=>d2 (by have:=gD.d;have:=gD.d1;have:=gD.d3;omega)⟩
  ·rw[p1,bs,Kk,zM]
   exact .inr ⟨rfl,fun⟨_,D',gD,_⟩=>p2 gD.p⟩
 ·rw[h1,bs,Kk,zM]
  exact .inr ⟨rfl,fun g=>h2 g.1⟩
end Go.Pl

namespace Go.Pl
open Go Go.Ab Go.Wk Go.Pc
theorem zFO{xs:List (List Int)}{i:Nat}(h:i<xs.length):(xs.take (i+1)).flatten=(xs.take i).flatten++xs.getD i []:=by grind[Jr]
theorem zKm{xs:List (List Int)}(i:Nat):(xs.take i).flatten.length≤xs.flatten.length:=by grind[Jb3]
theorem zQp{k:Nat}(hk:k≤1000000):zUp (k:Int)=ik []:=by
 unfold zUp;rw[ir (by omega),zR,zE (by decide) (by decide),bs,zE (by omega) (by omega),bs]
 by_cases h:(k:Int)-(0-0)> 0
 ·rw[iu h,zM]
  have e:uP ([]:List Int) ((k:Int)-(0-0)) 0=ik (J1 k 0):=by
   unfold uP
   grind
  rw[e,bs];rfl
 grind
theorem zAT{xs:List (List Int)}(hx:xs.length≤1000)(hf:xs.flatten.length≤1000000):f_y xs=ik xs.flatten:=by
 unfold f_y;have l1:=zX (body:=zUq xs) (r:=((xs.flatten.length:Nat):Int)) (fun i=>((((xs.take i).flatten.length:Nat):Int),(i:Int))) xs.length (fun i hi=>by
  have h1:=zFO hi;have h2:=zKm (xs:=xs) (i+1);have h3:=congrArg Jbf h1;rw[J5]at h3;unfold zUq;simp only
  rw[yZ hi,zM,yQ [] hi,bs,zE (by omega) (by omega),bs,ir (by omega),zR,zE (by omega) (by omega),bs,cs,h3]
  congr 3) (by
  unfold zUq;simp)
 rw[show((0:Nat):Int)=0 from rfl]at l1;simp only[Ka,G6,Jp]at l1;rw[show((0:Nat):Int)=0 from rfl]at l1;rw[l1,bs,zQp hf,bs];have l2:=zX (body:=zUr xs) (r:=xs.flatten) (fun i=>((xs.take i).flatten,(i:Int))) xs.length (fun i hi=>by
  have h1:=zFO hi;have h2:=zKm (xs:=xs) (i+1);have h3:=congrArg Jbf h1;rw[J5]at h3;unfold zUr;simp only
  rw[yZ hi,zM,yQ [] hi,bs,yO (by omega),bs,zE (by omega) (by omega),bs,cs,h1]) (by
  unfold zUr;simp)
 grind
end Go.Pl

namespace Go.Pl
open Go Go.Ab Go.Wk Go.Pc
section
variable {p:Int}
def uH(p:Int)(D:Nat)(r:List Int)(k:Int)(s:List Int):List Int:=mkv D fun j=>(at0 r j+k*at0 s j)%p
theorem zS9{D:Nat}{r s:List Int}{k:Int}:(uH p D r k s).length=D:=zZ _ _
def zIC(p:Int)(D i:Nat)(r:List Int)(k:Int)(s:List Int):List Int:=mkv D fun j=>if j<i then(at0 r j+k*at0 s j)%p else at0 r j
theorem zJx{D:Nat}{r s:List Int}{k:Int}(hr:r.length=D):zIC p D 0 r k s=r:=by
 conv=>rhs;rw[uA hr]
 exact yC fun j _=>by rw[if_neg (by omega)]
theorem zJy{D:Nat}{r s:List Int}{k:Int}:zIC p D D r k s=uH p D r k s:=yC fun j hj=>by rw[if_pos hj]
theorem zLZ{D i:Nat}{r s:List Int}{k a:Int}(ha:a=(at0 r i+k*at0 s i)%p):(zIC p D i r k s).set i a=zIC p D (i+1) r k s:=by
 simp only[zIC];rw[jL];refine yC fun j _=>?_
 by_cases h:j=i
 ·subst h;rw[if_pos rfl,if_pos (by omega),ha]
 ·rw[if_neg h]
  by_cases h2:j<i
  ·rw[if_pos h2,if_pos (by omega)]
  ·rw[if_neg h2,if_neg (by omega)]
theorem zPn{D i:Nat}{r s:List Int}{k:Int}(hi:i<D):at0 (zIC p D i r k s) i=at0 r i:=by rw[zIC,yG hi,if_neg (by omega)]
theorem zEU{D i:Nat}{r s:List Int}{k:Int}:(zIC p D i r k s).length=D:=zZ _ _
end
section
variable {p:Int} (hp:Prime p)
 include hp
theorem zMa{a:Int}(_h0:-1000≤a)(_h1:a≤1000):zKL a p=ik (a%p):=by
 have h7:=hp.pos;have e1:=Jb5 a (show 0<p by omega);have e2:=Jb6 a (show 0<p by omega);have e3:(Jbv a p+p)%p=a%p:=by
  rw[Uc];have:=Jan a p
  conv=>rhs;rw[←this]
  rw[Lt]
 unfold zKL tB;rw[if_neg (by omega),bs,zE (by omega) (by omega),bs,if_neg (by omega),bs,Kw (by omega),e3]
theorem zMb{a:Int}(_h0:-1000≤a)(_h1:a≤1000):zU1 a p=ik (a%p):=by
 have h7:=hp.pos;have e1:=Jb5 a (show 0<p by omega);have e2:=Jb6 a (show 0<p by omega);have e3:(Jbv a p+p)%p=a%p:=by
  rw[Uc];have:=Jan a p
  conv=>rhs;rw[←this]
  rw[Lt]
 unfold zU1 tB;rw[if_neg (by omega),bs]
 by_cases h:Jbv a p<0
 ·rw[iu h,zM,zE (by omega) (by omega),bs,←e3,Kb (by omega) (by omega)]
 ·rw[ir h,zR,←e3,Uc,Kb (by omega) (by omega)]
theorem kV{D:Nat}{r s:List Int}{k:Int}:Row p D (uH p D r k s):=by have h7:=hp.pos;refine⟨zZ _ _,fun i hi=>?_⟩;have e:at0 (uH p D r k s) i=(at0 r i+k*at0 s i)%p:=yG hi;have e1:=Kx (at0 r i+k*at0 s i) (show p≠0 by omega);have e2:=Kh (at0 r i+k*at0 s i) (show 0<p by omega);rw[e];omega
theorem zBX{k b:Int}(hk:-7≤k∧k≤7)(hb:0≤b∧b≤p-1):-49≤k*b∧k*b≤49:=by
 have h7:=hp.pos;rcases Int.le_total 0 k with h|h
 ·have h1:=U0 h hb.1
  have h2:=Ls hk.2 (show b≤7 by omega) hb.1 (by omega);omega
 ·have h1:=U0 (show 0≤ -k by omega) hb.1
  have h2:=Ls (show -k≤7 by omega) (show b≤7 by omega) hb.1 (by omega);rw[Int.neg_mul]at h1 h2;omega
theorem zA3{D:Nat}{r s:List Int}{k:Int}(hr:Row p D r)(hs:Row p D s)(hk:-7≤k∧k≤7)(hD:D≤1000000):f_s r s k p=ik (uH p D r k s):=by
 have h7:=hp.pos;have:=zX (body:=zMD r s k p) (r:=uH p D r k s) (fun i=>(zIC p D i r k s,(i:Int))) D (fun i hi=>by
  have a1:=hr.2 i hi;have a2:=hs.2 i hi;have a3:=zBX hp hk a2;unfold zMD;simp only
  rw[hr.1,yZ hi,zM,yV (by rw[zEU];exact hi),bs,yV (by rw[hs.1];exact hi),bs,zE (by omega) (by omega),bs,zPn hi,zE (by omega) (by omega),bs,zMa hp (by omega) (by omega),bs,bs,zE (by omega) (by omega),bs,cs,Ja,zLZ rfl]) (by
  unfold zMD;simp only
  rw[hr.1,vU,zR,zJy])
 rw[show((0:Nat):Int)=0 from rfl,zJx hr.1]at this;unfold f_s;rw[this,bs]
theorem uZ{D:Nat}{r s:List Int}{k:Int}(hr:Row p D r)(hs:Row p D s)(hk:-7≤k∧k≤7)(hD:D≤1000000):f_w p r k s=ik (uH p D r k s):=by
 have h7:=hp.pos;have:=zX (body:=zU2 p k s) (r:=uH p D r k s) (fun i=>(zIC p D i r k s,(i:Int))) D (fun i hi=>by
  have a1:=hr.2 i hi;have a2:=hs.2 i hi;have a3:=zBX hp hk a2;unfold zU2;simp only
  rw[zEU,yZ hi,zM,hs.1,yZ hi,zM,yV (by rw[zEU];exact hi),bs,yV (by rw[hs.1];exact hi),bs,zE (by omega) (by omega),bs,zPn hi,zE (by omega) (by omega),bs,zMb hp (by omega) (by omega),bs,bs,zE (by omega) (by omega),bs,cs,Ja,zLZ rfl]) (by
  unfold zU2;simp only
  rw[zEU,vU,zR,zJy])
 rw[show((0:Nat):Int)=0 from rfl,zJx hr.1]at this;unfold f_w;rw[qS (by rw[hr.1];omega),bs,this,bs]
end
theorem zEn{p:Int}{D:Nat}{r s:List Int}:uH p D r (p-1) s=uH p D r (-1) s:=yC fun j _=>by rw[show at0 r j+(p-1)*at0 s j=at0 r j+ -1*at0 s j+p*at0 s j from by rw[Qq];omega,Lt]
end Go.Pl

namespace Go.Pl
open Go Go.Ab Go.Wk Go.Pc
def VOk(n:Nat)(p:Int)(D:Nat)(vals:Mx):Prop:=vals.length=n∧ ∀i,i<n→Row p D (vals.getD i [])
def stp(m:zB)(D:Nat)(vals:Mx)(v:List Int)(w:Nat):List Int:=uH m.Prime D (wC m.Prime D v (m.zG.getD w [])) 1 (vals.getD w [])
def ev(m:zB)(D:Nat)(vals:Mx)(v:List Int)(ws:List Nat):List Int:=ws.foldl (stp m D vals) v
theorem zJz{m:zB}{D:Nat}{vals:Mx}{v:List Int}{a b:List Nat}:ev m D vals v (a++b)=ev m D vals (ev m D vals v a) b:=by simp[ev,U1]
theorem zNC{m:zB}{D:Nat}{vals:Mx}{w:Nat}:∀(k:Nat)(v:List Int),ev m D vals v (J1 k w)=iter k (fun v=>stp m D vals v w) v
 |0,_=>rfl
 |k+1,v=>by rw[Jq];show ev m D vals (stp m D vals v w) (J1 k w)=_;rw[zNC k];rfl
abbrev z0(D:Nat):List Int:=J1 D 0
theorem zHU{p:Int}{D:Nat}(hp:0<p):Row p D (z0 D):=by
 refine⟨by simp,fun i hi=>?_⟩
 grind
theorem vB{p:Int}{D:Nat}{r:List Int}{B:Mx}(hp:0<p):Row p D (wC p D r B):=by
 refine⟨zZ _ _,fun i hi=>?_⟩;have e1:=Kx (S D (fun l=>at0 r l*ent B l i)) (show p≠0 by omega);have e2:=Kh (S D (fun l=>at0 r l*ent B l i)) hp
 grind[wC,yG]
section
variable {n D:Nat}{m:zB} (hm:MOk n m D) (hn:n≤9) {vals:Mx} (hv:VOk n m.Prime D vals)
 include hm hn hv
theorem zBY{v:List Int}{w:Nat}:Row m.Prime D (stp m D vals v w):=by have _:=hn;have _:=hv;exact kV hm.p
theorem zEo{v:List Int}(h:Row m.Prime D v):∀ws,Row m.Prime D (ev m D vals v ws):=by
 intro ws
 induction ws generalizing v with
 |nil=>exact h
 |cons w ws ih=>exact ih (zBY hm hn hv)
theorem zB6{v:List Int}{w:Nat}(h:Row m.Prime D v)(hw:w<n):zMN m vals v (w:Int)=ik (stp m D vals v w):=by have _:=hn;have h7:=hm.p.pos;have h3:=hm.d3;unfold zMN;rw[yQ [] (by rw[hm.len];exact hw),bs,hm.d,zEm hm.p (by omega) h (hm.mat w hw),bs,yQ [] (by rw[hv.1];exact hw),bs,uZ hm.p (vB (by omega)) (hv.2 w hw) (by omega) (by omega),bs];rfl
theorem zGt{v x:List Int}(h:Row m.Prime D v)(hl:x.length=n)(hx:∀i,i<n→0≤at0 x i∧at0 x i≤6):f_P m vals v x=ik (ev m D vals v (nw 0 x)):=by
 have:=zX (body:=zU7 m vals x) (r:=ev m D vals v (nw 0 x)) (fun i=>(ev m D vals v (nw 0 (x.take i)),(i:Int))) n (fun i hi=>by
  have aU:=hx i hi;unfold zU7;simp only
  rw[hl,yZ hi,zM];rw[vZ (S:=Row m.Prime D) (body:=zU6 m vals x (ev m D vals v (nw 0 (x.take i)),(i:Int))) (fun v=>v) (fun v=>stp m D vals v i) (at0 x i) aU.1 (by grind[zBY]) (fun u q hu hq=>by
   unfold zU6;simp only
   rw[yV (by omega),bs,iu hq,zM,zB6 hm hn hv hu hi,bs,zE (by omega) (by omega),bs,cs]) (fun u hu=>by
   unfold zU6;simp only
   rw[yV (by omega),bs,ir (by omega),zR]) (zEo hm hn hv h _),bs,zE (by omega) (by omega),bs,cs]
  grind[zKl,zJz,zNC]) (by
  unfold zU7
  grind)
 rw[show((0:Nat):Int)=0 from rfl,Ka]at this
 grind[nw,ev,f_P]
theorem zEV{ws:List Nat}(hw:∀w∈ws,w<n)(hl:ws.length≤1000):zU8 m vals (enW ws)=ik (ev m D vals (z0 D) ws):=by
 have h7:=hm.p.pos;have h3:=hm.d3;unfold zU8;rw[hm.d,xL (by omega),bs];have hz:=zHU (p:=m.Prime) (D:=D) (by omega);have db:(enW ws).length=ws.length:=by simp
 have:=zX (body:=zMO m vals (enW ws)) (r:=ev m D vals (z0 D) ws) (fun i=>(ev m D vals (z0 D) (ws.take i),(i:Int))) ws.length (fun i hi=>by
  have mC:=hw ws[i] (K3 hi);have hr:=zEo hm hn hv hz (ws.take i);unfold zMO;simp only
  rw[db,yZ hi,zM,vW,K5,J4 hi];simp only[H4];rw[bs,zE (by omega) (by omega),bs,show((ws[i]:Nat):Int)+1-1=((ws[i]:Nat):Int)from by omega,zDO hm hn mC,bs,zB5 hm.p (by omega) hr (hm.mat _ mC) rfl,bs,bs,yQ [] (by rw[hv.1];exact mC),bs,zA3 hm.p (vB (by omega)) (hv.2 _ mC) (by omega) (by omega),bs,zE (by omega) (by omega),bs,cs,Jr hi,zJz];rfl) (by
  unfold zMO;simp)
 rw[show((0:Nat):Int)=0 from rfl,Ka]at this
 grind[ev]
end
section
variable {x:SPr} (h:Pres x) {m:zB}{D:Nat} (hm:MOk x.zA.length m D) {vals:Mx} (hv:VOk x.zA.length m.Prime D vals)
 include h hm hv
abbrev dfc(m:zB)(D:Nat)(vals:Mx)(q:Rl):List Int:=uH m.Prime D (ev m D vals (z0 D) q.1) (-1) (ev m D vals (z0 D) q.2)
theorem zKn:(wX x).length≤100:=by
 have _:=hv;have _:=hm;have h6:=h.os.1;have da:=zHT h x.zA.length (Jg _)
 grind[wX]
theorem zKo:zWv x m vals=ik ((wX x).map (dfc m D vals)):=by
 have h6:=h.os.1;have h7:=hm.p.pos;have h3:=hm.d3;have cO:=zKn h hm hv;have hz:=zHU (p:=m.Prime) (D:=D) (by omega);unfold zWv;rw[zAG h,bs];have:=zX (body:=zMP m vals ((wX x).map enR)) (r:=(wX x).map (dfc m D vals)) (fun i=>(((wX x).map (dfc m D vals)).take i,(i:Int))) (wX x).length (fun i hi=>by
  have gr:(wX x)[i]∈wX x:=K3 hi;obtain⟨⟨g1,g2⟩,g3,g4⟩:=zJw h gr;unfold zMP;simp only
  rw[Ji,yZ hi,zM,vW,K5,J4 hi];simp only[H4];rw[bs,zEV hm h6 hv g1 g2,bs,zEV hm h6 hv g3 g4,bs,zA3 hm.p (zEo hm h6 hv hz _) (zEo hm h6 hv hz _) (by omega) (by omega),bs,yO (by simp;omega),bs,zE (by omega) (by omega),bs,cs,Jr (by simpa using hi)];simp) (by
  unfold zMP;simp only
  rw[Ji,vU,zR,Js (by simp)])
 grind
end
end Go.Pl

namespace Go.Pl
open Go Go.Ab Go.Wk Go.Pc
theorem zMc{a b:Int}(h:a=b):(a==b)=io:=by simp[h]
theorem zMd{a b:Int}(h:a≠b):(a==b)=iq:=by simp[h]
end Go.Pl

namespace Go.Pl
open Go Go.Ab Go.Wk Go.Pc
theorem IsB.both{o o':Option Bool}{P:Prop}(h:IsB o P)(h':IsB o' P):(o=ik io∧o'=ik io∧P)∨(o=ik iq∧o'=ik iq∧ ¬P):=by
 rcases h with⟨h1,h2⟩|⟨h1,h2⟩<;>rcases h' with⟨h3,h4⟩|⟨h3,h4⟩
 ·exact .inl ⟨h1,h3,h2⟩
 ·exact absurd h2 h4
 ·exact absurd h4 h2
 ·exact .inr ⟨h1,h3,h2⟩
end Go.Pl

namespace Go.Pl
open Go Go.Ab Go.Wk Go.Pc
def Sp(p:Int)(n:Nat)(R:Mx)(v:List Int):Prop:=∃c:Nat→Int,∀j,j<n→(S R.length fun i=>c i*ent R i j)%p=at0 v j%p
section
variable {p:Int}{n:Nat}{R R':Mx}{u v w:List Int}
theorem qN{i:Nat}(hi:i<R.length):Sp p n R (R.getD i []):=by refine⟨fun l=>if l=i then 1 else 0,fun j _=>?_⟩;rw[zAm (k:=i) hi (fun l _ hl=>by simp[hl])];simp
theorem zBf{k:Int}(hv:Sp p n R v)(hw:Sp p n R w)(h:∀j,j<n→at0 u j%p=(at0 v j+k*at0 w j)%p):Sp p n R u:=by
 obtain⟨c,hc⟩:=hv;obtain⟨d,hd⟩:=hw;refine⟨fun i=>c i+k*d i,fun j hj=>?_⟩;have e:(S R.length fun i=>(c i+k*d i)*ent R i j)=(S R.length fun i=>c i*ent R i j)+k*(S R.length fun i=>d i*ent R i j):=by rw[←zCP,←zCO];exact xR fun i _=>by rw[Qt,Hv]
 rw[e,h j hj,Kd,hc j hj,Jt,hd j hj,←Jt,←Kd]
theorem zEW(h:∀j,j<n→at0 u j%p=0):Sp p n R u:=by refine⟨fun _=>0,fun j hj=>?_⟩;rw[h j hj,xR (g:=fun _=>0) (fun i _=>by simp),qM];simp
theorem kW(h:∀i,i<R.length→Sp p n R' (R.getD i []))(hv:Sp p n R v):Sp p n R' v:=by
 obtain⟨c,hc⟩:=hv;have key:∀m,m≤R.length→ ∃d:Nat→Int,∀j,j<n→(S R'.length fun i=>d i*ent R' i j)%p=(S m fun i=>c i*ent R i j)%p:=by
  intro m
  induction m with
  |zero=>intro _;exact⟨fun _=>0,fun j _=>by rw[xR (g:=fun _=>0) (fun i _=>by simp),qM];rfl⟩
  |succ m ih=>
   intro hm;obtain⟨d,hd⟩:=ih (by omega);obtain⟨e,he⟩:=h m (by omega);refine⟨fun i=>d i+c m*e i,fun j hj=>?_⟩;have e1:(S R'.length fun i=>(d i+c m*e i)*ent R' i j)=(S R'.length fun i=>d i*ent R' i j)+c m*(S R'.length fun i=>e i*ent R' i j):=by rw[←zCP,←zCO];exact xR fun i _=>by rw[Qt,Hv]
   rw[e1,Kd,hd j hj,Jt,he j hj,←Jt,←Kd];rfl
 obtain⟨d,hd⟩:=key R.length (Jg _);exact⟨d,fun j hj=>by rw[hd j hj,hc j hj]⟩
end
def jM(p:Int)(n:Nat)(R R':Mx):Prop:=(∀i,i<R.length→Sp p n R' (R.getD i []))∧ ∀i,i<R'.length→Sp p n R (R'.getD i [])
theorem jM.refl{p:Int}{n:Nat}{R:Mx}:jM p n R R:=⟨fun _ h=>qN h,fun _ h=>qN h⟩
theorem jM.symm{p:Int}{n:Nat}{R R':Mx}(h:jM p n R R'):jM p n R' R:=⟨h.2,h.1⟩
theorem jM.trans{p:Int}{n:Nat}{R R' R2:Mx}(h:jM p n R R')(h':jM p n R' R2):jM p n R R2:=⟨fun i hi=>kW h'.1 (h.1 i hi),fun i hi=>kW h.2 (h'.2 i hi)⟩
theorem jM.iff{p:Int}{n:Nat}{R R':Mx}{v:List Int}(h:jM p n R R'):Sp p n R v↔Sp p n R' v:=⟨fun g=>kW h.1 g,fun g=>kW h.2 g⟩
structure Red (p:Int) (n:Nat) (R:Mx) (pv:Nat→Nat):Prop where
 row:∀i,i<R.length→Row p n (R.getD i [])
 lt:∀i,i<R.length→pv i<n
 one:∀i,i<R.length→ent R i (pv i)=1
 low:∀i,i<R.length→ ∀j,j<pv i→ent R i j=0
 off:∀i k,i<R.length→k<R.length→k≠i→ent R k (pv i)=0
 mono:∀i j,i<j→j<R.length→pv i<pv j
section
variable {p:Int} (hp:1<p) {n:Nat}{R R':Mx}{pv pv':Nat→Nat}{v:List Int}
theorem Red.coef(h:Red p n R pv){c:Nat→Int}(hc:∀j,j<n→(S R.length fun i=>c i*ent R i j)%p=at0 v j%p){k:Nat}(hk:k<R.length):c k%p=at0 v (pv k)%p:=by rw[←hc (pv k) (h.lt k hk),zAm (k:=k) hk (fun i hi gj=>by rw[h.off k i hk hi gj];simp),h.one k hk];simp
theorem Red.expand(h:Red p n R pv)(hv:Sp p n R v):∀j,j<n→at0 v j%p=(S R.length fun i=>at0 v (pv i)*ent R i j)%p:=by obtain⟨c,hc⟩:=hv;intro j hj;rw[←hc j hj];exact kT fun i hi=>by rw[Jt,h.coef hc hi,←Jt]
theorem Red.lead(h:Red p n R pv)(hv:Sp p n R v)(gj:∃j,j<n∧at0 v j%p≠0):∃i,i<R.length∧(∀j,j<pv i→at0 v j%p=0)∧at0 v (pv i)%p≠0:=by
 have hx:=h.expand hv;have h1:∃i,i<R.length∧at0 v (pv i)%p≠0:=by
  refine Classical.byContradiction fun hn=>?_
  obtain⟨j,hj,bh⟩:=gj;refine bh ?_;rw[hx j hj,kT (g:=fun _=>0) (fun i hi=>by
   have:at0 v (pv i)%p=0:=Classical.byContradiction fun h0=>hn ⟨i,hi,h0⟩
   rw[Jt,this];simp),qM];rfl
 obtain⟨i,⟨hi,eh⟩,eF⟩:=zDE h1;refine⟨i,hi,fun j hj=>?_,eh⟩;have bR:j<n:=Nat.lt_trans hj (h.lt i hi);rw[hx j bR,kT (g:=fun _=>0) (fun k hk=>by
  rcases Jk k i with hki|hki
  ·have:at0 v (pv k)%p=0:=Classical.byContradiction fun h0=>eF k hki ⟨hk,h0⟩
   rw[Jt,this];simp
  ·have h2:pv i≤pv k:=by
    rcases Jk i k with h3|h3
    ·exact Jcn (h.mono i k h3 hk)
    ·rw[show i=k from by omega];exact Jg _
   rw[h.low k hk j (by omega)];simp),qM];rfl
 include hp
theorem Red.row_lead(h:Red p n R pv){i:Nat}(hi:i<R.length):(∃j,j<n∧at0 (R.getD i []) j%p≠0)∧(∀j,j<pv i→at0 (R.getD i []) j%p=0)∧at0 (R.getD i []) (pv i)%p≠0:=by
 have h1:at0 (R.getD i []) (pv i)%p≠0:=by have:=h.one i hi;simp only[ent]at this;rw[this,Kb (by omega) hp];omega
 refine⟨⟨pv i,h.lt i hi,h1⟩,fun j hj=>?_,h1⟩;have:=h.low i hi j hj;simp only[ent]at this;rw[this];rfl
theorem Red.piv_in(h:Red p n R pv)(h':Red p n R' pv')(hs:∀i,i<R.length→Sp p n R' (R.getD i [])){i:Nat}(hi:i<R.length):∃k,k<R'.length∧pv' k=pv i:=by
 obtain⟨g1,g2,g3⟩:=h.row_lead hp hi;obtain⟨k,hk,g4,g5⟩:=h'.lead (hs i hi) g1;refine⟨k,hk,?_⟩;rcases U8 (pv' k) (pv i)with h1|h1|h1
 ·exact absurd (g2 _ h1) g5
 ·exact h1
 ·exact absurd (g4 _ h1) g3
theorem Red.piv_eq(h:Red p n R pv)(h':Red p n R' pv')(hs:jM p n R R'):∀i,(i<R.length↔i<R'.length)∧(i<R.length→pv i=pv' i):=by
 intro i
 induction i using Nat.strongRecOn with
 |_ i ih=>
  have a:i<R.length→i<R'.length∧pv' i≤pv i:=fun hi=>by
   obtain⟨k,hk,e⟩:=h.piv_in hp h' hs.1 hi;have hki:i≤k:=by
    refine Classical.byContradiction fun hn=>?_
    have h1:=(ih k (by omega)).2 (by omega);have h2:=h.mono k i (by omega) hi;omega
   refine⟨by omega,?_⟩;rcases Jk i k with h3|h3
   ·have:=h'.mono i k h3 hk;omega
   ·have aD:i=k:=by omega
    subst aD;omega
  have b:i<R'.length→i<R.length∧pv i≤pv' i:=fun hi=>by
   obtain⟨k,hk,e⟩:=h'.piv_in hp h hs.2 hi;have hki:i≤k:=by
    refine Classical.byContradiction fun hn=>?_
    have h1:=(ih k (by omega)).2 hk;have h2:=h'.mono k i (by omega) hi;omega
   refine⟨by omega,?_⟩;rcases Jk i k with h3|h3
   ·have:=h.mono i k h3 hk;omega
   ·have aD:i=k:=by omega
    subst aD;omega
  exact⟨⟨fun hi=>(a hi).1,fun hi=>(b hi).1⟩,fun hi=>by have:=(a hi).2;have:=(b (a hi).1).2;omega⟩
theorem Red.unique(h:Red p n R pv)(h':Red p n R' pv')(hs:jM p n R R'):R=R':=by
 have p7:=h.piv_eq hp h' hs;have hl:R.length=R'.length:=by
  rcases U8 R.length R'.length with g|g|g
  ·have:=(p7 R.length).1.2 g;omega
  ·exact g
  ·have:=(p7 R'.length).1.1 g;omega
 refine zHN (D:=R.length) rfl hl.symm fun i hi=>?_
 have fE:i<R'.length:=by omega
 have r1:=h.row i hi;have r2:=h'.row i fE;rw[uA r1.1,uA r2.1];refine yC fun j hj=>?_
 have hx:=h'.expand (hs.1 i hi) j hj;rw[xR (g:=fun k=>(if k=i then 1 else 0)*ent R' k j) (fun k hk=>by
  congr 1
  have e:=(p7 k).2 (by omega)
  by_cases hki:k=i
  ·subst hki;rw[if_pos rfl,←e];exact h.one k hi
  ·rw[if_neg hki,←e];exact h.off k i (by omega) hi (Ne.symm hki)),zAm (k:=i) fE (fun k _ hk=>by simp[hk])]at hx
 simp only[if_true,Jbq,ent]at hx;have a1:=r1.2 j hj;have a2:=r2.2 j hj;rw[Kb a1.1 (by omega),Kb a2.1 (by omega)]at hx;exact hx
end
end Go.Pl

namespace Go.Pl
open Go Go.Ab Go.Wk Go.Pc
def mkR(m:Nat)(F:Nat→List Int):Mx:=(Jf m).map F
theorem sK{m:Nat}{F:Nat→List Int}:(mkR m F).length=m:=by simp[mkR]
theorem kM{m:Nat}{F:Nat→List Int}{i:Nat}(h:i<m):(mkR m F).getD i []=F i:=by simp[mkR,J2,h]
theorem zKp{m:Nat}{F:Nat→List Int}{i:Nat}(h:i<m):ixO (mkR m F) (i:Int)=ik (F i):=by rw[yQ [] (by rw[sK];exact h),kM h]
theorem qF{m:Nat}{F G:Nat→List Int}(h:∀i,i<m→F i=G i):mkR m F=mkR m G:=by simp only[mkR];exact Qe fun i hi=>h i (Kr.1 hi)
theorem zYk{R:Mx}{m:Nat}(h:R.length=m):R=mkR m (fun i=>R.getD i []):=zHN (D:=m) h sK fun i hi=>by rw[kM hi]
theorem zGC{m:Nat}{F:Nat→List Int}{i:Nat}{a:List Int}:(mkR m F).set i a=mkR m (fun k=>if k=i then a else F k):=by
 apply Kv;intro k
 by_cases hk:k<m
 ·by_cases h:i=k
  ·subst h;simp[mkR,hk]
  ·rw[Jd4 h];simp[mkR,hk,Ne.symm h]
 ·rw[K8 (by simp[mkR];omega),K8 (by simp[mkR];omega)]
theorem zEX{m:Nat}{F:Nat→List Int}{i j:Nat}(h:i<m):ent (mkR m F) i j=at0 (F i) j:=by simp only[ent,kM h]
theorem zSA{s:Nat→Int×Int×Int×Int}(n:Nat){r:Int×Int}(h:∀i,i<n→zQN (s i)=ik (.inl (s (i+1))))(he:zQN (s n)=ik (.inr r)){p q:Int}(hq:zKL r.2 p=ik q)(h1:r.1=1)(hs:s 0=(p,(s 0).2.1,0,1)):
  f_R (s 0).2.1 p=ik (q,io):=by
 unfold f_R;rw[←hs,zX s n h he,bs,hq,bs,h1];rfl
def zSB:List (Int×Int×Int×Int)→Nat→Int×Int×Int×Int:=fun l i=>l.getD i (0,0,0,0)
theorem tN(l:List (Int×Int×Int×Int))(n:Nat){r:Int×Int}(h:∀i,i<n→zQN (zSB l i)=ik (.inl (zSB l (i+1))))(he:zQN (zSB l n)=ik (.inr r)){p q x:Int}(hq:zKL r.2 p=ik q)(h1:r.1=1)(hs:zSB l 0=(p,x,0,1)):
  f_R x p=ik (q,io):=by
 have:=zSA (s:=zSB l) n h he hq h1 (by rw[hs]);rw[hs]at this;exact this
theorem lt1{P:Nat→Prop}(h0:P 0):∀i,i<1→P i:=fun i hi=>by rw[show i=0 from by omega];exact h0
theorem lt2{P:Nat→Prop}(h0:P 0)(h1:P 1):∀i,i<2→P i:=fun i hi=>by match i,hi with|0,_=>exact h0|1,_=>exact h1
theorem lt3{P:Nat→Prop}(h0:P 0)(h1:P 1)(h2:P 2):∀i,i<3→P i:=fun i hi=>by match i,hi with|0,_=>exact h0|1,_=>exact h1|2,_=>exact h2
theorem zEY{p x:Int}(hp:Prime p)(h0:1≤x)(h1:x≤p-1):∃r,f_R x p=ik (r,io)∧0≤r∧r≤p-1∧(x*r)%p=1:=by
 have c:(p=2∧x=1)∨(p=3∧(x=1∨x=2))∨(p=5∧(x=1∨x=2∨x=3∨x=4))∨(p=7∧(x=1∨x=2∨x=3∨x=4∨x=5∨x=6)):=by unfold Prime at hp;omega
 rcases c with⟨rfl,rfl⟩|⟨rfl,rfl|rfl⟩|⟨rfl,rfl|rfl|rfl|rfl⟩|⟨rfl,rfl|rfl|rfl|rfl|rfl|rfl⟩
 ·exact⟨1,tN [(2,1,0,1),(1,0,1,-2)] 1 (lt1 (by decide+kernel)) (r:=(1,1)) (by decide+kernel) (by decide+kernel) rfl rfl,by decide,by decide,by decide⟩
 ·exact⟨1,tN [(3,1,0,1),(1,0,1,-3)] 1 (lt1 (by decide+kernel)) (r:=(1,1)) (by decide+kernel) (by decide+kernel) rfl rfl,by decide,by decide,by decide⟩
 ·exact⟨2,tN [(3,2,0,1),(2,1,1,-1),(1,0,-1,3)] 2 (lt2 (by decide+kernel) (by decide+kernel)) (r:=(1,-1)) (by decide+kernel) (by decide+kernel) rfl rfl,by decide,by decide,by decide⟩
 ·exact⟨1,tN [(5,1,0,1),(1,0,1,-5)] 1 (lt1 (by decide+kernel)) (r:=(1,1)) (by decide+kernel) (by decide+kernel) rfl rfl,by decide,by decide,by decide⟩
 ·exact⟨3,tN [(5,2,0,1),(2,1,1,-2),(1,0,-2,5)] 2 (lt2 (by decide+kernel) (by decide+kernel)) (r:=(1,-2)) (by decide+kernel) (by decide+kernel) rfl rfl,by decide,by decide,by decide⟩
 ·exact⟨2,tN [(5,3,0,1),(3,2,1,-1),(2,1,-1,2),(1,0,2,-5)] 3 (lt3 (by decide+kernel) (by decide+kernel) (by decide+kernel)) (r:=(1,2)) (by decide+kernel) (by decide+kernel) rfl rfl,by decide,by decide,by decide⟩
 ·exact⟨4,tN [(5,4,0,1),(4,1,1,-1),(1,0,-1,5)] 2 (lt2 (by decide+kernel) (by decide+kernel)) (r:=(1,-1)) (by decide+kernel) (by decide+kernel) rfl rfl,by decide,by decide,by decide⟩
 ·exact⟨1,tN [(7,1,0,1),(1,0,1,-7)] 1 (lt1 (by decide+kernel)) (r:=(1,1)) (by decide+kernel) (by decide+kernel) rfl rfl,by decide,by decide,by decide⟩
 ·exact⟨4,tN [(7,2,0,1),(2,1,1,-3),(1,0,-3,7)] 2 (lt2 (by decide+kernel) (by decide+kernel)) (r:=(1,-3)) (by decide+kernel) (by decide+kernel) rfl rfl,by decide,by decide,by decide⟩
 ·exact⟨5,tN [(7,3,0,1),(3,1,1,-2),(1,0,-2,7)] 2 (lt2 (by decide+kernel) (by decide+kernel)) (r:=(1,-2)) (by decide+kernel) (by decide+kernel) rfl rfl,by decide,by decide,by decide⟩
 ·exact⟨2,tN [(7,4,0,1),(4,3,1,-1),(3,1,-1,2),(1,0,2,-7)] 3 (lt3 (by decide+kernel) (by decide+kernel) (by decide+kernel)) (r:=(1,2)) (by decide+kernel) (by decide+kernel) rfl rfl,by decide,by decide,by decide⟩
 ·exact⟨3,tN [(7,5,0,1),(5,2,1,-1),(2,1,-1,3),(1,0,3,-7)] 3 (lt3 (by decide+kernel) (by decide+kernel) (by decide+kernel)) (r:=(1,3)) (by decide+kernel) (by decide+kernel) rfl rfl,by decide,by decide,by decide⟩
 ·exact⟨6,tN [(7,6,0,1),(6,1,1,-1),(1,0,-1,7)] 2 (lt2 (by decide+kernel) (by decide+kernel)) (r:=(1,-1)) (by decide+kernel) (by decide+kernel) rfl rfl,by decide,by decide,by decide⟩
end Go.Pl

namespace Go.Pl
open Go Go.Ab Go.Wk Go.Pc
structure zQq (p:Int) (n m:Nat) (rows:Mx) (c:Nat) (M:Mx) (d:Nat) (pv:Nat→Nat):Prop where
 len:M.length=m
 row:∀i,i<m→Row p n (M.getD i [])
 dm:d≤m
 lt:∀i,i<d→pv i<c
 one:∀i,i<d→ent M i (pv i)=1
 low:∀i,i<d→ ∀j,j<pv i→ent M i j=0
 off:∀i k,i<d→k<m→k≠i→ent M k (pv i)=0
 mono:∀i j,i<j→j<d→pv i<pv j
 zero:∀k,d≤k→k<m→ ∀j,j<c→ent M k j=0
 sp:jM p n M rows
theorem zBZ{p:Int}{n m:Nat}{F:Nat→List Int}{i:Nat}(h:i<m):Sp p n (mkR m F) (F i):=by have:=qN (p:=p) (n:=n) (R:=mkR m F) (i:=i) (by rw[sK];exact h);rw[kM h]at this;exact this
theorem zSC(a e r p:Int):a%p=((a+(0-e)*r)%p+e*r)%p:=by rw[Kd,K6,←Kd,show a+(0-e)*r+e*r=a from by rw[Qq,Uo];omega]
section
variable {p:Int} (hp:Prime p) {n m:Nat}{rows:Mx}{c:Nat}{M:Mx}{d:Nat}{pv:Nat→Nat} (h:zQq p n m rows c M d pv) (hc:c<n) (hd:d<m)
 include hp h hc hd
theorem zQq.pivot{t:Nat}(ht:d≤t)(tu:t<m)(gj:ent M t c≠0){q:Int}(hq:(ent M t c*q)%p=1):
  zQq p n m rows (c+1) (mkR m fun i=>if i=d then mkv n fun j=>(ent M t j*q)%p else uH p n (if i=t then M.getD d []else M.getD i []) (0-at0 (if i=t then M.getD d []else M.getD i []) c) (mkv n fun j=>(ent M t j*q)%p)) (d+1) (fun i=>if i=d then c else pv i):=by
 have h7:=hp.pos;have pr:∀j,j<n→at0 (mkv n fun j=>(ent M t j*q)%p) j=(ent M t j*q)%p:=fun j hj=>yG hj
 have p0:∀j,j<c→(ent M t j*q)%p=0:=fun j hj=>by rw[h.zero t ht tu j hj];simp
 have prow:Row p n (mkv n fun j=>(ent M t j*q)%p):=⟨zZ _ _,fun j hj=>by have e1:=Kx (ent M t j*q) (show p≠0 by omega);have e2:=Kh (ent M t j*q) (show 0<p by omega);rw[pr j hj];omega⟩
 have hG:∀i,i<m→i≠d→Row p n (if i=t then M.getD d []else M.getD i []):=fun i hi _=>by
  split
  ·exact h.row d hd
  ·exact h.row i hi
 have eo:∀i j,i<m→i≠d→j<n→ent (mkR m fun i=>if i=d then mkv n fun j=>(ent M t j*q)%p else uH p n (if i=t then M.getD d []else M.getD i []) (0-at0 (if i=t then M.getD d []else M.getD i []) c) (mkv n fun j=>(ent M t j*q)%p)) i j=(at0 (if i=t then M.getD d []else M.getD i []) j+(0-at0 (if i=t then M.getD d []else M.getD i []) c)*((ent M t j*q)%p))%p:=fun i j hi eE hj=>by rw[zEX hi,if_neg eE,uH,yG hj,pr j hj]
 have el:∀i j,i<m→i≠d→j<c→ent (mkR m fun i=>if i=d then mkv n fun j=>(ent M t j*q)%p else uH p n (if i=t then M.getD d []else M.getD i []) (0-at0 (if i=t then M.getD d []else M.getD i []) c) (mkv n fun j=>(ent M t j*q)%p)) i j=at0 (if i=t then M.getD d []else M.getD i []) j:=fun i j hi eE hj=>by rw[eo i j hi eE (by omega),p0 j hj,Ld,H2];have:=(hG i hi eE).2 j (by omega);exact Kb this.1 (by omega)
 have ed:∀j,j<n→ent (mkR m fun i=>if i=d then mkv n fun j=>(ent M t j*q)%p else uH p n (if i=t then M.getD d []else M.getD i []) (0-at0 (if i=t then M.getD d []else M.getD i []) c) (mkv n fun j=>(ent M t j*q)%p)) d j=(ent M t j*q)%p:=fun j hj=>by rw[zEX hd,if_pos rfl,pr j hj]
 have ec:∀i,i<m→i≠d→ent (mkR m fun i=>if i=d then mkv n fun j=>(ent M t j*q)%p else uH p n (if i=t then M.getD d []else M.getD i []) (0-at0 (if i=t then M.getD d []else M.getD i []) c) (mkv n fun j=>(ent M t j*q)%p)) i c=0:=fun i hi eE=>by rw[eo i c hi eE hc,hq,Hb];rw[show at0 (if i=t then M.getD d []else M.getD i []) c+(0-at0 (if i=t then M.getD d []else M.getD i []) c)=0 from by omega];simp
 have fS:∀i,i<d→(if i=t then M.getD d []else M.getD i [])=M.getD i []:=fun i hi=>by rw[if_neg (by omega)]
 have bG:∀i,d≤i→i<m→ ∀j,j<c→at0 (if i=t then M.getD d []else M.getD i []) j=0:=fun i hi eh j hj=>by
  split
  ·exact h.zero d (Jg _) hd j hj
  ·exact h.zero i hi eh j hj
 refine⟨sK,fun i hi=>?_,by omega,fun i hi=>?_,fun i hi=>?_,fun i hi j hj=>?_,fun i k hi hk eE=>?_,fun i j gO hj=>?_,fun k hk fy j hj=>?_,?_⟩
 ·rw[kM hi]
  split
  ·exact prow
  ·exact kV hp
 ·by_cases e7:i=d
  ·rw[if_pos e7];omega
  ·rw[if_neg e7];have:=h.lt i (by omega);omega
 ·by_cases e7:i=d
  ·subst e7;rw[if_pos rfl,ed c hc,hq]
  ·have h1:=h.lt i (by omega)
   rw[if_neg e7,el i _ (by omega) e7 h1,fS i (by omega)];exact h.one i (by omega)
 ·by_cases e7:i=d
  ·subst e7
   rw[if_pos rfl]at hj;rw[ed j (by omega),p0 j hj]
  ·rw[if_neg e7]at hj
   have h1:=h.lt i (by omega);rw[el i j (by omega) e7 (by omega),fS i (by omega)];exact h.low i (by omega) j hj
 ·by_cases e7:i=d
  ·subst e7
   rw[if_pos rfl];exact ec k hk eE
  ·have h1:=h.lt i (by omega)
   rw[if_neg e7]
   by_cases mr:k=d
   ·subst mr
    rw[ed _ (by omega),h.off i t (by omega) tu (by omega)];simp
   ·rw[el k _ hk mr h1]
    split
    ·exact h.off i d (by omega) hd (Ne.symm e7)
    ·exact h.off i k (by omega) hk eE
 ·by_cases hjd:j=d
  ·subst hjd
   rw[if_pos rfl,if_neg (by omega)];exact h.lt i (by omega)
  ·rw[if_neg hjd,if_neg (by omega)];exact h.mono i j gO (by omega)
 ·rcases Jk j c with hjc|hjc
  ·rw[el k j fy (by omega) hjc];exact bG k (by omega) fy j hjc
  ·rw[show j=c from by omega];exact ec k fy (by omega)
 ·refine jM.trans ⟨fun i hi=>?_,fun i hi=>?_⟩ h.sp
  ·rw[sK]at hi
   rw[kM hi];have hr:Sp p n M (mkv n fun j=>(ent M t j*q)%p):=by
    refine zBf (k:=q) (zEW (u:=[]) fun j _=>by simp[at0]) (qN (R:=M) (i:=t) (by rw[h.len];exact tu)) fun j hj=>?_
    rw[pr j hj,K6,U9];simp[at0]
   split
   ·exact hr
   ·refine zBf (k:=0-at0 (if i=t then M.getD d []else M.getD i []) c) (v:=if i=t then M.getD d []else M.getD i []) ?_ hr fun j hj=>?_
    ·split
     ·exact qN (by rw[h.len];exact hd)
     ·exact qN (by rw[h.len];exact hi)
    ·rw[uH,yG hj,K6]
  ·rw[h.len]at hi
   have hr:=zBZ (p:=p) (n:=n) (m:=m) (F:=fun i=>if i=d then mkv n fun j=>(ent M t j*q)%p else uH p n (if i=t then M.getD d []else M.getD i []) (0-at0 (if i=t then M.getD d []else M.getD i []) c) (mkv n fun j=>(ent M t j*q)%p)) hd;simp only[if_true]at hr;have hg:∀k,k<m→k≠d→Sp p n (mkR m fun i=>if i=d then mkv n fun j=>(ent M t j*q)%p else uH p n (if i=t then M.getD d []else M.getD i []) (0-at0 (if i=t then M.getD d []else M.getD i []) c) (mkv n fun j=>(ent M t j*q)%p)) (if k=t then M.getD d []else M.getD k []):=fun k hk mr=>by
    have h1:=zBZ (p:=p) (n:=n) (m:=m) (F:=fun i=>if i=d then mkv n fun j=>(ent M t j*q)%p else uH p n (if i=t then M.getD d []else M.getD i []) (0-at0 (if i=t then M.getD d []else M.getD i []) c) (mkv n fun j=>(ent M t j*q)%p)) hk;simp only[if_neg mr]at h1;refine zBf (k:=at0 (if k=t then M.getD d []else M.getD k []) c) h1 hr fun j hj=>?_
    rw[uH,yG hj,pr j hj];exact zSC _ _ _ _
   by_cases eg:i=t
   ·
    subst eg;refine zBf (k:=ent M i c) (zEW (u:=[]) fun j _=>by simp[at0]) hr fun j hj=>?_
    rw[pr j hj];have e1:(ent M i c*((ent M i j*q)%p))%p=(ent M i j*((ent M i c*q)%p))%p:=by
     rw[Jt,K6,←Jt,Jt (ent M i j),K6,←Jt]
     congr 1
     rw[←Hv,←Hv,U9 (ent M i c)]
    rw[show at0 ([]:List Int) j=0 from by simp[at0],Lp,e1,hq,Hb]
   ·by_cases e7:i=d
    ·subst e7
     have:=hg t tu (by omega);rw[if_pos rfl]at this;exact this
    ·have:=hg i hi e7
     rw[if_neg eg]at this;exact this
end
end Go.Pl

namespace Go.Pl
open Go Go.Ab Go.Wk Go.Pc
theorem zCa{v:List Int}(h:v.length≤1000000):f_J v=ik v:=by unfold f_J;rw[yO (by simp;omega),bs,Jx]
theorem zID{rows:Mx}(hm:rows.length≤1000000)(hn:∀i,i<rows.length→(rows.getD i []).length≤1000000):zWq rows=ik rows:=by
 unfold zWq;have:=zX (body:=zMI rows) (r:=rows) (fun i=>(rows.take i,(i:Int))) rows.length (fun i hi=>by
  unfold zMI;simp only
  rw[yZ hi,zM,yQ [] hi,bs,zCa (hn i hi),bs,yO (by simp;omega),bs,zE (by omega) (by omega),bs,cs,Jr hi,J2,J4 hi];rfl) (by
  unfold zMI;simp only
  rw[vU,zR,H5])
 rw[show((0:Nat):Int)=0 from rfl,Ka]at this;rw[this,bs]
theorem zQr{M:Mx}{d c m n:Nat}(hm:M.length=m)(hd:d≤m)(hmm:m≤1000000)(fO:∀i,i<m→(M.getD i []).length=n)(hc:c<n):
  ∃t:Nat,d≤t∧t≤m∧zI (zIF (M,(d:Int),(c:Int))) (d:Int)=ik (t:Int)∧(∀k,d≤k→k<t→ent M k c=0)∧(t<m→ent M t c≠0):=by
 have key:∀k,k≤m-d→ ∃t:Nat,m-k≤t∧t≤m∧zI (zIF (M,(d:Int),(c:Int))) ((m-k:Nat):Int)=ik (t:Int)∧(∀q,m-k≤q→q<t→ent M q c=0)∧(t<m→ent M t c≠0):=by
  intro k
  induction k with
  |zero=>
   intro _;refine⟨m,by omega,Jg _,?_,fun q h1 h2=>by omega,fun h=>by omega⟩;rw[xH];unfold zIF;simp only
   rw[hm,show m-0=m from rfl,vU,zR]
  |succ k ih=>
   intro hk;obtain⟨t,h1,h2,h3,h4,h5⟩:=ih (by omega);have gF:m-(k+1)<m:=by omega
   by_cases hz:ent M (m-(k+1)) c=0
   ·refine⟨t,by omega,h2,?_,fun q q1 q2=>?_,h5⟩
    ·rw[xH]
     have e:zIF (M,(d:Int),(c:Int)) ((m-(k+1):Nat):Int)=ik (.inl ((m-k:Nat):Int)):=by
      unfold zIF;simp only
      rw[hm,yZ gF,zM,yQ [] (by omega),bs,yV (by rw[fO _ gF];exact hc),bs,zMc hz,zM,zE (by omega) (by omega),bs,cs,show m-(k+1)+1=m-k from by omega]
     rw[e];exact h3
    ·rcases Jk (m-(k+1)) q with g|g
     ·exact h4 q (by omega) q2
     ·rw[show q=m-(k+1)from by omega];exact hz
   ·refine⟨m-(k+1),Jg _,by omega,?_,fun q q1 q2=>by omega,fun _=>hz⟩
    rw[xH];have e:zIF (M,(d:Int),(c:Int)) ((m-(k+1):Nat):Int)=ik (.inr ((m-(k+1):Nat):Int)):=by
     unfold zIF;simp only
     rw[hm,yZ gF,zM,yQ [] (by omega),bs,yV (by rw[fO _ gF];exact hc),bs,zMd hz,zR]
    rw[e]
 obtain⟨t,h1,h2,h3,h4,h5⟩:=key (m-d) (Jg _);rw[show m-(m-d)=d from by omega]at h1 h3 h4;exact⟨t,h1,h2,h3,h4,h5⟩
section
variable {p:Int} (hp:Prime p) {n m:Nat}{M:Mx}{d c t:Nat}
 include hp
theorem zND{F:Nat→List Int}{q:Int}{b:Bool}(hd:d<m)(hr:Row p n (F d))(hn:n≤1000000)(hq:0≤q∧q≤p-1){v:List Int}(hv:v.length=n){s:Mx×Int×Int}(hs:s.2.1=(d:Int)):
  zI (zMJ p s (q,b) v) (mkR m F,0)=ik (mkR m fun i=>if i=d then mkv n fun j=>(at0 (F d) j*q)%p else F i):=by
 have h7:=hp.pos;have:=zX (body:=zMJ p s (q,b) v) (r:=mkR m fun i=>if i=d then mkv n fun j=>(at0 (F d) j*q)%p else F i) (fun k=>(mkR m fun i=>if i=d then mkv n (fun j=>if j<k then(at0 (F d) j*q)%p else at0 (F d) j)else F i,(k:Int))) n (fun k hk=>by
  have a1:=hr.2 k hk;have a2:=zBX hp (k:=q) ⟨by omega,by omega⟩ a1;have a3:=U0 a1.1 hq.1;rw[U9]at a2;unfold zMJ;simp only
  rw[hv,yZ hk,zM,hs,zKp hd];simp only[bs,if_true];rw[yV (by rw[zZ];exact hk),yG hk,if_neg (by omega)];simp only[bs];rw[zE (by omega) (by omega)];simp only[bs,tB];rw[if_neg (by omega)];simp only[bs];rw[Kw a3,zE (by omega) (by omega)];simp only[bs,Ja,cs];rw[zGC]
  congr 3
  refine qF fun i _=>?_
  by_cases hi:i=d
  ·rw[if_pos hi,if_pos hi,jL]
   refine yC fun j _=>?_
   by_cases hj:j=k
   ·subst hj;rw[if_pos rfl,if_pos (by omega)]
   ·rw[if_neg hj]
    by_cases bh:j<k
    ·rw[if_pos bh,if_pos (by omega)]
    ·rw[if_neg bh,if_neg (by omega)]
  ·rw[if_neg hi,if_neg hi,if_neg hi]) (by
  unfold zMJ;simp only
  rw[hv,vU,zR]
  congr 2
  refine qF fun i _=>?_
  split
  ·exact yC fun j hj=>by rw[if_pos hj]
  ·rfl)
 rw[show((0:Nat):Int)=0 from rfl]at this;rw[←this]
 congr 2
 refine qF fun i _=>?_
 split
 ·rename_i e;subst e
  conv=>lhs;rw[uA hr.1]
  exact yC fun j _=>by rw[if_neg (by omega)]
 ·rfl
theorem zNE{F:Nat→List Int}(hd:d<m)(hc:c<n)(hr:∀i,i<m→Row p n (F i))(hn:n≤1000000)(hm:m≤1000000){r21:Mx}(hl:r21.length=m){s:Mx×Int×Int}(hs:s.2.1=(d:Int))(p5:s.2.2=(c:Int)):
  zI (zOi p s r21) (mkR m F,0)=ik (mkR m fun i=>if i=d then F d else uH p n (F i) (0-at0 (F i) c) (F d)):=by
 have h7:=hp.pos;have:=zX (body:=zOi p s r21) (r:=mkR m fun i=>if i=d then F d else uH p n (F i) (0-at0 (F i) c) (F d)) (fun k=>(mkR m fun i=>if i<k∧i≠d then uH p n (F i) (0-at0 (F i) c) (F d)else F i,(k:Int))) m (fun k hk=>by
  have a1:=(hr k hk).2 c hc;unfold zOi;simp only
  rw[hl,yZ hk,zM,hs,p5]
  by_cases mr:k=d
  ·subst mr
   rw[zAl rfl,zR,zE (by omega) (by omega),bs,cs]
   congr 3
   refine qF fun i _=>?_
   by_cases hi:i=k
   ·subst hi;rw[if_neg (by omega),if_neg (by omega)]
   ·by_cases eh:i<k
    ·rw[if_pos ⟨eh,hi⟩,if_pos ⟨by omega,hi⟩]
    ·rw[if_neg (by omega),if_neg (by omega)]
  ·rw[kR (by omega),zM,zKp hk,zKp hd]
   simp only[bs,ne_eq,not_true_eq_false,and_false,if_false,Jbs,false_and];rw[yV (by rw[(hr k hk).1];exact hc)];simp only[bs];rw[zE (by omega) (by omega)];simp only[bs];rw[zA3 hp (hr k hk) (hr d hd) (by omega) hn,bs,zE (by omega) (by omega)];simp only[bs,Ja,cs];rw[zGC]
   congr 3
   refine qF fun i _=>?_
   by_cases hi:i=k
   ·subst hi;rw[if_pos rfl,if_pos ⟨by omega,mr⟩]
   ·rw[if_neg hi]
    by_cases eh:i<k∧ ¬i=d
    ·rw[if_pos eh,if_pos ⟨by omega,eh.2⟩]
    ·rw[if_neg eh,if_neg (by omega)]) (by
  unfold zOi;simp only
  rw[hl,vU,zR]
  congr 2
  refine qF fun i hi=>?_
  by_cases e7:i=d
  ·rw[if_pos e7,if_neg (by omega),e7]
  ·rw[if_neg e7,if_pos ⟨hi,e7⟩])
 rw[show((0:Nat):Int)=0 from rfl]at this;rw[←this]
 congr 2
end
end Go.Pl

namespace Go.Pl
open Go Go.Ab Go.Wk Go.Pc
theorem Red.empty{p:Int}{n:Nat}:Red p n [] (fun _=>0):=⟨fun _ h=>by simp at h,fun _ h=>by simp at h,fun _ h=>by simp at h,fun _ h=>by simp at h,fun _ _ h=>by simp at h,fun _ _ _ h=>by simp at h⟩
theorem zQq.take{p:Int}{n m:Nat}{rows:Mx}{c:Nat}{M:Mx}{d:Nat}{pv:Nat→Nat}(h:zQq p n m rows c M d pv)(aN:c≤n)(hz:∀k,d≤k→k<m→ ∀j,j<n→ent M k j=0):Red p n (M.take d) pv∧jM p n (M.take d) rows:=by
 have hl:(M.take d).length=d:=by rw[Jw,h.len];exact Hz h.dm
 have hg:∀i,i<d→(M.take d).getD i []=M.getD i []:=fun i hi=>by simp only[J2,Jcp,if_pos hi]
 have dm:=h.dm;refine⟨⟨fun i hi=>?_,fun i hi=>?_,fun i hi=>?_,fun i hi j hj=>?_,fun i k hi hk gj=>?_,fun i j gO hj=>?_⟩,jM.trans ⟨fun i hi=>?_,fun i hi=>?_⟩ h.sp⟩
 ·rw[hl]at hi;rw[hg i hi];exact h.row i (by omega)
 ·rw[hl]at hi;have:=h.lt i hi;omega
 ·rw[hl]at hi;simp only[ent,hg i hi];exact h.one i hi
 ·rw[hl]at hi;simp only[ent,hg i hi];exact h.low i hi j hj
 ·rw[hl]at hi hk;simp only[ent,hg k hk];exact h.off i k hi (by omega) gj
 ·rw[hl]at hj;exact h.mono i j gO hj
 ·rw[hl]at hi;rw[hg i hi];exact qN (by rw[h.len];omega)
 ·rw[h.len]at hi
  rcases Jk i d with g|g
  ·have:=qN (p:=p) (n:=n) (R:=M.take d) (i:=i) (by rw[hl];exact g)
   rw[hg i g]at this;exact this
  ·exact zEW fun j hj=>by have:=hz i g hi j hj;simp only[ent]at this;rw[this];rfl
section
variable {p:Int} (hp:Prime p) {n:Nat}{rows:Mx} (hn:n≤100000) (hm:rows.length≤600000) (hr:∀i,i<rows.length→Row p n (rows.getD i []))
 include hp hn hm hr
theorem zMe:∃R pv,f_i p rows=ik R∧Red p n R pv∧jM p n R rows:=by
 have h7:=hp.pos;unfold f_i;rw[zID (by omega) (fun i hi=>by have:=(hr i hi).1;omega),bs];have main:=tL (body:=zOj p) (s:=(rows,0,0)) (Q:=fun r=> ∃(M:Mx)(d:Nat)(pv:Nat→Nat),r=(M,(d:Int))∧d≤M.length∧Red p n (M.take d) pv∧jM p n (M.take d) rows)
  (fun i s=> ∃(M:Mx)(d:Nat)(pv:Nat→Nat),s=(M,(d:Int),(i:Int))∧zQq p n rows.length rows i M d pv∧i≤n) n (fun c s hc hI=>?_) (fun s hI=>?_) ⟨rows,0,fun _=>0,rfl,⟨rfl,hr,Kn _,fun _ h=>by omega,fun _ h=>by omega,fun _ h=>by omega,fun _ _ h=>by omega,fun _ _ _ h=>by omega,fun _ _ _ _ h=>by omega,jM.refl⟩,Kn _⟩
 ·obtain⟨r,h1,M,d,pv,rfl,hd,hR,hS⟩:=main
  rw[h1,bs];simp only
  have e:yB M 0 (d:Int)=ik (M.take d):=by unfold yB;rw[if_pos ⟨by omega,by omega,by omega⟩];simp
  rw[e,bs];exact⟨_,_,rfl,hR,hS⟩
 ·
  obtain⟨M,d,pv,rfl,h,aN⟩:=hI;have hl:=h.len;have m8:=h.dm
  by_cases h0:rows.length=0
  ·refine .inr ⟨(M,(d:Int)),?_,M,d,pv,rfl,by omega,h.take aN fun k hk fy=>by omega⟩
   unfold zOj;simp only
   rw[ir (by omega),zR]
  have e0:zOj p (M,(d:Int),(c:Int))=cond (decide ((d:Int)<(M.length:Int))) ((zI (zIF (M,(d:Int),(c:Int))) (d:Int)).bind fun r6=>
    cond (r6==(M.length:Int)) ((rng ((c:Int)+1)).bind fun v7=>ik (.inl (M,(d:Int),v7))) (
     (ixO M r6).bind fun v8=>(ixO M (d:Int)).bind fun v9=>(ixO (jS M (d:Int) r6 v8 v9) (d:Int)).bind fun v10=>(ixO v10 (c:Int)).bind fun v11=>(f_R v11 p).bind fun r12=>
     (ixO (jS M (d:Int) r6 v8 v9) (d:Int)).bind fun v13=>(zI (zMJ p (M,(d:Int),(c:Int)) r12 v13) (jS M (d:Int) r6 v8 v9,0)).bind fun r21=>
     (zI (zOi p (M,(d:Int),(c:Int)) r21) (r21,0)).bind fun r30=>(rng ((d:Int)+1)).bind fun v31=>(rng ((c:Int)+1)).bind fun v32=>ik (.inl (r30,v31,v32)))) (ik (.inr (M,(d:Int)))):=by
   unfold zOj;simp only
   have hx:ixO M (0:Int)=ik (M.getD 0 []):=by have:=yQ (v:=M) (i:=0) [] (by omega);exact this
   rw[iu (by omega),zM,hx];simp only[bs];rw[(h.row 0 (by omega)).1,yZ hc,zM]
  rcases Jk d rows.length with hd|hd
  ·obtain⟨t,t1,t2,t3,t4,t5⟩:=zQr (M:=M) (d:=d) (c:=c) (m:=rows.length) (n:=n) hl m8 (by omega) (fun i hi=>(h.row i hi).1) hc
   rw[e0,hl,yZ hd,zM,t3];simp only[bs]
   by_cases tu:t=rows.length
   ·
    left;refine⟨(M,(d:Int),((c+1:Nat):Int)),?_,M,d,pv,rfl,⟨hl,h.row,m8,fun i hi=>by have:=h.lt i hi;omega,h.one,h.low,h.off,h.mono,fun k k1 k2 j hj=>?_,h.sp⟩,by omega⟩
    ·rw[zMc (by omega),zM,zE (by omega) (by omega),bs,cs]
    ·rcases Jk j c with g|g
     ·exact h.zero k k1 k2 j g
     ·rw[show j=c from by omega];exact t4 k k1 (by omega)
   ·have cC:t<rows.length:=by omega
    have gj:=t5 cC;have fa:=h.row t cC;have hrc:=fa.2 c hc;obtain⟨q,q1,q2,q3,q4⟩:=zEY (p:=p) (x:=ent M t c) hp (by simp only[ent]at gj ⊢;omega) (by simp only[ent];omega);left;have hM:M=mkR rows.length (fun i=>M.getD i []):=zYk hl;obtain⟨F,hF⟩:∃F:Nat→List Int,∀i,F i=if i=t then M.getD d []else if i=d then M.getD t []else M.getD i []:=⟨_,fun _=>rfl⟩
    have mg:jS M (d:Int) (t:Int) (M.getD t []) (M.getD d [])=mkR rows.length F:=by
     unfold jS;rw[Ja,Ja]
     conv=>lhs;rw[hM]
     rw[zGC,zGC];exact qF fun i hi=>by rw[hF,kM hd,kM cC]
    have mj:∀i,i<rows.length→Row p n (F i):=fun i hi=>by
     rw[hF];split
     ·exact h.row d hd
     ·split
      ·exact fa
      ·exact h.row i hi
    have hFd:F d=M.getD t []:=by
     rw[hF]
     by_cases e:d=t
     ·rw[if_pos e,e]
     ·rw[if_neg e,if_pos rfl]
    obtain⟨G,hG⟩:∃G:Nat→List Int,∀i,G i=if i=d then mkv n fun j=>(at0 (F d) j*q)%p else F i:=⟨_,fun _=>rfl⟩
    have hGd:G d=mkv n fun j=>(ent M t j*q)%p:=by rw[hG,if_pos rfl,hFd]
    have hGo:∀i,i≠d→G i=if i=t then M.getD d []else M.getD i []:=fun i e7=>by rw[hG,if_neg e7,hF];simp only[e7,if_false]
    have bK:zI (zMJ p (M,(d:Int),(c:Int)) (q,io) (M.getD t [])) (mkR rows.length F,0)=ik (mkR rows.length G):=by
     rw[zND hp (F:=F) hd (mj d hd) (by omega) ⟨q2,q3⟩ fa.1 rfl]
     congr 1
     exact qF fun i _=>(hG i).symm
    have hF3:∀i,i<rows.length→Row p n (G i):=fun i hi=>by
     rw[hG];split
     ·refine⟨zZ _ _,fun j hj=>?_⟩
      have e1:=Kx (at0 (F d) j*q) (show p≠0 by omega);have e2:=Kh (at0 (F d) j*q) (show 0<p by omega);rw[yG hj];omega
     ·exact mj i hi
    have gE:=zNE hp (c:=c) (F:=G) hd hc hF3 (by omega) (by omega) (r21:=mkR rows.length G) sK (s:=(M,(d:Int),(c:Int))) rfl rfl;rw[zMd (by omega),zR,yQ [] (by omega),yQ [] (by omega)];simp only[bs];rw[mg,zKp hd,hFd];simp only[bs];rw[yV (by rw[fa.1];exact hc)];simp only[bs];rw[show at0 (M.getD t []) c=ent M t c from rfl,q1];simp only[bs];rw[bK];simp only[bs];rw[gE];simp only[bs];rw[zE (by omega) (by omega),zE (by omega) (by omega)];simp only[bs,cs];have bq:=h.pivot hp hc hd t1 cC gj q4;refine⟨_,rfl,_,d+1,fun i=>if i=d then c else pv i,rfl,?_,by omega⟩;have e3:(mkR rows.length fun i=>if i=d then G d else uH p n (G i) (0-at0 (G i) c) (G d))=(mkR rows.length fun i=>if i=d then mkv n fun j=>(ent M t j*q)%p else uH p n (if i=t then M.getD d []else M.getD i []) (0-at0 (if i=t then M.getD d []else M.getD i []) c) (mkv n fun j=>(ent M t j*q)%p)):=by
     refine qF fun i hi=>?_
     rw[hGd]
     by_cases e7:i=d
     ·rw[if_pos e7,if_pos e7]
     ·rw[if_neg e7,if_neg e7,hGo i e7]
    rw[e3];exact bq
  ·
   refine .inr ⟨(M,(d:Int)),?_,M,d,pv,rfl,by omega,h.take aN fun k hk fy=>by omega⟩;rw[e0,ir (by omega),zR]
 ·
  obtain⟨M,d,pv,rfl,h,aN⟩:=hI;have hl:=h.len;have m8:=h.dm;refine⟨(M,(d:Int)),?_,M,d,pv,rfl,by omega,h.take aN fun k hk fy j hj=>h.zero k hk fy j hj⟩;unfold zOj;simp only
  by_cases h0:rows.length=0
  ·rw[ir (by omega),zR]
  ·have hx:ixO M (0:Int)=ik (M.getD 0 []):=by
    have:=yQ (v:=M) (i:=0) [] (by omega);exact this
   rw[iu (by omega),zM,hx];simp only[bs];rw[(h.row 0 (by omega)).1,vU,zR]
end
end Go.Pl

namespace Go.Pl
open Go Go.Ab Go.Wk Go.Pc
theorem zJ0{v:List Int}{n:Nat}(hl:v.length=n)(hn:n≤1000000):∃k:Nat,k≤n∧f_F v=ik (k:Int)∧(∀j,j<k→at0 v j=0)∧(k<n→at0 v k≠0):=by
 unfold f_F;rcases chk (body:=zIG v) n 0 (Kn _) (fun i=>at0 v i=0) (fun i=>(i:Int)) (fun i _ hi _=>by
   unfold zIG;rw[hl,yZ hi,zM,yV (by omega),bs]
   by_cases h:at0 v i=0
   ·rw[zAl h,zR,zE (by omega) (by omega),bs,cs];exact .inl ⟨rfl,h⟩
   ·rw[kR h,zM];exact .inr ⟨rfl,h⟩) (by
   unfold zIG;rw[hl,vU,zR])with⟨h1,h2⟩|⟨i,_,hi,h1,h2⟩
 ·rw[show((0:Nat):Int)=0 from rfl]at h1
  rw[h1,bs];exact⟨n,Jg _,by simp only[hl],fun j hj=>h2 j (Kn _) hj,fun h=>by omega⟩
 ·rw[show((0:Nat):Int)=0 from rfl]at h1
  rw[h1,bs];obtain⟨k,⟨hk1,fy⟩,eF⟩:=zDE (p:=fun k=>k<n∧at0 v k≠0) ⟨i,hi,h2⟩;have hz:∀j,j<k→at0 v j=0:=fun j hj=>Classical.byContradiction fun h=>eF j hj ⟨by omega,h⟩
  have hki:k=i:=by
   have eS:∀q,q≤k→zI (zIG v) ((k-q:Nat):Int)=ik (.inr (k:Int)):=by
    intro q
    induction q with
    |zero=>
     intro _;rw[xH];have e:zIG v ((k-0:Nat):Int)=ik (.inr (.inr (k:Int))):=by unfold zIG;rw[show k-0=k from rfl,hl,yZ hk1,zM,yV (by omega),bs,kR fy,zM]
     rw[e]
    |succ q ih=>
     intro hq;rw[xH];have e:zIG v ((k-(q+1):Nat):Int)=ik (.inl ((k-q:Nat):Int)):=by unfold zIG;rw[hl,yZ (by omega),zM,yV (by omega),bs,zAl (hz _ (by omega)),zR,zE (by omega) (by omega),bs,cs,show k-(q+1)+1=k-q from by omega]
     rw[e];exact ih (by omega)
   have:=eS k (Jg _);rw[Kf,show((0:Nat):Int)=0 from rfl,h1]at this;have:=Sum.inr.inj (Ln.inj this);omega
  exact⟨i,by omega,rfl,by rw[←hki];exact hz,fun _=>h2⟩
theorem zKq{v:List Int}{n k:Nat}(hl:v.length=n)(hn:n≤1000000)(hk:k<n)(h0:∀j,j<k→at0 v j=0)(h1:at0 v k≠0):f_F v=ik (k:Int):=by
 obtain⟨q,q1,q2,q3,q4⟩:=zJ0 hl hn;have:q=k:=by
  rcases U8 q k with g|g|g
  ·exact absurd (h0 q g) (q4 (by omega))
  ·exact g
  ·exact absurd (q3 k g) h1
 rw[q2,this]
theorem zSD{p x:Int}(hp:Prime p)(h0:1≤x)(h1:x≤p-1):∃r,zWr x p=ik r∧0≤r∧r≤p-1∧(x*r)%p=1:=by
 have h7:=hp.pos;have hx:∃k:Nat,1≤k∧(k:Int)<p∧(x*(k:Int))%p=1:=by
  obtain⟨r,_,r1,r2,r3⟩:=zEY hp h0 h1;refine⟨r.toNat,?_,by omega,by rw[Jd5 r1];exact r3⟩;rcases Int.lt_or_eq_of_le r1 with g|g
  ·omega
  ·rw[←g]at r3;simp at r3
 obtain⟨k,⟨k1,k2,k3⟩,eF⟩:=zDE hx;have body:∀i:Nat,1≤i→(i:Int)<p→zML x p (i:Int)=cond ((x*(i:Int))%p==1) (ik (.inr (.inr (i:Int)))) (ik (.inl ((i+1:Nat):Int))):=fun i hi hip=>by
  have a3:=U0 (show 0≤x by omega) (show 0≤(i:Int)by omega);have a4:=zBX hp (k:=(i:Int)) ⟨by omega,by omega⟩ (b:=x) ⟨by omega,h1⟩;rw[U9]at a4;unfold zML;rw[iu hip,zM,zMb hp (by omega) (by omega),bs,Kb (by omega) (by omega),zE (by omega) (by omega),bs];unfold tB;rw[if_neg (by omega),bs,Kw a3]
  by_cases hh:(x*(i:Int))%p=1
  ·rw[zMc hh,zM,zM]
  ·rw[zMd hh,zR,zR,zE (by omega) (by omega),bs,cs]
 have eS:∀q,q+1≤k→zI (zML x p) ((k-q:Nat):Int)=ik (.inr (k:Int)):=by
  intro q
  induction q with
  |zero=>
   intro _;rw[xH,show k-0=k from rfl,body k k1 k2,zMc k3,zM]
  |succ q ih=>
   intro hq;have gj:(x*((k-(q+1):Nat):Int))%p≠1:=fun h=>eF (k-(q+1)) (by omega) ⟨by omega,by omega,h⟩
   rw[xH,body _ (by omega) (by omega),zMd gj,zR,show k-(q+1)+1=k-q from by omega];exact ih (by omega)
 have:=eS (k-1) (by omega);rw[show k-(k-1)=1 from by omega,show((1:Nat):Int)=1 from rfl]at this;refine⟨(k:Int),?_,by omega,by omega,k3⟩;unfold zWr;rw[this,bs]
section
variable {p:Int} (hp:Prime p) {n:Nat} (hn:n≤100000)
 include hp hn
theorem zYl{r s:List Int}(hr:Row p n r):uH p n r p s=r:=by
 have _:=hp;have _:=hn
 conv=>rhs;rw[uA hr.1]
 refine yC fun j hj=>?_
 have:=hr.2 j hj;rw[Lt];exact Kb this.1 (by omega)
def cl(p:Int)(n:Nat)(out:Mx)(pv:Nat→Nat)(v:List Int):Nat→List Int
 |0=>v
 |i+1=>uH p n (cl p n out pv v i) (p-at0 (cl p n out pv v i) (pv i)) (out.getD i [])
variable {out:Mx}{pv:Nat→Nat} (h:Red p n out pv) {v:List Int} (hv:Row p n v)
 include h hv
theorem zKr:∀i,Row p n (cl p n out pv v i):=by
 have _:=hn;have _:=h;intro i;cases i with
 |zero=>exact hv
 |succ i=>exact kV hp
theorem zYm:∀i,i≤out.length→ ∀k,k<i→at0 (cl p n out pv v i) (pv k)=0:=by
 have _:=hn;have _:=hv;have h7:=hp.pos;intro i
 induction i with
 |zero=>intro _ k hk;omega
 |succ i ih=>
  intro hi k hk;have gF:=h.lt k (by omega);rw[cl,uH,yG gF];rcases Jk k i with g|g
  ·have h1:=ih (by omega) k g
   have h2:=h.off k i (by omega) (by omega) (by omega);simp only[ent]at h2;rw[h1,h2];simp
  ·have hki:k=i:=by omega
   subst hki;have h2:=h.one k (by omega);simp only[ent]at h2;rw[h2,Hb,show at0 (cl p n out pv v k) (pv k)+(p-at0 (cl p n out pv v k) (pv k))=p from by omega,Int.emod_self]
theorem zV1:∀i,i≤out.length→ ∃cf:Nat→Int,∀j,j<n→at0 (cl p n out pv v i) j%p=(at0 v j+S out.length fun k=>cf k*ent out k j)%p:=by
 have _:=hp;have _:=h;have _:=hv;have _:=hn;intro i
 induction i with
 |zero=>intro _;exact⟨fun _=>0,fun j _=>by rw[xR (g:=fun _=>0) (fun i _=>by simp),qM,H2];rfl⟩
 |succ i ih=>
  intro hi;obtain⟨cf,cX⟩:=ih (by omega);refine⟨fun k=>cf k+(if k=i then p-at0 (cl p n out pv v i) (pv i)else 0),fun j hj=>?_⟩;have e1:(S out.length fun k=>(cf k+(if k=i then p-at0 (cl p n out pv v i) (pv i)else 0))*ent out k j)=(S out.length fun k=>cf k*ent out k j)+(p-at0 (cl p n out pv v i) (pv i))*ent out i j:=by rw[xR (g:=fun k=>cf k*ent out k j+(if k=i then p-at0 (cl p n out pv v i) (pv i)else 0)*ent out k j) (fun k _=>by rw[Qt]),zCO,zAm (f:=fun k=>(if k=i then p-at0 (cl p n out pv v i) (pv i)else 0)*ent out k j) (k:=i) (by omega) (fun k _ hk=>by simp[hk])];simp
  rw[e1,cl,uH,yG hj,K6,←Int.add_assoc,Kd,cX j hj,←Kd]
theorem zHV(hm:out.length≤100000):zQO p out v=ik (cl p n out pv v out.length):=by
 have h7:=hp.pos;unfold zQO;rw[qS (by rw[hv.1];omega),bs];have:=zX (body:=zMK p out) (r:=cl p n out pv v out.length) (fun i=>(cl p n out pv v i,(i:Int))) out.length (fun i hi=>by
  have hr:=zKr hp hn h hv i;have ho:=h.row i hi;have gF:=h.lt i hi;have gA:=h.one i hi;have fS:=h.low i hi;simp only[ent]at gA fS;have he:=hr.2 (pv i) gF;unfold zMK;simp only
  rw[yZ hi,zM,yQ [] hi,bs,zKq ho.1 (by omega) gF fS (by rw[gA];decide),bs,hr.1,yZ gF,zM,yV (by rw[hr.1];exact gF),bs]
  by_cases hz:at0 (cl p n out pv v i) (pv i)=0
  ·rw[zAl hz,zR,zE (by omega) (by omega),bs,cs,cl,hz,Int.sub_zero,zYl hp hn hr]
  ·rw[kR hz,zM,bs,zE (by omega) (by omega),bs,bs,uZ hp hr ho ⟨by omega,by omega⟩ (by omega),bs,zE (by omega) (by omega),bs,cs]
   rfl) (by
  unfold zMK;simp only
  rw[vU,zR])
 rw[show((0:Nat):Int)=0 from rfl]at this;simp only[cl]at this;rw[this,bs]
end
end Go.Pl
