/- x -/
import Derived.Test.YtimahceaenahkaaSAbB
import Derived.Test.YtimahceaenahkaaSWF
open List renaming replicate→J1,getD_eq_getElem?_getD→J4,getElem?_eq_getElem→J5,mem_map→J7,append_nil→J9,getElem?_eq_some_iff→Ja,append_assoc→Jb,map_cons→Jc,getElem?_append_right→Jd,length_append→Je,getElem?_map→Jf,mem_cons→Jh,eq_nil_of_length_eq_zero→Ji,length_replicate→Jk,length_map→Jl,length_cons→Jn,replicate_append_replicate→Jq,nil_append→Jr,getElem?_replicate→Js,getElem?_append→Jv,drop_eq_getElem_cons→Jw,range→Jz,nodup_cons→K0,take_of_length_le→K2,replicate_succ→K5,set_cons_zero→K6,mem_range→K9,cons_append→Ka,take_succ_cons→Kf,set_append_right→Kg,take_succ_eq_append_getElem→Kh,map_append→Kn,length_singleton→Ko,singleton_append→Ks,take_length→Ku,getElem_mem→Kv,drop_length→Kw,getElem?_set_self→Ky,flatMap_cons→Kz,ext_getElem?→L0,getElem?_append_left→L2,getElem?_range→L4,mem_append→Lg,length_take→Lj,take_zero→Lp,length_set→Lq,drop_zero→Lr,mem_flatMap→Ls,nodup_append→H1,filter_eq_nil_iff→H2,Sublist→H3,getElem?_drop→H7,take_append_drop→H9,replicate_succ'→Ha,take_add_one→Hc,getElem?_set_ne→Hd,range_succ→Hm,range'→Ht,getElem?_cons_zero→Hy,filter_cons_of_pos→Hz,range_succ_eq_map→G4,suffix_cons_iff→Gj,all_cons→Gp,replicate_zero→Gt,map_congr_left→Gu,findSome?_cons→Gv,map_map→U1,drop_of_length_le→U3,append_of_mem→U4,pairwise_map→U9,getElem?_cons_succ→Um,flatMap_append→Un,getElem?_set→Ux,range'_succ→Uz,nodup_range→Q0,mem_iff_getElem→Q2,Nodup→Qb,length_nil→Qh,length→Qi
open Bool renaming and_eq_true→J2,not_true→Ju,not_false→La
open Nat renaming zero_add→J8,le_refl→Jg,mul_le_mul_right→Jp,sub_self→Jt,le_trans→Ke,succ_mul→Kl,zero_le→Kq,mul_le_mul→L6,add_assoc→L7,add_mul→Li,mul_le_mul_left→Ln,mul_succ→Lo,mul_add→H8,lt_or_ge→Ho,add_zero→Hp,mod_two_eq_zero_or_one→Hs,add_right_cancel_iff→Hx,sub_zero→G8,mul_comm→Ga,mul_one→Ur,zero_sub→Q6,add_comm→Q7,min_eq_left→Qd
open Int renaming toNat_natCast→Jj,toNat_of_nonneg→K1,tdiv_eq_ediv_of_nonneg→Kd,emod_eq_of_lt→Ki,mul_le_mul_of_nonneg_left→Km,natCast_mul→L1,mul_le_mul→L9,natCast_add→Lk,toNat_zero→Ll,tmod_eq_emod_of_nonneg→Lm,add_zero→H5,zero_add→Gg,one_mul→Gw,le_refl→Gx,add_mul→Gy,sub_emod_right→Ua,emod_add_emod→Ui,natCast_succ→Uo,ediv_le_self→Up,ediv_nonneg→Us,mul_comm→Q8
open Option renaming map_eq_some_iff→K8,some→Kb,getD_some→Kc,map_some→Lh
open Option renaming some→df,none→dg
open Bool renaming true→dh,false→di
namespace Go.Pc
abbrev Vec:=List Int
structure Lvl where
 o:Int
 w:Vec
 cs:List Vec
abbrev Pcp:=List Lvl
def zeros(n:Nat):Vec:=J1 n 0
def iter{α:Type}:Nat→(α→α)→α→α
 |0,_,x=>x
 |n+1,f,x=>iter n f (f x)
theorem wG{α:Type}(f:α→α):∀(n:Nat)(x:α),iter (n+1) f x=f (iter n f x)
 |0,_=>rfl
 |n+1,x=>by rw[iter,wG f n (f x)];rfl
theorem zBr{α:Type}(f:α→α)(a:Nat):∀(b:Nat)(x:α),iter (a+b) f x=iter a f (iter b f x)
 |0,_=>rfl
 |b+1,x=>by show iter (a+b) f (f x)=_;rw[zBr f a b (f x)];rfl
def img{α:Type}(m:α→α→α):List α→Vec→α→α
 |c::cs,x::xs,acc=>img m cs xs (iter x.toNat (fun v=>m v c) acc)
 |_,_,acc=>acc
def V:Pcp→Vec→Prop
 | [],v=>v=[]
 |l::P,v=>match v with
  | []=>False
  |a::x=>(0≤a∧a<l.o)∧V P x
def mul:Pcp→Vec→Vec→Vec
 |l::P,a::x,b::y=>
  let r:=mul P (iter b.toNat (fun v=>img (mul P) l.cs v (zeros P.length)) x) y
  if a+b≥l.o then(a+b-l.o)::mul P l.w r else(a+b)::r
 |_,_,_=>[]
def Ok:Pcp→Prop
 | []=>True
 |l::P=>1<l.o∧V P l.w∧l.cs.length=P.length∧(∀c∈l.cs,V P c)∧Ok P
structure Mon {α:Type} (S:α→Prop) (m:α→α→α) (e:α):Prop where
 cl:∀{a b},S a→S b→S (m a b)
 ein:S e
 assoc:∀{a b c},S a→S b→S c→m (m a b) c=m a (m b c)
 onel:∀{a},S a→m e a=a
 oner:∀{a},S a→m a e=a
structure Grp {α:Type} (S:α→Prop) (m:α→α→α) (e:α):Prop extends Mon S m e where
 inv:∀{a},S a→ ∃b,S b∧m a b=e
theorem Grp.invl{α:Type}{S:α→Prop}{m:α→α→α}{e:α}(h:Grp S m e){a:α}(ha:S a):∃b,S b∧m a b=e∧m b a=e:=by
 obtain⟨b,hb,h1⟩:=h.inv ha;obtain⟨c,hc,h2⟩:=h.inv hb;refine⟨b,hb,h1,?_⟩;have:a=c:=by rw[←h.oner ha,←h2,←h.assoc ha hb hc,h1,h.onel hc]
 grind
theorem Grp.cancel_l{α:Type}{S:α→Prop}{m:α→α→α}{e:α}(h:Grp S m e){a b c:α}(ha:S a)(hb:S b)(hc:S c)(hh:m a b=m a c):b=c:=by obtain⟨d,hd,_,h2⟩:=h.invl ha;rw[←h.onel hb,←h.onel hc,←h2,h.assoc hd ha hb,h.assoc hd ha hc,hh]
section
variable {α:Type}{S:α→Prop}{m:α→α→α}{e:α}
def pw(m:α→α→α)(e:α)(x:α)(k:Nat):α:=iter k (fun v=>m v x) e
theorem wL(h:Mon S m e){x:α}(hx:S x):∀k,S (pw m e x k)
 |0=>h.ein
 |k+1=>by rw[pw,wG];exact h.cl (wL h hx k) hx
theorem vT{f:α→α}(hf:∀a,S a→S (f a)):∀(k:Nat){x:α},S x→S (iter k f x)
 |0,_,hx=>hx
 |k+1,_,hx=>vT hf k (hf _ hx)
theorem zBs(h:Mon S m e){x a:α}(hx:S x)(ha:S a):∀k,iter k (fun v=>m v x) a=m a (pw m e x k)
 |0=>(h.oner ha).symm
 |k+1=>by rw[wG,zBs h hx ha k];show _=m a (iter (k+1) (fun v=>m v x) e);rw[wG];exact h.assoc ha (wL h hx k) hx
theorem zAO(h:Mon S m e){x:α}(hx:S x)(a b:Nat):pw m e x (a+b)=m (pw m e x a) (pw m e x b):=by rw[Q7,pw,zBr,←zBs h hx (wL h hx a) b];rfl
theorem zGZ(h:Mon S m e){x:α}(hx:S x):pw m e x 1=x:=h.onel hx
theorem zK0(h:Mon S m e){x:α}(hx:S x)(k:Nat):pw m e x (k+1)=m x (pw m e x k):=by rw[Q7,zAO h hx 1 k,zGZ h hx]
theorem tI(h:∀{a b},S a→S b→S (m a b)):∀(cs:List α)(x:Vec){a:α},(∀c∈cs,S c)→S a→S (img m cs x a)
 |c::cs,x::xs,_,hc,ha=>by simp only[img];exact tI h cs xs (by grind) (vT (by simp_all) _ ha)
 | [],_,_,_,ha=>by grind[img]
 |_::_,[],_,_,ha=>by grind[img]
theorem zBJ(h:Mon S m e)(cs:List α)(x:Vec){a:α}(hc:∀c∈cs,S c)(ha:S a):S (img m cs x a):=tI h.cl cs x hc ha
theorem zBt(h:Mon S m e):∀(cs:List α)(x:Vec){a:α},(∀c∈cs,S c)→S a→img m cs x a=m a (img m cs x e)
 |c::cs,x::xs,a,hc,ha=>by
  have h1:S c:=hc c (by simp);have h2:∀c∈cs,S c:=by grind
  simp only[img];rw[zBs h h1 ha,zBt h cs xs h2 (h.cl ha (wL h h1 _)),zBs h h1 h.ein,zBt h cs xs h2 (h.cl h.ein (wL h h1 _)),h.onel (wL h h1 _),
   h.assoc ha (wL h h1 _) (zBJ h cs xs h2 h.ein)]
 | [],_,a,_,ha=>by simp[img,h.oner ha]
 |_::_,[],a,_,ha=>by simp[img,h.oner ha]
theorem vY(h:Mon S m e){c:α}{cs:List α}{x:Int}{xs:Vec}(hc:S c)(gQ:∀c∈cs,S c):img m (c::cs) (x::xs) e=m (pw m e c x.toNat) (img m cs xs e):=by simp only[img];rw[zBt h cs xs gQ (vT (fun a ha=>h.cl ha hc) _ h.ein)];rfl
theorem qM(m:α→α→α):∀(cs:List α)(n:Nat)(a:α),img m cs (zeros n) a=a
 | [],_,_=>by simp[img]
 |_::_,0,_=>by rfl
 |c::cs,n+1,a=>by simp only[zeros,K5,img,Ll,iter];exact qM m cs n a
theorem zDw(h:Mon S m e){g:α}(hg:S g):∀(cs ds:List α)(x:Vec),(∀c∈cs,S c)→(∀c∈ds,S c)→cs.length=ds.length→(∀(k:Nat) c d,cs[k]? =df c→ds[k]? =df d→m c g=m g d)→m (img m cs x e) g=m g (img m ds x e)
 | [],[],x,_,_,_,_=>by simp[img,h.onel hg,h.oner hg]
 |c::cs,d::ds,[],_,_,_,_=>by simp[img,h.onel hg,h.oner hg]
 |c::cs,d::ds,x::xs,hc,hd,hl,hp=>by
  have fg:S c:=hc c (by simp);have hd0:S d:=hd d (by simp);have gQ:∀c∈cs,S c:=by grind
  have fT:∀c∈ds,S c:=by grind
  have key:∀k,m (pw m e c k) g=m g (pw m e d k):=by
   intro k
   induction k with
   |zero=>simp[pw,iter,h.onel hg,h.oner hg]
   |succ k ih=>
    have h0:m c g=m g d:=hp 0 c d rfl rfl;rw[pw,wG,pw,wG];show m (m (pw m e c k) c) g=m g (m (pw m e d k) d);rw[h.assoc (wL h fg k) fg hg,h0,←h.assoc (wL h fg k) hg hd0,ih,h.assoc hg (wL h hd0 k) hd0]
  rw[vY h fg gQ,vY h hd0 fT,h.assoc (wL h fg _) (zBJ h _ _ gQ h.ein) hg,zDw h hg cs ds xs gQ fT (by grind) (fun k c d h1 h2=>hp (k+1) c d (by grind) (by grind)),
   ←h.assoc (wL h fg _) hg (zBJ h _ _ fT h.ein),key,h.assoc hg (wL h hd0 _) (zBJ h _ _ fT h.ein)]
theorem zIn{β:Type}{T:β→Prop}{n:β→β→β}{f:β}(h:Mon S m e)(h':Mon T n f)(φ:α→β)(gT:∀a,S a→T (φ a))(h1:φ e=f)(hm:∀a b,S a→S b→φ (m a b)=n (φ a) (φ b)):∀(cs:List α)(x:Vec),(∀c∈cs,S c)→φ (img m cs x e)=img n (cs.map φ) x f
 | [],_,_=>by simp[img,h1]
 |c::cs,[],_=>by simp[img,h1]
 |c::cs,x::xs,hc=>by
  have fg:S c:=hc c (by simp);have gQ:∀c∈cs,S c:=by grind
  have key:∀k,φ (pw m e c k)=pw n f (φ c) k:=by
   intro k
   induction k with
   |zero=>grind[pw,iter]
   |succ k ih=>
    grind[pw,wG,wL]
  rw[vY h fg gQ,Jc,vY h' (gT c fg) (by simp_all),hm _ _ (wL h fg _) (zBJ h _ _ gQ h.ein),key,zIn h h' φ gT h1 hm cs xs gQ]
end
theorem wE:∀{P:Pcp},Ok P→V P (zeros P.length)
 | [],_=>rfl
 |l::P,h=>by simp only[Ok]at h;simp only[Jn,zeros,K5,V];exact⟨by omega,wE h.2.2.2.2⟩
theorem xI:∀{P:Pcp},Ok P→ ∀{x y:Vec},V P x→V P y→V P (mul P x y)
 | [],_,_,_,hx,hy=>by rfl
 |l::P,h,[],_,hx,_=>by grind[V]
 |l::P,h,_::_,[],_,hy=>by grind[V]
 |l::P,h,a::x,b::y,hx,hy=>by
  simp only[Ok]at h;simp only[V]at hx hy;have h1:∀v,V P v→V P (img (mul P) l.cs v (zeros P.length)):=fun v hv=>tI (xI h.2.2.2.2) l.cs v h.2.2.2.1 (wE h.2.2.2.2)
  have h2:=xI h.2.2.2.2 (vT h1 b.toNat hx.2) hy.2;simp only[mul];split
  ·exact⟨by omega,xI h.2.2.2.2 h.2.1 h2⟩
  ·exact⟨by omega,h2⟩
def Rel{α:Type}(m:α→α→α)(e:α):Pcp→List α→Prop
 | [],s=>s=[]
 |l::P,s=>match s with
  | []=>False
  |g::s=>pw m e g l.o.toNat=img m s l.w e∧(∀(k:Nat) c d,s[k]? =df c→l.cs[k]? =df d→m c g=m g (img m s d e))∧Rel m e P s
section
variable {α:Type}{S:α→Prop}{m:α→α→α}{e:α}
theorem zQv(h:Mon S m e):∀(P:Pcp)(s:List α),Ok P→(∀g∈s,S g)→Rel m e P s→ ∀x y,V P x→V P y→img m s (mul P x y) e=m (img m s x e) (img m s y e)
 | [],s,_,_,hr,x,y,hx,hy=>by simp only[Rel]at hr;subst hr;simp[img,h.onel h.ein]
 |l::P,[],_,_,hr,_,_,_,_=>by grind[Rel]
 |l::P,g::s,_,_,_,[],_,hx,_=>by grind[V]
 |l::P,g::s,_,_,_,_::_,[],_,hy=>by grind[V]
 |l::P,g::s,hk,hs,hr,a::x,b::y,hx,hy=>by
  simp only[Ok]at hk;simp only[Rel]at hr;simp only[V]at hx hy;obtain⟨ho,hw,gN,gQ,bG⟩:=hk;obtain⟨ma,ag,mL⟩:=hr;have hg:S g:=hs g (by simp);have cy:∀c∈s,S c:=by grind
  have gn:s.length=P.length:=by
   clear ma ag hx hy hw gN gQ hs cy
   induction P generalizing s with
   |nil=>grind[Rel]
   |cons l P ih=>
    cases s with
    |nil=>grind[Rel]
    |cons c s=>grind[Rel,Ok]
  have ih:=zQv h P s bG cy mL;have hφ:∀v,S (img m s v e):=fun v=>zBJ h s v cy h.ein
  have hmP:∀{a b},V P a→V P b→V P (mul P a b):=xI bG;have mq:∀v,V P v→V P (img (mul P) l.cs v (zeros P.length)):=fun v hv=>tI hmP l.cs v gQ (wE bG)
  have hσ:∀v,V P v→m (img m s v e) g=m g (img m s (img (mul P) l.cs v (zeros P.length)) e):=by
   intro v hv;have key:∀(cs:List Vec)(v:Vec)(acc:Vec),(∀c∈cs,V P c)→V P acc→img m s (img (mul P) cs v acc) e=img m (cs.map fun c=>img m s c e) v (img m s acc e):=by
    intro cs
    induction cs with
    |nil=>grind[img]
    |cons c cs ihc=>
     intro v acc hc hacc;cases v with
     |nil=>simp[img]
     |cons z v=>
      have fg:V P c:=hc c (by simp);have it:∀k acc,V P acc→img m s (iter k (fun v=>mul P v c) acc) e=iter k (fun v=>m v (img m s c e)) (img m s acc e):=by
       intro k
       induction k with
       |zero=>intro acc _;rfl
       |succ k ihk=>
        simp_all[iter]
      simp only[img,Jc];rw[ihc v _ (by simp_all) (vT (by grind) _ hacc),it _ _ hacc]
   rw[key l.cs v (zeros P.length) gQ (wE bG),qM];refine zDw h hg s _ v cy (by simp_all) (by grind) ?_;intro k c d hc hd;simp only[Jf,K8]at hd;obtain⟨d',cW,rfl⟩:=hd
   grind
  have hσk:∀k v,V P v→m (img m s v e) (pw m e g k)=m (pw m e g k) (img m s (iter k (fun v=>img (mul P) l.cs v (zeros P.length)) v) e):=by
   intro k
   induction k with
   |zero=>intro v _;simp[pw,iter,h.onel (hφ v),h.oner (hφ v)]
   |succ k ihk=>
    intro v hv;rw[zK0 h hg,←h.assoc (hφ v) hg (wL h hg k),hσ v hv,h.assoc hg (hφ _) (wL h hg k),ihk _ (mq v hv),←h.assoc hg (wL h hg k) (hφ _)];rfl
  have eU:=wL h hg a.toNat;have bC:=wL h hg b.toNat;have fm:V P (iter b.toNat (fun v=>img (mul P) l.cs v (zeros P.length)) x):=vT mq _ hx.2;have mT:m (img m (g::s) (a::x) e) (img m (g::s) (b::y) e)=m (pw m e g (a.toNat+b.toNat)) (img m s (mul P (iter b.toNat (fun v=>img (mul P) l.cs v (zeros P.length)) x) y) e):=by rw[vY h hg cy,vY h hg cy,h.assoc eU (hφ x) (h.cl bC (hφ y)),←h.assoc (hφ x) bC (hφ y),hσk _ _ hx.2,h.assoc bC (hφ _) (hφ y),←ih _ _ fm hy.2,←h.assoc eU bC (hφ _),zAO h hg]
  rw[mT];simp only[mul];split
  ·rename_i hge
   rw[vY h hg cy,ih _ _ hw (hmP fm hy.2),←ma,←h.assoc (wL h hg _) (wL h hg _) (hφ _),←zAO h hg]
   congr 2
   omega
  ·rw[vY h hg cy]
   congr 2
   omega
end
def uC(n j:Nat):Vec:=(zeros n).set j 1
def sig(P:Pcp)(l:Lvl)(v:Vec):Vec:=img (mul P) l.cs v (zeros P.length)
def xD:Pcp→Prop
 | []=>True
 |l::P=>xD P∧Rel (mul P) (zeros P.length) P l.cs∧sig P l l.w=l.w∧ ∀j,j<P.length→mul P l.w (iter l.o.toNat (sig P l) (uC P.length j))=mul P (uC P.length j) l.w
theorem zEx(n:Nat):uC (n+1) 0=1::zeros n:=rfl
theorem zIP(n j:Nat):uC (n+1) (j+1)=0::uC n j:=rfl
def vQ(n:Nat):List Vec:=(Jz n).map (uC n)
theorem zHa(n:Nat):vQ (n+1)=(1::zeros n)::(vQ n).map (0::·):=by
 simp only[vQ,G4,Jc,U1,zEx]
 congr 1
theorem zBK:∀{P:Pcp},Ok P→ ∀{j:Nat},j<P.length→V P (uC P.length j)
 | [],_,_,hj=>by simp at hj
 |l::P,h,0,_=>by grind[Ok,zEx,V,wE]
 |l::P,h,j+1,hj=>by simp only[Ok]at h;rw[Jn,zIP];simp only[V];exact⟨by omega,zBK h.2.2.2.2 (by grind)⟩
theorem zFd{l:Lvl}{P:Pcp}(h:Ok (l::P)){v:Vec}(_hv:V P v):V P (sig P l v):=by simp only[Ok]at h;exact tI (xI h.2.2.2.2) l.cs v h.2.2.2.1 (wE h.2.2.2.2)
theorem yC(l:Lvl)(P:Pcp)(a b:Int)(x y:Vec):mul (l::P) (a::x) (b::y)=if a+b≥l.o then(a+b-l.o)::mul P l.w (mul P (iter b.toNat (sig P l) x) y)else(a+b)::mul P (iter b.toNat (sig P l) x) y:=rfl
theorem zIQ{n k:Nat}{c:Vec}(h:(vQ n)[k]? =df c):k<n∧c=uC n k:=by
 simp only[vQ,Jf,K8]at h
 grind
theorem normal:∀(P:Pcp),Ok P→(∀Q,Q<:+P→Mon (V Q) (mul Q) (zeros Q.length))→ ∀x,V P x→img (mul P) (vQ P.length) x (zeros P.length)=x
 | [],_,_,x,hx=>by grind[V,img,zeros]
 |l::P,_,_,[],hx=>by grind[V]
 |l::P,h,hM,a::x,hx=>by
  have hMl:=hM (l::P) (List.suffix_refl _);have hMP:=hM P (by simp);have h':=h;simp only[Ok]at h;simp only[V]at hx;rw[Jn,zHa];have hz:V P (zeros P.length):=wE h.2.2.2.2;have bx:V (l::P) (1::zeros P.length):=by grind[V]
  have eQ:∀c∈(vQ P.length).map (0::·),V (l::P) c:=by
   intro c hc;simp only[vQ,U1,J7,K9]at hc;obtain⟨j,hj,rfl⟩:=hc;simp only[Function.comp,V]
   grind[zBK]
  have hzl:V (l::P) (zeros (P.length+1)):=by grind[wE]
  rw[show zeros (P.length+1)=zeros (l::P).length from rfl];rw[vY hMl bx eQ];have sz:∀k:Nat,iter k (sig P l) (zeros P.length)=zeros P.length:=by
   intro k
   induction k with
   |zero=>rfl
   |succ k ih=>grind[iter,sig,qM]
  have h1:∀k:Nat,(k:Int)<l.o→pw (mul (l::P)) (zeros (l::P).length) (1::zeros P.length) k=(k:Int)::zeros P.length:=by
   intro k
   induction k with
   |zero=>intro _;rfl
   |succ k ih=>
    intro hk;rw[pw,wG];show mul (l::P) (pw (mul (l::P)) (zeros (l::P).length) (1::zeros P.length) k) (1::zeros P.length)=_;rw[ih (by omega),yC,if_neg (by omega)];rw[sz,hMP.onel hz];rfl
  have h2:∀(cs:List Vec)(y acc:Vec),(∀c∈cs,V P c)→V P acc→img (mul (l::P)) (cs.map (0::·)) y (0::acc)=0::img (mul P) cs y acc:=by
   intro cs
   induction cs with
   |nil=>grind[img]
   |cons c cs ih=>
    intro y acc hc hacc;cases y with
    |nil=>simp[img]
    |cons z y=>
     have fg:V P c:=hc c (by simp);have it:∀(k:Nat)(acc:Vec),V P acc→iter k (fun v=>mul (l::P) v (0::c)) (0::acc)=0::iter k (fun v=>mul P v c) acc:=by
      intro k
      induction k with
      |zero=>intro _ _;rfl
      |succ k ihk=>
       intro acc hacc;simp only[iter];rw[yC,if_neg (by omega)];exact ihk _ (xI h.2.2.2.2 hacc fg)
     simp only[Jc,img];rw[it _ _ hacc,ih _ _ (by grind) (vT (by grind[xI]) _ hacc)]
  have fq:∀c∈vQ P.length,V P c:=by
   intro c hc;simp only[vQ,J7,K9]at hc;obtain⟨j,hj,rfl⟩:=hc
   grind[zBK]
  rw[h1 a.toNat (by omega),show zeros (l::P).length=0::zeros P.length from rfl,h2 _ _ _ fq hz,normal P h.2.2.2.2 (by grind) x hx.2,yC,if_neg (by omega)];simp only[Ll,iter];rw[hMP.onel hx.2]
  grind
theorem zGe:∀(P:Pcp),Ok P→xD P→Grp (V P) (mul P) (zeros P.length)
 | [],_,_=>by
  refine⟨⟨fun _ _=>rfl,rfl,fun _ _ _=>rfl,?_,?_⟩,fun ha=>⟨[],rfl,rfl⟩⟩<;>
  ·intro a ha
   simp only[V]at ha;subst ha;rfl
 |l::P,h,hc=>by
  have h':=h;simp only[Ok]at h;simp only[xD]at hc;obtain⟨ho,hw,gN,gQ,hP⟩:=h;obtain⟨aQ,po,bg,bf⟩:=hc;have N:=zGe P hP aQ;have hM:∀Q,Q<:+P→Mon (V Q) (mul Q) (zeros Q.length):=by
   intro Q hQ;obtain⟨t,ht⟩:=hQ;have:Ok Q∧xD Q:=by
    clear N hw gN gQ po bg bf h'
    induction t generalizing P with
    |nil=>grind
    |cons a t ih=>
     simp at ht;subst ht;simp only[Ok]at hP;simp only[xD]at aQ
     grind
   have gG:SizeOf.sizeOf Q≤SizeOf.sizeOf P:=by
    rw[←ht]
    clear N hw gN gQ po bg bf h' hP aQ ht this
    induction t with
    |nil=>simp
    |cons a t ih=>grind
   exact(zGe Q this.1 this.2).toMon
  have hz:V P (zeros P.length):=wE hP;have σin:∀v,V P v→V P (sig P l v):=by grind[zFd]
  have σhom:∀x y,V P x→V P y→sig P l (mul P x y)=mul P (sig P l x) (sig P l y):=fun x y hx hy=>zQv N.toMon P l.cs hP gQ po x y hx hy
  have σz:sig P l (zeros P.length)=zeros P.length:=qM _ _ _ _;have itin:∀(k:Nat) v,V P v→V P (iter k (sig P l) v):=fun k v hv=>vT σin k hv
  have ithom:∀(k:Nat) x y,V P x→V P y→iter k (sig P l) (mul P x y)=mul P (iter k (sig P l) x) (iter k (sig P l) y):=by
   intro k
   induction k with
   |zero=>intro _ _ _ _;rfl
   |succ k ih=>simp_all[iter]
  have itz:∀k:Nat,iter k (sig P l) (zeros P.length)=zeros P.length:=by
   intro k
   induction k with
   |zero=>rfl
   |succ k ih=>grind[iter]
  have itw:∀k:Nat,iter k (sig P l) l.w=l.w:=by
   intro k
   induction k with
   |zero=>rfl
   |succ k ih=>grind[iter]
  have fq:∀c∈vQ P.length,V P c:=by
   intro c hc;simp only[vQ,J7,K9]at hc;obtain⟨j,hj,rfl⟩:=hc
   grind[zBK]
  have inner:∀x,V P x→mul P x l.w=mul P l.w (iter l.o.toNat (sig P l) x):=by
   intro x hx;have hnf:=normal P hP hM x hx;have fF:=zIn N.toMon N.toMon (iter l.o.toNat (sig P l)) (by grind) (itz _) (by grind) (vQ P.length) x fq;rw[←hnf,fF];refine zDw N.toMon hw _ _ x fq (by simp_all) (by simp) ?_;intro k c d hc hd;rw[Jf,K8]at hd;obtain⟨c',ch,rfl⟩:=hd;rw[hc]at ch;simp at ch;subst ch;obtain⟨hk,rfl⟩:=zIQ hc
   grind
  have e:∀(x y z:Vec)(b c:Int),V P x→V P y→V P z→0≤b→0≤c→
    mul P (iter c.toNat (sig P l) (mul P (iter b.toNat (sig P l) x) y)) z=mul P (iter (b+c).toNat (sig P l) x) (mul P (iter c.toNat (sig P l) y) z)∧
    mul P (iter c.toNat (sig P l) (mul P l.w (mul P (iter b.toNat (sig P l) x) y))) z=mul P l.w (mul P (iter (b+c).toNat (sig P l) x) (mul P (iter c.toNat (sig P l) y) z))∧
    (l.o≤b+c→mul P (iter (b+c-l.o).toNat (sig P l) x) (mul P l.w (mul P (iter c.toNat (sig P l) y) z))=mul P l.w (mul P (iter (b+c).toNat (sig P l) x) (mul P (iter c.toNat (sig P l) y) z))):=by
   intro x y z b c hx hy hz hb hcc;have aR:=itin b.toNat x hx;have hcy:=itin c.toNat y hy;have hbc:iter c.toNat (sig P l) (iter b.toNat (sig P l) x)=iter (b+c).toNat (sig P l) x:=by rw[←zBr];congr 1;omega
   have aT:=itin (b+c).toNat x hx;have e1:mul P (iter c.toNat (sig P l) (mul P (iter b.toNat (sig P l) x) y)) z=mul P (iter (b+c).toNat (sig P l) x) (mul P (iter c.toNat (sig P l) y) z):=by rw[ithom _ _ _ aR hy,hbc,N.assoc aT hcy hz]
   refine⟨e1,?_,?_⟩
   ·rw[ithom _ _ _ hw (N.cl aR hy),itw,N.assoc hw (itin _ _ (N.cl aR hy)) hz,e1]
   ·intro hge
    have bl:=N.cl hcy hz;rw[←N.assoc (itin _ x hx) hw bl,inner _ (itin _ x hx),←zBr,N.assoc hw (itin _ x hx) bl]
    congr 3
    omega
  refine⟨⟨by grind[xI],wE h',?_,?_,?_⟩,?_⟩
  ·intro A B C hA hB hC
   match A,B,C,hA,hB,hC with
   |a::x,b::y,c::z,hA,hB,hC=>
    simp only[V]at hA hB hC;obtain⟨e1,e2,e3⟩:=e x y z b c hA.2 hB.2 hC.2 hB.1.1 hC.1.1
    by_cases c1:a+b≥l.o<;>by_cases c2:b+c≥l.o
    ·rw[yC,if_pos c1,yC l P b c,if_pos c2,yC,yC,e2,e3 c2]
     grind
    ·rw[yC,if_pos c1,yC l P b c,if_neg c2,yC,yC,e2,if_neg (by omega),if_pos (by omega)]
     grind
    ·rw[yC,if_neg c1,yC l P b c,if_pos c2,yC,yC,e1,e3 c2,if_pos (by omega),if_neg (by omega)]
     grind
    ·rw[yC,if_neg c1,yC l P b c,if_neg c2,yC,yC,e1]
     grind
  ·intro A hA
   match A,hA with
   |a::x,hA=>
    simp only[V]at hA;show mul (l::P) (0::zeros P.length) (a::x)=_;rw[yC,if_neg (by omega),itz,N.onel hA.2,Gg]
  ·intro A hA
   match A,hA with
   |a::x,hA=>
    simp only[V]at hA;show mul (l::P) (a::x) (0::zeros P.length)=_;rw[yC,if_neg (by omega)];simp only[Ll,iter];rw[N.oner hA.2,H5]
  ·intro A hA
   match A,hA with
   |a::x,hA=>
    simp only[V]at hA
    by_cases ha:a=0
    ·obtain⟨y,hy,h1⟩:=N.inv hA.2
     refine⟨0::y,by simp only[V];grind,?_⟩;rw[yC,if_neg (by omega)];simp only[Ll,iter];rw[h1,ha];rfl
    ·have mu:=itin (l.o-a).toNat x hA.2
     obtain⟨y,hy,h1⟩:=N.inv (N.cl hw mu);refine⟨(l.o-a)::y,by simp only[V];grind,?_⟩;rw[yC,if_pos (by omega),←N.assoc hw mu hy,h1,show a+(l.o-a)-l.o=0 by omega];rfl
termination_by P=>P
end Go.Pc

namespace Go.Pc
structure Fil {α:Type} (S:α→Prop) (m:α→α→α) (e:α) (n:Nat) (o:Nat→Int) (co:α→Nat→Int):Prop where
 g:Grp S m e
 r:∀{a d},S a→d<n→0≤co a d∧co a d<o d
 e0:∀{d},d<n→co e d=0
 ex:∀{a b},S a→S b→(∀d,d<n→co a d=co b d)→a=b
 ad:∀{a b d},S a→S b→d<n→(∀j,j<d→co b j=0)→(∀j,j<d→co (m a b) j=co a j)∧co (m a b) d=(co a d+co b d)%o d
inductive Gen {α:Type} (S:α→Prop) (m:α→α→α) (e:α) (X:α→Prop):α→Prop
 |one:Gen S m e X e
 |x {a}:X a→Gen S m e X a
 |m {a b}:Gen S m e X a→Gen S m e X b→Gen S m e X (m a b)
 |i {a b}:Gen S m e X a→S b→m a b=e→Gen S m e X b
section
variable {α:Type}{S:α→Prop}{m:α→α→α}{e:α}{X Y:α→Prop}
variable (g:Grp S m e)
 include g
theorem Gen.in(hX:∀a,X a→S a){a:α}(ha:Gen S m e X a):S a:=by
 induction ha with
 |one=>exact g.ein
 |x hx=>exact hX _ hx
 |m _ _ h1 h2=>exact g.cl h1 h2
 |i _ hb _ _=>exact hb
end
section
variable {α:Type}{S:α→Prop}{m:α→α→α}{e:α}{n:Nat}{o:Nat→Int}{co:α→Nat→Int} (F:Fil S m e n o co)
 include F
theorem Fil.dm{a b:α}{d:Nat}(hd:d≤n)(ha:S a)(hb:S b)(za:∀j,j<d→co a j=0)(zb:∀j,j<d→co b j=0):∀j,j<d→co (m a b) j=0:=fun j hj=>by have h:=(F.ad ha hb (by omega:j<n) fun i hi=>zb i (by omega)).2;rw[h,za j hj,zb j hj];simp
theorem Fil.md{x:Int}{d:Nat}(hd:d<n){a:α}(ha:S a)(h:co a d=x):x%o d=x:=by have:=F.r ha hd;rw[←h];exact Ki this.1 this.2
theorem Fil.pwc{t:α}{d:Nat}(hd:d<n)(ht:S t)(zt:∀j,j<d→co t j=0):∀k,(∀j,j<d→co (pw m e t k) j=0)∧co (pw m e t k) d=(k*co t d)%o d
 |0=>⟨fun j hj=>F.e0 (by omega),by rw[pw,iter,F.e0 hd];simp⟩
 |k+1=>by
  have ih:=Fil.pwc hd ht zt k;have hp:=wL F.g.toMon ht k;have e1:pw m e t (k+1)=m (pw m e t k) t:=by rw[pw,wG];rfl
  have h:=F.ad hp ht hd zt;rw[e1];refine⟨fun j hj=>(h.1 j hj).trans (ih.1 j hj),?_⟩;rw[h.2,ih.2,Ui]
  congr 1
  rw[Uo,Gy,Gw]
theorem Fil.cmd{a b w:α}{k:Nat}(hk:k<n)(ha:S a)(hb:S b)(hw:S w)(za:∀j,j<k→co a j=0)(zb:∀j,j<k+1→co b j=0)(h:m (m b a) w=m a b∨m (m a b) w=m b a):∀j,j<k+1→co w j=0:=by
 have e1:∀j,j<k+1→co (m b a) j=co a j:=fun j hj=>by have h:=(F.ad hb ha (by omega:j<n) fun i hi=>za i (by omega)).2;rw[h,zb j hj,Gg];exact F.md (by omega) ha rfl
 have e2:∀j,j<k+1→co (m a b) j=co a j:=fun j hj=>by have h:=(F.ad ha hb (by omega:j<n) fun i hi=>zb i (by omega)).2;rw[h,zb j hj,H5];exact F.md (by omega) ha rfl
 intro j
 induction j using Nat.strongRecOn with
 |ind j ih=>
  intro hj;have cU:j<n:=by omega
  have hr:=F.r ha cU;have pY:=F.r hw cU;have key:(co a j+co w j)%o j=co a j:=by
   rcases h with h|h
   ·have h1:=(F.ad (F.g.cl hb ha) hw cU fun i hi=>ih i hi (by omega)).2
    rw[h,e2 j hj,e1 j hj]at h1;exact h1.symm
   ·have h1:=(F.ad (F.g.cl ha hb) hw cU fun i hi=>ih i hi (by omega)).2
    rw[h,e1 j hj,e2 j hj]at h1;exact h1.symm
  by_cases g:co a j+co w j<o j
  ·rw[Ki (by omega) g]at key;omega
  ·rw[←Ua,Ki (by omega) (by omega)]at key;omega
structure Can (S:α→Prop) (n:Nat) (co:α→Nat→Int) (H:α→Prop) (C:Nat→Option α):Prop where
 i:∀{k t},C k=df t→k<n∧H t∧S t∧(∀j,j<k→co t j=0)∧co t k=1∧ ∀j,k<j→j<n→(C j).isSome=dh→co t j=0
 d:∀{x},H x→x≠e→ ∃j,j<n∧(C j).isSome=dh∧(∀i,i<j→co x i=0)∧co x j≠0
end
end Go.Pc

namespace Go.Pc
end Go.Pc

namespace Go.Pc
def cd(v:Vec)(j:Nat):Int:=v.getD j 0
def od(P:Pcp)(j:Nat):Int:=match P[j]? with
 |some l=>l.o
 |none=>1
theorem zM3(l:Lvl)(P:Pcp):od (l::P) 0=l.o:=rfl
theorem zIo(l:Lvl)(P:Pcp)(j:Nat):od (l::P) (j+1)=od P j:=by simp[od]
theorem zQw:∀{P:Pcp}{v:Vec},V P v→ ∀{d:Nat},d<P.length→0≤cd v d∧cd v d<od P d
 | [],_,_,d,hd=>by simp at hd
 |l::P,[],h,_,_=>by simp[V]at h
 |l::P,a::x,h,0,_=>by simp only[V]at h;exact h.1
 |l::P,a::x,h,d+1,hd=>by simp only[V]at h;rw[zIo];exact zQw h.2 (by simpa using hd)
theorem zNB:∀{P:Pcp}{a b:Vec},V P a→V P b→(∀d,d<P.length→cd a d=cd b d)→a=b
 | [],a,b,ha,hb,_=>by simp only[V]at ha hb;rw[ha,hb]
 |l::P,[],_,h,_,_=>by simp[V]at h
 |l::P,_::_,[],_,h,_=>by simp[V]at h
 |l::P,a::x,b::y,ha,hb,h=>by simp only[V]at ha hb;have h0:a=b:=h 0 (by simp);rw[h0,zNB ha.2 hb.2 fun d hd=>h (d+1) (by simpa using hd)]
theorem zNC:∀{P:Pcp}{x y:Vec},V P x→V P y→ ∀{d:Nat},d<P.length→(∀j,j<d→cd y j=0)→(∀j,j<d→cd (mul P x y) j=cd x j)∧cd (mul P x y) d=(cd x d+cd y d)%od P d
 | [],_,_,_,_,d,hd,_=>by simp at hd
 |l::P,[],_,h,_,_,_,_=>by simp[V]at h
 |l::P,_::_,[],_,h,_,_,_=>by simp[V]at h
 |l::P,a::x,b::y,hx,hy,0,_,_=>by
  simp only[V]at hx hy;refine⟨fun j hj=>by omega,?_⟩;rw[yC,zM3];show cd _ 0=(a+b)%l.o
  by_cases g:a+b≥l.o
  ·rw[if_pos g,←Ua,Ki (by omega) (by omega)];rfl
  ·rw[if_neg g,Ki (by omega) (by omega)];rfl
 |l::P,a::x,b::y,hx,hy,d+1,hd,hz=>by
  simp only[V]at hx hy;have hb:b=0:=hz 0 (by omega);subst hb;have ih:=zNC hx.2 hy.2 (d:=d) (by simpa using hd) fun j hj=>hz (j+1) (by omega)
  rw[yC,if_neg (by omega),zIo];show(∀j,j<d+1→cd ((a+0)::mul P x y) j=cd (a::x) j)∧_;rw[H5];refine⟨fun j hj=>?_,ih.2⟩;cases j with
  |zero=>rfl
  |succ j=>exact ih.1 j (by omega)
theorem zK1{n d:Nat}:cd (zeros n) d=0:=by unfold cd zeros;rw[J4,Js];split<;>rfl
theorem fil{P:Pcp}(h:Ok P)(hc:xD P):Fil (V P) (mul P) (zeros P.length) P.length (od P) cd:=
 ⟨zGe P h hc,fun ha hd=>zQw ha hd,fun _=>zK1,fun ha hb h=>zNB ha hb h,fun ha hb hd hz=>zNC ha hb hd hz⟩
end Go.Pc

namespace Go.Pc
section
variable {α:Type}{S:α→Prop}{m:α→α→α}{e:α}{n:Nat}{o:Nat→Int}{co:α→Nat→Int} (F:Fil S m e n o co)
 include F
theorem Fil.pw1{t:α}{d:Nat}(hd:d<n)(ht:S t)(zt:∀j,j<d→co t j=0)(h1:co t d=1)(k:Nat):S (pw m e t k)∧(∀j,j<d→co (pw m e t k) j=0)∧co (pw m e t k) d=k%o d:=by have h:=F.pwc hd ht zt k;rw[h1,Int.mul_one]at h;exact⟨wL F.g.toMon ht k,h⟩
theorem Fil.killl{t x:α}{d:Nat}(hd:d<n)(ht:S t)(zt:∀j,j<d→co t j=0)(h1:co t d=1)(hx:S x)(zx:∀j,j<d→co x j=0):co (m (pw m e t (o d-co x d).toNat) x) d=0:=by have hr:=F.r hx hd;obtain⟨p1,p2,p3⟩:=F.pw1 hd ht zt h1 (o d-co x d).toNat;rw[(F.ad p1 hx hd zx).2,p3,Ui,show(((o d-co x d).toNat:Nat):Int)=o d-co x d from by omega,show o d-co x d+co x d=o d from by omega,Int.emod_self]
end
end Go.Pc

namespace Go.Pc
end Go.Pc

namespace Go.Pc
end Go.Pc

namespace Go.Pc
class GrT (A:Type) extends Mul A,One A,Inv A where
 as:∀a b c:A,a*b*c=a*(b*c)
 ol:∀a:A,1*a=a
 or1:∀a:A,a*1=a
 il:∀a:A,a⁻¹*a=1
 ir:∀a:A,a*a⁻¹=1
section
variable {A:Type} [GrT A]
open GrT
theorem cl1(a b:A):a⁻¹*(a*b)=b:=by rw[←as,il,ol]
theorem cl2(a b:A):a*(a⁻¹*b)=b:=by rw[←as,ir,ol]
theorem zND{a b c:A}(h:a*b=a*c):b=c:=by rw[←cl1 a b,h,cl1]
theorem zFe{a b:A}(h:a*b=1):b=a⁻¹:=zND (a:=a) (by rw[h,ir])
theorem ii(a:A):a⁻¹⁻¹=a:=(zFe (il a)).symm
theorem i1:(1:A)⁻¹=1:=(zFe (ol 1)).symm
theorem im(a b:A):(a*b)⁻¹=b⁻¹*a⁻¹:=(zFe (by rw[as,cl2,ir])).symm
def pg(a:A):Nat→A
 |0=>1
 |k+1=>pg a k*a
theorem zO2(a b:A):∀k,b⁻¹*pg a k*b=pg (b⁻¹*a*b) k
 |0=>by simp[pg,or1,il]
 |k+1=>by rw[pg,pg,←zO2 a b k];simp[as,cl2]
structure Sg (H:A→Prop):Prop where
 o:H 1
 m:∀{a b},H a→H b→H (a*b)
 i:∀{a},H a→H a⁻¹
structure Nm (H:A→Prop):Prop extends Sg H where
 c:∀{a} b,H a→H (b⁻¹*a*b)
theorem Sg.pg{H:A→Prop}(h:Sg H){a:A}(ha:H a):∀k,H (pg a k)
 |0=>h.o
 |k+1=>h.m (h.pg ha k) ha
theorem Nm.c'{H:A→Prop}(h:Nm H){a:A}(b:A)(ha:H a):H (b*a*b⁻¹):=by
 have:=h.c b⁻¹ ha
 rwa [ii]at this
theorem Nm.cm{H:A→Prop}(h:Nm H){a:A}(b:A)(ha:H a):H (a⁻¹*b⁻¹*a*b):=by have:=h.m (h.i ha) (h.c b ha);simpa[as]using this
inductive Ge (X:A→Prop):A→Prop
 |o:Ge X 1
 |x {a}:X a→Ge X a
 |m {a b}:Ge X a→Ge X b→Ge X (a*b)
 |i {a}:Ge X a→Ge X a⁻¹
theorem Ge.s(X:A→Prop):Sg (Ge X):=⟨.o,.m,.i⟩
theorem Ge.to{X H:A→Prop}(h:Sg H)(hx:∀a,X a→H a){a:A}(ha:Ge X a):H a:=by
 induction ha with
 |o=>exact h.o
 |x k=>exact hx _ k
 |m _ _ k1 k2=>exact h.m k1 k2
 |i _ k=>exact h.i k
theorem Ge.n{X:A→Prop}(h:∀{a} b,X a→X (b⁻¹*a*b)):Nm (Ge X):=⟨Ge.s X,fun{a} b ha=>by
 induction ha with
 |o=>simp[or1,il];exact .o
 |x k=>exact .x (h b k)
 | @m a c _ _ k1 k2=>
  have:=Ge.m k1 k2;simpa[as,cl2]using this
 |i _ k=>
  have:=Ge.i k;simpa[as,im,ii]using this⟩
def NX(q:Nat)(H:A→Prop)(a:A):Prop:=(∃h b,H h∧a=h⁻¹*b⁻¹*h*b)∨ ∃h,H h∧a=pg h q
def Qm(q:Nat):Nat→A→Prop
 |0=>fun _=>True
 |k+1=>Ge (NX q (Qm q k))
theorem Nm.next{q:Nat}{H:A→Prop}(h:Nm H):Nm (Ge (NX q H)):=Ge.n fun{a} b ha=>by
 rcases ha with⟨y,g,hy,rfl⟩|⟨y,hy,rfl⟩
 ·exact .inl ⟨b⁻¹*y*b,b⁻¹*g*b,h.c b hy,by simp[as,im,ii,cl2]⟩
 ·exact .inr ⟨b⁻¹*y*b,h.c b hy,zO2 _ _ _⟩
theorem Nm.sub{q:Nat}{H:A→Prop}(h:Nm H){a:A}(ha:Ge (NX q H) a):H a:=ha.to h.toSg fun b hb=>by
 rcases hb with⟨y,g,hy,rfl⟩|⟨y,hy,rfl⟩
 ·exact h.cm g hy
 ·exact h.toSg.pg hy q
theorem Qm.n(q:Nat):∀k,Nm (A:=A) (Qm q k)
 |0=>⟨⟨trivial,fun _ _=>trivial,fun _=>trivial⟩,fun _ _=>trivial⟩
 |k+1=>(Qm.n q k).next
end
end Go.Pc

namespace Go.Pc
open GrT
theorem zHb{P:Nat→Prop}:∀d,P d→ ∃k,k≤d∧P k∧ ∀j,j<k→ ¬P j
 |d,h=>by
  by_cases k:∃j,j<d∧P j
  ·obtain⟨j,h1,h2⟩:=k
   obtain⟨k,k1,k2,k3⟩:=zHb j h2;exact⟨k,by omega,k2,k3⟩
  ·exact⟨d,Jg _,h,fun j hj hp=>k ⟨j,hj,hp⟩⟩
section
variable {A:Type} [GrT A] {n q:Nat}{co:A→Nat→Int} (F:Fil (fun _:A=>True) (· *·) 1 n (fun _=>(q:Int)) co)
def Gd(co:A→Nat→Int)(i:Nat)(a:A):Prop:=∀j,j<i→co a j=0
structure If (q:Nat) (H:A→Prop) (co:A→Nat→Int) (i:Nat) (f:A→Int):Prop where
 a:∀{a b},H a→H b→(f (a*b)-f a-f b)%q=0
 z:∃a,H a∧f a%q≠0
 c:∀{a} g,H a→Gd co i g→(f (g⁻¹*a*g)-f a)%q=0
def fs(f:A→Int)(t:A):Nat→A→Int
 |0=>f
 |j+1=>fun a=>fs f t j (t⁻¹*a*t)-fs f t j a
 include F
theorem zRs{i:Nat}(hi:i<n){t g:A}(ht:Gd co i t)(hg:Gd co (i+1) g):Gd co (i+1) (t⁻¹*g*t):=by have h:=F.cmd hi (a:=t) (b:=g) (w:=g⁻¹*(t⁻¹*g*t)) trivial trivial trivial ht hg (.inr (by simp[as,cl2]));have:=F.dm (d:=i+1) (by omega) trivial trivial hg h;simp only[cl2]at this;exact this
theorem zO3(hq:q=2∨q=3∨q=5∨q=7)(ht:∀i,i<n→ ∃t,Gd co i t∧co t i=1){H:A→Prop}(hH:Nm H){i:Nat}(hi:i<n){f:A→Int}(hf:If q H co (i+1) f):∃g,If q H co i g:=by
 obtain⟨t,t1,t2⟩:=ht i hi;have hA:∀j{a b},H a→H b→(fs f t j (a*b)-fs f t j a-fs f t j b)%q=0:=by
  intro j
  induction j with
  |zero=>exact hf.a
  |succ j ih=>
   intro a b ha hb;have h1:=ih (hH.c t ha) (hH.c t hb);have h2:=ih ha hb;simp only[fs];rw[show t⁻¹*(a*b)*t=t⁻¹*a*t*(t⁻¹*b*t)by simp[as,cl2]];rcases hq with rfl|rfl|rfl|rfl<;>omega
 have hC:∀j{a} g,H a→Gd co (i+1) g→(fs f t j (g⁻¹*a*g)-fs f t j a)%q=0:=by
  intro j
  induction j with
  |zero=>exact hf.c
  |succ j ih=>
   intro a g ha hg;have h1:=ih (t⁻¹*g*t) (hH.c t ha) (zRs F hi t1 hg);have h2:=ih g ha hg;rw[show(t⁻¹*g*t)⁻¹*(t⁻¹*a*t)*(t⁻¹*g*t)=t⁻¹*(g⁻¹*a*g)*t by simp[as,im,ii,cl2]]at h1;simp only[fs];rcases hq with rfl|rfl|rfl|rfl<;>omega
 have hp:∀k,pw (· *·) 1 t k=pg t k:=fun k=>by
  induction k with
  |zero=>rfl
  |succ k ih=>rw[pw,wG];exact congrArg (· *t) ih
 have hG:Gd co (i+1) (pg t q):=fun j hj=>by
  have h:=Fil.pwc F hi (t:=t) trivial t1 q;rw[hp]at h
  by_cases e:j=i
  ·rw[e,h.2,t2];simp
  ·exact h.1 j (by omega)
 have hZ:∀a,H a→fs f t q a%q=0:=fun a ha=>by have h:=hf.c (pg t q) ha hG;rcases hq with rfl|rfl|rfl|rfl<;>simp[fs,pg,as,im,ol]at h ⊢ <;>omega
 obtain⟨k,k1,k2,k3⟩:=zHb (P:=fun j=> ∀a,H a→fs f t j a%q=0) q hZ;obtain⟨b,b1,b2⟩:=hf.z;cases k with
 |zero=>exact absurd (k2 b b1) b2
 |succ k=>
  have hz:∃a,H a∧fs f t k a%q≠0:=Classical.byContradiction fun hn=>k3 k (by omega) fun a ha=>Classical.byContradiction fun h=>hn ⟨a,ha,h⟩
  have ct:∀k'{a},H a→(fs f t k ((pg t k')⁻¹*a*pg t k')-fs f t k a)%q=0:=fun k'=>by
   induction k' with
   |zero=>intro a _;simp[pg,i1,ol,or1]
   |succ k' ih=>
    intro a ha;have h1:=ih ha;have h2:=k2 ((pg t k')⁻¹*a*pg t k') (hH.c _ ha);simp only[fs]at h2;rw[show(pg t (k'+1))⁻¹*a*pg t (k'+1)=t⁻¹*((pg t k')⁻¹*a*pg t k')*t by simp[pg,as,im]];rcases hq with rfl|rfl|rfl|rfl<;>omega
  refine⟨fs f t k,hA k,hz,fun{a} g ha hg=>?_⟩;have hk:=F.killl hi (t:=t) (x:=g) trivial t1 t2 trivial hg;rw[hp]at hk;have hw:=F.pw1 hi (t:=t) trivial t1 t2 ((q:Int)-co g i).toNat;rw[hp]at hw;have hz':Gd co (i+1) (pg t ((q:Int)-co g i).toNat*g):=fun j hj=>by
   by_cases e:j=i
   ·rw[e];exact hk
   ·exact F.dm (d:=i) (by omega) trivial trivial hw.2.1 hg j (by omega)
  have cw:=fun a=>ct ((q:Int)-co g i).toNat (a:=a)
  generalize pg t ((q:Int)-co g i).toNat=w at hz' cw
  have h1:=cw _ (hH.c' w ha);have h2:=hC k (w*g) (hH.c' w ha) hz';rw[show w⁻¹*(w*a*w⁻¹)*w=a by simp[as,il,cl1,or1]]at h1;rw[show(w*g)⁻¹*(w*a*w⁻¹)*(w*g)=g⁻¹*a*g by simp[as,im,cl1]]at h2;rcases hq with rfl|rfl|rfl|rfl<;>omega
theorem zQx(hq:q=2∨q=3∨q=5∨q=7)(ht:∀i,i<n→ ∃t,Gd co i t∧co t i=1){H:A→Prop}(hH:Nm H)(h1:∃a,H a∧a≠1):∃a,H a∧ ¬Ge (NX q H) a:=by
 obtain⟨a,a1,a2⟩:=h1;have hd:∃d,d<n∧ ∃a,H a∧co a d≠0:=Classical.byContradiction fun hn=>a2 (F.ex trivial trivial fun d hd=>by rw[F.e0 hd];exact Classical.byContradiction fun h=>hn ⟨d,hd,a,a1,h⟩)
 obtain⟨d0,d1,d2⟩:=hd;obtain⟨d,d3,⟨b,b1,b2⟩,d4⟩:=zHb (P:=fun d=> ∃a,H a∧co a d≠0) d0 d2;have hz:∀{a},H a→Gd co d a:=fun{a} ha j hj=>Classical.byContradiction fun h=>d4 j hj ⟨a,ha,h⟩
 have key:∀l,l≤n→ ∃f,If q H co (n-l) f:=by
  intro l
  induction l with
  |zero=>
   intro _;refine⟨fun a=>co a d,⟨fun{a b} ha hb=>?_,⟨b,b1,?_⟩,fun{a} g ha hg=>?_⟩⟩
   ·have:=(F.ad (a:=a) (b:=b) trivial trivial (by omega:d<n) (hz hb)).2
    show((co (a*b) d-co a d-co b d)%q=0);rw[this];rcases hq with rfl|rfl|rfl|rfl<;>omega
   ·have:=F.r (a:=b) trivial (by omega:d<n)
    show co b d%q≠0;rw[Ki this.1 this.2];exact b2
   ·have:g=1:=F.ex trivial trivial fun d hd=>by rw[F.e0 hd];exact hg d (by omega)
    simp[this,i1,ol,or1]
  |succ l ih=>
   intro hl;obtain⟨f,hf⟩:=ih (by omega);rw[show n-l=n-(l+1)+1 by omega]at hf;exact zO3 F hq ht hH (by omega) hf
 obtain⟨f,hf⟩:=key n (Jg n);rw[Jt]at hf;obtain⟨c,c1,c2⟩:=hf.z;refine⟨c,c1,fun hc=>c2 ?_⟩;have f1:f 1%q=0:=by have:=hf.a hH.o hH.o;rw[ol]at this;rcases hq with rfl|rfl|rfl|rfl<;>omega
 have fi:∀{a},H a→(f a⁻¹+f a)%q=0:=fun{a} ha=>by have:=hf.a (hH.i ha) ha;rw[il]at this;rcases hq with rfl|rfl|rfl|rfl<;>omega
 have hs:Sg fun a=>H a∧f a%q=0:=⟨⟨hH.o,f1⟩,fun{a b} ha hb=>⟨hH.m ha.1 hb.1,by
  have:=hf.a ha.1 hb.1;have h2:=ha.2;have h3:=hb.2;rcases hq with rfl|rfl|rfl|rfl<;>omega⟩,fun{a} ha=>⟨hH.i ha.1,by
  have:=fi ha.1;have h2:=ha.2;rcases hq with rfl|rfl|rfl|rfl<;>omega⟩⟩
 refine(Ge.to hs (fun a ha=>?_) hc).2;rcases ha with⟨y,g,hy,rfl⟩|⟨y,hy,rfl⟩
 ·refine⟨hH.cm g hy,?_⟩
  have e:=hf.a (hH.i hy) (hH.c g hy);have e2:=hf.c g hy (fun j hj=>by omega);have e3:=fi hy;rw[show y⁻¹*(g⁻¹*y*g)=y⁻¹*g⁻¹*y*g by simp[as]]at e;rcases hq with rfl|rfl|rfl|rfl<;>omega
 ·refine⟨hH.toSg.pg hy q,?_⟩
  have:∀k,(f (pg y k)-k*f y)%q=0:=fun k=>by
   induction k with
   |zero=>simpa[pg]using f1
   |succ k ih=>
    have:=hf.a (hH.toSg.pg hy k) hy;simp only[pg];rw[Uo,Gy,Gw]
    generalize (k:Int)*f y=z at*
    rcases hq with rfl|rfl|rfl|rfl<;>omega
  have:=this q;rcases hq with rfl|rfl|rfl|rfl<;>omega
end
end Go.Pc

namespace Go.Pc
open GrT
section
variable {A:Type} [GrT A] {n:Nat}{o:Nat→Int}{co:A→Nat→Int}
theorem zAP(a:A)(i:Nat):∀j,pg a (i+j)=pg a i*pg a j
 |0=>(or1 _).symm
 |j+1=>by rw[←L7,pg,zAP a i j,as];rfl
theorem zFf(a:A)(c:Nat):∀j,pg (pg a c) j=pg a (c*j)
 |0=>rfl
 |j+1=>by rw[pg,zFf a c j,Lo,zAP]
end
end Go.Pc

namespace Go.Pc
open GrT
end Go.Pc

namespace Go.Pl
open Go Go.Ab
theorem bs{α β:Type}(x:α)(f:α→Option β):(df x).bind f=f x:=by simp only[Option.bind_some]
theorem zH{α:Type}(x y:α):cond dh x y=x:=by simp only[cond_true]
theorem zG{α:Type}(x y:α):cond di x y=y:=by simp only[cond_false]
theorem zD{n:Int}(h1:-9223372036854775808≤n)(h2:n≤9223372036854775807):rng n=df n:=by unfold rng;rw[if_pos];simp only[inR,J2,decide_eq_true_eq];omega
theorem yT{α:Type}(xs:List α)(i:Nat):ixO xs (i:Int)=xs[i]?:=by unfold ixO;rw[if_pos (by omega)];simp
theorem tJ{α:Type}{xs:List α}{i:Nat}(h:i<xs.length):ixO xs (i:Int)=df xs[i]:=by rw[yT];exact J5 h
theorem yI{n:Nat}(h:n≤68719476736):yF (n:Int)=df n:=by unfold yF;rw[if_pos (by omega)];simp
theorem yX{α:Type}{xs ys:List α}(h:xs.length+ys.length≤68719476736):yQ xs ys=df (xs++ys):=by unfold yQ;rw[if_pos h]
theorem zX{σ ρ:Type}{body:σ→Option (σ⊕ρ)}{r:ρ}(S:Nat→σ)(n:Nat)(h:∀i,i<n→body (S i)=df (.inl (S (i+1))))(he:body (S n)=df (.inr r)):zC body (S 0)=df r:=by
 have key:∀k i,i+k=n→zC body (S i)=df r:=by
  intro k
  induction k with
  |zero=>intro i hi;rw[zM,show i=n from by omega,he]
  |succ k ih=>intro i hi;rw[zM,h i (by omega)];exact ih (i+1) (by omega)
 exact key n 0 (by omega)
theorem vG{σ ρ:Type}{body:σ→Option (σ⊕ρ)}{Q:ρ→Prop}(I:Nat→σ→Prop)(n:Nat)(h:∀i s,i<n→I i s→(∃s',body s=df (.inl s')∧I (i+1) s')∨ ∃r,body s=df (.inr r)∧Q r)
  (he:∀s,I n s→ ∃r,body s=df (.inr r)∧Q r){s:σ}(h0:I 0 s):∃r,zC body s=df r∧Q r:=by
 have key:∀k i s,i+k=n→I i s→ ∃r,zC body s=df r∧Q r:=by
  intro k
  induction k with
  |zero=>
   intro i s hi hs;obtain rfl:i=n:=by omega
   obtain⟨r,h1,h2⟩:=he s hs;exact⟨r,by rw[zM,h1],h2⟩
  |succ k ih=>
   intro i s hi hs;rcases h i s (by omega) hs with⟨s',h1,h2⟩|⟨r,h1,h2⟩
   ·rw[zM,h1];exact ih (i+1) s' (by omega) h2
   ·exact⟨r,by rw[zM,h1],h2⟩
 exact key n 0 s (by omega) h0
def zIp{ρ:Type}:Option ρ→Unit⊕ρ
 |none=>.inl ()
 |some r=>.inr r
theorem cs(i:Nat):(i:Int)+1=((i+1:Nat):Int):=by omega
theorem zIR{ρ:Type}{body:Int→Option (Int⊕(Unit⊕ρ))}(n:Nat)(t:Nat→Option ρ)(i0:Nat)(hn:i0≤n)
  (h:∀i,i0≤i→i<n→(∀j,i0≤j→j<i→t j=dg)→body (i:Int)=df (match t i with|none=>.inl ((i+1:Nat):Int)|some r=>.inr (.inr r)))
  (he:(∀j,i0≤j→j<n→t j=dg)→body (n:Int)=df (.inr (.inl ()))):
  zC body (i0:Int)=df (zIp ((Ht i0 (n-i0)).findSome? t)):=by
 have key:∀k i,i0≤i→i+k=n→(∀j,i0≤j→j<i→t j=dg)→zC body (i:Int)=df (zIp ((Ht i k).findSome? t)):=by
  intro k
  induction k with
  |zero=>
   intro i hi hk hp;obtain rfl:i=n:=by omega
   rw[zM,he hp];rfl
  |succ k ih=>
   intro i hi hk hp;rw[zM,h i hi (by omega) hp,Uz,Gv];cases ht:t i with
   |some r=>rfl
   |none=>
    simp only
    exact ih (i+1) (by omega) (by omega) fun j h1 h2=>by
     rcases Ho j i with h3|h3
     ·exact hp j h1 h3
     ·rw[show j=i from by omega];exact ht
 exact key (n-i0) i0 (Jg _) (by omega) fun j h1 h2=>by omega
theorem zK2{n:Nat}{b:Nat→Bool}:zIp ((Ht 0 n).findSome? (fun i=>if b i then dg else df di))=if(Jz n).all b then .inl ()else .inr di:=by
 have key:∀l:List Nat,zIp (l.findSome? (fun i=>if b i then dg else df di))=if l.all b then .inl ()else .inr di:=by
  intro l
  induction l with
  |nil=>rfl
  |cons x l ih=>
   rw[Gv,Gp];cases hb:b x
   ·rfl
   ·simpa using ih
 rw[key,List.range_eq_range']
theorem zIS{body:Int→Option (Int⊕(Unit⊕Bool))}(n:Nat)(b:Nat→Bool)
  (h:∀i,i<n→(∀j,j<i→b j=dh)→body (i:Int)=df (if b i then .inl ((i+1:Nat):Int)else .inr (.inr di)))
  (he:(∀j,j<n→b j=dh)→body (n:Int)=df (.inr (.inl ()))):
  zC body 0=df (if(Jz n).all b then .inl ()else .inr di):=by
 have:=zIR (body:=body) n (fun i=>if b i then dg else df di) 0 (Kq _) (fun i _ hi hp=>by
  rw[h i hi fun j hj=>by
   have:=hp j (Kq _) hj;split at this
   ·assumption
   ·cases this]
  cases b i<;>rfl) (fun hp=>he fun j hj=>by
   have:=hp j (Kq _) hj;split at this
   ·assumption
   ·cases this)
 rw[G8]at this;exact this.trans (congrArg df (zK2 (n:=n) (b:=b)))
theorem zK3{α:Type}{xs:List α}{z:α}{i:Nat}(h:i<xs.length):(xs.take i++J1 (xs.length-i) z).set i xs[i]=xs.take (i+1)++J1 (xs.length-(i+1)) z:=by
 have h1:(xs.take i).length=i:=by rw[Lj];omega
 rw[Kg _ _ (by omega),h1,Jt,show xs.length-i=(xs.length-(i+1))+1 from by omega,K5,K6,Kh h];simp only[Jb,Ks]
theorem zFg{α:Type}{f:α→Option α}{body:List α×Int→Option ((List α×Int)⊕List α)}{x0:List α}{z:α}
  (hb:∀s,body s=cond (decide (s.2<(x0.length:Int))) ((ixO x0 s.2).bind fun v2=>(f v2).bind fun r3=>(ixO s.1 s.2).bind fun _=>(rng (s.2+1)).bind fun v5=>df (.inl (s.1.set s.2.toNat r3,v5))) (df (.inr s.1)))
  (hl:x0.length≤68719476736)(hf:∀x∈x0,f x=df x):zC body (J1 x0.length z,0)=df x0:=by
 have:=zX (body:=body) (r:=x0) (fun i=>(x0.take i++J1 (x0.length-i) z,(i:Int))) x0.length (fun i hi=>by
  rw[hb];simp only[dl (show((i:Int))<(x0.length:Int)from by omega),zH];rw[tJ hi,yT];simp only[bs,hf _ (Kv hi)];rw[J5 (by simp;omega),bs,zD (by omega) (by omega),bs];simp only[Jj,zK3 hi,cs]) (by
  rw[hb];simp only[dj (show¬((x0.length:Int))<(x0.length:Int)from by omega),zG,Ku,Jt,Gt,J9])
 simpa using this
theorem zM4{α:Type}[BEq α]{t:α→α→Option Bool}{body:Int→Option (Int⊕(Unit⊕Bool))}{x y:List α}
  (hb:∀i,body i=cond (decide (i<(x.length:Int))) ((ixO x i).bind fun v1=>(ixO y i).bind fun v2=>(t v1 v2).bind fun r3=>cond (!r3) (df (.inr (.inr di))) ((rng (i+1)).bind fun v4=>df (.inl v4))) (df (.inr (.inl ()))))
  (hl:x.length≤68719476736)(mr:x.length=y.length)(ht:∀u∈x,∀v∈y,t u v=df (u==v)):zC body 0=df (if x==y then .inl ()else .inr di):=by
 have h:=zIS (body:=body) x.length (fun i=>match x[i]?,y[i]? with|some u,df v=>u==v|_,_=>dh) (fun i hi _=>by
  have eM:i<y.length:=by omega
  rw[hb];simp only[dl (show((i:Int))<(x.length:Int)from by omega),zH];rw[tJ hi,tJ eM];simp only[bs,ht _ (Kv hi) _ (Kv eM),J5 hi,J5 eM];cases x[i]==y[i]
  ·rfl
  ·simp only[Ju,zG,if_true]
   rw[zD (by omega) (by omega),cs];rfl) (fun _=>by
  rw[hb];simp only[dj (show¬((x.length:Int))<(x.length:Int)from by omega),zG])
 rw[h]
 congr 2
 have key:∀(x y:List α),x.length=y.length→((Jz x.length).all (fun i=>match x[i]?,y[i]? with|some u,df v=>u==v|_,_=>dh))=(x==y):=by
  intro x
  induction x with
  |nil=>intro y hy;cases y with|nil=>rfl|cons _ _=>simp at hy
  |cons u x ih=>
   intro y hy;cases y with
   |nil=>simp at hy
   |cons v y=>
    rw[Jn,G4,Gp,List.all_map];simp only[Hy,Function.comp_def,Um];rw[ih y (by simpa using hy)];rfl
 rw[key x y mr]
theorem zIq{α:Type}[BEq α]{t:α→α→Option Bool}{f:Option Bool}{body:Int→Option (Int⊕(Unit⊕Bool))}{x y:List α}
  (hf:f=cond ((x.length:Int) != (y.length:Int)) (df di) ((zC body 0).bind fun r=>match r with|.inl _=>df dh|.inr r=>df r))
  (hb:∀i,body i=cond (decide (i<(x.length:Int))) ((ixO x i).bind fun v1=>(ixO y i).bind fun v2=>(t v1 v2).bind fun r3=>cond (!r3) (df (.inr (.inr di))) ((rng (i+1)).bind fun v4=>df (.inl v4))) (df (.inr (.inl ()))))
  (hl:x.length≤68719476736)(ht:∀u∈x,∀v∈y,t u v=df (u==v)):f=df (x==y):=by
 rw[hf]
 by_cases mr:x.length=y.length
 ·rw[zM4 hb hl mr ht]
  have:((x.length:Int) != (y.length:Int))=di:=by simp[mr]
  rw[this];cases x==y<;>rfl
 ·have:((x.length:Int) != (y.length:Int))=dh:=by simp;omega
  rw[this];have h2:(x==y)=di:=by
   have key:∀(x y:List α),x.length≠y.length→(x==y)=di:=by
    intro x
    induction x with
    |nil=>intro y hy;cases y with|nil=>simp at hy|cons _ _=>rfl
    |cons u x ih=>
     intro y hy;cases y with
     |nil=>rfl
     |cons v y=>
      show(u==v&&x==y)=di;rw[ih y (by simpa using hy),Bool.and_false]
   exact key x y mr
  rw[h2];rfl
end Go.Pl

namespace Go.Pl
open Go Go.Ab
def sm{α:Type}(c:α→Nat):List α→Nat
 | []=>0
 |x::xs=>c x+sm c xs
theorem zAn{α:Type}(c:α→Nat):∀xs ys:List α,sm c (xs++ys)=sm c xs+sm c ys
 | [],ys=>by simp[sm]
 |x::xs,ys=>by simp only[Ka,sm,zAn c xs ys];omega
theorem zC1{α:Type}(c:α→Nat){xs:List α}{i:Nat}(h:i<xs.length):sm c (xs.take (i+1))=sm c (xs.take i)+c xs[i]:=by grind[Kh,zAn,sm]
theorem qY{α:Type}(c:α→Nat)(xs:List α)(i:Nat):sm c (xs.take i)≤sm c xs:=by grind[zAn,H9]
theorem zK4{α:Type}(c:α→Nat){xs:List α}{x:α}(h:x∈xs):c x≤sm c xs:=by
 obtain⟨i,hi,rfl⟩:=Q2.1 h;have:=zC1 c hi
 grind[qY]
def szR(c:Nat)(b:Int):Int:=if(c:Int)≤b then b-c else -1
theorem zNE{α:Type}{c:α→Nat}{t:α→Int→Option Int}{f:Option Int}{body:Int×Int→Option ((Int×Int)⊕(Int⊕Int))}{xs:List α}{b:Int}
  (hf:f=(rng (b-(xs.length:Int))).bind fun v1=>cond (decide (v1<0)) (df (-1)) ((zC body (v1,0)).bind fun r=>match r with|.inl r=>df r|.inr r=>df r))
  (hb:∀s,body s=cond (decide (s.2<(xs.length:Int))) ((ixO xs s.2).bind fun v2=>(t v2 s.1).bind fun r3=>cond (decide (r3<0)) (df (.inr (.inr (-1)))) ((rng (s.2+1)).bind fun v4=>df (.inl (r3,v4)))) (df (.inr (.inl s.1))))
  (hl:xs.length≤9223372036854775807)(b0:0≤b)(b1:b≤1048576)(ht:∀x∈xs,∀b',0≤b'→b'≤1048576→t x b'=df (szR (c x) b')):f=df (szR (xs.length+sm c xs) b):=by
 rw[hf,zD (by omega) (by omega),bs]
 by_cases h0:b-(xs.length:Int)<0
 ·rw[dl h0,zH,szR,if_neg (by omega)]
 ·rw[dj h0,zG]
  obtain⟨r,h1,h2⟩:=vG (body:=body) (Q:=fun r=>(match r with|.inl r=>df r|.inr r=>df r)=df (szR (xs.length+sm c xs) b)) (fun i s=>s.2=(i:Int)∧0≤s.1∧s.1=b-xs.length-sm c (xs.take i)) xs.length (fun i s hi ⟨e1,e2,e3⟩=>by
   rw[hb,e1,dl (by omega),zH,tJ hi,bs,ht _ (Kv hi) _ e2 (by omega),bs];have h3:=zC1 c hi;have h4:=qY c xs (i+1);unfold szR
   by_cases h5:(c xs[i]:Int)≤s.1
   ·rw[if_pos h5,dj (by omega),zG,zD (by omega) (by omega),bs,cs]
    grind
   grind) (fun s ⟨e1,e2,e3⟩=>by
   rw[hb,e1,dj (by omega),zG];rw[Ku]at e3;refine⟨_,rfl,?_⟩;simp only
   rw[szR,if_pos (by omega),e3]
   grind) (s:=(b-(xs.length:Int),0)) ⟨rfl,by omega,by simp[sm]⟩
  grind
def mkL{α:Type}(m:Int→α→α)(c:α→Nat):Int→List α→List α
 |_,[]=>[]
 |k,x::xs=>m k x::mkL m c (k+c x) xs
theorem zAQ{α:Type}(m:Int→α→α)(c:α→Nat):∀(xs ys:List α)(k:Int),mkL m c k (xs++ys)=mkL m c k xs++mkL m c (k+sm c xs) ys
 | [],ys,k=>by simp[mkL,sm]
 |x::xs,ys,k=>by
  simp only[Ka,mkL,sm,zAQ m c xs ys]
  grind
theorem wT{α:Type}(m:Int→α→α)(c:α→Nat):∀(xs:List α)(k:Int),(mkL m c k xs).length=xs.length
 | [],_=>rfl
 |x::xs,k=>by simp[mkL,wT m c xs]
theorem zIr{α:Type}(m:Int→α→α)(c:α→Nat){xs:List α}{i:Nat}(h:i<xs.length)(k:Int):(mkL m c k xs)[i]'(by grind[wT])=m (k+sm c (xs.take i)) xs[i]:=by
 have h1:xs=xs.take i++xs[i]::xs.drop (i+1):=by simp
 have h2:=zAQ m c (xs.take i) (xs[i]::xs.drop (i+1)) k;rw[←h1]at h2;rw[List.getElem_of_eq h2]
 grind[wT,mkL]
theorem zBL{α:Type}{m:Int→α→α}{c:α→Nat}{t:α→Int→Option (Int×α)}{body:List α×Int×Int→Option ((List α×Int×Int)⊕(List α×Int))}{xs:List α}{k:Int}
  (hb:∀s,body s=cond (decide (s.2.2<(s.1.length:Int))) ((ixO s.1 s.2.2).bind fun v1=>(t v1 s.2.1).bind fun r2=>(rng (s.2.2+1)).bind fun v3=>df (.inl (s.1.set s.2.2.toNat r2.2,r2.1,v3))) (df (.inr (s.1,s.2.1))))
  (hl:xs.length≤1048576)(k0:0≤k)(k1:k+sm c xs≤9223372036854775807)(ht:∀x∈xs,∀k':Int,0≤k'→k'+c x≤9223372036854775807→t x k'=df (k'+c x,m k' x)):zC body (xs,k,0)=df (mkL m c k xs,k+sm c xs):=by
 have:=zX (body:=body) (r:=(mkL m c k xs,k+sm c xs)) (fun i=>(mkL m c k (xs.take i)++xs.drop i,k+sm c (xs.take i),(i:Int))) xs.length (fun i hi=>by
  have h1:=zC1 c hi;have h2:=qY c xs (i+1);have gn:(mkL m c k (xs.take i)).length=i:=by grind[wT]
  have hg:(mkL m c k (xs.take i)++xs.drop i)[i]? =df xs[i]:=by grind
  rw[hb];simp only
  rw[dl (by grind),zH,yT,hg,bs,ht _ (Kv hi) _ (by omega) (by omega),bs,zD (by omega) (by omega),bs,cs];simp only[Jj];rw[Kg _ _ (by omega),gn,Jt,Jw hi,K6,Kh hi,zAQ,zAn,Jb];simp only[mkL,sm,Ks,Hp]
  grind) (by
  rw[hb];simp only
  rw[dj (by grind[wT]),zG];simp)
 grind[mkL,sm]
theorem zEy{α:Type}{m:Int→α→α}{c:α→Nat}{t:α→Int→Option Int}{f:Option Int}{xs:List α}{k:Int}{body:Int×Int→Option ((Int×Int)⊕(Int⊕Int))}
  (hf:f=(zC body (k,0)).bind fun r=>match r with|.inl r=>df r|.inr r=>df r)
  (hb:∀s,body s=cond (decide (s.2<((mkL m c k xs).length:Int))) ((ixO (mkL m c k xs) s.2).bind fun v1=>(t v1 s.1).bind fun r2=>cond (decide (r2<0)) (df (.inr (.inr (-1)))) ((rng (s.2+1)).bind fun v3=>df (.inl (r2,v3)))) (df (.inr (.inl s.1))))
  (hl:xs.length≤1048576)(k0:0≤k)(k1:k+sm c xs≤9223372036854775807)(ht:∀x∈xs,∀k':Int,0≤k'→k'+c x≤9223372036854775807→t (m k' x) k'=df (k'+c x)):f=df (k+sm c xs):=by
 have:=zX (body:=body) (r:=.inl (k+sm c xs)) (fun i=>(k+sm c (xs.take i),(i:Int))) xs.length (fun i hi=>by
  have h1:=zC1 c hi;have h2:=qY c xs (i+1);rw[hb];simp only
  rw[wT,dl (by omega),zH,tJ (by grind[wT]),bs,zIr m c hi,ht _ (Kv hi) _ (by omega) (by omega),bs,dj (by omega),zG,zD (by omega) (by omega),bs,cs,h1]
  grind) (by
  rw[hb];simp only
  rw[wT,dj (by omega),zG,Ku])
 rw[hf];simp only[Lp,sm]at this
 grind
end Go.Pl

namespace Go.Pl
open Go Go.Ab Go.Wk
abbrev VI(n:Int):Prop:=(Lit.int .i64 n).wf=dh
abbrev VL{α:Type}(V:α→Prop)(xs:List α):Prop:=xs.length≤maxLen∧ ∀x∈xs,V x
abbrev c1(x:List Int):Nat:=x.length
abbrev c2(x:List (List Int)):Nat:=x.length+sm c1 x
abbrev c3(x:List (List (List Int))):Nat:=x.length+sm c2 x
theorem zGf{x:List Int}{b:Int}(hl:x.length≤9223372036854775807)(b0:0≤b)(b1:b≤1048576):zKX x b=df (szR (c1 x) b):=by
 unfold zKX szR;rw[zD (by omega) (by omega),bs]
 grind
theorem zEz{x:List (List Int)}{b:Int}(h:VL (VL VI) x)(b0:0≤b)(b1:b≤1048576):zMO x b=df (szR (c2 x) b):=
 zNE (c:=c1) rfl (fun _=>rfl) h.1 b0 b1 fun y hy _ h1 h2=>zGf (h.2 y hy).1 h1 h2
theorem zHc{x:List (List (List Int))}{b:Int}(h:VL (VL (VL VI)) x)(b0:0≤b)(b1:b≤1048576):zOM x b=df (szR (c3 x) b):=
 zNE (c:=c2) rfl (fun _=>rfl) h.1 b0 b1 (by grind[zEz])
abbrev S1(x:List Int):Prop:=c1 x≤1048576
abbrev S2(x:List (List Int)):Prop:=c2 x≤1048576
abbrev S3(x:List (List (List Int))):Prop:=c3 x≤1048576
theorem S2.mem{x:List (List Int)}(h:S2 x){y:List Int}(hy:y∈x):S1 y:=by
 have:=zK4 c1 hy
 grind
theorem S3.mem{x:List (List (List Int))}(h:S3 x){y:List (List Int)}(hy:y∈x):S2 y:=by
 have:=zK4 c2 hy
 grind
theorem S1.len{x:List Int}(h:S1 x):x.length≤1048576:=h
theorem S2.len{x:List (List Int)}(h:S2 x):x.length≤1048576:=by grind
theorem S3.len{x:List (List (List Int))}(h:S3 x):x.length≤1048576:=by grind
theorem zGg{x:List Int}(h:S1 x):f_L x=df x:=by unfold f_L;rw[yI (Ke h (by decide)),bs,zFg (body:=zON x) (f:=df) (fun _=>rfl) (by grind) (fun _ _=>rfl),bs]
theorem zE0{x:List (List Int)}(h:S2 x):f_M x=df x:=by unfold f_M;rw[yI (by grind),bs,zFg (body:=zOO x) (f:=f_L) (fun _=>rfl) (by grind) (fun _ hx=>zGg (h.mem hx)),bs]
theorem zHd{x:List (List (List Int))}(h:S3 x):zMQ x=df x:=by unfold zMQ;rw[yI (by grind),bs,zFg (body:=zKY x) (f:=f_M) (fun _=>rfl) (by grind) (fun _ hx=>zE0 (h.mem hx)),bs]
theorem zGh{x y:List Int}(h:S1 x):f_U x y=df (x==y):=
 zIq (t:=fun u v=>df (u==v)) (body:=zOZ x y) rfl (fun _=>rfl) (by grind) fun _ _ _ _=>rfl
theorem zE1{x y:List (List Int)}(h:S2 x):f_V x y=df (x==y):=
 zIq (t:=f_U) (body:=zPa x y) rfl (fun _=>rfl) (by grind) fun _ hu _ _=>zGh (h.mem hu)
theorem zHe{x y:List (List (List Int))}(h:S3 x):zPb x y=df (x==y):=
 zIq (t:=f_V) (body:=zL4 x y) rfl (fun _=>rfl) (by grind) fun _ hu _ _=>zE1 (h.mem hu)
def m1(k:Int)(x:List Int):List Int:=mkL (fun k _=>k) (fun _=>1) k x
def m2(k:Int)(x:List (List Int)):List (List Int):=mkL m1 c1 k x
def m3(k:Int)(x:List (List (List Int))):List (List (List Int)):=mkL m2 (sm c1) k x
theorem zHf{α:Type}:∀xs:List α,sm (fun _=>1) xs=xs.length
 | []=>rfl
 |x::xs=>by simp[sm,zHf xs];omega
theorem zDx{x:List Int}{k:Int}(h:S1 x)(k0:0≤k)(k1:k+c1 x≤9223372036854775807):f_H x k=df (k+c1 x,m1 k x):=by have h1:=zHf x;have:=zBL (m:=fun k _=>k) (c:=fun _=>1) (t:=fun v k=>(rng (k+1)).bind fun v2=>df (v2,k)) (body:=zMY) (xs:=x) (k:=k) (by grind[zMY]) h.len k0 (by grind) (by grind[zD]);unfold f_H;rw[this,bs,h1];rfl
theorem zCj{x:List (List Int)}{k:Int}(h:S2 x)(k0:0≤k)(k1:k+sm c1 x≤9223372036854775807):f_N x k=df (k+sm c1 x,m2 k x):=by unfold f_N;rw[zBL (body:=zPc) (m:=m1) (c:=c1) (t:=f_H) (fun _=>rfl) h.len k0 k1 fun y hy _ h1 h2=>zDx (h.mem hy) h1 h2,bs];rfl
theorem zFh{x:List (List (List Int))}{k:Int}(h:S3 x)(k0:0≤k)(k1:k+sm (sm c1) x≤9223372036854775807):zMZ x k=df (k+sm (sm c1) x,m3 k x):=by unfold zMZ;rw[zBL (body:=zL5) (m:=m2) (c:=sm c1) (t:=f_N) (fun _=>rfl) h.len k0 k1 fun y hy _ h1 h2=>zCj (h.mem hy) h1 h2,bs];rfl
theorem zDy{x:List Int}{k:Int}(h:S1 x)(k0:0≤k)(k1:k+c1 x≤9223372036854775807):f_C (m1 k x) k=df (k+c1 x):=by
 have hl:=h.len;have hml:(m1 k x).length=x.length:=wT _ _ _ _;have:=zX (body:=zL7 (m1 k x)) (r:=.inl (k+c1 x)) (fun i=>(k+(i:Int),(i:Int))) x.length (fun i hi=>by
  have hg:(m1 k x)[i]'(by omega)=k+sm (fun _=>1) (x.take i):=zIr _ _ hi _;unfold zL7;rw[dl (by omega),zH,tJ (by rw[hml];exact hi),bs,hg,zHf,Lj,Qd (by omega),show(k+(i:Int) != k+(i:Int))=di from by simp,zG,zD (by omega) (by grind),bs,zD (by omega) (by omega),bs,cs]
  grind) (by
  unfold zL7
  grind)
 unfold f_C
 grind
theorem zCk{x:List (List Int)}{k:Int}(h:S2 x)(k0:0≤k)(k1:k+sm c1 x≤9223372036854775807):f_W (m2 k x) k=df (k+sm c1 x):=
 zEy (body:=zPd (m2 k x)) (m:=m1) (c:=c1) (t:=f_C) rfl (fun _=>rfl) h.len k0 k1 fun _ hy _ h1 h2=>zDy (h.mem hy) h1 h2
theorem zFi{x:List (List (List Int))}{k:Int}(h:S3 x)(k0:0≤k)(k1:k+sm (sm c1) x≤9223372036854775807):zPe (m3 k x) k=df (k+sm (sm c1) x):=
 zEy (body:=zL8 (m3 k x)) (m:=m2) (c:=sm c1) (t:=f_W) rfl (fun _=>rfl) h.len k0 k1 fun _ hy _ h1 h2=>zCk (h.mem hy) h1 h2
def zIs(x:SPr):Prop:=VL VI x.zA∧VL (VL VI) x.zV∧VL (VL (VL VI)) x.zB
def zGi(x:SPr):Nat:=c1 x.zA+c2 x.zV+c3 x.zB
def uG(x:SPr):Prop:=S1 x.zA∧S2 x.zV∧S3 x.zB
theorem zGj{a b:Nat}{n:Int}:(szR a n<0∧szR (a+b) n= -1)∨(0≤szR a n∧szR a n≤n∧szR b (szR a n)=szR (a+b) n∧(a:Int)≤n)∨n<0:=by unfold szR;omega
theorem zDz{x:SPr}{b:Int}(h:zIs x)(b0:0≤b)(b1:b≤1048576):zMP x b=df (szR (zGi x) b):=by
 obtain⟨h1,h2,h3⟩:=h;unfold zMP zGi;rw[zGf h1.1 b0 b1,bs];rcases zGj (a:=c1 x.zA) (b:=c2 x.zV+c3 x.zB) (n:=b)with⟨g1,g2⟩|⟨g1,g2,g3,g4⟩|g1
 ·grind
 ·rw[dj (by omega),zG,zEz h2 g1 (by omega),bs,L7,←g3]
  generalize szR (c1 x.zA) b=b' at g1 g2
  rcases zGj (a:=c2 x.zV) (b:=c3 x.zB) (n:=b')with⟨k1,k2⟩|⟨k1,k2,k3,k4⟩|k1
  ·grind
  ·rw[dj (by omega),zG,zHc h3 k1 (by omega),bs,←k3]
   generalize szR (c2 x.zV) b'=b'' at k1 k2
   unfold szR
   grind
  ·omega
 ·omega
theorem zM5{c:Nat}{b:Int}(_:0≤b)(b1:b≤1048576):(decide (szR c b<0)=dh)∨(decide (szR c b<0)=di∧0≤szR c b∧szR c b≤1048576∧c≤1048576):=by
 unfold szR
 grind
theorem uG.of{x:SPr}(h:zGi x≤1048576):uG x:=by unfold zGi at h;exact⟨by omega,by omega,by omega⟩
theorem zD0{x:SPr}(h:uG x):zHy x=df x:=by unfold zHy;rw[zGg h.1,bs,zE0 h.2.1,bs,zHd h.2.2,bs]
theorem tU{x:SPr}(h:uG x):zH5 x x=df dh:=by unfold zH5;rw[zGh h.1,bs,zE1 h.2.1,bs,zHe h.2.2,bs];simp
theorem zK5{x:List (List Int)}:sm c1 x≤c2 x:=by simp
theorem zIt{α:Type}{f g:α→Nat}(h:∀x,f x≤g x):∀xs:List α,sm f xs≤sm g xs
 | []=>Jg _
 |x::xs=>by have:=zIt h xs;grind[sm]
theorem zO4{x:List (List (List Int))}:sm (sm c1) x≤c3 x:=by
 have:=zIt (f:=sm c1) (g:=c2) (fun _=>zK5) x
 grind
end Go.Pl

namespace Go.Pl
open Go Go.Ab Go.Wk
def IsB(o:Option Bool)(P:Prop):Prop:=(o=df dh∧P)∨(o=df di∧ ¬P)
theorem IsB.iff{o:Option Bool}{P Q:Prop}(h:IsB o P)(aj:P↔Q):IsB o Q:=by grind
theorem IsB.of_bool{b:Bool}{P:Prop}(h:b=dh↔P):IsB (df b) P:=by
 cases b
 ·exact .inr (by grind)
 ·exact .inl ⟨rfl,h.1 rfl⟩
theorem chk{ρ:Type}{body:Int→Option (Int⊕(Unit⊕ρ))}(n i0:Nat)(hn:i0≤n)(P:Nat→Prop)(bad:Nat→ρ)
  (h:∀i,i0≤i→i<n→(∀j,i0≤j→j<i→P j)→(body (i:Int)=df (.inl ((i+1:Nat):Int))∧P i)∨(body (i:Int)=df (.inr (.inr (bad i)))∧ ¬P i))
  (he:body (n:Int)=df (.inr (.inl ()))):
  (zC body (i0:Int)=df (.inl ())∧ ∀j,i0≤j→j<n→P j)∨ ∃i,i0≤i∧i<n∧zC body (i0:Int)=df (.inr (bad i))∧ ¬P i:=by
 have key:∀k i,i0≤i→i+k=n→(∀j,i0≤j→j<i→P j)→(zC body (i:Int)=df (.inl ())∧ ∀j,i0≤j→j<n→P j)∨ ∃q,i0≤q∧q<n∧zC body (i:Int)=df (.inr (bad q))∧ ¬P q:=by
  intro k
  induction k with
  |zero=>
   intro i hi hk hp;obtain rfl:i=n:=by omega
   grind[zM]
  |succ k ih=>
   intro i hi hk hp;rcases h i hi (by omega) hp with⟨h1,h2⟩|⟨h1,h2⟩
   ·have:=ih (i+1) (by omega) (by omega) (by grind)
    rw[zM,h1];exact this
   grind[zM]
 exact key (n-i0) i0 (Jg _) (by omega) fun j a b=>by omega
theorem zD1{f:Option Bool}{body:Int→Option (Int⊕(Unit⊕Bool))}(n:Nat)(P:Nat→Prop)
  (hf:f=(zC body 0).bind fun r=>match r with|.inl _=>df dh|.inr r=>df r)
  (h:∀i,i<n→(∀j,j<i→P j)→(body (i:Int)=df (.inl ((i+1:Nat):Int))∧P i)∨(body (i:Int)=df (.inr (.inr di))∧ ¬P i))
  (he:body (n:Int)=df (.inr (.inl ()))):IsB f (∀i,i<n→P i):=by
 rcases chk n 0 (Kq _) P (fun _=>di) (fun i _ hi hp=>h i hi fun j hj=>hp j (Kq _) hj) he with⟨h1,h2⟩|⟨i,_,hi,h1,h2⟩
 ·refine .inl ⟨?_,fun i hi=>h2 i (Kq _) hi⟩
  rw[hf];rw[show((0:Nat):Int)=0 from rfl]at h1;rw[h1,bs]
 ·refine .inr ⟨?_,fun hp=>h2 (hp i hi)⟩
  rw[hf];rw[show((0:Nat):Int)=0 from rfl]at h1;rw[h1,bs]
theorem zAo{o:Option Bool}{P:Prop}{ρ:Type}{bad:ρ}{i:Nat}{g:Option (Int⊕(Unit⊕ρ))}(h:IsB o P)(hi:i<9223372036854775807)
  (hg:g=o.bind fun r=>cond (!r) (df (.inr (.inr bad))) ((rng ((i:Int)+1)).bind fun v=>df (.inl v))):(g=df (.inl ((i+1:Nat):Int))∧P)∨(g=df (.inr (.inr bad))∧ ¬P):=by
 subst hg;rcases h with⟨h1,h2⟩|⟨h1,h2⟩
 ·refine .inl ⟨?_,h2⟩
  rw[h1,bs,Ju,zG,zD (by omega) (by omega),bs,cs]
 grind
theorem xR{i n:Nat}(h:i<n):decide ((i:Int)<(n:Int))=dh:=by grind
theorem tK{n:Nat}:decide ((n:Int)<(n:Int))=di:=by simp
theorem zCl(x a b:Int):IsB (zMV x a b) (a≤x∧x≤b):=by
 unfold zMV
 by_cases h:x≥a
 ·rw[dl h,zH];grind[IsB.of_bool]
 ·rw[dj h,zG];exact .inr ⟨rfl,by omega⟩
theorem zGk(x a b:Int):IsB (zOQ x a b) (a≤x∧x≤b):=zCl x a b
def uH(p:Int):Prop:=p=2∨p=3∨p=5∨p=7
theorem zD2(x:Int):IsB (zMU x) (uH x):=by
 unfold zMU uH
 by_cases h2:x=2
 ·subst h2;exact .inl ⟨rfl,.inl rfl⟩
 ·rw[show(x==2)=di from by grind,zG]
  by_cases h3:x=3
  ·subst h3;exact .inl (by simp)
  ·rw[show(x==3)=di from by grind,zG]
   by_cases h5:x=5
   ·subst h5;exact .inl (by simp)
   ·rw[show(x==5)=di from by grind,zG]
    grind[IsB.of_bool]
theorem zHg(x:Int):IsB (zOP x) (uH x):=zD2 x
abbrev at0(v:List Int)(i:Nat):Int:=v.getD i 0
theorem yR{v:List Int}{i:Nat}(h:i<v.length):ixO v (i:Int)=df (at0 v i):=by rw[tJ h,at0,J4,J5 h];rfl
def zQy(os v:List Int):Prop:=v.length=os.length∧ ∀i,i<v.length→0≤at0 v i∧at0 v i≤at0 os i-1
def Exp(os v:List Int)(k:Nat):Prop:=zQy os v∧ ∀i,i≤k→at0 v i=0
def Os(os:List Int):Prop:=os.length≤14∧ ∀i,i<os.length→uH (at0 os i)
theorem uH.pos{p:Int}(h:uH p):2≤p∧p≤7:=by unfold uH at h;omega
theorem zBM{x:SPr}{v:List Int}(ho:Os x.zA):IsB (f_X x v) (zQy x.zA v):=by
 unfold f_X
 by_cases h:v.length=x.zA.length
 ·rw[show((v.length:Int) != (x.zA.length:Int))=di from by simp[h],zG]
  have h6:=ho.1;refine(zD1 v.length (fun i=>0≤at0 v i∧at0 v i≤at0 x.zA i-1) rfl (fun i hi _=>?_) ?_).iff ⟨fun g=>⟨h,g⟩,fun g=>g.2⟩
  ·have hp:=(ho.2 i (by omega)).pos
   refine zAo (zCl _ _ _) (by omega) ?_;unfold zMW;rw[xR hi,zH,yR hi,bs,yR (by omega),bs,zD (by omega) (by omega),bs]
  ·unfold zMW
   simp
 ·rw[show((v.length:Int) != (x.zA.length:Int))=dh from by simp;omega,zH]
  exact .inr ⟨rfl,fun g=>h g.1⟩
theorem zGl{v:List Int}(hl:v.length≤14):IsB (zOT v) (∀i,i<v.length→at0 v i=0):=by
 refine zD1 v.length (fun i=>at0 v i=0) rfl (fun i hi _=>?_) ?_
 ·refine zAo (o:=df (at0 v i==0)) (IsB.of_bool (by simp)) (by omega) ?_
  unfold zI8;rw[xR hi,zH,yR hi,bs,bs];rfl
 ·unfold zI8
  simp
theorem jR{x:SPr}{k:Nat}{v:List Int}(ho:Os x.zA)(hk:k<x.zA.length):IsB (zLk x k v) (Exp x.zA v k):=by
 have h6:=ho.1;unfold zLk;rcases zBM (v:=v) ho with⟨h1,h2⟩|⟨h1,h2⟩
 ·have hl:=h2.1
  rw[h1,bs,zH,zD (by omega) (by omega),bs];have hs:zS v 0 ((k:Int)+1)=df (v.take (k+1)):=by
   unfold zS
   grind
  rw[hs,bs];have hb:=zGl (v:=v.take (k+1)) (by grind);have ei:(∀i,i<(v.take (k+1)).length→at0 (v.take (k+1)) i=0)↔Exp x.zA v k:=by
   have e:∀i,i≤k→at0 (v.take (k+1)) i=at0 v i:=by grind
   rw[Lj,Qd (by omega)];exact⟨fun g=>⟨h2,by grind⟩,fun g i hi=>by rw[e i (by omega)];exact g.2 i (by omega)⟩
  grind
 ·rw[h1,bs,zG]
  exact .inr ⟨rfl,fun g=>h2 g.1⟩
theorem kW{os v:List Int}{k:Nat}(ho:Os os)(hk:k<os.length):IsB (f_O os v k) (Exp os v k):=by
 have h6:=ho.1;unfold f_O
 by_cases h:v.length=os.length
 ·rw[show((v.length:Int) != (os.length:Int))=di from by simp[h],zG]
  refine(zD1 v.length (fun i=>(0≤at0 v i∧at0 v i≤at0 os i-1)∧(i≤k→at0 v i=0)) rfl (fun i hi _=>?_) ?_).iff ⟨fun g=>⟨⟨h,by grind⟩,by grind⟩,fun g i hi=>⟨g.1.2 i hi,fun hk=>g.2 i hk⟩⟩
  ·have hp:=(ho.2 i (by omega)).pos
   unfold zMR;rw[xR hi,zH,yR hi,bs,yR (by omega),bs,zD (by omega) (by omega),bs];rcases zGk (at0 v i) 0 (at0 os i-1)with⟨h1,h2⟩|⟨h1,h2⟩
   ·rw[h1,bs,Ju,zG]
    by_cases h3:(i:Int)≤(k:Int)
    ·rw[dl h3,zH,bs]
     by_cases h4:at0 v i=0
     ·rw[show(at0 v i != 0)=di from by grind,zG,zD (by omega) (by omega),bs,cs]
      grind
     grind
    ·rw[dj h3,zG,zD (by omega) (by omega),bs,cs]
     grind
   grind
  ·unfold zMR
   simp
 ·rw[show((v.length:Int) != (os.length:Int))=dh from by simp;omega,zH]
  exact .inr ⟨rfl,fun g=>h g.1.1⟩
end Go.Pl

namespace Go.Pl
open Go Go.Ab Go.Wk
theorem zRt{σ ρ:Type}{body:σ→Option (σ⊕(Unit⊕ρ))}(S:Nat→σ)(n i0:Nat)(hn:i0≤n)(P:Nat→Prop)(bad:Nat→ρ)
  (h:∀i,i0≤i→i<n→(∀j,i0≤j→j<i→P j)→(body (S i)=df (.inl (S (i+1)))∧P i)∨(body (S i)=df (.inr (.inr (bad i)))∧ ¬P i))
  (he:body (S n)=df (.inr (.inl ()))):
  (zC body (S i0)=df (.inl ())∧ ∀j,i0≤j→j<n→P j)∨ ∃i,i0≤i∧i<n∧zC body (S i0)=df (.inr (bad i))∧ ¬P i:=by
 have key:∀k i,i0≤i→i+k=n→(∀j,i0≤j→j<i→P j)→(zC body (S i)=df (.inl ())∧ ∀j,i0≤j→j<n→P j)∨ ∃q,i0≤q∧q<n∧zC body (S i)=df (.inr (bad q))∧ ¬P q:=by
  intro k
  induction k with
  |zero=>
   intro i hi hk hp;obtain rfl:i=n:=by omega
   grind[zM]
  |succ k ih=>
   intro i hi hk hp;rcases h i hi (by omega) hp with⟨h1,h2⟩|⟨h1,h2⟩
   ·have:=ih (i+1) (by omega) (by omega) (by grind)
    rw[zM,h1];exact this
   grind[zM]
 exact key (n-i0) i0 (Jg _) (by omega) fun j a b=>by omega
theorem zD3{a b:Int}(h:a=b):(a != b)=di:=by simp[h]
theorem zD4{a b:Int}(h:a≠b):(a != b)=dh:=by simp[h]
def pr(os:List Int):Nat→Int
 |0=>1
 |i+1=>pr os i*at0 os i
def cp(os:List Int):Nat→Int
 |0=>1
 |i+1=>if cp os i≤729 then cp os i*at0 os i else cp os i
theorem sT{os:List Int}:∀{i:Nat},(∀j,j<i→uH (at0 os j))→1≤pr os i
 |0,_=>by simp[pr]
 |i+1,h=>by have h1:=sT (os:=os) (i:=i) (by grind);have h2:=(h i (by omega)).pos;simp only[pr];have:(1:Int)*1≤pr os i*at0 os i:=L9 h1 (by omega) (by omega) (by omega);omega
theorem zIu{os:List Int}{i:Nat}(h:∀j,j≤i→uH (at0 os j)):pr os i≤pr os (i+1):=by have h1:=sT (os:=os) (i:=i) (by grind);have h2:=(h i (Jg _)).pos;simp only[pr];have:pr os i*1≤pr os i*at0 os i:=Km (by omega) (by omega);omega
theorem zFj{os:List Int}{n:Nat}(h:∀j,j<n→uH (at0 os j)):∀k,k≤n→pr os (n-k)≤pr os n
 |0,_=>Gx _
 |k+1,hk=>by
  have h1:=zFj h k (by omega);have h2:=zIu (os:=os) (i:=n-(k+1)) (by grind)
  grind
theorem zK6{os:List Int}:∀{i:Nat},(∀j,j<i→uH (at0 os j))→(cp os i=pr os i∧pr os i≤729∨729<cp os i∧cp os i≤5103∧729<pr os i)
 |0,_=>by simp[cp,pr]
 |i+1,h=>by
  have h0:∀j,j<i→uH (at0 os j):=by grind
  have h2:=(h i (by omega)).pos;have h3:=zIu (os:=os) (i:=i) (by grind);have ak:=sT h0;simp only[cp];rcases zK6 h0 with⟨h1,h4⟩|⟨h1,h4,h5⟩
  ·rw[h1,if_pos h4]
   have h6:pr os i*at0 os i≤729*7:=L9 h4 h2.2 (by omega) (by omega);simp only[pr]at h3 ⊢
   grind
  omega
def zCm(x:SPr)(i:Nat):Prop:=Exp x.zA (x.zV.getD i []) i∧(x.zB.getD i []).length+i+1=x.zA.length∧ ∀j,j<(x.zB.getD i []).length→Exp x.zA ((x.zB.getD i []).getD j []) i
structure zD5 (x:SPr):Prop where
 os:True∧ ∀i,i<x.zA.length→uH (at0 x.zA i)
 pl:x.zV.length=x.zA.length
 cl:x.zB.length=x.zA.length
 tl:∀i,i<x.zA.length→zCm x i
structure Pres (x:SPr):Prop where
 os:Os x.zA
 pl:x.zV.length=x.zA.length
 cl:x.zB.length=x.zA.length
 tl:∀i,i<x.zA.length→zCm x i
theorem Pres.w{x:SPr}(h:Pres x):zD5 x:=⟨⟨trivial,h.os.2⟩,h.pl,h.cl,h.tl⟩
structure zGm (x:SPr):Prop extends Pres x where
 n6:x.zA.length≤6
 pr:pr x.zA x.zA.length≤729
theorem wN{α:Type}{v:List α}{i:Nat}(d:α)(h:i<v.length):ixO v (i:Int)=df (v.getD i d):=by grind[tJ]
theorem zHh{x:SPr}(ho:Os x.zA)(hp:x.zV.length=x.zA.length)(hc:x.zB.length=x.zA.length){i:Nat}(hi:i<x.zA.length):
  (zH3 x i=df (.inl ((i+1:Nat):Int))∧zCm x i)∨(zH3 x i=df (.inr (.inr di))∧ ¬zCm x i):=by
 have h6:=ho.1;unfold zH3;rw[xR hi,zH,wN [] (by omega),bs];rcases jR (v:=x.zV.getD i []) ho hi with⟨h1,h2⟩|⟨h1,h2⟩
 ·rw[h1,bs,Ju,zG,wN [] (by omega),bs,zD (by omega) (by omega),bs,zD (by omega) (by omega),bs]
  by_cases hl:(x.zB.getD i []).length+i+1=x.zA.length
  ·rw[zD3 (by omega),zG,bs]
   rcases chk (body:=zLl x i (x.zB.getD i [])) (x.zB.getD i []).length 0 (Kq _) (fun j=>Exp x.zA ((x.zB.getD i []).getD j []) i) (fun _=>di) (fun j _ hj _=>by
     refine zAo (jR ho hi) (by omega) ?_;unfold zLl;rw[xR hj,zH,wN [] hj,bs]) (by
     unfold zLl;simp)with⟨g1,g2⟩|⟨j,_,hj,g1,g2⟩
   ·rw[show((0:Nat):Int)=0 from rfl]at g1
    rw[g1,bs];simp only
    rw[zD (by omega) (by omega),bs,cs];exact .inl ⟨rfl,h2,hl,by grind⟩
   ·rw[show((0:Nat):Int)=0 from rfl]at g1
    rw[g1,bs];exact .inr ⟨rfl,fun g=>g2 (g.2.2 j hj)⟩
  ·rw[zD4 (by omega),zH]
   exact .inr ⟨rfl,fun g=>hl g.2.1⟩
 ·rw[h1,bs,La,zH]
  exact .inr ⟨rfl,fun g=>h2 g.1⟩
theorem zHi{x:SPr}(ho:Os x.zA)(hp:x.zV.length=x.zA.length)(hc:x.zB.length=x.zA.length){i:Nat}(hi:i<x.zA.length):
  (zHz x i=df (.inl ((i+1:Nat):Int))∧zCm x i)∨(zHz x i=df (.inr (.inr di))∧ ¬zCm x i):=by
 have h6:=ho.1;unfold zHz;rw[xR hi,zH,wN [] (by omega),bs];rcases kW (v:=x.zV.getD i []) ho hi with⟨h1,h2⟩|⟨h1,h2⟩
 ·rw[h1,bs,Ju,zG,wN [] (by omega),bs,zD (by omega) (by omega),bs,zD (by omega) (by omega),bs]
  by_cases hl:(x.zB.getD i []).length+i+1=x.zA.length
  ·rw[zD3 (by omega),zG]
   rcases chk (body:=zLb x i) (x.zB.getD i []).length 0 (Kq _) (fun j=>Exp x.zA ((x.zB.getD i []).getD j []) i) (fun _=>di) (fun j _ hj _=>by
     refine zAo (kW ho hi) (by omega) ?_;unfold zLb;rw[wN [] (by omega),bs,xR hj,zH,bs,wN [] hj,bs]) (by
     unfold zLb;rw[wN [] (by omega),bs,tK,zG])with⟨g1,g2⟩|⟨j,_,hj,g1,g2⟩
   ·rw[show((0:Nat):Int)=0 from rfl]at g1
    rw[g1,bs];simp only
    rw[zD (by omega) (by omega),bs,cs];exact .inl ⟨rfl,h2,hl,by grind⟩
   ·rw[show((0:Nat):Int)=0 from rfl]at g1
    rw[g1,bs];exact .inr ⟨rfl,fun g=>g2 (g.2.2 j hj)⟩
  ·rw[zD4 (by omega),zH]
   exact .inr ⟨rfl,fun g=>hl g.2.1⟩
 ·rw[h1,bs,La,zH]
  exact .inr ⟨rfl,fun g=>h2 g.1⟩
theorem zGn{x:SPr}(h6:x.zA.length≤6):
  (zC (zH2 x) (1,0)=df (.inl ())∧Os x.zA∧pr x.zA x.zA.length≤729)∨(zC (zH2 x) (1,0)=df (.inr di)∧ ¬(Os x.zA∧pr x.zA x.zA.length≤729)):=by
 rcases zRt (body:=zH2 x) (fun i=>(pr x.zA i,(i:Int))) x.zA.length 0 (Kq _) (fun i=>uH (at0 x.zA i)∧pr x.zA (i+1)≤729) (fun _=>di) (fun i _ hi mM=>by
   have hp:∀j,j<i→uH (at0 x.zA j):=by grind
   have ak:=sT hp;have eC:pr x.zA i≤729:=by
    cases i with
    |zero=>simp[pr]
    |succ i=>grind
   unfold zH2;rw[xR hi,zH,yR hi,bs];rcases zD2 (at0 x.zA i)with⟨h1,h2⟩|⟨h1,h2⟩
   ·have h3:=h2.pos
    have h4:pr x.zA i*at0 x.zA i≤729*7:=L9 eC h3.2 (by omega) (by omega);have h5:1*1≤pr x.zA i*at0 x.zA i:=L9 ak (by omega) (by omega) (by omega);simp only
    rw[h1,bs,Ju,zG,zD (by omega) (by omega),bs]
    by_cases h7:pr x.zA i*at0 x.zA i> 729
    ·rw[dl h7,zH]
     exact .inr ⟨rfl,by grind[pr]⟩
    ·rw[dj h7,zG,bs,zD (by omega) (by omega),bs,cs]
     exact .inl ⟨rfl,h2,by grind[pr]⟩
   grind) (by
   unfold zH2;simp)with⟨g1,g2⟩|⟨i,_,hi,g1,g2⟩
 ·refine .inl ⟨g1,⟨by omega,by grind⟩,?_⟩
  cases hn:x.zA.length with
  |zero=>simp[pr]
  |succ n=>grind
 ·refine .inr ⟨g1,fun⟨h1,h2⟩=>g2 ⟨h1.2 i hi,?_⟩⟩
  have:=zFj (os:=x.zA) (n:=x.zA.length) h1.2 (x.zA.length-(i+1)) (by omega)
  grind
theorem zFk{os:List Int}(ho:Os os):f_P os=df (cp os os.length):=by
 have h6:=ho.1;unfold f_P;rw[show(1,0)=(fun i=>(cp os i,(i:Int))) 0 from rfl,zX (body:=zKZ os) (r:=cp os os.length) (fun i=>(cp os i,(i:Int))) os.length (fun i hi=>by
  have hp:=(ho.2 i hi).pos;have hc:=zK6 (os:=os) (i:=i) fun j hj=>ho.2 j (by omega)
  have ak:=sT (os:=os) (i:=i) fun j hj=>ho.2 j (by omega)
  unfold zKZ;rw[xR hi,zH];simp only[cp]
  by_cases h:cp os i≤729
  ·have h4:cp os i*at0 os i≤729*7:=L9 h hp.2 (by omega) (by omega)
   have h5:1*1≤cp os i*at0 os i:=L9 (by omega) (by omega) (by omega) (by omega);rw[dl h,zH,yR hi,bs,zD (by omega) (by omega),bs,zD (by omega) (by omega),bs,cs,if_pos h]
  ·rw[dj h,zG,zD (by omega) (by omega),bs,cs,if_neg h]) (by
  unfold zKZ;simp),bs]
theorem zAv{x:SPr}(hl:x.zA.length≤1048576):IsB (f_j x) (zGm x):=by
 unfold f_j
 by_cases h6:x.zA.length≤6
 ·rw[dj (by omega),zG]
  by_cases hp:x.zV.length=x.zA.length
  ·rw[zD3 (by omega),zG]
   by_cases hc:x.zB.length=x.zA.length
   ·rw[zD3 (by omega),zG]
    rcases zGn h6 with⟨h1,h2,h3⟩|⟨h1,h2⟩
    ·rw[h1,bs]
     exact(zD1 (f:=(zC (zH3 x) 0).bind fun r=>match r with|.inl _=>df dh|.inr r=>df r) x.zA.length (zCm x) rfl (by grind[zHh]) (by unfold zH3;simp)).iff ⟨fun g=>⟨⟨h2,hp,hc,g⟩,h6,h3⟩,fun g=>g.tl⟩
    ·rw[h1,bs]
     exact .inr ⟨rfl,fun g=>h2 ⟨g.os,g.pr⟩⟩
   ·rw[zD4 (by omega),zH]
    exact .inr ⟨rfl,fun g=>hc g.cl⟩
  ·rw[zD4 (by omega),zH]
   exact .inr ⟨rfl,fun g=>hp g.pl⟩
 ·rw[dl (by omega),zH]
  exact .inr ⟨rfl,fun g=>h6 g.n6⟩
theorem zAw{x:SPr}(hl:x.zA.length≤1048576):IsB (f_k x) (zGm x):=by
 unfold f_k
 by_cases h6:x.zA.length≤6
 ·rw[dj (by omega),zG]
  by_cases hp:x.zV.length=x.zA.length
  ·rw[zD3 (by omega),zG]
   by_cases hc:x.zB.length=x.zA.length
   ·rw[zD3 (by omega),zG]
    rcases chk (body:=zLa x) x.zA.length 0 (Kq _) (fun i=>uH (at0 x.zA i)) (fun _=>di) (fun i _ hi _=>by
      refine zAo (zHg _) (by omega) ?_;unfold zLa;rw[xR hi,zH,yR hi,bs]) (by
      unfold zLa;simp)with⟨g1,g2⟩|⟨i,_,hi,g1,g2⟩
    ·rw[show((0:Nat):Int)=0 from rfl]at g1
     have ho:Os x.zA:=⟨by omega,by grind⟩;have hcp:=zK6 (os:=x.zA) (i:=x.zA.length) ho.2;rw[g1,bs];simp only
     rw[zFk ho,bs]
     by_cases h7:cp x.zA x.zA.length> 729
     ·rw[dl h7,zH]
      exact .inr ⟨rfl,fun g=>by have:=g.pr;omega⟩
     ·rw[dj h7,zG]
      exact(zD1 (f:=(zC (zHz x) 0).bind fun r=>match r with|.inl _=>df dh|.inr r=>df r) x.zA.length (zCm x) rfl (by grind[zHi]) (by unfold zHz;simp)).iff ⟨fun g=>⟨⟨ho,hp,hc,g⟩,h6,by omega⟩,fun g=>g.tl⟩
    ·rw[show((0:Nat):Int)=0 from rfl]at g1
     rw[g1,bs];exact .inr ⟨rfl,fun g=>g2 (g.os.2 i hi)⟩
   ·rw[zD4 (by omega),zH]
    exact .inr ⟨rfl,fun g=>hc g.cl⟩
  ·rw[zD4 (by omega),zH]
   exact .inr ⟨rfl,fun g=>hp g.pl⟩
 ·rw[dl (by omega),zH]
  exact .inr ⟨rfl,fun g=>h6 g.n6⟩
end Go.Pl

namespace Go.Pl
open Go Go.Ab Go.Wk Go.Pc
def lvl(x:SPr)(i:Nat):Lvl:=⟨at0 x.zA i,(x.zV.getD i []).drop (i+1),(x.zB.getD i []).map (·.drop (i+1))⟩
def suf(x:SPr)(k:Nat):Pcp:=(Ht k (x.zA.length-k)).map (lvl x)
theorem yP(x:SPr)(k:Nat):(suf x k).length=x.zA.length-k:=by simp[suf]
theorem yG{x:SPr}{k:Nat}(h:k<x.zA.length):suf x k=lvl x k::suf x (k+1):=by unfold suf;rw[show x.zA.length-k=(x.zA.length-(k+1))+1 from by omega,Uz,Jc]
theorem tL{x:SPr}{k:Nat}(h:x.zA.length≤k):suf x k=[]:=by unfold suf;simp_all
theorem zAp{os v:List Int}{k:Nat}(h:Exp os v k)(hk:k<os.length):v=zeros (k+1)++v.drop (k+1):=by
 have h1:=h.1.1;apply L0;intro i;rw[Jv];simp only[zeros,Jk,Js,H7];split
 ·rename_i hi
  have h2:=h.2 i (by omega)
  grind
 grind
theorem zK7{x:SPr}:∀(d k:Nat)(v:List Int),k+d=x.zA.length→v.length=d→(∀i,i<d→0≤at0 v i∧at0 v i≤at0 x.zA (k+i)-1)→V (suf x k) v
 |0,k,v,hk,hv,_=>by rw[tL (by omega)];simpa[V]using hv
 |d+1,k,v,hk,hv,h=>by
  rw[yG (by omega)]
  match v,hv with
  |a::v,hv=>
   have h0:=h 0 (by omega);simp only[at0,List.getD_cons_zero,Hp]at h0;refine⟨⟨h0.1,by simp only[lvl,at0];omega⟩,zK7 d (k+1) v (by omega) (by grind) fun i hi=>?_⟩
   grind
theorem zGo{x:SPr}{v:List Int}{k:Nat}(h:Exp x.zA v k)(hk:k<x.zA.length):V (suf x (k+1)) (v.drop (k+1)):=by
 have h1:=h.1.1;refine zK7 (x.zA.length-(k+1)) (k+1) _ (by omega) (by grind) fun i hi=>?_
 have:=h.1.2 (k+1+i) (by omega)
 grind
theorem zD5.ok{x:SPr}(h:zD5 x):∀(d k:Nat),k+d=x.zA.length→Pc.Ok (suf x k)
 |0,k,hk=>by rw[tL (by omega)];simp only[Pc.Ok]
 |d+1,k,hk=>by
  rw[yG (by omega)];obtain⟨t1,t2,t3⟩:=h.tl k (by omega);refine⟨by simp only[lvl];have:=(h.os.2 k (by omega)).pos;omega,zGo t1 (by omega),?_,fun c hc=>?_,zD5.ok h d (k+1) (by omega)⟩
  ·grind[yP,lvl]
  ·simp only[lvl,J7]at hc
   obtain⟨u,hu,rfl⟩:=hc;obtain⟨j,hj,rfl⟩:=Q2.1 hu
   grind[zGo]
theorem zD5.okAt{x:SPr}(h:zD5 x){k:Nat}(hk:k≤x.zA.length):Pc.Ok (suf x k):=h.ok (x.zA.length-k) k (by omega)
theorem Pres.okAt{x:SPr}(h:Pres x){k:Nat}(hk:k≤x.zA.length):Pc.Ok (suf x k):=h.w.okAt hk
theorem zR(n:Nat):(zeros n).length=n:=by simp[zeros]
theorem zCn(k:Nat):zeros (k+1)=zeros k++[0]:=by simp[zeros,Ha]
theorem zCo{k:Nat}{a b:Int}{v:Vec}:(zeros k++a::v).set k b=zeros k++b::v:=by rw[Kg _ _ (by grind[zR]),zR,Jt,K6]
theorem zD6{k:Nat}{a:Int}{v:Vec}:ixO (zeros k++a::v) (k:Int)=df a:=by rw[yT,Jd (by grind[zR]),zR,Jt];rfl
theorem sU{k:Nat}{v:Vec}:zeros k++0::v=zeros (k+1)++v:=by rw[zCn,Jb];rfl
theorem vZ{v:List Int}(h:v.length≤1000000):f_A v=df v:=by grind[f_A,yX]
end Go.Pl

namespace Go.Pl
open Go Go.Ab Go.Wk Go.Pc
theorem kX{m:Vec→Vec→Vec}:∀(cs:List Vec)(x:Vec)(i:Nat)(acc:Vec),i<cs.length→i<x.length→
  img m (cs.take (i+1)) (x.take (i+1)) acc=iter (at0 x i).toNat (fun v=>m v (cs.getD i [])) (img m (cs.take i) (x.take i) acc)
 | [],_,_,_,h,_=>by simp at h
 |_::_,[],_,_,_,h=>by simp at h
 |c::cs,a::x,0,acc,_,_=>by rfl
 |c::cs,a::x,i+1,acc,h,h'=>by simp only[Kf,img,at0,List.getD_cons_succ];exact kX cs x i _ (by grind) (by grind)
theorem vB{α β:Type}{body:α×Int→Option ((α×Int)⊕α)}{S:β→Prop}(e:β→α)(g:β→β)(n:Int)(hn:0≤n)(hS:∀a,S a→S (g a))
  (h:∀a(i:Nat),S a→(i:Int)<n→body (e a,(i:Int))=df (.inl (e (g a),((i+1:Nat):Int))))(he:∀a,S a→body (e a,n)=df (.inr (e a))){a:β}(ha:S a):
  zC body (e a,0)=df (e (iter n.toNat g a)):=by
 have fm:∀k,S (iter k g a):=fun k=>vT (S:=S) hS k ha
 exact zX (body:=body) (r:=e (iter n.toNat g a)) (fun i=>(e (iter i g a),(i:Int))) n.toNat (by grind[wG]) (by grind)
theorem zIT{k i:Nat}{v:Vec}(h:i<v.length):ixO (zeros k++v) ((k+i:Nat):Int)=df (at0 v i):=by rw[yT,Jd (by grind[zR]),zR,show k+i-k=i from by omega,J5 h,at0,J4,J5 h];rfl
theorem zAx{x:SPr}(ho:Os x.zA):∀(d k:Nat)(v:List Int),k+d=x.zA.length→V (suf x k) v→v.length=d∧ ∀i,i<d→0≤at0 v i∧at0 v i<at0 x.zA (k+i)∧at0 v i≤6
 |0,k,v,hk,hv=>by
  rw[tL (by omega)]at hv;simp only[V]at hv
  grind
 |d+1,k,v,hk,hv=>by
  rw[yG (by omega)]at hv
  match v,hv with
  |a::v,hv=>
   obtain⟨h1,h2⟩:=zAx ho d (k+1) v (by omega) hv.2;refine⟨by simp[h1],fun i hi=>?_⟩;cases i with
   |zero=>
    have h3:=hv.1;simp only[lvl]at h3;have:=(ho.2 k (by omega)).pos
    grind
   |succ i=>
    grind
theorem zC2{x:SPr}(h:Pres x){k i:Nat}(hk:k<x.zA.length)(hi:i<x.zA.length-(k+1)):
  ∃c,ixO x.zB (k:Int)=df (x.zB.getD k [])∧ixO (x.zB.getD k []) (i:Int)=df (zeros (k+1)++c)∧V (suf x (k+1)) c∧(lvl x k).cs.getD i []=c:=by
 obtain⟨t1,t2,t3⟩:=h.tl k hk;have hc:=h.cl
 grind[wN,zGo,zAp,lvl]
def FAt(x:SPr)(k:Nat)(g:SPr→Int→List Int→List Int→Option (List Int)):Prop:=
 ∀a b,V (suf x k) a→V (suf x k) b→g x k (zeros k++a) (zeros k++b)=df (zeros k++mul (suf x k) a b)
def FIm(x:SPr)(k:Nat)(g:SPr→Int→List Int→Option (List Int)):Prop:=
 ∀v,V (suf x (k+1)) v→g x k (zeros (k+1)++v)=df (zeros (k+1)++sig (suf x (k+1)) (lvl x k) v)
theorem zHj{x:SPr}(h:Pres x){k:Nat}(hk:k<x.zA.length){g:SPr→Int→List Int→List Int→Option (List Int)}(hg:FAt x (k+1) g):FIm x k (b_e g):=by
 intro v hv;have h6:=h.os.1;have ok:=h.okAt (k:=k+1) (by omega);obtain⟨fh,bw⟩:=zAx h.os (x.zA.length-(k+1)) (k+1) v (by omega) hv;have gn:=yP x (k+1);have gN:(lvl x k).cs.length=x.zA.length-(k+1):=by have:=h.okAt (k:=k) (by omega);rw[yG hk]at this;rw[this.2.2.1,gn]
 have gQ:∀c∈(lvl x k).cs,V (suf x (k+1)) c:=by have:=h.okAt (k:=k) (by omega);rw[yG hk]at this;exact this.2.2.2.1
 have hA:∀i,V (suf x (k+1)) (img (mul (suf x (k+1))) ((lvl x k).cs.take i) (v.take i) (zeros (suf x (k+1)).length)):=fun i=>
  tI (xI ok) _ _ (by grind) (wE ok)
 unfold b_e;rw[yI (by omega),bs,zD (by omega) (by omega),bs,cs];have hz:J1 x.zA.length (0:Int)=zeros (k+1)++zeros (suf x (k+1)).length:=by rw[gn];simp only[zeros,Jq];congr 1;omega
 rw[hz];have:=zX (body:=zLd g x k (zeros (k+1)++v)) (r:=zeros (k+1)++sig (suf x (k+1)) (lvl x k) v)
  (fun i=>(zeros (k+1)++img (mul (suf x (k+1))) ((lvl x k).cs.take i) (v.take i) (zeros (suf x (k+1)).length),((k+1+i:Nat):Int))) (x.zA.length-(k+1)) (fun i hi=>by
  have hr:=bw i hi;obtain⟨c,c1,c2,c3,c4⟩:=zC2 h hk hi;unfold zLd;rw[dl (by omega),zH];rw[vB (S:=V (suf x (k+1))) (body:=zLc g x k (zeros (k+1)++v) (zeros (k+1)++img (mul (suf x (k+1))) ((lvl x k).cs.take i) (v.take i) (zeros (suf x (k+1)).length),((k+1+i:Nat):Int))) (fun u=>zeros (k+1)++u) (fun u=>mul (suf x (k+1)) u c) (at0 v i) hr.1 (by grind[xI]) (fun u q hu hq=>by
   unfold zLc;simp only
   rw[zIT (by omega),bs,dl hq,zH,zD (by omega) (by omega),bs,c1,bs,zD (by omega) (by omega),bs,zD (by omega) (by omega),bs,
    show(((k+1+i:Nat):Int)-(k:Int)-1)=(i:Int)from by omega,c2,bs,cs,hg u c hu c3,bs,zD (by omega) (by omega),bs,cs]) (fun u hu=>by
   unfold zLc;simp only
   rw[zIT (by omega),bs,dj (by omega),zG]) (hA i),bs,zD (by omega) (by omega),bs,cs]
  rw[kX _ _ _ _ (by omega) (by omega),c4];rfl) (by
  unfold zLd;rw[dj (by omega),zG,K2 (by omega),K2 (by omega)];rfl)
 grind[img]
theorem zM6{x:SPr}(h:Pres x){k:Nat}(hk:k<x.zA.length){g:SPr→Int→List Int→List Int→Option (List Int)}{gi:SPr→Int→List Int→Option (List Int)}(hg:FAt x (k+1) g)(hi:FIm x k gi):FAt x k (b_a gi g):=by
 intro a b ha hb;have h6:=h.os.1;have hp:=(h.os.2 k hk).pos;have ok:=h.okAt (k:=k+1) (by omega);have ok0:=h.okAt (k:=k) (by omega);obtain⟨hal,har⟩:=zAx h.os (x.zA.length-k) k a (by omega) ha;obtain⟨fM,hbr⟩:=zAx h.os (x.zA.length-k) k b (by omega) hb;rw[yG hk]at ha hb ok0;obtain⟨a0,a,rfl⟩:∃a0 a',a=a0::a':=by cases a with|nil=>grind|cons p q=>simp
 obtain⟨b0,b,rfl⟩:∃a0 a',b=a0::a':=by cases b with|nil=>grind|cons p q=>simp
 obtain⟨⟨a1,a2⟩,ha⟩:=ha;obtain⟨⟨b1,b2⟩,hb⟩:=hb;have ec:(lvl x k).o=at0 x.zA k:=rfl;rw[ec]at a2 b2;unfold b_a;rw[dj (by omega),zG,vZ (by grind[zR]),bs,vZ (by simp[zR]at fM ⊢;omega),bs,zD6,bs,zD6,bs,Jj,zCo,zCo,sU,sU];have mD:∀u,V (suf x (k+1)) u→V (suf x (k+1)) (sig (suf x (k+1)) (lvl x k) u):=by grind[zFd]
 have fm:V (suf x (k+1)) (iter b0.toNat (sig (suf x (k+1)) (lvl x k)) a):=vT mD _ ha;rw[vB (S:=V (suf x (k+1))) (fun u=>zeros (k+1)++u) (sig (suf x (k+1)) (lvl x k)) b0 b1 mD (fun u q hu hq=>by
   unfold zMS;simp only
   rw[zD6,bs,dl hq,zH,hi u hu,bs,zD (by omega) (by omega),bs,cs]) (fun u hu=>by
   unfold zMS;simp only
   rw[zD6,bs,dj (by omega),zG]) ha,bs,zD (by omega) (by omega),bs,cs,hg _ _ fm hb,bs,bs,bs,zD (by omega) (by omega),bs,yR hk,bs]
 have hm:=xI ok fm hb;have hml:=(zAx h.os (x.zA.length-(k+1)) (k+1) _ (by omega) hm).1;have own:∀u,V (suf x (k+1)) u→f_A (zeros (k+1)++u)=df (zeros (k+1)++u):=fun u hu=>vZ (by
  have:=(zAx h.os (x.zA.length-(k+1)) (k+1) _ (by omega) hu).1
  grind[zR])
 rw[yG hk,yC,ec]
 by_cases hge:a0+b0≥at0 x.zA k
 ·have t1:=(h.tl k hk).1
  have hw:=zGo t1 hk;have hwl:=h.pl;rw[dl hge,zH,if_pos hge,bs,zD (by omega) (by omega),bs,bs,wN [] (by omega),bs,zAp t1 hk,hg _ _ hw hm,bs,own _ (xI ok hw hm),bs];rw[←sU,zD6,bs,zCo];rfl
 ·rw[dj hge,zG,if_neg hge,own _ hm,bs,←sU,zD6,bs,zCo]
theorem zBN{x:SPr}(h:Pres x):∀(d k:Nat),k+d=x.zA.length→(∀m,2*d+1≤m→FAt x k (zH1 m))∧(1≤d→ ∀m,2*d≤m→FIm x k (zH0 m))
 |0,k,hk=>by
  refine⟨fun m hm a b ha hb=>?_,fun h=>by omega⟩;have h6:=h.os.1;obtain⟨m,rfl⟩:∃m',m=m'+1:=⟨m-1,by omega⟩;show b_a _ _ x k _ _=_;unfold b_a;rw[dl (by omega),zH,yI (by omega),bs,tL (by omega)]
  grind[mul,zeros]
 |d+1,k,hk=>by
  obtain⟨h1,h2⟩:=zBN h d (k+1) (by omega);have hI:∀m,2*(d+1)≤m→FIm x k (zH0 m):=fun m hm=>by obtain⟨m,rfl⟩:∃m',m=m'+1:=⟨m-1,by omega⟩;exact zHj h (by omega) (h1 m (by omega))
  refine⟨fun m hm=>?_,fun _=>hI⟩;obtain⟨m,rfl⟩:∃m',m=m'+1:=⟨m-1,by omega⟩;exact zM6 h (by omega) (h1 m (by omega)) (hI m (by omega))
theorem zBu{x:SPr}(h:Pres x){k:Nat}(hk:k≤x.zA.length):FAt x k f_a:=fun a b ha hb=>
 kT (2*(x.zA.length-k)+1) fun m hm=>(zBN h (x.zA.length-k) k (by omega)).1 m hm a b ha hb
theorem zHk{x:SPr}(h:Pres x){k:Nat}(hk:k<x.zA.length):FIm x k f_e:=fun v hv=>
 kT (2*(x.zA.length-k)) fun m hm=>(zBN h (x.zA.length-k) k (by omega)).2 (by omega) m hm v hv
end Go.Pl

namespace Go.Pl
open Go Go.Ab Go.Wk Go.Pc
theorem kY:∀{P Q:Pcp},Q<:+P→xD P→xD Q
 | [],Q,h,_=>by grind
 |l::P,Q,h,hc=>by
  rcases Gj.1 h with rfl|h
  ·exact hc
  ·exact kY h hc.1
theorem zE2:∀{P Q:Pcp},Q<:+P→Pc.Ok P→Pc.Ok Q
 | [],Q,h,_=>by grind
 |l::P,Q,h,hc=>by
  rcases Gj.1 h with rfl|h
  ·exact hc
  ·exact zE2 h hc.2.2.2.2
theorem zHl(x:SPr)(k:Nat):suf x (k+1)<:+suf x k:=by grind[yG,tL]
theorem kZ{x:SPr}{k:Nat}(h:xD (suf x k)):∀i,xD (suf x (k+i))
 |0=>h
 |i+1=>kY (zHl x (k+i)) (kZ h i)
theorem zAa{x:SPr}(h:Pres x){k:Nat}(hk:k≤x.zA.length)(hc:xD (suf x k)):Grp (V (suf x k)) (mul (suf x k)) (zeros (suf x k).length):=zGe _ (h.okAt hk) hc
theorem zC3{x:SPr}:∀(i k:Nat)(v:Vec),k+i≤x.zA.length→V (suf x k) v→ ∃q v',v=q++v'∧q.length=i∧V (suf x (k+i)) v'∧
  ∀a b,V (suf x (k+i)) a→V (suf x (k+i)) b→mul (suf x k) (q++a) (zeros i++b)=q++mul (suf x (k+i)) a b
 |0,k,v,_,hv=>⟨[],v,rfl,rfl,hv,fun a b _ _=>rfl⟩
 |i+1,k,v,hk,hv=>by
  rw[yG (by omega)]at hv
  match v,hv with
  |e::v,hv=>
   obtain⟨q,v',h1,h2,h3,h4⟩:=zC3 i (k+1) v (by omega) hv.2;rw[show k+1+i=k+(i+1)from by omega]at h3 h4;refine⟨e::q,v',by grind,by simp[h2],h3,fun a b ha hb=>?_⟩;have he:=hv.1;rw[yG (by omega)];show mul (lvl x k::suf x (k+1)) (e::(q++a)) (0::(zeros i++b))=_;rw[yC,H5,if_neg (by omega)]
   grind[iter]
def FTV(x:SPr)(k:Nat)(g:SPr→List Int→List Int→Option (List Int)):Prop:=
 ∀p v u,p.length=k→V (suf x k) v→V (suf x k) u→g x (p++v) (zeros k++u)=df (p++mul (suf x k) v u)
def FTG(x:SPr)(k:Nat)(g:SPr→List Int→Int→Option (List Int)):Prop:=
 ∀p v,p.length=k→V (suf x k) v→g x (p++v) (k:Int)=df (p++mul (suf x k) v (1::zeros (x.zA.length-(k+1))))
theorem zE3{x:SPr}(h:Pres x){k:Nat}(hk:k<x.zA.length){g:SPr→List Int→List Int→Option (List Int)}(hg:FTV x (k+1) g){t:Vec}(ht:V (suf x (k+1)) t)
  {body1:List Int×Int→Int→List Int×Int→Option ((List Int×Int)⊕List Int)}{body2:List Int×Int→Option ((List Int×Int)⊕List Int)}
  (pK:∀s,body2 s=cond (decide (s.2<(t.length:Int))) ((ixO t s.2).bind fun v17=>(zC (body1 s v17) (s.1,0)).bind fun r=>(rng (s.2+1)).bind fun v=>df (.inl (r,v))) (df (.inr s.1)))
  (aU:∀s v q,body1 s v q=cond (decide (q.2<v)) ((ixO x.zB (k:Int)).bind fun cl=>(ixO cl s.2).bind fun c=>(g x q.1 c).bind fun r=>(rng (q.2+1)).bind fun w=>df (.inl (r,w))) (df (.inr q.1)))
  {p:Vec}(hp:p.length=k+1){u:Vec}(hu:V (suf x (k+1)) u):zC body2 (p++u,0)=df (p++img (mul (suf x (k+1))) (lvl x k).cs t u):=by
 have h6:=h.os.1;have ok:=h.okAt (k:=k+1) (by omega);have ok0:=h.okAt (k:=k) (by omega);rw[yG hk]at ok0;obtain⟨htl,pd⟩:=zAx h.os (x.zA.length-(k+1)) (k+1) t (by omega) ht;have gN:(lvl x k).cs.length=x.zA.length-(k+1):=by rw[ok0.2.2.1,yP]
 have hA:∀i,V (suf x (k+1)) (img (mul (suf x (k+1))) ((lvl x k).cs.take i) (t.take i) u):=fun i=>
  tI (xI ok) _ _ (fun c hc=>ok0.2.2.2.1 c (by grind)) hu
 have:=zX (body:=body2) (r:=p++img (mul (suf x (k+1))) (lvl x k).cs t u) (fun i=>(p++img (mul (suf x (k+1))) ((lvl x k).cs.take i) (t.take i) u,(i:Int))) t.length (fun i hi=>by
  have hr:=pd i (by omega);obtain⟨c,c1,c2,c3,c4⟩:=zC2 h hk (i:=i) (by omega);rw[pK];simp only
  rw[xR hi,zH,yR hi,bs];rw[vB (S:=V (suf x (k+1))) (fun u=>p++u) (fun u=>mul (suf x (k+1)) u c) (at0 t i) hr.1 (by grind[xI]) (fun u q hu hq=>by
   rw[aU];simp only
   rw[dl hq,zH,c1,bs,c2,bs,hg p u c hp hu c3,bs,zD (by omega) (by omega),bs,cs]) (by grind) (hA i),bs,zD (by omega) (by omega),bs,cs]
  rw[kX _ _ _ _ (by omega) (by omega),c4]) (by
  grind)
 grind[img]
theorem zNF{p v:Vec}{a:Int}{k:Nat}(hp:p.length=k):ixO (p++a::v) (k:Int)=df a:=by rw[yT,Jd (by omega),hp,Jt];rfl
theorem p_set{p v:Vec}{a b:Int}{k:Nat}(hp:p.length=k):(p++a::v).set k b=p++b::v:=by simp_all
theorem zGp{x:SPr}(h:Pres x){k:Nat}(hk:k<x.zA.length)(hc:xD (suf x (k+1))){g:SPr→List Int→List Int→Option (List Int)}(hg:FTV x (k+1) g):FTG x k (b_b g):=by
 intro p v hp hv;have h6:=h.os.1;have G:=zAa h (k:=k+1) (by omega) hc;have ok:=h.okAt (k:=k+1) (by omega);have ok0:=h.okAt (k:=k) (by omega);obtain⟨fh,bw⟩:=zAx h.os (x.zA.length-k) k v (by omega) hv;rw[yG hk]at hv ok0;obtain⟨e,t,rfl⟩:∃a0 a',v=a0::a':=by cases v with|nil=>grind|cons p q=>simp
 obtain⟨⟨e1,e2⟩,ht⟩:=hv;have ec:(lvl x k).o=at0 x.zA k:=rfl;rw[ec]at e2;have ca:=(h.os.2 k hk).pos;have htl:=(zAx h.os (x.zA.length-(k+1)) (k+1) t (by omega) ht).1;have ft:=yP x (k+1);unfold b_b;have hs:zS (p++e::t) ((k+1:Nat):Int) ((p++e::t).length:Int)=df t:=by
  unfold zS;rw[if_pos (by grind)];have e3:(p++e::t).drop (k+1)=t:=by rw[List.drop_append,U3 (by omega),hp,show k+1-k=1 from by omega];rfl
  grind[Jj]
 have pI:f_q t=df t:=by grind[f_q,yX]
 rw[zD (by omega) (by omega),bs,cs,hs,bs,pI,bs];have hz:=zX (body:=zLm k t) (r:=(p++[e])++zeros t.length) (fun i=>((p++[e])++(zeros i++t.drop i),(i:Int))) t.length (fun i hi=>by
  have hl:((p++[e])++zeros i).length=k+1+i:=by grind[zR]
  unfold zLm;simp only
  rw[xR hi,zH,zD (by omega) (by omega),bs,zD (by omega) (by omega),bs,show(k:Int)+1+(i:Int)=((k+1+i:Nat):Int)from by omega,yT,←Jb,Jd (by omega),hl,Jt,
   Jw hi,Hy,bs,zD (by omega) (by omega),bs,cs,Jj,Kg _ _ (by omega),hl,Jt,K6,zCn]
  simp) (by
  unfold zLm;simp)
 simp only[zeros,Gt,Lr,Jr,Jb,Ks]at hz;rw[show((0:Nat):Int)=0 from rfl]at hz;rw[hz,bs,Jj,zNF hp,bs,zD (by omega) (by omega),bs,bs,p_set hp,zNF hp,bs,yR hk,bs];have bN:J1 t.length (0:Int)=zeros (suf x (k+1)).length:=by rw[ft,htl];rfl
 rw[yG hk,yC,ec];have gv:mul (suf x (k+1)) (iter (1:Int).toNat (sig (suf x (k+1)) (lvl x k)) t) (zeros (x.zA.length-(k+1)))=sig (suf x (k+1)) (lvl x k) t:=by rw[←ft];show mul _ (sig (suf x (k+1)) (lvl x k) t) _=_;exact G.oner (zFd ok0 ht)
 rw[gv,bN]
 by_cases heq:e+1=at0 x.zA k
 ·have t1:=(h.tl k hk).1
  have hw:=zGo t1 hk;have hwl:=h.pl;have bD:(p++[(0:Int)]).length=k+1:=by simp[hp]
  rw[show(e+1==at0 x.zA k)=dh from by grind,zH,if_pos (by omega),bs,wN [] (by omega),bs,p_set hp];have bM:p++0::zeros (suf x (k+1)).length=(p++[0])++zeros (suf x (k+1)).length:=by simp
  rw[bM,zAp t1 hk,hg _ _ _ bD G.ein hw,bs,G.onel hw];rw[zE3 (body1:=zOU g x k) (body2:=zOV g x k t) h hk hg ht (fun _=>rfl) (fun _ _ _=>rfl) bD hw,bs];rw[zBt G.toMon _ _ ok0.2.2.2.1 hw,show e+1-at0 x.zA k=0 from by omega];simp only[Jb,Ks];rfl
 ·have bD:(p++[e+1]).length=k+1:=by simp[hp]
  rw[show(e+1==at0 x.zA k)=di from by grind,zG,if_neg (by omega)];have bM:p++(e+1)::zeros (suf x (k+1)).length=(p++[e+1])++zeros (suf x (k+1)).length:=by simp
  rw[bM,zE3 (body1:=zOW g x k) (body2:=zOX g x k t) h hk hg ht (fun _=>rfl) (fun _ _ _=>rfl) bD G.ein,bs];simp only[Jb,Ks];rfl
theorem zC4{n i:Nat}(h:i<n):uC n i=zeros i++1::zeros (n-(i+1)):=by
 have:zeros n=zeros i++0::zeros (n-(i+1)):=by
  simp only[zeros];rw[←K5,Jq]
  grind
 grind[uC,zCo]
theorem zBv(n:Nat):(vQ n).length=n:=by simp[vQ]
theorem zHm{n i:Nat}(h:i<n):(vQ n).getD i []=uC n i:=by simp[vQ,J4,h]
theorem zK8{x:SPr}(h:Pres x){k:Nat}(hk:k≤x.zA.length)(hc:xD (suf x k)){g:SPr→List Int→Int→Option (List Int)}(hg:∀j,k≤j→j<x.zA.length→FTG x j g):FTV x k (b_c g):=by
 intro p v u hp hv hu;have h6:=h.os.1;have G:=zAa h hk hc;have ok:=h.okAt hk;obtain⟨hul,hur⟩:=zAx h.os (x.zA.length-k) k u (by omega) hu;have ft:=yP x k;have hV1:∀j,j≤x.zA.length→j<x.zA.length→V (suf x j) (1::zeros (x.zA.length-(j+1))):=fun j hj be=>by rw[yG be];have:=(h.os.2 j be).pos;refine⟨⟨by omega,by show 1<at0 x.zA j;omega⟩,?_⟩;rw[←yP];exact wE (h.okAt (by omega))
 have hUn:∀i,i<x.zA.length-k→V (suf x k) (uC (x.zA.length-k) i):=by grind[zBK]
 have hUs:∀c∈vQ (x.zA.length-k),V (suf x k) c:=fun c hc=>by
  simp only[vQ,J7,K9]at hc
  grind
 have hA:∀i,V (suf x k) (img (mul (suf x k)) ((vQ (x.zA.length-k)).take i) (u.take i) v):=fun i=>
  tI (xI ok) _ _ (by grind) hv
 have aJ:∀i w,i<x.zA.length-k→V (suf x k) w→g x (p++w) ((k+i:Nat):Int)=df (p++mul (suf x k) w (uC (x.zA.length-k) i)):=fun i w hi hw=>by obtain⟨q,w',h1,h2,h3,h4⟩:=zC3 i k w (by omega) hw;have h5:=hg (k+i) (by omega) (by omega) (p++q) w' (by grind) h3;rw[Jb,←h1]at h5;rw[h5,zC4 hi,h1,show x.zA.length-k-(i+1)=x.zA.length-(k+i+1)from by omega,h4 w' _ h3 (hV1 (k+i) (by omega) (by omega)),Jb]
 unfold b_c;have mC:(zeros k++u).length=x.zA.length:=by grind[zR]
 have:=zX (body:=zLo g x (zeros k++u)) (r:=p++mul (suf x k) v u) (fun j=>(p++img (mul (suf x k)) ((vQ (x.zA.length-k)).take (j-k)) (u.take (j-k)) v,(j:Int))) x.zA.length (fun j hj=>by
  unfold zLo;simp only
  rw[mC,xR hj,zH];rcases Ho j k with hjk|hjk
  ·have e0:ixO (zeros k++u) (j:Int)=df 0:=by
    rw[yT,L2 (by grind)]
    grind[zeros]
   rw[e0,bs,show j-k=0 from by omega,show j+1-k=0 from by omega];rw[zM];unfold zLn;simp only
   rw[show decide ((0:Int)<0)=di from rfl,zG];simp only
   rw[bs,zD (by omega) (by omega),bs,cs]
  ·obtain⟨i,rfl⟩:∃i,j=k+i:=⟨j-k,by omega⟩
   have hi:i<x.zA.length-k:=by omega
   have hr:=hur i hi;rw[zIT (by omega),bs,show k+i-k=i from by omega,show k+i+1-k=i+1 from by omega];rw[vB (S:=V (suf x k)) (fun w=>p++w) (fun w=>mul (suf x k) w (uC (x.zA.length-k) i)) (at0 u i) hr.1 (by grind[xI]) (fun w q hw hq=>by
    unfold zLn;simp only
    rw[dl hq,zH,aJ i w hi hw,bs,zD (by omega) (by omega),bs,cs]) (fun w hw=>by
    unfold zLn;simp) (hA i),bs,zD (by omega) (by omega),bs,cs]
   rw[kX _ _ _ _ (by grind[zBv]) (by omega),zHm hi]) (by
  unfold zLo;simp only
  rw[mC,tK,zG,K2 (by grind[zBv]),K2 (by omega),zBt G.toMon _ _ hUs hv];have hn:=normal (suf x k) ok (fun Q hQ=>(zGe Q (zE2 hQ ok) (kY hQ hc)).toMon) u hu
  grind)
 simp only[Q6,Lp,img]at this
 grind
theorem zBO{x:SPr}(h:Pres x):∀(d k:Nat),k+d=x.zA.length→xD (suf x k)→(∀m,2*d+1≤m→FTV x k (zJh m))
 |d,k,hk,hc=>fun m hm=>by
  obtain⟨m,rfl⟩:∃m',m=m'+1:=⟨m-1,by omega⟩;refine zK8 h (by omega) hc fun j hj cU=>?_
  obtain⟨m,rfl⟩:∃m',m=m'+1:=⟨m-1,by omega⟩;have bI:xD (suf x (j+1)):=by
   have:=kZ hc (j+1-k)
   grind
  exact zGp h cU bI (zBO h (x.zA.length-(j+1)) (j+1) (by omega) bI m (by omega))
 termination_by d=>d
 decreasing_by omega
theorem zM7{x:SPr}(h:Pres x){k:Nat}(hk:k≤x.zA.length)(hc:xD (suf x k)):FTV x k f_c:=fun p v u hp hv hu=>
 kT (2*(x.zA.length-k)+1) fun m hm=>zBO h (x.zA.length-k) k (by omega) hc m hm p v u hp hv hu
theorem zM8{x:SPr}(h:Pres x){k:Nat}(hk:k<x.zA.length)(hc:xD (suf x (k+1))):FTG x k f_b:=fun p v hp hv=>
 kT (2*(x.zA.length-k)) fun m hm=>by obtain⟨m,rfl⟩:∃m',m=m'+1:=⟨m-1,by omega⟩;exact zGp h hk hc (zBO h (x.zA.length-(k+1)) (k+1) (by omega) hc m (by omega)) p v hp hv
end Go.Pl

namespace Go.Pl
open Go Go.Ab Go.Wk Go.Pc
abbrev fv(k:Nat)(v:Vec):Vec:=zeros k++v
section
variable {x:SPr} (h:Pres x) {k:Nat} (hk:k≤x.zA.length) (hc:xD (suf x k))
 include h hk
theorem zGq{v:Vec}(hv:V (suf x k) v):v.length=x.zA.length-k:=(zAx h.os (x.zA.length-k) k v (by omega) hv).1
theorem zBP{v:Vec}(hv:V (suf x k) v):(fv k v).length=x.zA.length:=by grind[zR,zGq]
theorem zGr:J1 x.zA.length (0:Int)=fv k (zeros (suf x k).length):=by
 have _:=h;rw[yP];simp only[fv,zeros,Jq];grind
 include hc
theorem zHn{i:Nat}(hi:i<x.zA.length-k):V (suf x k) (uC (x.zA.length-k) i):=by
 have _:=hc;have:=yP x k;rw[←this]at hi ⊢
 exact zBK (h.okAt hk) hi
theorem zGs{p:Vec}(hp:p.length=k){i:Nat}(hi:i<x.zA.length-k){w:Vec}(hw:V (suf x k) w):f_b x (p++w) ((k+i:Nat):Int)=df (p++mul (suf x k) w (uC (x.zA.length-k) i)):=by
 obtain⟨q,w',h1,h2,h3,h4⟩:=zC3 i k w (by omega) hw;have bI:xD (suf x (k+i+1)):=kZ hc (i+1);have h5:=zM8 h (k:=k+i) (by omega) bI (p++q) w' (by grind) h3;have h7:V (suf x (k+i)) (1::zeros (x.zA.length-(k+i+1))):=by
  have be:k+i<x.zA.length:=by omega
  rw[yG be];have:=(h.os.2 (k+i) be).pos;refine⟨⟨by omega,by show 1<at0 x.zA (k+i);omega⟩,?_⟩;rw[←yP];exact wE (h.okAt (by omega))
 grind[zC4]
theorem zD7{a b:Vec}(ha:V (suf x k) a)(hb:V (suf x k) b):f_c x (fv k a) (fv k b)=df (fv k (mul (suf x k) a b)):=
 zM7 h hk hc (zeros k) a b (zR k) ha hb
theorem zGt{a:Vec}(ha:V (suf x k) a):f_q (fv k a)=df (fv k a):=by
 have _:=hc;have:=zBP h hk ha;have h6:=h.os.1
 grind[f_q,yX]
theorem zA4{a b:Vec}(ha:V (suf x k) a)(hb:V (suf x k) b):zH4 x (fv k a) (fv k b)=df (fv k (mul (suf x k) a b)):=by grind[zH4,zGt,zD7]
theorem zHo{c:Vec}(fc:V (suf x k) c){e:Int}(e0:0≤e)(e1:e≤1000):f_Q x (fv k c) e=df (fv k (pw (mul (suf x k)) (zeros (suf x k).length) c e.toNat)):=by
 have h6:=h.os.1;have ok:=h.okAt hk;unfold f_Q;rw[zBP h hk fc,yI (by omega),bs,zGr h hk];rw[vB (S:=V (suf x k)) (body:=zLq x (fv k c) e) (fun u=>fv k u) (fun u=>mul (suf x k) u c) e e0 (by grind[xI]) (fun u i hu hi=>by
  unfold zLq;simp only
  rw[dl hi,zH,zD7 h hk hc hu fc,bs,zD (by omega) (by omega),bs,cs]) (fun u hu=>by
  unfold zLq;simp) (wE ok),bs]
 rfl
theorem zGu{v:Vec}(hv:V (suf x k) v):∃w,V (suf x k) w∧mul (suf x k) v w=zeros (suf x k).length∧f_s x (fv k v)=df (fv k w):=by
 have h6:=h.os.1;have ok:=h.okAt hk;have G:=zAa h hk hc;have fh:=zBP h hk hv;have ft:=yP x k;unfold f_s;rw[zGt h hk hc hv,bs,fh,yI (by omega),bs,zGr h hk]
 let I:Nat→(List Int×List Int×Int)→Prop:=fun j s=> ∃A w,s=(fv k A,fv k w,(j:Int))∧V (suf x k) A∧V (suf x k) w∧mul (suf x k) v w=A∧ ∃A',A=zeros (j-k)++A'
 have key:=vG (body:=zLt x (fv k v)) (Q:=fun r=> ∃w,V (suf x k) w∧mul (suf x k) v w=zeros (suf x k).length∧r=fv k w) I x.zA.length (fun j s hj hI=>by
  obtain⟨A,w,rfl,hA,hw,hm,A',hA'⟩:=hI;left;unfold zLt;simp only
  rw[fh,xR hj,zH];rcases Ho j k with hjk|hjk
  ·have e0:ixO (fv k A) (j:Int)=df 0:=by
    grind[yT,zeros]
   rw[zM];unfold zJi;simp only
   rw[e0,bs,show((0:Int) != 0)=di from rfl,zG];simp only
   rw[bs,zD (by omega) (by omega),bs,cs]
   grind
  ·obtain⟨i,rfl⟩:∃i,j=k+i:=⟨j-k,by omega⟩
   have hi:i<x.zA.length-k:=by omega
   rw[show k+i-k=i from by omega]at hA';have hAl:=zGq h hk hA;obtain⟨a0,A',rfl⟩:∃p q,A'=p::q:=by
    cases A' with
    |nil=>grind[zR]
    |cons p q=>simp
   have ca:=(h.os.2 (k+i) hj).pos;have inner:=vG (body:=zJi x (fv k A,fv k w,((k+i:Nat):Int))) (s:=(fv k A,fv k w))
    (Q:=fun r=> ∃B u,r=(fv k B,fv k u)∧V (suf x k) B∧V (suf x k) u∧mul (suf x k) v u=B∧ ∃B',B=zeros (i+1)++B')
    (fun q s=> ∃B u b B',s=(fv k B,fv k u)∧V (suf x k) B∧V (suf x k) u∧mul (suf x k) v u=B∧B=zeros i++b::B'∧(b=0∨b=a0+q)) 10 (fun q s hq hs=>by
     obtain⟨B,u,b,B',rfl,hB,hu,mg,pR,hb⟩:=hs;have hz:ixO (fv k B) ((k+i:Nat):Int)=df b:=by rw[fv,zIT (by grind[zGq]),pR,at0,J4,Jd (by rw[zR];omega),zR,Jt];rfl
     unfold zJi;simp only
     rw[hz,bs]
     by_cases aV:b=0
     ·subst aV
      right;rw[show((0:Int) != 0)=di from rfl,zG];exact⟨_,rfl,B,u,rfl,hB,hu,mg,B',by rw[pR,sU]⟩
     ·left
      have hbq:b=a0+q:=by omega
      rw[show(b != 0)=dh from by grind,zH,zGs h hk hc (zR k) hi hB,bs,zGs h hk hc (zR k) hi hu,bs];have hU:=zHn h hk hc hi;obtain⟨q',v',h1,h2,h3,h4⟩:=zC3 i k B (by omega) hB;have hqv:q'=zeros i∧v'=b::B':=by grind[List.append_inj,zR]
      obtain⟨rfl,rfl⟩:=hqv;have h7:V (suf x (k+i)) (1::zeros (x.zA.length-(k+i+1))):=by rw[yG hj];refine⟨⟨by omega,by show 1<at0 x.zA (k+i);omega⟩,?_⟩;rw[←yP];exact wE (h.okAt (by omega))
      have h8:=h4 (b::B') _ h3 h7;rw[show x.zA.length-(k+i+1)=x.zA.length-k-(i+1)from by omega,←zC4 hi,←h1,yG hj,yC]at h8;refine⟨_,rfl,mul (suf x k) B (uC (x.zA.length-k) i),mul (suf x k) u (uC (x.zA.length-k) i),?_⟩;have ec:(lvl x (k+i)).o=at0 x.zA (k+i):=rfl;rw[ec]at h8
      by_cases hge:b+1≥at0 x.zA (k+i)
      ·rw[if_pos hge]at h8
       refine⟨_,_,rfl,xI ok hB hU,xI ok hu hU,?_,h8,?_⟩
       ·rw[←G.assoc hv hu hU,mg]
       ·left
        rw[yG hj]at h3;have:=h3.1.2;omega
      ·rw[if_neg hge]at h8
       refine⟨_,_,rfl,xI ok hB hU,xI ok hu hU,?_,h8,?_⟩
       ·rw[←G.assoc hv hu hU,mg]
       omega) (fun s hs=>by
     obtain⟨B,u,b,B',rfl,hB,hu,mg,pR,hb⟩:=hs;have hz:ixO (fv k B) ((k+i:Nat):Int)=df b:=by rw[fv,zIT (by grind[zGq]),pR,at0,J4,Jd (by rw[zR];omega),zR,Jt];rfl
     have hbr:=(zAx h.os (x.zA.length-k) k B (by omega) hB).2 i hi;have ha:=(zAx h.os (x.zA.length-k) k A (by omega) hA).2 i hi;have e1:at0 B i=b:=by rw[pR,at0,J4,Jd (by grind[zR]),zR,Jt];rfl
     have e2:at0 A i=a0:=by rw[hA',at0,J4,Jd (by grind[zR]),zR,Jt];rfl
     have aV:b=0:=by omega
     subst aV;unfold zJi;simp only
     rw[hz,bs,show((0:Int) != 0)=di from rfl,zG];exact⟨_,rfl,B,u,rfl,hB,hu,mg,B',by rw[pR,sU]⟩) (by grind)
   obtain⟨r,r1,B,u,rfl,hB,hu,mg,B',pR⟩:=inner;rw[r1,bs,zD (by omega) (by omega),bs,cs]
   grind) (fun s hI=>by
  obtain⟨A,w,rfl,hA,hw,hm,A',hA'⟩:=hI;unfold zLt;simp only
  rw[fh,tK,zG];refine⟨_,rfl,w,hw,?_,rfl⟩;have hAl:=zGq h hk hA;rw[hA',Je,zR]at hAl
  grind) (s:=(fv k v,fv k (zeros (suf x k).length),0))
  ⟨v,_,rfl,hv,wE ok,G.oner hv,v,by rw[Q6];rfl⟩
 grind
theorem zAb{a b:Vec}(ha:V (suf x k) a)(hb:V (suf x k) b):∃c,V (suf x k) c∧mul (suf x k) b c=mul (suf x k) a b∧zLu x (fv k a) (fv k b)=df (fv k c):=by
 have ok:=h.okAt hk;have G:=zAa h hk hc;obtain⟨w,hw,hm,h1⟩:=zGu h hk hc hb;have bp:=xI ok ha hb;refine⟨mul (suf x k) w (mul (suf x k) a b),xI ok hw bp,?_,?_⟩
 ·rw[←G.assoc hb hw bp,hm,G.onel bp]
 grind[zLu,zA4]
end
theorem zHp{a b:List Int}(h:a.length≤1000000):f_I a b=df (a==b):=
 zIq (t:=fun u v=>df (u==v)) (body:=zOY a b) rfl (fun _=>rfl) (by omega) fun _ _ _ _=>rfl
end Go.Pl

namespace Go.Pl
open Go Go.Ab Go.Wk Go.Pc
theorem zGv{ρ:Type}{body:Int→Option (Int⊕(Unit⊕ρ))}(n i0:Nat)(hn:i0≤n)(P:Nat→Prop)(B:ρ→Prop)
  (h:∀i,i0≤i→i<n→(∀j,i0≤j→j<i→P j)→(body (i:Int)=df (.inl ((i+1:Nat):Int))∧P i)∨(∃r,body (i:Int)=df (.inr (.inr r))∧B r∧ ¬P i))
  (he:body (n:Int)=df (.inr (.inl ()))):
  (zC body (i0:Int)=df (.inl ())∧ ∀j,i0≤j→j<n→P j)∨ ∃r i,i0≤i∧i<n∧zC body (i0:Int)=df (.inr r)∧B r∧ ¬P i:=by
 have key:∀k i,i0≤i→i+k=n→(∀j,i0≤j→j<i→P j)→(zC body (i:Int)=df (.inl ())∧ ∀j,i0≤j→j<n→P j)∨ ∃r q,i0≤q∧q<n∧zC body (i:Int)=df (.inr r)∧B r∧ ¬P q:=by
  intro k
  induction k with
  |zero=>
   intro i hi hk hp;obtain rfl:i=n:=by omega
   grind[zM]
  |succ k ih=>
   intro i hi hk hp;rcases h i hi (by omega) hp with⟨h1,h2⟩|⟨r,h1,h2,h3⟩
   ·have:=ih (i+1) (by omega) (by omega) (by grind)
    rw[zM,h1];exact this
   ·exact .inr ⟨r,i,hi,by omega,by rw[zM,h1],h2,h3⟩
 exact key (n-i0) i0 (Jg _) (by omega) fun j a b=>by omega
theorem qZ{σ ρ:Type}{body:σ→Option (σ⊕ρ)}{Q:ρ→Prop}(I:σ→Prop)(m:σ→Nat)
  (h:∀s,I s→(∃s',body s=df (.inl s')∧I s'∧m s'<m s)∨ ∃r,body s=df (.inr r)∧Q r):∀(k:Nat)(s:σ),m s≤k→I s→ ∃r,zC body s=df r∧Q r
 |k,s,hk,hs=>by
  rcases h s hs with⟨s',h1,h2,h3⟩|⟨r,h1,h2⟩
  ·cases k with
   |zero=>omega
   |succ k=>
    obtain⟨r,h4,h5⟩:=qZ I m h k s' (by omega) h2
    grind[zM]
  grind[zM]
theorem zO5{k:Nat}{a b:Vec}:(fv k a==fv k b)=dh↔a=b:=by simp
theorem zD8{x:SPr}{v:List Int}{i k:Nat}(h:Exp x.zA v i)(hk:k≤i+1)(hn:k≤x.zA.length):v=fv k (v.drop k)∧V (suf x k) (v.drop k):=by
 have h1:=h.1.1;constructor
 ·apply L0
  intro j;rw[fv,Jv];simp only[zeros,Jk,Js,H7];split
  ·rename_i hj
   have h2:=h.2 j (by omega)
   grind
  grind
 ·refine zK7 (x.zA.length-k) k _ (by omega) (by grind) fun j hj=>?_
  have:=h.1.2 (k+j) (by omega)
  grind
structure LC (x:SPr) (k:Nat):Prop where
 c1:∀j,k+1≤j→j<x.zA.length→pw (mul (suf x (k+1))) (zeros (suf x (k+1)).length) ((lvl x k).cs.getD (j-(k+1)) []) (at0 x.zA j).toNat=sig (suf x (k+1)) (lvl x k) ((x.zV.getD j []).drop (k+1))
 c2:∀i,k+1≤i→i<x.zA.length→ ∀j,i+1≤j→j<x.zA.length→
  mul (suf x (k+1)) ((lvl x k).cs.getD (j-(k+1)) []) ((lvl x k).cs.getD (i-(k+1)) [])=mul (suf x (k+1)) ((lvl x k).cs.getD (i-(k+1)) []) (sig (suf x (k+1)) (lvl x k) (((x.zB.getD i []).getD (j-(i+1)) []).drop (k+1)))
 c3:sig (suf x (k+1)) (lvl x k) (lvl x k).w=(lvl x k).w
 c4:∀j,k+1≤j→j<x.zA.length→mul (suf x (k+1)) (lvl x k).w (iter (lvl x k).o.toNat (sig (suf x (k+1)) (lvl x k)) (uC (x.zA.length-(k+1)) (j-(k+1))))=mul (suf x (k+1)) (uC (x.zA.length-(k+1)) (j-(k+1))) (lvl x k).w
section
variable {x:SPr} (h:Pres x) {k:Nat} (hk:k<x.zA.length) (hc:xD (suf x (k+1)))
 include h hk
theorem qN{j:Nat}(h1:k+1≤j)(h2:j<x.zA.length):ixO x.zB (k:Int)=df (x.zB.getD k [])∧ixO (x.zB.getD k []) ((j:Int)-(k:Int)-1)=df (fv (k+1) ((lvl x k).cs.getD (j-(k+1)) []))∧V (suf x (k+1)) ((lvl x k).cs.getD (j-(k+1)) []):=by
 obtain⟨c,c1,c2,c3,c4⟩:=zC2 h hk (i:=j-(k+1)) (by omega)
 grind
theorem zK9{j:Nat}(h1:k+1≤j)(h2:j<x.zA.length):ixO x.zV (j:Int)=df (fv (k+1) ((x.zV.getD j []).drop (k+1)))∧V (suf x (k+1)) ((x.zV.getD j []).drop (k+1)):=by
 have t1:=(h.tl j h2).1;have hl:=h.pl
 grind[zD8,wN]
theorem zNG{i j:Nat}(h1:k+1≤i)(h2:i+1≤j)(h3:j<x.zA.length):ixO x.zB (i:Int)=df (x.zB.getD i [])∧ixO (x.zB.getD i []) ((j:Int)-(i:Int)-1)=df (fv (k+1) (((x.zB.getD i []).getD (j-(i+1)) []).drop (k+1)))∧V (suf x (k+1)) (((x.zB.getD i []).getD (j-(i+1)) []).drop (k+1)):=by
 obtain⟨_,t2,t3⟩:=h.tl i (by omega)
 grind[zD8,wN]
theorem zO6:ixO x.zV (k:Int)=df (fv (k+1) (lvl x k).w)∧V (suf x (k+1)) (lvl x k).w:=by have t1:=(h.tl k hk).1;have hl:=h.pl;obtain⟨e1,e2⟩:=zD8 (k:=k+1) t1 (by omega) (by omega);exact⟨by rw[wN [] (by omega)];exact congrArg df e1,e2⟩
theorem zNH{v:Vec}(hv:V (suf x (k+1)) v):V (suf x (k+1)) (sig (suf x (k+1)) (lvl x k) v):=by
 have ok0:=h.okAt (k:=k) (by omega)
 grind[yG,zFd]
theorem zE4{j:Nat}(h1:k+1≤j)(h2:j<x.zA.length):zGG (x.zA.length:Int) (j:Int)=df (fv (k+1) (uC (x.zA.length-(k+1)) (j-(k+1)))):=by
 have h6:=h.os.1;unfold zGG;rw[yI (by omega),bs,yT,Js,if_pos h2,bs,Jj]
 congr 1
 rw[fv,zC4 (by omega),←Jb];have e1:zeros (k+1)++zeros (j-(k+1))=zeros j:=by grind[zeros,Jq]
 have e2:J1 x.zA.length (0:Int)=zeros j++0::zeros (x.zA.length-(j+1)):=by simp only[zeros];rw[←K5,Jq];grind
 grind[zCo]
theorem zIU{j:Nat}(h1:k+1≤j)(h2:j<x.zA.length):zLe (x.zA.length:Int) (j:Int)=df (fv (k+1) (uC (x.zA.length-(k+1)) (j-(k+1)))):=zE4 h hk h1 h2
 include hc
theorem tM{v:Vec}(hv:V (suf x (k+1)) v):f_o x k (fv (k+1) v)=df (fv (k+1) (sig (suf x (k+1)) (lvl x k) v)):=by
 have h6:=h.os.1;have ok:=h.okAt (k:=k+1) (by omega);have ok0:=h.okAt (k:=k) (by omega);rw[yG hk]at ok0;obtain⟨fh,bw⟩:=zAx h.os (x.zA.length-(k+1)) (k+1) v (by omega) hv;have gN:(lvl x k).cs.length=x.zA.length-(k+1):=by rw[ok0.2.2.1,yP]
 have t2:=(h.tl k hk).2.1;have aO:=h.cl;have hA:∀i,V (suf x (k+1)) (img (mul (suf x (k+1))) ((lvl x k).cs.take i) (v.take i) (zeros (suf x (k+1)).length)):=fun i=>
  tI (xI ok) _ _ (fun c hc=>ok0.2.2.2.1 c (by grind)) (wE ok)
 unfold f_o;rw[zBP h (by omega) hv,yI (by omega),bs,wN [] (by omega),bs,zGr h (k:=k+1) (by omega)];have:=zX (body:=zLs x k (fv (k+1) v) (x.zB.getD k [])) (r:=fv (k+1) (sig (suf x (k+1)) (lvl x k) v))
  (fun i=>(fv (k+1) (img (mul (suf x (k+1))) ((lvl x k).cs.take i) (v.take i) (zeros (suf x (k+1)).length)),(i:Int))) (x.zB.getD k []).length (fun i hi=>by
  have hr:=bw i (by omega);obtain⟨c,c1,c2,c3,c4⟩:=zC2 h hk (i:=i) (by omega);unfold zLs;simp only
  rw[xR hi,zH,c2,bs,zD (by omega) (by omega),bs,zD (by omega) (by omega),bs,show(k:Int)+1+(i:Int)=((k+1+i:Nat):Int)from by omega,fv,zIT (by omega),bs];rw[vB (S:=V (suf x (k+1))) (body:=zLr x (zeros (k+1)++c) (at0 v i)) (fun u=>fv (k+1) u) (fun u=>mul (suf x (k+1)) u c) (at0 v i) hr.1 (by grind[xI]) (fun u q hu hq=>by
   unfold zLr;simp only
   rw[dl hq,zH,zD7 h (by omega) hc hu c3,bs,zD (by omega) (by omega),bs,cs]) (fun u hu=>by
   unfold zLr;simp) (hA i),bs,zD (by omega) (by omega),bs,cs]
  rw[kX _ _ _ _ (by omega) (by omega),c4]) (by
  unfold zLs;simp only
  rw[tK,zG,K2 (by omega),K2 (by omega)];rfl)
 simp only[Lp,img]at this
 grind
theorem zAc{a b:Vec}(ha:V (suf x (k+1)) a):IsB (f_I (fv (k+1) a) (fv (k+1) b)) (a=b):=by
 have _:=hc;have h6:=h.os.1
 grind[zHp,zBP,IsB.of_bool,zO5]
theorem zGw{c:Vec}(fc:V (suf x (k+1)) c){e:Int}(e0:0≤e)(e1:e≤1000):f_x x ((k+1:Nat):Int) (fv (k+1) c) e=df (fv (k+1) (pw (mul (suf x (k+1))) (zeros (suf x (k+1)).length) c e.toNat)):=by
 have h6:=h.os.1;have ok:=h.okAt (k:=k+1) (by omega);have G:=zAa h (k:=k+1) (by omega) hc;have hA:=zBu h (k:=k+1) (by omega);have pwV:∀a,V (suf x (k+1)) (pw (mul (suf x (k+1))) (zeros (suf x (k+1)).length) c a):=fun a=>wL G.toMon fc a
 unfold f_x;rw[yI (by omega),bs,zGr h (k:=k+1) (by omega)];obtain⟨r,r1,r2⟩:=qZ (body:=zJg x ((k+1:Nat):Int)) (Q:=fun r=>r=fv (k+1) (pw (mul (suf x (k+1))) (zeros (suf x (k+1)).length) c e.toNat))
  (fun s=> ∃(m a q:Nat),s=((m:Int),fv (k+1) (pw (mul (suf x (k+1))) (zeros (suf x (k+1)).length) c a),fv (k+1) (pw (mul (suf x (k+1))) (zeros (suf x (k+1)).length) c q))∧a+q*m=e.toNat∧m≤1000) (fun s=>s.1.toNat) (fun s ⟨m,a,q,hs,he,hm⟩=>by
   subst hs;unfold zJg;simp only
   by_cases hm0:m=0
   ·grind
   ·left
    have hr:wF (m:Int) 2=df ((m%2:Nat):Int):=by rfl
    have hq:wA (m:Int) 2=df ((m/2:Nat):Int):=by
     unfold wA;rw[if_neg (by decide),Kd (by omega)]
     grind[zD]
    have hdm:=Nat.div_add_mod m 2;have cE:mul (suf x (k+1)) (pw (mul (suf x (k+1))) (zeros (suf x (k+1)).length) c q) (pw (mul (suf x (k+1))) (zeros (suf x (k+1)).length) c q)=pw (mul (suf x (k+1))) (zeros (suf x (k+1)).length) c (q+q):=(zAO G.toMon fc q q).symm;rw[dl (by omega),zH,hr,bs];rcases Hs m with h2|h2
    ·rw[h2,show((((0:Nat):Int))==1)=di from rfl,zG,hA _ _ (pwV q) (pwV q),bs,hq,bs,cE]
     refine⟨_,rfl,⟨m/2,a,q+q,rfl,?_,by omega⟩,by omega⟩
     grind
    ·rw[h2,show((((1:Nat):Int))==1)=dh from rfl,zH,hA _ _ (pwV a) (pwV q),bs,hA _ _ (pwV q) (pwV q),bs,hq,bs,cE,←zAO G.toMon fc a q]
     refine⟨_,rfl,⟨m/2,a+q,q+q,rfl,?_,by omega⟩,by omega⟩
     grind) 1000000 (e,fv (k+1) (zeros (suf x (k+1)).length),fv (k+1) c) (by omega) ⟨e.toNat,0,1,by rw[zGZ G.toMon fc,show((e.toNat:Nat):Int)=e from by omega];rfl,by omega,by omega⟩
 grind
end
end Go.Pl

namespace Go.Pl
open Go Go.Ab Go.Wk Go.Pc
def zQz(o:Option yD)(P:Prop):Prop:=(o=df (yD.mk 0 0 0 0)∧P)∨ ∃r,o=df r∧r.Kind≠0∧ ¬P
theorem kb{a b c d:Int}(h:a≠0):(yD.mk a b c d).Kind≠0:=h
abbrev KB(r:yD):Prop:=r.Kind≠0
theorem qO{o:Option Bool}{P:Prop}{bad:yD}{i:Nat}{g:Option (Int⊕(Unit⊕yD))}(h:IsB o P)(hi:i<9223372036854775807)(hbad:bad.Kind≠0)
  (hg:g=o.bind fun r=>cond (!r) (df (.inr (.inr bad))) ((rng ((i:Int)+1)).bind fun v=>df (.inl v))):(g=df (.inl ((i+1:Nat):Int))∧P)∨(∃r,g=df (.inr (.inr r))∧KB r∧ ¬P):=by
 rcases zAo h hi hg with h|⟨h1,h2⟩
 all_goals grind
section
variable {x:SPr} (h:Pres x) {k:Nat} (hk:k<x.zA.length) (hc:xD (suf x (k+1)))
 include h hk hc
theorem zHq:zQz (f_g x k) (LC x k):=by
 have h6:=h.os.1;have ok:=h.okAt (k:=k+1) (by omega);have G:=zAa h (k:=k+1) (by omega) hc;obtain⟨w1,w2⟩:=zO6 h hk;have fY:∀v,V (suf x (k+1)) v→V (suf x (k+1)) (sig (suf x (k+1)) (lvl x k) v):=by grind[zNH]
 unfold f_g;rw[zD (by omega) (by omega),bs,cs];rcases zGv (body:=zLv x k) x.zA.length (k+1) (by omega) (fun j=>pw (mul (suf x (k+1))) (zeros (suf x (k+1)).length) ((lvl x k).cs.getD (j-(k+1)) []) (at0 x.zA j).toNat=sig (suf x (k+1)) (lvl x k) ((x.zV.getD j []).drop (k+1))) KB (fun j h1 h2 _=>by
   obtain⟨c1,c2,c3⟩:=qN h hk h1 h2;obtain⟨p1,p2⟩:=zK9 h hk h1 h2;have ca:=(h.os.2 j h2).pos;refine qO (zAc h hk hc (wL G.toMon c3 (at0 x.zA j).toNat)) (by omega) (bad:=yD.mk 1 k j 0) (kb (by decide)) ?_;unfold zLv;rw[xR h2,zH,c1,bs,zD (by omega) (by omega),bs,zD (by omega) (by omega),bs,c2,bs,yR h2,bs,zHo h (by omega) hc c3 (by omega) (by omega),bs,p1,bs,tM h hk hc p2,bs]) (by
   unfold zLv;simp)with⟨g1,g2⟩|⟨r,j,j1,j2,g1,g2,g3⟩
 rotate_left
 ·rw[g1,bs]
  exact .inr ⟨r,rfl,g2,fun q=>g3 (q.c1 j j1 j2)⟩
 rw[g1,bs];simp only
 rw[bs];rcases zGv (body:=zLx x k) x.zA.length (k+1) (by omega) (fun i=> ∀j,i+1≤j→j<x.zA.length→
   mul (suf x (k+1)) ((lvl x k).cs.getD (j-(k+1)) []) ((lvl x k).cs.getD (i-(k+1)) [])=mul (suf x (k+1)) ((lvl x k).cs.getD (i-(k+1)) []) (sig (suf x (k+1)) (lvl x k) (((x.zB.getD i []).getD (j-(i+1)) []).drop (k+1)))) KB (fun i h1 h2 _=>by
   obtain⟨c1,c2,c3⟩:=qN h hk h1 h2;unfold zLx;rw[xR h2,zH,zD (by omega) (by omega),bs,cs];rcases zGv (body:=zLw x k i) x.zA.length (i+1) (by omega) (fun j=>mul (suf x (k+1)) ((lvl x k).cs.getD (j-(k+1)) []) ((lvl x k).cs.getD (i-(k+1)) [])=mul (suf x (k+1)) ((lvl x k).cs.getD (i-(k+1)) []) (sig (suf x (k+1)) (lvl x k) (((x.zB.getD i []).getD (j-(i+1)) []).drop (k+1)))) KB (fun j h3 h4 _=>by
     obtain⟨d1,d2,d3⟩:=qN h hk (j:=j) (by omega) h4;obtain⟨e1,e2,e3⟩:=zNG h hk h1 h3 h4;obtain⟨q,q1,q2,q3⟩:=zAb h (by omega) hc d3 c3;refine qO ((zAc h hk hc (b:=sig (suf x (k+1)) (lvl x k) (((x.zB.getD i []).getD (j-(i+1)) []).drop (k+1))) q1).iff (Q:=mul (suf x (k+1)) ((lvl x k).cs.getD (j-(k+1)) []) ((lvl x k).cs.getD (i-(k+1)) [])=mul (suf x (k+1)) ((lvl x k).cs.getD (i-(k+1)) []) (sig (suf x (k+1)) (lvl x k) (((x.zB.getD i []).getD (j-(i+1)) []).drop (k+1)))) ?_) (by omega) (bad:=yD.mk 2 k i j) (kb (by decide)) ?_
     ·exact⟨by grind,fun e=>G.cancel_l c3 q1 (fY _ e3) (by rw[q2,e])⟩
     ·unfold zLw
      rw[xR h4,zH,d1,bs,zD (by omega) (by omega),bs,zD (by omega) (by omega),bs,d2,bs,bs,zD (by omega) (by omega),bs,zD (by omega) (by omega),bs,c2,bs,q3,bs,e1,bs,zD (by omega) (by omega),bs,zD (by omega) (by omega),bs,e2,bs,tM h hk hc e3,bs]) (by
     unfold zLw;simp)with⟨g1,g2⟩|⟨r,j,j1,j2,g1,g2,g3⟩
   ·grind
   grind) (by
   unfold zLx;simp)with⟨k1,k2⟩|⟨r,j,j1,j2,k1,k2,k3⟩
 rotate_left
 ·rw[k1,bs]
  exact .inr ⟨r,rfl,k2,fun q=>k3 (q.c2 j j1 j2)⟩
 rw[k1,bs];simp only
 rw[w1,bs,tM h hk hc w2,bs];rcases zAc h hk hc (b:=(lvl x k).w) (fY _ w2)with⟨m1,m2⟩|⟨m1,m2⟩
 rotate_left
 ·rw[m1,bs,La,zH]
  exact .inr ⟨_,rfl,kb (by decide),fun q=>m2 q.c3⟩
 rw[m1,bs,Ju,zG,bs];rcases zGv (body:=zLz x k (fv (k+1) (lvl x k).w)) x.zA.length (k+1) (by omega) (fun j=>mul (suf x (k+1)) (lvl x k).w (iter (lvl x k).o.toNat (sig (suf x (k+1)) (lvl x k)) (uC (x.zA.length-(k+1)) (j-(k+1))))=mul (suf x (k+1)) (uC (x.zA.length-(k+1)) (j-(k+1))) (lvl x k).w) KB (fun j h1 h2 _=>by
   have hU:=zHn h (k:=k+1) (by omega) hc (i:=j-(k+1)) (by omega);have ca:=(h.os.2 k hk).pos;obtain⟨q,q1,q2,q3⟩:=zAb h (k:=k+1) (by omega) hc hU w2;have fm:V (suf x (k+1)) (iter (lvl x k).o.toNat (sig (suf x (k+1)) (lvl x k)) (uC (x.zA.length-(k+1)) (j-(k+1)))):=vT fY _ hU;refine qO ((zAc h hk hc (b:=q) fm).iff ⟨by grind,fun e=>G.cancel_l w2 fm q1 (by rw[e,q2])⟩) (by omega) (bad:=yD.mk 4 k j 0) (kb (by decide)) ?_;unfold zLz;rw[xR h2,zH,zE4 h hk h1 h2,bs,yR hk,bs];rw[vB (S:=V (suf x (k+1))) (body:=zLy x k (at0 x.zA k)) (fun u=>fv (k+1) u) (sig (suf x (k+1)) (lvl x k)) (at0 x.zA k) (by omega) fY (fun u i hu hi=>by
    unfold zLy;simp only
    rw[dl hi,zH,tM h hk hc hu,bs,zD (by omega) (by omega),bs,cs]) (fun u hu=>by
    unfold zLy;simp) hU,bs,bs,q3,bs]
   rfl) (by
   unfold zLz;simp)with⟨n1,n2⟩|⟨r,j,j1,j2,n1,n2,n3⟩
 ·rw[n1,bs]
  exact .inl ⟨rfl,⟨g2,k2,m2,n2⟩⟩
 ·rw[n1,bs]
  exact .inr ⟨r,rfl,n2,fun q=>n3 (q.c4 j j1 j2)⟩
theorem zHr:zQz (f_h x k) (LC x k):=by
 have h6:=h.os.1;have ok:=h.okAt (k:=k+1) (by omega);have G:=zAa h (k:=k+1) (by omega) hc;obtain⟨w1,w2⟩:=zO6 h hk;have hA:=zBu h (k:=k+1) (by omega);have hI:=zHk h hk;have fY:∀v,V (suf x (k+1)) v→V (suf x (k+1)) (sig (suf x (k+1)) (lvl x k) v):=by grind[zNH]
 have eqB:∀{a b:Vec},V (suf x (k+1)) a→IsB (f_Y (fv (k+1) a) (fv (k+1) b)) (a=b):=fun ha=>zAc h hk hc ha
 unfold f_h;rw[zD (by omega) (by omega),bs,cs];rcases zGv (body:=zLf x k) x.zA.length (k+1) (by omega) (fun j=>pw (mul (suf x (k+1))) (zeros (suf x (k+1)).length) ((lvl x k).cs.getD (j-(k+1)) []) (at0 x.zA j).toNat=sig (suf x (k+1)) (lvl x k) ((x.zV.getD j []).drop (k+1))) KB (fun j h1 h2 _=>by
   obtain⟨c1,c2,c3⟩:=qN h hk h1 h2;obtain⟨p1,p2⟩:=zK9 h hk h1 h2;have ca:=(h.os.2 j h2).pos;refine qO (eqB (wL G.toMon c3 (at0 x.zA j).toNat)) (by omega) (bad:=yD.mk 1 k j 0) (kb (by decide)) ?_;unfold zLf;rw[xR h2,zH,zD (by omega) (by omega),bs,cs,c1,bs,zD (by omega) (by omega),bs,zD (by omega) (by omega),bs,c2,bs,yR h2,bs,zGw h hk hc c3 (by omega) (by omega),bs,p1,bs,hI _ p2,bs]) (by
   unfold zLf;simp)with⟨g1,g2⟩|⟨r,j,j1,j2,g1,g2,g3⟩
 rotate_left
 ·rw[g1,bs]
  exact .inr ⟨r,rfl,g2,fun q=>g3 (q.c1 j j1 j2)⟩
 rw[g1,bs];simp only
 rw[bs];rcases zGv (body:=zLh x k) x.zA.length (k+1) (by omega) (fun i=> ∀j,i+1≤j→j<x.zA.length→
   mul (suf x (k+1)) ((lvl x k).cs.getD (j-(k+1)) []) ((lvl x k).cs.getD (i-(k+1)) [])=mul (suf x (k+1)) ((lvl x k).cs.getD (i-(k+1)) []) (sig (suf x (k+1)) (lvl x k) (((x.zB.getD i []).getD (j-(i+1)) []).drop (k+1)))) KB (fun i h1 h2 _=>by
   obtain⟨c1,c2,c3⟩:=qN h hk h1 h2;unfold zLh;rw[xR h2,zH,zD (by omega) (by omega),bs,cs];rcases zGv (body:=zLg x k i) x.zA.length (i+1) (by omega) (fun j=>mul (suf x (k+1)) ((lvl x k).cs.getD (j-(k+1)) []) ((lvl x k).cs.getD (i-(k+1)) [])=mul (suf x (k+1)) ((lvl x k).cs.getD (i-(k+1)) []) (sig (suf x (k+1)) (lvl x k) (((x.zB.getD i []).getD (j-(i+1)) []).drop (k+1)))) KB (fun j h3 h4 _=>by
     obtain⟨d1,d2,d3⟩:=qN h hk (j:=j) (by omega) h4;obtain⟨e1,e2,e3⟩:=zNG h hk h1 h3 h4;refine qO (eqB (xI ok d3 c3)) (by omega) (bad:=yD.mk 2 k i j) (kb (by decide)) ?_;unfold zLg;rw[xR h4,zH,d1,bs,zD (by omega) (by omega),bs,zD (by omega) (by omega),bs,c2,bs,bs,zD (by omega) (by omega),bs,zD (by omega) (by omega),bs,d2,bs,e1,bs,zD (by omega) (by omega),bs,zD (by omega) (by omega),bs,e2,bs,hI _ e3,bs,zD (by omega) (by omega),bs,cs,hA _ _ d3 c3,bs,bs,hA _ _ c3 (fY _ e3),bs]) (by
     unfold zLg;simp)with⟨g1,g2⟩|⟨r,j,j1,j2,g1,g2,g3⟩
   ·grind
   grind) (by
   unfold zLh;simp)with⟨k1,k2⟩|⟨r,j,j1,j2,k1,k2,k3⟩
 rotate_left
 ·rw[k1,bs]
  exact .inr ⟨r,rfl,k2,fun q=>k3 (q.c2 j j1 j2)⟩
 rw[k1,bs];simp only
 rw[w1,bs,hI _ w2,bs];rcases eqB (b:=(lvl x k).w) (fY _ w2)with⟨m1,m2⟩|⟨m1,m2⟩
 rotate_left
 ·rw[m1,bs,La,zH]
  exact .inr ⟨_,rfl,kb (by decide),fun q=>m2 q.c3⟩
 rw[m1,bs,Ju,zG,bs];rcases zGv (body:=zLj x k (fv (k+1) (lvl x k).w)) x.zA.length (k+1) (by omega) (fun j=>mul (suf x (k+1)) (lvl x k).w (iter (lvl x k).o.toNat (sig (suf x (k+1)) (lvl x k)) (uC (x.zA.length-(k+1)) (j-(k+1))))=mul (suf x (k+1)) (uC (x.zA.length-(k+1)) (j-(k+1))) (lvl x k).w) KB (fun j h1 h2 _=>by
   have hU:=zHn h (k:=k+1) (by omega) hc (i:=j-(k+1)) (by omega);have ca:=(h.os.2 k hk).pos;have fm:V (suf x (k+1)) (iter (lvl x k).o.toNat (sig (suf x (k+1)) (lvl x k)) (uC (x.zA.length-(k+1)) (j-(k+1)))):=vT fY _ hU;refine qO (eqB (xI ok w2 fm)) (by omega) (bad:=yD.mk 4 k j 0) (kb (by decide)) ?_;unfold zLj;rw[xR h2,zH,zIU h hk h1 h2,bs];rw[vB (S:=V (suf x (k+1))) (body:=zLi x k) (fun u=>fv (k+1) u) (sig (suf x (k+1)) (lvl x k)) (at0 x.zA k) (by omega) fY (fun u i hu hi=>by
    unfold zLi;simp only
    rw[yR hk,bs,dl hi,zH,hI _ hu,bs,zD (by omega) (by omega),bs,cs]) (fun u hu=>by
    unfold zLi;simp only
    rw[yR hk,bs,dj (by omega),zG]) hU,bs,zD (by omega) (by omega),bs,cs]
   have ho:(lvl x k).o=at0 x.zA k:=rfl;rw[←ho,hA _ _ w2 fm,bs,bs,hA _ _ hU w2,bs]) (by
   unfold zLj;simp)with⟨n1,n2⟩|⟨r,j,j1,j2,n1,n2,n3⟩
 ·rw[n1,bs]
  exact .inl ⟨rfl,⟨g2,k2,m2,n2⟩⟩
 ·rw[n1,bs]
  exact .inr ⟨r,rfl,n2,fun q=>n3 (q.c4 j j1 j2)⟩
end
end Go.Pl

namespace Go.Pl
open Go Go.Ab Go.Wk Go.Pc
theorem zBQ{m:Vec→Vec→Vec}:∀(i:Nat)(cs:List Vec)(w acc:Vec),i≤cs.length→img m cs (zeros i++w) acc=img m (cs.drop i) w acc
 |0,cs,w,acc,_=>rfl
 |i+1,[],w,acc,h=>by simp at h
 |i+1,c::cs,w,acc,h=>by show img m (c::cs) (0::(zeros i++w)) acc=_;simp only[img,Ll,iter,List.drop_succ_cons];exact zBQ i cs w acc (by grind)
theorem zD9{x:SPr}{v:List Int}{j k:Nat}(h:Exp x.zA v j)(hj:j<x.zA.length)(hk:k≤j+1):v.drop k=zeros (j+1-k)++v.drop (j+1):=by
 have:=zAp h hj
 grind[zeros]
section
variable {x:SPr} (h:zD5 x) {k:Nat} (hk:k<x.zA.length)
 include h hk
theorem zAq:(lvl x k).cs.length=x.zA.length-(k+1):=by have ok0:=h.okAt (k:=k) (by omega);rw[yG hk]at ok0;rw[ok0.2.2.1,yP]
theorem zM9{j:Nat}(h1:k+1≤j)(h2:j<x.zA.length):sig (suf x (k+1)) (lvl x k) ((x.zV.getD j []).drop (k+1))=img (mul (suf x (k+1))) ((lvl x k).cs.drop (j-k)) (lvl x j).w (zeros (suf x (k+1)).length):=by have t1:=(h.tl j h2).1;have gN:=zAq h hk;rw[zD9 t1 h2 (by omega),sig,zBQ _ _ _ _ (by omega),show j+1-(k+1)=j-k from by omega];rfl
theorem zIv:∀(d i:Nat),k+1+i+d=x.zA.length→(Rel (mul (suf x (k+1))) (zeros (suf x (k+1)).length) (suf x (k+1+i)) ((lvl x k).cs.drop i)↔
  (∀j,k+1+i≤j→j<x.zA.length→pw (mul (suf x (k+1))) (zeros (suf x (k+1)).length) ((lvl x k).cs.getD (j-(k+1)) []) (at0 x.zA j).toNat=sig (suf x (k+1)) (lvl x k) ((x.zV.getD j []).drop (k+1)))∧
  (∀a,k+1+i≤a→a<x.zA.length→ ∀j,a+1≤j→j<x.zA.length→
   mul (suf x (k+1)) ((lvl x k).cs.getD (j-(k+1)) []) ((lvl x k).cs.getD (a-(k+1)) [])=mul (suf x (k+1)) ((lvl x k).cs.getD (a-(k+1)) []) (sig (suf x (k+1)) (lvl x k) (((x.zB.getD a []).getD (j-(a+1)) []).drop (k+1)))))
 |0,i,hi=>by
  have gN:=zAq h hk;rw[tL (x:=x) (k:=k+1+i) (by omega),U3 (by omega)];simp only[Rel,true_iff]
  grind
 |d+1,i,hi=>by
  have gN:=zAq h hk;have ih:=zIv d (i+1) (by omega);rw[show k+1+(i+1)=k+1+i+1 from by omega]at ih;have hj:k+1+i<x.zA.length:=by omega
  have hg:(lvl x k).cs.drop i=(lvl x k).cs.getD i []::(lvl x k).cs.drop (i+1):=by rw[Jw (by omega),J4,J5 (by omega)];rfl
  rw[yG hj,hg];simp only[Rel];rw[ih];have e1:=zM9 h hk (j:=k+1+i) (by omega) hj;rw[show k+1+i-k=i+1 from by omega]at e1;have ho:(lvl x (k+1+i)).o=at0 x.zA (k+1+i):=rfl;rw[ho,←e1];have e2:∀j,k+1+i+1≤j→j<x.zA.length→ ∀dd,(lvl x (k+1+i)).cs[j-(k+1+i+1)]? =df dd→img (mul (suf x (k+1))) ((lvl x k).cs.drop (i+1)) dd (zeros (suf x (k+1)).length)=sig (suf x (k+1)) (lvl x k) (((x.zB.getD (k+1+i) []).getD (j-(k+1+i+1)) []).drop (k+1)):=fun j h1 h2 dd hdd=>by
   obtain⟨_,t2,t3⟩:=h.tl (k+1+i) hj;have t:=t3 (j-(k+1+i+1)) (by omega);rw[zD9 t hj (by omega),sig,zBQ _ _ _ _ (by omega),show k+1+i+1-(k+1)=i+1 from by omega]
   congr 1
   simp only[lvl,Jf,K8]at hdd
   grind
  have e3:∀j,k+1+i+1≤j→j<x.zA.length→((lvl x k).cs.drop (i+1))[j-(k+1+i+1)]? =df ((lvl x k).cs.getD (j-(k+1)) [])∧ ∃dd,(lvl x (k+1+i)).cs[j-(k+1+i+1)]? =df dd:=fun j h1 h2=>by
   have aO:=zAq h hj;refine⟨?_,?_⟩
   ·rw[H7,show i+1+(j-(k+1+i+1))=j-(k+1)from by omega,J4,J5 (by omega)];rfl
   ·exact⟨_,J5 (by omega)⟩
  constructor
  ·rintro⟨a1,a2,a3,a4⟩
   refine⟨fun j h1 h2=>?_,fun a h1 h2 j h3 h4=>?_⟩
   ·rcases Ho (k+1+i) j with gG|hge
    ·grind
    ·obtain rfl:j=k+1+i:=by omega
     rw[show k+1+i-(k+1)=i from by omega];exact a1
   ·rcases Ho (k+1+i) a with gG|hge
    ·exact a4 a (by omega) h2 j h3 h4
    ·obtain rfl:a=k+1+i:=by omega
     obtain⟨f1,dd,f2⟩:=e3 j (by omega) h4;have:=a2 _ _ _ f1 f2;rw[e2 j (by omega) h4 dd f2]at this;rw[show k+1+i-(k+1)=i from by omega];exact this
  ·rintro⟨a1,a2⟩
   refine⟨?_,fun kk c dd h1 h2=>?_,by grind,by grind⟩
   ·have:=a1 (k+1+i) (by omega) hj
    rw[show k+1+i-(k+1)=i from by omega]at this;exact this
   ·have gG:kk<x.zA.length-(k+1+i+1):=by
     have:=(Ja.1 h1).1;rw[List.length_drop]at this;omega
    have g:=a2 (k+1+i) (by omega) hj (k+1+i+1+kk) (by omega) (by omega);obtain⟨f1,_⟩:=e3 (k+1+i+1+kk) (by omega) (by omega);rw[show k+1+i+1+kk-(k+1+i+1)=kk from by omega]at f1 g;rw[h1]at f1;have f1:=Kb.inj f1;have g2:=e2 (k+1+i+1+kk) (by omega) (by omega) dd (by rw[show k+1+i+1+kk-(k+1+i+1)=kk from by omega];exact h2);rw[show k+1+i+1+kk-(k+1+i+1)=kk from by omega]at g2;rw[g2,f1];rw[show k+1+i-(k+1)=i from by omega]at g;exact g
theorem zGx:xD (suf x k)↔xD (suf x (k+1))∧LC x k:=by
 have hr:=zIv h hk (x.zA.length-(k+1)) 0 (by omega);have hl:=yP x (k+1);rw[Lr,Hp]at hr;rw[yG hk];simp only[xD];rw[hr];constructor
 ·rintro⟨a,⟨b1,b2⟩,c,d⟩
  refine⟨a,⟨b1,b2,c,fun j h1 h2=>?_⟩⟩
  grind
 ·rintro⟨a,b⟩
  refine⟨a,⟨b.c1,b.c2⟩,b.c3,fun j hj=>?_⟩;have:=b.c4 (k+1+j) (by omega) (by omega);rw[show k+1+j-(k+1)=j from by omega]at this
  rwa [hl]
end
theorem zE5{x:SPr}(h:xD (suf x 0))(k:Nat):xD (suf x k):=by
 have:=kZ h k
 grind
def zAR(x:SPr):Prop:=Pres x∧xD (suf x 0)∧zGm x
theorem zBw{x:SPr}(hl:x.zA.length≤1048576):IsB (zMX x) (zAR x):=by
 unfold zMX;rcases zAv hl with⟨h1,h2⟩|⟨h1,h2⟩
 ·have h6:=h2.os.1
  rw[h1,bs,zH];unfold f_Z;obtain⟨r,r1,r2⟩:=vG (body:=zL0 x) (Q:=fun r=> ∃s:Nat,r=(s:Int)∧xD (suf x s)∧(s=0∨ ¬xD (suf x (s-1)))) (fun i s=>i≤x.zA.length∧s=((x.zA.length-i:Nat):Int)∧xD (suf x (x.zA.length-i))) x.zA.length (fun i s hi ⟨_,hs,gQ⟩=>by
    subst hs;have hk:x.zA.length-i-1<x.zA.length:=by omega
    have e9:x.zA.length-(i+1)=x.zA.length-i-1:=by omega
    rw[e9];have e8:i+1≤x.zA.length:=by omega
    rw[show x.zA.length-i=x.zA.length-i-1+1 from by omega]at gQ ⊢
    have pD:=zHq h2.toPres hk gQ;have ei:=zGx h2.toPres.w hk
    generalize x.zA.length-i-1=k at*
    unfold zL0;rw[dl (by omega),zH,zD (by omega) (by omega),bs,show(((k+1:Nat):Int)-1)=(k:Int)from by omega];rcases pD with⟨g1,g2⟩|⟨r,g1,g2,g3⟩
    ·simp_all
    grind) (fun s ⟨_,hs,gQ⟩=>by
    rw[Jt]at hs gQ;subst hs;unfold zL0
    grind) (s:=(x.zA.length:Int)) ⟨by omega,by rfl,by rw[G8,tL (by omega)];simp only[xD]⟩
  obtain⟨s,rfl,gQ,hs⟩:=r2;rw[r1,bs,bs];cases s with
  |zero=>exact .inl ⟨rfl,h2.toPres,gQ,h2⟩
  |succ s=>
   refine .inr ⟨?_,fun q=>?_⟩
   ·congr 1
   ·rcases hs with hs|hs
    ·omega
    ·exact hs (zE5 q.2.1 _)
 ·rw[h1,bs,zG]
  exact .inr ⟨rfl,fun q=>h2 q.2.2⟩
theorem zHs{x:SPr}(hl:x.zA.length≤1048576):IsB (zMT x) (zAR x):=by
 unfold zMT;rcases zAw hl with⟨h1,h2⟩|⟨h1,h2⟩
 ·have h6:=h2.os.1
  rw[h1,bs,zH];unfold zOS zOR;rw[zD (by omega) (by omega),bs];obtain⟨r,r1,r2⟩:=vG (body:=zGF x) (Q:=fun r=>(r=.inl ()∧xD (suf x 0))∨ ∃f,r=.inr f∧f.Kind≠0∧ ¬xD (suf x 0)) (fun i s=>i≤x.zA.length∧s=((x.zA.length-i:Nat):Int)-1∧xD (suf x (x.zA.length-i))) x.zA.length (fun i s hi ⟨_,hs,gQ⟩=>by
    subst hs;have hk:x.zA.length-i-1<x.zA.length:=by omega
    have e9:x.zA.length-(i+1)=x.zA.length-i-1:=by omega
    rw[e9];have e8:i+1≤x.zA.length:=by omega
    rw[show x.zA.length-i=x.zA.length-i-1+1 from by omega]at gQ ⊢
    have pD:=zHr h2.toPres hk gQ;have ei:=zGx h2.toPres.w hk
    generalize x.zA.length-i-1=k at*
    unfold zGF;rw[show(((k+1:Nat):Int)-1)=(k:Int)from by omega,dl (by omega),zH];rcases pD with⟨g1,g2⟩|⟨r,g1,g2,g3⟩
    ·left
     rw[g1,bs];simp only
     rw[show((0:Int) != 0)=di from rfl,zG,zD (by omega) (by omega),bs]
     grind
    ·right
     rw[g1,bs,show(r.Kind != 0)=dh from by grind,zH];exact⟨_,rfl,.inr ⟨r,rfl,g2,by grind[zE5]⟩⟩) (fun s ⟨_,hs,gQ⟩=>by
    rw[Jt]at hs gQ;subst hs;unfold zGF
    grind) (s:=(x.zA.length:Int)-1) ⟨by omega,by rfl,by rw[G8,tL (by omega)];simp only[xD]⟩
  rw[r1,bs];rcases r2 with⟨rfl,q⟩|⟨f,rfl,g1,g2⟩
  ·exact .inl ⟨rfl,h2.toPres,q,h2⟩
  ·simp only
   rw[bs,show(f.Kind==0)=di from by grind];exact .inr ⟨rfl,fun q=>g2 q.2.1⟩
 ·rw[h1,bs,zG]
  exact .inr ⟨rfl,fun q=>h2 q.2.2⟩
end Go.Pl

namespace Go.Pl
open Go Go.Ab Go.Wk
abbrev Mx:=List (List Int)
def mkv(D:Nat)(f:Nat→Int):List Int:=(Jz D).map f
theorem wK(D:Nat)(f:Nat→Int):(mkv D f).length=D:=by simp[mkv]
theorem zAr{D:Nat}{f:Nat→Int}{i:Nat}(h:i<D):(mkv D f)[i]? =df (f i):=by simp[mkv,h]
theorem zKA{D:Nat}{f:Nat→Int}{i:Nat}(h:i<D):at0 (mkv D f) i=f i:=by rw[at0,J4,zAr h];rfl
theorem zIV{D:Nat}{f g:Nat→Int}(h:∀i,i<D→f i=g i):mkv D f=mkv D g:=by grind[mkv,Gu]
theorem zMA{D:Nat}{f:Nat→Int}{j:Nat}{a:Int}:(mkv D f).set j a=mkv D (fun i=>if i=j then a else f i):=by
 apply L0;intro i;rw[Ux,wK]
 by_cases hi:i<D
 ·by_cases hij:j=i
  ·subst hij;rw[if_pos rfl,if_pos hi,zAr hi,if_pos rfl]
  ·rw[if_neg hij,zAr hi,zAr hi,if_neg fun h=>hij h.symm]
 ·have h1:∀g:Nat→Int,(mkv D g)[i]? =dg:=by grind[wK]
  grind
theorem zO7{v:List Int}{D:Nat}(h:v.length=D):v=mkv D (at0 v):=by
 apply L0;intro i
 by_cases hi:i<D
 ·rw[zAr hi,at0,J4,J5 (by omega)];rfl
 grind[wK]
theorem zKB(D:Nat):J1 D (0:Int)=mkv D (fun _=>0):=by
 apply L0
 grind[zAr,wK]
end Go.Pl

namespace Go.Pl
open Go Go.Ab Go.Wk Go.Pc
end Go.Pl

namespace Go.Pl
open Go Go.Ab Go.Wk Go.Pc
end Go.Pl

namespace Go.Pl
open Go Go.Ab Go.Wk Go.Pc
end Go.Pl

namespace Go.Pl
open Go Go.Ab Go.Wk Go.Pc
theorem zE6{xs:List (List Int)}{i:Nat}(h:i<xs.length):(xs.take (i+1)).flatten=(xs.take i).flatten++xs.getD i []:=by grind[Kh]
theorem zIw{xs:List (List Int)}(i:Nat):(xs.take i).flatten.length≤xs.flatten.length:=by grind[H9]
theorem zIW{k:Nat}(hk:k≤1000000):zL1 (k:Int)=df []:=by
 unfold zL1;rw[dj (by omega),zG,zD (by decide) (by decide),bs,zD (by omega) (by omega),bs]
 by_cases h:(k:Int)-(0-0)> 0
 ·rw[dl h,zH]
  have e:xC ([]:List Int) ((k:Int)-(0-0)) 0=df (J1 k 0):=by
   unfold xC
   grind
  rw[e,bs];rfl
 grind
theorem zGy{xs:List (List Int)}(hx:xs.length≤1000)(hf:xs.flatten.length≤1000000):f_v xs=df xs.flatten:=by
 unfold f_v;have l1:=zX (body:=zL2 xs) (r:=((xs.flatten.length:Nat):Int)) (fun i=>((((xs.take i).flatten.length:Nat):Int),(i:Int))) xs.length (fun i hi=>by
  have h1:=zE6 hi;have h2:=zIw (xs:=xs) (i+1);have h3:=congrArg Qi h1;rw[Je]at h3;unfold zL2;simp only
  rw[xR hi,zH,wN [] hi,bs,zD (by omega) (by omega),bs,dj (by omega),zG,zD (by omega) (by omega),bs,cs,h3]
  congr 3) (by
  unfold zL2;simp)
 rw[show((0:Nat):Int)=0 from rfl]at l1;simp only[Lp,List.flatten_nil,Qh]at l1;rw[show((0:Nat):Int)=0 from rfl]at l1;rw[l1,bs,zIW hf,bs];have l2:=zX (body:=zL3 xs) (r:=xs.flatten) (fun i=>((xs.take i).flatten,(i:Int))) xs.length (fun i hi=>by
  have h1:=zE6 hi;have h2:=zIw (xs:=xs) (i+1);have h3:=congrArg Qi h1;rw[Je]at h3;unfold zL3;simp only
  rw[xR hi,zH,wN [] hi,bs,yX (by omega),bs,zD (by omega) (by omega),bs,cs,h1]) (by
  unfold zL3;simp)
 grind
theorem zGz{r:List Int}{a b:Nat}(hr:r.length≤1000)(ha:a≤1000)(hb:b≤1000):zJj r (a:Int) (b:Int)=df (J1 a 0++(r++J1 b 0)):=by grind[zJj,yI,zGy]
end Go.Pl

namespace Go.Pl
open Go Go.Ab Go.Wk Go.Pc
end Go.Pl

namespace Go.Pl
open Go Go.Ab Go.Wk Go.Pc
end Go.Pl

namespace Go.Pl
open Go Go.Ab Go.Wk Go.Pc
end Go.Pl

namespace Go.Pl
open Go Go.Ab Go.Wk Go.Pc
theorem IsB.both{o o':Option Bool}{P:Prop}(h:IsB o P)(h':IsB o' P):(o=df dh∧o'=df dh∧P)∨(o=df di∧o'=df di∧ ¬P):=by
 rcases h with⟨h1,h2⟩|⟨h1,h2⟩<;>rcases h' with⟨h3,h4⟩|⟨h3,h4⟩
 all_goals grind
end Go.Pl

namespace Go.Pl
open Go Go.Ab Go.Wk Go.Pc
end Go.Pl

namespace Go.Pl
open Go Go.Ab Go.Wk Go.Pc
end Go.Pl

namespace Go.Pl
open Go Go.Ab Go.Wk Go.Pc
end Go.Pl

namespace Go.Pl
open Go Go.Ab Go.Wk Go.Pc
theorem zAS{v:List Int}(h:v.length≤1000000):f_q v=df v:=by grind[f_q,yX]
end Go.Pl

namespace Go.Pl
open Go Go.Ab Go.Wk Go.Pc
end Go.Pl

namespace Go.Pl
open Go Go.Ab Go.Wk Go.Pc
end Go.Pl

namespace Go.Pl
open Go Go.Ab Go.Wk Go.Pc
end Go.Pl

namespace Go.Pl
open Go Go.Ab Go.Wk Go.Pc
end Go.Pl

namespace Go.Pl
open Go Go.Ab Go.Wk Go.Pc
theorem zG0{β:Type}{body:List β×Int→Option ((List β×Int)⊕List β)}(n:Nat)(F:Nat→β)(h:∀i acc,i<n→acc.length=i→body (acc,(i:Int))=df (.inl (acc++[F i],((i+1:Nat):Int))))(he:∀acc,body (acc,(n:Int))=df (.inr acc)):
  zC body ([],0)=df ((Jz n).map F):=by
 have:=zX (body:=body) (r:=(Jz n).map F) (fun i=>((Jz i).map F,(i:Int))) n (by grind[Hm]) (he _);exact this
def uI(D k:Nat):List Int:=mkv D fun j=>if j=k then 1 else 0
theorem jS{D k:Nat}(hk:k<D)(hD:D≤1000000):zGG (D:Int) (k:Int)=df (uI D k):=by grind[zGG,yI,yR,zKB,zMA,uI]
end Go.Pl

namespace Go.Pl
open Go Go.Ab Go.Wk Go.Pc
abbrev gl{β:Type}(m:Nat)(F:Nat→β):List β:=(Jz m).map F
theorem sV{β:Type}{m:Nat}{F:Nat→β}:(gl m F).length=m:=by simp[gl]
theorem zQ0{β:Type}{m:Nat}{F:Nat→β}{i:Nat}(h:i<m):ixO (gl m F) (i:Int)=df (F i):=by rw[tJ (by grind)];simp[gl]
theorem zDA{β:Type}{m:Nat}{F G:Nat→β}(h:∀i,i<m→F i=G i):gl m F=gl m G:=by grind[Gu]
theorem zO8{β:Type}{m:Nat}{F:Nat→β}{i:Nat}{a:β}:(gl m F).set i a=gl m (fun k=>if k=i then a else F k):=by
 apply L0
 grind
theorem jN{β:Type}{m:Nat}{F:Nat→β}:gl m F++[F m]=gl (m+1) F:=by simp[gl,Hm]
def unC(N i:Nat):Mx:=gl (N-1-i) fun j=>uI N (i+1+j)
end Go.Pl

namespace Go.Pl
open Go Go.Ab Go.Wk Go.Pc
theorem zIX{O:List Int}{N:Nat}(hO:O.length=N)(hN:N≤100):f_p O=df ⟨O,gl N (fun _=>J1 N 0),gl N (unC N)⟩:=by
 have gT:∀i,i<N→zC (zJk O) ([],((i+1:Nat):Int))=df (unC N i):=fun i hi=>by
  have:=zX (body:=zJk O) (r:=unC N i) (fun j=>(gl j fun j=>uI N (i+1+j),((i+1+j:Nat):Int))) (N-1-i) (fun j hj=>by
   unfold zJk;simp only
   rw[hO,xR (by omega),zH,jS (by omega) (by omega),bs,yX (by grind),bs,zD (by omega) (by omega),bs,cs,jN (F:=fun j=>uI N (i+1+j))];rfl) (by
   unfold zJk;simp only
   rw[hO,show i+1+(N-1-i)=N from by omega,tK,zG,unC])
  exact this
 have:=zX (body:=zJl O) (r:=(gl N (fun _=>J1 N 0),gl N (unC N))) (fun i=>(gl i (fun _=>J1 N (0:Int)),gl i (unC N),((i:Nat):Int))) N (fun i hi=>by
  unfold zJl;simp only
  rw[hO,xR hi,zH,yI (by omega),bs,yX (by grind),bs,zD (by omega) (by omega),bs,cs,gT i hi,bs,yX (by rw[sV];simp;omega),bs,bs,jN (F:=unC N),jN (F:=fun _=>J1 N (0:Int))]) (by
  unfold zJl
  grind)
 unfold f_p;rw[zAS (by omega),bs]
 grind
end Go.Pl

namespace Go.Pl
open Go Go.Ab Go.Wk Go.Pc
theorem zIx{α:Type}{c:α→Nat}{b:Nat}:∀{xs:List α},(∀x∈xs,c x≤b)→sm c xs≤xs.length*b
 | [],_=>by simp[sm]
 |x::xs,h=>by
  have h1:=zIx (xs:=xs) fun y hy=>h y (by simp[hy])
  grind[sm,Kl]
end Go.Pl

namespace Go.Pl
open Go Go.Ab Go.Wk Go.Pc
def zG1(x:SPr):Nat:=c1 x.zA+sm c1 x.zV+sm (sm c1) x.zB
def zIy(x:SPr)(k:Int):SPr:=⟨m1 k x.zA,m2 (k+c1 x.zA) x.zV,m3 (k+c1 x.zA+sm c1 x.zV) x.zB⟩
theorem zC5{x:SPr}(h:uG x):zG1 x≤3145728:=by
 obtain⟨h1,h2,h3⟩:=h;have g2:=zK5 (x:=x.zV)
 grind[zO4,zG1]
theorem tD{x:SPr}{k:Int}(h:uG x)(k0:0≤k)(k1:k≤1000000000):zL6 x k=df (k+zG1 x,zIy x k):=by
 have ht:=zC5 h;simp only[zG1]at ht;unfold zL6;rw[zDx h.1 k0 (by omega),bs,zCj h.2.1 (by omega) (by omega),bs,zFh h.2.2 (by omega) (by omega),bs]
 grind[zG1,zIy]
theorem zBR{x:SPr}{k:Int}(h:uG x)(k0:0≤k)(k1:k≤1000000000):zLB (zIy x k) k=df (k+zG1 x):=by
 have ht:=zC5 h;simp only[zG1]at ht;unfold zLB zIy;simp only
 rw[zDy h.1 k0 (by omega),bs,dj (by omega),zG,zCk h.2.1 (by omega) (by omega),bs,dj (by omega),zG,zFi h.2.2 (by omega) (by omega),bs,dj (by omega),zG]
 grind[zG1]
end Go.Pl

namespace Go.Pl
open Go Go.Ab Go.Wk Go.Pc
end Go.Pl

namespace Go.Pl
open Go Go.Ab Go.Wk Go.Pc
end Go.Pl

namespace Go.Pl
open Go Go.Ab Go.Wk Go.Pc
end Go.Pl

namespace Go.Pl
open Go Go.Ab Go.Wk Go.Pc
end Go.Pl

namespace Go.Pl
open Go Go.Ab Go.Wk Go.Pc
end Go.Pl

namespace Go.Pl
open Go Go.Ab Go.Wk Go.Pc
end Go.Pl

namespace Go.Pl
open Go Go.Ab Go.Wk Go.Pc
end Go.Pl

namespace Go.Pl
open Go Go.Ab Go.Wk Go.Pc
end Go.Pl

namespace Go.Pl
open Go Go.Ab Go.Wk Go.Pc
end Go.Pl

namespace Go.Pl
open Go Go.Ab Go.Wk Go.Pc
end Go.Pl

namespace Go.Pl
open Go Go.Ab Go.Wk Go.Pc
end Go.Pl

namespace Go.Pl
open Go Go.Ab Go.Wk Go.Pc
end Go.Pl

namespace Go.Pl
open Go Go.Ab Go.Wk Go.Pc
theorem zG2{α:Type}{f:α→α}{a:α}(h:f a=a):∀k,iter k f a=a
 |0=>rfl
 |k+1=>by show iter k f (f a)=a;rw[h];exact zG2 h k
theorem zBS{x:SPr}(h:Pres x):∀(d k:Nat),k+d=x.zA.length→xD (suf x k)→ ∀m,d+1≤m→ ∀v,V (suf x k) v→ ∃w,V (suf x k) w∧mul (suf x k) v w=zeros (suf x k).length∧zH6 m x k (fv k v)=df (fv k w)
 |0,k,hk,_,m,hm,v,hv=>by
  have h6:=h.os.1;obtain⟨m,rfl⟩:∃m',m=m'+1:=⟨m-1,by omega⟩;rw[tL (by omega)]at hv ⊢
  obtain rfl:v=[]:=hv;refine⟨[],rfl,rfl,?_⟩;show b_f _ x k _=_;unfold b_f;rw[dl (by omega),zH,yI (by omega),bs]
  simp_all[zeros]
 |d+1,k,hkd,hc,m,hm,v,hv=>by
  have h6:=h.os.1;obtain⟨m,rfl⟩:∃m',m=m'+1:=⟨m-1,by omega⟩;have hk:k<x.zA.length:=by omega
  have ca:=(h.os.2 k hk).pos;have hcQ:xD (suf x (k+1)):=kZ hc 1;have ih:=zBS h d (k+1) (by omega) hcQ m (by omega);have G:=zAa h (by omega) hc;have GQ:=zAa h (by omega) hcQ;have okP:=h.okAt (k:=k) (by omega);have okQ:=h.okAt (k:=k+1) (by omega);have fh:=zBP h (by omega) hv;have ft:=yP x (k+1);obtain⟨w1,w2⟩:=zO6 h hk;rw[yG hk]at hv G okP;obtain⟨a,r,rfl⟩:∃a r,v=a::r:=by
   cases v with
   |nil=>exact hv.elim
   |cons a r=>simp
  have ec:(lvl x k).o=at0 x.zA k:=rfl;obtain⟨⟨a0,a1⟩,hr⟩:=hv;rw[ec]at a1;obtain⟨r',bA,hmr,fS⟩:=ih r hr;have hz:V (suf x (k+1)) (zeros (suf x (k+1)).length):=wE okQ;have hzc:zeros (lvl x k::suf x (k+1)).length=0::zeros (suf x (k+1)).length:=rfl;have mo:∀(c:Int)(u:Vec),0≤c→c<at0 x.zA k→V (suf x (k+1)) u→V (lvl x k::suf x (k+1)) (c::u):=fun c u h0 h1 hu=>⟨⟨h0,h1⟩,hu⟩
  have e2:mul (lvl x k::suf x (k+1)) (0::r) (0::r')=zeros (lvl x k::suf x (k+1)).length:=by
   rw[yC,ec,if_neg (by omega),hzc]
   grind[iter]
  show∃w,_∧_∧b_f (zH6 m) x k (fv k (a::r))=df (fv k w);unfold b_f;rw[dj (by omega),zG,vZ (by omega),bs,zD6,bs,zD (by omega) (by omega),bs,cs,Jj,zCo,sU,show zeros (k+1)++r=fv (k+1) r from rfl,fS,bs,bs];rw[yG hk]
  by_cases ha:a=0
  ·subst ha
   rw[show((0:Int)==0)=dh from rfl,zH];exact⟨0::r',by grind,e2,by rw[fv,←sU]⟩
  ·rw[show(a==0)=di from by grind,zG,yI (by omega),bs,yR hk,bs,bs,zD (by omega) (by omega),bs,yT,Js,if_pos hk,bs]
   have fW:(J1 x.zA.length (0:Int)).set k (at0 x.zA k-a)=zeros k++(at0 x.zA k-a)::zeros (suf x (k+1)).length:=by
    have e:J1 x.zA.length (0:Int)=zeros k++0::zeros (x.zA.length-(k+1)):=by simp only[zeros];rw[←K5,Jq];congr 1;omega
    grind[zCo]
   obtain⟨w',ew,hmw,hfw⟩:=ih (lvl x k).w w2;have hA:=mo a _ a0 a1 hz;have hR:=mo 0 r (by omega) (by omega) hr;have hR':=mo 0 r' (by omega) (by omega) bA;have hT:=mo (at0 x.zA k-a) _ (by omega) (by omega) hz;have hW:=mo 0 (lvl x k).w (by omega) (by omega) w2;have pO:=mo 0 w' (by omega) (by omega) ew;have gp:sig (suf x (k+1)) (lvl x k) (zeros (suf x (k+1)).length)=zeros (suf x (k+1)).length:=by grind[sig,qM]
   have e1:mul (lvl x k::suf x (k+1)) (a::zeros (suf x (k+1)).length) (0::r)=a::r:=by rw[yC,ec,if_neg (by omega),show iter (0:Int).toNat (sig (suf x (k+1)) (lvl x k)) (zeros (suf x (k+1)).length)=zeros (suf x (k+1)).length from rfl,GQ.onel hr,H5]
   have e3:mul (lvl x k::suf x (k+1)) (a::zeros (suf x (k+1)).length) ((at0 x.zA k-a)::zeros (suf x (k+1)).length)=0::(lvl x k).w:=by
    rw[yC,ec,if_pos (by omega),zG2 gp,GQ.oner hz,GQ.oner w2]
    grind
   have e4:mul (lvl x k::suf x (k+1)) (0::(lvl x k).w) (0::w')=zeros (lvl x k::suf x (k+1)).length:=by
    rw[yC,ec,if_neg (by omega),hzc]
    grind[iter]
   have aZ:=G.cl hR' hT;have br:=G.cl aZ pO;have spA:=zBu h (k:=k) (by omega);rw[fW,show fv (k+1) r'=zeros k++0::r' from by rw[sU],spA _ _ (by grind[yG]) (by grind[yG]),bs,bs,w1,bs,hfw,bs,show fv (k+1) w'=zeros k++0::w' from by rw[sU],yG hk];have:=spA _ _ (by rw[yG hk];exact aZ) (by rw[yG hk];exact pO);rw[yG hk]at this;rw[this,bs];refine⟨_,br,?_,rfl⟩;rw[←e1,G.assoc hA hR br,←G.assoc hR aZ pO,←G.assoc hR hR' hT,e2,G.onel hT,←G.assoc hA hT pO,e3,e4]
theorem zKC{x:SPr}(h:Pres x)(hc:xD (suf x 0)){v:Vec}(hv:V (suf x 0) v):∃w,V (suf x 0) w∧mul (suf x 0) v w=zeros (suf x 0).length∧zL9 x v=df w:=by obtain⟨w,h1,h2,_⟩:=zBS h x.zA.length 0 (by omega) hc (x.zA.length+1) (by omega) v hv;refine⟨w,h1,h2,?_⟩;unfold zL9 f_f;rw[kT (r:=w) (x.zA.length+1) fun m hm=>?_,bs];obtain⟨w',g1,g2,g3⟩:=zBS h x.zA.length 0 (by omega) hc m hm v hv;have G:=zAa h (by omega) hc;have e:w=w':=G.cancel_l hv h1 g1 (by rw[h2,g2]);rw[e];exact g3
end Go.Pl

namespace Go.Pl
open Go Go.Ab Go.Wk Go.Pc
end Go.Pl

namespace Go.Pl
open Go Go.Ab Go.Wk Go.Pc
end Go.Pl

namespace Go.Pl
open Go Go.Ab Go.Wk Go.Pc
def zFl(n D:Nat)(v:List Int):Mx:=gl n fun i=>mkv D fun j=>at0 v (i*D+j)
theorem zKD{v:List Int}{D a:Nat}(h:a+D≤v.length):(v.drop a).take D=mkv D fun j=>at0 v (a+j):=by
 have hl:((v.drop a).take D).length=D:=by grind
 rw[zO7 hl]
 grind[zIV]
theorem zE7{v:List Int}{D a:Nat}(h:a+D≤v.length):zS v (a:Int) ((a+D:Nat):Int)=df (mkv D fun j=>at0 v (a+j)):=by unfold zS;rw[if_pos (by omega),Jj,Jj,Nat.add_sub_cancel_left,zKD h]
end Go.Pl

namespace Go.Pl
open Go Go.Ab Go.Wk Go.Pc
end Go.Pl

namespace Go.Pl
open Go Go.Ab Go.Wk Go.Pc
theorem zMB{n D i:Nat}(hi:i<n):i*D+D≤n*D:=by
 have:=Jp D (show i+1≤n by omega)
 grind
theorem zHt{n D:Nat}(hD:1≤D){v:List Int}(hl:v.length=n*D)(hs:n*D≤100000):f_D v (D:Int)=df (zFl n D v):=by
 have hn:n≤n*D:=Nat.le_mul_of_pos_right n hD;have:=zX (body:=zLA v (D:Int)) (r:=zFl n D v) (fun i=>(gl i fun i=>mkv D fun j=>at0 v (i*D+j),((i*D:Nat):Int))) n (fun i hi=>by
  have h1:=zMB (D:=D) hi;unfold zLA;simp only
  rw[dl (by omega),zH,←Lk,zD (by omega) (by omega),bs,zE7 (by omega),bs,zAS (by grind[wK]),bs,yX (by rw[sV];simp;omega),bs,bs,jN,←Kl]) (by
  unfold zLA;simp only
  rw[dj (by omega),zG];rfl)
 grind[f_D]
end Go.Pl

namespace Go.Pl
open Go Go.Ab Go.Wk Go.Pc
end Go.Pl

namespace Go.Pl
open Go Go.Ab Go.Wk Go.Pc
end Go.Pl

namespace Go.Pl
open Go Go.Ab Go.Wk Go.Pc
end Go.Pl

namespace Go.Pl
open Go Go.Ab Go.Wk Go.Pc
end Go.Pl

namespace Go.Pl
open Go Go.Ab Go.Wk Go.Pc
end Go.Pl

namespace Go.Pl
open Go Go.Ab Go.Wk Go.Pc
end Go.Pl

namespace Go.Pl
open Go Go.Ab Go.Wk Go.Pc
end Go.Pl

namespace Go.Pl
open Go Go.Ab Go.Wk Go.Pc
end Go.Pl

namespace Go.Pl
open Go Go.Ab Go.Wk Go.Pc
end Go.Pl

namespace Go.Pl
open Go Go.Ab Go.Wk Go.Pc
end Go.Pl

namespace Go.Pl
open Go Go.Ab Go.Wk Go.Pc
end Go.Pl

namespace Go.Pl
open Go Go.Ab Go.Wk Go.Pc
end Go.Pl

namespace Go.Pl
open Go Go.Ab Go.Wk Go.Pc
end Go.Pl

namespace Go.Pl
open Go Go.Ab Go.Wk Go.Pc
end Go.Pl

namespace Go.Pl
open Go Go.Ab Go.Wk Go.Pc
end Go.Pl

namespace Go.Pl
open Go Go.Ab Go.Wk Go.Pc
end Go.Pl

namespace Go.Pl
open Go Go.Ab Go.Wk Go.Pc
end Go.Pl

namespace Go.Pl
open Go Go.Ab Go.Wk Go.Pc
end Go.Pl

namespace Go.Pl
open Go Go.Ab Go.Wk Go.Pc
end Go.Pl

namespace Go.Pl
open Go Go.Ab Go.Wk Go.Pc
end Go.Pl

namespace Go.Pl
open Go Go.Ab Go.Wk Go.Pc
end Go.Pl

namespace Go.Pl
open Go Go.Ab Go.Wk Go.Pc
end Go.Pl

namespace Go.Pl
open Go Go.Ab Go.Wk Go.Pc
end Go.Pl

namespace Go.Pl
open Go Go.Ab Go.Wk Go.Pc
end Go.Pl

namespace Go.Pl
open Go Go.Ab Go.Wk Go.Pc
end Go.Pl

namespace Go.Pl
open Go Go.Ab Go.Wk Go.Pc
end Go.Pl

namespace Go.Pl
open Go Go.Ab Go.Wk Go.Pc
end Go.Pl

namespace Go.Pl
open Go Go.Ab Go.Wk Go.Pc
end Go.Pl

namespace Go.Pl
open Go Go.Ab Go.Wk Go.Pc
end Go.Pl

namespace Go.Pl
open Go Go.Ab Go.Wk Go.Pc
end Go.Pl

namespace Go.Pl
open Go Go.Ab Go.Wk Go.Pc
end Go.Pl

namespace Go.Pl
open Go Go.Ab Go.Wk Go.Pc
end Go.Pl

namespace Go.Pl
open Go Go.Ab Go.Wk Go.Pc
end Go.Pl

namespace Go.Pl
open Go Go.Ab Go.Wk Go.Pc
end Go.Pl

namespace Go.Pl
open Go Go.Ab Go.Wk Go.Pc
end Go.Pl

namespace Go.Pl
open Go Go.Ab Go.Wk Go.Pc
end Go.Pl

namespace Go.Pl
open Go Go.Ab Go.Wk Go.Pc
end Go.Pl

namespace Go.Pl
open Go Go.Ab Go.Wk Go.Pc
end Go.Pl

namespace Go.Pl
open Go Go.Ab Go.Wk Go.Pc
end Go.Pl

namespace Go.Pl
open Go Go.Ab Go.Wk Go.Pc
end Go.Pl

namespace Go.Pl
open Go Go.Ab Go.Wk Go.Pc
end Go.Pl

namespace Go.Pl
open Go Go.Ab Go.Wk Go.Pc
end Go.Pl

namespace Go.Pl
open Go Go.Ab Go.Wk Go.Pc
end Go.Pl

namespace Go.Pl
open Go Go.Ab Go.Wk Go.Pc
end Go.Pl

namespace Go.Pl
open Go Go.Ab Go.Wk Go.Pc
end Go.Pl

namespace Go.Pl
open Go Go.Ab Go.Wk Go.Pc
end Go.Pl

namespace Go.Pl
open Go Go.Ab Go.Wk Go.Pc
end Go.Pl

namespace Go.Pl
open Go Go.Ab Go.Wk Go.Pc
end Go.Pl

namespace Go.Pl
open Go Go.Ab Go.Wk Go.Pc
end Go.Pl

namespace Go.Pl
open Go Go.Ab Go.Wk Go.Pc
theorem zDB{x:SPr}(hx:zGm x){body:Int×Int→Option ((Int×Int)⊕Int)}
  (hb:∀s:Int×Int,body s=cond (decide (s.2<(x.zA.length:Int))) ((ixO x.zA s.2).bind fun v1=>(rng (s.1*v1)).bind fun v2=>(rng (s.2+1)).bind fun v3=>df (.inl (v2,v3))) (df (.inr s.1))):zC body (1,0)=df (pr x.zA x.zA.length):=by
 have h6:=hx.n6;have hP:∀j,j<x.zA.length→uH (at0 x.zA j):=fun j hj=>hx.os.2 j hj
 exact zX (body:=body) (r:=pr x.zA x.zA.length) (fun i=>(pr x.zA i,(i:Int))) x.zA.length (fun i hi=>by
  have e1:=zFj hP (x.zA.length-(i+1)) (by omega);rw[show x.zA.length-(x.zA.length-(i+1))=i+1 from by omega]at e1;have e2:=sT (os:=x.zA) (i:=i+1) (by grind);have e3:=hx.pr;simp only[pr]at e1 e2;rw[hb];simp only
  rw[xR hi,zH,yR hi,bs,zD (n:=pr x.zA i*at0 x.zA i) (by omega) (by omega),bs,zD (by omega) (by omega),bs];rfl) (by
  grind)
end Go.Pl

namespace Go.Pl
open Go Go.Ab Go.Wk Go.Pc
end Go.Pl

namespace Go.Pl
open Go Go.Ab Go.Wk Go.Pc
end Go.Pl

namespace Go.Pl
open Go Go.Ab Go.Wk Go.Pc
end Go.Pl

namespace Go.Pl
open Go Go.Ab Go.Wk Go.Pc
end Go.Pl

namespace Go.Pl
open Go Go.Ab Go.Wk Go.Pc
end Go.Pl

namespace Go.Pl
open Go Go.Ab Go.Wk Go.Pc
end Go.Pl

namespace Go.Pl
open Go Go.Ab Go.Wk Go.Pc
end Go.Pl

namespace Go.Pl
open Go Go.Ab Go.Wk Go.Pc
end Go.Pl

namespace Go.Pl
open Go Go.Ab Go.Wk Go.Pc
theorem fv0(v:Vec):fv 0 v=v:=by simp[zeros]
section
variable {x:SPr} (h:Pres x) (hc:xD (suf x 0))
 include h hc
theorem g0:Grp (V (suf x 0)) (mul (suf x 0)) (zeros (suf x 0).length):=zAa h (by omega) hc
theorem ok0:Pc.Ok (suf x 0):=by have _:=hc;exact h.okAt (by omega)
theorem zRu{a b:Vec}(ha:V (suf x 0) a)(hb:V (suf x 0) b):zH4 x a b=df (mul (suf x 0) a b):=by have:=zA4 h (k:=0) (by omega) hc ha hb;simpa only[fv0]using this
theorem zIz{a b:Vec}(ha:V (suf x 0) a)(hb:V (suf x 0) b):zH7 x a b=df (mul (suf x 0) a b):=by have _:=hc;have:=zBu h (k:=0) (by omega) a b ha hb;unfold zH7;rw[show f_a x 0 a b=df (mul (suf x 0) a b)from by simpa[zeros]using this,bs]
theorem zQ1{c:Vec}(fc:V (suf x 0) c){e:Int}(e0:0≤e)(e1:e≤1000):f_x x 0 c e=df (pw (mul (suf x 0)) (zeros (suf x 0).length) c e.toNat):=by
 have h6:=h.os.1;have ok:=ok0 h hc;have G:=g0 h hc;have hA:∀a b,V (suf x 0) a→V (suf x 0) b→f_a x 0 a b=df (mul (suf x 0) a b):=fun a b ha hb=>by have:=zBu h (k:=0) (by omega) a b ha hb;simpa[zeros]using this
 have pwV:∀a,V (suf x 0) (pw (mul (suf x 0)) (zeros (suf x 0).length) c a):=fun a=>wL G.toMon fc a
 unfold f_x;rw[yI (by omega),bs,zGr h (k:=0) (by omega),fv0];obtain⟨r,r1,r2⟩:=qZ (body:=zJg x 0) (Q:=fun r=>r=pw (mul (suf x 0)) (zeros (suf x 0).length) c e.toNat)
  (fun s=> ∃(m a q:Nat),s=((m:Int),pw (mul (suf x 0)) (zeros (suf x 0).length) c a,pw (mul (suf x 0)) (zeros (suf x 0).length) c q)∧a+q*m=e.toNat∧m≤1000) (fun s=>s.1.toNat) (fun s hs=>by
   obtain⟨m,a,q,rfl,he,hm⟩:=hs;unfold zJg;simp only
   by_cases hm0:m=0
   ·right
    subst hm0;rw[show decide (((0:Nat):Int)> 0)=di from rfl,zG];refine⟨_,rfl,?_⟩;rw[←he,Nat.mul_zero];rfl
   ·left
    have hr:wF (m:Int) 2=df ((m%2:Nat):Int):=by unfold wF;rw[if_neg (by decide),Lm (by omega)];rfl
    have hq:wA (m:Int) 2=df ((m/2:Nat):Int):=by unfold wA;rw[if_neg (by decide),Kd (by omega)];rw[zD (by omega) (by omega)];rfl
    have cE:mul (suf x 0) (pw (mul (suf x 0)) (zeros (suf x 0).length) c q) (pw (mul (suf x 0)) (zeros (suf x 0).length) c q)=pw (mul (suf x 0)) (zeros (suf x 0).length) c (q+q):=(zAO G.toMon fc q q).symm;rw[dl (by omega),zH,hr,bs];rcases Hs m with h2|h2
    ·rw[h2,show((((0:Nat):Int))==1)=di from rfl,zG,hA _ _ (pwV q) (pwV q),bs,hq,bs,cE]
     refine⟨_,rfl,⟨m/2,a,q+q,rfl,?_,by omega⟩,by simp only;omega⟩;rw[←he];have:m=m/2+m/2:=by omega
     have e3:(q+q)*(m/2)=q*m:=by rw[Li,←H8,←this]
     omega
    ·rw[h2,show((((1:Nat):Int))==1)=dh from rfl,zH,hA _ _ (pwV a) (pwV q),bs,hA _ _ (pwV q) (pwV q),bs,hq,bs,cE,←zAO G.toMon fc a q]
     refine⟨_,rfl,⟨m/2,a+q,q+q,rfl,?_,by omega⟩,by simp only;omega⟩;rw[←he];have:m=m/2+m/2+1:=by omega
     have e3:(q+q)*(m/2)+q=q*m:=by
      have e4:q*m=q*(m/2+m/2+1):=by rw[←this]
      rw[e4,H8,H8,Ur,Li]
     omega) 1000000 (e,(zeros (suf x 0).length),c) (by simp only;omega) ⟨e.toNat,0,1,by rw[zGZ G.toMon fc,show((e.toNat:Nat):Int)=e from by omega];rfl,by omega,by omega⟩
 rw[r1,bs,r2]
theorem zQ2{c:Vec}(fc:V (suf x 0) c){e:Int}(e0:0≤e)(e1:e≤1000):zLC x c e=df (pw (mul (suf x 0)) (zeros (suf x 0).length) c e.toNat):=by unfold zLC;rw[dj (by omega),zG,zQ1 h hc fc e0 e1,bs]
theorem zQ3:Fil (V (suf x 0)) (mul (suf x 0)) (zeros (suf x 0).length) x.zA.length (fun d=>at0 x.zA d) (fun v d=>at0 v d):=by
 have F:=fil (ok0 h hc) hc;have hl:(suf x 0).length=x.zA.length:=by rw[yP];omega
 have ho:∀d,d<x.zA.length→od (suf x 0) d=at0 x.zA d:=fun d hd=>by unfold od suf;rw[Jf,J5 (by simpa using hd)];simp[lvl]
 exact⟨F.g,fun ha hd=>by have:=F.r ha (by rw[hl];exact hd);rwa [ho _ hd]at this,fun hd=>F.e0 (by rw[hl];exact hd),fun ha hb hh=>F.ex ha hb fun d hd=>hh d (by rw[←hl];exact hd),
  fun ha hb hd hz=>by have:=F.ad ha hb (by rw[hl];exact hd) hz;rw[ho _ hd]at this;exact this⟩
end
end Go.Pl

namespace Go.Pl
open Go Go.Ab Go.Wk Go.Pc
end Go.Pl

namespace Go.Pl
open Go Go.Ab Go.Wk Go.Pc
end Go.Pl

namespace Go.Pl
open Go Go.Ab Go.Wk Go.Pc
end Go.Pl

namespace Go.Pl
open Go Go.Ab Go.Wk Go.Pc
section
variable {x:SPr} (h:Pres x) (hc:xD (suf x 0))
abbrev zRv(x:SPr)(L:Vec→Prop):Vec→Prop:=Gen (V (suf x 0)) (mul (suf x 0)) (zeros (suf x 0).length) L
abbrev zRw(x:SPr)(L:Vec→Prop)(C:Nat→Option Vec):Prop:=Pc.Can (e:=zeros (suf x 0).length) (V (suf x 0)) x.zA.length (fun v j=>at0 v j) (zRv x L) C
 include h hc
end
end Go.Pl

namespace Go.Pl
open Go Go.Ab Go.Wk Go.Pc
end Go.Pl

namespace Go.Pl
open Go Go.Ab Go.Wk Go.Pc
end Go.Pl

namespace Go.Pl
open Go Go.Ab Go.Wk Go.Pc
end Go.Pl

namespace Go.Pl
open Go Go.Ab Go.Wk Go.Pc
theorem zDC{x:SPr}(h:Pres x){k:Int}(k0:0≤k)(k1:k≤1000000):∃e,f_l x k=df e∧f_J x k=df e∧V (suf x 0) e:=by
 have h9:=h.os.1;have hP:=h.os.2;obtain⟨e,e1,e2,e3⟩:=qZ (body:=zBW x) (Q:=fun e=>e.length=x.zA.length∧ ∀j,j<x.zA.length→0≤at0 e j∧at0 e j≤at0 x.zA j-1)
  (fun s=> ∃(q:Int)(e:Vec)(i:Nat),s=(q,e,(i:Int)-1)∧i≤x.zA.length∧0≤q∧q≤1000000∧e.length=x.zA.length∧ ∀j,j<x.zA.length→0≤at0 e j∧at0 e j≤at0 x.zA j-1)
  (fun s=>(s.2.2+1).toNat) (fun s hs=>by
   obtain⟨q,e,i,rfl,hi,q0,q1,he,hr⟩:=hs;unfold zBW;simp only
   cases i with
   |zero=>
    right;rw[show decide (((0:Nat):Int)-1≥0)=di from rfl,zG];exact⟨_,rfl,he,hr⟩
   |succ i=>
    left;have hp:=(hP i (by omega)).pos;have t1:=Int.tmod_nonneg (at0 x.zA i) q0;have t2:=Int.tmod_lt_of_pos q (b:=at0 x.zA i) (by omega);have t3:q.tdiv (at0 x.zA i)=q/at0 x.zA i:=Kd q0;have t4:0≤q/at0 x.zA i:=Us q0 (by omega);have t5:q/at0 x.zA i≤q:=Up _ q0;rw[show(((i+1:Nat):Int)-1)=(i:Int)from by omega,show decide ((i:Int)≥0)=dh from dl (by omega),zH,yR (by omega),bs,wF,if_neg (by omega),bs,wN 0 (by omega),bs,bs,wA,if_neg (by omega),t3,zD (by omega) (by omega),bs,zD (by omega) (by omega),bs,show((i:Nat):Int).toNat=i from rfl];refine⟨_,rfl,⟨_,_,i,rfl,by omega,t4,by omega,by rw[Lq];exact he,fun j hj=>?_⟩,by simp only;omega⟩
    by_cases hji:i=j
    ·subst hji
     rw[at0,J4,Ky (by omega)];simp only[Kc];omega
    ·have:=hr j hj
     rw[at0,J4,Hd hji,←J4];exact this) 1000 (k,J1 x.zA.length 0,(x.zA.length:Int)-1) (by simp only;omega)
   ⟨k,_,x.zA.length,rfl,Jg _,k0,k1,by simp,fun j hj=>by have:=(hP j hj).pos;rw[at0,J4,Js,if_pos hj];simp only[Kc];omega⟩
 refine⟨e,?_,?_,zK7 x.zA.length 0 e (by omega) e2 fun i hi=>by rw[J8];exact e3 i hi⟩
 ·unfold f_l
  rw[yI (by omega),bs,Jk,zD (by omega) (by omega),bs,e1,bs]
 ·unfold f_J zGH
  rw[yI (by omega),bs,bs,Jk,zD (by omega) (by omega),bs,show zPh x=zBW x from rfl,e1,bs]
noncomputable def elv (x:SPr) (k:Nat):Vec:=(f_J x (k:Int)).getD []
theorem uY{x:SPr}(h:Pres x){k:Nat}(k1:k≤1000000):f_l x (k:Int)=df (elv x k)∧f_J x (k:Int)=df (elv x k)∧V (suf x 0) (elv x k):=by
 obtain⟨e,e1,e2,e3⟩:=zDC h (k:=(k:Int)) (by omega) (by omega);have:elv x k=e:=by rw[elv,e2];rfl
 rw[this];exact⟨e1,e2,e3⟩
noncomputable def els (x:SPr) (n:Nat):Mx:=(Jz n).map (elv x)
theorem zKE{x:SPr}{n:Nat}:els x (n+1)=els x n++[elv x n]:=by simp[els,Hm]
theorem zBx{x:SPr}{n:Nat}:(els x n).length=n:=by simp[els]
theorem zBT{x:SPr}(hx:zGm x):∃N:Nat,pr x.zA x.zA.length=(N:Int)∧N≤729∧f_R x=df (N:Int)∧f_t x=df (N:Int)∧f_E x=df (els x N):=by
 have h1:=sT (os:=x.zA) (i:=x.zA.length) (fun j hj=>hx.os.2 j hj);have h2:=hx.pr;obtain⟨N,hN⟩:=Int.eq_ofNat_of_zero_le (a:=pr x.zA x.zA.length) (by omega);rw[hN]at h2;have o1:f_R x=df (N:Int):=by unfold f_R;rw[zDB hx (body:=zPg x) (fun _=>rfl),bs,hN]
 have o2:f_t x=df (N:Int):=by unfold f_t;rw[zDB hx (body:=zPf x) (fun _=>rfl),bs,hN]
 refine⟨N,hN,by omega,o1,o2,?_⟩;have l:=zX (body:=zLD x (N:Int)) (r:=els x N) (fun i=>(els x i,(i:Int))) N (fun i hi=>by
  unfold zLD;rw[show decide ((i:Int)<(N:Int))=dh from dl (by omega),zH,(uY hx.toPres (by omega)).1,bs,yX (by rw[zBx,Ko];omega),bs,zD (by omega) (by omega),bs,zKE];rfl) (by
  unfold zLD;rw[show decide ((N:Int)<(N:Int))=di from dj (by omega),zG])
 unfold f_E;rw[o1,bs];rw[show els x 0=[]from rfl,show((0:Nat):Int)=0 from rfl]at l;rw[l,bs]
end Go.Pl

namespace Go.Pl
open Go Go.Ab Go.Wk Go.Pc
end Go.Pl

namespace Go.Pl
open Go Go.Ab Go.Wk Go.Pc
end Go.Pl

namespace Go.Pl
open Go Go.Ab Go.Wk Go.Pc
end Go.Pl

namespace Go.Pl
open Go Go.Ab Go.Wk Go.Pc
end Go.Pl

namespace Go.Pl
open Go Go.Ab Go.Wk Go.Pc
end Go.Pl

namespace Go.Pl
open Go Go.Ab Go.Wk Go.Pc
noncomputable def gns (x:SPr):Mx:=(Jz x.zA.length).map (uI x.zA.length)
end Go.Pl

namespace Go.Pl
open Go Go.Ab Go.Wk Go.Pc
theorem zNI{x:SPr}(h:Pres x):∀a∈gns x,V (suf x 0) a:=fun a ha=>by
 obtain⟨k,hk,rfl⟩:=J7.1 ha;have hk':=K9.1 hk;refine zK7 x.zA.length 0 _ (by omega) (by simp[uI,mkv]) fun i hi=>?_
 have hp:=(h.os.2 i hi).pos;have e:at0 (uI x.zA.length k) i=if i=k then 1 else 0:=by exact zKA hi
 rw[J8,e];split<;>omega
end Go.Pl

namespace Go.Pl
open Go Go.Ab Go.Wk Go.Pc
end Go.Pl

namespace Go.Pl
open Go Go.Ab Go.Wk Go.Pc
end Go.Pl

namespace Go.Pl
open Go Go.Ab Go.Wk Go.Pc
theorem zG3(a:List Int):∀l:Nat,(∀j,j<l→at0 a j=0)∨ ∃j,j<l∧(∀i,i<j→at0 a i=0)∧at0 a j≠0
 |0=>.inl fun j hj=>by omega
 |l+1=>by
  rcases zG3 a l with h|⟨j,h1,h2⟩
  ·by_cases hl:at0 a l=0
   ·refine .inl fun j hj=>?_
    by_cases hjl:j=l
    ·subst hjl;exact hl
    ·exact h j (by omega)
   ·exact .inr ⟨l,by omega,h,hl⟩
  ·exact .inr ⟨j,by omega,h2⟩
noncomputable def gtb (x:SPr) (k:Nat):Option Vec:=if k<x.zA.length then df (uI x.zA.length k)else dg
section
variable {x:SPr} (h:Pres x) (hc:xD (suf x 0))
 include h hc
theorem zIY:zRw x (· ∈gns x) (gtb x):=by
 have G:=g0 h hc;have F:=zQ3 h hc;have at_:∀{k j},j<x.zA.length→at0 (uI x.zA.length k) j=if j=k then 1 else 0:=fun hj=>zKA hj
 refine⟨fun{k t} hk=>?_,fun{a} ha gf=>?_⟩
 ·by_cases bc:k<x.zA.length
  ·rw[gtb,if_pos bc]at hk
   cases hk;have hm:uI x.zA.length k∈gns x:=J7.2 ⟨k,K9.2 bc,rfl⟩;refine⟨bc,.x hm,zNI h _ hm,fun j hj=>?_,?_,fun j hj cU _=>?_⟩
   ·rw[at_ (by omega),if_neg (by omega)]
   ·rw[at_ bc,if_pos rfl]
   ·rw[at_ cU,if_neg (by omega)]
  ·rw[gtb,if_neg bc]at hk;cases hk
 ·have haV:=ha.in G (zNI h)
  rcases zG3 a x.zA.length with hz|⟨j,h1,h2,h3⟩
  ·exact absurd (F.ex haV G.ein fun d hd=>by rw[F.e0 hd];exact hz d hd) gf
  ·exact⟨j,h1,by rw[gtb,if_pos h1];rfl,h2,h3⟩
end
end Go.Pl

namespace Go.Pl
open Go Go.Ab Go.Wk Go.Pc
end Go.Pl

namespace Go.Pl
open Go Go.Ab Go.Wk Go.Pc GrT
def EA(x:SPr)(_:Pres x∧xD (suf x 0)):Type:={a:Vec // V (suf x 0) a}
variable {x:SPr}{w:Pres x∧xD (suf x 0)}
noncomputable instance:GrT (EA x w) where
 mul a b:=⟨mul (suf x 0) a.1 b.1,(g0 w.1 w.2).cl a.2 b.2⟩
 one:=⟨zeros (suf x 0).length,(g0 w.1 w.2).ein⟩
 inv a:=⟨Classical.choose ((g0 w.1 w.2).invl a.2),(Classical.choose_spec ((g0 w.1 w.2).invl a.2)).1⟩
 as a b c:=Subtype.ext ((g0 w.1 w.2).assoc a.2 b.2 c.2)
 ol a:=Subtype.ext ((g0 w.1 w.2).onel a.2)
 or1 a:=Subtype.ext ((g0 w.1 w.2).oner a.2)
 il a:=Subtype.ext (Classical.choose_spec ((g0 w.1 w.2).invl a.2)).2.2
 ir a:=Subtype.ext (Classical.choose_spec ((g0 w.1 w.2).invl a.2)).2.1
def mkE(w:Pres x∧xD (suf x 0))(a:Vec)(h:V (suf x 0) a):EA x w:=⟨a,h⟩
theorem zRx(a b:EA x w):(a*b).1=mul (suf x 0) a.1 b.1:=rfl
theorem zQ4:(1:EA x w).1=zeros (suf x 0).length:=rfl
theorem zNJ(a:EA x w):∀k,(pg a k).1=pw (mul (suf x 0)) (zeros (suf x 0).length) a.1 k
 |0=>rfl
 |k+1=>by rw[pg,zRx,zNJ a k,Pc.pw,Pc.pw,wG]
theorem zO9:Fil (fun _:EA x w=>True) (· *·) 1 x.zA.length (fun d=>at0 x.zA d) (fun a d=>at0 a.1 d):=by
 have F:=zQ3 w.1 w.2;exact⟨⟨⟨fun _ _=>trivial,trivial,fun _ _ _=>as _ _ _,fun _=>ol _,fun _=>or1 _⟩,fun{a} _=>⟨a⁻¹,trivial,ir a⟩⟩,fun{a d} _ hd=>F.r a.2 hd,fun hd=>F.e0 hd,
  fun{a b} _ _ h=>Subtype.ext (F.ex a.2 b.2 h),fun{a b d} _ _ hd h=>F.ad a.2 b.2 hd h⟩
end Go.Pl

namespace Go.Pl
open Go Go.Ab Go.Wk Go.Pc GrT
variable {x:SPr}{w:Pres x∧xD (suf x 0)}
theorem zKF{q i:Nat}(hq:q=2∨q=3∨q=5∨q=7)(ho:∀d,d<x.zA.length→at0 x.zA d=q)(h:∀a:EA x w,Qm q i a→Qm q (i+1) a)(a:EA x w)(ha:Qm q i a):a=1:=by
 have F:=zO9 (w:=w);have F':Fil (fun _:EA x w=>True) (· *·) 1 x.zA.length (fun _=>(q:Int)) (fun a d=>at0 a.1 d):=⟨F.g,fun{a d} _ hd=>by
  have:=F.r (a:=a) trivial hd
  rwa [ho d hd]at this,F.e0,F.ex,fun{a b d} _ _ hd hz=>by
  have:=F.ad (a:=a) (b:=b) trivial trivial hd hz
  rwa [ho d hd]at this⟩
 refine Classical.byContradiction fun hn=>?_
 obtain⟨b,b1,b2⟩:=zQx F' hq (fun i hi=>by obtain⟨_,_,t3,t4,t5,_⟩:=(zIY w.1 w.2).i (k:=i) (t:=uI x.zA.length i) (by rw[gtb,if_pos hi]);exact⟨mkE w _ t3,t4,t5⟩) (Qm.n q i) ⟨a,ha,hn⟩
 exact b2 (h b b1)
end Go.Pl

namespace Go.Pl
open Go Go.Ab Go.Wk Go.Pc
end Go.Pl

namespace Go.Pl
open Go Go.Ab Go.Wk Go.Pc
end Go.Pl

namespace Go.Pl
open Go Go.Ab Go.Wk Go.Pc
end Go.Pl

namespace Go.Pl
open Go Go.Ab Go.Wk Go.Pc GrT
end Go.Pl

namespace Go.Pl
open Go Go.Ab Go.Wk Go.Pc GrT
end Go.Pl

namespace Go.Pl
open Go Go.Ab Go.Wk Go.Pc GrT
end Go.Pl

namespace Go.Pl
open Go Go.Ab Go.Wk Go.Pc GrT
end Go.Pl

namespace Go.Pl
open Go Go.Ab Go.Wk Go.Pc
end Go.Pl

namespace Go.Pl
open Go Go.Ab
end Go.Pl

namespace Go.Wk
open Go Go.Ab Go.Pl
end Go.Wk
namespace Go.Pl
open Go Go.Ab Go.Wk
end Go.Pl

namespace Go.Pl
open Go Go.Ab Go.Wk Go.Pc
end Go.Pl

namespace Go.Pl
open Go Go.Ab Go.Wk Go.Pc
theorem zQ5{D k:Nat}(hk:k<D)(hD:D≤1000000):zLe (D:Int) (k:Int)=df (uI D k):=jS hk hD
def trv(os:List Int):SPr:=⟨os,gl os.length fun _=>J1 os.length 0,gl os.length fun i=>gl (os.length-1-i) fun j=>uI os.length (i+1+j)⟩
theorem zHu{os:List Int}(h:os.length≤1000000):f_r os=df (trv os):=by
 unfold f_r;rw[vZ h,bs];have gT:∀i:Nat,i<os.length→zC (zLE os) ([],((i+1:Nat):Int))=df (gl (os.length-1-i) fun j=>uI os.length (i+1+j)):=fun i hi=>by
  refine zX (fun j=>(gl j fun j=>uI os.length (i+1+j),((i+1+j:Nat):Int))) (os.length-1-i) (fun j hj=>?_) ?_
  ·unfold zLE
   simp only
   rw[xR (by omega),zH,zQ5 (by omega) h,bs,yX (by rw[sV];simp;omega),bs,zD (by omega) (by omega),bs,cs,jN];rfl
  ·unfold zLE
   simp only
   rw[show decide (((i+1+(os.length-1-i):Nat):Int)<os.length)=di from by simp;omega,zG]
 have:=zX (body:=zH8 os) (r:=((trv os).zV,(trv os).zB)) (fun i=>(gl i fun _=>J1 os.length 0,(gl i fun i=>gl (os.length-1-i) fun j=>uI os.length (i+1+j)),(i:Int))) os.length (fun i hi=>by
  unfold zH8;simp only
  rw[xR hi,zH,yI (by omega),bs,yX (by rw[sV];simp;omega),bs,zD (by omega) (by omega),bs,cs,gT i hi,bs,yX (by rw[sV];simp;omega),bs,bs,jN,jN (F:=fun i=>gl (os.length-1-i) fun j=>uI os.length (i+1+j))]) (by
  unfold zH8;simp only
  rw[tK,zG];rfl)
 rw[show zC (zH8 os) ([],[],0)=df ((trv os).zV,(trv os).zB)from this,bs];rfl
theorem zKG{α:Type}{v:List α}{d:α}{i:Nat}(h:i<v.length):v.getD i d∈v:=by grind
end Go.Pl

namespace Go.Pl
open Go Go.Ab Go.Wk Go.Pc
end Go.Pl

namespace Go.Pl
open Go Go.Ab Go.Wk Go.Pc
end Go.Pl

namespace Go.Pl
open Go Go.Ab Go.Wk Go.Pc
end Go.Pl

namespace Go.Pl
open Go Go.Ab Go.Wk Go.Pc
end Go.Pl

namespace Go.Pl
open Go Go.Ab Go.Wk Go.Pc
end Go.Pl

namespace Go.Pl
open Go Go.Ab Go.Wk Go.Pc
end Go.Pl

namespace Go.Pl
open Go Go.Ab Go.Wk Go.Pc
end Go.Pl

namespace Go.Pl
open Go Go.Ab Go.Wk Go.Pc
end Go.Pl

namespace Go.Pl
open Go Go.Ab Go.Wk Go.Pc
end Go.Pl

namespace Go.Pl
open Go Go.Ab Go.Wk Go.Pc
end Go.Pl

namespace Go.Pl
open Go Go.Ab Go.Wk Go.Pc
end Go.Pl

namespace Go.Pl
open Go Go.Ab Go.Wk Go.Pc
section
variable {x:SPr} (h:Pres x)
 include h
def wQ(x:SPr)(y:Vec):Nat→Nat
 |0=>0
 |i+1=>wQ x y i*(at0 x.zA i).toNat+(at0 y i).toNat
 omit h in
theorem zC6{y:Vec}(hy:∀i,i<x.zA.length→0≤at0 y i∧at0 y i<at0 x.zA i):∀i,i≤x.zA.length→(wQ x y i:Int)<pr x.zA i
  |0,_=>by show(0:Int)<1;decide
  |i+1,hi=>by have ih:=zC6 hy i (by omega);have h1:=hy i (by omega);have e:pr x.zA (i+1)=pr x.zA i*at0 x.zA i:=rfl;have h2:((wQ x y i:Int)+1)*at0 x.zA i≤pr x.zA i*at0 x.zA i:=Int.mul_le_mul_of_nonneg_right (by omega) (by omega);rw[Gy,Gw]at h2;simp only[wQ,Lk,L1,e];rw[K1 (by omega),K1 (by omega)];omega
theorem zKH{y:Vec}(hy:V (suf x 0) y){N:Nat}(hN:pr x.zA x.zA.length=(N:Int))(gc:N≤1000000):∃k,k<N∧elv x k=y:=by
 have h9:=h.os.1;obtain⟨q1,q2⟩:=zAx h.os x.zA.length 0 y (by omega) hy;have hd:∀i,i<x.zA.length→0≤at0 y i∧at0 y i<at0 x.zA i:=fun i hi=>by have:=q2 i hi;rw[J8]at this;omega
 have gG:=zC6 hd x.zA.length (Jg _);have hk:wQ x y x.zA.length<N:=by omega
 refine⟨_,hk,?_⟩;have key:∀i,i≤x.zA.length→zC (zBW x) ((wQ x y i:Int),J1 i 0++y.drop i,(i:Int)-1)=df y:=by
  intro i
  induction i with
  |zero=>
   intro _;rw[zM];unfold zBW;simp only
   rw[show decide (((0:Nat):Int)-1≥0)=di from rfl,zG];rfl
  |succ i ih=>
   intro hi;have ih:=ih (by omega);have h1:=hd i (by omega);have ca:=(h.os.2 i (by omega)).pos;have fQ:=zC6 hd (i+1) hi;have bF:∀j,j≤x.zA.length→pr x.zA j≤pr x.zA x.zA.length:=fun j hj=>by
    have key:∀d j,j+d=x.zA.length→pr x.zA j≤pr x.zA x.zA.length:=by
     intro d
     induction d with
     |zero=>intro j hj;rw[show j=x.zA.length by omega];exact Gx _
     |succ d ih2=>
      intro j hj;have a:=ih2 (j+1) (by omega);have b:=sT (os:=x.zA) (i:=j) (fun k hk=>h.os.2 k (by omega));have c:=(h.os.2 j (by omega)).pos;have e:pr x.zA (j+1)=pr x.zA j*at0 x.zA j:=rfl;have d:pr x.zA j*1≤pr x.zA j*at0 x.zA j:=Km (by omega) (by omega);omega
    exact key (x.zA.length-j) j (by omega)
   have hm:=bF (i+1) hi;have eq:((wQ x y (i+1):Nat):Int)=(wQ x y i:Int)*at0 x.zA i+at0 y i:=by simp only[wQ,Lk,L1];rw[K1 (by omega),K1 (by omega)]
   have t1:((wQ x y (i+1):Nat):Int).tmod (at0 x.zA i)=at0 y i:=by rw[Lm (by omega),eq,Q8,Int.mul_add_emod_self_left];exact Ki h1.1 h1.2
   have t2:((wQ x y (i+1):Nat):Int).tdiv (at0 x.zA i)=(wQ x y i:Int):=by rw[Kd (by omega),eq,Int.add_comm,Int.add_mul_ediv_right _ _ (by omega),Int.ediv_eq_zero_of_lt h1.1 h1.2,Gg]
   have hni:(wQ x y i:Int)≤(wQ x y (i+1):Nat):=by have:(wQ x y i:Int)*1≤(wQ x y i:Int)*at0 x.zA i:=Km (by omega) (by omega);omega
   have hdl:y.drop i=at0 y i::y.drop (i+1):=by
    rw[Jw (by omega)]
    congr 1
    rw[at0,J4,J5 (by omega)];rfl
   have gA:zBW x (((wQ x y (i+1):Nat):Int),J1 (i+1) 0++y.drop (i+1),((i+1:Nat):Int)-1)=df (.inl ((wQ x y i:Int),J1 i 0++y.drop i,(i:Int)-1)):=by
    unfold zBW;simp only
    rw[show(((i+1:Nat):Int)-1)=(i:Int)from by omega,show decide ((i:Int)≥0)=dh from dl (by omega),zH,yR (by omega),bs,wF,if_neg (by omega),t1,bs,wN 0 (by simp;omega),bs,bs,wA,if_neg (by omega),t2,zD (by omega) (by omega),bs,zD (by omega) (by omega),bs,show((i:Nat):Int).toNat=i from rfl]
    congr 4
    rw[hdl,Ha,Jb,Kg _ _ (by simp)];simp
   rw[zM,gA];exact ih
 have he:=uY h (k:=wQ x y x.zA.length) (by omega);have hi:f_l x ((wQ x y x.zA.length:Nat):Int)=df y:=by unfold f_l;have k1:=key x.zA.length (Jg _);rw[show y.drop x.zA.length=[]from by rw[←q1];exact Kw,J9]at k1;rw[yI (by omega),bs,Jk,zD (by omega) (by omega),bs,k1,bs]
 rw[he.1]at hi;exact Kb.inj hi
variable (hc:xD (suf x 0))
 include hc
end
end Go.Pl

namespace Go.Pl
open Go Go.Ab Go.Wk Go.Pc
def vH:List Int→List Int→Int
 |a::x,b::y=>if a<b then -1 else if b<a then 1 else vH x y
 |_,_=>0
theorem zDD:∀(x y:List Int),vH y x= -vH x y
 | [],[] | [],_::_|_::_,[]=>rfl
 |a::x,b::y=>by
  unfold vH
  by_cases h1:a<b
  ·rw[if_neg (by omega),if_pos h1,if_pos h1];rfl
  ·by_cases h2:b<a
   ·rw[if_pos h2,if_neg h1,if_pos h2]
   ·rw[if_neg h2,if_neg h1,if_neg h1,if_neg h2];exact zDD x y
theorem zG4:∀(x y:List Int),vH x y= -1∨vH x y=0∨vH x y=1
 | [],[] | [],_::_|_::_,[]=>.inr (.inl rfl)
 |a::x,b::y=>by
  unfold vH;split
  ·exact .inl rfl
  ·split
   ·exact .inr (.inr rfl)
   ·exact zG4 x y
theorem zMC(a b:Int):zNb a b=df (if a<b then -1 else if b<a then 1 else 0):=by
 unfold zNb zNa;simp only[bne_self_eq_false,bs,zG]
 by_cases h1:a<b
 ·rw[dl h1,zH,if_pos h1]
 ·rw[dj h1,zG,if_neg h1]
  by_cases h2:b<a
  ·rw[dl (show a> b from h2),zH,if_pos h2]
  ·rw[dj (show¬a> b from h2),zG,if_neg h2]
theorem zG5{x y:List Int}{i:Nat}(hi:i<x.length)(hj:i<y.length):vH (x.drop i) (y.drop i)=if at0 x i<at0 y i then -1 else if at0 y i<at0 x i then 1 else vH (x.drop (i+1)) (y.drop (i+1)):=by
 rw[Jw hi,Jw hj];have e1:at0 x i=x[i]:=by rw[at0,J4,J5 hi];rfl
 have e2:at0 y i=y[i]:=by rw[at0,J4,J5 hj];rfl
 rw[e1,e2];rfl
theorem zFm{x y:List Int}(h:x.length=y.length)(hl:x.length≤1000000):f_F x y=df (vH x y):=by
 unfold f_F;have key:∀d i,i+d=x.length→zC (zJu x y) (i:Int)=df (if vH (x.drop i) (y.drop i)=0 then .inl ()else .inr (vH (x.drop i) (y.drop i))):=by
  intro d
  induction d with
  |zero=>
   intro i hi;obtain rfl:i=x.length:=by omega
   rw[zM];unfold zJu;rw[tK,zG,Kw,h,Kw];rfl
  |succ d ih=>
   intro i hi;rw[zM];unfold zJu;rw[xR (by omega),zH,yR (by omega),bs,show decide ((i:Int)≥(y.length:Int))=di from dj (by omega),zG,yR (by omega),bs,zMC,bs,zG5 (by omega) (by omega)]
   by_cases h1:at0 x i<at0 y i
   ·rw[if_pos h1,if_pos h1];rfl
   ·by_cases h2:at0 y i<at0 x i
    ·rw[if_neg h1,if_pos h2,if_neg h1,if_pos h2];rfl
    ·rw[if_neg h1,if_neg h2,if_neg h1,if_neg h2,show((0:Int) != 0)=di from rfl,zG,zD (by omega) (by omega),bs]
     exact ih (i+1) (by omega)
 have:=key x.length 0 (by omega);simp only[Lr]at this;rw[show zC (zJu x y) 0=_ from this,bs]
 by_cases h0:vH x y=0
 ·rw[if_pos h0,h0]
  simp only
  rw[show decide ((x.length:Int)<(y.length:Int))=di from dj (by omega),zG]
 ·rw[if_neg h0]
theorem zE8{x y:List Int}(h:x.length=y.length)(hl:x.length≤1000000):f_G x y=df (decide (vH x y<0)):=by
 unfold f_G;have key:∀d i,i+d=x.length→zC (zJm x y) (i:Int)=df (if vH (x.drop i) (y.drop i)=0 then .inl ()else .inr (decide (vH (x.drop i) (y.drop i)<0))):=by
  intro d
  induction d with
  |zero=>
   intro i hi;obtain rfl:i=x.length:=by omega
   rw[zM];unfold zJm;rw[tK,zG,Kw,h,Kw];rfl
  |succ d ih=>
   intro i hi;rw[zM];unfold zJm;rw[xR (by omega),zH,xR (by omega),zH,yR (by omega),bs,yR (by omega),bs,zG5 (by omega) (by omega)]
   by_cases h1:at0 x i<at0 y i
   ·rw[show(at0 x i != at0 y i)=dh from bne_iff_ne.2 (by omega),zH,bs,bs,if_pos h1,dl h1];rfl
   ·by_cases h2:at0 y i<at0 x i
    ·rw[show(at0 x i != at0 y i)=dh from bne_iff_ne.2 (by omega),zH,bs,bs,if_neg h1,if_pos h2,dj h1];rfl
    ·rw[show(at0 x i != at0 y i)=di from by rw[show at0 x i=at0 y i by omega];simp,zG,if_neg h1,if_neg h2,zD (by omega) (by omega),bs]
     exact ih (i+1) (by omega)
 have:=key x.length 0 (by omega);simp only[Lr]at this;rw[show zC (zJm x y) 0=_ from this,bs]
 by_cases h0:vH x y=0
 ·rw[if_pos h0,h0]
  simp only
  rw[show decide ((x.length:Int)<(y.length:Int))=di from dj (by omega)];rfl
 ·rw[if_neg h0]
end Go.Pl

namespace Go.Pl
open Go Go.Ab Go.Wk Go.Pc
section
variable {x:SPr} (h:Pres x)
 include h
theorem zNK:∀d j,j+d≤x.zA.length→pr x.zA j≤pr x.zA (j+d)
 |0,_,_=>Gx _
 |d+1,j,hj=>by have a:=zNK d j (by omega);have b:=sT (os:=x.zA) (i:=j+d) (fun k hk=>h.os.2 k (by omega));have c:=(h.os.2 (j+d) (by omega)).pos;have e:pr x.zA (j+d+1)=pr x.zA (j+d)*at0 x.zA (j+d):=rfl;have g:pr x.zA (j+d)*1≤pr x.zA (j+d)*at0 x.zA (j+d):=Km (by omega) (by omega);show pr x.zA j≤pr x.zA (j+d+1);omega
theorem zA5:∀(i:Nat)(k:Int)(s:Vec),i≤x.zA.length→0≤k→k<pr x.zA i→k≤1000000→ ∃y,zC (zBW x) (k,J1 i 0++s,(i:Int)-1)=df y∧y.drop i=s∧(wQ x y i:Int)=k
 |0,k,s,_,k0,k1,_=>by
  have:k=0:=by have e:pr x.zA 0=1:=rfl;omega
  subst this;refine⟨s,?_,rfl,rfl⟩;rw[zM];unfold zBW;simp only
  rw[show decide (((0:Nat):Int)-1≥0)=di from rfl,zG];rfl
 |i+1,k,s,hi,k0,k1,k2=>by
  have h9:=h.os.1;have hp:=(h.os.2 i (by omega)).pos;have e:pr x.zA (i+1)=pr x.zA i*at0 x.zA i:=rfl;have t1:k.tmod (at0 x.zA i)=k%at0 x.zA i:=Lm k0;have t3:k.tdiv (at0 x.zA i)=k/at0 x.zA i:=Kd k0;have t4:0≤k/at0 x.zA i:=Us k0 (by omega);have t5:k/at0 x.zA i≤k:=Up _ k0;have t6:k/at0 x.zA i<pr x.zA i:=Int.ediv_lt_of_lt_mul (by omega) (by omega);have t7:=Int.emod_nonneg k (b:=at0 x.zA i) (by omega);obtain⟨y,y1,y2,y3⟩:=zA5 i (k/at0 x.zA i) (k%at0 x.zA i::s) (by omega) t4 t6 (by omega);refine⟨y,?_,?_,?_⟩
  ·have gA:zBW x (k,J1 (i+1) 0++s,((i+1:Nat):Int)-1)=df (.inl (k/at0 x.zA i,J1 i 0++k%at0 x.zA i::s,(i:Int)-1)):=by
    unfold zBW;simp only
    rw[show(((i+1:Nat):Int)-1)=(i:Int)from by omega,show decide ((i:Int)≥0)=dh from dl (by omega),zH,yR (by omega),bs,wF,if_neg (by omega),t1,bs,wN 0 (by simp;omega),bs,bs,wA,if_neg (by omega),t3,zD (by omega) (by omega),bs,zD (by omega) (by omega),bs,show((i:Nat):Int).toNat=i from rfl]
    congr 4
    rw[Ha,Jb,Kg _ _ (by simp)];simp
   rw[zM,gA];exact y1
  ·have:=congrArg (List.drop 1) y2
   simpa[List.drop_drop,Q7]using this
  ·have ha:at0 y i=k%at0 x.zA i:=by
    have:=congrArg List.head? y2;rw[List.head?_drop]at this;simp only[List.head?_cons]at this;rw[at0,J4,this];rfl
   simp only[wQ,Lk,L1];rw[K1 (by omega),ha,K1 t7,y3,Q8];exact Int.mul_ediv_add_emod k _
abbrev nv(x:SPr)(y:Vec):Nat:=wQ x y x.zA.length
variable {N:Nat} (hN:pr x.zA x.zA.length=(N:Int)) (gc:N≤1000000)
 include hN gc
theorem zKI{k:Nat}(hk:k<N):nv x (elv x k)=k:=by
 have h9:=h.os.1;obtain⟨y,y1,y2,y3⟩:=zA5 h x.zA.length (k:Int) [] (Jg _) (by omega) (by omega) (by omega);have he:=uY h (k:=k) (by omega);have hi:f_l x (k:Int)=df y:=by unfold f_l;rw[J9]at y1;rw[yI (by omega),bs,Jk,zD (by omega) (by omega),bs,y1,bs]
 rw[he.1]at hi;rw[Kb.inj hi];show wQ x y x.zA.length=k;omega
theorem zQ6{y:Vec}(hy:V (suf x 0) y):nv x y<N:=by obtain⟨k,k1,rfl⟩:=zKH h hy hN gc;rw[zKI h hN gc k1];exact k1
theorem zKJ{y:Vec}(hy:V (suf x 0) y):elv x (nv x y)=y:=by obtain⟨k,k1,rfl⟩:=zKH h hy hN gc;rw[zKI h hN gc k1]
theorem zAd{y:Vec}(hy:V (suf x 0) y):f_S x y=df (nv x y:Int)∧f_B x y=df (nv x y:Int):=by
 have h9:=h.os.1;obtain⟨q1,q2⟩:=zAx h.os x.zA.length 0 y (by omega) hy;have hd:∀i,i<x.zA.length→0≤at0 y i∧at0 y i<at0 x.zA i:=fun i hi=>by have:=q2 i hi;rw[J8]at this;omega
 have hb:∀i,i≤x.zA.length→(wQ x y i:Int)<N:=fun i hi=>by have a:=zC6 hd i hi;have b:=zNK h (x.zA.length-i) i (by omega);rw[show i+(x.zA.length-i)=x.zA.length from by omega]at b;omega
 have eg:∀i,i<x.zA.length→rng ((wQ x y i:Int)*at0 x.zA i)=df ((wQ x y i:Int)*at0 x.zA i)∧rng ((wQ x y i:Int)*at0 x.zA i+at0 y i)=df ((wQ x y (i+1):Nat):Int):=fun i hi=>by
  have a:=hb (i+1) (by omega);have b:=hd i hi;have eq:((wQ x y (i+1):Nat):Int)=(wQ x y i:Int)*at0 x.zA i+at0 y i:=by simp only[wQ,Lk,L1];rw[K1 (by omega),K1 (by omega)]
  have c:0≤(wQ x y i:Int)*at0 x.zA i:=Int.mul_nonneg (by omega) (by omega);rw[zD (by omega) (by omega),zD (by omega) (by omega),eq];exact⟨rfl,rfl⟩
 constructor
 ·unfold f_S
  have:=zX (body:=zLF x y) (r:=(nv x y:Int)) (fun i=>((wQ x y i:Int),(i:Int))) x.zA.length (fun i hi=>by
   unfold zLF;simp only
   rw[q1,xR hi,zH,yR (by omega),bs,yR (by omega),bs,(eg i hi).1,bs,(eg i hi).2,bs,zD (by omega) (by omega),bs];rfl) (by
   unfold zLF;simp only
   rw[q1,tK,zG])
  rw[show((0,0):Int×Int)=(((wQ x y 0:Nat):Int),((0:Nat):Int))from rfl,this,bs]
 ·unfold f_B
  have:=zX (body:=zLG x y) (r:=(nv x y:Int)) (fun i=>((wQ x y i:Int),(i:Int))) x.zA.length (fun i hi=>by
   unfold zLG;simp only
   rw[q1,xR hi,zH,yR (by omega),bs,(eg i hi).1,bs,yR (by omega),bs,(eg i hi).2,bs,zD (by omega) (by omega),bs];rfl) (by
   unfold zLG;simp only
   rw[q1,tK,zG])
  rw[show((0,0):Int×Int)=(((wQ x y 0:Nat):Int),((0:Nat):Int))from rfl,this,bs]
end
end Go.Pl

namespace Go.Pc
open GrT
section
variable {A:Type} [GrT A]
theorem zQ7(a:A):pg a 1=a:=by rw[pg,pg,ol]
def vl:List A→List Int→A
 |x::t,k::e=>pg x k.toNat*vl t e
 |_,_=>1
def Ex(q:Nat)(n:Nat)(e:List Int):Prop:=e.length=n∧ ∀k∈e,0≤k∧k<(q:Int)
def Hh(q:Nat)(t:List A)(a:A):Prop:=∃e,Ex q t.length e∧vl t e=a
def Tw(q:Nat):List A→Prop
 | []=>True
 |x::t=>Tw q t∧ ¬Hh q t x∧Hh q t (pg x q)∧ ∀h∈t,Hh q t (x⁻¹*h*x)
variable {q:Nat}
theorem zDE{a:A}:Hh q [] a↔a=1:=by
 constructor
 ·rintro⟨e,h1,rfl⟩
  cases e<;>rfl
 ·rintro rfl
  exact⟨[],⟨rfl,by simp⟩,rfl⟩
theorem tV{n:Nat}{k:Int}{e:List Int}:Ex q (n+1) (k::e)↔(0≤k∧k<(q:Int))∧Ex q n e:=by simp only[Ex,Jn,Jh,forall_eq_or_imp,Hx];exact⟨fun⟨a,b,c⟩=>⟨b,a,c⟩,fun⟨b,a,c⟩=>⟨a,b,c⟩⟩
theorem zAs{x a:A}{t:List A}:Hh q (x::t) a↔ ∃k:Nat,k<q∧ ∃h,Hh q t h∧a=pg x k*h:=by
 constructor
 ·rintro⟨e,h1,rfl⟩
  cases e with
  |nil=>exact absurd h1.1 (by simp)
  |cons k e=>
   rw[Jn,tV]at h1;exact⟨k.toNat,by omega,_,⟨e,h1.2,rfl⟩,rfl⟩
 ·rintro⟨k,hk,_,⟨e,h1,rfl⟩,rfl⟩
  exact⟨(k:Int)::e,by rw[Jn,tV];exact⟨⟨by omega,by omega⟩,h1⟩,rfl⟩
theorem zQ8{x:A}{t:List A}(hq:2≤q)(h1:Sg (Hh q t)):Hh q (x::t) x:=zAs.2 ⟨1,by omega,1,h1.o,by rw[zQ7,or1]⟩
theorem zNL{x a:A}{t:List A}(hq:1≤q)(h:Hh q t a):Hh q (x::t) a:=zAs.2 ⟨0,by omega,a,h,by rw[pg,ol]⟩
theorem zI0{x:A}{H:A→Prop}(hH:Sg H):∀(t:List A)(e:List Int),(∀h∈t,H (x⁻¹*h*x))→H (x⁻¹*vl t e*x)
 | [],_,_=>by simp[vl,or1,il];exact hH.o
 |_::_,[],_=>by simp[vl,or1,il];exact hH.o
 |y::t,k::e,h=>by
  have h1:=hH.pg (h y (by simp)) k.toNat;have h2:=zI0 hH t e fun z hz=>h z (by simp[hz])
  rw[←zO2]at h1;have h3:=hH.m h1 h2;have:x⁻¹*vl (y::t) (k::e)*x=x⁻¹*pg y k.toNat*x*(x⁻¹*vl t e*x):=by simp[vl,as,cl2]
  rw[this];exact h3
section
variable {x:A}{t:List A} (hq:2≤q) (hS:Sg (Hh q t)) (hp:Hh q t (pg x q)) (hc:∀h∈t,Hh q t (x⁻¹*h*x))
 include hq hS hp hc
 omit hq hp in
theorem zMD{a:A}(ha:Hh q t a):Hh q t (x⁻¹*a*x):=by
  obtain⟨e,_,rfl⟩:=ha;exact zI0 hS t e hc
 omit hq hp in
theorem zDF{a:A}(ha:Hh q t a):∀k,Hh q t ((pg x k)⁻¹*a*pg x k)
  |0=>by simpa[pg,i1,ol,or1]using ha
  |k+1=>by
    have h1:=zMD hS hc (zDF ha k);have:(pg x (k+1))⁻¹*a*pg x (k+1)=x⁻¹*((pg x k)⁻¹*a*pg x k)*x:=by simp[pg,as,im]
    rw[this];exact h1
 omit hq hc in
theorem pgs(m:Nat):Hh q t (pg x (q*m)):=by rw[←zFf];exact hS.pg hp m
 omit hc in
theorem zI1:∀(k:Nat){h:A},Hh q t h→Hh q (x::t) (pg x k*h):=fun k h hh=>by rw[zAs];refine⟨k%q,Nat.mod_lt _ (by omega),pg x (q*(k/q))*h,hS.m (pgs hS hp _) hh,?_⟩;rw[←as,←zAP,Nat.mod_add_div]
theorem zME:Sg (Hh q (x::t)):=by
 refine⟨?_,fun{a b} ha hb=>?_,fun{a} ha=>?_⟩
 ·exact zNL (by omega) hS.o
 ·obtain⟨k,_,h,h1,rfl⟩:=zAs.1 ha
  obtain⟨l,_,h',h2,rfl⟩:=zAs.1 hb;have:pg x k*h*(pg x l*h')=pg x (k+l)*((pg x l)⁻¹*h*pg x l*h'):=by rw[zAP];simp[as,cl2]
  rw[this];exact zI1 hq hS hp _ (hS.m (zDF hS hc h1 l) h2)
 ·obtain⟨k,hk,h,h1,rfl⟩:=zAs.1 ha
  have e0:pg x k*pg x (q*k-k)=pg x (q*k):=by have:k≤q*k:=Nat.le_mul_of_pos_left k (by omega);rw[←zAP];congr 1;omega
  have e:(pg x k)⁻¹=pg x (q*k-k)*(pg x (q*k))⁻¹:=by rw[←e0,im,←as,ir,ol]
  generalize q*k-k=l at e
  have:(pg x k*h)⁻¹=pg x l*((pg x l)⁻¹*h⁻¹*pg x l*(pg x (q*k))⁻¹):=by rw[im,e];simp[as,cl2]
  rw[this];exact zI1 hq hS hp _ (hS.m (zDF hS hc (hS.i h1) l) (hS.i (pgs hS hp _)))
end
theorem Tw.sg(hq:2≤q):∀{t:List A},Tw q t→Sg (Hh q t)
 | [],_=>⟨zDE.2 rfl,fun ha hb=>by rw[zDE]at *;rw[ha,hb,ol],fun ha=>by rw[zDE]at *;rw[ha,i1]⟩
 |_::_,h=>zME hq (Tw.sg hq h.1) h.2.2.1 h.2.2.2
theorem zRy{x:A}{H:A→Prop}(hH:Sg H)(hq:∀d,0<d→d<q→ ∃u v,u*d=1+q*v)(hp:H (pg x q)){d:Nat}(d0:0<d)(d1:d<q)(hd:H (pg x d)):H x:=by
 obtain⟨u,v,h⟩:=hq d d0 d1;have h1:H (pg x (u*d)):=by rw[Ga,←zFf];exact hH.pg hd u
 rw[h,zAP,zQ7,←zFf]at h1;have h2:=hH.m h1 (hH.i (hH.pg hp v))
 rwa [as,ir,or1]at h2
theorem Tw.inj(hq:2≤q)(hu:∀d,0<d→d<q→ ∃u v,u*d=1+q*v):∀{t:List A},Tw q t→ ∀{e e':List Int},Ex q t.length e→Ex q t.length e'→vl t e=vl t e'→e=e'
 | [],_,e,e',h1,h2,_=>by have a:=h1.1;have b:=h2.1;simp at a b;rw[a,b]
 |x::t,h,[],_,h1,_,_=>absurd h1.1 (by simp)
 |x::t,h,_::_,[],_,h2,_=>absurd h2.1 (by simp)
 |x::t,h,k::e,l::e',h1,h2,hv=>by
  rw[Jn,tV]at h1 h2;have hS:=Tw.sg hq h.1;have he:Hh q t (vl t e):=⟨e,h1.2,rfl⟩;have bH:Hh q t (vl t e'):=⟨e',h2.2,rfl⟩;have key:∀(k l:Nat)(a b:A),k<q→l<q→Hh q t a→Hh q t b→pg x k*a=pg x l*b→k≤l→k=l∧a=b:=by
   intro k l a b hk hl ha hb heq hkl;obtain⟨d,rfl⟩:∃d,l=k+d:=⟨l-k,by omega⟩;rw[zAP,as]at heq;have h3:=zND heq
   by_cases hd:d=0
   ·subst hd
    rw[pg,ol]at h3;exact⟨rfl,h3⟩
   ·have h4:Hh q t (pg x d):=by
     have:=hS.m ha (hS.i hb)
     rwa [h3,as,ir,or1]at this
    exact absurd (zRy hS hu h.2.2.1 (by omega) (by omega) h4) h.2.1
  have hkl:k.toNat=l.toNat∧vl t e=vl t e':=by
   rcases Nat.le_total k.toNat l.toNat with c|c
   ·exact key _ _ _ _ (by omega) (by omega) he bH hv c
   ·have:=key _ _ _ _ (by omega) (by omega) bH he hv.symm c
    exact⟨this.1.symm,this.2.symm⟩
  rw[Tw.inj hq hu h.1 h1.2 h2.2 hkl.2,show k=l by omega]
end
end Go.Pc

namespace Go.Pc
open GrT
section
variable {A:Type} [GrT A]
open Classical in
noncomputable def xpo (q:Nat) (t:List A) (a:A):Option (List Int):=if h:Hh q t a then df h.choose else dg
theorem zDG{q:Nat}{t:List A}{a:A}:(xpo q t a).isSome=dh↔Hh q t a:=by unfold xpo;split<;>simp_all
theorem wO{q:Nat}{t:List A}{a:A}{e:List Int}(h:xpo q t a=df e):Ex q t.length e∧vl t e=a:=by
 unfold xpo at h;split at h
 ·rename_i hh
  obtain rfl:=Kb.inj h;exact hh.choose_spec
 ·cases h
theorem uA{q:Nat}{t:List A}{a:A}:xpo q t a=dg↔ ¬Hh q t a:=by rw[←zDG];cases xpo q t a<;>simp
noncomputable def zAe (q n:Nat) (t:List A) (x:A):List A→List Int→Option (List Int)
 | [],out=>df out
 |h::s,out=>match xpo q t (x⁻¹*h*x)with
  |none=>dg
  |some e=>zAe q n t x s (out++(J1 (n-t.length) 0++e))
noncomputable def seg (q n:Nat) (t:List A) (x:A):Option (List Int):=
 match xpo q t x with
 |some _=>dg
 |none=>match xpo q t (pg x q)with
  |none=>dg
  |some e=>zAe q n t x t (J1 (n-t.length) 0++e)
theorem zI2{q n:Nat}{t:List A}{x:A}:∀(s:List A)(out:List Int),(zAe q n t x s out).isSome=dh↔ ∀h∈s,Hh q t (x⁻¹*h*x)
 | [],_=>by simp[zAe]
 |h::s,out=>by
  unfold zAe;cases he:xpo q t (x⁻¹*h*x)with
  |none=>simp[uA.1 he]
  |some e=>
   have:=zDG.1 (show(xpo q t (x⁻¹*h*x)).isSome=dh by rw[he];rfl);simp[zI2 s,this]
theorem zHv{q n:Nat}{t:List A}{x:A}:(seg q n t x).isSome=dh↔ ¬Hh q t x∧Hh q t (pg x q)∧ ∀h∈t,Hh q t (x⁻¹*h*x):=by
 unfold seg;cases he:xpo q t x with
 |some e=>
  have:=zDG.1 (show(xpo q t x).isSome=dh by rw[he];rfl);simp[this]
 |none=>
  cases hp:xpo q t (pg x q)with
  |none=>simp[uA.1 hp]
  |some e=>
   have:=zDG.1 (show(xpo q t (pg x q)).isSome=dh by rw[hp];rfl);simp[zI2,this,uA.1 he]
theorem Tw.step{q n:Nat}{t:List A}{x:A}(h:Tw q t)(hs:(seg q n t x).isSome=dh):Tw q (x::t):=⟨h,zHv.1 hs⟩
theorem zDH{q n:Nat}{t:List A}{x:A}(hn:t.length≤n):∀(s:List A)(out r:List Int),zAe q n t x s out=df r→r.length=out.length+n*s.length
 | [],out,r,h=>by simp[zAe]at h;simp[h]
 |y::s,out,r,h=>by
  unfold zAe at h;cases he:xpo q t (x⁻¹*y*x)with
  |none=>rw[he]at h;cases h
  |some e=>
   rw[he]at h;have h1:=zDH hn s _ r h;have h2:=(wO he).1.1;rw[h1,Jn,Lo];simp only[Je,Jk];omega
theorem zC7{q n:Nat}{t:List A}{x:A}(hn:t.length≤n){r:List Int}(h:seg q n t x=df r):r.length=n*(1+t.length):=by
 unfold seg at h;cases he:xpo q t x with
 |some e=>rw[he]at h;cases h
 |none=>
  rw[he]at h;cases hp:xpo q t (pg x q)with
  |none=>rw[hp]at h;cases h
  |some e=>
   rw[hp]at h;have h1:=zDH hn t _ r h;have h2:=(wO hp).1.1;rw[h1,H8,Ur];simp only[Je,Jk];omega
theorem Tw.mem{q:Nat}(hq:2≤q):∀{t:List A},Tw q t→ ∀h∈t,Hh q t h
 |x::t,h,y,hy=>by
  rcases Jh.1 hy with rfl|hy
  ·exact zQ8 hq (Tw.sg hq h.1)
  ·exact zNL (by omega) (Tw.mem hq h.1 y hy)
theorem zOA{q:Nat}(n:Nat){t:List A}(hq:2≤q)(hT:Tw q t)(hH:∃a,¬Hh q t a)(hQ:∃i,∀a:A,Qm q i a→a=1):∃x,(seg q n t x).isSome=dh:=by
 have hS:=Tw.sg hq hT;refine Classical.byContradiction fun fP=>?_
 have key:∀i,∃a,Qm q i a∧ ¬Hh q t a:=by
  intro i
  induction i with
  |zero=>obtain⟨a,ha⟩:=hH;exact⟨a,trivial,ha⟩
  |succ i ih=>
   refine Classical.byContradiction fun hn=>?_
   have gT:∀a,Qm q (i+1) a→Hh q t a:=fun a ha=>Classical.byContradiction fun h=>hn ⟨a,ha,h⟩
   obtain⟨x,x1,x2⟩:=ih;refine fP ⟨x,zHv.2 ⟨x2,gT _ (.x (.inr ⟨x,x1,rfl⟩)),fun h hh=>?_⟩⟩;have hy:Hh q t h:=Tw.mem hq hT h hh
   ·have h1:=gT _ (.x (.inl ⟨x,h,x1,rfl⟩):Ge (NX q (Qm q i)) (x⁻¹*h⁻¹*x*h))
    have h2:=hS.m hy (hS.i h1);have:h*(x⁻¹*h⁻¹*x*h)⁻¹=x⁻¹*h*x:=by simp[im,as,ii,cl2]
    rwa [this]at h2
 obtain⟨i,hi⟩:=hQ;obtain⟨a,a1,a2⟩:=key i;rw[hi a a1]at a2;exact a2 hS.o
end
end Go.Pc

namespace Go.Pl
open Go Go.Ab Go.Wk Go.Pc GrT
theorem zDI{x:SPr}:∀i,wQ x (zeros x.zA.length) i=0
 |0=>rfl
 |i+1=>by
  have h:at0 (zeros x.zA.length) i=0:=by rw[at0,zeros,J4,Js];split<;>rfl
  rw[wQ,zDI i,h,Nat.zero_mul];rfl
noncomputable def zIZ (x:SPr) (N i:Nat):List Int:=(Jz N).map fun j=>((nv x (mul (suf x 0) (elv x i) (elv x j)):Nat):Int)
noncomputable def mtb (x:SPr) (N:Nat):Mx:=(Jz N).map (zIZ x N)
section
variable {x:SPr}{w:Pres x∧xD (suf x 0)}{N:Nat} (hN:pr x.zA x.zA.length=(N:Int)) (gc:N≤1000)
noncomputable def nE (a:EA x w):Nat:=nv x a.1
theorem zBU:nE (1:EA x w)=0:=by
 show wQ x (1:EA x w).1 _=0;rw[zQ4,yP,G8];exact zDI _
 include hN gc
theorem zA6(a:EA x w):nE a<N:=zQ6 w.1 hN (by omega) a.2
theorem tW{a b:EA x w}(h:nE a=nE b):a=b:=by refine Subtype.ext ?_;rw[←zKJ w.1 hN (by omega) a.2,←zKJ w.1 hN (by omega) b.2];exact congrArg (elv x) h
theorem zNM{k:Nat}(hk:k<N):∃a:EA x w,nE a=k:=by have h9:=w.1.os.1;exact⟨⟨elv x k,(uY w.1 (by omega)).2.2⟩,zKI w.1 hN (by omega) hk⟩
theorem zI3(a:EA x w):elv x (nE a)=a.1:=zKJ w.1 hN (by omega) a.2
theorem zFn(a b:EA x w):ixO (zIZ x N (nE a)) ((nE b:Nat):Int)=df ((nE (a*b):Nat):Int):=by rw[yT,zIZ,Jf,L4 (zA6 hN gc b),Lh,zI3 hN gc,zI3 hN gc];rfl
theorem zC8(a:EA x w):ixO (mtb x N) ((nE a:Nat):Int)=df (zIZ x N (nE a)):=by rw[yT,mtb,Jf,L4 (zA6 hN gc a),Lh]
theorem zI4:(mtb x N).length=N:=by
 have _:=gc;have _:=hN;simp[mtb]
 include w in
theorem zKK(ha:f_E x=df (els x N)):f_u x=df (mtb x N):=by
  have h9:=w.1.os.1;unfold f_u;have mj:∀i,i<N→ixO (els x N) (i:Int)=df (elv x i):=fun i hi=>by rw[yT,els,Jf,L4 hi];rfl
  have inner:∀i,i<N→zC (zLL x (els x N) (elv x i)) ([],0)=df (zIZ x N i):=fun i hi=>by
    refine zG0 N (fun j=>((nv x (mul (suf x 0) (elv x i) (elv x j)):Nat):Int)) (fun j acc hj hl=>?_) (fun acc=>?_)
    · have hv:=(uY w.1 (k:=i) (by omega)).2.2
      have eD:=(uY w.1 (k:=j) (by omega)).2.2;unfold zLL;simp only
      rw[zBx,xR hj,zH,mj j hj,bs,zRu w.1 w.2 hv eD,bs,(zAd w.1 hN (by omega) ((g0 w.1 w.2).cl hv eD)).1,bs,yX (by simp;omega),bs,zD (by omega) (by omega),bs];rfl
    · unfold zLL
      simp only
      rw[zBx,tK,zG]
  have outer:=zG0 (body:=zLM x (els x N)) N (zIZ x N) (fun i acc hi hl=>by
    unfold zLM;simp only
    rw[zBx,xR hi,zH,mj i hi,bs,inner i hi,bs,yX (by simp;omega),bs,zD (by omega) (by omega),bs];rfl) (fun acc=>by
    unfold zLM;simp only
    rw[zBx,tK,zG])
  rw[ha,bs,outer,bs];rfl
theorem zDJ(a:EA x w)(k:Nat)(hk:k≤1000):zLN ⟨mtb x N⟩ ((nE a:Nat):Int) (k:Int)=df ((nE (pg a k):Nat):Int):=by
 unfold zLN f_y;have inner:zC (zJr ⟨mtb x N⟩ [((nE a:Nat):Int)] (0,0) (k:Int)) (0,0)=df ((nE (pg a k):Nat):Int):=by
  have:=zX (body:=zJr ⟨mtb x N⟩ [((nE a:Nat):Int)] (0,0) (k:Int)) (r:=((nE (pg a k):Nat):Int)) (fun i=>(((nE (pg a i):Nat):Int),(i:Int))) k (fun i hi=>by
   unfold zJr;simp only
   rw[xR hi,zH,zC8 hN gc,bs,show ixO [((nE a:Nat):Int)] 0=df ((nE a:Nat):Int)from rfl,bs,zFn hN gc,bs,zD (by omega) (by omega),bs];rfl) (by
   unfold zJr;simp only
   rw[tK,zG])
  rw[show((0,0):Int×Int)=(((nE (pg a 0):Nat):Int),((0:Nat):Int))from by rw[pg,zBU];rfl];exact this
 have outer:zC (zNc ⟨mtb x N⟩ [((nE a:Nat):Int)] [(k:Int)]) (0,0)=df ((nE (pg a k):Nat):Int):=by
  rw[zM];unfold zNc;simp only[Jn,Qh];rw[show decide ((0:Int)<((0+1:Nat):Int))=dh from rfl,zH,show ixO [(k:Int)] 0=df (k:Int)from rfl,bs,inner,bs,show rng (0+1)=df 1 from rfl,bs];simp only
  rw[zM];rw[show decide ((1:Int)<((0+1:Nat):Int))=di from rfl,zG]
 rw[outer,bs,bs]
end
end Go.Pl

namespace Go.Pl
open Go Go.Ab Go.Wk Go.Pc GrT
theorem zBy{α σ:Type}{eqv:σ→σ→Prop}{step:α→σ→Option σ}{l:List α}{s:σ}(G:List α→σ)(h:∀L':List α,L'.Perm l→tT step L' s=df (G L'))(he:∀L':List α,L'.Perm l→eqv (G L') (G l)):
  ∃F,qX eqv step l s=df F∧ ∀L':List α,L'.Perm l→eqv (G L') F:=by
 have er:∃F,∀L':List α,L'.Perm l→ ∃S',tT step L' s=df S'∧eqv S' F:=⟨G l,fun L' hL=>⟨G L',h L' hL,he L' hL⟩⟩;refine⟨er.choose,by unfold qX;rw[dif_pos er],fun L' hL=>?_⟩;obtain⟨S',h1,h2⟩:=er.choose_spec L' hL;rw[h L' hL]at h1;rw[Kb.inj h1];exact h2
theorem zG6{β:Type}{l:List (Int×β)}{k:Int}{v:β}(h:k∉l.map (·.1)):zGb l k v=df (l++[(k,v)]):=by unfold zGb;rw[zBI fun a ha e=>h (J7.2 ⟨a,ha,e⟩)];rfl
theorem zI5{α β γ:Type}{f:α→β}{g:α→γ}{L:List α}(h:(L.map g).Nodup)(hi:∀u∈L,∀v∈L,f u=f v→g u=g v):(L.map f).Nodup:=by
 rw[Qb,U9]at h ⊢
 exact h.imp_of_mem fun{a b} ha hb gf e=>gf (hi a ha b hb e)
theorem zFo{A:Type}[GrT A]:∀(s r:List A)(e f:List Int),e.length=s.length→vl (s++r) (e++f)=vl s e*vl r f
 | [],r,[],f,_=>by simp[vl,ol]
 |x::s,r,k::e,f,h=>by simp only[Ka,vl];rw[zFo s r e f (by simpa using h),as]
 | [],_,_::_,_,h=>by simp at h
 |_::_,_,[],_,h=>by simp at h
theorem zOB{A:Type}[GrT A](h:A)(k:Nat):vl [h] [(k:Int)]=pg h k:=by simp[vl,or1]
def Inj{A:Type}[GrT A](q:Nat)(s:List A):Prop:=∀e e',Ex q s.length e→Ex q s.length e'→vl s e=vl s e'→e=e'
theorem Inj.pre{A:Type}[GrT A]{q:Nat}(hq:2≤q){s r:List A}(h:Inj q (s++r)):Inj q s:=fun e e' h1 h2 hv=>by
 have hx:∀e,Ex q s.length e→Ex q (s++r).length (e++J1 r.length 0):=fun e he=>⟨by simp[he.1],fun k hk=>by
  rcases Lg.1 hk with hk|hk
  ·exact he.2 k hk
  ·have:=List.eq_of_mem_replicate hk
   subst this;omega⟩
 have:=h _ _ (hx e h1) (hx e' h2) (by rw[zFo _ _ _ _ h1.1,zFo _ _ _ _ h2.1,hv]);exact List.append_cancel_right this
theorem zFp{q n:Nat}{e:List Int}{k:Int}:Ex q (n+1) (e++[k])↔Ex q n e∧0≤k∧k<(q:Int):=by
 simp only[Ex,Je,Ko,Lg,List.mem_singleton,Hx];constructor
 ·rintro⟨a,b⟩
  exact⟨⟨a,fun k hk=>b k (.inl hk)⟩,b k (.inr rfl)⟩
 ·rintro⟨⟨a,b⟩,c⟩
  refine⟨a,fun j hj=>?_⟩;rcases hj with hj|rfl
  ·exact b j hj
  ·exact c
section
variable {x:SPr}{w:Pres x∧xD (suf x 0)}{N:Nat} (hN:pr x.zA x.zA.length=(N:Int)) (gc:N≤1000) {q:Nat}
structure KP (q:Nat) (s:List (EA x w)) (l:List (Int×List Int)):Prop where
 a:∀u∈l,∃e,Ex q s.length e∧u=(((nE (vl s e):Nat):Int),e)
 b:∀e,Ex q s.length e→(((nE (vl s e):Nat):Int),e)∈l
 c:(l.map (·.1)).Nodup
theorem KP.perm{s:List (EA x w)}{l l':List (Int×List Int)}(h:KP q s l)(hp:l'.Perm l):KP q s l':=
 ⟨fun u hu=>h.a u (hp.mem_iff.1 hu),fun e he=>hp.mem_iff.2 (h.b e he),(hp.map _).nodup_iff.2 h.c⟩
noncomputable def zAT (q:Nat) (s:List (EA x w)) (h:EA x w) (e:List Int):List (Int×List Int):=(Jz q).map fun(j:Nat)=>(((nE (vl (s++[h]) (e++[(j:Int)])):Nat):Int),e++[(j:Int)])
noncomputable def zAU (q:Nat) (s:List (EA x w)) (h:EA x w) (L:List (Int×List Int)):List (Int×List Int):=L.flatMap fun u=>zAT q s h u.2
theorem zE9{s:List (EA x w)}{h:EA x w}(hN:pr x.zA x.zA.length=(N:Int))(gc:N≤1000)(hi:Inj q (s++[h])){l:List (Int×List Int)}(hk:KP q s l):((zAU q s h l).map (·.1)).Nodup:=by
 have gr:∀v∈zAU q s h l,∃f,Ex q (s++[h]).length f∧v=(((nE (vl (s++[h]) f):Nat):Int),f):=fun v hv=>by obtain⟨u,hu,hv⟩:=Ls.1 hv;obtain⟨e,he,rfl⟩:=hk.a u hu;obtain⟨j,hj,rfl⟩:=J7.1 hv;exact⟨_,by rw[Je,Ko,zFp];have:=K9.1 hj;exact⟨he,by omega,by omega⟩,rfl⟩
 refine zI5 (g:=(·.2)) ?_ fun u hu v hv e=>?_
 ·have h0:(l.map (·.2)).Nodup:=zI5 hk.c fun u hu v hv e=>by
   obtain⟨e1,h1,rfl⟩:=hk.a u hu;obtain⟨e2,h2,rfl⟩:=hk.a v hv;simp only at e ⊢
   rw[e]
  clear gr hk
  induction l with
  |nil=>simp[zAU]
  |cons u l ih=>
   simp only[Jc,K0]at h0;simp only[zAU,Kz,Kn]at ih ⊢
   refine H1.2 ⟨?_,ih h0.2,fun a ha b hb bp=>?_⟩
   ·simp only[zAT,U1]
    rw[Qb,U9];refine Q0.imp fun{i j} hij e=>hij ?_
    have:=List.append_cancel_left e;simp at this;omega
   ·subst bp
    obtain⟨v1,cu,rfl⟩:=J7.1 ha;obtain⟨j1,_,rfl⟩:=J7.1 cu;obtain⟨v2,eD,e2⟩:=J7.1 hb;obtain⟨u2,hu2,eD⟩:=Ls.1 eD;obtain⟨j2,_,rfl⟩:=J7.1 eD;simp only at e2;have:=(List.append_inj' e2 rfl).1;exact h0.1 (J7.2 ⟨u2,hu2,this⟩)
 ·obtain⟨f1,h1,rfl⟩:=gr u hu
  obtain⟨f2,h2,rfl⟩:=gr v hv;simp only at e ⊢
  exact hi f1 f2 h1 h2 (tW hN gc (by omega))
theorem KP.next{s:List (EA x w)}{h:EA x w}(hN:pr x.zA x.zA.length=(N:Int))(gc:N≤1000)(hi:Inj q (s++[h])){l F:List (Int×List Int)}(hk:KP q s l)(hF:(zAU q s h l).Perm F):KP q (s++[h]) F:=by
 refine KP.perm (l:=zAU q s h l) ⟨fun v hv=>?_,fun f hf=>?_,zE9 hN gc hi hk⟩ hF.symm
 ·obtain⟨u,hu,hv⟩:=Ls.1 hv
  obtain⟨e,he,rfl⟩:=hk.a u hu;obtain⟨j,hj,rfl⟩:=J7.1 hv;exact⟨_,by rw[Je,Ko,zFp];have:=K9.1 hj;exact⟨he,by omega,by omega⟩,rfl⟩
 ·have gf:f≠[]:=by
   intro e;have:=hf.1;rw[e]at this;simp at this
  obtain⟨e,k,rfl⟩:∃e k,f=e++[k]:=⟨f.dropLast,f.getLast gf,(List.dropLast_concat_getLast gf).symm⟩;rw[Je,Ko,zFp]at hf;refine Ls.2 ⟨_,hk.b e hf.1,J7.2 ⟨k.toNat,K9.2 (by omega),?_⟩⟩;simp only[show((k.toNat:Nat):Int)=k by omega]
 include hN gc
theorem zMF{s:List (EA x w)}{h:EA x w}(hq:q≤1000){e:List Int}(he:e.length=s.length)(hs:s.length≤1000){S:List (Int×List Int)}(eo:((S++zAT q s h e).map (·.1)).Nodup):
  yJ ⟨mtb x N⟩ (q:Int) ((nE h:Nat):Int) (((nE (vl s e):Nat):Int),e) S=df (S++zAT q s h e):=by
 have fM:(zAT q s h e).length=q:=by simp[zAT]
 have:=zX (body:=zJs ⟨mtb x N⟩ (q:Int) ((nE h:Nat):Int) (((nE (vl s e):Nat):Int),e)) (r:=S++zAT q s h e) (fun j=>(S++(zAT q s h e).take j,(j:Int))) q (fun j hj=>by
  have hbj:(zAT q s h e)[j]? =df (((nE (vl (s++[h]) (e++[(j:Int)])):Nat):Int),e++[(j:Int)]):=by rw[zAT,Jf,L4 hj];rfl
  have cv:(zAT q s h e).take (j+1)=(zAT q s h e).take j++[(((nE (vl (s++[h]) (e++[(j:Int)])):Nat):Int),e++[(j:Int)])]:=by rw[Hc,hbj];rfl
  have gI:((nE (vl (s++[h]) (e++[(j:Int)])):Nat):Int)∉(S++(zAT q s h e).take j).map (·.1):=by
   have h1:((S++(zAT q s h e).take (j+1)).map (·.1)).Nodup:=by refine H3.nodup ?_ eo;exact H3.map _ (H3.append_left (List.take_sublist _ _) _)
   rw[cv,←Jb,Kn]at h1;have h2:=(H1.1 h1).2.2;intro hm;exact h2 _ hm _ (by simp) rfl
  have hv:vl (s++[h]) (e++[(j:Int)])=vl s e*pg h j:=by rw[zFo _ _ _ _ he,zOB]
  unfold zJs;simp only
  rw[xR hj,zH,zC8 hN gc,bs,zDJ hN gc h j (by omega),bs,zFn hN gc,bs,zAS (by omega),bs,yX (by simp;omega),bs,←hv,zG6 gI,bs,zD (by omega) (by omega),bs,Jb,←cv];rfl) (by
  unfold zJs;simp only
  rw[tK,zG,K2 (by omega)])
 unfold yJ;simpa using this
theorem zG7{s:List (EA x w)}{h:EA x w}(hq:q≤1000)(hs:s.length≤1000):∀(post pre:List (Int×List Int)),(∀u∈post,∃e,Ex q s.length e∧u=(((nE (vl s e):Nat):Int),e))→((zAU q s h (pre++post)).map (·.1)).Nodup→
  tT (yJ ⟨mtb x N⟩ (q:Int) ((nE h:Nat):Int)) post (zAU q s h pre)=df (zAU q s h (pre++post))
 | [],pre,_,_=>by simp[tT]
 |u::post,pre,hu,eo=>by
  obtain⟨e,he,rfl⟩:=hu u (by simp);have e1:zAU q s h (pre++[(((nE (vl s e):Nat):Int),e)])=zAU q s h pre++zAT q s h e:=by simp[zAU]
  have e2:pre++(((nE (vl s e):Nat):Int),e)::post=(pre++[(((nE (vl s e):Nat):Int),e)])++post:=by simp
  rw[e2]at eo ⊢
  rw[tT,zMF hN gc hq he.1 hs ?_,bs,←e1]
  ·exact zG7 hq hs post _ (fun v hv=>hu v (by simp[hv])) eo
  ·rw[←e1]
   refine H3.nodup (H3.map _ ?_) eo;simp only[zAU,Un];exact List.sublist_append_left _ _
theorem zJa{s:List (EA x w)}{h:EA x w}(hq:q≤1000)(hs:s.length≤1000)(hi:Inj q (s++[h])){l:List (Int×List Int)}(hk:KP q s l):∃F,qX List.Perm (yJ ⟨mtb x N⟩ (q:Int) ((nE h:Nat):Int)) l []=df F∧KP q (s++[h]) F:=by
 obtain⟨F,h1,h2⟩:=zBy (eqv:=List.Perm) (step:=yJ ⟨mtb x N⟩ (q:Int) ((nE h:Nat):Int)) (l:=l) (s:=[]) (zAU q s h) (fun L' hL=>by have:=zG7 hN gc hq hs (h:=h) L' [] (hk.perm hL).a (zE9 hN gc hi (hk.perm hL));simpa[zAU]using this) (fun L' hL=>hL.flatMap_right _)
 exact⟨F,h1,hk.next hN gc hi (h2 l (.refl _))⟩
theorem zDK(hq:2≤q)(eb:q≤1000){t:List (EA x w)}(ht:t.length≤1000)(hi:Inj q t):∃l,f_m ⟨mtb x N⟩ (t.map fun a=>((nE a:Nat):Int)) (q:Int)=df l∧KP q t l:=by
 obtain⟨r,h1,h2⟩:=vG (body:=zLO ⟨mtb x N⟩ (t.map fun a=>((nE a:Nat):Int)) (q:Int)) (Q:=fun r=>KP q t r) (fun i s=>s.2=(i:Int)∧KP q (t.take i) s.1) t.length (fun i s fH hs=>by
  left;have pG:t[i]? =df t[i]:=J5 fH;have cv:t.take (i+1)=t.take i++[t[i]]:=by rw[Hc,pG];rfl
  have aE:Inj q (t.take i++[t[i]]):=by rw[←cv];refine Inj.pre (r:=t.drop (i+1)) hq ?_;rw[H9];exact hi
  obtain⟨F,f1,f2⟩:=zJa hN gc eb (by rw[Lj];omega) aE hs.2;refine⟨(F,((i+1:Nat):Int)),?_,rfl,by rw[cv];exact f2⟩;unfold zLO;rw[hs.1,Jl,xR fH,zH,yT,Jf,pG,Lh,bs,f1,bs,zD (by omega) (by omega),bs];rfl) (fun s hs=>by
  refine⟨s.1,?_,?_⟩
  ·unfold zLO
   rw[hs.1,Jl,tK,zG]
  ·have:=hs.2
   rwa [Ku]at this) (s:=([(0,[])],0)) ⟨rfl,by
  rw[Lp];refine⟨fun u hu=>⟨[],⟨rfl,by simp⟩,?_⟩,fun e he=>?_,by simp⟩
  ·have:=List.mem_singleton.1 hu
   rw[this];show _=(((nE (1:EA x w):Nat):Int),_);rw[zBU];rfl
  ·have:e=[]:=Ji he.1
   subst this;show(((nE (1:EA x w):Nat):Int),_)∈_;rw[zBU];simp⟩
 refine⟨r,?_,h2⟩;unfold f_m;rw[zG6 (by simp),bs,Jr,h1,bs]
theorem KP.get{t:List (EA x w)}{l:List (Int×List Int)}(hk:KP q t l)(a:EA x w):kV l ((nE a:Nat):Int)=xpo q t a:=by
 cases he:xpo q t a with
 |none=>
  refine zBI fun u hu e=>?_
  obtain⟨f,hf,rfl⟩:=hk.a u hu;simp only at e;have:vl t f=a:=tW hN gc (by omega);exact uA.1 he ⟨f,hf,this⟩
 |some f=>
  obtain⟨h1,h2⟩:=wO he;have hm:=hk.b f h1;rw[h2]at hm;obtain⟨l1,l2,e⟩:=U4 hm;rw[e];refine zEw (a:=(((nE a:Nat):Int),f)) fun u hu e2=>?_
  have eo:=hk.c;rw[e,Kn,Jc]at eo;exact(H1.1 eo).2.2 u.1 (J7.2 ⟨u,hu,rfl⟩) _ (by simp) e2
end
end Go.Pl

namespace Go.Pl
open Go Go.Ab Go.Wk Go.Pc GrT
section
variable {A:Type} [GrT A]
noncomputable def zAf (q n:Nat) (t:List A) (x:A):List A→List Int→List Int
 | [],out=>out
 |h::s,out=>zAf q n t x s (match xpo q t (x⁻¹*h*x)with
  |none=>out
  |some e=>out++(J1 (n-t.length) 0++e))
variable {q n:Nat}{t:List A}{x:A}
theorem zG8:∀(s r:List A)(out:List Int),zAf q n t x (s++r) out=zAf q n t x r (zAf q n t x s out)
 | [],_,_=>rfl
 |h::s,r,out=>by rw[Ka,zAf,zAf];exact zG8 s r _
theorem zC9(hn:t.length≤n):∀(s:List A)(out:List Int),(zAf q n t x s out).length≤out.length+n*s.length∧out.length≤(zAf q n t x s out).length
 | [],out=>by simp[zAf]
 |h::s,out=>by
  rw[zAf,Jn,Lo];cases he:xpo q t (x⁻¹*h*x)with
  |none=>have:=zC9 hn s out;simp only;omega
  |some e=>
   have h1:=zC9 hn s (out++(J1 (n-t.length) 0++e));have h2:=(wO he).1.1;simp only[Je,Jk]at h1 ⊢
   omega
theorem zKL(hn:t.length≤n)(h0:1≤n):∀(s:List A)(out:List Int),(∀r,zAe q n t x s out=df r→zAf q n t x s out=r)∧(zAe q n t x s out=dg→(zAf q n t x s out).length<out.length+n*s.length)
 | [],out=>by simp[zAe,zAf]
 |h::s,out=>by
  rw[zAe,zAf,Jn,Lo];cases he:xpo q t (x⁻¹*h*x)with
  |none=>
   refine⟨fun r h=>by simp at h,fun _=>?_⟩;have:=(zC9 (q:=q) (x:=x) hn s out).1;simp only;omega
  |some e=>
   have h1:=zKL hn h0 s (out++(J1 (n-t.length) 0++e));have h2:=(wO he).1.1;refine⟨h1.1,fun h=>?_⟩;have h3:=h1.2 h;simp only[Je,Jk]at h3 ⊢
   omega
end
section
variable {x:SPr}{w:Pres x∧xD (suf x 0)}{N:Nat} (hN:pr x.zA x.zA.length=(N:Int)) (gc:N≤1000) {q n:Nat}{t:List (EA x w)}
 include hN gc
theorem KP.filt{l:List (Int×List Int)}(hk:KP q t l)(y:EA x w):l.filter (fun u=>u.1==((nE y:Nat):Int))=match xpo q t y with
  |some e=>[(((nE y:Nat):Int),e)]
  |none=>[]:=by
 cases he:xpo q t y with
 |none=>
  refine H2.2 fun u hu e=>?_
  obtain⟨f,hf,rfl⟩:=hk.a u hu;simp only[beq_iff_eq]at e;exact uA.1 he ⟨f,hf,tW hN gc (by omega)⟩
 |some f=>
  obtain⟨h1,h2⟩:=wO he;have hm:=hk.b f h1;rw[h2]at hm;obtain⟨l1,l2,e⟩:=U4 hm;have eo:=hk.c;rw[e,Kn,Jc]at eo;have mR:=H1.1 eo;rw[e,List.filter_append,Hz (by simp)];have e1:l1.filter (fun u=>u.1==((nE y:Nat):Int))=[]:=H2.2 fun u hu e2=>by simp only[beq_iff_eq]at e2;exact mR.2.2 u.1 (J7.2 ⟨u,hu,rfl⟩) _ (by simp) e2
  have e2:l2.filter (fun u=>u.1==((nE y:Nat):Int))=[]:=H2.2 fun u hu e2=>by simp only[beq_iff_eq]at e2;exact(K0.1 mR.2.1).1 (J7.2 ⟨u,hu,e2⟩)
  rw[e1,e2];rfl
 omit hN gc in
theorem zQ9{r:List Int}{a:Nat}(hr:r.length≤1000)(ha:a≤1000):zJj r (a:Int) 0=df (J1 a 0++r):=by have:=zGz (r:=r) (a:=a) (b:=0) hr ha (by omega);simpa using this
def zJb(n m:Nat)(u:Int×List Int):List Int:=J1 (n-m) 0++u.2
theorem zMG{X h:EA x w}(hn:n≤1000)(hm:t.length≤1000){y:EA x w}{e:List Int}(he:e.length=t.length){S:List Int}(hS:S.length≤1000000000):
  yH ⟨mtb x N⟩ ((nE X:Nat):Int) ((n-t.length:Nat):Int) ((nE h:Nat):Int) (((nE y:Nat):Int),e) S=df (if(((nE y:Nat):Int)==((nE (X⁻¹*h*X):Nat):Int))=dh then S++zJb n t.length (((nE y:Nat):Int),e)else S):=by
 unfold yH;simp only
 rw[zC8 hN gc,bs,zFn hN gc,bs,zC8 hN gc,bs,zFn hN gc,bs];have ei:nE (h*X)=nE (X*y)↔nE y=nE (X⁻¹*h*X):=by
  constructor
  ·intro e1
   have e2:h*X=X*y:=tW hN gc e1;have:y=X⁻¹*h*X:=by rw[as,e2,cl1]
   rw[this]
  ·intro e1
   have e2:y=X⁻¹*h*X:=tW hN gc e1;rw[e2,as,cl2]
 by_cases hc:nE y=nE (X⁻¹*h*X)
 ·rw[if_pos (by rw[hc];simp),show(((nE (h*X):Nat):Int)==((nE (X*y):Nat):Int))=dh from by rw[ei.2 hc];simp,zH,zQ9 (by omega) (by omega),bs,yX (by simp;omega),bs]
  simp[zJb]
 ·rw[if_neg (by simp;omega),show(((nE (h*X):Nat):Int)==((nE (X*y):Nat):Int))=di from by
   have:=fun e=>hc (ei.1 e)
   simp;omega,zG]
theorem zDL{X h:EA x w}(hn:n≤1000)(hm:t.length≤1000):∀(L:List (Int×List Int))(S:List Int),(∀u∈L,∃e,Ex q t.length e∧u=(((nE (vl t e):Nat):Int),e))→S.length+2000*(L.filter (fun u=>u.1==((nE (X⁻¹*h*X):Nat):Int))).length≤1000000→
  tT (yH ⟨mtb x N⟩ ((nE X:Nat):Int) ((n-t.length:Nat):Int) ((nE h:Nat):Int)) L S=df (S++(L.filter (fun u=>u.1==((nE (X⁻¹*h*X):Nat):Int))).flatMap (zJb n t.length))
 | [],S,_,_=>by simp[tT]
 |u::L,S,hu,hb=>by
  obtain⟨e,he,rfl⟩:=hu u (by simp);rw[tT,zMG hN gc hn hm he.1 (by omega),bs]
  by_cases hc:(((nE (vl t e):Nat):Int)==((nE (X⁻¹*h*X):Nat):Int))=dh
  ·rw[Hz (by exact hc)]at hb ⊢
   rw[if_pos hc,zDL hn hm L _ (fun v hv=>hu v (by simp[hv])) ?_]
   ·simp
   ·simp only[Jn,Je,zJb,Jk,he.1]at hb ⊢
    omega
  ·rw[List.filter_cons_of_neg (by exact hc)]at hb ⊢
   rw[if_neg hc,zDL hn hm L _ (fun v hv=>hu v (by simp[hv])) hb]
theorem zJc{X h:EA x w}(hn:n≤1000)(hm:t.length≤1000){l:List (Int×List Int)}(hk:KP q t l){S:List Int}(hS:S.length≤900000):
  qX Eq (yH ⟨mtb x N⟩ ((nE X:Nat):Int) ((n-t.length:Nat):Int) ((nE h:Nat):Int)) l S=df (match xpo q t (X⁻¹*h*X)with
   |none=>S
   |some e=>S++(J1 (n-t.length) 0++e)):=by
 have hf:∀L':List (Int×List Int),L'.Perm l→(L'.filter (fun u=>u.1==((nE (X⁻¹*h*X):Nat):Int))).length≤1:=fun L' hL=>by rw[KP.filt hN gc (hk.perm hL)];split<;>simp
 obtain⟨F,h1,h2⟩:=zBy (eqv:=Eq) (step:=yH ⟨mtb x N⟩ ((nE X:Nat):Int) ((n-t.length:Nat):Int) ((nE h:Nat):Int)) (l:=l) (s:=S) (fun L'=>S++(L'.filter (fun u=>u.1==((nE (X⁻¹*h*X):Nat):Int))).flatMap (zJb n t.length)) (fun L' hL=>by have:=hf L' hL;exact zDL hN gc hn hm (h:=h) L' S (hk.perm hL).a (by omega)) (fun L' hL=>by rw[KP.filt hN gc (hk.perm hL),KP.filt hN gc hk])
 rw[h1,←h2 l (.refl _),KP.filt hN gc hk];cases xpo q t (X⁻¹*h*X)with
 |none=>simp
 |some e=>simp[zJb]
theorem zFq(X:EA x w)(hq:q≤1000)(hn:n≤100)(h0:1≤n)(hm:t.length≤n){l:List (Int×List Int)}(hk:KP q t l):
  ∃r,f_w ⟨mtb x N⟩ (t.map fun a=>((nE a:Nat):Int)) l ((nE X:Nat):Int) (q:Int) (n:Int)=df r∧(∀out,seg q n t X=df out→r=(out,dh))∧(seg q n t X=dg→r.2=di):=by
 unfold f_w seg;rw[KP.get hN gc hk];cases he:xpo q t X with
 |some e=>exact⟨([],di),rfl,fun out h=>by simp at h,fun _=>rfl⟩
 |none=>
  rw[show(none:Option (List Int)).isSome=di from rfl,zG,zDJ hN gc X q hq,bs,KP.get hN gc hk];cases hp:xpo q t (pg X q)with
  |none=>exact⟨([],di),rfl,fun out h=>by simp at h,fun _=>rfl⟩
  |some e=>
   have bj:=(wO hp).1.1;rw[show(!(df e:Option (List Int)).isSome)=di from rfl,zG,Jl,zD (by omega) (by omega),bs,show((n:Int)-(t.length:Int))=((n-t.length:Nat):Int)by omega,Kc,zQ9 (by omega) (by omega),bs];have mY:(J1 (n-t.length) (0:Int)++e).length=n:=by simp;omega
   generalize hr0:J1 (n-t.length) (0:Int)++e=r0 at*
   have hmm:n*t.length≤100*100:=L6 (by omega) (by omega);have hb:∀i,i≤t.length→(zAf q n t X (t.take i) r0).length≤20000:=fun i hi=>by have:=(zC9 (q:=q) (x:=X) hm (t.take i) r0).1;rw[Lj]at this;have h2:n*min i t.length≤n*t.length:=Ln _ (by omega);omega
   have mU:=zX (body:=zJt ⟨mtb x N⟩ (t.map fun a=>((nE a:Nat):Int)) l ((nE X:Nat):Int) ((n-t.length:Nat):Int)) (r:=zAf q n t X t r0) (fun i=>(zAf q n t X (t.take i) r0,(i:Int))) t.length (fun i fH=>by
    have pG:t[i]? =df t[i]:=J5 fH;have cv:t.take (i+1)=t.take i++[t[i]]:=by rw[Hc,pG];rfl
    unfold zJt;simp only
    have:=hb i (by omega);rw[Jl,xR fH,zH,yT,Jf,pG,Lh,bs,zJc hN gc (by omega) (by omega) hk (by omega),bs,zD (by omega) (by omega),bs,cv,zG8];rfl) (by
    unfold zJt;simp only
    rw[Jl,tK,zG,Ku])
   rw[show zC (zJt ⟨mtb x N⟩ (t.map fun a=>((nE a:Nat):Int)) l ((nE X:Nat):Int) ((n-t.length:Nat):Int)) (r0,0)=_ from mU,bs];have fM:=hb t.length (Jg _);rw[Ku]at fM;have mS:((n:Int)*(1+(t.length:Int)))=((n*(1+t.length):Nat):Int):=by simp
   have fb:n*(1+t.length)=n+n*t.length:=by rw[H8,Ur]
   rw[zD (by omega) (by omega),bs,mS,zD (by omega) (by omega),bs];have hL:=zKL (q:=q) (x:=X) hm h0 t r0;refine⟨_,rfl,fun out h=>?_,fun h=>?_⟩
   ·have h:zAe q n t X t r0=df out:=by rw[←hr0];exact h
    have h1:=hL.1 out h;have h2:=zDH hm t r0 out h;rw[h1,h2,mY,fb];simp
   ·have h:zAe q n t X t r0=dg:=by rw[←hr0];exact h
    have h1:=hL.2 h;simp;omega
end
end Go.Pl

namespace Go.Pl
open Go Go.Ab Go.Wk Go.Pc GrT
section
variable {x:SPr}{w:Pres x∧xD (suf x 0)}{N:Nat} (hN:pr x.zA x.zA.length=(N:Int)) (gc:N≤1000) {q n:Nat}{t:List (EA x w)}
noncomputable def tvx (q n:Nat) (t:List (EA x w)) (a:EA x w):List Int:=match xpo q t a with
 |none=>[]
 |some e=>J1 (n-t.length) 0++e
def TB(q n N:Nat)(t:List (EA x w))(T:Mx):Prop:=T.length=N∧ ∀a:EA x w,ixO T ((nE a:Nat):Int)=df (tvx q n t a)
theorem zCA(hm:t.length≤n)(a:EA x w):(tvx q n t a).length=if(xpo q t a).isSome then n else 0:=by
 unfold tvx;cases he:xpo q t a with
 |none=>rfl
 |some e=>
  have:=(wO he).1.1;simp;omega
 include hN gc
theorem zG9{X:EA x w}{T:Mx}(hT:TB q n N t T)(hn:n≤100)(h0:1≤n)(hm:t.length≤n):∀(d i:Nat)(out:List Int),i+d=t.length→out.length+1000*d≤1000000→
  zC (zJn x ⟨t.map (·.1),T⟩ X.1 (X⁻¹).1) (out,(i:Int))=df (match zAe q n t X (t.drop i) out with
   |some r=>.inl r
   |none=>.inr ([],di))
 |0,i,out,hi,_=>by
  obtain rfl:i=t.length:=by omega
  rw[zM];unfold zJn;simp only
  rw[Jl,tK,zG,Kw];rfl
 |d+1,i,out,hi,hb=>by
  have fH:i<t.length:=by omega
  have pG:t[i]? =df t[i]:=J5 fH;have e1:(X⁻¹*(t[i]*X):EA x w)=X⁻¹*t[i]*X:=by rw[as]
  have gA:zJn x ⟨t.map (·.1),T⟩ X.1 (X⁻¹).1 (out,(i:Int))=df (match xpo q t (X⁻¹*t[i]*X)with
   |none=>.inr (.inr ([],di))
   |some e=>.inl (out++(J1 (n-t.length) 0++e),((i+1:Nat):Int))):=by
   unfold zJn;simp only
   rw[Jl,xR fH,zH,yT,Jf,pG,Lh,bs,zIz w.1 w.2 t[i].2 X.2,bs,show mul (suf x 0) t[i].1 X.1=(t[i]*X).1 from rfl,zIz w.1 w.2 (X⁻¹).2 (t[i]*X).2,bs,show mul (suf x 0) (X⁻¹).1 (t[i]*X).1=(X⁻¹*(t[i]*X)).1 from rfl,e1,(zAd w.1 hN (by omega) (X⁻¹*t[i]*X).2).2,bs,show((nv x (X⁻¹*t[i]*X).1:Nat):Int)=((nE (X⁻¹*t[i]*X):Nat):Int)from rfl,hT.2,bs,zCA hm];unfold tvx;cases he:xpo q t (X⁻¹*t[i]*X)with
   |none=>simp
   |some e=>
    have bj:=(wO he).1.1;rw[show(((if(df e:Option (List Int)).isSome then n else 0:Nat):Int)==0)=di from by simp;omega,zG];simp only
    rw[yX (by simp;omega),bs,zD (by omega) (by omega),bs];rfl
  rw[Jw fH,zAe,zM,gA];cases he:xpo q t (X⁻¹*t[i]*X)with
  |none=>rfl
  |some e=>
   have bj:=(wO he).1.1;exact zG9 (X:=X) hT hn h0 hm d (i+1) (out++(J1 (n-t.length) 0++e)) (by omega) (by simp only[Je,Jk];omega)
theorem zOC(X:EA x w){T:Mx}(hT:TB q n N t T)(hq:q≤1000)(hn:n=x.zA.length)(ho:at0 x.zA 0=(q:Int))(h0:1≤n)(hm:t.length≤n)(at_:Int):
  f_K x ⟨t.map (·.1),T⟩ X.1 at_=df (match seg q n t X with
   |some out=>(out,dh)
   |none=>([],di)):=by
 have h9:=w.1.os.1;unfold f_K seg;have hpw:zLC x X.1 (q:Int)=df (pg X q).1:=by rw[zQ2 w.1 w.2 X.2 (by omega) (by omega),zNJ,Jj]
 obtain⟨iv,i1,i2,i3⟩:=zKC w.1 w.2 X.2;have hiv:iv=(X⁻¹).1:=by have:mkE w iv i1=X⁻¹:=zFe (Subtype.ext i2);rw[←this];rfl
 rw[show(0:Int)=((0:Nat):Int)from rfl,yR (by omega),bs,ho,(zAd w.1 hN (by omega) X.2).2,bs,show((nv x X.1:Nat):Int)=((nE X:Nat):Int)from rfl,hT.2,bs,zCA hm];cases he:xpo q t X with
 |some e=>
  rw[show decide (((if(df e:Option (List Int)).isSome then n else 0:Nat):Int)> ((0:Nat):Int))=dh from by simp;omega,zH]
 |none=>
  rw[show decide (((if(none:Option (List Int)).isSome then n else 0:Nat):Int)> ((0:Nat):Int))=di from by simp,zG,i3,bs,hiv,hpw,bs,(zAd w.1 hN (by omega) (pg X q).2).2,bs,show((nv x (pg X q).1:Nat):Int)=((nE (pg X q):Nat):Int)from rfl,hT.2,bs,zCA hm];unfold tvx;cases hp:xpo q t (pg X q)with
  |none=>simp
  |some e=>
   have bj:=(wO hp).1.1;rw[show(((if(df e:Option (List Int)).isSome then n else 0:Nat):Int)==((0:Nat):Int))=di from by simp;omega,zG];simp only
   rw[vZ (by simp;omega),bs,zG9 hN gc hT (by omega) h0 hm t.length 0 _ (by omega) (by simp;omega),bs,Lr];cases zAe q n t X t (J1 (n-t.length) 0++e)<;>rfl
end
end Go.Pl
