/- x -/
import Derived.Test.YtchnmobojdcikaaGreatQAbB
import Derived.Test.YtchnmobojdcikaaGreatQWF
open List renaming replicate→J1,getD_eq_getElem?_getD→J4,getElem?_eq_getElem→J7,mem_map→Ja,getElem?_eq_some_iff→Jb,range→Jf,getElem?_append_right→Jg,append_assoc→Jh,length_append→Ji,append_nil→Jk,map_cons→Jl,take_of_length_le→Jn,mem_range→Jp,mem_cons→Jq,mem_iff_getElem→Js,length_map→Ju,nil_append→Jy,getElem?_map→Jz,getElem?_replicate→K0,mem_append→K6,take_succ_eq_append_getElem→Kb,getElem?_append→Kg,length_cons→Ki,range_succ→Kj,length_take→Kl,replicate_append_replicate→Kq,ext_getElem?→Kt,getElem_mem→Kz,replicate_succ→L1,getElem?_append_left→L6,take_succ_cons→L7,set_cons_zero→L8,length_singleton→Lf,getElem?_drop→Lg,map_congr_left→Lt,singleton_append→Lx,take_zero→Lz,length_drop→H3,length_nil→H7,map_append→Hk,drop_of_length_le→Ht,set_append_right→Hx,map_nil→G5,drop_zero→G7,length_replicate→Gg,cons_append→Gi,all_cons→Gk,mem_flatMap→Gm,range'→U1,length_range→U5,getElem?_cons_zero→U9,range_succ_eq_map→Ub,suffix_cons_iff→Ui,replicate_succ'→Uj,replicate_zero→Uq,getD_cons_zero→Us,findSome?_cons→Ut,drop_eq_getElem_cons→Q5,flatMap_append→Qh,getElem?_set→Qn,range'_succ→Qr,getElem?_cons_succ→Qy,map_map→Jah
open Bool renaming and_eq_true→J2,not_true→J5,not_false→Jr
open Int renaming mul_emod→J6,toNat_natCast→J9,emod_emod→Je,emod_eq_emod_iff_emod_sub_eq_zero→Jo,add_emod→Jv,mul_zero→Jw,emod_lt_of_pos→Jx,emod_eq_of_lt→K5,mul_one→K7,emod_nonneg→K8,mul_assoc→K9,mul_comm→Kk,one_mul→Kw,tmod_eq_emod_of_nonneg→L2,mul_le_mul→L3,zero_mul→Ld,add_zero→Lp,toNat_zero→Hc,tdiv_eq_ediv_of_nonneg→Hm,mul_nonneg→Hn,zero_add→Hr,add_emod_right→G9,sub_zero→Gz,add_mul_emod_self_left→U2,tmod_add_mul_tdiv→Un,lt_tmod_of_pos→Q7,tmod→Qo,tmod_lt_of_pos→Qt
open Nat renaming zero_add→J8,le_refl→Jd,mul_le_mul→Jj,lt_or_ge→Jm,zero_le→Kd,succ_mul→Kx,sub_self→Ky,le_trans→H6,lt_trichotomy→Gy,min_eq_left→Ua,eq_zero_or_pos→Qp,zero_sub→Qv,sub_zero→Qw,add_zero→Qx
open Option renaming map_eq_some_iff→Ke,some→Lw,getD_some→Gu,map_some→Gx
open Option renaming some→dq,none→dt
open Bool renaming true→du,false→dv
namespace Go.Pc
abbrev Vec:=List Int
structure Lvl where
 o:Int
 w:Vec
 cs:List Vec
abbrev Pcp:=List Lvl
def zeros(n:Nat):Vec:=J1 n 0
def iter{α:Type}:Nat→(α→α)→α→α
 |0,_,x=>x
 |n+1,f,x=>iter n f (f x)
theorem tU{α:Type}(f:α→α):∀(n:Nat)(x:α),iter (n+1) f x=f (iter n f x)
 |0,_=>rfl
 |n+1,x=>by rw[iter,tU f n (f x)];rfl
theorem zDO{α:Type}(f:α→α)(a:Nat):∀(b:Nat)(x:α),iter (a+b) f x=iter a f (iter b f x)
 |0,_=>rfl
 |b+1,x=>by show iter (a+b) f (f x)=_;rw[zDO f a b (f x)];rfl
def img{α:Type}(m:α→α→α):List α→Vec→α→α
 |c::cs,x::xs,acc=>img m cs xs (iter x.toNat (fun v=>m v c) acc)
 |_,_,acc=>acc
def V:Pcp→Vec→Prop
 | [],v=>v=[]
 |l::P,v=>match v with
  | []=>False
  |a::x=>(0≤a∧a<l.o)∧V P x
def mul:Pcp→Vec→Vec→Vec
 |l::P,a::x,b::y=>
  let r:=mul P (iter b.toNat (fun v=>img (mul P) l.cs v (zeros P.length)) x) y
  if a+b≥l.o then(a+b-l.o)::mul P l.w r else(a+b)::r
 |_,_,_=>[]
def Ok:Pcp→Prop
 | []=>True
 |l::P=>1<l.o∧V P l.w∧l.cs.length=P.length∧(∀c∈l.cs,V P c)∧Ok P
structure Mon {α:Type} (S:α→Prop) (m:α→α→α) (e:α):Prop where
 cl:∀{a b},S a→S b→S (m a b)
 ein:S e
 assoc:∀{a b c},S a→S b→S c→m (m a b) c=m a (m b c)
 onel:∀{a},S a→m e a=a
 oner:∀{a},S a→m a e=a
structure Grp {α:Type} (S:α→Prop) (m:α→α→α) (e:α):Prop extends Mon S m e where
 inv:∀{a},S a→ ∃b,S b∧m a b=e
theorem Grp.invl{α:Type}{S:α→Prop}{m:α→α→α}{e:α}(h:Grp S m e){a:α}(ha:S a):∃b,S b∧m a b=e∧m b a=e:=by
 obtain⟨b,hb,h1⟩:=h.inv ha;obtain⟨c,hc,h2⟩:=h.inv hb;refine⟨b,hb,h1,?_⟩;have:a=c:=by rw[←h.oner ha,←h2,←h.assoc ha hb hc,h1,h.onel hc]
 grind
theorem Grp.cancel_l{α:Type}{S:α→Prop}{m:α→α→α}{e:α}(h:Grp S m e){a b c:α}(ha:S a)(hb:S b)(hc:S c)(hh:m a b=m a c):b=c:=by obtain⟨d,hd,_,h2⟩:=h.invl ha;rw[←h.onel hb,←h.onel hc,←h2,h.assoc hd ha hb,h.assoc hd ha hc,hh]
section
variable {α:Type}{S:α→Prop}{m:α→α→α}{e:α}
def pw(m:α→α→α)(e:α)(x:α)(k:Nat):α:=iter k (fun v=>m v x) e
theorem tA(h:Mon S m e){x:α}(hx:S x):∀k,S (pw m e x k)
 |0=>h.ein
 |k+1=>by rw[pw,tU];exact h.cl (tA h hx k) hx
theorem sM{f:α→α}(hf:∀a,S a→S (f a)):∀(k:Nat){x:α},S x→S (iter k f x)
 |0,_,hx=>hx
 |k+1,_,hx=>sM hf k (hf _ hx)
theorem zDP(h:Mon S m e){x a:α}(hx:S x)(ha:S a):∀k,iter k (fun v=>m v x) a=m a (pw m e x k)
 |0=>(h.oner ha).symm
 |k+1=>by rw[tU,zDP h hx ha k];show _=m a (iter (k+1) (fun v=>m v x) e);rw[tU];exact h.assoc ha (tA h hx k) hx
theorem zGx(h:Mon S m e){x:α}(hx:S x)(a b:Nat):pw m e x (a+b)=m (pw m e x a) (pw m e x b):=by rw[Nat.add_comm,pw,zDO,←zDP h hx (tA h hx a) b];rfl
theorem zQm(h:Mon S m e){x:α}(hx:S x):pw m e x 1=x:=h.onel hx
theorem zQn(h:Mon S m e){x:α}(hx:S x)(k:Nat):pw m e x (k+1)=m x (pw m e x k):=by rw[Nat.add_comm,zGx h hx 1 k,zQm h hx]
theorem zAt(h:∀{a b},S a→S b→S (m a b)):∀(cs:List α)(x:Vec){a:α},(∀c∈cs,S c)→S a→S (img m cs x a)
 |c::cs,x::xs,_,hc,ha=>by simp only[img];exact zAt h cs xs (by grind) (sM (by simp_all) _ ha)
 | [],_,_,_,ha=>by grind[img]
 |_::_,[],_,_,ha=>by grind[img]
theorem zE4(h:Mon S m e)(cs:List α)(x:Vec){a:α}(hc:∀c∈cs,S c)(ha:S a):S (img m cs x a):=zAt h.cl cs x hc ha
theorem zDQ(h:Mon S m e):∀(cs:List α)(x:Vec){a:α},(∀c∈cs,S c)→S a→img m cs x a=m a (img m cs x e)
 |c::cs,x::xs,a,hc,ha=>by
  have h1:S c:=hc c (by simp);have h2:∀c∈cs,S c:=by grind
  simp only[img];rw[zDP h h1 ha,zDQ h cs xs h2 (h.cl ha (tA h h1 _)),zDP h h1 h.ein,zDQ h cs xs h2 (h.cl h.ein (tA h h1 _)),h.onel (tA h h1 _),
   h.assoc ha (tA h h1 _) (zE4 h cs xs h2 h.ein)]
 | [],_,a,_,ha=>by simp[img,h.oner ha]
 |_::_,[],a,_,ha=>by simp[img,h.oner ha]
theorem qI(h:Mon S m e){c:α}{cs:List α}{x:Int}{xs:Vec}(hc:S c)(gZ:∀c∈cs,S c):img m (c::cs) (x::xs) e=m (pw m e c x.toNat) (img m cs xs e):=by simp only[img];rw[zDQ h cs xs gZ (sM (fun a ha=>h.cl ha hc) _ h.ein)];rfl
theorem zBw(m:α→α→α):∀(cs:List α)(n:Nat)(a:α),img m cs (zeros n) a=a
 | [],_,_=>by simp[img]
 |_::_,0,_=>by rfl
 |c::cs,n+1,a=>by simp only[zeros,L1,img,Hc,iter];exact zBw m cs n a
theorem zGy(h:Mon S m e){g:α}(hg:S g):∀(cs ds:List α)(x:Vec),(∀c∈cs,S c)→(∀c∈ds,S c)→cs.length=ds.length→(∀(k:Nat) c d,cs[k]? =dq c→ds[k]? =dq d→m c g=m g d)→m (img m cs x e) g=m g (img m ds x e)
 | [],[],x,_,_,_,_=>by simp[img,h.onel hg,h.oner hg]
 |c::cs,d::ds,[],_,_,_,_=>by simp[img,h.onel hg,h.oner hg]
 |c::cs,d::ds,x::xs,hc,hd,hl,hp=>by
  have eM:S c:=hc c (by simp);have hd0:S d:=hd d (by simp);have gZ:∀c∈cs,S c:=by grind
  have pb:∀c∈ds,S c:=by grind
  have key:∀k,m (pw m e c k) g=m g (pw m e d k):=by
   intro k
   induction k with
   |zero=>simp[pw,iter,h.onel hg,h.oner hg]
   |succ k ih=>
    have h0:m c g=m g d:=hp 0 c d rfl rfl;rw[pw,tU,pw,tU];show m (m (pw m e c k) c) g=m g (m (pw m e d k) d);rw[h.assoc (tA h eM k) eM hg,h0,←h.assoc (tA h eM k) hg hd0,ih,h.assoc hg (tA h hd0 k) hd0]
  rw[qI h eM gZ,qI h hd0 pb,h.assoc (tA h eM _) (zE4 h _ _ gZ h.ein) hg,zGy h hg cs ds xs gZ pb (by grind) (fun k c d h1 h2=>hp (k+1) c d (by grind) (by grind)),
   ←h.assoc (tA h eM _) hg (zE4 h _ _ pb h.ein),key,h.assoc hg (tA h hd0 _) (zE4 h _ _ pb h.ein)]
theorem zNj{β:Type}{T:β→Prop}{n:β→β→β}{f:β}(h:Mon S m e)(h':Mon T n f)(φ:α→β)(gM:∀a,S a→T (φ a))(h1:φ e=f)(hm:∀a b,S a→S b→φ (m a b)=n (φ a) (φ b)):∀(cs:List α)(x:Vec),(∀c∈cs,S c)→φ (img m cs x e)=img n (cs.map φ) x f
 | [],_,_=>by simp[img,h1]
 |c::cs,[],_=>by simp[img,h1]
 |c::cs,x::xs,hc=>by
  have eM:S c:=hc c (by simp);have gZ:∀c∈cs,S c:=by grind
  have key:∀k,φ (pw m e c k)=pw n f (φ c) k:=by
   intro k
   induction k with
   |zero=>grind[pw,iter]
   |succ k ih=>
    grind[pw,tU,tA]
  rw[qI h eM gZ,Jl,qI h' (gM c eM) (by simp_all),hm _ _ (tA h eM _) (zE4 h _ _ gZ h.ein),key,zNj h h' φ gM h1 hm cs xs gZ]
end
theorem vQ:∀{P:Pcp},Ok P→V P (zeros P.length)
 | [],_=>rfl
 |l::P,h=>by simp only[Ok]at h;simp only[Ki,zeros,L1,V];exact⟨by omega,vQ h.2.2.2.2⟩
theorem wI:∀{P:Pcp},Ok P→ ∀{x y:Vec},V P x→V P y→V P (mul P x y)
 | [],_,_,_,hx,hy=>by rfl
 |l::P,h,[],_,hx,_=>by grind[V]
 |l::P,h,_::_,[],_,hy=>by grind[V]
 |l::P,h,a::x,b::y,hx,hy=>by
  simp only[Ok]at h;simp only[V]at hx hy;have h1:∀v,V P v→V P (img (mul P) l.cs v (zeros P.length)):=fun v hv=>zAt (wI h.2.2.2.2) l.cs v h.2.2.2.1 (vQ h.2.2.2.2)
  have h2:=wI h.2.2.2.2 (sM h1 b.toNat hx.2) hy.2;simp only[mul];split
  ·exact⟨by omega,wI h.2.2.2.2 h.2.1 h2⟩
  ·exact⟨by omega,h2⟩
def Rel{α:Type}(m:α→α→α)(e:α):Pcp→List α→Prop
 | [],s=>s=[]
 |l::P,s=>match s with
  | []=>False
  |g::s=>pw m e g l.o.toNat=img m s l.w e∧(∀(k:Nat) c d,s[k]? =dq c→l.cs[k]? =dq d→m c g=m g (img m s d e))∧Rel m e P s
section
variable {α:Type}{S:α→Prop}{m:α→α→α}{e:α}
theorem zWy(h:Mon S m e):∀(P:Pcp)(s:List α),Ok P→(∀g∈s,S g)→Rel m e P s→ ∀x y,V P x→V P y→img m s (mul P x y) e=m (img m s x e) (img m s y e)
 | [],s,_,_,hr,x,y,hx,hy=>by simp only[Rel]at hr;subst hr;simp[img,h.onel h.ein]
 |l::P,[],_,_,hr,_,_,_,_=>by grind[Rel]
 |l::P,g::s,_,_,_,[],_,hx,_=>by grind[V]
 |l::P,g::s,_,_,_,_::_,[],_,hy=>by grind[V]
 |l::P,g::s,hk,hs,hr,a::x,b::y,hx,hy=>by
  simp only[Ok]at hk;simp only[Rel]at hr;simp only[V]at hx hy;obtain⟨ho,hw,gJ,gZ,tp⟩:=hk;obtain⟨gE,gA,ee⟩:=hr;have hg:S g:=hs g (by simp);have po:∀c∈s,S c:=by grind
  have gm:s.length=P.length:=by
   clear gE gA hx hy hw gJ gZ hs po
   induction P generalizing s with
   |nil=>grind[Rel]
   |cons l P ih=>
    cases s with
    |nil=>grind[Rel]
    |cons c s=>grind[Rel,Ok]
  have ih:=zWy h P s tp po ee;have hφ:∀v,S (img m s v e):=fun v=>zE4 h s v po h.ein
  have hmP:∀{a b},V P a→V P b→V P (mul P a b):=wI tp;have mJ:∀v,V P v→V P (img (mul P) l.cs v (zeros P.length)):=fun v hv=>zAt hmP l.cs v gZ (vQ tp)
  have hσ:∀v,V P v→m (img m s v e) g=m g (img m s (img (mul P) l.cs v (zeros P.length)) e):=by
   intro v hv;have key:∀(cs:List Vec)(v:Vec)(acc:Vec),(∀c∈cs,V P c)→V P acc→img m s (img (mul P) cs v acc) e=img m (cs.map fun c=>img m s c e) v (img m s acc e):=by
    intro cs
    induction cs with
    |nil=>grind[img]
    |cons c cs ihc=>
     intro v acc hc ey;cases v with
     |nil=>simp[img]
     |cons z v=>
      have eM:V P c:=hc c (by simp);have it:∀k acc,V P acc→img m s (iter k (fun v=>mul P v c) acc) e=iter k (fun v=>m v (img m s c e)) (img m s acc e):=by
       intro k
       induction k with
       |zero=>intro acc _;rfl
       |succ k ihk=>
        simp_all[iter]
      simp only[img,Jl];rw[ihc v _ (by simp_all) (sM (by grind) _ ey),it _ _ ey]
   rw[key l.cs v (zeros P.length) gZ (vQ tp),zBw];refine zGy h hg s _ v po (by simp_all) (by grind) ?_;intro k c d hc hd;simp only[Jz,Ke]at hd;obtain⟨d',pI,rfl⟩:=hd
   grind
  have hσk:∀k v,V P v→m (img m s v e) (pw m e g k)=m (pw m e g k) (img m s (iter k (fun v=>img (mul P) l.cs v (zeros P.length)) v) e):=by
   intro k
   induction k with
   |zero=>intro v _;simp[pw,iter,h.onel (hφ v),h.oner (hφ v)]
   |succ k ihk=>
    intro v hv;rw[zQn h hg,←h.assoc (hφ v) hg (tA h hg k),hσ v hv,h.assoc hg (hφ _) (tA h hg k),ihk _ (mJ v hv),←h.assoc hg (tA h hg k) (hφ _)];rfl
  have fm:=tA h hg a.toNat;have tf:=tA h hg b.toNat;have fq:V P (iter b.toNat (fun v=>img (mul P) l.cs v (zeros P.length)) x):=sM mJ _ hx.2;have bv:m (img m (g::s) (a::x) e) (img m (g::s) (b::y) e)=m (pw m e g (a.toNat+b.toNat)) (img m s (mul P (iter b.toNat (fun v=>img (mul P) l.cs v (zeros P.length)) x) y) e):=by rw[qI h hg po,qI h hg po,h.assoc fm (hφ x) (h.cl tf (hφ y)),←h.assoc (hφ x) tf (hφ y),hσk _ _ hx.2,h.assoc tf (hφ _) (hφ y),←ih _ _ fq hy.2,←h.assoc fm tf (hφ _),zGx h hg]
  rw[bv];simp only[mul];split
  ·rename_i hge
   rw[qI h hg po,ih _ _ hw (hmP fq hy.2),←gE,←h.assoc (tA h hg _) (tA h hg _) (hφ _),←zGx h hg]
   congr 2
   omega
  ·rw[qI h hg po]
   congr 2
   omega
end
def tK(n j:Nat):Vec:=(zeros n).set j 1
def sig(P:Pcp)(l:Lvl)(v:Vec):Vec:=img (mul P) l.cs v (zeros P.length)
def uT:Pcp→Prop
 | []=>True
 |l::P=>uT P∧Rel (mul P) (zeros P.length) P l.cs∧sig P l l.w=l.w∧ ∀j,j<P.length→mul P l.w (iter l.o.toNat (sig P l) (tK P.length j))=mul P (tK P.length j) l.w
theorem zHO(n:Nat):tK (n+1) 0=1::zeros n:=rfl
theorem zOo(n j:Nat):tK (n+1) (j+1)=0::tK n j:=rfl
def sH(n:Nat):List Vec:=(Jf n).map (tK n)
theorem zL8(n:Nat):sH (n+1)=(1::zeros n)::(sH n).map (0::·):=by
 simp only[sH,Ub,Jl,Jah,zHO]
 congr 1
theorem zDu:∀{P:Pcp},Ok P→ ∀{j:Nat},j<P.length→V P (tK P.length j)
 | [],_,_,hj=>by simp at hj
 |l::P,h,0,_=>by grind[Ok,zHO,V,vQ]
 |l::P,h,j+1,hj=>by simp only[Ok]at h;rw[Ki,zOo];simp only[V];exact⟨by omega,zDu h.2.2.2.2 (by grind)⟩
theorem zIL{l:Lvl}{P:Pcp}(h:Ok (l::P)){v:Vec}(_hv:V P v):V P (sig P l v):=by simp only[Ok]at h;exact zAt (wI h.2.2.2.2) l.cs v h.2.2.2.1 (vQ h.2.2.2.2)
theorem yZ(l:Lvl)(P:Pcp)(a b:Int)(x y:Vec):mul (l::P) (a::x) (b::y)=if a+b≥l.o then(a+b-l.o)::mul P l.w (mul P (iter b.toNat (sig P l) x) y)else(a+b)::mul P (iter b.toNat (sig P l) x) y:=rfl
theorem zOp{n k:Nat}{c:Vec}(h:(sH n)[k]? =dq c):k<n∧c=tK n k:=by
 simp only[sH,Jz,Ke]at h
 grind
theorem normal:∀(P:Pcp),Ok P→(∀Q,Q<:+P→Mon (V Q) (mul Q) (zeros Q.length))→ ∀x,V P x→img (mul P) (sH P.length) x (zeros P.length)=x
 | [],_,_,x,hx=>by grind[V,img,zeros]
 |l::P,_,_,[],hx=>by grind[V]
 |l::P,h,hM,a::x,hx=>by
  have hMl:=hM (l::P) (List.suffix_refl _);have hMP:=hM P (by simp);have h':=h;simp only[Ok]at h;simp only[V]at hx;rw[Ki,zL8];have hz:V P (zeros P.length):=vQ h.2.2.2.2;have bY:V (l::P) (1::zeros P.length):=by grind[V]
  have fe:∀c∈(sH P.length).map (0::·),V (l::P) c:=by
   intro c hc;simp only[sH,Jah,Ja,Jp]at hc;obtain⟨j,hj,rfl⟩:=hc;simp only[Function.comp,V]
   grind[zDu]
  have bR:V (l::P) (zeros (P.length+1)):=by grind[vQ]
  rw[show zeros (P.length+1)=zeros (l::P).length from rfl];rw[qI hMl bY fe];have sz:∀k:Nat,iter k (sig P l) (zeros P.length)=zeros P.length:=by
   intro k
   induction k with
   |zero=>rfl
   |succ k ih=>grind[iter,sig,zBw]
  have h1:∀k:Nat,(k:Int)<l.o→pw (mul (l::P)) (zeros (l::P).length) (1::zeros P.length) k=(k:Int)::zeros P.length:=by
   intro k
   induction k with
   |zero=>intro _;rfl
   |succ k ih=>
    intro hk;rw[pw,tU];show mul (l::P) (pw (mul (l::P)) (zeros (l::P).length) (1::zeros P.length) k) (1::zeros P.length)=_;rw[ih (by omega),yZ,if_neg (by omega)];rw[sz,hMP.onel hz];rfl
  have h2:∀(cs:List Vec)(y acc:Vec),(∀c∈cs,V P c)→V P acc→img (mul (l::P)) (cs.map (0::·)) y (0::acc)=0::img (mul P) cs y acc:=by
   intro cs
   induction cs with
   |nil=>grind[img]
   |cons c cs ih=>
    intro y acc hc ey;cases y with
    |nil=>simp[img]
    |cons z y=>
     have eM:V P c:=hc c (by simp);have it:∀(k:Nat)(acc:Vec),V P acc→iter k (fun v=>mul (l::P) v (0::c)) (0::acc)=0::iter k (fun v=>mul P v c) acc:=by
      intro k
      induction k with
      |zero=>intro _ _;rfl
      |succ k ihk=>
       intro acc ey;simp only[iter];rw[yZ,if_neg (by omega)];exact ihk _ (wI h.2.2.2.2 ey eM)
     simp only[Jl,img];rw[it _ _ ey,ih _ _ (by grind) (sM (by grind[wI]) _ ey)]
  have cD:∀c∈sH P.length,V P c:=by
   intro c hc;simp only[sH,Ja,Jp]at hc;obtain⟨j,hj,rfl⟩:=hc
   grind[zDu]
  rw[h1 a.toNat (by omega),show zeros (l::P).length=0::zeros P.length from rfl,h2 _ _ _ cD hz,normal P h.2.2.2.2 (by grind) x hx.2,yZ,if_neg (by omega)];simp only[Hc,iter];rw[hMP.onel hx.2]
  grind
theorem zNk:∀(P:Pcp),Ok P→uT P→Grp (V P) (mul P) (zeros P.length)
 | [],_,_=>by
  refine⟨⟨fun _ _=>rfl,rfl,fun _ _ _=>rfl,?_,?_⟩,fun ha=>⟨[],rfl,rfl⟩⟩<;>
  ·intro a ha
   simp only[V]at ha;subst ha;rfl
 |l::P,h,hc=>by
  have h':=h;simp only[Ok]at h;simp only[uT]at hc;obtain⟨ho,hw,gJ,gZ,hP⟩:=h;obtain⟨aY,pR,bF,bC⟩:=hc;have N:=zNk P hP aY;have hM:∀Q,Q<:+P→Mon (V Q) (mul Q) (zeros Q.length):=by
   intro Q hQ;obtain⟨t,ht⟩:=hQ;have:Ok Q∧uT Q:=by
    clear N hw gJ gZ pR bF bC h'
    induction t generalizing P with
    |nil=>grind
    |cons a t ih=>
     simp at ht;subst ht;simp only[Ok]at hP;simp only[uT]at aY
     grind
   have gF:SizeOf.sizeOf Q≤SizeOf.sizeOf P:=by
    rw[←ht]
    clear N hw gJ gZ pR bF bC h' hP aY ht this
    induction t with
    |nil=>simp
    |cons a t ih=>grind
   exact(zNk Q this.1 this.2).toMon
  have hz:V P (zeros P.length):=vQ hP;have σin:∀v,V P v→V P (sig P l v):=by grind[zIL]
  have σhom:∀x y,V P x→V P y→sig P l (mul P x y)=mul P (sig P l x) (sig P l y):=fun x y hx hy=>zWy N.toMon P l.cs hP gZ pR x y hx hy
  have σz:sig P l (zeros P.length)=zeros P.length:=zBw _ _ _ _;have itin:∀(k:Nat) v,V P v→V P (iter k (sig P l) v):=fun k v hv=>sM σin k hv
  have ithom:∀(k:Nat) x y,V P x→V P y→iter k (sig P l) (mul P x y)=mul P (iter k (sig P l) x) (iter k (sig P l) y):=by
   intro k
   induction k with
   |zero=>intro _ _ _ _;rfl
   |succ k ih=>simp_all[iter]
  have itz:∀k:Nat,iter k (sig P l) (zeros P.length)=zeros P.length:=by
   intro k
   induction k with
   |zero=>rfl
   |succ k ih=>grind[iter]
  have itw:∀k:Nat,iter k (sig P l) l.w=l.w:=by
   intro k
   induction k with
   |zero=>rfl
   |succ k ih=>grind[iter]
  have cD:∀c∈sH P.length,V P c:=by
   intro c hc;simp only[sH,Ja,Jp]at hc;obtain⟨j,hj,rfl⟩:=hc
   grind[zDu]
  have inner:∀x,V P x→mul P x l.w=mul P l.w (iter l.o.toNat (sig P l) x):=by
   intro x hx;have hnf:=normal P hP hM x hx;have pW:=zNj N.toMon N.toMon (iter l.o.toNat (sig P l)) (by grind) (itz _) (by grind) (sH P.length) x cD;rw[←hnf,pW];refine zGy N.toMon hw _ _ x cD (by simp_all) (by simp) ?_;intro k c d hc hd;rw[Jz,Ke]at hd;obtain⟨c',pd,rfl⟩:=hd;rw[hc]at pd;simp at pd;subst pd;obtain⟨hk,rfl⟩:=zOp hc
   grind
  have e:∀(x y z:Vec)(b c:Int),V P x→V P y→V P z→0≤b→0≤c→
    mul P (iter c.toNat (sig P l) (mul P (iter b.toNat (sig P l) x) y)) z=mul P (iter (b+c).toNat (sig P l) x) (mul P (iter c.toNat (sig P l) y) z)∧
    mul P (iter c.toNat (sig P l) (mul P l.w (mul P (iter b.toNat (sig P l) x) y))) z=mul P l.w (mul P (iter (b+c).toNat (sig P l) x) (mul P (iter c.toNat (sig P l) y) z))∧
    (l.o≤b+c→mul P (iter (b+c-l.o).toNat (sig P l) x) (mul P l.w (mul P (iter c.toNat (sig P l) y) z))=mul P l.w (mul P (iter (b+c).toNat (sig P l) x) (mul P (iter c.toNat (sig P l) y) z))):=by
   intro x y z b c hx hy hz hb hcc;have aZ:=itin b.toNat x hx;have hcy:=itin c.toNat y hy;have hbc:iter c.toNat (sig P l) (iter b.toNat (sig P l) x)=iter (b+c).toNat (sig P l) x:=by rw[←zDO];congr 1;omega
   have dc:=itin (b+c).toNat x hx;have e1:mul P (iter c.toNat (sig P l) (mul P (iter b.toNat (sig P l) x) y)) z=mul P (iter (b+c).toNat (sig P l) x) (mul P (iter c.toNat (sig P l) y) z):=by rw[ithom _ _ _ aZ hy,hbc,N.assoc dc hcy hz]
   refine⟨e1,?_,?_⟩
   ·rw[ithom _ _ _ hw (N.cl aZ hy),itw,N.assoc hw (itin _ _ (N.cl aZ hy)) hz,e1]
   ·intro hge
    have bK:=N.cl hcy hz;rw[←N.assoc (itin _ x hx) hw bK,inner _ (itin _ x hx),←zDO,N.assoc hw (itin _ x hx) bK]
    congr 3
    omega
  refine⟨⟨by grind[wI],vQ h',?_,?_,?_⟩,?_⟩
  ·intro A B C hA hB hC
   match A,B,C,hA,hB,hC with
   |a::x,b::y,c::z,hA,hB,hC=>
    simp only[V]at hA hB hC;obtain⟨e1,e2,e3⟩:=e x y z b c hA.2 hB.2 hC.2 hB.1.1 hC.1.1
    by_cases c1:a+b≥l.o<;>by_cases c2:b+c≥l.o
    ·rw[yZ,if_pos c1,yZ l P b c,if_pos c2,yZ,yZ,e2,e3 c2]
     grind
    ·rw[yZ,if_pos c1,yZ l P b c,if_neg c2,yZ,yZ,e2,if_neg (by omega),if_pos (by omega)]
     grind
    ·rw[yZ,if_neg c1,yZ l P b c,if_pos c2,yZ,yZ,e1,e3 c2,if_pos (by omega),if_neg (by omega)]
     grind
    ·rw[yZ,if_neg c1,yZ l P b c,if_neg c2,yZ,yZ,e1]
     grind
  ·intro A hA
   match A,hA with
   |a::x,hA=>
    simp only[V]at hA;show mul (l::P) (0::zeros P.length) (a::x)=_;rw[yZ,if_neg (by omega),itz,N.onel hA.2,Hr]
  ·intro A hA
   match A,hA with
   |a::x,hA=>
    simp only[V]at hA;show mul (l::P) (a::x) (0::zeros P.length)=_;rw[yZ,if_neg (by omega)];simp only[Hc,iter];rw[N.oner hA.2,Lp]
  ·intro A hA
   match A,hA with
   |a::x,hA=>
    simp only[V]at hA
    by_cases ha:a=0
    ·obtain⟨y,hy,h1⟩:=N.inv hA.2
     refine⟨0::y,by simp only[V];grind,?_⟩;rw[yZ,if_neg (by omega)];simp only[Hc,iter];rw[h1,ha];rfl
    ·have mL:=itin (l.o-a).toNat x hA.2
     obtain⟨y,hy,h1⟩:=N.inv (N.cl hw mL);refine⟨(l.o-a)::y,by simp only[V];grind,?_⟩;rw[yZ,if_pos (by omega),←N.assoc hw mL hy,h1,show a+(l.o-a)-l.o=0 by omega];rfl
termination_by P=>P
end Go.Pc

namespace Go.Pc
section
variable {α:Type}{S:α→Prop}{m:α→α→α}{e:α}{n:Nat}{o:Nat→Int}{co:α→Nat→Int}
def GX(n:Nat)(co:α→Nat→Int)(T:Nat→Option α)(Q:List α)(k:Nat)(a:α):Prop:=(∃j,k≤j∧T j=dq a)∨(a∈Q∧ ∀j,j<k→j<n→co a j=0)
end
end Go.Pc

namespace Go.Pc
end Go.Pc

namespace Go.Pc
end Go.Pc

namespace Go.Pc
end Go.Pc

namespace Go.Pc
end Go.Pc

namespace Go.Pc
end Go.Pc

namespace Go.Pc
section
variable {A:Type}
end
end Go.Pc

namespace Go.Pc
end Go.Pc

namespace Go.Pc
end Go.Pc

namespace Go.Pc
end Go.Pc

namespace Go.Pl
open Go Go.Ab
theorem bs{α β:Type}(x:α)(f:α→Option β):(dq x).bind f=f x:=by simp only[Option.bind_some]
theorem zI{α:Type}(x y:α):cond du x y=x:=by simp only[cond_true]
theorem zJ{α:Type}(x y:α):cond dv x y=y:=by simp only[cond_false]
theorem zH{n:Int}(h1:-9223372036854775808≤n)(h2:n≤9223372036854775807):rng n=dq n:=by unfold rng;rw[if_pos];simp only[inR,J2,decide_eq_true_eq];omega
theorem wX{α:Type}(xs:List α)(i:Nat):ixO xs (i:Int)=xs[i]?:=by unfold ixO;rw[if_pos (by omega)];simp
theorem zAu{α:Type}{xs:List α}{i:Nat}(h:i<xs.length):ixO xs (i:Int)=dq xs[i]:=by rw[wX];exact J7 h
theorem xD{n:Nat}(h:n≤68719476736):zZ (n:Int)=dq n:=by unfold zZ;rw[if_pos (by omega)];simp
theorem zR{α:Type}{xs ys:List α}(h:xs.length+ys.length≤68719476736):zU xs ys=dq (xs++ys):=by unfold zU;rw[if_pos h]
theorem zQ{σ ρ:Type}{body:σ→Option (σ⊕ρ)}{r:ρ}(S:Nat→σ)(n:Nat)(h:∀i,i<n→body (S i)=dq (.inl (S (i+1))))(he:body (S n)=dq (.inr r)):zG body (S 0)=dq r:=by
 have key:∀k i,i+k=n→zG body (S i)=dq r:=by
  intro k
  induction k with
  |zero=>intro i hi;rw[yN,show i=n from by omega,he]
  |succ k ih=>intro i hi;rw[yN,h i (by omega)];exact ih (i+1) (by omega)
 exact key n 0 (by omega)
theorem jQ{σ ρ:Type}{body:σ→Option (σ⊕ρ)}{Q:ρ→Prop}(I:Nat→σ→Prop)(n:Nat)(h:∀i s,i<n→I i s→(∃s',body s=dq (.inl s')∧I (i+1) s')∨ ∃r,body s=dq (.inr r)∧Q r)
  (he:∀s,I n s→ ∃r,body s=dq (.inr r)∧Q r){s:σ}(h0:I 0 s):∃r,zG body s=dq r∧Q r:=by
 have key:∀k i s,i+k=n→I i s→ ∃r,zG body s=dq r∧Q r:=by
  intro k
  induction k with
  |zero=>
   intro i s hi hs;obtain rfl:i=n:=by omega
   obtain⟨r,h1,h2⟩:=he s hs;exact⟨r,by rw[yN,h1],h2⟩
  |succ k ih=>
   intro i s hi hs;rcases h i s (by omega) hs with⟨s',h1,h2⟩|⟨r,h1,h2⟩
   ·rw[yN,h1];exact ih (i+1) s' (by omega) h2
   ·exact⟨r,by rw[yN,h1],h2⟩
 exact key n 0 s (by omega) h0
def zNl{ρ:Type}:Option ρ→Unit⊕ρ
 |none=>.inl ()
 |some r=>.inr r
theorem cs(i:Nat):(i:Int)+1=((i+1:Nat):Int):=by omega
theorem zOq{ρ:Type}{body:Int→Option (Int⊕(Unit⊕ρ))}(n:Nat)(t:Nat→Option ρ)(i0:Nat)(hn:i0≤n)
  (h:∀i,i0≤i→i<n→(∀j,i0≤j→j<i→t j=dt)→body (i:Int)=dq (match t i with|none=>.inl ((i+1:Nat):Int)|some r=>.inr (.inr r)))
  (he:(∀j,i0≤j→j<n→t j=dt)→body (n:Int)=dq (.inr (.inl ()))):
  zG body (i0:Int)=dq (zNl ((U1 i0 (n-i0)).findSome? t)):=by
 have key:∀k i,i0≤i→i+k=n→(∀j,i0≤j→j<i→t j=dt)→zG body (i:Int)=dq (zNl ((U1 i k).findSome? t)):=by
  intro k
  induction k with
  |zero=>
   intro i hi hk hp;obtain rfl:i=n:=by omega
   rw[yN,he hp];rfl
  |succ k ih=>
   intro i hi hk hp;rw[yN,h i hi (by omega) hp,Qr,Ut];cases ht:t i with
   |some r=>rfl
   |none=>
    simp only
    exact ih (i+1) (by omega) (by omega) fun j h1 h2=>by
     rcases Jm j i with h3|h3
     ·exact hp j h1 h3
     ·rw[show j=i from by omega];exact ht
 exact key (n-i0) i0 (Jd _) (by omega) fun j h1 h2=>by omega
theorem zQo{n:Nat}{b:Nat→Bool}:zNl ((U1 0 n).findSome? (fun i=>if b i then dt else dq dv))=if(Jf n).all b then .inl ()else .inr dv:=by
 have key:∀l:List Nat,zNl (l.findSome? (fun i=>if b i then dt else dq dv))=if l.all b then .inl ()else .inr dv:=by
  intro l
  induction l with
  |nil=>rfl
  |cons x l ih=>
   rw[Ut,Gk];cases hb:b x
   ·rfl
   ·simpa using ih
 rw[key,List.range_eq_range']
theorem zOr{body:Int→Option (Int⊕(Unit⊕Bool))}(n:Nat)(b:Nat→Bool)
  (h:∀i,i<n→(∀j,j<i→b j=du)→body (i:Int)=dq (if b i then .inl ((i+1:Nat):Int)else .inr (.inr dv)))
  (he:(∀j,j<n→b j=du)→body (n:Int)=dq (.inr (.inl ()))):
  zG body 0=dq (if(Jf n).all b then .inl ()else .inr dv):=by
 have:=zOq (body:=body) n (fun i=>if b i then dt else dq dv) 0 (Kd _) (fun i _ hi hp=>by
  rw[h i hi fun j hj=>by
   have:=hp j (Kd _) hj;split at this
   ·assumption
   ·cases this]
  cases b i<;>rfl) (fun hp=>he fun j hj=>by
   have:=hp j (Kd _) hj;split at this
   ·assumption
   ·cases this)
 rw[Qw]at this;exact this.trans (congrArg dq (zQo (n:=n) (b:=b)))
theorem zTi{α:Type}[BEq α]{t:α→α→Option Bool}{body:Int→Option (Int⊕(Unit⊕Bool))}{x y:List α}
  (hb:∀i,body i=cond (decide (i<(x.length:Int))) ((ixO x i).bind fun v1=>(ixO y i).bind fun v2=>(t v1 v2).bind fun r3=>cond (!r3) (dq (.inr (.inr dv))) ((rng (i+1)).bind fun v4=>dq (.inl v4))) (dq (.inr (.inl ()))))
  (hl:x.length≤68719476736)(mK:x.length=y.length)(ht:∀u∈x,∀v∈y,t u v=dq (u==v)):zG body 0=dq (if x==y then .inl ()else .inr dv):=by
 have h:=zOr (body:=body) x.length (fun i=>match x[i]?,y[i]? with|some u,dq v=>u==v|_,_=>du) (fun i hi _=>by
  have hZ:i<y.length:=by omega
  rw[hb];simp only[dx (show((i:Int))<(x.length:Int)from by omega),zI];rw[zAu hi,zAu hZ];simp only[bs,ht _ (Kz hi) _ (Kz hZ),J7 hi,J7 hZ];cases x[i]==y[i]
  ·rfl
  ·simp only[J5,zJ,if_true]
   rw[zH (by omega) (by omega),cs];rfl) (fun _=>by
  rw[hb];simp only[dw (show¬((x.length:Int))<(x.length:Int)from by omega),zJ])
 rw[h]
 congr 2
 have key:∀(x y:List α),x.length=y.length→((Jf x.length).all (fun i=>match x[i]?,y[i]? with|some u,dq v=>u==v|_,_=>du))=(x==y):=by
  intro x
  induction x with
  |nil=>intro y hy;cases y with|nil=>rfl|cons _ _=>simp at hy
  |cons u x ih=>
   intro y hy;cases y with
   |nil=>simp at hy
   |cons v y=>
    rw[Ki,Ub,Gk,List.all_map];simp only[U9,Function.comp_def,Qy];rw[ih y (by simpa using hy)];rfl
 rw[key x y mK]
theorem zJV{α:Type}[BEq α]{t:α→α→Option Bool}{f:Option Bool}{body:Int→Option (Int⊕(Unit⊕Bool))}{x y:List α}
  (hf:f=cond ((x.length:Int) != (y.length:Int)) (dq dv) ((zG body 0).bind fun r=>match r with|.inl _=>dq du|.inr r=>dq r))
  (hb:∀i,body i=cond (decide (i<(x.length:Int))) ((ixO x i).bind fun v1=>(ixO y i).bind fun v2=>(t v1 v2).bind fun r3=>cond (!r3) (dq (.inr (.inr dv))) ((rng (i+1)).bind fun v4=>dq (.inl v4))) (dq (.inr (.inl ()))))
  (hl:x.length≤68719476736)(ht:∀u∈x,∀v∈y,t u v=dq (u==v)):f=dq (x==y):=by
 rw[hf]
 by_cases mK:x.length=y.length
 ·rw[zTi hb hl mK ht]
  have:((x.length:Int) != (y.length:Int))=dv:=by simp[mK]
  rw[this];cases x==y<;>rfl
 ·have:((x.length:Int) != (y.length:Int))=du:=by simp;omega
  rw[this];have h2:(x==y)=dv:=by
   have key:∀(x y:List α),x.length≠y.length→(x==y)=dv:=by
    intro x
    induction x with
    |nil=>intro y hy;cases y with|nil=>simp at hy|cons _ _=>rfl
    |cons u x ih=>
     intro y hy;cases y with
     |nil=>rfl
     |cons v y=>
      show(u==v&&x==y)=dv;rw[ih y (by simpa using hy),Bool.and_false]
   exact key x y mK
  rw[h2];rfl
end Go.Pl

namespace Go.Pl
open Go Go.Ab
def sm{α:Type}(c:α→Nat):List α→Nat
 | []=>0
 |x::xs=>c x+sm c xs
end Go.Pl

namespace Go.Pl
open Go Go.Ab Go.Wk
abbrev VL{α:Type}(V:α→Prop)(xs:List α):Prop:=xs.length≤maxLen∧ ∀x∈xs,V x
abbrev c1(x:List Int):Nat:=x.length
abbrev c2(x:List (List Int)):Nat:=x.length+sm c1 x
abbrev c3(x:List (List (List Int))):Nat:=x.length+sm c2 x
abbrev S1(x:List Int):Prop:=c1 x≤1048576
abbrev S2(x:List (List Int)):Prop:=c2 x≤1048576
abbrev S3(x:List (List (List Int))):Prop:=c3 x≤1048576
theorem S3.len{x:List (List (List Int))}(h:S3 x):x.length≤1048576:=by grind
def zVx(x:SPr):Prop:=S1 x.zA∧S2 x.zN∧S3 x.zD
def zTj(x:zC):Prop:=S3 x.zB
end Go.Pl

namespace Go.Pl
open Go Go.Ab Go.Wk
def IsB(o:Option Bool)(P:Prop):Prop:=(o=dq du∧P)∨(o=dq dv∧ ¬P)
theorem IsB.iff{o:Option Bool}{P Q:Prop}(h:IsB o P)(gG:P↔Q):IsB o Q:=by grind
theorem IsB.of_bool{b:Bool}{P:Prop}(h:b=du↔P):IsB (dq b) P:=by
 cases b
 ·exact .inr (by grind)
 ·exact .inl ⟨rfl,h.1 rfl⟩
theorem chk{ρ:Type}{body:Int→Option (Int⊕(Unit⊕ρ))}(n i0:Nat)(hn:i0≤n)(P:Nat→Prop)(bad:Nat→ρ)
  (h:∀i,i0≤i→i<n→(∀j,i0≤j→j<i→P j)→(body (i:Int)=dq (.inl ((i+1:Nat):Int))∧P i)∨(body (i:Int)=dq (.inr (.inr (bad i)))∧ ¬P i))
  (he:body (n:Int)=dq (.inr (.inl ()))):
  (zG body (i0:Int)=dq (.inl ())∧ ∀j,i0≤j→j<n→P j)∨ ∃i,i0≤i∧i<n∧zG body (i0:Int)=dq (.inr (bad i))∧ ¬P i:=by
 have key:∀k i,i0≤i→i+k=n→(∀j,i0≤j→j<i→P j)→(zG body (i:Int)=dq (.inl ())∧ ∀j,i0≤j→j<n→P j)∨ ∃q,i0≤q∧q<n∧zG body (i:Int)=dq (.inr (bad q))∧ ¬P q:=by
  intro k
  induction k with
  |zero=>
   intro i hi hk hp;obtain rfl:i=n:=by omega
   grind[yN]
  |succ k ih=>
   intro i hi hk hp;rcases h i hi (by omega) hp with⟨h1,h2⟩|⟨h1,h2⟩
   ·have:=ih (i+1) (by omega) (by omega) (by grind)
    rw[yN,h1];exact this
   grind[yN]
 exact key (n-i0) i0 (Jd _) (by omega) fun j a b=>by omega
theorem tO{f:Option Bool}{body:Int→Option (Int⊕(Unit⊕Bool))}(n:Nat)(P:Nat→Prop)
  (hf:f=(zG body 0).bind fun r=>match r with|.inl _=>dq du|.inr r=>dq r)
  (h:∀i,i<n→(∀j,j<i→P j)→(body (i:Int)=dq (.inl ((i+1:Nat):Int))∧P i)∨(body (i:Int)=dq (.inr (.inr dv))∧ ¬P i))
  (he:body (n:Int)=dq (.inr (.inl ()))):IsB f (∀i,i<n→P i):=by
 rcases chk n 0 (Kd _) P (fun _=>dv) (fun i _ hi hp=>h i hi fun j hj=>hp j (Kd _) hj) he with⟨h1,h2⟩|⟨i,_,hi,h1,h2⟩
 ·refine .inl ⟨?_,fun i hi=>h2 i (Kd _) hi⟩
  rw[hf];rw[show((0:Nat):Int)=0 from rfl]at h1;rw[h1,bs]
 ·refine .inr ⟨?_,fun hp=>h2 (hp i hi)⟩
  rw[hf];rw[show((0:Nat):Int)=0 from rfl]at h1;rw[h1,bs]
theorem vG{o:Option Bool}{P:Prop}{ρ:Type}{bad:ρ}{i:Nat}{g:Option (Int⊕(Unit⊕ρ))}(h:IsB o P)(hi:i<9223372036854775807)
  (hg:g=o.bind fun r=>cond (!r) (dq (.inr (.inr bad))) ((rng ((i:Int)+1)).bind fun v=>dq (.inl v))):(g=dq (.inl ((i+1:Nat):Int))∧P)∨(g=dq (.inr (.inr bad))∧ ¬P):=by
 subst hg;rcases h with⟨h1,h2⟩|⟨h1,h2⟩
 ·refine .inl ⟨?_,h2⟩
  rw[h1,bs,J5,zJ,zH (by omega) (by omega),bs,cs]
 grind
theorem yE{i n:Nat}(h:i<n):decide ((i:Int)<(n:Int))=du:=by grind
theorem wS{n:Nat}:decide ((n:Int)<(n:Int))=dv:=by simp
theorem qA(x a b:Int):IsB (zMl x a b) (a≤x∧x≤b):=by
 unfold zMl
 by_cases h:x≥a
 ·rw[dx h,zI];grind[IsB.of_bool]
 ·rw[dw h,zJ];exact .inr ⟨rfl,by omega⟩
theorem qB(x a b:Int):IsB (zGW x a b) (a≤x∧x≤b):=qA x a b
def Prime(p:Int):Prop:=p=2∨p=3∨p=5∨p=7
theorem zA8(x:Int):IsB (zOH x) (Prime x):=by
 unfold zOH Prime
 by_cases h2:x=2
 ·subst h2;exact .inl ⟨rfl,.inl rfl⟩
 ·rw[show(x==2)=dv from by grind,zJ]
  by_cases h3:x=3
  ·subst h3;exact .inl (by simp)
  ·rw[show(x==3)=dv from by grind,zJ]
   by_cases h5:x=5
   ·subst h5;exact .inl (by simp)
   ·rw[show(x==5)=dv from by grind,zJ]
    grind[IsB.of_bool]
theorem zA9(x:Int):IsB (zFr x) (Prime x):=zA8 x
abbrev at0(v:List Int)(i:Nat):Int:=v.getD i 0
theorem yB{v:List Int}{i:Nat}(h:i<v.length):ixO v (i:Int)=dq (at0 v i):=by rw[zAu h,at0,J4,J7 h];rfl
def zYJ(os v:List Int):Prop:=v.length=os.length∧ ∀i,i<v.length→0≤at0 v i∧at0 v i≤at0 os i-1
def Exp(os v:List Int)(k:Nat):Prop:=zYJ os v∧ ∀i,i≤k→at0 v i=0
def Os(os:List Int):Prop:=os.length≤14∧ ∀i,i<os.length→Prime (at0 os i)
theorem Prime.pos{p:Int}(h:Prime p):2≤p∧p≤7:=by unfold Prime at h;omega
theorem zE5{x:SPr}{v:List Int}(ho:Os x.zA):IsB (zTT x v) (zYJ x.zA v):=by
 unfold zTT
 by_cases h:v.length=x.zA.length
 ·rw[show((v.length:Int) != (x.zA.length:Int))=dv from by simp[h],zJ]
  have h6:=ho.1;refine(tO v.length (fun i=>0≤at0 v i∧at0 v i≤at0 x.zA i-1) rfl (fun i hi _=>?_) ?_).iff ⟨fun g=>⟨h,g⟩,fun g=>g.2⟩
  ·have hp:=(ho.2 i (by omega)).pos
   refine vG (qA _ _ _) (by omega) ?_;unfold zNP;rw[yE hi,zI,yB hi,bs,yB (by omega),bs,zH (by omega) (by omega),bs]
  ·unfold zNP
   simp
 ·rw[show((v.length:Int) != (x.zA.length:Int))=du from by simp;omega,zI]
  exact .inr ⟨rfl,fun g=>h g.1⟩
theorem zJW{v:List Int}(hl:v.length≤14):IsB (f_X v) (∀i,i<v.length→at0 v i=0):=by
 refine tO v.length (fun i=>at0 v i=0) rfl (fun i hi _=>?_) ?_
 ·refine vG (o:=dq (at0 v i==0)) (IsB.of_bool (by simp)) (by omega) ?_
  unfold zKM;rw[yE hi,zI,yB hi,bs,bs];rfl
 ·unfold zKM
  simp
theorem zBP{x:SPr}{k:Nat}{v:List Int}(ho:Os x.zA)(hk:k<x.zA.length):IsB (zRe x k v) (Exp x.zA v k):=by
 have h6:=ho.1;unfold zRe;rcases zE5 (v:=v) ho with⟨h1,h2⟩|⟨h1,h2⟩
 ·have hl:=h2.1
  rw[h1,bs,zI,zH (by omega) (by omega),bs];have hs:zP v 0 ((k:Int)+1)=dq (v.take (k+1)):=by
   unfold zP
   grind
  rw[hs,bs];have hb:=zJW (v:=v.take (k+1)) (by grind);have bD:(∀i,i<(v.take (k+1)).length→at0 (v.take (k+1)) i=0)↔Exp x.zA v k:=by
   have e:∀i,i≤k→at0 (v.take (k+1)) i=at0 v i:=by grind
   rw[Kl,Ua (by omega)];exact⟨fun g=>⟨h2,by grind⟩,fun g i hi=>by rw[e i (by omega)];exact g.2 i (by omega)⟩
  grind
 ·rw[h1,bs,zJ]
  exact .inr ⟨rfl,fun g=>h2 g.1⟩
theorem zCl{os v:List Int}{k:Nat}(ho:Os os)(hk:k<os.length):IsB (zMf os v k) (Exp os v k):=by
 have h6:=ho.1;unfold zMf
 by_cases h:v.length=os.length
 ·rw[show((v.length:Int) != (os.length:Int))=dv from by simp[h],zJ]
  refine(tO v.length (fun i=>(0≤at0 v i∧at0 v i≤at0 os i-1)∧(i≤k→at0 v i=0)) rfl (fun i hi _=>?_) ?_).iff ⟨fun g=>⟨⟨h,by grind⟩,by grind⟩,fun g i hi=>⟨g.1.2 i hi,fun hk=>g.2 i hk⟩⟩
  ·have hp:=(ho.2 i (by omega)).pos
   unfold zKK;rw[yE hi,zI,yB hi,bs,yB (by omega),bs,zH (by omega) (by omega),bs];rcases qB (at0 v i) 0 (at0 os i-1)with⟨h1,h2⟩|⟨h1,h2⟩
   ·rw[h1,bs,J5,zJ]
    by_cases h3:(i:Int)≤(k:Int)
    ·rw[dx h3,zI,bs]
     by_cases h4:at0 v i=0
     ·rw[show(at0 v i != 0)=dv from by grind,zJ,zH (by omega) (by omega),bs,cs]
      grind
     grind
    ·rw[dw h3,zJ,zH (by omega) (by omega),bs,cs]
     grind
   grind
  ·unfold zKK
   simp
 ·rw[show((v.length:Int) != (os.length:Int))=du from by simp;omega,zI]
  exact .inr ⟨rfl,fun g=>h g.1.1⟩
end Go.Pl

namespace Go.Pl
open Go Go.Ab Go.Wk
theorem zZJ{σ ρ:Type}{body:σ→Option (σ⊕(Unit⊕ρ))}(S:Nat→σ)(n i0:Nat)(hn:i0≤n)(P:Nat→Prop)(bad:Nat→ρ)
  (h:∀i,i0≤i→i<n→(∀j,i0≤j→j<i→P j)→(body (S i)=dq (.inl (S (i+1)))∧P i)∨(body (S i)=dq (.inr (.inr (bad i)))∧ ¬P i))
  (he:body (S n)=dq (.inr (.inl ()))):
  (zG body (S i0)=dq (.inl ())∧ ∀j,i0≤j→j<n→P j)∨ ∃i,i0≤i∧i<n∧zG body (S i0)=dq (.inr (bad i))∧ ¬P i:=by
 have key:∀k i,i0≤i→i+k=n→(∀j,i0≤j→j<i→P j)→(zG body (S i)=dq (.inl ())∧ ∀j,i0≤j→j<n→P j)∨ ∃q,i0≤q∧q<n∧zG body (S i)=dq (.inr (bad q))∧ ¬P q:=by
  intro k
  induction k with
  |zero=>
   intro i hi hk hp;obtain rfl:i=n:=by omega
   grind[yN]
  |succ k ih=>
   intro i hi hk hp;rcases h i hi (by omega) hp with⟨h1,h2⟩|⟨h1,h2⟩
   ·have:=ih (i+1) (by omega) (by omega) (by grind)
    rw[yN,h1];exact this
   grind[yN]
 exact key (n-i0) i0 (Jd _) (by omega) fun j a b=>by omega
theorem sJ{a b:Int}(h:a=b):(a != b)=dv:=by simp[h]
theorem qC{a b:Int}(h:a≠b):(a != b)=du:=by simp[h]
def pr(os:List Int):Nat→Int
 |0=>1
 |i+1=>pr os i*at0 os i
def cp(os:List Int):Nat→Int
 |0=>1
 |i+1=>if cp os i≤729 then cp os i*at0 os i else cp os i
theorem zGz{os:List Int}:∀{i:Nat},(∀j,j<i→Prime (at0 os j))→1≤pr os i
 |0,_=>by simp[pr]
 |i+1,h=>by have h1:=zGz (os:=os) (i:=i) (by grind);have h2:=(h i (by omega)).pos;simp only[pr];have:(1:Int)*1≤pr os i*at0 os i:=L3 h1 (by omega) (by omega) (by omega);omega
theorem zNm{os:List Int}{i:Nat}(h:∀j,j≤i→Prime (at0 os j)):pr os i≤pr os (i+1):=by have h1:=zGz (os:=os) (i:=i) (by grind);have h2:=(h i (Jd _)).pos;simp only[pr];have:pr os i*1≤pr os i*at0 os i:=Int.mul_le_mul_of_nonneg_left (by omega) (by omega);omega
theorem zNn{os:List Int}{n:Nat}(h:∀j,j<n→Prime (at0 os j)):∀k,k≤n→pr os (n-k)≤pr os n
 |0,_=>Int.le_refl _
 |k+1,hk=>by
  have h1:=zNn h k (by omega);have h2:=zNm (os:=os) (i:=n-(k+1)) (by grind)
  grind
theorem zQp{os:List Int}:∀{i:Nat},(∀j,j<i→Prime (at0 os j))→(cp os i=pr os i∧pr os i≤729∨729<cp os i∧cp os i≤5103∧729<pr os i)
 |0,_=>by simp[cp,pr]
 |i+1,h=>by
  have h0:∀j,j<i→Prime (at0 os j):=by grind
  have h2:=(h i (by omega)).pos;have h3:=zNm (os:=os) (i:=i) (by grind);have az:=zGz h0;simp only[cp];rcases zQp h0 with⟨h1,h4⟩|⟨h1,h4,h5⟩
  ·rw[h1,if_pos h4]
   have h6:pr os i*at0 os i≤729*7:=L3 h4 h2.2 (by omega) (by omega);simp only[pr]at h3 ⊢
   grind
  omega
def zEZ(x:SPr)(i:Nat):Prop:=Exp x.zA (x.zN.getD i []) i∧(x.zD.getD i []).length+i+1=x.zA.length∧ ∀j,j<(x.zD.getD i []).length→Exp x.zA ((x.zD.getD i []).getD j []) i
structure zG0 (x:SPr):Prop where
 os:True∧ ∀i,i<x.zA.length→Prime (at0 x.zA i)
 pl:x.zN.length=x.zA.length
 cl:x.zD.length=x.zA.length
 tl:∀i,i<x.zA.length→zEZ x i
structure Pres (x:SPr):Prop where
 os:Os x.zA
 pl:x.zN.length=x.zA.length
 cl:x.zD.length=x.zA.length
 tl:∀i,i<x.zA.length→zEZ x i
theorem Pres.w{x:SPr}(h:Pres x):zG0 x:=⟨⟨trivial,h.os.2⟩,h.pl,h.cl,h.tl⟩
structure zAA (x:SPr):Prop extends Pres x where
 n6:x.zA.length≤6
 pr:pr x.zA x.zA.length≤729
theorem zW{α:Type}{v:List α}{i:Nat}(d:α)(h:i<v.length):ixO v (i:Int)=dq (v.getD i d):=by grind[zAu]
theorem zL9{x:SPr}(ho:Os x.zA)(hp:x.zN.length=x.zA.length)(hc:x.zD.length=x.zA.length){i:Nat}(hi:i<x.zA.length):
  (zMn x i=dq (.inl ((i+1:Nat):Int))∧zEZ x i)∨(zMn x i=dq (.inr (.inr dv))∧ ¬zEZ x i):=by
 have h6:=ho.1;unfold zMn;rw[yE hi,zI,zW [] (by omega),bs];rcases zBP (v:=x.zN.getD i []) ho hi with⟨h1,h2⟩|⟨h1,h2⟩
 ·rw[h1,bs,J5,zJ,zW [] (by omega),bs,zH (by omega) (by omega),bs,zH (by omega) (by omega),bs]
  by_cases hl:(x.zD.getD i []).length+i+1=x.zA.length
  ·rw[sJ (by omega),zJ,bs]
   rcases chk (body:=zRf x i (x.zD.getD i [])) (x.zD.getD i []).length 0 (Kd _) (fun j=>Exp x.zA ((x.zD.getD i []).getD j []) i) (fun _=>dv) (fun j _ hj _=>by
     refine vG (zBP ho hi) (by omega) ?_;unfold zRf;rw[yE hj,zI,zW [] hj,bs]) (by
     unfold zRf;simp)with⟨g1,g2⟩|⟨j,_,hj,g1,g2⟩
   ·rw[show((0:Nat):Int)=0 from rfl]at g1
    rw[g1,bs];simp only
    rw[zH (by omega) (by omega),bs,cs];exact .inl ⟨rfl,h2,hl,by grind⟩
   ·rw[show((0:Nat):Int)=0 from rfl]at g1
    rw[g1,bs];exact .inr ⟨rfl,fun g=>g2 (g.2.2 j hj)⟩
  ·rw[qC (by omega),zI]
   exact .inr ⟨rfl,fun g=>hl g.2.1⟩
 ·rw[h1,bs,Jr,zI]
  exact .inr ⟨rfl,fun g=>h2 g.1⟩
theorem zLA{x:SPr}(ho:Os x.zA)(hp:x.zN.length=x.zA.length)(hc:x.zD.length=x.zA.length){i:Nat}(hi:i<x.zA.length):
  (zJg x i=dq (.inl ((i+1:Nat):Int))∧zEZ x i)∨(zJg x i=dq (.inr (.inr dv))∧ ¬zEZ x i):=by
 have h6:=ho.1;unfold zJg;rw[yE hi,zI,zW [] (by omega),bs];rcases zCl (v:=x.zN.getD i []) ho hi with⟨h1,h2⟩|⟨h1,h2⟩
 ·rw[h1,bs,J5,zJ,zW [] (by omega),bs,zH (by omega) (by omega),bs,zH (by omega) (by omega),bs]
  by_cases hl:(x.zD.getD i []).length+i+1=x.zA.length
  ·rw[sJ (by omega),zJ]
   rcases chk (body:=zMg x i) (x.zD.getD i []).length 0 (Kd _) (fun j=>Exp x.zA ((x.zD.getD i []).getD j []) i) (fun _=>dv) (fun j _ hj _=>by
     refine vG (zCl ho hi) (by omega) ?_;unfold zMg;rw[zW [] (by omega),bs,yE hj,zI,bs,zW [] hj,bs]) (by
     unfold zMg;rw[zW [] (by omega),bs,wS,zJ])with⟨g1,g2⟩|⟨j,_,hj,g1,g2⟩
   ·rw[show((0:Nat):Int)=0 from rfl]at g1
    rw[g1,bs];simp only
    rw[zH (by omega) (by omega),bs,cs];exact .inl ⟨rfl,h2,hl,by grind⟩
   ·rw[show((0:Nat):Int)=0 from rfl]at g1
    rw[g1,bs];exact .inr ⟨rfl,fun g=>g2 (g.2.2 j hj)⟩
  ·rw[qC (by omega),zI]
   exact .inr ⟨rfl,fun g=>hl g.2.1⟩
 ·rw[h1,bs,Jr,zI]
  exact .inr ⟨rfl,fun g=>h2 g.1⟩
theorem zJX{x:SPr}(h6:x.zA.length≤6):
  (zG (zMm x) (1,0)=dq (.inl ())∧Os x.zA∧pr x.zA x.zA.length≤729)∨(zG (zMm x) (1,0)=dq (.inr dv)∧ ¬(Os x.zA∧pr x.zA x.zA.length≤729)):=by
 rcases zZJ (body:=zMm x) (fun i=>(pr x.zA i,(i:Int))) x.zA.length 0 (Kd _) (fun i=>Prime (at0 x.zA i)∧pr x.zA (i+1)≤729) (fun _=>dv) (fun i _ hi bi=>by
   have hp:∀j,j<i→Prime (at0 x.zA j):=by grind
   have az:=zGz hp;have ci:pr x.zA i≤729:=by
    cases i with
    |zero=>simp[pr]
    |succ i=>grind
   unfold zMm;rw[yE hi,zI,yB hi,bs];rcases zA8 (at0 x.zA i)with⟨h1,h2⟩|⟨h1,h2⟩
   ·have h3:=h2.pos
    have h4:pr x.zA i*at0 x.zA i≤729*7:=L3 ci h3.2 (by omega) (by omega);have h5:1*1≤pr x.zA i*at0 x.zA i:=L3 az (by omega) (by omega) (by omega);simp only
    rw[h1,bs,J5,zJ,zH (by omega) (by omega),bs]
    by_cases h7:pr x.zA i*at0 x.zA i> 729
    ·rw[dx h7,zI]
     exact .inr ⟨rfl,by grind[pr]⟩
    ·rw[dw h7,zJ,bs,zH (by omega) (by omega),bs,cs]
     exact .inl ⟨rfl,h2,by grind[pr]⟩
   grind) (by
   unfold zMm;simp)with⟨g1,g2⟩|⟨i,_,hi,g1,g2⟩
 ·refine .inl ⟨g1,⟨by omega,by grind⟩,?_⟩
  cases hn:x.zA.length with
  |zero=>simp[pr]
  |succ n=>grind
 ·refine .inr ⟨g1,fun⟨h1,h2⟩=>g2 ⟨h1.2 i hi,?_⟩⟩
  have:=zNn (os:=x.zA) (n:=x.zA.length) h1.2 (x.zA.length-(i+1)) (by omega)
  grind
theorem zDR{os:List Int}(ho:Os os):f_P os=dq (cp os os.length):=by
 have h6:=ho.1;unfold f_P;rw[show(1,0)=(fun i=>(cp os i,(i:Int))) 0 from rfl,zQ (body:=zOE os) (r:=cp os os.length) (fun i=>(cp os i,(i:Int))) os.length (fun i hi=>by
  have hp:=(ho.2 i hi).pos;have hc:=zQp (os:=os) (i:=i) fun j hj=>ho.2 j (by omega)
  have az:=zGz (os:=os) (i:=i) fun j hj=>ho.2 j (by omega)
  unfold zOE;rw[yE hi,zI];simp only[cp]
  by_cases h:cp os i≤729
  ·have h4:cp os i*at0 os i≤729*7:=L3 h hp.2 (by omega) (by omega)
   have h5:1*1≤cp os i*at0 os i:=L3 (by omega) (by omega) (by omega) (by omega);rw[dx h,zI,yB hi,bs,zH (by omega) (by omega),bs,zH (by omega) (by omega),bs,cs,if_pos h]
  ·rw[dw h,zJ,zH (by omega) (by omega),bs,cs,if_neg h]) (by
  unfold zOE;simp),bs]
theorem zCU{x:SPr}(hl:x.zA.length≤1048576):IsB (f_A x) (zAA x):=by
 unfold f_A
 by_cases h6:x.zA.length≤6
 ·rw[dw (by omega),zJ]
  by_cases hp:x.zN.length=x.zA.length
  ·rw[sJ (by omega),zJ]
   by_cases hc:x.zD.length=x.zA.length
   ·rw[sJ (by omega),zJ]
    rcases zJX h6 with⟨h1,h2,h3⟩|⟨h1,h2⟩
    ·rw[h1,bs]
     exact(tO (f:=(zG (zMn x) 0).bind fun r=>match r with|.inl _=>dq du|.inr r=>dq r) x.zA.length (zEZ x) rfl (by grind[zL9]) (by unfold zMn;simp)).iff ⟨fun g=>⟨⟨h2,hp,hc,g⟩,h6,h3⟩,fun g=>g.tl⟩
    ·rw[h1,bs]
     exact .inr ⟨rfl,fun g=>h2 ⟨g.os,g.pr⟩⟩
   ·rw[qC (by omega),zI]
    exact .inr ⟨rfl,fun g=>hc g.cl⟩
  ·rw[qC (by omega),zI]
   exact .inr ⟨rfl,fun g=>hp g.pl⟩
 ·rw[dx (by omega),zI]
  exact .inr ⟨rfl,fun g=>h6 g.n6⟩
theorem uG{x:SPr}(hl:x.zA.length≤1048576):IsB (f_n x) (zAA x):=by
 unfold f_n
 by_cases h6:x.zA.length≤6
 ·rw[dw (by omega),zJ]
  by_cases hp:x.zN.length=x.zA.length
  ·rw[sJ (by omega),zJ]
   by_cases hc:x.zD.length=x.zA.length
   ·rw[sJ (by omega),zJ]
    rcases chk (body:=zOF x) x.zA.length 0 (Kd _) (fun i=>Prime (at0 x.zA i)) (fun _=>dv) (fun i _ hi _=>by
      refine vG (zA9 _) (by omega) ?_;unfold zOF;rw[yE hi,zI,yB hi,bs]) (by
      unfold zOF;simp)with⟨g1,g2⟩|⟨i,_,hi,g1,g2⟩
    ·rw[show((0:Nat):Int)=0 from rfl]at g1
     have ho:Os x.zA:=⟨by omega,by grind⟩;have hcp:=zQp (os:=x.zA) (i:=x.zA.length) ho.2;rw[g1,bs];simp only
     rw[zDR ho,bs]
     by_cases h7:cp x.zA x.zA.length> 729
     ·rw[dx h7,zI]
      exact .inr ⟨rfl,fun g=>by have:=g.pr;omega⟩
     ·rw[dw h7,zJ]
      exact(tO (f:=(zG (zJg x) 0).bind fun r=>match r with|.inl _=>dq du|.inr r=>dq r) x.zA.length (zEZ x) rfl (by grind[zLA]) (by unfold zJg;simp)).iff ⟨fun g=>⟨⟨ho,hp,hc,g⟩,h6,by omega⟩,fun g=>g.tl⟩
    ·rw[show((0:Nat):Int)=0 from rfl]at g1
     rw[g1,bs];exact .inr ⟨rfl,fun g=>g2 (g.os.2 i hi)⟩
   ·rw[qC (by omega),zI]
    exact .inr ⟨rfl,fun g=>hc g.cl⟩
  ·rw[qC (by omega),zI]
   exact .inr ⟨rfl,fun g=>hp g.pl⟩
 ·rw[dx (by omega),zI]
  exact .inr ⟨rfl,fun g=>h6 g.n6⟩
end Go.Pl

namespace Go.Pl
open Go Go.Ab Go.Wk Go.Pc
def lvl(x:SPr)(i:Nat):Lvl:=⟨at0 x.zA i,(x.zN.getD i []).drop (i+1),(x.zD.getD i []).map (·.drop (i+1))⟩
def suf(x:SPr)(k:Nat):Pcp:=(U1 k (x.zA.length-k)).map (lvl x)
theorem xV(x:SPr)(k:Nat):(suf x k).length=x.zA.length-k:=by simp[suf]
theorem yX{x:SPr}{k:Nat}(h:k<x.zA.length):suf x k=lvl x k::suf x (k+1):=by unfold suf;rw[show x.zA.length-k=(x.zA.length-(k+1))+1 from by omega,Qr,Jl]
theorem kO{x:SPr}{k:Nat}(h:x.zA.length≤k):suf x k=[]:=by unfold suf;simp_all
theorem zBx{os v:List Int}{k:Nat}(h:Exp os v k)(hk:k<os.length):v=zeros (k+1)++v.drop (k+1):=by
 have h1:=h.1.1;apply Kt;intro i;rw[Kg];simp only[zeros,Gg,K0,Lg];split
 ·rename_i hi
  have h2:=h.2 i (by omega)
  grind
 grind
theorem zWz{x:SPr}:∀(d k:Nat)(v:List Int),k+d=x.zA.length→v.length=d→(∀i,i<d→0≤at0 v i∧at0 v i≤at0 x.zA (k+i)-1)→V (suf x k) v
 |0,k,v,hk,hv,_=>by rw[kO (by omega)];simpa[V]using hv
 |d+1,k,v,hk,hv,h=>by
  rw[yX (by omega)]
  match v,hv with
  |a::v,hv=>
   have h0:=h 0 (by omega);simp only[at0,Us,Qx]at h0;refine⟨⟨h0.1,by simp only[lvl,at0];omega⟩,zWz d (k+1) v (by omega) (by grind) fun i hi=>?_⟩
   grind
theorem zJY{x:SPr}{v:List Int}{k:Nat}(h:Exp x.zA v k)(hk:k<x.zA.length):V (suf x (k+1)) (v.drop (k+1)):=by
 have h1:=h.1.1;refine zWz (x.zA.length-(k+1)) (k+1) _ (by omega) (by grind) fun i hi=>?_
 have:=h.1.2 (k+1+i) (by omega)
 grind
theorem zG0.ok{x:SPr}(h:zG0 x):∀(d k:Nat),k+d=x.zA.length→Pc.Ok (suf x k)
 |0,k,hk=>by rw[kO (by omega)];simp only[Pc.Ok]
 |d+1,k,hk=>by
  rw[yX (by omega)];obtain⟨t1,t2,t3⟩:=h.tl k (by omega);refine⟨by simp only[lvl];have:=(h.os.2 k (by omega)).pos;omega,zJY t1 (by omega),?_,fun c hc=>?_,zG0.ok h d (k+1) (by omega)⟩
  ·grind[xV,lvl]
  ·simp only[lvl,Ja]at hc
   obtain⟨u,hu,rfl⟩:=hc;obtain⟨j,hj,rfl⟩:=Js.1 hu
   grind[zJY]
theorem zG0.okAt{x:SPr}(h:zG0 x){k:Nat}(hk:k≤x.zA.length):Pc.Ok (suf x k):=h.ok (x.zA.length-k) k (by omega)
theorem Pres.okAt{x:SPr}(h:Pres x){k:Nat}(hk:k≤x.zA.length):Pc.Ok (suf x k):=h.w.okAt hk
theorem yA(n:Nat):(zeros n).length=n:=by simp[zeros]
theorem zFa(k:Nat):zeros (k+1)=zeros k++[0]:=by simp[zeros,Uj]
theorem zFb{k:Nat}{a b:Int}{v:Vec}:(zeros k++a::v).set k b=zeros k++b::v:=by rw[Hx _ _ (by grind[yA]),yA,Ky,L8]
theorem zG1{k:Nat}{a:Int}{v:Vec}:ixO (zeros k++a::v) (k:Int)=dq a:=by rw[wX,Jg (by grind[yA]),yA,Ky];rfl
theorem zBb{k:Nat}{v:Vec}:zeros k++0::v=zeros (k+1)++v:=by rw[zFa,Jh];rfl
theorem wT{v:List Int}(h:v.length≤1000000):f_y v=dq v:=by grind[f_y,zR]
end Go.Pl

namespace Go.Pl
open Go Go.Ab Go.Wk Go.Pc
theorem zCm{m:Vec→Vec→Vec}:∀(cs:List Vec)(x:Vec)(i:Nat)(acc:Vec),i<cs.length→i<x.length→
  img m (cs.take (i+1)) (x.take (i+1)) acc=iter (at0 x i).toNat (fun v=>m v (cs.getD i [])) (img m (cs.take i) (x.take i) acc)
 | [],_,_,_,h,_=>by simp at h
 |_::_,[],_,_,_,h=>by simp at h
 |c::cs,a::x,0,acc,_,_=>by rfl
 |c::cs,a::x,i+1,acc,h,h'=>by simp only[L7,img,at0,List.getD_cons_succ];exact zCm cs x i _ (by grind) (by grind)
theorem uC{α β:Type}{body:α×Int→Option ((α×Int)⊕α)}{S:β→Prop}(e:β→α)(g:β→β)(n:Int)(hn:0≤n)(hS:∀a,S a→S (g a))
  (h:∀a(i:Nat),S a→(i:Int)<n→body (e a,(i:Int))=dq (.inl (e (g a),((i+1:Nat):Int))))(he:∀a,S a→body (e a,n)=dq (.inr (e a))){a:β}(ha:S a):
  zG body (e a,0)=dq (e (iter n.toNat g a)):=by
 have fq:∀k,S (iter k g a):=fun k=>sM (S:=S) hS k ha
 exact zQ (body:=body) (r:=e (iter n.toNat g a)) (fun i=>(e (iter i g a),(i:Int))) n.toNat (by grind[tU]) (by grind)
theorem zOs{k i:Nat}{v:Vec}(h:i<v.length):ixO (zeros k++v) ((k+i:Nat):Int)=dq (at0 v i):=by rw[wX,Jg (by grind[yA]),yA,show k+i-k=i from by omega,J7 h,at0,J4,J7 h];rfl
theorem zCV{x:SPr}(ho:Os x.zA):∀(d k:Nat)(v:List Int),k+d=x.zA.length→V (suf x k) v→v.length=d∧ ∀i,i<d→0≤at0 v i∧at0 v i<at0 x.zA (k+i)∧at0 v i≤6
 |0,k,v,hk,hv=>by
  rw[kO (by omega)]at hv;simp only[V]at hv
  grind
 |d+1,k,v,hk,hv=>by
  rw[yX (by omega)]at hv
  match v,hv with
  |a::v,hv=>
   obtain⟨h1,h2⟩:=zCV ho d (k+1) v (by omega) hv.2;refine⟨by simp[h1],fun i hi=>?_⟩;cases i with
   |zero=>
    have h3:=hv.1;simp only[lvl]at h3;have:=(ho.2 k (by omega)).pos
    grind
   |succ i=>
    grind
theorem zF1{x:SPr}(h:Pres x){k i:Nat}(hk:k<x.zA.length)(hi:i<x.zA.length-(k+1)):
  ∃c,ixO x.zD (k:Int)=dq (x.zD.getD k [])∧ixO (x.zD.getD k []) (i:Int)=dq (zeros (k+1)++c)∧V (suf x (k+1)) c∧(lvl x k).cs.getD i []=c:=by
 obtain⟨t1,t2,t3⟩:=h.tl k hk;have hc:=h.cl
 grind[zW,zJY,zBx,lvl]
def FAt(x:SPr)(k:Nat)(g:SPr→Int→List Int→List Int→Option (List Int)):Prop:=
 ∀a b,V (suf x k) a→V (suf x k) b→g x k (zeros k++a) (zeros k++b)=dq (zeros k++mul (suf x k) a b)
def FIm(x:SPr)(k:Nat)(g:SPr→Int→List Int→Option (List Int)):Prop:=
 ∀v,V (suf x (k+1)) v→g x k (zeros (k+1)++v)=dq (zeros (k+1)++sig (suf x (k+1)) (lvl x k) v)
theorem zLB{x:SPr}(h:Pres x){k:Nat}(hk:k<x.zA.length){g:SPr→Int→List Int→List Int→Option (List Int)}(hg:FAt x (k+1) g):FIm x k (b_d g):=by
 intro v hv;have h6:=h.os.1;have ok:=h.okAt (k:=k+1) (by omega);obtain⟨ph,bU⟩:=zCV h.os (x.zA.length-(k+1)) (k+1) v (by omega) hv;have gm:=xV x (k+1);have gJ:(lvl x k).cs.length=x.zA.length-(k+1):=by have:=h.okAt (k:=k) (by omega);rw[yX hk]at this;rw[this.2.2.1,gm]
 have gZ:∀c∈(lvl x k).cs,V (suf x (k+1)) c:=by have:=h.okAt (k:=k) (by omega);rw[yX hk]at this;exact this.2.2.2.1
 have hA:∀i,V (suf x (k+1)) (img (mul (suf x (k+1))) ((lvl x k).cs.take i) (v.take i) (zeros (suf x (k+1)).length)):=fun i=>
  zAt (wI ok) _ _ (by grind) (vQ ok)
 unfold b_d;rw[xD (by omega),bs,zH (by omega) (by omega),bs,cs];have hz:J1 x.zA.length (0:Int)=zeros (k+1)++zeros (suf x (k+1)).length:=by rw[gm];simp only[zeros,Kq];congr 1;omega
 rw[hz];have:=zQ (body:=zQO g x k (zeros (k+1)++v)) (r:=zeros (k+1)++sig (suf x (k+1)) (lvl x k) v)
  (fun i=>(zeros (k+1)++img (mul (suf x (k+1))) ((lvl x k).cs.take i) (v.take i) (zeros (suf x (k+1)).length),((k+1+i:Nat):Int))) (x.zA.length-(k+1)) (fun i hi=>by
  have hr:=bU i hi;obtain⟨c,c1,c2,c3,c4⟩:=zF1 h hk hi;unfold zQO;rw[dx (by omega),zI];rw[uC (S:=V (suf x (k+1))) (body:=zQN g x k (zeros (k+1)++v) (zeros (k+1)++img (mul (suf x (k+1))) ((lvl x k).cs.take i) (v.take i) (zeros (suf x (k+1)).length),((k+1+i:Nat):Int))) (fun u=>zeros (k+1)++u) (fun u=>mul (suf x (k+1)) u c) (at0 v i) hr.1 (by grind[wI]) (fun u q hu hq=>by
   unfold zQN;simp only
   rw[zOs (by omega),bs,dx hq,zI,zH (by omega) (by omega),bs,c1,bs,zH (by omega) (by omega),bs,zH (by omega) (by omega),bs,
    show(((k+1+i:Nat):Int)-(k:Int)-1)=(i:Int)from by omega,c2,bs,cs,hg u c hu c3,bs,zH (by omega) (by omega),bs,cs]) (fun u hu=>by
   unfold zQN;simp only
   rw[zOs (by omega),bs,dw (by omega),zJ]) (hA i),bs,zH (by omega) (by omega),bs,cs]
  rw[zCm _ _ _ _ (by omega) (by omega),c4];rfl) (by
  unfold zQO;rw[dw (by omega),zJ,Jn (by omega),Jn (by omega)];rfl)
 grind[img]
theorem zTk{x:SPr}(h:Pres x){k:Nat}(hk:k<x.zA.length){g:SPr→Int→List Int→List Int→Option (List Int)}{gi:SPr→Int→List Int→Option (List Int)}(hg:FAt x (k+1) g)(hi:FIm x k gi):FAt x k (b_a gi g):=by
 intro a b ha hb;have h6:=h.os.1;have hp:=(h.os.2 k hk).pos;have ok:=h.okAt (k:=k+1) (by omega);have ok0:=h.okAt (k:=k) (by omega);obtain⟨hal,har⟩:=zCV h.os (x.zA.length-k) k a (by omega) ha;obtain⟨hbl,hbr⟩:=zCV h.os (x.zA.length-k) k b (by omega) hb;rw[yX hk]at ha hb ok0;obtain⟨a0,a,rfl⟩:∃a0 a',a=a0::a':=by cases a with|nil=>grind|cons p q=>simp
 obtain⟨b0,b,rfl⟩:∃a0 a',b=a0::a':=by cases b with|nil=>grind|cons p q=>simp
 obtain⟨⟨a1,a2⟩,ha⟩:=ha;obtain⟨⟨b1,b2⟩,hb⟩:=hb;have ff:(lvl x k).o=at0 x.zA k:=rfl;rw[ff]at a2 b2;unfold b_a;rw[dw (by omega),zJ,wT (by grind[yA]),bs,wT (by simp[yA]at hbl ⊢;omega),bs,zG1,bs,zG1,bs,J9,zFb,zFb,zBb,zBb];have mW:∀u,V (suf x (k+1)) u→V (suf x (k+1)) (sig (suf x (k+1)) (lvl x k) u):=by grind[zIL]
 have fq:V (suf x (k+1)) (iter b0.toNat (sig (suf x (k+1)) (lvl x k)) a):=sM mW _ ha;rw[uC (S:=V (suf x (k+1))) (fun u=>zeros (k+1)++u) (sig (suf x (k+1)) (lvl x k)) b0 b1 mW (fun u q hu hq=>by
   unfold zTQ;simp only
   rw[zG1,bs,dx hq,zI,hi u hu,bs,zH (by omega) (by omega),bs,cs]) (fun u hu=>by
   unfold zTQ;simp only
   rw[zG1,bs,dw (by omega),zJ]) ha,bs,zH (by omega) (by omega),bs,cs,hg _ _ fq hb,bs,bs,bs,zH (by omega) (by omega),bs,yB hk,bs]
 have hm:=wI ok fq hb;have tk:=(zCV h.os (x.zA.length-(k+1)) (k+1) _ (by omega) hm).1;have own:∀u,V (suf x (k+1)) u→f_y (zeros (k+1)++u)=dq (zeros (k+1)++u):=fun u hu=>wT (by
  have:=(zCV h.os (x.zA.length-(k+1)) (k+1) _ (by omega) hu).1
  grind[yA])
 rw[yX hk,yZ,ff]
 by_cases hge:a0+b0≥at0 x.zA k
 ·have t1:=(h.tl k hk).1
  have hw:=zJY t1 hk;have ab:=h.pl;rw[dx hge,zI,if_pos hge,bs,zH (by omega) (by omega),bs,bs,zW [] (by omega),bs,zBx t1 hk,hg _ _ hw hm,bs,own _ (wI ok hw hm),bs];rw[←zBb,zG1,bs,zFb];rfl
 ·rw[dw hge,zJ,if_neg hge,own _ hm,bs,←zBb,zG1,bs,zFb]
theorem zE6{x:SPr}(h:Pres x):∀(d k:Nat),k+d=x.zA.length→(∀m,2*d+1≤m→FAt x k (zMi m))∧(1≤d→ ∀m,2*d≤m→FIm x k (zMh m))
 |0,k,hk=>by
  refine⟨fun m hm a b ha hb=>?_,fun h=>by omega⟩;have h6:=h.os.1;obtain⟨m,rfl⟩:∃m',m=m'+1:=⟨m-1,by omega⟩;show b_a _ _ x k _ _=_;unfold b_a;rw[dx (by omega),zI,xD (by omega),bs,kO (by omega)]
  grind[mul,zeros]
 |d+1,k,hk=>by
  obtain⟨h1,h2⟩:=zE6 h d (k+1) (by omega);have hI:∀m,2*(d+1)≤m→FIm x k (zMh m):=fun m hm=>by obtain⟨m,rfl⟩:∃m',m=m'+1:=⟨m-1,by omega⟩;exact zLB h (by omega) (h1 m (by omega))
  refine⟨fun m hm=>?_,fun _=>hI⟩;obtain⟨m,rfl⟩:∃m',m=m'+1:=⟨m-1,by omega⟩;exact zTk h (by omega) (h1 m (by omega)) (hI m (by omega))
theorem zIM{x:SPr}(h:Pres x){k:Nat}(hk:k≤x.zA.length):FAt x k f_a:=fun a b ha hb=>
 zBt (2*(x.zA.length-k)+1) fun m hm=>(zE6 h (x.zA.length-k) k (by omega)).1 m hm a b ha hb
theorem zLC{x:SPr}(h:Pres x){k:Nat}(hk:k<x.zA.length):FIm x k f_d:=fun v hv=>
 zBt (2*(x.zA.length-k)) fun m hm=>(zE6 h (x.zA.length-k) k (by omega)).2 (by omega) m hm v hv
end Go.Pl

namespace Go.Pl
open Go Go.Ab Go.Wk Go.Pc
theorem zCn:∀{P Q:Pcp},Q<:+P→uT P→uT Q
 | [],Q,h,_=>by grind
 |l::P,Q,h,hc=>by
  rcases Ui.1 h with rfl|h
  ·exact hc
  ·exact zCn h hc.1
theorem zHP:∀{P Q:Pcp},Q<:+P→Pc.Ok P→Pc.Ok Q
 | [],Q,h,_=>by grind
 |l::P,Q,h,hc=>by
  rcases Ui.1 h with rfl|h
  ·exact hc
  ·exact zHP h hc.2.2.2.2
theorem zLD(x:SPr)(k:Nat):suf x (k+1)<:+suf x k:=by grind[yX,kO]
theorem zCo{x:SPr}{k:Nat}(h:uT (suf x k)):∀i,uT (suf x (k+i))
 |0=>h
 |i+1=>zCn (zLD x (k+i)) (zCo h i)
theorem zCp{x:SPr}(h:Pres x){k:Nat}(hk:k≤x.zA.length)(hc:uT (suf x k)):Grp (V (suf x k)) (mul (suf x k)) (zeros (suf x k).length):=zNk _ (h.okAt hk) hc
theorem zF2{x:SPr}:∀(i k:Nat)(v:Vec),k+i≤x.zA.length→V (suf x k) v→ ∃q v',v=q++v'∧q.length=i∧V (suf x (k+i)) v'∧
  ∀a b,V (suf x (k+i)) a→V (suf x (k+i)) b→mul (suf x k) (q++a) (zeros i++b)=q++mul (suf x (k+i)) a b
 |0,k,v,_,hv=>⟨[],v,rfl,rfl,hv,fun a b _ _=>rfl⟩
 |i+1,k,v,hk,hv=>by
  rw[yX (by omega)]at hv
  match v,hv with
  |e::v,hv=>
   obtain⟨q,v',h1,h2,h3,h4⟩:=zF2 i (k+1) v (by omega) hv.2;rw[show k+1+i=k+(i+1)from by omega]at h3 h4;refine⟨e::q,v',by grind,by simp[h2],h3,fun a b ha hb=>?_⟩;have he:=hv.1;rw[yX (by omega)];show mul (lvl x k::suf x (k+1)) (e::(q++a)) (0::(zeros i++b))=_;rw[yZ,Lp,if_neg (by omega)]
   grind[iter]
def FTV(x:SPr)(k:Nat)(g:SPr→List Int→List Int→Option (List Int)):Prop:=
 ∀p v u,p.length=k→V (suf x k) v→V (suf x k) u→g x (p++v) (zeros k++u)=dq (p++mul (suf x k) v u)
def FTG(x:SPr)(k:Nat)(g:SPr→List Int→Int→Option (List Int)):Prop:=
 ∀p v,p.length=k→V (suf x k) v→g x (p++v) (k:Int)=dq (p++mul (suf x k) v (1::zeros (x.zA.length-(k+1))))
theorem zHQ{x:SPr}(h:Pres x){k:Nat}(hk:k<x.zA.length){g:SPr→List Int→List Int→Option (List Int)}(hg:FTV x (k+1) g){t:Vec}(ht:V (suf x (k+1)) t)
  {body1:List Int×Int→Int→List Int×Int→Option ((List Int×Int)⊕List Int)}{body2:List Int×Int→Option ((List Int×Int)⊕List Int)}
  (pe:∀s,body2 s=cond (decide (s.2<(t.length:Int))) ((ixO t s.2).bind fun v17=>(zG (body1 s v17) (s.1,0)).bind fun r=>(rng (s.2+1)).bind fun v=>dq (.inl (r,v))) (dq (.inr s.1)))
  (de:∀s v q,body1 s v q=cond (decide (q.2<v)) ((ixO x.zD (k:Int)).bind fun cl=>(ixO cl s.2).bind fun c=>(g x q.1 c).bind fun r=>(rng (q.2+1)).bind fun w=>dq (.inl (r,w))) (dq (.inr q.1)))
  {p:Vec}(hp:p.length=k+1){u:Vec}(hu:V (suf x (k+1)) u):zG body2 (p++u,0)=dq (p++img (mul (suf x (k+1))) (lvl x k).cs t u):=by
 have h6:=h.os.1;have ok:=h.okAt (k:=k+1) (by omega);have ok0:=h.okAt (k:=k) (by omega);rw[yX hk]at ok0;obtain⟨cI,mS⟩:=zCV h.os (x.zA.length-(k+1)) (k+1) t (by omega) ht;have gJ:(lvl x k).cs.length=x.zA.length-(k+1):=by rw[ok0.2.2.1,xV]
 have hA:∀i,V (suf x (k+1)) (img (mul (suf x (k+1))) ((lvl x k).cs.take i) (t.take i) u):=fun i=>
  zAt (wI ok) _ _ (fun c hc=>ok0.2.2.2.1 c (by grind)) hu
 have:=zQ (body:=body2) (r:=p++img (mul (suf x (k+1))) (lvl x k).cs t u) (fun i=>(p++img (mul (suf x (k+1))) ((lvl x k).cs.take i) (t.take i) u,(i:Int))) t.length (fun i hi=>by
  have hr:=mS i (by omega);obtain⟨c,c1,c2,c3,c4⟩:=zF1 h hk (i:=i) (by omega);rw[pe];simp only
  rw[yE hi,zI,yB hi,bs];rw[uC (S:=V (suf x (k+1))) (fun u=>p++u) (fun u=>mul (suf x (k+1)) u c) (at0 t i) hr.1 (by grind[wI]) (fun u q hu hq=>by
   rw[de];simp only
   rw[dx hq,zI,c1,bs,c2,bs,hg p u c hp hu c3,bs,zH (by omega) (by omega),bs,cs]) (by grind) (hA i),bs,zH (by omega) (by omega),bs,cs]
  rw[zCm _ _ _ _ (by omega) (by omega),c4]) (by
  grind)
 grind[img]
theorem zVy{p v:Vec}{a:Int}{k:Nat}(hp:p.length=k):ixO (p++a::v) (k:Int)=dq a:=by rw[wX,Jg (by omega),hp,Ky];rfl
theorem p_set{p v:Vec}{a b:Int}{k:Nat}(hp:p.length=k):(p++a::v).set k b=p++b::v:=by simp_all
theorem zJZ{x:SPr}(h:Pres x){k:Nat}(hk:k<x.zA.length)(hc:uT (suf x (k+1))){g:SPr→List Int→List Int→Option (List Int)}(hg:FTV x (k+1) g):FTG x k (b_b g):=by
 intro p v hp hv;have h6:=h.os.1;have G:=zCp h (k:=k+1) (by omega) hc;have ok:=h.okAt (k:=k+1) (by omega);have ok0:=h.okAt (k:=k) (by omega);obtain⟨ph,bU⟩:=zCV h.os (x.zA.length-k) k v (by omega) hv;rw[yX hk]at hv ok0;obtain⟨e,t,rfl⟩:∃a0 a',v=a0::a':=by cases v with|nil=>grind|cons p q=>simp
 obtain⟨⟨e1,e2⟩,ht⟩:=hv;have ff:(lvl x k).o=at0 x.zA k:=rfl;rw[ff]at e2;have eB:=(h.os.2 k hk).pos;have cI:=(zCV h.os (x.zA.length-(k+1)) (k+1) t (by omega) ht).1;have fI:=xV x (k+1);unfold b_b;have hs:zP (p++e::t) ((k+1:Nat):Int) ((p++e::t).length:Int)=dq t:=by
  unfold zP;rw[if_pos (by grind)];have e3:(p++e::t).drop (k+1)=t:=by rw[List.drop_append,Ht (by omega),hp,show k+1-k=1 from by omega];rfl
  grind[J9]
 have mg:f_Q t=dq t:=by grind[f_Q,zR]
 rw[zH (by omega) (by omega),bs,cs,hs,bs,mg,bs];have hz:=zQ (body:=zRg k t) (r:=(p++[e])++zeros t.length) (fun i=>((p++[e])++(zeros i++t.drop i),(i:Int))) t.length (fun i hi=>by
  have hl:((p++[e])++zeros i).length=k+1+i:=by grind[yA]
  unfold zRg;simp only
  rw[yE hi,zI,zH (by omega) (by omega),bs,zH (by omega) (by omega),bs,show(k:Int)+1+(i:Int)=((k+1+i:Nat):Int)from by omega,wX,←Jh,Jg (by omega),hl,Ky,
   Q5 hi,U9,bs,zH (by omega) (by omega),bs,cs,J9,Hx _ _ (by omega),hl,Ky,L8,zFa]
  simp) (by
  unfold zRg;simp)
 simp only[zeros,Uq,G7,Jy,Jh,Lx]at hz;rw[show((0:Nat):Int)=0 from rfl]at hz;rw[hz,bs,J9,zVy hp,bs,zH (by omega) (by omega),bs,bs,p_set hp,zVy hp,bs,yB hk,bs];have tz:J1 t.length (0:Int)=zeros (suf x (k+1)).length:=by rw[fI,cI];rfl
 rw[yX hk,yZ,ff];have gn:mul (suf x (k+1)) (iter (1:Int).toNat (sig (suf x (k+1)) (lvl x k)) t) (zeros (x.zA.length-(k+1)))=sig (suf x (k+1)) (lvl x k) t:=by rw[←fI];show mul _ (sig (suf x (k+1)) (lvl x k) t) _=_;exact G.oner (zIL ok0 ht)
 rw[gn,tz]
 by_cases heq:e+1=at0 x.zA k
 ·have t1:=(h.tl k hk).1
  have hw:=zJY t1 hk;have ab:=h.pl;have tg:(p++[(0:Int)]).length=k+1:=by simp[hp]
  rw[show(e+1==at0 x.zA k)=du from by grind,zI,if_pos (by omega),bs,zW [] (by omega),bs,p_set hp];have tx:p++0::zeros (suf x (k+1)).length=(p++[0])++zeros (suf x (k+1)).length:=by simp
  rw[tx,zBx t1 hk,hg _ _ _ tg G.ein hw,bs,G.onel hw];rw[zHQ (body1:=zWS g x k) (body2:=zWT g x k t) h hk hg ht (fun _=>rfl) (fun _ _ _=>rfl) tg hw,bs];rw[zDQ G.toMon _ _ ok0.2.2.2.1 hw,show e+1-at0 x.zA k=0 from by omega];simp only[Jh,Lx];rfl
 ·have tg:(p++[e+1]).length=k+1:=by simp[hp]
  rw[show(e+1==at0 x.zA k)=dv from by grind,zJ,if_neg (by omega)];have tx:p++(e+1)::zeros (suf x (k+1)).length=(p++[e+1])++zeros (suf x (k+1)).length:=by simp
  rw[tx,zHQ (body1:=zWU g x k) (body2:=zWV g x k t) h hk hg ht (fun _=>rfl) (fun _ _ _=>rfl) tg G.ein,bs];simp only[Jh,Lx];rfl
theorem zDS{n i:Nat}(h:i<n):tK n i=zeros i++1::zeros (n-(i+1)):=by
 have:zeros n=zeros i++0::zeros (n-(i+1)):=by
  simp only[zeros];rw[←L1,Kq]
  grind
 grind[tK,zFb]
theorem zDT(n:Nat):(sH n).length=n:=by simp[sH]
theorem zLE{n i:Nat}(h:i<n):(sH n).getD i []=tK n i:=by simp[sH,J4,h]
theorem zQq{x:SPr}(h:Pres x){k:Nat}(hk:k≤x.zA.length)(hc:uT (suf x k)){g:SPr→List Int→Int→Option (List Int)}(hg:∀j,k≤j→j<x.zA.length→FTG x j g):FTV x k (b_c g):=by
 intro p v u hp hv hu;have h6:=h.os.1;have G:=zCp h hk hc;have ok:=h.okAt hk;obtain⟨cE,hur⟩:=zCV h.os (x.zA.length-k) k u (by omega) hu;have fI:=xV x k;have hV1:∀j,j≤x.zA.length→j<x.zA.length→V (suf x j) (1::zeros (x.zA.length-(j+1))):=fun j hj ma=>by rw[yX ma];have:=(h.os.2 j ma).pos;refine⟨⟨by omega,by show 1<at0 x.zA j;omega⟩,?_⟩;rw[←xV];exact vQ (h.okAt (by omega))
 have hUn:∀i,i<x.zA.length-k→V (suf x k) (tK (x.zA.length-k) i):=by grind[zDu]
 have hUs:∀c∈sH (x.zA.length-k),V (suf x k) c:=fun c hc=>by
  simp only[sH,Ja,Jp]at hc
  grind
 have hA:∀i,V (suf x k) (img (mul (suf x k)) ((sH (x.zA.length-k)).take i) (u.take i) v):=fun i=>
  zAt (wI ok) _ _ (by grind) hv
 have mb:∀i w,i<x.zA.length-k→V (suf x k) w→g x (p++w) ((k+i:Nat):Int)=dq (p++mul (suf x k) w (tK (x.zA.length-k) i)):=fun i w hi hw=>by obtain⟨q,w',h1,h2,h3,h4⟩:=zF2 i k w (by omega) hw;have h5:=hg (k+i) (by omega) (by omega) (p++q) w' (by grind) h3;rw[Jh,←h1]at h5;rw[h5,zDS hi,h1,show x.zA.length-k-(i+1)=x.zA.length-(k+i+1)from by omega,h4 w' _ h3 (hV1 (k+i) (by omega) (by omega)),Jh]
 unfold b_c;have mR:(zeros k++u).length=x.zA.length:=by grind[yA]
 have:=zQ (body:=zRi g x (zeros k++u)) (r:=p++mul (suf x k) v u) (fun j=>(p++img (mul (suf x k)) ((sH (x.zA.length-k)).take (j-k)) (u.take (j-k)) v,(j:Int))) x.zA.length (fun j hj=>by
  unfold zRi;simp only
  rw[mR,yE hj,zI];rcases Jm j k with hjk|hjk
  ·have e0:ixO (zeros k++u) (j:Int)=dq 0:=by
    rw[wX,L6 (by grind)]
    grind[zeros]
   rw[e0,bs,show j-k=0 from by omega,show j+1-k=0 from by omega];rw[yN];unfold zRh;simp only
   rw[show decide ((0:Int)<0)=dv from rfl,zJ];simp only
   rw[bs,zH (by omega) (by omega),bs,cs]
  ·obtain⟨i,rfl⟩:∃i,j=k+i:=⟨j-k,by omega⟩
   have hi:i<x.zA.length-k:=by omega
   have hr:=hur i hi;rw[zOs (by omega),bs,show k+i-k=i from by omega,show k+i+1-k=i+1 from by omega];rw[uC (S:=V (suf x k)) (fun w=>p++w) (fun w=>mul (suf x k) w (tK (x.zA.length-k) i)) (at0 u i) hr.1 (by grind[wI]) (fun w q hw hq=>by
    unfold zRh;simp only
    rw[dx hq,zI,mb i w hi hw,bs,zH (by omega) (by omega),bs,cs]) (fun w hw=>by
    unfold zRh;simp) (hA i),bs,zH (by omega) (by omega),bs,cs]
   rw[zCm _ _ _ _ (by grind[zDT]) (by omega),zLE hi]) (by
  unfold zRi;simp only
  rw[mR,wS,zJ,Jn (by grind[zDT]),Jn (by omega),zDQ G.toMon _ _ hUs hv];have hn:=normal (suf x k) ok (fun Q hQ=>(zNk Q (zHP hQ ok) (zCn hQ hc)).toMon) u hu
  grind)
 simp only[Qv,Lz,img]at this
 grind
theorem zE7{x:SPr}(h:Pres x):∀(d k:Nat),k+d=x.zA.length→uT (suf x k)→(∀m,2*d+1≤m→FTV x k (zOI m))
 |d,k,hk,hc=>fun m hm=>by
  obtain⟨m,rfl⟩:∃m',m=m'+1:=⟨m-1,by omega⟩;refine zQq h (by omega) hc fun j hj aN=>?_
  obtain⟨m,rfl⟩:∃m',m=m'+1:=⟨m-1,by omega⟩;have tt:uT (suf x (j+1)):=by
   have:=zCo hc (j+1-k)
   grind
  exact zJZ h aN tt (zE7 h (x.zA.length-(j+1)) (j+1) (by omega) tt m (by omega))
 termination_by d=>d
 decreasing_by omega
theorem zTl{x:SPr}(h:Pres x){k:Nat}(hk:k≤x.zA.length)(hc:uT (suf x k)):FTV x k f_c:=fun p v u hp hv hu=>
 zBt (2*(x.zA.length-k)+1) fun m hm=>zE7 h (x.zA.length-k) k (by omega) hc m hm p v u hp hv hu
theorem zTm{x:SPr}(h:Pres x){k:Nat}(hk:k<x.zA.length)(hc:uT (suf x (k+1))):FTG x k f_b:=fun p v hp hv=>
 zBt (2*(x.zA.length-k)) fun m hm=>by obtain⟨m,rfl⟩:∃m',m=m'+1:=⟨m-1,by omega⟩;exact zJZ h hk hc (zE7 h (x.zA.length-(k+1)) (k+1) (by omega) hc m (by omega)) p v hp hv
end Go.Pl

namespace Go.Pl
open Go Go.Ab Go.Wk Go.Pc
abbrev fv(k:Nat)(v:Vec):Vec:=zeros k++v
section
variable {x:SPr} (h:Pres x) {k:Nat} (hk:k≤x.zA.length) (hc:uT (suf x k))
 include h hk
theorem zKa{v:Vec}(hv:V (suf x k) v):v.length=x.zA.length-k:=(zCV h.os (x.zA.length-k) k v (by omega) hv).1
theorem zE8{v:Vec}(hv:V (suf x k) v):(fv k v).length=x.zA.length:=by grind[yA,zKa]
theorem zNo:J1 x.zA.length (0:Int)=fv k (zeros (suf x k).length):=by
 have _:=h;rw[xV];simp only[fv,zeros,Kq];grind
 include hc
theorem zLF{i:Nat}(hi:i<x.zA.length-k):V (suf x k) (tK (x.zA.length-k) i):=by
 have _:=hc;have:=xV x k;rw[←this]at hi ⊢
 exact zDu (h.okAt hk) hi
theorem zKb{p:Vec}(hp:p.length=k){i:Nat}(hi:i<x.zA.length-k){w:Vec}(hw:V (suf x k) w):f_b x (p++w) ((k+i:Nat):Int)=dq (p++mul (suf x k) w (tK (x.zA.length-k) i)):=by
 obtain⟨q,w',h1,h2,h3,h4⟩:=zF2 i k w (by omega) hw;have tt:uT (suf x (k+i+1)):=zCo hc (i+1);have h5:=zTm h (k:=k+i) (by omega) tt (p++q) w' (by grind) h3;have h7:V (suf x (k+i)) (1::zeros (x.zA.length-(k+i+1))):=by
  have ma:k+i<x.zA.length:=by omega
  rw[yX ma];have:=(h.os.2 (k+i) ma).pos;refine⟨⟨by omega,by show 1<at0 x.zA (k+i);omega⟩,?_⟩;rw[←xV];exact vQ (h.okAt (by omega))
 grind[zDS]
theorem zG2{a b:Vec}(ha:V (suf x k) a)(hb:V (suf x k) b):f_c x (fv k a) (fv k b)=dq (fv k (mul (suf x k) a b)):=
 zTl h hk hc (zeros k) a b (yA k) ha hb
theorem zKc{a:Vec}(ha:V (suf x k) a):f_Q (fv k a)=dq (fv k a):=by
 have _:=hc;have:=zE8 h hk ha;have h6:=h.os.1
 grind[f_Q,zR]
theorem zHg{a b:Vec}(ha:V (suf x k) a)(hb:V (suf x k) b):zRo x (fv k a) (fv k b)=dq (fv k (mul (suf x k) a b)):=by grind[zRo,zKc,zG2]
theorem zLG{c:Vec}(mf:V (suf x k) c){e:Int}(e0:0≤e)(e1:e≤1000):zTU x (fv k c) e=dq (fv k (pw (mul (suf x k)) (zeros (suf x k).length) c e.toNat)):=by
 have h6:=h.os.1;have ok:=h.okAt hk;unfold zTU;rw[zE8 h hk mf,xD (by omega),bs,zNo h hk];rw[uC (S:=V (suf x k)) (body:=zKN x (fv k c) e) (fun u=>fv k u) (fun u=>mul (suf x k) u c) e e0 (by grind[wI]) (fun u i hu hi=>by
  unfold zKN;simp only
  rw[dx hi,zI,zG2 h hk hc hu mf,bs,zH (by omega) (by omega),bs,cs]) (fun u hu=>by
  unfold zKN;simp) (vQ ok),bs]
 rfl
theorem zKd{v:Vec}(hv:V (suf x k) v):∃w,V (suf x k) w∧mul (suf x k) v w=zeros (suf x k).length∧f_R x (fv k v)=dq (fv k w):=by
 have h6:=h.os.1;have ok:=h.okAt hk;have G:=zCp h hk hc;have ph:=zE8 h hk hv;have fI:=xV x k;unfold f_R;rw[zKc h hk hc hv,bs,ph,xD (by omega),bs,zNo h hk]
 let I:Nat→(List Int×List Int×Int)→Prop:=fun j s=> ∃A w,s=(fv k A,fv k w,(j:Int))∧V (suf x k) A∧V (suf x k) w∧mul (suf x k) v w=A∧ ∃A',A=zeros (j-k)++A'
 have key:=jQ (body:=zRn x (fv k v)) (Q:=fun r=> ∃w,V (suf x k) w∧mul (suf x k) v w=zeros (suf x k).length∧r=fv k w) I x.zA.length (fun j s hj hI=>by
  obtain⟨A,w,rfl,hA,hw,hm,A',hA'⟩:=hI;left;unfold zRn;simp only
  rw[ph,yE hj,zI];rcases Jm j k with hjk|hjk
  ·have e0:ixO (fv k A) (j:Int)=dq 0:=by
    grind[wX,zeros]
   rw[yN];unfold zOJ;simp only
   rw[e0,bs,show((0:Int) != 0)=dv from rfl,zJ];simp only
   rw[bs,zH (by omega) (by omega),bs,cs]
   grind
  ·obtain⟨i,rfl⟩:∃i,j=k+i:=⟨j-k,by omega⟩
   have hi:i<x.zA.length-k:=by omega
   rw[show k+i-k=i from by omega]at hA';have fM:=zKa h hk hA;obtain⟨a0,A',rfl⟩:∃p q,A'=p::q:=by
    cases A' with
    |nil=>grind[yA]
    |cons p q=>simp
   have eB:=(h.os.2 (k+i) hj).pos;have inner:=jQ (body:=zOJ x (fv k A,fv k w,((k+i:Nat):Int))) (s:=(fv k A,fv k w))
    (Q:=fun r=> ∃B u,r=(fv k B,fv k u)∧V (suf x k) B∧V (suf x k) u∧mul (suf x k) v u=B∧ ∃B',B=zeros (i+1)++B')
    (fun q s=> ∃B u b B',s=(fv k B,fv k u)∧V (suf x k) B∧V (suf x k) u∧mul (suf x k) v u=B∧B=zeros i++b::B'∧(b=0∨b=a0+q)) 10 (fun q s hq hs=>by
     obtain⟨B,u,b,B',rfl,hB,hu,mC,pg,hb⟩:=hs;have hz:ixO (fv k B) ((k+i:Nat):Int)=dq b:=by rw[fv,zOs (by grind[zKa]),pg,at0,J4,Jg (by rw[yA];omega),yA,Ky];rfl
     unfold zOJ;simp only
     rw[hz,bs]
     by_cases df:b=0
     ·subst df
      right;rw[show((0:Int) != 0)=dv from rfl,zJ];exact⟨_,rfl,B,u,rfl,hB,hu,mC,B',by rw[pg,zBb]⟩
     ·left
      have hbq:b=a0+q:=by omega
      rw[show(b != 0)=du from by grind,zI,zKb h hk hc (yA k) hi hB,bs,zKb h hk hc (yA k) hi hu,bs];have hU:=zLF h hk hc hi;obtain⟨q',v',h1,h2,h3,h4⟩:=zF2 i k B (by omega) hB;have hqv:q'=zeros i∧v'=b::B':=by grind[List.append_inj,yA]
      obtain⟨rfl,rfl⟩:=hqv;have h7:V (suf x (k+i)) (1::zeros (x.zA.length-(k+i+1))):=by rw[yX hj];refine⟨⟨by omega,by show 1<at0 x.zA (k+i);omega⟩,?_⟩;rw[←xV];exact vQ (h.okAt (by omega))
      have h8:=h4 (b::B') _ h3 h7;rw[show x.zA.length-(k+i+1)=x.zA.length-k-(i+1)from by omega,←zDS hi,←h1,yX hj,yZ]at h8;refine⟨_,rfl,mul (suf x k) B (tK (x.zA.length-k) i),mul (suf x k) u (tK (x.zA.length-k) i),?_⟩;have ff:(lvl x (k+i)).o=at0 x.zA (k+i):=rfl;rw[ff]at h8
      by_cases hge:b+1≥at0 x.zA (k+i)
      ·rw[if_pos hge]at h8
       refine⟨_,_,rfl,wI ok hB hU,wI ok hu hU,?_,h8,?_⟩
       ·rw[←G.assoc hv hu hU,mC]
       ·left
        rw[yX hj]at h3;have:=h3.1.2;omega
      ·rw[if_neg hge]at h8
       refine⟨_,_,rfl,wI ok hB hU,wI ok hu hU,?_,h8,?_⟩
       ·rw[←G.assoc hv hu hU,mC]
       omega) (fun s hs=>by
     obtain⟨B,u,b,B',rfl,hB,hu,mC,pg,hb⟩:=hs;have hz:ixO (fv k B) ((k+i:Nat):Int)=dq b:=by rw[fv,zOs (by grind[zKa]),pg,at0,J4,Jg (by rw[yA];omega),yA,Ky];rfl
     have hbr:=(zCV h.os (x.zA.length-k) k B (by omega) hB).2 i hi;have ha:=(zCV h.os (x.zA.length-k) k A (by omega) hA).2 i hi;have e1:at0 B i=b:=by rw[pg,at0,J4,Jg (by grind[yA]),yA,Ky];rfl
     have e2:at0 A i=a0:=by rw[hA',at0,J4,Jg (by grind[yA]),yA,Ky];rfl
     have df:b=0:=by omega
     subst df;unfold zOJ;simp only
     rw[hz,bs,show((0:Int) != 0)=dv from rfl,zJ];exact⟨_,rfl,B,u,rfl,hB,hu,mC,B',by rw[pg,zBb]⟩) (by grind)
   obtain⟨r,r1,B,u,rfl,hB,hu,mC,B',pg⟩:=inner;rw[r1,bs,zH (by omega) (by omega),bs,cs]
   grind) (fun s hI=>by
  obtain⟨A,w,rfl,hA,hw,hm,A',hA'⟩:=hI;unfold zRn;simp only
  rw[ph,wS,zJ];refine⟨_,rfl,w,hw,?_,rfl⟩;have fM:=zKa h hk hA;rw[hA',Ji,yA]at fM
  grind) (s:=(fv k v,fv k (zeros (suf x k).length),0))
  ⟨v,_,rfl,hv,vQ ok,G.oner hv,v,by rw[Qv];rfl⟩
 grind
theorem zCq{a b:Vec}(ha:V (suf x k) a)(hb:V (suf x k) b):∃c,V (suf x k) c∧mul (suf x k) b c=mul (suf x k) a b∧zRp x (fv k a) (fv k b)=dq (fv k c):=by
 have ok:=h.okAt hk;have G:=zCp h hk hc;obtain⟨w,hw,hm,h1⟩:=zKd h hk hc hb;have dg:=wI ok ha hb;refine⟨mul (suf x k) w (mul (suf x k) a b),wI ok hw dg,?_,?_⟩
 ·rw[←G.assoc hb hw dg,hm,G.onel dg]
 grind[zRp,zHg]
end
theorem zDv{a b:List Int}(h:a.length≤1000000):zJh a b=dq (a==b):=
 zJV (t:=fun u v=>dq (u==v)) (body:=zRm a b) rfl (fun _=>rfl) (by omega) fun _ _ _ _=>rfl
theorem zE9{a b:List Int}(h:a.length≤1000000):f_S a b=dq (a==b):=zDv h
end Go.Pl

namespace Go.Pl
open Go Go.Ab Go.Wk Go.Pc
theorem zKe{ρ:Type}{body:Int→Option (Int⊕(Unit⊕ρ))}(n i0:Nat)(hn:i0≤n)(P:Nat→Prop)(B:ρ→Prop)
  (h:∀i,i0≤i→i<n→(∀j,i0≤j→j<i→P j)→(body (i:Int)=dq (.inl ((i+1:Nat):Int))∧P i)∨(∃r,body (i:Int)=dq (.inr (.inr r))∧B r∧ ¬P i))
  (he:body (n:Int)=dq (.inr (.inl ()))):
  (zG body (i0:Int)=dq (.inl ())∧ ∀j,i0≤j→j<n→P j)∨ ∃r i,i0≤i∧i<n∧zG body (i0:Int)=dq (.inr r)∧B r∧ ¬P i:=by
 have key:∀k i,i0≤i→i+k=n→(∀j,i0≤j→j<i→P j)→(zG body (i:Int)=dq (.inl ())∧ ∀j,i0≤j→j<n→P j)∨ ∃r q,i0≤q∧q<n∧zG body (i:Int)=dq (.inr r)∧B r∧ ¬P q:=by
  intro k
  induction k with
  |zero=>
   intro i hi hk hp;obtain rfl:i=n:=by omega
   grind[yN]
  |succ k ih=>
   intro i hi hk hp;rcases h i hi (by omega) hp with⟨h1,h2⟩|⟨r,h1,h2,h3⟩
   ·have:=ih (i+1) (by omega) (by omega) (by grind)
    rw[yN,h1];exact this
   ·exact .inr ⟨r,i,hi,by omega,by rw[yN,h1],h2,h3⟩
 exact key (n-i0) i0 (Jd _) (by omega) fun j a b=>by omega
theorem zG3{σ ρ:Type}{body:σ→Option (σ⊕ρ)}{Q:ρ→Prop}(I:σ→Prop)(m:σ→Nat)
  (h:∀s,I s→(∃s',body s=dq (.inl s')∧I s'∧m s'<m s)∨ ∃r,body s=dq (.inr r)∧Q r):∀(k:Nat)(s:σ),m s≤k→I s→ ∃r,zG body s=dq r∧Q r
 |k,s,hk,hs=>by
  rcases h s hs with⟨s',h1,h2,h3⟩|⟨r,h1,h2⟩
  ·cases k with
   |zero=>omega
   |succ k=>
    obtain⟨r,h4,h5⟩:=zG3 I m h k s' (by omega) h2
    grind[yN]
  grind[yN]
theorem zW0{k:Nat}{a b:Vec}:(fv k a==fv k b)=du↔a=b:=by simp
theorem zG4{x:SPr}{v:List Int}{i k:Nat}(h:Exp x.zA v i)(hk:k≤i+1)(hn:k≤x.zA.length):v=fv k (v.drop k)∧V (suf x k) (v.drop k):=by
 have h1:=h.1.1;constructor
 ·apply Kt
  intro j;rw[fv,Kg];simp only[zeros,Gg,K0,Lg];split
  ·rename_i hj
   have h2:=h.2 j (by omega)
   grind
  grind
 ·refine zWz (x.zA.length-k) k _ (by omega) (by grind) fun j hj=>?_
  have:=h.1.2 (k+j) (by omega)
  grind
structure LC (x:SPr) (k:Nat):Prop where
 c1:∀j,k+1≤j→j<x.zA.length→pw (mul (suf x (k+1))) (zeros (suf x (k+1)).length) ((lvl x k).cs.getD (j-(k+1)) []) (at0 x.zA j).toNat=sig (suf x (k+1)) (lvl x k) ((x.zN.getD j []).drop (k+1))
 c2:∀i,k+1≤i→i<x.zA.length→ ∀j,i+1≤j→j<x.zA.length→
  mul (suf x (k+1)) ((lvl x k).cs.getD (j-(k+1)) []) ((lvl x k).cs.getD (i-(k+1)) [])=mul (suf x (k+1)) ((lvl x k).cs.getD (i-(k+1)) []) (sig (suf x (k+1)) (lvl x k) (((x.zD.getD i []).getD (j-(i+1)) []).drop (k+1)))
 c3:sig (suf x (k+1)) (lvl x k) (lvl x k).w=(lvl x k).w
 c4:∀j,k+1≤j→j<x.zA.length→mul (suf x (k+1)) (lvl x k).w (iter (lvl x k).o.toNat (sig (suf x (k+1)) (lvl x k)) (tK (x.zA.length-(k+1)) (j-(k+1))))=mul (suf x (k+1)) (tK (x.zA.length-(k+1)) (j-(k+1))) (lvl x k).w
section
variable {x:SPr} (h:Pres x) {k:Nat} (hk:k<x.zA.length) (hc:uT (suf x (k+1)))
 include h hk
theorem zBy{j:Nat}(h1:k+1≤j)(h2:j<x.zA.length):ixO x.zD (k:Int)=dq (x.zD.getD k [])∧ixO (x.zD.getD k []) ((j:Int)-(k:Int)-1)=dq (fv (k+1) ((lvl x k).cs.getD (j-(k+1)) []))∧V (suf x (k+1)) ((lvl x k).cs.getD (j-(k+1)) []):=by
 obtain⟨c,c1,c2,c3,c4⟩:=zF1 h hk (i:=j-(k+1)) (by omega)
 grind
theorem zQr{j:Nat}(h1:k+1≤j)(h2:j<x.zA.length):ixO x.zN (j:Int)=dq (fv (k+1) ((x.zN.getD j []).drop (k+1)))∧V (suf x (k+1)) ((x.zN.getD j []).drop (k+1)):=by
 have t1:=(h.tl j h2).1;have hl:=h.pl
 grind[zG4,zW]
theorem zVz{i j:Nat}(h1:k+1≤i)(h2:i+1≤j)(h3:j<x.zA.length):ixO x.zD (i:Int)=dq (x.zD.getD i [])∧ixO (x.zD.getD i []) ((j:Int)-(i:Int)-1)=dq (fv (k+1) (((x.zD.getD i []).getD (j-(i+1)) []).drop (k+1)))∧V (suf x (k+1)) (((x.zD.getD i []).getD (j-(i+1)) []).drop (k+1)):=by
 obtain⟨_,t2,t3⟩:=h.tl i (by omega)
 grind[zG4,zW]
theorem zW1:ixO x.zN (k:Int)=dq (fv (k+1) (lvl x k).w)∧V (suf x (k+1)) (lvl x k).w:=by have t1:=(h.tl k hk).1;have hl:=h.pl;obtain⟨e1,e2⟩:=zG4 (k:=k+1) t1 (by omega) (by omega);exact⟨by rw[zW [] (by omega)];exact congrArg dq e1,e2⟩
theorem zV0{v:Vec}(hv:V (suf x (k+1)) v):V (suf x (k+1)) (sig (suf x (k+1)) (lvl x k) v):=by
 have ok0:=h.okAt (k:=k) (by omega)
 grind[yX,zIL]
theorem zHR{j:Nat}(h1:k+1≤j)(h2:j<x.zA.length):zMo (x.zA.length:Int) (j:Int)=dq (fv (k+1) (tK (x.zA.length-(k+1)) (j-(k+1)))):=by
 have h6:=h.os.1;unfold zMo;rw[xD (by omega),bs,wX,K0,if_pos h2,bs,J9]
 congr 1
 rw[fv,zDS (by omega),←Jh];have e1:zeros (k+1)++zeros (j-(k+1))=zeros j:=by grind[zeros,Kq]
 have e2:J1 x.zA.length (0:Int)=zeros j++0::zeros (x.zA.length-(j+1)):=by simp only[zeros];rw[←L1,Kq];grind
 grind[zFb]
theorem zOt{j:Nat}(h1:k+1≤j)(h2:j<x.zA.length):zD3 (x.zA.length:Int) (j:Int)=dq (fv (k+1) (tK (x.zA.length-(k+1)) (j-(k+1)))):=zHR h hk h1 h2
 include hc
theorem zAv{v:Vec}(hv:V (suf x (k+1)) v):f_M x k (fv (k+1) v)=dq (fv (k+1) (sig (suf x (k+1)) (lvl x k) v)):=by
 have h6:=h.os.1;have ok:=h.okAt (k:=k+1) (by omega);have ok0:=h.okAt (k:=k) (by omega);rw[yX hk]at ok0;obtain⟨ph,bU⟩:=zCV h.os (x.zA.length-(k+1)) (k+1) v (by omega) hv;have gJ:(lvl x k).cs.length=x.zA.length-(k+1):=by rw[ok0.2.2.1,xV]
 have t2:=(h.tl k hk).2.1;have aW:=h.cl;have hA:∀i,V (suf x (k+1)) (img (mul (suf x (k+1))) ((lvl x k).cs.take i) (v.take i) (zeros (suf x (k+1)).length)):=fun i=>
  zAt (wI ok) _ _ (fun c hc=>ok0.2.2.2.1 c (by grind)) (vQ ok)
 unfold f_M;rw[zE8 h (by omega) hv,xD (by omega),bs,zW [] (by omega),bs,zNo h (k:=k+1) (by omega)];have:=zQ (body:=zRl x k (fv (k+1) v) (x.zD.getD k [])) (r:=fv (k+1) (sig (suf x (k+1)) (lvl x k) v))
  (fun i=>(fv (k+1) (img (mul (suf x (k+1))) ((lvl x k).cs.take i) (v.take i) (zeros (suf x (k+1)).length)),(i:Int))) (x.zD.getD k []).length (fun i hi=>by
  have hr:=bU i (by omega);obtain⟨c,c1,c2,c3,c4⟩:=zF1 h hk (i:=i) (by omega);unfold zRl;simp only
  rw[yE hi,zI,c2,bs,zH (by omega) (by omega),bs,zH (by omega) (by omega),bs,show(k:Int)+1+(i:Int)=((k+1+i:Nat):Int)from by omega,fv,zOs (by omega),bs];rw[uC (S:=V (suf x (k+1))) (body:=zRk x (zeros (k+1)++c) (at0 v i)) (fun u=>fv (k+1) u) (fun u=>mul (suf x (k+1)) u c) (at0 v i) hr.1 (by grind[wI]) (fun u q hu hq=>by
   unfold zRk;simp only
   rw[dx hq,zI,zG2 h (by omega) hc hu c3,bs,zH (by omega) (by omega),bs,cs]) (fun u hu=>by
   unfold zRk;simp) (hA i),bs,zH (by omega) (by omega),bs,cs]
  rw[zCm _ _ _ _ (by omega) (by omega),c4]) (by
  unfold zRl;simp only
  rw[wS,zJ,Jn (by omega),Jn (by omega)];rfl)
 simp only[Lz,img]at this
 grind
theorem zCr{a b:Vec}(ha:V (suf x (k+1)) a):IsB (zJh (fv (k+1) a) (fv (k+1) b)) (a=b):=by
 have _:=hc;have h6:=h.os.1
 grind[zDv,zE8,IsB.of_bool,zW0]
theorem zKf{c:Vec}(mf:V (suf x (k+1)) c){e:Int}(e0:0≤e)(e1:e≤1000):zTR x ((k+1:Nat):Int) (fv (k+1) c) e=dq (fv (k+1) (pw (mul (suf x (k+1))) (zeros (suf x (k+1)).length) c e.toNat)):=by
 have h6:=h.os.1;have ok:=h.okAt (k:=k+1) (by omega);have G:=zCp h (k:=k+1) (by omega) hc;have hA:=zIM h (k:=k+1) (by omega);have pwV:∀a,V (suf x (k+1)) (pw (mul (suf x (k+1))) (zeros (suf x (k+1)).length) c a):=fun a=>tA G.toMon mf a
 unfold zTR;rw[xD (by omega),bs,zNo h (k:=k+1) (by omega)];obtain⟨r,r1,r2⟩:=zG3 (body:=zNN x ((k+1:Nat):Int)) (Q:=fun r=>r=fv (k+1) (pw (mul (suf x (k+1))) (zeros (suf x (k+1)).length) c e.toNat))
  (fun s=> ∃(m a q:Nat),s=((m:Int),fv (k+1) (pw (mul (suf x (k+1))) (zeros (suf x (k+1)).length) c a),fv (k+1) (pw (mul (suf x (k+1))) (zeros (suf x (k+1)).length) c q))∧a+q*m=e.toNat∧m≤1000) (fun s=>s.1.toNat) (fun s ⟨m,a,q,hs,he,hm⟩=>by
   subst hs;unfold zNN;simp only
   by_cases hm0:m=0
   ·grind
   ·left
    have hr:yO (m:Int) 2=dq ((m%2:Nat):Int):=by rfl
    have hq:xL (m:Int) 2=dq ((m/2:Nat):Int):=by
     unfold xL;rw[if_neg (by decide),Hm (by omega)]
     grind[zH]
    have mE:=Nat.div_add_mod m 2;have bg:mul (suf x (k+1)) (pw (mul (suf x (k+1))) (zeros (suf x (k+1)).length) c q) (pw (mul (suf x (k+1))) (zeros (suf x (k+1)).length) c q)=pw (mul (suf x (k+1))) (zeros (suf x (k+1)).length) c (q+q):=(zGx G.toMon mf q q).symm;rw[dx (by omega),zI,hr,bs];rcases Nat.mod_two_eq_zero_or_one m with h2|h2
    ·rw[h2,show((((0:Nat):Int))==1)=dv from rfl,zJ,hA _ _ (pwV q) (pwV q),bs,hq,bs,bg]
     refine⟨_,rfl,⟨m/2,a,q+q,rfl,?_,by omega⟩,by omega⟩
     grind
    ·rw[h2,show((((1:Nat):Int))==1)=du from rfl,zI,hA _ _ (pwV a) (pwV q),bs,hA _ _ (pwV q) (pwV q),bs,hq,bs,bg,←zGx G.toMon mf a q]
     refine⟨_,rfl,⟨m/2,a+q,q+q,rfl,?_,by omega⟩,by omega⟩
     grind) 1000000 (e,fv (k+1) (zeros (suf x (k+1)).length),fv (k+1) c) (by omega) ⟨e.toNat,0,1,by rw[zQm G.toMon mf,show((e.toNat:Nat):Int)=e from by omega];rfl,by omega,by omega⟩
 grind
end
end Go.Pl

namespace Go.Pl
open Go Go.Ab Go.Wk Go.Pc
def zYK(o:Option yS)(P:Prop):Prop:=(o=dq (yS.mk 0 0 0 0)∧P)∨ ∃r,o=dq r∧r.Kind≠0∧ ¬P
theorem kb{a b c d:Int}(h:a≠0):(yS.mk a b c d).Kind≠0:=h
abbrev KB(r:yS):Prop:=r.Kind≠0
theorem zBz{o:Option Bool}{P:Prop}{bad:yS}{i:Nat}{g:Option (Int⊕(Unit⊕yS))}(h:IsB o P)(hi:i<9223372036854775807)(hbad:bad.Kind≠0)
  (hg:g=o.bind fun r=>cond (!r) (dq (.inr (.inr bad))) ((rng ((i:Int)+1)).bind fun v=>dq (.inl v))):(g=dq (.inl ((i+1:Nat):Int))∧P)∨(∃r,g=dq (.inr (.inr r))∧KB r∧ ¬P):=by
 rcases vG h hi hg with h|⟨h1,h2⟩
 all_goals grind
section
variable {x:SPr} (h:Pres x) {k:Nat} (hk:k<x.zA.length) (hc:uT (suf x (k+1)))
 include h hk hc
theorem zLH:zYK (f_q x k) (LC x k):=by
 have h6:=h.os.1;have ok:=h.okAt (k:=k+1) (by omega);have G:=zCp h (k:=k+1) (by omega) hc;obtain⟨w1,w2⟩:=zW1 h hk;have cK:∀v,V (suf x (k+1)) v→V (suf x (k+1)) (sig (suf x (k+1)) (lvl x k) v):=by grind[zV0]
 unfold f_q;rw[zH (by omega) (by omega),bs,cs];rcases zKe (body:=zRq x k) x.zA.length (k+1) (by omega) (fun j=>pw (mul (suf x (k+1))) (zeros (suf x (k+1)).length) ((lvl x k).cs.getD (j-(k+1)) []) (at0 x.zA j).toNat=sig (suf x (k+1)) (lvl x k) ((x.zN.getD j []).drop (k+1))) KB (fun j h1 h2 _=>by
   obtain⟨c1,c2,c3⟩:=zBy h hk h1 h2;obtain⟨p1,p2⟩:=zQr h hk h1 h2;have eB:=(h.os.2 j h2).pos;refine zBz (zCr h hk hc (tA G.toMon c3 (at0 x.zA j).toNat)) (by omega) (bad:=yS.mk 1 k j 0) (kb (by decide)) ?_;unfold zRq;rw[yE h2,zI,c1,bs,zH (by omega) (by omega),bs,zH (by omega) (by omega),bs,c2,bs,yB h2,bs,zLG h (by omega) hc c3 (by omega) (by omega),bs,p1,bs,zAv h hk hc p2,bs]) (by
   unfold zRq;simp)with⟨g1,g2⟩|⟨r,j,j1,j2,g1,g2,g3⟩
 rotate_left
 ·rw[g1,bs]
  exact .inr ⟨r,rfl,g2,fun q=>g3 (q.c1 j j1 j2)⟩
 rw[g1,bs];simp only
 rw[bs];rcases zKe (body:=zRs x k) x.zA.length (k+1) (by omega) (fun i=> ∀j,i+1≤j→j<x.zA.length→
   mul (suf x (k+1)) ((lvl x k).cs.getD (j-(k+1)) []) ((lvl x k).cs.getD (i-(k+1)) [])=mul (suf x (k+1)) ((lvl x k).cs.getD (i-(k+1)) []) (sig (suf x (k+1)) (lvl x k) (((x.zD.getD i []).getD (j-(i+1)) []).drop (k+1)))) KB (fun i h1 h2 _=>by
   obtain⟨c1,c2,c3⟩:=zBy h hk h1 h2;unfold zRs;rw[yE h2,zI,zH (by omega) (by omega),bs,cs];rcases zKe (body:=zRr x k i) x.zA.length (i+1) (by omega) (fun j=>mul (suf x (k+1)) ((lvl x k).cs.getD (j-(k+1)) []) ((lvl x k).cs.getD (i-(k+1)) [])=mul (suf x (k+1)) ((lvl x k).cs.getD (i-(k+1)) []) (sig (suf x (k+1)) (lvl x k) (((x.zD.getD i []).getD (j-(i+1)) []).drop (k+1)))) KB (fun j h3 h4 _=>by
     obtain⟨d1,d2,d3⟩:=zBy h hk (j:=j) (by omega) h4;obtain⟨e1,e2,e3⟩:=zVz h hk h1 h3 h4;obtain⟨q,q1,q2,q3⟩:=zCq h (by omega) hc d3 c3;refine zBz ((zCr h hk hc (b:=sig (suf x (k+1)) (lvl x k) (((x.zD.getD i []).getD (j-(i+1)) []).drop (k+1))) q1).iff (Q:=mul (suf x (k+1)) ((lvl x k).cs.getD (j-(k+1)) []) ((lvl x k).cs.getD (i-(k+1)) [])=mul (suf x (k+1)) ((lvl x k).cs.getD (i-(k+1)) []) (sig (suf x (k+1)) (lvl x k) (((x.zD.getD i []).getD (j-(i+1)) []).drop (k+1)))) ?_) (by omega) (bad:=yS.mk 2 k i j) (kb (by decide)) ?_
     ·exact⟨by grind,fun e=>G.cancel_l c3 q1 (cK _ e3) (by rw[q2,e])⟩
     ·unfold zRr
      rw[yE h4,zI,d1,bs,zH (by omega) (by omega),bs,zH (by omega) (by omega),bs,d2,bs,bs,zH (by omega) (by omega),bs,zH (by omega) (by omega),bs,c2,bs,q3,bs,e1,bs,zH (by omega) (by omega),bs,zH (by omega) (by omega),bs,e2,bs,zAv h hk hc e3,bs]) (by
     unfold zRr;simp)with⟨g1,g2⟩|⟨r,j,j1,j2,g1,g2,g3⟩
   ·grind
   grind) (by
   unfold zRs;simp)with⟨k1,k2⟩|⟨r,j,j1,j2,k1,k2,k3⟩
 rotate_left
 ·rw[k1,bs]
  exact .inr ⟨r,rfl,k2,fun q=>k3 (q.c2 j j1 j2)⟩
 rw[k1,bs];simp only
 rw[w1,bs,zAv h hk hc w2,bs];rcases zCr h hk hc (b:=(lvl x k).w) (cK _ w2)with⟨m1,m2⟩|⟨m1,m2⟩
 rotate_left
 ·rw[m1,bs,Jr,zI]
  exact .inr ⟨_,rfl,kb (by decide),fun q=>m2 q.c3⟩
 rw[m1,bs,J5,zJ,bs];rcases zKe (body:=zRu x k (fv (k+1) (lvl x k).w)) x.zA.length (k+1) (by omega) (fun j=>mul (suf x (k+1)) (lvl x k).w (iter (lvl x k).o.toNat (sig (suf x (k+1)) (lvl x k)) (tK (x.zA.length-(k+1)) (j-(k+1))))=mul (suf x (k+1)) (tK (x.zA.length-(k+1)) (j-(k+1))) (lvl x k).w) KB (fun j h1 h2 _=>by
   have hU:=zLF h (k:=k+1) (by omega) hc (i:=j-(k+1)) (by omega);have eB:=(h.os.2 k hk).pos;obtain⟨q,q1,q2,q3⟩:=zCq h (k:=k+1) (by omega) hc hU w2;have fq:V (suf x (k+1)) (iter (lvl x k).o.toNat (sig (suf x (k+1)) (lvl x k)) (tK (x.zA.length-(k+1)) (j-(k+1)))):=sM cK _ hU;refine zBz ((zCr h hk hc (b:=q) fq).iff ⟨by grind,fun e=>G.cancel_l w2 fq q1 (by rw[e,q2])⟩) (by omega) (bad:=yS.mk 4 k j 0) (kb (by decide)) ?_;unfold zRu;rw[yE h2,zI,zHR h hk h1 h2,bs,yB hk,bs];rw[uC (S:=V (suf x (k+1))) (body:=zRt x k (at0 x.zA k)) (fun u=>fv (k+1) u) (sig (suf x (k+1)) (lvl x k)) (at0 x.zA k) (by omega) cK (fun u i hu hi=>by
    unfold zRt;simp only
    rw[dx hi,zI,zAv h hk hc hu,bs,zH (by omega) (by omega),bs,cs]) (fun u hu=>by
    unfold zRt;simp) hU,bs,bs,q3,bs]
   rfl) (by
   unfold zRu;simp)with⟨n1,n2⟩|⟨r,j,j1,j2,n1,n2,n3⟩
 ·rw[n1,bs]
  exact .inl ⟨rfl,⟨g2,k2,m2,n2⟩⟩
 ·rw[n1,bs]
  exact .inr ⟨r,rfl,n2,fun q=>n3 (q.c4 j j1 j2)⟩
theorem zLI:zYK (f_r x k) (LC x k):=by
 have h6:=h.os.1;have ok:=h.okAt (k:=k+1) (by omega);have G:=zCp h (k:=k+1) (by omega) hc;obtain⟨w1,w2⟩:=zW1 h hk;have hA:=zIM h (k:=k+1) (by omega);have hI:=zLC h hk;have cK:∀v,V (suf x (k+1)) v→V (suf x (k+1)) (sig (suf x (k+1)) (lvl x k) v):=by grind[zV0]
 have eqB:∀{a b:Vec},V (suf x (k+1)) a→IsB (f_S (fv (k+1) a) (fv (k+1) b)) (a=b):=fun ha=>zCr h hk hc ha
 unfold f_r;rw[zH (by omega) (by omega),bs,cs];rcases zKe (body:=zQP x k) x.zA.length (k+1) (by omega) (fun j=>pw (mul (suf x (k+1))) (zeros (suf x (k+1)).length) ((lvl x k).cs.getD (j-(k+1)) []) (at0 x.zA j).toNat=sig (suf x (k+1)) (lvl x k) ((x.zN.getD j []).drop (k+1))) KB (fun j h1 h2 _=>by
   obtain⟨c1,c2,c3⟩:=zBy h hk h1 h2;obtain⟨p1,p2⟩:=zQr h hk h1 h2;have eB:=(h.os.2 j h2).pos;refine zBz (eqB (tA G.toMon c3 (at0 x.zA j).toNat)) (by omega) (bad:=yS.mk 1 k j 0) (kb (by decide)) ?_;unfold zQP;rw[yE h2,zI,zH (by omega) (by omega),bs,cs,c1,bs,zH (by omega) (by omega),bs,zH (by omega) (by omega),bs,c2,bs,yB h2,bs,zKf h hk hc c3 (by omega) (by omega),bs,p1,bs,hI _ p2,bs]) (by
   unfold zQP;simp)with⟨g1,g2⟩|⟨r,j,j1,j2,g1,g2,g3⟩
 rotate_left
 ·rw[g1,bs]
  exact .inr ⟨r,rfl,g2,fun q=>g3 (q.c1 j j1 j2)⟩
 rw[g1,bs];simp only
 rw[bs];rcases zKe (body:=zQR x k) x.zA.length (k+1) (by omega) (fun i=> ∀j,i+1≤j→j<x.zA.length→
   mul (suf x (k+1)) ((lvl x k).cs.getD (j-(k+1)) []) ((lvl x k).cs.getD (i-(k+1)) [])=mul (suf x (k+1)) ((lvl x k).cs.getD (i-(k+1)) []) (sig (suf x (k+1)) (lvl x k) (((x.zD.getD i []).getD (j-(i+1)) []).drop (k+1)))) KB (fun i h1 h2 _=>by
   obtain⟨c1,c2,c3⟩:=zBy h hk h1 h2;unfold zQR;rw[yE h2,zI,zH (by omega) (by omega),bs,cs];rcases zKe (body:=zQQ x k i) x.zA.length (i+1) (by omega) (fun j=>mul (suf x (k+1)) ((lvl x k).cs.getD (j-(k+1)) []) ((lvl x k).cs.getD (i-(k+1)) [])=mul (suf x (k+1)) ((lvl x k).cs.getD (i-(k+1)) []) (sig (suf x (k+1)) (lvl x k) (((x.zD.getD i []).getD (j-(i+1)) []).drop (k+1)))) KB (fun j h3 h4 _=>by
     obtain⟨d1,d2,d3⟩:=zBy h hk (j:=j) (by omega) h4;obtain⟨e1,e2,e3⟩:=zVz h hk h1 h3 h4;refine zBz (eqB (wI ok d3 c3)) (by omega) (bad:=yS.mk 2 k i j) (kb (by decide)) ?_;unfold zQQ;rw[yE h4,zI,d1,bs,zH (by omega) (by omega),bs,zH (by omega) (by omega),bs,c2,bs,bs,zH (by omega) (by omega),bs,zH (by omega) (by omega),bs,d2,bs,e1,bs,zH (by omega) (by omega),bs,zH (by omega) (by omega),bs,e2,bs,hI _ e3,bs,zH (by omega) (by omega),bs,cs,hA _ _ d3 c3,bs,bs,hA _ _ c3 (cK _ e3),bs]) (by
     unfold zQQ;simp)with⟨g1,g2⟩|⟨r,j,j1,j2,g1,g2,g3⟩
   ·grind
   grind) (by
   unfold zQR;simp)with⟨k1,k2⟩|⟨r,j,j1,j2,k1,k2,k3⟩
 rotate_left
 ·rw[k1,bs]
  exact .inr ⟨r,rfl,k2,fun q=>k3 (q.c2 j j1 j2)⟩
 rw[k1,bs];simp only
 rw[w1,bs,hI _ w2,bs];rcases eqB (b:=(lvl x k).w) (cK _ w2)with⟨m1,m2⟩|⟨m1,m2⟩
 rotate_left
 ·rw[m1,bs,Jr,zI]
  exact .inr ⟨_,rfl,kb (by decide),fun q=>m2 q.c3⟩
 rw[m1,bs,J5,zJ,bs];rcases zKe (body:=zQT x k (fv (k+1) (lvl x k).w)) x.zA.length (k+1) (by omega) (fun j=>mul (suf x (k+1)) (lvl x k).w (iter (lvl x k).o.toNat (sig (suf x (k+1)) (lvl x k)) (tK (x.zA.length-(k+1)) (j-(k+1))))=mul (suf x (k+1)) (tK (x.zA.length-(k+1)) (j-(k+1))) (lvl x k).w) KB (fun j h1 h2 _=>by
   have hU:=zLF h (k:=k+1) (by omega) hc (i:=j-(k+1)) (by omega);have eB:=(h.os.2 k hk).pos;have fq:V (suf x (k+1)) (iter (lvl x k).o.toNat (sig (suf x (k+1)) (lvl x k)) (tK (x.zA.length-(k+1)) (j-(k+1)))):=sM cK _ hU;refine zBz (eqB (wI ok w2 fq)) (by omega) (bad:=yS.mk 4 k j 0) (kb (by decide)) ?_;unfold zQT;rw[yE h2,zI,zOt h hk h1 h2,bs];rw[uC (S:=V (suf x (k+1))) (body:=zQS x k) (fun u=>fv (k+1) u) (sig (suf x (k+1)) (lvl x k)) (at0 x.zA k) (by omega) cK (fun u i hu hi=>by
    unfold zQS;simp only
    rw[yB hk,bs,dx hi,zI,hI _ hu,bs,zH (by omega) (by omega),bs,cs]) (fun u hu=>by
    unfold zQS;simp only
    rw[yB hk,bs,dw (by omega),zJ]) hU,bs,zH (by omega) (by omega),bs,cs]
   have ho:(lvl x k).o=at0 x.zA k:=rfl;rw[←ho,hA _ _ w2 fq,bs,bs,hA _ _ hU w2,bs]) (by
   unfold zQT;simp)with⟨n1,n2⟩|⟨r,j,j1,j2,n1,n2,n3⟩
 ·rw[n1,bs]
  exact .inl ⟨rfl,⟨g2,k2,m2,n2⟩⟩
 ·rw[n1,bs]
  exact .inr ⟨r,rfl,n2,fun q=>n3 (q.c4 j j1 j2)⟩
end
end Go.Pl

namespace Go.Pl
open Go Go.Ab Go.Wk Go.Pc
theorem zEA{m:Vec→Vec→Vec}:∀(i:Nat)(cs:List Vec)(w acc:Vec),i≤cs.length→img m cs (zeros i++w) acc=img m (cs.drop i) w acc
 |0,cs,w,acc,_=>rfl
 |i+1,[],w,acc,h=>by simp at h
 |i+1,c::cs,w,acc,h=>by show img m (c::cs) (0::(zeros i++w)) acc=_;simp only[img,Hc,iter,List.drop_succ_cons];exact zEA i cs w acc (by grind)
theorem zG5{x:SPr}{v:List Int}{j k:Nat}(h:Exp x.zA v j)(hj:j<x.zA.length)(hk:k≤j+1):v.drop k=zeros (j+1-k)++v.drop (j+1):=by
 have:=zBx h hj
 grind[zeros]
section
variable {x:SPr} (h:zG0 x) {k:Nat} (hk:k<x.zA.length)
 include h hk
theorem zCC:(lvl x k).cs.length=x.zA.length-(k+1):=by have ok0:=h.okAt (k:=k) (by omega);rw[yX hk]at ok0;rw[ok0.2.2.1,xV]
theorem zTn{j:Nat}(h1:k+1≤j)(h2:j<x.zA.length):sig (suf x (k+1)) (lvl x k) ((x.zN.getD j []).drop (k+1))=img (mul (suf x (k+1))) ((lvl x k).cs.drop (j-k)) (lvl x j).w (zeros (suf x (k+1)).length):=by have t1:=(h.tl j h2).1;have gJ:=zCC h hk;rw[zG5 t1 h2 (by omega),sig,zEA _ _ _ _ (by omega),show j+1-(k+1)=j-k from by omega];rfl
theorem zNp:∀(d i:Nat),k+1+i+d=x.zA.length→(Rel (mul (suf x (k+1))) (zeros (suf x (k+1)).length) (suf x (k+1+i)) ((lvl x k).cs.drop i)↔
  (∀j,k+1+i≤j→j<x.zA.length→pw (mul (suf x (k+1))) (zeros (suf x (k+1)).length) ((lvl x k).cs.getD (j-(k+1)) []) (at0 x.zA j).toNat=sig (suf x (k+1)) (lvl x k) ((x.zN.getD j []).drop (k+1)))∧
  (∀a,k+1+i≤a→a<x.zA.length→ ∀j,a+1≤j→j<x.zA.length→
   mul (suf x (k+1)) ((lvl x k).cs.getD (j-(k+1)) []) ((lvl x k).cs.getD (a-(k+1)) [])=mul (suf x (k+1)) ((lvl x k).cs.getD (a-(k+1)) []) (sig (suf x (k+1)) (lvl x k) (((x.zD.getD a []).getD (j-(a+1)) []).drop (k+1)))))
 |0,i,hi=>by
  have gJ:=zCC h hk;rw[kO (x:=x) (k:=k+1+i) (by omega),Ht (by omega)];simp only[Rel,true_iff]
  grind
 |d+1,i,hi=>by
  have gJ:=zCC h hk;have ih:=zNp d (i+1) (by omega);rw[show k+1+(i+1)=k+1+i+1 from by omega]at ih;have hj:k+1+i<x.zA.length:=by omega
  have hg:(lvl x k).cs.drop i=(lvl x k).cs.getD i []::(lvl x k).cs.drop (i+1):=by rw[Q5 (by omega),J4,J7 (by omega)];rfl
  rw[yX hj,hg];simp only[Rel];rw[ih];have e1:=zTn h hk (j:=k+1+i) (by omega) hj;rw[show k+1+i-k=i+1 from by omega]at e1;have ho:(lvl x (k+1+i)).o=at0 x.zA (k+1+i):=rfl;rw[ho,←e1];have e2:∀j,k+1+i+1≤j→j<x.zA.length→ ∀dd,(lvl x (k+1+i)).cs[j-(k+1+i+1)]? =dq dd→img (mul (suf x (k+1))) ((lvl x k).cs.drop (i+1)) dd (zeros (suf x (k+1)).length)=sig (suf x (k+1)) (lvl x k) (((x.zD.getD (k+1+i) []).getD (j-(k+1+i+1)) []).drop (k+1)):=fun j h1 h2 dd hdd=>by
   obtain⟨_,t2,t3⟩:=h.tl (k+1+i) hj;have t:=t3 (j-(k+1+i+1)) (by omega);rw[zG5 t hj (by omega),sig,zEA _ _ _ _ (by omega),show k+1+i+1-(k+1)=i+1 from by omega]
   congr 1
   simp only[lvl,Jz,Ke]at hdd
   grind
  have e3:∀j,k+1+i+1≤j→j<x.zA.length→((lvl x k).cs.drop (i+1))[j-(k+1+i+1)]? =dq ((lvl x k).cs.getD (j-(k+1)) [])∧ ∃dd,(lvl x (k+1+i)).cs[j-(k+1+i+1)]? =dq dd:=fun j h1 h2=>by
   have aW:=zCC h hj;refine⟨?_,?_⟩
   ·rw[Lg,show i+1+(j-(k+1+i+1))=j-(k+1)from by omega,J4,J7 (by omega)];rfl
   ·exact⟨_,J7 (by omega)⟩
  constructor
  ·rintro⟨a1,a2,a3,a4⟩
   refine⟨fun j h1 h2=>?_,fun a h1 h2 j h3 h4=>?_⟩
   ·rcases Jm (k+1+i) j with gF|hge
    ·grind
    ·obtain rfl:j=k+1+i:=by omega
     rw[show k+1+i-(k+1)=i from by omega];exact a1
   ·rcases Jm (k+1+i) a with gF|hge
    ·exact a4 a (by omega) h2 j h3 h4
    ·obtain rfl:a=k+1+i:=by omega
     obtain⟨f1,dd,f2⟩:=e3 j (by omega) h4;have:=a2 _ _ _ f1 f2;rw[e2 j (by omega) h4 dd f2]at this;rw[show k+1+i-(k+1)=i from by omega];exact this
  ·rintro⟨a1,a2⟩
   refine⟨?_,fun kk c dd h1 h2=>?_,by grind,by grind⟩
   ·have:=a1 (k+1+i) (by omega) hj
    rw[show k+1+i-(k+1)=i from by omega]at this;exact this
   ·have gF:kk<x.zA.length-(k+1+i+1):=by
     have:=(Jb.1 h1).1;rw[H3]at this;omega
    have g:=a2 (k+1+i) (by omega) hj (k+1+i+1+kk) (by omega) (by omega);obtain⟨f1,_⟩:=e3 (k+1+i+1+kk) (by omega) (by omega);rw[show k+1+i+1+kk-(k+1+i+1)=kk from by omega]at f1 g;rw[h1]at f1;have f1:=Lw.inj f1;have g2:=e2 (k+1+i+1+kk) (by omega) (by omega) dd (by rw[show k+1+i+1+kk-(k+1+i+1)=kk from by omega];exact h2);rw[show k+1+i+1+kk-(k+1+i+1)=kk from by omega]at g2;rw[g2,f1];rw[show k+1+i-(k+1)=i from by omega]at g;exact g
theorem zKg:uT (suf x k)↔uT (suf x (k+1))∧LC x k:=by
 have hr:=zNp h hk (x.zA.length-(k+1)) 0 (by omega);have hl:=xV x (k+1);rw[G7,Qx]at hr;rw[yX hk];simp only[uT];rw[hr];constructor
 ·rintro⟨a,⟨b1,b2⟩,c,d⟩
  refine⟨a,⟨b1,b2,c,fun j h1 h2=>?_⟩⟩
  grind
 ·rintro⟨a,b⟩
  refine⟨a,⟨b.c1,b.c2⟩,b.c3,fun j hj=>?_⟩;have:=b.c4 (k+1+j) (by omega) (by omega);rw[show k+1+j-(k+1)=j from by omega]at this
  rwa [hl]
end
theorem zHS{x:SPr}(h:uT (suf x 0))(k:Nat):uT (suf x k):=by
 have:=zCo h k
 grind
def zBF(x:SPr):Prop:=Pres x∧uT (suf x 0)∧zAA x
theorem zDU{x:SPr}(hl:x.zA.length≤1048576):IsB (zTV x) (zBF x):=by
 unfold zTV;rcases zCU hl with⟨h1,h2⟩|⟨h1,h2⟩
 ·have h6:=h2.os.1
  rw[h1,bs,zI];unfold zWW;obtain⟨r,r1,r2⟩:=jQ (body:=zKO x) (Q:=fun r=> ∃s:Nat,r=(s:Int)∧uT (suf x s)∧(s=0∨ ¬uT (suf x (s-1)))) (fun i s=>i≤x.zA.length∧s=((x.zA.length-i:Nat):Int)∧uT (suf x (x.zA.length-i))) x.zA.length (fun i s hi ⟨_,hs,gZ⟩=>by
    subst hs;have hk:x.zA.length-i-1<x.zA.length:=by omega
    have e9:x.zA.length-(i+1)=x.zA.length-i-1:=by omega
    rw[e9];have e8:i+1≤x.zA.length:=by omega
    rw[show x.zA.length-i=x.zA.length-i-1+1 from by omega]at gZ ⊢
    have pY:=zLH h2.toPres hk gZ;have bD:=zKg h2.toPres.w hk
    generalize x.zA.length-i-1=k at*
    unfold zKO;rw[dx (by omega),zI,zH (by omega) (by omega),bs,show(((k+1:Nat):Int)-1)=(k:Int)from by omega];rcases pY with⟨g1,g2⟩|⟨r,g1,g2,g3⟩
    ·simp_all
    grind) (fun s ⟨_,hs,gZ⟩=>by
    rw[Ky]at hs gZ;subst hs;unfold zKO
    grind) (s:=(x.zA.length:Int)) ⟨by omega,by rfl,by rw[Qw,kO (by omega)];simp only[uT]⟩
  obtain⟨s,rfl,gZ,hs⟩:=r2;rw[r1,bs,bs];cases s with
  |zero=>exact .inl ⟨rfl,h2.toPres,gZ,h2⟩
  |succ s=>
   refine .inr ⟨?_,fun q=>?_⟩
   ·congr 1
   ·rcases hs with hs|hs
    ·omega
    ·exact hs (zHS q.2.1 _)
 ·rw[h1,bs,zJ]
  exact .inr ⟨rfl,fun q=>h2 q.2.2⟩
theorem zG6{x:SPr}(hl:x.zA.length≤1048576):IsB (zQU x) (zBF x):=by
 unfold zQU;rcases uG hl with⟨h1,h2⟩|⟨h1,h2⟩
 ·have h6:=h2.os.1
  rw[h1,bs,zI];unfold zWR zWQ;rw[zH (by omega) (by omega),bs];obtain⟨r,r1,r2⟩:=jQ (body:=zKL x) (Q:=fun r=>(r=.inl ()∧uT (suf x 0))∨ ∃f,r=.inr f∧f.Kind≠0∧ ¬uT (suf x 0)) (fun i s=>i≤x.zA.length∧s=((x.zA.length-i:Nat):Int)-1∧uT (suf x (x.zA.length-i))) x.zA.length (fun i s hi ⟨_,hs,gZ⟩=>by
    subst hs;have hk:x.zA.length-i-1<x.zA.length:=by omega
    have e9:x.zA.length-(i+1)=x.zA.length-i-1:=by omega
    rw[e9];have e8:i+1≤x.zA.length:=by omega
    rw[show x.zA.length-i=x.zA.length-i-1+1 from by omega]at gZ ⊢
    have pY:=zLI h2.toPres hk gZ;have bD:=zKg h2.toPres.w hk
    generalize x.zA.length-i-1=k at*
    unfold zKL;rw[show(((k+1:Nat):Int)-1)=(k:Int)from by omega,dx (by omega),zI];rcases pY with⟨g1,g2⟩|⟨r,g1,g2,g3⟩
    ·left
     rw[g1,bs];simp only
     rw[show((0:Int) != 0)=dv from rfl,zJ,zH (by omega) (by omega),bs]
     grind
    ·right
     rw[g1,bs,show(r.Kind != 0)=du from by grind,zI];exact⟨_,rfl,.inr ⟨r,rfl,g2,by grind[zHS]⟩⟩) (fun s ⟨_,hs,gZ⟩=>by
    rw[Ky]at hs gZ;subst hs;unfold zKL
    grind) (s:=(x.zA.length:Int)-1) ⟨by omega,by rfl,by rw[Qw,kO (by omega)];simp only[uT]⟩
  rw[r1,bs];rcases r2 with⟨rfl,q⟩|⟨f,rfl,g1,g2⟩
  ·exact .inl ⟨rfl,h2.toPres,q,h2⟩
  ·simp only
   rw[bs,show(f.Kind==0)=dv from by grind];exact .inr ⟨rfl,fun q=>g2 q.2.1⟩
 ·rw[h1,bs,zJ]
  exact .inr ⟨rfl,fun q=>h2 q.2.2⟩
end Go.Pl

namespace Go.Pl
open Go Go.Ab Go.Wk
abbrev Mx:=List (List Int)
def S:Nat→(Nat→Int)→Int
 |0,_=>0
 |n+1,f=>S n f+f n
theorem yC{n:Nat}{f g:Nat→Int}(h:∀i,i<n→f i=g i):S n f=S n g:=by
 induction n with
 |zero=>rfl
 |succ n ih=>grind[S]
theorem wY{p:Int}{f g:Nat→Int}:∀{n:Nat},(∀i,i<n→f i%p=g i%p)→S n f%p=S n g%p
 |0,_=>rfl
 |n+1,h=>by simp only[S];rw[Jv,wY (n:=n) fun i hi=>h i (by omega),h n (by omega),←Jv]
theorem tF:∀n:Nat,S n (fun _=>0)=0
 |0=>rfl
 |n+1=>by simp only[S,tF n];rfl
theorem zAR{f g:Nat→Int}:∀n:Nat,S n (fun i=>f i+g i)=S n f+S n g
 |0=>rfl
 |n+1=>by simp only[S,zAR n];omega
theorem zFc{f:Nat→Int}(a:Int):∀n:Nat,S n (fun i=>f i*a)=S n f*a
 |0=>by simp[S]
 |n+1=>by simp only[S,zFc a n,Int.add_mul]
theorem vK{f:Nat→Int}(a:Int):∀n:Nat,S n (fun i=>a*f i)=a*S n f
 |0=>by simp[S]
 |n+1=>by simp only[S,vK a n,Int.mul_add]
theorem zCs{f:Nat→Nat→Int}(m:Nat):∀n:Nat,S n (fun i=>S m (fun j=>f i j))=S m (fun j=>S n (fun i=>f i j))
 |0=>by simp only[S];grind[tF]
 |n+1=>by simp only[S];rw[zCs m n,zAR]
theorem vH{f:Nat→Int}{k:Nat}:∀{n:Nat},k<n→(∀i,i<n→i≠k→f i=0)→S n f=f k
 |0,h,_=>by omega
 |n+1,h,hz=>by
  simp only[S]
  by_cases hk:k=n
  ·subst hk
   rw[yC (g:=fun _=>0) fun i hi=>hz i (by omega) (by omega),tF];omega
  ·rw[vH (n:=n) (by omega) fun i hi=>hz i (by omega),hz n (by omega) (by omega)];omega
def mkv(D:Nat)(f:Nat→Int):List Int:=(Jf D).map f
theorem zO(D:Nat)(f:Nat→Int):(mkv D f).length=D:=by simp[mkv]
theorem zCD{D:Nat}{f:Nat→Int}{i:Nat}(h:i<D):(mkv D f)[i]? =dq (f i):=by simp[mkv,h]
theorem zK{D:Nat}{f:Nat→Int}{i:Nat}(h:i<D):at0 (mkv D f) i=f i:=by rw[at0,J4,zCD h];rfl
theorem yK{D:Nat}{f g:Nat→Int}(h:∀i,i<D→f i=g i):mkv D f=mkv D g:=by grind[mkv,Lt]
theorem kQ{D:Nat}{f:Nat→Int}{j:Nat}{a:Int}:(mkv D f).set j a=mkv D (fun i=>if i=j then a else f i):=by
 apply Kt;intro i;rw[Qn,zO]
 by_cases hi:i<D
 ·by_cases ev:j=i
  ·subst ev;rw[if_pos rfl,if_pos hi,zCD hi,if_pos rfl]
  ·rw[if_neg ev,zCD hi,zCD hi,if_neg fun h=>ev h.symm]
 ·have h1:∀g:Nat→Int,(mkv D g)[i]? =dt:=by grind[zO]
  grind
theorem vA{v:List Int}{D:Nat}(h:v.length=D):v=mkv D (at0 v):=by
 apply Kt;intro i
 by_cases hi:i<D
 ·rw[zCD hi,at0,J4,J7 (by omega)];rfl
 grind[zO]
theorem qJ(D:Nat):J1 D (0:Int)=mkv D (fun _=>0):=by
 apply Kt
 grind[zCD,zO]
abbrev ent(B:Mx)(l j:Nat):Int:=at0 (B.getD l []) j
def yL(p:Int)(D:Nat)(r:List Int)(B:Mx):List Int:=mkv D fun j=>S D (fun l=>at0 r l*ent B l j)%p
def PM(p:Int)(D:Nat)(A B:Mx):Mx:=A.map fun r=>yL p D r B
def idM(D:Nat):Mx:=(Jf D).map fun i=>mkv D fun j=>if j=i then 1 else 0
def Row(p:Int)(D:Nat)(r:List Int):Prop:=r.length=D∧ ∀i,i<D→0≤at0 r i∧at0 r i≤p-1
def Mat(p:Int)(D:Nat)(A:Mx):Prop:=A.length=D∧ ∀i,i<D→Row p D (A.getD i [])
theorem qK{p:Int}{D i:Nat}{A B:Mx}(h:i<A.length):(PM p D A B).getD i []=yL p D (A.getD i []) B:=by grind[PM]
theorem yU{p:Int}{D:Nat}{A B:Mx}:(PM p D A B).length=A.length:=by simp[PM]
theorem jR{p:Int}{D:Nat}{A B:Mx}(hp:0<p)(hA:A.length=D):Mat p D (PM p D A B):=by refine⟨by rw[yU,hA],fun i hi=>?_⟩;rw[qK (by omega)];refine⟨by rw[yL,zO],fun j hj=>?_⟩;rw[yL,zK hj];have h1:=K8 (S D fun l=>at0 (A.getD i []) l*ent B l j) (show p≠0 by omega);have h2:=Jx (S D fun l=>at0 (A.getD i []) l*ent B l j) hp;omega
theorem zIN{p:Int}{D i j:Nat}{A B:Mx}(hA:A.length=D)(hi:i<D)(hj:j<D):ent (PM p D A B) i j=S D (fun l=>ent A i l*ent B l j)%p:=by rw[ent,qK (by omega),yL,zK hj]
theorem zBG{D:Nat}{A B:Mx}(hA:A.length=D)(hB:B.length=D)(h:∀i,i<D→A.getD i []=B.getD i []):A=B:=by
 apply Kt
 grind
theorem zAB{p:Int}{D:Nat}{A B C:Mx}(hA:A.length=D)(hB:B.length=D):PM p D (PM p D A B) C=PM p D A (PM p D B C):=by
 refine zBG (by rw[yU,yU,hA]) (by rw[yU,hA]) fun i hi=>?_
 rw[qK (A:=PM p D A B) (by rw[yU];omega),qK (A:=A) (B:=PM p D B C) (by omega)];unfold yL;refine yK fun j hj=>?_
 have e1:S D (fun l=>at0 ((PM p D A B).getD i []) l*ent C l j)%p=S D (fun l=>S D (fun q=>ent A i q*ent B q l)*ent C l j)%p:=wY fun l hl=>by
  have:=zIN (p:=p) (B:=B) hA hi hl;simp only[ent]at this ⊢
  rw[this,J6,Je,←J6]
 have e2:S D (fun l=>at0 (A.getD i []) l*ent (PM p D B C) l j)%p=S D (fun q=>ent A i q*S D (fun l=>ent B q l*ent C l j))%p:=wY fun q hq=>by rw[zIN hB hq hj,J6,Je,←J6]
 rw[e1,e2]
 congr 1
 have e3:(fun l=>S D (fun q=>ent A i q*ent B q l)*ent C l j)=fun l=>S D (fun q=>ent A i q*ent B q l*ent C l j):=funext fun l=>(zFc _ _).symm
 have e4:(fun q=>ent A i q*S D (fun l=>ent B q l*ent C l j))=fun q=>S D (fun l=>ent A i q*ent B q l*ent C l j):=funext fun q=>by rw[←vK];exact yC fun l _=>by rw[K9]
 rw[e3,e4];exact zCs D D
theorem wD(D:Nat):(idM D).length=D:=by simp[idM]
theorem vR{D i:Nat}(h:i<D):(idM D).getD i []=mkv D fun j=>if j=i then 1 else 0:=by simp[idM,J4,h]
theorem uV{p:Int}{D:Nat}(hp:2≤p):Mat p D (idM D):=by
 refine⟨wD D,fun i hi=>?_⟩;rw[vR hi];refine⟨zO _ _,fun j hj=>?_⟩
 grind[zK]
theorem wK{p a:Int}(h:0≤a∧a≤p-1):a%p=a:=K5 h.1 (by omega)
theorem zAw{p:Int}{D:Nat}{B:Mx}(hB:Mat p D B):PM p D (idM D) B=B:=by
 refine zBG (by rw[yU,wD]) hB.1 fun i hi=>?_
 rw[qK (by grind[wD]),vR hi,yL];obtain⟨h1,h2⟩:=hB.2 i hi;refine Eq.trans (yK fun j hj=>?_) (vA h1).symm;rw[vH (k:=i) hi fun l hl gf=>by rw[zK hl,if_neg gf,Ld],zK hi,if_pos rfl,Kw]
 grind[wK]
theorem zG7{p:Int}{D:Nat}{A:Mx}(hA:Mat p D A):PM p D A (idM D)=A:=by
 refine zBG (by rw[yU,hA.1]) hA.1 fun i hi=>?_
 rw[qK (by rw[hA.1];exact hi),yL];obtain⟨h1,h2⟩:=hA.2 i hi;refine Eq.trans (yK fun j hj=>?_) (vA h1).symm;rw[vH (k:=j) hj fun l hl gf=>by rw[ent,vR hl,zK hj,if_neg (fun h=>gf h.symm),Jw],ent,vR hj,zK hj,if_pos rfl,K7]
 grind[wK]
theorem zG8{p:Int}{D i j:Nat}{B:Mx}(hB:Mat p D B)(hi:i<D)(hj:j<D):ixO B (i:Int)=dq (B.getD i [])∧ixO (B.getD i []) (j:Int)=dq (ent B i j)∧(B.getD i []).length=D∧0≤ent B i j∧ent B i j≤p-1:=by
 obtain⟨h1,h2⟩:=hB.2 i hi
 grind[zW]
def acc(p:Int)(D i:Nat)(r:List Int)(B:Mx):List Int:=mkv D fun j=>S i (fun l=>at0 r l*ent B l j)%p
def zCW(p:Int)(D i k:Nat)(r:List Int)(B:Mx):List Int:=mkv D fun j=>if j<k then S (i+1) (fun l=>at0 r l*ent B l j)%p else S i (fun l=>at0 r l*ent B l j)%p
theorem zHT{p:Int}{D i:Nat}{r:List Int}{B:Mx}:zCW p D i 0 r B=acc p D i r B:=rfl
theorem zHU{p:Int}{D i:Nat}{r:List Int}{B:Mx}:zCW p D i D r B=acc p D (i+1) r B:=yK (by omega)
theorem zKh{p:Int}{D i k:Nat}{r:List Int}{B:Mx}(hk:k<D){a:Int}(ha:a=(at0 (zCW p D i k r B) k+at0 r i*ent B i k)%p):(zCW p D i k r B).set k a=zCW p D i (k+1) r B:=by
 subst ha;simp only[zCW];rw[kQ,zK hk,if_neg (by omega)];refine yK fun j hj=>?_
 by_cases hjk:j=k
 ·subst hjk
  rw[if_pos rfl,if_pos (by omega)]
  grind[S,Int.emod_add_emod]
 omega
theorem zKi{p:Int}{D i k j:Nat}{r:List Int}{B:Mx}(hp:0<p)(hj:j<D):0≤at0 (zCW p D i k r B) j∧at0 (zCW p D i k r B) j≤p-1:=by
 rw[zCW,zK hj];split
 ·have h1:=K8 (S (i+1) fun l=>at0 r l*ent B l j) (show p≠0 by omega)
  have h2:=Jx (S (i+1) fun l=>at0 r l*ent B l j) hp;omega
 ·have h1:=K8 (S i fun l=>at0 r l*ent B l j) (show p≠0 by omega)
  have h2:=Jx (S i fun l=>at0 r l*ent B l j) hp;omega
theorem zG9{p:Int}{D i k:Nat}{r:List Int}{B:Mx}:(zCW p D i k r B).length=D:=zO _ _
theorem zNq{p:Int}{D i k j:Nat}{r:List Int}{B:Mx}(hj:j<D):ixO (zCW p D i k r B) (j:Int)=dq (at0 (zCW p D i k r B) j):=by grind[yB,zG9]
theorem zKj{p:Int}{D:Nat}{r:List Int}{B:Mx}:J1 D (0:Int)=acc p D 0 r B:=by rw[qJ];rfl
theorem zHV{a b p:Int}(hp:p≤7)(ha:0≤a∧a≤p-1)(hb:0≤b∧b≤p-1):0≤a*b∧a*b≤36:=by have h1:0≤a*b:=Hn ha.1 hb.1;have h2:a*b≤6*6:=L3 (by omega) (by omega) hb.1 (by omega);omega
section
variable {p:Int}{D:Nat} (hp:Prime p) (hD:D≤8)
 include hp hD
theorem zGA{r:List Int}{B:Mx}(hr:Row p D r)(hB:Mat p D B):f_I p r B (D:Int)=dq (yL p D r B):=by
 have h7:=hp.pos;have hBl:=hB.1;have mw:=hr.1;unfold f_I;rw[xD (by omega),bs,zKj (p:=p) (r:=r) (B:=B)];have:=zQ (body:=zMk p r B) (r:=acc p D D r B) (fun i=>(acc p D i r B,(i:Int))) D (fun i hi=>by
  have am:=hr.2 i hi;unfold zMk;simp only
  rw[mw,hBl,yE hi,zI,zI];have inner:=zQ (body:=zOG p r B (acc p D i r B,(i:Int))) (r:=acc p D (i+1) r B) (fun k=>(zCW p D i k r B,(k:Int))) D (fun k hk=>by
   obtain⟨b1,b2,b3,b4⟩:=zG8 hB hi hk;have ha:=zKi (p:=p) (i:=i) (k:=k) (r:=r) (B:=B) (by omega) hk;have hm:=zHV (by omega) am b4;unfold zOG;simp only
   rw[zG9,yE hk,zI,b1,bs,b3,yE hk,zI,zNq hk,bs,yB (by omega),bs,bs,b2,bs,zH (by omega) (by omega),bs,zH (by omega) (by omega),bs];have ap:yO (at0 (zCW p D i k r B) k+at0 r i*ent B i k) p=dq ((at0 (zCW p D i k r B) k+at0 r i*ent B i k)%p):=by
    unfold yO
    grind
   rw[ap,bs,bs,zH (by omega) (by omega),bs,cs,J9,zKh hk rfl]) (by
   unfold zOG;simp only
   rw[zG9,wS,zJ,zHU])
  rw[zHT,show((0:Nat):Int)=0 from rfl]at inner
  grind[zH]) (by
  unfold zMk
  grind)
 rw[show((0:Nat):Int)=0 from rfl]at this;rw[this,bs];rfl
theorem zIO{a:Int}(h0:0≤a)(_h1:a≤1000):zHr a p=dq (a%p):=by have _:=hD;have h7:=hp.pos;have e1:=K8 a (show p≠0 by omega);have e2:=Jx a (show 0<p by omega);unfold zHr yO;rw[if_neg (by omega),bs,L2 h0,zH (by omega) (by omega),bs,if_neg (by omega),bs,L2 (by omega)];simp
theorem zEB{i:Nat}{r:List Int}{B:Mx}(hi:i<D)(hr:Row p D r)(hB:Mat p D B):f_O (acc p D i r B) (B.getD i []) (at0 r i) p=dq (acc p D (i+1) r B):=by
 have h7:=hp.pos;have am:=hr.2 i hi;unfold f_O;have hl:(acc p D i r B).length=D:=zO _ _;have inner:=zQ (body:=zKR (acc p D i r B) (B.getD i []) (at0 r i) p) (r:=acc p D (i+1) r B) (fun k=>(zCW p D i k r B,(k:Int))) D (fun k hk=>by
  obtain⟨b1,b2,b3,b4⟩:=zG8 hB hi hk;have ha:=zKi (p:=p) (i:=i) (k:=k) (r:=r) (B:=B) (by omega) hk;have hm:=zHV (by omega) am b4;unfold zKR;simp only
  rw[hl,yE hk,zI,zNq hk,bs,b2,bs,zH (by omega) (by omega),bs,zH (by omega) (by omega),bs,zIO hp hD (by omega) (by omega),bs,bs,zH (by omega) (by omega),bs,cs,J9,zKh hk rfl]) (by
  unfold zKR;simp only
  rw[hl,wS,zJ,zHU])
 rw[zHT,show((0:Nat):Int)=0 from rfl]at inner
 grind
theorem zB0{r:List Int}{B:Mx}{q:Int}(hr:Row p D r)(hB:Mat p D B)(hq:q=(D:Int)):zOK r (zF.mk p q B)=dq (yL p D r B):=by
 subst hq;have mw:=hr.1;unfold zOK;simp only
 rw[xD (by omega),bs,zKj (p:=p) (r:=r) (B:=B)];have:=zQ (body:=zFh r (zF.mk p (D:Int) B)) (r:=acc p D D r B) (fun i=>(acc p D i r B,(i:Int))) D (fun i hi=>by
  have hBl:=hB.1;unfold zFh;simp only
  rw[mw,yE hi,zI,yB (by omega),bs,zW [] (by omega),bs,zEB hp hD hi hr hB,bs,zH (by omega) (by omega),bs,cs]) (by
  unfold zFh
  grind)
 rw[show((0:Nat):Int)=0 from rfl]at this;rw[this,bs];rfl
theorem zCE{A B:Mx}{i:Nat}(hi:i<A.length):(PM p D A B).take i++[yL p D (A.getD i []) B]=(PM p D A B).take (i+1):=by
 have _:=hp;have _:=hD;rw[Kb (by grind[yU])]
 congr 2
 have:=qK (p:=p) (D:=D) (B:=B) hi
 grind
theorem kR{A B:Mx}(hA:Mat p D A)(hB:Mat p D B):f_E p A B (D:Int)=dq (PM p D A B):=by
 have fM:=hA.1;unfold f_E;have:=zQ (body:=zHq p A B (D:Int)) (r:=PM p D A B) (fun i=>((PM p D A B).take i,(i:Int))) D (fun i hi=>by
  unfold zHq;simp only
  rw[fM,yE hi,zI,zW [] (by omega),bs,zGA hp hD (hA.2 i hi) hB,bs,zR (by rw[Kl,yU];simp;omega),bs,zH (by omega) (by omega),bs,cs,zCE hp hD (by omega)]) (by
  unfold zHq;simp only
  rw[fM,wS,zJ,Jn (by grind[yU])])
 grind
theorem zHh{A B:Mx}{q:Int}(hA:Mat p D A)(hB:Mat p D B):f_C (zF.mk p q A) (zF.mk p (D:Int) B)=dq (zF.mk p (D:Int) (PM p D A B)):=by
 have fM:=hA.1;unfold f_C;have:=zQ (body:=zGZ (zF.mk p q A) (zF.mk p (D:Int) B)) (r:=PM p D A B) (fun i=>((PM p D A B).take i,(i:Int))) D (fun i hi=>by
  unfold zGZ;simp only
  rw[fM,yE hi,zI,zW [] (by omega),bs,zB0 hp hD (hA.2 i hi) hB rfl,bs,zR (by rw[Kl,yU];simp;omega),bs,zH (by omega) (by omega),bs,cs,zCE hp hD (by omega)]) (by
  unfold zGZ;simp only
  rw[fM,wS,zJ,Jn (by grind[yU])])
 grind
theorem zKk{i:Nat}(_hi:i<D):(J1 D (0:Int)).set i 1=mkv D fun j=>if j=i then 1 else 0:=by have _:=hp;have _:=hD;rw[qJ,kQ]
theorem zNr{i:Nat}(hi:i<D):(idM D).take i++[mkv D fun j=>if j=i then 1 else 0]=(idM D).take (i+1):=by
 have _:=hp;have _:=hD;rw[Kb (by grind[wD])]
 congr 2
 have:=vR hi
 grind
theorem zGB:f_z (D:Int)=dq (idM D):=by
 unfold f_z;have:=zQ (body:=zGX (D:Int)) (r:=idM D) (fun i=>((idM D).take i,(i:Int))) D (fun i hi=>by
  unfold zGX;simp only
  rw[yE hi,zI,xD (by omega),bs,wX,K0,if_pos hi,bs,J9,zKk hp hD hi,zR (by grind),bs,zH (by omega) (by omega),bs,cs,zNr hp hD hi]) (by
  unfold zGX;simp only
  rw[wS,zJ,Jn (by grind[wD])])
 grind
theorem zHi:zTY p (D:Int)=dq (zF.mk p (D:Int) (idM D)):=by
 unfold zTY;have:=zQ (body:=zIk (D:Int)) (r:=idM D) (fun i=>((idM D).take i,(i:Int))) D (fun i hi=>by
  unfold zIk;simp only
  rw[yE hi,zI,xD (by omega),bs,wX,K0,if_pos hi,bs,J9,zKk hp hD hi,zR (by grind),bs,zH (by omega) (by omega),bs,cs,zNr hp hD hi]) (by
  unfold zIk;simp only
  rw[wS,zJ,Jn (by grind[wD])])
 grind
end
end Go.Pl

namespace Go.Pl
open Go Go.Ab Go.Wk Go.Pc
def nw:Nat→List Int→List Nat
 |_,[]=>[]
 |o,a::v=>J1 a.toNat o++nw (o+1) v
theorem zCF:∀(o:Nat)(u v:List Int),nw o (u++v)=nw o u++nw (o+u.length) v
 |o,[],v=>by simp[nw]
 |o,a::u,v=>by
  simp only[Gi,nw,zCF (o+1) u v,Jh,Ki]
  grind
theorem zNs{v:List Int}{i:Nat}(h:i<v.length):nw 0 (v.take (i+1))=nw 0 (v.take i)++J1 (at0 v i).toNat i:=by
 rw[Kb h,zCF,Kl,Ua (by omega),J8];simp only[nw,Jk]
 grind
theorem zQs{n:Nat}:∀(o:Nat)(v:List Int),o+v.length≤n→ ∀w∈nw o v,w<n
 |o,[],_,w,h=>by grind[nw]
 |o,a::v,hv,w,h=>by
  simp only[nw,K6,Ki]at h hv;rcases h with h|h
  ·grind
  ·exact zQs (o+1) v (by omega) w h
theorem zGC:∀(o:Nat)(v:List Int),(∀i,i<v.length→at0 v i≤6)→(nw o v).length≤6*v.length
 |o,[],_=>by simp[nw]
 |o,a::v,h=>by
  have h0:=h 0 (by simp);have:=zGC (o+1) v fun i hi=>by
   have:=h (i+1) (by grind)
   grind
  simp only[at0,Us]at h0
  grind[nw]
def wM(p:Int)(D:Nat)(A:List Mx)(ws:List Nat)(B:Mx):Mx:=ws.foldl (fun B w=>PM p D B (A.getD w [])) B
theorem zEC{p:Int}{D:Nat}{A:List Mx}{u v:List Nat}{B:Mx}:wM p D A (u++v) B=wM p D A v (wM p D A u B):=by simp[wM,List.foldl_append]
theorem zGD{p:Int}{D:Nat}{A:List Mx}{w:Nat}:∀(k:Nat)(B:Mx),wM p D A (J1 k w) B=iter k (fun B=>PM p D B (A.getD w [])) B
 |0,_=>rfl
 |k+1,B=>by rw[L1];show wM p D A (J1 k w) (PM p D B (A.getD w []))=_;rw[zGD k];rfl
theorem zAC{p:Int}{D:Nat}{A:List Mx}(hp:0<p):∀(ws:List Nat){B:Mx},Mat p D B→Mat p D (wM p D A ws B)
 | [],_,hB=>hB
 |_w::ws,_,hB=>zAC hp ws (jR hp hB.1)
theorem zQt{p:Int}{D:Nat}{A:List Mx}(hp:0<p){C:Mx}(hC:C.length=D):∀(ws:List Nat){B:Mx},Mat p D B→wM p D A ws (PM p D C B)=PM p D C (wM p D A ws B)
 | [],_,_=>rfl
 |w::ws,B,hB=>by show wM p D A ws (PM p D (PM p D C B) (A.getD w []))=PM p D C (wM p D A ws (PM p D B (A.getD w [])));rw[zAB hC hB.1,zQt hp hC ws (jR hp hB.1)]
structure MOk (n:Nat) (m:zC) (D:Nat):Prop where
 p:Prime m.Prime
 d:m.Dim=(D:Int)
 d1:1≤D
 d3:D≤3
 len:m.zB.length=n
 mat:∀i,i<n→Mat m.Prime D (m.zB.getD i [])
structure zYL (n:Nat) (m:zC) (D:Nat):Prop where
 p:Prime m.Prime
 d3:D≤200
 len:m.zB.length=n
 mat:∀i,i<n→Mat m.Prime D (m.zB.getD i [])
theorem MOk.b{n D:Nat}{m:zC}(h:MOk n m D):zYL n m D:=⟨h.p,by have:=h.d3;omega,h.len,h.mat⟩
section
variable {n D:Nat}{m:zC} (hm:MOk n m D) (hn:n≤14)
 include hm hn
theorem zGE{v:List Int}(hl:v.length=n)(hv:∀i,i<n→0≤at0 v i∧at0 v i≤6):f_J m v=dq (wM m.Prime D m.zB (nw 0 v) (idM D)):=by
 have h7:=hm.p.pos;have h3:=hm.d3;have gm:=hm.len;unfold f_J;rw[hm.d,zGB hm.p (by omega),bs];have hI:∀i,Mat m.Prime D (wM m.Prime D m.zB (nw 0 (v.take i)) (idM D)):=by grind[zAC,uV]
 have:=zQ (body:=zQW m v) (r:=wM m.Prime D m.zB (nw 0 v) (idM D)) (fun i=>(wM m.Prime D m.zB (nw 0 (v.take i)) (idM D),(i:Int))) n (fun i hi=>by
  have hvi:=hv i hi;unfold zQW;simp only
  rw[hl,yE hi,zI];rw[uC (S:=Mat m.Prime D) (body:=zQV m v (wM m.Prime D m.zB (nw 0 (v.take i)) (idM D),(i:Int))) (fun B=>B) (fun B=>PM m.Prime D B (m.zB.getD i [])) (at0 v i) hvi.1 (fun B hB=>jR (by omega) hB.1) (fun B q hB hq=>by
   unfold zQV;simp only
   rw[yB (by omega),bs,dx hq,zI,zW [] (by omega),bs,hm.d,kR hm.p (by omega) hB (hm.mat i hi),bs,zH (by omega) (by omega),bs,cs]) (fun B hB=>by
   unfold zQV;simp only
   rw[yB (by omega),bs,dw (by omega),zJ]) (hI i),bs,zH (by omega) (by omega),bs,cs]
  grind[zNs,zEC,zGD]) (by
  unfold zQW
  grind)
 rw[show((0:Nat):Int)=0 from rfl,Lz]at this
 grind[nw,wM]
abbrev enW(ws:List Nat):List Int:=ws.map fun(w:Nat)=>(w:Int)+1
theorem tE{i:Nat}(hi:i<n):zGY m (i:Int)=dq (zF.mk m.Prime (D:Int) (m.zB.getD i [])):=by have _:=hn;have gm:=hm.len;unfold zGY;rw[zW [] (by omega),bs,hm.d]
theorem zDd{ws:List Nat}(hw:∀w∈ws,w<n)(hl:ws.length≤1000000):zR0 m (enW ws)=dq (zF.mk m.Prime (D:Int) (wM m.Prime D m.zB ws (idM D))):=by
 have h7:=hm.p.pos;have h3:=hm.d3;unfold zR0;rw[hm.d,zHi hm.p (by omega),bs];have hI:∀i,Mat m.Prime D (wM m.Prime D m.zB (ws.take i) (idM D)):=by grind[zAC,uV]
 have hel:(enW ws).length=ws.length:=by simp
 have:=zQ (body:=zKS m (enW ws)) (r:=(m.Prime,(D:Int),wM m.Prime D m.zB ws (idM D))) (fun i=>(m.Prime,(D:Int),wM m.Prime D m.zB (ws.take i) (idM D),(i:Int))) ws.length (fun i hi=>by
  have hwi:=hw ws[i] (Kz hi);unfold zKS;simp only
  rw[hel,yE hi,zI,wX,Jz,J7 hi];simp only[Gx];rw[bs,zH (by omega) (by omega),bs,show((ws[i]:Nat):Int)+1-1=((ws[i]:Nat):Int)from by omega,tE hm hn hwi,bs,zHh hm.p (by omega) (hI i) (hm.mat _ hwi),bs,zH (by omega) (by omega),bs,cs,Kb hi,zEC];rfl) (by
  unfold zKS;simp)
 rw[show((0:Nat):Int)=0 from rfl,Lz]at this
 grind[wM]
end
theorem zBQ{v:List Int}(hl:v.length≤14)(hv:∀i,i<v.length→0≤at0 v i∧at0 v i≤6):f_T v=dq (enW (nw 0 v)):=by
 unfold f_T;have gm:∀i,(nw 0 (v.take i)).length≤84:=fun i=>by
  have:=zGC 0 (v.take i) (by grind)
  grind
 have:=zQ (body:=zRw v) (r:=enW (nw 0 v)) (fun i=>(enW (nw 0 (v.take i)),(i:Int))) v.length (fun i hi=>by
  have hvi:=hv i hi;have hli:=gm i;unfold zRw;simp only
  rw[yE hi,zI,yB hi,bs];have inner:=zQ (body:=zRv (enW (nw 0 (v.take i)),(i:Int)) (at0 v i)) (r:=enW (nw 0 (v.take (i+1)))) (fun k=>(enW (nw 0 (v.take i)++J1 k i),(k:Int))) (at0 v i).toNat (fun k hk=>by
   unfold zRv;simp only
   rw[dx (by omega),zI,zH (by omega) (by omega),bs,zR (by grind),bs,zH (by omega) (by omega),bs,cs]
   congr 3
   rw[Uj,←Jh];simp) (by
   unfold zRv;simp only
   rw[dw (by omega),zJ,zNs hi])
  rw[show((0:Nat):Int)=0 from rfl,Uq,Jk]at inner
  grind[zH]) (by
  unfold zRw;simp)
 rw[show((0:Nat):Int)=0 from rfl,Lz]at this;simp only[nw,enW,G5]at this
 grind
theorem zTo{v o:Int}(h:zTX 1 (IntKind.wrap .u64 o)=dq (0,o)):zTX (IntKind.wrap .u64 (([v]:List Int).length:Int)) (IntKind.wrap .u64 o)=dq (0,o):=by rw[show IntKind.wrap .u64 (([v]:List Int).length:Int)=1 from by rfl];exact h
theorem zKl{v o:Int}(ho:Prime o):f_Y [v] o=dq (J1 o.toNat v):=by
 unfold f_Y;rcases ho with rfl|rfl|rfl|rfl
 ·have h:=zQ (body:=zKQ) (r:=[v,v]) (fun i=>match i with|0=>([v,0],1)|_=>([v,v],2)) 1 (fun i hi=>by
   match i,hi with
   |0,_=>rfl) (by rfl)
  rw[zTo (by rfl),bs];have hl:zZ (IntKind.wrap .i64 2)=dq 2:=by rfl
  simp only[hl,bs];rw[show decide ((2:Int)<0)=dv from rfl,zJ,show decide ((0:Int)> 0)=dv from rfl,zJ,show decide ((2:Int)> 9223372036854775807)=dv from by decide,zJ]
  grind[vT]
 ·have h:=zQ (body:=zKQ) (r:=[v,v,v]) (fun i=>match i with|0=>([v,0,0],1)|1=>([v,v,0],2)|_=>([v,v,v],3)) 2 (fun i hi=>by
   match i,hi with
   |0,_=>rfl
   |1,_=>rfl) (by rfl)
  rw[zTo (by rfl),bs];have hl:zZ (IntKind.wrap .i64 3)=dq 3:=by rfl
  simp only[hl,bs];rw[show decide ((3:Int)<0)=dv from rfl,zJ,show decide ((0:Int)> 0)=dv from rfl,zJ,show decide ((3:Int)> 9223372036854775807)=dv from by decide,zJ]
  grind[vT]
 ·have h:=zQ (body:=zKQ) (r:=[v,v,v,v,v]) (fun i=>match i with|0=>([v,0,0,0,0],1)|1=>([v,v,0,0,0],2)|2=>([v,v,v,v,0],4)|_=>([v,v,v,v,v],5)) 3 (fun i hi=>by
   match i,hi with
   |0,_=>rfl
   |1,_=>simp[zKQ,zP,vT,rng,inR]
   |2,_=>rfl) (by rfl)
  rw[zTo (by rfl),bs];have hl:zZ (IntKind.wrap .i64 5)=dq 5:=by rfl
  simp only[hl,bs];rw[show decide ((5:Int)<0)=dv from rfl,zJ,show decide ((0:Int)> 0)=dv from rfl,zJ,show decide ((5:Int)> 9223372036854775807)=dv from by decide,zJ];have e2:vT (J1 5 (0:Int)) 0 (([v]:List Int).take ((J1 5 (0:Int)).length-0))=[v,0,0,0,0]:=by rfl
  grind
 ·have h:=zQ (body:=zKQ) (r:=[v,v,v,v,v,v,v]) (fun i=>match i with|0=>([v,0,0,0,0,0,0],1)|1=>([v,v,0,0,0,0,0],2)|2=>([v,v,v,v,0,0,0],4)|_=>([v,v,v,v,v,v,v],7)) 3 (fun i hi=>by
   match i,hi with
   |0,_=>rfl
   |1,_=>simp[zKQ,zP,vT,rng,inR]
   |2,_=>rfl) (by rfl)
  rw[zTo (by rfl),bs];have hl:zZ (IntKind.wrap .i64 7)=dq 7:=by rfl
  simp only[hl,bs];rw[show decide ((7:Int)<0)=dv from rfl,zJ,show decide ((0:Int)> 0)=dv from rfl,zJ,show decide ((7:Int)> 9223372036854775807)=dv from by decide,zJ];have e2:vT (J1 7 (0:Int)) 0 (([v]:List Int).take ((J1 7 (0:Int)).length-0))=[v,0,0,0,0,0,0]:=by rfl
  simp_all
end Go.Pl

namespace Go.Pl
open Go Go.Ab Go.Wk Go.Pc
theorem IsB.b{o:Option Bool}{P:Prop}(h:IsB o P):IsB (o.bind fun r=>dq r) P:=by grind
theorem zFd{p:Int}{D:Nat}{r:List Int}(hp:Prime p)(hD:D≤8):IsB (zTW r p (D:Int)) (Row p D r):=by
 have h7:=hp.pos;unfold zTW
 by_cases h:r.length=D
 ·rw[sJ (by omega),zJ]
  refine(tO r.length (fun i=>0≤at0 r i∧at0 r i≤p-1) rfl (fun i hi _=>?_) ?_).iff ⟨fun g=>⟨h,by grind⟩,fun g=>by rw[h];exact g.2⟩
  ·refine vG (qA _ _ _) (by omega) ?_
   unfold zNQ;rw[yE hi,zI,yB hi,bs,zH (by omega) (by omega),bs]
  ·unfold zNQ
   simp
 ·rw[qC (by omega),zI]
  exact .inr ⟨rfl,fun g=>h g.1⟩
theorem zCt{p:Int}{D:Nat}{r:List Int}(hp:Prime p)(hD:D≤8):IsB (f_Z p (D:Int) r) (Row p D r):=by
 have h7:=hp.pos;unfold f_Z
 by_cases h:r.length=D
 ·rw[sJ (by omega),zJ]
  refine(tO r.length (fun i=>0≤at0 r i∧at0 r i≤p-1) rfl (fun i hi _=>?_) ?_).iff ⟨fun g=>⟨h,by grind⟩,fun g=>by rw[h];exact g.2⟩
  ·refine vG (qB _ _ _) (by omega) ?_
   unfold zMj;rw[yE hi,zI,yB hi,bs,zH (by omega) (by omega),bs]
  ·unfold zMj
   simp
 ·rw[qC (by omega),zI]
  exact .inr ⟨rfl,fun g=>h g.1⟩
theorem zOu{p:Int}{D:Nat}{B:Mx}(hp:Prime p)(hD:D≤8):IsB (zTS p (D:Int) B) (Mat p D B):=by
 unfold zTS
 by_cases h:B.length=D
 ·rw[sJ (by omega),zJ]
  refine(tO B.length (fun i=>Row p D (B.getD i [])) rfl (fun i hi _=>?_) ?_).iff ⟨fun g=>⟨h,by grind⟩,fun g=>by rw[h];exact g.2⟩
  ·refine vG (zCt hp hD) (by omega) ?_
   unfold zNO;rw[yE hi,zI,zW [] hi,bs]
  ·unfold zNO
   simp
 ·rw[qC (by omega),zI]
  exact .inr ⟨rfl,fun g=>h g.1⟩
theorem zHj{p:Int}{D:Nat}{B:Mx}(hp:Prime p)(hD:D≤8)(hB:B.length=D):IsB (f_U (zF.mk p (D:Int) B)) (Mat p D B):=by
 unfold f_U;simp only
 rcases zA8 p with⟨h1,_⟩|⟨_,h2⟩
 ·rw[h1,bs,J5,zJ]
  rcases qA (D:Int) 0 8 with⟨h3,_⟩|⟨_,h4⟩
  ·rw[h3,bs,J5,zJ,dw (by omega),zJ]
   refine(tO (body:=zKP (zF.mk p (D:Int) B)) D (fun i=>Row p D (B.getD i [])) rfl (fun i hi _=>?_) ?_).iff ⟨fun g=>⟨hB,g⟩,fun g=>g.2⟩
   ·refine vG (zFd hp hD) (by omega) ?_
    unfold zKP;simp only
    rw[hB,yE hi,zI,zW [] (by omega),bs]
   ·unfold zKP
    grind
  omega
 grind
theorem zDw{A B:Mx}(hA:A.length≤1000)(h:∀r∈A,r.length≤1000):zQY A B=dq (A==B):=
 zJV (t:=f_S) (body:=zQX A B) rfl (fun _=>rfl) (by omega) (by grind[zE9])
theorem zDe{A B:Mx}(hA:A.length≤1000)(h:∀r∈A,r.length≤1000):zR2 A B=dq (A==B):=by unfold zR2;rw[zJV (f:=zWX A B) (t:=zJh) (body:=zR1 A B) rfl (fun _=>rfl) (by omega) (by grind[zDv]),bs]
theorem Mat.small{p:Int}{D:Nat}{A:Mx}(h:Mat p D A)(hD:D≤8):A.length≤1000∧ ∀r∈A,r.length≤1000:=by
 refine⟨by have:=h.1;omega,fun r hr=>?_⟩;obtain⟨i,hi,rfl⟩:=Js.1 hr;have:=h.2 i (by rw[←h.1];exact hi);rw[J4,J7 hi]at this;have:=this.1
 grind
def zIP(x:SPr)(m:zC)(D:Nat):Prop:=
 ∀i,i<x.zA.length→wM m.Prime D m.zB (J1 (at0 x.zA i).toNat i) (idM D)=wM m.Prime D m.zB (nw 0 (x.zN.getD i [])) (idM D)∧
  ∀j,i+1≤j→j<x.zA.length→PM m.Prime D (m.zB.getD j []) (m.zB.getD i [])=PM m.Prime D (m.zB.getD i []) (wM m.Prime D m.zB (nw 0 ((x.zD.getD i []).getD (j-(i+1)) [])) (idM D))
theorem zAy{x:SPr}{v:List Int}{i:Nat}(ho:Os x.zA)(h:Exp x.zA v i):v.length=x.zA.length∧ ∀j,j<x.zA.length→0≤at0 v j∧at0 v j≤6:=by have h1:=h.1.1;refine⟨h1,fun j hj=>?_⟩;have:=h.1.2 j (by omega);have:=(ho.2 j hj).pos;omega
section
variable {x:SPr}{m:zC}{D:Nat} (h:Pres x) (hm:MOk x.zA.length m D)
 include h hm
theorem zOv{i:Nat}(hi:i<x.zA.length):(x.zN.getD i []).length=x.zA.length∧ ∀j,j<x.zA.length→0≤at0 (x.zN.getD i []) j∧at0 (x.zN.getD i []) j≤6:=have _:=hm;zAy h.os (h.tl i hi).1
theorem zLJ{i j:Nat}(hi:i<x.zA.length)(hj:j<(x.zD.getD i []).length):((x.zD.getD i []).getD j []).length=x.zA.length∧ ∀q,q<x.zA.length→0≤at0 ((x.zD.getD i []).getD j []) q∧at0 ((x.zD.getD i []).getD j []) q≤6:=have _:=hm;zAy h.os ((h.tl i hi).2.2 j hj)
theorem zOw:IsB ((zG (zRc x m) 0).bind fun r=>match r with|.inl _=>dq du|.inr r=>dq r) (zIP x m D):=by
 have h6:=h.os.1;have h7:=hm.p.pos;have h3:=hm.d3;have gm:=hm.len;refine tO x.zA.length (fun i=>wM m.Prime D m.zB (J1 (at0 x.zA i).toNat i) (idM D)=wM m.Prime D m.zB (nw 0 (x.zN.getD i [])) (idM D)∧
  ∀j,i+1≤j→j<x.zA.length→PM m.Prime D (m.zB.getD j []) (m.zB.getD i [])=PM m.Prime D (m.zB.getD i []) (wM m.Prime D m.zB (nw 0 ((x.zD.getD i []).getD (j-(i+1)) [])) (idM D))) rfl (fun i hi _=>?_) ?_
 ·have eB:=(h.os.2 i hi).pos
  have fj:=h.pl;have gJ:=h.cl;obtain⟨p1,p2⟩:=zOv h hm hi;have t2:=(h.tl i hi).2.1;have hI:=uV (p:=m.Prime) (D:=D) h7.1;unfold zRc;rw[yE hi,zI,hm.d,zGB hm.p (by omega),bs];rw[uC (S:=Mat m.Prime D) (body:=zRa x m (i:Int)) (fun B=>B) (fun B=>PM m.Prime D B (m.zB.getD i [])) (at0 x.zA i) (by omega) (fun B hB=>jR (by omega) hB.1) (fun B q hB hq=>by
   unfold zRa;simp only
   rw[yB hi,bs,dx hq,zI,zW [] (by omega),bs,hm.d,kR hm.p (by omega) hB (hm.mat i hi),bs,zH (by omega) (by omega),bs,cs]) (fun B hB=>by
   unfold zRa;simp only
   rw[yB hi,bs,dw (by omega),zJ]) hI,bs,zW [] (by omega),bs,zGE hm (by omega) p1 p2,bs,←zGD]
  have hs:=(zAC (p:=m.Prime) (D:=D) (A:=m.zB) (by omega) (J1 (at0 x.zA i).toNat i) hI).small (by omega);rw[zDw hs.1 hs.2,bs]
  by_cases hq:wM m.Prime D m.zB (J1 (at0 x.zA i).toNat i) (idM D)=wM m.Prime D m.zB (nw 0 (x.zN.getD i [])) (idM D)
  ·rw[show(wM m.Prime D m.zB (J1 (at0 x.zA i).toNat i) (idM D)==wM m.Prime D m.zB (nw 0 (x.zN.getD i [])) (idM D))=du from by grind,J5,zJ,zH (by omega) (by omega),bs,cs]
   rcases chk (body:=zRb x m (i:Int)) x.zA.length (i+1) (by omega) (fun j=>PM m.Prime D (m.zB.getD j []) (m.zB.getD i [])=PM m.Prime D (m.zB.getD i []) (wM m.Prime D m.zB (nw 0 ((x.zD.getD i []).getD (j-(i+1)) [])) (idM D))) (fun _=>dv) (fun j h1 h2 _=>by
     obtain⟨c1,c2⟩:=zLJ h hm (j:=j-(i+1)) hi (by omega);have hjm:=hm.mat j h2;have him:=hm.mat i hi;have hw:=zAC (p:=m.Prime) (D:=D) (A:=m.zB) (by omega) (nw 0 ((x.zD.getD i []).getD (j-(i+1)) [])) hI;have hs:=(jR (p:=m.Prime) (B:=m.zB.getD i []) (by omega) hjm.1).small (by omega);refine vG (o:=dq (PM m.Prime D (m.zB.getD j []) (m.zB.getD i [])==PM m.Prime D (m.zB.getD i []) (wM m.Prime D m.zB (nw 0 ((x.zD.getD i []).getD (j-(i+1)) [])) (idM D)))) (IsB.of_bool (by simp)) (by omega) ?_;unfold zRb;rw[yE h2,zI,zW (i:=j) [] (by omega),bs,zW (i:=i) [] (by omega),bs,hm.d,kR hm.p (by omega) hjm him,bs,bs,zW (i:=i) [] (by omega),bs,zH (by omega) (by omega),bs,zH (by omega) (by omega),bs,show(j:Int)-(i:Int)-1=((j-(i+1):Nat):Int)from by omega,zW [] (by omega),bs,zGE hm (by omega) c1 c2,bs,kR hm.p (by omega) him hw,bs,zDw hs.1 hs.2]) (by
     unfold zRb;simp)with⟨g1,g2⟩|⟨j,j1,j2,g1,g2⟩
   ·grind
   ·right
    rw[g1,bs]
    grind
  grind
 ·unfold zRc
  simp
end
def zQu(x:SPr)(m:zC):Prop:=zBF x∧ ∃D,MOk x.zA.length m D∧zIP x m D
theorem zGF{x:SPr}{m:zC}(h2:Pres x):IsB (f_x x m) (∃D,MOk x.zA.length m D∧zIP x m D):=by
 have h6:=h2.os.1;unfold f_x;rcases zA9 m.Prime with⟨p1,p2⟩|⟨p1,p2⟩
 ·rw[p1,bs,J5,zJ]
  rcases qB m.Dim 1 3 with⟨d1,d2⟩|⟨d1,d2⟩
  ·rw[d1,bs,J5,zJ]
   obtain⟨D,hD⟩:∃D:Nat,m.Dim=(D:Int):=⟨m.Dim.toNat,by omega⟩
   by_cases gm:m.zB.length=x.zA.length
   ·rw[sJ (by omega),zJ]
    rcases chk (body:=zQZ x m) x.zA.length 0 (Kd _) (fun i=>Mat m.Prime D (m.zB.getD i [])) (fun _=>dv) (fun i _ hi _=>by
      refine vG (zOu p2 (D:=D) (by omega)) (by omega) ?_;unfold zQZ;rw[yE hi,zI,zW [] (by omega),bs,hD]) (by
      unfold zQZ;simp)with⟨g1,g2⟩|⟨i,_,hi,g1,g2⟩
    ·rw[show((0:Nat):Int)=0 from rfl]at g1
     have hm:MOk x.zA.length m D:=⟨p2,hD,by omega,by omega,gm,by grind⟩;rw[g1,bs];refine IsB.iff (Q:=∃D,MOk x.zA.length m D∧zIP x m D) (zOw h2 hm) ⟨fun k2=>⟨D,hm,k2⟩,fun⟨D',gB,hr⟩=>?_⟩;have:D'=D:=by have:=gB.d;omega
     grind
    ·rw[show((0:Nat):Int)=0 from rfl]at g1
     rw[g1,bs];refine .inr ⟨rfl,fun⟨D',gB,_⟩=>g2 ?_⟩;have:D'=D:=by have:=gB.d;omega
     rw[←this];exact gB.mat i hi
   ·rw[qC (by omega),zI]
    exact .inr ⟨rfl,fun⟨D',gB,_⟩=>gm gB.len⟩
  ·rw[d1,bs,Jr,zI]
   exact .inr ⟨rfl,fun⟨D',gB,_⟩=>d2 (by have:=gB.d;have:=gB.d1;have:=gB.d3;omega)⟩
 ·rw[p1,bs,Jr,zI]
  exact .inr ⟨rfl,fun⟨D',gB,_⟩=>p2 gB.p⟩
theorem kS{x:SPr}{m:zC}(hl:x.zA.length≤1048576):IsB (zFs x m) (zQu x m):=by
 unfold zFs;rcases zG6 hl with⟨h1,h2⟩|⟨h1,h2⟩
 ·rw[h1,bs,zI]
  exact IsB.iff (Q:=zQu x m) (IsB.b (zGF h2.1)) ⟨fun g=>⟨h2,g⟩,fun g=>g.2⟩
 ·rw[h1,bs,zJ]
  exact .inr ⟨rfl,fun g=>h2 g.1⟩
end Go.Pl

namespace Go.Pl
open Go Go.Ab Go.Wk Go.Pc
abbrev Rl:=List Nat×List Nat
def r1(x:SPr)(i:Nat):Rl:=(J1 (at0 x.zA i).toNat i,nw 0 (x.zN.getD i []))
def r2(x:SPr)(i j:Nat):Rl:=([i+j+1,i],i::nw 0 ((x.zD.getD i []).getD j []))
def R2(x:SPr)(i:Nat):List Rl:=(Jf (x.zD.getD i []).length).map (r2 x i)
def qL(x:SPr):List Rl:=(Jf x.zA.length).map (r1 x)++(Jf x.zA.length).flatMap (R2 x)
abbrev enR(q:Rl):List Int×List Int:=(enW q.1,enW q.2)
section
variable {x:SPr} (h:Pres x)
 include h
theorem zW2{i:Nat}(hi:i<x.zA.length):(R2 x i).length≤14:=by
 have:=(h.tl i hi).2.1;have:=h.os.1
 grind[R2]
theorem zLK:∀i,i≤x.zA.length→((Jf i).flatMap (R2 x)).length≤14*i
 |0,_=>by simp
 |i+1,hi=>by
  have:=zLK i (by omega)
  grind[zW2,Kj]
theorem zTp{k i:Nat}:enW (J1 k i)=J1 k ((i:Int)+1):=by have _:=h;simp
theorem zDx:f_H x=dq ((qL x).map enR):=by
 have h6:=h.os.1;have fj:=h.pl;have gJ:=h.cl;unfold f_H;have l1:=zQ (body:=zRx x) (r:=((Jf x.zA.length).map (r1 x)).map enR) (fun i=>(((Jf i).map (r1 x)).map enR,(i:Int))) x.zA.length (fun i hi=>by
  obtain⟨p1,p2⟩:=zAy h.os (h.tl i hi).1;unfold zRx;simp only
  rw[yE hi,zI,yB hi,bs,zH (by omega) (by omega),bs,zKl (h.os.2 i hi),bs,zW [] (by omega),bs,zBQ (by omega) (by rw[p1];exact p2),bs,zR (by simp only[Ju,U5,Ki,H7];omega),bs,bs,cs,Kj];simp only[Hk,Jl,G5,r1,enR,zTp h,cs]) (by
  unfold zRx;simp)
 rw[show((0:Nat):Int)=0 from rfl]at l1;simp only[List.range_zero,G5]at l1;rw[l1,bs];have l3:=zQ (body:=zRz x) (r:=(qL x).map enR) (fun i=>(((Jf x.zA.length).map (r1 x)++(Jf i).flatMap (R2 x)).map enR,(i:Int))) x.zA.length (fun i hi=>by
  have t2:=(h.tl i hi).2.1;have hfm:=zLK h i (by omega);unfold zRz;simp only
  rw[yE hi,zI,zW [] (by omega),bs];have l2:=zQ (body:=zRy (((Jf x.zA.length).map (r1 x)++(Jf i).flatMap (R2 x)).map enR,(i:Int)) (x.zD.getD i [])) (r:=((Jf x.zA.length).map (r1 x)++(Jf (i+1)).flatMap (R2 x)).map enR)
   (fun j=>(((Jf x.zA.length).map (r1 x)++(Jf i).flatMap (R2 x)++(Jf j).map (r2 x i)).map enR,(j:Int))) (x.zD.getD i []).length (fun j hj=>by
    obtain⟨p1,p2⟩:=zAy h.os ((h.tl i hi).2.2 j hj);have fZ:=zGC 0 ((x.zD.getD i []).getD j []) (by grind);unfold zRy;simp only
    rw[yE hj,zI,zW [] hj,bs,zH (by omega) (by omega),bs,zH (by omega) (by omega),bs,zH (by omega) (by omega),bs,zBQ (by omega) (by rw[p1];exact p2),bs,zR (by simp only[Ju,Ki,H7];omega),bs,zR (by simp only[Ju,Ji,U5,Ki,H7];omega),bs,zH (by omega) (by omega),bs,cs,Kj];have e1:(i:Int)+(j:Int)+2=((i+j+1:Nat):Int)+1:=by omega
    simp only[Hk,Jl,G5,r2,enR,enW,Jh,Lx,e1];rfl) (by
    unfold zRy;simp only
    rw[wS,zJ,Kj,Qh]
    grind[R2])
  rw[show((0:Nat):Int)=0 from rfl]at l2
  grind[zH]) (by
  unfold zRz;simp only
  rw[wS,zJ];rfl)
 grind
theorem zB1{q:Rl}(hq:q∈qL x):((∀w∈q.1,w<x.zA.length)∧q.1.length≤1000)∧(∀w∈q.2,w<x.zA.length)∧q.2.length≤1000:=by
 have h6:=h.os.1;simp only[qL,K6,Ja,Jp,Gm,R2]at hq;rcases hq with⟨i,hi,rfl⟩|⟨i,hi,j,hj,rfl⟩
 ·obtain⟨p1,p2⟩:=zAy h.os (h.tl i hi).1
  have fZ:=zGC 0 (x.zN.getD i []) (by rw[p1];exact fun i hi=>(p2 i hi).2);have eB:=(h.os.2 i hi).pos;refine⟨⟨fun w hw=>?_,?_⟩,fun w hw=>zQs 0 _ (by omega) w hw,by simp only[r1];omega⟩
  ·have:=List.eq_of_mem_replicate hw;omega
  ·simp only[r1,Gg];omega
 ·obtain⟨p1,p2⟩:=zAy h.os ((h.tl i hi).2.2 j hj)
  have t2:=(h.tl i hi).2.1;have fZ:=zGC 0 ((x.zD.getD i []).getD j []) (by rw[p1];exact fun i hi=>(p2 i hi).2);refine⟨⟨fun w hw=>?_,by simp[r2]⟩,fun w hw=>?_,by simp only[r2,Ki];omega⟩
  ·simp only[r2,Jq,List.not_mem_nil,or_false]at hw;omega
  ·simp only[r2,Jq]at hw
   rcases hw with rfl|hw
   ·exact hi
   ·exact zQs 0 _ (by omega) w hw
variable {m:zC}{D:Nat} (hm:MOk x.zA.length m D)
 include hm
theorem tP:(∀q∈qL x,wM m.Prime D m.zB q.1 (idM D)=wM m.Prime D m.zB q.2 (idM D))↔zIP x m D:=by
 have h7:=hm.p.pos;have hI:=uV (p:=m.Prime) (D:=D) h7.1;have key:∀i j,i<x.zA.length→j<x.zA.length→ ∀ws,(wM m.Prime D m.zB [j,i] (idM D)=wM m.Prime D m.zB (i::ws) (idM D)↔PM m.Prime D (m.zB.getD j []) (m.zB.getD i [])=PM m.Prime D (m.zB.getD i []) (wM m.Prime D m.zB ws (idM D))):=fun i j hi hj ws=>by
  have hZ:=hm.mat i hi;have ma:=hm.mat j hj;have e1:wM m.Prime D m.zB [j,i] (idM D)=PM m.Prime D (m.zB.getD j []) (m.zB.getD i []):=by show PM _ _ (PM _ _ (idM D) _) _=_;rw[zAw ma]
  have e2:wM m.Prime D m.zB (i::ws) (idM D)=PM m.Prime D (m.zB.getD i []) (wM m.Prime D m.zB ws (idM D)):=by show wM _ _ _ ws (PM _ _ (idM D) _)=_;rw[zAw hZ,←zQt (by omega) hZ.1 ws hI,zG7 hZ]
  rw[e1,e2]
 constructor
 ·intro g i hi
  have t2:=(h.tl i hi).2.1;refine⟨g (r1 x i) (by simp only[qL,K6,Ja,Jp];grind),fun j h1 h2=>?_⟩;have:=g (r2 x i (j-(i+1))) (by
   simp only[qL,K6,Gm,Jp,R2,Ja]
   grind)
  simp only[r2]at this;rw[show i+(j-(i+1))+1=j from by omega]at this
  grind
 ·intro g q hq
  simp only[qL,K6,Ja,Jp,Gm,R2]at hq;rcases hq with⟨i,hi,rfl⟩|⟨i,hi,j,hj,rfl⟩
  ·exact(g i hi).1
  ·have t2:=(h.tl i hi).2.1
   have:=(g i hi).2 (i+j+1) (by omega) (by omega);rw[show i+j+1-(i+1)=j from by omega]at this;exact(key i (i+j+1) hi (by omega) _).2 this
theorem zOx:IsB ((zG (zR4 m ((qL x).map enR)) 0).bind fun r=>match r with|.inl _=>dq du|.inr r=>dq r) (zIP x m D):=by
 have h6:=h.os.1;have h7:=hm.p.pos;have h3:=hm.d3;have hI:=uV (p:=m.Prime) (D:=D) h7.1;have hfm:=zLK h x.zA.length (Jd _);have mw:(qL x).length≤1000:=by simp only[qL,Ji,Ju,U5];omega
 refine(tO (qL x).length (fun k=>wM m.Prime D m.zB ((qL x).getD k ([],[])).1 (idM D)=wM m.Prime D m.zB ((qL x).getD k ([],[])).2 (idM D)) rfl (fun k hk _=>?_) ?_).iff ⟨fun g=>(tP h hm).1 fun q hq=>?_,fun g k hk=>(tP h hm).2 g _ ?_⟩
 ·have gz:(qL x).getD k ([],[])∈qL x:=by
   rw[J4,J7 hk];exact Kz hk
  obtain⟨⟨g1,g2⟩,g3,g4⟩:=zB1 h gz;have hs:=(zAC (p:=m.Prime) (D:=D) (A:=m.zB) (by omega) ((qL x).getD k ([],[])).1 hI).small (by omega);refine vG (o:=dq (wM m.Prime D m.zB ((qL x).getD k ([],[])).1 (idM D)==wM m.Prime D m.zB ((qL x).getD k ([],[])).2 (idM D))) (IsB.of_bool (by rw[beq_iff_eq])) (by omega) ?_;unfold zR4;rw[Ju,yE hk,zI,wX,Jz,J7 hk];rw[J4,J7 hk]at g1 g2 g3 g4 hs ⊢
  simp only[Gx,Gu]at g1 g2 g3 g4 hs ⊢
  rw[bs,zDd hm h6 g1 (H6 g2 (by omega)),bs,zDd hm h6 g3 (H6 g4 (by omega)),bs];simp only
  rw[zDe hs.1 hs.2]
 ·unfold zR4
  rw[Ju,wS,zJ]
 ·obtain⟨k,hk,rfl⟩:=Js.1 hq
  have:=g k hk;rw[J4,J7 hk]at this;exact this
 ·rw[J4,J7 hk];exact Kz hk
end
theorem kT{x:SPr}{m:zC}(hl:x.zA.length≤1048576)(_hal:m.zB.length≤1048576):IsB (f_w x m) (zQu x m):=by
 unfold f_w;rcases zDU hl with⟨h1,h2⟩|⟨h1,h2⟩
 ·have h6:=h2.1.os.1
  rw[h1,bs,J5,zJ];rcases zA8 m.Prime with⟨p1,p2⟩|⟨p1,p2⟩
  ·rw[p1,bs,J5,zJ]
   rcases qA m.Dim 1 3 with⟨d1,d2⟩|⟨d1,d2⟩
   ·rw[d1,bs,J5,zJ]
    obtain⟨D,hD⟩:∃D:Nat,m.Dim=(D:Int):=⟨m.Dim.toNat,by omega⟩
    by_cases gm:m.zB.length=x.zA.length
    ·rw[sJ (by omega),zJ]
     rcases chk (body:=zR3 m) m.zB.length 0 (Kd _) (fun i=>Mat m.Prime D (m.zB.getD i [])) (fun _=>dv) (fun i _ hi _=>by
       unfold zR3;rw[yE hi,zI,zW [] hi,bs,hD]
       by_cases hr:(m.zB.getD i []).length=D
       ·rw[sJ (by omega),zJ]
        refine vG (zHj p2 (D:=D) (by omega) hr) (by omega) ?_
        grind[zGY,zW]
       ·rw[qC (by omega),zI]
        exact .inr ⟨rfl,fun g=>hr g.1⟩) (by
       unfold zR3;simp)with⟨g1,g2⟩|⟨i,_,hi,g1,g2⟩
     ·rw[show((0:Nat):Int)=0 from rfl]at g1
      have hm:MOk x.zA.length m D:=⟨p2,hD,by omega,by omega,gm,by grind⟩;rw[g1,bs,zDx h2.1];simp only
      rw[bs];refine(zOx h2.1 hm).iff ⟨fun k2=>⟨h2,D,hm,k2⟩,fun⟨_,D',gB,hr⟩=>?_⟩;have:D'=D:=by have:=gB.d;omega
      grind
     ·rw[show((0:Nat):Int)=0 from rfl]at g1
      rw[g1,bs];refine .inr ⟨rfl,fun⟨_,D',gB,_⟩=>g2 ?_⟩;have:D'=D:=by have:=gB.d;omega
      rw[←this];exact gB.mat i (by omega)
    ·rw[qC (by omega),zI]
     exact .inr ⟨rfl,fun⟨_,D',gB,_⟩=>gm gB.len⟩
   ·rw[d1,bs,Jr,zI]
    exact .inr ⟨rfl,fun⟨_,D',gB,_⟩=>d2 (by have:=gB.d;have:=gB.d1;have:=gB.d3;omega)⟩
  ·rw[p1,bs,Jr,zI]
   exact .inr ⟨rfl,fun⟨_,D',gB,_⟩=>p2 gB.p⟩
 ·rw[h1,bs,Jr,zI]
  exact .inr ⟨rfl,fun g=>h2 g.1⟩
end Go.Pl

namespace Go.Pl
open Go Go.Ab Go.Wk Go.Pc
end Go.Pl

namespace Go.Pl
open Go Go.Ab Go.Wk Go.Pc
section
variable {p:Int}
def uW(p:Int)(D:Nat)(r:List Int)(k:Int)(s:List Int):List Int:=mkv D fun j=>(at0 r j+k*at0 s j)%p
theorem zKm{D:Nat}{r s:List Int}{k:Int}:(uW p D r k s).length=D:=zO _ _
def zHk(p:Int)(D i:Nat)(r:List Int)(k:Int)(s:List Int):List Int:=mkv D fun j=>if j<i then(at0 r j+k*at0 s j)%p else at0 r j
theorem zHW{D:Nat}{r s:List Int}{k:Int}(hr:r.length=D):zHk p D 0 r k s=r:=by
 conv=>rhs;rw[vA hr]
 rfl
theorem zHX{D:Nat}{r s:List Int}{k:Int}:zHk p D D r k s=uW p D r k s:=yK (by omega)
theorem zKn{D i:Nat}{r s:List Int}{k a:Int}(ha:a=(at0 r i+k*at0 s i)%p):(zHk p D i r k s).set i a=zHk p D (i+1) r k s:=by
 simp only[zHk];rw[kQ]
 grind
theorem zNt{D i:Nat}{r s:List Int}{k:Int}(hi:i<D):at0 (zHk p D i r k s) i=at0 r i:=by rw[zHk,zK hi,if_neg (by omega)]
theorem zDV{D i:Nat}{r s:List Int}{k:Int}:(zHk p D i r k s).length=D:=zO _ _
end
section
variable {p:Int} (hp:Prime p)
 include hp
theorem zFe{a:Int}(_h0:-1000≤a)(_h1:a≤1000):zHr a p=dq (a%p):=by
 have h7:=hp.pos;have e1:=Qt a (show 0<p by omega);have e2:=Q7 a (show 0<p by omega);have e3:(Qo a p+p)%p=a%p:=by
  rw[G9];have:=Un a p
  conv=>rhs;rw[←this]
  simp
 unfold zHr yO;rw[if_neg (by omega),bs,zH (by omega) (by omega),bs,if_neg (by omega),bs,L2 (by omega),e3]
theorem zAD{a:Int}(_h0:-1000≤a)(_h1:a≤1000):zHt a p=dq (a%p):=by
 have h7:=hp.pos;have e1:=Qt a (show 0<p by omega);have e2:=Q7 a (show 0<p by omega);have e3:(Qo a p+p)%p=a%p:=by
  rw[G9];have:=Un a p
  conv=>rhs;rw[←this]
  simp
 unfold zHt yO;rw[if_neg (by omega),bs]
 by_cases h:Qo a p<0
 ·rw[dx h,zI,zH (by omega) (by omega),bs,←e3,K5 (by omega) (by omega)]
 ·rw[dw h,zJ,←e3,G9,K5 (by omega) (by omega)]
theorem zGG{D:Nat}{r s:List Int}{k:Int}:Row p D (uW p D r k s):=by have h7:=hp.pos;refine⟨zO _ _,fun i hi=>?_⟩;have e:at0 (uW p D r k s) i=(at0 r i+k*at0 s i)%p:=zK hi;have e1:=K8 (at0 r i+k*at0 s i) (show p≠0 by omega);have e2:=Jx (at0 r i+k*at0 s i) (show 0<p by omega);omega
theorem zBH{k b:Int}(hk:-7≤k∧k≤7)(hb:0≤b∧b≤p-1):-49≤k*b∧k*b≤49:=by
 have h7:=hp.pos;rcases Int.le_total 0 k with h|h
 ·have h1:=Hn h hb.1
  have h2:=L3 hk.2 (show b≤7 by omega) hb.1 (by omega);omega
 ·have h1:=Hn (show 0≤ -k by omega) hb.1
  have h2:=L3 (show -k≤7 by omega) (show b≤7 by omega) hb.1 (by omega);rw[Int.neg_mul]at h1 h2;omega
theorem zCG{D:Nat}{r s:List Int}{k:Int}(hr:Row p D r)(hs:Row p D s)(hk:-7≤k∧k≤7)(hD:D≤1000000):f_O r s k p=dq (uW p D r k s):=by
 have h7:=hp.pos;have:=zQ (body:=zKR r s k p) (r:=uW p D r k s) (fun i=>(zHk p D i r k s,(i:Int))) D (fun i hi=>by
  have a1:=hr.2 i hi;have a2:=hs.2 i hi;have a3:=zBH hp hk a2;unfold zKR;simp only
  rw[hr.1,yE hi,zI,yB (by grind[zDV]),bs,yB (by rw[hs.1];exact hi),bs,zH (by omega) (by omega),bs,zNt hi,zH (by omega) (by omega),bs,zFe hp (by omega) (by omega),bs,bs,zH (by omega) (by omega),bs,cs,J9,zKn rfl]) (by
  unfold zKR;simp only
  rw[hr.1,wS,zJ,zHX])
 rw[show((0:Nat):Int)=0 from rfl,zHW hr.1]at this
 grind[f_O]
theorem zCu{D:Nat}{r s:List Int}{k:Int}(hr:Row p D r)(hs:Row p D s)(hk:-7≤k∧k≤7)(hD:D≤1000000):zJi p r k s=dq (uW p D r k s):=by
 have h7:=hp.pos;have:=zQ (body:=zLb p k s) (r:=uW p D r k s) (fun i=>(zHk p D i r k s,(i:Int))) D (fun i hi=>by
  have a1:=hr.2 i hi;have a2:=hs.2 i hi;have a3:=zBH hp hk a2;unfold zLb;simp only
  rw[zDV,yE hi,zI,hs.1,yE hi,zI,yB (by grind[zDV]),bs,yB (by rw[hs.1];exact hi),bs,zH (by omega) (by omega),bs,zNt hi,zH (by omega) (by omega),bs,zAD hp (by omega) (by omega),bs,bs,zH (by omega) (by omega),bs,cs,J9,zKn rfl]) (by
  unfold zLb;simp only
  rw[zDV,wS,zJ,zHX])
 rw[show((0:Nat):Int)=0 from rfl,zHW hr.1]at this;unfold zJi;rw[wT (by rw[hr.1];omega),bs,this,bs]
end
end Go.Pl

namespace Go.Pl
open Go Go.Ab Go.Wk Go.Pc
def VOk(n:Nat)(p:Int)(D:Nat)(vals:Mx):Prop:=vals.length=n∧ ∀i,i<n→Row p D (vals.getD i [])
abbrev z0(D:Nat):List Int:=J1 D 0
theorem zW3{p:Int}{D:Nat}(hp:0<p):Row p D (z0 D):=by
 refine⟨by simp,fun i hi=>?_⟩
 grind
theorem uK{p:Int}{D:Nat}{r:List Int}{B:Mx}(hp:0<p):Row p D (yL p D r B):=by
 refine⟨zO _ _,fun i hi=>?_⟩;have e1:=K8 (S D (fun l=>at0 r l*ent B l i)) (show p≠0 by omega);have e2:=Jx (S D (fun l=>at0 r l*ent B l i)) hp
 grind[yL,zK]
theorem zQv{v:List Int}(hl:v.length≤1000000):IsB (f_X v) (∀i,i<v.length→at0 v i=0):=by
 refine tO v.length (fun i=>at0 v i=0) rfl (fun i hi _=>?_) ?_
 ·unfold zKM
  rw[yE hi,zI,yB hi,bs]
  by_cases h:at0 v i=0
  ·rw[show(at0 v i != 0)=dv from by grind,zJ,zH (by omega) (by omega),bs,cs];grind
  grind
 ·unfold zKM
  simp
theorem zHY{v:List Int}(hl:v.length≤1000000):IsB (zMv v) (∀i,i<v.length→at0 v i=0):=zQv hl
end Go.Pl

namespace Go.Pl
open Go Go.Ab Go.Wk Go.Pc
theorem zAS{a b:Int}(h:a=b):(a==b)=du:=by simp[h]
theorem zFf{a b:Int}(h:a≠b):(a==b)=dv:=by simp[h]
end Go.Pl

namespace Go.Pl
open Go Go.Ab Go.Wk Go.Pc
theorem IsB.both{o o':Option Bool}{P:Prop}(h:IsB o P)(h':IsB o' P):(o=dq du∧o'=dq du∧P)∨(o=dq dv∧o'=dq dv∧ ¬P):=by
 rcases h with⟨h1,h2⟩|⟨h1,h2⟩<;>rcases h' with⟨h3,h4⟩|⟨h3,h4⟩
 all_goals grind
end Go.Pl

namespace Go.Pl
open Go Go.Ab Go.Wk Go.Pc
def Sp(p:Int)(n:Nat)(R:Mx)(v:List Int):Prop:=∃c:Nat→Int,∀j,j<n→(S R.length fun i=>c i*ent R i j)%p=at0 v j%p
section
variable {p:Int}{n:Nat}{R R':Mx}{u v w:List Int}
theorem vU{i:Nat}(hi:i<R.length):Sp p n R (R.getD i []):=by
 refine⟨fun l=>if l=i then 1 else 0,fun j _=>?_⟩
 grind[vH]
theorem sC{k:Int}(hv:Sp p n R v)(hw:Sp p n R w)(h:∀j,j<n→at0 u j%p=(at0 v j+k*at0 w j)%p):Sp p n R u:=by
 obtain⟨c,hc⟩:=hv;obtain⟨d,hd⟩:=hw;refine⟨fun i=>c i+k*d i,fun j hj=>?_⟩;have e:(S R.length fun i=>(c i+k*d i)*ent R i j)=(S R.length fun i=>c i*ent R i j)+k*(S R.length fun i=>d i*ent R i j):=by
  rw[←vK,←zAR]
  grind
 rw[e,h j hj,Jv,hc j hj,J6,hd j hj,←J6,←Jv]
theorem zKo(hv:Sp p n R v)(h:∀j,j<n→at0 u j%p=at0 v j%p):Sp p n R u:=by obtain⟨c,hc⟩:=hv;exact⟨c,by grind⟩
theorem zCH(h:∀j,j<n→at0 u j%p=0):Sp p n R u:=by refine⟨fun _=>0,fun j hj=>?_⟩;rw[h j hj,yC (g:=fun _=>0) (fun i _=>by simp),tF];simp
theorem sK(h:∀i,i<R.length→Sp p n R' (R.getD i []))(hv:Sp p n R v):Sp p n R' v:=by
 obtain⟨c,hc⟩:=hv;have key:∀m,m≤R.length→ ∃d:Nat→Int,∀j,j<n→(S R'.length fun i=>d i*ent R' i j)%p=(S m fun i=>c i*ent R i j)%p:=by
  intro m
  induction m with
  |zero=>intro _;exact⟨fun _=>0,fun j _=>by rw[yC (g:=fun _=>0) (fun i _=>by simp),tF];rfl⟩
  |succ m ih=>
   intro hm;obtain⟨d,hd⟩:=ih (by omega);obtain⟨e,he⟩:=h m (by omega);refine⟨fun i=>d i+c m*e i,fun j hj=>?_⟩;have e1:(S R'.length fun i=>(d i+c m*e i)*ent R' i j)=(S R'.length fun i=>d i*ent R' i j)+c m*(S R'.length fun i=>e i*ent R' i j):=by
    rw[←vK,←zAR]
    grind
   rw[e1,Jv,hd j hj,J6,he j hj,←J6,←Jv];rfl
 obtain⟨d,hd⟩:=key R.length (Jd _);exact⟨d,by grind⟩
end
def tQ(p:Int)(n:Nat)(R R':Mx):Prop:=(∀i,i<R.length→Sp p n R' (R.getD i []))∧ ∀i,i<R'.length→Sp p n R (R'.getD i [])
theorem tQ.refl{p:Int}{n:Nat}{R:Mx}:tQ p n R R:=⟨fun _ h=>vU h,fun _ h=>vU h⟩
theorem tQ.symm{p:Int}{n:Nat}{R R':Mx}(h:tQ p n R R'):tQ p n R' R:=⟨h.2,h.1⟩
theorem tQ.trans{p:Int}{n:Nat}{R R' R2:Mx}(h:tQ p n R R')(h':tQ p n R' R2):tQ p n R R2:=⟨fun i hi=>sK h'.1 (h.1 i hi),fun i hi=>sK h.2 (h'.2 i hi)⟩
theorem tQ.iff{p:Int}{n:Nat}{R R':Mx}{v:List Int}(h:tQ p n R R'):Sp p n R v↔Sp p n R' v:=⟨fun g=>sK h.1 g,fun g=>sK h.2 g⟩
structure Red (p:Int) (n:Nat) (R:Mx) (pv:Nat→Nat):Prop where
 row:∀i,i<R.length→Row p n (R.getD i [])
 lt:∀i,i<R.length→pv i<n
 one:∀i,i<R.length→ent R i (pv i)=1
 low:∀i,i<R.length→ ∀j,j<pv i→ent R i j=0
 off:∀i k,i<R.length→k<R.length→k≠i→ent R k (pv i)=0
 mono:∀i j,i<j→j<R.length→pv i<pv j
section
variable {p:Int} (hp:1<p) {n:Nat}{R R':Mx}{pv pv':Nat→Nat}{v:List Int}
theorem Red.coef(h:Red p n R pv){c:Nat→Int}(hc:∀j,j<n→(S R.length fun i=>c i*ent R i j)%p=at0 v j%p){k:Nat}(hk:k<R.length):c k%p=at0 v (pv k)%p:=by rw[←hc (pv k) (h.lt k hk),vH (k:=k) hk (fun i hi gf=>by rw[h.off k i hk hi gf];simp),h.one k hk];simp
theorem Red.expand(h:Red p n R pv)(hv:Sp p n R v):∀j,j<n→at0 v j%p=(S R.length fun i=>at0 v (pv i)*ent R i j)%p:=by obtain⟨c,hc⟩:=hv;intro j hj;rw[←hc j hj];exact wY fun i hi=>by rw[J6,h.coef hc hi,←J6]
theorem Red.lead(h:Red p n R pv)(hv:Sp p n R v)(gf:∃j,j<n∧at0 v j%p≠0):∃i,i<R.length∧(∀j,j<pv i→at0 v j%p=0)∧at0 v (pv i)%p≠0:=by
 have hx:=h.expand hv;have h1:∃i,i<R.length∧at0 v (pv i)%p≠0:=by
  refine Classical.byContradiction fun hn=>?_
  obtain⟨j,hj,hj2⟩:=gf;refine hj2 ?_;rw[hx j hj,wY (g:=fun _=>0) (fun i hi=>by
   have:at0 v (pv i)%p=0:=by grind
   rw[J6,this];simp),tF];rfl
 obtain⟨i,⟨hi,fD⟩,eK⟩:=zDa h1;refine⟨i,hi,fun j hj=>?_,fD⟩;have aN:j<n:=Nat.lt_trans hj (h.lt i hi);rw[hx j aN,wY (g:=fun _=>0) (fun k hk=>by
  rcases Jm k i with hki|hki
  ·have:at0 v (pv k)%p=0:=by grind
   rw[J6,this];simp
  ·have h2:pv i≤pv k:=by
    rcases Jm i k with h3|h3
    ·exact Nat.le_of_lt (h.mono i k h3 hk)
    grind
   rw[h.low k hk j (by omega)];simp),tF];rfl
 include hp
theorem Red.row_lead(h:Red p n R pv){i:Nat}(hi:i<R.length):(∃j,j<n∧at0 (R.getD i []) j%p≠0)∧(∀j,j<pv i→at0 (R.getD i []) j%p=0)∧at0 (R.getD i []) (pv i)%p≠0:=by
 have h1:at0 (R.getD i []) (pv i)%p≠0:=by have:=h.one i hi;simp only[ent]at this;rw[this,K5 (by omega) hp];omega
 refine⟨⟨pv i,h.lt i hi,h1⟩,fun j hj=>?_,h1⟩;have:=h.low i hi j hj
 simp_all
theorem Red.piv_in(h:Red p n R pv)(h':Red p n R' pv')(hs:∀i,i<R.length→Sp p n R' (R.getD i [])){i:Nat}(hi:i<R.length):∃k,k<R'.length∧pv' k=pv i:=by
 obtain⟨g1,g2,g3⟩:=h.row_lead hp hi;obtain⟨k,hk,g4,g5⟩:=h'.lead (hs i hi) g1
 grind
theorem Red.piv_eq(h:Red p n R pv)(h':Red p n R' pv')(hs:tQ p n R R'):∀i,(i<R.length↔i<R'.length)∧(i<R.length→pv i=pv' i):=by
 intro i
 induction i using Nat.strongRecOn with
 |_ i ih=>
  have a:i<R.length→i<R'.length∧pv' i≤pv i:=fun hi=>by
   obtain⟨k,hk,e⟩:=h.piv_in hp h' hs.1 hi;have hki:i≤k:=by
    refine Classical.byContradiction fun hn=>?_
    have h1:=(ih k (by omega)).2 (by omega);have h2:=h.mono k i (by omega) hi;omega
   refine⟨by omega,?_⟩;rcases Jm i k with h3|h3
   ·have:=h'.mono i k h3 hk;omega
   grind
  have b:i<R'.length→i<R.length∧pv i≤pv' i:=fun hi=>by
   obtain⟨k,hk,e⟩:=h'.piv_in hp h hs.2 hi;have hki:i≤k:=by
    refine Classical.byContradiction fun hn=>?_
    have h1:=(ih k (by omega)).2 hk;have h2:=h'.mono k i (by omega) hi;omega
   refine⟨by omega,?_⟩;rcases Jm i k with h3|h3
   ·have:=h.mono i k h3 hk;omega
   grind
  omega
theorem Red.unique(h:Red p n R pv)(h':Red p n R' pv')(hs:tQ p n R R'):R=R':=by
 have hpe:=h.piv_eq hp h' hs;have hl:R.length=R'.length:=by
  rcases Gy R.length R'.length with g|g|g
  all_goals grind
 refine zBG (D:=R.length) rfl hl.symm fun i hi=>?_
 have hZ:i<R'.length:=by omega
 have r1:=h.row i hi;have r2:=h'.row i hZ;rw[vA r1.1,vA r2.1];refine yK fun j hj=>?_
 have hx:=h'.expand (hs.1 i hi) j hj;rw[yC (g:=fun k=>(if k=i then 1 else 0)*ent R' k j) (fun k hk=>by
  congr 1
  have e:=(hpe k).2 (by omega)
  by_cases hki:k=i
  ·subst hki;rw[if_pos rfl,←e];exact h.one k hi
  ·rw[if_neg hki,←e];exact h.off k i (by omega) hi (Ne.symm hki)),vH (k:=i) hZ (fun k _ hk=>by simp[hk])]at hx
 simp only[if_true,Kw,ent]at hx;have a1:=r1.2 j hj;have a2:=r2.2 j hj;rw[K5 a1.1 (by omega),K5 a2.1 (by omega)]at hx;exact hx
end
end Go.Pl

namespace Go.Pl
open Go Go.Ab Go.Wk Go.Pc
def mkR(m:Nat)(F:Nat→List Int):Mx:=(Jf m).map F
theorem tH{m:Nat}{F:Nat→List Int}:(mkR m F).length=m:=by simp[mkR]
theorem kU{m:Nat}{F:Nat→List Int}{i:Nat}(h:i<m):(mkR m F).getD i []=F i:=by simp[mkR,J4,h]
theorem zIQ{m:Nat}{F:Nat→List Int}{i:Nat}(h:i<m):ixO (mkR m F) (i:Int)=dq (F i):=by rw[zW [] (by grind[tH]),kU h]
theorem jS{m:Nat}{F G:Nat→List Int}(h:∀i,i<m→F i=G i):mkR m F=mkR m G:=by grind[mkR,Lt]
theorem zIR{R:Mx}{m:Nat}(h:R.length=m):R=mkR m (fun i=>R.getD i []):=zBG (D:=m) h tH (by grind[kU])
theorem zF3{m:Nat}{F:Nat→List Int}{i:Nat}{a:List Int}:(mkR m F).set i a=mkR m (fun k=>if k=i then a else F k):=by
 apply Kt;intro k
 by_cases hk:k<m
 ·by_cases h:i=k
  ·grind[mkR]
  ·rw[List.getElem?_set_ne h];simp[mkR,hk,Ne.symm h]
 grind[mkR]
theorem zCI{m:Nat}{F:Nat→List Int}{i j:Nat}(h:i<m):ent (mkR m F) i j=at0 (F i) j:=by simp only[ent,kU h]
theorem zQw{s:Nat→Int×Int×Int×Int}(n:Nat){r:Int×Int}(h:∀i,i<n→zIl (s i)=dq (.inl (s (i+1))))(he:zIl (s n)=dq (.inr r)){p q:Int}(hq:zHr r.2 p=dq q)(h1:r.1=1)(hs:s 0=(p,(s 0).2.1,0,1)):
  zMr (s 0).2.1 p=dq (q,du):=by
 unfold zMr;rw[←hs,zQ s n h he,bs,hq,bs,h1];rfl
def zQx:List (Int×Int×Int×Int)→Nat→Int×Int×Int×Int:=fun l i=>l.getD i (0,0,0,0)
theorem uL(l:List (Int×Int×Int×Int))(n:Nat){r:Int×Int}(h:∀i,i<n→zIl (zQx l i)=dq (.inl (zQx l (i+1))))(he:zIl (zQx l n)=dq (.inr r)){p q x:Int}(hq:zHr r.2 p=dq q)(h1:r.1=1)(hs:zQx l 0=(p,x,0,1)):
  zMr x p=dq (q,du):=by
 have:=zQw (s:=zQx l) n h he hq h1 (by rw[hs])
 grind
theorem lt1{P:Nat→Prop}(h0:P 0):∀i,i<1→P i:=by grind
theorem lt2{P:Nat→Prop}(h0:P 0)(h1:P 1):∀i,i<2→P i:=by grind
theorem lt3{P:Nat→Prop}(h0:P 0)(h1:P 1)(h2:P 2):∀i,i<3→P i:=by grind
theorem zDW{p x:Int}(hp:Prime p)(h0:1≤x)(h1:x≤p-1):∃r,zMr x p=dq (r,du)∧0≤r∧r≤p-1∧(x*r)%p=1:=by
 have c:(p=2∧x=1)∨(p=3∧(x=1∨x=2))∨(p=5∧(x=1∨x=2∨x=3∨x=4))∨(p=7∧(x=1∨x=2∨x=3∨x=4∨x=5∨x=6)):=by unfold Prime at hp;omega
 rcases c with⟨rfl,rfl⟩|⟨rfl,rfl|rfl⟩|⟨rfl,rfl|rfl|rfl|rfl⟩|⟨rfl,rfl|rfl|rfl|rfl|rfl|rfl⟩
 ·exact⟨1,uL [(2,1,0,1),(1,0,1,-2)] 1 (lt1 (by rfl)) (r:=(1,1)) (by rfl) (by rfl) rfl rfl,by decide,by decide,by decide⟩
 ·exact⟨1,uL [(3,1,0,1),(1,0,1,-3)] 1 (lt1 (by rfl)) (r:=(1,1)) (by rfl) (by rfl) rfl rfl,by decide,by decide,by decide⟩
 ·exact⟨2,uL [(3,2,0,1),(2,1,1,-1),(1,0,-1,3)] 2 (lt2 (by rfl) (by rfl)) (r:=(1,-1)) (by rfl) (by rfl) rfl rfl,by decide,by decide,by decide⟩
 ·exact⟨1,uL [(5,1,0,1),(1,0,1,-5)] 1 (lt1 (by rfl)) (r:=(1,1)) (by rfl) (by rfl) rfl rfl,by decide,by decide,by decide⟩
 ·exact⟨3,uL [(5,2,0,1),(2,1,1,-2),(1,0,-2,5)] 2 (lt2 (by rfl) (by rfl)) (r:=(1,-2)) (by rfl) (by rfl) rfl rfl,by decide,by decide,by decide⟩
 ·exact⟨2,uL [(5,3,0,1),(3,2,1,-1),(2,1,-1,2),(1,0,2,-5)] 3 (lt3 (by rfl) (by rfl) (by rfl)) (r:=(1,2)) (by rfl) (by rfl) rfl rfl,by decide,by decide,by decide⟩
 ·exact⟨4,uL [(5,4,0,1),(4,1,1,-1),(1,0,-1,5)] 2 (lt2 (by rfl) (by rfl)) (r:=(1,-1)) (by rfl) (by rfl) rfl rfl,by decide,by decide,by decide⟩
 ·exact⟨1,uL [(7,1,0,1),(1,0,1,-7)] 1 (lt1 (by rfl)) (r:=(1,1)) (by rfl) (by rfl) rfl rfl,by decide,by decide,by decide⟩
 ·exact⟨4,uL [(7,2,0,1),(2,1,1,-3),(1,0,-3,7)] 2 (lt2 (by rfl) (by rfl)) (r:=(1,-3)) (by rfl) (by rfl) rfl rfl,by decide,by decide,by decide⟩
 ·exact⟨5,uL [(7,3,0,1),(3,1,1,-2),(1,0,-2,7)] 2 (lt2 (by rfl) (by rfl)) (r:=(1,-2)) (by rfl) (by rfl) rfl rfl,by decide,by decide,by decide⟩
 ·exact⟨2,uL [(7,4,0,1),(4,3,1,-1),(3,1,-1,2),(1,0,2,-7)] 3 (lt3 (by rfl) (by rfl) (by rfl)) (r:=(1,2)) (by rfl) (by rfl) rfl rfl,by decide,by decide,by decide⟩
 ·exact⟨3,uL [(7,5,0,1),(5,2,1,-1),(2,1,-1,3),(1,0,3,-7)] 3 (lt3 (by rfl) (by rfl) (by rfl)) (r:=(1,3)) (by rfl) (by rfl) rfl rfl,by decide,by decide,by decide⟩
 ·exact⟨6,uL [(7,6,0,1),(6,1,1,-1),(1,0,-1,7)] 2 (lt2 (by rfl) (by rfl)) (r:=(1,-1)) (by rfl) (by rfl) rfl rfl,by decide,by decide,by decide⟩
end Go.Pl

namespace Go.Pl
open Go Go.Ab Go.Wk Go.Pc
structure zOy (p:Int) (n m:Nat) (rows:Mx) (c:Nat) (M:Mx) (d:Nat) (pv:Nat→Nat):Prop where
 len:M.length=m
 row:∀i,i<m→Row p n (M.getD i [])
 dm:d≤m
 lt:∀i,i<d→pv i<c
 one:∀i,i<d→ent M i (pv i)=1
 low:∀i,i<d→ ∀j,j<pv i→ent M i j=0
 off:∀i k,i<d→k<m→k≠i→ent M k (pv i)=0
 mono:∀i j,i<j→j<d→pv i<pv j
 zero:∀k,d≤k→k<m→ ∀j,j<c→ent M k j=0
 sp:tQ p n M rows
theorem zBI{p:Int}{n m:Nat}{F:Nat→List Int}{i:Nat}(h:i<m):Sp p n (mkR m F) (F i):=by
 have:=vU (p:=p) (n:=n) (R:=mkR m F) (i:=i) (by grind[tH])
 grind[kU]
theorem zQy(a e r p:Int):a%p=((a+(0-e)*r)%p+e*r)%p:=by rw[Jv,Je,←Jv,show a+(0-e)*r+e*r=a from by grind]
section
variable {p:Int} (hp:Prime p) {n m:Nat}{rows:Mx}{c:Nat}{M:Mx}{d:Nat}{pv:Nat→Nat} (h:zOy p n m rows c M d pv) (hc:c<n) (hd:d<m)
 include hp h hc hd
theorem zOy.pivot{t:Nat}(ht:d≤t)(mU:t<m)(gf:ent M t c≠0){q:Int}(hq:(ent M t c*q)%p=1):
  zOy p n m rows (c+1) (mkR m fun i=>if i=d then mkv n fun j=>(ent M t j*q)%p else uW p n (if i=t then M.getD d []else M.getD i []) (0-at0 (if i=t then M.getD d []else M.getD i []) c) (mkv n fun j=>(ent M t j*q)%p)) (d+1) (fun i=>if i=d then c else pv i):=by
 have h7:=hp.pos;have pr:∀j,j<n→at0 (mkv n fun j=>(ent M t j*q)%p) j=(ent M t j*q)%p:=fun j hj=>zK hj
 have p0:∀j,j<c→(ent M t j*q)%p=0:=fun j hj=>by rw[h.zero t ht mU j hj];simp
 have prow:Row p n (mkv n fun j=>(ent M t j*q)%p):=⟨zO _ _,fun j hj=>by have e1:=K8 (ent M t j*q) (show p≠0 by omega);have e2:=Jx (ent M t j*q) (show 0<p by omega);rw[pr j hj];omega⟩
 have hG:∀i,i<m→i≠d→Row p n (if i=t then M.getD d []else M.getD i []):=fun i hi _=>by
  split
  ·exact h.row d hd
  ·exact h.row i hi
 have eo:∀i j,i<m→i≠d→j<n→ent (mkR m fun i=>if i=d then mkv n fun j=>(ent M t j*q)%p else uW p n (if i=t then M.getD d []else M.getD i []) (0-at0 (if i=t then M.getD d []else M.getD i []) c) (mkv n fun j=>(ent M t j*q)%p)) i j=(at0 (if i=t then M.getD d []else M.getD i []) j+(0-at0 (if i=t then M.getD d []else M.getD i []) c)*((ent M t j*q)%p))%p:=fun i j hi ex hj=>by rw[zCI hi,if_neg ex,uW,zK hj,pr j hj]
 have el:∀i j,i<m→i≠d→j<c→ent (mkR m fun i=>if i=d then mkv n fun j=>(ent M t j*q)%p else uW p n (if i=t then M.getD d []else M.getD i []) (0-at0 (if i=t then M.getD d []else M.getD i []) c) (mkv n fun j=>(ent M t j*q)%p)) i j=at0 (if i=t then M.getD d []else M.getD i []) j:=fun i j hi ex hj=>by rw[eo i j hi ex (by omega),p0 j hj,Jw,Lp];have:=(hG i hi ex).2 j (by omega);exact K5 this.1 (by omega)
 have ed:∀j,j<n→ent (mkR m fun i=>if i=d then mkv n fun j=>(ent M t j*q)%p else uW p n (if i=t then M.getD d []else M.getD i []) (0-at0 (if i=t then M.getD d []else M.getD i []) c) (mkv n fun j=>(ent M t j*q)%p)) d j=(ent M t j*q)%p:=fun j hj=>by rw[zCI hd,if_pos rfl,pr j hj]
 have ec:∀i,i<m→i≠d→ent (mkR m fun i=>if i=d then mkv n fun j=>(ent M t j*q)%p else uW p n (if i=t then M.getD d []else M.getD i []) (0-at0 (if i=t then M.getD d []else M.getD i []) c) (mkv n fun j=>(ent M t j*q)%p)) i c=0:=fun i hi ex=>by rw[eo i c hi ex hc,hq,K7];rw[show at0 (if i=t then M.getD d []else M.getD i []) c+(0-at0 (if i=t then M.getD d []else M.getD i []) c)=0 from by omega];simp
 have eZ:∀i,i<d→(if i=t then M.getD d []else M.getD i [])=M.getD i []:=fun i hi=>by rw[if_neg (by omega)]
 have hzr:∀i,d≤i→i<m→ ∀j,j<c→at0 (if i=t then M.getD d []else M.getD i []) j=0:=fun i hi fD j hj=>by
  split
  ·exact h.zero d (Jd _) hd j hj
  ·exact h.zero i hi fD j hj
 refine⟨tH,fun i hi=>?_,by omega,fun i hi=>?_,fun i hi=>?_,fun i hi j hj=>?_,fun i k hi hk ex=>?_,fun i j ev hj=>?_,fun k hk fp j hj=>?_,?_⟩
 ·rw[kU hi]
  split
  ·exact prow
  ·exact zGG hp
 ·by_cases ew:i=d
  ·rw[if_pos ew];omega
  ·rw[if_neg ew];have:=h.lt i (by omega);omega
 ·by_cases ew:i=d
  ·subst ew;rw[if_pos rfl,ed c hc,hq]
  ·have h1:=h.lt i (by omega)
   rw[if_neg ew,el i _ (by omega) ew h1,eZ i (by omega)];exact h.one i (by omega)
 ·by_cases ew:i=d
  ·subst ew
   rw[if_pos rfl]at hj;rw[ed j (by omega),p0 j hj]
  ·rw[if_neg ew]at hj
   have h1:=h.lt i (by omega);rw[el i j (by omega) ew (by omega),eZ i (by omega)];exact h.low i (by omega) j hj
 ·by_cases ew:i=d
  ·subst ew
   rw[if_pos rfl];exact ec k hk ex
  ·have h1:=h.lt i (by omega)
   rw[if_neg ew]
   by_cases pE:k=d
   ·subst pE
    rw[ed _ (by omega),h.off i t (by omega) mU (by omega)];simp
   ·rw[el k _ hk pE h1]
    split
    ·exact h.off i d (by omega) hd (Ne.symm ew)
    ·exact h.off i k (by omega) hk ex
 ·by_cases hjd:j=d
  ·subst hjd
   rw[if_pos rfl,if_neg (by omega)];exact h.lt i (by omega)
  ·rw[if_neg hjd,if_neg (by omega)];exact h.mono i j ev (by omega)
 ·rcases Jm j c with hjc|hjc
  ·rw[el k j fp (by omega) hjc];exact hzr k (by omega) fp j hjc
  ·rw[show j=c from by omega];exact ec k fp (by omega)
 ·refine tQ.trans ⟨fun i hi=>?_,fun i hi=>?_⟩ h.sp
  ·rw[tH]at hi
   rw[kU hi];have hr:Sp p n M (mkv n fun j=>(ent M t j*q)%p):=by
    refine sC (k:=q) (zCH (u:=[]) fun j _=>by simp[at0]) (vU (R:=M) (i:=t) (by rw[h.len];exact mU)) fun j hj=>?_
    rw[pr j hj,Je,Kk];simp[at0]
   split
   ·exact hr
   ·refine sC (k:=0-at0 (if i=t then M.getD d []else M.getD i []) c) (v:=if i=t then M.getD d []else M.getD i []) ?_ hr fun j hj=>?_
    ·split
     ·exact vU (by rw[h.len];exact hd)
     ·exact vU (by rw[h.len];exact hi)
    ·rw[uW,zK hj,Je]
  ·rw[h.len]at hi
   have hr:=zBI (p:=p) (n:=n) (m:=m) (F:=fun i=>if i=d then mkv n fun j=>(ent M t j*q)%p else uW p n (if i=t then M.getD d []else M.getD i []) (0-at0 (if i=t then M.getD d []else M.getD i []) c) (mkv n fun j=>(ent M t j*q)%p)) hd;simp only[if_true]at hr;have hg:∀k,k<m→k≠d→Sp p n (mkR m fun i=>if i=d then mkv n fun j=>(ent M t j*q)%p else uW p n (if i=t then M.getD d []else M.getD i []) (0-at0 (if i=t then M.getD d []else M.getD i []) c) (mkv n fun j=>(ent M t j*q)%p)) (if k=t then M.getD d []else M.getD k []):=fun k hk pE=>by
    have h1:=zBI (p:=p) (n:=n) (m:=m) (F:=fun i=>if i=d then mkv n fun j=>(ent M t j*q)%p else uW p n (if i=t then M.getD d []else M.getD i []) (0-at0 (if i=t then M.getD d []else M.getD i []) c) (mkv n fun j=>(ent M t j*q)%p)) hk;simp only[if_neg pE]at h1;refine sC (k:=at0 (if k=t then M.getD d []else M.getD k []) c) h1 hr fun j hj=>?_
    rw[uW,zK hj,pr j hj];exact zQy _ _ _ _
   by_cases fq:i=t
   ·
    subst fq;refine sC (k:=ent M i c) (zCH (u:=[]) fun j _=>by simp[at0]) hr fun j hj=>?_
    rw[pr j hj];have e1:(ent M i c*((ent M i j*q)%p))%p=(ent M i j*((ent M i c*q)%p))%p:=by
     rw[J6,Je,←J6,J6 (ent M i j),Je,←J6]
     congr 1
     rw[←K9,←K9,Kk (ent M i c)]
    rw[show at0 ([]:List Int) j=0 from by simp[at0],Hr,e1,hq,K7]
   ·by_cases ew:i=d
    ·subst ew
     have:=hg t mU (by omega);rw[if_pos rfl]at this;exact this
    ·have:=hg i hi ew
     rw[if_neg fq]at this;exact this
end
end Go.Pl

namespace Go.Pl
open Go Go.Ab Go.Wk Go.Pc
theorem zDy{v:List Int}(h:v.length≤1000000):f_Q v=dq v:=by grind[f_Q,zR]
theorem zDf{rows:Mx}(hm:rows.length≤1000000)(hn:∀i,i<rows.length→(rows.getD i []).length≤1000000):zR8 rows=dq rows:=by
 unfold zR8;have:=zQ (body:=zKW rows) (r:=rows) (fun i=>(rows.take i,(i:Int))) rows.length (fun i hi=>by
  unfold zKW;simp only
  rw[yE hi,zI,zW [] hi,bs,zDy (hn i hi),bs,zR (by simp;omega),bs,zH (by omega) (by omega),bs,cs,Kb hi,J4,J7 hi];rfl) (by
  unfold zKW;simp)
 grind
theorem zOz{M:Mx}{d c m n:Nat}(hm:M.length=m)(hd:d≤m)(hmm:m≤1000000)(hH:∀i,i<m→(M.getD i []).length=n)(hc:c<n):
  ∃t:Nat,d≤t∧t≤m∧zG (zHs (M,(d:Int),(c:Int))) (d:Int)=dq (t:Int)∧(∀k,d≤k→k<t→ent M k c=0)∧(t<m→ent M t c≠0):=by
 have key:∀k,k≤m-d→ ∃t:Nat,m-k≤t∧t≤m∧zG (zHs (M,(d:Int),(c:Int))) ((m-k:Nat):Int)=dq (t:Int)∧(∀q,m-k≤q→q<t→ent M q c=0)∧(t<m→ent M t c≠0):=by
  intro k
  induction k with
  |zero=>
   intro _;refine⟨m,by omega,Jd _,?_,by omega,fun h=>by omega⟩;rw[yN];unfold zHs
   grind
  |succ k ih=>
   intro hk;obtain⟨t,h1,h2,h3,h4,h5⟩:=ih (by omega);have gF:m-(k+1)<m:=by omega
   by_cases hz:ent M (m-(k+1)) c=0
   ·refine⟨t,by omega,h2,?_,fun q q1 q2=>?_,h5⟩
    ·rw[yN]
     have e:zHs (M,(d:Int),(c:Int)) ((m-(k+1):Nat):Int)=dq (.inl ((m-k:Nat):Int)):=by
      unfold zHs;simp only
      rw[hm,yE gF,zI,zW [] (by omega),bs,yB (by rw[hH _ gF];exact hc),bs,zAS hz,zI,zH (by omega) (by omega),bs,cs,show m-(k+1)+1=m-k from by omega]
     grind
    grind
   ·refine⟨m-(k+1),Jd _,by omega,?_,by omega,fun _=>hz⟩
    rw[yN];have e:zHs (M,(d:Int),(c:Int)) ((m-(k+1):Nat):Int)=dq (.inr ((m-(k+1):Nat):Int)):=by
     unfold zHs;simp only
     rw[hm,yE gF,zI,zW [] (by omega),bs,yB (by rw[hH _ gF];exact hc),bs,zFf hz,zJ]
    rw[e]
 obtain⟨t,h1,h2,h3,h4,h5⟩:=key (m-d) (Jd _);rw[show m-(m-d)=d from by omega]at h1 h3 h4
 grind
section
variable {p:Int} (hp:Prime p) {n m:Nat}{M:Mx}{d c t:Nat}
 include hp
theorem zLL{F:Nat→List Int}{q:Int}{b:Bool}(hd:d<m)(hr:Row p n (F d))(hn:n≤1000000)(hq:0≤q∧q≤p-1){v:List Int}(hv:v.length=n){s:Mx×Int×Int}(hs:s.2.1=(d:Int)):
  zG (zKX p s (q,b) v) (mkR m F,0)=dq (mkR m fun i=>if i=d then mkv n fun j=>(at0 (F d) j*q)%p else F i):=by
 have h7:=hp.pos;have:=zQ (body:=zKX p s (q,b) v) (r:=mkR m fun i=>if i=d then mkv n fun j=>(at0 (F d) j*q)%p else F i) (fun k=>(mkR m fun i=>if i=d then mkv n (fun j=>if j<k then(at0 (F d) j*q)%p else at0 (F d) j)else F i,(k:Int))) n (fun k hk=>by
  have a1:=hr.2 k hk;have a2:=zBH hp (k:=q) (by omega) a1;have a3:=Hn a1.1 hq.1;rw[Kk]at a2;unfold zKX;simp only
  rw[hv,yE hk,zI,hs,zIQ hd];simp only[bs,if_true];rw[yB (by grind[zO]),zK hk,if_neg (by omega)];simp only[bs];rw[zH (by omega) (by omega)];simp only[bs,yO];rw[if_neg (by omega)];simp only[bs];rw[L2 a3,zH (by omega) (by omega)];simp only[bs,J9,cs];rw[zF3]
  congr 3
  refine jS fun i _=>?_
  by_cases hi:i=d
  ·rw[if_pos hi,if_pos hi,kQ]
   grind
  grind) (by
  unfold zKX;simp only
  rw[hv,wS,zJ]
  congr 2
  refine jS fun i _=>?_
  split
  ·exact yK (by omega)
  ·rfl)
 rw[show((0:Nat):Int)=0 from rfl]at this;rw[←this]
 congr 2
 refine jS fun i _=>?_
 split
 ·rename_i e;subst e
  conv=>lhs;rw[vA hr.1]
  rfl
 ·rfl
theorem zLM{F:Nat→List Int}(hd:d<m)(hc:c<n)(hr:∀i,i<m→Row p n (F i))(hn:n≤1000000)(hm:m≤1000000){r21:Mx}(hl:r21.length=m){s:Mx×Int×Int}(hs:s.2.1=(d:Int))(pt:s.2.2=(c:Int)):
  zG (zMs p s r21) (mkR m F,0)=dq (mkR m fun i=>if i=d then F d else uW p n (F i) (0-at0 (F i) c) (F d)):=by
 have h7:=hp.pos;have:=zQ (body:=zMs p s r21) (r:=mkR m fun i=>if i=d then F d else uW p n (F i) (0-at0 (F i) c) (F d)) (fun k=>(mkR m fun i=>if i<k∧i≠d then uW p n (F i) (0-at0 (F i) c) (F d)else F i,(k:Int))) m (fun k hk=>by
  have a1:=(hr k hk).2 c hc;unfold zMs;simp only
  rw[hl,yE hk,zI,hs,pt]
  by_cases pE:k=d
  ·subst pE
   rw[sJ rfl,zJ,zH (by omega) (by omega),bs,cs]
   grind
  ·rw[qC (by omega),zI,zIQ hk,zIQ hd]
   simp only[bs,ne_eq,not_true_eq_false,and_false,if_false,Nat.lt_irrefl,false_and];rw[yB (by rw[(hr k hk).1];exact hc)];simp only[bs];rw[zH (by omega) (by omega)];simp only[bs];rw[zCG hp (hr k hk) (hr d hd) (by omega) hn,bs,zH (by omega) (by omega)];simp only[bs,J9,cs];rw[zF3]
   grind) (by
  unfold zMs;simp only
  rw[hl,wS,zJ]
  congr 2
  refine jS fun i hi=>?_
  grind)
 grind
end
end Go.Pl

namespace Go.Pl
open Go Go.Ab Go.Wk Go.Pc
theorem Red.empty{p:Int}{n:Nat}:Red p n [] (fun _=>0):=⟨by simp,by simp,by simp,by simp,by simp,by simp⟩
theorem zOy.take{p:Int}{n m:Nat}{rows:Mx}{c:Nat}{M:Mx}{d:Nat}{pv:Nat→Nat}(h:zOy p n m rows c M d pv)(bL:c≤n)(hz:∀k,d≤k→k<m→ ∀j,j<n→ent M k j=0):Red p n (M.take d) pv∧tQ p n (M.take d) rows:=by
 have hl:(M.take d).length=d:=by rw[Kl,h.len];exact Ua h.dm
 have hg:∀i,i<d→(M.take d).getD i []=M.getD i []:=by grind
 have dm:=h.dm;refine⟨⟨fun i hi=>?_,fun i hi=>?_,fun i hi=>?_,fun i hi j hj=>?_,fun i k hi hk gf=>?_,fun i j ev hj=>?_⟩,tQ.trans ⟨fun i hi=>?_,fun i hi=>?_⟩ h.sp⟩
 ·rw[hl]at hi;rw[hg i hi];exact h.row i (by omega)
 ·rw[hl]at hi;have:=h.lt i hi;omega
 ·rw[hl]at hi;simp only[ent,hg i hi];exact h.one i hi
 ·rw[hl]at hi;simp only[ent,hg i hi];exact h.low i hi j hj
 ·rw[hl]at hi hk;simp only[ent,hg k hk];exact h.off i k hi (by omega) gf
 ·rw[hl]at hj;exact h.mono i j ev hj
 ·grind[vU]
 ·rw[h.len]at hi
  rcases Jm i d with g|g
  ·grind[vU]
  ·exact zCH fun j hj=>by simp_all
section
variable {p:Int} (hp:Prime p) {n:Nat}{rows:Mx} (hn:n≤100000) (hm:rows.length≤600000) (hr:∀i,i<rows.length→Row p n (rows.getD i []))
 include hp hn hm hr
theorem zKp:∃R pv,f_f p rows=dq R∧Red p n R pv∧tQ p n R rows:=by
 have h7:=hp.pos;unfold f_f;rw[zDf (by omega) (fun i hi=>by have:=(hr i hi).1;omega),bs];have main:=jQ (body:=zMt p) (s:=(rows,0,0)) (Q:=fun r=> ∃(M:Mx)(d:Nat)(pv:Nat→Nat),r=(M,(d:Int))∧d≤M.length∧Red p n (M.take d) pv∧tQ p n (M.take d) rows)
  (fun i s=> ∃(M:Mx)(d:Nat)(pv:Nat→Nat),s=(M,(d:Int),(i:Int))∧zOy p n rows.length rows i M d pv∧i≤n) n (fun c s hc hI=>?_) (fun s hI=>?_) ⟨rows,0,fun _=>0,rfl,⟨rfl,hr,Kd _,fun _ h=>by omega,fun _ h=>by omega,fun _ h=>by omega,fun _ _ h=>by omega,fun _ _ _ h=>by omega,fun _ _ _ _ h=>by omega,tQ.refl⟩,Kd _⟩
 ·obtain⟨r,h1,M,d,pv,rfl,hd,hR,hS⟩:=main
  rw[h1,bs];simp only
  have e:zP M 0 (d:Int)=dq (M.take d):=by unfold zP;rw[if_pos ⟨by omega,by omega,by omega⟩];simp
  rw[e,bs];exact⟨_,_,rfl,hR,hS⟩
 ·
  obtain⟨M,d,pv,rfl,h,bL⟩:=hI;have hl:=h.len;have mE:=h.dm
  by_cases h0:rows.length=0
  ·refine .inr ⟨(M,(d:Int)),?_,M,d,pv,rfl,by omega,h.take bL fun k hk fp=>by omega⟩
   unfold zMt;simp only
   rw[dw (by omega),zJ]
  have e0:zMt p (M,(d:Int),(c:Int))=cond (decide ((d:Int)<(M.length:Int))) ((zG (zHs (M,(d:Int),(c:Int))) (d:Int)).bind fun r6=>
    cond (r6==(M.length:Int)) ((rng ((c:Int)+1)).bind fun v7=>dq (.inl (M,(d:Int),v7))) (
     (ixO M r6).bind fun v8=>(ixO M (d:Int)).bind fun v9=>(ixO (qS M (d:Int) r6 v8 v9) (d:Int)).bind fun v10=>(ixO v10 (c:Int)).bind fun v11=>(zMr v11 p).bind fun r12=>
     (ixO (qS M (d:Int) r6 v8 v9) (d:Int)).bind fun v13=>(zG (zKX p (M,(d:Int),(c:Int)) r12 v13) (qS M (d:Int) r6 v8 v9,0)).bind fun r21=>
     (zG (zMs p (M,(d:Int),(c:Int)) r21) (r21,0)).bind fun r30=>(rng ((d:Int)+1)).bind fun v31=>(rng ((c:Int)+1)).bind fun v32=>dq (.inl (r30,v31,v32)))) (dq (.inr (M,(d:Int)))):=by
   unfold zMt;simp only
   have hx:ixO M (0:Int)=dq (M.getD 0 []):=by have:=zW (v:=M) (i:=0) [] (by omega);exact this
   rw[dx (by omega),zI,hx];simp only[bs];rw[(h.row 0 (by omega)).1,yE hc,zI]
  rcases Jm d rows.length with hd|hd
  ·obtain⟨t,t1,t2,t3,t4,t5⟩:=zOz (M:=M) (d:=d) (c:=c) (m:=rows.length) (n:=n) hl mE (by omega) (fun i hi=>(h.row i hi).1) hc
   rw[e0,hl,yE hd,zI,t3];simp only[bs]
   by_cases mU:t=rows.length
   ·
    left;refine⟨(M,(d:Int),((c+1:Nat):Int)),?_,M,d,pv,rfl,⟨hl,h.row,mE,fun i hi=>by have:=h.lt i hi;omega,h.one,h.low,h.off,h.mono,fun k k1 k2 j hj=>?_,h.sp⟩,by omega⟩
    ·rw[zAS (by omega),zI,zH (by omega) (by omega),bs,cs]
    ·rcases Jm j c with g|g
     ·exact h.zero k k1 k2 j g
     ·rw[show j=c from by omega];exact t4 k k1 (by omega)
   ·have cI:t<rows.length:=by omega
    have gf:=t5 cI;have eO:=h.row t cI;have hrc:=eO.2 c hc;obtain⟨q,q1,q2,q3,q4⟩:=zDW (p:=p) (x:=ent M t c) hp (by simp only[ent]at gf ⊢;omega) (by simp only[ent];omega);left;have hM:M=mkR rows.length (fun i=>M.getD i []):=zIR hl;obtain⟨F,hF⟩:∃F:Nat→List Int,∀i,F i=if i=t then M.getD d []else if i=d then M.getD t []else M.getD i []:=⟨_,fun _=>rfl⟩
    have hsw:qS M (d:Int) (t:Int) (M.getD t []) (M.getD d [])=mkR rows.length F:=by
     unfold qS;rw[J9,J9]
     conv=>lhs;rw[hM]
     rw[zF3,zF3];exact jS fun i hi=>by rw[hF,kU hd,kU cI]
    have pu:∀i,i<rows.length→Row p n (F i):=fun i hi=>by
     rw[hF];split
     ·exact h.row d hd
     ·split
      ·exact eO
      ·exact h.row i hi
    have hFd:F d=M.getD t []:=by
     rw[hF]
     by_cases e:d=t
     ·rw[if_pos e,e]
     ·rw[if_neg e,if_pos rfl]
    obtain⟨G,hG⟩:∃G:Nat→List Int,∀i,G i=if i=d then mkv n fun j=>(at0 (F d) j*q)%p else F i:=⟨_,fun _=>rfl⟩
    have hGd:G d=mkv n fun j=>(ent M t j*q)%p:=by rw[hG,if_pos rfl,hFd]
    have hGo:∀i,i≠d→G i=if i=t then M.getD d []else M.getD i []:=fun i ew=>by rw[hG,if_neg ew,hF];simp only[ew,if_false]
    have ms:zG (zKX p (M,(d:Int),(c:Int)) (q,du) (M.getD t [])) (mkR rows.length F,0)=dq (mkR rows.length G):=by
     rw[zLL hp (F:=F) hd (pu d hd) (by omega) ⟨q2,q3⟩ eO.1 rfl]
     congr 1
     exact jS fun i _=>(hG i).symm
    have hF3:∀i,i<rows.length→Row p n (G i):=fun i hi=>by
     rw[hG];split
     ·refine⟨zO _ _,fun j hj=>?_⟩
      have e1:=K8 (at0 (F d) j*q) (show p≠0 by omega);have e2:=Jx (at0 (F d) j*q) (show 0<p by omega);rw[zK hj];omega
     ·exact pu i hi
    have gJ:=zLM hp (c:=c) (F:=G) hd hc hF3 (by omega) (by omega) (r21:=mkR rows.length G) tH (s:=(M,(d:Int),(c:Int))) rfl rfl;rw[zFf (by omega),zJ,zW [] (by omega),zW [] (by omega)];simp only[bs];rw[hsw,zIQ hd,hFd];simp only[bs];rw[yB (by rw[eO.1];exact hc)];simp only[bs];rw[show at0 (M.getD t []) c=ent M t c from rfl,q1];simp only[bs];rw[ms];simp only[bs];rw[gJ];simp only[bs];rw[zH (by omega) (by omega),zH (by omega) (by omega)];simp only[bs,cs];have mc:=h.pivot hp hc hd t1 cI gf q4;refine⟨_,rfl,_,d+1,fun i=>if i=d then c else pv i,rfl,?_,by omega⟩;have e3:(mkR rows.length fun i=>if i=d then G d else uW p n (G i) (0-at0 (G i) c) (G d))=(mkR rows.length fun i=>if i=d then mkv n fun j=>(ent M t j*q)%p else uW p n (if i=t then M.getD d []else M.getD i []) (0-at0 (if i=t then M.getD d []else M.getD i []) c) (mkv n fun j=>(ent M t j*q)%p)):=by
     refine jS fun i hi=>?_
     rw[hGd]
     by_cases ew:i=d
     ·rw[if_pos ew,if_pos ew]
     ·rw[if_neg ew,if_neg ew,hGo i ew]
    rw[e3];exact mc
  ·
   refine .inr ⟨(M,(d:Int)),?_,M,d,pv,rfl,by omega,h.take bL fun k hk fp=>by omega⟩;rw[e0,dw (by omega),zJ]
 ·
  obtain⟨M,d,pv,rfl,h,bL⟩:=hI;have hl:=h.len;have mE:=h.dm;refine⟨(M,(d:Int)),?_,M,d,pv,rfl,by omega,h.take bL fun k hk fp j hj=>h.zero k hk fp j hj⟩;unfold zMt;simp only
  by_cases h0:rows.length=0
  ·rw[dw (by omega),zJ]
  ·have hx:ixO M (0:Int)=dq (M.getD 0 []):=by
    have:=zW (v:=M) (i:=0) [] (by omega);exact this
   rw[dx (by omega),zI,hx];simp only[bs];rw[(h.row 0 (by omega)).1,wS,zJ]
end
end Go.Pl

namespace Go.Pl
open Go Go.Ab Go.Wk Go.Pc
theorem zHZ{v:List Int}{n:Nat}(hl:v.length=n)(hn:n≤1000000):∃k:Nat,k≤n∧f_K v=dq (k:Int)∧(∀j,j<k→at0 v j=0)∧(k<n→at0 v k≠0):=by
 unfold f_K;rcases chk (body:=zHu v) n 0 (Kd _) (fun i=>at0 v i=0) (fun i=>(i:Int)) (fun i _ hi _=>by
   unfold zHu;rw[hl,yE hi,zI,yB (by omega),bs]
   by_cases h:at0 v i=0
   ·rw[sJ h,zJ,zH (by omega) (by omega),bs,cs];grind
   grind) (by
   unfold zHu
   grind)with⟨h1,h2⟩|⟨i,_,hi,h1,h2⟩
 ·grind
 ·rw[show((0:Nat):Int)=0 from rfl]at h1
  rw[h1,bs];obtain⟨k,⟨hk1,fp⟩,eK⟩:=zDa (p:=fun k=>k<n∧at0 v k≠0) ⟨i,hi,h2⟩;have hz:∀j,j<k→at0 v j=0:=by grind
  have hki:k=i:=by
   have ch:∀q,q≤k→zG (zHu v) ((k-q:Nat):Int)=dq (.inr (k:Int)):=by
    intro q
    induction q with
    |zero=>
     intro _;rw[yN];have e:zHu v ((k-0:Nat):Int)=dq (.inr (.inr (k:Int))):=by unfold zHu;rw[show k-0=k from rfl,hl,yE hk1,zI,yB (by omega),bs,qC fp,zI]
     rw[e]
    |succ q ih=>
     intro hq;rw[yN];have e:zHu v ((k-(q+1):Nat):Int)=dq (.inl ((k-q:Nat):Int)):=by unfold zHu;rw[hl,yE (by omega),zI,yB (by omega),bs,sJ (hz _ (by omega)),zJ,zH (by omega) (by omega),bs,cs,show k-(q+1)+1=k-q from by omega]
     grind
   have:=ch k (Jd _)
   grind
  grind
theorem zIS{v:List Int}{n k:Nat}(hl:v.length=n)(hn:n≤1000000)(hk:k<n)(h0:∀j,j<k→at0 v j=0)(h1:at0 v k≠0):f_K v=dq (k:Int):=by grind[zHZ]
theorem zQz{p x:Int}(hp:Prime p)(h0:1≤x)(h1:x≤p-1):∃r,zUd x p=dq r∧0≤r∧r≤p-1∧(x*r)%p=1:=by
 have h7:=hp.pos;have hx:∃k:Nat,1≤k∧(k:Int)<p∧(x*(k:Int))%p=1:=by
  obtain⟨r,_,r1,r2,r3⟩:=zDW hp h0 h1;refine⟨r.toNat,?_,by omega,by grind⟩;rcases Int.lt_or_eq_of_le r1 with g|g
  ·omega
  ·rw[←g]at r3;simp at r3
 obtain⟨k,⟨k1,k2,k3⟩,eK⟩:=zDa hx;have body:∀i:Nat,1≤i→(i:Int)<p→zLd x p (i:Int)=cond ((x*(i:Int))%p==1) (dq (.inr (.inr (i:Int)))) (dq (.inl ((i+1:Nat):Int))):=fun i hi hip=>by
  have a3:=Hn (show 0≤x by omega) (show 0≤(i:Int)by omega);have a4:=zBH hp (k:=(i:Int)) (by omega) (b:=x) ⟨by omega,h1⟩;rw[Kk]at a4;unfold zLd;rw[dx hip,zI,zAD hp (by omega) (by omega),bs,K5 (by omega) (by omega),zH (by omega) (by omega),bs];unfold yO;rw[if_neg (by omega),bs,L2 a3]
  by_cases hh:(x*(i:Int))%p=1
  ·grind
  ·rw[zFf hh,zJ,zJ,zH (by omega) (by omega),bs,cs]
 have ch:∀q,q+1≤k→zG (zLd x p) ((k-q:Nat):Int)=dq (.inr (k:Int)):=by
  intro q
  induction q with
  |zero=>
   intro _;rw[yN,show k-0=k from rfl,body k k1 k2,zAS k3,zI]
  |succ q ih=>
   intro hq;have gf:(x*((k-(q+1):Nat):Int))%p≠1:=by grind
   rw[yN,body _ (by omega) (by omega),zFf gf,zJ,show k-(q+1)+1=k-q from by omega]
   grind
 have:=ch (k-1) (by omega);rw[show k-(k-1)=1 from by omega,show((1:Nat):Int)=1 from rfl]at this
 grind[zUd]
section
variable {p:Int} (hp:Prime p) {n:Nat} (hn:n≤100000)
 include hp hn
theorem zW4{r s:List Int}(hr:Row p n r):uW p n r p s=r:=by
 have _:=hp;have _:=hn
 conv=>rhs;rw[vA hr.1]
 refine yK fun j hj=>?_
 have:=hr.2 j hj;rw[U2];exact K5 this.1 (by omega)
def cl(p:Int)(n:Nat)(out:Mx)(pv:Nat→Nat)(v:List Int):Nat→List Int
 |0=>v
 |i+1=>uW p n (cl p n out pv v i) (p-at0 (cl p n out pv v i) (pv i)) (out.getD i [])
variable {out:Mx}{pv:Nat→Nat} (h:Red p n out pv) {v:List Int} (hv:Row p n v)
 include h hv
theorem zAE:∀i,Row p n (cl p n out pv v i):=by
 have _:=hn;have _:=h;intro i;cases i with
 |zero=>exact hv
 |succ i=>exact zGG hp
theorem zDz:∀i,i≤out.length→ ∀k,k<i→at0 (cl p n out pv v i) (pv k)=0:=by
 have _:=hn;have _:=hv;have h7:=hp.pos;intro i
 induction i with
 |zero=>simp
 |succ i ih=>
  intro hi k hk;have gF:=h.lt k (by omega);rw[cl,uW,zK gF];rcases Jm k i with g|g
  ·have h1:=ih (by omega) k g
   have h2:=h.off k i (by omega) (by omega) (by omega)
   simp_all
  ·have hki:k=i:=by omega
   subst hki;have h2:=h.one k (by omega);simp only[ent]at h2;rw[h2,K7,show at0 (cl p n out pv v k) (pv k)+(p-at0 (cl p n out pv v k) (pv k))=p from by omega,Int.emod_self]
theorem zIT:∀i,i≤out.length→ ∃cf:Nat→Int,∀j,j<n→at0 (cl p n out pv v i) j%p=(at0 v j+S out.length fun k=>cf k*ent out k j)%p:=by
 have _:=hp;have _:=h;have _:=hv;have _:=hn;intro i
 induction i with
 |zero=>intro _;exact⟨fun _=>0,fun j _=>by rw[yC (g:=fun _=>0) (fun i _=>by simp),tF,Lp];rfl⟩
 |succ i ih=>
  intro hi;obtain⟨cf,eH⟩:=ih (by omega);refine⟨fun k=>cf k+(if k=i then p-at0 (cl p n out pv v i) (pv i)else 0),fun j hj=>?_⟩;have e1:(S out.length fun k=>(cf k+(if k=i then p-at0 (cl p n out pv v i) (pv i)else 0))*ent out k j)=(S out.length fun k=>cf k*ent out k j)+(p-at0 (cl p n out pv v i) (pv i))*ent out i j:=by rw[yC (g:=fun k=>cf k*ent out k j+(if k=i then p-at0 (cl p n out pv v i) (pv i)else 0)*ent out k j) (by grind),zAR,vH (f:=fun k=>(if k=i then p-at0 (cl p n out pv v i) (pv i)else 0)*ent out k j) (k:=i) (by omega) (by grind)];simp
  rw[e1,cl,uW,zK hj,Je,←Int.add_assoc,Jv,eH j hj,←Jv]
theorem zLN(hm:out.length≤100000):zUc p out v=dq (cl p n out pv v out.length):=by
 have h7:=hp.pos;unfold zUc;rw[wT (by rw[hv.1];omega),bs];have:=zQ (body:=zLc p out) (r:=cl p n out pv v out.length) (fun i=>(cl p n out pv v i,(i:Int))) out.length (fun i hi=>by
  have hr:=zAE hp hn h hv i;have ho:=h.row i hi;have gF:=h.lt i hi;have gn:=h.one i hi;have eZ:=h.low i hi;simp only[ent]at gn eZ;have he:=hr.2 (pv i) gF;unfold zLc;simp only
  rw[yE hi,zI,zW [] hi,bs,zIS ho.1 (by omega) gF eZ (by omega),bs,hr.1,yE gF,zI,yB (by rw[hr.1];exact gF),bs]
  by_cases hz:at0 (cl p n out pv v i) (pv i)=0
  ·rw[sJ hz,zJ,zH (by omega) (by omega),bs,cs,cl,hz,Gz,zW4 hp hn hr]
  ·rw[qC hz,zI,bs,zH (by omega) (by omega),bs,bs,zCu hp hr ho (by omega) (by omega),bs,zH (by omega) (by omega),bs,cs]
   rfl) (by
  unfold zLc;simp)
 rw[show((0:Nat):Int)=0 from rfl]at this
 grind[cl]
end
end Go.Pl

namespace Go.Pl
open Go Go.Ab Go.Wk Go.Pc
section
variable {p:Int} (hp:Prime p) {n:Nat}{out:Mx}{pv:Nat→Nat} (h:Red p n out pv) {u:List Int}{k q:Nat} (hu:Row p n u) (hk:k<n) (u1:at0 u k=1) (ul:∀j,j<k→at0 u j=0) (up:∀i,i<out.length→at0 u (pv i)=0) (hq:q≤out.length) (q1:∀i,i<q→pv i<k) (q2:∀i,q≤i→i<out.length→k<pv i)
def oth(p:Int)(n:Nat)(out:Mx)(u:List Int)(k i:Nat):List Int:=uW p n (out.getD i []) (p-at0 (out.getD i []) k) u
def tL(p:Int)(n:Nat)(out:Mx)(u:List Int)(k q i:Nat):List Int:=if i<q then oth p n out u k i else if i=q then u else oth p n out u k (i-1)
def zTq(pv:Nat→Nat)(k q i:Nat):Nat:=if i<q then pv i else if i=q then k else pv (i-1)
 include hp h hu hk u1 ul up hq q1 q2
theorem zLO{i j:Nat}(hj:j<n):at0 (oth p n out u k i) j=(at0 (out.getD i []) j-at0 (out.getD i []) k*at0 u j)%p:=by have _:=hp;have _:=h;have _:=hu;have _:=hk;have _:=u1;have _:=ul;have _:=up;have _:=hq;have _:=q1;have _:=q2;rw[oth,uW,zK hj,show at0 (out.getD i []) j+(p-at0 (out.getD i []) k)*at0 u j=at0 (out.getD i []) j-at0 (out.getD i []) k*at0 u j+p*at0 u j from by grind,U2]
theorem zDX{i j:Nat}(hi:i<out.length)(hj:j<n)(hz:at0 (out.getD i []) k=0∨at0 u j=0):at0 (oth p n out u k i) j=ent out i j:=by
 rw[zLO hp h hu hk u1 ul up hq q1 q2 hj];have:=(h.row i hi).2 j hj;have e:at0 (out.getD i []) k*at0 u j=0:=by grind
 rw[e,Gz];exact K5 this.1 (by omega)
theorem zYM{i:Nat}:at0 (oth p n out u k i) k=0:=by rw[zLO hp h hu hk u1 ul up hq q1 q2 hk,u1,K7,Int.sub_self];rfl
theorem zTr{i j:Nat}(hi:i<out.length)(hj:j<pv i)(gf:pv i≠k):at0 (oth p n out u k i) j=0:=by
 have gF:=h.lt i hi;rcases Jm (pv i) k with g|g
 ·rw[zDX hp h hu hk u1 ul up hq q1 q2 hi (by omega) (by grind)];exact h.low i hi j hj
 ·have:=h.low i hi k (by omega)
  rw[zDX hp h hu hk u1 ul up hq q1 q2 hi (by omega) (.inl this)];exact h.low i hi j hj
theorem zYN{i:Nat}(hi:i<out.length):pv i≠k:=by have _:=hp;have _:=h;have _:=hu;have _:=hk;have _:=ul;have _:=hq;have _:=q1;have _:=q2;grind
theorem zIa{i:Nat}(hi:i<out.length+1):(i=q∧tL p n out u k q i=u∧zTq pv k q i=k)∨ ∃a,a<out.length∧(i<q∧a=i∨q<i∧i=a+1)∧tL p n out u k q i=oth p n out u k a∧zTq pv k q i=pv a:=by
 have _:=hp;have _:=h;have _:=hu;have _:=hk;have _:=u1;have _:=ul;have _:=up;have _:=q1;have _:=q2;unfold tL zTq
 grind
theorem zLP:Red p n (mkR (out.length+1) (tL p n out u k q)) (zTq pv k q):=by
 have nc:=fun i hi=>zIa hp h hu hk u1 ul up hq q1 q2 (i:=i) hi
 have pn:=fun i hi=>zYN hp h hu hk u1 ul up hq q1 q2 (i:=i) hi
 refine⟨fun i hi=>?_,fun i hi=>?_,fun i hi=>?_,fun i hi j hj=>?_,fun i j hi hj gf=>?_,fun i j ev hj=>?_⟩<;>rw[tH]at*
 ·rw[kU hi]
  rcases nc i hi with⟨_,e,_⟩|⟨a,_,_,e,_⟩<;>rw[e]
  ·exact hu
  ·exact zGG hp
 ·rcases nc i hi with⟨_,_,e⟩|⟨a,ha,_,_,e⟩<;>rw[e]
  ·exact hk
  ·exact h.lt a ha
 ·rw[zCI hi]
  rcases nc i hi with⟨_,e1,e2⟩|⟨a,ha,_,e1,e2⟩<;>rw[e1,e2]
  ·exact u1
  ·rw[zDX hp h hu hk u1 ul up hq q1 q2 ha (h.lt a ha) (.inr (up a ha))];exact h.one a ha
 ·rw[zCI hi]
  rcases nc i hi with⟨_,e1,e2⟩|⟨a,ha,_,e1,e2⟩<;>rw[e2]at hj<;>rw[e1]
  ·grind
  ·exact zTr hp h hu hk u1 ul up hq q1 q2 ha hj (pn a ha)
 ·rw[zCI hj]
  rcases nc i hi with⟨g1,_,e2⟩|⟨a,ha,ga,_,e2⟩<;>rw[e2]<;>rcases nc j hj with⟨g3,e3,_⟩|⟨b,hb,gb,e3,_⟩<;>rw[e3]
  ·omega
  ·exact zYM hp h hu hk u1 ul up hq q1 q2
  ·grind
  ·rw[zDX hp h hu hk u1 ul up hq q1 q2 hb (h.lt a ha) (.inr (up a ha))]
   exact h.off a b ha hb (by omega)
 ·rcases nc i (by omega)with⟨g1,_,e2⟩|⟨a,ha,ga,_,e2⟩<;>rw[e2]<;>rcases nc j hj with⟨g3,_,e4⟩|⟨b,hb,gb,_,e4⟩<;>rw[e4]
  ·omega
  ·grind
  ·grind
  ·exact h.mono a b (by omega) hb
theorem zO0:(∀i,i<out.length+1→Sp p n (out++[u]) (tL p n out u k q i))∧(∀i,i<out.length→Sp p n (mkR (out.length+1) (tL p n out u k q)) (out.getD i []))∧Sp p n (mkR (out.length+1) (tL p n out u k q)) u:=by
 have cE:Sp p n (out++[u]) u:=by
  have:=vU (p:=p) (n:=n) (R:=out++[u]) (i:=out.length) (by simp)
  grind
 have bo:∀i,i<out.length→Sp p n (out++[u]) (out.getD i []):=fun i hi=>by
  have:=vU (p:=p) (n:=n) (R:=out++[u]) (i:=i) (by simp;omega)
  grind
 have hoth:∀i,i<out.length→Sp p n (out++[u]) (oth p n out u k i):=fun i hi=>
  sC (k:=p-at0 (out.getD i []) k) (bo i hi) cE (by grind[oth,uW,zK,Je])
 have mV:Sp p n (mkR (out.length+1) (tL p n out u k q)) u:=by have:=zBI (p:=p) (n:=n) (m:=out.length+1) (F:=tL p n out u k q) (i:=q) (by omega);rw[show tL p n out u k q q=u from by unfold tL;simp]at this;exact this
 refine⟨fun i hi=>?_,fun i hi=>?_,mV⟩
 ·rcases zIa hp h hu hk u1 ul up hq q1 q2 hi with⟨_,e,_⟩|⟨a,ha,_,e,_⟩<;>rw[e]
  all_goals grind
 ·have fD:∃b,b<out.length+1∧tL p n out u k q b=oth p n out u k i:=by
   rcases Jm i q with g|g
   ·exact⟨i,by omega,by unfold tL;grind⟩
   ·exact⟨i+1,by omega,by unfold tL;grind⟩
  obtain⟨b,hb,e⟩:=fD;have h1:=zBI (p:=p) (n:=n) (m:=out.length+1) (F:=tL p n out u k q) hb;rw[e]at h1;refine sC (k:=at0 (out.getD i []) k) h1 mV fun j hj=>?_
  rw[zLO hp h hu hk u1 ul up hq q1 q2 hj,Jv,Je,←Jv,show at0 (out.getD i []) j-at0 (out.getD i []) k*at0 u j+at0 (out.getD i []) k*at0 u j=at0 (out.getD i []) j from by omega]
theorem zKq(hn:n≤100000)(hm:out.length≤100000){x:Int}:
  ((zG (zHv p (out,x) (k:Int) u) ([],dv,0)).bind fun r32=>cond (!r32.2) ((zU r32.1 [u]).bind fun v33=>dq v33) (dq r32.1))=dq (mkR (out.length+1) (tL p n out u k q)):=by
 have _:=u1;have _:=ul;have _:=up;have h7:=hp.pos;have ho:∀i,i<out.length→zJi p (out.getD i []) (p-at0 (out.getD i []) k) u=dq (oth p n out u k i)∧ixO (out.getD i []) (k:Int)=dq (at0 (out.getD i []) k)∧0≤at0 (out.getD i []) k∧at0 (out.getD i []) k≤p-1∧f_K (out.getD i [])=dq (pv i:Int):=fun i hi=>by have hr:=h.row i hi;have fp:=hr.2 k hk;have gn:=h.one i hi;have eZ:=h.low i hi;simp only[ent]at gn eZ;exact⟨by rw[zCu hp hr hu (by omega) (by omega)];rfl,yB (by rw[hr.1];exact hk),fp.1,fp.2,zIS hr.1 (by omega) (h.lt i hi) eZ (by omega)⟩
 have hsn:∀{m:Nat}{F:Nat→List Int},mkR m F++[F m]=mkR (m+1) F:=by grind[mkR,Kj]
 have:=zQ (body:=zHv p (out,x) (k:Int) u) (r:=(if out.length≤q then(mkR out.length (tL p n out u k q),dv)else(mkR (out.length+1) (tL p n out u k q),du)))
  (fun j=>if j≤q then(mkR j (tL p n out u k q),dv,(j:Int))else(mkR (j+1) (tL p n out u k q),du,(j:Int))) out.length (fun j hj=>by
   obtain⟨a1,a2,a3,a4,a5⟩:=ho j hj;have ao:rng (p-at0 (out.getD j []) k)=dq (p-at0 (out.getD j []) k):=by grind[zH]
   rcases Gy j q with g|g|g
   ·have hpj:=q1 j g
    rw[if_pos (by omega),if_pos (by omega)];unfold zHv;simp only
    rw[yE hj,zI,Jr,zI,zW [] hj];simp only[bs,a5];rw[dw (by omega),zJ,a2];simp only[bs,ao,a1];rw[zR (by rw[tH];simp;omega),bs,zH (by omega) (by omega),bs,cs];have:tL p n out u k q j=oth p n out u k j:=by unfold tL;grind
    grind
   ·subst g
    have hpj:=q2 j (Jd _) hj;rw[if_pos (by omega),if_neg (by omega)];unfold zHv;simp only
    rw[yE hj,zI,Jr,zI,zW [] hj];simp only[bs,a5];rw[dx (by omega),zI,zR (by rw[tH];simp;omega),a2];simp only[bs,ao,a1];have e1:tL p n out u k j j=u:=by unfold tL;simp
    have e2:tL p n out u k j (j+1)=oth p n out u k j:=by unfold tL;grind
    have e3:mkR j (tL p n out u k j)++[u]=mkR (j+1) (tL p n out u k j):=by grind
    rw[e3,zR (by rw[tH];simp;omega),bs,zH (by omega) (by omega),bs,cs,←e2,hsn]
   ·rw[if_neg (by omega),if_neg (by omega)]
    unfold zHv;simp only
    rw[yE hj,zI,J5,zJ,zW [] hj];simp only[bs,a2,ao,a1];have e2:tL p n out u k q (j+1)=oth p n out u k j:=by unfold tL;rw[if_neg (by omega),if_neg (by omega)];rfl
    rw[zR (by rw[tH];simp;omega),bs,zH (by omega) (by omega),bs,cs,←e2,hsn]) (by
   by_cases g:out.length≤q
   ·rw[if_pos g,if_pos g]
    unfold zHv;simp
   ·rw[if_neg g,if_neg g]
    unfold zHv;simp)
 rw[if_pos (Kd _),show((0:Nat):Int)=0 from rfl,show mkR 0 (tL p n out u k q)=[]from rfl]at this;rw[this,bs]
 by_cases g:out.length≤q
 ·have e1:tL p n out u k q out.length=u:=by unfold tL;grind
  rw[if_pos g];simp only
  rw[Jr,zI,zR (by rw[tH];simp;omega),bs]
  grind
 grind
end
end Go.Pl

namespace Go.Pl
open Go Go.Ab Go.Wk Go.Pc
theorem zED{p:Int}{n:Nat}{R out:Mx}{cf:Nat→Int}(ho:∀i,i<out.length→Sp p n R (out.getD i [])){u:List Int}(hu:∀j,j<n→at0 u j%p=(S out.length fun k=>cf k*ent out k j)%p):Sp p n R u:=
 sK ho ⟨cf,by grind⟩
theorem Red.len_le{p:Int}{n:Nat}{R:Mx}{pv:Nat→Nat}(h:Red p n R pv):R.length≤n:=by
 have key:∀i,i<R.length→i≤pv i:=by
  intro i
  induction i with
  |zero=>simp
  |succ i ih=>
   intro hi;have h1:=ih (by omega);have h2:=h.mono i (i+1) (by omega) hi;omega
 rcases Qp R.length with g|g
 ·omega
 ·have h1:=key (R.length-1) (by omega)
  have h2:=h.lt (R.length-1) (by omega);omega
theorem zCJ{xs:Mx}{v:List Int}{i:Nat}(h:i<xs.length):(xs++[v]).getD i []=xs.getD i []:=by grind
theorem zCK{xs:Mx}{v:List Int}:(xs++[v]).getD xs.length []=v:=by simp
section
variable {p:Int} (hp:Prime p) {n:Nat} (hn:n≤100000)
 include hp hn
theorem zLQ{w:List Int}(hw:Row p n w){r:Int}(h0:0≤r)(h1:r≤p-1):zUe p r w=dq (mkv n fun j=>(at0 w j*r)%p):=by
 have h7:=hp.pos;unfold zUe;rw[hw.1,xD (by omega),bs,zCu hp (zW3 (by omega)) hw (by omega) (by omega),bs]
 congr 1
 refine yK fun j hj=>?_
 grind
variable {rows:Mx} (hm:rows.length≤600000) (hr:∀i,i<rows.length→Row p n (rows.getD i []))
 include hm hr
theorem zDY:∃R pv,f_o p rows=dq R∧(Red p n R pv∧R.length≤rows.length)∧tQ p n R rows:=by
 have h7:=hp.pos;unfold f_o;have main:=jQ (body:=zON p rows) (s:=([],0)) (Q:=fun R=> ∃pv,(Red p n R pv∧R.length≤rows.length)∧tQ p n R rows)
  (fun i s=> ∃(out:Mx)(pv:Nat→Nat),s=(out,(i:Int))∧Red p n out pv∧tQ p n out (rows.take i)∧out.length≤i∧i≤rows.length) rows.length (fun i s hi hI=>?_) (fun s hI=>?_) ⟨[],fun _=>0,rfl,Red.empty,by rw[Lz];exact tQ.refl,Kd _,Kd _⟩
 ·obtain⟨R,h1,pv,h2,h3⟩:=main
  rw[h1,bs];exact⟨R,pv,rfl,h2,h3⟩
 ·obtain⟨out,pv,rfl,h,hs,hl,_⟩:=hI
  have hon:out.length≤n:=h.len_le;left;have hv:=hr i hi;have hw:=zAE hp hn h hv out.length;have gJ:=zLN hp hn h hv (by omega);have hpz:=zDz hp hn h hv out.length (Jd _);obtain⟨cf,eH⟩:=zIT hp hn h hv out.length (Jd _);obtain⟨k,k1,k2,k3,k4⟩:=zHZ hw.1 (by omega);have fH:rows.take (i+1)=rows.take i++[rows.getD i []]:=by rw[Kb hi,J4,J7 hi];rfl
  have mr:(rows.take i).length=i:=by rw[Kl];omega
  have eU:∀u,Sp p n (rows.take i) u→Sp p n (rows.take (i+1)) u:=fun u hu=>sK (fun a ha=>by have:=vU (p:=p) (n:=n) (R:=rows.take (i+1)) (i:=a) (by rw[fH,Ji];omega);rw[fH,zCJ ha,←fH]at this;exact this) hu
  have cz:Sp p n (rows.take (i+1)) (rows.getD i []):=by
   have:=vU (p:=p) (n:=n) (R:=rows.take (i+1)) (i:=i) (by rw[fH,Ji,mr];simp);rw[fH]at this;have e:(rows.take i++[rows.getD i []]).getD i []=rows.getD i []:=by have:=zCK (xs:=rows.take i) (v:=rows.getD i []);rw[mr]at this;exact this
   rw[e,←fH]at this;exact this
  by_cases hkn:k=n
  ·
   refine⟨(out,((i+1:Nat):Int)),?_,out,pv,rfl,h,⟨fun a ha=>eU _ (hs.1 a ha),fun a ha=>?_⟩,by omega,by omega⟩
   ·unfold zON
    simp only
    rw[yE hi,zI,zW [] hi];simp only[bs,gJ,k2];rw[hw.1,zAS (by omega),zI,zH (by omega) (by omega),bs,cs]
   ·rw[fH,Ji,mr,Lf]at ha
    rw[fH];rcases Jm a i with g|g
    ·rw[zCJ (by omega)];exact hs.2 a (by omega)
    ·have:a=i:=by omega
     subst this;have e:(rows.take a++[rows.getD a []]).getD a []=rows.getD a []:=by have:=zCK (xs:=rows.take a) (v:=rows.getD a []);rw[mr]at this;exact this
     rw[e];refine zED (out:=out) (cf:=fun q=> -1*cf q) (fun a ha=>vU ha) fun j hj=>?_
     have h1:=eH j hj;rw[k3 j (by omega)]at h1;rw[yC (g:=fun q=> -1*(cf q*ent out q j)) (fun q _=>by rw[K9]),vK];have h2:(at0 (rows.getD a []) j+S out.length fun q=>cf q*ent out q j)%p=0:=by rw[←h1];rfl
     rw[show at0 (rows.getD a []) j=(at0 (rows.getD a []) j+S out.length fun q=>cf q*ent out q j)+ -1*(S out.length fun q=>cf q*ent out q j)from by omega,Jv,h2,Hr,Je]
  ·have hk:k<n:=by omega
   have hwk:=hw.2 k hk;have gf:=k4 hk;obtain⟨r,r1,r2,r3,r4⟩:=zQz hp (x:=at0 (cl p n out pv (rows.getD i []) out.length) k) (by omega) (by omega);have ms:=zLQ hp hn hw r2 r3;have hu:Row p n (mkv n fun j=>(at0 (cl p n out pv (rows.getD i []) out.length) j*r)%p):=⟨zO _ _,fun j hj=>by have e1:=K8 (at0 (cl p n out pv (rows.getD i []) out.length) j*r) (show p≠0 by omega);have e2:=Jx (at0 (cl p n out pv (rows.getD i []) out.length) j*r) (show 0<p by omega);rw[zK hj];omega⟩
   have ua:∀j,j<n→at0 (mkv n fun j=>(at0 (cl p n out pv (rows.getD i []) out.length) j*r)%p) j=(at0 (cl p n out pv (rows.getD i []) out.length) j*r)%p:=fun j hj=>zK hj
   generalize mkv n (fun j=>(at0 (cl p n out pv (rows.getD i []) out.length) j*r)%p)=u at ms hu ua
   have u1:at0 u k=1:=by rw[ua k hk];exact r4
   have ul:∀j,j<k→at0 u j=0:=fun j hj=>by rw[ua j (by omega),k3 j hj];simp
   have up:∀a,a<out.length→at0 u (pv a)=0:=fun a ha=>by rw[ua _ (h.lt a ha),hpz a ha];simp
   obtain⟨q,⟨hq,ay⟩,eK⟩:=zDa (p:=fun q=>q≤out.length∧(q<out.length→k<pv q)) ⟨out.length,Jd _,fun g=>by omega⟩;have q1:∀a,a<q→pv a<k:=fun a ha=>by
    have h1:¬(k<pv a):=fun g=>eK a ha ⟨by omega,fun _=>g⟩
    have h2:pv a≠k:=fun e=>by have:=up a (by omega);rw[e,u1]at this;cases this
    omega
   have q2:∀a,q≤a→a<out.length→k<pv a:=fun a ha ha2=>by
    have h1:=ay (by omega);rcases Jm q a with g|g
    ·have:=h.mono q a g ha2;omega
    ·rw[show a=q from by omega];exact h1
   have eL:=zKq hp h hu hk u1 ul up hq q1 q2 hn (by omega) (x:=(i:Int));have ar:=zLP hp h hu hk u1 ul up hq q1 q2;obtain⟨s1,s2,s3⟩:=zO0 hp h hu hk u1 ul up hq q1 q2;refine⟨(mkR (out.length+1) (tL p n out u k q),((i+1:Nat):Int)),?_,_,_,rfl,ar,⟨fun a ha=>?_,fun a ha=>?_⟩,by rw[tH];omega,by omega⟩
   ·unfold zON
    simp only
    rw[yE hi,zI,zW [] hi];simp only[bs,gJ,k2];rw[hw.1,zFf (by omega),zJ,yB (by rw[hw.1];exact hk)];simp only[bs,r1,ms];cases gY:zG (zHv p (out,(i:Int)) (k:Int) u) ([],dv,0)with
    |none=>rw[gY]at eL;cases eL
    |some r32=>
     rw[gY,bs]at eL;simp only[bs];obtain⟨a1,a2⟩:=r32;cases a2 with
     |true=>
      simp only[J5,zJ]at eL ⊢
      rw[zH (by omega) (by omega),bs,cs,Lw.inj eL]
     |false=>
      simp only[Jr,zI]at eL ⊢
      cases hap:zU a1 [u]with
      |none=>rw[hap]at eL;cases eL
      |some v33=>
       rw[hap,bs]at eL;simp only[bs];rw[zH (by omega) (by omega),bs,cs,Lw.inj eL]
   ·rw[tH]at ha
    rw[kU ha];refine sK (fun b hb=>?_) (s1 a ha);rw[Ji,Lf]at hb;rcases Jm b out.length with g|g
    ·rw[zCJ g];exact eU _ (hs.1 b g)
    ·rw[show b=out.length from by omega,zCK]
     have ac:Sp p n (rows.take (i+1)) (cl p n out pv (rows.getD i []) out.length):=by
      have aX:Sp p n (rows.take (i+1)) (mkv n fun j=>S out.length fun k=>cf k*ent out k j):=zED (out:=out) (cf:=cf) (fun b hb=>eU _ (hs.1 b hb)) fun j hj=>by rw[zK hj]
      refine sC (k:=1) cz aX fun j hj=>?_
      rw[eH j hj,zK hj,Kw]
     refine sC (k:=r) (zCH (u:=[]) fun j _=>by simp[at0]) ac fun j hj=>?_
     rw[ua j hj,Je,show at0 ([]:List Int) j=0 from by simp[at0],Hr,Kk]
   ·rw[fH,Ji,mr,Lf]at ha
    rw[fH];rcases Jm a i with g|g
    ·rw[zCJ (by omega)]
     exact sK s2 (hs.2 a (by omega))
    ·have hai:a=i:=by omega
     subst hai;have e:(rows.take a++[rows.getD a []]).getD a []=rows.getD a []:=by have:=zCK (xs:=rows.take a) (v:=rows.getD a []);rw[mr]at this;exact this
     rw[e];have ac:Sp p n (mkR (out.length+1) (tL p n out u k q)) (cl p n out pv (rows.getD a []) out.length):=by
      refine sC (k:=at0 (cl p n out pv (rows.getD a []) out.length) k) (zCH (u:=[]) fun j _=>by simp[at0]) s3 fun j hj=>?_
      rw[ua j hj,show at0 ([]:List Int) j=0 from by simp[at0],Hr];rw[J6,Je,←J6,←K9,Kk (at0 (cl p n out pv (rows.getD a []) out.length) k),K9,J6,r4,K7,Je]
     have aX:Sp p n (mkR (out.length+1) (tL p n out u k q)) (mkv n fun j=>S out.length fun k=>cf k*ent out k j):=zED (out:=out) (cf:=cf) s2 fun j hj=>by rw[zK hj]
     refine sC (k:=-1) ac aX fun j hj=>?_
     rw[zK hj,Jv,eH j hj,←Jv]
     congr 1;omega
 ·obtain⟨out,pv,rfl,h,hs,hl,_⟩:=hI
  refine⟨out,?_,pv,⟨h,hl⟩,by rw[List.take_length]at hs;exact hs⟩;unfold zON;simp only
  rw[wS,zJ]
theorem zKr:∃R pv,f_o p rows=dq R∧Red p n R pv∧tQ p n R rows:=by grind[zDY]
theorem zAF{R:Mx}{pv:Nat→Nat}(h:Red p n R pv)(hs:tQ p n R rows):R.length≤rows.length:=by have h7:=hp.pos;obtain⟨R',pv',_,h2,h3⟩:=zDY hp hn hm hr;rw[h.unique (by omega) h2.1 (hs.trans h3.symm)];exact h2.2
theorem wG:∃R pv,f_o p rows=dq R∧f_f p rows=dq R∧Red p n R pv∧tQ p n R rows:=by
 have h7:=hp.pos;obtain⟨R,pv,h1,h2,h3⟩:=zKr hp hn hm hr;obtain⟨R',pv',g1,g2,g3⟩:=zKp hp hn hm hr;have e:=h2.unique (by omega) g2 (h3.trans g3.symm)
 grind
end
end Go.Pl

namespace Go.Pl
open Go Go.Ab Go.Wk Go.Pc
theorem xS{β:Type}{body:List β×Int→Option ((List β×Int)⊕List β)}(n:Nat)(F:Nat→β)(h:∀i acc,i<n→acc.length=i→body (acc,(i:Int))=dq (.inl (acc++[F i],((i+1:Nat):Int))))(he:∀acc,body (acc,(n:Int))=dq (.inr acc)):
  zG body ([],0)=dq ((Jf n).map F):=by
 have:=zQ (body:=body) (r:=(Jf n).map F) (fun i=>((Jf i).map F,(i:Int))) n (by grind[Kj]) (he _);exact this
theorem zIU{p:Int}{L:Nat}{v:List Int}:Row p L v↔v.length=L∧ ∀a∈v,0≤a∧a≤p-1:=by
 constructor
 ·rintro⟨h1,h2⟩
  refine⟨h1,fun a ha=>?_⟩;obtain⟨i,hi,rfl⟩:=Js.1 ha
  grind
 ·rintro⟨h1,h2⟩
  refine⟨h1,fun i hi=>?_⟩
  simp_all
def uD(D k:Nat):List Int:=mkv D fun j=>if j=k then 1 else 0
theorem zEE{p:Int}{D k:Nat}(hp:2≤p):Row p D (uD D k):=⟨zO _ _,by grind[uD,zK]⟩
theorem zFp{D k:Nat}(hk:k<D)(hD:D≤1000000):zMo (D:Int) (k:Int)=dq (uD D k):=by grind[zMo,xD,yB,qJ,kQ,uD]
section
variable {n D:Nat}{m:zC} (hm:MOk n m D) (hn:n≤14)
 include hm hn
def inn(m:zC)(n D:Nat)(v:List Int):Mx:=(Jf n).map fun i=>uW m.Prime D (yL m.Prime D v (m.zB.getD i [])) (-1) v
def zGH(m:zC)(n D:Nat):Mx:=(Jf D).map fun k=>(inn m n D (uD D k)).flatten
end
end Go.Pl

namespace Go.Pl
open Go Go.Ab Go.Wk Go.Pc
abbrev gl{β:Type}(m:Nat)(F:Nat→β):List β:=(Jf m).map F
theorem yG{β:Type}{m:Nat}{F:Nat→β}:(gl m F).length=m:=by simp[gl]
theorem zB2{β:Type}{m:Nat}{F:Nat→β}{i:Nat}(h:i<m):ixO (gl m F) (i:Int)=dq (F i):=by rw[zAu (by grind)];simp[gl]
theorem zKs{β:Type}{m:Nat}{F G:Nat→β}(h:∀i,i<m→F i=G i):gl m F=gl m G:=by grind[Lt]
theorem zLR{β:Type}{m:Nat}{F:Nat→β}{i:Nat}{a:β}:(gl m F).set i a=gl m (fun k=>if k=i then a else F k):=by
 apply Kt
 grind
theorem kV{β:Type}{m:Nat}{F:Nat→β}:gl m F++[F m]=gl (m+1) F:=by simp[gl,Kj]
end Go.Pl

namespace Go.Pl
open Go Go.Ab Go.Wk Go.Pc
end Go.Pl

namespace Go.Pl
open Go Go.Ab Go.Wk Go.Pc
theorem zIb{α:Type}{c:α→Nat}{b:Nat}:∀{xs:List α},(∀x∈xs,c x≤b)→sm c xs≤xs.length*b
 | [],_=>by simp[sm]
 |x::xs,h=>by
  have h1:=zIb (xs:=xs) fun y hy=>h y (by simp[hy])
  grind[sm,Kx]
end Go.Pl

namespace Go.Pl
open Go Go.Ab Go.Wk Go.Pc
end Go.Pl

namespace Go.Pl
open Go Go.Ab Go.Wk Go.Pc
def mvr(p:Int)(D:Nat)(A:Mx)(k:Nat):List Int:=mkv D fun j=>if j=k then(ent A k k-1)%p else ent A k j
def mvd(p:Int)(D:Nat)(A:Mx):Mx:=gl D (mvr p D A)
def mvS(p:Int)(D:Nat)(A:Mx)(i:Nat):Mx:=gl D fun k=>if k<i then mvr p D A k else A.getD k []
theorem qD{xs:Mx}(h:xs.length≤100000)(hl:∀i,i<xs.length→(xs.getD i []).length≤1000000):f_N xs=dq xs:=by
 unfold f_N;rw[xS (body:=zOS xs) xs.length (fun i=>xs.getD i []) (fun i acc hi ha=>by
  unfold zOS;simp only
  rw[yE hi,zI,zW [] hi,bs,wT (hl i hi),bs,zR (by simp;omega),bs,zH (by omega) (by omega),bs,cs]) (fun acc=>by
  unfold zOS;simp),bs]
 congr 1
 exact(zIR rfl).symm
section
variable {p:Int} (hp:Prime p) {D:Nat} (hD:D≤3) {A:Mx} (hA:Mat p D A)
 include hp hD hA
theorem zNu{k:Nat}(hk:k<D):Row p D (mvr p D A k):=by
 have h7:=hp.pos;have _:=hD;refine⟨zO _ _,fun j hj=>?_⟩;rw[mvr,zK hj];split
 ·have e1:=K8 (ent A k k-1) (show p≠0 by omega)
  have e2:=Jx (ent A k k-1) (show 0<p by omega);omega
 ·exact(hA.2 k hk).2 j hj
theorem zNv{k:Nat}(hk:k<D):(A.getD k []).set k ((ent A k k-1)%p)=mvr p D A k:=by
 have _:=hp;have _:=hD
 conv=>lhs;rw[vA (hA.2 k hk).1]
 rw[kQ];rfl
theorem zKt:mvS p D A 0=A:=by
 have _:=hp;have _:=hD;have e:=zIR hA.1
 conv=>rhs;rw[e]
 rfl
theorem zKu:mvS p D A D=mvd p D A:=by have _:=hp;have _:=hD;have _:=hA;exact zKs fun k hk=>if_pos hk
theorem zNw{i:Nat}:(mvS p D A i).set i (mvr p D A i)=mvS p D A (i+1):=by
 have _:=hp;have _:=hD;have _:=hA;rw[mvS,zLR];refine zKs fun k _=>?_
 grind
theorem zGI:zRL p A=dq (mvd p D A):=by
 have h7:=hp.pos;have:=zQ (body:=zLi p) (r:=mvd p D A) (fun i=>(mvS p D A i,(i:Int))) D (fun i hi=>by
  have hr:=(hA.2 i hi).2 i hi;unfold zLi;simp only
  rw[show(mvS p D A i).length=D from yG,yE hi,zI,mvS,zB2 hi,bs,bs,if_neg (by omega),yB (by rw[(hA.2 i hi).1];exact hi),bs,zH (by omega) (by omega),bs,zAD hp (by omega) (by omega),bs,bs,zH (by omega) (by omega),bs,cs,J9,zNv hp hD hA hi];exact congrArg (fun z=>dq (Sum.inl (z,((i+1:Nat):Int)))) (zNw hp hD hA)) (by
  unfold zLi;simp only
  rw[show(mvS p D A D).length=D from yG,wS,zJ,zKu hp hD hA])
 rw[zKt hp hD hA]at this;unfold zRL;rw[qD (by rw[hA.1];omega) (fun i hi=>by rw[hA.1]at hi;rw[(hA.2 i hi).1];omega),bs]
 grind
theorem zGJ{m:zC}{i:Nat}(hm:m.Prime=p)(hi:ixO m.zB (i:Int)=dq A):zRN m (i:Int)=dq (mvd p D A):=by
 have h7:=hp.pos;have:=zQ (body:=zLj m A) (r:=mvd p D A) (fun i=>(mvS p D A i,(i:Int))) D (fun i hi=>by
  have hr:=(hA.2 i hi).2 i hi;unfold zLj;simp only
  rw[hA.1,yE hi,zI,mvS,zB2 hi,bs,if_neg (by omega),yB (by rw[(hA.2 i hi).1];exact hi),bs,zH (by omega) (by omega),bs,hm,zFe hp (by omega) (by omega),bs,bs,zH (by omega) (by omega),bs,cs,J9,zNv hp hD hA hi];exact congrArg (fun z=>dq (Sum.inl (z,((i+1:Nat):Int)))) (zNw hp hD hA)) (by
  unfold zLj;simp only
  rw[hA.1,wS,zJ,zKu hp hD hA])
 rw[zKt hp hD hA]at this;unfold zRN;rw[hi,bs,zDf (by rw[hA.1];omega) (fun i hi=>by rw[hA.1]at hi;rw[(hA.2 i hi).1];omega),bs]
 grind
theorem zQ0{r:List Int}{M:Mx}(hM:∀k,k<D→Sp p D M (mvr p D A k))(hr:Sp p D M r):Sp p D M (yL p D r A):=by
 have _:=hp;have _:=hD;have _:=hA;have hs:Sp p D M (mkv D fun j=>S D fun l=>at0 r l*ent (mvd p D A) l j):=by
  refine sK (R:=mvd p D A) (fun i hi=>?_) ⟨at0 r,fun j hj=>?_⟩
  all_goals grind[mvd,zK]
 refine sC (k:=1) hr hs fun j hj=>?_
 rw[yL,zK hj,zK hj,Je,Kw];have key:(S D fun l=>at0 r l*ent A l j)%p=(S D fun l=>(if l=j then at0 r l else 0)+at0 r l*ent (mvd p D A) l j)%p:=by
  refine wY fun l hl=>?_
  have e:ent (mvd p D A) l j=if j=l then(ent A l l-1)%p else ent A l j:=by rw[mvd,show gl D (mvr p D A)=mkR D (mvr p D A)from rfl,zCI hl,mvr,zK hj]
  rw[e]
  by_cases h:l=j
  ·subst h
   rw[if_pos rfl,if_pos rfl];have h1:(at0 r l*((ent A l l-1)%p))%p=(at0 r l*(ent A l l-1))%p:=by grind[J6,Je]
   conv=>rhs;rw[Jv,h1,←Jv]
   grind
  grind
 rw[key,zAR,vH (k:=j) hj (by omega),if_pos rfl]
end
theorem zDZ{p:Int}(hp:Prime p){D:Nat}(hD:D≤3){A B:Mx}(hl:A.length≤1000)(hA:∀i,i<A.length→Row p D (A.getD i []))(hB:Mat p D B):f_E p A B (D:Int)=dq (PM p D A B):=by
 unfold f_E;have:=zQ (body:=zHq p A B (D:Int)) (r:=PM p D A B) (fun i=>((PM p D A B).take i,(i:Int))) A.length (fun i hi=>by
  unfold zHq;simp only
  rw[yE hi,zI,zW [] (by omega),bs,zGA hp (by omega) (hA i hi) hB,bs,zR (by rw[Kl,yU];simp;omega),bs,zH (by omega) (by omega),bs,cs,zCE hp (by omega) (by omega)]) (by
  unfold zHq;simp only
  rw[wS,zJ,Jn (by grind[yU])])
 grind
theorem zAG{p:Int}{n:Nat}{R:Mx}{v:List Int}(h:v∈R):Sp p n R v:=by
 obtain⟨i,hi,rfl⟩:=Js.1 h;have:=vU (p:=p) (n:=n) hi
 grind
theorem zB3{R:Mx}{i:Nat}(hi:i<R.length):R.getD i []∈R:=by grind
section
variable {n D:Nat}{m:zC} (hm:MOk n m D) (hn:n≤14)
 include hm hn
def mvA(m:zC)(D:Nat):Nat→Mx
 |0=>[]
 |i+1=>mvA m D i++mvd m.Prime D (m.zB.getD i [])
theorem zF4:∀i,(mvA m D i).length=i*D
 |0=>by have _:=hm;have _:=hn;simp[mvA]
 |i+1=>by rw[mvA,Ji,zF4 i,mvd,yG,Kx]
theorem zNx:∀i,i≤n→ ∀r∈mvA m D i,Row m.Prime D r
 |0,_,r,hr=>by have _:=hn;grind[mvA]
 |i+1,hi,r,hr=>by
  rw[mvA,K6]at hr;rcases hr with h|h
  ·exact zNx i (by omega) r h
  ·obtain⟨k,hk,rfl⟩:=Ja.1 h
   exact zNu hm.p hm.d3 (hm.mat i (by omega)) (Jp.1 hk)
theorem zF5{i k:Nat}(hi:i<n)(hk:k<D):∀j,i<j→mvr m.Prime D (m.zB.getD i []) k∈mvA m D j
 |0,h=>by have _:=hm;have _:=hn;omega
 |j+1,h=>by
  rw[mvA,K6]
  by_cases e:i=j
  ·subst e;exact .inr (Ja.2 (by grind))
  ·exact .inl (zF5 hi hk j (by omega))
def spA(m:zC)(D:Nat)(R:Mx):Nat→Mx
 |0=>R
 |i+1=>spA m D R i++PM m.Prime D R (m.zB.getD i [])
theorem zEa{R:Mx}:∀i,(spA m D R i).length=R.length+i*R.length
 |0=>by have _:=hm;have _:=hn;simp[spA]
 |i+1=>by rw[spA,Ji,zEa i,yU,Kx];omega
theorem zEb{R:Mx}{P:List Int→Prop}(h0:∀r∈R,P r)(h1:∀r∈R,∀i,i<n→P (yL m.Prime D r (m.zB.getD i []))):∀i,i≤n→ ∀r∈spA m D R i,P r
 |0,_,r,hr=>by have _:=hm;have _:=hn;exact h0 r hr
 |i+1,hi,r,hr=>by
  rw[spA,K6]at hr;rcases hr with h|h
  ·exact zEb h0 h1 i (by omega) r h
  ·obtain⟨s,hs,rfl⟩:=Ja.1 h
   grind
theorem zLS{R:Mx}:∀i,∀r∈R,r∈spA m D R i
 |0,_,h=>by have _:=hm;have _:=hn;exact h
 |i+1,r,h=>by rw[spA,K6];exact .inl (zLS i r h)
theorem zO1{M R:Mx}{pv:Nat→Nat}(hM:M=mvA m D n)(hR:Red m.Prime D R pv)(hs:tQ m.Prime D R M)(hr:f_o m.Prime M=dq R):f_B m M=dq R:=by
 have h7:=hm.p.pos;have h3:=hm.d3;have pK:R.length≤D:=hR.len_le;have hH:∀r∈R,Row m.Prime D r:=fun r h=>by
  obtain⟨i,hi,rfl⟩:=Js.1 h;have:=hR.row i hi
  grind
 have gM:(zG (zHw m R) (R,0))=dq (spA m D R n):=by
  have:=zQ (body:=zHw m R) (r:=spA m D R n) (fun i=>(spA m D R i,(i:Int))) n (fun i hi=>by
   have hl:=zEa hm hn (R:=R) i;have cW:i*R.length≤14*3:=Jj (by omega) (by omega);unfold zHw;simp only
   rw[hm.len,yE hi,zI,zW [] (by rw[hm.len];exact hi),bs,hm.d,zDZ hm.p h3 (by omega) hR.row (hm.mat i hi),bs,zR (by rw[hl,yU];omega),bs,zH (by omega) (by omega),bs,cs];rfl) (by
   unfold zHw;simp only
   rw[hm.len,wS,zJ])
  exact this
 have hl:=zEa hm hn (R:=R) n;have cW:n*R.length≤14*3:=Jj (by omega) (by omega);have ba:=zEb hm hn (R:=R) (P:=Row m.Prime D) hH (by grind[uK]) n (Jd _);obtain⟨R2,pv2,g1,_,g3,g4⟩:=wG hm.p (n:=D) (by omega) (rows:=spA m D R n) (by omega) (by grind);have ck:∀r∈spA m D R n,Sp m.Prime D R r:=zEb hm hn (R:=R) (P:=Sp m.Prime D R) (fun r h=>zAG h) (fun r h i hi=>by
  have hrM:Sp m.Prime D M r:=hs.iff.1 (zAG h);refine hs.iff.2 (zQ0 hm.p h3 (hm.mat i hi) (fun k hk=>?_) hrM)
  grind[zAG,zF5]) n (Jd _)
 have hse:tQ m.Prime D R2 R:=g4.trans ⟨by grind,by grind[zAG,zLS]⟩;have hu:R2=R:=g3.unique (by omega) hR hse;subst hu;unfold f_B;rw[hr,bs,yN];unfold zOT;rw[qD (by omega) (fun i hi=>by rw[(hR.row i hi).1];omega),bs,gM,bs,g1,bs];simp
end
end Go.Pl

namespace Go.Pl
open Go Go.Ab Go.Wk Go.Pc
end Go.Pl

namespace Go.Pl
open Go Go.Ab Go.Wk Go.Pc
theorem zLT{v:List Int}{k:Nat}(hl:v.length≤1000000)(hk:k<v.length)(h0:∀j,j<k→at0 v j=0)(h1:at0 v k≠0):zUm v=dq (k:Int):=by
 unfold zUm;have:=zQ (body:=zLg v) (r:=.inr (k:Int)) (fun i=>(i:Int)) k (fun i hi=>by
  unfold zLg zUl;rw[yE (by omega),zI,yB (by omega),bs,bs,h0 i hi,bne_self_eq_false,zJ,zH (by omega) (by omega),bs,cs]) (by
  unfold zLg zUl;rw[yE hk,zI,yB hk,bs,bs,qC h1,zI])
 grind
section
variable {p:Int} (hp:Prime p) {n:Nat} (hn:n≤100000) {R:Mx}{pv:Nat→Nat} (h:Red p n R pv) {v:List Int} (hv:Row p n v)
 include hp hn h
theorem zCv(hm:R.length≤100000):zOV R=dq (gl R.length fun i=>(pv i:Int)):=by
 have h7:=hp.pos;unfold zOV;rw[xS (body:=zLh R) R.length (fun i=>(pv i:Int)) (fun i acc hi ha=>by
  have hr:=h.row i hi;have h1:=h.one i hi;unfold zLh;simp only
  rw[yE hi,zI,zW [] hi,bs,zLT (k:=pv i) (by rw[hr.1];omega) (by grind) (fun j hj=>h.low i hi j hj) (by grind),bs,zR (by simp;omega),bs,zH (by omega) (by omega),bs,cs]) (fun acc=>by
  unfold zLh;simp),bs]
 include hv
theorem zW5{i:Nat}(hi:i<R.length):uW p n (cl p n R pv v i) (0-at0 (cl p n R pv v i) (pv i)) (R.getD i [])=cl p n R pv v (i+1):=by
 have _:=hp;have _:=hn;have _:=h;have _:=hv;have _:=hi;rw[cl];refine yK fun j _=>?_
 generalize at0 (cl p n R pv v i) (pv i)=a
 generalize at0 (R.getD i []) j=b
 rw[Int.sub_mul,Int.sub_mul,Ld];have e:at0 (cl p n R pv v i) j+(p*b-a*b)=at0 (cl p n R pv v i) j+(0-a*b)+p*b:=by omega
 simp_all
theorem zCw{c:Int}(hm:R.length≤100000):zRI (zF.mk p c R) v=dq (cl p n R pv v R.length):=by
 have h7:=hp.pos;have:=zQ (body:=zIn (zF.mk p c R) (gl R.length fun i=>(pv i:Int))) (r:=cl p n R pv v R.length) (fun i=>(cl p n R pv v i,(i:Int))) R.length (fun i hi=>by
  have hr:=zAE hp hn h hv i;have ha:=hr.2 (pv i) (h.lt i hi);unfold zIn;simp only
  rw[yG,yE hi,zI,zB2 hi,bs,zW [] hi,bs,yB (by rw[hr.1];exact h.lt i hi),bs,zH (by omega) (by omega),bs,zCG hp hr (h.row i hi) (by omega) (by omega),bs,zH (by omega) (by omega),bs,cs,zW5 hp hn h hv hi]) (by
  unfold zIn;simp)
 unfold zRI;rw[zDy (by rw[hv.1];omega),bs];simp only
 rw[zCv hp hn h hm,bs];have e:zG (zIn (zF.mk p c R) (gl R.length fun i=>(pv i:Int))) (v,0)=dq (cl p n R pv v R.length):=this;rw[e,bs]
theorem zTs:(∀j,j<n→at0 (cl p n R pv v R.length) j=0)↔Sp p n R v:=by
 have h7:=hp.pos;obtain⟨cf,eH⟩:=zIT hp hn h hv R.length (Jd _);have hr:=zAE hp hn h hv R.length;have hs:Sp p n R (mkv n fun j=>S R.length fun k=>cf k*ent R k j):=⟨cf,by grind[zK]⟩;constructor
 ·intro h0
  refine sC (v:=mkv n fun _=>0) (w:=mkv n fun j=>S R.length fun k=>cf k*ent R k j) (k:=-1) (zCH fun j hj=>by rw[zK hj];rfl) hs fun j hj=>?_
  have h1:=eH j hj;rw[h0 j hj]at h1;rw[zK hj,zK hj]
  generalize (S R.length fun k=>cf k*ent R k j)=s at h1 ⊢
  have h2:(at0 v j+s)%p=0:=by rw[←h1];rfl
  have h3:(at0 v j-(0+ -1*s))%p=0:=by grind
  exact Jo.2 h3
 ·intro cJ j hj
  have h1:Sp p n R (cl p n R pv v R.length):=sC (k:=1) cJ hs fun j hj=>by rw[eH j hj,zK hj,Kw]
  have h2:=h.expand h1 j hj;rw[yC (g:=fun _=>0) (fun i hi=>by rw[zDz hp hn h hv R.length (Jd _) i hi,Ld]),tF]at h2;have h3:=hr.2 j hj;rw[K5 h3.1 (by omega)]at h2;rw[h2];rfl
end
end Go.Pl

namespace Go.Pl
open Go Go.Ab Go.Wk Go.Pc
section
variable {p:Int} (hp:1<p) {n:Nat}{R R':Mx}{pv pv':Nat→Nat} (h:Red p n R pv) (h':Red p n R' pv') (hs:∀i,i<R.length→Sp p n R' (R.getD i []))
 include hp h h' hs
theorem Red.lt_of{i i2 k k2:Nat}(hii:i<i2)(fD:i2<R.length)(hk:k<R'.length)(e:pv' k=pv i)(e2:pv' k2=pv i2):k<k2:=by
 have _:=hp;have _:=hs;have h1:=h.mono i i2 hii fD;refine Classical.byContradiction fun hn=>?_
 rcases Jm k2 k with g|g
 ·have:=h'.mono k2 k g hk;omega
 grind
theorem Red.low_in:∀i,i<R.length→ ∃k,k<R'.length∧pv' k=pv i∧i≤k:=by
 intro i
 induction i with
 |zero=>intro hi;obtain⟨k,hk,e⟩:=h.piv_in hp h' hs hi;grind
 |succ i ih=>
  intro hi;obtain⟨k,hk,e,hik⟩:=ih (by omega);obtain⟨k2,fp,e2⟩:=h.piv_in hp h' hs hi;have:=h.lt_of hp h' hs (by simp) hi hk e e2
  grind
theorem Red.high_in:∀d i,i+d+1=R.length→ ∃k,k+d<R'.length∧pv' k=pv i:=by
 intro d
 induction d with
 |zero=>intro i hi;obtain⟨k,hk,e⟩:=h.piv_in hp h' hs (i:=i) (by omega);grind
 |succ d ih=>
  intro i hi;obtain⟨k2,fp,e2⟩:=ih (i+1) (by omega);obtain⟨k,hk,e⟩:=h.piv_in hp h' hs (i:=i) (by omega);have:=h.lt_of hp h' hs (by simp) (by omega) hk e e2
  grind
theorem Red.le_of:R.length≤R'.length:=by
 rcases Qp R.length with g|g
 ·omega
 ·obtain⟨k,hk,_,hik⟩:=h.low_in hp h' hs (R.length-1) (by omega)
  omega
theorem Red.eq_of(hl:R.length=R'.length):R=R':=by
 have hpv:∀i,i<R.length→pv' i=pv i:=fun i hi=>by
  obtain⟨k,hk,e,hik⟩:=h.low_in hp h' hs i hi;obtain⟨k2,fp,e2⟩:=h.high_in hp h' hs (R.length-1-i) i (by omega);have h1:k2≤i:=by omega
  rcases Jm k2 k with g|g
  ·have:=h'.mono k2 k g hk;omega
  grind
 refine zBG (D:=R.length) rfl hl.symm fun i hi=>?_
 have hZ:i<R'.length:=by omega
 have r1:=h.row i hi;have r2:=h'.row i hZ;rw[vA r1.1,vA r2.1];refine yK fun j hj=>?_
 have h1:=h'.expand (hs i hi) j hj;rw[vH (k:=i) hZ (fun k hk gf=>by
  have h3:=h.off k i (by omega) hi (Ne.symm gf)
  grind)]at h1
 have h4:=h.one i hi;simp only[ent]at h4;rw[hpv i hi,h4,Kw]at h1;have b1:=r1.2 j hj;have b2:=r2.2 j hj;simp only[ent]at h1
 rwa [K5 b1.1 (by omega),K5 b2.1 (by omega)]at h1
end
end Go.Pl
