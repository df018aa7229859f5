/- x -/
import Derived.Test.YtchnmobojdcikaaGreatAbB
import Derived.Test.YtchnmobojdcikaaGreatWF
open List renaming replicate→J1,getD_eq_getElem?_getD→J4,getElem?_eq_getElem→J6,length_append→J7,getElem?_eq_some_iff→J9,mem_map→Je,getElem?_append_right→Jf,length_map→Jg,append_nil→Jh,append_assoc→Ji,length_cons→Jj,map_cons→Jl,getElem?_map→Jm,range→Jn,getElem?_replicate→Jp,mem_cons→Jq,take_of_length_le→Jt,mem_append→Jv,take_succ_eq_append_getElem→Jw,mem_range→Jx,nil_append→K6,mem_iff_getElem→K8,range_succ→K9,getElem?_append→Kd,getElem?_append_left→Kg,getElem_mem→Kj,length_replicate→Kk,replicate_append_replicate→Ko,replicate_succ→Kt,length_drop→Kv,take_zero→L4,length_take→L5,ext_getElem?→L9,getElem?_drop→La,set_cons_zero→Lf,take_succ_cons→Lj,singleton_append→H0,map_append→H1,range'_succ→Hi,drop_zero→Hu,cons_append→Hv,map_nil→Hw,length_range→Hz,map_congr_left→G4,mem_flatMap→G6,range'→G7,drop_eq_getElem_cons→Ga,drop_of_length_le→Gl,all_cons→Gw,getElem?_set_ne→U2,length_nil→U5,mem_flatten→Uc,getElem?_cons_zero→Ul,range_succ_eq_map→Us,length→Uz,suffix_cons_iff→Q4,replicate_zero→Qc,getD_cons_zero→Qd,findSome?_cons→Qe,foldl_append→Qq,replicate_succ'→Qw,set_append_right→Ja6,getElem?_set→Ja7,flatten_cons→Ja8,getElem?_cons_succ→Jan,flatMap_append→Jao
open Bool renaming and_eq_true→J2,not_true→J3,not_false→Jo
open Int renaming toNat_natCast→J8,mul_emod→Jk,emod_eq_of_lt→Jr,emod_emod→Ju,emod_lt_of_pos→K4,add_emod→K5,tmod_eq_emod_of_nonneg→Kb,emod_nonneg→Ke,one_mul→Kl,tdiv_eq_ediv_of_nonneg→Kq,mul_one→Ku,mul_le_mul→L0,add_zero→Lb,mul_le_mul_of_nonneg_left→Li,zero_add→Lo,mul_zero→Lp,emod_add_emod→Lq,mul_comm→Hd,toNat_zero→Hj,mul_assoc→Gb,sub_emod_right→Gp,mul_nonneg→Gv,zero_mul→Gx,emod_self→U6,tmod_lt_of_pos→U8,add_emod_right→U9,zero_emod→Ui,dvd_of_emod_eq_zero→Uu,tmod_add_mul_tdiv→Q8,add_mul_emod_self_left→Q9,lt_tmod_of_pos→Qr,mul_add→Ja2,tmod→Ja9,le_refl→Jaz
open Nat renaming zero_add→Ja,le_refl→Jd,lt_or_ge→Js,zero_le→Kc,sub_self→L3,succ_mul→L8,min_eq_left→H4,lt_trichotomy→H5,le_trans→Ht,strongRecOn→G5,sub_zero→Uv,mul_comm→Uw,lt_irrefl→Ja4,le_mul_of_pos_right→Jah,zero_sub→Jal,add_zero→Jam
open Option renaming map_eq_some_iff→K0,some→Lh,getD_some→H7,map_some→Hh,isSome_iff_exists→Hk
open Option renaming some→dS,none→dT
open Bool renaming true→dU,false→dV
namespace Go.Pc
abbrev Vec:=List Int
structure Lvl where
 o:Int
 w:Vec
 cs:List Vec
abbrev Pcp:=List Lvl
def zeros(n:Nat):Vec:=J1 n 0
def iter{α:Type}:Nat→(α→α)→α→α
 |0,_,x=>x
 |n+1,f,x=>iter n f (f x)
theorem vS{α:Type}(f:α→α):∀(n:Nat)(x:α),iter (n+1) f x=f (iter n f x)
 |0,_=>rfl
 |n+1,x=>by rw[iter,vS f n (f x)];rfl
theorem zEL{α:Type}(f:α→α)(a:Nat):∀(b:Nat)(x:α),iter (a+b) f x=iter a f (iter b f x)
 |0,_=>rfl
 |b+1,x=>by show iter (a+b) f (f x)=_;rw[zEL f a b (f x)];rfl
def img{α:Type}(m:α→α→α):List α→Vec→α→α
 |c::cs,x::xs,acc=>img m cs xs (iter x.toNat (fun v=>m v c) acc)
 |_,_,acc=>acc
def V:Pcp→Vec→Prop
 | [],v=>v=[]
 |l::P,v=>match v with
  | []=>False
  |a::x=>(0≤a∧a<l.o)∧V P x
def mul:Pcp→Vec→Vec→Vec
 |l::P,a::x,b::y=>
  let r:=mul P (iter b.toNat (fun v=>img (mul P) l.cs v (zeros P.length)) x) y
  if a+b≥l.o then(a+b-l.o)::mul P l.w r else(a+b)::r
 |_,_,_=>[]
def Ok:Pcp→Prop
 | []=>True
 |l::P=>1<l.o∧V P l.w∧l.cs.length=P.length∧(∀c∈l.cs,V P c)∧Ok P
structure Mon {α:Type} (S:α→Prop) (m:α→α→α) (e:α):Prop where
 cl:∀{a b},S a→S b→S (m a b)
 ein:S e
 assoc:∀{a b c},S a→S b→S c→m (m a b) c=m a (m b c)
 onel:∀{a},S a→m e a=a
 oner:∀{a},S a→m a e=a
structure Grp {α:Type} (S:α→Prop) (m:α→α→α) (e:α):Prop extends Mon S m e where
 inv:∀{a},S a→ ∃b,S b∧m a b=e
theorem Grp.invl{α:Type}{S:α→Prop}{m:α→α→α}{e:α}(h:Grp S m e){a:α}(ha:S a):∃b,S b∧m a b=e∧m b a=e:=by
 obtain⟨b,hb,h1⟩:=h.inv ha;obtain⟨c,hc,h2⟩:=h.inv hb;refine⟨b,hb,h1,?_⟩;have:a=c:=by rw[←h.oner ha,←h2,←h.assoc ha hb hc,h1,h.onel hc]
 grind
theorem Grp.cancel_l{α:Type}{S:α→Prop}{m:α→α→α}{e:α}(h:Grp S m e){a b c:α}(ha:S a)(hb:S b)(hc:S c)(hh:m a b=m a c):b=c:=by obtain⟨d,hd,_,h2⟩:=h.invl ha;rw[←h.onel hb,←h.onel hc,←h2,h.assoc hd ha hb,h.assoc hd ha hc,hh]
section
variable {α:Type}{S:α→Prop}{m:α→α→α}{e:α}
def pw(m:α→α→α)(e:α)(x:α)(k:Nat):α:=iter k (fun v=>m v x) e
theorem wZ(h:Mon S m e){x:α}(hx:S x):∀k,S (pw m e x k)
 |0=>h.ein
 |k+1=>by rw[pw,vS];exact h.cl (wZ h hx k) hx
theorem sW{f:α→α}(hf:∀a,S a→S (f a)):∀(k:Nat){x:α},S x→S (iter k f x)
 |0,_,hx=>hx
 |k+1,_,hx=>sW hf k (hf _ hx)
theorem zEM(h:Mon S m e){x a:α}(hx:S x)(ha:S a):∀k,iter k (fun v=>m v x) a=m a (pw m e x k)
 |0=>(h.oner ha).symm
 |k+1=>by rw[vS,zEM h hx ha k];show _=m a (iter (k+1) (fun v=>m v x) e);rw[vS];exact h.assoc ha (wZ h hx k) hx
theorem zB2(h:Mon S m e){x:α}(hx:S x)(a b:Nat):pw m e x (a+b)=m (pw m e x a) (pw m e x b):=by rw[Nat.add_comm,pw,zEL,←zEM h hx (wZ h hx a) b];rfl
theorem zKt(h:Mon S m e){x:α}(hx:S x):pw m e x 1=x:=h.onel hx
theorem zS9(h:Mon S m e){x:α}(hx:S x)(k:Nat):pw m e x (k+1)=m x (pw m e x k):=by rw[Nat.add_comm,zB2 h hx 1 k,zKt h hx]
theorem zAF(h:∀{a b},S a→S b→S (m a b)):∀(cs:List α)(x:Vec){a:α},(∀c∈cs,S c)→S a→S (img m cs x a)
 |c::cs,x::xs,_,hc,ha=>by simp only[img];exact zAF h cs xs (by grind) (sW (by simp_all) _ ha)
 | [],_,_,_,ha=>by grind[img]
 |_::_,[],_,_,ha=>by grind[img]
theorem zFA(h:Mon S m e)(cs:List α)(x:Vec){a:α}(hc:∀c∈cs,S c)(ha:S a):S (img m cs x a):=zAF h.cl cs x hc ha
theorem zEN(h:Mon S m e):∀(cs:List α)(x:Vec){a:α},(∀c∈cs,S c)→S a→img m cs x a=m a (img m cs x e)
 |c::cs,x::xs,a,hc,ha=>by
  have h1:S c:=hc c (by simp);have h2:∀c∈cs,S c:=by grind
  simp only[img];rw[zEM h h1 ha,zEN h cs xs h2 (h.cl ha (wZ h h1 _)),zEM h h1 h.ein,zEN h cs xs h2 (h.cl h.ein (wZ h h1 _)),h.onel (wZ h h1 _),
   h.assoc ha (wZ h h1 _) (zFA h cs xs h2 h.ein)]
 | [],_,a,_,ha=>by simp[img,h.oner ha]
 |_::_,[],a,_,ha=>by simp[img,h.oner ha]
theorem qQ(h:Mon S m e){c:α}{cs:List α}{x:Int}{xs:Vec}(hc:S c)(gZ:∀c∈cs,S c):img m (c::cs) (x::xs) e=m (pw m e c x.toNat) (img m cs xs e):=by simp only[img];rw[zEN h cs xs gZ (sW (fun a ha=>h.cl ha hc) _ h.ein)];rfl
theorem zBU(m:α→α→α):∀(cs:List α)(n:Nat)(a:α),img m cs (zeros n) a=a
 | [],_,_=>by simp[img]
 |_::_,0,_=>by rfl
 |c::cs,n+1,a=>by simp only[zeros,Kt,img,Hj,iter];exact zBU m cs n a
theorem zHB(h:Mon S m e){g:α}(hg:S g):∀(cs ds:List α)(x:Vec),(∀c∈cs,S c)→(∀c∈ds,S c)→cs.length=ds.length→(∀(k:Nat) c d,cs[k]? =dS c→ds[k]? =dS d→m c g=m g d)→m (img m cs x e) g=m g (img m ds x e)
 | [],[],x,_,_,_,_=>by simp[img,h.onel hg,h.oner hg]
 |c::cs,d::ds,[],_,_,_,_=>by simp[img,h.onel hg,h.oner hg]
 |c::cs,d::ds,x::xs,hc,hd,hl,hp=>by
  have eT:S c:=hc c (by simp);have hd0:S d:=hd d (by simp);have gZ:∀c∈cs,S c:=by grind
  have pb:∀c∈ds,S c:=by grind
  have key:∀k,m (pw m e c k) g=m g (pw m e d k):=by
   intro k
   induction k with
   |zero=>simp[pw,iter,h.onel hg,h.oner hg]
   |succ k ih=>
    have h0:m c g=m g d:=hp 0 c d rfl rfl;rw[pw,vS,pw,vS];show m (m (pw m e c k) c) g=m g (m (pw m e d k) d);rw[h.assoc (wZ h eT k) eT hg,h0,←h.assoc (wZ h eT k) hg hd0,ih,h.assoc hg (wZ h hd0 k) hd0]
  rw[qQ h eT gZ,qQ h hd0 pb,h.assoc (wZ h eT _) (zFA h _ _ gZ h.ein) hg,zHB h hg cs ds xs gZ pb (by grind) (fun k c d h1 h2=>hp (k+1) c d (by grind) (by grind)),
   ←h.assoc (wZ h eT _) hg (zFA h _ _ pb h.ein),key,h.assoc hg (wZ h hd0 _) (zFA h _ _ pb h.ein)]
theorem zPs{β:Type}{T:β→Prop}{n:β→β→β}{f:β}(h:Mon S m e)(h':Mon T n f)(φ:α→β)(gN:∀a,S a→T (φ a))(h1:φ e=f)(hm:∀a b,S a→S b→φ (m a b)=n (φ a) (φ b)):∀(cs:List α)(x:Vec),(∀c∈cs,S c)→φ (img m cs x e)=img n (cs.map φ) x f
 | [],_,_=>by simp[img,h1]
 |c::cs,[],_=>by simp[img,h1]
 |c::cs,x::xs,hc=>by
  have eT:S c:=hc c (by simp);have gZ:∀c∈cs,S c:=by grind
  have key:∀k,φ (pw m e c k)=pw n f (φ c) k:=by
   intro k
   induction k with
   |zero=>grind[pw,iter]
   |succ k ih=>
    grind[pw,vS,wZ]
  rw[qQ h eT gZ,Jl,qQ h' (gN c eT) (by simp_all),hm _ _ (wZ h eT _) (zFA h _ _ gZ h.ein),key,zPs h h' φ gN h1 hm cs xs gZ]
end
theorem vZ:∀{P:Pcp},Ok P→V P (zeros P.length)
 | [],_=>rfl
 |l::P,h=>by simp only[Ok]at h;simp only[Jj,zeros,Kt,V];exact⟨by omega,vZ h.2.2.2.2⟩
theorem xV:∀{P:Pcp},Ok P→ ∀{x y:Vec},V P x→V P y→V P (mul P x y)
 | [],_,_,_,hx,hy=>by rfl
 |l::P,h,[],_,hx,_=>by grind[V]
 |l::P,h,_::_,[],_,hy=>by grind[V]
 |l::P,h,a::x,b::y,hx,hy=>by
  simp only[Ok]at h;simp only[V]at hx hy;have h1:∀v,V P v→V P (img (mul P) l.cs v (zeros P.length)):=fun v hv=>zAF (xV h.2.2.2.2) l.cs v h.2.2.2.1 (vZ h.2.2.2.2)
  have h2:=xV h.2.2.2.2 (sW h1 b.toNat hx.2) hy.2;simp only[mul];split
  ·exact⟨by omega,xV h.2.2.2.2 h.2.1 h2⟩
  ·exact⟨by omega,h2⟩
def Rel{α:Type}(m:α→α→α)(e:α):Pcp→List α→Prop
 | [],s=>s=[]
 |l::P,s=>match s with
  | []=>False
  |g::s=>pw m e g l.o.toNat=img m s l.w e∧(∀(k:Nat) c d,s[k]? =dS c→l.cs[k]? =dS d→m c g=m g (img m s d e))∧Rel m e P s
section
variable {α:Type}{S:α→Prop}{m:α→α→α}{e:α}
theorem zZk(h:Mon S m e):∀(P:Pcp)(s:List α),Ok P→(∀g∈s,S g)→Rel m e P s→ ∀x y,V P x→V P y→img m s (mul P x y) e=m (img m s x e) (img m s y e)
 | [],s,_,_,hr,x,y,hx,hy=>by simp only[Rel]at hr;subst hr;simp[img,h.onel h.ein]
 |l::P,[],_,_,hr,_,_,_,_=>by grind[Rel]
 |l::P,g::s,_,_,_,[],_,hx,_=>by grind[V]
 |l::P,g::s,_,_,_,_::_,[],_,hy=>by grind[V]
 |l::P,g::s,hk,hs,hr,a::x,b::y,hx,hy=>by
  simp only[Ok]at hk;simp only[Rel]at hr;simp only[V]at hx hy;obtain⟨ho,hw,gI,gZ,tv⟩:=hk;obtain⟨gC,gz,hH⟩:=hr;have hg:S g:=hs g (by simp);have ph:∀c∈s,S c:=by grind
  have gk:s.length=P.length:=by
   clear gC gz hx hy hw gI gZ hs ph
   induction P generalizing s with
   |nil=>grind[Rel]
   |cons l P ih=>
    cases s with
    |nil=>grind[Rel]
    |cons c s=>grind[Rel,Ok]
  have ih:=zZk h P s tv ph hH;have hφ:∀v,S (img m s v e):=fun v=>zFA h s v ph h.ein
  have hmP:∀{a b},V P a→V P b→V P (mul P a b):=xV tv;have mU:∀v,V P v→V P (img (mul P) l.cs v (zeros P.length)):=fun v hv=>zAF hmP l.cs v gZ (vZ tv)
  have hσ:∀v,V P v→m (img m s v e) g=m g (img m s (img (mul P) l.cs v (zeros P.length)) e):=by
   intro v hv;have key:∀(cs:List Vec)(v:Vec)(acc:Vec),(∀c∈cs,V P c)→V P acc→img m s (img (mul P) cs v acc) e=img m (cs.map fun c=>img m s c e) v (img m s acc e):=by
    intro cs
    induction cs with
    |nil=>grind[img]
    |cons c cs ihc=>
     intro v acc hc hacc;cases v with
     |nil=>simp[img]
     |cons z v=>
      have eT:V P c:=hc c (by simp);have it:∀k acc,V P acc→img m s (iter k (fun v=>mul P v c) acc) e=iter k (fun v=>m v (img m s c e)) (img m s acc e):=by
       intro k
       induction k with
       |zero=>intro acc _;rfl
       |succ k ihk=>
        simp_all[iter]
      simp only[img,Jl];rw[ihc v _ (by simp_all) (sW (by grind) _ hacc),it _ _ hacc]
   rw[key l.cs v (zeros P.length) gZ (vZ tv),zBU];refine zHB h hg s _ v ph (by simp_all) (by grind) ?_;intro k c d hc hd;simp only[Jm,K0]at hd;obtain⟨d',pF,rfl⟩:=hd
   grind
  have hσk:∀k v,V P v→m (img m s v e) (pw m e g k)=m (pw m e g k) (img m s (iter k (fun v=>img (mul P) l.cs v (zeros P.length)) v) e):=by
   intro k
   induction k with
   |zero=>intro v _;simp[pw,iter,h.onel (hφ v),h.oner (hφ v)]
   |succ k ihk=>
    intro v hv;rw[zS9 h hg,←h.assoc (hφ v) hg (wZ h hg k),hσ v hv,h.assoc hg (hφ _) (wZ h hg k),ihk _ (mU v hv),←h.assoc hg (wZ h hg k) (hφ _)];rfl
  have fA:=wZ h hg a.toNat;have tk:=wZ h hg b.toNat;have fE:V P (iter b.toNat (fun v=>img (mul P) l.cs v (zeros P.length)) x):=sW mU _ hx.2;have bF:m (img m (g::s) (a::x) e) (img m (g::s) (b::y) e)=m (pw m e g (a.toNat+b.toNat)) (img m s (mul P (iter b.toNat (fun v=>img (mul P) l.cs v (zeros P.length)) x) y) e):=by rw[qQ h hg ph,qQ h hg ph,h.assoc fA (hφ x) (h.cl tk (hφ y)),←h.assoc (hφ x) tk (hφ y),hσk _ _ hx.2,h.assoc tk (hφ _) (hφ y),←ih _ _ fE hy.2,←h.assoc fA tk (hφ _),zB2 h hg]
  rw[bF];simp only[mul];split
  ·rename_i hge
   rw[qQ h hg ph,ih _ _ hw (hmP fE hy.2),←gC,←h.assoc (wZ h hg _) (wZ h hg _) (hφ _),←zB2 h hg]
   congr 2
   omega
  ·rw[qQ h hg ph]
   congr 2
   omega
end
def jQ(n j:Nat):Vec:=(zeros n).set j 1
def sig(P:Pcp)(l:Lvl)(v:Vec):Vec:=img (mul P) l.cs v (zeros P.length)
def vM:Pcp→Prop
 | []=>True
 |l::P=>vM P∧Rel (mul P) (zeros P.length) P l.cs∧sig P l l.w=l.w∧ ∀j,j<P.length→mul P l.w (iter l.o.toNat (sig P l) (jQ P.length j))=mul P (jQ P.length j) l.w
theorem zJk(n:Nat):jQ (n+1) 0=1::zeros n:=rfl
theorem zQn(n j:Nat):jQ (n+1) (j+1)=0::jQ n j:=rfl
def sT(n:Nat):List Vec:=(Jn n).map (jQ n)
theorem zN4(n:Nat):sT (n+1)=(1::zeros n)::(sT n).map (0::·):=by
 simp only[sT,Us,Jl,List.map_map,zJk]
 congr 1
theorem zFB:∀{P:Pcp},Ok P→ ∀{j:Nat},j<P.length→V P (jQ P.length j)
 | [],_,_,hj=>by simp at hj
 |l::P,h,0,_=>by grind[Ok,zJk,V,vZ]
 |l::P,h,j+1,hj=>by simp only[Ok]at h;rw[Jj,zQn];simp only[V];exact⟨by omega,zFB h.2.2.2.2 (by grind)⟩
theorem zKu{l:Lvl}{P:Pcp}(h:Ok (l::P)){v:Vec}(_hv:V P v):V P (sig P l v):=by simp only[Ok]at h;exact zAF (xV h.2.2.2.2) l.cs v h.2.2.2.1 (vZ h.2.2.2.2)
theorem yT(l:Lvl)(P:Pcp)(a b:Int)(x y:Vec):mul (l::P) (a::x) (b::y)=if a+b≥l.o then(a+b-l.o)::mul P l.w (mul P (iter b.toNat (sig P l) x) y)else(a+b)::mul P (iter b.toNat (sig P l) x) y:=rfl
theorem zQo{n k:Nat}{c:Vec}(h:(sT n)[k]? =dS c):k<n∧c=jQ n k:=by
 simp only[sT,Jm,K0]at h
 grind
theorem normal:∀(P:Pcp),Ok P→(∀Q,Q<:+P→Mon (V Q) (mul Q) (zeros Q.length))→ ∀x,V P x→img (mul P) (sT P.length) x (zeros P.length)=x
 | [],_,_,x,hx=>by grind[V,img,zeros]
 |l::P,_,_,[],hx=>by grind[V]
 |l::P,h,hM,a::x,hx=>by
  have hMl:=hM (l::P) (List.suffix_refl _);have hMP:=hM P (by simp);have h':=h;simp only[Ok]at h;simp only[V]at hx;rw[Jj,zN4];have hz:V P (zeros P.length):=vZ h.2.2.2.2;have tg:V (l::P) (1::zeros P.length):=by grind[V]
  have fo:∀c∈(sT P.length).map (0::·),V (l::P) c:=by
   intro c hc;simp only[sT,List.map_map,Je,Jx]at hc;obtain⟨j,hj,rfl⟩:=hc;simp only[Function.comp,V]
   grind[zFB]
  have cV:V (l::P) (zeros (P.length+1)):=by grind[vZ]
  rw[show zeros (P.length+1)=zeros (l::P).length from rfl];rw[qQ hMl tg fo];have sz:∀k:Nat,iter k (sig P l) (zeros P.length)=zeros P.length:=by
   intro k
   induction k with
   |zero=>rfl
   |succ k ih=>grind[iter,sig,zBU]
  have h1:∀k:Nat,(k:Int)<l.o→pw (mul (l::P)) (zeros (l::P).length) (1::zeros P.length) k=(k:Int)::zeros P.length:=by
   intro k
   induction k with
   |zero=>intro _;rfl
   |succ k ih=>
    intro hk;rw[pw,vS];show mul (l::P) (pw (mul (l::P)) (zeros (l::P).length) (1::zeros P.length) k) (1::zeros P.length)=_;rw[ih (by omega),yT,if_neg (by omega)];rw[sz,hMP.onel hz];rfl
  have h2:∀(cs:List Vec)(y acc:Vec),(∀c∈cs,V P c)→V P acc→img (mul (l::P)) (cs.map (0::·)) y (0::acc)=0::img (mul P) cs y acc:=by
   intro cs
   induction cs with
   |nil=>grind[img]
   |cons c cs ih=>
    intro y acc hc hacc;cases y with
    |nil=>simp[img]
    |cons z y=>
     have eT:V P c:=hc c (by simp);have it:∀(k:Nat)(acc:Vec),V P acc→iter k (fun v=>mul (l::P) v (0::c)) (0::acc)=0::iter k (fun v=>mul P v c) acc:=by
      intro k
      induction k with
      |zero=>intro _ _;rfl
      |succ k ihk=>
       intro acc hacc;simp only[iter];rw[yT,if_neg (by omega)];exact ihk _ (xV h.2.2.2.2 hacc eT)
     simp only[Jl,img];rw[it _ _ hacc,ih _ _ (by grind) (sW (by grind[xV]) _ hacc)]
  have fY:∀c∈sT P.length,V P c:=by
   intro c hc;simp only[sT,Je,Jx]at hc;obtain⟨j,hj,rfl⟩:=hc
   grind[zFB]
  rw[h1 a.toNat (by omega),show zeros (l::P).length=0::zeros P.length from rfl,h2 _ _ _ fY hz,normal P h.2.2.2.2 (by grind) x hx.2,yT,if_neg (by omega)];simp only[Hj,iter];rw[hMP.onel hx.2]
  grind
theorem zLH:∀(P:Pcp),Ok P→vM P→Grp (V P) (mul P) (zeros P.length)
 | [],_,_=>by
  refine⟨⟨fun _ _=>rfl,rfl,fun _ _ _=>rfl,?_,?_⟩,fun ha=>⟨[],rfl,rfl⟩⟩<;>
  ·intro a ha
   simp only[V]at ha;subst ha;rfl
 |l::P,h,hc=>by
  have h':=h;simp only[Ok]at h;simp only[vM]at hc;obtain⟨ho,hw,gI,gZ,hP⟩:=h;obtain⟨dD,pU,bN,bL⟩:=hc;have N:=zLH P hP dD;have hM:∀Q,Q<:+P→Mon (V Q) (mul Q) (zeros Q.length):=by
   intro Q hQ;obtain⟨t,ht⟩:=hQ;have:Ok Q∧vM Q:=by
    clear N hw gI gZ pU bN bL h'
    induction t generalizing P with
    |nil=>grind
    |cons a t ih=>
     simp at ht;subst ht;simp only[Ok]at hP;simp only[vM]at dD
     grind
   have gE:SizeOf.sizeOf Q≤SizeOf.sizeOf P:=by
    rw[←ht]
    clear N hw gI gZ pU bN bL h' hP dD ht this
    induction t with
    |nil=>simp
    |cons a t ih=>grind
   exact(zLH Q this.1 this.2).toMon
  have hz:V P (zeros P.length):=vZ hP;have σin:∀v,V P v→V P (sig P l v):=by grind[zKu]
  have σhom:∀x y,V P x→V P y→sig P l (mul P x y)=mul P (sig P l x) (sig P l y):=fun x y hx hy=>zZk N.toMon P l.cs hP gZ pU x y hx hy
  have σz:sig P l (zeros P.length)=zeros P.length:=zBU _ _ _ _;have itin:∀(k:Nat) v,V P v→V P (iter k (sig P l) v):=fun k v hv=>sW σin k hv
  have ithom:∀(k:Nat) x y,V P x→V P y→iter k (sig P l) (mul P x y)=mul P (iter k (sig P l) x) (iter k (sig P l) y):=by
   intro k
   induction k with
   |zero=>intro _ _ _ _;rfl
   |succ k ih=>simp_all[iter]
  have itz:∀k:Nat,iter k (sig P l) (zeros P.length)=zeros P.length:=by
   intro k
   induction k with
   |zero=>rfl
   |succ k ih=>grind[iter]
  have itw:∀k:Nat,iter k (sig P l) l.w=l.w:=by
   intro k
   induction k with
   |zero=>rfl
   |succ k ih=>grind[iter]
  have fY:∀c∈sT P.length,V P c:=by
   intro c hc;simp only[sT,Je,Jx]at hc;obtain⟨j,hj,rfl⟩:=hc
   grind[zFB]
  have inner:∀x,V P x→mul P x l.w=mul P l.w (iter l.o.toNat (sig P l) x):=by
   intro x hx;have hnf:=normal P hP hM x hx;have cz:=zPs N.toMon N.toMon (iter l.o.toNat (sig P l)) (by grind) (itz _) (by grind) (sT P.length) x fY;rw[←hnf,cz];refine zHB N.toMon hw _ _ x fY (by simp_all) (by simp) ?_;intro k c d hc hd;rw[Jm,K0]at hd;obtain⟨c',pc,rfl⟩:=hd;rw[hc]at pc;simp at pc;subst pc;obtain⟨hk,rfl⟩:=zQo hc
   grind
  have e:∀(x y z:Vec)(b c:Int),V P x→V P y→V P z→0≤b→0≤c→
    mul P (iter c.toNat (sig P l) (mul P (iter b.toNat (sig P l) x) y)) z=mul P (iter (b+c).toNat (sig P l) x) (mul P (iter c.toNat (sig P l) y) z)∧
    mul P (iter c.toNat (sig P l) (mul P l.w (mul P (iter b.toNat (sig P l) x) y))) z=mul P l.w (mul P (iter (b+c).toNat (sig P l) x) (mul P (iter c.toNat (sig P l) y) z))∧
    (l.o≤b+c→mul P (iter (b+c-l.o).toNat (sig P l) x) (mul P l.w (mul P (iter c.toNat (sig P l) y) z))=mul P l.w (mul P (iter (b+c).toNat (sig P l) x) (mul P (iter c.toNat (sig P l) y) z))):=by
   intro x y z b c hx hy hz hb hcc;have dE:=itin b.toNat x hx;have hcy:=itin c.toNat y hy;have hbc:iter c.toNat (sig P l) (iter b.toNat (sig P l) x)=iter (b+c).toNat (sig P l) x:=by rw[←zEL];congr 1;omega
   have dF:=itin (b+c).toNat x hx;have e1:mul P (iter c.toNat (sig P l) (mul P (iter b.toNat (sig P l) x) y)) z=mul P (iter (b+c).toNat (sig P l) x) (mul P (iter c.toNat (sig P l) y) z):=by rw[ithom _ _ _ dE hy,hbc,N.assoc dF hcy hz]
   refine⟨e1,?_,?_⟩
   ·rw[ithom _ _ _ hw (N.cl dE hy),itw,N.assoc hw (itin _ _ (N.cl dE hy)) hz,e1]
   ·intro hge
    have bR:=N.cl hcy hz;rw[←N.assoc (itin _ x hx) hw bR,inner _ (itin _ x hx),←zEL,N.assoc hw (itin _ x hx) bR]
    congr 3
    omega
  refine⟨⟨by grind[xV],vZ h',?_,?_,?_⟩,?_⟩
  ·intro A B C hA hB hC
   match A,B,C,hA,hB,hC with
   |a::x,b::y,c::z,hA,hB,hC=>
    simp only[V]at hA hB hC;obtain⟨e1,e2,e3⟩:=e x y z b c hA.2 hB.2 hC.2 hB.1.1 hC.1.1
    by_cases c1:a+b≥l.o<;>by_cases c2:b+c≥l.o
    ·rw[yT,if_pos c1,yT l P b c,if_pos c2,yT,yT,e2,e3 c2]
     grind
    ·rw[yT,if_pos c1,yT l P b c,if_neg c2,yT,yT,e2,if_neg (by omega),if_pos (by omega)]
     grind
    ·rw[yT,if_neg c1,yT l P b c,if_pos c2,yT,yT,e1,e3 c2,if_pos (by omega),if_neg (by omega)]
     grind
    ·rw[yT,if_neg c1,yT l P b c,if_neg c2,yT,yT,e1]
     grind
  ·intro A hA
   match A,hA with
   |a::x,hA=>
    simp only[V]at hA;show mul (l::P) (0::zeros P.length) (a::x)=_;rw[yT,if_neg (by omega),itz,N.onel hA.2,Lo]
  ·intro A hA
   match A,hA with
   |a::x,hA=>
    simp only[V]at hA;show mul (l::P) (a::x) (0::zeros P.length)=_;rw[yT,if_neg (by omega)];simp only[Hj,iter];rw[N.oner hA.2,Lb]
  ·intro A hA
   match A,hA with
   |a::x,hA=>
    simp only[V]at hA
    by_cases ha:a=0
    ·obtain⟨y,hy,h1⟩:=N.inv hA.2
     refine⟨0::y,by simp only[V];grind,?_⟩;rw[yT,if_neg (by omega)];simp only[Hj,iter];rw[h1,ha];rfl
    ·have mY:=itin (l.o-a).toNat x hA.2
     obtain⟨y,hy,h1⟩:=N.inv (N.cl hw mY);refine⟨(l.o-a)::y,by simp only[V];grind,?_⟩;rw[yT,if_pos (by omega),←N.assoc hw mY hy,h1,show a+(l.o-a)-l.o=0 by omega];rfl
termination_by P=>P
end Go.Pc

namespace Go.Pc
structure Fil {α:Type} (S:α→Prop) (m:α→α→α) (e:α) (n:Nat) (o:Nat→Int) (co:α→Nat→Int):Prop where
 g:Grp S m e
 r:∀{a d},S a→d<n→0≤co a d∧co a d<o d
 e0:∀{d},d<n→co e d=0
 ex:∀{a b},S a→S b→(∀d,d<n→co a d=co b d)→a=b
 ad:∀{a b d},S a→S b→d<n→(∀j,j<d→co b j=0)→(∀j,j<d→co (m a b) j=co a j)∧co (m a b) d=(co a d+co b d)%o d
inductive Gen {α:Type} (S:α→Prop) (m:α→α→α) (e:α) (X:α→Prop):α→Prop
 |one:Gen S m e X e
 |x {a}:X a→Gen S m e X a
 |m {a b}:Gen S m e X a→Gen S m e X b→Gen S m e X (m a b)
 |i {a b}:Gen S m e X a→S b→m a b=e→Gen S m e X b
section
variable {α:Type}{S:α→Prop}{m:α→α→α}{e:α}{X Y:α→Prop}
theorem Gen.to(h:∀a,X a→Gen S m e Y a){a:α}(ha:Gen S m e X a):Gen S m e Y a:=by
 induction ha with
 |one=>exact .one
 |x hx=>exact h _ hx
 |m _ _ h1 h2=>exact .m h1 h2
 |i _ hb hh h1=>exact .i h1 hb hh
theorem Gen.mono(h:∀a,X a→Y a){a:α}(ha:Gen S m e X a):Gen S m e Y a:=ha.to fun _ h'=>.x (h _ h')
theorem Gen.pw{a:α}(ha:Gen S m e X a):∀k,Gen S m e X (pw m e a k)
 |0=>.one
 |k+1=>by rw[Pc.pw,vS];exact .m (ha.pw k) ha
variable (g:Grp S m e)
 include g
theorem Gen.in(hX:∀a,X a→S a){a:α}(ha:Gen S m e X a):S a:=by
 induction ha with
 |one=>exact g.ein
 |x hx=>exact hX _ hx
 |m _ _ h1 h2=>exact g.cl h1 h2
 |i _ hb _ _=>exact hb
theorem Grp.inv_l{a b:α}(ha:S a)(hb:S b)(h:m a b=e):m b a=e:=by obtain⟨c,hc,h1,h2⟩:=g.invl ha;rw[show b=c from g.cancel_l ha hb hc (h.trans h1.symm)];exact h2
theorem Gen.left(hX:∀a,X a→S a){a b:α}(ha:S a)(hb:Gen S m e X b)(h:Gen S m e X (m a b)):Gen S m e X a:=by
 have hbs:=hb.in g hX;obtain⟨c,hc,h1,_⟩:=g.invl hbs;have:=Gen.m h (.i hb hc h1)
 rwa [g.assoc ha hbs hc,h1,g.oner ha]at this
theorem Gen.right(hX:∀a,X a→S a){a b:α}(ha:Gen S m e X a)(hb:S b)(h:Gen S m e X (m a b)):Gen S m e X b:=by
 have has:=ha.in g hX;obtain⟨c,hc,h1,h2⟩:=g.invl has;have:=Gen.m (.i ha hc h1) h
 rwa [←g.assoc hc has hb,h2,g.onel hb]at this
end
section
variable {α:Type}{S:α→Prop}{m:α→α→α}{e:α}{n:Nat}{o:Nat→Int}{co:α→Nat→Int} (F:Fil S m e n o co)
 include F
theorem Fil.dm{a b:α}{d:Nat}(hd:d≤n)(ha:S a)(hb:S b)(za:∀j,j<d→co a j=0)(zb:∀j,j<d→co b j=0):∀j,j<d→co (m a b) j=0:=fun j hj=>by have h:=(F.ad ha hb (by omega:j<n) fun i hi=>zb i (by omega)).2;rw[h,za j hj,zb j hj];simp
theorem Fil.md{x:Int}{d:Nat}(hd:d<n){a:α}(ha:S a)(h:co a d=x):x%o d=x:=by have:=F.r ha hd;rw[←h];exact Jr this.1 this.2
theorem Fil.pwc{t:α}{d:Nat}(hd:d<n)(ht:S t)(zt:∀j,j<d→co t j=0):∀k,(∀j,j<d→co (pw m e t k) j=0)∧co (pw m e t k) d=(k*co t d)%o d
 |0=>⟨fun j hj=>F.e0 (by omega),by rw[pw,iter,F.e0 hd];simp⟩
 |k+1=>by
  have ih:=Fil.pwc hd ht zt k;have hp:=wZ F.g.toMon ht k;have e1:pw m e t (k+1)=m (pw m e t k) t:=by rw[pw,vS];rfl
  have h:=F.ad hp ht hd zt;rw[e1];refine⟨fun j hj=>(h.1 j hj).trans (ih.1 j hj),?_⟩;rw[h.2,ih.2,Lq]
  congr 1
  rw[Int.natCast_succ,Int.add_mul,Kl]
theorem Fil.cmd{a b w:α}{k:Nat}(hk:k<n)(ha:S a)(hb:S b)(hw:S w)(za:∀j,j<k→co a j=0)(zb:∀j,j<k+1→co b j=0)(h:m (m b a) w=m a b∨m (m a b) w=m b a):∀j,j<k+1→co w j=0:=by
 have e1:∀j,j<k+1→co (m b a) j=co a j:=fun j hj=>by have h:=(F.ad hb ha (by omega:j<n) fun i hi=>za i (by omega)).2;rw[h,zb j hj,Lo];exact F.md (by omega) ha rfl
 have e2:∀j,j<k+1→co (m a b) j=co a j:=fun j hj=>by have h:=(F.ad ha hb (by omega:j<n) fun i hi=>zb i (by omega)).2;rw[h,zb j hj,Lb];exact F.md (by omega) ha rfl
 intro j
 induction j using G5 with
 |ind j ih=>
  intro hj;have fD:j<n:=by omega
  have hr:=F.r ha fD;have mF:=F.r hw fD;have key:(co a j+co w j)%o j=co a j:=by
   rcases h with h|h
   ·have h1:=(F.ad (F.g.cl hb ha) hw fD fun i hi=>ih i hi (by omega)).2
    rw[h,e2 j hj,e1 j hj]at h1;exact h1.symm
   ·have h1:=(F.ad (F.g.cl ha hb) hw fD fun i hi=>ih i hi (by omega)).2
    rw[h,e1 j hj,e2 j hj]at h1;exact h1.symm
  by_cases g:co a j+co w j<o j
  ·rw[Jr (by omega) g]at key;omega
  ·rw[←Gp,Jr (by omega) (by omega)]at key;omega
structure Tab (S:α→Prop) (n:Nat) (co:α→Nat→Int) (T:Nat→Option α):Prop where
 h:∀{k t},T k=dS t→k<n∧S t∧(∀j,j<k→co t j=0)∧co t k=1
def GX(n:Nat)(co:α→Nat→Int)(T:Nat→Option α)(Q:List α)(k:Nat)(a:α):Prop:=(∃j,k≤j∧T j=dS a)∨(a∈Q∧ ∀j,j<k→j<n→co a j=0)
 omit F in
theorem GX.s{T:Nat→Option α}{Q:List α}(hT:Tab S n co T)(hQ:∀a∈Q,S a){k:Nat}:∀a,GX n co T Q k a→S a
  |_,.inl ⟨_,_,h⟩=>(hT.h h).2.1
  |a,.inr h=>hQ a h.1
section
variable {T:Nat→Option α} (hT:Tab S n co T)
structure Clo (S:α→Prop) (m:α→α→α) (e:α) (n:Nat) (o:Nat→Int) (co:α→Nat→Int) (T:Nat→Option α) (Q:List α):Prop where
 p:∀{k t},T k=dS t→Gen S m e (GX n co T Q (k+1)) (pw m e t (o k).toNat)
 c:∀{k j t u},T k=dS t→T j=dS u→k<j→ ∃c,Gen S m e (GX n co T Q (k+1)) c∧m u t=m t c
variable (hC:Clo S m e n o co T [])
 include hT hC
theorem Clo.conj{k:Nat}{t:α}(ht:T k=dS t){y:α}(hy:Gen S m e (GX n co T [] (k+1)) y):∃c,Gen S m e (GX n co T [] (k+1)) c∧m y t=m t c:=by
 have eE:=(hT.h ht).2.1;have hG:∀{a},Gen S m e (GX n co T [] (k+1)) a→S a:=fun h=>h.in F.g (GX.s hT (by simp))
 induction hy with
 |one=>exact⟨e,.one,by rw[F.g.onel eE,F.g.oner eE]⟩
 |x hx=>
  rcases hx with⟨j,h1,h2⟩|⟨h,_⟩
  ·exact hC.c ht h2 (by omega)
  ·simp at h
 | @m a b ga gb ha hb=>
  obtain⟨c,c1,c2⟩:=ha;obtain⟨d,d1,d2⟩:=hb;refine⟨m c d,.m c1 d1,?_⟩;rw[F.g.assoc (hG ga) (hG gb) eE,d2,←F.g.assoc (hG ga) eE (hG d1),c2,F.g.assoc eE (hG c1) (hG d1)]
 | @i a b ga hb hh ha=>
  obtain⟨c,c1,c2⟩:=ha;obtain⟨d,d1,d2,_⟩:=F.g.invl (hG c1);have hl:=F.g.inv_l (hG ga) hb hh;refine⟨d,.i c1 d1 d2,F.g.cancel_l (hG ga) (F.g.cl hb eE) (F.g.cl eE d1) ?_⟩;rw[←F.g.assoc (hG ga) hb eE,hh,F.g.onel eE,←F.g.assoc (hG ga) eE d1,c2,F.g.assoc eE (hG c1) d1,d2,F.g.oner eE]
theorem Clo.conjs{k:Nat}{t:α}(ht:T k=dS t):∀(a:Nat){y:α},Gen S m e (GX n co T [] (k+1)) y→ ∃c,Gen S m e (GX n co T [] (k+1)) c∧m y (pw m e t a)=m (pw m e t a) c
 |0,y,hy=>⟨y,hy,by have:=hy.in F.g (GX.s hT (by simp));show m y e=m e y;rw[F.g.onel this,F.g.oner this]⟩
 |a+1,y,hy=>by
  have hG:∀{a},Gen S m e (GX n co T [] (k+1)) a→S a:=fun h=>h.in F.g (GX.s hT (by simp))
  have eE:=(hT.h ht).2.1;obtain⟨c,c1,c2⟩:=Clo.conjs ht a hy;obtain⟨d,d1,d2⟩:=Clo.conj F hT hC ht c1;have hp:=wZ F.g.toMon eE a;refine⟨d,d1,?_⟩;rw[show pw m e t (a+1)=m (pw m e t a) t from by rw[pw,vS];rfl,←F.g.assoc (hG hy) hp eE,c2,F.g.assoc hp (hG c1) eE,d2,F.g.assoc hp eE (hG d1)]
theorem Clo.pws{k:Nat}{t:α}(ht:T k=dS t):∀N:Nat,Gen S m e (GX n co T [] (k+1)) (pw m e t (N*(o k).toNat))
 |0=>by rw[Nat.zero_mul];exact .one
 |N+1=>by rw[L8,zB2 F.g.toMon (hT.h ht).2.1];exact .m (Clo.pws ht N) (hC.p ht)
theorem Clo.form{k:Nat}{t:α}(ht:T k=dS t){x:α}(hx:Gen S m e (GX n co T [] k) x):∃(a:Nat)(y:α),Gen S m e (GX n co T [] (k+1)) y∧x=m (pw m e t a) y:=by
 have eE:=(hT.h ht).2.1;have hG:∀{j a},Gen S m e (GX n co T [] j) a→S a:=fun h=>h.in F.g (GX.s hT (by simp))
 have hP:=fun a=>wZ F.g.toMon eE a
 induction hx with
 |one=>exact⟨0,e,.one,(F.g.onel F.g.ein).symm⟩
 | @x a hx=>
  rcases hx with⟨j,h1,h2⟩|⟨h,_⟩
  ·by_cases hj:j=k
   ·subst hj
    rw[ht]at h2;cases h2;exact⟨1,e,.one,by rw[zKt F.g.toMon eE,F.g.oner eE]⟩
   ·exact⟨0,a,.x (.inl ⟨j,by omega,h2⟩),(F.g.onel (hT.h h2).2.1).symm⟩
  ·simp at h
 | @m a b _ _ ha hb=>
  obtain⟨i,y,hy,rfl⟩:=ha;obtain⟨j,z,hz,rfl⟩:=hb;obtain⟨c,c1,c2⟩:=Clo.conjs F hT hC ht j hy;refine⟨i+j,m c z,.m c1 hz,?_⟩;rw[zB2 F.g.toMon eE,F.g.assoc (hP i) (hG hy) (F.g.cl (hP j) (hG hz)),←F.g.assoc (hG hy) (hP j) (hG hz),c2,F.g.assoc (hP j) (hG c1) (hG hz),F.g.assoc (hP i) (hP j) (F.g.cl (hG c1) (hG hz))]
 | @i a b ga hb hh ha=>
  obtain⟨i,y,hy,rfl⟩:=ha;obtain⟨y',y1,y2,_⟩:=F.g.invl (hG hy);have ho:1≤(o k).toNat:=by have:=F.r eE (hT.h ht).1;omega
  have eJ:i≤i*(o k).toNat:=Jah i ho;have e1:i*(o k).toNat=i+(i*(o k).toNat-i):=by omega
  have hw:=Clo.pws F hT hC ht i;obtain⟨w,w1,w2,_⟩:=F.g.invl (hG hw);obtain⟨c,c1,c2⟩:=Clo.conjs F hT hC ht (i*(o k).toNat-i) (.i hy y1 y2);refine⟨i*(o k).toNat-i,m c w,.m c1 (.i hw w1 w2),?_⟩;refine F.g.cancel_l (F.g.cl (hP i) (hG hy)) hb (F.g.cl (hP _) (F.g.cl (hG c1) w1)) ?_;rw[hh,←F.g.assoc (hP _) (hG c1) w1,←c2,F.g.assoc y1 (hP _) w1,F.g.assoc (hP i) (hG hy) (F.g.cl y1 (F.g.cl (hP _) w1)),←F.g.assoc (hG hy) y1 (F.g.cl (hP _) w1),y2,F.g.onel (F.g.cl (hP _) w1),←F.g.assoc (hP i) (hP _) w1,←zB2 F.g.toMon eE,←e1,w2]
theorem Clo.depth:∀(l k:Nat),k+l=n→ ∀{x:α},Gen S m e (GX n co T [] k) x→(∀j,j<k→co x j=0)→x≠e→ ∃j,k≤j∧j<n∧(T j).isSome=dU∧(∀i,i<j→co x i=0)∧co x j≠0
 |0,k,hk,x,hx,hz,gc=>by
  have hG:∀{j a},Gen S m e (GX n co T [] j) a→S a:=fun h=>h.in F.g (GX.s hT (by simp))
  exact absurd (F.ex (hG hx) F.g.ein fun d hd=>by rw[hz d (by omega),F.e0 hd]) gc
 |l+1,k,hk,x,hx,hz,gc=>by
  have hG:∀{j a},Gen S m e (GX n co T [] j) a→S a:=fun h=>h.in F.g (GX.s hT (by simp))
  have mP:k<n:=by omega
  have deep:∀{y},Gen S m e (GX n co T [] (k+1)) y→ ∀j,j<k+1→co y j=0:=fun{y} hy=>by
   induction hy with
   |one=>exact fun j hj=>F.e0 (by omega)
   |x hx=>
    rcases hx with⟨j,h1,h2⟩|⟨h,_⟩
    ·exact fun i hi=>(hT.h h2).2.2.1 i (by omega)
    ·simp at h
   |m ga gb ha hb=>exact F.dm (by omega) (hG ga) (hG gb) ha hb
   | @i a b ga hb hh ha=>
    intro j
    induction j using G5 with
    |ind j ih=>
     intro hj;have h1:=(F.ad (hG ga) hb (by omega:j<n) fun i hi=>ih i hi (by omega)).2;rw[hh,F.e0 (by omega),ha j hj,Lo]at h1;rw[←F.md (by omega) hb rfl];exact h1.symm
  have next:Gen S m e (GX n co T [] (k+1)) x→ ∃j,k≤j∧j<n∧(T j).isSome=dU∧(∀i,i<j→co x i=0)∧co x j≠0:=fun h=>by obtain⟨j,j1,j2⟩:=Clo.depth l (k+1) (by omega) h (deep h) gc;exact⟨j,by omega,j2⟩
  cases ht:T k with
  |none=>
   refine next (hx.mono fun a ha=>?_);rcases ha with⟨j,h1,h2⟩|⟨h,_⟩
   ·by_cases hj:j=k
    ·subst hj;rw[ht]at h2;cases h2
    ·exact .inl ⟨j,by omega,h2⟩
   ·simp at h
  |some t=>
   by_cases h0:co x k=0
   ·obtain⟨a,y,hy,rfl⟩:=Clo.form F hT hC ht hx
    have bg:=hT.h ht;have hp:=F.pwc mP bg.2.1 bg.2.2.1 a;have h1:=(F.ad (wZ F.g.toMon bg.2.1 a) (hG hy) mP fun j hj=>deep hy j (by omega)).2;rw[h0,deep hy k (by omega),hp.2,bg.2.2.2,Lb,Ku,Ju]at h1;have ho:=F.r bg.2.1 mP;have hd:(o k).toNat∣a:=by have:=Uu h1.symm;rw[show o k=((o k).toNat:Int)from by omega]at this;exact Int.natCast_dvd_natCast.1 this
    obtain⟨N,rfl⟩:=hd;rw[Uw]at next ⊢
    exact next (.m (Clo.pws F hT hC ht N) hy)
   ·exact⟨k,Jd _,mP,by rw[ht];rfl,hz,h0⟩
end
structure Can (S:α→Prop) (n:Nat) (co:α→Nat→Int) (H:α→Prop) (C:Nat→Option α):Prop where
 i:∀{k t},C k=dS t→k<n∧H t∧S t∧(∀j,j<k→co t j=0)∧co t k=1∧ ∀j,k<j→j<n→(C j).isSome=dU→co t j=0
 d:∀{x},H x→x≠e→ ∃j,j<n∧(C j).isSome=dU∧(∀i,i<j→co x i=0)∧co x j≠0
theorem Can.uniq{H:α→Prop}(hm:∀{a b},H a→H b→H (m a b))(hi:∀{a b},H a→S b→m a b=e→H b){C D:Nat→Option α}(hC:Can (e:=e) S n co H C)(hD:Can (e:=e) S n co H D):∀k,C k=D k:=by
 have mr:∀{C D:Nat→Option α},Can (e:=e) S n co H C→Can (e:=e) S n co H D→ ∀k,(C k).isSome=dU→(D k).isSome=dU:=fun{C D} hC hD k hk=>by
  obtain⟨t,ht⟩:=Hk.1 hk;obtain⟨a1,a2,a3,a4,a5,_⟩:=hC.i ht;obtain⟨j,j1,j2,j3,j4⟩:=hD.d a2 fun h=>by rw[h,F.e0 a1]at a5;cases a5
  rcases H5 j k with h|h|h
  ·exact absurd (a4 j h) j4
  ·rwa [←h]
  ·have:=j3 k h;omega
 intro k;cases hc:C k with
 |none=>
  cases hd:D k with
  |none=>rfl
  |some u=>
   have:=mr hD hC k (by rw[hd];rfl);rw[hc]at this;cases this
 |some t=>
  cases hd:D k with
  |none=>
   have:=mr hC hD k (by rw[hc];rfl);rw[hd]at this;cases this
  |some u=>
   obtain⟨a1,a2,a3,a4,a5,a6⟩:=hC.i hc;obtain⟨_,b2,b3,b4,b5,b6⟩:=hD.i hd;obtain⟨t',t1,t2,t3⟩:=F.g.invl a3;have hh:H (m t' u):=hm (hi a2 t1 t2) b2;have hhs:S (m t' u):=F.g.cl t1 b3;have e1:m t (m t' u)=u:=by rw[←F.g.assoc a3 t1 b3,t2,F.g.onel b3]
   have same:∀j,j<n→(C j).isSome=dU→co t j=co u j:=fun j hj mn=>by
    rcases H5 j k with h|h|h
    ·rw[a4 j h,b4 j h]
    ·rw[h,a5,b5]
    ·rw[a6 j h hj mn,b6 j h hj (mr hC hD j mn)]
   have hz:m t' u=e:=by
    refine Classical.byContradiction fun gc=>?_
    obtain⟨j,j1,j2,j3,j4⟩:=hC.d hh gc;have h1:=(F.ad a3 hhs j1 j3).2;rw[e1,←same j j1 j2]at h1;have r1:=F.r a3 j1;have r2:=F.r hhs j1
    by_cases g:co t j+co (m t' u) j<o j
    ·rw[Jr (by omega) g]at h1;omega
    ·rw[←Gp,Jr (by omega) (by omega)]at h1;omega
   rw[hz,F.g.oner a3]at e1;rw[e1]
end
end Go.Pc

namespace Go.Pc
section
variable {α:Type}{S:α→Prop}{m:α→α→α}{e:α}{n:Nat}{o:Nat→Int}{co:α→Nat→Int}
def Dp(n:Nat)(co:α→Nat→Int)(k:Nat)(a:α):Prop:=∀j,j<k→j<n→co a j=0
theorem Gen.tr{T T':Nat→Option α}{Q Q':List α}{k:Nat}(hT:∀k t,T k=dS t→T' k=dS t)(hq:∀a∈Q,∀k,Dp n co k a→Gen S m e (GX n co T' Q' k) a){a:α}(h:Gen S m e (GX n co T Q k) a):Gen S m e (GX n co T' Q' k) a:=
 h.to fun a ha=>by
  rcases ha with⟨j,h1,h2⟩|⟨h1,h2⟩
  ·exact .x (.inl ⟨j,h1,hT _ _ h2⟩)
  ·exact hq a h1 k h2
structure Wl (S:α→Prop) (m:α→α→α) (e:α) (n:Nat) (o:Nat→Int) (co:α→Nat→Int) (L:α→Prop) (T:Nat→Option α) (Q:List α):Prop where
 t:Tab S n co T
 th:∀{k t},T k=dS t→Gen S m e L t
 q:∀a∈Q,S a∧Gen S m e L a
 g:∀a,L a→Gen S m e (GX n co T Q 0) a
 c:Clo S m e n o co T Q
theorem Wl.start(L:List α)(hL:∀a∈L,S a):Wl S m e n o co (· ∈L) (fun _=>dT) L:=
 ⟨⟨fun h=>by cases h⟩,(fun h=>by cases h),(fun a h=>⟨hL a h,.x h⟩),(fun a h=>.x (.inr ⟨h,fun j hj=>by omega⟩)),⟨(fun h=>by cases h),(fun h=>by cases h)⟩⟩
theorem Wl.more{L:α→Prop}{T:Nat→Option α}(h:Wl S m e n o co L T []){M:List α}(hM:∀a∈M,S a):Wl S m e n o co (fun a=>L a∨a∈M) T M:=by
 have tr:∀{k a},Gen S m e (GX n co T [] k) a→Gen S m e (GX n co T M k) a:=fun g=>g.tr (fun _ _ h=>h) (by simp)
 refine⟨h.t,fun ht=>(h.th ht).mono fun _ h=>.inl h,fun a ha=>⟨hM a ha,.x (.inr ha)⟩,fun a ha=>?_,fun ht=>tr (h.c.p ht),fun h1 h2 h3=>?_⟩
 ·rcases ha with ha|ha
  ·exact tr (h.g a ha)
  ·exact .x (.inr ⟨ha,fun j hj=>by omega⟩)
 ·obtain⟨c,c1,c2⟩:=h.c.c h1 h2 h3
  exact⟨c,tr c1,c2⟩
theorem Wl.drop{L:α→Prop}{T:Nat→Option α}{Q Q':List α}(h:Wl S m e n o co L T Q){x:α}(hx:∀k,Dp n co k x→Gen S m e (GX n co T Q' k) x)(h1:∀a∈Q',a∈Q)(h2:∀a∈Q,a=x∨a∈Q'):Wl S m e n o co L T Q':=by
 have tr:∀{k a},Gen S m e (GX n co T Q k) a→Gen S m e (GX n co T Q' k) a:=fun g=>g.tr (fun _ _ h=>h) fun a ha k hk=>by
  rcases h2 a ha with rfl|h
  ·exact hx k hk
  ·exact .x (.inr ⟨h,hk⟩)
 exact⟨h.t,h.th,fun a ha=>h.q a (h1 a ha),fun a ha=>tr (h.g a ha),⟨fun ht=>tr (h.c.p ht),fun a b c=>by obtain⟨w,w1,w2⟩:=h.c.c a b c;exact⟨w,tr w1,w2⟩⟩⟩
variable (F:Fil S m e n o co)
 include F
theorem Wl.add{L:α→Prop}{T:Nat→Option α}{Q Q':List α}(h:Wl S m e n o co L T Q){x y:α}{d:Nat}(hd:d<n)(hTd:T d=dT)(hy:S y)(ca:Gen S m e L y)(zy:∀j,j<d→co y j=0)(oy:co y d=1)
  (hx:∀k,Dp n co k x→Gen S m e (GX n co (fun j=>if j=d then dS y else T j) Q' k) x)(hq:∀a∈Q',S a∧Gen S m e L a)(h2:∀a∈Q,a=x∨a∈Q')
  (hp:pw m e y (o d).toNat∈Q')(hc:∀k u,T k=dS u→ ∃w,w∈Q'∧(m (m u y) w=m y u∨m (m y u) w=m u y)):Wl S m e n o co L (fun j=>if j=d then dS y else T j) Q':=by
 have hT:∀k t,T k=dS t→(fun j=>if j=d then dS y else T j) k=dS t:=fun k t hk=>by
  show(if k=d then dS y else T k)=dS t;rw[if_neg]
  ·exact hk
  ·intro g;rw[g,hTd]at hk;cases hk
 have pe:Tab S n co (fun j=>if j=d then dS y else T j):=⟨fun{k t} hk=>by
  replace hk:(if k=d then dS y else T k)=dS t:=hk
  split at hk
  ·rename_i g;cases hk;subst g;exact⟨hd,hy,zy,oy⟩
  ·exact h.t.h hk⟩
 have hS:∀{k a},Gen S m e (GX n co (fun j=>if j=d then dS y else T j) Q' k) a→S a:=fun g=>g.in F.g (GX.s pe fun a ha=>(hq a ha).1)
 have tr:∀{k a},Gen S m e (GX n co T Q k) a→Gen S m e (GX n co (fun j=>if j=d then dS y else T j) Q' k) a:=fun g=>g.tr hT fun a ha k hk=>by
  rcases h2 a ha with rfl|h
  ·exact hx k hk
  ·exact .x (.inr ⟨h,hk⟩)
 have new:∀{k j t u w},k<n→S t→S u→(∀i,i<k→co t i=0)→(∀i,i<j→co u i=0)→k<j→(fun i=>if i=d then dS y else T i) j=dS u→w∈Q'→(m (m u t) w=m t u∨m (m t u) w=m u t)→ ∃c,Gen S m e (GX n co (fun j=>if j=d then dS y else T j) Q' (k+1)) c∧m u t=m t c:=fun{k j t u w} hk ht hu zt zu mf hju hw hh=>by
  have tc:=(hq w hw).1;have ml:=F.cmd hk ht hu tc zt (fun i hi=>zu i (by omega)) hh;have g1:Gen S m e (GX n co (fun j=>if j=d then dS y else T j) Q' (k+1)) w:=.x (.inr ⟨hw,fun i hi _=>ml i hi⟩);have g2:Gen S m e (GX n co (fun j=>if j=d then dS y else T j) Q' (k+1)) u:=.x (.inl ⟨j,mf,hju⟩);rcases hh with hh|hh
  ·obtain⟨v,v1,v2,_⟩:=F.g.invl tc
   refine⟨m u v,.m g2 (.i g1 v1 v2),?_⟩;rw[←F.g.assoc ht hu v1,←hh,F.g.assoc (F.g.cl hu ht) tc v1,v2,F.g.oner (F.g.cl hu ht)]
  ·exact⟨m u w,.m g2 g1,by rw[←F.g.assoc ht hu tc,hh]⟩
 refine⟨pe,fun{k t} hk=>?_,hq,fun a ha=>tr (h.g a ha),fun{k t} hk=>?_,fun{k j t u} hk hj mf=>?_⟩
 ·replace hk:(if k=d then dS y else T k)=dS t:=hk
  split at hk
  ·cases hk;exact ca
  ·exact h.th hk
 ·replace hk:(if k=d then dS y else T k)=dS t:=hk
  split at hk
  ·rename_i g
   cases hk;subst g;have aW:=F.pwc hd hy zy (o k).toNat;have ho:=F.r hy hd;refine .x (.inr ⟨hp,fun i hi gN=>?_⟩)
   by_cases g:i=k
   ·rw[g,aW.2,oy,Ku,show(((o k).toNat:Nat):Int)=o k from by omega,U6]
   ·exact aW.1 i (by omega)
  ·exact tr (h.c.p hk)
 ·have a1:=pe.h hk
  have a2:=pe.h hj;have tw:(if k=d then dS y else T k)=dS t:=hk;have f9:(if j=d then dS y else T j)=dS u:=hj;split at tw
  ·rename_i g
   cases tw;subst g;rw[if_neg (by omega)]at f9;obtain⟨w,w1,w2⟩:=hc j u f9;exact new hd hy a2.2.1 zy a2.2.2.1 mf hj w1 w2
  ·split at f9
   ·rename_i g2
    cases f9;subst g2;obtain⟨w,w1,w2⟩:=hc k t tw;exact new a1.1 a1.2.1 hy a1.2.2.1 zy mf hj w1 w2.symm
   ·obtain⟨c,c1,c2⟩:=h.c.c tw f9 mf
    exact⟨c,tr c1,c2⟩
structure Sf (S:α→Prop) (m:α→α→α) (e:α) (n:Nat) (co:α→Nat→Int) (T:Nat→Option α) (x y:α):Prop where
 s:S y
 d:∀k,Dp n co k x→Dp n co k y
 g:∀k Q,(∀a∈Q,S a)→Dp n co k x→Gen S m e (GX n co T Q k) y→Gen S m e (GX n co T Q k) x
 h:∀H:α→Prop,(∀a,H a→S a)→(∀{k t},T k=dS t→Gen S m e H t)→Gen S m e H x→Gen S m e H y
 omit F in
theorem Sf.refl{T:Nat→Option α}{x:α}(hx:S x):Sf S m e n co T x x:=⟨hx,fun _ h=>h,fun _ _ _ _ h=>h,fun _ _ _ h=>h⟩
 omit F in
theorem Sf.trans{T:Nat→Option α}{x y z:α}(h1:Sf S m e n co T x y)(h2:Sf S m e n co T y z):Sf S m e n co T x z:=
  ⟨h2.s,fun k h=>h2.d k (h1.d k h),fun k Q hQ h g=>h1.g k Q hQ h (h2.g k Q hQ (h1.d k h) g),fun H hS hT g=>h2.h H hS hT (h1.h H hS hT g)⟩
theorem Sf.right{T:Nat→Option α}(hT:Tab S n co T){x t z:α}{d:Nat}(hd:d<n)(hx:S x)(zx:∀j,j<d→co x j=0)(nx:co x d≠0)(ht:T d=dS t)(hz:∀{Y:α→Prop},(∀a,Y a→S a)→Gen S m e Y t→Gen S m e Y z)(mC:S z)(zz:∀j,j<d→co z j=0)(hr:co (m x z) d=0):Sf S m e n co T x (m x z)∧ ∀j,j<d+1→co (m x z) j=0:=by
 have cU:=F.dm (by omega) hx mC zx zz;have ml:∀j,j<d+1→co (m x z) j=0:=fun j hj=>by
  by_cases g:j=d
  ·rw[g];exact hr
  ·exact cU j (by omega)
 have hk:∀k,Dp n co k x→k≤d:=fun k h=>by
  by_cases g:k≤d
  ·exact g
  ·exact absurd (h d (by omega) hd) nx
 refine⟨⟨F.g.cl hx mC,fun k h=>fun j hj _=>ml j (by have:=hk k h;omega),fun k Q hQ h g=>?_,fun H hS hT' g=>.m g (hz hS (hT' ht))⟩,ml⟩;exact Gen.left F.g (GX.s hT hQ) hx (hz (GX.s hT hQ) (.x (.inl ⟨d,hk k h,ht⟩))) g
theorem Sf.left{T:Nat→Option α}(hT:Tab S n co T){x t z:α}{d:Nat}(hd:d<n)(hx:S x)(zx:∀j,j<d→co x j=0)(nx:co x d≠0)(ht:T d=dS t)(hz:∀{Y:α→Prop},(∀a,Y a→S a)→Gen S m e Y t→Gen S m e Y z)(mC:S z)(zz:∀j,j<d→co z j=0)(hr:co (m z x) d=0):Sf S m e n co T x (m z x)∧ ∀j,j<d+1→co (m z x) j=0:=by
 have cU:=F.dm (by omega) mC hx zz zx;have ml:∀j,j<d+1→co (m z x) j=0:=fun j hj=>by
  by_cases g:j=d
  ·rw[g];exact hr
  ·exact cU j (by omega)
 have hk:∀k,Dp n co k x→k≤d:=fun k h=>by
  by_cases g:k≤d
  ·exact g
  ·exact absurd (h d (by omega) hd) nx
 refine⟨⟨F.g.cl mC hx,fun k h=>fun j hj _=>ml j (by have:=hk k h;omega),fun k Q hQ h g=>?_,fun H hS hT' g=>.m (hz hS (hT' ht)) g⟩,ml⟩;exact Gen.right F.g (GX.s hT hQ) (hz (GX.s hT hQ) (.x (.inl ⟨d,hk k h,ht⟩))) hx g
theorem Wl.can{L:α→Prop}{T:Nat→Option α}(h:Wl S m e n o co L T []){C:Nat→Option α}(h1:∀k,(C k).isSome=(T k).isSome)
  (h2:∀{k t},C k=dS t→Gen S m e L t∧S t∧(∀j,j<k→co t j=0)∧co t k=1∧ ∀j,k<j→j<n→(C j).isSome=dU→co t j=0):Can (e:=e) S n co (Gen S m e L) C:=by
 refine⟨fun{k t} hk=>⟨?_,h2 hk⟩,fun{x} hx gc=>?_⟩
 ·have:=h1 k
  rw[hk]at this;obtain⟨u,hu⟩:=Hk.1 this.symm;exact(h.t.h hu).1
 ·obtain⟨j,_,j2,j3,j4⟩:=Clo.depth F h.t h.c n 0 (by omega) (hx.to h.g) (fun j hj=>by omega) gc
  exact⟨j,j2,by rw[h1];exact j3,j4⟩
end
end Go.Pc

namespace Go.Pc
def cd(v:Vec)(j:Nat):Int:=v.getD j 0
def od(P:Pcp)(j:Nat):Int:=match P[j]? with
 |some l=>l.o
 |none=>1
theorem zVG(l:Lvl)(P:Pcp):od (l::P) 0=l.o:=rfl
theorem zPt(l:Lvl)(P:Pcp)(j:Nat):od (l::P) (j+1)=od P j:=by simp[od]
theorem yBG:∀{P:Pcp}{v:Vec},V P v→ ∀{d:Nat},d<P.length→0≤cd v d∧cd v d<od P d
 | [],_,_,d,hd=>by simp at hd
 |l::P,[],h,_,_=>by simp[V]at h
 |l::P,a::x,h,0,_=>by simp only[V]at h;exact h.1
 |l::P,a::x,h,d+1,hd=>by simp only[V]at h;rw[zPt];exact yBG h.2 (by simpa using hd)
theorem zXU:∀{P:Pcp}{a b:Vec},V P a→V P b→(∀d,d<P.length→cd a d=cd b d)→a=b
 | [],a,b,ha,hb,_=>by simp only[V]at ha hb;rw[ha,hb]
 |l::P,[],_,h,_,_=>by simp[V]at h
 |l::P,_::_,[],_,h,_=>by simp[V]at h
 |l::P,a::x,b::y,ha,hb,h=>by simp only[V]at ha hb;have h0:a=b:=h 0 (by simp);rw[h0,zXU ha.2 hb.2 fun d hd=>h (d+1) (by simpa using hd)]
theorem zXV:∀{P:Pcp}{x y:Vec},V P x→V P y→ ∀{d:Nat},d<P.length→(∀j,j<d→cd y j=0)→(∀j,j<d→cd (mul P x y) j=cd x j)∧cd (mul P x y) d=(cd x d+cd y d)%od P d
 | [],_,_,_,_,d,hd,_=>by simp at hd
 |l::P,[],_,h,_,_,_,_=>by simp[V]at h
 |l::P,_::_,[],_,h,_,_,_=>by simp[V]at h
 |l::P,a::x,b::y,hx,hy,0,_,_=>by
  simp only[V]at hx hy;refine⟨fun j hj=>by omega,?_⟩;rw[yT,zVG];show cd _ 0=(a+b)%l.o
  by_cases g:a+b≥l.o
  ·rw[if_pos g,←Gp,Jr (by omega) (by omega)];rfl
  ·rw[if_neg g,Jr (by omega) (by omega)];rfl
 |l::P,a::x,b::y,hx,hy,d+1,hd,hz=>by
  simp only[V]at hx hy;have hb:b=0:=hz 0 (by omega);subst hb;have ih:=zXV hx.2 hy.2 (d:=d) (by simpa using hd) fun j hj=>hz (j+1) (by omega)
  rw[yT,if_neg (by omega),zPt];show(∀j,j<d+1→cd ((a+0)::mul P x y) j=cd (a::x) j)∧_;rw[Lb];refine⟨fun j hj=>?_,ih.2⟩;cases j with
  |zero=>rfl
  |succ j=>exact ih.1 j (by omega)
theorem zSA{n d:Nat}:cd (zeros n) d=0:=by unfold cd zeros;rw[J4,Jp];split<;>rfl
theorem fil{P:Pcp}(h:Ok P)(hc:vM P):Fil (V P) (mul P) (zeros P.length) P.length (od P) cd:=
 ⟨zLH P h hc,fun ha hd=>yBG ha hd,fun _=>zSA,fun ha hb h=>zXU ha hb h,fun ha hb hd hz=>zXV ha hb hd hz⟩
end Go.Pc

namespace Go.Pc
section
variable {α:Type}{S:α→Prop}{m:α→α→α}{e:α}{n:Nat}{o:Nat→Int}{co:α→Nat→Int} (F:Fil S m e n o co)
 include F
theorem Fil.pw1{t:α}{d:Nat}(hd:d<n)(ht:S t)(zt:∀j,j<d→co t j=0)(h1:co t d=1)(k:Nat):S (pw m e t k)∧(∀j,j<d→co (pw m e t k) j=0)∧co (pw m e t k) d=k%o d:=by have h:=F.pwc hd ht zt k;rw[h1,Ku]at h;exact⟨wZ F.g.toMon ht k,h⟩
theorem Fil.killl{t x:α}{d:Nat}(hd:d<n)(ht:S t)(zt:∀j,j<d→co t j=0)(h1:co t d=1)(hx:S x)(zx:∀j,j<d→co x j=0):co (m (pw m e t (o d-co x d).toNat) x) d=0:=by have hr:=F.r hx hd;obtain⟨p1,p2,p3⟩:=F.pw1 hd ht zt h1 (o d-co x d).toNat;rw[(F.ad p1 hx hd zx).2,p3,Lq,show(((o d-co x d).toNat:Nat):Int)=o d-co x d from by omega,show o d-co x d+co x d=o d from by omega,U6]
theorem Fil.invc{t u:α}{d:Nat}(hd:d<n)(ht:S t)(hu:S u)(h:m t u=e)(zt:∀j,j<d→co t j=0):(∀j,j<d→co u j=0)∧(co t d+co u d)%o d=0:=by
 have z:∀j,j<d→co u j=0:=by
  intro j
  induction j using G5 with
  |ind j ih=>
   intro hj;have h1:=(F.ad ht hu (by omega:j<n) fun i hi=>ih i hi (by omega)).2;rw[h,F.e0 (by omega),zt j hj,Lo]at h1;rw[←F.md (by omega) hu rfl];exact h1.symm
 refine⟨z,?_⟩;have h1:=(F.ad ht hu hd z).2;rw[h,F.e0 hd]at h1;exact h1.symm
theorem Fil.killr{t u x:α}{d:Nat}(hd:d<n)(ht:S t)(hu:S u)(h:m t u=e)(zt:∀j,j<d→co t j=0)(h1:co t d=1)(hx:S x):S (pw m e u (co x d).toNat)∧(∀j,j<d→co (pw m e u (co x d).toNat) j=0)∧co (m x (pw m e u (co x d).toNat)) d=0:=by
 have hr:=F.r hx hd;obtain⟨z,c⟩:=F.invc hd ht hu h zt;have hp:=F.pwc hd hu z (co x d).toNat;have hs:=wZ F.g.toMon hu (co x d).toNat;refine⟨hs,hp.1,?_⟩;rw[(F.ad hx hs hd hp.1).2,hp.2,Int.add_emod_emod,show(((co x d).toNat:Nat):Int)=co x d from by omega];have e1:co x d+co x d*co u d=co x d*(co t d+co u d):=by rw[h1,Ja2,Ku]
 rw[e1,Jk,c,Lp,Ui]
structure Rd (S:α→Prop) (m:α→α→α) (e:α) (n:Nat) (co:α→Nat→Int) (L:α→Prop) (C:Nat→Option α) (k j:Nat) (x:α):Prop where
 s:S x
 l:Gen S m e L x
 z:∀i,i<k→co x i=0
 o:co x k=1
 r:∀i,k<i→i<j→(C i).isSome=dU→co x i=0
theorem Rd.step{L:α→Prop}{C:Nat→Option α}{k j:Nat}{x z:α}(h:Rd S m e n co L C k j x)(mf:k<j)(hj:j<n)(hz:S z)(hl:Gen S m e L z)(zz:∀i,i<j→co z i=0)(hk:co (m x z) j=0):Rd S m e n co L C k (j+1) (m x z):=by
 have h1:=(F.ad h.s hz hj zz).1;refine⟨F.g.cl h.s hz,.m h.l hl,fun i hi=>?_,?_,fun i hi e7 hc=>?_⟩
 ·rw[h1 i (by omega)];exact h.z i hi
 ·rw[h1 k mf];exact h.o
 ·by_cases g:i=j
  ·rw[g];exact hk
  ·rw[h1 i (by omega)];exact h.r i hi (by omega) hc
 omit F in
theorem Rd.skip{L:α→Prop}{C:Nat→Option α}{k j:Nat}{x:α}(h:Rd S m e n co L C k j x)(hc:C j=dT∨co x j=0):Rd S m e n co L C k (j+1) x:=
  ⟨h.s,h.l,h.z,h.o,fun i hi e7 eS=>by
    by_cases g:i=j
    · subst g
      rcases hc with hc|hc
      ·rw[hc]at eS;cases eS
      ·exact hc
    ·exact h.r i hi (by omega) eS⟩
end
end Go.Pc

namespace Go.Pc
abbrev En{α:Type}(C:Nat→Option α):α→Prop:=fun a=> ∃k,C k=dS a
section
variable {α:Type}{S:α→Prop}{m:α→α→α}{e:α}{n:Nat}{o:Nat→Int}{co:α→Nat→Int} (F:Fil S m e n o co)
 include F
theorem Can.red{L:α→Prop}(hL:∀a,L a→S a){C T:Nat→Option α}(hC:Can (e:=e) S n co (Gen S m e L) C)
  (hT:∀k,k<n→(C k).isSome=dU→ ∃t,T k=dS t∧Gen S m e L t∧S t∧(∀j,j<k→co t j=0)∧co t k=1){x:α}(hx:Gen S m e L x):Gen S m e (fun a=>En T a∧S a) x:=by
 have G:=F.g;have key:∀l k:Nat,k+l=n→ ∀{x:α},Gen S m e L x→(∀j,j<k→co x j=0)→Gen S m e (fun a=>En T a∧S a) x:=by
  intro l
  induction l with
  |zero=>
   intro k hk x hx zx;have ek:=hx.in G hL;rw[F.ex ek G.ein fun d hd=>by rw[zx d (by omega),F.e0 hd]];exact .one
  |succ l ih=>
   intro k hk x hx zx;have ek:=hx.in G hL
   by_cases h0:co x k=0
   ·exact ih (k+1) (by omega) hx fun j hj=>by
     by_cases hjk:j=k
     ·subst hjk;exact h0
     ·exact zx j (by omega)
   ·obtain⟨j,j1,j2,j3,j4⟩:=hC.d hx fun h=>h0 (by rw[h];exact F.e0 (by omega))
    have hjk:j=k:=by
     rcases H5 j k with h|h|h
     ·exact absurd (zx j h) j4
     ·exact h
     ·exact absurd (j3 k h) h0
    subst hjk;obtain⟨t,t1,t2,t3,t4,t5⟩:=hT j (by omega) j2;have hk:=F.killl (d:=j) (by omega) t3 t4 t5 ek zx;have hp:=F.pw1 (d:=j) (by omega) t3 t4 t5 (o j-co x j).toNat;have hy:=ih (j+1) (by omega) (.m (t2.pw (o j-co x j).toNat) hx) fun i hi=>by
     by_cases e7:i=j
     ·subst e7;exact hk
     ·exact F.dm (d:=j) (by omega) hp.1 ek hp.2.1 zx i (by omega)
    exact Gen.right G (fun a h=>h.2) (Gen.pw (.x ⟨⟨j,t1⟩,t3⟩) _) ek hy
 exact key n 0 (by omega) hx (fun j hj=>by omega)
theorem Can.gen{L:α→Prop}(hL:∀a,L a→S a){C:Nat→Option α}(hC:Can (e:=e) S n co (Gen S m e L) C){x:α}(hx:Gen S m e L x):Gen S m e (fun a=>En C a∧S a) x:=
 Can.red F hL hC (T:=C) (fun k _ h=>by obtain⟨t,ht⟩:=Hk.1 h;obtain⟨_,a2,a3,a4,a5,_⟩:=hC.i ht;exact⟨t,ht,a2,a3,a4,a5⟩) hx
end
end Go.Pc

namespace Go.Pc
end Go.Pc

namespace Go.Pc
section
variable {A:Type}
end
end Go.Pc

namespace Go.Pc
end Go.Pc

namespace Go.Pc
end Go.Pc

namespace Go.Pc
end Go.Pc

namespace Go.Pl
open Go Go.Ab
theorem bs{α β:Type}(x:α)(f:α→Option β):(dS x).bind f=f x:=by simp only[Option.bind_some]
theorem zI{α:Type}(x y:α):cond dU x y=x:=by simp only[cond_true]
theorem zH{α:Type}(x y:α):cond dV x y=y:=by simp only[cond_false]
theorem zF{n:Int}(h1:-9223372036854775808≤n)(h2:n≤9223372036854775807):rng n=dS n:=by unfold rng;rw[if_pos];simp only[inR,J2,decide_eq_true_eq];omega
theorem vC{α:Type}(xs:List α)(i:Nat):ixO xs (i:Int)=xs[i]?:=by unfold ixO;rw[if_pos (by omega)];simp
theorem qR{α:Type}{xs:List α}{i:Nat}(h:i<xs.length):ixO xs (i:Int)=dS xs[i]:=by rw[vC];exact J6 h
theorem yF{n:Nat}(h:n≤68719476736):zV (n:Int)=dS n:=by unfold zV;rw[if_pos (by omega)];simp
theorem zS{α:Type}{xs ys:List α}(h:xs.length+ys.length≤68719476736):zX xs ys=dS (xs++ys):=by unfold zX;rw[if_pos h]
theorem zP{σ ρ:Type}{body:σ→Option (σ⊕ρ)}{r:ρ}(S:Nat→σ)(n:Nat)(h:∀i,i<n→body (S i)=dS (.inl (S (i+1))))(he:body (S n)=dS (.inr r)):zE body (S 0)=dS r:=by
 have key:∀k i,i+k=n→zE body (S i)=dS r:=by
  intro k
  induction k with
  |zero=>intro i hi;rw[yG,show i=n from by omega,he]
  |succ k ih=>intro i hi;rw[yG,h i (by omega)];exact ih (i+1) (by omega)
 exact key n 0 (by omega)
theorem uF{σ ρ:Type}{body:σ→Option (σ⊕ρ)}{Q:ρ→Prop}(I:Nat→σ→Prop)(n:Nat)(h:∀i s,i<n→I i s→(∃s',body s=dS (.inl s')∧I (i+1) s')∨ ∃r,body s=dS (.inr r)∧Q r)
  (he:∀s,I n s→ ∃r,body s=dS (.inr r)∧Q r){s:σ}(h0:I 0 s):∃r,zE body s=dS r∧Q r:=by
 have key:∀k i s,i+k=n→I i s→ ∃r,zE body s=dS r∧Q r:=by
  intro k
  induction k with
  |zero=>
   intro i s hi hs;obtain rfl:i=n:=by omega
   obtain⟨r,h1,h2⟩:=he s hs;exact⟨r,by rw[yG,h1],h2⟩
  |succ k ih=>
   intro i s hi hs;rcases h i s (by omega) hs with⟨s',h1,h2⟩|⟨r,h1,h2⟩
   ·rw[yG,h1];exact ih (i+1) s' (by omega) h2
   ·exact⟨r,by rw[yG,h1],h2⟩
 exact key n 0 s (by omega) h0
def zPu{ρ:Type}:Option ρ→Unit⊕ρ
 |none=>.inl ()
 |some r=>.inr r
theorem cs(i:Nat):(i:Int)+1=((i+1:Nat):Int):=by omega
theorem zQp{ρ:Type}{body:Int→Option (Int⊕(Unit⊕ρ))}(n:Nat)(t:Nat→Option ρ)(i0:Nat)(hn:i0≤n)
  (h:∀i,i0≤i→i<n→(∀j,i0≤j→j<i→t j=dT)→body (i:Int)=dS (match t i with|none=>.inl ((i+1:Nat):Int)|some r=>.inr (.inr r)))
  (he:(∀j,i0≤j→j<n→t j=dT)→body (n:Int)=dS (.inr (.inl ()))):
  zE body (i0:Int)=dS (zPu ((G7 i0 (n-i0)).findSome? t)):=by
 have key:∀k i,i0≤i→i+k=n→(∀j,i0≤j→j<i→t j=dT)→zE body (i:Int)=dS (zPu ((G7 i k).findSome? t)):=by
  intro k
  induction k with
  |zero=>
   intro i hi hk hp;obtain rfl:i=n:=by omega
   rw[yG,he hp];rfl
  |succ k ih=>
   intro i hi hk hp;rw[yG,h i hi (by omega) hp,Hi,Qe];cases ht:t i with
   |some r=>rfl
   |none=>
    simp only
    exact ih (i+1) (by omega) (by omega) fun j h1 h2=>by
     rcases Js j i with h3|h3
     ·exact hp j h1 h3
     ·rw[show j=i from by omega];exact ht
 exact key (n-i0) i0 (Jd _) (by omega) fun j h1 h2=>by omega
theorem zSB{n:Nat}{b:Nat→Bool}:zPu ((G7 0 n).findSome? (fun i=>if b i then dT else dS dV))=if(Jn n).all b then .inl ()else .inr dV:=by
 have key:∀l:List Nat,zPu (l.findSome? (fun i=>if b i then dT else dS dV))=if l.all b then .inl ()else .inr dV:=by
  intro l
  induction l with
  |nil=>rfl
  |cons x l ih=>
   rw[Qe,Gw];cases hb:b x
   ·rfl
   ·simpa using ih
 rw[key,List.range_eq_range']
theorem zQq{body:Int→Option (Int⊕(Unit⊕Bool))}(n:Nat)(b:Nat→Bool)
  (h:∀i,i<n→(∀j,j<i→b j=dU)→body (i:Int)=dS (if b i then .inl ((i+1:Nat):Int)else .inr (.inr dV)))
  (he:(∀j,j<n→b j=dU)→body (n:Int)=dS (.inr (.inl ()))):
  zE body 0=dS (if(Jn n).all b then .inl ()else .inr dV):=by
 have:=zQp (body:=body) n (fun i=>if b i then dT else dS dV) 0 (Kc _) (fun i _ hi hp=>by
  rw[h i hi fun j hj=>by
   have:=hp j (Kc _) hj;split at this
   ·assumption
   ·cases this]
  cases b i<;>rfl) (fun hp=>he fun j hj=>by
   have:=hp j (Kc _) hj;split at this
   ·assumption
   ·cases this)
 rw[Uv]at this;exact this.trans (congrArg dS (zSB (n:=n) (b:=b)))
theorem zVH{α:Type}[BEq α]{t:α→α→Option Bool}{body:Int→Option (Int⊕(Unit⊕Bool))}{x y:List α}
  (hb:∀i,body i=cond (decide (i<(x.length:Int))) ((ixO x i).bind fun v1=>(ixO y i).bind fun v2=>(t v1 v2).bind fun r3=>cond (!r3) (dS (.inr (.inr dV))) ((rng (i+1)).bind fun v4=>dS (.inl v4))) (dS (.inr (.inl ()))))
  (hl:x.length≤68719476736)(mX:x.length=y.length)(ht:∀u∈x,∀v∈y,t u v=dS (u==v)):zE body 0=dS (if x==y then .inl ()else .inr dV):=by
 have h:=zQq (body:=body) x.length (fun i=>match x[i]?,y[i]? with|some u,dS v=>u==v|_,_=>dU) (fun i hi _=>by
  have ey:i<y.length:=by omega
  rw[hb];simp only[dX (show((i:Int))<(x.length:Int)from by omega),zI];rw[qR hi,qR ey];simp only[bs,ht _ (Kj hi) _ (Kj ey),J6 hi,J6 ey];cases x[i]==y[i]
  ·rfl
  ·simp only[J3,zH,if_true]
   rw[zF (by omega) (by omega),cs];rfl) (fun _=>by
  rw[hb];simp only[dW (show¬((x.length:Int))<(x.length:Int)from by omega),zH])
 rw[h]
 congr 2
 have key:∀(x y:List α),x.length=y.length→((Jn x.length).all (fun i=>match x[i]?,y[i]? with|some u,dS v=>u==v|_,_=>dU))=(x==y):=by
  intro x
  induction x with
  |nil=>intro y hy;cases y with|nil=>rfl|cons _ _=>simp at hy
  |cons u x ih=>
   intro y hy;cases y with
   |nil=>simp at hy
   |cons v y=>
    rw[Jj,Us,Gw,List.all_map];simp only[Ul,Function.comp_def,Jan];rw[ih y (by simpa using hy)];rfl
 rw[key x y mX]
theorem zPv{α:Type}[BEq α]{t:α→α→Option Bool}{f:Option Bool}{body:Int→Option (Int⊕(Unit⊕Bool))}{x y:List α}
  (hf:f=cond ((x.length:Int) != (y.length:Int)) (dS dV) ((zE body 0).bind fun r=>match r with|.inl _=>dS dU|.inr r=>dS r))
  (hb:∀i,body i=cond (decide (i<(x.length:Int))) ((ixO x i).bind fun v1=>(ixO y i).bind fun v2=>(t v1 v2).bind fun r3=>cond (!r3) (dS (.inr (.inr dV))) ((rng (i+1)).bind fun v4=>dS (.inl v4))) (dS (.inr (.inl ()))))
  (hl:x.length≤68719476736)(ht:∀u∈x,∀v∈y,t u v=dS (u==v)):f=dS (x==y):=by
 rw[hf]
 by_cases mX:x.length=y.length
 ·rw[zVH hb hl mX ht]
  have:((x.length:Int) != (y.length:Int))=dV:=by simp[mX]
  rw[this];cases x==y<;>rfl
 ·have:((x.length:Int) != (y.length:Int))=dU:=by simp;omega
  rw[this];have h2:(x==y)=dV:=by
   have key:∀(x y:List α),x.length≠y.length→(x==y)=dV:=by
    intro x
    induction x with
    |nil=>intro y hy;cases y with|nil=>simp at hy|cons _ _=>rfl
    |cons u x ih=>
     intro y hy;cases y with
     |nil=>rfl
     |cons v y=>
      show(u==v&&x==y)=dV;rw[ih y (by simpa using hy),Bool.and_false]
   exact key x y mX
  rw[h2];rfl
end Go.Pl

namespace Go.Pl
open Go Go.Ab
end Go.Pl

namespace Go.Pl
open Go Go.Ab Go.Wk
abbrev VL{α:Type}(V:α→Prop)(xs:List α):Prop:=xs.length≤maxLen∧ ∀x∈xs,V x
abbrev c1(x:List Int):Nat:=x.length
end Go.Pl

namespace Go.Pl
open Go Go.Ab Go.Wk
def IsB(o:Option Bool)(P:Prop):Prop:=(o=dS dU∧P)∨(o=dS dV∧ ¬P)
theorem IsB.iff{o:Option Bool}{P Q:Prop}(h:IsB o P)(hpq:P↔Q):IsB o Q:=by grind
theorem IsB.of_bool{b:Bool}{P:Prop}(h:b=dU↔P):IsB (dS b) P:=by
 cases b
 ·exact .inr (by grind)
 ·exact .inl ⟨rfl,h.1 rfl⟩
theorem chk{ρ:Type}{body:Int→Option (Int⊕(Unit⊕ρ))}(n i0:Nat)(hn:i0≤n)(P:Nat→Prop)(bad:Nat→ρ)
  (h:∀i,i0≤i→i<n→(∀j,i0≤j→j<i→P j)→(body (i:Int)=dS (.inl ((i+1:Nat):Int))∧P i)∨(body (i:Int)=dS (.inr (.inr (bad i)))∧ ¬P i))
  (he:body (n:Int)=dS (.inr (.inl ()))):
  (zE body (i0:Int)=dS (.inl ())∧ ∀j,i0≤j→j<n→P j)∨ ∃i,i0≤i∧i<n∧zE body (i0:Int)=dS (.inr (bad i))∧ ¬P i:=by
 have key:∀k i,i0≤i→i+k=n→(∀j,i0≤j→j<i→P j)→(zE body (i:Int)=dS (.inl ())∧ ∀j,i0≤j→j<n→P j)∨ ∃q,i0≤q∧q<n∧zE body (i:Int)=dS (.inr (bad q))∧ ¬P q:=by
  intro k
  induction k with
  |zero=>
   intro i hi hk hp;obtain rfl:i=n:=by omega
   grind[yG]
  |succ k ih=>
   intro i hi hk hp;rcases h i hi (by omega) hp with⟨h1,h2⟩|⟨h1,h2⟩
   ·have:=ih (i+1) (by omega) (by omega) (by grind)
    rw[yG,h1];exact this
   grind[yG]
 exact key (n-i0) i0 (Jd _) (by omega) fun j a b=>by omega
theorem tW{f:Option Bool}{body:Int→Option (Int⊕(Unit⊕Bool))}(n:Nat)(P:Nat→Prop)
  (hf:f=(zE body 0).bind fun r=>match r with|.inl _=>dS dU|.inr r=>dS r)
  (h:∀i,i<n→(∀j,j<i→P j)→(body (i:Int)=dS (.inl ((i+1:Nat):Int))∧P i)∨(body (i:Int)=dS (.inr (.inr dV))∧ ¬P i))
  (he:body (n:Int)=dS (.inr (.inl ()))):IsB f (∀i,i<n→P i):=by
 rcases chk n 0 (Kc _) P (fun _=>dV) (fun i _ hi hp=>h i hi fun j hj=>hp j (Kc _) hj) he with⟨h1,h2⟩|⟨i,_,hi,h1,h2⟩
 ·refine .inl ⟨?_,fun i hi=>h2 i (Kc _) hi⟩
  rw[hf];rw[show((0:Nat):Int)=0 from rfl]at h1;rw[h1,bs]
 ·refine .inr ⟨?_,fun hp=>h2 (hp i hi)⟩
  rw[hf];rw[show((0:Nat):Int)=0 from rfl]at h1;rw[h1,bs]
theorem uA{o:Option Bool}{P:Prop}{ρ:Type}{bad:ρ}{i:Nat}{g:Option (Int⊕(Unit⊕ρ))}(h:IsB o P)(hi:i<9223372036854775807)
  (hg:g=o.bind fun r=>cond (!r) (dS (.inr (.inr bad))) ((rng ((i:Int)+1)).bind fun v=>dS (.inl v))):(g=dS (.inl ((i+1:Nat):Int))∧P)∨(g=dS (.inr (.inr bad))∧ ¬P):=by
 subst hg;rcases h with⟨h1,h2⟩|⟨h1,h2⟩
 ·refine .inl ⟨?_,h2⟩
  rw[h1,bs,J3,zH,zF (by omega) (by omega),bs,cs]
 grind
theorem yJ{i n:Nat}(h:i<n):decide ((i:Int)<(n:Int))=dU:=by grind
theorem tH{n:Nat}:decide ((n:Int)<(n:Int))=dV:=by simp
theorem zAr(x a b:Int):IsB (zOq x a b) (a≤x∧x≤b):=by
 unfold zOq
 by_cases h:x≥a
 ·rw[dX h,zI];grind[IsB.of_bool]
 ·rw[dW h,zH];exact .inr ⟨rfl,by omega⟩
theorem tX(x a b:Int):IsB (zIt x a b) (a≤x∧x≤b):=zAr x a b
def Prime(p:Int):Prop:=p=2∨p=3∨p=5∨p=7
theorem zCn(x:Int):IsB (zQO x) (Prime x):=by
 unfold zQO Prime
 by_cases h2:x=2
 ·subst h2;exact .inl ⟨rfl,.inl rfl⟩
 ·rw[show(x==2)=dV from by grind,zH]
  by_cases h3:x=3
  ·subst h3;exact .inl (by simp)
  ·rw[show(x==3)=dV from by grind,zH]
   by_cases h5:x=5
   ·subst h5;exact .inl (by simp)
   ·rw[show(x==5)=dV from by grind,zH]
    grind[IsB.of_bool]
theorem zHC(x:Int):IsB (zOj x) (Prime x):=zCn x
abbrev at0(v:List Int)(i:Nat):Int:=v.getD i 0
theorem zZ{v:List Int}{i:Nat}(h:i<v.length):ixO v (i:Int)=dS (at0 v i):=by rw[qR h,at0,J4,J6 h];rfl
def zLI(os v:List Int):Prop:=v.length=os.length∧ ∀i,i<v.length→0≤at0 v i∧at0 v i≤at0 os i-1
def Exp(os v:List Int)(k:Nat):Prop:=zLI os v∧ ∀i,i≤k→at0 v i=0
def Os(os:List Int):Prop:=os.length≤14∧ ∀i,i<os.length→Prime (at0 os i)
theorem Prime.pos{p:Int}(h:Prime p):2≤p∧p≤7:=by unfold Prime at h;omega
theorem uV{x:SPr}{v:List Int}(ho:Os x.zA):IsB (zIx x v) (zLI x.zA v):=by
 unfold zIx
 by_cases h:v.length=x.zA.length
 ·rw[show((v.length:Int) != (x.zA.length:Int))=dV from by simp[h],zH]
  have h6:=ho.1;refine(tW v.length (fun i=>0≤at0 v i∧at0 v i≤at0 x.zA i-1) rfl (fun i hi _=>?_) ?_).iff ⟨fun g=>⟨h,g⟩,fun g=>g.2⟩
  ·have hp:=(ho.2 i (by omega)).pos
   refine uA (zAr _ _ _) (by omega) ?_;unfold zPK;rw[yJ hi,zI,zZ hi,bs,zZ (by omega),bs,zF (by omega) (by omega),bs]
  ·unfold zPK
   simp
 ·rw[show((v.length:Int) != (x.zA.length:Int))=dU from by simp;omega,zI]
  exact .inr ⟨rfl,fun g=>h g.1⟩
theorem zLJ{v:List Int}(hl:v.length≤14):IsB (f_y v) (∀i,i<v.length→at0 v i=0):=by
 refine tW v.length (fun i=>at0 v i=0) rfl (fun i hi _=>?_) ?_
 ·refine uA (o:=dS (at0 v i==0)) (IsB.of_bool (by simp)) (by omega) ?_
  unfold zM2;rw[yJ hi,zI,zZ hi,bs,bs];rfl
 ·unfold zM2
  simp
theorem zC6{x:SPr}{k:Nat}{v:List Int}(ho:Os x.zA)(hk:k<x.zA.length):IsB (zT5 x k v) (Exp x.zA v k):=by
 have h6:=ho.1;unfold zT5;rcases uV (v:=v) ho with⟨h1,h2⟩|⟨h1,h2⟩
 ·have hl:=h2.1
  rw[h1,bs,zI,zF (by omega) (by omega),bs];have hs:zL v 0 ((k:Int)+1)=dS (v.take (k+1)):=by
   unfold zL
   grind
  rw[hs,bs];have hb:=zLJ (v:=v.take (k+1)) (by grind);have cD:(∀i,i<(v.take (k+1)).length→at0 (v.take (k+1)) i=0)↔Exp x.zA v k:=by
   have e:∀i,i≤k→at0 (v.take (k+1)) i=at0 v i:=by grind
   rw[L5,H4 (by omega)];exact⟨fun g=>⟨h2,by grind⟩,fun g i hi=>by rw[e i (by omega)];exact g.2 i (by omega)⟩
  grind
 ·rw[h1,bs,zH]
  exact .inr ⟨rfl,fun g=>h2 g.1⟩
theorem zCU{os v:List Int}{k:Nat}(ho:Os os)(hk:k<os.length):IsB (zKD os v k) (Exp os v k):=by
 have h6:=ho.1;unfold zKD
 by_cases h:v.length=os.length
 ·rw[show((v.length:Int) != (os.length:Int))=dV from by simp[h],zH]
  refine(tW v.length (fun i=>(0≤at0 v i∧at0 v i≤at0 os i-1)∧(i≤k→at0 v i=0)) rfl (fun i hi _=>?_) ?_).iff ⟨fun g=>⟨⟨h,by grind⟩,by grind⟩,fun g i hi=>⟨g.1.2 i hi,fun hk=>g.2 i hk⟩⟩
  ·have hp:=(ho.2 i (by omega)).pos
   unfold zIu;rw[yJ hi,zI,zZ hi,bs,zZ (by omega),bs,zF (by omega) (by omega),bs];rcases tX (at0 v i) 0 (at0 os i-1)with⟨h1,h2⟩|⟨h1,h2⟩
   ·rw[h1,bs,J3,zH]
    by_cases h3:(i:Int)≤(k:Int)
    ·rw[dX h3,zI,bs]
     by_cases h4:at0 v i=0
     ·rw[show(at0 v i != 0)=dV from by grind,zH,zF (by omega) (by omega),bs,cs]
      grind
     grind
    ·rw[dW h3,zH,zF (by omega) (by omega),bs,cs]
     grind
   grind
  ·unfold zIu
   simp
 ·rw[show((v.length:Int) != (os.length:Int))=dU from by simp;omega,zI]
  exact .inr ⟨rfl,fun g=>h g.1.1⟩
end Go.Pl

namespace Go.Pl
open Go Go.Ab Go.Wk
theorem yCH{σ ρ:Type}{body:σ→Option (σ⊕(Unit⊕ρ))}(S:Nat→σ)(n i0:Nat)(hn:i0≤n)(P:Nat→Prop)(bad:Nat→ρ)
  (h:∀i,i0≤i→i<n→(∀j,i0≤j→j<i→P j)→(body (S i)=dS (.inl (S (i+1)))∧P i)∨(body (S i)=dS (.inr (.inr (bad i)))∧ ¬P i))
  (he:body (S n)=dS (.inr (.inl ()))):
  (zE body (S i0)=dS (.inl ())∧ ∀j,i0≤j→j<n→P j)∨ ∃i,i0≤i∧i<n∧zE body (S i0)=dS (.inr (bad i))∧ ¬P i:=by
 have key:∀k i,i0≤i→i+k=n→(∀j,i0≤j→j<i→P j)→(zE body (S i)=dS (.inl ())∧ ∀j,i0≤j→j<n→P j)∨ ∃q,i0≤q∧q<n∧zE body (S i)=dS (.inr (bad q))∧ ¬P q:=by
  intro k
  induction k with
  |zero=>
   intro i hi hk hp;obtain rfl:i=n:=by omega
   grind[yG]
  |succ k ih=>
   intro i hi hk hp;rcases h i hi (by omega) hp with⟨h1,h2⟩|⟨h1,h2⟩
   ·have:=ih (i+1) (by omega) (by omega) (by grind)
    rw[yG,h1];exact this
   grind[yG]
 exact key (n-i0) i0 (Jd _) (by omega) fun j a b=>by omega
theorem sU{a b:Int}(h:a=b):(a != b)=dV:=by simp[h]
theorem tI{a b:Int}(h:a≠b):(a != b)=dU:=by simp[h]
def pr(os:List Int):Nat→Int
 |0=>1
 |i+1=>pr os i*at0 os i
def cp(os:List Int):Nat→Int
 |0=>1
 |i+1=>if cp os i≤729 then cp os i*at0 os i else cp os i
theorem zB3{os:List Int}:∀{i:Nat},(∀j,j<i→Prime (at0 os j))→1≤pr os i
 |0,_=>by simp[pr]
 |i+1,h=>by have h1:=zB3 (os:=os) (i:=i) (by grind);have h2:=(h i (by omega)).pos;simp only[pr];have:(1:Int)*1≤pr os i*at0 os i:=L0 h1 (by omega) (by omega) (by omega);omega
theorem zPw{os:List Int}{i:Nat}(h:∀j,j≤i→Prime (at0 os j)):pr os i≤pr os (i+1):=by have h1:=zB3 (os:=os) (i:=i) (by grind);have h2:=(h i (Jd _)).pos;simp only[pr];have:pr os i*1≤pr os i*at0 os i:=Li (by omega) (by omega);omega
theorem zKv{os:List Int}{n:Nat}(h:∀j,j<n→Prime (at0 os j)):∀k,k≤n→pr os (n-k)≤pr os n
 |0,_=>Jaz _
 |k+1,hk=>by
  have h1:=zKv h k (by omega);have h2:=zPw (os:=os) (i:=n-(k+1)) (by grind)
  grind
theorem zLK{os:List Int}:∀{i:Nat},(∀j,j<i→Prime (at0 os j))→(cp os i=pr os i∧pr os i≤729∨729<cp os i∧cp os i≤5103∧729<pr os i)
 |0,_=>by simp[cp,pr]
 |i+1,h=>by
  have h0:∀j,j<i→Prime (at0 os j):=by grind
  have h2:=(h i (by omega)).pos;have h3:=zPw (os:=os) (i:=i) (by grind);have aS:=zB3 h0;simp only[cp];rcases zLK h0 with⟨h1,h4⟩|⟨h1,h4,h5⟩
  ·rw[h1,if_pos h4]
   have h6:pr os i*at0 os i≤729*7:=L0 h4 h2.2 (by omega) (by omega);simp only[pr]at h3 ⊢
   grind
  omega
def zGk(x:SPr)(i:Nat):Prop:=Exp x.zA (x.zN.getD i []) i∧(x.zC.getD i []).length+i+1=x.zA.length∧ ∀j,j<(x.zC.getD i []).length→Exp x.zA ((x.zC.getD i []).getD j []) i
structure zHD (x:SPr):Prop where
 os:True∧ ∀i,i<x.zA.length→Prime (at0 x.zA i)
 pl:x.zN.length=x.zA.length
 cl:x.zC.length=x.zA.length
 tl:∀i,i<x.zA.length→zGk x i
structure Pres (x:SPr):Prop where
 os:Os x.zA
 pl:x.zN.length=x.zA.length
 cl:x.zC.length=x.zA.length
 tl:∀i,i<x.zA.length→zGk x i
theorem Pres.w{x:SPr}(h:Pres x):zHD x:=⟨⟨trivial,h.os.2⟩,h.pl,h.cl,h.tl⟩
structure jU (x:SPr):Prop extends Pres x where
 n6:x.zA.length≤6
 pr:pr x.zA x.zA.length≤729
theorem zR{α:Type}{v:List α}{i:Nat}(d:α)(h:i<v.length):ixO v (i:Int)=dS (v.getD i d):=by grind[qR]
theorem zN5{x:SPr}(ho:Os x.zA)(hp:x.zN.length=x.zA.length)(hc:x.zC.length=x.zA.length){i:Nat}(hi:i<x.zA.length):
  (zOs x i=dS (.inl ((i+1:Nat):Int))∧zGk x i)∨(zOs x i=dS (.inr (.inr dV))∧ ¬zGk x i):=by
 have h6:=ho.1;unfold zOs;rw[yJ hi,zI,zR [] (by omega),bs];rcases zC6 (v:=x.zN.getD i []) ho hi with⟨h1,h2⟩|⟨h1,h2⟩
 ·rw[h1,bs,J3,zH,zR [] (by omega),bs,zF (by omega) (by omega),bs,zF (by omega) (by omega),bs]
  by_cases hl:(x.zC.getD i []).length+i+1=x.zA.length
  ·rw[sU (by omega),zH,bs]
   rcases chk (body:=zT6 x i (x.zC.getD i [])) (x.zC.getD i []).length 0 (Kc _) (fun j=>Exp x.zA ((x.zC.getD i []).getD j []) i) (fun _=>dV) (fun j _ hj _=>by
     refine uA (zC6 ho hi) (by omega) ?_;unfold zT6;rw[yJ hj,zI,zR [] hj,bs]) (by
     unfold zT6;simp)with⟨g1,g2⟩|⟨j,_,hj,g1,g2⟩
   ·rw[show((0:Nat):Int)=0 from rfl]at g1
    rw[g1,bs];simp only
    rw[zF (by omega) (by omega),bs,cs];exact .inl ⟨rfl,h2,hl,by grind⟩
   ·rw[show((0:Nat):Int)=0 from rfl]at g1
    rw[g1,bs];exact .inr ⟨rfl,fun g=>g2 (g.2.2 j hj)⟩
  ·rw[tI (by omega),zI]
   exact .inr ⟨rfl,fun g=>hl g.2.1⟩
 ·rw[h1,bs,Jo,zI]
  exact .inr ⟨rfl,fun g=>h2 g.1⟩
theorem zN6{x:SPr}(ho:Os x.zA)(hp:x.zN.length=x.zA.length)(hc:x.zC.length=x.zA.length){i:Nat}(hi:i<x.zA.length):
  (zKE x i=dS (.inl ((i+1:Nat):Int))∧zGk x i)∨(zKE x i=dS (.inr (.inr dV))∧ ¬zGk x i):=by
 have h6:=ho.1;unfold zKE;rw[yJ hi,zI,zR [] (by omega),bs];rcases zCU (v:=x.zN.getD i []) ho hi with⟨h1,h2⟩|⟨h1,h2⟩
 ·rw[h1,bs,J3,zH,zR [] (by omega),bs,zF (by omega) (by omega),bs,zF (by omega) (by omega),bs]
  by_cases hl:(x.zC.getD i []).length+i+1=x.zA.length
  ·rw[sU (by omega),zH]
   rcases chk (body:=zOl x i) (x.zC.getD i []).length 0 (Kc _) (fun j=>Exp x.zA ((x.zC.getD i []).getD j []) i) (fun _=>dV) (fun j _ hj _=>by
     refine uA (zCU ho hi) (by omega) ?_;unfold zOl;rw[zR [] (by omega),bs,yJ hj,zI,bs,zR [] hj,bs]) (by
     unfold zOl;rw[zR [] (by omega),bs,tH,zH])with⟨g1,g2⟩|⟨j,_,hj,g1,g2⟩
   ·rw[show((0:Nat):Int)=0 from rfl]at g1
    rw[g1,bs];simp only
    rw[zF (by omega) (by omega),bs,cs];exact .inl ⟨rfl,h2,hl,by grind⟩
   ·rw[show((0:Nat):Int)=0 from rfl]at g1
    rw[g1,bs];exact .inr ⟨rfl,fun g=>g2 (g.2.2 j hj)⟩
  ·rw[tI (by omega),zI]
   exact .inr ⟨rfl,fun g=>hl g.2.1⟩
 ·rw[h1,bs,Jo,zI]
  exact .inr ⟨rfl,fun g=>h2 g.1⟩
theorem zLL{x:SPr}(h6:x.zA.length≤6):
  (zE (zOr x) (1,0)=dS (.inl ())∧Os x.zA∧pr x.zA x.zA.length≤729)∨(zE (zOr x) (1,0)=dS (.inr dV)∧ ¬(Os x.zA∧pr x.zA x.zA.length≤729)):=by
 rcases yCH (body:=zOr x) (fun i=>(pr x.zA i,(i:Int))) x.zA.length 0 (Kc _) (fun i=>Prime (at0 x.zA i)∧pr x.zA (i+1)≤729) (fun _=>dV) (fun i _ hi bx=>by
   have hp:∀j,j<i→Prime (at0 x.zA j):=by grind
   have aS:=zB3 hp;have eJ:pr x.zA i≤729:=by
    cases i with
    |zero=>simp[pr]
    |succ i=>grind
   unfold zOr;rw[yJ hi,zI,zZ hi,bs];rcases zCn (at0 x.zA i)with⟨h1,h2⟩|⟨h1,h2⟩
   ·have h3:=h2.pos
    have h4:pr x.zA i*at0 x.zA i≤729*7:=L0 eJ h3.2 (by omega) (by omega);have h5:1*1≤pr x.zA i*at0 x.zA i:=L0 aS (by omega) (by omega) (by omega);simp only
    rw[h1,bs,J3,zH,zF (by omega) (by omega),bs]
    by_cases h7:pr x.zA i*at0 x.zA i> 729
    ·rw[dX h7,zI]
     exact .inr ⟨rfl,by grind[pr]⟩
    ·rw[dW h7,zH,bs,zF (by omega) (by omega),bs,cs]
     exact .inl ⟨rfl,h2,by grind[pr]⟩
   grind) (by
   unfold zOr;simp)with⟨g1,g2⟩|⟨i,_,hi,g1,g2⟩
 ·refine .inl ⟨g1,⟨by omega,by grind⟩,?_⟩
  cases hn:x.zA.length with
  |zero=>simp[pr]
  |succ n=>grind
 ·refine .inr ⟨g1,fun⟨h1,h2⟩=>g2 ⟨h1.2 i hi,?_⟩⟩
  have:=zKv (os:=x.zA) (n:=x.zA.length) h1.2 (x.zA.length-(i+1)) (by omega)
  grind
theorem zAG{os:List Int}(ho:Os os):f_S os=dS (cp os os.length):=by
 have h6:=ho.1;unfold f_S;rw[show(1,0)=(fun i=>(cp os i,(i:Int))) 0 from rfl,zP (body:=zQL os) (r:=cp os os.length) (fun i=>(cp os i,(i:Int))) os.length (fun i hi=>by
  have hp:=(ho.2 i hi).pos;have hc:=zLK (os:=os) (i:=i) fun j hj=>ho.2 j (by omega)
  have aS:=zB3 (os:=os) (i:=i) fun j hj=>ho.2 j (by omega)
  unfold zQL;rw[yJ hi,zI];simp only[cp]
  by_cases h:cp os i≤729
  ·have h4:cp os i*at0 os i≤729*7:=L0 h hp.2 (by omega) (by omega)
   have h5:1*1≤cp os i*at0 os i:=L0 (by omega) (by omega) (by omega) (by omega);rw[dX h,zI,zZ hi,bs,zF (by omega) (by omega),bs,zF (by omega) (by omega),bs,cs,if_pos h]
  ·rw[dW h,zH,zF (by omega) (by omega),bs,cs,if_neg h]) (by
  unfold zQL;simp),bs]
theorem zDH{x:SPr}(hl:x.zA.length≤1048576):IsB (f_v x) (jU x):=by
 unfold f_v
 by_cases h6:x.zA.length≤6
 ·rw[dW (by omega),zH]
  by_cases hp:x.zN.length=x.zA.length
  ·rw[sU (by omega),zH]
   by_cases hc:x.zC.length=x.zA.length
   ·rw[sU (by omega),zH]
    rcases zLL h6 with⟨h1,h2,h3⟩|⟨h1,h2⟩
    ·rw[h1,bs]
     exact(tW (f:=(zE (zOs x) 0).bind fun r=>match r with|.inl _=>dS dU|.inr r=>dS r) x.zA.length (zGk x) rfl (by grind[zN5]) (by unfold zOs;simp)).iff ⟨fun g=>⟨⟨h2,hp,hc,g⟩,h6,h3⟩,fun g=>g.tl⟩
    ·rw[h1,bs]
     exact .inr ⟨rfl,fun g=>h2 ⟨g.os,g.pr⟩⟩
   ·rw[tI (by omega),zI]
    exact .inr ⟨rfl,fun g=>hc g.cl⟩
  ·rw[tI (by omega),zI]
   exact .inr ⟨rfl,fun g=>hp g.pl⟩
 ·rw[dX (by omega),zI]
  exact .inr ⟨rfl,fun g=>h6 g.n6⟩
theorem wP{x:SPr}(hl:x.zA.length≤1048576):IsB (f_k x) (jU x):=by
 unfold f_k
 by_cases h6:x.zA.length≤6
 ·rw[dW (by omega),zH]
  by_cases hp:x.zN.length=x.zA.length
  ·rw[sU (by omega),zH]
   by_cases hc:x.zC.length=x.zA.length
   ·rw[sU (by omega),zH]
    rcases chk (body:=zQM x) x.zA.length 0 (Kc _) (fun i=>Prime (at0 x.zA i)) (fun _=>dV) (fun i _ hi _=>by
      refine uA (zHC _) (by omega) ?_;unfold zQM;rw[yJ hi,zI,zZ hi,bs]) (by
      unfold zQM;simp)with⟨g1,g2⟩|⟨i,_,hi,g1,g2⟩
    ·rw[show((0:Nat):Int)=0 from rfl]at g1
     have ho:Os x.zA:=⟨by omega,by grind⟩;have hcp:=zLK (os:=x.zA) (i:=x.zA.length) ho.2;rw[g1,bs];simp only
     rw[zAG ho,bs]
     by_cases h7:cp x.zA x.zA.length> 729
     ·rw[dX h7,zI]
      exact .inr ⟨rfl,fun g=>by have:=g.pr;omega⟩
     ·rw[dW h7,zH]
      exact(tW (f:=(zE (zKE x) 0).bind fun r=>match r with|.inl _=>dS dU|.inr r=>dS r) x.zA.length (zGk x) rfl (by grind[zN6]) (by unfold zKE;simp)).iff ⟨fun g=>⟨⟨ho,hp,hc,g⟩,h6,by omega⟩,fun g=>g.tl⟩
    ·rw[show((0:Nat):Int)=0 from rfl]at g1
     rw[g1,bs];exact .inr ⟨rfl,fun g=>g2 (g.os.2 i hi)⟩
   ·rw[tI (by omega),zI]
    exact .inr ⟨rfl,fun g=>hc g.cl⟩
  ·rw[tI (by omega),zI]
   exact .inr ⟨rfl,fun g=>hp g.pl⟩
 ·rw[dX (by omega),zI]
  exact .inr ⟨rfl,fun g=>h6 g.n6⟩
end Go.Pl

namespace Go.Pl
open Go Go.Ab Go.Wk Go.Pc
def lvl(x:SPr)(i:Nat):Lvl:=⟨at0 x.zA i,(x.zN.getD i []).drop (i+1),(x.zC.getD i []).map (·.drop (i+1))⟩
def suf(x:SPr)(k:Nat):Pcp:=(G7 k (x.zA.length-k)).map (lvl x)
theorem xX(x:SPr)(k:Nat):(suf x k).length=x.zA.length-k:=by simp[suf]
theorem yW{x:SPr}{k:Nat}(h:k<x.zA.length):suf x k=lvl x k::suf x (k+1):=by unfold suf;rw[show x.zA.length-k=(x.zA.length-(k+1))+1 from by omega,Hi,Jl]
theorem zAg{x:SPr}{k:Nat}(h:x.zA.length≤k):suf x k=[]:=by unfold suf;simp_all
theorem zBV{os v:List Int}{k:Nat}(h:Exp os v k)(hk:k<os.length):v=zeros (k+1)++v.drop (k+1):=by
 have h1:=h.1.1;apply L9;intro i;rw[Kd];simp only[zeros,Kk,Jp,La];split
 ·rename_i hi
  have h2:=h.2 i (by omega)
  grind
 grind
theorem zSC{x:SPr}:∀(d k:Nat)(v:List Int),k+d=x.zA.length→v.length=d→(∀i,i<d→0≤at0 v i∧at0 v i≤at0 x.zA (k+i)-1)→V (suf x k) v
 |0,k,v,hk,hv,_=>by rw[zAg (by omega)];simpa[V]using hv
 |d+1,k,v,hk,hv,h=>by
  rw[yW (by omega)]
  match v,hv with
  |a::v,hv=>
   have h0:=h 0 (by omega);simp only[at0,Qd,Jam]at h0;refine⟨⟨h0.1,by simp only[lvl,at0];omega⟩,zSC d (k+1) v (by omega) (by grind) fun i hi=>?_⟩
   grind
theorem zLM{x:SPr}{v:List Int}{k:Nat}(h:Exp x.zA v k)(hk:k<x.zA.length):V (suf x (k+1)) (v.drop (k+1)):=by
 have h1:=h.1.1;refine zSC (x.zA.length-(k+1)) (k+1) _ (by omega) (by grind) fun i hi=>?_
 have:=h.1.2 (k+1+i) (by omega)
 grind
theorem zHD.ok{x:SPr}(h:zHD x):∀(d k:Nat),k+d=x.zA.length→Pc.Ok (suf x k)
 |0,k,hk=>by rw[zAg (by omega)];simp only[Pc.Ok]
 |d+1,k,hk=>by
  rw[yW (by omega)];obtain⟨t1,t2,t3⟩:=h.tl k (by omega);refine⟨by simp only[lvl];have:=(h.os.2 k (by omega)).pos;omega,zLM t1 (by omega),?_,fun c hc=>?_,zHD.ok h d (k+1) (by omega)⟩
  ·grind[xX,lvl]
  ·simp only[lvl,Je]at hc
   obtain⟨u,hu,rfl⟩:=hc;obtain⟨j,hj,rfl⟩:=K8.1 hu
   grind[zLM]
theorem zHD.okAt{x:SPr}(h:zHD x){k:Nat}(hk:k≤x.zA.length):Pc.Ok (suf x k):=h.ok (x.zA.length-k) k (by omega)
theorem Pres.okAt{x:SPr}(h:Pres x){k:Nat}(hk:k≤x.zA.length):Pc.Ok (suf x k):=h.w.okAt hk
theorem yD(n:Nat):(zeros n).length=n:=by simp[zeros]
theorem zGl(k:Nat):zeros (k+1)=zeros k++[0]:=by simp[zeros,Qw]
theorem zGm{k:Nat}{a b:Int}{v:Vec}:(zeros k++a::v).set k b=zeros k++b::v:=by rw[Ja6 _ _ (by grind[yD]),yD,L3,Lf]
theorem zHE{k:Nat}{a:Int}{v:Vec}:ixO (zeros k++a::v) (k:Int)=dS a:=by rw[vC,Jf (by grind[yD]),yD,L3];rfl
theorem zB4{k:Nat}{v:Vec}:zeros k++0::v=zeros (k+1)++v:=by rw[zGl,Ji];rfl
theorem wF{v:List Int}(h:v.length≤1000000):f_q v=dS v:=by grind[f_q,zS]
end Go.Pl

namespace Go.Pl
open Go Go.Ab Go.Wk Go.Pc
theorem zCV{m:Vec→Vec→Vec}:∀(cs:List Vec)(x:Vec)(i:Nat)(acc:Vec),i<cs.length→i<x.length→
  img m (cs.take (i+1)) (x.take (i+1)) acc=iter (at0 x i).toNat (fun v=>m v (cs.getD i [])) (img m (cs.take i) (x.take i) acc)
 | [],_,_,_,h,_=>by simp at h
 |_::_,[],_,_,_,h=>by simp at h
 |c::cs,a::x,0,acc,_,_=>by rfl
 |c::cs,a::x,i+1,acc,h,h'=>by simp only[Lj,img,at0,List.getD_cons_succ];exact zCV cs x i _ (by grind) (by grind)
theorem vN{α β:Type}{body:α×Int→Option ((α×Int)⊕α)}{S:β→Prop}(e:β→α)(g:β→β)(n:Int)(hn:0≤n)(hS:∀a,S a→S (g a))
  (h:∀a(i:Nat),S a→(i:Int)<n→body (e a,(i:Int))=dS (.inl (e (g a),((i+1:Nat):Int))))(he:∀a,S a→body (e a,n)=dS (.inr (e a))){a:β}(ha:S a):
  zE body (e a,0)=dS (e (iter n.toNat g a)):=by
 have fE:∀k,S (iter k g a):=fun k=>sW (S:=S) hS k ha
 exact zP (body:=body) (r:=e (iter n.toNat g a)) (fun i=>(e (iter i g a),(i:Int))) n.toNat (by grind[vS]) (by grind)
theorem zQr{k i:Nat}{v:Vec}(h:i<v.length):ixO (zeros k++v) ((k+i:Nat):Int)=dS (at0 v i):=by rw[vC,Jf (by grind[yD]),yD,show k+i-k=i from by omega,J6 h,at0,J4,J6 h];rfl
theorem zBm{x:SPr}(ho:Os x.zA):∀(d k:Nat)(v:List Int),k+d=x.zA.length→V (suf x k) v→v.length=d∧ ∀i,i<d→0≤at0 v i∧at0 v i<at0 x.zA (k+i)∧at0 v i≤6
 |0,k,v,hk,hv=>by
  rw[zAg (by omega)]at hv;simp only[V]at hv
  grind
 |d+1,k,v,hk,hv=>by
  rw[yW (by omega)]at hv
  match v,hv with
  |a::v,hv=>
   obtain⟨h1,h2⟩:=zBm ho d (k+1) v (by omega) hv.2;refine⟨by simp[h1],fun i hi=>?_⟩;cases i with
   |zero=>
    have h3:=hv.1;simp only[lvl]at h3;have:=(ho.2 k (by omega)).pos
    grind
   |succ i=>
    grind
theorem zGK{x:SPr}(h:Pres x){k i:Nat}(hk:k<x.zA.length)(hi:i<x.zA.length-(k+1)):
  ∃c,ixO x.zC (k:Int)=dS (x.zC.getD k [])∧ixO (x.zC.getD k []) (i:Int)=dS (zeros (k+1)++c)∧V (suf x (k+1)) c∧(lvl x k).cs.getD i []=c:=by
 obtain⟨t1,t2,t3⟩:=h.tl k hk;have hc:=h.cl
 grind[zR,zLM,zBV,lvl]
def FAt(x:SPr)(k:Nat)(g:SPr→Int→List Int→List Int→Option (List Int)):Prop:=
 ∀a b,V (suf x k) a→V (suf x k) b→g x k (zeros k++a) (zeros k++b)=dS (zeros k++mul (suf x k) a b)
def FIm(x:SPr)(k:Nat)(g:SPr→Int→List Int→Option (List Int)):Prop:=
 ∀v,V (suf x (k+1)) v→g x k (zeros (k+1)++v)=dS (zeros (k+1)++sig (suf x (k+1)) (lvl x k) v)
theorem zN7{x:SPr}(h:Pres x){k:Nat}(hk:k<x.zA.length){g:SPr→Int→List Int→List Int→Option (List Int)}(hg:FAt x (k+1) g):FIm x k (b_d g):=by
 intro v hv;have h6:=h.os.1;have ok:=h.okAt (k:=k+1) (by omega);obtain⟨eM,te⟩:=zBm h.os (x.zA.length-(k+1)) (k+1) v (by omega) hv;have gk:=xX x (k+1);have gI:(lvl x k).cs.length=x.zA.length-(k+1):=by have:=h.okAt (k:=k) (by omega);rw[yW hk]at this;rw[this.2.2.1,gk]
 have gZ:∀c∈(lvl x k).cs,V (suf x (k+1)) c:=by have:=h.okAt (k:=k) (by omega);rw[yW hk]at this;exact this.2.2.2.1
 have hA:∀i,V (suf x (k+1)) (img (mul (suf x (k+1))) ((lvl x k).cs.take i) (v.take i) (zeros (suf x (k+1)).length)):=fun i=>
  zAF (xV ok) _ _ (by grind) (vZ ok)
 unfold b_d;rw[yF (by omega),bs,zF (by omega) (by omega),bs,cs];have hz:J1 x.zA.length (0:Int)=zeros (k+1)++zeros (suf x (k+1)).length:=by rw[gk];simp only[zeros,Ko];congr 1;omega
 rw[hz];have:=zP (body:=zTr g x k (zeros (k+1)++v)) (r:=zeros (k+1)++sig (suf x (k+1)) (lvl x k) v)
  (fun i=>(zeros (k+1)++img (mul (suf x (k+1))) ((lvl x k).cs.take i) (v.take i) (zeros (suf x (k+1)).length),((k+1+i:Nat):Int))) (x.zA.length-(k+1)) (fun i hi=>by
  have hr:=te i hi;obtain⟨c,c1,c2,c3,c4⟩:=zGK h hk hi;unfold zTr;rw[dX (by omega),zI];rw[vN (S:=V (suf x (k+1))) (body:=zTq g x k (zeros (k+1)++v) (zeros (k+1)++img (mul (suf x (k+1))) ((lvl x k).cs.take i) (v.take i) (zeros (suf x (k+1)).length),((k+1+i:Nat):Int))) (fun u=>zeros (k+1)++u) (fun u=>mul (suf x (k+1)) u c) (at0 v i) hr.1 (by grind[xV]) (fun u q hu hq=>by
   unfold zTq;simp only
   rw[zQr (by omega),bs,dX hq,zI,zF (by omega) (by omega),bs,c1,bs,zF (by omega) (by omega),bs,zF (by omega) (by omega),bs,
    show(((k+1+i:Nat):Int)-(k:Int)-1)=(i:Int)from by omega,c2,bs,cs,hg u c hu c3,bs,zF (by omega) (by omega),bs,cs]) (fun u hu=>by
   unfold zTq;simp only
   rw[zQr (by omega),bs,dW (by omega),zH]) (hA i),bs,zF (by omega) (by omega),bs,cs]
  rw[zCV _ _ _ _ (by omega) (by omega),c4];rfl) (by
  unfold zTr;rw[dW (by omega),zH,Jt (by omega),Jt (by omega)];rfl)
 grind[img]
theorem zVI{x:SPr}(h:Pres x){k:Nat}(hk:k<x.zA.length){g:SPr→Int→List Int→List Int→Option (List Int)}{gi:SPr→Int→List Int→Option (List Int)}(hg:FAt x (k+1) g)(hi:FIm x k gi):FAt x k (b_a gi g):=by
 intro a b ha hb;have h6:=h.os.1;have hp:=(h.os.2 k hk).pos;have ok:=h.okAt (k:=k+1) (by omega);have ok0:=h.okAt (k:=k) (by omega);obtain⟨hal,har⟩:=zBm h.os (x.zA.length-k) k a (by omega) ha;obtain⟨aa,hbr⟩:=zBm h.os (x.zA.length-k) k b (by omega) hb;rw[yW hk]at ha hb ok0;obtain⟨a0,a,rfl⟩:∃a0 a',a=a0::a':=by cases a with|nil=>grind|cons p q=>simp
 obtain⟨b0,b,rfl⟩:∃a0 a',b=a0::a':=by cases b with|nil=>grind|cons p q=>simp
 obtain⟨⟨a1,a2⟩,ha⟩:=ha;obtain⟨⟨b1,b2⟩,hb⟩:=hb;have fq:(lvl x k).o=at0 x.zA k:=rfl;rw[fq]at a2 b2;unfold b_a;rw[dW (by omega),zH,wF (by grind[yD]),bs,wF (by simp[yD]at aa ⊢;omega),bs,zHE,bs,zHE,bs,J8,zGm,zGm,zB4,zB4];have bm:∀u,V (suf x (k+1)) u→V (suf x (k+1)) (sig (suf x (k+1)) (lvl x k) u):=by grind[zKu]
 have fE:V (suf x (k+1)) (iter b0.toNat (sig (suf x (k+1)) (lvl x k)) a):=sW bm _ ha;rw[vN (S:=V (suf x (k+1))) (fun u=>zeros (k+1)++u) (sig (suf x (k+1)) (lvl x k)) b0 b1 bm (fun u q hu hq=>by
   unfold zWt;simp only
   rw[zHE,bs,dX hq,zI,hi u hu,bs,zF (by omega) (by omega),bs,cs]) (fun u hu=>by
   unfold zWt;simp only
   rw[zHE,bs,dW (by omega),zH]) ha,bs,zF (by omega) (by omega),bs,cs,hg _ _ fE hb,bs,bs,bs,zF (by omega) (by omega),bs,zZ hk,bs]
 have hm:=xV ok fE hb;have tt:=(zBm h.os (x.zA.length-(k+1)) (k+1) _ (by omega) hm).1;have own:∀u,V (suf x (k+1)) u→f_q (zeros (k+1)++u)=dS (zeros (k+1)++u):=fun u hu=>wF (by
  have:=(zBm h.os (x.zA.length-(k+1)) (k+1) _ (by omega) hu).1
  grind[yD])
 rw[yW hk,yT,fq]
 by_cases hge:a0+b0≥at0 x.zA k
 ·have t1:=(h.tl k hk).1
  have hw:=zLM t1 hk;have hwl:=h.pl;rw[dX hge,zI,if_pos hge,bs,zF (by omega) (by omega),bs,bs,zR [] (by omega),bs,zBV t1 hk,hg _ _ hw hm,bs,own _ (xV ok hw hm),bs];rw[←zB4,zHE,bs,zGm];rfl
 ·rw[dW hge,zH,if_neg hge,own _ hm,bs,←zB4,zHE,bs,zGm]
theorem zFC{x:SPr}(h:Pres x):∀(d k:Nat),k+d=x.zA.length→(∀m,2*d+1≤m→FAt x k (zOn m))∧(1≤d→ ∀m,2*d≤m→FIm x k (zOm m))
 |0,k,hk=>by
  refine⟨fun m hm a b ha hb=>?_,fun h=>by omega⟩;have h6:=h.os.1;obtain⟨m,rfl⟩:∃m',m=m'+1:=⟨m-1,by omega⟩;show b_a _ _ x k _ _=_;unfold b_a;rw[dX (by omega),zI,yF (by omega),bs,zAg (by omega)]
  grind[mul,zeros]
 |d+1,k,hk=>by
  obtain⟨h1,h2⟩:=zFC h d (k+1) (by omega);have hI:∀m,2*(d+1)≤m→FIm x k (zOm m):=fun m hm=>by obtain⟨m,rfl⟩:∃m',m=m'+1:=⟨m-1,by omega⟩;exact zN7 h (by omega) (h1 m (by omega))
  refine⟨fun m hm=>?_,fun _=>hI⟩;obtain⟨m,rfl⟩:∃m',m=m'+1:=⟨m-1,by omega⟩;exact zVI h (by omega) (h1 m (by omega)) (hI m (by omega))
theorem zEO{x:SPr}(h:Pres x){k:Nat}(hk:k≤x.zA.length):FAt x k f_a:=fun a b ha hb=>
 zBR (2*(x.zA.length-k)+1) fun m hm=>(zFC h (x.zA.length-k) k (by omega)).1 m hm a b ha hb
theorem zN8{x:SPr}(h:Pres x){k:Nat}(hk:k<x.zA.length):FIm x k f_d:=fun v hv=>
 zBR (2*(x.zA.length-k)) fun m hm=>(zFC h (x.zA.length-k) k (by omega)).2 (by omega) m hm v hv
end Go.Pl

namespace Go.Pl
open Go Go.Ab Go.Wk Go.Pc
theorem zCW:∀{P Q:Pcp},Q<:+P→vM P→vM Q
 | [],Q,h,_=>by grind
 |l::P,Q,h,hc=>by
  rcases Q4.1 h with rfl|h
  ·exact hc
  ·exact zCW h hc.1
theorem zJl:∀{P Q:Pcp},Q<:+P→Pc.Ok P→Pc.Ok Q
 | [],Q,h,_=>by grind
 |l::P,Q,h,hc=>by
  rcases Q4.1 h with rfl|h
  ·exact hc
  ·exact zJl h hc.2.2.2.2
theorem zN9(x:SPr)(k:Nat):suf x (k+1)<:+suf x k:=by grind[yW,zAg]
theorem zCX{x:SPr}{k:Nat}(h:vM (suf x k)):∀i,vM (suf x (k+i))
 |0=>h
 |i+1=>zCW (zN9 x (k+i)) (zCX h i)
theorem zCY{x:SPr}(h:Pres x){k:Nat}(hk:k≤x.zA.length)(hc:vM (suf x k)):Grp (V (suf x k)) (mul (suf x k)) (zeros (suf x k).length):=zLH _ (h.okAt hk) hc
theorem zGL{x:SPr}:∀(i k:Nat)(v:Vec),k+i≤x.zA.length→V (suf x k) v→ ∃q v',v=q++v'∧q.length=i∧V (suf x (k+i)) v'∧
  ∀a b,V (suf x (k+i)) a→V (suf x (k+i)) b→mul (suf x k) (q++a) (zeros i++b)=q++mul (suf x (k+i)) a b
 |0,k,v,_,hv=>⟨[],v,rfl,rfl,hv,fun a b _ _=>rfl⟩
 |i+1,k,v,hk,hv=>by
  rw[yW (by omega)]at hv
  match v,hv with
  |e::v,hv=>
   obtain⟨q,v',h1,h2,h3,h4⟩:=zGL i (k+1) v (by omega) hv.2;rw[show k+1+i=k+(i+1)from by omega]at h3 h4;refine⟨e::q,v',by grind,by simp[h2],h3,fun a b ha hb=>?_⟩;have he:=hv.1;rw[yW (by omega)];show mul (lvl x k::suf x (k+1)) (e::(q++a)) (0::(zeros i++b))=_;rw[yT,Lb,if_neg (by omega)]
   grind[iter]
def FTV(x:SPr)(k:Nat)(g:SPr→List Int→List Int→Option (List Int)):Prop:=
 ∀p v u,p.length=k→V (suf x k) v→V (suf x k) u→g x (p++v) (zeros k++u)=dS (p++mul (suf x k) v u)
def FTG(x:SPr)(k:Nat)(g:SPr→List Int→Int→Option (List Int)):Prop:=
 ∀p v,p.length=k→V (suf x k) v→g x (p++v) (k:Int)=dS (p++mul (suf x k) v (1::zeros (x.zA.length-(k+1))))
theorem zJm{x:SPr}(h:Pres x){k:Nat}(hk:k<x.zA.length){g:SPr→List Int→List Int→Option (List Int)}(hg:FTV x (k+1) g){t:Vec}(ht:V (suf x (k+1)) t)
  {body1:List Int×Int→Int→List Int×Int→Option ((List Int×Int)⊕List Int)}{body2:List Int×Int→Option ((List Int×Int)⊕List Int)}
  (bW:∀s,body2 s=cond (decide (s.2<(t.length:Int))) ((ixO t s.2).bind fun v17=>(zE (body1 s v17) (s.1,0)).bind fun r=>(rng (s.2+1)).bind fun v=>dS (.inl (r,v))) (dS (.inr s.1)))
  (bX:∀s v q,body1 s v q=cond (decide (q.2<v)) ((ixO x.zC (k:Int)).bind fun cl=>(ixO cl s.2).bind fun c=>(g x q.1 c).bind fun r=>(rng (q.2+1)).bind fun w=>dS (.inl (r,w))) (dS (.inr q.1)))
  {p:Vec}(hp:p.length=k+1){u:Vec}(hu:V (suf x (k+1)) u):zE body2 (p++u,0)=dS (p++img (mul (suf x (k+1))) (lvl x k).cs t u):=by
 have h6:=h.os.1;have ok:=h.okAt (k:=k+1) (by omega);have ok0:=h.okAt (k:=k) (by omega);rw[yW hk]at ok0;obtain⟨fQ,bh⟩:=zBm h.os (x.zA.length-(k+1)) (k+1) t (by omega) ht;have gI:(lvl x k).cs.length=x.zA.length-(k+1):=by rw[ok0.2.2.1,xX]
 have hA:∀i,V (suf x (k+1)) (img (mul (suf x (k+1))) ((lvl x k).cs.take i) (t.take i) u):=fun i=>
  zAF (xV ok) _ _ (fun c hc=>ok0.2.2.2.1 c (by grind)) hu
 have:=zP (body:=body2) (r:=p++img (mul (suf x (k+1))) (lvl x k).cs t u) (fun i=>(p++img (mul (suf x (k+1))) ((lvl x k).cs.take i) (t.take i) u,(i:Int))) t.length (fun i hi=>by
  have hr:=bh i (by omega);obtain⟨c,c1,c2,c3,c4⟩:=zGK h hk (i:=i) (by omega);rw[bW];simp only
  rw[yJ hi,zI,zZ hi,bs];rw[vN (S:=V (suf x (k+1))) (fun u=>p++u) (fun u=>mul (suf x (k+1)) u c) (at0 t i) hr.1 (by grind[xV]) (fun u q hu hq=>by
   rw[bX];simp only
   rw[dX hq,zI,c1,bs,c2,bs,hg p u c hp hu c3,bs,zF (by omega) (by omega),bs,cs]) (by grind) (hA i),bs,zF (by omega) (by omega),bs,cs]
  rw[zCV _ _ _ _ (by omega) (by omega),c4]) (by
  grind)
 grind[img]
theorem zXW{p v:Vec}{a:Int}{k:Nat}(hp:p.length=k):ixO (p++a::v) (k:Int)=dS a:=by rw[vC,Jf (by omega),hp,L3];rfl
theorem p_set{p v:Vec}{a b:Int}{k:Nat}(hp:p.length=k):(p++a::v).set k b=p++b::v:=by simp_all
theorem zLN{x:SPr}(h:Pres x){k:Nat}(hk:k<x.zA.length)(hc:vM (suf x (k+1))){g:SPr→List Int→List Int→Option (List Int)}(hg:FTV x (k+1) g):FTG x k (b_c g):=by
 intro p v hp hv;have h6:=h.os.1;have G:=zCY h (k:=k+1) (by omega) hc;have ok:=h.okAt (k:=k+1) (by omega);have ok0:=h.okAt (k:=k) (by omega);obtain⟨eM,te⟩:=zBm h.os (x.zA.length-k) k v (by omega) hv;rw[yW hk]at hv ok0;obtain⟨e,t,rfl⟩:∃a0 a',v=a0::a':=by cases v with|nil=>grind|cons p q=>simp
 obtain⟨⟨e1,e2⟩,ht⟩:=hv;have fq:(lvl x k).o=at0 x.zA k:=rfl;rw[fq]at e2;have eI:=(h.os.2 k hk).pos;have fQ:=(zBm h.os (x.zA.length-(k+1)) (k+1) t (by omega) ht).1;have fZ:=xX x (k+1);unfold b_c;have hs:zL (p++e::t) ((k+1:Nat):Int) ((p++e::t).length:Int)=dS t:=by
  unfold zL;rw[if_pos (by grind)];have e3:(p++e::t).drop (k+1)=t:=by rw[List.drop_append,Gl (by omega),hp,show k+1-k=1 from by omega];rfl
  grind[J8]
 have mm:f_K t=dS t:=by grind[f_K,zS]
 rw[zF (by omega) (by omega),bs,cs,hs,bs,mm,bs];have hz:=zP (body:=zT7 k t) (r:=(p++[e])++zeros t.length) (fun i=>((p++[e])++(zeros i++t.drop i),(i:Int))) t.length (fun i hi=>by
  have hl:((p++[e])++zeros i).length=k+1+i:=by grind[yD]
  unfold zT7;simp only
  rw[yJ hi,zI,zF (by omega) (by omega),bs,zF (by omega) (by omega),bs,show(k:Int)+1+(i:Int)=((k+1+i:Nat):Int)from by omega,vC,←Ji,Jf (by omega),hl,L3,
   Ga hi,Ul,bs,zF (by omega) (by omega),bs,cs,J8,Ja6 _ _ (by omega),hl,L3,Lf,zGl]
  simp) (by
  unfold zT7;simp)
 simp only[zeros,Qc,Hu,K6,Ji,H0]at hz;rw[show((0:Nat):Int)=0 from rfl]at hz;rw[hz,bs,J8,zXW hp,bs,zF (by omega) (by omega),bs,bs,p_set hp,zXW hp,bs,zZ hk,bs];have ai:J1 t.length (0:Int)=zeros (suf x (k+1)).length:=by rw[fZ,fQ];rfl
 rw[yW hk,yT,fq];have gp:mul (suf x (k+1)) (iter (1:Int).toNat (sig (suf x (k+1)) (lvl x k)) t) (zeros (x.zA.length-(k+1)))=sig (suf x (k+1)) (lvl x k) t:=by rw[←fZ];show mul _ (sig (suf x (k+1)) (lvl x k) t) _=_;exact G.oner (zKu ok0 ht)
 rw[gp,ai]
 by_cases heq:e+1=at0 x.zA k
 ·have t1:=(h.tl k hk).1
  have hw:=zLM t1 hk;have hwl:=h.pl;have tm:(p++[(0:Int)]).length=k+1:=by simp[hp]
  rw[show(e+1==at0 x.zA k)=dU from by grind,zI,if_pos (by omega),bs,zR [] (by omega),bs,p_set hp];have ah:p++0::zeros (suf x (k+1)).length=(p++[0])++zeros (suf x (k+1)).length:=by simp
  rw[ah,zBV t1 hk,hg _ _ _ tm G.ein hw,bs,G.onel hw];rw[zJm (body1:=zZ8 g x k) (body2:=zZ9 g x k t) h hk hg ht (fun _=>rfl) (fun _ _ _=>rfl) tm hw,bs];rw[zEN G.toMon _ _ ok0.2.2.2.1 hw,show e+1-at0 x.zA k=0 from by omega];simp only[Ji,H0];rfl
 ·have tm:(p++[e+1]).length=k+1:=by simp[hp]
  rw[show(e+1==at0 x.zA k)=dV from by grind,zH,if_neg (by omega)];have ah:p++(e+1)::zeros (suf x (k+1)).length=(p++[e+1])++zeros (suf x (k+1)).length:=by simp
  rw[ah,zJm (body1:=zZA g x k) (body2:=zZB g x k t) h hk hg ht (fun _=>rfl) (fun _ _ _=>rfl) tm G.ein,bs];simp only[Ji,H0];rfl
theorem zGM{n i:Nat}(h:i<n):jQ n i=zeros i++1::zeros (n-(i+1)):=by
 have:zeros n=zeros i++0::zeros (n-(i+1)):=by
  simp only[zeros];rw[←Kt,Ko]
  grind
 grind[jQ,zGm]
theorem zEP(n:Nat):(sT n).length=n:=by simp[sT]
theorem zNA{n i:Nat}(h:i<n):(sT n).getD i []=jQ n i:=by simp[sT,J4,h]
theorem zSD{x:SPr}(h:Pres x){k:Nat}(hk:k≤x.zA.length)(hc:vM (suf x k)){g:SPr→List Int→Int→Option (List Int)}(hg:∀j,k≤j→j<x.zA.length→FTG x j g):FTV x k (b_b g):=by
 intro p v u hp hv hu;have h6:=h.os.1;have G:=zCY h hk hc;have ok:=h.okAt hk;obtain⟨cW,hur⟩:=zBm h.os (x.zA.length-k) k u (by omega) hu;have fZ:=xX x k;have hV1:∀j,j≤x.zA.length→j<x.zA.length→V (suf x j) (1::zeros (x.zA.length-(j+1))):=fun j hj f9=>by rw[yW f9];have:=(h.os.2 j f9).pos;refine⟨⟨by omega,by show 1<at0 x.zA j;omega⟩,?_⟩;rw[←xX];exact vZ (h.okAt (by omega))
 have hUn:∀i,i<x.zA.length-k→V (suf x k) (jQ (x.zA.length-k) i):=by grind[zFB]
 have hUs:∀c∈sT (x.zA.length-k),V (suf x k) c:=fun c hc=>by
  simp only[sT,Je,Jx]at hc
  grind
 have hA:∀i,V (suf x k) (img (mul (suf x k)) ((sT (x.zA.length-k)).take i) (u.take i) v):=fun i=>
  zAF (xV ok) _ _ (by grind) hv
 have dn:∀i w,i<x.zA.length-k→V (suf x k) w→g x (p++w) ((k+i:Nat):Int)=dS (p++mul (suf x k) w (jQ (x.zA.length-k) i)):=fun i w hi hw=>by obtain⟨q,w',h1,h2,h3,h4⟩:=zGL i k w (by omega) hw;have h5:=hg (k+i) (by omega) (by omega) (p++q) w' (by grind) h3;rw[Ji,←h1]at h5;rw[h5,zGM hi,h1,show x.zA.length-k-(i+1)=x.zA.length-(k+i+1)from by omega,h4 w' _ h3 (hV1 (k+i) (by omega) (by omega)),Ji]
 unfold b_b;have bf:(zeros k++u).length=x.zA.length:=by grind[yD]
 have:=zP (body:=zT9 g x (zeros k++u)) (r:=p++mul (suf x k) v u) (fun j=>(p++img (mul (suf x k)) ((sT (x.zA.length-k)).take (j-k)) (u.take (j-k)) v,(j:Int))) x.zA.length (fun j hj=>by
  unfold zT9;simp only
  rw[bf,yJ hj,zI];rcases Js j k with hjk|hjk
  ·have e0:ixO (zeros k++u) (j:Int)=dS 0:=by
    rw[vC,Kg (by grind)]
    grind[zeros]
   rw[e0,bs,show j-k=0 from by omega,show j+1-k=0 from by omega];rw[yG];unfold zT8;simp only
   rw[show decide ((0:Int)<0)=dV from rfl,zH];simp only
   rw[bs,zF (by omega) (by omega),bs,cs]
  ·obtain⟨i,rfl⟩:∃i,j=k+i:=⟨j-k,by omega⟩
   have hi:i<x.zA.length-k:=by omega
   have hr:=hur i hi;rw[zQr (by omega),bs,show k+i-k=i from by omega,show k+i+1-k=i+1 from by omega];rw[vN (S:=V (suf x k)) (fun w=>p++w) (fun w=>mul (suf x k) w (jQ (x.zA.length-k) i)) (at0 u i) hr.1 (by grind[xV]) (fun w q hw hq=>by
    unfold zT8;simp only
    rw[dX hq,zI,dn i w hi hw,bs,zF (by omega) (by omega),bs,cs]) (fun w hw=>by
    unfold zT8;simp) (hA i),bs,zF (by omega) (by omega),bs,cs]
   rw[zCV _ _ _ _ (by grind[zEP]) (by omega),zNA hi]) (by
  unfold zT9;simp only
  rw[bf,tH,zH,Jt (by grind[zEP]),Jt (by omega),zEN G.toMon _ _ hUs hv];have hn:=normal (suf x k) ok (fun Q hQ=>(zLH Q (zJl hQ ok) (zCW hQ hc)).toMon) u hu
  grind)
 simp only[Jal,L4,img]at this
 grind
theorem zFD{x:SPr}(h:Pres x):∀(d k:Nat),k+d=x.zA.length→vM (suf x k)→(∀m,2*d+1≤m→FTV x k (zQP m))
 |d,k,hk,hc=>fun m hm=>by
  obtain⟨m,rfl⟩:∃m',m=m'+1:=⟨m-1,by omega⟩;refine zSD h (by omega) hc fun j hj fD=>?_
  obtain⟨m,rfl⟩:∃m',m=m'+1:=⟨m-1,by omega⟩;have mn:vM (suf x (j+1)):=by
   have:=zCX hc (j+1-k)
   grind
  exact zLN h fD mn (zFD h (x.zA.length-(j+1)) (j+1) (by omega) mn m (by omega))
 termination_by d=>d
 decreasing_by omega
theorem zVJ{x:SPr}(h:Pres x){k:Nat}(hk:k≤x.zA.length)(hc:vM (suf x k)):FTV x k f_b:=fun p v u hp hv hu=>
 zBR (2*(x.zA.length-k)+1) fun m hm=>zFD h (x.zA.length-k) k (by omega) hc m hm p v u hp hv hu
theorem zVK{x:SPr}(h:Pres x){k:Nat}(hk:k<x.zA.length)(hc:vM (suf x (k+1))):FTG x k f_c:=fun p v hp hv=>
 zBR (2*(x.zA.length-k)) fun m hm=>by obtain⟨m,rfl⟩:∃m',m=m'+1:=⟨m-1,by omega⟩;exact zLN h hk hc (zFD h (x.zA.length-(k+1)) (k+1) (by omega) hc m (by omega)) p v hp hv
end Go.Pl

namespace Go.Pl
open Go Go.Ab Go.Wk Go.Pc
abbrev fv(k:Nat)(v:Vec):Vec:=zeros k++v
section
variable {x:SPr} (h:Pres x) {k:Nat} (hk:k≤x.zA.length) (hc:vM (suf x k))
 include h hk
theorem zLO{v:Vec}(hv:V (suf x k) v):v.length=x.zA.length-k:=(zBm h.os (x.zA.length-k) k v (by omega) hv).1
theorem zEn{v:Vec}(hv:V (suf x k) v):(fv k v).length=x.zA.length:=by grind[yD,zLO]
theorem zLP:J1 x.zA.length (0:Int)=fv k (zeros (suf x k).length):=by
 have _:=h;rw[xX];simp only[fv,zeros,Ko];grind
 include hc
theorem zNB{i:Nat}(hi:i<x.zA.length-k):V (suf x k) (jQ (x.zA.length-k) i):=by
 have _:=hc;have:=xX x k;rw[←this]at hi ⊢
 exact zFB (h.okAt hk) hi
theorem zLQ{p:Vec}(hp:p.length=k){i:Nat}(hi:i<x.zA.length-k){w:Vec}(hw:V (suf x k) w):f_c x (p++w) ((k+i:Nat):Int)=dS (p++mul (suf x k) w (jQ (x.zA.length-k) i)):=by
 obtain⟨q,w',h1,h2,h3,h4⟩:=zGL i k w (by omega) hw;have mn:vM (suf x (k+i+1)):=zCX hc (i+1);have h5:=zVK h (k:=k+i) (by omega) mn (p++q) w' (by grind) h3;have h7:V (suf x (k+i)) (1::zeros (x.zA.length-(k+i+1))):=by
  have f9:k+i<x.zA.length:=by omega
  rw[yW f9];have:=(h.os.2 (k+i) f9).pos;refine⟨⟨by omega,by show 1<at0 x.zA (k+i);omega⟩,?_⟩;rw[←xX];exact vZ (h.okAt (by omega))
 grind[zGM]
theorem zEQ{a b:Vec}(ha:V (suf x k) a)(hb:V (suf x k) b):f_b x (fv k a) (fv k b)=dS (fv k (mul (suf x k) a b)):=
 zVJ h hk hc (zeros k) a b (yD k) ha hb
theorem zHF{a:Vec}(ha:V (suf x k) a):f_K (fv k a)=dS (fv k a):=by
 have _:=hc;have:=zEn h hk ha;have h6:=h.os.1
 grind[f_K,zS]
theorem zDT{a b:Vec}(ha:V (suf x k) a)(hb:V (suf x k) b):zIA x (fv k a) (fv k b)=dS (fv k (mul (suf x k) a b)):=by grind[zIA,zHF,zEQ]
theorem zHG{c:Vec}(ez:V (suf x k) c){e:Int}(e0:0≤e)(e1:e≤1000):zKF x (fv k c) e=dS (fv k (pw (mul (suf x k)) (zeros (suf x k).length) c e.toNat)):=by
 have h6:=h.os.1;have ok:=h.okAt hk;unfold zKF;rw[zEn h hk ez,yF (by omega),bs,zLP h hk];rw[vN (S:=V (suf x k)) (body:=zM3 x (fv k c) e) (fun u=>fv k u) (fun u=>mul (suf x k) u c) e e0 (by grind[xV]) (fun u i hu hi=>by
  unfold zM3;simp only
  rw[dX hi,zI,zEQ h hk hc hu ez,bs,zF (by omega) (by omega),bs,cs]) (fun u hu=>by
  unfold zM3;simp) (vZ ok),bs]
 rfl
theorem zGn{v:Vec}(hv:V (suf x k) v):∃w,V (suf x k) w∧mul (suf x k) v w=zeros (suf x k).length∧f_T x (fv k v)=dS (fv k w):=by
 have h6:=h.os.1;have ok:=h.okAt hk;have G:=zCY h hk hc;have eM:=zEn h hk hv;have fZ:=xX x k;unfold f_T;rw[zHF h hk hc hv,bs,eM,yF (by omega),bs,zLP h hk]
 let I:Nat→(List Int×List Int×Int)→Prop:=fun j s=> ∃A w,s=(fv k A,fv k w,(j:Int))∧V (suf x k) A∧V (suf x k) w∧mul (suf x k) v w=A∧ ∃A',A=zeros (j-k)++A'
 have key:=uF (body:=zTE x (fv k v)) (Q:=fun r=> ∃w,V (suf x k) w∧mul (suf x k) v w=zeros (suf x k).length∧r=fv k w) I x.zA.length (fun j s hj hI=>by
  obtain⟨A,w,rfl,hA,hw,hm,A',hA'⟩:=hI;left;unfold zTE;simp only
  rw[eM,yJ hj,zI];rcases Js j k with hjk|hjk
  ·have e0:ixO (fv k A) (j:Int)=dS 0:=by
    grind[vC,zeros]
   rw[yG];unfold zQQ;simp only
   rw[e0,bs,show((0:Int) != 0)=dV from rfl,zH];simp only
   rw[bs,zF (by omega) (by omega),bs,cs]
   grind
  ·obtain⟨i,rfl⟩:∃i,j=k+i:=⟨j-k,by omega⟩
   have hi:i<x.zA.length-k:=by omega
   rw[show k+i-k=i from by omega]at hA';have cK:=zLO h hk hA;obtain⟨a0,A',rfl⟩:∃p q,A'=p::q:=by
    cases A' with
    |nil=>grind[yD]
    |cons p q=>simp
   have eI:=(h.os.2 (k+i) hj).pos;have inner:=uF (body:=zQQ x (fv k A,fv k w,((k+i:Nat):Int))) (s:=(fv k A,fv k w))
    (Q:=fun r=> ∃B u,r=(fv k B,fv k u)∧V (suf x k) B∧V (suf x k) u∧mul (suf x k) v u=B∧ ∃B',B=zeros (i+1)++B')
    (fun q s=> ∃B u b B',s=(fv k B,fv k u)∧V (suf x k) B∧V (suf x k) u∧mul (suf x k) v u=B∧B=zeros i++b::B'∧(b=0∨b=a0+q)) 10 (fun q s hq hs=>by
     obtain⟨B,u,b,B',rfl,hB,hu,mO,my,hb⟩:=hs;have hz:ixO (fv k B) ((k+i:Nat):Int)=dS b:=by rw[fv,zQr (by grind[zLO]),my,at0,J4,Jf (by rw[yD];omega),yD,L3];rfl
     unfold zQQ;simp only
     rw[hz,bs]
     by_cases dI:b=0
     ·subst dI
      right;rw[show((0:Int) != 0)=dV from rfl,zH];exact⟨_,rfl,B,u,rfl,hB,hu,mO,B',by rw[my,zB4]⟩
     ·left
      have hbq:b=a0+q:=by omega
      rw[show(b != 0)=dU from by grind,zI,zLQ h hk hc (yD k) hi hB,bs,zLQ h hk hc (yD k) hi hu,bs];have hU:=zNB h hk hc hi;obtain⟨q',v',h1,h2,h3,h4⟩:=zGL i k B (by omega) hB;have hqv:q'=zeros i∧v'=b::B':=by grind[List.append_inj,yD]
      obtain⟨rfl,rfl⟩:=hqv;have h7:V (suf x (k+i)) (1::zeros (x.zA.length-(k+i+1))):=by rw[yW hj];refine⟨⟨by omega,by show 1<at0 x.zA (k+i);omega⟩,?_⟩;rw[←xX];exact vZ (h.okAt (by omega))
      have h8:=h4 (b::B') _ h3 h7;rw[show x.zA.length-(k+i+1)=x.zA.length-k-(i+1)from by omega,←zGM hi,←h1,yW hj,yT]at h8;refine⟨_,rfl,mul (suf x k) B (jQ (x.zA.length-k) i),mul (suf x k) u (jQ (x.zA.length-k) i),?_⟩;have fq:(lvl x (k+i)).o=at0 x.zA (k+i):=rfl;rw[fq]at h8
      by_cases hge:b+1≥at0 x.zA (k+i)
      ·rw[if_pos hge]at h8
       refine⟨_,_,rfl,xV ok hB hU,xV ok hu hU,?_,h8,?_⟩
       ·rw[←G.assoc hv hu hU,mO]
       ·left
        rw[yW hj]at h3;have:=h3.1.2;omega
      ·rw[if_neg hge]at h8
       refine⟨_,_,rfl,xV ok hB hU,xV ok hu hU,?_,h8,?_⟩
       ·rw[←G.assoc hv hu hU,mO]
       omega) (fun s hs=>by
     obtain⟨B,u,b,B',rfl,hB,hu,mO,my,hb⟩:=hs;have hz:ixO (fv k B) ((k+i:Nat):Int)=dS b:=by rw[fv,zQr (by grind[zLO]),my,at0,J4,Jf (by rw[yD];omega),yD,L3];rfl
     have hbr:=(zBm h.os (x.zA.length-k) k B (by omega) hB).2 i hi;have ha:=(zBm h.os (x.zA.length-k) k A (by omega) hA).2 i hi;have e1:at0 B i=b:=by rw[my,at0,J4,Jf (by grind[yD]),yD,L3];rfl
     have e2:at0 A i=a0:=by rw[hA',at0,J4,Jf (by grind[yD]),yD,L3];rfl
     have dI:b=0:=by omega
     subst dI;unfold zQQ;simp only
     rw[hz,bs,show((0:Int) != 0)=dV from rfl,zH];exact⟨_,rfl,B,u,rfl,hB,hu,mO,B',by rw[my,zB4]⟩) (by grind)
   obtain⟨r,r1,B,u,rfl,hB,hu,mO,B',my⟩:=inner;rw[r1,bs,zF (by omega) (by omega),bs,cs]
   grind) (fun s hI=>by
  obtain⟨A,w,rfl,hA,hw,hm,A',hA'⟩:=hI;unfold zTE;simp only
  rw[eM,tH,zH];refine⟨_,rfl,w,hw,?_,rfl⟩;have cK:=zLO h hk hA;rw[hA',J7,yD]at cK
  grind) (s:=(fv k v,fv k (zeros (suf x k).length),0))
  ⟨v,_,rfl,hv,vZ ok,G.oner hv,v,by rw[Jal];rfl⟩
 grind
theorem zAX{a b:Vec}(ha:V (suf x k) a)(hb:V (suf x k) b):∃c,V (suf x k) c∧mul (suf x k) b c=mul (suf x k) a b∧zQR x (fv k a) (fv k b)=dS (fv k c):=by
 have ok:=h.okAt hk;have G:=zCY h hk hc;obtain⟨w,hw,hm,h1⟩:=zGn h hk hc hb;have c8:=xV ok ha hb;refine⟨mul (suf x k) w (mul (suf x k) a b),xV ok hw c8,?_,?_⟩
 ·rw[←G.assoc hb hw c8,hm,G.onel c8]
 grind[zQR,zDT]
end
theorem zEo{a b:List Int}(h:a.length≤1000000):zKG a b=dS (a==b):=
 zPv (t:=fun u v=>dS (u==v)) (body:=zTD a b) rfl (fun _=>rfl) (by omega) fun _ _ _ _=>rfl
theorem zFE{a b:List Int}(h:a.length≤1000000):zFX a b=dS (a==b):=zEo h
end Go.Pl

namespace Go.Pl
open Go Go.Ab Go.Wk Go.Pc
theorem zLR{ρ:Type}{body:Int→Option (Int⊕(Unit⊕ρ))}(n i0:Nat)(hn:i0≤n)(P:Nat→Prop)(B:ρ→Prop)
  (h:∀i,i0≤i→i<n→(∀j,i0≤j→j<i→P j)→(body (i:Int)=dS (.inl ((i+1:Nat):Int))∧P i)∨(∃r,body (i:Int)=dS (.inr (.inr r))∧B r∧ ¬P i))
  (he:body (n:Int)=dS (.inr (.inl ()))):
  (zE body (i0:Int)=dS (.inl ())∧ ∀j,i0≤j→j<n→P j)∨ ∃r i,i0≤i∧i<n∧zE body (i0:Int)=dS (.inr r)∧B r∧ ¬P i:=by
 have key:∀k i,i0≤i→i+k=n→(∀j,i0≤j→j<i→P j)→(zE body (i:Int)=dS (.inl ())∧ ∀j,i0≤j→j<n→P j)∨ ∃r q,i0≤q∧q<n∧zE body (i:Int)=dS (.inr r)∧B r∧ ¬P q:=by
  intro k
  induction k with
  |zero=>
   intro i hi hk hp;obtain rfl:i=n:=by omega
   grind[yG]
  |succ k ih=>
   intro i hi hk hp;rcases h i hi (by omega) hp with⟨h1,h2⟩|⟨r,h1,h2,h3⟩
   ·have:=ih (i+1) (by omega) (by omega) (by grind)
    rw[yG,h1];exact this
   ·exact .inr ⟨r,i,hi,by omega,by rw[yG,h1],h2,h3⟩
 exact key (n-i0) i0 (Jd _) (by omega) fun j a b=>by omega
theorem vU{σ ρ:Type}{body:σ→Option (σ⊕ρ)}{Q:ρ→Prop}(I:σ→Prop)(m:σ→Nat)
  (h:∀s,I s→(∃s',body s=dS (.inl s')∧I s'∧m s'<m s)∨ ∃r,body s=dS (.inr r)∧Q r):∀(k:Nat)(s:σ),m s≤k→I s→ ∃r,zE body s=dS r∧Q r
 |k,s,hk,hs=>by
  rcases h s hs with⟨s',h1,h2,h3⟩|⟨r,h1,h2⟩
  ·cases k with
   |zero=>omega
   |succ k=>
    obtain⟨r,h4,h5⟩:=vU I m h k s' (by omega) h2
    grind[yG]
  grind[yG]
theorem zZl{k:Nat}{a b:Vec}:(fv k a==fv k b)=dU↔a=b:=by simp
theorem zHH{x:SPr}{v:List Int}{i k:Nat}(h:Exp x.zA v i)(hk:k≤i+1)(hn:k≤x.zA.length):v=fv k (v.drop k)∧V (suf x k) (v.drop k):=by
 have h1:=h.1.1;constructor
 ·apply L9
  intro j;rw[fv,Kd];simp only[zeros,Kk,Jp,La];split
  ·rename_i hj
   have h2:=h.2 j (by omega)
   grind
  grind
 ·refine zSC (x.zA.length-k) k _ (by omega) (by grind) fun j hj=>?_
  have:=h.1.2 (k+j) (by omega)
  grind
structure LC (x:SPr) (k:Nat):Prop where
 c1:∀j,k+1≤j→j<x.zA.length→pw (mul (suf x (k+1))) (zeros (suf x (k+1)).length) ((lvl x k).cs.getD (j-(k+1)) []) (at0 x.zA j).toNat=sig (suf x (k+1)) (lvl x k) ((x.zN.getD j []).drop (k+1))
 c2:∀i,k+1≤i→i<x.zA.length→ ∀j,i+1≤j→j<x.zA.length→
  mul (suf x (k+1)) ((lvl x k).cs.getD (j-(k+1)) []) ((lvl x k).cs.getD (i-(k+1)) [])=mul (suf x (k+1)) ((lvl x k).cs.getD (i-(k+1)) []) (sig (suf x (k+1)) (lvl x k) (((x.zC.getD i []).getD (j-(i+1)) []).drop (k+1)))
 c3:sig (suf x (k+1)) (lvl x k) (lvl x k).w=(lvl x k).w
 c4:∀j,k+1≤j→j<x.zA.length→mul (suf x (k+1)) (lvl x k).w (iter (lvl x k).o.toNat (sig (suf x (k+1)) (lvl x k)) (jQ (x.zA.length-(k+1)) (j-(k+1))))=mul (suf x (k+1)) (jQ (x.zA.length-(k+1)) (j-(k+1))) (lvl x k).w
section
variable {x:SPr} (h:Pres x) {k:Nat} (hk:k<x.zA.length) (hc:vM (suf x (k+1)))
 include h hk
theorem zBW{j:Nat}(h1:k+1≤j)(h2:j<x.zA.length):ixO x.zC (k:Int)=dS (x.zC.getD k [])∧ixO (x.zC.getD k []) ((j:Int)-(k:Int)-1)=dS (fv (k+1) ((lvl x k).cs.getD (j-(k+1)) []))∧V (suf x (k+1)) ((lvl x k).cs.getD (j-(k+1)) []):=by
 obtain⟨c,c1,c2,c3,c4⟩:=zGK h hk (i:=j-(k+1)) (by omega)
 grind
theorem zSE{j:Nat}(h1:k+1≤j)(h2:j<x.zA.length):ixO x.zN (j:Int)=dS (fv (k+1) ((x.zN.getD j []).drop (k+1)))∧V (suf x (k+1)) ((x.zN.getD j []).drop (k+1)):=by
 have t1:=(h.tl j h2).1;have hl:=h.pl
 grind[zHH,zR]
theorem zXX{i j:Nat}(h1:k+1≤i)(h2:i+1≤j)(h3:j<x.zA.length):ixO x.zC (i:Int)=dS (x.zC.getD i [])∧ixO (x.zC.getD i []) ((j:Int)-(i:Int)-1)=dS (fv (k+1) (((x.zC.getD i []).getD (j-(i+1)) []).drop (k+1)))∧V (suf x (k+1)) (((x.zC.getD i []).getD (j-(i+1)) []).drop (k+1)):=by
 obtain⟨_,t2,t3⟩:=h.tl i (by omega)
 grind[zHH,zR]
theorem zZm:ixO x.zN (k:Int)=dS (fv (k+1) (lvl x k).w)∧V (suf x (k+1)) (lvl x k).w:=by have t1:=(h.tl k hk).1;have hl:=h.pl;obtain⟨e1,e2⟩:=zHH (k:=k+1) t1 (by omega) (by omega);exact⟨by rw[zR [] (by omega)];exact congrArg dS e1,e2⟩
theorem zXY{v:Vec}(hv:V (suf x (k+1)) v):V (suf x (k+1)) (sig (suf x (k+1)) (lvl x k) v):=by
 have ok0:=h.okAt (k:=k) (by omega)
 grind[yW,zKu]
theorem zJn{j:Nat}(h1:k+1≤j)(h2:j<x.zA.length):zKH (x.zA.length:Int) (j:Int)=dS (fv (k+1) (jQ (x.zA.length-(k+1)) (j-(k+1)))):=by
 have h6:=h.os.1;unfold zKH;rw[yF (by omega),bs,vC,Jp,if_pos h2,bs,J8]
 congr 1
 rw[fv,zGM (by omega),←Ji];have e1:zeros (k+1)++zeros (j-(k+1))=zeros j:=by grind[zeros,Ko]
 have e2:J1 x.zA.length (0:Int)=zeros j++0::zeros (x.zA.length-(j+1)):=by simp only[zeros];rw[←Kt,Ko];grind
 grind[zGm]
theorem zQs{j:Nat}(h1:k+1≤j)(h2:j<x.zA.length):zIv (x.zA.length:Int) (j:Int)=dS (fv (k+1) (jQ (x.zA.length-(k+1)) (j-(k+1)))):=zJn h hk h1 h2
 include hc
theorem zAH{v:Vec}(hv:V (suf x (k+1)) v):f_P x k (fv (k+1) v)=dS (fv (k+1) (sig (suf x (k+1)) (lvl x k) v)):=by
 have h6:=h.os.1;have ok:=h.okAt (k:=k+1) (by omega);have ok0:=h.okAt (k:=k) (by omega);rw[yW hk]at ok0;obtain⟨eM,te⟩:=zBm h.os (x.zA.length-(k+1)) (k+1) v (by omega) hv;have gI:(lvl x k).cs.length=x.zA.length-(k+1):=by rw[ok0.2.2.1,xX]
 have t2:=(h.tl k hk).2.1;have dA:=h.cl;have hA:∀i,V (suf x (k+1)) (img (mul (suf x (k+1))) ((lvl x k).cs.take i) (v.take i) (zeros (suf x (k+1)).length)):=fun i=>
  zAF (xV ok) _ _ (fun c hc=>ok0.2.2.2.1 c (by grind)) (vZ ok)
 unfold f_P;rw[zEn h (by omega) hv,yF (by omega),bs,zR [] (by omega),bs,zLP h (k:=k+1) (by omega)];have:=zP (body:=zTC x k (fv (k+1) v) (x.zC.getD k [])) (r:=fv (k+1) (sig (suf x (k+1)) (lvl x k) v))
  (fun i=>(fv (k+1) (img (mul (suf x (k+1))) ((lvl x k).cs.take i) (v.take i) (zeros (suf x (k+1)).length)),(i:Int))) (x.zC.getD k []).length (fun i hi=>by
  have hr:=te i (by omega);obtain⟨c,c1,c2,c3,c4⟩:=zGK h hk (i:=i) (by omega);unfold zTC;simp only
  rw[yJ hi,zI,c2,bs,zF (by omega) (by omega),bs,zF (by omega) (by omega),bs,show(k:Int)+1+(i:Int)=((k+1+i:Nat):Int)from by omega,fv,zQr (by omega),bs];rw[vN (S:=V (suf x (k+1))) (body:=zTB x (zeros (k+1)++c) (at0 v i)) (fun u=>fv (k+1) u) (fun u=>mul (suf x (k+1)) u c) (at0 v i) hr.1 (by grind[xV]) (fun u q hu hq=>by
   unfold zTB;simp only
   rw[dX hq,zI,zEQ h (by omega) hc hu c3,bs,zF (by omega) (by omega),bs,cs]) (fun u hu=>by
   unfold zTB;simp) (hA i),bs,zF (by omega) (by omega),bs,cs]
  rw[zCV _ _ _ _ (by omega) (by omega),c4]) (by
  unfold zTC;simp only
  rw[tH,zH,Jt (by omega),Jt (by omega)];rfl)
 simp only[L4,img]at this
 grind
theorem zCZ{a b:Vec}(ha:V (suf x (k+1)) a):IsB (zKG (fv (k+1) a) (fv (k+1) b)) (a=b):=by
 have _:=hc;have h6:=h.os.1
 grind[zEo,zEn,IsB.of_bool,zZl]
theorem zLS{c:Vec}(ez:V (suf x (k+1)) c){e:Int}(e0:0≤e)(e1:e≤1000):zMz x ((k+1:Nat):Int) (fv (k+1) c) e=dS (fv (k+1) (pw (mul (suf x (k+1))) (zeros (suf x (k+1)).length) c e.toNat)):=by
 have h6:=h.os.1;have ok:=h.okAt (k:=k+1) (by omega);have G:=zCY h (k:=k+1) (by omega) hc;have hA:=zEO h (k:=k+1) (by omega);have pwV:∀a,V (suf x (k+1)) (pw (mul (suf x (k+1))) (zeros (suf x (k+1)).length) c a):=fun a=>wZ G.toMon ez a
 unfold zMz;rw[yF (by omega),bs,zLP h (k:=k+1) (by omega)];obtain⟨r,r1,r2⟩:=vU (body:=zJD x ((k+1:Nat):Int)) (Q:=fun r=>r=fv (k+1) (pw (mul (suf x (k+1))) (zeros (suf x (k+1)).length) c e.toNat))
  (fun s=> ∃(m a q:Nat),s=((m:Int),fv (k+1) (pw (mul (suf x (k+1))) (zeros (suf x (k+1)).length) c a),fv (k+1) (pw (mul (suf x (k+1))) (zeros (suf x (k+1)).length) c q))∧a+q*m=e.toNat∧m≤1000) (fun s=>s.1.toNat) (fun s ⟨m,a,q,hs,he,hm⟩=>by
   subst hs;unfold zJD;simp only
   by_cases hm0:m=0
   ·grind
   ·left
    have hr:yL (m:Int) 2=dS ((m%2:Nat):Int):=by rfl
    have hq:xC (m:Int) 2=dS ((m/2:Nat):Int):=by
     unfold xC;rw[if_neg (by decide),Kq (by omega)]
     grind[zF]
    have cU:=Nat.div_add_mod m 2;have pt:mul (suf x (k+1)) (pw (mul (suf x (k+1))) (zeros (suf x (k+1)).length) c q) (pw (mul (suf x (k+1))) (zeros (suf x (k+1)).length) c q)=pw (mul (suf x (k+1))) (zeros (suf x (k+1)).length) c (q+q):=(zB2 G.toMon ez q q).symm;rw[dX (by omega),zI,hr,bs];rcases Nat.mod_two_eq_zero_or_one m with h2|h2
    ·rw[h2,show((((0:Nat):Int))==1)=dV from rfl,zH,hA _ _ (pwV q) (pwV q),bs,hq,bs,pt]
     refine⟨_,rfl,⟨m/2,a,q+q,rfl,?_,by omega⟩,by omega⟩
     grind
    ·rw[h2,show((((1:Nat):Int))==1)=dU from rfl,zI,hA _ _ (pwV a) (pwV q),bs,hA _ _ (pwV q) (pwV q),bs,hq,bs,pt,←zB2 G.toMon ez a q]
     refine⟨_,rfl,⟨m/2,a+q,q+q,rfl,?_,by omega⟩,by omega⟩
     grind) 1000000 (e,fv (k+1) (zeros (suf x (k+1)).length),fv (k+1) c) (by omega) ⟨e.toNat,0,1,by rw[zKt G.toMon ez,show((e.toNat:Nat):Int)=e from by omega];rfl,by omega,by omega⟩
 grind
end
end Go.Pl

namespace Go.Pl
open Go Go.Ab Go.Wk Go.Pc
def yBH(o:Option yU)(P:Prop):Prop:=(o=dS (yU.mk 0 0 0 0)∧P)∨ ∃r,o=dS r∧r.Kind≠0∧ ¬P
theorem kb{a b c d:Int}(h:a≠0):(yU.mk a b c d).Kind≠0:=h
abbrev KB(r:yU):Prop:=r.Kind≠0
theorem zBX{o:Option Bool}{P:Prop}{bad:yU}{i:Nat}{g:Option (Int⊕(Unit⊕yU))}(h:IsB o P)(hi:i<9223372036854775807)(hbad:bad.Kind≠0)
  (hg:g=o.bind fun r=>cond (!r) (dS (.inr (.inr bad))) ((rng ((i:Int)+1)).bind fun v=>dS (.inl v))):(g=dS (.inl ((i+1:Nat):Int))∧P)∨(∃r,g=dS (.inr (.inr r))∧KB r∧ ¬P):=by
 rcases uA h hi hg with h|⟨h1,h2⟩
 all_goals grind
section
variable {x:SPr} (h:Pres x) {k:Nat} (hk:k<x.zA.length) (hc:vM (suf x (k+1)))
 include h hk hc
theorem zNC:yBH (f_m x k) (LC x k):=by
 have h6:=h.os.1;have ok:=h.okAt (k:=k+1) (by omega);have G:=zCY h (k:=k+1) (by omega) hc;obtain⟨w1,w2⟩:=zZm h hk;have cY:∀v,V (suf x (k+1)) v→V (suf x (k+1)) (sig (suf x (k+1)) (lvl x k) v):=by grind[zXY]
 unfold f_m;rw[zF (by omega) (by omega),bs,cs];rcases zLR (body:=zTF x k) x.zA.length (k+1) (by omega) (fun j=>pw (mul (suf x (k+1))) (zeros (suf x (k+1)).length) ((lvl x k).cs.getD (j-(k+1)) []) (at0 x.zA j).toNat=sig (suf x (k+1)) (lvl x k) ((x.zN.getD j []).drop (k+1))) KB (fun j h1 h2 _=>by
   obtain⟨c1,c2,c3⟩:=zBW h hk h1 h2;obtain⟨p1,p2⟩:=zSE h hk h1 h2;have eI:=(h.os.2 j h2).pos;refine zBX (zCZ h hk hc (wZ G.toMon c3 (at0 x.zA j).toNat)) (by omega) (bad:=yU.mk 1 k j 0) (kb (by decide)) ?_;unfold zTF;rw[yJ h2,zI,c1,bs,zF (by omega) (by omega),bs,zF (by omega) (by omega),bs,c2,bs,zZ h2,bs,zHG h (by omega) hc c3 (by omega) (by omega),bs,p1,bs,zAH h hk hc p2,bs]) (by
   unfold zTF;simp)with⟨g1,g2⟩|⟨r,j,j1,j2,g1,g2,g3⟩
 rotate_left
 ·rw[g1,bs]
  exact .inr ⟨r,rfl,g2,fun q=>g3 (q.c1 j j1 j2)⟩
 rw[g1,bs];simp only
 rw[bs];rcases zLR (body:=zTH x k) x.zA.length (k+1) (by omega) (fun i=> ∀j,i+1≤j→j<x.zA.length→
   mul (suf x (k+1)) ((lvl x k).cs.getD (j-(k+1)) []) ((lvl x k).cs.getD (i-(k+1)) [])=mul (suf x (k+1)) ((lvl x k).cs.getD (i-(k+1)) []) (sig (suf x (k+1)) (lvl x k) (((x.zC.getD i []).getD (j-(i+1)) []).drop (k+1)))) KB (fun i h1 h2 _=>by
   obtain⟨c1,c2,c3⟩:=zBW h hk h1 h2;unfold zTH;rw[yJ h2,zI,zF (by omega) (by omega),bs,cs];rcases zLR (body:=zTG x k i) x.zA.length (i+1) (by omega) (fun j=>mul (suf x (k+1)) ((lvl x k).cs.getD (j-(k+1)) []) ((lvl x k).cs.getD (i-(k+1)) [])=mul (suf x (k+1)) ((lvl x k).cs.getD (i-(k+1)) []) (sig (suf x (k+1)) (lvl x k) (((x.zC.getD i []).getD (j-(i+1)) []).drop (k+1)))) KB (fun j h3 h4 _=>by
     obtain⟨d1,d2,d3⟩:=zBW h hk (j:=j) (by omega) h4;obtain⟨e1,e2,e3⟩:=zXX h hk h1 h3 h4;obtain⟨q,q1,q2,q3⟩:=zAX h (by omega) hc d3 c3;refine zBX ((zCZ h hk hc (b:=sig (suf x (k+1)) (lvl x k) (((x.zC.getD i []).getD (j-(i+1)) []).drop (k+1))) q1).iff (Q:=mul (suf x (k+1)) ((lvl x k).cs.getD (j-(k+1)) []) ((lvl x k).cs.getD (i-(k+1)) [])=mul (suf x (k+1)) ((lvl x k).cs.getD (i-(k+1)) []) (sig (suf x (k+1)) (lvl x k) (((x.zC.getD i []).getD (j-(i+1)) []).drop (k+1)))) ?_) (by omega) (bad:=yU.mk 2 k i j) (kb (by decide)) ?_
     ·exact⟨by grind,fun e=>G.cancel_l c3 q1 (cY _ e3) (by rw[q2,e])⟩
     ·unfold zTG
      rw[yJ h4,zI,d1,bs,zF (by omega) (by omega),bs,zF (by omega) (by omega),bs,d2,bs,bs,zF (by omega) (by omega),bs,zF (by omega) (by omega),bs,c2,bs,q3,bs,e1,bs,zF (by omega) (by omega),bs,zF (by omega) (by omega),bs,e2,bs,zAH h hk hc e3,bs]) (by
     unfold zTG;simp)with⟨g1,g2⟩|⟨r,j,j1,j2,g1,g2,g3⟩
   ·grind
   grind) (by
   unfold zTH;simp)with⟨k1,k2⟩|⟨r,j,j1,j2,k1,k2,k3⟩
 rotate_left
 ·rw[k1,bs]
  exact .inr ⟨r,rfl,k2,fun q=>k3 (q.c2 j j1 j2)⟩
 rw[k1,bs];simp only
 rw[w1,bs,zAH h hk hc w2,bs];rcases zCZ h hk hc (b:=(lvl x k).w) (cY _ w2)with⟨m1,m2⟩|⟨m1,m2⟩
 rotate_left
 ·rw[m1,bs,Jo,zI]
  exact .inr ⟨_,rfl,kb (by decide),fun q=>m2 q.c3⟩
 rw[m1,bs,J3,zH,bs];rcases zLR (body:=zTJ x k (fv (k+1) (lvl x k).w)) x.zA.length (k+1) (by omega) (fun j=>mul (suf x (k+1)) (lvl x k).w (iter (lvl x k).o.toNat (sig (suf x (k+1)) (lvl x k)) (jQ (x.zA.length-(k+1)) (j-(k+1))))=mul (suf x (k+1)) (jQ (x.zA.length-(k+1)) (j-(k+1))) (lvl x k).w) KB (fun j h1 h2 _=>by
   have hU:=zNB h (k:=k+1) (by omega) hc (i:=j-(k+1)) (by omega);have eI:=(h.os.2 k hk).pos;obtain⟨q,q1,q2,q3⟩:=zAX h (k:=k+1) (by omega) hc hU w2;have fE:V (suf x (k+1)) (iter (lvl x k).o.toNat (sig (suf x (k+1)) (lvl x k)) (jQ (x.zA.length-(k+1)) (j-(k+1)))):=sW cY _ hU;refine zBX ((zCZ h hk hc (b:=q) fE).iff ⟨by grind,fun e=>G.cancel_l w2 fE q1 (by rw[e,q2])⟩) (by omega) (bad:=yU.mk 4 k j 0) (kb (by decide)) ?_;unfold zTJ;rw[yJ h2,zI,zJn h hk h1 h2,bs,zZ hk,bs];rw[vN (S:=V (suf x (k+1))) (body:=zTI x k (at0 x.zA k)) (fun u=>fv (k+1) u) (sig (suf x (k+1)) (lvl x k)) (at0 x.zA k) (by omega) cY (fun u i hu hi=>by
    unfold zTI;simp only
    rw[dX hi,zI,zAH h hk hc hu,bs,zF (by omega) (by omega),bs,cs]) (fun u hu=>by
    unfold zTI;simp) hU,bs,bs,q3,bs]
   rfl) (by
   unfold zTJ;simp)with⟨n1,n2⟩|⟨r,j,j1,j2,n1,n2,n3⟩
 ·rw[n1,bs]
  exact .inl ⟨rfl,⟨g2,k2,m2,n2⟩⟩
 ·rw[n1,bs]
  exact .inr ⟨r,rfl,n2,fun q=>n3 (q.c4 j j1 j2)⟩
theorem zND:yBH (f_n x k) (LC x k):=by
 have h6:=h.os.1;have ok:=h.okAt (k:=k+1) (by omega);have G:=zCY h (k:=k+1) (by omega) hc;obtain⟨w1,w2⟩:=zZm h hk;have hA:=zEO h (k:=k+1) (by omega);have hI:=zN8 h hk;have cY:∀v,V (suf x (k+1)) v→V (suf x (k+1)) (sig (suf x (k+1)) (lvl x k) v):=by grind[zXY]
 have eqB:∀{a b:Vec},V (suf x (k+1)) a→IsB (zFX (fv (k+1) a) (fv (k+1) b)) (a=b):=fun ha=>zCZ h hk hc ha
 unfold f_n;rw[zF (by omega) (by omega),bs,cs];rcases zLR (body:=zTt x k) x.zA.length (k+1) (by omega) (fun j=>pw (mul (suf x (k+1))) (zeros (suf x (k+1)).length) ((lvl x k).cs.getD (j-(k+1)) []) (at0 x.zA j).toNat=sig (suf x (k+1)) (lvl x k) ((x.zN.getD j []).drop (k+1))) KB (fun j h1 h2 _=>by
   obtain⟨c1,c2,c3⟩:=zBW h hk h1 h2;obtain⟨p1,p2⟩:=zSE h hk h1 h2;have eI:=(h.os.2 j h2).pos;refine zBX (eqB (wZ G.toMon c3 (at0 x.zA j).toNat)) (by omega) (bad:=yU.mk 1 k j 0) (kb (by decide)) ?_;unfold zTt;rw[yJ h2,zI,zF (by omega) (by omega),bs,cs,c1,bs,zF (by omega) (by omega),bs,zF (by omega) (by omega),bs,c2,bs,zZ h2,bs,zLS h hk hc c3 (by omega) (by omega),bs,p1,bs,hI _ p2,bs]) (by
   unfold zTt;simp)with⟨g1,g2⟩|⟨r,j,j1,j2,g1,g2,g3⟩
 rotate_left
 ·rw[g1,bs]
  exact .inr ⟨r,rfl,g2,fun q=>g3 (q.c1 j j1 j2)⟩
 rw[g1,bs];simp only
 rw[bs];rcases zLR (body:=zTv x k) x.zA.length (k+1) (by omega) (fun i=> ∀j,i+1≤j→j<x.zA.length→
   mul (suf x (k+1)) ((lvl x k).cs.getD (j-(k+1)) []) ((lvl x k).cs.getD (i-(k+1)) [])=mul (suf x (k+1)) ((lvl x k).cs.getD (i-(k+1)) []) (sig (suf x (k+1)) (lvl x k) (((x.zC.getD i []).getD (j-(i+1)) []).drop (k+1)))) KB (fun i h1 h2 _=>by
   obtain⟨c1,c2,c3⟩:=zBW h hk h1 h2;unfold zTv;rw[yJ h2,zI,zF (by omega) (by omega),bs,cs];rcases zLR (body:=zTu x k i) x.zA.length (i+1) (by omega) (fun j=>mul (suf x (k+1)) ((lvl x k).cs.getD (j-(k+1)) []) ((lvl x k).cs.getD (i-(k+1)) [])=mul (suf x (k+1)) ((lvl x k).cs.getD (i-(k+1)) []) (sig (suf x (k+1)) (lvl x k) (((x.zC.getD i []).getD (j-(i+1)) []).drop (k+1)))) KB (fun j h3 h4 _=>by
     obtain⟨d1,d2,d3⟩:=zBW h hk (j:=j) (by omega) h4;obtain⟨e1,e2,e3⟩:=zXX h hk h1 h3 h4;refine zBX (eqB (xV ok d3 c3)) (by omega) (bad:=yU.mk 2 k i j) (kb (by decide)) ?_;unfold zTu;rw[yJ h4,zI,d1,bs,zF (by omega) (by omega),bs,zF (by omega) (by omega),bs,c2,bs,bs,zF (by omega) (by omega),bs,zF (by omega) (by omega),bs,d2,bs,e1,bs,zF (by omega) (by omega),bs,zF (by omega) (by omega),bs,e2,bs,hI _ e3,bs,zF (by omega) (by omega),bs,cs,hA _ _ d3 c3,bs,bs,hA _ _ c3 (cY _ e3),bs]) (by
     unfold zTu;simp)with⟨g1,g2⟩|⟨r,j,j1,j2,g1,g2,g3⟩
   ·grind
   grind) (by
   unfold zTv;simp)with⟨k1,k2⟩|⟨r,j,j1,j2,k1,k2,k3⟩
 rotate_left
 ·rw[k1,bs]
  exact .inr ⟨r,rfl,k2,fun q=>k3 (q.c2 j j1 j2)⟩
 rw[k1,bs];simp only
 rw[w1,bs,hI _ w2,bs];rcases eqB (b:=(lvl x k).w) (cY _ w2)with⟨m1,m2⟩|⟨m1,m2⟩
 rotate_left
 ·rw[m1,bs,Jo,zI]
  exact .inr ⟨_,rfl,kb (by decide),fun q=>m2 q.c3⟩
 rw[m1,bs,J3,zH,bs];rcases zLR (body:=zTx x k (fv (k+1) (lvl x k).w)) x.zA.length (k+1) (by omega) (fun j=>mul (suf x (k+1)) (lvl x k).w (iter (lvl x k).o.toNat (sig (suf x (k+1)) (lvl x k)) (jQ (x.zA.length-(k+1)) (j-(k+1))))=mul (suf x (k+1)) (jQ (x.zA.length-(k+1)) (j-(k+1))) (lvl x k).w) KB (fun j h1 h2 _=>by
   have hU:=zNB h (k:=k+1) (by omega) hc (i:=j-(k+1)) (by omega);have eI:=(h.os.2 k hk).pos;have fE:V (suf x (k+1)) (iter (lvl x k).o.toNat (sig (suf x (k+1)) (lvl x k)) (jQ (x.zA.length-(k+1)) (j-(k+1)))):=sW cY _ hU;refine zBX (eqB (xV ok w2 fE)) (by omega) (bad:=yU.mk 4 k j 0) (kb (by decide)) ?_;unfold zTx;rw[yJ h2,zI,zQs h hk h1 h2,bs];rw[vN (S:=V (suf x (k+1))) (body:=zTw x k) (fun u=>fv (k+1) u) (sig (suf x (k+1)) (lvl x k)) (at0 x.zA k) (by omega) cY (fun u i hu hi=>by
    unfold zTw;simp only
    rw[zZ hk,bs,dX hi,zI,hI _ hu,bs,zF (by omega) (by omega),bs,cs]) (fun u hu=>by
    unfold zTw;simp only
    rw[zZ hk,bs,dW (by omega),zH]) hU,bs,zF (by omega) (by omega),bs,cs]
   have ho:(lvl x k).o=at0 x.zA k:=rfl;rw[←ho,hA _ _ w2 fE,bs,bs,hA _ _ hU w2,bs]) (by
   unfold zTx;simp)with⟨n1,n2⟩|⟨r,j,j1,j2,n1,n2,n3⟩
 ·rw[n1,bs]
  exact .inl ⟨rfl,⟨g2,k2,m2,n2⟩⟩
 ·rw[n1,bs]
  exact .inr ⟨r,rfl,n2,fun q=>n3 (q.c4 j j1 j2)⟩
end
end Go.Pl

namespace Go.Pl
open Go Go.Ab Go.Wk Go.Pc
theorem zFF{m:Vec→Vec→Vec}:∀(i:Nat)(cs:List Vec)(w acc:Vec),i≤cs.length→img m cs (zeros i++w) acc=img m (cs.drop i) w acc
 |0,cs,w,acc,_=>rfl
 |i+1,[],w,acc,h=>by simp at h
 |i+1,c::cs,w,acc,h=>by show img m (c::cs) (0::(zeros i++w)) acc=_;simp only[img,Hj,iter,List.drop_succ_cons];exact zFF i cs w acc (by grind)
theorem zHI{x:SPr}{v:List Int}{j k:Nat}(h:Exp x.zA v j)(hj:j<x.zA.length)(hk:k≤j+1):v.drop k=zeros (j+1-k)++v.drop (j+1):=by
 have:=zBV h hj
 grind[zeros]
section
variable {x:SPr} (h:zHD x) {k:Nat} (hk:k<x.zA.length)
 include h hk
theorem zDx:(lvl x k).cs.length=x.zA.length-(k+1):=by have ok0:=h.okAt (k:=k) (by omega);rw[yW hk]at ok0;rw[ok0.2.2.1,xX]
theorem zVL{j:Nat}(h1:k+1≤j)(h2:j<x.zA.length):sig (suf x (k+1)) (lvl x k) ((x.zN.getD j []).drop (k+1))=img (mul (suf x (k+1))) ((lvl x k).cs.drop (j-k)) (lvl x j).w (zeros (suf x (k+1)).length):=by have t1:=(h.tl j h2).1;have gI:=zDx h hk;rw[zHI t1 h2 (by omega),sig,zFF _ _ _ _ (by omega),show j+1-(k+1)=j-k from by omega];rfl
theorem zPx:∀(d i:Nat),k+1+i+d=x.zA.length→(Rel (mul (suf x (k+1))) (zeros (suf x (k+1)).length) (suf x (k+1+i)) ((lvl x k).cs.drop i)↔
  (∀j,k+1+i≤j→j<x.zA.length→pw (mul (suf x (k+1))) (zeros (suf x (k+1)).length) ((lvl x k).cs.getD (j-(k+1)) []) (at0 x.zA j).toNat=sig (suf x (k+1)) (lvl x k) ((x.zN.getD j []).drop (k+1)))∧
  (∀a,k+1+i≤a→a<x.zA.length→ ∀j,a+1≤j→j<x.zA.length→
   mul (suf x (k+1)) ((lvl x k).cs.getD (j-(k+1)) []) ((lvl x k).cs.getD (a-(k+1)) [])=mul (suf x (k+1)) ((lvl x k).cs.getD (a-(k+1)) []) (sig (suf x (k+1)) (lvl x k) (((x.zC.getD a []).getD (j-(a+1)) []).drop (k+1)))))
 |0,i,hi=>by
  have gI:=zDx h hk;rw[zAg (x:=x) (k:=k+1+i) (by omega),Gl (by omega)];simp only[Rel,true_iff]
  grind
 |d+1,i,hi=>by
  have gI:=zDx h hk;have ih:=zPx d (i+1) (by omega);rw[show k+1+(i+1)=k+1+i+1 from by omega]at ih;have hj:k+1+i<x.zA.length:=by omega
  have hg:(lvl x k).cs.drop i=(lvl x k).cs.getD i []::(lvl x k).cs.drop (i+1):=by rw[Ga (by omega),J4,J6 (by omega)];rfl
  rw[yW hj,hg];simp only[Rel];rw[ih];have e1:=zVL h hk (j:=k+1+i) (by omega) hj;rw[show k+1+i-k=i+1 from by omega]at e1;have ho:(lvl x (k+1+i)).o=at0 x.zA (k+1+i):=rfl;rw[ho,←e1];have e2:∀j,k+1+i+1≤j→j<x.zA.length→ ∀dd,(lvl x (k+1+i)).cs[j-(k+1+i+1)]? =dS dd→img (mul (suf x (k+1))) ((lvl x k).cs.drop (i+1)) dd (zeros (suf x (k+1)).length)=sig (suf x (k+1)) (lvl x k) (((x.zC.getD (k+1+i) []).getD (j-(k+1+i+1)) []).drop (k+1)):=fun j h1 h2 dd dx=>by
   obtain⟨_,t2,t3⟩:=h.tl (k+1+i) hj;have t:=t3 (j-(k+1+i+1)) (by omega);rw[zHI t hj (by omega),sig,zFF _ _ _ _ (by omega),show k+1+i+1-(k+1)=i+1 from by omega]
   congr 1
   simp only[lvl,Jm,K0]at dx
   grind
  have e3:∀j,k+1+i+1≤j→j<x.zA.length→((lvl x k).cs.drop (i+1))[j-(k+1+i+1)]? =dS ((lvl x k).cs.getD (j-(k+1)) [])∧ ∃dd,(lvl x (k+1+i)).cs[j-(k+1+i+1)]? =dS dd:=fun j h1 h2=>by
   have dA:=zDx h hj;refine⟨?_,?_⟩
   ·rw[La,show i+1+(j-(k+1+i+1))=j-(k+1)from by omega,J4,J6 (by omega)];rfl
   ·exact⟨_,J6 (by omega)⟩
  constructor
  ·rintro⟨a1,a2,a3,a4⟩
   refine⟨fun j h1 h2=>?_,fun a h1 h2 j h3 h4=>?_⟩
   ·rcases Js (k+1+i) j with gE|hge
    ·grind
    ·obtain rfl:j=k+1+i:=by omega
     rw[show k+1+i-(k+1)=i from by omega];exact a1
   ·rcases Js (k+1+i) a with gE|hge
    ·exact a4 a (by omega) h2 j h3 h4
    ·obtain rfl:a=k+1+i:=by omega
     obtain⟨f1,dd,f2⟩:=e3 j (by omega) h4;have:=a2 _ _ _ f1 f2;rw[e2 j (by omega) h4 dd f2]at this;rw[show k+1+i-(k+1)=i from by omega];exact this
  ·rintro⟨a1,a2⟩
   refine⟨?_,fun kk c dd h1 h2=>?_,by grind,by grind⟩
   ·have:=a1 (k+1+i) (by omega) hj
    rw[show k+1+i-(k+1)=i from by omega]at this;exact this
   ·have gE:kk<x.zA.length-(k+1+i+1):=by
     have:=(J9.1 h1).1;rw[Kv]at this;omega
    have g:=a2 (k+1+i) (by omega) hj (k+1+i+1+kk) (by omega) (by omega);obtain⟨f1,_⟩:=e3 (k+1+i+1+kk) (by omega) (by omega);rw[show k+1+i+1+kk-(k+1+i+1)=kk from by omega]at f1 g;rw[h1]at f1;have f1:=Lh.inj f1;have g2:=e2 (k+1+i+1+kk) (by omega) (by omega) dd (by rw[show k+1+i+1+kk-(k+1+i+1)=kk from by omega];exact h2);rw[show k+1+i+1+kk-(k+1+i+1)=kk from by omega]at g2;rw[g2,f1];rw[show k+1+i-(k+1)=i from by omega]at g;exact g
theorem zLT:vM (suf x k)↔vM (suf x (k+1))∧LC x k:=by
 have hr:=zPx h hk (x.zA.length-(k+1)) 0 (by omega);have hl:=xX x (k+1);rw[Hu,Jam]at hr;rw[yW hk];simp only[vM];rw[hr];constructor
 ·rintro⟨a,⟨b1,b2⟩,c,d⟩
  refine⟨a,⟨b1,b2,c,fun j h1 h2=>?_⟩⟩
  grind
 ·rintro⟨a,b⟩
  refine⟨a,⟨b.c1,b.c2⟩,b.c3,fun j hj=>?_⟩;have:=b.c4 (k+1+j) (by omega) (by omega);rw[show k+1+j-(k+1)=j from by omega]at this
  rwa [hl]
end
theorem zJo{x:SPr}(h:vM (suf x 0))(k:Nat):vM (suf x k):=by
 have:=zCX h k
 grind
def zCo(x:SPr):Prop:=Pres x∧vM (suf x 0)∧jU x
theorem qS{x:SPr}(hl:x.zA.length≤1048576):IsB (zM5 x) (zCo x):=by
 unfold zM5;rcases zDH hl with⟨h1,h2⟩|⟨h1,h2⟩
 ·have h6:=h2.os.1
  rw[h1,bs,zI];unfold zZC;obtain⟨r,r1,r2⟩:=uF (body:=zM4 x) (Q:=fun r=> ∃s:Nat,r=(s:Int)∧vM (suf x s)∧(s=0∨ ¬vM (suf x (s-1)))) (fun i s=>i≤x.zA.length∧s=((x.zA.length-i:Nat):Int)∧vM (suf x (x.zA.length-i))) x.zA.length (fun i s hi ⟨_,hs,gZ⟩=>by
    subst hs;have hk:x.zA.length-i-1<x.zA.length:=by omega
    have e9:x.zA.length-(i+1)=x.zA.length-i-1:=by omega
    rw[e9];have e8:i+1≤x.zA.length:=by omega
    rw[show x.zA.length-i=x.zA.length-i-1+1 from by omega]at gZ ⊢
    have mb:=zNC h2.toPres hk gZ;have cD:=zLT h2.toPres.w hk
    generalize x.zA.length-i-1=k at*
    unfold zM4;rw[dX (by omega),zI,zF (by omega) (by omega),bs,show(((k+1:Nat):Int)-1)=(k:Int)from by omega];rcases mb with⟨g1,g2⟩|⟨r,g1,g2,g3⟩
    ·simp_all
    grind) (fun s ⟨_,hs,gZ⟩=>by
    rw[L3]at hs gZ;subst hs;unfold zM4
    grind) (s:=(x.zA.length:Int)) ⟨by omega,by rfl,by rw[Uv,zAg (by omega)];simp only[vM]⟩
  obtain⟨s,rfl,gZ,hs⟩:=r2;rw[r1,bs,bs];cases s with
  |zero=>exact .inl ⟨rfl,h2.toPres,gZ,h2⟩
  |succ s=>
   refine .inr ⟨?_,fun q=>?_⟩
   ·congr 1
   ·rcases hs with hs|hs
    ·omega
    ·exact hs (zJo q.2.1 _)
 ·rw[h1,bs,zH]
  exact .inr ⟨rfl,fun q=>h2 q.2.2⟩
theorem zEp{x:SPr}(hl:x.zA.length≤1048576):IsB (zM1 x) (zCo x):=by
 unfold zM1;rcases wP hl with⟨h1,h2⟩|⟨h1,h2⟩
 ·have h6:=h2.os.1
  rw[h1,bs,zI];unfold zZ7 zZ6;rw[zF (by omega) (by omega),bs];obtain⟨r,r1,r2⟩:=uF (body:=zM0 x) (Q:=fun r=>(r=.inl ()∧vM (suf x 0))∨ ∃f,r=.inr f∧f.Kind≠0∧ ¬vM (suf x 0)) (fun i s=>i≤x.zA.length∧s=((x.zA.length-i:Nat):Int)-1∧vM (suf x (x.zA.length-i))) x.zA.length (fun i s hi ⟨_,hs,gZ⟩=>by
    subst hs;have hk:x.zA.length-i-1<x.zA.length:=by omega
    have e9:x.zA.length-(i+1)=x.zA.length-i-1:=by omega
    rw[e9];have e8:i+1≤x.zA.length:=by omega
    rw[show x.zA.length-i=x.zA.length-i-1+1 from by omega]at gZ ⊢
    have mb:=zND h2.toPres hk gZ;have cD:=zLT h2.toPres.w hk
    generalize x.zA.length-i-1=k at*
    unfold zM0;rw[show(((k+1:Nat):Int)-1)=(k:Int)from by omega,dX (by omega),zI];rcases mb with⟨g1,g2⟩|⟨r,g1,g2,g3⟩
    ·left
     rw[g1,bs];simp only
     rw[show((0:Int) != 0)=dV from rfl,zH,zF (by omega) (by omega),bs]
     grind
    ·right
     rw[g1,bs,show(r.Kind != 0)=dU from by grind,zI];exact⟨_,rfl,.inr ⟨r,rfl,g2,by grind[zJo]⟩⟩) (fun s ⟨_,hs,gZ⟩=>by
    rw[L3]at hs gZ;subst hs;unfold zM0
    grind) (s:=(x.zA.length:Int)-1) ⟨by omega,by rfl,by rw[Uv,zAg (by omega)];simp only[vM]⟩
  rw[r1,bs];rcases r2 with⟨rfl,q⟩|⟨f,rfl,g1,g2⟩
  ·exact .inl ⟨rfl,h2.toPres,q,h2⟩
  ·simp only
   rw[bs,show(f.Kind==0)=dV from by grind];exact .inr ⟨rfl,fun q=>g2 q.2.1⟩
 ·rw[h1,bs,zH]
  exact .inr ⟨rfl,fun q=>h2 q.2.2⟩
end Go.Pl

namespace Go.Pl
open Go Go.Ab Go.Wk
abbrev Mx:=List (List Int)
def S:Nat→(Nat→Int)→Int
 |0,_=>0
 |n+1,f=>S n f+f n
theorem xP{n:Nat}{f g:Nat→Int}(h:∀i,i<n→f i=g i):S n f=S n g:=by
 induction n with
 |zero=>rfl
 |succ n ih=>grind[S]
theorem zAA{p:Int}{f g:Nat→Int}:∀{n:Nat},(∀i,i<n→f i%p=g i%p)→S n f%p=S n g%p
 |0,_=>rfl
 |n+1,h=>by simp only[S];rw[K5,zAA (n:=n) fun i hi=>h i (by omega),h n (by omega),←K5]
theorem qD:∀n:Nat,S n (fun _=>0)=0
 |0=>rfl
 |n+1=>by simp only[S,qD n];rfl
theorem zER{f g:Nat→Int}:∀n:Nat,S n (fun i=>f i+g i)=S n f+S n g
 |0=>rfl
 |n+1=>by simp only[S,zER n];omega
theorem zLU{f:Nat→Int}(a:Int):∀n:Nat,S n (fun i=>f i*a)=S n f*a
 |0=>by simp[S]
 |n+1=>by simp only[S,zLU a n,Int.add_mul]
theorem zAY{f:Nat→Int}(a:Int):∀n:Nat,S n (fun i=>a*f i)=a*S n f
 |0=>by simp[S]
 |n+1=>by simp only[S,zAY a n,Ja2]
theorem zHJ{f:Nat→Nat→Int}(m:Nat):∀n:Nat,S n (fun i=>S m (fun j=>f i j))=S m (fun j=>S n (fun i=>f i j))
 |0=>by simp only[S];grind[qD]
 |n+1=>by simp only[S];rw[zHJ m n,zER]
theorem zBs{f:Nat→Int}{k:Nat}:∀{n:Nat},k<n→(∀i,i<n→i≠k→f i=0)→S n f=f k
 |0,h,_=>by omega
 |n+1,h,hz=>by
  simp only[S]
  by_cases hk:k=n
  ·subst hk
   rw[xP (g:=fun _=>0) fun i hi=>hz i (by omega) (by omega),qD];omega
  ·rw[zBs (n:=n) (by omega) fun i hi=>hz i (by omega),hz n (by omega) (by omega)];omega
def mkv(D:Nat)(f:Nat→Int):List Int:=(Jn D).map f
theorem yB(D:Nat)(f:Nat→Int):(mkv D f).length=D:=by simp[mkv]
theorem zDy{D:Nat}{f:Nat→Int}{i:Nat}(h:i<D):(mkv D f)[i]? =dS (f i):=by simp[mkv,h]
theorem zT{D:Nat}{f:Nat→Int}{i:Nat}(h:i<D):at0 (mkv D f) i=f i:=by rw[at0,J4,zDy h];rfl
theorem yC{D:Nat}{f g:Nat→Int}(h:∀i,i<D→f i=g i):mkv D f=mkv D g:=by grind[mkv,G4]
theorem qT{D:Nat}{f:Nat→Int}{j:Nat}{a:Int}:(mkv D f).set j a=mkv D (fun i=>if i=j then a else f i):=by
 apply L9;intro i;rw[Ja7,yB]
 by_cases hi:i<D
 ·by_cases e7:j=i
  ·subst e7;rw[if_pos rfl,if_pos hi,zDy hi,if_pos rfl]
  ·rw[if_neg e7,zDy hi,zDy hi,if_neg fun h=>e7 h.symm]
 ·have h1:∀g:Nat→Int,(mkv D g)[i]? =dT:=by grind[yB]
  grind
theorem vO{v:List Int}{D:Nat}(h:v.length=D):v=mkv D (at0 v):=by
 apply L9;intro i
 by_cases hi:i<D
 ·rw[zDy hi,at0,J4,J6 (by omega)];rfl
 grind[yB]
theorem uW(D:Nat):J1 D (0:Int)=mkv D (fun _=>0):=by
 apply L9
 grind[zDy,yB]
abbrev ent(B:Mx)(l j:Nat):Int:=at0 (B.getD l []) j
def xW(p:Int)(D:Nat)(r:List Int)(B:Mx):List Int:=mkv D fun j=>S D (fun l=>at0 r l*ent B l j)%p
def PM(p:Int)(D:Nat)(A B:Mx):Mx:=A.map fun r=>xW p D r B
def idM(D:Nat):Mx:=(Jn D).map fun i=>mkv D fun j=>if j=i then 1 else 0
def Row(p:Int)(D:Nat)(r:List Int):Prop:=r.length=D∧ ∀i,i<D→0≤at0 r i∧at0 r i≤p-1
def Mat(p:Int)(D:Nat)(A:Mx):Prop:=A.length=D∧ ∀i,i<D→Row p D (A.getD i [])
theorem zCp{p:Int}{D i:Nat}{A B:Mx}(h:i<A.length):(PM p D A B).getD i []=xW p D (A.getD i []) B:=by grind[PM]
theorem vT{p:Int}{D:Nat}{A B:Mx}:(PM p D A B).length=A.length:=by simp[PM]
theorem zDa{p:Int}{D:Nat}{A B:Mx}(hp:0<p)(hA:A.length=D):Mat p D (PM p D A B):=by refine⟨by rw[vT,hA],fun i hi=>?_⟩;rw[zCp (by omega)];refine⟨by rw[xW,yB],fun j hj=>?_⟩;rw[xW,zT hj];have h1:=Ke (S D fun l=>at0 (A.getD i []) l*ent B l j) (show p≠0 by omega);have h2:=K4 (S D fun l=>at0 (A.getD i []) l*ent B l j) hp;omega
theorem zNE{p:Int}{D i j:Nat}{A B:Mx}(hA:A.length=D)(hi:i<D)(hj:j<D):ent (PM p D A B) i j=S D (fun l=>ent A i l*ent B l j)%p:=by rw[ent,zCp (by omega),xW,zT hj]
theorem zCq{D:Nat}{A B:Mx}(hA:A.length=D)(hB:B.length=D)(h:∀i,i<D→A.getD i []=B.getD i []):A=B:=by
 apply L9
 grind
theorem zLV{p:Int}{D:Nat}{A B C:Mx}(hA:A.length=D)(hB:B.length=D):PM p D (PM p D A B) C=PM p D A (PM p D B C):=by
 refine zCq (by rw[vT,vT,hA]) (by rw[vT,hA]) fun i hi=>?_
 rw[zCp (A:=PM p D A B) (by rw[vT];omega),zCp (A:=A) (B:=PM p D B C) (by omega)];unfold xW;refine yC fun j hj=>?_
 have e1:S D (fun l=>at0 ((PM p D A B).getD i []) l*ent C l j)%p=S D (fun l=>S D (fun q=>ent A i q*ent B q l)*ent C l j)%p:=zAA fun l hl=>by
  have:=zNE (p:=p) (B:=B) hA hi hl;simp only[ent]at this ⊢
  rw[this,Jk,Ju,←Jk]
 have e2:S D (fun l=>at0 (A.getD i []) l*ent (PM p D B C) l j)%p=S D (fun q=>ent A i q*S D (fun l=>ent B q l*ent C l j))%p:=zAA fun q hq=>by rw[zNE hB hq hj,Jk,Ju,←Jk]
 rw[e1,e2]
 congr 1
 have e3:(fun l=>S D (fun q=>ent A i q*ent B q l)*ent C l j)=fun l=>S D (fun q=>ent A i q*ent B q l*ent C l j):=funext fun l=>(zLU _ _).symm
 have e4:(fun q=>ent A i q*S D (fun l=>ent B q l*ent C l j))=fun q=>S D (fun l=>ent A i q*ent B q l*ent C l j):=funext fun q=>by rw[←zAY];exact xP fun l _=>by rw[Gb]
 rw[e3,e4];exact zHJ D D
theorem uP(D:Nat):(idM D).length=D:=by simp[idM]
theorem zAI{D i:Nat}(h:i<D):(idM D).getD i []=mkv D fun j=>if j=i then 1 else 0:=by simp[idM,J4,h]
theorem sX{p:Int}{D:Nat}(hp:2≤p):Mat p D (idM D):=by
 refine⟨uP D,fun i hi=>?_⟩;rw[zAI hi];refine⟨yB _ _,fun j hj=>?_⟩
 grind[zT]
theorem vL{p a:Int}(h:0≤a∧a≤p-1):a%p=a:=Jr h.1 (by omega)
theorem zKw{p:Int}{D:Nat}{B:Mx}(hB:Mat p D B):PM p D (idM D) B=B:=by
 refine zCq (by rw[vT,uP]) hB.1 fun i hi=>?_
 rw[zCp (by grind[uP]),zAI hi,xW];obtain⟨h1,h2⟩:=hB.2 i hi;refine Eq.trans (yC fun j hj=>?_) (vO h1).symm;rw[zBs (k:=i) hi fun l hl gc=>by rw[zT hl,if_neg gc,Gx],zT hi,if_pos rfl,Kl]
 grind[vL]
theorem zHK{p:Int}{D:Nat}{A:Mx}(hA:Mat p D A):PM p D A (idM D)=A:=by
 refine zCq (by rw[vT,hA.1]) hA.1 fun i hi=>?_
 rw[zCp (by rw[hA.1];exact hi),xW];obtain⟨h1,h2⟩:=hA.2 i hi;refine Eq.trans (yC fun j hj=>?_) (vO h1).symm;rw[zBs (k:=j) hj fun l hl gc=>by rw[ent,zAI hl,zT hj,if_neg (fun h=>gc h.symm),Lp],ent,zAI hj,zT hj,if_pos rfl,Ku]
 grind[vL]
theorem zSF{p:Int}{D i j:Nat}{B:Mx}(hB:Mat p D B)(hi:i<D)(hj:j<D):ixO B (i:Int)=dS (B.getD i [])∧ixO (B.getD i []) (j:Int)=dS (ent B i j)∧(B.getD i []).length=D∧0≤ent B i j∧ent B i j≤p-1:=by
 obtain⟨h1,h2⟩:=hB.2 i hi
 grind[zR]
def acc(p:Int)(D i:Nat)(r:List Int)(B:Mx):List Int:=mkv D fun j=>S i (fun l=>at0 r l*ent B l j)%p
def zDI(p:Int)(D i k:Nat)(r:List Int)(B:Mx):List Int:=mkv D fun j=>if j<k then S (i+1) (fun l=>at0 r l*ent B l j)%p else S i (fun l=>at0 r l*ent B l j)%p
theorem zJp{p:Int}{D i:Nat}{r:List Int}{B:Mx}:zDI p D i 0 r B=acc p D i r B:=rfl
theorem zJq{p:Int}{D i:Nat}{r:List Int}{B:Mx}:zDI p D i D r B=acc p D (i+1) r B:=yC (by omega)
theorem zLW{p:Int}{D i k:Nat}{r:List Int}{B:Mx}(hk:k<D){a:Int}(ha:a=(at0 (zDI p D i k r B) k+at0 r i*ent B i k)%p):(zDI p D i k r B).set k a=zDI p D i (k+1) r B:=by
 subst ha;simp only[zDI];rw[qT,zT hk,if_neg (by omega)];refine yC fun j hj=>?_
 by_cases hjk:j=k
 ·subst hjk
  rw[if_pos rfl,if_pos (by omega)]
  grind[S,Lq]
 omega
theorem zLX{p:Int}{D i k j:Nat}{r:List Int}{B:Mx}(hp:0<p)(hj:j<D):0≤at0 (zDI p D i k r B) j∧at0 (zDI p D i k r B) j≤p-1:=by
 rw[zDI,zT hj];split
 ·have h1:=Ke (S (i+1) fun l=>at0 r l*ent B l j) (show p≠0 by omega)
  have h2:=K4 (S (i+1) fun l=>at0 r l*ent B l j) hp;omega
 ·have h1:=Ke (S i fun l=>at0 r l*ent B l j) (show p≠0 by omega)
  have h2:=K4 (S i fun l=>at0 r l*ent B l j) hp;omega
theorem zHL{p:Int}{D i k:Nat}{r:List Int}{B:Mx}:(zDI p D i k r B).length=D:=yB _ _
theorem zPy{p:Int}{D i k j:Nat}{r:List Int}{B:Mx}(hj:j<D):ixO (zDI p D i k r B) (j:Int)=dS (at0 (zDI p D i k r B) j):=by grind[zZ,zHL]
theorem zLY{p:Int}{D:Nat}{r:List Int}{B:Mx}:J1 D (0:Int)=acc p D 0 r B:=by rw[uW];rfl
theorem zJr{a b p:Int}(hp:p≤7)(ha:0≤a∧a≤p-1)(hb:0≤b∧b≤p-1):0≤a*b∧a*b≤36:=by have h1:0≤a*b:=Gv ha.1 hb.1;have h2:a*b≤6*6:=L0 (by omega) (by omega) hb.1 (by omega);omega
section
variable {p:Int}{D:Nat} (hp:Prime p) (hD:D≤8)
 include hp hD
theorem zCr{r:List Int}{B:Mx}(hr:Row p D r)(hB:Mat p D B):f_z p r B (D:Int)=dS (xW p D r B):=by
 have h7:=hp.pos;have hBl:=hB.1;have fp:=hr.1;unfold f_z;rw[yF (by omega),bs,zLY (p:=p) (r:=r) (B:=B)];have:=zP (body:=zOo p r B) (r:=acc p D D r B) (fun i=>(acc p D i r B,(i:Int))) D (fun i hi=>by
  have aB:=hr.2 i hi;unfold zOo;simp only
  rw[fp,hBl,yJ hi,zI,zI];have inner:=zP (body:=zQN p r B (acc p D i r B,(i:Int))) (r:=acc p D (i+1) r B) (fun k=>(zDI p D i k r B,(k:Int))) D (fun k hk=>by
   obtain⟨b1,b2,b3,b4⟩:=zSF hB hi hk;have ha:=zLX (p:=p) (i:=i) (k:=k) (r:=r) (B:=B) (by omega) hk;have hm:=zJr (by omega) aB b4;unfold zQN;simp only
   rw[zHL,yJ hk,zI,b1,bs,b3,yJ hk,zI,zPy hk,bs,zZ (by omega),bs,bs,b2,bs,zF (by omega) (by omega),bs,zF (by omega) (by omega),bs];have aD:yL (at0 (zDI p D i k r B) k+at0 r i*ent B i k) p=dS ((at0 (zDI p D i k r B) k+at0 r i*ent B i k)%p):=by
    unfold yL
    grind
   rw[aD,bs,bs,zF (by omega) (by omega),bs,cs,J8,zLW hk rfl]) (by
   unfold zQN;simp only
   rw[zHL,tH,zH,zJq])
  rw[zJp,show((0:Nat):Int)=0 from rfl]at inner
  grind[zF]) (by
  unfold zOo
  grind)
 rw[show((0:Nat):Int)=0 from rfl]at this;rw[this,bs];rfl
theorem zKx{a:Int}(h0:0≤a)(_h1:a≤1000):zIy a p=dS (a%p):=by have _:=hD;have h7:=hp.pos;have e1:=Ke a (show p≠0 by omega);have e2:=K4 a (show 0<p by omega);unfold zIy yL;rw[if_neg (by omega),bs,Kb h0,zF (by omega) (by omega),bs,if_neg (by omega),bs,Kb (by omega)];simp
theorem zFG{i:Nat}{r:List Int}{B:Mx}(hi:i<D)(hr:Row p D r)(hB:Mat p D B):f_I (acc p D i r B) (B.getD i []) (at0 r i) p=dS (acc p D (i+1) r B):=by
 have h7:=hp.pos;have aB:=hr.2 i hi;unfold f_I;have hl:(acc p D i r B).length=D:=yB _ _;have inner:=zP (body:=zM9 (acc p D i r B) (B.getD i []) (at0 r i) p) (r:=acc p D (i+1) r B) (fun k=>(zDI p D i k r B,(k:Int))) D (fun k hk=>by
  obtain⟨b1,b2,b3,b4⟩:=zSF hB hi hk;have ha:=zLX (p:=p) (i:=i) (k:=k) (r:=r) (B:=B) (by omega) hk;have hm:=zJr (by omega) aB b4;unfold zM9;simp only
  rw[hl,yJ hk,zI,zPy hk,bs,b2,bs,zF (by omega) (by omega),bs,zF (by omega) (by omega),bs,zKx hp hD (by omega) (by omega),bs,bs,zF (by omega) (by omega),bs,cs,J8,zLW hk rfl]) (by
  unfold zM9;simp only
  rw[hl,tH,zH,zJq])
 rw[zJp,show((0:Nat):Int)=0 from rfl]at inner
 grind
theorem sE{r:List Int}{B:Mx}{q:Int}(hr:Row p D r)(hB:Mat p D B)(hq:q=(D:Int)):zOu r (zJ.mk p q B)=dS (xW p D r B):=by
 subst hq;have fp:=hr.1;unfold zOu;simp only
 rw[yF (by omega),bs,zLY (p:=p) (r:=r) (B:=B)];have:=zP (body:=zMA r (zJ.mk p (D:Int) B)) (r:=acc p D D r B) (fun i=>(acc p D i r B,(i:Int))) D (fun i hi=>by
  have hBl:=hB.1;unfold zMA;simp only
  rw[fp,yJ hi,zI,zZ (by omega),bs,zR [] (by omega),bs,zFG hp hD hi hr hB,bs,zF (by omega) (by omega),bs,cs]) (by
  unfold zMA
  grind)
 rw[show((0:Nat):Int)=0 from rfl]at this;rw[this,bs];rfl
theorem zJs{A B:Mx}{i:Nat}(hi:i<A.length):(PM p D A B).take i++[xW p D (A.getD i []) B]=(PM p D A B).take (i+1):=by
 have _:=hp;have _:=hD;rw[Jw (by grind[vT])]
 congr 2
 have:=zCp (p:=p) (D:=D) (B:=B) hi
 grind
theorem zAh{A B:Mx}(hA:Mat p D A)(hB:Mat p D B):f_U p A B (D:Int)=dS (PM p D A B):=by
 have cK:=hA.1;unfold f_U;have:=zP (body:=zOp p A B (D:Int)) (r:=PM p D A B) (fun i=>((PM p D A B).take i,(i:Int))) D (fun i hi=>by
  unfold zOp;simp only
  rw[cK,yJ hi,zI,zR [] (by omega),bs,zCr hp hD (hA.2 i hi) hB,bs,zS (by rw[L5,vT];simp;omega),bs,zF (by omega) (by omega),bs,cs,zJs hp hD (by omega)]) (by
  unfold zOp;simp only
  rw[cK,tH,zH,Jt (by grind[vT])])
 grind
theorem zDU{A B:Mx}{q:Int}(hA:Mat p D A)(hB:Mat p D B):zTQ (zJ.mk p q A) (zJ.mk p (D:Int) B)=dS (zJ.mk p (D:Int) (PM p D A B)):=by
 have cK:=hA.1;unfold zTQ;have:=zP (body:=zMB (zJ.mk p q A) (zJ.mk p (D:Int) B)) (r:=PM p D A B) (fun i=>((PM p D A B).take i,(i:Int))) D (fun i hi=>by
  unfold zMB;simp only
  rw[cK,yJ hi,zI,zR [] (by omega),bs,sE hp hD (hA.2 i hi) hB rfl,bs,zS (by rw[L5,vT];simp;omega),bs,zF (by omega) (by omega),bs,cs,zJs hp hD (by omega)]) (by
  unfold zMB;simp only
  rw[cK,tH,zH,Jt (by grind[vT])])
 grind
theorem zLZ{i:Nat}(_hi:i<D):(J1 D (0:Int)).set i 1=mkv D fun j=>if j=i then 1 else 0:=by have _:=hp;have _:=hD;rw[uW,qT]
theorem zPz{i:Nat}(hi:i<D):(idM D).take i++[mkv D fun j=>if j=i then 1 else 0]=(idM D).take (i+1):=by
 have _:=hp;have _:=hD;rw[Jw (by grind[uP])]
 congr 2
 have:=zAI hi
 grind
theorem zEq:f_u (D:Int)=dS (idM D):=by
 unfold f_u;have:=zP (body:=zIw (D:Int)) (r:=idM D) (fun i=>((idM D).take i,(i:Int))) D (fun i hi=>by
  unfold zIw;simp only
  rw[yJ hi,zI,yF (by omega),bs,vC,Jp,if_pos hi,bs,J8,zLZ hp hD hi,zS (by grind),bs,zF (by omega) (by omega),bs,cs,zPz hp hD hi]) (by
  unfold zIw;simp only
  rw[tH,zH,Jt (by grind[uP])])
 grind
theorem zI5:zWx p (D:Int)=dS (zJ.mk p (D:Int) (idM D)):=by
 unfold zWx;have:=zP (body:=zJE (D:Int)) (r:=idM D) (fun i=>((idM D).take i,(i:Int))) D (fun i hi=>by
  unfold zJE;simp only
  rw[yJ hi,zI,yF (by omega),bs,vC,Jp,if_pos hi,bs,J8,zLZ hp hD hi,zS (by grind),bs,zF (by omega) (by omega),bs,cs,zPz hp hD hi]) (by
  unfold zJE;simp only
  rw[tH,zH,Jt (by grind[uP])])
 grind
end
end Go.Pl

namespace Go.Pl
open Go Go.Ab Go.Wk Go.Pc
def nw:Nat→List Int→List Nat
 |_,[]=>[]
 |o,a::v=>J1 a.toNat o++nw (o+1) v
theorem zFH:∀(o:Nat)(u v:List Int),nw o (u++v)=nw o u++nw (o+u.length) v
 |o,[],v=>by simp[nw]
 |o,a::u,v=>by
  simp only[Hv,nw,zFH (o+1) u v,Ji,Jj]
  grind
theorem zKy{v:List Int}{i:Nat}(h:i<v.length):nw 0 (v.take (i+1))=nw 0 (v.take i)++J1 (at0 v i).toNat i:=by
 rw[Jw h,zFH,L5,H4 (by omega),Ja];simp only[nw,Jh]
 grind
theorem zGo{n:Nat}:∀(o:Nat)(v:List Int),o+v.length≤n→ ∀w∈nw o v,w<n
 |o,[],_,w,h=>by grind[nw]
 |o,a::v,hv,w,h=>by
  simp only[nw,Jv,Jj]at h hv;rcases h with h|h
  ·grind
  ·exact zGo (o+1) v (by omega) w h
theorem zEr:∀(o:Nat)(v:List Int),(∀i,i<v.length→at0 v i≤6)→(nw o v).length≤6*v.length
 |o,[],_=>by simp[nw]
 |o,a::v,h=>by
  have h0:=h 0 (by simp);have:=zEr (o+1) v fun i hi=>by
   have:=h (i+1) (by grind)
   grind
  simp only[at0,Qd]at h0
  grind[nw]
def wM(p:Int)(D:Nat)(A:List Mx)(ws:List Nat)(B:Mx):Mx:=ws.foldl (fun B w=>PM p D B (A.getD w [])) B
theorem zFI{p:Int}{D:Nat}{A:List Mx}{u v:List Nat}{B:Mx}:wM p D A (u++v) B=wM p D A v (wM p D A u B):=by simp[wM,Qq]
theorem zHM{p:Int}{D:Nat}{A:List Mx}{w:Nat}:∀(k:Nat)(B:Mx),wM p D A (J1 k w) B=iter k (fun B=>PM p D B (A.getD w [])) B
 |0,_=>rfl
 |k+1,B=>by rw[Kt];show wM p D A (J1 k w) (PM p D B (A.getD w []))=_;rw[zHM k];rfl
theorem zCs{p:Int}{D:Nat}{A:List Mx}(hp:0<p):∀(ws:List Nat){B:Mx},Mat p D B→Mat p D (wM p D A ws B)
 | [],_,hB=>hB
 |_w::ws,_,hB=>zCs hp ws (zDa hp hB.1)
theorem zNF{p:Int}{D:Nat}{A:List Mx}(hp:0<p){C:Mx}(hC:C.length=D):∀(ws:List Nat){B:Mx},Mat p D B→wM p D A ws (PM p D C B)=PM p D C (wM p D A ws B)
 | [],_,_=>rfl
 |w::ws,B,hB=>by show wM p D A ws (PM p D (PM p D C B) (A.getD w []))=PM p D C (wM p D A ws (PM p D B (A.getD w [])));rw[zLV hC hB.1,zNF hp hC ws (zDa hp hB.1)]
structure MOk (n:Nat) (m:zB) (D:Nat):Prop where
 p:Prime m.Prime
 d:m.Dim=(D:Int)
 d1:1≤D
 d3:D≤3
 len:m.zG.length=n
 mat:∀i,i<n→Mat m.Prime D (m.zG.getD i [])
structure zZn (n:Nat) (m:zB) (D:Nat):Prop where
 p:Prime m.Prime
 d3:D≤200
 len:m.zG.length=n
 mat:∀i,i<n→Mat m.Prime D (m.zG.getD i [])
theorem MOk.b{n D:Nat}{m:zB}(h:MOk n m D):zZn n m D:=⟨h.p,by have:=h.d3;omega,h.len,h.mat⟩
section
variable {n D:Nat}{m:zB} (hm:MOk n m D) (hn:n≤14)
 include hm hn
theorem zHN{v:List Int}(hl:v.length=n)(hv:∀i,i<n→0≤at0 v i∧at0 v i≤6):f_O m v=dS (wM m.Prime D m.zG (nw 0 v) (idM D)):=by
 have h7:=hm.p.pos;have h3:=hm.d3;have gk:=hm.len;unfold f_O;rw[hm.d,zEq hm.p (by omega),bs];have hI:∀i,Mat m.Prime D (wM m.Prime D m.zG (nw 0 (v.take i)) (idM D)):=by grind[zCs,sX]
 have:=zP (body:=zTz m v) (r:=wM m.Prime D m.zG (nw 0 v) (idM D)) (fun i=>(wM m.Prime D m.zG (nw 0 (v.take i)) (idM D),(i:Int))) n (fun i hi=>by
  have hvi:=hv i hi;unfold zTz;simp only
  rw[hl,yJ hi,zI];rw[vN (S:=Mat m.Prime D) (body:=zTy m v (wM m.Prime D m.zG (nw 0 (v.take i)) (idM D),(i:Int))) (fun B=>B) (fun B=>PM m.Prime D B (m.zG.getD i [])) (at0 v i) hvi.1 (fun B hB=>zDa (by omega) hB.1) (fun B q hB hq=>by
   unfold zTy;simp only
   rw[zZ (by omega),bs,dX hq,zI,zR [] (by omega),bs,hm.d,zAh hm.p (by omega) hB (hm.mat i hi),bs,zF (by omega) (by omega),bs,cs]) (fun B hB=>by
   unfold zTy;simp only
   rw[zZ (by omega),bs,dW (by omega),zH]) (hI i),bs,zF (by omega) (by omega),bs,cs]
  grind[zKy,zFI,zHM]) (by
  unfold zTz
  grind)
 rw[show((0:Nat):Int)=0 from rfl,L4]at this
 grind[nw,wM]
abbrev enW(ws:List Nat):List Int:=ws.map fun(w:Nat)=>(w:Int)+1
theorem zB5{i:Nat}(hi:i<n):zM6 m (i:Int)=dS (zJ.mk m.Prime (D:Int) (m.zG.getD i [])):=by have _:=hn;have gk:=hm.len;unfold zM6;rw[zR [] (by omega),bs,hm.d]
theorem zB6{ws:List Nat}(hw:∀w∈ws,w<n)(hl:ws.length≤1000000):zMD m (enW ws)=dS (zJ.mk m.Prime (D:Int) (wM m.Prime D m.zG ws (idM D))):=by
 have h7:=hm.p.pos;have h3:=hm.d3;unfold zMD;rw[hm.d,zI5 hm.p (by omega),bs];have hI:∀i,Mat m.Prime D (wM m.Prime D m.zG (ws.take i) (idM D)):=by grind[zCs,sX]
 have a7:(enW ws).length=ws.length:=by simp
 have:=zP (body:=zMC m (enW ws)) (r:=(m.Prime,(D:Int),wM m.Prime D m.zG ws (idM D))) (fun i=>(m.Prime,(D:Int),wM m.Prime D m.zG (ws.take i) (idM D),(i:Int))) ws.length (fun i hi=>by
  have pL:=hw ws[i] (Kj hi);unfold zMC;simp only
  rw[a7,yJ hi,zI,vC,Jm,J6 hi];simp only[Hh];rw[bs,zF (by omega) (by omega),bs,show((ws[i]:Nat):Int)+1-1=((ws[i]:Nat):Int)from by omega,zB5 hm hn pL,bs,zDU hm.p (by omega) (hI i) (hm.mat _ pL),bs,zF (by omega) (by omega),bs,cs,Jw hi,zFI];rfl) (by
  unfold zMC;simp)
 rw[show((0:Nat):Int)=0 from rfl,L4]at this
 grind[wM]
end
theorem sY{v:List Int}(hl:v.length≤14)(hv:∀i,i<v.length→0≤at0 v i∧at0 v i≤6):f_w v=dS (enW (nw 0 v)):=by
 unfold f_w;have gk:∀i,(nw 0 (v.take i)).length≤84:=fun i=>by
  have:=zEr 0 (v.take i) (by grind)
  grind
 have:=zP (body:=zTM v) (r:=enW (nw 0 v)) (fun i=>(enW (nw 0 (v.take i)),(i:Int))) v.length (fun i hi=>by
  have hvi:=hv i hi;have hli:=gk i;unfold zTM;simp only
  rw[yJ hi,zI,zZ hi,bs];have inner:=zP (body:=zTL (enW (nw 0 (v.take i)),(i:Int)) (at0 v i)) (r:=enW (nw 0 (v.take (i+1)))) (fun k=>(enW (nw 0 (v.take i)++J1 k i),(k:Int))) (at0 v i).toNat (fun k hk=>by
   unfold zTL;simp only
   rw[dX (by omega),zI,zF (by omega) (by omega),bs,zS (by grind),bs,zF (by omega) (by omega),bs,cs]
   congr 3
   rw[Qw,←Ji];simp) (by
   unfold zTL;simp only
   rw[dW (by omega),zH,zKy hi])
  rw[show((0:Nat):Int)=0 from rfl,Qc,Jh]at inner
  grind[zF]) (by
  unfold zTM;simp)
 rw[show((0:Nat):Int)=0 from rfl,L4]at this;simp only[nw,enW,Hw]at this
 grind
theorem zVM{v o:Int}(h:zWw 1 (IntKind.wrap .u64 o)=dS (0,o)):zWw (IntKind.wrap .u64 (([v]:List Int).length:Int)) (IntKind.wrap .u64 o)=dS (0,o):=by rw[show IntKind.wrap .u64 (([v]:List Int).length:Int)=1 from by rfl];exact h
theorem zMa{v o:Int}(ho:Prime o):zTK [v] o=dS (J1 o.toNat v):=by
 unfold zTK;rcases ho with rfl|rfl|rfl|rfl
 ·have h:=zP (body:=zGs) (r:=[v,v]) (fun i=>match i with|0=>([v,0],1)|_=>([v,v],2)) 1 (fun i hi=>by
   match i,hi with
   |0,_=>rfl) (by rfl)
  rw[zVM (by rfl),bs];have hl:zV (IntKind.wrap .i64 2)=dS 2:=by rfl
  simp only[hl,bs];rw[show decide ((2:Int)<0)=dV from rfl,zH,show decide ((0:Int)> 0)=dV from rfl,zH,show decide ((2:Int)> 9223372036854775807)=dV from by decide,zH]
  grind[uC]
 ·have h:=zP (body:=zGs) (r:=[v,v,v]) (fun i=>match i with|0=>([v,0,0],1)|1=>([v,v,0],2)|_=>([v,v,v],3)) 2 (fun i hi=>by
   match i,hi with
   |0,_=>rfl
   |1,_=>rfl) (by rfl)
  rw[zVM (by rfl),bs];have hl:zV (IntKind.wrap .i64 3)=dS 3:=by rfl
  simp only[hl,bs];rw[show decide ((3:Int)<0)=dV from rfl,zH,show decide ((0:Int)> 0)=dV from rfl,zH,show decide ((3:Int)> 9223372036854775807)=dV from by decide,zH]
  grind[uC]
 ·have h:=zP (body:=zGs) (r:=[v,v,v,v,v]) (fun i=>match i with|0=>([v,0,0,0,0],1)|1=>([v,v,0,0,0],2)|2=>([v,v,v,v,0],4)|_=>([v,v,v,v,v],5)) 3 (fun i hi=>by
   match i,hi with
   |0,_=>rfl
   |1,_=>simp[zGs,zL,uC,rng,inR]
   |2,_=>rfl) (by rfl)
  rw[zVM (by rfl),bs];have hl:zV (IntKind.wrap .i64 5)=dS 5:=by rfl
  simp only[hl,bs];rw[show decide ((5:Int)<0)=dV from rfl,zH,show decide ((0:Int)> 0)=dV from rfl,zH,show decide ((5:Int)> 9223372036854775807)=dV from by decide,zH];have e2:uC (J1 5 (0:Int)) 0 (([v]:List Int).take ((J1 5 (0:Int)).length-0))=[v,0,0,0,0]:=by rfl
  grind
 ·have h:=zP (body:=zGs) (r:=[v,v,v,v,v,v,v]) (fun i=>match i with|0=>([v,0,0,0,0,0,0],1)|1=>([v,v,0,0,0,0,0],2)|2=>([v,v,v,v,0,0,0],4)|_=>([v,v,v,v,v,v,v],7)) 3 (fun i hi=>by
   match i,hi with
   |0,_=>rfl
   |1,_=>simp[zGs,zL,uC,rng,inR]
   |2,_=>rfl) (by rfl)
  rw[zVM (by rfl),bs];have hl:zV (IntKind.wrap .i64 7)=dS 7:=by rfl
  simp only[hl,bs];rw[show decide ((7:Int)<0)=dV from rfl,zH,show decide ((0:Int)> 0)=dV from rfl,zH,show decide ((7:Int)> 9223372036854775807)=dV from by decide,zH];have e2:uC (J1 7 (0:Int)) 0 (([v]:List Int).take ((J1 7 (0:Int)).length-0))=[v,0,0,0,0,0,0]:=by rfl
  simp_all
end Go.Pl

namespace Go.Pl
open Go Go.Ab Go.Wk Go.Pc
theorem IsB.b{o:Option Bool}{P:Prop}(h:IsB o P):IsB (o.bind fun r=>dS r) P:=by grind
theorem zAs{p:Int}{D:Nat}{r:List Int}(hp:Prime p)(hD:D≤8):IsB (zM7 r p (D:Int)) (Row p D r):=by
 have h7:=hp.pos;unfold zM7
 by_cases h:r.length=D
 ·rw[sU (by omega),zH]
  refine(tW r.length (fun i=>0≤at0 r i∧at0 r i≤p-1) rfl (fun i hi _=>?_) ?_).iff ⟨fun g=>⟨h,by grind⟩,fun g=>by rw[h];exact g.2⟩
  ·refine uA (zAr _ _ _) (by omega) ?_
   unfold zPL;rw[yJ hi,zI,zZ hi,bs,zF (by omega) (by omega),bs]
  ·unfold zPL
   simp
 ·rw[tI (by omega),zI]
  exact .inr ⟨rfl,fun g=>h g.1⟩
theorem tY{p:Int}{D:Nat}{r:List Int}(hp:Prime p)(hD:D≤8):IsB (zI9 p (D:Int) r) (Row p D r):=by
 have h7:=hp.pos;unfold zI9
 by_cases h:r.length=D
 ·rw[sU (by omega),zH]
  refine(tW r.length (fun i=>0≤at0 r i∧at0 r i≤p-1) rfl (fun i hi _=>?_) ?_).iff ⟨fun g=>⟨h,by grind⟩,fun g=>by rw[h];exact g.2⟩
  ·refine uA (tX _ _ _) (by omega) ?_
   unfold zPI;rw[yJ hi,zI,zZ hi,bs,zF (by omega) (by omega),bs]
  ·unfold zPI
   simp
 ·rw[tI (by omega),zI]
  exact .inr ⟨rfl,fun g=>h g.1⟩
theorem zQt{p:Int}{D:Nat}{B:Mx}(hp:Prime p)(hD:D≤8):IsB (zWu p (D:Int) B) (Mat p D B):=by
 unfold zWu
 by_cases h:B.length=D
 ·rw[sU (by omega),zH]
  refine(tW B.length (fun i=>Row p D (B.getD i [])) rfl (fun i hi _=>?_) ?_).iff ⟨fun g=>⟨h,by grind⟩,fun g=>by rw[h];exact g.2⟩
  ·refine uA (tY hp hD) (by omega) ?_
   unfold zPJ;rw[yJ hi,zI,zR [] hi,bs]
  ·unfold zPJ
   simp
 ·rw[tI (by omega),zI]
  exact .inr ⟨rfl,fun g=>h g.1⟩
theorem zDV{p:Int}{D:Nat}{B:Mx}(hp:Prime p)(hD:D≤8)(hB:B.length=D):IsB (zOt (zJ.mk p (D:Int) B)) (Mat p D B):=by
 unfold zOt;simp only
 rcases zCn p with⟨h1,_⟩|⟨_,h2⟩
 ·rw[h1,bs,J3,zH]
  rcases zAr (D:Int) 0 8 with⟨h3,_⟩|⟨_,h4⟩
  ·rw[h3,bs,J3,zH,dW (by omega),zH]
   refine(tW (body:=zM8 (zJ.mk p (D:Int) B)) D (fun i=>Row p D (B.getD i [])) rfl (fun i hi _=>?_) ?_).iff ⟨fun g=>⟨hB,g⟩,fun g=>g.2⟩
   ·refine uA (zAs hp hD) (by omega) ?_
    unfold zM8;simp only
    rw[hB,yJ hi,zI,zR [] (by omega),bs]
   ·unfold zM8
    grind
  omega
 grind
theorem zHO{A B:Mx}(hA:A.length≤1000)(h:∀r∈A,r.length≤1000):zWv A B=dS (A==B):=
 zPv (t:=zFX) (body:=zT0 A B) rfl (fun _=>rfl) (by omega) (by grind[zFE])
theorem zDW{A B:Mx}(hA:A.length≤1000)(h:∀r∈A,r.length≤1000):zTS A B=dS (A==B):=by unfold zTS;rw[zPv (f:=zZD A B) (t:=zKG) (body:=zTR A B) rfl (fun _=>rfl) (by omega) (by grind[zEo]),bs]
theorem Mat.small{p:Int}{D:Nat}{A:Mx}(h:Mat p D A)(hD:D≤8):A.length≤1000∧ ∀r∈A,r.length≤1000:=by
 refine⟨by have:=h.1;omega,fun r hr=>?_⟩;obtain⟨i,hi,rfl⟩:=K8.1 hr;have:=h.2 i (by rw[←h.1];exact hi);rw[J4,J6 hi]at this;have:=this.1
 grind
def zKz(x:SPr)(m:zB)(D:Nat):Prop:=
 ∀i,i<x.zA.length→wM m.Prime D m.zG (J1 (at0 x.zA i).toNat i) (idM D)=wM m.Prime D m.zG (nw 0 (x.zN.getD i [])) (idM D)∧
  ∀j,i+1≤j→j<x.zA.length→PM m.Prime D (m.zG.getD j []) (m.zG.getD i [])=PM m.Prime D (m.zG.getD i []) (wM m.Prime D m.zG (nw 0 ((x.zC.getD i []).getD (j-(i+1)) [])) (idM D))
theorem qM{x:SPr}{v:List Int}{i:Nat}(ho:Os x.zA)(h:Exp x.zA v i):v.length=x.zA.length∧ ∀j,j<x.zA.length→0≤at0 v j∧at0 v j≤6:=by have h1:=h.1.1;refine⟨h1,fun j hj=>?_⟩;have:=h.1.2 j (by omega);have:=(ho.2 j hj).pos;omega
section
variable {x:SPr}{m:zB}{D:Nat} (h:Pres x) (hm:MOk x.zA.length m D)
 include h hm
theorem zQu{i:Nat}(hi:i<x.zA.length):(x.zN.getD i []).length=x.zA.length∧ ∀j,j<x.zA.length→0≤at0 (x.zN.getD i []) j∧at0 (x.zN.getD i []) j≤6:=have _:=hm;qM h.os (h.tl i hi).1
theorem zNG{i j:Nat}(hi:i<x.zA.length)(hj:j<(x.zC.getD i []).length):((x.zC.getD i []).getD j []).length=x.zA.length∧ ∀q,q<x.zA.length→0≤at0 ((x.zC.getD i []).getD j []) q∧at0 ((x.zC.getD i []).getD j []) q≤6:=have _:=hm;qM h.os ((h.tl i hi).2.2 j hj)
theorem zQv:IsB ((zE (zT4 x m) 0).bind fun r=>match r with|.inl _=>dS dU|.inr r=>dS r) (zKz x m D):=by
 have h6:=h.os.1;have h7:=hm.p.pos;have h3:=hm.d3;have gk:=hm.len;refine tW x.zA.length (fun i=>wM m.Prime D m.zG (J1 (at0 x.zA i).toNat i) (idM D)=wM m.Prime D m.zG (nw 0 (x.zN.getD i [])) (idM D)∧
  ∀j,i+1≤j→j<x.zA.length→PM m.Prime D (m.zG.getD j []) (m.zG.getD i [])=PM m.Prime D (m.zG.getD i []) (wM m.Prime D m.zG (nw 0 ((x.zC.getD i []).getD (j-(i+1)) [])) (idM D))) rfl (fun i hi _=>?_) ?_
 ·have eI:=(h.os.2 i hi).pos
  have cu:=h.pl;have gI:=h.cl;obtain⟨p1,p2⟩:=zQu h hm hi;have t2:=(h.tl i hi).2.1;have hI:=sX (p:=m.Prime) (D:=D) h7.1;unfold zT4;rw[yJ hi,zI,hm.d,zEq hm.p (by omega),bs];rw[vN (S:=Mat m.Prime D) (body:=zT2 x m (i:Int)) (fun B=>B) (fun B=>PM m.Prime D B (m.zG.getD i [])) (at0 x.zA i) (by omega) (fun B hB=>zDa (by omega) hB.1) (fun B q hB hq=>by
   unfold zT2;simp only
   rw[zZ hi,bs,dX hq,zI,zR [] (by omega),bs,hm.d,zAh hm.p (by omega) hB (hm.mat i hi),bs,zF (by omega) (by omega),bs,cs]) (fun B hB=>by
   unfold zT2;simp only
   rw[zZ hi,bs,dW (by omega),zH]) hI,bs,zR [] (by omega),bs,zHN hm (by omega) p1 p2,bs,←zHM]
  have hs:=(zCs (p:=m.Prime) (D:=D) (A:=m.zG) (by omega) (J1 (at0 x.zA i).toNat i) hI).small (by omega);rw[zHO hs.1 hs.2,bs]
  by_cases hq:wM m.Prime D m.zG (J1 (at0 x.zA i).toNat i) (idM D)=wM m.Prime D m.zG (nw 0 (x.zN.getD i [])) (idM D)
  ·rw[show(wM m.Prime D m.zG (J1 (at0 x.zA i).toNat i) (idM D)==wM m.Prime D m.zG (nw 0 (x.zN.getD i [])) (idM D))=dU from by grind,J3,zH,zF (by omega) (by omega),bs,cs]
   rcases chk (body:=zT3 x m (i:Int)) x.zA.length (i+1) (by omega) (fun j=>PM m.Prime D (m.zG.getD j []) (m.zG.getD i [])=PM m.Prime D (m.zG.getD i []) (wM m.Prime D m.zG (nw 0 ((x.zC.getD i []).getD (j-(i+1)) [])) (idM D))) (fun _=>dV) (fun j h1 h2 _=>by
     obtain⟨c1,c2⟩:=zNG h hm (j:=j-(i+1)) hi (by omega);have hjm:=hm.mat j h2;have him:=hm.mat i hi;have hw:=zCs (p:=m.Prime) (D:=D) (A:=m.zG) (by omega) (nw 0 ((x.zC.getD i []).getD (j-(i+1)) [])) hI;have hs:=(zDa (p:=m.Prime) (B:=m.zG.getD i []) (by omega) hjm.1).small (by omega);refine uA (o:=dS (PM m.Prime D (m.zG.getD j []) (m.zG.getD i [])==PM m.Prime D (m.zG.getD i []) (wM m.Prime D m.zG (nw 0 ((x.zC.getD i []).getD (j-(i+1)) [])) (idM D)))) (IsB.of_bool (by simp)) (by omega) ?_;unfold zT3;rw[yJ h2,zI,zR (i:=j) [] (by omega),bs,zR (i:=i) [] (by omega),bs,hm.d,zAh hm.p (by omega) hjm him,bs,bs,zR (i:=i) [] (by omega),bs,zF (by omega) (by omega),bs,zF (by omega) (by omega),bs,show(j:Int)-(i:Int)-1=((j-(i+1):Nat):Int)from by omega,zR [] (by omega),bs,zHN hm (by omega) c1 c2,bs,zAh hm.p (by omega) him hw,bs,zHO hs.1 hs.2]) (by
     unfold zT3;simp)with⟨g1,g2⟩|⟨j,j1,j2,g1,g2⟩
   ·grind
   ·right
    rw[g1,bs]
    grind
  grind
 ·unfold zT4
  simp
end
def zSG(x:SPr)(m:zB):Prop:=zCo x∧ ∃D,MOk x.zA.length m D∧zKz x m D
theorem zHP{x:SPr}{m:zB}(h2:Pres x):IsB (f_s x m) (∃D,MOk x.zA.length m D∧zKz x m D):=by
 have h6:=h2.os.1;unfold f_s;rcases zHC m.Prime with⟨p1,p2⟩|⟨p1,p2⟩
 ·rw[p1,bs,J3,zH]
  rcases tX m.Dim 1 3 with⟨d1,d2⟩|⟨d1,d2⟩
  ·rw[d1,bs,J3,zH]
   obtain⟨D,hD⟩:∃D:Nat,m.Dim=(D:Int):=⟨m.Dim.toNat,by omega⟩
   by_cases gk:m.zG.length=x.zA.length
   ·rw[sU (by omega),zH]
    rcases chk (body:=zT1 x m) x.zA.length 0 (Kc _) (fun i=>Mat m.Prime D (m.zG.getD i [])) (fun _=>dV) (fun i _ hi _=>by
      refine uA (zQt p2 (D:=D) (by omega)) (by omega) ?_;unfold zT1;rw[yJ hi,zI,zR [] (by omega),bs,hD]) (by
      unfold zT1;simp)with⟨g1,g2⟩|⟨i,_,hi,g1,g2⟩
    ·rw[show((0:Nat):Int)=0 from rfl]at g1
     have hm:MOk x.zA.length m D:=⟨p2,hD,by omega,by omega,gk,by grind⟩;rw[g1,bs];refine IsB.iff (Q:=∃D,MOk x.zA.length m D∧zKz x m D) (zQv h2 hm) ⟨fun k2=>⟨D,hm,k2⟩,fun⟨D',gD,hr⟩=>?_⟩;have:D'=D:=by have:=gD.d;omega
     grind
    ·rw[show((0:Nat):Int)=0 from rfl]at g1
     rw[g1,bs];refine .inr ⟨rfl,fun⟨D',gD,_⟩=>g2 ?_⟩;have:D'=D:=by have:=gD.d;omega
     rw[←this];exact gD.mat i hi
   ·rw[tI (by omega),zI]
    exact .inr ⟨rfl,fun⟨D',gD,_⟩=>gk gD.len⟩
  ·rw[d1,bs,Jo,zI]
   exact .inr ⟨rfl,fun⟨D',gD,_⟩=>d2 (by have:=gD.d;have:=gD.d1;have:=gD.d3;omega)⟩
 ·rw[p1,bs,Jo,zI]
  exact .inr ⟨rfl,fun⟨D',gD,_⟩=>p2 gD.p⟩
theorem zB7{x:SPr}{m:zB}(hl:x.zA.length≤1048576):IsB (zG3 x m) (zSG x m):=by
 unfold zG3;rcases zEp hl with⟨h1,h2⟩|⟨h1,h2⟩
 ·rw[h1,bs,zI]
  exact IsB.iff (Q:=zSG x m) (IsB.b (zHP h2.1)) ⟨fun g=>⟨h2,g⟩,fun g=>g.2⟩
 ·rw[h1,bs,zH]
  exact .inr ⟨rfl,fun g=>h2 g.1⟩
end Go.Pl

namespace Go.Pl
open Go Go.Ab Go.Wk Go.Pc
abbrev Rl:=List Nat×List Nat
def r1(x:SPr)(i:Nat):Rl:=(J1 (at0 x.zA i).toNat i,nw 0 (x.zN.getD i []))
def r2(x:SPr)(i j:Nat):Rl:=([i+j+1,i],i::nw 0 ((x.zC.getD i []).getD j []))
def R2(x:SPr)(i:Nat):List Rl:=(Jn (x.zC.getD i []).length).map (r2 x i)
def xN(x:SPr):List Rl:=(Jn x.zA.length).map (r1 x)++(Jn x.zA.length).flatMap (R2 x)
abbrev enR(q:Rl):List Int×List Int:=(enW q.1,enW q.2)
section
variable {x:SPr} (h:Pres x)
 include h
theorem zSH{i:Nat}(hi:i<x.zA.length):(R2 x i).length≤14:=by
 have:=(h.tl i hi).2.1;have:=h.os.1
 grind[R2]
theorem zK0:∀i,i≤x.zA.length→((Jn i).flatMap (R2 x)).length≤14*i
 |0,_=>by simp
 |i+1,hi=>by
  have:=zK0 i (by omega)
  grind[zSH,K9]
theorem zVN{k i:Nat}:enW (J1 k i)=J1 k ((i:Int)+1):=by have _:=h;simp
theorem zAZ:f_A x=dS ((xN x).map enR):=by
 have h6:=h.os.1;have cu:=h.pl;have gI:=h.cl;unfold f_A;have l1:=zP (body:=zTN x) (r:=((Jn x.zA.length).map (r1 x)).map enR) (fun i=>(((Jn i).map (r1 x)).map enR,(i:Int))) x.zA.length (fun i hi=>by
  obtain⟨p1,p2⟩:=qM h.os (h.tl i hi).1;unfold zTN;simp only
  rw[yJ hi,zI,zZ hi,bs,zF (by omega) (by omega),bs,zMa (h.os.2 i hi),bs,zR [] (by omega),bs,sY (by omega) (by rw[p1];exact p2),bs,zS (by simp only[Jg,Hz,Jj,U5];omega),bs,bs,cs,K9];simp only[H1,Jl,Hw,r1,enR,zVN h,cs]) (by
  unfold zTN;simp)
 rw[show((0:Nat):Int)=0 from rfl]at l1;simp only[List.range_zero,Hw]at l1;rw[l1,bs];have l3:=zP (body:=zTP x) (r:=(xN x).map enR) (fun i=>(((Jn x.zA.length).map (r1 x)++(Jn i).flatMap (R2 x)).map enR,(i:Int))) x.zA.length (fun i hi=>by
  have t2:=(h.tl i hi).2.1;have hfm:=zK0 h i (by omega);unfold zTP;simp only
  rw[yJ hi,zI,zR [] (by omega),bs];have l2:=zP (body:=zTO (((Jn x.zA.length).map (r1 x)++(Jn i).flatMap (R2 x)).map enR,(i:Int)) (x.zC.getD i [])) (r:=((Jn x.zA.length).map (r1 x)++(Jn (i+1)).flatMap (R2 x)).map enR)
   (fun j=>(((Jn x.zA.length).map (r1 x)++(Jn i).flatMap (R2 x)++(Jn j).map (r2 x i)).map enR,(j:Int))) (x.zC.getD i []).length (fun j hj=>by
    obtain⟨p1,p2⟩:=qM h.os ((h.tl i hi).2.2 j hj);have fN:=zEr 0 ((x.zC.getD i []).getD j []) (by grind);unfold zTO;simp only
    rw[yJ hj,zI,zR [] hj,bs,zF (by omega) (by omega),bs,zF (by omega) (by omega),bs,zF (by omega) (by omega),bs,sY (by omega) (by rw[p1];exact p2),bs,zS (by simp only[Jg,Jj,U5];omega),bs,zS (by simp only[Jg,J7,Hz,Jj,U5];omega),bs,zF (by omega) (by omega),bs,cs,K9];have e1:(i:Int)+(j:Int)+2=((i+j+1:Nat):Int)+1:=by omega
    simp only[H1,Jl,Hw,r2,enR,enW,Ji,H0,e1];rfl) (by
    unfold zTO;simp only
    rw[tH,zH,K9,Jao]
    grind[R2])
  rw[show((0:Nat):Int)=0 from rfl]at l2
  grind[zF]) (by
  unfold zTP;simp only
  rw[tH,zH];rfl)
 grind
theorem zDz{q:Rl}(hq:q∈xN x):((∀w∈q.1,w<x.zA.length)∧q.1.length≤1000)∧(∀w∈q.2,w<x.zA.length)∧q.2.length≤1000:=by
 have h6:=h.os.1;simp only[xN,Jv,Je,Jx,G6,R2]at hq;rcases hq with⟨i,hi,rfl⟩|⟨i,hi,j,hj,rfl⟩
 ·obtain⟨p1,p2⟩:=qM h.os (h.tl i hi).1
  have fN:=zEr 0 (x.zN.getD i []) (by rw[p1];exact fun i hi=>(p2 i hi).2);have eI:=(h.os.2 i hi).pos;refine⟨⟨fun w hw=>?_,?_⟩,fun w hw=>zGo 0 _ (by omega) w hw,by simp only[r1];omega⟩
  ·have:=List.eq_of_mem_replicate hw;omega
  ·simp only[r1,Kk];omega
 ·obtain⟨p1,p2⟩:=qM h.os ((h.tl i hi).2.2 j hj)
  have t2:=(h.tl i hi).2.1;have fN:=zEr 0 ((x.zC.getD i []).getD j []) (by rw[p1];exact fun i hi=>(p2 i hi).2);refine⟨⟨fun w hw=>?_,by simp[r2]⟩,fun w hw=>?_,by simp only[r2,Jj];omega⟩
  ·simp only[r2,Jq,List.not_mem_nil,or_false]at hw;omega
  ·simp only[r2,Jq]at hw
   rcases hw with rfl|hw
   ·exact hi
   ·exact zGo 0 _ (by omega) w hw
variable {m:zB}{D:Nat} (hm:MOk x.zA.length m D)
 include hm
theorem zHQ:(∀q∈xN x,wM m.Prime D m.zG q.1 (idM D)=wM m.Prime D m.zG q.2 (idM D))↔zKz x m D:=by
 have h7:=hm.p.pos;have hI:=sX (p:=m.Prime) (D:=D) h7.1;have key:∀i j,i<x.zA.length→j<x.zA.length→ ∀ws,(wM m.Prime D m.zG [j,i] (idM D)=wM m.Prime D m.zG (i::ws) (idM D)↔PM m.Prime D (m.zG.getD j []) (m.zG.getD i [])=PM m.Prime D (m.zG.getD i []) (wM m.Prime D m.zG ws (idM D))):=fun i j hi hj ws=>by
  have ey:=hm.mat i hi;have f9:=hm.mat j hj;have e1:wM m.Prime D m.zG [j,i] (idM D)=PM m.Prime D (m.zG.getD j []) (m.zG.getD i []):=by show PM _ _ (PM _ _ (idM D) _) _=_;rw[zKw f9]
  have e2:wM m.Prime D m.zG (i::ws) (idM D)=PM m.Prime D (m.zG.getD i []) (wM m.Prime D m.zG ws (idM D)):=by show wM _ _ _ ws (PM _ _ (idM D) _)=_;rw[zKw ey,←zNF (by omega) ey.1 ws hI,zHK ey]
  rw[e1,e2]
 constructor
 ·intro g i hi
  have t2:=(h.tl i hi).2.1;refine⟨g (r1 x i) (by simp only[xN,Jv,Je,Jx];grind),fun j h1 h2=>?_⟩;have:=g (r2 x i (j-(i+1))) (by
   simp only[xN,Jv,G6,Jx,R2,Je]
   grind)
  simp only[r2]at this;rw[show i+(j-(i+1))+1=j from by omega]at this
  grind
 ·intro g q hq
  simp only[xN,Jv,Je,Jx,G6,R2]at hq;rcases hq with⟨i,hi,rfl⟩|⟨i,hi,j,hj,rfl⟩
  ·exact(g i hi).1
  ·have t2:=(h.tl i hi).2.1
   have:=(g i hi).2 (i+j+1) (by omega) (by omega);rw[show i+j+1-(i+1)=j from by omega]at this;exact(key i (i+j+1) hi (by omega) _).2 this
theorem zQw:IsB ((zE (zTU m ((xN x).map enR)) 0).bind fun r=>match r with|.inl _=>dS dU|.inr r=>dS r) (zKz x m D):=by
 have h6:=h.os.1;have h7:=hm.p.pos;have h3:=hm.d3;have hI:=sX (p:=m.Prime) (D:=D) h7.1;have hfm:=zK0 h x.zA.length (Jd _);have fp:(xN x).length≤1000:=by simp only[xN,J7,Jg,Hz];omega
 refine(tW (xN x).length (fun k=>wM m.Prime D m.zG ((xN x).getD k ([],[])).1 (idM D)=wM m.Prime D m.zG ((xN x).getD k ([],[])).2 (idM D)) rfl (fun k hk _=>?_) ?_).iff ⟨fun g=>(zHQ h hm).1 fun q hq=>?_,fun g k hk=>(zHQ h hm).2 g _ ?_⟩
 ·have gu:(xN x).getD k ([],[])∈xN x:=by
   rw[J4,J6 hk];exact Kj hk
  obtain⟨⟨g1,g2⟩,g3,g4⟩:=zDz h gu;have hs:=(zCs (p:=m.Prime) (D:=D) (A:=m.zG) (by omega) ((xN x).getD k ([],[])).1 hI).small (by omega);refine uA (o:=dS (wM m.Prime D m.zG ((xN x).getD k ([],[])).1 (idM D)==wM m.Prime D m.zG ((xN x).getD k ([],[])).2 (idM D))) (IsB.of_bool (by rw[beq_iff_eq])) (by omega) ?_;unfold zTU;rw[Jg,yJ hk,zI,vC,Jm,J6 hk];rw[J4,J6 hk]at g1 g2 g3 g4 hs ⊢
  simp only[Hh,H7]at g1 g2 g3 g4 hs ⊢
  rw[bs,zB6 hm h6 g1 (Ht g2 (by omega)),bs,zB6 hm h6 g3 (Ht g4 (by omega)),bs];simp only
  rw[zDW hs.1 hs.2]
 ·unfold zTU
  rw[Jg,tH,zH]
 ·obtain⟨k,hk,rfl⟩:=K8.1 hq
  have:=g k hk;rw[J4,J6 hk]at this;exact this
 ·rw[J4,J6 hk];exact Kj hk
end
theorem zB8{x:SPr}{m:zB}(hl:x.zA.length≤1048576)(_hal:m.zG.length≤1048576):IsB (f_t x m) (zSG x m):=by
 unfold f_t;rcases qS hl with⟨h1,h2⟩|⟨h1,h2⟩
 ·have h6:=h2.1.os.1
  rw[h1,bs,J3,zH];rcases zCn m.Prime with⟨p1,p2⟩|⟨p1,p2⟩
  ·rw[p1,bs,J3,zH]
   rcases zAr m.Dim 1 3 with⟨d1,d2⟩|⟨d1,d2⟩
   ·rw[d1,bs,J3,zH]
    obtain⟨D,hD⟩:∃D:Nat,m.Dim=(D:Int):=⟨m.Dim.toNat,by omega⟩
    by_cases gk:m.zG.length=x.zA.length
    ·rw[sU (by omega),zH]
     rcases chk (body:=zTT m) m.zG.length 0 (Kc _) (fun i=>Mat m.Prime D (m.zG.getD i [])) (fun _=>dV) (fun i _ hi _=>by
       unfold zTT;rw[yJ hi,zI,zR [] hi,bs,hD]
       by_cases hr:(m.zG.getD i []).length=D
       ·rw[sU (by omega),zH]
        refine uA (zDV p2 (D:=D) (by omega) hr) (by omega) ?_
        grind[zM6,zR]
       ·rw[tI (by omega),zI]
        exact .inr ⟨rfl,fun g=>hr g.1⟩) (by
       unfold zTT;simp)with⟨g1,g2⟩|⟨i,_,hi,g1,g2⟩
     ·rw[show((0:Nat):Int)=0 from rfl]at g1
      have hm:MOk x.zA.length m D:=⟨p2,hD,by omega,by omega,gk,by grind⟩;rw[g1,bs,zAZ h2.1];simp only
      rw[bs];refine(zQw h2.1 hm).iff ⟨fun k2=>⟨h2,D,hm,k2⟩,fun⟨_,D',gD,hr⟩=>?_⟩;have:D'=D:=by have:=gD.d;omega
      grind
     ·rw[show((0:Nat):Int)=0 from rfl]at g1
      rw[g1,bs];refine .inr ⟨rfl,fun⟨_,D',gD,_⟩=>g2 ?_⟩;have:D'=D:=by have:=gD.d;omega
      rw[←this];exact gD.mat i (by omega)
    ·rw[tI (by omega),zI]
     exact .inr ⟨rfl,fun⟨_,D',gD,_⟩=>gk gD.len⟩
   ·rw[d1,bs,Jo,zI]
    exact .inr ⟨rfl,fun⟨_,D',gD,_⟩=>d2 (by have:=gD.d;have:=gD.d1;have:=gD.d3;omega)⟩
  ·rw[p1,bs,Jo,zI]
   exact .inr ⟨rfl,fun⟨_,D',gD,_⟩=>p2 gD.p⟩
 ·rw[h1,bs,Jo,zI]
  exact .inr ⟨rfl,fun g=>h2 g.1⟩
end Go.Pl

namespace Go.Pl
open Go Go.Ab Go.Wk Go.Pc
theorem zFJ{xs:List (List Int)}{i:Nat}(h:i<xs.length):(xs.take (i+1)).flatten=(xs.take i).flatten++xs.getD i []:=by grind[Jw]
theorem zK1{xs:List (List Int)}(i:Nat):(xs.take i).flatten.length≤xs.flatten.length:=by grind[List.take_append_drop]
theorem zQx{k:Nat}(hk:k≤1000000):zTV (k:Int)=dS []:=by
 unfold zTV;rw[dW (by omega),zH,zF (by decide) (by decide),bs,zF (by omega) (by omega),bs]
 by_cases h:(k:Int)-(0-0)> 0
 ·rw[dX h,zI]
  have e:yM ([]:List Int) ((k:Int)-(0-0)) 0=dS (J1 k 0):=by
   unfold yM
   grind
  rw[e,bs];rfl
 grind
theorem zAt{xs:List (List Int)}(hx:xs.length≤1000)(hf:xs.flatten.length≤1000000):f_E xs=dS xs.flatten:=by
 unfold f_E;have l1:=zP (body:=zTW xs) (r:=((xs.flatten.length:Nat):Int)) (fun i=>((((xs.take i).flatten.length:Nat):Int),(i:Int))) xs.length (fun i hi=>by
  have h1:=zFJ hi;have h2:=zK1 (xs:=xs) (i+1);have h3:=congrArg Uz h1;rw[J7]at h3;unfold zTW;simp only
  rw[yJ hi,zI,zR [] hi,bs,zF (by omega) (by omega),bs,dW (by omega),zH,zF (by omega) (by omega),bs,cs,h3]
  congr 3) (by
  unfold zTW;simp)
 rw[show((0:Nat):Int)=0 from rfl]at l1;simp only[L4,List.flatten_nil,U5]at l1;rw[show((0:Nat):Int)=0 from rfl]at l1;rw[l1,bs,zQx hf,bs];have l2:=zP (body:=zTX xs) (r:=xs.flatten) (fun i=>((xs.take i).flatten,(i:Int))) xs.length (fun i hi=>by
  have h1:=zFJ hi;have h2:=zK1 (xs:=xs) (i+1);have h3:=congrArg Uz h1;rw[J7]at h3;unfold zTX;simp only
  rw[yJ hi,zI,zR [] hi,bs,zS (by omega),bs,zF (by omega) (by omega),bs,cs,h1]) (by
  unfold zTX;simp)
 grind
end Go.Pl

namespace Go.Pl
open Go Go.Ab Go.Wk Go.Pc
section
variable {p:Int}
def wQ(p:Int)(D:Nat)(r:List Int)(k:Int)(s:List Int):List Int:=mkv D fun j=>(at0 r j+k*at0 s j)%p
theorem zBa{D:Nat}{r s:List Int}{k:Int}:(wQ p D r k s).length=D:=yB _ _
def zI6(p:Int)(D i:Nat)(r:List Int)(k:Int)(s:List Int):List Int:=mkv D fun j=>if j<i then(at0 r j+k*at0 s j)%p else at0 r j
theorem zJt{D:Nat}{r s:List Int}{k:Int}(hr:r.length=D):zI6 p D 0 r k s=r:=by
 conv=>rhs;rw[vO hr]
 rfl
theorem zJu{D:Nat}{r s:List Int}{k:Int}:zI6 p D D r k s=wQ p D r k s:=yC (by omega)
theorem zMb{D i:Nat}{r s:List Int}{k a:Int}(ha:a=(at0 r i+k*at0 s i)%p):(zI6 p D i r k s).set i a=zI6 p D (i+1) r k s:=by
 simp only[zI6];rw[qT]
 grind
theorem zP0{D i:Nat}{r s:List Int}{k:Int}(hi:i<D):at0 (zI6 p D i r k s) i=at0 r i:=by rw[zI6,zT hi,if_neg (by omega)]
theorem zES{D i:Nat}{r s:List Int}{k:Int}:(zI6 p D i r k s).length=D:=yB _ _
end
section
variable {p:Int} (hp:Prime p)
 include hp
theorem zDb{a:Int}(_h0:-1000≤a)(_h1:a≤1000):zIy a p=dS (a%p):=by
 have h7:=hp.pos;have e1:=U8 a (show 0<p by omega);have e2:=Qr a (show 0<p by omega);have e3:(Ja9 a p+p)%p=a%p:=by
  rw[U9];have:=Q8 a p
  conv=>rhs;rw[←this]
  simp
 unfold zIy yL;rw[if_neg (by omega),bs,zF (by omega) (by omega),bs,if_neg (by omega),bs,Kb (by omega),e3]
theorem zMc{a:Int}(_h0:-1000≤a)(_h1:a≤1000):zUb a p=dS (a%p):=by
 have h7:=hp.pos;have e1:=U8 a (show 0<p by omega);have e2:=Qr a (show 0<p by omega);have e3:(Ja9 a p+p)%p=a%p:=by
  rw[U9];have:=Q8 a p
  conv=>rhs;rw[←this]
  simp
 unfold zUb yL;rw[if_neg (by omega),bs]
 by_cases h:Ja9 a p<0
 ·rw[dX h,zI,zF (by omega) (by omega),bs,←e3,Jr (by omega) (by omega)]
 ·rw[dW h,zH,←e3,U9,Jr (by omega) (by omega)]
theorem qU{D:Nat}{r s:List Int}{k:Int}:Row p D (wQ p D r k s):=by have h7:=hp.pos;refine⟨yB _ _,fun i hi=>?_⟩;have e:at0 (wQ p D r k s) i=(at0 r i+k*at0 s i)%p:=zT hi;have e1:=Ke (at0 r i+k*at0 s i) (show p≠0 by omega);have e2:=K4 (at0 r i+k*at0 s i) (show 0<p by omega);omega
theorem zCt{k b:Int}(hk:-7≤k∧k≤7)(hb:0≤b∧b≤p-1):-49≤k*b∧k*b≤49:=by
 have h7:=hp.pos;rcases Int.le_total 0 k with h|h
 ·have h1:=Gv h hb.1
  have h2:=L0 hk.2 (show b≤7 by omega) hb.1 (by omega);omega
 ·have h1:=Gv (show 0≤ -k by omega) hb.1
  have h2:=L0 (show -k≤7 by omega) (show b≤7 by omega) hb.1 (by omega);rw[Int.neg_mul]at h1 h2;omega
theorem zAM{D:Nat}{r s:List Int}{k:Int}(hr:Row p D r)(hs:Row p D s)(hk:-7≤k∧k≤7)(hD:D≤1000000):f_I r s k p=dS (wQ p D r k s):=by
 have h7:=hp.pos;have:=zP (body:=zM9 r s k p) (r:=wQ p D r k s) (fun i=>(zI6 p D i r k s,(i:Int))) D (fun i hi=>by
  have a1:=hr.2 i hi;have a2:=hs.2 i hi;have a3:=zCt hp hk a2;unfold zM9;simp only
  rw[hr.1,yJ hi,zI,zZ (by grind[zES]),bs,zZ (by rw[hs.1];exact hi),bs,zF (by omega) (by omega),bs,zP0 hi,zF (by omega) (by omega),bs,zDb hp (by omega) (by omega),bs,bs,zF (by omega) (by omega),bs,cs,J8,zMb rfl]) (by
  unfold zM9;simp only
  rw[hr.1,tH,zH,zJu])
 rw[show((0:Nat):Int)=0 from rfl,zJt hr.1]at this
 grind[f_I]
theorem tC{D:Nat}{r s:List Int}{k:Int}(hr:Row p D r)(hs:Row p D s)(hk:-7≤k∧k≤7)(hD:D≤1000000):f_F p r k s=dS (wQ p D r k s):=by
 have h7:=hp.pos;have:=zP (body:=zUc p k s) (r:=wQ p D r k s) (fun i=>(zI6 p D i r k s,(i:Int))) D (fun i hi=>by
  have a1:=hr.2 i hi;have a2:=hs.2 i hi;have a3:=zCt hp hk a2;unfold zUc;simp only
  rw[zES,yJ hi,zI,hs.1,yJ hi,zI,zZ (by grind[zES]),bs,zZ (by rw[hs.1];exact hi),bs,zF (by omega) (by omega),bs,zP0 hi,zF (by omega) (by omega),bs,zMc hp (by omega) (by omega),bs,bs,zF (by omega) (by omega),bs,cs,J8,zMb rfl]) (by
  unfold zUc;simp only
  rw[zES,tH,zH,zJu])
 rw[show((0:Nat):Int)=0 from rfl,zJt hr.1]at this;unfold f_F;rw[wF (by rw[hr.1];omega),bs,this,bs]
end
theorem zEs{p:Int}{D:Nat}{r s:List Int}:wQ p D r (p-1) s=wQ p D r (-1) s:=yC fun j _=>by rw[show at0 r j+(p-1)*at0 s j=at0 r j+ -1*at0 s j+p*at0 s j from by grind,Q9]
theorem zQy{p:Int}{D:Nat}{r s:List Int}(hr:Row p D r)(hs:Row p D s):(∀j,j<D→at0 (wQ p D r (-1) s) j=0)↔r=s:=by
 constructor
 ·intro h
  rw[vO hr.1,vO hs.1];refine yC fun j hj=>?_
  have h1:=h j hj;rw[wQ,zT hj]at h1;have a1:=hr.2 j hj;have a2:=hs.2 j hj;obtain⟨c,hc⟩:=Uu h1;have:c=0:=by
   rcases Int.lt_trichotomy c 0 with h|h|h
   ·have:=Li (show c≤ -1 by omega) (show 0≤p by omega);omega
   ·exact h
   ·have:=Li (show 1≤c by omega) (show 0≤p by omega);omega
  grind
 ·rintro rfl j hj
  rw[wQ,zT hj,show at0 r j+ -1*at0 r j=0 from by omega];simp
end Go.Pl

namespace Go.Pl
open Go Go.Ab Go.Wk Go.Pc
def VOk(n:Nat)(p:Int)(D:Nat)(vals:Mx):Prop:=vals.length=n∧ ∀i,i<n→Row p D (vals.getD i [])
def stp(m:zB)(D:Nat)(vals:Mx)(v:List Int)(w:Nat):List Int:=wQ m.Prime D (xW m.Prime D v (m.zG.getD w [])) 1 (vals.getD w [])
def ev(m:zB)(D:Nat)(vals:Mx)(v:List Int)(ws:List Nat):List Int:=ws.foldl (stp m D vals) v
theorem zJv{m:zB}{D:Nat}{vals:Mx}{v:List Int}{a b:List Nat}:ev m D vals v (a++b)=ev m D vals (ev m D vals v a) b:=by simp[ev,Qq]
theorem zNH{m:zB}{D:Nat}{vals:Mx}{w:Nat}:∀(k:Nat)(v:List Int),ev m D vals v (J1 k w)=iter k (fun v=>stp m D vals v w) v
 |0,_=>rfl
 |k+1,v=>by rw[Kt];show ev m D vals (stp m D vals v w) (J1 k w)=_;rw[zNH k];rfl
abbrev z0(D:Nat):List Int:=J1 D 0
theorem kI{p:Int}{D:Nat}(hp:0<p):Row p D (z0 D):=by
 refine⟨by simp,fun i hi=>?_⟩
 grind
theorem zBb{p:Int}{D:Nat}{r:List Int}{B:Mx}(hp:0<p):Row p D (xW p D r B):=by
 refine⟨yB _ _,fun i hi=>?_⟩;have e1:=Ke (S D (fun l=>at0 r l*ent B l i)) (show p≠0 by omega);have e2:=K4 (S D (fun l=>at0 r l*ent B l i)) hp
 grind[xW,zT]
section
variable {n D:Nat}{m:zB} (hm:MOk n m D) (hn:n≤14) {vals:Mx} (hv:VOk n m.Prime D vals)
 include hm hn hv
theorem zCu{v:List Int}{w:Nat}:Row m.Prime D (stp m D vals v w):=by have _:=hn;have _:=hv;exact qU hm.p
theorem zB9{v:List Int}(h:Row m.Prime D v):∀ws,Row m.Prime D (ev m D vals v ws):=by
 intro ws
 induction ws generalizing v with
 |nil=>exact h
 |cons w ws ih=>exact ih (zCu hm hn hv)
theorem zBY{v:List Int}{w:Nat}(h:Row m.Prime D v)(hw:w<n):zMM m vals v (w:Int)=dS (stp m D vals v w):=by have _:=hn;have h7:=hm.p.pos;have h3:=hm.d3;unfold zMM;rw[zR [] (by rw[hm.len];exact hw),bs,hm.d,zCr hm.p (by omega) h (hm.mat w hw),bs,zR [] (by rw[hv.1];exact hw),bs,tC hm.p (zBb (by omega)) (hv.2 w hw) (by omega) (by omega),bs];rfl
theorem zBt{v x:List Int}(h:Row m.Prime D v)(hl:x.length=n)(hx:∀i,i<n→0≤at0 x i∧at0 x i≤6):f_L m vals v x=dS (ev m D vals v (nw 0 x)):=by
 have:=zP (body:=zUi m vals x) (r:=ev m D vals v (nw 0 x)) (fun i=>(ev m D vals v (nw 0 (x.take i)),(i:Int))) n (fun i hi=>by
  have ta:=hx i hi;unfold zUi;simp only
  rw[hl,yJ hi,zI];rw[vN (S:=Row m.Prime D) (body:=zUh m vals x (ev m D vals v (nw 0 (x.take i)),(i:Int))) (fun v=>v) (fun v=>stp m D vals v i) (at0 x i) ta.1 (by grind[zCu]) (fun u q hu hq=>by
   unfold zUh;simp only
   rw[zZ (by omega),bs,dX hq,zI,zBY hm hn hv hu hi,bs,zF (by omega) (by omega),bs,cs]) (fun u hu=>by
   unfold zUh;simp only
   rw[zZ (by omega),bs,dW (by omega),zH]) (zB9 hm hn hv h _),bs,zF (by omega) (by omega),bs,cs]
  grind[zKy,zJv,zNH]) (by
  unfold zUi
  grind)
 rw[show((0:Nat):Int)=0 from rfl,L4]at this
 grind[nw,ev,f_L]
theorem zAJ{ws:List Nat}(hw:∀w∈ws,w<n)(hl:ws.length≤1000):zO0 m vals (enW ws)=dS (ev m D vals (z0 D) ws):=by
 have h7:=hm.p.pos;have h3:=hm.d3;unfold zO0;rw[hm.d,yF (by omega),bs];have hz:=kI (p:=m.Prime) (D:=D) (by omega);have a7:(enW ws).length=ws.length:=by simp
 have:=zP (body:=zMN m vals (enW ws)) (r:=ev m D vals (z0 D) ws) (fun i=>(ev m D vals (z0 D) (ws.take i),(i:Int))) ws.length (fun i hi=>by
  have pL:=hw ws[i] (Kj hi);have hr:=zB9 hm hn hv hz (ws.take i);unfold zMN;simp only
  rw[a7,yJ hi,zI,vC,Jm,J6 hi];simp only[Hh];rw[bs,zF (by omega) (by omega),bs,show((ws[i]:Nat):Int)+1-1=((ws[i]:Nat):Int)from by omega,zB5 hm hn pL,bs,sE hm.p (by omega) hr (hm.mat _ pL) rfl,bs,bs,zR [] (by rw[hv.1];exact pL),bs,zAM hm.p (zBb (by omega)) (hv.2 _ pL) (by omega) (by omega),bs,zF (by omega) (by omega),bs,cs,Jw hi,zJv];rfl) (by
  unfold zMN;simp)
 rw[show((0:Nat):Int)=0 from rfl,L4]at this
 grind[ev]
end
theorem zDc{v:List Int}(hl:v.length≤1000000):IsB (f_y v) (∀i,i<v.length→at0 v i=0):=by
 refine tW v.length (fun i=>at0 v i=0) rfl (fun i hi _=>?_) ?_
 ·unfold zM2
  rw[yJ hi,zI,zZ hi,bs]
  by_cases h:at0 v i=0
  ·rw[show(at0 v i != 0)=dV from by grind,zH,zF (by omega) (by omega),bs,cs];grind
  grind
 ·unfold zM2
  simp
theorem kJ{v:List Int}(hl:v.length≤1000000):IsB (f_Q v) (∀i,i<v.length→at0 v i=0):=zDc hl
theorem zJw{xs:Mx}:(∀i,i<xs.flatten.length→at0 xs.flatten i=0)↔ ∀r∈xs,∀j,j<r.length→at0 r j=0:=by
 have key:∀v:List Int,(∀i,i<v.length→at0 v i=0)↔ ∀a∈v,a=0:=fun v=>by
  constructor
  ·intro h a ha
   obtain⟨i,hi,rfl⟩:=K8.1 ha
   grind
  ·intro h i hi
   have:=h v[i] (Kj hi)
   grind
 rw[key];simp only[Uc,key];exact⟨fun h r hr a ha=>h a ⟨r,hr,ha⟩,by grind⟩
section
variable {x:SPr} (h:Pres x) {m:zB}{D:Nat} (hm:MOk x.zA.length m D) {vals:Mx} (hv:VOk x.zA.length m.Prime D vals)
 include h hm hv
abbrev dfc(m:zB)(D:Nat)(vals:Mx)(q:Rl):List Int:=wQ m.Prime D (ev m D vals (z0 D) q.1) (-1) (ev m D vals (z0 D) q.2)
def zHR(x:SPr)(m:zB)(D:Nat)(vals:Mx):Prop:=∀q∈xN x,ev m D vals (z0 D) q.1=ev m D vals (z0 D) q.2
theorem zGN:(xN x).length≤300:=by
 have _:=hv;have _:=hm;have h6:=h.os.1;have hfm:=zK0 h x.zA.length (Jd _)
 grind[xN]
theorem zAK:zQV x m vals=dS ((xN x).map (dfc m D vals)):=by
 have h6:=h.os.1;have h7:=hm.p.pos;have h3:=hm.d3;have fp:=zGN h hm hv;have hz:=kI (p:=m.Prime) (D:=D) (by omega);unfold zQV;rw[zAZ h,bs];have:=zP (body:=zMO m vals ((xN x).map enR)) (r:=(xN x).map (dfc m D vals)) (fun i=>(((xN x).map (dfc m D vals)).take i,(i:Int))) (xN x).length (fun i hi=>by
  have gu:(xN x)[i]∈xN x:=Kj hi;obtain⟨⟨g1,g2⟩,g3,g4⟩:=zDz h gu;unfold zMO;simp only
  rw[Jg,yJ hi,zI,vC,Jm,J6 hi];simp only[Hh];rw[bs,zAJ hm h6 hv g1 g2,bs,zAJ hm h6 hv g3 g4,bs,zAM hm.p (zB9 hm h6 hv hz _) (zB9 hm h6 hv hz _) (by omega) (by omega),bs,zS (by simp;omega),bs,zF (by omega) (by omega),bs,cs,Jw (by simpa using hi)];simp) (by
  unfold zMO;simp only
  rw[Jg,tH,zH,Jt (by simp)])
 grind
theorem zET{q:Rl}:(∀j,j<(dfc m D vals q).length→at0 (dfc m D vals q) j=0)↔ev m D vals (z0 D) q.1=ev m D vals (z0 D) q.2:=by
 have h6:=h.os.1;have h7:=hm.p.pos
 grind[kI,zBa,zQy,zB9]
theorem zNI:IsB ((zQV x m vals).bind fun r3=>(f_E r3).bind fun r4=>f_y r4) (zHR x m D vals):=by
 have fp:=zGN h hm hv;have h3:=hm.d3;have mh:∀xs:List Rl,((xs.map (dfc m D vals)).flatten).length≤xs.length*3:=fun xs=>by
  induction xs with
  |nil=>simp
  |cons q xs ih=>
   simp only[Jl,Ja8,J7,Jj];have:(dfc m D vals q).length=D:=zBa;omega
 have:=mh (xN x);rw[zAK h hm hv,bs,zAt (by simp;omega) (by omega),bs];refine(zDc (by omega)).iff ?_;rw[zJw];constructor
 ·intro g q hq
  exact(zET h hm hv).1 (by grind)
 ·intro g r hr
  obtain⟨q,hq,rfl⟩:=Je.1 hr;exact(zET h hm hv).2 (g q hq)
end
end Go.Pl

namespace Go.Pl
open Go Go.Ab Go.Wk Go.Pc
def BL(x:SPr)(i:Nat):List Rl:=(Jn i).flatMap fun i=>r1 x i::R2 x i
theorem zK2{x:SPr}{i:Nat}:BL x (i+1)=BL x i++(r1 x i::R2 x i):=by grind[BL,K9]
theorem zNJ{x:SPr}{q:Rl}:q∈BL x x.zA.length↔q∈xN x:=by
 simp only[BL,xN,G6,Jx,Jq,Jv,Je]
 grind
section
variable {x:SPr} (h:Pres x) {m:zB}{D:Nat} (hm:MOk x.zA.length m D) {vals:Mx} (hv:VOk x.zA.length m.Prime D vals)
 include h hm hv
abbrev fl(m:zB)(D:Nat)(vals:Mx)(xs:List Rl):List Int:=(xs.map (dfc m D vals)).flatten
theorem zNK(xs:List Rl):(fl m D vals xs).length≤xs.length*3:=by
 have _:=h;have _:=hv;have h3:=hm.d3
 induction xs with
 |nil=>simp[fl]
 |cons q xs ih=>
  simp only[fl,Jl,Ja8,J7,Jj]at ih ⊢
  have:(dfc m D vals q).length=D:=zBa;omega
theorem zP1{xs:List Rl}{q:Rl}:fl m D vals xs++dfc m D vals q=fl m D vals (xs++[q]):=by have _:=h;have _:=hm;have _:=hv;grind
theorem zNL:∀i,i≤x.zA.length→(BL x i).length≤15*i
 |0,_=>by have _:=hm;have _:=hv;grind[BL]
 |i+1,hi=>by
  have:=zNL i (by omega)
  grind[zSH,zK2]
theorem zJx:f_G x m vals=dS (fl m D vals (BL x x.zA.length)):=by
 have h6:=h.os.1;have h7:=hm.p.pos;have h3:=hm.d3;have cu:=h.pl;have gI:=h.cl;have hz:=kI (p:=m.Prime) (D:=D) (by omega);unfold f_G;rw[hm.d,yF (by omega),bs];have l3:=zP (body:=zUl x m vals D) (r:=fl m D vals (BL x x.zA.length)) (fun i=>(fl m D vals (BL x i),(i:Int))) x.zA.length (fun i hi=>by
  obtain⟨p1,p2⟩:=qM h.os (h.tl i hi).1;have t2:=(h.tl i hi).2.1;have ho:=(h.os.2 i hi).pos;have aa:=zNL h hm hv i (by omega);have mh:=zNK h hm hv (BL x i);unfold zUl;simp only
  rw[yJ hi,zI];rw[vN (S:=Row m.Prime D) (body:=zUj x m vals (fl m D vals (BL x i),(i:Int))) (fun v=>v) (fun v=>stp m D vals v i) (at0 x.zA i) (by omega) (by grind[zCu]) (fun u q hu hq=>by
   unfold zUj;simp only
   rw[zZ hi,bs,dX hq,zI,zBY hm h6 hv hu hi,bs,zF (by omega) (by omega),bs,cs]) (fun u hu=>by
   unfold zUj;simp only
   rw[zZ hi,bs,dW (by omega),zH]) hz,bs,zF (by omega) (by omega),bs,zR [] (by omega),bs,zBt hm h6 hv hz p1 p2,bs,←zNH]
  have e1:f_F m.Prime (ev m D vals (z0 D) (J1 (at0 x.zA i).toNat i)) (m.Prime-1) (ev m D vals (z0 D) (nw 0 (x.zN.getD i [])))=dS (dfc m D vals (r1 x i)):=by rw[tC hm.p (zB9 hm h6 hv hz _) (zB9 hm h6 hv hz _) (by omega) (by omega),zEs];rfl
  have hd1:(dfc m D vals (r1 x i)).length=D:=zBa;rw[e1,bs,zS (by omega),bs,zP1 h hm hv,zF (by omega) (by omega),bs];have l2:=zP (body:=zUk x m vals D (fl m D vals (BL x i),(i:Int))) (r:=fl m D vals (BL x (i+1))) (fun j=>(fl m D vals (BL x i++(r1 x i::(Jn j).map (r2 x i))),((i+1+j:Nat):Int))) (x.zC.getD i []).length (fun j hj=>by
   obtain⟨c1,c2⟩:=qM h.os ((h.tl i hi).2.2 j hj);have dt:=zNK h hm hv (BL x i++(r1 x i::(Jn j).map (r2 x i)));simp only[J7,Jj,Jg,Hz]at dt;have fD:i+1+j<x.zA.length:=by omega
   have s1:=zBY hm h6 hv hz fD;have s2:=zBY hm h6 hv (zCu hm h6 hv (v:=z0 D) (w:=i+1+j)) hi;have s3:=zBY hm h6 hv hz hi;have s4:=zBt hm h6 hv (zCu hm h6 hv (v:=z0 D) (w:=i)) c1 c2;unfold zUk;simp only
   rw[yJ fD,zI,s1,bs,s2,bs,s3,bs,zR [] (by omega),bs,zF (by omega) (by omega),bs,zF (by omega) (by omega),bs,show(((i+1+j:Nat):Int)-(i:Int)-1)=(j:Int)from by omega,zR [] hj,bs,s4,bs,zF (by omega) (by omega),bs];have e2:f_F m.Prime (stp m D vals (stp m D vals (z0 D) (i+1+j)) i) (m.Prime-1) (ev m D vals (stp m D vals (z0 D) i) (nw 0 ((x.zC.getD i []).getD j [])))=dS (dfc m D vals (r2 x i j)):=by
    rw[tC hm.p (zCu hm h6 hv) (by grind[zB9,zCu]) (by omega) (by omega),zEs];simp only[dfc,r2,ev,List.foldl_cons,List.foldl_nil]
    grind
   have hd2:(dfc m D vals (r2 x i j)).length=D:=zBa;rw[e2,bs,zS (by omega),bs,zP1 h hm hv,zF (by omega) (by omega),bs,cs,K9];simp only[H1,Jl,Hw,Ji,Hv];rfl) (by
   unfold zUk;simp only
   rw[show i+1+(x.zC.getD i []).length=x.zA.length from by omega,tH,zH,zK2];rfl)
  grind) (by
  unfold zUl;simp)
 rw[show((0:Nat):Int)=0 from rfl,show BL x 0=[]from rfl]at l3
 grind
theorem zSI:IsB (zWz x m vals) (zHR x m D vals):=by
 have h6:=h.os.1;have aa:=zNL h hm hv x.zA.length (Jd _);have mh:=zNK h hm hv (BL x x.zA.length);unfold zWz;rw[zJx h hm hv,bs];refine(IsB.b (kJ (by omega))).iff ?_;rw[zJw];constructor
 ·intro g q hq
  exact(zET h hm hv).1 (g _ (Je.2 ⟨q,zNJ.2 hq,rfl⟩))
 ·intro g r hr
  obtain⟨q,hq,rfl⟩:=Je.1 hr;exact(zET h hm hv).2 (g q (zNJ.1 hq))
end
theorem zQz{m:zB}{D:Nat}{vals:Mx}(hp:Prime m.Prime)(hd:m.Dim=(D:Int))(hD:D≤8)(hl:vals.length≤1048576):IsB (zZG m vals) (∀i,i<vals.length→Row m.Prime D (vals.getD i [])):=by
 refine tW vals.length (fun i=>Row m.Prime D (vals.getD i [])) rfl (fun i hi _=>?_) ?_
 ·refine uA (zAs hp hD (r:=vals.getD i [])) (by omega) ?_
  unfold zPN;rw[yJ hi,zI,zR [] hi,bs,hd]
 ·unfold zPN
  simp
theorem zQ0{m:zB}{D:Nat}{vals:Mx}(hp:Prime m.Prime)(hd:m.Dim=(D:Int))(hD:D≤8)(hl:vals.length≤1048576):IsB (zZE m vals) (∀i,i<vals.length→Row m.Prime D (vals.getD i [])):=by
 refine tW vals.length (fun i=>Row m.Prime D (vals.getD i [])) rfl (fun i hi _=>?_) ?_
 ·refine uA (tY hp hD (r:=vals.getD i [])) (by omega) ?_
  unfold zPM;rw[yJ hi,zI,zR [] hi,bs,hd]
 ·unfold zPM
  simp
theorem zJy{a b:Int}(h:a=b):(a==b)=dU:=by simp[h]
theorem zHS{a b:Int}(h:a≠b):(a==b)=dV:=by simp[h]
theorem zBu{x:SPr}{m:zB}{D:Nat}{vals:Mx}(hp:Prime m.Prime)(hd:m.Dim=(D:Int))(hD:D≤8)(hl:vals.length≤1048576):IsB (zOz x m vals) (VOk x.zA.length m.Prime D vals):=by
 unfold zOz
 by_cases hn:vals.length=x.zA.length
 ·rw[zJy (by omega),zI]
  exact(IsB.b (zQz hp hd hD hl)).iff ⟨fun g=>⟨hn,by grind⟩,fun g i hi=>g.2 i (by omega)⟩
 ·rw[zHS (by omega),zH];exact .inr ⟨rfl,fun g=>hn g.1⟩
theorem zDd{x:SPr}{m:zB}{D:Nat}{vals:Mx}(hp:Prime m.Prime)(hd:m.Dim=(D:Int))(hD:D≤8)(hl:vals.length≤1048576):IsB (zUg x m vals) (VOk x.zA.length m.Prime D vals):=by
 unfold zUg
 by_cases hn:vals.length=x.zA.length
 ·rw[zJy (by omega),zI]
  exact(IsB.b (zQ0 hp hd hD hl)).iff ⟨fun g=>⟨hn,by grind⟩,fun g i hi=>g.2 i (by omega)⟩
 ·rw[zHS (by omega),zH];exact .inr ⟨rfl,fun g=>hn g.1⟩
theorem zCv{x:SPr}{v:List Int}(ho:Os x.zA):IsB (zKI x v) (zLI x.zA v):=by
 unfold zKI;refine IsB.b ?_;unfold zKD
 by_cases h:v.length=x.zA.length
 ·rw[sU (by omega),zH]
  refine(tW v.length (fun i=>0≤at0 v i∧at0 v i≤at0 x.zA i-1) rfl (fun i hi _=>?_) ?_).iff ⟨fun g=>⟨h,g⟩,fun g=>g.2⟩
  ·have h6:=ho.1
   have hp:=(ho.2 i (by omega)).pos;unfold zIu;rw[yJ hi,zI,zZ hi,bs,zZ (by omega),bs,zF (by omega) (by omega),bs];rcases tX (at0 v i) 0 (at0 x.zA i-1)with⟨h1,h2⟩|⟨h1,h2⟩
   ·rw[h1,bs,J3,zH,dW (by omega),zH,zF (by omega) (by omega),bs,cs]
    grind
   grind
  ·unfold zIu
   simp
 ·rw[tI (by omega),zI];exact .inr ⟨rfl,fun g=>h g.1⟩
end Go.Pl

namespace Go.Pl
open Go Go.Ab Go.Wk Go.Pc
theorem IsB.both{o o':Option Bool}{P:Prop}(h:IsB o P)(h':IsB o' P):(o=dS dU∧o'=dS dU∧P)∨(o=dS dV∧o'=dS dV∧ ¬P):=by
 rcases h with⟨h1,h2⟩|⟨h1,h2⟩<;>rcases h' with⟨h3,h4⟩|⟨h3,h4⟩
 all_goals grind
end Go.Pl

namespace Go.Pl
open Go Go.Ab Go.Wk Go.Pc
def Sp(p:Int)(n:Nat)(R:Mx)(v:List Int):Prop:=∃c:Nat→Int,∀j,j<n→(S R.length fun i=>c i*ent R i j)%p=at0 v j%p
section
variable {p:Int}{n:Nat}{R R':Mx}{u v w:List Int}
theorem tZ{i:Nat}(hi:i<R.length):Sp p n R (R.getD i []):=by
 refine⟨fun l=>if l=i then 1 else 0,fun j _=>?_⟩
 grind[zBs]
theorem qE{k:Int}(hv:Sp p n R v)(hw:Sp p n R w)(h:∀j,j<n→at0 u j%p=(at0 v j+k*at0 w j)%p):Sp p n R u:=by
 obtain⟨c,hc⟩:=hv;obtain⟨d,hd⟩:=hw;refine⟨fun i=>c i+k*d i,fun j hj=>?_⟩;have e:(S R.length fun i=>(c i+k*d i)*ent R i j)=(S R.length fun i=>c i*ent R i j)+k*(S R.length fun i=>d i*ent R i j):=by
  rw[←zAY,←zER]
  grind
 rw[e,h j hj,K5,hc j hj,Jk,hd j hj,←Jk,←K5]
theorem zSJ(hv:Sp p n R v)(h:∀j,j<n→at0 u j%p=at0 v j%p):Sp p n R u:=by obtain⟨c,hc⟩:=hv;exact⟨c,by grind⟩
theorem zD0(h:∀j,j<n→at0 u j%p=0):Sp p n R u:=by refine⟨fun _=>0,fun j hj=>?_⟩;rw[h j hj,xP (g:=fun _=>0) (fun i _=>by simp),qD];simp
theorem zAu(h:∀i,i<R.length→Sp p n R' (R.getD i []))(hv:Sp p n R v):Sp p n R' v:=by
 obtain⟨c,hc⟩:=hv;have key:∀m,m≤R.length→ ∃d:Nat→Int,∀j,j<n→(S R'.length fun i=>d i*ent R' i j)%p=(S m fun i=>c i*ent R i j)%p:=by
  intro m
  induction m with
  |zero=>intro _;exact⟨fun _=>0,fun j _=>by rw[xP (g:=fun _=>0) (fun i _=>by simp),qD];rfl⟩
  |succ m ih=>
   intro hm;obtain⟨d,hd⟩:=ih (by omega);obtain⟨e,he⟩:=h m (by omega);refine⟨fun i=>d i+c m*e i,fun j hj=>?_⟩;have e1:(S R'.length fun i=>(d i+c m*e i)*ent R' i j)=(S R'.length fun i=>d i*ent R' i j)+c m*(S R'.length fun i=>e i*ent R' i j):=by
    rw[←zAY,←zER]
    grind
   rw[e1,K5,hd j hj,Jk,he j hj,←Jk,←K5];rfl
 obtain⟨d,hd⟩:=key R.length (Jd _);exact⟨d,by grind⟩
end
def sN(p:Int)(n:Nat)(R R':Mx):Prop:=(∀i,i<R.length→Sp p n R' (R.getD i []))∧ ∀i,i<R'.length→Sp p n R (R'.getD i [])
theorem sN.refl{p:Int}{n:Nat}{R:Mx}:sN p n R R:=⟨fun _ h=>tZ h,fun _ h=>tZ h⟩
theorem sN.symm{p:Int}{n:Nat}{R R':Mx}(h:sN p n R R'):sN p n R' R:=⟨h.2,h.1⟩
theorem sN.trans{p:Int}{n:Nat}{R R' R2:Mx}(h:sN p n R R')(h':sN p n R' R2):sN p n R R2:=⟨fun i hi=>zAu h'.1 (h.1 i hi),fun i hi=>zAu h.2 (h'.2 i hi)⟩
theorem sN.iff{p:Int}{n:Nat}{R R':Mx}{v:List Int}(h:sN p n R R'):Sp p n R v↔Sp p n R' v:=⟨fun g=>zAu h.1 g,fun g=>zAu h.2 g⟩
structure Red (p:Int) (n:Nat) (R:Mx) (pv:Nat→Nat):Prop where
 row:∀i,i<R.length→Row p n (R.getD i [])
 lt:∀i,i<R.length→pv i<n
 one:∀i,i<R.length→ent R i (pv i)=1
 low:∀i,i<R.length→ ∀j,j<pv i→ent R i j=0
 off:∀i k,i<R.length→k<R.length→k≠i→ent R k (pv i)=0
 mono:∀i j,i<j→j<R.length→pv i<pv j
section
variable {p:Int} (hp:1<p) {n:Nat}{R R':Mx}{pv pv':Nat→Nat}{v:List Int}
theorem Red.coef(h:Red p n R pv){c:Nat→Int}(hc:∀j,j<n→(S R.length fun i=>c i*ent R i j)%p=at0 v j%p){k:Nat}(hk:k<R.length):c k%p=at0 v (pv k)%p:=by rw[←hc (pv k) (h.lt k hk),zBs (k:=k) hk (fun i hi gc=>by rw[h.off k i hk hi gc];simp),h.one k hk];simp
theorem Red.expand(h:Red p n R pv)(hv:Sp p n R v):∀j,j<n→at0 v j%p=(S R.length fun i=>at0 v (pv i)*ent R i j)%p:=by obtain⟨c,hc⟩:=hv;intro j hj;rw[←hc j hj];exact zAA fun i hi=>by rw[Jk,h.coef hc hi,←Jk]
theorem Red.lead(h:Red p n R pv)(hv:Sp p n R v)(gc:∃j,j<n∧at0 v j%p≠0):∃i,i<R.length∧(∀j,j<pv i→at0 v j%p=0)∧at0 v (pv i)%p≠0:=by
 have hx:=h.expand hv;have h1:∃i,i<R.length∧at0 v (pv i)%p≠0:=by
  refine Classical.byContradiction fun hn=>?_
  obtain⟨j,hj,tx⟩:=gc;refine tx ?_;rw[hx j hj,zAA (g:=fun _=>0) (fun i hi=>by
   have:at0 v (pv i)%p=0:=by grind
   rw[Jk,this];simp),qD];rfl
 obtain⟨i,⟨hi,eS⟩,eQ⟩:=zDQ h1;refine⟨i,hi,fun j hj=>?_,eS⟩;have fD:j<n:=Nat.lt_trans hj (h.lt i hi);rw[hx j fD,zAA (g:=fun _=>0) (fun k hk=>by
  rcases Js k i with hki|hki
  ·have:at0 v (pv k)%p=0:=by grind
   rw[Jk,this];simp
  ·have h2:pv i≤pv k:=by
    rcases Js i k with h3|h3
    ·exact Nat.le_of_lt (h.mono i k h3 hk)
    grind
   rw[h.low k hk j (by omega)];simp),qD];rfl
 include hp
theorem Red.row_lead(h:Red p n R pv){i:Nat}(hi:i<R.length):(∃j,j<n∧at0 (R.getD i []) j%p≠0)∧(∀j,j<pv i→at0 (R.getD i []) j%p=0)∧at0 (R.getD i []) (pv i)%p≠0:=by
 have h1:at0 (R.getD i []) (pv i)%p≠0:=by have:=h.one i hi;simp only[ent]at this;rw[this,Jr (by omega) hp];omega
 refine⟨⟨pv i,h.lt i hi,h1⟩,fun j hj=>?_,h1⟩;have:=h.low i hi j hj
 simp_all
theorem Red.piv_in(h:Red p n R pv)(h':Red p n R' pv')(hs:∀i,i<R.length→Sp p n R' (R.getD i [])){i:Nat}(hi:i<R.length):∃k,k<R'.length∧pv' k=pv i:=by
 obtain⟨g1,g2,g3⟩:=h.row_lead hp hi;obtain⟨k,hk,g4,g5⟩:=h'.lead (hs i hi) g1
 grind
theorem Red.piv_eq(h:Red p n R pv)(h':Red p n R' pv')(hs:sN p n R R'):∀i,(i<R.length↔i<R'.length)∧(i<R.length→pv i=pv' i):=by
 intro i
 induction i using G5 with
 |_ i ih=>
  have a:i<R.length→i<R'.length∧pv' i≤pv i:=fun hi=>by
   obtain⟨k,hk,e⟩:=h.piv_in hp h' hs.1 hi;have hki:i≤k:=by
    refine Classical.byContradiction fun hn=>?_
    have h1:=(ih k (by omega)).2 (by omega);have h2:=h.mono k i (by omega) hi;omega
   refine⟨by omega,?_⟩;rcases Js i k with h3|h3
   ·have:=h'.mono i k h3 hk;omega
   grind
  have b:i<R'.length→i<R.length∧pv i≤pv' i:=fun hi=>by
   obtain⟨k,hk,e⟩:=h'.piv_in hp h hs.2 hi;have hki:i≤k:=by
    refine Classical.byContradiction fun hn=>?_
    have h1:=(ih k (by omega)).2 hk;have h2:=h'.mono k i (by omega) hi;omega
   refine⟨by omega,?_⟩;rcases Js i k with h3|h3
   ·have:=h.mono i k h3 hk;omega
   grind
  omega
theorem Red.unique(h:Red p n R pv)(h':Red p n R' pv')(hs:sN p n R R'):R=R':=by
 have hpe:=h.piv_eq hp h' hs;have hl:R.length=R'.length:=by
  rcases H5 R.length R'.length with g|g|g
  all_goals grind
 refine zCq (D:=R.length) rfl hl.symm fun i hi=>?_
 have ey:i<R'.length:=by omega
 have r1:=h.row i hi;have r2:=h'.row i ey;rw[vO r1.1,vO r2.1];refine yC fun j hj=>?_
 have hx:=h'.expand (hs.1 i hi) j hj;rw[xP (g:=fun k=>(if k=i then 1 else 0)*ent R' k j) (fun k hk=>by
  congr 1
  have e:=(hpe k).2 (by omega)
  by_cases hki:k=i
  ·subst hki;rw[if_pos rfl,←e];exact h.one k hi
  ·rw[if_neg hki,←e];exact h.off k i (by omega) hi (Ne.symm hki)),zBs (k:=i) ey (fun k _ hk=>by simp[hk])]at hx
 simp only[if_true,Kl,ent]at hx;have a1:=r1.2 j hj;have a2:=r2.2 j hj;rw[Jr a1.1 (by omega),Jr a2.1 (by omega)]at hx;exact hx
end
end Go.Pl

namespace Go.Pl
open Go Go.Ab Go.Wk Go.Pc
def mkR(m:Nat)(F:Nat→List Int):Mx:=(Jn m).map F
theorem tN{m:Nat}{F:Nat→List Int}:(mkR m F).length=m:=by simp[mkR]
theorem zAi{m:Nat}{F:Nat→List Int}{i:Nat}(h:i<m):(mkR m F).getD i []=F i:=by simp[mkR,J4,h]
theorem zK3{m:Nat}{F:Nat→List Int}{i:Nat}(h:i<m):ixO (mkR m F) (i:Int)=dS (F i):=by rw[zR [] (by grind[tN]),zAi h]
theorem kK{m:Nat}{F G:Nat→List Int}(h:∀i,i<m→F i=G i):mkR m F=mkR m G:=by grind[mkR,G4]
theorem zNM{R:Mx}{m:Nat}(h:R.length=m):R=mkR m (fun i=>R.getD i []):=zCq (D:=m) h tN (by grind[zAi])
theorem zGO{m:Nat}{F:Nat→List Int}{i:Nat}{a:List Int}:(mkR m F).set i a=mkR m (fun k=>if k=i then a else F k):=by
 apply L9;intro k
 by_cases hk:k<m
 ·by_cases h:i=k
  ·grind[mkR]
  ·rw[U2 h];simp[mkR,hk,Ne.symm h]
 grind[mkR]
theorem zEU{m:Nat}{F:Nat→List Int}{i j:Nat}(h:i<m):ent (mkR m F) i j=at0 (F i) j:=by simp only[ent,zAi h]
theorem zSK{s:Nat→Int×Int×Int×Int}(n:Nat){r:Int×Int}(h:∀i,i<n→zJF (s i)=dS (.inl (s (i+1))))(he:zJF (s n)=dS (.inr r)){p q:Int}(hq:zIy r.2 p=dS q)(h1:r.1=1)(hs:s 0=(p,(s 0).2.1,0,1)):
  zMG (s 0).2.1 p=dS (q,dU):=by
 unfold zMG;rw[←hs,zP s n h he,bs,hq,bs,h1];rfl
def zSL:List (Int×Int×Int×Int)→Nat→Int×Int×Int×Int:=fun l i=>l.getD i (0,0,0,0)
theorem uX(l:List (Int×Int×Int×Int))(n:Nat){r:Int×Int}(h:∀i,i<n→zJF (zSL l i)=dS (.inl (zSL l (i+1))))(he:zJF (zSL l n)=dS (.inr r)){p q x:Int}(hq:zIy r.2 p=dS q)(h1:r.1=1)(hs:zSL l 0=(p,x,0,1)):
  zMG x p=dS (q,dU):=by
 have:=zSK (s:=zSL l) n h he hq h1 (by rw[hs])
 grind
theorem lt1{P:Nat→Prop}(h0:P 0):∀i,i<1→P i:=by grind
theorem lt2{P:Nat→Prop}(h0:P 0)(h1:P 1):∀i,i<2→P i:=by grind
theorem lt3{P:Nat→Prop}(h0:P 0)(h1:P 1)(h2:P 2):∀i,i<3→P i:=by grind
theorem zCw{p x:Int}(hp:Prime p)(h0:1≤x)(h1:x≤p-1):∃r,zMG x p=dS (r,dU)∧0≤r∧r≤p-1∧(x*r)%p=1:=by
 have c:(p=2∧x=1)∨(p=3∧(x=1∨x=2))∨(p=5∧(x=1∨x=2∨x=3∨x=4))∨(p=7∧(x=1∨x=2∨x=3∨x=4∨x=5∨x=6)):=by unfold Prime at hp;omega
 rcases c with⟨rfl,rfl⟩|⟨rfl,rfl|rfl⟩|⟨rfl,rfl|rfl|rfl|rfl⟩|⟨rfl,rfl|rfl|rfl|rfl|rfl|rfl⟩
 ·exact⟨1,uX [(2,1,0,1),(1,0,1,-2)] 1 (lt1 (by rfl)) (r:=(1,1)) (by rfl) (by rfl) rfl rfl,by decide,by decide,by decide⟩
 ·exact⟨1,uX [(3,1,0,1),(1,0,1,-3)] 1 (lt1 (by rfl)) (r:=(1,1)) (by rfl) (by rfl) rfl rfl,by decide,by decide,by decide⟩
 ·exact⟨2,uX [(3,2,0,1),(2,1,1,-1),(1,0,-1,3)] 2 (lt2 (by rfl) (by rfl)) (r:=(1,-1)) (by rfl) (by rfl) rfl rfl,by decide,by decide,by decide⟩
 ·exact⟨1,uX [(5,1,0,1),(1,0,1,-5)] 1 (lt1 (by rfl)) (r:=(1,1)) (by rfl) (by rfl) rfl rfl,by decide,by decide,by decide⟩
 ·exact⟨3,uX [(5,2,0,1),(2,1,1,-2),(1,0,-2,5)] 2 (lt2 (by rfl) (by rfl)) (r:=(1,-2)) (by rfl) (by rfl) rfl rfl,by decide,by decide,by decide⟩
 ·exact⟨2,uX [(5,3,0,1),(3,2,1,-1),(2,1,-1,2),(1,0,2,-5)] 3 (lt3 (by rfl) (by rfl) (by rfl)) (r:=(1,2)) (by rfl) (by rfl) rfl rfl,by decide,by decide,by decide⟩
 ·exact⟨4,uX [(5,4,0,1),(4,1,1,-1),(1,0,-1,5)] 2 (lt2 (by rfl) (by rfl)) (r:=(1,-1)) (by rfl) (by rfl) rfl rfl,by decide,by decide,by decide⟩
 ·exact⟨1,uX [(7,1,0,1),(1,0,1,-7)] 1 (lt1 (by rfl)) (r:=(1,1)) (by rfl) (by rfl) rfl rfl,by decide,by decide,by decide⟩
 ·exact⟨4,uX [(7,2,0,1),(2,1,1,-3),(1,0,-3,7)] 2 (lt2 (by rfl) (by rfl)) (r:=(1,-3)) (by rfl) (by rfl) rfl rfl,by decide,by decide,by decide⟩
 ·exact⟨5,uX [(7,3,0,1),(3,1,1,-2),(1,0,-2,7)] 2 (lt2 (by rfl) (by rfl)) (r:=(1,-2)) (by rfl) (by rfl) rfl rfl,by decide,by decide,by decide⟩
 ·exact⟨2,uX [(7,4,0,1),(4,3,1,-1),(3,1,-1,2),(1,0,2,-7)] 3 (lt3 (by rfl) (by rfl) (by rfl)) (r:=(1,2)) (by rfl) (by rfl) rfl rfl,by decide,by decide,by decide⟩
 ·exact⟨3,uX [(7,5,0,1),(5,2,1,-1),(2,1,-1,3),(1,0,3,-7)] 3 (lt3 (by rfl) (by rfl) (by rfl)) (r:=(1,3)) (by rfl) (by rfl) rfl rfl,by decide,by decide,by decide⟩
 ·exact⟨6,uX [(7,6,0,1),(6,1,1,-1),(1,0,-1,7)] 2 (lt2 (by rfl) (by rfl)) (r:=(1,-1)) (by rfl) (by rfl) rfl rfl,by decide,by decide,by decide⟩
end Go.Pl

namespace Go.Pl
open Go Go.Ab Go.Wk Go.Pc
structure zQ1 (p:Int) (n m:Nat) (rows:Mx) (c:Nat) (M:Mx) (d:Nat) (pv:Nat→Nat):Prop where
 len:M.length=m
 row:∀i,i<m→Row p n (M.getD i [])
 dm:d≤m
 lt:∀i,i<d→pv i<c
 one:∀i,i<d→ent M i (pv i)=1
 low:∀i,i<d→ ∀j,j<pv i→ent M i j=0
 off:∀i k,i<d→k<m→k≠i→ent M k (pv i)=0
 mono:∀i j,i<j→j<d→pv i<pv j
 zero:∀k,d≤k→k<m→ ∀j,j<c→ent M k j=0
 sp:sN p n M rows
theorem zCx{p:Int}{n m:Nat}{F:Nat→List Int}{i:Nat}(h:i<m):Sp p n (mkR m F) (F i):=by
 have:=tZ (p:=p) (n:=n) (R:=mkR m F) (i:=i) (by grind[tN])
 grind[zAi]
theorem zSM(a e r p:Int):a%p=((a+(0-e)*r)%p+e*r)%p:=by rw[K5,Ju,←K5,show a+(0-e)*r+e*r=a from by grind]
section
variable {p:Int} (hp:Prime p) {n m:Nat}{rows:Mx}{c:Nat}{M:Mx}{d:Nat}{pv:Nat→Nat} (h:zQ1 p n m rows c M d pv) (hc:c<n) (hd:d<m)
 include hp h hc hd
theorem zQ1.pivot{t:Nat}(ht:d≤t)(bi:t<m)(gc:ent M t c≠0){q:Int}(hq:(ent M t c*q)%p=1):
  zQ1 p n m rows (c+1) (mkR m fun i=>if i=d then mkv n fun j=>(ent M t j*q)%p else wQ p n (if i=t then M.getD d []else M.getD i []) (0-at0 (if i=t then M.getD d []else M.getD i []) c) (mkv n fun j=>(ent M t j*q)%p)) (d+1) (fun i=>if i=d then c else pv i):=by
 have h7:=hp.pos;have pr:∀j,j<n→at0 (mkv n fun j=>(ent M t j*q)%p) j=(ent M t j*q)%p:=fun j hj=>zT hj
 have p0:∀j,j<c→(ent M t j*q)%p=0:=fun j hj=>by rw[h.zero t ht bi j hj];simp
 have prow:Row p n (mkv n fun j=>(ent M t j*q)%p):=⟨yB _ _,fun j hj=>by have e1:=Ke (ent M t j*q) (show p≠0 by omega);have e2:=K4 (ent M t j*q) (show 0<p by omega);rw[pr j hj];omega⟩
 have hG:∀i,i<m→i≠d→Row p n (if i=t then M.getD d []else M.getD i []):=fun i hi _=>by
  split
  ·exact h.row d hd
  ·exact h.row i hi
 have eo:∀i j,i<m→i≠d→j<n→ent (mkR m fun i=>if i=d then mkv n fun j=>(ent M t j*q)%p else wQ p n (if i=t then M.getD d []else M.getD i []) (0-at0 (if i=t then M.getD d []else M.getD i []) c) (mkv n fun j=>(ent M t j*q)%p)) i j=(at0 (if i=t then M.getD d []else M.getD i []) j+(0-at0 (if i=t then M.getD d []else M.getD i []) c)*((ent M t j*q)%p))%p:=fun i j hi ew hj=>by rw[zEU hi,if_neg ew,wQ,zT hj,pr j hj]
 have el:∀i j,i<m→i≠d→j<c→ent (mkR m fun i=>if i=d then mkv n fun j=>(ent M t j*q)%p else wQ p n (if i=t then M.getD d []else M.getD i []) (0-at0 (if i=t then M.getD d []else M.getD i []) c) (mkv n fun j=>(ent M t j*q)%p)) i j=at0 (if i=t then M.getD d []else M.getD i []) j:=fun i j hi ew hj=>by rw[eo i j hi ew (by omega),p0 j hj,Lp,Lb];have:=(hG i hi ew).2 j (by omega);exact Jr this.1 (by omega)
 have ed:∀j,j<n→ent (mkR m fun i=>if i=d then mkv n fun j=>(ent M t j*q)%p else wQ p n (if i=t then M.getD d []else M.getD i []) (0-at0 (if i=t then M.getD d []else M.getD i []) c) (mkv n fun j=>(ent M t j*q)%p)) d j=(ent M t j*q)%p:=fun j hj=>by rw[zEU hd,if_pos rfl,pr j hj]
 have ec:∀i,i<m→i≠d→ent (mkR m fun i=>if i=d then mkv n fun j=>(ent M t j*q)%p else wQ p n (if i=t then M.getD d []else M.getD i []) (0-at0 (if i=t then M.getD d []else M.getD i []) c) (mkv n fun j=>(ent M t j*q)%p)) i c=0:=fun i hi ew=>by rw[eo i c hi ew hc,hq,Ku];rw[show at0 (if i=t then M.getD d []else M.getD i []) c+(0-at0 (if i=t then M.getD d []else M.getD i []) c)=0 from by omega];simp
 have fg:∀i,i<d→(if i=t then M.getD d []else M.getD i [])=M.getD i []:=fun i hi=>by rw[if_neg (by omega)]
 have hzr:∀i,d≤i→i<m→ ∀j,j<c→at0 (if i=t then M.getD d []else M.getD i []) j=0:=fun i hi eS j hj=>by
  split
  ·exact h.zero d (Jd _) hd j hj
  ·exact h.zero i hi eS j hj
 refine⟨tN,fun i hi=>?_,by omega,fun i hi=>?_,fun i hi=>?_,fun i hi j hj=>?_,fun i k hi hk ew=>?_,fun i j e7 hj=>?_,fun k hk fV j hj=>?_,?_⟩
 ·rw[zAi hi]
  split
  ·exact prow
  ·exact qU hp
 ·by_cases ej:i=d
  ·rw[if_pos ej];omega
  ·rw[if_neg ej];have:=h.lt i (by omega);omega
 ·by_cases ej:i=d
  ·subst ej;rw[if_pos rfl,ed c hc,hq]
  ·have h1:=h.lt i (by omega)
   rw[if_neg ej,el i _ (by omega) ej h1,fg i (by omega)];exact h.one i (by omega)
 ·by_cases ej:i=d
  ·subst ej
   rw[if_pos rfl]at hj;rw[ed j (by omega),p0 j hj]
  ·rw[if_neg ej]at hj
   have h1:=h.lt i (by omega);rw[el i j (by omega) ej (by omega),fg i (by omega)];exact h.low i (by omega) j hj
 ·by_cases ej:i=d
  ·subst ej
   rw[if_pos rfl];exact ec k hk ew
  ·have h1:=h.lt i (by omega)
   rw[if_neg ej]
   by_cases pC:k=d
   ·subst pC
    rw[ed _ (by omega),h.off i t (by omega) bi (by omega)];simp
   ·rw[el k _ hk pC h1]
    split
    ·exact h.off i d (by omega) hd (Ne.symm ej)
    ·exact h.off i k (by omega) hk ew
 ·by_cases hjd:j=d
  ·subst hjd
   rw[if_pos rfl,if_neg (by omega)];exact h.lt i (by omega)
  ·rw[if_neg hjd,if_neg (by omega)];exact h.mono i j e7 (by omega)
 ·rcases Js j c with hjc|hjc
  ·rw[el k j fV (by omega) hjc];exact hzr k (by omega) fV j hjc
  ·rw[show j=c from by omega];exact ec k fV (by omega)
 ·refine sN.trans ⟨fun i hi=>?_,fun i hi=>?_⟩ h.sp
  ·rw[tN]at hi
   rw[zAi hi];have hr:Sp p n M (mkv n fun j=>(ent M t j*q)%p):=by
    refine qE (k:=q) (zD0 (u:=[]) fun j _=>by simp[at0]) (tZ (R:=M) (i:=t) (by rw[h.len];exact bi)) fun j hj=>?_
    rw[pr j hj,Ju,Hd];simp[at0]
   split
   ·exact hr
   ·refine qE (k:=0-at0 (if i=t then M.getD d []else M.getD i []) c) (v:=if i=t then M.getD d []else M.getD i []) ?_ hr fun j hj=>?_
    ·split
     ·exact tZ (by rw[h.len];exact hd)
     ·exact tZ (by rw[h.len];exact hi)
    ·rw[wQ,zT hj,Ju]
  ·rw[h.len]at hi
   have hr:=zCx (p:=p) (n:=n) (m:=m) (F:=fun i=>if i=d then mkv n fun j=>(ent M t j*q)%p else wQ p n (if i=t then M.getD d []else M.getD i []) (0-at0 (if i=t then M.getD d []else M.getD i []) c) (mkv n fun j=>(ent M t j*q)%p)) hd;simp only[if_true]at hr;have hg:∀k,k<m→k≠d→Sp p n (mkR m fun i=>if i=d then mkv n fun j=>(ent M t j*q)%p else wQ p n (if i=t then M.getD d []else M.getD i []) (0-at0 (if i=t then M.getD d []else M.getD i []) c) (mkv n fun j=>(ent M t j*q)%p)) (if k=t then M.getD d []else M.getD k []):=fun k hk pC=>by
    have h1:=zCx (p:=p) (n:=n) (m:=m) (F:=fun i=>if i=d then mkv n fun j=>(ent M t j*q)%p else wQ p n (if i=t then M.getD d []else M.getD i []) (0-at0 (if i=t then M.getD d []else M.getD i []) c) (mkv n fun j=>(ent M t j*q)%p)) hk;simp only[if_neg pC]at h1;refine qE (k:=at0 (if k=t then M.getD d []else M.getD k []) c) h1 hr fun j hj=>?_
    rw[wQ,zT hj,pr j hj];exact zSM _ _ _ _
   by_cases fE:i=t
   ·
    subst fE;refine qE (k:=ent M i c) (zD0 (u:=[]) fun j _=>by simp[at0]) hr fun j hj=>?_
    rw[pr j hj];have e1:(ent M i c*((ent M i j*q)%p))%p=(ent M i j*((ent M i c*q)%p))%p:=by
     rw[Jk,Ju,←Jk,Jk (ent M i j),Ju,←Jk]
     congr 1
     rw[←Gb,←Gb,Hd (ent M i c)]
    rw[show at0 ([]:List Int) j=0 from by simp[at0],Lo,e1,hq,Ku]
   ·by_cases ej:i=d
    ·subst ej
     have:=hg t bi (by omega);rw[if_pos rfl]at this;exact this
    ·have:=hg i hi ej
     rw[if_neg fE]at this;exact this
end
end Go.Pl

namespace Go.Pl
open Go Go.Ab Go.Wk Go.Pc
theorem zBc{v:List Int}(h:v.length≤1000000):f_K v=dS v:=by grind[f_K,zS]
theorem zDX{rows:Mx}(hm:rows.length≤1000000)(hn:∀i,i<rows.length→(rows.getD i []).length≤1000000):zUa rows=dS rows:=by
 unfold zUa;have:=zP (body:=zMF rows) (r:=rows) (fun i=>(rows.take i,(i:Int))) rows.length (fun i hi=>by
  unfold zMF;simp only
  rw[yJ hi,zI,zR [] hi,bs,zBc (hn i hi),bs,zS (by simp;omega),bs,zF (by omega) (by omega),bs,cs,Jw hi,J4,J6 hi];rfl) (by
  unfold zMF;simp)
 grind
theorem zQ2{M:Mx}{d c m n:Nat}(hm:M.length=m)(hd:d≤m)(hmm:m≤1000000)(eu:∀i,i<m→(M.getD i []).length=n)(hc:c<n):
  ∃t:Nat,d≤t∧t≤m∧zE (zIB (M,(d:Int),(c:Int))) (d:Int)=dS (t:Int)∧(∀k,d≤k→k<t→ent M k c=0)∧(t<m→ent M t c≠0):=by
 have key:∀k,k≤m-d→ ∃t:Nat,m-k≤t∧t≤m∧zE (zIB (M,(d:Int),(c:Int))) ((m-k:Nat):Int)=dS (t:Int)∧(∀q,m-k≤q→q<t→ent M q c=0)∧(t<m→ent M t c≠0):=by
  intro k
  induction k with
  |zero=>
   intro _;refine⟨m,by omega,Jd _,?_,by omega,fun h=>by omega⟩;rw[yG];unfold zIB
   grind
  |succ k ih=>
   intro hk;obtain⟨t,h1,h2,h3,h4,h5⟩:=ih (by omega);have gE:m-(k+1)<m:=by omega
   by_cases hz:ent M (m-(k+1)) c=0
   ·refine⟨t,by omega,h2,?_,fun q q1 q2=>?_,h5⟩
    ·rw[yG]
     have e:zIB (M,(d:Int),(c:Int)) ((m-(k+1):Nat):Int)=dS (.inl ((m-k:Nat):Int)):=by
      unfold zIB;simp only
      rw[hm,yJ gE,zI,zR [] (by omega),bs,zZ (by rw[eu _ gE];exact hc),bs,zJy hz,zI,zF (by omega) (by omega),bs,cs,show m-(k+1)+1=m-k from by omega]
     grind
    grind
   ·refine⟨m-(k+1),Jd _,by omega,?_,by omega,fun _=>hz⟩
    rw[yG];have e:zIB (M,(d:Int),(c:Int)) ((m-(k+1):Nat):Int)=dS (.inr ((m-(k+1):Nat):Int)):=by
     unfold zIB;simp only
     rw[hm,yJ gE,zI,zR [] (by omega),bs,zZ (by rw[eu _ gE];exact hc),bs,zHS hz,zH]
    rw[e]
 obtain⟨t,h1,h2,h3,h4,h5⟩:=key (m-d) (Jd _);rw[show m-(m-d)=d from by omega]at h1 h3 h4
 grind
section
variable {p:Int} (hp:Prime p) {n m:Nat}{M:Mx}{d c t:Nat}
 include hp
theorem zNN{F:Nat→List Int}{q:Int}{b:Bool}(hd:d<m)(hr:Row p n (F d))(hn:n≤1000000)(hq:0≤q∧q≤p-1){v:List Int}(hv:v.length=n){s:Mx×Int×Int}(hs:s.2.1=(d:Int)):
  zE (zMH p s (q,b) v) (mkR m F,0)=dS (mkR m fun i=>if i=d then mkv n fun j=>(at0 (F d) j*q)%p else F i):=by
 have h7:=hp.pos;have:=zP (body:=zMH p s (q,b) v) (r:=mkR m fun i=>if i=d then mkv n fun j=>(at0 (F d) j*q)%p else F i) (fun k=>(mkR m fun i=>if i=d then mkv n (fun j=>if j<k then(at0 (F d) j*q)%p else at0 (F d) j)else F i,(k:Int))) n (fun k hk=>by
  have a1:=hr.2 k hk;have a2:=zCt hp (k:=q) (by omega) a1;have a3:=Gv a1.1 hq.1;rw[Hd]at a2;unfold zMH;simp only
  rw[hv,yJ hk,zI,hs,zK3 hd];simp only[bs,if_true];rw[zZ (by grind[yB]),zT hk,if_neg (by omega)];simp only[bs];rw[zF (by omega) (by omega)];simp only[bs,yL];rw[if_neg (by omega)];simp only[bs];rw[Kb a3,zF (by omega) (by omega)];simp only[bs,J8,cs];rw[zGO]
  congr 3
  refine kK fun i _=>?_
  by_cases hi:i=d
  ·rw[if_pos hi,if_pos hi,qT]
   grind
  grind) (by
  unfold zMH;simp only
  rw[hv,tH,zH]
  congr 2
  refine kK fun i _=>?_
  split
  ·exact yC (by omega)
  ·rfl)
 rw[show((0:Nat):Int)=0 from rfl]at this;rw[←this]
 congr 2
 refine kK fun i _=>?_
 split
 ·rename_i e;subst e
  conv=>lhs;rw[vO hr.1]
  rfl
 ·rfl
theorem zNO{F:Nat→List Int}(hd:d<m)(hc:c<n)(hr:∀i,i<m→Row p n (F i))(hn:n≤1000000)(hm:m≤1000000){r21:Mx}(hl:r21.length=m){s:Mx×Int×Int}(hs:s.2.1=(d:Int))(pj:s.2.2=(c:Int)):
  zE (zOw p s r21) (mkR m F,0)=dS (mkR m fun i=>if i=d then F d else wQ p n (F i) (0-at0 (F i) c) (F d)):=by
 have h7:=hp.pos;have:=zP (body:=zOw p s r21) (r:=mkR m fun i=>if i=d then F d else wQ p n (F i) (0-at0 (F i) c) (F d)) (fun k=>(mkR m fun i=>if i<k∧i≠d then wQ p n (F i) (0-at0 (F i) c) (F d)else F i,(k:Int))) m (fun k hk=>by
  have a1:=(hr k hk).2 c hc;unfold zOw;simp only
  rw[hl,yJ hk,zI,hs,pj]
  by_cases pC:k=d
  ·subst pC
   rw[sU rfl,zH,zF (by omega) (by omega),bs,cs]
   grind
  ·rw[tI (by omega),zI,zK3 hk,zK3 hd]
   simp only[bs,ne_eq,not_true_eq_false,and_false,if_false,Ja4,false_and];rw[zZ (by rw[(hr k hk).1];exact hc)];simp only[bs];rw[zF (by omega) (by omega)];simp only[bs];rw[zAM hp (hr k hk) (hr d hd) (by omega) hn,bs,zF (by omega) (by omega)];simp only[bs,J8,cs];rw[zGO]
   grind) (by
  unfold zOw;simp only
  rw[hl,tH,zH]
  congr 2
  refine kK fun i hi=>?_
  grind)
 grind
end
end Go.Pl
