/- x -/
import Derived.Test.YtchnmobojdcikaaGreatCAbB
import Derived.Test.YtchnmobojdcikaaGreatCWF
open List renaming replicate→J1,getD_eq_getElem?_getD→J2,getElem?_eq_getElem→J5,append_nil→J9,length_append→Ja,getElem?_append_right→Jb,replicate_append_replicate→Jd,getElem?_eq_some_iff→Je,append_assoc→Jh,range→Ji,mem_map→Jj,map_cons→Jl,take_of_length_le→Jm,getElem?_map→Jn,length_map→Jo,mem_cons→Jp,take_succ_eq_append_getElem→Js,mem_iff_getElem→Jt,nil_append→Ju,replicate_succ→Jv,mem_append→Jw,length_cons→K2,getElem_mem→K3,getElem?_append_left→K5,getElem?_replicate→K7,length_replicate→K8,cons_append→K9,getElem?_append→Kf,ext_getElem?→Kk,length_take→Kn,take_zero→Ko,range_succ→Kv,take_succ_cons→Ky,length_drop→Lb,mem_range→Lf,getElem?_drop→Lh,set_cons_zero→Ll,map_append→Lp,replicate_zero→Lu,replicate_succ'→Lv,singleton_append→H4,length_singleton→H7,length_range→Hj,getD_cons_zero→Hk,drop_zero→Hw,foldl_append→G3,drop_eq_getElem_cons→G8,drop_of_length_le→Ga,map_congr_left→Gv,all_cons→Gy,range'→U0,mem_flatMap→U1,map_nil→U2,length_nil→U5,flatten_cons→U8,map_map→Ud,flatMap_append→Ue,getElem?_cons_zero→Uh,suffix_cons_iff→Us,eq_of_mem_replicate→Uv,findSome?_cons→Uz,range_succ_eq_map→Q5,set_append_right→Qh,getElem?_set→Qx,range_eq_range'→Ja0,mem_flatten→Ja1,length→Ja2,getElem?_cons_succ→Ja6,range'_succ→Jao
open Bool renaming and_eq_true→J3,not_true→J7,not_false→Kc
open Int renaming toNat_natCast→J6,mul_emod→Jk,emod_emod→Jr,add_emod→Jx,emod_eq_of_lt→Jz,emod_lt_of_pos→Kh,tmod_eq_emod_of_nonneg→Kq,zero_add→Kw,emod_nonneg→Kz,mul_le_mul→L9,mul_assoc→Lo,mul_one→Lq,add_zero→Lw,mul_zero→H3,mul_le_mul_of_nonneg_left→H8,one_mul→Hc,mul_nonneg→Hl,add_mul_emod_self_left→Hm,mul_comm→Hx,toNat_zero→Hy,tdiv_eq_ediv_of_nonneg→Hz,zero_mul→Ge,emod_add_emod→Ua,add_emod_right→Ui,tmod_add_mul_tdiv→Ux,lt_tmod_of_pos→Qi,tmod→Qy,tmod_lt_of_pos→Ja3
open Nat renaming zero_add→J8,le_refl→Jf,lt_or_ge→Jg,zero_le→Kb,sub_self→Kl,min_eq_left→H6,le_trans→Hf,sub_zero→Gw,lt_trichotomy→Ql,add_zero→Qm,zero_sub→Ja5,lt_irrefl→Jas
open Option renaming map_eq_some_iff→Ke,some→Km,map_some→He,getD_some→G5
open Option renaming some→iz,none→iA
open Bool renaming true→iB,false→iC
namespace Go.Pc
abbrev Vec:=List Int
structure Lvl where
 o:Int
 w:Vec
 cs:List Vec
abbrev Pcp:=List Lvl
def zeros(n:Nat):Vec:=J1 n 0
def iter{α:Type}:Nat→(α→α)→α→α
 |0,_,x=>x
 |n+1,f,x=>iter n f (f x)
theorem vO{α:Type}(f:α→α):∀(n:Nat)(x:α),iter (n+1) f x=f (iter n f x)
 |0,_=>rfl
 |n+1,x=>by rw[iter,vO f n (f x)];rfl
theorem zES{α:Type}(f:α→α)(a:Nat):∀(b:Nat)(x:α),iter (a+b) f x=iter a f (iter b f x)
 |0,_=>rfl
 |b+1,x=>by show iter (a+b) f (f x)=_;rw[zES f a b (f x)];rfl
def img{α:Type}(m:α→α→α):List α→Vec→α→α
 |c::cs,x::xs,acc=>img m cs xs (iter x.toNat (fun v=>m v c) acc)
 |_,_,acc=>acc
def V:Pcp→Vec→Prop
 | [],v=>v=[]
 |l::P,v=>match v with
  | []=>False
  |a::x=>(0≤a∧a<l.o)∧V P x
def mul:Pcp→Vec→Vec→Vec
 |l::P,a::x,b::y=>
  let r:=mul P (iter b.toNat (fun v=>img (mul P) l.cs v (zeros P.length)) x) y
  if a+b≥l.o then(a+b-l.o)::mul P l.w r else(a+b)::r
 |_,_,_=>[]
def Ok:Pcp→Prop
 | []=>True
 |l::P=>1<l.o∧V P l.w∧l.cs.length=P.length∧(∀c∈l.cs,V P c)∧Ok P
structure Mon {α:Type} (S:α→Prop) (m:α→α→α) (e:α):Prop where
 cl:∀{a b},S a→S b→S (m a b)
 ein:S e
 assoc:∀{a b c},S a→S b→S c→m (m a b) c=m a (m b c)
 onel:∀{a},S a→m e a=a
 oner:∀{a},S a→m a e=a
structure Grp {α:Type} (S:α→Prop) (m:α→α→α) (e:α):Prop extends Mon S m e where
 inv:∀{a},S a→ ∃b,S b∧m a b=e
theorem Grp.invl{α:Type}{S:α→Prop}{m:α→α→α}{e:α}(h:Grp S m e){a:α}(ha:S a):∃b,S b∧m a b=e∧m b a=e:=by
 obtain⟨b,hb,h1⟩:=h.inv ha;obtain⟨c,hc,h2⟩:=h.inv hb;refine⟨b,hb,h1,?_⟩;have:a=c:=by rw[←h.oner ha,←h2,←h.assoc ha hb hc,h1,h.onel hc]
 grind
theorem Grp.cancel_l{α:Type}{S:α→Prop}{m:α→α→α}{e:α}(h:Grp S m e){a b c:α}(ha:S a)(hb:S b)(hc:S c)(hh:m a b=m a c):b=c:=by obtain⟨d,hd,_,h2⟩:=h.invl ha;rw[←h.onel hb,←h.onel hc,←h2,h.assoc hd ha hb,h.assoc hd ha hc,hh]
section
variable {α:Type}{S:α→Prop}{m:α→α→α}{e:α}
def pw(m:α→α→α)(e:α)(x:α)(k:Nat):α:=iter k (fun v=>m v x) e
theorem tM(h:Mon S m e){x:α}(hx:S x):∀k,S (pw m e x k)
 |0=>h.ein
 |k+1=>by rw[pw,vO];exact h.cl (tM h hx k) hx
theorem vP{f:α→α}(hf:∀a,S a→S (f a)):∀(k:Nat){x:α},S x→S (iter k f x)
 |0,_,hx=>hx
 |k+1,_,hx=>vP hf k (hf _ hx)
theorem zET(h:Mon S m e){x a:α}(hx:S x)(ha:S a):∀k,iter k (fun v=>m v x) a=m a (pw m e x k)
 |0=>(h.oner ha).symm
 |k+1=>by rw[vO,zET h hx ha k];show _=m a (iter (k+1) (fun v=>m v x) e);rw[vO];exact h.assoc ha (tM h hx k) hx
theorem zHE(h:Mon S m e){x:α}(hx:S x)(a b:Nat):pw m e x (a+b)=m (pw m e x a) (pw m e x b):=by rw[Nat.add_comm,pw,zES,←zET h hx (tM h hx a) b];rfl
theorem zSj(h:Mon S m e){x:α}(hx:S x):pw m e x 1=x:=h.onel hx
theorem zSk(h:Mon S m e){x:α}(hx:S x)(k:Nat):pw m e x (k+1)=m x (pw m e x k):=by rw[Nat.add_comm,zHE h hx 1 k,zSj h hx]
theorem jZ(h:∀{a b},S a→S b→S (m a b)):∀(cs:List α)(x:Vec){a:α},(∀c∈cs,S c)→S a→S (img m cs x a)
 |c::cs,x::xs,_,hc,ha=>by simp only[img];exact jZ h cs xs (by grind) (vP (by simp_all) _ ha)
 | [],_,_,_,ha=>by grind[img]
 |_::_,[],_,_,ha=>by grind[img]
theorem zFJ(h:Mon S m e)(cs:List α)(x:Vec){a:α}(hc:∀c∈cs,S c)(ha:S a):S (img m cs x a):=jZ h.cl cs x hc ha
theorem zEU(h:Mon S m e):∀(cs:List α)(x:Vec){a:α},(∀c∈cs,S c)→S a→img m cs x a=m a (img m cs x e)
 |c::cs,x::xs,a,hc,ha=>by
  have h1:S c:=hc c (by simp);have h2:∀c∈cs,S c:=by grind
  simp only[img];rw[zET h h1 ha,zEU h cs xs h2 (h.cl ha (tM h h1 _)),zET h h1 h.ein,zEU h cs xs h2 (h.cl h.ein (tM h h1 _)),h.onel (tM h h1 _),
   h.assoc ha (tM h h1 _) (zFJ h cs xs h2 h.ein)]
 | [],_,a,_,ha=>by simp[img,h.oner ha]
 |_::_,[],a,_,ha=>by simp[img,h.oner ha]
theorem qI(h:Mon S m e){c:α}{cs:List α}{x:Int}{xs:Vec}(hc:S c)(gR:∀c∈cs,S c):img m (c::cs) (x::xs) e=m (pw m e c x.toNat) (img m cs xs e):=by simp only[img];rw[zEU h cs xs gR (vP (fun a ha=>h.cl ha hc) _ h.ein)];rfl
theorem sQ(m:α→α→α):∀(cs:List α)(n:Nat)(a:α),img m cs (zeros n) a=a
 | [],_,_=>by simp[img]
 |_::_,0,_=>by rfl
 |c::cs,n+1,a=>by simp only[zeros,Jv,img,Hy,iter];exact sQ m cs n a
theorem zHF(h:Mon S m e){g:α}(hg:S g):∀(cs ds:List α)(x:Vec),(∀c∈cs,S c)→(∀c∈ds,S c)→cs.length=ds.length→(∀(k:Nat) c d,cs[k]? =iz c→ds[k]? =iz d→m c g=m g d)→m (img m cs x e) g=m g (img m ds x e)
 | [],[],x,_,_,_,_=>by simp[img,h.onel hg,h.oner hg]
 |c::cs,d::ds,[],_,_,_,_=>by simp[img,h.onel hg,h.oner hg]
 |c::cs,d::ds,x::xs,hc,hd,hl,hp=>by
  have eT:S c:=hc c (by simp);have hd0:S d:=hd d (by simp);have gR:∀c∈cs,S c:=by grind
  have py:∀c∈ds,S c:=by grind
  have key:∀k,m (pw m e c k) g=m g (pw m e d k):=by
   intro k
   induction k with
   |zero=>simp[pw,iter,h.onel hg,h.oner hg]
   |succ k ih=>
    have h0:m c g=m g d:=hp 0 c d rfl rfl;rw[pw,vO,pw,vO];show m (m (pw m e c k) c) g=m g (m (pw m e d k) d);rw[h.assoc (tM h eT k) eT hg,h0,←h.assoc (tM h eT k) hg hd0,ih,h.assoc hg (tM h hd0 k) hd0]
  rw[qI h eT gR,qI h hd0 py,h.assoc (tM h eT _) (zFJ h _ _ gR h.ein) hg,zHF h hg cs ds xs gR py (by grind) (fun k c d h1 h2=>hp (k+1) c d (by grind) (by grind)),
   ←h.assoc (tM h eT _) hg (zFJ h _ _ py h.ein),key,h.assoc hg (tM h hd0 _) (zFJ h _ _ py h.ein)]
theorem zPg{β:Type}{T:β→Prop}{n:β→β→β}{f:β}(h:Mon S m e)(h':Mon T n f)(φ:α→β)(gU:∀a,S a→T (φ a))(h1:φ e=f)(hm:∀a b,S a→S b→φ (m a b)=n (φ a) (φ b)):∀(cs:List α)(x:Vec),(∀c∈cs,S c)→φ (img m cs x e)=img n (cs.map φ) x f
 | [],_,_=>by simp[img,h1]
 |c::cs,[],_=>by simp[img,h1]
 |c::cs,x::xs,hc=>by
  have eT:S c:=hc c (by simp);have gR:∀c∈cs,S c:=by grind
  have key:∀k,φ (pw m e c k)=pw n f (φ c) k:=by
   intro k
   induction k with
   |zero=>grind[pw,iter]
   |succ k ih=>
    grind[pw,vO,tM]
  rw[qI h eT gR,Jl,qI h' (gU c eT) (by simp_all),hm _ _ (tM h eT _) (zFJ h _ _ gR h.ein),key,zPg h h' φ gU h1 hm cs xs gR]
end
theorem wJ:∀{P:Pcp},Ok P→V P (zeros P.length)
 | [],_=>rfl
 |l::P,h=>by simp only[Ok]at h;simp only[K2,zeros,Jv,V];exact⟨by omega,wJ h.2.2.2.2⟩
theorem yY:∀{P:Pcp},Ok P→ ∀{x y:Vec},V P x→V P y→V P (mul P x y)
 | [],_,_,_,hx,hy=>by rfl
 |l::P,h,[],_,hx,_=>by grind[V]
 |l::P,h,_::_,[],_,hy=>by grind[V]
 |l::P,h,a::x,b::y,hx,hy=>by
  simp only[Ok]at h;simp only[V]at hx hy;have h1:∀v,V P v→V P (img (mul P) l.cs v (zeros P.length)):=fun v hv=>jZ (yY h.2.2.2.2) l.cs v h.2.2.2.1 (wJ h.2.2.2.2)
  have h2:=yY h.2.2.2.2 (vP h1 b.toNat hx.2) hy.2;simp only[mul];split
  ·exact⟨by omega,yY h.2.2.2.2 h.2.1 h2⟩
  ·exact⟨by omega,h2⟩
def Rel{α:Type}(m:α→α→α)(e:α):Pcp→List α→Prop
 | [],s=>s=[]
 |l::P,s=>match s with
  | []=>False
  |g::s=>pw m e g l.o.toNat=img m s l.w e∧(∀(k:Nat) c d,s[k]? =iz c→l.cs[k]? =iz d→m c g=m g (img m s d e))∧Rel m e P s
section
variable {α:Type}{S:α→Prop}{m:α→α→α}{e:α}
theorem yBJ(h:Mon S m e):∀(P:Pcp)(s:List α),Ok P→(∀g∈s,S g)→Rel m e P s→ ∀x y,V P x→V P y→img m s (mul P x y) e=m (img m s x e) (img m s y e)
 | [],s,_,_,hr,x,y,hx,hy=>by simp only[Rel]at hr;subst hr;simp[img,h.onel h.ein]
 |l::P,[],_,_,hr,_,_,_,_=>by grind[Rel]
 |l::P,g::s,_,_,_,[],_,hx,_=>by grind[V]
 |l::P,g::s,_,_,_,_::_,[],_,hy=>by grind[V]
 |l::P,g::s,hk,hs,hr,a::x,b::y,hx,hy=>by
  simp only[Ok]at hk;simp only[Rel]at hr;simp only[V]at hx hy;obtain⟨ho,hw,gD,gR,aK⟩:=hk;obtain⟨gK,gE,ex⟩:=hr;have hg:S g:=hs g (by simp);have pM:∀c∈s,S c:=by grind
  have gm:s.length=P.length:=by
   clear gK gE hx hy hw gD gR hs pM
   induction P generalizing s with
   |nil=>grind[Rel]
   |cons l P ih=>
    cases s with
    |nil=>grind[Rel]
    |cons c s=>grind[Rel,Ok]
  have ih:=yBJ h P s aK pM ex;have hφ:∀v,S (img m s v e):=fun v=>zFJ h s v pM h.ein
  have hmP:∀{a b},V P a→V P b→V P (mul P a b):=yY aK;have bw:∀v,V P v→V P (img (mul P) l.cs v (zeros P.length)):=fun v hv=>jZ hmP l.cs v gR (wJ aK)
  have hσ:∀v,V P v→m (img m s v e) g=m g (img m s (img (mul P) l.cs v (zeros P.length)) e):=by
   intro v hv;have key:∀(cs:List Vec)(v:Vec)(acc:Vec),(∀c∈cs,V P c)→V P acc→img m s (img (mul P) cs v acc) e=img m (cs.map fun c=>img m s c e) v (img m s acc e):=by
    intro cs
    induction cs with
    |nil=>grind[img]
    |cons c cs ihc=>
     intro v acc hc hacc;cases v with
     |nil=>simp[img]
     |cons z v=>
      have eT:V P c:=hc c (by simp);have it:∀k acc,V P acc→img m s (iter k (fun v=>mul P v c) acc) e=iter k (fun v=>m v (img m s c e)) (img m s acc e):=by
       intro k
       induction k with
       |zero=>intro acc _;rfl
       |succ k ihk=>
        simp_all[iter]
      simp only[img,Jl];rw[ihc v _ (by simp_all) (vP (by grind) _ hacc),it _ _ hacc]
   rw[key l.cs v (zeros P.length) gR (wJ aK),sQ];refine zHF h hg s _ v pM (by simp_all) (by grind) ?_;intro k c d hc hd;simp only[Jn,Ke]at hd;obtain⟨d',pW,rfl⟩:=hd
   grind
  have hσk:∀k v,V P v→m (img m s v e) (pw m e g k)=m (pw m e g k) (img m s (iter k (fun v=>img (mul P) l.cs v (zeros P.length)) v) e):=by
   intro k
   induction k with
   |zero=>intro v _;simp[pw,iter,h.onel (hφ v),h.oner (hφ v)]
   |succ k ihk=>
    intro v hv;rw[zSk h hg,←h.assoc (hφ v) hg (tM h hg k),hσ v hv,h.assoc hg (hφ _) (tM h hg k),ihk _ (bw v hv),←h.assoc hg (tM h hg k) (hφ _)];rfl
  have fg:=tM h hg a.toNat;have bf:=tM h hg b.toNat;have ez:V P (iter b.toNat (fun v=>img (mul P) l.cs v (zeros P.length)) x):=vP bw _ hx.2;have tm:m (img m (g::s) (a::x) e) (img m (g::s) (b::y) e)=m (pw m e g (a.toNat+b.toNat)) (img m s (mul P (iter b.toNat (fun v=>img (mul P) l.cs v (zeros P.length)) x) y) e):=by rw[qI h hg pM,qI h hg pM,h.assoc fg (hφ x) (h.cl bf (hφ y)),←h.assoc (hφ x) bf (hφ y),hσk _ _ hx.2,h.assoc bf (hφ _) (hφ y),←ih _ _ ez hy.2,←h.assoc fg bf (hφ _),zHE h hg]
  rw[tm];simp only[mul];split
  ·rename_i hge
   rw[qI h hg pM,ih _ _ hw (hmP ez hy.2),←gK,←h.assoc (tM h hg _) (tM h hg _) (hφ _),←zHE h hg]
   congr 2
   omega
  ·rw[qI h hg pM]
   congr 2
   omega
end
def xD(n j:Nat):Vec:=(zeros n).set j 1
def sig(P:Pcp)(l:Lvl)(v:Vec):Vec:=img (mul P) l.cs v (zeros P.length)
def wH:Pcp→Prop
 | []=>True
 |l::P=>wH P∧Rel (mul P) (zeros P.length) P l.cs∧sig P l l.w=l.w∧ ∀j,j<P.length→mul P l.w (iter l.o.toNat (sig P l) (xD P.length j))=mul P (xD P.length j) l.w
theorem zDC(n:Nat):xD (n+1) 0=1::zeros n:=rfl
theorem zFK(n j:Nat):xD (n+1) (j+1)=0::xD n j:=rfl
def xT(n:Nat):List Vec:=(Ji n).map (xD n)
theorem zNh(n:Nat):xT (n+1)=(1::zeros n)::(xT n).map (0::·):=by
 simp only[xT,Q5,Jl,Ud,zDC]
 congr 1
theorem zDb:∀{P:Pcp},Ok P→ ∀{j:Nat},j<P.length→V P (xD P.length j)
 | [],_,_,hj=>by simp at hj
 |l::P,h,0,_=>by grind[Ok,zDC,V,wJ]
 |l::P,h,j+1,hj=>by simp only[Ok]at h;rw[K2,zFK];simp only[V];exact⟨by omega,zDb h.2.2.2.2 (by grind)⟩
theorem zDc{l:Lvl}{P:Pcp}(h:Ok (l::P)){v:Vec}(_hv:V P v):V P (sig P l v):=by simp only[Ok]at h;exact jZ (yY h.2.2.2.2) l.cs v h.2.2.2.1 (wJ h.2.2.2.2)
theorem yQ(l:Lvl)(P:Pcp)(a b:Int)(x y:Vec):mul (l::P) (a::x) (b::y)=if a+b≥l.o then(a+b-l.o)::mul P l.w (mul P (iter b.toNat (sig P l) x) y)else(a+b)::mul P (iter b.toNat (sig P l) x) y:=rfl
theorem zQf{n k:Nat}{c:Vec}(h:(xT n)[k]? =iz c):k<n∧c=xD n k:=by
 simp only[xT,Jn,Ke]at h
 grind
theorem normal:∀(P:Pcp),Ok P→(∀Q,Q<:+P→Mon (V Q) (mul Q) (zeros Q.length))→ ∀x,V P x→img (mul P) (xT P.length) x (zeros P.length)=x
 | [],_,_,x,hx=>by grind[V,img,zeros]
 |l::P,_,_,[],hx=>by grind[V]
 |l::P,h,hM,a::x,hx=>by
  have hMl:=hM (l::P) (List.suffix_refl _);have hMP:=hM P (by simp);have h':=h;simp only[Ok]at h;simp only[V]at hx;rw[K2,zNh];have hz:V P (zeros P.length):=wJ h.2.2.2.2;have aE:V (l::P) (1::zeros P.length):=by grind[V]
  have ft:∀c∈(xT P.length).map (0::·),V (l::P) c:=by
   intro c hc;simp only[xT,Ud,Jj,Lf]at hc;obtain⟨j,hj,rfl⟩:=hc;simp only[Function.comp,V]
   grind[zDb]
  have pF:V (l::P) (zeros (P.length+1)):=by grind[wJ]
  rw[show zeros (P.length+1)=zeros (l::P).length from rfl];rw[qI hMl aE ft];have sz:∀k:Nat,iter k (sig P l) (zeros P.length)=zeros P.length:=by
   intro k
   induction k with
   |zero=>rfl
   |succ k ih=>grind[iter,sig,sQ]
  have h1:∀k:Nat,(k:Int)<l.o→pw (mul (l::P)) (zeros (l::P).length) (1::zeros P.length) k=(k:Int)::zeros P.length:=by
   intro k
   induction k with
   |zero=>intro _;rfl
   |succ k ih=>
    intro hk;rw[pw,vO];show mul (l::P) (pw (mul (l::P)) (zeros (l::P).length) (1::zeros P.length) k) (1::zeros P.length)=_;rw[ih (by omega),yQ,if_neg (by omega)];rw[sz,hMP.onel hz];rfl
  have h2:∀(cs:List Vec)(y acc:Vec),(∀c∈cs,V P c)→V P acc→img (mul (l::P)) (cs.map (0::·)) y (0::acc)=0::img (mul P) cs y acc:=by
   intro cs
   induction cs with
   |nil=>grind[img]
   |cons c cs ih=>
    intro y acc hc hacc;cases y with
    |nil=>simp[img]
    |cons z y=>
     have eT:V P c:=hc c (by simp);have it:∀(k:Nat)(acc:Vec),V P acc→iter k (fun v=>mul (l::P) v (0::c)) (0::acc)=0::iter k (fun v=>mul P v c) acc:=by
      intro k
      induction k with
      |zero=>intro _ _;rfl
      |succ k ihk=>
       intro acc hacc;simp only[iter];rw[yQ,if_neg (by omega)];exact ihk _ (yY h.2.2.2.2 hacc eT)
     simp only[Jl,img];rw[it _ _ hacc,ih _ _ (by grind) (vP (by grind[yY]) _ hacc)]
  have pj:∀c∈xT P.length,V P c:=by
   intro c hc;simp only[xT,Jj,Lf]at hc;obtain⟨j,hj,rfl⟩:=hc
   grind[zDb]
  rw[h1 a.toNat (by omega),show zeros (l::P).length=0::zeros P.length from rfl,h2 _ _ _ pj hz,normal P h.2.2.2.2 (by grind) x hx.2,yQ,if_neg (by omega)];simp only[Hy,iter];rw[hMP.onel hx.2]
  grind
theorem zDd:∀(P:Pcp),Ok P→wH P→Grp (V P) (mul P) (zeros P.length)
 | [],_,_=>by
  refine⟨⟨fun _ _=>rfl,rfl,fun _ _ _=>rfl,?_,?_⟩,fun ha=>⟨[],rfl,rfl⟩⟩<;>
  ·intro a ha
   simp only[V]at ha;subst ha;rfl
 |l::P,h,hc=>by
  have h':=h;simp only[Ok]at h;simp only[wH]at hc;obtain⟨ho,hw,gD,gR,hP⟩:=h;obtain⟨ib,ml,ae,aa⟩:=hc;have N:=zDd P hP ib;have hM:∀Q,Q<:+P→Mon (V Q) (mul Q) (zeros Q.length):=by
   intro Q hQ;obtain⟨t,ht⟩:=hQ;have:Ok Q∧wH Q:=by
    clear N hw gD gR ml ae aa h'
    induction t generalizing P with
    |nil=>grind
    |cons a t ih=>
     simp at ht;subst ht;simp only[Ok]at hP;simp only[wH]at ib
     grind
   have gH:SizeOf.sizeOf Q≤SizeOf.sizeOf P:=by
    rw[←ht]
    clear N hw gD gR ml ae aa h' hP ib ht this
    induction t with
    |nil=>simp
    |cons a t ih=>grind
   exact(zDd Q this.1 this.2).toMon
  have hz:V P (zeros P.length):=wJ hP;have σin:∀v,V P v→V P (sig P l v):=by grind[zDc]
  have σhom:∀x y,V P x→V P y→sig P l (mul P x y)=mul P (sig P l x) (sig P l y):=fun x y hx hy=>yBJ N.toMon P l.cs hP gR ml x y hx hy
  have σz:sig P l (zeros P.length)=zeros P.length:=sQ _ _ _ _;have itin:∀(k:Nat) v,V P v→V P (iter k (sig P l) v):=fun k v hv=>vP σin k hv
  have ithom:∀(k:Nat) x y,V P x→V P y→iter k (sig P l) (mul P x y)=mul P (iter k (sig P l) x) (iter k (sig P l) y):=by
   intro k
   induction k with
   |zero=>intro _ _ _ _;rfl
   |succ k ih=>simp_all[iter]
  have itz:∀k:Nat,iter k (sig P l) (zeros P.length)=zeros P.length:=by
   intro k
   induction k with
   |zero=>rfl
   |succ k ih=>grind[iter]
  have itw:∀k:Nat,iter k (sig P l) l.w=l.w:=by
   intro k
   induction k with
   |zero=>rfl
   |succ k ih=>grind[iter]
  have pj:∀c∈xT P.length,V P c:=by
   intro c hc;simp only[xT,Jj,Lf]at hc;obtain⟨j,hj,rfl⟩:=hc
   grind[zDb]
  have inner:∀x,V P x→mul P x l.w=mul P l.w (iter l.o.toNat (sig P l) x):=by
   intro x hx;have hnf:=normal P hP hM x hx;have ms:=zPg N.toMon N.toMon (iter l.o.toNat (sig P l)) (by grind) (itz _) (by grind) (xT P.length) x pj;rw[←hnf,ms];refine zHF N.toMon hw _ _ x pj (by simp_all) (by simp) ?_;intro k c d hc hd;rw[Jn,Ke]at hd;obtain⟨c',pD,rfl⟩:=hd;rw[hc]at pD;simp at pD;subst pD;obtain⟨hk,rfl⟩:=zQf hc
   grind
  have e:∀(x y z:Vec)(b c:Int),V P x→V P y→V P z→0≤b→0≤c→
    mul P (iter c.toNat (sig P l) (mul P (iter b.toNat (sig P l) x) y)) z=mul P (iter (b+c).toNat (sig P l) x) (mul P (iter c.toNat (sig P l) y) z)∧
    mul P (iter c.toNat (sig P l) (mul P l.w (mul P (iter b.toNat (sig P l) x) y))) z=mul P l.w (mul P (iter (b+c).toNat (sig P l) x) (mul P (iter c.toNat (sig P l) y) z))∧
    (l.o≤b+c→mul P (iter (b+c-l.o).toNat (sig P l) x) (mul P l.w (mul P (iter c.toNat (sig P l) y) z))=mul P l.w (mul P (iter (b+c).toNat (sig P l) x) (mul P (iter c.toNat (sig P l) y) z))):=by
   intro x y z b c hx hy hz hb hcc;have ic:=itin b.toNat x hx;have hcy:=itin c.toNat y hy;have hbc:iter c.toNat (sig P l) (iter b.toNat (sig P l) x)=iter (b+c).toNat (sig P l) x:=by rw[←zES];congr 1;omega
   have ii:=itin (b+c).toNat x hx;have e1:mul P (iter c.toNat (sig P l) (mul P (iter b.toNat (sig P l) x) y)) z=mul P (iter (b+c).toNat (sig P l) x) (mul P (iter c.toNat (sig P l) y) z):=by rw[ithom _ _ _ ic hy,hbc,N.assoc ii hcy hz]
   refine⟨e1,?_,?_⟩
   ·rw[ithom _ _ _ hw (N.cl ic hy),itw,N.assoc hw (itin _ _ (N.cl ic hy)) hz,e1]
   ·intro hge
    have aj:=N.cl hcy hz;rw[←N.assoc (itin _ x hx) hw aj,inner _ (itin _ x hx),←zES,N.assoc hw (itin _ x hx) aj]
    congr 3
    omega
  refine⟨⟨by grind[yY],wJ h',?_,?_,?_⟩,?_⟩
  ·intro A B C hA hB hC
   match A,B,C,hA,hB,hC with
   |a::x,b::y,c::z,hA,hB,hC=>
    simp only[V]at hA hB hC;obtain⟨e1,e2,e3⟩:=e x y z b c hA.2 hB.2 hC.2 hB.1.1 hC.1.1
    by_cases c1:a+b≥l.o<;>by_cases c2:b+c≥l.o
    ·rw[yQ,if_pos c1,yQ l P b c,if_pos c2,yQ,yQ,e2,e3 c2]
     grind
    ·rw[yQ,if_pos c1,yQ l P b c,if_neg c2,yQ,yQ,e2,if_neg (by omega),if_pos (by omega)]
     grind
    ·rw[yQ,if_neg c1,yQ l P b c,if_pos c2,yQ,yQ,e1,e3 c2,if_pos (by omega),if_neg (by omega)]
     grind
    ·rw[yQ,if_neg c1,yQ l P b c,if_neg c2,yQ,yQ,e1]
     grind
  ·intro A hA
   match A,hA with
   |a::x,hA=>
    simp only[V]at hA;show mul (l::P) (0::zeros P.length) (a::x)=_;rw[yQ,if_neg (by omega),itz,N.onel hA.2,Kw]
  ·intro A hA
   match A,hA with
   |a::x,hA=>
    simp only[V]at hA;show mul (l::P) (a::x) (0::zeros P.length)=_;rw[yQ,if_neg (by omega)];simp only[Hy,iter];rw[N.oner hA.2,Lw]
  ·intro A hA
   match A,hA with
   |a::x,hA=>
    simp only[V]at hA
    by_cases ha:a=0
    ·obtain⟨y,hy,h1⟩:=N.inv hA.2
     refine⟨0::y,by simp only[V];grind,?_⟩;rw[yQ,if_neg (by omega)];simp only[Hy,iter];rw[h1,ha];rfl
    ·have bA:=itin (l.o-a).toNat x hA.2
     obtain⟨y,hy,h1⟩:=N.inv (N.cl hw bA);refine⟨(l.o-a)::y,by simp only[V];grind,?_⟩;rw[yQ,if_pos (by omega),←N.assoc hw bA hy,h1,show a+(l.o-a)-l.o=0 by omega];rfl
termination_by P=>P
end Go.Pc

namespace Go.Pc
end Go.Pc

namespace Go.Pc
end Go.Pc

namespace Go.Pc
end Go.Pc

namespace Go.Pc
end Go.Pc

namespace Go.Pc
end Go.Pc

namespace Go.Pc
end Go.Pc

namespace Go.Pc
section
variable {A:Type}
end
end Go.Pc

namespace Go.Pc
end Go.Pc

namespace Go.Pc
end Go.Pc

namespace Go.Pc
end Go.Pc

namespace Go.Pl
open Go Go.Ab
theorem bs{α β:Type}(x:α)(f:α→Option β):(iz x).bind f=f x:=by simp only[Option.bind_some]
theorem zK{α:Type}(x y:α):cond iB x y=x:=by simp only[cond_true]
theorem zL{α:Type}(x y:α):cond iC x y=y:=by simp only[cond_false]
theorem zI{n:Int}(h1:-9223372036854775808≤n)(h2:n≤9223372036854775807):rng n=iz n:=by unfold rng;rw[if_pos];simp only[inR,J3,decide_eq_true_eq];omega
theorem vY{α:Type}(xs:List α)(i:Nat):ixO xs (i:Int)=xs[i]?:=by unfold ixO;rw[if_pos (by omega)];simp
theorem zAW{α:Type}{xs:List α}{i:Nat}(h:i<xs.length):ixO xs (i:Int)=iz xs[i]:=by rw[vY];exact J5 h
theorem yX{n:Nat}(h:n≤68719476736):yB (n:Int)=iz n:=by unfold yB;rw[if_pos (by omega)];simp
theorem zY{α:Type}{xs ys:List α}(h:xs.length+ys.length≤68719476736):yG xs ys=iz (xs++ys):=by unfold yG;rw[if_pos h]
theorem zQ{σ ρ:Type}{body:σ→Option (σ⊕ρ)}{r:ρ}(S:Nat→σ)(n:Nat)(h:∀i,i<n→body (S i)=iz (.inl (S (i+1))))(he:body (S n)=iz (.inr r)):zG body (S 0)=iz r:=by
 have key:∀k i,i+k=n→zG body (S i)=iz r:=by
  intro k
  induction k with
  |zero=>intro i hi;rw[yV,show i=n from by omega,he]
  |succ k ih=>intro i hi;rw[yV,h i (by omega)];exact ih (i+1) (by omega)
 exact key n 0 (by omega)
theorem uL{σ ρ:Type}{body:σ→Option (σ⊕ρ)}{Q:ρ→Prop}(I:Nat→σ→Prop)(n:Nat)(h:∀i s,i<n→I i s→(∃s',body s=iz (.inl s')∧I (i+1) s')∨ ∃r,body s=iz (.inr r)∧Q r)
  (he:∀s,I n s→ ∃r,body s=iz (.inr r)∧Q r){s:σ}(h0:I 0 s):∃r,zG body s=iz r∧Q r:=by
 have key:∀k i s,i+k=n→I i s→ ∃r,zG body s=iz r∧Q r:=by
  intro k
  induction k with
  |zero=>
   intro i s hi hs;obtain rfl:i=n:=by omega
   obtain⟨r,h1,h2⟩:=he s hs;exact⟨r,by rw[yV,h1],h2⟩
  |succ k ih=>
   intro i s hi hs;rcases h i s (by omega) hs with⟨s',h1,h2⟩|⟨r,h1,h2⟩
   ·rw[yV,h1];exact ih (i+1) s' (by omega) h2
   ·exact⟨r,by rw[yV,h1],h2⟩
 exact key n 0 s (by omega) h0
def zPh{ρ:Type}:Option ρ→Unit⊕ρ
 |none=>.inl ()
 |some r=>.inr r
theorem cs(i:Nat):(i:Int)+1=((i+1:Nat):Int):=by omega
theorem zQg{ρ:Type}{body:Int→Option (Int⊕(Unit⊕ρ))}(n:Nat)(t:Nat→Option ρ)(i0:Nat)(hn:i0≤n)
  (h:∀i,i0≤i→i<n→(∀j,i0≤j→j<i→t j=iA)→body (i:Int)=iz (match t i with|none=>.inl ((i+1:Nat):Int)|some r=>.inr (.inr r)))
  (he:(∀j,i0≤j→j<n→t j=iA)→body (n:Int)=iz (.inr (.inl ()))):
  zG body (i0:Int)=iz (zPh ((U0 i0 (n-i0)).findSome? t)):=by
 have key:∀k i,i0≤i→i+k=n→(∀j,i0≤j→j<i→t j=iA)→zG body (i:Int)=iz (zPh ((U0 i k).findSome? t)):=by
  intro k
  induction k with
  |zero=>
   intro i hi hk hp;obtain rfl:i=n:=by omega
   rw[yV,he hp];rfl
  |succ k ih=>
   intro i hi hk hp;rw[yV,h i hi (by omega) hp,Jao,Uz];cases ht:t i with
   |some r=>rfl
   |none=>
    simp only
    exact ih (i+1) (by omega) (by omega) fun j h1 h2=>by
     rcases Jg j i with h3|h3
     ·exact hp j h1 h3
     ·rw[show j=i from by omega];exact ht
 exact key (n-i0) i0 (Jf _) (by omega) fun j h1 h2=>by omega
theorem zSl{n:Nat}{b:Nat→Bool}:zPh ((U0 0 n).findSome? (fun i=>if b i then iA else iz iC))=if(Ji n).all b then .inl ()else .inr iC:=by
 have key:∀l:List Nat,zPh (l.findSome? (fun i=>if b i then iA else iz iC))=if l.all b then .inl ()else .inr iC:=by
  intro l
  induction l with
  |nil=>rfl
  |cons x l ih=>
   rw[Uz,Gy];cases hb:b x
   ·rfl
   ·simpa using ih
 rw[key,Ja0]
theorem zQh{body:Int→Option (Int⊕(Unit⊕Bool))}(n:Nat)(b:Nat→Bool)
  (h:∀i,i<n→(∀j,j<i→b j=iB)→body (i:Int)=iz (if b i then .inl ((i+1:Nat):Int)else .inr (.inr iC)))
  (he:(∀j,j<n→b j=iB)→body (n:Int)=iz (.inr (.inl ()))):
  zG body 0=iz (if(Ji n).all b then .inl ()else .inr iC):=by
 have:=zQg (body:=body) n (fun i=>if b i then iA else iz iC) 0 (Kb _) (fun i _ hi hp=>by
  rw[h i hi fun j hj=>by
   have:=hp j (Kb _) hj;split at this
   ·assumption
   ·cases this]
  cases b i<;>rfl) (fun hp=>he fun j hj=>by
   have:=hp j (Kb _) hj;split at this
   ·assumption
   ·cases this)
 rw[Gw]at this;exact this.trans (congrArg iz (zSl (n:=n) (b:=b)))
theorem zVC{α:Type}[BEq α]{t:α→α→Option Bool}{body:Int→Option (Int⊕(Unit⊕Bool))}{x y:List α}
  (hb:∀i,body i=cond (decide (i<(x.length:Int))) ((ixO x i).bind fun v1=>(ixO y i).bind fun v2=>(t v1 v2).bind fun r3=>cond (!r3) (iz (.inr (.inr iC))) ((rng (i+1)).bind fun v4=>iz (.inl v4))) (iz (.inr (.inl ()))))
  (hl:x.length≤68719476736)(bz:x.length=y.length)(ht:∀u∈x,∀v∈y,t u v=iz (u==v)):zG body 0=iz (if x==y then .inl ()else .inr iC):=by
 have h:=zQh (body:=body) x.length (fun i=>match x[i]?,y[i]? with|some u,iz v=>u==v|_,_=>iB) (fun i hi _=>by
  have eh:i<y.length:=by omega
  rw[hb];simp only[iE (show((i:Int))<(x.length:Int)from by omega),zK];rw[zAW hi,zAW eh];simp only[bs,ht _ (K3 hi) _ (K3 eh),J5 hi,J5 eh];cases x[i]==y[i]
  ·rfl
  ·simp only[J7,zL,if_true]
   rw[zI (by omega) (by omega),cs];rfl) (fun _=>by
  rw[hb];simp only[iD (show¬((x.length:Int))<(x.length:Int)from by omega),zL])
 rw[h]
 congr 2
 have key:∀(x y:List α),x.length=y.length→((Ji x.length).all (fun i=>match x[i]?,y[i]? with|some u,iz v=>u==v|_,_=>iB))=(x==y):=by
  intro x
  induction x with
  |nil=>intro y hy;cases y with|nil=>rfl|cons _ _=>simp at hy
  |cons u x ih=>
   intro y hy;cases y with
   |nil=>simp at hy
   |cons v y=>
    rw[K2,Q5,Gy,List.all_map];simp only[Uh,Function.comp_def,Ja6];rw[ih y (by simpa using hy)];rfl
 rw[key x y bz]
theorem zPi{α:Type}[BEq α]{t:α→α→Option Bool}{f:Option Bool}{body:Int→Option (Int⊕(Unit⊕Bool))}{x y:List α}
  (hf:f=cond ((x.length:Int) != (y.length:Int)) (iz iC) ((zG body 0).bind fun r=>match r with|.inl _=>iz iB|.inr r=>iz r))
  (hb:∀i,body i=cond (decide (i<(x.length:Int))) ((ixO x i).bind fun v1=>(ixO y i).bind fun v2=>(t v1 v2).bind fun r3=>cond (!r3) (iz (.inr (.inr iC))) ((rng (i+1)).bind fun v4=>iz (.inl v4))) (iz (.inr (.inl ()))))
  (hl:x.length≤68719476736)(ht:∀u∈x,∀v∈y,t u v=iz (u==v)):f=iz (x==y):=by
 rw[hf]
 by_cases bz:x.length=y.length
 ·rw[zVC hb hl bz ht]
  have:((x.length:Int) != (y.length:Int))=iC:=by simp[bz]
  rw[this];cases x==y<;>rfl
 ·have:((x.length:Int) != (y.length:Int))=iB:=by simp;omega
  rw[this];have h2:(x==y)=iC:=by
   have key:∀(x y:List α),x.length≠y.length→(x==y)=iC:=by
    intro x
    induction x with
    |nil=>intro y hy;cases y with|nil=>simp at hy|cons _ _=>rfl
    |cons u x ih=>
     intro y hy;cases y with
     |nil=>rfl
     |cons v y=>
      show(u==v&&x==y)=iC;rw[ih y (by simpa using hy),Bool.and_false]
   exact key x y bz
  rw[h2];rfl
end Go.Pl

namespace Go.Pl
open Go Go.Ab
def sm{α:Type}(c:α→Nat):List α→Nat
 | []=>0
 |x::xs=>c x+sm c xs
end Go.Pl

namespace Go.Pl
open Go Go.Ab Go.Wk
abbrev VL{α:Type}(V:α→Prop)(xs:List α):Prop:=xs.length≤maxLen∧ ∀x∈xs,V x
abbrev c1(x:List Int):Nat:=x.length
abbrev c2(x:List (List Int)):Nat:=x.length+sm c1 x
abbrev c3(x:List (List (List Int))):Nat:=x.length+sm c2 x
abbrev S1(x:List Int):Prop:=c1 x≤1048576
abbrev S2(x:List (List Int)):Prop:=c2 x≤1048576
abbrev S3(x:List (List (List Int))):Prop:=c3 x≤1048576
theorem S3.len{x:List (List (List Int))}(h:S3 x):x.length≤1048576:=by grind
def zYb(x:SPr):Prop:=S1 x.zA∧S2 x.zJ∧S3 x.zB
def zZo(x:zC):Prop:=S3 x.zE
end Go.Pl

namespace Go.Pl
open Go Go.Ab Go.Wk
def IsB(o:Option Bool)(P:Prop):Prop:=(o=iz iB∧P)∨(o=iz iC∧ ¬P)
theorem IsB.iff{o:Option Bool}{P Q:Prop}(h:IsB o P)(hpq:P↔Q):IsB o Q:=by grind
theorem IsB.of_bool{b:Bool}{P:Prop}(h:b=iB↔P):IsB (iz b) P:=by
 cases b
 ·exact .inr (by grind)
 ·exact .inl ⟨rfl,h.1 rfl⟩
theorem chk{ρ:Type}{body:Int→Option (Int⊕(Unit⊕ρ))}(n i0:Nat)(hn:i0≤n)(P:Nat→Prop)(bad:Nat→ρ)
  (h:∀i,i0≤i→i<n→(∀j,i0≤j→j<i→P j)→(body (i:Int)=iz (.inl ((i+1:Nat):Int))∧P i)∨(body (i:Int)=iz (.inr (.inr (bad i)))∧ ¬P i))
  (he:body (n:Int)=iz (.inr (.inl ()))):
  (zG body (i0:Int)=iz (.inl ())∧ ∀j,i0≤j→j<n→P j)∨ ∃i,i0≤i∧i<n∧zG body (i0:Int)=iz (.inr (bad i))∧ ¬P i:=by
 have key:∀k i,i0≤i→i+k=n→(∀j,i0≤j→j<i→P j)→(zG body (i:Int)=iz (.inl ())∧ ∀j,i0≤j→j<n→P j)∨ ∃q,i0≤q∧q<n∧zG body (i:Int)=iz (.inr (bad q))∧ ¬P q:=by
  intro k
  induction k with
  |zero=>
   intro i hi hk hp;obtain rfl:i=n:=by omega
   grind[yV]
  |succ k ih=>
   intro i hi hk hp;rcases h i hi (by omega) hp with⟨h1,h2⟩|⟨h1,h2⟩
   ·have:=ih (i+1) (by omega) (by omega) (by grind)
    rw[yV,h1];exact this
   grind[yV]
 exact key (n-i0) i0 (Jf _) (by omega) fun j a b=>by omega
theorem sC{f:Option Bool}{body:Int→Option (Int⊕(Unit⊕Bool))}(n:Nat)(P:Nat→Prop)
  (hf:f=(zG body 0).bind fun r=>match r with|.inl _=>iz iB|.inr r=>iz r)
  (h:∀i,i<n→(∀j,j<i→P j)→(body (i:Int)=iz (.inl ((i+1:Nat):Int))∧P i)∨(body (i:Int)=iz (.inr (.inr iC))∧ ¬P i))
  (he:body (n:Int)=iz (.inr (.inl ()))):IsB f (∀i,i<n→P i):=by
 rcases chk n 0 (Kb _) P (fun _=>iC) (fun i _ hi hp=>h i hi fun j hj=>hp j (Kb _) hj) he with⟨h1,h2⟩|⟨i,_,hi,h1,h2⟩
 ·refine .inl ⟨?_,fun i hi=>h2 i (Kb _) hi⟩
  rw[hf];rw[show((0:Nat):Int)=0 from rfl]at h1;rw[h1,bs]
 ·refine .inr ⟨?_,fun hp=>h2 (hp i hi)⟩
  rw[hf];rw[show((0:Nat):Int)=0 from rfl]at h1;rw[h1,bs]
theorem vZ{o:Option Bool}{P:Prop}{ρ:Type}{bad:ρ}{i:Nat}{g:Option (Int⊕(Unit⊕ρ))}(h:IsB o P)(hi:i<9223372036854775807)
  (hg:g=o.bind fun r=>cond (!r) (iz (.inr (.inr bad))) ((rng ((i:Int)+1)).bind fun v=>iz (.inl v))):(g=iz (.inl ((i+1:Nat):Int))∧P)∨(g=iz (.inr (.inr bad))∧ ¬P):=by
 subst hg;rcases h with⟨h1,h2⟩|⟨h1,h2⟩
 ·refine .inl ⟨?_,h2⟩
  rw[h1,bs,J7,zL,zI (by omega) (by omega),bs,cs]
 grind
theorem yM{i n:Nat}(h:i<n):decide ((i:Int)<(n:Int))=iB:=by grind
theorem qD{n:Nat}:decide ((n:Int)<(n:Int))=iC:=by simp
theorem zA3(x a b:Int):IsB (zNW x a b) (a≤x∧x≤b):=by
 unfold zNW
 by_cases h:x≥a
 ·rw[iE h,zK];grind[IsB.of_bool]
 ·rw[iD h,zL];exact .inr ⟨rfl,by omega⟩
theorem zB6(x a b:Int):IsB (zIH x a b) (a≤x∧x≤b):=zA3 x a b
def Prime(p:Int):Prop:=p=2∨p=3∨p=5∨p=7
theorem zCv(x:Int):IsB (zQF x) (Prime x):=by
 unfold zQF Prime
 by_cases h2:x=2
 ·subst h2;exact .inl ⟨rfl,.inl rfl⟩
 ·rw[show(x==2)=iC from by grind,zL]
  by_cases h3:x=3
  ·subst h3;exact .inl (by simp)
  ·rw[show(x==3)=iC from by grind,zL]
   by_cases h5:x=5
   ·subst h5;exact .inl (by simp)
   ·rw[show(x==5)=iC from by grind,zL]
    grind[IsB.of_bool]
theorem zHG(x:Int):IsB (zNO x) (Prime x):=zCv x
abbrev at0(v:List Int)(i:Nat):Int:=v.getD i 0
theorem yH{v:List Int}{i:Nat}(h:i<v.length):ixO v (i:Int)=iz (at0 v i):=by rw[zAW h,at0,J2,J5 h];rfl
def yBK(os v:List Int):Prop:=v.length=os.length∧ ∀i,i<v.length→0≤at0 v i∧at0 v i≤at0 os i-1
def Exp(os v:List Int)(k:Nat):Prop:=yBK os v∧ ∀i,i≤k→at0 v i=0
def Os(os:List Int):Prop:=os.length≤14∧ ∀i,i<os.length→Prime (at0 os i)
theorem Prime.pos{p:Int}(h:Prime p):2≤p∧p≤7:=by unfold Prime at h;omega
theorem zFL{x:SPr}{v:List Int}(ho:Os x.zA):IsB (zWq x v) (yBK x.zA v):=by
 unfold zWq
 by_cases h:v.length=x.zA.length
 ·rw[show((v.length:Int) != (x.zA.length:Int))=iC from by simp[h],zL]
  have h6:=ho.1;refine(sC v.length (fun i=>0≤at0 v i∧at0 v i≤at0 x.zA i-1) rfl (fun i hi _=>?_) ?_).iff ⟨fun g=>⟨h,g⟩,fun g=>g.2⟩
  ·have hp:=(ho.2 i (by omega)).pos
   refine vZ (zA3 _ _ _) (by omega) ?_;unfold zPH;rw[yM hi,zK,yH hi,bs,yH (by omega),bs,zI (by omega) (by omega),bs]
  ·unfold zPH
   simp
 ·rw[show((v.length:Int) != (x.zA.length:Int))=iB from by simp;omega,zK]
  exact .inr ⟨rfl,fun g=>h g.1⟩
theorem zL0{v:List Int}(hl:v.length≤14):IsB (f_L v) (∀i,i<v.length→at0 v i=0):=by
 refine sC v.length (fun i=>at0 v i=0) rfl (fun i hi _=>?_) ?_
 ·refine vZ (o:=iz (at0 v i==0)) (IsB.of_bool (by simp)) (by omega) ?_
  unfold zMo;rw[yM hi,zK,yH hi,bs,bs];rfl
 ·unfold zMo
  simp
theorem zCG{x:SPr}{k:Nat}{v:List Int}(ho:Os x.zA)(hk:k<x.zA.length):IsB (zTC x k v) (Exp x.zA v k):=by
 have h6:=ho.1;unfold zTC;rcases zFL (v:=v) ho with⟨h1,h2⟩|⟨h1,h2⟩
 ·have hl:=h2.1
  rw[h1,bs,zK,zI (by omega) (by omega),bs];have hs:zO v 0 ((k:Int)+1)=iz (v.take (k+1)):=by
   unfold zO
   grind
  rw[hs,bs];have hb:=zL0 (v:=v.take (k+1)) (by grind);have cb:(∀i,i<(v.take (k+1)).length→at0 (v.take (k+1)) i=0)↔Exp x.zA v k:=by
   have e:∀i,i≤k→at0 (v.take (k+1)) i=at0 v i:=by grind
   rw[Kn,H6 (by omega)];exact⟨fun g=>⟨h2,by grind⟩,fun g i hi=>by rw[e i (by omega)];exact g.2 i (by omega)⟩
  grind
 ·rw[h1,bs,zL]
  exact .inr ⟨rfl,fun g=>h2 g.1⟩
theorem zDe{os v:List Int}{k:Nat}(ho:Os os)(hk:k<os.length):IsB (zNP os v k) (Exp os v k):=by
 have h6:=ho.1;unfold zNP
 by_cases h:v.length=os.length
 ·rw[show((v.length:Int) != (os.length:Int))=iC from by simp[h],zL]
  refine(sC v.length (fun i=>(0≤at0 v i∧at0 v i≤at0 os i-1)∧(i≤k→at0 v i=0)) rfl (fun i hi _=>?_) ?_).iff ⟨fun g=>⟨⟨h,by grind⟩,by grind⟩,fun g i hi=>⟨g.1.2 i hi,fun hk=>g.2 i hk⟩⟩
  ·have hp:=(ho.2 i (by omega)).pos
   unfold zMm;rw[yM hi,zK,yH hi,bs,yH (by omega),bs,zI (by omega) (by omega),bs];rcases zB6 (at0 v i) 0 (at0 os i-1)with⟨h1,h2⟩|⟨h1,h2⟩
   ·rw[h1,bs,J7,zL]
    by_cases h3:(i:Int)≤(k:Int)
    ·rw[iE h3,zK,bs]
     by_cases h4:at0 v i=0
     ·rw[show(at0 v i != 0)=iC from by grind,zL,zI (by omega) (by omega),bs,cs]
      grind
     grind
    ·rw[iD h3,zL,zI (by omega) (by omega),bs,cs]
     grind
   grind
  ·unfold zMm
   simp
 ·rw[show((v.length:Int) != (os.length:Int))=iB from by simp;omega,zK]
  exact .inr ⟨rfl,fun g=>h g.1.1⟩
end Go.Pl

namespace Go.Pl
open Go Go.Ab Go.Wk
theorem yCL{σ ρ:Type}{body:σ→Option (σ⊕(Unit⊕ρ))}(S:Nat→σ)(n i0:Nat)(hn:i0≤n)(P:Nat→Prop)(bad:Nat→ρ)
  (h:∀i,i0≤i→i<n→(∀j,i0≤j→j<i→P j)→(body (S i)=iz (.inl (S (i+1)))∧P i)∨(body (S i)=iz (.inr (.inr (bad i)))∧ ¬P i))
  (he:body (S n)=iz (.inr (.inl ()))):
  (zG body (S i0)=iz (.inl ())∧ ∀j,i0≤j→j<n→P j)∨ ∃i,i0≤i∧i<n∧zG body (S i0)=iz (.inr (bad i))∧ ¬P i:=by
 have key:∀k i,i0≤i→i+k=n→(∀j,i0≤j→j<i→P j)→(zG body (S i)=iz (.inl ())∧ ∀j,i0≤j→j<n→P j)∨ ∃q,i0≤q∧q<n∧zG body (S i)=iz (.inr (bad q))∧ ¬P q:=by
  intro k
  induction k with
  |zero=>
   intro i hi hk hp;obtain rfl:i=n:=by omega
   grind[yV]
  |succ k ih=>
   intro i hi hk hp;rcases h i hi (by omega) hp with⟨h1,h2⟩|⟨h1,h2⟩
   ·have:=ih (i+1) (by omega) (by omega) (by grind)
    rw[yV,h1];exact this
   grind[yV]
 exact key (n-i0) i0 (Jf _) (by omega) fun j a b=>by omega
theorem zAO{a b:Int}(h:a=b):(a != b)=iC:=by simp[h]
theorem zA4{a b:Int}(h:a≠b):(a != b)=iB:=by simp[h]
def pr(os:List Int):Nat→Int
 |0=>1
 |i+1=>pr os i*at0 os i
def cp(os:List Int):Nat→Int
 |0=>1
 |i+1=>if cp os i≤729 then cp os i*at0 os i else cp os i
theorem zHH{os:List Int}:∀{i:Nat},(∀j,j<i→Prime (at0 os j))→1≤pr os i
 |0,_=>by simp[pr]
 |i+1,h=>by have h1:=zHH (os:=os) (i:=i) (by grind);have h2:=(h i (by omega)).pos;simp only[pr];have:(1:Int)*1≤pr os i*at0 os i:=L9 h1 (by omega) (by omega) (by omega);omega
theorem zPj{os:List Int}{i:Nat}(h:∀j,j≤i→Prime (at0 os j)):pr os i≤pr os (i+1):=by have h1:=zHH (os:=os) (i:=i) (by grind);have h2:=(h i (Jf _)).pos;simp only[pr];have:pr os i*1≤pr os i*at0 os i:=H8 (by omega) (by omega);omega
theorem zPk{os:List Int}{n:Nat}(h:∀j,j<n→Prime (at0 os j)):∀k,k≤n→pr os (n-k)≤pr os n
 |0,_=>Int.le_refl _
 |k+1,hk=>by
  have h1:=zPk h k (by omega);have h2:=zPj (os:=os) (i:=n-(k+1)) (by grind)
  grind
theorem zSm{os:List Int}:∀{i:Nat},(∀j,j<i→Prime (at0 os j))→(cp os i=pr os i∧pr os i≤729∨729<cp os i∧cp os i≤5103∧729<pr os i)
 |0,_=>by simp[cp,pr]
 |i+1,h=>by
  have h0:∀j,j<i→Prime (at0 os j):=by grind
  have h2:=(h i (by omega)).pos;have h3:=zPj (os:=os) (i:=i) (by grind);have dM:=zHH h0;simp only[cp];rcases zSm h0 with⟨h1,h4⟩|⟨h1,h4,h5⟩
  ·rw[h1,if_pos h4]
   have h6:pr os i*at0 os i≤729*7:=L9 h4 h2.2 (by omega) (by omega);simp only[pr]at h3 ⊢
   grind
  omega
def zGs(x:SPr)(i:Nat):Prop:=Exp x.zA (x.zJ.getD i []) i∧(x.zB.getD i []).length+i+1=x.zA.length∧ ∀j,j<(x.zB.getD i []).length→Exp x.zA ((x.zB.getD i []).getD j []) i
structure zEd (x:SPr):Prop where
 os:True∧ ∀i,i<x.zA.length→Prime (at0 x.zA i)
 pl:x.zJ.length=x.zA.length
 cl:x.zB.length=x.zA.length
 tl:∀i,i<x.zA.length→zGs x i
structure Pres (x:SPr):Prop where
 os:Os x.zA
 pl:x.zJ.length=x.zA.length
 cl:x.zB.length=x.zA.length
 tl:∀i,i<x.zA.length→zGs x i
theorem Pres.w{x:SPr}(h:Pres x):zEd x:=⟨⟨trivial,h.os.2⟩,h.pl,h.cl,h.tl⟩
structure qJ (x:SPr):Prop extends Pres x where
 n6:x.zA.length≤6
 pr:pr x.zA x.zA.length≤729
theorem zX{α:Type}{v:List α}{i:Nat}(d:α)(h:i<v.length):ixO v (i:Int)=iz (v.getD i d):=by grind[zAW]
theorem zNi{x:SPr}(ho:Os x.zA)(hp:x.zJ.length=x.zA.length)(hc:x.zB.length=x.zA.length){i:Nat}(hi:i<x.zA.length):
  (zNY x i=iz (.inl ((i+1:Nat):Int))∧zGs x i)∨(zNY x i=iz (.inr (.inr iC))∧ ¬zGs x i):=by
 have h6:=ho.1;unfold zNY;rw[yM hi,zK,zX [] (by omega),bs];rcases zCG (v:=x.zJ.getD i []) ho hi with⟨h1,h2⟩|⟨h1,h2⟩
 ·rw[h1,bs,J7,zL,zX [] (by omega),bs,zI (by omega) (by omega),bs,zI (by omega) (by omega),bs]
  by_cases hl:(x.zB.getD i []).length+i+1=x.zA.length
  ·rw[zAO (by omega),zL,bs]
   rcases chk (body:=zTD x i (x.zB.getD i [])) (x.zB.getD i []).length 0 (Kb _) (fun j=>Exp x.zA ((x.zB.getD i []).getD j []) i) (fun _=>iC) (fun j _ hj _=>by
     refine vZ (zCG ho hi) (by omega) ?_;unfold zTD;rw[yM hj,zK,zX [] hj,bs]) (by
     unfold zTD;simp)with⟨g1,g2⟩|⟨j,_,hj,g1,g2⟩
   ·rw[show((0:Nat):Int)=0 from rfl]at g1
    rw[g1,bs];simp only
    rw[zI (by omega) (by omega),bs,cs];exact .inl ⟨rfl,h2,hl,by grind⟩
   ·rw[show((0:Nat):Int)=0 from rfl]at g1
    rw[g1,bs];exact .inr ⟨rfl,fun g=>g2 (g.2.2 j hj)⟩
  ·rw[zA4 (by omega),zK]
   exact .inr ⟨rfl,fun g=>hl g.2.1⟩
 ·rw[h1,bs,Kc,zK]
  exact .inr ⟨rfl,fun g=>h2 g.1⟩
theorem zNj{x:SPr}(ho:Os x.zA)(hp:x.zJ.length=x.zA.length)(hc:x.zB.length=x.zA.length){i:Nat}(hi:i<x.zA.length):
  (zK7 x i=iz (.inl ((i+1:Nat):Int))∧zGs x i)∨(zK7 x i=iz (.inr (.inr iC))∧ ¬zGs x i):=by
 have h6:=ho.1;unfold zK7;rw[yM hi,zK,zX [] (by omega),bs];rcases zDe (v:=x.zJ.getD i []) ho hi with⟨h1,h2⟩|⟨h1,h2⟩
 ·rw[h1,bs,J7,zL,zX [] (by omega),bs,zI (by omega) (by omega),bs,zI (by omega) (by omega),bs]
  by_cases hl:(x.zB.getD i []).length+i+1=x.zA.length
  ·rw[zAO (by omega),zL]
   rcases chk (body:=zNQ x i) (x.zB.getD i []).length 0 (Kb _) (fun j=>Exp x.zA ((x.zB.getD i []).getD j []) i) (fun _=>iC) (fun j _ hj _=>by
     refine vZ (zDe ho hi) (by omega) ?_;unfold zNQ;rw[zX [] (by omega),bs,yM hj,zK,bs,zX [] hj,bs]) (by
     unfold zNQ;rw[zX [] (by omega),bs,qD,zL])with⟨g1,g2⟩|⟨j,_,hj,g1,g2⟩
   ·rw[show((0:Nat):Int)=0 from rfl]at g1
    rw[g1,bs];simp only
    rw[zI (by omega) (by omega),bs,cs];exact .inl ⟨rfl,h2,hl,by grind⟩
   ·rw[show((0:Nat):Int)=0 from rfl]at g1
    rw[g1,bs];exact .inr ⟨rfl,fun g=>g2 (g.2.2 j hj)⟩
  ·rw[zA4 (by omega),zK]
   exact .inr ⟨rfl,fun g=>hl g.2.1⟩
 ·rw[h1,bs,Kc,zK]
  exact .inr ⟨rfl,fun g=>h2 g.1⟩
theorem zL1{x:SPr}(h6:x.zA.length≤6):
  (zG (zNX x) (1,0)=iz (.inl ())∧Os x.zA∧pr x.zA x.zA.length≤729)∨(zG (zNX x) (1,0)=iz (.inr iC)∧ ¬(Os x.zA∧pr x.zA x.zA.length≤729)):=by
 rcases yCL (body:=zNX x) (fun i=>(pr x.zA i,(i:Int))) x.zA.length 0 (Kb _) (fun i=>Prime (at0 x.zA i)∧pr x.zA (i+1)≤729) (fun _=>iC) (fun i _ hi cC=>by
   have hp:∀j,j<i→Prime (at0 x.zA j):=by grind
   have dM:=zHH hp;have eK:pr x.zA i≤729:=by
    cases i with
    |zero=>simp[pr]
    |succ i=>grind
   unfold zNX;rw[yM hi,zK,yH hi,bs];rcases zCv (at0 x.zA i)with⟨h1,h2⟩|⟨h1,h2⟩
   ·have h3:=h2.pos
    have h4:pr x.zA i*at0 x.zA i≤729*7:=L9 eK h3.2 (by omega) (by omega);have h5:1*1≤pr x.zA i*at0 x.zA i:=L9 dM (by omega) (by omega) (by omega);simp only
    rw[h1,bs,J7,zL,zI (by omega) (by omega),bs]
    by_cases h7:pr x.zA i*at0 x.zA i> 729
    ·rw[iE h7,zK]
     exact .inr ⟨rfl,by grind[pr]⟩
    ·rw[iD h7,zL,bs,zI (by omega) (by omega),bs,cs]
     exact .inl ⟨rfl,h2,by grind[pr]⟩
   grind) (by
   unfold zNX;simp)with⟨g1,g2⟩|⟨i,_,hi,g1,g2⟩
 ·refine .inl ⟨g1,⟨by omega,by grind⟩,?_⟩
  cases hn:x.zA.length with
  |zero=>simp[pr]
  |succ n=>grind
 ·refine .inr ⟨g1,fun⟨h1,h2⟩=>g2 ⟨h1.2 i hi,?_⟩⟩
  have:=zPk (os:=x.zA) (n:=x.zA.length) h1.2 (x.zA.length-(i+1)) (by omega)
  grind
theorem zEV{os:List Int}(ho:Os os):f_Q os=iz (cp os os.length):=by
 have h6:=ho.1;unfold f_Q;rw[show(1,0)=(fun i=>(cp os i,(i:Int))) 0 from rfl,zQ (body:=zQC os) (r:=cp os os.length) (fun i=>(cp os i,(i:Int))) os.length (fun i hi=>by
  have hp:=(ho.2 i hi).pos;have hc:=zSm (os:=os) (i:=i) fun j hj=>ho.2 j (by omega)
  have dM:=zHH (os:=os) (i:=i) fun j hj=>ho.2 j (by omega)
  unfold zQC;rw[yM hi,zK];simp only[cp]
  by_cases h:cp os i≤729
  ·have h4:cp os i*at0 os i≤729*7:=L9 h hp.2 (by omega) (by omega)
   have h5:1*1≤cp os i*at0 os i:=L9 (by omega) (by omega) (by omega) (by omega);rw[iE h,zK,yH hi,bs,zI (by omega) (by omega),bs,zI (by omega) (by omega),bs,cs,if_pos h]
  ·rw[iD h,zL,zI (by omega) (by omega),bs,cs,if_neg h]) (by
  unfold zQC;simp),bs]
theorem zDU{x:SPr}(hl:x.zA.length≤1048576):IsB (f_y x) (qJ x):=by
 unfold f_y
 by_cases h6:x.zA.length≤6
 ·rw[iD (by omega),zL]
  by_cases hp:x.zJ.length=x.zA.length
  ·rw[zAO (by omega),zL]
   by_cases hc:x.zB.length=x.zA.length
   ·rw[zAO (by omega),zL]
    rcases zL1 h6 with⟨h1,h2,h3⟩|⟨h1,h2⟩
    ·rw[h1,bs]
     exact(sC (f:=(zG (zNY x) 0).bind fun r=>match r with|.inl _=>iz iB|.inr r=>iz r) x.zA.length (zGs x) rfl (by grind[zNi]) (by unfold zNY;simp)).iff ⟨fun g=>⟨⟨h2,hp,hc,g⟩,h6,h3⟩,fun g=>g.tl⟩
    ·rw[h1,bs]
     exact .inr ⟨rfl,fun g=>h2 ⟨g.os,g.pr⟩⟩
   ·rw[zA4 (by omega),zK]
    exact .inr ⟨rfl,fun g=>hc g.cl⟩
  ·rw[zA4 (by omega),zK]
   exact .inr ⟨rfl,fun g=>hp g.pl⟩
 ·rw[iE (by omega),zK]
  exact .inr ⟨rfl,fun g=>h6 g.n6⟩
theorem uW{x:SPr}(hl:x.zA.length≤1048576):IsB (f_m x) (qJ x):=by
 unfold f_m
 by_cases h6:x.zA.length≤6
 ·rw[iD (by omega),zL]
  by_cases hp:x.zJ.length=x.zA.length
  ·rw[zAO (by omega),zL]
   by_cases hc:x.zB.length=x.zA.length
   ·rw[zAO (by omega),zL]
    rcases chk (body:=zQD x) x.zA.length 0 (Kb _) (fun i=>Prime (at0 x.zA i)) (fun _=>iC) (fun i _ hi _=>by
      refine vZ (zHG _) (by omega) ?_;unfold zQD;rw[yM hi,zK,yH hi,bs]) (by
      unfold zQD;simp)with⟨g1,g2⟩|⟨i,_,hi,g1,g2⟩
    ·rw[show((0:Nat):Int)=0 from rfl]at g1
     have ho:Os x.zA:=⟨by omega,by grind⟩;have hcp:=zSm (os:=x.zA) (i:=x.zA.length) ho.2;rw[g1,bs];simp only
     rw[zEV ho,bs]
     by_cases h7:cp x.zA x.zA.length> 729
     ·rw[iE h7,zK]
      exact .inr ⟨rfl,fun g=>by have:=g.pr;omega⟩
     ·rw[iD h7,zL]
      exact(sC (f:=(zG (zK7 x) 0).bind fun r=>match r with|.inl _=>iz iB|.inr r=>iz r) x.zA.length (zGs x) rfl (by grind[zNj]) (by unfold zK7;simp)).iff ⟨fun g=>⟨⟨ho,hp,hc,g⟩,h6,by omega⟩,fun g=>g.tl⟩
    ·rw[show((0:Nat):Int)=0 from rfl]at g1
     rw[g1,bs];exact .inr ⟨rfl,fun g=>g2 (g.os.2 i hi)⟩
   ·rw[zA4 (by omega),zK]
    exact .inr ⟨rfl,fun g=>hc g.cl⟩
  ·rw[zA4 (by omega),zK]
   exact .inr ⟨rfl,fun g=>hp g.pl⟩
 ·rw[iE (by omega),zK]
  exact .inr ⟨rfl,fun g=>h6 g.n6⟩
end Go.Pl

namespace Go.Pl
open Go Go.Ab Go.Wk Go.Pc
def lvl(x:SPr)(i:Nat):Lvl:=⟨at0 x.zA i,(x.zJ.getD i []).drop (i+1),(x.zB.getD i []).map (·.drop (i+1))⟩
def suf(x:SPr)(k:Nat):Pcp:=(U0 k (x.zA.length-k)).map (lvl x)
theorem yI(x:SPr)(k:Nat):(suf x k).length=x.zA.length-k:=by simp[suf]
theorem yC{x:SPr}{k:Nat}(h:k<x.zA.length):suf x k=lvl x k::suf x (k+1):=by unfold suf;rw[show x.zA.length-k=(x.zA.length-(k+1))+1 from by omega,Jao,Jl]
theorem vQ{x:SPr}{k:Nat}(h:x.zA.length≤k):suf x k=[]:=by unfold suf;simp_all
theorem zBc{os v:List Int}{k:Nat}(h:Exp os v k)(hk:k<os.length):v=zeros (k+1)++v.drop (k+1):=by
 have h1:=h.1.1;apply Kk;intro i;rw[Kf];simp only[zeros,K8,K7,Lh];split
 ·rename_i hi
  have h2:=h.2 i (by omega)
  grind
 grind
theorem zZp{x:SPr}:∀(d k:Nat)(v:List Int),k+d=x.zA.length→v.length=d→(∀i,i<d→0≤at0 v i∧at0 v i≤at0 x.zA (k+i)-1)→V (suf x k) v
 |0,k,v,hk,hv,_=>by rw[vQ (by omega)];simpa[V]using hv
 |d+1,k,v,hk,hv,h=>by
  rw[yC (by omega)]
  match v,hv with
  |a::v,hv=>
   have h0:=h 0 (by omega);simp only[at0,Hk,Qm]at h0;refine⟨⟨h0.1,by simp only[lvl,at0];omega⟩,zZp d (k+1) v (by omega) (by grind) fun i hi=>?_⟩
   grind
theorem zB7{x:SPr}{v:List Int}{k:Nat}(h:Exp x.zA v k)(hk:k<x.zA.length):V (suf x (k+1)) (v.drop (k+1)):=by
 have h1:=h.1.1;refine zZp (x.zA.length-(k+1)) (k+1) _ (by omega) (by grind) fun i hi=>?_
 have:=h.1.2 (k+1+i) (by omega)
 grind
theorem zEd.ok{x:SPr}(h:zEd x):∀(d k:Nat),k+d=x.zA.length→Pc.Ok (suf x k)
 |0,k,hk=>by rw[vQ (by omega)];simp only[Pc.Ok]
 |d+1,k,hk=>by
  rw[yC (by omega)];obtain⟨t1,t2,t3⟩:=h.tl k (by omega);refine⟨by simp only[lvl];have:=(h.os.2 k (by omega)).pos;omega,zB7 t1 (by omega),?_,fun c hc=>?_,zEd.ok h d (k+1) (by omega)⟩
  ·grind[yI,lvl]
  ·simp only[lvl,Jj]at hc
   obtain⟨u,hu,rfl⟩:=hc;obtain⟨j,hj,rfl⟩:=Jt.1 hu
   grind[zB7]
theorem zEd.okAt{x:SPr}(h:zEd x){k:Nat}(hk:k≤x.zA.length):Pc.Ok (suf x k):=h.ok (x.zA.length-k) k (by omega)
theorem Pres.okAt{x:SPr}(h:Pres x){k:Nat}(hk:k≤x.zA.length):Pc.Ok (suf x k):=h.w.okAt hk
theorem zR(n:Nat):(zeros n).length=n:=by simp[zeros]
theorem zGt(k:Nat):zeros (k+1)=zeros k++[0]:=by simp[zeros,Lv]
theorem zEe{k:Nat}{a b:Int}{v:Vec}:(zeros k++a::v).set k b=zeros k++b::v:=by rw[Qh _ _ (by grind[zR]),zR,Kl,Ll]
theorem zDf{k:Nat}{a:Int}{v:Vec}:ixO (zeros k++a::v) (k:Int)=iz a:=by rw[vY,Jb (by grind[zR]),zR,Kl];rfl
theorem zCw{k:Nat}{v:Vec}:zeros k++0::v=zeros (k+1)++v:=by rw[zGt,Jh];rfl
theorem wQ{v:List Int}(h:v.length≤1000000):f_n v=iz v:=by grind[f_n,zY]
end Go.Pl

namespace Go.Pl
open Go Go.Ab Go.Wk Go.Pc
theorem zCe{m:Vec→Vec→Vec}:∀(cs:List Vec)(x:Vec)(i:Nat)(acc:Vec),i<cs.length→i<x.length→
  img m (cs.take (i+1)) (x.take (i+1)) acc=iter (at0 x i).toNat (fun v=>m v (cs.getD i [])) (img m (cs.take i) (x.take i) acc)
 | [],_,_,_,h,_=>by simp at h
 |_::_,[],_,_,_,h=>by simp at h
 |c::cs,a::x,0,acc,_,_=>by rfl
 |c::cs,a::x,i+1,acc,h,h'=>by simp only[Ky,img,at0,List.getD_cons_succ];exact zCe cs x i _ (by grind) (by grind)
theorem vT{α β:Type}{body:α×Int→Option ((α×Int)⊕α)}{S:β→Prop}(e:β→α)(g:β→β)(n:Int)(hn:0≤n)(hS:∀a,S a→S (g a))
  (h:∀a(i:Nat),S a→(i:Int)<n→body (e a,(i:Int))=iz (.inl (e (g a),((i+1:Nat):Int))))(he:∀a,S a→body (e a,n)=iz (.inr (e a))){a:β}(ha:S a):
  zG body (e a,0)=iz (e (iter n.toNat g a)):=by
 have ez:∀k,S (iter k g a):=fun k=>vP (S:=S) hS k ha
 exact zQ (body:=body) (r:=e (iter n.toNat g a)) (fun i=>(e (iter i g a),(i:Int))) n.toNat (by grind[vO]) (by grind)
theorem zL2{k i:Nat}{v:Vec}(h:i<v.length):ixO (zeros k++v) ((k+i:Nat):Int)=iz (at0 v i):=by rw[vY,Jb (by grind[zR]),zR,show k+i-k=i from by omega,J5 h,at0,J2,J5 h];rfl
theorem zEv{x:SPr}(ho:Os x.zA):∀(d k:Nat)(v:List Int),k+d=x.zA.length→V (suf x k) v→v.length=d∧ ∀i,i<d→0≤at0 v i∧at0 v i<at0 x.zA (k+i)∧at0 v i≤6
 |0,k,v,hk,hv=>by
  rw[vQ (by omega)]at hv;simp only[V]at hv
  grind
 |d+1,k,v,hk,hv=>by
  rw[yC (by omega)]at hv
  match v,hv with
  |a::v,hv=>
   obtain⟨h1,h2⟩:=zEv ho d (k+1) v (by omega) hv.2;refine⟨by simp[h1],fun i hi=>?_⟩;cases i with
   |zero=>
    have h3:=hv.1;simp only[lvl]at h3;have:=(ho.2 k (by omega)).pos
    grind
   |succ i=>
    grind
theorem zEW{x:SPr}(h:Pres x){k i:Nat}(hk:k<x.zA.length)(hi:i<x.zA.length-(k+1)):
  ∃c,ixO x.zB (k:Int)=iz (x.zB.getD k [])∧ixO (x.zB.getD k []) (i:Int)=iz (zeros (k+1)++c)∧V (suf x (k+1)) c∧(lvl x k).cs.getD i []=c:=by
 obtain⟨t1,t2,t3⟩:=h.tl k hk;have hc:=h.cl
 grind[zX,zB7,zBc,lvl]
def FAt(x:SPr)(k:Nat)(g:SPr→Int→List Int→List Int→Option (List Int)):Prop:=
 ∀a b,V (suf x k) a→V (suf x k) b→g x k (zeros k++a) (zeros k++b)=iz (zeros k++mul (suf x k) a b)
def FIm(x:SPr)(k:Nat)(g:SPr→Int→List Int→Option (List Int)):Prop:=
 ∀v,V (suf x (k+1)) v→g x k (zeros (k+1)++v)=iz (zeros (k+1)++sig (suf x (k+1)) (lvl x k) v)
theorem zNk{x:SPr}(h:Pres x){k:Nat}(hk:k<x.zA.length){g:SPr→Int→List Int→List Int→Option (List Int)}(hg:FAt x (k+1) g):FIm x k (b_e g):=by
 intro v hv;have h6:=h.os.1;have ok:=h.okAt (k:=k+1) (by omega);obtain⟨fT,aD⟩:=zEv h.os (x.zA.length-(k+1)) (k+1) v (by omega) hv;have gm:=yI x (k+1);have gD:(lvl x k).cs.length=x.zA.length-(k+1):=by have:=h.okAt (k:=k) (by omega);rw[yC hk]at this;rw[this.2.2.1,gm]
 have gR:∀c∈(lvl x k).cs,V (suf x (k+1)) c:=by have:=h.okAt (k:=k) (by omega);rw[yC hk]at this;exact this.2.2.2.1
 have hA:∀i,V (suf x (k+1)) (img (mul (suf x (k+1))) ((lvl x k).cs.take i) (v.take i) (zeros (suf x (k+1)).length)):=fun i=>
  jZ (yY ok) _ _ (by grind) (wJ ok)
 unfold b_e;rw[yX (by omega),bs,zI (by omega) (by omega),bs,cs];have hz:J1 x.zA.length (0:Int)=zeros (k+1)++zeros (suf x (k+1)).length:=by rw[gm];simp only[zeros,Jd];congr 1;omega
 rw[hz];have:=zQ (body:=zTx g x k (zeros (k+1)++v)) (r:=zeros (k+1)++sig (suf x (k+1)) (lvl x k) v)
  (fun i=>(zeros (k+1)++img (mul (suf x (k+1))) ((lvl x k).cs.take i) (v.take i) (zeros (suf x (k+1)).length),((k+1+i:Nat):Int))) (x.zA.length-(k+1)) (fun i hi=>by
  have hr:=aD i hi;obtain⟨c,c1,c2,c3,c4⟩:=zEW h hk hi;unfold zTx;rw[iE (by omega),zK];rw[vT (S:=V (suf x (k+1))) (body:=zTw g x k (zeros (k+1)++v) (zeros (k+1)++img (mul (suf x (k+1))) ((lvl x k).cs.take i) (v.take i) (zeros (suf x (k+1)).length),((k+1+i:Nat):Int))) (fun u=>zeros (k+1)++u) (fun u=>mul (suf x (k+1)) u c) (at0 v i) hr.1 (by grind[yY]) (fun u q hu hq=>by
   unfold zTw;simp only
   rw[zL2 (by omega),bs,iE hq,zK,zI (by omega) (by omega),bs,c1,bs,zI (by omega) (by omega),bs,zI (by omega) (by omega),bs,
    show(((k+1+i:Nat):Int)-(k:Int)-1)=(i:Int)from by omega,c2,bs,cs,hg u c hu c3,bs,zI (by omega) (by omega),bs,cs]) (fun u hu=>by
   unfold zTw;simp only
   rw[zL2 (by omega),bs,iD (by omega),zL]) (hA i),bs,zI (by omega) (by omega),bs,cs]
  rw[zCe _ _ _ _ (by omega) (by omega),c4];rfl) (by
  unfold zTx;rw[iD (by omega),zL,Jm (by omega),Jm (by omega)];rfl)
 grind[img]
theorem zVD{x:SPr}(h:Pres x){k:Nat}(hk:k<x.zA.length){g:SPr→Int→List Int→List Int→Option (List Int)}{gi:SPr→Int→List Int→Option (List Int)}(hg:FAt x (k+1) g)(hi:FIm x k gi):FAt x k (b_a gi g):=by
 intro a b ha hb;have h6:=h.os.1;have hp:=(h.os.2 k hk).pos;have ok:=h.okAt (k:=k+1) (by omega);have ok0:=h.okAt (k:=k) (by omega);obtain⟨mL,har⟩:=zEv h.os (x.zA.length-k) k a (by omega) ha;obtain⟨pE,hbr⟩:=zEv h.os (x.zA.length-k) k b (by omega) hb;rw[yC hk]at ha hb ok0;obtain⟨a0,a,rfl⟩:∃a0 a',a=a0::a':=by cases a with|nil=>grind|cons p q=>simp
 obtain⟨b0,b,rfl⟩:∃a0 a',b=a0::a':=by cases b with|nil=>grind|cons p q=>simp
 obtain⟨⟨a1,a2⟩,ha⟩:=ha;obtain⟨⟨b1,b2⟩,hb⟩:=hb;have pg:(lvl x k).o=at0 x.zA k:=rfl;rw[pg]at a2 b2;unfold b_a;rw[iD (by omega),zL,wQ (by grind[zR]),bs,wQ (by simp[zR]at pE ⊢;omega),bs,zDf,bs,zDf,bs,J6,zEe,zEe,zCw,zCw];have eQ:∀u,V (suf x (k+1)) u→V (suf x (k+1)) (sig (suf x (k+1)) (lvl x k) u):=by grind[zDc]
 have ez:V (suf x (k+1)) (iter b0.toNat (sig (suf x (k+1)) (lvl x k)) a):=vP eQ _ ha;rw[vT (S:=V (suf x (k+1))) (fun u=>zeros (k+1)++u) (sig (suf x (k+1)) (lvl x k)) b0 b1 eQ (fun u q hu hq=>by
   unfold zWm;simp only
   rw[zDf,bs,iE hq,zK,hi u hu,bs,zI (by omega) (by omega),bs,cs]) (fun u hu=>by
   unfold zWm;simp only
   rw[zDf,bs,iD (by omega),zL]) ha,bs,zI (by omega) (by omega),bs,cs,hg _ _ ez hb,bs,bs,bs,zI (by omega) (by omega),bs,yH hk,bs]
 have hm:=yY ok ez hb;have hml:=(zEv h.os (x.zA.length-(k+1)) (k+1) _ (by omega) hm).1;have own:∀u,V (suf x (k+1)) u→f_n (zeros (k+1)++u)=iz (zeros (k+1)++u):=fun u hu=>wQ (by
  have:=(zEv h.os (x.zA.length-(k+1)) (k+1) _ (by omega) hu).1
  grind[zR])
 rw[yC hk,yQ,pg]
 by_cases hge:a0+b0≥at0 x.zA k
 ·have t1:=(h.tl k hk).1
  have hw:=zB7 t1 hk;have hwl:=h.pl;rw[iE hge,zK,if_pos hge,bs,zI (by omega) (by omega),bs,bs,zX [] (by omega),bs,zBc t1 hk,hg _ _ hw hm,bs,own _ (yY ok hw hm),bs];rw[←zCw,zDf,bs,zEe];rfl
 ·rw[iD hge,zL,if_neg hge,own _ hm,bs,←zCw,zDf,bs,zEe]
theorem zFM{x:SPr}(h:Pres x):∀(d k:Nat),k+d=x.zA.length→(∀m,2*d+1≤m→FAt x k (zNS m))∧(1≤d→ ∀m,2*d≤m→FIm x k (zNR m))
 |0,k,hk=>by
  refine⟨fun m hm a b ha hb=>?_,fun h=>by omega⟩;have h6:=h.os.1;obtain⟨m,rfl⟩:∃m',m=m'+1:=⟨m-1,by omega⟩;show b_a _ _ x k _ _=_;unfold b_a;rw[iE (by omega),zK,yX (by omega),bs,vQ (by omega)]
  grind[mul,zeros]
 |d+1,k,hk=>by
  obtain⟨h1,h2⟩:=zFM h d (k+1) (by omega);have hI:∀m,2*(d+1)≤m→FIm x k (zNR m):=fun m hm=>by obtain⟨m,rfl⟩:∃m',m=m'+1:=⟨m-1,by omega⟩;exact zNk h (by omega) (h1 m (by omega))
  refine⟨fun m hm=>?_,fun _=>hI⟩;obtain⟨m,rfl⟩:∃m',m=m'+1:=⟨m-1,by omega⟩;exact zVD h (by omega) (h1 m (by omega)) (hI m (by omega))
theorem zPl{x:SPr}(h:Pres x){k:Nat}(hk:k≤x.zA.length):FAt x k f_a:=fun a b ha hb=>
 zBm (2*(x.zA.length-k)+1) fun m hm=>(zFM h (x.zA.length-k) k (by omega)).1 m hm a b ha hb
theorem zNl{x:SPr}(h:Pres x){k:Nat}(hk:k<x.zA.length):FIm x k f_e:=fun v hv=>
 zBm (2*(x.zA.length-k)) fun m hm=>(zFM h (x.zA.length-k) k (by omega)).2 (by omega) m hm v hv
end Go.Pl

namespace Go.Pl
open Go Go.Ab Go.Wk Go.Pc
theorem zDg:∀{P Q:Pcp},Q<:+P→wH P→wH Q
 | [],Q,h,_=>by grind
 |l::P,Q,h,hc=>by
  rcases Us.1 h with rfl|h
  ·exact hc
  ·exact zDg h hc.1
theorem zJm:∀{P Q:Pcp},Q<:+P→Pc.Ok P→Pc.Ok Q
 | [],Q,h,_=>by grind
 |l::P,Q,h,hc=>by
  rcases Us.1 h with rfl|h
  ·exact hc
  ·exact zJm h hc.2.2.2.2
theorem zNm(x:SPr)(k:Nat):suf x (k+1)<:+suf x k:=by grind[yC,vQ]
theorem zEX{x:SPr}{k:Nat}(h:wH (suf x k)):∀i,wH (suf x (k+i))
 |0=>h
 |i+1=>zDg (zNm x (k+i)) (zEX h i)
theorem zHI{x:SPr}(h:Pres x){k:Nat}(hk:k≤x.zA.length)(hc:wH (suf x k)):Grp (V (suf x k)) (mul (suf x k)) (zeros (suf x k).length):=zDd _ (h.okAt hk) hc
theorem zGK{x:SPr}:∀(i k:Nat)(v:Vec),k+i≤x.zA.length→V (suf x k) v→ ∃q v',v=q++v'∧q.length=i∧V (suf x (k+i)) v'∧
  ∀a b,V (suf x (k+i)) a→V (suf x (k+i)) b→mul (suf x k) (q++a) (zeros i++b)=q++mul (suf x (k+i)) a b
 |0,k,v,_,hv=>⟨[],v,rfl,rfl,hv,fun a b _ _=>rfl⟩
 |i+1,k,v,hk,hv=>by
  rw[yC (by omega)]at hv
  match v,hv with
  |e::v,hv=>
   obtain⟨q,v',h1,h2,h3,h4⟩:=zGK i (k+1) v (by omega) hv.2;rw[show k+1+i=k+(i+1)from by omega]at h3 h4;refine⟨e::q,v',by grind,by simp[h2],h3,fun a b ha hb=>?_⟩;have he:=hv.1;rw[yC (by omega)];show mul (lvl x k::suf x (k+1)) (e::(q++a)) (0::(zeros i++b))=_;rw[yQ,Lw,if_neg (by omega)]
   grind[iter]
def FTV(x:SPr)(k:Nat)(g:SPr→List Int→List Int→Option (List Int)):Prop:=
 ∀p v u,p.length=k→V (suf x k) v→V (suf x k) u→g x (p++v) (zeros k++u)=iz (p++mul (suf x k) v u)
def FTG(x:SPr)(k:Nat)(g:SPr→List Int→Int→Option (List Int)):Prop:=
 ∀p v,p.length=k→V (suf x k) v→g x (p++v) (k:Int)=iz (p++mul (suf x k) v (1::zeros (x.zA.length-(k+1))))
theorem zJn{x:SPr}(h:Pres x){k:Nat}(hk:k<x.zA.length){g:SPr→List Int→List Int→Option (List Int)}(hg:FTV x (k+1) g){t:Vec}(ht:V (suf x (k+1)) t)
  {body1:List Int×Int→Int→List Int×Int→Option ((List Int×Int)⊕List Int)}{body2:List Int×Int→Option ((List Int×Int)⊕List Int)}
  (av:∀s,body2 s=cond (decide (s.2<(t.length:Int))) ((ixO t s.2).bind fun v17=>(zG (body1 s v17) (s.1,0)).bind fun r=>(rng (s.2+1)).bind fun v=>iz (.inl (r,v))) (iz (.inr s.1)))
  (ik:∀s v q,body1 s v q=cond (decide (q.2<v)) ((ixO x.zB (k:Int)).bind fun cl=>(ixO cl s.2).bind fun c=>(g x q.1 c).bind fun r=>(rng (q.2+1)).bind fun w=>iz (.inl (r,w))) (iz (.inr q.1)))
  {p:Vec}(hp:p.length=k+1){u:Vec}(hu:V (suf x (k+1)) u):zG body2 (p++u,0)=iz (p++img (mul (suf x (k+1))) (lvl x k).cs t u):=by
 have h6:=h.os.1;have ok:=h.okAt (k:=k+1) (by omega);have ok0:=h.okAt (k:=k) (by omega);rw[yC hk]at ok0;obtain⟨fc,bK⟩:=zEv h.os (x.zA.length-(k+1)) (k+1) t (by omega) ht;have gD:(lvl x k).cs.length=x.zA.length-(k+1):=by rw[ok0.2.2.1,yI]
 have hA:∀i,V (suf x (k+1)) (img (mul (suf x (k+1))) ((lvl x k).cs.take i) (t.take i) u):=fun i=>
  jZ (yY ok) _ _ (fun c hc=>ok0.2.2.2.1 c (by grind)) hu
 have:=zQ (body:=body2) (r:=p++img (mul (suf x (k+1))) (lvl x k).cs t u) (fun i=>(p++img (mul (suf x (k+1))) ((lvl x k).cs.take i) (t.take i) u,(i:Int))) t.length (fun i hi=>by
  have hr:=bK i (by omega);obtain⟨c,c1,c2,c3,c4⟩:=zEW h hk (i:=i) (by omega);rw[av];simp only
  rw[yM hi,zK,yH hi,bs];rw[vT (S:=V (suf x (k+1))) (fun u=>p++u) (fun u=>mul (suf x (k+1)) u c) (at0 t i) hr.1 (by grind[yY]) (fun u q hu hq=>by
   rw[ik];simp only
   rw[iE hq,zK,c1,bs,c2,bs,hg p u c hp hu c3,bs,zI (by omega) (by omega),bs,cs]) (by grind) (hA i),bs,zI (by omega) (by omega),bs,cs]
  rw[zCe _ _ _ _ (by omega) (by omega),c4]) (by
  grind)
 grind[img]
theorem zYc{p v:Vec}{a:Int}{k:Nat}(hp:p.length=k):ixO (p++a::v) (k:Int)=iz a:=by rw[vY,Jb (by omega),hp,Kl];rfl
theorem p_set{p v:Vec}{a b:Int}{k:Nat}(hp:p.length=k):(p++a::v).set k b=p++b::v:=by simp_all
theorem zL3{x:SPr}(h:Pres x){k:Nat}(hk:k<x.zA.length)(hc:wH (suf x (k+1))){g:SPr→List Int→List Int→Option (List Int)}(hg:FTV x (k+1) g):FTG x k (b_b g):=by
 intro p v hp hv;have h6:=h.os.1;have G:=zHI h (k:=k+1) (by omega) hc;have ok:=h.okAt (k:=k+1) (by omega);have ok0:=h.okAt (k:=k) (by omega);obtain⟨fT,aD⟩:=zEv h.os (x.zA.length-k) k v (by omega) hv;rw[yC hk]at hv ok0;obtain⟨e,t,rfl⟩:∃a0 a',v=a0::a':=by cases v with|nil=>grind|cons p q=>simp
 obtain⟨⟨e1,e2⟩,ht⟩:=hv;have pg:(lvl x k).o=at0 x.zA k:=rfl;rw[pg]at e2;have fX:=(h.os.2 k hk).pos;have fc:=(zEv h.os (x.zA.length-(k+1)) (k+1) t (by omega) ht).1;have fU:=yI x (k+1);unfold b_b;have hs:zO (p++e::t) ((k+1:Nat):Int) ((p++e::t).length:Int)=iz t:=by
  unfold zO;rw[if_pos (by grind)];have e3:(p++e::t).drop (k+1)=t:=by rw[List.drop_append,Ga (by omega),hp,show k+1-k=1 from by omega];rfl
  grind[J6]
 have mI:f_J t=iz t:=by grind[f_J,zY]
 rw[zI (by omega) (by omega),bs,cs,hs,bs,mI,bs];have hz:=zQ (body:=zTE k t) (r:=(p++[e])++zeros t.length) (fun i=>((p++[e])++(zeros i++t.drop i),(i:Int))) t.length (fun i hi=>by
  have hl:((p++[e])++zeros i).length=k+1+i:=by grind[zR]
  unfold zTE;simp only
  rw[yM hi,zK,zI (by omega) (by omega),bs,zI (by omega) (by omega),bs,show(k:Int)+1+(i:Int)=((k+1+i:Nat):Int)from by omega,vY,←Jh,Jb (by omega),hl,Kl,
   G8 hi,Uh,bs,zI (by omega) (by omega),bs,cs,J6,Qh _ _ (by omega),hl,Kl,Ll,zGt]
  simp) (by
  unfold zTE;simp)
 simp only[zeros,Lu,Hw,Ju,Jh,H4]at hz;rw[show((0:Nat):Int)=0 from rfl]at hz;rw[hz,bs,J6,zYc hp,bs,zI (by omega) (by omega),bs,bs,p_set hp,zYc hp,bs,yH hk,bs];have fC:J1 t.length (0:Int)=zeros (suf x (k+1)).length:=by rw[fU,fc];rfl
 rw[yC hk,yQ,pg];have gn:mul (suf x (k+1)) (iter (1:Int).toNat (sig (suf x (k+1)) (lvl x k)) t) (zeros (x.zA.length-(k+1)))=sig (suf x (k+1)) (lvl x k) t:=by rw[←fU];show mul _ (sig (suf x (k+1)) (lvl x k) t) _=_;exact G.oner (zDc ok0 ht)
 rw[gn,fC]
 by_cases heq:e+1=at0 x.zA k
 ·have t1:=(h.tl k hk).1
  have hw:=zB7 t1 hk;have hwl:=h.pl;have aH:(p++[(0:Int)]).length=k+1:=by simp[hp]
  rw[show(e+1==at0 x.zA k)=iB from by grind,zK,if_pos (by omega),bs,zX [] (by omega),bs,p_set hp];have aW:p++0::zeros (suf x (k+1)).length=(p++[0])++zeros (suf x (k+1)).length:=by simp
  rw[aW,zBc t1 hk,hg _ _ _ aH G.ein hw,bs,G.onel hw];rw[zJn (body1:=zZS g x k) (body2:=zZT g x k t) h hk hg ht (fun _=>rfl) (fun _ _ _=>rfl) aH hw,bs];rw[zEU G.toMon _ _ ok0.2.2.2.1 hw,show e+1-at0 x.zA k=0 from by omega];simp only[Jh,H4];rfl
 ·have aH:(p++[e+1]).length=k+1:=by simp[hp]
  rw[show(e+1==at0 x.zA k)=iC from by grind,zL,if_neg (by omega)];have aW:p++(e+1)::zeros (suf x (k+1)).length=(p++[e+1])++zeros (suf x (k+1)).length:=by simp
  rw[aW,zJn (body1:=zZU g x k) (body2:=zZV g x k t) h hk hg ht (fun _=>rfl) (fun _ _ _=>rfl) aH G.ein,bs];simp only[Jh,H4];rfl
theorem zAX{n i:Nat}(h:i<n):xD n i=zeros i++1::zeros (n-(i+1)):=by
 have:zeros n=zeros i++0::zeros (n-(i+1)):=by
  simp only[zeros];rw[←Jv,Jd]
  grind
 grind[xD,zEe]
theorem zEY(n:Nat):(xT n).length=n:=by simp[xT]
theorem zHJ{n i:Nat}(h:i<n):(xT n).getD i []=xD n i:=by simp[xT,J2,h]
theorem zSn{x:SPr}(h:Pres x){k:Nat}(hk:k≤x.zA.length)(hc:wH (suf x k)){g:SPr→List Int→Int→Option (List Int)}(hg:∀j,k≤j→j<x.zA.length→FTG x j g):FTV x k (b_d g):=by
 intro p v u hp hv hu;have h6:=h.os.1;have G:=zHI h hk hc;have ok:=h.okAt hk;obtain⟨eI,dc⟩:=zEv h.os (x.zA.length-k) k u (by omega) hu;have fU:=yI x k;have hV1:∀j,j≤x.zA.length→j<x.zA.length→V (suf x j) (1::zeros (x.zA.length-(j+1))):=fun j hj mA=>by rw[yC mA];have:=(h.os.2 j mA).pos;refine⟨⟨by omega,by show 1<at0 x.zA j;omega⟩,?_⟩;rw[←yI];exact wJ (h.okAt (by omega))
 have hUn:∀i,i<x.zA.length-k→V (suf x k) (xD (x.zA.length-k) i):=by grind[zDb]
 have hUs:∀c∈xT (x.zA.length-k),V (suf x k) c:=fun c hc=>by
  simp only[xT,Jj,Lf]at hc
  grind
 have hA:∀i,V (suf x k) (img (mul (suf x k)) ((xT (x.zA.length-k)).take i) (u.take i) v):=fun i=>
  jZ (yY ok) _ _ (by grind) hv
 have uk:∀i w,i<x.zA.length-k→V (suf x k) w→g x (p++w) ((k+i:Nat):Int)=iz (p++mul (suf x k) w (xD (x.zA.length-k) i)):=fun i w hi hw=>by obtain⟨q,w',h1,h2,h3,h4⟩:=zGK i k w (by omega) hw;have h5:=hg (k+i) (by omega) (by omega) (p++q) w' (by grind) h3;rw[Jh,←h1]at h5;rw[h5,zAX hi,h1,show x.zA.length-k-(i+1)=x.zA.length-(k+i+1)from by omega,h4 w' _ h3 (hV1 (k+i) (by omega) (by omega)),Jh]
 unfold b_d;have bJ:(zeros k++u).length=x.zA.length:=by grind[zR]
 have:=zQ (body:=zTG g x (zeros k++u)) (r:=p++mul (suf x k) v u) (fun j=>(p++img (mul (suf x k)) ((xT (x.zA.length-k)).take (j-k)) (u.take (j-k)) v,(j:Int))) x.zA.length (fun j hj=>by
  unfold zTG;simp only
  rw[bJ,yM hj,zK];rcases Jg j k with hjk|hjk
  ·have e0:ixO (zeros k++u) (j:Int)=iz 0:=by
    rw[vY,K5 (by grind)]
    grind[zeros]
   rw[e0,bs,show j-k=0 from by omega,show j+1-k=0 from by omega];rw[yV];unfold zTF;simp only
   rw[show decide ((0:Int)<0)=iC from rfl,zL];simp only
   rw[bs,zI (by omega) (by omega),bs,cs]
  ·obtain⟨i,rfl⟩:∃i,j=k+i:=⟨j-k,by omega⟩
   have hi:i<x.zA.length-k:=by omega
   have hr:=dc i hi;rw[zL2 (by omega),bs,show k+i-k=i from by omega,show k+i+1-k=i+1 from by omega];rw[vT (S:=V (suf x k)) (fun w=>p++w) (fun w=>mul (suf x k) w (xD (x.zA.length-k) i)) (at0 u i) hr.1 (by grind[yY]) (fun w q hw hq=>by
    unfold zTF;simp only
    rw[iE hq,zK,uk i w hi hw,bs,zI (by omega) (by omega),bs,cs]) (fun w hw=>by
    unfold zTF;simp) (hA i),bs,zI (by omega) (by omega),bs,cs]
   rw[zCe _ _ _ _ (by grind[zEY]) (by omega),zHJ hi]) (by
  unfold zTG;simp only
  rw[bJ,qD,zL,Jm (by grind[zEY]),Jm (by omega),zEU G.toMon _ _ hUs hv];have hn:=normal (suf x k) ok (fun Q hQ=>(zDd Q (zJm hQ ok) (zDg hQ hc)).toMon) u hu
  grind)
 simp only[Ja5,Ko,img]at this
 grind
theorem zFN{x:SPr}(h:Pres x):∀(d k:Nat),k+d=x.zA.length→wH (suf x k)→(∀m,2*d+1≤m→FTV x k (zQG m))
 |d,k,hk,hc=>fun m hm=>by
  obtain⟨m,rfl⟩:∃m',m=m'+1:=⟨m-1,by omega⟩;refine zSn h (by omega) hc fun j hj bn=>?_
  obtain⟨m,rfl⟩:∃m',m=m'+1:=⟨m-1,by omega⟩;have aQ:wH (suf x (j+1)):=by
   have:=zEX hc (j+1-k)
   grind
  exact zL3 h bn aQ (zFN h (x.zA.length-(j+1)) (j+1) (by omega) aQ m (by omega))
 termination_by d=>d
 decreasing_by omega
theorem zVE{x:SPr}(h:Pres x){k:Nat}(hk:k≤x.zA.length)(hc:wH (suf x k)):FTV x k f_d:=fun p v u hp hv hu=>
 zBm (2*(x.zA.length-k)+1) fun m hm=>zFN h (x.zA.length-k) k (by omega) hc m hm p v u hp hv hu
theorem zVF{x:SPr}(h:Pres x){k:Nat}(hk:k<x.zA.length)(hc:wH (suf x (k+1))):FTG x k f_b:=fun p v hp hv=>
 zBm (2*(x.zA.length-k)) fun m hm=>by obtain⟨m,rfl⟩:∃m',m=m'+1:=⟨m-1,by omega⟩;exact zL3 h hk hc (zFN h (x.zA.length-(k+1)) (k+1) (by omega) hc m (by omega)) p v hp hv
end Go.Pl

namespace Go.Pl
open Go Go.Ab Go.Wk Go.Pc
abbrev fv(k:Nat)(v:Vec):Vec:=zeros k++v
section
variable {x:SPr} (h:Pres x) {k:Nat} (hk:k≤x.zA.length) (hc:wH (suf x k))
 include h hk
theorem vR{v:Vec}(hv:V (suf x k) v):v.length=x.zA.length-k:=(zEv h.os (x.zA.length-k) k v (by omega) hv).1
theorem zDh{v:Vec}(hv:V (suf x k) v):(fv k v).length=x.zA.length:=by grind[zR,vR]
theorem zPm:J1 x.zA.length (0:Int)=fv k (zeros (suf x k).length):=by
 have _:=h;rw[yI];simp only[fv,zeros,Jd];grind
 include hc
theorem zNn{i:Nat}(hi:i<x.zA.length-k):V (suf x k) (xD (x.zA.length-k) i):=by
 have _:=hc;have:=yI x k;rw[←this]at hi ⊢
 exact zDb (h.okAt hk) hi
theorem zL4{p:Vec}(hp:p.length=k){i:Nat}(hi:i<x.zA.length-k){w:Vec}(hw:V (suf x k) w):f_b x (p++w) ((k+i:Nat):Int)=iz (p++mul (suf x k) w (xD (x.zA.length-k) i)):=by
 obtain⟨q,w',h1,h2,h3,h4⟩:=zGK i k w (by omega) hw;have aQ:wH (suf x (k+i+1)):=zEX hc (i+1);have h5:=zVF h (k:=k+i) (by omega) aQ (p++q) w' (by grind) h3;have h7:V (suf x (k+i)) (1::zeros (x.zA.length-(k+i+1))):=by
  have mA:k+i<x.zA.length:=by omega
  rw[yC mA];have:=(h.os.2 (k+i) mA).pos;refine⟨⟨by omega,by show 1<at0 x.zA (k+i);omega⟩,?_⟩;rw[←yI];exact wJ (h.okAt (by omega))
 grind[zAX]
theorem zHK{a b:Vec}(ha:V (suf x k) a)(hb:V (suf x k) b):f_d x (fv k a) (fv k b)=iz (fv k (mul (suf x k) a b)):=
 zVE h hk hc (zeros k) a b (zR k) ha hb
theorem zL5{a:Vec}(ha:V (suf x k) a):f_J (fv k a)=iz (fv k a):=by
 have _:=hc;have:=zDh h hk ha;have h6:=h.os.1
 grind[f_J,zY]
theorem zIA{a b:Vec}(ha:V (suf x k) a)(hb:V (suf x k) b):zTM x (fv k a) (fv k b)=iz (fv k (mul (suf x k) a b)):=by grind[zTM,zL5,zHK]
theorem zNo{c:Vec}(ch:V (suf x k) c){e:Int}(e0:0≤e)(e1:e≤1000):zWr x (fv k c) e=iz (fv k (pw (mul (suf x k)) (zeros (suf x k).length) c e.toNat)):=by
 have h6:=h.os.1;have ok:=h.okAt hk;unfold zWr;rw[zDh h hk ch,yX (by omega),bs,zPm h hk];rw[vT (S:=V (suf x k)) (body:=zMp x (fv k c) e) (fun u=>fv k u) (fun u=>mul (suf x k) u c) e e0 (by grind[yY]) (fun u i hu hi=>by
  unfold zMp;simp only
  rw[iE hi,zK,zHK h hk hc hu ch,bs,zI (by omega) (by omega),bs,cs]) (fun u hu=>by
  unfold zMp;simp) (wJ ok),bs]
 rfl
theorem zL6{v:Vec}(hv:V (suf x k) v):∃w,V (suf x k) w∧mul (suf x k) v w=zeros (suf x k).length∧f_R x (fv k v)=iz (fv k w):=by
 have h6:=h.os.1;have ok:=h.okAt hk;have G:=zHI h hk hc;have fT:=zDh h hk hv;have fU:=yI x k;unfold f_R;rw[zL5 h hk hc hv,bs,fT,yX (by omega),bs,zPm h hk]
 let I:Nat→(List Int×List Int×Int)→Prop:=fun j s=> ∃A w,s=(fv k A,fv k w,(j:Int))∧V (suf x k) A∧V (suf x k) w∧mul (suf x k) v w=A∧ ∃A',A=zeros (j-k)++A'
 have key:=uL (body:=zTL x (fv k v)) (Q:=fun r=> ∃w,V (suf x k) w∧mul (suf x k) v w=zeros (suf x k).length∧r=fv k w) I x.zA.length (fun j s hj hI=>by
  obtain⟨A,w,rfl,hA,hw,hm,A',hA'⟩:=hI;left;unfold zTL;simp only
  rw[fT,yM hj,zK];rcases Jg j k with hjk|hjk
  ·have e0:ixO (fv k A) (j:Int)=iz 0:=by
    grind[vY,zeros]
   rw[yV];unfold zQH;simp only
   rw[e0,bs,show((0:Int) != 0)=iC from rfl,zL];simp only
   rw[bs,zI (by omega) (by omega),bs,cs]
   grind
  ·obtain⟨i,rfl⟩:∃i,j=k+i:=⟨j-k,by omega⟩
   have hi:i<x.zA.length-k:=by omega
   rw[show k+i-k=i from by omega]at hA';have fL:=vR h hk hA;obtain⟨a0,A',rfl⟩:∃p q,A'=p::q:=by
    cases A' with
    |nil=>grind[zR]
    |cons p q=>simp
   have fX:=(h.os.2 (k+i) hj).pos;have inner:=uL (body:=zQH x (fv k A,fv k w,((k+i:Nat):Int))) (s:=(fv k A,fv k w))
    (Q:=fun r=> ∃B u,r=(fv k B,fv k u)∧V (suf x k) B∧V (suf x k) u∧mul (suf x k) v u=B∧ ∃B',B=zeros (i+1)++B')
    (fun q s=> ∃B u b B',s=(fv k B,fv k u)∧V (suf x k) B∧V (suf x k) u∧mul (suf x k) v u=B∧B=zeros i++b::B'∧(b=0∨b=a0+q)) 10 (fun q s hq hs=>by
     obtain⟨B,u,b,B',rfl,hB,hu,bi,mO,hb⟩:=hs;have hz:ixO (fv k B) ((k+i:Nat):Int)=iz b:=by rw[fv,zL2 (by grind[vR]),mO,at0,J2,Jb (by rw[zR];omega),zR,Kl];rfl
     unfold zQH;simp only
     rw[hz,bs]
     by_cases aS:b=0
     ·subst aS
      right;rw[show((0:Int) != 0)=iC from rfl,zL];exact⟨_,rfl,B,u,rfl,hB,hu,bi,B',by rw[mO,zCw]⟩
     ·left
      have hbq:b=a0+q:=by omega
      rw[show(b != 0)=iB from by grind,zK,zL4 h hk hc (zR k) hi hB,bs,zL4 h hk hc (zR k) hi hu,bs];have hU:=zNn h hk hc hi;obtain⟨q',v',h1,h2,h3,h4⟩:=zGK i k B (by omega) hB;have hqv:q'=zeros i∧v'=b::B':=by grind[List.append_inj,zR]
      obtain⟨rfl,rfl⟩:=hqv;have h7:V (suf x (k+i)) (1::zeros (x.zA.length-(k+i+1))):=by rw[yC hj];refine⟨⟨by omega,by show 1<at0 x.zA (k+i);omega⟩,?_⟩;rw[←yI];exact wJ (h.okAt (by omega))
      have h8:=h4 (b::B') _ h3 h7;rw[show x.zA.length-(k+i+1)=x.zA.length-k-(i+1)from by omega,←zAX hi,←h1,yC hj,yQ]at h8;refine⟨_,rfl,mul (suf x k) B (xD (x.zA.length-k) i),mul (suf x k) u (xD (x.zA.length-k) i),?_⟩;have pg:(lvl x (k+i)).o=at0 x.zA (k+i):=rfl;rw[pg]at h8
      by_cases hge:b+1≥at0 x.zA (k+i)
      ·rw[if_pos hge]at h8
       refine⟨_,_,rfl,yY ok hB hU,yY ok hu hU,?_,h8,?_⟩
       ·rw[←G.assoc hv hu hU,bi]
       ·left
        rw[yC hj]at h3;have:=h3.1.2;omega
      ·rw[if_neg hge]at h8
       refine⟨_,_,rfl,yY ok hB hU,yY ok hu hU,?_,h8,?_⟩
       ·rw[←G.assoc hv hu hU,bi]
       omega) (fun s hs=>by
     obtain⟨B,u,b,B',rfl,hB,hu,bi,mO,hb⟩:=hs;have hz:ixO (fv k B) ((k+i:Nat):Int)=iz b:=by rw[fv,zL2 (by grind[vR]),mO,at0,J2,Jb (by rw[zR];omega),zR,Kl];rfl
     have hbr:=(zEv h.os (x.zA.length-k) k B (by omega) hB).2 i hi;have ha:=(zEv h.os (x.zA.length-k) k A (by omega) hA).2 i hi;have e1:at0 B i=b:=by rw[mO,at0,J2,Jb (by grind[zR]),zR,Kl];rfl
     have e2:at0 A i=a0:=by rw[hA',at0,J2,Jb (by grind[zR]),zR,Kl];rfl
     have aS:b=0:=by omega
     subst aS;unfold zQH;simp only
     rw[hz,bs,show((0:Int) != 0)=iC from rfl,zL];exact⟨_,rfl,B,u,rfl,hB,hu,bi,B',by rw[mO,zCw]⟩) (by grind)
   obtain⟨r,r1,B,u,rfl,hB,hu,bi,B',mO⟩:=inner;rw[r1,bs,zI (by omega) (by omega),bs,cs]
   grind) (fun s hI=>by
  obtain⟨A,w,rfl,hA,hw,hm,A',hA'⟩:=hI;unfold zTL;simp only
  rw[fT,qD,zL];refine⟨_,rfl,w,hw,?_,rfl⟩;have fL:=vR h hk hA;rw[hA',Ja,zR]at fL
  grind) (s:=(fv k v,fv k (zeros (suf x k).length),0))
  ⟨v,_,rfl,hv,wJ ok,G.oner hv,v,by rw[Ja5];rfl⟩
 grind
theorem zDi{a b:Vec}(ha:V (suf x k) a)(hb:V (suf x k) b):∃c,V (suf x k) c∧mul (suf x k) b c=mul (suf x k) a b∧zTN x (fv k a) (fv k b)=iz (fv k c):=by
 have ok:=h.okAt hk;have G:=zHI h hk hc;obtain⟨w,hw,hm,h1⟩:=zL6 h hk hc hb;have iq:=yY ok ha hb;refine⟨mul (suf x k) w (mul (suf x k) a b),yY ok hw iq,?_,?_⟩
 ·rw[←G.assoc hb hw iq,hm,G.onel iq]
 grind[zTN,zIA]
end
theorem zEw{a b:List Int}(h:a.length≤1000000):zK8 a b=iz (a==b):=
 zPi (t:=fun u v=>iz (u==v)) (body:=zTK a b) rfl (fun _=>rfl) (by omega) fun _ _ _ _=>rfl
theorem zFO{a b:List Int}(h:a.length≤1000000):f_S a b=iz (a==b):=zEw h
end Go.Pl

namespace Go.Pl
open Go Go.Ab Go.Wk Go.Pc
theorem zL7{ρ:Type}{body:Int→Option (Int⊕(Unit⊕ρ))}(n i0:Nat)(hn:i0≤n)(P:Nat→Prop)(B:ρ→Prop)
  (h:∀i,i0≤i→i<n→(∀j,i0≤j→j<i→P j)→(body (i:Int)=iz (.inl ((i+1:Nat):Int))∧P i)∨(∃r,body (i:Int)=iz (.inr (.inr r))∧B r∧ ¬P i))
  (he:body (n:Int)=iz (.inr (.inl ()))):
  (zG body (i0:Int)=iz (.inl ())∧ ∀j,i0≤j→j<n→P j)∨ ∃r i,i0≤i∧i<n∧zG body (i0:Int)=iz (.inr r)∧B r∧ ¬P i:=by
 have key:∀k i,i0≤i→i+k=n→(∀j,i0≤j→j<i→P j)→(zG body (i:Int)=iz (.inl ())∧ ∀j,i0≤j→j<n→P j)∨ ∃r q,i0≤q∧q<n∧zG body (i:Int)=iz (.inr r)∧B r∧ ¬P q:=by
  intro k
  induction k with
  |zero=>
   intro i hi hk hp;obtain rfl:i=n:=by omega
   grind[yV]
  |succ k ih=>
   intro i hi hk hp;rcases h i hi (by omega) hp with⟨h1,h2⟩|⟨r,h1,h2,h3⟩
   ·have:=ih (i+1) (by omega) (by omega) (by grind)
    rw[yV,h1];exact this
   ·exact .inr ⟨r,i,hi,by omega,by rw[yV,h1],h2,h3⟩
 exact key (n-i0) i0 (Jf _) (by omega) fun j a b=>by omega
theorem zHL{σ ρ:Type}{body:σ→Option (σ⊕ρ)}{Q:ρ→Prop}(I:σ→Prop)(m:σ→Nat)
  (h:∀s,I s→(∃s',body s=iz (.inl s')∧I s'∧m s'<m s)∨ ∃r,body s=iz (.inr r)∧Q r):∀(k:Nat)(s:σ),m s≤k→I s→ ∃r,zG body s=iz r∧Q r
 |k,s,hk,hs=>by
  rcases h s hs with⟨s',h1,h2,h3⟩|⟨r,h1,h2⟩
  ·cases k with
   |zero=>omega
   |succ k=>
    obtain⟨r,h4,h5⟩:=zHL I m h k s' (by omega) h2
    grind[yV]
  grind[yV]
theorem zZq{k:Nat}{a b:Vec}:(fv k a==fv k b)=iB↔a=b:=by simp
theorem zDj{x:SPr}{v:List Int}{i k:Nat}(h:Exp x.zA v i)(hk:k≤i+1)(hn:k≤x.zA.length):v=fv k (v.drop k)∧V (suf x k) (v.drop k):=by
 have h1:=h.1.1;constructor
 ·apply Kk
  intro j;rw[fv,Kf];simp only[zeros,K8,K7,Lh];split
  ·rename_i hj
   have h2:=h.2 j (by omega)
   grind
  grind
 ·refine zZp (x.zA.length-k) k _ (by omega) (by grind) fun j hj=>?_
  have:=h.1.2 (k+j) (by omega)
  grind
structure LC (x:SPr) (k:Nat):Prop where
 c1:∀j,k+1≤j→j<x.zA.length→pw (mul (suf x (k+1))) (zeros (suf x (k+1)).length) ((lvl x k).cs.getD (j-(k+1)) []) (at0 x.zA j).toNat=sig (suf x (k+1)) (lvl x k) ((x.zJ.getD j []).drop (k+1))
 c2:∀i,k+1≤i→i<x.zA.length→ ∀j,i+1≤j→j<x.zA.length→
  mul (suf x (k+1)) ((lvl x k).cs.getD (j-(k+1)) []) ((lvl x k).cs.getD (i-(k+1)) [])=mul (suf x (k+1)) ((lvl x k).cs.getD (i-(k+1)) []) (sig (suf x (k+1)) (lvl x k) (((x.zB.getD i []).getD (j-(i+1)) []).drop (k+1)))
 c3:sig (suf x (k+1)) (lvl x k) (lvl x k).w=(lvl x k).w
 c4:∀j,k+1≤j→j<x.zA.length→mul (suf x (k+1)) (lvl x k).w (iter (lvl x k).o.toNat (sig (suf x (k+1)) (lvl x k)) (xD (x.zA.length-(k+1)) (j-(k+1))))=mul (suf x (k+1)) (xD (x.zA.length-(k+1)) (j-(k+1))) (lvl x k).w
section
variable {x:SPr} (h:Pres x) {k:Nat} (hk:k<x.zA.length) (hc:wH (suf x (k+1)))
 include h hk
theorem zA5{j:Nat}(h1:k+1≤j)(h2:j<x.zA.length):ixO x.zB (k:Int)=iz (x.zB.getD k [])∧ixO (x.zB.getD k []) ((j:Int)-(k:Int)-1)=iz (fv (k+1) ((lvl x k).cs.getD (j-(k+1)) []))∧V (suf x (k+1)) ((lvl x k).cs.getD (j-(k+1)) []):=by
 obtain⟨c,c1,c2,c3,c4⟩:=zEW h hk (i:=j-(k+1)) (by omega)
 grind
theorem zSo{j:Nat}(h1:k+1≤j)(h2:j<x.zA.length):ixO x.zJ (j:Int)=iz (fv (k+1) ((x.zJ.getD j []).drop (k+1)))∧V (suf x (k+1)) ((x.zJ.getD j []).drop (k+1)):=by
 have t1:=(h.tl j h2).1;have hl:=h.pl
 grind[zDj,zX]
theorem zSp{i j:Nat}(h1:k+1≤i)(h2:i+1≤j)(h3:j<x.zA.length):ixO x.zB (i:Int)=iz (x.zB.getD i [])∧ixO (x.zB.getD i []) ((j:Int)-(i:Int)-1)=iz (fv (k+1) (((x.zB.getD i []).getD (j-(i+1)) []).drop (k+1)))∧V (suf x (k+1)) (((x.zB.getD i []).getD (j-(i+1)) []).drop (k+1)):=by
 obtain⟨_,t2,t3⟩:=h.tl i (by omega)
 grind[zDj,zX]
theorem zZr:ixO x.zJ (k:Int)=iz (fv (k+1) (lvl x k).w)∧V (suf x (k+1)) (lvl x k).w:=by have t1:=(h.tl k hk).1;have hl:=h.pl;obtain⟨e1,e2⟩:=zDj (k:=k+1) t1 (by omega) (by omega);exact⟨by rw[zX [] (by omega)];exact congrArg iz e1,e2⟩
theorem zYd{v:Vec}(hv:V (suf x (k+1)) v):V (suf x (k+1)) (sig (suf x (k+1)) (lvl x k) v):=by
 have ok0:=h.okAt (k:=k) (by omega)
 grind[yC,zDc]
theorem zJo{j:Nat}(h1:k+1≤j)(h2:j<x.zA.length):zK9 (x.zA.length:Int) (j:Int)=iz (fv (k+1) (xD (x.zA.length-(k+1)) (j-(k+1)))):=by
 have h6:=h.os.1;unfold zK9;rw[yX (by omega),bs,vY,K7,if_pos h2,bs,J6]
 congr 1
 rw[fv,zAX (by omega),←Jh];have e1:zeros (k+1)++zeros (j-(k+1))=zeros j:=by grind[zeros,Jd]
 have e2:J1 x.zA.length (0:Int)=zeros j++0::zeros (x.zA.length-(j+1)):=by simp only[zeros];rw[←Jv,Jd];grind
 grind[zEe]
theorem zQi{j:Nat}(h1:k+1≤j)(h2:j<x.zA.length):zI2 (x.zA.length:Int) (j:Int)=iz (fv (k+1) (xD (x.zA.length-(k+1)) (j-(k+1)))):=zJo h hk h1 h2
 include hc
theorem zAY{v:Vec}(hv:V (suf x (k+1)) v):f_M x k (fv (k+1) v)=iz (fv (k+1) (sig (suf x (k+1)) (lvl x k) v)):=by
 have h6:=h.os.1;have ok:=h.okAt (k:=k+1) (by omega);have ok0:=h.okAt (k:=k) (by omega);rw[yC hk]at ok0;obtain⟨fT,aD⟩:=zEv h.os (x.zA.length-(k+1)) (k+1) v (by omega) hv;have gD:(lvl x k).cs.length=x.zA.length-(k+1):=by rw[ok0.2.2.1,yI]
 have t2:=(h.tl k hk).2.1;have uz:=h.cl;have hA:∀i,V (suf x (k+1)) (img (mul (suf x (k+1))) ((lvl x k).cs.take i) (v.take i) (zeros (suf x (k+1)).length)):=fun i=>
  jZ (yY ok) _ _ (fun c hc=>ok0.2.2.2.1 c (by grind)) (wJ ok)
 unfold f_M;rw[zDh h (by omega) hv,yX (by omega),bs,zX [] (by omega),bs,zPm h (k:=k+1) (by omega)];have:=zQ (body:=zTJ x k (fv (k+1) v) (x.zB.getD k [])) (r:=fv (k+1) (sig (suf x (k+1)) (lvl x k) v))
  (fun i=>(fv (k+1) (img (mul (suf x (k+1))) ((lvl x k).cs.take i) (v.take i) (zeros (suf x (k+1)).length)),(i:Int))) (x.zB.getD k []).length (fun i hi=>by
  have hr:=aD i (by omega);obtain⟨c,c1,c2,c3,c4⟩:=zEW h hk (i:=i) (by omega);unfold zTJ;simp only
  rw[yM hi,zK,c2,bs,zI (by omega) (by omega),bs,zI (by omega) (by omega),bs,show(k:Int)+1+(i:Int)=((k+1+i:Nat):Int)from by omega,fv,zL2 (by omega),bs];rw[vT (S:=V (suf x (k+1))) (body:=zTI x (zeros (k+1)++c) (at0 v i)) (fun u=>fv (k+1) u) (fun u=>mul (suf x (k+1)) u c) (at0 v i) hr.1 (by grind[yY]) (fun u q hu hq=>by
   unfold zTI;simp only
   rw[iE hq,zK,zHK h (by omega) hc hu c3,bs,zI (by omega) (by omega),bs,cs]) (fun u hu=>by
   unfold zTI;simp) (hA i),bs,zI (by omega) (by omega),bs,cs]
  rw[zCe _ _ _ _ (by omega) (by omega),c4]) (by
  unfold zTJ;simp only
  rw[qD,zL,Jm (by omega),Jm (by omega)];rfl)
 simp only[Ko,img]at this
 grind
theorem zDk{a b:Vec}(ha:V (suf x (k+1)) a):IsB (zK8 (fv (k+1) a) (fv (k+1) b)) (a=b):=by
 have _:=hc;have h6:=h.os.1
 grind[zEw,zDh,IsB.of_bool,zZq]
theorem zL8{c:Vec}(ch:V (suf x (k+1)) c){e:Int}(e0:0≤e)(e1:e≤1000):zWn x ((k+1:Nat):Int) (fv (k+1) c) e=iz (fv (k+1) (pw (mul (suf x (k+1))) (zeros (suf x (k+1)).length) c e.toNat)):=by
 have h6:=h.os.1;have ok:=h.okAt (k:=k+1) (by omega);have G:=zHI h (k:=k+1) (by omega) hc;have hA:=zPl h (k:=k+1) (by omega);have pwV:∀a,V (suf x (k+1)) (pw (mul (suf x (k+1))) (zeros (suf x (k+1)).length) c a):=fun a=>tM G.toMon ch a
 unfold zWn;rw[yX (by omega),bs,zPm h (k:=k+1) (by omega)];obtain⟨r,r1,r2⟩:=zHL (body:=zPE x ((k+1:Nat):Int)) (Q:=fun r=>r=fv (k+1) (pw (mul (suf x (k+1))) (zeros (suf x (k+1)).length) c e.toNat))
  (fun s=> ∃(m a q:Nat),s=((m:Int),fv (k+1) (pw (mul (suf x (k+1))) (zeros (suf x (k+1)).length) c a),fv (k+1) (pw (mul (suf x (k+1))) (zeros (suf x (k+1)).length) c q))∧a+q*m=e.toNat∧m≤1000) (fun s=>s.1.toNat) (fun s ⟨m,a,q,hs,he,hm⟩=>by
   subst hs;unfold zPE;simp only
   by_cases hm0:m=0
   ·grind
   ·left
    have hr:yP (m:Int) 2=iz ((m%2:Nat):Int):=by rfl
    have hq:xN (m:Int) 2=iz ((m/2:Nat):Int):=by
     unfold xN;rw[if_neg (by decide),Hz (by omega)]
     grind[zI]
    have bq:=Nat.div_add_mod m 2;have bX:mul (suf x (k+1)) (pw (mul (suf x (k+1))) (zeros (suf x (k+1)).length) c q) (pw (mul (suf x (k+1))) (zeros (suf x (k+1)).length) c q)=pw (mul (suf x (k+1))) (zeros (suf x (k+1)).length) c (q+q):=(zHE G.toMon ch q q).symm;rw[iE (by omega),zK,hr,bs];rcases Nat.mod_two_eq_zero_or_one m with h2|h2
    ·rw[h2,show((((0:Nat):Int))==1)=iC from rfl,zL,hA _ _ (pwV q) (pwV q),bs,hq,bs,bX]
     refine⟨_,rfl,⟨m/2,a,q+q,rfl,?_,by omega⟩,by omega⟩
     grind
    ·rw[h2,show((((1:Nat):Int))==1)=iB from rfl,zK,hA _ _ (pwV a) (pwV q),bs,hA _ _ (pwV q) (pwV q),bs,hq,bs,bX,←zHE G.toMon ch a q]
     refine⟨_,rfl,⟨m/2,a+q,q+q,rfl,?_,by omega⟩,by omega⟩
     grind) 1000000 (e,fv (k+1) (zeros (suf x (k+1)).length),fv (k+1) c) (by omega) ⟨e.toNat,0,1,by rw[zSj G.toMon ch,show((e.toNat:Nat):Int)=e from by omega];rfl,by omega,by omega⟩
 grind
end
end Go.Pl

namespace Go.Pl
open Go Go.Ab Go.Wk Go.Pc
def yBL(o:Option yR)(P:Prop):Prop:=(o=iz (yR.mk 0 0 0 0)∧P)∨ ∃r,o=iz r∧r.Kind≠0∧ ¬P
theorem kb{a b c d:Int}(h:a≠0):(yR.mk a b c d).Kind≠0:=h
abbrev KB(r:yR):Prop:=r.Kind≠0
theorem zCf{o:Option Bool}{P:Prop}{bad:yR}{i:Nat}{g:Option (Int⊕(Unit⊕yR))}(h:IsB o P)(hi:i<9223372036854775807)(hbad:bad.Kind≠0)
  (hg:g=o.bind fun r=>cond (!r) (iz (.inr (.inr bad))) ((rng ((i:Int)+1)).bind fun v=>iz (.inl v))):(g=iz (.inl ((i+1:Nat):Int))∧P)∨(∃r,g=iz (.inr (.inr r))∧KB r∧ ¬P):=by
 rcases vZ h hi hg with h|⟨h1,h2⟩
 all_goals grind
section
variable {x:SPr} (h:Pres x) {k:Nat} (hk:k<x.zA.length) (hc:wH (suf x (k+1)))
 include h hk hc
theorem zHM:yBL (f_q x k) (LC x k):=by
 have h6:=h.os.1;have ok:=h.okAt (k:=k+1) (by omega);have G:=zHI h (k:=k+1) (by omega) hc;obtain⟨w1,w2⟩:=zZr h hk;have cm:∀v,V (suf x (k+1)) v→V (suf x (k+1)) (sig (suf x (k+1)) (lvl x k) v):=by grind[zYd]
 unfold f_q;rw[zI (by omega) (by omega),bs,cs];rcases zL7 (body:=zTO x k) x.zA.length (k+1) (by omega) (fun j=>pw (mul (suf x (k+1))) (zeros (suf x (k+1)).length) ((lvl x k).cs.getD (j-(k+1)) []) (at0 x.zA j).toNat=sig (suf x (k+1)) (lvl x k) ((x.zJ.getD j []).drop (k+1))) KB (fun j h1 h2 _=>by
   obtain⟨c1,c2,c3⟩:=zA5 h hk h1 h2;obtain⟨p1,p2⟩:=zSo h hk h1 h2;have fX:=(h.os.2 j h2).pos;refine zCf (zDk h hk hc (tM G.toMon c3 (at0 x.zA j).toNat)) (by omega) (bad:=yR.mk 1 k j 0) (kb (by decide)) ?_;unfold zTO;rw[yM h2,zK,c1,bs,zI (by omega) (by omega),bs,zI (by omega) (by omega),bs,c2,bs,yH h2,bs,zNo h (by omega) hc c3 (by omega) (by omega),bs,p1,bs,zAY h hk hc p2,bs]) (by
   unfold zTO;simp)with⟨g1,g2⟩|⟨r,j,j1,j2,g1,g2,g3⟩
 rotate_left
 ·rw[g1,bs]
  exact .inr ⟨r,rfl,g2,fun q=>g3 (q.c1 j j1 j2)⟩
 rw[g1,bs];simp only
 rw[bs];rcases zL7 (body:=zTQ x k) x.zA.length (k+1) (by omega) (fun i=> ∀j,i+1≤j→j<x.zA.length→
   mul (suf x (k+1)) ((lvl x k).cs.getD (j-(k+1)) []) ((lvl x k).cs.getD (i-(k+1)) [])=mul (suf x (k+1)) ((lvl x k).cs.getD (i-(k+1)) []) (sig (suf x (k+1)) (lvl x k) (((x.zB.getD i []).getD (j-(i+1)) []).drop (k+1)))) KB (fun i h1 h2 _=>by
   obtain⟨c1,c2,c3⟩:=zA5 h hk h1 h2;unfold zTQ;rw[yM h2,zK,zI (by omega) (by omega),bs,cs];rcases zL7 (body:=zTP x k i) x.zA.length (i+1) (by omega) (fun j=>mul (suf x (k+1)) ((lvl x k).cs.getD (j-(k+1)) []) ((lvl x k).cs.getD (i-(k+1)) [])=mul (suf x (k+1)) ((lvl x k).cs.getD (i-(k+1)) []) (sig (suf x (k+1)) (lvl x k) (((x.zB.getD i []).getD (j-(i+1)) []).drop (k+1)))) KB (fun j h3 h4 _=>by
     obtain⟨d1,d2,d3⟩:=zA5 h hk (j:=j) (by omega) h4;obtain⟨e1,e2,e3⟩:=zSp h hk h1 h3 h4;obtain⟨q,q1,q2,q3⟩:=zDi h (by omega) hc d3 c3;refine zCf ((zDk h hk hc (b:=sig (suf x (k+1)) (lvl x k) (((x.zB.getD i []).getD (j-(i+1)) []).drop (k+1))) q1).iff (Q:=mul (suf x (k+1)) ((lvl x k).cs.getD (j-(k+1)) []) ((lvl x k).cs.getD (i-(k+1)) [])=mul (suf x (k+1)) ((lvl x k).cs.getD (i-(k+1)) []) (sig (suf x (k+1)) (lvl x k) (((x.zB.getD i []).getD (j-(i+1)) []).drop (k+1)))) ?_) (by omega) (bad:=yR.mk 2 k i j) (kb (by decide)) ?_
     ·exact⟨by grind,fun e=>G.cancel_l c3 q1 (cm _ e3) (by rw[q2,e])⟩
     ·unfold zTP
      rw[yM h4,zK,d1,bs,zI (by omega) (by omega),bs,zI (by omega) (by omega),bs,d2,bs,bs,zI (by omega) (by omega),bs,zI (by omega) (by omega),bs,c2,bs,q3,bs,e1,bs,zI (by omega) (by omega),bs,zI (by omega) (by omega),bs,e2,bs,zAY h hk hc e3,bs]) (by
     unfold zTP;simp)with⟨g1,g2⟩|⟨r,j,j1,j2,g1,g2,g3⟩
   ·grind
   grind) (by
   unfold zTQ;simp)with⟨k1,k2⟩|⟨r,j,j1,j2,k1,k2,k3⟩
 rotate_left
 ·rw[k1,bs]
  exact .inr ⟨r,rfl,k2,fun q=>k3 (q.c2 j j1 j2)⟩
 rw[k1,bs];simp only
 rw[w1,bs,zAY h hk hc w2,bs];rcases zDk h hk hc (b:=(lvl x k).w) (cm _ w2)with⟨m1,m2⟩|⟨m1,m2⟩
 rotate_left
 ·rw[m1,bs,Kc,zK]
  exact .inr ⟨_,rfl,kb (by decide),fun q=>m2 q.c3⟩
 rw[m1,bs,J7,zL,bs];rcases zL7 (body:=zTS x k (fv (k+1) (lvl x k).w)) x.zA.length (k+1) (by omega) (fun j=>mul (suf x (k+1)) (lvl x k).w (iter (lvl x k).o.toNat (sig (suf x (k+1)) (lvl x k)) (xD (x.zA.length-(k+1)) (j-(k+1))))=mul (suf x (k+1)) (xD (x.zA.length-(k+1)) (j-(k+1))) (lvl x k).w) KB (fun j h1 h2 _=>by
   have hU:=zNn h (k:=k+1) (by omega) hc (i:=j-(k+1)) (by omega);have fX:=(h.os.2 k hk).pos;obtain⟨q,q1,q2,q3⟩:=zDi h (k:=k+1) (by omega) hc hU w2;have ez:V (suf x (k+1)) (iter (lvl x k).o.toNat (sig (suf x (k+1)) (lvl x k)) (xD (x.zA.length-(k+1)) (j-(k+1)))):=vP cm _ hU;refine zCf ((zDk h hk hc (b:=q) ez).iff ⟨by grind,fun e=>G.cancel_l w2 ez q1 (by rw[e,q2])⟩) (by omega) (bad:=yR.mk 4 k j 0) (kb (by decide)) ?_;unfold zTS;rw[yM h2,zK,zJo h hk h1 h2,bs,yH hk,bs];rw[vT (S:=V (suf x (k+1))) (body:=zTR x k (at0 x.zA k)) (fun u=>fv (k+1) u) (sig (suf x (k+1)) (lvl x k)) (at0 x.zA k) (by omega) cm (fun u i hu hi=>by
    unfold zTR;simp only
    rw[iE hi,zK,zAY h hk hc hu,bs,zI (by omega) (by omega),bs,cs]) (fun u hu=>by
    unfold zTR;simp) hU,bs,bs,q3,bs]
   rfl) (by
   unfold zTS;simp)with⟨n1,n2⟩|⟨r,j,j1,j2,n1,n2,n3⟩
 ·rw[n1,bs]
  exact .inl ⟨rfl,⟨g2,k2,m2,n2⟩⟩
 ·rw[n1,bs]
  exact .inr ⟨r,rfl,n2,fun q=>n3 (q.c4 j j1 j2)⟩
theorem zNp:yBL (f_r x k) (LC x k):=by
 have h6:=h.os.1;have ok:=h.okAt (k:=k+1) (by omega);have G:=zHI h (k:=k+1) (by omega) hc;obtain⟨w1,w2⟩:=zZr h hk;have hA:=zPl h (k:=k+1) (by omega);have hI:=zNl h hk;have cm:∀v,V (suf x (k+1)) v→V (suf x (k+1)) (sig (suf x (k+1)) (lvl x k) v):=by grind[zYd]
 have eqB:∀{a b:Vec},V (suf x (k+1)) a→IsB (f_S (fv (k+1) a) (fv (k+1) b)) (a=b):=fun ha=>zDk h hk hc ha
 unfold f_r;rw[zI (by omega) (by omega),bs,cs];rcases zL7 (body:=zTy x k) x.zA.length (k+1) (by omega) (fun j=>pw (mul (suf x (k+1))) (zeros (suf x (k+1)).length) ((lvl x k).cs.getD (j-(k+1)) []) (at0 x.zA j).toNat=sig (suf x (k+1)) (lvl x k) ((x.zJ.getD j []).drop (k+1))) KB (fun j h1 h2 _=>by
   obtain⟨c1,c2,c3⟩:=zA5 h hk h1 h2;obtain⟨p1,p2⟩:=zSo h hk h1 h2;have fX:=(h.os.2 j h2).pos;refine zCf (eqB (tM G.toMon c3 (at0 x.zA j).toNat)) (by omega) (bad:=yR.mk 1 k j 0) (kb (by decide)) ?_;unfold zTy;rw[yM h2,zK,zI (by omega) (by omega),bs,cs,c1,bs,zI (by omega) (by omega),bs,zI (by omega) (by omega),bs,c2,bs,yH h2,bs,zL8 h hk hc c3 (by omega) (by omega),bs,p1,bs,hI _ p2,bs]) (by
   unfold zTy;simp)with⟨g1,g2⟩|⟨r,j,j1,j2,g1,g2,g3⟩
 rotate_left
 ·rw[g1,bs]
  exact .inr ⟨r,rfl,g2,fun q=>g3 (q.c1 j j1 j2)⟩
 rw[g1,bs];simp only
 rw[bs];rcases zL7 (body:=zT0 x k) x.zA.length (k+1) (by omega) (fun i=> ∀j,i+1≤j→j<x.zA.length→
   mul (suf x (k+1)) ((lvl x k).cs.getD (j-(k+1)) []) ((lvl x k).cs.getD (i-(k+1)) [])=mul (suf x (k+1)) ((lvl x k).cs.getD (i-(k+1)) []) (sig (suf x (k+1)) (lvl x k) (((x.zB.getD i []).getD (j-(i+1)) []).drop (k+1)))) KB (fun i h1 h2 _=>by
   obtain⟨c1,c2,c3⟩:=zA5 h hk h1 h2;unfold zT0;rw[yM h2,zK,zI (by omega) (by omega),bs,cs];rcases zL7 (body:=zTz x k i) x.zA.length (i+1) (by omega) (fun j=>mul (suf x (k+1)) ((lvl x k).cs.getD (j-(k+1)) []) ((lvl x k).cs.getD (i-(k+1)) [])=mul (suf x (k+1)) ((lvl x k).cs.getD (i-(k+1)) []) (sig (suf x (k+1)) (lvl x k) (((x.zB.getD i []).getD (j-(i+1)) []).drop (k+1)))) KB (fun j h3 h4 _=>by
     obtain⟨d1,d2,d3⟩:=zA5 h hk (j:=j) (by omega) h4;obtain⟨e1,e2,e3⟩:=zSp h hk h1 h3 h4;refine zCf (eqB (yY ok d3 c3)) (by omega) (bad:=yR.mk 2 k i j) (kb (by decide)) ?_;unfold zTz;rw[yM h4,zK,d1,bs,zI (by omega) (by omega),bs,zI (by omega) (by omega),bs,c2,bs,bs,zI (by omega) (by omega),bs,zI (by omega) (by omega),bs,d2,bs,e1,bs,zI (by omega) (by omega),bs,zI (by omega) (by omega),bs,e2,bs,hI _ e3,bs,zI (by omega) (by omega),bs,cs,hA _ _ d3 c3,bs,bs,hA _ _ c3 (cm _ e3),bs]) (by
     unfold zTz;simp)with⟨g1,g2⟩|⟨r,j,j1,j2,g1,g2,g3⟩
   ·grind
   grind) (by
   unfold zT0;simp)with⟨k1,k2⟩|⟨r,j,j1,j2,k1,k2,k3⟩
 rotate_left
 ·rw[k1,bs]
  exact .inr ⟨r,rfl,k2,fun q=>k3 (q.c2 j j1 j2)⟩
 rw[k1,bs];simp only
 rw[w1,bs,hI _ w2,bs];rcases eqB (b:=(lvl x k).w) (cm _ w2)with⟨m1,m2⟩|⟨m1,m2⟩
 rotate_left
 ·rw[m1,bs,Kc,zK]
  exact .inr ⟨_,rfl,kb (by decide),fun q=>m2 q.c3⟩
 rw[m1,bs,J7,zL,bs];rcases zL7 (body:=zT2 x k (fv (k+1) (lvl x k).w)) x.zA.length (k+1) (by omega) (fun j=>mul (suf x (k+1)) (lvl x k).w (iter (lvl x k).o.toNat (sig (suf x (k+1)) (lvl x k)) (xD (x.zA.length-(k+1)) (j-(k+1))))=mul (suf x (k+1)) (xD (x.zA.length-(k+1)) (j-(k+1))) (lvl x k).w) KB (fun j h1 h2 _=>by
   have hU:=zNn h (k:=k+1) (by omega) hc (i:=j-(k+1)) (by omega);have fX:=(h.os.2 k hk).pos;have ez:V (suf x (k+1)) (iter (lvl x k).o.toNat (sig (suf x (k+1)) (lvl x k)) (xD (x.zA.length-(k+1)) (j-(k+1)))):=vP cm _ hU;refine zCf (eqB (yY ok w2 ez)) (by omega) (bad:=yR.mk 4 k j 0) (kb (by decide)) ?_;unfold zT2;rw[yM h2,zK,zQi h hk h1 h2,bs];rw[vT (S:=V (suf x (k+1))) (body:=zT1 x k) (fun u=>fv (k+1) u) (sig (suf x (k+1)) (lvl x k)) (at0 x.zA k) (by omega) cm (fun u i hu hi=>by
    unfold zT1;simp only
    rw[yH hk,bs,iE hi,zK,hI _ hu,bs,zI (by omega) (by omega),bs,cs]) (fun u hu=>by
    unfold zT1;simp only
    rw[yH hk,bs,iD (by omega),zL]) hU,bs,zI (by omega) (by omega),bs,cs]
   have ho:(lvl x k).o=at0 x.zA k:=rfl;rw[←ho,hA _ _ w2 ez,bs,bs,hA _ _ hU w2,bs]) (by
   unfold zT2;simp)with⟨n1,n2⟩|⟨r,j,j1,j2,n1,n2,n3⟩
 ·rw[n1,bs]
  exact .inl ⟨rfl,⟨g2,k2,m2,n2⟩⟩
 ·rw[n1,bs]
  exact .inr ⟨r,rfl,n2,fun q=>n3 (q.c4 j j1 j2)⟩
end
end Go.Pl

namespace Go.Pl
open Go Go.Ab Go.Wk Go.Pc
theorem zFP{m:Vec→Vec→Vec}:∀(i:Nat)(cs:List Vec)(w acc:Vec),i≤cs.length→img m cs (zeros i++w) acc=img m (cs.drop i) w acc
 |0,cs,w,acc,_=>rfl
 |i+1,[],w,acc,h=>by simp at h
 |i+1,c::cs,w,acc,h=>by show img m (c::cs) (0::(zeros i++w)) acc=_;simp only[img,Hy,iter,List.drop_succ_cons];exact zFP i cs w acc (by grind)
theorem zHN{x:SPr}{v:List Int}{j k:Nat}(h:Exp x.zA v j)(hj:j<x.zA.length)(hk:k≤j+1):v.drop k=zeros (j+1-k)++v.drop (j+1):=by
 have:=zBc h hj
 grind[zeros]
section
variable {x:SPr} (h:zEd x) {k:Nat} (hk:k<x.zA.length)
 include h hk
theorem zBd:(lvl x k).cs.length=x.zA.length-(k+1):=by have ok0:=h.okAt (k:=k) (by omega);rw[yC hk]at ok0;rw[ok0.2.2.1,yI]
theorem zVG{j:Nat}(h1:k+1≤j)(h2:j<x.zA.length):sig (suf x (k+1)) (lvl x k) ((x.zJ.getD j []).drop (k+1))=img (mul (suf x (k+1))) ((lvl x k).cs.drop (j-k)) (lvl x j).w (zeros (suf x (k+1)).length):=by have t1:=(h.tl j h2).1;have gD:=zBd h hk;rw[zHN t1 h2 (by omega),sig,zFP _ _ _ _ (by omega),show j+1-(k+1)=j-k from by omega];rfl
theorem zPn:∀(d i:Nat),k+1+i+d=x.zA.length→(Rel (mul (suf x (k+1))) (zeros (suf x (k+1)).length) (suf x (k+1+i)) ((lvl x k).cs.drop i)↔
  (∀j,k+1+i≤j→j<x.zA.length→pw (mul (suf x (k+1))) (zeros (suf x (k+1)).length) ((lvl x k).cs.getD (j-(k+1)) []) (at0 x.zA j).toNat=sig (suf x (k+1)) (lvl x k) ((x.zJ.getD j []).drop (k+1)))∧
  (∀a,k+1+i≤a→a<x.zA.length→ ∀j,a+1≤j→j<x.zA.length→
   mul (suf x (k+1)) ((lvl x k).cs.getD (j-(k+1)) []) ((lvl x k).cs.getD (a-(k+1)) [])=mul (suf x (k+1)) ((lvl x k).cs.getD (a-(k+1)) []) (sig (suf x (k+1)) (lvl x k) (((x.zB.getD a []).getD (j-(a+1)) []).drop (k+1)))))
 |0,i,hi=>by
  have gD:=zBd h hk;rw[vQ (x:=x) (k:=k+1+i) (by omega),Ga (by omega)];simp only[Rel,true_iff]
  grind
 |d+1,i,hi=>by
  have gD:=zBd h hk;have ih:=zPn d (i+1) (by omega);rw[show k+1+(i+1)=k+1+i+1 from by omega]at ih;have hj:k+1+i<x.zA.length:=by omega
  have hg:(lvl x k).cs.drop i=(lvl x k).cs.getD i []::(lvl x k).cs.drop (i+1):=by rw[G8 (by omega),J2,J5 (by omega)];rfl
  rw[yC hj,hg];simp only[Rel];rw[ih];have e1:=zVG h hk (j:=k+1+i) (by omega) hj;rw[show k+1+i-k=i+1 from by omega]at e1;have ho:(lvl x (k+1+i)).o=at0 x.zA (k+1+i):=rfl;rw[ho,←e1];have e2:∀j,k+1+i+1≤j→j<x.zA.length→ ∀dd,(lvl x (k+1+i)).cs[j-(k+1+i+1)]? =iz dd→img (mul (suf x (k+1))) ((lvl x k).cs.drop (i+1)) dd (zeros (suf x (k+1)).length)=sig (suf x (k+1)) (lvl x k) (((x.zB.getD (k+1+i) []).getD (j-(k+1+i+1)) []).drop (k+1)):=fun j h1 h2 dd hdd=>by
   obtain⟨_,t2,t3⟩:=h.tl (k+1+i) hj;have t:=t3 (j-(k+1+i+1)) (by omega);rw[zHN t hj (by omega),sig,zFP _ _ _ _ (by omega),show k+1+i+1-(k+1)=i+1 from by omega]
   congr 1
   simp only[lvl,Jn,Ke]at hdd
   grind
  have e3:∀j,k+1+i+1≤j→j<x.zA.length→((lvl x k).cs.drop (i+1))[j-(k+1+i+1)]? =iz ((lvl x k).cs.getD (j-(k+1)) [])∧ ∃dd,(lvl x (k+1+i)).cs[j-(k+1+i+1)]? =iz dd:=fun j h1 h2=>by
   have uz:=zBd h hj;refine⟨?_,?_⟩
   ·rw[Lh,show i+1+(j-(k+1+i+1))=j-(k+1)from by omega,J2,J5 (by omega)];rfl
   ·exact⟨_,J5 (by omega)⟩
  constructor
  ·rintro⟨a1,a2,a3,a4⟩
   refine⟨fun j h1 h2=>?_,fun a h1 h2 j h3 h4=>?_⟩
   ·rcases Jg (k+1+i) j with gH|hge
    ·grind
    ·obtain rfl:j=k+1+i:=by omega
     rw[show k+1+i-(k+1)=i from by omega];exact a1
   ·rcases Jg (k+1+i) a with gH|hge
    ·exact a4 a (by omega) h2 j h3 h4
    ·obtain rfl:a=k+1+i:=by omega
     obtain⟨f1,dd,f2⟩:=e3 j (by omega) h4;have:=a2 _ _ _ f1 f2;rw[e2 j (by omega) h4 dd f2]at this;rw[show k+1+i-(k+1)=i from by omega];exact this
  ·rintro⟨a1,a2⟩
   refine⟨?_,fun kk c dd h1 h2=>?_,by grind,by grind⟩
   ·have:=a1 (k+1+i) (by omega) hj
    rw[show k+1+i-(k+1)=i from by omega]at this;exact this
   ·have gH:kk<x.zA.length-(k+1+i+1):=by
     have:=(Je.1 h1).1;rw[Lb]at this;omega
    have g:=a2 (k+1+i) (by omega) hj (k+1+i+1+kk) (by omega) (by omega);obtain⟨f1,_⟩:=e3 (k+1+i+1+kk) (by omega) (by omega);rw[show k+1+i+1+kk-(k+1+i+1)=kk from by omega]at f1 g;rw[h1]at f1;have f1:=Km.inj f1;have g2:=e2 (k+1+i+1+kk) (by omega) (by omega) dd (by rw[show k+1+i+1+kk-(k+1+i+1)=kk from by omega];exact h2);rw[show k+1+i+1+kk-(k+1+i+1)=kk from by omega]at g2;rw[g2,f1];rw[show k+1+i-(k+1)=i from by omega]at g;exact g
theorem zA6:wH (suf x k)↔wH (suf x (k+1))∧LC x k:=by
 have hr:=zPn h hk (x.zA.length-(k+1)) 0 (by omega);have hl:=yI x (k+1);rw[Hw,Qm]at hr;rw[yC hk];simp only[wH];rw[hr];constructor
 ·rintro⟨a,⟨b1,b2⟩,c,d⟩
  refine⟨a,⟨b1,b2,c,fun j h1 h2=>?_⟩⟩
  grind
 ·rintro⟨a,b⟩
  refine⟨a,⟨b.c1,b.c2⟩,b.c3,fun j hj=>?_⟩;have:=b.c4 (k+1+j) (by omega) (by omega);rw[show k+1+j-(k+1)=j from by omega]at this
  rwa [hl]
end
theorem zCg{x:SPr}(h:wH (suf x 0))(k:Nat):wH (suf x k):=by
 have:=zEX h k
 grind
def zBn(x:SPr):Prop:=Pres x∧wH (suf x 0)∧qJ x
theorem zEZ{x:SPr}(hl:x.zA.length≤1048576):IsB (zWs x) (zBn x):=by
 unfold zWs;rcases zDU hl with⟨h1,h2⟩|⟨h1,h2⟩
 ·have h6:=h2.os.1
  rw[h1,bs,zK];unfold zQI;obtain⟨r,r1,r2⟩:=uL (body:=zG3 x) (Q:=fun r=> ∃s:Nat,r=(s:Int)∧wH (suf x s)∧(s=0∨ ¬wH (suf x (s-1)))) (fun i s=>i≤x.zA.length∧s=((x.zA.length-i:Nat):Int)∧wH (suf x (x.zA.length-i))) x.zA.length (fun i s hi ⟨_,hs,gR⟩=>by
    subst hs;have hk:x.zA.length-i-1<x.zA.length:=by omega
    have e9:x.zA.length-(i+1)=x.zA.length-i-1:=by omega
    rw[e9];have e8:i+1≤x.zA.length:=by omega
    rw[show x.zA.length-i=x.zA.length-i-1+1 from by omega]at gR ⊢
    have cV:=zHM h2.toPres hk gR;have cb:=zA6 h2.toPres.w hk
    generalize x.zA.length-i-1=k at*
    unfold zG3;rw[iE (by omega),zK,zI (by omega) (by omega),bs,show(((k+1:Nat):Int)-1)=(k:Int)from by omega];rcases cV with⟨g1,g2⟩|⟨r,g1,g2,g3⟩
    ·simp_all
    grind) (fun s ⟨_,hs,gR⟩=>by
    rw[Kl]at hs gR;subst hs;unfold zG3
    grind) (s:=(x.zA.length:Int)) ⟨by omega,by rfl,by rw[Gw,vQ (by omega)];simp only[wH]⟩
  obtain⟨s,rfl,gR,hs⟩:=r2;rw[r1,bs,bs];cases s with
  |zero=>exact .inl ⟨rfl,h2.toPres,gR,h2⟩
  |succ s=>
   refine .inr ⟨?_,fun q=>?_⟩
   ·congr 1
   ·rcases hs with hs|hs
    ·omega
    ·exact hs (zCg q.2.1 _)
 ·rw[h1,bs,zL]
  exact .inr ⟨rfl,fun q=>h2 q.2.2⟩
theorem zHO{x:SPr}(hl:x.zA.length≤1048576):IsB (zT3 x) (zBn x):=by
 unfold zT3;rcases uW hl with⟨h1,h2⟩|⟨h1,h2⟩
 ·have h6:=h2.os.1
  rw[h1,bs,zK];unfold zZR zZQ;rw[zI (by omega) (by omega),bs];obtain⟨r,r1,r2⟩:=uL (body:=zMn x) (Q:=fun r=>(r=.inl ()∧wH (suf x 0))∨ ∃f,r=.inr f∧f.Kind≠0∧ ¬wH (suf x 0)) (fun i s=>i≤x.zA.length∧s=((x.zA.length-i:Nat):Int)-1∧wH (suf x (x.zA.length-i))) x.zA.length (fun i s hi ⟨_,hs,gR⟩=>by
    subst hs;have hk:x.zA.length-i-1<x.zA.length:=by omega
    have e9:x.zA.length-(i+1)=x.zA.length-i-1:=by omega
    rw[e9];have e8:i+1≤x.zA.length:=by omega
    rw[show x.zA.length-i=x.zA.length-i-1+1 from by omega]at gR ⊢
    have cV:=zNp h2.toPres hk gR;have cb:=zA6 h2.toPres.w hk
    generalize x.zA.length-i-1=k at*
    unfold zMn;rw[show(((k+1:Nat):Int)-1)=(k:Int)from by omega,iE (by omega),zK];rcases cV with⟨g1,g2⟩|⟨r,g1,g2,g3⟩
    ·left
     rw[g1,bs];simp only
     rw[show((0:Int) != 0)=iC from rfl,zL,zI (by omega) (by omega),bs]
     grind
    ·right
     rw[g1,bs,show(r.Kind != 0)=iB from by grind,zK];exact⟨_,rfl,.inr ⟨r,rfl,g2,by grind[zCg]⟩⟩) (fun s ⟨_,hs,gR⟩=>by
    rw[Kl]at hs gR;subst hs;unfold zMn
    grind) (s:=(x.zA.length:Int)-1) ⟨by omega,by rfl,by rw[Gw,vQ (by omega)];simp only[wH]⟩
  rw[r1,bs];rcases r2 with⟨rfl,q⟩|⟨f,rfl,g1,g2⟩
  ·exact .inl ⟨rfl,h2.toPres,q,h2⟩
  ·simp only
   rw[bs,show(f.Kind==0)=iC from by grind];exact .inr ⟨rfl,fun q=>g2 q.2.1⟩
 ·rw[h1,bs,zL]
  exact .inr ⟨rfl,fun q=>h2 q.2.2⟩
end Go.Pl

namespace Go.Pl
open Go Go.Ab Go.Wk
abbrev Mx:=List (List Int)
def S:Nat→(Nat→Int)→Int
 |0,_=>0
 |n+1,f=>S n f+f n
theorem wK{n:Nat}{f g:Nat→Int}(h:∀i,i<n→f i=g i):S n f=S n g:=by
 induction n with
 |zero=>rfl
 |succ n ih=>grind[S]
theorem zAP{p:Int}{f g:Nat→Int}:∀{n:Nat},(∀i,i<n→f i%p=g i%p)→S n f%p=S n g%p
 |0,_=>rfl
 |n+1,h=>by simp only[S];rw[Jx,zAP (n:=n) fun i hi=>h i (by omega),h n (by omega),←Jx]
theorem kD:∀n:Nat,S n (fun _=>0)=0
 |0=>rfl
 |n+1=>by simp only[S,kD n];rfl
theorem zFa{f g:Nat→Int}:∀n:Nat,S n (fun i=>f i+g i)=S n f+S n g
 |0=>rfl
 |n+1=>by simp only[S,zFa n];omega
theorem zL9{f:Nat→Int}(a:Int):∀n:Nat,S n (fun i=>f i*a)=S n f*a
 |0=>by simp[S]
 |n+1=>by simp only[S,zL9 a n,Int.add_mul]
theorem zBo{f:Nat→Int}(a:Int):∀n:Nat,S n (fun i=>a*f i)=a*S n f
 |0=>by simp[S]
 |n+1=>by simp only[S,zBo a n,Int.mul_add]
theorem zHP{f:Nat→Nat→Int}(m:Nat):∀n:Nat,S n (fun i=>S m (fun j=>f i j))=S m (fun j=>S n (fun i=>f i j))
 |0=>by simp only[S];grind[kD]
 |n+1=>by simp only[S];rw[zHP m n,zFa]
theorem zB8{f:Nat→Int}{k:Nat}:∀{n:Nat},k<n→(∀i,i<n→i≠k→f i=0)→S n f=f k
 |0,h,_=>by omega
 |n+1,h,hz=>by
  simp only[S]
  by_cases hk:k=n
  ·subst hk
   rw[wK (g:=fun _=>0) fun i hi=>hz i (by omega) (by omega),kD];omega
  ·rw[zB8 (n:=n) (by omega) fun i hi=>hz i (by omega),hz n (by omega) (by omega)];omega
def mkv(D:Nat)(f:Nat→Int):List Int:=(Ji D).map f
theorem yE(D:Nat)(f:Nat→Int):(mkv D f).length=D:=by simp[mkv]
theorem zDD{D:Nat}{f:Nat→Int}{i:Nat}(h:i<D):(mkv D f)[i]? =iz (f i):=by simp[mkv,h]
theorem zS{D:Nat}{f:Nat→Int}{i:Nat}(h:i<D):at0 (mkv D f) i=f i:=by rw[at0,J2,zDD h];rfl
theorem yD{D:Nat}{f g:Nat→Int}(h:∀i,i<D→f i=g i):mkv D f=mkv D g:=by grind[mkv,Gv]
theorem kE{D:Nat}{f:Nat→Int}{j:Nat}{a:Int}:(mkv D f).set j a=mkv D (fun i=>if i=j then a else f i):=by
 apply Kk;intro i;rw[Qx,yE]
 by_cases hi:i<D
 ·by_cases gV:j=i
  ·subst gV;rw[if_pos rfl,if_pos hi,zDD hi,if_pos rfl]
  ·rw[if_neg gV,zDD hi,zDD hi,if_neg fun h=>gV h.symm]
 ·have h1:∀g:Nat→Int,(mkv D g)[i]? =iA:=by grind[yE]
  grind
theorem wT{v:List Int}{D:Nat}(h:v.length=D):v=mkv D (at0 v):=by
 apply Kk;intro i
 by_cases hi:i<D
 ·rw[zDD hi,at0,J2,J5 (by omega)];rfl
 grind[yE]
theorem uO(D:Nat):J1 D (0:Int)=mkv D (fun _=>0):=by
 apply Kk
 grind[zDD,yE]
abbrev ent(B:Mx)(l j:Nat):Int:=at0 (B.getD l []) j
def xL(p:Int)(D:Nat)(r:List Int)(B:Mx):List Int:=mkv D fun j=>S D (fun l=>at0 r l*ent B l j)%p
def PM(p:Int)(D:Nat)(A B:Mx):Mx:=A.map fun r=>xL p D r B
def idM(D:Nat):Mx:=(Ji D).map fun i=>mkv D fun j=>if j=i then 1 else 0
def Row(p:Int)(D:Nat)(r:List Int):Prop:=r.length=D∧ ∀i,i<D→0≤at0 r i∧at0 r i≤p-1
def Mat(p:Int)(D:Nat)(A:Mx):Prop:=A.length=D∧ ∀i,i<D→Row p D (A.getD i [])
theorem zCx{p:Int}{D i:Nat}{A B:Mx}(h:i<A.length):(PM p D A B).getD i []=xL p D (A.getD i []) B:=by grind[PM]
theorem uM{p:Int}{D:Nat}{A B:Mx}:(PM p D A B).length=A.length:=by simp[PM]
theorem zDl{p:Int}{D:Nat}{A B:Mx}(hp:0<p)(hA:A.length=D):Mat p D (PM p D A B):=by refine⟨by rw[uM,hA],fun i hi=>?_⟩;rw[zCx (by omega)];refine⟨by rw[xL,yE],fun j hj=>?_⟩;rw[xL,zS hj];have h1:=Kz (S D fun l=>at0 (A.getD i []) l*ent B l j) (show p≠0 by omega);have h2:=Kh (S D fun l=>at0 (A.getD i []) l*ent B l j) hp;omega
theorem zNq{p:Int}{D i j:Nat}{A B:Mx}(hA:A.length=D)(hi:i<D)(hj:j<D):ent (PM p D A B) i j=S D (fun l=>ent A i l*ent B l j)%p:=by rw[ent,zCx (by omega),xL,zS hj]
theorem zFQ{D:Nat}{A B:Mx}(hA:A.length=D)(hB:B.length=D)(h:∀i,i<D→A.getD i []=B.getD i []):A=B:=by
 apply Kk
 grind
theorem zLA{p:Int}{D:Nat}{A B C:Mx}(hA:A.length=D)(hB:B.length=D):PM p D (PM p D A B) C=PM p D A (PM p D B C):=by
 refine zFQ (by rw[uM,uM,hA]) (by rw[uM,hA]) fun i hi=>?_
 rw[zCx (A:=PM p D A B) (by rw[uM];omega),zCx (A:=A) (B:=PM p D B C) (by omega)];unfold xL;refine yD fun j hj=>?_
 have e1:S D (fun l=>at0 ((PM p D A B).getD i []) l*ent C l j)%p=S D (fun l=>S D (fun q=>ent A i q*ent B q l)*ent C l j)%p:=zAP fun l hl=>by
  have:=zNq (p:=p) (B:=B) hA hi hl;simp only[ent]at this ⊢
  rw[this,Jk,Jr,←Jk]
 have e2:S D (fun l=>at0 (A.getD i []) l*ent (PM p D B C) l j)%p=S D (fun q=>ent A i q*S D (fun l=>ent B q l*ent C l j))%p:=zAP fun q hq=>by rw[zNq hB hq hj,Jk,Jr,←Jk]
 rw[e1,e2]
 congr 1
 have e3:(fun l=>S D (fun q=>ent A i q*ent B q l)*ent C l j)=fun l=>S D (fun q=>ent A i q*ent B q l*ent C l j):=funext fun l=>(zL9 _ _).symm
 have e4:(fun q=>ent A i q*S D (fun l=>ent B q l*ent C l j))=fun q=>S D (fun l=>ent A i q*ent B q l*ent C l j):=funext fun q=>by rw[←zBo];exact wK fun l _=>by rw[Lo]
 rw[e3,e4];exact zHP D D
theorem kX(D:Nat):(idM D).length=D:=by simp[idM]
theorem zDE{D i:Nat}(h:i<D):(idM D).getD i []=mkv D fun j=>if j=i then 1 else 0:=by simp[idM,J2,h]
theorem sS{p:Int}{D:Nat}(hp:2≤p):Mat p D (idM D):=by
 refine⟨kX D,fun i hi=>?_⟩;rw[zDE hi];refine⟨yE _ _,fun j hj=>?_⟩
 grind[zS]
theorem tC{p a:Int}(h:0≤a∧a≤p-1):a%p=a:=Jz h.1 (by omega)
theorem zB9{p:Int}{D:Nat}{B:Mx}(hB:Mat p D B):PM p D (idM D) B=B:=by
 refine zFQ (by rw[uM,kX]) hB.1 fun i hi=>?_
 rw[zCx (by grind[kX]),zDE hi,xL];obtain⟨h1,h2⟩:=hB.2 i hi;refine Eq.trans (yD fun j hj=>?_) (wT h1).symm;rw[zB8 (k:=i) hi fun l hl gf=>by rw[zS hl,if_neg gf,Ge],zS hi,if_pos rfl,Hc]
 grind[tC]
theorem zDm{p:Int}{D:Nat}{A:Mx}(hA:Mat p D A):PM p D A (idM D)=A:=by
 refine zFQ (by rw[uM,hA.1]) hA.1 fun i hi=>?_
 rw[zCx (by rw[hA.1];exact hi),xL];obtain⟨h1,h2⟩:=hA.2 i hi;refine Eq.trans (yD fun j hj=>?_) (wT h1).symm;rw[zB8 (k:=j) hj fun l hl gf=>by rw[ent,zDE hl,zS hj,if_neg (fun h=>gf h.symm),H3],ent,zDE hj,zS hj,if_pos rfl,Lq]
 grind[tC]
theorem zSq{p:Int}{D i j:Nat}{B:Mx}(hB:Mat p D B)(hi:i<D)(hj:j<D):ixO B (i:Int)=iz (B.getD i [])∧ixO (B.getD i []) (j:Int)=iz (ent B i j)∧(B.getD i []).length=D∧0≤ent B i j∧ent B i j≤p-1:=by
 obtain⟨h1,h2⟩:=hB.2 i hi
 grind[zX]
def acc(p:Int)(D i:Nat)(r:List Int)(B:Mx):List Int:=mkv D fun j=>S i (fun l=>at0 r l*ent B l j)%p
def zDV(p:Int)(D i k:Nat)(r:List Int)(B:Mx):List Int:=mkv D fun j=>if j<k then S (i+1) (fun l=>at0 r l*ent B l j)%p else S i (fun l=>at0 r l*ent B l j)%p
theorem zJp{p:Int}{D i:Nat}{r:List Int}{B:Mx}:zDV p D i 0 r B=acc p D i r B:=rfl
theorem zJq{p:Int}{D i:Nat}{r:List Int}{B:Mx}:zDV p D i D r B=acc p D (i+1) r B:=yD (by omega)
theorem zLB{p:Int}{D i k:Nat}{r:List Int}{B:Mx}(hk:k<D){a:Int}(ha:a=(at0 (zDV p D i k r B) k+at0 r i*ent B i k)%p):(zDV p D i k r B).set k a=zDV p D i (k+1) r B:=by
 subst ha;simp only[zDV];rw[kE,zS hk,if_neg (by omega)];refine yD fun j hj=>?_
 by_cases hjk:j=k
 ·subst hjk
  rw[if_pos rfl,if_pos (by omega)]
  grind[S,Ua]
 omega
theorem zLC{p:Int}{D i k j:Nat}{r:List Int}{B:Mx}(hp:0<p)(hj:j<D):0≤at0 (zDV p D i k r B) j∧at0 (zDV p D i k r B) j≤p-1:=by
 rw[zDV,zS hj];split
 ·have h1:=Kz (S (i+1) fun l=>at0 r l*ent B l j) (show p≠0 by omega)
  have h2:=Kh (S (i+1) fun l=>at0 r l*ent B l j) hp;omega
 ·have h1:=Kz (S i fun l=>at0 r l*ent B l j) (show p≠0 by omega)
  have h2:=Kh (S i fun l=>at0 r l*ent B l j) hp;omega
theorem zHQ{p:Int}{D i k:Nat}{r:List Int}{B:Mx}:(zDV p D i k r B).length=D:=yE _ _
theorem zPo{p:Int}{D i k j:Nat}{r:List Int}{B:Mx}(hj:j<D):ixO (zDV p D i k r B) (j:Int)=iz (at0 (zDV p D i k r B) j):=by grind[yH,zHQ]
theorem zLD{p:Int}{D:Nat}{r:List Int}{B:Mx}:J1 D (0:Int)=acc p D 0 r B:=by rw[uO];rfl
theorem zJr{a b p:Int}(hp:p≤7)(ha:0≤a∧a≤p-1)(hb:0≤b∧b≤p-1):0≤a*b∧a*b≤36:=by have h1:0≤a*b:=Hl ha.1 hb.1;have h2:a*b≤6*6:=L9 (by omega) (by omega) hb.1 (by omega);omega
section
variable {p:Int}{D:Nat} (hp:Prime p) (hD:D≤8)
 include hp hD
theorem zEx{r:List Int}{B:Mx}(hr:Row p D r)(hB:Mat p D B):f_H p r B (D:Int)=iz (xL p D r B):=by
 have h7:=hp.pos;have aT:=hB.1;have eJ:=hr.1;unfold f_H;rw[yX (by omega),bs,zLD (p:=p) (r:=r) (B:=B)];have:=zQ (body:=zNT p r B) (r:=acc p D D r B) (fun i=>(acc p D i r B,(i:Int))) D (fun i hi=>by
  have dp:=hr.2 i hi;unfold zNT;simp only
  rw[eJ,aT,yM hi,zK,zK];have inner:=zQ (body:=zQE p r B (acc p D i r B,(i:Int))) (r:=acc p D (i+1) r B) (fun k=>(zDV p D i k r B,(k:Int))) D (fun k hk=>by
   obtain⟨b1,b2,b3,b4⟩:=zSq hB hi hk;have ha:=zLC (p:=p) (i:=i) (k:=k) (r:=r) (B:=B) (by omega) hk;have hm:=zJr (by omega) dp b4;unfold zQE;simp only
   rw[zHQ,yM hk,zK,b1,bs,b3,yM hk,zK,zPo hk,bs,yH (by omega),bs,bs,b2,bs,zI (by omega) (by omega),bs,zI (by omega) (by omega),bs];have dt:yP (at0 (zDV p D i k r B) k+at0 r i*ent B i k) p=iz ((at0 (zDV p D i k r B) k+at0 r i*ent B i k)%p):=by
    unfold yP
    grind
   rw[dt,bs,bs,zI (by omega) (by omega),bs,cs,J6,zLB hk rfl]) (by
   unfold zQE;simp only
   rw[zHQ,qD,zL,zJq])
  rw[zJp,show((0:Nat):Int)=0 from rfl]at inner
  grind[zI]) (by
  unfold zNT
  grind)
 rw[show((0:Nat):Int)=0 from rfl]at this;rw[this,bs];rfl
theorem zKo{a:Int}(h0:0≤a)(_h1:a≤1000):zII a p=iz (a%p):=by have _:=hD;have h7:=hp.pos;have e1:=Kz a (show p≠0 by omega);have e2:=Kh a (show 0<p by omega);unfold zII yP;rw[if_neg (by omega),bs,Kq h0,zI (by omega) (by omega),bs,if_neg (by omega),bs,Kq (by omega)];simp
theorem zFR{i:Nat}{r:List Int}{B:Mx}(hi:i<D)(hr:Row p D r)(hB:Mat p D B):f_I (acc p D i r B) (B.getD i []) (at0 r i) p=iz (acc p D (i+1) r B):=by
 have h7:=hp.pos;have dp:=hr.2 i hi;unfold f_I;have hl:(acc p D i r B).length=D:=yE _ _;have inner:=zQ (body:=zMr (acc p D i r B) (B.getD i []) (at0 r i) p) (r:=acc p D (i+1) r B) (fun k=>(zDV p D i k r B,(k:Int))) D (fun k hk=>by
  obtain⟨b1,b2,b3,b4⟩:=zSq hB hi hk;have ha:=zLC (p:=p) (i:=i) (k:=k) (r:=r) (B:=B) (by omega) hk;have hm:=zJr (by omega) dp b4;unfold zMr;simp only
  rw[hl,yM hk,zK,zPo hk,bs,b2,bs,zI (by omega) (by omega),bs,zI (by omega) (by omega),bs,zKo hp hD (by omega) (by omega),bs,bs,zI (by omega) (by omega),bs,cs,J6,zLB hk rfl]) (by
  unfold zMr;simp only
  rw[hl,qD,zL,zJq])
 rw[zJp,show((0:Nat):Int)=0 from rfl]at inner
 grind
theorem zCh{r:List Int}{B:Mx}{q:Int}(hr:Row p D r)(hB:Mat p D B)(hq:q=(D:Int)):zUa r (zT.mk p q B)=iz (xL p D r B):=by
 subst hq;have eJ:=hr.1;unfold zUa;simp only
 rw[yX (by omega),bs,zLD (p:=p) (r:=r) (B:=B)];have:=zQ (body:=zMs r (zT.mk p (D:Int) B)) (r:=acc p D D r B) (fun i=>(acc p D i r B,(i:Int))) D (fun i hi=>by
  have aT:=hB.1;unfold zMs;simp only
  rw[eJ,yM hi,zK,yH (by omega),bs,zX [] (by omega),bs,zFR hp hD hi hr hB,bs,zI (by omega) (by omega),bs,cs]) (by
  unfold zMs
  grind)
 rw[show((0:Nat):Int)=0 from rfl]at this;rw[this,bs];rfl
theorem zJs{A B:Mx}{i:Nat}(hi:i<A.length):(PM p D A B).take i++[xL p D (A.getD i []) B]=(PM p D A B).take (i+1):=by
 have _:=hp;have _:=hD;rw[Js (by grind[uM])]
 congr 2
 have:=zCx (p:=p) (D:=D) (B:=B) hi
 grind
theorem zAu{A B:Mx}(hA:Mat p D A)(hB:Mat p D B):f_N p A B (D:Int)=iz (PM p D A B):=by
 have fL:=hA.1;unfold f_N;have:=zQ (body:=zNU p A B (D:Int)) (r:=PM p D A B) (fun i=>((PM p D A B).take i,(i:Int))) D (fun i hi=>by
  unfold zNU;simp only
  rw[fL,yM hi,zK,zX [] (by omega),bs,zEx hp hD (hA.2 i hi) hB,bs,zY (by rw[Kn,uM];simp;omega),bs,zI (by omega) (by omega),bs,cs,zJs hp hD (by omega)]) (by
  unfold zNU;simp only
  rw[fL,qD,zL,Jm (by grind[uM])])
 grind
theorem zIB{A B:Mx}{q:Int}(hA:Mat p D A)(hB:Mat p D B):zWv (zT.mk p q A) (zT.mk p (D:Int) B)=iz (zT.mk p (D:Int) (PM p D A B)):=by
 have fL:=hA.1;unfold zWv;have:=zQ (body:=zMt (zT.mk p q A) (zT.mk p (D:Int) B)) (r:=PM p D A B) (fun i=>((PM p D A B).take i,(i:Int))) D (fun i hi=>by
  unfold zMt;simp only
  rw[fL,yM hi,zK,zX [] (by omega),bs,zCh hp hD (hA.2 i hi) hB rfl,bs,zY (by rw[Kn,uM];simp;omega),bs,zI (by omega) (by omega),bs,cs,zJs hp hD (by omega)]) (by
  unfold zMt;simp only
  rw[fL,qD,zL,Jm (by grind[uM])])
 grind
theorem zLE{i:Nat}(_hi:i<D):(J1 D (0:Int)).set i 1=mkv D fun j=>if j=i then 1 else 0:=by have _:=hp;have _:=hD;rw[uO,kE]
theorem zPp{i:Nat}(hi:i<D):(idM D).take i++[mkv D fun j=>if j=i then 1 else 0]=(idM D).take (i+1):=by
 have _:=hp;have _:=hD;rw[Js (by grind[kX])]
 congr 2
 have:=zDE hi
 grind
theorem zHR:f_x (D:Int)=iz (idM D):=by
 unfold f_x;have:=zQ (body:=zI3 (D:Int)) (r:=idM D) (fun i=>((idM D).take i,(i:Int))) D (fun i hi=>by
  unfold zI3;simp only
  rw[yM hi,zK,yX (by omega),bs,vY,K7,if_pos hi,bs,J6,zLE hp hD hi,zY (by grind),bs,zI (by omega) (by omega),bs,cs,zPp hp hD hi]) (by
  unfold zI3;simp only
  rw[qD,zL,Jm (by grind[kX])])
 grind
theorem zIC:zWu p (D:Int)=iz (zT.mk p (D:Int) (idM D)):=by
 unfold zWu;have:=zQ (body:=zJC (D:Int)) (r:=idM D) (fun i=>((idM D).take i,(i:Int))) D (fun i hi=>by
  unfold zJC;simp only
  rw[yM hi,zK,yX (by omega),bs,vY,K7,if_pos hi,bs,J6,zLE hp hD hi,zY (by grind),bs,zI (by omega) (by omega),bs,cs,zPp hp hD hi]) (by
  unfold zJC;simp only
  rw[qD,zL,Jm (by grind[kX])])
 grind
end
end Go.Pl

namespace Go.Pl
open Go Go.Ab Go.Wk Go.Pc
def nw:Nat→List Int→List Nat
 |_,[]=>[]
 |o,a::v=>J1 a.toNat o++nw (o+1) v
theorem zDF:∀(o:Nat)(u v:List Int),nw o (u++v)=nw o u++nw (o+u.length) v
 |o,[],v=>by simp[nw]
 |o,a::u,v=>by
  simp only[K9,nw,zDF (o+1) u v,Jh,K2]
  grind
theorem zKp{v:List Int}{i:Nat}(h:i<v.length):nw 0 (v.take (i+1))=nw 0 (v.take i)++J1 (at0 v i).toNat i:=by
 rw[Js h,zDF,Kn,H6 (by omega),J8];simp only[nw,J9]
 grind
theorem zLF{n:Nat}:∀(o:Nat)(v:List Int),o+v.length≤n→ ∀w∈nw o v,w<n
 |o,[],_,w,h=>by grind[nw]
 |o,a::v,hv,w,h=>by
  simp only[nw,Jw,K2]at h hv;rcases h with h|h
  ·grind
  ·exact zLF (o+1) v (by omega) w h
theorem zHS:∀(o:Nat)(v:List Int),(∀i,i<v.length→at0 v i≤6)→(nw o v).length≤6*v.length
 |o,[],_=>by simp[nw]
 |o,a::v,h=>by
  have h0:=h 0 (by simp);have:=zHS (o+1) v fun i hi=>by
   have:=h (i+1) (by grind)
   grind
  simp only[at0,Hk]at h0
  grind[nw]
def wM(p:Int)(D:Nat)(A:List Mx)(ws:List Nat)(B:Mx):Mx:=ws.foldl (fun B w=>PM p D B (A.getD w [])) B
theorem zDG{p:Int}{D:Nat}{A:List Mx}{u v:List Nat}{B:Mx}:wM p D A (u++v) B=wM p D A v (wM p D A u B):=by simp[wM,G3]
theorem zHT{p:Int}{D:Nat}{A:List Mx}{w:Nat}:∀(k:Nat)(B:Mx),wM p D A (J1 k w) B=iter k (fun B=>PM p D B (A.getD w [])) B
 |0,_=>rfl
 |k+1,B=>by rw[Jv];show wM p D A (J1 k w) (PM p D B (A.getD w []))=_;rw[zHT k];rfl
theorem zDn{p:Int}{D:Nat}{A:List Mx}(hp:0<p):∀(ws:List Nat){B:Mx},Mat p D B→Mat p D (wM p D A ws B)
 | [],_,hB=>hB
 |_w::ws,_,hB=>zDn hp ws (zDl hp hB.1)
theorem zHU{p:Int}{D:Nat}{A:List Mx}(hp:0<p){C:Mx}(hC:C.length=D):∀(ws:List Nat){B:Mx},Mat p D B→wM p D A ws (PM p D C B)=PM p D C (wM p D A ws B)
 | [],_,_=>rfl
 |w::ws,B,hB=>by show wM p D A ws (PM p D (PM p D C B) (A.getD w []))=PM p D C (wM p D A ws (PM p D B (A.getD w [])));rw[zLA hC hB.1,zHU hp hC ws (zDl hp hB.1)]
structure MOk (n:Nat) (m:zC) (D:Nat):Prop where
 p:Prime m.Prime
 d:m.Dim=(D:Int)
 d1:1≤D
 d3:D≤3
 len:m.zE.length=n
 mat:∀i,i<n→Mat m.Prime D (m.zE.getD i [])
structure zZs (n:Nat) (m:zC) (D:Nat):Prop where
 p:Prime m.Prime
 d:m.Dim=(D:Int)
 d3:D≤30
 len:m.zE.length=n
 mat:∀i,i<n→Mat m.Prime D (m.zE.getD i [])
theorem MOk.x{n D:Nat}{m:zC}(h:MOk n m D):zZs n m D:=⟨h.p,h.d,by have:=h.d3;omega,h.len,h.mat⟩
structure zZt (n:Nat) (m:zC) (D:Nat):Prop where
 p:Prime m.Prime
 d3:D≤200
 len:m.zE.length=n
 mat:∀i,i<n→Mat m.Prime D (m.zE.getD i [])
theorem MOk.b{n D:Nat}{m:zC}(h:MOk n m D):zZt n m D:=⟨h.p,by have:=h.d3;omega,h.len,h.mat⟩
section
variable {n D:Nat}{m:zC} (hm:MOk n m D) (hn:n≤14)
 include hm hn
theorem zLG{v:List Int}(hl:v.length=n)(hv:∀i,i<n→0≤at0 v i∧at0 v i≤6):f_T m v=iz (wM m.Prime D m.zE (nw 0 v) (idM D)):=by
 have h7:=hm.p.pos;have h3:=hm.d3;have gm:=hm.len;unfold f_T;rw[hm.d,zHR hm.p (by omega),bs];have hI:∀i,Mat m.Prime D (wM m.Prime D m.zE (nw 0 (v.take i)) (idM D)):=by grind[zDn,sS]
 have:=zQ (body:=zT6 m v) (r:=wM m.Prime D m.zE (nw 0 v) (idM D)) (fun i=>(wM m.Prime D m.zE (nw 0 (v.take i)) (idM D),(i:Int))) n (fun i hi=>by
  have hvi:=hv i hi;unfold zT6;simp only
  rw[hl,yM hi,zK];rw[vT (S:=Mat m.Prime D) (body:=zT5 m v (wM m.Prime D m.zE (nw 0 (v.take i)) (idM D),(i:Int))) (fun B=>B) (fun B=>PM m.Prime D B (m.zE.getD i [])) (at0 v i) hvi.1 (fun B hB=>zDl (by omega) hB.1) (fun B q hB hq=>by
   unfold zT5;simp only
   rw[yH (by omega),bs,iE hq,zK,zX [] (by omega),bs,hm.d,zAu hm.p (by omega) hB (hm.mat i hi),bs,zI (by omega) (by omega),bs,cs]) (fun B hB=>by
   unfold zT5;simp only
   rw[yH (by omega),bs,iD (by omega),zL]) (hI i),bs,zI (by omega) (by omega),bs,cs]
  grind[zKp,zDG,zHT]) (by
  unfold zT6
  grind)
 rw[show((0:Nat):Int)=0 from rfl,Ko]at this
 grind[nw,wM]
abbrev enW(ws:List Nat):List Int:=ws.map fun(w:Nat)=>(w:Int)+1
theorem zEf{i:Nat}(hi:i<n):zNZ m (i:Int)=iz (zT.mk m.Prime (D:Int) (m.zE.getD i [])):=by have _:=hn;have gm:=hm.len;unfold zNZ;rw[zX [] (by omega),bs,hm.d]
theorem zEg{ws:List Nat}(hw:∀w∈ws,w<n)(hl:ws.length≤1000000):zUb m (enW ws)=iz (zT.mk m.Prime (D:Int) (wM m.Prime D m.zE ws (idM D))):=by
 have h7:=hm.p.pos;have h3:=hm.d3;unfold zUb;rw[hm.d,zIC hm.p (by omega),bs];have hI:∀i,Mat m.Prime D (wM m.Prime D m.zE (ws.take i) (idM D)):=by grind[zDn,sS]
 have aO:(enW ws).length=ws.length:=by simp
 have:=zQ (body:=zMu m (enW ws)) (r:=(m.Prime,(D:Int),wM m.Prime D m.zE ws (idM D))) (fun i=>(m.Prime,(D:Int),wM m.Prime D m.zE (ws.take i) (idM D),(i:Int))) ws.length (fun i hi=>by
  have md:=hw ws[i] (K3 hi);unfold zMu;simp only
  rw[aO,yM hi,zK,vY,Jn,J5 hi];simp only[He];rw[bs,zI (by omega) (by omega),bs,show((ws[i]:Nat):Int)+1-1=((ws[i]:Nat):Int)from by omega,zEf hm hn md,bs,zIB hm.p (by omega) (hI i) (hm.mat _ md),bs,zI (by omega) (by omega),bs,cs,Js hi,zDG];rfl) (by
  unfold zMu;simp)
 rw[show((0:Nat):Int)=0 from rfl,Ko]at this
 grind[wM]
end
theorem zCH{v:List Int}(hl:v.length≤14)(hv:∀i,i<v.length→0≤at0 v i∧at0 v i≤6):f_U v=iz (enW (nw 0 v)):=by
 unfold f_U;have gm:∀i,(nw 0 (v.take i)).length≤84:=fun i=>by
  have:=zHS 0 (v.take i) (by grind)
  grind
 have:=zQ (body:=zTW v) (r:=enW (nw 0 v)) (fun i=>(enW (nw 0 (v.take i)),(i:Int))) v.length (fun i hi=>by
  have hvi:=hv i hi;have hli:=gm i;unfold zTW;simp only
  rw[yM hi,zK,yH hi,bs];have inner:=zQ (body:=zTV (enW (nw 0 (v.take i)),(i:Int)) (at0 v i)) (r:=enW (nw 0 (v.take (i+1)))) (fun k=>(enW (nw 0 (v.take i)++J1 k i),(k:Int))) (at0 v i).toNat (fun k hk=>by
   unfold zTV;simp only
   rw[iE (by omega),zK,zI (by omega) (by omega),bs,zY (by grind),bs,zI (by omega) (by omega),bs,cs]
   congr 3
   rw[Lv,←Jh];simp) (by
   unfold zTV;simp only
   rw[iD (by omega),zL,zKp hi])
  rw[show((0:Nat):Int)=0 from rfl,Lu,J9]at inner
  grind[zI]) (by
  unfold zTW;simp)
 rw[show((0:Nat):Int)=0 from rfl,Ko]at this;simp only[nw,enW,U2]at this
 grind
theorem zSr{v o:Int}(h:zTU 1 (IntKind.wrap .u64 o)=iz (0,o)):zTU (IntKind.wrap .u64 (([v]:List Int).length:Int)) (IntKind.wrap .u64 o)=iz (0,o):=by rw[show IntKind.wrap .u64 (([v]:List Int).length:Int)=1 from by rfl];exact h
theorem zLH{v o:Int}(ho:Prime o):f_A [v] o=iz (J1 o.toNat v):=by
 unfold f_A;rcases ho with rfl|rfl|rfl|rfl
 ·have h:=zQ (body:=zGB) (r:=[v,v]) (fun i=>match i with|0=>([v,0],1)|_=>([v,v],2)) 1 (fun i hi=>by
   match i,hi with
   |0,_=>rfl) (by rfl)
  rw[zSr (by rfl),bs];have hl:yB (IntKind.wrap .i64 2)=iz 2:=by rfl
  simp only[hl,bs];rw[show decide ((2:Int)<0)=iC from rfl,zL,show decide ((0:Int)> 0)=iC from rfl,zL,show decide ((2:Int)> 9223372036854775807)=iC from by decide,zL]
  grind[vF]
 ·have h:=zQ (body:=zGB) (r:=[v,v,v]) (fun i=>match i with|0=>([v,0,0],1)|1=>([v,v,0],2)|_=>([v,v,v],3)) 2 (fun i hi=>by
   match i,hi with
   |0,_=>rfl
   |1,_=>rfl) (by rfl)
  rw[zSr (by rfl),bs];have hl:yB (IntKind.wrap .i64 3)=iz 3:=by rfl
  simp only[hl,bs];rw[show decide ((3:Int)<0)=iC from rfl,zL,show decide ((0:Int)> 0)=iC from rfl,zL,show decide ((3:Int)> 9223372036854775807)=iC from by decide,zL]
  grind[vF]
 ·have h:=zQ (body:=zGB) (r:=[v,v,v,v,v]) (fun i=>match i with|0=>([v,0,0,0,0],1)|1=>([v,v,0,0,0],2)|2=>([v,v,v,v,0],4)|_=>([v,v,v,v,v],5)) 3 (fun i hi=>by
   match i,hi with
   |0,_=>rfl
   |1,_=>simp[zGB,zO,vF,rng,inR]
   |2,_=>rfl) (by rfl)
  rw[zSr (by rfl),bs];have hl:yB (IntKind.wrap .i64 5)=iz 5:=by rfl
  simp only[hl,bs];rw[show decide ((5:Int)<0)=iC from rfl,zL,show decide ((0:Int)> 0)=iC from rfl,zL,show decide ((5:Int)> 9223372036854775807)=iC from by decide,zL];have e2:vF (J1 5 (0:Int)) 0 (([v]:List Int).take ((J1 5 (0:Int)).length-0))=[v,0,0,0,0]:=by rfl
  grind
 ·have h:=zQ (body:=zGB) (r:=[v,v,v,v,v,v,v]) (fun i=>match i with|0=>([v,0,0,0,0,0,0],1)|1=>([v,v,0,0,0,0,0],2)|2=>([v,v,v,v,0,0,0],4)|_=>([v,v,v,v,v,v,v],7)) 3 (fun i hi=>by
   match i,hi with
   |0,_=>rfl
   |1,_=>simp[zGB,zO,vF,rng,inR]
   |2,_=>rfl) (by rfl)
  rw[zSr (by rfl),bs];have hl:yB (IntKind.wrap .i64 7)=iz 7:=by rfl
  simp only[hl,bs];rw[show decide ((7:Int)<0)=iC from rfl,zL,show decide ((0:Int)> 0)=iC from rfl,zL,show decide ((7:Int)> 9223372036854775807)=iC from by decide,zL];have e2:vF (J1 7 (0:Int)) 0 (([v]:List Int).take ((J1 7 (0:Int)).length-0))=[v,0,0,0,0,0,0]:=by rfl
  simp_all
end Go.Pl

namespace Go.Pl
open Go Go.Ab Go.Wk Go.Pc
theorem IsB.b{o:Option Bool}{P:Prop}(h:IsB o P):IsB (o.bind fun r=>iz r) P:=by grind
theorem zGu{p:Int}{D:Nat}{r:List Int}(hp:Prime p)(hD:D≤8):IsB (zTT r p (D:Int)) (Row p D r):=by
 have h7:=hp.pos;unfold zTT
 by_cases h:r.length=D
 ·rw[zAO (by omega),zL]
  refine(sC r.length (fun i=>0≤at0 r i∧at0 r i≤p-1) rfl (fun i hi _=>?_) ?_).iff ⟨fun g=>⟨h,by grind⟩,fun g=>by rw[h];exact g.2⟩
  ·refine vZ (zA3 _ _ _) (by omega) ?_
   unfold zPI;rw[yM hi,zK,yH hi,bs,zI (by omega) (by omega),bs]
  ·unfold zPI
   simp
 ·rw[zA4 (by omega),zK]
  exact .inr ⟨rfl,fun g=>h g.1⟩
theorem zDo{p:Int}{D:Nat}{r:List Int}(hp:Prime p)(hD:D≤8):IsB (zT4 p (D:Int) r) (Row p D r):=by
 have h7:=hp.pos;unfold zT4
 by_cases h:r.length=D
 ·rw[zAO (by omega),zL]
  refine(sC r.length (fun i=>0≤at0 r i∧at0 r i≤p-1) rfl (fun i hi _=>?_) ?_).iff ⟨fun g=>⟨h,by grind⟩,fun g=>by rw[h];exact g.2⟩
  ·refine vZ (zB6 _ _ _) (by omega) ?_
   unfold zPF;rw[yM hi,zK,yH hi,bs,zI (by omega) (by omega),bs]
  ·unfold zPF
   simp
 ·rw[zA4 (by omega),zK]
  exact .inr ⟨rfl,fun g=>h g.1⟩
theorem zQj{p:Int}{D:Nat}{B:Mx}(hp:Prime p)(hD:D≤8):IsB (zWo p (D:Int) B) (Mat p D B):=by
 unfold zWo
 by_cases h:B.length=D
 ·rw[zAO (by omega),zL]
  refine(sC B.length (fun i=>Row p D (B.getD i [])) rfl (fun i hi _=>?_) ?_).iff ⟨fun g=>⟨h,by grind⟩,fun g=>by rw[h];exact g.2⟩
  ·refine vZ (zDo hp hD) (by omega) ?_
   unfold zPG;rw[yM hi,zK,zX [] hi,bs]
  ·unfold zPG
   simp
 ·rw[zA4 (by omega),zK]
  exact .inr ⟨rfl,fun g=>h g.1⟩
theorem zID{p:Int}{D:Nat}{B:Mx}(hp:Prime p)(hD:D≤8)(hB:B.length=D):IsB (zWt (zT.mk p (D:Int) B)) (Mat p D B):=by
 unfold zWt;simp only
 rcases zCv p with⟨h1,_⟩|⟨_,h2⟩
 ·rw[h1,bs,J7,zL]
  rcases zA3 (D:Int) 0 8 with⟨h3,_⟩|⟨_,h4⟩
  ·rw[h3,bs,J7,zL,iD (by omega),zL]
   refine(sC (body:=zMq (zT.mk p (D:Int) B)) D (fun i=>Row p D (B.getD i [])) rfl (fun i hi _=>?_) ?_).iff ⟨fun g=>⟨hB,g⟩,fun g=>g.2⟩
   ·refine vZ (zGu hp hD) (by omega) ?_
    unfold zMq;simp only
    rw[hB,yM hi,zK,zX [] (by omega),bs]
   ·unfold zMq
    grind
  omega
 grind
theorem zHV{A B:Mx}(hA:A.length≤1000)(h:∀r∈A,r.length≤1000):zWp A B=iz (A==B):=
 zPi (t:=f_S) (body:=zT7 A B) rfl (fun _=>rfl) (by omega) (by grind[zFO])
theorem zIE{A B:Mx}(hA:A.length≤1000)(h:∀r∈A,r.length≤1000):zWw A B=iz (A==B):=by unfold zWw;rw[zPi (f:=zZW A B) (t:=zK8) (body:=zUc A B) rfl (fun _=>rfl) (by omega) (by grind[zEw]),bs]
theorem Mat.small{p:Int}{D:Nat}{A:Mx}(h:Mat p D A)(hD:D≤8):A.length≤1000∧ ∀r∈A,r.length≤1000:=by
 refine⟨by have:=h.1;omega,fun r hr=>?_⟩;obtain⟨i,hi,rfl⟩:=Jt.1 hr;have:=h.2 i (by rw[←h.1];exact hi);rw[J2,J5 hi]at this;have:=this.1
 grind
def zFS(x:SPr)(m:zC)(D:Nat):Prop:=
 ∀i,i<x.zA.length→wM m.Prime D m.zE (J1 (at0 x.zA i).toNat i) (idM D)=wM m.Prime D m.zE (nw 0 (x.zJ.getD i [])) (idM D)∧
  ∀j,i+1≤j→j<x.zA.length→PM m.Prime D (m.zE.getD j []) (m.zE.getD i [])=PM m.Prime D (m.zE.getD i []) (wM m.Prime D m.zE (nw 0 ((x.zB.getD i []).getD (j-(i+1)) [])) (idM D))
theorem jQ{x:SPr}{v:List Int}{i:Nat}(ho:Os x.zA)(h:Exp x.zA v i):v.length=x.zA.length∧ ∀j,j<x.zA.length→0≤at0 v j∧at0 v j≤6:=by have h1:=h.1.1;refine⟨h1,fun j hj=>?_⟩;have:=h.1.2 j (by omega);have:=(ho.2 j hj).pos;omega
section
variable {x:SPr}{m:zC}{D:Nat} (h:Pres x) (hm:MOk x.zA.length m D)
 include h hm
theorem zQk{i:Nat}(hi:i<x.zA.length):(x.zJ.getD i []).length=x.zA.length∧ ∀j,j<x.zA.length→0≤at0 (x.zJ.getD i []) j∧at0 (x.zJ.getD i []) j≤6:=have _:=hm;jQ h.os (h.tl i hi).1
theorem zNr{i j:Nat}(hi:i<x.zA.length)(hj:j<(x.zB.getD i []).length):((x.zB.getD i []).getD j []).length=x.zA.length∧ ∀q,q<x.zA.length→0≤at0 ((x.zB.getD i []).getD j []) q∧at0 ((x.zB.getD i []).getD j []) q≤6:=have _:=hm;jQ h.os ((h.tl i hi).2.2 j hj)
theorem zQl:IsB ((zG (zTB x m) 0).bind fun r=>match r with|.inl _=>iz iB|.inr r=>iz r) (zFS x m D):=by
 have h6:=h.os.1;have h7:=hm.p.pos;have h3:=hm.d3;have gm:=hm.len;refine sC x.zA.length (fun i=>wM m.Prime D m.zE (J1 (at0 x.zA i).toNat i) (idM D)=wM m.Prime D m.zE (nw 0 (x.zJ.getD i [])) (idM D)∧
  ∀j,i+1≤j→j<x.zA.length→PM m.Prime D (m.zE.getD j []) (m.zE.getD i [])=PM m.Prime D (m.zE.getD i []) (wM m.Prime D m.zE (nw 0 ((x.zB.getD i []).getD (j-(i+1)) [])) (idM D))) rfl (fun i hi _=>?_) ?_
 ·have fX:=(h.os.2 i hi).pos
  have fE:=h.pl;have gD:=h.cl;obtain⟨p1,p2⟩:=zQk h hm hi;have t2:=(h.tl i hi).2.1;have hI:=sS (p:=m.Prime) (D:=D) h7.1;unfold zTB;rw[yM hi,zK,hm.d,zHR hm.p (by omega),bs];rw[vT (S:=Mat m.Prime D) (body:=zT9 x m (i:Int)) (fun B=>B) (fun B=>PM m.Prime D B (m.zE.getD i [])) (at0 x.zA i) (by omega) (fun B hB=>zDl (by omega) hB.1) (fun B q hB hq=>by
   unfold zT9;simp only
   rw[yH hi,bs,iE hq,zK,zX [] (by omega),bs,hm.d,zAu hm.p (by omega) hB (hm.mat i hi),bs,zI (by omega) (by omega),bs,cs]) (fun B hB=>by
   unfold zT9;simp only
   rw[yH hi,bs,iD (by omega),zL]) hI,bs,zX [] (by omega),bs,zLG hm (by omega) p1 p2,bs,←zHT]
  have hs:=(zDn (p:=m.Prime) (D:=D) (A:=m.zE) (by omega) (J1 (at0 x.zA i).toNat i) hI).small (by omega);rw[zHV hs.1 hs.2,bs]
  by_cases hq:wM m.Prime D m.zE (J1 (at0 x.zA i).toNat i) (idM D)=wM m.Prime D m.zE (nw 0 (x.zJ.getD i [])) (idM D)
  ·rw[show(wM m.Prime D m.zE (J1 (at0 x.zA i).toNat i) (idM D)==wM m.Prime D m.zE (nw 0 (x.zJ.getD i [])) (idM D))=iB from by grind,J7,zL,zI (by omega) (by omega),bs,cs]
   rcases chk (body:=zTA x m (i:Int)) x.zA.length (i+1) (by omega) (fun j=>PM m.Prime D (m.zE.getD j []) (m.zE.getD i [])=PM m.Prime D (m.zE.getD i []) (wM m.Prime D m.zE (nw 0 ((x.zB.getD i []).getD (j-(i+1)) [])) (idM D))) (fun _=>iC) (fun j h1 h2 _=>by
     obtain⟨c1,c2⟩:=zNr h hm (j:=j-(i+1)) hi (by omega);have hjm:=hm.mat j h2;have him:=hm.mat i hi;have hw:=zDn (p:=m.Prime) (D:=D) (A:=m.zE) (by omega) (nw 0 ((x.zB.getD i []).getD (j-(i+1)) [])) hI;have hs:=(zDl (p:=m.Prime) (B:=m.zE.getD i []) (by omega) hjm.1).small (by omega);refine vZ (o:=iz (PM m.Prime D (m.zE.getD j []) (m.zE.getD i [])==PM m.Prime D (m.zE.getD i []) (wM m.Prime D m.zE (nw 0 ((x.zB.getD i []).getD (j-(i+1)) [])) (idM D)))) (IsB.of_bool (by simp)) (by omega) ?_;unfold zTA;rw[yM h2,zK,zX (i:=j) [] (by omega),bs,zX (i:=i) [] (by omega),bs,hm.d,zAu hm.p (by omega) hjm him,bs,bs,zX (i:=i) [] (by omega),bs,zI (by omega) (by omega),bs,zI (by omega) (by omega),bs,show(j:Int)-(i:Int)-1=((j-(i+1):Nat):Int)from by omega,zX [] (by omega),bs,zLG hm (by omega) c1 c2,bs,zAu hm.p (by omega) him hw,bs,zHV hs.1 hs.2]) (by
     unfold zTA;simp)with⟨g1,g2⟩|⟨j,j1,j2,g1,g2⟩
   ·grind
   ·right
    rw[g1,bs]
    grind
  grind
 ·unfold zTB
  simp
end
def zSs(x:SPr)(m:zC):Prop:=zBn x∧ ∃D,MOk x.zA.length m D∧zFS x m D
theorem zHW{x:SPr}{m:zC}(h2:Pres x):IsB (f_u x m) (∃D,MOk x.zA.length m D∧zFS x m D):=by
 have h6:=h2.os.1;unfold f_u;rcases zHG m.Prime with⟨p1,p2⟩|⟨p1,p2⟩
 ·rw[p1,bs,J7,zL]
  rcases zB6 m.Dim 1 3 with⟨d1,d2⟩|⟨d1,d2⟩
  ·rw[d1,bs,J7,zL]
   obtain⟨D,hD⟩:∃D:Nat,m.Dim=(D:Int):=⟨m.Dim.toNat,by omega⟩
   by_cases gm:m.zE.length=x.zA.length
   ·rw[zAO (by omega),zL]
    rcases chk (body:=zT8 x m) x.zA.length 0 (Kb _) (fun i=>Mat m.Prime D (m.zE.getD i [])) (fun _=>iC) (fun i _ hi _=>by
      refine vZ (zQj p2 (D:=D) (by omega)) (by omega) ?_;unfold zT8;rw[yM hi,zK,zX [] (by omega),bs,hD]) (by
      unfold zT8;simp)with⟨g1,g2⟩|⟨i,_,hi,g1,g2⟩
    ·rw[show((0:Nat):Int)=0 from rfl]at g1
     have hm:MOk x.zA.length m D:=⟨p2,hD,by omega,by omega,gm,by grind⟩;rw[g1,bs];refine IsB.iff (Q:=∃D,MOk x.zA.length m D∧zFS x m D) (zQl h2 hm) ⟨fun k2=>⟨D,hm,k2⟩,fun⟨D',gF,hr⟩=>?_⟩;have:D'=D:=by have:=gF.d;omega
     grind
    ·rw[show((0:Nat):Int)=0 from rfl]at g1
     rw[g1,bs];refine .inr ⟨rfl,fun⟨D',gF,_⟩=>g2 ?_⟩;have:D'=D:=by have:=gF.d;omega
     rw[←this];exact gF.mat i hi
   ·rw[zA4 (by omega),zK]
    exact .inr ⟨rfl,fun⟨D',gF,_⟩=>gm gF.len⟩
  ·rw[d1,bs,Kc,zK]
   exact .inr ⟨rfl,fun⟨D',gF,_⟩=>d2 (by have:=gF.d;have:=gF.d1;have:=gF.d3;omega)⟩
 ·rw[p1,bs,Kc,zK]
  exact .inr ⟨rfl,fun⟨D',gF,_⟩=>p2 gF.p⟩
theorem zBI{x:SPr}{m:zC}(hl:x.zA.length≤1048576):IsB (zNV x m) (zSs x m):=by
 unfold zNV;rcases zHO hl with⟨h1,h2⟩|⟨h1,h2⟩
 ·rw[h1,bs,zK]
  exact IsB.iff (Q:=zSs x m) (IsB.b (zHW h2.1)) ⟨fun g=>⟨h2,g⟩,fun g=>g.2⟩
 ·rw[h1,bs,zL]
  exact .inr ⟨rfl,fun g=>h2 g.1⟩
end Go.Pl

namespace Go.Pl
open Go Go.Ab Go.Wk Go.Pc
abbrev Rl:=List Nat×List Nat
def r1(x:SPr)(i:Nat):Rl:=(J1 (at0 x.zA i).toNat i,nw 0 (x.zJ.getD i []))
def r2(x:SPr)(i j:Nat):Rl:=([i+j+1,i],i::nw 0 ((x.zB.getD i []).getD j []))
def R2(x:SPr)(i:Nat):List Rl:=(Ji (x.zB.getD i []).length).map (r2 x i)
def yZ(x:SPr):List Rl:=(Ji x.zA.length).map (r1 x)++(Ji x.zA.length).flatMap (R2 x)
abbrev enR(q:Rl):List Int×List Int:=(enW q.1,enW q.2)
section
variable {x:SPr} (h:Pres x)
 include h
theorem zZu{i:Nat}(hi:i<x.zA.length):(R2 x i).length≤14:=by
 have:=(h.tl i hi).2.1;have:=h.os.1
 grind[R2]
theorem zHX:∀i,i≤x.zA.length→((Ji i).flatMap (R2 x)).length≤14*i
 |0,_=>by simp
 |i+1,hi=>by
  have:=zHX i (by omega)
  grind[zZu,Kv]
theorem zVH{k i:Nat}:enW (J1 k i)=J1 k ((i:Int)+1):=by have _:=h;simp
theorem zBp:f_B x=iz ((yZ x).map enR):=by
 have h6:=h.os.1;have fE:=h.pl;have gD:=h.cl;unfold f_B;have l1:=zQ (body:=zTX x) (r:=((Ji x.zA.length).map (r1 x)).map enR) (fun i=>(((Ji i).map (r1 x)).map enR,(i:Int))) x.zA.length (fun i hi=>by
  obtain⟨p1,p2⟩:=jQ h.os (h.tl i hi).1;unfold zTX;simp only
  rw[yM hi,zK,yH hi,bs,zI (by omega) (by omega),bs,zLH (h.os.2 i hi),bs,zX [] (by omega),bs,zCH (by omega) (by rw[p1];exact p2),bs,zY (by simp only[Jo,Hj,K2,U5];omega),bs,bs,cs,Kv];simp only[Lp,Jl,U2,r1,enR,zVH h,cs]) (by
  unfold zTX;simp)
 rw[show((0:Nat):Int)=0 from rfl]at l1;simp only[List.range_zero,U2]at l1;rw[l1,bs];have l3:=zQ (body:=zTZ x) (r:=(yZ x).map enR) (fun i=>(((Ji x.zA.length).map (r1 x)++(Ji i).flatMap (R2 x)).map enR,(i:Int))) x.zA.length (fun i hi=>by
  have t2:=(h.tl i hi).2.1;have aN:=zHX h i (by omega);unfold zTZ;simp only
  rw[yM hi,zK,zX [] (by omega),bs];have l2:=zQ (body:=zTY (((Ji x.zA.length).map (r1 x)++(Ji i).flatMap (R2 x)).map enR,(i:Int)) (x.zB.getD i [])) (r:=((Ji x.zA.length).map (r1 x)++(Ji (i+1)).flatMap (R2 x)).map enR)
   (fun j=>(((Ji x.zA.length).map (r1 x)++(Ji i).flatMap (R2 x)++(Ji j).map (r2 x i)).map enR,(j:Int))) (x.zB.getD i []).length (fun j hj=>by
    obtain⟨p1,p2⟩:=jQ h.os ((h.tl i hi).2.2 j hj);have cJ:=zHS 0 ((x.zB.getD i []).getD j []) (by grind);unfold zTY;simp only
    rw[yM hj,zK,zX [] hj,bs,zI (by omega) (by omega),bs,zI (by omega) (by omega),bs,zI (by omega) (by omega),bs,zCH (by omega) (by rw[p1];exact p2),bs,zY (by simp only[Jo,K2,U5];omega),bs,zY (by simp only[Jo,Ja,Hj,K2,U5];omega),bs,zI (by omega) (by omega),bs,cs,Kv];have e1:(i:Int)+(j:Int)+2=((i+j+1:Nat):Int)+1:=by omega
    simp only[Lp,Jl,U2,r2,enR,enW,Jh,H4,e1];rfl) (by
    unfold zTY;simp only
    rw[qD,zL,Kv,Ue]
    grind[R2])
  rw[show((0:Nat):Int)=0 from rfl]at l2
  grind[zI]) (by
  unfold zTZ;simp only
  rw[qD,zL];rfl)
 grind
theorem zCi{q:Rl}(hq:q∈yZ x):((∀w∈q.1,w<x.zA.length)∧q.1.length≤1000)∧(∀w∈q.2,w<x.zA.length)∧q.2.length≤1000:=by
 have h6:=h.os.1;simp only[yZ,Jw,Jj,Lf,U1,R2]at hq;rcases hq with⟨i,hi,rfl⟩|⟨i,hi,j,hj,rfl⟩
 ·obtain⟨p1,p2⟩:=jQ h.os (h.tl i hi).1
  have cJ:=zHS 0 (x.zJ.getD i []) (by rw[p1];exact fun i hi=>(p2 i hi).2);have fX:=(h.os.2 i hi).pos;refine⟨⟨fun w hw=>?_,?_⟩,fun w hw=>zLF 0 _ (by omega) w hw,by simp only[r1];omega⟩
  ·have:=Uv hw;omega
  ·simp only[r1,K8];omega
 ·obtain⟨p1,p2⟩:=jQ h.os ((h.tl i hi).2.2 j hj)
  have t2:=(h.tl i hi).2.1;have cJ:=zHS 0 ((x.zB.getD i []).getD j []) (by rw[p1];exact fun i hi=>(p2 i hi).2);refine⟨⟨fun w hw=>?_,by simp[r2]⟩,fun w hw=>?_,by simp only[r2,K2];omega⟩
  ·simp only[r2,Jp,List.not_mem_nil,or_false]at hw;omega
  ·simp only[r2,Jp]at hw
   rcases hw with rfl|hw
   ·exact hi
   ·exact zLF 0 _ (by omega) w hw
variable {m:zC}{D:Nat} (hm:MOk x.zA.length m D)
 include hm
theorem zFb:(∀q∈yZ x,wM m.Prime D m.zE q.1 (idM D)=wM m.Prime D m.zE q.2 (idM D))↔zFS x m D:=by
 have h7:=hm.p.pos;have hI:=sS (p:=m.Prime) (D:=D) h7.1;have key:∀i j,i<x.zA.length→j<x.zA.length→ ∀ws,(wM m.Prime D m.zE [j,i] (idM D)=wM m.Prime D m.zE (i::ws) (idM D)↔PM m.Prime D (m.zE.getD j []) (m.zE.getD i [])=PM m.Prime D (m.zE.getD i []) (wM m.Prime D m.zE ws (idM D))):=fun i j hi hj ws=>by
  have eh:=hm.mat i hi;have mA:=hm.mat j hj;have e1:wM m.Prime D m.zE [j,i] (idM D)=PM m.Prime D (m.zE.getD j []) (m.zE.getD i []):=by show PM _ _ (PM _ _ (idM D) _) _=_;rw[zB9 mA]
  have e2:wM m.Prime D m.zE (i::ws) (idM D)=PM m.Prime D (m.zE.getD i []) (wM m.Prime D m.zE ws (idM D)):=by show wM _ _ _ ws (PM _ _ (idM D) _)=_;rw[zB9 eh,←zHU (by omega) eh.1 ws hI,zDm eh]
  rw[e1,e2]
 constructor
 ·intro g i hi
  have t2:=(h.tl i hi).2.1;refine⟨g (r1 x i) (by simp only[yZ,Jw,Jj,Lf];grind),fun j h1 h2=>?_⟩;have:=g (r2 x i (j-(i+1))) (by
   simp only[yZ,Jw,U1,Lf,R2,Jj]
   grind)
  simp only[r2]at this;rw[show i+(j-(i+1))+1=j from by omega]at this
  grind
 ·intro g q hq
  simp only[yZ,Jw,Jj,Lf,U1,R2]at hq;rcases hq with⟨i,hi,rfl⟩|⟨i,hi,j,hj,rfl⟩
  ·exact(g i hi).1
  ·have t2:=(h.tl i hi).2.1
   have:=(g i hi).2 (i+j+1) (by omega) (by omega);rw[show i+j+1-(i+1)=j from by omega]at this;exact(key i (i+j+1) hi (by omega) _).2 this
theorem zQm:IsB ((zG (zUe m ((yZ x).map enR)) 0).bind fun r=>match r with|.inl _=>iz iB|.inr r=>iz r) (zFS x m D):=by
 have h6:=h.os.1;have h7:=hm.p.pos;have h3:=hm.d3;have hI:=sS (p:=m.Prime) (D:=D) h7.1;have aN:=zHX h x.zA.length (Jf _);have eJ:(yZ x).length≤1000:=by simp only[yZ,Ja,Jo,Hj];omega
 refine(sC (yZ x).length (fun k=>wM m.Prime D m.zE ((yZ x).getD k ([],[])).1 (idM D)=wM m.Prime D m.zE ((yZ x).getD k ([],[])).2 (idM D)) rfl (fun k hk _=>?_) ?_).iff ⟨fun g=>(zFb h hm).1 fun q hq=>?_,fun g k hk=>(zFb h hm).2 g _ ?_⟩
 ·have gu:(yZ x).getD k ([],[])∈yZ x:=by
   rw[J2,J5 hk];exact K3 hk
  obtain⟨⟨g1,g2⟩,g3,g4⟩:=zCi h gu;have hs:=(zDn (p:=m.Prime) (D:=D) (A:=m.zE) (by omega) ((yZ x).getD k ([],[])).1 hI).small (by omega);refine vZ (o:=iz (wM m.Prime D m.zE ((yZ x).getD k ([],[])).1 (idM D)==wM m.Prime D m.zE ((yZ x).getD k ([],[])).2 (idM D))) (IsB.of_bool (by rw[beq_iff_eq])) (by omega) ?_;unfold zUe;rw[Jo,yM hk,zK,vY,Jn,J5 hk];rw[J2,J5 hk]at g1 g2 g3 g4 hs ⊢
  simp only[He,G5]at g1 g2 g3 g4 hs ⊢
  rw[bs,zEg hm h6 g1 (Hf g2 (by omega)),bs,zEg hm h6 g3 (Hf g4 (by omega)),bs];simp only
  rw[zIE hs.1 hs.2]
 ·unfold zUe
  rw[Jo,qD,zL]
 ·obtain⟨k,hk,rfl⟩:=Jt.1 hq
  have:=g k hk;rw[J2,J5 hk]at this;exact this
 ·rw[J2,J5 hk];exact K3 hk
end
theorem zBJ{x:SPr}{m:zC}(hl:x.zA.length≤1048576)(_hal:m.zE.length≤1048576):IsB (f_C x m) (zSs x m):=by
 unfold f_C;rcases zEZ hl with⟨h1,h2⟩|⟨h1,h2⟩
 ·have h6:=h2.1.os.1
  rw[h1,bs,J7,zL];rcases zCv m.Prime with⟨p1,p2⟩|⟨p1,p2⟩
  ·rw[p1,bs,J7,zL]
   rcases zA3 m.Dim 1 3 with⟨d1,d2⟩|⟨d1,d2⟩
   ·rw[d1,bs,J7,zL]
    obtain⟨D,hD⟩:∃D:Nat,m.Dim=(D:Int):=⟨m.Dim.toNat,by omega⟩
    by_cases gm:m.zE.length=x.zA.length
    ·rw[zAO (by omega),zL]
     rcases chk (body:=zUd m) m.zE.length 0 (Kb _) (fun i=>Mat m.Prime D (m.zE.getD i [])) (fun _=>iC) (fun i _ hi _=>by
       unfold zUd;rw[yM hi,zK,zX [] hi,bs,hD]
       by_cases hr:(m.zE.getD i []).length=D
       ·rw[zAO (by omega),zL]
        refine vZ (zID p2 (D:=D) (by omega) hr) (by omega) ?_
        grind[zNZ,zX]
       ·rw[zA4 (by omega),zK]
        exact .inr ⟨rfl,fun g=>hr g.1⟩) (by
       unfold zUd;simp)with⟨g1,g2⟩|⟨i,_,hi,g1,g2⟩
     ·rw[show((0:Nat):Int)=0 from rfl]at g1
      have hm:MOk x.zA.length m D:=⟨p2,hD,by omega,by omega,gm,by grind⟩;rw[g1,bs,zBp h2.1];simp only
      rw[bs];refine(zQm h2.1 hm).iff ⟨fun k2=>⟨h2,D,hm,k2⟩,fun⟨_,D',gF,hr⟩=>?_⟩;have:D'=D:=by have:=gF.d;omega
      grind
     ·rw[show((0:Nat):Int)=0 from rfl]at g1
      rw[g1,bs];refine .inr ⟨rfl,fun⟨_,D',gF,_⟩=>g2 ?_⟩;have:D'=D:=by have:=gF.d;omega
      rw[←this];exact gF.mat i (by omega)
    ·rw[zA4 (by omega),zK]
     exact .inr ⟨rfl,fun⟨_,D',gF,_⟩=>gm gF.len⟩
   ·rw[d1,bs,Kc,zK]
    exact .inr ⟨rfl,fun⟨_,D',gF,_⟩=>d2 (by have:=gF.d;have:=gF.d1;have:=gF.d3;omega)⟩
  ·rw[p1,bs,Kc,zK]
   exact .inr ⟨rfl,fun⟨_,D',gF,_⟩=>p2 gF.p⟩
 ·rw[h1,bs,Kc,zK]
  exact .inr ⟨rfl,fun g=>h2 g.1⟩
end Go.Pl

namespace Go.Pl
open Go Go.Ab Go.Wk Go.Pc
theorem zFT{xs:List (List Int)}{i:Nat}(h:i<xs.length):(xs.take (i+1)).flatten=(xs.take i).flatten++xs.getD i []:=by grind[Js]
theorem zKq{xs:List (List Int)}(i:Nat):(xs.take i).flatten.length≤xs.flatten.length:=by grind[List.take_append_drop]
theorem zQn{k:Nat}(hk:k≤1000000):zUf (k:Int)=iz []:=by
 unfold zUf;rw[iD (by omega),zL,zI (by decide) (by decide),bs,zI (by omega) (by omega),bs]
 by_cases h:(k:Int)-(0-0)> 0
 ·rw[iE h,zK]
  have e:yO ([]:List Int) ((k:Int)-(0-0)) 0=iz (J1 k 0):=by
   unfold yO
   grind
  rw[e,bs];rfl
 grind
theorem zA7{xs:List (List Int)}(hx:xs.length≤1000)(hf:xs.flatten.length≤1000000):f_z xs=iz xs.flatten:=by
 unfold f_z;have l1:=zQ (body:=zUg xs) (r:=((xs.flatten.length:Nat):Int)) (fun i=>((((xs.take i).flatten.length:Nat):Int),(i:Int))) xs.length (fun i hi=>by
  have h1:=zFT hi;have h2:=zKq (xs:=xs) (i+1);have h3:=congrArg Ja2 h1;rw[Ja]at h3;unfold zUg;simp only
  rw[yM hi,zK,zX [] hi,bs,zI (by omega) (by omega),bs,iD (by omega),zL,zI (by omega) (by omega),bs,cs,h3]
  congr 3) (by
  unfold zUg;simp)
 rw[show((0:Nat):Int)=0 from rfl]at l1;simp only[Ko,List.flatten_nil,U5]at l1;rw[show((0:Nat):Int)=0 from rfl]at l1;rw[l1,bs,zQn hf,bs];have l2:=zQ (body:=zUh xs) (r:=xs.flatten) (fun i=>((xs.take i).flatten,(i:Int))) xs.length (fun i hi=>by
  have h1:=zFT hi;have h2:=zKq (xs:=xs) (i+1);have h3:=congrArg Ja2 h1;rw[Ja]at h3;unfold zUh;simp only
  rw[yM hi,zK,zX [] hi,bs,zY (by omega),bs,zI (by omega) (by omega),bs,cs,h1]) (by
  unfold zUh;simp)
 grind
theorem zLI{r:List Int}{a b:Nat}(hr:r.length≤1000)(ha:a≤1000)(hb:b≤1000):zWx r (a:Int) (b:Int)=iz (J1 a 0++(r++J1 b 0)):=by grind[zWx,yX,zA7]
end Go.Pl

namespace Go.Pl
open Go Go.Ab Go.Wk Go.Pc
section
variable {p:Int}
def vA(p:Int)(D:Nat)(r:List Int)(k:Int)(s:List Int):List Int:=mkv D fun j=>(at0 r j+k*at0 s j)%p
theorem zDp{D:Nat}{r s:List Int}{k:Int}:(vA p D r k s).length=D:=yE _ _
def zIF(p:Int)(D i:Nat)(r:List Int)(k:Int)(s:List Int):List Int:=mkv D fun j=>if j<i then(at0 r j+k*at0 s j)%p else at0 r j
theorem zJt{D:Nat}{r s:List Int}{k:Int}(hr:r.length=D):zIF p D 0 r k s=r:=by
 conv=>rhs;rw[wT hr]
 rfl
theorem zJu{D:Nat}{r s:List Int}{k:Int}:zIF p D D r k s=vA p D r k s:=yD (by omega)
theorem zLJ{D i:Nat}{r s:List Int}{k a:Int}(ha:a=(at0 r i+k*at0 s i)%p):(zIF p D i r k s).set i a=zIF p D (i+1) r k s:=by
 simp only[zIF];rw[kE]
 grind
theorem zPq{D i:Nat}{r s:List Int}{k:Int}(hi:i<D):at0 (zIF p D i r k s) i=at0 r i:=by rw[zIF,zS hi,if_neg (by omega)]
theorem zFc{D i:Nat}{r s:List Int}{k:Int}:(zIF p D i r k s).length=D:=yE _ _
end
section
variable {p:Int} (hp:Prime p)
 include hp
theorem zGv{a:Int}(_h0:-1000≤a)(_h1:a≤1000):zII a p=iz (a%p):=by
 have h7:=hp.pos;have e1:=Ja3 a (show 0<p by omega);have e2:=Qi a (show 0<p by omega);have e3:(Qy a p+p)%p=a%p:=by
  rw[Ui];have:=Ux a p
  conv=>rhs;rw[←this]
  simp
 unfold zII yP;rw[if_neg (by omega),bs,zI (by omega) (by omega),bs,if_neg (by omega),bs,Kq (by omega),e3]
theorem zLK{a:Int}(_h0:-1000≤a)(_h1:a≤1000):zUj a p=iz (a%p):=by
 have h7:=hp.pos;have e1:=Ja3 a (show 0<p by omega);have e2:=Qi a (show 0<p by omega);have e3:(Qy a p+p)%p=a%p:=by
  rw[Ui];have:=Ux a p
  conv=>rhs;rw[←this]
  simp
 unfold zUj yP;rw[if_neg (by omega),bs]
 by_cases h:Qy a p<0
 ·rw[iE h,zK,zI (by omega) (by omega),bs,←e3,Jz (by omega) (by omega)]
 ·rw[iD h,zL,←e3,Ui,Jz (by omega) (by omega)]
theorem kF{D:Nat}{r s:List Int}{k:Int}:Row p D (vA p D r k s):=by have h7:=hp.pos;refine⟨yE _ _,fun i hi=>?_⟩;have e:at0 (vA p D r k s) i=(at0 r i+k*at0 s i)%p:=zS hi;have e1:=Kz (at0 r i+k*at0 s i) (show p≠0 by omega);have e2:=Kh (at0 r i+k*at0 s i) (show 0<p by omega);omega
theorem zCy{k b:Int}(hk:-7≤k∧k≤7)(hb:0≤b∧b≤p-1):-49≤k*b∧k*b≤49:=by
 have h7:=hp.pos;rcases Int.le_total 0 k with h|h
 ·have h1:=Hl h hb.1
  have h2:=L9 hk.2 (show b≤7 by omega) hb.1 (by omega);omega
 ·have h1:=Hl (show 0≤ -k by omega) hb.1
  have h2:=L9 (show -k≤7 by omega) (show b≤7 by omega) hb.1 (by omega);rw[Int.neg_mul]at h1 h2;omega
theorem zBe{D:Nat}{r s:List Int}{k:Int}(hr:Row p D r)(hs:Row p D s)(hk:-7≤k∧k≤7)(hD:D≤1000000):f_I r s k p=iz (vA p D r k s):=by
 have h7:=hp.pos;have:=zQ (body:=zMr r s k p) (r:=vA p D r k s) (fun i=>(zIF p D i r k s,(i:Int))) D (fun i hi=>by
  have a1:=hr.2 i hi;have a2:=hs.2 i hi;have a3:=zCy hp hk a2;unfold zMr;simp only
  rw[hr.1,yM hi,zK,yH (by grind[zFc]),bs,yH (by rw[hs.1];exact hi),bs,zI (by omega) (by omega),bs,zPq hi,zI (by omega) (by omega),bs,zGv hp (by omega) (by omega),bs,bs,zI (by omega) (by omega),bs,cs,J6,zLJ rfl]) (by
  unfold zMr;simp only
  rw[hr.1,qD,zL,zJu])
 rw[show((0:Nat):Int)=0 from rfl,zJt hr.1]at this
 grind[f_I]
theorem tN{D:Nat}{r s:List Int}{k:Int}(hr:Row p D r)(hs:Row p D s)(hk:-7≤k∧k≤7)(hD:D≤1000000):f_D p r k s=iz (vA p D r k s):=by
 have h7:=hp.pos;have:=zQ (body:=zUk p k s) (r:=vA p D r k s) (fun i=>(zIF p D i r k s,(i:Int))) D (fun i hi=>by
  have a1:=hr.2 i hi;have a2:=hs.2 i hi;have a3:=zCy hp hk a2;unfold zUk;simp only
  rw[zFc,yM hi,zK,hs.1,yM hi,zK,yH (by grind[zFc]),bs,yH (by rw[hs.1];exact hi),bs,zI (by omega) (by omega),bs,zPq hi,zI (by omega) (by omega),bs,zLK hp (by omega) (by omega),bs,bs,zI (by omega) (by omega),bs,cs,J6,zLJ rfl]) (by
  unfold zUk;simp only
  rw[zFc,qD,zL,zJu])
 rw[show((0:Nat):Int)=0 from rfl,zJt hr.1]at this;unfold f_D;rw[wQ (by rw[hr.1];omega),bs,this,bs]
end
theorem zEy{p:Int}{D:Nat}{r s:List Int}:vA p D r (p-1) s=vA p D r (-1) s:=yD fun j _=>by rw[show at0 r j+(p-1)*at0 s j=at0 r j+ -1*at0 s j+p*at0 s j from by grind,Hm]
theorem zDH{p:Int}{D:Nat}{r s:List Int}(hr:Row p D r)(hs:Row p D s):(∀j,j<D→at0 (vA p D r (-1) s) j=0)↔r=s:=by
 constructor
 ·intro h
  rw[wT hr.1,wT hs.1];refine yD fun j hj=>?_
  have h1:=h j hj;rw[vA,zS hj]at h1;have a1:=hr.2 j hj;have a2:=hs.2 j hj;obtain⟨c,hc⟩:=Int.dvd_of_emod_eq_zero h1;have:c=0:=by
   rcases Int.lt_trichotomy c 0 with h|h|h
   ·have:=H8 (show c≤ -1 by omega) (show 0≤p by omega);omega
   ·exact h
   ·have:=H8 (show 1≤c by omega) (show 0≤p by omega);omega
  grind
 ·rintro rfl j hj
  rw[vA,zS hj,show at0 r j+ -1*at0 r j=0 from by omega];simp
end Go.Pl

namespace Go.Pl
open Go Go.Ab Go.Wk Go.Pc
def VOk(n:Nat)(p:Int)(D:Nat)(vals:Mx):Prop:=vals.length=n∧ ∀i,i<n→Row p D (vals.getD i [])
def stp(m:zC)(D:Nat)(vals:Mx)(v:List Int)(w:Nat):List Int:=vA m.Prime D (xL m.Prime D v (m.zE.getD w [])) 1 (vals.getD w [])
def ev(m:zC)(D:Nat)(vals:Mx)(v:List Int)(ws:List Nat):List Int:=ws.foldl (stp m D vals) v
theorem jR{m:zC}{D:Nat}{vals:Mx}{v:List Int}{a b:List Nat}:ev m D vals v (a++b)=ev m D vals (ev m D vals v a) b:=by simp[ev,G3]
theorem zNs{m:zC}{D:Nat}{vals:Mx}{w:Nat}:∀(k:Nat)(v:List Int),ev m D vals v (J1 k w)=iter k (fun v=>stp m D vals v w) v
 |0,_=>rfl
 |k+1,v=>by rw[Jv];show ev m D vals (stp m D vals v w) (J1 k w)=_;rw[zNs k];rfl
abbrev z0(D:Nat):List Int:=J1 D 0
theorem zBK{p:Int}{D:Nat}(hp:0<p):Row p D (z0 D):=by
 refine⟨by simp,fun i hi=>?_⟩
 grind
theorem wU{p:Int}{D:Nat}{r:List Int}{B:Mx}(hp:0<p):Row p D (xL p D r B):=by
 refine⟨yE _ _,fun i hi=>?_⟩;have e1:=Kz (S D (fun l=>at0 r l*ent B l i)) (show p≠0 by omega);have e2:=Kh (S D (fun l=>at0 r l*ent B l i)) hp
 grind[xL,zS]
section
variable {n D:Nat}{m:zC} (hm:MOk n m D) (hn:n≤14) {vals:Mx} (hv:VOk n m.Prime D vals)
 include hm hn hv
theorem zCz{v:List Int}{w:Nat}:Row m.Prime D (stp m D vals v w):=by have _:=hn;have _:=hv;exact kF hm.p
theorem qT{v:List Int}(h:Row m.Prime D v):∀ws,Row m.Prime D (ev m D vals v ws):=by
 intro ws
 induction ws generalizing v with
 |nil=>exact h
 |cons w ws ih=>exact ih (zCz hm hn hv)
theorem zCj{v:List Int}{w:Nat}(h:Row m.Prime D v)(hw:w<n):zM2 m vals v (w:Int)=iz (stp m D vals v w):=by have _:=hn;have h7:=hm.p.pos;have h3:=hm.d3;unfold zM2;rw[zX [] (by rw[hm.len];exact hw),bs,hm.d,zEx hm.p (by omega) h (hm.mat w hw),bs,zX [] (by rw[hv.1];exact hw),bs,tN hm.p (wU (by omega)) (hv.2 w hw) (by omega) (by omega),bs];rfl
theorem zGw{v x:List Int}(h:Row m.Prime D v)(hl:x.length=n)(hx:∀i,i<n→0≤at0 x i∧at0 x i≤6):f_V m vals v x=iz (ev m D vals v (nw 0 x)):=by
 have:=zQ (body:=zUo m vals x) (r:=ev m D vals v (nw 0 x)) (fun i=>(ev m D vals v (nw 0 (x.take i)),(i:Int))) n (fun i hi=>by
  have aB:=hx i hi;unfold zUo;simp only
  rw[hl,yM hi,zK];rw[vT (S:=Row m.Prime D) (body:=zUn m vals x (ev m D vals v (nw 0 (x.take i)),(i:Int))) (fun v=>v) (fun v=>stp m D vals v i) (at0 x i) aB.1 (by grind[zCz]) (fun u q hu hq=>by
   unfold zUn;simp only
   rw[yH (by omega),bs,iE hq,zK,zCj hm hn hv hu hi,bs,zI (by omega) (by omega),bs,cs]) (fun u hu=>by
   unfold zUn;simp only
   rw[yH (by omega),bs,iD (by omega),zL]) (qT hm hn hv h _),bs,zI (by omega) (by omega),bs,cs]
  grind[zKp,jR,zNs]) (by
  unfold zUo
  grind)
 rw[show((0:Nat):Int)=0 from rfl,Ko]at this
 grind[nw,ev,f_V]
theorem zFd{ws:List Nat}(hw:∀w∈ws,w<n)(hl:ws.length≤1000):zUq m vals (enW ws)=iz (ev m D vals (z0 D) ws):=by
 have h7:=hm.p.pos;have h3:=hm.d3;unfold zUq;rw[hm.d,yX (by omega),bs];have hz:=zBK (p:=m.Prime) (D:=D) (by omega);have aO:(enW ws).length=ws.length:=by simp
 have:=zQ (body:=zM3 m vals (enW ws)) (r:=ev m D vals (z0 D) ws) (fun i=>(ev m D vals (z0 D) (ws.take i),(i:Int))) ws.length (fun i hi=>by
  have md:=hw ws[i] (K3 hi);have hr:=qT hm hn hv hz (ws.take i);unfold zM3;simp only
  rw[aO,yM hi,zK,vY,Jn,J5 hi];simp only[He];rw[bs,zI (by omega) (by omega),bs,show((ws[i]:Nat):Int)+1-1=((ws[i]:Nat):Int)from by omega,zEf hm hn md,bs,zCh hm.p (by omega) hr (hm.mat _ md) rfl,bs,bs,zX [] (by rw[hv.1];exact md),bs,zBe hm.p (wU (by omega)) (hv.2 _ md) (by omega) (by omega),bs,zI (by omega) (by omega),bs,cs,Js hi,jR];rfl) (by
  unfold zM3;simp)
 rw[show((0:Nat):Int)=0 from rfl,Ko]at this
 grind[ev]
end
theorem zHY{v:List Int}(hl:v.length≤1000000):IsB (f_L v) (∀i,i<v.length→at0 v i=0):=by
 refine sC v.length (fun i=>at0 v i=0) rfl (fun i hi _=>?_) ?_
 ·unfold zMo
  rw[yM hi,zK,yH hi,bs]
  by_cases h:at0 v i=0
  ·rw[show(at0 v i != 0)=iC from by grind,zL,zI (by omega) (by omega),bs,cs];grind
  grind
 ·unfold zMo
  simp
theorem kY{v:List Int}(hl:v.length≤1000000):IsB (zIM v) (∀i,i<v.length→at0 v i=0):=zHY hl
theorem zQo{xs:Mx}:(∀i,i<xs.flatten.length→at0 xs.flatten i=0)↔ ∀r∈xs,∀j,j<r.length→at0 r j=0:=by
 have key:∀v:List Int,(∀i,i<v.length→at0 v i=0)↔ ∀a∈v,a=0:=fun v=>by
  constructor
  ·intro h a ha
   obtain⟨i,hi,rfl⟩:=Jt.1 ha
   grind
  ·intro h i hi
   have:=h v[i] (K3 hi)
   grind
 rw[key];simp only[Ja1,key];exact⟨fun h r hr a ha=>h a ⟨r,hr,ha⟩,by grind⟩
section
variable {x:SPr} (h:Pres x) {m:zC}{D:Nat} (hm:MOk x.zA.length m D) {vals:Mx} (hv:VOk x.zA.length m.Prime D vals)
 include h hm hv
abbrev dfc(m:zC)(D:Nat)(vals:Mx)(q:Rl):List Int:=vA m.Prime D (ev m D vals (z0 D) q.1) (-1) (ev m D vals (z0 D) q.2)
def zZv(x:SPr)(m:zC)(D:Nat)(vals:Mx):Prop:=∀q∈yZ x,ev m D vals (z0 D) q.1=ev m D vals (z0 D) q.2
theorem zGL:(yZ x).length≤300:=by
 have _:=hv;have _:=hm;have h6:=h.os.1;have aN:=zHX h x.zA.length (Jf _)
 grind[yZ]
theorem zAZ:zOj x m vals=iz ((yZ x).map (dfc m D vals)):=by
 have h6:=h.os.1;have h7:=hm.p.pos;have h3:=hm.d3;have eJ:=zGL h hm hv;have hz:=zBK (p:=m.Prime) (D:=D) (by omega);unfold zOj;rw[zBp h,bs];have:=zQ (body:=zM4 m vals ((yZ x).map enR)) (r:=(yZ x).map (dfc m D vals)) (fun i=>(((yZ x).map (dfc m D vals)).take i,(i:Int))) (yZ x).length (fun i hi=>by
  have gu:(yZ x)[i]∈yZ x:=K3 hi;obtain⟨⟨g1,g2⟩,g3,g4⟩:=zCi h gu;unfold zM4;simp only
  rw[Jo,yM hi,zK,vY,Jn,J5 hi];simp only[He];rw[bs,zFd hm h6 hv g1 g2,bs,zFd hm h6 hv g3 g4,bs,zBe hm.p (qT hm h6 hv hz _) (qT hm h6 hv hz _) (by omega) (by omega),bs,zY (by simp;omega),bs,zI (by omega) (by omega),bs,cs,Js (by simpa using hi)];simp) (by
  unfold zM4;simp only
  rw[Jo,qD,zL,Jm (by simp)])
 grind
theorem zLL{q:Rl}:(∀j,j<(dfc m D vals q).length→at0 (dfc m D vals q) j=0)↔ev m D vals (z0 D) q.1=ev m D vals (z0 D) q.2:=by
 have h6:=h.os.1;have h7:=hm.p.pos
 grind[zBK,zDp,zDH,qT]
theorem zNt:IsB ((zOj x m vals).bind fun r3=>(f_z r3).bind fun r4=>f_L r4) (zZv x m D vals):=by
 have eJ:=zGL h hm hv;have h3:=hm.d3;have ac:∀xs:List Rl,((xs.map (dfc m D vals)).flatten).length≤xs.length*3:=fun xs=>by
  induction xs with
  |nil=>simp
  |cons q xs ih=>
   simp only[Jl,U8,Ja,K2];have:(dfc m D vals q).length=D:=zDp;omega
 have:=ac (yZ x);rw[zAZ h hm hv,bs,zA7 (by simp;omega) (by omega),bs];refine(zHY (by omega)).iff ?_;rw[zQo];constructor
 ·intro g q hq
  exact(zLL h hm hv).1 (by grind)
 ·intro g r hr
  obtain⟨q,hq,rfl⟩:=Jj.1 hr;exact(zLL h hm hv).2 (g q hq)
end
end Go.Pl

namespace Go.Pl
open Go Go.Ab Go.Wk Go.Pc
theorem zJv{m:zC}{D:Nat}{vals:Mx}(hp:Prime m.Prime)(hd:m.Dim=(D:Int))(hD:D≤8)(hl:vals.length≤1048576):IsB (zW4 m vals) (∀i,i<vals.length→Row m.Prime D (vals.getD i [])):=by
 refine sC vals.length (fun i=>Row m.Prime D (vals.getD i [])) rfl (fun i hi _=>?_) ?_
 ·refine vZ (zGu hp hD (r:=vals.getD i [])) (by omega) ?_
  unfold zPJ;rw[yM hi,zK,zX [] hi,bs,hd]
 ·unfold zPJ
  simp
theorem zQp{m:zC}{D:Nat}{vals:Mx}(hp:Prime m.Prime)(hd:m.Dim=(D:Int))(hD:D≤8)(hl:vals.length≤1048576):IsB (zUm m vals) (∀i,i<vals.length→Row m.Prime D (vals.getD i [])):=by
 refine sC vals.length (fun i=>Row m.Prime D (vals.getD i [])) rfl (fun i hi _=>?_) ?_
 ·refine vZ (zDo hp hD (r:=vals.getD i [])) (by omega) ?_
  unfold zI4;rw[yM hi,zK,zX [] hi,bs,hd]
 ·unfold zI4
  simp
theorem zJw{a b:Int}(h:a=b):(a==b)=iB:=by simp[h]
theorem zHZ{a b:Int}(h:a≠b):(a==b)=iC:=by simp[h]
theorem zGx{x:SPr}{m:zC}{D:Nat}{vals:Mx}(hp:Prime m.Prime)(hd:m.Dim=(D:Int))(hD:D≤8)(hl:vals.length≤1048576):IsB (zQN x m vals) (VOk x.zA.length m.Prime D vals):=by
 unfold zQN
 by_cases hn:vals.length=x.zA.length
 ·rw[zJw (by omega),zK]
  exact(IsB.b (zJv hp hd hD hl)).iff ⟨fun g=>⟨hn,by grind⟩,fun g i hi=>g.2 i (by omega)⟩
 ·rw[zHZ (by omega),zL];exact .inr ⟨rfl,fun g=>hn g.1⟩
theorem zGy{x:SPr}{m:zC}{D:Nat}{vals:Mx}(hp:Prime m.Prime)(hd:m.Dim=(D:Int))(hD:D≤8)(hl:vals.length≤1048576):IsB (zW3 x m vals) (VOk x.zA.length m.Prime D vals):=by
 unfold zW3
 by_cases hn:vals.length=x.zA.length
 ·rw[zJw (by omega),zK]
  exact(IsB.b (zQp hp hd hD hl)).iff ⟨fun g=>⟨hn,by grind⟩,fun g i hi=>g.2 i (by omega)⟩
 ·rw[zHZ (by omega),zL];exact .inr ⟨rfl,fun g=>hn g.1⟩
end Go.Pl

namespace Go.Pl
open Go Go.Ab Go.Wk Go.Pc
theorem IsB.both{o o':Option Bool}{P:Prop}(h:IsB o P)(h':IsB o' P):(o=iz iB∧o'=iz iB∧P)∨(o=iz iC∧o'=iz iC∧ ¬P):=by
 rcases h with⟨h1,h2⟩|⟨h1,h2⟩<;>rcases h' with⟨h3,h4⟩|⟨h3,h4⟩
 all_goals grind
end Go.Pl

namespace Go.Pl
open Go Go.Ab Go.Wk Go.Pc
def Sp(p:Int)(n:Nat)(R:Mx)(v:List Int):Prop:=∃c:Nat→Int,∀j,j<n→(S R.length fun i=>c i*ent R i j)%p=at0 v j%p
section
variable {p:Int}{n:Nat}{R R':Mx}{u v w:List Int}
theorem qU{i:Nat}(hi:i<R.length):Sp p n R (R.getD i []):=by
 refine⟨fun l=>if l=i then 1 else 0,fun j _=>?_⟩
 grind[zB8]
theorem qV{k:Int}(hv:Sp p n R v)(hw:Sp p n R w)(h:∀j,j<n→at0 u j%p=(at0 v j+k*at0 w j)%p):Sp p n R u:=by
 obtain⟨c,hc⟩:=hv;obtain⟨d,hd⟩:=hw;refine⟨fun i=>c i+k*d i,fun j hj=>?_⟩;have e:(S R.length fun i=>(c i+k*d i)*ent R i j)=(S R.length fun i=>c i*ent R i j)+k*(S R.length fun i=>d i*ent R i j):=by
  rw[←zBo,←zFa]
  grind
 rw[e,h j hj,Jx,hc j hj,Jk,hd j hj,←Jk,←Jx]
theorem zBA(h:∀j,j<n→at0 u j%p=0):Sp p n R u:=by refine⟨fun _=>0,fun j hj=>?_⟩;rw[h j hj,wK (g:=fun _=>0) (fun i _=>by simp),kD];simp
theorem zA8(h:∀i,i<R.length→Sp p n R' (R.getD i []))(hv:Sp p n R v):Sp p n R' v:=by
 obtain⟨c,hc⟩:=hv;have key:∀m,m≤R.length→ ∃d:Nat→Int,∀j,j<n→(S R'.length fun i=>d i*ent R' i j)%p=(S m fun i=>c i*ent R i j)%p:=by
  intro m
  induction m with
  |zero=>intro _;exact⟨fun _=>0,fun j _=>by rw[wK (g:=fun _=>0) (fun i _=>by simp),kD];rfl⟩
  |succ m ih=>
   intro hm;obtain⟨d,hd⟩:=ih (by omega);obtain⟨e,he⟩:=h m (by omega);refine⟨fun i=>d i+c m*e i,fun j hj=>?_⟩;have e1:(S R'.length fun i=>(d i+c m*e i)*ent R' i j)=(S R'.length fun i=>d i*ent R' i j)+c m*(S R'.length fun i=>e i*ent R' i j):=by
    rw[←zBo,←zFa]
    grind
   rw[e1,Jx,hd j hj,Jk,he j hj,←Jk,←Jx];rfl
 obtain⟨d,hd⟩:=key R.length (Jf _);exact⟨d,by grind⟩
end
def jW(p:Int)(n:Nat)(R R':Mx):Prop:=(∀i,i<R.length→Sp p n R' (R.getD i []))∧ ∀i,i<R'.length→Sp p n R (R'.getD i [])
theorem jW.refl{p:Int}{n:Nat}{R:Mx}:jW p n R R:=⟨fun _ h=>qU h,fun _ h=>qU h⟩
theorem jW.symm{p:Int}{n:Nat}{R R':Mx}(h:jW p n R R'):jW p n R' R:=⟨h.2,h.1⟩
theorem jW.trans{p:Int}{n:Nat}{R R' R2:Mx}(h:jW p n R R')(h':jW p n R' R2):jW p n R R2:=⟨fun i hi=>zA8 h'.1 (h.1 i hi),fun i hi=>zA8 h.2 (h'.2 i hi)⟩
theorem jW.iff{p:Int}{n:Nat}{R R':Mx}{v:List Int}(h:jW p n R R'):Sp p n R v↔Sp p n R' v:=⟨fun g=>zA8 h.1 g,fun g=>zA8 h.2 g⟩
structure Red (p:Int) (n:Nat) (R:Mx) (pv:Nat→Nat):Prop where
 row:∀i,i<R.length→Row p n (R.getD i [])
 lt:∀i,i<R.length→pv i<n
 one:∀i,i<R.length→ent R i (pv i)=1
 low:∀i,i<R.length→ ∀j,j<pv i→ent R i j=0
 off:∀i k,i<R.length→k<R.length→k≠i→ent R k (pv i)=0
 mono:∀i j,i<j→j<R.length→pv i<pv j
section
variable {p:Int} (hp:1<p) {n:Nat}{R R':Mx}{pv pv':Nat→Nat}{v:List Int}
theorem Red.coef(h:Red p n R pv){c:Nat→Int}(hc:∀j,j<n→(S R.length fun i=>c i*ent R i j)%p=at0 v j%p){k:Nat}(hk:k<R.length):c k%p=at0 v (pv k)%p:=by rw[←hc (pv k) (h.lt k hk),zB8 (k:=k) hk (fun i hi gf=>by rw[h.off k i hk hi gf];simp),h.one k hk];simp
theorem Red.expand(h:Red p n R pv)(hv:Sp p n R v):∀j,j<n→at0 v j%p=(S R.length fun i=>at0 v (pv i)*ent R i j)%p:=by obtain⟨c,hc⟩:=hv;intro j hj;rw[←hc j hj];exact zAP fun i hi=>by rw[Jk,h.coef hc hi,←Jk]
theorem Red.lead(h:Red p n R pv)(hv:Sp p n R v)(gf:∃j,j<n∧at0 v j%p≠0):∃i,i<R.length∧(∀j,j<pv i→at0 v j%p=0)∧at0 v (pv i)%p≠0:=by
 have hx:=h.expand hv;have h1:∃i,i<R.length∧at0 v (pv i)%p≠0:=by
  refine Classical.byContradiction fun hn=>?_
  obtain⟨j,hj,aL⟩:=gf;refine aL ?_;rw[hx j hj,zAP (g:=fun _=>0) (fun i hi=>by
   have:at0 v (pv i)%p=0:=by grind
   rw[Jk,this];simp),kD];rfl
 obtain⟨i,⟨hi,fR⟩,eR⟩:=zEa h1;refine⟨i,hi,fun j hj=>?_,fR⟩;have bn:j<n:=Nat.lt_trans hj (h.lt i hi);rw[hx j bn,zAP (g:=fun _=>0) (fun k hk=>by
  rcases Jg k i with hki|hki
  ·have:at0 v (pv k)%p=0:=by grind
   rw[Jk,this];simp
  ·have h2:pv i≤pv k:=by
    rcases Jg i k with h3|h3
    ·exact Nat.le_of_lt (h.mono i k h3 hk)
    grind
   rw[h.low k hk j (by omega)];simp),kD];rfl
 include hp
theorem Red.row_lead(h:Red p n R pv){i:Nat}(hi:i<R.length):(∃j,j<n∧at0 (R.getD i []) j%p≠0)∧(∀j,j<pv i→at0 (R.getD i []) j%p=0)∧at0 (R.getD i []) (pv i)%p≠0:=by
 have h1:at0 (R.getD i []) (pv i)%p≠0:=by have:=h.one i hi;simp only[ent]at this;rw[this,Jz (by omega) hp];omega
 refine⟨⟨pv i,h.lt i hi,h1⟩,fun j hj=>?_,h1⟩;have:=h.low i hi j hj
 simp_all
theorem Red.piv_in(h:Red p n R pv)(h':Red p n R' pv')(hs:∀i,i<R.length→Sp p n R' (R.getD i [])){i:Nat}(hi:i<R.length):∃k,k<R'.length∧pv' k=pv i:=by
 obtain⟨g1,g2,g3⟩:=h.row_lead hp hi;obtain⟨k,hk,g4,g5⟩:=h'.lead (hs i hi) g1
 grind
theorem Red.piv_eq(h:Red p n R pv)(h':Red p n R' pv')(hs:jW p n R R'):∀i,(i<R.length↔i<R'.length)∧(i<R.length→pv i=pv' i):=by
 intro i
 induction i using Nat.strongRecOn with
 |_ i ih=>
  have a:i<R.length→i<R'.length∧pv' i≤pv i:=fun hi=>by
   obtain⟨k,hk,e⟩:=h.piv_in hp h' hs.1 hi;have hki:i≤k:=by
    refine Classical.byContradiction fun hn=>?_
    have h1:=(ih k (by omega)).2 (by omega);have h2:=h.mono k i (by omega) hi;omega
   refine⟨by omega,?_⟩;rcases Jg i k with h3|h3
   ·have:=h'.mono i k h3 hk;omega
   grind
  have b:i<R'.length→i<R.length∧pv i≤pv' i:=fun hi=>by
   obtain⟨k,hk,e⟩:=h'.piv_in hp h hs.2 hi;have hki:i≤k:=by
    refine Classical.byContradiction fun hn=>?_
    have h1:=(ih k (by omega)).2 hk;have h2:=h'.mono k i (by omega) hi;omega
   refine⟨by omega,?_⟩;rcases Jg i k with h3|h3
   ·have:=h.mono i k h3 hk;omega
   grind
  omega
theorem Red.unique(h:Red p n R pv)(h':Red p n R' pv')(hs:jW p n R R'):R=R':=by
 have mn:=h.piv_eq hp h' hs;have hl:R.length=R'.length:=by
  rcases Ql R.length R'.length with g|g|g
  all_goals grind
 refine zFQ (D:=R.length) rfl hl.symm fun i hi=>?_
 have eh:i<R'.length:=by omega
 have r1:=h.row i hi;have r2:=h'.row i eh;rw[wT r1.1,wT r2.1];refine yD fun j hj=>?_
 have hx:=h'.expand (hs.1 i hi) j hj;rw[wK (g:=fun k=>(if k=i then 1 else 0)*ent R' k j) (fun k hk=>by
  congr 1
  have e:=(mn k).2 (by omega)
  by_cases hki:k=i
  ·subst hki;rw[if_pos rfl,←e];exact h.one k hi
  ·rw[if_neg hki,←e];exact h.off k i (by omega) hi (Ne.symm hki)),zB8 (k:=i) eh (fun k _ hk=>by simp[hk])]at hx
 simp only[if_true,Hc,ent]at hx;have a1:=r1.2 j hj;have a2:=r2.2 j hj;rw[Jz a1.1 (by omega),Jz a2.1 (by omega)]at hx;exact hx
end
end Go.Pl

namespace Go.Pl
open Go Go.Ab Go.Wk Go.Pc
def mkR(m:Nat)(F:Nat→List Int):Mx:=(Ji m).map F
theorem sF{m:Nat}{F:Nat→List Int}:(mkR m F).length=m:=by simp[mkR]
theorem zAv{m:Nat}{F:Nat→List Int}{i:Nat}(h:i<m):(mkR m F).getD i []=F i:=by simp[mkR,J2,h]
theorem zKr{m:Nat}{F:Nat→List Int}{i:Nat}(h:i<m):ixO (mkR m F) (i:Int)=iz (F i):=by rw[zX [] (by grind[sF]),zAv h]
theorem kZ{m:Nat}{F G:Nat→List Int}(h:∀i,i<m→F i=G i):mkR m F=mkR m G:=by grind[mkR,Gv]
theorem zSt{R:Mx}{m:Nat}(h:R.length=m):R=mkR m (fun i=>R.getD i []):=zFQ (D:=m) h sF (by grind[zAv])
theorem zGM{m:Nat}{F:Nat→List Int}{i:Nat}{a:List Int}:(mkR m F).set i a=mkR m (fun k=>if k=i then a else F k):=by
 apply Kk;intro k
 by_cases hk:k<m
 ·by_cases h:i=k
  ·grind[mkR]
  ·rw[List.getElem?_set_ne h];simp[mkR,hk,Ne.symm h]
 grind[mkR]
theorem zFe{m:Nat}{F:Nat→List Int}{i j:Nat}(h:i<m):ent (mkR m F) i j=at0 (F i) j:=by simp only[ent,zAv h]
theorem zSu{s:Nat→Int×Int×Int×Int}(n:Nat){r:Int×Int}(h:∀i,i<n→zJD (s i)=iz (.inl (s (i+1))))(he:zJD (s n)=iz (.inr r)){p q:Int}(hq:zII r.2 p=iz q)(h1:r.1=1)(hs:s 0=(p,(s 0).2.1,0,1)):
  zOa (s 0).2.1 p=iz (q,iB):=by
 unfold zOa;rw[←hs,zQ s n h he,bs,hq,bs,h1];rfl
def zSv:List (Int×Int×Int×Int)→Nat→Int×Int×Int×Int:=fun l i=>l.getD i (0,0,0,0)
theorem tD(l:List (Int×Int×Int×Int))(n:Nat){r:Int×Int}(h:∀i,i<n→zJD (zSv l i)=iz (.inl (zSv l (i+1))))(he:zJD (zSv l n)=iz (.inr r)){p q x:Int}(hq:zII r.2 p=iz q)(h1:r.1=1)(hs:zSv l 0=(p,x,0,1)):
  zOa x p=iz (q,iB):=by
 have:=zSu (s:=zSv l) n h he hq h1 (by rw[hs])
 grind
theorem lt1{P:Nat→Prop}(h0:P 0):∀i,i<1→P i:=by grind
theorem lt2{P:Nat→Prop}(h0:P 0)(h1:P 1):∀i,i<2→P i:=by grind
theorem lt3{P:Nat→Prop}(h0:P 0)(h1:P 1)(h2:P 2):∀i,i<3→P i:=by grind
theorem zFf{p x:Int}(hp:Prime p)(h0:1≤x)(h1:x≤p-1):∃r,zOa x p=iz (r,iB)∧0≤r∧r≤p-1∧(x*r)%p=1:=by
 have c:(p=2∧x=1)∨(p=3∧(x=1∨x=2))∨(p=5∧(x=1∨x=2∨x=3∨x=4))∨(p=7∧(x=1∨x=2∨x=3∨x=4∨x=5∨x=6)):=by unfold Prime at hp;omega
 rcases c with⟨rfl,rfl⟩|⟨rfl,rfl|rfl⟩|⟨rfl,rfl|rfl|rfl|rfl⟩|⟨rfl,rfl|rfl|rfl|rfl|rfl|rfl⟩
 ·exact⟨1,tD [(2,1,0,1),(1,0,1,-2)] 1 (lt1 (by rfl)) (r:=(1,1)) (by rfl) (by rfl) rfl rfl,by decide,by decide,by decide⟩
 ·exact⟨1,tD [(3,1,0,1),(1,0,1,-3)] 1 (lt1 (by rfl)) (r:=(1,1)) (by rfl) (by rfl) rfl rfl,by decide,by decide,by decide⟩
 ·exact⟨2,tD [(3,2,0,1),(2,1,1,-1),(1,0,-1,3)] 2 (lt2 (by rfl) (by rfl)) (r:=(1,-1)) (by rfl) (by rfl) rfl rfl,by decide,by decide,by decide⟩
 ·exact⟨1,tD [(5,1,0,1),(1,0,1,-5)] 1 (lt1 (by rfl)) (r:=(1,1)) (by rfl) (by rfl) rfl rfl,by decide,by decide,by decide⟩
 ·exact⟨3,tD [(5,2,0,1),(2,1,1,-2),(1,0,-2,5)] 2 (lt2 (by rfl) (by rfl)) (r:=(1,-2)) (by rfl) (by rfl) rfl rfl,by decide,by decide,by decide⟩
 ·exact⟨2,tD [(5,3,0,1),(3,2,1,-1),(2,1,-1,2),(1,0,2,-5)] 3 (lt3 (by rfl) (by rfl) (by rfl)) (r:=(1,2)) (by rfl) (by rfl) rfl rfl,by decide,by decide,by decide⟩
 ·exact⟨4,tD [(5,4,0,1),(4,1,1,-1),(1,0,-1,5)] 2 (lt2 (by rfl) (by rfl)) (r:=(1,-1)) (by rfl) (by rfl) rfl rfl,by decide,by decide,by decide⟩
 ·exact⟨1,tD [(7,1,0,1),(1,0,1,-7)] 1 (lt1 (by rfl)) (r:=(1,1)) (by rfl) (by rfl) rfl rfl,by decide,by decide,by decide⟩
 ·exact⟨4,tD [(7,2,0,1),(2,1,1,-3),(1,0,-3,7)] 2 (lt2 (by rfl) (by rfl)) (r:=(1,-3)) (by rfl) (by rfl) rfl rfl,by decide,by decide,by decide⟩
 ·exact⟨5,tD [(7,3,0,1),(3,1,1,-2),(1,0,-2,7)] 2 (lt2 (by rfl) (by rfl)) (r:=(1,-2)) (by rfl) (by rfl) rfl rfl,by decide,by decide,by decide⟩
 ·exact⟨2,tD [(7,4,0,1),(4,3,1,-1),(3,1,-1,2),(1,0,2,-7)] 3 (lt3 (by rfl) (by rfl) (by rfl)) (r:=(1,2)) (by rfl) (by rfl) rfl rfl,by decide,by decide,by decide⟩
 ·exact⟨3,tD [(7,5,0,1),(5,2,1,-1),(2,1,-1,3),(1,0,3,-7)] 3 (lt3 (by rfl) (by rfl) (by rfl)) (r:=(1,3)) (by rfl) (by rfl) rfl rfl,by decide,by decide,by decide⟩
 ·exact⟨6,tD [(7,6,0,1),(6,1,1,-1),(1,0,-1,7)] 2 (lt2 (by rfl) (by rfl)) (r:=(1,-1)) (by rfl) (by rfl) rfl rfl,by decide,by decide,by decide⟩
end Go.Pl

namespace Go.Pl
open Go Go.Ab Go.Wk Go.Pc
structure zQq (p:Int) (n m:Nat) (rows:Mx) (c:Nat) (M:Mx) (d:Nat) (pv:Nat→Nat):Prop where
 len:M.length=m
 row:∀i,i<m→Row p n (M.getD i [])
 dm:d≤m
 lt:∀i,i<d→pv i<c
 one:∀i,i<d→ent M i (pv i)=1
 low:∀i,i<d→ ∀j,j<pv i→ent M i j=0
 off:∀i k,i<d→k<m→k≠i→ent M k (pv i)=0
 mono:∀i j,i<j→j<d→pv i<pv j
 zero:∀k,d≤k→k<m→ ∀j,j<c→ent M k j=0
 sp:jW p n M rows
theorem zC0{p:Int}{n m:Nat}{F:Nat→List Int}{i:Nat}(h:i<m):Sp p n (mkR m F) (F i):=by
 have:=qU (p:=p) (n:=n) (R:=mkR m F) (i:=i) (by grind[sF])
 grind[zAv]
theorem zSw(a e r p:Int):a%p=((a+(0-e)*r)%p+e*r)%p:=by rw[Jx,Jr,←Jx,show a+(0-e)*r+e*r=a from by grind]
section
variable {p:Int} (hp:Prime p) {n m:Nat}{rows:Mx}{c:Nat}{M:Mx}{d:Nat}{pv:Nat→Nat} (h:zQq p n m rows c M d pv) (hc:c<n) (hd:d<m)
 include hp h hc hd
theorem zQq.pivot{t:Nat}(ht:d≤t)(bL:t<m)(gf:ent M t c≠0){q:Int}(hq:(ent M t c*q)%p=1):
  zQq p n m rows (c+1) (mkR m fun i=>if i=d then mkv n fun j=>(ent M t j*q)%p else vA p n (if i=t then M.getD d []else M.getD i []) (0-at0 (if i=t then M.getD d []else M.getD i []) c) (mkv n fun j=>(ent M t j*q)%p)) (d+1) (fun i=>if i=d then c else pv i):=by
 have h7:=hp.pos;have pr:∀j,j<n→at0 (mkv n fun j=>(ent M t j*q)%p) j=(ent M t j*q)%p:=fun j hj=>zS hj
 have p0:∀j,j<c→(ent M t j*q)%p=0:=fun j hj=>by rw[h.zero t ht bL j hj];simp
 have prow:Row p n (mkv n fun j=>(ent M t j*q)%p):=⟨yE _ _,fun j hj=>by have e1:=Kz (ent M t j*q) (show p≠0 by omega);have e2:=Kh (ent M t j*q) (show 0<p by omega);rw[pr j hj];omega⟩
 have hG:∀i,i<m→i≠d→Row p n (if i=t then M.getD d []else M.getD i []):=fun i hi _=>by
  split
  ·exact h.row d hd
  ·exact h.row i hi
 have eo:∀i j,i<m→i≠d→j<n→ent (mkR m fun i=>if i=d then mkv n fun j=>(ent M t j*q)%p else vA p n (if i=t then M.getD d []else M.getD i []) (0-at0 (if i=t then M.getD d []else M.getD i []) c) (mkv n fun j=>(ent M t j*q)%p)) i j=(at0 (if i=t then M.getD d []else M.getD i []) j+(0-at0 (if i=t then M.getD d []else M.getD i []) c)*((ent M t j*q)%p))%p:=fun i j hi eF hj=>by rw[zFe hi,if_neg eF,vA,zS hj,pr j hj]
 have el:∀i j,i<m→i≠d→j<c→ent (mkR m fun i=>if i=d then mkv n fun j=>(ent M t j*q)%p else vA p n (if i=t then M.getD d []else M.getD i []) (0-at0 (if i=t then M.getD d []else M.getD i []) c) (mkv n fun j=>(ent M t j*q)%p)) i j=at0 (if i=t then M.getD d []else M.getD i []) j:=fun i j hi eF hj=>by rw[eo i j hi eF (by omega),p0 j hj,H3,Lw];have:=(hG i hi eF).2 j (by omega);exact Jz this.1 (by omega)
 have ed:∀j,j<n→ent (mkR m fun i=>if i=d then mkv n fun j=>(ent M t j*q)%p else vA p n (if i=t then M.getD d []else M.getD i []) (0-at0 (if i=t then M.getD d []else M.getD i []) c) (mkv n fun j=>(ent M t j*q)%p)) d j=(ent M t j*q)%p:=fun j hj=>by rw[zFe hd,if_pos rfl,pr j hj]
 have ec:∀i,i<m→i≠d→ent (mkR m fun i=>if i=d then mkv n fun j=>(ent M t j*q)%p else vA p n (if i=t then M.getD d []else M.getD i []) (0-at0 (if i=t then M.getD d []else M.getD i []) c) (mkv n fun j=>(ent M t j*q)%p)) i c=0:=fun i hi eF=>by rw[eo i c hi eF hc,hq,Lq];rw[show at0 (if i=t then M.getD d []else M.getD i []) c+(0-at0 (if i=t then M.getD d []else M.getD i []) c)=0 from by omega];simp
 have fh:∀i,i<d→(if i=t then M.getD d []else M.getD i [])=M.getD i []:=fun i hi=>by rw[if_neg (by omega)]
 have mS:∀i,d≤i→i<m→ ∀j,j<c→at0 (if i=t then M.getD d []else M.getD i []) j=0:=fun i hi fR j hj=>by
  split
  ·exact h.zero d (Jf _) hd j hj
  ·exact h.zero i hi fR j hj
 refine⟨sF,fun i hi=>?_,by omega,fun i hi=>?_,fun i hi=>?_,fun i hi j hj=>?_,fun i k hi hk eF=>?_,fun i j gV hj=>?_,fun k hk ca j hj=>?_,?_⟩
 ·rw[zAv hi]
  split
  ·exact prow
  ·exact kF hp
 ·by_cases eE:i=d
  ·rw[if_pos eE];omega
  ·rw[if_neg eE];have:=h.lt i (by omega);omega
 ·by_cases eE:i=d
  ·subst eE;rw[if_pos rfl,ed c hc,hq]
  ·have h1:=h.lt i (by omega)
   rw[if_neg eE,el i _ (by omega) eE h1,fh i (by omega)];exact h.one i (by omega)
 ·by_cases eE:i=d
  ·subst eE
   rw[if_pos rfl]at hj;rw[ed j (by omega),p0 j hj]
  ·rw[if_neg eE]at hj
   have h1:=h.lt i (by omega);rw[el i j (by omega) eE (by omega),fh i (by omega)];exact h.low i (by omega) j hj
 ·by_cases eE:i=d
  ·subst eE
   rw[if_pos rfl];exact ec k hk eF
  ·have h1:=h.lt i (by omega)
   rw[if_neg eE]
   by_cases mz:k=d
   ·subst mz
    rw[ed _ (by omega),h.off i t (by omega) bL (by omega)];simp
   ·rw[el k _ hk mz h1]
    split
    ·exact h.off i d (by omega) hd (Ne.symm eE)
    ·exact h.off i k (by omega) hk eF
 ·by_cases hjd:j=d
  ·subst hjd
   rw[if_pos rfl,if_neg (by omega)];exact h.lt i (by omega)
  ·rw[if_neg hjd,if_neg (by omega)];exact h.mono i j gV (by omega)
 ·rcases Jg j c with hjc|hjc
  ·rw[el k j ca (by omega) hjc];exact mS k (by omega) ca j hjc
  ·rw[show j=c from by omega];exact ec k ca (by omega)
 ·refine jW.trans ⟨fun i hi=>?_,fun i hi=>?_⟩ h.sp
  ·rw[sF]at hi
   rw[zAv hi];have hr:Sp p n M (mkv n fun j=>(ent M t j*q)%p):=by
    refine qV (k:=q) (zBA (u:=[]) fun j _=>by simp[at0]) (qU (R:=M) (i:=t) (by rw[h.len];exact bL)) fun j hj=>?_
    rw[pr j hj,Jr,Hx];simp[at0]
   split
   ·exact hr
   ·refine qV (k:=0-at0 (if i=t then M.getD d []else M.getD i []) c) (v:=if i=t then M.getD d []else M.getD i []) ?_ hr fun j hj=>?_
    ·split
     ·exact qU (by rw[h.len];exact hd)
     ·exact qU (by rw[h.len];exact hi)
    ·rw[vA,zS hj,Jr]
  ·rw[h.len]at hi
   have hr:=zC0 (p:=p) (n:=n) (m:=m) (F:=fun i=>if i=d then mkv n fun j=>(ent M t j*q)%p else vA p n (if i=t then M.getD d []else M.getD i []) (0-at0 (if i=t then M.getD d []else M.getD i []) c) (mkv n fun j=>(ent M t j*q)%p)) hd;simp only[if_true]at hr;have hg:∀k,k<m→k≠d→Sp p n (mkR m fun i=>if i=d then mkv n fun j=>(ent M t j*q)%p else vA p n (if i=t then M.getD d []else M.getD i []) (0-at0 (if i=t then M.getD d []else M.getD i []) c) (mkv n fun j=>(ent M t j*q)%p)) (if k=t then M.getD d []else M.getD k []):=fun k hk mz=>by
    have h1:=zC0 (p:=p) (n:=n) (m:=m) (F:=fun i=>if i=d then mkv n fun j=>(ent M t j*q)%p else vA p n (if i=t then M.getD d []else M.getD i []) (0-at0 (if i=t then M.getD d []else M.getD i []) c) (mkv n fun j=>(ent M t j*q)%p)) hk;simp only[if_neg mz]at h1;refine qV (k:=at0 (if k=t then M.getD d []else M.getD k []) c) h1 hr fun j hj=>?_
    rw[vA,zS hj,pr j hj];exact zSw _ _ _ _
   by_cases ez:i=t
   ·
    subst ez;refine qV (k:=ent M i c) (zBA (u:=[]) fun j _=>by simp[at0]) hr fun j hj=>?_
    rw[pr j hj];have e1:(ent M i c*((ent M i j*q)%p))%p=(ent M i j*((ent M i c*q)%p))%p:=by
     rw[Jk,Jr,←Jk,Jk (ent M i j),Jr,←Jk]
     congr 1
     rw[←Lo,←Lo,Hx (ent M i c)]
    rw[show at0 ([]:List Int) j=0 from by simp[at0],Kw,e1,hq,Lq]
   ·by_cases eE:i=d
    ·subst eE
     have:=hg t bL (by omega);rw[if_pos rfl]at this;exact this
    ·have:=hg i hi eE
     rw[if_neg ez]at this;exact this
end
end Go.Pl

namespace Go.Pl
open Go Go.Ab Go.Wk Go.Pc
theorem zAa{v:List Int}(h:v.length≤1000000):f_J v=iz v:=by grind[f_J,zY]
theorem zIG{rows:Mx}(hm:rows.length≤1000000)(hn:∀i,i<rows.length→(rows.getD i []).length≤1000000):zWy rows=iz rows:=by
 unfold zWy;have:=zQ (body:=zMw rows) (r:=rows) (fun i=>(rows.take i,(i:Int))) rows.length (fun i hi=>by
  unfold zMw;simp only
  rw[yM hi,zK,zX [] hi,bs,zAa (hn i hi),bs,zY (by simp;omega),bs,zI (by omega) (by omega),bs,cs,Js hi,J2,J5 hi];rfl) (by
  unfold zMw;simp)
 grind
theorem zQr{M:Mx}{d c m n:Nat}(hm:M.length=m)(hd:d≤m)(hmm:m≤1000000)(ef:∀i,i<m→(M.getD i []).length=n)(hc:c<n):
  ∃t:Nat,d≤t∧t≤m∧zG (zIJ (M,(d:Int),(c:Int))) (d:Int)=iz (t:Int)∧(∀k,d≤k→k<t→ent M k c=0)∧(t<m→ent M t c≠0):=by
 have key:∀k,k≤m-d→ ∃t:Nat,m-k≤t∧t≤m∧zG (zIJ (M,(d:Int),(c:Int))) ((m-k:Nat):Int)=iz (t:Int)∧(∀q,m-k≤q→q<t→ent M q c=0)∧(t<m→ent M t c≠0):=by
  intro k
  induction k with
  |zero=>
   intro _;refine⟨m,by omega,Jf _,?_,by omega,fun h=>by omega⟩;rw[yV];unfold zIJ
   grind
  |succ k ih=>
   intro hk;obtain⟨t,h1,h2,h3,h4,h5⟩:=ih (by omega);have gH:m-(k+1)<m:=by omega
   by_cases hz:ent M (m-(k+1)) c=0
   ·refine⟨t,by omega,h2,?_,fun q q1 q2=>?_,h5⟩
    ·rw[yV]
     have e:zIJ (M,(d:Int),(c:Int)) ((m-(k+1):Nat):Int)=iz (.inl ((m-k:Nat):Int)):=by
      unfold zIJ;simp only
      rw[hm,yM gH,zK,zX [] (by omega),bs,yH (by rw[ef _ gH];exact hc),bs,zJw hz,zK,zI (by omega) (by omega),bs,cs,show m-(k+1)+1=m-k from by omega]
     grind
    grind
   ·refine⟨m-(k+1),Jf _,by omega,?_,by omega,fun _=>hz⟩
    rw[yV];have e:zIJ (M,(d:Int),(c:Int)) ((m-(k+1):Nat):Int)=iz (.inr ((m-(k+1):Nat):Int)):=by
     unfold zIJ;simp only
     rw[hm,yM gH,zK,zX [] (by omega),bs,yH (by rw[ef _ gH];exact hc),bs,zHZ hz,zL]
    rw[e]
 obtain⟨t,h1,h2,h3,h4,h5⟩:=key (m-d) (Jf _);rw[show m-(m-d)=d from by omega]at h1 h3 h4
 grind
section
variable {p:Int} (hp:Prime p) {n m:Nat}{M:Mx}{d c t:Nat}
 include hp
theorem zNu{F:Nat→List Int}{q:Int}{b:Bool}(hd:d<m)(hr:Row p n (F d))(hn:n≤1000000)(hq:0≤q∧q≤p-1){v:List Int}(hv:v.length=n){s:Mx×Int×Int}(hs:s.2.1=(d:Int)):
  zG (zMx p s (q,b) v) (mkR m F,0)=iz (mkR m fun i=>if i=d then mkv n fun j=>(at0 (F d) j*q)%p else F i):=by
 have h7:=hp.pos;have:=zQ (body:=zMx p s (q,b) v) (r:=mkR m fun i=>if i=d then mkv n fun j=>(at0 (F d) j*q)%p else F i) (fun k=>(mkR m fun i=>if i=d then mkv n (fun j=>if j<k then(at0 (F d) j*q)%p else at0 (F d) j)else F i,(k:Int))) n (fun k hk=>by
  have a1:=hr.2 k hk;have a2:=zCy hp (k:=q) (by omega) a1;have a3:=Hl a1.1 hq.1;rw[Hx]at a2;unfold zMx;simp only
  rw[hv,yM hk,zK,hs,zKr hd];simp only[bs,if_true];rw[yH (by grind[yE]),zS hk,if_neg (by omega)];simp only[bs];rw[zI (by omega) (by omega)];simp only[bs,yP];rw[if_neg (by omega)];simp only[bs];rw[Kq a3,zI (by omega) (by omega)];simp only[bs,J6,cs];rw[zGM]
  congr 3
  refine kZ fun i _=>?_
  by_cases hi:i=d
  ·rw[if_pos hi,if_pos hi,kE]
   grind
  grind) (by
  unfold zMx;simp only
  rw[hv,qD,zL]
  congr 2
  refine kZ fun i _=>?_
  split
  ·exact yD (by omega)
  ·rfl)
 rw[show((0:Nat):Int)=0 from rfl]at this;rw[←this]
 congr 2
 refine kZ fun i _=>?_
 split
 ·rename_i e;subst e
  conv=>lhs;rw[wT hr.1]
  rfl
 ·rfl
theorem zNv{F:Nat→List Int}(hd:d<m)(hc:c<n)(hr:∀i,i<m→Row p n (F i))(hn:n≤1000000)(hm:m≤1000000){r21:Mx}(hl:r21.length=m){s:Mx×Int×Int}(hs:s.2.1=(d:Int))(pf:s.2.2=(c:Int)):
  zG (zOb p s r21) (mkR m F,0)=iz (mkR m fun i=>if i=d then F d else vA p n (F i) (0-at0 (F i) c) (F d)):=by
 have h7:=hp.pos;have:=zQ (body:=zOb p s r21) (r:=mkR m fun i=>if i=d then F d else vA p n (F i) (0-at0 (F i) c) (F d)) (fun k=>(mkR m fun i=>if i<k∧i≠d then vA p n (F i) (0-at0 (F i) c) (F d)else F i,(k:Int))) m (fun k hk=>by
  have a1:=(hr k hk).2 c hc;unfold zOb;simp only
  rw[hl,yM hk,zK,hs,pf]
  by_cases mz:k=d
  ·subst mz
   rw[zAO rfl,zL,zI (by omega) (by omega),bs,cs]
   grind
  ·rw[zA4 (by omega),zK,zKr hk,zKr hd]
   simp only[bs,ne_eq,not_true_eq_false,and_false,if_false,Jas,false_and];rw[yH (by rw[(hr k hk).1];exact hc)];simp only[bs];rw[zI (by omega) (by omega)];simp only[bs];rw[zBe hp (hr k hk) (hr d hd) (by omega) hn,bs,zI (by omega) (by omega)];simp only[bs,J6,cs];rw[zGM]
   grind) (by
  unfold zOb;simp only
  rw[hl,qD,zL]
  congr 2
  refine kZ fun i hi=>?_
  grind)
 grind
end
end Go.Pl

namespace Go.Pl
open Go Go.Ab Go.Wk Go.Pc
theorem Red.empty{p:Int}{n:Nat}:Red p n [] (fun _=>0):=⟨by simp,by simp,by simp,by simp,by simp,by simp⟩
theorem zQq.take{p:Int}{n m:Nat}{rows:Mx}{c:Nat}{M:Mx}{d:Nat}{pv:Nat→Nat}(h:zQq p n m rows c M d pv)(ao:c≤n)(hz:∀k,d≤k→k<m→ ∀j,j<n→ent M k j=0):Red p n (M.take d) pv∧jW p n (M.take d) rows:=by
 have hl:(M.take d).length=d:=by rw[Kn,h.len];exact H6 h.dm
 have hg:∀i,i<d→(M.take d).getD i []=M.getD i []:=by grind
 have dm:=h.dm;refine⟨⟨fun i hi=>?_,fun i hi=>?_,fun i hi=>?_,fun i hi j hj=>?_,fun i k hi hk gf=>?_,fun i j gV hj=>?_⟩,jW.trans ⟨fun i hi=>?_,fun i hi=>?_⟩ h.sp⟩
 ·rw[hl]at hi;rw[hg i hi];exact h.row i (by omega)
 ·rw[hl]at hi;have:=h.lt i hi;omega
 ·rw[hl]at hi;simp only[ent,hg i hi];exact h.one i hi
 ·rw[hl]at hi;simp only[ent,hg i hi];exact h.low i hi j hj
 ·rw[hl]at hi hk;simp only[ent,hg k hk];exact h.off i k hi (by omega) gf
 ·rw[hl]at hj;exact h.mono i j gV hj
 ·grind[qU]
 ·rw[h.len]at hi
  rcases Jg i d with g|g
  ·grind[qU]
  ·exact zBA fun j hj=>by simp_all
section
variable {p:Int} (hp:Prime p) {n:Nat}{rows:Mx} (hn:n≤100000) (hm:rows.length≤600000) (hr:∀i,i<rows.length→Row p n (rows.getD i []))
 include hp hn hm hr
theorem zLM:∃R pv,f_g p rows=iz R∧Red p n R pv∧jW p n R rows:=by
 have h7:=hp.pos;unfold f_g;rw[zIG (by omega) (fun i hi=>by have:=(hr i hi).1;omega),bs];have main:=uL (body:=zOc p) (s:=(rows,0,0)) (Q:=fun r=> ∃(M:Mx)(d:Nat)(pv:Nat→Nat),r=(M,(d:Int))∧d≤M.length∧Red p n (M.take d) pv∧jW p n (M.take d) rows)
  (fun i s=> ∃(M:Mx)(d:Nat)(pv:Nat→Nat),s=(M,(d:Int),(i:Int))∧zQq p n rows.length rows i M d pv∧i≤n) n (fun c s hc hI=>?_) (fun s hI=>?_) ⟨rows,0,fun _=>0,rfl,⟨rfl,hr,Kb _,fun _ h=>by omega,fun _ h=>by omega,fun _ h=>by omega,fun _ _ h=>by omega,fun _ _ _ h=>by omega,fun _ _ _ _ h=>by omega,jW.refl⟩,Kb _⟩
 ·obtain⟨r,h1,M,d,pv,rfl,hd,hR,hS⟩:=main
  rw[h1,bs];simp only
  have e:zO M 0 (d:Int)=iz (M.take d):=by unfold zO;rw[if_pos ⟨by omega,by omega,by omega⟩];simp
  rw[e,bs];exact⟨_,_,rfl,hR,hS⟩
 ·
  obtain⟨M,d,pv,rfl,h,ao⟩:=hI;have hl:=h.len;have bq:=h.dm
  by_cases h0:rows.length=0
  ·refine .inr ⟨(M,(d:Int)),?_,M,d,pv,rfl,by omega,h.take ao fun k hk ca=>by omega⟩
   unfold zOc;simp only
   rw[iD (by omega),zL]
  have e0:zOc p (M,(d:Int),(c:Int))=cond (decide ((d:Int)<(M.length:Int))) ((zG (zIJ (M,(d:Int),(c:Int))) (d:Int)).bind fun r6=>
    cond (r6==(M.length:Int)) ((rng ((c:Int)+1)).bind fun v7=>iz (.inl (M,(d:Int),v7))) (
     (ixO M r6).bind fun v8=>(ixO M (d:Int)).bind fun v9=>(ixO (kM M (d:Int) r6 v8 v9) (d:Int)).bind fun v10=>(ixO v10 (c:Int)).bind fun v11=>(zOa v11 p).bind fun r12=>
     (ixO (kM M (d:Int) r6 v8 v9) (d:Int)).bind fun v13=>(zG (zMx p (M,(d:Int),(c:Int)) r12 v13) (kM M (d:Int) r6 v8 v9,0)).bind fun r21=>
     (zG (zOb p (M,(d:Int),(c:Int)) r21) (r21,0)).bind fun r30=>(rng ((d:Int)+1)).bind fun v31=>(rng ((c:Int)+1)).bind fun v32=>iz (.inl (r30,v31,v32)))) (iz (.inr (M,(d:Int)))):=by
   unfold zOc;simp only
   have hx:ixO M (0:Int)=iz (M.getD 0 []):=by have:=zX (v:=M) (i:=0) [] (by omega);exact this
   rw[iE (by omega),zK,hx];simp only[bs];rw[(h.row 0 (by omega)).1,yM hc,zK]
  rcases Jg d rows.length with hd|hd
  ·obtain⟨t,t1,t2,t3,t4,t5⟩:=zQr (M:=M) (d:=d) (c:=c) (m:=rows.length) (n:=n) hl bq (by omega) (fun i hi=>(h.row i hi).1) hc
   rw[e0,hl,yM hd,zK,t3];simp only[bs]
   by_cases bL:t=rows.length
   ·
    left;refine⟨(M,(d:Int),((c+1:Nat):Int)),?_,M,d,pv,rfl,⟨hl,h.row,bq,fun i hi=>by have:=h.lt i hi;omega,h.one,h.low,h.off,h.mono,fun k k1 k2 j hj=>?_,h.sp⟩,by omega⟩
    ·rw[zJw (by omega),zK,zI (by omega) (by omega),bs,cs]
    ·rcases Jg j c with g|g
     ·exact h.zero k k1 k2 j g
     ·rw[show j=c from by omega];exact t4 k k1 (by omega)
   ·have fc:t<rows.length:=by omega
    have gf:=t5 fc;have eU:=h.row t fc;have hrc:=eU.2 c hc;obtain⟨q,q1,q2,q3,q4⟩:=zFf (p:=p) (x:=ent M t c) hp (by simp only[ent]at gf ⊢;omega) (by simp only[ent];omega);left;have hM:M=mkR rows.length (fun i=>M.getD i []):=zSt hl;obtain⟨F,hF⟩:∃F:Nat→List Int,∀i,F i=if i=t then M.getD d []else if i=d then M.getD t []else M.getD i []:=⟨_,fun _=>rfl⟩
    have cw:kM M (d:Int) (t:Int) (M.getD t []) (M.getD d [])=mkR rows.length F:=by
     unfold kM;rw[J6,J6]
     conv=>lhs;rw[hM]
     rw[zGM,zGM];exact kZ fun i hi=>by rw[hF,zAv hd,zAv fc]
    have pO:∀i,i<rows.length→Row p n (F i):=fun i hi=>by
     rw[hF];split
     ·exact h.row d hd
     ·split
      ·exact eU
      ·exact h.row i hi
    have hFd:F d=M.getD t []:=by
     rw[hF]
     by_cases e:d=t
     ·rw[if_pos e,e]
     ·rw[if_neg e,if_pos rfl]
    obtain⟨G,hG⟩:∃G:Nat→List Int,∀i,G i=if i=d then mkv n fun j=>(at0 (F d) j*q)%p else F i:=⟨_,fun _=>rfl⟩
    have hGd:G d=mkv n fun j=>(ent M t j*q)%p:=by rw[hG,if_pos rfl,hFd]
    have hGo:∀i,i≠d→G i=if i=t then M.getD d []else M.getD i []:=fun i eE=>by rw[hG,if_neg eE,hF];simp only[eE,if_false]
    have mZ:zG (zMx p (M,(d:Int),(c:Int)) (q,iB) (M.getD t [])) (mkR rows.length F,0)=iz (mkR rows.length G):=by
     rw[zNu hp (F:=F) hd (pO d hd) (by omega) ⟨q2,q3⟩ eU.1 rfl]
     congr 1
     exact kZ fun i _=>(hG i).symm
    have hF3:∀i,i<rows.length→Row p n (G i):=fun i hi=>by
     rw[hG];split
     ·refine⟨yE _ _,fun j hj=>?_⟩
      have e1:=Kz (at0 (F d) j*q) (show p≠0 by omega);have e2:=Kh (at0 (F d) j*q) (show 0<p by omega);rw[zS hj];omega
     ·exact pO i hi
    have gD:=zNv hp (c:=c) (F:=G) hd hc hF3 (by omega) (by omega) (r21:=mkR rows.length G) sF (s:=(M,(d:Int),(c:Int))) rfl rfl;rw[zHZ (by omega),zL,zX [] (by omega),zX [] (by omega)];simp only[bs];rw[cw,zKr hd,hFd];simp only[bs];rw[yH (by rw[eU.1];exact hc)];simp only[bs];rw[show at0 (M.getD t []) c=ent M t c from rfl,q1];simp only[bs];rw[mZ];simp only[bs];rw[gD];simp only[bs];rw[zI (by omega) (by omega),zI (by omega) (by omega)];simp only[bs,cs];have mE:=h.pivot hp hc hd t1 fc gf q4;refine⟨_,rfl,_,d+1,fun i=>if i=d then c else pv i,rfl,?_,by omega⟩;have e3:(mkR rows.length fun i=>if i=d then G d else vA p n (G i) (0-at0 (G i) c) (G d))=(mkR rows.length fun i=>if i=d then mkv n fun j=>(ent M t j*q)%p else vA p n (if i=t then M.getD d []else M.getD i []) (0-at0 (if i=t then M.getD d []else M.getD i []) c) (mkv n fun j=>(ent M t j*q)%p)):=by
     refine kZ fun i hi=>?_
     rw[hGd]
     by_cases eE:i=d
     ·rw[if_pos eE,if_pos eE]
     ·rw[if_neg eE,if_neg eE,hGo i eE]
    rw[e3];exact mE
  ·
   refine .inr ⟨(M,(d:Int)),?_,M,d,pv,rfl,by omega,h.take ao fun k hk ca=>by omega⟩;rw[e0,iD (by omega),zL]
 ·
  obtain⟨M,d,pv,rfl,h,ao⟩:=hI;have hl:=h.len;have bq:=h.dm;refine⟨(M,(d:Int)),?_,M,d,pv,rfl,by omega,h.take ao fun k hk ca j hj=>h.zero k hk ca j hj⟩;unfold zOc;simp only
  by_cases h0:rows.length=0
  ·rw[iD (by omega),zL]
  ·have hx:ixO M (0:Int)=iz (M.getD 0 []):=by
    have:=zX (v:=M) (i:=0) [] (by omega);exact this
   rw[iE (by omega),zK,hx];simp only[bs];rw[(h.row 0 (by omega)).1,qD,zL]
end
end Go.Pl

namespace Go.Pl
open Go Go.Ab Go.Wk Go.Pc
theorem zJx{v:List Int}{n:Nat}(hl:v.length=n)(hn:n≤1000000):∃k:Nat,k≤n∧f_K v=iz (k:Int)∧(∀j,j<k→at0 v j=0)∧(k<n→at0 v k≠0):=by
 unfold f_K;rcases chk (body:=zIK v) n 0 (Kb _) (fun i=>at0 v i=0) (fun i=>(i:Int)) (fun i _ hi _=>by
   unfold zIK;rw[hl,yM hi,zK,yH (by omega),bs]
   by_cases h:at0 v i=0
   ·rw[zAO h,zL,zI (by omega) (by omega),bs,cs];grind
   grind) (by
   unfold zIK
   grind)with⟨h1,h2⟩|⟨i,_,hi,h1,h2⟩
 ·grind
 ·rw[show((0:Nat):Int)=0 from rfl]at h1
  rw[h1,bs];obtain⟨k,⟨hk1,ca⟩,eR⟩:=zEa (p:=fun k=>k<n∧at0 v k≠0) ⟨i,hi,h2⟩;have hz:∀j,j<k→at0 v j=0:=by grind
  have hki:k=i:=by
   have cU:∀q,q≤k→zG (zIK v) ((k-q:Nat):Int)=iz (.inr (k:Int)):=by
    intro q
    induction q with
    |zero=>
     intro _;rw[yV];have e:zIK v ((k-0:Nat):Int)=iz (.inr (.inr (k:Int))):=by unfold zIK;rw[show k-0=k from rfl,hl,yM hk1,zK,yH (by omega),bs,zA4 ca,zK]
     rw[e]
    |succ q ih=>
     intro hq;rw[yV];have e:zIK v ((k-(q+1):Nat):Int)=iz (.inl ((k-q:Nat):Int)):=by unfold zIK;rw[hl,yM (by omega),zK,yH (by omega),bs,zAO (hz _ (by omega)),zL,zI (by omega) (by omega),bs,cs,show k-(q+1)+1=k-q from by omega]
     grind
   have:=cU k (Jf _)
   grind
  grind
theorem zGN{v:List Int}{n k:Nat}(hl:v.length=n)(hn:n≤1000000)(hk:k<n)(h0:∀j,j<k→at0 v j=0)(h1:at0 v k≠0):f_K v=iz (k:Int):=by grind[zJx]
theorem zSx{p x:Int}(hp:Prime p)(h0:1≤x)(h1:x≤p-1):∃r,zWz x p=iz r∧0≤r∧r≤p-1∧(x*r)%p=1:=by
 have h7:=hp.pos;have hx:∃k:Nat,1≤k∧(k:Int)<p∧(x*(k:Int))%p=1:=by
  obtain⟨r,_,r1,r2,r3⟩:=zFf hp h0 h1;refine⟨r.toNat,?_,by omega,by grind⟩;rcases Int.lt_or_eq_of_le r1 with g|g
  ·omega
  ·rw[←g]at r3;simp at r3
 obtain⟨k,⟨k1,k2,k3⟩,eR⟩:=zEa hx;have body:∀i:Nat,1≤i→(i:Int)<p→zMz x p (i:Int)=cond ((x*(i:Int))%p==1) (iz (.inr (.inr (i:Int)))) (iz (.inl ((i+1:Nat):Int))):=fun i hi hip=>by
  have a3:=Hl (show 0≤x by omega) (show 0≤(i:Int)by omega);have a4:=zCy hp (k:=(i:Int)) (by omega) (b:=x) ⟨by omega,h1⟩;rw[Hx]at a4;unfold zMz;rw[iE hip,zK,zLK hp (by omega) (by omega),bs,Jz (by omega) (by omega),zI (by omega) (by omega),bs];unfold yP;rw[if_neg (by omega),bs,Kq a3]
  by_cases hh:(x*(i:Int))%p=1
  ·grind
  ·rw[zHZ hh,zL,zL,zI (by omega) (by omega),bs,cs]
 have cU:∀q,q+1≤k→zG (zMz x p) ((k-q:Nat):Int)=iz (.inr (k:Int)):=by
  intro q
  induction q with
  |zero=>
   intro _;rw[yV,show k-0=k from rfl,body k k1 k2,zJw k3,zK]
  |succ q ih=>
   intro hq;have gf:(x*((k-(q+1):Nat):Int))%p≠1:=by grind
   rw[yV,body _ (by omega) (by omega),zHZ gf,zL,show k-(q+1)+1=k-q from by omega]
   grind
 have:=cU (k-1) (by omega);rw[show k-(k-1)=1 from by omega,show((1:Nat):Int)=1 from rfl]at this
 grind[zWz]
section
variable {p:Int} (hp:Prime p) {n:Nat} (hn:n≤100000)
 include hp hn
theorem zZw{r s:List Int}(hr:Row p n r):vA p n r p s=r:=by
 have _:=hp;have _:=hn
 conv=>rhs;rw[wT hr.1]
 refine yD fun j hj=>?_
 have:=hr.2 j hj;rw[Hm];exact Jz this.1 (by omega)
def cl(p:Int)(n:Nat)(out:Mx)(pv:Nat→Nat)(v:List Int):Nat→List Int
 |0=>v
 |i+1=>vA p n (cl p n out pv v i) (p-at0 (cl p n out pv v i) (pv i)) (out.getD i [])
variable {out:Mx}{pv:Nat→Nat} (h:Red p n out pv) {v:List Int} (hv:Row p n v)
 include h hv
theorem zBL:∀i,Row p n (cl p n out pv v i):=by
 have _:=hn;have _:=h;intro i;cases i with
 |zero=>exact hv
 |succ i=>exact kF hp
theorem zNw:∀i,i≤out.length→ ∀k,k<i→at0 (cl p n out pv v i) (pv k)=0:=by
 have _:=hn;have _:=hv;have h7:=hp.pos;intro i
 induction i with
 |zero=>simp
 |succ i ih=>
  intro hi k hk;have gH:=h.lt k (by omega);rw[cl,vA,zS gH];rcases Jg k i with g|g
  ·have h1:=ih (by omega) k g
   have h2:=h.off k i (by omega) (by omega) (by omega)
   simp_all
  ·have hki:k=i:=by omega
   subst hki;have h2:=h.one k (by omega);simp only[ent]at h2;rw[h2,Lq,show at0 (cl p n out pv v k) (pv k)+(p-at0 (cl p n out pv v k) (pv k))=p from by omega,Int.emod_self]
theorem zGO:∀i,i≤out.length→ ∃cf:Nat→Int,∀j,j<n→at0 (cl p n out pv v i) j%p=(at0 v j+S out.length fun k=>cf k*ent out k j)%p:=by
 have _:=hp;have _:=h;have _:=hv;have _:=hn;intro i
 induction i with
 |zero=>intro _;exact⟨fun _=>0,fun j _=>by rw[wK (g:=fun _=>0) (fun i _=>by simp),kD,Lw];rfl⟩
 |succ i ih=>
  intro hi;obtain⟨cf,eO⟩:=ih (by omega);refine⟨fun k=>cf k+(if k=i then p-at0 (cl p n out pv v i) (pv i)else 0),fun j hj=>?_⟩;have e1:(S out.length fun k=>(cf k+(if k=i then p-at0 (cl p n out pv v i) (pv i)else 0))*ent out k j)=(S out.length fun k=>cf k*ent out k j)+(p-at0 (cl p n out pv v i) (pv i))*ent out i j:=by rw[wK (g:=fun k=>cf k*ent out k j+(if k=i then p-at0 (cl p n out pv v i) (pv i)else 0)*ent out k j) (by grind),zFa,zB8 (f:=fun k=>(if k=i then p-at0 (cl p n out pv v i) (pv i)else 0)*ent out k j) (k:=i) (by omega) (by grind)];simp
  rw[e1,cl,vA,zS hj,Jr,←Int.add_assoc,Jx,eO j hj,←Jx]
theorem zC1(hm:out.length≤100000):zOd p out v=iz (cl p n out pv v out.length):=by
 have h7:=hp.pos;unfold zOd;rw[wQ (by rw[hv.1];omega),bs];have:=zQ (body:=zMy p out) (r:=cl p n out pv v out.length) (fun i=>(cl p n out pv v i,(i:Int))) out.length (fun i hi=>by
  have hr:=zBL hp hn h hv i;have ho:=h.row i hi;have gH:=h.lt i hi;have gn:=h.one i hi;have fh:=h.low i hi;simp only[ent]at gn fh;have he:=hr.2 (pv i) gH;unfold zMy;simp only
  rw[yM hi,zK,zX [] hi,bs,zGN ho.1 (by omega) gH fh (by omega),bs,hr.1,yM gH,zK,yH (by rw[hr.1];exact gH),bs]
  by_cases hz:at0 (cl p n out pv v i) (pv i)=0
  ·rw[zAO hz,zL,zI (by omega) (by omega),bs,cs,cl,hz,Int.sub_zero,zZw hp hn hr]
  ·rw[zA4 hz,zK,bs,zI (by omega) (by omega),bs,bs,tN hp hr ho (by omega) (by omega),bs,zI (by omega) (by omega),bs,cs]
   rfl) (by
  unfold zMy;simp)
 rw[show((0:Nat):Int)=0 from rfl]at this
 grind[cl]
end
end Go.Pl

namespace Go.Pl
open Go Go.Ab Go.Wk Go.Pc
section
variable {p:Int} (hp:Prime p) {n:Nat}{out:Mx}{pv:Nat→Nat} (h:Red p n out pv) {u:List Int}{k q:Nat} (hu:Row p n u) (hk:k<n) (u1:at0 u k=1) (ul:∀j,j<k→at0 u j=0) (up:∀i,i<out.length→at0 u (pv i)=0) (hq:q≤out.length) (q1:∀i,i<q→pv i<k) (q2:∀i,q≤i→i<out.length→k<pv i)
def oth(p:Int)(n:Nat)(out:Mx)(u:List Int)(k i:Nat):List Int:=vA p n (out.getD i []) (p-at0 (out.getD i []) k) u
def sJ(p:Int)(n:Nat)(out:Mx)(u:List Int)(k q i:Nat):List Int:=if i<q then oth p n out u k i else if i=q then u else oth p n out u k (i-1)
def zVI(pv:Nat→Nat)(k q i:Nat):Nat:=if i<q then pv i else if i=q then k else pv (i-1)
 include hp h hu hk u1 ul up hq q1 q2
theorem zNx{i j:Nat}(hj:j<n):at0 (oth p n out u k i) j=(at0 (out.getD i []) j-at0 (out.getD i []) k*at0 u j)%p:=by have _:=hp;have _:=h;have _:=hu;have _:=hk;have _:=u1;have _:=ul;have _:=up;have _:=hq;have _:=q1;have _:=q2;rw[oth,vA,zS hj,show at0 (out.getD i []) j+(p-at0 (out.getD i []) k)*at0 u j=at0 (out.getD i []) j-at0 (out.getD i []) k*at0 u j+p*at0 u j from by grind,Hm]
theorem zFg{i j:Nat}(hi:i<out.length)(hj:j<n)(hz:at0 (out.getD i []) k=0∨at0 u j=0):at0 (oth p n out u k i) j=ent out i j:=by
 rw[zNx hp h hu hk u1 ul up hq q1 q2 hj];have:=(h.row i hi).2 j hj;have e:at0 (out.getD i []) k*at0 u j=0:=by grind
 rw[e,Int.sub_zero];exact Jz this.1 (by omega)
theorem yBM{i:Nat}:at0 (oth p n out u k i) k=0:=by rw[zNx hp h hu hk u1 ul up hq q1 q2 hk,u1,Lq,Int.sub_self];rfl
theorem zVJ{i j:Nat}(hi:i<out.length)(hj:j<pv i)(gf:pv i≠k):at0 (oth p n out u k i) j=0:=by
 have gH:=h.lt i hi;rcases Jg (pv i) k with g|g
 ·rw[zFg hp h hu hk u1 ul up hq q1 q2 hi (by omega) (by grind)];exact h.low i hi j hj
 ·have:=h.low i hi k (by omega)
  rw[zFg hp h hu hk u1 ul up hq q1 q2 hi (by omega) (.inl this)];exact h.low i hi j hj
theorem yBN{i:Nat}(hi:i<out.length):pv i≠k:=by have _:=hp;have _:=h;have _:=hu;have _:=hk;have _:=ul;have _:=hq;have _:=q1;have _:=q2;grind
theorem zJy{i:Nat}(hi:i<out.length+1):(i=q∧sJ p n out u k q i=u∧zVI pv k q i=k)∨ ∃a,a<out.length∧(i<q∧a=i∨q<i∧i=a+1)∧sJ p n out u k q i=oth p n out u k a∧zVI pv k q i=pv a:=by
 have _:=hp;have _:=h;have _:=hu;have _:=hk;have _:=u1;have _:=ul;have _:=up;have _:=q1;have _:=q2;unfold sJ zVI
 grind
theorem zNy:Red p n (mkR (out.length+1) (sJ p n out u k q)) (zVI pv k q):=by
 have nc:=fun i hi=>zJy hp h hu hk u1 ul up hq q1 q2 (i:=i) hi
 have pn:=fun i hi=>yBN hp h hu hk u1 ul up hq q1 q2 (i:=i) hi
 refine⟨fun i hi=>?_,fun i hi=>?_,fun i hi=>?_,fun i hi j hj=>?_,fun i j hi hj gf=>?_,fun i j gV hj=>?_⟩<;>rw[sF]at*
 ·rw[zAv hi]
  rcases nc i hi with⟨_,e,_⟩|⟨a,_,_,e,_⟩<;>rw[e]
  ·exact hu
  ·exact kF hp
 ·rcases nc i hi with⟨_,_,e⟩|⟨a,ha,_,_,e⟩<;>rw[e]
  ·exact hk
  ·exact h.lt a ha
 ·rw[zFe hi]
  rcases nc i hi with⟨_,e1,e2⟩|⟨a,ha,_,e1,e2⟩<;>rw[e1,e2]
  ·exact u1
  ·rw[zFg hp h hu hk u1 ul up hq q1 q2 ha (h.lt a ha) (.inr (up a ha))];exact h.one a ha
 ·rw[zFe hi]
  rcases nc i hi with⟨_,e1,e2⟩|⟨a,ha,_,e1,e2⟩<;>rw[e2]at hj<;>rw[e1]
  ·grind
  ·exact zVJ hp h hu hk u1 ul up hq q1 q2 ha hj (pn a ha)
 ·rw[zFe hj]
  rcases nc i hi with⟨g1,_,e2⟩|⟨a,ha,ga,_,e2⟩<;>rw[e2]<;>rcases nc j hj with⟨g3,e3,_⟩|⟨b,hb,gb,e3,_⟩<;>rw[e3]
  ·omega
  ·exact yBM hp h hu hk u1 ul up hq q1 q2
  ·grind
  ·rw[zFg hp h hu hk u1 ul up hq q1 q2 hb (h.lt a ha) (.inr (up a ha))]
   exact h.off a b ha hb (by omega)
 ·rcases nc i (by omega)with⟨g1,_,e2⟩|⟨a,ha,ga,_,e2⟩<;>rw[e2]<;>rcases nc j hj with⟨g3,_,e4⟩|⟨b,hb,gb,_,e4⟩<;>rw[e4]
  ·omega
  ·grind
  ·grind
  ·exact h.mono a b (by omega) hb
theorem zQs:(∀i,i<out.length+1→Sp p n (out++[u]) (sJ p n out u k q i))∧(∀i,i<out.length→Sp p n (mkR (out.length+1) (sJ p n out u k q)) (out.getD i []))∧Sp p n (mkR (out.length+1) (sJ p n out u k q)) u:=by
 have eI:Sp p n (out++[u]) u:=by
  have:=qU (p:=p) (n:=n) (R:=out++[u]) (i:=out.length) (by simp)
  grind
 have hol:∀i,i<out.length→Sp p n (out++[u]) (out.getD i []):=fun i hi=>by
  have:=qU (p:=p) (n:=n) (R:=out++[u]) (i:=i) (by simp;omega)
  grind
 have hoth:∀i,i<out.length→Sp p n (out++[u]) (oth p n out u k i):=fun i hi=>
  qV (k:=p-at0 (out.getD i []) k) (hol i hi) eI (by grind[oth,vA,zS,Jr])
 have bO:Sp p n (mkR (out.length+1) (sJ p n out u k q)) u:=by have:=zC0 (p:=p) (n:=n) (m:=out.length+1) (F:=sJ p n out u k q) (i:=q) (by omega);rw[show sJ p n out u k q q=u from by unfold sJ;simp]at this;exact this
 refine⟨fun i hi=>?_,fun i hi=>?_,bO⟩
 ·rcases zJy hp h hu hk u1 ul up hq q1 q2 hi with⟨_,e,_⟩|⟨a,ha,_,e,_⟩<;>rw[e]
  all_goals grind
 ·have fR:∃b,b<out.length+1∧sJ p n out u k q b=oth p n out u k i:=by
   rcases Jg i q with g|g
   ·exact⟨i,by omega,by unfold sJ;grind⟩
   ·exact⟨i+1,by omega,by unfold sJ;grind⟩
  obtain⟨b,hb,e⟩:=fR;have h1:=zC0 (p:=p) (n:=n) (m:=out.length+1) (F:=sJ p n out u k q) hb;rw[e]at h1;refine qV (k:=at0 (out.getD i []) k) h1 bO fun j hj=>?_
  rw[zNx hp h hu hk u1 ul up hq q1 q2 hj,Jx,Jr,←Jx,show at0 (out.getD i []) j-at0 (out.getD i []) k*at0 u j+at0 (out.getD i []) k*at0 u j=at0 (out.getD i []) j from by omega]
theorem zLN(hn:n≤100000)(hm:out.length≤100000){x:Int}:
  ((zG (zIL p (out,x) (k:Int) u) ([],iC,0)).bind fun r32=>cond (!r32.2) ((yG r32.1 [u]).bind fun v33=>iz v33) (iz r32.1))=iz (mkR (out.length+1) (sJ p n out u k q)):=by
 have _:=u1;have _:=ul;have _:=up;have h7:=hp.pos;have ho:∀i,i<out.length→f_D p (out.getD i []) (p-at0 (out.getD i []) k) u=iz (oth p n out u k i)∧ixO (out.getD i []) (k:Int)=iz (at0 (out.getD i []) k)∧0≤at0 (out.getD i []) k∧at0 (out.getD i []) k≤p-1∧f_K (out.getD i [])=iz (pv i:Int):=fun i hi=>by have hr:=h.row i hi;have ca:=hr.2 k hk;have gn:=h.one i hi;have fh:=h.low i hi;simp only[ent]at gn fh;exact⟨by rw[tN hp hr hu (by omega) (by omega)];rfl,yH (by rw[hr.1];exact hk),ca.1,ca.2,zGN hr.1 (by omega) (h.lt i hi) fh (by omega)⟩
 have hsn:∀{m:Nat}{F:Nat→List Int},mkR m F++[F m]=mkR (m+1) F:=by grind[mkR,Kv]
 have:=zQ (body:=zIL p (out,x) (k:Int) u) (r:=(if out.length≤q then(mkR out.length (sJ p n out u k q),iC)else(mkR (out.length+1) (sJ p n out u k q),iB)))
  (fun j=>if j≤q then(mkR j (sJ p n out u k q),iC,(j:Int))else(mkR (j+1) (sJ p n out u k q),iB,(j:Int))) out.length (fun j hj=>by
   obtain⟨a1,a2,a3,a4,a5⟩:=ho j hj;have dq:rng (p-at0 (out.getD j []) k)=iz (p-at0 (out.getD j []) k):=by grind[zI]
   rcases Ql j q with g|g|g
   ·have hpj:=q1 j g
    rw[if_pos (by omega),if_pos (by omega)];unfold zIL;simp only
    rw[yM hj,zK,Kc,zK,zX [] hj];simp only[bs,a5];rw[iD (by omega),zL,a2];simp only[bs,dq,a1];rw[zY (by rw[sF];simp;omega),bs,zI (by omega) (by omega),bs,cs];have:sJ p n out u k q j=oth p n out u k j:=by unfold sJ;grind
    grind
   ·subst g
    have hpj:=q2 j (Jf _) hj;rw[if_pos (by omega),if_neg (by omega)];unfold zIL;simp only
    rw[yM hj,zK,Kc,zK,zX [] hj];simp only[bs,a5];rw[iE (by omega),zK,zY (by rw[sF];simp;omega),a2];simp only[bs,dq,a1];have e1:sJ p n out u k j j=u:=by unfold sJ;simp
    have e2:sJ p n out u k j (j+1)=oth p n out u k j:=by unfold sJ;grind
    have e3:mkR j (sJ p n out u k j)++[u]=mkR (j+1) (sJ p n out u k j):=by grind
    rw[e3,zY (by rw[sF];simp;omega),bs,zI (by omega) (by omega),bs,cs,←e2,hsn]
   ·rw[if_neg (by omega),if_neg (by omega)]
    unfold zIL;simp only
    rw[yM hj,zK,J7,zL,zX [] hj];simp only[bs,a2,dq,a1];have e2:sJ p n out u k q (j+1)=oth p n out u k j:=by unfold sJ;rw[if_neg (by omega),if_neg (by omega)];rfl
    rw[zY (by rw[sF];simp;omega),bs,zI (by omega) (by omega),bs,cs,←e2,hsn]) (by
   by_cases g:out.length≤q
   ·rw[if_pos g,if_pos g]
    unfold zIL;simp
   ·rw[if_neg g,if_neg g]
    unfold zIL;simp)
 rw[if_pos (Kb _),show((0:Nat):Int)=0 from rfl,show mkR 0 (sJ p n out u k q)=[]from rfl]at this;rw[this,bs]
 by_cases g:out.length≤q
 ·have e1:sJ p n out u k q out.length=u:=by unfold sJ;grind
  rw[if_pos g];simp only
  rw[Kc,zK,zY (by rw[sF];simp;omega),bs]
  grind
 grind
end
end Go.Pl

namespace Go.Pl
open Go Go.Ab Go.Wk Go.Pc
theorem zNz{p:Int}{n:Nat}{R out:Mx}{cf:Nat→Int}(ho:∀i,i<out.length→Sp p n R (out.getD i [])){u:List Int}(hu:∀j,j<n→at0 u j%p=(S out.length fun k=>cf k*ent out k j)%p):Sp p n R u:=
 zA8 ho ⟨cf,by grind⟩
theorem Red.len_le{p:Int}{n:Nat}{R:Mx}{pv:Nat→Nat}(h:Red p n R pv):R.length≤n:=by
 have key:∀i,i<R.length→i≤pv i:=by
  intro i
  induction i with
  |zero=>simp
  |succ i ih=>
   intro hi;have h1:=ih (by omega);have h2:=h.mono i (i+1) (by omega) hi;omega
 rcases Nat.eq_zero_or_pos R.length with g|g
 ·omega
 ·have h1:=key (R.length-1) (by omega)
  have h2:=h.lt (R.length-1) (by omega);omega
theorem zDI{xs:Mx}{v:List Int}{i:Nat}(h:i<xs.length):(xs++[v]).getD i []=xs.getD i []:=by grind
theorem zDJ{xs:Mx}{v:List Int}:(xs++[v]).getD xs.length []=v:=by simp
section
variable {p:Int} (hp:Prime p) {n:Nat} (hn:n≤100000)
 include hp hn
theorem zEz{w:List Int}(hw:Row p n w){r:Int}(h0:0≤r)(h1:r≤p-1):zQJ p r w=iz (mkv n fun j=>(at0 w j*r)%p):=by
 have h7:=hp.pos;unfold zQJ;rw[hw.1,yX (by omega),bs,tN hp (zBK (by omega)) hw (by omega) (by omega),bs]
 congr 1
 refine yD fun j hj=>?_
 grind
variable {rows:Mx} (hm:rows.length≤600000) (hr:∀i,i<rows.length→Row p n (rows.getD i []))
 include hm hr
theorem zFh:∃R pv,f_v p rows=iz R∧(Red p n R pv∧R.length≤rows.length)∧jW p n R rows:=by
 have h7:=hp.pos;unfold f_v;have main:=uL (body:=zQK p rows) (s:=([],0)) (Q:=fun R=> ∃pv,(Red p n R pv∧R.length≤rows.length)∧jW p n R rows)
  (fun i s=> ∃(out:Mx)(pv:Nat→Nat),s=(out,(i:Int))∧Red p n out pv∧jW p n out (rows.take i)∧out.length≤i∧i≤rows.length) rows.length (fun i s hi hI=>?_) (fun s hI=>?_) ⟨[],fun _=>0,rfl,Red.empty,by rw[Ko];exact jW.refl,Kb _,Kb _⟩
 ·obtain⟨R,h1,pv,h2,h3⟩:=main
  rw[h1,bs];exact⟨R,pv,rfl,h2,h3⟩
 ·obtain⟨out,pv,rfl,h,hs,hl,_⟩:=hI
  have hon:out.length≤n:=h.len_le;left;have hv:=hr i hi;have hw:=zBL hp hn h hv out.length;have gD:=zC1 hp hn h hv (by omega);have dI:=zNw hp hn h hv out.length (Jf _);obtain⟨cf,eO⟩:=zGO hp hn h hv out.length (Jf _);obtain⟨k,k1,k2,k3,k4⟩:=zJx hw.1 (by omega);have eB:rows.take (i+1)=rows.take i++[rows.getD i []]:=by rw[Js hi,J2,J5 hi];rfl
  have mY:(rows.take i).length=i:=by rw[Kn];omega
  have fb:∀u,Sp p n (rows.take i) u→Sp p n (rows.take (i+1)) u:=fun u hu=>zA8 (fun a ha=>by have:=qU (p:=p) (n:=n) (R:=rows.take (i+1)) (i:=a) (by rw[eB,Ja];omega);rw[eB,zDI ha,←eB]at this;exact this) hu
  have pe:Sp p n (rows.take (i+1)) (rows.getD i []):=by
   have:=qU (p:=p) (n:=n) (R:=rows.take (i+1)) (i:=i) (by rw[eB,Ja,mY];simp);rw[eB]at this;have e:(rows.take i++[rows.getD i []]).getD i []=rows.getD i []:=by have:=zDJ (xs:=rows.take i) (v:=rows.getD i []);rw[mY]at this;exact this
   rw[e,←eB]at this;exact this
  by_cases uf:k=n
  ·
   refine⟨(out,((i+1:Nat):Int)),?_,out,pv,rfl,h,⟨fun a ha=>fb _ (hs.1 a ha),fun a ha=>?_⟩,by omega,by omega⟩
   ·unfold zQK
    simp only
    rw[yM hi,zK,zX [] hi];simp only[bs,gD,k2];rw[hw.1,zJw (by omega),zK,zI (by omega) (by omega),bs,cs]
   ·rw[eB,Ja,mY,H7]at ha
    rw[eB];rcases Jg a i with g|g
    ·rw[zDI (by omega)];exact hs.2 a (by omega)
    ·have:a=i:=by omega
     subst this;have e:(rows.take a++[rows.getD a []]).getD a []=rows.getD a []:=by have:=zDJ (xs:=rows.take a) (v:=rows.getD a []);rw[mY]at this;exact this
     rw[e];refine zNz (out:=out) (cf:=fun q=> -1*cf q) (fun a ha=>qU ha) fun j hj=>?_
     have h1:=eO j hj;rw[k3 j (by omega)]at h1;rw[wK (g:=fun q=> -1*(cf q*ent out q j)) (fun q _=>by rw[Lo]),zBo];have h2:(at0 (rows.getD a []) j+S out.length fun q=>cf q*ent out q j)%p=0:=by rw[←h1];rfl
     rw[show at0 (rows.getD a []) j=(at0 (rows.getD a []) j+S out.length fun q=>cf q*ent out q j)+ -1*(S out.length fun q=>cf q*ent out q j)from by omega,Jx,h2,Kw,Jr]
  ·have hk:k<n:=by omega
   have hwk:=hw.2 k hk;have gf:=k4 hk;obtain⟨r,r1,r2,r3,r4⟩:=zSx hp (x:=at0 (cl p n out pv (rows.getD i []) out.length) k) (by omega) (by omega);have mZ:=zEz hp hn hw r2 r3;have hu:Row p n (mkv n fun j=>(at0 (cl p n out pv (rows.getD i []) out.length) j*r)%p):=⟨yE _ _,fun j hj=>by have e1:=Kz (at0 (cl p n out pv (rows.getD i []) out.length) j*r) (show p≠0 by omega);have e2:=Kh (at0 (cl p n out pv (rows.getD i []) out.length) j*r) (show 0<p by omega);rw[zS hj];omega⟩
   have ua:∀j,j<n→at0 (mkv n fun j=>(at0 (cl p n out pv (rows.getD i []) out.length) j*r)%p) j=(at0 (cl p n out pv (rows.getD i []) out.length) j*r)%p:=fun j hj=>zS hj
   generalize mkv n (fun j=>(at0 (cl p n out pv (rows.getD i []) out.length) j*r)%p)=u at mZ hu ua
   have u1:at0 u k=1:=by rw[ua k hk];exact r4
   have ul:∀j,j<k→at0 u j=0:=fun j hj=>by rw[ua j (by omega),k3 j hj];simp
   have up:∀a,a<out.length→at0 u (pv a)=0:=fun a ha=>by rw[ua _ (h.lt a ha),dI a ha];simp
   obtain⟨q,⟨hq,dH⟩,eR⟩:=zEa (p:=fun q=>q≤out.length∧(q<out.length→k<pv q)) ⟨out.length,Jf _,fun g=>by omega⟩;have q1:∀a,a<q→pv a<k:=fun a ha=>by
    have h1:¬(k<pv a):=fun g=>eR a ha ⟨by omega,fun _=>g⟩
    have h2:pv a≠k:=fun e=>by have:=up a (by omega);rw[e,u1]at this;cases this
    omega
   have q2:∀a,q≤a→a<out.length→k<pv a:=fun a ha ha2=>by
    have h1:=dH (by omega);rcases Jg q a with g|g
    ·have:=h.mono q a g ha2;omega
    ·rw[show a=q from by omega];exact h1
   have eS:=zLN hp h hu hk u1 ul up hq q1 q2 hn (by omega) (x:=(i:Int));have du:=zNy hp h hu hk u1 ul up hq q1 q2;obtain⟨s1,s2,s3⟩:=zQs hp h hu hk u1 ul up hq q1 q2;refine⟨(mkR (out.length+1) (sJ p n out u k q),((i+1:Nat):Int)),?_,_,_,rfl,du,⟨fun a ha=>?_,fun a ha=>?_⟩,by rw[sF];omega,by omega⟩
   ·unfold zQK
    simp only
    rw[yM hi,zK,zX [] hi];simp only[bs,gD,k2];rw[hw.1,zHZ (by omega),zL,yH (by rw[hw.1];exact hk)];simp only[bs,r1,mZ];cases gW:zG (zIL p (out,(i:Int)) (k:Int) u) ([],iC,0)with
    |none=>rw[gW]at eS;cases eS
    |some r32=>
     rw[gW,bs]at eS;simp only[bs];obtain⟨a1,a2⟩:=r32;cases a2 with
     |true=>
      simp only[J7,zL]at eS ⊢
      rw[zI (by omega) (by omega),bs,cs,Km.inj eS]
     |false=>
      simp only[Kc,zK]at eS ⊢
      cases hap:yG a1 [u]with
      |none=>rw[hap]at eS;cases eS
      |some v33=>
       rw[hap,bs]at eS;simp only[bs];rw[zI (by omega) (by omega),bs,cs,Km.inj eS]
   ·rw[sF]at ha
    rw[zAv ha];refine zA8 (fun b hb=>?_) (s1 a ha);rw[Ja,H7]at hb;rcases Jg b out.length with g|g
    ·rw[zDI g];exact fb _ (hs.1 b g)
    ·rw[show b=out.length from by omega,zDJ]
     have aY:Sp p n (rows.take (i+1)) (cl p n out pv (rows.getD i []) out.length):=by
      have pC:Sp p n (rows.take (i+1)) (mkv n fun j=>S out.length fun k=>cf k*ent out k j):=zNz (out:=out) (cf:=cf) (fun b hb=>fb _ (hs.1 b hb)) fun j hj=>by rw[zS hj]
      refine qV (k:=1) pe pC fun j hj=>?_
      rw[eO j hj,zS hj,Hc]
     refine qV (k:=r) (zBA (u:=[]) fun j _=>by simp[at0]) aY fun j hj=>?_
     rw[ua j hj,Jr,show at0 ([]:List Int) j=0 from by simp[at0],Kw,Hx]
   ·rw[eB,Ja,mY,H7]at ha
    rw[eB];rcases Jg a i with g|g
    ·rw[zDI (by omega)]
     exact zA8 s2 (hs.2 a (by omega))
    ·have hai:a=i:=by omega
     subst hai;have e:(rows.take a++[rows.getD a []]).getD a []=rows.getD a []:=by have:=zDJ (xs:=rows.take a) (v:=rows.getD a []);rw[mY]at this;exact this
     rw[e];have aY:Sp p n (mkR (out.length+1) (sJ p n out u k q)) (cl p n out pv (rows.getD a []) out.length):=by
      refine qV (k:=at0 (cl p n out pv (rows.getD a []) out.length) k) (zBA (u:=[]) fun j _=>by simp[at0]) s3 fun j hj=>?_
      rw[ua j hj,show at0 ([]:List Int) j=0 from by simp[at0],Kw];rw[Jk,Jr,←Jk,←Lo,Hx (at0 (cl p n out pv (rows.getD a []) out.length) k),Lo,Jk,r4,Lq,Jr]
     have pC:Sp p n (mkR (out.length+1) (sJ p n out u k q)) (mkv n fun j=>S out.length fun k=>cf k*ent out k j):=zNz (out:=out) (cf:=cf) s2 fun j hj=>by rw[zS hj]
     refine qV (k:=-1) aY pC fun j hj=>?_
     rw[zS hj,Jx,eO j hj,←Jx]
     congr 1;omega
 ·obtain⟨out,pv,rfl,h,hs,hl,_⟩:=hI
  refine⟨out,?_,pv,⟨h,hl⟩,by rw[List.take_length]at hs;exact hs⟩;unfold zQK;simp only
  rw[qD,zL]
theorem zLO:∃R pv,f_v p rows=iz R∧Red p n R pv∧jW p n R rows:=by grind[zFh]
theorem zIa{R:Mx}{pv:Nat→Nat}(h:Red p n R pv)(hs:jW p n R rows):R.length≤rows.length:=by have h7:=hp.pos;obtain⟨R',pv',_,h2,h3⟩:=zFh hp hn hm hr;rw[h.unique (by omega) h2.1 (hs.trans h3.symm)];exact h2.2
theorem zA9:∃R pv,f_v p rows=iz R∧f_g p rows=iz R∧Red p n R pv∧jW p n R rows:=by
 have h7:=hp.pos;obtain⟨R,pv,h1,h2,h3⟩:=zLO hp hn hm hr;obtain⟨R',pv',g1,g2,g3⟩:=zLM hp hn hm hr;have e:=h2.unique (by omega) g2 (h3.trans g3.symm)
 grind
end
end Go.Pl

namespace Go.Pl
open Go Go.Ab Go.Wk Go.Pc
theorem tE{β:Type}{body:List β×Int→Option ((List β×Int)⊕List β)}(n:Nat)(F:Nat→β)(h:∀i acc,i<n→acc.length=i→body (acc,(i:Int))=iz (.inl (acc++[F i],((i+1:Nat):Int))))(he:∀acc,body (acc,(n:Int))=iz (.inr acc)):
  zG body ([],0)=iz ((Ji n).map F):=by
 have:=zQ (body:=body) (r:=(Ji n).map F) (fun i=>((Ji i).map F,(i:Int))) n (by grind[Kv]) (he _);exact this
theorem zJz{xs:Mx}(hx:xs.length≤100000)(hf:xs.flatten.length≤1000000):zQV xs=iz xs.flatten:=by
 unfold zQV;have:=zQ (body:=zMB xs) (r:=xs.flatten) (fun i=>((xs.take i).flatten,(i:Int))) xs.length (fun i hi=>by
  have h1:=zFT hi;have h2:=zKq (xs:=xs) (i+1);have h3:=congrArg Ja2 h1;rw[Ja]at h3;unfold zMB;simp only
  rw[yM hi,zK,zX [] hi,bs,zY (by omega),bs,zI (by omega) (by omega),bs,cs,h1]) (by
  unfold zMB;simp)
 grind
theorem zKs{p:Int}{L:Nat}{v:List Int}:Row p L v↔v.length=L∧ ∀a∈v,0≤a∧a≤p-1:=by
 constructor
 ·rintro⟨h1,h2⟩
  refine⟨h1,fun a ha=>?_⟩;obtain⟨i,hi,rfl⟩:=Jt.1 ha
  grind
 ·rintro⟨h1,h2⟩
  refine⟨h1,fun i hi=>?_⟩
  simp_all
theorem zFi{D:Nat}:∀{xs:Mx},(∀r∈xs,r.length=D)→xs.flatten.length=xs.length*D
 | [],_=>by simp
 |x::xs,h=>by
  have:=zFi (xs:=xs) fun r hr=>h r (by simp[hr])
  grind
theorem zLP{p:Int}{D:Nat}{xs:Mx}(h:∀r∈xs,Row p D r):Row p (xs.length*D) xs.flatten:=by grind[zKs,zFi,Ja1]
def tF(D k:Nat):List Int:=mkv D fun j=>if j=k then 1 else 0
theorem zQt{p:Int}{D k:Nat}(hp:2≤p):Row p D (tF D k):=⟨yE _ _,by grind[tF,zS]⟩
theorem zAF{D k:Nat}(hk:k<D)(hD:D≤1000000):zK9 (D:Int) (k:Int)=iz (tF D k):=by grind[zK9,yX,yH,uO,kE,tF]
end Go.Pl

namespace Go.Pl
open Go Go.Ab Go.Wk Go.Pc
abbrev gl{β:Type}(m:Nat)(F:Nat→β):List β:=(Ji m).map F
theorem xY{β:Type}{m:Nat}{F:Nat→β}:(gl m F).length=m:=by simp[gl]
theorem zIb{β:Type}{m:Nat}{F:Nat→β}{i:Nat}(h:i<m):ixO (gl m F) (i:Int)=iz (F i):=by rw[zAW (by grind)];simp[gl]
theorem zBq{β:Type}{m:Nat}{F G:Nat→β}(h:∀i,i<m→F i=G i):gl m F=gl m G:=by grind[Gv]
theorem zN0{β:Type}{m:Nat}{F:Nat→β}{i:Nat}{a:β}:(gl m F).set i a=gl m (fun k=>if k=i then a else F k):=by
 apply Kk
 grind
theorem kG{β:Type}{m:Nat}{F:Nat→β}:gl m F++[F m]=gl (m+1) F:=by simp[gl,Kv]
def base(n i:Nat):Nat:=n+i*n-i*(i+1)/2
theorem zJ0:∀n,n<7→ ∀i,i<n→base n (i+1)=base n i+(n-1-i):=by decide
theorem zGP:∀n,n<7→ ∀i,i<n→base n i+(n-1-i)≤base n n:=by decide
theorem tG:∀n,n<7→n≤base n n∧base n n≤21∧base n 0=n:=by decide
theorem zN1:∀n:Nat,n<7→ ∀j:Nat,j<n→ ∀i:Nat,i<j→zZX (n:Int) (i:Int) (j:Int)=iz ((base n i+(j-i-1):Nat):Int):=by decide+kernel
def exP(n D:Nat)(x:SPr)(T:Mx)(i:Nat):List Int:=if i<n then x.zJ.getD i []++T.getD i []else J1 (n+D) 0
def exF(n:Nat)(x:SPr)(m:zC)(T:Mx)(i j:Nat):List Int:=if j<n-1-i then(x.zB.getD i []).getD j []++T.getD (base n i+j) []else J1 n 0++(m.zE.getD i []).getD (j-(n-1-i)) []
def unC(N i:Nat):Mx:=gl (N-1-i) fun j=>tF N (i+1+j)
def exC(n D:Nat)(x:SPr)(m:zC)(T:Mx)(i:Nat):Mx:=if i<n then gl (n+D-1-i) (exF n x m T i)else unC (n+D) i
def ext(n D:Nat)(x:SPr)(m:zC)(T:Mx):SPr:=⟨x.zA++J1 D m.Prime,gl (n+D) (exP n D x T),gl (n+D) (exC n D x m T)⟩
structure zKt (n D:Nat) (x:SPr) (m:zC) (T:Mx):Prop where
 hn:n≤6
 o:x.zA.length=n
 p:x.zJ.length=n
 c:x.zB.length=n
 cl:∀i,i<n→(x.zB.getD i []).length=n-1-i
 pl:∀i,(x.zJ.getD i []).length≤6
 ce:∀i j,((x.zB.getD i []).getD j []).length≤6
 t:T.length=base n n
 tl:∀i,(T.getD i []).length≤30
 m:zZs n m D
end Go.Pl
