/- The program's EquivalenceMap returns what the reference's returns,for all arguments;no conditions. -/
import Derived.Test.YtijcbaigdbgofaaGreatAbB
import Derived.Test.YtijcbaigdbgofaaGreatWF
open List renaming replicate→J1,getD_eq_getElem?_getD→J3,getElem?_eq_getElem→J4,getElem?_append_right→J7,length_append→Ja,append_assoc→Jb,replicate_append_replicate→Je,append_nil→Jg,mem_map→Jh,take_of_length_le→Ji,take_succ_eq_append_getElem→Jj,getElem?_eq_some_iff→Jk,range→Jl,map_cons→Jm,mem_cons→Jn,getElem?_map→Jp,getElem?_eq_none→Jq,length_take→Jr,length_map→Jt,getElem?_append_left→Jx,take_zero→Jz,nil_append→K1,length_replicate→K2,getElem?_replicate→K3,length_cons→K4,mem_iff_getElem→K5,getElem_mem→K7,ext_getElem?→K9,getElem?_append→Kb,length_drop→Ki,replicate_succ→Km,eq_nil_of_length_eq_zero→Kn,mem_append→L5,range_succ→L6,set_cons_zero→L8,singleton_append→L9,take_succ_cons→La,mem_range→Ld,cons_append→Lg,map_append→Ls,getElem?_drop→H0,drop_eq_getElem_cons→H2,length_nil→Ha,set_append_right→Hd,take_length→Hh,replicate_zero→Hm,drop_zero→Ga,drop_of_length_le→Gm,getElem?_cons_succ→Gu,map_congr_left→U6,getD_cons_zero→U7,mem_flatMap→Ua,map_nil→Ub,flatMap_append→Uj,range'→Un,map_map→Uo,length_range→Up,getElem?_cons_zero→Ur,suffix_cons_iff→Qo,getD_cons_succ→Qx,findSome?_cons→Qy,range_succ_eq_map→Ja0,take_append_drop→Ja8,foldl_append→Ja9,replicate_succ'→Jah,all_cons→Jak,getElem?_set→Jaq,range'_succ→Jb2,getElem?_take→Jbx,length→Jce
open Bool renaming and_eq_true→J2,not_true→J9,not_false→Ju
open Int renaming toNat_natCast→J6,mul_emod→Jo,emod_emod→Js,emod_eq_of_lt→Jv,add_emod→K6,emod_lt_of_pos→Kd,zero_add→Kg,tmod_eq_emod_of_nonneg→Ko,emod_nonneg→Kx,mul_le_mul→L7,add_mul_emod_self_left→Lb,mul_one→Lm,mul_assoc→H6,mul_le_mul_of_nonneg_left→He,toNat_zero→Hn,mul_nonneg→Ho,zero_mul→Hx,mul_zero→Hy,mul_comm→Hz,add_zero→G4,add_emod_right→Ge,add_mul→Uk,sub_mul→Us,one_mul→Ut,tmod_add_mul_tdiv→Qu,add_assoc→Ja2,tmod_lt_of_pos→Jaa,lt_tmod_of_pos→Jab,toNat_of_nonneg→Jar,tmod→Jas
open Nat renaming zero_add→J8,lt_or_ge→Jd,le_refl→Jf,zero_le→Jy,sub_self→Kc,min_eq_left→Li,le_trans→Lt,sub_zero→Gb,lt_trichotomy→Gd,add_zero→Gt,zero_sub→Jbt,le_of_lt→Jbu
open Option renaming map_eq_some_iff→Kq,some→Hf,map_some→Hg,getD_some→Jad
open Option renaming some→dJ,none→dK
open Bool renaming true→dL,false→dM
namespace Go.Pc
abbrev Vec:=List Int
structure Lvl where
 o:Int
 w:Vec
 cs:List Vec
abbrev Pcp:=List Lvl
def zeros(n:Nat):Vec:=J1 n 0
def iter{α:Type}:Nat→(α→α)→α→α
 |0,_,x=>x
 |n+1,f,x=>iter n f (f x)
theorem vV{α:Type}(f:α→α):∀(n:Nat)(x:α),iter (n+1) f x=f (iter n f x)
 |0,_=>rfl
 |n+1,x=>by rw[iter,vV f n (f x)];rfl
theorem zDC{α:Type}(f:α→α)(a:Nat):∀(b:Nat)(x:α),iter (a+b) f x=iter a f (iter b f x)
 |0,_=>rfl
 |b+1,x=>by show iter (a+b) f (f x)=_;rw[zDC f a b (f x)];rfl
def img{α:Type}(m:α→α→α):List α→Vec→α→α
 |c::cs,x::xs,acc=>img m cs xs (iter x.toNat (fun v=>m v c) acc)
 |_,_,acc=>acc
def V:Pcp→Vec→Prop
 | [],v=>v=[]
 |l::P,v=>match v with
  | []=>False
  |a::x=>(0≤a∧a<l.o)∧V P x
def mul:Pcp→Vec→Vec→Vec
 |l::P,a::x,b::y=>
  let r:=mul P (iter b.toNat (fun v=>img (mul P) l.cs v (zeros P.length)) x) y
  if a+b≥l.o then(a+b-l.o)::mul P l.w r else(a+b)::r
 |_,_,_=>[]
def Ok:Pcp→Prop
 | []=>True
 |l::P=>1<l.o∧V P l.w∧l.cs.length=P.length∧(∀c∈l.cs,V P c)∧Ok P
structure Mon {α:Type} (S:α→Prop) (m:α→α→α) (e:α):Prop where
 cl:∀{a b},S a→S b→S (m a b)
 ein:S e
 assoc:∀{a b c},S a→S b→S c→m (m a b) c=m a (m b c)
 onel:∀{a},S a→m e a=a
 oner:∀{a},S a→m a e=a
structure Grp {α:Type} (S:α→Prop) (m:α→α→α) (e:α):Prop extends Mon S m e where
 inv:∀{a},S a→ ∃b,S b∧m a b=e
theorem Grp.invl{α:Type}{S:α→Prop}{m:α→α→α}{e:α}(h:Grp S m e){a:α}(ha:S a):∃b,S b∧m a b=e∧m b a=e:=by
 obtain⟨b,hb,h1⟩:=h.inv ha;obtain⟨c,hc,h2⟩:=h.inv hb;refine⟨b,hb,h1,?_⟩;have:a=c:=by rw[←h.oner ha,←h2,←h.assoc ha hb hc,h1,h.onel hc]
 grind
theorem Grp.cancel_l{α:Type}{S:α→Prop}{m:α→α→α}{e:α}(h:Grp S m e){a b c:α}(ha:S a)(hb:S b)(hc:S c)(hh:m a b=m a c):b=c:=by obtain⟨d,hd,_,h2⟩:=h.invl ha;rw[←h.onel hb,←h.onel hc,←h2,h.assoc hd ha hb,h.assoc hd ha hc,hh]
section
variable {α:Type}{S:α→Prop}{m:α→α→α}{e:α}
def pw(m:α→α→α)(e:α)(x:α)(k:Nat):α:=iter k (fun v=>m v x) e
theorem uZ(h:Mon S m e){x:α}(hx:S x):∀k,S (pw m e x k)
 |0=>h.ein
 |k+1=>by rw[pw,vV];exact h.cl (uZ h hx k) hx
theorem vD{f:α→α}(hf:∀a,S a→S (f a)):∀(k:Nat){x:α},S x→S (iter k f x)
 |0,_,hx=>hx
 |k+1,_,hx=>vD hf k (hf _ hx)
theorem zDD(h:Mon S m e){x a:α}(hx:S x)(ha:S a):∀k,iter k (fun v=>m v x) a=m a (pw m e x k)
 |0=>(h.oner ha).symm
 |k+1=>by rw[vV,zDD h hx ha k];show _=m a (iter (k+1) (fun v=>m v x) e);rw[vV];exact h.assoc ha (uZ h hx k) hx
theorem zGm(h:Mon S m e){x:α}(hx:S x)(a b:Nat):pw m e x (a+b)=m (pw m e x a) (pw m e x b):=by rw[Nat.add_comm,pw,zDC,←zDD h hx (uZ h hx a) b];rfl
theorem zQ4(h:Mon S m e){x:α}(hx:S x):pw m e x 1=x:=h.onel hx
theorem zQ5(h:Mon S m e){x:α}(hx:S x)(k:Nat):pw m e x (k+1)=m x (pw m e x k):=by rw[Nat.add_comm,zGm h hx 1 k,zQ4 h hx]
theorem sS(h:∀{a b},S a→S b→S (m a b)):∀(cs:List α)(x:Vec){a:α},(∀c∈cs,S c)→S a→S (img m cs x a)
 |c::cs,x::xs,_,hc,ha=>by simp only[img];exact sS h cs xs (by grind) (vD (by simp_all) _ ha)
 | [],_,_,_,ha=>by grind[img]
 |_::_,[],_,_,ha=>by grind[img]
theorem zEw(h:Mon S m e)(cs:List α)(x:Vec){a:α}(hc:∀c∈cs,S c)(ha:S a):S (img m cs x a):=sS h.cl cs x hc ha
theorem zDE(h:Mon S m e):∀(cs:List α)(x:Vec){a:α},(∀c∈cs,S c)→S a→img m cs x a=m a (img m cs x e)
 |c::cs,x::xs,a,hc,ha=>by
  have h1:S c:=hc c (by simp);have h2:∀c∈cs,S c:=by grind
  simp only[img];rw[zDD h h1 ha,zDE h cs xs h2 (h.cl ha (uZ h h1 _)),zDD h h1 h.ein,zDE h cs xs h2 (h.cl h.ein (uZ h h1 _)),h.onel (uZ h h1 _),
   h.assoc ha (uZ h h1 _) (zEw h cs xs h2 h.ein)]
 | [],_,a,_,ha=>by simp[img,h.oner ha]
 |_::_,[],a,_,ha=>by simp[img,h.oner ha]
theorem sM(h:Mon S m e){c:α}{cs:List α}{x:Int}{xs:Vec}(hc:S c)(gM:∀c∈cs,S c):img m (c::cs) (x::xs) e=m (pw m e c x.toNat) (img m cs xs e):=by simp only[img];rw[zDE h cs xs gM (vD (fun a ha=>h.cl ha hc) _ h.ein)];rfl
theorem zAI(m:α→α→α):∀(cs:List α)(n:Nat)(a:α),img m cs (zeros n) a=a
 | [],_,_=>by simp[img]
 |_::_,0,_=>by rfl
 |c::cs,n+1,a=>by simp only[zeros,Km,img,Hn,iter];exact zAI m cs n a
theorem zGn(h:Mon S m e){g:α}(hg:S g):∀(cs ds:List α)(x:Vec),(∀c∈cs,S c)→(∀c∈ds,S c)→cs.length=ds.length→(∀(k:Nat) c d,cs[k]? =dJ c→ds[k]? =dJ d→m c g=m g d)→m (img m cs x e) g=m g (img m ds x e)
 | [],[],x,_,_,_,_=>by simp[img,h.onel hg,h.oner hg]
 |c::cs,d::ds,[],_,_,_,_=>by simp[img,h.onel hg,h.oner hg]
 |c::cs,d::ds,x::xs,hc,hd,hl,hp=>by
  have eB:S c:=hc c (by simp);have hd0:S d:=hd d (by simp);have gM:∀c∈cs,S c:=by grind
  have pL:∀c∈ds,S c:=by grind
  have key:∀k,m (pw m e c k) g=m g (pw m e d k):=by
   intro k
   induction k with
   |zero=>simp[pw,iter,h.onel hg,h.oner hg]
   |succ k ih=>
    have h0:m c g=m g d:=hp 0 c d rfl rfl;rw[pw,vV,pw,vV];show m (m (pw m e c k) c) g=m g (m (pw m e d k) d);rw[h.assoc (uZ h eB k) eB hg,h0,←h.assoc (uZ h eB k) hg hd0,ih,h.assoc hg (uZ h hd0 k) hd0]
  rw[sM h eB gM,sM h hd0 pL,h.assoc (uZ h eB _) (zEw h _ _ gM h.ein) hg,zGn h hg cs ds xs gM pL (by grind) (fun k c d h1 h2=>hp (k+1) c d (by grind) (by grind)),
   ←h.assoc (uZ h eB _) hg (zEw h _ _ pL h.ein),key,h.assoc hg (uZ h hd0 _) (zEw h _ _ pL h.ein)]
theorem zN6{β:Type}{T:β→Prop}{n:β→β→β}{f:β}(h:Mon S m e)(h':Mon T n f)(φ:α→β)(hJ:∀a,S a→T (φ a))(h1:φ e=f)(hm:∀a b,S a→S b→φ (m a b)=n (φ a) (φ b)):∀(cs:List α)(x:Vec),(∀c∈cs,S c)→φ (img m cs x e)=img n (cs.map φ) x f
 | [],_,_=>by simp[img,h1]
 |c::cs,[],_=>by simp[img,h1]
 |c::cs,x::xs,hc=>by
  have eB:S c:=hc c (by simp);have gM:∀c∈cs,S c:=by grind
  have key:∀k,φ (pw m e c k)=pw n f (φ c) k:=by
   intro k
   induction k with
   |zero=>grind[pw,iter]
   |succ k ih=>
    grind[pw,vV,uZ]
  rw[sM h eB gM,Jm,sM h' (hJ c eB) (by simp_all),hm _ _ (uZ h eB _) (zEw h _ _ gM h.ein),key,zN6 h h' φ hJ h1 hm cs xs gM]
end
theorem wJ:∀{P:Pcp},Ok P→V P (zeros P.length)
 | [],_=>rfl
 |l::P,h=>by simp only[Ok]at h;simp only[K4,zeros,Km,V];exact⟨by omega,wJ h.2.2.2.2⟩
theorem xN:∀{P:Pcp},Ok P→ ∀{x y:Vec},V P x→V P y→V P (mul P x y)
 | [],_,_,_,hx,hy=>by rfl
 |l::P,h,[],_,hx,_=>by grind[V]
 |l::P,h,_::_,[],_,hy=>by grind[V]
 |l::P,h,a::x,b::y,hx,hy=>by
  simp only[Ok]at h;simp only[V]at hx hy;have h1:∀v,V P v→V P (img (mul P) l.cs v (zeros P.length)):=fun v hv=>sS (xN h.2.2.2.2) l.cs v h.2.2.2.1 (wJ h.2.2.2.2)
  have h2:=xN h.2.2.2.2 (vD h1 b.toNat hx.2) hy.2;simp only[mul];split
  ·exact⟨by omega,xN h.2.2.2.2 h.2.1 h2⟩
  ·exact⟨by omega,h2⟩
def Rel{α:Type}(m:α→α→α)(e:α):Pcp→List α→Prop
 | [],s=>s=[]
 |l::P,s=>match s with
  | []=>False
  |g::s=>pw m e g l.o.toNat=img m s l.w e∧(∀(k:Nat) c d,s[k]? =dJ c→l.cs[k]? =dJ d→m c g=m g (img m s d e))∧Rel m e P s
section
variable {α:Type}{S:α→Prop}{m:α→α→α}{e:α}
theorem zXU(h:Mon S m e):∀(P:Pcp)(s:List α),Ok P→(∀g∈s,S g)→Rel m e P s→ ∀x y,V P x→V P y→img m s (mul P x y) e=m (img m s x e) (img m s y e)
 | [],s,_,_,hr,x,y,hx,hy=>by simp only[Rel]at hr;subst hr;simp[img,h.onel h.ein]
 |l::P,[],_,_,hr,_,_,_,_=>by grind[Rel]
 |l::P,g::s,_,_,_,[],_,hx,_=>by grind[V]
 |l::P,g::s,_,_,_,_::_,[],_,hy=>by grind[V]
 |l::P,g::s,hk,hs,hr,a::x,b::y,hx,hy=>by
  simp only[Ok]at hk;simp only[Rel]at hr;simp only[V]at hx hy;obtain⟨ho,hw,gI,gM,a7⟩:=hk;obtain⟨ez,eK,eP⟩:=hr;have hg:S g:=hs g (by simp);have pz:∀c∈s,S c:=by grind
  have gm:s.length=P.length:=by
   clear ez eK hx hy hw gI gM hs pz
   induction P generalizing s with
   |nil=>grind[Rel]
   |cons l P ih=>
    cases s with
    |nil=>grind[Rel]
    |cons c s=>grind[Rel,Ok]
  have ih:=zXU h P s a7 pz eP;have hφ:∀v,S (img m s v e):=fun v=>zEw h s v pz h.ein
  have hmP:∀{a b},V P a→V P b→V P (mul P a b):=xN a7;have ba:∀v,V P v→V P (img (mul P) l.cs v (zeros P.length)):=fun v hv=>sS hmP l.cs v gM (wJ a7)
  have hσ:∀v,V P v→m (img m s v e) g=m g (img m s (img (mul P) l.cs v (zeros P.length)) e):=by
   intro v hv;have key:∀(cs:List Vec)(v:Vec)(acc:Vec),(∀c∈cs,V P c)→V P acc→img m s (img (mul P) cs v acc) e=img m (cs.map fun c=>img m s c e) v (img m s acc e):=by
    intro cs
    induction cs with
    |nil=>grind[img]
    |cons c cs ihc=>
     intro v acc hc hacc;cases v with
     |nil=>simp[img]
     |cons z v=>
      have eB:V P c:=hc c (by simp);have it:∀k acc,V P acc→img m s (iter k (fun v=>mul P v c) acc) e=iter k (fun v=>m v (img m s c e)) (img m s acc e):=by
       intro k
       induction k with
       |zero=>intro acc _;rfl
       |succ k ihk=>
        simp_all[iter]
      simp only[img,Jm];rw[ihc v _ (by simp_all) (vD (by grind) _ hacc),it _ _ hacc]
   rw[key l.cs v (zeros P.length) gM (wJ a7),zAI];refine zGn h hg s _ v pz (by simp_all) (by grind) ?_;intro k c d hc hd;simp only[Jp,Kq]at hd;obtain⟨d',pi,rfl⟩:=hd
   grind
  have hσk:∀k v,V P v→m (img m s v e) (pw m e g k)=m (pw m e g k) (img m s (iter k (fun v=>img (mul P) l.cs v (zeros P.length)) v) e):=by
   intro k
   induction k with
   |zero=>intro v _;simp[pw,iter,h.onel (hφ v),h.oner (hφ v)]
   |succ k ihk=>
    intro v hv;rw[zQ5 h hg,←h.assoc (hφ v) hg (uZ h hg k),hσ v hv,h.assoc hg (hφ _) (uZ h hg k),ihk _ (ba v hv),←h.assoc hg (uZ h hg k) (hφ _)];rfl
  have fc:=uZ h hg a.toNat;have mR:=uZ h hg b.toNat;have eg:V P (iter b.toNat (fun v=>img (mul P) l.cs v (zeros P.length)) x):=vD ba _ hx.2;have bR:m (img m (g::s) (a::x) e) (img m (g::s) (b::y) e)=m (pw m e g (a.toNat+b.toNat)) (img m s (mul P (iter b.toNat (fun v=>img (mul P) l.cs v (zeros P.length)) x) y) e):=by rw[sM h hg pz,sM h hg pz,h.assoc fc (hφ x) (h.cl mR (hφ y)),←h.assoc (hφ x) mR (hφ y),hσk _ _ hx.2,h.assoc mR (hφ _) (hφ y),←ih _ _ eg hy.2,←h.assoc fc mR (hφ _),zGm h hg]
  rw[bR];simp only[mul];split
  ·rename_i hge
   rw[sM h hg pz,ih _ _ hw (hmP eg hy.2),←ez,←h.assoc (uZ h hg _) (uZ h hg _) (hφ _),←zGm h hg]
   congr 2
   omega
  ·rw[sM h hg pz]
   congr 2
   omega
end
def wK(n j:Nat):Vec:=(zeros n).set j 1
def sig(P:Pcp)(l:Lvl)(v:Vec):Vec:=img (mul P) l.cs v (zeros P.length)
def vH:Pcp→Prop
 | []=>True
 |l::P=>vH P∧Rel (mul P) (zeros P.length) P l.cs∧sig P l l.w=l.w∧ ∀j,j<P.length→mul P l.w (iter l.o.toNat (sig P l) (wK P.length j))=mul P (wK P.length j) l.w
theorem zHS(n:Nat):wK (n+1) 0=1::zeros n:=rfl
theorem zOx(n j:Nat):wK (n+1) (j+1)=0::wK n j:=rfl
def xU(n:Nat):List Vec:=(Jl n).map (wK n)
theorem zLI(n:Nat):xU (n+1)=(1::zeros n)::(xU n).map (0::·):=by
 simp only[xU,Ja0,Jm,Uo,zHS]
 congr 1
theorem zDa:∀{P:Pcp},Ok P→ ∀{j:Nat},j<P.length→V P (wK P.length j)
 | [],_,_,hj=>by simp at hj
 |l::P,h,0,_=>by grind[Ok,zHS,V,wJ]
 |l::P,h,j+1,hj=>by simp only[Ok]at h;rw[K4,zOx];simp only[V];exact⟨by omega,zDa h.2.2.2.2 (by grind)⟩
theorem zDb{l:Lvl}{P:Pcp}(h:Ok (l::P)){v:Vec}(_hv:V P v):V P (sig P l v):=by simp only[Ok]at h;exact sS (xN h.2.2.2.2) l.cs v h.2.2.2.1 (wJ h.2.2.2.2)
theorem yY(l:Lvl)(P:Pcp)(a b:Int)(x y:Vec):mul (l::P) (a::x) (b::y)=if a+b≥l.o then(a+b-l.o)::mul P l.w (mul P (iter b.toNat (sig P l) x) y)else(a+b)::mul P (iter b.toNat (sig P l) x) y:=rfl
theorem zOy{n k:Nat}{c:Vec}(h:(xU n)[k]? =dJ c):k<n∧c=wK n k:=by
 simp only[xU,Jp,Kq]at h
 grind
theorem normal:∀(P:Pcp),Ok P→(∀Q,Q<:+P→Mon (V Q) (mul Q) (zeros Q.length))→ ∀x,V P x→img (mul P) (xU P.length) x (zeros P.length)=x
 | [],_,_,x,hx=>by grind[V,img,zeros]
 |l::P,_,_,[],hx=>by grind[V]
 |l::P,h,hM,a::x,hx=>by
  have hMl:=hM (l::P) (List.suffix_refl _);have hMP:=hM P (by simp);have h':=h;simp only[Ok]at h;simp only[V]at hx;rw[K4,zLI];have hz:V P (zeros P.length):=wJ h.2.2.2.2;have hu0:V (l::P) (1::zeros P.length):=by grind[V]
  have ff:∀c∈(xU P.length).map (0::·),V (l::P) c:=by
   intro c hc;simp only[xU,Uo,Jh,Ld]at hc;obtain⟨j,hj,rfl⟩:=hc;simp only[Function.comp,V]
   grind[zDa]
  have bc:V (l::P) (zeros (P.length+1)):=by grind[wJ]
  rw[show zeros (P.length+1)=zeros (l::P).length from rfl];rw[sM hMl hu0 ff];have sz:∀k:Nat,iter k (sig P l) (zeros P.length)=zeros P.length:=by
   intro k
   induction k with
   |zero=>rfl
   |succ k ih=>grind[iter,sig,zAI]
  have h1:∀k:Nat,(k:Int)<l.o→pw (mul (l::P)) (zeros (l::P).length) (1::zeros P.length) k=(k:Int)::zeros P.length:=by
   intro k
   induction k with
   |zero=>intro _;rfl
   |succ k ih=>
    intro hk;rw[pw,vV];show mul (l::P) (pw (mul (l::P)) (zeros (l::P).length) (1::zeros P.length) k) (1::zeros P.length)=_;rw[ih (by omega),yY,if_neg (by omega)];rw[sz,hMP.onel hz];rfl
  have h2:∀(cs:List Vec)(y acc:Vec),(∀c∈cs,V P c)→V P acc→img (mul (l::P)) (cs.map (0::·)) y (0::acc)=0::img (mul P) cs y acc:=by
   intro cs
   induction cs with
   |nil=>grind[img]
   |cons c cs ih=>
    intro y acc hc hacc;cases y with
    |nil=>simp[img]
    |cons z y=>
     have eB:V P c:=hc c (by simp);have it:∀(k:Nat)(acc:Vec),V P acc→iter k (fun v=>mul (l::P) v (0::c)) (0::acc)=0::iter k (fun v=>mul P v c) acc:=by
      intro k
      induction k with
      |zero=>intro _ _;rfl
      |succ k ihk=>
       intro acc hacc;simp only[iter];rw[yY,if_neg (by omega)];exact ihk _ (xN h.2.2.2.2 hacc eB)
     simp only[Jm,img];rw[it _ _ hacc,ih _ _ (by grind) (vD (by grind[xN]) _ hacc)]
  have cU:∀c∈xU P.length,V P c:=by
   intro c hc;simp only[xU,Jh,Ld]at hc;obtain⟨j,hj,rfl⟩:=hc
   grind[zDa]
  rw[h1 a.toNat (by omega),show zeros (l::P).length=0::zeros P.length from rfl,h2 _ _ _ cU hz,normal P h.2.2.2.2 (by grind) x hx.2,yY,if_neg (by omega)];simp only[Hn,iter];rw[hMP.onel hx.2]
  grind
theorem zN7:∀(P:Pcp),Ok P→vH P→Grp (V P) (mul P) (zeros P.length)
 | [],_,_=>by
  refine⟨⟨fun _ _=>rfl,rfl,fun _ _ _=>rfl,?_,?_⟩,fun ha=>⟨[],rfl,rfl⟩⟩<;>
  ·intro a ha
   simp only[V]at ha;subst ha;rfl
 |l::P,h,hc=>by
  have h':=h;simp only[Ok]at h;simp only[vH]at hc;obtain⟨ho,hw,gI,gM,hP⟩:=h;obtain⟨dy,m9,t6,bX⟩:=hc;have N:=zN7 P hP dy;have hM:∀Q,Q<:+P→Mon (V Q) (mul Q) (zeros Q.length):=by
   intro Q hQ;obtain⟨t,ht⟩:=hQ;have:Ok Q∧vH Q:=by
    clear N hw gI gM m9 t6 bX h'
    induction t generalizing P with
    |nil=>grind
    |cons a t ih=>
     simp at ht;subst ht;simp only[Ok]at hP;simp only[vH]at dy
     grind
   have gE:SizeOf.sizeOf Q≤SizeOf.sizeOf P:=by
    rw[←ht]
    clear N hw gI gM m9 t6 bX h' hP dy ht this
    induction t with
    |nil=>simp
    |cons a t ih=>grind
   exact(zN7 Q this.1 this.2).toMon
  have hz:V P (zeros P.length):=wJ hP;have σin:∀v,V P v→V P (sig P l v):=by grind[zDb]
  have σhom:∀x y,V P x→V P y→sig P l (mul P x y)=mul P (sig P l x) (sig P l y):=fun x y hx hy=>zXU N.toMon P l.cs hP gM m9 x y hx hy
  have σz:sig P l (zeros P.length)=zeros P.length:=zAI _ _ _ _;have itin:∀(k:Nat) v,V P v→V P (iter k (sig P l) v):=fun k v hv=>vD σin k hv
  have ithom:∀(k:Nat) x y,V P x→V P y→iter k (sig P l) (mul P x y)=mul P (iter k (sig P l) x) (iter k (sig P l) y):=by
   intro k
   induction k with
   |zero=>intro _ _ _ _;rfl
   |succ k ih=>simp_all[iter]
  have itz:∀k:Nat,iter k (sig P l) (zeros P.length)=zeros P.length:=by
   intro k
   induction k with
   |zero=>rfl
   |succ k ih=>grind[iter]
  have itw:∀k:Nat,iter k (sig P l) l.w=l.w:=by
   intro k
   induction k with
   |zero=>rfl
   |succ k ih=>grind[iter]
  have cU:∀c∈xU P.length,V P c:=by
   intro c hc;simp only[xU,Jh,Ld]at hc;obtain⟨j,hj,rfl⟩:=hc
   grind[zDa]
  have inner:∀x,V P x→mul P x l.w=mul P l.w (iter l.o.toNat (sig P l) x):=by
   intro x hx;have hnf:=normal P hP hM x hx;have bQ:=zN6 N.toMon N.toMon (iter l.o.toNat (sig P l)) (by grind) (itz _) (by grind) (xU P.length) x cU;rw[←hnf,bQ];refine zGn N.toMon hw _ _ x cU (by simp_all) (by simp) ?_;intro k c d hc hd;rw[Jp,Kq]at hd;obtain⟨c',pk,rfl⟩:=hd;rw[hc]at pk;simp at pk;subst pk;obtain⟨hk,rfl⟩:=zOy hc
   grind
  have e:∀(x y z:Vec)(b c:Int),V P x→V P y→V P z→0≤b→0≤c→
    mul P (iter c.toNat (sig P l) (mul P (iter b.toNat (sig P l) x) y)) z=mul P (iter (b+c).toNat (sig P l) x) (mul P (iter c.toNat (sig P l) y) z)∧
    mul P (iter c.toNat (sig P l) (mul P l.w (mul P (iter b.toNat (sig P l) x) y))) z=mul P l.w (mul P (iter (b+c).toNat (sig P l) x) (mul P (iter c.toNat (sig P l) y) z))∧
    (l.o≤b+c→mul P (iter (b+c-l.o).toNat (sig P l) x) (mul P l.w (mul P (iter c.toNat (sig P l) y) z))=mul P l.w (mul P (iter (b+c).toNat (sig P l) x) (mul P (iter c.toNat (sig P l) y) z))):=by
   intro x y z b c hx hy hz hb hcc;have dz:=itin b.toNat x hx;have hcy:=itin c.toNat y hy;have hbc:iter c.toNat (sig P l) (iter b.toNat (sig P l) x)=iter (b+c).toNat (sig P l) x:=by rw[←zDC];congr 1;omega
   have dB:=itin (b+c).toNat x hx;have e1:mul P (iter c.toNat (sig P l) (mul P (iter b.toNat (sig P l) x) y)) z=mul P (iter (b+c).toNat (sig P l) x) (mul P (iter c.toNat (sig P l) y) z):=by rw[ithom _ _ _ dz hy,hbc,N.assoc dB hcy hz]
   refine⟨e1,?_,?_⟩
   ·rw[ithom _ _ _ hw (N.cl dz hy),itw,N.assoc hw (itin _ _ (N.cl dz hy)) hz,e1]
   ·intro hge
    have t9:=N.cl hcy hz;rw[←N.assoc (itin _ x hx) hw t9,inner _ (itin _ x hx),←zDC,N.assoc hw (itin _ x hx) t9]
    congr 3
    omega
  refine⟨⟨by grind[xN],wJ h',?_,?_,?_⟩,?_⟩
  ·intro A B C hA hB hC
   match A,B,C,hA,hB,hC with
   |a::x,b::y,c::z,hA,hB,hC=>
    simp only[V]at hA hB hC;obtain⟨e1,e2,e3⟩:=e x y z b c hA.2 hB.2 hC.2 hB.1.1 hC.1.1
    by_cases c1:a+b≥l.o<;>by_cases c2:b+c≥l.o
    ·rw[yY,if_pos c1,yY l P b c,if_pos c2,yY,yY,e2,e3 c2]
     grind
    ·rw[yY,if_pos c1,yY l P b c,if_neg c2,yY,yY,e2,if_neg (by omega),if_pos (by omega)]
     grind
    ·rw[yY,if_neg c1,yY l P b c,if_pos c2,yY,yY,e1,e3 c2,if_pos (by omega),if_neg (by omega)]
     grind
    ·rw[yY,if_neg c1,yY l P b c,if_neg c2,yY,yY,e1]
     grind
  ·intro A hA
   match A,hA with
   |a::x,hA=>
    simp only[V]at hA;show mul (l::P) (0::zeros P.length) (a::x)=_;rw[yY,if_neg (by omega),itz,N.onel hA.2,Kg]
  ·intro A hA
   match A,hA with
   |a::x,hA=>
    simp only[V]at hA;show mul (l::P) (a::x) (0::zeros P.length)=_;rw[yY,if_neg (by omega)];simp only[Hn,iter];rw[N.oner hA.2,G4]
  ·intro A hA
   match A,hA with
   |a::x,hA=>
    simp only[V]at hA
    by_cases ha:a=0
    ·obtain⟨y,hy,h1⟩:=N.inv hA.2
     refine⟨0::y,by simp only[V];grind,?_⟩;rw[yY,if_neg (by omega)];simp only[Hn,iter];rw[h1,ha];rfl
    ·have bg:=itin (l.o-a).toNat x hA.2
     obtain⟨y,hy,h1⟩:=N.inv (N.cl hw bg);refine⟨(l.o-a)::y,by simp only[V];grind,?_⟩;rw[yY,if_pos (by omega),←N.assoc hw bg hy,h1,show a+(l.o-a)-l.o=0 by omega];rfl
termination_by P=>P
end Go.Pc

namespace Go.Pl
open Go Go.Ab
theorem bs{α β:Type}(x:α)(f:α→Option β):(dJ x).bind f=f x:=by simp only[Option.bind_some]
theorem zJ{α:Type}(x y:α):cond dL x y=x:=by simp only[cond_true]
theorem zK{α:Type}(x y:α):cond dM x y=y:=by simp only[cond_false]
theorem zE{n:Int}(h1:-9223372036854775808≤n)(h2:n≤9223372036854775807):rng n=dJ n:=by unfold rng;rw[if_pos];simp only[inR,J2,decide_eq_true_eq];omega
theorem vE{α:Type}(xs:List α)(i:Nat):ixO xs (i:Int)=xs[i]?:=by unfold ixO;rw[if_pos (by omega)];simp
theorem kK{α:Type}{xs:List α}{i:Nat}(h:i<xs.length):ixO xs (i:Int)=dJ xs[i]:=by rw[vE];exact J4 h
theorem yR{n:Nat}(h:n≤68719476736):yV (n:Int)=dJ n:=by unfold yV;rw[if_pos (by omega)];simp
theorem zZ{α:Type}{xs ys:List α}(h:xs.length+ys.length≤68719476736):xC xs ys=dJ (xs++ys):=by unfold xC;rw[if_pos h]
theorem zO{σ ρ:Type}{body:σ→Option (σ⊕ρ)}{r:ρ}(S:Nat→σ)(n:Nat)(h:∀i,i<n→body (S i)=dJ (.inl (S (i+1))))(he:body (S n)=dJ (.inr r)):zH body (S 0)=dJ r:=by
 have key:∀k i,i+k=n→zH body (S i)=dJ r:=by
  intro k
  induction k with
  |zero=>intro i hi;rw[xE,show i=n from by omega,he]
  |succ k ih=>intro i hi;rw[xE,h i (by omega)];exact ih (i+1) (by omega)
 exact key n 0 (by omega)
theorem vW{σ ρ:Type}{body:σ→Option (σ⊕ρ)}{Q:ρ→Prop}(I:Nat→σ→Prop)(n:Nat)(h:∀i s,i<n→I i s→(∃s',body s=dJ (.inl s')∧I (i+1) s')∨ ∃r,body s=dJ (.inr r)∧Q r)
  (he:∀s,I n s→ ∃r,body s=dJ (.inr r)∧Q r){s:σ}(h0:I 0 s):∃r,zH body s=dJ r∧Q r:=by
 have key:∀k i s,i+k=n→I i s→ ∃r,zH body s=dJ r∧Q r:=by
  intro k
  induction k with
  |zero=>
   intro i s hi hs;obtain rfl:i=n:=by omega
   obtain⟨r,h1,h2⟩:=he s hs;exact⟨r,by rw[xE,h1],h2⟩
  |succ k ih=>
   intro i s hi hs;rcases h i s (by omega) hs with⟨s',h1,h2⟩|⟨r,h1,h2⟩
   ·rw[xE,h1];exact ih (i+1) s' (by omega) h2
   ·exact⟨r,by rw[xE,h1],h2⟩
 exact key n 0 s (by omega) h0
def zN8{ρ:Type}:Option ρ→Unit⊕ρ
 |none=>.inl ()
 |some r=>.inr r
theorem cs(i:Nat):(i:Int)+1=((i+1:Nat):Int):=by omega
theorem zOz{ρ:Type}{body:Int→Option (Int⊕(Unit⊕ρ))}(n:Nat)(t:Nat→Option ρ)(i0:Nat)(hn:i0≤n)
  (h:∀i,i0≤i→i<n→(∀j,i0≤j→j<i→t j=dK)→body (i:Int)=dJ (match t i with|none=>.inl ((i+1:Nat):Int)|some r=>.inr (.inr r)))
  (he:(∀j,i0≤j→j<n→t j=dK)→body (n:Int)=dJ (.inr (.inl ()))):
  zH body (i0:Int)=dJ (zN8 ((Un i0 (n-i0)).findSome? t)):=by
 have key:∀k i,i0≤i→i+k=n→(∀j,i0≤j→j<i→t j=dK)→zH body (i:Int)=dJ (zN8 ((Un i k).findSome? t)):=by
  intro k
  induction k with
  |zero=>
   intro i hi hk hp;obtain rfl:i=n:=by omega
   rw[xE,he hp];rfl
  |succ k ih=>
   intro i hi hk hp;rw[xE,h i hi (by omega) hp,Jb2,Qy];cases ht:t i with
   |some r=>rfl
   |none=>
    simp only
    exact ih (i+1) (by omega) (by omega) fun j h1 h2=>by
     rcases Jd j i with h3|h3
     ·exact hp j h1 h3
     ·rw[show j=i from by omega];exact ht
 exact key (n-i0) i0 (Jf _) (by omega) fun j h1 h2=>by omega
theorem zQ6{n:Nat}{b:Nat→Bool}:zN8 ((Un 0 n).findSome? (fun i=>if b i then dK else dJ dM))=if(Jl n).all b then .inl ()else .inr dM:=by
 have key:∀l:List Nat,zN8 (l.findSome? (fun i=>if b i then dK else dJ dM))=if l.all b then .inl ()else .inr dM:=by
  intro l
  induction l with
  |nil=>rfl
  |cons x l ih=>
   rw[Qy,Jak];cases hb:b x
   ·rfl
   ·simpa using ih
 rw[key,List.range_eq_range']
theorem zO0{body:Int→Option (Int⊕(Unit⊕Bool))}(n:Nat)(b:Nat→Bool)
  (h:∀i,i<n→(∀j,j<i→b j=dL)→body (i:Int)=dJ (if b i then .inl ((i+1:Nat):Int)else .inr (.inr dM)))
  (he:(∀j,j<n→b j=dL)→body (n:Int)=dJ (.inr (.inl ()))):
  zH body 0=dJ (if(Jl n).all b then .inl ()else .inr dM):=by
 have:=zOz (body:=body) n (fun i=>if b i then dK else dJ dM) 0 (Jy _) (fun i _ hi hp=>by
  rw[h i hi fun j hj=>by
   have:=hp j (Jy _) hj;split at this
   ·assumption
   ·cases this]
  cases b i<;>rfl) (fun hp=>he fun j hj=>by
   have:=hp j (Jy _) hj;split at this
   ·assumption
   ·cases this)
 rw[Gb]at this;exact this.trans (congrArg dJ (zQ6 (n:=n) (b:=b)))
theorem zQ7{α:Type}{xs:List α}{z:α}{i:Nat}(h:i<xs.length):(xs.take i++J1 (xs.length-i) z).set i xs[i]=xs.take (i+1)++J1 (xs.length-(i+1)) z:=by
 have h1:(xs.take i).length=i:=by rw[Jr];omega
 rw[Hd _ _ (by omega),h1,Kc,show xs.length-i=(xs.length-(i+1))+1 from by omega,Km,L8,Jj h];simp only[Jb,L9]
theorem zIS{α:Type}{f:α→Option α}{body:List α×Int→Option ((List α×Int)⊕List α)}{x0:List α}{z:α}
  (hb:∀s,body s=cond (decide (s.2<(x0.length:Int))) ((ixO x0 s.2).bind fun v2=>(f v2).bind fun r3=>(ixO s.1 s.2).bind fun _=>(rng (s.2+1)).bind fun v5=>dJ (.inl (s.1.set s.2.toNat r3,v5))) (dJ (.inr s.1)))
  (hl:x0.length≤68719476736)(hf:∀x∈x0,f x=dJ x):zH body (J1 x0.length z,0)=dJ x0:=by
 have:=zO (body:=body) (r:=x0) (fun i=>(x0.take i++J1 (x0.length-i) z,(i:Int))) x0.length (fun i hi=>by
  rw[hb];simp only[dP (show((i:Int))<(x0.length:Int)from by omega),zJ];rw[kK hi,vE];simp only[bs,hf _ (K7 hi)];rw[J4 (by simp;omega),bs,zE (by omega) (by omega),bs];simp only[J6,zQ7 hi,cs]) (by
  rw[hb];simp only[dO (show¬((x0.length:Int))<(x0.length:Int)from by omega),zK,Hh,Kc,Hm,Jg])
 simpa using this
theorem zTs{α:Type}[BEq α]{t:α→α→Option Bool}{body:Int→Option (Int⊕(Unit⊕Bool))}{x y:List α}
  (hb:∀i,body i=cond (decide (i<(x.length:Int))) ((ixO x i).bind fun v1=>(ixO y i).bind fun v2=>(t v1 v2).bind fun r3=>cond (!r3) (dJ (.inr (.inr dM))) ((rng (i+1)).bind fun v4=>dJ (.inl v4))) (dJ (.inr (.inl ()))))
  (hl:x.length≤68719476736)(bf:x.length=y.length)(ht:∀u∈x,∀v∈y,t u v=dJ (u==v)):zH body 0=dJ (if x==y then .inl ()else .inr dM):=by
 have h:=zO0 (body:=body) x.length (fun i=>match x[i]?,y[i]? with|some u,dJ v=>u==v|_,_=>dL) (fun i hi _=>by
  have eR:i<y.length:=by omega
  rw[hb];simp only[dP (show((i:Int))<(x.length:Int)from by omega),zJ];rw[kK hi,kK eR];simp only[bs,ht _ (K7 hi) _ (K7 eR),J4 hi,J4 eR];cases x[i]==y[i]
  ·rfl
  ·simp only[J9,zK,if_true]
   rw[zE (by omega) (by omega),cs];rfl) (fun _=>by
  rw[hb];simp only[dO (show¬((x.length:Int))<(x.length:Int)from by omega),zK])
 rw[h]
 congr 2
 have key:∀(x y:List α),x.length=y.length→((Jl x.length).all (fun i=>match x[i]?,y[i]? with|some u,dJ v=>u==v|_,_=>dL))=(x==y):=by
  intro x
  induction x with
  |nil=>intro y hy;cases y with|nil=>rfl|cons _ _=>simp at hy
  |cons u x ih=>
   intro y hy;cases y with
   |nil=>simp at hy
   |cons v y=>
    rw[K4,Ja0,Jak,List.all_map];simp only[Ur,Function.comp_def,Gu];rw[ih y (by simpa using hy)];rfl
 rw[key x y bf]
theorem zHT{α:Type}[BEq α]{t:α→α→Option Bool}{f:Option Bool}{body:Int→Option (Int⊕(Unit⊕Bool))}{x y:List α}
  (hf:f=cond ((x.length:Int) != (y.length:Int)) (dJ dM) ((zH body 0).bind fun r=>match r with|.inl _=>dJ dL|.inr r=>dJ r))
  (hb:∀i,body i=cond (decide (i<(x.length:Int))) ((ixO x i).bind fun v1=>(ixO y i).bind fun v2=>(t v1 v2).bind fun r3=>cond (!r3) (dJ (.inr (.inr dM))) ((rng (i+1)).bind fun v4=>dJ (.inl v4))) (dJ (.inr (.inl ()))))
  (hl:x.length≤68719476736)(ht:∀u∈x,∀v∈y,t u v=dJ (u==v)):f=dJ (x==y):=by
 rw[hf]
 by_cases bf:x.length=y.length
 ·rw[zTs hb hl bf ht]
  have:((x.length:Int) != (y.length:Int))=dM:=by simp[bf]
  rw[this];cases x==y<;>rfl
 ·have:((x.length:Int) != (y.length:Int))=dL:=by simp;omega
  rw[this];have h2:(x==y)=dM:=by
   have key:∀(x y:List α),x.length≠y.length→(x==y)=dM:=by
    intro x
    induction x with
    |nil=>intro y hy;cases y with|nil=>simp at hy|cons _ _=>rfl
    |cons u x ih=>
     intro y hy;cases y with
     |nil=>rfl
     |cons v y=>
      show(u==v&&x==y)=dM;rw[ih y (by simpa using hy),Bool.and_false]
   exact key x y bf
  rw[h2];rfl
end Go.Pl

namespace Go.Pl
open Go Go.Ab
def sm{α:Type}(c:α→Nat):List α→Nat
 | []=>0
 |x::xs=>c x+sm c xs
theorem zCl{α:Type}(c:α→Nat):∀xs ys:List α,sm c (xs++ys)=sm c xs+sm c ys
 | [],ys=>by simp[sm]
 |x::xs,ys=>by simp only[Lg,sm,zCl c xs ys];omega
theorem zFr{α:Type}(c:α→Nat){xs:List α}{i:Nat}(h:i<xs.length):sm c (xs.take (i+1))=sm c (xs.take i)+c xs[i]:=by rw[Jj h,zCl];simp[sm]
theorem zBg{α:Type}(c:α→Nat)(xs:List α)(i:Nat):sm c (xs.take i)≤sm c xs:=by have:=zCl c (xs.take i) (xs.drop i);rw[Ja8]at this;omega
theorem zQ8{α:Type}(c:α→Nat){xs:List α}{x:α}(h:x∈xs):c x≤sm c xs:=by obtain⟨i,hi,rfl⟩:=K5.1 h;have:=zFr c hi;have:=zBg c xs (i+1);omega
def szR(c:Nat)(b:Int):Int:=if(c:Int)≤b then b-c else -1
theorem zUS{α:Type}{c:α→Nat}{t:α→Int→Option Int}{f:Option Int}{body:Int×Int→Option ((Int×Int)⊕(Int⊕Int))}{xs:List α}{b:Int}
  (hf:f=(rng (b-(xs.length:Int))).bind fun v1=>cond (decide (v1<0)) (dJ (-1)) ((zH body (v1,0)).bind fun r=>match r with|.inl r=>dJ r|.inr r=>dJ r))
  (hb:∀s,body s=cond (decide (s.2<(xs.length:Int))) ((ixO xs s.2).bind fun v2=>(t v2 s.1).bind fun r3=>cond (decide (r3<0)) (dJ (.inr (.inr (-1)))) ((rng (s.2+1)).bind fun v4=>dJ (.inl (r3,v4)))) (dJ (.inr (.inl s.1))))
  (hl:xs.length≤9223372036854775807)(b0:0≤b)(b1:b≤1048576)(ht:∀x∈xs,∀b',0≤b'→b'≤1048576→t x b'=dJ (szR (c x) b')):f=dJ (szR (xs.length+sm c xs) b):=by
 rw[hf,zE (by omega) (by omega),bs]
 by_cases h0:b-(xs.length:Int)<0
 ·rw[dP h0,zJ,szR,if_neg (by omega)]
 ·rw[dO h0,zK]
  obtain⟨r,h1,h2⟩:=vW (body:=body) (Q:=fun r=>(match r with|.inl r=>dJ r|.inr r=>dJ r)=dJ (szR (xs.length+sm c xs) b)) (fun i s=>s.2=(i:Int)∧0≤s.1∧s.1=b-xs.length-sm c (xs.take i)) xs.length (fun i s hi ⟨e1,e2,e3⟩=>by
   rw[hb,e1,dP (by omega),zJ,kK hi,bs,ht _ (K7 hi) _ e2 (by omega),bs];have h3:=zFr c hi;have h4:=zBg c xs (i+1);unfold szR
   by_cases h5:(c xs[i]:Int)≤s.1
   ·rw[if_pos h5,dO (by omega),zK,zE (by omega) (by omega),bs,cs]
    exact .inl ⟨_,rfl,rfl,by simp only;omega,by simp only;omega⟩
   ·rw[if_neg h5]
    refine .inr ⟨.inr (-1),rfl,?_⟩;simp only
    rw[if_neg (by omega)]) (fun s ⟨e1,e2,e3⟩=>by
   rw[hb,e1,dO (by omega),zK];rw[Hh]at e3;refine⟨_,rfl,?_⟩;simp only
   rw[szR,if_pos (by omega),e3]
   congr 1;omega) (s:=(b-(xs.length:Int),0)) ⟨rfl,by simp only;omega,by simp[sm]⟩
  rw[h1,bs,h2]
def mkL{α:Type}(m:Int→α→α)(c:α→Nat):Int→List α→List α
 |_,[]=>[]
 |k,x::xs=>m k x::mkL m c (k+c x) xs
theorem zDc{α:Type}(m:Int→α→α)(c:α→Nat):∀(xs ys:List α)(k:Int),mkL m c k (xs++ys)=mkL m c k xs++mkL m c (k+sm c xs) ys
 | [],ys,k=>by simp[mkL,sm]
 |x::xs,ys,k=>by simp only[Lg,mkL,sm,zDc m c xs ys];rw[show k+(c x:Int)+(sm c xs:Int)=k+((c x+sm c xs:Nat):Int)from by omega]
theorem uD{α:Type}(m:Int→α→α)(c:α→Nat):∀(xs:List α)(k:Int),(mkL m c k xs).length=xs.length
 | [],_=>rfl
 |x::xs,k=>by simp[mkL,uD m c xs]
theorem zN9{α:Type}(m:Int→α→α)(c:α→Nat){xs:List α}{i:Nat}(h:i<xs.length)(k:Int):(mkL m c k xs)[i]'(by rw[uD];exact h)=m (k+sm c (xs.take i)) xs[i]:=by
 have h1:xs=xs.take i++xs[i]::xs.drop (i+1):=by simp
 have h2:=zDc m c (xs.take i) (xs[i]::xs.drop (i+1)) k;rw[←h1]at h2;rw[List.getElem_of_eq h2];rw[List.getElem_append_right (by rw[uD,Jr];omega)];simp[mkL,uD,Li (Jbu h)]
theorem zEx{α:Type}{m:Int→α→α}{c:α→Nat}{t:α→Int→Option (Int×α)}{body:List α×Int×Int→Option ((List α×Int×Int)⊕(List α×Int))}{xs:List α}{k:Int}
  (hb:∀s,body s=cond (decide (s.2.2<(s.1.length:Int))) ((ixO s.1 s.2.2).bind fun v1=>(t v1 s.2.1).bind fun r2=>(rng (s.2.2+1)).bind fun v3=>dJ (.inl (s.1.set s.2.2.toNat r2.2,r2.1,v3))) (dJ (.inr (s.1,s.2.1))))
  (hl:xs.length≤1048576)(k0:0≤k)(k1:k+sm c xs≤9223372036854775807)(ht:∀x∈xs,∀k':Int,0≤k'→k'+c x≤9223372036854775807→t x k'=dJ (k'+c x,m k' x)):zH body (xs,k,0)=dJ (mkL m c k xs,k+sm c xs):=by
 have:=zO (body:=body) (r:=(mkL m c k xs,k+sm c xs)) (fun i=>(mkL m c k (xs.take i)++xs.drop i,k+sm c (xs.take i),(i:Int))) xs.length (fun i hi=>by
  have h1:=zFr c hi;have h2:=zBg c xs (i+1);have gm:(mkL m c k (xs.take i)).length=i:=by rw[uD,Jr];omega
  have hg:(mkL m c k (xs.take i)++xs.drop i)[i]? =dJ xs[i]:=by rw[J7 (by omega),gm,Kc,H0,Gt,J4 hi]
  rw[hb];simp only
  rw[dP (by rw[Ja,gm,Ki];omega),zJ,vE,hg,bs,ht _ (K7 hi) _ (by omega) (by omega),bs,zE (by omega) (by omega),bs,cs];simp only[J6];rw[Hd _ _ (by omega),gm,Kc,H2 hi,L8,Jj hi,zDc,zCl,Jb];simp only[mkL,sm,L9,Gt];rw[show k+(sm c (xs.take i):Int)+(c xs[i]:Int)=k+((sm c (xs.take i)+c xs[i]:Nat):Int)from by omega]) (by
  rw[hb];simp only
  rw[dO (by rw[Ja,uD,Jr,Ki];omega),zK];simp only[Hh,List.drop_length,Jg])
 simpa[mkL,sm]using this
theorem zHU{α:Type}{m:Int→α→α}{c:α→Nat}{t:α→Int→Option Int}{f:Option Int}{xs:List α}{k:Int}{body:Int×Int→Option ((Int×Int)⊕(Int⊕Int))}
  (hf:f=(zH body (k,0)).bind fun r=>match r with|.inl r=>dJ r|.inr r=>dJ r)
  (hb:∀s,body s=cond (decide (s.2<((mkL m c k xs).length:Int))) ((ixO (mkL m c k xs) s.2).bind fun v1=>(t v1 s.1).bind fun r2=>cond (decide (r2<0)) (dJ (.inr (.inr (-1)))) ((rng (s.2+1)).bind fun v3=>dJ (.inl (r2,v3)))) (dJ (.inr (.inl s.1))))
  (hl:xs.length≤1048576)(k0:0≤k)(k1:k+sm c xs≤9223372036854775807)(ht:∀x∈xs,∀k':Int,0≤k'→k'+c x≤9223372036854775807→t (m k' x) k'=dJ (k'+c x)):f=dJ (k+sm c xs):=by
 have:=zO (body:=body) (r:=.inl (k+sm c xs)) (fun i=>(k+sm c (xs.take i),(i:Int))) xs.length (fun i hi=>by
  have h1:=zFr c hi;have h2:=zBg c xs (i+1);rw[hb];simp only
  rw[uD,dP (by omega),zJ,kK (by rw[uD];exact hi),bs,zN9 m c hi,ht _ (K7 hi) _ (by omega) (by omega),bs,dO (by omega),zK,zE (by omega) (by omega),bs,cs,h1];rw[show k+(sm c (xs.take i):Int)+(c xs[i]:Int)=k+((sm c (xs.take i)+c xs[i]:Nat):Int)from by omega]) (by
  rw[hb];simp only
  rw[uD,dO (by omega),zK,Hh])
 rw[hf];simp only[Jz,sm]at this;rw[show k+((0:Nat):Int)=k from by omega]at this;rw[show((0:Nat):Int)=0 from rfl]at this;rw[this];rfl
end Go.Pl

namespace Go.Pl
open Go Go.Ab Go.Wk
abbrev VI(n:Int):Prop:=(Lit.int .i64 n).wf=dL
abbrev VL{α:Type}(V:α→Prop)(xs:List α):Prop:=xs.length≤maxLen∧ ∀x∈xs,V x
abbrev c1(x:List Int):Nat:=x.length
abbrev c2(x:List (List Int)):Nat:=x.length+sm c1 x
abbrev c3(x:List (List (List Int))):Nat:=x.length+sm c2 x
theorem zKc{x:List Int}{b:Int}(hl:x.length≤9223372036854775807)(b0:0≤b)(b1:b≤1048576):zRv x b=dJ (szR (c1 x) b):=by
 unfold zRv szR;rw[zE (by omega) (by omega),bs]
 grind
theorem zCm{x:List (List Int)}{b:Int}(h:VL (VL VI) x)(b0:0≤b)(b1:b≤1048576):zOT x b=dJ (szR (c2 x) b):=
 zUS (c:=c1) rfl (fun _=>rfl) h.1 b0 b1 fun y hy _ h1 h2=>zKc (h.2 y hy).1 h1 h2
theorem zGo{x:List (List (List Int))}{b:Int}(h:VL (VL (VL VI)) x)(b0:0≤b)(b1:b≤1048576):zTF x b=dJ (szR (c3 x) b):=
 zUS (c:=c2) rfl (fun _=>rfl) h.1 b0 b1 (by grind[zCm])
abbrev S1(x:List Int):Prop:=c1 x≤1048576
abbrev S2(x:List (List Int)):Prop:=c2 x≤1048576
abbrev S3(x:List (List (List Int))):Prop:=c3 x≤1048576
theorem S2.mem{x:List (List Int)}(h:S2 x){y:List Int}(hy:y∈x):S1 y:=by
 have:=zQ8 c1 hy
 grind
theorem S3.mem{x:List (List (List Int))}(h:S3 x){y:List (List Int)}(hy:y∈x):S2 y:=by
 have:=zQ8 c2 hy
 grind
theorem S1.len{x:List Int}(h:S1 x):x.length≤1048576:=h
theorem S2.len{x:List (List Int)}(h:S2 x):x.length≤1048576:=by grind
theorem S3.len{x:List (List (List Int))}(h:S3 x):x.length≤1048576:=by grind
theorem zKd{x:List Int}(h:S1 x):zOU x=dJ x:=by unfold zOU;rw[yR (Lt h (by decide)),bs,zIS (body:=zRw x) (f:=dJ) (fun _=>rfl) (by grind) (fun _ _=>rfl),bs]
theorem zCn{x:List (List Int)}(h:S2 x):f_r x=dJ x:=by unfold f_r;rw[yR (by grind),bs,zIS (body:=zWq x) (f:=zOU) (fun _=>rfl) (by grind) (fun _ hx=>zKd (h.mem hx)),bs]
theorem zGp{x:List (List (List Int))}(h:S3 x):zRy x=dJ x:=by unfold zRy;rw[yR (by grind),bs,zIS (body:=zRx x) (f:=f_r) (fun _=>rfl) (by grind) (fun _ hx=>zCn (h.mem hx)),bs]
theorem zKe{x y:List Int}(h:S1 x):zSs x y=dJ (x==y):=
 zHT (t:=fun u v=>dJ (u==v)) (body:=zSr x y) rfl (fun _=>rfl) (by grind) fun _ _ _ _=>rfl
theorem zAJ{x y:List (List Int)}(h:S2 x):f_S x y=dJ (x==y):=
 zHT (t:=zSs) (body:=zWz x y) rfl (fun _=>rfl) (by grind) fun _ hu _ _=>zKe (h.mem hu)
theorem zGq{x y:List (List (List Int))}(h:S3 x):zTX x y=dJ (x==y):=
 zHT (t:=f_S) (body:=zSt x y) rfl (fun _=>rfl) (by grind) fun _ hu _ _=>zAJ (h.mem hu)
def m1(k:Int)(x:List Int):List Int:=mkL (fun k _=>k) (fun _=>1) k x
def m2(k:Int)(x:List (List Int)):List (List Int):=mkL m1 c1 k x
def m3(k:Int)(x:List (List (List Int))):List (List (List Int)):=mkL m2 (sm c1) k x
theorem zLJ{α:Type}:∀xs:List α,sm (fun _=>1) xs=xs.length
 | []=>rfl
 |x::xs=>by simp[sm,zLJ xs];omega
theorem zGr{x:List Int}{k:Int}(h:S1 x)(k0:0≤k)(k1:k+c1 x≤9223372036854775807):zOZ x k=dJ (k+c1 x,m1 k x):=by have h1:=zLJ x;have:=zEx (m:=fun k _=>k) (c:=fun _=>1) (t:=fun v k=>(rng (k+1)).bind fun v2=>dJ (v2,k)) (body:=zOc) (xs:=x) (k:=k) (by grind[zOc]) h.len k0 (by grind) (by grind[zE]);unfold zOZ;rw[this,bs,h1];rfl
theorem jP{x:List (List Int)}{k:Int}(h:S2 x)(k0:0≤k)(k1:k+sm c1 x≤9223372036854775807):f_N x k=dJ (k+sm c1 x,m2 k x):=by unfold f_N;rw[zEx (body:=zW0) (m:=m1) (c:=c1) (t:=zOZ) (fun _=>rfl) h.len k0 k1 fun y hy _ h1 h2=>zGr (h.mem hy) h1 h2,bs];rfl
theorem zDF{x:List (List (List Int))}{k:Int}(h:S3 x)(k0:0≤k)(k1:k+sm (sm c1) x≤9223372036854775807):zSv x k=dJ (k+sm (sm c1) x,m3 k x):=by unfold zSv;rw[zEx (body:=zSu) (m:=m2) (c:=sm c1) (t:=f_N) (fun _=>rfl) h.len k0 k1 fun y hy _ h1 h2=>jP (h.mem hy) h1 h2,bs];rfl
theorem zGs{x:List Int}{k:Int}(h:S1 x)(k0:0≤k)(k1:k+c1 x≤9223372036854775807):f_Z (m1 k x) k=dJ (k+c1 x):=by
 have hl:=h.len;have a6:(m1 k x).length=x.length:=uD _ _ _ _;have:=zO (body:=zSw (m1 k x)) (r:=.inl (k+c1 x)) (fun i=>(k+(i:Int),(i:Int))) x.length (fun i hi=>by
  have hg:(m1 k x)[i]'(by omega)=k+sm (fun _=>1) (x.take i):=zN9 _ _ hi _;unfold zSw;rw[dP (by omega),zJ,kK (by rw[a6];exact hi),bs,hg,zLJ,Jr,Li (by omega),show(k+(i:Int) != k+(i:Int))=dM from by simp,zK,zE (by omega) (by grind),bs,zE (by omega) (by omega),bs,cs]
  grind) (by
  unfold zSw
  grind)
 unfold f_Z
 grind
theorem zBO{x:List (List Int)}{k:Int}(h:S2 x)(k0:0≤k)(k1:k+sm c1 x≤9223372036854775807):zPb (m2 k x) k=dJ (k+sm c1 x):=
 zHU (body:=zSx (m2 k x)) (m:=m1) (c:=c1) (t:=f_Z) rfl (fun _=>rfl) h.len k0 k1 fun _ hy _ h1 h2=>zGs (h.mem hy) h1 h2
theorem zIT{x:List (List (List Int))}{k:Int}(h:S3 x)(k0:0≤k)(k1:k+sm (sm c1) x≤9223372036854775807):zW1 (m3 k x) k=dJ (k+sm (sm c1) x):=
 zHU (body:=zSy (m3 k x)) (m:=m2) (c:=sm c1) (t:=zPb) rfl (fun _=>rfl) h.len k0 k1 fun _ hy _ h1 h2=>zBO (h.mem hy) h1 h2
def zNA(x:SPr):Prop:=VL VI x.zA∧VL (VL VI) x.zU∧VL (VL (VL VI)) x.zD
def zTt(x:zC):Prop:=VI x.Prime∧VI x.Dim∧VL (VL (VL VI)) x.zI
def zKf(x:SPr):Nat:=c1 x.zA+c2 x.zU+c3 x.zD
def zQ9(x:zC):Nat:=c3 x.zI
def sX(x:SPr):Prop:=S1 x.zA∧S2 x.zU∧S3 x.zD
def zGt(x:zC):Prop:=S3 x.zI
theorem zKg{a b:Nat}{n:Int}:(szR a n<0∧szR (a+b) n= -1)∨(0≤szR a n∧szR a n≤n∧szR b (szR a n)=szR (a+b) n∧(a:Int)≤n)∨n<0:=by unfold szR;omega
theorem zGu{x:SPr}{b:Int}(h:zNA x)(b0:0≤b)(b1:b≤1048576):zTG x b=dJ (szR (zKf x) b):=by
 obtain⟨h1,h2,h3⟩:=h;unfold zTG zKf;rw[zKc h1.1 b0 b1,bs];rcases zKg (a:=c1 x.zA) (b:=c2 x.zU+c3 x.zD) (n:=b)with⟨g1,g2⟩|⟨g1,g2,g3,g4⟩|g1
 ·grind
 ·rw[dO (by omega),zK,zCm h2 g1 (by omega),bs,Nat.add_assoc,←g3]
  generalize szR (c1 x.zA) b=b' at g1 g2
  rcases zKg (a:=c2 x.zU) (b:=c3 x.zD) (n:=b')with⟨k1,k2⟩|⟨k1,k2,k3,k4⟩|k1
  ·grind
  ·rw[dO (by omega),zK,zGo h3 k1 (by omega),bs,←k3]
   generalize szR (c2 x.zU) b'=b'' at k1 k2
   unfold szR
   grind
  ·omega
 ·omega
theorem zQA{x:zC}{b:Int}(h:zTt x)(b0:0≤b)(b1:b≤1048576):zTH x b=dJ (szR (zQ9 x) b):=by
 obtain⟨_,_,h3⟩:=h;unfold zTH zQ9;rw[zGo h3 b0 b1,bs];unfold szR
 grind
theorem zFs{c:Nat}{b:Int}(b0:0≤b)(b1:b≤1048576):(decide (szR c b<0)=dL)∨(decide (szR c b<0)=dM∧0≤szR c b∧szR c b≤1048576∧c≤1048576):=by
 unfold szR
 grind
theorem sX.of{x:SPr}(h:zKf x≤1048576):sX x:=by unfold zKf at h;exact⟨by omega,by omega,by omega⟩
theorem zGt.of{x:zC}(h:zQ9 x≤1048576):zGt x:=h
theorem zGv{x:SPr}(h:sX x):zM0 x=dJ x:=by unfold zM0;rw[zKd h.1,bs,zCn h.2.1,bs,zGp h.2.2,bs]
theorem zQB{x:zC}(h:zGt x):zM1 x=dJ x:=by unfold zM1;rw[zGp h,bs]
theorem zQC{x:zC}(h:zGt x):zTY x x=dJ dL:=by unfold zTY;rw[zGq h,bs];simp
theorem zAd{x:SPr}(h:sX x):zOY x x=dJ dL:=by unfold zOY;rw[zKe h.1,bs,zAJ h.2.1,bs,zGq h.2.2,bs];simp
theorem zDd{x:List (List Int)}:sm c1 x≤c2 x:=by simp
theorem zNB{α:Type}{f g:α→Nat}(h:∀x,f x≤g x):∀xs:List α,sm f xs≤sm g xs
 | []=>Jf _
 |x::xs=>by have:=zNB h xs;grind[sm]
theorem zLK{x:List (List (List Int))}:sm (sm c1) x≤c3 x:=by
 have:=zNB (f:=sm c1) (g:=c2) (fun _=>zDd) x
 grind
theorem zLL{x:zC}{k:Int}(h:zGt x)(k0:0≤k)(k1:k≤1000000000):zTZ x k=dJ (k+sm (sm c1) x.zI,zC.mk x.Prime x.Dim (m3 k x.zI)):=by
 have g3:=zLK (x:=x.zI);have h':=h;simp only[zGt,S3]at h'
 grind[zTZ,zDF]
end Go.Pl

namespace Go.Pl
open Go Go.Ab Go.Wk
def IsB(o:Option Bool)(P:Prop):Prop:=(o=dJ dL∧P)∨(o=dJ dM∧ ¬P)
theorem IsB.iff{o:Option Bool}{P Q:Prop}(h:IsB o P)(hpq:P↔Q):IsB o Q:=by grind
theorem IsB.of_bool{b:Bool}{P:Prop}(h:b=dL↔P):IsB (dJ b) P:=by
 cases b
 ·exact .inr (by grind)
 ·exact .inl ⟨rfl,h.1 rfl⟩
theorem chk{ρ:Type}{body:Int→Option (Int⊕(Unit⊕ρ))}(n i0:Nat)(hn:i0≤n)(P:Nat→Prop)(bad:Nat→ρ)
  (h:∀i,i0≤i→i<n→(∀j,i0≤j→j<i→P j)→(body (i:Int)=dJ (.inl ((i+1:Nat):Int))∧P i)∨(body (i:Int)=dJ (.inr (.inr (bad i)))∧ ¬P i))
  (he:body (n:Int)=dJ (.inr (.inl ()))):
  (zH body (i0:Int)=dJ (.inl ())∧ ∀j,i0≤j→j<n→P j)∨ ∃i,i0≤i∧i<n∧zH body (i0:Int)=dJ (.inr (bad i))∧ ¬P i:=by
 have key:∀k i,i0≤i→i+k=n→(∀j,i0≤j→j<i→P j)→(zH body (i:Int)=dJ (.inl ())∧ ∀j,i0≤j→j<n→P j)∨ ∃q,i0≤q∧q<n∧zH body (i:Int)=dJ (.inr (bad q))∧ ¬P q:=by
  intro k
  induction k with
  |zero=>
   intro i hi hk hp;obtain rfl:i=n:=by omega
   grind[xE]
  |succ k ih=>
   intro i hi hk hp;rcases h i hi (by omega) hp with⟨h1,h2⟩|⟨h1,h2⟩
   ·have:=ih (i+1) (by omega) (by omega) (by grind)
    rw[xE,h1];exact this
   grind[xE]
 exact key (n-i0) i0 (Jf _) (by omega) fun j a b=>by omega
theorem sG{f:Option Bool}{body:Int→Option (Int⊕(Unit⊕Bool))}(n:Nat)(P:Nat→Prop)
  (hf:f=(zH body 0).bind fun r=>match r with|.inl _=>dJ dL|.inr r=>dJ r)
  (h:∀i,i<n→(∀j,j<i→P j)→(body (i:Int)=dJ (.inl ((i+1:Nat):Int))∧P i)∨(body (i:Int)=dJ (.inr (.inr dM))∧ ¬P i))
  (he:body (n:Int)=dJ (.inr (.inl ()))):IsB f (∀i,i<n→P i):=by
 rcases chk n 0 (Jy _) P (fun _=>dM) (fun i _ hi hp=>h i hi fun j hj=>hp j (Jy _) hj) he with⟨h1,h2⟩|⟨i,_,hi,h1,h2⟩
 ·refine .inl ⟨?_,fun i hi=>h2 i (Jy _) hi⟩
  rw[hf];rw[show((0:Nat):Int)=0 from rfl]at h1;rw[h1,bs]
 ·refine .inr ⟨?_,fun hp=>h2 (hp i hi)⟩
  rw[hf];rw[show((0:Nat):Int)=0 from rfl]at h1;rw[h1,bs]
theorem vZ{o:Option Bool}{P:Prop}{ρ:Type}{bad:ρ}{i:Nat}{g:Option (Int⊕(Unit⊕ρ))}(h:IsB o P)(hi:i<9223372036854775807)
  (hg:g=o.bind fun r=>cond (!r) (dJ (.inr (.inr bad))) ((rng ((i:Int)+1)).bind fun v=>dJ (.inl v))):(g=dJ (.inl ((i+1:Nat):Int))∧P)∨(g=dJ (.inr (.inr bad))∧ ¬P):=by
 subst hg;rcases h with⟨h1,h2⟩|⟨h1,h2⟩
 ·refine .inl ⟨?_,h2⟩
  rw[h1,bs,J9,zK,zE (by omega) (by omega),bs,cs]
 grind
theorem yN{i n:Nat}(h:i<n):decide ((i:Int)<(n:Int))=dL:=by grind
theorem vC{n:Nat}:decide ((n:Int)<(n:Int))=dM:=by simp
theorem jQ(x a b:Int):IsB (zM5 x a b) (a≤x∧x≤b):=by
 unfold zM5
 by_cases h:x≥a
 ·rw[dP h,zJ];grind[IsB.of_bool]
 ·rw[dO h,zK];exact .inr ⟨rfl,by omega⟩
theorem zBP(x a b:Int):IsB (zRz x a b) (a≤x∧x≤b):=jQ x a b
def Prime(p:Int):Prop:=p=2∨p=3∨p=5∨p=7
theorem zBh(x:Int):IsB (zOV x) (Prime x):=by
 unfold zOV Prime
 by_cases h2:x=2
 ·subst h2;exact .inl ⟨rfl,.inl rfl⟩
 ·rw[show(x==2)=dM from by grind,zK]
  by_cases h3:x=3
  ·subst h3;exact .inl (by simp)
  ·rw[show(x==3)=dM from by grind,zK]
   by_cases h5:x=5
   ·subst h5;exact .inl (by simp)
   ·rw[show(x==5)=dM from by grind,zK]
    grind[IsB.of_bool]
theorem zGw(x:Int):IsB (zTI x) (Prime x):=zBh x
abbrev at0(v:List Int)(i:Nat):Int:=v.getD i 0
theorem yG{v:List Int}{i:Nat}(h:i<v.length):ixO v (i:Int)=dJ (at0 v i):=by rw[kK h,at0,J3,J4 h];rfl
def zXV(os v:List Int):Prop:=v.length=os.length∧ ∀i,i<v.length→0≤at0 v i∧at0 v i≤at0 os i-1
def Exp(os v:List Int)(k:Nat):Prop:=zXV os v∧ ∀i,i≤k→at0 v i=0
def Os(os:List Int):Prop:=os.length≤9∧ ∀i,i<os.length→Prime (at0 os i)
theorem Prime.pos{p:Int}(h:Prime p):2≤p∧p≤7:=by unfold Prime at h;omega
theorem zEy{x:SPr}{v:List Int}(ho:Os x.zA):IsB (zTQ x v) (zXV x.zA v):=by
 unfold zTQ
 by_cases h:v.length=x.zA.length
 ·rw[show((v.length:Int) != (x.zA.length:Int))=dM from by simp[h],zK]
  have h6:=ho.1;refine(sG v.length (fun i=>0≤at0 v i∧at0 v i≤at0 x.zA i-1) rfl (fun i hi _=>?_) ?_).iff ⟨fun g=>⟨h,g⟩,fun g=>g.2⟩
  ·have hp:=(ho.2 i (by omega)).pos
   refine vZ (jQ _ _ _) (by omega) ?_;unfold zOa;rw[yN hi,zJ,yG hi,bs,yG (by omega),bs,zE (by omega) (by omega),bs]
  ·unfold zOa
   simp
 ·rw[show((v.length:Int) != (x.zA.length:Int))=dL from by simp;omega,zJ]
  exact .inr ⟨rfl,fun g=>h g.1⟩
theorem zKh{v:List Int}(hl:v.length≤9):IsB (f_D v) (∀i,i<v.length→at0 v i=0):=by
 refine sG v.length (fun i=>at0 v i=0) rfl (fun i hi _=>?_) ?_
 ·refine vZ (o:=dJ (at0 v i==0)) (IsB.of_bool (by simp)) (by omega) ?_
  unfold zKS;rw[yN hi,zJ,yG hi,bs,bs];rfl
 ·unfold zKS
  simp
theorem zBy{x:SPr}{k:Nat}{v:List Int}(ho:Os x.zA)(hk:k<x.zA.length):IsB (zRL x k v) (Exp x.zA v k):=by
 have h6:=ho.1;unfold zRL;rcases zEy (v:=v) ho with⟨h1,h2⟩|⟨h1,h2⟩
 ·have hl:=h2.1
  rw[h1,bs,zJ,zE (by omega) (by omega),bs];have hs:zW v 0 ((k:Int)+1)=dJ (v.take (k+1)):=by
   unfold zW
   grind
  rw[hs,bs];have hb:=zKh (v:=v.take (k+1)) (by grind);have cI:(∀i,i<(v.take (k+1)).length→at0 (v.take (k+1)) i=0)↔Exp x.zA v k:=by
   have e:∀i,i≤k→at0 (v.take (k+1)) i=at0 v i:=by grind
   rw[Jr,Li (by omega)];exact⟨fun g=>⟨h2,by grind⟩,fun g i hi=>by rw[e i (by omega)];exact g.2 i (by omega)⟩
  grind
 ·rw[h1,bs,zK]
  exact .inr ⟨rfl,fun g=>h2 g.1⟩
theorem zBQ{os v:List Int}{k:Nat}(ho:Os os)(hk:k<os.length):IsB (zR0 os v k) (Exp os v k):=by
 have h6:=ho.1;unfold zR0
 by_cases h:v.length=os.length
 ·rw[show((v.length:Int) != (os.length:Int))=dM from by simp[h],zK]
  refine(sG v.length (fun i=>(0≤at0 v i∧at0 v i≤at0 os i-1)∧(i≤k→at0 v i=0)) rfl (fun i hi _=>?_) ?_).iff ⟨fun g=>⟨⟨h,by grind⟩,by grind⟩,fun g i hi=>⟨g.1.2 i hi,fun hk=>g.2 i hk⟩⟩
  ·have hp:=(ho.2 i (by omega)).pos
   unfold zNW;rw[yN hi,zJ,yG hi,bs,yG (by omega),bs,zE (by omega) (by omega),bs];rcases zBP (at0 v i) 0 (at0 os i-1)with⟨h1,h2⟩|⟨h1,h2⟩
   ·rw[h1,bs,J9,zK]
    by_cases h3:(i:Int)≤(k:Int)
    ·rw[dP h3,zJ,bs]
     by_cases h4:at0 v i=0
     ·rw[show(at0 v i != 0)=dM from by grind,zK,zE (by omega) (by omega),bs,cs]
      grind
     grind
    ·rw[dO h3,zK,zE (by omega) (by omega),bs,cs]
     grind
   grind
  ·unfold zNW
   simp
 ·rw[show((v.length:Int) != (os.length:Int))=dL from by simp;omega,zJ]
  exact .inr ⟨rfl,fun g=>h g.1.1⟩
end Go.Pl

namespace Go.Pl
open Go Go.Ab Go.Wk
theorem zYN{σ ρ:Type}{body:σ→Option (σ⊕(Unit⊕ρ))}(S:Nat→σ)(n i0:Nat)(hn:i0≤n)(P:Nat→Prop)(bad:Nat→ρ)
  (h:∀i,i0≤i→i<n→(∀j,i0≤j→j<i→P j)→(body (S i)=dJ (.inl (S (i+1)))∧P i)∨(body (S i)=dJ (.inr (.inr (bad i)))∧ ¬P i))
  (he:body (S n)=dJ (.inr (.inl ()))):
  (zH body (S i0)=dJ (.inl ())∧ ∀j,i0≤j→j<n→P j)∨ ∃i,i0≤i∧i<n∧zH body (S i0)=dJ (.inr (bad i))∧ ¬P i:=by
 have key:∀k i,i0≤i→i+k=n→(∀j,i0≤j→j<i→P j)→(zH body (S i)=dJ (.inl ())∧ ∀j,i0≤j→j<n→P j)∨ ∃q,i0≤q∧q<n∧zH body (S i)=dJ (.inr (bad q))∧ ¬P q:=by
  intro k
  induction k with
  |zero=>
   intro i hi hk hp;obtain rfl:i=n:=by omega
   grind[xE]
  |succ k ih=>
   intro i hi hk hp;rcases h i hi (by omega) hp with⟨h1,h2⟩|⟨h1,h2⟩
   ·have:=ih (i+1) (by omega) (by omega) (by grind)
    rw[xE,h1];exact this
   grind[xE]
 exact key (n-i0) i0 (Jf _) (by omega) fun j a b=>by omega
theorem qS{a b:Int}(h:a=b):(a != b)=dM:=by simp[h]
theorem sY{a b:Int}(h:a≠b):(a != b)=dL:=by simp[h]
def pr(os:List Int):Nat→Int
 |0=>1
 |i+1=>pr os i*at0 os i
def cp(os:List Int):Nat→Int
 |0=>1
 |i+1=>if cp os i≤729 then cp os i*at0 os i else cp os i
theorem zGx{os:List Int}:∀{i:Nat},(∀j,j<i→Prime (at0 os j))→1≤pr os i
 |0,_=>by simp[pr]
 |i+1,h=>by have h1:=zGx (os:=os) (i:=i) (by grind);have h2:=(h i (by omega)).pos;simp only[pr];have:(1:Int)*1≤pr os i*at0 os i:=L7 h1 (by omega) (by omega) (by omega);omega
theorem zNC{os:List Int}{i:Nat}(h:∀j,j≤i→Prime (at0 os j)):pr os i≤pr os (i+1):=by have h1:=zGx (os:=os) (i:=i) (by grind);have h2:=(h i (Jf _)).pos;simp only[pr];have:pr os i*1≤pr os i*at0 os i:=He (by omega) (by omega);omega
theorem zND{os:List Int}{n:Nat}(h:∀j,j<n→Prime (at0 os j)):∀k,k≤n→pr os (n-k)≤pr os n
 |0,_=>Int.le_refl _
 |k+1,hk=>by
  have h1:=zND h k (by omega);have h2:=zNC (os:=os) (i:=n-(k+1)) (by grind)
  grind
theorem zQD{os:List Int}:∀{i:Nat},(∀j,j<i→Prime (at0 os j))→(cp os i=pr os i∧pr os i≤729∨729<cp os i∧cp os i≤5103∧729<pr os i)
 |0,_=>by simp[cp,pr]
 |i+1,h=>by
  have h0:∀j,j<i→Prime (at0 os j):=by grind
  have h2:=(h i (by omega)).pos;have h3:=zNC (os:=os) (i:=i) (by grind);have d7:=zGx h0;simp only[cp];rcases zQD h0 with⟨h1,h4⟩|⟨h1,h4,h5⟩
  ·rw[h1,if_pos h4]
   have h6:pr os i*at0 os i≤729*7:=L7 h4 h2.2 (by omega) (by omega);simp only[pr]at h3 ⊢
   grind
  omega
def zEU(x:SPr)(i:Nat):Prop:=Exp x.zA (x.zU.getD i []) i∧(x.zD.getD i []).length+i+1=x.zA.length∧ ∀j,j<(x.zD.getD i []).length→Exp x.zA ((x.zD.getD i []).getD j []) i
structure zCB (x:SPr):Prop where
 os:True∧ ∀i,i<x.zA.length→Prime (at0 x.zA i)
 pl:x.zU.length=x.zA.length
 cl:x.zD.length=x.zA.length
 tl:∀i,i<x.zA.length→zEU x i
structure Pres (x:SPr):Prop where
 os:Os x.zA
 pl:x.zU.length=x.zA.length
 cl:x.zD.length=x.zA.length
 tl:∀i,i<x.zA.length→zEU x i
theorem Pres.w{x:SPr}(h:Pres x):zCB x:=⟨⟨trivial,h.os.2⟩,h.pl,h.cl,h.tl⟩
structure zEV (x:SPr):Prop extends Pres x where
 n6:x.zA.length≤6
 pr:pr x.zA x.zA.length≤729
theorem yE{α:Type}{v:List α}{i:Nat}(d:α)(h:i<v.length):ixO v (i:Int)=dJ (v.getD i d):=by grind[kK]
theorem zLM{x:SPr}(ho:Os x.zA)(hp:x.zU.length=x.zA.length)(hc:x.zD.length=x.zA.length){i:Nat}(hi:i<x.zA.length):
  (zM7 x i=dJ (.inl ((i+1:Nat):Int))∧zEU x i)∨(zM7 x i=dJ (.inr (.inr dM))∧ ¬zEU x i):=by
 have h6:=ho.1;unfold zM7;rw[yN hi,zJ,yE [] (by omega),bs];rcases zBy (v:=x.zU.getD i []) ho hi with⟨h1,h2⟩|⟨h1,h2⟩
 ·rw[h1,bs,J9,zK,yE [] (by omega),bs,zE (by omega) (by omega),bs,zE (by omega) (by omega),bs]
  by_cases hl:(x.zD.getD i []).length+i+1=x.zA.length
  ·rw[qS (by omega),zK,bs]
   rcases chk (body:=zRM x i (x.zD.getD i [])) (x.zD.getD i []).length 0 (Jy _) (fun j=>Exp x.zA ((x.zD.getD i []).getD j []) i) (fun _=>dM) (fun j _ hj _=>by
     refine vZ (zBy ho hi) (by omega) ?_;unfold zRM;rw[yN hj,zJ,yE [] hj,bs]) (by
     unfold zRM;simp)with⟨g1,g2⟩|⟨j,_,hj,g1,g2⟩
   ·rw[show((0:Nat):Int)=0 from rfl]at g1
    rw[g1,bs];simp only
    rw[zE (by omega) (by omega),bs,cs];exact .inl ⟨rfl,h2,hl,by grind⟩
   ·rw[show((0:Nat):Int)=0 from rfl]at g1
    rw[g1,bs];exact .inr ⟨rfl,fun g=>g2 (g.2.2 j hj)⟩
  ·rw[sY (by omega),zJ]
   exact .inr ⟨rfl,fun g=>hl g.2.1⟩
 ·rw[h1,bs,Ju,zJ]
  exact .inr ⟨rfl,fun g=>h2 g.1⟩
theorem zLN{x:SPr}(ho:Os x.zA)(hp:x.zU.length=x.zA.length)(hc:x.zD.length=x.zA.length){i:Nat}(hi:i<x.zA.length):
  (zM2 x i=dJ (.inl ((i+1:Nat):Int))∧zEU x i)∨(zM2 x i=dJ (.inr (.inr dM))∧ ¬zEU x i):=by
 have h6:=ho.1;unfold zM2;rw[yN hi,zJ,yE [] (by omega),bs];rcases zBQ (v:=x.zU.getD i []) ho hi with⟨h1,h2⟩|⟨h1,h2⟩
 ·rw[h1,bs,J9,zK,yE [] (by omega),bs,zE (by omega) (by omega),bs,zE (by omega) (by omega),bs]
  by_cases hl:(x.zD.getD i []).length+i+1=x.zA.length
  ·rw[qS (by omega),zK]
   rcases chk (body:=zR2 x i) (x.zD.getD i []).length 0 (Jy _) (fun j=>Exp x.zA ((x.zD.getD i []).getD j []) i) (fun _=>dM) (fun j _ hj _=>by
     refine vZ (zBQ ho hi) (by omega) ?_;unfold zR2;rw[yE [] (by omega),bs,yN hj,zJ,bs,yE [] hj,bs]) (by
     unfold zR2;rw[yE [] (by omega),bs,vC,zK])with⟨g1,g2⟩|⟨j,_,hj,g1,g2⟩
   ·rw[show((0:Nat):Int)=0 from rfl]at g1
    rw[g1,bs];simp only
    rw[zE (by omega) (by omega),bs,cs];exact .inl ⟨rfl,h2,hl,by grind⟩
   ·rw[show((0:Nat):Int)=0 from rfl]at g1
    rw[g1,bs];exact .inr ⟨rfl,fun g=>g2 (g.2.2 j hj)⟩
  ·rw[sY (by omega),zJ]
   exact .inr ⟨rfl,fun g=>hl g.2.1⟩
 ·rw[h1,bs,Ju,zJ]
  exact .inr ⟨rfl,fun g=>h2 g.1⟩
theorem zKi{x:SPr}(h6:x.zA.length≤6):
  (zH (zM6 x) (1,0)=dJ (.inl ())∧Os x.zA∧pr x.zA x.zA.length≤729)∨(zH (zM6 x) (1,0)=dJ (.inr dM)∧ ¬(Os x.zA∧pr x.zA x.zA.length≤729)):=by
 rcases zYN (body:=zM6 x) (fun i=>(pr x.zA i,(i:Int))) x.zA.length 0 (Jy _) (fun i=>Prime (at0 x.zA i)∧pr x.zA (i+1)≤729) (fun _=>dM) (fun i _ hi bG=>by
   have hp:∀j,j<i→Prime (at0 x.zA j):=by grind
   have d7:=zGx hp;have eQ:pr x.zA i≤729:=by
    cases i with
    |zero=>simp[pr]
    |succ i=>grind
   unfold zM6;rw[yN hi,zJ,yG hi,bs];rcases zBh (at0 x.zA i)with⟨h1,h2⟩|⟨h1,h2⟩
   ·have h3:=h2.pos
    have h4:pr x.zA i*at0 x.zA i≤729*7:=L7 eQ h3.2 (by omega) (by omega);have h5:1*1≤pr x.zA i*at0 x.zA i:=L7 d7 (by omega) (by omega) (by omega);simp only
    rw[h1,bs,J9,zK,zE (by omega) (by omega),bs]
    by_cases h7:pr x.zA i*at0 x.zA i> 729
    ·rw[dP h7,zJ]
     exact .inr ⟨rfl,by grind[pr]⟩
    ·rw[dO h7,zK,bs,zE (by omega) (by omega),bs,cs]
     exact .inl ⟨rfl,h2,by grind[pr]⟩
   grind) (by
   unfold zM6;simp)with⟨g1,g2⟩|⟨i,_,hi,g1,g2⟩
 ·refine .inl ⟨g1,⟨by omega,by grind⟩,?_⟩
  cases hn:x.zA.length with
  |zero=>simp[pr]
  |succ n=>grind
 ·refine .inr ⟨g1,fun⟨h1,h2⟩=>g2 ⟨h1.2 i hi,?_⟩⟩
  have:=zND (os:=x.zA) (n:=x.zA.length) h1.2 (x.zA.length-(i+1)) (by omega)
  grind
theorem zIU{os:List Int}(ho:Os os):zTJ os=dJ (cp os os.length):=by
 have h6:=ho.1;unfold zTJ;rw[show(1,0)=(fun i=>(cp os i,(i:Int))) 0 from rfl,zO (body:=zKP os) (r:=cp os os.length) (fun i=>(cp os i,(i:Int))) os.length (fun i hi=>by
  have hp:=(ho.2 i hi).pos;have hc:=zQD (os:=os) (i:=i) fun j hj=>ho.2 j (by omega)
  have d7:=zGx (os:=os) (i:=i) fun j hj=>ho.2 j (by omega)
  unfold zKP;rw[yN hi,zJ];simp only[cp]
  by_cases h:cp os i≤729
  ·have h4:cp os i*at0 os i≤729*7:=L7 h hp.2 (by omega) (by omega)
   have h5:1*1≤cp os i*at0 os i:=L7 (by omega) (by omega) (by omega) (by omega);rw[dP h,zJ,yG hi,bs,zE (by omega) (by omega),bs,zE (by omega) (by omega),bs,cs,if_pos h]
  ·rw[dO h,zK,zE (by omega) (by omega),bs,cs,if_neg h]) (by
  unfold zKP;simp),bs]
theorem sH{x:SPr}(hl:x.zA.length≤1048576):IsB (f_p x) (zEV x):=by
 unfold f_p
 by_cases h6:x.zA.length≤6
 ·rw[dO (by omega),zK]
  by_cases hp:x.zU.length=x.zA.length
  ·rw[qS (by omega),zK]
   by_cases hc:x.zD.length=x.zA.length
   ·rw[qS (by omega),zK]
    rcases zKi h6 with⟨h1,h2,h3⟩|⟨h1,h2⟩
    ·rw[h1,bs]
     exact(sG (f:=(zH (zM7 x) 0).bind fun r=>match r with|.inl _=>dJ dL|.inr r=>dJ r) x.zA.length (zEU x) rfl (by grind[zLM]) (by unfold zM7;simp)).iff ⟨fun g=>⟨⟨h2,hp,hc,g⟩,h6,h3⟩,fun g=>g.tl⟩
    ·rw[h1,bs]
     exact .inr ⟨rfl,fun g=>h2 ⟨g.os,g.pr⟩⟩
   ·rw[sY (by omega),zJ]
    exact .inr ⟨rfl,fun g=>hc g.cl⟩
  ·rw[sY (by omega),zJ]
   exact .inr ⟨rfl,fun g=>hp g.pl⟩
 ·rw[dP (by omega),zJ]
  exact .inr ⟨rfl,fun g=>h6 g.n6⟩
theorem sJ{x:SPr}(hl:x.zA.length≤1048576):IsB (f_t x) (zEV x):=by
 unfold f_t
 by_cases h6:x.zA.length≤6
 ·rw[dO (by omega),zK]
  by_cases hp:x.zU.length=x.zA.length
  ·rw[qS (by omega),zK]
   by_cases hc:x.zD.length=x.zA.length
   ·rw[qS (by omega),zK]
    rcases chk (body:=zR1 x) x.zA.length 0 (Jy _) (fun i=>Prime (at0 x.zA i)) (fun _=>dM) (fun i _ hi _=>by
      refine vZ (zGw _) (by omega) ?_;unfold zR1;rw[yN hi,zJ,yG hi,bs]) (by
      unfold zR1;simp)with⟨g1,g2⟩|⟨i,_,hi,g1,g2⟩
    ·rw[show((0:Nat):Int)=0 from rfl]at g1
     have ho:Os x.zA:=⟨by omega,by grind⟩;have hcp:=zQD (os:=x.zA) (i:=x.zA.length) ho.2;rw[g1,bs];simp only
     rw[zIU ho,bs]
     by_cases h7:cp x.zA x.zA.length> 729
     ·rw[dP h7,zJ]
      exact .inr ⟨rfl,fun g=>by have:=g.pr;omega⟩
     ·rw[dO h7,zK]
      exact(sG (f:=(zH (zM2 x) 0).bind fun r=>match r with|.inl _=>dJ dL|.inr r=>dJ r) x.zA.length (zEU x) rfl (by grind[zLN]) (by unfold zM2;simp)).iff ⟨fun g=>⟨⟨ho,hp,hc,g⟩,h6,by omega⟩,fun g=>g.tl⟩
    ·rw[show((0:Nat):Int)=0 from rfl]at g1
     rw[g1,bs];exact .inr ⟨rfl,fun g=>g2 (g.os.2 i hi)⟩
   ·rw[sY (by omega),zJ]
    exact .inr ⟨rfl,fun g=>hc g.cl⟩
  ·rw[sY (by omega),zJ]
   exact .inr ⟨rfl,fun g=>hp g.pl⟩
 ·rw[dP (by omega),zJ]
  exact .inr ⟨rfl,fun g=>h6 g.n6⟩
end Go.Pl

namespace Go.Pl
open Go Go.Ab Go.Wk Go.Pc
def lvl(x:SPr)(i:Nat):Lvl:=⟨at0 x.zA i,(x.zU.getD i []).drop (i+1),(x.zD.getD i []).map (·.drop (i+1))⟩
def suf(x:SPr)(k:Nat):Pcp:=(Un k (x.zA.length-k)).map (lvl x)
theorem xK(x:SPr)(k:Nat):(suf x k).length=x.zA.length-k:=by simp[suf]
theorem yL{x:SPr}{k:Nat}(h:k<x.zA.length):suf x k=lvl x k::suf x (k+1):=by unfold suf;rw[show x.zA.length-k=(x.zA.length-(k+1))+1 from by omega,Jb2,Jm]
theorem uH{x:SPr}{k:Nat}(h:x.zA.length≤k):suf x k=[]:=by unfold suf;rw[show x.zA.length-k=0 from by omega];rfl
theorem zAK{os v:List Int}{k:Nat}(h:Exp os v k)(hk:k<os.length):v=zeros (k+1)++v.drop (k+1):=by
 have h1:=h.1.1;apply K9;intro i;rw[Kb];simp only[zeros,K2,K3,H0];split
 ·rename_i hi
  have h2:=h.2 i (by omega);rw[J4 (by omega)];rw[at0,J3,J4 (by omega)]at h2;simpa using h2
 ·rw[show k+1+(i-(k+1))=i from by omega]
theorem zVQ{x:SPr}:∀(d k:Nat)(v:List Int),k+d=x.zA.length→v.length=d→(∀i,i<d→0≤at0 v i∧at0 v i≤at0 x.zA (k+i)-1)→V (suf x k) v
 |0,k,v,hk,hv,_=>by rw[uH (by omega)];simpa[V]using hv
 |d+1,k,v,hk,hv,h=>by
  rw[yL (by omega)]
  match v,hv with
  |a::v,hv=>
   have h0:=h 0 (by omega);simp only[at0,U7,Gt]at h0;refine⟨⟨h0.1,by simp only[lvl,at0];omega⟩,zVQ d (k+1) v (by omega) (by simpa using hv) fun i hi=>?_⟩;have:=h (i+1) (by omega);simp only[at0,Qx]at this;rw[show k+1+i=k+(i+1)from by omega];exact this
theorem zHV{x:SPr}{v:List Int}{k:Nat}(h:Exp x.zA v k)(hk:k<x.zA.length):V (suf x (k+1)) (v.drop (k+1)):=by
 have h1:=h.1.1;refine zVQ (x.zA.length-(k+1)) (k+1) _ (by omega) (by rw[Ki];omega) fun i hi=>?_
 have:=h.1.2 (k+1+i) (by omega);have e:at0 (v.drop (k+1)) i=at0 v (k+1+i):=by simp only[at0,J3,H0]
 rw[e];exact this
theorem zCB.ok{x:SPr}(h:zCB x):∀(d k:Nat),k+d=x.zA.length→Pc.Ok (suf x k)
 |0,k,hk=>by rw[uH (by omega)];simp only[Pc.Ok]
 |d+1,k,hk=>by
  rw[yL (by omega)];obtain⟨t1,t2,t3⟩:=h.tl k (by omega);refine⟨by simp only[lvl];have:=(h.os.2 k (by omega)).pos;omega,zHV t1 (by omega),?_,fun c hc=>?_,zCB.ok h d (k+1) (by omega)⟩
  ·rw[xK];simp only[lvl,Jt];omega
  ·simp only[lvl,Jh]at hc
   obtain⟨u,hu,rfl⟩:=hc;obtain⟨j,hj,rfl⟩:=K5.1 hu;have:=t3 j hj;rw[J3,J4 hj]at this;exact zHV this (by omega)
theorem zCB.okAt{x:SPr}(h:zCB x){k:Nat}(hk:k≤x.zA.length):Pc.Ok (suf x k):=h.ok (x.zA.length-k) k (by omega)
theorem Pres.okAt{x:SPr}(h:Pres x){k:Nat}(hk:k≤x.zA.length):Pc.Ok (suf x k):=h.w.okAt hk
theorem zS(n:Nat):(zeros n).length=n:=by simp[zeros]
theorem zEW(k:Nat):zeros (k+1)=zeros k++[0]:=by simp[zeros,Jah]
theorem zCC{k:Nat}{a b:Int}{v:Vec}:(zeros k++a::v).set k b=zeros k++b::v:=by rw[Hd _ _ (by rw[zS];omega),zS,Kc,L8]
theorem zBR{k:Nat}{a:Int}{v:Vec}:ixO (zeros k++a::v) (k:Int)=dJ a:=by rw[vE,J7 (by rw[zS];omega),zS,Kc];rfl
theorem zBi{k:Nat}{v:Vec}:zeros k++0::v=zeros (k+1)++v:=by rw[zEW,Jb];rfl
theorem uA{v:List Int}(h:v.length≤1000000):f_n v=dJ v:=by unfold f_n;rw[zZ (by simp;omega),bs,K1]
end Go.Pl

namespace Go.Pl
open Go Go.Ab Go.Wk Go.Pc
theorem zAL{m:Vec→Vec→Vec}:∀(cs:List Vec)(x:Vec)(i:Nat)(acc:Vec),i<cs.length→i<x.length→
  img m (cs.take (i+1)) (x.take (i+1)) acc=iter (at0 x i).toNat (fun v=>m v (cs.getD i [])) (img m (cs.take i) (x.take i) acc)
 | [],_,_,_,h,_=>by simp at h
 |_::_,[],_,_,_,h=>by simp at h
 |c::cs,a::x,0,acc,_,_=>by rfl
 |c::cs,a::x,i+1,acc,h,h'=>by simp only[La,img,at0,Qx];exact zAL cs x i _ (by grind) (by grind)
theorem vJ{α β:Type}{body:α×Int→Option ((α×Int)⊕α)}{S:β→Prop}(e:β→α)(g:β→β)(n:Int)(hn:0≤n)(hS:∀a,S a→S (g a))
  (h:∀a(i:Nat),S a→(i:Int)<n→body (e a,(i:Int))=dJ (.inl (e (g a),((i+1:Nat):Int))))(he:∀a,S a→body (e a,n)=dJ (.inr (e a))){a:β}(ha:S a):
  zH body (e a,0)=dJ (e (iter n.toNat g a)):=by
 have eg:∀k,S (iter k g a):=fun k=>vD (S:=S) hS k ha
 exact zO (body:=body) (r:=e (iter n.toNat g a)) (fun i=>(e (iter i g a),(i:Int))) n.toNat (by grind[vV]) (by grind)
theorem zKj{k i:Nat}{v:Vec}(h:i<v.length):ixO (zeros k++v) ((k+i:Nat):Int)=dJ (at0 v i):=by rw[vE,J7 (by grind[zS]),zS,show k+i-k=i from by omega,J4 h,at0,J3,J4 h];rfl
theorem zDe{x:SPr}(ho:Os x.zA):∀(d k:Nat)(v:List Int),k+d=x.zA.length→V (suf x k) v→v.length=d∧ ∀i,i<d→0≤at0 v i∧at0 v i<at0 x.zA (k+i)∧at0 v i≤6
 |0,k,v,hk,hv=>by
  rw[uH (by omega)]at hv;simp only[V]at hv
  grind
 |d+1,k,v,hk,hv=>by
  rw[yL (by omega)]at hv
  match v,hv with
  |a::v,hv=>
   obtain⟨h1,h2⟩:=zDe ho d (k+1) v (by omega) hv.2;refine⟨by simp[h1],fun i hi=>?_⟩;cases i with
   |zero=>
    have h3:=hv.1;simp only[lvl]at h3;have:=(ho.2 k (by omega)).pos
    grind
   |succ i=>
    grind
theorem zDG{x:SPr}(h:Pres x){k i:Nat}(hk:k<x.zA.length)(hi:i<x.zA.length-(k+1)):
  ∃c,ixO x.zD (k:Int)=dJ (x.zD.getD k [])∧ixO (x.zD.getD k []) (i:Int)=dJ (zeros (k+1)++c)∧V (suf x (k+1)) c∧(lvl x k).cs.getD i []=c:=by
 obtain⟨t1,t2,t3⟩:=h.tl k hk;have hc:=h.cl
 grind[yE,zHV,zAK,lvl]
def FAt(x:SPr)(k:Nat)(g:SPr→Int→List Int→List Int→Option (List Int)):Prop:=
 ∀a b,V (suf x k) a→V (suf x k) b→g x k (zeros k++a) (zeros k++b)=dJ (zeros k++mul (suf x k) a b)
def FIm(x:SPr)(k:Nat)(g:SPr→Int→List Int→Option (List Int)):Prop:=
 ∀v,V (suf x (k+1)) v→g x k (zeros (k+1)++v)=dJ (zeros (k+1)++sig (suf x (k+1)) (lvl x k) v)
theorem zLO{x:SPr}(h:Pres x){k:Nat}(hk:k<x.zA.length){g:SPr→Int→List Int→List Int→Option (List Int)}(hg:FAt x (k+1) g):FIm x k (b_e g):=by
 intro v hv;have h6:=h.os.1;have ok:=h.okAt (k:=k+1) (by omega);obtain⟨cP,tp⟩:=zDe h.os (x.zA.length-(k+1)) (k+1) v (by omega) hv;have gm:=xK x (k+1);have gI:(lvl x k).cs.length=x.zA.length-(k+1):=by have:=h.okAt (k:=k) (by omega);rw[yL hk]at this;rw[this.2.2.1,gm]
 have gM:∀c∈(lvl x k).cs,V (suf x (k+1)) c:=by have:=h.okAt (k:=k) (by omega);rw[yL hk]at this;exact this.2.2.2.1
 have hA:∀i,V (suf x (k+1)) (img (mul (suf x (k+1))) ((lvl x k).cs.take i) (v.take i) (zeros (suf x (k+1)).length)):=fun i=>
  sS (xN ok) _ _ (by grind) (wJ ok)
 unfold b_e;rw[yR (by omega),bs,zE (by omega) (by omega),bs,cs];have hz:J1 x.zA.length (0:Int)=zeros (k+1)++zeros (suf x (k+1)).length:=by rw[gm];simp only[zeros,Je];congr 1;omega
 rw[hz];have:=zO (body:=zR4 g x k (zeros (k+1)++v)) (r:=zeros (k+1)++sig (suf x (k+1)) (lvl x k) v)
  (fun i=>(zeros (k+1)++img (mul (suf x (k+1))) ((lvl x k).cs.take i) (v.take i) (zeros (suf x (k+1)).length),((k+1+i:Nat):Int))) (x.zA.length-(k+1)) (fun i hi=>by
  have hr:=tp i hi;obtain⟨c,c1,c2,c3,c4⟩:=zDG h hk hi;unfold zR4;rw[dP (by omega),zJ];rw[vJ (S:=V (suf x (k+1))) (body:=zR3 g x k (zeros (k+1)++v) (zeros (k+1)++img (mul (suf x (k+1))) ((lvl x k).cs.take i) (v.take i) (zeros (suf x (k+1)).length),((k+1+i:Nat):Int))) (fun u=>zeros (k+1)++u) (fun u=>mul (suf x (k+1)) u c) (at0 v i) hr.1 (by grind[xN]) (fun u q hu hq=>by
   unfold zR3;simp only
   rw[zKj (by omega),bs,dP hq,zJ,zE (by omega) (by omega),bs,c1,bs,zE (by omega) (by omega),bs,zE (by omega) (by omega),bs,
    show(((k+1+i:Nat):Int)-(k:Int)-1)=(i:Int)from by omega,c2,bs,cs,hg u c hu c3,bs,zE (by omega) (by omega),bs,cs]) (fun u hu=>by
   unfold zR3;simp only
   rw[zKj (by omega),bs,dO (by omega),zK]) (hA i),bs,zE (by omega) (by omega),bs,cs]
  rw[zAL _ _ _ _ (by omega) (by omega),c4];rfl) (by
  unfold zR4;rw[dO (by omega),zK,Ji (by omega),Ji (by omega)];rfl)
 grind[img]
theorem zTu{x:SPr}(h:Pres x){k:Nat}(hk:k<x.zA.length){g:SPr→Int→List Int→List Int→Option (List Int)}{gi:SPr→Int→List Int→Option (List Int)}(hg:FAt x (k+1) g)(hi:FIm x k gi):FAt x k (b_a gi g):=by
 intro a b ha hb;have h6:=h.os.1;have hp:=(h.os.2 k hk).pos;have ok:=h.okAt (k:=k+1) (by omega);have ok0:=h.okAt (k:=k) (by omega);obtain⟨pq,har⟩:=zDe h.os (x.zA.length-k) k a (by omega) ha;obtain⟨pm,hbr⟩:=zDe h.os (x.zA.length-k) k b (by omega) hb;rw[yL hk]at ha hb ok0;obtain⟨a0,a,rfl⟩:∃a0 a',a=a0::a':=by cases a with|nil=>grind|cons p q=>simp
 obtain⟨b0,b,rfl⟩:∃a0 a',b=a0::a':=by cases b with|nil=>grind|cons p q=>simp
 obtain⟨⟨a1,a2⟩,ha⟩:=ha;obtain⟨⟨b1,b2⟩,hb⟩:=hb;have p8:(lvl x k).o=at0 x.zA k:=rfl;rw[p8]at a2 b2;unfold b_a;rw[dO (by omega),zK,uA (by grind[zS]),bs,uA (by simp[zS]at pm ⊢;omega),bs,zBR,bs,zBR,bs,J6,zCC,zCC,zBi,zBi];have ey:∀u,V (suf x (k+1)) u→V (suf x (k+1)) (sig (suf x (k+1)) (lvl x k) u):=by grind[zDb]
 have eg:V (suf x (k+1)) (iter b0.toNat (sig (suf x (k+1)) (lvl x k)) a):=vD ey _ ha;rw[vJ (S:=V (suf x (k+1))) (fun u=>zeros (k+1)++u) (sig (suf x (k+1)) (lvl x k)) b0 b1 ey (fun u q hu hq=>by
   unfold zTK;simp only
   rw[zBR,bs,dP hq,zJ,hi u hu,bs,zE (by omega) (by omega),bs,cs]) (fun u hu=>by
   unfold zTK;simp only
   rw[zBR,bs,dO (by omega),zK]) ha,bs,zE (by omega) (by omega),bs,cs,hg _ _ eg hb,bs,bs,bs,zE (by omega) (by omega),bs,yG hk,bs]
 have hm:=xN ok eg hb;have a6:=(zDe h.os (x.zA.length-(k+1)) (k+1) _ (by omega) hm).1;have own:∀u,V (suf x (k+1)) u→f_n (zeros (k+1)++u)=dJ (zeros (k+1)++u):=fun u hu=>uA (by
  have:=(zDe h.os (x.zA.length-(k+1)) (k+1) _ (by omega) hu).1
  grind[zS])
 rw[yL hk,yY,p8]
 by_cases hge:a0+b0≥at0 x.zA k
 ·have t1:=(h.tl k hk).1
  have hw:=zHV t1 hk;have hwl:=h.pl;rw[dP hge,zJ,if_pos hge,bs,zE (by omega) (by omega),bs,bs,yE [] (by omega),bs,zAK t1 hk,hg _ _ hw hm,bs,own _ (xN ok hw hm),bs];rw[←zBi,zBR,bs,zCC];rfl
 ·rw[dO hge,zK,if_neg hge,own _ hm,bs,←zBi,zBR,bs,zCC]
theorem zEz{x:SPr}(h:Pres x):∀(d k:Nat),k+d=x.zA.length→(∀m,2*d+1≤m→FAt x k (zM4 m))∧(1≤d→ ∀m,2*d≤m→FIm x k (zM3 m))
 |0,k,hk=>by
  refine⟨fun m hm a b ha hb=>?_,fun h=>by omega⟩;have h6:=h.os.1;obtain⟨m,rfl⟩:∃m',m=m'+1:=⟨m-1,by omega⟩;show b_a _ _ x k _ _=_;unfold b_a;rw[dP (by omega),zJ,yR (by omega),bs,uH (by omega)]
  grind[mul,zeros]
 |d+1,k,hk=>by
  obtain⟨h1,h2⟩:=zEz h d (k+1) (by omega);have hI:∀m,2*(d+1)≤m→FIm x k (zM3 m):=fun m hm=>by obtain⟨m,rfl⟩:∃m',m=m'+1:=⟨m-1,by omega⟩;exact zLO h (by omega) (h1 m (by omega))
  refine⟨fun m hm=>?_,fun _=>hI⟩;obtain⟨m,rfl⟩:∃m',m=m'+1:=⟨m-1,by omega⟩;exact zTu h (by omega) (h1 m (by omega)) (hI m (by omega))
theorem zNE{x:SPr}(h:Pres x){k:Nat}(hk:k≤x.zA.length):FAt x k f_a:=fun a b ha hb=>
 zAG (2*(x.zA.length-k)+1) fun m hm=>(zEz h (x.zA.length-k) k (by omega)).1 m hm a b ha hb
theorem zLP{x:SPr}(h:Pres x){k:Nat}(hk:k<x.zA.length):FIm x k f_e:=fun v hv=>
 zAG (2*(x.zA.length-k)) fun m hm=>(zEz h (x.zA.length-k) k (by omega)).2 (by omega) m hm v hv
end Go.Pl

namespace Go.Pl
open Go Go.Ab Go.Wk Go.Pc
theorem zBS:∀{P Q:Pcp},Q<:+P→vH P→vH Q
 | [],Q,h,_=>by grind
 |l::P,Q,h,hc=>by
  rcases Qo.1 h with rfl|h
  ·exact hc
  ·exact zBS h hc.1
theorem zHW:∀{P Q:Pcp},Q<:+P→Pc.Ok P→Pc.Ok Q
 | [],Q,h,_=>by grind
 |l::P,Q,h,hc=>by
  rcases Qo.1 h with rfl|h
  ·exact hc
  ·exact zHW h hc.2.2.2.2
theorem zLQ(x:SPr)(k:Nat):suf x (k+1)<:+suf x k:=by grind[yL,uH]
theorem zDH{x:SPr}{k:Nat}(h:vH (suf x k)):∀i,vH (suf x (k+i))
 |0=>h
 |i+1=>zBS (zLQ x (k+i)) (zDH h i)
theorem zGy{x:SPr}(h:Pres x){k:Nat}(hk:k≤x.zA.length)(hc:vH (suf x k)):Grp (V (suf x k)) (mul (suf x k)) (zeros (suf x k).length):=zN7 _ (h.okAt hk) hc
theorem zFt{x:SPr}:∀(i k:Nat)(v:Vec),k+i≤x.zA.length→V (suf x k) v→ ∃q v',v=q++v'∧q.length=i∧V (suf x (k+i)) v'∧
  ∀a b,V (suf x (k+i)) a→V (suf x (k+i)) b→mul (suf x k) (q++a) (zeros i++b)=q++mul (suf x (k+i)) a b
 |0,k,v,_,hv=>⟨[],v,rfl,rfl,hv,fun a b _ _=>rfl⟩
 |i+1,k,v,hk,hv=>by
  rw[yL (by omega)]at hv
  match v,hv with
  |e::v,hv=>
   obtain⟨q,v',h1,h2,h3,h4⟩:=zFt i (k+1) v (by omega) hv.2;rw[show k+1+i=k+(i+1)from by omega]at h3 h4;refine⟨e::q,v',by grind,by simp[h2],h3,fun a b ha hb=>?_⟩;have he:=hv.1;rw[yL (by omega)];show mul (lvl x k::suf x (k+1)) (e::(q++a)) (0::(zeros i++b))=_;rw[yY,G4,if_neg (by omega)]
   grind[iter]
def FTV(x:SPr)(k:Nat)(g:SPr→List Int→List Int→Option (List Int)):Prop:=
 ∀p v u,p.length=k→V (suf x k) v→V (suf x k) u→g x (p++v) (zeros k++u)=dJ (p++mul (suf x k) v u)
def FTG(x:SPr)(k:Nat)(g:SPr→List Int→Int→Option (List Int)):Prop:=
 ∀p v,p.length=k→V (suf x k) v→g x (p++v) (k:Int)=dJ (p++mul (suf x k) v (1::zeros (x.zA.length-(k+1))))
theorem zHX{x:SPr}(h:Pres x){k:Nat}(hk:k<x.zA.length){g:SPr→List Int→List Int→Option (List Int)}(hg:FTV x (k+1) g){t:Vec}(ht:V (suf x (k+1)) t)
  {body1:List Int×Int→Int→List Int×Int→Option ((List Int×Int)⊕List Int)}{body2:List Int×Int→Option ((List Int×Int)⊕List Int)}
  (th:∀s,body2 s=cond (decide (s.2<(t.length:Int))) ((ixO t s.2).bind fun v17=>(zH (body1 s v17) (s.1,0)).bind fun r=>(rng (s.2+1)).bind fun v=>dJ (.inl (r,v))) (dJ (.inr s.1)))
  (dD:∀s v q,body1 s v q=cond (decide (q.2<v)) ((ixO x.zD (k:Int)).bind fun cl=>(ixO cl s.2).bind fun c=>(g x q.1 c).bind fun r=>(rng (q.2+1)).bind fun w=>dJ (.inl (r,w))) (dJ (.inr q.1)))
  {p:Vec}(hp:p.length=k+1){u:Vec}(hu:V (suf x (k+1)) u):zH body2 (p++u,0)=dJ (p++img (mul (suf x (k+1))) (lvl x k).cs t u):=by
 have h6:=h.os.1;have ok:=h.okAt (k:=k+1) (by omega);have ok0:=h.okAt (k:=k) (by omega);rw[yL hk]at ok0;obtain⟨ft,bt⟩:=zDe h.os (x.zA.length-(k+1)) (k+1) t (by omega) ht;have gI:(lvl x k).cs.length=x.zA.length-(k+1):=by rw[ok0.2.2.1,xK]
 have hA:∀i,V (suf x (k+1)) (img (mul (suf x (k+1))) ((lvl x k).cs.take i) (t.take i) u):=fun i=>
  sS (xN ok) _ _ (fun c hc=>ok0.2.2.2.1 c (by grind)) hu
 have:=zO (body:=body2) (r:=p++img (mul (suf x (k+1))) (lvl x k).cs t u) (fun i=>(p++img (mul (suf x (k+1))) ((lvl x k).cs.take i) (t.take i) u,(i:Int))) t.length (fun i hi=>by
  have hr:=bt i (by omega);obtain⟨c,c1,c2,c3,c4⟩:=zDG h hk (i:=i) (by omega);rw[th];simp only
  rw[yN hi,zJ,yG hi,bs];rw[vJ (S:=V (suf x (k+1))) (fun u=>p++u) (fun u=>mul (suf x (k+1)) u c) (at0 t i) hr.1 (by grind[xN]) (fun u q hu hq=>by
   rw[dD];simp only
   rw[dP hq,zJ,c1,bs,c2,bs,hg p u c hp hu c3,bs,zE (by omega) (by omega),bs,cs]) (by grind) (hA i),bs,zE (by omega) (by omega),bs,cs]
  rw[zAL _ _ _ _ (by omega) (by omega),c4]) (by
  grind)
 grind[img]
theorem zUT{p v:Vec}{a:Int}{k:Nat}(hp:p.length=k):ixO (p++a::v) (k:Int)=dJ a:=by rw[vE,J7 (by omega),hp,Kc];rfl
theorem p_set{p v:Vec}{a b:Int}{k:Nat}(hp:p.length=k):(p++a::v).set k b=p++b::v:=by simp_all
theorem zKk{x:SPr}(h:Pres x){k:Nat}(hk:k<x.zA.length)(hc:vH (suf x (k+1))){g:SPr→List Int→List Int→Option (List Int)}(hg:FTV x (k+1) g):FTG x k (b_b g):=by
 intro p v hp hv;have h6:=h.os.1;have G:=zGy h (k:=k+1) (by omega) hc;have ok:=h.okAt (k:=k+1) (by omega);have ok0:=h.okAt (k:=k) (by omega);obtain⟨cP,tp⟩:=zDe h.os (x.zA.length-k) k v (by omega) hv;rw[yL hk]at hv ok0;obtain⟨e,t,rfl⟩:∃a0 a',v=a0::a':=by cases v with|nil=>grind|cons p q=>simp
 obtain⟨⟨e1,e2⟩,ht⟩:=hv;have p8:(lvl x k).o=at0 x.zA k:=rfl;rw[p8]at e2;have fU:=(h.os.2 k hk).pos;have ft:=(zDe h.os (x.zA.length-(k+1)) (k+1) t (by omega) ht).1;have cN:=xK x (k+1);unfold b_b;have hs:zW (p++e::t) ((k+1:Nat):Int) ((p++e::t).length:Int)=dJ t:=by
  unfold zW;rw[if_pos (by grind)];have e3:(p++e::t).drop (k+1)=t:=by rw[List.drop_append,Gm (by omega),hp,show k+1-k=1 from by omega];rfl
  grind[J6]
 have mB:f_z t=dJ t:=by grind[f_z,zZ]
 rw[zE (by omega) (by omega),bs,cs,hs,bs,mB,bs];have hz:=zO (body:=zRN k t) (r:=(p++[e])++zeros t.length) (fun i=>((p++[e])++(zeros i++t.drop i),(i:Int))) t.length (fun i hi=>by
  have hl:((p++[e])++zeros i).length=k+1+i:=by grind[zS]
  unfold zRN;simp only
  rw[yN hi,zJ,zE (by omega) (by omega),bs,zE (by omega) (by omega),bs,show(k:Int)+1+(i:Int)=((k+1+i:Nat):Int)from by omega,vE,←Jb,J7 (by omega),hl,Kc,
   H2 hi,Ur,bs,zE (by omega) (by omega),bs,cs,J6,Hd _ _ (by omega),hl,Kc,L8,zEW]
  simp) (by
  unfold zRN;simp)
 simp only[zeros,Hm,Ga,K1,Jb,L9]at hz;rw[show((0:Nat):Int)=0 from rfl]at hz;rw[hz,bs,J6,zUT hp,bs,zE (by omega) (by omega),bs,bs,p_set hp,zUT hp,bs,yG hk,bs];have am:J1 t.length (0:Int)=zeros (suf x (k+1)).length:=by rw[cN,ft];rfl
 rw[yL hk,yY,p8];have gA:mul (suf x (k+1)) (iter (1:Int).toNat (sig (suf x (k+1)) (lvl x k)) t) (zeros (x.zA.length-(k+1)))=sig (suf x (k+1)) (lvl x k) t:=by rw[←cN];show mul _ (sig (suf x (k+1)) (lvl x k) t) _=_;exact G.oner (zDb ok0 ht)
 rw[gA,am]
 by_cases heq:e+1=at0 x.zA k
 ·have t1:=(h.tl k hk).1
  have hw:=zHV t1 hk;have hwl:=h.pl;have tv:(p++[(0:Int)]).length=k+1:=by simp[hp]
  rw[show(e+1==at0 x.zA k)=dL from by grind,zJ,if_pos (by omega),bs,yE [] (by omega),bs,p_set hp];have ak:p++0::zeros (suf x (k+1)).length=(p++[0])++zeros (suf x (k+1)).length:=by simp
  rw[ak,zAK t1 hk,hg _ _ _ tv G.ein hw,bs,G.onel hw];rw[zHX (body1:=zWt g x k) (body2:=zWu g x k t) h hk hg ht (fun _=>rfl) (fun _ _ _=>rfl) tv hw,bs];rw[zDE G.toMon _ _ ok0.2.2.2.1 hw,show e+1-at0 x.zA k=0 from by omega];simp only[Jb,L9];rfl
 ·have tv:(p++[e+1]).length=k+1:=by simp[hp]
  rw[show(e+1==at0 x.zA k)=dM from by grind,zK,if_neg (by omega)];have ak:p++(e+1)::zeros (suf x (k+1)).length=(p++[e+1])++zeros (suf x (k+1)).length:=by simp
  rw[ak,zHX (body1:=zWv g x k) (body2:=zWw g x k t) h hk hg ht (fun _=>rfl) (fun _ _ _=>rfl) tv G.ein,bs];simp only[Jb,L9];rfl
theorem kL{n i:Nat}(h:i<n):wK n i=zeros i++1::zeros (n-(i+1)):=by
 have:zeros n=zeros i++0::zeros (n-(i+1)):=by
  simp only[zeros];rw[←Km,Je]
  grind
 grind[wK,zCC]
theorem zDI(n:Nat):(xU n).length=n:=by simp[xU]
theorem zGz{n i:Nat}(h:i<n):(xU n).getD i []=wK n i:=by simp[xU,J3,h]
theorem zQE{x:SPr}(h:Pres x){k:Nat}(hk:k≤x.zA.length)(hc:vH (suf x k)){g:SPr→List Int→Int→Option (List Int)}(hg:∀j,k≤j→j<x.zA.length→FTG x j g):FTV x k (b_c g):=by
 intro p v u hp hv hu;have h6:=h.os.1;have G:=zGy h hk hc;have ok:=h.okAt hk;obtain⟨ew,ay⟩:=zDe h.os (x.zA.length-k) k u (by omega) hu;have cN:=xK x k;have hV1:∀j,j≤x.zA.length→j<x.zA.length→V (suf x j) (1::zeros (x.zA.length-(j+1))):=fun j hj mu=>by rw[yL mu];have:=(h.os.2 j mu).pos;refine⟨⟨by omega,by show 1<at0 x.zA j;omega⟩,?_⟩;rw[←xK];exact wJ (h.okAt (by omega))
 have hUn:∀i,i<x.zA.length-k→V (suf x k) (wK (x.zA.length-k) i):=by grind[zDa]
 have hUs:∀c∈xU (x.zA.length-k),V (suf x k) c:=fun c hc=>by
  simp only[xU,Jh,Ld]at hc
  grind
 have hA:∀i,V (suf x k) (img (mul (suf x k)) ((xU (x.zA.length-k)).take i) (u.take i) v):=fun i=>
  sS (xN ok) _ _ (by grind) hv
 have dt:∀i w,i<x.zA.length-k→V (suf x k) w→g x (p++w) ((k+i:Nat):Int)=dJ (p++mul (suf x k) w (wK (x.zA.length-k) i)):=fun i w hi hw=>by obtain⟨q,w',h1,h2,h3,h4⟩:=zFt i k w (by omega) hw;have h5:=hg (k+i) (by omega) (by omega) (p++q) w' (by grind) h3;rw[Jb,←h1]at h5;rw[h5,kL hi,h1,show x.zA.length-k-(i+1)=x.zA.length-(k+i+1)from by omega,h4 w' _ h3 (hV1 (k+i) (by omega) (by omega)),Jb]
 unfold b_c;have bp:(zeros k++u).length=x.zA.length:=by grind[zS]
 have:=zO (body:=zRP g x (zeros k++u)) (r:=p++mul (suf x k) v u) (fun j=>(p++img (mul (suf x k)) ((xU (x.zA.length-k)).take (j-k)) (u.take (j-k)) v,(j:Int))) x.zA.length (fun j hj=>by
  unfold zRP;simp only
  rw[bp,yN hj,zJ];rcases Jd j k with hjk|hjk
  ·have e0:ixO (zeros k++u) (j:Int)=dJ 0:=by
    rw[vE,Jx (by grind)]
    grind[zeros]
   rw[e0,bs,show j-k=0 from by omega,show j+1-k=0 from by omega];rw[xE];unfold zRO;simp only
   rw[show decide ((0:Int)<0)=dM from rfl,zK];simp only
   rw[bs,zE (by omega) (by omega),bs,cs]
  ·obtain⟨i,rfl⟩:∃i,j=k+i:=⟨j-k,by omega⟩
   have hi:i<x.zA.length-k:=by omega
   have hr:=ay i hi;rw[zKj (by omega),bs,show k+i-k=i from by omega,show k+i+1-k=i+1 from by omega];rw[vJ (S:=V (suf x k)) (fun w=>p++w) (fun w=>mul (suf x k) w (wK (x.zA.length-k) i)) (at0 u i) hr.1 (by grind[xN]) (fun w q hw hq=>by
    unfold zRO;simp only
    rw[dP hq,zJ,dt i w hi hw,bs,zE (by omega) (by omega),bs,cs]) (fun w hw=>by
    unfold zRO;simp) (hA i),bs,zE (by omega) (by omega),bs,cs]
   rw[zAL _ _ _ _ (by grind[zDI]) (by omega),zGz hi]) (by
  unfold zRP;simp only
  rw[bp,vC,zK,Ji (by grind[zDI]),Ji (by omega),zDE G.toMon _ _ hUs hv];have hn:=normal (suf x k) ok (fun Q hQ=>(zN7 Q (zHW hQ ok) (zBS hQ hc)).toMon) u hu
  grind)
 simp only[Jbt,Jz,img]at this
 grind
theorem zE0{x:SPr}(h:Pres x):∀(d k:Nat),k+d=x.zA.length→vH (suf x k)→(∀m,2*d+1≤m→FTV x k (zOW m))
 |d,k,hk,hc=>fun m hm=>by
  obtain⟨m,rfl⟩:∃m',m=m'+1:=⟨m-1,by omega⟩;refine zQE h (by omega) hc fun j hj mW=>?_
  obtain⟨m,rfl⟩:∃m',m=m'+1:=⟨m-1,by omega⟩;have ae:vH (suf x (j+1)):=by
   have:=zDH hc (j+1-k)
   grind
  exact zKk h mW ae (zE0 h (x.zA.length-(j+1)) (j+1) (by omega) ae m (by omega))
 termination_by d=>d
 decreasing_by omega
theorem zTv{x:SPr}(h:Pres x){k:Nat}(hk:k≤x.zA.length)(hc:vH (suf x k)):FTV x k f_c:=fun p v u hp hv hu=>
 zAG (2*(x.zA.length-k)+1) fun m hm=>zE0 h (x.zA.length-k) k (by omega) hc m hm p v u hp hv hu
theorem zTw{x:SPr}(h:Pres x){k:Nat}(hk:k<x.zA.length)(hc:vH (suf x (k+1))):FTG x k f_b:=fun p v hp hv=>
 zAG (2*(x.zA.length-k)) fun m hm=>by obtain⟨m,rfl⟩:∃m',m=m'+1:=⟨m-1,by omega⟩;exact zKk h hk hc (zE0 h (x.zA.length-(k+1)) (k+1) (by omega) hc m (by omega)) p v hp hv
end Go.Pl

namespace Go.Pl
open Go Go.Ab Go.Wk Go.Pc
abbrev fv(k:Nat)(v:Vec):Vec:=zeros k++v
section
variable {x:SPr} (h:Pres x) {k:Nat} (hk:k≤x.zA.length) (hc:vH (suf x k))
 include h hk
theorem sZ{v:Vec}(hv:V (suf x k) v):v.length=x.zA.length-k:=(zDe h.os (x.zA.length-k) k v (by omega) hv).1
theorem zBT{v:Vec}(hv:V (suf x k) v):(fv k v).length=x.zA.length:=by rw[Ja,zS,sZ h hk hv];omega
theorem zNF:J1 x.zA.length (0:Int)=fv k (zeros (suf x k).length):=by
 have _:=h;rw[xK];simp only[fv,zeros,Je];congr 1;omega
 include hc
theorem zLR{i:Nat}(hi:i<x.zA.length-k):V (suf x k) (wK (x.zA.length-k) i):=by
 have _:=hc;have:=xK x k;rw[←this]at hi ⊢
 exact zDa (h.okAt hk) hi
theorem zKl{p:Vec}(hp:p.length=k){i:Nat}(hi:i<x.zA.length-k){w:Vec}(hw:V (suf x k) w):f_b x (p++w) ((k+i:Nat):Int)=dJ (p++mul (suf x k) w (wK (x.zA.length-k) i)):=by
 obtain⟨q,w',h1,h2,h3,h4⟩:=zFt i k w (by omega) hw;have ae:vH (suf x (k+i+1)):=zDH hc (i+1);have h5:=zTw h (k:=k+i) (by omega) ae (p++q) w' (by simp[hp,h2]) h3;have h7:V (suf x (k+i)) (1::zeros (x.zA.length-(k+i+1))):=by
  have mu:k+i<x.zA.length:=by omega
  rw[yL mu];have:=(h.os.2 (k+i) mu).pos;refine⟨⟨by omega,by show 1<at0 x.zA (k+i);omega⟩,?_⟩;rw[←xK];exact wJ (h.okAt (by omega))
 rw[Jb,←h1]at h5;rw[h5,kL hi,h1,show x.zA.length-k-(i+1)=x.zA.length-(k+i+1)from by omega,h4 w' _ h3 h7,Jb]
theorem zG0{a b:Vec}(ha:V (suf x k) a)(hb:V (suf x k) b):f_c x (fv k a) (fv k b)=dJ (fv k (mul (suf x k) a b)):=
 zTv h hk hc (zeros k) a b (zS k) ha hb
theorem zKm{a:Vec}(ha:V (suf x k) a):f_z (fv k a)=dJ (fv k a):=by have _:=hc;have:=zBT h hk ha;have h6:=h.os.1;unfold f_z;rw[zZ (by simp only[Ha];omega),bs,K1]
theorem zCD{a b:Vec}(ha:V (suf x k) a)(hb:V (suf x k) b):zRU x (fv k a) (fv k b)=dJ (fv k (mul (suf x k) a b)):=by unfold zRU;rw[zKm h hk hc ha,bs,zG0 h hk hc ha hb,bs]
theorem zLS{c:Vec}(cK:V (suf x k) c){e:Int}(e0:0≤e)(e1:e≤1000):zTR x (fv k c) e=dJ (fv k (pw (mul (suf x k)) (zeros (suf x k).length) c e.toNat)):=by
 have h6:=h.os.1;have ok:=h.okAt hk;unfold zTR;rw[zBT h hk cK,yR (by omega),bs,zNF h hk];rw[vJ (S:=V (suf x k)) (body:=zKT x (fv k c) e) (fun u=>fv k u) (fun u=>mul (suf x k) u c) e e0 (fun u hu=>xN ok hu cK) (fun u i hu hi=>by
  unfold zKT;simp only
  rw[dP hi,zJ,zG0 h hk hc hu cK,bs,zE (by omega) (by omega),bs,cs]) (fun u hu=>by
  unfold zKT;simp only
  rw[dO (by omega),zK]) (wJ ok),bs]
 rfl
theorem zKn{v:Vec}(hv:V (suf x k) v):∃w,V (suf x k) w∧mul (suf x k) v w=zeros (suf x k).length∧f_H x (fv k v)=dJ (fv k w):=by
 have h6:=h.os.1;have ok:=h.okAt hk;have G:=zGy h hk hc;have cP:=zBT h hk hv;have cN:=xK x k;unfold f_H;rw[zKm h hk hc hv,bs,cP,yR (by omega),bs,zNF h hk]
 let I:Nat→(List Int×List Int×Int)→Prop:=fun j s=> ∃A w,s=(fv k A,fv k w,(j:Int))∧V (suf x k) A∧V (suf x k) w∧mul (suf x k) v w=A∧ ∃A',A=zeros (j-k)++A'
 have key:=vW (body:=zRT x (fv k v)) (Q:=fun r=> ∃w,V (suf x k) w∧mul (suf x k) v w=zeros (suf x k).length∧r=fv k w) I x.zA.length (fun j s hj hI=>by
  obtain⟨A,w,rfl,hA,hw,hm,A',hA'⟩:=hI;left;unfold zRT;simp only
  rw[cP,yN hj,zJ];rcases Jd j k with hjk|hjk
  ·have e0:ixO (fv k A) (j:Int)=dJ 0:=by
    rw[vE,Jx (by rw[zS];exact hjk)];simp[zeros,hjk]
   rw[xE];unfold zOX;simp only
   rw[e0,bs,show((0:Int) != 0)=dM from rfl,zK];simp only
   rw[bs,zE (by omega) (by omega),bs,cs];exact⟨_,rfl,A,w,rfl,hA,hw,hm,A,by rw[show j+1-k=0 from by omega];rfl⟩
  ·obtain⟨i,rfl⟩:∃i,j=k+i:=⟨j-k,by omega⟩
   have hi:i<x.zA.length-k:=by omega
   rw[show k+i-k=i from by omega]at hA';have fH:=sZ h hk hA;obtain⟨a0,A',rfl⟩:∃p q,A'=p::q:=by
    cases A' with
    |nil=>rw[hA',Ja,zS,Ha]at fH;omega
    |cons p q=>exact⟨p,q,rfl⟩
   have fU:=(h.os.2 (k+i) hj).pos;have inner:=vW (body:=zOX x (fv k A,fv k w,((k+i:Nat):Int))) (s:=(fv k A,fv k w))
    (Q:=fun r=> ∃B u,r=(fv k B,fv k u)∧V (suf x k) B∧V (suf x k) u∧mul (suf x k) v u=B∧ ∃B',B=zeros (i+1)++B')
    (fun q s=> ∃B u b B',s=(fv k B,fv k u)∧V (suf x k) B∧V (suf x k) u∧mul (suf x k) v u=B∧B=zeros i++b::B'∧(b=0∨b=a0+q)) 10 (fun q s hq hs=>by
     obtain⟨B,u,b,B',rfl,hB,hu,mq,c8,hb⟩:=hs;have hz:ixO (fv k B) ((k+i:Nat):Int)=dJ b:=by rw[fv,zKj (by rw[sZ h hk hB];exact hi),c8,at0,J3,J7 (by rw[zS];omega),zS,Kc];rfl
     unfold zOX;simp only
     rw[hz,bs]
     by_cases b6:b=0
     ·subst b6
      right;rw[show((0:Int) != 0)=dM from rfl,zK];exact⟨_,rfl,B,u,rfl,hB,hu,mq,B',by rw[c8,zBi]⟩
     ·left
      have hbq:b=a0+q:=by rcases hb with hb|hb;exact absurd hb b6;exact hb
      rw[show(b != 0)=dL from by simpa using b6,zJ,zKl h hk hc (zS k) hi hB,bs,zKl h hk hc (zS k) hi hu,bs];have hU:=zLR h hk hc hi;obtain⟨q',v',h1,h2,h3,h4⟩:=zFt i k B (by omega) hB;have hqv:q'=zeros i∧v'=b::B':=by rw[c8]at h1;have:=List.append_inj h1 (by rw[zS,h2]);exact⟨this.1.symm,this.2.symm⟩
      obtain⟨rfl,rfl⟩:=hqv;have h7:V (suf x (k+i)) (1::zeros (x.zA.length-(k+i+1))):=by rw[yL hj];refine⟨⟨by omega,by show 1<at0 x.zA (k+i);omega⟩,?_⟩;rw[←xK];exact wJ (h.okAt (by omega))
      have h8:=h4 (b::B') _ h3 h7;rw[show x.zA.length-(k+i+1)=x.zA.length-k-(i+1)from by omega,←kL hi,←h1,yL hj,yY]at h8;refine⟨_,rfl,mul (suf x k) B (wK (x.zA.length-k) i),mul (suf x k) u (wK (x.zA.length-k) i),?_⟩;have p8:(lvl x (k+i)).o=at0 x.zA (k+i):=rfl;rw[p8]at h8
      by_cases hge:b+1≥at0 x.zA (k+i)
      ·rw[if_pos hge]at h8
       refine⟨_,_,rfl,xN ok hB hU,xN ok hu hU,?_,h8,?_⟩
       ·rw[←G.assoc hv hu hU,mq]
       ·left
        rw[yL hj]at h3;have:=h3.1.2;rw[p8]at this;omega
      ·rw[if_neg hge]at h8
       refine⟨_,_,rfl,xN ok hB hU,xN ok hu hU,?_,h8,?_⟩
       ·rw[←G.assoc hv hu hU,mq]
       ·right;omega) (fun s hs=>by
     obtain⟨B,u,b,B',rfl,hB,hu,mq,c8,hb⟩:=hs;have hz:ixO (fv k B) ((k+i:Nat):Int)=dJ b:=by rw[fv,zKj (by rw[sZ h hk hB];exact hi),c8,at0,J3,J7 (by rw[zS];omega),zS,Kc];rfl
     have hbr:=(zDe h.os (x.zA.length-k) k B (by omega) hB).2 i hi;have ha:=(zDe h.os (x.zA.length-k) k A (by omega) hA).2 i hi;have e1:at0 B i=b:=by rw[c8,at0,J3,J7 (by rw[zS];omega),zS,Kc];rfl
     have e2:at0 A i=a0:=by rw[hA',at0,J3,J7 (by rw[zS];omega),zS,Kc];rfl
     have b6:b=0:=by omega
     subst b6;unfold zOX;simp only
     rw[hz,bs,show((0:Int) != 0)=dM from rfl,zK];exact⟨_,rfl,B,u,rfl,hB,hu,mq,B',by rw[c8,zBi]⟩) ⟨A,w,a0,A',rfl,hA,hw,hm,hA',.inr (by omega)⟩
   obtain⟨r,r1,B,u,rfl,hB,hu,mq,B',c8⟩:=inner;rw[r1,bs,zE (by omega) (by omega),bs,cs];exact⟨_,rfl,B,u,rfl,hB,hu,mq,B',by rw[c8,show k+i+1-k=i+1 from by omega]⟩) (fun s hI=>by
  obtain⟨A,w,rfl,hA,hw,hm,A',hA'⟩:=hI;unfold zRT;simp only
  rw[cP,vC,zK];refine⟨_,rfl,w,hw,?_,rfl⟩;have fH:=sZ h hk hA;rw[hA',Ja,zS]at fH;rw[hm,hA',Kn (l:=A') (by omega),Jg,cN]) (s:=(fv k v,fv k (zeros (suf x k).length),0))
  ⟨v,_,rfl,hv,wJ ok,G.oner hv,v,by rw[Jbt];rfl⟩
 obtain⟨r,r1,w,hw,hm,rfl⟩:=key;rw[r1,bs];exact⟨w,hw,hm,rfl⟩
theorem zBU{a b:Vec}(ha:V (suf x k) a)(hb:V (suf x k) b):∃c,V (suf x k) c∧mul (suf x k) b c=mul (suf x k) a b∧zRV x (fv k a) (fv k b)=dJ (fv k c):=by
 have ok:=h.okAt hk;have G:=zGy h hk hc;obtain⟨w,hw,hm,h1⟩:=zKn h hk hc hb;have ah:=xN ok ha hb;refine⟨mul (suf x k) w (mul (suf x k) a b),xN ok hw ah,?_,?_⟩
 ·rw[←G.assoc hb hw ah,hm,G.onel ah]
 ·unfold zRV
  rw[h1,bs,zCD h hk hc ha hb,bs,zCD h hk hc hw ah,bs]
end
theorem zDf{a b:List Int}(h:a.length≤1000000):f_T a b=dJ (a==b):=
 zHT (t:=fun u v=>dJ (u==v)) (body:=zWx a b) rfl (fun _=>rfl) (by omega) fun _ _ _ _=>rfl
theorem zO1{a b:List Int}(h:a.length≤1000000):zJo a b=dJ (a==b):=zDf h
end Go.Pl

namespace Go.Pl
open Go Go.Ab Go.Wk Go.Pc
theorem zKo{ρ:Type}{body:Int→Option (Int⊕(Unit⊕ρ))}(n i0:Nat)(hn:i0≤n)(P:Nat→Prop)(B:ρ→Prop)
  (h:∀i,i0≤i→i<n→(∀j,i0≤j→j<i→P j)→(body (i:Int)=dJ (.inl ((i+1:Nat):Int))∧P i)∨(∃r,body (i:Int)=dJ (.inr (.inr r))∧B r∧ ¬P i))
  (he:body (n:Int)=dJ (.inr (.inl ()))):
  (zH body (i0:Int)=dJ (.inl ())∧ ∀j,i0≤j→j<n→P j)∨ ∃r i,i0≤i∧i<n∧zH body (i0:Int)=dJ (.inr r)∧B r∧ ¬P i:=by
 have key:∀k i,i0≤i→i+k=n→(∀j,i0≤j→j<i→P j)→(zH body (i:Int)=dJ (.inl ())∧ ∀j,i0≤j→j<n→P j)∨ ∃r q,i0≤q∧q<n∧zH body (i:Int)=dJ (.inr r)∧B r∧ ¬P q:=by
  intro k
  induction k with
  |zero=>
   intro i hi hk hp;obtain rfl:i=n:=by omega
   grind[xE]
  |succ k ih=>
   intro i hi hk hp;rcases h i hi (by omega) hp with⟨h1,h2⟩|⟨r,h1,h2,h3⟩
   ·have:=ih (i+1) (by omega) (by omega) (by grind)
    rw[xE,h1];exact this
   ·exact .inr ⟨r,i,hi,by omega,by rw[xE,h1],h2,h3⟩
 exact key (n-i0) i0 (Jf _) (by omega) fun j a b=>by omega
theorem zG1{σ ρ:Type}{body:σ→Option (σ⊕ρ)}{Q:ρ→Prop}(I:σ→Prop)(m:σ→Nat)
  (h:∀s,I s→(∃s',body s=dJ (.inl s')∧I s'∧m s'<m s)∨ ∃r,body s=dJ (.inr r)∧Q r):∀(k:Nat)(s:σ),m s≤k→I s→ ∃r,zH body s=dJ r∧Q r
 |k,s,hk,hs=>by
  rcases h s hs with⟨s',h1,h2,h3⟩|⟨r,h1,h2⟩
  ·cases k with
   |zero=>omega
   |succ k=>
    obtain⟨r,h4,h5⟩:=zG1 I m h k s' (by omega) h2
    grind[xE]
  grind[xE]
theorem zVR{k:Nat}{a b:Vec}:(fv k a==fv k b)=dL↔a=b:=by simp
theorem zBV{x:SPr}{v:List Int}{i k:Nat}(h:Exp x.zA v i)(hk:k≤i+1)(hn:k≤x.zA.length):v=fv k (v.drop k)∧V (suf x k) (v.drop k):=by
 have h1:=h.1.1;constructor
 ·apply K9
  intro j;rw[fv,Kb];simp only[zeros,K2,K3,H0];split
  ·rename_i hj
   have h2:=h.2 j (by omega)
   grind
  grind
 ·refine zVQ (x.zA.length-k) k _ (by omega) (by grind) fun j hj=>?_
  have:=h.1.2 (k+j) (by omega)
  grind
structure LC (x:SPr) (k:Nat):Prop where
 c1:∀j,k+1≤j→j<x.zA.length→pw (mul (suf x (k+1))) (zeros (suf x (k+1)).length) ((lvl x k).cs.getD (j-(k+1)) []) (at0 x.zA j).toNat=sig (suf x (k+1)) (lvl x k) ((x.zU.getD j []).drop (k+1))
 c2:∀i,k+1≤i→i<x.zA.length→ ∀j,i+1≤j→j<x.zA.length→
  mul (suf x (k+1)) ((lvl x k).cs.getD (j-(k+1)) []) ((lvl x k).cs.getD (i-(k+1)) [])=mul (suf x (k+1)) ((lvl x k).cs.getD (i-(k+1)) []) (sig (suf x (k+1)) (lvl x k) (((x.zD.getD i []).getD (j-(i+1)) []).drop (k+1)))
 c3:sig (suf x (k+1)) (lvl x k) (lvl x k).w=(lvl x k).w
 c4:∀j,k+1≤j→j<x.zA.length→mul (suf x (k+1)) (lvl x k).w (iter (lvl x k).o.toNat (sig (suf x (k+1)) (lvl x k)) (wK (x.zA.length-(k+1)) (j-(k+1))))=mul (suf x (k+1)) (wK (x.zA.length-(k+1)) (j-(k+1))) (lvl x k).w
section
variable {x:SPr} (h:Pres x) {k:Nat} (hk:k<x.zA.length) (hc:vH (suf x (k+1)))
 include h hk
theorem jR{j:Nat}(h1:k+1≤j)(h2:j<x.zA.length):ixO x.zD (k:Int)=dJ (x.zD.getD k [])∧ixO (x.zD.getD k []) ((j:Int)-(k:Int)-1)=dJ (fv (k+1) ((lvl x k).cs.getD (j-(k+1)) []))∧V (suf x (k+1)) ((lvl x k).cs.getD (j-(k+1)) []):=by
 obtain⟨c,c1,c2,c3,c4⟩:=zDG h hk (i:=j-(k+1)) (by omega)
 grind
theorem zQF{j:Nat}(h1:k+1≤j)(h2:j<x.zA.length):ixO x.zU (j:Int)=dJ (fv (k+1) ((x.zU.getD j []).drop (k+1)))∧V (suf x (k+1)) ((x.zU.getD j []).drop (k+1)):=by
 have t1:=(h.tl j h2).1;have hl:=h.pl
 grind[zBV,yE]
theorem zQG{i j:Nat}(h1:k+1≤i)(h2:i+1≤j)(h3:j<x.zA.length):ixO x.zD (i:Int)=dJ (x.zD.getD i [])∧ixO (x.zD.getD i []) ((j:Int)-(i:Int)-1)=dJ (fv (k+1) (((x.zD.getD i []).getD (j-(i+1)) []).drop (k+1)))∧V (suf x (k+1)) (((x.zD.getD i []).getD (j-(i+1)) []).drop (k+1)):=by
 obtain⟨_,t2,t3⟩:=h.tl i (by omega)
 grind[zBV,yE]
theorem zVS:ixO x.zU (k:Int)=dJ (fv (k+1) (lvl x k).w)∧V (suf x (k+1)) (lvl x k).w:=by have t1:=(h.tl k hk).1;have hl:=h.pl;obtain⟨e1,e2⟩:=zBV (k:=k+1) t1 (by omega) (by omega);exact⟨by rw[yE [] (by omega)];exact congrArg dJ e1,e2⟩
theorem zUU{v:Vec}(hv:V (suf x (k+1)) v):V (suf x (k+1)) (sig (suf x (k+1)) (lvl x k) v):=by
 have ok0:=h.okAt (k:=k) (by omega)
 grind[yL,zDb]
theorem zHY{j:Nat}(h1:k+1≤j)(h2:j<x.zA.length):zGZ (x.zA.length:Int) (j:Int)=dJ (fv (k+1) (wK (x.zA.length-(k+1)) (j-(k+1)))):=by
 have h6:=h.os.1;unfold zGZ;rw[yR (by omega),bs,vE,K3,if_pos h2,bs,J6]
 congr 1
 rw[fv,kL (by omega),←Jb];have e1:zeros (k+1)++zeros (j-(k+1))=zeros j:=by grind[zeros,Je]
 have e2:J1 x.zA.length (0:Int)=zeros j++0::zeros (x.zA.length-(j+1)):=by simp only[zeros];rw[←Km,Je];grind
 grind[zCC]
theorem zO2{j:Nat}(h1:k+1≤j)(h2:j<x.zA.length):zJp (x.zA.length:Int) (j:Int)=dJ (fv (k+1) (wK (x.zA.length-(k+1)) (j-(k+1)))):=zHY h hk h1 h2
 include hc
theorem kM{v:Vec}(hv:V (suf x (k+1)) v):f_B x k (fv (k+1) v)=dJ (fv (k+1) (sig (suf x (k+1)) (lvl x k) v)):=by
 have h6:=h.os.1;have ok:=h.okAt (k:=k+1) (by omega);have ok0:=h.okAt (k:=k) (by omega);rw[yL hk]at ok0;obtain⟨cP,tp⟩:=zDe h.os (x.zA.length-(k+1)) (k+1) v (by omega) hv;have gI:(lvl x k).cs.length=x.zA.length-(k+1):=by rw[ok0.2.2.1,xK]
 have t2:=(h.tl k hk).2.1;have dx:=h.cl;have hA:∀i,V (suf x (k+1)) (img (mul (suf x (k+1))) ((lvl x k).cs.take i) (v.take i) (zeros (suf x (k+1)).length)):=fun i=>
  sS (xN ok) _ _ (fun c hc=>ok0.2.2.2.1 c (by grind)) (wJ ok)
 unfold f_B;rw[zBT h (by omega) hv,yR (by omega),bs,yE [] (by omega),bs,zNF h (k:=k+1) (by omega)];have:=zO (body:=zRS x k (fv (k+1) v) (x.zD.getD k [])) (r:=fv (k+1) (sig (suf x (k+1)) (lvl x k) v))
  (fun i=>(fv (k+1) (img (mul (suf x (k+1))) ((lvl x k).cs.take i) (v.take i) (zeros (suf x (k+1)).length)),(i:Int))) (x.zD.getD k []).length (fun i hi=>by
  have hr:=tp i (by omega);obtain⟨c,c1,c2,c3,c4⟩:=zDG h hk (i:=i) (by omega);unfold zRS;simp only
  rw[yN hi,zJ,c2,bs,zE (by omega) (by omega),bs,zE (by omega) (by omega),bs,show(k:Int)+1+(i:Int)=((k+1+i:Nat):Int)from by omega,fv,zKj (by omega),bs];rw[vJ (S:=V (suf x (k+1))) (body:=zRR x (zeros (k+1)++c) (at0 v i)) (fun u=>fv (k+1) u) (fun u=>mul (suf x (k+1)) u c) (at0 v i) hr.1 (by grind[xN]) (fun u q hu hq=>by
   unfold zRR;simp only
   rw[dP hq,zJ,zG0 h (by omega) hc hu c3,bs,zE (by omega) (by omega),bs,cs]) (fun u hu=>by
   unfold zRR;simp) (hA i),bs,zE (by omega) (by omega),bs,cs]
  rw[zAL _ _ _ _ (by omega) (by omega),c4]) (by
  unfold zRS;simp only
  rw[vC,zK,Ji (by omega),Ji (by omega)];rfl)
 simp only[Jz,img]at this
 grind
theorem zBW{a b:Vec}(ha:V (suf x (k+1)) a):IsB (f_T (fv (k+1) a) (fv (k+1) b)) (a=b):=by
 have _:=hc;have h6:=h.os.1
 grind[zDf,zBT,IsB.of_bool,zVR]
theorem zKp{c:Vec}(cK:V (suf x (k+1)) c){e:Int}(e0:0≤e)(e1:e≤1000):zTL x ((k+1:Nat):Int) (fv (k+1) c) e=dJ (fv (k+1) (pw (mul (suf x (k+1))) (zeros (suf x (k+1)).length) c e.toNat)):=by
 have h6:=h.os.1;have ok:=h.okAt (k:=k+1) (by omega);have G:=zGy h (k:=k+1) (by omega) hc;have hA:=zNE h (k:=k+1) (by omega);have pwV:∀a,V (suf x (k+1)) (pw (mul (suf x (k+1))) (zeros (suf x (k+1)).length) c a):=fun a=>uZ G.toMon cK a
 unfold zTL;rw[yR (by omega),bs,zNF h (k:=k+1) (by omega)];obtain⟨r,r1,r2⟩:=zG1 (body:=zNX x ((k+1:Nat):Int)) (Q:=fun r=>r=fv (k+1) (pw (mul (suf x (k+1))) (zeros (suf x (k+1)).length) c e.toNat))
  (fun s=> ∃(m a q:Nat),s=((m:Int),fv (k+1) (pw (mul (suf x (k+1))) (zeros (suf x (k+1)).length) c a),fv (k+1) (pw (mul (suf x (k+1))) (zeros (suf x (k+1)).length) c q))∧a+q*m=e.toNat∧m≤1000) (fun s=>s.1.toNat) (fun s ⟨m,a,q,hs,he,hm⟩=>by
   subst hs;unfold zNX;simp only
   by_cases hm0:m=0
   ·grind
   ·left
    have hr:uC (m:Int) 2=dJ ((m%2:Nat):Int):=by rfl
    have hq:uY (m:Int) 2=dJ ((m/2:Nat):Int):=by
     unfold uY;rw[if_neg (by decide),Int.tdiv_eq_ediv_of_nonneg (by omega)]
     grind[zE]
    have mZ:=Nat.div_add_mod m 2;have bE:mul (suf x (k+1)) (pw (mul (suf x (k+1))) (zeros (suf x (k+1)).length) c q) (pw (mul (suf x (k+1))) (zeros (suf x (k+1)).length) c q)=pw (mul (suf x (k+1))) (zeros (suf x (k+1)).length) c (q+q):=(zGm G.toMon cK q q).symm;rw[dP (by omega),zJ,hr,bs];rcases Nat.mod_two_eq_zero_or_one m with h2|h2
    ·rw[h2,show((((0:Nat):Int))==1)=dM from rfl,zK,hA _ _ (pwV q) (pwV q),bs,hq,bs,bE]
     refine⟨_,rfl,⟨m/2,a,q+q,rfl,?_,by omega⟩,by omega⟩
     grind
    ·rw[h2,show((((1:Nat):Int))==1)=dL from rfl,zJ,hA _ _ (pwV a) (pwV q),bs,hA _ _ (pwV q) (pwV q),bs,hq,bs,bE,←zGm G.toMon cK a q]
     refine⟨_,rfl,⟨m/2,a+q,q+q,rfl,?_,by omega⟩,by omega⟩
     grind) 1000000 (e,fv (k+1) (zeros (suf x (k+1)).length),fv (k+1) c) (by omega) ⟨e.toNat,0,1,by rw[zQ4 G.toMon cK,show((e.toNat:Nat):Int)=e from by omega];rfl,by omega,by omega⟩
 grind
end
end Go.Pl

namespace Go.Pl
open Go Go.Ab Go.Wk Go.Pc
def zXW(o:Option yZ)(P:Prop):Prop:=(o=dJ (yZ.mk 0 0 0 0)∧P)∨ ∃r,o=dJ r∧r.Kind≠0∧ ¬P
theorem kb{a b c d:Int}(h:a≠0):(yZ.mk a b c d).Kind≠0:=h
abbrev KB(r:yZ):Prop:=r.Kind≠0
theorem zAM{o:Option Bool}{P:Prop}{bad:yZ}{i:Nat}{g:Option (Int⊕(Unit⊕yZ))}(h:IsB o P)(hi:i<9223372036854775807)(hbad:bad.Kind≠0)
  (hg:g=o.bind fun r=>cond (!r) (dJ (.inr (.inr bad))) ((rng ((i:Int)+1)).bind fun v=>dJ (.inl v))):(g=dJ (.inl ((i+1:Nat):Int))∧P)∨(∃r,g=dJ (.inr (.inr r))∧KB r∧ ¬P):=by
 rcases vZ h hi hg with h|⟨h1,h2⟩
 all_goals grind
section
variable {x:SPr} (h:Pres x) {k:Nat} (hk:k<x.zA.length) (hc:vH (suf x (k+1)))
 include h hk hc
theorem zG2:zXW (f_k x k) (LC x k):=by
 have h6:=h.os.1;have ok:=h.okAt (k:=k+1) (by omega);have G:=zGy h (k:=k+1) (by omega) hc;obtain⟨w1,w2⟩:=zVS h hk;have cX:∀v,V (suf x (k+1)) v→V (suf x (k+1)) (sig (suf x (k+1)) (lvl x k) v):=by grind[zUU]
 unfold f_k;rw[zE (by omega) (by omega),bs,cs];rcases zKo (body:=zRW x k) x.zA.length (k+1) (by omega) (fun j=>pw (mul (suf x (k+1))) (zeros (suf x (k+1)).length) ((lvl x k).cs.getD (j-(k+1)) []) (at0 x.zA j).toNat=sig (suf x (k+1)) (lvl x k) ((x.zU.getD j []).drop (k+1))) KB (fun j h1 h2 _=>by
   obtain⟨c1,c2,c3⟩:=jR h hk h1 h2;obtain⟨p1,p2⟩:=zQF h hk h1 h2;have fU:=(h.os.2 j h2).pos;refine zAM (zBW h hk hc (uZ G.toMon c3 (at0 x.zA j).toNat)) (by omega) (bad:=yZ.mk 1 k j 0) (kb (by decide)) ?_;unfold zRW;rw[yN h2,zJ,c1,bs,zE (by omega) (by omega),bs,zE (by omega) (by omega),bs,c2,bs,yG h2,bs,zLS h (by omega) hc c3 (by omega) (by omega),bs,p1,bs,kM h hk hc p2,bs]) (by
   unfold zRW;simp)with⟨g1,g2⟩|⟨r,j,j1,j2,g1,g2,g3⟩
 rotate_left
 ·rw[g1,bs]
  exact .inr ⟨r,rfl,g2,fun q=>g3 (q.c1 j j1 j2)⟩
 rw[g1,bs];simp only
 rw[bs];rcases zKo (body:=zRY x k) x.zA.length (k+1) (by omega) (fun i=> ∀j,i+1≤j→j<x.zA.length→
   mul (suf x (k+1)) ((lvl x k).cs.getD (j-(k+1)) []) ((lvl x k).cs.getD (i-(k+1)) [])=mul (suf x (k+1)) ((lvl x k).cs.getD (i-(k+1)) []) (sig (suf x (k+1)) (lvl x k) (((x.zD.getD i []).getD (j-(i+1)) []).drop (k+1)))) KB (fun i h1 h2 _=>by
   obtain⟨c1,c2,c3⟩:=jR h hk h1 h2;unfold zRY;rw[yN h2,zJ,zE (by omega) (by omega),bs,cs];rcases zKo (body:=zRX x k i) x.zA.length (i+1) (by omega) (fun j=>mul (suf x (k+1)) ((lvl x k).cs.getD (j-(k+1)) []) ((lvl x k).cs.getD (i-(k+1)) [])=mul (suf x (k+1)) ((lvl x k).cs.getD (i-(k+1)) []) (sig (suf x (k+1)) (lvl x k) (((x.zD.getD i []).getD (j-(i+1)) []).drop (k+1)))) KB (fun j h3 h4 _=>by
     obtain⟨d1,d2,d3⟩:=jR h hk (j:=j) (by omega) h4;obtain⟨e1,e2,e3⟩:=zQG h hk h1 h3 h4;obtain⟨q,q1,q2,q3⟩:=zBU h (by omega) hc d3 c3;refine zAM ((zBW h hk hc (b:=sig (suf x (k+1)) (lvl x k) (((x.zD.getD i []).getD (j-(i+1)) []).drop (k+1))) q1).iff (Q:=mul (suf x (k+1)) ((lvl x k).cs.getD (j-(k+1)) []) ((lvl x k).cs.getD (i-(k+1)) [])=mul (suf x (k+1)) ((lvl x k).cs.getD (i-(k+1)) []) (sig (suf x (k+1)) (lvl x k) (((x.zD.getD i []).getD (j-(i+1)) []).drop (k+1)))) ?_) (by omega) (bad:=yZ.mk 2 k i j) (kb (by decide)) ?_
     ·exact⟨by grind,fun e=>G.cancel_l c3 q1 (cX _ e3) (by rw[q2,e])⟩
     ·unfold zRX
      rw[yN h4,zJ,d1,bs,zE (by omega) (by omega),bs,zE (by omega) (by omega),bs,d2,bs,bs,zE (by omega) (by omega),bs,zE (by omega) (by omega),bs,c2,bs,q3,bs,e1,bs,zE (by omega) (by omega),bs,zE (by omega) (by omega),bs,e2,bs,kM h hk hc e3,bs]) (by
     unfold zRX;simp)with⟨g1,g2⟩|⟨r,j,j1,j2,g1,g2,g3⟩
   ·grind
   grind) (by
   unfold zRY;simp)with⟨k1,k2⟩|⟨r,j,j1,j2,k1,k2,k3⟩
 rotate_left
 ·rw[k1,bs]
  exact .inr ⟨r,rfl,k2,fun q=>k3 (q.c2 j j1 j2)⟩
 rw[k1,bs];simp only
 rw[w1,bs,kM h hk hc w2,bs];rcases zBW h hk hc (b:=(lvl x k).w) (cX _ w2)with⟨m1,m2⟩|⟨m1,m2⟩
 rotate_left
 ·rw[m1,bs,Ju,zJ]
  exact .inr ⟨_,rfl,kb (by decide),fun q=>m2 q.c3⟩
 rw[m1,bs,J9,zK,bs];rcases zKo (body:=zSa x k (fv (k+1) (lvl x k).w)) x.zA.length (k+1) (by omega) (fun j=>mul (suf x (k+1)) (lvl x k).w (iter (lvl x k).o.toNat (sig (suf x (k+1)) (lvl x k)) (wK (x.zA.length-(k+1)) (j-(k+1))))=mul (suf x (k+1)) (wK (x.zA.length-(k+1)) (j-(k+1))) (lvl x k).w) KB (fun j h1 h2 _=>by
   have hU:=zLR h (k:=k+1) (by omega) hc (i:=j-(k+1)) (by omega);have fU:=(h.os.2 k hk).pos;obtain⟨q,q1,q2,q3⟩:=zBU h (k:=k+1) (by omega) hc hU w2;have eg:V (suf x (k+1)) (iter (lvl x k).o.toNat (sig (suf x (k+1)) (lvl x k)) (wK (x.zA.length-(k+1)) (j-(k+1)))):=vD cX _ hU;refine zAM ((zBW h hk hc (b:=q) eg).iff ⟨by grind,fun e=>G.cancel_l w2 eg q1 (by rw[e,q2])⟩) (by omega) (bad:=yZ.mk 4 k j 0) (kb (by decide)) ?_;unfold zSa;rw[yN h2,zJ,zHY h hk h1 h2,bs,yG hk,bs];rw[vJ (S:=V (suf x (k+1))) (body:=zRZ x k (at0 x.zA k)) (fun u=>fv (k+1) u) (sig (suf x (k+1)) (lvl x k)) (at0 x.zA k) (by omega) cX (fun u i hu hi=>by
    unfold zRZ;simp only
    rw[dP hi,zJ,kM h hk hc hu,bs,zE (by omega) (by omega),bs,cs]) (fun u hu=>by
    unfold zRZ;simp) hU,bs,bs,q3,bs]
   rfl) (by
   unfold zSa;simp)with⟨n1,n2⟩|⟨r,j,j1,j2,n1,n2,n3⟩
 ·rw[n1,bs]
  exact .inl ⟨rfl,⟨g2,k2,m2,n2⟩⟩
 ·rw[n1,bs]
  exact .inr ⟨r,rfl,n2,fun q=>n3 (q.c4 j j1 j2)⟩
theorem zLT:zXW (f_l x k) (LC x k):=by
 have h6:=h.os.1;have ok:=h.okAt (k:=k+1) (by omega);have G:=zGy h (k:=k+1) (by omega) hc;obtain⟨w1,w2⟩:=zVS h hk;have hA:=zNE h (k:=k+1) (by omega);have hI:=zLP h hk;have cX:∀v,V (suf x (k+1)) v→V (suf x (k+1)) (sig (suf x (k+1)) (lvl x k) v):=by grind[zUU]
 have eqB:∀{a b:Vec},V (suf x (k+1)) a→IsB (zJo (fv (k+1) a) (fv (k+1) b)) (a=b):=fun ha=>zBW h hk hc ha
 unfold f_l;rw[zE (by omega) (by omega),bs,cs];rcases zKo (body:=zR5 x k) x.zA.length (k+1) (by omega) (fun j=>pw (mul (suf x (k+1))) (zeros (suf x (k+1)).length) ((lvl x k).cs.getD (j-(k+1)) []) (at0 x.zA j).toNat=sig (suf x (k+1)) (lvl x k) ((x.zU.getD j []).drop (k+1))) KB (fun j h1 h2 _=>by
   obtain⟨c1,c2,c3⟩:=jR h hk h1 h2;obtain⟨p1,p2⟩:=zQF h hk h1 h2;have fU:=(h.os.2 j h2).pos;refine zAM (eqB (uZ G.toMon c3 (at0 x.zA j).toNat)) (by omega) (bad:=yZ.mk 1 k j 0) (kb (by decide)) ?_;unfold zR5;rw[yN h2,zJ,zE (by omega) (by omega),bs,cs,c1,bs,zE (by omega) (by omega),bs,zE (by omega) (by omega),bs,c2,bs,yG h2,bs,zKp h hk hc c3 (by omega) (by omega),bs,p1,bs,hI _ p2,bs]) (by
   unfold zR5;simp)with⟨g1,g2⟩|⟨r,j,j1,j2,g1,g2,g3⟩
 rotate_left
 ·rw[g1,bs]
  exact .inr ⟨r,rfl,g2,fun q=>g3 (q.c1 j j1 j2)⟩
 rw[g1,bs];simp only
 rw[bs];rcases zKo (body:=zR7 x k) x.zA.length (k+1) (by omega) (fun i=> ∀j,i+1≤j→j<x.zA.length→
   mul (suf x (k+1)) ((lvl x k).cs.getD (j-(k+1)) []) ((lvl x k).cs.getD (i-(k+1)) [])=mul (suf x (k+1)) ((lvl x k).cs.getD (i-(k+1)) []) (sig (suf x (k+1)) (lvl x k) (((x.zD.getD i []).getD (j-(i+1)) []).drop (k+1)))) KB (fun i h1 h2 _=>by
   obtain⟨c1,c2,c3⟩:=jR h hk h1 h2;unfold zR7;rw[yN h2,zJ,zE (by omega) (by omega),bs,cs];rcases zKo (body:=zR6 x k i) x.zA.length (i+1) (by omega) (fun j=>mul (suf x (k+1)) ((lvl x k).cs.getD (j-(k+1)) []) ((lvl x k).cs.getD (i-(k+1)) [])=mul (suf x (k+1)) ((lvl x k).cs.getD (i-(k+1)) []) (sig (suf x (k+1)) (lvl x k) (((x.zD.getD i []).getD (j-(i+1)) []).drop (k+1)))) KB (fun j h3 h4 _=>by
     obtain⟨d1,d2,d3⟩:=jR h hk (j:=j) (by omega) h4;obtain⟨e1,e2,e3⟩:=zQG h hk h1 h3 h4;refine zAM (eqB (xN ok d3 c3)) (by omega) (bad:=yZ.mk 2 k i j) (kb (by decide)) ?_;unfold zR6;rw[yN h4,zJ,d1,bs,zE (by omega) (by omega),bs,zE (by omega) (by omega),bs,c2,bs,bs,zE (by omega) (by omega),bs,zE (by omega) (by omega),bs,d2,bs,e1,bs,zE (by omega) (by omega),bs,zE (by omega) (by omega),bs,e2,bs,hI _ e3,bs,zE (by omega) (by omega),bs,cs,hA _ _ d3 c3,bs,bs,hA _ _ c3 (cX _ e3),bs]) (by
     unfold zR6;simp)with⟨g1,g2⟩|⟨r,j,j1,j2,g1,g2,g3⟩
   ·grind
   grind) (by
   unfold zR7;simp)with⟨k1,k2⟩|⟨r,j,j1,j2,k1,k2,k3⟩
 rotate_left
 ·rw[k1,bs]
  exact .inr ⟨r,rfl,k2,fun q=>k3 (q.c2 j j1 j2)⟩
 rw[k1,bs];simp only
 rw[w1,bs,hI _ w2,bs];rcases eqB (b:=(lvl x k).w) (cX _ w2)with⟨m1,m2⟩|⟨m1,m2⟩
 rotate_left
 ·rw[m1,bs,Ju,zJ]
  exact .inr ⟨_,rfl,kb (by decide),fun q=>m2 q.c3⟩
 rw[m1,bs,J9,zK,bs];rcases zKo (body:=zR9 x k (fv (k+1) (lvl x k).w)) x.zA.length (k+1) (by omega) (fun j=>mul (suf x (k+1)) (lvl x k).w (iter (lvl x k).o.toNat (sig (suf x (k+1)) (lvl x k)) (wK (x.zA.length-(k+1)) (j-(k+1))))=mul (suf x (k+1)) (wK (x.zA.length-(k+1)) (j-(k+1))) (lvl x k).w) KB (fun j h1 h2 _=>by
   have hU:=zLR h (k:=k+1) (by omega) hc (i:=j-(k+1)) (by omega);have fU:=(h.os.2 k hk).pos;have eg:V (suf x (k+1)) (iter (lvl x k).o.toNat (sig (suf x (k+1)) (lvl x k)) (wK (x.zA.length-(k+1)) (j-(k+1)))):=vD cX _ hU;refine zAM (eqB (xN ok w2 eg)) (by omega) (bad:=yZ.mk 4 k j 0) (kb (by decide)) ?_;unfold zR9;rw[yN h2,zJ,zO2 h hk h1 h2,bs];rw[vJ (S:=V (suf x (k+1))) (body:=zR8 x k) (fun u=>fv (k+1) u) (sig (suf x (k+1)) (lvl x k)) (at0 x.zA k) (by omega) cX (fun u i hu hi=>by
    unfold zR8;simp only
    rw[yG hk,bs,dP hi,zJ,hI _ hu,bs,zE (by omega) (by omega),bs,cs]) (fun u hu=>by
    unfold zR8;simp only
    rw[yG hk,bs,dO (by omega),zK]) hU,bs,zE (by omega) (by omega),bs,cs]
   have ho:(lvl x k).o=at0 x.zA k:=rfl;rw[←ho,hA _ _ w2 eg,bs,bs,hA _ _ hU w2,bs]) (by
   unfold zR9;simp)with⟨n1,n2⟩|⟨r,j,j1,j2,n1,n2,n3⟩
 ·rw[n1,bs]
  exact .inl ⟨rfl,⟨g2,k2,m2,n2⟩⟩
 ·rw[n1,bs]
  exact .inr ⟨r,rfl,n2,fun q=>n3 (q.c4 j j1 j2)⟩
end
end Go.Pl

namespace Go.Pl
open Go Go.Ab Go.Wk Go.Pc
theorem zE1{m:Vec→Vec→Vec}:∀(i:Nat)(cs:List Vec)(w acc:Vec),i≤cs.length→img m cs (zeros i++w) acc=img m (cs.drop i) w acc
 |0,cs,w,acc,_=>rfl
 |i+1,[],w,acc,h=>by simp at h
 |i+1,c::cs,w,acc,h=>by show img m (c::cs) (0::(zeros i++w)) acc=_;simp only[img,Hn,iter,List.drop_succ_cons];exact zE1 i cs w acc (by grind)
theorem zG3{x:SPr}{v:List Int}{j k:Nat}(h:Exp x.zA v j)(hj:j<x.zA.length)(hk:k≤j+1):v.drop k=zeros (j+1-k)++v.drop (j+1):=by
 have:=zAK h hj
 grind[zeros]
section
variable {x:SPr} (h:zCB x) {k:Nat} (hk:k<x.zA.length)
 include h hk
theorem kQ:(lvl x k).cs.length=x.zA.length-(k+1):=by have ok0:=h.okAt (k:=k) (by omega);rw[yL hk]at ok0;rw[ok0.2.2.1,xK]
theorem zTx{j:Nat}(h1:k+1≤j)(h2:j<x.zA.length):sig (suf x (k+1)) (lvl x k) ((x.zU.getD j []).drop (k+1))=img (mul (suf x (k+1))) ((lvl x k).cs.drop (j-k)) (lvl x j).w (zeros (suf x (k+1)).length):=by have t1:=(h.tl j h2).1;have gI:=kQ h hk;rw[zG3 t1 h2 (by omega),sig,zE1 _ _ _ _ (by omega),show j+1-(k+1)=j-k from by omega];rfl
theorem zNG:∀(d i:Nat),k+1+i+d=x.zA.length→(Rel (mul (suf x (k+1))) (zeros (suf x (k+1)).length) (suf x (k+1+i)) ((lvl x k).cs.drop i)↔
  (∀j,k+1+i≤j→j<x.zA.length→pw (mul (suf x (k+1))) (zeros (suf x (k+1)).length) ((lvl x k).cs.getD (j-(k+1)) []) (at0 x.zA j).toNat=sig (suf x (k+1)) (lvl x k) ((x.zU.getD j []).drop (k+1)))∧
  (∀a,k+1+i≤a→a<x.zA.length→ ∀j,a+1≤j→j<x.zA.length→
   mul (suf x (k+1)) ((lvl x k).cs.getD (j-(k+1)) []) ((lvl x k).cs.getD (a-(k+1)) [])=mul (suf x (k+1)) ((lvl x k).cs.getD (a-(k+1)) []) (sig (suf x (k+1)) (lvl x k) (((x.zD.getD a []).getD (j-(a+1)) []).drop (k+1)))))
 |0,i,hi=>by
  have gI:=kQ h hk;rw[uH (x:=x) (k:=k+1+i) (by omega),Gm (by omega)];simp only[Rel,true_iff]
  grind
 |d+1,i,hi=>by
  have gI:=kQ h hk;have ih:=zNG d (i+1) (by omega);rw[show k+1+(i+1)=k+1+i+1 from by omega]at ih;have hj:k+1+i<x.zA.length:=by omega
  have hg:(lvl x k).cs.drop i=(lvl x k).cs.getD i []::(lvl x k).cs.drop (i+1):=by rw[H2 (by omega),J3,J4 (by omega)];rfl
  rw[yL hj,hg];simp only[Rel];rw[ih];have e1:=zTx h hk (j:=k+1+i) (by omega) hj;rw[show k+1+i-k=i+1 from by omega]at e1;have ho:(lvl x (k+1+i)).o=at0 x.zA (k+1+i):=rfl;rw[ho,←e1];have e2:∀j,k+1+i+1≤j→j<x.zA.length→ ∀dd,(lvl x (k+1+i)).cs[j-(k+1+i+1)]? =dJ dd→img (mul (suf x (k+1))) ((lvl x k).cs.drop (i+1)) dd (zeros (suf x (k+1)).length)=sig (suf x (k+1)) (lvl x k) (((x.zD.getD (k+1+i) []).getD (j-(k+1+i+1)) []).drop (k+1)):=fun j h1 h2 dd hdd=>by
   obtain⟨_,t2,t3⟩:=h.tl (k+1+i) hj;have t:=t3 (j-(k+1+i+1)) (by omega);rw[zG3 t hj (by omega),sig,zE1 _ _ _ _ (by omega),show k+1+i+1-(k+1)=i+1 from by omega]
   congr 1
   simp only[lvl,Jp,Kq]at hdd
   grind
  have e3:∀j,k+1+i+1≤j→j<x.zA.length→((lvl x k).cs.drop (i+1))[j-(k+1+i+1)]? =dJ ((lvl x k).cs.getD (j-(k+1)) [])∧ ∃dd,(lvl x (k+1+i)).cs[j-(k+1+i+1)]? =dJ dd:=fun j h1 h2=>by
   have dx:=kQ h hj;refine⟨?_,?_⟩
   ·rw[H0,show i+1+(j-(k+1+i+1))=j-(k+1)from by omega,J3,J4 (by omega)];rfl
   ·exact⟨_,J4 (by omega)⟩
  constructor
  ·rintro⟨a1,a2,a3,a4⟩
   refine⟨fun j h1 h2=>?_,fun a h1 h2 j h3 h4=>?_⟩
   ·rcases Jd (k+1+i) j with gE|hge
    ·grind
    ·obtain rfl:j=k+1+i:=by omega
     rw[show k+1+i-(k+1)=i from by omega];exact a1
   ·rcases Jd (k+1+i) a with gE|hge
    ·exact a4 a (by omega) h2 j h3 h4
    ·obtain rfl:a=k+1+i:=by omega
     obtain⟨f1,dd,f2⟩:=e3 j (by omega) h4;have:=a2 _ _ _ f1 f2;rw[e2 j (by omega) h4 dd f2]at this;rw[show k+1+i-(k+1)=i from by omega];exact this
  ·rintro⟨a1,a2⟩
   refine⟨?_,fun kk c dd h1 h2=>?_,by grind,by grind⟩
   ·have:=a1 (k+1+i) (by omega) hj
    rw[show k+1+i-(k+1)=i from by omega]at this;exact this
   ·have gE:kk<x.zA.length-(k+1+i+1):=by
     have:=(Jk.1 h1).1;rw[Ki]at this;omega
    have g:=a2 (k+1+i) (by omega) hj (k+1+i+1+kk) (by omega) (by omega);obtain⟨f1,_⟩:=e3 (k+1+i+1+kk) (by omega) (by omega);rw[show k+1+i+1+kk-(k+1+i+1)=kk from by omega]at f1 g;rw[h1]at f1;have f1:=Hf.inj f1;have g2:=e2 (k+1+i+1+kk) (by omega) (by omega) dd (by rw[show k+1+i+1+kk-(k+1+i+1)=kk from by omega];exact h2);rw[show k+1+i+1+kk-(k+1+i+1)=kk from by omega]at g2;rw[g2,f1];rw[show k+1+i-(k+1)=i from by omega]at g;exact g
theorem zAN:vH (suf x k)↔vH (suf x (k+1))∧LC x k:=by
 have hr:=zNG h hk (x.zA.length-(k+1)) 0 (by omega);have hl:=xK x (k+1);rw[Ga,Gt]at hr;rw[yL hk];simp only[vH];rw[hr];constructor
 ·rintro⟨a,⟨b1,b2⟩,c,d⟩
  refine⟨a,⟨b1,b2,c,fun j h1 h2=>?_⟩⟩
  grind
 ·rintro⟨a,b⟩
  refine⟨a,⟨b.c1,b.c2⟩,b.c3,fun j hj=>?_⟩;have:=b.c4 (k+1+j) (by omega) (by omega);rw[show k+1+j-(k+1)=j from by omega]at this
  rwa [hl]
end
theorem zCo{x:SPr}(h:vH (suf x 0))(k:Nat):vH (suf x k):=by
 have:=zDH h k
 grind
def zBj(x:SPr):Prop:=Pres x∧vH (suf x 0)∧zEV x
theorem zDJ{x:SPr}(hl:x.zA.length≤1048576):IsB (zTS x) (zBj x):=by
 unfold zTS;rcases sH hl with⟨h1,h2⟩|⟨h1,h2⟩
 ·have h6:=h2.os.1
  rw[h1,bs,zJ];unfold f_P;obtain⟨r,r1,r2⟩:=vW (body:=zKU x) (Q:=fun r=> ∃s:Nat,r=(s:Int)∧vH (suf x s)∧(s=0∨ ¬vH (suf x (s-1)))) (fun i s=>i≤x.zA.length∧s=((x.zA.length-i:Nat):Int)∧vH (suf x (x.zA.length-i))) x.zA.length (fun i s hi ⟨_,hs,gM⟩=>by
    subst hs;have hk:x.zA.length-i-1<x.zA.length:=by omega
    have e9:x.zA.length-(i+1)=x.zA.length-i-1:=by omega
    rw[e9];have e8:i+1≤x.zA.length:=by omega
    rw[show x.zA.length-i=x.zA.length-i-1+1 from by omega]at gM ⊢
    have cG:=zG2 h2.toPres hk gM;have cI:=zAN h2.toPres.w hk
    generalize x.zA.length-i-1=k at*
    unfold zKU;rw[dP (by omega),zJ,zE (by omega) (by omega),bs,show(((k+1:Nat):Int)-1)=(k:Int)from by omega];rcases cG with⟨g1,g2⟩|⟨r,g1,g2,g3⟩
    ·simp_all
    grind) (fun s ⟨_,hs,gM⟩=>by
    rw[Kc]at hs gM;subst hs;unfold zKU
    grind) (s:=(x.zA.length:Int)) ⟨by omega,by rfl,by rw[Gb,uH (by omega)];simp only[vH]⟩
  obtain⟨s,rfl,gM,hs⟩:=r2;rw[r1,bs,bs];cases s with
  |zero=>exact .inl ⟨rfl,h2.toPres,gM,h2⟩
  |succ s=>
   refine .inr ⟨?_,fun q=>?_⟩
   ·congr 1
   ·rcases hs with hs|hs
    ·omega
    ·exact hs (zCo q.2.1 _)
 ·rw[h1,bs,zK]
  exact .inr ⟨rfl,fun q=>h2 q.2.2⟩
theorem zLU{x:SPr}(hl:x.zA.length≤1048576):IsB (zTM x) (zBj x):=by
 unfold zTM;rcases sJ hl with⟨h1,h2⟩|⟨h1,h2⟩
 ·have h6:=h2.os.1
  rw[h1,bs,zJ];unfold zWs zWr;rw[zE (by omega) (by omega),bs];obtain⟨r,r1,r2⟩:=vW (body:=zKQ x) (Q:=fun r=>(r=.inl ()∧vH (suf x 0))∨ ∃f,r=.inr f∧f.Kind≠0∧ ¬vH (suf x 0)) (fun i s=>i≤x.zA.length∧s=((x.zA.length-i:Nat):Int)-1∧vH (suf x (x.zA.length-i))) x.zA.length (fun i s hi ⟨_,hs,gM⟩=>by
    subst hs;have hk:x.zA.length-i-1<x.zA.length:=by omega
    have e9:x.zA.length-(i+1)=x.zA.length-i-1:=by omega
    rw[e9];have e8:i+1≤x.zA.length:=by omega
    rw[show x.zA.length-i=x.zA.length-i-1+1 from by omega]at gM ⊢
    have cG:=zLT h2.toPres hk gM;have cI:=zAN h2.toPres.w hk
    generalize x.zA.length-i-1=k at*
    unfold zKQ;rw[show(((k+1:Nat):Int)-1)=(k:Int)from by omega,dP (by omega),zJ];rcases cG with⟨g1,g2⟩|⟨r,g1,g2,g3⟩
    ·left
     rw[g1,bs];simp only
     rw[show((0:Int) != 0)=dM from rfl,zK,zE (by omega) (by omega),bs]
     grind
    ·right
     rw[g1,bs,show(r.Kind != 0)=dL from by grind,zJ];exact⟨_,rfl,.inr ⟨r,rfl,g2,by grind[zCo]⟩⟩) (fun s ⟨_,hs,gM⟩=>by
    rw[Kc]at hs gM;subst hs;unfold zKQ
    grind) (s:=(x.zA.length:Int)-1) ⟨by omega,by rfl,by rw[Gb,uH (by omega)];simp only[vH]⟩
  rw[r1,bs];rcases r2 with⟨rfl,q⟩|⟨f,rfl,g1,g2⟩
  ·exact .inl ⟨rfl,h2.toPres,q,h2⟩
  ·simp only
   rw[bs,show(f.Kind==0)=dM from by grind];exact .inr ⟨rfl,fun q=>g2 q.2.1⟩
 ·rw[h1,bs,zK]
  exact .inr ⟨rfl,fun q=>h2 q.2.2⟩
end Go.Pl

namespace Go.Pl
open Go Go.Ab Go.Wk
abbrev Mx:=List (List Int)
def S:Nat→(Nat→Int)→Int
 |0,_=>0
 |n+1,f=>S n f+f n
theorem vF{n:Nat}{f g:Nat→Int}(h:∀i,i<n→f i=g i):S n f=S n g:=by
 induction n with
 |zero=>rfl
 |succ n ih=>simp only[S];rw[ih fun i hi=>h i (by omega),h n (by omega)]
theorem zDK{p:Int}{f g:Nat→Int}:∀{n:Nat},(∀i,i<n→f i%p=g i%p)→S n f%p=S n g%p
 |0,_=>rfl
 |n+1,h=>by simp only[S];rw[K6,zDK (n:=n) fun i hi=>h i (by omega),h n (by omega),←K6]
theorem jZ:∀n:Nat,S n (fun _=>0)=0
 |0=>rfl
 |n+1=>by simp only[S,jZ n];rfl
theorem zKq{f g:Nat→Int}:∀n:Nat,S n (fun i=>f i+g i)=S n f+S n g
 |0=>rfl
 |n+1=>by simp only[S,zKq n];omega
theorem zQH{f:Nat→Int}(a:Int):∀n:Nat,S n (fun i=>f i*a)=S n f*a
 |0=>by simp[S]
 |n+1=>by simp only[S,zQH a n,Uk]
theorem zE2{f:Nat→Int}(a:Int):∀n:Nat,S n (fun i=>a*f i)=a*S n f
 |0=>by simp[S]
 |n+1=>by simp only[S,zE2 a n,Int.mul_add]
theorem zLV{f:Nat→Nat→Int}(m:Nat):∀n:Nat,S n (fun i=>S m (fun j=>f i j))=S m (fun j=>S n (fun i=>f i j))
 |0=>by simp only[S];exact(jZ m).symm
 |n+1=>by simp only[S];rw[zLV m n,zKq]
theorem zAO{f:Nat→Int}{k:Nat}:∀{n:Nat},k<n→(∀i,i<n→i≠k→f i=0)→S n f=f k
 |0,h,_=>by omega
 |n+1,h,hz=>by
  simp only[S]
  by_cases hk:k=n
  ·subst hk
   rw[vF (g:=fun _=>0) fun i hi=>hz i (by omega) (by omega),jZ];omega
  ·rw[zAO (n:=n) (by omega) fun i hi=>hz i (by omega),hz n (by omega) (by omega)];omega
def mkv(D:Nat)(f:Nat→Int):List Int:=(Jl D).map f
theorem zX(D:Nat)(f:Nat→Int):(mkv D f).length=D:=by simp[mkv]
theorem zCp{D:Nat}{f:Nat→Int}{i:Nat}(h:i<D):(mkv D f)[i]? =dJ (f i):=by simp[mkv,h]
theorem yH{D:Nat}{f:Nat→Int}{i:Nat}(h:i<D):at0 (mkv D f) i=f i:=by rw[at0,J3,zCp h];rfl
theorem yA{D:Nat}{f g:Nat→Int}(h:∀i,i<D→f i=g i):mkv D f=mkv D g:=by unfold mkv;apply U6;intro i hi;exact h i (by simpa using hi)
theorem jH{D:Nat}{f:Nat→Int}{j:Nat}{a:Int}:(mkv D f).set j a=mkv D (fun i=>if i=j then a else f i):=by
 apply K9;intro i;rw[Jaq,zX]
 by_cases hi:i<D
 ·by_cases eh:j=i
  ·subst eh;rw[if_pos rfl,if_pos hi,zCp hi,if_pos rfl]
  ·rw[if_neg eh,zCp hi,zCp hi,if_neg fun h=>eh h.symm]
 ·have h1:∀g:Nat→Int,(mkv D g)[i]? =dK:=fun g=>Jq (by rw[zX];omega)
  rw[h1,h1]
  by_cases eh:j=i
  ·subst eh;rw[if_pos rfl,if_neg hi]
  ·rw[if_neg eh]
theorem vO{v:List Int}{D:Nat}(h:v.length=D):v=mkv D (at0 v):=by
 apply K9;intro i
 by_cases hi:i<D
 ·rw[zCp hi,at0,J3,J4 (by omega)];rfl
 ·rw[Jq (by omega),Jq (by rw[zX];omega)]
theorem tV(D:Nat):J1 D (0:Int)=mkv D (fun _=>0):=by
 apply K9;intro i
 by_cases hi:i<D
 ·rw[zCp hi];simp[hi]
 ·rw[Jq (by simp;omega),Jq (by rw[zX];omega)]
abbrev ent(B:Mx)(l j:Nat):Int:=at0 (B.getD l []) j
def tW(p:Int)(D:Nat)(r:List Int)(B:Mx):List Int:=mkv D fun j=>S D (fun l=>at0 r l*ent B l j)%p
def PM(p:Int)(D:Nat)(A B:Mx):Mx:=A.map fun r=>tW p D r B
def idM(D:Nat):Mx:=(Jl D).map fun i=>mkv D fun j=>if j=i then 1 else 0
def Row(p:Int)(D:Nat)(r:List Int):Prop:=r.length=D∧ ∀i,i<D→0≤at0 r i∧at0 r i≤p-1
def Mat(p:Int)(D:Nat)(A:Mx):Prop:=A.length=D∧ ∀i,i<D→Row p D (A.getD i [])
theorem zBk{p:Int}{D i:Nat}{A B:Mx}(h:i<A.length):(PM p D A B).getD i []=tW p D (A.getD i []) B:=by simp only[PM,J3,Jp,J4 h];rfl
theorem vM{p:Int}{D:Nat}{A B:Mx}:(PM p D A B).length=A.length:=by simp[PM]
theorem zBl{p:Int}{D:Nat}{A B:Mx}(hp:0<p)(hA:A.length=D):Mat p D (PM p D A B):=by refine⟨by rw[vM,hA],fun i hi=>?_⟩;rw[zBk (by omega)];refine⟨by rw[tW,zX],fun j hj=>?_⟩;rw[tW,yH hj];have h1:=Kx (S D fun l=>at0 (A.getD i []) l*ent B l j) (show p≠0 by omega);have h2:=Kd (S D fun l=>at0 (A.getD i []) l*ent B l j) hp;omega
theorem zLW{p:Int}{D i j:Nat}{A B:Mx}(hA:A.length=D)(hi:i<D)(hj:j<D):ent (PM p D A B) i j=S D (fun l=>ent A i l*ent B l j)%p:=by rw[ent,zBk (by omega),tW,yH hj]
theorem zG4{D:Nat}{A B:Mx}(hA:A.length=D)(hB:B.length=D)(h:∀i,i<D→A.getD i []=B.getD i []):A=B:=by
 apply K9;intro i
 by_cases hi:i<D
 ·have:=h i hi
  rw[J3,J3,J4 (by omega),J4 (by omega)]at this;rw[J4 (by omega),J4 (by omega)];exact congrArg dJ this
 ·rw[Jq (by omega),Jq (by omega)]
theorem zKr{p:Int}{D:Nat}{A B C:Mx}(hA:A.length=D)(hB:B.length=D):PM p D (PM p D A B) C=PM p D A (PM p D B C):=by
 refine zG4 (by rw[vM,vM,hA]) (by rw[vM,hA]) fun i hi=>?_
 rw[zBk (A:=PM p D A B) (by rw[vM];omega),zBk (A:=A) (B:=PM p D B C) (by omega)];unfold tW;refine yA fun j hj=>?_
 have e1:S D (fun l=>at0 ((PM p D A B).getD i []) l*ent C l j)%p=S D (fun l=>S D (fun q=>ent A i q*ent B q l)*ent C l j)%p:=zDK fun l hl=>by
  have:=zLW (p:=p) (B:=B) hA hi hl;simp only[ent]at this ⊢
  rw[this,Jo,Js,←Jo]
 have e2:S D (fun l=>at0 (A.getD i []) l*ent (PM p D B C) l j)%p=S D (fun q=>ent A i q*S D (fun l=>ent B q l*ent C l j))%p:=zDK fun q hq=>by rw[zLW hB hq hj,Jo,Js,←Jo]
 rw[e1,e2]
 congr 1
 have e3:(fun l=>S D (fun q=>ent A i q*ent B q l)*ent C l j)=fun l=>S D (fun q=>ent A i q*ent B q l*ent C l j):=funext fun l=>(zQH _ _).symm
 have e4:(fun q=>ent A i q*S D (fun l=>ent B q l*ent C l j))=fun q=>S D (fun l=>ent A i q*ent B q l*ent C l j):=funext fun q=>by rw[←zE2];exact vF fun l _=>by rw[H6]
 rw[e3,e4];exact zLV D D
theorem uS(D:Nat):(idM D).length=D:=by simp[idM]
theorem zCq{D i:Nat}(h:i<D):(idM D).getD i []=mkv D fun j=>if j=i then 1 else 0:=by simp[idM,J3,h]
theorem kN{p:Int}{D:Nat}(hp:2≤p):Mat p D (idM D):=by refine⟨uS D,fun i hi=>?_⟩;rw[zCq hi];refine⟨zX _ _,fun j hj=>?_⟩;rw[yH hj];split<;>omega
theorem kR{p a:Int}(h:0≤a∧a≤p-1):a%p=a:=Jv h.1 (by omega)
theorem zIV{p:Int}{D:Nat}{B:Mx}(hB:Mat p D B):PM p D (idM D) B=B:=by
 refine zG4 (by rw[vM,uS]) hB.1 fun i hi=>?_
 rw[zBk (by rw[uS];exact hi),zCq hi,tW];obtain⟨h1,h2⟩:=hB.2 i hi;refine Eq.trans (yA fun j hj=>?_) (vO h1).symm;rw[zAO (k:=i) hi fun l hl gf=>by rw[yH hl,if_neg gf,Hx],yH hi,if_pos rfl,Ut];exact kR (h2 j hj)
theorem zKs{p:Int}{D:Nat}{A:Mx}(hA:Mat p D A):PM p D A (idM D)=A:=by
 refine zG4 (by rw[vM,hA.1]) hA.1 fun i hi=>?_
 rw[zBk (by rw[hA.1];exact hi),tW];obtain⟨h1,h2⟩:=hA.2 i hi;refine Eq.trans (yA fun j hj=>?_) (vO h1).symm;rw[zAO (k:=j) hj fun l hl gf=>by rw[ent,zCq hl,yH hj,if_neg (fun h=>gf h.symm),Hy],ent,zCq hj,yH hj,if_pos rfl,Lm];exact kR (h2 j hj)
theorem zQI{p:Int}{D i j:Nat}{B:Mx}(hB:Mat p D B)(hi:i<D)(hj:j<D):ixO B (i:Int)=dJ (B.getD i [])∧ixO (B.getD i []) (j:Int)=dJ (ent B i j)∧(B.getD i []).length=D∧0≤ent B i j∧ent B i j≤p-1:=by obtain⟨h1,h2⟩:=hB.2 i hi;have:=hB.1;exact⟨yE [] (by omega),yG (by omega),h1,h2 j hj⟩
def acc(p:Int)(D i:Nat)(r:List Int)(B:Mx):List Int:=mkv D fun j=>S i (fun l=>at0 r l*ent B l j)%p
def zC1(p:Int)(D i k:Nat)(r:List Int)(B:Mx):List Int:=mkv D fun j=>if j<k then S (i+1) (fun l=>at0 r l*ent B l j)%p else S i (fun l=>at0 r l*ent B l j)%p
theorem zHZ{p:Int}{D i:Nat}{r:List Int}{B:Mx}:zC1 p D i 0 r B=acc p D i r B:=yA fun j _=>by rw[if_neg (by omega)]
theorem zIa{p:Int}{D i:Nat}{r:List Int}{B:Mx}:zC1 p D i D r B=acc p D (i+1) r B:=yA fun j hj=>by rw[if_pos hj]
theorem zKt{p:Int}{D i k:Nat}{r:List Int}{B:Mx}(hk:k<D){a:Int}(ha:a=(at0 (zC1 p D i k r B) k+at0 r i*ent B i k)%p):(zC1 p D i k r B).set k a=zC1 p D i (k+1) r B:=by
 subst ha;simp only[zC1];rw[jH,yH hk,if_neg (by omega)];refine yA fun j hj=>?_
 by_cases hjk:j=k
 ·subst hjk
  rw[if_pos rfl,if_pos (by omega)];simp only[S];rw[Int.emod_add_emod]
 ·rw[if_neg hjk]
  by_cases gE:j<k
  ·rw[if_pos gE,if_pos (by omega)]
  ·rw[if_neg gE,if_neg (by omega)]
theorem zKu{p:Int}{D i k j:Nat}{r:List Int}{B:Mx}(hp:0<p)(hj:j<D):0≤at0 (zC1 p D i k r B) j∧at0 (zC1 p D i k r B) j≤p-1:=by
 rw[zC1,yH hj];split
 ·have h1:=Kx (S (i+1) fun l=>at0 r l*ent B l j) (show p≠0 by omega)
  have h2:=Kd (S (i+1) fun l=>at0 r l*ent B l j) hp;omega
 ·have h1:=Kx (S i fun l=>at0 r l*ent B l j) (show p≠0 by omega)
  have h2:=Kd (S i fun l=>at0 r l*ent B l j) hp;omega
theorem zG5{p:Int}{D i k:Nat}{r:List Int}{B:Mx}:(zC1 p D i k r B).length=D:=zX _ _
theorem zNH{p:Int}{D i k j:Nat}{r:List Int}{B:Mx}(hj:j<D):ixO (zC1 p D i k r B) (j:Int)=dJ (at0 (zC1 p D i k r B) j):=yG (by rw[zG5];exact hj)
theorem zKv{p:Int}{D:Nat}{r:List Int}{B:Mx}:J1 D (0:Int)=acc p D 0 r B:=by rw[tV];exact yA fun j _=>by simp[S]
theorem zIb{a b p:Int}(hp:p≤7)(ha:0≤a∧a≤p-1)(hb:0≤b∧b≤p-1):0≤a*b∧a*b≤36:=by have h1:0≤a*b:=Ho ha.1 hb.1;have h2:a*b≤6*6:=L7 (by omega) (by omega) hb.1 (by omega);omega
section
variable {p:Int}{D:Nat} (hp:Prime p) (hD:D≤8)
 include hp hD
theorem zDg{r:List Int}{B:Mx}(hr:Row p D r)(hB:Mat p D B):f_E p r B (D:Int)=dJ (tW p D r B):=by
 have h7:=hp.pos;have ai:=hB.1;have fS:=hr.1;unfold f_E;rw[yR (by omega),bs,zKv (p:=p) (r:=r) (B:=B)];have:=zO (body:=zRC p r B) (r:=acc p D D r B) (fun i=>(acc p D i r B,(i:Int))) D (fun i hi=>by
  have aH:=hr.2 i hi;unfold zRC;simp only
  rw[fS,ai,yN hi,zJ,zJ];have inner:=zO (body:=zRB p r B (acc p D i r B,(i:Int))) (r:=acc p D (i+1) r B) (fun k=>(zC1 p D i k r B,(k:Int))) D (fun k hk=>by
   obtain⟨b1,b2,b3,b4⟩:=zQI hB hi hk;have ha:=zKu (p:=p) (i:=i) (k:=k) (r:=r) (B:=B) (by omega) hk;have hm:=zIb (by omega) aH b4;unfold zRB;simp only
   rw[zG5,yN hk,zJ,b1,bs,b3,yN hk,zJ,zNH hk,bs,yG (by omega),bs,bs,b2,bs,zE (by omega) (by omega),bs,zE (by omega) (by omega),bs];have aJ:uC (at0 (zC1 p D i k r B) k+at0 r i*ent B i k) p=dJ ((at0 (zC1 p D i k r B) k+at0 r i*ent B i k)%p):=by unfold uC;rw[if_neg (by omega),Ko (by omega)]
   rw[aJ,bs,bs,zE (by omega) (by omega),bs,cs,J6,zKt hk rfl]) (by
   unfold zRB;simp only
   rw[zG5,vC,zK,zIa])
  rw[zHZ,show((0:Nat):Int)=0 from rfl]at inner;rw[inner,bs,zE (by omega) (by omega),bs,cs]) (by
  unfold zRC;simp only
  rw[fS,vC,zK])
 rw[show((0:Nat):Int)=0 from rfl]at this;rw[this,bs];rfl
theorem zIW{a:Int}(h0:0≤a)(_h1:a≤1000):zHu a p=dJ (a%p):=by
 have _:=hD;have h7:=hp.pos;have e1:=Kx a (show p≠0 by omega);have e2:=Kd a (show 0<p by omega);unfold zHu uC;rw[if_neg (by omega),bs,Ko h0,zE (by omega) (by omega),bs,if_neg (by omega),bs,Ko (by omega)]
 congr 1
 rw[Ge,Js]
theorem zE3{i:Nat}{r:List Int}{B:Mx}(hi:i<D)(hr:Row p D r)(hB:Mat p D B):f_v (acc p D i r B) (B.getD i []) (at0 r i) p=dJ (acc p D (i+1) r B):=by
 have h7:=hp.pos;have aH:=hr.2 i hi;unfold f_v;have hl:(acc p D i r B).length=D:=zX _ _;have inner:=zO (body:=zKW (acc p D i r B) (B.getD i []) (at0 r i) p) (r:=acc p D (i+1) r B) (fun k=>(zC1 p D i k r B,(k:Int))) D (fun k hk=>by
  obtain⟨b1,b2,b3,b4⟩:=zQI hB hi hk;have ha:=zKu (p:=p) (i:=i) (k:=k) (r:=r) (B:=B) (by omega) hk;have hm:=zIb (by omega) aH b4;unfold zKW;simp only
  rw[hl,yN hk,zJ,zNH hk,bs,b2,bs,zE (by omega) (by omega),bs,zE (by omega) (by omega),bs,zIW hp hD (by omega) (by omega),bs,bs,zE (by omega) (by omega),bs,cs,J6,zKt hk rfl]) (by
  unfold zKW;simp only
  rw[hl,vC,zK,zIa])
 rw[zHZ,show((0:Nat):Int)=0 from rfl]at inner;rw[inner,bs]
theorem zAP{r:List Int}{B:Mx}{q:Int}(hr:Row p D r)(hB:Mat p D B)(hq:q=(D:Int)):zSi r (zV.mk p q B)=dJ (tW p D r B):=by
 subst hq;have fS:=hr.1;unfold zSi;simp only
 rw[yR (by omega),bs,zKv (p:=p) (r:=r) (B:=B)];have:=zO (body:=zKX r (zV.mk p (D:Int) B)) (r:=acc p D D r B) (fun i=>(acc p D i r B,(i:Int))) D (fun i hi=>by
  have ai:=hB.1;unfold zKX;simp only
  rw[fS,yN hi,zJ,yG (by omega),bs,yE [] (by omega),bs,zE3 hp hD hi hr hB,bs,zE (by omega) (by omega),bs,cs]) (by
  unfold zKX;simp only
  rw[fS,vC,zK])
 rw[show((0:Nat):Int)=0 from rfl]at this;rw[this,bs];rfl
theorem zIc{A B:Mx}{i:Nat}(hi:i<A.length):(PM p D A B).take i++[tW p D (A.getD i []) B]=(PM p D A B).take (i+1):=by
 have _:=hp;have _:=hD;rw[Jj (by rw[vM];exact hi)]
 congr 2
 have:=zBk (p:=p) (D:=D) (B:=B) hi;rw[J3,J4 (by rw[vM];exact hi)]at this;exact this.symm
theorem jI{A B:Mx}(hA:Mat p D A)(hB:Mat p D B):f_U p A B (D:Int)=dJ (PM p D A B):=by
 have fH:=hA.1;unfold f_U;have:=zO (body:=zRD p A B (D:Int)) (r:=PM p D A B) (fun i=>((PM p D A B).take i,(i:Int))) D (fun i hi=>by
  unfold zRD;simp only
  rw[fH,yN hi,zJ,yE [] (by omega),bs,zDg hp hD (hA.2 i hi) hB,bs,zZ (by rw[Jr,vM];simp;omega),bs,zE (by omega) (by omega),bs,cs,zIc hp hD (by omega)]) (by
  unfold zRD;simp only
  rw[fH,vC,zK,Ji (by rw[vM];omega)])
 rw[show((0:Nat):Int)=0 from rfl,Jz]at this;rw[this,bs]
theorem zHl{A B:Mx}{q:Int}(hA:Mat p D A)(hB:Mat p D B):zTV (zV.mk p q A) (zV.mk p (D:Int) B)=dJ (zV.mk p (D:Int) (PM p D A B)):=by
 have fH:=hA.1;unfold zTV;have:=zO (body:=zKY (zV.mk p q A) (zV.mk p (D:Int) B)) (r:=PM p D A B) (fun i=>((PM p D A B).take i,(i:Int))) D (fun i hi=>by
  unfold zKY;simp only
  rw[fH,yN hi,zJ,yE [] (by omega),bs,zAP hp hD (hA.2 i hi) hB rfl,bs,zZ (by rw[Jr,vM];simp;omega),bs,zE (by omega) (by omega),bs,cs,zIc hp hD (by omega)]) (by
  unfold zKY;simp only
  rw[fH,vC,zK,Ji (by rw[vM];omega)])
 rw[show((0:Nat):Int)=0 from rfl,Jz]at this;rw[this,bs]
theorem zKw{i:Nat}(_hi:i<D):(J1 D (0:Int)).set i 1=mkv D fun j=>if j=i then 1 else 0:=by have _:=hp;have _:=hD;rw[tV,jH]
theorem zNI{i:Nat}(hi:i<D):(idM D).take i++[mkv D fun j=>if j=i then 1 else 0]=(idM D).take (i+1):=by
 have _:=hp;have _:=hD;rw[Jj (by rw[uS];exact hi)]
 congr 2
 have:=zCq hi;rw[J3,J4 (by rw[uS];exact hi)]at this;exact this.symm
theorem zG6:f_I (D:Int)=dJ (idM D):=by
 unfold f_I;have:=zO (body:=zKR (D:Int)) (r:=idM D) (fun i=>((idM D).take i,(i:Int))) D (fun i hi=>by
  unfold zKR;simp only
  rw[yN hi,zJ,yR (by omega),bs,vE,K3,if_pos hi,bs,J6,zKw hp hD hi,zZ (by rw[Jr,uS];simp;omega),bs,zE (by omega) (by omega),bs,cs,zNI hp hD hi]) (by
  unfold zKR;simp only
  rw[vC,zK,Ji (by rw[uS];omega)])
 rw[show((0:Nat):Int)=0 from rfl,Jz]at this;rw[this,bs]
theorem zHm:zTU p (D:Int)=dJ (zV.mk p (D:Int) (idM D)):=by
 unfold zTU;have:=zO (body:=zIt (D:Int)) (r:=idM D) (fun i=>((idM D).take i,(i:Int))) D (fun i hi=>by
  unfold zIt;simp only
  rw[yN hi,zJ,yR (by omega),bs,vE,K3,if_pos hi,bs,J6,zKw hp hD hi,zZ (by rw[Jr,uS];simp;omega),bs,zE (by omega) (by omega),bs,cs,zNI hp hD hi]) (by
  unfold zIt;simp only
  rw[vC,zK,Ji (by rw[uS];omega)])
 rw[show((0:Nat):Int)=0 from rfl,Jz]at this;rw[this,bs]
end
end Go.Pl

namespace Go.Pl
open Go Go.Ab Go.Wk Go.Pc
def nw:Nat→List Int→List Nat
 |_,[]=>[]
 |o,a::v=>J1 a.toNat o++nw (o+1) v
theorem zE4:∀(o:Nat)(u v:List Int),nw o (u++v)=nw o u++nw (o+u.length) v
 |o,[],v=>by simp[nw]
 |o,a::u,v=>by
  simp only[Lg,nw,zE4 (o+1) u v,Jb,K4]
  grind
theorem zIX{v:List Int}{i:Nat}(h:i<v.length):nw 0 (v.take (i+1))=nw 0 (v.take i)++J1 (at0 v i).toNat i:=by
 rw[Jj h,zE4,Jr,Li (by omega),J8];simp only[nw,Jg]
 grind
theorem zQJ{n:Nat}:∀(o:Nat)(v:List Int),o+v.length≤n→ ∀w∈nw o v,w<n
 |o,[],_,w,h=>by grind[nw]
 |o,a::v,hv,w,h=>by
  simp only[nw,L5,K4]at h hv;rcases h with h|h
  ·grind
  ·exact zQJ (o+1) v (by omega) w h
theorem zG7:∀(o:Nat)(v:List Int),(∀i,i<v.length→at0 v i≤6)→(nw o v).length≤6*v.length
 |o,[],_=>by simp[nw]
 |o,a::v,h=>by
  have h0:=h 0 (by simp);have:=zG7 (o+1) v fun i hi=>by
   have:=h (i+1) (by grind)
   grind
  simp only[at0,U7]at h0
  grind[nw]
def wM(p:Int)(D:Nat)(A:List Mx)(ws:List Nat)(B:Mx):Mx:=ws.foldl (fun B w=>PM p D B (A.getD w [])) B
theorem zE5{p:Int}{D:Nat}{A:List Mx}{u v:List Nat}{B:Mx}:wM p D A (u++v) B=wM p D A v (wM p D A u B):=by simp[wM,Ja9]
theorem zG8{p:Int}{D:Nat}{A:List Mx}{w:Nat}:∀(k:Nat)(B:Mx),wM p D A (J1 k w) B=iter k (fun B=>PM p D B (A.getD w [])) B
 |0,_=>rfl
 |k+1,B=>by rw[Km];show wM p D A (J1 k w) (PM p D B (A.getD w []))=_;rw[zG8 k];rfl
theorem zE6{p:Int}{D:Nat}{A:List Mx}(hp:0<p):∀(ws:List Nat){B:Mx},Mat p D B→Mat p D (wM p D A ws B)
 | [],_,hB=>hB
 |_w::ws,_,hB=>zE6 hp ws (zBl hp hB.1)
theorem zQK{p:Int}{D:Nat}{A:List Mx}(hp:0<p){C:Mx}(hC:C.length=D):∀(ws:List Nat){B:Mx},Mat p D B→wM p D A ws (PM p D C B)=PM p D C (wM p D A ws B)
 | [],_,_=>rfl
 |w::ws,B,hB=>by show wM p D A ws (PM p D (PM p D C B) (A.getD w []))=PM p D C (wM p D A ws (PM p D B (A.getD w [])));rw[zKr hC hB.1,zQK hp hC ws (zBl hp hB.1)]
structure MOk (n:Nat) (m:zC) (D:Nat):Prop where
 p:Prime m.Prime
 d:m.Dim=(D:Int)
 d1:1≤D
 d3:D≤3
 len:m.zI.length=n
 mat:∀i,i<n→Mat m.Prime D (m.zI.getD i [])
structure zVT (n:Nat) (m:zC) (D:Nat):Prop where
 p:Prime m.Prime
 d:m.Dim=(D:Int)
 d3:D≤30
 len:m.zI.length=n
 mat:∀i,i<n→Mat m.Prime D (m.zI.getD i [])
theorem MOk.x{n D:Nat}{m:zC}(h:MOk n m D):zVT n m D:=⟨h.p,h.d,by have:=h.d3;omega,h.len,h.mat⟩
structure zVU (n:Nat) (m:zC) (D:Nat):Prop where
 p:Prime m.Prime
 d1:1≤D
 d3:D≤200
 len:m.zI.length=n
 mat:∀i,i<n→Mat m.Prime D (m.zI.getD i [])
theorem MOk.b{n D:Nat}{m:zC}(h:MOk n m D):zVU n m D:=⟨h.p,h.d1,by have:=h.d3;omega,h.len,h.mat⟩
section
variable {n D:Nat}{m:zC} (hm:MOk n m D) (hn:n≤9)
 include hm hn
theorem zKx{v:List Int}(hl:v.length=n)(hv:∀i,i<n→0≤at0 v i∧at0 v i≤6):f_J m v=dJ (wM m.Prime D m.zI (nw 0 v) (idM D)):=by
 have h7:=hm.p.pos;have h3:=hm.d3;have gm:=hm.len;unfold f_J;rw[hm.d,zG6 hm.p (by omega),bs];have hI:∀i,Mat m.Prime D (wM m.Prime D m.zI (nw 0 (v.take i)) (idM D)):=by grind[zE6,kN]
 have:=zO (body:=zRF m v) (r:=wM m.Prime D m.zI (nw 0 v) (idM D)) (fun i=>(wM m.Prime D m.zI (nw 0 (v.take i)) (idM D),(i:Int))) n (fun i hi=>by
  have hvi:=hv i hi;unfold zRF;simp only
  rw[hl,yN hi,zJ];rw[vJ (S:=Mat m.Prime D) (body:=zRE m v (wM m.Prime D m.zI (nw 0 (v.take i)) (idM D),(i:Int))) (fun B=>B) (fun B=>PM m.Prime D B (m.zI.getD i [])) (at0 v i) hvi.1 (fun B hB=>zBl (by omega) hB.1) (fun B q hB hq=>by
   unfold zRE;simp only
   rw[yG (by omega),bs,dP hq,zJ,yE [] (by omega),bs,hm.d,jI hm.p (by omega) hB (hm.mat i hi),bs,zE (by omega) (by omega),bs,cs]) (fun B hB=>by
   unfold zRE;simp only
   rw[yG (by omega),bs,dO (by omega),zK]) (hI i),bs,zE (by omega) (by omega),bs,cs]
  grind[zIX,zE5,zG8]) (by
  unfold zRF
  grind)
 rw[show((0:Nat):Int)=0 from rfl,Jz]at this
 grind[nw,wM]
abbrev enW(ws:List Nat):List Int:=ws.map fun(w:Nat)=>(w:Int)+1
theorem zCE{i:Nat}(hi:i<n):zM8 m (i:Int)=dJ (zV.mk m.Prime (D:Int) (m.zI.getD i [])):=by have _:=hn;have gm:=hm.len;unfold zM8;rw[yE [] (by omega),bs,hm.d]
theorem zCF{ws:List Nat}(hw:∀w∈ws,w<n)(hl:ws.length≤1000000):f_V m (enW ws)=dJ (zV.mk m.Prime (D:Int) (wM m.Prime D m.zI ws (idM D))):=by
 have h7:=hm.p.pos;have h3:=hm.d3;unfold f_V;rw[hm.d,zHm hm.p (by omega),bs];have hI:∀i,Mat m.Prime D (wM m.Prime D m.zI (ws.take i) (idM D)):=by grind[zE6,kN]
 have ab:(enW ws).length=ws.length:=by simp
 have:=zO (body:=zSj m (enW ws)) (r:=(m.Prime,(D:Int),wM m.Prime D m.zI ws (idM D))) (fun i=>(m.Prime,(D:Int),wM m.Prime D m.zI (ws.take i) (idM D),(i:Int))) ws.length (fun i hi=>by
  have pR:=hw ws[i] (K7 hi);unfold zSj;simp only
  rw[ab,yN hi,zJ,vE,Jp,J4 hi];simp only[Hg];rw[bs,zE (by omega) (by omega),bs,show((ws[i]:Nat):Int)+1-1=((ws[i]:Nat):Int)from by omega,zCE hm hn pR,bs,zHl hm.p (by omega) (hI i) (hm.mat _ pR),bs,zE (by omega) (by omega),bs,cs,Jj hi,zE5];rfl) (by
  unfold zSj;simp)
 rw[show((0:Nat):Int)=0 from rfl,Jz]at this
 grind[wM]
end
theorem zBz{v:List Int}(hl:v.length≤9)(hv:∀i,i<v.length→0≤at0 v i∧at0 v i≤6):f_K v=dJ (enW (nw 0 v)):=by
 unfold f_K;have gm:∀i,(nw 0 (v.take i)).length≤54:=fun i=>by
  have:=zG7 0 (v.take i) (by grind)
  grind
 have:=zO (body:=zSe v) (r:=enW (nw 0 v)) (fun i=>(enW (nw 0 (v.take i)),(i:Int))) v.length (fun i hi=>by
  have hvi:=hv i hi;have hli:=gm i;unfold zSe;simp only
  rw[yN hi,zJ,yG hi,bs];have inner:=zO (body:=zSd (enW (nw 0 (v.take i)),(i:Int)) (at0 v i)) (r:=enW (nw 0 (v.take (i+1)))) (fun k=>(enW (nw 0 (v.take i)++J1 k i),(k:Int))) (at0 v i).toNat (fun k hk=>by
   unfold zSd;simp only
   rw[dP (by omega),zJ,zE (by omega) (by omega),bs,zZ (by grind),bs,zE (by omega) (by omega),bs,cs]
   congr 3
   rw[Jah,←Jb];simp) (by
   unfold zSd;simp only
   rw[dO (by omega),zK,zIX hi])
  rw[show((0:Nat):Int)=0 from rfl,Hm,Jg]at inner
  grind[zE]) (by
  unfold zSe;simp)
 rw[show((0:Nat):Int)=0 from rfl,Jz]at this;simp only[nw,enW,Ub]at this
 grind
theorem zQL{v o:Int}(h:zSc 1 (IntKind.wrap .u64 o)=dJ (0,o)):zSc (IntKind.wrap .u64 (([v]:List Int).length:Int)) (IntKind.wrap .u64 o)=dJ (0,o):=by rw[show IntKind.wrap .u64 (([v]:List Int).length:Int)=1 from by rfl];exact h
theorem zKy{v o:Int}(ho:Prime o):f_w [v] o=dJ (J1 o.toNat v):=by
 unfold f_w;rcases ho with rfl|rfl|rfl|rfl
 ·have h:=zO (body:=zFi) (r:=[v,v]) (fun i=>match i with|0=>([v,0],1)|_=>([v,v],2)) 1 (fun i hi=>by
   match i,hi with
   |0,_=>rfl) (by rfl)
  rw[zQL (by rfl),bs];have hl:yV (IntKind.wrap .i64 2)=dJ 2:=by rfl
  simp only[hl,bs];rw[show decide ((2:Int)<0)=dM from rfl,zK,show decide ((0:Int)> 0)=dM from rfl,zK,show decide ((2:Int)> 9223372036854775807)=dM from by decide,zK]
  grind[wV]
 ·have h:=zO (body:=zFi) (r:=[v,v,v]) (fun i=>match i with|0=>([v,0,0],1)|1=>([v,v,0],2)|_=>([v,v,v],3)) 2 (fun i hi=>by
   match i,hi with
   |0,_=>rfl
   |1,_=>rfl) (by rfl)
  rw[zQL (by rfl),bs];have hl:yV (IntKind.wrap .i64 3)=dJ 3:=by rfl
  simp only[hl,bs];rw[show decide ((3:Int)<0)=dM from rfl,zK,show decide ((0:Int)> 0)=dM from rfl,zK,show decide ((3:Int)> 9223372036854775807)=dM from by decide,zK]
  grind[wV]
 ·have h:=zO (body:=zFi) (r:=[v,v,v,v,v]) (fun i=>match i with|0=>([v,0,0,0,0],1)|1=>([v,v,0,0,0],2)|2=>([v,v,v,v,0],4)|_=>([v,v,v,v,v],5)) 3 (fun i hi=>by
   match i,hi with
   |0,_=>rfl
   |1,_=>simp[zFi,zW,wV,rng,inR]
   |2,_=>rfl) (by rfl)
  rw[zQL (by rfl),bs];have hl:yV (IntKind.wrap .i64 5)=dJ 5:=by rfl
  simp only[hl,bs];rw[show decide ((5:Int)<0)=dM from rfl,zK,show decide ((0:Int)> 0)=dM from rfl,zK,show decide ((5:Int)> 9223372036854775807)=dM from by decide,zK];have e2:wV (J1 5 (0:Int)) 0 (([v]:List Int).take ((J1 5 (0:Int)).length-0))=[v,0,0,0,0]:=by rfl
  grind
 ·have h:=zO (body:=zFi) (r:=[v,v,v,v,v,v,v]) (fun i=>match i with|0=>([v,0,0,0,0,0,0],1)|1=>([v,v,0,0,0,0,0],2)|2=>([v,v,v,v,0,0,0],4)|_=>([v,v,v,v,v,v,v],7)) 3 (fun i hi=>by
   match i,hi with
   |0,_=>rfl
   |1,_=>simp[zFi,zW,wV,rng,inR]
   |2,_=>rfl) (by rfl)
  rw[zQL (by rfl),bs];have hl:yV (IntKind.wrap .i64 7)=dJ 7:=by rfl
  simp only[hl,bs];rw[show decide ((7:Int)<0)=dM from rfl,zK,show decide ((0:Int)> 0)=dM from rfl,zK,show decide ((7:Int)> 9223372036854775807)=dM from by decide,zK];have e2:wV (J1 7 (0:Int)) 0 (([v]:List Int).take ((J1 7 (0:Int)).length-0))=[v,0,0,0,0,0,0]:=by rfl
  simp_all
end Go.Pl

namespace Go.Pl
open Go Go.Ab Go.Wk Go.Pc
theorem IsB.b{o:Option Bool}{P:Prop}(h:IsB o P):IsB (o.bind fun r=>dJ r) P:=by grind
theorem zEX{p:Int}{D:Nat}{r:List Int}(hp:Prime p)(hD:D≤8):IsB (zSb r p (D:Int)) (Row p D r):=by
 have h7:=hp.pos;unfold zSb
 by_cases h:r.length=D
 ·rw[qS (by omega),zK]
  refine(sG r.length (fun i=>0≤at0 r i∧at0 r i≤p-1) rfl (fun i hi _=>?_) ?_).iff ⟨fun g=>⟨h,by grind⟩,fun g=>by rw[h];exact g.2⟩
  ·refine vZ (jQ _ _ _) (by omega) ?_
   unfold zOb;rw[yN hi,zJ,yG hi,bs,zE (by omega) (by omega),bs]
  ·unfold zOb
   simp
 ·rw[sY (by omega),zJ]
  exact .inr ⟨rfl,fun g=>h g.1⟩
theorem zEY{p:Int}{D:Nat}{r:List Int}(hp:Prime p)(hD:D≤8):IsB (zRA p (D:Int) r) (Row p D r):=by
 have h7:=hp.pos;unfold zRA
 by_cases h:r.length=D
 ·rw[qS (by omega),zK]
  refine(sG r.length (fun i=>0≤at0 r i∧at0 r i≤p-1) rfl (fun i hi _=>?_) ?_).iff ⟨fun g=>⟨h,by grind⟩,fun g=>by rw[h];exact g.2⟩
  ·refine vZ (zBP _ _ _) (by omega) ?_
   unfold zNY;rw[yN hi,zJ,yG hi,bs,zE (by omega) (by omega),bs]
  ·unfold zNY
   simp
 ·rw[sY (by omega),zJ]
  exact .inr ⟨rfl,fun g=>h g.1⟩
theorem zO3{p:Int}{D:Nat}{B:Mx}(hp:Prime p)(hD:D≤8):IsB (zTN p (D:Int) B) (Mat p D B):=by
 unfold zTN
 by_cases h:B.length=D
 ·rw[qS (by omega),zK]
  refine(sG B.length (fun i=>Row p D (B.getD i [])) rfl (fun i hi _=>?_) ?_).iff ⟨fun g=>⟨h,by grind⟩,fun g=>by rw[h];exact g.2⟩
  ·refine vZ (zEY hp hD) (by omega) ?_
   unfold zNZ;rw[yN hi,zJ,yE [] hi,bs]
  ·unfold zNZ
   simp
 ·rw[sY (by omega),zJ]
  exact .inr ⟨rfl,fun g=>h g.1⟩
theorem zHn{p:Int}{D:Nat}{B:Mx}(hp:Prime p)(hD:D≤8)(hB:B.length=D):IsB (zTT (zV.mk p (D:Int) B)) (Mat p D B):=by
 unfold zTT;simp only
 rcases zBh p with⟨h1,_⟩|⟨_,h2⟩
 ·rw[h1,bs,J9,zK]
  rcases jQ (D:Int) 0 8 with⟨h3,_⟩|⟨_,h4⟩
  ·rw[h3,bs,J9,zK,dO (by omega),zK]
   refine(sG (body:=zKV (zV.mk p (D:Int) B)) D (fun i=>Row p D (B.getD i [])) rfl (fun i hi _=>?_) ?_).iff ⟨fun g=>⟨hB,g⟩,fun g=>g.2⟩
   ·refine vZ (zEX hp hD) (by omega) ?_
    unfold zKV;simp only
    rw[hB,yN hi,zJ,yE [] (by omega),bs]
   ·unfold zKV
    grind
  omega
 grind
theorem zG9{A B:Mx}(hA:A.length≤1000)(h:∀r∈A,r.length≤1000):zTO A B=dJ (A==B):=
 zHT (t:=zJo) (body:=zRG A B) rfl (fun _=>rfl) (by omega) (by grind[zO1])
theorem zHo{A B:Mx}(hA:A.length≤1000)(h:∀r∈A,r.length≤1000):zTW A B=dJ (A==B):=by unfold zTW;rw[zHT (f:=zWy A B) (t:=f_T) (body:=zSk A B) rfl (fun _=>rfl) (by omega) (by grind[zDf]),bs]
theorem Mat.small{p:Int}{D:Nat}{A:Mx}(h:Mat p D A)(hD:D≤8):A.length≤1000∧ ∀r∈A,r.length≤1000:=by
 refine⟨by have:=h.1;omega,fun r hr=>?_⟩;obtain⟨i,hi,rfl⟩:=K5.1 hr;have:=h.2 i (by rw[←h.1];exact hi);rw[J3,J4 hi]at this;have:=this.1
 grind
def zHp(x:SPr)(m:zC)(D:Nat):Prop:=
 ∀i,i<x.zA.length→wM m.Prime D m.zI (J1 (at0 x.zA i).toNat i) (idM D)=wM m.Prime D m.zI (nw 0 (x.zU.getD i [])) (idM D)∧
  ∀j,i+1≤j→j<x.zA.length→PM m.Prime D (m.zI.getD j []) (m.zI.getD i [])=PM m.Prime D (m.zI.getD i []) (wM m.Prime D m.zI (nw 0 ((x.zD.getD i []).getD (j-(i+1)) [])) (idM D))
theorem qA{x:SPr}{v:List Int}{i:Nat}(ho:Os x.zA)(h:Exp x.zA v i):v.length=x.zA.length∧ ∀j,j<x.zA.length→0≤at0 v j∧at0 v j≤6:=by have h1:=h.1.1;refine⟨h1,fun j hj=>?_⟩;have:=h.1.2 j (by omega);have:=(ho.2 j hj).pos;omega
section
variable {x:SPr}{m:zC}{D:Nat} (h:Pres x) (hm:MOk x.zA.length m D)
 include h hm
theorem zO4{i:Nat}(hi:i<x.zA.length):(x.zU.getD i []).length=x.zA.length∧ ∀j,j<x.zA.length→0≤at0 (x.zU.getD i []) j∧at0 (x.zU.getD i []) j≤6:=have _:=hm;qA h.os (h.tl i hi).1
theorem zLX{i j:Nat}(hi:i<x.zA.length)(hj:j<(x.zD.getD i []).length):((x.zD.getD i []).getD j []).length=x.zA.length∧ ∀q,q<x.zA.length→0≤at0 ((x.zD.getD i []).getD j []) q∧at0 ((x.zD.getD i []).getD j []) q≤6:=have _:=hm;qA h.os ((h.tl i hi).2.2 j hj)
theorem zO5:IsB ((zH (zRK x m) 0).bind fun r=>match r with|.inl _=>dJ dL|.inr r=>dJ r) (zHp x m D):=by
 have h6:=h.os.1;have h7:=hm.p.pos;have h3:=hm.d3;have gm:=hm.len;refine sG x.zA.length (fun i=>wM m.Prime D m.zI (J1 (at0 x.zA i).toNat i) (idM D)=wM m.Prime D m.zI (nw 0 (x.zU.getD i [])) (idM D)∧
  ∀j,i+1≤j→j<x.zA.length→PM m.Prime D (m.zI.getD j []) (m.zI.getD i [])=PM m.Prime D (m.zI.getD i []) (wM m.Prime D m.zI (nw 0 ((x.zD.getD i []).getD (j-(i+1)) [])) (idM D))) rfl (fun i hi _=>?_) ?_
 ·have fU:=(h.os.2 i hi).pos
  have pF:=h.pl;have gI:=h.cl;obtain⟨p1,p2⟩:=zO4 h hm hi;have t2:=(h.tl i hi).2.1;have hI:=kN (p:=m.Prime) (D:=D) h7.1;unfold zRK;rw[yN hi,zJ,hm.d,zG6 hm.p (by omega),bs];rw[vJ (S:=Mat m.Prime D) (body:=zRI x m (i:Int)) (fun B=>B) (fun B=>PM m.Prime D B (m.zI.getD i [])) (at0 x.zA i) (by omega) (fun B hB=>zBl (by omega) hB.1) (fun B q hB hq=>by
   unfold zRI;simp only
   rw[yG hi,bs,dP hq,zJ,yE [] (by omega),bs,hm.d,jI hm.p (by omega) hB (hm.mat i hi),bs,zE (by omega) (by omega),bs,cs]) (fun B hB=>by
   unfold zRI;simp only
   rw[yG hi,bs,dO (by omega),zK]) hI,bs,yE [] (by omega),bs,zKx hm (by omega) p1 p2,bs,←zG8]
  have hs:=(zE6 (p:=m.Prime) (D:=D) (A:=m.zI) (by omega) (J1 (at0 x.zA i).toNat i) hI).small (by omega);rw[zG9 hs.1 hs.2,bs]
  by_cases hq:wM m.Prime D m.zI (J1 (at0 x.zA i).toNat i) (idM D)=wM m.Prime D m.zI (nw 0 (x.zU.getD i [])) (idM D)
  ·rw[show(wM m.Prime D m.zI (J1 (at0 x.zA i).toNat i) (idM D)==wM m.Prime D m.zI (nw 0 (x.zU.getD i [])) (idM D))=dL from by grind,J9,zK,zE (by omega) (by omega),bs,cs]
   rcases chk (body:=zRJ x m (i:Int)) x.zA.length (i+1) (by omega) (fun j=>PM m.Prime D (m.zI.getD j []) (m.zI.getD i [])=PM m.Prime D (m.zI.getD i []) (wM m.Prime D m.zI (nw 0 ((x.zD.getD i []).getD (j-(i+1)) [])) (idM D))) (fun _=>dM) (fun j h1 h2 _=>by
     obtain⟨c1,c2⟩:=zLX h hm (j:=j-(i+1)) hi (by omega);have hjm:=hm.mat j h2;have him:=hm.mat i hi;have hw:=zE6 (p:=m.Prime) (D:=D) (A:=m.zI) (by omega) (nw 0 ((x.zD.getD i []).getD (j-(i+1)) [])) hI;have hs:=(zBl (p:=m.Prime) (B:=m.zI.getD i []) (by omega) hjm.1).small (by omega);refine vZ (o:=dJ (PM m.Prime D (m.zI.getD j []) (m.zI.getD i [])==PM m.Prime D (m.zI.getD i []) (wM m.Prime D m.zI (nw 0 ((x.zD.getD i []).getD (j-(i+1)) [])) (idM D)))) (IsB.of_bool (by simp)) (by omega) ?_;unfold zRJ;rw[yN h2,zJ,yE (i:=j) [] (by omega),bs,yE (i:=i) [] (by omega),bs,hm.d,jI hm.p (by omega) hjm him,bs,bs,yE (i:=i) [] (by omega),bs,zE (by omega) (by omega),bs,zE (by omega) (by omega),bs,show(j:Int)-(i:Int)-1=((j-(i+1):Nat):Int)from by omega,yE [] (by omega),bs,zKx hm (by omega) c1 c2,bs,jI hm.p (by omega) him hw,bs,zG9 hs.1 hs.2]) (by
     unfold zRJ;simp)with⟨g1,g2⟩|⟨j,j1,j2,g1,g2⟩
   ·grind
   ·right
    rw[g1,bs]
    grind
  grind
 ·unfold zRK
  simp
end
def zUV(x:SPr)(m:zC):Prop:=zBj x∧ ∃D,MOk x.zA.length m D∧zHp x m D
theorem zHq{x:SPr}{m:zC}(hl:x.zA.length≤1048576):IsB (zTP x m) (zUV x m):=by
 unfold zTP;rcases zLU hl with⟨h1,h2⟩|⟨h1,h2⟩
 ·have h6:=h2.1.os.1
  rw[h1,bs,zJ];unfold f_q;rcases zGw m.Prime with⟨p1,p2⟩|⟨p1,p2⟩
  ·rw[p1,bs,J9,zK]
   rcases zBP m.Dim 1 3 with⟨d1,d2⟩|⟨d1,d2⟩
   ·rw[d1,bs,J9,zK]
    obtain⟨D,hD⟩:∃D:Nat,m.Dim=(D:Int):=⟨m.Dim.toNat,by omega⟩
    by_cases gm:m.zI.length=x.zA.length
    ·rw[qS (by omega),zK]
     rcases chk (body:=zRH x m) x.zA.length 0 (Jy _) (fun i=>Mat m.Prime D (m.zI.getD i [])) (fun _=>dM) (fun i _ hi _=>by
       refine vZ (zO3 p2 (D:=D) (by omega)) (by omega) ?_;unfold zRH;rw[yN hi,zJ,yE [] (by omega),bs,hD]) (by
       unfold zRH;simp)with⟨g1,g2⟩|⟨i,_,hi,g1,g2⟩
     ·rw[show((0:Nat):Int)=0 from rfl]at g1
      have hm:MOk x.zA.length m D:=⟨p2,hD,by omega,by omega,gm,by grind⟩;rw[g1,bs];refine(zO5 h2.1 hm).b.iff ⟨fun k2=>⟨h2,D,hm,k2⟩,fun⟨_,D',gB,hr⟩=>?_⟩;have:D'=D:=by have:=gB.d;omega
      grind
     ·rw[show((0:Nat):Int)=0 from rfl]at g1
      rw[g1,bs];refine .inr ⟨rfl,fun⟨_,D',gB,_⟩=>g2 ?_⟩;have:D'=D:=by have:=gB.d;omega
      rw[←this];exact gB.mat i hi
    ·rw[sY (by omega),zJ]
     exact .inr ⟨rfl,fun⟨_,D',gB,_⟩=>gm gB.len⟩
   ·rw[d1,bs,Ju,zJ]
    exact .inr ⟨rfl,fun⟨_,D',gB,_⟩=>d2 (by have:=gB.d;have:=gB.d1;have:=gB.d3;omega)⟩
  ·rw[p1,bs,Ju,zJ]
   exact .inr ⟨rfl,fun⟨_,D',gB,_⟩=>p2 gB.p⟩
 ·rw[h1,bs,zK]
  exact .inr ⟨rfl,fun g=>h2 g.1⟩
end Go.Pl

namespace Go.Pl
open Go Go.Ab Go.Wk Go.Pc
abbrev Rl:=List Nat×List Nat
def r1(x:SPr)(i:Nat):Rl:=(J1 (at0 x.zA i).toNat i,nw 0 (x.zU.getD i []))
def r2(x:SPr)(i j:Nat):Rl:=([i+j+1,i],i::nw 0 ((x.zD.getD i []).getD j []))
def R2(x:SPr)(i:Nat):List Rl:=(Jl (x.zD.getD i []).length).map (r2 x i)
def wF(x:SPr):List Rl:=(Jl x.zA.length).map (r1 x)++(Jl x.zA.length).flatMap (R2 x)
abbrev enR(q:Rl):List Int×List Int:=(enW q.1,enW q.2)
section
variable {x:SPr} (h:Pres x)
 include h
theorem zVV{i:Nat}(hi:i<x.zA.length):(R2 x i).length≤9:=by
 have:=(h.tl i hi).2.1;have:=h.os.1
 grind[R2]
theorem zGA:∀i,i≤x.zA.length→((Jl i).flatMap (R2 x)).length≤9*i
 |0,_=>by simp
 |i+1,hi=>by
  have:=zGA i (by omega)
  grind[zVV,L6]
theorem zTy{k i:Nat}:enW (J1 k i)=J1 k ((i:Int)+1):=by have _:=h;simp
theorem zAe:f_x x=dJ ((wF x).map enR):=by
 have h6:=h.os.1;have pF:=h.pl;have gI:=h.cl;unfold f_x;have l1:=zO (body:=zSf x) (r:=((Jl x.zA.length).map (r1 x)).map enR) (fun i=>(((Jl i).map (r1 x)).map enR,(i:Int))) x.zA.length (fun i hi=>by
  obtain⟨p1,p2⟩:=qA h.os (h.tl i hi).1;unfold zSf;simp only
  rw[yN hi,zJ,yG hi,bs,zE (by omega) (by omega),bs,zKy (h.os.2 i hi),bs,yE [] (by omega),bs,zBz (by omega) (by rw[p1];exact p2),bs,zZ (by simp only[Jt,Up,K4,Ha];omega),bs,bs,cs,L6];simp only[Ls,Jm,Ub,r1,enR,zTy h,cs]) (by
  unfold zSf;simp)
 rw[show((0:Nat):Int)=0 from rfl]at l1;simp only[List.range_zero,Ub]at l1;rw[l1,bs];have l3:=zO (body:=zSh x) (r:=(wF x).map enR) (fun i=>(((Jl x.zA.length).map (r1 x)++(Jl i).flatMap (R2 x)).map enR,(i:Int))) x.zA.length (fun i hi=>by
  have t2:=(h.tl i hi).2.1;have a9:=zGA h i (by omega);unfold zSh;simp only
  rw[yN hi,zJ,yE [] (by omega),bs];have l2:=zO (body:=zSg (((Jl x.zA.length).map (r1 x)++(Jl i).flatMap (R2 x)).map enR,(i:Int)) (x.zD.getD i [])) (r:=((Jl x.zA.length).map (r1 x)++(Jl (i+1)).flatMap (R2 x)).map enR)
   (fun j=>(((Jl x.zA.length).map (r1 x)++(Jl i).flatMap (R2 x)++(Jl j).map (r2 x i)).map enR,(j:Int))) (x.zD.getD i []).length (fun j hj=>by
    obtain⟨p1,p2⟩:=qA h.os ((h.tl i hi).2.2 j hj);have cB:=zG7 0 ((x.zD.getD i []).getD j []) (by grind);unfold zSg;simp only
    rw[yN hj,zJ,yE [] hj,bs,zE (by omega) (by omega),bs,zE (by omega) (by omega),bs,zE (by omega) (by omega),bs,zBz (by omega) (by rw[p1];exact p2),bs,zZ (by simp only[Jt,K4,Ha];omega),bs,zZ (by simp only[Jt,Ja,Up,K4,Ha];omega),bs,zE (by omega) (by omega),bs,cs,L6];have e1:(i:Int)+(j:Int)+2=((i+j+1:Nat):Int)+1:=by omega
    simp only[Ls,Jm,Ub,r2,enR,enW,Jb,L9,e1];rfl) (by
    unfold zSg;simp only
    rw[vC,zK,L6,Uj]
    grind[R2])
  rw[show((0:Nat):Int)=0 from rfl]at l2
  grind[zE]) (by
  unfold zSh;simp only
  rw[vC,zK];rfl)
 grind
theorem zId{q:Rl}(hq:q∈wF x):((∀w∈q.1,w<x.zA.length)∧q.1.length≤1000)∧(∀w∈q.2,w<x.zA.length)∧q.2.length≤1000:=by
 have h6:=h.os.1;simp only[wF,L5,Jh,Ld,Ua,R2]at hq;rcases hq with⟨i,hi,rfl⟩|⟨i,hi,j,hj,rfl⟩
 ·obtain⟨p1,p2⟩:=qA h.os (h.tl i hi).1
  have cB:=zG7 0 (x.zU.getD i []) (by rw[p1];exact fun i hi=>(p2 i hi).2);have fU:=(h.os.2 i hi).pos;refine⟨⟨fun w hw=>?_,?_⟩,fun w hw=>zQJ 0 _ (by omega) w hw,by simp only[r1];omega⟩
  ·have:=List.eq_of_mem_replicate hw;omega
  ·simp only[r1,K2];omega
 ·obtain⟨p1,p2⟩:=qA h.os ((h.tl i hi).2.2 j hj)
  have t2:=(h.tl i hi).2.1;have cB:=zG7 0 ((x.zD.getD i []).getD j []) (by rw[p1];exact fun i hi=>(p2 i hi).2);refine⟨⟨fun w hw=>?_,by simp[r2]⟩,fun w hw=>?_,by simp only[r2,K4];omega⟩
  ·simp only[r2,Jn,List.not_mem_nil,or_false]at hw;omega
  ·simp only[r2,Jn]at hw
   rcases hw with rfl|hw
   ·exact hi
   ·exact zQJ 0 _ (by omega) w hw
variable {m:zC}{D:Nat} (hm:MOk x.zA.length m D)
 include hm
theorem zKz:(∀q∈wF x,wM m.Prime D m.zI q.1 (idM D)=wM m.Prime D m.zI q.2 (idM D))↔zHp x m D:=by
 have h7:=hm.p.pos;have hI:=kN (p:=m.Prime) (D:=D) h7.1;have key:∀i j,i<x.zA.length→j<x.zA.length→ ∀ws,(wM m.Prime D m.zI [j,i] (idM D)=wM m.Prime D m.zI (i::ws) (idM D)↔PM m.Prime D (m.zI.getD j []) (m.zI.getD i [])=PM m.Prime D (m.zI.getD i []) (wM m.Prime D m.zI ws (idM D))):=fun i j hi hj ws=>by
  have eR:=hm.mat i hi;have mu:=hm.mat j hj;have e1:wM m.Prime D m.zI [j,i] (idM D)=PM m.Prime D (m.zI.getD j []) (m.zI.getD i []):=by show PM _ _ (PM _ _ (idM D) _) _=_;rw[zIV mu]
  have e2:wM m.Prime D m.zI (i::ws) (idM D)=PM m.Prime D (m.zI.getD i []) (wM m.Prime D m.zI ws (idM D)):=by show wM _ _ _ ws (PM _ _ (idM D) _)=_;rw[zIV eR,←zQK (by omega) eR.1 ws hI,zKs eR]
  rw[e1,e2]
 constructor
 ·intro g i hi
  have t2:=(h.tl i hi).2.1;refine⟨g (r1 x i) (by simp only[wF,L5,Jh,Ld];grind),fun j h1 h2=>?_⟩;have:=g (r2 x i (j-(i+1))) (by
   simp only[wF,L5,Ua,Ld,R2,Jh]
   grind)
  simp only[r2]at this;rw[show i+(j-(i+1))+1=j from by omega]at this
  grind
 ·intro g q hq
  simp only[wF,L5,Jh,Ld,Ua,R2]at hq;rcases hq with⟨i,hi,rfl⟩|⟨i,hi,j,hj,rfl⟩
  ·exact(g i hi).1
  ·have t2:=(h.tl i hi).2.1
   have:=(g i hi).2 (i+j+1) (by omega) (by omega);rw[show i+j+1-(i+1)=j from by omega]at this;exact(key i (i+j+1) hi (by omega) _).2 this
theorem zO6:IsB ((zH (zSm m ((wF x).map enR)) 0).bind fun r=>match r with|.inl _=>dJ dL|.inr r=>dJ r) (zHp x m D):=by
 have h6:=h.os.1;have h7:=hm.p.pos;have h3:=hm.d3;have hI:=kN (p:=m.Prime) (D:=D) h7.1;have a9:=zGA h x.zA.length (Jf _);have fS:(wF x).length≤1000:=by simp only[wF,Ja,Jt,Up];omega
 refine(sG (wF x).length (fun k=>wM m.Prime D m.zI ((wF x).getD k ([],[])).1 (idM D)=wM m.Prime D m.zI ((wF x).getD k ([],[])).2 (idM D)) rfl (fun k hk _=>?_) ?_).iff ⟨fun g=>(zKz h hm).1 fun q hq=>?_,fun g k hk=>(zKz h hm).2 g _ ?_⟩
 ·have gw:(wF x).getD k ([],[])∈wF x:=by
   rw[J3,J4 hk];exact K7 hk
  obtain⟨⟨g1,g2⟩,g3,g4⟩:=zId h gw;have hs:=(zE6 (p:=m.Prime) (D:=D) (A:=m.zI) (by omega) ((wF x).getD k ([],[])).1 hI).small (by omega);refine vZ (o:=dJ (wM m.Prime D m.zI ((wF x).getD k ([],[])).1 (idM D)==wM m.Prime D m.zI ((wF x).getD k ([],[])).2 (idM D))) (IsB.of_bool (by rw[beq_iff_eq])) (by omega) ?_;unfold zSm;rw[Jt,yN hk,zJ,vE,Jp,J4 hk];rw[J3,J4 hk]at g1 g2 g3 g4 hs ⊢
  simp only[Hg,Jad]at g1 g2 g3 g4 hs ⊢
  rw[bs,zCF hm h6 g1 (Lt g2 (by omega)),bs,zCF hm h6 g3 (Lt g4 (by omega)),bs];simp only
  rw[zHo hs.1 hs.2]
 ·unfold zSm
  rw[Jt,vC,zK]
 ·obtain⟨k,hk,rfl⟩:=K5.1 hq
  have:=g k hk;rw[J3,J4 hk]at this;exact this
 ·rw[J3,J4 hk];exact K7 hk
end
theorem zHr{x:SPr}{m:zC}(hl:x.zA.length≤1048576)(_hal:m.zI.length≤1048576):IsB (f_C x m) (zUV x m):=by
 unfold f_C;rcases zDJ hl with⟨h1,h2⟩|⟨h1,h2⟩
 ·have h6:=h2.1.os.1
  rw[h1,bs,J9,zK];rcases zBh m.Prime with⟨p1,p2⟩|⟨p1,p2⟩
  ·rw[p1,bs,J9,zK]
   rcases jQ m.Dim 1 3 with⟨d1,d2⟩|⟨d1,d2⟩
   ·rw[d1,bs,J9,zK]
    obtain⟨D,hD⟩:∃D:Nat,m.Dim=(D:Int):=⟨m.Dim.toNat,by omega⟩
    by_cases gm:m.zI.length=x.zA.length
    ·rw[qS (by omega),zK]
     rcases chk (body:=zSl m) m.zI.length 0 (Jy _) (fun i=>Mat m.Prime D (m.zI.getD i [])) (fun _=>dM) (fun i _ hi _=>by
       unfold zSl;rw[yN hi,zJ,yE [] hi,bs,hD]
       by_cases hr:(m.zI.getD i []).length=D
       ·rw[qS (by omega),zK]
        refine vZ (zHn p2 (D:=D) (by omega) hr) (by omega) ?_
        grind[zM8,yE]
       ·rw[sY (by omega),zJ]
        exact .inr ⟨rfl,fun g=>hr g.1⟩) (by
       unfold zSl;simp)with⟨g1,g2⟩|⟨i,_,hi,g1,g2⟩
     ·rw[show((0:Nat):Int)=0 from rfl]at g1
      have hm:MOk x.zA.length m D:=⟨p2,hD,by omega,by omega,gm,by grind⟩;rw[g1,bs,zAe h2.1];simp only
      rw[bs];refine(zO6 h2.1 hm).iff ⟨fun k2=>⟨h2,D,hm,k2⟩,fun⟨_,D',gB,hr⟩=>?_⟩;have:D'=D:=by have:=gB.d;omega
      grind
     ·rw[show((0:Nat):Int)=0 from rfl]at g1
      rw[g1,bs];refine .inr ⟨rfl,fun⟨_,D',gB,_⟩=>g2 ?_⟩;have:D'=D:=by have:=gB.d;omega
      rw[←this];exact gB.mat i (by omega)
    ·rw[sY (by omega),zJ]
     exact .inr ⟨rfl,fun⟨_,D',gB,_⟩=>gm gB.len⟩
   ·rw[d1,bs,Ju,zJ]
    exact .inr ⟨rfl,fun⟨_,D',gB,_⟩=>d2 (by have:=gB.d;have:=gB.d1;have:=gB.d3;omega)⟩
  ·rw[p1,bs,Ju,zJ]
   exact .inr ⟨rfl,fun⟨_,D',gB,_⟩=>p2 gB.p⟩
 ·rw[h1,bs,Ju,zJ]
  exact .inr ⟨rfl,fun g=>h2 g.1⟩
end Go.Pl

namespace Go.Pl
open Go Go.Ab Go.Wk Go.Pc
theorem zE7{xs:List (List Int)}{i:Nat}(h:i<xs.length):(xs.take (i+1)).flatten=(xs.take i).flatten++xs.getD i []:=by grind[Jj]
theorem zIY{xs:List (List Int)}(i:Nat):(xs.take i).flatten.length≤xs.flatten.length:=by grind[Ja8]
theorem zO7{k:Nat}(hk:k≤1000000):zSn (k:Int)=dJ []:=by
 unfold zSn;rw[dO (by omega),zK,zE (by decide) (by decide),bs,zE (by omega) (by omega),bs]
 by_cases h:(k:Int)-(0-0)> 0
 ·rw[dP h,zJ]
  have e:wY ([]:List Int) ((k:Int)-(0-0)) 0=dJ (J1 k 0):=by
   unfold wY
   grind
  rw[e,bs];rfl
 grind
theorem zAs{xs:List (List Int)}(hx:xs.length≤1000)(hf:xs.flatten.length≤1000000):f_u xs=dJ xs.flatten:=by
 unfold f_u;have l1:=zO (body:=zSo xs) (r:=((xs.flatten.length:Nat):Int)) (fun i=>((((xs.take i).flatten.length:Nat):Int),(i:Int))) xs.length (fun i hi=>by
  have h1:=zE7 hi;have h2:=zIY (xs:=xs) (i+1);have h3:=congrArg Jce h1;rw[Ja]at h3;unfold zSo;simp only
  rw[yN hi,zJ,yE [] hi,bs,zE (by omega) (by omega),bs,dO (by omega),zK,zE (by omega) (by omega),bs,cs,h3]
  congr 3) (by
  unfold zSo;simp)
 rw[show((0:Nat):Int)=0 from rfl]at l1;simp only[Jz,List.flatten_nil,Ha]at l1;rw[show((0:Nat):Int)=0 from rfl]at l1;rw[l1,bs,zO7 hf,bs];have l2:=zO (body:=zSp xs) (r:=xs.flatten) (fun i=>((xs.take i).flatten,(i:Int))) xs.length (fun i hi=>by
  have h1:=zE7 hi;have h2:=zIY (xs:=xs) (i+1);have h3:=congrArg Jce h1;rw[Ja]at h3;unfold zSp;simp only
  rw[yN hi,zJ,yE [] hi,bs,zZ (by omega),bs,zE (by omega) (by omega),bs,cs,h1]) (by
  unfold zSp;simp)
 grind
theorem zK0{r:List Int}{a b:Nat}(hr:r.length≤1000)(ha:a≤1000)(hb:b≤1000):zSq r (a:Int) (b:Int)=dJ (J1 a 0++(r++J1 b 0)):=by grind[zSq,yR,zAs]
end Go.Pl

namespace Go.Pl
open Go Go.Ab Go.Wk Go.Pc
section
variable {p:Int}
def vA(p:Int)(D:Nat)(r:List Int)(k:Int)(s:List Int):List Int:=mkv D fun j=>(at0 r j+k*at0 s j)%p
theorem zDL{D:Nat}{r s:List Int}{k:Int}:(vA p D r k s).length=D:=zX _ _
def zHs(p:Int)(D i:Nat)(r:List Int)(k:Int)(s:List Int):List Int:=mkv D fun j=>if j<i then(at0 r j+k*at0 s j)%p else at0 r j
theorem zIe{D:Nat}{r s:List Int}{k:Int}(hr:r.length=D):zHs p D 0 r k s=r:=by
 conv=>rhs;rw[vO hr]
 exact yA fun j _=>by rw[if_neg (by omega)]
theorem zIf{D:Nat}{r s:List Int}{k:Int}:zHs p D D r k s=vA p D r k s:=yA fun j hj=>by rw[if_pos hj]
theorem zK1{D i:Nat}{r s:List Int}{k a:Int}(ha:a=(at0 r i+k*at0 s i)%p):(zHs p D i r k s).set i a=zHs p D (i+1) r k s:=by
 simp only[zHs];rw[jH];refine yA fun j _=>?_
 by_cases h:j=i
 ·subst h;rw[if_pos rfl,if_pos (by omega),ha]
 ·rw[if_neg h]
  by_cases h2:j<i
  ·rw[if_pos h2,if_pos (by omega)]
  ·rw[if_neg h2,if_neg (by omega)]
theorem zNJ{D i:Nat}{r s:List Int}{k:Int}(hi:i<D):at0 (zHs p D i r k s) i=at0 r i:=by rw[zHs,yH hi,if_neg (by omega)]
theorem zDM{D i:Nat}{r s:List Int}{k:Int}:(zHs p D i r k s).length=D:=zX _ _
end
section
variable {p:Int} (hp:Prime p)
 include hp
theorem zEZ{a:Int}(_h0:-1000≤a)(_h1:a≤1000):zHu a p=dJ (a%p):=by
 have h7:=hp.pos;have e1:=Jaa a (show 0<p by omega);have e2:=Jab a (show 0<p by omega);have e3:(Jas a p+p)%p=a%p:=by
  rw[Ge];have:=Qu a p
  conv=>rhs;rw[←this]
  rw[Lb]
 unfold zHu uC;rw[if_neg (by omega),bs,zE (by omega) (by omega),bs,if_neg (by omega),bs,Ko (by omega),e3]
theorem zK2{a:Int}(_h0:-1000≤a)(_h1:a≤1000):zS0 a p=dJ (a%p):=by
 have h7:=hp.pos;have e1:=Jaa a (show 0<p by omega);have e2:=Jab a (show 0<p by omega);have e3:(Jas a p+p)%p=a%p:=by
  rw[Ge];have:=Qu a p
  conv=>rhs;rw[←this]
  rw[Lb]
 unfold zS0 uC;rw[if_neg (by omega),bs]
 by_cases h:Jas a p<0
 ·rw[dP h,zJ,zE (by omega) (by omega),bs,←e3,Jv (by omega) (by omega)]
 ·rw[dO h,zK,←e3,Ge,Jv (by omega) (by omega)]
theorem jS{D:Nat}{r s:List Int}{k:Int}:Row p D (vA p D r k s):=by have h7:=hp.pos;refine⟨zX _ _,fun i hi=>?_⟩;have e:at0 (vA p D r k s) i=(at0 r i+k*at0 s i)%p:=yH hi;have e1:=Kx (at0 r i+k*at0 s i) (show p≠0 by omega);have e2:=Kd (at0 r i+k*at0 s i) (show 0<p by omega);rw[e];omega
theorem zBm{k b:Int}(hk:-7≤k∧k≤7)(hb:0≤b∧b≤p-1):-49≤k*b∧k*b≤49:=by
 have h7:=hp.pos;rcases Int.le_total 0 k with h|h
 ·have h1:=Ho h hb.1
  have h2:=L7 hk.2 (show b≤7 by omega) hb.1 (by omega);omega
 ·have h1:=Ho (show 0≤ -k by omega) hb.1
  have h2:=L7 (show -k≤7 by omega) (show b≤7 by omega) hb.1 (by omega);rw[Int.neg_mul]at h1 h2;omega
theorem jA{D:Nat}{r s:List Int}{k:Int}(hr:Row p D r)(hs:Row p D s)(hk:-7≤k∧k≤7)(hD:D≤1000000):f_v r s k p=dJ (vA p D r k s):=by
 have h7:=hp.pos;have:=zO (body:=zKW r s k p) (r:=vA p D r k s) (fun i=>(zHs p D i r k s,(i:Int))) D (fun i hi=>by
  have a1:=hr.2 i hi;have a2:=hs.2 i hi;have a3:=zBm hp hk a2;unfold zKW;simp only
  rw[hr.1,yN hi,zJ,yG (by rw[zDM];exact hi),bs,yG (by rw[hs.1];exact hi),bs,zE (by omega) (by omega),bs,zNJ hi,zE (by omega) (by omega),bs,zEZ hp (by omega) (by omega),bs,bs,zE (by omega) (by omega),bs,cs,J6,zK1 rfl]) (by
  unfold zKW;simp only
  rw[hr.1,vC,zK,zIf])
 rw[show((0:Nat):Int)=0 from rfl,zIe hr.1]at this;unfold f_v;rw[this,bs]
theorem uB{D:Nat}{r s:List Int}{k:Int}(hr:Row p D r)(hs:Row p D s)(hk:-7≤k∧k≤7)(hD:D≤1000000):f_s p r k s=dJ (vA p D r k s):=by
 have h7:=hp.pos;have:=zO (body:=zS1 p k s) (r:=vA p D r k s) (fun i=>(zHs p D i r k s,(i:Int))) D (fun i hi=>by
  have a1:=hr.2 i hi;have a2:=hs.2 i hi;have a3:=zBm hp hk a2;unfold zS1;simp only
  rw[zDM,yN hi,zJ,hs.1,yN hi,zJ,yG (by rw[zDM];exact hi),bs,yG (by rw[hs.1];exact hi),bs,zE (by omega) (by omega),bs,zNJ hi,zE (by omega) (by omega),bs,zK2 hp (by omega) (by omega),bs,bs,zE (by omega) (by omega),bs,cs,J6,zK1 rfl]) (by
  unfold zS1;simp only
  rw[zDM,vC,zK,zIf])
 rw[show((0:Nat):Int)=0 from rfl,zIe hr.1]at this;unfold f_s;rw[uA (by rw[hr.1];omega),bs,this,bs]
end
theorem zBn{p:Int}{D:Nat}{r s:List Int}:vA p D r (p-1) s=vA p D r (-1) s:=yA fun j _=>by rw[show at0 r j+(p-1)*at0 s j=at0 r j+ -1*at0 s j+p*at0 s j from by rw[Us];omega,Lb]
theorem zO8{p:Int}{D:Nat}{r s:List Int}(hr:Row p D r)(hs:Row p D s):(∀j,j<D→at0 (vA p D r (-1) s) j=0)↔r=s:=by
 constructor
 ·intro h
  rw[vO hr.1,vO hs.1];refine yA fun j hj=>?_
  have h1:=h j hj;rw[vA,yH hj]at h1;have a1:=hr.2 j hj;have a2:=hs.2 j hj;obtain⟨c,hc⟩:=Int.dvd_of_emod_eq_zero h1;have:c=0:=by
   rcases Int.lt_trichotomy c 0 with h|h|h
   ·have:=He (show c≤ -1 by omega) (show 0≤p by omega);omega
   ·exact h
   ·have:=He (show 1≤c by omega) (show 0≤p by omega);omega
  rw[this]at hc;omega
 ·rintro rfl j hj
  rw[vA,yH hj,show at0 r j+ -1*at0 r j=0 from by omega];simp
end Go.Pl

namespace Go.Pl
open Go Go.Ab Go.Wk Go.Pc
def VOk(n:Nat)(p:Int)(D:Nat)(vals:Mx):Prop:=vals.length=n∧ ∀i,i<n→Row p D (vals.getD i [])
def stp(m:zC)(D:Nat)(vals:Mx)(v:List Int)(w:Nat):List Int:=vA m.Prime D (tW m.Prime D v (m.zI.getD w [])) 1 (vals.getD w [])
def ev(m:zC)(D:Nat)(vals:Mx)(v:List Int)(ws:List Nat):List Int:=ws.foldl (stp m D vals) v
theorem zIg{m:zC}{D:Nat}{vals:Mx}{v:List Int}{a b:List Nat}:ev m D vals v (a++b)=ev m D vals (ev m D vals v a) b:=by simp[ev,Ja9]
theorem zLY{m:zC}{D:Nat}{vals:Mx}{w:Nat}:∀(k:Nat)(v:List Int),ev m D vals v (J1 k w)=iter k (fun v=>stp m D vals v w) v
 |0,_=>rfl
 |k+1,v=>by rw[Km];show ev m D vals (stp m D vals v w) (J1 k w)=_;rw[zLY k];rfl
abbrev z0(D:Nat):List Int:=J1 D 0
theorem zGB{p:Int}{D:Nat}(hp:0<p):Row p D (z0 D):=by
 refine⟨by simp,fun i hi=>?_⟩
 grind
theorem jT{p:Int}{D:Nat}{r:List Int}{B:Mx}(hp:0<p):Row p D (tW p D r B):=by
 refine⟨zX _ _,fun i hi=>?_⟩;have e1:=Kx (S D (fun l=>at0 r l*ent B l i)) (show p≠0 by omega);have e2:=Kd (S D (fun l=>at0 r l*ent B l i)) hp
 grind[tW,yH]
section
variable {n D:Nat}{m:zC} (hm:MOk n m D) (hn:n≤9) {vals:Mx} (hv:VOk n m.Prime D vals)
 include hm hn hv
theorem zBo{v:List Int}{w:Nat}:Row m.Prime D (stp m D vals v w):=by have _:=hn;have _:=hv;exact jS hm.p
theorem zDh{v:List Int}(h:Row m.Prime D v):∀ws,Row m.Prime D (ev m D vals v ws):=by
 intro ws
 induction ws generalizing v with
 |nil=>exact h
 |cons w ws ih=>exact ih (zBo hm hn hv)
theorem zAQ{v:List Int}{w:Nat}(h:Row m.Prime D v)(hw:w<n):zLh m vals v (w:Int)=dJ (stp m D vals v w):=by have _:=hn;have h7:=hm.p.pos;have h3:=hm.d3;unfold zLh;rw[yE [] (by rw[hm.len];exact hw),bs,hm.d,zDg hm.p (by omega) h (hm.mat w hw),bs,yE [] (by rw[hv.1];exact hw),bs,uB hm.p (jT (by omega)) (hv.2 w hw) (by omega) (by omega),bs];rfl
theorem zFa{v x:List Int}(h:Row m.Prime D v)(hl:x.length=n)(hx:∀i,i<n→0≤at0 x i∧at0 x i≤6):f_L m vals v x=dJ (ev m D vals v (nw 0 x)):=by
 have:=zO (body:=zS7 m vals x) (r:=ev m D vals v (nw 0 x)) (fun i=>(ev m D vals v (nw 0 (x.take i)),(i:Int))) n (fun i hi=>by
  have tn:=hx i hi;unfold zS7;simp only
  rw[hl,yN hi,zJ];rw[vJ (S:=Row m.Prime D) (body:=zS6 m vals x (ev m D vals v (nw 0 (x.take i)),(i:Int))) (fun v=>v) (fun v=>stp m D vals v i) (at0 x i) tn.1 (by grind[zBo]) (fun u q hu hq=>by
   unfold zS6;simp only
   rw[yG (by omega),bs,dP hq,zJ,zAQ hm hn hv hu hi,bs,zE (by omega) (by omega),bs,cs]) (fun u hu=>by
   unfold zS6;simp only
   rw[yG (by omega),bs,dO (by omega),zK]) (zDh hm hn hv h _),bs,zE (by omega) (by omega),bs,cs]
  grind[zIX,zIg,zLY]) (by
  unfold zS7
  grind)
 rw[show((0:Nat):Int)=0 from rfl,Jz]at this
 grind[nw,ev,f_L]
theorem zDN{ws:List Nat}(hw:∀w∈ws,w<n)(hl:ws.length≤1000):zS9 m vals (enW ws)=dJ (ev m D vals (z0 D) ws):=by
 have h7:=hm.p.pos;have h3:=hm.d3;unfold zS9;rw[hm.d,yR (by omega),bs];have hz:=zGB (p:=m.Prime) (D:=D) (by omega);have ab:(enW ws).length=ws.length:=by simp
 have:=zO (body:=zLi m vals (enW ws)) (r:=ev m D vals (z0 D) ws) (fun i=>(ev m D vals (z0 D) (ws.take i),(i:Int))) ws.length (fun i hi=>by
  have pR:=hw ws[i] (K7 hi);have hr:=zDh hm hn hv hz (ws.take i);unfold zLi;simp only
  rw[ab,yN hi,zJ,vE,Jp,J4 hi];simp only[Hg];rw[bs,zE (by omega) (by omega),bs,show((ws[i]:Nat):Int)+1-1=((ws[i]:Nat):Int)from by omega,zCE hm hn pR,bs,zAP hm.p (by omega) hr (hm.mat _ pR) rfl,bs,bs,yE [] (by rw[hv.1];exact pR),bs,jA hm.p (jT (by omega)) (hv.2 _ pR) (by omega) (by omega),bs,zE (by omega) (by omega),bs,cs,Jj hi,zIg];rfl) (by
  unfold zLi;simp)
 rw[show((0:Nat):Int)=0 from rfl,Jz]at this
 grind[ev]
end
theorem zQM{v:List Int}(hl:v.length≤1000000):IsB (f_D v) (∀i,i<v.length→at0 v i=0):=by
 refine sG v.length (fun i=>at0 v i=0) rfl (fun i hi _=>?_) ?_
 ·unfold zKS
  rw[yN hi,zJ,yG hi,bs]
  by_cases h:at0 v i=0
  ·rw[show(at0 v i != 0)=dM from by grind,zK,zE (by omega) (by omega),bs,cs];grind
  grind
 ·unfold zKS
  simp
theorem zCr{v:List Int}(hl:v.length≤1000000):IsB (zS8 v) (∀i,i<v.length→at0 v i=0):=zQM hl
section
variable {x:SPr} (h:Pres x) {m:zC}{D:Nat} (hm:MOk x.zA.length m D) {vals:Mx} (hv:VOk x.zA.length m.Prime D vals)
 include h hm hv
abbrev dfc(m:zC)(D:Nat)(vals:Mx)(q:Rl):List Int:=vA m.Prime D (ev m D vals (z0 D) q.1) (-1) (ev m D vals (z0 D) q.2)
theorem zIZ:(wF x).length≤100:=by
 have _:=hv;have _:=hm;have h6:=h.os.1;have a9:=zGA h x.zA.length (Jf _)
 grind[wF]
theorem zJa:zUg x m vals=dJ ((wF x).map (dfc m D vals)):=by
 have h6:=h.os.1;have h7:=hm.p.pos;have h3:=hm.d3;have fS:=zIZ h hm hv;have hz:=zGB (p:=m.Prime) (D:=D) (by omega);unfold zUg;rw[zAe h,bs];have:=zO (body:=zLj m vals ((wF x).map enR)) (r:=(wF x).map (dfc m D vals)) (fun i=>(((wF x).map (dfc m D vals)).take i,(i:Int))) (wF x).length (fun i hi=>by
  have gw:(wF x)[i]∈wF x:=K7 hi;obtain⟨⟨g1,g2⟩,g3,g4⟩:=zId h gw;unfold zLj;simp only
  rw[Jt,yN hi,zJ,vE,Jp,J4 hi];simp only[Hg];rw[bs,zDN hm h6 hv g1 g2,bs,zDN hm h6 hv g3 g4,bs,jA hm.p (zDh hm h6 hv hz _) (zDh hm h6 hv hz _) (by omega) (by omega),bs,zZ (by simp;omega),bs,zE (by omega) (by omega),bs,cs,Jj (by simpa using hi)];simp) (by
  unfold zLj;simp only
  rw[Jt,vC,zK,Ji (by simp)])
 grind
end
end Go.Pl

namespace Go.Pl
open Go Go.Ab Go.Wk Go.Pc
theorem zO9{m:zC}{D:Nat}{vals:Mx}(hp:Prime m.Prime)(hd:m.Dim=(D:Int))(hD:D≤8)(hl:vals.length≤1048576):IsB (zW3 m vals) (∀i,i<vals.length→Row m.Prime D (vals.getD i [])):=by
 refine sG vals.length (fun i=>Row m.Prime D (vals.getD i [])) rfl (fun i hi _=>?_) ?_
 ·refine vZ (zEX hp hD (r:=vals.getD i [])) (by omega) ?_
  unfold zOd;rw[yN hi,zJ,yE [] hi,bs,hd]
 ·unfold zOd
  simp
theorem zK3{a b:Int}(h:a=b):(a==b)=dL:=by simp[h]
theorem zK4{a b:Int}(h:a≠b):(a==b)=dM:=by simp[h]
end Go.Pl

namespace Go.Pl
open Go Go.Ab Go.Wk Go.Pc
theorem IsB.both{o o':Option Bool}{P:Prop}(h:IsB o P)(h':IsB o' P):(o=dJ dL∧o'=dJ dL∧P)∨(o=dJ dM∧o'=dJ dM∧ ¬P):=by
 rcases h with⟨h1,h2⟩|⟨h1,h2⟩<;>rcases h' with⟨h3,h4⟩|⟨h3,h4⟩
 ·exact .inl ⟨h1,h3,h2⟩
 ·exact absurd h2 h4
 ·exact absurd h4 h2
 ·exact .inr ⟨h1,h3,h2⟩
end Go.Pl

namespace Go.Pl
open Go Go.Ab Go.Wk Go.Pc
def Sp(p:Int)(n:Nat)(R:Mx)(v:List Int):Prop:=∃c:Nat→Int,∀j,j<n→(S R.length fun i=>c i*ent R i j)%p=at0 v j%p
section
variable {p:Int}{n:Nat}{R R':Mx}{u v w:List Int}
theorem qG{i:Nat}(hi:i<R.length):Sp p n R (R.getD i []):=by refine⟨fun l=>if l=i then 1 else 0,fun j _=>?_⟩;rw[zAO (k:=i) hi (fun l _ hl=>by simp[hl])];simp
theorem qH{k:Int}(hv:Sp p n R v)(hw:Sp p n R w)(h:∀j,j<n→at0 u j%p=(at0 v j+k*at0 w j)%p):Sp p n R u:=by
 obtain⟨c,hc⟩:=hv;obtain⟨d,hd⟩:=hw;refine⟨fun i=>c i+k*d i,fun j hj=>?_⟩;have e:(S R.length fun i=>(c i+k*d i)*ent R i j)=(S R.length fun i=>c i*ent R i j)+k*(S R.length fun i=>d i*ent R i j):=by rw[←zE2,←zKq];exact vF fun i _=>by rw[Uk,H6]
 rw[e,h j hj,K6,hc j hj,Jo,hd j hj,←Jo,←K6]
theorem zAt(h:∀j,j<n→at0 u j%p=0):Sp p n R u:=by refine⟨fun _=>0,fun j hj=>?_⟩;rw[h j hj,vF (g:=fun _=>0) (fun i _=>by simp),jZ];simp
theorem jU(h:∀i,i<R.length→Sp p n R' (R.getD i []))(hv:Sp p n R v):Sp p n R' v:=by
 obtain⟨c,hc⟩:=hv;have key:∀m,m≤R.length→ ∃d:Nat→Int,∀j,j<n→(S R'.length fun i=>d i*ent R' i j)%p=(S m fun i=>c i*ent R i j)%p:=by
  intro m
  induction m with
  |zero=>intro _;exact⟨fun _=>0,fun j _=>by rw[vF (g:=fun _=>0) (fun i _=>by simp),jZ];rfl⟩
  |succ m ih=>
   intro hm;obtain⟨d,hd⟩:=ih (by omega);obtain⟨e,he⟩:=h m (by omega);refine⟨fun i=>d i+c m*e i,fun j hj=>?_⟩;have e1:(S R'.length fun i=>(d i+c m*e i)*ent R' i j)=(S R'.length fun i=>d i*ent R' i j)+c m*(S R'.length fun i=>e i*ent R' i j):=by rw[←zE2,←zKq];exact vF fun i _=>by rw[Uk,H6]
   rw[e1,K6,hd j hj,Jo,he j hj,←Jo,←K6];rfl
 obtain⟨d,hd⟩:=key R.length (Jf _);exact⟨d,fun j hj=>by rw[hd j hj,hc j hj]⟩
end
def qB(p:Int)(n:Nat)(R R':Mx):Prop:=(∀i,i<R.length→Sp p n R' (R.getD i []))∧ ∀i,i<R'.length→Sp p n R (R'.getD i [])
theorem qB.refl{p:Int}{n:Nat}{R:Mx}:qB p n R R:=⟨fun _ h=>qG h,fun _ h=>qG h⟩
theorem qB.symm{p:Int}{n:Nat}{R R':Mx}(h:qB p n R R'):qB p n R' R:=⟨h.2,h.1⟩
theorem qB.trans{p:Int}{n:Nat}{R R' R2:Mx}(h:qB p n R R')(h':qB p n R' R2):qB p n R R2:=⟨fun i hi=>jU h'.1 (h.1 i hi),fun i hi=>jU h.2 (h'.2 i hi)⟩
theorem qB.iff{p:Int}{n:Nat}{R R':Mx}{v:List Int}(h:qB p n R R'):Sp p n R v↔Sp p n R' v:=⟨fun g=>jU h.1 g,fun g=>jU h.2 g⟩
structure Red (p:Int) (n:Nat) (R:Mx) (pv:Nat→Nat):Prop where
 row:∀i,i<R.length→Row p n (R.getD i [])
 lt:∀i,i<R.length→pv i<n
 one:∀i,i<R.length→ent R i (pv i)=1
 low:∀i,i<R.length→ ∀j,j<pv i→ent R i j=0
 off:∀i k,i<R.length→k<R.length→k≠i→ent R k (pv i)=0
 mono:∀i j,i<j→j<R.length→pv i<pv j
section
variable {p:Int} (hp:1<p) {n:Nat}{R R':Mx}{pv pv':Nat→Nat}{v:List Int}
theorem Red.coef(h:Red p n R pv){c:Nat→Int}(hc:∀j,j<n→(S R.length fun i=>c i*ent R i j)%p=at0 v j%p){k:Nat}(hk:k<R.length):c k%p=at0 v (pv k)%p:=by rw[←hc (pv k) (h.lt k hk),zAO (k:=k) hk (fun i hi gf=>by rw[h.off k i hk hi gf];simp),h.one k hk];simp
theorem Red.expand(h:Red p n R pv)(hv:Sp p n R v):∀j,j<n→at0 v j%p=(S R.length fun i=>at0 v (pv i)*ent R i j)%p:=by obtain⟨c,hc⟩:=hv;intro j hj;rw[←hc j hj];exact zDK fun i hi=>by rw[Jo,h.coef hc hi,←Jo]
theorem Red.lead(h:Red p n R pv)(hv:Sp p n R v)(gf:∃j,j<n∧at0 v j%p≠0):∃i,i<R.length∧(∀j,j<pv i→at0 v j%p=0)∧at0 v (pv i)%p≠0:=by
 have hx:=h.expand hv;have h1:∃i,i<R.length∧at0 v (pv i)%p≠0:=by
  refine Classical.byContradiction fun hn=>?_
  obtain⟨j,hj,a8⟩:=gf;refine a8 ?_;rw[hx j hj,zDK (g:=fun _=>0) (fun i hi=>by
   have:at0 v (pv i)%p=0:=Classical.byContradiction fun h0=>hn ⟨i,hi,h0⟩
   rw[Jo,this];simp),jZ];rfl
 obtain⟨i,⟨hi,eE⟩,ef⟩:=zC7 h1;refine⟨i,hi,fun j hj=>?_,eE⟩;have mW:j<n:=Nat.lt_trans hj (h.lt i hi);rw[hx j mW,zDK (g:=fun _=>0) (fun k hk=>by
  rcases Jd k i with hki|hki
  ·have:at0 v (pv k)%p=0:=Classical.byContradiction fun h0=>ef k hki ⟨hk,h0⟩
   rw[Jo,this];simp
  ·have h2:pv i≤pv k:=by
    rcases Jd i k with h3|h3
    ·exact Jbu (h.mono i k h3 hk)
    ·rw[show i=k from by omega];exact Jf _
   rw[h.low k hk j (by omega)];simp),jZ];rfl
 include hp
theorem Red.row_lead(h:Red p n R pv){i:Nat}(hi:i<R.length):(∃j,j<n∧at0 (R.getD i []) j%p≠0)∧(∀j,j<pv i→at0 (R.getD i []) j%p=0)∧at0 (R.getD i []) (pv i)%p≠0:=by
 have h1:at0 (R.getD i []) (pv i)%p≠0:=by have:=h.one i hi;simp only[ent]at this;rw[this,Jv (by omega) hp];omega
 refine⟨⟨pv i,h.lt i hi,h1⟩,fun j hj=>?_,h1⟩;have:=h.low i hi j hj;simp only[ent]at this;rw[this];rfl
theorem Red.piv_in(h:Red p n R pv)(h':Red p n R' pv')(hs:∀i,i<R.length→Sp p n R' (R.getD i [])){i:Nat}(hi:i<R.length):∃k,k<R'.length∧pv' k=pv i:=by
 obtain⟨g1,g2,g3⟩:=h.row_lead hp hi;obtain⟨k,hk,g4,g5⟩:=h'.lead (hs i hi) g1;refine⟨k,hk,?_⟩;rcases Gd (pv' k) (pv i)with h1|h1|h1
 ·exact absurd (g2 _ h1) g5
 ·exact h1
 ·exact absurd (g4 _ h1) g3
theorem Red.piv_eq(h:Red p n R pv)(h':Red p n R' pv')(hs:qB p n R R'):∀i,(i<R.length↔i<R'.length)∧(i<R.length→pv i=pv' i):=by
 intro i
 induction i using Nat.strongRecOn with
 |_ i ih=>
  have a:i<R.length→i<R'.length∧pv' i≤pv i:=fun hi=>by
   obtain⟨k,hk,e⟩:=h.piv_in hp h' hs.1 hi;have hki:i≤k:=by
    refine Classical.byContradiction fun hn=>?_
    have h1:=(ih k (by omega)).2 (by omega);have h2:=h.mono k i (by omega) hi;omega
   refine⟨by omega,?_⟩;rcases Jd i k with h3|h3
   ·have:=h'.mono i k h3 hk;omega
   ·have bY:i=k:=by omega
    subst bY;omega
  have b:i<R'.length→i<R.length∧pv i≤pv' i:=fun hi=>by
   obtain⟨k,hk,e⟩:=h'.piv_in hp h hs.2 hi;have hki:i≤k:=by
    refine Classical.byContradiction fun hn=>?_
    have h1:=(ih k (by omega)).2 hk;have h2:=h'.mono k i (by omega) hi;omega
   refine⟨by omega,?_⟩;rcases Jd i k with h3|h3
   ·have:=h.mono i k h3 hk;omega
   ·have bY:i=k:=by omega
    subst bY;omega
  exact⟨⟨fun hi=>(a hi).1,fun hi=>(b hi).1⟩,fun hi=>by have:=(a hi).2;have:=(b (a hi).1).2;omega⟩
theorem Red.unique(h:Red p n R pv)(h':Red p n R' pv')(hs:qB p n R R'):R=R':=by
 have da:=h.piv_eq hp h' hs;have hl:R.length=R'.length:=by
  rcases Gd R.length R'.length with g|g|g
  ·have:=(da R.length).1.2 g;omega
  ·exact g
  ·have:=(da R'.length).1.1 g;omega
 refine zG4 (D:=R.length) rfl hl.symm fun i hi=>?_
 have eR:i<R'.length:=by omega
 have r1:=h.row i hi;have r2:=h'.row i eR;rw[vO r1.1,vO r2.1];refine yA fun j hj=>?_
 have hx:=h'.expand (hs.1 i hi) j hj;rw[vF (g:=fun k=>(if k=i then 1 else 0)*ent R' k j) (fun k hk=>by
  congr 1
  have e:=(da k).2 (by omega)
  by_cases hki:k=i
  ·subst hki;rw[if_pos rfl,←e];exact h.one k hi
  ·rw[if_neg hki,←e];exact h.off k i (by omega) hi (Ne.symm hki)),zAO (k:=i) eR (fun k _ hk=>by simp[hk])]at hx
 simp only[if_true,Ut,ent]at hx;have a1:=r1.2 j hj;have a2:=r2.2 j hj;rw[Jv a1.1 (by omega),Jv a2.1 (by omega)]at hx;exact hx
end
end Go.Pl

namespace Go.Pl
open Go Go.Ab Go.Wk Go.Pc
def mkR(m:Nat)(F:Nat→List Int):Mx:=(Jl m).map F
theorem tL{m:Nat}{F:Nat→List Int}:(mkR m F).length=m:=by simp[mkR]
theorem jJ{m:Nat}{F:Nat→List Int}{i:Nat}(h:i<m):(mkR m F).getD i []=F i:=by simp[mkR,J3,h]
theorem zJb{m:Nat}{F:Nat→List Int}{i:Nat}(h:i<m):ixO (mkR m F) (i:Int)=dJ (F i):=by rw[yE [] (by rw[tL];exact h),jJ h]
theorem tY{m:Nat}{F G:Nat→List Int}(h:∀i,i<m→F i=G i):mkR m F=mkR m G:=by simp only[mkR];exact U6 fun i hi=>h i (Ld.1 hi)
theorem zVW{R:Mx}{m:Nat}(h:R.length=m):R=mkR m (fun i=>R.getD i []):=zG4 (D:=m) h tL fun i hi=>by rw[jJ hi]
theorem zFu{m:Nat}{F:Nat→List Int}{i:Nat}{a:List Int}:(mkR m F).set i a=mkR m (fun k=>if k=i then a else F k):=by
 apply K9;intro k
 by_cases hk:k<m
 ·by_cases h:i=k
  ·subst h;simp[mkR,hk]
  ·rw[List.getElem?_set_ne h];simp[mkR,hk,Ne.symm h]
 ·rw[Jq (by simp[mkR];omega),Jq (by simp[mkR];omega)]
theorem zDO{m:Nat}{F:Nat→List Int}{i j:Nat}(h:i<m):ent (mkR m F) i j=at0 (F i) j:=by simp only[ent,jJ h]
theorem zQN{s:Nat→Int×Int×Int×Int}(n:Nat){r:Int×Int}(h:∀i,i<n→zPc (s i)=dJ (.inl (s (i+1))))(he:zPc (s n)=dJ (.inr r)){p q:Int}(hq:zHu r.2 p=dJ q)(h1:r.1=1)(hs:s 0=(p,(s 0).2.1,0,1)):
  f_Q (s 0).2.1 p=dJ (q,dL):=by
 unfold f_Q;rw[←hs,zO s n h he,bs,hq,bs,h1];rfl
def zQO:List (Int×Int×Int×Int)→Nat→Int×Int×Int×Int:=fun l i=>l.getD i (0,0,0,0)
theorem uM(l:List (Int×Int×Int×Int))(n:Nat){r:Int×Int}(h:∀i,i<n→zPc (zQO l i)=dJ (.inl (zQO l (i+1))))(he:zPc (zQO l n)=dJ (.inr r)){p q x:Int}(hq:zHu r.2 p=dJ q)(h1:r.1=1)(hs:zQO l 0=(p,x,0,1)):
  f_Q x p=dJ (q,dL):=by
 have:=zQN (s:=zQO l) n h he hq h1 (by rw[hs]);rw[hs]at this;exact this
theorem lt1{P:Nat→Prop}(h0:P 0):∀i,i<1→P i:=fun i hi=>by rw[show i=0 from by omega];exact h0
theorem lt2{P:Nat→Prop}(h0:P 0)(h1:P 1):∀i,i<2→P i:=fun i hi=>by match i,hi with|0,_=>exact h0|1,_=>exact h1
theorem lt3{P:Nat→Prop}(h0:P 0)(h1:P 1)(h2:P 2):∀i,i<3→P i:=fun i hi=>by match i,hi with|0,_=>exact h0|1,_=>exact h1|2,_=>exact h2
theorem zDP{p x:Int}(hp:Prime p)(h0:1≤x)(h1:x≤p-1):∃r,f_Q x p=dJ (r,dL)∧0≤r∧r≤p-1∧(x*r)%p=1:=by
 have c:(p=2∧x=1)∨(p=3∧(x=1∨x=2))∨(p=5∧(x=1∨x=2∨x=3∨x=4))∨(p=7∧(x=1∨x=2∨x=3∨x=4∨x=5∨x=6)):=by unfold Prime at hp;omega
 rcases c with⟨rfl,rfl⟩|⟨rfl,rfl|rfl⟩|⟨rfl,rfl|rfl|rfl|rfl⟩|⟨rfl,rfl|rfl|rfl|rfl|rfl|rfl⟩
 ·exact⟨1,uM [(2,1,0,1),(1,0,1,-2)] 1 (lt1 (by decide+kernel)) (r:=(1,1)) (by decide+kernel) (by decide+kernel) rfl rfl,by decide,by decide,by decide⟩
 ·exact⟨1,uM [(3,1,0,1),(1,0,1,-3)] 1 (lt1 (by decide+kernel)) (r:=(1,1)) (by decide+kernel) (by decide+kernel) rfl rfl,by decide,by decide,by decide⟩
 ·exact⟨2,uM [(3,2,0,1),(2,1,1,-1),(1,0,-1,3)] 2 (lt2 (by decide+kernel) (by decide+kernel)) (r:=(1,-1)) (by decide+kernel) (by decide+kernel) rfl rfl,by decide,by decide,by decide⟩
 ·exact⟨1,uM [(5,1,0,1),(1,0,1,-5)] 1 (lt1 (by decide+kernel)) (r:=(1,1)) (by decide+kernel) (by decide+kernel) rfl rfl,by decide,by decide,by decide⟩
 ·exact⟨3,uM [(5,2,0,1),(2,1,1,-2),(1,0,-2,5)] 2 (lt2 (by decide+kernel) (by decide+kernel)) (r:=(1,-2)) (by decide+kernel) (by decide+kernel) rfl rfl,by decide,by decide,by decide⟩
 ·exact⟨2,uM [(5,3,0,1),(3,2,1,-1),(2,1,-1,2),(1,0,2,-5)] 3 (lt3 (by decide+kernel) (by decide+kernel) (by decide+kernel)) (r:=(1,2)) (by decide+kernel) (by decide+kernel) rfl rfl,by decide,by decide,by decide⟩
 ·exact⟨4,uM [(5,4,0,1),(4,1,1,-1),(1,0,-1,5)] 2 (lt2 (by decide+kernel) (by decide+kernel)) (r:=(1,-1)) (by decide+kernel) (by decide+kernel) rfl rfl,by decide,by decide,by decide⟩
 ·exact⟨1,uM [(7,1,0,1),(1,0,1,-7)] 1 (lt1 (by decide+kernel)) (r:=(1,1)) (by decide+kernel) (by decide+kernel) rfl rfl,by decide,by decide,by decide⟩
 ·exact⟨4,uM [(7,2,0,1),(2,1,1,-3),(1,0,-3,7)] 2 (lt2 (by decide+kernel) (by decide+kernel)) (r:=(1,-3)) (by decide+kernel) (by decide+kernel) rfl rfl,by decide,by decide,by decide⟩
 ·exact⟨5,uM [(7,3,0,1),(3,1,1,-2),(1,0,-2,7)] 2 (lt2 (by decide+kernel) (by decide+kernel)) (r:=(1,-2)) (by decide+kernel) (by decide+kernel) rfl rfl,by decide,by decide,by decide⟩
 ·exact⟨2,uM [(7,4,0,1),(4,3,1,-1),(3,1,-1,2),(1,0,2,-7)] 3 (lt3 (by decide+kernel) (by decide+kernel) (by decide+kernel)) (r:=(1,2)) (by decide+kernel) (by decide+kernel) rfl rfl,by decide,by decide,by decide⟩
 ·exact⟨3,uM [(7,5,0,1),(5,2,1,-1),(2,1,-1,3),(1,0,3,-7)] 3 (lt3 (by decide+kernel) (by decide+kernel) (by decide+kernel)) (r:=(1,3)) (by decide+kernel) (by decide+kernel) rfl rfl,by decide,by decide,by decide⟩
 ·exact⟨6,uM [(7,6,0,1),(6,1,1,-1),(1,0,-1,7)] 2 (lt2 (by decide+kernel) (by decide+kernel)) (r:=(1,-1)) (by decide+kernel) (by decide+kernel) rfl rfl,by decide,by decide,by decide⟩
end Go.Pl

namespace Go.Pl
open Go Go.Ab Go.Wk Go.Pc
structure zOA (p:Int) (n m:Nat) (rows:Mx) (c:Nat) (M:Mx) (d:Nat) (pv:Nat→Nat):Prop where
 len:M.length=m
 row:∀i,i<m→Row p n (M.getD i [])
 dm:d≤m
 lt:∀i,i<d→pv i<c
 one:∀i,i<d→ent M i (pv i)=1
 low:∀i,i<d→ ∀j,j<pv i→ent M i j=0
 off:∀i k,i<d→k<m→k≠i→ent M k (pv i)=0
 mono:∀i j,i<j→j<d→pv i<pv j
 zero:∀k,d≤k→k<m→ ∀j,j<c→ent M k j=0
 sp:qB p n M rows
theorem zBp{p:Int}{n m:Nat}{F:Nat→List Int}{i:Nat}(h:i<m):Sp p n (mkR m F) (F i):=by have:=qG (p:=p) (n:=n) (R:=mkR m F) (i:=i) (by rw[tL];exact h);rw[jJ h]at this;exact this
theorem zQP(a e r p:Int):a%p=((a+(0-e)*r)%p+e*r)%p:=by rw[K6,Js,←K6,show a+(0-e)*r+e*r=a from by rw[Us,Hx];omega]
section
variable {p:Int} (hp:Prime p) {n m:Nat}{rows:Mx}{c:Nat}{M:Mx}{d:Nat}{pv:Nat→Nat} (h:zOA p n m rows c M d pv) (hc:c<n) (hd:d<m)
 include hp h hc hd
theorem zOA.pivot{t:Nat}(ht:d≤t)(bw:t<m)(gf:ent M t c≠0){q:Int}(hq:(ent M t c*q)%p=1):
  zOA p n m rows (c+1) (mkR m fun i=>if i=d then mkv n fun j=>(ent M t j*q)%p else vA p n (if i=t then M.getD d []else M.getD i []) (0-at0 (if i=t then M.getD d []else M.getD i []) c) (mkv n fun j=>(ent M t j*q)%p)) (d+1) (fun i=>if i=d then c else pv i):=by
 have h7:=hp.pos;have pr:∀j,j<n→at0 (mkv n fun j=>(ent M t j*q)%p) j=(ent M t j*q)%p:=fun j hj=>yH hj
 have p0:∀j,j<c→(ent M t j*q)%p=0:=fun j hj=>by rw[h.zero t ht bw j hj];simp
 have prow:Row p n (mkv n fun j=>(ent M t j*q)%p):=⟨zX _ _,fun j hj=>by have e1:=Kx (ent M t j*q) (show p≠0 by omega);have e2:=Kd (ent M t j*q) (show 0<p by omega);rw[pr j hj];omega⟩
 have hG:∀i,i<m→i≠d→Row p n (if i=t then M.getD d []else M.getD i []):=fun i hi _=>by
  split
  ·exact h.row d hd
  ·exact h.row i hi
 have eo:∀i j,i<m→i≠d→j<n→ent (mkR m fun i=>if i=d then mkv n fun j=>(ent M t j*q)%p else vA p n (if i=t then M.getD d []else M.getD i []) (0-at0 (if i=t then M.getD d []else M.getD i []) c) (mkv n fun j=>(ent M t j*q)%p)) i j=(at0 (if i=t then M.getD d []else M.getD i []) j+(0-at0 (if i=t then M.getD d []else M.getD i []) c)*((ent M t j*q)%p))%p:=fun i j hi ee hj=>by rw[zDO hi,if_neg ee,vA,yH hj,pr j hj]
 have el:∀i j,i<m→i≠d→j<c→ent (mkR m fun i=>if i=d then mkv n fun j=>(ent M t j*q)%p else vA p n (if i=t then M.getD d []else M.getD i []) (0-at0 (if i=t then M.getD d []else M.getD i []) c) (mkv n fun j=>(ent M t j*q)%p)) i j=at0 (if i=t then M.getD d []else M.getD i []) j:=fun i j hi ee hj=>by rw[eo i j hi ee (by omega),p0 j hj,Hy,G4];have:=(hG i hi ee).2 j (by omega);exact Jv this.1 (by omega)
 have ed:∀j,j<n→ent (mkR m fun i=>if i=d then mkv n fun j=>(ent M t j*q)%p else vA p n (if i=t then M.getD d []else M.getD i []) (0-at0 (if i=t then M.getD d []else M.getD i []) c) (mkv n fun j=>(ent M t j*q)%p)) d j=(ent M t j*q)%p:=fun j hj=>by rw[zDO hd,if_pos rfl,pr j hj]
 have ec:∀i,i<m→i≠d→ent (mkR m fun i=>if i=d then mkv n fun j=>(ent M t j*q)%p else vA p n (if i=t then M.getD d []else M.getD i []) (0-at0 (if i=t then M.getD d []else M.getD i []) c) (mkv n fun j=>(ent M t j*q)%p)) i c=0:=fun i hi ee=>by rw[eo i c hi ee hc,hq,Lm];rw[show at0 (if i=t then M.getD d []else M.getD i []) c+(0-at0 (if i=t then M.getD d []else M.getD i []) c)=0 from by omega];simp
 have fd:∀i,i<d→(if i=t then M.getD d []else M.getD i [])=M.getD i []:=fun i hi=>by rw[if_neg (by omega)]
 have mK:∀i,d≤i→i<m→ ∀j,j<c→at0 (if i=t then M.getD d []else M.getD i []) j=0:=fun i hi eE j hj=>by
  split
  ·exact h.zero d (Jf _) hd j hj
  ·exact h.zero i hi eE j hj
 refine⟨tL,fun i hi=>?_,by omega,fun i hi=>?_,fun i hi=>?_,fun i hi j hj=>?_,fun i k hi hk ee=>?_,fun i j eh hj=>?_,fun k hk fA j hj=>?_,?_⟩
 ·rw[jJ hi]
  split
  ·exact prow
  ·exact jS hp
 ·by_cases gU:i=d
  ·rw[if_pos gU];omega
  ·rw[if_neg gU];have:=h.lt i (by omega);omega
 ·by_cases gU:i=d
  ·subst gU;rw[if_pos rfl,ed c hc,hq]
  ·have h1:=h.lt i (by omega)
   rw[if_neg gU,el i _ (by omega) gU h1,fd i (by omega)];exact h.one i (by omega)
 ·by_cases gU:i=d
  ·subst gU
   rw[if_pos rfl]at hj;rw[ed j (by omega),p0 j hj]
  ·rw[if_neg gU]at hj
   have h1:=h.lt i (by omega);rw[el i j (by omega) gU (by omega),fd i (by omega)];exact h.low i (by omega) j hj
 ·by_cases gU:i=d
  ·subst gU
   rw[if_pos rfl];exact ec k hk ee
  ·have h1:=h.lt i (by omega)
   rw[if_neg gU]
   by_cases pK:k=d
   ·subst pK
    rw[ed _ (by omega),h.off i t (by omega) bw (by omega)];simp
   ·rw[el k _ hk pK h1]
    split
    ·exact h.off i d (by omega) hd (Ne.symm gU)
    ·exact h.off i k (by omega) hk ee
 ·by_cases hjd:j=d
  ·subst hjd
   rw[if_pos rfl,if_neg (by omega)];exact h.lt i (by omega)
  ·rw[if_neg hjd,if_neg (by omega)];exact h.mono i j eh (by omega)
 ·rcases Jd j c with hjc|hjc
  ·rw[el k j fA (by omega) hjc];exact mK k (by omega) fA j hjc
  ·rw[show j=c from by omega];exact ec k fA (by omega)
 ·refine qB.trans ⟨fun i hi=>?_,fun i hi=>?_⟩ h.sp
  ·rw[tL]at hi
   rw[jJ hi];have hr:Sp p n M (mkv n fun j=>(ent M t j*q)%p):=by
    refine qH (k:=q) (zAt (u:=[]) fun j _=>by simp[at0]) (qG (R:=M) (i:=t) (by rw[h.len];exact bw)) fun j hj=>?_
    rw[pr j hj,Js,Hz];simp[at0]
   split
   ·exact hr
   ·refine qH (k:=0-at0 (if i=t then M.getD d []else M.getD i []) c) (v:=if i=t then M.getD d []else M.getD i []) ?_ hr fun j hj=>?_
    ·split
     ·exact qG (by rw[h.len];exact hd)
     ·exact qG (by rw[h.len];exact hi)
    ·rw[vA,yH hj,Js]
  ·rw[h.len]at hi
   have hr:=zBp (p:=p) (n:=n) (m:=m) (F:=fun i=>if i=d then mkv n fun j=>(ent M t j*q)%p else vA p n (if i=t then M.getD d []else M.getD i []) (0-at0 (if i=t then M.getD d []else M.getD i []) c) (mkv n fun j=>(ent M t j*q)%p)) hd;simp only[if_true]at hr;have hg:∀k,k<m→k≠d→Sp p n (mkR m fun i=>if i=d then mkv n fun j=>(ent M t j*q)%p else vA p n (if i=t then M.getD d []else M.getD i []) (0-at0 (if i=t then M.getD d []else M.getD i []) c) (mkv n fun j=>(ent M t j*q)%p)) (if k=t then M.getD d []else M.getD k []):=fun k hk pK=>by
    have h1:=zBp (p:=p) (n:=n) (m:=m) (F:=fun i=>if i=d then mkv n fun j=>(ent M t j*q)%p else vA p n (if i=t then M.getD d []else M.getD i []) (0-at0 (if i=t then M.getD d []else M.getD i []) c) (mkv n fun j=>(ent M t j*q)%p)) hk;simp only[if_neg pK]at h1;refine qH (k:=at0 (if k=t then M.getD d []else M.getD k []) c) h1 hr fun j hj=>?_
    rw[vA,yH hj,pr j hj];exact zQP _ _ _ _
   by_cases eg:i=t
   ·
    subst eg;refine qH (k:=ent M i c) (zAt (u:=[]) fun j _=>by simp[at0]) hr fun j hj=>?_
    rw[pr j hj];have e1:(ent M i c*((ent M i j*q)%p))%p=(ent M i j*((ent M i c*q)%p))%p:=by
     rw[Jo,Js,←Jo,Jo (ent M i j),Js,←Jo]
     congr 1
     rw[←H6,←H6,Hz (ent M i c)]
    rw[show at0 ([]:List Int) j=0 from by simp[at0],Kg,e1,hq,Lm]
   ·by_cases gU:i=d
    ·subst gU
     have:=hg t bw (by omega);rw[if_pos rfl]at this;exact this
    ·have:=hg i hi gU
     rw[if_neg eg]at this;exact this
end
end Go.Pl

namespace Go.Pl
open Go Go.Ab Go.Wk Go.Pc
theorem jB{v:List Int}(h:v.length≤1000000):f_z v=dJ v:=by unfold f_z;rw[zZ (by simp;omega),bs,K1]
theorem zHt{rows:Mx}(hm:rows.length≤1000000)(hn:∀i,i<rows.length→(rows.getD i []).length≤1000000):zUa rows=dJ rows:=by
 unfold zUa;have:=zO (body:=zLa rows) (r:=rows) (fun i=>(rows.take i,(i:Int))) rows.length (fun i hi=>by
  unfold zLa;simp only
  rw[yN hi,zJ,yE [] hi,bs,jB (hn i hi),bs,zZ (by simp;omega),bs,zE (by omega) (by omega),bs,cs,Jj hi,J3,J4 hi];rfl) (by
  unfold zLa;simp only
  rw[vC,zK,Hh])
 rw[show((0:Nat):Int)=0 from rfl,Jz]at this;rw[this,bs]
theorem zOB{M:Mx}{d c m n:Nat}(hm:M.length=m)(hd:d≤m)(hmm:m≤1000000)(f9:∀i,i<m→(M.getD i []).length=n)(hc:c<n):
  ∃t:Nat,d≤t∧t≤m∧zH (zHv (M,(d:Int),(c:Int))) (d:Int)=dJ (t:Int)∧(∀k,d≤k→k<t→ent M k c=0)∧(t<m→ent M t c≠0):=by
 have key:∀k,k≤m-d→ ∃t:Nat,m-k≤t∧t≤m∧zH (zHv (M,(d:Int),(c:Int))) ((m-k:Nat):Int)=dJ (t:Int)∧(∀q,m-k≤q→q<t→ent M q c=0)∧(t<m→ent M t c≠0):=by
  intro k
  induction k with
  |zero=>
   intro _;refine⟨m,by omega,Jf _,?_,fun q h1 h2=>by omega,fun h=>by omega⟩;rw[xE];unfold zHv;simp only
   rw[hm,show m-0=m from rfl,vC,zK]
  |succ k ih=>
   intro hk;obtain⟨t,h1,h2,h3,h4,h5⟩:=ih (by omega);have gE:m-(k+1)<m:=by omega
   by_cases hz:ent M (m-(k+1)) c=0
   ·refine⟨t,by omega,h2,?_,fun q q1 q2=>?_,h5⟩
    ·rw[xE]
     have e:zHv (M,(d:Int),(c:Int)) ((m-(k+1):Nat):Int)=dJ (.inl ((m-k:Nat):Int)):=by
      unfold zHv;simp only
      rw[hm,yN gE,zJ,yE [] (by omega),bs,yG (by rw[f9 _ gE];exact hc),bs,zK3 hz,zJ,zE (by omega) (by omega),bs,cs,show m-(k+1)+1=m-k from by omega]
     rw[e];exact h3
    ·rcases Jd (m-(k+1)) q with g|g
     ·exact h4 q (by omega) q2
     ·rw[show q=m-(k+1)from by omega];exact hz
   ·refine⟨m-(k+1),Jf _,by omega,?_,fun q q1 q2=>by omega,fun _=>hz⟩
    rw[xE];have e:zHv (M,(d:Int),(c:Int)) ((m-(k+1):Nat):Int)=dJ (.inr ((m-(k+1):Nat):Int)):=by
     unfold zHv;simp only
     rw[hm,yN gE,zJ,yE [] (by omega),bs,yG (by rw[f9 _ gE];exact hc),bs,zK4 hz,zK]
    rw[e]
 obtain⟨t,h1,h2,h3,h4,h5⟩:=key (m-d) (Jf _);rw[show m-(m-d)=d from by omega]at h1 h3 h4;exact⟨t,h1,h2,h3,h4,h5⟩
section
variable {p:Int} (hp:Prime p) {n m:Nat}{M:Mx}{d c t:Nat}
 include hp
theorem zLZ{F:Nat→List Int}{q:Int}{b:Bool}(hd:d<m)(hr:Row p n (F d))(hn:n≤1000000)(hq:0≤q∧q≤p-1){v:List Int}(hv:v.length=n){s:Mx×Int×Int}(hs:s.2.1=(d:Int)):
  zH (zLb p s (q,b) v) (mkR m F,0)=dJ (mkR m fun i=>if i=d then mkv n fun j=>(at0 (F d) j*q)%p else F i):=by
 have h7:=hp.pos;have:=zO (body:=zLb p s (q,b) v) (r:=mkR m fun i=>if i=d then mkv n fun j=>(at0 (F d) j*q)%p else F i) (fun k=>(mkR m fun i=>if i=d then mkv n (fun j=>if j<k then(at0 (F d) j*q)%p else at0 (F d) j)else F i,(k:Int))) n (fun k hk=>by
  have a1:=hr.2 k hk;have a2:=zBm hp (k:=q) ⟨by omega,by omega⟩ a1;have a3:=Ho a1.1 hq.1;rw[Hz]at a2;unfold zLb;simp only
  rw[hv,yN hk,zJ,hs,zJb hd];simp only[bs,if_true];rw[yG (by rw[zX];exact hk),yH hk,if_neg (by omega)];simp only[bs];rw[zE (by omega) (by omega)];simp only[bs,uC];rw[if_neg (by omega)];simp only[bs];rw[Ko a3,zE (by omega) (by omega)];simp only[bs,J6,cs];rw[zFu]
  congr 3
  refine tY fun i _=>?_
  by_cases hi:i=d
  ·rw[if_pos hi,if_pos hi,jH]
   refine yA fun j _=>?_
   by_cases hj:j=k
   ·subst hj;rw[if_pos rfl,if_pos (by omega)]
   ·rw[if_neg hj]
    by_cases a8:j<k
    ·rw[if_pos a8,if_pos (by omega)]
    ·rw[if_neg a8,if_neg (by omega)]
  ·rw[if_neg hi,if_neg hi,if_neg hi]) (by
  unfold zLb;simp only
  rw[hv,vC,zK]
  congr 2
  refine tY fun i _=>?_
  split
  ·exact yA fun j hj=>by rw[if_pos hj]
  ·rfl)
 rw[show((0:Nat):Int)=0 from rfl]at this;rw[←this]
 congr 2
 refine tY fun i _=>?_
 split
 ·rename_i e;subst e
  conv=>lhs;rw[vO hr.1]
  exact yA fun j _=>by rw[if_neg (by omega)]
 ·rfl
theorem zMa{F:Nat→List Int}(hd:d<m)(hc:c<n)(hr:∀i,i<m→Row p n (F i))(hn:n≤1000000)(hm:m≤1000000){r21:Mx}(hl:r21.length=m){s:Mx×Int×Int}(hs:s.2.1=(d:Int))(fK:s.2.2=(c:Int)):
  zH (zM9 p s r21) (mkR m F,0)=dJ (mkR m fun i=>if i=d then F d else vA p n (F i) (0-at0 (F i) c) (F d)):=by
 have h7:=hp.pos;have:=zO (body:=zM9 p s r21) (r:=mkR m fun i=>if i=d then F d else vA p n (F i) (0-at0 (F i) c) (F d)) (fun k=>(mkR m fun i=>if i<k∧i≠d then vA p n (F i) (0-at0 (F i) c) (F d)else F i,(k:Int))) m (fun k hk=>by
  have a1:=(hr k hk).2 c hc;unfold zM9;simp only
  rw[hl,yN hk,zJ,hs,fK]
  by_cases pK:k=d
  ·subst pK
   rw[qS rfl,zK,zE (by omega) (by omega),bs,cs]
   congr 3
   refine tY fun i _=>?_
   by_cases hi:i=k
   ·subst hi;rw[if_neg (by omega),if_neg (by omega)]
   ·by_cases eE:i<k
    ·rw[if_pos ⟨eE,hi⟩,if_pos ⟨by omega,hi⟩]
    ·rw[if_neg (by omega),if_neg (by omega)]
  ·rw[sY (by omega),zJ,zJb hk,zJb hd]
   simp only[bs,ne_eq,not_true_eq_false,and_false,if_false,Nat.lt_irrefl,false_and];rw[yG (by rw[(hr k hk).1];exact hc)];simp only[bs];rw[zE (by omega) (by omega)];simp only[bs];rw[jA hp (hr k hk) (hr d hd) (by omega) hn,bs,zE (by omega) (by omega)];simp only[bs,J6,cs];rw[zFu]
   congr 3
   refine tY fun i _=>?_
   by_cases hi:i=k
   ·subst hi;rw[if_pos rfl,if_pos ⟨by omega,pK⟩]
   ·rw[if_neg hi]
    by_cases eE:i<k∧ ¬i=d
    ·rw[if_pos eE,if_pos ⟨by omega,eE.2⟩]
    ·rw[if_neg eE,if_neg (by omega)]) (by
  unfold zM9;simp only
  rw[hl,vC,zK]
  congr 2
  refine tY fun i hi=>?_
  by_cases gU:i=d
  ·rw[if_pos gU,if_neg (by omega),gU]
  ·rw[if_neg gU,if_pos ⟨hi,gU⟩])
 rw[show((0:Nat):Int)=0 from rfl]at this;rw[←this]
 congr 2
end
end Go.Pl

namespace Go.Pl
open Go Go.Ab Go.Wk Go.Pc
theorem Red.empty{p:Int}{n:Nat}:Red p n [] (fun _=>0):=⟨fun _ h=>by simp at h,fun _ h=>by simp at h,fun _ h=>by simp at h,fun _ h=>by simp at h,fun _ _ h=>by simp at h,fun _ _ _ h=>by simp at h⟩
theorem zOA.take{p:Int}{n m:Nat}{rows:Mx}{c:Nat}{M:Mx}{d:Nat}{pv:Nat→Nat}(h:zOA p n m rows c M d pv)(tc:c≤n)(hz:∀k,d≤k→k<m→ ∀j,j<n→ent M k j=0):Red p n (M.take d) pv∧qB p n (M.take d) rows:=by
 have hl:(M.take d).length=d:=by rw[Jr,h.len];exact Li h.dm
 have hg:∀i,i<d→(M.take d).getD i []=M.getD i []:=fun i hi=>by simp only[J3,Jbx,if_pos hi]
 have dm:=h.dm;refine⟨⟨fun i hi=>?_,fun i hi=>?_,fun i hi=>?_,fun i hi j hj=>?_,fun i k hi hk gf=>?_,fun i j eh hj=>?_⟩,qB.trans ⟨fun i hi=>?_,fun i hi=>?_⟩ h.sp⟩
 ·rw[hl]at hi;rw[hg i hi];exact h.row i (by omega)
 ·rw[hl]at hi;have:=h.lt i hi;omega
 ·rw[hl]at hi;simp only[ent,hg i hi];exact h.one i hi
 ·rw[hl]at hi;simp only[ent,hg i hi];exact h.low i hi j hj
 ·rw[hl]at hi hk;simp only[ent,hg k hk];exact h.off i k hi (by omega) gf
 ·rw[hl]at hj;exact h.mono i j eh hj
 ·rw[hl]at hi;rw[hg i hi];exact qG (by rw[h.len];omega)
 ·rw[h.len]at hi
  rcases Jd i d with g|g
  ·have:=qG (p:=p) (n:=n) (R:=M.take d) (i:=i) (by rw[hl];exact g)
   rw[hg i g]at this;exact this
  ·exact zAt fun j hj=>by have:=hz i g hi j hj;simp only[ent]at this;rw[this];rfl
section
variable {p:Int} (hp:Prime p) {n:Nat}{rows:Mx} (hn:n≤100000) (hm:rows.length≤600000) (hr:∀i,i<rows.length→Row p n (rows.getD i []))
 include hp hn hm hr
theorem zK5:∃R pv,f_g p rows=dJ R∧Red p n R pv∧qB p n R rows:=by
 have h7:=hp.pos;unfold f_g;rw[zHt (by omega) (fun i hi=>by have:=(hr i hi).1;omega),bs];have main:=vW (body:=zMA p) (s:=(rows,0,0)) (Q:=fun r=> ∃(M:Mx)(d:Nat)(pv:Nat→Nat),r=(M,(d:Int))∧d≤M.length∧Red p n (M.take d) pv∧qB p n (M.take d) rows)
  (fun i s=> ∃(M:Mx)(d:Nat)(pv:Nat→Nat),s=(M,(d:Int),(i:Int))∧zOA p n rows.length rows i M d pv∧i≤n) n (fun c s hc hI=>?_) (fun s hI=>?_) ⟨rows,0,fun _=>0,rfl,⟨rfl,hr,Jy _,fun _ h=>by omega,fun _ h=>by omega,fun _ h=>by omega,fun _ _ h=>by omega,fun _ _ _ h=>by omega,fun _ _ _ _ h=>by omega,qB.refl⟩,Jy _⟩
 ·obtain⟨r,h1,M,d,pv,rfl,hd,hR,hS⟩:=main
  rw[h1,bs];simp only
  have e:zW M 0 (d:Int)=dJ (M.take d):=by unfold zW;rw[if_pos ⟨by omega,by omega,by omega⟩];simp
  rw[e,bs];exact⟨_,_,rfl,hR,hS⟩
 ·
  obtain⟨M,d,pv,rfl,h,tc⟩:=hI;have hl:=h.len;have mZ:=h.dm
  by_cases h0:rows.length=0
  ·refine .inr ⟨(M,(d:Int)),?_,M,d,pv,rfl,by omega,h.take tc fun k hk fA=>by omega⟩
   unfold zMA;simp only
   rw[dO (by omega),zK]
  have e0:zMA p (M,(d:Int),(c:Int))=cond (decide ((d:Int)<(M.length:Int))) ((zH (zHv (M,(d:Int),(c:Int))) (d:Int)).bind fun r6=>
    cond (r6==(M.length:Int)) ((rng ((c:Int)+1)).bind fun v7=>dJ (.inl (M,(d:Int),v7))) (
     (ixO M r6).bind fun v8=>(ixO M (d:Int)).bind fun v9=>(ixO (qR M (d:Int) r6 v8 v9) (d:Int)).bind fun v10=>(ixO v10 (c:Int)).bind fun v11=>(f_Q v11 p).bind fun r12=>
     (ixO (qR M (d:Int) r6 v8 v9) (d:Int)).bind fun v13=>(zH (zLb p (M,(d:Int),(c:Int)) r12 v13) (qR M (d:Int) r6 v8 v9,0)).bind fun r21=>
     (zH (zM9 p (M,(d:Int),(c:Int)) r21) (r21,0)).bind fun r30=>(rng ((d:Int)+1)).bind fun v31=>(rng ((c:Int)+1)).bind fun v32=>dJ (.inl (r30,v31,v32)))) (dJ (.inr (M,(d:Int)))):=by
   unfold zMA;simp only
   have hx:ixO M (0:Int)=dJ (M.getD 0 []):=by have:=yE (v:=M) (i:=0) [] (by omega);exact this
   rw[dP (by omega),zJ,hx];simp only[bs];rw[(h.row 0 (by omega)).1,yN hc,zJ]
  rcases Jd d rows.length with hd|hd
  ·obtain⟨t,t1,t2,t3,t4,t5⟩:=zOB (M:=M) (d:=d) (c:=c) (m:=rows.length) (n:=n) hl mZ (by omega) (fun i hi=>(h.row i hi).1) hc
   rw[e0,hl,yN hd,zJ,t3];simp only[bs]
   by_cases bw:t=rows.length
   ·
    left;refine⟨(M,(d:Int),((c+1:Nat):Int)),?_,M,d,pv,rfl,⟨hl,h.row,mZ,fun i hi=>by have:=h.lt i hi;omega,h.one,h.low,h.off,h.mono,fun k k1 k2 j hj=>?_,h.sp⟩,by omega⟩
    ·rw[zK3 (by omega),zJ,zE (by omega) (by omega),bs,cs]
    ·rcases Jd j c with g|g
     ·exact h.zero k k1 k2 j g
     ·rw[show j=c from by omega];exact t4 k k1 (by omega)
   ·have ft:t<rows.length:=by omega
    have gf:=t5 ft;have eC:=h.row t ft;have hrc:=eC.2 c hc;obtain⟨q,q1,q2,q3,q4⟩:=zDP (p:=p) (x:=ent M t c) hp (by simp only[ent]at gf ⊢;omega) (by simp only[ent];omega);left;have hM:M=mkR rows.length (fun i=>M.getD i []):=zVW hl;obtain⟨F,hF⟩:∃F:Nat→List Int,∀i,F i=if i=t then M.getD d []else if i=d then M.getD t []else M.getD i []:=⟨_,fun _=>rfl⟩
    have hsw:qR M (d:Int) (t:Int) (M.getD t []) (M.getD d [])=mkR rows.length F:=by
     unfold qR;rw[J6,J6]
     conv=>lhs;rw[hM]
     rw[zFu,zFu];exact tY fun i hi=>by rw[hF,jJ hd,jJ ft]
    have pA:∀i,i<rows.length→Row p n (F i):=fun i hi=>by
     rw[hF];split
     ·exact h.row d hd
     ·split
      ·exact eC
      ·exact h.row i hi
    have hFd:F d=M.getD t []:=by
     rw[hF]
     by_cases e:d=t
     ·rw[if_pos e,e]
     ·rw[if_neg e,if_pos rfl]
    obtain⟨G,hG⟩:∃G:Nat→List Int,∀i,G i=if i=d then mkv n fun j=>(at0 (F d) j*q)%p else F i:=⟨_,fun _=>rfl⟩
    have hGd:G d=mkv n fun j=>(ent M t j*q)%p:=by rw[hG,if_pos rfl,hFd]
    have hGo:∀i,i≠d→G i=if i=t then M.getD d []else M.getD i []:=fun i gU=>by rw[hG,if_neg gU,hF];simp only[gU,if_false]
    have mP:zH (zLb p (M,(d:Int),(c:Int)) (q,dL) (M.getD t [])) (mkR rows.length F,0)=dJ (mkR rows.length G):=by
     rw[zLZ hp (F:=F) hd (pA d hd) (by omega) ⟨q2,q3⟩ eC.1 rfl]
     congr 1
     exact tY fun i _=>(hG i).symm
    have hF3:∀i,i<rows.length→Row p n (G i):=fun i hi=>by
     rw[hG];split
     ·refine⟨zX _ _,fun j hj=>?_⟩
      have e1:=Kx (at0 (F d) j*q) (show p≠0 by omega);have e2:=Kd (at0 (F d) j*q) (show 0<p by omega);rw[yH hj];omega
     ·exact pA i hi
    have gI:=zMa hp (c:=c) (F:=G) hd hc hF3 (by omega) (by omega) (r21:=mkR rows.length G) tL (s:=(M,(d:Int),(c:Int))) rfl rfl;rw[zK4 (by omega),zK,yE [] (by omega),yE [] (by omega)];simp only[bs];rw[hsw,zJb hd,hFd];simp only[bs];rw[yG (by rw[eC.1];exact hc)];simp only[bs];rw[show at0 (M.getD t []) c=ent M t c from rfl,q1];simp only[bs];rw[mP];simp only[bs];rw[gI];simp only[bs];rw[zE (by omega) (by omega),zE (by omega) (by omega)];simp only[bs,cs];have mz:=h.pivot hp hc hd t1 ft gf q4;refine⟨_,rfl,_,d+1,fun i=>if i=d then c else pv i,rfl,?_,by omega⟩;have e3:(mkR rows.length fun i=>if i=d then G d else vA p n (G i) (0-at0 (G i) c) (G d))=(mkR rows.length fun i=>if i=d then mkv n fun j=>(ent M t j*q)%p else vA p n (if i=t then M.getD d []else M.getD i []) (0-at0 (if i=t then M.getD d []else M.getD i []) c) (mkv n fun j=>(ent M t j*q)%p)):=by
     refine tY fun i hi=>?_
     rw[hGd]
     by_cases gU:i=d
     ·rw[if_pos gU,if_pos gU]
     ·rw[if_neg gU,if_neg gU,hGo i gU]
    rw[e3];exact mz
  ·
   refine .inr ⟨(M,(d:Int)),?_,M,d,pv,rfl,by omega,h.take tc fun k hk fA=>by omega⟩;rw[e0,dO (by omega),zK]
 ·
  obtain⟨M,d,pv,rfl,h,tc⟩:=hI;have hl:=h.len;have mZ:=h.dm;refine⟨(M,(d:Int)),?_,M,d,pv,rfl,by omega,h.take tc fun k hk fA j hj=>h.zero k hk fA j hj⟩;unfold zMA;simp only
  by_cases h0:rows.length=0
  ·rw[dO (by omega),zK]
  ·have hx:ixO M (0:Int)=dJ (M.getD 0 []):=by
    have:=yE (v:=M) (i:=0) [] (by omega);exact this
   rw[dP (by omega),zJ,hx];simp only[bs];rw[(h.row 0 (by omega)).1,vC,zK]
end
end Go.Pl

namespace Go.Pl
open Go Go.Ab Go.Wk Go.Pc
theorem zIh{v:List Int}{n:Nat}(hl:v.length=n)(hn:n≤1000000):∃k:Nat,k≤n∧f_A v=dJ (k:Int)∧(∀j,j<k→at0 v j=0)∧(k<n→at0 v k≠0):=by
 unfold f_A;rcases chk (body:=zHw v) n 0 (Jy _) (fun i=>at0 v i=0) (fun i=>(i:Int)) (fun i _ hi _=>by
   unfold zHw;rw[hl,yN hi,zJ,yG (by omega),bs]
   by_cases h:at0 v i=0
   ·rw[qS h,zK,zE (by omega) (by omega),bs,cs];exact .inl ⟨rfl,h⟩
   ·rw[sY h,zJ];exact .inr ⟨rfl,h⟩) (by
   unfold zHw;rw[hl,vC,zK])with⟨h1,h2⟩|⟨i,_,hi,h1,h2⟩
 ·rw[show((0:Nat):Int)=0 from rfl]at h1
  rw[h1,bs];exact⟨n,Jf _,by simp only[hl],fun j hj=>h2 j (Jy _) hj,fun h=>by omega⟩
 ·rw[show((0:Nat):Int)=0 from rfl]at h1
  rw[h1,bs];obtain⟨k,⟨hk1,fA⟩,ef⟩:=zC7 (p:=fun k=>k<n∧at0 v k≠0) ⟨i,hi,h2⟩;have hz:∀j,j<k→at0 v j=0:=fun j hj=>Classical.byContradiction fun h=>ef j hj ⟨by omega,h⟩
  have hki:k=i:=by
   have cE:∀q,q≤k→zH (zHw v) ((k-q:Nat):Int)=dJ (.inr (k:Int)):=by
    intro q
    induction q with
    |zero=>
     intro _;rw[xE];have e:zHw v ((k-0:Nat):Int)=dJ (.inr (.inr (k:Int))):=by unfold zHw;rw[show k-0=k from rfl,hl,yN hk1,zJ,yG (by omega),bs,sY fA,zJ]
     rw[e]
    |succ q ih=>
     intro hq;rw[xE];have e:zHw v ((k-(q+1):Nat):Int)=dJ (.inl ((k-q:Nat):Int)):=by unfold zHw;rw[hl,yN (by omega),zJ,yG (by omega),bs,qS (hz _ (by omega)),zK,zE (by omega) (by omega),bs,cs,show k-(q+1)+1=k-q from by omega]
     rw[e];exact ih (by omega)
   have:=cE k (Jf _);rw[Kc,show((0:Nat):Int)=0 from rfl,h1]at this;have:=Sum.inr.inj (Hf.inj this);omega
  exact⟨i,by omega,rfl,by rw[←hki];exact hz,fun _=>h2⟩
theorem zFv{v:List Int}{n k:Nat}(hl:v.length=n)(hn:n≤1000000)(hk:k<n)(h0:∀j,j<k→at0 v j=0)(h1:at0 v k≠0):f_A v=dJ (k:Int):=by
 obtain⟨q,q1,q2,q3,q4⟩:=zIh hl hn;have:q=k:=by
  rcases Gd q k with g|g|g
  ·exact absurd (h0 q g) (q4 (by omega))
  ·exact g
  ·exact absurd (q3 k g) h1
 rw[q2,this]
theorem zQQ{p x:Int}(hp:Prime p)(h0:1≤x)(h1:x≤p-1):∃r,zUb x p=dJ r∧0≤r∧r≤p-1∧(x*r)%p=1:=by
 have h7:=hp.pos;have hx:∃k:Nat,1≤k∧(k:Int)<p∧(x*(k:Int))%p=1:=by
  obtain⟨r,_,r1,r2,r3⟩:=zDP hp h0 h1;refine⟨r.toNat,?_,by omega,by rw[Jar r1];exact r3⟩;rcases Int.lt_or_eq_of_le r1 with g|g
  ·omega
  ·rw[←g]at r3;simp at r3
 obtain⟨k,⟨k1,k2,k3⟩,ef⟩:=zC7 hx;have body:∀i:Nat,1≤i→(i:Int)<p→zLd x p (i:Int)=cond ((x*(i:Int))%p==1) (dJ (.inr (.inr (i:Int)))) (dJ (.inl ((i+1:Nat):Int))):=fun i hi hip=>by
  have a3:=Ho (show 0≤x by omega) (show 0≤(i:Int)by omega);have a4:=zBm hp (k:=(i:Int)) ⟨by omega,by omega⟩ (b:=x) ⟨by omega,h1⟩;rw[Hz]at a4;unfold zLd;rw[dP hip,zJ,zK2 hp (by omega) (by omega),bs,Jv (by omega) (by omega),zE (by omega) (by omega),bs];unfold uC;rw[if_neg (by omega),bs,Ko a3]
  by_cases hh:(x*(i:Int))%p=1
  ·rw[zK3 hh,zJ,zJ]
  ·rw[zK4 hh,zK,zK,zE (by omega) (by omega),bs,cs]
 have cE:∀q,q+1≤k→zH (zLd x p) ((k-q:Nat):Int)=dJ (.inr (k:Int)):=by
  intro q
  induction q with
  |zero=>
   intro _;rw[xE,show k-0=k from rfl,body k k1 k2,zK3 k3,zJ]
  |succ q ih=>
   intro hq;have gf:(x*((k-(q+1):Nat):Int))%p≠1:=fun h=>ef (k-(q+1)) (by omega) ⟨by omega,by omega,h⟩
   rw[xE,body _ (by omega) (by omega),zK4 gf,zK,show k-(q+1)+1=k-q from by omega];exact ih (by omega)
 have:=cE (k-1) (by omega);rw[show k-(k-1)=1 from by omega,show((1:Nat):Int)=1 from rfl]at this;refine⟨(k:Int),?_,by omega,by omega,k3⟩;unfold zUb;rw[this,bs]
section
variable {p:Int} (hp:Prime p) {n:Nat} (hn:n≤100000)
 include hp hn
theorem zVX{r s:List Int}(hr:Row p n r):vA p n r p s=r:=by
 have _:=hp;have _:=hn
 conv=>rhs;rw[vO hr.1]
 refine yA fun j hj=>?_
 have:=hr.2 j hj;rw[Lb];exact Jv this.1 (by omega)
def cl(p:Int)(n:Nat)(out:Mx)(pv:Nat→Nat)(v:List Int):Nat→List Int
 |0=>v
 |i+1=>vA p n (cl p n out pv v i) (p-at0 (cl p n out pv v i) (pv i)) (out.getD i [])
variable {out:Mx}{pv:Nat→Nat} (h:Red p n out pv) {v:List Int} (hv:Row p n v)
 include h hv
theorem zDi:∀i,Row p n (cl p n out pv v i):=by
 have _:=hn;have _:=h;intro i;cases i with
 |zero=>exact hv
 |succ i=>exact jS hp
theorem zQR:∀i,i≤out.length→ ∀k,k<i→at0 (cl p n out pv v i) (pv k)=0:=by
 have _:=hn;have _:=hv;have h7:=hp.pos;intro i
 induction i with
 |zero=>intro _ k hk;omega
 |succ i ih=>
  intro hi k hk;have gE:=h.lt k (by omega);rw[cl,vA,yH gE];rcases Jd k i with g|g
  ·have h1:=ih (by omega) k g
   have h2:=h.off k i (by omega) (by omega) (by omega);simp only[ent]at h2;rw[h1,h2];simp
  ·have hki:k=i:=by omega
   subst hki;have h2:=h.one k (by omega);simp only[ent]at h2;rw[h2,Lm,show at0 (cl p n out pv v k) (pv k)+(p-at0 (cl p n out pv v k) (pv k))=p from by omega,Int.emod_self]
theorem zNK:∀i,i≤out.length→ ∃cf:Nat→Int,∀j,j<n→at0 (cl p n out pv v i) j%p=(at0 v j+S out.length fun k=>cf k*ent out k j)%p:=by
 have _:=hp;have _:=h;have _:=hv;have _:=hn;intro i
 induction i with
 |zero=>intro _;exact⟨fun _=>0,fun j _=>by rw[vF (g:=fun _=>0) (fun i _=>by simp),jZ,G4];rfl⟩
 |succ i ih=>
  intro hi;obtain⟨cf,fh⟩:=ih (by omega);refine⟨fun k=>cf k+(if k=i then p-at0 (cl p n out pv v i) (pv i)else 0),fun j hj=>?_⟩;have e1:(S out.length fun k=>(cf k+(if k=i then p-at0 (cl p n out pv v i) (pv i)else 0))*ent out k j)=(S out.length fun k=>cf k*ent out k j)+(p-at0 (cl p n out pv v i) (pv i))*ent out i j:=by rw[vF (g:=fun k=>cf k*ent out k j+(if k=i then p-at0 (cl p n out pv v i) (pv i)else 0)*ent out k j) (fun k _=>by rw[Uk]),zKq,zAO (f:=fun k=>(if k=i then p-at0 (cl p n out pv v i) (pv i)else 0)*ent out k j) (k:=i) (by omega) (fun k _ hk=>by simp[hk])];simp
  rw[e1,cl,vA,yH hj,Js,←Ja2,K6,fh j hj,←K6]
theorem zDj(hm:out.length≤100000):zPd p out v=dJ (cl p n out pv v out.length):=by
 have h7:=hp.pos;unfold zPd;rw[uA (by rw[hv.1];omega),bs];have:=zO (body:=zLc p out) (r:=cl p n out pv v out.length) (fun i=>(cl p n out pv v i,(i:Int))) out.length (fun i hi=>by
  have hr:=zDi hp hn h hv i;have ho:=h.row i hi;have gE:=h.lt i hi;have gA:=h.one i hi;have fd:=h.low i hi;simp only[ent]at gA fd;have he:=hr.2 (pv i) gE;unfold zLc;simp only
  rw[yN hi,zJ,yE [] hi,bs,zFv ho.1 (by omega) gE fd (by rw[gA];decide),bs,hr.1,yN gE,zJ,yG (by rw[hr.1];exact gE),bs]
  by_cases hz:at0 (cl p n out pv v i) (pv i)=0
  ·rw[qS hz,zK,zE (by omega) (by omega),bs,cs,cl,hz,Int.sub_zero,zVX hp hn hr]
  ·rw[sY hz,zJ,bs,zE (by omega) (by omega),bs,bs,uB hp hr ho ⟨by omega,by omega⟩ (by omega),bs,zE (by omega) (by omega),bs,cs]
   rfl) (by
  unfold zLc;simp only
  rw[vC,zK])
 rw[show((0:Nat):Int)=0 from rfl]at this;simp only[cl]at this;rw[this,bs]
end
end Go.Pl
