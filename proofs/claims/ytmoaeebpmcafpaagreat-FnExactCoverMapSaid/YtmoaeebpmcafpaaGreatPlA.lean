/- The program's CoverMap returns what the reference's returns,for all arguments;no conditions. -/
import Derived.Test.YtmoaeebpmcafpaaGreatAbB
import Derived.Test.YtmoaeebpmcafpaaGreatWF
open List renaming replicate→J1,getD_eq_getElem?_getD→J3,getElem?_eq_getElem→J5,mem_cons→J7,length_cons→J8,length_append→J9,range→Jb,length_replicate→Jc,mem_append→Jd,replicate_append_replicate→Je,append_nil→Jf,append_assoc→Jj,getElem?_append_right→Jk,mem_map→Jl,take_of_length_le→Jn,replicate_succ→Jq,map_cons→Jr,take_succ_eq_append_getElem→Js,length_map→Jt,getElem?_eq_some_iff→Jv,length_nil→Jx,getElem_mem→Jy,nil_append→K0,getElem?_map→K3,mem_iff_getElem→K4,cons_append→K5,getElem?_replicate→Kb,take_zero→Kd,getElem?_append→Ki,length_take→Kk,range'→Kl,ext_getElem?→Km,getElem?_append_left→Kn,length_drop→Kr,set_cons_zero→Kz,range_succ→L7,range_eq_range'→L8,mem_flatMap→Lg,singleton_append→Li,take_succ_cons→Lj,map_append→Lm,mem_range→Ln,replicate_succ'→Lo,eq_of_mem_replicate→Lr,replicate_zero→Lv,length_range→H4,drop_eq_getElem_cons→Hl,set_append_right→Hp,getElem?_drop→Hq,getD_cons_zero→Gj,foldl_append→Gl,drop_zero→U6,drop_of_length_le→U7,map_nil→Ub,not_mem_nil→Ut,map_congr_left→Uu,all_cons→Ux,take_length→Q7,flatten_nil→Q9,getElem?_cons_zero→Qh,suffix_cons_iff→Ja3,map_map→Ja7,range_succ_eq_map→Jaf,take_append_drop→Jao,length→Jb2,findSome?_cons→Jb8,getElem?_set→Jbh,getElem?_cons_succ→Jcc,range'_succ→Jcw,flatMap_append→Jcz
open Bool renaming and_eq_true→J2,not_true→Ji,not_false→K7
open Int renaming toNat_natCast→J6,mul_emod→Ju,emod_eq_of_lt→Jw,emod_emod→K1,add_emod→K9,emod_lt_of_pos→Kf,emod_nonneg→Kq,mul_zero→La,tmod_eq_emod_of_nonneg→Le,mul_le_mul→Lf,zero_add→Lh,mul_one→Ls,add_zero→Lt,mul_le_mul_of_nonneg_left→Lx,mul_nonneg→G7,add_mul_emod_self_left→G9,toNat_zero→Gk,mul_assoc→Gy,mul_comm→Uc,add_emod_right→Q4,zero_mul→Qr,tmod_add_mul_tdiv→Jab,tmod_lt_of_pos→Jaq,lt_tmod_of_pos→Jar,one_mul→Jbd,tmod→Jbi,sub_zero→Jcd,lt_trichotomy→Jce
open Nat renaming zero_add→Ja,lt_or_ge→Jg,le_refl→Jh,zero_le→Ka,sub_self→Ke,div_add_mod→L4,le_trans→H2,min_eq_left→Ud,add_zero→Q6,add_assoc→Qd,sub_zero→Jav,lt_trichotomy→Jaw,zero_sub→Jca,lt_irrefl→Jcy
open Option renaming map_eq_some_iff→Ko,map_some→Ha,some→Hu,getD_some→Jbb
open Option renaming some→iF,none→iG
open Bool renaming true→iH,false→iI
namespace Go.Pc
abbrev Vec:=List Int
structure Lvl where
 o:Int
 w:Vec
 cs:List Vec
abbrev Pcp:=List Lvl
def zeros(n:Nat):Vec:=J1 n 0
def iter{α:Type}:Nat→(α→α)→α→α
 |0,_,x=>x
 |n+1,f,x=>iter n f (f x)
theorem vL{α:Type}(f:α→α):∀(n:Nat)(x:α),iter (n+1) f x=f (iter n f x)
 |0,_=>rfl
 |n+1,x=>by rw[iter,vL f n (f x)];rfl
theorem zFb{α:Type}(f:α→α)(a:Nat):∀(b:Nat)(x:α),iter (a+b) f x=iter a f (iter b f x)
 |0,_=>rfl
 |b+1,x=>by show iter (a+b) f (f x)=_;rw[zFb f a b (f x)];rfl
def img{α:Type}(m:α→α→α):List α→Vec→α→α
 |c::cs,x::xs,acc=>img m cs xs (iter x.toNat (fun v=>m v c) acc)
 |_,_,acc=>acc
def V:Pcp→Vec→Prop
 | [],v=>v=[]
 |l::P,v=>match v with
  | []=>False
  |a::x=>(0≤a∧a<l.o)∧V P x
def mul:Pcp→Vec→Vec→Vec
 |l::P,a::x,b::y=>
  let r:=mul P (iter b.toNat (fun v=>img (mul P) l.cs v (zeros P.length)) x) y
  if a+b≥l.o then(a+b-l.o)::mul P l.w r else(a+b)::r
 |_,_,_=>[]
def Ok:Pcp→Prop
 | []=>True
 |l::P=>1<l.o∧V P l.w∧l.cs.length=P.length∧(∀c∈l.cs,V P c)∧Ok P
structure Mon {α:Type} (S:α→Prop) (m:α→α→α) (e:α):Prop where
 cl:∀{a b},S a→S b→S (m a b)
 ein:S e
 assoc:∀{a b c},S a→S b→S c→m (m a b) c=m a (m b c)
 onel:∀{a},S a→m e a=a
 oner:∀{a},S a→m a e=a
structure Grp {α:Type} (S:α→Prop) (m:α→α→α) (e:α):Prop extends Mon S m e where
 inv:∀{a},S a→ ∃b,S b∧m a b=e
theorem Grp.invl{α:Type}{S:α→Prop}{m:α→α→α}{e:α}(h:Grp S m e){a:α}(ha:S a):∃b,S b∧m a b=e∧m b a=e:=by
 obtain⟨b,hb,h1⟩:=h.inv ha;obtain⟨c,hc,h2⟩:=h.inv hb;refine⟨b,hb,h1,?_⟩;have:a=c:=by rw[←h.oner ha,←h2,←h.assoc ha hb hc,h1,h.onel hc]
 grind
theorem Grp.cancel_l{α:Type}{S:α→Prop}{m:α→α→α}{e:α}(h:Grp S m e){a b c:α}(ha:S a)(hb:S b)(hc:S c)(hh:m a b=m a c):b=c:=by obtain⟨d,hd,_,h2⟩:=h.invl ha;rw[←h.onel hb,←h.onel hc,←h2,h.assoc hd ha hb,h.assoc hd ha hc,hh]
section
variable {α:Type}{S:α→Prop}{m:α→α→α}{e:α}
def pw(m:α→α→α)(e:α)(x:α)(k:Nat):α:=iter k (fun v=>m v x) e
theorem tX(h:Mon S m e){x:α}(hx:S x):∀k,S (pw m e x k)
 |0=>h.ein
 |k+1=>by rw[pw,vL];exact h.cl (tX h hx k) hx
theorem vW{f:α→α}(hf:∀a,S a→S (f a)):∀(k:Nat){x:α},S x→S (iter k f x)
 |0,_,hx=>hx
 |k+1,_,hx=>vW hf k (hf _ hx)
theorem zFc(h:Mon S m e){x a:α}(hx:S x)(ha:S a):∀k,iter k (fun v=>m v x) a=m a (pw m e x k)
 |0=>(h.oner ha).symm
 |k+1=>by rw[vL,zFc h hx ha k];show _=m a (iter (k+1) (fun v=>m v x) e);rw[vL];exact h.assoc ha (tX h hx k) hx
theorem zHY(h:Mon S m e){x:α}(hx:S x)(a b:Nat):pw m e x (a+b)=m (pw m e x a) (pw m e x b):=by rw[Nat.add_comm,pw,zFb,←zFc h hx (tX h hx a) b];rfl
theorem zT6(h:Mon S m e){x:α}(hx:S x):pw m e x 1=x:=h.onel hx
theorem zT7(h:Mon S m e){x:α}(hx:S x)(k:Nat):pw m e x (k+1)=m x (pw m e x k):=by rw[Nat.add_comm,zHY h hx 1 k,zT6 h hx]
theorem jB(h:∀{a b},S a→S b→S (m a b)):∀(cs:List α)(x:Vec){a:α},(∀c∈cs,S c)→S a→S (img m cs x a)
 |c::cs,x::xs,_,hc,ha=>by simp only[img];exact jB h cs xs (by grind) (vW (by simp_all) _ ha)
 | [],_,_,_,ha=>by grind[img]
 |_::_,[],_,_,ha=>by grind[img]
theorem zFY(h:Mon S m e)(cs:List α)(x:Vec){a:α}(hc:∀c∈cs,S c)(ha:S a):S (img m cs x a):=jB h.cl cs x hc ha
theorem zFd(h:Mon S m e):∀(cs:List α)(x:Vec){a:α},(∀c∈cs,S c)→S a→img m cs x a=m a (img m cs x e)
 |c::cs,x::xs,a,hc,ha=>by
  have h1:S c:=hc c (by simp);have h2:∀c∈cs,S c:=by grind
  simp only[img];rw[zFc h h1 ha,zFd h cs xs h2 (h.cl ha (tX h h1 _)),zFc h h1 h.ein,zFd h cs xs h2 (h.cl h.ein (tX h h1 _)),h.onel (tX h h1 _),
   h.assoc ha (tX h h1 _) (zFY h cs xs h2 h.ein)]
 | [],_,a,_,ha=>by simp[img,h.oner ha]
 |_::_,[],a,_,ha=>by simp[img,h.oner ha]
theorem qX(h:Mon S m e){c:α}{cs:List α}{x:Int}{xs:Vec}(hc:S c)(gM:∀c∈cs,S c):img m (c::cs) (x::xs) e=m (pw m e c x.toNat) (img m cs xs e):=by simp only[img];rw[zFd h cs xs gM (vW (fun a ha=>h.cl ha hc) _ h.ein)];rfl
theorem qK(m:α→α→α):∀(cs:List α)(n:Nat)(a:α),img m cs (zeros n) a=a
 | [],_,_=>by simp[img]
 |_::_,0,_=>by rfl
 |c::cs,n+1,a=>by simp only[zeros,Jq,img,Gk,iter];exact qK m cs n a
theorem zHZ(h:Mon S m e){g:α}(hg:S g):∀(cs ds:List α)(x:Vec),(∀c∈cs,S c)→(∀c∈ds,S c)→cs.length=ds.length→(∀(k:Nat) c d,cs[k]? =iF c→ds[k]? =iF d→m c g=m g d)→m (img m cs x e) g=m g (img m ds x e)
 | [],[],x,_,_,_,_=>by simp[img,h.onel hg,h.oner hg]
 |c::cs,d::ds,[],_,_,_,_=>by simp[img,h.onel hg,h.oner hg]
 |c::cs,d::ds,x::xs,hc,hd,hl,hp=>by
  have gS:S c:=hc c (by simp);have hd0:S d:=hd d (by simp);have gM:∀c∈cs,S c:=by grind
  have mb:∀c∈ds,S c:=by grind
  have key:∀k,m (pw m e c k) g=m g (pw m e d k):=by
   intro k
   induction k with
   |zero=>simp[pw,iter,h.onel hg,h.oner hg]
   |succ k ih=>
    have h0:m c g=m g d:=hp 0 c d rfl rfl;rw[pw,vL,pw,vL];show m (m (pw m e c k) c) g=m g (m (pw m e d k) d);rw[h.assoc (tX h gS k) gS hg,h0,←h.assoc (tX h gS k) hg hd0,ih,h.assoc hg (tX h hd0 k) hd0]
  rw[qX h gS gM,qX h hd0 mb,h.assoc (tX h gS _) (zFY h _ _ gM h.ein) hg,zHZ h hg cs ds xs gM mb (by grind) (fun k c d h1 h2=>hp (k+1) c d (by grind) (by grind)),
   ←h.assoc (tX h gS _) hg (zFY h _ _ mb h.ein),key,h.assoc hg (tX h hd0 _) (zFY h _ _ mb h.ein)]
theorem zQi{β:Type}{T:β→Prop}{n:β→β→β}{f:β}(h:Mon S m e)(h':Mon T n f)(φ:α→β)(gO:∀a,S a→T (φ a))(h1:φ e=f)(hm:∀a b,S a→S b→φ (m a b)=n (φ a) (φ b)):∀(cs:List α)(x:Vec),(∀c∈cs,S c)→φ (img m cs x e)=img n (cs.map φ) x f
 | [],_,_=>by simp[img,h1]
 |c::cs,[],_=>by simp[img,h1]
 |c::cs,x::xs,hc=>by
  have gS:S c:=hc c (by simp);have gM:∀c∈cs,S c:=by grind
  have key:∀k,φ (pw m e c k)=pw n f (φ c) k:=by
   intro k
   induction k with
   |zero=>grind[pw,iter]
   |succ k ih=>
    grind[pw,vL,tX]
  rw[qX h gS gM,Jr,qX h' (gO c gS) (by simp_all),hm _ _ (tX h gS _) (zFY h _ _ gM h.ein),key,zQi h h' φ gO h1 hm cs xs gM]
end
theorem wS:∀{P:Pcp},Ok P→V P (zeros P.length)
 | [],_=>rfl
 |l::P,h=>by simp only[Ok]at h;simp only[J8,zeros,Jq,V];exact⟨by omega,wS h.2.2.2.2⟩
theorem xJ:∀{P:Pcp},Ok P→ ∀{x y:Vec},V P x→V P y→V P (mul P x y)
 | [],_,_,_,hx,hy=>by rfl
 |l::P,h,[],_,hx,_=>by grind[V]
 |l::P,h,_::_,[],_,hy=>by grind[V]
 |l::P,h,a::x,b::y,hx,hy=>by
  simp only[Ok]at h;simp only[V]at hx hy;have h1:∀v,V P v→V P (img (mul P) l.cs v (zeros P.length)):=fun v hv=>jB (xJ h.2.2.2.2) l.cs v h.2.2.2.1 (wS h.2.2.2.2)
  have h2:=xJ h.2.2.2.2 (vW h1 b.toNat hx.2) hy.2;simp only[mul];split
  ·exact⟨by omega,xJ h.2.2.2.2 h.2.1 h2⟩
  ·exact⟨by omega,h2⟩
def Rel{α:Type}(m:α→α→α)(e:α):Pcp→List α→Prop
 | [],s=>s=[]
 |l::P,s=>match s with
  | []=>False
  |g::s=>pw m e g l.o.toNat=img m s l.w e∧(∀(k:Nat) c d,s[k]? =iF c→l.cs[k]? =iF d→m c g=m g (img m s d e))∧Rel m e P s
section
variable {α:Type}{S:α→Prop}{m:α→α→α}{e:α}
theorem yCj(h:Mon S m e):∀(P:Pcp)(s:List α),Ok P→(∀g∈s,S g)→Rel m e P s→ ∀x y,V P x→V P y→img m s (mul P x y) e=m (img m s x e) (img m s y e)
 | [],s,_,_,hr,x,y,hx,hy=>by simp only[Rel]at hr;subst hr;simp[img,h.onel h.ein]
 |l::P,[],_,_,hr,_,_,_,_=>by grind[Rel]
 |l::P,g::s,_,_,_,[],_,hx,_=>by grind[V]
 |l::P,g::s,_,_,_,_::_,[],_,hy=>by grind[V]
 |l::P,g::s,hk,hs,hr,a::x,b::y,hx,hy=>by
  simp only[Ok]at hk;simp only[Rel]at hr;simp only[V]at hx hy;obtain⟨ho,hw,gC,gM,db⟩:=hk;obtain⟨eQ,fh,cH⟩:=hr;have hg:S g:=hs g (by simp);have mm:∀c∈s,S c:=by grind
  have gj:s.length=P.length:=by
   clear eQ fh hx hy hw gC gM hs mm
   induction P generalizing s with
   |nil=>grind[Rel]
   |cons l P ih=>
    cases s with
    |nil=>grind[Rel]
    |cons c s=>grind[Rel,Ok]
  have ih:=yCj h P s db mm cH;have hφ:∀v,S (img m s v e):=fun v=>zFY h s v mm h.ein
  have hmP:∀{a b},V P a→V P b→V P (mul P a b):=xJ db;have bZ:∀v,V P v→V P (img (mul P) l.cs v (zeros P.length)):=fun v hv=>jB hmP l.cs v gM (wS db)
  have hσ:∀v,V P v→m (img m s v e) g=m g (img m s (img (mul P) l.cs v (zeros P.length)) e):=by
   intro v hv;have key:∀(cs:List Vec)(v:Vec)(acc:Vec),(∀c∈cs,V P c)→V P acc→img m s (img (mul P) cs v acc) e=img m (cs.map fun c=>img m s c e) v (img m s acc e):=by
    intro cs
    induction cs with
    |nil=>grind[img]
    |cons c cs ihc=>
     intro v acc hc hacc;cases v with
     |nil=>simp[img]
     |cons z v=>
      have gS:V P c:=hc c (by simp);have it:∀k acc,V P acc→img m s (iter k (fun v=>mul P v c) acc) e=iter k (fun v=>m v (img m s c e)) (img m s acc e):=by
       intro k
       induction k with
       |zero=>intro acc _;rfl
       |succ k ihk=>
        simp_all[iter]
      simp only[img,Jr];rw[ihc v _ (by simp_all) (vW (by grind) _ hacc),it _ _ hacc]
   rw[key l.cs v (zeros P.length) gM (wS db),qK];refine zHZ h hg s _ v mm (by simp_all) (by grind) ?_;intro k c d hc hd;simp only[K3,Ko]at hd;obtain⟨d',bt,rfl⟩:=hd
   grind
  have hσk:∀k v,V P v→m (img m s v e) (pw m e g k)=m (pw m e g k) (img m s (iter k (fun v=>img (mul P) l.cs v (zeros P.length)) v) e):=by
   intro k
   induction k with
   |zero=>intro v _;simp[pw,iter,h.onel (hφ v),h.oner (hφ v)]
   |succ k ihk=>
    intro v hv;rw[zT7 h hg,←h.assoc (hφ v) hg (tX h hg k),hσ v hv,h.assoc hg (hφ _) (tX h hg k),ihk _ (bZ v hv),←h.assoc hg (tX h hg k) (hφ _)];rfl
  have fS:=tX h hg a.toNat;have bQ:=tX h hg b.toNat;have eh:V P (iter b.toNat (fun v=>img (mul P) l.cs v (zeros P.length)) x):=vW bZ _ hx.2;have pE:m (img m (g::s) (a::x) e) (img m (g::s) (b::y) e)=m (pw m e g (a.toNat+b.toNat)) (img m s (mul P (iter b.toNat (fun v=>img (mul P) l.cs v (zeros P.length)) x) y) e):=by rw[qX h hg mm,qX h hg mm,h.assoc fS (hφ x) (h.cl bQ (hφ y)),←h.assoc (hφ x) bQ (hφ y),hσk _ _ hx.2,h.assoc bQ (hφ _) (hφ y),←ih _ _ eh hy.2,←h.assoc fS bQ (hφ _),zHY h hg]
  rw[pE];simp only[mul];split
  ·rename_i hge
   rw[qX h hg mm,ih _ _ hw (hmP eh hy.2),←eQ,←h.assoc (tX h hg _) (tX h hg _) (hφ _),←zHY h hg]
   congr 2
   omega
  ·rw[qX h hg mm]
   congr 2
   omega
end
def xP(n j:Nat):Vec:=(zeros n).set j 1
def sig(P:Pcp)(l:Lvl)(v:Vec):Vec:=img (mul P) l.cs v (zeros P.length)
def wN:Pcp→Prop
 | []=>True
 |l::P=>wN P∧Rel (mul P) (zeros P.length) P l.cs∧sig P l l.w=l.w∧ ∀j,j<P.length→mul P l.w (iter l.o.toNat (sig P l) (xP P.length j))=mul P (xP P.length j) l.w
theorem zD0(n:Nat):xP (n+1) 0=1::zeros n:=rfl
theorem zFZ(n j:Nat):xP (n+1) (j+1)=0::xP n j:=rfl
def wO(n:Nat):List Vec:=(Jb n).map (xP n)
theorem zOp(n:Nat):wO (n+1)=(1::zeros n)::(wO n).map (0::·):=by
 simp only[wO,Jaf,Jr,Ja7,zD0]
 congr 1
theorem zCT:∀{P:Pcp},Ok P→ ∀{j:Nat},j<P.length→V P (xP P.length j)
 | [],_,_,hj=>by simp at hj
 |l::P,h,0,_=>by grind[Ok,zD0,V,wS]
 |l::P,h,j+1,hj=>by simp only[Ok]at h;rw[J8,zFZ];simp only[V];exact⟨by omega,zCT h.2.2.2.2 (by grind)⟩
theorem zCU{l:Lvl}{P:Pcp}(h:Ok (l::P)){v:Vec}(_hv:V P v):V P (sig P l v):=by simp only[Ok]at h;exact jB (xJ h.2.2.2.2) l.cs v h.2.2.2.1 (wS h.2.2.2.2)
theorem xD(l:Lvl)(P:Pcp)(a b:Int)(x y:Vec):mul (l::P) (a::x) (b::y)=if a+b≥l.o then(a+b-l.o)::mul P l.w (mul P (iter b.toNat (sig P l) x) y)else(a+b)::mul P (iter b.toNat (sig P l) x) y:=rfl
theorem zRt{n k:Nat}{c:Vec}(h:(wO n)[k]? =iF c):k<n∧c=xP n k:=by grind[wO]
theorem normal:∀(P:Pcp),Ok P→(∀Q,Q<:+P→Mon (V Q) (mul Q) (zeros Q.length))→ ∀x,V P x→img (mul P) (wO P.length) x (zeros P.length)=x
 | [],_,_,x,hx=>by grind[V,img,zeros]
 |l::P,_,_,[],hx=>by grind[V]
 |l::P,h,hM,a::x,hx=>by
  have hMl:=hM (l::P) (List.suffix_refl _);have hMP:=hM P (by simp);have h':=h;simp only[Ok]at h;simp only[V]at hx;rw[J8,zOp];have hz:V P (zeros P.length):=wS h.2.2.2.2;have hu0:V (l::P) (1::zeros P.length):=by grind[V]
  have cN:∀c∈(wO P.length).map (0::·),V (l::P) c:=by
   intro c hc;simp only[wO,Ja7,Jl,Ln]at hc;obtain⟨j,hj,rfl⟩:=hc;simp only[Function.comp,V]
   grind[zCT]
  have mh:V (l::P) (zeros (P.length+1)):=by grind[wS]
  rw[show zeros (P.length+1)=zeros (l::P).length from rfl];rw[qX hMl hu0 cN];have sz:∀k:Nat,iter k (sig P l) (zeros P.length)=zeros P.length:=by
   intro k
   induction k with
   |zero=>rfl
   |succ k ih=>grind[iter,sig,qK]
  have h1:∀k:Nat,(k:Int)<l.o→pw (mul (l::P)) (zeros (l::P).length) (1::zeros P.length) k=(k:Int)::zeros P.length:=by
   intro k
   induction k with
   |zero=>intro _;rfl
   |succ k ih=>
    intro hk;rw[pw,vL];show mul (l::P) (pw (mul (l::P)) (zeros (l::P).length) (1::zeros P.length) k) (1::zeros P.length)=_;rw[ih (by omega),xD,if_neg (by omega)];rw[sz,hMP.onel hz];rfl
  have h2:∀(cs:List Vec)(y acc:Vec),(∀c∈cs,V P c)→V P acc→img (mul (l::P)) (cs.map (0::·)) y (0::acc)=0::img (mul P) cs y acc:=by
   intro cs
   induction cs with
   |nil=>grind[img]
   |cons c cs ih=>
    intro y acc hc hacc;cases y with
    |nil=>simp[img]
    |cons z y=>
     have gS:V P c:=hc c (by simp);have it:∀(k:Nat)(acc:Vec),V P acc→iter k (fun v=>mul (l::P) v (0::c)) (0::acc)=0::iter k (fun v=>mul P v c) acc:=by
      intro k
      induction k with
      |zero=>intro _ _;rfl
      |succ k ihk=>
       intro acc hacc;simp only[iter];rw[xD,if_neg (by omega)];exact ihk _ (xJ h.2.2.2.2 hacc gS)
     simp only[Jr,img];rw[it _ _ hacc,ih _ _ (by grind) (vW (by grind[xJ]) _ hacc)]
  have pY:∀c∈wO P.length,V P c:=by
   intro c hc;simp only[wO,Jl,Ln]at hc;obtain⟨j,hj,rfl⟩:=hc
   grind[zCT]
  rw[h1 a.toNat (by omega),show zeros (l::P).length=0::zeros P.length from rfl,h2 _ _ _ pY hz,normal P h.2.2.2.2 (by grind) x hx.2,xD,if_neg (by omega)];simp only[Gk,iter];rw[hMP.onel hx.2]
  grind
theorem zCV:∀(P:Pcp),Ok P→wN P→Grp (V P) (mul P) (zeros P.length)
 | [],_,_=>by
  refine⟨⟨fun _ _=>rfl,rfl,fun _ _ _=>rfl,?_,?_⟩,fun ha=>⟨[],rfl,rfl⟩⟩<;>
  ·intro a ha
   simp only[V]at ha;subst ha;rfl
 |l::P,h,hc=>by
  have h':=h;simp only[Ok]at h;simp only[wN]at hc;obtain⟨ho,hw,gC,gM,hP⟩:=h;obtain⟨iu,mQ,aF,aC⟩:=hc;have N:=zCV P hP iu;have hM:∀Q,Q<:+P→Mon (V Q) (mul Q) (zeros Q.length):=by
   intro Q hQ;obtain⟨t,ht⟩:=hQ;have:Ok Q∧wN Q:=by
    clear N hw gC gM mQ aF aC h'
    induction t generalizing P with
    |nil=>grind
    |cons a t ih=>
     simp at ht;subst ht;simp only[Ok]at hP;simp only[wN]at iu
     grind
   have gH:SizeOf.sizeOf Q≤SizeOf.sizeOf P:=by
    rw[←ht]
    clear N hw gC gM mQ aF aC h' hP iu ht this
    induction t with
    |nil=>simp
    |cons a t ih=>grind
   exact(zCV Q this.1 this.2).toMon
  have hz:V P (zeros P.length):=wS hP;have σin:∀v,V P v→V P (sig P l v):=by grind[zCU]
  have σhom:∀x y,V P x→V P y→sig P l (mul P x y)=mul P (sig P l x) (sig P l y):=fun x y hx hy=>yCj N.toMon P l.cs hP gM mQ x y hx hy
  have σz:sig P l (zeros P.length)=zeros P.length:=qK _ _ _ _;have itin:∀(k:Nat) v,V P v→V P (iter k (sig P l) v):=fun k v hv=>vW σin k hv
  have ithom:∀(k:Nat) x y,V P x→V P y→iter k (sig P l) (mul P x y)=mul P (iter k (sig P l) x) (iter k (sig P l) y):=by
   intro k
   induction k with
   |zero=>intro _ _ _ _;rfl
   |succ k ih=>simp_all[iter]
  have itz:∀k:Nat,iter k (sig P l) (zeros P.length)=zeros P.length:=by
   intro k
   induction k with
   |zero=>rfl
   |succ k ih=>grind[iter]
  have itw:∀k:Nat,iter k (sig P l) l.w=l.w:=by
   intro k
   induction k with
   |zero=>rfl
   |succ k ih=>grind[iter]
  have pY:∀c∈wO P.length,V P c:=by
   intro c hc;simp only[wO,Jl,Ln]at hc;obtain⟨j,hj,rfl⟩:=hc
   grind[zCT]
  have inner:∀x,V P x→mul P x l.w=mul P l.w (iter l.o.toNat (sig P l) x):=by
   intro x hx;have hnf:=normal P hP hM x hx;have av:=zQi N.toMon N.toMon (iter l.o.toNat (sig P l)) (by grind) (itz _) (by grind) (wO P.length) x pY;rw[←hnf,av];refine zHZ N.toMon hw _ _ x pY (by simp_all) (by simp) ?_;intro k c d hc hd;rw[K3,Ko]at hd;obtain⟨c',mf,rfl⟩:=hd;rw[hc]at mf;simp at mf;subst mf;obtain⟨hk,rfl⟩:=zRt hc
   grind
  have e:∀(x y z:Vec)(b c:Int),V P x→V P y→V P z→0≤b→0≤c→
    mul P (iter c.toNat (sig P l) (mul P (iter b.toNat (sig P l) x) y)) z=mul P (iter (b+c).toNat (sig P l) x) (mul P (iter c.toNat (sig P l) y) z)∧
    mul P (iter c.toNat (sig P l) (mul P l.w (mul P (iter b.toNat (sig P l) x) y))) z=mul P l.w (mul P (iter (b+c).toNat (sig P l) x) (mul P (iter c.toNat (sig P l) y) z))∧
    (l.o≤b+c→mul P (iter (b+c-l.o).toNat (sig P l) x) (mul P l.w (mul P (iter c.toNat (sig P l) y) z))=mul P l.w (mul P (iter (b+c).toNat (sig P l) x) (mul P (iter c.toNat (sig P l) y) z))):=by
   intro x y z b c hx hy hz hb ir;have iv:=itin b.toNat x hx;have hcy:=itin c.toNat y hy;have hbc:iter c.toNat (sig P l) (iter b.toNat (sig P l) x)=iter (b+c).toNat (sig P l) x:=by rw[←zFb];congr 1;omega
   have iy:=itin (b+c).toNat x hx;have e1:mul P (iter c.toNat (sig P l) (mul P (iter b.toNat (sig P l) x) y)) z=mul P (iter (b+c).toNat (sig P l) x) (mul P (iter c.toNat (sig P l) y) z):=by rw[ithom _ _ _ iv hy,hbc,N.assoc iy hcy hz]
   refine⟨e1,?_,?_⟩
   ·rw[ithom _ _ _ hw (N.cl iv hy),itw,N.assoc hw (itin _ _ (N.cl iv hy)) hz,e1]
   ·intro hge
    have aI:=N.cl hcy hz;rw[←N.assoc (itin _ x hx) hw aI,inner _ (itin _ x hx),←zFb,N.assoc hw (itin _ x hx) aI]
    congr 3
    omega
  refine⟨⟨by grind[xJ],wS h',?_,?_,?_⟩,?_⟩
  ·intro A B C hA hB hC
   match A,B,C,hA,hB,hC with
   |a::x,b::y,c::z,hA,hB,hC=>
    simp only[V]at hA hB hC;obtain⟨e1,e2,e3⟩:=e x y z b c hA.2 hB.2 hC.2 hB.1.1 hC.1.1
    by_cases c1:a+b≥l.o<;>by_cases c2:b+c≥l.o
    ·rw[xD,if_pos c1,xD l P b c,if_pos c2,xD,xD,e2,e3 c2]
     grind
    ·rw[xD,if_pos c1,xD l P b c,if_neg c2,xD,xD,e2,if_neg (by omega),if_pos (by omega)]
     grind
    ·rw[xD,if_neg c1,xD l P b c,if_pos c2,xD,xD,e1,e3 c2,if_pos (by omega),if_neg (by omega)]
     grind
    ·rw[xD,if_neg c1,xD l P b c,if_neg c2,xD,xD,e1]
     grind
  ·intro A hA
   match A,hA with
   |a::x,hA=>
    simp only[V]at hA;show mul (l::P) (0::zeros P.length) (a::x)=_;rw[xD,if_neg (by omega),itz,N.onel hA.2,Lh]
  ·intro A hA
   match A,hA with
   |a::x,hA=>
    simp only[V]at hA;show mul (l::P) (a::x) (0::zeros P.length)=_;rw[xD,if_neg (by omega)];simp only[Gk,iter];rw[N.oner hA.2,Lt]
  ·intro A hA
   match A,hA with
   |a::x,hA=>
    simp only[V]at hA
    by_cases ha:a=0
    ·obtain⟨y,hy,h1⟩:=N.inv hA.2
     refine⟨0::y,by simp only[V];grind,?_⟩;rw[xD,if_neg (by omega)];simp only[Gk,iter];rw[h1,ha];rfl
    ·have t8:=itin (l.o-a).toNat x hA.2
     obtain⟨y,hy,h1⟩:=N.inv (N.cl hw t8);refine⟨(l.o-a)::y,by simp only[V];grind,?_⟩;rw[xD,if_pos (by omega),←N.assoc hw t8 hy,h1,show a+(l.o-a)-l.o=0 by omega];rfl
termination_by P=>P
end Go.Pc

namespace Go.Pl
open Go Go.Ab
variable {α σ ρ:Type}{n i m k j D:Nat}{body:Int→Option (Int⊕(Unit⊕Bool))}{r s v os:List Int}{f:Nat→Int}{a q:Int}{o:Option Bool}{P:Prop}{F:Nat→List Int}{xs:List α}
theorem bs{β:Type}(x:α)(f:α→Option β):(iF x).bind f=f x:=by simp only[Option.bind_some]
theorem zM(x y:α):cond iH x y=x:=by simp only[cond_true]
theorem zQ(x y:α):cond iI x y=y:=by simp only[cond_false]
theorem zE{n:Int}(h1:-9223372036854775808≤n)(h2:n≤9223372036854775807):rng n=iF n:=by unfold rng;rw[if_pos];simp only[inR,J2,decide_eq_true_eq];omega
theorem vP(xs:List α)(i:Nat):ixO xs (i:Int)=xs[i]?:=by unfold ixO;rw[if_pos (by omega)];simp
theorem zAa{α:Type}{xs:List α}(h:i<xs.length):ixO xs (i:Int)=iF xs[i]:=by rw[vP];exact J5 h
theorem xF(h:n≤68719476736):xI (n:Int)=iF n:=by unfold xI;rw[if_pos (by omega)];simp
theorem yI{α:Type}{xs ys:List α}(h:xs.length+ys.length≤68719476736):xS xs ys=iF (xs++ys):=by unfold xS;rw[if_pos h]
theorem zX{ρ:Type}{body:σ→Option (σ⊕ρ)}{r:ρ}(S:Nat→σ)(n:Nat)(h:∀i,i<n→body (S i)=iF (.inl (S (i+1))))(he:body (S n)=iF (.inr r)):zI body (S 0)=iF r:=by
 have key:∀k i,i+k=n→zI body (S i)=iF r:=by
  intro k
  induction k with
  |zero=>intro i hi;rw[xL,show i=n from by omega,he]
  |succ k ih=>intro i hi;rw[xL,h i (by omega)];exact ih (i+1) (by omega)
 exact key n 0 (by omega)
theorem uS{ρ:Type}{body:σ→Option (σ⊕ρ)}{Q:ρ→Prop}(I:Nat→σ→Prop)(n:Nat)(h:∀i s,i<n→I i s→(∃s',body s=iF (.inl s')∧I (i+1) s')∨ ∃r,body s=iF (.inr r)∧Q r)
  (he:∀s,I n s→ ∃r,body s=iF (.inr r)∧Q r){s:σ}(h0:I 0 s):∃r,zI body s=iF r∧Q r:=by
 have key:∀k i s,i+k=n→I i s→ ∃r,zI body s=iF r∧Q r:=by
  intro k
  induction k with
  |zero=>
   intro i s hi hs;obtain rfl:i=n:=by omega
   obtain⟨r,h1,h2⟩:=he s hs;exact⟨r,by rw[xL,h1],h2⟩
  |succ k ih=>
   intro i s hi hs;rcases h i s (by omega) hs with⟨s',h1,h2⟩|⟨r,h1,h2⟩
   ·rw[xL,h1];exact ih (i+1) s' (by omega) h2
   ·exact⟨r,by rw[xL,h1],h2⟩
 exact key n 0 s (by omega) h0
def zMr{ρ:Type}:Option ρ→Unit⊕ρ
 |none=>.inl ()
 |some r=>.inr r
theorem cs(i:Nat):(i:Int)+1=((i+1:Nat):Int):=by omega
theorem zJN{body:Int→Option (Int⊕(Unit⊕ρ))}(n:Nat)(t:Nat→Option ρ)(i0:Nat)(hn:i0≤n)
  (h:∀i,i0≤i→i<n→(∀j,i0≤j→j<i→t j=iG)→body (i:Int)=iF (match t i with|none=>.inl ((i+1:Nat):Int)|some r=>.inr (.inr r)))
  (he:(∀j,i0≤j→j<n→t j=iG)→body (n:Int)=iF (.inr (.inl ()))):
  zI body (i0:Int)=iF (zMr ((Kl i0 (n-i0)).findSome? t)):=by
 have key:∀k i,i0≤i→i+k=n→(∀j,i0≤j→j<i→t j=iG)→zI body (i:Int)=iF (zMr ((Kl i k).findSome? t)):=by
  intro k
  induction k with
  |zero=>
   intro i hi hk hp;obtain rfl:i=n:=by omega
   rw[xL,he hp];rfl
  |succ k ih=>
   intro i hi hk hp;rw[xL,h i hi (by omega) hp,Jcw,Jb8];cases ht:t i with
   |some r=>rfl
   |none=>
    simp only
    exact ih (i+1) (by omega) (by omega) fun j h1 h2=>by
     rcases Jg j i with h3|h3
     ·exact hp j h1 h3
     ·rw[show j=i from by omega];exact ht
 exact key (n-i0) i0 (Jh _) (by omega) fun j h1 h2=>by omega
theorem zT8{b:Nat→Bool}:zMr ((Kl 0 n).findSome? (fun i=>if b i then iG else iF iI))=if(Jb n).all b then .inl ()else .inr iI:=by
 have key:∀l:List Nat,zMr (l.findSome? (fun i=>if b i then iG else iF iI))=if l.all b then .inl ()else .inr iI:=by
  intro l
  induction l with
  |nil=>rfl
  |cons x l ih=>
   rw[Jb8,Ux];cases hb:b x
   ·rfl
   ·simpa using ih
 rw[key,L8]
theorem zJO(n:Nat)(b:Nat→Bool)
  (h:∀i,i<n→(∀j,j<i→b j=iH)→body (i:Int)=iF (if b i then .inl ((i+1:Nat):Int)else .inr (.inr iI)))
  (he:(∀j,j<n→b j=iH)→body (n:Int)=iF (.inr (.inl ()))):
  zI body 0=iF (if(Jb n).all b then .inl ()else .inr iI):=by
 have:=zJN (body:=body) n (fun i=>if b i then iG else iF iI) 0 (Ka _) (fun i _ hi hp=>by
  rw[h i hi fun j hj=>by
   have:=hp j (Ka _) hj;split at this
   ·assumption
   ·cases this]
  cases b i<;>rfl) (fun hp=>he fun j hj=>by
   have:=hp j (Ka _) hj;split at this
   ·assumption
   ·cases this)
 rw[Jav]at this;exact this.trans (congrArg iF (zT8 (n:=n) (b:=b)))
theorem zT9{α:Type}{xs:List α}{z:α}(h:i<xs.length):(xs.take i++J1 (xs.length-i) z).set i xs[i]=xs.take (i+1)++J1 (xs.length-(i+1)) z:=by
 have h1:(xs.take i).length=i:=by rw[Kk];omega
 rw[Hp _ _ (by omega),h1,Ke,show xs.length-i=(xs.length-(i+1))+1 from by omega,Jq,Kz,Js h];simp only[Jj,Li]
theorem zKL{α:Type}{f:α→Option α}{body:List α×Int→Option ((List α×Int)⊕List α)}{x0:List α}{z:α}
  (hb:∀s,body s=cond (decide (s.2<(x0.length:Int))) ((ixO x0 s.2).bind fun v2=>(f v2).bind fun r3=>(ixO s.1 s.2).bind fun _=>(rng (s.2+1)).bind fun v5=>iF (.inl (s.1.set s.2.toNat r3,v5))) (iF (.inr s.1)))
  (hl:x0.length≤68719476736)(hf:∀x∈x0,f x=iF x):zI body (J1 x0.length z,0)=iF x0:=by
 have:=zX (body:=body) (r:=x0) (fun i=>(x0.take i++J1 (x0.length-i) z,(i:Int))) x0.length (fun i hi=>by
  rw[hb];simp only[iL (show((i:Int))<(x0.length:Int)from by omega),zM];rw[zAa hi,vP];simp only[bs,hf _ (Jy hi)];rw[J5 (by simp;omega),bs,zE (by omega) (by omega),bs];simp only[J6,zT9 hi,cs]) (by
  rw[hb];simp only[iJ (show¬((x0.length:Int))<(x0.length:Int)from by omega),zQ,Q7,Ke,Lv,Jf])
 simpa using this
theorem zXa[BEq α]{t:α→α→Option Bool}{x y:List α}
  (hb:∀i,body i=cond (decide (i<(x.length:Int))) ((ixO x i).bind fun v1=>(ixO y i).bind fun v2=>(t v1 v2).bind fun r3=>cond (!r3) (iF (.inr (.inr iI))) ((rng (i+1)).bind fun v4=>iF (.inl v4))) (iF (.inr (.inl ()))))
  (hl:x.length≤68719476736)(t7:x.length=y.length)(ht:∀u∈x,∀v∈y,t u v=iF (u==v)):zI body 0=iF (if x==y then .inl ()else .inr iI):=by
 have h:=zJO (body:=body) x.length (fun i=>match x[i]?,y[i]? with|some u,iF v=>u==v|_,_=>iH) (fun i hi _=>by
  have fu:i<y.length:=by omega
  rw[hb];simp only[iL (show((i:Int))<(x.length:Int)from by omega),zM];rw[zAa hi,zAa fu];simp only[bs,ht _ (Jy hi) _ (Jy fu),J5 hi,J5 fu];cases x[i]==y[i]
  ·rfl
  ·simp only[Ji,zQ,if_true]
   rw[zE (by omega) (by omega),cs];rfl) (fun _=>by
  rw[hb];simp only[iJ (show¬((x.length:Int))<(x.length:Int)from by omega),zQ])
 rw[h]
 congr 2
 have key:∀(x y:List α),x.length=y.length→((Jb x.length).all (fun i=>match x[i]?,y[i]? with|some u,iF v=>u==v|_,_=>iH))=(x==y):=by
  intro x
  induction x with
  |nil=>intro y hy;cases y with|nil=>rfl|cons _ _=>simp at hy
  |cons u x ih=>
   intro y hy;cases y with
   |nil=>simp at hy
   |cons v y=>
    rw[J8,Jaf,Ux,List.all_map];simp only[Qh,Function.comp_def,Jcc];rw[ih y (by simpa using hy)];rfl
 rw[key x y t7]
theorem zJP[BEq α]{t:α→α→Option Bool}{f:Option Bool}{x y:List α}
  (hf:f=cond ((x.length:Int) != (y.length:Int)) (iF iI) ((zI body 0).bind fun r=>match r with|.inl _=>iF iH|.inr r=>iF r))
  (hb:∀i,body i=cond (decide (i<(x.length:Int))) ((ixO x i).bind fun v1=>(ixO y i).bind fun v2=>(t v1 v2).bind fun r3=>cond (!r3) (iF (.inr (.inr iI))) ((rng (i+1)).bind fun v4=>iF (.inl v4))) (iF (.inr (.inl ()))))
  (hl:x.length≤68719476736)(ht:∀u∈x,∀v∈y,t u v=iF (u==v)):f=iF (x==y):=by
 rw[hf]
 by_cases t7:x.length=y.length
 ·rw[zXa hb hl t7 ht]
  have:((x.length:Int) != (y.length:Int))=iI:=by simp[t7]
  rw[this];cases x==y<;>rfl
 ·have:((x.length:Int) != (y.length:Int))=iH:=by simp;omega
  rw[this];have h2:(x==y)=iI:=by
   have key:∀(x y:List α),x.length≠y.length→(x==y)=iI:=by
    intro x
    induction x with
    |nil=>intro y hy;cases y with|nil=>simp at hy|cons _ _=>rfl
    |cons u x ih=>
     intro y hy;cases y with
     |nil=>rfl
     |cons v y=>
      show(u==v&&x==y)=iI;rw[ih y (by simpa using hy),Bool.and_false]
   exact key x y t7
  rw[h2];rfl
def sm{α:Type}(c:α→Nat):List α→Nat
 | []=>0
 |x::xs=>c x+sm c xs
theorem zD1{α:Type}(c:α→Nat):∀xs ys:List α,sm c (xs++ys)=sm c xs+sm c ys
 | [],ys=>by simp[sm]
 |x::xs,ys=>by simp only[K5,sm,zD1 c xs ys];omega
theorem zGY(c:α→Nat)(h:i<xs.length):sm c (xs.take (i+1))=sm c (xs.take i)+c xs[i]:=by grind[Js,zD1,sm]
theorem zCd(c:α→Nat)(xs:List α)(i:Nat):sm c (xs.take i)≤sm c xs:=by grind[zD1,Jao]
theorem zTA(c:α→Nat){x:α}(h:x∈xs):c x≤sm c xs:=by
 obtain⟨i,hi,rfl⟩:=K4.1 h;have:=zGY c hi
 grind[zCd]
def szR(c:Nat)(b:Int):Int:=if(c:Int)≤b then b-c else -1
theorem zYD{α:Type}{c:α→Nat}{t:α→Int→Option Int}{f:Option Int}{body:Int×Int→Option ((Int×Int)⊕(Int⊕Int))}{xs:List α}{b:Int}
  (hf:f=(rng (b-(xs.length:Int))).bind fun v1=>cond (decide (v1<0)) (iF (-1)) ((zI body (v1,0)).bind fun r=>match r with|.inl r=>iF r|.inr r=>iF r))
  (hb:∀s,body s=cond (decide (s.2<(xs.length:Int))) ((ixO xs s.2).bind fun v2=>(t v2 s.1).bind fun r3=>cond (decide (r3<0)) (iF (.inr (.inr (-1)))) ((rng (s.2+1)).bind fun v4=>iF (.inl (r3,v4)))) (iF (.inr (.inl s.1))))
  (hl:xs.length≤9223372036854775807)(b0:0≤b)(b1:b≤1048576)(ht:∀x∈xs,∀b',0≤b'→b'≤1048576→t x b'=iF (szR (c x) b')):f=iF (szR (xs.length+sm c xs) b):=by
 rw[hf,zE (by omega) (by omega),bs]
 by_cases h0:b-(xs.length:Int)<0
 ·rw[iL h0,zM,szR,if_neg (by omega)]
 ·rw[iJ h0,zQ]
  obtain⟨r,h1,h2⟩:=uS (body:=body) (Q:=fun r=>(match r with|.inl r=>iF r|.inr r=>iF r)=iF (szR (xs.length+sm c xs) b)) (fun i s=>s.2=(i:Int)∧0≤s.1∧s.1=b-xs.length-sm c (xs.take i)) xs.length (fun i s hi ⟨e1,e2,e3⟩=>by
   rw[hb,e1,iL (by omega),zM,zAa hi,bs,ht _ (Jy hi) _ e2 (by omega),bs];have h3:=zGY c hi;have h4:=zCd c xs (i+1);unfold szR
   by_cases h5:(c xs[i]:Int)≤s.1
   ·rw[if_pos h5,iJ (by omega),zQ,zE (by omega) (by omega),bs,cs]
    grind
   grind) (fun s ⟨e1,e2,e3⟩=>by
   rw[hb,e1,iJ (by omega),zQ];rw[Q7]at e3;refine⟨_,rfl,?_⟩;simp only
   rw[szR,if_pos (by omega),e3]
   grind) (s:=(b-(xs.length:Int),0)) ⟨rfl,by omega,by simp[sm]⟩
  grind
def mkL{α:Type}(m:Int→α→α)(c:α→Nat):Int→List α→List α
 |_,[]=>[]
 |k,x::xs=>m k x::mkL m c (k+c x) xs
theorem zEv{α:Type}(m:Int→α→α)(c:α→Nat):∀(xs ys:List α)(k:Int),mkL m c k (xs++ys)=mkL m c k xs++mkL m c (k+sm c xs) ys
 | [],ys,k=>by simp[mkL,sm]
 |x::xs,ys,k=>by
  simp only[K5,mkL,sm,zEv m c xs ys]
  grind
theorem sA{α:Type}(m:Int→α→α)(c:α→Nat):∀(xs:List α)(k:Int),(mkL m c k xs).length=xs.length
 | [],_=>rfl
 |x::xs,k=>by simp[mkL,sA m c xs]
theorem zQj(m:Int→α→α)(c:α→Nat)(h:i<xs.length)(k:Int):(mkL m c k xs)[i]'(by grind[sA])=m (k+sm c (xs.take i)) xs[i]:=by
 have h1:xs=xs.take i++xs[i]::xs.drop (i+1):=by simp
 have h2:=zEv m c (xs.take i) (xs[i]::xs.drop (i+1)) k;rw[←h1]at h2;rw[List.getElem_of_eq h2]
 grind[sA,mkL]
theorem zGa{α:Type}{m:Int→α→α}{c:α→Nat}{t:α→Int→Option (Int×α)}{body:List α×Int×Int→Option ((List α×Int×Int)⊕(List α×Int))}{xs:List α}{k:Int}
  (hb:∀s,body s=cond (decide (s.2.2<(s.1.length:Int))) ((ixO s.1 s.2.2).bind fun v1=>(t v1 s.2.1).bind fun r2=>(rng (s.2.2+1)).bind fun v3=>iF (.inl (s.1.set s.2.2.toNat r2.2,r2.1,v3))) (iF (.inr (s.1,s.2.1))))
  (hl:xs.length≤1048576)(k0:0≤k)(k1:k+sm c xs≤9223372036854775807)(ht:∀x∈xs,∀k':Int,0≤k'→k'+c x≤9223372036854775807→t x k'=iF (k'+c x,m k' x)):zI body (xs,k,0)=iF (mkL m c k xs,k+sm c xs):=by
 have:=zX (body:=body) (r:=(mkL m c k xs,k+sm c xs)) (fun i=>(mkL m c k (xs.take i)++xs.drop i,k+sm c (xs.take i),(i:Int))) xs.length (fun i hi=>by
  have h1:=zGY c hi;have h2:=zCd c xs (i+1);have gj:(mkL m c k (xs.take i)).length=i:=by grind[sA]
  have hg:(mkL m c k (xs.take i)++xs.drop i)[i]? =iF xs[i]:=by grind
  rw[hb];simp only
  rw[iL (by grind),zM,vP,hg,bs,ht _ (Jy hi) _ (by omega) (by omega),bs,zE (by omega) (by omega),bs,cs];simp only[J6];rw[Hp _ _ (by omega),gj,Ke,Hl hi,Kz,Js hi,zEv,zD1,Jj];simp only[mkL,sm,Li,Q6]
  grind) (by
  rw[hb];simp only
  rw[iJ (by grind[sA]),zQ];simp)
 grind[mkL,sm]
theorem zRu{α:Type}{m:Int→α→α}{c:α→Nat}{t:α→Int→Option Int}{f:Option Int}{xs:List α}{k:Int}{body:Int×Int→Option ((Int×Int)⊕(Int⊕Int))}
  (hf:f=(zI body (k,0)).bind fun r=>match r with|.inl r=>iF r|.inr r=>iF r)
  (hb:∀s,body s=cond (decide (s.2<((mkL m c k xs).length:Int))) ((ixO (mkL m c k xs) s.2).bind fun v1=>(t v1 s.1).bind fun r2=>cond (decide (r2<0)) (iF (.inr (.inr (-1)))) ((rng (s.2+1)).bind fun v3=>iF (.inl (r2,v3)))) (iF (.inr (.inl s.1))))
  (hl:xs.length≤1048576)(k0:0≤k)(k1:k+sm c xs≤9223372036854775807)(ht:∀x∈xs,∀k':Int,0≤k'→k'+c x≤9223372036854775807→t (m k' x) k'=iF (k'+c x)):f=iF (k+sm c xs):=by
 have:=zX (body:=body) (r:=.inl (k+sm c xs)) (fun i=>(k+sm c (xs.take i),(i:Int))) xs.length (fun i hi=>by
  have h1:=zGY c hi;have h2:=zCd c xs (i+1);rw[hb];simp only
  rw[sA,iL (by omega),zM,zAa (by grind[sA]),bs,zQj m c hi,ht _ (Jy hi) _ (by omega) (by omega),bs,iJ (by omega),zQ,zE (by omega) (by omega),bs,cs,h1]
  grind) (by
  rw[hb];simp only
  rw[sA,iJ (by omega),zQ,Q7])
 rw[hf];simp only[Kd,sm]at this
 grind
open Go Go.Ab Go.Wk
abbrev VI(n:Int):Prop:=(Lit.int .i64 n).wf=iH
abbrev VL{α:Type}(V:α→Prop)(xs:List α):Prop:=xs.length≤maxLen∧ ∀x∈xs,V x
abbrev c1(x:List Int):Nat:=x.length
abbrev c2(x:List (List Int)):Nat:=x.length+sm c1 x
abbrev c3(x:List (List (List Int))):Nat:=x.length+sm c2 x
theorem zMs{x:List Int}{b:Int}(hl:x.length≤9223372036854775807)(b0:0≤b)(b1:b≤1048576):zUM x b=iF (szR (c1 x) b):=by
 unfold zUM szR;rw[zE (by omega) (by omega),bs]
 grind
theorem zGb{x:List (List Int)}{b:Int}(h:VL (VL VI) x)(b0:0≤b)(b1:b≤1048576):zUN x b=iF (szR (c2 x) b):=
 zYD (c:=c1) rfl (fun _=>rfl) h.1 b0 b1 fun y hy _ h1 h2=>zMs (h.2 y hy).1 h1 h2
theorem zIa{x:List (List (List Int))}{b:Int}(h:VL (VL (VL VI)) x)(b0:0≤b)(b1:b≤1048576):zX7 x b=iF (szR (c3 x) b):=
 zYD (c:=c2) rfl (fun _=>rfl) h.1 b0 b1 (by grind[zGb])
abbrev S1(x:List Int):Prop:=c1 x≤1048576
abbrev S2(x:List (List Int)):Prop:=c2 x≤1048576
abbrev S3(x:List (List (List Int))):Prop:=c3 x≤1048576
theorem S2.mem{x:List (List Int)}(h:S2 x){y:List Int}(hy:y∈x):S1 y:=by
 have:=zTA c1 hy
 grind
theorem S3.mem{x:List (List (List Int))}(h:S3 x){y:List (List Int)}(hy:y∈x):S2 y:=by
 have:=zTA c2 hy
 grind
theorem S1.len{x:List Int}(h:S1 x):x.length≤1048576:=h
theorem S2.len{x:List (List Int)}(h:S2 x):x.length≤1048576:=by grind
theorem S3.len{x:List (List (List Int))}(h:S3 x):x.length≤1048576:=by grind
theorem zMt{x:List Int}(h:S1 x):zRU x=iF x:=by unfold zRU;rw[xF (H2 h (by decide)),bs,zKL (body:=zUO x) (f:=iF) (fun _=>rfl) (by grind) (fun _ _=>rfl),bs]
theorem zGc{x:List (List Int)}(h:S2 x):f_L x=iF x:=by unfold f_L;rw[xF (by grind),bs,zKL (body:=yA5 x) (f:=zRU) (fun _=>rfl) (by grind) (fun _ hx=>zMt (h.mem hx)),bs]
theorem zIb{x:List (List (List Int))}(h:S3 x):zUQ x=iF x:=by unfold zUQ;rw[xF (by grind),bs,zKL (body:=zUP x) (f:=f_L) (fun _=>rfl) (by grind) (fun _ hx=>zGc (h.mem hx)),bs]
theorem zMu{x y:List Int}(h:S1 x):zVN x y=iF (x==y):=
 zJP (t:=fun u v=>iF (u==v)) (body:=zVM x y) rfl (fun _=>rfl) (by grind) fun _ _ _ _=>rfl
theorem zD2{x y:List (List Int)}(h:S2 x):zPo x y=iF (x==y):=
 zJP (t:=zVN) (body:=zVO x y) rfl (fun _=>rfl) (by grind) fun _ hu _ _=>zMu (h.mem hu)
theorem zIc{x y:List (List (List Int))}(h:S3 x):zXK x y=iF (x==y):=
 zJP (t:=zPo) (body:=zVP x y) rfl (fun _=>rfl) (by grind) fun _ hu _ _=>zD2 (h.mem hu)
def m1(k:Int)(x:List Int):List Int:=mkL (fun k _=>k) (fun _=>1) k x
def m2(k:Int)(x:List (List Int)):List (List Int):=mkL m1 c1 k x
def m3(k:Int)(x:List (List (List Int))):List (List (List Int)):=mkL m2 (sm c1) k x
theorem zOq{α:Type}:∀xs:List α,sm (fun _=>1) xs=xs.length
 | []=>rfl
 |x::xs=>by simp[sm,zOq xs];omega
theorem zId{x:List Int}{k:Int}(h:S1 x)(k0:0≤k)(k1:k+c1 x≤9223372036854775807):zRY x k=iF (k+c1 x,m1 k x):=by have h1:=zOq x;have:=zGa (m:=fun k _=>k) (c:=fun _=>1) (t:=fun v k=>(rng (k+1)).bind fun v2=>iF (v2,k)) (body:=zQX) (xs:=x) (k:=k) (by grind[zQX]) h.len k0 (by grind) (by grind[zE]);unfold zRY;rw[this,bs,h1];rfl
theorem zBb{x:List (List Int)}{k:Int}(h:S2 x)(k0:0≤k)(k1:k+sm c1 x≤9223372036854775807):zN1 x k=iF (k+sm c1 x,m2 k x):=by unfold zN1;rw[zGa (body:=zVQ) (m:=m1) (c:=c1) (t:=zRY) (fun _=>rfl) h.len k0 k1 fun y hy _ h1 h2=>zId (h.mem hy) h1 h2,bs];rfl
theorem zFe{x:List (List (List Int))}{k:Int}(h:S3 x)(k0:0≤k)(k1:k+sm (sm c1) x≤9223372036854775807):zVS x k=iF (k+sm (sm c1) x,m3 k x):=by unfold zVS;rw[zGa (body:=zVR) (m:=m2) (c:=sm c1) (t:=zN1) (fun _=>rfl) h.len k0 k1 fun y hy _ h1 h2=>zBb (h.mem hy) h1 h2,bs];rfl
theorem zOr{x:List Int}{k:Int}(h:S1 x)(k0:0≤k)(k1:k+c1 x≤9223372036854775807):zVT (m1 k x) k=iF (k+c1 x):=by
 have hl:=h.len;have ar:(m1 k x).length=x.length:=sA _ _ _ _;have:=zX (body:=zN2 (m1 k x)) (r:=.inl (k+c1 x)) (fun i=>(k+(i:Int),(i:Int))) x.length (fun i hi=>by
  have hg:(m1 k x)[i]'(by omega)=k+sm (fun _=>1) (x.take i):=zQj _ _ hi _;unfold zN2;rw[iL (by omega),zM,zAa (by rw[ar];exact hi),bs,hg,zOq,Kk,Ud (by omega),show(k+(i:Int) != k+(i:Int))=iI from by simp,zQ,zE (by omega) (by grind),bs,zE (by omega) (by omega),bs,cs]
  grind) (by
  unfold zN2
  grind)
 unfold zVT
 grind
theorem zMv{x:List (List Int)}{k:Int}(h:S2 x)(k0:0≤k)(k1:k+sm c1 x≤9223372036854775807):yAE (m2 k x) k=iF (k+sm c1 x):=
 zRu (body:=zVU (m2 k x)) (m:=m1) (c:=c1) (t:=zVT) rfl (fun _=>rfl) h.len k0 k1 fun _ hy _ h1 h2=>zOr (h.mem hy) h1 h2
def zQk(x:SPr):Prop:=VL VI x.zA∧VL (VL VI) x.zV∧VL (VL (VL VI)) x.zG
def zXb(x:zB):Prop:=VI x.Prime∧VI x.Dim∧VL (VL (VL VI)) x.zF
def zMw(x:SPr):Nat:=c1 x.zA+c2 x.zV+c3 x.zG
def zTB(x:zB):Nat:=c3 x.zF
def zCW(x:SPr):Prop:=S1 x.zA∧S2 x.zV∧S3 x.zG
def zIe(x:zB):Prop:=S3 x.zF
theorem zMx{a b:Nat}{n:Int}:(szR a n<0∧szR (a+b) n= -1)∨(0≤szR a n∧szR a n≤n∧szR b (szR a n)=szR (a+b) n∧(a:Int)≤n)∨n<0:=by unfold szR;omega
theorem zIf{x:SPr}{b:Int}(h:zQk x)(b0:0≤b)(b1:b≤1048576):zX8 x b=iF (szR (zMw x) b):=by
 obtain⟨h1,h2,h3⟩:=h;unfold zX8 zMw;rw[zMs h1.1 b0 b1,bs];rcases zMx (a:=c1 x.zA) (b:=c2 x.zV+c3 x.zG) (n:=b)with⟨g1,g2⟩|⟨g1,g2,g3,g4⟩|g1
 ·grind
 ·rw[iJ (by omega),zQ,zGb h2 g1 (by omega),bs,Qd,←g3]
  generalize szR (c1 x.zA) b=b' at g1 g2
  rcases zMx (a:=c2 x.zV) (b:=c3 x.zG) (n:=b')with⟨k1,k2⟩|⟨k1,k2,k3,k4⟩|k1
  ·grind
  ·rw[iJ (by omega),zQ,zIa h3 k1 (by omega),bs,←k3]
   generalize szR (c2 x.zV) b'=b'' at k1 k2
   unfold szR
   grind
  ·omega
 ·omega
theorem zTC{x:zB}{b:Int}(h:zXb x)(b0:0≤b)(b1:b≤1048576):zX9 x b=iF (szR (zTB x) b):=by
 obtain⟨_,_,h3⟩:=h;unfold zX9 zTB;rw[zIa h3 b0 b1,bs];unfold szR
 grind
theorem zKM{c:Nat}{b:Int}(_:0≤b)(b1:b≤1048576):(decide (szR c b<0)=iH)∨(decide (szR c b<0)=iI∧0≤szR c b∧szR c b≤1048576∧c≤1048576):=by
 unfold szR
 grind
theorem zCW.of{x:SPr}(h:zMw x≤1048576):zCW x:=by unfold zMw at h;exact⟨by omega,by omega,by omega⟩
theorem zIe.of{x:zB}(h:zTB x≤1048576):zIe x:=h
theorem zIg{x:SPr}(h:zCW x):zPd x=iF x:=by unfold zPd;rw[zMt h.1,bs,zGc h.2.1,bs,zIb h.2.2,bs]
theorem zTD{x:zB}(h:zIe x):zPe x=iF x:=by unfold zPe;rw[zIb h,bs]
theorem zTE{x:zB}(h:zIe x):zXL x x=iF iH:=by unfold zXL;rw[zIc h,bs];simp
theorem zIh{x:SPr}(h:zCW x):zXM x x=iF iH:=by unfold zXM;rw[zMu h.1,bs,zD2 h.2.1,bs,zIc h.2.2,bs];simp
theorem zGd{x:List (List Int)}:sm c1 x≤c2 x:=by simp
theorem zQl{α:Type}{f g:α→Nat}(h:∀x,f x≤g x):∀xs:List α,sm f xs≤sm g xs
 | []=>Jh _
 |x::xs=>by have:=zQl h xs;grind[sm]
theorem zOs{x:List (List (List Int))}:sm (sm c1) x≤c3 x:=by
 have:=zQl (f:=sm c1) (g:=c2) (fun _=>zGd) x
 grind
theorem zOt{x:zB}{k:Int}(h:zIe x)(k0:0≤k)(k1:k≤1000000000):zXO x k=iF (k+sm (sm c1) x.zF,zB.mk x.Prime x.Dim (m3 k x.zF)):=by
 have g3:=zOs (x:=x.zF);have h':=h;simp only[zIe,S3]at h'
 grind[zXO,zFe]
def IsB(o:Option Bool)(P:Prop):Prop:=(o=iF iH∧P)∨(o=iF iI∧ ¬P)
theorem IsB.iff{Q:Prop}(h:IsB o P)(hpq:P↔Q):IsB o Q:=by grind
theorem IsB.of_bool{b:Bool}(h:b=iH↔P):IsB (iF b) P:=by
 cases b
 ·exact .inr (by grind)
 ·exact .inl ⟨rfl,h.1 rfl⟩
theorem chk{body:Int→Option (Int⊕(Unit⊕ρ))}(n i0:Nat)(hn:i0≤n)(P:Nat→Prop)(bad:Nat→ρ)
  (h:∀i,i0≤i→i<n→(∀j,i0≤j→j<i→P j)→(body (i:Int)=iF (.inl ((i+1:Nat):Int))∧P i)∨(body (i:Int)=iF (.inr (.inr (bad i)))∧ ¬P i))
  (he:body (n:Int)=iF (.inr (.inl ()))):
  (zI body (i0:Int)=iF (.inl ())∧ ∀j,i0≤j→j<n→P j)∨ ∃i,i0≤i∧i<n∧zI body (i0:Int)=iF (.inr (bad i))∧ ¬P i:=by
 have key:∀k i,i0≤i→i+k=n→(∀j,i0≤j→j<i→P j)→(zI body (i:Int)=iF (.inl ())∧ ∀j,i0≤j→j<n→P j)∨ ∃q,i0≤q∧q<n∧zI body (i:Int)=iF (.inr (bad q))∧ ¬P q:=by
  intro k
  induction k with
  |zero=>
   intro i hi hk hp;obtain rfl:i=n:=by omega
   grind[xL]
  |succ k ih=>
   intro i hi hk hp;rcases h i hi (by omega) hp with⟨h1,h2⟩|⟨h1,h2⟩
   ·have:=ih (i+1) (by omega) (by omega) (by grind)
    rw[xL,h1];exact this
   grind[xL]
 exact key (n-i0) i0 (Jh _) (by omega) fun j a b=>by omega
theorem sZ{f:Option Bool}(n:Nat)(P:Nat→Prop)
  (hf:f=(zI body 0).bind fun r=>match r with|.inl _=>iF iH|.inr r=>iF r)
  (h:∀i,i<n→(∀j,j<i→P j)→(body (i:Int)=iF (.inl ((i+1:Nat):Int))∧P i)∨(body (i:Int)=iF (.inr (.inr iI))∧ ¬P i))
  (he:body (n:Int)=iF (.inr (.inl ()))):IsB f (∀i,i<n→P i):=by
 rcases chk n 0 (Ka _) P (fun _=>iI) (fun i _ hi hp=>h i hi fun j hj=>hp j (Ka _) hj) he with⟨h1,h2⟩|⟨i,_,hi,h1,h2⟩
 ·refine .inl ⟨?_,fun i hi=>h2 i (Ka _) hi⟩
  rw[hf];rw[show((0:Nat):Int)=0 from rfl]at h1;rw[h1,bs]
 ·refine .inr ⟨?_,fun hp=>h2 (hp i hi)⟩
  rw[hf];rw[show((0:Nat):Int)=0 from rfl]at h1;rw[h1,bs]
theorem tC{ρ:Type}{bad:ρ}{g:Option (Int⊕(Unit⊕ρ))}(h:IsB o P)(hi:i<9223372036854775807)
  (hg:g=o.bind fun r=>cond (!r) (iF (.inr (.inr bad))) ((rng ((i:Int)+1)).bind fun v=>iF (.inl v))):(g=iF (.inl ((i+1:Nat):Int))∧P)∨(g=iF (.inr (.inr bad))∧ ¬P):=by
 subst hg;rcases h with⟨h1,h2⟩|⟨h1,h2⟩
 ·refine .inl ⟨?_,h2⟩
  rw[h1,bs,Ji,zQ,zE (by omega) (by omega),bs,cs]
 grind
theorem yT(h:i<n):decide ((i:Int)<(n:Int))=iH:=by grind
theorem qA:decide ((n:Int)<(n:Int))=iI:=by simp
theorem zAh(x a b:Int):IsB (zPj x a b) (a≤x∧x≤b):=by
 unfold zPj
 by_cases h:x≥a
 ·rw[iL h,zM];grind[IsB.of_bool]
 ·rw[iJ h,zQ];exact .inr ⟨rfl,by omega⟩
theorem zCX(x a b:Int):IsB (zUR x a b) (a≤x∧x≤b):=zAh x a b
def Prime(p:Int):Prop:=p=2∨p=3∨p=5∨p=7
theorem zCe(x:Int):IsB (zRV x) (Prime x):=by
 unfold zRV Prime
 by_cases h2:x=2
 ·subst h2;exact .inl ⟨rfl,.inl rfl⟩
 ·rw[show(x==2)=iI from by grind,zQ]
  by_cases h3:x=3
  ·subst h3;exact .inl (by simp)
  ·rw[show(x==3)=iI from by grind,zQ]
   by_cases h5:x=5
   ·subst h5;exact .inl (by simp)
   ·rw[show(x==5)=iI from by grind,zQ]
    grind[IsB.of_bool]
theorem zIi(x:Int):IsB (zXA x) (Prime x):=zCe x
abbrev at0(v:List Int)(i:Nat):Int:=v.getD i 0
theorem yQ(h:i<v.length):ixO v (i:Int)=iF (at0 v i):=by rw[zAa h,at0,J3,J5 h];rfl
def zZR(os v:List Int):Prop:=v.length=os.length∧ ∀i,i<v.length→0≤at0 v i∧at0 v i≤at0 os i-1
def Exp(os v:List Int)(k:Nat):Prop:=zZR os v∧ ∀i,i≤k→at0 v i=0
def Os(os:List Int):Prop:=os.length≤9∧ ∀i,i<os.length→Prime (at0 os i)
theorem Prime.pos{p:Int}(h:Prime p):2≤p∧p≤7:=by unfold Prime at h;omega
theorem zGe{x:SPr}(ho:Os x.zA):IsB (zXG x v) (zZR x.zA v):=by
 unfold zXG
 by_cases h:v.length=x.zA.length
 ·rw[show((v.length:Int) != (x.zA.length:Int))=iI from by simp[h],zQ]
  have h6:=ho.1;refine(sZ v.length (fun i=>0≤at0 v i∧at0 v i≤at0 x.zA i-1) rfl (fun i hi _=>?_) ?_).iff ⟨fun g=>⟨h,g⟩,fun g=>g.2⟩
  ·have hp:=(ho.2 i (by omega)).pos
   refine tC (zAh _ _ _) (by omega) ?_;unfold zQV;rw[yT hi,zM,yQ hi,bs,yQ (by omega),bs,zE (by omega) (by omega),bs]
  ·unfold zQV
   simp
 ·rw[show((v.length:Int) != (x.zA.length:Int))=iH from by simp;omega,zM]
  exact .inr ⟨rfl,fun g=>h g.1⟩
theorem zMy(hl:v.length≤9):IsB (f_U v) (∀i,i<v.length→at0 v i=0):=by
 refine sZ v.length (fun i=>at0 v i=0) rfl (fun i hi _=>?_) ?_
 ·refine tC (o:=iF (at0 v i==0)) (IsB.of_bool (by simp)) (by omega) ?_
  unfold zNu;rw[yT hi,zM,yQ hi,bs,bs];rfl
 ·unfold zNu
  simp
theorem zC3{x:SPr}(ho:Os x.zA)(hk:k<x.zA.length):IsB (zVo x k v) (Exp x.zA v k):=by
 have h6:=ho.1;unfold zVo;rcases zGe (v:=v) ho with⟨h1,h2⟩|⟨h1,h2⟩
 ·have hl:=h2.1
  rw[h1,bs,zM,zE (by omega) (by omega),bs];have hs:yD v 0 ((k:Int)+1)=iF (v.take (k+1)):=by
   unfold yD
   grind
  rw[hs,bs];have hb:=zMy (v:=v.take (k+1)) (by grind);have pH:(∀i,i<(v.take (k+1)).length→at0 (v.take (k+1)) i=0)↔Exp x.zA v k:=by
   have e:∀i,i≤k→at0 (v.take (k+1)) i=at0 v i:=by grind
   rw[Kk,Ud (by omega)];exact⟨fun g=>⟨h2,by grind⟩,fun g i hi=>by rw[e i (by omega)];exact g.2 i (by omega)⟩
  grind
 ·rw[h1,bs,zQ]
  exact .inr ⟨rfl,fun g=>h2 g.1⟩
theorem zCY(ho:Os os)(hk:k<os.length):IsB (zUS os v k) (Exp os v k):=by
 have h6:=ho.1;unfold zUS
 by_cases h:v.length=os.length
 ·rw[show((v.length:Int) != (os.length:Int))=iI from by simp[h],zQ]
  refine(sZ v.length (fun i=>(0≤at0 v i∧at0 v i≤at0 os i-1)∧(i≤k→at0 v i=0)) rfl (fun i hi _=>?_) ?_).iff ⟨fun g=>⟨⟨h,by grind⟩,by grind⟩,fun g i hi=>⟨g.1.2 i hi,fun hk=>g.2 i hk⟩⟩
  ·have hp:=(ho.2 i (by omega)).pos
   unfold zQR;rw[yT hi,zM,yQ hi,bs,yQ (by omega),bs,zE (by omega) (by omega),bs];rcases zCX (at0 v i) 0 (at0 os i-1)with⟨h1,h2⟩|⟨h1,h2⟩
   ·rw[h1,bs,Ji,zQ]
    by_cases h3:(i:Int)≤(k:Int)
    ·rw[iL h3,zM,bs]
     by_cases h4:at0 v i=0
     ·rw[show(at0 v i != 0)=iI from by grind,zQ,zE (by omega) (by omega),bs,cs]
      grind
     grind
    ·rw[iJ h3,zQ,zE (by omega) (by omega),bs,cs]
     grind
   grind
  ·unfold zQR
   simp
 ·rw[show((v.length:Int) != (os.length:Int))=iH from by simp;omega,zM]
  exact .inr ⟨rfl,fun g=>h g.1.1⟩
theorem yDr{body:σ→Option (σ⊕(Unit⊕ρ))}(S:Nat→σ)(n i0:Nat)(hn:i0≤n)(P:Nat→Prop)(bad:Nat→ρ)
  (h:∀i,i0≤i→i<n→(∀j,i0≤j→j<i→P j)→(body (S i)=iF (.inl (S (i+1)))∧P i)∨(body (S i)=iF (.inr (.inr (bad i)))∧ ¬P i))
  (he:body (S n)=iF (.inr (.inl ()))):
  (zI body (S i0)=iF (.inl ())∧ ∀j,i0≤j→j<n→P j)∨ ∃i,i0≤i∧i<n∧zI body (S i0)=iF (.inr (bad i))∧ ¬P i:=by
 have key:∀k i,i0≤i→i+k=n→(∀j,i0≤j→j<i→P j)→(zI body (S i)=iF (.inl ())∧ ∀j,i0≤j→j<n→P j)∨ ∃q,i0≤q∧q<n∧zI body (S i)=iF (.inr (bad q))∧ ¬P q:=by
  intro k
  induction k with
  |zero=>
   intro i hi hk hp;obtain rfl:i=n:=by omega
   grind[xL]
  |succ k ih=>
   intro i hi hk hp;rcases h i hi (by omega) hp with⟨h1,h2⟩|⟨h1,h2⟩
   ·have:=ih (i+1) (by omega) (by omega) (by grind)
    rw[xL,h1];exact this
   grind[xL]
 exact key (n-i0) i0 (Jh _) (by omega) fun j a b=>by omega
theorem jV{b:Int}(h:a=b):(a != b)=iI:=by simp[h]
theorem kF{b:Int}(h:a≠b):(a != b)=iH:=by simp[h]
def pr(os:List Int):Nat→Int
 |0=>1
 |i+1=>pr os i*at0 os i
def cp(os:List Int):Nat→Int
 |0=>1
 |i+1=>if cp os i≤729 then cp os i*at0 os i else cp os i
theorem zGf{os:List Int}:∀{i:Nat},(∀j,j<i→Prime (at0 os j))→1≤pr os i
 |0,_=>by simp[pr]
 |i+1,h=>by have h1:=zGf (os:=os) (i:=i) (by grind);have h2:=(h i (by omega)).pos;simp only[pr];have:(1:Int)*1≤pr os i*at0 os i:=Lf h1 (by omega) (by omega) (by omega);omega
theorem zQm(h:∀j,j≤i→Prime (at0 os j)):pr os i≤pr os (i+1):=by have h1:=zGf (os:=os) (i:=i) (by grind);have h2:=(h i (Jh _)).pos;simp only[pr];have:pr os i*1≤pr os i*at0 os i:=Lx (by omega) (by omega);omega
theorem zKN{os:List Int}{n:Nat}(h:∀j,j<n→Prime (at0 os j)):∀k,k≤n→pr os (n-k)≤pr os n
 |0,_=>Int.le_refl _
 |k+1,hk=>by
  have h1:=zKN h k (by omega);have h2:=zQm (os:=os) (i:=n-(k+1)) (by grind)
  grind
theorem zTF{os:List Int}:∀{i:Nat},(∀j,j<i→Prime (at0 os j))→(cp os i=pr os i∧pr os i≤729∨729<cp os i∧cp os i≤5103∧729<pr os i)
 |0,_=>by simp[cp,pr]
 |i+1,h=>by
  have h0:∀j,j<i→Prime (at0 os j):=by grind
  have h2:=(h i (by omega)).pos;have h3:=zQm (os:=os) (i:=i) (by grind);have ud:=zGf h0;simp only[cp];rcases zTF h0 with⟨h1,h4⟩|⟨h1,h4,h5⟩
  ·rw[h1,if_pos h4]
   have h6:pr os i*at0 os i≤729*7:=Lf h4 h2.2 (by omega) (by omega);simp only[pr]at h3 ⊢
   grind
  omega
def zGC(x:SPr)(i:Nat):Prop:=Exp x.zA (x.zV.getD i []) i∧(x.zG.getD i []).length+i+1=x.zA.length∧ ∀j,j<(x.zG.getD i []).length→Exp x.zA ((x.zG.getD i []).getD j []) i
structure zDW (x:SPr):Prop where
 os:True∧ ∀i,i<x.zA.length→Prime (at0 x.zA i)
 pl:x.zV.length=x.zA.length
 cl:x.zG.length=x.zA.length
 tl:∀i,i<x.zA.length→zGC x i
structure Pres (x:SPr):Prop where
 os:Os x.zA
 pl:x.zV.length=x.zA.length
 cl:x.zG.length=x.zA.length
 tl:∀i,i<x.zA.length→zGC x i
theorem Pres.w{x:SPr}(h:Pres x):zDW x:=⟨⟨trivial,h.os.2⟩,h.pl,h.cl,h.tl⟩
structure zAi (x:SPr):Prop extends Pres x where
 n6:x.zA.length≤6
 pr:pr x.zA x.zA.length≤729
theorem yO{v:List α}(d:α)(h:i<v.length):ixO v (i:Int)=iF (v.getD i d):=by grind[zAa]
theorem zOu{x:SPr}(ho:Os x.zA)(hp:x.zV.length=x.zA.length)(hc:x.zG.length=x.zA.length)(hi:i<x.zA.length):
  (zPl x i=iF (.inl ((i+1:Nat):Int))∧zGC x i)∨(zPl x i=iF (.inr (.inr iI))∧ ¬zGC x i):=by
 have h6:=ho.1;unfold zPl;rw[yT hi,zM,yO [] (by omega),bs];rcases zC3 (v:=x.zV.getD i []) ho hi with⟨h1,h2⟩|⟨h1,h2⟩
 ·rw[h1,bs,Ji,zQ,yO [] (by omega),bs,zE (by omega) (by omega),bs,zE (by omega) (by omega),bs]
  by_cases hl:(x.zG.getD i []).length+i+1=x.zA.length
  ·rw[jV (by omega),zQ,bs]
   rcases chk (body:=zVp x i (x.zG.getD i [])) (x.zG.getD i []).length 0 (Ka _) (fun j=>Exp x.zA ((x.zG.getD i []).getD j []) i) (fun _=>iI) (fun j _ hj _=>by
     refine tC (zC3 ho hi) (by omega) ?_;unfold zVp;rw[yT hj,zM,yO [] hj,bs]) (by
     unfold zVp;simp)with⟨g1,g2⟩|⟨j,_,hj,g1,g2⟩
   ·rw[show((0:Nat):Int)=0 from rfl]at g1
    rw[g1,bs];simp only
    rw[zE (by omega) (by omega),bs,cs];exact .inl ⟨rfl,h2,hl,by grind⟩
   ·rw[show((0:Nat):Int)=0 from rfl]at g1
    rw[g1,bs];exact .inr ⟨rfl,fun g=>g2 (g.2.2 j hj)⟩
  ·rw[kF (by omega),zM]
   exact .inr ⟨rfl,fun g=>hl g.2.1⟩
 ·rw[h1,bs,K7,zM]
  exact .inr ⟨rfl,fun g=>h2 g.1⟩
theorem zOv{x:SPr}(ho:Os x.zA)(hp:x.zV.length=x.zA.length)(hc:x.zG.length=x.zA.length)(hi:i<x.zA.length):
  (zPf x i=iF (.inl ((i+1:Nat):Int))∧zGC x i)∨(zPf x i=iF (.inr (.inr iI))∧ ¬zGC x i):=by
 have h6:=ho.1;unfold zPf;rw[yT hi,zM,yO [] (by omega),bs];rcases zCY (v:=x.zV.getD i []) ho hi with⟨h1,h2⟩|⟨h1,h2⟩
 ·rw[h1,bs,Ji,zQ,yO [] (by omega),bs,zE (by omega) (by omega),bs,zE (by omega) (by omega),bs]
  by_cases hl:(x.zG.getD i []).length+i+1=x.zA.length
  ·rw[jV (by omega),zQ]
   rcases chk (body:=zUU x i) (x.zG.getD i []).length 0 (Ka _) (fun j=>Exp x.zA ((x.zG.getD i []).getD j []) i) (fun _=>iI) (fun j _ hj _=>by
     refine tC (zCY ho hi) (by omega) ?_;unfold zUU;rw[yO [] (by omega),bs,yT hj,zM,bs,yO [] hj,bs]) (by
     unfold zUU;rw[yO [] (by omega),bs,qA,zQ])with⟨g1,g2⟩|⟨j,_,hj,g1,g2⟩
   ·rw[show((0:Nat):Int)=0 from rfl]at g1
    rw[g1,bs];simp only
    rw[zE (by omega) (by omega),bs,cs];exact .inl ⟨rfl,h2,hl,by grind⟩
   ·rw[show((0:Nat):Int)=0 from rfl]at g1
    rw[g1,bs];exact .inr ⟨rfl,fun g=>g2 (g.2.2 j hj)⟩
  ·rw[kF (by omega),zM]
   exact .inr ⟨rfl,fun g=>hl g.2.1⟩
 ·rw[h1,bs,K7,zM]
  exact .inr ⟨rfl,fun g=>h2 g.1⟩
theorem zMz{x:SPr}(h6:x.zA.length≤6):
  (zI (zPk x) (1,0)=iF (.inl ())∧Os x.zA∧pr x.zA x.zA.length≤729)∨(zI (zPk x) (1,0)=iF (.inr iI)∧ ¬(Os x.zA∧pr x.zA x.zA.length≤729)):=by
 rcases yDr (body:=zPk x) (fun i=>(pr x.zA i,(i:Int))) x.zA.length 0 (Ka _) (fun i=>Prime (at0 x.zA i)∧pr x.zA (i+1)≤729) (fun _=>iI) (fun i _ hi m6=>by
   have hp:∀j,j<i→Prime (at0 x.zA j):=by grind
   have ud:=zGf hp;have hle:pr x.zA i≤729:=by
    cases i with
    |zero=>simp[pr]
    |succ i=>grind
   unfold zPk;rw[yT hi,zM,yQ hi,bs];rcases zCe (at0 x.zA i)with⟨h1,h2⟩|⟨h1,h2⟩
   ·have h3:=h2.pos
    have h4:pr x.zA i*at0 x.zA i≤729*7:=Lf hle h3.2 (by omega) (by omega);have h5:1*1≤pr x.zA i*at0 x.zA i:=Lf ud (by omega) (by omega) (by omega);simp only
    rw[h1,bs,Ji,zQ,zE (by omega) (by omega),bs]
    by_cases h7:pr x.zA i*at0 x.zA i> 729
    ·rw[iL h7,zM]
     exact .inr ⟨rfl,by grind[pr]⟩
    ·rw[iJ h7,zQ,bs,zE (by omega) (by omega),bs,cs]
     exact .inl ⟨rfl,h2,by grind[pr]⟩
   grind) (by
   unfold zPk;simp)with⟨g1,g2⟩|⟨i,_,hi,g1,g2⟩
 ·refine .inl ⟨g1,⟨by omega,by grind⟩,?_⟩
  cases hn:x.zA.length with
  |zero=>simp[pr]
  |succ n=>grind
 ·refine .inr ⟨g1,fun⟨h1,h2⟩=>g2 ⟨h1.2 i hi,?_⟩⟩
  have:=zKN (os:=x.zA) (n:=x.zA.length) h1.2 (x.zA.length-(i+1)) (by omega)
  grind
theorem zKO(ho:Os os):zXB os=iF (cp os os.length):=by
 have h6:=ho.1;unfold zXB;rw[show(1,0)=(fun i=>(cp os i,(i:Int))) 0 from rfl,zX (body:=zNr os) (r:=cp os os.length) (fun i=>(cp os i,(i:Int))) os.length (fun i hi=>by
  have hp:=(ho.2 i hi).pos;have hc:=zTF (os:=os) (i:=i) fun j hj=>ho.2 j (by omega)
  have ud:=zGf (os:=os) (i:=i) fun j hj=>ho.2 j (by omega)
  unfold zNr;rw[yT hi,zM];simp only[cp]
  by_cases h:cp os i≤729
  ·have h4:cp os i*at0 os i≤729*7:=Lf h hp.2 (by omega) (by omega)
   have h5:1*1≤cp os i*at0 os i:=Lf (by omega) (by omega) (by omega) (by omega);rw[iL h,zM,yQ hi,bs,zE (by omega) (by omega),bs,zE (by omega) (by omega),bs,cs,if_pos h]
  ·rw[iJ h,zQ,zE (by omega) (by omega),bs,cs,if_neg h]) (by
  unfold zNr;simp),bs]
theorem zDH{x:SPr}(hl:x.zA.length≤1048576):IsB (f_x x) (zAi x):=by
 unfold f_x
 by_cases h6:x.zA.length≤6
 ·rw[iJ (by omega),zQ]
  by_cases hp:x.zV.length=x.zA.length
  ·rw[jV (by omega),zQ]
   by_cases hc:x.zG.length=x.zA.length
   ·rw[jV (by omega),zQ]
    rcases zMz h6 with⟨h1,h2,h3⟩|⟨h1,h2⟩
    ·rw[h1,bs]
     exact(sZ (f:=(zI (zPl x) 0).bind fun r=>match r with|.inl _=>iF iH|.inr r=>iF r) x.zA.length (zGC x) rfl (by grind[zOu]) (by unfold zPl;simp)).iff ⟨fun g=>⟨⟨h2,hp,hc,g⟩,h6,h3⟩,fun g=>g.tl⟩
    ·rw[h1,bs]
     exact .inr ⟨rfl,fun g=>h2 ⟨g.os,g.pr⟩⟩
   ·rw[kF (by omega),zM]
    exact .inr ⟨rfl,fun g=>hc g.cl⟩
  ·rw[kF (by omega),zM]
   exact .inr ⟨rfl,fun g=>hp g.pl⟩
 ·rw[iL (by omega),zM]
  exact .inr ⟨rfl,fun g=>h6 g.n6⟩
theorem zDI{x:SPr}(hl:x.zA.length≤1048576):IsB (f_B x) (zAi x):=by
 unfold f_B
 by_cases h6:x.zA.length≤6
 ·rw[iJ (by omega),zQ]
  by_cases hp:x.zV.length=x.zA.length
  ·rw[jV (by omega),zQ]
   by_cases hc:x.zG.length=x.zA.length
   ·rw[jV (by omega),zQ]
    rcases chk (body:=zUT x) x.zA.length 0 (Ka _) (fun i=>Prime (at0 x.zA i)) (fun _=>iI) (fun i _ hi _=>by
      refine tC (zIi _) (by omega) ?_;unfold zUT;rw[yT hi,zM,yQ hi,bs]) (by
      unfold zUT;simp)with⟨g1,g2⟩|⟨i,_,hi,g1,g2⟩
    ·rw[show((0:Nat):Int)=0 from rfl]at g1
     have ho:Os x.zA:=⟨by omega,by grind⟩;have hcp:=zTF (os:=x.zA) (i:=x.zA.length) ho.2;rw[g1,bs];simp only
     rw[zKO ho,bs]
     by_cases h7:cp x.zA x.zA.length> 729
     ·rw[iL h7,zM]
      exact .inr ⟨rfl,fun g=>by have:=g.pr;omega⟩
     ·rw[iJ h7,zQ]
      exact(sZ (f:=(zI (zPf x) 0).bind fun r=>match r with|.inl _=>iF iH|.inr r=>iF r) x.zA.length (zGC x) rfl (by grind[zOv]) (by unfold zPf;simp)).iff ⟨fun g=>⟨⟨ho,hp,hc,g⟩,h6,by omega⟩,fun g=>g.tl⟩
    ·rw[show((0:Nat):Int)=0 from rfl]at g1
     rw[g1,bs];exact .inr ⟨rfl,fun g=>g2 (g.os.2 i hi)⟩
   ·rw[kF (by omega),zM]
    exact .inr ⟨rfl,fun g=>hc g.cl⟩
  ·rw[kF (by omega),zM]
   exact .inr ⟨rfl,fun g=>hp g.pl⟩
 ·rw[iL (by omega),zM]
  exact .inr ⟨rfl,fun g=>h6 g.n6⟩
open Go Go.Ab Go.Wk Go.Pc
def lvl(x:SPr)(i:Nat):Lvl:=⟨at0 x.zA i,(x.zV.getD i []).drop (i+1),(x.zG.getD i []).map (·.drop (i+1))⟩
def suf(x:SPr)(k:Nat):Pcp:=(Kl k (x.zA.length-k)).map (lvl x)
theorem yS(x:SPr)(k:Nat):(suf x k).length=x.zA.length-k:=by simp[suf]
theorem yG{x:SPr}(h:k<x.zA.length):suf x k=lvl x k::suf x (k+1):=by unfold suf;rw[show x.zA.length-k=(x.zA.length-(k+1))+1 from by omega,Jcw,Jr]
theorem vX{x:SPr}(h:x.zA.length≤k):suf x k=[]:=by unfold suf;simp_all
theorem zAA(h:Exp os v k)(hk:k<os.length):v=zeros (k+1)++v.drop (k+1):=by
 have h1:=h.1.1;apply Km;intro i;rw[Ki];simp only[zeros,Jc,Kb,Hq];split
 ·rename_i hi
  have h2:=h.2 i (by omega)
  grind
 grind
theorem zZS{x:SPr}:∀(d k:Nat)(v:List Int),k+d=x.zA.length→v.length=d→(∀i,i<d→0≤at0 v i∧at0 v i≤at0 x.zA (k+i)-1)→V (suf x k) v
 |0,k,v,hk,hv,_=>by rw[vX (by omega)];simpa[V]using hv
 |d+1,k,v,hk,hv,h=>by
  rw[yG (by omega)]
  match v,hv with
  |a::v,hv=>
   have h0:=h 0 (by omega);simp only[at0,Gj,Q6]at h0;refine⟨⟨h0.1,by simp only[lvl,at0];omega⟩,zZS d (k+1) v (by omega) (by grind) fun i hi=>?_⟩
   grind
theorem kG{x:SPr}(h:Exp x.zA v k)(hk:k<x.zA.length):V (suf x (k+1)) (v.drop (k+1)):=by
 have h1:=h.1.1;refine zZS (x.zA.length-(k+1)) (k+1) _ (by omega) (by grind) fun i hi=>?_
 have:=h.1.2 (k+1+i) (by omega)
 grind
theorem zDW.ok{x:SPr}(h:zDW x):∀(d k:Nat),k+d=x.zA.length→Pc.Ok (suf x k)
 |0,k,hk=>by rw[vX (by omega)];simp only[Pc.Ok]
 |d+1,k,hk=>by
  rw[yG (by omega)];obtain⟨t1,t2,t3⟩:=h.tl k (by omega);refine⟨by simp only[lvl];have:=(h.os.2 k (by omega)).pos;omega,kG t1 (by omega),?_,fun c hc=>?_,zDW.ok h d (k+1) (by omega)⟩
  ·grind[yS,lvl]
  ·simp only[lvl,Jl]at hc
   obtain⟨u,hu,rfl⟩:=hc;obtain⟨j,hj,rfl⟩:=K4.1 hu
   grind[kG]
theorem zDW.okAt{x:SPr}(h:zDW x)(hk:k≤x.zA.length):Pc.Ok (suf x k):=h.ok (x.zA.length-k) k (by omega)
theorem Pres.okAt{x:SPr}(h:Pres x)(hk:k≤x.zA.length):Pc.Ok (suf x k):=h.w.okAt hk
theorem yC(n:Nat):(zeros n).length=n:=by simp[zeros]
theorem zGD(k:Nat):zeros (k+1)=zeros k++[0]:=by simp[zeros,Lo]
theorem zDX{b:Int}{v:Vec}:(zeros k++a::v).set k b=zeros k++b::v:=by rw[Hp _ _ (by grind[yC]),yC,Ke,Kz]
theorem zCZ{v:Vec}:ixO (zeros k++a::v) (k:Int)=iF a:=by rw[vP,Jk (by grind[yC]),yC,Ke];rfl
theorem zCf{v:Vec}:zeros k++0::v=zeros (k+1)++v:=by rw[zGD,Jj];rfl
theorem qB(h:v.length≤1000000):f_y v=iF v:=by grind[f_y,yI]
theorem zBD{m:Vec→Vec→Vec}:∀(cs:List Vec)(x:Vec)(i:Nat)(acc:Vec),i<cs.length→i<x.length→
  img m (cs.take (i+1)) (x.take (i+1)) acc=iter (at0 x i).toNat (fun v=>m v (cs.getD i [])) (img m (cs.take i) (x.take i) acc)
 | [],_,_,_,h,_=>by simp at h
 |_::_,[],_,_,_,h=>by simp at h
 |c::cs,a::x,0,acc,_,_=>by rfl
 |c::cs,a::x,i+1,acc,h,h'=>by simp only[Lj,img,at0,List.getD_cons_succ];exact zBD cs x i _ (by grind) (by grind)
theorem uF{β:Type}{body:α×Int→Option ((α×Int)⊕α)}{S:β→Prop}(e:β→α)(g:β→β)(n:Int)(hn:0≤n)(hS:∀a,S a→S (g a))
  (h:∀a(i:Nat),S a→(i:Int)<n→body (e a,(i:Int))=iF (.inl (e (g a),((i+1:Nat):Int))))(he:∀a,S a→body (e a,n)=iF (.inr (e a))){a:β}(ha:S a):
  zI body (e a,0)=iF (e (iter n.toNat g a)):=by
 have eh:∀k,S (iter k g a):=fun k=>vW (S:=S) hS k ha
 exact zX (body:=body) (r:=e (iter n.toNat g a)) (fun i=>(e (iter i g a),(i:Int))) n.toNat (by grind[vL]) (by grind)
theorem zM0{v:Vec}(h:i<v.length):ixO (zeros k++v) ((k+i:Nat):Int)=iF (at0 v i):=by rw[vP,Jk (by grind[yC]),yC,show k+i-k=i from by omega,J5 h,at0,J3,J5 h];rfl
theorem zEw{x:SPr}(ho:Os x.zA):∀(d k:Nat)(v:List Int),k+d=x.zA.length→V (suf x k) v→v.length=d∧ ∀i,i<d→0≤at0 v i∧at0 v i<at0 x.zA (k+i)∧at0 v i≤6
 |0,k,v,hk,hv=>by
  rw[vX (by omega)]at hv;simp only[V]at hv
  grind
 |d+1,k,v,hk,hv=>by
  rw[yG (by omega)]at hv
  match v,hv with
  |a::v,hv=>
   obtain⟨h1,h2⟩:=zEw ho d (k+1) v (by omega) hv.2;refine⟨by simp[h1],fun i hi=>?_⟩;cases i with
   |zero=>
    have h3:=hv.1;simp only[lvl]at h3;have:=(ho.2 k (by omega)).pos
    grind
   |succ i=>
    grind
theorem zFf{x:SPr}(h:Pres x)(hk:k<x.zA.length)(hi:i<x.zA.length-(k+1)):
  ∃c,ixO x.zG (k:Int)=iF (x.zG.getD k [])∧ixO (x.zG.getD k []) (i:Int)=iF (zeros (k+1)++c)∧V (suf x (k+1)) c∧(lvl x k).cs.getD i []=c:=by
 obtain⟨t1,t2,t3⟩:=h.tl k hk;have hc:=h.cl
 grind[yO,kG,zAA,lvl]
def FAt(x:SPr)(k:Nat)(g:SPr→Int→List Int→List Int→Option (List Int)):Prop:=
 ∀a b,V (suf x k) a→V (suf x k) b→g x k (zeros k++a) (zeros k++b)=iF (zeros k++mul (suf x k) a b)
def FIm(x:SPr)(k:Nat)(g:SPr→Int→List Int→Option (List Int)):Prop:=
 ∀v,V (suf x (k+1)) v→g x k (zeros (k+1)++v)=iF (zeros (k+1)++sig (suf x (k+1)) (lvl x k) v)
theorem zOw{x:SPr}(h:Pres x)(hk:k<x.zA.length){g:SPr→Int→List Int→List Int→Option (List Int)}(hg:FAt x (k+1) g):FIm x k (b_g g):=by
 intro v hv;have h6:=h.os.1;have ok:=h.okAt (k:=k+1) (by omega);obtain⟨pV,aY⟩:=zEw h.os (x.zA.length-(k+1)) (k+1) v (by omega) hv;have gj:=yS x (k+1);have gC:(lvl x k).cs.length=x.zA.length-(k+1):=by have:=h.okAt (k:=k) (by omega);rw[yG hk]at this;rw[this.2.2.1,gj]
 have gM:∀c∈(lvl x k).cs,V (suf x (k+1)) c:=by have:=h.okAt (k:=k) (by omega);rw[yG hk]at this;exact this.2.2.2.1
 have hA:∀i,V (suf x (k+1)) (img (mul (suf x (k+1))) ((lvl x k).cs.take i) (v.take i) (zeros (suf x (k+1)).length)):=fun i=>
  jB (xJ ok) _ _ (by grind) (wS ok)
 unfold b_g;rw[xF (by omega),bs,zE (by omega) (by omega),bs,cs];have hz:J1 x.zA.length (0:Int)=zeros (k+1)++zeros (suf x (k+1)).length:=by rw[gj];simp only[zeros,Je];congr 1;omega
 rw[hz];have:=zX (body:=zUW g x k (zeros (k+1)++v)) (r:=zeros (k+1)++sig (suf x (k+1)) (lvl x k) v)
  (fun i=>(zeros (k+1)++img (mul (suf x (k+1))) ((lvl x k).cs.take i) (v.take i) (zeros (suf x (k+1)).length),((k+1+i:Nat):Int))) (x.zA.length-(k+1)) (fun i hi=>by
  have hr:=aY i hi;obtain⟨c,c1,c2,c3,c4⟩:=zFf h hk hi;unfold zUW;rw[iL (by omega),zM];rw[uF (S:=V (suf x (k+1))) (body:=zUV g x k (zeros (k+1)++v) (zeros (k+1)++img (mul (suf x (k+1))) ((lvl x k).cs.take i) (v.take i) (zeros (suf x (k+1)).length),((k+1+i:Nat):Int))) (fun u=>zeros (k+1)++u) (fun u=>mul (suf x (k+1)) u c) (at0 v i) hr.1 (by grind[xJ]) (fun u q hu hq=>by
   unfold zUV;simp only
   rw[zM0 (by omega),bs,iL hq,zM,zE (by omega) (by omega),bs,c1,bs,zE (by omega) (by omega),bs,zE (by omega) (by omega),bs,
    show(((k+1+i:Nat):Int)-(k:Int)-1)=(i:Int)from by omega,c2,bs,cs,hg u c hu c3,bs,zE (by omega) (by omega),bs,cs]) (fun u hu=>by
   unfold zUV;simp only
   rw[zM0 (by omega),bs,iJ (by omega),zQ]) (hA i),bs,zE (by omega) (by omega),bs,cs]
  rw[zBD _ _ _ _ (by omega) (by omega),c4];rfl) (by
  unfold zUW;rw[iJ (by omega),zQ,Jn (by omega),Jn (by omega)];rfl)
 grind[img]
theorem zXc{x:SPr}(h:Pres x)(hk:k<x.zA.length){g:SPr→Int→List Int→List Int→Option (List Int)}{gi:SPr→Int→List Int→Option (List Int)}(hg:FAt x (k+1) g)(hi:FIm x k gi):FAt x k (b_a gi g):=by
 intro a b ha hb;have h6:=h.os.1;have hp:=(h.os.2 k hk).pos;have ok:=h.okAt (k:=k+1) (by omega);have ok0:=h.okAt (k:=k) (by omega);obtain⟨bB,har⟩:=zEw h.os (x.zA.length-k) k a (by omega) ha;obtain⟨cL,hbr⟩:=zEw h.os (x.zA.length-k) k b (by omega) hb;rw[yG hk]at ha hb ok0;obtain⟨a0,a,rfl⟩:∃a0 a',a=a0::a':=by cases a with|nil=>grind|cons p q=>simp
 obtain⟨b0,b,rfl⟩:∃a0 a',b=a0::a':=by cases b with|nil=>grind|cons p q=>simp
 obtain⟨⟨a1,a2⟩,ha⟩:=ha;obtain⟨⟨b1,b2⟩,hb⟩:=hb;have ms:(lvl x k).o=at0 x.zA k:=rfl;rw[ms]at a2 b2;unfold b_a;rw[iJ (by omega),zQ,qB (by grind[yC]),bs,qB (by simp[yC]at cL ⊢;omega),bs,zCZ,bs,zCZ,bs,J6,zDX,zDX,zCf,zCf];have ep:∀u,V (suf x (k+1)) u→V (suf x (k+1)) (sig (suf x (k+1)) (lvl x k) u):=by grind[zCU]
 have eh:V (suf x (k+1)) (iter b0.toNat (sig (suf x (k+1)) (lvl x k)) a):=vW ep _ ha;rw[uF (S:=V (suf x (k+1))) (fun u=>zeros (k+1)++u) (sig (suf x (k+1)) (lvl x k)) b0 b1 ep (fun u q hu hq=>by
   unfold zXC;simp only
   rw[zCZ,bs,iL hq,zM,hi u hu,bs,zE (by omega) (by omega),bs,cs]) (fun u hu=>by
   unfold zXC;simp only
   rw[zCZ,bs,iJ (by omega),zQ]) ha,bs,zE (by omega) (by omega),bs,cs,hg _ _ eh hb,bs,bs,bs,zE (by omega) (by omega),bs,yQ hk,bs]
 have hm:=xJ ok eh hb;have ar:=(zEw h.os (x.zA.length-(k+1)) (k+1) _ (by omega) hm).1;have own:∀u,V (suf x (k+1)) u→f_y (zeros (k+1)++u)=iF (zeros (k+1)++u):=fun u hu=>qB (by
  have:=(zEw h.os (x.zA.length-(k+1)) (k+1) _ (by omega) hu).1
  grind[yC])
 rw[yG hk,xD,ms]
 by_cases hge:a0+b0≥at0 x.zA k
 ·have t1:=(h.tl k hk).1
  have hw:=kG t1 hk;have hwl:=h.pl;rw[iL hge,zM,if_pos hge,bs,zE (by omega) (by omega),bs,bs,yO [] (by omega),bs,zAA t1 hk,hg _ _ hw hm,bs,own _ (xJ ok hw hm),bs];rw[←zCf,zCZ,bs,zDX];rfl
 ·rw[iJ hge,zQ,if_neg hge,own _ hm,bs,←zCf,zCZ,bs,zDX]
theorem zGg{x:SPr}(h:Pres x):∀(d k:Nat),k+d=x.zA.length→(∀m,2*d+1≤m→FAt x k (zPh m))∧(1≤d→ ∀m,2*d≤m→FIm x k (zPg m))
 |0,k,hk=>by
  refine⟨fun m hm a b ha hb=>?_,fun h=>by omega⟩;have h6:=h.os.1;obtain⟨m,rfl⟩:∃m',m=m'+1:=⟨m-1,by omega⟩;show b_a _ _ x k _ _=_;unfold b_a;rw[iL (by omega),zM,xF (by omega),bs,vX (by omega)]
  grind[mul,zeros]
 |d+1,k,hk=>by
  obtain⟨h1,h2⟩:=zGg h d (k+1) (by omega);have hI:∀m,2*(d+1)≤m→FIm x k (zPg m):=fun m hm=>by obtain⟨m,rfl⟩:∃m',m=m'+1:=⟨m-1,by omega⟩;exact zOw h (by omega) (h1 m (by omega))
  refine⟨fun m hm=>?_,fun _=>hI⟩;obtain⟨m,rfl⟩:∃m',m=m'+1:=⟨m-1,by omega⟩;exact zXc h (by omega) (h1 m (by omega)) (hI m (by omega))
theorem zQn{x:SPr}(h:Pres x)(hk:k≤x.zA.length):FAt x k f_a:=fun a b ha hb=>
 zBA (2*(x.zA.length-k)+1) fun m hm=>(zGg h (x.zA.length-k) k (by omega)).1 m hm a b ha hb
theorem zOx{x:SPr}(h:Pres x)(hk:k<x.zA.length):FIm x k f_g:=fun v hv=>
 zBA (2*(x.zA.length-k)) fun m hm=>(zGg h (x.zA.length-k) k (by omega)).2 (by omega) m hm v hv
theorem zDa:∀{P Q:Pcp},Q<:+P→wN P→wN Q
 | [],Q,h,_=>by grind
 |l::P,Q,h,hc=>by
  rcases Ja3.1 h with rfl|h
  ·exact hc
  ·exact zDa h hc.1
theorem zJQ:∀{P Q:Pcp},Q<:+P→Pc.Ok P→Pc.Ok Q
 | [],Q,h,_=>by grind
 |l::P,Q,h,hc=>by
  rcases Ja3.1 h with rfl|h
  ·exact hc
  ·exact zJQ h hc.2.2.2.2
theorem zOy(x:SPr)(k:Nat):suf x (k+1)<:+suf x k:=by grind[yG,vX]
theorem zFg{x:SPr}{k:Nat}(h:wN (suf x k)):∀i,wN (suf x (k+i))
 |0=>h
 |i+1=>zDa (zOy x (k+i)) (zFg h i)
theorem zIj{x:SPr}(h:Pres x)(hk:k≤x.zA.length)(hc:wN (suf x k)):Grp (V (suf x k)) (mul (suf x k)) (zeros (suf x k).length):=zCV _ (h.okAt hk) hc
theorem zGZ{x:SPr}:∀(i k:Nat)(v:Vec),k+i≤x.zA.length→V (suf x k) v→ ∃q v',v=q++v'∧q.length=i∧V (suf x (k+i)) v'∧
  ∀a b,V (suf x (k+i)) a→V (suf x (k+i)) b→mul (suf x k) (q++a) (zeros i++b)=q++mul (suf x (k+i)) a b
 |0,k,v,_,hv=>⟨[],v,rfl,rfl,hv,fun a b _ _=>rfl⟩
 |i+1,k,v,hk,hv=>by
  rw[yG (by omega)]at hv
  match v,hv with
  |e::v,hv=>
   obtain⟨q,v',h1,h2,h3,h4⟩:=zGZ i (k+1) v (by omega) hv.2;rw[show k+1+i=k+(i+1)from by omega]at h3 h4;refine⟨e::q,v',by grind,by simp[h2],h3,fun a b ha hb=>?_⟩;have he:=hv.1;rw[yG (by omega)];show mul (lvl x k::suf x (k+1)) (e::(q++a)) (0::(zeros i++b))=_;rw[xD,Lt,if_neg (by omega)]
   grind[iter]
def FTV(x:SPr)(k:Nat)(g:SPr→List Int→List Int→Option (List Int)):Prop:=
 ∀p v u,p.length=k→V (suf x k) v→V (suf x k) u→g x (p++v) (zeros k++u)=iF (p++mul (suf x k) v u)
def FTG(x:SPr)(k:Nat)(g:SPr→List Int→Int→Option (List Int)):Prop:=
 ∀p v,p.length=k→V (suf x k) v→g x (p++v) (k:Int)=iF (p++mul (suf x k) v (1::zeros (x.zA.length-(k+1))))
theorem zJR{x:SPr}(h:Pres x)(hk:k<x.zA.length){g:SPr→List Int→List Int→Option (List Int)}(hg:FTV x (k+1) g){t:Vec}(ht:V (suf x (k+1)) t)
  {body1:List Int×Int→Int→List Int×Int→Option ((List Int×Int)⊕List Int)}{body2:List Int×Int→Option ((List Int×Int)⊕List Int)}
  (bz:∀s,body2 s=cond (decide (s.2<(t.length:Int))) ((ixO t s.2).bind fun v17=>(zI (body1 s v17) (s.1,0)).bind fun r=>(rng (s.2+1)).bind fun v=>iF (.inl (r,v))) (iF (.inr s.1)))
  (iz:∀s v q,body1 s v q=cond (decide (q.2<v)) ((ixO x.zG (k:Int)).bind fun cl=>(ixO cl s.2).bind fun c=>(g x q.1 c).bind fun r=>(rng (q.2+1)).bind fun w=>iF (.inl (r,w))) (iF (.inr q.1)))
  {p:Vec}(hp:p.length=k+1){u:Vec}(hu:V (suf x (k+1)) u):zI body2 (p++u,0)=iF (p++img (mul (suf x (k+1))) (lvl x k).cs t u):=by
 have h6:=h.os.1;have ok:=h.okAt (k:=k+1) (by omega);have ok0:=h.okAt (k:=k) (by omega);rw[yG hk]at ok0;obtain⟨fN,tp⟩:=zEw h.os (x.zA.length-(k+1)) (k+1) t (by omega) ht;have gC:(lvl x k).cs.length=x.zA.length-(k+1):=by rw[ok0.2.2.1,yS]
 have hA:∀i,V (suf x (k+1)) (img (mul (suf x (k+1))) ((lvl x k).cs.take i) (t.take i) u):=fun i=>
  jB (xJ ok) _ _ (fun c hc=>ok0.2.2.2.1 c (by grind)) hu
 have:=zX (body:=body2) (r:=p++img (mul (suf x (k+1))) (lvl x k).cs t u) (fun i=>(p++img (mul (suf x (k+1))) ((lvl x k).cs.take i) (t.take i) u,(i:Int))) t.length (fun i hi=>by
  have hr:=tp i (by omega);obtain⟨c,c1,c2,c3,c4⟩:=zFf h hk (i:=i) (by omega);rw[bz];simp only
  rw[yT hi,zM,yQ hi,bs];rw[uF (S:=V (suf x (k+1))) (fun u=>p++u) (fun u=>mul (suf x (k+1)) u c) (at0 t i) hr.1 (by grind[xJ]) (fun u q hu hq=>by
   rw[iz];simp only
   rw[iL hq,zM,c1,bs,c2,bs,hg p u c hp hu c3,bs,zE (by omega) (by omega),bs,cs]) (by grind) (hA i),bs,zE (by omega) (by omega),bs,cs]
  rw[zBD _ _ _ _ (by omega) (by omega),c4]) (by
  grind)
 grind[img]
theorem zYE{p v:Vec}(hp:p.length=k):ixO (p++a::v) (k:Int)=iF a:=by rw[vP,Jk (by omega),hp,Ke];rfl
theorem p_set{p v:Vec}{b:Int}(hp:p.length=k):(p++a::v).set k b=p++b::v:=by simp_all
theorem zM1{x:SPr}(h:Pres x)(hk:k<x.zA.length)(hc:wN (suf x (k+1))){g:SPr→List Int→List Int→Option (List Int)}(hg:FTV x (k+1) g):FTG x k (b_b g):=by
 intro p v hp hv;have h6:=h.os.1;have G:=zIj h (k:=k+1) (by omega) hc;have ok:=h.okAt (k:=k+1) (by omega);have ok0:=h.okAt (k:=k) (by omega);obtain⟨pV,aY⟩:=zEw h.os (x.zA.length-k) k v (by omega) hv;rw[yG hk]at hv ok0;obtain⟨e,t,rfl⟩:∃a0 a',v=a0::a':=by cases v with|nil=>grind|cons p q=>simp
 obtain⟨⟨e1,e2⟩,ht⟩:=hv;have ms:(lvl x k).o=at0 x.zA k:=rfl;rw[ms]at e2;have co:=(h.os.2 k hk).pos;have fN:=(zEw h.os (x.zA.length-(k+1)) (k+1) t (by omega) ht).1;have pe:=yS x (k+1);unfold b_b;have hs:yD (p++e::t) ((k+1:Nat):Int) ((p++e::t).length:Int)=iF t:=by
  unfold yD;rw[if_pos (by grind)];have e3:(p++e::t).drop (k+1)=t:=by rw[List.drop_append,U7 (by omega),hp,show k+1-k=1 from by omega];rfl
  grind[J6]
 have bv:f_F t=iF t:=by grind[f_F,yI]
 rw[zE (by omega) (by omega),bs,cs,hs,bs,bv,bs];have hz:=zX (body:=zVq k t) (r:=(p++[e])++zeros t.length) (fun i=>((p++[e])++(zeros i++t.drop i),(i:Int))) t.length (fun i hi=>by
  have hl:((p++[e])++zeros i).length=k+1+i:=by grind[yC]
  unfold zVq;simp only
  rw[yT hi,zM,zE (by omega) (by omega),bs,zE (by omega) (by omega),bs,show(k:Int)+1+(i:Int)=((k+1+i:Nat):Int)from by omega,vP,←Jj,Jk (by omega),hl,Ke,
   Hl hi,Qh,bs,zE (by omega) (by omega),bs,cs,J6,Hp _ _ (by omega),hl,Ke,Kz,zGD]
  simp) (by
  unfold zVq;simp)
 simp only[zeros,Lv,U6,K0,Jj,Li]at hz;rw[show((0:Nat):Int)=0 from rfl]at hz;rw[hz,bs,J6,zYE hp,bs,zE (by omega) (by omega),bs,bs,p_set hp,zYE hp,bs,yQ hk,bs];have eS:J1 t.length (0:Int)=zeros (suf x (k+1)).length:=by rw[pe,fN];rfl
 rw[yG hk,xD,ms];have gx:mul (suf x (k+1)) (iter (1:Int).toNat (sig (suf x (k+1)) (lvl x k)) t) (zeros (x.zA.length-(k+1)))=sig (suf x (k+1)) (lvl x k) t:=by rw[←pe];show mul _ (sig (suf x (k+1)) (lvl x k) t) _=_;exact G.oner (zCU ok0 ht)
 rw[gx,eS]
 by_cases heq:e+1=at0 x.zA k
 ·have t1:=(h.tl k hk).1
  have hw:=kG t1 hk;have hwl:=h.pl;have d7:(p++[(0:Int)]).length=k+1:=by simp[hp]
  rw[show(e+1==at0 x.zA k)=iH from by grind,zM,if_pos (by omega),bs,yO [] (by omega),bs,p_set hp];have dl:p++0::zeros (suf x (k+1)).length=(p++[0])++zeros (suf x (k+1)).length:=by simp
  rw[dl,zAA t1 hk,hg _ _ _ d7 G.ein hw,bs,G.onel hw];rw[zJR (body1:=yA9 g x k) (body2:=yAA g x k t) h hk hg ht (fun _=>rfl) (fun _ _ _=>rfl) d7 hw,bs];rw[zFd G.toMon _ _ ok0.2.2.2.1 hw,show e+1-at0 x.zA k=0 from by omega];simp only[Jj,Li];rfl
 ·have d7:(p++[e+1]).length=k+1:=by simp[hp]
  rw[show(e+1==at0 x.zA k)=iI from by grind,zQ,if_neg (by omega)];have dl:p++(e+1)::zeros (suf x (k+1)).length=(p++[e+1])++zeros (suf x (k+1)).length:=by simp
  rw[dl,zJR (body1:=yAB g x k) (body2:=yAC g x k t) h hk hg ht (fun _=>rfl) (fun _ _ _=>rfl) d7 G.ein,bs];simp only[Jj,Li];rfl
theorem zBc(h:i<n):xP n i=zeros i++1::zeros (n-(i+1)):=by
 have:zeros n=zeros i++0::zeros (n-(i+1)):=by
  simp only[zeros];rw[←Jq,Je]
  grind
 grind[xP,zDX]
theorem zFh(n:Nat):(wO n).length=n:=by simp[wO]
theorem zIk(h:i<n):(wO n).getD i []=xP n i:=by simp[wO,J3,h]
theorem zTG{x:SPr}(h:Pres x)(hk:k≤x.zA.length)(hc:wN (suf x k)){g:SPr→List Int→Int→Option (List Int)}(hg:∀j,k≤j→j<x.zA.length→FTG x j g):FTV x k (b_c g):=by
 intro p v u hp hv hu;have h6:=h.os.1;have G:=zIj h hk hc;have ok:=h.okAt hk;obtain⟨fC,dx⟩:=zEw h.os (x.zA.length-k) k u (by omega) hu;have pe:=yS x k;have hV1:∀j,j≤x.zA.length→j<x.zA.length→V (suf x j) (1::zeros (x.zA.length-(j+1))):=fun j hj mz=>by rw[yG mz];have:=(h.os.2 j mz).pos;refine⟨⟨by omega,by show 1<at0 x.zA j;omega⟩,?_⟩;rw[←yS];exact wS (h.okAt (by omega))
 have hUn:∀i,i<x.zA.length-k→V (suf x k) (xP (x.zA.length-k) i):=by grind[zCT]
 have hUs:∀c∈wO (x.zA.length-k),V (suf x k) c:=fun c hc=>by
  simp only[wO,Jl,Ln]at hc
  grind
 have hA:∀i,V (suf x k) (img (mul (suf x k)) ((wO (x.zA.length-k)).take i) (u.take i) v):=fun i=>
  jB (xJ ok) _ _ (by grind) hv
 have ia:∀i w,i<x.zA.length-k→V (suf x k) w→g x (p++w) ((k+i:Nat):Int)=iF (p++mul (suf x k) w (xP (x.zA.length-k) i)):=fun i w hi hw=>by obtain⟨q,w',h1,h2,h3,h4⟩:=zGZ i k w (by omega) hw;have h5:=hg (k+i) (by omega) (by omega) (p++q) w' (by grind) h3;rw[Jj,←h1]at h5;rw[h5,zBc hi,h1,show x.zA.length-k-(i+1)=x.zA.length-(k+i+1)from by omega,h4 w' _ h3 (hV1 (k+i) (by omega) (by omega)),Jj]
 unfold b_c;have tm:(zeros k++u).length=x.zA.length:=by grind[yC]
 have:=zX (body:=zVs g x (zeros k++u)) (r:=p++mul (suf x k) v u) (fun j=>(p++img (mul (suf x k)) ((wO (x.zA.length-k)).take (j-k)) (u.take (j-k)) v,(j:Int))) x.zA.length (fun j hj=>by
  unfold zVs;simp only
  rw[tm,yT hj,zM];rcases Jg j k with hjk|hjk
  ·have e0:ixO (zeros k++u) (j:Int)=iF 0:=by
    rw[vP,Kn (by grind)]
    grind[zeros]
   rw[e0,bs,show j-k=0 from by omega,show j+1-k=0 from by omega];rw[xL];unfold zVr;simp only
   rw[show decide ((0:Int)<0)=iI from rfl,zQ];simp only
   rw[bs,zE (by omega) (by omega),bs,cs]
  ·obtain⟨i,rfl⟩:∃i,j=k+i:=⟨j-k,by omega⟩
   have hi:i<x.zA.length-k:=by omega
   have hr:=dx i hi;rw[zM0 (by omega),bs,show k+i-k=i from by omega,show k+i+1-k=i+1 from by omega];rw[uF (S:=V (suf x k)) (fun w=>p++w) (fun w=>mul (suf x k) w (xP (x.zA.length-k) i)) (at0 u i) hr.1 (by grind[xJ]) (fun w q hw hq=>by
    unfold zVr;simp only
    rw[iL hq,zM,ia i w hi hw,bs,zE (by omega) (by omega),bs,cs]) (fun w hw=>by
    unfold zVr;simp) (hA i),bs,zE (by omega) (by omega),bs,cs]
   rw[zBD _ _ _ _ (by grind[zFh]) (by omega),zIk hi]) (by
  unfold zVs;simp only
  rw[tm,qA,zQ,Jn (by grind[zFh]),Jn (by omega),zFd G.toMon _ _ hUs hv];have hn:=normal (suf x k) ok (fun Q hQ=>(zCV Q (zJQ hQ ok) (zDa hQ hc)).toMon) u hu
  grind)
 simp only[Jca,Kd,img]at this
 grind
theorem zGh{x:SPr}(h:Pres x):∀(d k:Nat),k+d=x.zA.length→wN (suf x k)→(∀m,2*d+1≤m→FTV x k (zRW m))
 |d,k,hk,hc=>fun m hm=>by
  obtain⟨m,rfl⟩:∃m',m=m'+1:=⟨m-1,by omega⟩;refine zTG h (by omega) hc fun j hj bU=>?_
  obtain⟨m,rfl⟩:∃m',m=m'+1:=⟨m-1,by omega⟩;have dg:wN (suf x (j+1)):=by
   have:=zFg hc (j+1-k)
   grind
  exact zM1 h bU dg (zGh h (x.zA.length-(j+1)) (j+1) (by omega) dg m (by omega))
 termination_by d=>d
 decreasing_by omega
theorem zXd{x:SPr}(h:Pres x)(hk:k≤x.zA.length)(hc:wN (suf x k)):FTV x k f_c:=fun p v u hp hv hu=>
 zBA (2*(x.zA.length-k)+1) fun m hm=>zGh h (x.zA.length-k) k (by omega) hc m hm p v u hp hv hu
theorem zXe{x:SPr}(h:Pres x)(hk:k<x.zA.length)(hc:wN (suf x (k+1))):FTG x k f_b:=fun p v hp hv=>
 zBA (2*(x.zA.length-k)) fun m hm=>by obtain⟨m,rfl⟩:∃m',m=m'+1:=⟨m-1,by omega⟩;exact zM1 h hk hc (zGh h (x.zA.length-(k+1)) (k+1) (by omega) hc m (by omega)) p v hp hv
abbrev fv(k:Nat)(v:Vec):Vec:=zeros k++v
section
variable {x:SPr} (h:Pres x) {k:Nat} (hk:k≤x.zA.length) (hc:wN (suf x k))
 include h hk
theorem vJ{v:Vec}(hv:V (suf x k) v):v.length=x.zA.length-k:=(zEw h.os (x.zA.length-k) k v (by omega) hv).1
theorem zDb{v:Vec}(hv:V (suf x k) v):(fv k v).length=x.zA.length:=by grind[yC,vJ]
theorem zQo:J1 x.zA.length (0:Int)=fv k (zeros (suf x k).length):=by
 have _:=h;rw[yS];simp only[fv,zeros,Je];grind
 include hc
theorem zOz(hi:i<x.zA.length-k):V (suf x k) (xP (x.zA.length-k) i):=by
 have _:=hc;have:=yS x k;rw[←this]at hi ⊢
 exact zCT (h.okAt hk) hi
theorem zM2{p:Vec}(hp:p.length=k)(hi:i<x.zA.length-k){w:Vec}(hw:V (suf x k) w):f_b x (p++w) ((k+i:Nat):Int)=iF (p++mul (suf x k) w (xP (x.zA.length-k) i)):=by
 obtain⟨q,w',h1,h2,h3,h4⟩:=zGZ i k w (by omega) hw;have dg:wN (suf x (k+i+1)):=zFg hc (i+1);have h5:=zXe h (k:=k+i) (by omega) dg (p++q) w' (by grind) h3;have h7:V (suf x (k+i)) (1::zeros (x.zA.length-(k+i+1))):=by
  have mz:k+i<x.zA.length:=by omega
  rw[yG mz];have:=(h.os.2 (k+i) mz).pos;refine⟨⟨by omega,by show 1<at0 x.zA (k+i);omega⟩,?_⟩;rw[←yS];exact wS (h.okAt (by omega))
 grind[zBc]
theorem zIl{a b:Vec}(ha:V (suf x k) a)(hb:V (suf x k) b):f_c x (fv k a) (fv k b)=iF (fv k (mul (suf x k) a b)):=
 zXd h hk hc (zeros k) a b (yC k) ha hb
theorem zM3{a:Vec}(ha:V (suf x k) a):f_F (fv k a)=iF (fv k a):=by
 have _:=hc;have:=zDb h hk ha;have h6:=h.os.1
 grind[f_F,yI]
theorem zJi{a b:Vec}(ha:V (suf x k) a)(hb:V (suf x k) b):zVy x (fv k a) (fv k b)=iF (fv k (mul (suf x k) a b)):=by grind[zVy,zM3,zIl]
theorem zO0{c:Vec}(pJ:V (suf x k) c){e:Int}(e0:0≤e)(e1:e≤1000):zXH x (fv k c) e=iF (fv k (pw (mul (suf x k)) (zeros (suf x k).length) c e.toNat)):=by
 have h6:=h.os.1;have ok:=h.okAt hk;unfold zXH;rw[zDb h hk pJ,xF (by omega),bs,zQo h hk];rw[uF (S:=V (suf x k)) (body:=zNv x (fv k c) e) (fun u=>fv k u) (fun u=>mul (suf x k) u c) e e0 (by grind[xJ]) (fun u i hu hi=>by
  unfold zNv;simp only
  rw[iL hi,zM,zIl h hk hc hu pJ,bs,zE (by omega) (by omega),bs,cs]) (fun u hu=>by
  unfold zNv;simp) (wS ok),bs]
 rfl
theorem zM4{v:Vec}(hv:V (suf x k) v):∃w,V (suf x k) w∧mul (suf x k) v w=zeros (suf x k).length∧f_Q x (fv k v)=iF (fv k w):=by
 have h6:=h.os.1;have ok:=h.okAt hk;have G:=zIj h hk hc;have pV:=zDb h hk hv;have pe:=yS x k;unfold f_Q;rw[zM3 h hk hc hv,bs,pV,xF (by omega),bs,zQo h hk]
 let I:Nat→(List Int×List Int×Int)→Prop:=fun j s=> ∃A w,s=(fv k A,fv k w,(j:Int))∧V (suf x k) A∧V (suf x k) w∧mul (suf x k) v w=A∧ ∃A',A=zeros (j-k)++A'
 have key:=uS (body:=zVx x (fv k v)) (Q:=fun r=> ∃w,V (suf x k) w∧mul (suf x k) v w=zeros (suf x k).length∧r=fv k w) I x.zA.length (fun j s hj hI=>by
  obtain⟨A,w,rfl,hA,hw,hm,A',hA'⟩:=hI;left;unfold zVx;simp only
  rw[pV,yT hj,zM];rcases Jg j k with hjk|hjk
  ·have e0:ixO (fv k A) (j:Int)=iF 0:=by
    grind[vP,zeros]
   rw[xL];unfold zRX;simp only
   rw[e0,bs,show((0:Int) != 0)=iI from rfl,zQ];simp only
   rw[bs,zE (by omega) (by omega),bs,cs]
   grind
  ·obtain⟨i,rfl⟩:∃i,j=k+i:=⟨j-k,by omega⟩
   have hi:i<x.zA.length-k:=by omega
   rw[show k+i-k=i from by omega]at hA';have pU:=vJ h hk hA;obtain⟨a0,A',rfl⟩:∃p q,A'=p::q:=by
    cases A' with
    |nil=>grind[yC]
    |cons p q=>simp
   have co:=(h.os.2 (k+i) hj).pos;have inner:=uS (body:=zRX x (fv k A,fv k w,((k+i:Nat):Int))) (s:=(fv k A,fv k w))
    (Q:=fun r=> ∃B u,r=(fv k B,fv k u)∧V (suf x k) B∧V (suf x k) u∧mul (suf x k) v u=B∧ ∃B',B=zeros (i+1)++B')
    (fun q s=> ∃B u b B',s=(fv k B,fv k u)∧V (suf x k) B∧V (suf x k) u∧mul (suf x k) v u=B∧B=zeros i++b::B'∧(b=0∨b=a0+q)) 10 (fun q s hq hs=>by
     obtain⟨B,u,b,B',rfl,hB,hu,bS,pT,hb⟩:=hs;have hz:ixO (fv k B) ((k+i:Nat):Int)=iF b:=by rw[fv,zM0 (by grind[vJ]),pT,at0,J3,Jk (by rw[yC];omega),yC,Ke];rfl
     unfold zRX;simp only
     rw[hz,bs]
     by_cases iA:b=0
     ·subst iA
      right;rw[show((0:Int) != 0)=iI from rfl,zQ];exact⟨_,rfl,B,u,rfl,hB,hu,bS,B',by rw[pT,zCf]⟩
     ·left
      have hbq:b=a0+q:=by omega
      rw[show(b != 0)=iH from by grind,zM,zM2 h hk hc (yC k) hi hB,bs,zM2 h hk hc (yC k) hi hu,bs];have hU:=zOz h hk hc hi;obtain⟨q',v',h1,h2,h3,h4⟩:=zGZ i k B (by omega) hB;have hqv:q'=zeros i∧v'=b::B':=by grind[List.append_inj,yC]
      obtain⟨rfl,rfl⟩:=hqv;have h7:V (suf x (k+i)) (1::zeros (x.zA.length-(k+i+1))):=by rw[yG hj];refine⟨⟨by omega,by show 1<at0 x.zA (k+i);omega⟩,?_⟩;rw[←yS];exact wS (h.okAt (by omega))
      have h8:=h4 (b::B') _ h3 h7;rw[show x.zA.length-(k+i+1)=x.zA.length-k-(i+1)from by omega,←zBc hi,←h1,yG hj,xD]at h8;refine⟨_,rfl,mul (suf x k) B (xP (x.zA.length-k) i),mul (suf x k) u (xP (x.zA.length-k) i),?_⟩;have ms:(lvl x (k+i)).o=at0 x.zA (k+i):=rfl;rw[ms]at h8
      by_cases hge:b+1≥at0 x.zA (k+i)
      ·rw[if_pos hge]at h8
       refine⟨_,_,rfl,xJ ok hB hU,xJ ok hu hU,?_,h8,?_⟩
       ·rw[←G.assoc hv hu hU,bS]
       ·left
        rw[yG hj]at h3;have:=h3.1.2;omega
      ·rw[if_neg hge]at h8
       refine⟨_,_,rfl,xJ ok hB hU,xJ ok hu hU,?_,h8,?_⟩
       ·rw[←G.assoc hv hu hU,bS]
       omega) (fun s hs=>by
     obtain⟨B,u,b,B',rfl,hB,hu,bS,pT,hb⟩:=hs;have hz:ixO (fv k B) ((k+i:Nat):Int)=iF b:=by rw[fv,zM0 (by grind[vJ]),pT,at0,J3,Jk (by rw[yC];omega),yC,Ke];rfl
     have hbr:=(zEw h.os (x.zA.length-k) k B (by omega) hB).2 i hi;have ha:=(zEw h.os (x.zA.length-k) k A (by omega) hA).2 i hi;have e1:at0 B i=b:=by rw[pT,at0,J3,Jk (by grind[yC]),yC,Ke];rfl
     have e2:at0 A i=a0:=by rw[hA',at0,J3,Jk (by grind[yC]),yC,Ke];rfl
     have iA:b=0:=by omega
     subst iA;unfold zRX;simp only
     rw[hz,bs,show((0:Int) != 0)=iI from rfl,zQ];exact⟨_,rfl,B,u,rfl,hB,hu,bS,B',by rw[pT,zCf]⟩) (by grind)
   obtain⟨r,r1,B,u,rfl,hB,hu,bS,B',pT⟩:=inner;rw[r1,bs,zE (by omega) (by omega),bs,cs]
   grind) (fun s hI=>by
  obtain⟨A,w,rfl,hA,hw,hm,A',hA'⟩:=hI;unfold zVx;simp only
  rw[pV,qA,zQ];refine⟨_,rfl,w,hw,?_,rfl⟩;have pU:=vJ h hk hA;rw[hA',J9,yC]at pU
  grind) (s:=(fv k v,fv k (zeros (suf x k).length),0))
  ⟨v,_,rfl,hv,wS ok,G.oner hv,v,by rw[Jca];rfl⟩
 grind
theorem zDc{a b:Vec}(ha:V (suf x k) a)(hb:V (suf x k) b):∃c,V (suf x k) c∧mul (suf x k) b c=mul (suf x k) a b∧zVz x (fv k a) (fv k b)=iF (fv k c):=by
 have ok:=h.okAt hk;have G:=zIj h hk hc;obtain⟨w,hw,hm,h1⟩:=zM4 h hk hc hb;have di:=xJ ok ha hb;refine⟨mul (suf x k) w (mul (suf x k) a b),xJ ok hw di,?_,?_⟩
 ·rw[←G.assoc hb hw di,hm,G.onel di]
 grind[zVz,zJi]
end
theorem zEx{a b:List Int}(h:a.length≤1000000):zLz a b=iF (a==b):=
 zJP (t:=fun u v=>iF (u==v)) (body:=zVw a b) rfl (fun _=>rfl) (by omega) fun _ _ _ _=>rfl
theorem zRv{a b:List Int}(h:a.length≤1000000):zLy a b=iF (a==b):=zEx h
theorem zM5{body:Int→Option (Int⊕(Unit⊕ρ))}(n i0:Nat)(hn:i0≤n)(P:Nat→Prop)(B:ρ→Prop)
  (h:∀i,i0≤i→i<n→(∀j,i0≤j→j<i→P j)→(body (i:Int)=iF (.inl ((i+1:Nat):Int))∧P i)∨(∃r,body (i:Int)=iF (.inr (.inr r))∧B r∧ ¬P i))
  (he:body (n:Int)=iF (.inr (.inl ()))):
  (zI body (i0:Int)=iF (.inl ())∧ ∀j,i0≤j→j<n→P j)∨ ∃r i,i0≤i∧i<n∧zI body (i0:Int)=iF (.inr r)∧B r∧ ¬P i:=by
 have key:∀k i,i0≤i→i+k=n→(∀j,i0≤j→j<i→P j)→(zI body (i:Int)=iF (.inl ())∧ ∀j,i0≤j→j<n→P j)∨ ∃r q,i0≤q∧q<n∧zI body (i:Int)=iF (.inr r)∧B r∧ ¬P q:=by
  intro k
  induction k with
  |zero=>
   intro i hi hk hp;obtain rfl:i=n:=by omega
   grind[xL]
  |succ k ih=>
   intro i hi hk hp;rcases h i hi (by omega) hp with⟨h1,h2⟩|⟨r,h1,h2,h3⟩
   ·have:=ih (i+1) (by omega) (by omega) (by grind)
    rw[xL,h1];exact this
   ·exact .inr ⟨r,i,hi,by omega,by rw[xL,h1],h2,h3⟩
 exact key (n-i0) i0 (Jh _) (by omega) fun j a b=>by omega
theorem zIm{σ ρ:Type}{body:σ→Option (σ⊕ρ)}{Q:ρ→Prop}(I:σ→Prop)(m:σ→Nat)
  (h:∀s,I s→(∃s',body s=iF (.inl s')∧I s'∧m s'<m s)∨ ∃r,body s=iF (.inr r)∧Q r):∀(k:Nat)(s:σ),m s≤k→I s→ ∃r,zI body s=iF r∧Q r
 |k,s,hk,hs=>by
  rcases h s hs with⟨s',h1,h2,h3⟩|⟨r,h1,h2⟩
  ·cases k with
   |zero=>omega
   |succ k=>
    obtain⟨r,h4,h5⟩:=zIm I m h k s' (by omega) h2
    grind[xL]
  grind[xL]
theorem zZT{a b:Vec}:(fv k a==fv k b)=iH↔a=b:=by simp
theorem zDd{x:SPr}(h:Exp x.zA v i)(hk:k≤i+1)(hn:k≤x.zA.length):v=fv k (v.drop k)∧V (suf x k) (v.drop k):=by
 have h1:=h.1.1;constructor
 ·apply Km
  intro j;rw[fv,Ki];simp only[zeros,Jc,Kb,Hq];split
  ·rename_i hj
   have h2:=h.2 j (by omega)
   grind
  grind
 ·refine zZS (x.zA.length-k) k _ (by omega) (by grind) fun j hj=>?_
  have:=h.1.2 (k+j) (by omega)
  grind
structure LC (x:SPr) (k:Nat):Prop where
 c1:∀j,k+1≤j→j<x.zA.length→pw (mul (suf x (k+1))) (zeros (suf x (k+1)).length) ((lvl x k).cs.getD (j-(k+1)) []) (at0 x.zA j).toNat=sig (suf x (k+1)) (lvl x k) ((x.zV.getD j []).drop (k+1))
 c2:∀i,k+1≤i→i<x.zA.length→ ∀j,i+1≤j→j<x.zA.length→
  mul (suf x (k+1)) ((lvl x k).cs.getD (j-(k+1)) []) ((lvl x k).cs.getD (i-(k+1)) [])=mul (suf x (k+1)) ((lvl x k).cs.getD (i-(k+1)) []) (sig (suf x (k+1)) (lvl x k) (((x.zG.getD i []).getD (j-(i+1)) []).drop (k+1)))
 c3:sig (suf x (k+1)) (lvl x k) (lvl x k).w=(lvl x k).w
 c4:∀j,k+1≤j→j<x.zA.length→mul (suf x (k+1)) (lvl x k).w (iter (lvl x k).o.toNat (sig (suf x (k+1)) (lvl x k)) (xP (x.zA.length-(k+1)) (j-(k+1))))=mul (suf x (k+1)) (xP (x.zA.length-(k+1)) (j-(k+1))) (lvl x k).w
section
variable {x:SPr} (h:Pres x) {k:Nat} (hk:k<x.zA.length) (hc:wN (suf x (k+1)))
 include h hk
theorem zAj(h1:k+1≤j)(h2:j<x.zA.length):ixO x.zG (k:Int)=iF (x.zG.getD k [])∧ixO (x.zG.getD k []) ((j:Int)-(k:Int)-1)=iF (fv (k+1) ((lvl x k).cs.getD (j-(k+1)) []))∧V (suf x (k+1)) ((lvl x k).cs.getD (j-(k+1)) []):=by
 obtain⟨c,c1,c2,c3,c4⟩:=zFf h hk (i:=j-(k+1)) (by omega)
 grind
theorem zTH(h1:k+1≤j)(h2:j<x.zA.length):ixO x.zV (j:Int)=iF (fv (k+1) ((x.zV.getD j []).drop (k+1)))∧V (suf x (k+1)) ((x.zV.getD j []).drop (k+1)):=by
 have t1:=(h.tl j h2).1;have hl:=h.pl
 grind[zDd,yO]
theorem zTI(h1:k+1≤i)(h2:i+1≤j)(h3:j<x.zA.length):ixO x.zG (i:Int)=iF (x.zG.getD i [])∧ixO (x.zG.getD i []) ((j:Int)-(i:Int)-1)=iF (fv (k+1) (((x.zG.getD i []).getD (j-(i+1)) []).drop (k+1)))∧V (suf x (k+1)) (((x.zG.getD i []).getD (j-(i+1)) []).drop (k+1)):=by
 obtain⟨_,t2,t3⟩:=h.tl i (by omega)
 grind[zDd,yO]
theorem zZU:ixO x.zV (k:Int)=iF (fv (k+1) (lvl x k).w)∧V (suf x (k+1)) (lvl x k).w:=by have t1:=(h.tl k hk).1;have hl:=h.pl;obtain⟨e1,e2⟩:=zDd (k:=k+1) t1 (by omega) (by omega);exact⟨by rw[yO [] (by omega)];exact congrArg iF e1,e2⟩
theorem zYF{v:Vec}(hv:V (suf x (k+1)) v):V (suf x (k+1)) (sig (suf x (k+1)) (lvl x k) v):=by
 have ok0:=h.okAt (k:=k) (by omega)
 grind[yG,zCU]
theorem zJS(h1:k+1≤j)(h2:j<x.zA.length):zL0 (x.zA.length:Int) (j:Int)=iF (fv (k+1) (xP (x.zA.length-(k+1)) (j-(k+1)))):=by
 have h6:=h.os.1;unfold zL0;rw[xF (by omega),bs,vP,Kb,if_pos h2,bs,J6]
 congr 1
 rw[fv,zBc (by omega),←Jj];have e1:zeros (k+1)++zeros (j-(k+1))=zeros j:=by grind[zeros,Je]
 have e2:J1 x.zA.length (0:Int)=zeros j++0::zeros (x.zA.length-(j+1)):=by simp only[zeros];rw[←Jq,Je];grind
 grind[zDX]
theorem zRw(h1:k+1≤j)(h2:j<x.zA.length):yA6 (x.zA.length:Int) (j:Int)=iF (fv (k+1) (xP (x.zA.length-(k+1)) (j-(k+1)))):=zJS h hk h1 h2
 include hc
theorem zA6{v:Vec}(hv:V (suf x (k+1)) v):f_J x k (fv (k+1) v)=iF (fv (k+1) (sig (suf x (k+1)) (lvl x k) v)):=by
 have h6:=h.os.1;have ok:=h.okAt (k:=k+1) (by omega);have ok0:=h.okAt (k:=k) (by omega);rw[yG hk]at ok0;obtain⟨pV,aY⟩:=zEw h.os (x.zA.length-(k+1)) (k+1) v (by omega) hv;have gC:(lvl x k).cs.length=x.zA.length-(k+1):=by rw[ok0.2.2.1,yS]
 have t2:=(h.tl k hk).2.1;have iq:=h.cl;have hA:∀i,V (suf x (k+1)) (img (mul (suf x (k+1))) ((lvl x k).cs.take i) (v.take i) (zeros (suf x (k+1)).length)):=fun i=>
  jB (xJ ok) _ _ (fun c hc=>ok0.2.2.2.1 c (by grind)) (wS ok)
 unfold f_J;rw[zDb h (by omega) hv,xF (by omega),bs,yO [] (by omega),bs,zQo h (k:=k+1) (by omega)];have:=zX (body:=zVv x k (fv (k+1) v) (x.zG.getD k [])) (r:=fv (k+1) (sig (suf x (k+1)) (lvl x k) v))
  (fun i=>(fv (k+1) (img (mul (suf x (k+1))) ((lvl x k).cs.take i) (v.take i) (zeros (suf x (k+1)).length)),(i:Int))) (x.zG.getD k []).length (fun i hi=>by
  have hr:=aY i (by omega);obtain⟨c,c1,c2,c3,c4⟩:=zFf h hk (i:=i) (by omega);unfold zVv;simp only
  rw[yT hi,zM,c2,bs,zE (by omega) (by omega),bs,zE (by omega) (by omega),bs,show(k:Int)+1+(i:Int)=((k+1+i:Nat):Int)from by omega,fv,zM0 (by omega),bs];rw[uF (S:=V (suf x (k+1))) (body:=zVu x (zeros (k+1)++c) (at0 v i)) (fun u=>fv (k+1) u) (fun u=>mul (suf x (k+1)) u c) (at0 v i) hr.1 (by grind[xJ]) (fun u q hu hq=>by
   unfold zVu;simp only
   rw[iL hq,zM,zIl h (by omega) hc hu c3,bs,zE (by omega) (by omega),bs,cs]) (fun u hu=>by
   unfold zVu;simp) (hA i),bs,zE (by omega) (by omega),bs,cs]
  rw[zBD _ _ _ _ (by omega) (by omega),c4]) (by
  unfold zVv;simp only
  rw[qA,zQ,Jn (by omega),Jn (by omega)];rfl)
 simp only[Kd,img]at this
 grind
theorem zDe{a b:Vec}(ha:V (suf x (k+1)) a):IsB (zLz (fv (k+1) a) (fv (k+1) b)) (a=b):=by
 have _:=hc;have h6:=h.os.1
 grind[zEx,zDb,IsB.of_bool,zZT]
theorem zM6{c:Vec}(pJ:V (suf x (k+1)) c){e:Int}(e0:0≤e)(e1:e≤1000):zXD x ((k+1:Nat):Int) (fv (k+1) c) e=iF (fv (k+1) (pw (mul (suf x (k+1))) (zeros (suf x (k+1)).length) c e.toNat)):=by
 have h6:=h.os.1;have ok:=h.okAt (k:=k+1) (by omega);have G:=zIj h (k:=k+1) (by omega) hc;have hA:=zQn h (k:=k+1) (by omega);have pwV:∀a,V (suf x (k+1)) (pw (mul (suf x (k+1))) (zeros (suf x (k+1)).length) c a):=fun a=>tX G.toMon pJ a
 unfold zXD;rw[xF (by omega),bs,zQo h (k:=k+1) (by omega)];obtain⟨r,r1,r2⟩:=zIm (body:=zQS x ((k+1:Nat):Int)) (Q:=fun r=>r=fv (k+1) (pw (mul (suf x (k+1))) (zeros (suf x (k+1)).length) c e.toNat))
  (fun s=> ∃(m a q:Nat),s=((m:Int),fv (k+1) (pw (mul (suf x (k+1))) (zeros (suf x (k+1)).length) c a),fv (k+1) (pw (mul (suf x (k+1))) (zeros (suf x (k+1)).length) c q))∧a+q*m=e.toNat∧m≤1000) (fun s=>s.1.toNat) (fun s ⟨m,a,q,hs,he,hm⟩=>by
   subst hs;unfold zQS;simp only
   by_cases hm0:m=0
   ·grind
   ·left
    have hr:tV (m:Int) 2=iF ((m%2:Nat):Int):=by rfl
    have hq:sK (m:Int) 2=iF ((m/2:Nat):Int):=by
     unfold sK;rw[if_neg (by decide),Int.tdiv_eq_ediv_of_nonneg (by omega)]
     grind[zE]
    have br:=L4 m 2;have ab:mul (suf x (k+1)) (pw (mul (suf x (k+1))) (zeros (suf x (k+1)).length) c q) (pw (mul (suf x (k+1))) (zeros (suf x (k+1)).length) c q)=pw (mul (suf x (k+1))) (zeros (suf x (k+1)).length) c (q+q):=(zHY G.toMon pJ q q).symm;rw[iL (by omega),zM,hr,bs];rcases Nat.mod_two_eq_zero_or_one m with h2|h2
    ·rw[h2,show((((0:Nat):Int))==1)=iI from rfl,zQ,hA _ _ (pwV q) (pwV q),bs,hq,bs,ab]
     refine⟨_,rfl,⟨m/2,a,q+q,rfl,?_,by omega⟩,by omega⟩
     grind
    ·rw[h2,show((((1:Nat):Int))==1)=iH from rfl,zM,hA _ _ (pwV a) (pwV q),bs,hA _ _ (pwV q) (pwV q),bs,hq,bs,ab,←zHY G.toMon pJ a q]
     refine⟨_,rfl,⟨m/2,a+q,q+q,rfl,?_,by omega⟩,by omega⟩
     grind) 1000000 (e,fv (k+1) (zeros (suf x (k+1)).length),fv (k+1) c) (by omega) ⟨e.toNat,0,1,by rw[zT6 G.toMon pJ,show((e.toNat:Nat):Int)=e from by omega];rfl,by omega,by omega⟩
 grind
end
def yCk(o:Option xM)(P:Prop):Prop:=(o=iF (xM.mk 0 0 0 0)∧P)∨ ∃r,o=iF r∧r.Kind≠0∧ ¬P
theorem kb{b c d:Int}(h:a≠0):(xM.mk a b c d).Kind≠0:=h
abbrev KB(r:xM):Prop:=r.Kind≠0
theorem zBE{bad:xM}{g:Option (Int⊕(Unit⊕xM))}(h:IsB o P)(hi:i<9223372036854775807)(hbad:bad.Kind≠0)
  (hg:g=o.bind fun r=>cond (!r) (iF (.inr (.inr bad))) ((rng ((i:Int)+1)).bind fun v=>iF (.inl v))):(g=iF (.inl ((i+1:Nat):Int))∧P)∨(∃r,g=iF (.inr (.inr r))∧KB r∧ ¬P):=by
 rcases tC h hi hg with h|⟨h1,h2⟩
 all_goals grind
section
variable {x:SPr} (h:Pres x) {k:Nat} (hk:k<x.zA.length) (hc:wN (suf x (k+1)))
 include h hk hc
theorem zIn:yCk (f_o x k) (LC x k):=by
 have h6:=h.os.1;have ok:=h.okAt (k:=k+1) (by omega);have G:=zIj h (k:=k+1) (by omega) hc;obtain⟨w1,w2⟩:=zZU h hk;have p5:∀v,V (suf x (k+1)) v→V (suf x (k+1)) (sig (suf x (k+1)) (lvl x k) v):=by grind[zYF]
 unfold f_o;rw[zE (by omega) (by omega),bs,cs];rcases zM5 (body:=zV0 x k) x.zA.length (k+1) (by omega) (fun j=>pw (mul (suf x (k+1))) (zeros (suf x (k+1)).length) ((lvl x k).cs.getD (j-(k+1)) []) (at0 x.zA j).toNat=sig (suf x (k+1)) (lvl x k) ((x.zV.getD j []).drop (k+1))) KB (fun j h1 h2 _=>by
   obtain⟨c1,c2,c3⟩:=zAj h hk h1 h2;obtain⟨p1,p2⟩:=zTH h hk h1 h2;have co:=(h.os.2 j h2).pos;refine zBE (zDe h hk hc (tX G.toMon c3 (at0 x.zA j).toNat)) (by omega) (bad:=xM.mk 1 k j 0) (kb (by decide)) ?_;unfold zV0;rw[yT h2,zM,c1,bs,zE (by omega) (by omega),bs,zE (by omega) (by omega),bs,c2,bs,yQ h2,bs,zO0 h (by omega) hc c3 (by omega) (by omega),bs,p1,bs,zA6 h hk hc p2,bs]) (by
   unfold zV0;simp)with⟨g1,g2⟩|⟨r,j,j1,j2,g1,g2,g3⟩
 rotate_left
 ·rw[g1,bs]
  exact .inr ⟨r,rfl,g2,fun q=>g3 (q.c1 j j1 j2)⟩
 rw[g1,bs];simp only
 rw[bs];rcases zM5 (body:=zV2 x k) x.zA.length (k+1) (by omega) (fun i=> ∀j,i+1≤j→j<x.zA.length→
   mul (suf x (k+1)) ((lvl x k).cs.getD (j-(k+1)) []) ((lvl x k).cs.getD (i-(k+1)) [])=mul (suf x (k+1)) ((lvl x k).cs.getD (i-(k+1)) []) (sig (suf x (k+1)) (lvl x k) (((x.zG.getD i []).getD (j-(i+1)) []).drop (k+1)))) KB (fun i h1 h2 _=>by
   obtain⟨c1,c2,c3⟩:=zAj h hk h1 h2;unfold zV2;rw[yT h2,zM,zE (by omega) (by omega),bs,cs];rcases zM5 (body:=zV1 x k i) x.zA.length (i+1) (by omega) (fun j=>mul (suf x (k+1)) ((lvl x k).cs.getD (j-(k+1)) []) ((lvl x k).cs.getD (i-(k+1)) [])=mul (suf x (k+1)) ((lvl x k).cs.getD (i-(k+1)) []) (sig (suf x (k+1)) (lvl x k) (((x.zG.getD i []).getD (j-(i+1)) []).drop (k+1)))) KB (fun j h3 h4 _=>by
     obtain⟨d1,d2,d3⟩:=zAj h hk (j:=j) (by omega) h4;obtain⟨e1,e2,e3⟩:=zTI h hk h1 h3 h4;obtain⟨q,q1,q2,q3⟩:=zDc h (by omega) hc d3 c3;refine zBE ((zDe h hk hc (b:=sig (suf x (k+1)) (lvl x k) (((x.zG.getD i []).getD (j-(i+1)) []).drop (k+1))) q1).iff (Q:=mul (suf x (k+1)) ((lvl x k).cs.getD (j-(k+1)) []) ((lvl x k).cs.getD (i-(k+1)) [])=mul (suf x (k+1)) ((lvl x k).cs.getD (i-(k+1)) []) (sig (suf x (k+1)) (lvl x k) (((x.zG.getD i []).getD (j-(i+1)) []).drop (k+1)))) ?_) (by omega) (bad:=xM.mk 2 k i j) (kb (by decide)) ?_
     ·exact⟨by grind,fun e=>G.cancel_l c3 q1 (p5 _ e3) (by rw[q2,e])⟩
     ·unfold zV1
      rw[yT h4,zM,d1,bs,zE (by omega) (by omega),bs,zE (by omega) (by omega),bs,d2,bs,bs,zE (by omega) (by omega),bs,zE (by omega) (by omega),bs,c2,bs,q3,bs,e1,bs,zE (by omega) (by omega),bs,zE (by omega) (by omega),bs,e2,bs,zA6 h hk hc e3,bs]) (by
     unfold zV1;simp)with⟨g1,g2⟩|⟨r,j,j1,j2,g1,g2,g3⟩
   ·grind
   grind) (by
   unfold zV2;simp)with⟨k1,k2⟩|⟨r,j,j1,j2,k1,k2,k3⟩
 rotate_left
 ·rw[k1,bs]
  exact .inr ⟨r,rfl,k2,fun q=>k3 (q.c2 j j1 j2)⟩
 rw[k1,bs];simp only
 rw[w1,bs,zA6 h hk hc w2,bs];rcases zDe h hk hc (b:=(lvl x k).w) (p5 _ w2)with⟨m1,m2⟩|⟨m1,m2⟩
 rotate_left
 ·rw[m1,bs,K7,zM]
  exact .inr ⟨_,rfl,kb (by decide),fun q=>m2 q.c3⟩
 rw[m1,bs,Ji,zQ,bs];rcases zM5 (body:=zV4 x k (fv (k+1) (lvl x k).w)) x.zA.length (k+1) (by omega) (fun j=>mul (suf x (k+1)) (lvl x k).w (iter (lvl x k).o.toNat (sig (suf x (k+1)) (lvl x k)) (xP (x.zA.length-(k+1)) (j-(k+1))))=mul (suf x (k+1)) (xP (x.zA.length-(k+1)) (j-(k+1))) (lvl x k).w) KB (fun j h1 h2 _=>by
   have hU:=zOz h (k:=k+1) (by omega) hc (i:=j-(k+1)) (by omega);have co:=(h.os.2 k hk).pos;obtain⟨q,q1,q2,q3⟩:=zDc h (k:=k+1) (by omega) hc hU w2;have eh:V (suf x (k+1)) (iter (lvl x k).o.toNat (sig (suf x (k+1)) (lvl x k)) (xP (x.zA.length-(k+1)) (j-(k+1)))):=vW p5 _ hU;refine zBE ((zDe h hk hc (b:=q) eh).iff ⟨by grind,fun e=>G.cancel_l w2 eh q1 (by rw[e,q2])⟩) (by omega) (bad:=xM.mk 4 k j 0) (kb (by decide)) ?_;unfold zV4;rw[yT h2,zM,zJS h hk h1 h2,bs,yQ hk,bs];rw[uF (S:=V (suf x (k+1))) (body:=zV3 x k (at0 x.zA k)) (fun u=>fv (k+1) u) (sig (suf x (k+1)) (lvl x k)) (at0 x.zA k) (by omega) p5 (fun u i hu hi=>by
    unfold zV3;simp only
    rw[iL hi,zM,zA6 h hk hc hu,bs,zE (by omega) (by omega),bs,cs]) (fun u hu=>by
    unfold zV3;simp) hU,bs,bs,q3,bs]
   rfl) (by
   unfold zV4;simp)with⟨n1,n2⟩|⟨r,j,j1,j2,n1,n2,n3⟩
 ·rw[n1,bs]
  exact .inl ⟨rfl,⟨g2,k2,m2,n2⟩⟩
 ·rw[n1,bs]
  exact .inr ⟨r,rfl,n2,fun q=>n3 (q.c4 j j1 j2)⟩
theorem zO1:yCk (f_p x k) (LC x k):=by
 have h6:=h.os.1;have ok:=h.okAt (k:=k+1) (by omega);have G:=zIj h (k:=k+1) (by omega) hc;obtain⟨w1,w2⟩:=zZU h hk;have hA:=zQn h (k:=k+1) (by omega);have hI:=zOx h hk;have p5:∀v,V (suf x (k+1)) v→V (suf x (k+1)) (sig (suf x (k+1)) (lvl x k) v):=by grind[zYF]
 have eqB:∀{a b:Vec},V (suf x (k+1)) a→IsB (zLy (fv (k+1) a) (fv (k+1) b)) (a=b):=fun ha=>zDe h hk hc ha
 unfold f_p;rw[zE (by omega) (by omega),bs,cs];rcases zM5 (body:=zUX x k) x.zA.length (k+1) (by omega) (fun j=>pw (mul (suf x (k+1))) (zeros (suf x (k+1)).length) ((lvl x k).cs.getD (j-(k+1)) []) (at0 x.zA j).toNat=sig (suf x (k+1)) (lvl x k) ((x.zV.getD j []).drop (k+1))) KB (fun j h1 h2 _=>by
   obtain⟨c1,c2,c3⟩:=zAj h hk h1 h2;obtain⟨p1,p2⟩:=zTH h hk h1 h2;have co:=(h.os.2 j h2).pos;refine zBE (eqB (tX G.toMon c3 (at0 x.zA j).toNat)) (by omega) (bad:=xM.mk 1 k j 0) (kb (by decide)) ?_;unfold zUX;rw[yT h2,zM,zE (by omega) (by omega),bs,cs,c1,bs,zE (by omega) (by omega),bs,zE (by omega) (by omega),bs,c2,bs,yQ h2,bs,zM6 h hk hc c3 (by omega) (by omega),bs,p1,bs,hI _ p2,bs]) (by
   unfold zUX;simp)with⟨g1,g2⟩|⟨r,j,j1,j2,g1,g2,g3⟩
 rotate_left
 ·rw[g1,bs]
  exact .inr ⟨r,rfl,g2,fun q=>g3 (q.c1 j j1 j2)⟩
 rw[g1,bs];simp only
 rw[bs];rcases zM5 (body:=zUZ x k) x.zA.length (k+1) (by omega) (fun i=> ∀j,i+1≤j→j<x.zA.length→
   mul (suf x (k+1)) ((lvl x k).cs.getD (j-(k+1)) []) ((lvl x k).cs.getD (i-(k+1)) [])=mul (suf x (k+1)) ((lvl x k).cs.getD (i-(k+1)) []) (sig (suf x (k+1)) (lvl x k) (((x.zG.getD i []).getD (j-(i+1)) []).drop (k+1)))) KB (fun i h1 h2 _=>by
   obtain⟨c1,c2,c3⟩:=zAj h hk h1 h2;unfold zUZ;rw[yT h2,zM,zE (by omega) (by omega),bs,cs];rcases zM5 (body:=zUY x k i) x.zA.length (i+1) (by omega) (fun j=>mul (suf x (k+1)) ((lvl x k).cs.getD (j-(k+1)) []) ((lvl x k).cs.getD (i-(k+1)) [])=mul (suf x (k+1)) ((lvl x k).cs.getD (i-(k+1)) []) (sig (suf x (k+1)) (lvl x k) (((x.zG.getD i []).getD (j-(i+1)) []).drop (k+1)))) KB (fun j h3 h4 _=>by
     obtain⟨d1,d2,d3⟩:=zAj h hk (j:=j) (by omega) h4;obtain⟨e1,e2,e3⟩:=zTI h hk h1 h3 h4;refine zBE (eqB (xJ ok d3 c3)) (by omega) (bad:=xM.mk 2 k i j) (kb (by decide)) ?_;unfold zUY;rw[yT h4,zM,d1,bs,zE (by omega) (by omega),bs,zE (by omega) (by omega),bs,c2,bs,bs,zE (by omega) (by omega),bs,zE (by omega) (by omega),bs,d2,bs,e1,bs,zE (by omega) (by omega),bs,zE (by omega) (by omega),bs,e2,bs,hI _ e3,bs,zE (by omega) (by omega),bs,cs,hA _ _ d3 c3,bs,bs,hA _ _ c3 (p5 _ e3),bs]) (by
     unfold zUY;simp)with⟨g1,g2⟩|⟨r,j,j1,j2,g1,g2,g3⟩
   ·grind
   grind) (by
   unfold zUZ;simp)with⟨k1,k2⟩|⟨r,j,j1,j2,k1,k2,k3⟩
 rotate_left
 ·rw[k1,bs]
  exact .inr ⟨r,rfl,k2,fun q=>k3 (q.c2 j j1 j2)⟩
 rw[k1,bs];simp only
 rw[w1,bs,hI _ w2,bs];rcases eqB (b:=(lvl x k).w) (p5 _ w2)with⟨m1,m2⟩|⟨m1,m2⟩
 rotate_left
 ·rw[m1,bs,K7,zM]
  exact .inr ⟨_,rfl,kb (by decide),fun q=>m2 q.c3⟩
 rw[m1,bs,Ji,zQ,bs];rcases zM5 (body:=zVb x k (fv (k+1) (lvl x k).w)) x.zA.length (k+1) (by omega) (fun j=>mul (suf x (k+1)) (lvl x k).w (iter (lvl x k).o.toNat (sig (suf x (k+1)) (lvl x k)) (xP (x.zA.length-(k+1)) (j-(k+1))))=mul (suf x (k+1)) (xP (x.zA.length-(k+1)) (j-(k+1))) (lvl x k).w) KB (fun j h1 h2 _=>by
   have hU:=zOz h (k:=k+1) (by omega) hc (i:=j-(k+1)) (by omega);have co:=(h.os.2 k hk).pos;have eh:V (suf x (k+1)) (iter (lvl x k).o.toNat (sig (suf x (k+1)) (lvl x k)) (xP (x.zA.length-(k+1)) (j-(k+1)))):=vW p5 _ hU;refine zBE (eqB (xJ ok w2 eh)) (by omega) (bad:=xM.mk 4 k j 0) (kb (by decide)) ?_;unfold zVb;rw[yT h2,zM,zRw h hk h1 h2,bs];rw[uF (S:=V (suf x (k+1))) (body:=zVa x k) (fun u=>fv (k+1) u) (sig (suf x (k+1)) (lvl x k)) (at0 x.zA k) (by omega) p5 (fun u i hu hi=>by
    unfold zVa;simp only
    rw[yQ hk,bs,iL hi,zM,hI _ hu,bs,zE (by omega) (by omega),bs,cs]) (fun u hu=>by
    unfold zVa;simp only
    rw[yQ hk,bs,iJ (by omega),zQ]) hU,bs,zE (by omega) (by omega),bs,cs]
   have ho:(lvl x k).o=at0 x.zA k:=rfl;rw[←ho,hA _ _ w2 eh,bs,bs,hA _ _ hU w2,bs]) (by
   unfold zVb;simp)with⟨n1,n2⟩|⟨r,j,j1,j2,n1,n2,n3⟩
 ·rw[n1,bs]
  exact .inl ⟨rfl,⟨g2,k2,m2,n2⟩⟩
 ·rw[n1,bs]
  exact .inr ⟨r,rfl,n2,fun q=>n3 (q.c4 j j1 j2)⟩
end
theorem zGi{m:Vec→Vec→Vec}:∀(i:Nat)(cs:List Vec)(w acc:Vec),i≤cs.length→img m cs (zeros i++w) acc=img m (cs.drop i) w acc
 |0,cs,w,acc,_=>rfl
 |i+1,[],w,acc,h=>by simp at h
 |i+1,c::cs,w,acc,h=>by show img m (c::cs) (0::(zeros i++w)) acc=_;simp only[img,Gk,iter,List.drop_succ_cons];exact zGi i cs w acc (by grind)
theorem zIo{x:SPr}(h:Exp x.zA v j)(hj:j<x.zA.length)(hk:k≤j+1):v.drop k=zeros (j+1-k)++v.drop (j+1):=by
 have:=zAA h hj
 grind[zeros]
section
variable {x:SPr} (h:zDW x) {k:Nat} (hk:k<x.zA.length)
 include h hk
theorem zAB:(lvl x k).cs.length=x.zA.length-(k+1):=by have ok0:=h.okAt (k:=k) (by omega);rw[yG hk]at ok0;rw[ok0.2.2.1,yS]
theorem zXf(h1:k+1≤j)(h2:j<x.zA.length):sig (suf x (k+1)) (lvl x k) ((x.zV.getD j []).drop (k+1))=img (mul (suf x (k+1))) ((lvl x k).cs.drop (j-k)) (lvl x j).w (zeros (suf x (k+1)).length):=by have t1:=(h.tl j h2).1;have gC:=zAB h hk;rw[zIo t1 h2 (by omega),sig,zGi _ _ _ _ (by omega),show j+1-(k+1)=j-k from by omega];rfl
theorem zQp:∀(d i:Nat),k+1+i+d=x.zA.length→(Rel (mul (suf x (k+1))) (zeros (suf x (k+1)).length) (suf x (k+1+i)) ((lvl x k).cs.drop i)↔
  (∀j,k+1+i≤j→j<x.zA.length→pw (mul (suf x (k+1))) (zeros (suf x (k+1)).length) ((lvl x k).cs.getD (j-(k+1)) []) (at0 x.zA j).toNat=sig (suf x (k+1)) (lvl x k) ((x.zV.getD j []).drop (k+1)))∧
  (∀a,k+1+i≤a→a<x.zA.length→ ∀j,a+1≤j→j<x.zA.length→
   mul (suf x (k+1)) ((lvl x k).cs.getD (j-(k+1)) []) ((lvl x k).cs.getD (a-(k+1)) [])=mul (suf x (k+1)) ((lvl x k).cs.getD (a-(k+1)) []) (sig (suf x (k+1)) (lvl x k) (((x.zG.getD a []).getD (j-(a+1)) []).drop (k+1)))))
 |0,i,hi=>by
  have gC:=zAB h hk;rw[vX (x:=x) (k:=k+1+i) (by omega),U7 (by omega)];simp only[Rel,true_iff]
  grind
 |d+1,i,hi=>by
  have gC:=zAB h hk;have ih:=zQp d (i+1) (by omega);rw[show k+1+(i+1)=k+1+i+1 from by omega]at ih;have hj:k+1+i<x.zA.length:=by omega
  have hg:(lvl x k).cs.drop i=(lvl x k).cs.getD i []::(lvl x k).cs.drop (i+1):=by rw[Hl (by omega),J3,J5 (by omega)];rfl
  rw[yG hj,hg];simp only[Rel];rw[ih];have e1:=zXf h hk (j:=k+1+i) (by omega) hj;rw[show k+1+i-k=i+1 from by omega]at e1;have ho:(lvl x (k+1+i)).o=at0 x.zA (k+1+i):=rfl;rw[ho,←e1];have e2:∀j,k+1+i+1≤j→j<x.zA.length→ ∀dd,(lvl x (k+1+i)).cs[j-(k+1+i+1)]? =iF dd→img (mul (suf x (k+1))) ((lvl x k).cs.drop (i+1)) dd (zeros (suf x (k+1)).length)=sig (suf x (k+1)) (lvl x k) (((x.zG.getD (k+1+i) []).getD (j-(k+1+i+1)) []).drop (k+1)):=fun j h1 h2 dd hdd=>by
   obtain⟨_,t2,t3⟩:=h.tl (k+1+i) hj;have t:=t3 (j-(k+1+i+1)) (by omega);rw[zIo t hj (by omega),sig,zGi _ _ _ _ (by omega),show k+1+i+1-(k+1)=i+1 from by omega]
   congr 1
   simp only[lvl,K3,Ko]at hdd
   grind
  have e3:∀j,k+1+i+1≤j→j<x.zA.length→((lvl x k).cs.drop (i+1))[j-(k+1+i+1)]? =iF ((lvl x k).cs.getD (j-(k+1)) [])∧ ∃dd,(lvl x (k+1+i)).cs[j-(k+1+i+1)]? =iF dd:=fun j h1 h2=>by
   have iq:=zAB h hj;refine⟨?_,?_⟩
   ·rw[Hq,show i+1+(j-(k+1+i+1))=j-(k+1)from by omega,J3,J5 (by omega)];rfl
   ·exact⟨_,J5 (by omega)⟩
  constructor
  ·rintro⟨a1,a2,a3,a4⟩
   refine⟨fun j h1 h2=>?_,fun a h1 h2 j h3 h4=>?_⟩
   ·rcases Jg (k+1+i) j with gH|hge
    ·grind
    ·obtain rfl:j=k+1+i:=by omega
     rw[show k+1+i-(k+1)=i from by omega];exact a1
   ·rcases Jg (k+1+i) a with gH|hge
    ·exact a4 a (by omega) h2 j h3 h4
    ·obtain rfl:a=k+1+i:=by omega
     obtain⟨f1,dd,f2⟩:=e3 j (by omega) h4;have:=a2 _ _ _ f1 f2;rw[e2 j (by omega) h4 dd f2]at this;rw[show k+1+i-(k+1)=i from by omega];exact this
  ·rintro⟨a1,a2⟩
   refine⟨?_,fun kk c dd h1 h2=>?_,by grind,by grind⟩
   ·have:=a1 (k+1+i) (by omega) hj
    rw[show k+1+i-(k+1)=i from by omega]at this;exact this
   ·have gH:kk<x.zA.length-(k+1+i+1):=by
     have:=(Jv.1 h1).1;rw[Kr]at this;omega
    have g:=a2 (k+1+i) (by omega) hj (k+1+i+1+kk) (by omega) (by omega);obtain⟨f1,_⟩:=e3 (k+1+i+1+kk) (by omega) (by omega);rw[show k+1+i+1+kk-(k+1+i+1)=kk from by omega]at f1 g;rw[h1]at f1;have f1:=Hu.inj f1;have g2:=e2 (k+1+i+1+kk) (by omega) (by omega) dd (by rw[show k+1+i+1+kk-(k+1+i+1)=kk from by omega];exact h2);rw[show k+1+i+1+kk-(k+1+i+1)=kk from by omega]at g2;rw[g2,f1];rw[show k+1+i-(k+1)=i from by omega]at g;exact g
theorem zAk:wN (suf x k)↔wN (suf x (k+1))∧LC x k:=by
 have hr:=zQp h hk (x.zA.length-(k+1)) 0 (by omega);have hl:=yS x (k+1);rw[U6,Q6]at hr;rw[yG hk];simp only[wN];rw[hr];constructor
 ·rintro⟨a,⟨b1,b2⟩,c,d⟩
  refine⟨a,⟨b1,b2,c,fun j h1 h2=>?_⟩⟩
  grind
 ·rintro⟨a,b⟩
  refine⟨a,⟨b.c1,b.c2⟩,b.c3,fun j hj=>?_⟩;have:=b.c4 (k+1+j) (by omega) (by omega);rw[show k+1+j-(k+1)=j from by omega]at this
  rwa [hl]
end
theorem zAC{x:SPr}(h:wN (suf x 0))(k:Nat):wN (suf x k):=by
 have:=zFg h k
 grind
def qC(x:SPr):Prop:=Pres x∧wN (suf x 0)∧zAi x
theorem jW{x:SPr}(hl:x.zA.length≤1048576):IsB (zPm x) (qC x):=by
 unfold zPm;rcases zDH hl with⟨h1,h2⟩|⟨h1,h2⟩
 ·have h6:=h2.os.1
  rw[h1,bs,zM];unfold f_V;obtain⟨r,r1,r2⟩:=uS (body:=zNw x) (Q:=fun r=> ∃s:Nat,r=(s:Int)∧wN (suf x s)∧(s=0∨ ¬wN (suf x (s-1)))) (fun i s=>i≤x.zA.length∧s=((x.zA.length-i:Nat):Int)∧wN (suf x (x.zA.length-i))) x.zA.length (fun i s hi ⟨_,hs,gM⟩=>by
    subst hs;have hk:x.zA.length-i-1<x.zA.length:=by omega
    have e9:x.zA.length-(i+1)=x.zA.length-i-1:=by omega
    rw[e9];have e8:i+1≤x.zA.length:=by omega
    rw[show x.zA.length-i=x.zA.length-i-1+1 from by omega]at gM ⊢
    have pF:=zIn h2.toPres hk gM;have pH:=zAk h2.toPres.w hk
    generalize x.zA.length-i-1=k at*
    unfold zNw;rw[iL (by omega),zM,zE (by omega) (by omega),bs,show(((k+1:Nat):Int)-1)=(k:Int)from by omega];rcases pF with⟨g1,g2⟩|⟨r,g1,g2,g3⟩
    ·simp_all
    grind) (fun s ⟨_,hs,gM⟩=>by
    rw[Ke]at hs gM;subst hs;unfold zNw
    grind) (s:=(x.zA.length:Int)) ⟨by omega,by rfl,by rw[Jav,vX (by omega)];simp only[wN]⟩
  obtain⟨s,rfl,gM,hs⟩:=r2;rw[r1,bs,bs];cases s with
  |zero=>exact .inl ⟨rfl,h2.toPres,gM,h2⟩
  |succ s=>
   refine .inr ⟨?_,fun q=>?_⟩
   ·congr 1
   ·rcases hs with hs|hs
    ·omega
    ·exact hs (zAC q.2.1 _)
 ·rw[h1,bs,zQ]
  exact .inr ⟨rfl,fun q=>h2 q.2.2⟩
theorem zIp{x:SPr}(hl:x.zA.length≤1048576):IsB (zVc x) (qC x):=by
 unfold zVc;rcases zDI hl with⟨h1,h2⟩|⟨h1,h2⟩
 ·have h6:=h2.os.1
  rw[h1,bs,zM];unfold yA8 yA7;rw[zE (by omega) (by omega),bs];obtain⟨r,r1,r2⟩:=uS (body:=zNs x) (Q:=fun r=>(r=.inl ()∧wN (suf x 0))∨ ∃f,r=.inr f∧f.Kind≠0∧ ¬wN (suf x 0)) (fun i s=>i≤x.zA.length∧s=((x.zA.length-i:Nat):Int)-1∧wN (suf x (x.zA.length-i))) x.zA.length (fun i s hi ⟨_,hs,gM⟩=>by
    subst hs;have hk:x.zA.length-i-1<x.zA.length:=by omega
    have e9:x.zA.length-(i+1)=x.zA.length-i-1:=by omega
    rw[e9];have e8:i+1≤x.zA.length:=by omega
    rw[show x.zA.length-i=x.zA.length-i-1+1 from by omega]at gM ⊢
    have pF:=zO1 h2.toPres hk gM;have pH:=zAk h2.toPres.w hk
    generalize x.zA.length-i-1=k at*
    unfold zNs;rw[show(((k+1:Nat):Int)-1)=(k:Int)from by omega,iL (by omega),zM];rcases pF with⟨g1,g2⟩|⟨r,g1,g2,g3⟩
    ·left
     rw[g1,bs];simp only
     rw[show((0:Int) != 0)=iI from rfl,zQ,zE (by omega) (by omega),bs]
     grind
    ·right
     rw[g1,bs,show(r.Kind != 0)=iH from by grind,zM];exact⟨_,rfl,.inr ⟨r,rfl,g2,by grind[zAC]⟩⟩) (fun s ⟨_,hs,gM⟩=>by
    rw[Ke]at hs gM;subst hs;unfold zNs
    grind) (s:=(x.zA.length:Int)-1) ⟨by omega,by rfl,by rw[Jav,vX (by omega)];simp only[wN]⟩
  rw[r1,bs];rcases r2 with⟨rfl,q⟩|⟨f,rfl,g1,g2⟩
  ·exact .inl ⟨rfl,h2.toPres,q,h2⟩
  ·simp only
   rw[bs,show(f.Kind==0)=iI from by grind];exact .inr ⟨rfl,fun q=>g2 q.2.1⟩
 ·rw[h1,bs,zQ]
  exact .inr ⟨rfl,fun q=>h2 q.2.2⟩
abbrev Mx:=List (List Int)
variable {A R':Mx}
def S:Nat→(Nat→Int)→Int
 |0,_=>0
 |n+1,f=>S n f+f n
theorem xZ{g:Nat→Int}(h:∀i,i<n→f i=g i):S n f=S n g:=by
 induction n with
 |zero=>rfl
 |succ n ih=>grind[S]
theorem zAl{p:Int}{f g:Nat→Int}:∀{n:Nat},(∀i,i<n→f i%p=g i%p)→S n f%p=S n g%p
 |0,_=>rfl
 |n+1,h=>by simp only[S];rw[K9,zAl (n:=n) fun i hi=>h i (by omega),h n (by omega),←K9]
theorem qD:∀n:Nat,S n (fun _=>0)=0
 |0=>rfl
 |n+1=>by simp only[S,qD n];rfl
theorem zDf{f g:Nat→Int}:∀n:Nat,S n (fun i=>f i+g i)=S n f+S n g
 |0=>rfl
 |n+1=>by simp only[S,zDf n];omega
theorem zM7{f:Nat→Int}(a:Int):∀n:Nat,S n (fun i=>f i*a)=S n f*a
 |0=>by simp[S]
 |n+1=>by simp only[S,zM7 a n,Int.add_mul]
theorem zDg{f:Nat→Int}(a:Int):∀n:Nat,S n (fun i=>a*f i)=a*S n f
 |0=>by simp[S]
 |n+1=>by simp only[S,zDg a n,Int.mul_add]
theorem zIq{f:Nat→Nat→Int}(m:Nat):∀n:Nat,S n (fun i=>S m (fun j=>f i j))=S m (fun j=>S n (fun i=>f i j))
 |0=>by simp only[S];grind[qD]
 |n+1=>by simp only[S];rw[zIq m n,zDf]
theorem jX{f:Nat→Int}{k:Nat}:∀{n:Nat},k<n→(∀i,i<n→i≠k→f i=0)→S n f=f k
 |0,h,_=>by omega
 |n+1,h,hz=>by
  simp only[S]
  by_cases hk:k=n
  ·subst hk
   rw[xZ (g:=fun _=>0) fun i hi=>hz i (by omega) (by omega),qD];omega
  ·rw[jX (n:=n) (by omega) fun i hi=>hz i (by omega),hz n (by omega) (by omega)];omega
def mkv(D:Nat)(f:Nat→Int):List Int:=(Jb D).map f
theorem zY(D:Nat)(f:Nat→Int):(mkv D f).length=D:=by simp[mkv]
theorem zD3(h:i<D):(mkv D f)[i]? =iF (f i):=by simp[mkv,h]
theorem yA(h:i<D):at0 (mkv D f) i=f i:=by rw[at0,J3,zD3 h];rfl
theorem yB{g:Nat→Int}(h:∀i,i<D→f i=g i):mkv D f=mkv D g:=by grind[mkv,Uu]
theorem qL:(mkv D f).set j a=mkv D (fun i=>if i=j then a else f i):=by
 apply Km;intro i;rw[Jbh,zY]
 by_cases hi:i<D
 ·by_cases gR:j=i
  ·subst gR;rw[if_pos rfl,if_pos hi,zD3 hi,if_pos rfl]
  ·rw[if_neg gR,zD3 hi,zD3 hi,if_neg fun h=>gR h.symm]
 ·have h1:∀g:Nat→Int,(mkv D g)[i]? =iG:=by grind[zY]
  grind
theorem vH(h:v.length=D):v=mkv D (at0 v):=by
 apply Km;intro i
 by_cases hi:i<D
 ·rw[zD3 hi,at0,J3,J5 (by omega)];rfl
 grind[zY]
theorem uH(D:Nat):J1 D (0:Int)=mkv D (fun _=>0):=by
 apply Km
 grind[zD3,zY]
abbrev ent(B:Mx)(l j:Nat):Int:=at0 (B.getD l []) j
def xY(p:Int)(D:Nat)(r:List Int)(B:Mx):List Int:=mkv D fun j=>S D (fun l=>at0 r l*ent B l j)%p
def PM(p:Int)(D:Nat)(A B:Mx):Mx:=A.map fun r=>xY p D r B
def idM(D:Nat):Mx:=(Jb D).map fun i=>mkv D fun j=>if j=i then 1 else 0
def Row(p:Int)(D:Nat)(r:List Int):Prop:=r.length=D∧ ∀i,i<D→0≤at0 r i∧at0 r i≤p-1
def Mat(p:Int)(D:Nat)(A:Mx):Prop:=A.length=D∧ ∀i,i<D→Row p D (A.getD i [])
theorem zCg{p:Int}{B:Mx}(h:i<A.length):(PM p D A B).getD i []=xY p D (A.getD i []) B:=by grind[PM]
theorem uU{p:Int}{B:Mx}:(PM p D A B).length=A.length:=by simp[PM]
theorem zCh{p:Int}{B:Mx}(hp:0<p)(hA:A.length=D):Mat p D (PM p D A B):=by refine⟨by rw[uU,hA],fun i hi=>?_⟩;rw[zCg (by omega)];refine⟨by rw[xY,zY],fun j hj=>?_⟩;rw[xY,yA hj];have h1:=Kq (S D fun l=>at0 (A.getD i []) l*ent B l j) (show p≠0 by omega);have h2:=Kf (S D fun l=>at0 (A.getD i []) l*ent B l j) hp;omega
theorem zO2{p:Int}{B:Mx}(hA:A.length=D)(hi:i<D)(hj:j<D):ent (PM p D A B) i j=S D (fun l=>ent A i l*ent B l j)%p:=by rw[ent,zCg (by omega),xY,yA hj]
theorem zIr{B:Mx}(hA:A.length=D)(hB:B.length=D)(h:∀i,i<D→A.getD i []=B.getD i []):A=B:=by
 apply Km
 grind
theorem zM8{p:Int}{B C:Mx}(hA:A.length=D)(hB:B.length=D):PM p D (PM p D A B) C=PM p D A (PM p D B C):=by
 refine zIr (by rw[uU,uU,hA]) (by rw[uU,hA]) fun i hi=>?_
 rw[zCg (A:=PM p D A B) (by rw[uU];omega),zCg (A:=A) (B:=PM p D B C) (by omega)];unfold xY;refine yB fun j hj=>?_
 have e1:S D (fun l=>at0 ((PM p D A B).getD i []) l*ent C l j)%p=S D (fun l=>S D (fun q=>ent A i q*ent B q l)*ent C l j)%p:=zAl fun l hl=>by
  have:=zO2 (p:=p) (B:=B) hA hi hl;simp only[ent]at this ⊢
  rw[this,Ju,K1,←Ju]
 have e2:S D (fun l=>at0 (A.getD i []) l*ent (PM p D B C) l j)%p=S D (fun q=>ent A i q*S D (fun l=>ent B q l*ent C l j))%p:=zAl fun q hq=>by rw[zO2 hB hq hj,Ju,K1,←Ju]
 rw[e1,e2]
 congr 1
 have e3:(fun l=>S D (fun q=>ent A i q*ent B q l)*ent C l j)=fun l=>S D (fun q=>ent A i q*ent B q l*ent C l j):=funext fun l=>(zM7 _ _).symm
 have e4:(fun q=>ent A i q*S D (fun l=>ent B q l*ent C l j))=fun q=>S D (fun l=>ent A i q*ent B q l*ent C l j):=funext fun q=>by rw[←zDg];exact xZ fun l _=>by rw[Gy]
 rw[e3,e4];exact zIq D D
theorem qE(D:Nat):(idM D).length=D:=by simp[idM]
theorem zBd(h:i<D):(idM D).getD i []=mkv D fun j=>if j=i then 1 else 0:=by simp[idM,J3,h]
theorem tD{p:Int}(hp:2≤p):Mat p D (idM D):=by
 refine⟨qE D,fun i hi=>?_⟩;rw[zBd hi];refine⟨zY _ _,fun j hj=>?_⟩
 grind[yA]
theorem sH{p a:Int}(h:0≤a∧a≤p-1):a%p=a:=Jw h.1 (by omega)
theorem zCi{p:Int}{B:Mx}(hB:Mat p D B):PM p D (idM D) B=B:=by
 refine zIr (by rw[uU,qE]) hB.1 fun i hi=>?_
 rw[zCg (by grind[qE]),zBd hi,xY];obtain⟨h1,h2⟩:=hB.2 i hi;refine Eq.trans (yB fun j hj=>?_) (vH h1).symm;rw[jX (k:=i) hi fun l hl gg=>by rw[yA hl,if_neg gg,Qr],yA hi,if_pos rfl,Jbd]
 grind[sH]
theorem zBF{p:Int}(hA:Mat p D A):PM p D A (idM D)=A:=by
 refine zIr (by rw[uU,hA.1]) hA.1 fun i hi=>?_
 rw[zCg (by rw[hA.1];exact hi),xY];obtain⟨h1,h2⟩:=hA.2 i hi;refine Eq.trans (yB fun j hj=>?_) (vH h1).symm;rw[jX (k:=j) hj fun l hl gg=>by rw[ent,zBd hl,yA hj,if_neg (fun h=>gg h.symm),La],ent,zBd hj,yA hj,if_pos rfl,Ls]
 grind[sH]
theorem zTJ{p:Int}{B:Mx}(hB:Mat p D B)(hi:i<D)(hj:j<D):ixO B (i:Int)=iF (B.getD i [])∧ixO (B.getD i []) (j:Int)=iF (ent B i j)∧(B.getD i []).length=D∧0≤ent B i j∧ent B i j≤p-1:=by
 obtain⟨h1,h2⟩:=hB.2 i hi
 grind[yO]
def acc(p:Int)(D i:Nat)(r:List Int)(B:Mx):List Int:=mkv D fun j=>S i (fun l=>at0 r l*ent B l j)%p
def zDJ(p:Int)(D i k:Nat)(r:List Int)(B:Mx):List Int:=mkv D fun j=>if j<k then S (i+1) (fun l=>at0 r l*ent B l j)%p else S i (fun l=>at0 r l*ent B l j)%p
theorem zJT{p:Int}{B:Mx}:zDJ p D i 0 r B=acc p D i r B:=rfl
theorem zJU{p:Int}{B:Mx}:zDJ p D i D r B=acc p D (i+1) r B:=yB (by omega)
theorem zM9{p:Int}{B:Mx}(hk:k<D)(ha:a=(at0 (zDJ p D i k r B) k+at0 r i*ent B i k)%p):(zDJ p D i k r B).set k a=zDJ p D i (k+1) r B:=by
 subst ha;simp only[zDJ];rw[qL,yA hk,if_neg (by omega)];refine yB fun j hj=>?_
 by_cases hjk:j=k
 ·subst hjk
  rw[if_pos rfl,if_pos (by omega)]
  grind[S,Int.emod_add_emod]
 omega
theorem zMA{p:Int}{B:Mx}(hp:0<p)(hj:j<D):0≤at0 (zDJ p D i k r B) j∧at0 (zDJ p D i k r B) j≤p-1:=by
 rw[zDJ,yA hj];split
 ·have h1:=Kq (S (i+1) fun l=>at0 r l*ent B l j) (show p≠0 by omega)
  have h2:=Kf (S (i+1) fun l=>at0 r l*ent B l j) hp;omega
 ·have h1:=Kq (S i fun l=>at0 r l*ent B l j) (show p≠0 by omega)
  have h2:=Kf (S i fun l=>at0 r l*ent B l j) hp;omega
theorem zIs{p:Int}{B:Mx}:(zDJ p D i k r B).length=D:=zY _ _
theorem zQq{p:Int}{B:Mx}(hj:j<D):ixO (zDJ p D i k r B) (j:Int)=iF (at0 (zDJ p D i k r B) j):=by grind[yQ,zIs]
theorem zMB{p:Int}{B:Mx}:J1 D (0:Int)=acc p D 0 r B:=by rw[uH];rfl
theorem zJV{b p:Int}(hp:p≤7)(ha:0≤a∧a≤p-1)(hb:0≤b∧b≤p-1):0≤a*b∧a*b≤36:=by have h1:0≤a*b:=G7 ha.1 hb.1;have h2:a*b≤6*6:=Lf (by omega) (by omega) hb.1 (by omega);omega
section
variable {p:Int}{D:Nat} (hp:Prime p) (hD:D≤8)
 include hp hD
theorem zCj{B:Mx}(hr:Row p D r)(hB:Mat p D B):f_M p r B (D:Int)=iF (xY p D r B):=by
 have h7:=hp.pos;have hBl:=hB.1;have cR:=hr.1;unfold f_M;rw[xF (by omega),bs,zMB (p:=p) (r:=r) (B:=B)];have:=zX (body:=zVf p r B) (r:=acc p D D r B) (fun i=>(acc p D i r B,(i:Int))) D (fun i hi=>by
  have dK:=hr.2 i hi;unfold zVf;simp only
  rw[cR,hBl,yT hi,zM,zM];have inner:=zX (body:=zVe p r B (acc p D i r B,(i:Int))) (r:=acc p D (i+1) r B) (fun k=>(zDJ p D i k r B,(k:Int))) D (fun k hk=>by
   obtain⟨b1,b2,b3,b4⟩:=zTJ hB hi hk;have ha:=zMA (p:=p) (i:=i) (k:=k) (r:=r) (B:=B) (by omega) hk;have hm:=zJV (by omega) dK b4;unfold zVe;simp only
   rw[zIs,yT hk,zM,b1,bs,b3,yT hk,zM,zQq hk,bs,yQ (by omega),bs,bs,b2,bs,zE (by omega) (by omega),bs,zE (by omega) (by omega),bs];have dM:tV (at0 (zDJ p D i k r B) k+at0 r i*ent B i k) p=iF ((at0 (zDJ p D i k r B) k+at0 r i*ent B i k)%p):=by
    unfold tV
    grind
   rw[dM,bs,bs,zE (by omega) (by omega),bs,cs,J6,zM9 hk rfl]) (by
   unfold zVe;simp only
   rw[zIs,qA,zQ,zJU])
  rw[zJT,show((0:Nat):Int)=0 from rfl]at inner
  grind[zE]) (by
  unfold zVf
  grind)
 rw[show((0:Nat):Int)=0 from rfl]at this;rw[this,bs];rfl
theorem zKP(h0:0≤a)(_h1:a≤1000):zL2 a p=iF (a%p):=by have _:=hD;have h7:=hp.pos;have e1:=Kq a (show p≠0 by omega);have e2:=Kf a (show 0<p by omega);unfold zL2 tV;rw[if_neg (by omega),bs,Le h0,zE (by omega) (by omega),bs,if_neg (by omega),bs,Le (by omega)];simp
theorem zGj{B:Mx}(hi:i<D)(hr:Row p D r)(hB:Mat p D B):f_v (acc p D i r B) (B.getD i []) (at0 r i) p=iF (acc p D (i+1) r B):=by
 have h7:=hp.pos;have dK:=hr.2 i hi;unfold f_v;have hl:(acc p D i r B).length=D:=zY _ _;have inner:=zX (body:=zNy (acc p D i r B) (B.getD i []) (at0 r i) p) (r:=acc p D (i+1) r B) (fun k=>(zDJ p D i k r B,(k:Int))) D (fun k hk=>by
  obtain⟨b1,b2,b3,b4⟩:=zTJ hB hi hk;have ha:=zMA (p:=p) (i:=i) (k:=k) (r:=r) (B:=B) (by omega) hk;have hm:=zJV (by omega) dK b4;unfold zNy;simp only
  rw[hl,yT hk,zM,zQq hk,bs,b2,bs,zE (by omega) (by omega),bs,zE (by omega) (by omega),bs,zKP hp hD (by omega) (by omega),bs,bs,zE (by omega) (by omega),bs,cs,J6,zM9 hk rfl]) (by
  unfold zNy;simp only
  rw[hl,qA,zQ,zJU])
 rw[zJT,show((0:Nat):Int)=0 from rfl]at inner
 grind
theorem zBG{B:Mx}(hr:Row p D r)(hB:Mat p D B)(hq:q=(D:Int)):zVC r (zO.mk p q B)=iF (xY p D r B):=by
 subst hq;have cR:=hr.1;unfold zVC;simp only
 rw[xF (by omega),bs,zMB (p:=p) (r:=r) (B:=B)];have:=zX (body:=zNz r (zO.mk p (D:Int) B)) (r:=acc p D D r B) (fun i=>(acc p D i r B,(i:Int))) D (fun i hi=>by
  have hBl:=hB.1;unfold zNz;simp only
  rw[cR,yT hi,zM,yQ (by omega),bs,yO [] (by omega),bs,zGj hp hD hi hr hB,bs,zE (by omega) (by omega),bs,cs]) (by
  unfold zNz
  grind)
 rw[show((0:Nat):Int)=0 from rfl]at this;rw[this,bs];rfl
theorem zJW{B:Mx}(hi:i<A.length):(PM p D A B).take i++[xY p D (A.getD i []) B]=(PM p D A B).take (i+1):=by
 have _:=hp;have _:=hD;rw[Js (by grind[uU])]
 congr 2
 have:=zCg (p:=p) (D:=D) (B:=B) hi
 grind
theorem zAb{B:Mx}(hA:Mat p D A)(hB:Mat p D B):zPi p A B (D:Int)=iF (PM p D A B):=by
 have pU:=hA.1;unfold zPi;have:=zX (body:=zNt p A B (D:Int)) (r:=PM p D A B) (fun i=>((PM p D A B).take i,(i:Int))) D (fun i hi=>by
  unfold zNt;simp only
  rw[pU,yT hi,zM,yO [] (by omega),bs,zCj hp hD (hA.2 i hi) hB,bs,yI (by rw[Kk,uU];simp;omega),bs,zE (by omega) (by omega),bs,cs,zJW hp hD (by omega)]) (by
  unfold zNt;simp only
  rw[pU,qA,zQ,Jn (by grind[uU])])
 grind
theorem zJj{B:Mx}(hA:Mat p D A)(hB:Mat p D B):zXJ (zO.mk p q A) (zO.mk p (D:Int) B)=iF (zO.mk p (D:Int) (PM p D A B)):=by
 have pU:=hA.1;unfold zXJ;have:=zX (body:=zN0 (zO.mk p q A) (zO.mk p (D:Int) B)) (r:=PM p D A B) (fun i=>((PM p D A B).take i,(i:Int))) D (fun i hi=>by
  unfold zN0;simp only
  rw[pU,yT hi,zM,yO [] (by omega),bs,zBG hp hD (hA.2 i hi) hB rfl,bs,yI (by rw[Kk,uU];simp;omega),bs,zE (by omega) (by omega),bs,cs,zJW hp hD (by omega)]) (by
  unfold zN0;simp only
  rw[pU,qA,zQ,Jn (by grind[uU])])
 grind
theorem zMC(_hi:i<D):(J1 D (0:Int)).set i 1=mkv D fun j=>if j=i then 1 else 0:=by have _:=hp;have _:=hD;rw[uH,qL]
theorem zQr(hi:i<D):(idM D).take i++[mkv D fun j=>if j=i then 1 else 0]=(idM D).take (i+1):=by
 have _:=hp;have _:=hD;rw[Js (by grind[qE])]
 congr 2
 have:=zBd hi
 grind
theorem zEy:f_C (D:Int)=iF (idM D):=by
 unfold f_C;have:=zX (body:=zIW (D:Int)) (r:=idM D) (fun i=>((idM D).take i,(i:Int))) D (fun i hi=>by
  unfold zIW;simp only
  rw[yT hi,zM,xF (by omega),bs,vP,Kb,if_pos hi,bs,J6,zMC hp hD hi,yI (by grind),bs,zE (by omega) (by omega),bs,cs,zQr hp hD hi]) (by
  unfold zIW;simp only
  rw[qA,zQ,Jn (by grind[qE])])
 grind
theorem zBs:f_G p (D:Int)=iF (zO.mk p (D:Int) (idM D)):=by
 unfold f_G;have:=zX (body:=zL1 (D:Int)) (r:=idM D) (fun i=>((idM D).take i,(i:Int))) D (fun i hi=>by
  unfold zL1;simp only
  rw[yT hi,zM,xF (by omega),bs,vP,Kb,if_pos hi,bs,J6,zMC hp hD hi,yI (by grind),bs,zE (by omega) (by omega),bs,cs,zQr hp hD hi]) (by
  unfold zL1;simp only
  rw[qA,zQ,Jn (by grind[qE])])
 grind
end
def nw:Nat→List Int→List Nat
 |_,[]=>[]
 |o,a::v=>J1 a.toNat o++nw (o+1) v
theorem zD4:∀(o:Nat)(u v:List Int),nw o (u++v)=nw o u++nw (o+u.length) v
 |o,[],v=>by simp[nw]
 |o,a::u,v=>by
  simp only[K5,nw,zD4 (o+1) u v,Jj,J8]
  grind
theorem zKQ(h:i<v.length):nw 0 (v.take (i+1))=nw 0 (v.take i)++J1 (at0 v i).toNat i:=by
 rw[Js h,zD4,Kk,Ud (by omega),Ja];simp only[nw,Jf]
 grind
theorem zMD{n:Nat}:∀(o:Nat)(v:List Int),o+v.length≤n→ ∀w∈nw o v,w<n
 |o,[],_,w,h=>by grind[nw]
 |o,a::v,hv,w,h=>by
  simp only[nw,Jd,J8]at h hv;rcases h with h|h
  ·grind
  ·exact zMD (o+1) v (by omega) w h
theorem zGk:∀(o:Nat)(v:List Int),(∀i,i<v.length→at0 v i≤6)→(nw o v).length≤6*v.length
 |o,[],_=>by simp[nw]
 |o,a::v,h=>by
  have h0:=h 0 (by simp);have:=zGk (o+1) v fun i hi=>by
   have:=h (i+1) (by grind)
   grind
  simp only[at0,Gj]at h0
  grind[nw]
def wM(p:Int)(D:Nat)(A:List Mx)(ws:List Nat)(B:Mx):Mx:=ws.foldl (fun B w=>PM p D B (A.getD w [])) B
theorem zD5{p:Int}{A:List Mx}{u v:List Nat}{B:Mx}:wM p D A (u++v) B=wM p D A v (wM p D A u B):=by simp[wM,Gl]
theorem zIt{p:Int}{D:Nat}{A:List Mx}{w:Nat}:∀(k:Nat)(B:Mx),wM p D A (J1 k w) B=iter k (fun B=>PM p D B (A.getD w [])) B
 |0,_=>rfl
 |k+1,B=>by rw[Jq];show wM p D A (J1 k w) (PM p D B (A.getD w []))=_;rw[zIt k];rfl
theorem zCk{p:Int}{D:Nat}{A:List Mx}(hp:0<p):∀(ws:List Nat){B:Mx},Mat p D B→Mat p D (wM p D A ws B)
 | [],_,hB=>hB
 |_w::ws,_,hB=>zCk hp ws (zCh hp hB.1)
theorem zIu{p:Int}{D:Nat}{A:List Mx}(hp:0<p){C:Mx}(hC:C.length=D):∀(ws:List Nat){B:Mx},Mat p D B→wM p D A ws (PM p D C B)=PM p D C (wM p D A ws B)
 | [],_,_=>rfl
 |w::ws,B,hB=>by show wM p D A ws (PM p D (PM p D C B) (A.getD w []))=PM p D C (wM p D A ws (PM p D B (A.getD w [])));rw[zM8 hC hB.1,zIu hp hC ws (zCh hp hB.1)]
structure MOk (n:Nat) (m:zB) (D:Nat):Prop where
 p:Prime m.Prime
 d:m.Dim=(D:Int)
 d1:1≤D
 d3:D≤3
 len:m.zF.length=n
 mat:∀i,i<n→Mat m.Prime D (m.zF.getD i [])
structure zZV (n:Nat) (m:zB) (D:Nat):Prop where
 p:Prime m.Prime
 d:m.Dim=(D:Int)
 d3:D≤30
 len:m.zF.length=n
 mat:∀i,i<n→Mat m.Prime D (m.zF.getD i [])
theorem MOk.x{m:zB}(h:MOk n m D):zZV n m D:=⟨h.p,h.d,by have:=h.d3;omega,h.len,h.mat⟩
structure zTK (n:Nat) (m:zB) (D:Nat):Prop where
 p:Prime m.Prime
 d1:1≤D
 d3:D≤200
 len:m.zF.length=n
 mat:∀i,i<n→Mat m.Prime D (m.zF.getD i [])
theorem MOk.b{m:zB}(h:MOk n m D):zTK n m D:=⟨h.p,h.d1,by have:=h.d3;omega,h.len,h.mat⟩
section
variable {n D:Nat}{m:zB} (hm:MOk n m D) (hn:n≤9)
 include hm hn
theorem zME(hl:v.length=n)(hv:∀i,i<n→0≤at0 v i∧at0 v i≤6):f_R m v=iF (wM m.Prime D m.zF (nw 0 v) (idM D)):=by
 have h7:=hm.p.pos;have h3:=hm.d3;have gj:=hm.len;unfold f_R;rw[hm.d,zEy hm.p (by omega),bs];have hI:∀i,Mat m.Prime D (wM m.Prime D m.zF (nw 0 (v.take i)) (idM D)):=by grind[zCk,tD]
 have:=zX (body:=zVh m v) (r:=wM m.Prime D m.zF (nw 0 v) (idM D)) (fun i=>(wM m.Prime D m.zF (nw 0 (v.take i)) (idM D),(i:Int))) n (fun i hi=>by
  have hvi:=hv i hi;unfold zVh;simp only
  rw[hl,yT hi,zM];rw[uF (S:=Mat m.Prime D) (body:=zVg m v (wM m.Prime D m.zF (nw 0 (v.take i)) (idM D),(i:Int))) (fun B=>B) (fun B=>PM m.Prime D B (m.zF.getD i [])) (at0 v i) hvi.1 (fun B hB=>zCh (by omega) hB.1) (fun B q hB hq=>by
   unfold zVg;simp only
   rw[yQ (by omega),bs,iL hq,zM,yO [] (by omega),bs,hm.d,zAb hm.p (by omega) hB (hm.mat i hi),bs,zE (by omega) (by omega),bs,cs]) (fun B hB=>by
   unfold zVg;simp only
   rw[yQ (by omega),bs,iJ (by omega),zQ]) (hI i),bs,zE (by omega) (by omega),bs,cs]
  grind[zKQ,zD5,zIt]) (by
  unfold zVh
  grind)
 rw[show((0:Nat):Int)=0 from rfl,Kd]at this
 grind[nw,wM]
abbrev enW(ws:List Nat):List Int:=ws.map fun(w:Nat)=>(w:Int)+1
theorem zDY(hi:i<n):zPn m (i:Int)=iF (zO.mk m.Prime (D:Int) (m.zF.getD i [])):=by have _:=hn;have gj:=hm.len;unfold zPn;rw[yO [] (by omega),bs,hm.d]
theorem zBt{ws:List Nat}(hw:∀w∈ws,w<n)(hl:ws.length≤1000000):f_H m (enW ws)=iF (zO.mk m.Prime (D:Int) (wM m.Prime D m.zF ws (idM D))):=by
 have h7:=hm.p.pos;have h3:=hm.d3;unfold f_H;rw[hm.d,zBs hm.p (by omega),bs];have hI:∀i,Mat m.Prime D (wM m.Prime D m.zF (ws.take i) (idM D)):=by grind[zCk,tD]
 have de:(enW ws).length=ws.length:=by simp
 have:=zX (body:=zVD m (enW ws)) (r:=(m.Prime,(D:Int),wM m.Prime D m.zF ws (idM D))) (fun i=>(m.Prime,(D:Int),wM m.Prime D m.zF (ws.take i) (idM D),(i:Int))) ws.length (fun i hi=>by
  have mG:=hw ws[i] (Jy hi);unfold zVD;simp only
  rw[de,yT hi,zM,vP,K3,J5 hi];simp only[Ha];rw[bs,zE (by omega) (by omega),bs,show((ws[i]:Nat):Int)+1-1=((ws[i]:Nat):Int)from by omega,zDY hm hn mG,bs,zJj hm.p (by omega) (hI i) (hm.mat _ mG),bs,zE (by omega) (by omega),bs,cs,Js hi,zD5];rfl) (by
  unfold zVD;simp)
 rw[show((0:Nat):Int)=0 from rfl,Kd]at this
 grind[wM]
end
theorem zAt(hl:v.length≤9)(hv:∀i,i<v.length→0≤at0 v i∧at0 v i≤6):f_z v=iF (enW (nw 0 v)):=by
 unfold f_z;have gj:∀i,(nw 0 (v.take i)).length≤54:=fun i=>by
  have:=zGk 0 (v.take i) (by grind)
  grind
 have:=zX (body:=zV8 v) (r:=enW (nw 0 v)) (fun i=>(enW (nw 0 (v.take i)),(i:Int))) v.length (fun i hi=>by
  have hvi:=hv i hi;have hli:=gj i;unfold zV8;simp only
  rw[yT hi,zM,yQ hi,bs];have inner:=zX (body:=zV7 (enW (nw 0 (v.take i)),(i:Int)) (at0 v i)) (r:=enW (nw 0 (v.take (i+1)))) (fun k=>(enW (nw 0 (v.take i)++J1 k i),(k:Int))) (at0 v i).toNat (fun k hk=>by
   unfold zV7;simp only
   rw[iL (by omega),zM,zE (by omega) (by omega),bs,yI (by grind),bs,zE (by omega) (by omega),bs,cs]
   congr 3
   rw[Lo,←Jj];simp) (by
   unfold zV7;simp only
   rw[iJ (by omega),zQ,zKQ hi])
  rw[show((0:Nat):Int)=0 from rfl,Lv,Jf]at inner
  grind[zE]) (by
  unfold zV8;simp)
 rw[show((0:Nat):Int)=0 from rfl,Kd]at this;simp only[nw,enW,Ub]at this
 grind
theorem zMF{v o:Int}(h:zV6 1 (IntKind.wrap .u64 o)=iF (0,o)):zV6 (IntKind.wrap .u64 (([v]:List Int).length:Int)) (IntKind.wrap .u64 o)=iF (0,o):=by rw[show IntKind.wrap .u64 (([v]:List Int).length:Int)=1 from by rfl];exact h
theorem zDh{v o:Int}(ho:Prime o):f_l [v] o=iF (J1 o.toNat v):=by
 unfold f_l;rcases ho with rfl|rfl|rfl|rfl
 ·have h:=zX (body:=zCx) (r:=[v,v]) (fun i=>match i with|0=>([v,0],1)|_=>([v,v],2)) 1 (fun i hi=>by
   match i,hi with
   |0,_=>rfl) (by rfl)
  rw[zMF (by rfl),bs];have hl:xI (IntKind.wrap .i64 2)=iF 2:=by rfl
  simp only[hl,bs];rw[show decide ((2:Int)<0)=iI from rfl,zQ,show decide ((0:Int)> 0)=iI from rfl,zQ,show decide ((2:Int)> 9223372036854775807)=iI from by decide,zQ]
  grind[wX]
 ·have h:=zX (body:=zCx) (r:=[v,v,v]) (fun i=>match i with|0=>([v,0,0],1)|1=>([v,v,0],2)|_=>([v,v,v],3)) 2 (fun i hi=>by
   match i,hi with
   |0,_=>rfl
   |1,_=>rfl) (by rfl)
  rw[zMF (by rfl),bs];have hl:xI (IntKind.wrap .i64 3)=iF 3:=by rfl
  simp only[hl,bs];rw[show decide ((3:Int)<0)=iI from rfl,zQ,show decide ((0:Int)> 0)=iI from rfl,zQ,show decide ((3:Int)> 9223372036854775807)=iI from by decide,zQ]
  grind[wX]
 ·have h:=zX (body:=zCx) (r:=[v,v,v,v,v]) (fun i=>match i with|0=>([v,0,0,0,0],1)|1=>([v,v,0,0,0],2)|2=>([v,v,v,v,0],4)|_=>([v,v,v,v,v],5)) 3 (fun i hi=>by
   match i,hi with
   |0,_=>rfl
   |1,_=>simp[zCx,yD,wX,rng,inR]
   |2,_=>rfl) (by rfl)
  rw[zMF (by rfl),bs];have hl:xI (IntKind.wrap .i64 5)=iF 5:=by rfl
  simp only[hl,bs];rw[show decide ((5:Int)<0)=iI from rfl,zQ,show decide ((0:Int)> 0)=iI from rfl,zQ,show decide ((5:Int)> 9223372036854775807)=iI from by decide,zQ];have e2:wX (J1 5 (0:Int)) 0 (([v]:List Int).take ((J1 5 (0:Int)).length-0))=[v,0,0,0,0]:=by rfl
  grind
 ·have h:=zX (body:=zCx) (r:=[v,v,v,v,v,v,v]) (fun i=>match i with|0=>([v,0,0,0,0,0,0],1)|1=>([v,v,0,0,0,0,0],2)|2=>([v,v,v,v,0,0,0],4)|_=>([v,v,v,v,v,v,v],7)) 3 (fun i hi=>by
   match i,hi with
   |0,_=>rfl
   |1,_=>simp[zCx,yD,wX,rng,inR]
   |2,_=>rfl) (by rfl)
  rw[zMF (by rfl),bs];have hl:xI (IntKind.wrap .i64 7)=iF 7:=by rfl
  simp only[hl,bs];rw[show decide ((7:Int)<0)=iI from rfl,zQ,show decide ((0:Int)> 0)=iI from rfl,zQ,show decide ((7:Int)> 9223372036854775807)=iI from by decide,zQ];have e2:wX (J1 7 (0:Int)) 0 (([v]:List Int).take ((J1 7 (0:Int)).length-0))=[v,0,0,0,0,0,0]:=by rfl
  simp_all
theorem IsB.b(h:IsB o P):IsB (o.bind fun r=>iF r) P:=by grind
theorem zGE{p:Int}(hp:Prime p)(hD:D≤8):IsB (zV5 r p (D:Int)) (Row p D r):=by
 have h7:=hp.pos;unfold zV5
 by_cases h:r.length=D
 ·rw[jV (by omega),zQ]
  refine(sZ r.length (fun i=>0≤at0 r i∧at0 r i≤p-1) rfl (fun i hi _=>?_) ?_).iff ⟨fun g=>⟨h,by grind⟩,fun g=>by rw[h];exact g.2⟩
  ·refine tC (zAh _ _ _) (by omega) ?_
   unfold zQW;rw[yT hi,zM,yQ hi,bs,zE (by omega) (by omega),bs]
  ·unfold zQW
   simp
 ·rw[kF (by omega),zM]
  exact .inr ⟨rfl,fun g=>h g.1⟩
theorem zGF{p:Int}(hp:Prime p)(hD:D≤8):IsB (zVd p (D:Int) r) (Row p D r):=by
 have h7:=hp.pos;unfold zVd
 by_cases h:r.length=D
 ·rw[jV (by omega),zQ]
  refine(sZ r.length (fun i=>0≤at0 r i∧at0 r i≤p-1) rfl (fun i hi _=>?_) ?_).iff ⟨fun g=>⟨h,by grind⟩,fun g=>by rw[h];exact g.2⟩
  ·refine tC (zCX _ _ _) (by omega) ?_
   unfold zQT;rw[yT hi,zM,yQ hi,bs,zE (by omega) (by omega),bs]
  ·unfold zQT
   simp
 ·rw[kF (by omega),zM]
  exact .inr ⟨rfl,fun g=>h g.1⟩
theorem zRx{p:Int}{B:Mx}(hp:Prime p)(hD:D≤8):IsB (zXE p (D:Int) B) (Mat p D B):=by
 unfold zXE
 by_cases h:B.length=D
 ·rw[jV (by omega),zQ]
  refine(sZ B.length (fun i=>Row p D (B.getD i [])) rfl (fun i hi _=>?_) ?_).iff ⟨fun g=>⟨h,by grind⟩,fun g=>by rw[h];exact g.2⟩
  ·refine tC (zGF hp hD) (by omega) ?_
   unfold zQU;rw[yT hi,zM,yO [] hi,bs]
  ·unfold zQU
   simp
 ·rw[kF (by omega),zM]
  exact .inr ⟨rfl,fun g=>h g.1⟩
theorem zJk{p:Int}{B:Mx}(hp:Prime p)(hD:D≤8)(hB:B.length=D):IsB (zXI (zO.mk p (D:Int) B)) (Mat p D B):=by
 unfold zXI;simp only
 rcases zCe p with⟨h1,_⟩|⟨_,h2⟩
 ·rw[h1,bs,Ji,zQ]
  rcases zAh (D:Int) 0 8 with⟨h3,_⟩|⟨_,h4⟩
  ·rw[h3,bs,Ji,zQ,iJ (by omega),zQ]
   refine(sZ (body:=zNx (zO.mk p (D:Int) B)) D (fun i=>Row p D (B.getD i [])) rfl (fun i hi _=>?_) ?_).iff ⟨fun g=>⟨hB,g⟩,fun g=>g.2⟩
   ·refine tC (zGE hp hD) (by omega) ?_
    unfold zNx;simp only
    rw[hB,yT hi,zM,yO [] (by omega),bs]
   ·unfold zNx
    grind
  omega
 grind
theorem zEz{B:Mx}(hA:A.length≤1000)(h:∀r∈A,r.length≤1000):zVj A B=iF (A==B):=
 zJP (t:=zLy) (body:=zVi A B) rfl (fun _=>rfl) (by omega) (by grind[zRv])
theorem zDZ{B:Mx}(hA:A.length≤1000)(h:∀r∈A,r.length≤1000):zVF A B=iF (A==B):=by unfold zVF;rw[zJP (f:=yAD A B) (t:=zLz) (body:=zVE A B) rfl (fun _=>rfl) (by omega) (by grind[zEx]),bs]
theorem Mat.small{p:Int}(h:Mat p D A)(hD:D≤8):A.length≤1000∧ ∀r∈A,r.length≤1000:=by
 refine⟨by have:=h.1;omega,fun r hr=>?_⟩;obtain⟨i,hi,rfl⟩:=K4.1 hr;have:=h.2 i (by rw[←h.1];exact hi);rw[J3,J5 hi]at this;have:=this.1
 grind
def zC6(x:SPr)(m:zB)(D:Nat):Prop:=
 ∀i,i<x.zA.length→wM m.Prime D m.zF (J1 (at0 x.zA i).toNat i) (idM D)=wM m.Prime D m.zF (nw 0 (x.zV.getD i [])) (idM D)∧
  ∀j,i+1≤j→j<x.zA.length→PM m.Prime D (m.zF.getD j []) (m.zF.getD i [])=PM m.Prime D (m.zF.getD i []) (wM m.Prime D m.zF (nw 0 ((x.zG.getD i []).getD (j-(i+1)) [])) (idM D))
theorem jO{x:SPr}(ho:Os x.zA)(h:Exp x.zA v i):v.length=x.zA.length∧ ∀j,j<x.zA.length→0≤at0 v j∧at0 v j≤6:=by have h1:=h.1.1;refine⟨h1,fun j hj=>?_⟩;have:=h.1.2 j (by omega);have:=(ho.2 j hj).pos;omega
section
variable {x:SPr}{m:zB}{D:Nat} (h:Pres x) (hm:MOk x.zA.length m D)
 include h hm
theorem zRy(hi:i<x.zA.length):(x.zV.getD i []).length=x.zA.length∧ ∀j,j<x.zA.length→0≤at0 (x.zV.getD i []) j∧at0 (x.zV.getD i []) j≤6:=have _:=hm;jO h.os (h.tl i hi).1
theorem zO3(hi:i<x.zA.length)(hj:j<(x.zG.getD i []).length):((x.zG.getD i []).getD j []).length=x.zA.length∧ ∀q,q<x.zA.length→0≤at0 ((x.zG.getD i []).getD j []) q∧at0 ((x.zG.getD i []).getD j []) q≤6:=have _:=hm;jO h.os ((h.tl i hi).2.2 j hj)
theorem zRz:IsB ((zI (zVn x m) 0).bind fun r=>match r with|.inl _=>iF iH|.inr r=>iF r) (zC6 x m D):=by
 have h6:=h.os.1;have h7:=hm.p.pos;have h3:=hm.d3;have gj:=hm.len;refine sZ x.zA.length (fun i=>wM m.Prime D m.zF (J1 (at0 x.zA i).toNat i) (idM D)=wM m.Prime D m.zF (nw 0 (x.zV.getD i [])) (idM D)∧
  ∀j,i+1≤j→j<x.zA.length→PM m.Prime D (m.zF.getD j []) (m.zF.getD i [])=PM m.Prime D (m.zF.getD i []) (wM m.Prime D m.zF (nw 0 ((x.zG.getD i []).getD (j-(i+1)) [])) (idM D))) rfl (fun i hi _=>?_) ?_
 ·have co:=(h.os.2 i hi).pos
  have cU:=h.pl;have gC:=h.cl;obtain⟨p1,p2⟩:=zRy h hm hi;have t2:=(h.tl i hi).2.1;have hI:=tD (p:=m.Prime) (D:=D) h7.1;unfold zVn;rw[yT hi,zM,hm.d,zEy hm.p (by omega),bs];rw[uF (S:=Mat m.Prime D) (body:=zVl x m (i:Int)) (fun B=>B) (fun B=>PM m.Prime D B (m.zF.getD i [])) (at0 x.zA i) (by omega) (fun B hB=>zCh (by omega) hB.1) (fun B q hB hq=>by
   unfold zVl;simp only
   rw[yQ hi,bs,iL hq,zM,yO [] (by omega),bs,hm.d,zAb hm.p (by omega) hB (hm.mat i hi),bs,zE (by omega) (by omega),bs,cs]) (fun B hB=>by
   unfold zVl;simp only
   rw[yQ hi,bs,iJ (by omega),zQ]) hI,bs,yO [] (by omega),bs,zME hm (by omega) p1 p2,bs,←zIt]
  have hs:=(zCk (p:=m.Prime) (D:=D) (A:=m.zF) (by omega) (J1 (at0 x.zA i).toNat i) hI).small (by omega);rw[zEz hs.1 hs.2,bs]
  by_cases hq:wM m.Prime D m.zF (J1 (at0 x.zA i).toNat i) (idM D)=wM m.Prime D m.zF (nw 0 (x.zV.getD i [])) (idM D)
  ·rw[show(wM m.Prime D m.zF (J1 (at0 x.zA i).toNat i) (idM D)==wM m.Prime D m.zF (nw 0 (x.zV.getD i [])) (idM D))=iH from by grind,Ji,zQ,zE (by omega) (by omega),bs,cs]
   rcases chk (body:=zVm x m (i:Int)) x.zA.length (i+1) (by omega) (fun j=>PM m.Prime D (m.zF.getD j []) (m.zF.getD i [])=PM m.Prime D (m.zF.getD i []) (wM m.Prime D m.zF (nw 0 ((x.zG.getD i []).getD (j-(i+1)) [])) (idM D))) (fun _=>iI) (fun j h1 h2 _=>by
     obtain⟨c1,c2⟩:=zO3 h hm (j:=j-(i+1)) hi (by omega);have hjm:=hm.mat j h2;have him:=hm.mat i hi;have hw:=zCk (p:=m.Prime) (D:=D) (A:=m.zF) (by omega) (nw 0 ((x.zG.getD i []).getD (j-(i+1)) [])) hI;have hs:=(zCh (p:=m.Prime) (B:=m.zF.getD i []) (by omega) hjm.1).small (by omega);refine tC (o:=iF (PM m.Prime D (m.zF.getD j []) (m.zF.getD i [])==PM m.Prime D (m.zF.getD i []) (wM m.Prime D m.zF (nw 0 ((x.zG.getD i []).getD (j-(i+1)) [])) (idM D)))) (IsB.of_bool (by simp)) (by omega) ?_;unfold zVm;rw[yT h2,zM,yO (i:=j) [] (by omega),bs,yO (i:=i) [] (by omega),bs,hm.d,zAb hm.p (by omega) hjm him,bs,bs,yO (i:=i) [] (by omega),bs,zE (by omega) (by omega),bs,zE (by omega) (by omega),bs,show(j:Int)-(i:Int)-1=((j-(i+1):Nat):Int)from by omega,yO [] (by omega),bs,zME hm (by omega) c1 c2,bs,zAb hm.p (by omega) him hw,bs,zEz hs.1 hs.2]) (by
     unfold zVm;simp)with⟨g1,g2⟩|⟨j,j1,j2,g1,g2⟩
   ·grind
   ·right
    rw[g1,bs]
    grind
  grind
 ·unfold zVn
  simp
end
def zYG(x:SPr)(m:zB):Prop:=qC x∧ ∃D,MOk x.zA.length m D∧zC6 x m D
theorem zJl{x:SPr}{m:zB}(hl:x.zA.length≤1048576):IsB (zXF x m) (zYG x m):=by
 unfold zXF;rcases zIp hl with⟨h1,h2⟩|⟨h1,h2⟩
 ·have h6:=h2.1.os.1
  rw[h1,bs,zM];unfold f_w;rcases zIi m.Prime with⟨p1,p2⟩|⟨p1,p2⟩
  ·rw[p1,bs,Ji,zQ]
   rcases zCX m.Dim 1 3 with⟨d1,d2⟩|⟨d1,d2⟩
   ·rw[d1,bs,Ji,zQ]
    obtain⟨D,hD⟩:∃D:Nat,m.Dim=(D:Int):=⟨m.Dim.toNat,by omega⟩
    by_cases gj:m.zF.length=x.zA.length
    ·rw[jV (by omega),zQ]
     rcases chk (body:=zVk x m) x.zA.length 0 (Ka _) (fun i=>Mat m.Prime D (m.zF.getD i [])) (fun _=>iI) (fun i _ hi _=>by
       refine tC (zRx p2 (D:=D) (by omega)) (by omega) ?_;unfold zVk;rw[yT hi,zM,yO [] (by omega),bs,hD]) (by
       unfold zVk;simp)with⟨g1,g2⟩|⟨i,_,hi,g1,g2⟩
     ·rw[show((0:Nat):Int)=0 from rfl]at g1
      have hm:MOk x.zA.length m D:=⟨p2,hD,by omega,by omega,gj,by grind⟩;rw[g1,bs];refine(zRz h2.1 hm).b.iff ⟨fun k2=>⟨h2,D,hm,k2⟩,fun⟨_,D',gD,hr⟩=>?_⟩;have:D'=D:=by have:=gD.d;omega
      grind
     ·rw[show((0:Nat):Int)=0 from rfl]at g1
      rw[g1,bs];refine .inr ⟨rfl,fun⟨_,D',gD,_⟩=>g2 ?_⟩;have:D'=D:=by have:=gD.d;omega
      rw[←this];exact gD.mat i hi
    ·rw[kF (by omega),zM]
     exact .inr ⟨rfl,fun⟨_,D',gD,_⟩=>gj gD.len⟩
   ·rw[d1,bs,K7,zM]
    exact .inr ⟨rfl,fun⟨_,D',gD,_⟩=>d2 (by have:=gD.d;have:=gD.d1;have:=gD.d3;omega)⟩
  ·rw[p1,bs,K7,zM]
   exact .inr ⟨rfl,fun⟨_,D',gD,_⟩=>p2 gD.p⟩
 ·rw[h1,bs,zQ]
  exact .inr ⟨rfl,fun g=>h2 g.1⟩
abbrev Rl:=List Nat×List Nat
def r1(x:SPr)(i:Nat):Rl:=(J1 (at0 x.zA i).toNat i,nw 0 (x.zV.getD i []))
def r2(x:SPr)(i j:Nat):Rl:=([i+j+1,i],i::nw 0 ((x.zG.getD i []).getD j []))
def R2(x:SPr)(i:Nat):List Rl:=(Jb (x.zG.getD i []).length).map (r2 x i)
def wD(x:SPr):List Rl:=(Jb x.zA.length).map (r1 x)++(Jb x.zA.length).flatMap (R2 x)
abbrev enR(q:Rl):List Int×List Int:=(enW q.1,enW q.2)
section
variable {x:SPr} (h:Pres x)
 include h
theorem zZW(hi:i<x.zA.length):(R2 x i).length≤9:=by
 have:=(h.tl i hi).2.1;have:=h.os.1
 grind[R2]
theorem zIv:∀i,i≤x.zA.length→((Jb i).flatMap (R2 x)).length≤9*i
 |0,_=>by simp
 |i+1,hi=>by
  have:=zIv i (by omega)
  grind[zZW,L7]
theorem zXg:enW (J1 k i)=J1 k ((i:Int)+1):=by have _:=h;simp
theorem zAM:f_D x=iF ((wD x).map enR):=by
 have h6:=h.os.1;have cU:=h.pl;have gC:=h.cl;unfold f_D;have l1:=zX (body:=zV9 x) (r:=((Jb x.zA.length).map (r1 x)).map enR) (fun i=>(((Jb i).map (r1 x)).map enR,(i:Int))) x.zA.length (fun i hi=>by
  obtain⟨p1,p2⟩:=jO h.os (h.tl i hi).1;unfold zV9;simp only
  rw[yT hi,zM,yQ hi,bs,zE (by omega) (by omega),bs,zDh (h.os.2 i hi),bs,yO [] (by omega),bs,zAt (by omega) (by rw[p1];exact p2),bs,yI (by simp only[Jt,H4,J8,Jx];omega),bs,bs,cs,L7];simp only[Lm,Jr,Ub,r1,enR,zXg h,cs]) (by
  unfold zV9;simp)
 rw[show((0:Nat):Int)=0 from rfl]at l1;simp only[List.range_zero,Ub]at l1;rw[l1,bs];have l3:=zX (body:=zVB x) (r:=(wD x).map enR) (fun i=>(((Jb x.zA.length).map (r1 x)++(Jb i).flatMap (R2 x)).map enR,(i:Int))) x.zA.length (fun i hi=>by
  have t2:=(h.tl i hi).2.1;have dc:=zIv h i (by omega);unfold zVB;simp only
  rw[yT hi,zM,yO [] (by omega),bs];have l2:=zX (body:=zVA (((Jb x.zA.length).map (r1 x)++(Jb i).flatMap (R2 x)).map enR,(i:Int)) (x.zG.getD i [])) (r:=((Jb x.zA.length).map (r1 x)++(Jb (i+1)).flatMap (R2 x)).map enR)
   (fun j=>(((Jb x.zA.length).map (r1 x)++(Jb i).flatMap (R2 x)++(Jb j).map (r2 x i)).map enR,(j:Int))) (x.zG.getD i []).length (fun j hj=>by
    obtain⟨p1,p2⟩:=jO h.os ((h.tl i hi).2.2 j hj);have pB:=zGk 0 ((x.zG.getD i []).getD j []) (by grind);unfold zVA;simp only
    rw[yT hj,zM,yO [] hj,bs,zE (by omega) (by omega),bs,zE (by omega) (by omega),bs,zE (by omega) (by omega),bs,zAt (by omega) (by rw[p1];exact p2),bs,yI (by simp only[Jt,J8,Jx];omega),bs,yI (by simp only[Jt,J9,H4,J8,Jx];omega),bs,zE (by omega) (by omega),bs,cs,L7];have e1:(i:Int)+(j:Int)+2=((i+j+1:Nat):Int)+1:=by omega
    simp only[Lm,Jr,Ub,r2,enR,enW,Jj,Li,e1];rfl) (by
    unfold zVA;simp only
    rw[qA,zQ,L7,Jcz]
    grind[R2])
  rw[show((0:Nat):Int)=0 from rfl]at l2
  grind[zE]) (by
  unfold zVB;simp only
  rw[qA,zQ];rfl)
 grind
theorem zJX{q:Rl}(hq:q∈wD x):((∀w∈q.1,w<x.zA.length)∧q.1.length≤1000)∧(∀w∈q.2,w<x.zA.length)∧q.2.length≤1000:=by
 have h6:=h.os.1;simp only[wD,Jd,Jl,Ln,Lg,R2]at hq;rcases hq with⟨i,hi,rfl⟩|⟨i,hi,j,hj,rfl⟩
 ·obtain⟨p1,p2⟩:=jO h.os (h.tl i hi).1
  have pB:=zGk 0 (x.zV.getD i []) (by rw[p1];exact fun i hi=>(p2 i hi).2);have co:=(h.os.2 i hi).pos;refine⟨⟨fun w hw=>?_,?_⟩,fun w hw=>zMD 0 _ (by omega) w hw,by simp only[r1];omega⟩
  ·have:=Lr hw;omega
  ·simp only[r1,Jc];omega
 ·obtain⟨p1,p2⟩:=jO h.os ((h.tl i hi).2.2 j hj)
  have t2:=(h.tl i hi).2.1;have pB:=zGk 0 ((x.zG.getD i []).getD j []) (by rw[p1];exact fun i hi=>(p2 i hi).2);refine⟨⟨fun w hw=>?_,by simp[r2]⟩,fun w hw=>?_,by simp only[r2,J8];omega⟩
  ·simp only[r2,J7,Ut,or_false]at hw;omega
  ·simp only[r2,J7]at hw
   rcases hw with rfl|hw
   ·exact hi
   ·exact zMD 0 _ (by omega) w hw
variable {m:zB}{D:Nat} (hm:MOk x.zA.length m D)
 include hm
theorem zMG:(∀q∈wD x,wM m.Prime D m.zF q.1 (idM D)=wM m.Prime D m.zF q.2 (idM D))↔zC6 x m D:=by
 have h7:=hm.p.pos;have hI:=tD (p:=m.Prime) (D:=D) h7.1;have key:∀i j,i<x.zA.length→j<x.zA.length→ ∀ws,(wM m.Prime D m.zF [j,i] (idM D)=wM m.Prime D m.zF (i::ws) (idM D)↔PM m.Prime D (m.zF.getD j []) (m.zF.getD i [])=PM m.Prime D (m.zF.getD i []) (wM m.Prime D m.zF ws (idM D))):=fun i j hi hj ws=>by
  have fu:=hm.mat i hi;have mz:=hm.mat j hj;have e1:wM m.Prime D m.zF [j,i] (idM D)=PM m.Prime D (m.zF.getD j []) (m.zF.getD i []):=by show PM _ _ (PM _ _ (idM D) _) _=_;rw[zCi mz]
  have e2:wM m.Prime D m.zF (i::ws) (idM D)=PM m.Prime D (m.zF.getD i []) (wM m.Prime D m.zF ws (idM D)):=by show wM _ _ _ ws (PM _ _ (idM D) _)=_;rw[zCi fu,←zIu (by omega) fu.1 ws hI,zBF fu]
  rw[e1,e2]
 constructor
 ·intro g i hi
  have t2:=(h.tl i hi).2.1;refine⟨g (r1 x i) (by simp only[wD,Jd,Jl,Ln];grind),fun j h1 h2=>?_⟩;have:=g (r2 x i (j-(i+1))) (by
   simp only[wD,Jd,Lg,Ln,R2,Jl]
   grind)
  simp only[r2]at this;rw[show i+(j-(i+1))+1=j from by omega]at this
  grind
 ·intro g q hq
  simp only[wD,Jd,Jl,Ln,Lg,R2]at hq;rcases hq with⟨i,hi,rfl⟩|⟨i,hi,j,hj,rfl⟩
  ·exact(g i hi).1
  ·have t2:=(h.tl i hi).2.1
   have:=(g i hi).2 (i+j+1) (by omega) (by omega);rw[show i+j+1-(i+1)=j from by omega]at this;exact(key i (i+j+1) hi (by omega) _).2 this
theorem zR0:IsB ((zI (zVH m ((wD x).map enR)) 0).bind fun r=>match r with|.inl _=>iF iH|.inr r=>iF r) (zC6 x m D):=by
 have h6:=h.os.1;have h7:=hm.p.pos;have h3:=hm.d3;have hI:=tD (p:=m.Prime) (D:=D) h7.1;have dc:=zIv h x.zA.length (Jh _);have cR:(wD x).length≤1000:=by simp only[wD,J9,Jt,H4];omega
 refine(sZ (wD x).length (fun k=>wM m.Prime D m.zF ((wD x).getD k ([],[])).1 (idM D)=wM m.Prime D m.zF ((wD x).getD k ([],[])).2 (idM D)) rfl (fun k hk _=>?_) ?_).iff ⟨fun g=>(zMG h hm).1 fun q hq=>?_,fun g k hk=>(zMG h hm).2 g _ ?_⟩
 ·have gp:(wD x).getD k ([],[])∈wD x:=by
   rw[J3,J5 hk];exact Jy hk
  obtain⟨⟨g1,g2⟩,g3,g4⟩:=zJX h gp;have hs:=(zCk (p:=m.Prime) (D:=D) (A:=m.zF) (by omega) ((wD x).getD k ([],[])).1 hI).small (by omega);refine tC (o:=iF (wM m.Prime D m.zF ((wD x).getD k ([],[])).1 (idM D)==wM m.Prime D m.zF ((wD x).getD k ([],[])).2 (idM D))) (IsB.of_bool (by rw[beq_iff_eq])) (by omega) ?_;unfold zVH;rw[Jt,yT hk,zM,vP,K3,J5 hk];rw[J3,J5 hk]at g1 g2 g3 g4 hs ⊢
  simp only[Ha,Jbb]at g1 g2 g3 g4 hs ⊢
  rw[bs,zBt hm h6 g1 (H2 g2 (by omega)),bs,zBt hm h6 g3 (H2 g4 (by omega)),bs];simp only
  rw[zDZ hs.1 hs.2]
 ·unfold zVH
  rw[Jt,qA,zQ]
 ·obtain⟨k,hk,rfl⟩:=K4.1 hq
  have:=g k hk;rw[J3,J5 hk]at this;exact this
 ·rw[J3,J5 hk];exact Jy hk
end
theorem zJm{x:SPr}{m:zB}(hl:x.zA.length≤1048576)(_hal:m.zF.length≤1048576):IsB (f_K x m) (zYG x m):=by
 unfold f_K;rcases jW hl with⟨h1,h2⟩|⟨h1,h2⟩
 ·have h6:=h2.1.os.1
  rw[h1,bs,Ji,zQ];rcases zCe m.Prime with⟨p1,p2⟩|⟨p1,p2⟩
  ·rw[p1,bs,Ji,zQ]
   rcases zAh m.Dim 1 3 with⟨d1,d2⟩|⟨d1,d2⟩
   ·rw[d1,bs,Ji,zQ]
    obtain⟨D,hD⟩:∃D:Nat,m.Dim=(D:Int):=⟨m.Dim.toNat,by omega⟩
    by_cases gj:m.zF.length=x.zA.length
    ·rw[jV (by omega),zQ]
     rcases chk (body:=zVG m) m.zF.length 0 (Ka _) (fun i=>Mat m.Prime D (m.zF.getD i [])) (fun _=>iI) (fun i _ hi _=>by
       unfold zVG;rw[yT hi,zM,yO [] hi,bs,hD]
       by_cases hr:(m.zF.getD i []).length=D
       ·rw[jV (by omega),zQ]
        refine tC (zJk p2 (D:=D) (by omega) hr) (by omega) ?_
        grind[zPn,yO]
       ·rw[kF (by omega),zM]
        exact .inr ⟨rfl,fun g=>hr g.1⟩) (by
       unfold zVG;simp)with⟨g1,g2⟩|⟨i,_,hi,g1,g2⟩
     ·rw[show((0:Nat):Int)=0 from rfl]at g1
      have hm:MOk x.zA.length m D:=⟨p2,hD,by omega,by omega,gj,by grind⟩;rw[g1,bs,zAM h2.1];simp only
      rw[bs];refine(zR0 h2.1 hm).iff ⟨fun k2=>⟨h2,D,hm,k2⟩,fun⟨_,D',gD,hr⟩=>?_⟩;have:D'=D:=by have:=gD.d;omega
      grind
     ·rw[show((0:Nat):Int)=0 from rfl]at g1
      rw[g1,bs];refine .inr ⟨rfl,fun⟨_,D',gD,_⟩=>g2 ?_⟩;have:D'=D:=by have:=gD.d;omega
      rw[←this];exact gD.mat i (by omega)
    ·rw[kF (by omega),zM]
     exact .inr ⟨rfl,fun⟨_,D',gD,_⟩=>gj gD.len⟩
   ·rw[d1,bs,K7,zM]
    exact .inr ⟨rfl,fun⟨_,D',gD,_⟩=>d2 (by have:=gD.d;have:=gD.d1;have:=gD.d3;omega)⟩
  ·rw[p1,bs,K7,zM]
   exact .inr ⟨rfl,fun⟨_,D',gD,_⟩=>p2 gD.p⟩
 ·rw[h1,bs,K7,zM]
  exact .inr ⟨rfl,fun g=>h2 g.1⟩
theorem zGl{xs:List (List Int)}(h:i<xs.length):(xs.take (i+1)).flatten=(xs.take i).flatten++xs.getD i []:=by grind[Js]
theorem zKR{xs:List (List Int)}(i:Nat):(xs.take i).flatten.length≤xs.flatten.length:=by grind[Jao]
theorem zR1(hk:k≤1000000):zVI (k:Int)=iF []:=by
 unfold zVI;rw[iJ (by omega),zQ,zE (by decide) (by decide),bs,zE (by omega) (by omega),bs]
 by_cases h:(k:Int)-(0-0)> 0
 ·rw[iL h,zM]
  have e:tM ([]:List Int) ((k:Int)-(0-0)) 0=iF (J1 k 0):=by
   unfold tM
   grind
  rw[e,bs];rfl
 grind
theorem qF{xs:List (List Int)}(hx:xs.length≤1000)(hf:xs.flatten.length≤1000000):f_q xs=iF xs.flatten:=by
 unfold f_q;have l1:=zX (body:=zVJ xs) (r:=((xs.flatten.length:Nat):Int)) (fun i=>((((xs.take i).flatten.length:Nat):Int),(i:Int))) xs.length (fun i hi=>by
  have h1:=zGl hi;have h2:=zKR (xs:=xs) (i+1);have h3:=congrArg Jb2 h1;rw[J9]at h3;unfold zVJ;simp only
  rw[yT hi,zM,yO [] hi,bs,zE (by omega) (by omega),bs,iJ (by omega),zQ,zE (by omega) (by omega),bs,cs,h3]
  congr 3) (by
  unfold zVJ;simp)
 rw[show((0:Nat):Int)=0 from rfl]at l1;simp only[Kd,Q9,Jx]at l1;rw[show((0:Nat):Int)=0 from rfl]at l1;rw[l1,bs,zR1 hf,bs];have l2:=zX (body:=zVK xs) (r:=xs.flatten) (fun i=>((xs.take i).flatten,(i:Int))) xs.length (fun i hi=>by
  have h1:=zGl hi;have h2:=zKR (xs:=xs) (i+1);have h3:=congrArg Jb2 h1;rw[J9]at h3;unfold zVK;simp only
  rw[yT hi,zM,yO [] hi,bs,yI (by omega),bs,zE (by omega) (by omega),bs,cs,h1]) (by
  unfold zVK;simp)
 grind
theorem zMH{a b:Nat}(hr:r.length≤1000)(ha:a≤1000)(hb:b≤1000):zVL r (a:Int) (b:Int)=iF (J1 a 0++(r++J1 b 0)):=by grind[zVL,xF,qF]
section
variable {p:Int}
def vZ(p:Int)(D:Nat)(r:List Int)(k:Int)(s:List Int):List Int:=mkv D fun j=>(at0 r j+k*at0 s j)%p
theorem zFi{k:Int}:(vZ p D r k s).length=D:=zY _ _
def zJn(p:Int)(D i:Nat)(r:List Int)(k:Int)(s:List Int):List Int:=mkv D fun j=>if j<i then(at0 r j+k*at0 s j)%p else at0 r j
theorem zJY{k:Int}(hr:r.length=D):zJn p D 0 r k s=r:=by
 conv=>rhs;rw[vH hr]
 rfl
theorem zJZ{k:Int}:zJn p D D r k s=vZ p D r k s:=yB (by omega)
theorem zMI{k:Int}(ha:a=(at0 r i+k*at0 s i)%p):(zJn p D i r k s).set i a=zJn p D (i+1) r k s:=by
 simp only[zJn];rw[qL]
 grind
theorem zQs{k:Int}(hi:i<D):at0 (zJn p D i r k s) i=at0 r i:=by rw[zJn,yA hi,if_neg (by omega)]
theorem zFj{k:Int}:(zJn p D i r k s).length=D:=zY _ _
end
section
variable {p:Int} (hp:Prime p)
 include hp
theorem zMJ(_h0:-1000≤a)(_h1:a≤1000):zL2 a p=iF (a%p):=by
 have h7:=hp.pos;have e1:=Jaq a (show 0<p by omega);have e2:=Jar a (show 0<p by omega);have e3:(Jbi a p+p)%p=a%p:=by
  rw[Q4];have:=Jab a p
  conv=>rhs;rw[←this]
  simp
 unfold zL2 tV;rw[if_neg (by omega),bs,zE (by omega) (by omega),bs,if_neg (by omega),bs,Le (by omega),e3]
theorem zMK(_h0:-1000≤a)(_h1:a≤1000):zVV a p=iF (a%p):=by
 have h7:=hp.pos;have e1:=Jaq a (show 0<p by omega);have e2:=Jar a (show 0<p by omega);have e3:(Jbi a p+p)%p=a%p:=by
  rw[Q4];have:=Jab a p
  conv=>rhs;rw[←this]
  simp
 unfold zVV tV;rw[if_neg (by omega),bs]
 by_cases h:Jbi a p<0
 ·rw[iL h,zM,zE (by omega) (by omega),bs,←e3,Jw (by omega) (by omega)]
 ·rw[iJ h,zQ,←e3,Q4,Jw (by omega) (by omega)]
theorem zAm{k:Int}:Row p D (vZ p D r k s):=by have h7:=hp.pos;refine⟨zY _ _,fun i hi=>?_⟩;have e:at0 (vZ p D r k s) i=(at0 r i+k*at0 s i)%p:=yA hi;have e1:=Kq (at0 r i+k*at0 s i) (show p≠0 by omega);have e2:=Kf (at0 r i+k*at0 s i) (show 0<p by omega);omega
theorem zCl{k b:Int}(hk:-7≤k∧k≤7)(hb:0≤b∧b≤p-1):-49≤k*b∧k*b≤49:=by
 have h7:=hp.pos;rcases Int.le_total 0 k with h|h
 ·have h1:=G7 h hb.1
  have h2:=Lf hk.2 (show b≤7 by omega) hb.1 (by omega);omega
 ·have h1:=G7 (show 0≤ -k by omega) hb.1
  have h2:=Lf (show -k≤7 by omega) (show b≤7 by omega) hb.1 (by omega);rw[Int.neg_mul]at h1 h2;omega
theorem zBH{k:Int}(hr:Row p D r)(hs:Row p D s)(hk:-7≤k∧k≤7)(hD:D≤1000000):f_v r s k p=iF (vZ p D r k s):=by
 have h7:=hp.pos;have:=zX (body:=zNy r s k p) (r:=vZ p D r k s) (fun i=>(zJn p D i r k s,(i:Int))) D (fun i hi=>by
  have a1:=hr.2 i hi;have a2:=hs.2 i hi;have a3:=zCl hp hk a2;unfold zNy;simp only
  rw[hr.1,yT hi,zM,yQ (by grind[zFj]),bs,yQ (by rw[hs.1];exact hi),bs,zE (by omega) (by omega),bs,zQs hi,zE (by omega) (by omega),bs,zMJ hp (by omega) (by omega),bs,bs,zE (by omega) (by omega),bs,cs,J6,zMI rfl]) (by
  unfold zNy;simp only
  rw[hr.1,qA,zQ,zJZ])
 rw[show((0:Nat):Int)=0 from rfl,zJY hr.1]at this
 grind[f_v]
theorem tY{k:Int}(hr:Row p D r)(hs:Row p D s)(hk:-7≤k∧k≤7)(hD:D≤1000000):f_A p r k s=iF (vZ p D r k s):=by
 have h7:=hp.pos;have:=zX (body:=zVW p k s) (r:=vZ p D r k s) (fun i=>(zJn p D i r k s,(i:Int))) D (fun i hi=>by
  have a1:=hr.2 i hi;have a2:=hs.2 i hi;have a3:=zCl hp hk a2;unfold zVW;simp only
  rw[zFj,yT hi,zM,hs.1,yT hi,zM,yQ (by grind[zFj]),bs,yQ (by rw[hs.1];exact hi),bs,zE (by omega) (by omega),bs,zQs hi,zE (by omega) (by omega),bs,zMK hp (by omega) (by omega),bs,bs,zE (by omega) (by omega),bs,cs,J6,zMI rfl]) (by
  unfold zVW;simp only
  rw[zFj,qA,zQ,zJZ])
 rw[show((0:Nat):Int)=0 from rfl,zJY hr.1]at this;unfold f_A;rw[qB (by rw[hr.1];omega),bs,this,bs]
end
theorem zE0{p:Int}:vZ p D r (p-1) s=vZ p D r (-1) s:=yB fun j _=>by rw[show at0 r j+(p-1)*at0 s j=at0 r j+ -1*at0 s j+p*at0 s j from by grind,G9]
theorem zR2{p:Int}(hr:Row p D r)(hs:Row p D s):(∀j,j<D→at0 (vZ p D r (-1) s) j=0)↔r=s:=by
 constructor
 ·intro h
  rw[vH hr.1,vH hs.1];refine yB fun j hj=>?_
  have h1:=h j hj;rw[vZ,yA hj]at h1;have a1:=hr.2 j hj;have a2:=hs.2 j hj;obtain⟨c,hc⟩:=Int.dvd_of_emod_eq_zero h1;have:c=0:=by
   rcases Jce c 0 with h|h|h
   ·have:=Lx (show c≤ -1 by omega) (show 0≤p by omega);omega
   ·exact h
   ·have:=Lx (show 1≤c by omega) (show 0≤p by omega);omega
  grind
 ·rintro rfl j hj
  rw[vZ,yA hj,show at0 r j+ -1*at0 r j=0 from by omega];simp
def VOk(n:Nat)(p:Int)(D:Nat)(vals:Mx):Prop:=vals.length=n∧ ∀i,i<n→Row p D (vals.getD i [])
def stp(m:zB)(D:Nat)(vals:Mx)(v:List Int)(w:Nat):List Int:=vZ m.Prime D (xY m.Prime D v (m.zF.getD w [])) 1 (vals.getD w [])
def ev(m:zB)(D:Nat)(vals:Mx)(v:List Int)(ws:List Nat):List Int:=ws.foldl (stp m D vals) v
theorem zKa{m:zB}{vals:Mx}{a b:List Nat}:ev m D vals v (a++b)=ev m D vals (ev m D vals v a) b:=by simp[ev,Gl]
theorem zO4{m:zB}{D:Nat}{vals:Mx}{w:Nat}:∀(k:Nat)(v:List Int),ev m D vals v (J1 k w)=iter k (fun v=>stp m D vals v w) v
 |0,_=>rfl
 |k+1,v=>by rw[Jq];show ev m D vals (stp m D vals v w) (J1 k w)=_;rw[zO4 k];rfl
abbrev z0(D:Nat):List Int:=J1 D 0
theorem zE1{p:Int}(hp:0<p):Row p D (z0 D):=by
 refine⟨by simp,fun i hi=>?_⟩
 grind
theorem vG{p:Int}{B:Mx}(hp:0<p):Row p D (xY p D r B):=by
 refine⟨zY _ _,fun i hi=>?_⟩;have e1:=Kq (S D (fun l=>at0 r l*ent B l i)) (show p≠0 by omega);have e2:=Kf (S D (fun l=>at0 r l*ent B l i)) hp
 grind[xY,yA]
section
variable {n D:Nat}{m:zB} (hm:MOk n m D) (hn:n≤9) {vals:Mx} (hv:VOk n m.Prime D vals)
 include hm hn hv
theorem zCm{w:Nat}:Row m.Prime D (stp m D vals v w):=by have _:=hn;have _:=hv;exact zAm hm.p
theorem zE2(h:Row m.Prime D v):∀ws,Row m.Prime D (ev m D vals v ws):=by
 intro ws
 induction ws generalizing v with
 |nil=>exact h
 |cons w ws ih=>exact ih (zCm hm hn hv)
theorem zBI{w:Nat}(h:Row m.Prime D v)(hw:w<n):zNB m vals v (w:Int)=iF (stp m D vals v w):=by have _:=hn;have h7:=hm.p.pos;have h3:=hm.d3;unfold zNB;rw[yO [] (by rw[hm.len];exact hw),bs,hm.d,zCj hm.p (by omega) h (hm.mat w hw),bs,yO [] (by rw[hv.1];exact hw),bs,tY hm.p (vG (by omega)) (hv.2 w hw) (by omega) (by omega),bs];rfl
theorem zGG{x:List Int}(h:Row m.Prime D v)(hl:x.length=n)(hx:∀i,i<n→0≤at0 x i∧at0 x i≤6):f_S m vals v x=iF (ev m D vals v (nw 0 x)):=by
 have:=zX (body:=zWa m vals x) (r:=ev m D vals v (nw 0 x)) (fun i=>(ev m D vals v (nw 0 (x.take i)),(i:Int))) n (fun i hi=>by
  have aW:=hx i hi;unfold zWa;simp only
  rw[hl,yT hi,zM];rw[uF (S:=Row m.Prime D) (body:=zVZ m vals x (ev m D vals v (nw 0 (x.take i)),(i:Int))) (fun v=>v) (fun v=>stp m D vals v i) (at0 x i) aW.1 (by grind[zCm]) (fun u q hu hq=>by
   unfold zVZ;simp only
   rw[yQ (by omega),bs,iL hq,zM,zBI hm hn hv hu hi,bs,zE (by omega) (by omega),bs,cs]) (fun u hu=>by
   unfold zVZ;simp only
   rw[yQ (by omega),bs,iJ (by omega),zQ]) (zE2 hm hn hv h _),bs,zE (by omega) (by omega),bs,cs]
  grind[zKQ,zKa,zO4]) (by
  unfold zWa
  grind)
 rw[show((0:Nat):Int)=0 from rfl,Kd]at this
 grind[nw,ev,f_S]
theorem zFk{ws:List Nat}(hw:∀w∈ws,w<n)(hl:ws.length≤1000):zWb m vals (enW ws)=iF (ev m D vals (z0 D) ws):=by
 have h7:=hm.p.pos;have h3:=hm.d3;unfold zWb;rw[hm.d,xF (by omega),bs];have hz:=zE1 (p:=m.Prime) (D:=D) (by omega);have de:(enW ws).length=ws.length:=by simp
 have:=zX (body:=zNC m vals (enW ws)) (r:=ev m D vals (z0 D) ws) (fun i=>(ev m D vals (z0 D) (ws.take i),(i:Int))) ws.length (fun i hi=>by
  have mG:=hw ws[i] (Jy hi);have hr:=zE2 hm hn hv hz (ws.take i);unfold zNC;simp only
  rw[de,yT hi,zM,vP,K3,J5 hi];simp only[Ha];rw[bs,zE (by omega) (by omega),bs,show((ws[i]:Nat):Int)+1-1=((ws[i]:Nat):Int)from by omega,zDY hm hn mG,bs,zBG hm.p (by omega) hr (hm.mat _ mG) rfl,bs,bs,yO [] (by rw[hv.1];exact mG),bs,zBH hm.p (vG (by omega)) (hv.2 _ mG) (by omega) (by omega),bs,zE (by omega) (by omega),bs,cs,Js hi,zKa];rfl) (by
  unfold zNC;simp)
 rw[show((0:Nat):Int)=0 from rfl,Kd]at this
 grind[ev]
end
theorem zTL(hl:v.length≤1000000):IsB (f_U v) (∀i,i<v.length→at0 v i=0):=by
 refine sZ v.length (fun i=>at0 v i=0) rfl (fun i hi _=>?_) ?_
 ·unfold zNu
  rw[yT hi,zM,yQ hi,bs]
  by_cases h:at0 v i=0
  ·rw[show(at0 v i != 0)=iI from by grind,zQ,zE (by omega) (by omega),bs,cs];grind
  grind
 ·unfold zNu
  simp
theorem zR3(hl:v.length≤1000000):IsB (yAH v) (∀i,i<v.length→at0 v i=0):=zTL hl
section
variable {x:SPr} (h:Pres x) {m:zB}{D:Nat} (hm:MOk x.zA.length m D) {vals:Mx} (hv:VOk x.zA.length m.Prime D vals)
 include h hm hv
abbrev dfc(m:zB)(D:Nat)(vals:Mx)(q:Rl):List Int:=vZ m.Prime D (ev m D vals (z0 D) q.1) (-1) (ev m D vals (z0 D) q.2)
theorem zKS:(wD x).length≤100:=by
 have _:=hv;have _:=hm;have h6:=h.os.1;have dc:=zIv h x.zA.length (Jh _)
 grind[wD]
theorem zKT:zXV x m vals=iF ((wD x).map (dfc m D vals)):=by
 have h6:=h.os.1;have h7:=hm.p.pos;have h3:=hm.d3;have cR:=zKS h hm hv;have hz:=zE1 (p:=m.Prime) (D:=D) (by omega);unfold zXV;rw[zAM h,bs];have:=zX (body:=zND m vals ((wD x).map enR)) (r:=(wD x).map (dfc m D vals)) (fun i=>(((wD x).map (dfc m D vals)).take i,(i:Int))) (wD x).length (fun i hi=>by
  have gp:(wD x)[i]∈wD x:=Jy hi;obtain⟨⟨g1,g2⟩,g3,g4⟩:=zJX h gp;unfold zND;simp only
  rw[Jt,yT hi,zM,vP,K3,J5 hi];simp only[Ha];rw[bs,zFk hm h6 hv g1 g2,bs,zFk hm h6 hv g3 g4,bs,zBH hm.p (zE2 hm h6 hv hz _) (zE2 hm h6 hv hz _) (by omega) (by omega),bs,yI (by simp;omega),bs,zE (by omega) (by omega),bs,cs,Js (by simpa using hi)];simp) (by
  unfold zND;simp only
  rw[Jt,qA,zQ,Jn (by simp)])
 grind
end
theorem zR4{m:zB}{vals:Mx}(hp:Prime m.Prime)(hd:m.Dim=(D:Int))(hD:D≤8)(hl:vals.length≤1048576):IsB (yAI m vals) (∀i,i<vals.length→Row m.Prime D (vals.getD i [])):=by
 refine sZ vals.length (fun i=>Row m.Prime D (vals.getD i [])) rfl (fun i hi _=>?_) ?_
 ·refine tC (zGE hp hD (r:=vals.getD i [])) (by omega) ?_
  unfold zQY;rw[yT hi,zM,yO [] hi,bs,hd]
 ·unfold zQY
  simp
theorem zQt{b:Int}(h:a=b):(a==b)=iH:=by simp[h]
theorem zML{b:Int}(h:a≠b):(a==b)=iI:=by simp[h]
theorem IsB.both{o':Option Bool}(h:IsB o P)(h':IsB o' P):(o=iF iH∧o'=iF iH∧P)∨(o=iF iI∧o'=iF iI∧ ¬P):=by
 rcases h with⟨h1,h2⟩|⟨h1,h2⟩<;>rcases h' with⟨h3,h4⟩|⟨h3,h4⟩
 all_goals grind
def Sp(p:Int)(n:Nat)(R:Mx)(v:List Int):Prop:=∃c:Nat→Int,∀j,j<n→(S R.length fun i=>c i*ent R i j)%p=at0 v j%p
section
variable {p:Int}{n:Nat}{R R':Mx}{u v w:List Int}
theorem qG(hi:i<R.length):Sp p n R (R.getD i []):=by
 refine⟨fun l=>if l=i then 1 else 0,fun j _=>?_⟩
 grind[jX]
theorem zAN{k:Int}(hv:Sp p n R v)(hw:Sp p n R w)(h:∀j,j<n→at0 u j%p=(at0 v j+k*at0 w j)%p):Sp p n R u:=by
 obtain⟨c,hc⟩:=hv;obtain⟨d,hd⟩:=hw;refine⟨fun i=>c i+k*d i,fun j hj=>?_⟩;have e:(S R.length fun i=>(c i+k*d i)*ent R i j)=(S R.length fun i=>c i*ent R i j)+k*(S R.length fun i=>d i*ent R i j):=by
  rw[←zDg,←zDf]
  grind
 rw[e,h j hj,K9,hc j hj,Ju,hd j hj,←Ju,←K9]
theorem zFl(h:∀j,j<n→at0 u j%p=0):Sp p n R u:=by refine⟨fun _=>0,fun j hj=>?_⟩;rw[h j hj,xZ (g:=fun _=>0) (fun i _=>by simp),qD];simp
theorem zAn(h:∀i,i<R.length→Sp p n R' (R.getD i []))(hv:Sp p n R v):Sp p n R' v:=by
 obtain⟨c,hc⟩:=hv;have key:∀m,m≤R.length→ ∃d:Nat→Int,∀j,j<n→(S R'.length fun i=>d i*ent R' i j)%p=(S m fun i=>c i*ent R i j)%p:=by
  intro m
  induction m with
  |zero=>intro _;exact⟨fun _=>0,fun j _=>by rw[xZ (g:=fun _=>0) (fun i _=>by simp),qD];rfl⟩
  |succ m ih=>
   intro hm;obtain⟨d,hd⟩:=ih (by omega);obtain⟨e,he⟩:=h m (by omega);refine⟨fun i=>d i+c m*e i,fun j hj=>?_⟩;have e1:(S R'.length fun i=>(d i+c m*e i)*ent R' i j)=(S R'.length fun i=>d i*ent R' i j)+c m*(S R'.length fun i=>e i*ent R' i j):=by
    rw[←zDg,←zDf]
    grind
   rw[e1,K9,hd j hj,Ju,he j hj,←Ju,←K9];rfl
 obtain⟨d,hd⟩:=key R.length (Jh _);exact⟨d,by grind⟩
end
def jY(p:Int)(n:Nat)(R R':Mx):Prop:=(∀i,i<R.length→Sp p n R' (R.getD i []))∧ ∀i,i<R'.length→Sp p n R (R'.getD i [])
theorem jY.refl{p:Int}{R:Mx}:jY p n R R:=⟨fun _ h=>qG h,fun _ h=>qG h⟩
theorem jY.symm{p:Int}{R:Mx}(h:jY p n R R'):jY p n R' R:=⟨h.2,h.1⟩
theorem jY.trans{p:Int}{R R2:Mx}(h:jY p n R R')(h':jY p n R' R2):jY p n R R2:=⟨fun i hi=>zAn h'.1 (h.1 i hi),fun i hi=>zAn h.2 (h'.2 i hi)⟩
theorem jY.iff{p:Int}{R:Mx}(h:jY p n R R'):Sp p n R v↔Sp p n R' v:=⟨fun g=>zAn h.1 g,fun g=>zAn h.2 g⟩
structure Red (p:Int) (n:Nat) (R:Mx) (pv:Nat→Nat):Prop where
 row:∀i,i<R.length→Row p n (R.getD i [])
 lt:∀i,i<R.length→pv i<n
 one:∀i,i<R.length→ent R i (pv i)=1
 low:∀i,i<R.length→ ∀j,j<pv i→ent R i j=0
 off:∀i k,i<R.length→k<R.length→k≠i→ent R k (pv i)=0
 mono:∀i j,i<j→j<R.length→pv i<pv j
section
variable {p:Int} (hp:1<p) {n:Nat}{R R':Mx}{pv pv':Nat→Nat}{v:List Int}
theorem Red.coef(h:Red p n R pv){c:Nat→Int}(hc:∀j,j<n→(S R.length fun i=>c i*ent R i j)%p=at0 v j%p)(hk:k<R.length):c k%p=at0 v (pv k)%p:=by rw[←hc (pv k) (h.lt k hk),jX (k:=k) hk (fun i hi gg=>by rw[h.off k i hk hi gg];simp),h.one k hk];simp
theorem Red.expand(h:Red p n R pv)(hv:Sp p n R v):∀j,j<n→at0 v j%p=(S R.length fun i=>at0 v (pv i)*ent R i j)%p:=by obtain⟨c,hc⟩:=hv;intro j hj;rw[←hc j hj];exact zAl fun i hi=>by rw[Ju,h.coef hc hi,←Ju]
theorem Red.lead(h:Red p n R pv)(hv:Sp p n R v)(gg:∃j,j<n∧at0 v j%p≠0):∃i,i<R.length∧(∀j,j<pv i→at0 v j%p=0)∧at0 v (pv i)%p≠0:=by
 have hx:=h.expand hv;have h1:∃i,i<R.length∧at0 v (pv i)%p≠0:=by
  refine Classical.byContradiction fun hn=>?_
  obtain⟨j,hj,bg⟩:=gg;refine bg ?_;rw[hx j hj,zAl (g:=fun _=>0) (fun i hi=>by
   have:at0 v (pv i)%p=0:=by grind
   rw[Ju,this];simp),qD];rfl
 obtain⟨i,⟨hi,fX⟩,eY⟩:=zDR h1;refine⟨i,hi,fun j hj=>?_,fX⟩;have bU:j<n:=Nat.lt_trans hj (h.lt i hi);rw[hx j bU,zAl (g:=fun _=>0) (fun k hk=>by
  rcases Jg k i with hki|hki
  ·have:at0 v (pv k)%p=0:=by grind
   rw[Ju,this];simp
  ·have h2:pv i≤pv k:=by
    rcases Jg i k with h3|h3
    ·exact Nat.le_of_lt (h.mono i k h3 hk)
    grind
   rw[h.low k hk j (by omega)];simp),qD];rfl
 include hp
theorem Red.row_lead(h:Red p n R pv)(hi:i<R.length):(∃j,j<n∧at0 (R.getD i []) j%p≠0)∧(∀j,j<pv i→at0 (R.getD i []) j%p=0)∧at0 (R.getD i []) (pv i)%p≠0:=by
 have h1:at0 (R.getD i []) (pv i)%p≠0:=by have:=h.one i hi;simp only[ent]at this;rw[this,Jw (by omega) hp];omega
 refine⟨⟨pv i,h.lt i hi,h1⟩,fun j hj=>?_,h1⟩;have:=h.low i hi j hj
 simp_all
theorem Red.piv_in(h:Red p n R pv)(h':Red p n R' pv')(hs:∀i,i<R.length→Sp p n R' (R.getD i []))(hi:i<R.length):∃k,k<R'.length∧pv' k=pv i:=by
 obtain⟨g1,g2,g3⟩:=h.row_lead hp hi;obtain⟨k,hk,g4,g5⟩:=h'.lead (hs i hi) g1
 grind
theorem Red.piv_eq(h:Red p n R pv)(h':Red p n R' pv')(hs:jY p n R R'):∀i,(i<R.length↔i<R'.length)∧(i<R.length→pv i=pv' i):=by
 intro i
 induction i using Nat.strongRecOn with
 |_ i ih=>
  have a:i<R.length→i<R'.length∧pv' i≤pv i:=fun hi=>by
   obtain⟨k,hk,e⟩:=h.piv_in hp h' hs.1 hi;have hki:i≤k:=by
    refine Classical.byContradiction fun hn=>?_
    have h1:=(ih k (by omega)).2 (by omega);have h2:=h.mono k i (by omega) hi;omega
   refine⟨by omega,?_⟩;rcases Jg i k with h3|h3
   ·have:=h'.mono i k h3 hk;omega
   grind
  have b:i<R'.length→i<R.length∧pv i≤pv' i:=fun hi=>by
   obtain⟨k,hk,e⟩:=h'.piv_in hp h hs.2 hi;have hki:i≤k:=by
    refine Classical.byContradiction fun hn=>?_
    have h1:=(ih k (by omega)).2 hk;have h2:=h'.mono k i (by omega) hi;omega
   refine⟨by omega,?_⟩;rcases Jg i k with h3|h3
   ·have:=h.mono i k h3 hk;omega
   grind
  omega
theorem Red.unique(h:Red p n R pv)(h':Red p n R' pv')(hs:jY p n R R'):R=R':=by
 have pP:=h.piv_eq hp h' hs;have hl:R.length=R'.length:=by
  rcases Jaw R.length R'.length with g|g|g
  all_goals grind
 refine zIr (D:=R.length) rfl hl.symm fun i hi=>?_
 have fu:i<R'.length:=by omega
 have r1:=h.row i hi;have r2:=h'.row i fu;rw[vH r1.1,vH r2.1];refine yB fun j hj=>?_
 have hx:=h'.expand (hs.1 i hi) j hj;rw[xZ (g:=fun k=>(if k=i then 1 else 0)*ent R' k j) (fun k hk=>by
  congr 1
  have e:=(pP k).2 (by omega)
  by_cases hki:k=i
  ·subst hki;rw[if_pos rfl,←e];exact h.one k hi
  ·rw[if_neg hki,←e];exact h.off k i (by omega) hi (Ne.symm hki)),jX (k:=i) fu (fun k _ hk=>by simp[hk])]at hx
 simp only[if_true,Jbd,ent]at hx;have a1:=r1.2 j hj;have a2:=r2.2 j hj;rw[Jw a1.1 (by omega),Jw a2.1 (by omega)]at hx;exact hx
end
def mkR(m:Nat)(F:Nat→List Int):Mx:=(Jb m).map F
theorem sP:(mkR m F).length=m:=by simp[mkR]
theorem zAc(h:i<m):(mkR m F).getD i []=F i:=by simp[mkR,J3,h]
theorem zKU(h:i<m):ixO (mkR m F) (i:Int)=iF (F i):=by rw[yO [] (by grind[sP]),zAc h]
theorem kR{G:Nat→List Int}(h:∀i,i<m→F i=G i):mkR m F=mkR m G:=by grind[mkR,Uu]
theorem zTM{R:Mx}(h:R.length=m):R=mkR m (fun i=>R.getD i []):=zIr (D:=m) h sP (by grind[zAc])
theorem zHa{a:List Int}:(mkR m F).set i a=mkR m (fun k=>if k=i then a else F k):=by
 apply Km;intro k
 by_cases hk:k<m
 ·by_cases h:i=k
  ·grind[mkR]
  ·rw[List.getElem?_set_ne h];simp[mkR,hk,Ne.symm h]
 grind[mkR]
theorem zFm(h:i<m):ent (mkR m F) i j=at0 (F i) j:=by simp only[ent,zAc h]
theorem zTN{s:Nat→Int×Int×Int×Int}(n:Nat){r:Int×Int}(h:∀i,i<n→zRZ (s i)=iF (.inl (s (i+1))))(he:zRZ (s n)=iF (.inr r)){p:Int}(hq:zL2 r.2 p=iF q)(h1:r.1=1)(hs:s 0=(p,(s 0).2.1,0,1)):
  f_W (s 0).2.1 p=iF (q,iH):=by
 unfold f_W;rw[←hs,zX s n h he,bs,hq,bs,h1];rfl
def zTO:List (Int×Int×Int×Int)→Nat→Int×Int×Int×Int:=fun l i=>l.getD i (0,0,0,0)
theorem tQ(l:List (Int×Int×Int×Int))(n:Nat){r:Int×Int}(h:∀i,i<n→zRZ (zTO l i)=iF (.inl (zTO l (i+1))))(he:zRZ (zTO l n)=iF (.inr r)){p x:Int}(hq:zL2 r.2 p=iF q)(h1:r.1=1)(hs:zTO l 0=(p,x,0,1)):
  f_W x p=iF (q,iH):=by
 have:=zTN (s:=zTO l) n h he hq h1 (by rw[hs])
 grind
theorem lt1{P:Nat→Prop}(h0:P 0):∀i,i<1→P i:=by grind
theorem lt2{P:Nat→Prop}(h0:P 0)(h1:P 1):∀i,i<2→P i:=by grind
theorem lt3{P:Nat→Prop}(h0:P 0)(h1:P 1)(h2:P 2):∀i,i<3→P i:=by grind
theorem zFn{p x:Int}(hp:Prime p)(h0:1≤x)(h1:x≤p-1):∃r,f_W x p=iF (r,iH)∧0≤r∧r≤p-1∧(x*r)%p=1:=by
 have c:(p=2∧x=1)∨(p=3∧(x=1∨x=2))∨(p=5∧(x=1∨x=2∨x=3∨x=4))∨(p=7∧(x=1∨x=2∨x=3∨x=4∨x=5∨x=6)):=by unfold Prime at hp;omega
 rcases c with⟨rfl,rfl⟩|⟨rfl,rfl|rfl⟩|⟨rfl,rfl|rfl|rfl|rfl⟩|⟨rfl,rfl|rfl|rfl|rfl|rfl|rfl⟩
 ·exact⟨1,tQ [(2,1,0,1),(1,0,1,-2)] 1 (lt1 (by rfl)) (r:=(1,1)) (by rfl) (by rfl) rfl rfl,by decide,by decide,by decide⟩
 ·exact⟨1,tQ [(3,1,0,1),(1,0,1,-3)] 1 (lt1 (by rfl)) (r:=(1,1)) (by rfl) (by rfl) rfl rfl,by decide,by decide,by decide⟩
 ·exact⟨2,tQ [(3,2,0,1),(2,1,1,-1),(1,0,-1,3)] 2 (lt2 (by rfl) (by rfl)) (r:=(1,-1)) (by rfl) (by rfl) rfl rfl,by decide,by decide,by decide⟩
 ·exact⟨1,tQ [(5,1,0,1),(1,0,1,-5)] 1 (lt1 (by rfl)) (r:=(1,1)) (by rfl) (by rfl) rfl rfl,by decide,by decide,by decide⟩
 ·exact⟨3,tQ [(5,2,0,1),(2,1,1,-2),(1,0,-2,5)] 2 (lt2 (by rfl) (by rfl)) (r:=(1,-2)) (by rfl) (by rfl) rfl rfl,by decide,by decide,by decide⟩
 ·exact⟨2,tQ [(5,3,0,1),(3,2,1,-1),(2,1,-1,2),(1,0,2,-5)] 3 (lt3 (by rfl) (by rfl) (by rfl)) (r:=(1,2)) (by rfl) (by rfl) rfl rfl,by decide,by decide,by decide⟩
 ·exact⟨4,tQ [(5,4,0,1),(4,1,1,-1),(1,0,-1,5)] 2 (lt2 (by rfl) (by rfl)) (r:=(1,-1)) (by rfl) (by rfl) rfl rfl,by decide,by decide,by decide⟩
 ·exact⟨1,tQ [(7,1,0,1),(1,0,1,-7)] 1 (lt1 (by rfl)) (r:=(1,1)) (by rfl) (by rfl) rfl rfl,by decide,by decide,by decide⟩
 ·exact⟨4,tQ [(7,2,0,1),(2,1,1,-3),(1,0,-3,7)] 2 (lt2 (by rfl) (by rfl)) (r:=(1,-3)) (by rfl) (by rfl) rfl rfl,by decide,by decide,by decide⟩
 ·exact⟨5,tQ [(7,3,0,1),(3,1,1,-2),(1,0,-2,7)] 2 (lt2 (by rfl) (by rfl)) (r:=(1,-2)) (by rfl) (by rfl) rfl rfl,by decide,by decide,by decide⟩
 ·exact⟨2,tQ [(7,4,0,1),(4,3,1,-1),(3,1,-1,2),(1,0,2,-7)] 3 (lt3 (by rfl) (by rfl) (by rfl)) (r:=(1,2)) (by rfl) (by rfl) rfl rfl,by decide,by decide,by decide⟩
 ·exact⟨3,tQ [(7,5,0,1),(5,2,1,-1),(2,1,-1,3),(1,0,3,-7)] 3 (lt3 (by rfl) (by rfl) (by rfl)) (r:=(1,3)) (by rfl) (by rfl) rfl rfl,by decide,by decide,by decide⟩
 ·exact⟨6,tQ [(7,6,0,1),(6,1,1,-1),(1,0,-1,7)] 2 (lt2 (by rfl) (by rfl)) (r:=(1,-1)) (by rfl) (by rfl) rfl rfl,by decide,by decide,by decide⟩
structure zR5 (p:Int) (n m:Nat) (rows:Mx) (c:Nat) (M:Mx) (d:Nat) (pv:Nat→Nat):Prop where
 len:M.length=m
 row:∀i,i<m→Row p n (M.getD i [])
 dm:d≤m
 lt:∀i,i<d→pv i<c
 one:∀i,i<d→ent M i (pv i)=1
 low:∀i,i<d→ ∀j,j<pv i→ent M i j=0
 off:∀i k,i<d→k<m→k≠i→ent M k (pv i)=0
 mono:∀i j,i<j→j<d→pv i<pv j
 zero:∀k,d≤k→k<m→ ∀j,j<c→ent M k j=0
 sp:jY p n M rows
theorem zCn{p:Int}(h:i<m):Sp p n (mkR m F) (F i):=by
 have:=qG (p:=p) (n:=n) (R:=mkR m F) (i:=i) (by grind[sP])
 grind[zAc]
theorem zTP(a e r p:Int):a%p=((a+(0-e)*r)%p+e*r)%p:=by rw[K9,K1,←K9,show a+(0-e)*r+e*r=a from by grind]
section
variable {p:Int} (hp:Prime p) {n m:Nat}{rows:Mx}{c:Nat}{M:Mx}{d:Nat}{pv:Nat→Nat} (h:zR5 p n m rows c M d pv) (hc:c<n) (hd:d<m)
 include hp h hc hd
theorem zR5.pivot{t:Nat}(ht:d≤t)(tq:t<m)(gg:ent M t c≠0)(hq:(ent M t c*q)%p=1):
  zR5 p n m rows (c+1) (mkR m fun i=>if i=d then mkv n fun j=>(ent M t j*q)%p else vZ p n (if i=t then M.getD d []else M.getD i []) (0-at0 (if i=t then M.getD d []else M.getD i []) c) (mkv n fun j=>(ent M t j*q)%p)) (d+1) (fun i=>if i=d then c else pv i):=by
 have h7:=hp.pos;have pr:∀j,j<n→at0 (mkv n fun j=>(ent M t j*q)%p) j=(ent M t j*q)%p:=fun j hj=>yA hj
 have p0:∀j,j<c→(ent M t j*q)%p=0:=fun j hj=>by rw[h.zero t ht tq j hj];simp
 have prow:Row p n (mkv n fun j=>(ent M t j*q)%p):=⟨zY _ _,fun j hj=>by have e1:=Kq (ent M t j*q) (show p≠0 by omega);have e2:=Kf (ent M t j*q) (show 0<p by omega);rw[pr j hj];omega⟩
 have hG:∀i,i<m→i≠d→Row p n (if i=t then M.getD d []else M.getD i []):=fun i hi _=>by
  split
  ·exact h.row d hd
  ·exact h.row i hi
 have eo:∀i j,i<m→i≠d→j<n→ent (mkR m fun i=>if i=d then mkv n fun j=>(ent M t j*q)%p else vZ p n (if i=t then M.getD d []else M.getD i []) (0-at0 (if i=t then M.getD d []else M.getD i []) c) (mkv n fun j=>(ent M t j*q)%p)) i j=(at0 (if i=t then M.getD d []else M.getD i []) j+(0-at0 (if i=t then M.getD d []else M.getD i []) c)*((ent M t j*q)%p))%p:=fun i j hi eE hj=>by rw[zFm hi,if_neg eE,vZ,yA hj,pr j hj]
 have el:∀i j,i<m→i≠d→j<c→ent (mkR m fun i=>if i=d then mkv n fun j=>(ent M t j*q)%p else vZ p n (if i=t then M.getD d []else M.getD i []) (0-at0 (if i=t then M.getD d []else M.getD i []) c) (mkv n fun j=>(ent M t j*q)%p)) i j=at0 (if i=t then M.getD d []else M.getD i []) j:=fun i j hi eE hj=>by rw[eo i j hi eE (by omega),p0 j hj,La,Lt];have:=(hG i hi eE).2 j (by omega);exact Jw this.1 (by omega)
 have ed:∀j,j<n→ent (mkR m fun i=>if i=d then mkv n fun j=>(ent M t j*q)%p else vZ p n (if i=t then M.getD d []else M.getD i []) (0-at0 (if i=t then M.getD d []else M.getD i []) c) (mkv n fun j=>(ent M t j*q)%p)) d j=(ent M t j*q)%p:=fun j hj=>by rw[zFm hd,if_pos rfl,pr j hj]
 have ec:∀i,i<m→i≠d→ent (mkR m fun i=>if i=d then mkv n fun j=>(ent M t j*q)%p else vZ p n (if i=t then M.getD d []else M.getD i []) (0-at0 (if i=t then M.getD d []else M.getD i []) c) (mkv n fun j=>(ent M t j*q)%p)) i c=0:=fun i hi eE=>by rw[eo i c hi eE hc,hq,Ls];rw[show at0 (if i=t then M.getD d []else M.getD i []) c+(0-at0 (if i=t then M.getD d []else M.getD i []) c)=0 from by omega];simp
 have fT:∀i,i<d→(if i=t then M.getD d []else M.getD i [])=M.getD i []:=fun i hi=>by rw[if_neg (by omega)]
 have bH:∀i,d≤i→i<m→ ∀j,j<c→at0 (if i=t then M.getD d []else M.getD i []) j=0:=fun i hi fX j hj=>by
  split
  ·exact h.zero d (Jh _) hd j hj
  ·exact h.zero i hi fX j hj
 refine⟨sP,fun i hi=>?_,by omega,fun i hi=>?_,fun i hi=>?_,fun i hi j hj=>?_,fun i k hi hk eE=>?_,fun i j gR hj=>?_,fun k hk fV j hj=>?_,?_⟩
 ·rw[zAc hi]
  split
  ·exact prow
  ·exact zAm hp
 ·by_cases ey:i=d
  ·rw[if_pos ey];omega
  ·rw[if_neg ey];have:=h.lt i (by omega);omega
 ·by_cases ey:i=d
  ·subst ey;rw[if_pos rfl,ed c hc,hq]
  ·have h1:=h.lt i (by omega)
   rw[if_neg ey,el i _ (by omega) ey h1,fT i (by omega)];exact h.one i (by omega)
 ·by_cases ey:i=d
  ·subst ey
   rw[if_pos rfl]at hj;rw[ed j (by omega),p0 j hj]
  ·rw[if_neg ey]at hj
   have h1:=h.lt i (by omega);rw[el i j (by omega) ey (by omega),fT i (by omega)];exact h.low i (by omega) j hj
 ·by_cases ey:i=d
  ·subst ey
   rw[if_pos rfl];exact ec k hk eE
  ·have h1:=h.lt i (by omega)
   rw[if_neg ey]
   by_cases bf:k=d
   ·subst bf
    rw[ed _ (by omega),h.off i t (by omega) tq (by omega)];simp
   ·rw[el k _ hk bf h1]
    split
    ·exact h.off i d (by omega) hd (Ne.symm ey)
    ·exact h.off i k (by omega) hk eE
 ·by_cases hjd:j=d
  ·subst hjd
   rw[if_pos rfl,if_neg (by omega)];exact h.lt i (by omega)
  ·rw[if_neg hjd,if_neg (by omega)];exact h.mono i j gR (by omega)
 ·rcases Jg j c with hjc|hjc
  ·rw[el k j fV (by omega) hjc];exact bH k (by omega) fV j hjc
  ·rw[show j=c from by omega];exact ec k fV (by omega)
 ·refine jY.trans ⟨fun i hi=>?_,fun i hi=>?_⟩ h.sp
  ·rw[sP]at hi
   rw[zAc hi];have hr:Sp p n M (mkv n fun j=>(ent M t j*q)%p):=by
    refine zAN (k:=q) (zFl (u:=[]) fun j _=>by simp[at0]) (qG (R:=M) (i:=t) (by rw[h.len];exact tq)) fun j hj=>?_
    rw[pr j hj,K1,Uc];simp[at0]
   split
   ·exact hr
   ·refine zAN (k:=0-at0 (if i=t then M.getD d []else M.getD i []) c) (v:=if i=t then M.getD d []else M.getD i []) ?_ hr fun j hj=>?_
    ·split
     ·exact qG (by rw[h.len];exact hd)
     ·exact qG (by rw[h.len];exact hi)
    ·rw[vZ,yA hj,K1]
  ·rw[h.len]at hi
   have hr:=zCn (p:=p) (n:=n) (m:=m) (F:=fun i=>if i=d then mkv n fun j=>(ent M t j*q)%p else vZ p n (if i=t then M.getD d []else M.getD i []) (0-at0 (if i=t then M.getD d []else M.getD i []) c) (mkv n fun j=>(ent M t j*q)%p)) hd;simp only[if_true]at hr;have hg:∀k,k<m→k≠d→Sp p n (mkR m fun i=>if i=d then mkv n fun j=>(ent M t j*q)%p else vZ p n (if i=t then M.getD d []else M.getD i []) (0-at0 (if i=t then M.getD d []else M.getD i []) c) (mkv n fun j=>(ent M t j*q)%p)) (if k=t then M.getD d []else M.getD k []):=fun k hk bf=>by
    have h1:=zCn (p:=p) (n:=n) (m:=m) (F:=fun i=>if i=d then mkv n fun j=>(ent M t j*q)%p else vZ p n (if i=t then M.getD d []else M.getD i []) (0-at0 (if i=t then M.getD d []else M.getD i []) c) (mkv n fun j=>(ent M t j*q)%p)) hk;simp only[if_neg bf]at h1;refine zAN (k:=at0 (if k=t then M.getD d []else M.getD k []) c) h1 hr fun j hj=>?_
    rw[vZ,yA hj,pr j hj];exact zTP _ _ _ _
   by_cases eh:i=t
   ·
    subst eh;refine zAN (k:=ent M i c) (zFl (u:=[]) fun j _=>by simp[at0]) hr fun j hj=>?_
    rw[pr j hj];have e1:(ent M i c*((ent M i j*q)%p))%p=(ent M i j*((ent M i c*q)%p))%p:=by
     rw[Ju,K1,←Ju,Ju (ent M i j),K1,←Ju]
     congr 1
     rw[←Gy,←Gy,Uc (ent M i c)]
    rw[show at0 ([]:List Int) j=0 from by simp[at0],Lh,e1,hq,Ls]
   ·by_cases ey:i=d
    ·subst ey
     have:=hg t tq (by omega);rw[if_pos rfl]at this;exact this
    ·have:=hg i hi ey
     rw[if_neg eh]at this;exact this
end
theorem kS(h:v.length≤1000000):f_F v=iF v:=by grind[f_F,yI]
theorem zJo{rows:Mx}(hm:rows.length≤1000000)(hn:∀i,i<rows.length→(rows.getD i []).length≤1000000):zXQ rows=iF rows:=by
 unfold zXQ;have:=zX (body:=zN4 rows) (r:=rows) (fun i=>(rows.take i,(i:Int))) rows.length (fun i hi=>by
  unfold zN4;simp only
  rw[yT hi,zM,yO [] hi,bs,kS (hn i hi),bs,yI (by simp;omega),bs,zE (by omega) (by omega),bs,cs,Js hi,J3,J5 hi];rfl) (by
  unfold zN4;simp)
 grind
theorem zR6{M:Mx}{d c:Nat}(hm:M.length=m)(hd:d≤m)(hmm:m≤1000000)(eI:∀i,i<m→(M.getD i []).length=n)(hc:c<n):
  ∃t:Nat,d≤t∧t≤m∧zI (zJu (M,(d:Int),(c:Int))) (d:Int)=iF (t:Int)∧(∀k,d≤k→k<t→ent M k c=0)∧(t<m→ent M t c≠0):=by
 have key:∀k,k≤m-d→ ∃t:Nat,m-k≤t∧t≤m∧zI (zJu (M,(d:Int),(c:Int))) ((m-k:Nat):Int)=iF (t:Int)∧(∀q,m-k≤q→q<t→ent M q c=0)∧(t<m→ent M t c≠0):=by
  intro k
  induction k with
  |zero=>
   intro _;refine⟨m,by omega,Jh _,?_,by omega,fun h=>by omega⟩;rw[xL];unfold zJu
   grind
  |succ k ih=>
   intro hk;obtain⟨t,h1,h2,h3,h4,h5⟩:=ih (by omega);have gH:m-(k+1)<m:=by omega
   by_cases hz:ent M (m-(k+1)) c=0
   ·refine⟨t,by omega,h2,?_,fun q q1 q2=>?_,h5⟩
    ·rw[xL]
     have e:zJu (M,(d:Int),(c:Int)) ((m-(k+1):Nat):Int)=iF (.inl ((m-k:Nat):Int)):=by
      unfold zJu;simp only
      rw[hm,yT gH,zM,yO [] (by omega),bs,yQ (by rw[eI _ gH];exact hc),bs,zQt hz,zM,zE (by omega) (by omega),bs,cs,show m-(k+1)+1=m-k from by omega]
     grind
    grind
   ·refine⟨m-(k+1),Jh _,by omega,?_,by omega,fun _=>hz⟩
    rw[xL];have e:zJu (M,(d:Int),(c:Int)) ((m-(k+1):Nat):Int)=iF (.inr ((m-(k+1):Nat):Int)):=by
     unfold zJu;simp only
     rw[hm,yT gH,zM,yO [] (by omega),bs,yQ (by rw[eI _ gH];exact hc),bs,zML hz,zQ]
    rw[e]
 obtain⟨t,h1,h2,h3,h4,h5⟩:=key (m-d) (Jh _);rw[show m-(m-d)=d from by omega]at h1 h3 h4
 grind
section
variable {p:Int} (hp:Prime p) {n m:Nat}{M:Mx}{d c t:Nat}
 include hp
theorem zO5{b:Bool}(hd:d<m)(hr:Row p n (F d))(hn:n≤1000000)(hq:0≤q∧q≤p-1)(hv:v.length=n){s:Mx×Int×Int}(hs:s.2.1=(d:Int)):
  zI (zN5 p s (q,b) v) (mkR m F,0)=iF (mkR m fun i=>if i=d then mkv n fun j=>(at0 (F d) j*q)%p else F i):=by
 have h7:=hp.pos;have:=zX (body:=zN5 p s (q,b) v) (r:=mkR m fun i=>if i=d then mkv n fun j=>(at0 (F d) j*q)%p else F i) (fun k=>(mkR m fun i=>if i=d then mkv n (fun j=>if j<k then(at0 (F d) j*q)%p else at0 (F d) j)else F i,(k:Int))) n (fun k hk=>by
  have a1:=hr.2 k hk;have a2:=zCl hp (k:=q) (by omega) a1;have a3:=G7 a1.1 hq.1;rw[Uc]at a2;unfold zN5;simp only
  rw[hv,yT hk,zM,hs,zKU hd];simp only[bs,if_true];rw[yQ (by grind[zY]),yA hk,if_neg (by omega)];simp only[bs];rw[zE (by omega) (by omega)];simp only[bs,tV];rw[if_neg (by omega)];simp only[bs];rw[Le a3,zE (by omega) (by omega)];simp only[bs,J6,cs];rw[zHa]
  congr 3
  refine kR fun i _=>?_
  by_cases hi:i=d
  ·rw[if_pos hi,if_pos hi,qL]
   grind
  grind) (by
  unfold zN5;simp only
  rw[hv,qA,zQ]
  congr 2
  refine kR fun i _=>?_
  split
  ·exact yB (by omega)
  ·rfl)
 rw[show((0:Nat):Int)=0 from rfl]at this;rw[←this]
 congr 2
 refine kR fun i _=>?_
 split
 ·rename_i e;subst e
  conv=>lhs;rw[vH hr.1]
  rfl
 ·rfl
theorem zO6(hd:d<m)(hc:c<n)(hr:∀i,i<m→Row p n (F i))(hn:n≤1000000)(hm:m≤1000000){r21:Mx}(hl:r21.length=m){s:Mx×Int×Int}(hs:s.2.1=(d:Int))(pO:s.2.2=(c:Int)):
  zI (zPp p s r21) (mkR m F,0)=iF (mkR m fun i=>if i=d then F d else vZ p n (F i) (0-at0 (F i) c) (F d)):=by
 have h7:=hp.pos;have:=zX (body:=zPp p s r21) (r:=mkR m fun i=>if i=d then F d else vZ p n (F i) (0-at0 (F i) c) (F d)) (fun k=>(mkR m fun i=>if i<k∧i≠d then vZ p n (F i) (0-at0 (F i) c) (F d)else F i,(k:Int))) m (fun k hk=>by
  have a1:=(hr k hk).2 c hc;unfold zPp;simp only
  rw[hl,yT hk,zM,hs,pO]
  by_cases bf:k=d
  ·subst bf
   rw[jV rfl,zQ,zE (by omega) (by omega),bs,cs]
   grind
  ·rw[kF (by omega),zM,zKU hk,zKU hd]
   simp only[bs,ne_eq,not_true_eq_false,and_false,if_false,Jcy,false_and];rw[yQ (by rw[(hr k hk).1];exact hc)];simp only[bs];rw[zE (by omega) (by omega)];simp only[bs];rw[zBH hp (hr k hk) (hr d hd) (by omega) hn,bs,zE (by omega) (by omega)];simp only[bs,J6,cs];rw[zHa]
   grind) (by
  unfold zPp;simp only
  rw[hl,qA,zQ]
  congr 2
  refine kR fun i hi=>?_
  grind)
 grind
end
theorem Red.empty{p:Int}:Red p n [] (fun _=>0):=⟨by simp,by simp,by simp,by simp,by simp,by simp⟩
theorem zR5.take{p:Int}{rows:Mx}{c:Nat}{M:Mx}{d:Nat}{pv:Nat→Nat}(h:zR5 p n m rows c M d pv)(aN:c≤n)(hz:∀k,d≤k→k<m→ ∀j,j<n→ent M k j=0):Red p n (M.take d) pv∧jY p n (M.take d) rows:=by
 have hl:(M.take d).length=d:=by rw[Kk,h.len];exact Ud h.dm
 have hg:∀i,i<d→(M.take d).getD i []=M.getD i []:=by grind
 have dm:=h.dm;refine⟨⟨fun i hi=>?_,fun i hi=>?_,fun i hi=>?_,fun i hi j hj=>?_,fun i k hi hk gg=>?_,fun i j gR hj=>?_⟩,jY.trans ⟨fun i hi=>?_,fun i hi=>?_⟩ h.sp⟩
 ·rw[hl]at hi;rw[hg i hi];exact h.row i (by omega)
 ·rw[hl]at hi;have:=h.lt i hi;omega
 ·rw[hl]at hi;simp only[ent,hg i hi];exact h.one i hi
 ·rw[hl]at hi;simp only[ent,hg i hi];exact h.low i hi j hj
 ·rw[hl]at hi hk;simp only[ent,hg k hk];exact h.off i k hi (by omega) gg
 ·rw[hl]at hj;exact h.mono i j gR hj
 ·grind[qG]
 ·rw[h.len]at hi
  rcases Jg i d with g|g
  ·grind[qG]
  ·exact zFl fun j hj=>by simp_all
section
variable {p:Int} (hp:Prime p) {n:Nat}{rows:Mx} (hn:n≤100000) (hm:rows.length≤600000) (hr:∀i,i<rows.length→Row p n (rows.getD i []))
 include hp hn hm hr
theorem zMM:∃R pv,f_i p rows=iF R∧Red p n R pv∧jY p n R rows:=by
 have h7:=hp.pos;unfold f_i;rw[zJo (by omega) (fun i hi=>by have:=(hr i hi).1;omega),bs];have main:=uS (body:=zPq p) (s:=(rows,0,0)) (Q:=fun r=> ∃(M:Mx)(d:Nat)(pv:Nat→Nat),r=(M,(d:Int))∧d≤M.length∧Red p n (M.take d) pv∧jY p n (M.take d) rows)
  (fun i s=> ∃(M:Mx)(d:Nat)(pv:Nat→Nat),s=(M,(d:Int),(i:Int))∧zR5 p n rows.length rows i M d pv∧i≤n) n (fun c s hc hI=>?_) (fun s hI=>?_) ⟨rows,0,fun _=>0,rfl,⟨rfl,hr,Ka _,fun _ h=>by omega,fun _ h=>by omega,fun _ h=>by omega,fun _ _ h=>by omega,fun _ _ _ h=>by omega,fun _ _ _ _ h=>by omega,jY.refl⟩,Ka _⟩
 ·obtain⟨r,h1,M,d,pv,rfl,hd,hR,hS⟩:=main
  rw[h1,bs];simp only
  have e:yD M 0 (d:Int)=iF (M.take d):=by unfold yD;rw[if_pos ⟨by omega,by omega,by omega⟩];simp
  rw[e,bs];exact⟨_,_,rfl,hR,hS⟩
 ·
  obtain⟨M,d,pv,rfl,h,aN⟩:=hI;have hl:=h.len;have br:=h.dm
  by_cases h0:rows.length=0
  ·refine .inr ⟨(M,(d:Int)),?_,M,d,pv,rfl,by omega,h.take aN fun k hk fV=>by omega⟩
   unfold zPq;simp only
   rw[iJ (by omega),zQ]
  have e0:zPq p (M,(d:Int),(c:Int))=cond (decide ((d:Int)<(M.length:Int))) ((zI (zJu (M,(d:Int),(c:Int))) (d:Int)).bind fun r6=>
    cond (r6==(M.length:Int)) ((rng ((c:Int)+1)).bind fun v7=>iF (.inl (M,(d:Int),v7))) (
     (ixO M r6).bind fun v8=>(ixO M (d:Int)).bind fun v9=>(ixO (kE M (d:Int) r6 v8 v9) (d:Int)).bind fun v10=>(ixO v10 (c:Int)).bind fun v11=>(f_W v11 p).bind fun r12=>
     (ixO (kE M (d:Int) r6 v8 v9) (d:Int)).bind fun v13=>(zI (zN5 p (M,(d:Int),(c:Int)) r12 v13) (kE M (d:Int) r6 v8 v9,0)).bind fun r21=>
     (zI (zPp p (M,(d:Int),(c:Int)) r21) (r21,0)).bind fun r30=>(rng ((d:Int)+1)).bind fun v31=>(rng ((c:Int)+1)).bind fun v32=>iF (.inl (r30,v31,v32)))) (iF (.inr (M,(d:Int)))):=by
   unfold zPq;simp only
   have hx:ixO M (0:Int)=iF (M.getD 0 []):=by have:=yO (v:=M) (i:=0) [] (by omega);exact this
   rw[iL (by omega),zM,hx];simp only[bs];rw[(h.row 0 (by omega)).1,yT hc,zM]
  rcases Jg d rows.length with hd|hd
  ·obtain⟨t,t1,t2,t3,t4,t5⟩:=zR6 (M:=M) (d:=d) (c:=c) (m:=rows.length) (n:=n) hl br (by omega) (fun i hi=>(h.row i hi).1) hc
   rw[e0,hl,yT hd,zM,t3];simp only[bs]
   by_cases tq:t=rows.length
   ·
    left;refine⟨(M,(d:Int),((c+1:Nat):Int)),?_,M,d,pv,rfl,⟨hl,h.row,br,fun i hi=>by have:=h.lt i hi;omega,h.one,h.low,h.off,h.mono,fun k k1 k2 j hj=>?_,h.sp⟩,by omega⟩
    ·rw[zQt (by omega),zM,zE (by omega) (by omega),bs,cs]
    ·rcases Jg j c with g|g
     ·exact h.zero k k1 k2 j g
     ·rw[show j=c from by omega];exact t4 k k1 (by omega)
   ·have fN:t<rows.length:=by omega
    have gg:=t5 fN;have f8:=h.row t fN;have hrc:=f8.2 c hc;obtain⟨q,q1,q2,q3,q4⟩:=zFn (p:=p) (x:=ent M t c) hp (by simp only[ent]at gg ⊢;omega) (by simp only[ent];omega);left;have hM:M=mkR rows.length (fun i=>M.getD i []):=zTM hl;obtain⟨F,hF⟩:∃F:Nat→List Int,∀i,F i=if i=t then M.getD d []else if i=d then M.getD t []else M.getD i []:=⟨_,fun _=>rfl⟩
    have bL:kE M (d:Int) (t:Int) (M.getD t []) (M.getD d [])=mkR rows.length F:=by
     unfold kE;rw[J6,J6]
     conv=>lhs;rw[hM]
     rw[zHa,zHa];exact kR fun i hi=>by rw[hF,zAc hd,zAc fN]
    have mn:∀i,i<rows.length→Row p n (F i):=fun i hi=>by
     rw[hF];split
     ·exact h.row d hd
     ·split
      ·exact f8
      ·exact h.row i hi
    have hFd:F d=M.getD t []:=by
     rw[hF]
     by_cases e:d=t
     ·rw[if_pos e,e]
     ·rw[if_neg e,if_pos rfl]
    obtain⟨G,hG⟩:∃G:Nat→List Int,∀i,G i=if i=d then mkv n fun j=>(at0 (F d) j*q)%p else F i:=⟨_,fun _=>rfl⟩
    have hGd:G d=mkv n fun j=>(ent M t j*q)%p:=by rw[hG,if_pos rfl,hFd]
    have hGo:∀i,i≠d→G i=if i=t then M.getD d []else M.getD i []:=fun i ey=>by rw[hG,if_neg ey,hF];simp only[ey,if_false]
    have bM:zI (zN5 p (M,(d:Int),(c:Int)) (q,iH) (M.getD t [])) (mkR rows.length F,0)=iF (mkR rows.length G):=by
     rw[zO5 hp (F:=F) hd (mn d hd) (by omega) ⟨q2,q3⟩ f8.1 rfl]
     congr 1
     exact kR fun i _=>(hG i).symm
    have hF3:∀i,i<rows.length→Row p n (G i):=fun i hi=>by
     rw[hG];split
     ·refine⟨zY _ _,fun j hj=>?_⟩
      have e1:=Kq (at0 (F d) j*q) (show p≠0 by omega);have e2:=Kf (at0 (F d) j*q) (show 0<p by omega);rw[yA hj];omega
     ·exact mn i hi
    have gC:=zO6 hp (c:=c) (F:=G) hd hc hF3 (by omega) (by omega) (r21:=mkR rows.length G) sP (s:=(M,(d:Int),(c:Int))) rfl rfl;rw[zML (by omega),zQ,yO [] (by omega),yO [] (by omega)];simp only[bs];rw[bL,zKU hd,hFd];simp only[bs];rw[yQ (by rw[f8.1];exact hc)];simp only[bs];rw[show at0 (M.getD t []) c=ent M t c from rfl,q1];simp only[bs];rw[bM];simp only[bs];rw[gC];simp only[bs];rw[zE (by omega) (by omega),zE (by omega) (by omega)];simp only[bs,cs];have bn:=h.pivot hp hc hd t1 fN gg q4;refine⟨_,rfl,_,d+1,fun i=>if i=d then c else pv i,rfl,?_,by omega⟩;have e3:(mkR rows.length fun i=>if i=d then G d else vZ p n (G i) (0-at0 (G i) c) (G d))=(mkR rows.length fun i=>if i=d then mkv n fun j=>(ent M t j*q)%p else vZ p n (if i=t then M.getD d []else M.getD i []) (0-at0 (if i=t then M.getD d []else M.getD i []) c) (mkv n fun j=>(ent M t j*q)%p)):=by
     refine kR fun i hi=>?_
     rw[hGd]
     by_cases ey:i=d
     ·rw[if_pos ey,if_pos ey]
     ·rw[if_neg ey,if_neg ey,hGo i ey]
    rw[e3];exact bn
  ·
   refine .inr ⟨(M,(d:Int)),?_,M,d,pv,rfl,by omega,h.take aN fun k hk fV=>by omega⟩;rw[e0,iJ (by omega),zQ]
 ·
  obtain⟨M,d,pv,rfl,h,aN⟩:=hI;have hl:=h.len;have br:=h.dm;refine⟨(M,(d:Int)),?_,M,d,pv,rfl,by omega,h.take aN fun k hk fV j hj=>h.zero k hk fV j hj⟩;unfold zPq;simp only
  by_cases h0:rows.length=0
  ·rw[iJ (by omega),zQ]
  ·have hx:ixO M (0:Int)=iF (M.getD 0 []):=by
    have:=yO (v:=M) (i:=0) [] (by omega);exact this
   rw[iL (by omega),zM,hx];simp only[bs];rw[(h.row 0 (by omega)).1,qA,zQ]
end
theorem zKb(hl:v.length=n)(hn:n≤1000000):∃k:Nat,k≤n∧f_E v=iF (k:Int)∧(∀j,j<k→at0 v j=0)∧(k<n→at0 v k≠0):=by
 unfold f_E;rcases chk (body:=zJv v) n 0 (Ka _) (fun i=>at0 v i=0) (fun i=>(i:Int)) (fun i _ hi _=>by
   unfold zJv;rw[hl,yT hi,zM,yQ (by omega),bs]
   by_cases h:at0 v i=0
   ·rw[jV h,zQ,zE (by omega) (by omega),bs,cs];grind
   grind) (by
   unfold zJv
   grind)with⟨h1,h2⟩|⟨i,_,hi,h1,h2⟩
 ·grind
 ·rw[show((0:Nat):Int)=0 from rfl]at h1
  rw[h1,bs];obtain⟨k,⟨hk1,fV⟩,eY⟩:=zDR (p:=fun k=>k<n∧at0 v k≠0) ⟨i,hi,h2⟩;have hz:∀j,j<k→at0 v j=0:=by grind
  have hki:k=i:=by
   have fU:∀q,q≤k→zI (zJv v) ((k-q:Nat):Int)=iF (.inr (k:Int)):=by
    intro q
    induction q with
    |zero=>
     intro _;rw[xL];have e:zJv v ((k-0:Nat):Int)=iF (.inr (.inr (k:Int))):=by unfold zJv;rw[show k-0=k from rfl,hl,yT hk1,zM,yQ (by omega),bs,kF fV,zM]
     rw[e]
    |succ q ih=>
     intro hq;rw[xL];have e:zJv v ((k-(q+1):Nat):Int)=iF (.inl ((k-q:Nat):Int)):=by unfold zJv;rw[hl,yT (by omega),zM,yQ (by omega),bs,jV (hz _ (by omega)),zQ,zE (by omega) (by omega),bs,cs,show k-(q+1)+1=k-q from by omega]
     grind
   have:=fU k (Jh _)
   grind
  grind
theorem zHb(hl:v.length=n)(hn:n≤1000000)(hk:k<n)(h0:∀j,j<k→at0 v j=0)(h1:at0 v k≠0):f_E v=iF (k:Int):=by grind[zKb]
theorem zTQ{p x:Int}(hp:Prime p)(h0:1≤x)(h1:x≤p-1):∃r,zXR x p=iF r∧0≤r∧r≤p-1∧(x*r)%p=1:=by
 have h7:=hp.pos;have hx:∃k:Nat,1≤k∧(k:Int)<p∧(x*(k:Int))%p=1:=by
  obtain⟨r,_,r1,r2,r3⟩:=zFn hp h0 h1;refine⟨r.toNat,?_,by omega,by grind⟩;rcases Int.lt_or_eq_of_le r1 with g|g
  ·omega
  ·rw[←g]at r3;simp at r3
 obtain⟨k,⟨k1,k2,k3⟩,eY⟩:=zDR hx;have body:∀i:Nat,1≤i→(i:Int)<p→zN7 x p (i:Int)=cond ((x*(i:Int))%p==1) (iF (.inr (.inr (i:Int)))) (iF (.inl ((i+1:Nat):Int))):=fun i hi hip=>by
  have a3:=G7 (show 0≤x by omega) (show 0≤(i:Int)by omega);have a4:=zCl hp (k:=(i:Int)) (by omega) (b:=x) ⟨by omega,h1⟩;rw[Uc]at a4;unfold zN7;rw[iL hip,zM,zMK hp (by omega) (by omega),bs,Jw (by omega) (by omega),zE (by omega) (by omega),bs];unfold tV;rw[if_neg (by omega),bs,Le a3]
  by_cases hh:(x*(i:Int))%p=1
  ·grind
  ·rw[zML hh,zQ,zQ,zE (by omega) (by omega),bs,cs]
 have fU:∀q,q+1≤k→zI (zN7 x p) ((k-q:Nat):Int)=iF (.inr (k:Int)):=by
  intro q
  induction q with
  |zero=>
   intro _;rw[xL,show k-0=k from rfl,body k k1 k2,zQt k3,zM]
  |succ q ih=>
   intro hq;have gg:(x*((k-(q+1):Nat):Int))%p≠1:=by grind
   rw[xL,body _ (by omega) (by omega),zML gg,zQ,show k-(q+1)+1=k-q from by omega]
   grind
 have:=fU (k-1) (by omega);rw[show k-(k-1)=1 from by omega,show((1:Nat):Int)=1 from rfl]at this
 grind[zXR]
section
variable {p:Int} (hp:Prime p) {n:Nat} (hn:n≤100000)
 include hp hn
theorem zZX(hr:Row p n r):vZ p n r p s=r:=by
 have _:=hp;have _:=hn
 conv=>rhs;rw[vH hr.1]
 refine yB fun j hj=>?_
 have:=hr.2 j hj;rw[G9];exact Jw this.1 (by omega)
def cl(p:Int)(n:Nat)(out:Mx)(pv:Nat→Nat)(v:List Int):Nat→List Int
 |0=>v
 |i+1=>vZ p n (cl p n out pv v i) (p-at0 (cl p n out pv v i) (pv i)) (out.getD i [])
variable {out:Mx}{pv:Nat→Nat} (h:Red p n out pv) {v:List Int} (hv:Row p n v)
 include h hv
theorem zE3:∀i,Row p n (cl p n out pv v i):=by
 have _:=hn;have _:=h;intro i;cases i with
 |zero=>exact hv
 |succ i=>exact zAm hp
theorem zO7:∀i,i≤out.length→ ∀k,k<i→at0 (cl p n out pv v i) (pv k)=0:=by
 have _:=hn;have _:=hv;have h7:=hp.pos;intro i
 induction i with
 |zero=>simp
 |succ i ih=>
  intro hi k hk;have gH:=h.lt k (by omega);rw[cl,vZ,yA gH];rcases Jg k i with g|g
  ·have h1:=ih (by omega) k g
   have h2:=h.off k i (by omega) (by omega) (by omega)
   simp_all
  ·have hki:k=i:=by omega
   subst hki;have h2:=h.one k (by omega);simp only[ent]at h2;rw[h2,Ls,show at0 (cl p n out pv v k) (pv k)+(p-at0 (cl p n out pv v k) (pv k))=p from by omega,Int.emod_self]
theorem zQu:∀i,i≤out.length→ ∃cf:Nat→Int,∀j,j<n→at0 (cl p n out pv v i) j%p=(at0 v j+S out.length fun k=>cf k*ent out k j)%p:=by
 have _:=hp;have _:=h;have _:=hv;have _:=hn;intro i
 induction i with
 |zero=>intro _;exact⟨fun _=>0,fun j _=>by rw[xZ (g:=fun _=>0) (fun i _=>by simp),qD,Lt];rfl⟩
 |succ i ih=>
  intro hi;obtain⟨cf,fE⟩:=ih (by omega);refine⟨fun k=>cf k+(if k=i then p-at0 (cl p n out pv v i) (pv i)else 0),fun j hj=>?_⟩;have e1:(S out.length fun k=>(cf k+(if k=i then p-at0 (cl p n out pv v i) (pv i)else 0))*ent out k j)=(S out.length fun k=>cf k*ent out k j)+(p-at0 (cl p n out pv v i) (pv i))*ent out i j:=by rw[xZ (g:=fun k=>cf k*ent out k j+(if k=i then p-at0 (cl p n out pv v i) (pv i)else 0)*ent out k j) (by grind),zDf,jX (f:=fun k=>(if k=i then p-at0 (cl p n out pv v i) (pv i)else 0)*ent out k j) (k:=i) (by omega) (by grind)];simp
  rw[e1,cl,vZ,yA hj,K1,←Int.add_assoc,K9,fE j hj,←K9]
theorem zE4(hm:out.length≤100000):zPr p out v=iF (cl p n out pv v out.length):=by
 have h7:=hp.pos;unfold zPr;rw[qB (by rw[hv.1];omega),bs];have:=zX (body:=zN6 p out) (r:=cl p n out pv v out.length) (fun i=>(cl p n out pv v i,(i:Int))) out.length (fun i hi=>by
  have hr:=zE3 hp hn h hv i;have ho:=h.row i hi;have gH:=h.lt i hi;have gx:=h.one i hi;have fT:=h.low i hi;simp only[ent]at gx fT;have he:=hr.2 (pv i) gH;unfold zN6;simp only
  rw[yT hi,zM,yO [] hi,bs,zHb ho.1 (by omega) gH fT (by omega),bs,hr.1,yT gH,zM,yQ (by rw[hr.1];exact gH),bs]
  by_cases hz:at0 (cl p n out pv v i) (pv i)=0
  ·rw[jV hz,zQ,zE (by omega) (by omega),bs,cs,cl,hz,Jcd,zZX hp hn hr]
  ·rw[kF hz,zM,bs,zE (by omega) (by omega),bs,bs,tY hp hr ho (by omega) (by omega),bs,zE (by omega) (by omega),bs,cs]
   rfl) (by
  unfold zN6;simp)
 rw[show((0:Nat):Int)=0 from rfl]at this
 grind[cl]
end
section
variable {p:Int} (hp:Prime p) {n:Nat}{out:Mx}{pv:Nat→Nat} (h:Red p n out pv) {u:List Int}{k q:Nat} (hu:Row p n u) (hk:k<n) (u1:at0 u k=1) (ul:∀j,j<k→at0 u j=0) (up:∀i,i<out.length→at0 u (pv i)=0) (hq:q≤out.length) (q1:∀i,i<q→pv i<k) (q2:∀i,q≤i→i<out.length→k<pv i)
def oth(p:Int)(n:Nat)(out:Mx)(u:List Int)(k i:Nat):List Int:=vZ p n (out.getD i []) (p-at0 (out.getD i []) k) u
def sT(p:Int)(n:Nat)(out:Mx)(u:List Int)(k q i:Nat):List Int:=if i<q then oth p n out u k i else if i=q then u else oth p n out u k (i-1)
def zXh(pv:Nat→Nat)(k q i:Nat):Nat:=if i<q then pv i else if i=q then k else pv (i-1)
 include hp h hu hk u1 ul up hq q1 q2
theorem zO8(hj:j<n):at0 (oth p n out u k i) j=(at0 (out.getD i []) j-at0 (out.getD i []) k*at0 u j)%p:=by have _:=hp;have _:=h;have _:=hu;have _:=hk;have _:=u1;have _:=ul;have _:=up;have _:=hq;have _:=q1;have _:=q2;rw[oth,vZ,yA hj,show at0 (out.getD i []) j+(p-at0 (out.getD i []) k)*at0 u j=at0 (out.getD i []) j-at0 (out.getD i []) k*at0 u j+p*at0 u j from by grind,G9]
theorem zFo(hi:i<out.length)(hj:j<n)(hz:at0 (out.getD i []) k=0∨at0 u j=0):at0 (oth p n out u k i) j=ent out i j:=by
 rw[zO8 hp h hu hk u1 ul up hq q1 q2 hj];have:=(h.row i hi).2 j hj;have e:at0 (out.getD i []) k*at0 u j=0:=by grind
 rw[e,Jcd];exact Jw this.1 (by omega)
theorem yCl:at0 (oth p n out u k i) k=0:=by rw[zO8 hp h hu hk u1 ul up hq q1 q2 hk,u1,Ls,Int.sub_self];rfl
theorem zXi(hi:i<out.length)(hj:j<pv i)(gg:pv i≠k):at0 (oth p n out u k i) j=0:=by
 have gH:=h.lt i hi;rcases Jg (pv i) k with g|g
 ·rw[zFo hp h hu hk u1 ul up hq q1 q2 hi (by omega) (by grind)];exact h.low i hi j hj
 ·have:=h.low i hi k (by omega)
  rw[zFo hp h hu hk u1 ul up hq q1 q2 hi (by omega) (.inl this)];exact h.low i hi j hj
theorem yCm(hi:i<out.length):pv i≠k:=by have _:=hp;have _:=h;have _:=hu;have _:=hk;have _:=ul;have _:=hq;have _:=q1;have _:=q2;grind
theorem zKc(hi:i<out.length+1):(i=q∧sT p n out u k q i=u∧zXh pv k q i=k)∨ ∃a,a<out.length∧(i<q∧a=i∨q<i∧i=a+1)∧sT p n out u k q i=oth p n out u k a∧zXh pv k q i=pv a:=by
 have _:=hp;have _:=h;have _:=hu;have _:=hk;have _:=u1;have _:=ul;have _:=up;have _:=q1;have _:=q2;unfold sT zXh
 grind
theorem zO9:Red p n (mkR (out.length+1) (sT p n out u k q)) (zXh pv k q):=by
 have nc:=fun i hi=>zKc hp h hu hk u1 ul up hq q1 q2 (i:=i) hi
 have pn:=fun i hi=>yCm hp h hu hk u1 ul up hq q1 q2 (i:=i) hi
 refine⟨fun i hi=>?_,fun i hi=>?_,fun i hi=>?_,fun i hi j hj=>?_,fun i j hi hj gg=>?_,fun i j gR hj=>?_⟩<;>rw[sP]at*
 ·rw[zAc hi]
  rcases nc i hi with⟨_,e,_⟩|⟨a,_,_,e,_⟩<;>rw[e]
  ·exact hu
  ·exact zAm hp
 ·rcases nc i hi with⟨_,_,e⟩|⟨a,ha,_,_,e⟩<;>rw[e]
  ·exact hk
  ·exact h.lt a ha
 ·rw[zFm hi]
  rcases nc i hi with⟨_,e1,e2⟩|⟨a,ha,_,e1,e2⟩<;>rw[e1,e2]
  ·exact u1
  ·rw[zFo hp h hu hk u1 ul up hq q1 q2 ha (h.lt a ha) (.inr (up a ha))];exact h.one a ha
 ·rw[zFm hi]
  rcases nc i hi with⟨_,e1,e2⟩|⟨a,ha,_,e1,e2⟩<;>rw[e2]at hj<;>rw[e1]
  ·grind
  ·exact zXi hp h hu hk u1 ul up hq q1 q2 ha hj (pn a ha)
 ·rw[zFm hj]
  rcases nc i hi with⟨g1,_,e2⟩|⟨a,ha,ga,_,e2⟩<;>rw[e2]<;>rcases nc j hj with⟨g3,e3,_⟩|⟨b,hb,gb,e3,_⟩<;>rw[e3]
  ·omega
  ·exact yCl hp h hu hk u1 ul up hq q1 q2
  ·grind
  ·rw[zFo hp h hu hk u1 ul up hq q1 q2 hb (h.lt a ha) (.inr (up a ha))]
   exact h.off a b ha hb (by omega)
 ·rcases nc i (by omega)with⟨g1,_,e2⟩|⟨a,ha,ga,_,e2⟩<;>rw[e2]<;>rcases nc j hj with⟨g3,_,e4⟩|⟨b,hb,gb,_,e4⟩<;>rw[e4]
  ·omega
  ·grind
  ·grind
  ·exact h.mono a b (by omega) hb
theorem zR7:(∀i,i<out.length+1→Sp p n (out++[u]) (sT p n out u k q i))∧(∀i,i<out.length→Sp p n (mkR (out.length+1) (sT p n out u k q)) (out.getD i []))∧Sp p n (mkR (out.length+1) (sT p n out u k q)) u:=by
 have fC:Sp p n (out++[u]) u:=by
  have:=qG (p:=p) (n:=n) (R:=out++[u]) (i:=out.length) (by simp)
  grind
 have hol:∀i,i<out.length→Sp p n (out++[u]) (out.getD i []):=fun i hi=>by
  have:=qG (p:=p) (n:=n) (R:=out++[u]) (i:=i) (by simp;omega)
  grind
 have hoth:∀i,i<out.length→Sp p n (out++[u]) (oth p n out u k i):=fun i hi=>
  zAN (k:=p-at0 (out.getD i []) k) (hol i hi) fC (by grind[oth,vZ,yA,K1])
 have tx:Sp p n (mkR (out.length+1) (sT p n out u k q)) u:=by have:=zCn (p:=p) (n:=n) (m:=out.length+1) (F:=sT p n out u k q) (i:=q) (by omega);rw[show sT p n out u k q q=u from by unfold sT;simp]at this;exact this
 refine⟨fun i hi=>?_,fun i hi=>?_,tx⟩
 ·rcases zKc hp h hu hk u1 ul up hq q1 q2 hi with⟨_,e,_⟩|⟨a,ha,_,e,_⟩<;>rw[e]
  all_goals grind
 ·have fX:∃b,b<out.length+1∧sT p n out u k q b=oth p n out u k i:=by
   rcases Jg i q with g|g
   ·exact⟨i,by omega,by unfold sT;grind⟩
   ·exact⟨i+1,by omega,by unfold sT;grind⟩
  obtain⟨b,hb,e⟩:=fX;have h1:=zCn (p:=p) (n:=n) (m:=out.length+1) (F:=sT p n out u k q) hb;rw[e]at h1;refine zAN (k:=at0 (out.getD i []) k) h1 tx fun j hj=>?_
  rw[zO8 hp h hu hk u1 ul up hq q1 q2 hj,K9,K1,←K9,show at0 (out.getD i []) j-at0 (out.getD i []) k*at0 u j+at0 (out.getD i []) k*at0 u j=at0 (out.getD i []) j from by omega]
theorem zMN(hn:n≤100000)(hm:out.length≤100000){x:Int}:
  ((zI (zJw p (out,x) (k:Int) u) ([],iI,0)).bind fun r32=>cond (!r32.2) ((xS r32.1 [u]).bind fun v33=>iF v33) (iF r32.1))=iF (mkR (out.length+1) (sT p n out u k q)):=by
 have _:=u1;have _:=ul;have _:=up;have h7:=hp.pos;have ho:∀i,i<out.length→f_A p (out.getD i []) (p-at0 (out.getD i []) k) u=iF (oth p n out u k i)∧ixO (out.getD i []) (k:Int)=iF (at0 (out.getD i []) k)∧0≤at0 (out.getD i []) k∧at0 (out.getD i []) k≤p-1∧f_E (out.getD i [])=iF (pv i:Int):=fun i hi=>by have hr:=h.row i hi;have fV:=hr.2 k hk;have gx:=h.one i hi;have fT:=h.low i hi;simp only[ent]at gx fT;exact⟨by rw[tY hp hr hu (by omega) (by omega)];rfl,yQ (by rw[hr.1];exact hk),fV.1,fV.2,zHb hr.1 (by omega) (h.lt i hi) fT (by omega)⟩
 have hsn:∀{m:Nat}{F:Nat→List Int},mkR m F++[F m]=mkR (m+1) F:=by grind[mkR,L7]
 have:=zX (body:=zJw p (out,x) (k:Int) u) (r:=(if out.length≤q then(mkR out.length (sT p n out u k q),iI)else(mkR (out.length+1) (sT p n out u k q),iH)))
  (fun j=>if j≤q then(mkR j (sT p n out u k q),iI,(j:Int))else(mkR (j+1) (sT p n out u k q),iH,(j:Int))) out.length (fun j hj=>by
   obtain⟨a1,a2,a3,a4,a5⟩:=ho j hj;have dL:rng (p-at0 (out.getD j []) k)=iF (p-at0 (out.getD j []) k):=by grind[zE]
   rcases Jaw j q with g|g|g
   ·have ae:=q1 j g
    rw[if_pos (by omega),if_pos (by omega)];unfold zJw;simp only
    rw[yT hj,zM,K7,zM,yO [] hj];simp only[bs,a5];rw[iJ (by omega),zQ,a2];simp only[bs,dL,a1];rw[yI (by rw[sP];simp;omega),bs,zE (by omega) (by omega),bs,cs];have:sT p n out u k q j=oth p n out u k j:=by unfold sT;grind
    grind
   ·subst g
    have ae:=q2 j (Jh _) hj;rw[if_pos (by omega),if_neg (by omega)];unfold zJw;simp only
    rw[yT hj,zM,K7,zM,yO [] hj];simp only[bs,a5];rw[iL (by omega),zM,yI (by rw[sP];simp;omega),a2];simp only[bs,dL,a1];have e1:sT p n out u k j j=u:=by unfold sT;simp
    have e2:sT p n out u k j (j+1)=oth p n out u k j:=by unfold sT;grind
    have e3:mkR j (sT p n out u k j)++[u]=mkR (j+1) (sT p n out u k j):=by grind
    rw[e3,yI (by rw[sP];simp;omega),bs,zE (by omega) (by omega),bs,cs,←e2,hsn]
   ·rw[if_neg (by omega),if_neg (by omega)]
    unfold zJw;simp only
    rw[yT hj,zM,Ji,zQ,yO [] hj];simp only[bs,a2,dL,a1];have e2:sT p n out u k q (j+1)=oth p n out u k j:=by unfold sT;rw[if_neg (by omega),if_neg (by omega)];rfl
    rw[yI (by rw[sP];simp;omega),bs,zE (by omega) (by omega),bs,cs,←e2,hsn]) (by
   by_cases g:out.length≤q
   ·rw[if_pos g,if_pos g]
    unfold zJw;simp
   ·rw[if_neg g,if_neg g]
    unfold zJw;simp)
 rw[if_pos (Ka _),show((0:Nat):Int)=0 from rfl,show mkR 0 (sT p n out u k q)=[]from rfl]at this;rw[this,bs]
 by_cases g:out.length≤q
 ·have e1:sT p n out u k q out.length=u:=by unfold sT;grind
  rw[if_pos g];simp only
  rw[K7,zM,yI (by rw[sP];simp;omega),bs]
  grind
 grind
end
end Go.Pl
